import PyProof.Rows.All
import HandS.ForMost
import HandS.Zip
import HandS.Iter
import KE.GoesEnum
import Wide.All
import OpenK.AllK
import Wide.FinOn
import KE.DataEq
import KE.DataCmp
import KE.DataMinMax
import KE.SortData
import HandS.TupAny
import HandS.Style
import HandS.Deep
import HandS.TupLen
import HandS.IsInst
import HandS.More
import HandS.AnyAll
import HandS.Property
import HandS.HeadWalk
import HandS.DictComp
import HandS.GenList
import HandS.Set
import HandS.SetTxt0
import HandS.Small
import HandS.Defaults
import HandS.HeadHook4
import HandS.HeadEnd
import HandS.Head2
import PySem.Challenge.RW_onebests_k02_lower_arguments
section
set_option Elab.async false
set_option linter.all false
set_option maxRecDepth 100000
set_option maxHeartbeats 2000000
/-! enumerate of a list or a tuple. -/
namespace Rf
open PySem PySem.Spec PyProof.Rows L2
theorem enum_new1 {v : Value} {o : Obj} {Hh : Heap → Prop} (B : Begins v o Hh) :
    Meets (Builtin.«enumerate.__new__» ⟨[.type "enumerate", v], []⟩) (fun _ R s => Hh s.heap ∧
      R (.ok (.ret (.ref (s.heap.push o).objs.size))) { s with heap := (s.heap.push o).push { cls := .type "enumerate", data := .fields #[.none, .bool false, .ref s.heap.objs.size, rawInt 0, .none, .none] } }) :=
  .of_wp fun prog w A R s h => by
    obtain ⟨hp, g, d, tk, os⟩ := s
    obtain ⟨h1, h⟩ := h
    have hsub := sub_enumerate
    have q1 : ∀ {A' : Around} {E : Value → Shared → Prop} {Q : Value → Shared → Prop}, Q (.ref hp.objs.size) ⟨hp.push o, g, d, tk, os⟩ → wpAny (model prog w) A' (pyIter v) Q E ⟨hp, g, d, tk, os⟩ :=
      fun q => B.iter prog w _ _ ⟨hp, g, d, tk, os⟩ _ h1 q
    wp_walk using q1
    refine wpAny_stack_any fun st => wpAny_pure ?_
    split
    · rename_i c _ _ _ _ _
      cases (c == Value.type "enumerate")
      · wp_walk using q1
        exact ⟨_, rfl, h⟩
      · wp_walk using q1
        exact ⟨_, rfl, h⟩
    · wp_walk using q1
      exact ⟨_, rfl, h⟩
section
variable {prog : Program} {w : World} {A : Around} {E : Value → Shared → Prop} {s : Shared}
theorem enum_call1 {v : Value} {o : Obj} {Hh : Heap → Prop} {Q : Value → Shared → Prop} (B : Begins v o Hh) (h1 : Hh s.heap)
    (h : ∀ h', IsEnum h' (s.heap.objs.size + 1) s.heap.objs.size 0 .none → h'.get? s.heap.objs.size = some o → h'.objs.size = s.heap.objs.size + 2 →
      (∀ b o, s.heap.get? b = some o → h'.get? b = some o) → Q (.ref (s.heap.objs.size + 1)) { s with heap := h' }) :
    wpAny (model prog w) A (call (.type "enumerate") [v]) Q E s := by
  refine callType_new F.called_enumerate (by decide) (F.typeCall_enumerate_1 _) (F.newCall_enumerate_1 _) (fun obj => F.args_object_init_2 obj _) F.entry_enumerate_new (enum_new1 B) ⟨h1, ?_⟩
  have hz : (s.heap.push o).objs.size = s.heap.objs.size + 1 := Heap.size_push ..
  show _ ∧ _
  rw [hz]
  have he : IsEnum ((s.heap.push o).push { cls := .type "enumerate", data := .fields #[.none, .bool false, .ref s.heap.objs.size, rawInt 0, .none, .none] }) (s.heap.objs.size + 1) s.heap.objs.size 0 .none := by
    have := Heap.get?_push_size (s.heap.push o) (o := { cls := .type "enumerate", data := .fields #[.none, .bool false, .ref s.heap.objs.size, rawInt 0, .none, .none] }) rfl
    rw [hz] at this
    exact this
  exact ⟨⟨_, he, rfl⟩, h _ he (Heap.get?_push_of_some _ (Heap.get?_push_size _ B.free)) (by rw [Heap.size_push, hz]) fun b o x => Heap.get?_push_of_some _ (Heap.get?_push_of_some _ x)⟩
end
/-- the tuple at a as it stands at each turn, each item in a new pair -/
def IteT (K : PySem.W.Frag) (a : Addr) : It :=
  ⟨fun i H => ∃ (xs : List V) (x : V), SqT K H a xs ∧ xs[i]? = some x, fun i H v H' => ∃ T x, v = .ref T ∧ H T = none ∧ H' = upd H T (.tup [.int (i : Nat), x]) ∧ ∀ xs, SqT K H a xs → xs[i]? = some x, fun i H => ∃ xs : List V, SqT K H a xs ∧ xs.length ≤ i⟩
theorem turn_enumT {P : Program} {w : World} {K : PySem.W.Frag} {elts : List Expr} {kk : Nat} {tpos : Pos} (a e it : Addr) :
    Turn P w K (.Tuple elts kk tpos) (IteT K a) [e, it] e (fun i h => (∃ old, IsEnum h e it ((i : Nat) : Int) old) ∧ h.IsTupleIter it a i ∧ e ≠ it ∧ a ≠ it ∧ e ≠ a) where
  mem := by simp
  obj := fun i h st b hb => by
    obtain ⟨⟨old, he⟩, ⟨o, ho, hc, hd⟩, _⟩ := st
    have e' : b = e ∨ b = it := by simpa using hb
    rcases e' with z | z
    · rw [z]; exact ⟨_, he, fun v q => nomatch q⟩
    · rw [z]; exact ⟨o, ho, fun v q => by rw [hd] at q; cases q⟩
  keep := fun i h h' st k => let ⟨⟨old, he⟩, hi, hne⟩ := st; ⟨⟨old, k e (by simp) _ he⟩, hi.at fun o q => k it (by simp) o q, hne⟩
  item := by
    intro X hP hw hK hc i pins s σ H E I hf st hg
    subst hP hw hK
    obtain ⟨⟨old, he⟩, hit, hne, hai, hea⟩ := st
    obtain ⟨xs, x, hq, hx⟩ := hg
    obtain ⟨its, rv, p, hz⟩ := I.tuple hq
    obtain ⟨u, hu, ru⟩ := rv.get hx
    have hel : e < s.heap.objs.size := Heap.lt_size he
    have hil : it < s.heap.objs.size := by obtain ⟨_, q, _⟩ := hit; exact Heap.lt_size q
    have hlt : i < its.toArray.size := by
      obtain ⟨q, _⟩ := List.getElem?_eq_some_iff.mp hu
      simpa using q
    have hH1 : X.A.in1.handled = none := by
      show X.A.handled = none
      exact I.ok.hd hc
    have D := Draws.tuple (prog := X.prog) (w := X.w) (A := X.A.in1) hH1 it a hai its.toArray
    refine wpAny_pyNext_enum_itemD (old := old) D he ⟨hit, p⟩ hlt hne (by simp [hne, hea]) fun x' h' tk hx' ho hst' hT hsz hk => ?_
    have ex : u = x' := by
      have : its.toArray[i]? = some x' := hx'
      simp at this
      rw [hu] at this
      exact Option.some.inj this
    subst ex
    refine ⟨_, rfl, wpAny_letOwnedTupleGo_enum (s := { s with heap := h', toks := tk + 1 }) ho fun h'' he' sb => ?_⟩
    have hT2 : h''.get? s.heap.objs.size = some { cls := .type "tuple", data := .seq #[.int i tk, u] } := (sb.2 _ (Nat.ne_of_gt hel)).trans hT
    have new : ObjOk X.prog X.w (upd H s.heap.objs.size (.tup [.int (i : Nat), x])) h'' s.heap.objs.size (.tup [.int (i : Nat), x]) :=
      ⟨by show 2 ≤ sizeLine; decide, [.int i tk, u], .cons ⟨_, rfl⟩ (.cons ru .nil), ⟨_, hT2, rfl, _, rfl⟩⟩
    have I1 : L2.Inv X pins σ (upd H s.heap.objs.size (.tup [.int (i : Nat), x])) { s with heap := h'', toks := tk + 1 } :=
      I.turnedNew (ch := [e, it]) (fun b ob hb q => (sb.2 b (fun z => hb (by simp [z]))).trans (hk b ob (fun z => hb (by simp [z])) (fun z => hb (by simp [z])) q)) hf (Nat.le_refl _) new
    refine ⟨.ref s.heap.objs.size, _, I1, rfl, ⟨_, x, rfl, I.hok.fresh (Nat.le_refl _), rfl, fun ys hy => by rw [I.tuple_inj hy hq]; exact hx⟩, ⟨⟨u, ?_⟩, hst'.1.at fun o q => (sb.2 it (Ne.symm hne)).trans q, hne, hai, hea⟩, fun b hb => ?_⟩
    · have e1 : ((i + 1 : Nat) : Int) = (i : Int) + 1 := by omega
      rw [e1]; exact he'
    · have hb' : b < s.heap.objs.size := by
        have e' : b = e ∨ b = it := by simpa using hb
        rcases e' with z | z
        · rw [z]; exact hel
        · rw [z]; exact hil
      rw [upd_ne (Nat.ne_of_lt hb')]
      exact (hf b hb).1
  done := by
    intro X hP hw hK hc i pins s σ H E I hf st hg
    subst hP hw hK
    obtain ⟨⟨old, he⟩, hit, hne, hai, hea⟩ := st
    obtain ⟨xs, hq, hx⟩ := hg
    obtain ⟨its, rv, p, hz⟩ := I.tuple hq
    obtain ⟨f0, f1, f2, f3, f4, f5⟩ := hf it (by simp)
    have hl := rv.length
    have hH1 : X.A.in1.handled = none := by
      show X.A.handled = none
      exact I.ok.hd hc
    unfold pyNext
    have hT : s.TypeIs (.ref e) "enumerate" := ⟨_, he, rfl⟩
    refine wpAny_bind (wpAny_attempt (wpAny_callSpecial?_slot (name := Str.ofString "__next__") hT F.slot_enumerate_next
      (wpAny_call_entry F.slot_enumerate_next hT F.entry_enumerate_next ?_ (F.args_enumerate_next_1 _))))
    show wpAny _ _ (field (.ref e) 2 >>= _) _ _ _
    refine wpAny_bind (wpAny_field he rfl (x := .ref it) rfl ?_)
    refine wpAny_bind (wpAny_nextOf_tuple_end hH1 hit p (by simp; omega) fun h' x he' hx' => ?_)
    obtain ⟨o, ho, hcl⟩ := hx'
    refine wpAny_bind (wpAny_isInstance (T := "StopIteration") (b := true) ⟨o, ho, hcl⟩ isSubtype_stop ?_)
    exact wpAny_pure ⟨rfl, I.turned (t' := s.toks) (fun b o hb q => he' b o hb q) f0 f1 f3 f4 f5⟩
  self := fun A i s Q E st h => let ⟨⟨_, he⟩, _⟩ := st; wpAny_pyIter_enum he h
def iEnumA (K : PySem.W.Frag) (ta : TA) : TI := fun σ H R => ta σ H fun vs H1 => ∃ a xs, vs = [.ref a] ∧ ((SqL K H1 a xs ∧ R (Ite K a) H1) ∨ (SqT K H1 a xs ∧ R (IteT K a) H1))
theorem pi_enumA {X : Cx} {e : Expr} {ta : TA} {p pos tpos : Pos} {elts : List Expr} {kk : Nat} (hg : Gl X "enumerate") (hm : X.mg "enumerate" = none) (ha : PA X [e] ta) (hs : starEach [e] X.env = [(false, eval e X.env)] := by rfl) :
    PI X (.Tuple elts kk tpos) (.Call (.Name "enumerate" p) [e] [] pos) (iEnumA X.K ta) := by
  refine ⟨fun pins s σ H R I h => ?_⟩
  refine Call_ (ld_blt I hg hm boot_enumerate (PyProof.Rows.callWith_type1 (thn (ha.run pos pins s σ H _ I h) fun us s1 ⟨vs, H1, I1, r1, q1⟩ => ?_) hs rfl))
  obtain ⟨a, xs, ex, q1⟩ := q1
  subst ex
  cases r1 with
  | cons r rr =>
    cases rr
    cases r
    have two : ∀ (H1 : Hp) (h' : Heap), (∀ b, b ∈ [s1.heap.objs.size + 1, s1.heap.objs.size] → s1.heap.objs.size ≤ b) := fun _ _ b hb => by
      have e' : b = s1.heap.objs.size + 1 ∨ b = s1.heap.objs.size := by simpa using hb
      rcases e' with z | z
      · rw [z]; exact Nat.le_add_right _ _
      · rw [z]; exact Nat.le_refl _
    rcases q1 with ⟨hq, q⟩ | ⟨hq, q⟩
    · obtain ⟨its, rv, p', hz⟩ := I1.list hq
      refine call_enumerate_list p'.isList fun h' he hit hsz hk => wpAny_pyIter_enum he ?_
      have I2 : L2.Inv X pins σ H1 { s1 with heap := h' } := I1.kept (t' := s1.toks) hk
      exact ⟨s1.heap.objs.size + 1, [s1.heap.objs.size + 1, s1.heap.objs.size], _, _, H1, rfl, I2, turn_enum a (s1.heap.objs.size + 1) s1.heap.objs.size, ⟨⟨.none, he⟩, hit, Nat.succ_ne_self _⟩, fun b hb => I1.fpOk (two H1 h' b hb) (I1.hok.fresh (two H1 h' b hb)), q⟩
    · obtain ⟨its, rv, p', hz⟩ := I1.tuple hq
      have hal : a < s1.heap.objs.size := let ⟨o, ho, _⟩ := id p'; Heap.lt_size ho
      refine enum_call1 (begins_tuple a its.toArray) p' fun h' he hit hsz hk => wpAny_pyIter_enum he ?_
      have I2 : L2.Inv X pins σ H1 { s1 with heap := h' } := I1.kept (t' := s1.toks) hk
      exact ⟨s1.heap.objs.size + 1, [s1.heap.objs.size + 1, s1.heap.objs.size], _, _, H1, rfl, I2, turn_enumT a (s1.heap.objs.size + 1) s1.heap.objs.size, ⟨⟨.none, he⟩, ⟨_, hit, rfl, rfl⟩, Nat.succ_ne_self _, Nat.ne_of_lt hal, Nat.ne_of_gt (Nat.lt_succ_of_lt hal)⟩, fun b hb => I1.fpOk (two H1 h' b hb) (I1.hok.fresh (two H1 h' b hb)), q⟩
end Rf
end

section
set_option Elab.async false
set_option linter.all false
set_option maxRecDepth 100000
/-! Plain data D, a small language for the subset of Python that the programs use, and its evaluator. -/
namespace Rf
open PySem L2

inductive D where
  | non | bl (b : Bool) | int (i : Int) | str (x : Str)
  | tup (xs : List D) | lst (xs : List D)
  | dk (kvs : List (Key × D)) | dt (kvs : List (List Key × D))
  | ins (C : Str) (fs : List (Str × D))
  | fn (f : Str)
  deriving Inhabited

/-! ### data without objects and dicts -/
def oall {α : Type} : List (Option α) → Option (List α)
  | [] => some []
  | none :: _ => none
  | some x :: r => (oall r).map (x :: ·)
def pyN : Nat → D → Option PyData
  | 0, _ => none
  | n + 1, d => match d with
    | .non => some .none
    | .bl b => some (.bool b)
    | .int i => some (.int i)
    | .str x => some (.str x)
    | .tup xs => (oall (xs.map (pyN n))).map .tuple
    | .lst xs => (oall (xs.map (pyN n))).map .list
    | _ => none
abbrev py (d : D) : Option PyData := pyN 40 d
abbrev pys (ds : List D) : Option (List PyData) := oall (ds.map (pyN 39))
def deq (a b : D) : Option Bool := match py a, py b with
  | some x, some y => some (PyData.eqv x y)
  | _, _ => none
def notN : PyData → Bool
  | .none => false
  | _ => true
/-- both can be ordered: of one shape -/
def dord (a b : D) : Option (PyData × PyData) := match py a, py b with
  | some x, some y => if W.alike x y = true ∧ notN x = true then some (x, y) else none
  | _, _ => none
def kOf : D → Option Key
  | .int i => some (.inl i)
  | .str x => some (.inr x)
  | _ => none
def kD : Key → D
  | .inl i => .int i
  | .inr x => .str x
def ksOf : D → Option (List Key)
  | .tup xs => oall (xs.map kOf)
  | _ => none
def valD {κ : Type} [DecidableEq κ] (kvs : List (κ × D)) (k : κ) : Option D := (kvs.find? fun kv => decide (kv.1 = k)).map (·.2)
def putD {κ : Type} [DecidableEq κ] (kvs : List (κ × D)) (k : κ) (v : D) : List (κ × D) :=
  if (kvs.any fun kv => decide (kv.1 = k)) = true then kvs.map fun kv => if kv.1 = k then (kv.1, v) else kv else kvs ++ [(k, v)]
/-- a dict at a key: none where the key is not of the dict's kind -/
def dget (d k : D) : Option (Option D) := match d with
  | .dk kvs => (kOf k).map fun q => valD kvs q
  | .dt kvs => (ksOf k).map fun q => valD kvs q
  | _ => none
def dput (d k v : D) : Option D := match d with
  | .dk kvs => if kvs.length < sizeLine then (kOf k).map fun q => .dk (putD kvs q v) else none
  | .dt kvs => if kvs.length < sizeLine then (ksOf k).map fun q => .dt (putD kvs q v) else none
  | _ => none
def strIn (c s : Str) : Bool := !(Builtin.Str.occurrences s c 0 s.length 1).isEmpty
def dcont (x c : D) : Option Bool := match c with
  | .lst xs => match py x, pys xs with
    | some d, some ds => some (ds.any fun z => PyData.eqv z d)
    | _, _ => none
  | .tup xs => match py x, pys xs with
    | some d, some ds => some (ds.any fun z => PyData.eqv z d)
    | _, _ => none
  | .str s => match x with
    | .str c => some (strIn c s)
    | _ => none
  | .dk _ | .dt _ => (dget c x).map (·.isSome)
  | _ => none
def didx (a i : D) : Option D := match a with
  | .lst xs => match i with
    | .int j => atI xs j
    | _ => none
  | .tup xs => match i with
    | .int j => atI xs j
    | _ => none
  | .str s => match i with
    | .int j => if s.length ≤ sizeLine then (atI s.cps.toList j).map fun c => .str ⟨#[c]⟩ else none
    | _ => none
  | .dk _ | .dt _ => (dget a i).join
  | _ => none
def cutD {α : Type} (xs : List α) (lo hi : Option Int) : List α := (xs.drop (HT.sIx xs.length 0 lo)).take (HT.sIx xs.length xs.length hi - HT.sIx xs.length 0 lo)
def dslc (a : D) (lo hi : Option Int) : Option D := match a with
  | .lst xs => some (.lst (cutD xs lo hi))
  | .tup xs => some (.tup (cutD xs lo hi))
  | _ => none
inductive BOp where | add | sub | mul | mod | fdiv | pow
  deriving DecidableEq
inductive COp where | eq | ne | lt | le | gt | ge | is | nis | in_ | nin
  deriving DecidableEq
def mulOk (i j : Int) : Bool := (decide (-(2 ^ 64) < i) && decide (i < 2 ^ 64)) || (decide (-(2 ^ 64) < j) && decide (j < 2 ^ 64))
def dbin (op : BOp) (a b : D) : Option D := match op with
  | .add => match a, b with
    | .int i, .int j => some (.int (i + j))
    | .str x, .str y => if x.length + y.length ≤ sizeLine then some (.str (x ++ y)) else none
    | .lst xs, .lst ys => if xs.length + ys.length ≤ sizeLine then some (.lst (xs ++ ys)) else none
    | .tup xs, .tup ys => if xs.length + ys.length ≤ sizeLine then some (.tup (xs ++ ys)) else none
    | _, _ => none
  | .sub => match a, b with
    | .int i, .int j => some (.int (i - j))
    | _, _ => none
  | .mul => match a, b with
    | .int i, .int j => if mulOk i j then some (.int (i * j)) else none
    | _, _ => none
  | .mod => match a, b with
    | .int i, .int j => if 0 < j then some (.int (i % j)) else none
    | _, _ => none
  | .fdiv => match a, b with
    | .int i, .int j => if 0 < j ∧ j < 1073741824 then some (.int (i / j)) else none
    | _, _ => none
  | .pow => match a, b with
    | .int i, .int j => if 0 ≤ j ∧ j ≤ 1000 ∧ i.natAbs < 2 ^ 64 then some (.int (i ^ j.toNat)) else none
    | _, _ => none
def isN : D → Bool
  | .non => true
  | _ => false
def dis (a b : D) : Option Bool := match b with
  | .non => some (isN a)
  | .bl c => match a with
    | .bl d => some (d == c)
    | _ => none
  | _ => none
def dcmp (op : COp) (a b : D) : Option Bool := match op with
  | .eq => deq a b
  | .ne => (deq a b).map (!·)
  | .lt => (dord a b).map fun p => W.dataLt p.1 p.2
  | .gt => (dord a b).map fun p => W.dataLt p.2 p.1
  | .le => (dord a b).map fun p => !W.dataLt p.2 p.1
  | .ge => (dord a b).map fun p => !W.dataLt p.1 p.2
  | .is => dis a b
  | .nis => (dis a b).map (!·)
  | .in_ => dcont a b
  | .nin => (dcont a b).map (!·)
def fldD (fs : List (Str × D)) (f : Str) : Option D := fs.lookup f
def putFD (f : Str) (v : D) : List (Str × D) → List (Str × D)
  | [] => [(f, v)]
  | (g, x) :: r => if g = f then (g, v) :: r else (g, x) :: putFD f v r

/-! ### built-in functions by values -/
inductive Prim where
  | len | list | tuple | sorted | max | min | sum | int | max2 | min2 | sortset | index
  | isTy (T : String) | isSeq | isCls (C : Str)
  deriving DecidableEq
def dlen : D → Option Nat
  | .lst xs => some xs.length
  | .tup xs => some xs.length
  | .str s => if s.length ≤ sizeLine then some s.length else none
  | .dk kvs => some kvs.length
  | .dt kvs => some kvs.length
  | _ => none
/-- what iter walks, all at once -/
def ditems : D → Option (List D)
  | .lst xs => some xs
  | .tup xs => some xs
  | .str s => if s.length ≤ sizeLine then some (s.cps.toList.map fun c => .str ⟨#[c]⟩) else none
  | _ => none
def pyOr (d : D) : PyData := (pyN 39 d).getD .none
def seqOf : D → Option (List D)
  | .lst xs => some xs
  | .tup xs => some xs
  | _ => none
def tupNe : PyData → Bool
  | .tuple (_ :: _) => true
  | _ => false
def notTup : PyData → Bool
  | .tuple _ => false
  | .none => false
  | _ => true
/-- the data can be sorted: all of one shape, no None, tuples not empty or none -/
def sortOk (xs : List PyData) : Bool := (xs.all fun x => xs.all fun y => W.alike x y) && (xs.all tupNe || xs.all notTup)
def sortD (xs : List D) : Option (List D) := match oall (xs.map (pyN 39)) with
  | some ds => if sortOk ds then some (xs.mergeSort (W.dataLe false pyOr)) else none
  | none => none
def intsOf (xs : List D) : Option (List Int) := oall (xs.map fun | .int i => some i | _ => none)
def strsOf (xs : List D) : Option (List Str) := oall (xs.map fun | .str i => some i | _ => none)
mutual
def ofPy : PyData → D
  | .none => .non
  | .bool b => .bl b
  | .int i => .int i
  | .str x => .str x
  | .list xs => .lst (ofPys xs)
  | .tuple xs => .tup (ofPys xs)
  | .dict _ => .non
def ofPys : List PyData → List D
  | [] => []
  | x :: xs => ofPy x :: ofPys xs
end
def tyN : D → Option String
  | .non => some "NoneType"
  | .bl _ => some "bool"
  | .int _ => some "int"
  | .str _ => some "str"
  | .tup _ => some "tuple"
  | .lst _ => some "list"
  | .dk _ | .dt _ => some "dict"
  | .ins _ _ | .fn _ => none
def isTyD (T : String) (d : D) : Option D := if T == "tuple" || T == "str" || T == "int" || T == "bool" || T == "list" || T == "dict" then (tyN d).map fun t => .bl (t == T || (t == "bool" && T == "int")) else none
/-- the best of a list, by an order -/
def bestOf (f : PyData → List PyData → PyData) (xs : List D) : Option D := match oall (xs.map (pyN 39)) with
  | some (x :: ds) => if sortOk (x :: ds) then some (ofPy (f x ds)) else none
  | _ => none
def d1 (l : List D) (f : D → Option D) : Option D := match l with
  | [d] => f d
  | _ => none
def d2 (l : List D) (f : D → D → Option D) : Option D := match l with
  | [d, e] => f d e
  | _ => none
def dlist : D → Option D
  | .lst xs => some (.lst xs)
  | .tup xs => some (.lst xs)
  | _ => none
def dtuple : D → Option D
  | .lst xs => some (.tup xs)
  | .tup xs => some (.tup xs)
  | _ => none
def onLst (f : List D → Option D) : D → Option D
  | .lst xs => f xs
  | _ => none
def dint : D → Option D
  | .int i => some (.int i)
  | _ => none
def dmax2 (a b : D) : Option D := match a, b with
  | .int i, .int j => some (.int (if j > i then j else i))
  | _, _ => none
def dmin2 (a b : D) : Option D := match a, b with
  | .int i, .int j => some (.int (if j < i then j else i))
  | _, _ => none
def isCls (C : Str) : D → Option D
  | .ins C' _ => if C' = C then some (.bl true) else none
  | _ => none
def lenD (d : D) : Option D := (dlen d).map fun (n : Nat) => D.int (n : Int)
def sumD (xs : List D) : Option D := (intsOf xs).map fun ns => .int ns.sum
/-- the members of a list, each once, sorted: texts -/
def insL (l : List Str) (k : Str) : List Str := if k ∈ l then l else k :: l
def leS (a b : Str) : Bool := decide (a.cps.toList ≤ b.cps.toList)
def sortS (ss : List Str) : List Str := (ss.foldl insL []).mergeSort leS
def sortsetD (xs : List D) : Option D := match strsOf xs with
  | some ss => if ss.length < 4000 then some (.lst ((sortS ss).map .str)) else none
  | none => none
/-- the first place of a text -/
def idxD (xs : List D) (x : D) : Option D := match strsOf xs, x with
  | some ss, .str s => (ss.findIdx? fun z => decide (z = s)).map fun (n : Nat) => .int (n : Int)
  | _, _ => none
def dprim (p : Prim) (l : List D) : Option D := match p with
  | .len => d1 l lenD
  | .list => d1 l dlist
  | .tuple => d1 l dtuple
  | .sorted => d1 l (onLst fun xs => (sortD xs).map .lst)
  | .max => d1 l (onLst (bestOf W.maxD))
  | .min => d1 l (onLst (bestOf W.minD))
  | .sum => d1 l (onLst sumD)
  | .int => d1 l dint
  | .max2 => d2 l dmax2
  | .min2 => d2 l dmin2
  | .sortset => d1 l (onLst sortsetD)
  | .index => d2 l fun a x => onLst (fun xs => idxD xs x) a
  | .isTy T => d1 l (isTyD T)
  | .isSeq => d1 l fun d => (tyN d).map fun t => .bl (t == "tuple" || t == "list")
  | .isCls C => d1 l (isCls C)

/-! ### the language -/
inductive ITg where
  | one (i : Nat) | many (is : List Nat)
  deriving DecidableEq
mutual
inductive IE where
  | var (i : Nat) | cst (d : D) | glb (x : Str) (d : D)
  | bin (op : BOp) (a b : IE) | neg (a : IE)
  | cmp (op : COp) (a b : IE) | chn (o1 o2 : COp) (a b c : IE)
  | not (a : IE) | and (a b : IE) | or (a b : IE) | ife (c a b : IE)
  | tup (l : IEs) | lst (l : IEs) | dd (t : Bool) (l : IPs)
  | idx (a b : IE) | slc (a : IE) (lo hi : IO) | fld (C : Str) (a : IE) (f : Str) | prp (C : Str) (a : IE) (f : Str)
  | call (f : Str) (l : IAs) | mth (C : Str) (a : IE) (m : Str) (l : IAs) | mtho (j : Nat) (C m : Str) (l : IAs) | mk (C : Str) (l : IAs)
  | prm (p : Prim) (l : IEs) | minkey (f : Str) (e : IE)
  | lc (e : IE) (gs : IGs) | dc (t : Bool) (k v : IE) (gs : IGs) | qal (e : IE) (gs : IGs) | qan (e : IE) (gs : IGs)
  | view (sl : List Nat) (e : IE)
inductive IEs where | nil | cons (e : IE) (r : IEs)
inductive IPs where | nil | cons (k v : IE) (r : IPs)
inductive IO where | no | yes (e : IE)
inductive IAs where | nil | fz (e : IE) (r : IAs) | io (j : Nat) (r : IAs)
inductive IGs where | nil | cons (t : ITg) (s : ISrc) (cs : IEs) (r : IGs)
inductive ISrc where | val (e : IE) | rng1 (e : IE) | rng2 (a b : IE) | zip2 (a b : IE) | enum (e : IE) | items (e : IE)
end
/-! what never changes an owned variable -/
mutual
def IE.quiet : IE → Bool
  | .var _ | .cst _ | .glb _ _ => true
  | .bin _ a b | .cmp _ a b | .and a b | .or a b | .idx a b => a.quiet && b.quiet
  | .neg a | .not a | .fld _ a _ | .prp _ a _ | .minkey _ a => a.quiet
  | .chn _ _ a b c | .ife a b c => a.quiet && b.quiet && c.quiet
  | .tup l | .lst l | .prm _ l => l.quiet
  | .dd _ l => l.quiet
  | .slc a lo hi => a.quiet && lo.quiet && hi.quiet
  | .call _ l | .mk _ l => l.quiet
  | .mth _ a _ l => a.quiet && l.quiet
  | .mtho _ _ _ _ => false
  | .lc e gs | .qal e gs | .qan e gs => e.quiet && gs.quiet
  | .dc _ k v gs => k.quiet && v.quiet && gs.quiet
  | .view _ _ => true
def IEs.quiet : IEs → Bool
  | .nil => true
  | .cons e r => e.quiet && r.quiet
def IPs.quiet : IPs → Bool
  | .nil => true
  | .cons k v r => k.quiet && v.quiet && r.quiet
def IO.quiet : IO → Bool
  | .no => true
  | .yes e => e.quiet
def IAs.quiet : IAs → Bool
  | .nil => true
  | .fz e r => e.quiet && r.quiet
  | .io _ _ => false
def IGs.quiet : IGs → Bool
  | .nil => true
  | .cons _ s cs r => s.quiet && cs.quiet && r.quiet
def ISrc.quiet : ISrc → Bool
  | .val e | .rng1 e | .enum e | .items e => e.quiet
  | .rng2 a b | .zip2 a b => a.quiet && b.quiet
end
abbrev Env := List (Option D)
abbrev Om := List (Option D)
abbrev R (α : Type) := Option (α × Om)
@[reducible] def ret {α : Type} (a : α) (ω : Om) : R α := some (a, ω)
def bnd {α β : Type} (r : R α) (f : α → Om → R β) : R β := match r with
  | some (a, ω) => f a ω
  | none => none
theorem bnd_ret {α β : Type} (a : α) (ω : Om) (f : α → Om → R β) : bnd (ret a ω) f = f a ω := rfl
theorem bnd_some {α β : Type} (a : α) (ω : Om) (f : α → Om → R β) : bnd (some (a, ω)) f = f a ω := rfl
theorem bnd_none {α β : Type} (f : α → Om → R β) : bnd none f = none := rfl
theorem of_bnd {α β : Type} {r : R α} {f : α → Om → R β} {x : β × Om} (h : bnd r f = some x) : ∃ a ω, r = some (a, ω) ∧ f a ω = some x := by
  cases r with
  | none => cases h
  | some p => exact ⟨p.1, p.2, rfl, h⟩
/-- from an option: nothing is said where it is none -/
def opt {α : Type} (o : Option α) (ω : Om) : R α := match o with
  | some a => ret a ω
  | none => none
theorem opt_some {α : Type} (a : α) (ω : Om) : opt (some a) ω = ret a ω := rfl
theorem of_opt {α : Type} {o : Option α} {ω ω' : Om} {a : α} (h : opt o ω = some (a, ω')) : o = some a ∧ ω' = ω := by
  cases o with
  | none => cases h
  | some b => cases h; exact ⟨rfl, rfl⟩
inductive AV where | fz (d : D) | io (j : Nat)
def omAt (ω : Om) (j : Nat) : Option D := (ω[j]?).join
def argsOf (ω : Om) : List AV → Option (List D)
  | [] => some []
  | .fz d :: r => (argsOf ω r).map (d :: ·)
  | .io j :: r => match omAt ω j with
    | some d => (argsOf ω r).map (d :: ·)
    | none => none
def iosOf : List AV → List Nat
  | [] => []
  | .fz _ :: r => iosOf r
  | .io j :: r => j :: iosOf r
def wr (ω : Om) : List Nat → List D → Om
  | j :: js, d :: ds => wr (ω.set j (some d)) js ds
  | _, _ => ω
/-- what the functions do: all arguments in order; the result, what the arguments that are handed in and out hold behind it -/
inductive FKey where | fn (f : Str) | mt (C m : Str)
  deriving DecidableEq
abbrev Orc := FKey → List D → Option (D × List D)
def doCall (O : Orc) (f : FKey) (as : List AV) (ω : Om) : R D := match argsOf ω as with
  | none => none
  | some ds => match O f ds with
    | none => none
    | some (r, outs) => some (r, wr ω (iosOf as) outs)
def bindT (t : ITg) (d : D) (ρ : Env) : Option Env := match t with
  | .one i => some (ρ.set i (some d))
  | .many is => match d with
    | .tup xs => if xs.length = is.length then some ((is.zip xs).foldl (fun ρ p => ρ.set p.1 (some p.2)) ρ) else none
    | _ => none
def slotsT : ITg → List Nat
  | .one i => [i]
  | .many is => is
def slotsG : IGs → List Nat
  | .nil => []
  | .cons t _ _ r => slotsT t ++ slotsG r
def wipeE (ρ : Env) : List Nat → Env
  | [] => ρ
  | v :: vs => (wipeE ρ vs).set v none
def gloop (f : D → Om → R (List D)) : List D → Om → R (List D)
  | [], ω => ret [] ω
  | x :: xs, ω => bnd (f x ω) fun l ω1 => bnd (gloop f xs ω1) fun l' ω2 => ret (l ++ l') ω2
def qloop (f : D → Om → R Bool) : List D → Om → R Bool
  | [], ω => ret false ω
  | x :: xs, ω => bnd (f x ω) fun b ω1 => if b then ret true ω1 else qloop f xs ω1
def rngD (lo hi : Int) : Option (List D) :=
  if -(2 ^ 62) ≤ lo ∧ lo < 2 ^ 62 ∧ -(2 ^ 62) ≤ hi ∧ hi < 2 ^ 62 ∧ hi - lo ≤ sizeLine then some ((List.range (hi - lo).toNat).map fun (k : Nat) => .int (lo + k)) else none
def zipP (xs ys : List D) : List D := (xs.zip ys).map fun p => .tup [p.1, p.2]
def zipD (a b : D) : Option (List D) := match a, b with
  | .lst xs, .lst ys => some (zipP xs ys)
  | .tup xs, .tup ys => some (zipP xs ys)
  | _, _ => none
def enumP (xs : List D) : List D := xs.zipIdx.map fun p => .tup [.int (p.2 : Nat), p.1]
def enumD (a : D) : Option (List D) := match a with
  | .lst xs => some (enumP xs)
  | .tup xs => some (enumP xs)
  | _ => none
def itemsD (a : D) : Option (List D) := match a with
  | .dk kvs => some (kvs.map fun p => .tup [kD p.1, p.2])
  | .dt kvs => some (kvs.map fun p => .tup [.tup (p.1.map kD), p.2])
  | _ => none
mutual
def flatD : D → Bool
  | .tup xs => flatDs xs
  | .non | .bl _ | .int _ | .str _ => true
  | _ => false
def flatDs : List D → Bool
  | [] => true
  | x :: xs => flatD x && flatDs xs
end
/-- what can be kept of an expression that looks at lists and dicts that are still changed -/
def viewOk (d : D) : Bool := flatD d
/-- the environment with the owned variables as they are -/
def viewE (ρ : Env) (ω : Om) : List Nat → Nat → Env
  | [], _ => ρ
  | i :: r, j => match omAt ω j with
    | some d => (viewE ρ ω r (j + 1)).set i (some d)
    | none => viewE ρ ω r (j + 1)
def dstep (acc : Option D) (p : D) : Option D := acc.bind fun d => match p with
  | .tup [k, v] => dput d k v
  | _ => none
/-- a dict from pairs, by kind of its keys -/
def dmake (t : Bool) (l : List D) : Option D := l.foldl dstep (some (if t then .dt [] else .dk []))
def minKey (ks xs : List D) : Option D := match oall (ks.map (pyN 39)), xs, ks with
  | some ds, x :: xs, k :: ks => if sortOk ds then some ((xs.zip ks).foldl (fun a p => if W.dataLt (pyOr p.2) (pyOr a.2) then p else a) (x, k)).1 else none
  | _, _, _ => none
variable (O : Orc) in
mutual
def ev : IE → Env → Om → R D
  | .var i, ρ, ω => opt (omAt ρ i) ω
  | .cst d, _, ω => ret d ω
  | .glb _ d, _, ω => ret d ω
  | .bin op a b, ρ, ω => bnd (ev a ρ ω) fun x ω1 => bnd (ev b ρ ω1) fun y ω2 => opt (dbin op x y) ω2
  | .neg a, ρ, ω => bnd (ev a ρ ω) fun x ω1 => match x with
    | .int i => ret (.int (-i)) ω1
    | _ => none
  | .cmp op a b, ρ, ω => bnd (ev a ρ ω) fun x ω1 => bnd (ev b ρ ω1) fun y ω2 => opt ((dcmp op x y).map .bl) ω2
  | .chn o1 o2 a b c, ρ, ω => bnd (ev a ρ ω) fun x ω1 => bnd (ev b ρ ω1) fun y ω2 => bnd (opt (dcmp o1 x y) ω2) fun k ω3 =>
    if k then bnd (ev c ρ ω3) fun z ω4 => opt ((dcmp o2 y z).map .bl) ω4 else ret (.bl false) ω3
  | .not a, ρ, ω => bnd (ev a ρ ω) fun x ω1 => match x with
    | .bl b => ret (.bl (!b)) ω1
    | _ => none
  | .and a b, ρ, ω => bnd (ev a ρ ω) fun x ω1 => match x with
    | .bl true => ev b ρ ω1
    | .bl false => ret (.bl false) ω1
    | _ => none
  | .or a b, ρ, ω => bnd (ev a ρ ω) fun x ω1 => match x with
    | .bl false => ev b ρ ω1
    | .bl true => ret (.bl true) ω1
    | _ => none
  | .ife c a b, ρ, ω => bnd (ev c ρ ω) fun x ω1 => match x with
    | .bl true => ev a ρ ω1
    | .bl false => ev b ρ ω1
    | _ => none
  | .tup l, ρ, ω => bnd (evs l ρ ω) fun ds ω1 => if ds.length ≤ sizeLine then ret (.tup ds) ω1 else none
  | .lst l, ρ, ω => bnd (evs l ρ ω) fun ds ω1 => if ds.length ≤ sizeLine then ret (.lst ds) ω1 else none
  | .dd t l, ρ, ω => bnd (evp l ρ ω) fun l ω1 => opt (dmake t l) ω1
  | .idx a b, ρ, ω => bnd (ev a ρ ω) fun x ω1 => bnd (ev b ρ ω1) fun y ω2 => opt (didx x y) ω2
  | .slc a lo hi, ρ, ω => bnd (ev a ρ ω) fun x ω1 => bnd (evo lo ρ ω1) fun l ω2 => bnd (evo hi ρ ω2) fun h ω3 => opt (dslc x l h) ω3
  | .fld C a f, ρ, ω => bnd (ev a ρ ω) fun x ω1 => match x with
    | .ins C' fs => if C' = C then opt (fs.lookup f) ω1 else none
    | _ => none
  | .prp C a f, ρ, ω => bnd (ev a ρ ω) fun x ω1 => match x with
    | .ins C' fs => if C' = C then doCall O (.mt C f) [.fz x] ω1 else none
    | _ => none
  | .call f l, ρ, ω => bnd (eva l ρ ω) fun as ω1 => doCall O (.fn f) as ω1
  | .mth C a m l, ρ, ω => bnd (ev a ρ ω) fun x ω1 => match x with
    | .ins C' fs => if C' = C ∧ (fs.lookup m).isNone = true then bnd (eva l ρ ω1) fun as ω2 => doCall O (.mt C m) (.fz x :: as) ω2 else none
    | _ => none
  | .mtho j C m l, ρ, ω => match omAt ω j with
    | some (.ins C' fs) => if C' = C ∧ (fs.lookup m).isNone = true then bnd (eva l ρ ω) fun as ω2 => doCall O (.mt C m) (.io j :: as) ω2 else none
    | _ => none
  | .mk C l, ρ, ω => bnd (eva l ρ ω) fun as ω1 => match argsOf ω1 as with
    | none => none
    | some ds => match O (.mt C "__init__") (.ins C [] :: ds) with
      | some (.non, d :: outs) => some (d, wr ω1 (iosOf as) outs)
      | _ => none
  | .prm p l, ρ, ω => bnd (evs l ρ ω) fun ds ω1 => opt (dprim p ds) ω1
  | .minkey f e, ρ, ω => bnd (ev e ρ ω) fun d ω1 => match d with
    | .lst xs => match oall (xs.map fun x => (O (.fn f) [x]).map (·.1)) with
      | some ks => opt (minKey ks xs) ω1
      | none => none
    | _ => none
  | .lc e gs, ρ, ω => bnd (evg gs (fun ρ' ω' => bnd (ev e ρ' ω') fun d ω2 => ret [d] ω2) (wipeE ρ (slotsG gs)) ω) fun ds ω1 => if ds.length ≤ sizeLine then ret (.lst ds) ω1 else none
  | .dc t k v gs, ρ, ω => bnd (evg gs (fun ρ' ω' => bnd (ev k ρ' ω') fun d ω2 => bnd (ev v ρ' ω2) fun x ω3 => ret [.tup [d, x]] ω3) (wipeE ρ (slotsG gs)) ω) fun l ω1 => opt (dmake t l) ω1
  | .qal e gs, ρ, ω => bnd (evq false gs (fun ρ' ω' => bnd (ev e ρ' ω') fun d ω2 => match d with
      | .bl b => ret b ω2
      | _ => none) (wipeE ρ (slotsG gs)) ω) fun b ω1 => ret (.bl (!b)) ω1
  | .qan e gs, ρ, ω => bnd (evq true gs (fun ρ' ω' => bnd (ev e ρ' ω') fun d ω2 => match d with
      | .bl b => ret b ω2
      | _ => none) (wipeE ρ (slotsG gs)) ω) fun b ω1 => ret (.bl b) ω1
  | .view sl e, ρ, ω => match ev e (viewE ρ ω sl 0) [] with
    | some (d, _) => if viewOk d then ret d ω else none
    | none => none
def evs : IEs → Env → Om → R (List D)
  | .nil, _, ω => ret [] ω
  | .cons e r, ρ, ω => bnd (ev e ρ ω) fun d ω1 => bnd (evs r ρ ω1) fun ds ω2 => ret (d :: ds) ω2
def evp : IPs → Env → Om → R (List D)
  | .nil, _, ω => ret [] ω
  | .cons k v r, ρ, ω => bnd (ev k ρ ω) fun d ω1 => bnd (ev v ρ ω1) fun x ω2 => bnd (evp r ρ ω2) fun l ω3 => ret (.tup [d, x] :: l) ω3
def evo : IO → Env → Om → R (Option Int)
  | .no, _, ω => ret none ω
  | .yes e, ρ, ω => bnd (ev e ρ ω) fun d ω1 => match d with
    | .int i => ret (some i) ω1
    | _ => none
def eva : IAs → Env → Om → R (List AV)
  | .nil, _, ω => ret [] ω
  | .fz e r, ρ, ω => bnd (ev e ρ ω) fun d ω1 => bnd (eva r ρ ω1) fun ds ω2 => ret (.fz d :: ds) ω2
  | .io j r, ρ, ω => match omAt ω j with
    | some _ => bnd (eva r ρ ω) fun ds ω2 => ret (.io j :: ds) ω2
    | none => none
def evc : IEs → Env → Om → R Bool
  | .nil, _, ω => ret true ω
  | .cons e r, ρ, ω => bnd (ev e ρ ω) fun d ω1 => match d with
    | .bl true => evc r ρ ω1
    | .bl false => ret false ω1
    | _ => none
def esrc : ISrc → Env → Om → R (List D)
  | .val e, ρ, ω => bnd (ev e ρ ω) fun d ω1 => opt (ditems d) ω1
  | .rng1 e, ρ, ω => bnd (ev e ρ ω) fun d ω1 => match d with
    | .int n => opt (rngD 0 n) ω1
    | _ => none
  | .rng2 a b, ρ, ω => bnd (ev a ρ ω) fun x ω1 => bnd (ev b ρ ω1) fun y ω2 => match x, y with
    | .int i, .int j => opt (rngD i j) ω2
    | _, _ => none
  | .zip2 a b, ρ, ω => bnd (ev a ρ ω) fun x ω1 => bnd (ev b ρ ω1) fun y ω2 => opt (zipD x y) ω2
  | .enum e, ρ, ω => bnd (ev e ρ ω) fun d ω1 => opt (enumD d) ω1
  | .items e, ρ, ω => bnd (ev e ρ ω) fun d ω1 => opt (itemsD d) ω1
def evg : IGs → (Env → Om → R (List D)) → Env → Om → R (List D)
  | .nil, k, ρ, ω => k ρ ω
  | .cons t s cs r, k, ρ, ω => bnd (esrc s ρ ω) fun its ω1 => gloop (fun d ω2 => match bindT t d ρ with
    | none => none
    | some ρ2 => bnd (evc cs ρ2 ω2) fun b ω3 => if b then evg r k ρ2 ω3 else ret [] ω3) its ω1
def evq (st : Bool) : IGs → (Env → Om → R Bool) → Env → Om → R Bool
  | .nil, k, ρ, ω => bnd (k ρ ω) fun b ω1 => ret (b == st) ω1
  | .cons t s cs r, k, ρ, ω => bnd (esrc s ρ ω) fun its ω1 => qloop (fun d ω2 => match bindT t d ρ with
    | none => none
    | some ρ2 => bnd (evc cs ρ2 ω2) fun b ω3 => if b then evq st r k ρ2 ω3 else ret false ω3) its ω1
end
end Rf
end

section
set_option Elab.async false
set_option linter.all false
set_option maxRecDepth 100000
/-! What stands for data in the heap: frozen data (a part Z of the abstract heap that no one changes), owned data (told by their addresses). -/
namespace Rf
open PySem PySem.Spec PyProof.Rows L2

/-! ### frozen data -/
mutual
inductive Rp (K : PySem.W.Frag) (ad : Str → Addr) (Z : Hp) : V → D → Prop
  | non : Rp K ad Z .non .non
  | bl (b : Bool) : Rp K ad Z (.bl b) (.bl b)
  | int (i : Int) : Rp K ad Z (.int i) (.int i)
  | str (x : Str) : Rp K ad Z (.str x) (.str x)
  | tup {a : Addr} {xs : List V} {ds : List D} : Z a = some (.tup xs) → Rps K ad Z xs ds → Rp K ad Z (.ref a) (.tup ds)
  | lst {a : Addr} {xs : List V} {ds : List D} : Rd Z a (.lst xs) → Rps K ad Z xs ds → Rp K ad Z (.ref a) (.lst ds)
  | dk {a : Addr} {kvs : List (Key × V)} {ds : List (Key × D)} : Z a = some (.dK kvs) → RpK K ad Z kvs ds → Rp K ad Z (.ref a) (.dk ds)
  | dt {a : Addr} {kvs : List (List Key × V)} {ds : List (List Key × D)} : Z a = some (.dT kvs) → RpT K ad Z kvs ds → Rp K ad Z (.ref a) (.dt ds)
  | ins {a dx : Addr} {C : Str} {fs : List (Str × V)} {ds : List (Str × D)} : Z a = some (.ins (ad C) dx fs) → RpF K ad Z fs ds → Rp K ad Z (.ref a) (.ins C ds)
  | fn (f : Str) : Rp K ad Z (.ref (ad f)) (.fn f)
inductive Rps (K : PySem.W.Frag) (ad : Str → Addr) (Z : Hp) : List V → List D → Prop
  | nil : Rps K ad Z [] []
  | cons {v : V} {d : D} {vs : List V} {ds : List D} : Rp K ad Z v d → Rps K ad Z vs ds → Rps K ad Z (v :: vs) (d :: ds)
inductive RpK (K : PySem.W.Frag) (ad : Str → Addr) (Z : Hp) : List (Key × V) → List (Key × D) → Prop
  | nil : RpK K ad Z [] []
  | cons {k : Key} {v : V} {d : D} {vs : List (Key × V)} {ds : List (Key × D)} : Rp K ad Z v d → RpK K ad Z vs ds → RpK K ad Z ((k, v) :: vs) ((k, d) :: ds)
inductive RpT (K : PySem.W.Frag) (ad : Str → Addr) (Z : Hp) : List (List Key × V) → List (List Key × D) → Prop
  | nil : RpT K ad Z [] []
  | cons {k : List Key} {v : V} {d : D} {vs : List (List Key × V)} {ds : List (List Key × D)} : Rp K ad Z v d → RpT K ad Z vs ds → RpT K ad Z ((k, v) :: vs) ((k, d) :: ds)
inductive RpF (K : PySem.W.Frag) (ad : Str → Addr) (Z : Hp) : List (Str × V) → List (Str × D) → Prop
  | nil : RpF K ad Z [] []
  | cons {k : Str} {v : V} {d : D} {vs : List (Str × V)} {ds : List (Str × D)} : Rp K ad Z v d → RpF K ad Z vs ds → RpF K ad Z ((k, v) :: vs) ((k, d) :: ds)
end
/-- the one part holds all of the other one -/
def Le (Z Z' : Hp) : Prop := ∀ a o, Z a = some o → Z' a = some o
theorem Le.refl (Z : Hp) : Le Z Z := fun _ _ e => e
theorem Le.trans {Z Z' Z'' : Hp} (h : Le Z Z') (h' : Le Z' Z'') : Le Z Z'' := fun a o e => h' a o (h a o e)
section
variable {K : PySem.W.Frag} {ad : Str → Addr} {Z Z' H : Hp}
theorem rd_le (l : Le Z Z') {a : Addr} {u : HO} (h : Rd Z a u) : Rd Z' a u := by
  rcases h with h | ⟨o, h⟩
  · exact .inl (l _ _ h)
  · exact .inr ⟨o, l _ _ h⟩
theorem sqL_le (l : Le Z Z') {a : Addr} {xs : List V} (h : SqL K Z a xs) : SqL K Z' a xs := by
  rcases h with h | h
  · exact .inl (rd_le l h)
  · exact .inr h
theorem sqT_le (l : Le Z Z') {a : Addr} {xs : List V} (h : SqT K Z a xs) : SqT K Z' a xs := by
  rcases h with h | h
  · exact .inl (rd_le l h)
  · exact .inr h
mutual
theorem Rp.le (l : Le Z Z') : ∀ {v : V} {d : D}, Rp K ad Z v d → Rp K ad Z' v d
  | _, _, .non => .non
  | _, _, .bl b => .bl b
  | _, _, .int i => .int i
  | _, _, .str x => .str x
  | _, _, .tup h r => .tup (l _ _ h) (Rps.le l r)
  | _, _, .lst h r => .lst (rd_le l h) (Rps.le l r)
  | _, _, .dk h r => .dk (l _ _ h) (RpK.le l r)
  | _, _, .dt h r => .dt (l _ _ h) (RpT.le l r)
  | _, _, .ins h r => .ins (l _ _ h) (RpF.le l r)
  | _, _, .fn f => .fn f
theorem Rps.le (l : Le Z Z') : ∀ {v : List V} {d : List D}, Rps K ad Z v d → Rps K ad Z' v d
  | _, _, .nil => .nil
  | _, _, .cons h r => .cons (Rp.le l h) (Rps.le l r)
theorem RpK.le (l : Le Z Z') : ∀ {v : List (Key × V)} {d : List (Key × D)}, RpK K ad Z v d → RpK K ad Z' v d
  | _, _, .nil => .nil
  | _, _, .cons h r => .cons (Rp.le l h) (RpK.le l r)
theorem RpT.le (l : Le Z Z') : ∀ {v : List (List Key × V)} {d : List (List Key × D)}, RpT K ad Z v d → RpT K ad Z' v d
  | _, _, .nil => .nil
  | _, _, .cons h r => .cons (Rp.le l h) (RpT.le l r)
theorem RpF.le (l : Le Z Z') : ∀ {v : List (Str × V)} {d : List (Str × D)}, RpF K ad Z v d → RpF K ad Z' v d
  | _, _, .nil => .nil
  | _, _, .cons h r => .cons (Rp.le l h) (RpF.le l r)
end
theorem Rps.length : ∀ {vs : List V} {ds : List D}, Rps K ad Z vs ds → vs.length = ds.length
  | _, _, .nil => rfl
  | _, _, .cons _ r => congrArg (· + 1) (Rps.length r)
theorem Rps.get : ∀ {vs : List V} {ds : List D} {i : Nat} {d : D}, Rps K ad Z vs ds → ds[i]? = some d → ∃ v, vs[i]? = some v ∧ Rp K ad Z v d
  | _, _, 0, _, .cons h _, e => by simp at e; subst e; exact ⟨_, rfl, h⟩
  | _, _, i + 1, _, .cons _ r, e => by
    obtain ⟨v, e1, h⟩ := Rps.get (i := i) r (by simpa using e)
    exact ⟨v, by simpa using e1, h⟩
  | _, _, 0, _, .nil, e => by simp at e
  | _, _, _ + 1, _, .nil, e => by simp at e
theorem Rps.getV : ∀ {vs : List V} {ds : List D} {i : Nat} {v : V}, Rps K ad Z vs ds → vs[i]? = some v → ∃ d, ds[i]? = some d ∧ Rp K ad Z v d
  | _, _, 0, _, .cons h _, e => by simp at e; subst e; exact ⟨_, rfl, h⟩
  | _, _, i + 1, _, .cons _ r, e => by
    obtain ⟨v, e1, h⟩ := Rps.getV (i := i) r (by simpa using e)
    exact ⟨v, by simpa using e1, h⟩
  | _, _, 0, _, .nil, e => by simp at e
  | _, _, _ + 1, _, .nil, e => by simp at e
theorem Rps.append : ∀ {vs ws : List V} {ds es : List D}, Rps K ad Z vs ds → Rps K ad Z ws es → Rps K ad Z (vs ++ ws) (ds ++ es)
  | _, _, _, _, .nil, s => s
  | _, _, _, _, .cons h r, s => .cons h (Rps.append r s)
theorem Rps.take : ∀ {vs : List V} {ds : List D} (n : Nat), Rps K ad Z vs ds → Rps K ad Z (vs.take n) (ds.take n)
  | _, _, 0, _ => .nil
  | _, _, _ + 1, .nil => .nil
  | _, _, n + 1, .cons h r => .cons h (Rps.take n r)
theorem Rps.drop : ∀ {vs : List V} {ds : List D} (n : Nat), Rps K ad Z vs ds → Rps K ad Z (vs.drop n) (ds.drop n)
  | _, _, 0, r => r
  | _, _, _ + 1, .nil => .nil
  | _, _, n + 1, .cons _ r => Rps.drop n r
theorem RpF.look {f : Str} {d : D} : ∀ {fs : List (Str × V)} {ds : List (Str × D)}, RpF K ad Z fs ds → ds.lookup f = some d → ∃ v, fs.lookup f = some v ∧ Rp K ad Z v d
  | _, _, .nil, e => by simp at e
  | (k, v) :: vs, (_, d') :: ds, .cons h r, e => by
    by_cases q : f = k
    · subst q
      simp at e ⊢
      subst e
      exact h
    · have q' : (f == k) = false := beq_eq_false_iff_ne.mpr q
      simp only [List.lookup, q'] at e ⊢
      exact RpF.look r e
theorem RpF.look_none {f : Str} : ∀ {fs : List (Str × V)} {ds : List (Str × D)}, RpF K ad Z fs ds → ds.lookup f = none → fs.lookup f = none
  | _, _, .nil, _ => rfl
  | (k, v) :: vs, (_, d') :: ds, .cons h r, e => by
    by_cases q : f = k
    · subst q
      simp at e
    · have q' : (f == k) = false := beq_eq_false_iff_ne.mpr q
      simp only [List.lookup, q'] at e ⊢
      exact RpF.look_none r e
end

/-! ### the state: Z frozen, H held -/
def notTbl : HO → Bool
  | .tbl _ => false
  | _ => true
/-- Z lies in H, and holds no table of a code object -/
def ZOk (Z H : Hp) : Prop := ∀ a o, Z a = some o → H a = some o ∧ notTbl o = true
theorem ZOk.le {Z H : Hp} (z : ZOk Z H) : Le Z H := fun a o e => (z a o e).1
/-- one step of a run: M: what may have changed -/
structure Nx (M : Addr → Prop) (Z H Z' H' : Hp) : Prop where
  zz : Le Z Z'
  zh : ZOk Z' H'
  zn : ∀ a o, Z' a = some o → Z a = some o ∨ H a = none ∨ M a
  dm : ∀ a o, H a = some o → ∃ o', H' a = some o'
  hh : ∀ a o, H a = some o → ¬ M a → notTbl o = true → H' a = some o
  ht : ∀ a ps, H a = some (.tbl ps) → PySem.TriplesOk ps.toList → ∃ ps', H' a = some (.tbl ps') ∧ PySem.TriplesOk ps'.toList
theorem Nx.refl {M : Addr → Prop} {Z H : Hp} (z : ZOk Z H) : Nx M Z H Z H := ⟨Le.refl _, z, fun _ _ e => .inl e, fun _ o e => ⟨o, e⟩, fun _ _ e _ _ => e, fun _ ps e t => ⟨ps, e, t⟩⟩
theorem Nx.trans {M M' : Addr → Prop} {Z H Z1 H1 Z2 H2 : Hp} (a : Nx M Z H Z1 H1) (b : Nx M' Z1 H1 Z2 H2) (hM : ∀ x, M' x → M x ∨ H x = none) : Nx M Z H Z2 H2 where
  zz := a.zz.trans b.zz
  zh := b.zh
  zn := fun x o e => by
    rcases b.zn x o e with e | e | e
    · exact a.zn x o e
    · cases q : H x with
      | none => exact .inr (.inl rfl)
      | some u =>
        obtain ⟨o', e'⟩ := a.dm x u q
        rw [e] at e'; cases e'
    · exact .inr (hM x e).symm
  dm := fun x o e => by
    obtain ⟨o1, e1⟩ := a.dm x o e
    exact b.dm x o1 e1
  hh := fun x o e m t => b.hh x o (a.hh x o e m t) (fun q => (hM x q).elim m fun z => by rw [e] at z; cases z) t
  ht := fun x ps e t => by
    obtain ⟨ps1, e1, t1⟩ := a.ht x ps e t
    exact b.ht x ps1 e1 t1
theorem Nx.mono {M M' : Addr → Prop} {Z H Z1 H1 : Hp} (a : Nx M Z H Z1 H1) (h : ∀ x, M x → M' x ∨ H x = none) : Nx M' Z H Z1 H1 :=
  ⟨a.zz, a.zh, fun x o e => (a.zn x o e).elim .inl fun k => k.elim (fun k => .inr (.inl k)) fun k => .inr (h x k).symm, a.dm, fun x o e m t => a.hh x o e (fun q => (h x q).elim m fun z => by rw [e] at z; cases z) t, a.ht⟩
/-- a new object, frozen -/
theorem Nx.new {M : Addr → Prop} {Z H : Hp} {p : Addr} {o : HO} (z : ZOk Z H) (hp : H p = none) (t : notTbl o = true) : Nx M Z H (upd Z p o) (upd H p o) where
  zz := fun a u e => by
    rw [upd_ne (fun q => by rw [q] at e; rw [z.le _ _ e] at hp; cases hp)]
    exact e
  zh := fun a u e => by
    by_cases q : a = p
    · rw [q, upd_same] at e; cases e
      rw [q, upd_same]
      exact ⟨rfl, t⟩
    · rw [upd_ne q] at e
      rw [upd_ne q]
      exact z a u e
  zn := fun a u e => by
    by_cases q : a = p
    · rw [q]; exact .inr (.inl hp)
    · rw [upd_ne q] at e
      exact .inl e
  dm := fun a u e => ⟨u, by rw [upd_ne (ne_of_none e hp)]; exact e⟩
  hh := fun a u e _ _ => by rw [upd_ne (ne_of_none e hp)]; exact e
  ht := fun a ps e tr => ⟨ps, by rw [upd_ne (ne_of_none e hp)]; exact e, tr⟩
/-- a new object, not frozen -/
theorem Nx.newO {M : Addr → Prop} {Z H : Hp} {p : Addr} {o : HO} (z : ZOk Z H) (hp : H p = none) : Nx M Z H Z (upd H p o) where
  zz := Le.refl _
  zh := fun a u e => by
    obtain ⟨e1, t⟩ := z a u e
    exact ⟨by rw [upd_ne (ne_of_none e1 hp)]; exact e1, t⟩
  zn := fun a u e => .inl e
  dm := fun a u e => ⟨u, by rw [upd_ne (ne_of_none e hp)]; exact e⟩
  hh := fun a u e _ _ => by rw [upd_ne (ne_of_none e hp)]; exact e
  ht := fun a ps e tr => ⟨ps, by rw [upd_ne (ne_of_none e hp)]; exact e, tr⟩
/-- an owned object changes -/
theorem Nx.chg {M : Addr → Prop} {Z H : Hp} {p : Addr} {o u : HO} (z : ZOk Z H) (hz : Z p = none) (hp : H p = some u) (t : notTbl u = true) (hm : M p) : Nx M Z H Z (upd H p o) where
  zz := Le.refl _
  zh := fun a v e => by
    obtain ⟨e1, t⟩ := z a v e
    exact ⟨by rw [upd_ne (fun q => by rw [q, hz] at e; cases e)]; exact e1, t⟩
  zn := fun a v e => .inl e
  dm := fun a v e => by
    by_cases q : a = p
    · exact ⟨o, by rw [q, upd_same]⟩
    · exact ⟨v, by rw [upd_ne q]; exact e⟩
  hh := fun a v e m _ => by rw [upd_ne (fun q => m (by rw [q]; exact hm))]; exact e
  ht := fun a ps e tr => ⟨ps, by
    rw [upd_ne (fun q => by rw [q, hp] at e; cases e; cases t)]
    exact e, tr⟩

/-! ### owned data -/
inductive Sh where
  | z | l (s : Sh) | d (s : Sh) | i (fs : List (Str × Sh))
def shOf (fs : List (Str × Sh)) (f : Str) : Sh := (fs.lookup f).getD .z
mutual
inductive Ow (K : PySem.W.Frag) (ad : Str → Addr) (Z H : Hp) : Sh → V → D → List Addr → Prop
  | z {v : V} {d : D} : Rp K ad Z v d → Ow K ad Z H .z v d []
  | lst {s : Sh} {a : Addr} {vs : List V} {ds : List D} {fp : List Addr} : Z a = none → H a = some (.lst vs) → Ows K ad Z H s vs ds fp → Ow K ad Z H (.l s) (.ref a) (.lst ds) (a :: fp)
  | dk {s : Sh} {a : Addr} {vs : List (Key × V)} {ds : List (Key × D)} {fp : List Addr} : Z a = none → H a = some (.dK vs) → (ds.map (·.1)).Nodup → OwK K ad Z H s vs ds fp → Ow K ad Z H (.d s) (.ref a) (.dk ds) (a :: fp)
  | dt {s : Sh} {a : Addr} {vs : List (List Key × V)} {ds : List (List Key × D)} {fp : List Addr} : Z a = none → H a = some (.dT vs) → (ds.map (·.1)).Nodup → OwT K ad Z H s vs ds fp → Ow K ad Z H (.d s) (.ref a) (.dt ds) (a :: fp)
  | ins {sh : List (Str × Sh)} {a dx : Addr} {C : Str} {vs : List (Str × V)} {ds : List (Str × D)} {fp : List Addr} : Z a = none → H a = some (.ins (ad C) dx vs) → (ds.map (·.1)).Nodup → OwF K ad Z H sh vs ds fp → Ow K ad Z H (.i sh) (.ref a) (.ins C ds) (a :: fp)
inductive Ows (K : PySem.W.Frag) (ad : Str → Addr) (Z H : Hp) : Sh → List V → List D → List Addr → Prop
  | nil {s : Sh} : Ows K ad Z H s [] [] []
  | cons {s : Sh} {v : V} {d : D} {vs : List V} {ds : List D} {f g : List Addr} : Ow K ad Z H s v d f → Ows K ad Z H s vs ds g → Ows K ad Z H s (v :: vs) (d :: ds) (f ++ g)
inductive OwK (K : PySem.W.Frag) (ad : Str → Addr) (Z H : Hp) : Sh → List (Key × V) → List (Key × D) → List Addr → Prop
  | nil {s : Sh} : OwK K ad Z H s [] [] []
  | cons {s : Sh} {k : Key} {v : V} {d : D} {vs : List (Key × V)} {ds : List (Key × D)} {f g : List Addr} : Ow K ad Z H s v d f → OwK K ad Z H s vs ds g → OwK K ad Z H s ((k, v) :: vs) ((k, d) :: ds) (f ++ g)
inductive OwT (K : PySem.W.Frag) (ad : Str → Addr) (Z H : Hp) : Sh → List (List Key × V) → List (List Key × D) → List Addr → Prop
  | nil {s : Sh} : OwT K ad Z H s [] [] []
  | cons {s : Sh} {k : List Key} {v : V} {d : D} {vs : List (List Key × V)} {ds : List (List Key × D)} {f g : List Addr} : Ow K ad Z H s v d f → OwT K ad Z H s vs ds g → OwT K ad Z H s ((k, v) :: vs) ((k, d) :: ds) (f ++ g)
inductive OwF (K : PySem.W.Frag) (ad : Str → Addr) (Z H : Hp) : List (Str × Sh) → List (Str × V) → List (Str × D) → List Addr → Prop
  | nil {sh : List (Str × Sh)} : OwF K ad Z H sh [] [] []
  | cons {sh : List (Str × Sh)} {k : Str} {v : V} {d : D} {vs : List (Str × V)} {ds : List (Str × D)} {f g : List Addr} : Ow K ad Z H (shOf sh k) v d f → OwF K ad Z H sh vs ds g → OwF K ad Z H sh ((k, v) :: vs) ((k, d) :: ds) (f ++ g)
end
section
variable {K : PySem.W.Frag} {ad : Str → Addr} {Z Z' H H' : Hp}
/-- what is owned stands as it stood -/
structure Stand (Z H Z' H' : Hp) (fp : List Addr) : Prop where
  le : Le Z Z'
  h : ∀ a ∈ fp, H' a = H a
  z : ∀ a ∈ fp, Z' a = none
theorem Stand.left {f g : List Addr} (s : Stand Z H Z' H' (f ++ g)) : Stand Z H Z' H' f := ⟨s.le, fun a m => s.h a (List.mem_append_left _ m), fun a m => s.z a (List.mem_append_left _ m)⟩
theorem Stand.right {f g : List Addr} (s : Stand Z H Z' H' (f ++ g)) : Stand Z H Z' H' g := ⟨s.le, fun a m => s.h a (List.mem_append_right _ m), fun a m => s.z a (List.mem_append_right _ m)⟩
theorem Stand.tail {a : Addr} {g : List Addr} (s : Stand Z H Z' H' (a :: g)) : Stand Z H Z' H' g := ⟨s.le, fun a m => s.h a (List.mem_cons_of_mem _ m), fun a m => s.z a (List.mem_cons_of_mem _ m)⟩
mutual
theorem Ow.stand : ∀ {sh : Sh} {v : V} {d : D} {fp : List Addr}, Ow K ad Z H sh v d fp → Stand Z H Z' H' fp → Ow K ad Z' H' sh v d fp
  | _, _, _, _, .z r, s => .z (r.le s.le)
  | _, _, _, _, .lst _ e r, s => .lst (s.z _ List.mem_cons_self) ((s.h _ List.mem_cons_self).trans e) (Ows.stand r s.tail)
  | _, _, _, _, .dk _ e n r, s => .dk (s.z _ List.mem_cons_self) ((s.h _ List.mem_cons_self).trans e) n (OwK.stand r s.tail)
  | _, _, _, _, .dt _ e n r, s => .dt (s.z _ List.mem_cons_self) ((s.h _ List.mem_cons_self).trans e) n (OwT.stand r s.tail)
  | _, _, _, _, .ins _ e n r, s => .ins (s.z _ List.mem_cons_self) ((s.h _ List.mem_cons_self).trans e) n (OwF.stand r s.tail)
theorem Ows.stand : ∀ {sh : Sh} {v : List V} {d : List D} {fp : List Addr}, Ows K ad Z H sh v d fp → Stand Z H Z' H' fp → Ows K ad Z' H' sh v d fp
  | _, _, _, _, .nil, _ => .nil
  | _, _, _, _, .cons h r, s => .cons (Ow.stand h s.left) (Ows.stand r s.right)
theorem OwK.stand : ∀ {sh : Sh} {v : List (Key × V)} {d : List (Key × D)} {fp : List Addr}, OwK K ad Z H sh v d fp → Stand Z H Z' H' fp → OwK K ad Z' H' sh v d fp
  | _, _, _, _, .nil, _ => .nil
  | _, _, _, _, .cons h r, s => .cons (Ow.stand h s.left) (OwK.stand r s.right)
theorem OwT.stand : ∀ {sh : Sh} {v : List (List Key × V)} {d : List (List Key × D)} {fp : List Addr}, OwT K ad Z H sh v d fp → Stand Z H Z' H' fp → OwT K ad Z' H' sh v d fp
  | _, _, _, _, .nil, _ => .nil
  | _, _, _, _, .cons h r, s => .cons (Ow.stand h s.left) (OwT.stand r s.right)
theorem OwF.stand : ∀ {sh : List (Str × Sh)} {v : List (Str × V)} {d : List (Str × D)} {fp : List Addr}, OwF K ad Z H sh v d fp → Stand Z H Z' H' fp → OwF K ad Z' H' sh v d fp
  | _, _, _, _, .nil, _ => .nil
  | _, _, _, _, .cons h r, s => .cons (Ow.stand h s.left) (OwF.stand r s.right)
end
mutual
theorem Ow.dom : ∀ {sh : Sh} {v : V} {d : D} {fp : List Addr}, Ow K ad Z H sh v d fp → ∀ a ∈ fp, Z a = none ∧ ∃ o, H a = some o ∧ notTbl o = true
  | _, _, _, _, .z _, a, m => nomatch m
  | _, _, _, _, .lst z e r, a, m => (List.mem_cons.mp m).elim (fun q => q ▸ ⟨z, _, e, rfl⟩) fun q => Ows.dom r a q
  | _, _, _, _, .dk z e _ r, a, m => (List.mem_cons.mp m).elim (fun q => q ▸ ⟨z, _, e, rfl⟩) fun q => OwK.dom r a q
  | _, _, _, _, .dt z e _ r, a, m => (List.mem_cons.mp m).elim (fun q => q ▸ ⟨z, _, e, rfl⟩) fun q => OwT.dom r a q
  | _, _, _, _, .ins z e _ r, a, m => (List.mem_cons.mp m).elim (fun q => q ▸ ⟨z, _, e, rfl⟩) fun q => OwF.dom r a q
theorem Ows.dom : ∀ {sh : Sh} {v : List V} {d : List D} {fp : List Addr}, Ows K ad Z H sh v d fp → ∀ a ∈ fp, Z a = none ∧ ∃ o, H a = some o ∧ notTbl o = true
  | _, _, _, _, .nil, _, m => nomatch m
  | _, _, _, _, .cons h r, a, m => (List.mem_append.mp m).elim (Ow.dom h a) (Ows.dom r a)
theorem OwK.dom : ∀ {sh : Sh} {v : List (Key × V)} {d : List (Key × D)} {fp : List Addr}, OwK K ad Z H sh v d fp → ∀ a ∈ fp, Z a = none ∧ ∃ o, H a = some o ∧ notTbl o = true
  | _, _, _, _, .nil, _, m => nomatch m
  | _, _, _, _, .cons h r, a, m => (List.mem_append.mp m).elim (Ow.dom h a) (OwK.dom r a)
theorem OwT.dom : ∀ {sh : Sh} {v : List (List Key × V)} {d : List (List Key × D)} {fp : List Addr}, OwT K ad Z H sh v d fp → ∀ a ∈ fp, Z a = none ∧ ∃ o, H a = some o ∧ notTbl o = true
  | _, _, _, _, .nil, _, m => nomatch m
  | _, _, _, _, .cons h r, a, m => (List.mem_append.mp m).elim (Ow.dom h a) (OwT.dom r a)
theorem OwF.dom : ∀ {sh : List (Str × Sh)} {v : List (Str × V)} {d : List (Str × D)} {fp : List Addr}, OwF K ad Z H sh v d fp → ∀ a ∈ fp, Z a = none ∧ ∃ o, H a = some o ∧ notTbl o = true
  | _, _, _, _, .nil, _, m => nomatch m
  | _, _, _, _, .cons h r, a, m => (List.mem_append.mp m).elim (Ow.dom h a) (OwF.dom r a)
end
mutual
/-- owned data, frozen -/
theorem Ow.freeze : ∀ {sh : Sh} {v : V} {d : D} {fp : List Addr}, Ow K ad Z H sh v d fp → Le Z Z' → (∀ a ∈ fp, Z' a = H a) → Rp K ad Z' v d
  | _, _, _, _, .z r, l, _ => r.le l
  | _, _, _, _, .lst _ e r, l, s => .lst (.of ((s _ List.mem_cons_self).trans e)) (Ows.freeze r l fun a m => s a (List.mem_cons_of_mem _ m))
  | _, _, _, _, .dk _ e _ r, l, s => .dk ((s _ List.mem_cons_self).trans e) (OwK.freeze r l fun a m => s a (List.mem_cons_of_mem _ m))
  | _, _, _, _, .dt _ e _ r, l, s => .dt ((s _ List.mem_cons_self).trans e) (OwT.freeze r l fun a m => s a (List.mem_cons_of_mem _ m))
  | _, _, _, _, .ins _ e _ r, l, s => .ins ((s _ List.mem_cons_self).trans e) (OwF.freeze r l fun a m => s a (List.mem_cons_of_mem _ m))
theorem Ows.freeze : ∀ {sh : Sh} {v : List V} {d : List D} {fp : List Addr}, Ows K ad Z H sh v d fp → Le Z Z' → (∀ a ∈ fp, Z' a = H a) → Rps K ad Z' v d
  | _, _, _, _, .nil, _, _ => .nil
  | _, _, _, _, .cons h r, l, s => .cons (Ow.freeze h l fun a m => s a (List.mem_append_left _ m)) (Ows.freeze r l fun a m => s a (List.mem_append_right _ m))
theorem OwK.freeze : ∀ {sh : Sh} {v : List (Key × V)} {d : List (Key × D)} {fp : List Addr}, OwK K ad Z H sh v d fp → Le Z Z' → (∀ a ∈ fp, Z' a = H a) → RpK K ad Z' v d
  | _, _, _, _, .nil, _, _ => .nil
  | _, _, _, _, .cons h r, l, s => .cons (Ow.freeze h l fun a m => s a (List.mem_append_left _ m)) (OwK.freeze r l fun a m => s a (List.mem_append_right _ m))
theorem OwT.freeze : ∀ {sh : Sh} {v : List (List Key × V)} {d : List (List Key × D)} {fp : List Addr}, OwT K ad Z H sh v d fp → Le Z Z' → (∀ a ∈ fp, Z' a = H a) → RpT K ad Z' v d
  | _, _, _, _, .nil, _, _ => .nil
  | _, _, _, _, .cons h r, l, s => .cons (Ow.freeze h l fun a m => s a (List.mem_append_left _ m)) (OwT.freeze r l fun a m => s a (List.mem_append_right _ m))
theorem OwF.freeze : ∀ {sh : List (Str × Sh)} {v : List (Str × V)} {d : List (Str × D)} {fp : List Addr}, OwF K ad Z H sh v d fp → Le Z Z' → (∀ a ∈ fp, Z' a = H a) → RpF K ad Z' v d
  | _, _, _, _, .nil, _, _ => .nil
  | _, _, _, _, .cons h r, l, s => .cons (Ow.freeze h l fun a m => s a (List.mem_append_left _ m)) (OwF.freeze r l fun a m => s a (List.mem_append_right _ m))
end
end

/-! ### the owned variables of a frame: their slots and shapes; what each stands on -/
abbrev Osl := List (Nat × Sh)
abbrev Fp := Nat → List Addr
def inF (fp : Fp) (a : Addr) : Prop := ∃ j, a ∈ fp j
def noA (_ : Addr) : Prop := False
def setF (fp : Fp) (j : Nat) (f : List Addr) : Fp := fun k => if k = j then f else fp k
structure NdF (fp : Fp) : Prop where
  one : ∀ j, (fp j).Nodup
  two : ∀ j k a, a ∈ fp j → a ∈ fp k → j = k
structure Own (K : PySem.W.Frag) (ad : Str → Addr) (Z H : Hp) (σ : L2.St) (o : Option (Nat × Sh)) (d : D) (f : List Addr) : Prop where
  ex : ∃ i sh v, o = some (i, sh) ∧ σ[i]? = some (some v) ∧ Ow K ad Z H sh v d f
structure Os (K : PySem.W.Frag) (ad : Str → Addr) (Z H : Hp) (σ : L2.St) (os : Osl) (ω : Om) (fp : Fp) : Prop where
  yes : ∀ j d, omAt ω j = some d → Own K ad Z H σ (os[j]?) d (fp j)
  no : ∀ j, omAt ω j = none → fp j = []
section
variable {K : PySem.W.Frag} {ad : Str → Addr} {Z Z' H H' : Hp} {σ σ' : L2.St} {os : Osl} {ω : Om} {fp : Fp}
theorem Os.stand (h : Os K ad Z H σ os ω fp) (s : ∀ j, Stand Z H Z' H' (fp j)) : Os K ad Z' H' σ os ω fp where
  yes := fun j d e => let ⟨i, sh, v, e1, e2, w⟩ := (h.yes j d e).ex; ⟨i, sh, v, e1, e2, w.stand (s j)⟩
  no := h.no
theorem Os.dom (h : Os K ad Z H σ os ω fp) : ∀ j, ∀ a ∈ fp j, Z a = none ∧ ∃ o, H a = some o ∧ notTbl o = true := fun j a ha => by
  cases e : omAt ω j with
  | none => rw [h.no j e] at ha; cases ha
  | some d =>
    obtain ⟨i, sh, v, e1, e2, w⟩ := (h.yes j d e).ex
    exact w.dom a ha
theorem Os.slots (h : Os K ad Z H σ os ω fp) (s : ∀ p ∈ os, σ'[p.1]? = σ[p.1]?) : Os K ad Z H σ' os ω fp where
  yes := fun j d e => let ⟨i, sh, v, e1, e2, w⟩ := (h.yes j d e).ex; ⟨i, sh, v, e1, (s (i, sh) (List.mem_of_getElem? e1)).trans e2, w⟩
  no := h.no
end
/-- the frozen variables -/
structure Fz (K : PySem.W.Frag) (ad : Str → Addr) (Z : Hp) (σ : L2.St) (ρ : Env) : Prop where
  len : ρ.length ≤ σ.length
  at_ : ∀ (i : Nat) (d : D), ρ[i]? = some (some d) → ∃ v, σ[i]? = some (some v) ∧ Rp K ad Z v d
theorem Fz.le {K : PySem.W.Frag} {ad : Str → Addr} {Z Z' : Hp} {σ : L2.St} {ρ : Env} (l : Le Z Z') (h : Fz K ad Z σ ρ) : Fz K ad Z' σ ρ := ⟨h.len, fun i d e =>
  let ⟨v, e1, r⟩ := h.at_ i d e
  ⟨v, e1, r.le l⟩⟩
theorem Fz.set {K : PySem.W.Frag} {ad : Str → Addr} {Z : Hp} {σ : L2.St} {ρ : Env} (h : Fz K ad Z σ ρ) (i : Nat) {v : V} {d : D} (r : Rp K ad Z v d) : Fz K ad Z (σ.set i (some v)) (ρ.set i (some d)) where
  len := by rw [List.length_set, List.length_set]; exact h.len
  at_ := fun j e q => by
    by_cases hj : i = j
    · subst hj
      by_cases hl : i < ρ.length
      · rw [List.getElem?_set_self hl] at q
        cases q
        exact ⟨v, List.getElem?_set_self (Nat.lt_of_lt_of_le hl h.len), r⟩
      · rw [List.getElem?_eq_none (by simpa using hl)] at q; cases q
    · rw [List.getElem?_set_ne hj] at q
      rw [List.getElem?_set_ne hj]
      exact h.at_ j e q
/-- a slot may change where nothing is said of it -/
theorem Fz.drop {K : PySem.W.Frag} {ad : Str → Addr} {Z : Hp} {σ : L2.St} {ρ : Env} (h : Fz K ad Z σ ρ) (i : Nat) (o : Option V) : Fz K ad Z (σ.set i o) (ρ.set i none) where
  len := by rw [List.length_set, List.length_set]; exact h.len
  at_ := fun j e q => by
    by_cases hj : i = j
    · subst hj
      by_cases hl : i < ρ.length
      · rw [List.getElem?_set_self hl] at q; cases q
      · rw [List.getElem?_eq_none (by simpa using hl)] at q; cases q
    · rw [List.getElem?_set_ne hj] at q
      rw [List.getElem?_set_ne hj]
      exact h.at_ j e q
theorem Fz.wipe {K : PySem.W.Frag} {ad : Str → Addr} {Z : Hp} {σ : L2.St} {ρ : Env} (h : Fz K ad Z σ ρ) : ∀ vs : List Nat, Fz K ad Z (L2.wipe σ vs) (wipeE ρ vs)
  | [] => h
  | v :: vs => (Fz.wipe h vs).drop v none
theorem Fz.less {K : PySem.W.Frag} {ad : Str → Addr} {Z : Hp} {σ : L2.St} {ρ : Env} (h : Fz K ad Z σ ρ) : ∀ vs : List Nat, Fz K ad Z σ (wipeE ρ vs)
  | [] => h
  | v :: vs => by
    have ih := Fz.less h vs
    refine ⟨by show (List.set (wipeE ρ vs) v none).length ≤ _; rw [List.length_set]; exact ih.len, fun j e q => ?_⟩
    have q : (List.set (wipeE ρ vs) v none)[j]? = some (some e) := q
    by_cases hj : v = j
    · subst hj
      by_cases hl : v < (wipeE ρ vs).length
      · rw [List.getElem?_set_self hl] at q; cases q
      · rw [List.getElem?_eq_none (by simpa using hl)] at q; cases q
    · rw [List.getElem?_set_ne hj] at q
      exact ih.at_ j e q
end Rf
end

section
set_option Elab.async false
set_option linter.all false
set_option maxRecDepth 100000
set_option maxHeartbeats 2000000
/-! Operators by values. -/
namespace Rf
open PySem PySem.Spec PyProof.Rows L2

/-- only new things came -/
abbrev Nw (Z H Z' H' : Hp) : Prop := Nx noA Z H Z' H'
section
variable {X : Cx} {ad : Str → Addr} {pins : List (Addr × Obj)} {σ : L2.St} {Z H : Hp} {s : Shared}

theorem oall_map {α β : Type} {f : α → Option β} : ∀ {xs : List α} {ys : List β}, oall (xs.map f) = some ys → ∀ (i : Nat) x, xs[i]? = some x → ∃ y, ys[i]? = some y ∧ f x = some y
  | [], _, _, i, x, e => by simp at e
  | a :: xs, ys, h, i, x, e => by
    cases q : f a with
    | none => rw [List.map_cons, q] at h; cases h
    | some b =>
      rw [List.map_cons, q] at h
      obtain ⟨zs, h1, h2⟩ := Option.map_eq_some_iff.mp (show (oall (xs.map f)).map (b :: ·) = some ys from h)
      subst h2
      cases i with
      | zero => simp at e; subst e; exact ⟨b, rfl, q⟩
      | succ i =>
        obtain ⟨y, e1, e2⟩ := oall_map h1 i x (by simpa using e)
        exact ⟨y, by simpa using e1, e2⟩
theorem oall_cons {α β : Type} {f : α → Option β} {a : α} {xs : List α} {ys : List β} (h : oall ((a :: xs).map f) = some ys) : ∃ b zs, f a = some b ∧ oall (xs.map f) = some zs ∧ ys = b :: zs := by
  cases q : f a with
  | none => rw [List.map_cons, q] at h; cases h
  | some b =>
    rw [List.map_cons, q] at h
    obtain ⟨zs, h1, h2⟩ := Option.map_eq_some_iff.mp (show (oall (xs.map f)).map (b :: ·) = some ys from h)
    exact ⟨b, zs, rfl, h1, h2.symm⟩
theorem oall_len {α β : Type} {f : α → Option β} : ∀ {xs : List α} {ys : List β}, oall (xs.map f) = some ys → ys.length = xs.length
  | [], _, h => by cases h; rfl
  | a :: xs, ys, h => by
    obtain ⟨b, zs, _, h1, rfl⟩ := oall_cons h
    rw [List.length_cons, List.length_cons, oall_len h1]

/-- what reads as data: the library's own word for it -/
theorem reads_of (I : Inv X pins σ H s) (z : ZOk Z H) : ∀ (n : Nat) (v : V) (d : D) (x : PyData) (u : Value), Rp X.K ad Z v d → pyN n d = some x → RelV v u → ∃ as, Reads s.heap u x as ∧ x.plain = true ∧ x.depth ≤ n
  | 0, _, _, _, _, _, e, _ => by cases e
  | n + 1, v, d, x, u, h, e, r => by
    have all : ∀ (vs : List V) (ds : List D) (xs : List PyData) (us : List Value), Rps X.K ad Z vs ds → oall (ds.map (pyN n)) = some xs → Vals vs us → ∃ as, ReadsAll s.heap us xs as ∧ PyData.plainAll xs = true ∧ PyData.depthAll xs ≤ n := by
      intro vs ds
      induction ds generalizing vs with
      | nil =>
        intro xs us h e r
        cases h; cases e; cases r
        exact ⟨_, .nil, rfl, by simp [PyData.depthAll]⟩
      | cons d ds ih =>
        intro xs us h e r
        obtain ⟨b, zs, e1, e2, rfl⟩ := oall_cons e
        cases h with
        | cons h1 h2 =>
          cases r with
          | cons r1 r2 =>
            obtain ⟨as, q1, p1, t1⟩ := reads_of I z n _ _ _ _ h1 e1 r1
            obtain ⟨bs, q2, p2, t2⟩ := ih _ _ _ h2 e2 r2
            refine ⟨_, .cons q1 q2, by simp [PyData.plainAll, p1, p2], ?_⟩
            simp only [PyData.depthAll]; omega
    cases h with
    | non => cases e; cases r; exact ⟨_, .none, rfl, by simp [PyData.depth]⟩
    | bl b => cases e; cases r; exact ⟨_, .bool b, rfl, by simp [PyData.depth]⟩
    | int i => cases e; obtain ⟨t, rfl⟩ := r; exact ⟨_, .int i t, rfl, by simp [PyData.depth]⟩
    | str y => cases e; obtain ⟨t, rfl⟩ := r; exact ⟨_, .str y t, rfl, by simp [PyData.depth]⟩
    | @tup a xs ds hs ha =>
      cases r
      obtain ⟨ys, e1, rfl⟩ := Option.map_eq_some_iff.mp (show (oall (ds.map (pyN n))).map PyData.tuple = some x from e)
      obtain ⟨its, rv, ⟨o, ho, hc, k, hd⟩, hz⟩ := I.tuple (.of (z.le _ _ hs))
      obtain ⟨as, q, p, t⟩ := all _ _ _ _ ha e1 rv
      refine ⟨_, .tuple ho hc hd (by simpa using q), by simpa [PyData.plain] using p, ?_⟩
      simp only [PyData.depth]; omega
    | @lst a xs ds hs ha =>
      cases r
      obtain ⟨ys, e1, rfl⟩ := Option.map_eq_some_iff.mp (show (oall (ds.map (pyN n))).map PyData.list = some x from e)
      obtain ⟨its, rv, ⟨o, k, ho, hc, _, hd⟩, hz⟩ := I.list (.inl (rd_le z.le hs))
      obtain ⟨as, q, p, t⟩ := all _ _ _ _ ha e1 rv
      refine ⟨_, .list ho hc hd (by simpa using q), by simpa [PyData.plain] using p, ?_⟩
      simp only [PyData.depth]; omega
    | dk _ _ => cases e
    | dt _ _ => cases e
    | ins _ _ => cases e
    | fn _ => cases e
theorem readsAll_of (I : Inv X pins σ H s) (z : ZOk Z H) (n : Nat) : ∀ (vs : List V) (ds : List D) (xs : List PyData) (us : List Value), Rps X.K ad Z vs ds → oall (ds.map (pyN n)) = some xs → Vals vs us → ∃ as, ReadsAll s.heap us xs as ∧ PyData.plainAll xs = true ∧ PyData.depthAll xs ≤ n
  | _, [], _, _, h, e, r => by
    cases h; cases e; cases r
    exact ⟨_, .nil, rfl, by simp [PyData.depthAll]⟩
  | _, d :: ds, xs, us, h, e, r => by
    obtain ⟨b, zs, e1, e2, rfl⟩ := oall_cons e
    cases h with
    | cons h1 h2 =>
      cases r with
      | cons r1 r2 =>
        obtain ⟨as, q1, p1, t1⟩ := reads_of I z n _ _ _ _ h1 e1 r1
        obtain ⟨bs, q2, p2, t2⟩ := readsAll_of I z n _ _ _ _ h2 e2 r2
        refine ⟨_, .cons q1 q2, by simp [PyData.plainAll, p1, p2], ?_⟩
        simp only [PyData.depthAll]; omega

/-! ### operators -/
/-- an operator by what it does with the data -/
def rD (K : PySem.W.Frag) (ad : Str → Addr) (f : D → D → Option D) : R2 := fun x y H Q => ∃ Z a b d, ZOk Z H ∧ Rp K ad Z x a ∧ Rp K ad Z y b ∧ f a b = some d ∧ ∀ z Z' H', Nw Z H Z' H' → Rp K ad Z' z d → Q z H'
def bopOf : BOp → Operator
  | .add => .Add | .sub => .Sub | .mul => .Mult | .mod => .Mod | .fdiv => .FloorDiv | .pow => .Pow
def copOf : COp → CmpOp
  | .eq => .Eq | .ne => .NotEq | .lt => .Lt | .le => .LtE | .gt => .Gt | .ge => .GtE | .is => .Is | .nis => .IsNot | .in_ => .In | .nin => .NotIn

theorem new_lst {K : PySem.W.Frag} {p : Addr} {vs : List V} {ds : List D} (z : ZOk Z H) (hp : H p = none) (h : Rps K ad Z vs ds) : Nw Z H (upd Z p (.lst vs)) (upd H p (.lst vs)) ∧ Rp K ad (upd Z p (.lst vs)) (.ref p) (.lst ds) :=
  have n : Nw Z H (upd Z p (.lst vs)) (upd H p (.lst vs)) := Nx.new z hp rfl
  ⟨n, .lst (.of upd_same) (h.le n.zz)⟩
theorem new_tup {K : PySem.W.Frag} {p : Addr} {vs : List V} {ds : List D} (z : ZOk Z H) (hp : H p = none) (h : Rps K ad Z vs ds) : Nw Z H (upd Z p (.tup vs)) (upd H p (.tup vs)) ∧ Rp K ad (upd Z p (.tup vs)) (.ref p) (.tup ds) :=
  have n : Nw Z H (upd Z p (.tup vs)) (upd H p (.tup vs)) := Nx.new z hp rfl
  ⟨n, .tup upd_same (h.le n.zz)⟩
theorem cat_any {a b : Addr} {xs ys : List V} {Q : VK} (I : Inv X pins σ H s) (ha : Rd H a (.lst xs)) (hb : Rd H b (.lst ys)) (hz : xs.length + ys.length ≤ sizeLine) (q : ∀ p, H p = none → Q (.ref p) (upd H p (.lst (xs ++ ys)))) :
    wpAny (model X.prog X.w) X.A (binaryOp .Add (.ref a) (.ref b)) (EP X pins σ Q) X.xe s := by
  obtain ⟨z, its, n, r, e⟩ := ha.ok I.hok
  obtain ⟨z2, its2, n2, r2, e2⟩ := hb.ok I.hok
  have hl := r.length
  have hl2 := r2.length
  refine PySem.P.add_list e e2 ?_ (by rw [List.size_toArray, List.size_toArray]; omega)
  have ea : its.toArray ++ its2.toArray = (its ++ its2).toArray := by simp
  rw [ea]
  exact ⟨.ref _, _, I.lnew (t' := s.toks) (r.append r2) (by rw [List.length_append]; omega), rfl, q _ I.fresh⟩

theorem op_binD (op : BOp) : OpR X (binaryOp (bopOf op)) (rD X.K ad (dbin op)) := by
  intro pins s σ H x y v u Q I rx ry h
  obtain ⟨Z, a, b, d, z, ra, rb, e, q⟩ := h
  cases op with
  | add =>
    cases a with
    | int i =>
      cases b with
      | int j =>
        cases ra; cases rb; cases e
        exact op_add pins s σ H _ _ v u Q I rx ry ⟨i, j, rfl, rfl, q _ _ _ (Nx.refl z) (.int _)⟩
      | _ => cases e
    | str i =>
      cases b with
      | str j =>
        cases ra; cases rb
        have e : (if i.length + j.length ≤ sizeLine then some (D.str (i ++ j)) else none) = some d := e
        split at e
        · rename_i hl
          cases e
          exact op_add_str pins s σ H _ _ v u Q I rx ry ⟨i, j, rfl, rfl, hl, q _ _ _ (Nx.refl z) (.str _)⟩
        · cases e
      | _ => cases e
    | lst xs =>
      cases b with
      | lst ys =>
        cases ra with
        | lst ha hxs =>
          cases rb with
          | lst hb hys =>
            have e : (if xs.length + ys.length ≤ sizeLine then some (D.lst (xs ++ ys)) else none) = some d := e
            split at e
            · rename_i hl
              cases e; cases rx; cases ry
              refine cat_any I (rd_le z.le ha) (rd_le z.le hb) (by rw [hxs.length, hys.length]; exact hl) fun p hp => ?_
              obtain ⟨n, r⟩ := new_lst z hp (hxs.append hys)
              exact q _ _ _ n r
            · cases e
      | _ => cases e
    | tup xs =>
      cases b with
      | tup ys =>
        cases ra with
        | tup ha hxs =>
          cases rb with
          | tup hb hys =>
            have e : (if xs.length + ys.length ≤ sizeLine then some (D.tup (xs ++ ys)) else none) = some d := e
            split at e
            · rename_i hl
              cases e
              refine op_catA pins s σ H _ _ v u Q I rx ry ⟨_, _, _, _, rfl, rfl, SqT.of (z.le _ _ ha), SqT.of (z.le _ _ hb), by rw [hxs.length, hys.length]; exact hl, fun e1 => ?_, fun _ e2 => ?_, fun _ _ p hp => ?_⟩
              · have e3 : xs = [] := List.length_eq_zero_iff.mp (by rw [← hxs.length, e1]; rfl)
                subst e3
                exact q _ _ _ (Nx.refl z) (.tup hb hys)
              · have e3 : ys = [] := List.length_eq_zero_iff.mp (by rw [← hys.length, e2]; rfl)
                subst e3
                rw [List.append_nil] at q
                exact q _ _ _ (Nx.refl z) (.tup ha hxs)
              · obtain ⟨n, r⟩ := new_tup z hp (hxs.append hys)
                exact q _ _ _ n r
            · cases e
      | _ => cases e
    | _ => cases e
  | sub =>
    cases a with
    | int i =>
      cases b with
      | int j =>
        cases ra; cases rb; cases e
        exact op_sub pins s σ H _ _ v u Q I rx ry ⟨i, j, rfl, rfl, q _ _ _ (Nx.refl z) (.int _)⟩
      | _ => cases e
    | _ => cases e
  | mul =>
    cases a with
    | int i =>
      cases b with
      | int j =>
        cases ra; cases rb
        have e : (if mulOk i j then some (D.int (i * j)) else none) = some d := e
        split at e
        · rename_i hm
          cases e
          refine op_mul pins s σ H _ _ v u Q I rx ry ⟨i, j, rfl, rfl, ?_, q _ _ _ (Nx.refl z) (.int _)⟩
          simpa [mulOk, CMul] using hm
        · cases e
      | _ => cases e
    | _ => cases e
  | mod =>
    cases a with
    | int i =>
      cases b with
      | int j =>
        cases ra; cases rb
        have e : (if 0 < j then some (D.int (i % j)) else none) = some d := e
        split at e
        · rename_i hm
          cases e
          exact op_mod pins s σ H _ _ v u Q I rx ry ⟨i, j, rfl, rfl, hm, q _ _ _ (Nx.refl z) (.int _)⟩
        · cases e
      | _ => cases e
    | _ => cases e
  | fdiv =>
    cases a with
    | int i =>
      cases b with
      | int j =>
        cases ra; cases rb
        have e : (if 0 < j ∧ j < 1073741824 then some (D.int (i / j)) else none) = some d := e
        split at e
        · rename_i hm
          cases e
          exact op_fdiv pins s σ H _ _ v u Q I rx ry ⟨i, j, rfl, rfl, hm, q _ _ _ (Nx.refl z) (.int _)⟩
        · cases e
      | _ => cases e
    | _ => cases e
  | pow =>
    cases a with
    | int i =>
      cases b with
      | int j =>
        cases ra; cases rb
        have e : (if 0 ≤ j ∧ j ≤ 1000 ∧ i.natAbs < 2 ^ 64 then some (D.int (i ^ j.toNat)) else none) = some d := e
        split at e
        · rename_i hm
          cases e
          exact op_pow pins s σ H _ _ v u Q I rx ry ⟨i, j, rfl, rfl, ⟨hm.1, by omega, hm.2.2⟩, q _ _ _ (Nx.refl z) (.int _)⟩
        · cases e
      | _ => cases e
    | _ => cases e
end
end Rf
end

section
set_option Elab.async false
set_option linter.all false
set_option maxRecDepth 100000
set_option maxHeartbeats 2000000
/-! Comparisons, items, slices by values. -/
namespace Rf
open PySem PySem.Spec PyProof.Rows L2
section
variable {X : Cx} {ad : Str → Addr} {pins : List (Addr × Obj)} {σ : L2.St} {Z H : Hp} {s : Shared}

theorem fin_blD {Q : VK} {k : Bool} {d : D} (I : Inv X pins σ H s) (z : ZOk Z H) (q : ∀ z Z' H', Nw Z H Z' H' → Rp X.K ad Z' z d → Q z H') (e : d = .bl k) : EP X pins σ Q (.bool k) s :=
  ⟨.bl k, H, I, rfl, q _ _ _ (Nx.refl z) (by subst e; exact .bl k)⟩
theorem py_some {a : D} {x : PyData} (h : py a = some x) : pyN 40 a = some x := h
/-- the dict at its key, by data -/
theorem dget_of {a k : D} {r : Option D} {x y : V} (z : ZOk Z H) (ra : Rp X.K ad Z x a) (rk : Rp X.K ad Z y k) (e : dget a k = some r) : ∃ p o, x = .ref p ∧ DGet H p y o ∧ (∀ d, r = some d → ∃ v, o = some v ∧ Rp X.K ad Z v d) ∧ (r = none → o = none) := by
  have valK : ∀ {κ : Type} [DecidableEq κ] (vs : List (κ × V)) (ds : List (κ × D)) (q : κ), (∀ i : Nat, (∀ k v, vs[i]? = some (k, v) → ∃ d, ds[i]? = some (k, d) ∧ Rp X.K ad Z v d) ∧ (vs.length = ds.length)) → (∀ d, valD ds q = some d → ∃ v, valV vs q = some v ∧ Rp X.K ad Z v d) ∧ (valD ds q = none → valV vs q = none) := by
    intro κ _ vs
    induction vs with
    | nil =>
      intro ds q h
      have : ds = [] := List.length_eq_zero_iff.mp (h 0).2.symm
      subst this
      exact ⟨fun d e => by simp [valD] at e, fun _ => rfl⟩
    | cons kv vs ih =>
      intro ds q h
      obtain ⟨k, v⟩ := kv
      cases ds with
      | nil => exact absurd (h 0).2 (by simp)
      | cons kd ds =>
        obtain ⟨d, e1, r⟩ := (h 0).1 k v (by simp)
        have e1 : kd = (k, d) := by simpa using e1
        subst e1
        by_cases hq : k = q
        · have e2 : valD ((k, d) :: ds) q = some d := by simp [valD, List.find?_cons, hq]
          rw [e2]
          exact ⟨fun d' e' => by cases e'; exact ⟨v, by simp [valV, List.find?_cons, hq], r⟩, fun e' => by cases e'⟩
        · have e2 : valD ((k, d) :: ds) q = valD ds q := by simp [valD, List.find?_cons, hq]
          have e3 : valV ((k, v) :: vs) q = valV vs q := by simp [valV, List.find?_cons, hq]
          rw [e2, e3]
          exact ih ds q fun i => ⟨fun k' v' e' => by simpa using (h (i + 1)).1 k' v' (by simpa using e'), by simpa using (h 0).2⟩
  have ixK : ∀ {vs : List (Key × V)} {ds : List (Key × D)}, RpK X.K ad Z vs ds → ∀ i : Nat, (∀ k v, vs[i]? = some (k, v) → ∃ d, ds[i]? = some (k, d) ∧ Rp X.K ad Z v d) ∧ vs.length = ds.length := by
    intro vs
    induction vs with
    | nil => intro ds h i; cases h; exact ⟨fun _ _ e => by simp at e, rfl⟩
    | cons kv vs ih =>
      intro ds h i
      cases h with
      | cons h1 h2 =>
        refine ⟨fun k v e => ?_, by simpa using (ih h2 0).2⟩
        cases i with
        | zero => simp at e; obtain ⟨rfl, rfl⟩ := e; exact ⟨_, rfl, h1⟩
        | succ i => simpa using (ih h2 i).1 k v (by simpa using e)
  have ixT : ∀ {vs : List (List Key × V)} {ds : List (List Key × D)}, RpT X.K ad Z vs ds → ∀ i : Nat, (∀ k v, vs[i]? = some (k, v) → ∃ d, ds[i]? = some (k, d) ∧ Rp X.K ad Z v d) ∧ vs.length = ds.length := by
    intro vs
    induction vs with
    | nil => intro ds h i; cases h; exact ⟨fun _ _ e => by simp at e, rfl⟩
    | cons kv vs ih =>
      intro ds h i
      cases h with
      | cons h1 h2 =>
        refine ⟨fun k v e => ?_, by simpa using (ih h2 0).2⟩
        cases i with
        | zero => simp at e; obtain ⟨rfl, rfl⟩ := e; exact ⟨_, rfl, h1⟩
        | succ i => simpa using (ih h2 i).1 k v (by simpa using e)
  have keyV : ∀ {k : D} {y : V} {q : Key}, Rp X.K ad Z y k → kOf k = some q → y = kV q := fun {k y q} h e => by
    cases h <;> cases e <;> rfl
  have keysV : ∀ (ks : List D) (ys : List V) (qs : List Key), Rps X.K ad Z ys ks → oall (ks.map kOf) = some qs → ys = qs.map kV := by
    intro ks
    induction ks with
    | nil => intro ys qs h e; cases h; cases e; rfl
    | cons k ks ih =>
      intro ys qs h e
      obtain ⟨q, zs, e1, e2, rfl⟩ := oall_cons e
      cases h with
      | cons h1 h2 => rw [keyV h1 e1, ih _ _ h2 e2]; rfl
  cases ra with
  | dk hp hr =>
    obtain ⟨q, e1, e2⟩ := Option.map_eq_some_iff.mp (show (kOf k).map (fun q => valD _ q) = some r from e)
    refine ⟨_, _, rfl, .inl ⟨_, q, .inl (z.le _ _ hp), keyV rk e1, rfl⟩, ?_⟩
    rw [← e2]
    exact valK _ _ q (ixK hr)
  | dt hp hr =>
    obtain ⟨q, e1, e2⟩ := Option.map_eq_some_iff.mp (show (ksOf k).map (fun q => valD _ q) = some r from e)
    cases rk with
    | tup ht hs =>
      have e3 := keysV _ _ q hs e1
      subst e3
      refine ⟨_, _, rfl, .inr ⟨_, q, _, .inl (z.le _ _ hp), rfl, z.le _ _ ht, rfl⟩, ?_⟩
      rw [← e2]
      exact valK _ _ q (ixT hr)
    | _ => cases e1
  | _ => cases e

theorem op_cmpD (op : COp) (hu : X.A.units + 64 < cLine) : OpR X (compareOp (copOf op)) (rD X.K ad fun a b => (dcmp op a b).map .bl) := by
  intro pins s σ H x y v u Q I rx ry h
  obtain ⟨Z, a, b, d, z, ra, rb, e, q⟩ := h
  obtain ⟨k, e0, rfl⟩ := Option.map_eq_some_iff.mp (show (dcmp op a b).map D.bl = some d from e)
  clear e
  have e := e0
  clear e0
  have two : ∀ {da db : PyData}, py a = some da → py b = some db → (∃ as, Reads s.heap v da as ∧ da.plain = true ∧ da.depth ≤ 40) ∧ (∃ bs, Reads s.heap u db bs ∧ db.plain = true ∧ db.depth ≤ 40) := fun h1 h2 =>
    ⟨reads_of I z 40 _ _ _ _ ra h1 rx, reads_of I z 40 _ _ _ _ rb h2 ry⟩
  have ord : ∀ {da db : PyData}, dord a b = some (da, db) → ∃ as bs, Reads s.heap v da as ∧ Reads s.heap u db bs ∧ W.alike da db = true ∧ da ≠ .none ∧ X.A.units + min da.depth db.depth < cLine := fun {da db} h => by
    unfold dord at h
    split at h
    · rename_i x y h1 h2
      split at h
      · rename_i h3
        cases h
        obtain ⟨⟨as, r1, _, d1⟩, ⟨bs, r2, _, d2⟩⟩ := two h1 h2
        refine ⟨as, bs, r1, r2, h3.1, fun e => ?_, by omega⟩
        subst e
        exact absurd h3.2 (by simp [notN])
      · cases h
    · cases h
  have eqs : ∀ {r : Bool}, deq a b = some r → ∃ da db as bs, Reads s.heap v da as ∧ Reads s.heap u db bs ∧ da.plain = true ∧ db.plain = true ∧ X.A.units + min da.depth db.depth < cLine ∧ r = PyData.eqv da db := fun {r} h => by
    unfold deq at h
    split at h
    · rename_i x y h1 h2
      cases h
      obtain ⟨⟨as, r1, p1, d1⟩, ⟨bs, r2, p2, d2⟩⟩ := two h1 h2
      exact ⟨_, _, as, bs, r1, r2, p1, p2, by omega, rfl⟩
    · cases h
  have seq : ∀ {xs : List D} {mk : List PyData → PyData} {r : Bool}, (b = .lst xs ∧ mk = .list ∨ b = .tup xs ∧ mk = .tuple) → dcont a b = some r → ∃ da ds as bs, Reads s.heap v da as ∧ Reads s.heap u (mk ds) bs ∧ da.plain = true ∧ PyData.plainAll ds = true ∧ X.A.units + 1 + min (PyData.depthAll ds) da.depth < cLine ∧ r = ds.any fun z => PyData.eqv z da := by
    intro xs mk r hb h
    have h : (match py a, pys xs with
      | some d, some ds => some (ds.any fun z => PyData.eqv z d)
      | _, _ => none) = some r := by rcases hb with ⟨e, _⟩ | ⟨e, _⟩ <;> (subst e; exact h)
    split at h
    · rename_i d ds h1 h2
      cases h
      obtain ⟨as, r1, p1, d1⟩ := reads_of I z 40 _ _ _ _ ra h1 rx
      have h3 : pyN 40 b = some (mk ds) := by
        rcases hb with ⟨e, e'⟩ | ⟨e, e'⟩ <;> subst e e'
        · show (oall (xs.map (pyN 39))).map PyData.list = _
          rw [show oall (xs.map (pyN 39)) = some ds from h2]; rfl
        · show (oall (xs.map (pyN 39))).map PyData.tuple = _
          rw [show oall (xs.map (pyN 39)) = some ds from h2]; rfl
      obtain ⟨bs, r2, p2, d2⟩ := reads_of I z 40 _ _ _ _ rb h3 ry
      have p2' : PyData.plainAll ds = true := by rcases hb with ⟨_, e'⟩ | ⟨_, e'⟩ <;> (subst e'; simpa [PyData.plain] using p2)
      have d2' : PyData.depthAll ds ≤ 40 := by rcases hb with ⟨_, e'⟩ | ⟨_, e'⟩ <;> (subst e'; simp only [PyData.depth] at d2; omega)
      exact ⟨_, _, as, bs, r1, r2, p1, p2', by omega, rfl⟩
    · cases h
  cases op with
  | eq =>
    obtain ⟨da, db, as, bs, r1, r2, p1, p2, hd, rfl⟩ := eqs e
    exact SeqAt.eq_plain r1 r2 p1 p2 hd (fin_blD (ad := ad) I z q rfl)
  | ne =>
    obtain ⟨r, e1, rfl⟩ := Option.map_eq_some_iff.mp (show (deq a b).map (!·) = some k from e)
    obtain ⟨da, db, as, bs, r1, r2, p1, p2, hd, rfl⟩ := eqs e1
    exact SeqAt.ne_plain r1 r2 p1 p2 hd (fin_blD (ad := ad) I z q rfl)
  | lt =>
    obtain ⟨⟨da, db⟩, e1, rfl⟩ := Option.map_eq_some_iff.mp (show (dord a b).map (fun p => W.dataLt p.1 p.2) = some k from e)
    obtain ⟨as, bs, r1, r2, hl, hn, hd⟩ := ord e1
    exact W.lt_data r1 r2 hl hn hd (fin_blD (ad := ad) I z q rfl)
  | gt =>
    obtain ⟨⟨da, db⟩, e1, rfl⟩ := Option.map_eq_some_iff.mp (show (dord a b).map (fun p => W.dataLt p.2 p.1) = some k from e)
    obtain ⟨as, bs, r1, r2, hl, hn, hd⟩ := ord e1
    exact W.gt_data r1 r2 hl hn hd (fin_blD (ad := ad) I z q rfl)
  | le =>
    obtain ⟨⟨da, db⟩, e1, rfl⟩ := Option.map_eq_some_iff.mp (show (dord a b).map (fun p => !W.dataLt p.2 p.1) = some k from e)
    obtain ⟨as, bs, r1, r2, hl, hn, hd⟩ := ord e1
    exact W.le_data r1 r2 hl hn hd (fin_blD (ad := ad) I z q rfl)
  | ge =>
    obtain ⟨⟨da, db⟩, e1, rfl⟩ := Option.map_eq_some_iff.mp (show (dord a b).map (fun p => !W.dataLt p.1 p.2) = some k from e)
    obtain ⟨as, bs, r1, r2, hl, hn, hd⟩ := ord e1
    exact W.ge_data r1 r2 hl hn hd (fin_blD (ad := ad) I z q rfl)
  | is =>
    cases b with
    | non =>
      cases rb
      refine op_isN pins s σ H _ _ v u Q I rx ry ⟨rfl, ?_⟩
      have e : some (isN a) = some k := e
      cases e
      refine q _ _ _ (Nx.refl z) ?_
      cases ra <;> exact .bl _
    | bl c =>
      cases a with
      | bl d =>
        cases ra; cases rb; cases e
        refine op_isBl pins s σ H _ _ v u Q I rx ry ⟨d, c, rfl, rfl, ?_⟩
        exact q _ _ _ (Nx.refl z) (by rw [show (d == c) = decide (d = c) from rfl]; exact .bl _)
      | _ => cases e
    | _ => cases e
  | nis =>
    obtain ⟨r, e1, rfl⟩ := Option.map_eq_some_iff.mp (show (dis a b).map (!·) = some k from e)
    cases b with
    | non =>
      cases rb
      refine op_notN pins s σ H _ _ v u Q I rx ry ⟨rfl, ?_⟩
      have e1 : some (isN a) = some r := e1
      cases e1
      refine q _ _ _ (Nx.refl z) ?_
      cases ra <;> exact .bl _
    | bl c =>
      cases a with
      | bl d =>
        cases ra; cases rb; cases e1
        refine op_notBl pins s σ H _ _ v u Q I rx ry ⟨d, c, rfl, rfl, ?_⟩
        exact q _ _ _ (Nx.refl z) (by rw [show (d == c) = decide (d = c) from rfl]; exact .bl _)
      | _ => cases e1
    | _ => cases e1
  | in_ =>
    cases b with
    | lst xs =>
      obtain ⟨da, ds, as, bs, r1, r2, p1, p2, hd, rfl⟩ := seq (.inl ⟨rfl, rfl⟩) e
      exact SeqAt.in_list_data r2 r1 p2 p1 hd (fin_blD (ad := ad) I z q rfl)
    | tup xs =>
      obtain ⟨da, ds, as, bs, r1, r2, p1, p2, hd, rfl⟩ := seq (.inr ⟨rfl, rfl⟩) e
      exact SeqAt.in_tuple_data r2 r1 p2 p1 hd (fin_blD (ad := ad) I z q rfl)
    | str t =>
      cases a with
      | str c =>
        cases ra; cases rb; cases e
        exact op_in_str pins s σ H _ _ v u Q I rx ry ⟨c, t, rfl, rfl, q _ _ _ (Nx.refl z) (.bl _)⟩
      | _ => cases e
    | dk kvs =>
      obtain ⟨r, e1, rfl⟩ := Option.map_eq_some_iff.mp (show (dget (.dk kvs) a).map (·.isSome) = some k from e)
      obtain ⟨p, o, rfl, g, m⟩ := dget_of z rb ra e1
      cases (show u = Value.ref p from ry)
      refine d_in (by omega) I g rx fun s' I' => ?_
      refine fin_blD (ad := ad) I' z q ?_
      cases r with
      | none => rw [m.2 rfl]; rfl
      | some d => obtain ⟨v, e2, _⟩ := m.1 d rfl; rw [e2]; rfl
    | dt kvs =>
      obtain ⟨r, e1, rfl⟩ := Option.map_eq_some_iff.mp (show (dget (.dt kvs) a).map (·.isSome) = some k from e)
      obtain ⟨p, o, rfl, g, m⟩ := dget_of z rb ra e1
      cases (show u = Value.ref p from ry)
      refine d_in (by omega) I g rx fun s' I' => ?_
      refine fin_blD (ad := ad) I' z q ?_
      cases r with
      | none => rw [m.2 rfl]; rfl
      | some d => obtain ⟨v, e2, _⟩ := m.1 d rfl; rw [e2]; rfl
    | _ => cases e
  | nin =>
    obtain ⟨r, e0, rfl⟩ := Option.map_eq_some_iff.mp (show (dcont a b).map (!·) = some k from e)
    clear e
    have e := e0
    clear e0
    cases b with
    | lst xs =>
      obtain ⟨da, ds, as, bs, r1, r2, p1, p2, hd, rfl⟩ := seq (.inl ⟨rfl, rfl⟩) e
      exact SeqAt.notIn_list_data r2 r1 p2 p1 hd (fin_blD (ad := ad) I z q rfl)
    | tup xs =>
      obtain ⟨da, ds, as, bs, r1, r2, p1, p2, hd, rfl⟩ := seq (.inr ⟨rfl, rfl⟩) e
      exact SeqAt.notIn_tuple_data r2 r1 p2 p1 hd (fin_blD (ad := ad) I z q rfl)
    | str t =>
      cases a with
      | str c =>
        cases ra; cases rb; cases e
        exact op_notin_str pins s σ H _ _ v u Q I rx ry ⟨c, t, rfl, rfl, q _ _ _ (Nx.refl z) (.bl _)⟩
      | _ => cases e
    | dk kvs =>
      obtain ⟨r, e1, rfl⟩ := Option.map_eq_some_iff.mp (show (dget (.dk kvs) a).map (·.isSome) = some r from e)
      obtain ⟨p, o, rfl, g, m⟩ := dget_of z rb ra e1
      cases (show u = Value.ref p from ry)
      refine d_notIn (by omega) I g rx fun s' I' => ?_
      refine fin_blD (ad := ad) I' z q ?_
      cases r with
      | none => rw [m.2 rfl]; rfl
      | some d => obtain ⟨v, e2, _⟩ := m.1 d rfl; rw [e2]; rfl
    | dt kvs =>
      obtain ⟨r, e1, rfl⟩ := Option.map_eq_some_iff.mp (show (dget (.dt kvs) a).map (·.isSome) = some r from e)
      obtain ⟨p, o, rfl, g, m⟩ := dget_of z rb ra e1
      cases (show u = Value.ref p from ry)
      refine d_notIn (by omega) I g rx fun s' I' => ?_
      refine fin_blD (ad := ad) I' z q ?_
      cases r with
      | none => rw [m.2 rfl]; rfl
      | some d => obtain ⟨v, e2, _⟩ := m.1 d rfl; rw [e2]; rfl
    | _ => cases e
end
end Rf
end

section
set_option Elab.async false
set_option linter.all false
set_option maxRecDepth 100000
set_option maxHeartbeats 2000000
/-! Items, slices, built-in functions by values. -/
namespace Rf
open PySem PySem.Spec PyProof.Rows L2
section
variable {X : Cx} {ad : Str → Addr} {pins : List (Addr × Obj)} {σ : L2.St} {Z H : Hp} {s : Shared}

theorem Rps.atI {K : PySem.W.Frag} {vs : List V} {ds : List D} {i : Int} {d : D} (h : Rps K ad Z vs ds) (e : atI ds i = some d) : ∃ v, L2.atI vs i = some v ∧ Rp K ad Z v d := by
  unfold L2.atI at e ⊢
  obtain ⟨j, e1, e2⟩ := Option.bind_eq_some_iff.mp e
  rw [h.length, e1]
  exact h.get e2
/-- a[i] by what it does with the data -/
theorem ix_D (hu : X.A.units + 64 < cLine) : IxR X (rD X.K ad didx) := by
  intro value slice pins s σ H x y v u Q I rx ry h hs
  obtain ⟨Z, a, b, d, z, ra, rb, e, q⟩ := h
  have dict : ∀ {a' : D}, a' = a → (dget a' b).join = some d → wpAny (model X.prog X.w) X.A (subscriptTail value slice v u) (EP X pins σ Q) X.xe s := fun {a'} ea e' => by
    subst ea
    clear e
    have e := e'
    clear e'
    cases g0 : dget a' b with
    | none => rw [g0] at e; cases e
    | some r =>
      rw [g0] at e
      have e : r = some d := e
      subst e
      obtain ⟨p, o, rfl, g, m⟩ := dget_of z ra rb g0
      obtain ⟨w, e2, rw⟩ := m.1 d rfl
      subst e2
      cases (show v = Value.ref p from rx)
      exact tail_any (dict_typeIs I g) PySem.F.slot_dict_getitem.lookup (d_getItem (by omega) I g ry fun w' s' I' rw' => ⟨w, H, I', rw', q _ _ _ (Nx.refl z) rw⟩) hs
  cases a with
  | lst xs =>
    cases b with
    | int j =>
      cases ra with
      | lst hp hr =>
        cases rb
        obtain ⟨w, e1, rw⟩ := hr.atI (show L2.atI xs j = some d from e)
        exact ix_list value slice pins s σ H _ _ v u Q I rx ry ⟨_, _, j, w, rfl, rfl, .inl (rd_le z.le hp), e1, q _ _ _ (Nx.refl z) rw⟩ hs
    | _ => cases e
  | tup xs =>
    cases b with
    | int j =>
      cases ra with
      | tup hp hr =>
        cases rb
        obtain ⟨w, e1, rw⟩ := hr.atI (show L2.atI xs j = some d from e)
        exact ix_tup value slice pins s σ H _ _ v u Q I rx ry ⟨_, _, j, w, rfl, rfl, .of (z.le _ _ hp), e1, q _ _ _ (Nx.refl z) rw⟩ hs
    | _ => cases e
  | str t =>
    cases b with
    | int j =>
      cases ra; cases rb
      have e : (if t.length ≤ sizeLine then (L2.atI t.cps.toList j).map fun c => D.str ⟨#[c]⟩ else none) = some d := e
      split at e
      · rename_i hl
        obtain ⟨c, e1, rfl⟩ := Option.map_eq_some_iff.mp e
        exact ix_str value slice pins s σ H _ _ v u Q I rx ry ⟨t, j, c, rfl, rfl, hl, e1, q _ _ _ (Nx.refl z) (.str _)⟩ hs
      · cases e
    | _ => cases e
  | dk kvs => exact dict rfl e
  | dt kvs => exact dict rfl e
  | _ => cases e
theorem Rps.cut {K : PySem.W.Frag} {vs : List V} {ds : List D} (h : Rps K ad Z vs ds) (lo hi : Option Int) : Rps K ad Z (cutV vs lo hi) (cutD ds lo hi) := by
  unfold cutV cutD
  rw [h.length]
  exact (h.drop _).take _
theorem cut_whole {α : Type} {xs : List α} {lo hi : Option Int} (h : HT.sIx xs.length 0 lo = 0 ∧ HT.sIx xs.length xs.length hi = xs.length) : cutD xs lo hi = xs := by
  unfold cutD
  rw [h.1, h.2, List.drop_zero, Nat.sub_zero, List.take_length]
/-- a slice by what it does with the data -/
def rSlD (K : PySem.W.Frag) (ad : Str → Addr) : V → Option Int → Option Int → Hp → VK → Prop := fun x lo hi H Q => ∃ Z a d, ZOk Z H ∧ Rp K ad Z x a ∧ dslc a lo hi = some d ∧ ∀ z Z' H', Nw Z H Z' H' → Rp K ad Z' z d → Q z H'
theorem sl_D : SlR X (rSlD X.K ad) := by
  intro pins s σ H x v vl vu lo hi sl Q I rx hs pl pu h
  obtain ⟨Z, a, d, z, ra, e, q⟩ := h
  cases a with
  | lst xs =>
    cases e
    cases ra with
    | lst hp hr =>
      refine sl_list pins s σ H _ v vl vu lo hi sl Q I rx hs pl pu ⟨_, _, rfl, .inl (rd_le z.le hp), fun p hp => ?_⟩
      obtain ⟨n, r⟩ := new_lst z hp (hr.cut lo hi)
      exact q _ _ _ n r
  | tup xs =>
    cases e
    cases ra with
    | tup hp hr =>
      refine sl_tupA pins s σ H _ v vl vu lo hi sl Q I rx hs pl pu ⟨_, _, rfl, .of (z.le _ _ hp), fun hw => ?_, fun hw p hp' => ?_⟩
      · rw [hr.length] at hw
        rw [cut_whole hw] at q
        exact q _ _ _ (Nx.refl z) (.tup hp hr)
      · obtain ⟨n, r⟩ := new_tup z hp' (hr.cut lo hi)
        exact q _ _ _ n r
  | _ => cases e

/-! ### built-in functions -/
def rP (K : PySem.W.Frag) (ad : Str → Addr) (p : Prim) : List V → Hp → VK → Prop := fun xs H Q => ∃ Z ds d, ZOk Z H ∧ Rps K ad Z xs ds ∧ dprim p ds = some d ∧ ∀ z Z' H', Nw Z H Z' H' → Rp K ad Z' z d → Q z H'
theorem Rps.one {K : PySem.W.Frag} {vs : List V} {d : D} (h : Rps K ad Z vs [d]) : ∃ v, vs = [v] ∧ Rp K ad Z v d := by
  cases h with
  | cons h1 h2 => cases h2; exact ⟨_, rfl, h1⟩
theorem Rps.two {K : PySem.W.Frag} {vs : List V} {d e : D} (h : Rps K ad Z vs [d, e]) : ∃ v w, vs = [v, w] ∧ Rp K ad Z v d ∧ Rp K ad Z w e := by
  cases h with
  | cons h1 h2 => obtain ⟨w, rfl, hw⟩ := h2.one; exact ⟨_, w, rfl, h1, hw⟩
theorem RpK.len {K : PySem.W.Frag} : ∀ {vs : List (Key × V)} {ds : List (Key × D)}, RpK K ad Z vs ds → vs.length = ds.length
  | _, _, .nil => rfl
  | _, _, .cons _ r => congrArg (· + 1) (RpK.len r)
theorem RpT.len {K : PySem.W.Frag} : ∀ {vs : List (List Key × V)} {ds : List (List Key × D)}, RpT K ad Z vs ds → vs.length = ds.length
  | _, _, .nil => rfl
  | _, _, .cons _ r => congrArg (· + 1) (RpT.len r)

theorem prim_len : CallR X (.builtin "len") (rP X.K ad .len) := by
  intro pins s σ H xs us Q I r h
  obtain ⟨Z, ds, d, z, ra, e, q⟩ := h
  obtain ⟨a, rfl⟩ : ∃ a, ds = [a] := by
    rcases ds with _ | ⟨a, _ | ⟨b, l⟩⟩
    · cases e
    · exact ⟨a, rfl⟩
    · cases e
  obtain ⟨n, e1, rfl⟩ := Option.map_eq_some_iff.mp (show lenD a = some d from e)
  obtain ⟨x, rfl, rx⟩ := ra.one
  cases a with
  | lst ys =>
    cases rx with
    | lst hp hr =>
      cases e1
      refine call_len_seq pins s σ H _ us Q I r ⟨_, _, rfl, .inl (.inl (rd_le z.le hp)), ?_⟩
      rw [hr.length]
      exact q _ _ _ (Nx.refl z) (.int _)
  | tup ys =>
    cases rx with
    | tup hp hr =>
      cases e1
      refine call_len_seq pins s σ H _ us Q I r ⟨_, _, rfl, .inr (.of (z.le _ _ hp)), ?_⟩
      rw [hr.length]
      exact q _ _ _ (Nx.refl z) (.int _)
  | str t =>
    cases rx
    have e1 : (if t.length ≤ sizeLine then some t.length else none) = some n := e1
    split at e1
    · rename_i hl
      cases e1
      exact call_len_str pins s σ H _ us Q I r ⟨t, rfl, hl, q _ _ _ (Nx.refl z) (.int _)⟩
    · cases e1
  | dk kvs =>
    cases rx with
    | dk hp hr =>
      cases e1
      obtain ⟨u, rfl, ru⟩ := vals1 r
      cases (show u = Value.ref _ from ru)
      refine d_len I (.inl (z.le _ _ hp)) fun t s' I' => ⟨.int _, H, I', ⟨_, rfl⟩, ?_⟩
      rw [hr.len]
      exact q _ _ _ (Nx.refl z) (.int _)
  | dt kvs =>
    cases rx with
    | dt hp hr =>
      cases e1
      refine call_len_dT pins s σ H _ us Q I r ⟨_, _, rfl, z.le _ _ hp, ?_⟩
      rw [hr.len]
      exact q _ _ _ (Nx.refl z) (.int _)
  | _ => cases e1
theorem prim_list : CallR X (.type "list") (rP X.K ad .list) := by
  intro pins s σ H xs us Q I r h
  obtain ⟨Z, ds, d, z, ra, e, q⟩ := h
  obtain ⟨a, rfl⟩ : ∃ a, ds = [a] := by
    rcases ds with _ | ⟨a, _ | ⟨b, l⟩⟩
    · cases e
    · exact ⟨a, rfl⟩
    · cases e
  obtain ⟨x, rfl, rx⟩ := ra.one
  cases a with
  | lst ys =>
    cases rx with
    | lst hp hr =>
      cases e
      refine call_list_of pins s σ H _ us Q I r ⟨_, _, rfl, .inl (.inl (rd_le z.le hp)), fun l hl => ?_⟩
      obtain ⟨n, r⟩ := new_lst z hl hr
      exact q _ _ _ n r
  | tup ys =>
    cases rx with
    | tup hp hr =>
      cases e
      refine call_list_of pins s σ H _ us Q I r ⟨_, _, rfl, .inr (.of (z.le _ _ hp)), fun l hl => ?_⟩
      obtain ⟨n, r⟩ := new_lst z hl hr
      exact q _ _ _ n r
  | _ => cases e
theorem prim_tuple : CallR X (.type "tuple") (rP X.K ad .tuple) := by
  intro pins s σ H xs us Q I r h
  obtain ⟨Z, ds, d, z, ra, e, q⟩ := h
  obtain ⟨a, rfl⟩ : ∃ a, ds = [a] := by
    rcases ds with _ | ⟨a, _ | ⟨b, l⟩⟩
    · cases e
    · exact ⟨a, rfl⟩
    · cases e
  obtain ⟨x, rfl, rx⟩ := ra.one
  cases a with
  | lst ys =>
    cases rx with
    | lst hp hr =>
      cases e
      refine call_tuple_of pins s σ H _ us Q I r ⟨_, _, rfl, .inl ⟨.inl (rd_le z.le hp), fun l hl => ?_⟩⟩
      obtain ⟨n, r⟩ := new_tup z hl hr
      exact q _ _ _ n r
  | tup ys =>
    cases rx with
    | tup hp hr =>
      cases e
      exact call_tuple_of pins s σ H _ us Q I r ⟨_, _, rfl, .inr ⟨.of (z.le _ _ hp), q _ _ _ (Nx.refl z) (.tup hp hr)⟩⟩
  | _ => cases e
theorem prim_int : CallR X (.type "int") (rP X.K ad .int) := by
  intro pins s σ H xs us Q I r h
  obtain ⟨Z, ds, d, z, ra, e, q⟩ := h
  rcases ds with _ | ⟨a, _ | ⟨b, l⟩⟩
  · cases e
  · obtain ⟨x, rfl, rx⟩ := ra.one
    cases a with
    | int i => cases rx; cases e; exact call_int1 pins s σ H _ us Q I r (.inl ⟨i, rfl, q _ _ _ (Nx.refl z) (.int _)⟩)
    | _ => cases e
  · cases e
theorem prim_max2 (hc : X.calm = true) : CallR X (.builtin "max") (rP X.K ad .max2) := by
  intro pins s σ H xs us Q I r h
  obtain ⟨Z, ds, d, z, ra, e, q⟩ := h
  rcases ds with _ | ⟨a, _ | ⟨b, _ | ⟨c, l⟩⟩⟩
  · cases e
  · cases a <;> cases e
  · obtain ⟨x, y, rfl, rx, ry⟩ := ra.two
    cases a with
    | int i => cases b with
      | int j => cases rx; cases ry; cases e; exact call_max2 hc pins s σ H _ us Q I r ⟨i, j, rfl, q _ _ _ (Nx.refl z) (.int _)⟩
      | _ => cases e
    | _ => cases e
  · cases a <;> cases b <;> cases e
theorem prim_min2 (hc : X.calm = true) : CallR X (.builtin "min") (rP X.K ad .min2) := by
  intro pins s σ H xs us Q I r h
  obtain ⟨Z, ds, d, z, ra, e, q⟩ := h
  rcases ds with _ | ⟨a, _ | ⟨b, _ | ⟨c, l⟩⟩⟩
  · cases e
  · cases a <;> cases e
  · obtain ⟨x, y, rfl, rx, ry⟩ := ra.two
    cases a with
    | int i => cases b with
      | int j => cases rx; cases ry; cases e; exact call_min2 hc pins s σ H _ us Q I r ⟨i, j, rfl, q _ _ _ (Nx.refl z) (.int _)⟩
      | _ => cases e
    | _ => cases e
  · cases a <;> cases b <;> cases e
theorem ints_of_rps {K : PySem.W.Frag} : ∀ {ds : List D} {vs : List V} {ns : List Int}, Rps K ad Z vs ds → intsOf ds = some ns → vs = ns.map V.int
  | [], _, _, h, e => by cases h; cases e; rfl
  | d :: ds, _, _, h, e => by
    unfold intsOf at e
    obtain ⟨b, zs, e1, e2, rfl⟩ := oall_cons e
    cases h with
    | cons h1 h2 =>
      cases d with
      | int i => cases e1; cases h1; rw [ints_of_rps h2 e2]; rfl
      | _ => cases e1
theorem prim_sum (hc : X.calm = true) : CallR X (.builtin "sum") (rP X.K ad .sum) := by
  intro pins s σ H xs us Q I r h
  obtain ⟨Z, ds, d, z, ra, e, q⟩ := h
  rcases ds with _ | ⟨a, _ | ⟨b, l⟩⟩
  · cases e
  · obtain ⟨x, rfl, rx⟩ := ra.one
    cases a with
    | lst ys =>
      cases rx with
      | lst hp hr =>
        obtain ⟨ns, e1, rfl⟩ := Option.map_eq_some_iff.mp (show (intsOf ys).map (fun ns : List Int => D.int ns.sum) = some d from e)
        have ev := ints_of_rps hr e1
        subst ev
        exact cr_sum hc pins s σ H _ us Q I r ⟨_, ns, rfl, .inl (rd_le z.le hp), q _ _ _ (Nx.refl z) (.int _)⟩
    | _ => cases e
  · cases e
end
mutual
theorem ofPy_of : ∀ (n : Nat) (d : D) (x : PyData), pyN n d = some x → ofPy x = d
  | 0, _, _, e => by cases e
  | n + 1, d, x, e => by
    cases d with
    | non => cases e; rfl
    | bl b => cases e; rfl
    | int i => cases e; rfl
    | str t => cases e; rfl
    | tup ds =>
      obtain ⟨ys, e1, rfl⟩ := Option.map_eq_some_iff.mp (show (oall (ds.map (pyN n))).map PyData.tuple = some x from e)
      show D.tup (ofPys ys) = _
      rw [ofPys_of n ds ys e1]
    | lst ds =>
      obtain ⟨ys, e1, rfl⟩ := Option.map_eq_some_iff.mp (show (oall (ds.map (pyN n))).map PyData.list = some x from e)
      show D.lst (ofPys ys) = _
      rw [ofPys_of n ds ys e1]
    | _ => cases e
theorem ofPys_of : ∀ (n : Nat) (ds : List D) (xs : List PyData), oall (ds.map (pyN n)) = some xs → ofPys xs = ds
  | _, [], _, e => by cases e; rfl
  | n, d :: ds, xs, e => by
    obtain ⟨b, zs, e1, e2, rfl⟩ := oall_cons e
    show ofPy b :: ofPys zs = _
    rw [ofPy_of n d b e1, ofPys_of n ds zs e2]
end
theorem sortOk_iff {xs : List PyData} (h : sortOk xs = true) : W.AllAlike xs ∧ W.Sortable xs ∧ W.AlikeAll xs := by
  unfold sortOk at h
  rw [Bool.and_eq_true, Bool.or_eq_true] at h
  obtain ⟨h1, h2⟩ := h
  have a : ∀ x ∈ xs, ∀ y ∈ xs, W.alike x y = true := fun x hx y hy => List.all_eq_true.mp (List.all_eq_true.mp h1 x hx) y hy
  have t : ∀ x, tupNe x = true → ∃ y r, x = .tuple (y :: r) := fun x hx => by
    unfold tupNe at hx
    split at hx
    · exact ⟨_, _, rfl⟩
    · cases hx
  have n : ∀ x, notTup x = true → x ≠ .none ∧ ∀ ys, x ≠ .tuple ys := fun x hx => by
    unfold notTup at hx
    split at hx
    · cases hx
    · cases hx
    · rename_i h1 h2
      exact ⟨fun e => h2 e, fun ys e => h1 ys e⟩
  refine ⟨a, ?_, a, ?_⟩
  · rcases h2 with h2 | h2
    · exact .inl fun x hx => t x (List.all_eq_true.mp h2 x hx)
    · exact .inr fun x hx => n x (List.all_eq_true.mp h2 x hx)
  · intro x hx e
    rcases h2 with h2 | h2
    · obtain ⟨y, r, e'⟩ := t x (List.all_eq_true.mp h2 x hx)
      rw [e] at e'; cases e'
    · exact (n x (List.all_eq_true.mp h2 x hx)).1 e
section
variable {X : Cx} {ad : Str → Addr} {pins : List (Addr × Obj)} {σ : L2.St} {Z H : Hp} {s : Shared}
theorem each_of (I : Inv X pins σ H s) (z : ZOk Z H) (n : Nat) : ∀ {ds : List D} {vs : List V} {us : List Value} {xs : List PyData}, Rps X.K ad Z vs ds → Vals vs us → oall (ds.map (pyN n)) = some xs →
    W.EachIs (fun u (b : V × D) => RelV b.1 u ∧ Rp X.K ad Z b.1 b.2) us (vs.zip ds) ∧ W.EachIs (fun u (b : V × D) => ∃ as, Reads s.heap u ((pyN n b.2).getD .none) as) us (vs.zip ds) ∧ (vs.zip ds).map (fun b => (pyN n b.2).getD .none) = xs ∧ (∀ b ∈ vs.zip ds, ((pyN n b.2).getD .none).depth ≤ n)
  | [], _, _, _, h, r, e => by
    cases h; cases r; cases e
    exact ⟨.nil, .nil, rfl, fun b hb => by cases hb⟩
  | d :: ds, _, _, _, h, r, e => by
    obtain ⟨b, zs, e1, e2, rfl⟩ := oall_cons e
    cases h with
    | cons h1 h2 =>
      cases r with
      | cons r1 r2 =>
        obtain ⟨q1, q2, q3, q4⟩ := each_of I z n h2 r2 e2
        obtain ⟨as, w1, w2, w3⟩ := reads_of I z n _ _ _ _ h1 e1 r1
        have ed : (pyN n d).getD .none = b := by rw [e1]; rfl
        refine ⟨.cons ⟨r1, h1⟩ q1, .cons ⟨as, ?_⟩ q2, ?_, ?_⟩
        · show Reads s.heap _ ((pyN n d).getD .none) as
          rw [ed]; exact w1
        · show (pyN n d).getD .none :: _ = _
          rw [ed]
          exact congrArg (b :: ·) q3
        · intro c hc
          rcases List.mem_cons.mp hc with hc | hc
          · subst hc
            show ((pyN n d).getD .none).depth ≤ n
            rw [ed]; exact w3
          · exact q4 c hc
theorem rps_of_each {K : PySem.W.Frag} : ∀ {us : List Value} {bs : List (V × D)}, W.EachIs (fun u (b : V × D) => RelV b.1 u ∧ Rp K ad Z b.1 b.2) us bs → Vals (bs.map (·.1)) us ∧ Rps K ad Z (bs.map (·.1)) (bs.map (·.2))
  | _, _, .nil => ⟨.nil, .nil⟩
  | _, _, .cons h t => let ⟨a, b⟩ := rps_of_each t; ⟨.cons h.1 a, .cons h.2 b⟩
theorem Rps.zip_snd {K : PySem.W.Frag} {vs : List V} {ds : List D} (h : Rps K ad Z vs ds) : (vs.zip ds).map (·.2) = ds := List.map_snd_zip (by rw [h.length]; exact Nat.le_refl _)
theorem prim_sorted (hu : X.A.units + 64 < cLine) : CallR X (.builtin "sorted") (rP X.K ad .sorted) := by
  intro pins s σ H xs us Q I r h
  obtain ⟨Z, ds, d, z, ra, e, q⟩ := h
  rcases ds with _ | ⟨a, _ | ⟨b, l⟩⟩
  · cases e
  · obtain ⟨x, rfl, rx⟩ := ra.one
    cases a with
    | lst ys =>
      cases rx with
      | @lst _ vs0 _ hp hr =>
        obtain ⟨zs, e1, rfl⟩ := Option.map_eq_some_iff.mp (show (sortD ys).map D.lst = some d from e)
        unfold sortD at e1
        split at e1
        · rename_i ps hps
          split at e1
          · rename_i hok
            cases e1
            obtain ⟨its, rv, pl, hz⟩ := I.list (.inl (rd_le z.le hp))
            rw [Vals.ref1 r]
            obtain ⟨w1, w2, w3, w4⟩ := each_of I z 39 hr rv hps
            obtain ⟨k1, k2, k3⟩ := sortOk_iff hok
            have hl : (List.zip vs0 ys).length = ys.length := by rw [List.length_zip, hr.length, Nat.min_self]
            refine W.sorted_data (bs := List.zip vs0 ys) (enc := fun b => (pyN 39 b.2).getD .none) pl.isList w1 w2 (by rw [w3]; exact k1) (by rw [w3]; exact k2) (by rw [hl, ← hr.length]; exact hz) (fun b hb => by have := w4 b hb; omega) fun out h1 h2 => ?_
            obtain ⟨h3, h4⟩ := rps_of_each h2
            have e5 : ((List.zip vs0 ys).mergeSort (W.dataLe false fun b => (pyN 39 b.2).getD .none)).map (·.2) = ys.mergeSort (W.dataLe false pyOr) := by
              exact (W.sort_maps (r := W.dataLe false fun b : V × D => (pyN 39 b.2).getD .none) (s := W.dataLe false pyOr) (fun b : V × D => b.2) (fun _ _ _ _ => rfl)).trans (by rw [hr.zip_snd])
            rw [e5] at h4
            obtain ⟨ep, he'⟩ := PyProof.Rows.sortedAll_at s.heap its out.toArray
            have hn : H (s.heap.objs.size + 1) = none := I.hok.fresh (Nat.le_succ _)
            obtain ⟨n, rr⟩ := new_lst z hn h4
            refine ⟨.ref _, upd H (s.heap.objs.size + 1) (.lst (((List.zip vs0 ys).mergeSort (W.dataLe false fun b => (pyN 39 b.2).getD .none)).map (·.1))), I.laid (t' := s.toks) (fun _ _ => PyProof.Rows.sortedAll_old) (Nat.le_succ _) ⟨?_, out, ep, h3, he'⟩, rfl, q _ _ _ n rr⟩
            rw [h3.length, h1, hl, ← hr.length]; exact hz
          · cases e1
        · cases e1
    | _ => cases e
  · cases e
theorem prim_best {id : String} {f : PyData → List PyData → PyData} (hu : X.A.units + 64 < cLine)
    (rule : ∀ {l : Addr} {vs : Array Value} {x : PyData} {xs : List PyData} {as : List Addr} {s : Shared} {Q : Value → Shared → Prop}, s.heap.IsList l vs → ReadsAll s.heap vs.toList (x :: xs) as → W.AlikeAll (x :: xs) → X.A.units + 1 + PyData.depthAll (x :: xs) < cLine →
      (∀ (i : Nat) v h' tk bs, vs[i]? = some v → Reads h' v (f x xs) bs → (∀ b o, s.heap.get? b = some o → h'.get? b = some o) → Q v { s with heap := h', toks := tk }) → wpAny (model X.prog X.w) X.A (call (.builtin id) [.ref l]) Q X.xe s)
    {p : Prim} (hp : ∀ l, dprim p l = d1 l (onLst (bestOf f))) : CallR X (.builtin id) (rP X.K ad p) := by
  intro pins s σ H xs us Q I r h
  obtain ⟨Z, ds, d, z, ra, e, q⟩ := h
  rcases ds with _ | ⟨a, _ | ⟨b, l⟩⟩
  · rw [hp] at e; cases e
  · obtain ⟨x, rfl, rx⟩ := ra.one
    rw [hp] at e
    cases a with
    | lst ys =>
      cases rx with
      | @lst _ vs0 _ hp hr =>
        have e : bestOf f ys = some d := e
        unfold bestOf at e
        split at e
        · rename_i x0 ps hps
          split at e
          · rename_i hok
            cases e
            obtain ⟨its, rv, pl, hz⟩ := I.list (.inl (rd_le z.le hp))
            rw [Vals.ref1 r]
            obtain ⟨as, w1, w2, w3⟩ := readsAll_of I z 39 _ _ _ _ hr hps rv
            obtain ⟨k1, k2, k3⟩ := sortOk_iff hok
            refine rule pl.isList (by simpa using w1) k3 (by omega) fun i v h' tk bs hv hrd hk => ?_
            have I' : Inv X pins σ H { s with heap := h', toks := tk } := I.kept hk
            have hv : its[i]? = some v := by simpa using hv
            obtain ⟨w, ew, rw⟩ : ∃ w, vs0[i]? = some w ∧ RelV w v := by
              have hi : i < its.length := (List.getElem?_eq_some_iff.mp hv).1
              have : i < vs0.length := by rw [rv.length]; exact hi
              obtain ⟨u, eu, ru⟩ := rv.get (List.getElem?_eq_getElem this)
              rw [hv] at eu; cases eu
              exact ⟨_, List.getElem?_eq_getElem this, ru⟩
            obtain ⟨dw, edw, rdw⟩ := hr.getV ew
            obtain ⟨y, ey, epy⟩ := oall_map hps i dw edw
            obtain ⟨bs', r', pl', _⟩ := reads_of I' z 39 _ _ _ _ rdw epy rw
            have e9 := SeqAt.plain_unique _ _ _ _ _ pl' r' hrd
            refine ⟨w, H, I', rw, q _ _ _ (Nx.refl z) ?_⟩
            rw [← e9, ofPy_of 39 dw y epy]
            exact rdw
          · cases e
        · cases e
    | _ => cases e
  · rw [hp] at e; cases e
theorem prim_max (hc : X.calm = true) (hu : X.A.units + 64 < cLine) : CallR X (.builtin "max") (rP X.K ad .max) := by
  intro pins s σ H xs us Q I r h
  exact prim_best hu (fun {l vs x xs as s Q} h1 h2 h3 h4 h5 => W.max_list_data (I.ok.hd hc) h1 h2 h3 h4 h5) (p := .max) (fun _ => rfl) pins s σ H xs us Q I r h
theorem prim_min (hc : X.calm = true) (hu : X.A.units + 64 < cLine) : CallR X (.builtin "min") (rP X.K ad .min) := by
  intro pins s σ H xs us Q I r h
  exact prim_best hu (fun {l vs x xs as s Q} h1 h2 h3 h4 h5 => W.min_list_data (I.ok.hd hc) h1 h2 h3 h4 h5) (p := .min) (fun _ => rfl) pins s σ H xs us Q I r h
end
end Rf
end

section
set_option Elab.async false
set_option linter.all false
set_option maxRecDepth 100000
set_option maxHeartbeats 2000000
/-! Expressions: what is asked of the state, steps, judgements; the plain constructors. -/
namespace Rf
open PySem PySem.Spec PyProof.Rows L2

/-! ### arguments and promises -/
abbrev Ks := List (Option Sh)
/-- the arguments; what each that is handed in and out stands on -/
inductive Args (K : PySem.W.Frag) (ad : Str → Addr) (Z H : Hp) : Ks → List V → List D → List (List Addr) → Prop
  | nil : Args K ad Z H [] [] [] []
  | fz {ks : Ks} {v : V} {d : D} {vs : List V} {ds : List D} {fps : List (List Addr)} : Rp K ad Z v d → Args K ad Z H ks vs ds fps → Args K ad Z H (none :: ks) (v :: vs) (d :: ds) fps
  | io {ks : Ks} {sh : Sh} {v : V} {d : D} {vs : List V} {ds : List D} {f : List Addr} {fps : List (List Addr)} : Ow K ad Z H sh v d f → Args K ad Z H ks vs ds fps → Args K ad Z H (some sh :: ks) (v :: vs) (d :: ds) (f :: fps)
/-- .. behind the call; H0: the heap ahead of it -/
inductive Outs (K : PySem.W.Frag) (ad : Str → Addr) (H0 Z H : Hp) : Ks → List V → List D → List (List Addr) → List (List Addr) → Prop
  | nil : Outs K ad H0 Z H [] [] [] [] []
  | fz {ks : Ks} {v : V} {vs : List V} {os : List D} {fps gps : List (List Addr)} : Outs K ad H0 Z H ks vs os fps gps → Outs K ad H0 Z H (none :: ks) (v :: vs) os fps gps
  | io {ks : Ks} {sh : Sh} {v : V} {o : D} {vs : List V} {os : List D} {f g : List Addr} {fps gps : List (List Addr)} : Ow K ad Z H sh v o g → (∀ a ∈ g, a ∈ f ∨ H0 a = none) → Outs K ad H0 Z H ks vs os fps gps → Outs K ad H0 Z H (some sh :: ks) (v :: vs) (o :: os) (f :: fps) (g :: gps)
/-- the tables of code objects -/
def Tbs (tbs : List Addr) (H : Hp) : Prop := ∀ P ∈ tbs, GxR.TabG H P
theorem Tbs.nx {tbs : List Addr} {M : Addr → Prop} {Z H Z' H' : Hp} (t : Tbs tbs H) (n : Nx M Z H Z' H') : Tbs tbs H' := fun P hP => by
  obtain ⟨ps, e, tr⟩ := t P hP
  obtain ⟨ps', e', tr'⟩ := n.ht P ps e tr
  exact ⟨ps', e', tr'⟩
/-- what a def promises, by the oracle -/
def SpF (K : PySem.W.Frag) (ad : Str → Addr) (tbs : List Addr) (O : Orc) (f : FKey) (ks : Ks) : Sp := fun vs H Q _ =>
  ∃ Z ds fps d outs, ZOk Z H ∧ Tbs tbs H ∧ Args K ad Z H ks vs ds fps ∧ fps.flatten.Nodup ∧ O f ds = some (d, outs) ∧
    ∀ v Z' H' gps, Nx (· ∈ fps.flatten) Z H Z' H' → Rp K ad Z' v d → Outs K ad H Z' H' ks vs outs fps gps → gps.flatten.Nodup → Q v H'
theorem Args.len {K : PySem.W.Frag} {ad : Str → Addr} {Z H : Hp} : ∀ {ks : Ks} {vs : List V} {ds : List D} {fps : List (List Addr)}, Args K ad Z H ks vs ds fps → vs.length = ks.length
  | _, _, _, _, .nil => rfl
  | _, _, _, _, .fz _ r => congrArg (· + 1) (Args.len r)
  | _, _, _, _, .io _ r => congrArg (· + 1) (Args.len r)

/-! ### what a law's text is, statically -/
structure Gst where
  sig : FKey → Option Ks
  isFn : Str → Bool
  isMt : Str → Str → Bool
  isPr : Str → Str → Bool
  isMk : Str → Bool
  isFld : Str → Str → Bool
  gl : Str → Option D
def scalarV : D → Option V
  | .non => some .non
  | .bl b => some (.bl b)
  | .int i => some (.int i)
  | .str x => some (.str x)
  | _ => none
theorem scalar_rp {K : PySem.W.Frag} {ad : Str → Addr} {Z : Hp} {d : D} {v : V} (h : scalarV d = some v) : Rp K ad Z v d := by
  cases d <;> cases h
  · exact .non
  · exact .bl _
  · exact .int _
  · exact .str _
/-- .. and what of it holds; L: the level of the calls -/
structure GOk (G : Gst) (ad : Str → Addr) (tbs : List Addr) (O : Orc) (L : Nat) (P : Program) (w : World) (K : PySem.W.Frag) (mg : Str → Option Value) (base : Heap) : Prop where
  fn : ∀ f ks, G.isFn f = true → G.sig (.fn f) = some ks → C8.Cal P w K mg base L f (SpF K ad tbs O (.fn f) ks) []
  mt : ∀ C m ks, G.isMt C m = true → G.sig (.mt C m) = some ks → C8.Met P w K mg base L (ad C) m (SpF K ad tbs O (.mt C m) ks) []
  mak : ∀ C ks, G.isMk C = true → G.sig (.mt C "__init__") = some ks → C8.Mak P w K mg base L C (ad C) (SpF K ad tbs O (.mt C "__init__") ks) []
  pr : ∀ C f, G.isPr C f = true → ∃ p g fd ps, Cls K (ad C) ∧ PropOf K (ad C) f p g ∧ FnOk P w K mg base C8.CX0 L g fd ps (SpF K ad tbs O (.mt C f) [none]) ∧ Binds K fd ps []
  fld : ∀ C f, G.isFld C f = true → Cls K (ad C) ∧ NoAttr K (ad C) f
  gl : ∀ x d, G.gl x = some d → ∃ v u, mg x = some u ∧ RelV v u ∧ scalarV d = some v
  isi : ∀ C, G.isMk C = true → (∃ u, mg C = some u ∧ u = .ref (ad C)) ∧ C8.InsC K (ad C)
  blt : ∀ x ∈ (["len", "list", "tuple", "sorted", "max", "min", "sum", "int", "set", "isinstance", "str", "bool", "dict", "range", "enumerate", "zip", "all", "any"] : List Str), mg x = none

/-! ### a def, statically; the state -/
structure Fc where
  N : List Str
  os : Osl
/-- the state between steps -/
structure Sta (K : PySem.W.Frag) (ad : Str → Addr) (tbs : List Addr) (os : Osl) (σ : L2.St) (Z H : Hp) (ρ : Env) (ω : Om) (fp : Fp) : Prop where
  zok : ZOk Z H
  fz : Fz K ad Z σ ρ
  os : Os K ad Z H σ os ω fp
  nd : NdF fp
  tb : Tbs tbs H
structure Step (K : PySem.W.Frag) (ad : Str → Addr) (os : Osl) (q : Bool) (σ : L2.St) (Z H : Hp) (ω : Om) (fp : Fp) (Z' H' : Hp) (ω' : Om) (fp' : Fp) : Prop where
  nx : Nx (if q = true then noA else inF fp) Z H Z' H'
  os : Os K ad Z' H' σ os ω' fp'
  nd : NdF fp'
  sb : ∀ j a, a ∈ fp' j → a ∈ fp j ∨ H a = none
  qu : q = true → fp' = fp ∧ ω' = ω
section
variable {K : PySem.W.Frag} {ad : Str → Addr} {tbs : List Addr} {os : Osl} {σ : L2.St} {Z H Z1 H1 Z2 H2 : Hp} {ρ : Env} {ω ω1 ω2 : Om} {fp fp1 fp2 : Fp} {q q1 q2 : Bool}
theorem Sta.refl (S : Sta K ad tbs os σ Z H ρ ω fp) : Step K ad os q σ Z H ω fp Z H ω fp := ⟨Nx.refl S.zok, S.os, S.nd, fun _ _ h => .inl h, fun _ => ⟨rfl, rfl⟩⟩
theorem Step.sub (T : Step K ad os q σ Z H ω fp Z1 H1 ω1 fp1) : ∀ a, inF fp1 a → inF fp a ∨ H a = none := fun a ⟨j, h⟩ => (T.sb j a h).elim (fun h => .inl ⟨j, h⟩) .inr
theorem Step.sta (S : Sta K ad tbs os σ Z H ρ ω fp) (T : Step K ad os q σ Z H ω fp Z1 H1 ω1 fp1) : Sta K ad tbs os σ Z1 H1 ρ ω1 fp1 := ⟨T.nx.zh, S.fz.le T.nx.zz, T.os, T.nd, S.tb.nx T.nx⟩
theorem Step.nxF (T : Step K ad os q σ Z H ω fp Z1 H1 ω1 fp1) : Nx (inF fp) Z H Z1 H1 := T.nx.mono fun x hx => by
  cases q
  · exact .inl hx
  · exact hx.elim
theorem Step.trans (T : Step K ad os q1 σ Z H ω fp Z1 H1 ω1 fp1) (U : Step K ad os q2 σ Z1 H1 ω1 fp1 Z2 H2 ω2 fp2) : Step K ad os (q1 && q2) σ Z H ω fp Z2 H2 ω2 fp2 where
  nx := by
    cases q1 with
    | true =>
      cases q2 with
      | true => exact T.nx.trans U.nx fun x hx => hx.elim
      | false =>
        obtain ⟨e, _⟩ := T.qu rfl
        subst e
        exact (T.nx.mono (M' := inF fp1) fun x hx => hx.elim).trans U.nx fun x hx => .inl hx
    | false =>
      refine T.nx.trans U.nxF fun x hx => ?_
      exact T.sub x hx
  os := U.os
  nd := U.nd
  sb := fun j a ha => by
    rcases U.sb j a ha with h | h
    · exact T.sb j a h
    · cases e : H a with
      | none => exact .inr rfl
      | some o =>
        obtain ⟨o', e'⟩ := T.nx.dm a o e
        rw [h] at e'; cases e'
  qu := fun h => by
    rw [Bool.and_eq_true] at h
    obtain ⟨e1, e2⟩ := T.qu h.1
    obtain ⟨e3, e4⟩ := U.qu h.2
    exact ⟨e3.trans e1, e4.trans e2⟩
theorem Step.weak (T : Step K ad os true σ Z H ω fp Z1 H1 ω1 fp1) : Step K ad os q σ Z H ω fp Z1 H1 ω1 fp1 where
  nx := T.nx.mono fun x hx => hx.elim
  os := T.os
  nd := T.nd
  sb := T.sb
  qu := fun _ => T.qu rfl
/-- any step is a step that is not quiet -/
theorem Step.loud (T : Step K ad os q σ Z H ω fp Z1 H1 ω1 fp1) : Step K ad os false σ Z H ω fp Z1 H1 ω1 fp1 := ⟨T.nxF, T.os, T.nd, T.sb, fun h => by cases h⟩
/-- what is owned stands where only other things changed -/
theorem Nx.stand {M : Addr → Prop} {fp : List Addr} (n : Nx M Z H Z1 H1) (d : ∀ a ∈ fp, Z a = none ∧ ∃ o, H a = some o ∧ notTbl o = true) (hM : ∀ a ∈ fp, ¬ M a) : Stand Z H Z1 H1 fp where
  le := n.zz
  h := fun a ha => by
    obtain ⟨_, o, e, t⟩ := d a ha
    rw [e]
    exact n.hh a o e (hM a ha) t
  z := fun a ha => by
    obtain ⟨z0, o, e, t⟩ := d a ha
    cases e1 : Z1 a with
    | none => rfl
    | some u =>
      rcases n.zn a u e1 with h | h | h
      · rw [z0] at h; cases h
      · rw [e] at h; cases h
      · exact (hM a ha h).elim
theorem Sta.nw (S : Sta K ad tbs os σ Z H ρ ω fp) (n : Nw Z H Z1 H1) : Step K ad os q σ Z H ω fp Z1 H1 ω fp :=
  Step.weak ⟨n, S.os.stand fun j => Nx.stand n (S.os.dom j) fun _ _ h => h, S.nd, fun _ _ h => .inl h, fun _ => ⟨rfl, rfl⟩⟩
end

/-! ### judgements -/
def tR (X : Cx) (e : Expr) : TE := fun σ H Q => ∀ pins s, Inv X pins σ H s → wpAny (model X.prog X.w) X.A (eval e X.env) (EP X pins σ Q) X.xe s
theorem pe_R {X : Cx} (e : Expr) : PE X e (tR X e) := ⟨fun pins s _ _ _ I h => h pins s I⟩
def tT (X : Cx) (e : Expr) : TT := fun σ H Q => ∀ pins s, Inv X pins σ H s → wpAny (model X.prog X.w) X.A (isTrue e X.env (eval e X.env)) (TP X pins σ Q) X.xe s
theorem pt_R {X : Cx} (e : Expr) : PT X e (tT X e) := ⟨fun pins s _ _ _ I h => h pins s I⟩
def tW (X : Cx) (e : Expr) : TT := fun σ H Q => ∀ whole pins s, Inv X pins σ H s → wpAny (model X.prog X.w) X.A (isTrue e X.env whole) (TP X pins σ Q) X.xe s
theorem pw_R {X : Cx} (e : Expr) : PW X e (tW X e) := ⟨fun whole pins s _ _ _ I h => h whole pins s I⟩
def tAR (X : Cx) (es : List Expr) : TA := fun σ H Q => ∀ pos pins s, Inv X pins σ H s → wpAny (model X.prog X.w) X.A (spliced (backTo pos (starEach es X.env))) (AP X pins σ Q) X.xe s
theorem pa_R {X : Cx} (es : List Expr) : PA X es (tAR X es) := ⟨fun pos pins s _ _ _ I h => h pos pins s I⟩
/-- what all judgements share -/
structure Par where
  ad : Str → Addr
  tbs : List Addr
  O : Orc
  os : Osl
abbrev StaX (X : Cx) (p : Par) := Sta X.K p.ad p.tbs p.os
abbrev StepX (X : Cx) (p : Par) := Step X.K p.ad p.os
def SE (X : Cx) (p : Par) (e : Expr) (ie : IE) : Prop := ∀ σ Z H ρ ω fp d ω', StaX X p σ Z H ρ ω fp → ev p.O ie ρ ω = some (d, ω') → ∀ Q : VK,
  (∀ v Z' H' fp', StepX X p ie.quiet σ Z H ω fp Z' H' ω' fp' → Rp X.K p.ad Z' v d → Q v H') → tR X e σ H Q
def ST (X : Cx) (p : Par) (e : Expr) (ie : IE) : Prop := ∀ σ Z H ρ ω fp b ω', StaX X p σ Z H ρ ω fp → ev p.O ie ρ ω = some (.bl b, ω') → ∀ Q : Bool → Hp → Prop,
  (∀ Z' H' fp', StepX X p ie.quiet σ Z H ω fp Z' H' ω' fp' → Q b H') → tT X e σ H Q
def SW (X : Cx) (p : Par) (e : Expr) (ie : IE) : Prop := ∀ σ Z H ρ ω fp b ω', StaX X p σ Z H ρ ω fp → ev p.O ie ρ ω = some (.bl b, ω') → ∀ Q : Bool → Hp → Prop,
  (∀ Z' H' fp', StepX X p ie.quiet σ Z H ω fp Z' H' ω' fp' → Q b H') → tW X e σ H Q
structure J (X : Cx) (p : Par) (e : Expr) (ie : IE) : Prop where
  se : SE X p e ie
  st : ST X p e ie
  sw : (∃ op l q, e = .BoolOp op l q) → SW X p e ie
/-- the plain test -/
def PlainT (e : Expr) : Prop := ∀ (env : PySem.Env) (whole : Sem Value), isTrue e env whole = (do let v ← whole; standAt e.pos; holding [v] (truthy v))
theorem J.of {X : Cx} {p : Par} {e : Expr} {ie : IE} (h : SE X p e ie) (ht : PlainT e) (hn : ∀ op l q, e ≠ .BoolOp op l q) : J X p e ie where
  se := h
  st := fun σ Z H ρ ω fp b ω' S hv Q hQ pins s I => (pt_val (pe_R e) (ht X.env)).run pins s σ H Q I (h σ Z H ρ ω fp _ ω' S hv _ fun v Z' H' fp' T r => by
    cases r
    exact ⟨b, rfl, hQ Z' H' fp' T⟩)
  sw := fun ⟨op, l, q, e⟩ => absurd e (hn op l q)

section
variable {X : Cx} {p : Par}
theorem se_cst_int {i : Int} {j : Nat} {pos : Pos} : SE X p (.Constant (.int i) j pos) (.cst (.int i)) := fun σ Z H ρ ω fp d ω' S hv Q hQ pins s I => by
  cases hv
  exact pe_int.run pins s σ H Q I (hQ _ _ _ _ S.refl (.int i))
theorem se_cst_bl {b : Bool} {j : Nat} {pos : Pos} : SE X p (.Constant (.bool b) j pos) (.cst (.bl b)) := fun σ Z H ρ ω fp d ω' S hv Q hQ pins s I => by
  cases hv
  exact pe_bl.run pins s σ H Q I (hQ _ _ _ _ S.refl (.bl b))
theorem se_cst_non {j : Nat} {pos : Pos} : SE X p (.Constant .none j pos) (.cst .non) := fun σ Z H ρ ω fp d ω' S hv Q hQ pins s I => by
  cases hv
  exact pe_non.run pins s σ H Q I (hQ _ _ _ _ S.refl .non)
theorem se_cst_str {x : Str} {j : Nat} {pos : Pos} : SE X p (.Constant (.str x) j pos) (.cst (.str x)) := fun σ Z H ρ ω fp d ω' S hv Q hQ pins s I => by
  cases hv
  exact pe_str.run pins s σ H Q I (hQ _ _ _ _ S.refl (.str x))
theorem omAt_some {ω : Om} {i : Nat} {d : D} (h : omAt ω i = some d) : ω[i]? = some (some d) := by
  unfold omAt at h
  cases e : ω[i]? with
  | none => rw [e] at h; cases h
  | some o => rw [e] at h; rw [show o = some d from h]
theorem se_var {i : Nat} {x : Str} {pos : Pos} (hN : X.N[i]? = some x) (hv : Vis X.env.scope x) (hd : (x == ("__debug__" : Str)) = false) (hcd : (x == ("__classdict__" : Str)) = false) : SE X p (.Name x pos) (.var i) := fun σ Z H ρ ω fp d ω' S he Q hQ pins s I => by
  obtain ⟨e1, rfl⟩ := of_opt he
  obtain ⟨v, e2, r⟩ := S.fz.at_ i d (omAt_some e1)
  exact (pe_var hN hv hd hcd).run pins s σ H Q I ⟨v, e2, hQ v Z H fp S.refl r⟩
theorem se_glb {x : Str} {d0 : D} {v : V} {u : Value} {pos : Pos} (hg : Gl X x) (hm : X.mg x = some u) (r : RelV v u) (hs : scalarV d0 = some v) (hd : (x == ("__debug__" : Str)) = false) : SE X p (.Name x pos) (.glb x d0) := fun σ Z H ρ ω fp d ω' S he Q hQ pins s I => by
  cases he
  exact (pe_glob hg hm r hd).run pins s σ H Q I (hQ v Z H fp S.refl (scalar_rp hs))
variable {a b c : Expr} {ia ib ic : IE} {pos : Pos}
theorem se_two {f : D → D → Option D} {r : R2} {e : Expr} {ie : IE} (hr : PE X e (tOp r (tR X a) (tR X b))) (hrD : r = rD X.K p.ad f) (ha : SE X p a ia) (hb : SE X p b ib) (hq : ie.quiet = (ia.quiet && ib.quiet))
    (hev : ∀ ρ ω, ev p.O ie ρ ω = bnd (ev p.O ia ρ ω) fun x ω1 => bnd (ev p.O ib ρ ω1) fun y ω2 => opt (f x y) ω2) : SE X p e ie := fun σ Z H ρ ω fp d ω' S he Q hQ pins s I => by
  rw [hev] at he
  obtain ⟨x, ω1, e1, he⟩ := of_bnd he
  obtain ⟨y, ω2, e2, he⟩ := of_bnd he
  obtain ⟨e3, rfl⟩ := of_opt he
  refine hr.run pins s σ H Q I ?_
  refine ha σ Z H ρ ω fp x ω1 S e1 _ fun v1 Z1 H1 fp1 T1 r1 => ?_
  refine hb σ Z1 H1 ρ ω1 fp1 y _ (T1.sta S) e2 _ fun v2 Z2 H2 fp2 T2 r2 => ?_
  rw [hrD]
  refine ⟨Z2, x, y, d, T2.nx.zh, r1.le T2.nx.zz, r2, e3, fun z Z3 H3 n3 r3 => hQ z Z3 H3 fp2 ?_ r3⟩
  rw [hq]
  have T3 : StepX X p true σ Z2 H2 ω' fp2 Z3 H3 ω' fp2 := Sta.nw (T2.sta (T1.sta S)) n3
  have := (T1.trans T2).trans T3
  rwa [Bool.and_true] at this
theorem se_bin {op : BOp} (ha : SE X p a ia) (hb : SE X p b ib) : SE X p (.BinOp a (bopOf op) b pos) (.bin op ia ib) :=
  se_two (f := dbin op) (pe_op (op_binD (ad := p.ad) op) (pe_R a) (pe_R b)) rfl ha hb rfl fun _ _ => rfl
theorem se_cmp {op : COp} (hu : X.A.units + 64 < cLine) (ha : SE X p a ia) (hb : SE X p b ib) (hm : behindInMarks (copOf op) b = false) : SE X p (.Compare a [copOf op] [b] pos) (.cmp op ia ib) :=
  se_two (f := fun x y => (dcmp op x y).map .bl) (pe_cmpR (op_cmpD (ad := p.ad) op hu) (pe_R a) (pe_R b) hm) rfl ha hb rfl fun _ _ => rfl
theorem st_cmp {op : COp} (hu : X.A.units + 64 < cLine) (ha : SE X p a ia) (hb : SE X p b ib) (hm : behindInMarks (copOf op) b = false) : ST X p (.Compare a [copOf op] [b] pos) (.cmp op ia ib) := fun σ Z H ρ ω fp d ω' S he Q hQ pins s I => by
  obtain ⟨x, ω1, e1, he⟩ := of_bnd he
  obtain ⟨y, ω2, e2, he⟩ := of_bnd he
  obtain ⟨e3, rfl⟩ := of_opt he
  refine (pt_cmpR (op_cmpD (ad := p.ad) op hu) (pe_R a) (pe_R b) hm).run pins s σ H Q I ?_
  refine ha σ Z H ρ ω fp x ω1 S e1 _ fun v1 Z1 H1 fp1 T1 r1 => ?_
  refine hb σ Z1 H1 ρ ω1 fp1 y _ (T1.sta S) e2 _ fun v2 Z2 H2 fp2 T2 r2 => ?_
  refine ⟨Z2, x, y, _, T2.nx.zh, r1.le T2.nx.zz, r2, e3, fun z Z3 H3 n3 r3 => ?_⟩
  cases r3
  refine ⟨d, rfl, hQ Z3 H3 fp2 ?_⟩
  have T3 : StepX X p true σ Z2 H2 ω' fp2 Z3 H3 ω' fp2 := Sta.nw (T2.sta (T1.sta S)) n3
  have := (T1.trans T2).trans T3
  rwa [Bool.and_true] at this
theorem se_neg (ha : SE X p a ia) : SE X p (.UnaryOp .USub a pos) (.neg ia) := fun σ Z H ρ ω fp d ω' S he Q hQ pins s I => by
  obtain ⟨x, ω1, e1, he⟩ := of_bnd he
  refine (pe_un un_neg (pe_R a)).run pins s σ H Q I (ha σ Z H ρ ω fp x ω1 S e1 _ fun v1 Z1 H1 fp1 T1 r1 => ?_)
  cases x with
  | int i => cases r1; cases he; exact ⟨i, rfl, hQ _ Z1 H1 fp1 T1 (.int _)⟩
  | _ => cases he
theorem se_not (ha : SE X p a ia) : SE X p (.UnaryOp .Not a pos) (.not ia) := fun σ Z H ρ ω fp d ω' S he Q hQ pins s I => by
  obtain ⟨x, ω1, e1, he⟩ := of_bnd he
  refine (pe_not (pe_R a)).run pins s σ H Q I (ha σ Z H ρ ω fp x ω1 S e1 _ fun v1 Z1 H1 fp1 T1 r1 => ?_)
  cases x with
  | bl i => cases r1; cases he; exact ⟨i, rfl, hQ _ Z1 H1 fp1 T1 (.bl _)⟩
  | _ => cases he
theorem st_not (ha : ST X p a ia) : ST X p (.UnaryOp .Not a pos) (.not ia) := fun σ Z H ρ ω fp d ω' S he Q hQ pins s I => by
  obtain ⟨x, ω1, e1, he⟩ := of_bnd he
  cases x with
  | bl i =>
    cases he
    exact (pt_not (pt_R a)).run pins s σ H Q I (ha σ Z H ρ ω fp i _ S e1 _ fun Z1 H1 fp1 T1 => hQ Z1 H1 fp1 T1)
  | _ => cases he
/-- and, or: the value x of the first, what follows -/
theorem quiet_and_l {q1 q2 : Bool} {os : Osl} {σ : L2.St} {Z H : Hp} {ω ω1 : Om} {fp fp1 : Fp} {Z1 H1 : Hp} {K : PySem.W.Frag} {ad : Str → Addr} (T : Step K ad os q1 σ Z H ω fp Z1 H1 ω1 fp1) : Step K ad os (q1 && q2) σ Z H ω fp Z1 H1 ω1 fp1 := by
  cases q2 with
  | true => rw [Bool.and_true]; exact T
  | false => rw [Bool.and_false]; exact T.loud
theorem se_and {rest : List Expr} (ha : SE X p a ia) (hb : SE X p (.BoolOp .And (b :: rest) pos) ib) : SE X p (.BoolOp .And (a :: b :: rest) pos) (.and ia ib) := fun σ Z H ρ ω fp d ω' S he Q hQ pins s I => by
  obtain ⟨x, ω1, e1, he⟩ := of_bnd he
  refine (pe_and (pe_R a) (pe_R _)).run pins s σ H Q I (ha σ Z H ρ ω fp x ω1 S e1 _ fun v1 Z1 H1 fp1 T1 r1 => ?_)
  cases x with
  | bl i =>
    cases r1
    refine ⟨i, rfl, ?_⟩
    cases i with
    | true => exact hb σ Z1 H1 ρ ω1 fp1 d ω' (T1.sta S) he _ fun v2 Z2 H2 fp2 T2 r2 => hQ v2 Z2 H2 fp2 (T1.trans T2) r2
    | false => cases he; exact hQ _ Z1 H1 fp1 (quiet_and_l T1) (.bl _)
  | _ => cases he
theorem se_or {rest : List Expr} (ha : SE X p a ia) (hb : SE X p (.BoolOp .Or (b :: rest) pos) ib) : SE X p (.BoolOp .Or (a :: b :: rest) pos) (.or ia ib) := fun σ Z H ρ ω fp d ω' S he Q hQ pins s I => by
  obtain ⟨x, ω1, e1, he⟩ := of_bnd he
  refine (pe_or (pe_R a) (pe_R _)).run pins s σ H Q I (ha σ Z H ρ ω fp x ω1 S e1 _ fun v1 Z1 H1 fp1 T1 r1 => ?_)
  cases x with
  | bl i =>
    cases r1
    refine ⟨i, rfl, ?_⟩
    cases i with
    | false => exact hb σ Z1 H1 ρ ω1 fp1 d ω' (T1.sta S) he _ fun v2 Z2 H2 fp2 T2 r2 => hQ v2 Z2 H2 fp2 (T1.trans T2) r2
    | true => cases he; exact hQ _ Z1 H1 fp1 (quiet_and_l T1) (.bl _)
  | _ => cases he
theorem sw_and {rest : List Expr} (ha : ST X p a ia) (hb : SW X p (.BoolOp .And (b :: rest) pos) ib) : SW X p (.BoolOp .And (a :: b :: rest) pos) (.and ia ib) := fun σ Z H ρ ω fp d ω' S he Q hQ whole pins s I => by
  obtain ⟨x, ω1, e1, he⟩ := of_bnd he
  cases x with
  | bl i =>
    refine (pw_and (pt_R a) (pw_R _)).run whole pins s σ H Q I (ha σ Z H ρ ω fp i ω1 S e1 _ fun Z1 H1 fp1 T1 => ?_)
    cases i with
    | true => exact hb σ Z1 H1 ρ ω1 fp1 d ω' (T1.sta S) he _ fun Z2 H2 fp2 T2 => hQ Z2 H2 fp2 (T1.trans T2)
    | false => cases he; exact hQ Z1 H1 fp1 (quiet_and_l T1)
  | _ => cases he
theorem sw_or {rest : List Expr} (ha : ST X p a ia) (hb : SW X p (.BoolOp .Or (b :: rest) pos) ib) : SW X p (.BoolOp .Or (a :: b :: rest) pos) (.or ia ib) := fun σ Z H ρ ω fp d ω' S he Q hQ whole pins s I => by
  obtain ⟨x, ω1, e1, he⟩ := of_bnd he
  cases x with
  | bl i =>
    refine (pw_or (pt_R a) (pw_R _)).run whole pins s σ H Q I (ha σ Z H ρ ω fp i ω1 S e1 _ fun Z1 H1 fp1 T1 => ?_)
    cases i with
    | false => exact hb σ Z1 H1 ρ ω1 fp1 d ω' (T1.sta S) he _ fun Z2 H2 fp2 T2 => hQ Z2 H2 fp2 (T1.trans T2)
    | true => cases he; exact hQ Z1 H1 fp1 (quiet_and_l T1)
  | _ => cases he
theorem SW.st {e : Expr} {ie : IE} (h : SW X p e ie) : ST X p e ie := fun σ Z H ρ ω fp d ω' S he Q hQ pins s I => h σ Z H ρ ω fp d ω' S he Q hQ _ pins s I
theorem se_one {op : BoolOp} (ha : SE X p a ia) : SE X p (.BoolOp op [a] pos) ia := fun σ Z H ρ ω fp d ω' S he Q hQ pins s I =>
  (pe_one (pe_R a)).run pins s σ H Q I (ha σ Z H ρ ω fp d ω' S he Q hQ)
theorem sw_one {op : BoolOp} (ha : ST X p a ia) : SW X p (.BoolOp op [a] pos) ia := fun σ Z H ρ ω fp d ω' S he Q hQ whole pins s I => by
  cases op with
  | And => exact (pw_and1 (pt_R a)).run whole pins s σ H Q I (ha σ Z H ρ ω fp d ω' S he Q hQ)
  | Or => exact (pw_or1 (pt_R a)).run whole pins s σ H Q I (ha σ Z H ρ ω fp d ω' S he Q hQ)
theorem J.one {op : BoolOp} (h : J X p a ia) : J X p (.BoolOp op [a] pos) ia := ⟨se_one h.se, (sw_one h.st).st, fun _ => sw_one h.st⟩
theorem J.and {rest : List Expr} (ha : J X p a ia) (hb : J X p (.BoolOp .And (b :: rest) pos) ib) : J X p (.BoolOp .And (a :: b :: rest) pos) (.and ia ib) :=
  have w := sw_and ha.st (hb.sw ⟨_, _, _, rfl⟩)
  ⟨se_and ha.se hb.se, w.st, fun _ => w⟩
theorem J.or {rest : List Expr} (ha : J X p a ia) (hb : J X p (.BoolOp .Or (b :: rest) pos) ib) : J X p (.BoolOp .Or (a :: b :: rest) pos) (.or ia ib) :=
  have w := sw_or ha.st (hb.sw ⟨_, _, _, rfl⟩)
  ⟨se_or ha.se hb.se, w.st, fun _ => w⟩
theorem J.not (ha : J X p a ia) : J X p (.UnaryOp .Not a pos) (.not ia) := ⟨se_not ha.se, st_not ha.st, fun ⟨_, _, _, e⟩ => by cases e⟩
theorem J.cmp {op : COp} (hu : X.A.units + 64 < cLine) (ha : J X p a ia) (hb : J X p b ib) (hm : behindInMarks (copOf op) b = false) : J X p (.Compare a [copOf op] [b] pos) (.cmp op ia ib) :=
  ⟨se_cmp hu ha.se hb.se hm, st_cmp hu ha.se hb.se hm, fun ⟨_, _, _, e⟩ => by cases e⟩
/-- a op b op' c -/
theorem chn_run {o1 o2 : COp} (ha : SE X p a ia) (hb : SE X p b ib) (hc : SE X p c ic) {σ : L2.St} {Z H : Hp} {ρ : Env} {ω ω' : Om} {fp : Fp} {k : Bool} (S : StaX X p σ Z H ρ ω fp) (he : ev p.O (.chn o1 o2 ia ib ic) ρ ω = some (.bl k, ω')) {Q : VK}
    (hQ : ∀ Z' H' fp', StepX X p (IE.chn o1 o2 ia ib ic).quiet σ Z H ω fp Z' H' ω' fp' → Q (.bl k) H') :
    tChain (rD X.K p.ad fun x y => (dcmp o1 x y).map .bl) (rD X.K p.ad fun x y => (dcmp o2 x y).map .bl) (tR X a) (tR X b) (tR X c) σ H Q := by
  obtain ⟨x, ω1, e1, he⟩ := of_bnd he
  obtain ⟨y, ω2, e2, he⟩ := of_bnd he
  obtain ⟨k1, ω3, e3', he⟩ := of_bnd he
  obtain ⟨e3, rfl⟩ := of_opt e3'
  clear e3'
  refine ha σ Z H ρ ω fp x ω1 S e1 _ fun v1 Z1 H1 fp1 T1 r1 => ?_
  refine hb σ Z1 H1 ρ ω1 fp1 y _ (T1.sta S) e2 _ fun v2 Z2 H2 fp2 T2 r2 => ?_
  refine ⟨Z2, x, y, .bl k1, T2.nx.zh, r1.le T2.nx.zz, r2, (by show (dcmp o1 x y).map D.bl = _; rw [e3]; rfl), fun z Z3 H3 n3 r3 => ?_⟩
  cases r3
  refine ⟨k1, rfl, ?_⟩
  have S2 := T2.sta (T1.sta S)
  have T3 : StepX X p true σ Z2 H2 ω3 fp2 Z3 H3 ω3 fp2 := Sta.nw S2 n3
  have T13 := (T1.trans T2).trans T3
  rw [Bool.and_true] at T13
  cases k1 with
  | true =>
    rw [if_pos rfl] at he
    obtain ⟨z, ω4, e4, he⟩ := of_bnd he
    obtain ⟨e5, rfl⟩ := of_opt he
    refine hc σ Z3 H3 ρ ω3 fp2 z _ (T3.sta S2) e4 _ fun v4 Z4 H4 fp4 T4 r4 => ?_
    refine ⟨Z4, y, z, .bl k, T4.nx.zh, (r2.le n3.zz).le T4.nx.zz, r4, e5, fun z Z5 H5 n5 r5 => ?_⟩
    cases r5
    have T5 : StepX X p true σ Z4 H4 ω' fp4 Z5 H5 ω' fp4 := Sta.nw (T4.sta (T3.sta S2)) n5
    have := (T13.trans T4).trans T5
    rw [Bool.and_true] at this
    exact hQ Z5 H5 fp4 this
  | false =>
    cases he
    exact hQ Z3 H3 fp2 (quiet_and_l T13)
theorem se_chn {o1 o2 : COp} (hu : X.A.units + 64 < cLine) (ha : SE X p a ia) (hb : SE X p b ib) (hc : SE X p c ic) (hm : lastMarks [copOf o1, copOf o2] [b, c] = false) :
    SE X p (.Compare a [copOf o1, copOf o2] [b, c] pos) (.chn o1 o2 ia ib ic) := fun σ Z H ρ ω fp d ω' S he Q hQ pins s I => by
  have hb' : ∃ k, d = .bl k := by
    obtain ⟨x, ω1, e1, he⟩ := of_bnd he
    obtain ⟨y, ω2, e2, he⟩ := of_bnd he
    obtain ⟨k1, ω3, e3, he⟩ := of_bnd he
    cases k1 with
    | true =>
      rw [if_pos rfl] at he
      obtain ⟨z, ω4, e4, he⟩ := of_bnd he
      obtain ⟨e5, rfl⟩ := of_opt he
      obtain ⟨k, _, e6⟩ := Option.map_eq_some_iff.mp e5
      exact ⟨k, e6.symm⟩
    | false => cases he; exact ⟨false, rfl⟩
  obtain ⟨k, rfl⟩ := hb'
  exact (pe_chain (op_cmpD (ad := p.ad) o1 hu) (op_cmpD (ad := p.ad) o2 hu) (pe_R a) (pe_R b) (pe_R c) hm).run pins s σ H Q I
    (chn_run ha hb hc S he fun Z' H' fp' T => hQ _ Z' H' fp' T (.bl k))
theorem st_chn {o1 o2 : COp} (hu : X.A.units + 64 < cLine) (ha : SE X p a ia) (hb : SE X p b ib) (hc : SE X p c ic) (hm : lastMarks [copOf o1, copOf o2] [b, c] = false) :
    ST X p (.Compare a [copOf o1, copOf o2] [b, c] pos) (.chn o1 o2 ia ib ic) := fun σ Z H ρ ω fp d ω' S he Q hQ pins s I =>
  (pt_chain (op_cmpD (ad := p.ad) o1 hu) (op_cmpD (ad := p.ad) o2 hu) (pe_R a) (pe_R b) (pe_R c) hm).run pins s σ H Q I
    (chn_run ha hb hc S he fun Z' H' fp' T => ⟨d, rfl, hQ Z' H' fp' T⟩)
theorem J.chn {o1 o2 : COp} (hu : X.A.units + 64 < cLine) (ha : J X p a ia) (hb : J X p b ib) (hc : J X p c ic) (hm : lastMarks [copOf o1, copOf o2] [b, c] = false) : J X p (.Compare a [copOf o1, copOf o2] [b, c] pos) (.chn o1 o2 ia ib ic) :=
  ⟨se_chn hu ha.se hb.se hc.se hm, st_chn hu ha.se hb.se hc.se hm, fun ⟨_, _, _, e⟩ => by cases e⟩
/-- x if c else y -/
theorem se_ife (hc : ST X p c ic) (ha : SE X p a ia) (hb : SE X p b ib) : SE X p (.IfExp c a b pos) (.ife ic ia ib) := fun σ Z H ρ ω fp d ω' S he Q hQ pins s I => by
  obtain ⟨x, ω1, e1, he⟩ := of_bnd he
  cases x with
  | bl i =>
    refine (pe_ifExp (pt_R c) (pe_R a) (pe_R b)).run pins s σ H Q I (hc σ Z H ρ ω fp i ω1 S e1 _ fun Z1 H1 fp1 T1 => ?_)
    cases i with
    | true => exact ha σ Z1 H1 ρ ω1 fp1 d ω' (T1.sta S) he _ fun v2 Z2 H2 fp2 T2 r2 => hQ v2 Z2 H2 fp2 (quiet_and_l (T1.trans T2)) r2
    | false =>
      refine hb σ Z1 H1 ρ ω1 fp1 d ω' (T1.sta S) he _ fun v2 Z2 H2 fp2 T2 r2 => hQ v2 Z2 H2 fp2 ?_ r2
      show StepX X p (ic.quiet && ia.quiet && ib.quiet) σ Z H ω fp Z2 H2 ω' fp2
      rw [Bool.and_assoc, Bool.and_comm ia.quiet, ← Bool.and_assoc]
      exact quiet_and_l (T1.trans T2)
  | _ => cases he
theorem st_ife (hc : ST X p c ic) (ha : ST X p a ia) (hb : ST X p b ib) : ST X p (.IfExp c a b pos) (.ife ic ia ib) := fun σ Z H ρ ω fp d ω' S he Q hQ pins s I => by
  obtain ⟨x, ω1, e1, he⟩ := of_bnd he
  cases x with
  | bl i =>
    show wpAny _ X.A (isTrue (.IfExp c a b pos) X.env _) _ _ s
    rw [show isTrue (.IfExp c a b pos) X.env (eval (.IfExp c a b pos) X.env) = (do if ← isTrue c X.env (eval c X.env) then isTrue a X.env (eval a X.env) else isTrue b X.env (eval b X.env)) from rfl]
    refine wpAny_bind (thn (hc σ Z H ρ ω fp i ω1 S e1 (fun k H1 => k = i ∧ tT X (if i = true then a else b) σ H1 Q) (fun Z1 H1 fp1 T1 => ⟨rfl, ?_⟩) pins s I) fun k s1 h => ?_)
    · cases i with
      | true => exact ha σ Z1 H1 ρ ω1 fp1 d ω' (T1.sta S) he _ fun Z2 H2 fp2 T2 => hQ Z2 H2 fp2 (quiet_and_l (T1.trans T2))
      | false =>
        refine hb σ Z1 H1 ρ ω1 fp1 d ω' (T1.sta S) he _ fun Z2 H2 fp2 T2 => hQ Z2 H2 fp2 ?_
        show StepX X p (ic.quiet && ia.quiet && ib.quiet) σ Z H ω fp Z2 H2 ω' fp2
        rw [Bool.and_assoc, Bool.and_comm ia.quiet, ← Bool.and_assoc]
        exact quiet_and_l (T1.trans T2)
    · obtain ⟨H1, I1, rfl, h1⟩ := h
      cases k with
      | true => exact h1 pins s1 I1
      | false => exact h1 pins s1 I1
  | _ => cases he
theorem J.ife (hc : J X p c ic) (ha : J X p a ia) (hb : J X p b ib) : J X p (.IfExp c a b pos) (.ife ic ia ib) := ⟨se_ife hc.st ha.se hb.se, st_ife hc.st ha.st hb.st, fun ⟨_, _, _, e⟩ => by cases e⟩
end
end Rf
end

section
set_option Elab.async false
set_option linter.all false
set_option maxRecDepth 100000
set_option maxHeartbeats 2000000
/-! Displays, items, fields, calls. -/
namespace Rf
open PySem PySem.Spec PyProof.Rows L2

/-! ### new owned data -/
/-- g: what is new and owned by no variable -/
structure NewG (H : Hp) (fp : Fp) (g : List Addr) : Prop where
  nd : g.Nodup
  new : ∀ a ∈ g, H a = none
  out : ∀ a ∈ g, ¬ inF fp a
def frzZ (Z H : Hp) (g : List Addr) : Hp := fun a => if a ∈ g then H a else Z a
section
variable {K : PySem.W.Frag} {ad : Str → Addr} {tbs : List Addr} {os : Osl} {σ : L2.St} {Z H Z1 H1 Z2 H2 : Hp} {ρ : Env} {ω ω1 ω2 : Om} {fp fp1 fp2 : Fp} {q q1 q2 : Bool} {g : List Addr}
theorem frz_le {Z H : Hp} {g : List Addr} (hg : ∀ a ∈ g, Z a = none) : Le Z (frzZ Z H g) := fun a o e => by
  unfold frzZ
  rw [if_neg fun h => by rw [hg a h] at e; cases e]
  exact e
/-- what is new and owned is frozen -/
theorem Step.freeze (T : Step K ad os q σ Z H ω fp Z1 H1 ω1 fp1) (N : NewG H fp1 g) (zo : ZOk Z H) (hg : ∀ a ∈ g, Z1 a = none ∧ ∃ o, H1 a = some o ∧ notTbl o = true) : Step K ad os q σ Z H ω fp (frzZ Z1 H1 g) H1 ω1 fp1 where
  nx := ⟨T.nx.zz.trans (frz_le fun a ha => (hg a ha).1), fun a o e => by
      unfold frzZ at e
      split at e
      · rename_i h
        obtain ⟨_, o', e', t⟩ := hg a h
        rw [e] at e'; cases e'
        exact ⟨e, t⟩
      · exact T.nx.zh a o e, fun a o e => by
      unfold frzZ at e
      split at e
      · rename_i h; exact .inr (.inl (N.new a h))
      · exact T.nx.zn a o e, T.nx.dm, T.nx.hh, T.nx.ht⟩
  os := T.os.stand fun j => ⟨frz_le fun a ha => (hg a ha).1, fun _ _ => rfl, fun a ha => by
    unfold frzZ
    rw [if_neg fun h => N.out a h ⟨j, ha⟩]
    exact (T.os.dom j a ha).1⟩
  nd := T.nd
  sb := T.sb
  qu := T.qu
theorem Ow.frozen {sh : Sh} {v : V} {d : D} (w : Ow K ad Z1 H1 sh v d g) : Rp K ad (frzZ Z1 H1 g) v d :=
  w.freeze (frz_le fun a ha => (w.dom a ha).1) fun a ha => by unfold frzZ; rw [if_pos ha]
/-- what was new stands behind a step -/
theorem Step.stand (T : Step K ad os q σ Z H ω fp Z1 H1 ω1 fp1) (d : ∀ a ∈ g, Z a = none ∧ ∃ o, H a = some o ∧ notTbl o = true) (hn : ∀ a ∈ g, ¬ inF fp a) : Stand Z H Z1 H1 g ∧ ∀ a ∈ g, ¬ inF fp1 a :=
  ⟨Nx.stand T.nxF d hn, fun a ha h => by
    rcases T.sub a h with h | h
    · exact hn a ha h
    · obtain ⟨_, o, e, _⟩ := d a ha
      rw [h] at e; cases e⟩
theorem NewG.nil : NewG H fp [] := ⟨.nil, fun _ h => (by cases h), fun _ h => (by cases h)⟩
/-- two after one another -/
theorem NewG.app {g1 g2 : List Addr} (T : Step K ad os q1 σ Z H ω fp Z1 H1 ω1 fp1) (U : Step K ad os q2 σ Z1 H1 ω1 fp1 Z2 H2 ω2 fp2) (N1 : NewG H fp1 g1) (N2 : NewG H1 fp2 g2) (d : ∀ a ∈ g1, Z1 a = none ∧ ∃ o, H1 a = some o ∧ notTbl o = true) :
    NewG H fp2 (g1 ++ g2) := by
  have up : ∀ a, H1 a = none → H a = none := fun a h => by
    cases e : H a with
    | none => rfl
    | some o => obtain ⟨o', e'⟩ := T.nx.dm a o e; rw [h] at e'; cases e'
  refine ⟨List.nodup_append.mpr ⟨N1.nd, N2.nd, fun a h1 b h2 e => ?_⟩, fun a h => ?_, fun a h => ?_⟩
  · subst e
    obtain ⟨_, o, e, _⟩ := d a h1
    rw [N2.new a h2] at e; cases e
  · rcases List.mem_append.mp h with h | h
    · exact N1.new a h
    · exact up a (N2.new a h)
  · rcases List.mem_append.mp h with h | h
    · exact (U.stand d N1.out).2 a h
    · exact N2.out a h
end
/-- an expression that makes new, owned data of a shape (.z: any frozen data) -/
def FE (X : Cx) (p : Par) (e : Expr) (ie : IE) (sh : Sh) : Prop := ∀ σ Z H ρ ω fp d ω', StaX X p σ Z H ρ ω fp → ev p.O ie ρ ω = some (d, ω') → ∀ Q : VK,
  (∀ v Z' H' fp' g, StepX X p ie.quiet σ Z H ω fp Z' H' ω' fp' → Ow X.K p.ad Z' H' sh v d g → NewG H fp' g → Q v H') → tR X e σ H Q
def FEs (X : Cx) (p : Par) (es : List Expr) (ies : IEs) (sh : Sh) : Prop := ∀ σ Z H ρ ω fp ds ω', StaX X p σ Z H ρ ω fp → evs p.O ies ρ ω = some (ds, ω') → ∀ Q : List V → Hp → Prop,
  (∀ vs Z' H' fp' g, StepX X p ies.quiet σ Z H ω fp Z' H' ω' fp' → Ows X.K p.ad Z' H' sh vs ds g → NewG H fp' g → Q vs H') → tAR X es σ H Q
theorem Ows.rps {K : PySem.W.Frag} {ad : Str → Addr} {Z H : Hp} : ∀ {vs : List V} {ds : List D} {g : List Addr}, Ows K ad Z H .z vs ds g → Rps K ad Z vs ds ∧ g = []
  | _, _, _, .nil => ⟨.nil, rfl⟩
  | _, _, _, .cons h r => by
    obtain ⟨r1, e1⟩ := Ows.rps r
    cases h with
    | z h => exact ⟨.cons h r1, by rw [e1]; rfl⟩
theorem Rps.ows {K : PySem.W.Frag} {ad : Str → Addr} {Z H : Hp} : ∀ {vs : List V} {ds : List D}, Rps K ad Z vs ds → Ows K ad Z H .z vs ds []
  | _, _, .nil => .nil
  | _, _, .cons h r => .cons (f := []) (.z h) (Rps.ows r)
theorem Ows.length {K : PySem.W.Frag} {ad : Str → Addr} {Z H : Hp} {sh : Sh} : ∀ {vs : List V} {ds : List D} {g : List Addr}, Ows K ad Z H sh vs ds g → vs.length = ds.length
  | _, _, _, .nil => rfl
  | _, _, _, .cons _ r => congrArg (· + 1) (Ows.length r)
section
variable {X : Cx} {p : Par} {e : Expr} {es : List Expr} {ie : IE} {ies : IEs} {sh : Sh} {pos : Pos}
theorem FE.of (h : SE X p e ie) : FE X p e ie .z := fun σ Z H ρ ω fp d ω' S he Q hQ => h σ Z H ρ ω fp d ω' S he Q fun v Z' H' fp' T r => hQ v Z' H' fp' [] T (.z r) NewG.nil
theorem FE.se (h : FE X p e ie sh) : SE X p e ie := fun σ Z H ρ ω fp d ω' S he Q hQ => h σ Z H ρ ω fp d ω' S he Q fun v Z' H' fp' g T w N => hQ v _ H' fp' (T.freeze N S.zok w.dom) w.frozen
def notStar : Expr → Bool
  | .Starred _ _ => false
  | _ => true
theorem starEach_cons {e : Expr} {es : List Expr} {env : PySem.Env} (h : notStar e = true) : starEach (e :: es) env = (false, eval e env) :: starEach es env := by
  cases e <;> first | rfl | cases h
theorem fes_nil : FEs X p [] .nil sh := fun σ Z H ρ ω fp ds ω' S he Q hQ pos pins s I => by
  cases he
  exact pa_nil.run pos pins s σ H Q I (hQ _ _ _ _ _ S.refl .nil NewG.nil)
theorem fes_cons (hn : notStar e = true) (h : FE X p e ie sh) (hr : FEs X p es ies sh) : FEs X p (e :: es) (.cons ie ies) sh := fun σ Z H ρ ω fp ds ω' S he Q hQ pos pins s I => by
  obtain ⟨x, ω1, e1, he⟩ := of_bnd he
  obtain ⟨xs, ω2, e2, he⟩ := of_bnd he
  cases he
  refine (pa_cons (pe_R e) (pa_R es) (starEach_cons hn)).run pos pins s σ H Q I ?_
  refine h σ Z H ρ ω fp x ω1 S e1 _ fun v1 Z1 H1 fp1 g1 T1 w1 N1 => ?_
  refine hr σ Z1 H1 ρ ω1 fp1 xs _ (T1.sta S) e2 _ fun v2 Z2 H2 fp2 g2 T2 w2 N2 => ?_
  exact hQ _ Z2 H2 fp2 _ (T1.trans T2) (.cons (w1.stand (T2.stand w1.dom N1.out).1) w2) (NewG.app T1 T2 N1 N2 w1.dom)
/-- a tuple -/
theorem se_tup {k : Nat} (h : FEs X p es ies .z) : SE X p (.Tuple es k pos) (.tup ies) := fun σ Z H ρ ω fp d ω' S he Q hQ pins s I => by
  obtain ⟨xs, ω1, e1, he⟩ := of_bnd he
  split at he
  · rename_i hl
    cases he
    refine (pe_tup (pa_R es)).run pins s σ H Q I (h σ Z H ρ ω fp xs _ S e1 _ fun vs Z1 H1 fp1 g T w N => ?_)
    obtain ⟨r, rfl⟩ := w.rps
    refine ⟨by rw [r.length]; exact hl, fun a ha => ?_⟩
    obtain ⟨n, r'⟩ := new_tup T.nx.zh ha r
    have T2 : StepX X p true σ Z1 H1 ω' fp1 _ _ ω' fp1 := Sta.nw (T.sta S) n
    have := T.trans T2
    rw [Bool.and_true] at this
    exact hQ _ _ _ _ this r'
  · cases he
/-- a new object that is not frozen -/
theorem Step.newO {K : PySem.W.Frag} {ad : Str → Addr} {tbs : List Addr} {os : Osl} {σ : L2.St} {Z H Z1 H1 : Hp} {ρ : Env} {ω ω1 : Om} {fp fp1 : Fp} {q : Bool} {a : Addr} {o : HO} (T : Step K ad os q σ Z H ω fp Z1 H1 ω1 fp1) (S : Sta K ad tbs os σ Z H ρ ω fp) (ha : H1 a = none) :
    Step K ad os q σ Z H ω fp Z1 (upd H1 a o) ω1 fp1 ∧ Nw Z1 H1 Z1 (upd H1 a o) := by
  have n : Nw Z1 H1 Z1 (upd H1 a o) := Nx.newO T.nx.zh ha
  have T2 : Step K ad os true σ Z1 H1 ω1 fp1 Z1 (upd H1 a o) ω1 fp1 := Sta.nw (T.sta S) n
  have := T.trans T2
  rw [Bool.and_true] at this
  exact ⟨this, n⟩
theorem none_back {M : Addr → Prop} {Z H Z1 H1 : Hp} (n : Nx M Z H Z1 H1) {a : Addr} (h : H1 a = none) : H a = none := by
  cases e : H a with
  | none => rfl
  | some o => obtain ⟨o', e'⟩ := n.dm a o e; rw [h] at e'; cases e'
/-- a list -/
theorem fe_lst (h : FEs X p es ies sh) : FE X p (.List es pos) (.lst ies) (.l sh) := fun σ Z H ρ ω fp d ω' S he Q hQ pins s I => by
  obtain ⟨xs, ω1, e1, he⟩ := of_bnd he
  split at he
  · rename_i hl
    cases he
    refine (pe_lst (pa_R es)).run pins s σ H Q I (h σ Z H ρ ω fp xs _ S e1 _ fun vs Z1 H1 fp1 g T w N => ?_)
    refine ⟨by rw [w.length]; exact hl, fun a ha => ?_⟩
    obtain ⟨T2, n⟩ := T.newO (o := .lst vs) S ha
    have d := w.dom
    have za : Z1 a = none := by
      cases e : Z1 a with
      | none => rfl
      | some o => rw [T.nx.zh.le _ _ e] at ha; cases ha
    have w' : Ow X.K p.ad Z1 (upd H1 a (.lst vs)) (.l sh) (.ref a) (.lst xs) (a :: g) := .lst za upd_same (w.stand (Nx.stand n d fun _ _ h => h))
    refine hQ _ _ _ _ _ T2 w' ⟨List.nodup_cons.mpr ⟨fun hm => ?_, N.nd⟩, fun b hb => ?_, fun b hb => ?_⟩
    · obtain ⟨_, o, e, _⟩ := d a hm
      rw [ha] at e; cases e
    · rcases List.mem_cons.mp hb with rfl | hb
      · exact none_back T.nx ha
      · exact N.new b hb
    · rcases List.mem_cons.mp hb with rfl | hb
      · intro ⟨j, hj⟩
        obtain ⟨_, o, e, _⟩ := T.os.dom j b hj
        rw [ha] at e; cases e
      · exact N.out b hb
  · cases he
variable {a b : Expr} {ia ib : IE}
def isSlice : Expr → Bool
  | .Slice _ _ _ _ => true
  | _ => false
theorem plainIx {b : Expr} (h : isSlice b = false) : PlainIx b := fun o i => by
  cases b <;> first | rfl | cases h
theorem se_idx (hu : X.A.units + 64 < cLine) (ha : SE X p a ia) (hb : SE X p b ib) (hs : isSlice b = false) : SE X p (.Subscript a b pos) (.idx ia ib) :=
  se_two (f := didx) (pe_ix (ix_D (ad := p.ad) hu) (pe_R a) (pe_R b) (plainIx hs)) rfl ha hb rfl fun _ _ => rfl
/-- the parts of a slice -/
def SO (X : Cx) (p : Par) (e : Option Expr) (io : IO) : Prop := ∃ t : TO, PO X e t ∧ ∀ σ Z H ρ ω fp d ω', StaX X p σ Z H ρ ω fp → evo p.O io ρ ω = some (d, ω') → ∀ Q : Option Int → Hp → Prop,
  (∀ Z' H' fp', StepX X p io.quiet σ Z H ω fp Z' H' ω' fp' → Q d H') → t σ H Q
theorem so_no : SO X p none .no := ⟨_, po_none, fun σ Z H ρ ω fp d ω' S he Q hQ => by cases he; exact hQ _ _ _ S.refl⟩
theorem so_yes (h : SE X p e ie) : SO X p (some e) (.yes ie) := ⟨_, po_some (pe_R e), fun σ Z H ρ ω fp d ω' S he Q hQ => by
  obtain ⟨x, ω1, e1, he⟩ := of_bnd he
  refine h σ Z H ρ ω fp x ω1 S e1 _ fun v1 Z1 H1 fp1 T1 r1 => ?_
  cases x with
  | int i => cases r1; cases he; exact ⟨i, rfl, hQ _ _ _ T1⟩
  | _ => cases he⟩
theorem se_slc {lo hi : Option Expr} {il ih : IO} {p2 : Pos} (ha : SE X p a ia) (hl : SO X p lo il) (hh : SO X p hi ih) : SE X p (.Subscript a (.Slice lo hi none p2) pos) (.slc ia il ih) := fun σ Z H ρ ω fp d ω' S he Q hQ pins s I => by
  obtain ⟨tl, pl, kl⟩ := hl
  obtain ⟨th, ph, kh⟩ := hh
  obtain ⟨x, ω1, e1, he⟩ := of_bnd he
  obtain ⟨l, ω2, e2, he⟩ := of_bnd he
  obtain ⟨h, ω3, e3, he⟩ := of_bnd he
  obtain ⟨e4, rfl⟩ := of_opt he
  refine (pe_slice (sl_D (ad := p.ad)) (pe_R a) pl ph).run pins s σ H Q I ?_
  refine ha σ Z H ρ ω fp x ω1 S e1 _ fun v1 Z1 H1 fp1 T1 r1 => ?_
  refine kl σ Z1 H1 ρ ω1 fp1 l ω2 (T1.sta S) e2 _ fun Z2 H2 fp2 T2 => ?_
  refine kh σ Z2 H2 ρ ω2 fp2 h _ (T2.sta (T1.sta S)) e3 _ fun Z3 H3 fp3 T3 => ?_
  refine ⟨Z3, x, d, T3.nx.zh, (r1.le T2.nx.zz).le T3.nx.zz, e4, fun z Z4 H4 n4 r4 => ?_⟩
  have T4 : StepX X p true σ Z3 H3 ω' fp3 Z4 H4 ω' fp3 := Sta.nw (T3.sta (T2.sta (T1.sta S))) n4
  have := ((T1.trans T2).trans T3).trans T4
  rw [Bool.and_true] at this
  exact hQ z Z4 H4 fp3 this r4
def baseOk : Expr → Bool
  | .Call (.Name _ _) [] [] _ => false
  | _ => true
theorem base_eq {o : Expr} {f : Str} {env : PySem.Env} {w : Sem Value} (h : baseOk o = true) : attributeBase o f env w = w := by
  unfold attributeBase
  split
  · cases h
  · rfl
/-- a field of a frozen instance -/
theorem se_fld {C f : Str} (hb : baseOk a = true) (c : Cls X.K (p.ad C)) (n : NoAttr X.K (p.ad C) f) (ha : SE X p a ia) : SE X p (.Attribute a f pos) (.fld C ia f) := fun σ Z H ρ ω fp d ω' S he Q hQ pins s I => by
  obtain ⟨x, ω1, e1, he2⟩ := of_bnd he
  refine (pe_fld (pe_R a) (base_eq hb)).run pins s σ H Q I (ha σ Z H ρ ω fp x ω1 S e1 _ fun v1 Z1 H1 fp1 T1 r1 => ?_)
  cases x with
  | ins C' fs =>
    have he3 : (if C' = C then opt (fs.lookup f) ω1 else none) = some (d, ω') := he2
    split at he3
    · rename_i hC
      subst hC
      obtain ⟨e2, rfl⟩ := of_opt he3
      cases r1 with
      | ins hz hr =>
        obtain ⟨v, e3, r⟩ := hr.look e2
        exact ⟨_, _, _, _, v, rfl, T1.nx.zh.le _ _ hz, c, n, e3, hQ v Z1 H1 fp1 T1 r⟩
    · cases he3
  | _ => cases he2
end

/-! ### arguments -/
def shapeA : IAs → List (Option Nat)
  | .nil => []
  | .fz _ r => none :: shapeA r
  | .io j r => some j :: shapeA r
def shapeV : List AV → List (Option Nat)
  | [] => []
  | .fz _ :: r => none :: shapeV r
  | .io j :: r => some j :: shapeV r
def iosS : List (Option Nat) → List Nat
  | [] => []
  | none :: r => iosS r
  | some j :: r => j :: iosS r
def ksS (os : Osl) : List (Option Nat) → Ks
  | [] => []
  | none :: r => none :: ksS os r
  | some j :: r => (os[j]?).map (·.2) :: ksS os r
theorem shape_eva {O : Orc} {ρ : Env} : ∀ {l : IAs} {ω ω' : Om} {as : List AV}, eva O l ρ ω = some (as, ω') → shapeV as = shapeA l
  | .nil, _, _, _, h => by cases h; rfl
  | .fz e r, _, _, _, h => by
    obtain ⟨x, ω1, e1, h⟩ := of_bnd h
    obtain ⟨xs, ω2, e2, h⟩ := of_bnd h
    cases h
    show none :: shapeV xs = none :: shapeA r
    rw [shape_eva e2]
  | .io j r, ω, _, _, h => by
    have h : (match omAt ω j with
      | some _ => bnd (eva O r ρ ω) fun ds ω2 => ret (AV.io j :: ds) ω2
      | none => none) = _ := h
    split at h
    · obtain ⟨xs, ω2, e2, h⟩ := of_bnd h
      cases h
      show some j :: shapeV xs = some j :: shapeA r
      rw [shape_eva e2]
    · cases h
theorem ios_shape : ∀ as : List AV, iosOf as = iosS (shapeV as)
  | [] => rfl
  | .fz _ :: r => ios_shape r
  | .io j :: r => congrArg (j :: ·) (ios_shape r)
theorem quiet_shape : ∀ l : IAs, l.quiet = true → iosS (shapeA l) = []
  | .nil, _ => rfl
  | .fz e r, h => by
    have h : (e.quiet && r.quiet) = true := h
    rw [Bool.and_eq_true] at h
    exact quiet_shape r h.2
  | .io j r, h => by cases h
/-- the values of arguments -/
inductive AvR (K : PySem.W.Frag) (ad : Str → Addr) (Z : Hp) (σ : L2.St) (os : Osl) : List AV → List V → Prop
  | nil : AvR K ad Z σ os [] []
  | fz {d : D} {v : V} {as : List AV} {vs : List V} : Rp K ad Z v d → AvR K ad Z σ os as vs → AvR K ad Z σ os (.fz d :: as) (v :: vs)
  | io {j i : Nat} {sh : Sh} {v : V} {as : List AV} {vs : List V} : os[j]? = some (i, sh) → σ[i]? = some (some v) → AvR K ad Z σ os as vs → AvR K ad Z σ os (.io j :: as) (v :: vs)
theorem AvR.le {K : PySem.W.Frag} {ad : Str → Addr} {Z Z' : Hp} {σ : L2.St} {os : Osl} (l : Le Z Z') : ∀ {as : List AV} {vs : List V}, AvR K ad Z σ os as vs → AvR K ad Z' σ os as vs
  | _, _, .nil => .nil
  | _, _, .fz r h => .fz (r.le l) (AvR.le l h)
  | _, _, .io a b h => .io a b (AvR.le l h)
def SA (X : Cx) (p : Par) (es : List Expr) (ias : IAs) : Prop := ∀ σ Z H ρ ω fp as ω', StaX X p σ Z H ρ ω fp → eva p.O ias ρ ω = some (as, ω') → ∀ Q : List V → Hp → Prop,
  (∀ vs Z' H' fp', StepX X p ias.quiet σ Z H ω fp Z' H' ω' fp' → AvR X.K p.ad Z' σ p.os as vs → Q vs H') → tAR X es σ H Q
section
variable {X : Cx} {p : Par} {e : Expr} {es : List Expr} {ie : IE} {ias : IAs} {pos : Pos}
theorem sa_nil : SA X p [] .nil := fun σ Z H ρ ω fp as ω' S he Q hQ pos pins s I => by
  cases he
  exact pa_nil.run pos pins s σ H Q I (hQ _ _ _ _ S.refl .nil)
theorem sa_fz (hn : notStar e = true) (h : SE X p e ie) (hr : SA X p es ias) : SA X p (e :: es) (.fz ie ias) := fun σ Z H ρ ω fp as ω' S he Q hQ pos pins s I => by
  obtain ⟨x, ω1, e1, he⟩ := of_bnd he
  obtain ⟨xs, ω2, e2, he⟩ := of_bnd he
  cases he
  refine (pa_cons (pe_R e) (pa_R es) (starEach_cons hn)).run pos pins s σ H Q I ?_
  refine h σ Z H ρ ω fp x ω1 S e1 _ fun v1 Z1 H1 fp1 T1 r1 => ?_
  refine hr σ Z1 H1 ρ ω1 fp1 xs _ (T1.sta S) e2 _ fun v2 Z2 H2 fp2 T2 r2 => ?_
  exact hQ _ Z2 H2 fp2 (T1.trans T2) (.fz (r1.le T2.nx.zz) r2)
theorem sa_io {j i : Nat} {sh : Sh} {x : Str} {pos : Pos} (hj : p.os[j]? = some (i, sh)) (hN : X.N[i]? = some x) (hv : Vis X.env.scope x) (hd : (x == ("__debug__" : Str)) = false) (hcd : (x == ("__classdict__" : Str)) = false) (hr : SA X p es ias) : SA X p (.Name x pos :: es) (.io j ias) := fun σ Z H ρ ω fp as ω' S he Q hQ pos pins s I => by
  have he : (match omAt ω j with
      | some _ => bnd (eva p.O ias ρ ω) fun ds ω2 => ret (AV.io j :: ds) ω2
      | none => none) = _ := he
  split at he
  · rename_i d hd
    obtain ⟨xs, ω2, e2, he⟩ := of_bnd he
    cases he
    obtain ⟨i', sh', v, q1, q2, w⟩ := (S.os.yes j d hd).ex
    rw [hj] at q1; cases q1
    refine (pa_cons (pe_var hN hv (by assumption) hcd) (pa_R es) (starEach_cons rfl)).run pos pins s σ H Q I ⟨v, q2, ?_⟩
    refine hr σ Z H ρ ω fp xs _ S e2 _ fun v2 Z2 H2 fp2 T2 r2 => ?_
    exact hQ _ Z2 H2 fp2 T2.loud (.io hj q2 r2)
  · cases he
end
/-! ### a call, between the arguments and the result -/
def fpsOf (fp : Fp) (js : List Nat) : List (List Addr) := js.map fp
theorem mem_fps {fp : Fp} {a : Addr} {js : List Nat} (h : a ∈ (fpsOf fp js).flatten) : ∃ j ∈ js, a ∈ fp j := by
  obtain ⟨l, hl, ha⟩ := List.mem_flatten.mp h
  obtain ⟨j, hj, rfl⟩ := List.mem_map.mp hl
  exact ⟨j, hj, ha⟩
theorem fps_nodup {fp : Fp} (n : NdF fp) : ∀ {js : List Nat}, js.Nodup → (fpsOf fp js).flatten.Nodup
  | [], _ => .nil
  | j :: js, h => by
    rw [List.nodup_cons] at h
    refine List.nodup_append.mpr ⟨n.one j, fps_nodup n h.2, fun a h1 b h2 e => ?_⟩
    subst e
    obtain ⟨k, hk, h2⟩ := mem_fps h2
    exact h.1 (n.two j k a h1 h2 ▸ hk)
section
variable {K : PySem.W.Frag} {ad : Str → Addr} {os : Osl} {σ : L2.St} {Z H : Hp} {ω : Om} {fp : Fp}
theorem args_of (O : Os K ad Z H σ os ω fp) : ∀ {as : List AV} {vs : List V} {ds : List D}, AvR K ad Z σ os as vs → argsOf ω as = some ds → Args K ad Z H (ksS os (shapeV as)) vs ds (fpsOf fp (iosOf as))
  | _, _, _, .nil, e => by cases e; exact .nil
  | _, _, _, .fz r h, e => by
    obtain ⟨ds, e1, rfl⟩ := Option.map_eq_some_iff.mp e
    exact .fz r (args_of O h e1)
  | .io j :: as, _, _, .io a b h, e => by
    have e : (match omAt ω j with
      | some d => (argsOf ω as).map (d :: ·)
      | none => none) = _ := e
    split at e
    · rename_i d hd
      obtain ⟨ds, e1, rfl⟩ := Option.map_eq_some_iff.mp e
      obtain ⟨i', sh', v, q1, q2, w⟩ := (O.yes j d hd).ex
      rw [a] at q1; cases q1
      rw [b] at q2; cases q2
      show Args K ad Z H ((os[j]?).map (·.2) :: ksS os (shapeV as)) _ _ (fp j :: fpsOf fp (iosOf as))
      rw [a]
      exact .io w (args_of O h e1)
    · cases e
theorem args_lt : ∀ {as : List AV} {ds : List D}, argsOf ω as = some ds → ∀ j ∈ iosOf as, j < ω.length
  | [], _, _, j, h => by cases h
  | .fz d :: as, _, e, j, h => by
    obtain ⟨ds, e1, _⟩ := Option.map_eq_some_iff.mp e
    exact args_lt e1 j h
  | .io k :: as, _, e, j, h => by
    have e : (match omAt ω k with
      | some d => (argsOf ω as).map (d :: ·)
      | none => none) = _ := e
    split at e
    · rename_i d hd
      obtain ⟨ds, e1, _⟩ := Option.map_eq_some_iff.mp e
      rcases List.mem_cons.mp h with rfl | h
      · exact (List.getElem?_eq_some_iff.mp (omAt_some hd)).1
      · exact args_lt e1 j h
    · cases e
theorem omAt_set {ω : Om} {j k : Nat} {o : Option D} (h : j < ω.length) : omAt (ω.set j o) k = if k = j then o else omAt ω k := by
  unfold omAt
  by_cases e : k = j
  · subst e
    rw [if_pos rfl, List.getElem?_set_self h]; rfl
  · rw [if_neg e, List.getElem?_set_ne (Ne.symm e)]
/-- the arguments handed in and out, behind the call -/
theorem outs_of {H0 Z' H' : Hp} {fp0 : Fp} : ∀ {as : List AV} {vs : List V} {outs : List D} {gps : List (List Addr)} (ω : Om) (fp : Fp), AvR K ad Z σ os as vs → Outs K ad H0 Z' H' (ksS os (shapeV as)) vs outs (fpsOf fp0 (iosOf as)) gps → (iosOf as).Nodup → gps.flatten.Nodup → (∀ j ∈ iosOf as, j < ω.length) →
    ∃ fpn : Fp, (∀ j ∈ iosOf as, (fpn j).Nodup ∧ (∀ a ∈ fpn j, a ∈ fp0 j ∨ H0 a = none) ∧ (∀ a ∈ fpn j, a ∈ gps.flatten) ∧ ∃ d, omAt (wr ω (iosOf as) outs) j = some d ∧ Own K ad Z' H' σ (os[j]?) d (fpn j)) ∧
      (∀ j, j ∉ iosOf as → fpn j = fp j ∧ omAt (wr ω (iosOf as) outs) j = omAt ω j) ∧ ∀ j ∈ iosOf as, ∀ k ∈ iosOf as, ∀ a, a ∈ fpn j → a ∈ fpn k → j = k
  | _, _, _, _, ω, fp, .nil, h, _, _, _ => by
    cases h
    exact ⟨fp, fun j h => (by cases h), fun j _ => ⟨rfl, rfl⟩, fun j h => (by cases h)⟩
  | .fz _ :: as, _, _, _, ω, fp, .fz r av, h, n, nf, hl => by
    cases h with
    | fz h => exact outs_of (as := as) ω fp av h n nf hl
  | .io j :: as, _, _, _, ω, fp, .io (sh := sh) q1 q2 av, h, n, nf, hl => by
    have e0 : ksS os (shapeV (.io j :: as)) = some sh :: ksS os (shapeV as) := by
      show (os[j]?).map (·.2) :: _ = _
      rw [q1]; rfl
    rw [e0] at h
    cases h with
    | @io _ _ _ o _ os' _ f _ gps' w hg h =>
      have n' := List.nodup_cons.mp n
      have nf' := List.nodup_append.mp (show (f ++ gps'.flatten).Nodup from nf)
      have lj := hl j List.mem_cons_self
      obtain ⟨fpn, a1, a2, a3⟩ := outs_of (ω.set j (some o)) (setF fp j f) av h n'.2 nf'.2.1 fun k hk => by rw [List.length_set]; exact hl k (List.mem_cons_of_mem _ hk)
      have ej : fpn j = f ∧ omAt (wr (ω.set j (some o)) (iosOf as) os') j = some o := by
        obtain ⟨b1, b2⟩ := a2 j n'.1
        rw [b1, b2, omAt_set lj, if_pos rfl]
        exact ⟨by unfold setF; rw [if_pos rfl], rfl⟩
      refine ⟨fpn, fun k hk => ?_, fun k hk => ?_, fun k hk m hm a h1 h2 => ?_⟩
      · rcases List.mem_cons.mp hk with rfl | hk
        · refine ⟨by rw [ej.1]; exact nf'.1, fun a ha => by rw [ej.1] at ha; exact hg a ha, fun a ha => by rw [ej.1] at ha; exact List.mem_append_left _ ha, o, ej.2, ?_⟩
          rw [ej.1]
          exact ⟨_, _, _, q1, q2, w⟩
        · obtain ⟨b1, b2, b2', d, b3, b4⟩ := a1 k hk
          exact ⟨b1, b2, fun a ha => List.mem_append_right _ (b2' a ha), d, b3, b4⟩
      · have hk' : ¬ k = j ∧ k ∉ iosOf as := ⟨fun e => hk (e ▸ List.mem_cons_self), fun e => hk (List.mem_cons_of_mem _ e)⟩
        obtain ⟨b1, b2⟩ := a2 k hk'.2
        refine ⟨by rw [b1]; unfold setF; rw [if_neg hk'.1], ?_⟩
        show omAt (wr (ω.set j (some o)) (iosOf as) os') k = _
        rw [b2, omAt_set lj, if_neg hk'.1]
      · rcases List.mem_cons.mp hk with ek | hk1
        · rcases List.mem_cons.mp hm with em | hm1
          · rw [ek, em]
          · rw [ek, ej.1] at h1
            exact absurd rfl (nf'.2.2 a h1 a ((a1 m hm1).2.2.1 a h2))
        · rcases List.mem_cons.mp hm with em | hm1
          · rw [em, ej.1] at h2
            exact absurd rfl (nf'.2.2 a h2 a ((a1 k hk1).2.2.1 a h1))
          · exact a3 k hk1 m hm1 a h1 h2
end
/-- the owned variables behind a call that changed M -/
theorem call_back {K : PySem.W.Frag} {ad : Str → Addr} {os : Osl} {σ : L2.St} {Z H Z' H' : Hp} {ω : Om} {fp : Fp} {M : Addr → Prop} {as : List AV} {vs : List V} {ds outs : List D} {gps : List (List Addr)} (so : Os K ad Z H σ os ω fp) (sn : NdF fp) (av : AvR K ad Z σ os as vs) (nd : (iosOf as).Nodup)
    (hds : argsOf ω as = some ds) (n : Nx M Z H Z' H') (hM : ∀ a, M a → a ∈ (fpsOf fp (iosOf as)).flatten ∨ ¬ inF fp a) (ho : Outs K ad H Z' H' (ksS os (shapeV as)) vs outs (fpsOf fp (iosOf as)) gps) (nf : gps.flatten.Nodup) :
    ∃ fpn : Fp, Os K ad Z' H' σ os (wr ω (iosOf as) outs) fpn ∧ NdF fpn ∧ (∀ j a, a ∈ fpn j → a ∈ fp j ∨ H a = none) ∧ (∀ a, inF fpn a → a ∈ gps.flatten ∨ inF fp a) ∧ (iosOf as = [] → fpn = fp ∧ wr ω (iosOf as) outs = ω) := by
  obtain ⟨fpn, a1, a2, a3⟩ := outs_of ω fp av ho nd nf (args_lt hds)
  refine ⟨fpn, ⟨fun j d' e' => ?_, fun j e' => ?_⟩, ⟨fun j => ?_, fun j k a h1 h2 => ?_⟩, fun j a ha => ?_, fun a ⟨j, ha⟩ => ?_, fun h => ?_⟩
  · by_cases hj : j ∈ iosOf as
    · obtain ⟨_, _, _, d2, b3, b4⟩ := a1 j hj
      rw [e'] at b3; cases b3
      exact b4
    · obtain ⟨b1, b2⟩ := a2 j hj
      rw [b1]
      rw [b2] at e'
      obtain ⟨i, sh, v, q1, q2, w⟩ := (so.yes j d' e').ex
      refine ⟨i, sh, v, q1, q2, w.stand (Nx.stand n w.dom fun a ha hm => ?_)⟩
      rcases hM a hm with hm | hm
      · obtain ⟨k, hk, hm⟩ := mem_fps hm
        exact hj (sn.two j k a ha hm ▸ hk)
      · exact hm ⟨j, ha⟩
  · by_cases hj : j ∈ iosOf as
    · obtain ⟨_, _, _, d2, b3, _⟩ := a1 j hj
      rw [e'] at b3; cases b3
    · obtain ⟨b1, b2⟩ := a2 j hj
      rw [b1]
      rw [b2] at e'
      exact so.no j e'
  · by_cases hj : j ∈ iosOf as
    · exact (a1 j hj).1
    · rw [(a2 j hj).1]; exact sn.one j
  · have cross : ∀ {j k : Nat}, j ∈ iosOf as → k ∉ iosOf as → a ∈ fpn j → a ∈ fp k → False := fun {j k} hj hk h1 h2 => by
      rcases (a1 j hj).2.1 a h1 with h | h
      · exact hk (sn.two k j a h2 h ▸ hj)
      · obtain ⟨_, o, e, _⟩ := so.dom k a h2
        rw [h] at e; cases e
    by_cases hj : j ∈ iosOf as <;> by_cases hk : k ∈ iosOf as
    · exact a3 j hj k hk a h1 h2
    · rw [(a2 k hk).1] at h2
      exact (cross hj hk h1 h2).elim
    · rw [(a2 j hj).1] at h1
      exact (cross hk hj h2 h1).elim
    · rw [(a2 j hj).1] at h1
      rw [(a2 k hk).1] at h2
      exact sn.two j k a h1 h2
  · by_cases hj : j ∈ iosOf as
    · exact (a1 j hj).2.1 a ha
    · rw [(a2 j hj).1] at ha
      exact .inl ha
  · by_cases hj : j ∈ iosOf as
    · exact .inl ((a1 j hj).2.2.1 a ha)
    · rw [(a2 j hj).1] at ha
      exact .inr ⟨j, ha⟩
  · refine ⟨funext fun j => (a2 j (by rw [h]; simp)).1, ?_⟩
    rw [h]
    cases outs <;> rfl
/-- a call: from the arguments to the promise -/
theorem call_core {X : Cx} {p : Par} {σ : L2.St} {Z H : Hp} {ρ : Env} {ω : Om} {fp : Fp} {f : FKey} {ks : Ks} {as : List AV} {vs : List V} {d : D} {ω' : Om} {E : XK} {q : Bool} (S : StaX X p σ Z H ρ ω fp) (av : AvR X.K p.ad Z σ p.os as vs) (hk : ksS p.os (shapeV as) = ks) (nd : (iosOf as).Nodup)
    (hq : q = true → iosOf as = []) (he : doCall p.O f as ω = some (d, ω')) {Q : VK} (hQ : ∀ v Z' H' fp', StepX X p q σ Z H ω fp Z' H' ω' fp' → Rp X.K p.ad Z' v d → Q v H') : SpF X.K p.ad p.tbs p.O f ks vs H Q E := by
  unfold doCall at he
  split at he
  · cases he
  · rename_i ds hds
    split at he
    · cases he
    · rename_i r outs hO
      cases he
      subst hk
      refine ⟨Z, ds, fpsOf fp (iosOf as), d, outs, S.zok, S.tb, args_of S.os av hds, fps_nodup S.nd nd, hO, fun v Z' H' gps n rv ho nf => ?_⟩
      obtain ⟨fpn, b1, b2, b3, _, b5⟩ := call_back S.os S.nd av nd hds n (fun a h => .inl h) ho nf
      refine hQ v Z' H' fpn ⟨?_, b1, b2, b3, fun h => b5 (hq h)⟩ rv
      refine n.mono fun x hx => .inl ?_
      cases q with
      | true => rw [hq rfl] at hx; cases hx
      | false =>
        obtain ⟨j, _, h⟩ := mem_fps hx
        exact ⟨j, h⟩
end Rf
end

section
set_option Elab.async false
set_option linter.all false
set_option maxRecDepth 100000
set_option maxHeartbeats 2000000
/-! Calls of defs, methods, classes, built-ins. -/
namespace Rf
open PySem PySem.Spec PyProof.Rows L2
theorem star_all {es : List Expr} {env : PySem.Env} {pos : Pos} (h : es.all notStar = true) : ∀ x ∈ backTo pos (starEach es env), x.1 = false := by
  induction es with
  | nil => intro x hx; cases hx
  | cons e es ih =>
    rw [List.all_cons, Bool.and_eq_true] at h
    rw [starEach_cons h.1]
    intro x hx
    rcases List.mem_cons.mp (show x ∈ (false, eval e env) :: backTo pos (starEach es env) from hx) with rfl | hx
    · rfl
    · exact ih h.2 x hx
theorem star_none {es : List Expr} {env : PySem.Env} {pos : Pos} (h : es.all notStar = true) : (backTo pos (starEach es env)).any (·.1) = false := by
  rw [List.any_eq_false]
  intro x hx
  rw [star_all h x hx]
  simp
/-- the tree of a method call on one line -/
theorem mt_tree {o : Expr} {m : Str} {apos pos : Pos} {args : List Expr} {env : PySem.Env} (hb : baseOk o = true) (hl : (apos.endLine == pos.line) = true) (hn : args.all notStar = true) (hz : args.length < 30) :
    eval (.Call (.Attribute o m apos) args [] pos) env = (do
      let ov ← eval o env
      standAt apos.atName
      let (f, first) ← holding [ov] (getMethod ov m (plainOf o env))
      callWith pos f first (backTo pos (starEach args env)) (backToKw pos (keywordEach [] env))) := by
  have hf : methodCallForm (args.length + ([] : List Keyword).length) (backTo pos (starEach args env)) (backToKw pos (keywordEach [] env)) = true := by
    unfold methodCallForm
    rw [show (backTo pos (starEach args env)).all (fun x => !x.1) = true from List.all_eq_true.mpr fun x hx => by rw [star_all hn x hx]; rfl]
    show (true && true && decide (args.length + 0 + 0 < 30)) = true
    rw [decide_eq_true (by omega)]; rfl
  show (do
    let ov ← attributeBase o m env (eval o env)
    standAt apos.atName
    methodCall o m apos pos env ov (args.length + ([] : List Keyword).length) (backTo pos (starEach args env)) (backToKw pos (keywordEach [] env))) = _
  rw [base_eq hb]
  simp only [mcall_line hf hl]
section
variable {X : Cx} {p : Par} {e o : Expr} {es : List Expr} {ie io : IE} {ias : IAs} {pos p0 apos : Pos} {j k : Nat} {f C m : Str} {ks : Ks}
/-- the arguments' end: a call -/
theorem call_end {σ : L2.St} {Z H : Hp} {ρ : Env} {ω ω1 ω' : Om} {fp fp1 : Fp} {Z1 H1 : Hp} {fk : FKey} {as : List AV} {vs : List V} {d : D} {E : XK} {ias : IAs} (S : StaX X p σ Z H ρ ω fp) (T : StepX X p ias.quiet σ Z H ω fp Z1 H1 ω1 fp1) (av : AvR X.K p.ad Z1 σ p.os as vs)
    (hs : shapeV as = shapeA ias) (hk : ksS p.os (shapeA ias) = ks) (nd : (iosS (shapeA ias)).Nodup) (he : doCall p.O fk as ω1 = some (d, ω')) {Q : VK} (hQ : ∀ v Z' H' fp', StepX X p ias.quiet σ Z H ω fp Z' H' ω' fp' → Rp X.K p.ad Z' v d → Q v H') : SpF X.K p.ad p.tbs p.O fk ks vs H1 Q E :=
  call_core (q := ias.quiet) (T.sta S) av (by rw [hs]; exact hk) (by rw [ios_shape, hs]; exact nd) (fun h => by rw [ios_shape, hs]; exact quiet_shape ias h) he fun v Z2 H2 fp2 T2 r2 => hQ v Z2 H2 fp2 (by
    have := T.trans T2
    rwa [Bool.and_self] at this) r2
/-- f(..) -/
theorem se_call (c : C8.Cal X.prog X.w X.K X.mg X.base k f (SpF X.K p.ad p.tbs p.O (.fn f) ks) []) (hr : Room j X.A) (hj : k ≤ j) (hg : Gl X f) (hd : (f == ("__debug__" : Str)) = false) (ha : SA X p (e :: es) ias) (hn : (e :: es).all notStar = true)
    (hk : ksS p.os (shapeA ias) = ks) (nd : (iosS (shapeA ias)).Nodup) : SE X p (.Call (.Name f p0) (e :: es) [] pos) (.call f ias) := fun σ Z H ρ ω fp d ω' S he Q hQ pins s I => by
  obtain ⟨as, ω1, e1, he2⟩ := of_bnd he
  rw [List.all_cons, Bool.and_eq_true] at hn
  refine (C8.pe_c c hr hj hg (pa_R _) hd (starEach_cons hn.1) (star_none hn.2)).run pins s σ H Q I ?_
  refine ha σ Z H ρ ω fp as ω1 S e1 _ fun vs Z1 H1 fp1 T av => ?_
  rw [List.append_nil]
  exact call_end S T av (shape_eva e1) hk nd he2 hQ
theorem se_call0 (c : C8.Cal X.prog X.w X.K X.mg X.base k f (SpF X.K p.ad p.tbs p.O (.fn f) ks) []) (hr : Room j X.A) (hj : k ≤ j) (hg : Gl X f) (hd : (f == ("__debug__" : Str)) = false) (hk : ks = []) : SE X p (.Call (.Name f p0) [] [] pos) (.call f .nil) := fun σ Z H ρ ω fp d ω' S he Q hQ pins s I => by
  obtain ⟨as, ω1, e1, he2⟩ := of_bnd he
  cases e1
  obtain ⟨fa, fd, ps, ds, F, hm, kp, b, dv⟩ := c.ex
  refine (pe_call0 F (hr.mono hj) hg hm kp b dv (E := C8.E0) C8.pass0 hd).run pins s σ H Q I ?_
  exact call_end (ias := .nil) (E := C8.E0) S S.refl .nil rfl hk.symm .nil he2 hQ
/-- the arguments by any reading -/
def SAt (X : Cx) (p : Par) (t : TA) (ias : IAs) : Prop := ∀ σ Z H ρ ω fp as ω', StaX X p σ Z H ρ ω fp → eva p.O ias ρ ω = some (as, ω') → ∀ Q : List V → Hp → Prop,
  (∀ vs Z' H' fp', StepX X p ias.quiet σ Z H ω fp Z' H' ω' fp' → AvR X.K p.ad Z' σ p.os as vs → Q vs H') → t σ H Q
theorem sat_nil : SAt X p tNil .nil := fun σ Z H ρ ω fp as ω' S he Q hQ => by
  cases he
  exact hQ _ _ _ _ S.refl .nil
/-- o.m(..), o frozen -/
theorem mth_key {t : TA} (hk : ksS p.os (shapeA ias) = ks) (nd : (iosS (shapeA ias)).Nodup) (ho : SE X p o io) (ha : SAt X p t ias) {σ : L2.St} {Z H : Hp} {ρ : Env} {ω ω' : Om} {fp : Fp} {d : D} (S : StaX X p σ Z H ρ ω fp) (he : ev p.O (.mth C io m ias) ρ ω = some (d, ω')) {Q : VK}
    (hQ : ∀ v Z' H' fp', StepX X p (IE.mth C io m ias).quiet σ Z H ω fp Z' H' ω' fp' → Rp X.K p.ad Z' v d → Q v H') : tMeth (p.ad C) m (SpF X.K p.ad p.tbs p.O (.mt C m) (none :: ks)) [] C8.E0 (tR X o) t σ H Q := by
  obtain ⟨x, ω1, e1, he1⟩ := of_bnd he
  refine ho σ Z H ρ ω fp x ω1 S e1 _ fun v1 Z1 H1 fp1 T1 r1 => ?_
  cases x with
  | ins C' fs =>
    have he2 : (if C' = C ∧ (fs.lookup m).isNone = true then bnd (eva p.O ias ρ ω1) fun as ω2 => doCall p.O (.mt C m) (.fz (.ins C' fs) :: as) ω2 else none) = some (d, ω') := he1
    split at he2
    · rename_i hC
      obtain ⟨hC, hm⟩ := hC
      subst hC
      obtain ⟨as, ω2, e2, he3⟩ := of_bnd he2
      cases r1 with
      | ins hz hr =>
        have hm' : fs.lookup m = none := by simpa using hm
        refine ⟨_, _, _, rfl, T1.nx.zh.le _ _ hz, hr.look_none hm', ?_⟩
        refine ha σ Z1 H1 ρ ω1 fp1 as ω2 (T1.sta S) e2 _ fun vs Z2 H2 fp2 T2 av => ?_
        rw [List.append_nil]
        have r2 : Rp X.K p.ad Z2 (.ref _) (.ins C' fs) := (Rp.ins hz hr).le T2.nx.zz
        exact call_end (ias := .fz io ias) S (T1.trans T2) (.fz r2 av) (by show none :: shapeV as = none :: shapeA ias; rw [shape_eva e2]) (by show none :: ksS p.os (shapeA ias) = _; rw [hk]) nd he3 hQ
    · cases he2
  | _ => cases he1
theorem se_mth (c : C8.Met X.prog X.w X.K X.mg X.base k (p.ad C) m (SpF X.K p.ad p.tbs p.O (.mt C m) (none :: ks)) []) (hr : Room j X.A) (hj : k ≤ j) (hb : baseOk o = true) (hl : (apos.endLine == pos.line) = true) (ho : SE X p o io) (ha : SA X p (e :: es) ias) (hn : (e :: es).all notStar = true) (hz : (e :: es).length < 30)
    (hk : ksS p.os (shapeA ias) = ks) (nd : (iosS (shapeA ias)).Nodup) : SE X p (.Call (.Attribute o m apos) (e :: es) [] pos) (.mth C io m ias) := fun σ Z H ρ ω fp d ω' S he Q hQ pins s I => by
  have hn' := hn
  rw [List.all_cons, Bool.and_eq_true] at hn'
  exact (C8.pe_mt c hr hj (pe_R o) (pa_R _) (starEach_cons hn'.1) (star_none hn'.2) (mt_tree hb hl hn hz)).run pins s σ H Q I (mth_key hk nd ho ha S he hQ)
theorem se_mth0 (c : C8.Met X.prog X.w X.K X.mg X.base k (p.ad C) m (SpF X.K p.ad p.tbs p.O (.mt C m) [none]) []) (hr : Room j X.A) (hj : k ≤ j) (hb : baseOk o = true) (hl : (apos.endLine == pos.line) = true) (ho : SE X p o io) : SE X p (.Call (.Attribute o m apos) [] [] pos) (.mth C io m .nil) := fun σ Z H ρ ω fp d ω' S he Q hQ pins s I =>
  (C8.pe_mt0 c hr hj (pe_R o) (mt_tree hb hl rfl (by decide))).run pins s σ H Q I (mth_key (ks := []) (ias := .nil) rfl .nil ho sat_nil S he hQ)
/-- x.m(..), x an owned variable -/
theorem mtho_key {t : TA} {i n : Nat} {sh : Sh} (hjn : p.os[n]? = some (i, sh)) (hsh : ∃ fl, sh = .i fl) (hk : ksS p.os (shapeA ias) = ks) (nd : (n :: iosS (shapeA ias)).Nodup) (ha : SAt X p t ias) {σ : L2.St} {Z H : Hp} {ρ : Env} {ω ω' : Om} {fp : Fp} {d : D} (S : StaX X p σ Z H ρ ω fp) (he : ev p.O (.mtho n C m ias) ρ ω = some (d, ω')) {Q : VK}
    (hQ : ∀ v Z' H' fp', StepX X p false σ Z H ω fp Z' H' ω' fp' → Rp X.K p.ad Z' v d → Q v H') : tMeth (p.ad C) m (SpF X.K p.ad p.tbs p.O (.mt C m) (some sh :: ks)) [] C8.E0 (tVar i) t σ H Q := by
  have he1 : (match omAt ω n with
    | some (.ins C' fs) => if C' = C ∧ (fs.lookup m).isNone = true then bnd (eva p.O ias ρ ω) fun as ω2 => doCall p.O (.mt C m) (AV.io n :: as) ω2 else none
    | _ => none) = some (d, ω') := he
  split at he1
  · rename_i C' fs hd
    split at he1
    · rename_i hC
      obtain ⟨hC, hm⟩ := hC
      subst hC
      obtain ⟨as, ω2, e2, he3⟩ := of_bnd he1
      obtain ⟨i', sh', v, q1, q2, w⟩ := (S.os.yes n _ hd).ex
      rw [hjn] at q1; cases q1
      obtain ⟨fl, rfl⟩ := hsh
      generalize hfn : fp n = fpn at w
      cases w with
      | @ins _ a dx _ vs0 _ fp0 hz hh _ hf =>
        have hm' : fs.lookup m = none := by simpa using hm
        have lk : ∀ {vs : List (Str × V)} {ds : List (Str × D)} {g : List Addr}, OwF X.K p.ad Z H fl vs ds g → ds.lookup m = none → vs.lookup m = none := by
          intro vs
          induction vs with
          | nil => intro ds g _ _; rfl
          | cons kv vs ih =>
            intro ds g h e
            cases h with
            | @cons _ k v d _ ds f g h1 h2 =>
              by_cases q : m = k
              · subst q; simp at e
              · have q' : (m == k) = false := beq_eq_false_iff_ne.mpr q
                simp only [List.lookup, q'] at e ⊢
                exact ih h2 e
        refine ⟨_, q2, a, dx, vs0, rfl, hh, lk hf hm', ?_⟩
        refine ha σ Z H ρ ω fp as ω2 S e2 _ fun vs Z2 H2 fp2 T2 av => ?_
        rw [List.append_nil]
        exact call_end (ias := .io n ias) S T2.loud (.io hjn q2 av) (by show some n :: shapeV as = some n :: shapeA ias; rw [shape_eva e2]) (by show (p.os[n]?).map (·.2) :: ksS p.os (shapeA ias) = _; rw [hk, hjn]; rfl) nd he3 hQ
    · cases he1
  · cases he1
theorem se_mtho {i n : Nat} {sh : Sh} {x : Str} {px : Pos} (c : C8.Met X.prog X.w X.K X.mg X.base k (p.ad C) m (SpF X.K p.ad p.tbs p.O (.mt C m) (some sh :: ks)) []) (hr : Room j X.A) (hj : k ≤ j) (hjn : p.os[n]? = some (i, sh)) (hsh : ∃ fl, sh = .i fl) (hN : X.N[i]? = some x) (hv : Vis X.env.scope x) (hd : (x == ("__debug__" : Str)) = false) (hcd : (x == ("__classdict__" : Str)) = false)
    (hl : (apos.endLine == pos.line) = true) (ha : SA X p (e :: es) ias) (hn : (e :: es).all notStar = true) (hz : (e :: es).length < 30) (hk : ksS p.os (shapeA ias) = ks) (nd : (n :: iosS (shapeA ias)).Nodup) : SE X p (.Call (.Attribute (.Name x px) m apos) (e :: es) [] pos) (.mtho n C m ias) := fun σ Z H ρ ω fp d ω' S he Q hQ pins s I => by
  have hn' := hn
  rw [List.all_cons, Bool.and_eq_true] at hn'
  exact (C8.pe_mt c hr hj (pe_var hN hv hd hcd) (pa_R _) (starEach_cons hn'.1) (star_none hn'.2) (mt_tree rfl hl hn hz)).run pins s σ H Q I (mtho_key hjn hsh hk nd ha S he hQ)
theorem se_mtho0 {i n : Nat} {sh : Sh} {x : Str} {px : Pos} (c : C8.Met X.prog X.w X.K X.mg X.base k (p.ad C) m (SpF X.K p.ad p.tbs p.O (.mt C m) [some sh]) []) (hr : Room j X.A) (hj : k ≤ j) (hjn : p.os[n]? = some (i, sh)) (hsh : ∃ fl, sh = .i fl) (hN : X.N[i]? = some x) (hv : Vis X.env.scope x) (hd : (x == ("__debug__" : Str)) = false) (hcd : (x == ("__classdict__" : Str)) = false)
    (hl : (apos.endLine == pos.line) = true) : SE X p (.Call (.Attribute (.Name x px) m apos) [] [] pos) (.mtho n C m .nil) := fun σ Z H ρ ω fp d ω' S he Q hQ pins s I =>
  (C8.pe_mt0 c hr hj (pe_var hN hv hd hcd) (mt_tree rfl hl rfl (by decide))).run pins s σ H Q I (mtho_key (ks := []) (ias := .nil) hjn hsh rfl (by simp [shapeA, iosS]) sat_nil S he hQ)
/-- o.f, a property -/
theorem se_prp {g pa : Addr} {fd : FuncData} {ps : List Str} (c : Cls X.K (p.ad C)) (hp : PropOf X.K (p.ad C) f pa g) (F : FnOk X.prog X.w X.K X.mg X.base C8.CX0 k g fd ps (SpF X.K p.ad p.tbs p.O (.mt C f) [none])) (b : Binds X.K fd ps []) (hr : Room j X.A) (hj : k + 1 ≤ j) (hb : baseOk o = true) (ho : SE X p o io) :
    SE X p (.Attribute o f pos) (.prp C io f) := fun σ Z H ρ ω fp d ω' S he Q hQ pins s I => by
  refine (pe_prop (pe_R o) c hp F (hr.mono hj) b .nil (E := C8.E0) C8.pass0 (base_eq hb)).run pins s σ H Q I ?_
  obtain ⟨x, ω1, e1, he1⟩ := of_bnd he
  refine ho σ Z H ρ ω fp x ω1 S e1 _ fun v1 Z1 H1 fp1 T1 r1 => ?_
  cases x with
  | ins C' fs =>
    have he2 : (if C' = C then doCall p.O (.mt C f) [.fz (.ins C' fs)] ω1 else none) = some (d, ω') := he1
    split at he2
    · rename_i hC
      subst hC
      cases r1 with
      | ins hz hr =>
        refine ⟨_, _, _, rfl, T1.nx.zh.le _ _ hz, ?_⟩
        refine call_end (ias := .fz io .nil) (E := C8.E0) S (by show StepX X p (io.quiet && true) σ Z H ω fp Z1 H1 ω1 fp1; rw [Bool.and_true]; exact T1) (.fz (.ins hz hr) .nil) rfl rfl .nil he2 fun v Z' H' fp' T r => hQ v Z' H' fp' ?_ r
        have T : StepX X p (io.quiet && true) σ Z H ω fp Z' H' ω' fp' := T
        rwa [Bool.and_true] at T
    · cases he2
  | _ => cases he1
/-- built-in functions, by data -/
theorem se_prm {pr : Prim} {x : Str} {v : Value} {ies : IEs} (hc : CallR X v (rP X.K p.ad pr)) (hv0 : (∃ id, v = .builtin id) ∨ ∃ T, v = .type T) (hg : Gl X x) (hm : X.mg x = none) (hv : bootBuiltins x = some v) (hx : x ≠ "__name__") (hd : (x == ("__debug__" : Str)) = false) (ha : FEs X p (e :: es) ies .z) (hn : (e :: es).all notStar = true) :
    SE X p (.Call (.Name x p0) (e :: es) [] pos) (.prm pr ies) := fun σ Z H ρ ω fp d ω' S he Q hQ pins s I => by
  obtain ⟨ds, ω1, e1, he1⟩ := of_bnd he
  obtain ⟨e2, rfl⟩ := of_opt he1
  rw [List.all_cons, Bool.and_eq_true] at hn
  have key : tCB (rP X.K p.ad pr) (tAR X (e :: es)) σ H Q := ha σ Z H ρ ω fp ds _ S e1 _ fun vs Z1 H1 fp1 g T w N => by
    obtain ⟨r, rfl⟩ := w.rps
    refine ⟨Z1, ds, d, T.nx.zh, r, e2, fun z Z2 H2 n2 r2 => hQ z Z2 H2 fp1 ?_ r2⟩
    have T2 : StepX X p true σ Z1 H1 ω' fp1 Z2 H2 ω' fp1 := Sta.nw (T.sta S) n2
    have := T.trans T2
    rwa [Bool.and_true] at this
  rcases hv0 with ⟨id, rfl⟩ | ⟨T, rfl⟩
  · exact (pe_callB hc hg hm hv (pa_R _) hx hd (starEach_cons hn.1) (star_none hn.2)).run pins s σ H Q I key
  · exact (pe_callTy hc hg hm hv (pa_R _) hx hd (starEach_cons hn.1) (star_none hn.2)).run pins s σ H Q I key
end
end Rf
end

section
set_option Elab.async false
set_option linter.all false
set_option maxRecDepth 100000
set_option maxHeartbeats 2000000
/-! Classes made; isinstance; what looks at owned variables. -/
namespace Rf
open PySem PySem.Spec PyProof.Rows L2
theorem Nx.mono' {M M' : Addr → Prop} {Z H Z1 H1 : Hp} (a : Nx M Z H Z1 H1) (h : ∀ x, M x → M' x) : Nx M' Z H Z1 H1 := a.mono fun x hx => .inl (h x hx)
section
variable {X : Cx} {p : Par} {e o : Expr} {es : List Expr} {ie io : IE} {ias : IAs} {pos p0 apos : Pos} {j k : Nat} {f C m : Str} {ks : Ks} {sh : List (Str × Sh)}
/-- C(..): the promise of __init__ gives a new, owned instance -/
theorem make_core {σ : L2.St} {Z H : Hp} {ρ : Env} {ω : Om} {fp : Fp} {as : List AV} {vs : List V} {ds outs : List D} {d : D} {E : XK} {q : Bool} {x dx : Addr} (S : StaX X p σ Z H ρ ω fp) (av : AvR X.K p.ad Z σ p.os as vs) (hk : ksS p.os (shapeV as) = ks) (nd : (iosOf as).Nodup)
    (hq : q = true → iosOf as = []) (hds : argsOf ω as = some ds) (hO : p.O (.mt C "__init__") (.ins C [] :: ds) = some (.non, d :: outs)) (hx : H x = none) (hdx : H dx = none) (hne : dx ≠ x) {Q : VK}
    (hQ : ∀ Z' H' fp' g, StepX X p q σ Z H ω fp Z' H' (wr ω (iosOf as) outs) fp' → Ow X.K p.ad Z' H' (.i sh) (.ref x) d g → NewG H fp' g → Q (.ref x) H') :
    SpF X.K p.ad p.tbs p.O (.mt C "__init__") (some (.i sh) :: ks) (.ref x :: vs) (upd (upd H dx (.own x)) x (.ins (p.ad C) dx [])) (fun v H2 => v = .non ∧ Q (.ref x) H2) E := by
  have n1 : Nw Z H Z (upd H dx (.own x)) := Nx.newO S.zok hdx
  have hx1 : (upd H dx (.own x)) x = none := by rw [upd_ne (Ne.symm hne)]; exact hx
  have n2 : Nw Z (upd H dx (.own x)) Z (upd (upd H dx (.own x)) x (.ins (p.ad C) dx [])) := Nx.newO n1.zh hx1
  generalize hH1 : upd (upd H dx (.own x)) x (.ins (p.ad C) dx []) = H1 at n2 ⊢
  have n12 : Nw Z H Z H1 := n1.trans n2 fun _ h => h.elim
  have T1 : StepX X p true σ Z H ω fp Z H1 ω fp := Sta.nw S n12
  have S1 := T1.sta S
  have hxn : ∀ jj, x ∉ fp jj := fun jj h => by
    obtain ⟨_, o, e, _⟩ := S.os.dom jj x h
    rw [hx] at e; cases e
  have zx : Z x = none := by
    cases e : Z x with
    | none => rfl
    | some o => rw [S.zok.le _ _ e] at hx; cases hx
  have hxin : x ∉ (fpsOf fp (iosOf as)).flatten := fun h => by
    obtain ⟨jj, _, h⟩ := mem_fps h
    exact hxn jj h
  subst hk
  refine ⟨Z, _, [x] :: fpsOf fp (iosOf as), .non, _, S1.zok, S1.tb, .io (.ins (ds := []) zx (by rw [← hH1]; exact upd_same) .nil .nil) (args_of S1.os av hds), ?_, hO, fun v Z' H' gps n rv ho nf => ?_⟩
  · refine List.nodup_append.mpr ⟨List.nodup_cons.mpr ⟨by simp, .nil⟩, fps_nodup S1.nd nd, fun a h1 b h2 e => ?_⟩
    rw [List.mem_singleton] at h1
    subst e h1
    exact hxin h2
  · cases rv
    cases ho with
    | @io _ _ _ _ _ _ _ g _ gps' w hg ho =>
      have nf' := List.nodup_append.mp (show (g ++ gps'.flatten).Nodup from nf)
      obtain ⟨fpn, b1, b2, b3, b4, b5⟩ := call_back S1.os S1.nd av nd hds n (fun a h => by
        rcases List.mem_append.mp (show a ∈ [x] ++ (fpsOf fp (iosOf as)).flatten from h) with h | h
        · rw [List.mem_singleton] at h
          subst h
          exact .inr fun ⟨jj, h⟩ => hxn jj h
        · exact .inl h) ho nf'.2.1
      have gn : ∀ a ∈ g, H a = none := fun a ha => by
        rcases hg a ha with h | h
        · rw [List.mem_singleton] at h; rw [h]; exact hx
        · exact none_back n12 h
      refine ⟨rfl, hQ Z' H' fpn g ⟨?_, b1, b2, fun jj a ha => ?_, fun h => b5 (hq h)⟩ w ⟨nf'.1, gn, fun a ha h => ?_⟩⟩
      · refine (n12.mono' (M' := if q = true then noA else inF fp) fun _ h => h.elim).trans n fun a h => ?_
        rcases List.mem_append.mp (show a ∈ [x] ++ (fpsOf fp (iosOf as)).flatten from h) with h | h
        · rw [List.mem_singleton] at h; subst h; exact .inr hx
        · obtain ⟨jj, hj, h⟩ := mem_fps h
          refine .inl ?_
          cases q with
          | true => rw [hq rfl] at hj; cases hj
          | false => exact ⟨jj, h⟩
      · rcases b3 jj a ha with h | h
        · exact .inl h
        · exact .inr (none_back n12 h)
      · rcases b4 a h with h | ⟨jj, h⟩
        · exact nf'.2.2 a ha a h rfl
        · obtain ⟨_, o, e, _⟩ := S.os.dom jj a h
          rw [gn a ha] at e; cases e
theorem fe_mk (c : C8.Mak X.prog X.w X.K X.mg X.base k C (p.ad C) (SpF X.K p.ad p.tbs p.O (.mt C "__init__") (some (.i sh) :: ks)) []) (hr : Room j X.A) (hj : k + 1 ≤ j) (hg : Gl X C) (hd : (C == ("__debug__" : Str)) = false) (ha : SA X p (e :: es) ias) (hn : (e :: es).all notStar = true)
    (hk : ksS p.os (shapeA ias) = ks) (nd : (iosS (shapeA ias)).Nodup) : FE X p (.Call (.Name C p0) (e :: es) [] pos) (.mk C ias) (.i sh) := fun σ Z H ρ ω fp d ω' S he Q hQ pins s I => by
  obtain ⟨as, ω1, e1, he2⟩ := of_bnd he
  rw [List.all_cons, Bool.and_eq_true] at hn
  split at he2
  · cases he2
  · rename_i ds hds
    split at he2
    · rename_i d' outs hO
      cases he2
      refine (C8.pe_mk c hr hj hg (pa_R _) hd (starEach_cons hn.1) (star_none hn.2)).run pins s σ H Q I ?_
      refine ha σ Z H ρ ω fp as ω1 S e1 _ fun vs Z1 H1 fp1 T av => ?_
      intro x dx hx hdx hne
      rw [List.append_nil]
      have hs := shape_eva e1
      refine make_core (q := ias.quiet) (T.sta S) av (by rw [hs]; exact hk) (by rw [ios_shape, hs]; exact nd) (fun h => by rw [ios_shape, hs]; exact quiet_shape ias h) hds hO hx hdx hne fun Z2 H2 fp2 g T2 w N => ?_
      have T12 := T.trans T2
      rw [Bool.and_self] at T12
      exact hQ _ Z2 H2 fp2 g T12 w ⟨N.nd, fun a ha => none_back T.nx (N.new a ha), N.out⟩
    · cases he2

/-! ### isinstance -/
def isTs : List String := ["tuple", "str", "int", "bool", "list", "dict"]
theorem kit_all : (["NoneType", "bool", "int", "str", "tuple", "list", "dict"].all fun t => isTs.all fun T => kitB t T == some (t == T || (t == "bool" && T == "int"))) = true := by kernel_rfl
theorem tyN_mem {d : D} {t : String} (h : tyN d = some t) : t ∈ ["NoneType", "bool", "int", "str", "tuple", "list", "dict"] := by
  cases d <;> cases h <;> decide
theorem kit_of {t T : String} (h : t ∈ ["NoneType", "bool", "int", "str", "tuple", "list", "dict"]) (h' : T ∈ isTs) : kitB t T = some (t == T || (t == "bool" && T == "int")) :=
  beq_iff_eq.mp (List.all_eq_true.mp (List.all_eq_true.mp kit_all t h) T h')
theorem tyX_of {K : PySem.W.Frag} {ad : Str → Addr} {Z H : Hp} {v : V} {d : D} {t : String} (z : ZOk Z H) (r : Rp K ad Z v d) (h : tyN d = some t) : TyX K H v (.type t) := by
  cases r with
  | non => cases h; exact .base .non
  | bl b => cases h; exact .base (.bl b)
  | int i => cases h; exact .base (.int i)
  | str x => cases h; exact .base (.str x)
  | tup hz _ => cases h; exact .base (.tup (z.le _ _ hz))
  | lst hz _ =>
    cases h
    rcases rd_le z.le hz with h | ⟨o, h⟩
    · exact .base (.lst h)
    · exact .base (.frz h)
  | dk hz _ => cases h; exact .base (.dK (z.le _ _ hz))
  | dt hz _ => cases h; exact .base (.dT (z.le _ _ hz))
  | _ => cases h
/-- isinstance(e, T) -/
theorem se_isTy {T : String} {p1 : Pos} {x : Str} (hT : T ∈ isTs) (hg : Gl X "isinstance") (hm : X.mg "isinstance" = none) (hv : bootBuiltins "isinstance" = some (.builtin "isinstance")) (hgT : Gl X x) (hmT : X.mg x = none) (hvT : bootBuiltins x = some (.type T)) (hxn : x ≠ "__name__") (hxd : (x == ("__debug__" : Str)) = false)
    (ho : SE X p o io) (hn : notStar o = true) : SE X p (.Call (.Name "isinstance" p0) [o, .Name x p1] [] pos) (.prm (.isTy T) (.cons io .nil)) := fun σ Z H ρ ω fp d ω' S he Q hQ pins s I => by
  obtain ⟨ds, ω1, e1, he1⟩ := of_bnd he
  obtain ⟨e2, rfl⟩ := of_opt he1
  obtain ⟨x0, ω2, e3, e4⟩ := of_bnd e1
  cases e4
  refine (pe_callB call_isi hg hm hv (pa_cons (pe_R o) (pa_cons (pe_bltn (v := .ty T) hgT hmT hvT rfl hxn hxd) pa_nil) (starEach_cons hn)) (by decide) (by decide) (starEach_cons hn) (star_none (es := [.Name x p1]) rfl)).run pins s σ H Q I ?_
  refine ho σ Z H ρ ω fp x0 _ S e3 _ fun v1 Z1 H1 fp1 T1 r1 => ?_
  have e5 : isTyD T x0 = some d := e2
  unfold isTyD at e5
  split at e5
  · obtain ⟨t, e6, rfl⟩ := Option.map_eq_some_iff.mp e5
    refine ⟨v1, .ty T, .type t, .type T, _, rfl, .ty T, tyX_of T1.nx.zh r1 e6, kit_ty (kit_of (tyN_mem e6) hT), hQ _ Z1 H1 fp1 ?_ (.bl _)⟩
    show StepX X p (io.quiet && true) σ Z H ω fp Z1 H1 ω' fp1
    rw [Bool.and_true]; exact T1
  · cases e5
/-- isinstance(e, C), e of this class -/
theorem se_isCls {p1 : Pos} {u : Value} (hg : Gl X "isinstance") (hm : X.mg "isinstance" = none) (hv : bootBuiltins "isinstance" = some (.builtin "isinstance")) (hgC : Gl X C) (hmC : X.mg C = some (.ref (p.ad C))) (hxd : (C == ("__debug__" : Str)) = false) (ic : C8.InsC X.K (p.ad C))
    (ho : SE X p o io) (hn : notStar o = true) : SE X p (.Call (.Name "isinstance" p0) [o, .Name C p1] [] pos) (.prm (.isCls C) (.cons io .nil)) := fun σ Z H ρ ω fp d ω' S he Q hQ pins s I => by
  obtain ⟨ds, ω1, e1, he1⟩ := of_bnd he
  obtain ⟨e2, rfl⟩ := of_opt he1
  obtain ⟨x0, ω2, e3, e4⟩ := of_bnd e1
  cases e4
  refine (pe_callB (C8.call_isC ic) hg hm hv (pa_cons (pe_R o) (pa_cons (pe_glob (v := .ref (p.ad C)) hgC hmC rfl hxd) pa_nil) (starEach_cons hn)) (by decide) (by decide) (starEach_cons hn) (star_none (es := [.Name C p1]) rfl)).run pins s σ H Q I ?_
  refine ho σ Z H ρ ω fp x0 _ S e3 _ fun v1 Z1 H1 fp1 T1 r1 => ?_
  cases x0 with
  | ins C' fs =>
    have e5 : (if C' = C then some (D.bl true) else none) = some d := e2
    split at e5
    · rename_i hC
      subst hC
      cases e5
      cases r1 with
      | ins hz hr =>
        refine ⟨_, _, _, rfl, T1.nx.zh.le _ _ hz, hQ _ Z1 H1 fp1 ?_ (.bl _)⟩
        show StepX X p (io.quiet && true) σ Z H ω fp Z1 H1 ω' fp1
        rw [Bool.and_true]; exact T1
    · cases e5
  | _ => cases e2
/-- isinstance(e, (tuple, list)) -/
theorem se_isSeq {p1 p2 p3 : Pos} {k1 : Nat} (hg : Gl X "isinstance") (hm : X.mg "isinstance" = none) (hv : bootBuiltins "isinstance" = some (.builtin "isinstance")) (hgT : Gl X "tuple") (hmT : X.mg "tuple" = none) (hvT : bootBuiltins "tuple" = some (.type "tuple"))
    (hgL : Gl X "list") (hmL : X.mg "list" = none) (hvL : bootBuiltins "list" = some (.type "list")) (ho : SE X p o io) (hn : notStar o = true) :
    SE X p (.Call (.Name "isinstance" p0) [o, .Tuple [.Name "tuple" p1, .Name "list" p2] k1 p3] [] pos) (.prm .isSeq (.cons io .nil)) := fun σ Z H ρ ω fp d ω' S he Q hQ pins s I => by
  obtain ⟨ds, ω1, e1, he1⟩ := of_bnd he
  obtain ⟨e2, rfl⟩ := of_opt he1
  obtain ⟨x0, ω2, e3, e4⟩ := of_bnd e1
  cases e4
  refine (pe_callB call_isiT hg hm hv (pa_cons (pe_R o) (pa_cons (pe_tup (pa_cons (pe_bltn (v := .ty "tuple") hgT hmT hvT rfl) (pa_cons (pe_bltn (v := .ty "list") hgL hmL hvL rfl) pa_nil))) pa_nil) (starEach_cons hn)) (by decide) (by decide) (starEach_cons hn) (star_none (es := [.Tuple [.Name "tuple" p1, .Name "list" p2] k1 p3]) rfl)).run pins s σ H Q I ?_
  refine ho σ Z H ρ ω fp x0 _ S e3 _ fun v1 Z1 H1 fp1 T1 r1 => ?_
  refine ⟨by show 2 ≤ sizeLine; decide, fun a ha => ?_⟩
  obtain ⟨T2, n⟩ := T1.newO (o := .tup [.ty "tuple", .ty "list"]) S ha
  obtain ⟨t, e6, rfl⟩ := Option.map_eq_some_iff.mp (show (tyN x0).map (fun t => D.bl (t == "tuple" || t == "list")) = some d from e2)
  refine ⟨v1, a, _, .type t, [.type "tuple", .type "list"], t == "tuple" || t == "list", rfl, upd_same, .cons (.ty _) (.cons (.ty _) .nil), tyX_of T2.nx.zh r1 e6, ?_, hQ _ Z1 _ fp1 ?_ (.bl _)⟩
  · have k1 := kit_of (tyN_mem e6) (show "tuple" ∈ isTs by decide)
    have k2 := kit_of (tyN_mem e6) (show "list" ∈ isTs by decide)
    rw [show ("tuple" == "int") = false by decide, Bool.and_false, Bool.or_false] at k1
    rw [show ("list" == "int") = false by decide, Bool.and_false, Bool.or_false] at k2
    refine kitAny_cons (kit_ty k1) (fun h => ?_) (fun h => by rw [h]; rfl)
    rw [h, Bool.false_or]
    exact kitAny_cons (kit_ty k2) (fun h => by rw [h]; exact kitAny_nil) (fun h => h)
  · show StepX X p (io.quiet && true) σ Z H ω fp Z1 _ ω' fp1
    rw [Bool.and_true]; exact T2
end
end Rf
end

section
set_option Elab.async false
set_option linter.all false
set_option maxRecDepth 100000
set_option maxHeartbeats 2000000
/-! What looks at owned variables; displays of dicts. -/
namespace Rf
open PySem PySem.Spec PyProof.Rows L2
def isMut : HO → Bool
  | .lst _ | .dK _ | .dT _ | .ins _ _ _ => true
  | _ => false
section
variable {K : PySem.W.Frag} {ad : Str → Addr} {Z H : Hp}
mutual
theorem Ow.mut : ∀ {sh : Sh} {v : V} {d : D} {fp : List Addr}, Ow K ad Z H sh v d fp → ∀ a ∈ fp, ∃ o, H a = some o ∧ isMut o = true
  | _, _, _, _, .z _, a, m => nomatch m
  | _, _, _, _, .lst z e r, a, m => (List.mem_cons.mp m).elim (fun q => q ▸ ⟨_, e, rfl⟩) fun q => Ows.mut r a q
  | _, _, _, _, .dk z e _ r, a, m => (List.mem_cons.mp m).elim (fun q => q ▸ ⟨_, e, rfl⟩) fun q => OwK.mut r a q
  | _, _, _, _, .dt z e _ r, a, m => (List.mem_cons.mp m).elim (fun q => q ▸ ⟨_, e, rfl⟩) fun q => OwT.mut r a q
  | _, _, _, _, .ins z e _ r, a, m => (List.mem_cons.mp m).elim (fun q => q ▸ ⟨_, e, rfl⟩) fun q => OwF.mut r a q
theorem Ows.mut : ∀ {sh : Sh} {v : List V} {d : List D} {fp : List Addr}, Ows K ad Z H sh v d fp → ∀ a ∈ fp, ∃ o, H a = some o ∧ isMut o = true
  | _, _, _, _, .nil, _, m => nomatch m
  | _, _, _, _, .cons h r, a, m => (List.mem_append.mp m).elim (Ow.mut h a) (Ows.mut r a)
theorem OwK.mut : ∀ {sh : Sh} {v : List (Key × V)} {d : List (Key × D)} {fp : List Addr}, OwK K ad Z H sh v d fp → ∀ a ∈ fp, ∃ o, H a = some o ∧ isMut o = true
  | _, _, _, _, .nil, _, m => nomatch m
  | _, _, _, _, .cons h r, a, m => (List.mem_append.mp m).elim (Ow.mut h a) (OwK.mut r a)
theorem OwT.mut : ∀ {sh : Sh} {v : List (List Key × V)} {d : List (List Key × D)} {fp : List Addr}, OwT K ad Z H sh v d fp → ∀ a ∈ fp, ∃ o, H a = some o ∧ isMut o = true
  | _, _, _, _, .nil, _, m => nomatch m
  | _, _, _, _, .cons h r, a, m => (List.mem_append.mp m).elim (Ow.mut h a) (OwT.mut r a)
theorem OwF.mut : ∀ {sh : List (Str × Sh)} {v : List (Str × V)} {d : List (Str × D)} {fp : List Addr}, OwF K ad Z H sh v d fp → ∀ a ∈ fp, ∃ o, H a = some o ∧ isMut o = true
  | _, _, _, _, .nil, _, m => nomatch m
  | _, _, _, _, .cons h r, a, m => (List.mem_append.mp m).elim (Ow.mut h a) (OwF.mut r a)
end
end
open Classical in
noncomputable def viewZ (Z H : Hp) (fp : Fp) : Hp := fun a => if inF fp a then H a else Z a
open Classical in
noncomputable def subZ (Z : Hp) (fp : Fp) : Hp := fun a => if inF fp a then none else Z a
theorem viewZ_in {Z H : Hp} {fp : Fp} {a : Addr} (h : inF fp a) : viewZ Z H fp a = H a := by unfold viewZ; rw [if_pos h]
theorem viewZ_out {Z H : Hp} {fp : Fp} {a : Addr} (h : ¬ inF fp a) : viewZ Z H fp a = Z a := by unfold viewZ; rw [if_neg h]
theorem subZ_in {Z : Hp} {fp : Fp} {a : Addr} (h : inF fp a) : subZ Z fp a = none := by unfold subZ; rw [if_pos h]
theorem subZ_out {Z : Hp} {fp : Fp} {a : Addr} (h : ¬ inF fp a) : subZ Z fp a = Z a := by unfold subZ; rw [if_neg h]
section
variable {K : PySem.W.Frag} {ad : Str → Addr} {tbs : List Addr} {os : Osl} {σ : L2.St} {Z H : Hp} {ρ : Env} {ω : Om} {fp : Fp}
theorem view_le (O : Os K ad Z H σ os ω fp) : Le Z (viewZ Z H fp) := fun a o e => by
  rw [viewZ_out fun ⟨j, h⟩ => by rw [(O.dom j a h).1] at e; cases e]
  exact e
theorem view_fz (S : Sta K ad tbs os σ Z H ρ ω fp) : ∀ (os' : Osl) (j : Nat), (∀ n, os'[n]? = os[j + n]?) → Fz K ad (viewZ Z H fp) σ (viewE ρ ω (os'.map (·.1)) j)
  | [], _, _ => S.fz.le (view_le S.os)
  | (i, sh) :: os', j, h => by
    have ih := view_fz S os' (j + 1) fun n => by
      have := h (n + 1)
      rw [show j + 1 + n = j + (n + 1) by omega, ← this]; rfl
    show Fz K ad (viewZ Z H fp) σ (match omAt ω j with
      | some d => (viewE ρ ω (os'.map (·.1)) (j + 1)).set i (some d)
      | none => viewE ρ ω (os'.map (·.1)) (j + 1))
    split
    · rename_i d hd
      obtain ⟨i', sh', v, q1, q2, w⟩ := (S.os.yes j d hd).ex
      have h0 := h 0
      rw [Nat.add_zero, q1] at h0
      have h0 : some (i, sh) = some (i', sh') := h0
      cases h0
      refine ⟨by rw [List.length_set]; exact ih.len, fun i2 d2 e => ?_⟩
      by_cases q : i = i2
      · subst q
        by_cases hl : i < (viewE ρ ω (os'.map (·.1)) (j + 1)).length
        · rw [List.getElem?_set_self hl] at e
          cases e
          exact ⟨v, q2, w.freeze (view_le S.os) fun a ha => viewZ_in ⟨j, ha⟩⟩
        · rw [List.getElem?_eq_none (by simpa using hl)] at e; cases e
      · rw [List.getElem?_set_ne q] at e
        exact ih.at_ i2 d2 e
    · exact ih
mutual
theorem flat_rp {Z' : Hp} (hz : ∀ a xs, Z a = some (.tup xs) → Z' a = some (.tup xs)) : ∀ (d : D) (v : V), Rp K ad Z v d → flatD d = true → Rp K ad Z' v d
  | .non, _, h, _ => by cases h; exact .non
  | .bl b, _, h, _ => by cases h; exact .bl b
  | .int i, _, h, _ => by cases h; exact .int i
  | .str x, _, h, _ => by cases h; exact .str x
  | .tup ds, _, h, f => by
    cases h with
    | tup h r => exact .tup (hz _ _ h) (flats_rp hz ds _ r f)
  | .lst _, _, _, f => by cases f
  | .dk _, _, _, f => by cases f
  | .dt _, _, _, f => by cases f
  | .ins _ _, _, _, f => by cases f
  | .fn _, _, _, f => by cases f
theorem flats_rp {Z' : Hp} (hz : ∀ a xs, Z a = some (.tup xs) → Z' a = some (.tup xs)) : ∀ (ds : List D) (vs : List V), Rps K ad Z vs ds → flatDs ds = true → Rps K ad Z' vs ds
  | [], _, h, _ => by cases h; exact .nil
  | d :: ds, _, h, f => by
    cases h with
    | cons h r =>
      have f : (flatD d && flatDs ds) = true := f
      rw [Bool.and_eq_true] at f
      exact .cons (flat_rp hz d _ h f.1) (flats_rp hz ds _ r f.2)
end
end
section
variable {X : Cx} {p : Par} {e : Expr} {ie : IE}
theorem view_sta {σ : L2.St} {Z H : Hp} {ρ : Env} {ω : Om} {fp : Fp} (S : StaX X p σ Z H ρ ω fp) : StaX X { p with os := [] } σ (viewZ Z H fp) H (viewE ρ ω (p.os.map (·.1)) 0) [] (fun _ => []) := {
  zok := fun a o e => by
    by_cases hi : inF fp a
    · rw [viewZ_in hi] at e
      obtain ⟨j, hj⟩ := hi
      obtain ⟨_, o', e', t⟩ := S.os.dom j a hj
      rw [e] at e'; cases e'
      exact ⟨e, t⟩
    · rw [viewZ_out hi] at e
      exact S.zok a o e
  fz := view_fz S p.os 0 fun n => by rw [Nat.zero_add]
  os := ⟨fun j d e => by simp [omAt] at e, fun _ _ => rfl⟩
  nd := ⟨fun _ => .nil, fun _ _ _ h => by cases h⟩
  tb := S.tb }
theorem view_back {σ : L2.St} {Z H Z1 H1 : Hp} {ρ : Env} {ω : Om} {fp : Fp} (S : StaX X p σ Z H ρ ω fp) (n : Nw (viewZ Z H fp) H Z1 H1) :
    StepX X p true σ Z H ω fp (subZ Z1 fp) H1 ω fp ∧ ∀ v d, Rp X.K p.ad Z1 v d → flatD d = true → Rp X.K p.ad (subZ Z1 fp) v d := by
  have hH : ∀ a, inF fp a → H1 a = H a ∧ Z1 a = H a := fun a hi => by
    obtain ⟨j, hj⟩ := hi
    obtain ⟨_, o, e, t⟩ := S.os.dom j a hj
    have e1 : viewZ Z H fp a = some o := by rw [viewZ_in ⟨j, hj⟩]; exact e
    exact ⟨by rw [e]; exact n.hh a o e (fun h => h) t, by rw [e]; exact n.zz a o e1⟩
  refine ⟨⟨⟨fun a o e => ?_, fun a o e => ?_, fun a o e => ?_, n.dm, fun a o e _ t => n.hh a o e (fun h => h) t, n.ht⟩, S.os.stand fun j => ⟨fun a o e => ?_, fun a ha => (hH a ⟨j, ha⟩).1, fun a ha => subZ_in ⟨j, ha⟩⟩, S.nd, fun _ _ h => .inl h, fun _ => ⟨rfl, rfl⟩⟩, fun v d r hf => flat_rp (fun a xs e => ?_) d v r hf⟩
  · have hi : ¬ inF fp a := fun ⟨j, hj⟩ => by rw [(S.os.dom j a hj).1] at e; cases e
    rw [subZ_out hi]
    exact n.zz a o (by rw [viewZ_out hi]; exact e)
  · by_cases hi : inF fp a
    · rw [subZ_in hi] at e; cases e
    · rw [subZ_out hi] at e
      exact n.zh a o e
  · by_cases hi : inF fp a
    · rw [subZ_in hi] at e; cases e
    · rw [subZ_out hi] at e
      rcases n.zn a o e with h | h | h
      · rw [viewZ_out hi] at h; exact .inl h
      · exact .inr (.inl h)
      · exact h.elim
  · have hi : ¬ inF fp a := fun ⟨j, hj⟩ => by rw [(S.os.dom j a hj).1] at e; cases e
    rw [subZ_out hi]
    exact n.zz a o (by rw [viewZ_out hi]; exact e)
  · have hi : ¬ inF fp a := fun hi => by
      have h1 := (hH a hi).2
      obtain ⟨j, hj⟩ := hi
      cases e2 : omAt ω j with
      | none => rw [S.os.no j e2] at hj; cases hj
      | some d =>
        obtain ⟨_, _, _, _, _, w⟩ := (S.os.yes j d e2).ex
        obtain ⟨o, e3, m⟩ := w.mut a hj
        rw [h1, e3] at e
        cases e; cases m
    rw [subZ_out hi]
    exact e
theorem ev_view {O : Orc} {sl : List Nat} {ρ : Env} {ω ω' : Om} {d : D} (he : ev O (.view sl ie) ρ ω = some (d, ω')) : ω' = ω ∧ viewOk d = true ∧ ∃ ω0, ev O ie (viewE ρ ω sl 0) [] = some (d, ω0) := by
  have he1 : (match ev O ie (viewE ρ ω sl 0) [] with
    | some (d, _) => if viewOk d then ret d ω else none
    | none => none) = some (d, ω') := he
  split at he1
  · rename_i d0 ω0 h0
    split at he1
    · rename_i hf
      cases he1
      exact ⟨rfl, hf, ω0, h0⟩
    · cases he1
  · cases he1
theorem se_view {sl : List Nat} (hsl : sl = p.os.map (·.1)) (h : SE X { p with os := [] } e ie) : SE X p e (.view sl ie) := fun σ Z H ρ ω fp d ω' S he Q hQ => by
  obtain ⟨rfl, hf, ω0, h0⟩ := ev_view he
  subst hsl
  refine h σ (viewZ Z H fp) H _ [] (fun _ => []) d ω0 (view_sta S) h0 _ fun v Z1 H1 fp1 T r => ?_
  obtain ⟨U, k⟩ := view_back S (T.nxF.mono fun x ⟨j, hx⟩ => by cases hx)
  exact hQ v _ H1 fp U (k v d r hf)
theorem st_view {sl : List Nat} (hsl : sl = p.os.map (·.1)) (h : ST X { p with os := [] } e ie) : ST X p e (.view sl ie) := fun σ Z H ρ ω fp b ω' S he Q hQ => by
  obtain ⟨rfl, hf, ω0, h0⟩ := ev_view he
  subst hsl
  refine h σ (viewZ Z H fp) H _ [] (fun _ => []) b ω0 (view_sta S) h0 _ fun Z1 H1 fp1 T => ?_
  exact hQ _ H1 fp (view_back S (T.nxF.mono fun x ⟨j, hx⟩ => by cases hx)).1
theorem sw_view {sl : List Nat} (hsl : sl = p.os.map (·.1)) (h : SW X { p with os := [] } e ie) : SW X p e (.view sl ie) := fun σ Z H ρ ω fp b ω' S he Q hQ => by
  obtain ⟨rfl, hf, ω0, h0⟩ := ev_view he
  subst hsl
  refine h σ (viewZ Z H fp) H _ [] (fun _ => []) b ω0 (view_sta S) h0 _ fun Z1 H1 fp1 T => ?_
  exact hQ _ H1 fp (view_back S (T.nxF.mono fun x ⟨j, hx⟩ => by cases hx)).1
theorem J.view {sl : List Nat} (hsl : sl = p.os.map (·.1)) (h : J X { p with os := [] } e ie) : J X p e (.view sl ie) := ⟨se_view hsl h.se, st_view hsl h.st, fun k => sw_view hsl (h.sw k)⟩
end
end Rf
end

section
set_option Elab.async false
set_option linter.all false
set_option maxRecDepth 100000
set_option maxHeartbeats 1000000
/-! A part of owned data, by a path; what is changed there. -/
namespace Rf
open PySem PySem.Spec PyProof.Rows L2
inductive OwG {κ : Type} (K : PySem.W.Frag) (ad : Str → Addr) (Z H : Hp) (s : κ → Sh) : List (κ × V) → List (κ × D) → List Addr → Prop
  | nil : OwG K ad Z H s [] [] []
  | cons {k : κ} {v : V} {d : D} {vs : List (κ × V)} {ds : List (κ × D)} {f g : List Addr} : Ow K ad Z H (s k) v d f → OwG K ad Z H s vs ds g → OwG K ad Z H s ((k, v) :: vs) ((k, d) :: ds) (f ++ g)
section
variable {K : PySem.W.Frag} {ad : Str → Addr} {Z H Z1 H1 : Hp}
theorem OwK.toG {s : Sh} : ∀ {vs : List (Key × V)} {ds : List (Key × D)} {g : List Addr}, OwK K ad Z H s vs ds g → OwG K ad Z H (fun _ => s) vs ds g
  | _, _, _, .nil => .nil
  | _, _, _, .cons h r => .cons h (OwK.toG r)
theorem OwG.toK {s : Sh} : ∀ {vs : List (Key × V)} {ds : List (Key × D)} {g : List Addr}, OwG K ad Z H (fun _ => s) vs ds g → OwK K ad Z H s vs ds g
  | _, _, _, .nil => .nil
  | _, _, _, .cons h r => .cons h (OwG.toK r)
theorem OwT.toG {s : Sh} : ∀ {vs : List (List Key × V)} {ds : List (List Key × D)} {g : List Addr}, OwT K ad Z H s vs ds g → OwG K ad Z H (fun _ => s) vs ds g
  | _, _, _, .nil => .nil
  | _, _, _, .cons h r => .cons h (OwT.toG r)
theorem OwG.toT {s : Sh} : ∀ {vs : List (List Key × V)} {ds : List (List Key × D)} {g : List Addr}, OwG K ad Z H (fun _ => s) vs ds g → OwT K ad Z H s vs ds g
  | _, _, _, .nil => .nil
  | _, _, _, .cons h r => .cons h (OwG.toT r)
theorem OwF.toG {sh : List (Str × Sh)} : ∀ {vs : List (Str × V)} {ds : List (Str × D)} {g : List Addr}, OwF K ad Z H sh vs ds g → OwG K ad Z H (shOf sh) vs ds g
  | _, _, _, .nil => .nil
  | _, _, _, .cons h r => .cons h (OwF.toG r)
theorem OwG.toF {sh : List (Str × Sh)} : ∀ {vs : List (Str × V)} {ds : List (Str × D)} {g : List Addr}, OwG K ad Z H (shOf sh) vs ds g → OwF K ad Z H sh vs ds g
  | _, _, _, .nil => .nil
  | _, _, _, .cons h r => .cons h (OwG.toF r)
theorem OwG.stand {κ : Type} {s : κ → Sh} : ∀ {vs : List (κ × V)} {ds : List (κ × D)} {g : List Addr}, OwG K ad Z H s vs ds g → Stand Z H Z1 H1 g → OwG K ad Z1 H1 s vs ds g
  | _, _, _, .nil, _ => .nil
  | _, _, _, .cons h r, st => .cons (h.stand st.left) (OwG.stand r st.right)
theorem OwG.len {κ : Type} {s : κ → Sh} : ∀ {vs : List (κ × V)} {ds : List (κ × D)} {g : List Addr}, OwG K ad Z H s vs ds g → vs.length = ds.length
  | _, _, _, .nil => rfl
  | _, _, _, .cons _ r => congrArg (· + 1) (OwG.len r)
theorem OwG.keys {κ : Type} {s : κ → Sh} : ∀ {vs : List (κ × V)} {ds : List (κ × D)} {g : List Addr}, OwG K ad Z H s vs ds g → vs.map (·.1) = ds.map (·.1)
  | _, _, _, .nil => rfl
  | _, _, _, .cons (k := k) _ r => congrArg (k :: ·) (OwG.keys r)
theorem map_same {κ α : Type} [DecidableEq κ] {k : κ} {v : α} : ∀ {l : List (κ × α)}, k ∉ l.map (·.1) → (l.map fun kv => if kv.1 = k then (kv.1, v) else kv) = l
  | [], _ => rfl
  | p :: l, h => by
    have h1 : p.1 ≠ k := fun e => h (by rw [← e]; exact List.mem_map.mpr ⟨p, List.mem_cons_self, rfl⟩)
    rw [List.map_cons, if_neg h1, map_same fun hm => h (by rw [List.map_cons]; exact List.mem_cons_of_mem _ hm)]
theorem valD_cons {κ : Type} [DecidableEq κ] {k q : κ} {d : D} {ds : List (κ × D)} : valD ((k, d) :: ds) q = if k = q then some d else valD ds q := by
  unfold valD
  rw [List.find?_cons]
  by_cases h : k = q <;> simp [h]
theorem valV_cons {κ : Type} [DecidableEq κ] {k q : κ} {d : V} {ds : List (κ × V)} : valV ((k, d) :: ds) q = if k = q then some d else valV ds q := by
  unfold valV
  rw [List.find?_cons]
  by_cases h : k = q <;> simp [h]
theorem putD_some {κ : Type} [DecidableEq κ] {ds : List (κ × D)} {k : κ} {v : D} (h : k ∈ ds.map (·.1)) : putD ds k v = ds.map fun kv => if kv.1 = k then (kv.1, v) else kv := by
  unfold putD
  rw [if_pos]
  obtain ⟨p, hp, e⟩ := List.mem_map.mp h
  exact List.any_eq_true.mpr ⟨p, hp, by simp [e]⟩
theorem putK_some {κ : Type} [DecidableEq κ] {ds : List (κ × V)} {k : κ} {v : V} (h : k ∈ ds.map (·.1)) : putK ds k v = ds.map fun kv => if kv.1 = k then (kv.1, v) else kv := by
  unfold putK
  rw [if_pos]
  obtain ⟨p, hp, e⟩ := List.mem_map.mp h
  exact List.any_eq_true.mpr ⟨p, hp, by simp [e]⟩
theorem putD_none {κ : Type} [DecidableEq κ] {ds : List (κ × D)} {k : κ} {v : D} (h : k ∉ ds.map (·.1)) : putD ds k v = ds ++ [(k, v)] := by
  unfold putD
  rw [if_neg]
  intro h'
  obtain ⟨p, hp, e⟩ := List.any_eq_true.mp h'
  exact h (List.mem_map.mpr ⟨p, hp, by simpa using e⟩)
theorem putK_none {κ : Type} [DecidableEq κ] {ds : List (κ × V)} {k : κ} {v : V} (h : k ∉ ds.map (·.1)) : putK ds k v = ds ++ [(k, v)] := by
  unfold putK
  rw [if_neg]
  intro h'
  obtain ⟨p, hp, e⟩ := List.any_eq_true.mp h'
  exact h (List.mem_map.mpr ⟨p, hp, by simpa using e⟩)
theorem putD_nodup {κ : Type} [DecidableEq κ] {ds : List (κ × D)} {k : κ} {v : D} (h : (ds.map (·.1)).Nodup) : ((putD ds k v).map (·.1)).Nodup := by
  by_cases hk : k ∈ ds.map (·.1)
  · rw [putD_some hk, List.map_map]
    have : ((fun x : κ × D => x.1) ∘ fun kv => if kv.1 = k then (kv.1, v) else kv) = fun x => x.1 := by
      funext x
      show (if x.1 = k then (x.1, v) else x).1 = x.1
      split <;> rfl
    rw [this]; exact h
  · rw [putD_none hk, List.map_append]
    refine List.nodup_append.mpr ⟨h, by simp, fun a ha b hb e => ?_⟩
    simp at hb
    subst hb e
    exact hk ha
/-- the place of a key -/
theorem OwG.at {κ : Type} [DecidableEq κ] {s : κ → Sh} {k : κ} {d : D} : ∀ {vs : List (κ × V)} {ds : List (κ × D)} {g : List Addr}, OwG K ad Z H s vs ds g → (ds.map (·.1)).Nodup → valD ds k = some d →
    ∃ v g1 f g2, valV vs k = some v ∧ k ∈ ds.map (·.1) ∧ g = g1 ++ f ++ g2 ∧ Ow K ad Z H (s k) v d f ∧ ∀ Z1 H1 v' d' f', Stand Z H Z1 H1 (g1 ++ g2) → Ow K ad Z1 H1 (s k) v' d' f' → OwG K ad Z1 H1 s (vs.map fun kv => if kv.1 = k then (kv.1, v') else kv) (ds.map fun kv => if kv.1 = k then (kv.1, d') else kv) (g1 ++ f' ++ g2)
  | _, _, _, .nil, _, e => by simp [valD] at e
  | _, _, _, .cons (k := k0) (v := v0) (d := d0) (vs := vs) (ds := ds) (f := f) (g := g) h r, nd, e => by
    rw [valD_cons] at e
    have nd' := List.nodup_cons.mp nd
    by_cases hk : k0 = k
    · subst hk
      rw [if_pos rfl] at e
      cases e
      refine ⟨v0, [], f, g, by rw [valV_cons, if_pos rfl], List.mem_cons_self, rfl, h, fun Z1 H1 v' d' f' st w => ?_⟩
      rw [List.map_cons, List.map_cons, if_pos rfl, if_pos rfl, map_same nd'.1, map_same (by rw [r.keys]; exact nd'.1)]
      exact .cons w (r.stand st)
    · rw [if_neg hk] at e
      obtain ⟨v, g1, f1, g2, e1, e1', e2, w, back⟩ := OwG.at r nd'.2 e
      refine ⟨v, f ++ g1, f1, g2, by rw [valV_cons, if_neg hk]; exact e1, List.mem_cons_of_mem _ e1', by rw [e2]; simp, w, fun Z1 H1 v' d' f' st w' => ?_⟩
      rw [List.map_cons, List.map_cons, if_neg hk, if_neg hk, show f ++ g1 ++ f' ++ g2 = f ++ (g1 ++ f' ++ g2) by simp]
      rw [List.append_assoc] at st
      exact .cons (h.stand st.left) (back Z1 H1 v' d' f' st.right w')
theorem map_valV {κ : Type} [DecidableEq κ] {k : κ} {v : V} : ∀ {vs : List (κ × V)}, (vs.map (·.1)).Nodup → valV vs k = some v → (vs.map fun kv => if kv.1 = k then (kv.1, v) else kv) = vs
  | [], _, _ => rfl
  | (k0, v0) :: vs, nd, e => by
    have nd' := List.nodup_cons.mp nd
    rw [valV_cons] at e
    by_cases hk : k0 = k
    · subst hk
      rw [if_pos rfl] at e
      cases e
      rw [List.map_cons, if_pos rfl, map_same nd'.1]
    · rw [if_neg hk] at e
      rw [List.map_cons, if_neg hk, map_valV nd'.2 e]
theorem OwG.absent {κ : Type} [DecidableEq κ] {s : κ → Sh} {k : κ} : ∀ {vs : List (κ × V)} {ds : List (κ × D)} {g : List Addr}, OwG K ad Z H s vs ds g → k ∉ ds.map (·.1) →
    ∀ Z1 H1 v' d' f', Stand Z H Z1 H1 g → Ow K ad Z1 H1 (s k) v' d' f' → OwG K ad Z1 H1 s (vs ++ [(k, v')]) (ds ++ [(k, d')]) (g ++ f')
  | _, _, _, .nil, _, Z1, H1, v', d', f', st, w => by
    have := OwG.cons (K := K) (ad := ad) (Z := Z1) (H := H1) w .nil
    rwa [List.append_nil] at this
  | _, _, _, .cons h r, hk, Z1, H1, v', d', f', st, w => by
    rw [List.append_assoc]
    exact .cons (h.stand st.left) (OwG.absent r (fun hm => hk (List.mem_cons_of_mem _ hm)) Z1 H1 v' d' f' st.right w)
theorem valD_none {κ : Type} [DecidableEq κ] {ds : List (κ × D)} {k : κ} (h : valD ds k = none) : k ∉ ds.map (·.1) := fun hm => by
  obtain ⟨p, hp, e⟩ := List.mem_map.mp hm
  unfold valD at h
  rw [Option.map_eq_none_iff, List.find?_eq_none] at h
  exact absurd (decide_eq_true e) (h p hp)
/-- a key is set -/
theorem OwG.put {κ : Type} [DecidableEq κ] {s : κ → Sh} {k : κ} {vs : List (κ × V)} {ds : List (κ × D)} {g f' : List Addr} {v' : V} {d' : D} (h : OwG K ad Z H s vs ds g) (nd : (ds.map (·.1)).Nodup) (st : Stand Z H Z1 H1 g) (w : Ow K ad Z1 H1 (s k) v' d' f') :
    ∃ g2, OwG K ad Z1 H1 s (putK vs k v') (putD ds k d') g2 ∧ (∀ a ∈ g2, a ∈ g ∨ a ∈ f') ∧ ((g ++ f').Nodup → g2.Nodup) := by
  cases e : valD ds k with
  | some d =>
    obtain ⟨v, g1, f, g2, e1, e1', e2, w0, back⟩ := h.at nd e
    subst e2
    have st' : Stand Z H Z1 H1 (g1 ++ g2) := ⟨st.le, fun a ha => st.h a (by rcases List.mem_append.mp ha with h | h <;> simp [h]), fun a ha => st.z a (by rcases List.mem_append.mp ha with h | h <;> simp [h])⟩
    refine ⟨g1 ++ f' ++ g2, ?_, fun a ha => ?_, fun n => ?_⟩
    · rw [putD_some e1', putK_some (by rw [h.keys]; exact e1')]
      exact back Z1 H1 v' d' f' st' w
    · simp only [List.mem_append] at ha ⊢
      rcases ha with (h | h) | h <;> simp [h]
    · rw [List.nodup_append] at n ⊢
      obtain ⟨n1, n2, n3⟩ := n
      rw [List.nodup_append] at n1
      obtain ⟨n11, n12, n13⟩ := n1
      rw [List.nodup_append] at n11
      refine ⟨List.nodup_append.mpr ⟨n11.1, n2, fun a ha b hb => n3 a (by simp [ha]) b hb⟩, n12, fun a ha b hb e => ?_⟩
      rcases List.mem_append.mp ha with ha | ha
      · exact n13 a (by simp [ha]) b hb e
      · exact n3 b (by simp [hb]) a ha e.symm
  | none =>
    have hk := valD_none e
    refine ⟨g ++ f', ?_, fun a ha => List.mem_append.mp ha, fun n => n⟩
    rw [putD_none hk, putK_none (by rw [h.keys]; exact hk)]
    exact h.absent hk Z1 H1 v' d' f' st w
/-! fields -/
theorem putF_eq : ∀ (fs : List (Str × V)) (f : Str) (v : V), (fs.map (·.1)).Nodup → putF f v fs = putK fs f v
  | [], _, _, _ => rfl
  | (g, x) :: r, f, v, nd => by
    have nd' := List.nodup_cons.mp nd
    show (if g = f then (g, v) :: r else (g, x) :: putF f v r) = _
    by_cases h : g = f
    · subst h
      rw [if_pos rfl, putK_some (by simp), List.map_cons, if_pos rfl, map_same nd'.1]
    · rw [if_neg h, putF_eq r f v nd'.2]
      by_cases hk : f ∈ r.map (·.1)
      · rw [putK_some hk, putK_some (by simp [hk]), List.map_cons, if_neg h]
      · rw [putK_none hk, putK_none (by simp [hk, Ne.symm h])]; rfl
theorem putFD_eq : ∀ (fs : List (Str × D)) (f : Str) (v : D), (fs.map (·.1)).Nodup → putFD f v fs = putD fs f v
  | [], _, _, _ => rfl
  | (g, x) :: r, f, v, nd => by
    have nd' := List.nodup_cons.mp nd
    show (if g = f then (g, v) :: r else (g, x) :: putFD f v r) = _
    by_cases h : g = f
    · subst h
      rw [if_pos rfl, putD_some (by simp), List.map_cons, if_pos rfl, map_same nd'.1]
    · rw [if_neg h, putFD_eq r f v nd'.2]
      by_cases hk : f ∈ r.map (·.1)
      · rw [putD_some hk, putD_some (by simp [hk]), List.map_cons, if_neg h]
      · rw [putD_none hk, putD_none (by simp [hk, Ne.symm h])]; rfl
theorem lookup_valD (fs : List (Str × D)) (f : Str) : fs.lookup f = valD fs f := by
  induction fs with
  | nil => rfl
  | cons p r ih =>
    obtain ⟨g, x⟩ := p
    rw [valD_cons]
    by_cases h : g = f
    · subst h; simp [List.lookup]
    · have : (f == g) = false := beq_eq_false_iff_ne.mpr (Ne.symm h)
      rw [if_neg h]; simp only [List.lookup, this]; exact ih
theorem lookup_valV (fs : List (Str × V)) (f : Str) : fs.lookup f = valV fs f := by
  induction fs with
  | nil => rfl
  | cons p r ih =>
    obtain ⟨g, x⟩ := p
    rw [valV_cons]
    by_cases h : g = f
    · subst h; simp [List.lookup]
    · have : (f == g) = false := beq_eq_false_iff_ne.mpr (Ne.symm h)
      rw [if_neg h]; simp only [List.lookup, this]; exact ih
/-! lists -/
theorem Ows.at {s : Sh} {d : D} : ∀ {vs : List V} {ds : List D} {g : List Addr} {i : Nat}, Ows K ad Z H s vs ds g → ds[i]? = some d →
    ∃ v g1 f g2, vs[i]? = some v ∧ g = g1 ++ f ++ g2 ∧ Ow K ad Z H s v d f ∧ ∀ Z1 H1 v' d' f', Stand Z H Z1 H1 (g1 ++ g2) → Ow K ad Z1 H1 s v' d' f' → Ows K ad Z1 H1 s (vs.set i v') (ds.set i d') (g1 ++ f' ++ g2)
  | _, _, _, _, .nil, e => by simp at e
  | _, _, _, 0, .cons (v := v0) (f := f) (g := g) h r, e => by
    simp at e; subst e
    exact ⟨v0, [], f, g, rfl, rfl, h, fun Z1 H1 v' d' f' st w => .cons w (r.stand st)⟩
  | _, _, _, i + 1, .cons (f := f) (g := g) h r, e => by
    obtain ⟨v, g1, f1, g2, e1, e2, w, back⟩ := Ows.at (i := i) r (by simpa using e)
    refine ⟨v, f ++ g1, f1, g2, by simpa using e1, by rw [e2]; simp, w, fun Z1 H1 v' d' f' st w' => ?_⟩
    rw [show f ++ g1 ++ f' ++ g2 = f ++ (g1 ++ f' ++ g2) by simp]
    rw [List.append_assoc] at st
    exact .cons (h.stand st.left) (back Z1 H1 v' d' f' st.right w')
theorem Ows.snoc {s : Sh} {v' : V} {d' : D} {f' : List Addr} (w : Ow K ad Z H s v' d' f') : ∀ {vs : List V} {ds : List D} {g : List Addr}, Ows K ad Z H s vs ds g → Ows K ad Z H s (vs ++ [v']) (ds ++ [d']) (g ++ f')
  | _, _, _, .nil => by
    have := Ows.cons w (.nil (K := K) (ad := ad) (Z := Z) (H := H) (s := s))
    rwa [List.append_nil] at this
  | _, _, _, .cons h r => by
    rw [List.append_assoc]
    exact .cons h (Ows.snoc w r)
end

/-! ### a path -/
inductive Sel where | f (x : Str) | k (q : D)
def subSh : Sh → Sel → Sh
  | .i fs, .f x => shOf fs x
  | .d s, .k _ => s
  | .l s, .k _ => s
  | _, _ => .z
def subD (d : D) (s : Sel) : Option D := match s with
  | .f x => match d with
    | .ins _ fs => fs.lookup x
    | _ => none
  | .k q => match d with
    | .lst xs => match q with
      | .int i => atI xs i
      | _ => none
    | .dk kvs => (kOf q).bind fun k => valD kvs k
    | .dt kvs => (ksOf q).bind fun k => valD kvs k
    | _ => none
def putD1 (d : D) (s : Sel) (x : D) : Option D := match s with
  | .f f => match d with
    | .ins C fs => some (.ins C (putFD f x fs))
    | _ => none
  | .k q => match d with
    | .lst xs => match q with
      | .int i => (ixN xs.length i).map fun j => .lst (xs.set j x)
      | _ => none
    | .dk kvs => (kOf q).map fun k => .dk (putD kvs k x)
    | .dt kvs => (ksOf q).map fun k => .dt (putD kvs k x)
    | _ => none
/-- how the part stands in the heap -/
def HSub (K : PySem.W.Frag) (ad : Str → Addr) (H : Hp) (v : V) (s : Sel) (v' : V) : Prop := ∃ a, v = .ref a ∧ match s with
  | .f x => ∃ C dx fs, H a = some (.ins (ad C) dx fs) ∧ fs.lookup x = some v'
  | .k q => (∃ xs i, q = .int i ∧ H a = some (.lst xs) ∧ atI xs i = some v') ∨ (∃ kvs k, H a = some (.dK kvs) ∧ kOf q = some k ∧ valV kvs k = some v') ∨ ∃ kvs k, H a = some (.dT kvs) ∧ ksOf q = some k ∧ valV kvs k = some v'
section
variable {K : PySem.W.Frag} {ad : Str → Addr} {Z H : Hp}
theorem stand_of {Z1 H1 : Hp} {a : Addr} {g1 f g2 : List Addr} (nd : (a :: (g1 ++ f ++ g2)).Nodup) (l : Le Z Z1) (k : ∀ b ∈ a :: (g1 ++ f ++ g2), b ∉ f → H1 b = H b ∧ Z1 b = none) : Stand Z H Z1 H1 (g1 ++ g2) ∧ H1 a = H a ∧ Z1 a = none := by
  rw [List.nodup_cons, List.nodup_append, List.nodup_append] at nd
  obtain ⟨n1, ⟨n2, n3, n4⟩, n5, n6⟩ := nd
  have no : ∀ b ∈ g1 ++ g2, b ∉ f := fun b hb hf => by
    rcases List.mem_append.mp hb with h | h
    · exact n4 b h b hf rfl
    · exact n6 b (by simp [hf]) b h rfl
  have ha : a ∉ f := fun h => n1 (by simp [h])
  refine ⟨⟨l, fun b hb => (k b ?_ (no b hb)).1, fun b hb => (k b ?_ (no b hb)).2⟩, k a List.mem_cons_self ha⟩
  · rcases List.mem_append.mp hb with h | h <;> simp [h]
  · rcases List.mem_append.mp hb with h | h <;> simp [h]
theorem nodup_mid {a : Addr} {g1 f f' g2 : List Addr} (nd : (a :: (g1 ++ f ++ g2)).Nodup) (n' : f'.Nodup) (k : ∀ b ∈ f', b ∈ f ∨ b ∉ a :: (g1 ++ f ++ g2)) : (a :: (g1 ++ f' ++ g2)).Nodup := by
  rw [List.nodup_cons, List.nodup_append, List.nodup_append] at nd
  obtain ⟨n1, ⟨n2, n3, n4⟩, n5, n6⟩ := nd
  have no : ∀ b ∈ f', b ≠ a ∧ b ∉ g1 ∧ b ∉ g2 := fun b hb => by
    rcases k b hb with h | h
    · exact ⟨fun e => n1 (by rw [← e]; simp [h]), fun h1 => n4 b h1 b h rfl, fun h2 => n6 b (by simp [h]) b h2 rfl⟩
    · simp only [List.mem_cons, List.mem_append, not_or] at h
      exact ⟨h.1, h.2.1.1, h.2.2⟩
  rw [List.nodup_cons, List.nodup_append, List.nodup_append]
  refine ⟨fun h => ?_, ⟨n2, n', fun x hx y hy e => (no y hy).2.1 (e ▸ hx)⟩, n5, fun x hx y hy e => ?_⟩
  · simp only [List.mem_append] at h
    rcases h with (h | h) | h
    · exact n1 (by simp [h])
    · exact (no a h).1 rfl
    · exact n1 (by simp [h])
  · rcases List.mem_append.mp hx with h | h
    · exact n6 x (by simp [h]) y hy e
    · exact (no x h).2.2 (e ▸ hy)
/-- one step of a path: the part, and what is put there -/
theorem Ow.focus {sh : Sh} {v : V} {d d' : D} {g : List Addr} {s : Sel} (w : Ow K ad Z H sh v d g) (nd : g.Nodup) (e : subD d s = some d') (hz : sh ≠ .z) : ∃ v' g', HSub K ad H v s v' ∧ Ow K ad Z H (subSh sh s) v' d' g' ∧ (∀ a ∈ g', a ∈ g) ∧ g'.Nodup ∧
    ∀ Z1 H1 d1 g1, Le Z Z1 → (∀ a ∈ g, a ∉ g' → H1 a = H a ∧ Z1 a = none) → Ow K ad Z1 H1 (subSh sh s) v' d1 g1 → g1.Nodup → (∀ a ∈ g1, a ∈ g' ∨ a ∉ g) → ∃ d2 g2, putD1 d s d1 = some d2 ∧ Ow K ad Z1 H1 sh v d2 g2 ∧ g2.Nodup ∧ ∀ a ∈ g2, a ∈ g1 ∨ a ∈ g := by
  have fin : ∀ {a : Addr} {g1 f' f g2 : List Addr}, (∀ b ∈ a :: (g1 ++ f' ++ g2), b ∈ f' ∨ b ∈ a :: (g1 ++ f ++ g2)) := fun {a g1 f' f g2} b hb => by
    simp only [List.mem_cons, List.mem_append] at hb ⊢
    rcases hb with h | (h | h) | h <;> simp [h]
  cases w with
  | z r => exact absurd rfl hz
  | @lst s0 a vs ds g0 z0 hh r =>
    cases s with
    | f x => cases e
    | k q =>
      cases q with
      | int i =>
        obtain ⟨j, e1, e2⟩ := Option.bind_eq_some_iff.mp (show (ixN ds.length i).bind (fun j => ds[j]?) = some d' from e)
        obtain ⟨v', g1, f, g2, e3, eg, w', back⟩ := r.at e2
        subst eg
        refine ⟨v', f, ⟨a, rfl, .inl ⟨vs, i, rfl, hh, ?_⟩⟩, w', fun b hb => by simp [hb], ?_, fun Z1 H1 d1 g1' l k w1 n1 hs => ?_⟩
        · show (ixN vs.length i).bind (fun j => vs[j]?) = some v'
          rw [r.length, e1]; exact e3
        · rw [List.nodup_cons, List.nodup_append, List.nodup_append] at nd
          exact nd.2.1.2.1
        · obtain ⟨st, h1, z1⟩ := stand_of nd l k
          refine ⟨.lst (ds.set j d1), a :: (g1 ++ g1' ++ g2), by show (ixN ds.length i).map _ = _; rw [e1]; rfl, .lst z1 (h1.trans hh) ?_, nodup_mid nd n1 hs, fin⟩
          have := back Z1 H1 v' d1 g1' st w1
          rwa [show vs.set j v' = vs by
            obtain ⟨hj, ej⟩ := List.getElem?_eq_some_iff.mp e3
            rw [← ej]; exact List.set_getElem_self hj] at this
      | _ => cases e
  | @dk s0 a vs ds g0 z0 hh nk r =>
    cases s with
    | f x => cases e
    | k q =>
      obtain ⟨kk, e1, e2⟩ := Option.bind_eq_some_iff.mp (show (kOf q).bind (fun k => valD ds k) = some d' from e)
      obtain ⟨v', g1, f, g2, e3, e3', eg, w', back⟩ := r.toG.at nk e2
      subst eg
      refine ⟨v', f, ⟨a, rfl, .inr (.inl ⟨vs, kk, hh, e1, e3⟩)⟩, w', fun b hb => by simp [hb], ?_, fun Z1 H1 d1 g1' l k w1 n1 hs => ?_⟩
      · rw [List.nodup_cons, List.nodup_append, List.nodup_append] at nd
        exact nd.2.1.2.1
      · obtain ⟨st, h1, z1⟩ := stand_of nd l k
        have b := back Z1 H1 v' d1 g1' st w1
        rw [map_valV (by rw [r.toG.keys]; exact nk) e3, ← putD_some e3'] at b
        exact ⟨.dk (putD ds kk d1), a :: (g1 ++ g1' ++ g2), by show (kOf q).map _ = _; rw [e1]; rfl, .dk z1 (h1.trans hh) (putD_nodup nk) b.toK, nodup_mid nd n1 hs, fin⟩
  | @dt s0 a vs ds g0 z0 hh nk r =>
    cases s with
    | f x => cases e
    | k q =>
      obtain ⟨kk, e1, e2⟩ := Option.bind_eq_some_iff.mp (show (ksOf q).bind (fun k => valD ds k) = some d' from e)
      obtain ⟨v', g1, f, g2, e3, e3', eg, w', back⟩ := r.toG.at nk e2
      subst eg
      refine ⟨v', f, ⟨a, rfl, .inr (.inr ⟨vs, kk, hh, e1, e3⟩)⟩, w', fun b hb => by simp [hb], ?_, fun Z1 H1 d1 g1' l k w1 n1 hs => ?_⟩
      · rw [List.nodup_cons, List.nodup_append, List.nodup_append] at nd
        exact nd.2.1.2.1
      · obtain ⟨st, h1, z1⟩ := stand_of nd l k
        have b := back Z1 H1 v' d1 g1' st w1
        rw [map_valV (by rw [r.toG.keys]; exact nk) e3, ← putD_some e3'] at b
        exact ⟨.dt (putD ds kk d1), a :: (g1 ++ g1' ++ g2), by show (ksOf q).map _ = _; rw [e1]; rfl, .dt z1 (h1.trans hh) (putD_nodup nk) b.toT, nodup_mid nd n1 hs, fin⟩
  | @ins shs a dx C vs ds g0 z0 hh nk r =>
    cases s with
    | k q => cases e
    | f x =>
      have e2 : valD ds x = some d' := by rw [← lookup_valD]; exact e
      obtain ⟨v', g1, f, g2, e3, e3', eg, w', back⟩ := r.toG.at nk e2
      subst eg
      refine ⟨v', f, ⟨a, rfl, C, dx, vs, hh, by rw [lookup_valV]; exact e3⟩, w', fun b hb => by simp [hb], ?_, fun Z1 H1 d1 g1' l k w1 n1 hs => ?_⟩
      · rw [List.nodup_cons, List.nodup_append, List.nodup_append] at nd
        exact nd.2.1.2.1
      · obtain ⟨st, h1, z1⟩ := stand_of nd l k
        have b := back Z1 H1 v' d1 g1' st w1
        rw [map_valV (by rw [r.toG.keys]; exact nk) e3, ← putD_some e3', ← putFD_eq ds x d1 nk] at b
        exact ⟨.ins C (putFD x d1 ds), a :: (g1 ++ g1' ++ g2), rfl, .ins z1 (h1.trans hh) (by rw [putFD_eq ds x d1 nk]; exact putD_nodup nk) b.toF, nodup_mid nd n1 hs, fin⟩
end
end Rf
end

section
set_option Elab.async false
set_option linter.all false
set_option maxRecDepth 100000
set_option maxHeartbeats 1000000
/-! What is walked. -/
namespace Rf
open PySem PySem.Spec PyProof.Rows L2
/-- J walks the items -/
def JW (K : PySem.W.Frag) (ad : Str → Addr) (J : It) (Z : Hp) (items : List D) : Prop := ∀ (i : Nat) (Z1 H1 : Hp), Le Z Z1 → ZOk Z1 H1 →
  (∀ d, items[i]? = some d → J.go i H1 ∧ ∀ x H2, J.yld i H1 x H2 → ∃ Z2, Nw Z1 H1 Z2 H2 ∧ Rp K ad Z2 x d) ∧ (i = items.length → J.stop i H1)
/-- the state a reading starts from -/
def iS (K : PySem.W.Frag) (p : Par) (is : ISrc) : TI := fun σ H R => ∃ Z ρ ω fp items ω', Sta K p.ad p.tbs p.os σ Z H ρ ω fp ∧ esrc p.O is ρ ω = some (items, ω') ∧
  ∀ J Z' H' fp', Step K p.ad p.os is.quiet σ Z H ω fp Z' H' ω' fp' → JW K p.ad J Z' items → R J H'
def SI (X : Cx) (p : Par) (tg e : Expr) (is : ISrc) : Prop := PI X tg e (iS X.K p is)
/-- readings by the evaluator -/
def tE (K : PySem.W.Frag) (p : Par) (ie : IE) (sh : Sh) : TE := fun σ H Q => ∃ Z ρ ω fp d ω', Sta K p.ad p.tbs p.os σ Z H ρ ω fp ∧ ev p.O ie ρ ω = some (d, ω') ∧
  ∀ v Z' H' fp' g, Step K p.ad p.os ie.quiet σ Z H ω fp Z' H' ω' fp' → Ow K p.ad Z' H' sh v d g → NewG H fp' g → Q v H'
theorem FE.tE {X : Cx} {p : Par} {e : Expr} {ie : IE} {sh : Sh} (h : FE X p e ie sh) : PE X e (tE X.K p ie sh) := ⟨fun pins s σ H Q I ⟨Z, ρ, ω, fp, d, ω', S, he, hQ⟩ => h σ Z H ρ ω fp d ω' S he Q hQ pins s I⟩
section
variable {X : Cx} {p : Par} {tg e e2 : Expr} {ie ie2 : IE} {pos p0 : Pos}
theorem sqL_inj {K : PySem.W.Frag} {H : Hp} {pins : List (Addr × Obj)} {σ : L2.St} {s : Shared} : True := trivial
theorem jw_list {K : PySem.W.Frag} {ad : Str → Addr} {Z : Hp} {a : Addr} {vs : List V} {ds : List D} (h : Rd Z a (.lst vs)) (r : Rps K ad Z vs ds) : JW K ad (Itl K a) Z ds := fun i Z1 H1 l z => by
  have hq : SqL K H1 a vs := .inl (rd_le (l.trans z.le) h)
  refine ⟨fun d e => ?_, fun e => ⟨vs, hq, by rw [r.length]; exact Nat.le_of_eq e.symm⟩⟩
  obtain ⟨v, e1, rv⟩ := r.get e
  refine ⟨⟨vs, v, hq, e1⟩, fun x H2 ⟨eH, hy⟩ => ?_⟩
  subst eH
  have := hy vs hq
  rw [e1] at this; cases this
  exact ⟨Z1, Nx.refl z, rv.le l⟩
theorem jw_tup {K : PySem.W.Frag} {ad : Str → Addr} {Z : Hp} {a : Addr} {vs : List V} {ds : List D} (h : Z a = some (.tup vs)) (r : Rps K ad Z vs ds) : JW K ad (Itt K a) Z ds := fun i Z1 H1 l z => by
  have hq : SqT K H1 a vs := .of (z.le _ _ (l _ _ h))
  refine ⟨fun d e => ?_, fun e => ⟨vs, hq, by rw [r.length]; exact Nat.le_of_eq e.symm⟩⟩
  obtain ⟨v, e1, rv⟩ := r.get e
  refine ⟨⟨vs, v, hq, e1⟩, fun x H2 ⟨eH, hy⟩ => ?_⟩
  subst eH
  have := hy vs hq
  rw [e1] at this; cases this
  exact ⟨Z1, Nx.refl z, rv.le l⟩
theorem jw_str {K : PySem.W.Frag} {ad : Str → Addr} {Z : Hp} {x : Str} : JW K ad (Its x) Z (x.cps.toList.map fun c => .str ⟨#[c]⟩) := fun i Z1 H1 l z => by
  refine ⟨fun d e => ?_, fun e => ?_⟩
  · rw [List.getElem?_map] at e
    obtain ⟨c, e1, rfl⟩ := Option.map_eq_some_iff.mp e
    have e2 : x.cps[i]? = some c := by rw [Array.getElem?_toList] at e1; exact e1
    have hi : i < x.cps.size := (Array.getElem?_eq_some_iff.mp e2).1
    refine ⟨hi, fun y H2 ⟨eH, c', e3, ey⟩ => ?_⟩
    subst eH ey
    rw [e2] at e3; cases e3
    exact ⟨Z1, Nx.refl z, .str _⟩
  · rw [List.length_map, Array.length_toList] at e
    exact Nat.le_of_eq e.symm
theorem jw_rng {K : PySem.W.Frag} {ad : Str → Addr} {Z : Hp} {lo : Int} {n : Nat} : JW K ad (Itr lo n) Z ((List.range n).map fun (k : Nat) => .int (lo + k)) := fun i Z1 H1 l z => by
  refine ⟨fun d e => ?_, fun e => ?_⟩
  · rw [List.getElem?_map] at e
    obtain ⟨c, e1, rfl⟩ := Option.map_eq_some_iff.mp e
    obtain ⟨hi, e2⟩ := List.getElem?_eq_some_iff.mp e1
    rw [List.length_range] at hi
    rw [List.getElem_range] at e2
    subst e2
    refine ⟨hi, fun y H2 ⟨eH, ey⟩ => ?_⟩
    subst eH ey
    exact ⟨Z1, Nx.refl z, .int _⟩
  · rw [List.length_map, List.length_range] at e
    exact Nat.le_of_eq e.symm
theorem rp_two {K : PySem.W.Frag} {ad : Str → Addr} {Z H : Hp} {x y : V} {d e : D} {T : Addr} (z : ZOk Z H) (hT : H T = none) (hx : Rp K ad Z x d) (hy : Rp K ad Z y e) : ∃ Z2, Nw Z H Z2 (upd H T (.tup [x, y])) ∧ Rp K ad Z2 (.ref T) (.tup [d, e]) :=
  let ⟨n, r⟩ := new_tup z hT (.cons hx (.cons hy .nil))
  ⟨_, n, r⟩
theorem zipP_get {xs ys : List D} {i : Nat} {d : D} (e : (zipP xs ys)[i]? = some d) : ∃ x y, xs[i]? = some x ∧ ys[i]? = some y ∧ d = .tup [x, y] := by
  unfold zipP at e
  rw [List.getElem?_map] at e
  obtain ⟨c, e1, rfl⟩ := Option.map_eq_some_iff.mp e
  obtain ⟨h1, h2⟩ := List.getElem?_zip_eq_some.mp e1
  exact ⟨_, _, h1, h2, rfl⟩
theorem jw_zipL {K : PySem.W.Frag} {ad : Str → Addr} {Z : Hp} {a b : Addr} {vs ws : List V} {ds es : List D} (h : Rd Z a (.lst vs)) (r : Rps K ad Z vs ds) (h' : Rd Z b (.lst ws)) (r' : Rps K ad Z ws es) : JW K ad (Itz K a b) Z (zipP ds es) := fun i Z1 H1 l z => by
  have hq : SqL K H1 a vs := .inl (rd_le (l.trans z.le) h)
  have hq' : SqL K H1 b ws := .inl (rd_le (l.trans z.le) h')
  refine ⟨fun d e => ?_, fun e => ⟨vs, ws, hq, hq', ?_⟩⟩
  · obtain ⟨x, y, e1, e2, rfl⟩ := zipP_get e
    obtain ⟨v, e3, rv⟩ := r.get e1
    obtain ⟨w, e4, rw'⟩ := r'.get e2
    refine ⟨⟨vs, ws, v, w, hq, hq', e3, e4⟩, fun q H2 ⟨T, x', y', eq, hT, eH, hx, hy⟩ => ?_⟩
    subst eq eH
    have h1 := hx vs hq
    have h2 := hy ws hq'
    rw [e3] at h1; rw [e4] at h2
    cases h1; cases h2
    exact rp_two z hT (rv.le l) (rw'.le l)
  · rw [r.length, r'.length]
    have : (zipP ds es).length = min ds.length es.length := by unfold zipP; rw [List.length_map, List.length_zip]
    omega
theorem jw_zipT {K : PySem.W.Frag} {ad : Str → Addr} {Z : Hp} {a b : Addr} {vs ws : List V} {ds es : List D} (h : Z a = some (.tup vs)) (r : Rps K ad Z vs ds) (h' : Z b = some (.tup ws)) (r' : Rps K ad Z ws es) : JW K ad (RZ.ItzT K a b) Z (zipP ds es) := fun i Z1 H1 l z => by
  have hq : SqT K H1 a vs := .of (z.le _ _ (l _ _ h))
  have hq' : SqT K H1 b ws := .of (z.le _ _ (l _ _ h'))
  refine ⟨fun d e => ?_, fun e => ⟨vs, ws, hq, hq', ?_⟩⟩
  · obtain ⟨x, y, e1, e2, rfl⟩ := zipP_get e
    obtain ⟨v, e3, rv⟩ := r.get e1
    obtain ⟨w, e4, rw'⟩ := r'.get e2
    refine ⟨⟨vs, ws, v, w, hq, hq', e3, e4⟩, fun q H2 ⟨T, x', y', eq, hT, eH, hx, hy⟩ => ?_⟩
    subst eq eH
    have h1 := hx vs hq
    have h2 := hy ws hq'
    rw [e3] at h1; rw [e4] at h2
    cases h1; cases h2
    exact rp_two z hT (rv.le l) (rw'.le l)
  · rw [r.length, r'.length]
    have : (zipP ds es).length = min ds.length es.length := by unfold zipP; rw [List.length_map, List.length_zip]
    omega
theorem jw_enum {K : PySem.W.Frag} {ad : Str → Addr} {Z : Hp} {a : Addr} {vs : List V} {ds : List D} (h : Rd Z a (.lst vs)) (r : Rps K ad Z vs ds) : JW K ad (Ite K a) Z (enumP ds) := fun i Z1 H1 l z => by
  have hq : SqL K H1 a vs := .inl (rd_le (l.trans z.le) h)
  refine ⟨fun d e => ?_, fun e => ⟨vs, hq, ?_⟩⟩
  · unfold enumP at e
    rw [List.getElem?_map] at e
    obtain ⟨c, e1, rfl⟩ := Option.map_eq_some_iff.mp e
    rw [List.getElem?_zipIdx] at e1
    obtain ⟨x, e2, rfl⟩ := Option.map_eq_some_iff.mp e1
    obtain ⟨v, e3, rv⟩ := r.get e2
    refine ⟨⟨vs, v, hq, e3⟩, fun q H2 ⟨T, x', eq, hT, eH, hx⟩ => ?_⟩
    subst eq eH
    have h1 := hx vs hq
    rw [e3] at h1; cases h1
    rw [Nat.zero_add]
    exact rp_two z hT (.int _) (rv.le l)
  · rw [r.length]
    have : (enumP ds).length = ds.length := by unfold enumP; rw [List.length_map, List.length_zipIdx]
    omega
theorem jw_enumT {K : PySem.W.Frag} {ad : Str → Addr} {Z : Hp} {a : Addr} {vs : List V} {ds : List D} (h : Z a = some (.tup vs)) (r : Rps K ad Z vs ds) : JW K ad (IteT K a) Z (enumP ds) := fun i Z1 H1 l z => by
  have hq : SqT K H1 a vs := .of (z.le _ _ (l _ _ h))
  refine ⟨fun d e => ?_, fun e => ⟨vs, hq, ?_⟩⟩
  · unfold enumP at e
    rw [List.getElem?_map] at e
    obtain ⟨c, e1, rfl⟩ := Option.map_eq_some_iff.mp e
    rw [List.getElem?_zipIdx] at e1
    obtain ⟨x, e2, rfl⟩ := Option.map_eq_some_iff.mp e1
    obtain ⟨v, e3, rv⟩ := r.get e2
    refine ⟨⟨vs, v, hq, e3⟩, fun q H2 ⟨T, x', eq, hT, eH, hx⟩ => ?_⟩
    subst eq eH
    have h1 := hx vs hq
    rw [e3] at h1; cases h1
    rw [Nat.zero_add]
    exact rp_two z hT (.int _) (rv.le l)
  · rw [r.length]
    have : (enumP ds).length = ds.length := by unfold enumP; rw [List.length_map, List.length_zipIdx]
    omega
theorem si_val (h : SE X p e ie) : SI X p tg e (.val ie) := ⟨fun pins s σ H R I ⟨Z, ρ, ω, fp, items, ω', S, he, hR⟩ => by
  obtain ⟨d, ω1, e1, he1⟩ := of_bnd he
  obtain ⟨e2, rfl⟩ := of_opt he1
  cases d with
  | lst xs =>
    cases e2
    refine (pi_list (tg := tg) (pe_R e)).run pins s σ H R I (h σ Z H ρ ω fp _ _ S e1 _ fun v Z1 H1 fp1 T r => ?_)
    cases r with
    | lst hz hr => exact ⟨_, rfl, ⟨_, .inl (rd_le T.nx.zh.le hz)⟩, hR _ Z1 H1 fp1 T (jw_list hz hr)⟩
  | tup xs =>
    cases e2
    refine (pi_tup (tg := tg) (pe_R e)).run pins s σ H R I (h σ Z H ρ ω fp _ _ S e1 _ fun v Z1 H1 fp1 T r => ?_)
    cases r with
    | tup hz hr => exact ⟨_, rfl, ⟨_, .of (T.nx.zh.le _ _ hz)⟩, hR _ Z1 H1 fp1 T (jw_tup hz hr)⟩
  | str x =>
    have e3 : (if x.length ≤ sizeLine then some (x.cps.toList.map fun c => D.str ⟨#[c]⟩) else none) = some items := e2
    split at e3
    · cases e3
      refine (pi_str (tg := tg) (pe_R e)).run pins s σ H R I (h σ Z H ρ ω fp _ _ S e1 _ fun v Z1 H1 fp1 T r => ?_)
      cases r
      exact ⟨x, rfl, hR _ Z1 H1 fp1 T jw_str⟩
    · cases e3
  | _ => cases e2⟩
theorem rng_some {lo hi : Int} {items : List D} (h : rngD lo hi = some items) : -(2 ^ 62) ≤ lo ∧ lo < 2 ^ 62 ∧ -(2 ^ 62) ≤ hi ∧ hi < 2 ^ 62 ∧ items = (List.range (hi - lo).toNat).map fun (k : Nat) => .int (lo + k) := by
  unfold rngD at h
  split at h
  · rename_i c
    cases h
    exact ⟨c.1, c.2.1, c.2.2.1, c.2.2.2.1, rfl⟩
  · cases h
theorem si_rng1 (hg : Gl X "range") (hm : X.mg "range" = none) (hn : notStar e = true) (h : SE X p e ie) : SI X p tg (.Call (.Name "range" p0) [e] [] pos) (.rng1 ie) := ⟨fun pins s σ H R I ⟨Z, ρ, ω, fp, items, ω', S, he, hR⟩ => by
  obtain ⟨d, ω1, e1, he1⟩ := of_bnd he
  cases d with
  | int n =>
    obtain ⟨e2, rfl⟩ := of_opt (show opt (rngD 0 n) ω1 = some (items, ω') from he1)
    obtain ⟨_, _, c3, c4, rfl⟩ := rng_some e2
    refine (pi_range1 (tg := tg) hg hm (pa_cons (pe_R e) pa_nil (starEach_cons hn)) (by rw [starEach_cons hn]; rfl)).run pins s σ H R I (h σ Z H ρ ω fp _ _ S e1 _ fun v Z1 H1 fp1 T r => ?_)
    cases r
    refine ⟨n, rfl, c3, c4, hR _ Z1 H1 fp1 T ?_⟩
    rw [Int.sub_zero]
    exact jw_rng
  | _ => cases he1⟩
theorem si_rng2 (hg : Gl X "range") (hm : X.mg "range" = none) (hn : notStar e = true) (hn2 : notStar e2 = true) (h : SE X p e ie) (h2 : SE X p e2 ie2) : SI X p tg (.Call (.Name "range" p0) [e, e2] [] pos) (.rng2 ie ie2) := ⟨fun pins s σ H R I ⟨Z, ρ, ω, fp, items, ω', S, he, hR⟩ => by
  obtain ⟨d, ω1, e1, he1⟩ := of_bnd he
  obtain ⟨d2, ω2, e3, he2⟩ := of_bnd he1
  have hst : starEach [e, e2] X.env = [(false, eval e X.env), (false, eval e2 X.env)] := by rw [starEach_cons hn, starEach_cons hn2]; rfl
  cases d with
  | int m =>
    cases d2 with
    | int n =>
      obtain ⟨e2', rfl⟩ := of_opt (show opt (rngD m n) ω2 = some (items, ω') from he2)
      obtain ⟨c1, c2, c3, c4, rfl⟩ := rng_some e2'
      refine (pi_range2 (tg := tg) hg hm (pa_cons (pe_R e) (pa_cons (pe_R e2) pa_nil (starEach_cons hn2)) (starEach_cons hn)) hst (by rw [starEach_cons hn2]; rfl)).run pins s σ H R I ?_
      refine h σ Z H ρ ω fp _ _ S e1 _ fun v Z1 H1 fp1 T r => ?_
      refine h2 σ Z1 H1 ρ ω1 fp1 _ _ (T.sta S) e3 _ fun v2 Z2 H2 fp2 T2 r2 => ?_
      cases r; cases r2
      exact ⟨m, n, rfl, ⟨c1, c2, c3, c4⟩, hR _ Z2 H2 fp2 (T.trans T2) jw_rng⟩
    | _ => cases he2
  | _ => cases he2⟩
theorem si_zip {elts : List Expr} {kk : Nat} {tpos : Pos} (hg : Gl X "zip") (hm : X.mg "zip" = none) (hn : notStar e = true) (hn2 : notStar e2 = true) (h : SE X p e ie) (h2 : SE X p e2 ie2) : SI X p (.Tuple elts kk tpos) (.Call (.Name "zip" p0) [e, e2] [] pos) (.zip2 ie ie2) := ⟨fun pins s σ H R I ⟨Z, ρ, ω, fp, items, ω', S, he, hR⟩ => by
  obtain ⟨d, ω1, e1, he1⟩ := of_bnd he
  obtain ⟨d2, ω2, e3, he2⟩ := of_bnd he1
  obtain ⟨e4, rfl⟩ := of_opt he2
  refine (RZ.pi_zipA hg hm (pa_cons (pe_R e) (pa_cons (pe_R e2) pa_nil (starEach_cons hn2)) (starEach_cons hn)) (starEach_cons hn) (star_none (es := [e2]) (by simp [hn2]))).run pins s σ H R I ?_
  refine h σ Z H ρ ω fp _ _ S e1 _ fun v Z1 H1 fp1 T r => ?_
  refine h2 σ Z1 H1 ρ ω1 fp1 _ _ (T.sta S) e3 _ fun v2 Z2 H2 fp2 T2 r2 => ?_
  cases d with
  | lst xs =>
    cases d2 with
    | lst ys =>
      cases e4
      cases r with
      | lst hz hr =>
        cases r2 with
        | lst hz2 hr2 => exact ⟨_, _, _, _, rfl, .inl ⟨.inl (rd_le T2.nx.zh.le (rd_le T2.nx.zz hz)), .inl (rd_le T2.nx.zh.le hz2), hR _ Z2 H2 fp2 (T.trans T2) (jw_zipL (rd_le T2.nx.zz hz) (hr.le T2.nx.zz) hz2 hr2)⟩⟩
    | _ => cases e4
  | tup xs =>
    cases d2 with
    | tup ys =>
      cases e4
      cases r with
      | tup hz hr =>
        cases r2 with
        | tup hz2 hr2 => exact ⟨_, _, _, _, rfl, .inr ⟨.of (T2.nx.zh.le _ _ (T2.nx.zz _ _ hz)), .of (T2.nx.zh.le _ _ hz2), hR _ Z2 H2 fp2 (T.trans T2) (jw_zipT (T2.nx.zz _ _ hz) (hr.le T2.nx.zz) hz2 hr2)⟩⟩
    | _ => cases e4
  | _ => cases e4⟩
theorem si_enum {elts : List Expr} {kk : Nat} {tpos : Pos} (hg : Gl X "enumerate") (hm : X.mg "enumerate" = none) (hn : notStar e = true) (h : SE X p e ie) : SI X p (.Tuple elts kk tpos) (.Call (.Name "enumerate" p0) [e] [] pos) (.enum ie) := ⟨fun pins s σ H R I ⟨Z, ρ, ω, fp, items, ω', S, he, hR⟩ => by
  obtain ⟨d, ω1, e1, he1⟩ := of_bnd he
  obtain ⟨e4, rfl⟩ := of_opt he1
  cases d with
  | lst xs =>
    cases e4
    refine (pi_enumA hg hm (pa_cons (pe_R e) pa_nil (starEach_cons hn)) (by rw [starEach_cons hn]; rfl)).run pins s σ H R I (h σ Z H ρ ω fp _ _ S e1 _ fun v Z1 H1 fp1 T r => ?_)
    cases r with
    | lst hz hr => exact ⟨_, _, rfl, .inl ⟨.inl (rd_le T.nx.zh.le hz), hR _ Z1 H1 fp1 T (jw_enum hz hr)⟩⟩
  | tup xs =>
    cases e4
    refine (pi_enumA hg hm (pa_cons (pe_R e) pa_nil (starEach_cons hn)) (by rw [starEach_cons hn]; rfl)).run pins s σ H R I (h σ Z H ρ ω fp _ _ S e1 _ fun v Z1 H1 fp1 T r => ?_)
    cases r with
    | tup hz hr => exact ⟨_, _, rfl, .inr ⟨.of (T.nx.zh.le _ _ hz), hR _ Z1 H1 fp1 T (jw_enumT hz hr)⟩⟩
  | _ => cases e4⟩
end
end Rf
end

section
set_option Elab.async false
set_option linter.all false
set_option maxRecDepth 100000
set_option maxHeartbeats 1000000
/-! List comprehensions. -/
namespace Rf
open PySem PySem.Spec PyProof.Rows L2
/-! ### targets -/
def gSets : List Nat → TGs
  | [] => gNil
  | i :: is => gCons (gName i) (gSets is)
def gT (K : PySem.W.Frag) : ITg → TG
  | .one i => gName i
  | .many is => gTup K is.length (gSets is)
theorem wipe_set {i : Nat} {o : Option V} : ∀ {vs : List Nat} {σ : L2.St}, wipe (σ.set i o) vs = if i ∈ vs then wipe σ vs else (wipe σ vs).set i o
  | [], σ => by simp [wipe]
  | v :: vs, σ => by
    show (wipe (σ.set i o) vs).set v none = _
    rw [wipe_set]
    by_cases h1 : i ∈ vs
    · rw [if_pos h1, if_pos (List.mem_cons_of_mem _ h1)]; rfl
    · rw [if_neg h1]
      by_cases h2 : i = v
      · subst h2
        rw [if_pos List.mem_cons_self, List.set_set]; rfl
      · rw [if_neg fun h => (List.mem_cons.mp h).elim h2 h1]
        show _ = ((wipe σ vs).set v none).set i o
        rw [List.set_comm _ _ h2]
theorem sets_run {K : PySem.W.Frag} {ad : Str → Addr} {Z H : Hp} : ∀ (is : List Nat) (vs : List V) (ds : List D) (σ : L2.St) (ρ : Env), Rps K ad Z vs ds → ds.length = is.length → Fz K ad Z σ ρ →
    ∃ σ', (∀ Q : L2.St → Hp → Prop, Q σ' H → gSets is vs σ H Q) ∧ Fz K ad Z σ' ((is.zip ds).foldl (fun ρ p => ρ.set p.1 (some p.2)) ρ) ∧ (∀ i, i ∉ is → σ'[i]? = σ[i]?) ∧ σ'.length = σ.length ∧ ∀ ws : List Nat, (∀ i ∈ is, i ∈ ws) → wipe σ' ws = wipe σ ws
  | [], _, _, σ, ρ, r, hl, F => by
    cases r with
    | nil => exact ⟨σ, fun Q q => ⟨rfl, q⟩, F, fun _ _ => rfl, rfl, fun _ _ => rfl⟩
    | cons => cases hl
  | i :: is, _, _, σ, ρ, r, hl, F => by
    cases r with
    | nil => cases hl
    | @cons v d vs ds h r =>
      obtain ⟨σ', a1, a2, a3, a4, a5⟩ := sets_run is vs ds (σ.set i (some v)) (ρ.set i (some d)) r (by simpa using hl) (F.set i h)
      refine ⟨σ', fun Q q => ⟨v, vs, rfl, a1 Q q⟩, a2, fun j hj => ?_, by rw [a4, List.length_set], fun ws hw => ?_⟩
      · rw [a3 j fun h => hj (List.mem_cons_of_mem _ h), List.getElem?_set_ne fun e => hj (by rw [← e]; exact List.mem_cons_self)]
      · rw [a5 ws fun j hj => hw j (List.mem_cons_of_mem _ hj), wipe_set, if_pos (hw i List.mem_cons_self)]
theorem gT_run {K : PySem.W.Frag} {ad : Str → Addr} {Z H : Hp} {t : ITg} {v : V} {d : D} {σ : L2.St} {ρ ρ' : Env} (z : ZOk Z H) (r : Rp K ad Z v d) (e : bindT t d ρ = some ρ') (F : Fz K ad Z σ ρ) :
    ∃ σ', (∀ Q : L2.St → Hp → Prop, Q σ' H → gT K t v σ H Q) ∧ Fz K ad Z σ' ρ' ∧ (∀ i, i ∉ slotsT t → σ'[i]? = σ[i]?) ∧ σ'.length = σ.length ∧ ∀ ws : List Nat, (∀ i ∈ slotsT t, i ∈ ws) → wipe σ' ws = wipe σ ws := by
  cases t with
  | one i =>
    cases e
    refine ⟨σ.set i (some v), fun Q q => q, F.set i r, fun j hj => ?_, by rw [List.length_set], fun ws hw => ?_⟩
    · exact List.getElem?_set_ne fun e => hj (by rw [← e]; exact List.mem_cons_self)
    · rw [wipe_set, if_pos (hw i List.mem_cons_self)]
  | many is =>
    cases d with
    | tup ds =>
      have e' : (if ds.length = is.length then some ((is.zip ds).foldl (fun ρ p => ρ.set p.1 (some p.2)) ρ) else none) = some ρ' := e
      split at e'
      · rename_i hl
        cases e'
        cases r with
        | tup hz hr =>
          obtain ⟨σ', a1, a2, a3, a4, a5⟩ := sets_run (H := H) is _ ds σ ρ hr hl F
          exact ⟨σ', fun Q q => ⟨_, _, rfl, .of (z.le _ _ hz), by rw [hr.length]; exact hl, a1 Q q⟩, a2, a3, a4, a5⟩
      · cases e'
    | _ => cases e
/-! ### steps, more -/
section
variable {K : PySem.W.Frag} {ad : Str → Addr} {tbs : List Addr} {os : Osl} {σ σ' : L2.St} {Z H Z1 H1 : Hp} {ρ : Env} {ω ω1 : Om} {fp fp1 : Fp} {q q' : Bool}
theorem Step.slots (T : Step K ad os q σ Z H ω fp Z1 H1 ω1 fp1) (h : ∀ x ∈ os, σ'[x.1]? = σ[x.1]?) : Step K ad os q σ' Z H ω fp Z1 H1 ω1 fp1 := ⟨T.nx, T.os.slots h, T.nd, T.sb, T.qu⟩
theorem Step.to (T : Step K ad os q σ Z H ω fp Z1 H1 ω1 fp1) (h : q' = true → q = true) : Step K ad os q' σ Z H ω fp Z1 H1 ω1 fp1 := by
  cases q' with
  | true => rw [h rfl] at T; exact T
  | false => exact T.loud
theorem Sta.env (S : Sta K ad tbs os σ Z H ρ ω fp) {ρ' : Env} (F : Fz K ad Z σ' ρ') (h : ∀ x ∈ os, σ'[x.1]? = σ[x.1]?) : Sta K ad tbs os σ' Z H ρ' ω fp := ⟨S.zok, F, S.os.slots h, S.nd, S.tb⟩
/-- an object that is of no one changes -/
theorem Step.updD (T : Step K ad os q σ Z H ω fp Z1 H1 ω1 fp1) {a : Addr} {o o' : HO} (hn : H a = none) (hz : Z1 a = none) (hf : ¬ inF fp1 a) (ho : H1 a = some o) (ht : notTbl o = true) : Step K ad os q σ Z H ω fp Z1 (upd H1 a o') ω1 fp1 where
  nx := ⟨T.nx.zz, fun b u e => by
      obtain ⟨h1, h2⟩ := T.nx.zh b u e
      exact ⟨by rw [upd_ne fun h => by rw [h, hz] at e; cases e]; exact h1, h2⟩, T.nx.zn, fun b u e => by
      obtain ⟨u', e'⟩ := T.nx.dm b u e
      exact ⟨u', by rw [upd_ne fun h => by rw [h, hn] at e; cases e]; exact e'⟩, fun b u e m t => by
      rw [upd_ne fun h => by rw [h, hn] at e; cases e]
      exact T.nx.hh b u e m t, fun b ps e t => by
      obtain ⟨ps', e', t'⟩ := T.nx.ht b ps e t
      exact ⟨ps', by rw [upd_ne fun h => by rw [h, hn] at e; cases e]; exact e', t'⟩⟩
  os := T.os.stand fun j => ⟨Le.refl _, fun b hb => upd_ne fun h => hf ⟨j, h ▸ hb⟩, fun b hb => (T.os.dom j b hb).1⟩
  nd := T.nd
  sb := T.sb
  qu := T.qu
end
/-! ### the tests of a clause -/
def tCs (K : PySem.W.Frag) (p : Par) (cs : IEs) : TT := fun σ H Q => ∃ Z ρ ω fp b ω', Sta K p.ad p.tbs p.os σ Z H ρ ω fp ∧ evc p.O cs ρ ω = some (b, ω') ∧ ∀ Z' H' fp', Step K p.ad p.os cs.quiet σ Z H ω fp Z' H' ω' fp' → Q b H'
theorem pts_no {X : Cx} {p : Par} : PTs X [] (tCs X.K p .nil) := ⟨fun pins s σ H Q I ⟨Z, ρ, ω, fp, b, ω', S, he, hQ⟩ => by
  cases he
  exact pts_nil.run pins s σ H Q I (hQ _ _ _ S.refl)⟩
theorem pts_yes {X : Cx} {p : Par} {c : Expr} {ic : IE} (h : ST X p c ic) : PTs X [c] (tCs X.K p (.cons ic .nil)) := ⟨fun pins s σ H Q I ⟨Z, ρ, ω, fp, b, ω', S, he, hQ⟩ => by
  obtain ⟨d, ω1, e1, he1⟩ := of_bnd he
  refine (pts_one (pt_R c)).run pins s σ H Q I ?_
  cases d with
  | bl k =>
    have eb : b = k ∧ ω' = ω1 := by
      cases k with
      | true => cases he1; exact ⟨rfl, rfl⟩
      | false => cases he1; exact ⟨rfl, rfl⟩
    obtain ⟨rfl, rfl⟩ := eb
    refine h σ Z H ρ ω fp b _ S e1 _ fun Z1 H1 fp1 T => hQ Z1 H1 fp1 ?_
    show Step X.K p.ad p.os (ic.quiet && true) σ Z H ω fp Z1 H1 ω' fp1
    rw [Bool.and_true]; exact T
  | _ => cases he1⟩
/-! ### the loop of a comprehension -/
inductive CK where | lst | dk
/-- what the new container at L holds -/
def Con (K : PySem.W.Frag) (ad : Str → Addr) (sh : Sh) (L : Addr) : CK → List D → Hp → Hp → List Addr → Prop
  | .lst, ds, Z, H, g => ∃ acc, H L = some (.lst acc) ∧ Ows K ad Z H sh acc ds g
  | .dk, ds, Z, H, g => ∃ kvs dds, H L = some (.dK kvs) ∧ dmake false ds = some (.dk dds) ∧ (dds.map (·.1)).Nodup ∧ OwK K ad Z H sh kvs dds g
theorem Con.dom {K : PySem.W.Frag} {ad : Str → Addr} {sh : Sh} {L : Addr} {Z H : Hp} {g : List Addr} : ∀ {c : CK} {ds : List D}, Con K ad sh L c ds Z H g → Z L = none → ∀ a ∈ L :: g, Z a = none ∧ ∃ o, H a = some o ∧ notTbl o = true
  | .lst, ds, ⟨acc, e, w⟩, z, a, ha => (List.mem_cons.mp ha).elim (fun h => h ▸ ⟨z, _, e, rfl⟩) (w.dom a)
  | .dk, ds, ⟨kvs, dds, e, _, _, w⟩, z, a, ha => (List.mem_cons.mp ha).elim (fun h => h ▸ ⟨z, _, e, rfl⟩) (w.dom a)
theorem Con.stand {K : PySem.W.Frag} {ad : Str → Addr} {sh : Sh} {L : Addr} {Z H Z1 H1 : Hp} {g : List Addr} : ∀ {c : CK} {ds : List D}, Con K ad sh L c ds Z H g → Stand Z H Z1 H1 (L :: g) → Con K ad sh L c ds Z1 H1 g
  | .lst, ds, ⟨acc, e, w⟩, s => ⟨acc, (s.h L List.mem_cons_self).trans e, w.stand s.tail⟩
  | .dk, ds, ⟨kvs, dds, e, m, n, w⟩, s => ⟨kvs, dds, (s.h L List.mem_cons_self).trans e, m, n, w.stand s.tail⟩
/-- the state at a turn: L the new container, ds what was put in; Zs: what was frozen when the walk began -/
structure LcAt (K : PySem.W.Frag) (p : Par) (sh : Sh) (c : CK) (q : Bool) (σ : L2.St) (Z H : Hp) (ω : Om) (fp : Fp) (Zs : Hp) (L : Addr) (ds : List D) (ω1 : Om) (H1 : Hp) : Prop where
  ex : ∃ Z1 fp1 g, Step K p.ad p.os q σ Z H ω fp Z1 H1 ω1 fp1 ∧ Con K p.ad sh L c ds Z1 H1 g ∧ NewG H fp1 (L :: g) ∧ Z1 L = none ∧ Le Zs Z1
section
variable {K : PySem.W.Frag} {p : Par} {sh : Sh} {c : CK} {q : Bool} {σ σ2 : L2.St} {Z H Z1 H1 : Hp} {ρ : Env} {ω ω1 : Om} {fp fp1 : Fp} {L : Addr}
/-- from a turn on: a step of the frame, what was made stands -/
theorem LcAt.go {q1 : Bool} {ds : List D} {g : List Addr} {Z2 H2 : Hp} {ω2 : Om} {fp2 : Fp} (T : Step K p.ad p.os q σ Z H ω fp Z1 H1 ω1 fp1) (w : Con K p.ad sh L c ds Z1 H1 g) (N : NewG H fp1 (L :: g)) (zL : Z1 L = none)
    (U : Step K p.ad p.os q1 σ Z1 H1 ω1 fp1 Z2 H2 ω2 fp2) (hq : q = true → q1 = true) : Step K p.ad p.os q σ Z H ω fp Z2 H2 ω2 fp2 ∧ Con K p.ad sh L c ds Z2 H2 g ∧ NewG H fp2 (L :: g) ∧ Z2 L = none := by
  obtain ⟨st, out⟩ := U.stand (w.dom zL) N.out
  have TU := T.trans U
  exact ⟨TU.to fun h => by rw [h, hq h]; rfl, w.stand st, ⟨N.nd, N.new, out⟩, st.z L List.mem_cons_self⟩
/-- an item put in; H3: the heap ahead of the item -/
theorem LcAt.put {acc : List V} {ds : List D} {g g2 : List Addr} {Z2 H2 H3 Zs : Hp} {ω2 : Om} {fp2 : Fp} {y : V} {d : D} (T : Step K p.ad p.os q σ Z H ω fp Z2 H2 ω2 fp2) (e : H2 L = some (.lst acc)) (w : Ows K p.ad Z2 H2 sh acc ds g) (N : NewG H fp2 (L :: g)) (zL : Z2 L = none) (l : Le Zs Z2)
    (wy : Ow K p.ad Z2 H2 sh y d g2) (N2 : NewG H3 fp2 g2) (up : ∀ a, H3 a = none → H a = none) (apart : ∀ a ∈ L :: g, ∃ o, H3 a = some o) : LcAt K p sh .lst q σ Z H ω fp Zs L (ds ++ [d]) ω2 (upd H2 L (.lst (acc ++ [y]))) := by
  have nd := List.nodup_cons.mp N.nd
  have dg2 : ∀ a ∈ L :: g, a ∉ g2 := fun a ha h => by
    obtain ⟨o, eo⟩ := apart a ha
    rw [N2.new a h] at eo; cases eo
  have T2 := T.updD (o' := .lst (acc ++ [y])) (N.new L List.mem_cons_self) zL (N.out L List.mem_cons_self) e rfl
  have w' : Ows K p.ad Z2 (upd H2 L (.lst (acc ++ [y]))) sh (acc ++ [y]) (ds ++ [d]) (g ++ g2) := by
    refine Ows.snoc (wy.stand ⟨Le.refl _, fun b hb => upd_ne fun h => dg2 L List.mem_cons_self (by rw [← h]; exact hb), fun b hb => (wy.dom b hb).1⟩) (w.stand ⟨Le.refl _, fun b hb => upd_ne fun h => nd.1 (by rw [← h]; exact hb), fun b hb => (w.dom b hb).1⟩)
  refine ⟨Z2, fp2, g ++ g2, T2, ⟨acc ++ [y], upd_same, w'⟩, ⟨?_, fun a ha => ?_, fun a ha => ?_⟩, zL, l⟩
  · show (L :: (g ++ g2)).Nodup
    rw [← List.cons_append]
    exact List.nodup_append.mpr ⟨N.nd, N2.nd, fun a ha b hb h => dg2 a ha (by rw [h]; exact hb)⟩
  · rcases List.mem_cons.mp ha with rfl | ha
    · exact N.new _ List.mem_cons_self
    · rcases List.mem_append.mp ha with ha | ha
      · exact N.new a (List.mem_cons_of_mem _ ha)
      · exact up a (N2.new a ha)
  · rcases List.mem_cons.mp ha with rfl | ha
    · exact N.out _ List.mem_cons_self
    · rcases List.mem_append.mp ha with ha | ha
      · exact N.out a (List.mem_cons_of_mem _ ha)
      · exact N2.out a ha
/-- a pair put in -/
theorem LcAt.putK {kvs : List (Key × V)} {dds : List (Key × D)} {ds : List D} {g g2 : List Addr} {Z2 H2 H3 Zs : Hp} {ω2 : Om} {fp2 : Fp} {y : V} {kd d : D} {k : Key} (T : Step K p.ad p.os q σ Z H ω fp Z2 H2 ω2 fp2) (e : H2 L = some (.dK kvs)) (em : dmake false ds = some (.dk dds)) (nk : (dds.map (·.1)).Nodup) (hk : kOf kd = some k) (hz : dds.length < sizeLine)
    (w : OwK K p.ad Z2 H2 sh kvs dds g) (N : NewG H fp2 (L :: g)) (zL : Z2 L = none) (l : Le Zs Z2)
    (wy : Ow K p.ad Z2 H2 sh y d g2) (N2 : NewG H3 fp2 g2) (up : ∀ a, H3 a = none → H a = none) (apart : ∀ a ∈ L :: g, ∃ o, H3 a = some o) : LcAt K p sh .dk q σ Z H ω fp Zs L (ds ++ [.tup [kd, d]]) ω2 (upd H2 L (.dK (L2.putK kvs k y))) := by
  have nd := List.nodup_cons.mp N.nd
  have dg2 : ∀ a ∈ L :: g, a ∉ g2 := fun a ha h => by
    obtain ⟨o, eo⟩ := apart a ha
    rw [N2.new a h] at eo; cases eo
  have T2 := T.updD (o' := .dK (L2.putK kvs k y)) (N.new L List.mem_cons_self) zL (N.out L List.mem_cons_self) e rfl
  have st1 : Stand Z2 H2 Z2 (upd H2 L (.dK (L2.putK kvs k y))) g := ⟨Le.refl _, fun b hb => upd_ne fun h => nd.1 (by rw [← h]; exact hb), fun b hb => (w.dom b hb).1⟩
  have wy' : Ow K p.ad Z2 (upd H2 L (.dK (L2.putK kvs k y))) sh y d g2 := wy.stand ⟨Le.refl _, fun b hb => upd_ne fun h => dg2 L List.mem_cons_self (by rw [← h]; exact hb), fun b hb => (wy.dom b hb).1⟩
  obtain ⟨g3, w3, sub3, nd3⟩ := w.toG.put nk st1 wy'
  have hnd : (L :: (g ++ g2)).Nodup := by
    rw [← List.cons_append]
    exact List.nodup_append.mpr ⟨N.nd, N2.nd, fun a ha b hb h => dg2 a ha (by rw [h]; exact hb)⟩
  have em' : dmake false (ds ++ [.tup [kd, d]]) = some (.dk (putD dds k d)) := by
    unfold dmake at em ⊢
    rw [List.foldl_append, em]
    show dput (.dk dds) kd d = _
    show (if dds.length < sizeLine then (kOf kd).map fun q => D.dk (putD dds q d) else none) = _
    rw [if_pos hz, hk]; rfl
  refine ⟨Z2, fp2, g3, T2, ⟨_, _, upd_same, em', putD_nodup nk, w3.toK⟩, ⟨List.nodup_cons.mpr ⟨fun h => ?_, nd3 (List.nodup_cons.mp hnd).2⟩, fun a ha => ?_, fun a ha => ?_⟩, zL, l⟩
  · rcases sub3 L h with h | h
    · exact nd.1 h
    · exact dg2 L List.mem_cons_self h
  · rcases List.mem_cons.mp ha with rfl | ha
    · exact N.new _ List.mem_cons_self
    · rcases sub3 a ha with ha | ha
      · exact N.new a (List.mem_cons_of_mem _ ha)
      · exact up a (N2.new a ha)
  · rcases List.mem_cons.mp ha with rfl | ha
    · exact N.out _ List.mem_cons_self
    · rcases sub3 a ha with ha | ha
      · exact N.out a (List.mem_cons_of_mem _ ha)
      · exact N2.out a ha
end
theorem gloop_cons {f : D → Om → R (List D)} {x : D} {xs ds : List D} {ω ω' : Om} (h : gloop f (x :: xs) ω = some (ds, ω')) : ∃ l ω1 l', f x ω = some (l, ω1) ∧ gloop f xs ω1 = some (l', ω') ∧ ds = l ++ l' := by
  obtain ⟨l, ω1, e1, h⟩ := of_bnd h
  obtain ⟨l', ω2, e2, h⟩ := of_bnd h
  cases h
  exact ⟨l, ω1, l', e1, e2, rfl⟩
theorem drop_get {α : Type} {xs : List α} {i : Nat} (h : i < xs.length) : ∃ x, xs[i]? = some x ∧ xs.drop i = x :: xs.drop (i + 1) := ⟨xs[i], List.getElem?_eq_getElem h, List.drop_eq_getElem_cons h⟩
theorem wipe_at {σ : L2.St} {i : Nat} : ∀ {vs : List Nat}, i ∉ vs → (wipe σ vs)[i]? = σ[i]?
  | [], _ => rfl
  | v :: vs, h => by
    show ((wipe σ vs).set v none)[i]? = _
    rw [List.getElem?_set_ne fun e => h (by rw [← e]; exact List.mem_cons_self)]
    exact wipe_at fun hm => h (List.mem_cons_of_mem _ hm)
theorem wipe_in {σ : L2.St} {i : Nat} : ∀ {vs : List Nat}, i ∈ vs → (wipe σ vs)[i]? = if i < σ.length then some none else none
  | v :: vs, h => by
    show ((wipe σ vs).set v none)[i]? = _
    by_cases e : v = i
    · subst e
      by_cases hl : v < σ.length
      · rw [if_pos hl, List.getElem?_set_self (by rw [wipe_length]; exact hl)]
      · rw [if_neg hl, List.getElem?_eq_none (by rw [List.length_set, wipe_length]; omega)]
    · rw [List.getElem?_set_ne e]
      exact wipe_in ((List.mem_cons.mp h).resolve_left fun q => e q.symm)
theorem wipe_eq {σ σ' : L2.St} {vs : List Nat} (hl : σ'.length = σ.length) (h : ∀ i, i ∉ vs → σ'[i]? = σ[i]?) : wipe σ' vs = wipe σ vs := by
  refine List.ext_getElem? fun i => ?_
  by_cases hi : i ∈ vs
  · rw [wipe_in hi, wipe_in hi, hl]
  · rw [wipe_at hi, wipe_at hi, h i hi]
theorem wipe_wipe {σ : L2.St} {vs : List Nat} : wipe (wipe σ vs) vs = wipe σ vs := wipe_eq (wipe_length _ _) fun _ h => wipe_at h
/-- what a clause does at one item, by a reading: the target, the tests, what stands within -/
theorem clause_read {α : Type} {z : α} {K : PySem.W.Frag} {p : Par} {t : ITg} {cs : IEs} {σ : L2.St} {Z1 H1 : Hp} {ρ : Env} {ω1 : Om} {fp1 : Fp} {x : V} {dx : D} {ws : List Nat} {k : Env → Om → R α} {l : α} {ω2 : Om} (S : Sta K p.ad p.tbs p.os σ Z1 H1 ρ ω1 fp1) (hw : ∀ i ∈ slotsT t, i ∈ ws) (hos : ∀ y ∈ p.os, y.1 ∉ slotsT t) {W : L2.St} (hW : wipe σ ws = W)
    (r : Rp K p.ad Z1 x dx) (he : (match bindT t dx ρ with
      | none => none
      | some ρ2 => bnd (evc p.O cs ρ2 ω1) fun b ω3 => if b then k ρ2 ω3 else ret z ω3) = some (l, ω2)) {Q : L2.St → Bool → Hp → Prop}
    (hQ : ∀ σ2 ρ2 b Z2 H2 ω3 fp2, bindT t dx ρ = some ρ2 → wipe σ2 ws = W → (∀ y ∈ p.os, σ2[y.1]? = σ[y.1]?) → Step K p.ad p.os cs.quiet σ2 Z1 H1 ω1 fp1 Z2 H2 ω3 fp2 → Sta K p.ad p.tbs p.os σ2 Z2 H2 ρ2 ω3 fp2 → (if b then k ρ2 ω3 else ret z ω3) = some (l, ω2) → Q σ2 b H2) :
    gT K t x σ H1 fun σ2 H2 => wipe σ2 ws = W ∧ tCs K p cs σ2 H2 fun b H3 => Q σ2 b H3 := by
  split at he
  · cases he
  · rename_i ρ2 hb
    obtain ⟨b, ω3, e1, e2⟩ := of_bnd he
    obtain ⟨σ2, a1, a2, a3, a4, a5⟩ := gT_run S.zok r hb S.fz (H := H1)
    have ho : ∀ y ∈ p.os, σ2[y.1]? = σ[y.1]? := fun y hy => a3 _ (hos y hy)
    have S2 := S.env a2 ho
    have e5 := (a5 ws hw).trans hW
    exact a1 _ ⟨e5, Z1, ρ2, ω1, fp1, b, ω3, S2, e1, fun Z2 H2 fp2 T => hQ σ2 ρ2 b Z2 H2 ω3 fp2 hb e5 ho T (T.sta S2) e2⟩
/-- the loop over items: a body by a reading -/
theorem loop_read {K : PySem.W.Frag} {p : Par} {sh : Sh} {c : CK} {q : Bool} {σ : L2.St} {Z H : Hp} {ρ : Env} {ω ω1 ωe : Om} {fp : Fp} {Zs : Hp} {L : Addr} {J : It} {items done0 all : List D} {F : D → Om → R (List D)} {H1 : Hp} {Bd : V → Hp → (Hp → Prop) → Prop} {Fin : Hp → Prop} (S : Sta K p.ad p.tbs p.os σ Z H ρ ω fp) (jw : JW K p.ad J Zs items) (h0 : LcAt K p sh c q σ Z H ω fp Zs L done0 ω1 H1) (e : gloop F items ω1 = some (all, ωe))
    (fin : ∀ H', LcAt K p sh c q σ Z H ω fp Zs L (done0 ++ all) ωe H' → Fin H')
    (bd : ∀ (dx : D) (x : V) (H6 Z6 : Hp) (fp6 : Fp) (g : List Addr) (done : List D) (ωi ωn : Om) (l rest : List D) (Nx : Hp → Prop), Step K p.ad p.os q σ Z H ω fp Z6 H6 ωi fp6 → Con K p.ad sh L c done Z6 H6 g → NewG H fp6 (L :: g) → Z6 L = none → Le Zs Z6 → Rp K p.ad Z6 x dx → F dx ωi = some (l, ωn) → done0 ++ all = done ++ (l ++ rest) →
      (∀ H', LcAt K p sh c q σ Z H ω fp Zs L (done ++ l) ωn H' → Nx H') → Bd x H6 Nx) :
    ∃ W : Nat → Nat → Hp → Prop, (∃ m, W 0 m H1) ∧ ∀ i m H, W i m H → (J.stop i H ∧ Fin H) ∨ (J.go i H ∧ ∃ Nx : Hp → Prop, (∀ H', Nx H' → ∃ m', m' < m ∧ W (i + 1) m' H') ∧ ∀ x H', J.yld i H x H' → Bd x H' Nx) := by
  refine ⟨fun i m H5 => m = items.length - i ∧ i ≤ items.length ∧ ∃ done rest ωi, done0 ++ all = done ++ rest ∧ gloop F (items.drop i) ωi = some (rest, ωe) ∧ LcAt K p sh c q σ Z H ω fp Zs L done ωi H5, ⟨items.length, by simp, Nat.zero_le _, done0, all, ω1, rfl, by rw [List.drop_zero]; exact e, h0⟩, ?_⟩
  rintro i m H5 ⟨rfl, hi, done, rest, ωi, ea, eg, ⟨Z5, fp5, g, T5, w5, N5, z5, l5⟩⟩
  have S5 := T5.sta S
  by_cases hlt : i < items.length
  · right
    obtain ⟨dx, ex, edrop⟩ := drop_get hlt
    rw [edrop] at eg
    obtain ⟨l, ωn, rest', ef, eg', er⟩ := gloop_cons eg
    obtain ⟨go, yld⟩ := (jw i Z5 H5 l5 S5.zok).1 dx ex
    refine ⟨go, fun H6 => i + 1 ≤ items.length ∧ ∃ done rest ωi, done0 ++ all = done ++ rest ∧ gloop F (items.drop (i + 1)) ωi = some (rest, ωe) ∧ LcAt K p sh c q σ Z H ω fp Zs L done ωi H6, fun H6 h6 => ⟨items.length - (i + 1), by omega, rfl, h6⟩, fun x H6 hy => ?_⟩
    obtain ⟨Z6, n6, r6⟩ := yld x H6 hy
    have U6 : Step K p.ad p.os true σ Z5 H5 ωi fp5 Z6 H6 ωi fp5 := Sta.nw S5 n6
    obtain ⟨T6, w6, N6, z6⟩ := LcAt.go T5 w5 N5 z5 U6 fun _ => rfl
    exact bd dx x H6 Z6 fp5 g done ωi ωn l rest' _ T6 w6 N6 z6 (l5.trans n6.zz) r6 ef (by rw [ea, er]) fun H' h' => ⟨hlt, done ++ l, rest', ωn, by rw [ea, er, List.append_assoc], eg', h'⟩
  · left
    have hi' : i = items.length := by omega
    subst hi'
    rw [List.drop_length] at eg
    cases eg
    rw [List.append_nil] at ea
    refine ⟨(jw _ Z5 H5 l5 S5.zok).2 rfl, fin H5 (by rw [ea]; exact ⟨Z5, fp5, g, T5, w5, N5, z5, l5⟩)⟩
/-- the start of a container's walk -/
theorem lc_start {K : PySem.W.Frag} {p : Par} {sh : Sh} {c : CK} {q q1 : Bool} {σ : L2.St} {Z H Z1 H1 : Hp} {ρ : Env} {ω ω1 : Om} {fp fp1 : Fp} {L : Addr} (S : Sta K p.ad p.tbs p.os σ Z H ρ ω fp) (T : Step K p.ad p.os q1 σ Z H ω fp Z1 H1 ω1 fp1) (hq : q = true → q1 = true) (hL : H1 L = none) :
    LcAt K p sh c q σ Z H ω fp Z1 L [] ω1 (upd H1 L (match c with | .lst => .lst [] | .dk => .dK [])) := by
  have zL : Z1 L = none := by
    cases e : Z1 L with
    | none => rfl
    | some o => rw [T.nx.zh.le _ _ e] at hL; cases hL
  have fL : ¬ inF fp1 L := fun ⟨j, hj⟩ => by
    obtain ⟨_, o, e, _⟩ := T.os.dom j L hj
    rw [hL] at e; cases e
  obtain ⟨T', _⟩ := T.newO (o := match c with | .lst => .lst [] | .dk => .dK []) S hL
  refine ⟨Z1, fp1, [], T'.to hq, ?_, ⟨by simp, fun a ha => by rw [List.mem_singleton] at ha; rw [ha]; exact none_back T.nx hL, fun a ha => by rw [List.mem_singleton] at ha; rw [ha]; exact fL⟩, zL, Le.refl _⟩
  cases c with
  | lst => exact ⟨[], upd_same, .nil⟩
  | dk => exact ⟨[], [], upd_same, rfl, .nil, .nil⟩
theorem opos_wipe {os : Osl} {t : List Nat} {σ : L2.St} (hos : ∀ x ∈ os, x.1 ∉ t) : ∀ x ∈ os, (wipe σ t)[x.1]? = σ[x.1]? := fun x hx => wipe_at (hos x hx)
/-- the element of a list comprehension, by a reading -/
theorem elt_read {K : PySem.W.Frag} {p : Par} {ie : IE} {sh : Sh} {q : Bool} {σ σ2 : L2.St} {Z H Zs Z7 H7 : Hp} {ρ2 : Env} {ω ω7 ωn : Om} {fp fp7 : Fp} {L : Addr} {done l all rest : List D} {g : List Addr} {Nx : Hp → Prop} (hq : q = true → ie.quiet = true) (ho2 : ∀ y ∈ p.os, σ2[y.1]? = σ[y.1]?)
    (T8 : Step K p.ad p.os q σ Z H ω fp Z7 H7 ω7 fp7) (w8 : Con K p.ad sh L .lst done Z7 H7 g) (N8 : NewG H fp7 (L :: g)) (z8 : Z7 L = none) (l8 : Le Zs Z7) (S7 : Sta K p.ad p.tbs p.os σ2 Z7 H7 ρ2 ω7 fp7) (ek : (bnd (ev p.O ie ρ2 ω7) fun d ω2 => ret [d] ω2) = some (l, ωn)) (hlen : all.length ≤ sizeLine) (ea : all = done ++ (l ++ rest))
    (hN : ∀ H', LcAt K p sh .lst q σ Z H ω fp Zs L (done ++ l) ωn H' → Nx H') : tE K p ie sh σ2 H7 fun y H4 => ∃ acc, H4 L = some (.lst acc) ∧ acc.length < sizeLine ∧ Nx (upd H4 L (.lst (acc ++ [y]))) := by
  obtain ⟨dy, ω8, e8, e9⟩ := of_bnd ek
  cases e9
  refine ⟨Z7, ρ2, ω7, fp7, dy, _, S7, e8, fun y Z9 H9 fp9 g9 T9 w9 N9 => ?_⟩
  have T9' := T9.slots (σ' := σ) fun y hy => (ho2 y hy).symm
  obtain ⟨T10, w10, N10, z10⟩ := LcAt.go T8 w8 N8 z8 T9' hq
  obtain ⟨acc, eL, w10⟩ := w10
  have hac : acc.length < sizeLine := by
    rw [w10.length]
    rw [ea, List.length_append, List.length_append] at hlen
    have : ([dy] : List D).length = 1 := rfl
    omega
  refine ⟨acc, eL, hac, hN _ (LcAt.put T10 eL w10 N10 z10 (l8.trans T9.nx.zz) w9 N9 (fun a ha => none_back T8.nx ha) fun a ha => ?_)⟩
  exact let ⟨_, o, eo, _⟩ := w8.dom z8 a ha; ⟨o, eo⟩
/-- one clause -/
theorem lc_read {K : PySem.W.Frag} {p : Par} {t : ITg} {src : ISrc} {cs : IEs} {ie : IE} {sh : Sh} {vs : List Nat} {σ : L2.St} {Z H : Hp} {ρ : Env} {ω ω' : Om} {fp : Fp} {d : D} (hvs : vs = slotsT t) (hos : ∀ x ∈ p.os, x.1 ∉ slotsT t) (S : Sta K p.ad p.tbs p.os σ Z H ρ ω fp)
    (he : ev p.O (.lc ie (.cons t src cs .nil)) ρ ω = some (d, ω')) {Q : VK}
    (hQ : ∀ v Z' H' fp' g, Step K p.ad p.os (IE.lc ie (.cons t src cs .nil)).quiet σ Z H ω fp Z' H' ω' fp' → Ow K p.ad Z' H' (.l sh) v d g → NewG H fp' g → Q v H') :
    tLc (iS K p src) (gT K t) (tCs K p cs) (tE K p ie sh) vs σ H Q := by
  subst hvs
  obtain ⟨all, ω2, e1, he1⟩ := of_bnd he
  split at he1
  case isFalse => cases he1
  rename_i hlen
  cases he1
  have esl : slotsG (.cons t src cs .nil) = slotsT t := by simp [slotsG]
  rw [esl] at e1
  obtain ⟨items, ω1, e2, e3⟩ := of_bnd e1
  generalize hqt : (IE.lc ie (.cons t src cs .nil)).quiet = qt at hQ
  have hq : qt = true → src.quiet = true ∧ cs.quiet = true ∧ ie.quiet = true := fun h => by
    rw [h] at hqt
    have hqt : (ie.quiet && (src.quiet && cs.quiet && true)) = true := hqt
    simp only [Bool.and_eq_true, and_true] at hqt
    exact ⟨hqt.2.1, hqt.2.2, hqt.1⟩
  have hw := opos_wipe (σ := σ) hos
  have hw' : ∀ x ∈ p.os, σ[x.1]? = (wipe σ (slotsT t))[x.1]? := fun x hx => (hw x hx).symm
  refine ⟨Z, wipeE ρ (slotsT t), ω, fp, items, ω1, S.env (S.fz.less _) fun _ _ => rfl, e2, fun J Z1 H1 fp1 T1 jw L hL => ?_⟩
  have Sw : Sta K p.ad p.tbs p.os (wipe σ (slotsT t)) Z H (wipeE ρ (slotsT t)) ω fp := S.env (S.fz.wipe _) hw
  refine loop_read Sw jw (lc_start (sh := sh) (c := .lst) (q := qt) Sw (T1.slots hw) (fun h => (hq h).1) hL) e3 (fun H' ⟨Z5, fp5, g, T5, w5, N5, z5, l5⟩ => ?_) fun dx x H6 Z6 fp6 g done ωi ωn l rest Nx T6 w6 N6 z6 l6 r6 ef ea hN => ?_
  · obtain ⟨acc, eL, w5⟩ := w5
    rw [List.nil_append] at w5
    exact hQ _ Z5 H' fp5 (L :: g) (T5.slots hw') (.lst z5 eL w5) N5
  · refine clause_read (T6.sta Sw) (fun i hi => hi) hos wipe_wipe r6 ef fun σ2 ρ2 b Z7 H7 ω7 fp7 _ hwp ho2 T7 S7 ek => ?_
    obtain ⟨T8, w8, N8, z8⟩ := LcAt.go T6 w6 N6 z6 (T7.slots (σ' := wipe σ (slotsT t)) fun y hy => (ho2 y hy).symm) fun h => (hq h).2.1
    have l8 := l6.trans T7.nx.zz
    cases b with
    | false =>
      rw [if_neg (by decide)] at ek ⊢
      cases ek
      rw [List.append_nil] at hN
      exact hN _ ⟨Z7, fp7, g, T8, w8, N8, z8, l8⟩
    | true =>
      rw [if_pos rfl] at ek ⊢
      exact elt_read (fun h => (hq h).2.2) ho2 T8 w8 N8 z8 l8 S7 ek hlen ea hN
theorem bindT_at {t : ITg} {d : D} {ρ ρ' : Env} {i : Nat} (h : bindT t d ρ = some ρ') (hi : i ∉ slotsT t) : ρ'[i]? = ρ[i]? := by
  have sets : ∀ (is : List Nat) (ds : List D) (ρ : Env), i ∉ is → ((is.zip ds).foldl (fun ρ p => ρ.set p.1 (some p.2)) ρ)[i]? = ρ[i]? := by
    intro is
    induction is with
    | nil => intro ds ρ _; rfl
    | cons j is ih =>
      intro ds ρ hj
      cases ds with
      | nil => rfl
      | cons d ds =>
        show ((is.zip ds).foldl (fun ρ p => ρ.set p.1 (some p.2)) (ρ.set j (some d)))[i]? = _
        rw [ih ds _ fun h => hj (List.mem_cons_of_mem _ h), List.getElem?_set_ne fun e => hj (by rw [e]; exact List.mem_cons_self)]
  cases t with
  | one j => cases h; exact List.getElem?_set_ne fun e => hi (by rw [← e]; exact List.mem_cons_self)
  | many is =>
    cases d with
    | tup ds =>
      have h' : (if ds.length = is.length then some ((is.zip ds).foldl (fun ρ p => ρ.set p.1 (some p.2)) ρ) else none) = some ρ' := h
      split at h'
      · cases h'; exact sets is ds ρ hi
      · cases h'
    | _ => cases h
theorem wipeE_at {i : Nat} {d : D} : ∀ {vs : List Nat} {ρ : Env}, i ∈ vs → (wipeE ρ vs)[i]? ≠ some (some d)
  | v :: vs, ρ, h, e => by
    have e : ((wipeE ρ vs).set v none)[i]? = some (some d) := e
    by_cases q : v = i
    · subst q
      by_cases hl : v < (wipeE ρ vs).length
      · rw [List.getElem?_set_self hl] at e; cases e
      · rw [List.getElem?_eq_none (by simpa using hl)] at e; cases e
    · rw [List.getElem?_set_ne q] at e
      exact wipeE_at ((List.mem_cons.mp h).resolve_left fun z => q z.symm) e
theorem Fz.wipeN {K : PySem.W.Frag} {ad : Str → Addr} {Z : Hp} {σ : L2.St} {ρ : Env} {vs : List Nat} (F : Fz K ad Z σ ρ) (h : ∀ i ∈ vs, ∀ d, ρ[i]? ≠ some (some d)) : Fz K ad Z (L2.wipe σ vs) ρ where
  len := by rw [wipe_length]; exact F.len
  at_ := fun i d e => by
    have hi : i ∉ vs := fun hm => h i hm d e
    rw [wipe_at hi]
    exact F.at_ i d e
/-- two clauses -/
theorem lc2_read {K : PySem.W.Frag} {p : Par} {t t1 : ITg} {src src1 : ISrc} {cs cs1 : IEs} {ie : IE} {sh : Sh} {vs : List Nat} {σ : L2.St} {Z H : Hp} {ρ : Env} {ω ω' : Om} {fp : Fp} {d : D} (hvs : vs = slotsT t ++ slotsT t1) (hos : ∀ x ∈ p.os, x.1 ∉ slotsT t) (hos1 : ∀ x ∈ p.os, x.1 ∉ slotsT t1) (hd : ∀ i ∈ slotsT t1, i ∉ slotsT t) (S : Sta K p.ad p.tbs p.os σ Z H ρ ω fp)
    (he : ev p.O (.lc ie (.cons t src cs (.cons t1 src1 cs1 .nil))) ρ ω = some (d, ω')) {Q : VK}
    (hQ : ∀ v Z' H' fp' g, Step K p.ad p.os (IE.lc ie (.cons t src cs (.cons t1 src1 cs1 .nil))).quiet σ Z H ω fp Z' H' ω' fp' → Ow K p.ad Z' H' (.l sh) v d g → NewG H fp' g → Q v H') :
    tLc2 (iS K p src) (gT K t) (tCs K p cs) (iS K p src1) (gT K t1) (tCs K p cs1) (tE K p ie sh) vs (slotsT t1) σ H Q := by
  have esl : slotsG (.cons t src cs (.cons t1 src1 cs1 .nil)) = vs := by rw [hvs]; simp [slotsG]
  obtain ⟨all, ω2, e1, he1⟩ := of_bnd he
  split at he1
  case isFalse => cases he1
  rename_i hlen
  cases he1
  rw [esl] at e1
  obtain ⟨items, ω1, e2, e3⟩ := of_bnd e1
  generalize hqt : (IE.lc ie (.cons t src cs (.cons t1 src1 cs1 .nil))).quiet = qt at hQ
  have hq : qt = true → src.quiet = true ∧ cs.quiet = true ∧ src1.quiet = true ∧ cs1.quiet = true ∧ ie.quiet = true := fun h => by
    rw [h] at hqt
    have hqt : (ie.quiet && (src.quiet && cs.quiet && (src1.quiet && cs1.quiet && true))) = true := hqt
    simp only [Bool.and_eq_true, and_true] at hqt
    exact ⟨hqt.2.1.1, hqt.2.1.2, hqt.2.2.1, hqt.2.2.2, hqt.1⟩
  have hosv : ∀ x ∈ p.os, x.1 ∉ vs := fun x hx h => by
    rw [hvs] at h
    rcases List.mem_append.mp h with h | h
    · exact hos x hx h
    · exact hos1 x hx h
  have hw := opos_wipe (σ := σ) hosv
  have hw' : ∀ x ∈ p.os, σ[x.1]? = (wipe σ vs)[x.1]? := fun x hx => (hw x hx).symm
  have sub : ∀ i ∈ slotsT t, i ∈ vs := fun i hi => by rw [hvs]; exact List.mem_append_left _ hi
  have sub1 : ∀ i ∈ slotsT t1, i ∈ vs := fun i hi => by rw [hvs]; exact List.mem_append_right _ hi
  refine ⟨Z, wipeE ρ vs, ω, fp, items, ω1, S.env (S.fz.less _) fun _ _ => rfl, e2, fun J Z1 H1 fp1 T1 jw L hL => ?_⟩
  have Sw : Sta K p.ad p.tbs p.os (wipe σ vs) Z H (wipeE ρ vs) ω fp := S.env (S.fz.wipe _) hw
  refine loop_read Sw jw (lc_start (sh := sh) (c := .lst) (q := qt) Sw (T1.slots hw) (fun h => (hq h).1) hL) e3 (fun H' ⟨Z5, fp5, g, T5, w5, N5, z5, l5⟩ => ?_) fun dx x H6 Z6 fp6 g done ωi ωn l rest Nx T6 w6 N6 z6 l6 r6 ef ea hN => ?_
  · obtain ⟨acc, eL, w5⟩ := w5
    rw [List.nil_append] at w5
    exact hQ _ Z5 H' fp5 (L :: g) (T5.slots hw') (.lst z5 eL w5) N5
  · refine clause_read (T6.sta Sw) sub hos wipe_wipe r6 ef fun σ2 ρ2 b Z7 H7 ω7 fp7 hb hwp ho2 T7 S7 ek => ?_
    obtain ⟨T8, w8, N8, z8⟩ := LcAt.go T6 w6 N6 z6 (T7.slots (σ' := wipe σ vs) fun y hy => (ho2 y hy).symm) fun h => (hq h).2.1
    have l8 := l6.trans T7.nx.zz
    cases b with
    | false =>
      rw [if_neg (by decide)] at ek ⊢
      cases ek
      rw [List.append_nil] at hN
      exact hN _ ⟨Z7, fp7, g, T8, w8, N8, z8, l8⟩
    | true =>
      rw [if_pos rfl] at ek ⊢
      have hfr : ∀ i ∈ slotsT t1, ∀ d, ρ2[i]? ≠ some (some d) := fun i hi d e => by
        rw [bindT_at hb (hd i hi)] at e
        exact wipeE_at (sub1 i hi) e
      obtain ⟨its1, ω8, e8, e9⟩ := of_bnd ek
      refine ⟨Z7, ρ2, ω7, fp7, its1, ω8, S7, e8, fun J1 Z9 H9 fp9 T9 jw1 => ?_⟩
      obtain ⟨T10, w10, N10, z10⟩ := LcAt.go T8 w8 N8 z8 (T9.slots (σ' := wipe σ vs) fun y hy => (ho2 y hy).symm) fun h => (hq h).2.2.1
      refine loop_read Sw jw1 (show LcAt K p sh .lst qt (wipe σ vs) Z H ω fp Z9 L done ω8 H9 from ⟨Z9, fp9, g, T10, w10, N10, z10, Le.refl _⟩) e9 (fun H' ⟨Z5, fp5, g5, T5, w5, N5, z5, l5⟩ => hN H' ⟨Z5, fp5, g5, T5, w5, N5, z5, (l8.trans T9.nx.zz).trans l5⟩)
        fun dx1 x1 H11 Z11 fp11 g1 done1 ωi1 ωn1 l1 rest1 Nx1 T11 w11 N11 z11 l11 r11 ef1 ea1 hN1 => ?_
      have ho3 : ∀ y ∈ p.os, (wipe σ2 (slotsT t1))[y.1]? = (wipe σ vs)[y.1]? := fun y hy => (wipe_at (hos1 y hy)).trans (ho2 y hy)
      have S11 : Sta K p.ad p.tbs p.os (wipe σ2 (slotsT t1)) Z11 H11 ρ2 ωi1 fp11 := (T11.sta Sw).env ((S7.fz.wipeN hfr).le (T9.nx.zz.trans l11)) ho3
      refine clause_read S11 (fun i hi => hi) hos1 wipe_wipe r11 ef1 fun σ3 ρ3 b1 Z12 H12 ω12 fp12 _ hwp3 ho12 T12 S12 ek1 => ?_
      have ho13 : ∀ y ∈ p.os, σ3[y.1]? = (wipe σ vs)[y.1]? := fun y hy => (ho12 y hy).trans (ho3 y hy)
      obtain ⟨T13, w13, N13, z13⟩ := LcAt.go T11 w11 N11 z11 (T12.slots (σ' := wipe σ vs) fun y hy => (ho13 y hy).symm) fun h => (hq h).2.2.2.1
      have l13 := l11.trans T12.nx.zz
      cases b1 with
      | false =>
        rw [if_neg (by decide)] at ek1 ⊢
        cases ek1
        rw [List.append_nil] at hN1
        exact hN1 _ ⟨Z12, fp12, g1, T13, w13, N13, z13, l13⟩
      | true =>
        rw [if_pos rfl] at ek1 ⊢
        have hl2 : (done ++ l).length ≤ sizeLine := by
          rw [List.nil_append] at ea
          rw [ea, ← List.append_assoc, List.length_append] at hlen
          omega
        exact elt_read (fun h => (hq h).2.2.2.2) ho13 T13 w13 N13 z13 l13 S12 ek1 hl2 ea1 hN1
/-- a dict comprehension -/
theorem dc_read {K : PySem.W.Frag} {p : Par} {t : ITg} {src : ISrc} {cs : IEs} {ik iv : IE} {sh : Sh} {vs : List Nat} {σ : L2.St} {Z H : Hp} {ρ : Env} {ω ω' : Om} {fp : Fp} {d : D} (hvs : vs = slotsT t) (hos : ∀ x ∈ p.os, x.1 ∉ slotsT t) (S : Sta K p.ad p.tbs p.os σ Z H ρ ω fp)
    (he : ev p.O (.dc false ik iv (.cons t src cs .nil)) ρ ω = some (d, ω')) {Q : VK}
    (hQ : ∀ v Z' H' fp' g, Step K p.ad p.os (IE.dc false ik iv (.cons t src cs .nil)).quiet σ Z H ω fp Z' H' ω' fp' → Ow K p.ad Z' H' (.d sh) v d g → NewG H fp' g → Q v H') :
    tDc (iS K p src) (gT K t) (tCs K p cs) (tE K p ik .z) (tE K p iv sh) vs σ H Q := by
  subst hvs
  obtain ⟨all, ω2, e1, he1⟩ := of_bnd he
  obtain ⟨emk, rfl⟩ := of_opt he1
  have esl : slotsG (.cons t src cs .nil) = slotsT t := by simp [slotsG]
  rw [esl] at e1
  obtain ⟨items, ω1, e2, e3⟩ := of_bnd e1
  generalize hqt : (IE.dc false ik iv (.cons t src cs .nil)).quiet = qt at hQ
  have hq : qt = true → src.quiet = true ∧ cs.quiet = true ∧ ik.quiet = true ∧ iv.quiet = true := fun h => by
    rw [h] at hqt
    have hqt : (ik.quiet && iv.quiet && (src.quiet && cs.quiet && true)) = true := hqt
    simp only [Bool.and_eq_true, and_true] at hqt
    exact ⟨hqt.2.1, hqt.2.2, hqt.1.1, hqt.1.2⟩
  have hw := opos_wipe (σ := σ) hos
  have hw' : ∀ x ∈ p.os, σ[x.1]? = (wipe σ (slotsT t))[x.1]? := fun x hx => (hw x hx).symm
  refine ⟨Z, wipeE ρ (slotsT t), ω, fp, items, ω1, S.env (S.fz.less _) fun _ _ => rfl, e2, fun J Z1 H1 fp1 T1 jw L hL => ?_⟩
  have Sw : Sta K p.ad p.tbs p.os (wipe σ (slotsT t)) Z H (wipeE ρ (slotsT t)) ω fp := S.env (S.fz.wipe _) hw
  refine loop_read Sw jw (lc_start (sh := sh) (c := .dk) (q := qt) Sw (T1.slots hw) (fun h => (hq h).1) hL) e3 (fun H' ⟨Z5, fp5, g, T5, w5, N5, z5, l5⟩ => ?_) fun dx x H6 Z6 fp6 g done ωi ωn l rest Nx T6 w6 N6 z6 l6 r6 ef ea hN => ?_
  · obtain ⟨kvs, dds, eL, em, nk, w5⟩ := w5
    rw [List.nil_append, emk] at em
    cases em
    exact hQ _ Z5 H' fp5 (L :: g) (T5.slots hw') (.dk z5 eL nk w5) N5
  · refine clause_read (T6.sta Sw) (fun i hi => hi) hos wipe_wipe r6 ef fun σ2 ρ2 b Z7 H7 ω7 fp7 _ hwp ho2 T7 S7 ek => ?_
    obtain ⟨T8, w8, N8, z8⟩ := LcAt.go T6 w6 N6 z6 (T7.slots (σ' := wipe σ (slotsT t)) fun y hy => (ho2 y hy).symm) fun h => (hq h).2.1
    have l8 := l6.trans T7.nx.zz
    cases b with
    | false =>
      rw [if_neg (by decide)] at ek ⊢
      cases ek
      rw [List.append_nil] at hN
      exact hN _ ⟨Z7, fp7, g, T8, w8, N8, z8, l8⟩
    | true =>
      rw [if_pos rfl] at ek ⊢
      obtain ⟨dk, ω8, e8, ek⟩ := of_bnd ek
      obtain ⟨dv, ω9, e9, ek⟩ := of_bnd ek
      cases ek
      refine ⟨Z7, ρ2, ω7, fp7, dk, ω8, S7, e8, fun y Z9 H9 fp9 g9 T9 w9 N9 => ?_⟩
      refine ⟨Z9, ρ2, ω8, fp9, dv, _, T9.sta S7, e9, fun y2 Z10 H10 fp10 g10 T10 w10 N10 => ?_⟩
      have T9' := T9.slots (σ' := wipe σ (slotsT t)) fun y hy => (ho2 y hy).symm
      have T10' := T10.slots (σ' := wipe σ (slotsT t)) fun y hy => (ho2 y hy).symm
      obtain ⟨U9, w9', N9', z9⟩ := LcAt.go T8 w8 N8 z8 T9' fun h => (hq h).2.2.1
      obtain ⟨U10, w10', N10', z10⟩ := LcAt.go U9 w9' N9' z9 T10' fun h => (hq h).2.2.2
      obtain ⟨kvs, dds, eL, em, nk, wk⟩ := w10'
      cases w9 with
      | z rk =>
        -- the dict as the evaluator makes it: the key is a key, there is room
        have emk2 : dmake false (done ++ [.tup [dk, dv]]) ≠ none := fun hn => by
          rw [List.nil_append] at ea
          rw [ea, ← List.append_assoc] at emk
          unfold dmake at emk hn
          rw [List.foldl_append, hn] at emk
          have nn : ∀ r : List D, r.foldl dstep none = none := fun r => by
            induction r with
            | nil => rfl
            | cons a r ih => exact ih
          rw [nn] at emk
          cases emk
        have key : ∃ k, kOf dk = some k ∧ dds.length < sizeLine := by
          unfold dmake at em emk2
          rw [List.foldl_append, em] at emk2
          have emk2 : (if dds.length < sizeLine then (kOf dk).map fun q => D.dk (putD dds q dv) else none) ≠ none := emk2
          split at emk2
          · rename_i hl
            cases hk : kOf dk with
            | none => rw [hk] at emk2; exact absurd rfl emk2
            | some k => exact ⟨k, rfl, hl⟩
          · exact absurd rfl emk2
        obtain ⟨k, hk, hl⟩ := key
        have ek : y = kV k := by cases rk <;> cases hk <;> rfl
        refine ⟨kvs, k, ek, eL, by rw [wk.toG.len]; exact hl, hN _ (LcAt.putK U10 eL em nk hk hl wk N10' z10 ((l8.trans T9.nx.zz).trans T10.nx.zz) w10 N10 (fun a ha => none_back U9.nx ha) fun a ha => ?_)⟩
        exact let ⟨_, o, eo, _⟩ := w9'.dom z9 a ha; ⟨o, eo⟩
end Rf
end

section
set_option Elab.async false
set_option linter.all false
set_option maxRecDepth 100000
set_option maxHeartbeats 1000000
/-! all, any of a generator expression. -/
namespace Rf
open PySem PySem.Spec PyProof.Rows L2 GenW
/-- a generator's frame: it runs above the frames that ran -/
def genCx (X : Cx) (s : Shared) (H : Hp) (cenv : PySem.Env) (A : Around) (fp : List Addr) (pn : List (Addr × Obj)) : Cx :=
  { X with s_0 := s, H_0 := H, env := cenv, outer := X.stack, stack := cenv :: X.stack, A := A, ex := fp, fn := fun _ => false, pn := pn, xe := fun _ _ => False }
theorem cells_no {n : Nat} : ∀ {names : List (Str × NameKind)} {acc : List (Str × Addr)}, (∀ y ∈ names, y.2 ≠ .cell) → cellsFrom n names acc = acc
  | [], _, _ => rfl
  | (x, k) :: r, acc, h => by
    have hk : ¬ (k == NameKind.cell) = true := fun e => h _ List.mem_cons_self (by simpa using e)
    show (if (k == NameKind.cell) = true then _ else cellsFrom n r acc) = acc
    rw [if_neg hk]
    exact cells_no fun y hy => h y (List.mem_cons_of_mem _ hy)
section
variable {X : Cx} {pins : List (Addr × Obj)} {σ : L2.St} {H : Hp} {s : Shared}
/-- where the captured names lie -/
theorem clo_at {scope : Scope} (I : Inv X pins σ H s) (hfree : ∀ y ∈ scope.names, y.2 = .free → X.env.scope.names.lookup y.1 = some .cell ∨ X.env.scope.names.lookup y.1 = some .free) {y : Str} {c : Addr} (h : (cloFrom X.env.cells scope.names []).lookup y = some c) :
    X.env.cells.lookup y = some c ∧ c < s.heap.objs.size ∧ (y, NameKind.free) ∈ scope.names := by
  rcases cloFrom_mem (PySem.mem_of_lookup h) with hm | ⟨h1, h2⟩
  · cases hm
  · have hk : X.env.kindOf y = some .cell ∨ X.env.kindOf y = some .free := hfree _ h1 rfl
    obtain ⟨c', hc⟩ := I.ok.has y hk
    rw [hc] at h2
    have h2 : c = c' := h2
    subst h2
    obtain ⟨v, z⟩ := I.cell y _ hc
    exact ⟨hc, z.lt, h1⟩
theorem gen_start {scope : Scope} {own : List (Str × Nat)} {fp : List Addr} {A : Around} {code it : Value} {h' : Heap} {go fo : Obj} {G : Array GenState} {tk : Nat} (I : Inv X pins σ H s) (ok : BlkOk X.N X.env.scope scope own) (hN : X.N.Nodup) (hcell : ∀ y ∈ scope.names, y.2 ≠ .cell) (h0 : (".0" : Str) ∉ X.N)
    (hfp : ∀ b ∈ fp, FpOk X pins H b ∧ b < s.heap.objs.size) (hA : A.frames = some (genEnv scope (cloFrom X.env.cells scope.names []) s.heap.objs.size code builtinsNs X.env :: X.stack)) (hh : A.handled = none)
    (hns : h'.Ns s.heap.objs.size fun y => if y = ".0" then some it else none) (hsb : Heap.SameBut s.heap.objs.size (s.heap.push fo) h') (hgo : ∀ v, go.data ≠ .cell v) (hgf : (h'.push go).get? h'.objs.size = some go) (hG : AllBare G) :
    Inv (genCx X s H (genEnv scope (cloFrom X.env.cells scope.names []) s.heap.objs.size code builtinsNs X.env) A fp [(h'.objs.size, go)]) [] (wipe σ (own.map (·.2))) H { s with gens := G, toks := tk, heap := h'.push go } := by
  have hsz : h'.objs.size = s.heap.objs.size + 1 := hsb.1.trans (Heap.size_push ..)
  have kp : ∀ b o, s.heap.get? b = some o → (h'.push go).get? b = some o := fun b o e => Heap.get?_push_of_some _ ((hsb.2 b (Nat.ne_of_lt (Heap.lt_size e))).trans (Heap.get?_push_of_some _ e))
  generalize hcenv : genEnv scope (cloFrom X.env.cells scope.names []) s.heap.objs.size code builtinsNs X.env = cenv at hA ⊢
  have hL : cenv.locals = s.heap.objs.size := by rw [← hcenv]; rfl
  have hcl : cenv.cells = cloFrom X.env.cells scope.names [] := by rw [← hcenv]; rfl
  have hsc : cenv.scope = scope := by rw [← hcenv]; rfl
  have at_ : ∀ {y c}, cenv.cells.lookup y = some c → X.env.cells.lookup y = some c ∧ c < s.heap.objs.size ∧ (y, NameKind.free) ∈ scope.names := fun {y c} e => clo_at I ok.free (by rw [← hcl]; exact e)
  have look : ∀ {y}, scope.names.lookup y = some .free → ∃ c, cenv.cells.lookup y = some c := fun {y} hl => by
    obtain ⟨c', e'⟩ := mem_lookup (cloFrom_has (cells := X.env.cells) (acc := []) (PySem.mem_of_lookup hl))
    exact ⟨c', by rw [hcl]; exact e'⟩
  have okG : (genCx X s H cenv A fp [(h'.objs.size, go)]).Ok := by
    refine ⟨I.ok.mod, by show cenv.scope.kind = _; rw [hsc]; exact ok.kind, by show cenv.globals = _; rw [← hcenv]; exact I.ok.glob, by show cenv.builtins = _; rw [← hcenv]; rfl, by show s.heap.objs.size ≤ cenv.locals; rw [hL]; exact Nat.le_refl _,
      fun y z c e1 e2 => I.ok.inj y z c (at_ e1).1 (at_ e2).1, fun y hy => ?_, fun y c hf _ => absurd (show false = true from hf) (by decide), fun _ => hh, hA, .inr ⟨rfl, by show cenv.frame = some cenv.locals; rw [← hcenv]; rfl⟩, fun b hb => ⟨?_, fun y c e z => ?_⟩, I.bs, Nat.le_trans I.ok.bsz I.sz, fun b o e hb => ?_, fun b hb z => ?_, I.stack, I.stkFree⟩
    · have hy : scope.names.lookup y = some .cell ∨ scope.names.lookup y = some .free := by
        have hy : cenv.scope.names.lookup y = some .cell ∨ cenv.scope.names.lookup y = some .free := hy
        rwa [hsc] at hy
      rcases hy with hy | hy
      · exact absurd rfl (hcell _ (PySem.mem_of_lookup hy))
      · exact look hy
    · show b ≠ cenv.locals
      rw [hL]; exact Nat.ne_of_lt (hfp b hb).2
    · exact (hfp b hb).1.2.2.2.2.1 y c (at_ e).1 z
    · rcases (hfp b hb).1.2.2.2.1 with z | z
      · exact I.ok.noex b o e z
      · exact absurd (Nat.lt_of_lt_of_le (Heap.lt_size e) (Nat.le_trans I.ok.bsz z)) (Nat.lt_irrefl _)
    · rcases List.mem_cons.mp (I.stkSub b z) with z | z
      · exact (hfp b hb).1.2.1 z
      · exact (hfp b hb).1.2.2.1 z
  refine ⟨okG, rfl, hG, Un.kept kp, ⟨fun y => if y = (".0" : Str) then some it else none, ?_, fun i y av e1 e2 e3 => ?_⟩, fun y c e => ?_, ?_, fun y c e => ?_, fun q hq => ?_, I.hok.kept kp, by rw [wipe_length]; exact I.len⟩
  · show Heap.Ns _ cenv.locals _
    rw [hL]
    exact hns.keeps fun b o e => Heap.get?_push_of_some _ e
  · obtain ⟨e2, hne⟩ := wipe_some e2
    have e3 : Vis cenv.scope y := e3
    rw [hsc] at e3
    have no : ∀ k, scope.names.lookup y = some k → k = .local ∨ k = .cell → False := fun k hk hk' => by
      rcases ok.own _ (PySem.mem_of_lookup hk) hk' with e' | e'
      · obtain ⟨q, hq, hqy⟩ := List.mem_map.mp e'
        have e4 := ok.ix q hq
        rw [show q.1 = y from hqy] at e4
        exact hne (List.mem_map.mpr ⟨q, hq, nodup_ix hN e4 e1⟩)
      · exact e' (List.mem_of_getElem? e1)
    rcases e3 with e3 | e3 | e3
    · exact (no _ e3 (.inl rfl)).elim
    · exact (no _ e3 (.inr rfl)).elim
    · obtain ⟨m, hn, hl⟩ := I.loc
      have hvis : Vis X.env.scope y := (ok.free _ (PySem.mem_of_lookup e3) rfl).elim (fun k => .inr (.inl k)) fun k => .inr (.inr k)
      obtain ⟨w, r, q⟩ := hl i y av e1 e2 hvis
      obtain ⟨c, h1⟩ := look e3
      refine ⟨w, r, .inr ⟨.inr (show cenv.scope.names.lookup y = _ by rw [hsc]; exact e3), c, h1, ?_⟩⟩
      rcases q with ⟨k, _⟩ | ⟨_, c', e', z⟩
      · have k : X.env.scope.names.lookup y = some .local := k
        rcases ok.free _ (PySem.mem_of_lookup e3) rfl with k' | k' <;> rw [show X.env.scope.names.lookup y = _ from k'] at k <;> cases k
      · rw [(at_ h1).1] at e'; cases e'
        exact z.keeps kp
  · obtain ⟨w, z⟩ := I.cell y c (at_ e).1
    exact ⟨w, z.keeps kp⟩
  · show H cenv.locals = none
    rw [hL]; exact I.hok.fresh (Nat.le_refl _)
  · exact I.freeC y c (at_ e).1
  · have hq : q ∈ [(h'.objs.size, go)] ++ ([] : List (Addr × Obj)) := hq
    rw [List.append_nil, List.mem_singleton] at hq
    subst hq
    have hle : s.heap.objs.size ≤ h'.objs.size := by rw [hsz]; exact Nat.le_succ _
    refine ⟨hgf, I.hok.fresh hle, ?_, fun z => ?_, hgo⟩
    · show h'.objs.size ≠ cenv.locals
      rw [hL, hsz]; exact Nat.succ_ne_self _
    · rcases List.mem_cons.mp (I.stkSub _ z) with z | z
      · have h1 := I.lt
        have z : h'.objs.size = X.env.locals := z
        rw [← z] at h1
        exact absurd (Nat.lt_of_lt_of_le h1 hle) (Nat.lt_irrefl _)
      · exact I.nofs hle z
end

/-! ### the walk of a generator expression -/
/-- all objects stand; the state of generators is plain -/
structure Rest (s s' : Shared) : Prop where
  os : s'.os = s.os
  bare : AllBare s'.gens
  keep : ∀ b o, s.heap.get? b = some o → s'.heap.get? b = some o
theorem inv_rest {X : Cx} {pins : List (Addr × Obj)} {σ : L2.St} {H : Hp} {s s' : Shared} (I : Inv X pins σ H s) (r : Rest s s') : Inv X pins σ H s' :=
  I.call' (ch := []) r.os (Un.kept r.keep) (I.hok.kept r.keep) r.bare fun b z => absurd z (by simp)
/-- the end of the walk; what is handed out -/
def qEnd (Xg : Cx) (σ : L2.St) (Qd : Hp → Prop) : GenEnd := fun _ _ r s => ((r = .ok (.ret .none) ∨ r = .ok .next) ∧ ∃ H, Inv Xg [] σ H s ∧ Qd H) ∨ ∃ e, r = .error e ∧ False
def qOut (Xg : Cx) (st : Bool) (Qs : Hp → Prop) : Protocol := fun _ _ v s kap => ∃ (k : Bool) (H : Hp) (σ : L2.St), v = .bool k ∧ Inv Xg [] σ H s ∧ (k = st → Qs H) ∧ (k ≠ st → ∀ s', Rest s s' → kap (.send .none) s')
/-- the turns: W by the turn and a measure -/
def QTurns (st : Bool) (J : It) (g : TG) (tt : TT) (te : TE) (vs : List Nat) (σ : L2.St) (Qs Qd : Hp → Prop) (W : Nat → Nat → Hp → Prop) : Prop := ∀ i m H, W i m H →
  (J.stop i H ∧ Qd H) ∨ (J.go i H ∧ ∃ Nx : Hp → Prop, (∀ H', Nx H' → ∃ m', m' < m ∧ W (i + 1) m' H') ∧ ∀ x H', J.yld i H x H' → g x (wipe σ vs) H' fun σ2 H2 => wipe σ2 vs = wipe σ vs ∧ tt σ2 H2 fun b H3 =>
    if b = true then te σ2 H3 fun y H4 => ∃ k, y = .bl k ∧ (k = st → Qs H4) ∧ (k ≠ st → Nx H4) else Nx H3)
section
variable {Xg : Cx} {A : Around} {tg iter elt : Expr} {ifs : List Expr} {scope : Scope} {pos : Pos} {it : Addr} {fp : List Addr} {tn : Nat → Heap → Prop} {J : It} {g : TG} {tt : TT} {te : TE} {vs : List Nat} {σ : L2.St} {Qs Qd : Hp → Prop} {W : Nat → Nat → Hp → Prop} {st : Bool}
theorem gen_stat {pins : List (Addr × Obj)} {σ' : L2.St} {H' : Hp} {s' : Shared} (hex : Xg.ex = fp) (hpn : ∀ q ∈ Xg.pn, q.1 ∉ fp) (hpi : pins = []) (I : Inv Xg pins σ' H' s') (hn : ∀ b ∈ fp, H' b = none) : ∀ b ∈ fp, FpOk Xg pins H' b := fun b hb => by
  have hb' : b ∈ Xg.ex := by rw [hex]; exact hb
  refine ⟨hn b hb, (I.ok.exf b hb').1, I.ok.exfs b hb', .inl hb', fun x c e => (I.ok.exf b hb').2 x c e, fun q hq e => ?_⟩
  rw [hpi, List.append_nil] at hq
  exact hpn q hq (by rw [e]; exact hb)
theorem seg_turns (hA : A.over (.compLoop (.GeneratorExp elt [⟨tg, iter, ifs, 0⟩] scope pos) 0 (.ref it) .none Xg.env) [] = Xg.A) (hc : Xg.calm = true) (hxe : Xg.xe = fun _ _ => False) (hco : Xg.env.scope.isCoroutine = false) (hex : Xg.ex = fp) (hpn : ∀ q ∈ Xg.pn, q.1 ∉ fp)
    (T : Turn Xg.prog Xg.w Xg.K tg J fp it tn) (hg : PG Xg tg g) (ht : PTs Xg ifs tt) (he : PE Xg elt te) (QT : QTurns st J g tt te vs σ Qs Qd W) :
    ∀ (m i n : Nat) (s₀ s : Shared) (H : Hp), m < n → W i m H → Inv Xg [] (wipe σ vs) H s → tn i s.heap → (∀ b ∈ fp, H b = none) →
      Seg (model Xg.prog Xg.w) A (qEnd Xg (wipe σ vs) Qd) (qOut Xg st Qs) n s₀ (.compLoop (.GeneratorExp elt [⟨tg, iter, ifs, 0⟩] scope pos) 0 (.ref it) .none Xg.env)
        ((model Xg.prog Xg.w).den (.compLoop (.GeneratorExp elt [⟨tg, iter, ifs, 0⟩] scope pos) 0 (.ref it) .none Xg.env)) [] s := by
  have noE : ∀ {α : Type} {t : Sem α} {Q : α → Shared → Prop} {E : Value → Shared → Prop} {s : Shared}, wpAny (model Xg.prog Xg.w) Xg.A t Q Xg.xe s → wpAny (model Xg.prog Xg.w) Xg.A t Q E s := fun {α t Q E s} h =>
    wpAny_mono h (fun _ _ q => q) fun e s' z => by rw [hxe] at z; exact z.elim
  intro m
  induction m using Nat.strongRecOn with
  | ind m ih =>
    intro i n s₀ s H hmn w I st0 hn
    show Seg _ A _ _ n s₀ _ ((compTurn (.GeneratorExp elt [⟨tg, iter, ifs, 0⟩] scope pos) 0 (.ref it) .none Xg.env).onRaise (leaving Xg.env)) [] s
    rw [compTurn_gen]
    rw [Sem.onRaise_eq_wrap]
    apply seg_bind_wrap
    refine wpAny_standAt ?_
    apply seg_bind_wrap
    rw [hA]
    rcases QT i m H w with ⟨stop, qd⟩ | ⟨go, Nx, hNx, step⟩
    · have td := T.done Xg rfl rfl rfl hc i [] s _ H Xg.xe I (gen_stat hex hpn rfl I hn) st0 stop
      refine wpAny_mono (noE (E := fun _ _ => False) td) (fun r s1 hr => ?_) fun _ _ z => z.elim
      obtain ⟨hr, I1⟩ := hr
      subst hr
      exact seg_end (.ok .next) (.inl ⟨.inr rfl, H, I1, qd⟩)
    · have ti := T.item Xg rfl rfl rfl hc i [] s _ H Xg.xe I (gen_stat hex hpn rfl I hn) st0 go
      refine wpAny_mono (noE (E := fun _ _ => False) ti) (fun r s1 hr => ?_) fun _ _ z => z.elim
      obtain ⟨u, hr, h1⟩ := hr
      subst hr
      apply seg_bind_wrap
      rw [hA]
      refine wpAny_mono (noE (E := fun _ _ => False) h1) (fun _ s2 h2 => ?_) fun _ _ z => z.elim
      obtain ⟨x, H2, I2, r2, y2, st2, n2⟩ := h2
      have I2' := I2.pinned (gen_stat hex hpn rfl I2 n2) (T.obj _ _ st2)
      apply seg_bind_wrap
      rw [hA]
      refine wpAny_mono (noE (E := fun _ _ => False) (hg.run _ s2 _ H2 x u _ I2' r2 (step x H2 y2))) (fun _ s3 h3 => ?_) fun _ _ z => z.elim
      obtain ⟨σ3, H3, I3, hw3, q3⟩ := h3
      apply seg_bind_wrap
      rw [hA]
      refine wpAny_mono (noE (E := fun _ _ => False) (ht.run _ s3 σ3 H3 _ I3 q3)) (fun b s4 h4 => ?_) fun _ _ z => z.elim
      obtain ⟨H4, I4, q4⟩ := h4
      -- what stands at the turn's end
      have fin : ∀ {s' : Shared} {H' : Hp}, Inv Xg ([] ++ pinsAt fp s2.heap) σ3 H' s' → Inv Xg [] (wipe σ vs) H' s' ∧ tn (i + 1) s'.heap ∧ ∀ b ∈ fp, H' b = none := fun {s' H'} I' => by
        have pin : ∀ b ∈ fp, ∀ o, s2.heap.get? b = some o → s'.heap.get? b = some o ∧ H' b = none := fun b hb o e =>
          have z := I'.pin (b, o) (List.mem_append_right _ (List.mem_append_right _ (mem_pinsAt hb e)))
          ⟨z.1, z.2.1⟩
        refine ⟨(I'.unpinned (pins := [])).weak (by rw [← hw3, wipe_length]) (fun j v e => ?_), T.keep _ _ _ st2 fun b hb o e => (pin b hb o e).1, fun b hb => ?_⟩
        · rw [← hw3] at e
          exact (wipe_some e).1
        · obtain ⟨o, e, _⟩ := T.obj _ _ st2 b hb
          exact (pin b hb o e).2
      cases b with
      | false =>
        simp only [Bool.false_eq_true, if_false] at q4 ⊢
        obtain ⟨m', hm', w'⟩ := hNx H4 q4
        obtain ⟨I5, st5, n5⟩ := fin I4
        exact seg_again rfl (ih m' hm' (i + 1) n s₀ s4 H4 (by omega) w' I5 st5 n5)
      | true =>
        simp only [if_true] at q4 ⊢
        have hy : ∀ v, yieldOut Xg.env v = yieldValue v := fun v => by
          unfold yieldOut
          rw [hco]
          rfl
        simp only [hy]
        rw [Sem.bind_eq_wrap', Sem.bind_eq_wrap', Sem.wrap_wrap, Sem.wrap_wrap]
        apply seg_wrap
        rw [hA]
        refine wpAny_mono (noE (E := fun _ _ => False) (he.run _ s4 σ3 H4 _ I4 q4)) (fun v s5 h5 => ?_) fun _ _ z => z.elim
        obtain ⟨yv, H5, I5, r5, k, ey, qs, qn⟩ := h5
        subst ey
        have ev : v = Value.bool k := r5
        subst ev
        obtain ⟨I6, st6, n6⟩ := fin I5
        obtain ⟨n', rfl⟩ : ∃ n', n = n' + 1 := ⟨n - 1, by omega⟩
        refine seg_at (seg_yield rfl rfl rfl ⟨k, H5, _, rfl, I6, qs, fun hk s'' hr => ?_⟩)
        obtain ⟨m', hm', w'⟩ := hNx H5 (qn hk)
        exact seg_again rfl (ih m' hm' (i + 1) n' s'' s'' H5 (by omega) w' (inv_rest I6 hr) (T.keep _ _ _ st6 fun b _ o e => hr.keep b o e) n6)
end
end Rf
end

section
set_option Elab.async false
set_option linter.all false
set_option maxRecDepth 100000
set_option maxHeartbeats 1000000
/-! all, any of a generator expression: its making, who walks it. -/
namespace Rf
open PySem PySem.Spec PyProof.Rows L2 GenW
section
variable {Xg : Cx} {A : Around} {tg iter elt : Expr} {ifs : List Expr} {scope : Scope} {pos : Pos} {it : Addr} {fp : List Addr} {tn : Nat → Heap → Prop} {J : It} {g : TG} {tt : TT} {te : TE} {vs : List Nat} {σ : L2.St} {Qs Qd : Hp → Prop} {W : Nat → Nat → Hp → Prop} {st : Bool}
theorem seg_first (hA : A.over (.compLoop (.GeneratorExp elt [⟨tg, iter, ifs, 0⟩] scope pos) 0 (.ref it) .none Xg.env) [] = Xg.A) (hc : Xg.calm = true) (hxe : Xg.xe = fun _ _ => False) (hco : Xg.env.scope.isCoroutine = false) (hex : Xg.ex = fp) (hpn : ∀ q ∈ Xg.pn, q.1 ∉ fp)
    (T : Turn Xg.prog Xg.w Xg.K tg J fp it tn) (hg : PG Xg tg g) (ht : PTs Xg ifs tt) (he : PE Xg elt te) (QT : QTurns st J g tt te vs σ Qs Qd W)
    (m n : Nat) (s₀ s : Shared) (H : Hp) (hmn : m < n) (w : W 0 m H) (I : Inv Xg [] (wipe σ vs) H s) (st0 : tn 0 s.heap) (hn : ∀ b ∈ fp, H b = none) :
      Seg (model Xg.prog Xg.w) A (qEnd Xg (wipe σ vs) Qd) (qOut Xg st Qs) n s₀ (.compStart (.GeneratorExp elt [⟨tg, iter, ifs, 0⟩] scope pos) 0 (.ref it) .none Xg.env)
        ((model Xg.prog Xg.w).den (.compStart (.GeneratorExp elt [⟨tg, iter, ifs, 0⟩] scope pos) 0 (.ref it) .none Xg.env)) [] s := by
  have loop := seg_turns (iter := iter) hA hc hxe hco hex hpn T hg ht he QT m 0 n s₀ s H hmn w I st0 hn
  show Seg _ A _ _ n s₀ _ ((compStart (.GeneratorExp elt [⟨tg, iter, ifs, 0⟩] scope pos) 0 (.ref it) .none Xg.env).onRaise (leaving Xg.env)) [] s
  unfold compStart
  rw [Sem.onRaise_eq_wrap]
  show Seg _ A _ _ _ s₀ _ ((ask >>= _).wrap _ _ _ _) [] s
  refine seg_bind_wrap (wpAny_askSetting ?_)
  split
  · exact seg_again rfl loop
  · refine seg_bind_wrap (wpAny_rule ?_)
    show Seg _ A _ _ _ s₀ _ ((standAt iter.pos >>= _).wrap _ _ _ _) [] s
    exact seg_bind_wrap (wpAny_standAt (seg_bind_wrap (T.self _ 0 s _ _ st0 (seg_again rfl loop))))
end
/-! ### who asks -/
section
variable {Xg : Cx} {A : Around} {σ : L2.St} {Qs Qd : Hp → Prop} {R : Result → Shared → Prop} {a : Addr} {g : Nat} {go : Obj}
theorem rest_gen {s : Shared} {g : Nat} {x : GenState} (h : AllBare s.gens) (hx : x.bare = true) : Rest s (s.setGen g x) := ⟨rfl, allBare_setGen h hx, fun _ _ e => e⟩
theorem ask_any (hh : A.handled = none) (hd : A.depth < recursionLimit) (hp : (a, go) ∈ Xg.pn) (hgo : ∀ h : Heap, h.get? a = some go → h.IsGen a g)
    (hS : ∀ s' H' σ', Inv Xg [] σ' H' s' → Qs H' → R (.ok (.ret (.bool true))) s') (hD : ∀ s' H', Inv Xg [] σ H' s' → Qd H' → R (.ok (.ret (.bool false))) s') :
    ∀ (m : Nat) (s : Shared) (gs : GenState), s.heap.IsGen a g → s.heap.NoLimit → s.gens[g]? = some gs → gs.Goes (model Xg.prog Xg.w) A.in1.in1 (qEnd Xg σ Qd) (qOut Xg true Qs) m (.send .none) (s.setGen g .running) →
      codeAny (model Xg.prog Xg.w) A (.builtin "any.loop" ⟨[.ref a], []⟩) R s := by
  intro m
  induction m with
  | zero =>
    intro s gs hg hl hgs hgo'
    refine codeAny_builtin F.entry_any_loop ?_
    rw [Around.under_plainId F.plain_any_loop _]
    show wpAny _ A.in1 (pyNext (.ref a) >>= _) _ _ s
    refine wpAny_bind (next_genG (A := A.in1) (F := fun _ _ s1 => ∃ H, Inv Xg [] σ H s1 ∧ Qd H) (Er := fun _ _ => False) hh hl hd hg hgs hgo' (fun v s1 gs' hbare hv => ?_) (fun s1 ⟨H1, I1, q1⟩ h' hk => ?_) fun e s1 he => he.elim)
    · obtain ⟨k, H1, σ1, rfl, I1, qs, qn⟩ := hv
      refine wpAny_bind (wpAny_holding (wpAny_truthy_bool ?_))
      refine wpAny_bind (wpAny_letGo ?_)
      cases k with
      | false => exact (qn (by decide) s1 ⟨rfl, I1.bare, fun _ _ e => e⟩).elim
      | true =>
        simp only [if_true]
        exact wpAny_bind (wpAny_rule (wpAny_pure (hS _ H1 σ1 (inv_rest I1 (rest_gen I1.bare hbare)) (qs rfl))))
    · exact wpAny_bind (wpAny_rule (wpAny_pure (hD _ H1 (inv_rest I1 ⟨rfl, allBare_setGen I1.bare rfl, hk⟩) q1)))
  | succ m ih =>
    intro s gs hg hl hgs hgo'
    have hgl : g < s.gens.size := (Array.getElem?_eq_some_iff.mp hgs).1
    refine codeAny_builtin F.entry_any_loop ?_
    rw [Around.under_plainId F.plain_any_loop _]
    show wpAny _ A.in1 (pyNext (.ref a) >>= _) _ _ s
    refine wpAny_bind (wpAny_gsz (n := g + 1) hgl (next_genG (A := A.in1) (F := fun _ _ s1 => ∃ H, Inv Xg [] σ H s1 ∧ Qd H) (Er := fun _ _ => False) hh hl hd hg hgs hgo' (fun v s1 gs' hbare hv => ?_) (fun s1 ⟨H1, I1, q1⟩ h' hk => ?_) fun e s1 he => he.elim))
    · intro hsz
      obtain ⟨k, H1, σ1, rfl, I1, qs, qn⟩ := hv
      have I2 := inv_rest I1 (rest_gen (g := g) I1.bare hbare)
      refine wpAny_bind (wpAny_holding (wpAny_truthy_bool ?_))
      refine wpAny_bind (wpAny_letGo ?_)
      cases k with
      | false =>
        simp only [Bool.false_eq_true, if_false]
        have hsz1 : g < s1.gens.size := by
          have q : (s1.setGen g gs').gens.size = s1.gens.size := setGen_size _ _ _
          have hsz' : g + 1 ≤ (s1.setGen g gs').gens.size := hsz
          omega
        refine wpAny_pure ⟨plainId_quiet F.plain_any_loop _, ih _ gs' (hgo _ (I2.pin (a, go) (List.mem_append_left _ hp)).1) I2.nolimit (setGen_at hsz1) ?_⟩
        exact qn (by decide) _ ⟨rfl, allBare_setGen I2.bare rfl, fun _ _ e => e⟩
      | true =>
        simp only [if_true]
        exact wpAny_bind (wpAny_rule (wpAny_pure (hS _ H1 σ1 I2 (qs rfl))))
    · intro _
      exact wpAny_bind (wpAny_rule (wpAny_pure (hD _ H1 (inv_rest I1 ⟨rfl, allBare_setGen I1.bare rfl, hk⟩) q1)))
theorem ask_all (hh : A.handled = none) (hd : A.depth < recursionLimit) (hp : (a, go) ∈ Xg.pn) (hgo : ∀ h : Heap, h.get? a = some go → h.IsGen a g)
    (hS : ∀ s' H' σ', Inv Xg [] σ' H' s' → Qs H' → R (.ok (.ret (.bool false))) s') (hD : ∀ s' H', Inv Xg [] σ H' s' → Qd H' → R (.ok (.ret (.bool true))) s') :
    ∀ (m : Nat) (s : Shared) (gs : GenState), s.heap.IsGen a g → s.heap.NoLimit → s.gens[g]? = some gs → gs.Goes (model Xg.prog Xg.w) A.in1.in1 (qEnd Xg σ Qd) (qOut Xg false Qs) m (.send .none) (s.setGen g .running) →
      codeAny (model Xg.prog Xg.w) A (.builtin "all.loop" ⟨[.ref a], []⟩) R s := by
  intro m
  induction m with
  | zero =>
    intro s gs hg hl hgs hgo'
    refine codeAny_builtin F.entry_all_loop ?_
    rw [Around.under_plainId F.plain_all_loop _]
    show wpAny _ A.in1 (pyNext (.ref a) >>= _) _ _ s
    refine wpAny_bind (next_genG (A := A.in1) (F := fun _ _ s1 => ∃ H, Inv Xg [] σ H s1 ∧ Qd H) (Er := fun _ _ => False) hh hl hd hg hgs hgo' (fun v s1 gs' hbare hv => ?_) (fun s1 ⟨H1, I1, q1⟩ h' hk => ?_) fun e s1 he => he.elim)
    · obtain ⟨k, H1, σ1, rfl, I1, qs, qn⟩ := hv
      refine wpAny_bind (wpAny_holding (wpAny_truthy_bool ?_))
      refine wpAny_bind (wpAny_letGo ?_)
      cases k with
      | true => exact (qn (by decide) s1 ⟨rfl, I1.bare, fun _ _ e => e⟩).elim
      | false =>
        simp only [Bool.false_eq_true, if_false]
        exact wpAny_bind (wpAny_rule (wpAny_pure (hS _ H1 σ1 (inv_rest I1 (rest_gen I1.bare hbare)) (qs rfl))))
    · exact wpAny_bind (wpAny_rule (wpAny_pure (hD _ H1 (inv_rest I1 ⟨rfl, allBare_setGen I1.bare rfl, hk⟩) q1)))
  | succ m ih =>
    intro s gs hg hl hgs hgo'
    have hgl : g < s.gens.size := (Array.getElem?_eq_some_iff.mp hgs).1
    refine codeAny_builtin F.entry_all_loop ?_
    rw [Around.under_plainId F.plain_all_loop _]
    show wpAny _ A.in1 (pyNext (.ref a) >>= _) _ _ s
    refine wpAny_bind (wpAny_gsz (n := g + 1) hgl (next_genG (A := A.in1) (F := fun _ _ s1 => ∃ H, Inv Xg [] σ H s1 ∧ Qd H) (Er := fun _ _ => False) hh hl hd hg hgs hgo' (fun v s1 gs' hbare hv => ?_) (fun s1 ⟨H1, I1, q1⟩ h' hk => ?_) fun e s1 he => he.elim))
    · intro hsz
      obtain ⟨k, H1, σ1, rfl, I1, qs, qn⟩ := hv
      have I2 := inv_rest I1 (rest_gen (g := g) I1.bare hbare)
      refine wpAny_bind (wpAny_holding (wpAny_truthy_bool ?_))
      refine wpAny_bind (wpAny_letGo ?_)
      cases k with
      | true =>
        simp only [if_true]
        have hsz1 : g < s1.gens.size := by
          have q : (s1.setGen g gs').gens.size = s1.gens.size := setGen_size _ _ _
          have hsz' : g + 1 ≤ (s1.setGen g gs').gens.size := hsz
          omega
        refine wpAny_pure ⟨plainId_quiet F.plain_all_loop _, ih _ gs' (hgo _ (I2.pin (a, go) (List.mem_append_left _ hp)).1) I2.nolimit (setGen_at hsz1) ?_⟩
        exact qn (by decide) _ ⟨rfl, allBare_setGen I2.bare rfl, fun _ _ e => e⟩
      | false =>
        simp only [Bool.false_eq_true, if_false]
        exact wpAny_bind (wpAny_rule (wpAny_pure (hS _ H1 σ1 I2 (qs rfl))))
    · intro _
      exact wpAny_bind (wpAny_rule (wpAny_pure (hD _ H1 (inv_rest I1 ⟨rfl, allBare_setGen I1.bare rfl, hk⟩) q1)))
end
end Rf
end

section
set_option Elab.async false
set_option linter.all false
set_option maxRecDepth 100000
set_option maxHeartbeats 1000000
/-! all, any of a generator expression: the rules. -/
namespace Rf
open PySem PySem.Spec PyProof.Rows L2 GenW
theorem over_gen {A : Around} {elt tg iter : Expr} {ifs : List Expr} {scope : Scope} {pos : Pos} {it acc : Value} {env : PySem.Env} : A.over (.compLoop (.GeneratorExp elt [⟨tg, iter, ifs, 0⟩] scope pos) 0 it acc env) [] = A.deeper env := by
  first
    | rfl
    | (obtain ⟨hd, d, fr, gs, u⟩ := A; simp [Around.over, Around.deeper, marksOver, frameCount, unitsOf, envsOf, guardsOf, pushEnvs, pushGuards, Code.envs, Code.env?, Code.isFrame, Code.guards, Code.isGuard, Code.weight, Code.frames, Code.isCreation, Code.isCaller, Code.cUnits])
/-- the generator's contexts -/
def GenAll (X : Cx) (scope : Scope) (k : Nat) (R : Cx → Prop) : Prop := ∀ (s : Shared) (H : Hp) (cl : List (Str × Addr)) (C : Addr) (code : Value) (A : Around) (fp : List Addr) (pn : List (Addr × Obj)), Room k A → R (genCx X s H (genEnv scope cl C code builtinsNs X.env) A fp pn)
/-- a generator that can be asked -/
def GenIs (X : Cx) (pins : List (Addr × Obj)) (σ σw : L2.St) (st : Bool) (Qs Qd : Hp → Prop) (v : Value) (s : Shared) : Prop :=
  ∃ (Xg : Cx) (a g n : Nat) (gs : GenState) (go : Obj), v = .ref a ∧ Xg.prog = X.prog ∧ Xg.w = X.w ∧ (a, go) ∈ Xg.pn ∧ (∀ h : Heap, h.get? a = some go → h.IsGen a g) ∧ s.heap.IsGen a g ∧ s.heap.NoLimit ∧ s.gens[g]? = some gs ∧
    gs.Goes (model Xg.prog Xg.w) X.A.in1.in1 (qEnd Xg σw Qd) (qOut Xg st Qs) n (.send .none) (s.setGen g .running) ∧ ∀ s' H' σ', Inv Xg [] σ' H' s' → Inv X pins σ H' s'
def tQ (st : Bool) (P : Addr) (wi : TI) (g : TG) (tt : TT) (te : TE) (vs : List Nat) : TE := fun σ H Q => wi σ H fun J H1 => GxR.TabG H1 P ∧ ∀ H2, GxR.Tabbed P H1 H2 → ∃ W, (∃ m, W 0 m H2) ∧ QTurns st J g tt te vs σ (Q (.bl st)) (Q (.bl !st)) W
section
variable {X : Cx} {tg iter elt : Expr} {ifs : List Expr} {scope : Scope} {gpos : Pos} {own : List (Str × Nat)} {wi : TI} {g : TG} {tt : TT} {te : TE} {st : Bool} {c P : Addr} {k : Nat}
theorem gen_make {pins : List (Addr × Obj)} {σ : L2.St} {H : Hp} {s : Shared} {Q : VK} {Q' : Value → Shared → Prop} (hc : X.calm = true) (hN : X.N.Nodup) (hr : Room (k + 3) X.A) (TB : GxR.TabB X.base X.mg c P) (hcode : X.env.code = .ref c)
    (hco : scope.isCoroutine = false) (hcell : ∀ y ∈ scope.names, y.2 ≠ .cell) (hdot : scope.names.lookup (".0" : Str) = some NameKind.local) (h0 : (".0" : Str) ∉ X.N) (ok : BlkOk X.N X.env.scope scope own)
    (hi : PI X tg iter wi) (hs : ∀ v, genFold iter X.env v = pure v) (hg : GenAll X scope k fun Y => PG Y tg g) (ht : GenAll X scope k fun Y => PTs Y ifs tt) (he : GenAll X scope k fun Y => PE Y elt te)
    (I : Inv X pins σ H s) (h : tQ st P wi g tt te (own.map (·.2)) σ H Q) (hQ : ∀ v s5, GenIs X pins σ (wipe σ (own.map (·.2))) st (Q (.bl st)) (Q (.bl !st)) v s5 → Q' v s5) :
    wpAny (model X.prog X.w) X.A (eval (.GeneratorExp elt [⟨tg, iter, ifs, 0⟩] scope gpos) X.env) Q' X.xe s := by
  have hfree : ∀ y ∈ scope.names, y.2 = .free → ∃ c, X.env.cells.lookup y.1 = some c := fun y hy e => by
    rcases ok.free y hy e with k | k
    · exact I.ok.has _ (.inl k)
    · exact I.ok.has _ (.inr k)
  refine wpAny_GeneratorExp_make hco (closure_ok hfree) hcell hdot ok.kind hr.depth ?_ hs
  refine thn (hi.run pins s σ H _ I h) fun xv s1 hx => thn hx fun itv s2 h2 => ?_
  obtain ⟨it, fp, tn, J, H2, rfl, I2, T, st2, f2, ⟨ps, hP, ht3⟩, q⟩ := h2
  have hPs : s2.heap.get? P = some { cls := .none, data := .fields ps } := I2.hok P _ hP
  have hPlt : P < s2.heap.objs.size := Heap.lt_size hPs
  have cd : PySem.W.CodeHd s2.heap c P := TB.code.keeps fun b u e => I2.bk b u e
  have sz : ∀ b ∈ fp, b < s2.heap.objs.size := fun b hb => by
    obtain ⟨o, e, _⟩ := T.obj _ _ st2 b hb
    exact Heap.lt_size e
  have nP : ∀ b ∈ fp, b ≠ P := fun b hb e => by
    have := (f2 b hb).1
    rw [e, hP] at this
    cases this
  refine ⟨I2.nolimit, ?_⟩
  have cont : ∀ (code : Value) (h3 : Heap) (tk : Nat) (more : Array Value), Heap.ExtBut P s2.heap h3 → s2.heap.objs.size ≤ h3.objs.size → h3.get? P = some { cls := .none, data := .fields (ps ++ more) } → TriplesOk (ps ++ more).toList →
      wpAny (model X.prog X.w) X.A (builtinsFor X.env.globals X.env.builtins) (fun bi s₄ =>
        ∀ h', h'.Ns s₄.heap.objs.size (fun y => if y = ".0" then some (Value.ref it) else none) → Heap.SameBut s₄.heap.objs.size (s₄.heap.push { cls := .type "frame", data := .dict #[] }) h' →
          Q' (.ref h'.objs.size) { s₄ with
            gens := s₄.gens.push (.fresh (.compStart (.GeneratorExp elt [⟨tg, iter, ifs, 0⟩] scope gpos) 0 (.ref it) .none (genEnv scope (cloFrom X.env.cells scope.names []) s₄.heap.objs.size code bi X.env))),
            toks := s₄.toks + 1 + 1 + 1,
            heap := h'.push { cls := .type "generator", data := .fields #[.int s₄.gens.size 0, .str "<genexpr>" (s₄.toks + 1), .str (X.env.qual ++ "<genexpr>") (s₄.toks + 1 + 1)] } }) X.xe { s2 with heap := h3, toks := tk } := by
    intro code h3 tk more hx hsz hP3 htr
    have I3 := GxR.inv_tab (more := more) (h' := h3) (g' := s2.gens) (d' := s2.drawn) (t' := tk) I2 hP hx hP3 I2.bare
    obtain ⟨W, ⟨m, w⟩, QT⟩ := q (upd H2 P (.tbl (ps ++ more))) ⟨⟨_, upd_same, htr⟩, fun b hb => upd_ne hb⟩
    generalize hs3 : ({ s2 with heap := h3, toks := tk } : Shared) = s3
    have I3 : Inv X pins σ (upd H2 P (.tbl (ps ++ more))) s3 := by rw [← hs3]; exact I3
    have e3 : s3.heap = h3 := by rw [← hs3]
    generalize hH3 : upd H2 P (.tbl (ps ++ more)) = H3 at I3 w
    have f3 : ∀ b ∈ fp, FpOk X pins H3 b ∧ b < s3.heap.objs.size := fun b hb => by
      refine ⟨⟨?_, (f2 b hb).2⟩, by rw [e3]; exact Nat.lt_of_lt_of_le (sz b hb) hsz⟩
      rw [← hH3, upd_ne (nP b hb)]
      exact (f2 b hb).1
    have st3 : tn 0 s3.heap := T.keep _ _ _ st2 fun b hb o e => by rw [e3]; exact hx b o (nP b hb) e
    obtain ⟨bm, ob, e1, e2, e4', e4, e5, e6, e7, e8⟩ := TB.bm
    refine wpAny_builtinsFor (m := X.mg) (by rw [I3.ok.glob]; exact I3.mod.glob.keeps I3.bk) e1 e2 (I3.bk _ _ e5) e6 e7 e8 ?_
    intro h' hns hsb
    generalize hgo : ({ cls := .type "generator", data := .fields #[.int s3.gens.size 0, .str "<genexpr>" (s3.toks + 1), .str (X.env.qual ++ "<genexpr>") (s3.toks + 1 + 1)] } : Obj) = go
    generalize hcenv : genEnv scope (cloFrom X.env.cells scope.names []) s3.heap.objs.size code builtinsNs X.env = cenv
    have hgd : ∀ v, go.data ≠ .cell v := fun v e => by rw [← hgo] at e; cases e
    have hgs : (h'.push go).get? h'.objs.size = some go := Heap.get?_push_size _ (by rw [← hgo]; rfl)
    have hAf : (X.A.in1.in1.deeper cenv).frames = some (cenv :: X.stack) := by
      have := I3.ok.frames
      show pushEnvs [cenv] X.A.in1.in1.frames = _
      rw [show X.A.in1.in1.frames = X.A.frames from rfl, this]
      rfl
    have hbare : AllBare (s3.gens.push (.fresh (.compStart (.GeneratorExp elt [⟨tg, iter, ifs, 0⟩] scope gpos) 0 (.ref it) .none cenv))) := AllBare.push I3.bare rfl
    have I4 := gen_start (A := X.A.in1.in1.deeper cenv) (code := code) (tk := s3.toks + 1 + 1 + 1) I3 ok hN hcell h0 f3 (by rw [hcenv]; exact hAf) hr.hd hns hsb hgd hgs hbare
    rw [hcenv] at I4
    have hrA : Room k (X.A.in1.in1.deeper cenv) := hr.in1.in1.deeper cenv
    have hsz' : h'.objs.size = s3.heap.objs.size + 1 := hsb.1.trans (Heap.size_push ..)
    generalize hXg : genCx X s3 H3 cenv (X.A.in1.in1.deeper cenv) fp [(h'.objs.size, go)] = Xg at I4
    have pg : PG Xg tg g := by have := hg s3 H3 (cloFrom X.env.cells scope.names []) s3.heap.objs.size code _ fp [(h'.objs.size, go)] hrA; rw [hcenv, hXg] at this; exact this
    have pt : PTs Xg ifs tt := by have := ht s3 H3 (cloFrom X.env.cells scope.names []) s3.heap.objs.size code _ fp [(h'.objs.size, go)] hrA; rw [hcenv, hXg] at this; exact this
    have pe : PE Xg elt te := by have := he s3 H3 (cloFrom X.env.cells scope.names []) s3.heap.objs.size code _ fp [(h'.objs.size, go)] hrA; rw [hcenv, hXg] at this; exact this
    have hgI : ∀ h : Heap, h.get? h'.objs.size = some go → h.IsGen h'.objs.size s3.gens.size := fun h e => ⟨go, _, _, e, by rw [← hgo], by rw [← hgo], by rw [← hgo]⟩
    have hget : (s3.gens.push (.fresh (.compStart (.GeneratorExp elt [⟨tg, iter, ifs, 0⟩] scope gpos) 0 (.ref it) .none cenv)))[s3.gens.size]? = some (.fresh (.compStart (.GeneratorExp elt [⟨tg, iter, ifs, 0⟩] scope gpos) 0 (.ref it) .none cenv)) := by rw [Array.getElem?_push_size]
    generalize s3.gens.push (.fresh (.compStart (.GeneratorExp elt [⟨tg, iter, ifs, 0⟩] scope gpos) 0 (.ref it) .none cenv)) = G5 at I4 hbare hget ⊢
    refine hQ _ _ ⟨Xg, h'.objs.size, s3.gens.size, m + 1, _, go, rfl, by rw [← hXg]; rfl, by rw [← hXg]; rfl, by rw [← hXg]; exact List.mem_singleton.mpr rfl, hgI, hgI _ hgs, I4.nolimit, hget, ?_, ?_⟩
    · refine ⟨rfl, ?_⟩
      have henv : Xg.env = cenv := by rw [← hXg]; rfl
      rw [← henv]
      refine seg_first (Xg := Xg) (A := X.A.in1.in1) (st := st) (fp := fp) (tn := tn) (J := J) (g := g) (tt := tt) (te := te) (vs := own.map (·.2)) (σ := σ) (W := W) ?_ (by rw [← hXg]; exact hc) (by rw [← hXg]; rfl) (by rw [henv, ← hcenv]; exact hco) (by rw [← hXg]; rfl) (fun q hq hm => ?_) (by rw [← hXg]; exact T) pg pt pe QT m (m + 1) _ _ H3 (Nat.lt_succ_self _) w (inv_rest I4 (rest_gen hbare rfl)) ?_ (fun b hb => (f3 b hb).1.1)
      · rw [over_gen, henv, ← hXg]; rfl
      · rw [← hXg] at hq
        have hq : q = (h'.objs.size, go) := List.mem_singleton.mp hq
        rw [hq] at hm
        have := (f3 _ hm).2
        have hm' : h'.objs.size < s3.heap.objs.size := this
        omega
      · exact T.keep _ _ _ st3 fun b _ o e => Heap.get?_push_of_some _ ((hsb.2 b (Nat.ne_of_lt (Heap.lt_size e))).trans (Heap.get?_push_of_some _ e))
    · intro s' H' σ' I'
      rw [← hXg] at I'
      exact I3.call' (ch := fp) I'.os I'.base I'.hok I'.bare fun b hb => ⟨(f3 b hb).1.2.2.2.1, (f3 b hb).1.2.1, (f3 b hb).1.2.2.2.2.1, (f3 b hb).1.2.2.2.2.2⟩
  cases hf : codeAmong gpos ps.toList with
  | none =>
    refine wpAny_genexprCodeX hcode (cd.code hPs ht3) (cd.tab hPs) hf fun c' h' tk hx hge hlt hco' _ htab' _ => ?_
    obtain ⟨o1, vs, f1, tf, fl, tg, inF, tx, tt, op, _, _, _, _, _, _, _, _, _, htr, _⟩ := hco'
    exact cont _ h' tk _ hx (Nat.le_trans hge (Nat.le_of_lt hlt)) htab'.2 htr
  | some cv =>
    refine wpAny_genexprCode_hit hcode (cd.code hPs ht3) hf ?_
    exact cont cv s2.heap s2.toks #[] (Heap.ExtBut.refl _ _) (Nat.le_refl _) (by simpa using hPs) (by simpa using ht3)
end
end Rf
end

section
set_option Elab.async false
set_option linter.all false
set_option maxRecDepth 100000
set_option maxHeartbeats 1000000
/-! all, any of a generator expression: the rules, read by the evaluator. -/
namespace Rf
open PySem PySem.Spec PyProof.Rows L2 GenW
/-- the kit's two callers -/
structure IsQ (st : Bool) (x : Str) (b : String) : Prop where
  ask : (st = true ∧ x = ("any" : Str) ∧ b = "any") ∨ (st = false ∧ x = ("all" : Str) ∧ b = "all")
section
variable {X : Cx} {tg iter elt : Expr} {ifs : List Expr} {scope : Scope} {pp pos gpos : Pos} {own : List (Str × Nat)} {wi : TI} {g : TG} {tt : TT} {te : TE} {c P : Addr} {k : Nat}
theorem pe_any1 (hgl : Gl X "any") (hm : X.mg "any" = none) (hc : X.calm = true) (hN : X.N.Nodup) (hr : Room (k + 3) X.A) (TB : GxR.TabB X.base X.mg c P) (hcode : X.env.code = .ref c)
    (hco : scope.isCoroutine = false) (hcell : ∀ y ∈ scope.names, y.2 ≠ .cell) (hdot : scope.names.lookup (".0" : Str) = some NameKind.local) (h0 : (".0" : Str) ∉ X.N) (ok : BlkOk X.N X.env.scope scope own)
    (hi : PI X tg iter wi) (hs : ∀ v, genFold iter X.env v = pure v) (hg : GenAll X scope k fun Y => PG Y tg g) (ht : GenAll X scope k fun Y => PTs Y ifs tt) (he : GenAll X scope k fun Y => PE Y elt te)
    (hst : starEach [.GeneratorExp elt [⟨tg, iter, ifs, 0⟩] scope gpos] X.env = (false, eval (.GeneratorExp elt [⟨tg, iter, ifs, 0⟩] scope gpos) X.env) :: starEach [] X.env := by rfl) :
    PE X (.Call (.Name "any" pp) [.GeneratorExp elt [⟨tg, iter, ifs, 0⟩] scope gpos] [] pos) (tQ true P wi g tt te (own.map (·.2))) := by
  refine ⟨fun pins s σ H Q I h => ?_⟩
  refine wpAny_Call_Name_kw (ld_blt I hgl hm boot_any ?_)
  refine PyProof.Rows.callWith_builtin1 ?_ hst (by rfl)
  rw [hst]
  show wpAny _ _ (spliced ((false, eval (.GeneratorExp elt [⟨tg, iter, ifs, 0⟩] scope gpos) X.env) :: backTo pos (starEach [] X.env))) _ _ s
  refine Calls.spliced_cons (gen_make hc hN hr TB hcode hco hcell hdot h0 ok hi hs hg ht he I h fun v s5 ⟨Xg, a, g5, n, gs, go, ev, ep, ew, hp, hgo, hgen, hl, hgs, goes, back⟩ => ?_)
  subst ev
  refine Calls.spliced_nil ?_
  refine call_function_tree F.kind_any F.plain_any F.entry_any (F.args_any1 _) ?_
  unfold Builtin.«any»
  refine wpAny_bind (m := oneArg "any" _) (wpAny_pure ?_)
  refine wpAny_bind (wpAny_pyIter_gen hgen ?_)
  refine wpAny_pure ⟨plainId_quiet F.plain_any_loop _, ?_⟩
  rw [← ep, ← ew]
  exact ask_any (Xg := Xg) hr.hd hr.depth hp hgo (fun s' H' σ' I' q => ⟨.bl true, H', back _ _ _ I', rfl, q⟩) (fun s' H' I' q => ⟨.bl false, H', back _ _ _ I', rfl, q⟩) n s5 gs hgen hl hgs goes
theorem pe_all1 (hgl : Gl X "all") (hm : X.mg "all" = none) (hb : bootBuiltins "all" = some (.builtin "all")) (hc : X.calm = true) (hN : X.N.Nodup) (hr : Room (k + 3) X.A) (TB : GxR.TabB X.base X.mg c P) (hcode : X.env.code = .ref c)
    (hco : scope.isCoroutine = false) (hcell : ∀ y ∈ scope.names, y.2 ≠ .cell) (hdot : scope.names.lookup (".0" : Str) = some NameKind.local) (h0 : (".0" : Str) ∉ X.N) (ok : BlkOk X.N X.env.scope scope own)
    (hi : PI X tg iter wi) (hs : ∀ v, genFold iter X.env v = pure v) (hg : GenAll X scope k fun Y => PG Y tg g) (ht : GenAll X scope k fun Y => PTs Y ifs tt) (he : GenAll X scope k fun Y => PE Y elt te)
    (hst : starEach [.GeneratorExp elt [⟨tg, iter, ifs, 0⟩] scope gpos] X.env = (false, eval (.GeneratorExp elt [⟨tg, iter, ifs, 0⟩] scope gpos) X.env) :: starEach [] X.env := by rfl) :
    PE X (.Call (.Name "all" pp) [.GeneratorExp elt [⟨tg, iter, ifs, 0⟩] scope gpos] [] pos) (tQ false P wi g tt te (own.map (·.2))) := by
  refine ⟨fun pins s σ H Q I h => ?_⟩
  refine wpAny_Call_Name_kw (ld_blt I hgl hm hb ?_)
  refine PyProof.Rows.callWith_builtin1 ?_ hst (by rfl)
  rw [hst]
  show wpAny _ _ (spliced ((false, eval (.GeneratorExp elt [⟨tg, iter, ifs, 0⟩] scope gpos) X.env) :: backTo pos (starEach [] X.env))) _ _ s
  refine Calls.spliced_cons (gen_make hc hN hr TB hcode hco hcell hdot h0 ok hi hs hg ht he I h fun v s5 ⟨Xg, a, g5, n, gs, go, ev, ep, ew, hp, hgo, hgen, hl, hgs, goes, back⟩ => ?_)
  subst ev
  refine Calls.spliced_nil ?_
  refine call_function_tree F.kind_all F.plain_all F.entry_all (F.args_all1 _) ?_
  unfold Builtin.«all»
  refine wpAny_bind (m := oneArg "all" _) (wpAny_pure ?_)
  refine wpAny_bind (wpAny_pyIter_gen hgen ?_)
  refine wpAny_pure ⟨plainId_quiet F.plain_all_loop _, ?_⟩
  rw [← ep, ← ew]
  exact ask_all (Xg := Xg) hr.hd hr.depth hp hgo (fun s' H' σ' I' q => ⟨.bl false, H', back _ _ _ I', rfl, q⟩) (fun s' H' I' q => ⟨.bl true, H', back _ _ _ I', rfl, q⟩) n s5 gs hgen hl hgs goes
end
/-! ### by the evaluator -/
theorem qloop_cons {f : D → Om → R Bool} {x : D} {xs : List D} {b : Bool} {ω ω' : Om} (h : qloop f (x :: xs) ω = some (b, ω')) : ∃ b1 ω1, f x ω = some (b1, ω1) ∧ ((b1 = true ∧ b = true ∧ ω' = ω1) ∨ (b1 = false ∧ qloop f xs ω1 = some (b, ω'))) := by
  obtain ⟨b1, ω1, e1, h⟩ := of_bnd h
  refine ⟨b1, ω1, e1, ?_⟩
  cases b1 with
  | true => cases h; exact .inl ⟨rfl, rfl, rfl⟩
  | false => exact .inr ⟨rfl, h⟩
theorem nx_tab {M : Addr → Prop} {Z H H2 : Hp} {P : Addr} (z : ZOk Z H) (t : GxR.TabG H P) (g : GxR.Tabbed P H H2) : Nx M Z H Z H2 := by
  obtain ⟨ps, e, tr⟩ := t
  obtain ⟨⟨ps2, e2, tr2⟩, k⟩ := g
  have ne : ∀ a o, H a = some o → notTbl o = true → a ≠ P := fun a o ea t q => by rw [q, e] at ea; cases ea; cases t
  refine ⟨Le.refl _, fun a o ea => ?_, fun a o ea => .inl ea, fun a o ea => ?_, fun a o ea _ t => ?_, fun a qs ea ta => ?_⟩
  · obtain ⟨h1, h2⟩ := z a o ea
    exact ⟨by rw [k a (ne a o h1 h2)]; exact h1, h2⟩
  · by_cases q : a = P
    · exact ⟨_, by rw [q]; exact e2⟩
    · exact ⟨o, by rw [k a q]; exact ea⟩
  · rw [k a (ne a o ea t)]; exact ea
  · by_cases q : a = P
    · exact ⟨ps2, by rw [q]; exact e2, tr2⟩
    · exact ⟨qs, by rw [k a q]; exact ea, ta⟩
theorem q_read {K : PySem.W.Frag} {p : Par} {st b qt : Bool} {P : Addr} {t : ITg} {src : ISrc} {cs : IEs} {ie : IE} {vs : List Nat} {σ : L2.St} {Z H : Hp} {ρ : Env} {ω ω' : Om} {fp : Fp} (hP : P ∈ p.tbs) (hvs : vs = slotsT t) (hos : ∀ x ∈ p.os, x.1 ∉ slotsT t) (hq : qt = true → src.quiet = true ∧ cs.quiet = true ∧ ie.quiet = true) (S : Sta K p.ad p.tbs p.os σ Z H ρ ω fp)
    (e1 : evq p.O st (.cons t src cs .nil) (fun ρ' ω' => bnd (ev p.O ie ρ' ω') fun d ω2 => match d with
      | .bl b => ret b ω2
      | _ => none) (wipeE ρ vs) ω = some (b, ω')) {Q : VK} (hQ : ∀ Z' H' fp', Step K p.ad p.os qt σ Z H ω fp Z' H' ω' fp' → Q (.bl (b == st)) H') :
    tQ st P (iS K p src) (gT K t) (tCs K p cs) (tE K p ie .z) vs σ H Q := by
  subst hvs
  obtain ⟨items, ω1, e2, e3⟩ := of_bnd e1
  have hw := opos_wipe (σ := σ) hos
  have hw' : ∀ x ∈ p.os, σ[x.1]? = (wipe σ (slotsT t))[x.1]? := fun x hx => (hw x hx).symm
  refine ⟨Z, wipeE ρ (slotsT t), ω, fp, items, ω1, S.env (S.fz.less _) fun _ _ => rfl, e2, fun J Z1 H1 fp1 T1 jw => ⟨(T1.sta S).tb P hP, fun H2 tb => ?_⟩⟩
  have Sw : Sta K p.ad p.tbs p.os (wipe σ (slotsT t)) Z H (wipeE ρ (slotsT t)) ω fp := S.env (S.fz.wipe _) hw
  have T1w := (T1.slots hw).to (q' := qt) fun h => (hq h).1
  have T2 : Step K p.ad p.os true (wipe σ (slotsT t)) Z1 H1 ω1 fp1 Z1 H2 ω1 fp1 := Sta.nw (T1w.sta Sw) (nx_tab (T1w.sta Sw).zok ((T1w.sta Sw).tb P hP) tb)
  have T12 := T1w.trans T2
  rw [Bool.and_true] at T12
  generalize hF : (fun d ω2 => match bindT t d (wipeE ρ (slotsT t)) with
    | none => none
    | some ρ2 => bnd (evc p.O cs ρ2 ω2) fun b ω3 => if b then evq p.O st .nil (fun ρ' ω' => bnd (ev p.O ie ρ' ω') fun d ω2 => match d with
      | .bl b => ret b ω2
      | _ => none) ρ2 ω3 else ret false ω3 : D → Om → R Bool) = F at e3
  refine ⟨fun i m H5 => m = items.length - i ∧ i ≤ items.length ∧ ∃ ωi Z5 fp5, qloop F (items.drop i) ωi = some (b, ω') ∧ Step K p.ad p.os qt (wipe σ (slotsT t)) Z H ω fp Z5 H5 ωi fp5 ∧ Le Z1 Z5, ⟨items.length, by simp, Nat.zero_le _, ω1, Z1, fp1, e3, T12, Le.refl _⟩, ?_⟩
  rintro i m H5 ⟨rfl, hi, ωi, Z5, fp5, eq, T5, l5⟩
  have S5 := T5.sta Sw
  by_cases hlt : i < items.length
  · right
    obtain ⟨dx, ex, edrop⟩ := drop_get hlt
    rw [edrop] at eq
    obtain ⟨b1, ωn, ef, er⟩ := qloop_cons eq
    obtain ⟨go, yld⟩ := (jw i Z5 H5 l5 S5.zok).1 dx ex
    refine ⟨go, fun H6 => i + 1 ≤ items.length ∧ ∃ ωi Z5 fp5, qloop F (items.drop (i + 1)) ωi = some (b, ω') ∧ Step K p.ad p.os qt (wipe σ (slotsT t)) Z H ω fp Z5 H6 ωi fp5 ∧ Le Z1 Z5, fun H6 h6 => ⟨items.length - (i + 1), by omega, rfl, h6⟩, fun x H6 hy => ?_⟩
    obtain ⟨Z6, n6, r6⟩ := yld x H6 hy
    have U6 : Step K p.ad p.os true (wipe σ (slotsT t)) Z5 H5 ωi fp5 Z6 H6 ωi fp5 := Sta.nw S5 n6
    have T6 := T5.trans U6
    rw [Bool.and_true] at T6
    have l6 := l5.trans n6.zz
    rw [← hF] at ef
    refine clause_read (T6.sta Sw) (fun i hi => hi) hos wipe_wipe r6 ef fun σ2 ρ2 b2 Z7 H7 ω7 fp7 _ hwp ho2 T7 S7 ek => ?_
    have T7' := T7.slots (σ' := wipe σ (slotsT t)) fun y hy => (ho2 y hy).symm
    have T8 := (T6.trans T7').to (q' := qt) fun h => by rw [h, (hq h).2.1]; rfl
    have l7 := l6.trans T7.nx.zz
    cases b2 with
    | false =>
      rw [if_neg (by decide)] at ek ⊢
      cases ek
      rcases er with ⟨h, _⟩ | ⟨_, er⟩
      · cases h
      · exact ⟨hlt, _, Z7, fp7, er, T8, l7⟩
    | true =>
      rw [if_pos rfl] at ek ⊢
      obtain ⟨kb, ω8, ek, ek2⟩ := of_bnd ek
      cases ek2
      obtain ⟨d, ω9, e9, ek⟩ := of_bnd ek
      cases d with
      | bl kb' =>
        cases ek
        refine ⟨Z7, ρ2, ω7, fp7, .bl kb, _, S7, e9, fun y Z9 H9 fp9 g9 T9 w9 N9 => ?_⟩
        have T9' := T9.slots (σ' := wipe σ (slotsT t)) fun y hy => (ho2 y hy).symm
        have T10 := (T8.trans T9').to (q' := qt) fun h => by rw [h, (hq h).2.2]; rfl
        cases w9 with
        | z r9 =>
          cases r9
          refine ⟨kb, rfl, fun hk => ?_, fun hk => ?_⟩
          · subst hk
            rcases er with ⟨_, rfl, rfl⟩ | ⟨h, _⟩
            · have := hQ Z9 H9 fp9 (T10.slots hw')
              rwa [show (true == kb) = kb by cases kb <;> rfl] at this
            · rw [beq_self_eq_true] at h; cases h
          · rcases er with ⟨h, _⟩ | ⟨_, er⟩
            · exact absurd (by simpa using h) hk
            · exact ⟨hlt, _, Z9, fp9, er, T10, l7.trans T9.nx.zz⟩
      | _ => cases ek
  · left
    have hi' : i = items.length := by omega
    subst hi'
    rw [List.drop_length] at eq
    cases eq
    refine ⟨(jw _ Z5 H5 l5 S5.zok).2 rfl, ?_⟩
    have := hQ Z5 H5 fp5 (T5.slots hw')
    rwa [show (false == st) = !st by cases st <;> rfl] at this
end Rf
end

section
set_option Elab.async false
set_option linter.all false
set_option maxRecDepth 100000
set_option maxHeartbeats 1000000
/-! What is known of a frame ahead of a run; comprehensions and generator expressions as expressions. -/
namespace Rf
open PySem PySem.Spec PyProof.Rows L2
/-- a frame: its slots, its names, its owned variables; gen: a generator expression may stand in it -/
structure Sf where
  N : List Str
  nm : List (Str × NameKind)
  os : Osl
  gen : Bool
structure CtxOk (G : Gst) (L : Nat) (t : Sf) (X : Cx) (p : Par) : Prop where
  g : GOk G p.ad p.tbs p.O L X.prog X.w X.K X.mg X.base
  N : X.N = t.N
  nm : X.env.scope.names = t.nm
  kd : X.env.scope.kind = .function
  nd : t.N.Nodup
  calm : X.calm = true
  os : p.os = t.os
  rm : Room (L + 1 + (if t.gen = true then 3 else 0)) X.A
  gen : t.gen = true → ∃ c P, X.env.code = .ref c ∧ GxR.TabB X.base X.mg c P ∧ P ∈ p.tbs
theorem CtxOk.room {G : Gst} {L : Nat} {t : Sf} {X : Cx} {p : Par} (c : CtxOk G L t X p) : Room (L + 1) X.A := c.rm.mono (Nat.le_add_right _ _)
/-- names, as a block sees them -/
def relN (nm names : List (Str × NameKind)) : List (Str × NameKind) := names.map fun (n, k) => if (k == .free && nm.lookup n == some .cell) then (n, .cell) else (n, k)
def Sf.blk (t : Sf) (scope : Scope) : Sf := { t with nm := relN t.nm scope.names }
def Sf.gex (t : Sf) (scope : Scope) : Sf := { t with nm := scope.names, gen := false }
abbrev BlkAll (X : Cx) (scope : Scope) (R : Cx → Prop) : Prop := ∀ (s : Shared) (H : Hp) (C : Addr) (cl : List (Str × Addr)) (fp : List Addr), R (X.blk s H scope (compEnvC scope cl C X.env) fp)
section
variable {G : Gst} {L : Nat} {t : Sf} {X : Cx} {p : Par}
theorem CtxOk.blk (c : CtxOk G L t X p) {scope : Scope} (hk : scope.kind = .function) : BlkAll X scope fun Y => CtxOk G L (t.blk scope) Y p := fun s H C cl fp => by
  refine ⟨c.g, c.N, ?_, ?_, c.nd, c.calm, c.os, c.rm, c.gen⟩
  · show (scope.names.map fun (n, k) => if (k == NameKind.free && X.env.scope.kind == .function && X.env.scope.names.lookup n == some .cell) = true then (n, NameKind.cell) else (n, k)) = relN t.nm scope.names
    unfold relN
    rw [c.nm, c.kd]
    simp
  · exact hk
theorem CtxOk.gex (c : CtxOk G L t X p) (hg : t.gen = true) {scope : Scope} (hk : scope.kind = .function) : GenAll X scope (L + 1) fun Y => CtxOk G L (t.gex scope) Y p := fun s H cl C code A fp pn hr =>
  ⟨c.g, c.N, rfl, hk, c.nd, c.calm, c.os, hr, fun h => by cases h⟩
/-- a name that can be stored -/
structure CanSet (X : Cx) (x : Str) : Prop where
  loc : Loc X.env.scope x
  fn : X.fn x = true ∨ X.env.scope.names.lookup x = some .local
theorem canSet_blk {scope : Scope} {x : Str} (h : scope.names.lookup x = some .local ∨ scope.names.lookup x = some .cell) : BlkAll X scope fun Y => CanSet Y x := fun s H C cl fp => by
  rcases h with h | h
  · have q : (relabel scope X.env).names.lookup x = some .local := lookup_relS_keep (by decide) h
    exact ⟨.inl q, .inr q⟩
  · have q : (relabel scope X.env).names.lookup x = some .cell := lookup_relS_keep (by decide) h
    refine ⟨.inr q, .inl ?_⟩
    show (scope.names.lookup x == some .cell) = true
    rw [h]; rfl
theorem canSet_gex {scope : Scope} {k : Nat} {x : Str} (h : scope.names.lookup x = some .local) : GenAll X scope k fun Y => CanSet Y x := fun s H cl C code A fp pn hr => ⟨.inl h, .inr h⟩
/-! ### targets -/
def nmOf : Expr → Str
  | .Name x _ => x
  | _ => ""
def isNm : Expr → Bool
  | .Name _ _ => true
  | _ => false
/-- a target's names with their slots -/
def ownT : Expr → ITg → List (Str × Nat)
  | .Tuple es _ _, .many is => (es.map nmOf).zip is
  | e, .one i => [(nmOf e, i)]
  | _, _ => []
/-- .. it is of this form -/
def okTg (N : List Str) : Expr → ITg → Bool
  | .Tuple es _ _, .many is => es.all isNm && (es.length == is.length) && (is.length != 0) && ((es.map nmOf).zip is).all fun y => decide (N[y.2]? = some y.1)
  | .Name x _, .one i => decide (N[i]? = some x)
  | _, _ => false
theorem ownT_slots {N : List Str} {e : Expr} {tg : ITg} (h : okTg N e tg = true) : (ownT e tg).map (·.2) = slotsT tg := by
  cases tg with
  | one i => cases e <;> first | rfl | cases h
  | many is =>
    cases e with
    | Tuple es k pos =>
      simp only [okTg, Bool.and_eq_true, beq_iff_eq] at h
      show ((es.map nmOf).zip is).map (·.2) = is
      rw [List.map_snd_zip]
      rw [List.length_map, h.1.1.2]
      exact Nat.le_refl _
    | _ => cases h
theorem each_names {env : PySem.Env} : ∀ {es : List Expr}, es.all isNm = true → (assignEach es env).length = es.length ∧ (assignEach es env).findIdx? (·.1) = none
  | [], _ => ⟨rfl, rfl⟩
  | e :: es, h => by
    rw [List.all_cons, Bool.and_eq_true] at h
    obtain ⟨a, b⟩ := each_names (env := env) h.2
    cases e with
    | Name x pos =>
      refine ⟨?_, ?_⟩
      · show (assignEach es env).length + 1 = es.length + 1
        rw [a]
      · show ((false, _) :: assignEach es env).findIdx? (·.1) = none
        rw [List.findIdx?_cons, b]
        rfl
    | _ => cases h.1
theorem pgs_names {X : Cx} (hN : X.N.Nodup) : ∀ {es : List Expr} {is : List Nat}, es.all isNm = true → es.length = is.length → (∀ y ∈ (es.map nmOf).zip is, X.N[y.2]? = some y.1 ∧ CanSet X y.1) → PGs X es (gSets is)
  | [], [], _, _, _ => pgs_nil
  | [], _ :: _, _, h, _ => by cases h
  | _ :: _, [], _, h, _ => by cases h
  | e :: es, i :: is, ha, hl, h => by
    rw [List.all_cons, Bool.and_eq_true] at ha
    have ih := pgs_names hN ha.2 (by simpa using hl) fun y hy => h y (List.mem_cons_of_mem _ hy)
    cases e with
    | Name x pos =>
      obtain ⟨h1, h2⟩ := h (x, i) List.mem_cons_self
      exact pgs_cons (pg_name hN h1 h2.loc h2.fn) ih rfl
    | _ => cases ha.1
theorem pg_tg {X : Cx} {e : Expr} {tg : ITg} (hc : X.calm = true) (hN : X.N.Nodup) (h : okTg X.N e tg = true) (hs : ∀ y ∈ ownT e tg, CanSet X y.1) : PG X e (gT X.K tg) := by
  cases tg with
  | one i =>
    cases e with
    | Name x pos =>
      have h1 : X.N[i]? = some x := by simpa [okTg] using h
      have h2 := hs (x, i) List.mem_cons_self
      exact pg_name hN h1 h2.loc h2.fn
    | _ => cases h
  | many is =>
    cases e with
    | Tuple es k pos =>
      simp only [okTg, Bool.and_eq_true, beq_iff_eq, List.all_eq_true (p := fun y : Str × Nat => decide (X.N[y.2]? = some y.1)), decide_eq_true_eq] at h
      obtain ⟨⟨⟨h1, h2⟩, h3⟩, h4⟩ := h
      have q := each_names (env := X.env) h1
      exact pg_tup hc (pgs_names hN h1 h2 fun y hy => ⟨h4 y hy, hs y hy⟩) (by rw [q.1, h2]) q.2
    | _ => cases h
/-! ### what is walked is no display of constants -/
def plainIter : Expr → Bool
  | .Set _ _ _ | .List _ _ => false
  | _ => true
theorem iter_set {e : Expr} (h : plainIter e = true) (env : PySem.Env) (x : Value) : foldedSetIterable e env x = pure x := by
  cases e <;> first | rfl | cases h
theorem iter_gen {e : Expr} (h : plainIter e = true) (env : PySem.Env) (x : Value) : genFold e env x = pure x := by
  cases e <;> first | rfl | cases h
end
/-! ### the block of a clause -/
def blkN (N : List Str) (nm : List (Str × NameKind)) (scope : Scope) (own : List (Str × Nat)) : Bool :=
  (match scope.kind with | .function => true | _ => false) && (scope.names.all fun y => decide (scope.names.lookup y.1 = some y.2)) && (own.all fun p => decide (N[p.2]? = some p.1)) &&
    (scope.names.all fun y => match y.2 with
      | .free => (match nm.lookup y.1 with | some .cell => true | some .free => true | _ => false)
      | .local | .cell => decide (y.1 ∈ own.map (·.1)) || decide (y.1 ∉ N)
      | _ => true)
theorem blkN_ok {N : List Str} {sc scope : Scope} {own : List (Str × Nat)} (h : blkN N sc.names scope own = true) : BlkOk N sc scope own := by
  unfold blkN at h
  simp only [Bool.and_eq_true, List.all_eq_true, decide_eq_true_eq] at h
  obtain ⟨⟨⟨h1, h2⟩, h3⟩, h4⟩ := h
  refine ⟨?_, h2, h3, fun y hy e => ?_, fun y hy e => ?_⟩
  · split at h1
    · assumption
    · cases h1
  · have q := h4 y hy
    simp only [e] at q
    split at q <;> first | exact .inl (by assumption) | exact .inr (by assumption) | cases q
  · have q := h4 y hy
    rcases e with e | e <;> (simp only [e, Bool.or_eq_true, decide_eq_true_eq] at q; exact q)
def setB (scope : Scope) (own : List (Str × Nat)) : Bool := own.all fun y => match scope.names.lookup y.1 with
  | some .local => true
  | some .cell => true
  | _ => false
theorem setB_ok {scope : Scope} {own : List (Str × Nat)} (h : setB scope own = true) : ∀ y ∈ own, scope.names.lookup y.1 = some .local ∨ scope.names.lookup y.1 = some .cell := fun y hy => by
  have q := List.all_eq_true.mp h y hy
  split at q
  · exact .inl (by assumption)
  · exact .inr (by assumption)
  · cases q
def genB (N : List Str) (scope : Scope) (own : List (Str × Nat)) : Bool := (!scope.isCoroutine) && (scope.names.all fun y => match y.2 with | .cell => false | _ => true) && decide (scope.names.lookup (".0" : Str) = some NameKind.local) && decide ((".0" : Str) ∉ N) && own.all fun y => decide (scope.names.lookup y.1 = some NameKind.local)
theorem genB_ok {N : List Str} {scope : Scope} {own : List (Str × Nat)} (h : genB N scope own = true) : scope.isCoroutine = false ∧ (∀ y ∈ scope.names, y.2 ≠ .cell) ∧ scope.names.lookup (".0" : Str) = some NameKind.local ∧ (".0" : Str) ∉ N ∧ ∀ y ∈ own, scope.names.lookup y.1 = some .local := by
  unfold genB at h
  simp only [Bool.and_eq_true, decide_eq_true_eq, Bool.not_eq_true', List.all_eq_true] at h
  obtain ⟨⟨⟨⟨h1, h2⟩, h3⟩, h4⟩, h5⟩ := h
  refine ⟨h1, fun y hy e => ?_, h3, h4, h5⟩
  have q := h2 y hy
  rw [e] at q
  cases q
def apartO (os : Osl) (is : List Nat) : Bool := os.all fun x => decide (x.1 ∉ is)
theorem apartO_ok {os : Osl} {is : List Nat} (h : apartO os is = true) : ∀ x ∈ os, x.1 ∉ is := fun x hx => by simpa using List.all_eq_true.mp h x hx
section
variable {G : Gst} {L : Nat} {t : Sf} {X : Cx} {p : Par} {elt tg iter tg1 iter1 kx vx : Expr} {ifs ifs1 : List Expr} {scope : Scope} {pos pp gpos : Pos} {it it1 : ITg} {src src1 : ISrc} {cs cs1 : IEs} {ie ik : IE} {sh : Sh}
/-- a clause's static part -/
structure ClOk (t : Sf) (scope : Scope) (own : List (Str × Nat)) (tg iter : Expr) (it : ITg) : Prop where
  okt : okTg t.N tg it = true
  own : ∀ y ∈ ownT tg it, y ∈ own
  ap : apartO t.os (slotsT it) = true
  pl : plainIter iter = true
theorem fe_lc1 (c : CtxOk G L t X p) (hb : blkN t.N t.nm scope (ownT tg it) = true) (hs : setB scope (ownT tg it) = true) (k : ClOk t scope (ownT tg it) tg iter it)
    (hi : SI X p tg iter src) (ht : BlkAll X scope fun Y => PTs Y ifs (tCs Y.K p cs)) (he : BlkAll X scope fun Y => FE Y p elt ie sh) : FE X p (.ListComp elt [⟨tg, iter, ifs, 0⟩] scope pos) (.lc ie (.cons it src cs .nil)) (.l sh) := fun σ Z H ρ ω fp d ω' S hv Q hQ pins s I => by
  have ok : BlkOk X.N X.env.scope scope (ownT tg it) := blkN_ok (by rw [c.N, c.nm]; exact hb)
  have hN : X.N.Nodup := by rw [c.N]; exact c.nd
  refine (pe_lc (g := gT X.K it) (tt := tCs X.K p cs) (te := tE X.K p ie sh) c.calm hN hi ok (fun s H C cl fp => pg_tg (X := X.blk s H scope (compEnvC scope cl C X.env) fp) c.calm hN (by show okTg X.N tg it = true; rw [c.N]; exact k.okt) fun y hy => canSet_blk (setB_ok hs y hy) s H C cl fp) ht (fun s H C cl fp => (he s H C cl fp).tE) (iter_set k.pl _)).run pins s σ H Q I ?_
  exact lc_read (ownT_slots k.okt) (by rw [c.os]; exact apartO_ok k.ap) S hv hQ
theorem fe_lc2 (c : CtxOk G L t X p) {own : List (Str × Nat)} (eo : own = ownT tg it ++ ownT tg1 it1) (hb : blkN t.N t.nm scope own = true) (hs : setB scope own = true) (k : ClOk t scope own tg iter it) (k1 : ClOk t scope own tg1 iter1 it1) (hd : (slotsT it1).all (fun i => decide (i ∉ slotsT it)) = true)
    (hi : SI X p tg iter src) (ht : BlkAll X scope fun Y => PTs Y ifs (tCs Y.K p cs)) (hi1 : BlkAll X scope fun Y => SI Y p tg1 iter1 src1) (ht1 : BlkAll X scope fun Y => PTs Y ifs1 (tCs Y.K p cs1)) (he : BlkAll X scope fun Y => FE Y p elt ie sh) :
    FE X p (.ListComp elt [⟨tg, iter, ifs, 0⟩, ⟨tg1, iter1, ifs1, 0⟩] scope pos) (.lc ie (.cons it src cs (.cons it1 src1 cs1 .nil))) (.l sh) := fun σ Z H ρ ω fp d ω' S hv Q hQ pins s I => by
  have ok : BlkOk X.N X.env.scope scope own := blkN_ok (by rw [c.N, c.nm]; exact hb)
  have hN : X.N.Nodup := by rw [c.N]; exact c.nd
  have es : own.map (·.2) = slotsT it ++ slotsT it1 := by rw [eo, List.map_append, ownT_slots k.okt, ownT_slots k1.okt]
  have g : ∀ {tg iter : Expr} {it : ITg}, ClOk t scope own tg iter it → BlkAll X scope fun Y => PG Y tg (gT Y.K it) := fun {tg iter it} k s H C cl fp => pg_tg (X := X.blk s H scope (compEnvC scope cl C X.env) fp) c.calm hN (by show okTg X.N tg it = true; rw [c.N]; exact k.okt) fun y hy => canSet_blk (setB_ok hs y (k.own y hy)) s H C cl fp
  refine (pe_lc2 (vs1 := slotsT it1) (g := gT X.K it) (tt := tCs X.K p cs) (g1 := gT X.K it1) (tt1 := tCs X.K p cs1) (wi1 := iS X.K p src1) (te := tE X.K p ie sh) c.calm hN hi ok (fun i hi => by rw [es]; exact List.mem_append_right _ hi) (g k) ht hi1 (g k1) ht1 (fun s H C cl fp => (he s H C cl fp).tE) (iter_set k.pl _) (iter_set k1.pl)).run pins s σ H Q I ?_
  exact lc2_read es (by rw [c.os]; exact apartO_ok k.ap) (by rw [c.os]; exact apartO_ok k1.ap) (fun i hi => by simpa using List.all_eq_true.mp hd i hi) S hv hQ
theorem fe_dc1 (c : CtxOk G L t X p) (hb : blkN t.N t.nm scope (ownT tg it) = true) (hs : setB scope (ownT tg it) = true) (k : ClOk t scope (ownT tg it) tg iter it)
    (hi : SI X p tg iter src) (ht : BlkAll X scope fun Y => PTs Y ifs (tCs Y.K p cs)) (hk : BlkAll X scope fun Y => FE Y p kx ik .z) (he : BlkAll X scope fun Y => FE Y p vx ie sh) : FE X p (.DictComp kx vx [⟨tg, iter, ifs, 0⟩] scope pos) (.dc false ik ie (.cons it src cs .nil)) (.d sh) := fun σ Z H ρ ω fp d ω' S hv Q hQ pins s I => by
  have ok : BlkOk X.N X.env.scope scope (ownT tg it) := blkN_ok (by rw [c.N, c.nm]; exact hb)
  have hN : X.N.Nodup := by rw [c.N]; exact c.nd
  refine (pe_dc (g := gT X.K it) (tt := tCs X.K p cs) (tk := tE X.K p ik .z) (tv := tE X.K p ie sh) c.calm hN hi ok (fun s H C cl fp => pg_tg (X := X.blk s H scope (compEnvC scope cl C X.env) fp) c.calm hN (by show okTg X.N tg it = true; rw [c.N]; exact k.okt) fun y hy => canSet_blk (setB_ok hs y hy) s H C cl fp) ht (fun s H C cl fp => (hk s H C cl fp).tE) (fun s H C cl fp => (he s H C cl fp).tE) (iter_set k.pl _)).run pins s σ H Q I ?_
  exact dc_read (ownT_slots k.okt) (by rw [c.os]; exact apartO_ok k.ap) S hv hQ
/-- all, any -/
theorem se_qan (c : CtxOk G L t X p) (hgen : t.gen = true) (hgl : Gl X "any") (hm : X.mg "any" = none) (hb : blkN t.N t.nm scope (ownT tg it) = true) (hs : genB t.N scope (ownT tg it) = true) (k : ClOk t scope (ownT tg it) tg iter it)
    (hi : SI X p tg iter src) (ht : GenAll X scope (L + 1) fun Y => PTs Y ifs (tCs Y.K p cs)) (he : GenAll X scope (L + 1) fun Y => SE Y p elt ie) : SE X p (.Call (.Name "any" pp) [.GeneratorExp elt [⟨tg, iter, ifs, 0⟩] scope gpos] [] pos) (.qan ie (.cons it src cs .nil)) := fun σ Z H ρ ω fp d ω' S hv Q hQ pins s I => by
  have ok : BlkOk X.N X.env.scope scope (ownT tg it) := blkN_ok (by rw [c.N, c.nm]; exact hb)
  have hN : X.N.Nodup := by rw [c.N]; exact c.nd
  obtain ⟨cc, P, hcode, TB, hP⟩ := c.gen hgen
  obtain ⟨g1, g2, g3, g4, g5⟩ := genB_ok hs
  have hr : Room (L + 1 + 3) X.A := by have := c.rm; rw [if_pos hgen] at this; exact this
  refine (pe_any1 (g := gT X.K it) (tt := tCs X.K p cs) (te := tE X.K p ie .z) hgl hm c.calm hN hr TB hcode g1 g2 g3 (by rw [c.N]; exact g4) ok hi (iter_gen k.pl _) (fun s H cl C code A fp pn hA => pg_tg (X := genCx X s H (genEnv scope cl C code builtinsNs X.env) A fp pn) c.calm hN (by show okTg X.N tg it = true; rw [c.N]; exact k.okt) fun y hy => canSet_gex (k := L + 1) (g5 y hy) s H cl C code A fp pn hA) ht
    (fun s H cl C code A fp pn hA => (FE.of (he s H cl C code A fp pn hA)).tE)).run pins s σ H Q I ?_
  obtain ⟨b, ω1, e1, e2⟩ := of_bnd hv
  cases e2
  have esl : slotsG (.cons it src cs .nil) = slotsT it := by simp [slotsG]
  rw [esl] at e1
  refine q_read (qt := (IE.qan ie (.cons it src cs .nil)).quiet) hP (ownT_slots k.okt) (by rw [c.os]; exact apartO_ok k.ap) (fun h => ?_) S (by rw [ownT_slots k.okt]; exact e1) fun Z' H' fp' T => ?_
  · have h : (ie.quiet && (src.quiet && cs.quiet && true)) = true := h
    simp only [Bool.and_eq_true, and_true] at h
    exact ⟨h.2.1, h.2.2, h.1⟩
  · rw [show (b == true) = b by cases b <;> rfl]
    exact hQ (.bl b) Z' H' fp' T (.bl b)
theorem se_qal (c : CtxOk G L t X p) (hgen : t.gen = true) (hgl : Gl X "all") (hm : X.mg "all" = none) (hbt : bootBuiltins "all" = some (.builtin "all")) (hb : blkN t.N t.nm scope (ownT tg it) = true) (hs : genB t.N scope (ownT tg it) = true) (k : ClOk t scope (ownT tg it) tg iter it)
    (hi : SI X p tg iter src) (ht : GenAll X scope (L + 1) fun Y => PTs Y ifs (tCs Y.K p cs)) (he : GenAll X scope (L + 1) fun Y => SE Y p elt ie) : SE X p (.Call (.Name "all" pp) [.GeneratorExp elt [⟨tg, iter, ifs, 0⟩] scope gpos] [] pos) (.qal ie (.cons it src cs .nil)) := fun σ Z H ρ ω fp d ω' S hv Q hQ pins s I => by
  have ok : BlkOk X.N X.env.scope scope (ownT tg it) := blkN_ok (by rw [c.N, c.nm]; exact hb)
  have hN : X.N.Nodup := by rw [c.N]; exact c.nd
  obtain ⟨cc, P, hcode, TB, hP⟩ := c.gen hgen
  obtain ⟨g1, g2, g3, g4, g5⟩ := genB_ok hs
  have hr : Room (L + 1 + 3) X.A := by have := c.rm; rw [if_pos hgen] at this; exact this
  refine (pe_all1 (g := gT X.K it) (tt := tCs X.K p cs) (te := tE X.K p ie .z) hgl hm hbt c.calm hN hr TB hcode g1 g2 g3 (by rw [c.N]; exact g4) ok hi (iter_gen k.pl _) (fun s H cl C code A fp pn hA => pg_tg (X := genCx X s H (genEnv scope cl C code builtinsNs X.env) A fp pn) c.calm hN (by show okTg X.N tg it = true; rw [c.N]; exact k.okt) fun y hy => canSet_gex (k := L + 1) (g5 y hy) s H cl C code A fp pn hA) ht
    (fun s H cl C code A fp pn hA => (FE.of (he s H cl C code A fp pn hA)).tE)).run pins s σ H Q I ?_
  obtain ⟨b, ω1, e1, e2⟩ := of_bnd hv
  cases e2
  have esl : slotsG (.cons it src cs .nil) = slotsT it := by simp [slotsG]
  rw [esl] at e1
  refine q_read (qt := (IE.qal ie (.cons it src cs .nil)).quiet) hP (ownT_slots k.okt) (by rw [c.os]; exact apartO_ok k.ap) (fun h => ?_) S (by rw [ownT_slots k.okt]; exact e1) fun Z' H' fp' T => ?_
  · have h : (ie.quiet && (src.quiet && cs.quiet && true)) = true := h
    simp only [Bool.and_eq_true, and_true] at h
    exact ⟨h.2.1, h.2.2, h.1⟩
  · rw [show (b == false) = !b by cases b <;> rfl]
    exact hQ (.bl (!b)) Z' H' fp' T (.bl (!b))
end
end Rf
end

section
set_option Elab.async false
set_option linter.all false
set_option maxRecDepth 100000
set_option maxHeartbeats 4000000
/-! sorted(set(xs)), xs a list of texts. -/
namespace Rf
open PySem PySem.Spec PyProof.Rows L2 PySem.Froz
section
variable {P : Program} {w : World} {A : Around} {E : Value → Shared → Prop} {s : Shared}
theorem tail_ris {ep : Nat} {es : Array (Int × Value)} {t : SetTable} {b : Bool} (r : Ris t.place.toList) : Ris (tailTx ep es t b).2.2.place.toList := by
  unfold tailTx
  split
  · exact relayAll_ris _ _ _
  · exact r
theorem tail_led {ep : Nat} {es : Array (Int × Value)} {t : SetTable} {b : Bool} : (tailTx ep es t b).2.2.led = t.led := by
  unfold tailTx
  split
  · exact relayAll_led _ _ _
  · rfl
theorem plain_off {t : SetTable} : (if t.plain = true then { t with plain := false } else t).place = t.place ∧ (if t.plain = true then { t with plain := false } else t).led = t.led := by
  split
  · exact ⟨rfl, rfl⟩
  · exact ⟨rfl, rfl⟩
theorem addTx_ris {h : Int} {v : Value} {d : SD} (r : Ris d.2.2.place.toList) : Ris (addTx h v d).2.2.place.toList := by
  refine tail_ris ?_
  rw [plain_off.1]
  exact layNew_ris d.2.2 d.1 h v r
theorem addTx_led {h : Int} {v : Value} {d : SD} : (addTx h v d).2.2.led = d.2.2.led := by
  refine tail_led.trans ?_
  rw [plain_off.2]
  exact layNew_led d.2.2 d.1 h v
/-- what is known of a set of the texts l at a -/
structure TxS (P : Program) (w : World) (h : Heap) (a : Addr) (l : List Str) : Prop where
  ex : ∃ d : SD, h.get? a = some (sObj "set" d) ∧ TxOk P w d l ∧ Ris d.2.2.place.toList ∧ (w.params.followText "set-order" = true ∨ d.2.2.led = true)
theorem TxS.at {h h' : Heap} {a : Addr} {l : List Str} (t : TxS P w h a l) (k : ∀ o, h.get? a = some o → h'.get? a = some o) : TxS P w h' a l :=
  let ⟨d, e, r⟩ := t.ex; ⟨d, k _ e, r⟩
theorem ts_add {a : Addr} {l : List Str} {k : Str} {u : Tok} {Q : Bool → Shared → Prop} (t : TxS P w s.heap a l) (hb : l.length + 1 < scanBound)
    (hQ : ∀ b h', Heap.SameBut a s.heap h' → TxS P w h' a (insL l k) → Q b { s with heap := h' }) : wpAny (model P w) A (setAddHashed a (.str k u) (hashStr w k)) Q E s := by
  obtain ⟨d, ho, F, r, hl⟩ := t.ex
  by_cases hk : k ∈ l
  · have q := hQ false s.heap (Heap.SameBut.refl a s.heap) (by unfold insL; rw [if_pos hk]; exact t)
    obtain ⟨es, ep, tb⟩ := d
    have hd : (sObj "set" (es, ep, tb)).data = .set es ep tb := rfl
    have hsz : es.size = l.length := F.sz
    have hb0 : es.size < scanBound := by omega
    obtain ⟨e0, he0, p0⟩ := (F.mem k).mp hk
    unfold setAddHashed setAddHashedIn
    refine wpAny_holding (wpAny_bind (wpAny_setState_of ho hd F.fit ?_))
    dsimp only
    rw [byScan_of rfl hb0 F.el]
    simp only [↓reduceIte]
    unfold setAddByScan
    refine wpAny_bind (wpAny_bind (wpAny_rule (wpAny_bind (wpAny_setScan_of (knd := strKind P w) (k := k) (is_str k u) ho hd F.fit F.el ?_))))
    cases hfi : List.findIdx? (fun e => (strKind P w).is k e.2) es.toList with
    | some j => exact wpAny_pure (wpAny_pure q)
    | none =>
      have c := List.findIdx?_eq_none_iff.mp hfi e0 he0
      rw [p0] at c
      cases c
  · refine add_x ho F hk hb (hQ true _ (Heap.SameBut.update ..) ⟨_, Heap.get?_update_self _ ho rfl, ?_, addTx_ris r, hl.imp id fun z => by rw [addTx_led]; exact z⟩)
    unfold insL
    rw [if_neg hk]
    exact add_ok u F
def insAll (val : Nat → Str) : Nat → List Str
  | 0 => []
  | i + 1 => insL (insAll val i) (val i)
theorem insAll_len (val : Nat → Str) : ∀ i, (insAll val i).length ≤ i
  | 0 => Nat.le_refl _
  | i + 1 => by
    have := insAll_len val i
    show (insL _ _).length ≤ _
    unfold insL
    split
    · omega
    · rw [List.length_cons]; omega
theorem ts_loop {I : Addr} {fp wr : List Addr} {G : Array GenState → Array GenState → Prop} {n : Nat} {Pv : Nat → Value → Prop} {St : Nat → Shared → Prop} {R : Result → Shared → Prop} (W : WalksS P w A.in1 I fp wr G n Pv St) (a : Addr) (ha : a ∉ fp) (val : Nat → Str) (hval : ∀ i v, Pv i v → ∃ t, v = .str (val i) t) (hb : n + 1 < scanBound) :
    ∀ (k i : Nat) (s : Shared), n - i = k → i ≤ n → St i s → TxS P w s.heap a (insAll val i) → (∀ s', Moved (a :: wr) G s s' → TxS P w s'.heap a (insAll val n) → R (.ok (.ret .none)) s') →
      codeAny (model P w) A (.builtin "set.update.loop" ⟨[.ref a, .ref I], []⟩) R s
  | 0, i, s, hk, hi, st, t, hR => by
    obtain rfl : i = n := by omega
    refine codeAny_builtin F.entry_set_update_loop ?_
    rw [Around.under_plainId F.plain_set_update_loop _]
    show wpAny _ A.in1 (pyNext (.ref I) >>= _) _ _ s
    exact wpAny_bind (W.done s _ _ st fun s' hm => wpAny_pure (hR s' (hm.mono fun b hb => List.mem_cons_of_mem _ hb) (t.at fun o e => hm.heap a o (fun h => ha (W.sub _ h)) e)))
  | k + 1, i, s, hk, hi, st, t, hR => by
    refine codeAny_builtin F.entry_set_update_loop ?_
    rw [Around.under_plainId F.plain_set_update_loop _]
    show wpAny _ A.in1 (pyNext (.ref I) >>= _) _ _ s
    refine wpAny_bind (W.item i s _ _ (by omega) st fun v s' hP st' hm => ?_)
    obtain ⟨tk, rfl⟩ := hval i v hP
    have t' : TxS P w s'.heap a (insAll val i) := t.at fun o e => hm.heap a o (fun h => ha (W.sub _ h)) e
    show wpAny _ A.in1 (holding [Value.str (val i) tk] (setAdd a (.str (val i) tk)) >>= _) _ _ s'
    refine wpAny_bind (wpAny_holding ?_)
    unfold setAdd
    refine wpAny_holding (wpAny_bind ((strKind P w).pyHash (k := val i) (is_str _ _) ?_))
    have hle := insAll_len val i
    refine ts_add (s := { s' with toks := s'.toks + 1 }) t' (by omega) fun b h' sb t2 => ?_
    refine wpAny_pure ⟨plainId_quiet F.plain_set_update_loop _, ts_loop W a ha val hval hb k (i + 1) _ (by omega) (by omega) (W.frame _ s' _ _ st' (Nat.le_succ _) fun c hc o e => ?_) t2 fun s2 hm2 t3 => ?_⟩
    · rw [sb.2 c fun h => ha (by rw [← h]; exact hc)]; exact e
    · refine hR s2 (Moved.trans W.gtrans ((hm.mono fun c hc => List.mem_cons_of_mem _ hc).then_heap (Nat.le_succ _) fun c o hc e => ?_) hm2) t3
      rw [sb.2 c fun h => hc (by rw [h]; exact List.mem_cons_self)]; exact e
/-- the set just made -/
abbrev set0 (w : World) : Obj := { cls := .type "set", dict := none, data := .set #[] 0 (.fresh 0 0 (!w.params.followText "set-order")) }
theorem ts_new {h : Heap} {a : Addr} (e : h.get? a = some (set0 w)) : TxS P w h a [] :=
  ⟨(#[], 0, .fresh 0 0 (!w.params.followText "set-order")), e, TxOk.nil rfl, List.Pairwise.nil, by
    show _ ∨ (!w.params.followText "set-order") = true
    cases w.params.followText "set-order"
    · exact .inr rfl
    · exact .inl rfl⟩
theorem new_led (v : Value) {Q : Value → Shared → Prop} (h : Q (.ref s.heap.objs.size) { s with heap := s.heap.push (set0 w) }) : codeAny (model P w) A (.call (.builtin "set.__new__") ⟨[.type "set", v], []⟩) (wants Q E) s := by
  refine codeAny_of_tree ?_
  show wpAny _ A.in1 (do checkBuiltinCall "set.__new__" ⟨[.type "set", v], []⟩; again (.builtin "set.__new__" ⟨[.type "set", v], []⟩)) _ _ s
  refine wpAny_bind (wpAny_of_eq (F.newCall_set_1 v) (wpAny_pure ⟨plainId_quiet F.plain_set_new _, codeAny_builtin F.entry_set_new ?_⟩))
  rw [Around.under_plainId F.plain_set_new _]
  unfold Builtin.«set.__new__» Builtin.Frozenset.newClass
  have hsub := sub_set_self
  obtain ⟨hp, g, d, tk, os⟩ := s
  dsimp only
  wp_walk
  refine wpAny_askSetting (wpAny_pure ?_)
  dsimp only
  simp only [newObj]
  exact wpAny_bind (wpAny_alloc (wpAny_pure (wpAny_pure h)))
theorem call_setTx {l : Addr} {items : Array Value} {ss : List Str} {Q : Value → Shared → Prop} (hh : A.handled = none) (hl : s.heap.IsList l items) (hi : ∀ (i : Nat) (v : Value), items[i]? = some v → ∃ t, v = .str (ss.getD i Str.empty) t) (hb : items.size + 1 < scanBound)
    (h : ∀ (h' : Heap) (tk : Nat), TxS P w h' s.heap.objs.size (insAll (fun i => ss.getD i Str.empty) items.size) → (∀ b o, b < s.heap.objs.size → s.heap.get? b = some o → h'.get? b = some o) → Q (.ref s.heap.objs.size) { s with heap := h', toks := tk }) :
    wpAny (model P w) A (call (.type "set") [.ref l]) Q E s := by
  obtain ⟨c, tl, hmro⟩ := F.called_set.mro
  have hmade := F.called_set.made
  have hsub := F.called_set.sub
  refine wpAny_call (codeAny_of_tree ?_)
  show wpAny _ _ (callAny (.type "set") _) _ _ _
  refine wpAny_pure ⟨Code.quiet_builtin _ (by decide +kernel), codeAny_builtin F.entry_type_call ?_⟩
  rw [Around.under_plain (weight_type_call_type "set" [.ref l] []) rfl]
  have h1 := F.called_set.notType
  have h2 := F.called_set.canCreate
  have hct := F.typeCall_set_1 (.ref l)
  repeat (any_goals (first | assumption | wp_step))
  refine codeAny_mono (new_led (.ref l) (E := E) (Q := fun obj s₁ => obj = .ref s.heap.objs.size ∧ s₁ = { s with heap := s.heap.push (set0 w) }) ⟨rfl, rfl⟩) fun r s₁ hr => ?_
  cases r with
  | error e => exact hr
  | ok fl =>
    cases fl with
    | ret obj =>
      obtain ⟨rfl, rfl⟩ := hr
      have hS : (s.heap.push (set0 w)).get? s.heap.objs.size = some (set0 w) := Heap.get?_push_size _ rfl
      have hT : Shared.TypeIs { s with heap := s.heap.push (set0 w) } (.ref s.heap.objs.size) "set" := ⟨_, hS, rfl⟩
      have hli := F.called_set.init.lookup
      have hbi := F.called_set.init.bind (.ref s.heap.objs.size)
      repeat (any_goals (first | assumption | wp_step))
      refine codeAny_mono (codeAny_call_builtin (R := wants (fun r s₂ => r = .none ∧ ∃ h' tk, s₂ = { s with heap := h', toks := tk } ∧ TxS P w h' s.heap.objs.size (insAll (fun i => ss.getD i Str.empty) items.size) ∧
          (∀ b o, b < s.heap.objs.size → s.heap.get? b = some o → h'.get? b = some o)) E) F.called_set.init.plain F.entry_set_init (check_set_init_1 hT ?_)) fun r₂ s₂ hr₂ => ?_
      · obtain ⟨⟨ocls, odict, odata, oslots⟩, hol, hcl, nl, hdl⟩ := hl
        simp only at hcl hdl
        subst hcl; subst hdl
        have hol' : (s.heap.push (set0 w)).get? l = some { cls := .type "list", dict := odict, data := .seq items nl, slots := oslots } := Heap.get?_push_of_some _ hol
        have hsls := F.sub_list_set
        have hslf := F.sub_list_frozenset
        have hne : (Value.type "list" == Value.type "dict") = false := by decide
        have hl1 : (s.heap.push (set0 w)).IsList l items := ⟨_, hol', rfl, nl, rfl⟩
        unfold Builtin.«set.__init__» noKeywords Builtin.Frozenset.updateFrom
        generalize hPI : pyIter = PI
        wp_walk
        subst hPI
        refine wpAny_pyIter_list hl1 (wpAny_bind (wpAny_runValue ?_))
        have hlS : l < s.heap.objs.size := Heap.lt_size hol
        have zz : (s.heap.push (set0 w)).objs.size = s.heap.objs.size + 1 := Heap.size_push ..
        have hneI : l ≠ (s.heap.push (set0 w)).objs.size := by rw [zz]; exact Nat.ne_of_lt (Nat.lt_succ_of_lt hlS)
        have hSf : s.heap.objs.size ∉ [(s.heap.push (set0 w)).objs.size, l] := by
          rw [zz]; simp only [List.mem_cons, List.not_mem_nil, or_false, not_or]; exact ⟨Nat.ne_of_lt (Nat.lt_succ_self _), Nat.ne_of_gt hlS⟩
        refine ts_loop (P := P) ((Walks.list (by simp [hh]) _ l hneI items).toS) s.heap.objs.size hSf (fun i => ss.getD i Str.empty) hi hb (items.size - 0) 0 _ (by omega) (Nat.zero_le _)
          ⟨⟨_, Heap.get?_push_size _ rfl, rfl, rfl⟩, (hl1.push _)⟩ (ts_new (Heap.get?_push_of_some _ hS)) fun s' hm t => ?_
        obtain ⟨h', g', d', tk', os'⟩ := s'
        obtain rfl : g' = s.gens := hm.gens
        obtain rfl : d' = s.drawn := hm.drawn
        obtain rfl : os' = s.os := hm.os
        show wpAny _ _ _ _ _ _
        refine wpAny_pure ?_
        show wpAny _ _ (PySem.ret Value.none) _ _ _
        refine wpAny_pure ⟨rfl, h', tk', rfl, t, fun b o hlt e => hm.heap b o ?_ (Heap.get?_push_of_some _ (Heap.get?_push_of_some _ e))⟩
        rw [zz]; simp only [List.mem_cons, List.not_mem_nil, or_false, not_or]; exact ⟨Nat.ne_of_lt hlt, Nat.ne_of_lt (Nat.lt_succ_of_lt hlt)⟩
      · cases r₂ with
        | error e => exact hr₂
        | ok fl₂ =>
          cases fl₂ with
          | ret r =>
            obtain ⟨rfl, h', tk, rfl, hS', hk'⟩ := hr₂
            repeat (any_goals (first | assumption | wp_step))
            exact h _ _ hS' hk'
          | _ => exact hr₂.elim
    | _ => exact hr.elim
end
end Rf
end

section
set_option Elab.async false
set_option linter.all false
set_option maxRecDepth 100000
set_option maxHeartbeats 4000000
/-! .. sorted. -/
namespace Rf
open PySem PySem.Spec PyProof.Rows L2 PySem.Froz
theorem perm_of {α : Type} [DecidableEq α] : ∀ (l m : List α), l.Nodup → (∀ x ∈ l, x ∈ m) → m.length ≤ l.length → l.Perm m
  | [], m, _, _, hl => by
    cases m with
    | nil => exact .nil
    | cons _ _ => simp at hl
  | x :: l, m, d, h, hl => by
    have hx : x ∈ m := h x List.mem_cons_self
    obtain ⟨d1, d2⟩ := List.nodup_cons.mp d
    refine (List.Perm.cons x (perm_of l (m.erase x) d2 (fun y hy => ?_) ?_)).trans (List.perm_cons_erase hx).symm
    · exact (List.mem_erase_of_ne fun e => d1 (by rw [← e]; exact hy)).mpr (h y (List.mem_cons_of_mem _ hy))
    · rw [List.length_erase_of_mem hx]
      simp only [List.length_cons] at hl
      omega
theorem leS_total (a b : Str) : (leS a b || leS b a) = true := by
  unfold leS
  rw [Bool.or_eq_true, decide_eq_true_eq, decide_eq_true_eq]
  exact List.le_total _ _
theorem leS_trans (a b c : Str) (h1 : leS a b = true) (h2 : leS b c = true) : leS a c = true := by
  unfold leS at *
  rw [decide_eq_true_eq] at *
  exact List.le_trans h1 h2
theorem leS_anti {a b : Str} (h1 : leS a b = true) (h2 : leS b a = true) : a = b := by
  unfold leS at *
  rw [decide_eq_true_eq] at *
  have e := List.le_antisymm h1 h2
  cases a with
  | mk x =>
    cases b with
    | mk y => exact congrArg Str.mk (Array.toList_inj.mp e)
theorem sort_uniq {l m : List Str} (h : l.Perm m) : l.mergeSort leS = m.mergeSort leS :=
  List.Perm.eq_of_pairwise (le := fun a b => leS a b = true) (fun a b _ _ => leS_anti) (List.pairwise_mergeSort leS_trans leS_total l) (List.pairwise_mergeSort leS_trans leS_total m)
    ((List.mergeSort_perm l leS).trans (h.trans (List.mergeSort_perm m leS).symm))
theorem mem_insL {l : List Str} {k x : Str} : x ∈ insL l k ↔ x ∈ l ∨ x = k := by
  unfold insL
  split
  · rename_i h
    exact ⟨.inl, fun q => q.elim id fun e => e ▸ h⟩
  · rw [List.mem_cons]
    exact Or.comm
theorem nd_insL {l : List Str} {k : Str} (h : l.Nodup) : (insL l k).Nodup := by
  unfold insL
  split
  · exact h
  · rename_i hk
    exact List.nodup_cons.mpr ⟨hk, h⟩
theorem mem_insF : ∀ {ss l : List Str} {x : Str}, x ∈ ss.foldl insL l ↔ x ∈ l ∨ x ∈ ss
  | [], l, x => by simp
  | k :: ss, l, x => by
    rw [List.foldl_cons, mem_insF, mem_insL, List.mem_cons]
    exact or_assoc
theorem nd_insF : ∀ {ss l : List Str}, l.Nodup → (ss.foldl insL l).Nodup
  | [], l, h => h
  | k :: ss, l, h => by
    rw [List.foldl_cons]
    exact nd_insF (nd_insL h)
theorem mem_insAll (val : Nat → Str) {x : Str} : ∀ n, x ∈ insAll val n ↔ ∃ i, i < n ∧ val i = x
  | 0 => ⟨fun h => (by cases h), fun ⟨i, h, _⟩ => absurd h (Nat.not_lt_zero _)⟩
  | n + 1 => by
    show x ∈ insL _ _ ↔ _
    rw [mem_insL, mem_insAll val n]
    constructor
    · rintro (⟨i, h, e⟩ | h)
      · exact ⟨i, Nat.lt_succ_of_lt h, e⟩
      · exact ⟨n, Nat.lt_succ_self _, h.symm⟩
    · rintro ⟨i, h, e⟩
      rcases Nat.lt_or_eq_of_le (Nat.le_of_lt_succ h) with q | q
      · exact .inl ⟨i, q, e⟩
      · exact .inr (by rw [← e, q])
theorem nd_insAll (val : Nat → Str) : ∀ n, (insAll val n).Nodup
  | 0 => .nil
  | n + 1 => nd_insL (nd_insAll val n)
theorem insAll_sort (ss : List Str) : (insAll (fun i => ss.getD i Str.empty) ss.length).Perm (ss.foldl insL []) := by
  have key : ∀ x, x ∈ insAll (fun i => ss.getD i Str.empty) ss.length ↔ x ∈ ss.foldl insL [] := fun x => by
    rw [mem_insAll, mem_insF]
    constructor
    · rintro ⟨i, h, e⟩
      refine .inr (List.mem_of_getElem (i := i) (h := h) ?_)
      rw [← e]
      show ss[i] = ss.getD i Str.empty
      rw [List.getD_eq_getElem?_getD, List.getElem?_eq_getElem h]; rfl
    · rintro (h | h)
      · cases h
      · obtain ⟨i, h, e⟩ := List.mem_iff_getElem.mp h
        refine ⟨i, h, ?_⟩
        show ss.getD i Str.empty = x
        rw [List.getD_eq_getElem?_getD, List.getElem?_eq_getElem h]
        exact e
  have d1 := nd_insAll (fun i => ss.getD i Str.empty) ss.length
  have d2 : (ss.foldl insL []).Nodup := nd_insF .nil
  rcases Nat.le_total (insAll (fun i => ss.getD i Str.empty) ss.length).length (ss.foldl insL []).length with h | h
  · exact (perm_of _ _ d2 (fun x hx => (key x).mpr hx) h).symm
  · exact perm_of _ _ d1 (fun x hx => (key x).mp hx) h
def txOf : Value → Str
  | .str x _ => x
  | _ => Str.empty
section
variable {P : Program} {w : World} {A : Around} {E : Value → Shared → Prop} {s : Shared}
theorem each_tx : ∀ {vs : List Value}, (∀ v ∈ vs, ∃ k tk, v = Value.str k tk) → W.EachIs (fun v (x : Str) => ∃ tk, v = Value.str x tk) vs (vs.map txOf)
  | [], _ => .nil
  | v :: vs, h => by
    obtain ⟨k, tk, rfl⟩ := h v List.mem_cons_self
    exact .cons ⟨tk, rfl⟩ (each_tx fun u hu => h u (List.mem_cons_of_mem _ hu))
theorem each_rd {a : Addr} : ∀ {vs : List Value}, (∀ v ∈ vs, ∃ k tk, v = Value.str k tk) → W.EachIs (fun v (x : Str) => ∃ as, Reads s.heap v (.str x) as ∧ a ∉ as) vs (vs.map txOf)
  | [], _ => .nil
  | v :: vs, h => by
    obtain ⟨k, tk, rfl⟩ := h v List.mem_cons_self
    exact .cons ⟨[], .str _ _, fun z => nomatch z⟩ (each_rd fun u hu => h u (List.mem_cons_of_mem _ hu))
theorem sorted_tx {a : Addr} {l : List Str} {Q : Value → Shared → Prop} (t : TxS P w s.heap a l) (nd : l.Nodup) (hh : A.handled = none) (hl : l.length < scanBound) (hu : A.units + 64 < cLine)
    (hQ : ∀ s' p (out : Array Value) (c : Nat), (∀ b o, s.heap.get? b = some o → s'.heap.get? b = some o) → s'.gens = s.gens → s'.os = s.os → s.heap.objs.size ≤ p →
      s'.heap.get? p = some (seqObj "list" out c) → W.EachIs (fun v (x : Str) => ∃ tk, v = Value.str x tk) out.toList (l.mergeSort leS) → Q (.ref p) s') :
    wpAny (model P w) A (call (.builtin "sorted") [.ref a]) Q E s := by
  obtain ⟨⟨es, ep, tb⟩, ho, F, r, hled⟩ := t.ex
  have hsz : es.size = l.length := F.sz
  refine Calls.call_function_entry kind_sorted plain_sorted entry_sorted (args_sorted1 _) ?_
  unfold Builtin.«sorted»
  refine wpAny_bind (m := checkCount "sorted" 1 1 _) (wpAny_pure ?_)
  refine wpAny_bind (collect_set (A := A.in1) hh ⟨_, ho, rfl, rfl⟩ F.fit (show es.size < scanBound by omega) r hled fun s1 vs k1 hz g1 o1 pm => ?_)
  have hvl : vs.length = l.length := by rw [pm.length_eq, List.length_map, Array.length_toList]; exact hsz
  have key : ∀ v ∈ vs, ∃ k tk, v = Value.str k tk ∧ k ∈ l := fun v hv => by
    obtain ⟨e, he, q⟩ := List.mem_map.mp (pm.mem_iff.mp hv)
    obtain ⟨⟨k, h1, h2⟩, _⟩ := F.el e he
    obtain ⟨tk, h3⟩ := Value.isStrOf_shape h1
    exact ⟨k, tk, by rw [← q]; exact h3, (F.mem k).mpr ⟨e, he, h1⟩⟩
  have st : ∀ v ∈ vs, ∃ k tk, v = Value.str k tk := fun v hv => let ⟨k, tk, e, _⟩ := key v hv; ⟨k, tk, e⟩
  have pk : l.Perm (vs.map txOf) := by
    refine perm_of _ _ nd (fun x hx => ?_) (by rw [List.length_map, hvl]; exact Nat.le_refl _)
    obtain ⟨e, he, z⟩ := (F.mem x).mp hx
    obtain ⟨tk, h3⟩ := Value.isStrOf_shape z
    exact List.mem_map.mpr ⟨e.2, pm.mem_iff.mpr (List.mem_map.mpr ⟨e, he, rfl⟩), by rw [h3]; rfl⟩
  have hl2 : vs.length ≤ sizeLine := by rw [hvl]; exact fits_of_scanBound hl
  refine wpAny_bind (wpAny_newList ?_ hl2)
  have hoL : (s1.heap.push (seqObj "list" vs.toArray 0)).get? s1.heap.objs.size = some (seqObj "list" vs.toArray 0) := Heap.get?_push_size _ rfl
  refine wpAny_bind (wpAny_holding (W.list_sort_data (s := { s1 with heap := s1.heap.push (seqObj "list" vs.toArray 0) }) (enc := fun x : Str => PyData.str x) hoL (each_tx st) (each_rd st)
    (W.AllAlike.of fun _ _ => rfl) (W.Sortable.others fun _ => ⟨(fun e => by cases e), (fun _ e => by cases e)⟩) (by rw [List.length_map]; exact hl2) (fun b _ => by show A.in1.units + 1 + 0 < _; have : A.in1.units = A.units + 1 := rfl; omega) fun out a1 a2 => ?_))
  obtain ⟨c, hc⟩ := sortedHeap_at (vs := vs) (out := out.toArray) hoL
  refine wpAny_pure ⟨_, rfl, hQ _ s1.heap.objs.size out.toArray c (fun b u e => ?_) g1 o1 hz hc ?_⟩
  · have q := k1 b u e
    have hlt := Heap.lt_size q
    show (sortedHeap (s1.heap.push (seqObj "list" vs.toArray 0)) s1.heap.objs.size vs out.toArray).get? b = some u
    rw [sortedHeap_old (Nat.ne_of_lt hlt) (by rw [size_push']; exact Nat.lt_succ_of_lt hlt)]
    exact Heap.get?_push_of_some _ q
  · have e1 : W.dataLe false (fun x : Str => PyData.str x) = leS := W.dataLe_str fun x => x
    rw [e1] at a2
    rw [sort_uniq pk]
    exact a2
end
section
variable {X : Cx}
theorem vals_tx : ∀ {us : List Value} {ss : List Str}, W.EachIs (fun v (x : Str) => ∃ tk, v = Value.str x tk) us ss → Vals (ss.map V.str) us
  | _, _, .nil => .nil
  | _, _, .cons h t => .cons h (vals_tx t)
theorem tx_at : ∀ {ss : List Str} {us : List Value}, Vals (ss.map V.str) us → ∀ (i : Nat) (v : Value), us[i]? = some v → ∃ t, v = .str (ss.getD i Str.empty) t
  | [], _, .nil, i, v, h => by simp at h
  | x :: ss, _, .cons r t, 0, v, h => by
    obtain ⟨tk, e⟩ := r
    simp at h
    exact ⟨tk, by rw [← h]; exact e⟩
  | x :: ss, _, .cons r t, i + 1, v, h => by
    simp only [List.getElem?_cons_succ] at h
    obtain ⟨tk, e⟩ := tx_at t i v h
    exact ⟨tk, e⟩
/-- sorted(set(xs)) -/
def tSoS (K : PySem.W.Frag) (ta : TE) : TE := fun σ H Q => ta σ H fun x H1 => ∃ (l : Addr) (ss : List Str), x = .ref l ∧ SqL K H1 l (ss.map V.str) ∧ ss.length < 4000 ∧ ∀ p, H1 p = none → Q (.ref p) (upd H1 p (.lst ((sortS ss).map V.str)))
theorem pe_sos {a : Expr} {ta : TE} {p p2 q pos : Pos} (hg : Gl X "sorted") (hm : X.mg "sorted" = none) (hg2 : Gl X "set") (hm2 : X.mg "set" = none) (hc : X.calm = true) (hu : X.A.units + 64 < cLine) (ha : PE X a ta)
    (na : starEach [a] X.env = (false, eval a X.env) :: starEach [] X.env) : PE X (.Call (.Name "sorted" p) [.Call (.Name "set" p2) [a] [] q] [] pos) (tSoS X.K ta) := by
  refine ⟨fun pins s σ H Q I h => ?_⟩
  refine Call_ (ld_blt I hg hm (by decide +kernel : bootBuiltins "sorted" = some (.builtin "sorted")) ?_)
  refine PyProof.Rows.callWith_builtin1 (PyProof.Rows.args_cons ?_ rfl) rfl rfl
  refine Call_ (ld_blt I hg2 hm2 (by decide +kernel : bootBuiltins "set" = some (.type "set")) ?_)
  refine PyProof.Rows.callWith_type1 (PyProof.Rows.args_cons (thn (ha.run pins s σ H _ I h) fun v s1 ⟨x, H1, I1, r1, q1⟩ => PyProof.Rows.args_nil ?_) na) na rfl
  obtain ⟨l, ss, rfl, hq, hl, q1⟩ := q1
  cases r1
  obtain ⟨its, r, pl, hz⟩ := I1.list hq
  have hlen : its.toArray.size = ss.length := by rw [List.size_toArray, ← r.length, List.length_map]
  refine call_setTx (ss := ss) (I1.ok.hd hc) pl.isList (fun i v hv => tx_at r i v (by simpa using hv)) (by rw [hlen]; unfold scanBound; omega) fun h' tk hS hk => ?_
  refine PyProof.Rows.args_nil ?_
  rw [hlen] at hS
  have I2 : Inv X pins σ H1 { s1 with heap := h', toks := tk } := I1.kept fun b o e => hk b o (Heap.lt_size e) e
  have hle := insAll_len (fun i => ss.getD i Str.empty) ss.length
  refine sorted_tx (s := { s1 with heap := h', toks := tk }) hS (nd_insAll _ _) (I2.ok.hd hc) (by unfold scanBound; omega) hu fun s' p out c k g o hp hget hout => ?_
  have e : (insAll (fun i => ss.getD i Str.empty) ss.length).mergeSort leS = sortS ss := sort_uniq (insAll_sort ss)
  rw [e] at hout
  have hv := vals_tx hout
  have hlen2 : ((sortS ss).map V.str).length ≤ sizeLine := by
    rw [List.length_map]
    unfold sortS
    rw [(List.mergeSort_perm _ leS).length_eq, ← (insAll_sort ss).length_eq, sizeLine_eq]
    omega
  have hn : H1 p = none := I2.hok.fresh hp
  have J : Inv X pins σ (upd H1 p (.lst ((sortS ss).map V.str))) { s1 with heap := s'.heap, gens := s'.gens, drawn := s'.drawn, toks := s'.toks } :=
    L2.Inv.call (s := { s1 with heap := h', toks := tk }) (I := I2) (h' := s'.heap) (g' := s'.gens) (d' := s'.drawn) (t' := s'.toks) (ch := []) (Un.laid k hp hn) (I2.hok.laid k hp (show ObjOk X.prog X.w (upd H1 p (.lst ((sortS ss).map V.str))) s'.heap p (.lst ((sortS ss).map V.str)) from ⟨hlen2, out.toList, c, hv, hget⟩)) (by rw [g]; exact I2.bare) (fun _ z => nomatch z)
  have e2 : s' = { s1 with heap := s'.heap, gens := s'.gens, drawn := s'.drawn, toks := s'.toks } := by
    cases s'
    cases o
    rfl
  rw [e2]
  exact ⟨.ref p, _, J, rfl, q1 p hn⟩
end
end Rf
end

section
set_option Elab.async false
set_option linter.all false
set_option maxRecDepth 100000
set_option maxHeartbeats 2000000
/-! More expressions: sorted(set(xs)), xs.index(x), displays of dicts. -/
namespace Rf
open PySem PySem.Spec PyProof.Rows L2
theorem strs_of {K : PySem.W.Frag} {ad : Str → Addr} {Z : Hp} : ∀ {ds : List D} {vs : List V} {ss : List Str}, strsOf ds = some ss → Rps K ad Z vs ds → vs = ss.map V.str ∧ ds = ss.map D.str
  | [], vs, ss, h, r => by
    cases r; cases h
    exact ⟨rfl, rfl⟩
  | d :: ds, vs, ss, h, r => by
    cases r with
    | cons r1 r2 =>
      cases d with
      | str x =>
        obtain ⟨zs, e2, rfl⟩ := Option.map_eq_some_iff.mp (show (strsOf ds).map (x :: ·) = some ss from h)
        obtain ⟨e3, e4⟩ := strs_of e2 r2
        cases r1
        exact ⟨by rw [e3]; rfl, by rw [e4]; rfl⟩
      | _ => cases h
theorem rps_strs {K : PySem.W.Frag} {ad : Str → Addr} {Z : Hp} : ∀ ss : List Str, Rps K ad Z (ss.map V.str) (ss.map D.str)
  | [] => .nil
  | x :: ss => .cons (.str x) (rps_strs ss)
section
variable {X : Cx} {p : Par} {a b : Expr} {ia ib : IE} {pos apos cpos p0 p1 : Pos}
theorem se_sos (hg : Gl X "sorted") (hm : X.mg "sorted" = none) (hg2 : Gl X "set") (hm2 : X.mg "set" = none) (hc : X.calm = true) (hu : X.A.units + 64 < cLine) (hn : notStar a = true) (ha : SE X p a ia) :
    SE X p (.Call (.Name "sorted" p0) [.Call (.Name "set" p1) [a] [] cpos] [] pos) (.prm .sortset (.cons ia .nil)) := fun σ Z H ρ ω fp d ω' S he Q hQ pins s I => by
  obtain ⟨l, ω1, e1, he⟩ := of_bnd he
  obtain ⟨e2, rfl⟩ := of_opt he
  obtain ⟨x, ω2, e3, e4⟩ := of_bnd (show bnd (ev p.O ia ρ ω) (fun d ω1 => bnd (evs p.O .nil ρ ω1) fun ds ω2 => ret (d :: ds) ω2) = some (l, ω') from e1)
  obtain ⟨xs, ω3, e5, e6⟩ := of_bnd e4
  cases e5
  cases e6
  refine (pe_sos hg hm hg2 hm2 hc hu (pe_R a) (by rw [starEach_cons hn])).run pins s σ H Q I (ha σ Z H ρ ω fp x _ S e3 _ fun v Z1 H1 fp1 T r => ?_)
  cases x with
  | lst ds =>
    have e2 : sortsetD ds = some d := e2
    unfold sortsetD at e2
    split at e2
    · rename_i ss hss
      split at e2
      · rename_i hlen
        cases e2
        cases r with
        | lst hz hr =>
          obtain ⟨rfl, _⟩ := strs_of hss hr
          refine ⟨_, ss, rfl, .inl (rd_le T.nx.zh.le hz), hlen, fun q hq => ?_⟩
          obtain ⟨n, r'⟩ := new_lst (K := X.K) (ad := p.ad) T.nx.zh hq (rps_strs (sortS ss))
          have T2 : StepX X p true σ Z1 H1 ω' fp1 _ _ ω' fp1 := Sta.nw (T.sta S) n
          have T3 := T.trans T2
          refine hQ _ _ _ fp1 ?_ r'
          have eq : (IE.prm .sortset (.cons ia .nil)).quiet = (ia.quiet && true) := rfl
          rw [eq]; exact T3
      · cases e2
    · cases e2
  | _ => cases e2
theorem se_index (hb : baseOk a = true) (hline : (apos.endLine == cpos.line) = true) (hn : notStar b = true) (ha : SE X p a ia) (hb' : SE X p b ib) :
    SE X p (.Call (.Attribute a "index" apos) [b] [] cpos) (.prm .index (.cons ia (.cons ib .nil))) := fun σ Z H ρ ω fp d ω' S he Q hQ pins s I => by
  obtain ⟨l, ω1, e1, he⟩ := of_bnd he
  obtain ⟨e2, rfl⟩ := of_opt he
  obtain ⟨x, ω2, e3, e4⟩ := of_bnd (show bnd (ev p.O ia ρ ω) (fun d ω1 => bnd (evs p.O (.cons ib .nil) ρ ω1) fun ds ω2 => ret (d :: ds) ω2) = some (l, ω') from e1)
  obtain ⟨ys, ω3, e5, e6⟩ := of_bnd e4
  obtain ⟨y, ω4, e7, e8⟩ := of_bnd (show bnd (ev p.O ib ρ ω2) (fun d ω1 => bnd (evs p.O .nil ρ ω1) fun ds ω2 => ret (d :: ds) ω2) = some (ys, ω3) from e5)
  obtain ⟨zs, ω5, e9, e10⟩ := of_bnd e8
  cases e9
  cases e10
  cases e6
  refine (pe_bm (X := X) PySem.F.plainAttrs_list PySem.F.slot_list_index (by first | rfl | decide) mt_index (pe_R a) (pa_R [b]) (apos := apos) (cpos := cpos) (base_eq hb) (by rw [starEach_cons hn]; rfl) hline (starEach_cons hn) (by rfl)).run pins s σ H Q I ?_
  refine ha σ Z H ρ ω fp x _ S e3 _ fun v Z1 H1 fp1 T r => ?_
  cases x with
  | lst ds =>
    have e2 : idxD ds y = some d := e2
    unfold idxD at e2
    split at e2
    · rename_i ss tx hss _
      cases r with
      | lst hz hr =>
        obtain ⟨rfl, _⟩ := strs_of hss hr
        refine ⟨.inl ⟨rfl, _, .inl (rd_le T.nx.zh.le hz)⟩, ?_⟩
        refine fun pos' pins' s' I' => (pa_cons (pe_R b) pa_nil (starEach_cons hn)).run pos' pins' s' σ H1 _ I' ?_
        refine hb' σ Z1 H1 ρ ω2 fp1 _ _ (T.sta S) e7 _ fun v2 Z2 H2 fp2 T2 r2 => ?_
        cases r2
        obtain ⟨n, en, rfl⟩ := Option.map_eq_some_iff.mp e2
        obtain ⟨k1, k2, k3⟩ := List.findIdx?_eq_some_iff_getElem.mp en
        refine ⟨_, ss.map V.str, .str _, n, .str (ss[n]'k1), rfl, rfl, .inl (rd_le T2.nx.zh.le (rd_le T2.nx.zz hz)), rfl, ?_, ?_, ?_, fun m z' hm e => ?_, ?_⟩
        · rw [List.all_eq_true]
          intro q hq
          obtain ⟨t, _, rfl⟩ := List.mem_map.mp hq
          rfl
        · rw [List.getElem?_map, List.getElem?_eq_getElem k1]; rfl
        · have : ss[n]'k1 = tx := of_decide_eq_true k2
          rw [this]
          show (_ == _) = true
          exact beq_self_eq_true _
        · rw [List.getElem?_map] at e
          obtain ⟨t, e1', rfl⟩ := Option.map_eq_some_iff.mp e
          obtain ⟨k4, k5⟩ := List.getElem?_eq_some_iff.mp e1'
          have k6 := k3 m hm
          rw [k5] at k6
          have k7 : ¬ t = tx := by simpa using k6
          show (t == _) = false
          exact beq_eq_false_iff_ne.mpr k7
        · refine hQ _ Z2 H2 fp2 ?_ (.int _)
          have eq : (IE.prm .index (.cons ia (.cons ib .nil))).quiet = (ia.quiet && (ib.quiet && true)) := rfl
          rw [eq, Bool.and_true]; exact T.trans T2
    · cases e2
  | _ => cases e2
/-! ### displays of dicts -/
theorem fe_dd0 {t : Bool} {sh : Sh} : FE X p (.Dict [] [] pos) (.dd t .nil) (.d sh) := fun σ Z H ρ ω fp d ω' S he Q hQ pins s I => by
  obtain ⟨l, ω1, e1, he⟩ := of_bnd he
  cases e1
  obtain ⟨e2, rfl⟩ := of_opt he
  have za : ∀ a, H a = none → Z a = none := fun a ha => by
    cases e : Z a with
    | none => rfl
    | some o => rw [S.zok.le _ _ e] at ha; cases ha
  have ng : ∀ a, H a = none → NewG H fp [a] := fun a ha => ⟨by simp, fun b hb => by rw [List.mem_singleton] at hb; rw [hb]; exact ha, fun b hb ⟨j, hj⟩ => by
    rw [List.mem_singleton] at hb
    obtain ⟨_, o, e, _⟩ := S.os.dom j b hj
    rw [hb, ha] at e; cases e⟩
  cases t with
  | true =>
    cases e2
    refine pe_dnewT.run pins s σ H Q I fun a ha => ?_
    obtain ⟨T, _⟩ := Step.newO (S.refl (q := true)) (o := .dT []) S ha
    exact hQ _ _ _ _ [a] T (.dt (fp := []) (za a ha) upd_same .nil .nil) (ng a ha)
  | false =>
    cases e2
    refine pe_dnewK.run pins s σ H Q I fun a ha => ?_
    obtain ⟨T, _⟩ := Step.newO (S.refl (q := true)) (o := .dK []) S ha
    exact hQ _ _ _ _ [a] T (.dk (fp := []) (za a ha) upd_same .nil .nil) (ng a ha)
/-- what was laid new and is owned by none is changed -/
theorem Step.over {K : PySem.W.Frag} {ad : Str → Addr} {os : Osl} {q : Bool} {σ : L2.St} {Z H Z1 H1 : Hp} {ω ω1 : Om} {fp fp1 : Fp} {a : Addr} {o : HO} (T : Step K ad os q σ Z H ω fp Z1 H1 ω1 fp1) (ha : H a = none) (hz : Z1 a = none) (hf : ¬ inF fp1 a) : Step K ad os q σ Z H ω fp Z1 (upd H1 a o) ω1 fp1 where
  nx := ⟨T.nx.zz, fun b u e => by
      obtain ⟨e1, t⟩ := T.nx.zh b u e
      exact ⟨by rw [upd_ne (fun h => by rw [h, hz] at e; cases e)]; exact e1, t⟩, T.nx.zn, fun b u e => by
      obtain ⟨v, e1⟩ := T.nx.dm b u e
      exact ⟨v, by rw [upd_ne (ne_of_none e ha)]; exact e1⟩, fun b u e m t => by rw [upd_ne (ne_of_none e ha)]; exact T.nx.hh b u e m t, fun b ps e t => by
      obtain ⟨ps', e1, t'⟩ := T.nx.ht b ps e t
      exact ⟨ps', by rw [upd_ne (ne_of_none e ha)]; exact e1, t'⟩⟩
  os := T.os.stand fun j => ⟨Le.refl _, fun b hb => upd_ne fun h => hf ⟨j, by rw [← h]; exact hb⟩, fun b hb => (T.os.dom j b hb).1⟩
  nd := T.nd
  sb := T.sb
  qu := T.qu
theorem kOf_rp {K : PySem.W.Frag} {ad : Str → Addr} {Z : Hp} {k : D} {v : V} {q : Key} (h : kOf k = some q) (r : Rp K ad Z v k) : v = kV q := by
  cases k <;> cases h <;> cases r <;> rfl
theorem fe_dd1 (ha : SE X p a ia) (hb : SE X p b ib) : FE X p (.Dict [some a] [b] pos) (.dd false (.cons ia ib .nil)) (.d .z) := fun σ Z H ρ ω fp d ω' S he Q hQ pins s I => by
  obtain ⟨l, ω1, e1, he⟩ := of_bnd he
  obtain ⟨e2, rfl⟩ := of_opt he
  obtain ⟨x, ω2, e3, e4⟩ := of_bnd (show bnd (ev p.O ia ρ ω) (fun d ω1 => bnd (ev p.O ib ρ ω1) fun x ω2 => bnd (evp p.O .nil ρ ω2) fun l ω3 => ret (.tup [d, x] :: l) ω3) = some (l, ω') from e1)
  obtain ⟨y, ω3, e5, e6⟩ := of_bnd e4
  obtain ⟨xs, ω4, e7, e8⟩ := of_bnd e6
  cases e7
  cases e8
  refine (pe_disp (pps_cons (pe_R a) (pe_R b) pps_nil) rfl rfl (by simp) (by simp)).run pins s σ H Q I fun q hq => ?_
  obtain ⟨T0, _⟩ := Step.newO (S.refl (q := true)) (o := .dK []) S hq
  have S0 := T0.sta S
  have hzq : Z q = none := by
    cases e : Z q with
    | none => rfl
    | some o => rw [S.zok.le _ _ e] at hq; cases hq
  have nf : ¬ inF fp q := fun ⟨j, hj⟩ => by
    obtain ⟨_, o, e, _⟩ := S.os.dom j q hj
    rw [hq] at e; cases e
  have dq : ∀ a ∈ [q], Z a = none ∧ ∃ o, (upd H q (.dK [])) a = some o ∧ notTbl o = true := fun a ha => by
    rw [List.mem_singleton] at ha
    subst ha
    exact ⟨hzq, _, upd_same, rfl⟩
  refine ha σ Z _ ρ ω fp x _ S0 e3 _ fun v1 Z1 H1 fp1 T1 r1 => ?_
  refine hb σ Z1 H1 ρ ω2 fp1 y _ (T1.sta S0) e5 _ fun v2 Z2 H2 fp2 T2 r2 => ?_
  have T12 := T1.trans T2
  obtain ⟨st, no⟩ := T12.stand dq (fun a ha => by rw [List.mem_singleton] at ha; rw [ha]; exact nf)
  have h2 : H2 q = some (.dK []) := (st.h q List.mem_cons_self).trans upd_same
  have z2 : Z2 q = none := st.z q List.mem_cons_self
  have n2 : ¬ inF fp2 q := no q List.mem_cons_self
  have e2 : (if ([] : List (Key × D)).length < sizeLine then (kOf x).map fun k => D.dk (putD [] k y) else none) = some d := e2
  rw [if_pos (by rw [sizeLine_eq]; simp)] at e2
  obtain ⟨k, ek, rfl⟩ := Option.map_eq_some_iff.mp e2
  obtain rfl := kOf_rp ek r1
  refine ⟨h2, [(k, v2)], rfl, by simp, ?_⟩
  have T3 := (T0.trans T12).over (o := .dK [(k, v2)]) hq z2 n2
  refine hQ _ Z2 _ fp2 [q] ?_ (.dk (fp := []) (vs := [(k, v2)]) (ds := [(k, y)]) z2 upd_same (by simp) (.cons (f := []) (.z r2) .nil)) ⟨by simp, fun b hb => by rw [List.mem_singleton] at hb; rw [hb]; exact hq, fun b hb => by rw [List.mem_singleton] at hb; rw [hb]; exact n2⟩
  have eq : (IE.dd false (.cons ia ib .nil)).quiet = (true && (ia.quiet && ib.quiet)) := by
    show (ia.quiet && ib.quiet && true) = _
    rw [Bool.and_true, Bool.true_and]
  rw [eq]; exact T3
end
end Rf
end

section
set_option Elab.async false
set_option linter.all false
set_option maxRecDepth 100000
set_option maxHeartbeats 2000000
/-! A check of an expression against its reading. -/
namespace Rf
open PySem PySem.Spec PyProof.Rows L2
/-! ### shapes -/
mutual
def eqS : Sh → Sh → Bool
  | .z, .z => true
  | .l a, .l b => eqS a b
  | .d a, .d b => eqS a b
  | .i a, .i b => eqSs a b
  | _, _ => false
def eqSs : List (Str × Sh) → List (Str × Sh) → Bool
  | [], [] => true
  | (x, a) :: r, (y, b) :: q => decide (x = y) && eqS a b && eqSs r q
  | _, _ => false
end
mutual
theorem eqS_ok : ∀ (a b : Sh), eqS a b = true → a = b
  | .z, b, h => by cases b <;> first | rfl | cases h
  | .l a, b, h => by
    cases b with
    | l b => rw [eqS_ok a b h]
    | _ => cases h
  | .d a, b, h => by
    cases b with
    | d b => rw [eqS_ok a b h]
    | _ => cases h
  | .i a, b, h => by
    cases b with
    | i b => rw [eqSs_ok a b h]
    | _ => cases h
theorem eqSs_ok : ∀ (a b : List (Str × Sh)), eqSs a b = true → a = b
  | [], b, h => by cases b <;> first | rfl | cases h
  | (x, a) :: r, b, h => by
    cases b with
    | nil => cases h
    | cons y q =>
      obtain ⟨y, b⟩ := y
      have h : (decide (x = y) && eqS a b && eqSs r q) = true := h
      simp only [Bool.and_eq_true, decide_eq_true_eq] at h
      rw [h.1.1, eqS_ok a b h.1.2, eqSs_ok r q h.2]
end
def eqO : Option Sh → Option Sh → Bool
  | none, none => true
  | some a, some b => eqS a b
  | _, _ => false
theorem eqO_ok : ∀ {a b : Option Sh}, eqO a b = true → a = b
  | none, none, _ => rfl
  | some a, some b, h => by rw [eqS_ok a b h]
  | none, some _, h => by cases h
  | some _, none, h => by cases h
def eqK : Ks → Ks → Bool
  | [], [] => true
  | a :: r, b :: q => eqO a b && eqK r q
  | _, _ => false
theorem eqK_ok : ∀ {a b : Ks}, eqK a b = true → a = b
  | [], [], _ => rfl
  | a :: r, b :: q, h => by
    have h : (eqO a b && eqK r q) = true := h
    rw [Bool.and_eq_true] at h
    rw [eqO_ok h.1, eqK_ok h.2]
  | [], _ :: _, h => by cases h
  | _ :: _, [], h => by cases h
def isZ : Sh → Bool
  | .z => true
  | _ => false
theorem isZ_ok {s : Sh} (h : isZ s = true) : s = .z := by cases s <;> first | rfl | cases h
/-- the shape of a list's items; of a dict's values; of an instance -/
def inL : Sh → Option Sh
  | .z => some .z
  | .l s => some s
  | _ => none
def inD : Sh → Option Sh
  | .z => some .z
  | .d s => some s
  | _ => none
def inI (s s' : Sh) : Bool := isZ s || eqS s s'
/-! ### what a check gives -/
structure OutE (X : Cx) (p : Par) (sh : Sh) (e : Expr) (ie : IE) : Prop where
  fe : FE X p e ie sh
  j : sh = .z → J X p e ie
section
variable {X : Cx} {p : Par} {e : Expr} {ie : IE} {sh s : Sh}
theorem OutE.ofJ (h : isZ sh = true) (j : J X p e ie) : OutE X p sh e ie := by
  rw [isZ_ok h]
  exact ⟨FE.of j.se, fun _ => j⟩
theorem OutE.ofS (h : isZ sh = true) (ht : PlainT e) (hn : ∀ op l q, e ≠ .BoolOp op l q) (k : SE X p e ie) : OutE X p sh e ie := OutE.ofJ h (J.of k ht hn)
theorem OutE.ofL (ht : PlainT e) (hn : ∀ op l q, e ≠ .BoolOp op l q) (h : inL sh = some s) (k : FE X p e ie (.l s)) : OutE X p sh e ie := by
  cases sh with
  | z => cases h; exact ⟨FE.of k.se, fun _ => J.of k.se ht hn⟩
  | l s' => cases h; exact ⟨k, fun e => by cases e⟩
  | _ => cases h
theorem OutE.ofD (ht : PlainT e) (hn : ∀ op l q, e ≠ .BoolOp op l q) (h : inD sh = some s) (k : FE X p e ie (.d s)) : OutE X p sh e ie := by
  cases sh with
  | z => cases h; exact ⟨FE.of k.se, fun _ => J.of k.se ht hn⟩
  | d s' => cases h; exact ⟨k, fun e => by cases e⟩
  | _ => cases h
theorem OutE.ofI {s' : Sh} (ht : PlainT e) (hn : ∀ op l q, e ≠ .BoolOp op l q) (h : inI sh s' = true) (k : FE X p e ie s') : OutE X p sh e ie := by
  unfold inI at h
  rw [Bool.or_eq_true] at h
  rcases h with h | h
  · rw [isZ_ok h]
    exact ⟨FE.of k.se, fun _ => J.of k.se ht hn⟩
  · rw [eqS_ok _ _ h]
    exact ⟨k, fun e => J.of k.se ht hn⟩
theorem OutE.z (h : OutE X p .z e ie) : J X p e ie := h.j rfl
end
/-! ### names -/
def visB (t : Sf) (x : Str) : Bool := match t.nm.lookup x with
  | some .local => true
  | some .cell => true
  | some .free => true
  | _ => false
def glB (t : Sf) (x : Str) : Bool := match t.nm.lookup x with
  | some .globalImplicit => true
  | _ => false
def nameB (x : Str) : Bool := (x == ("__debug__" : Str)) == false && (x == ("__classdict__" : Str)) == false && decide (x ≠ ("__name__" : Str))
section
variable {G : Gst} {L : Nat} {t : Sf} {X : Cx} {p : Par} {x : Str}
theorem visB_ok (c : CtxOk G L t X p) (h : visB t x = true) : Vis X.env.scope x := by
  unfold visB at h
  unfold Vis
  rw [c.nm]
  split at h
  · exact .inl (by assumption)
  · exact .inr (.inl (by assumption))
  · exact .inr (.inr (by assumption))
  · cases h
theorem glB_ok (c : CtxOk G L t X p) (h : glB t x = true) : Gl X x := by
  unfold glB at h
  show X.env.scope.names.lookup x = _
  rw [c.nm]
  split at h
  · assumption
  · cases h
theorem nameB_ok (h : nameB x = true) : (x == ("__debug__" : Str)) = false ∧ (x == ("__classdict__" : Str)) = false ∧ x ≠ ("__name__" : Str) := by
  unfold nameB at h
  simp only [Bool.and_eq_true, decide_eq_true_eq, beq_iff_eq] at h
  exact ⟨h.1.1, h.1.2, h.2⟩
end
/-! ### built-in functions -/
def primN : Prim → Option Str
  | .len => some "len" | .list => some "list" | .tuple => some "tuple" | .sorted => some "sorted" | .max => some "max" | .min => some "min" | .sum => some "sum" | .int => some "int" | .max2 => some "max" | .min2 => some "min"
  | _ => none
theorem boot_many : bootBuiltins "sorted" = some (.builtin "sorted") ∧ bootBuiltins "max" = some (.builtin "max") ∧ bootBuiltins "min" = some (.builtin "min") ∧ bootBuiltins "sum" = some (.builtin "sum") ∧ bootBuiltins "all" = some (.builtin "all") ∧ bootBuiltins "isinstance" = some (.builtin "isinstance") ∧ bootBuiltins "len" = some (.builtin "len") := by decide +kernel
theorem boot_tys : bootBuiltins "list" = some (.type "list") ∧ bootBuiltins "tuple" = some (.type "tuple") ∧ bootBuiltins "int" = some (.type "int") ∧ bootBuiltins "str" = some (.type "str") ∧ bootBuiltins "bool" = some (.type "bool") ∧ bootBuiltins "dict" = some (.type "dict") := by decide +kernel
def PrimOk (X : Cx) (ad : Str → Addr) (pr : Prim) (x : Str) : Prop := ∃ v, CallR X v (rP X.K ad pr) ∧ ((∃ id, v = .builtin id) ∨ ∃ T, v = .type T) ∧ bootBuiltins x = some v ∧ X.mg x = none ∧ x ≠ ("__name__" : Str) ∧ (x == ("__debug__" : Str)) = false
theorem prim_ok {G : Gst} {L : Nat} {t : Sf} {X : Cx} {p : Par} {pr : Prim} {x : Str} (c : CtxOk G L t X p) (h : primN pr = some x) : PrimOk X p.ad pr x := by
  have hu := c.room.units
  have hc := c.calm
  obtain ⟨b1, b2, b3, b4, b5, b6, b7⟩ := boot_many
  obtain ⟨c1, c2, c3, c4, c5, c6⟩ := boot_tys
  have m : ∀ x ∈ (["len", "list", "tuple", "sorted", "max", "min", "sum", "int"] : List Str), X.mg x = none := fun x hx => c.g.blt x (by
    simp only [List.mem_cons, List.not_mem_nil, or_false] at hx ⊢
    rcases hx with h | h | h | h | h | h | h | h <;> simp [h])
  cases pr <;> first
    | (cases h; done)
    | (cases h; exact ⟨_, prim_len, .inl ⟨_, rfl⟩, b7, m _ (by simp), by decide, by decide⟩)
    | (cases h; exact ⟨_, prim_list, .inr ⟨_, rfl⟩, c1, m _ (by simp), by decide, by decide⟩)
    | (cases h; exact ⟨_, prim_tuple, .inr ⟨_, rfl⟩, c2, m _ (by simp), by decide, by decide⟩)
    | (cases h; exact ⟨_, prim_sorted hu, .inl ⟨_, rfl⟩, b1, m _ (by simp), by decide, by decide⟩)
    | (cases h; exact ⟨_, prim_max hc hu, .inl ⟨_, rfl⟩, b2, m _ (by simp), by decide, by decide⟩)
    | (cases h; exact ⟨_, prim_min hc hu, .inl ⟨_, rfl⟩, b3, m _ (by simp), by decide, by decide⟩)
    | (cases h; exact ⟨_, prim_sum hc, .inl ⟨_, rfl⟩, b4, m _ (by simp), by decide, by decide⟩)
    | (cases h; exact ⟨_, prim_int, .inr ⟨_, rfl⟩, c3, m _ (by simp), by decide, by decide⟩)
    | (cases h; exact ⟨_, prim_max2 hc, .inl ⟨_, rfl⟩, b2, m _ (by simp), by decide, by decide⟩)
    | (cases h; exact ⟨_, prim_min2 hc, .inl ⟨_, rfl⟩, b3, m _ (by simp), by decide, by decide⟩)
end Rf
end

section
set_option Elab.async false
set_option linter.all false
set_option maxRecDepth 100000
set_option maxHeartbeats 4000000
/-! The check of an expression. -/
namespace Rf
open PySem PySem.Spec PyProof.Rows L2
def cstB : Expr → D → Bool
  | .Constant (.int i) _ _, .int j => decide (i = j)
  | .Constant (.bool i) _ _, .bl j => decide (i = j)
  | .Constant .none _ _, .non => true
  | .Constant (.str i) _ _, .str j => decide (i = j)
  | _, _ => false
def sameD : D → D → Bool
  | .int i, .int j => decide (i = j)
  | .bl i, .bl j => decide (i = j)
  | .str i, .str j => decide (i = j)
  | .non, .non => true
  | _, _ => false
theorem sameD_ok : ∀ {a b : D}, sameD a b = true → a = b ∧ ∃ v, scalarV b = some v := fun {a b} h => by
  cases a <;> cases b <;> first
    | (cases h; done)
    | exact ⟨rfl, _, rfl⟩
    | (rw [of_decide_eq_true h]; exact ⟨rfl, _, rfl⟩)
/-- the callee's arguments are of this kind -/
def callB (G : Gst) (t : Sf) (f : FKey) (hd : Ks) (l : IAs) : Bool := match G.sig f with
  | some ks => eqK (hd ++ ksS t.os (shapeA l)) ks && decide (iosS (shapeA l)).Nodup
  | none => false
def mkB (G : Gst) (t : Sf) (C : Str) (sh : Sh) (l : IAs) : Bool := match G.sig (.mt C "__init__") with
  | some (some (.i fl) :: ks) => inI sh (.i fl) && eqK (ksS t.os (shapeA l)) ks && decide (iosS (shapeA l)).Nodup
  | _ => false
def mthoB (G : Gst) (t : Sf) (j : Nat) (C m x : Str) (l : IAs) : Bool := match t.os[j]? with
  | some (i, .i fl) => decide (t.N[i]? = some x) && (match G.sig (.mt C m) with
    | some ks => eqK (some (.i fl) :: ksS t.os (shapeA l)) ks && decide (j :: iosS (shapeA l)).Nodup
    | none => false)
  | _ => false
/-- a clause -/
def clB (t : Sf) (scope : Scope) (own : List (Str × Nat)) (tg iter : Expr) (it : ITg) : Bool :=
  okTg t.N tg it && (ownT tg it).all (fun y => decide (y ∈ own)) && apartO t.os (slotsT it) && plainIter iter
def isTup : Expr → Bool
  | .Tuple _ _ _ => true
  | _ => false
mutual
def ok (G : Gst) : Sf → Sh → Expr → IE → Bool
  | t, sh, e, .var i => isZ sh && (match e with
    | .Name x _ => decide (t.N[i]? = some x) && visB t x && nameB x
    | _ => false)
  | t, sh, e, .cst d => isZ sh && cstB e d
  | t, sh, e, .glb y d => isZ sh && (match e with
    | .Name x _ => decide (x = y) && glB t x && nameB x && (match G.gl x with | some d' => sameD d' d | none => false)
    | _ => false)
  | t, sh, e, .bin op a b => isZ sh && (match e with
    | .BinOp ea o eb _ => decide (o = bopOf op) && ok G t .z ea a && ok G t .z eb b
    | _ => false)
  | t, sh, e, .neg a => isZ sh && (match e with
    | .UnaryOp .USub ea _ => ok G t .z ea a
    | _ => false)
  | t, sh, e, .cmp op a b => isZ sh && (match e with
    | .Compare ea [o] [eb] _ => decide (o = copOf op) && !(behindInMarks (copOf op) eb) && ok G t .z ea a && ok G t .z eb b
    | _ => false)
  | t, sh, e, .chn o1 o2 a b c => isZ sh && (match e with
    | .Compare ea [q1, q2] [eb, ec] _ => decide (q1 = copOf o1) && decide (q2 = copOf o2) && !(lastMarks [copOf o1, copOf o2] [eb, ec]) && ok G t .z ea a && ok G t .z eb b && ok G t .z ec c
    | _ => false)
  | t, sh, e, .not a => isZ sh && (match e with
    | .UnaryOp .Not ea _ => ok G t .z ea a
    | _ => false)
  | t, sh, e, .and a b => isZ sh && (match e with
    | .BoolOp .And [ea, eb] _ => ok G t .z ea a && ok G t .z eb b
    | .BoolOp .And (ea :: eb :: ec :: r) pos => ok G t .z ea a && ok G t .z (.BoolOp .And (eb :: ec :: r) pos) b
    | _ => false)
  | t, sh, e, .or a b => isZ sh && (match e with
    | .BoolOp .Or [ea, eb] _ => ok G t .z ea a && ok G t .z eb b
    | .BoolOp .Or (ea :: eb :: ec :: r) pos => ok G t .z ea a && ok G t .z (.BoolOp .Or (eb :: ec :: r) pos) b
    | _ => false)
  | t, sh, e, .ife c a b => isZ sh && (match e with
    | .IfExp ec ea eb _ => ok G t .z ec c && ok G t .z ea a && ok G t .z eb b
    | _ => false)
  | t, sh, e, .tup l => isZ sh && (match e with
    | .Tuple es _ _ => oks G t .z es l
    | _ => false)
  | t, sh, e, .lst l => (match inL sh with
    | some s => (match e with
      | .List es _ => oks G t s es l
      | _ => false)
    | none => false)
  | t, sh, e, .dd _ .nil => (match inD sh with
    | some _ => (match e with
      | .Dict [] [] _ => true
      | _ => false)
    | none => false)
  | t, sh, e, .dd false (.cons a b .nil) => (match inD sh with
    | some s => isZ s && (match e with
      | .Dict [some ea] [eb] _ => ok G t .z ea a && ok G t .z eb b
      | _ => false)
    | none => false)
  | _, _, _, .dd _ _ => false
  | t, sh, e, .idx a b => isZ sh && (match e with
    | .Subscript ea eb _ => !(isSlice eb) && ok G t .z ea a && ok G t .z eb b
    | _ => false)
  | t, sh, e, .slc a lo hi => isZ sh && (match e with
    | .Subscript ea (.Slice l h none _) _ => ok G t .z ea a && oko G t l lo && oko G t h hi
    | _ => false)
  | t, sh, e, .fld C a f => isZ sh && (match e with
    | .Attribute ea g _ => decide (g = f) && G.isFld C f && baseOk ea && ok G t .z ea a
    | _ => false)
  | t, sh, e, .prp C a f => isZ sh && (match e with
    | .Attribute ea g _ => decide (g = f) && G.isPr C f && baseOk ea && ok G t .z ea a
    | _ => false)
  | t, sh, e, .call f l => isZ sh && (match e with
    | .Call (.Name g _) es [] _ => decide (g = f) && G.isFn f && glB t f && nameB f && callB G t (.fn f) [] l && es.all notStar && oka G t es l
    | _ => false)
  | t, sh, e, .mth C a m l => isZ sh && (match e with
    | .Call (.Attribute ea g apos) es [] pos => decide (g = m) && G.isMt C m && baseOk ea && (apos.endLine == pos.line) && decide (es.length < 30) && callB G t (.mt C m) [none] l && es.all notStar && ok G t .z ea a && oka G t es l
    | _ => false)
  | t, sh, e, .mtho j C m l => isZ sh && (match e with
    | .Call (.Attribute (.Name x _) g apos) es [] pos => decide (g = m) && G.isMt C m && visB t x && nameB x && (apos.endLine == pos.line) && decide (es.length < 30) && mthoB G t j C m x l && es.all notStar && oka G t es l
    | _ => false)
  | t, sh, e, .mk C l => (match e with
    | .Call (.Name g _) (e0 :: es) [] _ => decide (g = C) && G.isMk C && glB t C && nameB C && mkB G t C sh l && (e0 :: es).all notStar && oka G t (e0 :: es) l
    | _ => false)
  | t, sh, e, .prm pr l => isZ sh && (match pr with
    | .isTy T => (match e with
      | .Call (.Name g _) [eo, .Name y _] [] _ => decide (g = ("isinstance" : Str)) && decide (T ∈ isTs) && decide (y = Str.ofString T) && glB t ("isinstance" : Str) && glB t y && notStar eo && oks G t .z [eo] l
      | _ => false)
    | .isCls C => (match e with
      | .Call (.Name g _) [eo, .Name y _] [] _ => decide (g = ("isinstance" : Str)) && decide (y = C) && G.isMk C && nameB C && glB t ("isinstance" : Str) && glB t C && notStar eo && oks G t .z [eo] l
      | _ => false)
    | .isSeq => (match e with
      | .Call (.Name g _) [eo, .Tuple [.Name y1 _, .Name y2 _] _ _] [] _ => decide (g = ("isinstance" : Str)) && decide (y1 = ("tuple" : Str)) && decide (y2 = ("list" : Str)) && glB t ("isinstance" : Str) && glB t ("tuple" : Str) && glB t ("list" : Str) && notStar eo && oks G t .z [eo] l
      | _ => false)
    | .sortset => (match e with
      | .Call (.Name g _) [.Call (.Name g2 _) [eo] [] _] [] _ => decide (g = ("sorted" : Str)) && decide (g2 = ("set" : Str)) && glB t ("sorted" : Str) && glB t ("set" : Str) && notStar eo && oks G t .z [eo] l
      | _ => false)
    | .index => (match e with
      | .Call (.Attribute ea g apos) [eb] [] cpos => decide (g = ("index" : Str)) && baseOk ea && (apos.endLine == cpos.line) && notStar eb && oks G t .z [ea, eb] l
      | _ => false)
    | _ => (match e with
      | .Call (.Name g _) (e0 :: es) [] _ => decide (primN pr = some g) && glB t g && (e0 :: es).all notStar && oks G t .z (e0 :: es) l
      | _ => false))
  | _, _, _, .minkey _ _ => false
  | t, sh, e, .lc ie (.cons it src cs .nil) => (match inL sh with
    | some s => (match e with
      | .ListComp elt [⟨tg, iter, ifs, 0⟩] scope _ => blkN t.N t.nm scope (ownT tg it) && setB scope (ownT tg it) && clB t scope (ownT tg it) tg iter it && oksr G t tg iter src && okc G (t.blk scope) ifs cs && ok G (t.blk scope) s elt ie
      | _ => false)
    | none => false)
  | t, sh, e, .lc ie (.cons it src cs (.cons it1 src1 cs1 .nil)) => (match inL sh with
    | some s => (match e with
      | .ListComp elt [⟨tg, iter, ifs, 0⟩, ⟨tg1, iter1, ifs1, 0⟩] scope _ => blkN t.N t.nm scope (ownT tg it ++ ownT tg1 it1) && setB scope (ownT tg it ++ ownT tg1 it1) && clB t scope (ownT tg it ++ ownT tg1 it1) tg iter it && clB t scope (ownT tg it ++ ownT tg1 it1) tg1 iter1 it1 &&
          (slotsT it1).all (fun i => decide (i ∉ slotsT it)) && oksr G t tg iter src && okc G (t.blk scope) ifs cs && oksr G (t.blk scope) tg1 iter1 src1 && okc G (t.blk scope) ifs1 cs1 && ok G (t.blk scope) s elt ie
      | _ => false)
    | none => false)
  | _, _, _, .lc _ _ => false
  | t, sh, e, .dc false ik ie (.cons it src cs .nil) => (match inD sh with
    | some s => (match e with
      | .DictComp kx vx [⟨tg, iter, ifs, 0⟩] scope _ => blkN t.N t.nm scope (ownT tg it) && setB scope (ownT tg it) && clB t scope (ownT tg it) tg iter it && oksr G t tg iter src && okc G (t.blk scope) ifs cs && ok G (t.blk scope) .z kx ik && ok G (t.blk scope) s vx ie
      | _ => false)
    | none => false)
  | _, _, _, .dc _ _ _ _ => false
  | t, sh, e, .qal ie (.cons it src cs .nil) => isZ sh && (match e with
    | .Call (.Name g _) [.GeneratorExp elt [⟨tg, iter, ifs, 0⟩] scope _] [] _ => decide (g = ("all" : Str)) && t.gen && glB t ("all" : Str) && blkN t.N t.nm scope (ownT tg it) && genB t.N scope (ownT tg it) && clB t scope (ownT tg it) tg iter it && oksr G t tg iter src && okc G (t.gex scope) ifs cs && ok G (t.gex scope) .z elt ie
    | _ => false)
  | _, _, _, .qal _ _ => false
  | t, sh, e, .qan ie (.cons it src cs .nil) => isZ sh && (match e with
    | .Call (.Name g _) [.GeneratorExp elt [⟨tg, iter, ifs, 0⟩] scope _] [] _ => decide (g = ("any" : Str)) && t.gen && glB t ("any" : Str) && blkN t.N t.nm scope (ownT tg it) && genB t.N scope (ownT tg it) && clB t scope (ownT tg it) tg iter it && oksr G t tg iter src && okc G (t.gex scope) ifs cs && ok G (t.gex scope) .z elt ie
    | _ => false)
  | _, _, _, .qan _ _ => false
  | t, sh, e, .view sl ie => isZ sh && decide (sl = t.os.map (·.1)) && ok G { t with os := [] } .z e ie
def oks (G : Gst) : Sf → Sh → List Expr → IEs → Bool
  | _, _, es, .nil => (match es with
    | [] => true
    | _ => false)
  | t, sh, es, .cons ie r => (match es with
    | e :: es => notStar e && ok G t sh e ie && oks G t sh es r
    | [] => false)
def oko (G : Gst) : Sf → Option Expr → IO → Bool
  | _, e, .no => (match e with
    | none => true
    | _ => false)
  | t, e, .yes ie => (match e with
    | some e => ok G t .z e ie
    | none => false)
def oka (G : Gst) : Sf → List Expr → IAs → Bool
  | _, es, .nil => (match es with
    | [] => true
    | _ => false)
  | t, es, .fz ie r => (match es with
    | e :: es => notStar e && ok G t .z e ie && oka G t es r
    | [] => false)
  | t, es, .io j r => (match es with
    | .Name x _ :: es => visB t x && nameB x && (match t.os[j]? with | some (i, _) => decide (t.N[i]? = some x) | none => false) && oka G t es r
    | _ => false)
def okc (G : Gst) : Sf → List Expr → IEs → Bool
  | _, es, .nil => (match es with
    | [] => true
    | _ => false)
  | t, es, .cons ie .nil => (match es with
    | [e] => ok G t .z e ie
    | _ => false)
  | _, _, .cons _ (.cons _ _) => false
def oksr (G : Gst) : Sf → Expr → Expr → ISrc → Bool
  | t, _, e, .val ie => ok G t .z e ie
  | t, _, e, .rng1 ie => (match e with
    | .Call (.Name g _) [a] [] _ => decide (g = ("range" : Str)) && glB t ("range" : Str) && notStar a && ok G t .z a ie
    | _ => false)
  | t, _, e, .rng2 ia ib => (match e with
    | .Call (.Name g _) [a, b] [] _ => decide (g = ("range" : Str)) && glB t ("range" : Str) && notStar a && notStar b && ok G t .z a ia && ok G t .z b ib
    | _ => false)
  | t, tg, e, .zip2 ia ib => isTup tg && (match e with
    | .Call (.Name g _) [a, b] [] _ => decide (g = ("zip" : Str)) && glB t ("zip" : Str) && notStar a && notStar b && ok G t .z a ia && ok G t .z b ib
    | _ => false)
  | t, tg, e, .enum ie => isTup tg && (match e with
    | .Call (.Name g _) [a] [] _ => decide (g = ("enumerate" : Str)) && glB t ("enumerate" : Str) && notStar a && ok G t .z a ie
    | _ => false)
  | _, _, _, .items _ => false
end
end Rf
end

section
set_option Elab.async false
set_option linter.all false
set_option maxRecDepth 100000
set_option maxHeartbeats 4000000
/-! The check of an expression is right. -/
namespace Rf
open PySem PySem.Spec PyProof.Rows L2
section
variable {G : Gst} {L : Nat} {t : Sf} {X : Cx} {p : Par} {sh : Sh} {e : Expr}
theorem clB_ok {scope : Scope} {own : List (Str × Nat)} {tg iter : Expr} {it : ITg} (h : clB t scope own tg iter it = true) : ClOk t scope own tg iter it := by
  unfold clB at h
  simp only [Bool.and_eq_true, List.all_eq_true, decide_eq_true_eq] at h
  exact ⟨h.1.1.1, h.1.1.2, h.1.2, h.2⟩
theorem callB_ok {f : FKey} {hd : Ks} {l : IAs} (h : callB G t f hd l = true) : ∃ ks, G.sig f = some (hd ++ ks) ∧ ks = ksS t.os (shapeA l) ∧ (iosS (shapeA l)).Nodup := by
  unfold callB at h
  split at h
  · rename_i ks e
    rw [Bool.and_eq_true, decide_eq_true_eq] at h
    exact ⟨_, by rw [e, ← eqK_ok h.1], rfl, h.2⟩
  · cases h
theorem kind_blk {N : List Str} {nm : List (Str × NameKind)} {scope : Scope} {own : List (Str × Nat)} (h : blkN N nm scope own = true) : scope.kind = .function := by
  unfold blkN at h
  simp only [Bool.and_eq_true] at h
  have q := h.1.1.1
  split at q
  · assumption
  · cases q
theorem blk_os {p : Par} (c : CtxOk G L t X p) : CtxOk G L { t with os := [] } X { p with os := [] } := ⟨c.g, c.N, c.nm, c.kd, c.nd, c.calm, rfl, c.rm, c.gen⟩
mutual
theorem ok_s : ∀ (ie : IE) (t : Sf) (sh : Sh) (e : Expr) (X : Cx) (p : Par), CtxOk G L t X p → ok G t sh e ie = true → OutE X p sh e ie
  | .var i, t, sh, e, X, p, c, h => by
    simp only [ok, Bool.and_eq_true] at h
    obtain ⟨hz, h⟩ := h
    split at h
    · rename_i x pos
      simp only [Bool.and_eq_true, decide_eq_true_eq] at h
      obtain ⟨⟨h1, h2⟩, h3⟩ := h
      obtain ⟨n1, n2, n3⟩ := nameB_ok h3
      exact .ofS hz (fun _ _ => rfl) (fun _ _ _ => by simp) (se_var (by rw [c.N]; exact h1) (visB_ok c h2) n1 n2)
    · cases h
  | .cst d, t, sh, e, X, p, c, h => by
    simp only [ok, Bool.and_eq_true] at h
    obtain ⟨hz, h⟩ := h
    unfold cstB at h
    split at h
    · rw [← of_decide_eq_true h]; exact .ofS hz (fun _ _ => rfl) (fun _ _ _ => by simp) se_cst_int
    · rw [← of_decide_eq_true h]; exact .ofS hz (fun _ _ => rfl) (fun _ _ _ => by simp) se_cst_bl
    · exact .ofS hz (fun _ _ => rfl) (fun _ _ _ => by simp) se_cst_non
    · rw [← of_decide_eq_true h]; exact .ofS hz (fun _ _ => rfl) (fun _ _ _ => by simp) se_cst_str
    · cases h
  | .glb y d, t, sh, e, X, p, c, h => by
    simp only [ok, Bool.and_eq_true] at h
    obtain ⟨hz, h⟩ := h
    split at h
    · rename_i x pos
      simp only [Bool.and_eq_true, decide_eq_true_eq] at h
      obtain ⟨⟨⟨h1, h2⟩, h3⟩, h4⟩ := h
      subst h1
      obtain ⟨n1, n2, n3⟩ := nameB_ok h3
      split at h4
      · rename_i d' e1
        obtain ⟨e2, v, e3⟩ := sameD_ok h4
        subst e2
        obtain ⟨v', u, hm, r, hs⟩ := c.g.gl x _ e1
        exact .ofS hz (fun _ _ => rfl) (fun _ _ _ => by simp) (se_glb (glB_ok c h2) hm r hs n1)
      · cases h4
    · cases h
  | .bin op a b, t, sh, e, X, p, c, h => by
    simp only [ok, Bool.and_eq_true] at h
    obtain ⟨hz, h⟩ := h
    split at h
    · simp only [Bool.and_eq_true, decide_eq_true_eq] at h
      obtain ⟨⟨h1, h2⟩, h3⟩ := h
      subst h1
      exact .ofS hz (fun _ _ => rfl) (fun _ _ _ => by simp) (se_bin (ok_s a t .z _ X p c h2).z.se (ok_s b t .z _ X p c h3).z.se)
    · cases h
  | .neg a, t, sh, e, X, p, c, h => by
    simp only [ok, Bool.and_eq_true] at h
    obtain ⟨hz, h⟩ := h
    split at h
    · exact .ofS hz (fun _ _ => rfl) (fun _ _ _ => by simp) (se_neg (ok_s a t .z _ X p c h).z.se)
    · cases h
  | .cmp op a b, t, sh, e, X, p, c, h => by
    simp only [ok, Bool.and_eq_true] at h
    obtain ⟨hz, h⟩ := h
    split at h
    · simp only [Bool.and_eq_true, decide_eq_true_eq, Bool.not_eq_true'] at h
      obtain ⟨⟨⟨h1, h2⟩, h3⟩, h4⟩ := h
      subst h1
      exact .ofJ hz (J.cmp c.room.units (ok_s a t .z _ X p c h3).z (ok_s b t .z _ X p c h4).z h2)
    · cases h
  | .chn o1 o2 a b cc, t, sh, e, X, p, c, h => by
    simp only [ok, Bool.and_eq_true] at h
    obtain ⟨hz, h⟩ := h
    split at h
    · simp only [Bool.and_eq_true, decide_eq_true_eq, Bool.not_eq_true'] at h
      obtain ⟨⟨⟨⟨⟨h1, h2⟩, h3⟩, h4⟩, h5⟩, h6⟩ := h
      subst h1 h2
      exact .ofJ hz (J.chn c.room.units (ok_s a t .z _ X p c h4).z (ok_s b t .z _ X p c h5).z (ok_s cc t .z _ X p c h6).z h3)
    · cases h
  | .not a, t, sh, e, X, p, c, h => by
    simp only [ok, Bool.and_eq_true] at h
    obtain ⟨hz, h⟩ := h
    split at h
    · exact .ofJ hz (J.not (ok_s a t .z _ X p c h).z)
    · cases h
  | .and a b, t, sh, e, X, p, c, h => by
    simp only [ok, Bool.and_eq_true] at h
    obtain ⟨hz, h⟩ := h
    split at h
    · rw [Bool.and_eq_true] at h
      exact .ofJ hz (J.and (ok_s a t .z _ X p c h.1).z (J.one (ok_s b t .z _ X p c h.2).z))
    · rw [Bool.and_eq_true] at h
      exact .ofJ hz (J.and (ok_s a t .z _ X p c h.1).z (ok_s b t .z _ X p c h.2).z)
    · cases h
  | .or a b, t, sh, e, X, p, c, h => by
    simp only [ok, Bool.and_eq_true] at h
    obtain ⟨hz, h⟩ := h
    split at h
    · rw [Bool.and_eq_true] at h
      exact .ofJ hz (J.or (ok_s a t .z _ X p c h.1).z (J.one (ok_s b t .z _ X p c h.2).z))
    · rw [Bool.and_eq_true] at h
      exact .ofJ hz (J.or (ok_s a t .z _ X p c h.1).z (ok_s b t .z _ X p c h.2).z)
    · cases h
  | .ife cc a b, t, sh, e, X, p, c, h => by
    simp only [ok, Bool.and_eq_true] at h
    obtain ⟨hz, h⟩ := h
    split at h
    · simp only [Bool.and_eq_true] at h
      exact .ofJ hz (J.ife (ok_s cc t .z _ X p c h.1.1).z (ok_s a t .z _ X p c h.1.2).z (ok_s b t .z _ X p c h.2).z)
    · cases h
  | .tup l, t, sh, e, X, p, c, h => by
    simp only [ok, Bool.and_eq_true] at h
    obtain ⟨hz, h⟩ := h
    split at h
    · exact .ofS hz (fun _ _ => rfl) (fun _ _ _ => by simp) (se_tup (oks_s l t .z _ X p c h))
    · cases h
  | .lst l, t, sh, e, X, p, c, h => by
    simp only [ok] at h
    split at h
    · rename_i s hs
      split at h
      · exact .ofL (fun _ _ => rfl) (fun _ _ _ => by simp) hs (fe_lst (oks_s l t s _ X p c h))
      · cases h
    · cases h
  | .dd _ .nil, t, sh, e, X, p, c, h => by
    simp only [ok] at h
    split at h
    · rename_i s hs
      split at h
      · exact .ofD (fun _ _ => rfl) (fun _ _ _ => by simp) hs fe_dd0
      · cases h
    · cases h
  | .dd false (.cons a b .nil), t, sh, e, X, p, c, h => by
    simp only [ok] at h
    split at h
    · rename_i s hs
      rw [Bool.and_eq_true] at h
      obtain ⟨hz, h⟩ := h
      split at h
      · rw [Bool.and_eq_true] at h
        rw [isZ_ok hz] at hs
        exact .ofD (fun _ _ => rfl) (fun _ _ _ => by simp) hs (fe_dd1 (ok_s a t .z _ X p c h.1).z.se (ok_s b t .z _ X p c h.2).z.se)
      · cases h
    · cases h
  | .dd true (.cons _ _ _), t, sh, e, X, p, c, h => by
    simp [ok] at h
  | .dd false (.cons _ _ (.cons _ _ _)), t, sh, e, X, p, c, h => by
    simp [ok] at h
  | .idx a b, t, sh, e, X, p, c, h => by
    simp only [ok, Bool.and_eq_true] at h
    obtain ⟨hz, h⟩ := h
    split at h
    · simp only [Bool.and_eq_true, Bool.not_eq_true'] at h
      exact .ofS hz (fun _ _ => rfl) (fun _ _ _ => by simp) (se_idx c.room.units (ok_s a t .z _ X p c h.1.2).z.se (ok_s b t .z _ X p c h.2).z.se h.1.1)
    · cases h
  | .slc a lo hi, t, sh, e, X, p, c, h => by
    simp only [ok, Bool.and_eq_true] at h
    obtain ⟨hz, h⟩ := h
    split at h
    · simp only [Bool.and_eq_true] at h
      exact .ofS hz (fun _ _ => rfl) (fun _ _ _ => by simp) (se_slc (ok_s a t .z _ X p c h.1.1).z.se (oko_s lo t _ X p c h.1.2) (oko_s hi t _ X p c h.2))
    · cases h
  | .fld C a f, t, sh, e, X, p, c, h => by
    simp only [ok, Bool.and_eq_true] at h
    obtain ⟨hz, h⟩ := h
    split at h
    · simp only [Bool.and_eq_true, decide_eq_true_eq] at h
      obtain ⟨⟨⟨h1, h2⟩, h3⟩, h4⟩ := h
      subst h1
      obtain ⟨c1, c2⟩ := c.g.fld _ _ h2
      exact .ofS hz (fun _ _ => rfl) (fun _ _ _ => by simp) (se_fld h3 c1 c2 (ok_s a t .z _ X p c h4).z.se)
    · cases h
  | .prp C a f, t, sh, e, X, p, c, h => by
    simp only [ok, Bool.and_eq_true] at h
    obtain ⟨hz, h⟩ := h
    split at h
    · simp only [Bool.and_eq_true, decide_eq_true_eq] at h
      obtain ⟨⟨⟨h1, h2⟩, h3⟩, h4⟩ := h
      subst h1
      obtain ⟨pa, g, fd, ps, c1, c2, c3, c4⟩ := c.g.pr _ _ h2
      exact .ofS hz (fun _ _ => rfl) (fun _ _ _ => by simp) (se_prp c1 c2 c3 c4 c.room (Nat.le_refl _) h3 (ok_s a t .z _ X p c h4).z.se)
    · cases h
  | .call f l, t, sh, e, X, p, c, h => by
    simp only [ok, Bool.and_eq_true] at h
    obtain ⟨hz, h⟩ := h
    split at h
    · rename_i g p0 es pos
      simp only [Bool.and_eq_true, decide_eq_true_eq] at h
      obtain ⟨⟨⟨⟨⟨⟨h1, h2⟩, h3⟩, h4⟩, h5⟩, h6⟩, h7⟩ := h
      subst h1
      obtain ⟨ks, e1, e2, nd⟩ := callB_ok h5
      rw [List.nil_append] at e1
      have cal := c.g.fn _ _ h2 e1
      have n1 := (nameB_ok h4).1
      cases es with
      | nil =>
        have hl : l = .nil := by
          cases l with
          | nil => rfl
          | fz _ _ => simp [oka] at h7
          | io _ _ => simp [oka] at h7
        subst hl
        exact .ofS hz (fun _ _ => rfl) (fun _ _ _ => by simp) (se_call0 cal c.room (Nat.le_succ _) (glB_ok c h3) n1 e2)
      | cons e0 es => exact .ofS hz (fun _ _ => rfl) (fun _ _ _ => by simp) (se_call cal c.room (Nat.le_succ _) (glB_ok c h3) n1 (oka_s l t _ X p c h7) h6 (by rw [c.os, e2]) nd)
    · cases h
  | .mth C a m l, t, sh, e, X, p, c, h => by
    simp only [ok, Bool.and_eq_true] at h
    obtain ⟨hz, h⟩ := h
    split at h
    · rename_i ea g apos es pos
      simp only [Bool.and_eq_true, decide_eq_true_eq] at h
      obtain ⟨⟨⟨⟨⟨⟨⟨⟨h1, h2⟩, h3⟩, h4⟩, h5⟩, h6⟩, h7⟩, h8⟩, h9⟩ := h
      subst h1
      obtain ⟨ks, e1, e2, nd⟩ := callB_ok h6
      have met := c.g.mt _ _ _ h2 e1
      cases es with
      | nil =>
        have hl : l = .nil := by
          cases l with
          | nil => rfl
          | fz _ _ => simp [oka] at h9
          | io _ _ => simp [oka] at h9
        subst hl
        have e3 : ks = [] := e2
        subst e3
        exact .ofS hz (fun _ _ => rfl) (fun _ _ _ => by simp) (se_mth0 met c.room (Nat.le_succ _) h3 h4 (ok_s a t .z _ X p c h8).z.se)
      | cons e0 es => exact .ofS hz (fun _ _ => rfl) (fun _ _ _ => by simp) (se_mth met c.room (Nat.le_succ _) h3 h4 (ok_s a t .z _ X p c h8).z.se (oka_s l t _ X p c h9) h7 h5 (by rw [c.os, e2]; rfl) nd)
    · cases h
  | .mtho j C m l, t, sh, e, X, p, c, h => by
    simp only [ok, Bool.and_eq_true] at h
    obtain ⟨hz, h⟩ := h
    split at h
    · rename_i x px g apos es pos
      simp only [Bool.and_eq_true, decide_eq_true_eq] at h
      obtain ⟨⟨⟨⟨⟨⟨⟨⟨h1, h2⟩, h3⟩, h4⟩, h5⟩, h6⟩, h7⟩, h8⟩, h9⟩ := h
      subst h1
      obtain ⟨n1, n2, n3⟩ := nameB_ok h4
      unfold mthoB at h7
      split at h7
      · rename_i i fl ej
        rw [Bool.and_eq_true, decide_eq_true_eq] at h7
        obtain ⟨hN, h7⟩ := h7
        split at h7
        · rename_i ks e1
          rw [Bool.and_eq_true, decide_eq_true_eq] at h7
          rw [← eqK_ok h7.1] at e1
          have met := c.g.mt _ _ _ h2 e1
          cases es with
          | nil =>
            have hl : l = .nil := by
              cases l with
              | nil => rfl
              | fz _ _ => simp [oka] at h9
              | io _ _ => simp [oka] at h9
            subst hl
            exact .ofS hz (fun _ _ => rfl) (fun _ _ _ => by simp) (se_mtho0 met c.room (Nat.le_succ _) (by rw [c.os]; exact ej) ⟨fl, rfl⟩ (by rw [c.N]; exact hN) (visB_ok c h3) n1 n2 h5)
          | cons e0 es => exact .ofS hz (fun _ _ => rfl) (fun _ _ _ => by simp) (se_mtho met c.room (Nat.le_succ _) (by rw [c.os]; exact ej) ⟨fl, rfl⟩ (by rw [c.N]; exact hN) (visB_ok c h3) n1 n2 h5 (oka_s l t _ X p c h9) h8 h6 (by rw [c.os]) h7.2)
        · cases h7
      · cases h7
    · cases h
  | .mk C l, t, sh, e, X, p, c, h => by
    simp only [ok] at h
    split at h
    · rename_i g p0 e0 es pos
      simp only [Bool.and_eq_true, decide_eq_true_eq] at h
      obtain ⟨⟨⟨⟨⟨⟨h1, h2⟩, h3⟩, h4⟩, h5⟩, h6⟩, h7⟩ := h
      subst h1
      unfold mkB at h5
      split at h5
      · rename_i fl ks e1
        simp only [Bool.and_eq_true, decide_eq_true_eq] at h5
        have mak := c.g.mak _ _ h2 e1
        exact .ofI (fun _ _ => rfl) (fun _ _ _ => by simp) h5.1.1 (fe_mk mak c.room (Nat.le_refl _) (glB_ok c h3) (nameB_ok h4).1 (oka_s l t _ X p c h7) h6 (by rw [c.os]; exact eqK_ok h5.1.2) h5.2)
      · cases h5
    · cases h
  | .prm pr l, t, sh, e, X, p, c, h => by
    simp only [ok, Bool.and_eq_true] at h
    obtain ⟨hz, h⟩ := h
    obtain ⟨b1, b2, b3, b4, b5, b6, b7⟩ := boot_many
    obtain ⟨c1, c2, c3, c4, c5, c6⟩ := boot_tys
    split at h
    · rename_i T
      split at h
      · rename_i g p0 eo y p1 pos
        simp only [Bool.and_eq_true, decide_eq_true_eq] at h
        obtain ⟨⟨⟨⟨⟨⟨h1, h2⟩, h3⟩, h4⟩, h5⟩, h6⟩, h7⟩ := h
        subst h1 h3
        cases l with
        | nil => simp [oks] at h7
        | cons io r =>
          cases r with
          | cons _ _ => simp [oks] at h7
          | nil =>
            simp only [oks, Bool.and_eq_true] at h7
            have ho := (ok_s io t .z _ X p c h7.1.2).z.se
            have key : X.mg (Str.ofString T) = none ∧ bootBuiltins (Str.ofString T) = some (.type T) ∧ Str.ofString T ≠ ("__name__" : Str) ∧ (Str.ofString T == ("__debug__" : Str)) = false := by
              have h2' := h2
              simp only [isTs, List.mem_cons, List.not_mem_nil, or_false] at h2'
              rcases h2' with rfl | rfl | rfl | rfl | rfl | rfl
              · exact ⟨c.g.blt _ (by simp), c2, by decide, by decide⟩
              · exact ⟨c.g.blt _ (by simp), c4, by decide, by decide⟩
              · exact ⟨c.g.blt _ (by simp), c3, by decide, by decide⟩
              · exact ⟨c.g.blt _ (by simp), c5, by decide, by decide⟩
              · exact ⟨c.g.blt _ (by simp), c1, by decide, by decide⟩
              · exact ⟨c.g.blt _ (by simp), c6, by decide, by decide⟩
            exact .ofS hz (fun _ _ => rfl) (fun _ _ _ => by simp) (se_isTy h2 (glB_ok c h4) (c.g.blt _ (by simp)) b6 (glB_ok c h5) key.1 key.2.1 key.2.2.1 key.2.2.2 ho h6)
      · cases h
    · rename_i C
      split at h
      · rename_i g p0 eo y p1 pos
        simp only [Bool.and_eq_true, decide_eq_true_eq] at h
        obtain ⟨⟨⟨⟨⟨⟨⟨h1, h2⟩, h3⟩, h4⟩, h5⟩, h6⟩, h7⟩, h8⟩ := h
        subst h1 h2
        cases l with
        | nil => simp [oks] at h8
        | cons io r =>
          cases r with
          | cons _ _ => simp [oks] at h8
          | nil =>
            simp only [oks, Bool.and_eq_true] at h8
            obtain ⟨⟨u, hu, eu⟩, ic⟩ := c.g.isi _ h3
            exact .ofS hz (fun _ _ => rfl) (fun _ _ _ => by simp) (se_isCls (u := u) (glB_ok c h5) (c.g.blt _ (by simp)) b6 (glB_ok c h6) (by rw [hu, eu]) (nameB_ok h4).1 ic (ok_s io t .z _ X p c h8.1.2).z.se h7)
      · cases h
    · split at h
      · rename_i g p0 eo y1 p1 y2 p2 k1 p3 pos
        simp only [Bool.and_eq_true, decide_eq_true_eq] at h
        obtain ⟨⟨⟨⟨⟨⟨⟨h1, h2⟩, h3⟩, h4⟩, h5⟩, h6⟩, h7⟩, h8⟩ := h
        subst h1 h2 h3
        cases l with
        | nil => simp [oks] at h8
        | cons io r =>
          cases r with
          | cons _ _ => simp [oks] at h8
          | nil =>
            simp only [oks, Bool.and_eq_true] at h8
            exact .ofS hz (fun _ _ => rfl) (fun _ _ _ => by simp) (se_isSeq (glB_ok c h4) (c.g.blt _ (by simp)) b6 (glB_ok c h5) (c.g.blt _ (by simp)) c2 (glB_ok c h6) (c.g.blt _ (by simp)) c1 (ok_s io t .z _ X p c h8.1.2).z.se h7)
      · cases h
    · split at h
      · rename_i g p0 g2 p1 eo p2 pos
        simp only [Bool.and_eq_true, decide_eq_true_eq] at h
        obtain ⟨⟨⟨⟨⟨h1, h2⟩, h3⟩, h4⟩, h5⟩, h6⟩ := h
        subst h1 h2
        cases l with
        | nil => simp [oks] at h6
        | cons io r =>
          cases r with
          | cons _ _ => simp [oks] at h6
          | nil =>
            simp only [oks, Bool.and_eq_true] at h6
            exact .ofS hz (fun _ _ => rfl) (fun _ _ _ => by simp) (se_sos (glB_ok c h3) (c.g.blt _ (by simp)) (glB_ok c h4) (c.g.blt _ (by simp)) c.calm c.room.units h5 (ok_s io t .z _ X p c h6.1.2).z.se)
      · cases h
    · split at h
      · rename_i ea g apos eb cpos
        simp only [Bool.and_eq_true, decide_eq_true_eq] at h
        obtain ⟨⟨⟨⟨h1, h2⟩, h3⟩, h4⟩, h5⟩ := h
        subst h1
        cases l with
        | nil => simp [oks] at h5
        | cons io r =>
          cases r with
          | nil => simp [oks] at h5
          | cons io2 r2 =>
            cases r2 with
            | cons _ _ => simp [oks] at h5
            | nil =>
              simp only [oks, Bool.and_eq_true] at h5
              exact .ofS hz (fun _ _ => rfl) (fun _ _ _ => by simp) (se_index h2 h3 h4 (ok_s io t .z _ X p c h5.1.2).z.se (ok_s io2 t .z _ X p c h5.2.1.2).z.se)
      · cases h
    · split at h
      · rename_i g p0 e0 es pos
        simp only [Bool.and_eq_true, decide_eq_true_eq] at h
        obtain ⟨⟨⟨h1, h2⟩, h3⟩, h4⟩ := h
        obtain ⟨v, q1, q2, q3, q4, q5, q6⟩ := prim_ok c h1
        exact .ofS hz (fun _ _ => rfl) (fun _ _ _ => by simp) (se_prm q1 q2 (glB_ok c h2) q4 q3 q5 q6 (oks_s l t .z _ X p c h4) h3)
      · cases h
  | .minkey _ _, t, sh, e, X, p, c, h => by
    simp [ok] at h
  | .lc ie (.cons it src cs .nil), t, sh, e, X, p, c, h => by
    simp only [ok] at h
    split at h
    · rename_i s hs
      split at h
      · simp only [Bool.and_eq_true] at h
        obtain ⟨⟨⟨⟨⟨h1, h2⟩, h3⟩, h4⟩, h5⟩, h6⟩ := h
        have cb := c.blk (kind_blk h1)
        exact .ofL (fun _ _ => rfl) (fun _ _ _ => by simp) hs (fe_lc1 c h1 h2 (clB_ok h3) (oksr_s src t _ _ X p c h4) (fun s H C cl fp => okc_s cs _ _ _ p (cb s H C cl fp) h5) (fun s H C cl fp => (ok_s ie _ _ _ _ p (cb s H C cl fp) h6).fe))
      · cases h
    · cases h
  | .lc ie (.cons it src cs (.cons it1 src1 cs1 .nil)), t, sh, e, X, p, c, h => by
    simp only [ok] at h
    split at h
    · rename_i s hs
      split at h
      · simp only [Bool.and_eq_true] at h
        obtain ⟨⟨⟨⟨⟨⟨⟨⟨⟨h1, h2⟩, h3⟩, h4⟩, h5⟩, h6⟩, h7⟩, h8⟩, h9⟩, h10⟩ := h
        have cb := c.blk (kind_blk h1)
        exact .ofL (fun _ _ => rfl) (fun _ _ _ => by simp) hs (fe_lc2 c rfl h1 h2 (clB_ok h3) (clB_ok h4) h5 (oksr_s src t _ _ X p c h6) (fun s H C cl fp => okc_s cs _ _ _ p (cb s H C cl fp) h7) (fun s H C cl fp => oksr_s src1 _ _ _ _ p (cb s H C cl fp) h8) (fun s H C cl fp => okc_s cs1 _ _ _ p (cb s H C cl fp) h9) (fun s H C cl fp => (ok_s ie _ _ _ _ p (cb s H C cl fp) h10).fe))
      · cases h
    · cases h
  | .lc ie .nil, t, sh, e, X, p, c, h => by simp [ok] at h
  | .lc ie (.cons it src cs (.cons it1 src1 cs1 (.cons _ _ _ _))), t, sh, e, X, p, c, h => by simp [ok] at h
  | .dc false ik ie (.cons it src cs .nil), t, sh, e, X, p, c, h => by
    simp only [ok] at h
    split at h
    · rename_i s hs
      split at h
      · simp only [Bool.and_eq_true] at h
        obtain ⟨⟨⟨⟨⟨⟨h1, h2⟩, h3⟩, h4⟩, h5⟩, h6⟩, h7⟩ := h
        have cb := c.blk (kind_blk h1)
        exact .ofD (fun _ _ => rfl) (fun _ _ _ => by simp) hs (fe_dc1 c h1 h2 (clB_ok h3) (oksr_s src t _ _ X p c h4) (fun s H C cl fp => okc_s cs _ _ _ p (cb s H C cl fp) h5) (fun s H C cl fp => (ok_s ik _ _ _ _ p (cb s H C cl fp) h6).fe) (fun s H C cl fp => (ok_s ie _ _ _ _ p (cb s H C cl fp) h7).fe))
      · cases h
    · cases h
  | .dc true _ _ _, t, sh, e, X, p, c, h => by simp [ok] at h
  | .dc false _ _ .nil, t, sh, e, X, p, c, h => by simp [ok] at h
  | .dc false _ _ (.cons _ _ _ (.cons _ _ _ _)), t, sh, e, X, p, c, h => by simp [ok] at h
  | .qal ie (.cons it src cs .nil), t, sh, e, X, p, c, h => by
    simp only [ok, Bool.and_eq_true] at h
    obtain ⟨hz, h⟩ := h
    obtain ⟨b1, b2, b3, b4, b5, b6, b7⟩ := boot_many
    split at h
    · simp only [Bool.and_eq_true, decide_eq_true_eq] at h
      obtain ⟨⟨⟨⟨⟨⟨⟨⟨h1, h2⟩, h3⟩, h4⟩, h5⟩, h6⟩, h7⟩, h8⟩, h9⟩ := h
      subst h1
      have cb := c.gex h2 (kind_blk h4)
      exact .ofS hz (fun _ _ => rfl) (fun _ _ _ => by simp) (se_qal c h2 (glB_ok c h3) (c.g.blt _ (by simp)) b5 h4 h5 (clB_ok h6) (oksr_s src t _ _ X p c h7) (fun s H cl C code A fp pn hr => okc_s cs _ _ _ p (cb s H cl C code A fp pn hr) h8) (fun s H cl C code A fp pn hr => (ok_s ie _ _ _ _ p (cb s H cl C code A fp pn hr) h9).z.se))
    · cases h
  | .qal _ .nil, t, sh, e, X, p, c, h => by simp [ok] at h
  | .qal _ (.cons _ _ _ (.cons _ _ _ _)), t, sh, e, X, p, c, h => by simp [ok] at h
  | .qan ie (.cons it src cs .nil), t, sh, e, X, p, c, h => by
    simp only [ok, Bool.and_eq_true] at h
    obtain ⟨hz, h⟩ := h
    split at h
    · simp only [Bool.and_eq_true, decide_eq_true_eq] at h
      obtain ⟨⟨⟨⟨⟨⟨⟨⟨h1, h2⟩, h3⟩, h4⟩, h5⟩, h6⟩, h7⟩, h8⟩, h9⟩ := h
      subst h1
      have cb := c.gex h2 (kind_blk h4)
      exact .ofS hz (fun _ _ => rfl) (fun _ _ _ => by simp) (se_qan c h2 (glB_ok c h3) (c.g.blt _ (by simp)) h4 h5 (clB_ok h6) (oksr_s src t _ _ X p c h7) (fun s H cl C code A fp pn hr => okc_s cs _ _ _ p (cb s H cl C code A fp pn hr) h8) (fun s H cl C code A fp pn hr => (ok_s ie _ _ _ _ p (cb s H cl C code A fp pn hr) h9).z.se))
    · cases h
  | .qan _ .nil, t, sh, e, X, p, c, h => by simp [ok] at h
  | .qan _ (.cons _ _ _ (.cons _ _ _ _)), t, sh, e, X, p, c, h => by simp [ok] at h
  | .view sl ie, t, sh, e, X, p, c, h => by
    simp only [ok, Bool.and_eq_true, decide_eq_true_eq] at h
    exact .ofJ h.1.1 (J.view (by rw [c.os]; exact h.1.2) (ok_s ie _ .z _ X _ (blk_os c) h.2).z)
theorem oks_s : ∀ (l : IEs) (t : Sf) (sh : Sh) (es : List Expr) (X : Cx) (p : Par), CtxOk G L t X p → oks G t sh es l = true → FEs X p es l sh
  | .nil, t, sh, es, X, p, c, h => by
    cases es with
    | nil => exact fes_nil
    | cons _ _ => simp [oks] at h
  | .cons ie r, t, sh, es, X, p, c, h => by
    cases es with
    | nil => simp [oks] at h
    | cons e es =>
      simp only [oks, Bool.and_eq_true] at h
      exact fes_cons h.1.1 (ok_s ie t sh e X p c h.1.2).fe (oks_s r t sh es X p c h.2)
theorem oko_s : ∀ (o : IO) (t : Sf) (e : Option Expr) (X : Cx) (p : Par), CtxOk G L t X p → oko G t e o = true → SO X p e o
  | .no, t, e, X, p, c, h => by
    cases e with
    | none => exact so_no
    | some _ => simp [oko] at h
  | .yes ie, t, e, X, p, c, h => by
    cases e with
    | none => simp [oko] at h
    | some e => exact so_yes (ok_s ie t .z e X p c (by simpa [oko] using h)).z.se
theorem oka_s : ∀ (l : IAs) (t : Sf) (es : List Expr) (X : Cx) (p : Par), CtxOk G L t X p → oka G t es l = true → SA X p es l
  | .nil, t, es, X, p, c, h => by
    cases es with
    | nil => exact sa_nil
    | cons _ _ => simp [oka] at h
  | .fz ie r, t, es, X, p, c, h => by
    cases es with
    | nil => simp [oka] at h
    | cons e es =>
      simp only [oka, Bool.and_eq_true] at h
      exact sa_fz h.1.1 (ok_s ie t .z e X p c h.1.2).z.se (oka_s r t es X p c h.2)
  | .io j r, t, es, X, p, c, h => by
    simp only [oka] at h
    split at h
    · rename_i x pos es
      simp only [Bool.and_eq_true] at h
      obtain ⟨⟨⟨h1, h2⟩, h3⟩, h4⟩ := h
      obtain ⟨n1, n2, n3⟩ := nameB_ok h2
      split at h3
      · rename_i i s ej
        exact sa_io (by rw [c.os]; exact ej) (by rw [c.N]; exact of_decide_eq_true h3) (visB_ok c h1) n1 n2 (oka_s r t es X p c h4)
      · cases h3
    · cases h
theorem okc_s : ∀ (l : IEs) (t : Sf) (es : List Expr) (X : Cx) (p : Par), CtxOk G L t X p → okc G t es l = true → PTs X es (tCs X.K p l)
  | .nil, t, es, X, p, c, h => by
    cases es with
    | nil => exact pts_no
    | cons _ _ => simp [okc] at h
  | .cons ie .nil, t, es, X, p, c, h => by
    simp only [okc] at h
    split at h
    · exact pts_yes (ok_s ie t .z _ X p c h).z.st
    · cases h
  | .cons _ (.cons _ _), t, es, X, p, c, h => by simp [okc] at h
theorem oksr_s : ∀ (s : ISrc) (t : Sf) (tg e : Expr) (X : Cx) (p : Par), CtxOk G L t X p → oksr G t tg e s = true → SI X p tg e s
  | .val ie, t, tg, e, X, p, c, h => by
    simp only [oksr] at h
    exact si_val (ok_s ie t .z e X p c h).z.se
  | .rng1 ie, t, tg, e, X, p, c, h => by
    simp only [oksr] at h
    split at h
    · simp only [Bool.and_eq_true, decide_eq_true_eq] at h
      obtain ⟨⟨⟨h1, h2⟩, h3⟩, h4⟩ := h
      subst h1
      exact si_rng1 (glB_ok c h2) (c.g.blt _ (by simp)) h3 (ok_s ie t .z _ X p c h4).z.se
    · cases h
  | .rng2 ia ib, t, tg, e, X, p, c, h => by
    simp only [oksr] at h
    split at h
    · simp only [Bool.and_eq_true, decide_eq_true_eq] at h
      obtain ⟨⟨⟨⟨⟨h1, h2⟩, h3⟩, h4⟩, h5⟩, h6⟩ := h
      subst h1
      exact si_rng2 (glB_ok c h2) (c.g.blt _ (by simp)) h3 h4 (ok_s ia t .z _ X p c h5).z.se (ok_s ib t .z _ X p c h6).z.se
    · cases h
  | .zip2 ia ib, t, tg, e, X, p, c, h => by
    simp only [oksr, Bool.and_eq_true] at h
    obtain ⟨ht, h⟩ := h
    cases tg with
    | Tuple elts kk tpos =>
      split at h
      · simp only [Bool.and_eq_true, decide_eq_true_eq] at h
        obtain ⟨⟨⟨⟨⟨h1, h2⟩, h3⟩, h4⟩, h5⟩, h6⟩ := h
        subst h1
        exact si_zip (glB_ok c h2) (c.g.blt _ (by simp)) h3 h4 (ok_s ia t .z _ X p c h5).z.se (ok_s ib t .z _ X p c h6).z.se
      · cases h
    | _ => cases ht
  | .enum ie, t, tg, e, X, p, c, h => by
    simp only [oksr, Bool.and_eq_true] at h
    obtain ⟨ht, h⟩ := h
    cases tg with
    | Tuple elts kk tpos =>
      split at h
      · simp only [Bool.and_eq_true, decide_eq_true_eq] at h
        obtain ⟨⟨⟨h1, h2⟩, h3⟩, h4⟩ := h
        subst h1
        exact si_enum (glB_ok c h2) (c.g.blt _ (by simp)) h3 (ok_s ie t .z _ X p c h4).z.se
      · cases h
    | _ => cases ht
  | .items _, t, tg, e, X, p, c, h => by simp [oksr] at h
end
end
end Rf
end

section
set_option Elab.async false
set_option linter.all false
set_option maxRecDepth 100000
set_option maxHeartbeats 1000000
/-! Paths of many steps. -/
namespace Rf
open PySem PySem.Spec PyProof.Rows L2
def subP : D → List Sel → Option D
  | d, [] => some d
  | d, s :: ss => (subD d s).bind fun d' => subP d' ss
def putP : D → List Sel → D → Option D
  | _, [], x => some x
  | d, s :: ss, x => (subD d s).bind fun d' => (putP d' ss x).bind fun d1 => putD1 d s d1
def subSs : Sh → List Sel → Sh
  | sh, [] => sh
  | sh, s :: ss => subSs (subSh sh s) ss
def nzS : Sh → List Sel → Bool
  | _, [] => true
  | sh, s :: ss => !(isZ sh) && nzS (subSh sh s) ss
def HPath (K : PySem.W.Frag) (ad : Str → Addr) (H : Hp) : V → List Sel → V → Prop
  | v, [], v' => v' = v
  | v, s :: ss, v' => ∃ v1, HSub K ad H v s v1 ∧ HPath K ad H v1 ss v'
theorem subP_snoc {s : Sel} : ∀ {ss : List Sel} {d : D}, subP d (ss ++ [s]) = (subP d ss).bind fun d' => subD d' s
  | [], d => by
    show (subD d s).bind (fun d' => some d') = subD d s
    cases subD d s <;> rfl
  | a :: ss, d => by
    show (subD d a).bind (fun d' => subP d' (ss ++ [s])) = ((subD d a).bind fun d' => subP d' ss).bind _
    cases subD d a with
    | none => rfl
    | some d' => exact subP_snoc
theorem subSs_snoc {s : Sel} : ∀ {ss : List Sel} {sh : Sh}, subSs sh (ss ++ [s]) = subSh (subSs sh ss) s
  | [], _ => rfl
  | _ :: ss, _ => subSs_snoc (ss := ss)
theorem nzS_snoc {s : Sel} : ∀ {ss : List Sel} {sh : Sh}, nzS sh (ss ++ [s]) = (nzS sh ss && !(isZ (subSs sh ss)))
  | [], sh => by simp [nzS, subSs]
  | a :: ss, sh => by
    show (!(isZ sh) && nzS (subSh sh a) (ss ++ [s])) = (!(isZ sh) && nzS (subSh sh a) ss && _)
    rw [nzS_snoc, Bool.and_assoc]; rfl
theorem isZ_no {s : Sh} (h : isZ s = false) : s ≠ .z := fun e => by rw [e] at h; cases h
theorem isZ_no' {s : Sh} (h : (!(isZ s)) = true) : s ≠ .z := isZ_no (by simpa using h)
section
variable {K : PySem.W.Frag} {ad : Str → Addr} {H H' : Hp}
theorem HSub.uni {v v1 v2 : V} {s : Sel} (h : HSub K ad H v s v1) (h' : HSub K ad H v s v2) : v1 = v2 := by
  obtain ⟨a, rfl, h⟩ := h
  obtain ⟨a', e, h'⟩ := h'
  cases e
  cases s with
  | f x =>
    obtain ⟨C, dx, fs, e1, e2⟩ := h
    obtain ⟨C', dx', fs', e1', e2'⟩ := h'
    rw [e1] at e1'
    injection e1' with e1'
    injection e1' with _ _ e3
    subst e3
    rw [e2] at e2'
    exact Option.some.inj e2'
  | k q =>
    rcases h with ⟨xs, i, rfl, e1, e2⟩ | ⟨kvs, k, e1, ek, e2⟩ | ⟨kvs, k, e1, ek, e2⟩ <;> rcases h' with ⟨xs', i', eq', e1', e2'⟩ | ⟨kvs', k', e1', ek', e2'⟩ | ⟨kvs', k', e1', ek', e2'⟩ <;> rw [e1] at e1' <;> cases e1'
    · cases eq'; rw [e2] at e2'; exact Option.some.inj e2'
    · rw [ek] at ek'; cases ek'; rw [e2] at e2'; exact Option.some.inj e2'
    · rw [ek] at ek'; cases ek'; rw [e2] at e2'; exact Option.some.inj e2'
theorem HPath.uni : ∀ {ss : List Sel} {v v1 v2 : V}, HPath K ad H v ss v1 → HPath K ad H v ss v2 → v1 = v2
  | [], _, _, _, h, h' => by
    have h : _ = _ := h
    have h' : _ = _ := h'
    rw [h, h']
  | _ :: _, _, _, _, ⟨x, a, b⟩, ⟨y, c, d⟩ => by
    cases a.uni c
    exact b.uni d
theorem HPath.snoc {s : Sel} {v' v'' : V} : ∀ {ss : List Sel} {v : V}, HPath K ad H v (ss ++ [s]) v'' → HPath K ad H v ss v' → HSub K ad H v' s v''
  | [], v, ⟨v1, h, e⟩, e' => by
    have e : v'' = v1 := e
    have e' : v' = v := e'
    rw [e, e']; exact h
  | _ :: ss, _, ⟨v1, h, r⟩, ⟨v2, h', r'⟩ => by
    cases h.uni h'
    exact HPath.snoc r r'
end
section
variable {K : PySem.W.Frag} {ad : Str → Addr} {Z H : Hp}
theorem Ow.head {sh : Sh} {v : V} {d : D} {g : List Addr} (w : Ow K ad Z H sh v d g) (h : sh ≠ .z) : ∃ a, v = .ref a ∧ a ∈ g := by
  cases w with
  | z _ => exact absurd rfl h
  | lst _ _ _ => exact ⟨_, rfl, List.mem_cons_self⟩
  | dk _ _ _ _ => exact ⟨_, rfl, List.mem_cons_self⟩
  | dt _ _ _ _ => exact ⟨_, rfl, List.mem_cons_self⟩
  | ins _ _ _ _ => exact ⟨_, rfl, List.mem_cons_self⟩
theorem HSub.at {H' : Hp} {v v' : V} {s : Sel} {a : Addr} (h : HSub K ad H v s v') (e : v = .ref a) (q : H' a = H a) : HSub K ad H' v s v' := by
  obtain ⟨b, rfl, h⟩ := h
  cases e
  refine ⟨a, rfl, ?_⟩
  cases s <;> simp only [q] <;> exact h
/-- the part at a path; what is put there -/
theorem Ow.foc : ∀ {ss : List Sel} {sh : Sh} {v : V} {d d' : D} {g : List Addr}, Ow K ad Z H sh v d g → g.Nodup → subP d ss = some d' → nzS sh ss = true → ∃ v' g', HPath K ad H v ss v' ∧ Ow K ad Z H (subSs sh ss) v' d' g' ∧ (∀ a ∈ g', a ∈ g) ∧ g'.Nodup ∧
    (∀ H', (∀ a ∈ g, H' a = H a) → HPath K ad H' v ss v') ∧
    ∀ Z1 H1 d1 g1, Le Z Z1 → (∀ a ∈ g, a ∉ g' → H1 a = H a ∧ Z1 a = none) → Ow K ad Z1 H1 (subSs sh ss) v' d1 g1 → g1.Nodup → (∀ a ∈ g1, a ∈ g' ∨ a ∉ g) → ∃ d2 g2, putP d ss d1 = some d2 ∧ Ow K ad Z1 H1 sh v d2 g2 ∧ g2.Nodup ∧ ∀ a ∈ g2, a ∈ g1 ∨ a ∈ g
  | [], sh, v, d, d', g, w, nd, e, nz => by
    cases e
    exact ⟨v, g, rfl, w, fun _ h => h, nd, fun _ _ => rfl, fun Z1 H1 d1 g1 l k w1 n1 hs => ⟨d1, g1, rfl, w1, n1, fun a h => .inl h⟩⟩
  | s :: ss, sh, v, d, d', g, w, nd, e, nz => by
    obtain ⟨d0, e0, e1⟩ := Option.bind_eq_some_iff.mp (show (subD d s).bind (fun d' => subP d' ss) = some d' from e)
    have nz : (!(isZ sh) && nzS (subSh sh s) ss) = true := nz
    rw [Bool.and_eq_true] at nz
    have hne := isZ_no' nz.1
    obtain ⟨v1, g1, hs1, w1, sub1, nd1, back1⟩ := w.focus nd e0 hne
    obtain ⟨v2, g2, hs2, w2, sub2, nd2, st2, back2⟩ := Ow.foc w1 nd1 e1 nz.2
    obtain ⟨a, ea, ha⟩ := w.head hne
    refine ⟨v2, g2, ⟨v1, hs1, hs2⟩, w2, fun a h => sub1 a (sub2 a h), nd2, fun H' hH => ⟨v1, hs1.at ea (hH a ha), st2 H' fun b hb => hH b (sub1 b hb)⟩, fun Z1 H1 d1 h1 l k wn n1 hs => ?_⟩
    obtain ⟨d2, k2, ep, wk, nk, hk⟩ := back2 Z1 H1 d1 h1 l (fun b hb hn => k b (sub1 b hb) hn) wn n1 fun b hb => (hs b hb).elim .inl fun q => .inr fun q2 => q (sub1 b q2)
    obtain ⟨d3, k3, ep3, wk3, nk3, hk3⟩ := back1 Z1 H1 d2 k2 l (fun b hb hn => k b hb fun q => hn (sub2 b q)) wk nk fun b hb => by
      rcases hk b hb with q | q
      · rcases hs b q with q2 | q2
        · exact .inl (sub2 b q2)
        · exact .inr q2
      · exact .inl q
    refine ⟨d3, k3, ?_, wk3, nk3, fun b hb => ?_⟩
    · show (subD d s).bind _ = _
      rw [e0]
      show (putP d0 ss d1).bind _ = _
      rw [ep]; exact ep3
    · rcases hk3 b hb with q | q
      · rcases hk b q with q2 | q2
        · exact .inl q2
        · exact .inr (sub1 b q2)
      · exact .inr q
end
/-! ### expressions that are paths -/
inductive IPt where
  | var (j : Nat) | fld (p : IPt) (C f : Str) | idx (p : IPt) (e : IE)
def IPt.root : IPt → Nat
  | .var j => j
  | .fld p _ _ => p.root
  | .idx p _ => p.root
def IPt.quiet : IPt → Bool
  | .var _ => true
  | .fld p _ _ => p.quiet
  | .idx p e => p.quiet && e.quiet
def isIns (C : Str) : D → Bool
  | .ins C' _ => decide (C' = C)
  | _ => false
def evPt (O : Orc) : IPt → Env → Om → R (List Sel × D)
  | .var j, _, ω => opt ((omAt ω j).map fun d => ([], d)) ω
  | .fld p C f, ρ, ω => bnd (evPt O p ρ ω) fun x ω1 => if isIns C x.2 then opt ((subD x.2 (.f f)).map fun d => (x.1 ++ [.f f], d)) ω1 else none
  | .idx p e, ρ, ω => bnd (evPt O p ρ ω) fun x ω1 => bnd (ev O e ρ ω1) fun q ω2 => opt ((subD x.2 (.k q)).map fun d => (x.1 ++ [.k q], d)) ω2
/-- the value at the path stands there -/
structure HAt (K : PySem.W.Frag) (ad : Str → Addr) (H : Hp) (σ : L2.St) (os : Osl) (ω : Om) (j : Nat) (ss : List Sel) (v' : V) (d' : D) : Prop where
  ex : ∃ i sh v d, os[j]? = some (i, sh) ∧ σ[i]? = some (some v) ∧ omAt ω j = some d ∧ subP d ss = some d' ∧ nzS sh ss = true ∧ HPath K ad H v ss v'
/-- the shape of a path, statically -/
def shPt (os : Osl) : IPt → Option Sh
  | .var j => (os[j]?).map (·.2)
  | .fld p _ f => (shPt os p).bind fun s => match s with
    | .i fs => some (shOf fs f)
    | _ => none
  | .idx p _ => (shPt os p).bind fun s => match s with
    | .l s => some s
    | .d s => some s
    | _ => none
section
variable {X : Cx} {p : Par}
theorem nz_of {s s' : Sh} {x : Str} (h : (match s with | .i fs => some (shOf fs x) | _ => none) = some s') : isZ s = false ∧ subSh s (.f x) = s' := by
  cases s with
  | i fs => cases h; exact ⟨rfl, rfl⟩
  | _ => cases h
theorem nz_ofK {s s' : Sh} {q : D} (h : (match s with | .l s => some s | .d s => some s | _ => none) = some s') : isZ s = false ∧ subSh s (.k q) = s' := by
  cases s with
  | l s => cases h; exact ⟨rfl, rfl⟩
  | d s => cases h; exact ⟨rfl, rfl⟩
  | _ => cases h
/-- the shape of the path that was walked -/
theorem sh_path {O : Orc} {os : Osl} : ∀ {ip : IPt} {s : Sh} {ρ : Env} {ω ω' : Om} {ss : List Sel} {d' : D}, shPt os ip = some s → evPt O ip ρ ω = some ((ss, d'), ω') → ∃ i sh, os[ip.root]? = some (i, sh) ∧ nzS sh ss = true ∧ subSs sh ss = s
  | .var j, s, ρ, ω, ω', ss, d', h, e => by
    obtain ⟨q, eq, rfl⟩ := Option.map_eq_some_iff.mp (show (os[j]?).map (·.2) = some s from h)
    obtain ⟨e1, _⟩ := of_opt (show opt ((omAt ω j).map fun d => (([] : List Sel), d)) ω = some ((ss, d'), ω') from e)
    obtain ⟨d, _, e2⟩ := Option.map_eq_some_iff.mp e1
    cases e2
    exact ⟨q.1, q.2, eq, rfl, rfl⟩
  | .fld p C f, s, ρ, ω, ω', ss, d', h, e => by
    obtain ⟨s0, h0, h1⟩ := Option.bind_eq_some_iff.mp (show (shPt os p).bind _ = some s from h)
    obtain ⟨x, ω1, e0, e1⟩ := of_bnd e
    obtain ⟨i, sh, a1, a2, a3⟩ := sh_path h0 (show evPt O p ρ ω = some ((x.1, x.2), ω1) from e0)
    split at e1
    · obtain ⟨e2, _⟩ := of_opt e1
      obtain ⟨d, _, e3⟩ := Option.map_eq_some_iff.mp e2
      cases e3
      obtain ⟨z1, z2⟩ := nz_of h1
      exact ⟨i, sh, a1, by rw [nzS_snoc, a2, a3, z1]; rfl, by rw [subSs_snoc, a3, z2]⟩
    · cases e1
  | .idx p ie, s, ρ, ω, ω', ss, d', h, e => by
    obtain ⟨s0, h0, h1⟩ := Option.bind_eq_some_iff.mp (show (shPt os p).bind _ = some s from h)
    obtain ⟨x, ω1, e0, e1⟩ := of_bnd e
    obtain ⟨i, sh, a1, a2, a3⟩ := sh_path h0 (show evPt O p ρ ω = some ((x.1, x.2), ω1) from e0)
    obtain ⟨q, ω2, e2, e3⟩ := of_bnd e1
    obtain ⟨e4, _⟩ := of_opt e3
    obtain ⟨d, _, e5⟩ := Option.map_eq_some_iff.mp e4
    cases e5
    obtain ⟨z1, z2⟩ := nz_ofK (q := q) h1
    exact ⟨i, sh, a1, by rw [nzS_snoc, a2, a3, z1]; rfl, by rw [subSs_snoc, a3, z2]⟩
/-- the owned part at a path in a state -/
theorem Os.foc {σ : L2.St} {Z H : Hp} {ω : Om} {fp : Fp} (O : Os X.K p.ad Z H σ p.os ω fp) (N : NdF fp) {j i : Nat} {sh : Sh} {v : V} {d d' : D} {ss : List Sel} (ej : p.os[j]? = some (i, sh)) (ev : σ[i]? = some (some v)) (ed : omAt ω j = some d) (e : subP d ss = some d') (nz : nzS sh ss = true) :
    Ow X.K p.ad Z H sh v d (fp j) ∧ ∃ v' g', HPath X.K p.ad H v ss v' ∧ Ow X.K p.ad Z H (subSs sh ss) v' d' g' ∧ (∀ a ∈ g', a ∈ fp j) := by
  obtain ⟨i', sh', v0, e1, e2, w⟩ := (O.yes j d ed).ex
  rw [ej] at e1; cases e1
  rw [ev] at e2; cases e2
  obtain ⟨v', g', h1, h2, h3, _⟩ := w.foc (N.one j) e nz
  exact ⟨w, v', g', h1, h2, h3⟩
theorem HAt.go {σ : L2.St} {Z H Z1 H1 : Hp} {ω : Om} {fp : Fp} {j : Nat} {ss : List Sel} {v' : V} {d' : D} (O : Os X.K p.ad Z H σ p.os ω fp) (N : NdF fp) (T : StepX X p true σ Z H ω fp Z1 H1 ω fp) (h : HAt X.K p.ad H σ p.os ω j ss v' d') : HAt X.K p.ad H1 σ p.os ω j ss v' d' := by
  obtain ⟨i, sh, v, d, e1, e2, e3, e4, e5, e6⟩ := h.ex
  obtain ⟨i', sh', v0, q1, q2, w⟩ := (O.yes j d e3).ex
  rw [e1] at q1; cases q1
  rw [e2] at q2; cases q2
  obtain ⟨v2, g', h1, h2, h3, _, st, _⟩ := w.foc (N.one j) e4 e5
  cases e6.uni h1
  refine ⟨i, sh, v, d, e1, e2, e3, e4, e5, st H1 fun a ha => ?_⟩
  obtain ⟨_, o, eo, t⟩ := O.dom j a ha
  rw [eo]
  exact T.nx.hh a o eo (fun h => h) t
end
end Rf
end

section
set_option Elab.async false
set_option linter.all false
set_option maxRecDepth 100000
set_option maxHeartbeats 1000000
/-! A path walked; an object at a path changed. -/
namespace Rf
open PySem PySem.Spec PyProof.Rows L2
theorem oall_cons' {α : Type} {o : Option α} {l : List (Option α)} {r : List α} (h : oall (o :: l) = some r) : ∃ x t, o = some x ∧ oall l = some t ∧ r = x :: t := by
  cases o with
  | none => cases h
  | some x =>
    obtain ⟨t, e, rfl⟩ := Option.map_eq_some_iff.mp (show (oall l).map (x :: ·) = some r from h)
    exact ⟨x, t, rfl, e, rfl⟩
theorem key_rp {K : PySem.W.Frag} {ad : Str → Addr} {Z : Hp} {k : D} {y : V} {q : Key} (h : Rp K ad Z y k) (e : kOf k = some q) : y = kV q := by
  cases h <;> cases e <;> rfl
theorem keys_rp {K : PySem.W.Frag} {ad : Str → Addr} {Z : Hp} : ∀ {ks : List D} {ys : List V} {qs : List Key}, Rps K ad Z ys ks → oall (ks.map kOf) = some qs → ys = qs.map kV
  | [], _, _, .nil, e => by cases e; rfl
  | k :: ks, _, _, .cons h r, e => by
    obtain ⟨q, t, e1, e2, rfl⟩ := oall_cons' e
    rw [key_rp h e1, keys_rp r e2]; rfl
theorem keyT_rp {K : PySem.W.Frag} {ad : Str → Addr} {Z H : Hp} {k : D} {y : V} {q : List Key} (z : ZOk Z H) (h : Rp K ad Z y k) (e : ksOf k = some q) : ∃ b, y = .ref b ∧ H b = some (.tup (q.map kV)) := by
  cases h with
  | tup ht hs =>
    have := keys_rp hs e
    subst this
    exact ⟨_, rfl, z.le _ _ ht⟩
  | _ => cases e
/-! ### an item on the way -/
def rPx (K : PySem.W.Frag) (ad : Str → Addr) : R2 := fun x y H Q => ∃ Z q v', ZOk Z H ∧ Rp K ad Z y q ∧ HSub K ad H x (.k q) v' ∧ Q v' H
section
variable {X : Cx} {p : Par}
theorem ix_px (hu : X.A.units + 64 < cLine) : IxR X (rPx X.K p.ad) := by
  intro value slice pins s σ H x y v u Q I rx ry h hs
  obtain ⟨Z, q, v', z, rq, ⟨a, rfl, hsub⟩, hq⟩ := h
  have dict : ∀ {o : Option V}, DGet H a y o → o = some v' → wpAny (model X.prog X.w) X.A (subscriptTail value slice v u) (EP X pins σ Q) X.xe s := fun {o} g e => by
    subst e
    cases (show v = Value.ref a from rx)
    exact tail_any (dict_typeIs I g) PySem.F.slot_dict_getitem.lookup (d_getItem (by omega) I g ry fun w' s' I' rw' => ⟨v', H, I', rw', hq⟩) hs
  rcases hsub with ⟨xs, i, rfl, e1, e2⟩ | ⟨kvs, k, e1, ek, e2⟩ | ⟨kvs, k, e1, ek, e2⟩
  · cases rq
    exact ix_list value slice pins s σ H _ _ v u Q I rx ry ⟨a, xs, i, v', rfl, rfl, .inl (.of e1), e2, hq⟩ hs
  · rw [key_rp rq ek] at ry dict
    exact dict (DGet.k e1) e2
  · obtain ⟨b, rfl, eb⟩ := keyT_rp z rq ek
    exact dict (DGet.t e1 eb) e2
/-! ### a path read -/
def SPt (X : Cx) (p : Par) (e : Expr) (ip : IPt) : Prop := ∀ σ Z H ρ ω fp ss d' ω', StaX X p σ Z H ρ ω fp → evPt p.O ip ρ ω = some ((ss, d'), ω') → ∀ Q : VK,
  (∀ v' Z' H', StepX X p true σ Z H ω fp Z' H' ω fp → ω' = ω → HAt X.K p.ad H' σ p.os ω ip.root ss v' d' → Q v' H') → tR X e σ H Q
theorem spt_var {j i : Nat} {sh : Sh} {x : Str} {pos : Pos} (hj : p.os[j]? = some (i, sh)) (hN : X.N[i]? = some x) (hv : Vis X.env.scope x) (hd : (x == ("__debug__" : Str)) = false) (hcd : (x == ("__classdict__" : Str)) = false) : SPt X p (.Name x pos) (.var j) := fun σ Z H ρ ω fp ss d' ω' S he Q hQ pins s I => by
  obtain ⟨e1, rfl⟩ := of_opt he
  obtain ⟨d, e2, e3⟩ := Option.map_eq_some_iff.mp e1
  cases e3
  obtain ⟨i', sh', v, q1, q2, w⟩ := (S.os.yes j _ e2).ex
  rw [hj] at q1
  cases q1
  exact (pe_var hN hv hd hcd).run pins s σ H Q I ⟨v, q2, hQ v Z H S.refl rfl ⟨i, sh, v, _, hj, q2, e2, rfl, rfl, rfl⟩⟩
theorem spt_fld {e : Expr} {ip : IPt} {C f : Str} {s' : Sh} {pos : Pos} (hsh : shPt p.os (.fld ip C f) = some s') (hb : baseOk e = true) (c : Cls X.K (p.ad C)) (n : NoAttr X.K (p.ad C) f) (h : SPt X p e ip) : SPt X p (.Attribute e f pos) (.fld ip C f) := fun σ Z H ρ ω fp ss d' ω' S he Q hQ pins s I => by
  have he0 := he
  obtain ⟨x, ω1, e1, e2⟩ := of_bnd he
  split at e2
  case isFalse => cases e2
  rename_i hins
  obtain ⟨e3, rfl⟩ := of_opt e2
  obtain ⟨d1, e4, e5⟩ := Option.map_eq_some_iff.mp e3
  cases e5
  obtain ⟨i, sh, q1, q2, q3⟩ := sh_path hsh he0
  refine (pe_fld (pe_R e) (base_eq hb)).run pins s σ H Q I (h σ Z H ρ ω fp x.1 x.2 _ S e1 _ fun v1 Z1 H1 T1 ew h1 => ?_)
  subst ew
  obtain ⟨i0, sh0, v0, d0, a1, a2, a3, a4, a5, a6⟩ := h1.ex
  rw [show p.os[ip.root]? = some (i, sh) from q1] at a1
  cases a1
  obtain ⟨w, v', g', b1, b2, b3⟩ := Os.foc T1.os T1.nd q1 a2 a3 a4 (by
    have q2 := q2
    rw [nzS_snoc, Bool.and_eq_true] at q2
    exact q2.1)
  cases a6.uni b1
  have q2' := q2
  rw [nzS_snoc, Bool.and_eq_true] at q2'
  obtain ⟨_, v2, g2, c1, c2, c3⟩ := Os.foc T1.os T1.nd q1 a2 a3 (d' := d') (ss := x.1 ++ [.f f]) (by rw [subP_snoc, a4]; exact e4) q2
  obtain ⟨b, eb, hsub⟩ := c1.snoc a6
  have hz := isZ_no' q2'.2
  cases hx : x.2 with
  | ins C' fs =>
    rw [hx] at hins b2
    have hC : C' = C := of_decide_eq_true hins
    subst hC
    generalize subSs sh x.1 = sx at b2 hz
    cases b2 with
    | z _ => exact absurd rfl hz
    | @ins shs a dx _ vs _ g0 z0 hh nk r =>
      cases eb
      obtain ⟨C2, dx2, fs2, f1, f2⟩ := hsub
      rw [hh] at f1
      injection f1 with f1
      injection f1 with _ _ f1
      subst f1
      exact ⟨_, _, _, _, v2, rfl, hh, c, n, f2, hQ v2 Z1 H1 T1 rfl ⟨i, sh, v0, d0, q1, a2, a3, by rw [subP_snoc, a4]; exact e4, q2, c1⟩⟩
  | _ => rw [hx] at hins; cases hins
theorem spt_idx {e ei : Expr} {ip : IPt} {ie : IE} {s' : Sh} {pos : Pos} (hu : X.A.units + 64 < cLine) (hsh : shPt p.os (.idx ip ie) = some s') (hq : ie.quiet = true) (hs : isSlice ei = false) (h : SPt X p e ip) (hi : SE X p ei ie) : SPt X p (.Subscript e ei pos) (.idx ip ie) := fun σ Z H ρ ω fp ss d' ω' S he Q hQ pins s I => by
  have he0 := he
  obtain ⟨x, ω1, e1, e2⟩ := of_bnd he
  obtain ⟨q, ω2, e3, e4⟩ := of_bnd e2
  obtain ⟨e5, rfl⟩ := of_opt e4
  obtain ⟨d1, e6, e7⟩ := Option.map_eq_some_iff.mp e5
  cases e7
  obtain ⟨i, sh, q1, q2, q3⟩ := sh_path hsh he0
  refine (pe_ix (ix_px (p := p) hu) (pe_R e) (pe_R ei) (plainIx hs)).run pins s σ H Q I (h σ Z H ρ ω fp x.1 x.2 _ S e1 _ fun v1 Z1 H1 T1 ew h1 => ?_)
  subst ew
  refine hi σ Z1 H1 ρ _ fp q _ (T1.sta S) e3 _ fun v2 Z2 H2 fp2 T2 r2 => ?_
  rw [hq] at T2
  obtain ⟨rfl, rfl⟩ := T2.qu rfl
  have h2 := HAt.go T1.os T1.nd T2 h1
  obtain ⟨i0, sh0, v0, d0, a1, a2, a3, a4, a5, a6⟩ := h2.ex
  rw [show p.os[ip.root]? = some (i, sh) from q1] at a1
  cases a1
  obtain ⟨_, v3, g3, c1, c2, c3⟩ := Os.foc T2.os T2.nd q1 a2 a3 (d' := d') (ss := x.1 ++ [.k q]) (by rw [subP_snoc, a4]; exact e6) q2
  exact ⟨Z2, q, v3, T2.nx.zh, r2, c1.snoc a6, hQ v3 Z2 H2 (T1.trans T2) rfl ⟨i, sh, v0, d0, q1, a2, a3, by rw [subP_snoc, a4]; exact e6, q2, c1⟩⟩
end
end Rf
end

section
set_option Elab.async false
set_option linter.all false
set_option maxRecDepth 100000
set_option maxHeartbeats 1000000
/-! What is changed at a path. -/
namespace Rf
open PySem PySem.Spec PyProof.Rows L2
/-- d[q] = x -/
def setD (d q x : D) : Option D := match d with
  | .lst xs => match q with
    | .int i => (ixN xs.length i).map fun j => .lst (xs.set j x)
    | _ => none
  | .dk kvs => if kvs.length < sizeLine then (kOf q).map fun k => .dk (putD kvs k x) else none
  | .dt kvs => if kvs.length < sizeLine then (ksOf q).map fun k => .dt (putD kvs k x) else none
  | _ => none
/-- d.f = x -/
def setFD (C f : Str) (d x : D) : Option D := match d with
  | .ins C' fs => if C' = C ∧ fs.length < 1000 then some (.ins C' (putFD f x fs)) else none
  | _ => none
/-- d.append(x) -/
def appD (d x : D) : Option D := match d with
  | .lst xs => if xs.length < sizeLine then some (.lst (xs ++ [x])) else none
  | _ => none
def rSetX : TSet := fun o i v H Q => rSetL o i v H Q ∨ rSetD o i v H Q
theorem set_x {X : Cx} (hu : X.A.units + 1 < cLine) : PSet X rSetX := fun pins s σ H o i v ov iv u Q I ro ri rv h => h.elim (fun h => set_list pins s σ H o i v ov iv u Q I ro ri rv h) fun h => set_dict hu pins s σ H o i v ov iv u Q I ro ri rv h
section
variable {K : PySem.W.Frag} {ad : Str → Addr} {Z H : Hp}
/-- the object that changes, and what stands then -/
def Leaf (K : PySem.W.Frag) (ad : Str → Addr) (Z H : Hp) (sh : Sh) (v' : V) (d1 : D) (g' gy : List Addr) (R : Hp → Prop) : Prop :=
  ∃ a o o', v' = .ref a ∧ a ∈ g' ∧ H a = some o ∧ notTbl o = true ∧ Z a = none ∧ R (upd H a o') ∧ ∃ g1, Ow K ad Z (upd H a o') sh v' d1 g1 ∧ g1.Nodup ∧ ∀ b ∈ g1, b ∈ g' ∨ b ∈ gy
theorem ixN_lt {n j : Nat} {i : Int} (h : ixN n i = some j) : j < n := by
  unfold ixN at h
  split at h <;> split at h <;> first | (cases h; done) | (cases h; omega)
theorem stand_upd {Z H : Hp} {a : Addr} {o : HO} {g : List Addr} (hn : a ∉ g) (hz : ∀ b ∈ g, Z b = none) : Stand Z H Z (upd H a o) g := ⟨Le.refl _, fun b hb => upd_ne fun e => hn (e ▸ hb), hz⟩
theorem leaf_set {sh : Sh} {v' y yq : V} {d' d1 q dy : D} {g' gy : List Addr} {s : Sh} (z : ZOk Z H) (w : Ow K ad Z H sh v' d' g') (hz : sh ≠ .z) (nd : g'.Nodup) (rq : Rp K ad Z yq q) (wy : Ow K ad Z H s y dy gy) (hs : subSh sh (.k q) = s) (ny : gy.Nodup) (ap : ∀ a ∈ gy, a ∉ g') (e : setD d' q dy = some d1) :
    Leaf K ad Z H sh v' d1 g' gy fun H' => ∀ Q : Hp → Prop, Q H' → rSetX v' yq y H Q := by
  cases w with
  | z _ => exact absurd rfl hz
  | @lst s0 a vs ds g0 z0 hh r =>
    cases q with
    | int i =>
      obtain ⟨j, ej, e1⟩ := Option.map_eq_some_iff.mp (show (ixN ds.length i).map (fun j => D.lst (ds.set j dy)) = some d1 from e)
      subst e1
      cases rq
      cases (show s0 = s from hs)
      have hj := ixN_lt ej
      obtain ⟨v0, g1, f, g2, e3, eg, w', back⟩ := r.at (List.getElem?_eq_getElem hj)
      subst eg
      have nd' := List.nodup_cons.mp nd
      have hgz : ∀ b ∈ g1 ++ g2, Z b = none := fun b hb => (r.dom b (by simp only [List.mem_append] at hb ⊢; rcases hb with h | h <;> simp [h])).1
      refine ⟨a, _, .lst (vs.set j y), rfl, List.mem_cons_self, hh, rfl, z0, fun Q hQ => .inl ⟨a, vs, i, j, rfl, rfl, hh, by rw [r.length]; exact ej, hQ⟩, a :: (g1 ++ gy ++ g2), .lst z0 upd_same (back Z _ y dy gy (stand_upd (fun hm => nd'.1 (by simp only [List.mem_append] at hm ⊢; rcases hm with h | h <;> simp [h])) hgz) (wy.stand (stand_upd (fun hm => ap a hm List.mem_cons_self) fun b hb => (wy.dom b hb).1))), ?_, fun b hb => ?_⟩
      · exact nodup_mid nd ny fun b hb => .inr (ap b hb)
      · simp only [List.mem_cons, List.mem_append] at hb ⊢
        rcases hb with h | (h | h) | h <;> simp [h]
    | _ => cases e
  | @dk s0 a vs ds g0 z0 hh nk r =>
    have e0 : (if ds.length < sizeLine then (kOf q).map fun k => D.dk (putD ds k dy) else none) = some d1 := e
    split at e0
    case isFalse => cases e0
    rename_i hl
    obtain ⟨k, ek, e1⟩ := Option.map_eq_some_iff.mp e0
    subst e1
    cases (show s0 = s from hs)
    have nd' := List.nodup_cons.mp nd
    have st : Stand Z H Z (upd H a (.dK (putK vs k y))) g0 := stand_upd nd'.1 fun b hb => (r.dom b hb).1
    obtain ⟨g2, w2, sub, nn⟩ := r.toG.put (Z1 := Z) (H1 := upd H a (.dK (putK vs k y))) (k := k) nk st (wy.stand (stand_upd (fun hm => ap a hm List.mem_cons_self) fun b hb => (wy.dom b hb).1))
    refine ⟨a, _, .dK (putK vs k y), rfl, List.mem_cons_self, hh, rfl, z0, fun Q hQ => .inr ⟨a, _, rfl, ?_, hQ⟩, a :: g2, .dk z0 upd_same (putD_nodup nk) w2.toK, ?_, fun b hb => ?_⟩
    · rw [key_rp rq ek]
      exact DPut.k hh (by rw [r.toG.len]; exact hl)
    · rw [List.nodup_cons]
      refine ⟨fun hm => ?_, nn (List.nodup_append.mpr ⟨nd'.2, ny, fun b hb c hc e => ap c hc (e ▸ List.mem_cons_of_mem _ hb)⟩)⟩
      rcases sub a hm with h | h
      · exact nd'.1 h
      · exact ap a h List.mem_cons_self
    · rcases List.mem_cons.mp hb with h | h
      · exact .inl (by simp [h])
      · rcases sub b h with h | h
        · exact .inl (List.mem_cons_of_mem _ h)
        · exact .inr h
  | @dt s0 a vs ds g0 z0 hh nk r =>
    have e0 : (if ds.length < sizeLine then (ksOf q).map fun k => D.dt (putD ds k dy) else none) = some d1 := e
    split at e0
    case isFalse => cases e0
    rename_i hl
    obtain ⟨k, ek, e1⟩ := Option.map_eq_some_iff.mp e0
    subst e1
    cases (show s0 = s from hs)
    have nd' := List.nodup_cons.mp nd
    have st : Stand Z H Z (upd H a (.dT (putK vs k y))) g0 := stand_upd nd'.1 fun b hb => (r.dom b hb).1
    obtain ⟨g2, w2, sub, nn⟩ := r.toG.put (Z1 := Z) (H1 := upd H a (.dT (putK vs k y))) (k := k) nk st (wy.stand (stand_upd (fun hm => ap a hm List.mem_cons_self) fun b hb => (wy.dom b hb).1))
    refine ⟨a, _, .dT (putK vs k y), rfl, List.mem_cons_self, hh, rfl, z0, fun Q hQ => .inr ⟨a, _, rfl, ?_, hQ⟩, a :: g2, .dt z0 upd_same (putD_nodup nk) w2.toT, ?_, fun b hb => ?_⟩
    · obtain ⟨b, rfl, eb⟩ := keyT_rp z rq ek
      exact DPut.t hh eb (by rw [r.toG.len]; exact hl)
    · rw [List.nodup_cons]
      refine ⟨fun hm => ?_, nn (List.nodup_append.mpr ⟨nd'.2, ny, fun b hb c hc e => ap c hc (e ▸ List.mem_cons_of_mem _ hb)⟩)⟩
      rcases sub a hm with h | h
      · exact nd'.1 h
      · exact ap a h List.mem_cons_self
    · rcases List.mem_cons.mp hb with h | h
      · exact .inl (by simp [h])
      · rcases sub b h with h | h
        · exact .inl (List.mem_cons_of_mem _ h)
        · exact .inr h
  | ins z0 hh nk r => cases e
theorem leaf_fld {sh : Sh} {v' y : V} {d' d1 dy : D} {g' gy : List Addr} {s : Sh} {C f : Str} (w : Ow K ad Z H sh v' d' g') (hz : sh ≠ .z) (nd : g'.Nodup) (wy : Ow K ad Z H s y dy gy) (hs : subSh sh (.f f) = s) (ny : gy.Nodup) (ap : ∀ a ∈ gy, a ∉ g') (e : setFD C f d' dy = some d1) :
    Leaf K ad Z H sh v' d1 g' gy fun H' => ∃ a dx fs, v' = .ref a ∧ H a = some (.ins (ad C) dx fs) ∧ fs.length < 1000 ∧ H' = upd H a (.ins (ad C) dx (putF f y fs)) := by
  cases w with
  | z _ => exact absurd rfl hz
  | @ins shs a dx C' vs ds g0 z0 hh nk r =>
    have e0 : (if C' = C ∧ ds.length < 1000 then some (D.ins C' (putFD f dy ds)) else none) = some d1 := e
    split at e0
    case isFalse => cases e0
    rename_i hc
    cases e0
    obtain ⟨rfl, hl⟩ := hc
    have nd' := List.nodup_cons.mp nd
    have nv : (vs.map (·.1)).Nodup := by rw [r.toG.keys]; exact nk
    have st : Stand Z H Z (upd H a (.ins (ad C') dx (putF f y vs))) g0 := stand_upd nd'.1 fun b hb => (r.dom b hb).1
    have wy' : Ow K ad Z (upd H a (.ins (ad C') dx (putF f y vs))) (shOf shs f) y dy gy := by
      have hs : shOf shs f = s := hs
      rw [hs]
      exact wy.stand (stand_upd (fun hm => ap a hm List.mem_cons_self) fun b hb => (wy.dom b hb).1)
    obtain ⟨g2, w2, sub, nn⟩ := r.toG.put (k := f) nk st wy'
    rw [← putF_eq vs f y nv, ← putFD_eq ds f dy nk] at w2
    refine ⟨a, _, .ins (ad C') dx (putF f y vs), rfl, List.mem_cons_self, hh, rfl, z0, ⟨a, dx, vs, rfl, hh, by rw [r.toG.len]; exact hl, rfl⟩, a :: g2, .ins z0 upd_same (by rw [putFD_eq ds f dy nk]; exact putD_nodup nk) w2.toF, ?_, fun b hb => ?_⟩
    · rw [List.nodup_cons]
      refine ⟨fun hm => ?_, nn (List.nodup_append.mpr ⟨nd'.2, ny, fun b hb c hc e => ap c hc (e ▸ List.mem_cons_of_mem _ hb)⟩)⟩
      rcases sub a hm with h | h
      · exact nd'.1 h
      · exact ap a h List.mem_cons_self
    · rcases List.mem_cons.mp hb with h | h
      · exact .inl (by simp [h])
      · rcases sub b h with h | h
        · exact .inl (List.mem_cons_of_mem _ h)
        · exact .inr h
  | _ => cases e
theorem leaf_app {sh : Sh} {v' y : V} {d' d1 dy : D} {g' gy : List Addr} {s : Sh} (w : Ow K ad Z H sh v' d' g') (hz : sh ≠ .z) (nd : g'.Nodup) (wy : Ow K ad Z H s y dy gy) (hs : subSh sh (.k .non) = s) (ny : gy.Nodup) (ap : ∀ a ∈ gy, a ∉ g') (e : appD d' dy = some d1) :
    Leaf K ad Z H sh v' d1 g' gy fun H' => ∃ a xs, v' = .ref a ∧ H a = some (.lst xs) ∧ xs.length < sizeLine ∧ H' = upd H a (.lst (xs ++ [y])) := by
  cases w with
  | z _ => exact absurd rfl hz
  | @lst s0 a vs ds g0 z0 hh r =>
    have e0 : (if ds.length < sizeLine then some (D.lst (ds ++ [dy])) else none) = some d1 := e
    split at e0
    case isFalse => cases e0
    rename_i hl
    cases e0
    cases (show s0 = s from hs)
    have nd' := List.nodup_cons.mp nd
    refine ⟨a, _, .lst (vs ++ [y]), rfl, List.mem_cons_self, hh, rfl, z0, ⟨a, vs, rfl, hh, by rw [r.length]; exact hl, rfl⟩, a :: (g0 ++ gy), .lst z0 upd_same (Ows.snoc (wy.stand (stand_upd (fun hm => ap a hm List.mem_cons_self) fun b hb => (wy.dom b hb).1)) (r.stand (stand_upd nd'.1 fun b hb => (r.dom b hb).1))), ?_, fun b hb => ?_⟩
    · rw [← List.cons_append]
      exact List.nodup_append.mpr ⟨nd, ny, fun b hb c hc e => ap c hc (e ▸ hb)⟩
    · rw [← List.cons_append] at hb
      exact List.mem_append.mp hb
  | _ => cases e
end
section
variable {X : Cx} {p : Par}
/-- the whole behind the change -/
theorem mut_core {q : Bool} {σ : L2.St} {Z0 H0 Z H : Hp} {ω0 ω : Om} {fp0 fp : Fp} {j : Nat} {ss : List Sel} {v' : V} {d' d1 : D} {gy : List Addr} {R : Hp → Prop} (T : StepX X p q σ Z0 H0 ω0 fp0 Z H ω fp) (N : NewG H0 fp gy) (h : HAt X.K p.ad H σ p.os ω j ss v' d')
    (leaf : ∀ i sh g', p.os[j]? = some (i, sh) → Ow X.K p.ad Z H (subSs sh ss) v' d' g' → g'.Nodup → (∀ a ∈ gy, a ∉ g') → Leaf X.K p.ad Z H (subSs sh ss) v' d1 g' gy R) :
    ∃ a o' fp1 d0 d2, omAt ω j = some d0 ∧ putP d0 ss d1 = some d2 ∧ R (upd H a o') ∧ StepX X p false σ Z0 H0 ω0 fp0 Z (upd H a o') (ω.set j (some d2)) fp1 := by
  obtain ⟨i, sh, v, d0, ej, ev, ed, e4, e5, e6⟩ := h.ex
  obtain ⟨i', sh', v0, q1, q2, w⟩ := (T.os.yes j d0 ed).ex
  rw [ej] at q1; cases q1
  rw [ev] at q2; cases q2
  obtain ⟨v2, g', b1, b2, b3, b4, b5, back⟩ := w.foc (T.nd.one j) e4 e5
  cases e6.uni b1
  obtain ⟨a, o, o', rfl, hag, ho, ht, hza, hR, g1, w1, n1, sub1⟩ := leaf i sh g' ej b2 b4 fun a ha hm => N.out a ha ⟨j, b3 a hm⟩
  have haj : a ∈ fp j := b3 a hag
  obtain ⟨d2, g2, ep, w2, n2, sub2⟩ := back Z (upd H a o') d1 g1 (Le.refl _) (fun b hb hn => ⟨upd_ne fun e => hn (e ▸ hag), (T.os.dom j b hb).1⟩) w1 n1 fun b hb => (sub1 b hb).elim .inl fun h => .inr fun hj => N.out b h ⟨j, hj⟩
  have hlt : j < ω.length := by
    have := omAt_some ed
    exact (List.getElem?_eq_some_iff.mp this).1
  have in2 : ∀ b ∈ g2, b ∈ fp j ∨ b ∈ gy := fun b hb => by
    rcases sub2 b hb with h | h
    · rcases sub1 b h with h | h
      · exact .inl (b3 b h)
      · exact .inr h
    · exact .inl h
  have fj : setF fp j g2 j = g2 := by unfold setF; rw [if_pos rfl]
  have fk : ∀ k, k ≠ j → setF fp j g2 k = fp k := fun k hk => by unfold setF; rw [if_neg hk]
  refine ⟨a, o', setF fp j g2, d0, d2, ed, ep, hR, ?_, ?_, ?_, ?_, fun h => by cases h⟩
  · exact T.nxF.trans (Nx.chg (M := inF fp) T.nx.zh hza ho ht ⟨j, haj⟩) fun x hx => T.sub x hx
  · refine ⟨fun k d e => ?_, fun k e => ?_⟩
    · rw [omAt_set hlt] at e
      by_cases hk : k = j
      · subst hk
        rw [if_pos rfl] at e
        cases e
        rw [fj]
        exact ⟨i, sh, v, ej, ev, w2⟩
      · rw [if_neg hk] at e
        rw [fk k hk]
        obtain ⟨i3, sh3, v3, c1, c2, w3⟩ := (T.os.yes k d e).ex
        exact ⟨i3, sh3, v3, c1, c2, w3.stand (stand_upd (fun hm => hk (T.nd.two k j a hm haj)) fun b hb => (T.os.dom k b hb).1)⟩
    · rw [omAt_set hlt] at e
      by_cases hk : k = j
      · rw [if_pos hk] at e; cases e
      · rw [if_neg hk] at e
        rw [fk k hk]
        exact T.os.no k e
  · refine ⟨fun k => ?_, fun k l b hb hl => ?_⟩
    · by_cases hk : k = j
      · rw [hk, fj]; exact n2
      · rw [fk k hk]; exact T.nd.one k
    · by_cases hk : k = j <;> by_cases hl' : l = j
      · rw [hk, hl']
      · subst hk
        rw [fj] at hb
        rw [fk l hl'] at hl
        rcases in2 b hb with h | h
        · exact T.nd.two _ _ b h hl
        · exact absurd ⟨l, hl⟩ (N.out b h)
      · subst hl'
        rw [fj] at hl
        rw [fk k hk] at hb
        rcases in2 b hl with h | h
        · exact T.nd.two _ _ b hb h
        · exact absurd ⟨k, hb⟩ (N.out b h)
      · rw [fk k hk] at hb
        rw [fk l hl'] at hl
        exact T.nd.two _ _ b hb hl
  · intro k b hb
    by_cases hk : k = j
    · subst hk
      rw [fj] at hb
      rcases in2 b hb with h | h
      · exact T.sb k b h
      · exact .inr (N.new b h)
    · rw [fk k hk] at hb
      exact T.sb k b hb
end
end Rf
end

section
set_option Elab.async false
set_option linter.all false
set_option maxRecDepth 100000
set_option maxHeartbeats 1000000
/-! Statements: the language, its evaluator, the rules. -/
namespace Rf
open PySem PySem.Spec PyProof.Rows L2
mutual
inductive IS where
  | set (i : Nat) (e : IE) | oset (j i : Nat) (e : IE) | unp (is : List Nat) (e : IE) | par (is : List Nat) (es : IEs)
  | seti (p : IPt) (i v : IE) | setf (p : IPt) (C f : Str) (v : IE) | app (p : IPt) (v : IE)
  | aug (i : Nat) (op : BOp) (e : IE) | augi (p : IPt) (i : IE) (op : BOp) (e : IE)
  | ex (e : IE) | ret (e : IE) | retn
  | iff (c : IE) (a b : ISs) | forr (t : ITg) (s : ISrc) (b : ISs) | whl (c : IE) (b : ISs)
  | pass | rse | frz (j : Nat) (i : Nat)
inductive ISs where | nil | cons (s : IS) (r : ISs)
end
inductive Fl where | nx (ρ : Env) (ω : Om) | rt (d : D) (ω : Om)
def fth (r : Option Fl) (f : Env → Om → Option Fl) : Option Fl := match r with
  | some (.nx ρ ω) => f ρ ω
  | some (.rt d ω) => some (.rt d ω)
  | none => none
def floop (f : D → Env → Om → Option Fl) : List D → Env → Om → Option Fl
  | [], ρ, ω => some (.nx ρ ω)
  | x :: xs, ρ, ω => fth (f x ρ ω) fun ρ1 ω1 => floop f xs ρ1 ω1
def wloop (c : Env → Om → R Bool) (b : Env → Om → Option Fl) : Nat → Env → Om → Option Fl
  | 0, _, _ => none
  | n + 1, ρ, ω => match c ρ ω with
    | some (true, ω1) => fth (b ρ ω1) fun ρ2 ω2 => wloop c b n ρ2 ω2
    | some (false, ω1) => some (.nx ρ ω1)
    | none => none
def evB (r : R D) : R Bool := match r with
  | some (.bl b, ω) => some (b, ω)
  | _ => none
def setsE (ρ : Env) (is : List Nat) (ds : List D) : Env := (is.zip ds).foldl (fun ρ p => ρ.set p.1 (some p.2)) ρ
/-- the owned variable j gets the part d1 at the path -/
def putO (ω : Om) (j : Nat) (ss : List Sel) (d1 : D) : Option Om := (omAt ω j).bind fun d0 => (putP d0 ss d1).map fun d2 => ω.set j (some d2)
/-- x op= y in place, on values that do not change -/
def daug (op : BOp) (x y : D) : Option D := match op, x, y with
  | .add, .int i, .int j => some (.int (i + j))
  | .sub, .int i, .int j => some (.int (i - j))
  | _, _, _ => none
variable (O : Orc) (W : Nat) in
mutual
def exS : IS → Env → Om → Option Fl
  | .set i e, ρ, ω => match ev O e ρ ω with
    | some (d, ω1) => some (.nx (ρ.set i (some d)) ω1)
    | none => none
  | .oset j i e, ρ, ω => match ev O e ρ ω with
    | some (d, ω1) => if j < ω1.length then some (.nx (ρ.set i none) (ω1.set j (some d))) else none
    | none => none
  | .unp is e, ρ, ω => match ev O e ρ ω with
    | some (d, ω1) => (bindT (.many is) d ρ).map fun ρ1 => .nx ρ1 ω1
    | none => none
  | .par is es, ρ, ω => match evs O es ρ ω with
    | some (ds, ω1) => if ds.length = is.length then some (.nx (setsE ρ is ds) ω1) else none
    | none => none
  | .seti p i v, ρ, ω => match ev O v ρ ω with
    | none => none
    | some (x, ω1) => match evPt O p ρ ω1 with
      | none => none
      | some ((ss, d), ω2) => match ev O i ρ ω2 with
        | none => none
        | some (q, ω3) => (setD d q x).bind fun d1 => (putO ω3 p.root ss d1).map fun ω4 => .nx ρ ω4
  | .setf p C f v, ρ, ω => match ev O v ρ ω with
    | none => none
    | some (x, ω1) => match evPt O p ρ ω1 with
      | none => none
      | some ((ss, d), ω2) => (setFD C f d x).bind fun d1 => (putO ω2 p.root ss d1).map fun ω4 => .nx ρ ω4
  | .app p v, ρ, ω => match evPt O p ρ ω with
    | none => none
    | some ((ss, d), ω1) => match ev O v ρ ω1 with
      | none => none
      | some (x, ω2) => (appD d x).bind fun d1 => (putO ω2 p.root ss d1).map fun ω4 => .nx ρ ω4
  | .aug i op e, ρ, ω => match omAt ρ i, ev O e ρ ω with
    | some x, some (y, ω1) => (daug op x y).map fun z => .nx (ρ.set i (some z)) ω1
    | _, _ => none
  | .augi p i op e, ρ, ω => match evPt O p ρ ω with
    | none => none
    | some ((ss, d), ω1) => match ev O i ρ ω1 with
      | none => none
      | some (q, ω2) => match subD d (.k q) with
        | none => none
        | some x => match ev O e ρ ω2 with
          | none => none
          | some (y, ω3) => (daug op x y).bind fun z => (setD d q z).bind fun d1 => (putO ω3 p.root ss d1).map fun ω4 => .nx ρ ω4
  | .ex e, ρ, ω => match ev O e ρ ω with
    | some (_, ω1) => some (.nx ρ ω1)
    | none => none
  | .ret e, ρ, ω => match ev O e ρ ω with
    | some (d, ω1) => some (.rt d ω1)
    | none => none
  | .retn, _, ω => some (.rt .non ω)
  | .iff c a b, ρ, ω => match evB (ev O c ρ ω) with
    | some (true, ω1) => exs a ρ ω1
    | some (false, ω1) => exs b ρ ω1
    | none => none
  | .forr t s b, ρ, ω => match esrc O s ρ ω with
    | some (its, ω1) => floop (fun d ρ1 ω2 => match bindT t d ρ1 with
      | none => none
      | some ρ2 => exs b ρ2 ω2) its ρ ω1
    | none => none
  | .whl c b, ρ, ω => wloop (fun ρ ω => evB (ev O c ρ ω)) (fun ρ ω => exs b ρ ω) W ρ ω
  | .pass, ρ, ω => some (.nx ρ ω)
  | .rse, _, _ => none
  | .frz j i, ρ, ω => match omAt ω j with
    | some d => some (.nx (ρ.set i (some d)) (ω.set j none))
    | none => none
def exs : ISs → Env → Om → Option Fl
  | .nil, ρ, ω => some (.nx ρ ω)
  | .cons s r, ρ, ω => fth (exS s ρ ω) fun ρ1 ω1 => exs r ρ1 ω1
end
/-! ### what a statement leaves -/
structure Mv (fx : List Nat) (σ : L2.St) (Z H : Hp) (fp : Fp) (σ' : L2.St) (Z' H' : Hp) (fp' : Fp) : Prop where
  nx : Nx (inF fp) Z H Z' H'
  sb : ∀ j a, a ∈ fp' j → a ∈ fp j ∨ H a = none
  fx : ∀ i ∈ fx, σ'[i]? = σ[i]?
section
variable {fx : List Nat} {σ σ1 σ2 : L2.St} {Z H Z1 H1 Z2 H2 : Hp} {fp fp1 fp2 : Fp}
theorem Mv.refl (z : ZOk Z H) : Mv fx σ Z H fp σ Z H fp := ⟨Nx.refl z, fun _ _ h => .inl h, fun _ _ => rfl⟩
theorem Mv.sub (T : Mv fx σ Z H fp σ1 Z1 H1 fp1) : ∀ a, inF fp1 a → inF fp a ∨ H a = none := fun a ⟨j, h⟩ => (T.sb j a h).elim (fun h => .inl ⟨j, h⟩) .inr
theorem Mv.trans (a : Mv fx σ Z H fp σ1 Z1 H1 fp1) (b : Mv fx σ1 Z1 H1 fp1 σ2 Z2 H2 fp2) : Mv fx σ Z H fp σ2 Z2 H2 fp2 where
  nx := a.nx.trans b.nx fun x hx => a.sub x hx
  sb := fun j x hx => (b.sb j x hx).elim (a.sb j x) fun h => .inr (none_back a.nx h)
  fx := fun i hi => (b.fx i hi).trans (a.fx i hi)
theorem Step.mv {K : PySem.W.Frag} {ad : Str → Addr} {os : Osl} {q : Bool} {ω ω1 : Om} (T : Step K ad os q σ Z H ω fp Z1 H1 ω1 fp1) (h : ∀ i ∈ fx, σ1[i]? = σ[i]?) : Mv fx σ Z H fp σ1 Z1 H1 fp1 := ⟨T.nxF, T.sb, h⟩
end
def EndsAt (X : Cx) (p : Par) (fx : List Nat) (D : Ends) (σ : L2.St) (Z H : Hp) (fp : Fp) : Fl → Prop
  | .nx ρ' ω' => ∀ σ' Z' H' fp', Mv fx σ Z H fp σ' Z' H' fp' → StaX X p σ' Z' H' ρ' ω' fp' → D.nx σ' H'
  | .rt d ω' => ∀ v σ' Z' H' fp', Mv fx σ Z H fp σ' Z' H' fp' → StaX X p σ' Z' H' [] ω' fp' → Rp X.K p.ad Z' v d → D.rt v H'
theorem EndsAt.go {X : Cx} {p : Par} {fx : List Nat} {D : Ends} {σ σ1 : L2.St} {Z H Z1 H1 : Hp} {fp fp1 : Fp} (m : Mv fx σ Z H fp σ1 Z1 H1 fp1) : ∀ {r : Fl}, EndsAt X p fx D σ Z H fp r → EndsAt X p fx D σ1 Z1 H1 fp1 r
  | .nx _ _, h => fun σ' Z' H' fp' m' S => h σ' Z' H' fp' (m.trans m') S
  | .rt _ _, h => fun v σ' Z' H' fp' m' S r => h v σ' Z' H' fp' (m.trans m') S r
def tSR (X : Cx) (st : Stmt) : TS := fun D σ H => ∀ pins s, Inv X pins σ H s → wpAny (model X.prog X.w) X.A (exec st X.env) (SP X pins D) X.xe s
theorem ps_R {X : Cx} (st : Stmt) : PS X st (tSR X st) := ⟨fun pins s _ _ _ I h => h pins s I⟩
def tSsR (X : Cx) (sts : List Stmt) : TS := fun D σ H => ∀ pins s, Inv X pins σ H s → wpAny (model X.prog X.w) X.A (execs sts X.env) (SP X pins D) X.xe s
theorem pss_R {X : Cx} (sts : List Stmt) : PSs X sts (tSsR X sts) := ⟨fun pins s _ _ _ I h => h pins s I⟩
def SS (X : Cx) (p : Par) (fx : List Nat) (W : Nat) (st : Stmt) (is : IS) : Prop := ∀ σ Z H ρ ω fp r (D : Ends), StaX X p σ Z H ρ ω fp → exS p.O W is ρ ω = some r → EndsAt X p fx D σ Z H fp r → tSR X st D σ H
def SSs (X : Cx) (p : Par) (fx : List Nat) (W : Nat) (sts : List Stmt) (is : ISs) : Prop := ∀ σ Z H ρ ω fp r (D : Ends), StaX X p σ Z H ρ ω fp → exs p.O W is ρ ω = some r → EndsAt X p fx D σ Z H fp r → tSsR X sts D σ H
theorem of_fth {r : Option Fl} {f : Env → Om → Option Fl} {q : Fl} (h : fth r f = some q) : (∃ ρ ω, r = some (.nx ρ ω) ∧ f ρ ω = some q) ∨ (∃ d ω, r = some (.rt d ω) ∧ q = .rt d ω) := by
  cases r with
  | none => cases h
  | some x =>
    cases x with
    | nx ρ ω => exact .inl ⟨ρ, ω, rfl, h⟩
    | rt d ω => cases h; exact .inr ⟨d, ω, rfl, rfl⟩
section
variable {X : Cx} {p : Par} {fx : List Nat} {W : Nat}
theorem sss_nil : SSs X p fx W [] .nil := fun σ Z H ρ ω fp r D S e E pins s I => by
  cases e
  exact pss_nil.run pins s σ H D I (E σ Z H fp (Mv.refl S.zok) S)
theorem sss_cons {st : Stmt} {sts : List Stmt} {is : IS} {iss : ISs} (h : SS X p fx W st is) (hr : SSs X p fx W sts iss) : SSs X p fx W (st :: sts) (.cons is iss) := fun σ Z H ρ ω fp r D S e E pins s I => by
  refine (pss_cons (ps_R st) (pss_R sts)).run pins s σ H D I ?_
  rcases of_fth (show fth (exS p.O W is ρ ω) (fun ρ1 ω1 => exs p.O W iss ρ1 ω1) = some r from e) with ⟨ρ1, ω1, e1, e2⟩ | ⟨d, ω1, e1, rfl⟩
  · exact h σ Z H ρ ω fp _ _ S e1 fun σ1 Z1 H1 fp1 m1 S1 => hr σ1 Z1 H1 ρ1 ω1 fp1 r D S1 e2 (E.go m1)
  · exact h σ Z H ρ ω fp _ _ S e1 E
/-- a slot read anew -/
theorem Fz.put {K : PySem.W.Frag} {ad : Str → Addr} {Z : Hp} {σ : L2.St} {ρ : Env} (h : Fz K ad Z σ ρ) {i : Nat} {v : V} {d : D} (e : σ[i]? = some (some v)) (r : Rp K ad Z v d) : Fz K ad Z σ (ρ.set i (some d)) where
  len := by rw [List.length_set]; exact h.len
  at_ := fun j x q => by
    by_cases hj : i = j
    · subst hj
      by_cases hl : i < ρ.length
      · rw [List.getElem?_set_self hl] at q
        cases q
        exact ⟨v, e, r⟩
      · rw [List.getElem?_eq_none (by simpa using hl)] at q; cases q
    · rw [List.getElem?_set_ne hj] at q
      exact h.at_ j x q
/-- a step that is not in the text -/
theorem sss_frz {j i : Nat} {sh : Sh} {sts : List Stmt} {iss : ISs} (hj : p.os[j]? = some (i, sh)) (hr : SSs X p fx W sts iss) : SSs X p fx W sts (.cons (.frz j i) iss) := fun σ Z H ρ ω fp r D S e E pins s I => by
  rcases of_fth (show fth (exS p.O W (.frz j i) ρ ω) (fun ρ1 ω1 => exs p.O W iss ρ1 ω1) = some r from e) with ⟨ρ1, ω1, e1, e2⟩ | ⟨d, ω1, e1, rfl⟩
  · have e1 : (match omAt ω j with
      | some d => some (Fl.nx (ρ.set i (some d)) (ω.set j none))
      | none => none) = some (.nx ρ1 ω1) := e1
    split at e1
    case h_2 => cases e1
    rename_i d ed
    cases e1
    obtain ⟨i', sh', v, q1, q2, w⟩ := (S.os.yes j d ed).ex
    rw [hj] at q1
    cases q1
    have hlt : j < ω.length := (List.getElem?_eq_some_iff.mp (omAt_some ed)).1
    have hz : ∀ a ∈ fp j, Z a = none ∧ ∃ o, H a = some o ∧ notTbl o = true := w.dom
    have le := frz_le (H := H) fun a ha => (hz a ha).1
    have fj : setF fp j [] j = [] := by unfold setF; rw [if_pos rfl]
    have fk : ∀ k, k ≠ j → setF fp j [] k = fp k := fun k hk => by unfold setF; rw [if_neg hk]
    have sub : ∀ k a, a ∈ setF fp j [] k → a ∈ fp k := fun k a hk => by
      by_cases h : k = j
      · rw [h, fj] at hk; cases hk
      · rw [fk k h] at hk; exact hk
    have zok : ZOk (frzZ Z H (fp j)) H := fun a o e => by
      unfold frzZ at e
      split at e
      · rename_i ha
        obtain ⟨_, o', eo, t⟩ := hz a ha
        rw [e] at eo; cases eo
        exact ⟨e, t⟩
      · exact S.zok a o e
    have out : ∀ k, k ≠ j → ∀ a ∈ fp k, frzZ Z H (fp j) a = none := fun k hk a ha => by
      unfold frzZ
      rw [if_neg fun h => hk (S.nd.two k j a ha h)]
      exact (S.os.dom k a ha).1
    have os2 : Os X.K p.ad (frzZ Z H (fp j)) H σ p.os (ω.set j none) (setF fp j []) := by
      refine ⟨fun k d' e => ?_, fun k e => ?_⟩
      · rw [omAt_set hlt] at e
        by_cases hk : k = j
        · rw [if_pos hk] at e; cases e
        · rw [if_neg hk] at e
          rw [fk k hk]
          obtain ⟨i3, sh3, v3, c1, c2, w3⟩ := (S.os.yes k d' e).ex
          exact ⟨i3, sh3, v3, c1, c2, w3.stand ⟨le, fun _ _ => rfl, out k hk⟩⟩
      · rw [omAt_set hlt] at e
        by_cases hk : k = j
        · rw [hk]; exact fj
        · rw [if_neg hk] at e
          rw [fk k hk]
          exact S.os.no k e
    have nd2 : NdF (setF fp j []) := by
      refine ⟨fun k => ?_, fun k l b hb hl => ?_⟩
      · by_cases hk : k = j
        · rw [hk, fj]; exact .nil
        · rw [fk k hk]; exact S.nd.one k
      · by_cases hk : k = j
        · rw [hk, fj] at hb; cases hb
        · by_cases hl' : l = j
          · rw [hl', fj] at hl; cases hl
          · rw [fk k hk] at hb
            rw [fk l hl'] at hl
            exact S.nd.two _ _ b hb hl
    refine hr σ (frzZ Z H (fp j)) H _ _ (setF fp j []) r D ⟨zok, (S.fz.le le).put q2 (w.frozen), os2, nd2, S.tb⟩ e2 (E.go ⟨⟨le, zok, fun a o e => ?_, fun a o e => ⟨o, e⟩, fun a o e _ _ => e, fun a ps e t => ⟨ps, e, t⟩⟩, fun k a h => .inl (sub k a h), fun _ _ => rfl⟩) pins s I
    unfold frzZ at e
    split at e
    · rename_i h; exact .inr (.inr ⟨j, h⟩)
    · exact .inl e
  · have e1 : (match omAt ω j with
      | some d => some (Fl.nx (ρ.set i (some d)) (ω.set j none))
      | none => none) = some (.rt d ω1) := e1
    split at e1 <;> cases e1
/-! ### what names are given -/
/-- a value that can be stored by an assignment -/
structure AsF (X : Cx) (p : Par) (i : Nat) (tg : Expr) (pos : Pos) (e : Expr) (ie : IE) (sh : Sh) : Prop where
  ex : ∃ te : TE, PS X (.Assign [tg] e pos) (tAsg te (gName i)) ∧ ∀ σ Z H ρ ω fp d ω', StaX X p σ Z H ρ ω fp → ev p.O ie ρ ω = some (d, ω') → ∀ Q : VK,
    (∀ v Z' H' fp' g, StepX X p ie.quiet σ Z H ω fp Z' H' ω' fp' → Ow X.K p.ad Z' H' sh v d g → NewG H fp' g → Q v H') → te σ H Q
theorem ss_set {i : Nat} {tg e : Expr} {ie : IE} {pos : Pos} (h : AsF X p i tg pos e ie .z) (hf : i ∉ fx) (ho : ∀ x ∈ p.os, x.1 ≠ i) : SS X p fx W (.Assign [tg] e pos) (.set i ie) := fun σ Z H ρ ω fp r D S ex E pins s I => by
  obtain ⟨te, ps, run⟩ := h.ex
  refine ps.run pins s σ H D I ?_
  have ex : (match ev p.O ie ρ ω with
    | some (d, ω1) => some (Fl.nx (ρ.set i (some d)) ω1)
    | none => none) = some r := ex
  split at ex
  case h_2 => cases ex
  rename_i d ω1 ed
  cases ex
  refine run σ Z H ρ ω fp d ω1 S ed _ fun v Z1 H1 fp1 g T w N => ?_
  cases w with
  | z rv =>
    have S1 := T.sta S
    have hs : ∀ x ∈ p.os, (σ.set i (some v))[x.1]? = σ[x.1]? := fun x hx => List.getElem?_set_ne fun e => ho x hx e.symm
    exact E _ Z1 H1 fp1 (T.mv fun k hk => List.getElem?_set_ne fun (e : i = k) => hf (by rw [e]; exact hk)) (S1.env (S1.fz.set i rv) hs)
/-- a variable gets new owned data -/
theorem own_new {q : Bool} {σ : L2.St} {Z H Z1 H1 : Hp} {ρ : Env} {ω ω1 : Om} {fp fp1 : Fp} {j i : Nat} {sh : Sh} {v : V} {d : D} {g : List Addr} (S : StaX X p σ Z H ρ ω fp) (T : StepX X p q σ Z H ω fp Z1 H1 ω1 fp1) (w : Ow X.K p.ad Z1 H1 sh v d g) (N : NewG H fp1 g) (hj : p.os[j]? = some (i, sh)) (hil : i < σ.length) (hlt : j < ω1.length) (hf : i ∉ fx) (hu : ∀ k x, p.os[k]? = some x → x.1 = i → k = j) :
    Mv fx σ Z H fp (σ.set i (some v)) Z1 H1 (setF fp1 j g) ∧ StaX X p (σ.set i (some v)) Z1 H1 (ρ.set i none) (ω1.set j (some d)) (setF fp1 j g) := by
  have S1 := T.sta S
  have fj : setF fp1 j g j = g := by unfold setF; rw [if_pos rfl]
  have fk : ∀ k, k ≠ j → setF fp1 j g k = fp1 k := fun k hk => by unfold setF; rw [if_neg hk]
  refine ⟨⟨T.nxF, ?_, fun k hk => List.getElem?_set_ne fun (e : i = k) => hf (by rw [e]; exact hk)⟩, S1.zok, S1.fz.drop i _, ⟨fun k d' e => ?_, fun k e => ?_⟩, ⟨fun k => ?_, fun k l b hb hl => ?_⟩, S1.tb⟩
  · intro k b hb
    by_cases hk : k = j
    · rw [hk, fj] at hb
      exact .inr (N.new b hb)
    · rw [fk k hk] at hb
      exact T.sb k b hb
  · rw [omAt_set hlt] at e
    by_cases hk : k = j
    · subst hk
      rw [if_pos rfl] at e
      cases e
      rw [fj]
      exact ⟨i, sh, v, hj, List.getElem?_set_self hil, w⟩
    · rw [if_neg hk] at e
      rw [fk k hk]
      obtain ⟨i3, sh3, v3, c1, c2, w3⟩ := (S1.os.yes k d' e).ex
      exact ⟨i3, sh3, v3, c1, (List.getElem?_set_ne fun (e : i = i3) => hk (hu k _ c1 e.symm)).trans c2, w3⟩
  · rw [omAt_set hlt] at e
    by_cases hk : k = j
    · rw [if_pos hk] at e; cases e
    · rw [if_neg hk] at e
      rw [fk k hk]
      exact S1.os.no k e
  · by_cases hk : k = j
    · rw [hk, fj]; exact N.nd
    · rw [fk k hk]; exact S1.nd.one k
  · by_cases hk : k = j <;> by_cases hl' : l = j
    · rw [hk, hl']
    · rw [hk, fj] at hb
      rw [fk l hl'] at hl
      exact absurd ⟨l, hl⟩ (N.out b hb)
    · rw [hl', fj] at hl
      rw [fk k hk] at hb
      exact absurd ⟨k, hb⟩ (N.out b hl)
    · rw [fk k hk] at hb
      rw [fk l hl'] at hl
      exact S1.nd.two _ _ b hb hl
theorem ss_oset {j i : Nat} {sh : Sh} {tg e : Expr} {ie : IE} {pos : Pos} (hj : p.os[j]? = some (i, sh)) (hN : i < X.N.length) (h : AsF X p i tg pos e ie sh) (hf : i ∉ fx) (hu : ∀ k x, p.os[k]? = some x → x.1 = i → k = j) : SS X p fx W (.Assign [tg] e pos) (.oset j i ie) := fun σ Z H ρ ω fp r D S ex E pins s I => by
  obtain ⟨te, ps, run⟩ := h.ex
  refine ps.run pins s σ H D I ?_
  have hil : i < σ.length := by rw [I.len]; exact hN
  have ex : (match ev p.O ie ρ ω with
    | some (d, ω1) => if j < ω1.length then some (Fl.nx (ρ.set i none) (ω1.set j (some d))) else none
    | none => none) = some r := ex
  split at ex
  case h_2 => cases ex
  rename_i d ω1 ed
  split at ex
  case isFalse => cases ex
  rename_i hlt
  cases ex
  refine run σ Z H ρ ω fp d ω1 S ed _ fun v Z1 H1 fp1 g T w N => ?_
  obtain ⟨m, S2⟩ := own_new (fx := fx) S T w N hj hil hlt hf hu
  exact E _ Z1 H1 _ m S2
/-- a, b = e -/
theorem ss_unp {is : List Nat} {es : List Expr} {kk : Nat} {tpos pos : Pos} {e : Expr} {ie : IE} (h : SE X p e ie) (hg : PG X (.Tuple es kk tpos) (gT X.K (.many is))) (hw : swappedStores [.Tuple es kk tpos] e X.env = pure none) (hsw : swapsWithSole [.Tuple es kk tpos] e pos.line X.env = pure false)
    (hf : ∀ i ∈ is, i ∉ fx) (ho : ∀ x ∈ p.os, x.1 ∉ is) : SS X p fx W (.Assign [.Tuple es kk tpos] e pos) (.unp is ie) := fun σ Z H ρ ω fp r D S ex E pins s I => by
  refine (ps_asg (pe_R e) hg hsw hw (by rfl)).run pins s σ H D I ?_
  have ex : (match ev p.O ie ρ ω with
    | some (d, ω1) => (bindT (.many is) d ρ).map fun ρ1 => Fl.nx ρ1 ω1
    | none => none) = some r := ex
  split at ex
  case h_2 => cases ex
  rename_i d ω1 ed
  obtain ⟨ρ1, eb, rfl⟩ := Option.map_eq_some_iff.mp ex
  refine h σ Z H ρ ω fp d ω1 S ed _ fun v Z1 H1 fp1 T rv => ?_
  have S1 := T.sta S
  obtain ⟨σ2, a1, a2, a3, a4, a5⟩ := gT_run S1.zok rv eb S1.fz (H := H1)
  exact a1 _ (E σ2 Z1 H1 fp1 (T.mv fun k hk => a3 k fun hm => hf k hm hk) (S1.env a2 fun x hx => a3 _ (ho x hx)))
/-! ### changes -/
theorem of_putO {ω ω' : Om} {j : Nat} {ss : List Sel} {d1 : D} (h : putO ω j ss d1 = some ω') : ∃ d0 d2, omAt ω j = some d0 ∧ putP d0 ss d1 = some d2 ∧ ω' = ω.set j (some d2) := by
  obtain ⟨d0, e0, h⟩ := Option.bind_eq_some_iff.mp h
  obtain ⟨d2, e2, rfl⟩ := Option.map_eq_some_iff.mp h
  exact ⟨d0, d2, e0, e2, rfl⟩
theorem assign_sub {o i : Expr} {pos : Pos} {env : PySem.Env} (h : isSlice i = false) (v : Value) : assign (.Subscript o i pos) env v = (do
      let ov ← holding [v] (eval o env)
      let iv ← holding [v, ov] (eval i env)
      standAt pos
      holding [v, ov, iv] (setItem ov iv v)
      release [v, ov, iv] []) := by
  cases i <;> first | rfl | cases h
theorem ss_seti {ip : IPt} {ii iv : IE} {s s' : Sh} {o ei e : Expr} {tpos pos : Pos} (hu : X.A.units + 64 < cLine) (hsh : shPt p.os ip = some s) (hs' : subSh s (.k .non) = s') (hz : isZ s = false) (hq : ii.quiet = true) (hsl : isSlice ei = false) (hsw : swapsWithSole [.Subscript o ei tpos] e pos.line X.env = pure false) (hv : FE X p e iv s') (ho : SPt X p o ip) (hi : SE X p ei ii) :
    SS X p fx W (.Assign [.Subscript o ei tpos] e pos) (.seti ip ii iv) := fun σ Z H ρ ω fp r D S ex E pins s0 I => by
  refine (ps_asg (pe_R e) (pg_sub (pe_R o) (pe_R ei) (set_x (by omega)) (assign_sub hsl)) hsw (by rfl) (by rfl)).run pins s0 σ H D I ?_
  have ex : (match ev p.O iv ρ ω with
    | none => none
    | some (x, ω1) => match evPt p.O ip ρ ω1 with
      | none => none
      | some ((ss, d), ω2) => match ev p.O ii ρ ω2 with
        | none => none
        | some (q, ω3) => (setD d q x).bind fun d1 => (putO ω3 ip.root ss d1).map fun ω4 => Fl.nx ρ ω4) = some r := ex
  split at ex
  · cases ex
  rename_i x ω1 e1
  split at ex
  · cases ex
  rename_i ss d ω2 e2
  split at ex
  · cases ex
  rename_i q ω3 e3
  obtain ⟨d1, e4, ex⟩ := Option.bind_eq_some_iff.mp ex
  obtain ⟨ω4, e5, rfl⟩ := Option.map_eq_some_iff.mp ex
  refine hv σ Z H ρ ω fp x ω1 S e1 _ fun v Z1 H1 fp1 gy T1 wy N1 => ?_
  have S1 := T1.sta S
  refine ho σ Z1 H1 ρ ω1 fp1 ss d ω2 S1 e2 _ fun v' Z2 H2 T2 ew h2 => ?_
  subst ew
  have S2 := T2.sta S1
  refine hi σ Z2 H2 ρ _ fp1 q ω3 S2 e3 _ fun vq Z3 H3 fp3 T3 rq => ?_
  rw [hq] at T3
  obtain ⟨rfl, rfl⟩ := T3.qu rfl
  have h3 := HAt.go T2.os T2.nd T3 h2
  obtain ⟨st2, out2⟩ := T2.stand wy.dom N1.out
  have wy2 := wy.stand st2
  obtain ⟨st3, out3⟩ := T3.stand wy2.dom out2
  have wy3 := wy2.stand st3
  obtain ⟨i, sh, q1, q2, q3⟩ := sh_path hsh e2
  obtain ⟨a, o', fp4, d0, d2, ed, ep, hR, T4⟩ := mut_core (R := fun H' => ∀ Q : Hp → Prop, Q H' → rSetX v' vq v H3 Q) ((T1.trans T2).trans T3) ⟨N1.nd, N1.new, out3⟩ h3 fun i0 sh0 g' ej w nd ap => by
    rw [show p.os[ip.root]? = some (i, sh) from q1] at ej
    cases ej
    have hzz : subSs sh ss ≠ .z := by rw [q3]; exact isZ_no hz
    refine leaf_set (s := s') T3.nx.zh w hzz nd rq wy3 ?_ N1.nd ap e4
    rw [q3, ← hs']
    cases s <;> rfl
  obtain ⟨d0', d2', e6, e7, rfl⟩ := of_putO e5
  rw [ed] at e6
  cases e6
  rw [ep] at e7
  cases e7
  exact hR _ (E σ Z3 _ fp4 (T4.mv fun _ _ => rfl) (T4.sta S))
theorem ss_setf {ip : IPt} {C f : Str} {iv : IE} {s s' : Sh} {o e : Expr} {tpos pos : Pos} (hsh : shPt p.os ip = some s) (hs' : subSh s (.f f) = s') (hz : isZ s = false) (c : Cls X.K (p.ad C)) (n : NoAttr X.K (p.ad C) f) (hsw : swapsWith e (some (.Attribute o f tpos)) pos.line X.env = pure false) (hv : FE X p e iv s') (ho : SPt X p o ip) :
    SS X p fx W (.Assign [.Attribute o f tpos] e pos) (.setf ip C f iv) := fun σ Z H ρ ω fp r D S ex E pins s0 I => by
  refine (ps_fld (pe_R o) (pe_R e) hsw).run pins s0 σ H D I ?_
  have ex : (match ev p.O iv ρ ω with
    | none => none
    | some (x, ω1) => match evPt p.O ip ρ ω1 with
      | none => none
      | some ((ss, d), ω2) => (setFD C f d x).bind fun d1 => (putO ω2 ip.root ss d1).map fun ω4 => Fl.nx ρ ω4) = some r := ex
  split at ex
  · cases ex
  rename_i x ω1 e1
  split at ex
  · cases ex
  rename_i ss d ω2 e2
  obtain ⟨d1, e4, ex⟩ := Option.bind_eq_some_iff.mp ex
  obtain ⟨ω4, e5, rfl⟩ := Option.map_eq_some_iff.mp ex
  refine hv σ Z H ρ ω fp x ω1 S e1 _ fun v Z1 H1 fp1 gy T1 wy N1 => ?_
  have S1 := T1.sta S
  refine ho σ Z1 H1 ρ ω1 fp1 ss d ω2 S1 e2 _ fun v' Z2 H2 T2 ew h2 => ?_
  subst ew
  obtain ⟨st2, out2⟩ := T2.stand wy.dom N1.out
  have wy2 := wy.stand st2
  obtain ⟨i, sh, q1, q2, q3⟩ := sh_path hsh e2
  obtain ⟨a, o', fp4, d0, d2, ed, ep, ⟨b, dx, fs, rfl, hb, hl, eH⟩, T4⟩ := mut_core (R := fun H' => ∃ a dx fs, v' = .ref a ∧ H2 a = some (.ins (p.ad C) dx fs) ∧ fs.length < 1000 ∧ H' = upd H2 a (.ins (p.ad C) dx (putF f v fs))) (T1.trans T2) ⟨N1.nd, N1.new, out2⟩ h2 fun i0 sh0 g' ej w nd ap => by
    rw [show p.os[ip.root]? = some (i, sh) from q1] at ej
    cases ej
    have hzz : subSs sh ss ≠ .z := by rw [q3]; exact isZ_no hz
    exact leaf_fld (s := s') w hzz nd wy2 (by rw [q3, ← hs']) N1.nd ap e4
  obtain ⟨d0', d2', e6, e7, rfl⟩ := of_putO e5
  rw [ed] at e6
  cases e6
  rw [ep] at e7
  cases e7
  refine ⟨b, _, dx, fs, rfl, hb, c, n, hl, ?_⟩
  rw [← eH]
  exact E σ Z2 _ fp4 (T4.mv fun _ _ => rfl) (T4.sta S)
/-! ### plain statements -/
theorem ss_pass {pos : Pos} : SS X p fx W (.Pass pos) .pass := fun σ Z H ρ ω fp r D S ex E pins s I => by
  cases ex
  exact ps_pass.run pins s σ H D I (E σ Z H fp (Mv.refl S.zok) S)
theorem ss_rse {st : Stmt} : SS X p fx W st .rse := fun σ Z H ρ ω fp r D S ex E pins s I => by cases ex
theorem ss_ex {e : Expr} {ie : IE} {pos : Pos} (h : SE X p e ie) (hs : swapsWith e none pos.line X.env = pure false) : SS X p fx W (.Expr e pos) (.ex ie) := fun σ Z H ρ ω fp r D S ex E pins s I => by
  have ex : (match ev p.O ie ρ ω with
    | some (_, ω1) => some (Fl.nx ρ ω1)
    | none => none) = some r := ex
  split at ex
  case h_2 => cases ex
  rename_i d ω1 ed
  cases ex
  exact (ps_expr (pe_R e) hs).run pins s σ H D I (h σ Z H ρ ω fp d ω1 S ed _ fun v Z1 H1 fp1 T rv => E σ Z1 H1 fp1 (T.mv fun _ _ => rfl) (T.sta S))
theorem sta_nil {σ : L2.St} {Z H : Hp} {ρ : Env} {ω : Om} {fp : Fp} (S : StaX X p σ Z H ρ ω fp) : StaX X p σ Z H [] ω fp := ⟨S.zok, ⟨Nat.zero_le _, fun i d e => by simp at e⟩, S.os, S.nd, S.tb⟩
theorem ss_ret {e : Expr} {ie : IE} {pos : Pos} (h : SE X p e ie) : SS X p fx W (.Return (some e) pos) (.ret ie) := fun σ Z H ρ ω fp r D S ex E pins s I => by
  have ex : (match ev p.O ie ρ ω with
    | some (d, ω1) => some (Fl.rt d ω1)
    | none => none) = some r := ex
  split at ex
  case h_2 => cases ex
  rename_i d ω1 ed
  cases ex
  exact (ps_ret (pe_R e)).run pins s σ H D I (h σ Z H ρ ω fp d ω1 S ed _ fun v Z1 H1 fp1 T rv => E v σ Z1 H1 fp1 (T.mv fun _ _ => rfl) (sta_nil (T.sta S)) rv)
theorem ss_retn {pos : Pos} : SS X p fx W (.Return none pos) .retn := fun σ Z H ρ ω fp r D S ex E pins s I => by
  cases ex
  exact ps_retN.run pins s σ H D I (E .non σ Z H fp (Mv.refl S.zok) (sta_nil S) .non)
theorem of_evB {r : R D} {b : Bool} {ω : Om} (h : evB r = some (b, ω)) : r = some (.bl b, ω) := by
  unfold evB at h
  split at h
  · cases h; rfl
  · cases h
theorem ss_if {c : Expr} {ic : IE} {a b : List Stmt} {ia ib : ISs} {pos : Pos} (h : ST X p c ic) (ha : SSs X p fx W a ia) (hb : SSs X p fx W b ib) : SS X p fx W (.If c a b pos) (.iff ic ia ib) := fun σ Z H ρ ω fp r D S ex E pins s I => by
  have ex : (match evB (ev p.O ic ρ ω) with
    | some (true, ω1) => exs p.O W ia ρ ω1
    | some (false, ω1) => exs p.O W ib ρ ω1
    | none => none) = some r := ex
  refine (ps_if (pt_R c) (pss_R a) (pss_R b)).run pins s σ H D I ?_
  split at ex
  · rename_i ω1 e1
    exact h σ Z H ρ ω fp true ω1 S (of_evB e1) _ fun Z1 H1 fp1 T => ha σ Z1 H1 ρ ω1 fp1 r D (T.sta S) ex (E.go (T.mv fun _ _ => rfl))
  · rename_i ω1 e1
    exact h σ Z H ρ ω fp false ω1 S (of_evB e1) _ fun Z1 H1 fp1 T => hb σ Z1 H1 ρ ω1 fp1 r D (T.sta S) ex (E.go (T.mv fun _ _ => rfl))
  · cases ex
theorem ss_for {tg iter : Expr} {t : ITg} {src : ISrc} {body : List Stmt} {ib : ISs} {pos : Pos} (hx : X.xe = fun _ _ => False) (hc : X.calm = true) (hi : SI X p tg iter src) (hg : PG X tg (gT X.K t)) (hb : SSs X p fx W body ib) (hs : ∀ x, foldedSetIterable iter X.env x = pure x) (hf : ∀ i ∈ slotsT t, i ∉ fx) (ho : ∀ x ∈ p.os, x.1 ∉ slotsT t) :
    SS X p fx W (.For tg iter body [] pos) (.forr t src ib) := fun σ Z H ρ ω fp r D S ex E pins s I => by
  have ex : (match esrc p.O src ρ ω with
    | some (its, ω1) => floop (fun d ρ1 ω2 => match bindT t d ρ1 with
      | none => none
      | some ρ2 => exs p.O W ib ρ2 ω2) its ρ ω1
    | none => none) = some r := ex
  split at ex
  case h_2 => cases ex
  rename_i items ω1 e1
  refine (ps_for (by rw [hx]; exact PassesOwn.never) hc hi hg (pss_R body) hs).run pins s σ H D I ?_
  refine ⟨Z, ρ, ω, fp, items, ω1, S, e1, fun J Z1 H1 fp1 T1 jw => ?_⟩
  generalize hF : (fun d ρ1 ω2 => match bindT t d ρ1 with
      | none => none
      | some ρ2 => exs p.O W ib ρ2 ω2 : Rf.D → Env → Om → Option Fl) = F at ex
  refine ⟨fun i m σ5 H5 => m = items.length - i ∧ i ≤ items.length ∧ ∃ Z5 ρ5 ω5 fp5, Mv fx σ Z H fp σ5 Z5 H5 fp5 ∧ StaX X p σ5 Z5 H5 ρ5 ω5 fp5 ∧ Le Z1 Z5 ∧ floop F (items.drop i) ρ5 ω5 = some r, ⟨items.length, by simp, Nat.zero_le _, Z1, ρ, ω1, fp1, T1.mv fun _ _ => rfl, T1.sta S, Le.refl _, ex⟩, ?_⟩
  rintro i m σ5 H5 ⟨rfl, hi5, Z5, ρ5, ω5, fp5, m5, S5, l5, e5⟩
  by_cases hlt : i < items.length
  · right
    obtain ⟨dx, exx, edrop⟩ := drop_get hlt
    rw [edrop] at e5
    obtain ⟨go, yld⟩ := (jw i Z5 H5 l5 S5.zok).1 dx exx
    refine ⟨go, fun σ6 H6 => i + 1 ≤ items.length ∧ ∃ Z5 ρ5 ω5 fp5, Mv fx σ Z H fp σ6 Z5 H6 fp5 ∧ StaX X p σ6 Z5 H6 ρ5 ω5 fp5 ∧ Le Z1 Z5 ∧ floop F (items.drop (i + 1)) ρ5 ω5 = some r, fun σ6 H6 h6 => ⟨items.length - (i + 1), by omega, rfl, h6⟩, fun x H6 hy => ?_⟩
    obtain ⟨Z6, n6, r6⟩ := yld x H6 hy
    have T6 : StepX X p true σ5 Z5 H5 ω5 fp5 Z6 H6 ω5 fp5 := Sta.nw S5 n6
    have S6 := T6.sta S5
    have m6 := m5.trans (T6.mv fun _ _ => rfl)
    have run : ∀ ρ2 r1, bindT t dx ρ5 = some ρ2 → exs p.O W ib ρ2 ω5 = some r1 → (∀ σ2, (∀ i, i ∉ slotsT t → σ2[i]? = σ5[i]?) → EndsAt X p fx { D with nx := fun σ6 H6 => i + 1 ≤ items.length ∧ ∃ Z5 ρ5 ω5 fp5, Mv fx σ Z H fp σ6 Z5 H6 fp5 ∧ StaX X p σ6 Z5 H6 ρ5 ω5 fp5 ∧ Le Z1 Z5 ∧ floop F (items.drop (i + 1)) ρ5 ω5 = some r, ct := fun σ6 H6 => i + 1 ≤ items.length ∧ ∃ Z5 ρ5 ω5 fp5, Mv fx σ Z H fp σ6 Z5 H6 fp5 ∧ StaX X p σ6 Z5 H6 ρ5 ω5 fp5 ∧ Le Z1 Z5 ∧ floop F (items.drop (i + 1)) ρ5 ω5 = some r, bk := D.nx } σ2 Z6 H6 fp5 r1) → gT X.K t x σ5 H6 fun σ2 H2 => tSsR X body { D with nx := fun σ6 H6 => i + 1 ≤ items.length ∧ ∃ Z5 ρ5 ω5 fp5, Mv fx σ Z H fp σ6 Z5 H6 fp5 ∧ StaX X p σ6 Z5 H6 ρ5 ω5 fp5 ∧ Le Z1 Z5 ∧ floop F (items.drop (i + 1)) ρ5 ω5 = some r, ct := fun σ6 H6 => i + 1 ≤ items.length ∧ ∃ Z5 ρ5 ω5 fp5, Mv fx σ Z H fp σ6 Z5 H6 fp5 ∧ StaX X p σ6 Z5 H6 ρ5 ω5 fp5 ∧ Le Z1 Z5 ∧ floop F (items.drop (i + 1)) ρ5 ω5 = some r, bk := D.nx } σ2 H2 := fun ρ2 r1 eb eb2 hE => by
      obtain ⟨σ2, a1, a2, a3, a4, a5⟩ := gT_run S6.zok r6 eb S6.fz (H := H6)
      exact a1 _ (hb σ2 Z6 H6 ρ2 ω5 fp5 r1 _ (S6.env a2 fun x hx => a3 _ (ho x hx)) eb2 (hE σ2 a3))
    have l6 := l5.trans n6.zz
    rcases of_fth (show fth (F dx ρ5 ω5) (fun ρ1 ω1 => floop F (items.drop (i + 1)) ρ1 ω1) = some r from e5) with ⟨ρ7, ω7, e7, e8⟩ | ⟨d7, ω7, e7, rfl⟩
    · rw [← hF] at e7
      have e7 : (match bindT t dx ρ5 with
        | none => none
        | some ρ2 => exs p.O W ib ρ2 ω5) = some (.nx ρ7 ω7) := e7
      split at e7
      · cases e7
      · rename_i ρ2 eb
        refine run ρ2 _ eb e7 fun σ2 hk σ7 Z7 H7 fp7 m7 S7 => ⟨hlt, Z7, ρ7, ω7, fp7, (m6.trans ⟨Nx.refl S6.zok, fun _ _ h => .inl h, fun k hk' => hk k fun hm => hf k hm hk'⟩).trans m7, S7, l6.trans m7.nx.zz, e8⟩
    · rw [← hF] at e7
      have e7 : (match bindT t dx ρ5 with
        | none => none
        | some ρ2 => exs p.O W ib ρ2 ω5) = some (.rt d7 ω7) := e7
      split at e7
      · cases e7
      · rename_i ρ2 eb
        refine run ρ2 _ eb e7 fun σ2 hk v σ7 Z7 H7 fp7 m7 S7 rv => ?_
        exact E v σ7 Z7 H7 fp7 ((m6.trans ⟨Nx.refl S6.zok, fun _ _ h => .inl h, fun k hk' => hk k fun hm => hf k hm hk'⟩).trans m7) S7 rv
  · left
    have hi' : i = items.length := by omega
    subst hi'
    rw [List.drop_length] at e5
    cases e5
    exact ⟨(jw _ Z5 H5 l5 S5.zok).2 rfl, E σ5 Z5 H5 fp5 m5 S5⟩
theorem ss_whl {c : Expr} {ic : IE} {body : List Stmt} {ib : ISs} {pos : Pos} (hx : X.xe = fun _ _ => False) (h : ST X p c ic) (hb : SSs X p fx W body ib) : SS X p fx W (.While c body [] pos) (.whl ic ib) := fun σ Z H ρ ω fp r D S ex E pins s I => by
  refine (ps_while (by rw [hx]; exact PassesOwn.never) (pt_R c) (pss_R body)).run pins s σ H D I ?_
  have ex : wloop (fun ρ ω => evB (ev p.O ic ρ ω)) (fun ρ ω => exs p.O W ib ρ ω) W ρ ω = some r := ex
  refine ⟨fun m σ5 H5 => ∃ Z5 ρ5 ω5 fp5, Mv fx σ Z H fp σ5 Z5 H5 fp5 ∧ StaX X p σ5 Z5 H5 ρ5 ω5 fp5 ∧ wloop (fun ρ ω => evB (ev p.O ic ρ ω)) (fun ρ ω => exs p.O W ib ρ ω) m ρ5 ω5 = some r, ⟨W, Z, ρ, ω, fp, Mv.refl S.zok, S, ex⟩, ?_⟩
  rintro m σ5 H5 ⟨Z5, ρ5, ω5, fp5, m5, S5, e5⟩
  cases m with
  | zero => cases e5
  | succ m =>
    have e5 : (match evB (ev p.O ic ρ5 ω5) with
      | some (true, ω1) => fth (exs p.O W ib ρ5 ω1) fun ρ2 ω2 => wloop (fun ρ ω => evB (ev p.O ic ρ ω)) (fun ρ ω => exs p.O W ib ρ ω) m ρ2 ω2
      | some (false, ω1) => some (.nx ρ5 ω1)
      | none => none) = some r := e5
    split at e5
    · rename_i ω6 e6
      refine h σ5 Z5 H5 ρ5 ω5 fp5 true ω6 S5 (of_evB e6) _ fun Z6 H6 fp6 T6 => ?_
      rw [if_pos rfl]
      have S6 := T6.sta S5
      have m6 := m5.trans (T6.mv fun _ _ => rfl)
      refine ⟨fun σ7 H7 => ∃ Z5 ρ5 ω5 fp5, Mv fx σ Z H fp σ7 Z5 H7 fp5 ∧ StaX X p σ7 Z5 H7 ρ5 ω5 fp5 ∧ wloop (fun ρ ω => evB (ev p.O ic ρ ω)) (fun ρ ω => exs p.O W ib ρ ω) m ρ5 ω5 = some r, fun σ7 H7 h7 => ⟨m, Nat.lt_succ_self m, h7⟩, ?_⟩
      rcases of_fth e5 with ⟨ρ7, ω7, e7, e8⟩ | ⟨d7, ω7, e7, rfl⟩
      · exact hb σ5 Z6 H6 ρ5 ω6 fp6 _ _ S6 e7 fun σ7 Z7 H7 fp7 m7 S7 => ⟨Z7, ρ7, ω7, fp7, m6.trans m7, S7, e8⟩
      · exact hb σ5 Z6 H6 ρ5 ω6 fp6 _ _ S6 e7 fun v σ7 Z7 H7 fp7 m7 S7 rv => E v σ7 Z7 H7 fp7 (m6.trans m7) S7 rv
    · rename_i ω6 e6
      cases e5
      refine h σ5 Z5 H5 ρ5 ω5 fp5 false ω6 S5 (of_evB e6) _ fun Z6 H6 fp6 T6 => ?_
      rw [if_neg Bool.false_ne_true]
      exact E σ5 Z6 H6 fp6 (m5.trans (T6.mv fun _ _ => rfl)) (T6.sta S5)
    · cases e5
end
end Rf
end

section
set_option Elab.async false
set_option linter.all false
set_option maxRecDepth 100000
set_option maxHeartbeats 1000000
/-! Assignments, by a check. -/
namespace Rf
open PySem PySem.Spec PyProof.Rows L2
def noComp : Expr → Bool
  | .ListComp _ _ _ _ => false
  | .SetComp _ _ _ _ => false
  | .DictComp _ _ _ _ _ => false
  | _ => true
theorem swaps_no {e : Expr} (h : noComp e = true) (t : Option Expr) (l : Nat) (env : PySem.Env) : swapsWith e t l env = pure false := by
  cases e <;> first | rfl | cases h
def notName : Expr → Bool
  | .Name _ _ => false
  | _ => true
theorem swaps_other {t : Expr} (h : notName t = true) (e : Expr) (l : Nat) (env : PySem.Env) : swapsWith e (some t) l env = pure false := by
  cases t <;> first | (cases h; done) | (cases e <;> rfl)
/-- the comprehension is stored ahead of its end -/
def swB (nm : List (Str × NameKind)) (y : Str) (py : Pos) : Expr → Bool
  | .ListComp _ _ scope pos => decide (nm.lookup y = some .local) && (py.line == pos.line) && !(scope.names.any fun (n, k) => n == y && (k == .local || k == .cell))
  | .SetComp _ _ scope pos => decide (nm.lookup y = some .local) && (py.line == pos.line) && !(scope.names.any fun (n, k) => n == y && (k == .local || k == .cell))
  | .DictComp _ _ _ scope pos => decide (nm.lookup y = some .local) && (py.line == pos.line) && !(scope.names.any fun (n, k) => n == y && (k == .local || k == .cell))
  | _ => false
theorem sw_eq {e : Expr} {y : Str} {py : Pos} {l : Nat} {env : PySem.Env} (hk : env.scope.kind = .function) : swapsWith e (some (.Name y py)) l env = pure (swB env.scope.names y py e) := by
  have hb : env.blockKind = .function := by unfold Env.blockKind; rw [hk]; rfl
  have key : ∀ (o : Option NameKind), (o == some NameKind.local) = decide (o = some .local) := fun o => by
    cases o with
    | none => rfl
    | some k => cases k <;> rfl
  cases e <;> first
    | rfl
    | (unfold swapsWith swB
       simp only [hb, Expr.pos]
       have : env.kindOf y = env.scope.names.lookup y := rfl
       rw [this, key]
       rfl)
structure FrOk (X : Cx) : Prop where
  xe : X.xe = fun _ _ => False
  fn : ∀ x, X.fn x = true
section
variable {G : Gst} {L : Nat} {t : Sf} {X : Cx} {p : Par} {i : Nat} {y : Str} {py pos : Pos} {e : Expr} {ie : IE} {sh s : Sh}
theorem AsF.plain (hN : X.N.Nodup) (hi : X.N[i]? = some y) (hy : Loc X.env.scope y) (hf : X.fn y = true) (hs : swapsWith e (some (.Name y py)) pos.line X.env = pure false) (h : FE X p e ie sh) : AsF X p i (.Name y py) pos e ie sh :=
  ⟨tR X e, ps_set hN hi hy (pe_R e) hs (.inl hf), fun σ Z H ρ ω fp d ω' S he Q hQ => h σ Z H ρ ω fp d ω' S he Q hQ⟩
theorem AsF.z {tg : Expr} (h : AsF X p i tg pos e ie sh) : AsF X p i tg pos e ie .z := by
  obtain ⟨te, ps, run⟩ := h.ex
  exact ⟨te, ps, fun σ Z H ρ ω fp d ω' S he Q hQ => run σ Z H ρ ω fp d ω' S he Q fun v Z' H' fp' g T w N => hQ v _ H' fp' [] (T.freeze N S.zok w.dom) (.z w.frozen) NewG.nil⟩
theorem AsF.inL {tg : Expr} (hs : inL sh = some s) (h : AsF X p i tg pos e ie (.l s)) : AsF X p i tg pos e ie sh := by
  cases sh with
  | z => cases hs; exact h.z
  | l s' => cases hs; exact h
  | _ => cases hs
theorem asf_lc1 {elt tg iter : Expr} {ifs : List Expr} {scope : Scope} {cpos : Pos} {it : ITg} {src : ISrc} {cs : IEs} (c : CtxOk G L t X p) (hi0 : X.N[i]? = some y) (hyl : X.env.scope.names.lookup y = some .local) (hsw : swapsWith (.ListComp elt [⟨tg, iter, ifs, 0⟩] scope cpos) (some (.Name y py)) pos.line X.env = pure true)
    (hb : blkN t.N t.nm scope (ownT tg it) = true) (hs : setB scope (ownT tg it) = true) (k : ClOk t scope (ownT tg it) tg iter it)
    (hi : SI X p tg iter src) (ht : BlkAll X scope fun Y => PTs Y ifs (tCs Y.K p cs)) (he : BlkAll X scope fun Y => FE Y p elt ie sh) : AsF X p i (.Name y py) pos (.ListComp elt [⟨tg, iter, ifs, 0⟩] scope cpos) (.lc ie (.cons it src cs .nil)) (.l sh) := by
  have ok : BlkOk X.N X.env.scope scope (ownT tg it) := blkN_ok (by rw [c.N, c.nm]; exact hb)
  have hN : X.N.Nodup := by rw [c.N]; exact c.nd
  refine ⟨_, ps_setLc (g := gT X.K it) (tt := tCs X.K p cs) (te := tE X.K p ie sh) c.calm hN hi0 hyl hsw hi ok (fun s H C cl fp => pg_tg (X := X.blk s H scope (compEnvC scope cl C X.env) fp) c.calm hN (by show okTg X.N tg it = true; rw [c.N]; exact k.okt) fun y hy => canSet_blk (setB_ok hs y hy) s H C cl fp) ht (fun s H C cl fp => (he s H C cl fp).tE) (iter_set k.pl _), fun σ Z H ρ ω fp d ω' S hv Q hQ => ?_⟩
  exact lc_read (ownT_slots k.okt) (by rw [c.os]; exact apartO_ok k.ap) S hv hQ
theorem asf_lc2 {elt tg iter tg1 iter1 : Expr} {ifs ifs1 : List Expr} {scope : Scope} {cpos : Pos} {it it1 : ITg} {src src1 : ISrc} {cs cs1 : IEs} (c : CtxOk G L t X p) (hi0 : X.N[i]? = some y) (hyl : X.env.scope.names.lookup y = some .local) (hsw : swapsWith (.ListComp elt [⟨tg, iter, ifs, 0⟩, ⟨tg1, iter1, ifs1, 0⟩] scope cpos) (some (.Name y py)) pos.line X.env = pure true)
    {own : List (Str × Nat)} (eo : own = ownT tg it ++ ownT tg1 it1) (hb : blkN t.N t.nm scope own = true) (hs : setB scope own = true) (k : ClOk t scope own tg iter it) (k1 : ClOk t scope own tg1 iter1 it1) (hd : (slotsT it1).all (fun i => decide (i ∉ slotsT it)) = true)
    (hi : SI X p tg iter src) (ht : BlkAll X scope fun Y => PTs Y ifs (tCs Y.K p cs)) (hi1 : BlkAll X scope fun Y => SI Y p tg1 iter1 src1) (ht1 : BlkAll X scope fun Y => PTs Y ifs1 (tCs Y.K p cs1)) (he : BlkAll X scope fun Y => FE Y p elt ie sh) :
    AsF X p i (.Name y py) pos (.ListComp elt [⟨tg, iter, ifs, 0⟩, ⟨tg1, iter1, ifs1, 0⟩] scope cpos) (.lc ie (.cons it src cs (.cons it1 src1 cs1 .nil))) (.l sh) := by
  have ok : BlkOk X.N X.env.scope scope own := blkN_ok (by rw [c.N, c.nm]; exact hb)
  have hN : X.N.Nodup := by rw [c.N]; exact c.nd
  have es : own.map (·.2) = slotsT it ++ slotsT it1 := by rw [eo, List.map_append, ownT_slots k.okt, ownT_slots k1.okt]
  have g : ∀ {tg iter : Expr} {it : ITg}, ClOk t scope own tg iter it → BlkAll X scope fun Y => PG Y tg (gT Y.K it) := fun {tg iter it} k s H C cl fp => pg_tg (X := X.blk s H scope (compEnvC scope cl C X.env) fp) c.calm hN (by show okTg X.N tg it = true; rw [c.N]; exact k.okt) fun y hy => canSet_blk (setB_ok hs y (k.own y hy)) s H C cl fp
  refine ⟨_, ps_setLc2 (vs1 := slotsT it1) (g := gT X.K it) (tt := tCs X.K p cs) (g1 := gT X.K it1) (tt1 := tCs X.K p cs1) (wi1 := iS X.K p src1) (te := tE X.K p ie sh) c.calm hN hi0 hyl hsw hi ok (fun i hi => by rw [es]; exact List.mem_append_right _ hi) (g k) ht hi1 (g k1) ht1 (fun s H C cl fp => (he s H C cl fp).tE) (iter_set k.pl _) (iter_set k1.pl), fun σ Z H ρ ω fp d ω' S hv Q hQ => ?_⟩
  exact lc2_read es (by rw [c.os]; exact apartO_ok k.ap) (by rw [c.os]; exact apartO_ok k1.ap) (fun i hi => by simpa using List.all_eq_true.mp hd i hi) S hv hQ
/-- name = e, by the check of e -/
def isLc : IE → Bool
  | .lc _ _ => true
  | _ => false
def locB (nm : List (Str × NameKind)) (x : Str) : Bool := match nm.lookup x with
  | some .local => true
  | some .cell => true
  | _ => false
theorem locB_ok (c : CtxOk G L t X p) (h : locB t.nm y = true) : Loc X.env.scope y := by
  unfold locB at h
  unfold L2.Loc
  rw [c.nm]
  split at h
  · exact .inl (by assumption)
  · exact .inr (by assumption)
  · cases h
def asB (G : Gst) (t : Sf) (sh : Sh) (i : Nat) (y : Str) (py : Pos) (e : Expr) (ie : IE) : Bool := decide (t.N[i]? = some y) && locB t.nm y && ok G t sh e ie && (!(swB t.nm y py e) || isLc ie)
theorem asB_ok (c : CtxOk G L t X p) (f : FrOk X) (h : asB G t sh i y py e ie = true) : AsF X p i (.Name y py) pos e ie sh := by
  unfold asB at h
  simp only [Bool.and_eq_true, decide_eq_true_eq, Bool.or_eq_true, Bool.not_eq_true'] at h
  obtain ⟨⟨⟨h1, h2⟩, h3⟩, h4⟩ := h
  have hN : X.N.Nodup := by rw [c.N]; exact c.nd
  have hi0 : X.N[i]? = some y := by rw [c.N]; exact h1
  have hsw := sw_eq (e := e) (y := y) (py := py) (l := pos.line) c.kd
  rw [c.nm] at hsw
  cases hb : swB t.nm y py e with
  | false =>
    rw [hb] at hsw
    exact AsF.plain hN hi0 (locB_ok c h2) (f.fn y) hsw (ok_s ie t sh e X p c h3).fe
  | true =>
    rw [hb] at hsw h4
    have h4 := h4.resolve_left (by decide)
    cases ie with
    | lc ie gs =>
      cases gs with
      | nil => simp [ok] at h3
      | cons it src cs gs =>
        cases gs with
        | nil =>
          simp only [ok] at h3
          split at h3
          · rename_i s hs
            split at h3
            · simp only [Bool.and_eq_true] at h3
              obtain ⟨⟨⟨⟨⟨h1, h2⟩, h3⟩, h4⟩, h5⟩, h6⟩ := h3
              have cb := c.blk (kind_blk h1)
              have hyl : X.env.scope.names.lookup y = some .local := by
                rw [c.nm]
                simp only [swB, Bool.and_eq_true, decide_eq_true_eq] at hb
                exact hb.1.1
              exact AsF.inL hs (asf_lc1 c hi0 hyl hsw h1 h2 (clB_ok h3) (oksr_s src t _ _ X p c h4) (fun s H C cl fp => okc_s cs _ _ _ p (cb s H C cl fp) h5) (fun s H C cl fp => (ok_s ie _ _ _ _ p (cb s H C cl fp) h6).fe))
            · cases h3
          · cases h3
        | cons it1 src1 cs1 gs =>
          cases gs with
          | nil =>
            simp only [ok] at h3
            split at h3
            · rename_i s hs
              split at h3
              · simp only [Bool.and_eq_true] at h3
                obtain ⟨⟨⟨⟨⟨⟨⟨⟨⟨h1, h2⟩, h3⟩, h4⟩, h5⟩, h6⟩, h7⟩, h8⟩, h9⟩, h10⟩ := h3
                have cb := c.blk (kind_blk h1)
                have hyl : X.env.scope.names.lookup y = some .local := by
                  rw [c.nm]
                  simp only [swB, Bool.and_eq_true, decide_eq_true_eq] at hb
                  exact hb.1.1
                exact AsF.inL hs (asf_lc2 c hi0 hyl hsw rfl h1 h2 (clB_ok h3) (clB_ok h4) h5 (oksr_s src t _ _ X p c h6) (fun s H C cl fp => okc_s cs _ _ _ p (cb s H C cl fp) h7) (fun s H C cl fp => oksr_s src1 _ _ _ _ p (cb s H C cl fp) h8) (fun s H C cl fp => okc_s cs1 _ _ _ p (cb s H C cl fp) h9) (fun s H C cl fp => (ok_s ie _ _ _ _ p (cb s H C cl fp) h10).fe))
              · cases h3
            · cases h3
          | cons _ _ _ _ => simp [ok] at h3
    | _ => cases h4
end
end Rf
end

section
set_option Elab.async false
set_option linter.all false
set_option maxRecDepth 100000
set_option maxHeartbeats 1000000
/-! More statements: append, parallel assignments, op=. -/
namespace Rf
open PySem PySem.Spec PyProof.Rows L2
/-- the plain local names of a target list, on one line -/
def swNames (nm : List (Str × NameKind)) (ts : List Expr) : List Str := ts.filterMap fun
  | .Name id pos => if nm.lookup id == some .local && pos.line == (ts.head?.map (·.pos.line)).getD 0 then some id else none
  | _ => none
/-- the stores of ts = vs: in one go from the right, or from a tuple -/
def swapN (nm : List (Str × NameKind)) (ts vs : List Expr) : Option (Option (List Str)) :=
  if (!(ts.length == 2 || ts.length == 3) || vs.length != ts.length) = true then some none else
  if vs.all notStar = false then some none else
  if ((swNames nm ts).length != ts.length || (swNames nm ts).eraseDups.length != (swNames nm ts).length) = true then some none else
  if vs.all (foldedForSure 8) = true then some none else
  if vs.all (constantsAlone 8) = true then none else some (some (swNames nm ts))
theorem any_star (vs : List Expr) : (vs.any fun | .Starred .. => true | _ => false) = !(vs.all notStar) := by
  induction vs with
  | nil => rfl
  | cons v vs ih =>
    rw [List.any_cons, List.all_cons, ih]
    cases v <;> simp [notStar]
theorem swap_eq {ts vs : List Expr} {kt k2 : Nat} {p1 p2 : Pos} {env : PySem.Env} {r : Option (List Str)} (hk : env.scope.kind = .function) (h : swapN env.scope.names ts vs = some r) : swappedStores [.Tuple ts kt p1] (.Tuple vs k2 p2) env = pure r := by
  have hb : env.blockKind = .function := by unfold Env.blockKind; rw [hk]; rfl
  have e1 : (env.blockKind != ScopeKind.function) = false := by rw [hb]; decide
  unfold swapN at h
  by_cases h1 : (!(ts.length == 2 || ts.length == 3) || vs.length != ts.length) = true
  · rw [if_pos h1] at h
    cases h
    unfold swappedStores
    simp only [e1, Bool.or_false]
    rw [if_pos h1]
  · rw [if_neg h1] at h
    have z1 : swappedStores [.Tuple ts kt p1] (.Tuple vs k2 p2) env = (if (vs.any fun | .Starred .. => true | _ => false) = true then pure none else
         if ((swNames env.scope.names ts).length != ts.length || (swNames env.scope.names ts).eraseDups.length != (swNames env.scope.names ts).length) = true then pure none else
         if vs.all (foldedForSure 8) = true then pure none else
         if vs.all (constantsAlone 8) = true then (do unsupported "assign.tuple-of-constant-expressions:order-of-the-stores"; pure (some (swNames env.scope.names ts))) else pure (some (swNames env.scope.names ts))) := by
      unfold swappedStores
      simp only [e1, Bool.or_false]
      rw [if_neg h1]
      rfl
    rw [z1, any_star]
    split at h
    · rename_i h2
      cases h
      rw [h2, if_pos (by rfl)]
    · rename_i h2
      have h2 : vs.all notStar = true := by simpa using h2
      rw [h2, if_neg (by decide)]
      split at h
      · rename_i h3
        cases h
        rw [if_pos h3]
      · rename_i h3
        rw [if_neg h3]
        split at h
        · rename_i h4
          cases h
          rw [if_pos h4]
        · rename_i h4
          rw [if_neg h4]
          split at h
          · cases h
          · rename_i h5
            cases h
            rw [if_neg h5]
section
variable {X : Cx} {p : Par} {fx : List Nat} {W : Nat}
theorem pair_vals {K : PySem.W.Frag} {ad : Str → Addr} {Z : Hp} {vs : List V} {a b : D} (h : Rps K ad Z vs [a, b]) : ∃ v w, vs = [v, w] ∧ Rp K ad Z v a ∧ Rp K ad Z w b := by
  cases h with
  | cons h1 h2 =>
    cases h2 with
    | cons h2 h3 => cases h3; exact ⟨_, _, rfl, h1, h2⟩
theorem two_of {ds : List D} (h : ds.length = 2) : ∃ a b, ds = [a, b] := by
  match ds, h with
  | [a, b], _ => exact ⟨a, b, rfl⟩
theorem three_of {ds : List D} (h : ds.length = 3) : ∃ a b c, ds = [a, b, c] := by
  match ds, h with
  | [a, b, c], _ => exact ⟨a, b, c, rfl⟩
/-- a, b = x, y, stored from the right -/
theorem ss_par2 {i j : Nat} {x y : Str} {px py pt pos p2 : Pos} {kt k2 : Nat} {a b : Expr} {ies : IEs} (hc : X.calm = true) (hN : X.N.Nodup) (hi : X.N[i]? = some x) (hj : X.N[j]? = some y) (hij : i ≠ j) (hx : X.env.scope.names.lookup x = some .local) (hy : X.env.scope.names.lookup y = some .local)
    (h : FEs X p [a, b] ies .z) (hw : swappedStores [.Tuple [.Name x px, .Name y py] kt pt] (.Tuple [a, b] k2 p2) X.env = pure (some [x, y])) (hf : ∀ k ∈ [i, j], k ∉ fx) (ho : ∀ o ∈ p.os, o.1 ∉ [i, j]) : SS X p fx W (.Assign [.Tuple [.Name x px, .Name y py] kt pt] (.Tuple [a, b] k2 p2) pos) (.par [i, j] ies) := fun σ Z H ρ ω fp r D S ex E pins s I => by
  have ex : (match evs p.O ies ρ ω with
    | some (ds, ω1) => if ds.length = [i, j].length then some (Fl.nx (setsE ρ [i, j] ds) ω1) else none
    | none => none) = some r := ex
  split at ex
  case h_2 => cases ex
  rename_i ds ω1 ed
  split at ex
  case isFalse => cases ex
  rename_i hl
  cases ex
  obtain ⟨d1, d2, rfl⟩ := two_of hl
  refine (ps_par (ta := tAR X [a, b]) hc hN hi hj hij hx hy (pa_R _) hw).run pins s σ H D I (h σ Z H ρ ω fp _ ω1 S ed _ fun vs Z1 H1 fp1 g T w N => ?_)
  obtain ⟨r1, _⟩ := w.rps
  obtain ⟨v, u, rfl, rv, ru⟩ := pair_vals r1
  have S1 := T.sta S
  have hk : ∀ k, k ∉ [i, j] → ((σ.set i (some v)).set j (some u))[k]? = σ[k]? := fun k hk => by
    rw [List.getElem?_set_ne fun (e : j = k) => hk (by rw [← e]; simp), List.getElem?_set_ne fun (e : i = k) => hk (by rw [← e]; simp)]
  exact ⟨v, u, rfl, E _ Z1 H1 fp1 (T.mv fun k hm => hk k fun hk' => hf k hk' hm) (S1.env ((S1.fz.set i rv).set j ru) fun o h' => hk _ (ho o h'))⟩
theorem ss_par3 {i j l : Nat} {x y z : Str} {px py pz pt pos p2 : Pos} {kt k2 : Nat} {a b c : Expr} {ies : IEs} (hc : X.calm = true) (hN : X.N.Nodup) (hi : X.N[i]? = some x) (hj : X.N[j]? = some y) (hl : X.N[l]? = some z) (hij : i ≠ j) (hil : i ≠ l) (hjl : j ≠ l) (hx : X.env.scope.names.lookup x = some .local) (hy : X.env.scope.names.lookup y = some .local) (hz : X.env.scope.names.lookup z = some .local)
    (h : FEs X p [a, b, c] ies .z) (hw : swappedStores [.Tuple [.Name x px, .Name y py, .Name z pz] kt pt] (.Tuple [a, b, c] k2 p2) X.env = pure (some [x, y, z])) (hf : ∀ k ∈ [i, j, l], k ∉ fx) (ho : ∀ o ∈ p.os, o.1 ∉ [i, j, l]) : SS X p fx W (.Assign [.Tuple [.Name x px, .Name y py, .Name z pz] kt pt] (.Tuple [a, b, c] k2 p2) pos) (.par [i, j, l] ies) := fun σ Z H ρ ω fp r D S ex E pins s I => by
  have ex : (match evs p.O ies ρ ω with
    | some (ds, ω1) => if ds.length = [i, j, l].length then some (Fl.nx (setsE ρ [i, j, l] ds) ω1) else none
    | none => none) = some r := ex
  split at ex
  case h_2 => cases ex
  rename_i ds ω1 ed
  split at ex
  case isFalse => cases ex
  rename_i hl'
  cases ex
  obtain ⟨d1, d2, d3, rfl⟩ := three_of hl'
  refine (ps_par3 (ta := tAR X [a, b, c]) hc hN hi hj hl hij hil hjl hx hy hz (pa_R _) hw).run pins s σ H D I (h σ Z H ρ ω fp _ ω1 S ed _ fun vs Z1 H1 fp1 g T w N => ?_)
  obtain ⟨r1, _⟩ := w.rps
  cases r1 with
  | @cons v _ vs _ rv r1 =>
    obtain ⟨u, q, rfl, ru, rq⟩ := pair_vals r1
    have S1 := T.sta S
    have hk : ∀ k, k ∉ [i, j, l] → (((σ.set i (some v)).set j (some u)).set l (some q))[k]? = σ[k]? := fun k hk => by
      rw [List.getElem?_set_ne fun (e : l = k) => hk (by rw [← e]; simp), List.getElem?_set_ne fun (e : j = k) => hk (by rw [← e]; simp), List.getElem?_set_ne fun (e : i = k) => hk (by rw [← e]; simp)]
    exact ⟨v, u, q, rfl, E _ Z1 H1 fp1 (T.mv fun k hm => hk k fun hk' => hf k hk' hm) (S1.env (((S1.fz.set i rv).set j ru).set l rq) fun o h' => hk _ (ho o h'))⟩
theorem one_ow {K : PySem.W.Frag} {ad : Str → Addr} {Z H : Hp} {s : Sh} {vs : List V} {x : D} {g : List Addr} (h : Ows K ad Z H s vs [x] g) : ∃ v, vs = [v] ∧ Ow K ad Z H s v x g := by
  cases h with
  | cons h r =>
    cases r
    exact ⟨_, rfl, by rw [List.append_nil]; exact h⟩
/-- p.append(e) -/
theorem ss_app {ip : IPt} {iv : IE} {s s' : Sh} {o e : Expr} {apos cpos pos : Pos} (hsh : shPt p.os ip = some (.l s)) (hq : iv.quiet = true) (hb : baseOk o = true) (hline : (apos.endLine == cpos.line) = true) (hn : notStar e = true) (ho : SPt X p o ip) (hv : FE X p e iv s) :
    SS X p fx W (.Expr (.Call (.Attribute o "append" apos) [e] [] cpos) pos) (.app ip iv) := fun σ Z H ρ ω fp r D S ex E pins s0 I => by
  have pe := pe_bm (X := X) PySem.F.plainAttrs_list PySem.F.slot_list_append (by first | rfl | decide) mt_append (pe_R o) (pa_R [e]) (apos := apos) (cpos := cpos) (base_eq hb) (by rw [starEach_cons hn]; rfl) hline (starEach_cons hn) (by rfl)
  refine (ps_expr pe (by rfl)).run pins s0 σ H D I ?_
  have ex : (match evPt p.O ip ρ ω with
    | none => none
    | some ((ss, d), ω1) => match ev p.O iv ρ ω1 with
      | none => none
      | some (x, ω2) => (appD d x).bind fun d1 => (putO ω2 ip.root ss d1).map fun ω4 => Fl.nx ρ ω4) = some r := ex
  split at ex
  · cases ex
  rename_i ss d ω1 e1
  split at ex
  · cases ex
  rename_i x ω2 e2
  obtain ⟨d1, e4, ex⟩ := Option.bind_eq_some_iff.mp ex
  obtain ⟨ω4, e5, rfl⟩ := Option.map_eq_some_iff.mp ex
  refine ho σ Z H ρ ω fp ss d ω1 S e1 _ fun v' Z1 H1 T1 ew h1 => ?_
  subst ew
  have S1 := T1.sta S
  obtain ⟨i, sh, q1, q2, q3⟩ := sh_path hsh e1
  have isl : ∃ a xs, v' = .ref a ∧ H1 a = some (.lst xs) := by
    obtain ⟨i0, sh0, v0, d0, a1, a2, a3, a4, a5, a6⟩ := h1.ex
    rw [show p.os[ip.root]? = some (i, sh) from q1] at a1
    cases a1
    obtain ⟨_, v2, g2, c1, c2, c3⟩ := Os.foc T1.os T1.nd q1 a2 a3 a4 a5
    cases a6.uni c1
    rw [q3] at c2
    cases c2 with
    | lst z hh r => exact ⟨_, _, rfl, hh⟩
  obtain ⟨a, xs, rfl, ha⟩ := isl
  refine ⟨?_, ?_⟩
  · exact .inl ⟨rfl, xs, .inl (.of ha)⟩
  have hvs : FEs X p [e] (.cons iv .nil) s := fes_cons hn hv fes_nil
  refine hvs σ Z1 H1 ρ _ fp [x] ω2 S1 (show (bnd (ev p.O iv ρ _) fun d ω1 => bnd (ret [] ω1) fun ds ω2 => ret (d :: ds) ω2) = some ([x], ω2) by rw [e2]; rfl) _ fun vs Z2 H2 fp2 gy T2 wy N2 => ?_
  have T2 : StepX X p (iv.quiet && true) σ Z1 H1 _ fp Z2 H2 ω2 fp2 := T2
  rw [hq] at T2
  obtain ⟨rfl, rfl⟩ := T2.qu rfl
  have h2 := HAt.go T1.os T1.nd T2 h1
  obtain ⟨v, rfl, wv⟩ := one_ow wy
  obtain ⟨b, o', fp4, d0, d2, ed, ep, ⟨b2, ys, eb, hb2, hl, eH⟩, T4⟩ := mut_core (R := fun H' => ∃ a' xs, V.ref a = V.ref a' ∧ H2 a' = some (.lst xs) ∧ xs.length < sizeLine ∧ H' = upd H2 a' (.lst (xs ++ [v]))) (T1.trans T2) ⟨N2.nd, fun a h => none_back T1.nx (N2.new a h), N2.out⟩ h2 fun i0 sh0 g' ej w nd ap => by
    rw [show p.os[ip.root]? = some (i, sh) from q1] at ej
    cases ej
    rw [q3] at w ⊢
    exact leaf_app (s := s) w (fun h => by cases h) nd wv rfl N2.nd ap e4
  obtain ⟨d0', d2', e6, e7, rfl⟩ := of_putO e5
  rw [ed] at e6
  cases e6
  rw [ep] at e7
  cases e7
  refine ⟨b2, ys, v, eb, rfl, hb2, hl, ?_⟩
  show D.nx σ _
  rw [← eH]
  exact E σ Z2 _ fp4 (T4.mv fun _ _ => rfl) (T4.sta S)
/-- x op= e, values that do not change -/
theorem ss_aug {i : Nat} {x : Str} {e : Expr} {ie : IE} {op : BOp} {px pos : Pos} (hN : X.N.Nodup) (hi : X.N[i]? = some x) (hx : L2.Loc X.env.scope x) (hfn : X.fn x = true) (hop : op = .add ∨ op = .sub) (h : SE X p e ie) (hq : ie.quiet = true) (hf : i ∉ fx) (ho : ∀ o ∈ p.os, o.1 ≠ i) : SS X p fx W (.AugAssign (.Name x px) (bopOf op) e pos) (.aug i op ie) := fun σ Z H ρ ω fp r D S ex E pins s I => by
  have ex : (match omAt ρ i, ev p.O ie ρ ω with
    | some x, some (y, ω1) => (daug op x y).map fun z => Fl.nx (ρ.set i (some z)) ω1
    | _, _ => none) = some r := ex
  split at ex
  case h_2 => cases ex
  rename_i dx dy ω1 e1 e2
  obtain ⟨z, ez, rfl⟩ := Option.map_eq_some_iff.mp ex
  obtain ⟨v, e3, rv⟩ := S.fz.at_ i dx (omAt_some e1)
  have fin : ∀ (f : Int → Int → Int) (a b : Int), dx = .int a → dy = .int b → z = .int (f a b) → PIp X (bopOf op) (ipI f) → wpAny (model X.prog X.w) X.A (exec (.AugAssign (.Name x px) (bopOf op) e pos) X.env) (SP X pins D) X.xe s := fun f a b ha hb hz ip => by
    subst ha hb hz
    cases rv
    refine (ps_aug hN hi hx (pe_R e) ip (.inl hfn)).run pins s σ H D I ⟨_, e3, h σ Z H ρ ω fp _ ω1 S e2 _ fun w Z1 H1 fp1 T rw' => ?_⟩
    cases rw'
    have S1 := T.sta S
    exact ⟨a, b, rfl, rfl, E _ Z1 H1 fp1 (T.mv fun k hk => List.getElem?_set_ne fun (e : i = k) => hf (by rw [e]; exact hk)) (S1.env (S1.fz.set i (.int _)) fun o h' => List.getElem?_set_ne fun e => ho o h' e.symm)⟩
  rcases hop with rfl | rfl
  · cases dx <;> cases dy <;> first
      | (cases ez; exact fin (fun i j => i + j) _ _ rfl rfl rfl ip_add)
      | cases ez
  · cases dx <;> cases dy <;> first
      | (cases ez; exact fin (fun i j => i - j) _ _ rfl rfl rfl ip_sub)
      | cases ez
end
end Rf
end

section
set_option Elab.async false
set_option linter.all false
set_option maxRecDepth 100000
set_option maxHeartbeats 4000000
/-! The check of statements. -/
namespace Rf
open PySem PySem.Spec PyProof.Rows L2
def okPt (G : Gst) (t : Sf) : Expr → IPt → Bool
  | e, .var j => (match e with
    | .Name x _ => visB t x && nameB x && (match t.os[j]? with | some (i, _) => decide (t.N[i]? = some x) | none => false)
    | _ => false)
  | e, .fld p C f => (match e with
    | .Attribute eo g _ => decide (g = f) && G.isFld C f && baseOk eo && (shPt t.os (.fld p C f)).isSome && okPt G t eo p
    | _ => false)
  | e, .idx p ie => (match e with
    | .Subscript eo ei _ => (shPt t.os (.idx p ie)).isSome && ie.quiet && !(isSlice ei) && okPt G t eo p && ok G t .z ei ie
    | _ => false)
def offB (fx : List Nat) (os : Osl) (is : List Nat) : Bool := is.all (fun i => decide (i ∉ fx)) && apartO os is
def namesB (nm : List (Str × NameKind)) (own : List (Str × Nat)) : Bool := own.all fun y => locB nm y.1
def allLoc (nm : List (Str × NameKind)) (es : List Expr) : Bool := es.all fun e => decide (nm.lookup (nmOf e) = some .local)
def tupVs : Expr → Option (List Expr)
  | .Tuple vs _ _ => some vs
  | _ => none
def frzOf : IS → Option (Nat × Nat)
  | .frz j i => some (j, i)
  | _ => none
theorem frzOf_ok {is : IS} {y : Nat × Nat} (h : frzOf is = some y) : is = .frz y.1 y.2 := by
  cases is <;> cases h
  rfl
mutual
def okS (G : Gst) (fx : List Nat) : Sf → Stmt → IS → Bool
  | t, st, .set i ie => (match st with
    | .Assign [.Name x px] e _ => asB G t .z i x px e ie && offB fx t.os [i]
    | _ => false)
  | t, st, .oset j i ie => (match st with
    | .Assign [.Name x px] e _ => (match t.os[j]? with
      | some (i', sh) => decide (i' = i) && asB G t sh i x px e ie && decide (i ∉ fx) && decide (t.os.map (·.1)).Nodup
      | none => false)
    | _ => false)
  | t, st, .unp is ie => (match st with
    | .Assign [.Tuple es k tp] e _ => okTg t.N (.Tuple es k tp) (.many is) && namesB t.nm (ownT (.Tuple es k tp) (.many is)) && ok G t .z e ie && offB fx t.os is && (match tupVs e with
      | some vs => decide (swapN t.nm es vs = some none)
      | none => true)
    | _ => false)
  | t, st, .par is ies => (match st with
    | .Assign [.Tuple [.Name x px, .Name y py] kt pt] (.Tuple [a, b] k2 p2) _ => (match is with
      | [i, j] => decide (t.N[i]? = some x) && decide (t.N[j]? = some y) && decide (i ≠ j) && decide (t.nm.lookup x = some .local) && decide (t.nm.lookup y = some .local) && oks G t .z [a, b] ies && decide (swapN t.nm [.Name x px, .Name y py] [a, b] = some (some [x, y])) && offB fx t.os [i, j]
      | _ => false)
    | .Assign [.Tuple [.Name x px, .Name y py, .Name z pz] kt pt] (.Tuple [a, b, c] k2 p2) _ => (match is with
      | [i, j, l] => decide (t.N[i]? = some x) && decide (t.N[j]? = some y) && decide (t.N[l]? = some z) && decide (i ≠ j) && decide (i ≠ l) && decide (j ≠ l) && decide (t.nm.lookup x = some .local) && decide (t.nm.lookup y = some .local) && decide (t.nm.lookup z = some .local) && oks G t .z [a, b, c] ies && decide (swapN t.nm [.Name x px, .Name y py, .Name z pz] [a, b, c] = some (some [x, y, z])) && offB fx t.os [i, j, l]
      | _ => false)
    | _ => false)
  | t, st, .seti p ii iv => (match st with
    | .Assign [.Subscript o ei _] e _ => (match shPt t.os p with
      | some s => !(isZ s) && ii.quiet && !(isSlice ei) && okPt G t o p && ok G t .z ei ii && ok G t (subSh s (.k .non)) e iv
      | none => false)
    | _ => false)
  | t, st, .setf p C f iv => (match st with
    | .Assign [.Attribute o g _] e _ => (match shPt t.os p with
      | some s => !(isZ s) && decide (g = f) && G.isFld C f && okPt G t o p && ok G t (subSh s (.f f)) e iv
      | none => false)
    | _ => false)
  | t, st, .app p iv => (match st with
    | .Expr (.Call (.Attribute o g apos) [e] [] cpos) _ => (match shPt t.os p with
      | some (.l s) => decide (g = ("append" : Str)) && iv.quiet && baseOk o && (apos.endLine == cpos.line) && notStar e && okPt G t o p && ok G t s e iv
      | _ => false)
    | _ => false)
  | t, st, .aug i op ie => (match st with
    | .AugAssign (.Name x _) o e _ => decide (o = bopOf op) && (match op with | .add => true | .sub => true | _ => false) && decide (t.N[i]? = some x) && locB t.nm x && ie.quiet && ok G t .z e ie && offB fx t.os [i]
    | _ => false)
  | _, _, .augi _ _ _ _ => false
  | t, st, .ex ie => (match st with
    | .Expr e _ => noComp e && ok G t .z e ie
    | _ => false)
  | t, st, .ret ie => (match st with
    | .Return (some e) _ => ok G t .z e ie
    | _ => false)
  | _, st, .retn => (match st with
    | .Return none _ => true
    | _ => false)
  | t, st, .iff c a b => (match st with
    | .If ec ea eb _ => ok G t .z ec c && okSs G fx t ea a && okSs G fx t eb b
    | _ => false)
  | t, st, .forr it src b => (match st with
    | .For tg iter body [] _ => okTg t.N tg it && namesB t.nm (ownT tg it) && plainIter iter && oksr G t tg iter src && offB fx t.os (slotsT it) && okSs G fx t body b
    | _ => false)
  | t, st, .whl c b => (match st with
    | .While ec body [] _ => ok G t .z ec c && okSs G fx t body b
    | _ => false)
  | _, st, .pass => (match st with
    | .Pass _ => true
    | _ => false)
  | _, _, .rse => true
  | _, _, .frz _ _ => false
def okSs (G : Gst) (fx : List Nat) : Sf → List Stmt → ISs → Bool
  | _, sts, .nil => (match sts with
    | [] => true
    | _ => false)
  | t, sts, .cons is r => (match frzOf is with
    | some y => (match t.os[y.1]? with
      | some x => decide (x.1 = y.2) && okSs G fx t sts r
      | none => false)
    | none => (match sts with
      | st :: sts => okS G fx t st is && okSs G fx t sts r
      | [] => false))
end
section
variable {G : Gst} {L W : Nat} {fx : List Nat} {X : Cx} {p : Par}
theorem offB_ok {os : Osl} {is : List Nat} (h : offB fx os is = true) : (∀ i ∈ is, i ∉ fx) ∧ ∀ x ∈ os, x.1 ∉ is := by
  unfold offB at h
  rw [Bool.and_eq_true] at h
  exact ⟨fun i hi => by simpa using List.all_eq_true.mp h.1 i hi, apartO_ok h.2⟩
theorem canSet_fr {t : Sf} (c : CtxOk G L t X p) (f : FrOk X) {own : List (Str × Nat)} (h : namesB t.nm own = true) : ∀ y ∈ own, CanSet X y.1 := fun y hy => ⟨locB_ok c (List.all_eq_true.mp h y hy), .inl (f.fn _)⟩
theorem okPt_s {t : Sf} (c : CtxOk G L t X p) : ∀ (ip : IPt) (e : Expr), okPt G t e ip = true → SPt X p e ip
  | .var j, e, h => by
    unfold okPt at h
    split at h
    · simp only [Bool.and_eq_true] at h
      obtain ⟨⟨h1, h2⟩, h3⟩ := h
      obtain ⟨n1, n2, n3⟩ := nameB_ok h2
      split at h3
      · rename_i i s ej
        exact spt_var (by rw [c.os]; exact ej) (by rw [c.N]; exact of_decide_eq_true h3) (visB_ok c h1) n1 n2
      · cases h3
    · cases h
  | .fld ip C f, e, h => by
    unfold okPt at h
    split at h
    · simp only [Bool.and_eq_true, decide_eq_true_eq] at h
      obtain ⟨⟨⟨⟨h1, h2⟩, h3⟩, h4⟩, h5⟩ := h
      subst h1
      obtain ⟨s, es⟩ := Option.isSome_iff_exists.mp h4
      obtain ⟨c1, c2⟩ := c.g.fld _ _ h2
      exact spt_fld (by rw [c.os]; exact es) h3 c1 c2 (okPt_s c ip _ h5)
    · cases h
  | .idx ip ie, e, h => by
    unfold okPt at h
    split at h
    · simp only [Bool.and_eq_true, Bool.not_eq_true'] at h
      obtain ⟨⟨⟨⟨h1, h2⟩, h3⟩, h4⟩, h5⟩ := h
      obtain ⟨s, es⟩ := Option.isSome_iff_exists.mp h1
      exact spt_idx c.room.units (by rw [c.os]; exact es) h2 h3 (okPt_s c ip _ h4) (ok_s ie t .z _ X p c h5).z.se
    · cases h
mutual
theorem okS_s : ∀ (is : IS) (t : Sf) (st : Stmt), CtxOk G L t X p → FrOk X → okS G fx t st is = true → SS X p fx W st is
  | .set i ie, t, st, c, f, h => by
    simp only [okS] at h
    split at h
    · rw [Bool.and_eq_true] at h
      obtain ⟨o1, o2⟩ := offB_ok h.2
      exact ss_set (asB_ok c f h.1) (o1 i (by simp)) (by rw [c.os]; exact fun x hx => by simpa using o2 x hx)
    · cases h
  | .oset j i ie, t, st, c, f, h => by
    simp only [okS] at h
    split at h
    · split at h
      · rename_i i' sh ej
        simp only [Bool.and_eq_true, decide_eq_true_eq] at h
        obtain ⟨⟨⟨h1, h2⟩, h3⟩, h4⟩ := h
        subst h1
        have hN : i' < X.N.length := by
          have h2' := h2
          unfold asB at h2'
          simp only [Bool.and_eq_true, decide_eq_true_eq] at h2'
          rw [c.N]
          exact (List.getElem?_eq_some_iff.mp h2'.1.1.1).1
        refine ss_oset (by rw [c.os]; exact ej) hN (asB_ok c f h2) h3 fun k x hk hx => ?_
        rw [c.os] at hk
        have a1 : (t.os.map (·.1))[k]? = some i' := by rw [List.getElem?_map, hk, ← hx]; rfl
        have a2 : (t.os.map (·.1))[j]? = some i' := by rw [List.getElem?_map, ej]; rfl
        obtain ⟨l1, q1⟩ := List.getElem?_eq_some_iff.mp a1
        obtain ⟨l2, q2⟩ := List.getElem?_eq_some_iff.mp a2
        exact (List.getElem_inj h4).mp (q1.trans q2.symm)
      · cases h
    · cases h
  | .unp is ie, t, st, c, f, h => by
    simp only [okS] at h
    split at h
    · rename_i es k tp e pos
      simp only [Bool.and_eq_true] at h
      obtain ⟨⟨⟨⟨h1, h2⟩, h3⟩, h4⟩, h5⟩ := h
      obtain ⟨o1, o2⟩ := offB_ok h4
      have hN : X.N.Nodup := by rw [c.N]; exact c.nd
      refine ss_unp (ok_s ie t .z _ X p c h3).z.se (pg_tg c.calm hN (by rw [c.N]; exact h1) (canSet_fr c f h2)) ?_ (swaps_other (t := .Tuple es k tp) rfl e pos.line X.env) o1 (by rw [c.os]; exact o2)
      cases e with
      | Tuple vs k2 p2 =>
        have h5 : decide (swapN t.nm es vs = some none) = true := h5
        exact swap_eq c.kd (by rw [c.nm]; exact of_decide_eq_true h5)
      | _ => rfl
    · cases h
  | .par is ies, t, st, c, f, h => by
    simp only [okS] at h
    have hN : X.N.Nodup := by rw [c.N]; exact c.nd
    split at h
    · split at h
      · simp only [Bool.and_eq_true, decide_eq_true_eq] at h
        obtain ⟨⟨⟨⟨⟨⟨⟨h1, h2⟩, h3⟩, h4⟩, h5⟩, h6⟩, h7⟩, h8⟩ := h
        obtain ⟨o1, o2⟩ := offB_ok h8
        exact ss_par2 c.calm hN (by rw [c.N]; exact h1) (by rw [c.N]; exact h2) h3 (by rw [c.nm]; exact h4) (by rw [c.nm]; exact h5) (oks_s ies t .z _ X p c h6) (swap_eq c.kd (by rw [c.nm]; exact h7)) o1 (by rw [c.os]; exact o2)
      · cases h
    · split at h
      · simp only [Bool.and_eq_true, decide_eq_true_eq] at h
        obtain ⟨⟨⟨⟨⟨⟨⟨⟨⟨⟨⟨h1, h2⟩, h3⟩, h4⟩, h5⟩, h6⟩, h7⟩, h8⟩, h9⟩, h10⟩, h11⟩, h12⟩ := h
        obtain ⟨o1, o2⟩ := offB_ok h12
        exact ss_par3 c.calm hN (by rw [c.N]; exact h1) (by rw [c.N]; exact h2) (by rw [c.N]; exact h3) h4 h5 h6 (by rw [c.nm]; exact h7) (by rw [c.nm]; exact h8) (by rw [c.nm]; exact h9) (oks_s ies t .z _ X p c h10) (swap_eq c.kd (by rw [c.nm]; exact h11)) o1 (by rw [c.os]; exact o2)
      · cases h
    · cases h
  | .seti ip ii iv, t, st, c, f, h => by
    simp only [okS] at h
    split at h
    · rename_i o ei tp e pos
      split at h
      · rename_i s es
        simp only [Bool.and_eq_true, Bool.not_eq_true'] at h
        obtain ⟨⟨⟨⟨⟨h1, h2⟩, h3⟩, h4⟩, h5⟩, h6⟩ := h
        exact ss_seti c.room.units (by rw [c.os]; exact es) rfl h1 h2 h3 (swaps_other (t := .Subscript o ei tp) rfl e pos.line X.env) (ok_s iv t _ _ X p c h6).fe (okPt_s c ip _ h4) (ok_s ii t .z _ X p c h5).z.se
      · cases h
    · cases h
  | .setf ip C g iv, t, st, c, f, h => by
    simp only [okS] at h
    split at h
    · split at h
      · rename_i s es
        simp only [Bool.and_eq_true, Bool.not_eq_true', decide_eq_true_eq] at h
        obtain ⟨⟨⟨⟨h1, h2⟩, h3⟩, h4⟩, h5⟩ := h
        subst h2
        obtain ⟨c1, c2⟩ := c.g.fld _ _ h3
        exact ss_setf (by rw [c.os]; exact es) rfl h1 c1 c2 (swaps_other rfl _ _ _) (ok_s iv t _ _ X p c h5).fe (okPt_s c ip _ h4)
      · cases h
    · cases h
  | .app ip iv, t, st, c, f, h => by
    simp only [okS] at h
    split at h
    · split at h
      · rename_i s es
        simp only [Bool.and_eq_true, decide_eq_true_eq] at h
        obtain ⟨⟨⟨⟨⟨⟨h1, h2⟩, h3⟩, h4⟩, h5⟩, h6⟩, h7⟩ := h
        subst h1
        exact ss_app (s' := .z) (by rw [c.os]; exact es) h2 h3 h4 h5 (okPt_s c ip _ h6) (ok_s iv t _ _ X p c h7).fe
      · cases h
    · cases h
  | .aug i op ie, t, st, c, f, h => by
    simp only [okS] at h
    split at h
    · simp only [Bool.and_eq_true, decide_eq_true_eq] at h
      obtain ⟨⟨⟨⟨⟨⟨h1, h2⟩, h3⟩, h4⟩, h5⟩, h6⟩, h7⟩ := h
      subst h1
      obtain ⟨o1, o2⟩ := offB_ok h7
      have hN : X.N.Nodup := by rw [c.N]; exact c.nd
      exact ss_aug hN (by rw [c.N]; exact h3) (locB_ok c h4) (f.fn _) (by cases op <;> first | exact .inl rfl | exact .inr rfl | cases h2) (ok_s ie t .z _ X p c h6).z.se h5 (o1 i (by simp)) (by rw [c.os]; exact fun x hx => by simpa using o2 x hx)
    · cases h
  | .augi _ _ _ _, t, st, c, f, h => by simp [okS] at h
  | .ex ie, t, st, c, f, h => by
    simp only [okS] at h
    split at h
    · rw [Bool.and_eq_true] at h
      exact ss_ex (ok_s ie t .z _ X p c h.2).z.se (swaps_no h.1 _ _ _)
    · cases h
  | .ret ie, t, st, c, f, h => by
    simp only [okS] at h
    split at h
    · exact ss_ret (ok_s ie t .z _ X p c h).z.se
    · cases h
  | .retn, t, st, c, f, h => by
    simp only [okS] at h
    split at h
    · exact ss_retn
    · cases h
  | .iff cc a b, t, st, c, f, h => by
    simp only [okS] at h
    split at h
    · simp only [Bool.and_eq_true] at h
      exact ss_if (ok_s cc t .z _ X p c h.1.1).z.st (okSs_s a t _ c f h.1.2) (okSs_s b t _ c f h.2)
    · cases h
  | .forr it src b, t, st, c, f, h => by
    simp only [okS] at h
    split at h
    · simp only [Bool.and_eq_true] at h
      obtain ⟨⟨⟨⟨⟨h1, h2⟩, h3⟩, h4⟩, h5⟩, h6⟩ := h
      obtain ⟨o1, o2⟩ := offB_ok h5
      have hN : X.N.Nodup := by rw [c.N]; exact c.nd
      exact ss_for f.xe c.calm (oksr_s src t _ _ X p c h4) (pg_tg c.calm hN (by rw [c.N]; exact h1) (canSet_fr c f h2)) (okSs_s b t _ c f h6) (iter_set h3 _) o1 (by rw [c.os]; exact o2)
    · cases h
  | .whl cc b, t, st, c, f, h => by
    simp only [okS] at h
    split at h
    · rw [Bool.and_eq_true] at h
      exact ss_whl f.xe (ok_s cc t .z _ X p c h.1).z.st (okSs_s b t _ c f h.2)
    · cases h
  | .pass, t, st, c, f, h => by
    simp only [okS] at h
    split at h
    · exact ss_pass
    · cases h
  | .rse, t, st, c, f, h => ss_rse
  | .frz _ _, t, st, c, f, h => by simp [okS] at h
theorem okSs_s : ∀ (is : ISs) (t : Sf) (sts : List Stmt), CtxOk G L t X p → FrOk X → okSs G fx t sts is = true → SSs X p fx W sts is
  | .nil, t, sts, c, f, h => by
    cases sts with
    | nil => exact sss_nil
    | cons _ _ => simp [okSs] at h
  | .cons is r, t, sts, c, f, h => by
    simp only [okSs] at h
    split at h
    · rename_i y hy
      split at h
      · rename_i x ej
        rw [Bool.and_eq_true, decide_eq_true_eq] at h
        rw [frzOf_ok hy, ← h.1]
        exact sss_frz (by rw [c.os]; exact ej) (okSs_s r t sts c f h.2)
      · cases h
    · split at h
      · rename_i st sts
        rw [Bool.and_eq_true] at h
        exact sss_cons (okS_s is t st c f h.1) (okSs_s r t sts c f h.2)
      · cases h
end
end
end Rf
end

section
set_option Elab.async false
set_option linter.all false
set_option maxRecDepth 100000
set_option maxHeartbeats 1000000
/-! Defs: from the check of a body to the promise. -/
namespace Rf
open PySem PySem.Spec PyProof.Rows L2
structure Fd where
  key : FKey
  name : Str
  qual : Str
  params : Arguments
  body : List Stmt
  scope : Scope
  N : List Str
  ps : List Str
  ks : Ks
  os : Osl
  gen : Bool
  code : ISs
/-- the slots of the parameters that are handed in and out -/
def ioSl : Ks → Nat → Osl
  | [], _ => []
  | none :: r, i => ioSl r (i + 1)
  | some sh :: r, i => (i, sh) :: ioSl r (i + 1)
def fzE : Ks → List D → Env
  | none :: ks, d :: ds => some d :: fzE ks ds
  | some _ :: ks, _ :: ds => none :: fzE ks ds
  | _, _ => []
def ioE : Ks → List D → Om
  | none :: ks, _ :: ds => ioE ks ds
  | some _ :: ks, d :: ds => some d :: ioE ks ds
  | _, _ => []
def padN {α : Type} (l : List (Option α)) (n : Nat) : List (Option α) := l ++ List.replicate (n - l.length) none
def outF (n : Nat) : Option Fl → Option (D × List D)
  | some (.nx _ ω) => (oall ((List.range n).map (omAt ω))).map fun os => (.non, os)
  | some (.rt d ω) => (oall ((List.range n).map (omAt ω))).map fun os => (d, os)
  | none => none
def runF (O : Orc) (W : Nat) (f : Fd) (ds : List D) : Option (D × List D) :=
  if ds.length = f.ks.length then outF (ioSl f.ks 0).length (exs O W f.code (padN (fzE f.ks ds) f.N.length) (padN (ioE f.ks ds) f.os.length)) else none
def Fd.sf (f : Fd) : Sf := ⟨f.N, f.scope.names, f.os, f.gen⟩
def fxF (f : Fd) : List Nat := (ioSl f.ks 0).map (·.1)
def eqOs : Osl → Osl → Bool
  | [], [] => true
  | (i, a) :: r, (j, b) :: q => decide (i = j) && eqS a b && eqOs r q
  | _, _ => false
theorem eqOs_ok : ∀ {a b : Osl}, eqOs a b = true → a = b
  | [], [], _ => rfl
  | (i, a) :: r, (j, b) :: q, h => by
    have h : (decide (i = j) && eqS a b && eqOs r q) = true := h
    simp only [Bool.and_eq_true, decide_eq_true_eq] at h
    rw [h.1.1, eqS_ok a b h.1.2, eqOs_ok h.2]
  | [], _ :: _, h => by cases h
  | _ :: _, [], h => by cases h
def fdB (G : Gst) (f : Fd) : Bool := C8.scC f.N f.ps f.scope && decide (f.ks.length = f.ps.length) && eqOs (f.os.take (ioSl f.ks 0).length) (ioSl f.ks 0) && okSs G (fxF f) f.sf f.body f.code
theorem pad_some {α : Type} {l : List (Option α)} {n i : Nat} {a : α} (h : (padN l n)[i]? = some (some a)) : l[i]? = some (some a) := by
  unfold padN at h
  by_cases hi : i < l.length
  · rwa [List.getElem?_append_left hi] at h
  · rw [List.getElem?_append_right (by omega), List.getElem?_replicate] at h
    split at h <;> cases h
section
variable {K : PySem.W.Frag} {ad : Str → Addr} {Z H : Hp}
theorem args_fz : ∀ {ks : Ks} {vs : List V} {ds : List D} {fps : List (List Addr)}, Args K ad Z H ks vs ds fps → ∀ (i : Nat) (d : D), (fzE ks ds)[i]? = some (some d) → ∃ v, vs[i]? = some v ∧ Rp K ad Z v d
  | _, _, _, _, .nil, i, d, e => by simp [fzE] at e
  | _, _, _, _, .fz (v := v) h r, 0, d, e => by
    simp [fzE] at e
    subst e
    exact ⟨v, rfl, h⟩
  | _, _, _, _, .fz h r, i + 1, d, e => by
    obtain ⟨v, e1, h1⟩ := args_fz r i d (by simpa [fzE] using e)
    exact ⟨v, by simpa using e1, h1⟩
  | _, _, _, _, .io h r, 0, d, e => by simp [fzE] at e
  | _, _, _, _, .io h r, i + 1, d, e => by
    obtain ⟨v, e1, h1⟩ := args_fz r i d (by simpa [fzE] using e)
    exact ⟨v, by simpa using e1, h1⟩
theorem args_len : ∀ {ks : Ks} {vs : List V} {ds : List D} {fps : List (List Addr)}, Args K ad Z H ks vs ds fps → ∀ off, (fzE ks ds).length = ks.length ∧ ds.length = ks.length ∧ (ioE ks ds).length = fps.length ∧ (ioSl ks off).length = fps.length
  | _, _, _, _, .nil, off => ⟨rfl, rfl, rfl, rfl⟩
  | _, _, _, _, .fz h r, off => by
    obtain ⟨a, b, c, d⟩ := args_len r (off + 1)
    exact ⟨congrArg (· + 1) a, congrArg (· + 1) b, c, d⟩
  | _, _, _, _, .io h r, off => by
    obtain ⟨a, b, c, d⟩ := args_len r (off + 1)
    exact ⟨congrArg (· + 1) a, congrArg (· + 1) b, congrArg (· + 1) c, congrArg (· + 1) d⟩
theorem args_io : ∀ {ks : Ks} {vs : List V} {ds : List D} {fps : List (List Addr)}, Args K ad Z H ks vs ds fps → ∀ (off j : Nat) (d : D), (ioE ks ds)[j]? = some (some d) → ∃ (i : Nat) (sh : Sh) (v : V) (f : List Addr), (ioSl ks off)[j]? = some (off + i, sh) ∧ vs[i]? = some v ∧ fps[j]? = some f ∧ Ow K ad Z H sh v d f
  | _, _, _, _, .nil, off, j, d, e => by simp [ioE] at e
  | _, _, _, _, .fz h r, off, j, d, e => by
    obtain ⟨i, sh, v, f, e1, e2, e3, w⟩ := args_io r (off + 1) j d (by simpa [ioE] using e)
    exact ⟨i + 1, sh, v, f, by rw [show off + (i + 1) = off + 1 + i by omega]; exact e1, by simpa using e2, e3, w⟩
  | _, _, _, _, .io (sh := sh) (v := v) (f := f) h r, off, 0, d, e => by
    simp [ioE] at e
    subst e
    exact ⟨0, sh, v, f, rfl, rfl, rfl, h⟩
  | _, _, _, _, .io h r, off, j + 1, d, e => by
    obtain ⟨i, sh, v, f, e1, e2, e3, w⟩ := args_io r (off + 1) j d (by simpa [ioE] using e)
    exact ⟨i + 1, sh, v, f, by rw [show off + (i + 1) = off + 1 + i by omega]; simpa [ioSl] using e1, by simpa using e2, by simpa using e3, w⟩
/-- the footprints, by place -/
def fpL (fps : List (List Addr)) : Fp := fun j => (fps[j]?).getD []
theorem fpL_at {fps : List (List Addr)} {j : Nat} {f : List Addr} (h : fps[j]? = some f) : fpL fps j = f := by unfold fpL; rw [h]; rfl
theorem inF_L {fps : List (List Addr)} {a : Addr} : inF (fpL fps) a ↔ a ∈ fps.flatten := by
  constructor
  · rintro ⟨j, h⟩
    unfold fpL at h
    cases e : fps[j]? with
    | none => rw [e] at h; cases h
    | some f =>
      rw [e] at h
      exact List.mem_flatten.mpr ⟨f, List.mem_of_getElem? e, h⟩
  · intro h
    obtain ⟨f, hf, ha⟩ := List.mem_flatten.mp h
    obtain ⟨j, hj, e⟩ := List.mem_iff_getElem.mp hf
    exact ⟨j, by rw [fpL_at (f := f) (by rw [List.getElem?_eq_getElem hj, e])]; exact ha⟩
theorem ndL : ∀ {fps : List (List Addr)}, fps.flatten.Nodup → NdF (fpL fps)
  | [], _ => ⟨fun j => .nil, fun j k a h _ => by simp [fpL] at h⟩
  | f :: fps, n => by
    have n' := List.nodup_append.mp (show (f ++ fps.flatten).Nodup from n)
    have ih := ndL n'.2.1
    have s : ∀ j, fpL (f :: fps) (j + 1) = fpL fps j := fun j => rfl
    refine ⟨fun j => ?_, fun j k a h1 h2 => ?_⟩
    · cases j with
      | zero => exact n'.1
      | succ j => exact ih.one j
    · cases j with
      | zero =>
        cases k with
        | zero => rfl
        | succ k => exact absurd rfl (n'.2.2 a h1 a (inF_L.mp ⟨k, h2⟩))
      | succ j =>
        cases k with
        | zero => exact absurd rfl (n'.2.2 a h2 a (inF_L.mp ⟨j, h1⟩))
        | succ k => rw [ih.two j k a h1 h2]
theorem oall_at {α : Type} : ∀ {l : List (Option α)} {r : List α}, oall l = some r → l.length = r.length ∧ ∀ i : Nat, i < l.length → ∃ a, r[i]? = some a ∧ l[i]? = some (some a)
  | [], r, e => by cases e; exact ⟨rfl, fun i h => absurd h (by simp)⟩
  | o :: l, r, e => by
    obtain ⟨x, t, rfl, e2, rfl⟩ := oall_cons' e
    obtain ⟨h1, h2⟩ := oall_at e2
    refine ⟨congrArg (· + 1) h1, fun i hi => ?_⟩
    cases i with
    | zero => exact ⟨x, rfl, rfl⟩
    | succ i =>
      obtain ⟨a, a1, a2⟩ := h2 i (by simpa using hi)
      exact ⟨a, by simpa using a1, by simpa using a2⟩
/-- behind the body -/
theorem outs_end {Z' H' : Hp} {σ' : L2.St} {os : Osl} {ω' : Om} {fp' : Fp} (so : Os K ad Z' H' σ' os ω' fp') : ∀ {ks : Ks} {vs : List V} {ds : List D} {fps : List (List Addr)}, Args K ad Z H ks vs ds fps → ∀ (off j0 : Nat) (outs : List D), (∀ (m : Nat) (x : Nat × Sh), (ioSl ks off)[m]? = some x → os[j0 + m]? = some x) →
    (∀ (m : Nat) (v : V), vs[m]? = some v → off + m ∈ (ioSl ks off).map (·.1) → σ'[off + m]? = some (some v)) → outs.length = (ioSl ks off).length → (∀ (m : Nat) (o : D), outs[m]? = some o → omAt ω' (j0 + m) = some o) → (∀ (m : Nat) (f : List Addr) (a : Addr), fps[m]? = some f → a ∈ fp' (j0 + m) → a ∈ f ∨ H a = none) →
    Outs K ad H Z' H' ks vs outs fps (fpsOf fp' (List.range' j0 (ioSl ks off).length))
  | _, _, _, _, .nil, off, j0, outs, h1, h2, h3, h4, h5 => by
    cases outs with
    | nil => exact .nil
    | cons _ _ => cases h3
  | _, _, _, _, .fz h r, off, j0, outs, h1, h2, h3, h4, h5 => by
    refine .fz (outs_end so r (off + 1) j0 outs h1 (fun m v e hm => ?_) h3 h4 h5)
    rw [show off + 1 + m = off + (m + 1) by omega] at hm ⊢
    exact h2 (m + 1) v (by simpa using e) hm
  | _, _, _, _, .io (ks := ks) (sh := sh) (v := v) (vs := vs) (f := f) (fps := fps) h r, off, j0, outs, h1, h2, h3, h4, h5 => by
    cases outs with
    | nil => cases h3
    | cons o outs =>
      have e0 : (ioSl (some sh :: ks) off).length = (ioSl ks (off + 1)).length + 1 := rfl
      rw [e0, List.range'_succ]
      obtain ⟨i, sh', v', q1, q2, w⟩ := (so.yes j0 o (by simpa using h4 0 o rfl)).ex
      have q3 : os[j0]? = some (off, sh) := by simpa using h1 0 (off, sh) rfl
      rw [q3] at q1
      cases q1
      have q4 : σ'[off]? = some (some v) := by simpa using h2 0 v rfl (by simp [ioSl])
      rw [q4] at q2
      cases q2
      refine .io w (fun a ha => by simpa using h5 0 f a rfl (by simpa using ha)) (outs_end so r (off + 1) (j0 + 1) outs (fun m x e => ?_) (fun m u e hm => ?_) (by simpa [ioSl] using h3) (fun m u e => ?_) fun m g a e ha => ?_)
      · rw [show j0 + 1 + m = j0 + (m + 1) by omega]
        exact h1 (m + 1) x (by simpa [ioSl] using e)
      · rw [show off + 1 + m = off + (m + 1) by omega] at hm ⊢
        exact h2 (m + 1) u (by simpa using e) (by simp only [ioSl, List.map_cons]; exact List.mem_cons_of_mem _ hm)
      · rw [show j0 + 1 + m = j0 + (m + 1) by omega]
        exact h4 (m + 1) u (by simpa using e)
      · rw [show j0 + 1 + m = j0 + (m + 1) by omega] at ha
        exact h5 (m + 1) g a (by simpa using e) ha
end
end Rf
end

section
set_option Elab.async false
set_option linter.all false
set_option maxRecDepth 100000
set_option maxHeartbeats 1000000
/-! Defs: the promise, by the check of the body. -/
namespace Rf
open PySem PySem.Spec PyProof.Rows L2
section
variable {P : Program} {w : World} {K : PySem.W.Frag} {mg : Str → Option Value} {base : Heap}
/-- a def by its body; its code object is the record's -/
theorem fnR {x qual : Str} {params : Arguments} {body : List Stmt} {scope : Scope} {fa : Addr} {fd : FuncData} {N ps : List Str} {k : Nat} {sp : Sp} (F : FunD K x qual params body scope [] [] fa fd) (S : FnScope N ps scope) (len : ∀ vs H Q E, sp vs H Q E → vs.length = ps.length)
    (hbody : ∀ (cdv : Value), fd.code = cdv → ∀ (A : Around) (outer : List PySem.Env) (s : Shared) (H : Hp) (vs : List V) (Q : VK) (E : XK), Room k (A.deeper (envOfC qual scope s.heap.objs.size fa cdv)) → sp vs H Q E →
      ∃ t, PSs (cxOf C8.CX0 P w K mg base N qual scope fa cdv A outer s H E).nox body t ∧ t { nx := fun _ H' => Q .non H', rt := Q } (start N vs) H) : FnOk P w K mg base C8.CX0 (k + 1) fa fd ps sp := by
  obtain ⟨oc, od, dV, kV, doc, pm, an, cdv, ct, osl, rfl, lk, hcd, _, _⟩ := F.ex
  refine fn_of lk hcd S len fun A outer s H vs Q E hr hsp => ?_
  obtain ⟨t, h, q⟩ := hbody cdv rfl A outer s H vs Q E hr hsp
  exact ⟨t, h.nox, q⟩
theorem start_at {N : List Str} {vs : List V} {i : Nat} {v : V} (h : vs[i]? = some v) : (start N vs)[i]? = some (some v) := by
  unfold L2.start
  have hi : i < (vs.map some).length := by rw [List.length_map]; exact (List.getElem?_eq_some_iff.mp h).1
  rw [List.getElem?_append_left hi, List.getElem?_map, h]; rfl
theorem pad_len {α : Type} {l : List (Option α)} {n : Nat} (h : l.length ≤ n) : (padN l n).length = n := by
  unfold padN
  rw [List.length_append, List.length_replicate]
  omega
theorem fd_ok {G : Gst} {L W : Nat} {f : Fd} {ad : Str → Addr} {tbs : List Addr} {O O' : Orc} {fa : Addr} {fd : FuncData} (c : GOk G ad tbs O L P w K mg base) (F : FunD K f.name f.qual f.params f.body f.scope [] [] fa fd) (hf : fdB G f = true) (hO' : ∀ ds r, O' f.key ds = some r → runF O W f ds = some r)
    (hcode : f.gen = true → ∃ c P', fd.code = .ref c ∧ GxR.TabB base mg c P' ∧ P' ∈ tbs) : FnOk P w K mg base C8.CX0 (L + 5) fa fd f.ps (SpF K ad tbs O' f.key f.ks) := by
  unfold fdB at hf
  simp only [Bool.and_eq_true, decide_eq_true_eq] at hf
  obtain ⟨⟨⟨h1, h2⟩, h3⟩, h4⟩ := hf
  have S := C8.fnScope_by h1
  have h3 := eqOs_ok h3
  have hpN : f.ps.length ≤ f.N.length := by
    have := congrArg List.length S.pre
    rw [List.length_take] at this
    omega
  refine fnR F S (fun vs H Q E ⟨Z, ds, fps, d, outs, _, _, a, _⟩ => by rw [← h2]; exact a.len) fun cdv hcd A outer s H vs Q E hr hsp => ?_
  obtain ⟨Z, ds, fps, d, outs, zok, tb, args, nd, hO, hQ⟩ := hsp
  obtain ⟨l1, l2, l3, l4⟩ := args_len args 0
  refine ⟨_, pss_R f.body, ?_⟩
  generalize hX : (cxOf C8.CX0 P w K mg base f.N f.qual f.scope fa cdv A outer s H E).nox = X
  have hp : CtxOk G L f.sf X ⟨ad, tbs, O, f.os⟩ := by
    subst hX
    refine ⟨c, rfl, rfl, S.kind, S.nd, rfl, rfl, hr.mono (by split <;> omega), fun hg => ?_⟩
    obtain ⟨cc, P', e1, TB, hP⟩ := hcode hg
    exact ⟨cc, P', by rw [← e1, hcd]; rfl, TB, hP⟩
  have fr : FrOk X := by subst hX; exact ⟨rfl, fun _ => rfl⟩
  have hK : X.K = K := by subst hX; rfl
  have run := hO' ds _ hO
  unfold runF at run
  rw [if_pos l2] at run
  have lv : vs.length = f.N.length → True := fun _ => trivial
  have lfz : (fzE f.ks ds).length ≤ f.N.length := by rw [l1, h2]; exact hpN
  have hos : ∀ m x, (ioSl f.ks 0)[m]? = some x → f.os[m]? = some x := fun m x e => by
    rw [← h3] at e
    have hm := (List.getElem?_eq_some_iff.mp e).1
    rw [List.length_take] at hm
    rw [List.getElem?_take] at e
    split at e
    · exact e
    · cases e
  have nio : (ioSl f.ks 0).length ≤ f.os.length := by
    have := congrArg List.length h3
    rw [List.length_take] at this
    omega
  have S0 : StaX X ⟨ad, tbs, O, f.os⟩ (start f.N vs) Z H (padN (fzE f.ks ds) f.N.length) (padN (ioE f.ks ds) f.os.length) (fpL fps) := by
    refine ⟨zok, ⟨?_, fun i d e => ?_⟩, ⟨fun j d e => ?_, fun j e => ?_⟩, ndL nd, tb⟩
    · rw [pad_len lfz]
      unfold L2.start
      rw [List.length_append, List.length_map, List.length_replicate]
      omega
    · obtain ⟨v, e1, r⟩ := args_fz args i d (pad_some e)
      exact ⟨v, start_at e1, by rw [hK]; exact r⟩
    · obtain ⟨i, sh, v, g, e1, e2, e3, wv⟩ := args_io args 0 j d (pad_some (omAt_some e))
      rw [fpL_at e3]
      rw [Nat.zero_add] at e1
      exact ⟨i, sh, v, hos j _ e1, start_at e2, by rw [hK]; exact wv⟩
    · unfold fpL
      cases q : fps[j]? with
      | none => rfl
      | some g =>
        exfalso
        have hj : j < (ioE f.ks ds).length := by rw [l3]; exact (List.getElem?_eq_some_iff.mp q).1
        have all : ∀ (ks : Ks) (ds : List D) (j : Nat), j < (ioE ks ds).length → ∃ d, (ioE ks ds)[j]? = some (some d) := by
          intro ks
          induction ks with
          | nil => intro ds j h; simp [ioE] at h
          | cons k ks ih =>
            intro ds j h
            cases k with
            | none =>
              cases ds with
              | nil => simp [ioE] at h
              | cons d ds => exact ih ds j (by simpa [ioE] using h)
            | some sh =>
              cases ds with
              | nil => simp [ioE] at h
              | cons d ds =>
                cases j with
                | zero => exact ⟨d, rfl⟩
                | succ j =>
                  obtain ⟨d', e'⟩ := ih ds j (by simpa [ioE] using h)
                  exact ⟨d', by simpa [ioE] using e'⟩
        obtain ⟨d', e'⟩ := all f.ks ds j hj
        have e2 : (padN (ioE f.ks ds) f.os.length)[j]? = some (some d') := by
          unfold padN
          rw [List.getElem?_append_left hj]; exact e'
        unfold omAt at e
        rw [e2] at e
        cases e
  -- the end
  have fin : ∀ (v : V) (rd : D) (σ' : L2.St) (Z' H' : Hp) (fp' : Fp) (ρ' : Env) (ω' : Om) (os' : List D), oall ((List.range (ioSl f.ks 0).length).map (omAt ω')) = some os' → rd = d → os' = outs → Mv (fxF f) (start f.N vs) Z H (fpL fps) σ' Z' H' fp' → StaX X ⟨ad, tbs, O, f.os⟩ σ' Z' H' ρ' ω' fp' → Rp X.K ad Z' v rd → Q v H' := fun v rd σ' Z' H' fp' ρ' ω' os' eo ed e2 m S' rv => by
    subst ed e2
    rw [hK] at rv
    obtain ⟨a1, a2⟩ := oall_at eo
    have ln : ((List.range (ioSl f.ks 0).length).map (omAt ω')).length = (ioSl f.ks 0).length := by rw [List.length_map, List.length_range]
    refine hQ v Z' H' (fpsOf fp' (List.range' 0 (ioSl f.ks 0).length)) (m.nx.mono fun x hx => .inl (inF_L.mp hx)) rv ?_ (fps_nodup S'.nd (List.nodup_range' ..))
    have so : Os K ad Z' H' σ' f.os ω' fp' := by rw [← hK]; exact S'.os
    refine outs_end so args 0 0 os' (fun m x e => by rw [Nat.zero_add]; exact hos m x e) (fun i u e hm => ?_) (by rw [← a1, ln]) (fun i o e => ?_) (fun i g a e ha => ?_)
    · rw [Nat.zero_add] at hm ⊢
      rw [m.fx i hm]
      exact start_at e
    · rw [Nat.zero_add]
      obtain ⟨o', b1, b2⟩ := a2 i (by rw [a1]; exact (List.getElem?_eq_some_iff.mp e).1)
      rw [e] at b1
      cases b1
      rw [List.getElem?_map] at b2
      obtain ⟨q, q1, q2⟩ := Option.map_eq_some_iff.mp b2
      obtain ⟨q3, q4⟩ := List.getElem?_eq_some_iff.mp q1
      rw [List.getElem_range] at q4
      rw [q4]; exact q2
    · rw [Nat.zero_add] at ha
      have := m.sb i a ha
      rwa [fpL_at e] at this
  have body := okSs_s (W := W) f.code f.sf f.body hp fr h4
  intro pins s1 I
  cases hr0 : exs O W f.code (padN (fzE f.ks ds) f.N.length) (padN (ioE f.ks ds) f.os.length) with
  | none => rw [hr0] at run; cases run
  | some r =>
    rw [hr0] at run
    refine body _ Z H _ _ _ r _ S0 hr0 ?_ pins s1 I
    cases r with
    | nx ρ' ω' =>
      obtain ⟨os', eo, e2⟩ := Option.map_eq_some_iff.mp (show (oall ((List.range (ioSl f.ks 0).length).map (omAt ω'))).map (fun os => (D.non, os)) = some (d, outs) from run)
      injection e2 with ea eb
      exact fun σ' Z' H' fp' m S' => fin .non .non σ' Z' H' fp' ρ' ω' os' eo ea eb m S' .non
    | rt rd ω' =>
      obtain ⟨os', eo, e2⟩ := Option.map_eq_some_iff.mp (show (oall ((List.range (ioSl f.ks 0).length).map (omAt ω'))).map (fun os => (rd, os)) = some (d, outs) from run)
      injection e2 with ea eb
      exact fun v σ' Z' H' fp' m S' rv => fin v rd σ' Z' H' fp' [] ω' os' eo ea eb m S' rv
end
end Rf
end

section
set_option Elab.async false
set_option linter.all false
set_option maxRecDepth 100000
set_option maxHeartbeats 1000000
/-! A text: its defs as data; what they compute; that they keep their promises, by the depth of calls. -/
namespace Rf
open PySem PySem.Spec PyProof.Rows L2
inductive FKind where | fn | mt | ini | pr
  deriving DecidableEq
structure Lw where
  fds : List (FKind × Fd)
  gls : List (Str × D)
  flds : List (Str × Str)
  isi : List Str
  W : Nat
def Lw.at_ (l : Lw) (k : FKey) : Option (FKind × Fd) := l.fds.find? fun y => decide (y.2.key = k)
def Lw.orc (l : Lw) : Nat → Orc
  | 0 => fun _ _ => none
  | n + 1 => fun k ds => match l.at_ k with
    | some y => runF (l.orc n) l.W y.2 ds
    | none => none
def Lw.kind (l : Lw) (k : FKey) (q : FKind) : Bool := match l.at_ k with
  | some y => decide (y.1 = q)
  | none => false
def Lw.gst (l : Lw) : Gst where
  sig k := (l.at_ k).map (·.2.ks)
  isFn f := l.kind (.fn f) .fn
  isMt C m := l.kind (.mt C m) .mt
  isPr C f := l.kind (.mt C f) .pr && (match l.at_ (.mt C f) with | some y => eqK y.2.ks [none] | none => false)
  isMk C := l.kind (.mt C "__init__") .ini
  isFld C f := decide ((C, f) ∈ l.flds)
  gl x := l.gls.lookup x
/-- where a def stands -/
def PlaceOk (K : PySem.W.Frag) (mg : Str → Option Value) (ad : Str → Addr) (fa : Addr) : FKind → FKey → Prop
  | .fn, .fn x => mg x = some (.ref fa)
  | .mt, .mt C m => Cls K (ad C) ∧ Meth K (ad C) m fa
  | .ini, .mt C _ => Mk K (ad C) fa ∧ mg C = some (.ref (ad C))
  | .pr, .mt C f => Cls K (ad C) ∧ ∃ p, PropOf K (ad C) f p fa
  | _, _ => False
/-- what is known of the text behind the head -/
structure LwOk (l : Lw) (ad : Str → Addr) (tbs : List Addr) (K : PySem.W.Frag) (mg : Str → Option Value) (base : Heap) : Prop where
  fd : ∀ y ∈ l.fds, ∃ fa fd, FunD K y.2.name y.2.qual y.2.params y.2.body y.2.scope [] [] fa fd ∧ Binds K fd y.2.ps [] ∧ (y.2.gen = true → ∃ c P', fd.code = .ref c ∧ GxR.TabB base mg c P' ∧ P' ∈ tbs) ∧ PlaceOk K mg ad fa y.1 y.2.key
  fld : ∀ y ∈ l.flds, Cls K (ad y.1) ∧ NoAttr K (ad y.1) y.2
  gl : ∀ x d, l.gls.lookup x = some d → ∃ v u, mg x = some u ∧ RelV v u ∧ scalarV d = some v
  isi : ∀ C, l.gst.isMk C = true → (∃ u, mg C = some u ∧ u = .ref (ad C)) ∧ C8.InsC K (ad C)
  blt : ∀ x ∈ (["len", "list", "tuple", "sorted", "max", "min", "sum", "int", "set", "isinstance", "str", "bool", "dict", "range", "enumerate", "zip", "all", "any"] : List Str), mg x = none
section
variable {l : Lw} {ad : Str → Addr} {tbs : List Addr} {P : Program} {w : World} {K : PySem.W.Frag} {mg : Str → Option Value} {base : Heap}
theorem at_mem {k : FKey} {y : FKind × Fd} (h : l.at_ k = some y) : y ∈ l.fds ∧ y.2.key = k := ⟨List.mem_of_find?_eq_some h, by simpa using List.find?_some h⟩
theorem kind_at {k : FKey} {q : FKind} (h : l.kind k q = true) : ∃ y, l.at_ k = some y ∧ y.1 = q := by
  unfold Lw.kind at h
  split at h
  · rename_i y e
    exact ⟨y, e, of_decide_eq_true h⟩
  · cases h
/-- from the defs' promises to what the check of a body asks -/
theorem gok_of {O : Orc} {L : Nat} (ok : LwOk l ad tbs K mg base) (F : ∀ k y fa fd, l.at_ k = some y → FunD K y.2.name y.2.qual y.2.params y.2.body y.2.scope [] [] fa fd → (y.2.gen = true → ∃ c P', fd.code = .ref c ∧ GxR.TabB base mg c P' ∧ P' ∈ tbs) → FnOk P w K mg base C8.CX0 L fa fd y.2.ps (SpF K ad tbs O k y.2.ks)) : GOk l.gst ad tbs O L P w K mg base where
  fn f ks h e := by
    obtain ⟨y, ey, ek⟩ := kind_at (show l.kind (.fn f) .fn = true from h)
    obtain ⟨hm, hk⟩ := at_mem ey
    obtain ⟨fa, fd, F1, b, g, pl⟩ := ok.fd y hm
    rw [ek, hk] at pl
    have e : (l.at_ (.fn f)).map (·.2.ks) = some ks := e
    rw [ey] at e
    cases e
    exact ⟨fa, fd, y.2.ps, [], F _ y fa fd ey F1 g, pl, F1.kp, b, .nil⟩
  mt C m ks h e := by
    obtain ⟨y, ey, ek⟩ := kind_at (show l.kind (.mt C m) .mt = true from h)
    obtain ⟨hm, hk⟩ := at_mem ey
    obtain ⟨fa, fd, F1, b, g, pl⟩ := ok.fd y hm
    rw [ek, hk] at pl
    have e : (l.at_ (.mt C m)).map (·.2.ks) = some ks := e
    rw [ey] at e
    cases e
    exact ⟨fa, fd, y.2.ps, [], pl.1, pl.2, F _ y fa fd ey F1 g, b, .nil⟩
  mak C ks h e := by
    obtain ⟨y, ey, ek⟩ := kind_at (show l.kind (.mt C "__init__") .ini = true from h)
    obtain ⟨hm, hk⟩ := at_mem ey
    obtain ⟨fa, fd, F1, b, g, pl⟩ := ok.fd y hm
    rw [ek, hk] at pl
    have e : (l.at_ (.mt C "__init__")).map (·.2.ks) = some ks := e
    rw [ey] at e
    cases e
    exact ⟨fa, fd, y.2.ps, [], pl.1, F _ y fa fd ey F1 g, pl.2, b, .nil⟩
  pr C f h := by
    have h : (l.kind (.mt C f) .pr && (match l.at_ (.mt C f) with | some y => eqK y.2.ks [none] | none => false)) = true := h
    rw [Bool.and_eq_true] at h
    obtain ⟨y, ey, ek⟩ := kind_at h.1
    have h2 := h.2
    rw [ey] at h2
    have h2 : eqK y.2.ks [none] = true := h2
    obtain ⟨hm, hk⟩ := at_mem ey
    obtain ⟨fa, fd, F1, b, g, pl⟩ := ok.fd y hm
    rw [ek, hk] at pl
    obtain ⟨c, p, pp⟩ := pl
    have := F _ y fa fd ey F1 g
    rw [eqK_ok h2] at this
    exact ⟨p, fa, fd, y.2.ps, c, pp, this, b⟩
  fld C f h := ok.fld (C, f) (of_decide_eq_true h)
  gl x d h := ok.gl x d h
  isi C h := ok.isi C h
  blt := ok.blt
def lvl (n : Nat) : Nat := 5 * n + 1
/-- every def keeps its promise, at any depth of calls -/
theorem all_ok (ok : LwOk l ad tbs K mg base) (hb : (l.fds.all fun y => fdB l.gst y.2) = true) : ∀ n, ∀ k y fa fd, l.at_ k = some y → FunD K y.2.name y.2.qual y.2.params y.2.body y.2.scope [] [] fa fd → (y.2.gen = true → ∃ c P', fd.code = .ref c ∧ GxR.TabB base mg c P' ∧ P' ∈ tbs) → FnOk P w K mg base C8.CX0 (lvl n) fa fd y.2.ps (SpF K ad tbs (l.orc n) k y.2.ks)
  | 0 => fun k y fa fd e F1 g => by
    have hf := List.all_eq_true.mp hb y (at_mem e).1
    unfold fdB at hf
    simp only [Bool.and_eq_true, decide_eq_true_eq] at hf
    refine fnR F1 (C8.fnScope_by hf.1.1.1) (fun vs H Q E ⟨Z, ds, fps, d, outs, _, _, a, _⟩ => by rw [← hf.1.1.2]; exact a.len) fun cdv hcd A outer s H vs Q E hr hsp => ?_
    obtain ⟨Z, ds, fps, d, outs, _, _, _, _, hO, _⟩ := hsp
    cases hO
  | n + 1 => fun k y fa fd e F1 g => by
    have hf := List.all_eq_true.mp hb y (at_mem e).1
    have hk := (at_mem e).2
    subst hk
    exact fd_ok (W := l.W) (gok_of ok (all_ok ok hb n)) F1 hf (fun ds r h => by
      have h : (match l.at_ y.2.key with
        | some y => runF (l.orc n) l.W y.2 ds
        | none => none) = some r := h
      rw [e] at h
      exact h) g
end
end Rf
namespace Rf
open PySem
/-- a def's data, without its text -/
structure Cd where
  key : FKey
  N : List Str
  ps : List Str
  ks : Ks
  os : Osl
  gen : Bool
  code : ISs
def stArgs : Stmt → Arguments
  | .FunctionDef (args := a) .. => a
  | _ => ⟨[], [], none, [], [], none, []⟩
def stBody : Stmt → List Stmt
  | .FunctionDef (body := b) .. => b
  | _ => []
def stScope : Stmt → Scope
  | .FunctionDef (scope := s) .. => s
  | _ => ⟨.function, [], false, false, []⟩
def inClass (st : Stmt) (j : Nat) : Stmt := match st with
  | .ClassDef (body := b) .. => b.getD j st
  | _ => st
def Cd.fd (c : Cd) (name qual : Str) (st : Stmt) : Fd := ⟨c.key, name, qual, stArgs st, stBody st, stScope st, c.N, c.ps, c.ks, c.os, c.gen, c.code⟩
end Rf
end

section
set_option Elab.async false
set_option linter.all false
set_option maxRecDepth 100000
set_option maxHeartbeats 1000000
/-! The head: what is looked at behind the top. -/
namespace Rf
open PySem PySem.Spec PyProof.Rows L2
theorem look_zip {ps : List Str} {us : List Value} : ∀ {n : Str}, us.length = ps.length → n ∈ ps → ((ps.zip us).lookup n).isSome = true := by
  induction ps generalizing us with
  | nil => intro n _ h; cases h
  | cons p ps ih =>
    intro n hl h
    cases us with
    | nil => cases hl
    | cons u us =>
      rw [List.zip_cons_cons, List.lookup_cons]
      split
      · rfl
      · rename_i hne
        rcases List.mem_cons.mp h with h | h
        · rw [h] at hne; simp at hne
        · exact ih (by simpa using hl) h
theorem fmap_congr {α β : Type} {f g : α → Option β} : ∀ {l : List α}, (∀ x ∈ l, f x = g x) → l.filterMap f = l.filterMap g
  | [], _ => rfl
  | x :: l, h => by
    rw [List.filterMap_cons, List.filterMap_cons, h x List.mem_cons_self, fmap_congr fun y hy => h y (List.mem_cons_of_mem _ hy)]
theorem zip_fill {ps : List Str} {us : List Value} (nd : ps.Nodup) (hl : us.length = ps.length) : ps.filterMap (fun n => ((ps.zip us).lookup n).map fun v => (n, v)) = ps.zip us := by
  induction ps generalizing us with
  | nil => rfl
  | cons p ps ih =>
    cases us with
    | nil => cases hl
    | cons u us =>
      obtain ⟨d1, d2⟩ := List.nodup_cons.mp nd
      rw [List.zip_cons_cons, List.filterMap_cons]
      have e : (List.lookup p ((p, u) :: ps.zip us)) = some u := by rw [List.lookup_cons]; simp
      rw [e]
      show (p, u) :: _ = _
      congr 1
      refine Eq.trans ?_ (ih d2 (by simpa using hl))
      refine fmap_congr fun n hn => ?_
      rw [List.lookup_cons]
      have : (n == p) = false := beq_eq_false_iff_ne.mpr fun h => d1 (by rw [← h]; exact hn)
      rw [this]
def argsB (p : Arguments) (ps : List Str) : Bool := p.posonlyargs.isEmpty && decide (p.args.map (·.arg) = ps) && p.vararg.isNone && p.kwonlyargs.isEmpty && p.kwarg.isNone && decide ps.Nodup
theorem bind_gen {x qual : Str} {params : Arguments} {body : List Stmt} {scope : Scope} {ps : List Str} (h : argsB params ps = true) (kV doc pm : Value) (an : Option Addr) (cdv ct : Value) (us : List Value) (hl : us.length = ps.length) :
    bindArgs (PySem.W.fnOf x qual params body scope .none kV doc pm an cdv ct) ⟨us, []⟩ = pure (ps.zip us) := by
  obtain ⟨po, ar, va, ko, kd, kw, df⟩ := params
  unfold argsB at h
  simp only [Bool.and_eq_true, decide_eq_true_eq, List.isEmpty_iff, Option.isNone_iff_eq_none] at h
  obtain ⟨⟨⟨⟨⟨rfl, h2⟩, rfl⟩, rfl⟩, rfl⟩, nd⟩ := h
  unfold bindArgs
  have e1 : (PySem.W.fnOf x qual ⟨[], ar, none, [], kd, none, df⟩ body scope .none kV doc pm an cdv ct).params = ⟨[], ar, none, [], kd, none, df⟩ := rfl
  have e2 : (PySem.W.fnOf x qual ⟨[], ar, none, [], kd, none, df⟩ body scope .none kV doc pm an cdv ct).defaults = .none := rfl
  have e3 : seqItems? Value.none = pure none := rfl
  have miss : (ps.filter fun n => ((ps.zip us).lookup n).isNone) = [] := by
    rw [List.filter_eq_nil_iff]
    intro n hn
    have := look_zip (n := n) hl hn
    cases e : (ps.zip us).lookup n with
    | none => rw [e] at this; cases this
    | some v => simp
  simp only [e1, e2, e3, h2, List.map_nil, List.nil_append, List.append_nil, List.forIn_nil, pure_bind, List.forIn'_nil]
  have c1 : ¬ (us.length > ps.length) := by omega
  simp [c1, hl, miss, zip_fill nd hl]
end Rf
end

section
set_option Elab.async false
set_option linter.all false
set_option maxRecDepth 100000
set_option maxHeartbeats 1000000
/-! .. the Hook; the end of a law. -/
namespace Rf
open PySem PySem.Spec PyProof.Rows L2
abbrev Fr := PySem.W.Frag
def prA (K : Fr) (C f : Str) : Addr := He.ma K (He.ga K C) f
def getA (K : Fr) (C f : Str) : Addr := match PySem.W.recIn K (prA K C f) "property" with
  | some (.ref g :: _) => g
  | _ => 0
/-- where a def stands -/
def fdA (K : Fr) : FKind → FKey → Addr
  | .pr, .mt C f => getA K C f
  | _, .fn x => He.ga K x
  | _, .mt C m => He.ma K (He.ga K C) m
def fdW (K : Fr) (y : FKind × Fd) : He.FnW := match K.lookup (fdA K y.1 y.2.key) with
  | some ⟨_, _, .func fd, _⟩ => some (fd.name, fd.qualname, fd.params, fd.body, fd.scope, fd.globals, fd.closure, fd.builtins)
  | _ => none
def fdV (y : FKind × Fd) : He.FnW := some (y.2.name, y.2.qual, y.2.params, .stmts y.2.body, y.2.scope, mainGlobals, [], builtinsNs)
def cdA (K : Fr) (a : Addr) : Addr := match K.lookup a with
  | some ⟨_, _, .func fd, _⟩ => (match fd.code with
    | .ref c => c
    | _ => 0)
  | _ => 0
/-- the table of a def's code object -/
def tbA (K : Fr) (y : FKind × Fd) : Addr := He.tabOf K (cdA K (fdA K y.1 y.2.key))
def fdOk (K : Fr) (y : FKind × Fd) : Bool := PySem.W.keepIn K (.ref (fdA K y.1 y.2.key)) && (match K.lookup (fdA K y.1 y.2.key) with
  | some ⟨_, _, .func fd, _⟩ => PySem.W.codeIn K fd.code y.2.qual && (He.dflB K fd.defaults [] && He.kwdB K fd.kwdefaults [])
  | _ => false)
def placeB (K : Fr) : FKind → FKey → Bool
  | .fn, .fn x => (He.Fa.glo x).ok K
  | .mt, .mt C m => (He.Fa.cls C).ok K && (He.Fa.meth C m).ok K
  | .ini, .mt C m => decide (m = ("__init__" : Str)) && ((He.Fa.mkr C).ok K && (He.Fa.glo C).ok K)
  | .pr, .mt C f => (He.Fa.cls C).ok K && (He.eqO (PySem.W.findIn K (.ref (He.ga K C)) f) (some (some (.ref (prA K C f)))) && (He.eqO (PySem.W.specialIn K (.ref (prA K C f)) "__get__") (some (some (.builtin "property.__get__"))) &&
      (decide (PySem.W.takesIn K (.ref (prA K C f)) = some true) && (match PySem.W.recIn K (prA K C f) "property" with
        | some (.ref _ :: _) => true
        | _ => false))))
  | _, _ => false
def glB' (K : Fr) (y : Str × D) : Bool := match PySem.W.nsIn K mainGlobals y.1 with
  | some (some u) => (match scalarV y.2 with
    | some v => He.relB v u
    | none => false)
  | _ => false
def insB (K : Fr) (C : Str) : Bool := (He.Fa.cls C).ok K && (He.eqO (PySem.W.findIn K (.ref (He.ga K C)) "__class__") (some (some (.builtin "object.__class__"))) && (He.eqO (PySem.W.specialIn K (.builtin "object.__class__") "__get__") (some (some (.builtin "getset_descriptor.__get__"))) &&
  (decide (PySem.W.takesIn K (.builtin "object.__class__") = some true) && (decide (PySem.W.mroIn K (He.ga K C) (.type "object") = some true) && decide (PySem.W.kitOne K (.ref (He.ga K C)) (.ref (He.ga K C)) = some true)))))
def bltL : List Str := ["len", "list", "tuple", "sorted", "max", "min", "sum", "int", "set", "isinstance", "str", "bool", "dict", "range", "enumerate", "zip", "all", "any"]
def lwB (l : Lw) (K : Fr) : Bool := (l.fds.all fun y => fdOk K y && placeB K y.1 y.2.key) && ((l.flds.all fun y => (He.Fa.cls y.1).ok K && (He.Fa.noat y.1 y.2).ok K) && ((l.gls.all fun y => glB' K y) && ((l.isi.all fun C => (He.Fa.glo C).ok K && insB K C) && bltL.all fun x => (He.Fa.free x).ok K)))
def tabsB' (l : Lw) (g : Addr → Option Obj) (K : Fr) : Bool := l.fds.all fun y => !y.2.gen || (PySem.W.codeHdIn K (cdA K (fdA K y.1 y.2.key)) (tbA K y) && (match g (tbA K y) with
  | some o => He.emptyTab o
  | none => false))
def noList (o : Obj) : Bool := match o.cls with
  | .type n => !(n == "list")
  | _ => true
def frN (g : Addr → Option Obj) (as : List Addr) : Fr := (He.frG g as).filter fun q => !He.emptyTab q.2 && noList q.2
theorem frN_mem {g : Addr → Option Obj} {as : List Addr} {a : Addr} {o : Obj} (h : (frN g as).lookup a = some o) : g a = some o ∧ He.emptyTab o = false ∧ noList o = true := by
  obtain ⟨h1, h2⟩ := List.mem_filter.mp (He.lookup_mem h)
  have h3 : (!He.emptyTab o && noList o) = true := h2
  rw [Bool.and_eq_true, Bool.not_eq_true'] at h3
  exact ⟨He.frG_mem h1, h3.1, h3.2⟩
theorem frN_in {as : List Addr} {h : Heap} : (frN h.get? as).In h := fun _ _ e => (frN_mem e).1
abbrev AlR : Type := Bool × List He.FnW
def obsR (n : Nat) (l : Lw) (g : Addr → Option Obj) : AlR := (lwB l (frN g (He.asD g n)) && tabsB' l g (frN g (He.asD g n)), l.fds.map (fdW (frN g (He.asD g n))))
def valR (l : Lw) : AlR := (true, l.fds.map fdV)
structure SaysR (l : Lw) (h : Heap) (K : Fr) : Prop where
  lw : lwB l K = true
  fn : l.fds.map (fdW K) = l.fds.map fdV
  hd : ∀ y ∈ l.fds, y.2.gen = true → PySem.W.codeHdIn K (cdA K (fdA K y.1 y.2.key)) (tbA K y) = true
  out : ∀ y ∈ l.fds, y.2.gen = true → K.lookup (tbA K y) = none
  empty : ∀ y ∈ l.fds, y.2.gen = true → h.get? (tbA K y) = some { cls := .none, data := .fields #[] }
  nolist : ∀ a o, K.lookup a = some o → noList o = true
theorem says_of {n : Nat} {l : Lw} {h : Heap} (e : obsR n l h.get? = valR l) : SaysR l h (frN h.get? (He.asD h.get? n)) := by
  have e1 : (lwB l (frN h.get? (He.asD h.get? n)) && tabsB' l h.get? (frN h.get? (He.asD h.get? n))) = true := congrArg (fun z : AlR => z.1) e
  have e2 : l.fds.map (fdW (frN h.get? (He.asD h.get? n))) = l.fds.map fdV := congrArg (fun z : AlR => z.2) e
  rw [Bool.and_eq_true] at e1
  have key : ∀ y ∈ l.fds, y.2.gen = true → PySem.W.codeHdIn (frN h.get? (He.asD h.get? n)) (cdA (frN h.get? (He.asD h.get? n)) (fdA (frN h.get? (He.asD h.get? n)) y.1 y.2.key)) (tbA (frN h.get? (He.asD h.get? n)) y) = true ∧ ∃ o, h.get? (tbA (frN h.get? (He.asD h.get? n)) y) = some o ∧ He.emptyTab o = true := fun y hy hg => by
    have q := List.all_eq_true.mp e1.2 y hy
    rw [hg] at q
    have q : (PySem.W.codeHdIn (frN h.get? (He.asD h.get? n)) (cdA (frN h.get? (He.asD h.get? n)) (fdA (frN h.get? (He.asD h.get? n)) y.1 y.2.key)) (tbA (frN h.get? (He.asD h.get? n)) y) && (match h.get? (tbA (frN h.get? (He.asD h.get? n)) y) with
      | some o => He.emptyTab o
      | none => false)) = true := q
    rw [Bool.and_eq_true] at q
    refine ⟨q.1, ?_⟩
    have q2 := q.2
    split at q2
    · rename_i o eo
      exact ⟨o, eo, q2⟩
    · cases q2
  refine ⟨e1.1, e2, fun y hy hg => (key y hy hg).1, fun y hy hg => ?_, fun y hy hg => ?_, fun a o q => (frN_mem q).2.2⟩
  · obtain ⟨_, o, q, z⟩ := key y hy hg
    cases e : (frN h.get? (He.asD h.get? n)).lookup (tbA (frN h.get? (He.asD h.get? n)) y) with
    | none => rfl
    | some u =>
      obtain ⟨h1, h2, _⟩ := frN_mem e
      rw [q] at h1
      cases h1
      rw [z] at h2; cases h2
  · obtain ⟨_, o, q, z⟩ := key y hy hg
    rw [q, He.emptyTab_eq z]
def hookR (n : Nat) (l : Lw) : PySem.W.Hook where
  α := AlR
  obs := fun s => obsR n l s.heap.get?
  val := fun _ => valR l
  says := fun _ h => ∃ K : Fr, K.In h ∧ SaysR l h K
  of := fun _ _ e => ⟨_, frN_in, says_of e⟩
  keeps := fun _ _ _ ⟨K, hK, c⟩ k => ⟨K, PySem.W.Frag.In.keeps hK k, ⟨c.lw, c.fn, c.hd, c.out, fun y hy hg => k _ _ (c.empty y hy hg), c.nolist⟩⟩
theorem obsR_eq {n : Nat} {l : Lw} {g : Addr → Option Obj} {s : Shared} (h : ∀ a, g a = s.heap.get? a) : obsR n l g = (hookR n l).obs s := by
  have e : g = s.heap.get? := funext h
  rw [e] <;> rfl
section
variable {l : Lw} {K : Fr} {h0 : Heap}
theorem SaysR.fd (c : SaysR l h0 K) {y : FKind × Fd} (hy : y ∈ l.fds) : ∃ fd, FunD K y.2.name y.2.qual y.2.params y.2.body y.2.scope [] [] (fdA K y.1 y.2.key) fd ∧ (K.lookup (fdA K y.1 y.2.key)).isSome = true ∧ (∃ oc od osl, K.lookup (fdA K y.1 y.2.key) = some ⟨oc, od, .func fd, osl⟩) := by
  have c1 := c.lw
  unfold lwB at c1
  rw [Bool.and_eq_true] at c1
  have q := List.all_eq_true.mp c1.1 y hy
  rw [Bool.and_eq_true] at q
  have q1 : (PySem.W.keepIn K (.ref (fdA K y.1 y.2.key)) && (match K.lookup (fdA K y.1 y.2.key) with
    | some ⟨_, _, .func fd, _⟩ => PySem.W.codeIn K fd.code y.2.qual && (He.dflB K fd.defaults [] && He.kwdB K fd.kwdefaults [])
    | _ => false)) = true := q.1
  rw [Bool.and_eq_true] at q1
  obtain ⟨kp, q2⟩ := q1
  have e : fdW K y = fdV y := by
    obtain ⟨i, hi, ei⟩ := List.mem_iff_getElem.mp hy
    have e2 : (l.fds.map (fdW K))[i]? = (l.fds.map fdV)[i]? := by rw [c.fn]
    rw [List.getElem?_map, List.getElem?_map, List.getElem?_eq_getElem hi, ei] at e2
    exact Option.some.inj e2
  unfold fdW at e
  cases ql : K.lookup (fdA K y.1 y.2.key) with
  | none => rw [ql] at q2; cases q2
  | some o =>
    obtain ⟨oc, od, dt, osl⟩ := o
    rw [ql] at q2 e
    cases dt with
    | func fd =>
      obtain ⟨n1, n2, n3, n4, n5, n6, n7, n8, n9, n10, n11, n12, n13, n14, n15⟩ := fd
      have e2 : (some (n1, n2, n3, n4, n5, n6, n7, n15) : He.FnW) = some (y.2.name, y.2.qual, y.2.params, .stmts y.2.body, y.2.scope, mainGlobals, [], builtinsNs) := e
      simp only [Option.some.injEq, Prod.mk.injEq] at e2
      obtain ⟨h1, h2, h3, h4, h5, h6, h7, h8⟩ := e2
      subst h1 h2 h3 h4 h5 h6 h7 h8
      have c3 : (PySem.W.codeIn K n13 y.2.qual && (He.dflB K n8 [] && He.kwdB K n9 [])) = true := q2
      rw [Bool.and_eq_true, Bool.and_eq_true] at c3
      exact ⟨_, ⟨⟨oc, od, n8, n9, n10, n11, n12, n13, n14, osl, rfl, ql, c3.1, He.dflB_ok c3.2.1, He.kwdB_ok c3.2.2⟩, kp⟩, rfl, oc, od, osl, rfl⟩
    | _ => cases q2
def tbsOf (l : Lw) (K : Fr) : List Addr := (l.fds.filter fun y => y.2.gen).map (tbA K)
def csOf (l : Lw) (K : Fr) : List (Addr × Addr) := (l.fds.filter fun y => y.2.gen).map fun y => (cdA K (fdA K y.1 y.2.key), tbA K y)
theorem lw_ok {mg : Str → Option Value} {base h : Heap} (c : SaysR l h0 K) (X : K.In h) (G : h.Ns mainGlobals mg) (ha : (l.fds.all fun y => argsB y.2.params y.2.ps) = true) (hm : (l.fds.all fun y => match y.1, y.2.key with
      | .ini, .mt C _ => decide (C ∈ l.isi)
      | _, _ => true) = true) (TB : ∀ p ∈ csOf l K, GxR.TabB base mg p.1 p.2) : LwOk l (fun C => He.ga K C) (tbsOf l K) K mg base := by
  have c1 := c.lw
  unfold lwB at c1
  simp only [Bool.and_eq_true] at c1
  obtain ⟨c2, c3, c4, c5, c6⟩ := c1
  refine ⟨fun y hy => ?_, fun y hy => ?_, fun x d e => ?_, fun C hC => ?_, fun x hx => He.free_ok X G (List.all_eq_true.mp c6 x hx)⟩
  · obtain ⟨fd, F, _, oc, od, osl, lk⟩ := c.fd hy
    refine ⟨_, fd, F, F.bindsN (bind_gen (List.all_eq_true.mp ha y hy)), fun hg => ?_, ?_⟩
    · have hd := c.hd y hy hg
      have ecode : ∃ cc, fd.code = .ref cc := by
        have q := List.all_eq_true.mp c2 y hy
        rw [Bool.and_eq_true] at q
        have q1 := q.1
        unfold fdOk at q1
        rw [lk, Bool.and_eq_true] at q1
        have q2 : (PySem.W.codeIn K fd.code y.2.qual && (He.dflB K fd.defaults [] && He.kwdB K fd.kwdefaults [])) = true := q1.2
        rw [Bool.and_eq_true] at q2
        exact He.codeIn_ref q2.1
      obtain ⟨cc, ec⟩ := ecode
      have e1 : cdA K (fdA K y.1 y.2.key) = cc := by
        unfold cdA
        rw [lk]
        show (match fd.code with | .ref c => c | _ => 0) = cc
        rw [ec]
      have mem : y ∈ l.fds.filter fun y => y.2.gen := List.mem_filter.mpr ⟨hy, hg⟩
      refine ⟨cc, tbA K y, ec, ?_, List.mem_map.mpr ⟨y, mem, rfl⟩⟩
      have := TB _ (List.mem_map.mpr ⟨y, mem, rfl⟩)
      rw [e1] at this
      exact this
    · have q := List.all_eq_true.mp c2 y hy
      rw [Bool.and_eq_true] at q
      have q := q.2
      obtain ⟨kd, f⟩ := y
      obtain ⟨key, _, _, _, _, _, _, _, _, _, _, _⟩ := f
      cases kd with
      | fn =>
        cases key with
        | fn x => exact He.glo_ok X G q
        | mt _ _ => cases q
      | mt =>
        cases key with
        | fn x => cases q
        | mt C m =>
          have q : ((He.Fa.cls C).ok K && (He.Fa.meth C m).ok K) = true := q
          rw [Bool.and_eq_true] at q
          exact ⟨He.cls_ok q.1, He.meth_ok q.2⟩
      | ini =>
        cases key with
        | fn x => cases q
        | mt C m =>
          have q : (decide (m = ("__init__" : Str)) && ((He.Fa.mkr C).ok K && (He.Fa.glo C).ok K)) = true := q
          simp only [Bool.and_eq_true, decide_eq_true_eq] at q
          obtain ⟨rfl, q1, q2⟩ := q
          exact ⟨He.mkr_ok q1, He.glo_ok X G q2⟩
      | pr =>
        cases key with
        | fn x => cases q
        | mt C g =>
          have q : ((He.Fa.cls C).ok K && (He.eqO (PySem.W.findIn K (.ref (He.ga K C)) g) (some (some (.ref (prA K C g)))) && (He.eqO (PySem.W.specialIn K (.ref (prA K C g)) "__get__") (some (some (.builtin "property.__get__"))) &&
            (decide (PySem.W.takesIn K (.ref (prA K C g)) = some true) && (match PySem.W.recIn K (prA K C g) "property" with
              | some (.ref _ :: _) => true
              | _ => false))))) = true := q
          simp only [Bool.and_eq_true, decide_eq_true_eq] at q
          obtain ⟨q1, q2, q3, q4, q5⟩ := q
          refine ⟨He.cls_ok q1, prA K C g, He.eqO_ok q2, He.eqO_ok q3, q4, ?_⟩
          split at q5
          · rename_i gg rest er
            refine ⟨rest, ?_⟩
            rw [er]
            show some (Value.ref gg :: rest) = some (.ref (getA K C g) :: rest)
            unfold getA
            rw [er]
          · cases q5
  · have q := List.all_eq_true.mp c3 y hy
    rw [Bool.and_eq_true] at q
    exact ⟨He.cls_ok q.1, He.noat_ok q.2⟩
  · have hy : (x, d) ∈ l.gls := by
      clear c4
      have : ∀ gl : List (Str × D), gl.lookup x = some d → (x, d) ∈ gl := by
        intro gl
        induction gl with
        | nil => intro e; cases e
        | cons p r ih =>
          intro e
          rw [List.lookup_cons] at e
          split at e
          · rename_i hb
            cases e
            rw [eq_of_beq hb]
            exact List.mem_cons_self
          · exact List.mem_cons_of_mem _ (ih e)
      exact this _ e
    have q := List.all_eq_true.mp c4 (x, d) hy
    unfold glB' at q
    split at q
    · rename_i u eu
      split at q
      · rename_i v ev
        exact ⟨v, u, PySem.W.mg_of X G eu, He.relB_ok q, ev⟩
      · cases q
    · cases q
  · have hC : l.kind (.mt C "__init__") .ini = true := hC
    obtain ⟨y, ey, ek⟩ := kind_at hC
    obtain ⟨hm1, hk1⟩ := at_mem ey
    have q := List.all_eq_true.mp hm y hm1
    rw [ek, hk1] at q
    have hC2 : C ∈ l.isi := of_decide_eq_true q
    have q := List.all_eq_true.mp c5 C hC2
    rw [Bool.and_eq_true] at q
    have q2 : insB K C = true := q.2
    unfold insB at q2
    simp only [Bool.and_eq_true, decide_eq_true_eq] at q2
    obtain ⟨a1, a2, a3, a4, a5, a6⟩ := q2
    exact ⟨⟨_, He.glo_ok X G q.1, rfl⟩, He.cls_ok a1, He.eqO_ok a2, He.eqO_ok a3, a4, a5, a6⟩
end
/-- the law's end: from the evaluator's word to the statement's call -/
theorem law_at {l : Lw} {K : Fr} {h : Heap} {mg : Str → Option Value} {fa : Addr} {lw : PySem.W.OpenLaw} {w : World} {n : Nat} (c : SaysR l h K) (X : K.In h) (G : h.Ns mainGlobals mg) (ha : (l.fds.all fun y => argsB y.2.params y.2.ps) = true) (hm : (l.fds.all fun y => match y.1, y.2.key with
      | .ini, .mt C _ => decide (C ∈ l.isi)
      | _, _ => true) = true) (hb : (l.fds.all fun y => fdB l.gst y.2) = true) (hmg : mg ("law" : Str) = some (.ref fa)) {y : FKind × Fd} (hy : l.at_ (.fn "law") = some y) (hy1 : y.1 = .fn) (hps : y.2.ps = [("script" : Str)]) (hks : y.2.ks = [none])
    (hv : ∀ ns : List Int, ns.length ≤ 63 → (∀ z ∈ ns, Builtin.Int.intBits z ≤ 1048576) → ∃ outs, l.orc n (.fn "law") [.lst (ns.map .int)] = some (.bl true, outs)) : LamX.LawAtS lw w K C8.CX0 (lvl n) 63 "script" mg fa h := by
  obtain ⟨hm1, hk1⟩ := at_mem hy
  obtain ⟨fd, F, _, oc, od, osl, lk⟩ := c.fd hm1
  have efa : fdA K y.1 y.2.key = He.ga K "law" := by rw [hy1, hk1]; rfl
  have efa2 : He.ga K "law" = fa := by
    have c1 := c.lw
    unfold lwB at c1
    rw [Bool.and_eq_true] at c1
    have q := List.all_eq_true.mp c1.1 y hm1
    rw [Bool.and_eq_true, hy1, hk1] at q
    have := He.glo_ok X G (x := "law") q.2
    rw [hmg] at this
    cases this
    rfl
  rw [efa, efa2] at F
  refine ⟨fd, csOf l K, SpF K (fun C => He.ga K C) (tbsOf l K) (l.orc n) (.fn "law") [none], fun p hp => ?_, fun p hp => ?_, fun p hp => ?_, fun s u => ?_, fun H a ns hl hbits hT hS => ?_, fun base Xb Gb TB => ?_⟩
  · obtain ⟨z, hz, rfl⟩ := List.mem_map.mp hp
    obtain ⟨z1, z2⟩ := List.mem_filter.mp hz
    exact c.empty z z1 z2
  · obtain ⟨z, hz, rfl⟩ := List.mem_map.mp hp
    obtain ⟨z1, z2⟩ := List.mem_filter.mp hz
    exact c.out z z1 z2
  · obtain ⟨z, hz, rfl⟩ := List.mem_map.mp hp
    obtain ⟨z1, z2⟩ := List.mem_filter.mp hz
    exact PySem.W.codeHd_of_K X (c.hd z z1 z2)
  · have b := FunD.bindsA (ps := y.2.ps) F (bind_gen (List.all_eq_true.mp ha y hm1)) s [u] (by rw [hps]; rfl)
    rw [hps] at b
    exact b
  · obtain ⟨outs, hO⟩ := hv ns hl hbits
    have hrd : Rd H a (.lst (ns.map V.int)) := by
      rcases hS with h1 | ⟨o, its, m, h1, h2, h3, h4, h5, h6⟩
      · exact h1
      · have := c.nolist a o h1
        unfold noList at this
        rw [h2] at this
        cases this
    have hZ : ∃ Z, ZOk Z H ∧ Rd Z a (.lst (ns.map V.int)) := by
      have one : ∀ u, H a = some u → notTbl u = true → ZOk (fun b => if b = a then H a else none) H := fun u hu hn b v e => by
        have e : (if b = a then H a else none) = some v := e
        split at e
        · rename_i hb
          rw [hb]
          rw [hu] at e ⊢
          cases e
          exact ⟨rfl, hn⟩
        · cases e
      have at_ : (fun b => if b = a then H a else none) a = H a := if_pos rfl
      rcases hrd with h1 | ⟨o, h1⟩
      · exact ⟨_, one _ h1 rfl, .inl (at_.trans h1)⟩
      · exact ⟨_, one _ h1 rfl, .inr ⟨o, at_.trans h1⟩⟩
    obtain ⟨Z, zok, rd⟩ := hZ
    have rps : ∀ ns : List Int, Rps K (fun C => He.ga K C) Z (ns.map V.int) (ns.map D.int) := fun ns => by
      induction ns with
      | nil => exact .nil
      | cons z r ih => exact .cons (.int z) ih
    refine ⟨Z, [.lst (ns.map .int)], [], .bl true, outs, zok, fun P hP => ?_, .fz (.lst rd (rps ns)) .nil, .nil, hO, fun v Z' H' gps _ r _ _ => by cases r; rfl⟩
    obtain ⟨z, hz, rfl⟩ := List.mem_map.mp hP
    exact ⟨#[], hT _ (List.mem_map.mpr ⟨z, hz, rfl⟩), by simp [TriplesOk]⟩
  · have lo : LwOk l (fun C => He.ga K C) (tbsOf l K) K mg base := lw_ok c Xb Gb ha hm fun p hp => ⟨(TB p hp).code, (TB p hp).bm, (TB p hp).gP⟩
    have := all_ok (P := lw.prog) (w := w) lo hb n (.fn "law") y fa fd hy F fun hg => by
      obtain ⟨fa', fd', F', _, g', pl⟩ := lo.fd y hm1
      have pl : PlaceOk K mg (fun C => He.ga K C) fa' y.1 y.2.key := pl
      rw [hy1, hk1] at pl
      have pl : mg "law" = some (.ref fa') := pl
      rw [hmg] at pl
      cases pl
      obtain ⟨oc1, od1, dV1, kV1, doc1, pm1, an1, cdv1, ct1, osl1, e1, lk1, _, _, _⟩ := F.ex
      obtain ⟨oc2, od2, dV2, kV2, doc2, pm2, an2, cdv2, ct2, osl2, e2, lk2, _, _, _⟩ := F'.ex
      have : fd = fd' := by
        rw [lk1] at lk2
        have q := congrArg Obj.data (Option.some.inj lk2)
        exact Data.func.inj q
      rw [this]
      exact g' hg
    rw [hps, hks] at this
    exact this
end Rf
end

section
set_option Elab.async false
set_option linter.all false
set_option maxRecDepth 100000
/-! Words over the evaluator. -/
namespace Rf
open PySem
/-- a value is reckoned before it is handed on -/
def App {α : Type} (x : α) (K : α → Prop) : Prop := K x
theorem App_congr {α : Type} {x x' : α} {K : α → Prop} (h : x = x') : App x K = App x' K := by rw [h]
theorem App_def {α : Type} {x : α} {K : α → Prop} : App x K = K x := rfl
def Ok {α : Type} (r : Option α) (P : α → Prop) : Prop := match r with
  | some a => P a
  | none => False
theorem Ok_congr {α : Type} {r r' : Option α} {P : α → Prop} (h : r = r') : Ok r P = Ok r' P := by rw [h]
theorem Ok.eq {α : Type} {r : Option α} {x : α} (h : Ok r (· = x)) : r = some x := by
  cases r with
  | none => exact h.elim
  | some a => exact congrArg some h
theorem Ok.of {α : Type} {r : Option α} {x : α} {P : α → Prop} (e : r = some x) (h : P x) : Ok r P := by rw [e]; exact h
theorem Ok.get {α : Type} {r : Option α} {P : α → Prop} (h : Ok r P) : ∃ x, r = some x ∧ P x := by
  cases r with
  | none => exact h.elim
  | some a => exact ⟨a, rfl, h⟩
theorem Ok.mono {α : Type} {r : Option α} {P Q : α → Prop} (h : Ok r P) (k : ∀ x, P x → Q x) : Ok r Q := by
  cases r with
  | none => exact h.elim
  | some a => exact k a h
@[simp ↓] theorem Ok_some {α : Type} {a : α} {P : α → Prop} : Ok (some a) P = P a := rfl
@[simp ↓] theorem Ok_none {α : Type} {P : α → Prop} : Ok none P = False := rfl
@[simp ↓] theorem Ok_ret {α : Type} {a : α} {ω : Om} {P : α × Om → Prop} : Ok (ret a ω) P = P (a, ω) := rfl
@[simp ↓] theorem Ok_bnd {α β : Type} {r : R α} {f : α → Om → R β} {P : β × Om → Prop} : Ok (bnd r f) P = Ok r fun p => Ok (f p.1 p.2) P := by
  cases r with
  | none => rfl
  | some p => rfl
@[simp ↓] theorem Ok_opt {α : Type} {o : Option α} {ω : Om} {P : α × Om → Prop} : Ok (opt o ω) P = Ok o fun a => P (a, ω) := by cases o <;> rfl
@[simp ↓] theorem Ok_map {α β : Type} {o : Option α} {f : α → β} {P : β → Prop} : Ok (o.map f) P = Ok o fun a => P (f a) := by cases o <;> rfl
def isB (d : D) (K : Bool → Prop) : Prop := match d with
  | .bl b => K b
  | _ => False
def isI (d : D) (K : Int → Prop) : Prop := match d with
  | .int b => K b
  | _ => False
theorem isB_congr {d d' : D} {K : Bool → Prop} (h : d = d') : isB d K = isB d' K := by rw [h]
theorem isI_congr {d d' : D} {K : Int → Prop} (h : d = d') : isI d K = isI d' K := by rw [h]
@[simp ↓] theorem isB_bl {b : Bool} {K : Bool → Prop} : isB (.bl b) K = K b := rfl
@[simp ↓] theorem isI_int {b : Int} {K : Int → Prop} : isI (.int b) K = K b := rfl
section
variable {O : Orc} {ρ : Env} {ω : Om} {P : D × Om → Prop} {a b c : IE} {W : Nat}
@[simp ↓] theorem ok_var {i : Nat} : Ok (ev O (.var i) ρ ω) P = Ok (omAt ρ i) fun d => P (d, ω) := Ok_opt
@[simp ↓] theorem ok_cst {d : D} : Ok (ev O (.cst d) ρ ω) P = P (d, ω) := rfl
@[simp ↓] theorem ok_glb {x : Str} {d : D} : Ok (ev O (.glb x d) ρ ω) P = P (d, ω) := rfl
@[simp ↓] theorem ok_bin {op : BOp} : Ok (ev O (.bin op a b) ρ ω) P = Ok (ev O a ρ ω) fun p => Ok (ev O b ρ p.2) fun q => Ok (dbin op p.1 q.1) fun d => P (d, q.2) := by
  show Ok (bnd _ _) P = _
  simp only [Ok_bnd, Ok_opt]
@[simp ↓] theorem ok_neg : Ok (ev O (.neg a) ρ ω) P = Ok (ev O a ρ ω) fun p => isI p.1 fun i => P (.int (-i), p.2) := by
  show Ok (bnd _ _) P = _
  simp only [Ok_bnd]
  congr 1; funext p
  obtain ⟨d, ω1⟩ := p
  cases d <;> rfl
@[simp ↓] theorem ok_cmp {op : COp} : Ok (ev O (.cmp op a b) ρ ω) P = Ok (ev O a ρ ω) fun p => Ok (ev O b ρ p.2) fun q => Ok (dcmp op p.1 q.1) fun k => P (.bl k, q.2) := by
  show Ok (bnd _ _) P = _
  simp only [Ok_bnd, Ok_opt, Ok_map]
@[simp ↓] theorem ok_chn {o1 o2 : COp} : Ok (ev O (.chn o1 o2 a b c) ρ ω) P = Ok (ev O a ρ ω) fun p => Ok (ev O b ρ p.2) fun q => Ok (dcmp o1 p.1 q.1) fun k => if k = true then Ok (ev O c ρ q.2) fun r => Ok (dcmp o2 q.1 r.1) fun k => P (.bl k, r.2) else P (.bl false, q.2) := by
  show Ok (bnd _ _) P = _
  simp only [Ok_bnd, Ok_opt, Ok_map]
  congr 1; funext p; congr 1; funext q; congr 1; funext k
  split
  · simp only [Ok_bnd, Ok_opt, Ok_map]
  · rfl
@[simp ↓] theorem ok_not : Ok (ev O (.not a) ρ ω) P = Ok (ev O a ρ ω) fun p => isB p.1 fun b => P (.bl (!b), p.2) := by
  show Ok (bnd _ _) P = _
  simp only [Ok_bnd]
  congr 1; funext p
  obtain ⟨d, ω1⟩ := p
  cases d <;> rfl
@[simp ↓] theorem ok_and : Ok (ev O (.and a b) ρ ω) P = Ok (ev O a ρ ω) fun p => isB p.1 fun k => if k = true then Ok (ev O b ρ p.2) P else P (.bl false, p.2) := by
  show Ok (bnd _ _) P = _
  simp only [Ok_bnd]
  congr 1; funext p
  obtain ⟨d, ω1⟩ := p
  cases d with
  | bl k => cases k <;> rfl
  | _ => rfl
@[simp ↓] theorem ok_or : Ok (ev O (.or a b) ρ ω) P = Ok (ev O a ρ ω) fun p => isB p.1 fun k => if k = true then P (.bl true, p.2) else Ok (ev O b ρ p.2) P := by
  show Ok (bnd _ _) P = _
  simp only [Ok_bnd]
  congr 1; funext p
  obtain ⟨d, ω1⟩ := p
  cases d with
  | bl k => cases k <;> rfl
  | _ => rfl
@[simp ↓] theorem ok_ife : Ok (ev O (.ife c a b) ρ ω) P = Ok (ev O c ρ ω) fun p => isB p.1 fun k => if k = true then Ok (ev O a ρ p.2) P else Ok (ev O b ρ p.2) P := by
  show Ok (bnd _ _) P = _
  simp only [Ok_bnd]
  congr 1; funext p
  obtain ⟨d, ω1⟩ := p
  cases d with
  | bl k => cases k <;> rfl
  | _ => rfl
theorem Ok_ite {α : Type} {k : Prop} [Decidable k] {r : α} {P : α → Prop} : Ok (if k then some r else none) P = (k ∧ P r) := by
  split <;> rename_i h
  · exact (propext ⟨fun x => x.2, fun x => ⟨h, x⟩⟩ : (k ∧ P r) = P r).symm ▸ rfl
  · exact (propext ⟨fun x => x.elim, fun x => h x.1⟩ : False = (k ∧ P r))
@[simp ↓] theorem ok_tup {l : IEs} : Ok (ev O (.tup l) ρ ω) P = Ok (evs O l ρ ω) fun p => p.1.length ≤ sizeLine ∧ P (.tup p.1, p.2) := by
  show Ok (bnd _ _) P = _
  simp only [Ok_bnd]
  congr 1; funext p
  exact Ok_ite
@[simp ↓] theorem ok_lst {l : IEs} : Ok (ev O (.lst l) ρ ω) P = Ok (evs O l ρ ω) fun p => p.1.length ≤ sizeLine ∧ P (.lst p.1, p.2) := by
  show Ok (bnd _ _) P = _
  simp only [Ok_bnd]
  congr 1; funext p
  exact Ok_ite
@[simp ↓] theorem ok_dd {t : Bool} {l : IPs} : Ok (ev O (.dd t l) ρ ω) P = Ok (evp O l ρ ω) fun p => Ok (dmake t p.1) fun d => P (d, p.2) := by
  show Ok (bnd _ _) P = _
  simp only [Ok_bnd, Ok_opt]
@[simp ↓] theorem ok_idx : Ok (ev O (.idx a b) ρ ω) P = Ok (ev O a ρ ω) fun p => Ok (ev O b ρ p.2) fun q => Ok (didx p.1 q.1) fun d => P (d, q.2) := by
  show Ok (bnd _ _) P = _
  simp only [Ok_bnd, Ok_opt]
@[simp ↓] theorem ok_slc {lo hi : IO} : Ok (ev O (.slc a lo hi) ρ ω) P = Ok (ev O a ρ ω) fun p => Ok (evo O lo ρ p.2) fun l => Ok (evo O hi ρ l.2) fun h => Ok (dslc p.1 l.1 h.1) fun d => P (d, h.2) := by
  show Ok (bnd _ _) P = _
  simp only [Ok_bnd, Ok_opt]
@[simp ↓] theorem ok_ono {P : Option Int × Om → Prop} : Ok (evo O .no ρ ω) P = P (none, ω) := rfl
@[simp ↓] theorem ok_oyes {P : Option Int × Om → Prop} : Ok (evo O (.yes a) ρ ω) P = Ok (ev O a ρ ω) fun p => isI p.1 fun i => P (some i, p.2) := by
  show Ok (bnd _ _) P = _
  simp only [Ok_bnd]
  congr 1; funext p
  obtain ⟨d, ω1⟩ := p
  cases d <;> rfl
def fldK (d : D) (C f : Str) (K : D → Prop) : Prop := match d with
  | .ins C' fs => C' = C ∧ Ok (fs.lookup f) K
  | _ => False
theorem fldK_congr {d d' : D} {C f : Str} {K : D → Prop} (h : d = d') : fldK d C f K = fldK d' C f K := by rw [h]
@[simp ↓] theorem ok_fld {C f : Str} : Ok (ev O (.fld C a f) ρ ω) P = Ok (ev O a ρ ω) fun p => fldK p.1 C f fun d => P (d, p.2) := by
  show Ok (bnd _ _) P = _
  simp only [Ok_bnd]
  congr 1; funext p
  obtain ⟨d, ω1⟩ := p
  cases d with
  | ins C' fs =>
    show Ok (if C' = C then opt (fs.lookup f) ω1 else none) P = (C' = C ∧ Ok (fs.lookup f) _)
    split <;> rename_i h
    · rw [Ok_opt]; exact (propext ⟨fun x => ⟨h, x⟩, fun x => x.2⟩)
    · exact (propext ⟨fun x => x.elim, fun x => h x.1⟩)
  | _ => rfl
@[simp ↓] theorem fldK_ins {C C' f : Str} {fs : List (Str × D)} {K : D → Prop} : fldK (.ins C' fs) C f K = (C' = C ∧ Ok (fs.lookup f) K) := rfl
/-- a call, its arguments all known -/
theorem ok_doCall {f : FKey} {as : List AV} : Ok (doCall O f as ω) P = Ok (argsOf ω as) fun ds => Ok (O f ds) fun p => App (wr ω (iosOf as) p.2) fun w => P (p.1, w) := by
  unfold doCall
  cases argsOf ω as with
  | none => rfl
  | some ds =>
    show Ok (match O f ds with | none => none | some (r, outs) => some (r, wr ω (iosOf as) outs)) P = _
    cases h : O f ds with
    | none => simp only [Ok_some, Ok_none, h]
    | some p => obtain ⟨r, outs⟩ := p; simp only [Ok_some, h, App_def]
def insK (d : D) (C : Str) (m : Option Str) (K : Prop) : Prop := match d with
  | .ins C' fs => C' = C ∧ (match m with | some m => (fs.lookup m).isNone = true | none => True) ∧ K
  | _ => False
theorem insK_congr {d d' : D} {C : Str} {m : Option Str} {K : Prop} (h : d = d') : insK d C m K = insK d' C m K := by rw [h]
@[simp ↓] theorem insK_ins {C C' : Str} {m : Option Str} {fs : List (Str × D)} {K : Prop} : insK (.ins C' fs) C m K = (C' = C ∧ (match m with | some m => (fs.lookup m).isNone = true | none => True) ∧ K) := rfl
@[simp ↓] theorem ok_prp {C f : Str} : Ok (ev O (.prp C a f) ρ ω) P = Ok (ev O a ρ ω) fun p => insK p.1 C none (Ok (O (.mt C f) [p.1]) fun q => P (q.1, p.2)) := by
  show Ok (bnd _ _) P = _
  simp only [Ok_bnd]
  congr 1; funext p
  obtain ⟨d, ω1⟩ := p
  cases d with
  | ins C' fs =>
    show Ok (if C' = C then doCall O (.mt C f) [.fz (.ins C' fs)] ω1 else none) P = (C' = C ∧ True ∧ _)
    split <;> rename_i h
    · rw [ok_doCall]
      exact (propext ⟨fun x => ⟨h, trivial, x⟩, fun x => x.2.2⟩)
    · exact (propext ⟨fun x => x.elim, fun x => h x.1⟩)
  | _ => rfl
@[simp ↓] theorem ok_call {f : Str} {l : IAs} : Ok (ev O (.call f l) ρ ω) P = Ok (eva O l ρ ω) fun p => Ok (argsOf p.2 p.1) fun ds => Ok (O (.fn f) ds) fun q => App (wr p.2 (iosOf p.1) q.2) fun w => P (q.1, w) := by
  show Ok (bnd _ _) P = _
  simp only [Ok_bnd, ok_doCall]
@[simp ↓] theorem ok_mth {C m : Str} {l : IAs} : Ok (ev O (.mth C a m l) ρ ω) P = Ok (ev O a ρ ω) fun p => insK p.1 C (some m) (Ok (eva O l ρ p.2) fun r => Ok (argsOf r.2 r.1) fun ds => Ok (O (.mt C m) (p.1 :: ds)) fun q => App (wr r.2 (iosOf r.1) q.2) fun w => P (q.1, w)) := by
  show Ok (bnd _ _) P = _
  simp only [Ok_bnd]
  congr 1; funext p
  obtain ⟨d, ω1⟩ := p
  cases d with
  | ins C' fs =>
    show Ok (if C' = C ∧ (fs.lookup m).isNone = true then bnd (eva O l ρ ω1) fun as ω2 => doCall O (.mt C m) (.fz (.ins C' fs) :: as) ω2 else none) P = (C' = C ∧ (fs.lookup m).isNone = true ∧ _)
    split <;> rename_i h
    · simp only [Ok_bnd, ok_doCall]
      refine (propext ⟨fun x => ⟨h.1, h.2, ?_⟩, fun x => ?_⟩)
      · refine x.mono fun r y => ?_
        have y : Ok ((argsOf r.2 r.1).map (D.ins C' fs :: ·)) _ := y
        rw [Ok_map] at y
        exact y
      · refine x.2.2.mono fun r y => ?_
        show Ok ((argsOf r.2 r.1).map (D.ins C' fs :: ·)) _
        rw [Ok_map]
        exact y
    · exact (propext ⟨fun x => x.elim, fun x => h ⟨x.1, x.2.1⟩⟩)
  | _ => rfl
@[simp ↓] theorem ok_mtho {j : Nat} {C m : Str} {l : IAs} : Ok (ev O (.mtho j C m l) ρ ω) P = Ok (omAt ω j) fun x => insK x C (some m) (Ok (eva O l ρ ω) fun r => Ok (argsOf r.2 (.io j :: r.1)) fun ds => Ok (O (.mt C m) ds) fun q => App (wr r.2 (j :: iosOf r.1) q.2) fun w => P (q.1, w)) := by
  show Ok (match omAt ω j with
    | some (.ins C' fs) => if C' = C ∧ (fs.lookup m).isNone = true then bnd (eva O l ρ ω) fun as ω2 => doCall O (.mt C m) (.io j :: as) ω2 else none
    | _ => none) P = _
  cases omAt ω j with
  | none => rfl
  | some d =>
    cases d with
    | ins C' fs =>
      show Ok (if C' = C ∧ (fs.lookup m).isNone = true then bnd (eva O l ρ ω) fun as ω2 => doCall O (.mt C m) (.io j :: as) ω2 else none) P = (C' = C ∧ (fs.lookup m).isNone = true ∧ _)
      split <;> rename_i h
      · simp only [Ok_bnd, ok_doCall]
        exact (propext ⟨fun x => ⟨h.1, h.2, x⟩, fun x => x.2.2⟩)
      · exact (propext ⟨fun x => x.elim, fun x => h ⟨x.1, x.2.1⟩⟩)
    | _ => rfl
def mkK (p : D × List D) (K : D → List D → Prop) : Prop := match p with
  | (.non, d :: outs) => K d outs
  | _ => False
theorem mkK_congr {p p' : D × List D} {K : D → List D → Prop} (h : p = p') : mkK p K = mkK p' K := by rw [h]
@[simp ↓] theorem mkK_at {d : D} {outs : List D} {K : D → List D → Prop} : mkK (.non, d :: outs) K = K d outs := rfl
@[simp ↓] theorem ok_mk {C : Str} {l : IAs} : Ok (ev O (.mk C l) ρ ω) P = Ok (eva O l ρ ω) fun p => Ok (argsOf p.2 p.1) fun ds => Ok (O (.mt C "__init__") (.ins C [] :: ds)) fun q => mkK q fun d outs => App (wr p.2 (iosOf p.1) outs) fun w => P (d, w) := by
  show Ok (bnd _ _) P = _
  simp only [Ok_bnd]
  congr 1; funext p
  cases argsOf p.2 p.1 with
  | none => rfl
  | some ds =>
    show Ok (match O (.mt C "__init__") (.ins C [] :: ds) with
      | some (.non, d :: outs) => some (d, wr p.2 (iosOf p.1) outs)
      | _ => none) P = Ok (O (.mt C "__init__") (.ins C [] :: ds)) _
    cases h : O (.mt C "__init__") (.ins C [] :: ds) with
    | none => rfl
    | some q =>
      obtain ⟨r, outs⟩ := q
      cases r <;> cases outs <;> rfl
@[simp ↓] theorem ok_prm {pr : Prim} {l : IEs} : Ok (ev O (.prm pr l) ρ ω) P = Ok (evs O l ρ ω) fun p => Ok (dprim pr p.1) fun d => P (d, p.2) := by
  show Ok (bnd _ _) P = _
  simp only [Ok_bnd, Ok_opt]
def elG (O : Orc) (e : IE) : Env → Om → R (List D) := fun ρ' ω' => bnd (ev O e ρ' ω') fun d ω2 => ret [d] ω2
@[simp ↓] theorem ok_elG {e : IE} {P : List D × Om → Prop} : Ok (elG O e ρ ω) P = Ok (ev O e ρ ω) fun p => P ([p.1], p.2) := by
  unfold elG
  simp only [Ok_bnd, Ok_ret]
def elD (O : Orc) (k v : IE) : Env → Om → R (List D) := fun ρ' ω' => bnd (ev O k ρ' ω') fun d ω2 => bnd (ev O v ρ' ω2) fun x ω3 => ret [.tup [d, x]] ω3
@[simp ↓] theorem ok_elD {k v : IE} {P : List D × Om → Prop} : Ok (elD O k v ρ ω) P = Ok (ev O k ρ ω) fun p => Ok (ev O v ρ p.2) fun q => P ([.tup [p.1, q.1]], q.2) := by
  unfold elD
  simp only [Ok_bnd, Ok_ret]
@[simp ↓] theorem ok_lc {e : IE} {gs : IGs} : Ok (ev O (.lc e gs) ρ ω) P = App (wipeE ρ (slotsG gs)) fun ρ0 => Ok (evg O gs (elG O e) ρ0 ω) fun p => p.1.length ≤ sizeLine ∧ P (.lst p.1, p.2) := by
  show Ok (bnd _ _) P = _
  simp only [Ok_bnd]
  congr 1; funext p
  exact Ok_ite
@[simp ↓] theorem ok_dc {t : Bool} {k v : IE} {gs : IGs} : Ok (ev O (.dc t k v gs) ρ ω) P = App (wipeE ρ (slotsG gs)) fun ρ0 => Ok (evg O gs (elD O k v) ρ0 ω) fun p => Ok (dmake t p.1) fun d => P (d, p.2) := by
  show Ok (bnd _ _) P = _
  simp only [Ok_bnd, Ok_opt]
  rfl
def elB (O : Orc) (e : IE) : Env → Om → R Bool := fun ρ' ω' => bnd (ev O e ρ' ω') fun d ω2 => match d with
  | .bl b => ret b ω2
  | _ => none
@[simp ↓] theorem ok_elB {e : IE} {P : Bool × Om → Prop} : Ok (elB O e ρ ω) P = Ok (ev O e ρ ω) fun p => isB p.1 fun b => P (b, p.2) := by
  unfold elB
  simp only [Ok_bnd]
  congr 1; funext p
  obtain ⟨d, ω1⟩ := p
  cases d <;> rfl
@[simp ↓] theorem ok_qal {e : IE} {gs : IGs} : Ok (ev O (.qal e gs) ρ ω) P = App (wipeE ρ (slotsG gs)) fun ρ0 => Ok (evq O false gs (elB O e) ρ0 ω) fun p => P (.bl (!p.1), p.2) := by
  show Ok (bnd _ _) P = _
  simp only [Ok_bnd]
  rfl
@[simp ↓] theorem ok_qan {e : IE} {gs : IGs} : Ok (ev O (.qan e gs) ρ ω) P = App (wipeE ρ (slotsG gs)) fun ρ0 => Ok (evq O true gs (elB O e) ρ0 ω) fun p => P (.bl p.1, p.2) := by
  show Ok (bnd _ _) P = _
  simp only [Ok_bnd]
  rfl
@[simp ↓] theorem ok_view {sl : List Nat} {e : IE} : Ok (ev O (.view sl e) ρ ω) P = App (viewE ρ ω sl 0) fun ρ' => Ok (ev O e ρ' []) fun p => viewOk p.1 = true ∧ P (p.1, ω) := by
  show Ok (match ev O e (viewE ρ ω sl 0) [] with
    | some (d, _) => if viewOk d then ret d ω else none
    | none => none) P = Ok (ev O e (viewE ρ ω sl 0) []) fun p => viewOk p.1 = true ∧ P (p.1, ω)
  cases ev O e (viewE ρ ω sl 0) [] with
  | none => rfl
  | some p => exact Ok_ite
@[simp ↓] theorem ok_snil {P : List D × Om → Prop} : Ok (evs O .nil ρ ω) P = P ([], ω) := rfl
@[simp ↓] theorem ok_scons {l : IEs} {P : List D × Om → Prop} : Ok (evs O (.cons a l) ρ ω) P = Ok (ev O a ρ ω) fun p => Ok (evs O l ρ p.2) fun q => P (p.1 :: q.1, q.2) := by
  show Ok (bnd _ _) P = _
  simp only [Ok_bnd, Ok_ret]
@[simp ↓] theorem ok_pnil {P : List D × Om → Prop} : Ok (evp O .nil ρ ω) P = P ([], ω) := rfl
@[simp ↓] theorem ok_pcons {l : IPs} {P : List D × Om → Prop} : Ok (evp O (.cons a b l) ρ ω) P = Ok (ev O a ρ ω) fun p => Ok (ev O b ρ p.2) fun q => Ok (evp O l ρ q.2) fun r => P (.tup [p.1, q.1] :: r.1, r.2) := by
  show Ok (bnd _ _) P = _
  simp only [Ok_bnd, Ok_ret]
@[simp ↓] theorem ok_anil {P : List AV × Om → Prop} : Ok (eva O .nil ρ ω) P = P ([], ω) := rfl
@[simp ↓] theorem ok_afz {l : IAs} {P : List AV × Om → Prop} : Ok (eva O (.fz a l) ρ ω) P = Ok (ev O a ρ ω) fun p => Ok (eva O l ρ p.2) fun q => P (.fz p.1 :: q.1, q.2) := by
  show Ok (bnd _ _) P = _
  simp only [Ok_bnd, Ok_ret]
@[simp ↓] theorem ok_aio {j : Nat} {l : IAs} {P : List AV × Om → Prop} : Ok (eva O (.io j l) ρ ω) P = Ok (omAt ω j) fun _ => Ok (eva O l ρ ω) fun q => P (.io j :: q.1, q.2) := by
  show Ok (match omAt ω j with
    | some _ => bnd (eva O l ρ ω) fun ds ω2 => ret (AV.io j :: ds) ω2
    | none => none) P = _
  cases omAt ω j with
  | none => rfl
  | some d => simp only [Ok_bnd, Ok_ret, Ok_some]
@[simp ↓] theorem ok_cnil {P : Bool × Om → Prop} : Ok (evc O .nil ρ ω) P = P (true, ω) := rfl
@[simp ↓] theorem ok_cone {P : Bool × Om → Prop} : Ok (evc O (.cons a .nil) ρ ω) P = Ok (ev O a ρ ω) fun p => isB p.1 fun b => P (b, p.2) := by
  show Ok (bnd _ _) P = _
  simp only [Ok_bnd]
  congr 1; funext p
  obtain ⟨d, ω1⟩ := p
  cases d with
  | bl b => cases b <;> rfl
  | _ => rfl
@[simp ↓] theorem ok_val {P : List D × Om → Prop} : Ok (esrc O (.val a) ρ ω) P = Ok (ev O a ρ ω) fun p => Ok (ditems p.1) fun l => P (l, p.2) := by
  show Ok (bnd _ _) P = _
  simp only [Ok_bnd, Ok_opt]
@[simp ↓] theorem ok_rng1 {P : List D × Om → Prop} : Ok (esrc O (.rng1 a) ρ ω) P = Ok (ev O a ρ ω) fun p => isI p.1 fun n => Ok (rngD 0 n) fun l => P (l, p.2) := by
  show Ok (bnd _ _) P = _
  simp only [Ok_bnd]
  congr 1; funext p
  obtain ⟨d, ω1⟩ := p
  cases d with
  | int n => exact Ok_opt
  | _ => rfl
@[simp ↓] theorem ok_rng2 {P : List D × Om → Prop} : Ok (esrc O (.rng2 a b) ρ ω) P = Ok (ev O a ρ ω) fun p => Ok (ev O b ρ p.2) fun q => isI p.1 fun i => isI q.1 fun j => Ok (rngD i j) fun l => P (l, q.2) := by
  show Ok (bnd _ _) P = _
  simp only [Ok_bnd]
  congr 1; funext p; congr 1; funext q
  obtain ⟨d, ω1⟩ := p
  obtain ⟨e, ω2⟩ := q
  cases d with
  | int n =>
    cases e with
    | int m => exact Ok_opt
    | _ => rfl
  | _ => cases e <;> rfl
@[simp ↓] theorem ok_zip2 {P : List D × Om → Prop} : Ok (esrc O (.zip2 a b) ρ ω) P = Ok (ev O a ρ ω) fun p => Ok (ev O b ρ p.2) fun q => Ok (zipD p.1 q.1) fun l => P (l, q.2) := by
  show Ok (bnd _ _) P = _
  simp only [Ok_bnd, Ok_opt]
@[simp ↓] theorem ok_enum {P : List D × Om → Prop} : Ok (esrc O (.enum a) ρ ω) P = Ok (ev O a ρ ω) fun p => Ok (enumD p.1) fun l => P (l, p.2) := by
  show Ok (bnd _ _) P = _
  simp only [Ok_bnd, Ok_opt]
/-! ### loops of comprehensions -/
/-- one turn of a clause -/
def turnG (O : Orc) (t : ITg) (cs : IEs) (r : IGs) (k : Env → Om → R (List D)) (ρ : Env) : D → Om → R (List D) := fun d ω2 => match bindT t d ρ with
  | none => none
  | some ρ2 => bnd (evc O cs ρ2 ω2) fun b ω3 => if b then evg O r k ρ2 ω3 else ret [] ω3
@[simp ↓] theorem ok_g0 {k : Env → Om → R (List D)} {P : List D × Om → Prop} : Ok (evg O .nil k ρ ω) P = Ok (k ρ ω) P := rfl
@[simp ↓] theorem ok_gc {t : ITg} {s : ISrc} {cs : IEs} {r : IGs} {k : Env → Om → R (List D)} {P : List D × Om → Prop} : Ok (evg O (.cons t s cs r) k ρ ω) P = Ok (esrc O s ρ ω) fun p => Ok (gloop (turnG O t cs r k ρ) p.1 p.2) P := by
  show Ok (bnd _ _) P = _
  simp only [Ok_bnd]
  rfl
@[simp ↓] theorem ok_turnG {t : ITg} {cs : IEs} {r : IGs} {k : Env → Om → R (List D)} {d : D} {P : List D × Om → Prop} : Ok (turnG O t cs r k ρ d ω) P = Ok (bindT t d ρ) fun ρ2 => Ok (evc O cs ρ2 ω) fun p => if p.1 = true then Ok (evg O r k ρ2 p.2) P else P ([], p.2) := by
  unfold turnG
  cases bindT t d ρ with
  | none => rfl
  | some ρ2 =>
    show Ok (bnd _ _) P = Ok _ _
    simp only [Ok_bnd]
    congr 1; funext p
    obtain ⟨b, ω3⟩ := p
    cases b <;> rfl
def turnQ (O : Orc) (st : Bool) (t : ITg) (cs : IEs) (r : IGs) (k : Env → Om → R Bool) (ρ : Env) : D → Om → R Bool := fun d ω2 => match bindT t d ρ with
  | none => none
  | some ρ2 => bnd (evc O cs ρ2 ω2) fun b ω3 => if b then evq O st r k ρ2 ω3 else ret false ω3
@[simp ↓] theorem ok_q0 {st : Bool} {k : Env → Om → R Bool} {P : Bool × Om → Prop} : Ok (evq O st .nil k ρ ω) P = Ok (k ρ ω) fun p => P (p.1 == st, p.2) := by
  show Ok (bnd _ _) P = _
  simp only [Ok_bnd, Ok_ret]
@[simp ↓] theorem ok_qc {st : Bool} {t : ITg} {s : ISrc} {cs : IEs} {r : IGs} {k : Env → Om → R Bool} {P : Bool × Om → Prop} : Ok (evq O st (.cons t s cs r) k ρ ω) P = Ok (esrc O s ρ ω) fun p => Ok (qloop (turnQ O st t cs r k ρ) p.1 p.2) P := by
  show Ok (bnd _ _) P = _
  simp only [Ok_bnd]
  rfl
@[simp ↓] theorem ok_turnQ {st : Bool} {t : ITg} {cs : IEs} {r : IGs} {k : Env → Om → R Bool} {d : D} {P : Bool × Om → Prop} : Ok (turnQ O st t cs r k ρ d ω) P = Ok (bindT t d ρ) fun ρ2 => Ok (evc O cs ρ2 ω) fun p => if p.1 = true then Ok (evq O st r k ρ2 p.2) P else P (false, p.2) := by
  unfold turnQ
  cases bindT t d ρ with
  | none => rfl
  | some ρ2 =>
    show Ok (bnd _ _) P = Ok _ _
    simp only [Ok_bnd]
    congr 1; funext p
    obtain ⟨b, ω3⟩ := p
    cases b <;> rfl
end
theorem gloop_pure {α : Type} {f : D → Om → R (List D)} {ω : Om} {enc : α → D} {g : α → List D} : ∀ {xs : List α}, (∀ x ∈ xs, Ok (f (enc x) ω) (· = (g x, ω))) → gloop f (xs.map enc) ω = some (xs.flatMap g, ω)
  | [], _ => rfl
  | x :: xs, h => by
    show bnd (f (enc x) ω) _ = _
    rw [(h x List.mem_cons_self).eq, bnd_some, gloop_pure fun y hy => h y (List.mem_cons_of_mem _ hy)]
    rfl
theorem qloop_pure {α : Type} {f : D → Om → R Bool} {ω : Om} {enc : α → D} {g : α → Bool} : ∀ {xs : List α}, (∀ x ∈ xs, Ok (f (enc x) ω) (· = (g x, ω))) → qloop f (xs.map enc) ω = some (xs.any g, ω)
  | [], _ => rfl
  | x :: xs, h => by
    show bnd (f (enc x) ω) _ = _
    rw [(h x List.mem_cons_self).eq, bnd_some, List.any_cons]
    cases hg : g x with
    | true => rfl
    | false => exact qloop_pure fun y hy => h y (List.mem_cons_of_mem _ hy)
theorem ok_qp {α : Type} {f : D → Om → R Bool} {L : List D} {ω : Om} {P : Bool × Om → Prop} (xs : List α) (enc : α → D) (g : α → Bool) (e : L = xs.map enc) (h : ∀ x ∈ xs, Ok (f (enc x) ω) (· = (g x, ω))) (k : P (xs.any g, ω)) : Ok (qloop f L ω) P := by
  rw [e, qloop_pure h]; exact k
theorem ok_gp {α : Type} {f : D → Om → R (List D)} {L : List D} {ω : Om} {P : List D × Om → Prop} (xs : List α) (enc : α → D) (g : α → List D) (e : L = xs.map enc) (h : ∀ x ∈ xs, Ok (f (enc x) ω) (· = (g x, ω))) (k : P (xs.flatMap g, ω)) : Ok (gloop f L ω) P := by
  rw [e, gloop_pure h]; exact k
/-- a comprehension whose element changes what is owned -/
theorem gloop_inv {f : D → Om → R (List D)} {I : Om → Prop} {J : D → Prop} {g : D → List D → Prop} : ∀ {xs : List D} {ω : Om}, I ω → (∀ x ∈ xs, ∀ ω, I ω → Ok (f x ω) fun p => I p.2 ∧ g x p.1) →
    Ok (gloop f xs ω) fun p => I p.2 ∧ ∃ ls : List (List D), ls.length = xs.length ∧ p.1 = ls.flatten ∧ ∀ (i : Nat) (l : List D) (x : D), ls[i]? = some l → xs[i]? = some x → g x l
  | [], ω, hI, _ => ⟨hI, [], rfl, rfl, fun i l x h => by simp at h⟩
  | x :: xs, ω, hI, h => by
    show Ok (bnd (f x ω) _) _
    rw [Ok_bnd]
    refine (h x List.mem_cons_self ω hI).mono fun p ⟨h1, h2⟩ => ?_
    rw [Ok_bnd]
    refine (gloop_inv (J := J) h1 fun y hy => h y (List.mem_cons_of_mem _ hy)).mono fun q ⟨h3, ls, h4, h5, h6⟩ => ?_
    refine ⟨h3, p.1 :: ls, by rw [List.length_cons, List.length_cons, h4], by rw [List.flatten_cons, ← h5], fun i l y e1 e2 => ?_⟩
    cases i with
    | zero => simp at e1 e2; rw [← e1, ← e2]; exact h2
    | succ i => simp at e1 e2; exact h6 i l y e1 e2
/-! ### statements -/
def flK (r : Fl) (N : Env → Om → Prop) (T : D → Om → Prop) : Prop := match r with
  | .nx ρ ω => N ρ ω
  | .rt d ω => T d ω
theorem flK_congr {r r' : Fl} {N : Env → Om → Prop} {T : D → Om → Prop} (h : r = r') : flK r N T = flK r' N T := by rw [h]
@[simp ↓] theorem flK_nx {ρ : Env} {ω : Om} {N : Env → Om → Prop} {T : D → Om → Prop} : flK (.nx ρ ω) N T = N ρ ω := rfl
@[simp ↓] theorem flK_rt {d : D} {ω : Om} {N : Env → Om → Prop} {T : D → Om → Prop} : flK (.rt d ω) N T = T d ω := rfl
/-- a statement's word -/
abbrev OkS (O : Orc) (W : Nat) (s : IS) (ρ : Env) (ω : Om) (N : Env → Om → Prop) (T : D → Om → Prop) : Prop := Ok (exS O W s ρ ω) fun r => flK r N T
abbrev OkSs (O : Orc) (W : Nat) (s : ISs) (ρ : Env) (ω : Om) (N : Env → Om → Prop) (T : D → Om → Prop) : Prop := Ok (exs O W s ρ ω) fun r => flK r N T
section
variable {O : Orc} {ρ : Env} {ω : Om} {W : Nat} {N : Env → Om → Prop} {T : D → Om → Prop}
@[simp ↓] theorem oks_nil : OkSs O W .nil ρ ω N T = N ρ ω := rfl
theorem ok_fth {r : Option Fl} {f : Env → Om → Option Fl} : (Ok (fth r f) fun r => flK r N T) = Ok r fun r => flK r (fun ρ1 ω1 => Ok (f ρ1 ω1) fun r => flK r N T) T := by
  cases r with
  | none => rfl
  | some x => cases x <;> rfl
@[simp ↓] theorem oks_cons {s : IS} {r : ISs} : OkSs O W (.cons s r) ρ ω N T = OkS O W s ρ ω (fun ρ1 ω1 => OkSs O W r ρ1 ω1 N T) T := ok_fth
@[simp ↓] theorem ok_set {i : Nat} {e : IE} : OkS O W (.set i e) ρ ω N T = Ok (ev O e ρ ω) fun p => App (ρ.set i (some p.1)) fun r => N r p.2 := by
  show Ok (match ev O e ρ ω with
    | some (d, ω1) => some (Fl.nx (ρ.set i (some d)) ω1)
    | none => none) _ = _
  cases ev O e ρ ω <;> rfl
@[simp ↓] theorem ok_oset {j i : Nat} {e : IE} : OkS O W (.oset j i e) ρ ω N T = Ok (ev O e ρ ω) fun p => j < p.2.length ∧ App (ρ.set i none) fun r => App (p.2.set j (some p.1)) fun w => N r w := by
  show Ok (match ev O e ρ ω with
    | some (d, ω1) => if j < ω1.length then some (Fl.nx (ρ.set i none) (ω1.set j (some d))) else none
    | none => none) _ = _
  cases ev O e ρ ω with
  | none => rfl
  | some p => exact Ok_ite
@[simp ↓] theorem ok_unp {is : List Nat} {e : IE} : OkS O W (.unp is e) ρ ω N T = Ok (ev O e ρ ω) fun p => Ok (bindT (.many is) p.1 ρ) fun ρ1 => N ρ1 p.2 := by
  show Ok (match ev O e ρ ω with
    | some (d, ω1) => (bindT (.many is) d ρ).map fun ρ1 => Fl.nx ρ1 ω1
    | none => none) _ = _
  cases ev O e ρ ω with
  | none => rfl
  | some p => exact Ok_map
@[simp ↓] theorem ok_par {is : List Nat} {es : IEs} : OkS O W (.par is es) ρ ω N T = Ok (evs O es ρ ω) fun p => p.1.length = is.length ∧ App (setsE ρ is p.1) fun r => N r p.2 := by
  show Ok (match evs O es ρ ω with
    | some (ds, ω1) => if ds.length = is.length then some (Fl.nx (setsE ρ is ds) ω1) else none
    | none => none) _ = _
  cases evs O es ρ ω with
  | none => rfl
  | some p => exact Ok_ite
@[simp ↓] theorem Ok_bind {α β : Type} {o : Option α} {f : α → Option β} {P : β → Prop} : Ok (o.bind f) P = Ok o fun a => Ok (f a) P := by cases o <;> rfl
@[simp ↓] theorem ok_seti {p : IPt} {i v : IE} : OkS O W (.seti p i v) ρ ω N T = Ok (ev O v ρ ω) fun x => Ok (evPt O p ρ x.2) fun y => Ok (ev O i ρ y.2) fun q => Ok (setD y.1.2 q.1 x.1) fun d1 => Ok (putO q.2 p.root y.1.1 d1) fun ω4 => N ρ ω4 := by
  show Ok (match ev O v ρ ω with
    | none => none
    | some (x, ω1) => match evPt O p ρ ω1 with
      | none => none
      | some ((ss, d), ω2) => match ev O i ρ ω2 with
        | none => none
        | some (q, ω3) => (setD d q x).bind fun d1 => (putO ω3 p.root ss d1).map fun ω4 => Fl.nx ρ ω4) _ = _
  cases ev O v ρ ω with
  | none => rfl
  | some x =>
    obtain ⟨x, ω1⟩ := x
    simp only [Ok_some]
    cases evPt O p ρ ω1 with
    | none => rfl
    | some y =>
      obtain ⟨⟨ss, d⟩, ω2⟩ := y
      simp only [Ok_some]
      cases ev O i ρ ω2 with
      | none => rfl
      | some q =>
        obtain ⟨q, ω3⟩ := q
        simp only [Ok_some, Ok_bind, Ok_map, flK_nx]
@[simp ↓] theorem ok_setf {p : IPt} {C f : Str} {v : IE} : OkS O W (.setf p C f v) ρ ω N T = Ok (ev O v ρ ω) fun x => Ok (evPt O p ρ x.2) fun y => Ok (setFD C f y.1.2 x.1) fun d1 => Ok (putO y.2 p.root y.1.1 d1) fun ω4 => N ρ ω4 := by
  show Ok (match ev O v ρ ω with
    | none => none
    | some (x, ω1) => match evPt O p ρ ω1 with
      | none => none
      | some ((ss, d), ω2) => (setFD C f d x).bind fun d1 => (putO ω2 p.root ss d1).map fun ω4 => Fl.nx ρ ω4) _ = _
  cases ev O v ρ ω with
  | none => rfl
  | some x =>
    obtain ⟨x, ω1⟩ := x
    simp only [Ok_some]
    cases evPt O p ρ ω1 with
    | none => rfl
    | some y =>
      obtain ⟨⟨ss, d⟩, ω2⟩ := y
      simp only [Ok_some, Ok_bind, Ok_map, flK_nx]
@[simp ↓] theorem ok_app {p : IPt} {v : IE} : OkS O W (.app p v) ρ ω N T = Ok (evPt O p ρ ω) fun y => Ok (ev O v ρ y.2) fun x => Ok (appD y.1.2 x.1) fun d1 => Ok (putO x.2 p.root y.1.1 d1) fun ω4 => N ρ ω4 := by
  show Ok (match evPt O p ρ ω with
    | none => none
    | some ((ss, d), ω1) => match ev O v ρ ω1 with
      | none => none
      | some (x, ω2) => (appD d x).bind fun d1 => (putO ω2 p.root ss d1).map fun ω4 => Fl.nx ρ ω4) _ = _
  cases evPt O p ρ ω with
  | none => rfl
  | some y =>
    obtain ⟨⟨ss, d⟩, ω1⟩ := y
    simp only [Ok_some]
    cases ev O v ρ ω1 with
    | none => rfl
    | some x =>
      obtain ⟨x, ω2⟩ := x
      simp only [Ok_some, Ok_bind, Ok_map, flK_nx]
@[simp ↓] theorem ok_aug {i : Nat} {op : BOp} {e : IE} : OkS O W (.aug i op e) ρ ω N T = Ok (omAt ρ i) fun x => Ok (ev O e ρ ω) fun y => Ok (daug op x y.1) fun z => App (ρ.set i (some z)) fun r => N r y.2 := by
  show Ok (match omAt ρ i, ev O e ρ ω with
    | some x, some (y, ω1) => (daug op x y).map fun z => Fl.nx (ρ.set i (some z)) ω1
    | _, _ => none) _ = _
  cases omAt ρ i with
  | none => cases ev O e ρ ω <;> rfl
  | some x =>
    cases ev O e ρ ω with
    | none => rfl
    | some y => simp only [Ok_some, Ok_map, flK_nx, App_def]
@[simp ↓] theorem ok_ex {e : IE} : OkS O W (.ex e) ρ ω N T = Ok (ev O e ρ ω) fun p => N ρ p.2 := by
  show Ok (match ev O e ρ ω with
    | some (_, ω1) => some (Fl.nx ρ ω1)
    | none => none) _ = _
  cases ev O e ρ ω <;> rfl
@[simp ↓] theorem ok_rets {e : IE} : OkS O W (.ret e) ρ ω N T = Ok (ev O e ρ ω) fun p => T p.1 p.2 := by
  show Ok (match ev O e ρ ω with
    | some (d, ω1) => some (Fl.rt d ω1)
    | none => none) _ = _
  cases ev O e ρ ω <;> rfl
@[simp ↓] theorem ok_retn : OkS O W .retn ρ ω N T = T .non ω := rfl
@[simp ↓] theorem ok_iff {c : IE} {a b : ISs} : OkS O W (.iff c a b) ρ ω N T = Ok (ev O c ρ ω) fun p => isB p.1 fun k => if k = true then OkSs O W a ρ p.2 N T else OkSs O W b ρ p.2 N T := by
  show Ok (match evB (ev O c ρ ω) with
    | some (true, ω1) => exs O W a ρ ω1
    | some (false, ω1) => exs O W b ρ ω1
    | none => none) _ = _
  cases ev O c ρ ω with
  | none => rfl
  | some p =>
    obtain ⟨d, ω1⟩ := p
    cases d with
    | bl k => cases k <;> rfl
    | _ => rfl
def turnF (O : Orc) (W : Nat) (t : ITg) (b : ISs) : D → Env → Om → Option Fl := fun d ρ1 ω2 => match bindT t d ρ1 with
  | none => none
  | some ρ2 => exs O W b ρ2 ω2
@[simp ↓] theorem ok_for {t : ITg} {s : ISrc} {b : ISs} : OkS O W (.forr t s b) ρ ω N T = Ok (esrc O s ρ ω) fun p => Ok (floop (turnF O W t b) p.1 ρ p.2) fun r => flK r N T := by
  show Ok (match esrc O s ρ ω with
    | some (its, ω1) => floop (turnF O W t b) its ρ ω1
    | none => none) _ = _
  cases esrc O s ρ ω <;> rfl
@[simp ↓] theorem ok_turnF {t : ITg} {b : ISs} {d : D} : (Ok (turnF O W t b d ρ ω) fun r => flK r N T) = Ok (bindT t d ρ) fun ρ2 => OkSs O W b ρ2 ω N T := by
  unfold turnF
  cases bindT t d ρ <;> rfl
@[simp ↓] theorem ok_pass : OkS O W .pass ρ ω N T = N ρ ω := rfl
@[simp ↓] theorem ok_rse : OkS O W .rse ρ ω N T = False := rfl
@[simp ↓] theorem ok_frz {j i : Nat} : OkS O W (.frz j i) ρ ω N T = Ok (omAt ω j) fun d => App (ρ.set i (some d)) fun r => App (ω.set j none) fun w => N r w := by
  show Ok (match omAt ω j with
    | some d => some (Fl.nx (ρ.set i (some d)) (ω.set j none))
    | none => none) _ = _
  cases omAt ω j <;> rfl
/-- a for loop by an invariant: I: how many items are done -/
theorem floop_inv {α : Type} {f : D → Env → Om → Option Fl} {enc : α → D} {N : Env → Om → Prop} {T : D → Om → Prop} : ∀ {xs : List α} {ρ : Env} {ω : Om} (I : List α → Env → Om → Prop), I xs ρ ω →
    (∀ x r ρ ω, I (x :: r) ρ ω → Ok (f (enc x) ρ ω) fun q => flK q (I r) T) → (∀ ρ ω, I [] ρ ω → N ρ ω) → Ok (floop f (xs.map enc) ρ ω) fun r => flK r N T
  | [], ρ, ω, I, h0, _, hd => hd ρ ω h0
  | x :: xs, ρ, ω, I, h0, hs, hd => by
    show Ok (fth (f (enc x) ρ ω) _) _
    rw [ok_fth]
    refine (hs x xs ρ ω h0).mono fun q h => ?_
    cases q with
    | nx ρ1 ω1 => exact floop_inv I h hs hd
    | rt d ω1 => exact h
end
/-! ### what defs do -/
/-- the text has this def -/
def Has (l : Lw) (c : Cd) : Prop := ∃ kd nm q st, l.at_ c.key = some (kd, c.fd nm q st)
/-! ### lists of variables, by structure -/
section
variable {x v : Option D} {r : List (Option D)} {i n : Nat} {is : List Nat} {d : D} {ds : List D} {K : List (Option D) → Prop} {ω : Om} {as : List AV} {F : D → Prop}
@[simp ↓] theorem app_set0 : App (List.set (x :: r) 0 v) K = K (v :: r) := rfl
@[simp ↓] theorem app_setS : App (List.set (x :: r) (n + 1) v) K = App (List.set r n v) fun r' => K (x :: r') := rfl
@[simp ↓] theorem app_setN : App (List.set [] n v) K = K [] := rfl
@[simp ↓] theorem app_wr0 {outs : List D} : App (wr ω (iosOf []) outs) K = K ω := rfl
@[simp ↓] theorem app_wrF {outs : List D} : App (wr ω (iosOf (.fz d :: as)) outs) K = App (wr ω (iosOf as) outs) K := rfl
@[simp ↓] theorem app_wrI : App (wr ω (iosOf (.io i :: as)) (d :: ds)) K = App (List.set ω i (some d)) fun w => App (wr w (iosOf as) ds) K := rfl
@[simp ↓] theorem app_wrM : App (wr ω (i :: iosOf as) (d :: ds)) K = App (List.set ω i (some d)) fun w => App (wr w (iosOf as) ds) K := rfl
@[simp ↓] theorem app_sets0 : App (setsE r [] ds) K = K r := rfl
@[simp ↓] theorem app_setsS : App (setsE r (i :: is) (d :: ds)) K = App (List.set r i (some d)) fun w => App (setsE w is ds) K := rfl
@[simp ↓] theorem app_wipe0 : App (wipeE r []) K = K r := rfl
@[simp ↓] theorem app_wipeS : App (wipeE r (i :: is)) K = App (wipeE r is) fun w => App (List.set w i none) K := rfl
section
variable {sr : ISrc} {cs : IEs} {g : IGs}
@[simp ↓] theorem app_wg0 : App (wipeE r (slotsG .nil)) K = K r := rfl
@[simp ↓] theorem app_wg1 : App (wipeE r (slotsG (.cons (.one i) sr cs g))) K = App (wipeE r (slotsG g)) fun w => App (List.set w i none) K := rfl
@[simp ↓] theorem app_wgm0 : App (wipeE r (slotsG (.cons (.many []) sr cs g))) K = App (wipeE r (slotsG g)) K := rfl
@[simp ↓] theorem app_wgmS : App (wipeE r (slotsG (.cons (.many (i :: is)) sr cs g))) K = App (wipeE r (slotsG (.cons (.many is) sr cs g))) fun w => App (List.set w i none) K := rfl
end
/-- one owned variable, looked at -/
def omK (ω : Om) (n : Nat) (K : Option D → Prop) : Prop := K (omAt ω n)
@[simp ↓] theorem omK_z {K : Option D → Prop} : omK (x :: r) 0 K = K x := by unfold omK; cases x <;> rfl
@[simp ↓] theorem omK_s {K : Option D → Prop} : omK (x :: r) (n + 1) K = omK r n K := rfl
@[simp ↓] theorem omK_n {K : Option D → Prop} : omK [] n K = K none := by unfold omK omAt; simp
def vwK (o : Option D) (r : Env) (i : Nat) (K : Env → Prop) : Prop := match o with
  | some d => App (List.set r i (some d)) K
  | none => K r
@[simp ↓] theorem vwK_s {K : Env → Prop} : vwK (some d) r i K = App (List.set r i (some d)) K := rfl
@[simp ↓] theorem vwK_n {K : Env → Prop} : vwK none r i K = K r := rfl
@[simp ↓] theorem app_view0 : App (viewE r ω [] n) K = K r := rfl
@[simp ↓] theorem app_viewS : App (viewE r ω (i :: is) n) K = omK ω n fun o => App (viewE r ω is (n + 1)) fun w => vwK o w i K := by
  show K (match omAt ω n with
    | some d => (viewE r ω is (n + 1)).set i (some d)
    | none => viewE r ω is (n + 1)) = vwK (omAt ω n) (viewE r ω is (n + 1)) i K
  cases omAt ω n <;> rfl
@[simp ↓] theorem om_z : Ok (omAt (some d :: r) 0) F = F d := rfl
@[simp ↓] theorem om_s : Ok (omAt (x :: r) (n + 1)) F = Ok (omAt r n) F := rfl
@[simp ↓] theorem bind_one {K : Env → Prop} : Ok (bindT (.one i) d r) K = App (List.set r i (some d)) K := rfl
@[simp ↓] theorem bind_many {K : Env → Prop} : Ok (bindT (.many is) (.tup ds) r) K = (ds.length = is.length ∧ App (setsE r is ds) K) := by
  show Ok (if ds.length = is.length then some (setsE r is ds) else none) K = _
  exact Ok_ite
@[simp ↓] theorem args0 {K : List D → Prop} : Ok (argsOf ω []) K = K [] := rfl
@[simp ↓] theorem argsF {K : List D → Prop} : Ok (argsOf ω (.fz d :: as)) K = Ok (argsOf ω as) fun l => K (d :: l) := by
  show Ok ((argsOf ω as).map (d :: ·)) K = _
  rw [Ok_map]
@[simp ↓] theorem argsI {K : List D → Prop} : Ok (argsOf ω (.io i :: as)) K = Ok (omAt ω i) fun d => Ok (argsOf ω as) fun l => K (d :: l) := by
  show Ok (match omAt ω i with | some d => (argsOf ω as).map (d :: ·) | none => none) K = _
  cases omAt ω i with
  | none => rfl
  | some d => exact Ok_map
end
def outK (n : Nat) (ω : Om) (K : List D → Prop) : Prop := Ok (oall ((List.range n).map (omAt ω))) K
@[simp ↓] theorem outK0 {ω : Om} {K : List D → Prop} : outK 0 ω K = K [] := rfl
@[simp ↓] theorem outK1 {ω : Om} {K : List D → Prop} : outK 1 ω K = Ok (omAt ω 0) fun d => K [d] := by
  show Ok (oall [omAt ω 0]) K = _
  cases omAt ω 0 with
  | none => rfl
  | some d => rfl
@[simp ↓] theorem outK2 {ω : Om} {K : List D → Prop} : outK 2 ω K = Ok (omAt ω 0) fun d => Ok (omAt ω 1) fun e => K [d, e] := by
  show Ok (oall [omAt ω 0, omAt ω 1]) K = _
  cases omAt ω 0 with
  | none => rfl
  | some d =>
    cases omAt ω 1 with
    | none => rfl
    | some e => rfl
theorem orc_ok {l : Lw} {c : Cd} (h : Has l c) {n : Nat} (hn : 0 < n) {ds : List D} {P : D × List D → Prop} (hl : ds.length = c.ks.length)
    {ρ : Env} {ω0 : Om} {cd : ISs} (hc : c.code = cd) (h1 : padN (fzE c.ks ds) c.N.length = ρ) (h2 : padN (ioE c.ks ds) c.os.length = ω0) (k : OkSs (l.orc (n - 1)) l.W cd ρ ω0 (fun _ ω => outK (ioSl c.ks 0).length ω fun os => P (.non, os)) (fun d ω => outK (ioSl c.ks 0).length ω fun os => P (d, os))) : Ok (l.orc n c.key ds) P := by
  subst hc h1 h2
  obtain ⟨kd, nm, q, st, e⟩ := h
  obtain ⟨m, rfl⟩ : ∃ m, n = m + 1 := ⟨n - 1, by omega⟩
  show Ok (match l.at_ c.key with
    | some y => runF (l.orc m) l.W y.2 ds
    | none => none) P
  rw [e]
  show Ok (runF (l.orc m) l.W (c.fd nm q st) ds) P
  unfold runF
  rw [if_pos (show ds.length = (c.fd nm q st).ks.length from hl)]
  show Ok (outF (ioSl c.ks 0).length (exs (l.orc m) l.W c.code (padN (fzE c.ks ds) c.N.length) (padN (ioE c.ks ds) c.os.length))) P
  rw [Nat.add_sub_cancel] at k
  cases hr : exs (l.orc m) l.W c.code (padN (fzE c.ks ds) c.N.length) (padN (ioE c.ks ds) c.os.length) with
  | none => rw [OkSs, hr] at k; exact k.elim
  | some r =>
    rw [OkSs, hr] at k
    cases r with
    | nx ρ ω =>
      show Ok ((oall _).map _) P
      rw [Ok_map]
      exact k
    | rt d ω =>
      show Ok ((oall _).map _) P
      rw [Ok_map]
      exact k
end Rf
end

section
set_option Elab.async false
set_option linter.all false
set_option maxRecDepth 100000
/-! The defs as data (printed by gen.py). -/
namespace Rf
open PySem
def k_is_number : ISs := (.cons (.ret (.and (.prm (.isTy "int") (.cons (.var 0) .nil)) (.and (.not (.prm (.isTy "bool") (.cons (.var 0) .nil))) (.chn .le .le (.var 1) (.var 0) (.var 2))))) .nil)
def c_is_number : Cd := ⟨.fn "is_number", ["value", "low", "high"], ["value", "low", "high"], [none, none, none], [], false, k_is_number⟩
theorem op_is_number {l : Lw} (h : Has l c_is_number) {n : Nat} (hn : 0 < n) {a0 a1 a2 : D} {P : D × List D → Prop} (k : OkSs (l.orc (n - 1)) l.W k_is_number [some a0, some a1, some a2] [] (fun _ ω => outK 0 ω fun os => P (.non, os)) (fun d ω => outK 0 ω fun os => P (d, os))) : Ok (l.orc n (.fn "is_number") [a0, a1, a2]) P := orc_ok (c := c_is_number) h hn rfl rfl rfl rfl k
def k_check : ISs := (.cons (.iff (.not (.var 0)) (.cons .rse .nil) .nil) .nil)
def c_check : Cd := ⟨.fn "check", ["is_right", "name"], ["is_right", "name"], [none, none], [], false, k_check⟩
theorem op_check {l : Lw} (h : Has l c_check) {n : Nat} (hn : 0 < n) {a0 a1 : D} {P : D × List D → Prop} (k : OkSs (l.orc (n - 1)) l.W k_check [some a0, some a1] [] (fun _ ω => outK 0 ω fun os => P (.non, os)) (fun d ω => outK 0 ω fun os => P (d, os))) : Ok (l.orc n (.fn "check") [a0, a1]) P := orc_ok (c := c_check) h hn rfl rfl rfl rfl k
def k_are_rising : ISs := (.cons (.ret (.qal (.cmp .lt (.var 1) (.var 2)) (.cons (.many [1, 2]) (.zip2 (.var 0) (.slc (.var 0) (.yes (.cst (.int 1))) .no)) .nil .nil))) .nil)
def c_are_rising : Cd := ⟨.fn "are_rising", ["rows", "one", "other"], ["rows"], [none], [], true, k_are_rising⟩
theorem op_are_rising {l : Lw} (h : Has l c_are_rising) {n : Nat} (hn : 0 < n) {a0 : D} {P : D × List D → Prop} (k : OkSs (l.orc (n - 1)) l.W k_are_rising [some a0, none, none] [] (fun _ ω => outK 0 ω fun os => P (.non, os)) (fun d ω => outK 0 ω fun os => P (d, os))) : Ok (l.orc n (.fn "are_rising") [a0]) P := orc_ok (c := c_are_rising) h hn rfl rfl rfl rfl k
def k_is_name : ISs := (.cons (.iff (.or (.not (.prm (.isTy "str") (.cons (.var 0) .nil))) (.or (.not (.chn .le .le (.cst (.int 1)) (.prm .len (.cons (.var 0) .nil)) (.glb "MOST_SIGNS" (.int 6)))) (.cmp .nin (.idx (.var 0) (.cst (.int 0))) (.glb "LETTERS" (.str "abcdefghijklmnopqrstuvwxyz"))))) (.cons (.ret (.cst (.bl false))) .nil) .nil) (.cons (.ret (.qal (.or (.cmp .in_ (.var 1) (.glb "LETTERS" (.str "abcdefghijklmnopqrstuvwxyz"))) (.cmp .in_ (.var 1) (.glb "DIGITS" (.str "0123456789")))) (.cons (.one 1) (.val (.var 0)) .nil .nil))) .nil))
def c_is_name : Cd := ⟨.fn "is_name", ["value", "sign"], ["value"], [none], [], true, k_is_name⟩
theorem op_is_name {l : Lw} (h : Has l c_is_name) {n : Nat} (hn : 0 < n) {a0 : D} {P : D × List D → Prop} (k : OkSs (l.orc (n - 1)) l.W k_is_name [some a0, none] [] (fun _ ω => outK 0 ω fun os => P (.non, os)) (fun d ω => outK 0 ω fun os => P (d, os))) : Ok (l.orc n (.fn "is_name") [a0]) P := orc_ok (c := c_is_name) h hn rfl rfl rfl rfl k
def k_are_names : ISs := (.cons (.ret (.and (.prm (.isTy "tuple") (.cons (.var 0) .nil)) (.qal (.and (.prm (.isTy "str") (.cons (.var 2) .nil)) (.cmp .in_ (.var 2) (.var 1))) (.cons (.one 2) (.val (.var 0)) .nil .nil)))) .nil)
def c_are_names : Cd := ⟨.fn "are_names", ["value", "names", "own"], ["value", "names"], [none, none], [], true, k_are_names⟩
theorem op_are_names {l : Lw} (h : Has l c_are_names) {n : Nat} (hn : 0 < n) {a0 a1 : D} {P : D × List D → Prop} (k : OkSs (l.orc (n - 1)) l.W k_are_names [some a0, some a1, none] [] (fun _ ω => outK 0 ω fun os => P (.non, os)) (fun d ω => outK 0 ω fun os => P (d, os))) : Ok (l.orc n (.fn "are_names") [a0, a1]) P := orc_ok (c := c_are_names) h hn rfl rfl rfl rfl k
def k_is_pattern : ISs := (.cons (.iff (.or (.not (.prm (.isTy "tuple") (.cons (.var 0) .nil))) (.or (.cmp .ne (.prm .len (.cons (.var 0) .nil)) (.cst (.int 3))) (.not (.call "are_names" (.fz (.idx (.var 0) (.cst (.int 0))) (.fz (.var 1) .nil)))))) (.cons (.ret (.cst (.bl false))) .nil) .nil) (.cons (.iff (.or (.cmp .gt (.prm .len (.cons (.idx (.var 0) (.cst (.int 0))) .nil)) (.glb "MOST_PARAMETERS" (.int 4))) (.not (.call "is_number" (.fz (.idx (.var 0) (.cst (.int 1))) (.fz (.cst (.int 0)) (.fz (.prm .len (.cons (.idx (.var 0) (.cst (.int 0))) .nil)) .nil)))))) (.cons (.ret (.cst (.bl false))) .nil) .nil) (.cons (.ret (.and (.prm (.isTy "str") (.cons (.idx (.var 0) (.cst (.int 2))) .nil)) (.or (.cmp .eq (.idx (.var 0) (.cst (.int 2))) (.glb "NO_REST" (.str ""))) (.cmp .in_ (.idx (.var 0) (.cst (.int 2))) (.var 1))))) .nil)))
def c_is_pattern : Cd := ⟨.fn "is_pattern", ["value", "names"], ["value", "names"], [none, none], [], false, k_is_pattern⟩
theorem op_is_pattern {l : Lw} (h : Has l c_is_pattern) {n : Nat} (hn : 0 < n) {a0 a1 : D} {P : D × List D → Prop} (k : OkSs (l.orc (n - 1)) l.W k_is_pattern [some a0, some a1] [] (fun _ ω => outK 0 ω fun os => P (.non, os)) (fun d ω => outK 0 ω fun os => P (d, os))) : Ok (l.orc n (.fn "is_pattern") [a0, a1]) P := orc_ok (c := c_is_pattern) h hn rfl rfl rfl rfl k
def k_is_body : ISs := (.cons (.iff (.or (.not (.prm (.isTy "tuple") (.cons (.var 0) .nil))) (.or (.cmp .ne (.prm .len (.cons (.var 0) .nil)) (.cst (.int 5))) (.not (.call "is_name" (.fz (.idx (.var 0) (.cst (.int 0))) .nil))))) (.cons (.ret (.cst (.bl false))) .nil) .nil) (.cons (.ret (.and (.call "is_pattern" (.fz (.slc (.var 0) (.yes (.cst (.int 1))) (.yes (.cst (.int 4)))) (.fz (.var 1) .nil))) (.call "are_names" (.fz (.slc (.var 0) (.yes (.cst (.int 4))) .no) (.fz (.var 1) .nil))))) .nil))
def c_is_body : Cd := ⟨.fn "is_body", ["value", "names"], ["value", "names"], [none, none], [], false, k_is_body⟩
theorem op_is_body {l : Lw} (h : Has l c_is_body) {n : Nat} (hn : 0 < n) {a0 a1 : D} {P : D × List D → Prop} (k : OkSs (l.orc (n - 1)) l.W k_is_body [some a0, some a1] [] (fun _ ω => outK 0 ω fun os => P (.non, os)) (fun d ω => outK 0 ω fun os => P (d, os))) : Ok (l.orc n (.fn "is_body") [a0, a1]) P := orc_ok (c := c_is_body) h hn rfl rfl rfl rfl k
def k_parameter_at : ISs := (.cons (.unp [2, 3, 4] (.var 0)) (.cons (.ret (.ife (.cmp .lt (.var 1) (.prm .len (.cons (.var 2) .nil))) (.idx (.var 2) (.var 1)) (.var 4))) .nil))
def c_parameter_at : Cd := ⟨.fn "parameter_at", ["pattern", "place", "params", "must", "rest"], ["pattern", "place"], [none, none], [], false, k_parameter_at⟩
theorem op_parameter_at {l : Lw} (h : Has l c_parameter_at) {n : Nat} (hn : 0 < n) {a0 a1 : D} {P : D × List D → Prop} (k : OkSs (l.orc (n - 1)) l.W k_parameter_at [some a0, some a1, none, none, none] [] (fun _ ω => outK 0 ω fun os => P (.non, os)) (fun d ω => outK 0 ω fun os => P (d, os))) : Ok (l.orc n (.fn "parameter_at") [a0, a1]) P := orc_ok (c := c_parameter_at) h hn rfl rfl rfl rfl k
def k_can_end : ISs := (.cons (.unp [2, 3, 4] (.var 0)) (.cons (.ret (.and (.cmp .ge (.var 1) (.var 3)) (.or (.cmp .le (.var 1) (.prm .len (.cons (.var 2) .nil))) (.cmp .ne (.var 4) (.glb "NO_REST" (.str "")))))) .nil))
def c_can_end : Cd := ⟨.fn "can_end", ["pattern", "many", "params", "must", "rest"], ["pattern", "many"], [none, none], [], false, k_can_end⟩
theorem op_can_end {l : Lw} (h : Has l c_can_end) {n : Nat} (hn : 0 < n) {a0 a1 : D} {P : D × List D → Prop} (k : OkSs (l.orc (n - 1)) l.W k_can_end [some a0, some a1, none, none, none] [] (fun _ ω => outK 0 ω fun os => P (.non, os)) (fun d ω => outK 0 ω fun os => P (d, os))) : Ok (l.orc n (.fn "can_end") [a0, a1]) P := orc_ok (c := c_can_end) h hn rfl rfl rfl rfl k
def k_Order_u__init_u : ISs := (.cons (.setf (.var 0) "Order" "_names" (.var 1)) (.cons (.setf (.var 0) "Order" "_above" (.dc false (.var 4) (.dd false (.cons (.var 4) (.cst (.bl true)) .nil)) (.cons (.one 4) (.val (.var 1)) .nil .nil))) (.cons (.forr (.one 3) (.val (.var 1)) (.cons (.forr (.many [5, 6]) (.val (.var 2)) (.cons (.forr (.one 4) (.val (.var 1)) (.cons (.iff (.view [0] (.cmp .in_ (.var 5) (.idx (.fld "Order" (.var 0) "_above") (.var 4)))) (.cons (.seti (.idx (.fld (.var 0) "Order" "_above") (.var 4)) (.var 6) (.cst (.bl true))) .nil) .nil) .nil)) .nil)) .nil)) .nil)))
def c_Order_u__init_u : Cd := ⟨.mt "Order" "__init__", ["self", "names", "pairs", "turn", "name", "low", "high"], ["self", "names", "pairs"], [some (.i [("_above", .d (.d .z))]), none, none], [(0, .i [("_above", .d (.d .z))])], false, k_Order_u__init_u⟩
theorem op_Order_u__init_u {l : Lw} (h : Has l c_Order_u__init_u) {n : Nat} (hn : 0 < n) {a0 a1 a2 : D} {P : D × List D → Prop} (k : OkSs (l.orc (n - 1)) l.W k_Order_u__init_u [none, some a1, some a2, none, none, none, none] [some a0] (fun _ ω => outK 1 ω fun os => P (.non, os)) (fun d ω => outK 1 ω fun os => P (d, os))) : Ok (l.orc n (.mt "Order" "__init__") [a0, a1, a2]) P := orc_ok (c := c_Order_u__init_u) h hn rfl rfl rfl rfl k
def k_Order_is_below : ISs := (.cons (.ret (.cmp .in_ (.var 2) (.idx (.fld "Order" (.var 0) "_above") (.var 1)))) .nil)
def c_Order_is_below : Cd := ⟨.mt "Order" "is_below", ["self", "one", "other"], ["self", "one", "other"], [none, none, none], [], false, k_Order_is_below⟩
theorem op_Order_is_below {l : Lw} (h : Has l c_Order_is_below) {n : Nat} (hn : 0 < n) {a0 a1 a2 : D} {P : D × List D → Prop} (k : OkSs (l.orc (n - 1)) l.W k_Order_is_below [some a0, some a1, some a2] [] (fun _ ω => outK 0 ω fun os => P (.non, os)) (fun d ω => outK 0 ω fun os => P (d, os))) : Ok (l.orc n (.mt "Order" "is_below") [a0, a1, a2]) P := orc_ok (c := c_Order_is_below) h hn rfl rfl rfl rfl k
def k_is_pair : ISs := (.cons (.iff (.or (.not (.prm (.isTy "tuple") (.cons (.var 0) .nil))) (.or (.cmp .ne (.prm .len (.cons (.var 0) .nil)) (.cst (.int 2))) (.not (.qal (.prm (.isTy "str") (.cons (.var 2) .nil)) (.cons (.one 2) (.val (.var 0)) .nil .nil))))) (.cons (.ret (.cst (.bl false))) .nil) .nil) (.cons (.ret (.and (.cmp .in_ (.idx (.var 0) (.cst (.int 0))) (.var 1)) (.and (.cmp .in_ (.idx (.var 0) (.cst (.int 1))) (.var 1)) (.cmp .ne (.idx (.var 0) (.cst (.int 0))) (.idx (.var 0) (.cst (.int 1))))))) .nil))
def c_is_pair : Cd := ⟨.fn "is_pair", ["value", "names", "own"], ["value", "names"], [none, none], [], true, k_is_pair⟩
theorem op_is_pair {l : Lw} (h : Has l c_is_pair) {n : Nat} (hn : 0 < n) {a0 a1 : D} {P : D × List D → Prop} (k : OkSs (l.orc (n - 1)) l.W k_is_pair [some a0, some a1, none] [] (fun _ ω => outK 0 ω fun os => P (.non, os)) (fun d ω => outK 0 ω fun os => P (d, os))) : Ok (l.orc n (.fn "is_pair") [a0, a1]) P := orc_ok (c := c_is_pair) h hn rfl rfl rfl rfl k
def k_are_pairs : ISs := (.cons (.iff (.or (.not (.prm (.isTy "tuple") (.cons (.var 0) .nil))) (.cmp .gt (.prm .len (.cons (.var 0) .nil)) (.var 2))) (.cons (.ret (.cst (.bl false))) .nil) .nil) (.cons (.ret (.and (.qal (.call "is_pair" (.fz (.var 3) (.fz (.var 1) .nil))) (.cons (.one 3) (.val (.var 0)) .nil .nil)) (.call "are_rising" (.fz (.var 0) .nil)))) .nil))
def c_are_pairs : Cd := ⟨.fn "are_pairs", ["value", "names", "most", "own"], ["value", "names", "most"], [none, none, none], [], true, k_are_pairs⟩
theorem op_are_pairs {l : Lw} (h : Has l c_are_pairs) {n : Nat} (hn : 0 < n) {a0 a1 a2 : D} {P : D × List D → Prop} (k : OkSs (l.orc (n - 1)) l.W k_are_pairs [some a0, some a1, some a2, none] [] (fun _ ω => outK 0 ω fun os => P (.non, os)) (fun d ω => outK 0 ω fun os => P (d, os))) : Ok (l.orc n (.fn "are_pairs") [a0, a1, a2]) P := orc_ok (c := c_are_pairs) h hn rfl rfl rfl rfl k
def k_are_kinds : ISs := (.cons (.iff (.or (.not (.prm (.isTy "tuple") (.cons (.var 0) .nil))) (.not (.chn .le .le (.cst (.int 1)) (.prm .len (.cons (.var 0) .nil)) (.glb "MOST_KINDS" (.int 6))))) (.cons (.ret (.cst (.bl false))) .nil) .nil) (.cons (.ret (.and (.qal (.call "is_name" (.fz (.var 1) .nil)) (.cons (.one 1) (.val (.var 0)) .nil .nil)) (.call "are_rising" (.fz (.var 0) .nil)))) .nil))
def c_are_kinds : Cd := ⟨.fn "are_kinds", ["value", "own"], ["value"], [none], [], true, k_are_kinds⟩
theorem op_are_kinds {l : Lw} (h : Has l c_are_kinds) {n : Nat} (hn : 0 < n) {a0 : D} {P : D × List D → Prop} (k : OkSs (l.orc (n - 1)) l.W k_are_kinds [some a0, none] [] (fun _ ω => outK 0 ω fun os => P (.non, os)) (fun d ω => outK 0 ω fun os => P (d, os))) : Ok (l.orc n (.fn "are_kinds") [a0]) P := orc_ok (c := c_are_kinds) h hn rfl rfl rfl rfl k
def k_has_no_ring : ISs := (.cons (.set 2 (.mk "Order" (.fz (.var 0) (.fz (.var 1) .nil)))) (.cons (.ret (.qal (.not (.mth "Order" (.var 2) "is_below" (.fz (.var 4) (.fz (.var 3) .nil)))) (.cons (.many [3, 4]) (.val (.var 1)) .nil .nil))) .nil))
def c_has_no_ring : Cd := ⟨.fn "has_no_ring", ["names", "pairs", "order", "low", "high"], ["names", "pairs"], [none, none], [], true, k_has_no_ring⟩
theorem op_has_no_ring {l : Lw} (h : Has l c_has_no_ring) {n : Nat} (hn : 0 < n) {a0 a1 : D} {P : D × List D → Prop} (k : OkSs (l.orc (n - 1)) l.W k_has_no_ring [some a0, some a1, none, none, none] [] (fun _ ω => outK 0 ω fun os => P (.non, os)) (fun d ω => outK 0 ω fun os => P (d, os))) : Ok (l.orc n (.fn "has_no_ring") [a0, a1]) P := orc_ok (c := c_has_no_ring) h hn rfl rfl rfl rfl k
def k_World_u__init_u : ISs := (.cons (.ex (.call "check" (.fz (.call "are_kinds" (.fz (.var 1) .nil)) (.fz (.cst (.str "kinds")) .nil)))) (.cons (.ex (.call "check" (.fz (.and (.call "are_pairs" (.fz (.var 2) (.fz (.var 1) (.fz (.glb "MOST_UPPERS" (.int 12)) .nil)))) (.call "has_no_ring" (.fz (.var 1) (.fz (.var 2) .nil)))) (.fz (.cst (.str "uppers")) .nil)))) (.cons (.ex (.call "check" (.fz (.call "are_pairs" (.fz (.var 3) (.fz (.var 1) (.fz (.glb "MOST_CONVERSIONS" (.int 6)) .nil)))) (.fz (.cst (.str "conversions")) .nil)))) (.cons (.ex (.call "check" (.fz (.call "are_bodies" (.fz (.var 4) (.fz (.var 1) .nil))) (.fz (.cst (.str "bodies")) .nil)))) (.cons (.setf (.var 0) "World" "_kinds" (.var 1)) (.cons (.setf (.var 0) "World" "_uppers" (.var 2)) (.cons (.setf (.var 0) "World" "_conversions" (.var 3)) (.cons (.setf (.var 0) "World" "_bodies" (.var 4)) (.cons (.setf (.var 0) "World" "_order" (.mk "Order" (.fz (.var 1) (.fz (.var 2) .nil)))) (.cons (.setf (.var 0) "World" "_ranks" (.dd true .nil)) (.cons (.forr (.one 5) (.val (.var 1)) (.cons (.forr (.one 6) (.val (.var 1)) (.cons (.seti (.fld (.var 0) "World" "_ranks") (.tup (.cons (.var 5) (.cons (.var 6) .nil))) (.mtho 0 "World" "_rank_found" (.fz (.var 5) (.fz (.var 6) .nil)))) .nil)) .nil)) .nil)))))))))))
def c_World_u__init_u : Cd := ⟨.mt "World" "__init__", ["self", "kinds", "uppers", "conversions", "bodies", "name", "other"], ["self", "kinds", "uppers", "conversions", "bodies"], [some (.i [("_ranks", .d .z)]), none, none, none, none], [(0, .i [("_ranks", .d .z)])], false, k_World_u__init_u⟩
theorem op_World_u__init_u {l : Lw} (h : Has l c_World_u__init_u) {n : Nat} (hn : 0 < n) {a0 a1 a2 a3 a4 : D} {P : D × List D → Prop} (k : OkSs (l.orc (n - 1)) l.W k_World_u__init_u [none, some a1, some a2, some a3, some a4, none, none] [some a0] (fun _ ω => outK 1 ω fun os => P (.non, os)) (fun d ω => outK 1 ω fun os => P (d, os))) : Ok (l.orc n (.mt "World" "__init__") [a0, a1, a2, a3, a4]) P := orc_ok (c := c_World_u__init_u) h hn rfl rfl rfl rfl k
def k_World_kinds : ISs := (.cons (.ret (.fld "World" (.var 0) "_kinds")) .nil)
def c_World_kinds : Cd := ⟨.mt "World" "kinds", ["self"], ["self"], [none], [], false, k_World_kinds⟩
theorem op_World_kinds {l : Lw} (h : Has l c_World_kinds) {n : Nat} (hn : 0 < n) {a0 : D} {P : D × List D → Prop} (k : OkSs (l.orc (n - 1)) l.W k_World_kinds [some a0] [] (fun _ ω => outK 0 ω fun os => P (.non, os)) (fun d ω => outK 0 ω fun os => P (d, os))) : Ok (l.orc n (.mt "World" "kinds") [a0]) P := orc_ok (c := c_World_kinds) h hn rfl rfl rfl rfl k
def k_World_bodies : ISs := (.cons (.ret (.fld "World" (.var 0) "_bodies")) .nil)
def c_World_bodies : Cd := ⟨.mt "World" "bodies", ["self"], ["self"], [none], [], false, k_World_bodies⟩
theorem op_World_bodies {l : Lw} (h : Has l c_World_bodies) {n : Nat} (hn : 0 < n) {a0 : D} {P : D × List D → Prop} (k : OkSs (l.orc (n - 1)) l.W k_World_bodies [some a0] [] (fun _ ω => outK 0 ω fun os => P (.non, os)) (fun d ω => outK 0 ω fun os => P (d, os))) : Ok (l.orc n (.mt "World" "bodies") [a0]) P := orc_ok (c := c_World_bodies) h hn rfl rfl rfl rfl k
def k_World_u_rank_found : ISs := (.cons (.iff (.view [0] (.mth "Order" (.fld "World" (.var 0) "_order") "is_below" (.fz (.var 1) (.fz (.var 2) .nil)))) (.cons (.ret (.glb "BELOW" (.int 0))) .nil) .nil) (.cons (.forr (.many [3, 4]) (.val (.view [0] (.fld "World" (.var 0) "_conversions"))) (.cons (.iff (.view [0] (.and (.mth "Order" (.fld "World" (.var 0) "_order") "is_below" (.fz (.var 1) (.fz (.var 3) .nil))) (.mth "Order" (.fld "World" (.var 0) "_order") "is_below" (.fz (.var 4) (.fz (.var 2) .nil))))) (.cons (.ret (.glb "BY_CONVERSION" (.int 1))) .nil) .nil) .nil)) (.cons (.ret (.cst .non)) .nil)))
def c_World_u_rank_found : Cd := ⟨.mt "World" "_rank_found", ["self", "name", "other", "start", "goal"], ["self", "name", "other"], [some (.i [("_ranks", .d .z)]), none, none], [(0, .i [("_ranks", .d .z)])], false, k_World_u_rank_found⟩
theorem op_World_u_rank_found {l : Lw} (h : Has l c_World_u_rank_found) {n : Nat} (hn : 0 < n) {a0 a1 a2 : D} {P : D × List D → Prop} (k : OkSs (l.orc (n - 1)) l.W k_World_u_rank_found [none, some a1, some a2, none, none] [some a0] (fun _ ω => outK 1 ω fun os => P (.non, os)) (fun d ω => outK 1 ω fun os => P (d, os))) : Ok (l.orc n (.mt "World" "_rank_found") [a0, a1, a2]) P := orc_ok (c := c_World_u_rank_found) h hn rfl rfl rfl rfl k
def k_World_rank : ISs := (.cons (.ret (.idx (.fld "World" (.var 0) "_ranks") (.tup (.cons (.var 1) (.cons (.var 2) .nil))))) .nil)
def c_World_rank : Cd := ⟨.mt "World" "rank", ["self", "name", "other"], ["self", "name", "other"], [none, none, none], [], false, k_World_rank⟩
theorem op_World_rank {l : Lw} (h : Has l c_World_rank) {n : Nat} (hn : 0 < n) {a0 a1 a2 : D} {P : D × List D → Prop} (k : OkSs (l.orc (n - 1)) l.W k_World_rank [some a0, some a1, some a2] [] (fun _ ω => outK 0 ω fun os => P (.non, os)) (fun d ω => outK 0 ω fun os => P (d, os))) : Ok (l.orc n (.mt "World" "rank") [a0, a1, a2]) P := orc_ok (c := c_World_rank) h hn rfl rfl rfl rfl k
def k_World_names : ISs := (.cons (.ret (.lc (.idx (.var 1) (.cst (.int 0))) (.cons (.one 1) (.val (.fld "World" (.var 0) "_bodies")) .nil .nil))) .nil)
def c_World_names : Cd := ⟨.mt "World" "names", ["self", "body"], ["self"], [none], [], false, k_World_names⟩
theorem op_World_names {l : Lw} (h : Has l c_World_names) {n : Nat} (hn : 0 < n) {a0 : D} {P : D × List D → Prop} (k : OkSs (l.orc (n - 1)) l.W k_World_names [some a0, none] [] (fun _ ω => outK 0 ω fun os => P (.non, os)) (fun d ω => outK 0 ω fun os => P (d, os))) : Ok (l.orc n (.mt "World" "names") [a0]) P := orc_ok (c := c_World_names) h hn rfl rfl rfl rfl k
def k_World_pattern : ISs := (.cons (.ret (.slc (.idx (.fld "World" (.var 0) "_bodies") (.var 1)) (.yes (.cst (.int 1))) (.yes (.cst (.int 4))))) .nil)
def c_World_pattern : Cd := ⟨.mt "World" "pattern", ["self", "number"], ["self", "number"], [none, none], [], false, k_World_pattern⟩
theorem op_World_pattern {l : Lw} (h : Has l c_World_pattern) {n : Nat} (hn : 0 < n) {a0 a1 : D} {P : D × List D → Prop} (k : OkSs (l.orc (n - 1)) l.W k_World_pattern [some a0, some a1] [] (fun _ ω => outK 0 ω fun os => P (.non, os)) (fun d ω => outK 0 ω fun os => P (d, os))) : Ok (l.orc n (.mt "World" "pattern") [a0, a1]) P := orc_ok (c := c_World_pattern) h hn rfl rfl rfl rfl k
def k_are_bodies : ISs := (.cons (.iff (.or (.not (.prm (.isTy "tuple") (.cons (.var 0) .nil))) (.cmp .gt (.prm .len (.cons (.var 0) .nil)) (.glb "MOST_BODIES" (.int 12)))) (.cons (.ret (.cst (.bl false))) .nil) .nil) (.cons (.ret (.and (.qal (.call "is_body" (.fz (.var 2) (.fz (.var 1) .nil))) (.cons (.one 2) (.val (.var 0)) .nil .nil)) (.call "are_rising" (.fz (.lc (.idx (.var 2) (.cst (.int 0))) (.cons (.one 2) (.val (.var 0)) .nil .nil)) .nil)))) .nil))
def c_are_bodies : Cd := ⟨.fn "are_bodies", ["value", "names", "own"], ["value", "names"], [none, none], [], true, k_are_bodies⟩
theorem op_are_bodies {l : Lw} (h : Has l c_are_bodies) {n : Nat} (hn : 0 < n) {a0 a1 : D} {P : D × List D → Prop} (k : OkSs (l.orc (n - 1)) l.W k_are_bodies [some a0, some a1, none] [] (fun _ ω => outK 0 ω fun os => P (.non, os)) (fun d ω => outK 0 ω fun os => P (d, os))) : Ok (l.orc n (.fn "are_bodies") [a0, a1]) P := orc_ok (c := c_are_bodies) h hn rfl rfl rfl rfl k
def k_check_world : ISs := (.cons (.ex (.call "check" (.fz (.prm (.isCls "World") (.cons (.var 0) .nil)) (.fz (.cst (.str "world")) .nil)))) .nil)
def c_check_world : Cd := ⟨.fn "check_world", ["world"], ["world"], [none], [], false, k_check_world⟩
theorem op_check_world {l : Lw} (h : Has l c_check_world) {n : Nat} (hn : 0 < n) {a0 : D} {P : D × List D → Prop} (k : OkSs (l.orc (n - 1)) l.W k_check_world [some a0] [] (fun _ ω => outK 0 ω fun os => P (.non, os)) (fun d ω => outK 0 ω fun os => P (d, os))) : Ok (l.orc n (.fn "check_world") [a0]) P := orc_ok (c := c_check_world) h hn rfl rfl rfl rfl k
def k_is_call : ISs := (.cons (.ret (.and (.call "are_names" (.fz (.var 1) (.fz (.prp "World" (.var 0) "kinds") .nil))) (.cmp .le (.prm .len (.cons (.var 1) .nil)) (.glb "MOST_ARGUMENTS" (.int 12))))) .nil)
def c_is_call : Cd := ⟨.fn "is_call", ["world", "value"], ["world", "value"], [none, none], [], false, k_is_call⟩
theorem op_is_call {l : Lw} (h : Has l c_is_call) {n : Nat} (hn : 0 < n) {a0 a1 : D} {P : D × List D → Prop} (k : OkSs (l.orc (n - 1)) l.W k_is_call [some a0, some a1] [] (fun _ ω => outK 0 ω fun os => P (.non, os)) (fun d ω => outK 0 ω fun os => P (d, os))) : Ok (l.orc n (.fn "is_call") [a0, a1]) P := orc_ok (c := c_is_call) h hn rfl rfl rfl rfl k
def k_check_call : ISs := (.cons (.ex (.call "check_world" (.fz (.var 0) .nil))) (.cons (.ex (.call "check" (.fz (.call "is_call" (.fz (.var 0) (.fz (.var 1) .nil))) (.fz (.cst (.str "call")) .nil)))) .nil))
def c_check_call : Cd := ⟨.fn "check_call", ["world", "call"], ["world", "call"], [none, none], [], false, k_check_call⟩
theorem op_check_call {l : Lw} (h : Has l c_check_call) {n : Nat} (hn : 0 < n) {a0 a1 : D} {P : D × List D → Prop} (k : OkSs (l.orc (n - 1)) l.W k_check_call [some a0, some a1] [] (fun _ ω => outK 0 ω fun os => P (.non, os)) (fun d ω => outK 0 ω fun os => P (d, os))) : Ok (l.orc n (.fn "check_call") [a0, a1]) P := orc_ok (c := c_check_call) h hn rfl rfl rfl rfl k
def k_rank_at : ISs := (.cons (.set 4 (.call "parameter_at" (.fz (.var 1) (.fz (.var 2) .nil)))) (.cons (.ret (.ife (.cmp .eq (.var 4) (.glb "NO_REST" (.str ""))) (.cst .non) (.mth "World" (.var 0) "rank" (.fz (.var 3) (.fz (.var 4) .nil))))) .nil))
def c_rank_at : Cd := ⟨.fn "rank_at", ["world", "pattern", "place", "kind", "param"], ["world", "pattern", "place", "kind"], [none, none, none, none], [], false, k_rank_at⟩
theorem op_rank_at {l : Lw} (h : Has l c_rank_at) {n : Nat} (hn : 0 < n) {a0 a1 a2 a3 : D} {P : D × List D → Prop} (k : OkSs (l.orc (n - 1)) l.W k_rank_at [some a0, some a1, some a2, some a3, none] [] (fun _ ω => outK 0 ω fun os => P (.non, os)) (fun d ω => outK 0 ω fun os => P (d, os))) : Ok (l.orc n (.fn "rank_at") [a0, a1, a2, a3]) P := orc_ok (c := c_rank_at) h hn rfl rfl rfl rfl k
def k_takes_it : ISs := (.cons (.set 3 (.mth "World" (.var 0) "pattern" (.fz (.var 1) .nil))) (.cons (.iff (.not (.call "can_end" (.fz (.var 3) (.fz (.prm .len (.cons (.var 2) .nil)) .nil)))) (.cons (.ret (.cst (.bl false))) .nil) .nil) (.cons (.ret (.qal (.cmp .nis (.call "rank_at" (.fz (.var 0) (.fz (.var 3) (.fz (.var 4) (.fz (.var 5) .nil))))) (.cst .non)) (.cons (.many [4, 5]) (.enum (.var 2)) .nil .nil))) .nil)))
def c_takes_it : Cd := ⟨.fn "takes_it", ["world", "number", "call", "pattern", "place", "kind"], ["world", "number", "call"], [none, none, none], [], true, k_takes_it⟩
theorem op_takes_it {l : Lw} (h : Has l c_takes_it) {n : Nat} (hn : 0 < n) {a0 a1 a2 : D} {P : D × List D → Prop} (k : OkSs (l.orc (n - 1)) l.W k_takes_it [some a0, some a1, some a2, none, none, none] [] (fun _ ω => outK 0 ω fun os => P (.non, os)) (fun d ω => outK 0 ω fun os => P (d, os))) : Ok (l.orc n (.fn "takes_it") [a0, a1, a2]) P := orc_ok (c := c_takes_it) h hn rfl rfl rfl rfl k
def k_takers : ISs := (.cons (.ret (.lc (.var 2) (.cons (.one 2) (.rng1 (.prm .len (.cons (.prp "World" (.var 0) "bodies") .nil))) (.cons (.call "takes_it" (.fz (.var 0) (.fz (.var 2) (.fz (.var 1) .nil)))) .nil) .nil))) .nil)
def c_takers : Cd := ⟨.fn "takers", ["world", "call", "number"], ["world", "call"], [none, none], [], false, k_takers⟩
theorem op_takers {l : Lw} (h : Has l c_takers) {n : Nat} (hn : 0 < n) {a0 a1 : D} {P : D × List D → Prop} (k : OkSs (l.orc (n - 1)) l.W k_takers [some a0, some a1, none] [] (fun _ ω => outK 0 ω fun os => P (.non, os)) (fun d ω => outK 0 ω fun os => P (d, os))) : Ok (l.orc n (.fn "takers") [a0, a1]) P := orc_ok (c := c_takers) h hn rfl rfl rfl rfl k
def k_taking : ISs := (.cons (.ex (.call "check_call" (.fz (.var 0) (.fz (.var 1) .nil)))) (.cons (.ret (.prm .tuple (.cons (.lc (.idx (.mth "World" (.var 0) "names" .nil) (.var 2)) (.cons (.one 2) (.val (.call "takers" (.fz (.var 0) (.fz (.var 1) .nil)))) .nil .nil)) .nil))) .nil))
def c_taking : Cd := ⟨.fn "taking", ["world", "call", "number"], ["world", "call"], [none, none], [], false, k_taking⟩
theorem op_taking {l : Lw} (h : Has l c_taking) {n : Nat} (hn : 0 < n) {a0 a1 : D} {P : D × List D → Prop} (k : OkSs (l.orc (n - 1)) l.W k_taking [some a0, some a1, none] [] (fun _ ω => outK 0 ω fun os => P (.non, os)) (fun d ω => outK 0 ω fun os => P (d, os))) : Ok (l.orc n (.fn "taking") [a0, a1]) P := orc_ok (c := c_taking) h hn rfl rfl rfl rfl k
def k_check_name : ISs := (.cons (.ex (.call "check_world" (.fz (.var 0) .nil))) (.cons (.ex (.call "check" (.fz (.and (.prm (.isTy "str") (.cons (.var 1) .nil)) (.cmp .in_ (.var 1) (.mth "World" (.var 0) "names" .nil))) (.fz (.cst (.str "name")) .nil)))) .nil))
def c_check_name : Cd := ⟨.fn "check_name", ["world", "name"], ["world", "name"], [none, none], [], false, k_check_name⟩
theorem op_check_name {l : Lw} (h : Has l c_check_name) {n : Nat} (hn : 0 < n) {a0 a1 : D} {P : D × List D → Prop} (k : OkSs (l.orc (n - 1)) l.W k_check_name [some a0, some a1] [] (fun _ ω => outK 0 ω fun os => P (.non, os)) (fun d ω => outK 0 ω fun os => P (d, os))) : Ok (l.orc n (.fn "check_name") [a0, a1]) P := orc_ok (c := c_check_name) h hn rfl rfl rfl rfl k
def k_ranks : ISs := (.cons (.ex (.call "check_name" (.fz (.var 0) (.fz (.var 1) .nil)))) (.cons (.ex (.call "check" (.fz (.call "is_call" (.fz (.var 0) (.fz (.var 2) .nil))) (.fz (.cst (.str "call")) .nil)))) (.cons (.set 3 (.mth "World" (.var 0) "pattern" (.fz (.prm .index (.cons (.mth "World" (.var 0) "names" .nil) (.cons (.var 1) .nil))) .nil))) (.cons (.ret (.prm .tuple (.cons (.lc (.call "rank_at" (.fz (.var 0) (.fz (.var 3) (.fz (.var 4) (.fz (.var 5) .nil))))) (.cons (.many [4, 5]) (.enum (.var 2)) .nil .nil)) .nil))) .nil))))
def c_ranks : Cd := ⟨.fn "ranks", ["world", "name", "call", "pattern", "place", "kind"], ["world", "name", "call"], [none, none, none], [], false, k_ranks⟩
theorem op_ranks {l : Lw} (h : Has l c_ranks) {n : Nat} (hn : 0 < n) {a0 a1 a2 : D} {P : D × List D → Prop} (k : OkSs (l.orc (n - 1)) l.W k_ranks [some a0, some a1, some a2, none, none, none] [] (fun _ ω => outK 0 ω fun os => P (.non, os)) (fun d ω => outK 0 ω fun os => P (d, os))) : Ok (l.orc n (.fn "ranks") [a0, a1, a2]) P := orc_ok (c := c_ranks) h hn rfl rfl rfl rfl k
def k_fits : ISs := (.cons (.ex (.call "check_world" (.fz (.var 0) .nil))) (.cons (.ex (.call "check" (.fz (.and (.prm (.isTy "str") (.cons (.var 1) .nil)) (.cmp .in_ (.var 1) (.prp "World" (.var 0) "kinds"))) (.fz (.cst (.str "kind")) .nil)))) (.cons (.ex (.call "check" (.fz (.and (.prm (.isTy "str") (.cons (.var 2) .nil)) (.cmp .in_ (.var 2) (.prp "World" (.var 0) "kinds"))) (.fz (.cst (.str "other")) .nil)))) (.cons (.ret (.mth "World" (.var 0) "rank" (.fz (.var 1) (.fz (.var 2) .nil)))) .nil))))
def c_fits : Cd := ⟨.fn "fits", ["world", "kind", "other"], ["world", "kind", "other"], [none, none, none], [], false, k_fits⟩
theorem op_fits {l : Lw} (h : Has l c_fits) {n : Nat} (hn : 0 < n) {a0 a1 a2 : D} {P : D × List D → Prop} (k : OkSs (l.orc (n - 1)) l.W k_fits [some a0, some a1, some a2] [] (fun _ ω => outK 0 ω fun os => P (.non, os)) (fun d ω => outK 0 ω fun os => P (d, os))) : Ok (l.orc n (.fn "fits") [a0, a1, a2]) P := orc_ok (c := c_fits) h hn rfl rfl rfl rfl k
def k_law_taken : ISs := (.cons (.iff (.view [0] (.cmp .gt (.idx (.var 0) (.cst (.int 3))) (.cst (.int 0)))) (.cons (.set 3 (.view [0] (.bin .mod (.prm .int (.cons (.idx (.var 0) (.cst (.int 3))) .nil)) (.var 1)))) (.cons (.seti (.var 0) (.cst (.int 3)) (.view [0] (.bin .fdiv (.idx (.var 0) (.cst (.int 3))) (.var 1)))) (.cons (.ret (.var 3)) .nil))) .nil) (.cons (.seti (.var 0) (.cst (.int 1)) (.view [0] (.bin .add (.idx (.var 0) (.cst (.int 1))) (.cst (.int 1))))) (.cons (.iff (.view [0] (.cmp .gt (.idx (.var 0) (.cst (.int 1))) (.prm .len (.cons (.idx (.var 0) (.cst (.int 0))) .nil)))) (.cons (.seti (.var 0) (.cst (.int 2)) (.view [0] (.bin .mod (.prm .int (.cons (.bin .add (.bin .mul (.idx (.var 0) (.cst (.int 2))) (.cst (.int 48271))) (.cst (.int 11))) .nil)) (.cst (.int 2147483647))))) (.cons (.ret (.view [0] (.bin .mod (.prm .int (.cons (.bin .fdiv (.idx (.var 0) (.cst (.int 2))) (.cst (.int 7))) .nil)) (.var 1)))) .nil)) .nil) (.cons (.set 2 (.view [0] (.idx (.idx (.var 0) (.cst (.int 0))) (.bin .sub (.idx (.var 0) (.cst (.int 1))) (.cst (.int 1)))))) (.cons (.seti (.var 0) (.cst (.int 2)) (.view [0] (.bin .mod (.prm .int (.cons (.bin .add (.bin .add (.bin .mul (.idx (.var 0) (.cst (.int 2))) (.cst (.int 48271))) (.var 2)) (.cst (.int 11))) .nil)) (.cst (.int 2147483647))))) (.cons (.iff (.cmp .ge (.var 2) (.bin .pow (.cst (.int 10)) (.cst (.int 18)))) (.cons (.seti (.var 0) (.cst (.int 3)) (.bin .fdiv (.var 2) (.var 1))) .nil) .nil) (.cons (.ret (.bin .mod (.prm .int (.cons (.var 2) .nil)) (.var 1))) .nil)))))))
def c_law_taken : Cd := ⟨.fn "_law_taken", ["row", "many", "cell", "found"], ["row", "many"], [some (.l .z), none], [(0, .l .z)], false, k_law_taken⟩
theorem op_law_taken {l : Lw} (h : Has l c_law_taken) {n : Nat} (hn : 0 < n) {a0 a1 : D} {P : D × List D → Prop} (k : OkSs (l.orc (n - 1)) l.W k_law_taken [none, some a1, none, none] [some a0] (fun _ ω => outK 1 ω fun os => P (.non, os)) (fun d ω => outK 1 ω fun os => P (d, os))) : Ok (l.orc n (.fn "_law_taken") [a0, a1]) P := orc_ok (c := c_law_taken) h hn rfl rfl rfl rfl k
def k_law_some : ISs := (.cons (.par [4, 5] (.cons (.prm .list (.cons (.var 1) .nil)) (.cons (.lst .nil) .nil))) (.cons (.forr (.one 3) (.rng1 (.prm .min2 (.cons (.var 2) (.cons (.prm .len (.cons (.var 4) .nil)) .nil)))) (.cons (.set 6 (.call "_law_taken" (.io 0 (.fz (.prm .len (.cons (.var 4) .nil)) .nil)))) (.cons (.par [5, 4] (.cons (.bin .add (.var 5) (.lst (.cons (.idx (.var 4) (.var 6)) .nil))) (.cons (.bin .add (.slc (.var 4) .no (.yes (.var 6))) (.slc (.var 4) (.yes (.bin .add (.var 6) (.cst (.int 1)))) .no)) .nil))) .nil))) (.cons (.ret (.var 5)) .nil)))
def c_law_some : Cd := ⟨.fn "_law_some", ["row", "some", "many", "turn", "left", "found", "at"], ["row", "some", "many"], [some (.l .z), none, none], [(0, .l .z)], false, k_law_some⟩
theorem op_law_some {l : Lw} (h : Has l c_law_some) {n : Nat} (hn : 0 < n) {a0 a1 a2 : D} {P : D × List D → Prop} (k : OkSs (l.orc (n - 1)) l.W k_law_some [none, some a1, some a2, none, none, none, none] [some a0] (fun _ ω => outK 1 ω fun os => P (.non, os)) (fun d ω => outK 1 ω fun os => P (d, os))) : Ok (l.orc n (.fn "_law_some") [a0, a1, a2]) P := orc_ok (c := c_law_some) h hn rfl rfl rfl rfl k
def k_law_pick : ISs := (.cons (.ret (.idx (.var 1) (.call "_law_taken" (.io 0 (.fz (.prm .len (.cons (.var 1) .nil)) .nil))))) .nil)
def c_law_pick : Cd := ⟨.fn "_law_pick", ["row", "some"], ["row", "some"], [some (.l .z), none], [(0, .l .z)], false, k_law_pick⟩
theorem op_law_pick {l : Lw} (h : Has l c_law_pick) {n : Nat} (hn : 0 < n) {a0 a1 : D} {P : D × List D → Prop} (k : OkSs (l.orc (n - 1)) l.W k_law_pick [none, some a1] [some a0] (fun _ ω => outK 1 ω fun os => P (.non, os)) (fun d ω => outK 1 ω fun os => P (d, os))) : Ok (l.orc n (.fn "_law_pick") [a0, a1]) P := orc_ok (c := c_law_pick) h hn rfl rfl rfl rfl k
def k_law_kinds : ISs := (.cons (.ret (.prm .tuple (.cons (.prm .sorted (.cons (.call "_law_some" (.io 0 (.fz (.lst (.cons (.cst (.str "a")) (.cons (.cst (.str "b2")) (.cons (.cst (.str "c")) (.cons (.cst (.str "k")) (.cons (.cst (.str "num")) (.cons (.cst (.str "z")) .nil))))))) (.fz (.call "_law_pick" (.io 0 (.fz (.slc (.lst (.cons (.cst (.int 2)) (.cons (.cst (.int 3)) (.cons (.cst (.int 3)) (.cons (.cst (.int 4)) .nil))))) .no (.yes (.var 1))) .nil))) .nil)))) .nil)) .nil))) .nil)
def c_law_kinds : Cd := ⟨.fn "_law_kinds", ["row", "most"], ["row", "most"], [some (.l .z), none], [(0, .l .z)], false, k_law_kinds⟩
theorem op_law_kinds {l : Lw} (h : Has l c_law_kinds) {n : Nat} (hn : 0 < n) {a0 a1 : D} {P : D × List D → Prop} (k : OkSs (l.orc (n - 1)) l.W k_law_kinds [none, some a1] [some a0] (fun _ ω => outK 1 ω fun os => P (.non, os)) (fun d ω => outK 1 ω fun os => P (d, os))) : Ok (l.orc n (.fn "_law_kinds") [a0, a1]) P := orc_ok (c := c_law_kinds) h hn rfl rfl rfl rfl k
def k_law_uppers : ISs := (.cons (.par [3, 4] (.cons (.call "_law_some" (.io 0 (.fz (.var 1) (.fz (.cst (.int 9)) .nil)))) (.cons (.lst .nil) .nil))) (.cons (.forr (.one 2) (.rng1 (.prm .len (.cons (.var 3) .nil))) (.cons (.forr (.one 5) (.rng2 (.bin .add (.var 2) (.cst (.int 1))) (.prm .len (.cons (.var 3) .nil))) (.cons (.set 4 (.bin .add (.var 4) (.ife (.cmp .lt (.call "_law_taken" (.io 0 (.fz (.cst (.int 5)) .nil))) (.cst (.int 2))) (.lst (.cons (.tup (.cons (.idx (.var 3) (.var 2)) (.cons (.idx (.var 3) (.var 5)) .nil))) .nil)) (.lst .nil)))) .nil)) .nil)) (.cons (.ret (.prm .tuple (.cons (.prm .sorted (.cons (.var 4) .nil)) .nil))) .nil)))
def c_law_uppers : Cd := ⟨.fn "_law_uppers", ["row", "kinds", "j", "some", "found", "k"], ["row", "kinds"], [some (.l .z), none], [(0, .l .z)], false, k_law_uppers⟩
theorem op_law_uppers {l : Lw} (h : Has l c_law_uppers) {n : Nat} (hn : 0 < n) {a0 a1 : D} {P : D × List D → Prop} (k : OkSs (l.orc (n - 1)) l.W k_law_uppers [none, some a1, none, none, none, none] [some a0] (fun _ ω => outK 1 ω fun os => P (.non, os)) (fun d ω => outK 1 ω fun os => P (d, os))) : Ok (l.orc n (.fn "_law_uppers") [a0, a1]) P := orc_ok (c := c_law_uppers) h hn rfl rfl rfl rfl k
def k_law_conversions : ISs := (.cons (.set 3 (.lst .nil)) (.cons (.forr (.one 4) (.rng1 (.var 2)) (.cons (.set 5 (.prm .tuple (.cons (.call "_law_some" (.io 0 (.fz (.var 1) (.fz (.cst (.int 2)) .nil)))) .nil))) (.cons (.set 3 (.bin .add (.var 3) (.ife (.cmp .nin (.var 5) (.var 3)) (.lst (.cons (.var 5) .nil)) (.lst .nil)))) .nil))) (.cons (.ret (.prm .tuple (.cons (.prm .sorted (.cons (.var 3) .nil)) .nil))) .nil)))
def c_law_conversions : Cd := ⟨.fn "_law_conversions", ["row", "kinds", "many", "found", "turn", "pair"], ["row", "kinds", "many"], [some (.l .z), none, none], [(0, .l .z)], false, k_law_conversions⟩
theorem op_law_conversions {l : Lw} (h : Has l c_law_conversions) {n : Nat} (hn : 0 < n) {a0 a1 a2 : D} {P : D × List D → Prop} (k : OkSs (l.orc (n - 1)) l.W k_law_conversions [none, some a1, some a2, none, none, none] [some a0] (fun _ ω => outK 1 ω fun os => P (.non, os)) (fun d ω => outK 1 ω fun os => P (d, os))) : Ok (l.orc n (.fn "_law_conversions") [a0, a1, a2]) P := orc_ok (c := c_law_conversions) h hn rfl rfl rfl rfl k
def k_law_pattern : ISs := (.cons (.set 3 (.prm .tuple (.cons (.lc (.call "_law_pick" (.io 0 (.fz (.var 1) .nil))) (.cons (.one 5) (.rng1 (.call "_law_taken" (.io 0 (.fz (.bin .add (.var 2) (.cst (.int 1))) .nil)))) .nil .nil)) .nil))) (.cons (.set 4 (.ife (.cmp .gt (.call "_law_taken" (.io 0 (.fz (.cst (.int 3)) .nil))) (.cst (.int 0))) (.prm .len (.cons (.var 3) .nil)) (.call "_law_taken" (.io 0 (.fz (.bin .add (.prm .len (.cons (.var 3) .nil)) (.cst (.int 1))) .nil))))) (.cons (.ret (.tup (.cons (.var 3) (.cons (.var 4) (.cons (.call "_law_pick" (.io 0 (.fz (.bin .add (.lst (.cons (.cst (.str "")) (.cons (.cst (.str "")) (.cons (.cst (.str "")) .nil)))) (.prm .list (.cons (.var 1) .nil))) .nil))) .nil))))) .nil)))
def c_law_pattern : Cd := ⟨.fn "_law_pattern", ["row", "kinds", "most", "params", "must", "k"], ["row", "kinds", "most"], [some (.l .z), none, none], [(0, .l .z)], false, k_law_pattern⟩
theorem op_law_pattern {l : Lw} (h : Has l c_law_pattern) {n : Nat} (hn : 0 < n) {a0 a1 a2 : D} {P : D × List D → Prop} (k : OkSs (l.orc (n - 1)) l.W k_law_pattern [none, some a1, some a2, none, none, none] [some a0] (fun _ ω => outK 1 ω fun os => P (.non, os)) (fun d ω => outK 1 ω fun os => P (d, os))) : Ok (l.orc n (.fn "_law_pattern") [a0, a1, a2]) P := orc_ok (c := c_law_pattern) h hn rfl rfl rfl rfl k
def k_law_bodies : ISs := (.cons (.set 4 (.prm .sorted (.cons (.call "_law_some" (.io 0 (.fz (.lst (.cons (.cst (.str "f1")) (.cons (.cst (.str "f2")) (.cons (.cst (.str "g")) (.cons (.cst (.str "h")) (.cons (.cst (.str "m3")) (.cons (.cst (.str "t")) .nil))))))) (.fz (.var 2) .nil)))) .nil))) (.cons (.ret (.prm .tuple (.cons (.lc (.bin .add (.bin .add (.tup (.cons (.var 5) .nil)) (.call "_law_pattern" (.io 0 (.fz (.var 1) (.fz (.var 3) .nil))))) (.tup (.cons (.call "_law_pick" (.io 0 (.fz (.var 1) .nil))) .nil))) (.cons (.one 5) (.val (.var 4)) .nil .nil)) .nil))) .nil))
def c_law_bodies : Cd := ⟨.fn "_law_bodies", ["row", "kinds", "many", "most", "names", "name"], ["row", "kinds", "many", "most"], [some (.l .z), none, none, none], [(0, .l .z)], false, k_law_bodies⟩
theorem op_law_bodies {l : Lw} (h : Has l c_law_bodies) {n : Nat} (hn : 0 < n) {a0 a1 a2 a3 : D} {P : D × List D → Prop} (k : OkSs (l.orc (n - 1)) l.W k_law_bodies [none, some a1, some a2, some a3, none, none] [some a0] (fun _ ω => outK 1 ω fun os => P (.non, os)) (fun d ω => outK 1 ω fun os => P (d, os))) : Ok (l.orc n (.fn "_law_bodies") [a0, a1, a2, a3]) P := orc_ok (c := c_law_bodies) h hn rfl rfl rfl rfl k
def k_law_world : ISs := (.cons (.set 1 (.call "_law_kinds" (.io 0 (.fz (.cst (.int 4)) .nil)))) (.cons (.set 2 (.call "_law_uppers" (.io 0 (.fz (.var 1) .nil)))) (.cons (.set 3 (.call "_law_conversions" (.io 0 (.fz (.var 1) (.fz (.call "_law_pick" (.io 0 (.fz (.lst (.cons (.cst (.int 0)) (.cons (.cst (.int 0)) (.cons (.cst (.int 1)) (.cons (.cst (.int 2)) .nil))))) .nil))) .nil))))) (.cons (.ret (.tup (.cons (.var 1) (.cons (.var 2) (.cons (.var 3) (.cons (.call "_law_bodies" (.io 0 (.fz (.var 1) (.fz (.bin .add (.cst (.int 1)) (.call "_law_taken" (.io 0 (.fz (.cst (.int 4)) .nil)))) (.fz (.cst (.int 3)) .nil))))) .nil)))))) .nil))))
def c_law_world : Cd := ⟨.fn "_law_world", ["row", "kinds", "uppers", "conversions"], ["row"], [some (.l .z)], [(0, .l .z)], false, k_law_world⟩
theorem op_law_world {l : Lw} (h : Has l c_law_world) {n : Nat} (hn : 0 < n) {a0 : D} {P : D × List D → Prop} (k : OkSs (l.orc (n - 1)) l.W k_law_world [none, none, none, none] [some a0] (fun _ ω => outK 1 ω fun os => P (.non, os)) (fun d ω => outK 1 ω fun os => P (d, os))) : Ok (l.orc n (.fn "_law_world") [a0]) P := orc_ok (c := c_law_world) h hn rfl rfl rfl rfl k
def k_law_world_of : ISs := (.cons (.ret (.mk "World" (.fz (.idx (.var 0) (.cst (.int 0))) (.fz (.idx (.var 0) (.cst (.int 1))) (.fz (.idx (.var 0) (.cst (.int 2))) (.fz (.idx (.var 0) (.cst (.int 3))) .nil)))))) .nil)
def c_law_world_of : Cd := ⟨.fn "_law_world_of", ["parts"], ["parts"], [none], [], false, k_law_world_of⟩
theorem op_law_world_of {l : Lw} (h : Has l c_law_world_of) {n : Nat} (hn : 0 < n) {a0 : D} {P : D × List D → Prop} (k : OkSs (l.orc (n - 1)) l.W k_law_world_of [some a0] [] (fun _ ω => outK 0 ω fun os => P (.non, os)) (fun d ω => outK 0 ω fun os => P (d, os))) : Ok (l.orc n (.fn "_law_world_of") [a0]) P := orc_ok (c := c_law_world_of) h hn rfl rfl rfl rfl k
def k_law_ends : ISs := (.cons (.ret (.and (.cmp .le (.idx (.var 0) (.cst (.int 2))) (.var 1)) (.or (.cmp .ne (.idx (.var 0) (.cst (.int 3))) (.cst (.str ""))) (.cmp .le (.var 1) (.prm .len (.cons (.idx (.var 0) (.cst (.int 1))) .nil)))))) .nil)
def c_law_ends : Cd := ⟨.fn "_law_ends", ["body", "many"], ["body", "many"], [none, none], [], false, k_law_ends⟩
theorem op_law_ends {l : Lw} (h : Has l c_law_ends) {n : Nat} (hn : 0 < n) {a0 a1 : D} {P : D × List D → Prop} (k : OkSs (l.orc (n - 1)) l.W k_law_ends [some a0, some a1] [] (fun _ ω => outK 0 ω fun os => P (.non, os)) (fun d ω => outK 0 ω fun os => P (d, os))) : Ok (l.orc n (.fn "_law_ends") [a0, a1]) P := orc_ok (c := c_law_ends) h hn rfl rfl rfl rfl k
def k_law_above : ISs := (.cons (.set 2 (.lst (.cons (.var 1) .nil))) (.cons (.forr (.one 3) (.val (.idx (.var 0) (.cst (.int 0)))) (.cons (.set 2 (.bin .add (.var 2) (.lc (.var 5) (.cons (.many [4, 5]) (.val (.idx (.var 0) (.cst (.int 1)))) (.cons (.and (.cmp .in_ (.var 4) (.var 2)) (.cmp .nin (.var 5) (.var 2))) .nil) .nil)))) .nil)) (.cons (.ret (.prm .sortset (.cons (.var 2) .nil))) .nil)))
def c_law_above : Cd := ⟨.fn "_law_above", ["parts", "kind", "found", "turn", "low", "high"], ["parts", "kind"], [none, none], [], false, k_law_above⟩
theorem op_law_above {l : Lw} (h : Has l c_law_above) {n : Nat} (hn : 0 < n) {a0 a1 : D} {P : D × List D → Prop} (k : OkSs (l.orc (n - 1)) l.W k_law_above [some a0, some a1, none, none, none, none] [] (fun _ ω => outK 0 ω fun os => P (.non, os)) (fun d ω => outK 0 ω fun os => P (d, os))) : Ok (l.orc n (.fn "_law_above") [a0, a1]) P := orc_ok (c := c_law_above) h hn rfl rfl rfl rfl k
def k_law_below : ISs := (.cons (.ret (.cmp .in_ (.var 2) (.call "_law_above" (.fz (.var 0) (.fz (.var 1) .nil))))) .nil)
def c_law_below : Cd := ⟨.fn "_law_below", ["parts", "one", "other"], ["parts", "one", "other"], [none, none, none], [], false, k_law_below⟩
theorem op_law_below {l : Lw} (h : Has l c_law_below) {n : Nat} (hn : 0 < n) {a0 a1 a2 : D} {P : D × List D → Prop} (k : OkSs (l.orc (n - 1)) l.W k_law_below [some a0, some a1, some a2] [] (fun _ ω => outK 0 ω fun os => P (.non, os)) (fun d ω => outK 0 ω fun os => P (d, os))) : Ok (l.orc n (.fn "_law_below") [a0, a1, a2]) P := orc_ok (c := c_law_below) h hn rfl rfl rfl rfl k
def k_law_met : ISs := (.cons (.ret (.ife (.cmp .lt (.var 1) (.prm .len (.cons (.idx (.var 0) (.cst (.int 1))) .nil))) (.idx (.idx (.var 0) (.cst (.int 1))) (.var 1)) (.idx (.var 0) (.cst (.int 3))))) .nil)
def c_law_met : Cd := ⟨.fn "_law_met", ["body", "k"], ["body", "k"], [none, none], [], false, k_law_met⟩
theorem op_law_met {l : Lw} (h : Has l c_law_met) {n : Nat} (hn : 0 < n) {a0 a1 : D} {P : D × List D → Prop} (k : OkSs (l.orc (n - 1)) l.W k_law_met [some a0, some a1] [] (fun _ ω => outK 0 ω fun os => P (.non, os)) (fun d ω => outK 0 ω fun os => P (d, os))) : Ok (l.orc n (.fn "_law_met") [a0, a1]) P := orc_ok (c := c_law_met) h hn rfl rfl rfl rfl k
def k_law_call_of : ISs := (.cons (.set 4 (.bin .add (.idx (.var 2) (.cst (.int 2))) (.call "_law_taken" (.io 0 (.fz (.cst (.int 3)) .nil))))) (.cons (.set 4 (.ife (.call "_law_ends" (.fz (.var 2) (.fz (.var 4) .nil))) (.var 4) (.idx (.var 2) (.cst (.int 2))))) (.cons (.set 5 (.tup .nil)) (.cons (.forr (.one 6) (.rng1 (.var 4)) (.cons (.set 5 (.bin .add (.var 5) (.tup (.cons (.call "_law_pick" (.io 0 (.fz (.lc (.var 7) (.cons (.one 7) (.val (.idx (.var 1) (.cst (.int 0)))) (.cons (.call "_law_below" (.fz (.var 1) (.fz (.var 7) (.fz (.call "_law_met" (.fz (.var 2) (.fz (.var 6) .nil))) .nil)))) .nil) .nil)) .nil))) .nil)))) .nil)) (.cons (.ret (.ife (.cmp .le (.var 4) (.var 3)) (.var 5) (.cst .non))) .nil)))))
def c_law_call_of : Cd := ⟨.fn "_law_call_of", ["row", "parts", "body", "most", "many", "found", "k", "kind"], ["row", "parts", "body", "most"], [some (.l .z), none, none, none], [(0, .l .z)], false, k_law_call_of⟩
theorem op_law_call_of {l : Lw} (h : Has l c_law_call_of) {n : Nat} (hn : 0 < n) {a0 a1 a2 a3 : D} {P : D × List D → Prop} (k : OkSs (l.orc (n - 1)) l.W k_law_call_of [none, some a1, some a2, some a3, none, none, none, none] [some a0] (fun _ ω => outK 1 ω fun os => P (.non, os)) (fun d ω => outK 1 ω fun os => P (d, os))) : Ok (l.orc n (.fn "_law_call_of") [a0, a1, a2, a3]) P := orc_ok (c := c_law_call_of) h hn rfl rfl rfl rfl k
def k_law_call : ISs := (.cons (.ret (.prm .tuple (.cons (.lc (.call "_law_pick" (.io 0 (.fz (.idx (.var 1) (.cst (.int 0))) .nil))) (.cons (.one 3) (.rng1 (.call "_law_taken" (.io 0 (.fz (.bin .add (.var 2) (.cst (.int 1))) .nil)))) .nil .nil)) .nil))) .nil)
def c_law_call : Cd := ⟨.fn "_law_call", ["row", "parts", "most", "k"], ["row", "parts", "most"], [some (.l .z), none, none], [(0, .l .z)], false, k_law_call⟩
theorem op_law_call {l : Lw} (h : Has l c_law_call) {n : Nat} (hn : 0 < n) {a0 a1 a2 : D} {P : D × List D → Prop} (k : OkSs (l.orc (n - 1)) l.W k_law_call [none, some a1, some a2, none] [some a0] (fun _ ω => outK 1 ω fun os => P (.non, os)) (fun d ω => outK 1 ω fun os => P (d, os))) : Ok (l.orc n (.fn "_law_call") [a0, a1, a2]) P := orc_ok (c := c_law_call) h hn rfl rfl rfl rfl k
def k_law_some_call : ISs := (.cons (.set 3 (.ife (.and (.cmp .ne (.idx (.var 1) (.cst (.int 3))) (.tup .nil)) (.cmp .gt (.call "_law_taken" (.io 0 (.fz (.cst (.int 4)) .nil))) (.cst (.int 0)))) (.call "_law_call_of" (.io 0 (.fz (.var 1) (.fz (.call "_law_pick" (.io 0 (.fz (.idx (.var 1) (.cst (.int 3))) .nil))) (.fz (.var 2) .nil))))) (.cst .non))) (.cons (.ret (.ife (.cmp .nis (.var 3) (.cst .non)) (.var 3) (.call "_law_call" (.io 0 (.fz (.var 1) (.fz (.var 2) .nil)))))) .nil))
def c_law_some_call : Cd := ⟨.fn "_law_some_call", ["row", "parts", "most", "own"], ["row", "parts", "most"], [some (.l .z), none, none], [(0, .l .z)], false, k_law_some_call⟩
theorem op_law_some_call {l : Lw} (h : Has l c_law_some_call) {n : Nat} (hn : 0 < n) {a0 a1 a2 : D} {P : D × List D → Prop} (k : OkSs (l.orc (n - 1)) l.W k_law_some_call [none, some a1, some a2, none] [some a0] (fun _ ω => outK 1 ω fun os => P (.non, os)) (fun d ω => outK 1 ω fun os => P (d, os))) : Ok (l.orc n (.fn "_law_some_call") [a0, a1, a2]) P := orc_ok (c := c_law_some_call) h hn rfl rfl rfl rfl k
def k_law_low : ISs := (.cons (.ret (.call "_law_pick" (.io 0 (.fz (.lc (.var 3) (.cons (.one 3) (.val (.idx (.var 1) (.cst (.int 0)))) (.cons (.call "_law_below" (.fz (.var 1) (.fz (.var 3) (.fz (.var 2) .nil)))) .nil) .nil)) .nil)))) .nil)
def c_law_low : Cd := ⟨.fn "_law_low", ["row", "parts", "kind", "low"], ["row", "parts", "kind"], [some (.l .z), none, none], [(0, .l .z)], false, k_law_low⟩
theorem op_law_low {l : Lw} (h : Has l c_law_low) {n : Nat} (hn : 0 < n) {a0 a1 a2 : D} {P : D × List D → Prop} (k : OkSs (l.orc (n - 1)) l.W k_law_low [none, some a1, some a2, none] [some a0] (fun _ ω => outK 1 ω fun os => P (.non, os)) (fun d ω => outK 1 ω fun os => P (d, os))) : Ok (l.orc n (.fn "_law_low") [a0, a1, a2]) P := orc_ok (c := c_law_low) h hn rfl rfl rfl rfl k
def k_law_rank : ISs := (.cons (.set 3 (.call "_law_above" (.fz (.var 0) (.fz (.var 1) .nil)))) (.cons (.iff (.cmp .in_ (.var 2) (.var 3)) (.cons (.ret (.cst (.int 0))) .nil) .nil) (.cons (.ret (.ife (.cmp .ne (.lc (.var 4) (.cons (.one 4) (.val (.idx (.var 0) (.cst (.int 2)))) (.cons (.and (.cmp .in_ (.idx (.var 4) (.cst (.int 0))) (.var 3)) (.call "_law_below" (.fz (.var 0) (.fz (.idx (.var 4) (.cst (.int 1))) (.fz (.var 2) .nil))))) .nil) .nil)) (.lst .nil)) (.cst (.int 1)) (.cst .non))) .nil)))
def c_law_rank : Cd := ⟨.fn "_law_rank", ["parts", "one", "other", "above", "pair"], ["parts", "one", "other"], [none, none, none], [], false, k_law_rank⟩
theorem op_law_rank {l : Lw} (h : Has l c_law_rank) {n : Nat} (hn : 0 < n) {a0 a1 a2 : D} {P : D × List D → Prop} (k : OkSs (l.orc (n - 1)) l.W k_law_rank [some a0, some a1, some a2, none, none] [] (fun _ ω => outK 0 ω fun os => P (.non, os)) (fun d ω => outK 0 ω fun os => P (d, os))) : Ok (l.orc n (.fn "_law_rank") [a0, a1, a2]) P := orc_ok (c := c_law_rank) h hn rfl rfl rfl rfl k
def k_law_takes : ISs := (.cons (.iff (.not (.call "_law_ends" (.fz (.var 1) (.fz (.prm .len (.cons (.var 2) .nil)) .nil)))) (.cons (.ret (.cst (.bl false))) .nil) .nil) (.cons (.ret (.cmp .eq (.lc (.var 3) (.cons (.one 3) (.rng1 (.prm .len (.cons (.var 2) .nil))) (.cons (.cmp .is (.call "_law_rank" (.fz (.var 0) (.fz (.idx (.var 2) (.var 3)) (.fz (.call "_law_met" (.fz (.var 1) (.fz (.var 3) .nil))) .nil)))) (.cst .non)) .nil) .nil)) (.lst .nil))) .nil))
def c_law_takes : Cd := ⟨.fn "_law_takes", ["parts", "body", "call", "k"], ["parts", "body", "call"], [none, none, none], [], false, k_law_takes⟩
theorem op_law_takes {l : Lw} (h : Has l c_law_takes) {n : Nat} (hn : 0 < n) {a0 a1 a2 : D} {P : D × List D → Prop} (k : OkSs (l.orc (n - 1)) l.W k_law_takes [some a0, some a1, some a2, none] [] (fun _ ω => outK 0 ω fun os => P (.non, os)) (fun d ω => outK 0 ω fun os => P (d, os))) : Ok (l.orc n (.fn "_law_takes") [a0, a1, a2]) P := orc_ok (c := c_law_takes) h hn rfl rfl rfl rfl k
def k_law_alike : ISs := (.cons (.iff (.prm .isSeq (.cons (.var 1) .nil)) (.cons (.iff (.or (.not (.prm .isSeq (.cons (.var 0) .nil))) (.cmp .ne (.prm (.isTy "list") (.cons (.var 0) .nil)) (.prm (.isTy "list") (.cons (.var 1) .nil)))) (.cons (.ret (.cst (.bl false))) .nil) .nil) (.cons (.iff (.cmp .ne (.prm .len (.cons (.var 0) .nil)) (.prm .len (.cons (.var 1) .nil))) (.cons (.ret (.cst (.bl false))) .nil) .nil) (.cons (.ret (.cmp .eq (.lc (.var 2) (.cons (.one 2) (.rng1 (.prm .len (.cons (.var 1) .nil))) (.cons (.not (.call "_law_alike" (.fz (.idx (.var 0) (.var 2)) (.fz (.idx (.var 1) (.var 2)) .nil)))) .nil) .nil)) (.lst .nil))) .nil))) .nil) (.cons (.iff (.prm (.isTy "dict") (.cons (.var 1) .nil)) (.cons (.iff (.or (.not (.prm (.isTy "dict") (.cons (.var 0) .nil))) (.cmp .ne (.prm .list (.cons (.var 0) .nil)) (.prm .list (.cons (.var 1) .nil)))) (.cons (.ret (.cst (.bl false))) .nil) .nil) (.cons (.ret (.cmp .eq (.lc (.var 3) (.cons (.one 3) (.val (.var 1)) (.cons (.not (.call "_law_alike" (.fz (.idx (.var 0) (.var 3)) (.fz (.idx (.var 1) (.var 3)) .nil)))) .nil) .nil)) (.lst .nil))) .nil)) .nil) (.cons (.iff (.or (.cmp .is (.var 1) (.cst .non)) (.prm (.isTy "str") (.cons (.var 1) .nil))) (.cons (.ret (.and (.cmp .eq (.var 0) (.var 1)) (.cmp .eq (.prm (.isTy "str") (.cons (.var 0) .nil)) (.prm (.isTy "str") (.cons (.var 1) .nil))))) .nil) .nil) (.cons (.ret (.and (.prm (.isTy "int") (.cons (.var 0) .nil)) (.and (.cmp .eq (.prm (.isTy "bool") (.cons (.var 0) .nil)) (.prm (.isTy "bool") (.cons (.var 1) .nil))) (.cmp .eq (.var 0) (.var 1))))) .nil))))
def c_law_alike : Cd := ⟨.fn "_law_alike", ["found", "due", "k", "key"], ["found", "due"], [none, none], [], false, k_law_alike⟩
theorem op_law_alike {l : Lw} (h : Has l c_law_alike) {n : Nat} (hn : 0 < n) {a0 a1 : D} {P : D × List D → Prop} (k : OkSs (l.orc (n - 1)) l.W k_law_alike [some a0, some a1, none, none] [] (fun _ ω => outK 0 ω fun os => P (.non, os)) (fun d ω => outK 0 ω fun os => P (d, os))) : Ok (l.orc n (.fn "_law_alike") [a0, a1]) P := orc_ok (c := c_law_alike) h hn rfl rfl rfl rfl k
end Rf
end

section
set_option Elab.async false
set_option linter.all false
set_option maxRecDepth 100000
/-! Operators on plain data; loops over lists of texts. -/
namespace Rf
open PySem L2
@[simp] theorem omAt_z {x : Option D} {r : Om} : omAt (x :: r) 0 = x := by cases x <;> rfl
@[simp] theorem omAt_s {x : Option D} {r : Om} {n : Nat} : omAt (x :: r) (n + 1) = omAt r n := rfl
@[simp] theorem omAt_n {n : Nat} : omAt [] n = none := by unfold omAt; simp
@[simp] theorem d1_at {d : D} {f : D → Option D} : d1 [d] f = f d := rfl
@[simp] theorem d2_at {d e : D} {f : D → D → Option D} : d2 [d, e] f = f d e := rfl
@[simp] theorem lenD_at {d : D} : lenD d = (dlen d).map fun (n : Nat) => D.int (n : Int) := rfl
section
variable {xs : List D} {d : D} {lo hi : Option Int} {s : Str}
variable {kvs : List (Key × D)} {kts : List (List Key × D)} {i : Int} {b : Bool}
@[simp] theorem ty_n : tyN .non = some "NoneType" := rfl
@[simp] theorem ty_b : tyN (.bl b) = some "bool" := rfl
@[simp] theorem ty_i : tyN (.int i) = some "int" := rfl
@[simp] theorem ty_s : tyN (.str s) = some "str" := rfl
@[simp] theorem ty_t : tyN (.tup xs) = some "tuple" := rfl
@[simp] theorem ty_l : tyN (.lst xs) = some "list" := rfl
@[simp] theorem ty_k : tyN (.dk kvs) = some "dict" := rfl
@[simp] theorem ty_d : tyN (.dt kts) = some "dict" := rfl
@[simp] theorem len_t : dlen (.tup xs) = some xs.length := rfl
@[simp] theorem len_l : dlen (.lst xs) = some xs.length := rfl
@[simp] theorem len_s : dlen (.str s) = if s.length ≤ sizeLine then some s.length else none := rfl
@[simp] theorem len_k : dlen (.dk kvs) = some kvs.length := rfl
@[simp] theorem len_d : dlen (.dt kts) = some kts.length := rfl
@[simp] theorem tuple_t : dtuple (.tup xs) = some (.tup xs) := rfl
@[simp] theorem tuple_l : dtuple (.lst xs) = some (.tup xs) := rfl
@[simp] theorem isN_n : isN .non = true := rfl
@[simp] theorem isN_i : isN (.int i) = false := rfl
@[simp] theorem isN_s : isN (.str s) = false := rfl
@[simp] theorem isN_t : isN (.tup xs) = false := rfl
@[simp] theorem isN_l : isN (.lst xs) = false := rfl
@[simp] theorem isN_b : isN (.bl b) = false := rfl
@[simp] theorem items_t : ditems (.tup xs) = some xs := rfl
@[simp] theorem items_l : ditems (.lst xs) = some xs := rfl
@[simp] theorem items_s : ditems (.str s) = if s.length ≤ sizeLine then some (s.cps.toList.map fun c => .str ⟨#[c]⟩) else none := rfl
@[simp] theorem slc_t : dslc (.tup xs) lo hi = some (.tup (cutD xs lo hi)) := rfl
@[simp] theorem slc_l : dslc (.lst xs) lo hi = some (.lst (cutD xs lo hi)) := rfl
@[simp] theorem list_t : dlist (.tup xs) = some (.lst xs) := rfl
@[simp] theorem list_l : dlist (.lst xs) = some (.lst xs) := rfl
@[simp] theorem aug_a {i j : Int} : daug .add (.int i) (.int j) = some (.int (i + j)) := rfl
@[simp] theorem aug_s {i j : Int} : daug .sub (.int i) (.int j) = some (.int (i - j)) := rfl
@[simp] theorem zip_l {ys : List D} : zipD (.lst xs) (.lst ys) = some (zipP xs ys) := rfl
@[simp] theorem zip_t {ys : List D} : zipD (.tup xs) (.tup ys) = some (zipP xs ys) := rfl
@[simp] theorem enum_l : enumD (.lst xs) = some (enumP xs) := rfl
@[simp] theorem enum_t : enumD (.tup xs) = some (enumP xs) := rfl
end
section
variable {a b : Int} {x y : Str}
theorem alike_ii : W.alike (.int a) (.int b) = true := rfl
theorem alike_ss : W.alike (.str x) (.str y) = true := rfl
@[simp] theorem lt_int : dcmp .lt (.int a) (.int b) = some (decide (a < b)) := by
  show (some (W.dataLt (.int a) (.int b)) : Option Bool) = _
  rw [W.dataLt_int]
@[simp] theorem gt_int : dcmp .gt (.int a) (.int b) = some (decide (b < a)) := by
  show (some (W.dataLt (.int b) (.int a)) : Option Bool) = _
  rw [W.dataLt_int]
@[simp] theorem le_int : dcmp .le (.int a) (.int b) = some (decide (a ≤ b)) := by
  show (some (!W.dataLt (.int b) (.int a)) : Option Bool) = _
  rw [W.dataLt_int, W.not_lt_int]
@[simp] theorem ge_int : dcmp .ge (.int a) (.int b) = some (decide (b ≤ a)) := by
  show (some (!W.dataLt (.int a) (.int b)) : Option Bool) = _
  rw [W.dataLt_int, W.not_lt_int]
@[simp] theorem lt_str : dcmp .lt (.str x) (.str y) = some (decide (x.cps.toList < y.cps.toList)) := by
  show (some (W.dataLt (.str x) (.str y)) : Option Bool) = _
  rw [W.dataLt_str]
@[simp] theorem eq_int : dcmp .eq (.int a) (.int b) = some (decide (a = b)) := rfl
@[simp] theorem ne_int : dcmp .ne (.int a) (.int b) = some (!decide (a = b)) := rfl
@[simp] theorem eq_str : dcmp .eq (.str x) (.str y) = some (decide (x = y)) := by
  show (some (x == y) : Option Bool) = _
  congr 1
@[simp] theorem ne_str : dcmp .ne (.str x) (.str y) = some (!decide (x = y)) := by
  show (some (!(x == y)) : Option Bool) = _
  congr 1
@[simp] theorem eq_bl {p q : Bool} : dcmp .eq (.bl p) (.bl q) = some (p == q) := rfl
@[simp] theorem ne_bl {p q : Bool} : dcmp .ne (.bl p) (.bl q) = some (!(p == q)) := rfl
@[simp] theorem is_non {d : D} : dcmp .is d .non = some (isN d) := rfl
@[simp] theorem nis_non {d : D} : dcmp .nis d .non = some (!isN d) := rfl
@[simp] theorem add_int : dbin .add (.int a) (.int b) = some (.int (a + b)) := rfl
@[simp] theorem sub_int : dbin .sub (.int a) (.int b) = some (.int (a - b)) := rfl
theorem pys_strs : ∀ xs : List Str, oall (xs.map fun x => pyN 39 (.str x)) = some (xs.map .str)
  | [] => rfl
  | x :: xs => by
    show (oall (xs.map fun x => pyN 39 (.str x))).map (PyData.str x :: ·) = _
    rw [pys_strs xs]; rfl
theorem any_strs (xs : List Str) : ((xs.map PyData.str).any fun z => PyData.eqv z (.str x)) = decide (x ∈ xs) := by
  induction xs with
  | nil => rfl
  | cons y ys ih =>
    rw [List.map_cons, List.any_cons, ih]
    show ((y == x) || decide (x ∈ ys)) = decide (x ∈ y :: ys)
    by_cases h : y = x
    · subst h; simp
    · have h1 : (y == x) = false := beq_eq_false_iff_ne.mpr h
      have h2 : ¬ x = y := fun e => h e.symm
      rw [h1]; simp [h2]
theorem cont_strs {xs : List Str} : dcont (.str x) (.tup (xs.map .str)) = some (decide (x ∈ xs)) := by
  show (match py (.str x), pys (xs.map .str) with
    | some d, some ds => some (ds.any fun z => PyData.eqv z d)
    | _, _ => none) = _
  have e : pys (xs.map .str) = some (xs.map PyData.str) := by
    show oall ((xs.map D.str).map (pyN 39)) = _
    rw [List.map_map]
    exact pys_strs xs
  rw [e]
  show some (_) = _
  rw [any_strs]
theorem cont_strL {xs : List Str} : dcont (.str x) (.lst (xs.map .str)) = some (decide (x ∈ xs)) := by
  show (match py (.str x), pys (xs.map .str) with
    | some d, some ds => some (ds.any fun z => PyData.eqv z d)
    | _, _ => none) = _
  have e : pys (xs.map .str) = some (xs.map PyData.str) := by
    show oall ((xs.map D.str).map (pyN 39)) = _
    rw [List.map_map]
    exact pys_strs xs
  rw [e]
  show some (_) = _
  rw [any_strs]
@[simp] theorem in_strs {xs : List Str} : dcmp .in_ (.str x) (.tup (xs.map .str)) = some (decide (x ∈ xs)) := cont_strs
@[simp] theorem nin_strs {xs : List Str} : dcmp .nin (.str x) (.tup (xs.map .str)) = some (!decide (x ∈ xs)) := by
  show (dcont _ _).map _ = _
  rw [cont_strs]; rfl
@[simp] theorem in_strL {xs : List Str} : dcmp .in_ (.str x) (.lst (xs.map .str)) = some (decide (x ∈ xs)) := cont_strL
@[simp] theorem nin_strL {xs : List Str} : dcmp .nin (.str x) (.lst (xs.map .str)) = some (!decide (x ∈ xs)) := by
  show (dcont _ _).map _ = _
  rw [cont_strL]; rfl
@[simp] theorem in_str : dcmp .in_ (.str x) (.str y) = some (strIn x y) := rfl
@[simp] theorem nin_str : dcmp .nin (.str x) (.str y) = some (!strIn x y) := rfl
end
theorem at_nat {α : Type} {xs : List α} {n : Nat} : atI xs (n : Int) = xs[n]? := by
  unfold atI ixN
  have h : (0 : Int) ≤ (n : Int) := by omega
  rw [if_pos h]
  by_cases h1 : (n : Int) < (xs.length : Int)
  · rw [if_pos h1]; rfl
  · rw [if_neg h1]
    rw [List.getElem?_eq_none (by omega)]; rfl
section
variable {α : Type} {a b c d e : α} {xs : List α}
@[simp] theorem at0 : atI (a :: xs) 0 = some a := at_nat (n := 0)
@[simp] theorem at1 : atI (a :: b :: xs) 1 = some b := at_nat (n := 1)
@[simp] theorem at2 : atI (a :: b :: c :: xs) 2 = some c := at_nat (n := 2)
@[simp] theorem at3 : atI (a :: b :: c :: d :: xs) 3 = some d := at_nat (n := 3)
@[simp] theorem at4 : atI (a :: b :: c :: d :: e :: xs) 4 = some e := at_nat (n := 4)
end
section
variable {xs : List D} {i : Int}
@[simp] theorem ix_tup : didx (.tup xs) (.int i) = atI xs i := rfl
@[simp] theorem ix_lst : didx (.lst xs) (.int i) = atI xs i := rfl
theorem cut1 : cutD xs (some 1) none = xs.drop 1 := by
  unfold cutD HT.sIx
  cases xs with
  | nil => rfl
  | cons x r => simp
@[simp] theorem prm_len {d : D} : dprim .len [d] = (dlen d).map fun n => .int (n : Nat) := rfl
@[simp] theorem prm_list {d : D} : dprim .list [d] = dlist d := rfl
@[simp] theorem prm_tuple {d : D} : dprim .tuple [d] = dtuple d := rfl
@[simp] theorem prm_sorted : dprim .sorted [.lst xs] = (sortD xs).map .lst := rfl
@[simp] theorem prm_sortset : dprim .sortset [.lst xs] = sortsetD xs := rfl
@[simp] theorem prm_index {x : D} : dprim .index [.lst xs, x] = idxD xs x := rfl
@[simp] theorem prm_int : dprim .int [.int i] = some (.int i) := rfl
@[simp] theorem prm_max2 {j : Int} : dprim .max2 [.int i, .int j] = some (.int (if j > i then j else i)) := rfl
@[simp] theorem prm_min2 {j : Int} : dprim .min2 [.int i, .int j] = some (.int (if j < i then j else i)) := rfl
@[simp] theorem prm_isTy {T : String} {d : D} : dprim (.isTy T) [d] = isTyD T d := rfl
@[simp] theorem isTy_at {T : String} {d : D} : isTyD T d = if T == "tuple" || T == "str" || T == "int" || T == "bool" || T == "list" || T == "dict" then (tyN d).map fun t => .bl (t == T || (t == "bool" && T == "int")) else none := rfl
@[simp] theorem prm_isSeq {d : D} : dprim .isSeq [d] = (tyN d).map fun t => .bl (t == "tuple" || t == "list") := rfl
@[simp] theorem prm_isCls {C C' : Str} {fs : List (Str × D)} : dprim (.isCls C) [.ins C' fs] = if C' = C then some (.bl true) else none := rfl
end
@[simp] theorem str_inj {a b : String} : (Str.ofString a = Str.ofString b) = (a = b) := by
  refine propext ⟨fun h => ?_, fun h => by rw [h]⟩
  rw [Str.ofString_eq_toList, Str.ofString_eq_toList] at h
  have h : (a.toList.map Char.toNat).toArray = (b.toList.map Char.toNat).toArray := congrArg Str.cps h
  have h2 : a.toList.map Char.toNat = b.toList.map Char.toNat := by
    have := congrArg Array.toList h
    exact this
  have : a.toList = b.toList := (List.map_inj_right fun x y e => Char.ext (UInt32.toNat_inj.mp e)).mp h2
  exact String.toList_inj.mp this
@[simp] theorem look_str {α : Type} {a b : String} {v : α} {r : List (Str × α)} : List.lookup (Str.ofString a) ((Str.ofString b, v) :: r) = if a = b then some v else List.lookup (Str.ofString a) r := by
  rw [List.lookup_cons]
  by_cases h : a = b
  · subst h; simp
  · have : (Str.ofString a == Str.ofString b) = false := beq_eq_false_iff_ne.mpr fun e => h (str_inj.mp e)
    rw [this, if_neg h]
@[simp] theorem look_nil {α : Type} {a : Str} : List.lookup a ([] : List (Str × α)) = none := rfl
theorem len_ok {n : Nat} (h : n < 1000000) : n ≤ sizeLine := by rw [sizeLine_eq]; omega
end Rf
end

section
set_option Elab.async false
set_option linter.all false
set_option maxRecDepth 100000
set_option maxHeartbeats 1000000
/-! What the checks of a world's parts tell. -/
namespace Rf
open PySem L2
abbrev Bd : Type := Str × List Str × Nat × Str × Str
structure Pt where
  kinds : List Str
  ups : List (Str × Str)
  cvs : List (Str × Str)
  bods : List Bd
def sT (xs : List Str) : D := .tup (xs.map .str)
def pD (p : Str × Str) : D := .tup [.str p.1, .str p.2]
def pT (ps : List (Str × Str)) : D := .tup (ps.map pD)
def bD (b : Bd) : D := .tup [.str b.1, sT b.2.1, .int (b.2.2.1 : Nat), .str b.2.2.2.1, .str b.2.2.2.2]
def bT (bs : List Bd) : D := .tup (bs.map bD)
/-- the defs of every text with worlds -/
structure Bs (l : Lw) : Prop where
  is_number : Has l c_is_number
  check : Has l c_check
  are_rising : Has l c_are_rising
  is_name : Has l c_is_name
  are_names : Has l c_are_names
  is_pattern : Has l c_is_pattern
  is_body : Has l c_is_body
  order : Has l c_Order_u__init_u
  is_below : Has l c_Order_is_below
  is_pair : Has l c_is_pair
  are_pairs : Has l c_are_pairs
  are_kinds : Has l c_are_kinds
  has_no_ring : Has l c_has_no_ring
  world : Has l c_World_u__init_u
  rank_found : Has l c_World_u_rank_found
  are_bodies : Has l c_are_bodies
/-- a name, as is_name asks -/
def nmB (x : Str) : Bool := decide (x.cps.toList.length ≤ 6) && (match x.cps.toList with | c :: _ => strIn ⟨#[c]⟩ "abcdefghijklmnopqrstuvwxyz" | [] => false) && x.cps.toList.all fun c => strIn ⟨#[c]⟩ "abcdefghijklmnopqrstuvwxyz" || strIn ⟨#[c]⟩ "0123456789"
def rise {α : Type} (lt : α → α → Bool) : List α → Bool
  | a :: b :: r => lt a b && rise lt (b :: r)
  | _ => true
theorem rise_any {α : Type} (lt : α → α → Bool) : ∀ xs : List α, (xs.zip (xs.drop 1)).any (fun p => !lt p.1 p.2) = !rise lt xs
  | [] => rfl
  | [a] => rfl
  | a :: b :: r => by
    have ih := rise_any lt (b :: r)
    show ((!lt a b) || ((b :: r).zip ((b :: r).drop 1)).any _) = _
    rw [ih]
    show _ = !(lt a b && rise lt (b :: r))
    rw [Bool.not_and]
theorem zip_enc {α : Type} (enc : α → D) (xs : List α) : zipP (xs.map enc) ((xs.map enc).drop 1) = (xs.zip (xs.drop 1)).map fun p => .tup [enc p.1, enc p.2] := by
  unfold zipP
  rw [← List.map_drop, List.zip_map, List.map_map]
  rfl
section
variable {l : Lw} (B : Bs l) {n : Nat}
include B
theorem check_t (hn : 1 ≤ n) {x : D} : l.orc n (.fn "check") [.bl true, x] = some (.non, []) := by
  apply Ok.eq
  refine op_check B.check hn ?_
  simp [k_check]
theorem rising_t {α : Type} {enc : α → D} {lt : α → α → Bool} (hn : 1 ≤ n) (hlt : ∀ a b, dcmp .lt (enc a) (enc b) = some (lt a b)) {xs : List α} : l.orc n (.fn "are_rising") [.tup (xs.map enc)] = some (.bl (rise lt xs), []) := by
  apply Ok.eq
  refine op_are_rising B.are_rising hn ?_
  simp [k_are_rising, cut1, zipD]
  refine ok_qp (xs.zip (xs.drop 1)) (fun p : α × α => .tup [enc p.1, enc p.2]) (fun p => !lt p.1 p.2) (by simpa using zip_enc enc xs) (fun p _ => by simp [hlt]) ?_
  have e := rise_any lt xs
  rw [List.drop_one] at e
  simp [e]
theorem name_t (hn : 1 ≤ n) {x : Str} (h : nmB x = true) : l.orc n (.fn "is_name") [.str x] = some (.bl true, []) := by
  obtain ⟨xs⟩ := x
  obtain ⟨cs⟩ := xs
  cases cs with
  | nil => cases h
  | cons c r =>
    unfold nmB at h
    simp only [Bool.and_eq_true, decide_eq_true_eq] at h
    obtain ⟨⟨h1, h2⟩, h3⟩ := h
    apply Ok.eq
    refine op_is_name B.is_name hn ?_
    have hl : Str.length ⟨⟨c :: r⟩⟩ ≤ sizeLine := len_ok (by show (c :: r).length < _; omega)
    have hl6 : Str.length ⟨⟨c :: r⟩⟩ ≤ 6 := h1
    have hl1 : 1 ≤ Str.length ⟨⟨c :: r⟩⟩ := by show 1 ≤ (c :: r).length; simp
    have e0 : didx (.str ⟨⟨c :: r⟩⟩) (.int 0) = some (.str ⟨#[c]⟩) := by
      show (if Str.length ⟨⟨c :: r⟩⟩ ≤ sizeLine then (atI (c :: r) 0).map fun c => D.str ⟨#[c]⟩ else none) = _
      rw [if_pos hl, at0]; rfl
    have i1 : (1 : Int) ≤ (Str.length ⟨⟨c :: r⟩⟩ : Nat) := by omega
    have i2 : ((Str.length ⟨⟨c :: r⟩⟩ : Nat) : Int) ≤ 6 := by omega
    simp [k_is_name, hl, i1, i2, e0, h2]
    refine ok_qp (c :: r) (fun c => .str ⟨#[c]⟩) (fun _ => false) (by simp) (fun p hp => ?_) (by simp)
    have := List.all_eq_true.mp h3 p hp
    rw [Bool.or_eq_true] at this
    rcases this with q | q
    · simp [q]
    · simp [q]
theorem names_t (hn : 1 ≤ n) {xs ks : List Str} (h : ∀ x ∈ xs, x ∈ ks) : l.orc n (.fn "are_names") [sT xs, sT ks] = some (.bl true, []) := by
  apply Ok.eq
  refine op_are_names B.are_names hn ?_
  simp [k_are_names, sT]
  exact ok_qp xs .str (fun _ => false) rfl (fun p hp => by simp [h p hp]) (by simp)
theorem number_t (hn : 1 ≤ n) {i lo hi : Int} (h1 : lo ≤ i) (h2 : i ≤ hi) : l.orc n (.fn "is_number") [.int i, .int lo, .int hi] = some (.bl true, []) := by
  apply Ok.eq
  refine op_is_number B.is_number hn ?_
  simp [k_is_number, h1, h2]
theorem pattern_t (hn : 2 ≤ n) {ps ks : List Str} {m : Nat} {r : Str} (h : ∀ x ∈ ps, x ∈ ks) (h4 : ps.length ≤ 4) (hm : m ≤ ps.length) (hr : r = "" ∨ r ∈ ks) : l.orc n (.fn "is_pattern") [.tup [sT ps, .int (m : Nat), .str r], sT ks] = some (.bl true, []) := by
  apply Ok.eq
  refine op_is_pattern B.is_pattern (by omega) ?_
  have a1 := names_t B (n := n - 1) (by omega) h
  have a2 := number_t B (n := n - 1) (by omega) (i := (m : Nat)) (lo := 0) (hi := (ps.length : Nat)) (by omega) (by omega)
  have h4' : ¬ (4 : Int) < (ps.length : Nat) := by omega
  have h4'' : ((ps.length : Nat) : Int) ≤ 4 := by omega
  simp [k_is_pattern, a1]
  simp [sT, h4']
  rw [show D.int (ps.length : Nat) = D.int ((ps.length : Nat) : Int) from rfl, a2]
  rcases hr with q | q
  · simp [q, h4'']
  · simp [q, h4'']
theorem rising_l {α : Type} {enc : α → D} {lt : α → α → Bool} (hn : 1 ≤ n) (hlt : ∀ a b, dcmp .lt (enc a) (enc b) = some (lt a b)) {xs : List α} : l.orc n (.fn "are_rising") [.lst (xs.map enc)] = some (.bl (rise lt xs), []) := by
  apply Ok.eq
  refine op_are_rising B.are_rising hn ?_
  simp [k_are_rising, cut1, zipD]
  refine ok_qp (xs.zip (xs.drop 1)) (fun p : α × α => .tup [enc p.1, enc p.2]) (fun p => !lt p.1 p.2) (by simpa using zip_enc enc xs) (fun p _ => by simp [hlt]) ?_
  have e := rise_any lt xs
  rw [List.drop_one] at e
  simp [e]
theorem body_t (hn : 3 ≤ n) {b : Bd} {ks : List Str} (h0 : nmB b.1 = true) (h : ∀ x ∈ b.2.1, x ∈ ks) (h4 : b.2.1.length ≤ 4) (hm : b.2.2.1 ≤ b.2.1.length) (hr : b.2.2.2.1 = "" ∨ b.2.2.2.1 ∈ ks) (hs : b.2.2.2.2 ∈ ks) : l.orc n (.fn "is_body") [bD b, sT ks] = some (.bl true, []) := by
  obtain ⟨nm, ps, m, r, s⟩ := b
  apply Ok.eq
  refine op_is_body B.is_body (by omega) ?_
  have a1 := name_t B (n := n - 1) (by omega) h0
  have a2 := pattern_t B (n := n - 1) (by omega) h h4 hm hr
  have a3 := names_t B (n := n - 1) (by omega) (xs := [s]) (ks := ks) (by simpa using hs)
  have c1 : cutD [D.str nm, sT ps, .int (m : Nat), .str r, .str s] (some 1) (some 4) = [sT ps, .int (m : Nat), .str r] := by
    simp [cutD, HT.sIx]
  have c2 : cutD [D.str nm, sT ps, .int (m : Nat), .str r, .str s] (some 4) none = [.str s] := by
    simp [cutD, HT.sIx]
  have e3 : sT [s] = .tup [.str s] := rfl
  rw [e3] at a3
  simp [k_is_body, bD, a1, c1, c2, a2, a3]
theorem pair_t (hn : 1 ≤ n) {p : Str × Str} {ks : List Str} (h1 : p.1 ∈ ks) (h2 : p.2 ∈ ks) (h3 : p.1 ≠ p.2) : l.orc n (.fn "is_pair") [pD p, sT ks] = some (.bl true, []) := by
  apply Ok.eq
  refine op_is_pair B.is_pair (by omega) ?_
  simp [k_is_pair, pD, sT]
  refine ok_qp [p.1, p.2] .str (fun _ => false) rfl (fun x _ => by simp) ?_
  simp [h1, h2, h3]
end
def ltS (a b : Str) : Bool := decide (a.cps.toList < b.cps.toList)
def ltP (p q : Str × Str) : Bool := if p.1 = q.1 then ltS p.2 q.2 else ltS p.1 q.1
theorem lt_strS {a b : Str} : dcmp .lt (.str a) (.str b) = some (ltS a b) := lt_str
theorem dlt_pair {p q : Str × Str} : W.dataLt (.tuple [.str p.1, .str p.2]) (.tuple [.str q.1, .str q.2]) = ltP p q := by
  rw [W.dataLt_pair rfl rfl, W.dataLt_str, W.dataLt_str]
  have e : ∀ x y : Str, PyData.eqv (.str x) (.str y) = decide (x = y) := fun x y => by
    show (x == y) = _
    by_cases h : x = y
    · subst h; simp
    · rw [beq_eq_false_iff_ne.mpr h]; simp [h]
  rw [e, e]
  unfold ltP
  by_cases h : p.1 = q.1
  · rw [if_pos (by simpa using h), if_pos h]
    by_cases h2 : p.2 = q.2
    · rw [if_pos (by simpa using h2), h2]
      unfold ltS
      rw [decide_eq_false (List.lt_irrefl _)]
    · rw [if_neg (by simpa using h2)]; rfl
  · rw [if_neg (by simpa using h), if_neg h]; rfl
theorem lt_pD {p q : Str × Str} : dcmp .lt (pD p) (pD q) = some (ltP p q) := by
  show (dord (pD p) (pD q)).map (fun p => W.dataLt p.1 p.2) = _
  have e : dord (pD p) (pD q) = some (.tuple [.str p.1, .str p.2], .tuple [.str q.1, .str q.2]) := rfl
  rw [e]
  exact congrArg some dlt_pair
theorem flat1 {α β : Type} (f : α → β) : ∀ xs : List α, (xs.flatMap fun x => [f x]) = xs.map f
  | [] => rfl
  | x :: xs => by rw [List.flatMap_cons, flat1 f xs]; rfl
section
variable {l : Lw} (B : Bs l) {n : Nat}
include B
theorem pairs_t (hn : 2 ≤ n) {ps : List (Str × Str)} {ks : List Str} {m : Nat} (h : ∀ p ∈ ps, p.1 ∈ ks ∧ p.2 ∈ ks ∧ p.1 ≠ p.2) (hl : ps.length ≤ m) (hr : rise ltP ps = true) : l.orc n (.fn "are_pairs") [pT ps, sT ks, .int (m : Nat)] = some (.bl true, []) := by
  apply Ok.eq
  refine op_are_pairs B.are_pairs (by omega) ?_
  have a1 := rising_t B (n := n - 1) (by omega) (enc := pD) (lt := ltP) (fun _ _ => lt_pD) (xs := ps)
  have hl' : ((ps.length : Nat) : Int) ≤ (m : Nat) := by omega
  simp [k_are_pairs, pT, hl']
  refine ⟨hl, ok_qp ps pD (fun _ => false) rfl (fun x hx => ?_) ?_⟩
  · obtain ⟨q1, q2, q3⟩ := h x hx
    have := pair_t B (n := n - 1) (by omega) q1 q2 q3
    simp [this]
  · simp [a1, hr]
theorem kinds_t (hn : 2 ≤ n) {ks : List Str} (h : ∀ k ∈ ks, nmB k = true) (h1 : 1 ≤ ks.length) (h6 : ks.length ≤ 6) (hr : rise ltS ks = true) : l.orc n (.fn "are_kinds") [sT ks] = some (.bl true, []) := by
  apply Ok.eq
  refine op_are_kinds B.are_kinds (by omega) ?_
  have a1 := rising_t B (n := n - 1) (by omega) (enc := .str) (lt := ltS) (fun _ _ => lt_strS) (xs := ks)
  have i1 : (1 : Int) ≤ (ks.length : Nat) := by omega
  have i2 : ((ks.length : Nat) : Int) ≤ 6 := by omega
  simp [k_are_kinds, sT, i1, i2]
  refine ok_qp ks .str (fun _ => false) rfl (fun x hx => ?_) ?_
  · have := name_t B (n := n - 1) (by omega) (h x hx)
    simp [this]
  · simp [a1, hr]
/-- a body, as is_body asks -/
structure BdOk (ks : List Str) (b : Bd) : Prop where
  nm : nmB b.1 = true
  ps : ∀ x ∈ b.2.1, x ∈ ks
  l4 : b.2.1.length ≤ 4
  mu : b.2.2.1 ≤ b.2.1.length
  re : b.2.2.2.1 = "" ∨ b.2.2.2.1 ∈ ks
  rs : b.2.2.2.2 ∈ ks
theorem bodies_t (hn : 4 ≤ n) {bs : List Bd} {ks : List Str} (h : ∀ b ∈ bs, BdOk ks b) (hl : bs.length ≤ 12) (hr : rise ltS (bs.map (·.1)) = true) : l.orc n (.fn "are_bodies") [bT bs, sT ks] = some (.bl true, []) := by
  apply Ok.eq
  refine op_are_bodies B.are_bodies (by omega) ?_
  have a1 := rising_l B (n := n - 1) (by omega) (enc := .str) (lt := ltS) (fun _ _ => lt_strS) (xs := bs.map (·.1))
  have hl' : ((bs.length : Nat) : Int) ≤ 12 := by omega
  simp [k_are_bodies, bT, hl']
  refine ok_qp bs bD (fun _ => false) rfl (fun x hx => ?_) ?_
  · have b := h x hx
    have := body_t B (n := n - 1) (by omega) b.nm b.ps b.l4 b.mu b.re b.rs
    simp [this]
  · simp
    refine ok_gp bs bD (fun b => [.str b.1]) rfl (fun x hx => by simp [bD]) ?_
    have e : (bs.flatMap fun b => [D.str b.1]) = (bs.map (·.1)).map .str := by rw [flat1, List.map_map]; rfl
    rw [e]
    refine ⟨len_ok (by simp; omega), ?_⟩
    simp only [Ok, a1, hr]
end
end Rf
end

section
set_option Elab.async false
set_option linter.all false
set_option maxRecDepth 100000
set_option maxHeartbeats 1000000
/-! Orders of kinds. -/
namespace Rf
open PySem L2
def addS (s : List Str) (x : Str) : List Str := if x ∈ s then s else s ++ [x]
def stepP (s : List Str) (p : Str × Str) : List Str := if p.1 ∈ s then addS s p.2 else s
def turnP (ps : List (Str × Str)) (s : List Str) : List Str := ps.foldl stepP s
def gs (ps : List (Str × Str)) : Nat → List Str → List Str
  | 0, s => s
  | n + 1, s => gs ps n (turnP ps s)
def aboveS (names : List Str) (ps : List (Str × Str)) (x : Str) : List Str := gs ps names.length [x]
def setDk (s : List Str) : D := .dk (s.map fun x => (.inr x, .bl true))
def ordD (names : List Str) (S : Str → List Str) : D := .ins "Order" [("_names", sT names), ("_above", .dk (names.map fun nm => (.inr nm, setDk (S nm))))]
theorem valD_map {f : Str → D} {nm : Str} : ∀ {names : List Str}, nm ∈ names → valD (names.map fun x => ((.inr x : Key), f x)) (.inr nm) = some (f nm)
  | [], h => by cases h
  | x :: r, h => by
    unfold valD
    rw [List.map_cons, List.find?_cons]
    by_cases e : x = nm
    · subst e; simp
    · have : decide ((Sum.inr x : Key) = Sum.inr nm) = false := by simpa using e
      rw [this]
      refine valD_map (f := f) ?_
      rcases List.mem_cons.mp h with h | h
      · exact absurd h.symm e
      · exact h
theorem valD_mapn {f : Str → D} {nm : Str} : ∀ {names : List Str}, nm ∉ names → valD (names.map fun x => ((.inr x : Key), f x)) (.inr nm) = none
  | [], h => rfl
  | x :: r, h => by
    unfold valD
    rw [List.map_cons, List.find?_cons]
    have : decide ((Sum.inr x : Key) = Sum.inr nm) = false := by
      have : x ≠ nm := fun e => h (by rw [e]; exact List.mem_cons_self)
      simpa using this
    rw [this]
    exact valD_mapn (f := f) fun q => h (List.mem_cons_of_mem _ q)
theorem in_set {s : List Str} {x : Str} : (valD (s.map fun x => ((.inr x : Key), D.bl true)) (.inr x)).isSome = decide (x ∈ s) := by
  by_cases h : x ∈ s
  · rw [valD_map (f := fun _ => D.bl true) h]; simp [h]
  · rw [valD_mapn (f := fun _ => D.bl true) h]; simp [h]
theorem any_key {f : Str → D} {names : List Str} {x : Str} : ((names.map fun y => ((.inr y : Key), f y)).any fun kv => decide (kv.1 = Sum.inr x)) = decide (x ∈ names) := by
  induction names with
  | nil => simp
  | cons y r ih =>
    rw [List.map_cons, List.any_cons, ih]
    by_cases h : y = x
    · subst h; simp
    · have h2 : ¬ x = y := fun e => h e.symm
      have : decide ((Sum.inr y : Key) = Sum.inr x) = false := by simpa using h
      rw [this]; simp [h2]
theorem putD_map {f : Str → D} {nm : Str} {v : D} {names : List Str} (h : nm ∈ names) : putD (names.map fun x => ((.inr x : Key), f x)) (.inr nm) v = names.map fun x => (.inr x, if x = nm then v else f x) := by
  unfold putD
  rw [any_key, if_pos (by simpa using h), List.map_map]
  refine List.map_congr_left fun x hx => ?_
  show (if (Sum.inr x : Key) = Sum.inr nm then (Sum.inr x, v) else (Sum.inr x, f x)) = _
  by_cases e : x = nm
  · subst e; simp
  · have : ¬ (Sum.inr x : Key) = Sum.inr nm := by simpa using e
    rw [if_neg this, if_neg e]
theorem putD_set {s : List Str} {x : Str} : putD (s.map fun x => ((.inr x : Key), D.bl true)) (.inr x) (.bl true) = (addS s x).map fun x => (.inr x, .bl true) := by
  by_cases h : x ∈ s
  · rw [putD_map (f := fun _ => D.bl true) h]
    unfold addS
    rw [if_pos h]
    refine List.map_congr_left fun y _ => ?_
    split <;> rfl
  · unfold putD addS
    rw [any_key (f := fun _ => D.bl true), if_neg (by simpa using h), if_neg h, List.map_append]
    rfl
theorem len_sub {α : Type} [DecidableEq α] : ∀ {l m : List α}, l.Nodup → (∀ x ∈ l, x ∈ m) → l.length ≤ m.length
  | [], m, _, _ => Nat.zero_le _
  | x :: l, m, d, h => by
    obtain ⟨d1, d2⟩ := List.nodup_cons.mp d
    have hx := h x List.mem_cons_self
    have ih := len_sub (l := l) (m := m.erase x) d2 fun y hy => (List.mem_erase_of_ne fun e => d1 (by rw [← e]; exact hy)).mpr (h y (List.mem_cons_of_mem _ hy))
    rw [List.length_erase_of_mem hx] at ih
    have : 0 < m.length := List.length_pos_of_mem hx
    rw [List.length_cons]; omega
theorem nd_addS {s : List Str} {x : Str} (h : s.Nodup) : (addS s x).Nodup := by
  unfold addS
  split
  · exact h
  · rename_i hx
    exact List.nodup_append.mpr ⟨h, by simp, fun a ha b hb e => hx (by rw [List.mem_singleton] at hb; rw [← hb, ← e]; exact ha)⟩
theorem mem_addS {s : List Str} {x y : Str} : y ∈ addS s x ↔ y ∈ s ∨ y = x := by
  unfold addS
  split
  · rename_i h
    exact ⟨.inl, fun q => q.elim id fun e => e ▸ h⟩
  · simp
theorem nd_stepP {s : List Str} {p : Str × Str} (h : s.Nodup) : (stepP s p).Nodup := by
  unfold stepP
  split
  · exact nd_addS h
  · exact h
theorem mem_stepP {s : List Str} {p : Str × Str} {y : Str} : y ∈ stepP s p ↔ y ∈ s ∨ (p.1 ∈ s ∧ y = p.2) := by
  unfold stepP
  split
  · rename_i h
    rw [mem_addS]
    exact ⟨fun q => q.imp id fun e => ⟨h, e⟩, fun q => q.imp id fun e => e.2⟩
  · rename_i h
    exact ⟨.inl, fun q => q.elim id fun e => absurd e.1 h⟩
/-- sets of kinds, each once -/
structure SOk (names : List Str) (s : List Str) : Prop where
  nd : s.Nodup
  sub : ∀ x ∈ s, x ∈ names
theorem SOk.len {names s : List Str} (h : SOk names s) : s.length ≤ names.length := len_sub h.nd h.sub
theorem SOk.step {names s : List Str} {p : Str × Str} (h : SOk names s) (hp : p.2 ∈ names) : SOk names (stepP s p) := ⟨nd_stepP h.nd, fun x hx => by
  rcases mem_stepP.mp hx with q | q
  · exact h.sub x q
  · rw [q.2]; exact hp⟩
theorem SOk.turn {names : List Str} : ∀ {ps : List (Str × Str)} {s : List Str}, SOk names s → (∀ p ∈ ps, p.2 ∈ names) → SOk names (turnP ps s)
  | [], s, h, _ => h
  | p :: ps, s, h, hp => SOk.turn (ps := ps) (h.step (hp p List.mem_cons_self)) fun q hq => hp q (List.mem_cons_of_mem _ hq)
theorem SOk.gs {names : List Str} {ps : List (Str × Str)} (hp : ∀ p ∈ ps, p.2 ∈ names) : ∀ {n : Nat} {s : List Str}, SOk names s → SOk names (gs ps n s)
  | 0, s, h => h
  | n + 1, s, h => SOk.gs hp (n := n) (h.turn hp)
theorem ordD_congr {names : List Str} {S T : Str → List Str} (h : ∀ x ∈ names, S x = T x) : ordD names S = ordD names T := by
  unfold ordD
  rw [List.map_congr_left fun x hx => by rw [h x hx]]
@[simp] theorem ix_dk {kvs : List (Key × D)} {x : Str} : didx (.dk kvs) (.str x) = valD kvs (.inr x) := rfl
@[simp] theorem in_dk {kvs : List (Key × D)} {x : Str} : dcmp .in_ (.str x) (.dk kvs) = some (valD kvs (.inr x)).isSome := rfl
@[simp] theorem nin_dk {kvs : List (Key × D)} {x : Str} : dcmp .nin (.str x) (.dk kvs) = some (!(valD kvs (.inr x)).isSome) := rfl
section
variable {O : Orc} {ρ : Env} {ω : Om} {P : (List Sel × D) × Om → Prop}
@[simp] theorem ok_pvar {j : Nat} : Ok (evPt O (.var j) ρ ω) P = Ok (omAt ω j) fun d => P (([], d), ω) := by
  show Ok (opt _ _) P = _
  rw [Ok_opt, Ok_map]
@[simp] theorem ok_pfld {p : IPt} {C f : Str} : Ok (evPt O (.fld p C f) ρ ω) P = Ok (evPt O p ρ ω) fun x => isIns C x.1.2 = true ∧ Ok (subD x.1.2 (.f f)) fun d => P ((x.1.1 ++ [.f f], d), x.2) := by
  show Ok (bnd _ _) P = _
  rw [Ok_bnd]
  congr 1; funext x
  show Ok (if isIns C x.1.2 = true then _ else _) P = _
  split <;> rename_i h
  · rw [Ok_opt, Ok_map]
    exact propext ⟨fun q => ⟨h, q⟩, fun q => q.2⟩
  · exact propext ⟨fun q => q.elim, fun q => h q.1⟩
@[simp] theorem ok_pidx {p : IPt} {e : IE} : Ok (evPt O (.idx p e) ρ ω) P = Ok (evPt O p ρ ω) fun x => Ok (ev O e ρ x.2) fun q => Ok (subD x.1.2 (.k q.1)) fun d => P ((x.1.1 ++ [.k q.1], d), q.2) := by
  show Ok (bnd _ _) P = _
  simp only [Ok_bnd, Ok_opt, Ok_map]
end
section
variable {C f : Str} {fs : List (Str × D)} {x d q : D} {xs : List D} {i : Int} {k : Str} {kvs : List (Key × D)} {kts : List (List Key × D)} {ss : List Sel} {s : Sel} {ω : Om} {j : Nat}
@[simp] theorem setFD_i : setFD C f (.ins C fs) x = if fs.length < 1000 then some (.ins C (putFD f x fs)) else none := by
  show (if C = C ∧ fs.length < 1000 then some (D.ins C (putFD f x fs)) else none) = _
  simp
@[simp] theorem subD_f : subD (.ins C fs) (.f f) = fs.lookup f := rfl
@[simp] theorem subD_l : subD (.lst xs) (.k (.int i)) = atI xs i := rfl
@[simp] theorem subD_k : subD (.dk kvs) (.k q) = (kOf q).bind fun k => valD kvs k := rfl
@[simp] theorem subD_t : subD (.dt kts) (.k q) = (ksOf q).bind fun k => valD kts k := rfl
@[simp] theorem putD1_f : putD1 (.ins C fs) (.f f) x = some (.ins C (putFD f x fs)) := rfl
@[simp] theorem putD1_l : putD1 (.lst xs) (.k (.int i)) x = (ixN xs.length i).map fun j => .lst (xs.set j x) := rfl
@[simp] theorem putD1_k : putD1 (.dk kvs) (.k q) x = (kOf q).map fun k => .dk (putD kvs k x) := rfl
@[simp] theorem putD1_t : putD1 (.dt kts) (.k q) x = (ksOf q).map fun k => .dt (putD kts k x) := rfl
@[simp] theorem isIns_i : isIns C (.ins C fs) = true := by unfold isIns; simp
@[simp] theorem setD_l : setD (.lst xs) (.int i) x = (ixN xs.length i).map fun j => .lst (xs.set j x) := rfl
@[simp] theorem setD_k : setD (.dk kvs) q x = if kvs.length < sizeLine then (kOf q).map fun k => .dk (putD kvs k x) else none := rfl
@[simp] theorem setD_t : setD (.dt kts) q x = if kts.length < sizeLine then (ksOf q).map fun k => .dt (putD kts k x) else none := rfl
@[simp] theorem appD_l : appD (.lst xs) x = if xs.length < sizeLine then some (.lst (xs ++ [x])) else none := rfl
@[simp] theorem putP_n : putP d [] x = some x := by cases d <;> rfl
@[simp] theorem putP_c : putP d (s :: ss) x = (subD d s).bind fun d' => (putP d' ss x).bind fun d1 => putD1 d s d1 := rfl
@[simp] theorem putFD_n : putFD f x [] = [(f, x)] := rfl
@[simp] theorem putFD_s {a b : String} {y : D} : putFD (Str.ofString a) x ((Str.ofString b, y) :: fs) = if a = b then (Str.ofString b, x) :: fs else (Str.ofString b, y) :: putFD (Str.ofString a) x fs := by
  show (if Str.ofString b = Str.ofString a then _ else _) = _
  by_cases h : a = b
  · subst h; simp
  · have : ¬ b = a := fun e => h e.symm
    simp [h, this]
@[simp] theorem putO_i : putO ω j ss x = (omAt ω j).bind fun d0 => (putP d0 ss x).map fun d2 => ω.set j (some d2) := rfl
end
@[simp] theorem viewOk_at {d : D} : viewOk d = flatD d := rfl
@[simp] theorem flat_t {xs : List D} : flatD (.tup xs) = flatDs xs := by unfold flatD; rfl
@[simp] theorem flat_n : flatD .non = true := by unfold flatD; rfl
@[simp] theorem flat_b {b : Bool} : flatD (.bl b) = true := by unfold flatD; rfl
@[simp] theorem flat_i {i : Int} : flatD (.int i) = true := by unfold flatD; rfl
@[simp] theorem flat_s {s : Str} : flatD (.str s) = true := by unfold flatD; rfl
@[simp] theorem flats_n : flatDs [] = true := by unfold flatDs; rfl
@[simp] theorem flats_c {x : D} {xs : List D} : flatDs (x :: xs) = (flatD x && flatDs xs) := by conv => lhs; unfold flatDs
@[simp] theorem root_v {j : Nat} : (IPt.var j).root = j := rfl
@[simp] theorem root_f {p : IPt} {C f : Str} : (IPt.fld p C f).root = p.root := rfl
@[simp] theorem root_i {p : IPt} {e : IE} : (IPt.idx p e).root = p.root := rfl
theorem ltLine {n : Nat} (h : n < 1000000) : n < sizeLine := by rw [sizeLine_eq]; omega
def OI1 (names : List Str) (ps : List (Str × Str)) (r : List Str) (ρ : Env) (ω : Om) : Prop := ∃ t nm lo hi S, ρ = [none, some (sT names), some (pT ps), t, nm, lo, hi] ∧ ω = [some (ordD names S)] ∧ (∀ x ∈ names, SOk names (S x)) ∧ ∀ x ∈ names, gs ps r.length (S x) = aboveS names ps x
def OI2 (names : List Str) (ps : List (Str × Str)) (turn : Str) (S : Str → List Str) (q : List (Str × Str)) (ρ : Env) (ω : Om) : Prop := ∃ nm lo hi S', ρ = [none, some (sT names), some (pT ps), some (.str turn), nm, lo, hi] ∧ ω = [some (ordD names S')] ∧ (∀ x ∈ names, SOk names (S' x)) ∧ (∀ p ∈ q, p ∈ ps) ∧ ∀ x ∈ names, turnP q (S' x) = turnP ps (S x)
def OI3 (names : List Str) (ps : List (Str × Str)) (turn : Str) (S' : Str → List Str) (a b : Str) (w : List Str) (ρ : Env) (ω : Om) : Prop := ∃ nm, (∃ pre, names = pre ++ w) ∧ ρ = [none, some (sT names), some (pT ps), some (.str turn), nm, some (.str a), some (.str b)] ∧ ω = [some (ordD names fun x => if x ∈ w then S' x else stepP (S' x) (a, b))]
section
variable {l : Lw} (B : Bs l) {n : Nat}
include B
theorem order_t (hn : 1 ≤ n) {names : List Str} {ps : List (Str × Str)} (nd : names.Nodup) (h6 : names.length ≤ 1000) (hp : ∀ p ∈ ps, p.1 ∈ names ∧ p.2 ∈ names) :
    l.orc n (.mt "Order" "__init__") [.ins "Order" [], sT names, pT ps] = some (.non, [ordD names (aboveS names ps)]) := by
  apply Ok.eq
  refine op_Order_u__init_u B.order hn ?_
  have lk : ∀ f : Str → D, valD (names.map fun x => ((.inr x : Key), f x)) = valD (names.map fun x => ((.inr x : Key), f x)) := fun _ => rfl
  simp [k_Order_u__init_u]
  refine ok_gp names .str (fun x => [.tup [.str x, setDk [x]]]) (by simp [sT]) (fun x _ => by simp [dmake, dstep, dput, kOf, putD, setDk, ltLine]) ?_
  have mk : ∀ (xs pre : List Str), (pre ++ xs).Nodup → (pre ++ xs).length ≤ 1000 → (xs.flatMap fun x => [D.tup [.str x, setDk [x]]]).foldl dstep (some (.dk (pre.map fun x => (.inr x, setDk [x])))) = some (.dk ((pre ++ xs).map fun x => (.inr x, setDk [x]))) := by
    intro xs
    induction xs with
    | nil => intro pre _ _; simp
    | cons x r ih =>
      intro pre hnd hl
      have hx : x ∉ pre := fun h => (List.nodup_append.mp hnd).2.2 x h x List.mem_cons_self rfl
      rw [List.flatMap_cons, List.foldl_append]
      have e : List.foldl dstep (some (.dk (pre.map fun x => (.inr x, setDk [x])))) [D.tup [.str x, setDk [x]]] = some (.dk ((pre ++ [x]).map fun x => (.inr x, setDk [x]))) := by
        have h1 : (pre.map fun x => ((.inr x : Key), setDk [x])).length < sizeLine := ltLine (by simp at hl ⊢; omega)
        show (if (pre.map fun x => ((.inr x : Key), setDk [x])).length < sizeLine then (kOf (.str x)).map fun q => D.dk (putD _ q (setDk [x])) else none) = _
        rw [if_pos h1]
        show some (D.dk (putD _ (.inr x) _)) = _
        unfold putD
        rw [any_key (f := fun x => setDk [x]), if_neg (by simpa using hx), List.map_append]
        rfl
      rw [e, ih (pre ++ [x]) (by simpa using hnd) (by simpa using hl)]
      simp
  have mk0 : dmake false (names.flatMap fun x => [D.tup [.str x, setDk [x]]]) = some (.dk (names.map fun x => (.inr x, setDk [x]))) := by
    have := mk names [] (by simpa using nd) (by simpa using h6)
    simpa [dmake] using this
  simp [mk0]
  -- the turns
  have hsT : sT names = .tup (names.map .str) := rfl
  have hpT : pT ps = .tup (ps.map pD) := rfl
  rw [hsT]
  simp only [ditems, Ok_some]
  refine floop_inv (enc := D.str) (OI1 names ps)
    ⟨none, none, none, none, fun x => [x], rfl, rfl, fun x hx => ⟨by simp, by simpa using hx⟩, fun x _ => rfl⟩ ?_ ?_
  · rintro turn r ρ ω ⟨t, nm, lo, hi, S, rfl, rfl, hS, hg⟩
    simp
    rw [hpT]
    simp only [ditems, Ok_some]
    refine floop_inv (enc := pD) (OI2 names ps turn S) ⟨nm, lo, hi, S, rfl, rfl, hS, fun p h => h, fun x _ => rfl⟩ ?_ ?_
    · rintro ⟨a, b⟩ q ρ ω ⟨nm, lo, hi, S', rfl, rfl, hS', hq, hg'⟩
      simp [pD]
      rw [hsT]
      simp only [ditems, Ok_some]
      have hb : b ∈ names := (hp (a, b) (hq _ List.mem_cons_self)).2
      refine floop_inv (enc := D.str) (OI3 names ps turn S' a b) ⟨nm, ⟨[], rfl⟩, rfl, by rw [ordD_congr (S := fun x => if x ∈ names then S' x else stepP (S' x) (a, b)) (T := S') fun x hx => if_pos hx]⟩ ?_ ?_
      · rintro x w ρ ω ⟨nm, ⟨pre, hpre⟩, rfl, rfl⟩
        have hx : x ∈ names := by rw [hpre]; simp
        have hxw : x ∉ w := fun h => by
          rw [hpre] at nd
          exact (List.nodup_cons.mp (List.nodup_append.mp nd).2.1).1 h
        have lkx : valD (names.map fun y => ((.inr y : Key), setDk (if y = x ∨ y ∈ w then S' y else stepP (S' y) (a, b)))) (.inr x) = some (setDk (S' x)) := by
          rw [valD_map (f := fun y => setDk (if y = x ∨ y ∈ w then S' y else stepP (S' y) (a, b))) hx]
          simp
        have ins : dcmp .in_ (.str a) (setDk (S' x)) = some (decide (a ∈ S' x)) := by
          show some (valD ((S' x).map fun x => ((.inr x : Key), D.bl true)) (.inr a)).isSome = _
          rw [in_set]
        have hl : (S' x).length < sizeLine := ltLine (by have := (hS' x hx).len; omega)
        have st : setD (setDk (S' x)) (.str b) (.bl true) = some (setDk (addS (S' x) b)) := by
          show (if ((S' x).map fun x => ((.inr x : Key), D.bl true)).length < sizeLine then (kOf (.str b)).map fun k => D.dk (putD _ k (.bl true)) else none) = _
          rw [if_pos (by simpa using hl)]
          show some (D.dk (putD _ (.inr b) _)) = _
          rw [putD_set]; rfl
        simp [ordD, lkx, ins, -setD_k]
        by_cases ha : a ∈ S' x
        · simp [ha, lkx, st, kOf, -setD_k]
          refine ⟨_, ⟨pre ++ [x], by simpa using hpre⟩, rfl, ?_⟩
          rw [putD_map (f := fun y => setDk (if y = x ∨ y ∈ w then S' y else stepP (S' y) (a, b))) hx]
          unfold ordD
          refine congrArg (fun z => [some (D.ins "Order" [("_names", sT names), ("_above", .dk z)])]) (List.map_congr_left fun y hy => ?_)
          by_cases e : y = x
          · subst e; simp [hxw, stepP, ha]
          · simp [e]
        · simp [ha]
          refine ⟨_, ⟨pre ++ [x], by simpa using hpre⟩, rfl, ?_⟩
          refine congrArg (fun z => [some z]) (ordD_congr fun y hy => ?_)
          by_cases e : y = x
          · subst e; simp [hxw, stepP, ha]
          · simp [e]
      · rintro ρ ω ⟨nm, _, rfl, rfl⟩
        simp
        exact ⟨_, _, _, fun x => stepP (S' x) (a, b), rfl, by simp, fun x hx => (hS' x hx).step hb, fun p h => hq p (List.mem_cons_of_mem _ h), fun x hx => hg' x hx⟩
    · rintro ρ ω ⟨nm, lo, hi, S', rfl, rfl, hS', _, hg'⟩
      refine ⟨_, nm, lo, hi, S', rfl, rfl, hS', fun x hx => ?_⟩
      have e : S' x = turnP ps (S x) := hg' x hx
      rw [e]
      exact hg x hx
  · rintro ρ ω ⟨t, nm, lo, hi, S, rfl, rfl, hS, hg⟩
    simp
    exact ordD_congr hg
end
end Rf
end

section
set_option Elab.async false
set_option linter.all false
set_option maxRecDepth 100000
set_option maxHeartbeats 1000000
/-! What is below what: two ways to find it, and what they find. -/
namespace Rf
open PySem L2
inductive Reach (ps : List (Str × Str)) (a : Str) : Str → Prop
  | refl : Reach ps a a
  | step {b c : Str} : Reach ps a b → (b, c) ∈ ps → Reach ps a c
theorem Reach.trans {ps : List (Str × Str)} {a b c : Str} (h : Reach ps a b) (k : Reach ps b c) : Reach ps a c := by
  induction k with
  | refl => exact h
  | step _ m ih => exact .step ih m
def Closed (ps : List (Str × Str)) (s : List Str) : Prop := ∀ p ∈ ps, p.1 ∈ s → p.2 ∈ s
def iterL (f : List Str → List Str) : Nat → List Str → List Str
  | 0, s => s
  | n + 1, s => iterL f n (f s)
theorem iter_gs {ps : List (Str × Str)} : ∀ {n : Nat} {s : List Str}, gs ps n s = iterL (turnP ps) n s
  | 0, _ => rfl
  | n + 1, s => iter_gs (n := n)
theorem count_le {p q : Str → Bool} : ∀ {l : List Str}, (∀ x ∈ l, p x = true → q x = true) → l.countP p ≤ l.countP q
  | [], _ => Nat.le_refl _
  | x :: l, h => by
    have ih := count_le (l := l) fun y hy => h y (List.mem_cons_of_mem _ hy)
    rw [List.countP_cons, List.countP_cons]
    have := h x List.mem_cons_self
    split <;> split <;> first | omega | (rename_i a b; exact absurd (this a) b)
theorem count_lt {p q : Str → Bool} {y : Str} : ∀ {l : List Str}, (∀ x ∈ l, p x = true → q x = true) → y ∈ l → p y = false → q y = true → l.countP p < l.countP q
  | [], _, h, _, _ => by cases h
  | x :: l, h, hy, h1, h2 => by
    rw [List.countP_cons, List.countP_cons]
    rcases List.mem_cons.mp hy with e | e
    · subst e
      have ih := count_le (l := l) fun y hy => h y (List.mem_cons_of_mem _ hy)
      rw [h1, h2]
      simp; omega
    · have ih := count_lt (l := l) (fun y hy => h y (List.mem_cons_of_mem _ hy)) e h1 h2
      have := h x List.mem_cons_self
      split <;> split <;> first | omega | (rename_i a b; exact absurd (this a) b)
/-- a way to go on that makes more until all is closed -/
structure Grows (names : List Str) (ps : List (Str × Str)) (f : List Str → List Str) : Prop where
  mono : ∀ s x, x ∈ s → x ∈ f s
  grow : ∀ s, ¬ Closed ps s → ∃ x ∈ names, x ∉ s ∧ x ∈ f s
  keep : ∀ s, Closed ps s → ∀ x, x ∈ f s → x ∈ s
  only : ∀ s x, x ∈ f s → x ∈ s ∨ ∃ y ∈ f s, (y, x) ∈ ps
  reach : ∀ s (a : Str), (∀ x ∈ s, Reach ps a x) → ∀ x ∈ f s, Reach ps a x
section
variable {names : List Str} {ps : List (Str × Str)} {f : List Str → List Str} (G : Grows names ps f)
include G
theorem Grows.closed_keep : ∀ {n : Nat} {s : List Str}, Closed ps s → Closed ps (iterL f n s)
  | 0, s, h => h
  | n + 1, s, h => Grows.closed_keep (n := n) fun p hp q => G.mono s _ (h p hp (G.keep s h _ q))
theorem Grows.count : ∀ {n : Nat} {s : List Str}, Closed ps (iterL f n s) ∨ n + names.countP (fun x => decide (x ∈ s)) ≤ names.countP (fun x => decide (x ∈ iterL f n s))
  | 0, s => .inr (by show 0 + _ ≤ names.countP (fun x => decide (x ∈ s)); omega)
  | n + 1, s => by
    by_cases h : Closed ps s
    · exact .inl (G.closed_keep (n := n + 1) h)
    · obtain ⟨x, hx, h1, h2⟩ := G.grow s h
      have lt : names.countP (fun x => decide (x ∈ s)) < names.countP (fun x => decide (x ∈ f s)) := count_lt (y := x) (fun y _ q => by simpa using G.mono s y (by simpa using q)) hx (by simpa using h1) (by simpa using h2)
      rcases Grows.count (n := n) (s := f s) with q | q
      · exact .inl q
      · refine .inr ?_
        show n + 1 + _ ≤ names.countP (fun x => decide (x ∈ iterL f n (f s)))
        omega
theorem Grows.closed {a : Str} (ha : a ∈ names) : Closed ps (iterL f names.length [a]) := by
  rcases G.count (n := names.length) (s := [a]) with q | q
  · exact q
  · exfalso
    have h1 := List.countP_le_length (p := fun x => decide (x ∈ iterL f names.length [a])) (l := names)
    have h2 : 0 < names.countP (fun x => decide (x ∈ [a])) := List.countP_pos_iff.mpr ⟨a, ha, by simp⟩
    omega
theorem Grows.start : ∀ {n : Nat} {s : List Str} {x : Str}, x ∈ s → x ∈ iterL f n s
  | 0, _, _, h => h
  | n + 1, s, x, h => Grows.start (n := n) (G.mono s x h)
theorem Grows.all : ∀ {n : Nat} {s : List Str} {a : Str}, (∀ x ∈ s, Reach ps a x) → ∀ x ∈ iterL f n s, Reach ps a x
  | 0, _, _, h => h
  | n + 1, s, a, h => Grows.all (n := n) (G.reach s a h)
theorem Grows.iff {a b : Str} (ha : a ∈ names) : b ∈ iterL f names.length [a] ↔ Reach ps a b := by
  constructor
  · exact G.all (fun x hx => by rw [List.mem_singleton] at hx; rw [hx]; exact .refl) b
  · intro h
    induction h with
    | refl => exact G.start (by simp)
    | step _ m ih => exact G.closed ha _ m ih
end
theorem turn_mono {ps : List (Str × Str)} : ∀ {s : List Str} {x : Str}, x ∈ s → x ∈ turnP ps s := by
  induction ps with
  | nil => intro s x h; exact h
  | cons p ps ih => intro s x h; exact ih (mem_stepP.mpr (.inl h))
theorem turn_closed {ps : List (Str × Str)} : ∀ {s : List Str}, Closed ps s → turnP ps s = s := by
  induction ps with
  | nil => intro s _; rfl
  | cons p ps ih =>
    intro s h
    have e : stepP s p = s := by
      unfold stepP
      split
      · rename_i hp
        unfold addS
        rw [if_pos (h p List.mem_cons_self hp)]
      · rfl
    show turnP ps (stepP s p) = s
    rw [e]
    exact ih fun q hq => h q (List.mem_cons_of_mem _ hq)
theorem turn_adds {ps : List (Str × Str)} {p : Str × Str} : ∀ {s : List Str}, p ∈ ps → p.1 ∈ s → p.2 ∈ turnP ps s := by
  induction ps with
  | nil => intro s h _; cases h
  | cons q ps ih =>
    intro s h h1
    rcases List.mem_cons.mp h with e | e
    · subst e
      show p.2 ∈ turnP ps (stepP s p)
      exact turn_mono (mem_stepP.mpr (.inr ⟨h1, rfl⟩))
    · exact ih e (mem_stepP.mpr (.inl h1))
theorem turn_reach {ps qs : List (Str × Str)} {a : Str} : ∀ {s : List Str}, (∀ p ∈ ps, p ∈ qs) → (∀ x ∈ s, Reach qs a x) → ∀ x ∈ turnP ps s, Reach qs a x := by
  induction ps with
  | nil => intro s _ h; exact h
  | cons p ps ih =>
    intro s hq h
    refine ih (fun q hq' => hq q (List.mem_cons_of_mem _ hq')) fun x hx => ?_
    rcases mem_stepP.mp hx with e | ⟨e1, e2⟩
    · exact h x e
    · rw [e2]; exact .step (h _ e1) (hq _ List.mem_cons_self)
theorem not_closed {ps : List (Str × Str)} {s : List Str} (h : ¬ Closed ps s) : ∃ p ∈ ps, p.1 ∈ s ∧ p.2 ∉ s := by
  by_cases q : ∃ p ∈ ps, p.1 ∈ s ∧ p.2 ∉ s
  · exact q
  · exact absurd (fun p hp h1 => by
      by_cases h2 : p.2 ∈ s
      · exact h2
      · exact absurd ⟨p, hp, h1, h2⟩ q) h
/-- pairs of names -/
def PsOk (names : List Str) (ps : List (Str × Str)) : Prop := ∀ p ∈ ps, p.1 ∈ names ∧ p.2 ∈ names
theorem grows_turn {names : List Str} {ps : List (Str × Str)} (hp : PsOk names ps) : Grows names ps (turnP ps) where
  mono := fun s x h => turn_mono h
  grow := fun s h => by
    obtain ⟨p, h1, h2, h3⟩ := not_closed h
    exact ⟨p.2, (hp p h1).2, h3, turn_adds h1 h2⟩
  keep := fun s h x hx => by rw [turn_closed h] at hx; exact hx
  only := fun s x h => by
    have : ∀ (qs : List (Str × Str)) (s : List Str), (∀ q ∈ qs, q ∈ ps) → ∀ x ∈ turnP qs s, x ∈ s ∨ ∃ y ∈ turnP qs s, (y, x) ∈ ps := by
      intro qs
      induction qs with
      | nil => intro s _ x h; exact .inl h
      | cons q qs ih =>
        intro s hq x h
        rcases ih (stepP s q) (fun r hr => hq r (List.mem_cons_of_mem _ hr)) x h with e | e
        · rcases mem_stepP.mp e with e | ⟨e1, e2⟩
          · exact .inl e
          · exact .inr ⟨q.1, (show q.1 ∈ turnP qs (stepP s q) from turn_mono (mem_stepP.mpr (.inl e1))), by rw [e2]; exact hq q List.mem_cons_self⟩
        · exact .inr e
    exact this ps s (fun _ h => h) x h
  reach := fun s a h => turn_reach (fun _ h => h) h
/-- the law's own way -/
def jacP (ps : List (Str × Str)) (s : List Str) : List Str := s ++ (ps.filter fun p => decide (p.1 ∈ s) && !decide (p.2 ∈ s)).map (·.2)
theorem mem_jac {ps : List (Str × Str)} {s : List Str} {x : Str} : x ∈ jacP ps s ↔ x ∈ s ∨ ∃ p ∈ ps, p.1 ∈ s ∧ p.2 ∉ s ∧ p.2 = x := by
  unfold jacP
  rw [List.mem_append, List.mem_map]
  constructor
  · rintro (h | ⟨p, h, e⟩)
    · exact .inl h
    · obtain ⟨h1, h2⟩ := List.mem_filter.mp h
      simp only [Bool.and_eq_true, Bool.not_eq_true', decide_eq_true_eq, decide_eq_false_iff_not] at h2
      exact .inr ⟨p, h1, h2.1, h2.2, e⟩
  · rintro (h | ⟨p, h1, h2, h3, e⟩)
    · exact .inl h
    · exact .inr ⟨p, List.mem_filter.mpr ⟨h1, by simp [h2, h3]⟩, e⟩
theorem grows_jac {names : List Str} {ps : List (Str × Str)} (hp : PsOk names ps) : Grows names ps (jacP ps) where
  mono := fun s x h => mem_jac.mpr (.inl h)
  grow := fun s h => by
    obtain ⟨p, h1, h2, h3⟩ := not_closed h
    exact ⟨p.2, (hp p h1).2, h3, mem_jac.mpr (.inr ⟨p, h1, h2, h3, rfl⟩)⟩
  keep := fun s h x hx => by
    rcases mem_jac.mp hx with e | ⟨p, h1, h2, h3, e⟩
    · exact e
    · exact absurd (h p h1 h2) h3
  only := fun s x h => by
    rcases mem_jac.mp h with e | ⟨p, h1, h2, h3, e⟩
    · exact .inl e
    · exact .inr ⟨p.1, mem_jac.mpr (.inl h2), by rw [← e]; exact h1⟩
  reach := fun s a h x hx => by
    rcases mem_jac.mp hx with e | ⟨p, h1, h2, h3, e⟩
    · exact h x e
    · rw [← e]; exact .step (h _ h2) h1
/-- below, as the world finds it -/
def bel (names : List Str) (ps : List (Str × Str)) (a b : Str) : Bool := decide (b ∈ aboveS names ps a)
theorem mem_above {names : List Str} {ps : List (Str × Str)} (hp : PsOk names ps) {a b : Str} (ha : a ∈ names) : b ∈ aboveS names ps a ↔ Reach ps a b := by
  unfold aboveS
  rw [iter_gs]
  exact (grows_turn hp).iff ha
theorem bel_iff {names : List Str} {ps : List (Str × Str)} (hp : PsOk names ps) {a b : Str} (ha : a ∈ names) : bel names ps a b = true ↔ Reach ps a b := by
  unfold bel
  rw [decide_eq_true_eq, mem_above hp ha]
theorem bel_refl {names : List Str} {ps : List (Str × Str)} (hp : PsOk names ps) {a : Str} (ha : a ∈ names) : bel names ps a a = true := (bel_iff hp ha).mpr .refl
theorem bel_trans {names : List Str} {ps : List (Str × Str)} (hp : PsOk names ps) {a b c : Str} (ha : a ∈ names) (hb : b ∈ names) (h : bel names ps a b = true) (k : bel names ps b c = true) : bel names ps a c = true :=
  (bel_iff hp ha).mpr (((bel_iff hp ha).mp h).trans ((bel_iff hp hb).mp k))
/-- above, as the law finds it -/
def lawAb (names : List Str) (ps : List (Str × Str)) (a : Str) : List Str := iterL (jacP ps) names.length [a]
theorem lawAb_iff {names : List Str} {ps : List (Str × Str)} (hp : PsOk names ps) {a b : Str} (ha : a ∈ names) : b ∈ lawAb names ps a ↔ bel names ps a b = true := by
  rw [bel_iff hp ha]
  exact (grows_jac hp).iff ha
section
variable {l : Lw} (B : Bs l) {n : Nat}
include B
theorem below_t (hn : 1 ≤ n) {names : List Str} {ps : List (Str × Str)} {a b : Str} (ha : a ∈ names) : l.orc n (.mt "Order" "is_below") [ordD names (aboveS names ps), .str a, .str b] = some (.bl (bel names ps a b), []) := by
  apply Ok.eq
  refine op_Order_is_below B.is_below hn ?_
  have e : valD (names.map fun y => ((.inr y : Key), setDk (aboveS names ps y))) (.inr a) = some (setDk (aboveS names ps a)) := valD_map (f := fun y => setDk (aboveS names ps y)) ha
  have e2 : dcmp .in_ (.str b) (setDk (aboveS names ps a)) = some (bel names ps a b) := by
    show some (valD ((aboveS names ps a).map fun x => ((.inr x : Key), D.bl true)) (.inr b)).isSome = _
    rw [in_set]; rfl
  simp [k_Order_is_below, ordD, e, e2]
/-- no ring: pairs go up by a rank -/
def NoRing (names : List Str) (ps : List (Str × Str)) : Prop := ∀ p ∈ ps, bel names ps p.2 p.1 = false
theorem ring_t (hn : 2 ≤ n) {names : List Str} {ps : List (Str × Str)} (nd : names.Nodup) (h6 : names.length ≤ 1000) (hp : PsOk names ps) (hr : NoRing names ps) : l.orc n (.fn "has_no_ring") [sT names, pT ps] = some (.bl true, []) := by
  apply Ok.eq
  refine op_has_no_ring B.has_no_ring (by omega) ?_
  have a1 := order_t B (n := n - 1) (by omega) nd h6 hp
  simp [k_has_no_ring, a1]
  have hpT : pT ps = .tup (ps.map pD) := rfl
  rw [hpT]
  simp only [ditems, Ok_some]
  refine ok_qp ps pD (fun _ => false) rfl (fun p hp' => ?_) (by simp)
  have a2 := below_t B (n := n - 1) (by omega) (names := names) (ps := ps) (a := p.2) (b := p.1) (hp p hp').2
  have a3 := hr p hp'
  have e : ordD names (aboveS names ps) = .ins "Order" [("_names", sT names), ("_above", .dk (names.map fun nm => (.inr nm, setDk (aboveS names ps nm))))] := rfl
  rw [e] at a2 ⊢
  simp [pD, a2, a3]
end
end Rf
end

section
set_option Elab.async false
set_option linter.all false
set_option maxRecDepth 100000
set_option maxHeartbeats 1000000
/-! Worlds. -/
namespace Rf
open PySem L2
def Pt.bel (P : Pt) (a b : Str) : Bool := Rf.bel P.kinds P.ups a b
def Pt.rk (P : Pt) (a b : Str) : Option Nat := if P.bel a b = true then some 0 else if (P.cvs.any fun c => P.bel a c.1 && P.bel c.2 b) = true then some 1 else none
def rkD : Option Nat → D
  | none => .non
  | some k => .int (k : Nat)
def Pt.ordD (P : Pt) : D := Rf.ordD P.kinds (aboveS P.kinds P.ups)
def selfD (P : Pt) (kv : List (List Key × D)) : D := .ins "World" [("_kinds", sT P.kinds), ("_uppers", pT P.ups), ("_conversions", pT P.cvs), ("_bodies", bT P.bods), ("_order", P.ordD), ("_ranks", .dt kv)]
def rkE (P : Pt) (a b : Str) : List Key × D := ([.inr a, .inr b], rkD (P.rk a b))
def Pt.rks (P : Pt) : List (List Key × D) := P.kinds.flatMap fun a => P.kinds.map fun b => rkE P a b
def Pt.wD (P : Pt) : D := selfD P P.rks
/-- what a world asks of its parts -/
structure POk (P : Pt) : Prop where
  nm : ∀ k ∈ P.kinds, nmB k = true
  k1 : 1 ≤ P.kinds.length
  k6 : P.kinds.length ≤ 6
  kr : rise ltS P.kinds = true
  nd : P.kinds.Nodup
  us : ∀ p ∈ P.ups, p.1 ∈ P.kinds ∧ p.2 ∈ P.kinds ∧ p.1 ≠ p.2
  u12 : P.ups.length ≤ 12
  ur : rise ltP P.ups = true
  ring : NoRing P.kinds P.ups
  cs : ∀ p ∈ P.cvs, p.1 ∈ P.kinds ∧ p.2 ∈ P.kinds ∧ p.1 ≠ p.2
  c6 : P.cvs.length ≤ 6
  cr : rise ltP P.cvs = true
  bs : ∀ b ∈ P.bods, BdOk P.kinds b
  b12 : P.bods.length ≤ 12
  br : rise ltS (P.bods.map (·.1)) = true
theorem POk.up {P : Pt} (h : POk P) : PsOk P.kinds P.ups := fun p hp => ⟨(h.us p hp).1, (h.us p hp).2.1⟩
@[simp] theorem ins_ord {P : Pt} {K : Prop} : insK P.ordD "Order" (some "is_below") K = K := by
  unfold Pt.ordD Rf.ordD
  simp
@[simp] theorem fld_self {P : Pt} {kv : List (List Key × D)} {f : Str} {K : D → Prop} : fldK (selfD P kv) "World" f K = Ok (List.lookup f [("_kinds", sT P.kinds), ("_uppers", pT P.ups), ("_conversions", pT P.cvs), ("_bodies", bT P.bods), ("_order", P.ordD), ("_ranks", .dt kv)]) K := by
  unfold selfD
  rw [fldK_ins]
  simp
section
variable {l : Lw} (B : Bs l) {n : Nat}
include B
theorem pbelow_t (hn : 1 ≤ n) {P : Pt} {a b : Str} (ha : a ∈ P.kinds) : l.orc n (.mt "Order" "is_below") [P.ordD, .str a, .str b] = some (.bl (P.bel a b), []) := below_t B hn ha
def RI (P : Pt) (kv : List (List Key × D)) (a b : Str) (q : List (Str × Str)) (ρ : Env) (ω : Om) : Prop := ∃ s g, ρ = [none, some (.str a), some (.str b), s, g] ∧ ω = [some (selfD P kv)] ∧ P.bel a b = false ∧ (∀ p ∈ q, p ∈ P.cvs) ∧ ((P.cvs.any fun c => P.bel a c.1 && P.bel c.2 b) = q.any fun c => P.bel a c.1 && P.bel c.2 b)
theorem found_t (hn : 2 ≤ n) {P : Pt} (hc : PsOk P.kinds P.cvs) {kv : List (List Key × D)} {a b : Str} (ha : a ∈ P.kinds) (hb : b ∈ P.kinds) : l.orc n (.mt "World" "_rank_found") [selfD P kv, .str a, .str b] = some (rkD (P.rk a b), [selfD P kv]) := by
  apply Ok.eq
  refine op_World_u_rank_found B.rank_found (by omega) ?_
  simp [k_World_u_rank_found, pbelow_t B (n := n - 1) (by omega) ha]
  unfold Pt.rk
  cases hab : P.bel a b with
  | true => simp [rkD]
  | false =>
    simp
    have fl : ∀ ps : List (Str × Str), flatDs (ps.map pD) = true := fun ps => by
      induction ps with
      | nil => simp
      | cons p r ih => simp [pD, ih]
    have hpT : pT P.cvs = .tup (P.cvs.map pD) := rfl
    rw [hpT]
    simp [fl]
    refine floop_inv (enc := pD) (RI P kv a b) ⟨none, none, rfl, rfl, hab, fun _ h => h, rfl⟩ ?_ ?_
    · rintro ⟨s, g⟩ q ρ ω ⟨s0, g0, rfl, rfl, _, hq, he⟩
      obtain ⟨h1, h2⟩ := hc (s, g) (hq _ List.mem_cons_self)
      simp [pD, pbelow_t B (n := n - 1) (by omega) ha, pbelow_t B (n := n - 1) (by omega) h2]
      rw [List.any_cons] at he
      cases h3 : P.bel a s with
      | false =>
        simp
        refine ⟨_, _, rfl, rfl, hab, fun p h => hq p (List.mem_cons_of_mem _ h), ?_⟩
        rw [he, h3]; simp
      | true =>
        simp
        cases h4 : P.bel g b with
        | false =>
          simp
          refine ⟨_, _, rfl, rfl, hab, fun p h => hq p (List.mem_cons_of_mem _ h), ?_⟩
          rw [he, h4]; simp
        | true =>
          simp
          rw [if_pos (by rw [he]; simp [h3, h4])]
          rfl
    · rintro ρ ω ⟨s0, g0, rfl, rfl, _, hq, he⟩
      rw [if_neg (by rw [he]; simp)]
      simp [rkD]
theorem seti_rks {P : Pt} {kv : List (List Key × D)} {a b : Str} {x : D} (hl : kv.length < 1000) (hn : ∀ e ∈ kv, e.1 ≠ [.inr a, .inr b]) : setD (.dt kv) (.tup [.str a, .str b]) x = some (.dt (kv ++ [([.inr a, .inr b], x)])) := by
  show (if kv.length < sizeLine then (ksOf (.tup [.str a, .str b])).map fun k => D.dt (putD kv k x) else none) = _
  rw [if_pos (ltLine (by omega))]
  show some (D.dt (putD kv [.inr a, .inr b] x)) = _
  unfold putD
  rw [if_neg]
  rw [List.any_eq_true]
  rintro ⟨e, he, q⟩
  exact hn e he (of_decide_eq_true q)
def WI1 (P : Pt) (r : List Str) (ρ : Env) (ω : Om) : Prop := ∃ nm ot pre, P.kinds = pre ++ r ∧ ρ = [none, some (sT P.kinds), some (pT P.ups), some (pT P.cvs), some (bT P.bods), nm, ot] ∧ ω = [some (selfD P (pre.flatMap fun a => P.kinds.map fun b => rkE P a b))]
def WI2 (P : Pt) (a : Str) (pre : List Str) (r : List Str) (ρ : Env) (ω : Om) : Prop := ∃ ot pre2, P.kinds = pre2 ++ r ∧ ρ = [none, some (sT P.kinds), some (pT P.ups), some (pT P.cvs), some (bT P.bods), some (.str a), ot] ∧ ω = [some (selfD P ((pre.flatMap fun a => P.kinds.map fun b => rkE P a b) ++ pre2.map fun b => rkE P a b))]
omit B in
theorem flat_len {pre ks : List Str} {f : Str → Str → List Key × D} : (pre.flatMap fun a => ks.map fun b => f a b).length = pre.length * ks.length := by
  induction pre with
  | nil => simp
  | cons a r ih => rw [List.flatMap_cons, List.length_append, ih, List.length_map, List.length_cons, Nat.succ_mul]; omega
theorem world_t (hn : 5 ≤ n) {P : Pt} (h : POk P) : l.orc n (.mt "World" "__init__") [.ins "World" [], sT P.kinds, pT P.ups, pT P.cvs, bT P.bods] = some (.non, [P.wD]) := by
  apply Ok.eq
  refine op_World_u__init_u B.world (by omega) ?_
  have c1 := fun x => check_t B (n := n - 1) (by omega) (x := x)
  have c2 := kinds_t B (n := n - 1) (by omega) h.nm h.k1 h.k6 h.kr
  have c3 : l.orc (n - 1) (.fn "are_pairs") [pT P.ups, sT P.kinds, .int 12] = some (.bl true, []) := pairs_t B (n := n - 1) (by omega) (m := 12) h.us h.u12 h.ur
  have c4 := ring_t B (n := n - 1) (by omega) h.nd (by have := h.k6; omega) h.up h.ring
  have c5 : l.orc (n - 1) (.fn "are_pairs") [pT P.cvs, sT P.kinds, .int 6] = some (.bl true, []) := pairs_t B (n := n - 1) (by omega) (m := 6) h.cs h.c6 h.cr
  have c6 := bodies_t B (n := n - 1) (by omega) h.bs h.b12 h.br
  have c7 := order_t B (n := n - 1) (by omega) h.nd (by have := h.k6; omega) h.up
  have hk6 := h.k6
  simp [k_World_u__init_u, c1, c2, c3, c4, c5, c6, c7, dmake]
  have hsT : sT P.kinds = .tup (P.kinds.map .str) := rfl
  rw [hsT]
  simp only [ditems, Ok_some]
  refine floop_inv (enc := D.str) (WI1 P) ⟨none, none, [], rfl, rfl, rfl⟩ ?_ ?_
  · rintro a r ρ ω ⟨nm, ot, pre, hpre, rfl, rfl⟩
    simp
    rw [hsT]
    simp only [ditems, Ok_some]
    have ha : a ∈ P.kinds := by rw [hpre]; simp
    have hap : a ∉ pre := fun q => by
      have := h.nd
      rw [hpre] at this
      exact (List.nodup_append.mp this).2.2 a q a List.mem_cons_self rfl
    refine floop_inv (enc := D.str) (WI2 P a pre) ⟨ot, [], rfl, rfl, by simp⟩ ?_ ?_
    · rintro b w ρ ω ⟨ot, pre2, hpre2, rfl, rfl⟩
      have hb : b ∈ P.kinds := by rw [hpre2]; simp
      have hbp : b ∉ pre2 := fun q => by
        have := h.nd
        rw [hpre2] at this
        exact (List.nodup_append.mp this).2.2 b q b List.mem_cons_self rfl
      have l1 : pre.length + (a :: r).length = P.kinds.length := by rw [hpre, List.length_append]
      have l2 : pre2.length + (b :: w).length = P.kinds.length := by rw [hpre2, List.length_append]
      have bound : ((pre.flatMap fun a => P.kinds.map fun b => rkE P a b) ++ pre2.map fun b => rkE P a b).length < 1000 := by
        rw [List.length_append, flat_len, List.length_map]
        have : pre.length * P.kinds.length ≤ 6 * 6 := Nat.mul_le_mul (by simp at l1; omega) (by omega)
        simp at l2
        omega
      have new : ∀ e ∈ (pre.flatMap fun a => P.kinds.map fun b => rkE P a b) ++ pre2.map fun b => rkE P a b, e.1 ≠ [.inr a, .inr b] := fun e he q => by
        rcases List.mem_append.mp he with he | he
        · obtain ⟨x, hx, he⟩ := List.mem_flatMap.mp he
          obtain ⟨y, _, rfl⟩ := List.mem_map.mp he
          have q : ([.inr x, .inr y] : List Key) = [.inr a, .inr b] := q
          simp at q
          exact hap (by rw [← q.1]; exact hx)
        · obtain ⟨y, hy, rfl⟩ := List.mem_map.mp he
          have q : ([.inr a, .inr y] : List Key) = [.inr a, .inr b] := q
          simp at q
          exact hbp (by rw [← q]; exact hy)
      have hf := fun kv => found_t B (n := n - 1) (by omega) (P := P) (fun p hp => ⟨(h.cs p hp).1, (h.cs p hp).2.1⟩) (kv := kv) ha hb
      have st := fun x => seti_rks (l := l) B (P := P) (x := x) bound new
      have selfE : selfD P ((pre.flatMap fun a => P.kinds.map fun b => rkE P a b) ++ pre2.map fun b => rkE P a b) = .ins "World" [("_kinds", sT P.kinds), ("_uppers", pT P.ups), ("_conversions", pT P.cvs), ("_bodies", bT P.bods), ("_order", P.ordD), ("_ranks", .dt ((pre.flatMap fun a => P.kinds.map fun b => rkE P a b) ++ pre2.map fun b => rkE P a b))] := rfl
      have hf' := hf ((pre.flatMap fun a => P.kinds.map fun b => rkE P a b) ++ pre2.map fun b => rkE P a b)
      rw [selfE] at hf' ⊢
      simp [hf', st, -setD_t]
      refine ⟨len_ok (by omega), _, pre2 ++ [b], by simpa using hpre2, rfl, ?_⟩
      unfold selfD rkE
      simp
    · rintro ρ ω ⟨ot, pre2, hpre2, rfl, rfl⟩
      refine ⟨_, ot, pre ++ [a], by simpa using hpre, rfl, ?_⟩
      have : pre2 = P.kinds := by rw [hpre2]; simp
      rw [this]
      simp
  · rintro ρ ω ⟨nm, ot, pre, hpre, rfl, rfl⟩
    have : pre = P.kinds := by rw [hpre]; simp
    rw [this]
    simp [Pt.wD, Pt.rks]
end
end Rf
end

section
set_option Elab.async false
set_option linter.all false
set_option maxRecDepth 100000
set_option maxHeartbeats 1000000
/-! What is drawn. -/
namespace Rf
open PySem L2
/-- the row of draws -/
def RowOk (d : D) : Prop := ∃ (ns : List Int) (c : Nat) (s r : Int), d = .lst [.lst (ns.map .int), .int (c : Nat), .int s, .int r] ∧ 0 ≤ s ∧ s < 2147483647
/-- the defs that draw -/
structure Dr (l : Lw) : Prop where
  taken : Has l c_law_taken
  some_ : Has l c_law_some
  pick : Has l c_law_pick
section
variable {i j : Int}
theorem mod_i (h : 0 < j) : dbin .mod (.int i) (.int j) = some (.int (i % j)) := by
  show (if 0 < j then some (D.int (i % j)) else none) = _
  rw [if_pos h]
theorem fdiv_i (h : 0 < j) (h2 : j < 1073741824) : dbin .fdiv (.int i) (.int j) = some (.int (i / j)) := by
  show (if 0 < j ∧ j < 1073741824 then some (D.int (i / j)) else none) = _
  rw [if_pos ⟨h, h2⟩]
theorem mul_i (h : 0 ≤ i) (h2 : i < 2147483647) : dbin .mul (.int i) (.int j) = some (.int (i * j)) := by
  show (if mulOk i j then some (D.int (i * j)) else none) = _
  rw [if_pos]
  unfold mulOk
  have a : decide (-(2 ^ 64 : Int) < i) = true := by simp; omega
  have b : decide (i < (2 ^ 64 : Int)) = true := by simp; omega
  rw [a, b]; rfl
theorem pow_1018 : dbin .pow (.int 10) (.int 18) = some (.int 1000000000000000000) := by rfl
end
@[simp] theorem ixn3 {a b c d : D} : ixN [a, b, c, d].length 3 = some 3 := by simp -implicitDefEqProofs [ixN]
@[simp] theorem ixn2 {a b c d : D} : ixN [a, b, c, d].length 2 = some 2 := by simp -implicitDefEqProofs [ixN]
@[simp] theorem ixn1 {a b c d : D} : ixN [a, b, c, d].length 1 = some 1 := by simp -implicitDefEqProofs [ixN]
@[simp] theorem ixm3 : ixN 4 3 = some 3 := by simp -implicitDefEqProofs [ixN]
@[simp] theorem ixm2 : ixN 4 2 = some 2 := by simp -implicitDefEqProofs [ixN]
@[simp] theorem ixm1 : ixN 4 1 = some 1 := by simp -implicitDefEqProofs [ixN]
/-- the def's body, its great number a letter -/
def ktk (M : Int) : ISs := (.cons (.iff (.view [0] (.cmp .gt (.idx (.var 0) (.cst (.int 3))) (.cst (.int 0)))) (.cons (.set 3 (.view [0] (.bin .mod (.prm .int (.cons (.idx (.var 0) (.cst (.int 3))) .nil)) (.var 1)))) (.cons (.seti (.var 0) (.cst (.int 3)) (.view [0] (.bin .fdiv (.idx (.var 0) (.cst (.int 3))) (.var 1)))) (.cons (.ret (.var 3)) .nil))) .nil) (.cons (.seti (.var 0) (.cst (.int 1)) (.view [0] (.bin .add (.idx (.var 0) (.cst (.int 1))) (.cst (.int 1))))) (.cons (.iff (.view [0] (.cmp .gt (.idx (.var 0) (.cst (.int 1))) (.prm .len (.cons (.idx (.var 0) (.cst (.int 0))) .nil)))) (.cons (.seti (.var 0) (.cst (.int 2)) (.view [0] (.bin .mod (.prm .int (.cons (.bin .add (.bin .mul (.idx (.var 0) (.cst (.int 2))) (.cst (.int 48271))) (.cst (.int 11))) .nil)) (.cst (.int M))))) (.cons (.ret (.view [0] (.bin .mod (.prm .int (.cons (.bin .fdiv (.idx (.var 0) (.cst (.int 2))) (.cst (.int 7))) .nil)) (.var 1)))) .nil)) .nil) (.cons (.set 2 (.view [0] (.idx (.idx (.var 0) (.cst (.int 0))) (.bin .sub (.idx (.var 0) (.cst (.int 1))) (.cst (.int 1)))))) (.cons (.seti (.var 0) (.cst (.int 2)) (.view [0] (.bin .mod (.prm .int (.cons (.bin .add (.bin .add (.bin .mul (.idx (.var 0) (.cst (.int 2))) (.cst (.int 48271))) (.var 2)) (.cst (.int 11))) .nil)) (.cst (.int M))))) (.cons (.iff (.cmp .ge (.var 2) (.bin .pow (.cst (.int 10)) (.cst (.int 18)))) (.cons (.seti (.var 0) (.cst (.int 3)) (.bin .fdiv (.var 2) (.var 1))) .nil) .nil) (.cons (.ret (.bin .mod (.prm .int (.cons (.var 2) .nil)) (.var 1))) .nil)))))))
def RowM (M : Int) (d : D) : Prop := ∃ (ns : List Int) (c : Nat) (s r : Int), d = .lst [.lst (ns.map .int), .int (c : Nat), .int s, .int r] ∧ 0 ≤ s ∧ s < M
theorem ktk_ok {O : Orc} {W : Nat} {M E m : Int} (hM : 0 < M) (hE : dbin .pow (.int 10) (.int 18) = some (.int E)) (ms : ∀ s x : Int, 0 ≤ s → s < M → dbin .mul (.int s) (.int x) = some (.int (s * x))) {row : D} (hr : RowM M row) (h0 : 0 < m) (h1 : m < 1073741824)
    {P : D × List D → Prop} (k : ∀ (k : Nat) row', (k : Int) < m → RowM M row' → P (.int (k : Nat), [row'])) : OkSs O W (ktk M) [none, some (.int m), none, none] [some row] (fun _ ω => outK 1 ω fun os => P (.non, os)) (fun d ω => outK 1 ω fun os => P (d, os)) := by
  obtain ⟨ns, c, s, r, rfl, s0, s1⟩ := hr
  have kk : ∀ (x : Int) row', RowM M row' → P (.int (x % m), [row']) := fun x row' h => by
    have a := Int.emod_nonneg x (by omega : m ≠ 0)
    have b := Int.emod_lt_of_pos x h0
    have := k (x % m).toNat row' (by omega) h
    rwa [Int.toNat_of_nonneg a] at this
  have m0 := fun x : Int => mod_i (i := x) h0
  have mb := fun x : Int => mod_i (i := x) hM
  have f0 := fun x : Int => fdiv_i (i := x) h0 h1
  have f7 := fun x : Int => fdiv_i (i := x) (j := 7) (by omega) (by omega)
  have ms := fun x : Int => ms s x s0 s1
  simp -implicitDefEqProofs [ktk]
  by_cases hr0 : 0 < r
  · simp -implicitDefEqProofs [hr0, m0, f0]
    exact kk _ _ ⟨ns, c, s, _, rfl, s0, s1⟩
  · simp -implicitDefEqProofs [hr0]
    by_cases hc : (ns.length : Int) < c + 1
    · simp -implicitDefEqProofs [hc, ms, mb, f7, m0]
      exact kk _ _ ⟨ns, c + 1, _, r, rfl, Int.emod_nonneg _ (by omega), Int.emod_lt_of_pos _ hM⟩
    · have hlt : c < ns.length := by omega
      have ei : ((c : Int) + 1 - 1) = (c : Nat) := by omega
      have ea : atI (ns.map D.int) ((c : Nat) : Int) = some (.int ns[c]) := by
        rw [at_nat, List.getElem?_map, List.getElem?_eq_getElem hlt]; rfl
      simp -implicitDefEqProofs [hc, ei, ea, ms, mb, hE]
      by_cases hcell : E ≤ ns[c]
      · simp -implicitDefEqProofs [hcell, f0, m0]
        exact kk _ _ ⟨ns, c + 1, _, _, rfl, Int.emod_nonneg _ (by omega), Int.emod_lt_of_pos _ hM⟩
      · simp -implicitDefEqProofs [hcell, m0]
        exact kk _ _ ⟨ns, c + 1, _, r, rfl, Int.emod_nonneg _ (by omega), Int.emod_lt_of_pos _ hM⟩
section
variable {l : Lw} (B : Dr l) {n : Nat}
include B
theorem taken_t (hn : 1 ≤ n) {row : D} {m : Int} (hr : RowOk row) (h0 : 0 < m) (h1 : m < 1073741824) {P : D × List D → Prop} (k : ∀ (k : Nat) row', (k : Int) < m → RowOk row' → P (.int (k : Nat), [row'])) : Ok (l.orc n (.fn "_law_taken") [row, .int m]) P :=
  op_law_taken B.taken hn (show OkSs _ _ (ktk 2147483647) _ _ _ _ from ktk_ok (by omega) pow_1018 (fun s x a b => mul_i a b) hr h0 h1 k)
end
end Rf
end

section
set_option Elab.async false
set_option linter.all false
set_option maxRecDepth 100000
set_option maxHeartbeats 1000000
/-! .. some of some, one of some. -/
namespace Rf
open PySem L2
theorem cutTake {xs : List D} {k : Nat} : cutD xs none (some (k : Int)) = xs.take k := by
  unfold cutD
  rw [HT.sIx_none, HT.sIx_nat, List.drop_zero, Nat.sub_zero]
  rcases Nat.le_total k xs.length with h | h
  · rw [Nat.min_eq_left h]
  · rw [Nat.min_eq_right h, List.take_of_length_le (Nat.le_refl _), List.take_of_length_le h]
theorem cutDrop {xs : List D} {k : Nat} : cutD xs (some (k : Int)) none = xs.drop k := by
  unfold cutD
  rw [HT.sIx_none, HT.sIx_nat]
  rcases Nat.le_total k xs.length with h | h
  · rw [Nat.min_eq_left h]
    exact List.take_of_length_le (by simp)
  · rw [Nat.min_eq_right h, List.drop_of_length_le h, List.drop_of_length_le (Nat.le_refl _)]
    simp
theorem add_lst {xs ys : List D} (h : xs.length + ys.length < 1000000) : dbin .add (.lst xs) (.lst ys) = some (.lst (xs ++ ys)) := by
  show (if xs.length + ys.length ≤ sizeLine then some (D.lst (xs ++ ys)) else none) = _
  rw [if_pos (len_ok h)]
theorem add_tup {xs ys : List D} (h : xs.length + ys.length < 1000000) : dbin .add (.tup xs) (.tup ys) = some (.tup (xs ++ ys)) := by
  show (if xs.length + ys.length ≤ sizeLine then some (D.tup (xs ++ ys)) else none) = _
  rw [if_pos (len_ok h)]
theorem rng_n {m : Nat} (h : m < 1000000) : rngD 0 (m : Int) = some ((List.range m).map fun k => .int (k : Nat)) := by
  unfold rngD
  have hs : ((m : Int) - 0) ≤ sizeLine := by rw [sizeLine_eq]; omega
  rw [if_pos ⟨by omega, by omega, by omega, by omega, hs⟩]
  have e : ((m : Int) - 0).toNat = m := by omega
  rw [e]
  congr 1
  exact List.map_congr_left fun k _ => by rw [Int.zero_add]
/-- after some turns: what is found, what is left -/
def SI3 {α : Type} (enc : α → D) (s : D) (m : Nat) (xs : List α) (r : List Nat) (ρ : Env) (ω : Om) : Prop := ∃ (ys zs : List α) (t at_ : Option D) (row : D), ρ = [none, some s, some (.int (m : Nat)), t, some (.lst (zs.map enc)), some (.lst (ys.map enc)), at_] ∧ ω = [some row] ∧ RowOk row ∧ (ys ++ zs).Perm xs ∧ r.length ≤ zs.length ∧ ys.length + r.length = min m xs.length
section
variable {l : Lw} (B : Dr l) {n : Nat}
include B
theorem some_t {α : Type} {enc : α → D} {xs : List α} {s : D} (hs : dlist s = some (.lst (xs.map enc))) (hn : 2 ≤ n) {m : Nat} (hl : xs.length < 1000) {row : D} (hr : RowOk row) {P : D × List D → Prop}
    (k : ∀ (ys zs : List α) (row' : D), (ys ++ zs).Perm xs → ys.length = min m xs.length → RowOk row' → P (.lst (ys.map enc), [row'])) : Ok (l.orc n (.fn "_law_some") [row, s, .int (m : Nat)]) P := by
  refine op_law_some B.some_ (by omega) ?_
  have emin : (if xs.length < m then ((xs.length : Nat) : Int) else ((m : Nat) : Int)) = ((min m xs.length : Nat) : Int) := by split <;> omega
  have er := rng_n (m := min m xs.length) (by omega)
  simp -implicitDefEqProofs [k_law_some, hs, emin, er]
  refine floop_inv (xs := List.range (min m xs.length)) (enc := fun k : Nat => D.int (k : Nat)) (SI3 enc s m xs) ⟨[], xs, none, none, row, rfl, rfl, hr, by simp, by rw [List.length_range]; omega, by simp⟩ ?_ ?_
  · rintro t r ρ ω ⟨ys, zs, t0, at_, row, rfl, rfl, hr, hp, hz, hlen⟩
    have hzl : zs.length ≤ xs.length := by
      have := hp.length_eq
      rw [List.length_append] at this
      omega
    have hyl : ys.length ≤ xs.length := by
      have := hp.length_eq
      rw [List.length_append] at this
      omega
    have hz0 : 0 < zs.length := by simp at hz; omega
    simp -implicitDefEqProofs
    refine taken_t B (n := n - 1) (by omega) hr (by omega) (by omega) fun j row' hj hr' => ?_
    have hj : j < zs.length := by omega
    have e1 : atI (zs.map enc) ((j : Nat) : Int) = some (enc zs[j]) := by rw [at_nat, List.getElem?_map, List.getElem?_eq_getElem hj]; rfl
    have c2 : cutD (zs.map enc) (some (((j : Nat) : Int) + 1)) none = (zs.map enc).drop (j + 1) := by
      rw [show ((j : Nat) : Int) + 1 = ((j + 1 : Nat) : Int) by omega, cutDrop]
    have e5 : dbin .add (.lst (ys.map enc)) (.lst [enc zs[j]]) = some (.lst ((ys ++ [zs[j]]).map enc)) := by
      rw [add_lst (by simp; omega), List.map_append]; rfl
    have e6 : dbin .add (.lst ((zs.map enc).take j)) (.lst ((zs.map enc).drop (j + 1))) = some (.lst ((zs.map enc).take j ++ (zs.map enc).drop (j + 1))) := by
      rw [add_lst (by simp; omega)]
    simp -implicitDefEqProofs [e1, cutTake, c2, e5, e6]
    refine ⟨len_ok (by omega), ys ++ [zs[j]], zs.take j ++ zs.drop (j + 1), some (.int (t : Nat)), some (.int (j : Nat)), row', by simp, rfl, hr', ?_, ?_, ?_⟩
    · refine List.Perm.trans ?_ hp
      have : zs = zs.take j ++ zs[j] :: zs.drop (j + 1) := by
        rw [List.getElem_cons_drop, List.take_append_drop]
      conv => rhs; rw [this]
      rw [List.append_assoc]
      refine List.Perm.append_left _ ?_
      exact (List.perm_middle (a := zs[j]) (l₁ := zs.take j) (l₂ := zs.drop (j + 1))).symm
    · simp only [List.length_append, List.length_cons, List.length_nil, List.length_take, List.length_drop] at hz ⊢
      omega
    · simp only [List.length_append, List.length_cons, List.length_nil, List.length_take, List.length_drop] at hlen ⊢
      omega
  · rintro ρ ω ⟨ys, zs, t0, at_, row, rfl, rfl, hr, hp, hz, hlen⟩
    simp -implicitDefEqProofs
    refine k ys zs row hp ?_ hr
    simpa using hlen
theorem pick_t {α : Type} {enc : α → D} {xs : List α} {s : D} (hs : s = .lst (xs.map enc) ∨ s = .tup (xs.map enc)) (hn : 2 ≤ n) (hl : xs.length < 1000) (h0 : xs ≠ []) {row : D} (hr : RowOk row) {P : D × List D → Prop}
    (k : ∀ x ∈ xs, ∀ row', RowOk row' → P (enc x, [row'])) : Ok (l.orc n (.fn "_law_pick") [row, s]) P := by
  refine op_law_pick B.pick (by omega) ?_
  have hlp : 0 < xs.length := List.length_pos_iff.mpr h0
  have key : ∀ j : Nat, j < xs.length → ∃ x ∈ xs, atI (xs.map enc) ((j : Nat) : Int) = some (enc x) := fun j hj => ⟨xs[j], List.getElem_mem hj, by rw [at_nat, List.getElem?_map, List.getElem?_eq_getElem hj]; rfl⟩
  rcases hs with rfl | rfl
  · simp -implicitDefEqProofs [k_law_pick]
    refine taken_t B (n := n - 1) (by omega) hr (by omega) (by omega) fun j row' hj hr' => ?_
    obtain ⟨x, hx, e⟩ := key j (by omega)
    simp -implicitDefEqProofs [e]
    exact k x hx row' hr'
  · simp -implicitDefEqProofs [k_law_pick]
    refine taken_t B (n := n - 1) (by omega) hr (by omega) (by omega) fun j row' hj hr' => ?_
    obtain ⟨x, hx, e⟩ := key j (by omega)
    simp -implicitDefEqProofs [e]
    exact k x hx row' hr'
end
end Rf
end

section
set_option Elab.async false
set_option linter.all false
set_option maxRecDepth 100000
set_option maxHeartbeats 1000000
/-! Sorted lists; drawn kinds. -/
namespace Rf
open PySem L2
theorem leS_eq {a b : Str} : W.dataLe false pyOr (.str a) (.str b) = leS a b := by
  rw [W.dataLe_eq]
  show (!W.dataLt (.str b) (.str a)) = _
  rw [W.dataLt_str, W.not_lt_str]; rfl
def leP (p q : Str × Str) : Bool := !ltP q p
theorem leP_eq {p q : Str × Str} : W.dataLe false pyOr (pD p) (pD q) = leP p q := by
  rw [W.dataLe_eq]
  show (!W.dataLt (.tuple [.str q.1, .str q.2]) (.tuple [.str p.1, .str p.2])) = _
  rw [dlt_pair]; rfl
theorem sortD_str {ss : List Str} : sortD (ss.map .str) = some ((ss.mergeSort leS).map .str) := by
  unfold sortD
  rw [List.map_map]
  have e : oall (ss.map (pyN 39 ∘ D.str)) = some (ss.map PyData.str) := pys_strs ss
  rw [e]
  have ok : sortOk (ss.map PyData.str) = true := by
    unfold sortOk
    rw [Bool.and_eq_true, Bool.or_eq_true]
    refine ⟨?_, .inr ?_⟩
    · rw [List.all_eq_true]
      intro x hx
      rw [List.all_eq_true]
      intro y hy
      obtain ⟨a, _, rfl⟩ := List.mem_map.mp hx
      obtain ⟨b, _, rfl⟩ := List.mem_map.mp hy
      rfl
    · rw [List.all_eq_true]
      intro x hx
      obtain ⟨a, _, rfl⟩ := List.mem_map.mp hx
      rfl
  show (if sortOk (ss.map PyData.str) = true then some _ else none) = _
  rw [if_pos ok]
  congr 1
  exact (W.sort_maps (r := leS) (s := W.dataLe false pyOr) D.str fun a b _ _ => leS_eq.symm).symm
theorem pys_pairs : ∀ ps : List (Str × Str), oall (ps.map (pyN 39 ∘ pD)) = some (ps.map fun p => PyData.tuple [.str p.1, .str p.2])
  | [] => rfl
  | p :: ps => by
    show (oall (ps.map (pyN 39 ∘ pD))).map (PyData.tuple [.str p.1, .str p.2] :: ·) = _
    rw [pys_pairs ps]; rfl
theorem sortD_pair {ps : List (Str × Str)} : sortD (ps.map pD) = some ((ps.mergeSort leP).map pD) := by
  unfold sortD
  rw [List.map_map, pys_pairs]
  have ok : sortOk (ps.map fun p => PyData.tuple [.str p.1, .str p.2]) = true := by
    unfold sortOk
    rw [Bool.and_eq_true, Bool.or_eq_true]
    refine ⟨?_, .inl ?_⟩
    · rw [List.all_eq_true]
      intro x hx
      rw [List.all_eq_true]
      intro y hy
      obtain ⟨a, _, rfl⟩ := List.mem_map.mp hx
      obtain ⟨b, _, rfl⟩ := List.mem_map.mp hy
      rfl
    · rw [List.all_eq_true]
      intro x hx
      obtain ⟨a, _, rfl⟩ := List.mem_map.mp hx
      rfl
  show (if sortOk (ps.map fun p => PyData.tuple [.str p.1, .str p.2]) = true then some _ else none) = _
  rw [if_pos ok]
  congr 1
  exact (W.sort_maps (r := leP) (s := W.dataLe false pyOr) pD fun a b _ _ => leP_eq.symm).symm
theorem rise_pw {α : Type} {lt : α → α → Bool} : ∀ {l : List α}, l.Pairwise (fun a b => lt a b = true) → rise lt l = true
  | [], _ => rfl
  | [a], _ => rfl
  | a :: b :: r, h => by
    obtain ⟨h1, h2⟩ := List.pairwise_cons.mp h
    show (lt a b && rise lt (b :: r)) = true
    rw [h1 b List.mem_cons_self, rise_pw h2]; rfl
theorem ltS_of {a b : Str} (h : leS a b = true) (n : a ≠ b) : ltS a b = true := by
  unfold ltS
  rw [decide_eq_true_eq]
  by_cases q : a.cps.toList < b.cps.toList
  · exact q
  · exfalso
    refine n (leS_anti h ?_)
    unfold leS
    rw [decide_eq_true_eq]
    exact List.not_lt.mp q
theorem rise_sort {l : List Str} (nd : l.Nodup) : rise ltS (l.mergeSort leS) = true := by
  have pw := List.pairwise_mergeSort leS_trans leS_total l
  have nd2 : (l.mergeSort leS).Nodup := (List.mergeSort_perm l leS).symm.nodup nd
  exact rise_pw ((pw.and nd2).imp fun h => ltS_of h.1 h.2)
theorem ltS_irr (a : Str) : ltS a a = false := by unfold ltS; exact decide_eq_false (List.lt_irrefl _)
theorem ltS_tr {a b c : Str} (h : ltS a b = true) (k : ltS b c = true) : ltS a c = true := by
  unfold ltS at *
  rw [decide_eq_true_eq] at *
  exact List.lt_trans h k
theorem ltS_tot {a b : Str} (h : ltS a b = false) (k : ltS b a = false) : a = b := by
  unfold ltS at *
  rw [decide_eq_false_iff_not] at *
  have e := List.le_antisymm (List.not_lt.mp k) (List.not_lt.mp h)
  cases a with
  | mk x => cases b with
    | mk y => exact congrArg Str.mk (Array.toList_inj.mp e)
theorem ltP_irr (p : Str × Str) : ltP p p = false := by unfold ltP; rw [if_pos rfl]; exact ltS_irr _
theorem ltP_tr {p q r : Str × Str} (h : ltP p q = true) (k : ltP q r = true) : ltP p r = true := by
  unfold ltP at *
  split at h <;> split at k
  · rename_i a b; rw [if_pos (a.trans b)]; exact ltS_tr h k
  · rename_i a b; rw [if_neg (by rw [a]; exact b), a]; exact k
  · rename_i a b; rw [if_neg (by rw [← b]; exact a), ← b]; exact h
  · rename_i a b
    have t := ltS_tr h k
    rw [if_neg (fun e => by rw [e, ltS_irr] at t; cases t)]
    exact t
theorem ltP_tot {p q : Str × Str} (h : ltP p q = false) (k : ltP q p = false) : p = q := by
  unfold ltP at *
  by_cases e : p.1 = q.1
  · rw [if_pos e] at h
    rw [if_pos e.symm] at k
    exact Prod.ext e (ltS_tot h k)
  · rw [if_neg e] at h
    rw [if_neg fun x => e x.symm] at k
    exact absurd (ltS_tot h k) e
theorem leP_trans (p q r : Str × Str) (h : leP p q = true) (k : leP q r = true) : leP p r = true := by
  unfold leP at *
  rw [Bool.not_eq_true'] at *
  cases e : ltP r p with
  | false => rfl
  | true =>
    cases e2 : ltP p q with
    | true => rw [ltP_tr e e2] at k; cases k
    | false => rw [ltP_tot e2 h] at e; rw [e] at k; cases k
theorem leP_total (p q : Str × Str) : (leP p q || leP q p) = true := by
  unfold leP
  cases e : ltP q p with
  | false => rfl
  | true =>
    cases e2 : ltP p q with
    | false => rfl
    | true => have := ltP_tr e e2; rw [ltP_irr] at this; cases this
theorem rise_sortP {l : List (Str × Str)} (nd : l.Nodup) : rise ltP (l.mergeSort leP) = true := by
  have pw := List.pairwise_mergeSort leP_trans leP_total l
  have nd2 : (l.mergeSort leP).Nodup := (List.mergeSort_perm l leP).symm.nodup nd
  refine rise_pw ((pw.and nd2).imp fun {a b} h => ?_)
  cases e : ltP a b with
  | true => rfl
  | false =>
    have h1 := h.1
    unfold leP at h1
    rw [Bool.not_eq_true'] at h1
    exact absurd (ltP_tot e h1) h.2
/-- a loop over numbers -/
theorem floop_range {f : D → Env → Om → Option Fl} {e : Nat → D} {N : Env → Om → Prop} {T : D → Om → Prop} {M : Nat} {ρ : Env} {ω : Om} (I : Nat → Env → Om → Prop) (h0 : I 0 ρ ω)
    (hs : ∀ c, c < M → ∀ ρ ω, I c ρ ω → Ok (f (e c) ρ ω) fun q => flK q (I (c + 1)) T) (hd : ∀ ρ ω, I M ρ ω → N ρ ω) : Ok (floop f ((List.range M).map e) ρ ω) fun r => flK r N T := by
  refine floop_inv (xs := List.range M) (enc := e) (fun r ρ ω => ∃ c, c ≤ M ∧ r = List.range' c (M - c) ∧ I c ρ ω) ⟨0, Nat.zero_le _, by rw [Nat.sub_zero, List.range_eq_range'], h0⟩ ?_ ?_
  · rintro x r ρ ω ⟨c, hc, hr, hI⟩
    have hlt : c < M := by
      rcases Nat.lt_or_ge c M with h | h
      · exact h
      · rw [show M - c = 0 by omega] at hr; cases hr
    rw [show M - c = (M - (c + 1)) + 1 by omega, List.range'_succ] at hr
    injection hr with h1 h2
    rw [h1]
    refine (hs c hlt ρ ω hI).mono fun q hq => ?_
    cases q with
    | nx ρ1 ω1 => exact ⟨c + 1, hlt, h2, hq⟩
    | rt d ω1 => exact hq
  · rintro ρ ω ⟨c, hc, hr, hI⟩
    have : c = M := by
      rcases Nat.lt_or_ge c M with h | h
      · rw [show M - c = (M - (c + 1)) + 1 by omega, List.range'_succ] at hr; cases hr
      · omega
    subst this
    exact hd ρ ω hI
theorem rng_lh {lo hi : Nat} (h : hi < 1000000) (h2 : lo < 1000000) : rngD (lo : Int) (hi : Int) = some ((List.range (hi - lo)).map fun k => .int ((lo + k : Nat))) := by
  unfold rngD
  have hs : ((hi : Int) - lo) ≤ sizeLine := by rw [sizeLine_eq]; omega
  rw [if_pos ⟨by omega, by omega, by omega, by omega, hs⟩]
  have e : ((hi : Int) - lo).toNat = hi - lo := by omega
  rw [e]
  congr 1
def nm6 : List Str := ["a", "b2", "c", "k", "num", "z"]
/-- drawn kinds -/
structure KsOk (ks : List Str) : Prop where
  nd : ks.Nodup
  l2 : 2 ≤ ks.length
  l4 : ks.length ≤ 4
  nm : ∀ k ∈ ks, nmB k = true
  ri : rise ltS ks = true
structure Dk (l : Lw) : Prop extends Dr l where
  kinds : Has l c_law_kinds
  uppers : Has l c_law_uppers
  conversions : Has l c_law_conversions
  pattern : Has l c_law_pattern
  bodies : Has l c_law_bodies
  world : Has l c_law_world
  world_of : Has l c_law_world_of
theorem nm6_ok : ∀ k ∈ nm6, nmB k = true := by decide +kernel
theorem nm6_nd : nm6.Nodup := by decide +kernel
section
variable {l : Lw} (B : Dk l) {n : Nat}
include B
theorem kinds_d (hn : 4 ≤ n) {row : D} (hr : RowOk row) {P : D × List D → Prop} (k : ∀ ks row', KsOk ks → RowOk row' → P (sT ks, [row'])) : Ok (l.orc n (.fn "_law_kinds") [row, .int 4]) P := by
  refine op_law_kinds B.kinds (by omega) ?_
  have c4 : cutD [D.int 2, D.int 3, D.int 3, D.int 4] none (some 4) = [D.int 2, D.int 3, D.int 3, D.int 4] := rfl
  simp -implicitDefEqProofs [k_law_kinds, c4]
  refine ⟨len_ok (by omega), len_ok (by omega), ?_⟩
  refine pick_t B.toDr (n := n - 1) (xs := [2, 3, 3, 4]) (enc := fun k : Nat => .int (k : Nat)) (.inl rfl) (by omega) (by simp) (by simp) hr fun x hx row' hr' => ?_
  simp -implicitDefEqProofs
  refine some_t B.toDr (n := n - 1) (xs := nm6) (enc := .str) rfl (by omega) (by simp [nm6]) hr' fun ys zs row2 hp hl hr2 => ?_
  have nd : ys.Nodup := (List.nodup_append.mp (hp.symm.nodup nm6_nd)).1
  have hx2 : 2 ≤ x ∧ x ≤ 4 := by simp at hx; omega
  have l6 : nm6.length = 6 := rfl
  have pe := List.mergeSort_perm ys leS
  simp -implicitDefEqProofs [sortD_str]
  refine k (ys.mergeSort leS) row2 ⟨pe.symm.nodup nd, by rw [pe.length_eq, hl]; omega, by rw [pe.length_eq, hl]; omega, fun y hy => nm6_ok y (hp.subset (List.mem_append_left _ (pe.subset hy))), rise_sort nd⟩ hr2
end
end Rf
end

section
set_option Elab.async false
set_option linter.all false
set_option maxRecDepth 100000
set_option maxHeartbeats 1000000
/-! Drawn pairs of kinds. -/
namespace Rf
open PySem L2
/-- places of pairs -/
structure IxOk (m a b : Nat) (ix : List (Nat × Nat)) : Prop where
  nd : ix.Nodup
  bd : ∀ p ∈ ix, p.1 < p.2 ∧ p.2 < m ∧ (p.1 < a ∨ (p.1 = a ∧ p.2 < b))
theorem IxOk.mono {m a b b' : Nat} {ix : List (Nat × Nat)} (h : IxOk m a b ix) (k : b ≤ b') : IxOk m a b' ix := ⟨h.nd, fun p hp => by have := h.bd p hp; omega⟩
theorem IxOk.row {m a b : Nat} {ix : List (Nat × Nat)} (h : IxOk m a b ix) : IxOk m (a + 1) 0 ix := ⟨h.nd, fun p hp => by have := h.bd p hp; omega⟩
theorem IxOk.add {m a b : Nat} {ix : List (Nat × Nat)} (h : IxOk m a b ix) (h1 : a < b) (h2 : b < m) : IxOk m a (b + 1) (ix ++ [(a, b)]) := ⟨List.nodup_append.mpr ⟨h.nd, by simp, fun x hx y hy e => by
    rw [List.mem_singleton] at hy
    rw [e, hy] at hx
    have := h.bd _ hx
    simp at this⟩, fun p hp => by
    rcases List.mem_append.mp hp with q | q
    · have := h.bd p q; omega
    · rw [List.mem_singleton] at q; subst q; exact ⟨h1, h2, .inr ⟨rfl, Nat.lt_succ_self _⟩⟩⟩
theorem IxOk.len {m a b : Nat} {ix : List (Nat × Nat)} (h : IxOk m a b ix) (hm : m ≤ 4) : ix.length ≤ 6 := by
  refine len_sub (m := [(0, 1), (0, 2), (0, 3), (1, 2), (1, 3), (2, 3)]) h.nd fun p hp => ?_
  obtain ⟨x, y⟩ := p
  have q := h.bd _ hp
  simp at q ⊢
  omega
def ixP (sm : List Str) (p : Nat × Nat) : Str × Str := (sm.getD p.1 "", sm.getD p.2 "")
theorem getD_inj {sm : List Str} (nd : sm.Nodup) {i j : Nat} (hi : i < sm.length) (hj : j < sm.length) (e : sm.getD i "" = sm.getD j "") : i = j := by
  rw [List.getD_eq_getElem?_getD, List.getD_eq_getElem?_getD, List.getElem?_eq_getElem hi, List.getElem?_eq_getElem hj] at e
  exact (List.getElem_inj (xs := sm) (h₀ := hi) (h₁ := hj) nd).mp e
theorem map_nd {α β : Type} {f : α → β} : ∀ {l : List α}, l.Nodup → (∀ x ∈ l, ∀ y ∈ l, f x = f y → x = y) → (l.map f).Nodup
  | [], _, _ => List.nodup_nil
  | x :: l, h, k => by
    obtain ⟨h1, h2⟩ := List.nodup_cons.mp h
    refine List.nodup_cons.mpr ⟨fun q => ?_, map_nd h2 fun a ha b hb => k a (List.mem_cons_of_mem _ ha) b (List.mem_cons_of_mem _ hb)⟩
    obtain ⟨y, hy, e⟩ := List.mem_map.mp q
    have := k y (List.mem_cons_of_mem _ hy) x List.mem_cons_self e
    exact h1 (this ▸ hy)
theorem IxOk.pnd {m a b : Nat} {ix : List (Nat × Nat)} (h : IxOk m a b ix) {sm : List Str} (nd : sm.Nodup) (hm : sm.length = m) : (ix.map (ixP sm)).Nodup := by
  refine map_nd h.nd fun x hx y hy e => ?_
  have a1 := h.bd x hx
  have a2 := h.bd y hy
  unfold ixP at e
  injection e with e1 e2
  exact Prod.ext (getD_inj nd (by omega) (by omega) e1) (getD_inj nd (by omega) (by omega) e2)
/-- drawn pairs above -/
structure UpOk (ks : List Str) (us : List (Str × Str)) : Prop where
  ps : ∀ p ∈ us, p.1 ∈ ks ∧ p.2 ∈ ks ∧ p.1 ≠ p.2
  l6 : us.length ≤ 6
  ur : rise ltP us = true
  ring : NoRing ks us
theorem up_of {m a b : Nat} {ix : List (Nat × Nat)} (h : IxOk m a b ix) {sm ks : List Str} (nd : sm.Nodup) (hm : sm.length = m) (m4 : m ≤ 4) (sub : ∀ x, x ∈ sm ↔ x ∈ ks) : UpOk ks ((ix.map (ixP sm)).mergeSort leP) := by
  have pe := List.mergeSort_perm (ix.map (ixP sm)) leP
  have key : ∀ p ∈ (ix.map (ixP sm)).mergeSort leP, ∃ i j : Nat, i < j ∧ j < m ∧ p = (sm.getD i "", sm.getD j "") := fun p hp => by
    obtain ⟨q, hq, rfl⟩ := List.mem_map.mp (pe.subset hp)
    have := h.bd q hq
    exact ⟨q.1, q.2, this.1, this.2.1, rfl⟩
  have ing : ∀ {i : Nat}, i < m → sm.getD i "" ∈ sm := fun {i} hi => by
    rw [List.getD_eq_getElem?_getD, List.getElem?_eq_getElem (by omega)]
    exact List.getElem_mem _
  have us : ∀ p ∈ (ix.map (ixP sm)).mergeSort leP, p.1 ∈ ks ∧ p.2 ∈ ks ∧ p.1 ≠ p.2 := fun p hp => by
    obtain ⟨i, j, h1, h2, rfl⟩ := key p hp
    refine ⟨(sub _).mp (ing (by omega)), (sub _).mp (ing h2), fun e => ?_⟩
    have := getD_inj nd (by omega) (by omega) e
    omega
  refine ⟨us, by rw [pe.length_eq, List.length_map]; exact h.len m4, rise_sortP (h.pnd nd hm), fun p hp => ?_⟩
  obtain ⟨i, j, h1, h2, rfl⟩ := key p hp
  cases e : bel ks ((ix.map (ixP sm)).mergeSort leP) (sm.getD j "") (sm.getD i "") with
  | false => rfl
  | true =>
    exfalso
    have r := (bel_iff (fun p hp => ⟨(us p hp).1, (us p hp).2.1⟩) ((sub _).mp (ing h2))).mp e
    have go : ∀ y, Reach ((ix.map (ixP sm)).mergeSort leP) (sm.getD j "") y → ∃ k, j ≤ k ∧ k < m ∧ y = sm.getD k "" := fun y hy => by
      induction hy with
      | refl => exact ⟨j, Nat.le_refl _, h2, rfl⟩
      | step _ hm2 ih =>
        obtain ⟨k, k1, k2, k3⟩ := ih
        obtain ⟨x, y, q1, q2, q3⟩ := key _ hm2
        injection q3 with q3 q4
        have := getD_inj nd (by omega) (by omega) (k3.symm.trans q3)
        exact ⟨y, by omega, q2, q4⟩
    obtain ⟨k, k1, k2, k3⟩ := go _ r
    have := getD_inj nd (by omega) (by omega) k3
    omega
def pxD (sm : List Str) (ix : List (Nat × Nat)) : List D := (ix.map (ixP sm)).map pD
def UI1 (ks sm : List Str) (c : Nat) (ρ : Env) (ω : Om) : Prop := ∃ ix j k row, ρ = [none, some (sT ks), j, some (.lst (sm.map .str)), some (.lst (pxD sm ix)), k] ∧ ω = [some row] ∧ RowOk row ∧ IxOk sm.length c 0 ix
def UI2 (ks sm : List Str) (c : Nat) (t : Nat) (ρ : Env) (ω : Om) : Prop := ∃ ix k row, ρ = [none, some (sT ks), some (.int (c : Nat)), some (.lst (sm.map .str)), some (.lst (pxD sm ix)), k] ∧ ω = [some row] ∧ RowOk row ∧ IxOk sm.length c (c + 1 + t) ix
section
variable {l : Lw} (B : Dk l) {n : Nat}
include B
theorem uppers_d (hn : 4 ≤ n) {row : D} (hr : RowOk row) {ks : List Str} (hk : KsOk ks) {P : D × List D → Prop} (k : ∀ us row', UpOk ks us → RowOk row' → P (pT us, [row'])) : Ok (l.orc n (.fn "_law_uppers") [row, sT ks]) P := by
  refine op_law_uppers B.uppers (by omega) ?_
  have k4 := hk.l4
  simp -implicitDefEqProofs [k_law_uppers]
  refine some_t B.toDr (n := n - 1) (xs := ks) (enc := .str) (m := 9) rfl (by omega) (by omega) hr fun sm zs row1 hp hl hr1 => ?_
  have hz : zs = [] := by
    have := hp.length_eq
    rw [List.length_append] at this
    exact List.length_eq_zero_iff.mp (by omega)
  subst hz
  rw [List.append_nil] at hp
  have nd : sm.Nodup := hp.symm.nodup hk.nd
  have sl : sm.length = ks.length := hp.length_eq
  simp -implicitDefEqProofs [rng_n (m := sm.length) (by omega)]
  refine floop_range (M := sm.length) (e := fun k => D.int (k : Nat)) (UI1 ks sm) ⟨[], none, none, row1, rfl, rfl, hr1, by simp, by simp⟩ ?_ ?_
  · intro c hc ρ ω h
    unfold UI1 at h
    obtain ⟨ix, j0, k0, row2, h1, h2, hr2, hix⟩ := h
    subst h1
    subst h2
    have er : rngD ((c : Int) + 1) (sm.length : Int) = some ((List.range (sm.length - (c + 1))).map fun k => .int ((c + 1 + k : Nat))) := rng_lh (lo := c + 1) (by omega) (by omega)
    simp -implicitDefEqProofs [er]
    refine floop_range (M := sm.length - (c + 1)) (e := fun k => D.int ((c + 1 + k : Nat))) (UI2 ks sm c) ⟨ix, k0, row2, rfl, rfl, hr2, hix.mono (by omega)⟩ ?_ ?_
    · rintro t ht ρ ω ⟨ix, k0, row3, rfl, rfl, hr3, hix⟩
      obtain ⟨d, hd⟩ : ∃ d, d = c + 1 + t := ⟨_, rfl⟩
      rw [← hd] at hix ⊢
      have hix6 := hix.len (by omega)
      have ec : atI (sm.map D.str) ((c : Nat) : Int) = some (.str (sm.getD c "")) := by rw [at_nat, List.getElem?_map, List.getD_eq_getElem?_getD, List.getElem?_eq_getElem hc]; rfl
      have ed : atI (sm.map D.str) ((d : Nat) : Int) = some (.str (sm.getD d "")) := by rw [at_nat, List.getElem?_map, List.getD_eq_getElem?_getD, List.getElem?_eq_getElem (by omega)]; rfl
      have ea : ∀ x : D, dbin .add (.lst (pxD sm ix)) (.lst [x]) = some (.lst (pxD sm ix ++ [x])) := fun x => add_lst (by unfold pxD; simp; omega)
      have eb : dbin .add (.lst (pxD sm ix)) (.lst []) = some (.lst (pxD sm ix)) := by rw [add_lst (by unfold pxD; simp; omega), List.append_nil]
      simp -implicitDefEqProofs
      refine taken_t B.toDr (n := n - 1) (by omega) hr3 (by omega) (by omega) fun j row4 hj hr4 => ?_
      by_cases h2 : j < 2
      · have h2' : (j : Int) < 2 := by omega
        simp -implicitDefEqProofs [h2, h2', ec, ed, ea]
        refine ⟨len_ok (by omega), len_ok (by omega), ix ++ [(c, d)], some (.int (d : Nat)), row4, ?_, rfl, hr4, ?_⟩
        · simp [pxD, ixP, pD]
        · rw [show c + 1 + (t + 1) = d + 1 by omega]
          exact hix.add (by omega) (by omega)
      · have h2' : ¬ (j : Int) < 2 := by omega
        simp -implicitDefEqProofs [h2, h2', eb]
        refine ⟨ix, some (.int (d : Nat)), row4, rfl, rfl, hr4, hix.mono (by omega)⟩
    · rintro ρ ω ⟨ix, k0, row3, rfl, rfl, hr3, hix⟩
      exact ⟨ix, _, _, row3, rfl, rfl, hr3, hix.row⟩
  · rintro ρ ω ⟨ix, j0, k0, row2, rfl, rfl, hr2, hix⟩
    have es : sortD (pxD sm ix) = some (((ix.map (ixP sm)).mergeSort leP).map pD) := sortD_pair
    simp -implicitDefEqProofs [es]
    exact k _ _ (up_of hix nd rfl (by omega) fun x => hp.mem_iff) hr2
end
end Rf
end

section
set_option Elab.async false
set_option linter.all false
set_option maxRecDepth 100000
set_option maxHeartbeats 1000000
/-! Drawn conversions, bodies, worlds. -/
namespace Rf
open PySem L2
theorem py_pD {p : Str × Str} : py (pD p) = some (PyData.tuple [.str p.1, .str p.2]) := rfl
theorem eqv_pair {p q : Str × Str} : PyData.eqv (.tuple [.str p.1, .str p.2]) (.tuple [.str q.1, .str q.2]) = decide (p = q) := by
  show ((p.1 == q.1) && ((p.2 == q.2) && true)) = _
  obtain ⟨a, b⟩ := p
  obtain ⟨c, d⟩ := q
  rw [Bool.and_true]
  by_cases h1 : a = c
  · subst h1
    by_cases h2 : b = d
    · subst h2; simp
    · have : (b == d) = false := beq_eq_false_iff_ne.mpr h2
      simp [this, h2]
  · have : (a == c) = false := beq_eq_false_iff_ne.mpr h1
    simp [this, h1]
theorem cont_pairL {p : Str × Str} {ps : List (Str × Str)} : dcont (pD p) (.lst (ps.map pD)) = some (decide (p ∈ ps)) := by
  show (match py (pD p), pys (ps.map pD) with
    | some d, some ds => some (ds.any fun z => PyData.eqv z d)
    | _, _ => none) = _
  have e : pys (ps.map pD) = some (ps.map fun p => PyData.tuple [.str p.1, .str p.2]) := by
    show oall ((ps.map pD).map (pyN 39)) = _
    rw [List.map_map]
    exact pys_pairs ps
  rw [e, py_pD]
  show some (_) = _
  congr 1
  induction ps with
  | nil => rfl
  | cons y ys ih =>
    rw [List.map_cons, List.any_cons, ih, eqv_pair]
    · by_cases h : y = p
      · subst h; simp
      · have h2 : ¬ p = y := fun e => h e.symm
        simp [h, h2]
    · show oall ((ys.map pD).map (pyN 39)) = _
      rw [List.map_map]
      exact pys_pairs ys
theorem nin_pairL {p : Str × Str} {ps : List (Str × Str)} : dcmp .nin (pD p) (.lst (ps.map pD)) = some (!decide (p ∈ ps)) := by
  show (dcont _ _).map _ = _
  rw [cont_pairL]; rfl
/-- drawn conversions -/
structure CvOk (ks : List Str) (cs : List (Str × Str)) : Prop where
  ps : ∀ p ∈ cs, p.1 ∈ ks ∧ p.2 ∈ ks ∧ p.1 ≠ p.2
  l6 : cs.length ≤ 6
  ur : rise ltP cs = true
def pqD (fs : List (Str × Str)) : List D := fs.map pD
def CI (ks : List Str) (many c : Nat) (ρ : Env) (ω : Om) : Prop := ∃ fs t p row, ρ = [none, some (sT ks), some (.int (many : Nat)), some (.lst (pqD fs)), t, p] ∧ ω = [some row] ∧ RowOk row ∧ fs.Nodup ∧ fs.length ≤ c ∧ ∀ p ∈ fs, p.1 ∈ ks ∧ p.2 ∈ ks ∧ p.1 ≠ p.2
def nb6 : List Str := ["f1", "f2", "g", "h", "m3", "t"]
theorem nb6_ok : ∀ k ∈ nb6, nmB k = true := by decide +kernel
theorem nb6_nd : nb6.Nodup := by decide +kernel
/-- drawn bodies -/
structure BsOk (ks : List Str) (bs : List Bd) : Prop where
  ok : ∀ b ∈ bs, BdOk ks b
  l4 : bs.length ≤ 4
  l1 : 1 ≤ bs.length
  nd : (bs.map (·.1)).Nodup
  br : rise ltS (bs.map (·.1)) = true
/-- drawn parts -/
structure PD (P : Pt) : Prop where
  ok : POk P
  l4 : P.kinds.length ≤ 4
  b4 : P.bods.length ≤ 4
  b1 : 1 ≤ P.bods.length
  bn : (P.bods.map (·.1)).Nodup
def ptD (P : Pt) : D := .tup [sT P.kinds, pT P.ups, pT P.cvs, bT P.bods]
/-- as many, each in its relation -/
inductive A2 {β α : Type} (Q : β → α → Prop) : List β → List α → Prop
  | nil : A2 Q [] []
  | cons {z : β} {a : α} {zs : List β} {as : List α} : Q z a → A2 Q zs as → A2 Q (z :: zs) (a :: as)
theorem A2.len {β α : Type} {Q : β → α → Prop} {zs : List β} {as : List α} (h : A2 Q zs as) : as.length = zs.length := by
  induction h with
  | nil => rfl
  | cons _ _ ih => rw [List.length_cons, List.length_cons, ih]
theorem A2.mem {β α : Type} {Q : β → α → Prop} {zs : List β} {as : List α} (h : A2 Q zs as) : ∀ a ∈ as, ∃ z ∈ zs, Q z a := by
  induction h with
  | nil => intro a ha; cases ha
  | cons q _ ih =>
    intro a ha
    rcases List.mem_cons.mp ha with e | e
    · subst e; exact ⟨_, List.mem_cons_self, q⟩
    · obtain ⟨z, h1, h2⟩ := ih a e
      exact ⟨z, List.mem_cons_of_mem _ h1, h2⟩
theorem A2.map {β α : Type} {Q : β → α → Prop} {f : α → β} {zs : List β} {as : List α} (h : A2 Q zs as) (k : ∀ z a, Q z a → f a = z) : as.map f = zs := by
  induction h with
  | nil => rfl
  | cons q _ ih => rw [List.map_cons, k _ _ q, ih]
/-- a comprehension that draws -/
theorem gl_t {β α : Type} {f : D → Om → R (List D)} {e0 : β → D} {enc : α → D} {Q : β → α → Prop} : ∀ {zs : List β} {row : D}, RowOk row → (∀ z ∈ zs, ∀ row, RowOk row → ∀ K : List D × Om → Prop, (∀ a row', Q z a → RowOk row' → K ([enc a], [some row'])) → Ok (f (e0 z) [some row]) K) →
    ∀ P : List D × Om → Prop, (∀ as row', A2 Q zs as → RowOk row' → P (as.map enc, [some row'])) → Ok (gloop f (zs.map e0) [some row]) P
  | [], row, hr, _, P, k => k [] row .nil hr
  | z :: zs, row, hr, h, P, k => by
    show Ok (bnd (f (e0 z) [some row]) _) P
    rw [Ok_bnd]
    refine h z List.mem_cons_self row hr _ fun a row' qa hr' => ?_
    show Ok (bnd (gloop f (zs.map e0) [some row']) _) P
    rw [Ok_bnd]
    refine gl_t hr' (fun y hy => h y (List.mem_cons_of_mem _ hy)) _ fun as row2 qas hr2 => ?_
    exact k (a :: as) row2 (.cons qa qas) hr2
section
variable {l : Lw} (B : Dk l) {n : Nat}
include B
theorem conversions_d (hn : 4 ≤ n) {row : D} (hr : RowOk row) {ks : List Str} (hk : KsOk ks) {m : Nat} (m2 : m ≤ 2) {P : D × List D → Prop} (k : ∀ cs row', CvOk ks cs → RowOk row' → P (pT cs, [row'])) : Ok (l.orc n (.fn "_law_conversions") [row, sT ks, .int (m : Nat)]) P := by
  refine op_law_conversions B.conversions (by omega) ?_
  have k4 := hk.l4
  simp -implicitDefEqProofs [k_law_conversions, rng_n (m := m) (by omega)]
  refine floop_range (M := m) (e := fun k => D.int (k : Nat)) (CI ks m) ⟨[], none, none, row, rfl, rfl, hr, by simp, by simp, by simp⟩ ?_ ?_
  · intro c hc ρ ω h
    unfold CI at h
    obtain ⟨fs, t, p, row2, h1, h2, hr2, nd, hl, hp⟩ := h
    subst h1
    subst h2
    simp -implicitDefEqProofs
    refine some_t B.toDr (n := n - 1) (xs := ks) (enc := .str) (m := 2) rfl (by omega) (by omega) hr2 fun sm zs row1 hp2 hl2 hr1 => ?_
    have k2 := hk.l2
    obtain ⟨a, b, rfl⟩ : ∃ a b, sm = [a, b] := by
      match sm, hl2 with
      | [a, b], _ => exact ⟨a, b, rfl⟩
      | [], h => simp at h; omega
      | [a], h => simp at h; omega
      | a :: b :: c :: r, h => simp at h; omega
    have nd2 := (List.nodup_append.mp (hp2.symm.nodup hk.nd)).1
    have ab : a ≠ b := fun e => by subst e; simp at nd2
    have ha : a ∈ ks := hp2.subset (by simp)
    have hb : b ∈ ks := hp2.subset (by simp)
    have e1 : dcmp .nin (.tup [.str a, .str b]) (.lst (pqD fs)) = some (!decide ((a, b) ∈ fs)) := nin_pairL (p := (a, b))
    have ea : ∀ x : D, dbin .add (.lst (pqD fs)) (.lst [x]) = some (.lst (pqD fs ++ [x])) := fun x => add_lst (by unfold pqD; simp; omega)
    have eb : dbin .add (.lst (pqD fs)) (.lst []) = some (.lst (pqD fs)) := by rw [add_lst (by unfold pqD; simp; omega), List.append_nil]
    simp -implicitDefEqProofs [e1, ea, eb]
    by_cases hm : (a, b) ∈ fs
    · simp -implicitDefEqProofs [hm, eb]
      exact ⟨fs, some (.int (c : Nat)), some (.tup [.str a, .str b]), row1, rfl, rfl, hr1, nd, by omega, hp⟩
    · simp -implicitDefEqProofs [hm, ea]
      refine ⟨len_ok (by omega), fs ++ [(a, b)], some (.int (c : Nat)), some (.tup [.str a, .str b]), row1, ?_, rfl, hr1, ?_, by simp; omega, ?_⟩
      · simp [pqD, pD]
      · exact List.nodup_append.mpr ⟨nd, by simp, fun x hx y hy e => by rw [List.mem_singleton] at hy; subst hy; subst e; exact hm hx⟩
      · intro p hp3
        rcases List.mem_append.mp hp3 with q | q
        · exact hp p q
        · rw [List.mem_singleton] at q; subst q; exact ⟨ha, hb, ab⟩
  · intro ρ ω h
    unfold CI at h
    obtain ⟨fs, t, p, row2, h1, h2, hr2, nd, hl, hp⟩ := h
    subst h1
    subst h2
    have es : sortD (pqD fs) = some ((fs.mergeSort leP).map pD) := sortD_pair
    have pe := List.mergeSort_perm fs leP
    simp -implicitDefEqProofs [es]
    exact k (fs.mergeSort leP) row2 ⟨fun p q => hp p (pe.subset q), by rw [pe.length_eq]; omega, rise_sortP nd⟩ hr2
theorem pattern_d (hn : 4 ≤ n) {row : D} (hr : RowOk row) {ks : List Str} (hk : KsOk ks) {P : D × List D → Prop} (k : ∀ (ps : List Str) (m : Nat) (r : Str) row', (∀ x ∈ ps, x ∈ ks) → ps.length ≤ 3 → m ≤ ps.length → (r = "" ∨ r ∈ ks) → RowOk row' → P (.tup [sT ps, .int (m : Nat), .str r], [row'])) : Ok (l.orc n (.fn "_law_pattern") [row, sT ks, .int 3]) P := by
  refine op_law_pattern B.pattern (by omega) ?_
  have k4 := hk.l4
  have k2 := hk.l2
  have kne : ks ≠ [] := fun e => by subst e; simp at k2
  simp -implicitDefEqProofs [k_law_pattern]
  refine taken_t B.toDr (n := n - 1) (by omega) hr (by omega) (by omega) fun c row1 hc hr1 => ?_
  simp -implicitDefEqProofs [rng_n (m := c) (by omega)]
  refine gl_t (zs := List.range c) (e0 := fun k : Nat => D.int (k : Nat)) (enc := .str) (Q := fun _ a => a ∈ ks) hr1 (fun z hz row hr K kk => ?_) _ fun ps row2 hps hr2 => ?_
  · simp -implicitDefEqProofs
    refine pick_t B.toDr (n := n - 1) (xs := ks) (enc := .str) (.inr rfl) (by omega) (by omega) kne hr fun x hx row' hr' => ?_
    simp -implicitDefEqProofs
    exact kk x row' hx hr'
  · have pl : ps.length ≤ 3 := by have := hps.len; rw [List.length_range] at this; omega
    have pm : ∀ x ∈ ps, x ∈ ks := fun x hx => by obtain ⟨_, _, h⟩ := hps.mem x hx; exact h
    have fin : ∀ (row : D) (K : D × List D → Prop), RowOk row → (∀ (r : Str) row', (r = "" ∨ r ∈ ks) → RowOk row' → K (.str r, [row'])) → Ok (l.orc (n - 1) (.fn "_law_pick") [row, .lst (D.str "" :: D.str "" :: D.str "" :: ks.map .str)]) K := fun row K hr kk => by
      refine pick_t B.toDr (n := n - 1) (xs := "" :: "" :: "" :: ks) (enc := .str) (.inl rfl) (by omega) (by simp; omega) (by simp) hr fun x hx row' hr' => ?_
      refine kk x row' ?_ hr'
      simp at hx
      rcases hx with h | h
      · exact .inl h
      · exact .inr h
    have ea : dbin .add (.lst [.str "", .str "", .str ""]) (.lst (ks.map .str)) = some (.lst (D.str "" :: D.str "" :: D.str "" :: ks.map .str)) := by
      rw [add_lst (by simp; omega)]; rfl
    have dls : dlist (sT ks) = some (.lst (ks.map .str)) := rfl
    simp -implicitDefEqProofs
    refine ⟨len_ok (by omega), ?_⟩
    refine taken_t B.toDr (n := n - 1) (by omega) hr2 (by omega) (by omega) fun c2 row3 hc2 hr3 => ?_
    by_cases h0 : 0 < c2
    · simp -implicitDefEqProofs [h0, ea, dls]
      refine ⟨len_ok (by omega), fin _ _ hr3 fun r row4 h4 hr4 => ?_⟩
      simp -implicitDefEqProofs
      exact ⟨len_ok (by omega), k ps ps.length r row4 pm pl (Nat.le_refl _) h4 hr4⟩
    · simp -implicitDefEqProofs [h0]
      refine taken_t B.toDr (n := n - 1) (by omega) hr3 (by omega) (by omega) fun m row4 hm hr4 => ?_
      simp -implicitDefEqProofs [ea, dls]
      refine ⟨len_ok (by omega), fin _ _ hr4 fun r row5 h5 hr5 => ?_⟩
      simp -implicitDefEqProofs
      exact ⟨len_ok (by omega), k ps m r row5 pm pl (by omega) h5 hr5⟩
theorem bodies_d (hn : 5 ≤ n) {row : D} (hr : RowOk row) {ks : List Str} (hk : KsOk ks) {m : Nat} (m1 : 1 ≤ m) (m4 : m ≤ 4) {P : D × List D → Prop} (k : ∀ bs row', BsOk ks bs → RowOk row' → P (bT bs, [row'])) : Ok (l.orc n (.fn "_law_bodies") [row, sT ks, .int (m : Nat), .int 3]) P := by
  refine op_law_bodies B.bodies (by omega) ?_
  have k4 := hk.l4
  have k2 := hk.l2
  have kne : ks ≠ [] := fun e => by subst e; simp at k2
  simp -implicitDefEqProofs [k_law_bodies]
  refine ⟨len_ok (by omega), ?_⟩
  refine some_t B.toDr (n := n - 1) (xs := nb6) (enc := .str) rfl (by omega) (by simp [nb6]) hr fun ys zs row2 hp hl hr2 => ?_
  have nd : ys.Nodup := (List.nodup_append.mp (hp.symm.nodup nb6_nd)).1
  have l6 : nb6.length = 6 := rfl
  have pe := List.mergeSort_perm ys leS
  have pl := pe.length_eq
  have ri := rise_sort nd
  have nd3 := pe.symm.nodup nd
  have ok3 : ∀ y ∈ ys.mergeSort leS, nmB y = true := fun y hy => nb6_ok y (hp.subset (List.mem_append_left _ (pe.subset hy)))
  simp -implicitDefEqProofs [sortD_str]
  generalize hns : ys.mergeSort leS = ns at *
  refine gl_t (zs := ns) (e0 := .str) (enc := bD) (Q := fun a b => a = b.1 ∧ (nmB a = true → BdOk ks b)) hr2 (fun z hz row hr K kk => ?_) _ fun bs row2 hbs hr2 => ?_
  · simp -implicitDefEqProofs
    refine ⟨len_ok (by omega), pattern_d B (n := n - 1) (by omega) hr hk fun ps m r row' q1 q2 q3 q4 hr' => ?_⟩
    have e1 : dbin .add (.tup [.str z]) (.tup [sT ps, .int (m : Nat), .str r]) = some (.tup [.str z, sT ps, .int (m : Nat), .str r]) := add_tup (by simp)
    simp -implicitDefEqProofs [e1]
    refine pick_t B.toDr (n := n - 1) (xs := ks) (enc := .str) (.inr rfl) (by omega) (by omega) kne hr' fun x hx row3 hr3 => ?_
    have e2 : dbin .add (.tup [.str z, sT ps, .int (m : Nat), .str r]) (.tup [.str x]) = some (.tup [.str z, sT ps, .int (m : Nat), .str r, .str x]) := add_tup (by simp)
    simp -implicitDefEqProofs [e2]
    exact ⟨len_ok (by omega), kk (z, ps, m, r, x) row3 ⟨rfl, fun h => ⟨h, q1, by show ps.length ≤ 4; omega, q3, q4, hx⟩⟩ hr3⟩
  · have bl := hbs.len
    have em : bs.map (·.1) = ns := hbs.map fun z a h => h.1.symm
    simp -implicitDefEqProofs
    refine ⟨len_ok (by omega), k bs row2 ⟨fun b hb => ?_, by omega, by omega, by rw [em]; exact nd3, by rw [em]; exact ri⟩ hr2⟩
    obtain ⟨z, hz, q1, q2⟩ := hbs.mem b hb
    exact q2 (ok3 z hz)
theorem world_d (hn : 6 ≤ n) {row : D} (hr : RowOk row) {P : D × List D → Prop} (k : ∀ p row', PD p → RowOk row' → P (ptD p, [row'])) : Ok (l.orc n (.fn "_law_world") [row]) P := by
  refine op_law_world B.world (by omega) ?_
  simp -implicitDefEqProofs [k_law_world]
  refine kinds_d B (n := n - 1) (by omega) hr fun ks row1 hk hr1 => ?_
  simp -implicitDefEqProofs
  refine uppers_d B (n := n - 1) (by omega) hr1 hk fun us row2 hu hr2 => ?_
  simp -implicitDefEqProofs
  refine ⟨len_ok (by omega), pick_t B.toDr (n := n - 1) (xs := [0, 0, 1, 2]) (enc := fun k : Nat => .int (k : Nat)) (.inl rfl) (by omega) (by simp) (by simp) hr2 fun c hc row3 hr3 => ?_⟩
  have hc2 : c ≤ 2 := by simp at hc; omega
  simp -implicitDefEqProofs
  refine conversions_d B (n := n - 1) (by omega) hr3 hk hc2 fun cs row4 hcs hr4 => ?_
  simp -implicitDefEqProofs
  refine taken_t B.toDr (n := n - 1) (by omega) hr4 (by omega) (by omega) fun t row5 ht hr5 => ?_
  simp -implicitDefEqProofs
  rw [show (1 : Int) + (t : Int) = ((1 + t : Nat) : Int) by omega]
  refine bodies_d B (n := n - 1) (by omega) hr5 hk (m := 1 + t) (by omega) (by omega) fun bs row6 hb hr6 => ?_
  simp -implicitDefEqProofs
  have k4 := hk.l4
  have k2 := hk.l2
  have u6 := hu.l6
  have b4 := hb.l4
  refine ⟨len_ok (by omega), k ⟨ks, us, cs, bs⟩ row6 ⟨⟨hk.nm, by show 1 ≤ ks.length; omega, by show ks.length ≤ 6; omega, hk.ri, hk.nd, hu.ps, by show us.length ≤ 12; omega, hu.ur, hu.ring, hcs.ps, hcs.l6, hcs.ur, hb.ok, by show bs.length ≤ 12; omega, hb.br⟩, hk.l4, hb.l4, hb.l1, hb.nd⟩ hr6⟩
theorem world_of_d (C : Bs l) (hn : 6 ≤ n) {P : Pt} (h : POk P) : l.orc n (.fn "_law_world_of") [ptD P] = some (P.wD, []) := by
  apply Ok.eq
  refine op_law_world_of B.world_of (by omega) ?_
  have w := world_t C (n := n - 1) (by omega) h
  simp -implicitDefEqProofs [k_law_world_of, ptD, w]
end
end Rf
end

section
set_option Elab.async false
set_option linter.all false
set_option maxRecDepth 100000
set_option maxHeartbeats 1000000
/-! What a law reckons by itself: above, ranks, who takes a call. -/
namespace Rf
open PySem L2
def plD (d : D) : Bool := (pyN 39 d).isSome
theorem oall_pl {α β : Type} {f : α → Option β} : ∀ {xs : List α}, (∀ x ∈ xs, (f x).isSome = true) → ∃ ys, oall (xs.map f) = some ys ∧ ys.length = xs.length
  | [], _ => ⟨[], rfl, rfl⟩
  | x :: xs, h => by
    obtain ⟨ys, e, hl⟩ := oall_pl (xs := xs) fun y hy => h y (List.mem_cons_of_mem _ hy)
    obtain ⟨y, hy⟩ := Option.isSome_iff_exists.mp (h x List.mem_cons_self)
    refine ⟨y :: ys, ?_, by rw [List.length_cons, List.length_cons, hl]⟩
    rw [List.map_cons, hy]
    show (oall (xs.map f)).map (y :: ·) = _
    rw [e]; rfl
theorem eq_nil {xs : List D} (h : ∀ x ∈ xs, plD x = true) : dcmp .eq (.lst xs) (.lst []) = some xs.isEmpty := by
  obtain ⟨ys, e, hl⟩ := oall_pl (f := pyN 39) h
  have e1 : py (.lst xs) = some (.list ys) := by
    show (oall (xs.map (pyN 39))).map PyData.list = _
    rw [e]; rfl
  show (match py (.lst xs), py (.lst []) with
    | some x, some y => some (PyData.eqv x y)
    | _, _ => none) = _
  rw [e1]
  show some (PyData.eqv (.list ys) (.list [])) = _
  cases xs with
  | nil => cases ys with
    | nil => rfl
    | cons y ys => simp at hl
  | cons x xs => cases ys with
    | nil => simp at hl
    | cons y ys => rfl
theorem ne_nil {xs : List D} (h : ∀ x ∈ xs, plD x = true) : dcmp .ne (.lst xs) (.lst []) = some (!xs.isEmpty) := by
  have e := eq_nil h
  show (deq _ _).map _ = _
  have e : deq (.lst xs) (.lst []) = some xs.isEmpty := e
  rw [e]; rfl
theorem ne_nilT {xs : List D} (h : ∀ x ∈ xs, plD x = true) : dcmp .ne (.tup xs) (.tup []) = some (!xs.isEmpty) := by
  obtain ⟨ys, e, hl⟩ := oall_pl (f := pyN 39) h
  have e1 : py (.tup xs) = some (.tuple ys) := by
    show (oall (xs.map (pyN 39))).map PyData.tuple = _
    rw [e]; rfl
  show (deq _ _).map _ = _
  have e2 : deq (.tup xs) (.tup []) = some (PyData.eqv (.tuple ys) (.tuple [])) := by
    show (match py (.tup xs), py (.tup []) with
      | some x, some y => some (PyData.eqv x y)
      | _, _ => none) = _
    rw [e1]; rfl
  rw [e2]
  cases xs with
  | nil => cases ys with
    | nil => rfl
    | cons y ys => simp at hl
  | cons x xs => cases ys with
    | nil => simp at hl
    | cons y ys => rfl
theorem pl_pD {p : Str × Str} : plD (pD p) = true := rfl
theorem pl_int {i : Int} : plD (.int i) = true := rfl
theorem pl_str {s : Str} : plD (.str s) = true := rfl
theorem flat_if {α β : Type} {q : α → Bool} {g : α → β} : ∀ xs : List α, (xs.flatMap fun x => if q x = true then [g x] else []) = (xs.filter q).map g
  | [] => rfl
  | x :: xs => by
    rw [List.flatMap_cons, flat_if xs, List.filter_cons]
    cases q x <;> simp
theorem strsOf_map : ∀ {ss : List Str}, strsOf (ss.map .str) = some ss
  | [] => rfl
  | s :: ss => by
    have := strsOf_map (ss := ss)
    unfold strsOf at this ⊢
    rw [List.map_cons, List.map_cons]
    show (oall _).map (s :: ·) = _
    rw [this]; rfl
theorem sset_str {ss : List Str} (h : ss.length < 4000) : sortsetD (ss.map .str) = some (.lst ((sortS ss).map .str)) := by
  unfold sortsetD
  rw [strsOf_map]
  show (if ss.length < 4000 then _ else _) = _
  rw [if_pos h]
theorem mem_insS : ∀ {ss l : List Str} {x : Str}, x ∈ ss.foldl insL l ↔ x ∈ l ∨ x ∈ ss
  | [], l, x => by simp
  | s :: ss, l, x => by
    rw [List.foldl_cons, mem_insS]
    unfold insL
    split
    · rename_i h
      constructor
      · rintro (a | a)
        · exact .inl a
        · exact .inr (List.mem_cons_of_mem _ a)
      · rintro (a | a)
        · exact .inl a
        · rcases List.mem_cons.mp a with b | b
          · subst b; exact .inl h
          · exact .inr b
    · simp only [List.mem_cons]
      constructor
      · rintro ((a | a) | a)
        · exact .inr (.inl a)
        · exact .inl a
        · exact .inr (.inr a)
      · rintro (a | a | a)
        · exact .inl (.inr a)
        · exact .inl (.inl a)
        · exact .inr a
theorem mem_sortS {ss : List Str} {x : Str} : x ∈ sortS ss ↔ x ∈ ss := by
  unfold sortS
  rw [List.mem_mergeSort, mem_insS]; simp
/-- the kind met at a place -/
def metB (b : Bd) (k : Nat) : Str := if k < b.2.1.length then b.2.1.getD k "" else b.2.2.2.1
def endB (b : Bd) (m : Nat) : Bool := decide (b.2.2.1 ≤ m) && (!decide (b.2.2.2.1 = "") || decide (m ≤ b.2.1.length))
def Pt.takes (P : Pt) (b : Bd) (c : List Str) : Bool := endB b c.length && (List.range c.length).all fun k => (P.rk (c.getD k "") (metB b k)).isSome
def LI (P : Pt) (a : Str) (r : List Str) (ρ : Env) (ω : Om) : Prop := ∃ s t u v, ρ = [some (ptD P), some (.str a), some (.lst (s.map .str)), t, u, v] ∧ ω = [] ∧ iterL (jacP P.ups) r.length s = lawAb P.kinds P.ups a ∧ s.length + 12 * r.length ≤ 100
theorem atS {c : List Str} {k : Nat} (h : k < c.length) : atI (c.map D.str) ((k : Nat) : Int) = some (D.str (c.getD k "")) := by
  rw [at_nat, List.getElem?_map, List.getD_eq_getElem?_getD, List.getElem?_eq_getElem h]; rfl
section
variable {l : Lw} {n : Nat}
theorem above_t (hA : Has l c_law_above) (hn : 1 ≤ n) {P : Pt} (h : POk P) {a : Str} : l.orc n (.fn "_law_above") [ptD P, .str a] = some (.lst ((sortS (lawAb P.kinds P.ups a)).map .str), []) := by
  apply Ok.eq
  refine op_law_above hA (by omega) ?_
  have k6 := h.k6
  have u12 := h.u12
  have i0 : didx (ptD P) (.int 0) = some (sT P.kinds) := rfl
  have i1 : didx (ptD P) (.int 1) = some (pT P.ups) := rfl
  have hsT : ditems (sT P.kinds) = some (P.kinds.map .str) := rfl
  have hpT : ditems (pT P.ups) = some (P.ups.map pD) := rfl
  simp -implicitDefEqProofs [k_law_above, i0, hsT]
  refine ⟨len_ok (by omega), floop_inv (xs := P.kinds) (enc := D.str) (LI P a) ⟨[a], none, none, none, rfl, rfl, rfl, by simp; omega⟩ ?_ ?_⟩
  · intro x r ρ ω hI
    unfold LI at hI
    obtain ⟨s, t, u, v, h1, h2, h3, h4⟩ := hI
    subst h1
    subst h2
    simp at h4
    simp -implicitDefEqProofs [i1, hpT]
    refine ok_gp P.ups pD (fun p => if (decide (p.1 ∈ s) && !decide (p.2 ∈ s)) = true then [.str p.2] else []) rfl (fun p _ => ?_) ?_
    · simp -implicitDefEqProofs [pD]
      by_cases q1 : p.1 ∈ s
      · by_cases q2 : p.2 ∈ s
        · simp -implicitDefEqProofs [q1, q2]
        · simp -implicitDefEqProofs [q1, q2]
      · simp -implicitDefEqProofs [q1]
    · rw [flat_if]
      have fl : (P.ups.filter fun p => decide (p.1 ∈ s) && !decide (p.2 ∈ s)).length ≤ P.ups.length := List.length_filter_le _ _
      have ej : (P.ups.filter fun p => decide (p.1 ∈ s) && !decide (p.2 ∈ s)).map (fun p => D.str p.2) = ((P.ups.filter fun p => decide (p.1 ∈ s) && !decide (p.2 ∈ s)).map (·.2)).map .str := by rw [List.map_map]; rfl
      rw [ej]
      generalize hq : (P.ups.filter fun p => decide (p.1 ∈ s) && !decide (p.2 ∈ s)).map (·.2) = q
      have ql : q.length ≤ 12 := by rw [← hq, List.length_map]; omega
      have ea : dbin .add (.lst (s.map .str)) (.lst (q.map .str)) = some (.lst ((s ++ q).map .str)) := by rw [add_lst (by simp; omega), List.map_append]
      have es : s ++ q = jacP P.ups s := by unfold jacP; rw [hq]
      simp -implicitDefEqProofs [ea, -List.map_append]
      refine ⟨len_ok (by omega), s ++ q, some (.str x), u, v, by simp, rfl, ?_, ?_⟩
      · rw [es]; exact h3
      · simp; omega
  · intro ρ ω hI
    unfold LI at hI
    obtain ⟨s, t, u, v, h1, h2, h3, h4⟩ := hI
    subst h1
    subst h2
    have h3 : s = lawAb P.kinds P.ups a := h3
    simp at h4
    simp -implicitDefEqProofs [sset_str (ss := s) (by omega)]
    rw [h3]
theorem mem_ab {P : Pt} (h : POk P) {a b : Str} (ha : a ∈ P.kinds) : decide (b ∈ sortS (lawAb P.kinds P.ups a)) = P.bel a b := by
  have e : b ∈ sortS (lawAb P.kinds P.ups a) ↔ P.bel a b = true := by rw [mem_sortS]; exact lawAb_iff h.up ha
  cases q : P.bel a b with
  | true => exact decide_eq_true (e.mpr q)
  | false => exact decide_eq_false fun x => by rw [e.mp x] at q; cases q
/-- the law's own defs -/
structure La (l : Lw) : Prop where
  above : Has l c_law_above
  below : Has l c_law_below
  met : Has l c_law_met
  ends : Has l c_law_ends
  rank : Has l c_law_rank
  takes : Has l c_law_takes
variable (A : La l)
include A
theorem lbelow_t (hn : 2 ≤ n) {P : Pt} (h : POk P) {a b : Str} (ha : a ∈ P.kinds) : l.orc n (.fn "_law_below") [ptD P, .str a, .str b] = some (.bl (P.bel a b), []) := by
  apply Ok.eq
  refine op_law_below A.below (by omega) ?_
  have e := above_t A.above (n := n - 1) (by omega) h (a := a)
  simp -implicitDefEqProofs [k_law_below, e, mem_ab h ha, -decide_eq_true_eq]
theorem met_t (hn : 1 ≤ n) {b : Bd} {k : Nat} : l.orc n (.fn "_law_met") [bD b, .int (k : Nat)] = some (.str (metB b k), []) := by
  apply Ok.eq
  refine op_law_met A.met (by omega) ?_
  have i1 : didx (bD b) (.int 1) = some (sT b.2.1) := rfl
  have i3 : didx (bD b) (.int 3) = some (.str b.2.2.2.1) := rfl
  have dl : dlen (sT b.2.1) = some b.2.1.length := by simp [sT]
  simp -implicitDefEqProofs [k_law_met, i1, i3, dl]
  unfold metB
  by_cases hk : k < b.2.1.length
  · have e : didx (sT b.2.1) (.int (k : Nat)) = some (.str (b.2.1.getD k "")) := by
      show atI (b.2.1.map D.str) _ = _
      rw [at_nat, List.getElem?_map, List.getD_eq_getElem?_getD, List.getElem?_eq_getElem hk]; rfl
    simp -implicitDefEqProofs [hk, e]
  · simp -implicitDefEqProofs [hk]
theorem ends_t (hn : 1 ≤ n) {b : Bd} {k : Nat} : l.orc n (.fn "_law_ends") [bD b, .int (k : Nat)] = some (.bl (endB b k), []) := by
  apply Ok.eq
  refine op_law_ends A.ends (by omega) ?_
  have i1 : didx (bD b) (.int 1) = some (sT b.2.1) := rfl
  have i2 : didx (bD b) (.int 2) = some (.int (b.2.2.1 : Nat)) := rfl
  have i3 : didx (bD b) (.int 3) = some (.str b.2.2.2.1) := rfl
  have dl : dlen (sT b.2.1) = some b.2.1.length := by simp [sT]
  simp -implicitDefEqProofs [k_law_ends, i1, i2, i3, dl]
  unfold endB
  by_cases h1 : b.2.2.1 ≤ k <;> by_cases h2 : b.2.2.2.1 = "" <;> simp -implicitDefEqProofs [h1, h2]
theorem rank_t (hn : 3 ≤ n) {P : Pt} (h : POk P) {a b : Str} (ha : a ∈ P.kinds) : l.orc n (.fn "_law_rank") [ptD P, .str a, .str b] = some (rkD (P.rk a b), []) := by
  apply Ok.eq
  refine op_law_rank A.rank (by omega) ?_
  have e := above_t A.above (n := n - 1) (by omega) h (a := a)
  have i2 : didx (ptD P) (.int 2) = some (pT P.cvs) := rfl
  have hpT : ditems (pT P.cvs) = some (P.cvs.map pD) := rfl
  simp -implicitDefEqProofs [k_law_rank, e]
  unfold Pt.rk
  have m := mem_ab h (b := b) ha
  cases hb : P.bel a b with
  | true =>
    rw [hb] at m
    have m := of_decide_eq_true m
    simp -implicitDefEqProofs [m, rkD]
  | false =>
    rw [hb] at m
    have m := of_decide_eq_false m
    simp -implicitDefEqProofs [m, i2, hpT]
    refine ok_gp P.cvs pD (fun p => if (P.bel a p.1 && P.bel p.2 b) = true then [pD p] else []) rfl (fun p hp => ?_) ?_
    · have m1 := mem_ab h (b := p.1) ha
      have lb := lbelow_t A (n := n - 1) (by omega) h (a := p.2) (b := b) (h.cs p hp).2.1
      have j0 : didx (pD p) (.int 0) = some (.str p.1) := rfl
      have j1 : didx (pD p) (.int 1) = some (.str p.2) := rfl
      simp -implicitDefEqProofs [j0, j1, lb]
      cases hb1 : P.bel a p.1 with
      | true =>
        rw [hb1] at m1
        have m1 := of_decide_eq_true m1
        cases hb2 : P.bel p.2 b <;> simp -implicitDefEqProofs [m1]
      | false =>
        rw [hb1] at m1
        have m1 := of_decide_eq_false m1
        simp -implicitDefEqProofs [m1]
    · rw [flat_if]
      have fl : (P.cvs.filter fun p => P.bel a p.1 && P.bel p.2 b).length ≤ P.cvs.length := List.length_filter_le _ _
      have c6 := h.c6
      have en := ne_nil (xs := (P.cvs.filter fun p => P.bel a p.1 && P.bel p.2 b).map pD) fun x hx => by
        obtain ⟨p, _, rfl⟩ := List.mem_map.mp hx; exact pl_pD
      have ei : ((P.cvs.filter fun p => P.bel a p.1 && P.bel p.2 b).map pD).isEmpty = !(P.cvs.any fun c => P.bel a c.1 && P.bel c.2 b) := by
        rw [List.isEmpty_map]
        induction P.cvs with
        | nil => rfl
        | cons x xs ih =>
          rw [List.filter_cons, List.any_cons]
          cases P.bel a x.1 && P.bel x.2 b with
          | true => rfl
          | false => exact ih
      rw [ei, Bool.not_not] at en
      generalize hq : (P.cvs.filter fun p => P.bel a p.1 && P.bel p.2 b).map pD = q at *
      have ql : q.length ≤ 6 := by rw [← hq, List.length_map]; omega
      cases ht : P.cvs.any fun c => P.bel a c.1 && P.bel c.2 b with
      | true =>
        rw [ht] at en
        simp -implicitDefEqProofs [en, rkD]
        exact len_ok (by omega)
      | false =>
        rw [ht] at en
        simp -implicitDefEqProofs [en, rkD]
        exact len_ok (by omega)
theorem takes_t (hn : 4 ≤ n) {P : Pt} (h : POk P) {b : Bd} {c : List Str} (hc : ∀ x ∈ c, x ∈ P.kinds) (hl : c.length ≤ 100) : l.orc n (.fn "_law_takes") [ptD P, bD b, sT c] = some (.bl (P.takes b c), []) := by
  apply Ok.eq
  refine op_law_takes A.takes (by omega) ?_
  have dl : dlen (sT c) = some c.length := by simp [sT]
  have e1 := ends_t A (n := n - 1) (by omega) (b := b) (k := c.length)
  simp -implicitDefEqProofs [k_law_takes, dl, e1]
  unfold Pt.takes
  cases he : endB b c.length with
  | false => simp -implicitDefEqProofs
  | true =>
    generalize hg : ((List.range c.length).all fun k => (P.rk (c.getD k "") (metB b k)).isSome) = t
    simp -implicitDefEqProofs [rng_n (m := c.length) (by omega)]
    refine ok_gp (List.range c.length) (fun k => .int (k : Nat)) (fun k => if (!(P.rk (c.getD k "") (metB b k)).isSome) = true then [.int (k : Nat)] else []) rfl (fun k hk => ?_) ?_
    · have hk := List.mem_range.mp hk
      have e2 : didx (sT c) (.int (k : Nat)) = some (.str (c.getD k "")) := atS hk
      have e3 := met_t A (n := n - 1) (by omega) (b := b) (k := k)
      have ck : c.getD k "" ∈ P.kinds := hc _ (by rw [List.getD_eq_getElem?_getD, List.getElem?_eq_getElem hk]; exact List.getElem_mem _)
      have e4 := rank_t A (n := n - 1) (by omega) h (a := c.getD k "") (b := metB b k) ck
      generalize c.getD k "" = x at *
      simp -implicitDefEqProofs [e2, e3, e4]
      cases P.rk x (metB b k) <;> simp -implicitDefEqProofs [rkD]
    · rw [flat_if]
      have fl : ((List.range c.length).filter fun k => !(P.rk (c.getD k "") (metB b k)).isSome).length ≤ (List.range c.length).length := List.length_filter_le _ _
      rw [List.length_range] at fl
      have en := eq_nil (xs := ((List.range c.length).filter fun k => !(P.rk (c.getD k "") (metB b k)).isSome).map fun k => .int (k : Nat)) fun x hx => by
        obtain ⟨p, _, rfl⟩ := List.mem_map.mp hx; exact pl_int
      have ei : (((List.range c.length).filter fun k => !(P.rk (c.getD k "") (metB b k)).isSome).map fun k : Nat => D.int (k : Nat)).isEmpty = (List.range c.length).all fun k => (P.rk (c.getD k "") (metB b k)).isSome := by
        rw [List.isEmpty_map]
        induction List.range c.length with
        | nil => rfl
        | cons x xs ih =>
          rw [List.filter_cons, List.all_cons]
          cases (P.rk (c.getD x "") (metB b x)).isSome with
          | true => exact ih
          | false => rfl
      rw [ei, hg] at en
      generalize hq : ((List.range c.length).filter fun k => !(P.rk (c.getD k "") (metB b k)).isSome).map (fun k : Nat => D.int (k : Nat)) = q at *
      have ql : q.length ≤ 100 := by rw [← hq, List.length_map]; omega
      simp -implicitDefEqProofs [en]
      exact len_ok (by omega)
end
end Rf
end

section
set_option Elab.async false
set_option linter.all false
set_option maxRecDepth 100000
set_option maxHeartbeats 1000000
/-! Drawn calls; values alike. -/
namespace Rf
open PySem L2
theorem pl_bD {b : Bd} : plD (bD b) = true := by
  obtain ⟨ys, e, _⟩ := oall_pl (f := pyN 37) (xs := b.2.1.map D.str) fun x hx => by
    obtain ⟨s, _, rfl⟩ := List.mem_map.mp hx; rfl
  have e2 : pyN 38 (sT b.2.1) = some (.tuple ys) := by
    show (oall ((b.2.1.map D.str).map (pyN 37))).map PyData.tuple = _
    rw [e]; rfl
  have e3 : pyN 39 (bD b) = some (.tuple [.str b.1, .tuple ys, .int (b.2.2.1 : Nat), .str b.2.2.2.1, .str b.2.2.2.2]) := by
    show (oall [some (PyData.str b.1), pyN 38 (sT b.2.1), some (PyData.int (b.2.2.1 : Nat)), some (PyData.str b.2.2.2.1), some (PyData.str b.2.2.2.2)]).map PyData.tuple = _
    rw [e2]; rfl
  unfold plD
  rw [e3]; rfl
/-- rows of kinds -/
structure CallOk (P : Pt) (m : Nat) (c : List Str) : Prop where
  mem : ∀ x ∈ c, x ∈ P.kinds
  len : c.length ≤ m
/-- behind how many arguments -/
def k_co : ISs := (.cons (.set 5 (.tup .nil)) (.cons (.forr (.one 6) (.rng1 (.var 4)) (.cons (.set 5 (.bin .add (.var 5) (.tup (.cons (.call "_law_pick" (.io 0 (.fz (.lc (.var 7) (.cons (.one 7) (.val (.idx (.var 1) (.cst (.int 0)))) (.cons (.call "_law_below" (.fz (.var 1) (.fz (.var 7) (.fz (.call "_law_met" (.fz (.var 2) (.fz (.var 6) .nil))) .nil)))) .nil) .nil)) .nil))) .nil)))) .nil)) (.cons (.ret (.ife (.cmp .le (.var 4) (.var 3)) (.var 5) (.cst .non))) .nil)))
def COI (P : Pt) (b : Bd) (most many c : Nat) (ρ : Env) (ω : Om) : Prop := ∃ cs k kd row, ρ = [none, some (ptD P), some (bD b), some (.int (most : Nat)), some (.int (many : Nat)), some (sT cs), k, kd] ∧ ω = [some row] ∧ RowOk row ∧ cs.length = c ∧ ∀ x ∈ cs, x ∈ P.kinds
theorem endB_must {ks : List Str} {b : Bd} (h : BdOk ks b) : endB b b.2.2.1 = true := by
  unfold endB
  rw [decide_eq_true (Nat.le_refl _), decide_eq_true h.mu]
  simp
theorem met_in {ks : List Str} {b : Bd} (h : BdOk ks b) {m k : Nat} (he : endB b m = true) (hk : k < m) : metB b k ∈ ks := by
  unfold metB
  split
  · rename_i q
    refine h.ps _ ?_
    rw [List.getD_eq_getElem?_getD, List.getElem?_eq_getElem q]
    exact List.getElem_mem _
  · rename_i q
    unfold endB at he
    simp at he
    rcases he.2 with a | a
    · rcases h.re with e | e
      · exact absurd e a
      · exact e
    · omega
theorem met_or {ks : List Str} {b : Bd} (h : BdOk ks b) {k : Nat} : metB b k = "" ∨ metB b k ∈ ks := by
  unfold metB
  split
  · rename_i q
    refine .inr (h.ps _ ?_)
    rw [List.getD_eq_getElem?_getD, List.getElem?_eq_getElem q]
    exact List.getElem_mem _
  · exact h.re
/-- the defs that draw calls -/
structure Lc (l : Lw) : Prop extends Dr l, La l where
  call_of : Has l c_law_call_of
  call : Has l c_law_call
  some_call : Has l c_law_some_call
section
variable {l : Lw} {n : Nat}
theorem low_t (A : La l) (B : Dr l) (hL : Has l c_law_low) (hn : 4 ≤ n) {P : Pt} (h : POk P) {a : Str} (ha : a ∈ P.kinds) {row : D} (hr : RowOk row) {K : D × List D → Prop} (k : ∀ x ∈ P.kinds, P.bel x a = true → ∀ row', RowOk row' → K (.str x, [row'])) : Ok (l.orc n (.fn "_law_low") [row, ptD P, .str a]) K := by
  refine op_law_low hL (by omega) ?_
  have k6 := h.k6
  have i0 : didx (ptD P) (.int 0) = some (sT P.kinds) := rfl
  have hsT : ditems (sT P.kinds) = some (P.kinds.map .str) := rfl
  simp -implicitDefEqProofs [k_law_low, i0, hsT]
  refine ok_gp P.kinds .str (fun x => if P.bel x a = true then [.str x] else []) rfl (fun x hx => ?_) ?_
  · have lb := lbelow_t A (n := n - 1) (by omega) h (a := x) (b := a) hx
    simp -implicitDefEqProofs [lb]
  · rw [flat_if]
    have fl : (P.kinds.filter fun x => P.bel x a).length ≤ P.kinds.length := List.length_filter_le _ _
    simp -implicitDefEqProofs
    refine ⟨len_ok (by omega), pick_t B (n := n - 1) (xs := P.kinds.filter fun x => P.bel x a) (enc := .str) (.inl rfl) (by omega) (by omega) ?_ hr fun x hx row' hr' => ?_⟩
    · intro e
      have : a ∈ P.kinds.filter fun x => P.bel x a := List.mem_filter.mpr ⟨ha, bel_refl h.up ha⟩
      rw [e] at this; cases this
    · have hx := List.mem_filter.mp hx
      simp -implicitDefEqProofs
      exact k x hx.1 hx.2 row' hr'
variable (A : Lc l)
include A
theorem call_t (hn : 4 ≤ n) {P : Pt} (h : POk P) {m : Nat} (m12 : m ≤ 100) {row : D} (hr : RowOk row) {K : D × List D → Prop} (k : ∀ c row', CallOk P m c → RowOk row' → K (sT c, [row'])) : Ok (l.orc n (.fn "_law_call") [row, ptD P, .int (m : Nat)]) K := by
  refine op_law_call A.call (by omega) ?_
  have k6 := h.k6
  have k1 := h.k1
  have kne : P.kinds ≠ [] := fun e => by rw [e] at k1; simp at k1
  have i0 : didx (ptD P) (.int 0) = some (sT P.kinds) := rfl
  simp -implicitDefEqProofs [k_law_call, i0]
  refine taken_t A.toDr (n := n - 1) (by omega) hr (by omega) (by omega) fun c row1 hc hr1 => ?_
  simp -implicitDefEqProofs [rng_n (m := c) (by omega)]
  refine gl_t (zs := List.range c) (e0 := fun k : Nat => D.int (k : Nat)) (enc := .str) (Q := fun _ a => a ∈ P.kinds) hr1 (fun z hz row hr K kk => ?_) _ fun ps row2 hps hr2 => ?_
  · simp -implicitDefEqProofs [i0]
    refine pick_t A.toDr (n := n - 1) (xs := P.kinds) (enc := .str) (.inr rfl) (by omega) (by omega) kne hr fun x hx row' hr' => ?_
    simp -implicitDefEqProofs
    exact kk x row' hx hr'
  · have pl := hps.len
    rw [List.length_range] at pl
    simp -implicitDefEqProofs
    exact ⟨len_ok (by omega), k ps row2 ⟨fun x hx => by obtain ⟨_, _, q⟩ := hps.mem x hx; exact q, by omega⟩ hr2⟩
theorem call_of_t (hn : 4 ≤ n) {P : Pt} (h : POk P) {b : Bd} (hb : b ∈ P.bods) {m : Nat} (m12 : m ≤ 100) {row : D} (hr : RowOk row) {K : D × List D → Prop} (k : ∀ c row', CallOk P m c → RowOk row' → K (sT c, [row'])) (kn : ∀ row', RowOk row' → K (.non, [row'])) : Ok (l.orc n (.fn "_law_call_of") [row, ptD P, bD b, .int (m : Nat)]) K := by
  refine op_law_call_of A.call_of (by omega) ?_
  have bk := h.bs b hb
  have k6 := h.k6
  have b4 := bk.l4
  have bm := bk.mu
  have i0 : didx (ptD P) (.int 0) = some (sT P.kinds) := rfl
  have hsT : ditems (sT P.kinds) = some (P.kinds.map .str) := rfl
  have i2 : didx (bD b) (.int 2) = some (.int (b.2.2.1 : Nat)) := rfl
  have ek : k_law_call_of = .cons (.set 4 (.bin .add (.idx (.var 2) (.cst (.int 2))) (.call "_law_taken" (.io 0 (.fz (.cst (.int 3)) .nil))))) (.cons (.set 4 (.ife (.call "_law_ends" (.fz (.var 2) (.fz (.var 4) .nil))) (.var 4) (.idx (.var 2) (.cst (.int 2))))) k_co) := rfl
  simp -implicitDefEqProofs [ek, i2]
  refine taken_t A.toDr (n := n - 1) (by omega) hr (by omega) (by omega) fun t row1 ht hr1 => ?_
  simp -implicitDefEqProofs
  rw [show (b.2.2.1 : Int) + (t : Int) = ((b.2.2.1 + t : Nat) : Int) by omega]
  have e1 := ends_t A.toLa (n := n - 1) (by omega) (b := b) (k := b.2.2.1 + t)
  obtain ⟨q, hq⟩ : ∃ q, q = b.2.2.1 + t := ⟨_, rfl⟩
  rw [← hq] at e1 ⊢
  obtain ⟨mm, hm, hm2, hm3, hm4⟩ : ∃ mm, mm ≤ 10 ∧ endB b mm = true ∧ (endB b q = true → q = mm) ∧ (endB b q = false → b.2.2.1 = mm) := by
    cases he : endB b q with
    | true => exact ⟨q, by omega, he, fun _ => rfl, fun x => by cases x⟩
    | false => exact ⟨b.2.2.1, by omega, endB_must bk, (fun x => by cases x), fun _ => rfl⟩
  have body : OkSs (l.orc (n - 1)) l.W k_co [none, some (ptD P), some (bD b), some (.int (m : Nat)), some (.int (mm : Nat)), none, none, none] [some row1] (fun _ ω => Ok (omAt ω 0) fun d => K (.non, [d])) (fun d ω => Ok (omAt ω 0) fun e => K (d, [e])) := by
    simp -implicitDefEqProofs [k_co, rng_n (m := mm) (by omega)]
    refine floop_range (M := mm) (e := fun k => D.int (k : Nat)) (COI P b m mm) ⟨[], none, none, row1, rfl, rfl, hr1, rfl, fun x hx => by cases hx⟩ ?_ ?_
    · intro c hc ρ ω hI
      unfold COI at hI
      obtain ⟨cs, k0, kd, row2, h1, h2, hr2, cl, cm⟩ := hI
      subst h1
      subst h2
      have mt := met_in bk hm2 hc
      have e3 := met_t A.toLa (n := n - 1) (by omega) (b := b) (k := c)
      simp -implicitDefEqProofs [i0, hsT]
      refine ok_gp P.kinds .str (fun x => if P.bel x (metB b c) = true then [.str x] else []) rfl (fun x hx => ?_) ?_
      · have lb := lbelow_t A.toLa (n := n - 1) (by omega) h (a := x) (b := metB b c) hx
        simp -implicitDefEqProofs [e3, lb]
      · rw [flat_if]
        have fl : (P.kinds.filter fun x => P.bel x (metB b c)).length ≤ P.kinds.length := List.length_filter_le _ _
        simp -implicitDefEqProofs
        refine ⟨len_ok (by omega), pick_t A.toDr (n := n - 1) (xs := P.kinds.filter fun x => P.bel x (metB b c)) (enc := .str) (.inl rfl) (by omega) (by omega) ?_ hr2 fun x hx row' hr' => ?_⟩
        · intro e
          have : metB b c ∈ P.kinds.filter fun x => P.bel x (metB b c) := List.mem_filter.mpr ⟨mt, bel_refl h.up mt⟩
          rw [e] at this; cases this
        · have hx := List.mem_filter.mp hx
          have ea : dbin .add (sT cs) (.tup [.str x]) = some (sT (cs ++ [x])) := by
            show dbin .add (.tup (cs.map .str)) (.tup [.str x]) = _
            rw [add_tup (by simp; omega)]
            simp [sT]
          simp -implicitDefEqProofs [ea]
          refine ⟨len_ok (by omega), cs ++ [x], some (.int (c : Nat)), kd, row', by simp, rfl, hr', by simp [cl], fun y hy => ?_⟩
          rcases List.mem_append.mp hy with z | z
          · exact cm y z
          · rw [List.mem_singleton] at z; subst z; exact hx.1
    · intro ρ ω hI
      unfold COI at hI
      obtain ⟨cs, k0, kd, row2, h1, h2, hr2, cl, cm⟩ := hI
      subst h1
      subst h2
      simp -implicitDefEqProofs
      by_cases hle : mm ≤ m
      · simp -implicitDefEqProofs [hle]
        exact k cs row2 ⟨cm, by omega⟩ hr2
      · simp -implicitDefEqProofs [hle]
        exact kn row2 hr2
  simp -implicitDefEqProofs [e1]
  cases he : endB b q with
  | true =>
    simp -implicitDefEqProofs
    have e := hm3 he
    subst e
    with_reducible exact body
  | false =>
    simp -implicitDefEqProofs [i2]
    have e := hm4 he
    subst e
    with_reducible exact body
theorem some_call_t (hn : 5 ≤ n) {P : Pt} (h : POk P) (b1 : 1 ≤ P.bods.length) {m : Nat} (m12 : m ≤ 100) {row : D} (hr : RowOk row) {K : D × List D → Prop} (k : ∀ c row', CallOk P m c → RowOk row' → K (sT c, [row'])) : Ok (l.orc n (.fn "_law_some_call") [row, ptD P, .int (m : Nat)]) K := by
  refine op_law_some_call A.some_call (by omega) ?_
  have b12 := h.b12
  have i3 : didx (ptD P) (.int 3) = some (bT P.bods) := rfl
  have en : dcmp .ne (bT P.bods) (.tup []) = some true := by
    have e := ne_nilT (xs := P.bods.map bD) fun x hx => by obtain ⟨p, _, rfl⟩ := List.mem_map.mp hx; exact pl_bD
    show dcmp .ne (.tup (P.bods.map bD)) (.tup []) = _
    rw [e, List.isEmpty_map]
    cases hb : P.bods with
    | nil => rw [hb] at b1; simp at b1
    | cons _ _ => rfl
  have is1 : ∀ c : List Str, isN (sT c) = false := fun c => rfl
  have i3 : didx (ptD P) (.int 3) = some (bT P.bods) := rfl
  simp -implicitDefEqProofs [k_law_some_call, i3, en]
  refine taken_t A.toDr (n := n - 1) (by omega) hr (by omega) (by omega) fun t row1 ht hr1 => ?_
  by_cases h0 : 0 < t
  · simp -implicitDefEqProofs [h0, i3]
    refine pick_t A.toDr (n := n - 1) (xs := P.bods) (enc := bD) (.inr rfl) (by omega) (by omega) (fun e => by rw [e] at b1; simp at b1) hr1 fun b hb row2 hr2 => ?_
    simp -implicitDefEqProofs
    refine call_of_t A (n := n - 1) (by omega) h hb (m := m) (by omega) hr2 (fun c row3 hc hr3 => ?_) fun row3 hr3 => ?_
    · simp -implicitDefEqProofs [is1]
      exact k c row3 hc hr3
    · simp -implicitDefEqProofs
      refine call_t A (n := n - 1) (by omega) h (m := m) (by omega) hr3 fun c row4 hc hr4 => ?_
      simp -implicitDefEqProofs
      exact k c row4 hc hr4
  · simp -implicitDefEqProofs [h0]
    refine call_t A (n := n - 1) (by omega) h (m := m) (by omega) hr1 fun c row4 hc hr4 => ?_
    simp -implicitDefEqProofs
    exact k c row4 hc hr4
end
/-- plain values -/
inductive Bas : D → Prop
  | int (i : Int) : Bas (.int i)
  | str (s : Str) : Bas (.str s)
  | non : Bas .non
theorem eq_non : dcmp .eq .non .non = some true := rfl
theorem eq_str_self {s : Str} : dcmp .eq (.str s) (.str s) = some true := by rw [eq_str]; simp
section
variable {l : Lw} {n : Nat} (hA : Has l c_law_alike)
include hA
theorem alike_b (hn : 1 ≤ n) {d : D} (h : Bas d) : l.orc n (.fn "_law_alike") [d, d] = some (.bl true, []) := by
  apply Ok.eq
  refine op_law_alike hA (by omega) ?_
  cases h with
  | int i => simp -implicitDefEqProofs [k_law_alike]
  | str s => simp -implicitDefEqProofs [k_law_alike]
  | non => simp -implicitDefEqProofs [k_law_alike, eq_non]
theorem alike_t (hn : 2 ≤ n) {xs : List D} (h : ∀ x ∈ xs, Bas x) (hl : xs.length ≤ 1000) : l.orc n (.fn "_law_alike") [.tup xs, .tup xs] = some (.bl true, []) := by
  apply Ok.eq
  refine op_law_alike hA (by omega) ?_
  simp -implicitDefEqProofs [k_law_alike, rng_n (m := xs.length) (by omega)]
  refine ok_gp (List.range xs.length) (fun k => .int (k : Nat)) (fun _ => []) rfl (fun k hk => ?_) ?_
  · have hk := List.mem_range.mp hk
    have e : atI xs ((k : Nat) : Int) = some xs[k] := by rw [at_nat, List.getElem?_eq_getElem hk]
    have a := alike_b hA (n := n - 1) (by omega) (h xs[k] (List.getElem_mem hk))
    simp -implicitDefEqProofs [e, a]
  · have e : (List.range xs.length).flatMap (fun _ => ([] : List D)) = [] := by
      induction List.range xs.length with
      | nil => rfl
      | cons _ _ ih => rw [List.flatMap_cons, ih]; rfl
    rw [e]
    have en : dcmp .eq (.lst []) (.lst []) = some true := eq_nil (xs := []) fun x hx => by cases hx
    simp -implicitDefEqProofs [en]
end
end Rf
end

section
set_option Elab.async false
set_option linter.all false
set_option maxRecDepth 100000
set_option maxHeartbeats 1000000
/-! Calls, as the program reckons them. -/
namespace Rf
open PySem L2
/-- defs about calls -/
structure Ca (l : Lw) : Prop where
  kinds : Has l c_World_kinds
  bodies : Has l c_World_bodies
  names : Has l c_World_names
  pattern : Has l c_World_pattern
  rank : Has l c_World_rank
  check_world : Has l c_check_world
  is_call : Has l c_is_call
  check_call : Has l c_check_call
  parameter_at : Has l c_parameter_at
  can_end : Has l c_can_end
  rank_at : Has l c_rank_at
  takes_it : Has l c_takes_it
  takers : Has l c_takers
  taking : Has l c_taking
@[simp] theorem ins_w0 {P : Pt} {K : Prop} : insK P.wD "World" none K = K := by
  unfold Pt.wD selfD
  simp
@[simp] theorem ins_wr {P : Pt} {K : Prop} : insK P.wD "World" (some "rank") K = K := by
  unfold Pt.wD selfD
  simp
@[simp] theorem ins_wn {P : Pt} {K : Prop} : insK P.wD "World" (some "names") K = K := by
  unfold Pt.wD selfD
  simp
@[simp] theorem ins_wp {P : Pt} {K : Prop} : insK P.wD "World" (some "pattern") K = K := by
  unfold Pt.wD selfD
  simp
@[simp] theorem fld_wk {P : Pt} {K : D → Prop} : fldK P.wD "World" "_kinds" K = K (sT P.kinds) := by
  unfold Pt.wD
  simp
@[simp] theorem fld_wb {P : Pt} {K : D → Prop} : fldK P.wD "World" "_bodies" K = K (bT P.bods) := by
  unfold Pt.wD
  simp
@[simp] theorem fld_wr {P : Pt} {K : D → Prop} : fldK P.wD "World" "_ranks" K = K (.dt P.rks) := by
  unfold Pt.wD
  simp
theorem cls_w {P : Pt} : dprim (.isCls "World") [P.wD] = some (.bl true) := by
  unfold Pt.wD selfD
  rw [prm_isCls]; simp
def bd0 : Bd := ("", [], 0, "", "")
def patD (b : Bd) : D := .tup [sT b.2.1, .int (b.2.2.1 : Nat), .str b.2.2.2.1]
theorem nm_emp : nmB "" = false := by decide +kernel
theorem kinds_emp {P : Pt} (h : POk P) : ("" : Str) ∉ P.kinds := fun q => by have := h.nm _ q; rw [nm_emp] at this; cases this
theorem bel_in {P : Pt} (h : POk P) {a b : Str} (ha : a ∈ P.kinds) (k : P.bel a b = true) : b ∈ P.kinds := by
  have r := (bel_iff h.up ha).mp k
  cases r with
  | refl => exact ha
  | step _ m => exact (h.us _ m).2.1
theorem rk_emp {P : Pt} (h : POk P) {a : Str} (ha : a ∈ P.kinds) : P.rk a "" = none := by
  have e : ∀ x, x ∈ P.kinds → P.bel x "" = false := fun x hx => by
    cases q : P.bel x "" with
    | false => rfl
    | true => exact absurd (bel_in h hx q) (kinds_emp h)
  unfold Pt.rk
  rw [e a ha, if_neg (by simp)]
  rw [if_neg]
  rw [List.any_eq_true]
  rintro ⟨p, hp, q⟩
  rw [e p.2 (h.cs p hp).2.1] at q
  simp at q
theorem valD_app {κ : Type} [DecidableEq κ] {l m : List (κ × D)} {k : κ} : valD (l ++ m) k = (valD l k).or (valD m k) := by
  unfold valD
  rw [List.find?_append]
  cases List.find? _ l <;> rfl
theorem val_row {P : Pt} {x a b : Str} : ∀ {ks : List Str}, valD (ks.map fun y => rkE P x y) [.inr a, .inr b] = if x = a ∧ b ∈ ks then some (rkD (P.rk a b)) else none
  | [] => by simp [valD]
  | y :: ks => by
    have ih := val_row (P := P) (x := x) (a := a) (b := b) (ks := ks)
    unfold valD at ih ⊢
    rw [List.map_cons, List.find?_cons]
    by_cases e : x = a ∧ y = b
    · obtain ⟨rfl, rfl⟩ := e
      simp [rkE]
    · have : decide ((rkE P x y).1 = [Sum.inr a, Sum.inr b]) = false := by
        refine decide_eq_false fun q => e ?_
        have q : ([.inr x, .inr y] : List Key) = [.inr a, .inr b] := q
        simp at q
        exact q
      rw [this]
      show (List.find? _ (ks.map fun y => rkE P x y)).map (·.2) = _
      rw [ih]
      by_cases q : x = a
      · have : ¬ b = y := fun r => e ⟨q, r.symm⟩
        simp [q, this]
      · simp [q]
theorem rks_val {P : Pt} {a b : Str} (hb : b ∈ P.kinds) : ∀ {pre : List Str}, a ∈ pre → valD (pre.flatMap fun x => P.kinds.map fun y => rkE P x y) [.inr a, .inr b] = some (rkD (P.rk a b))
  | [], h => by cases h
  | x :: pre, h => by
    rw [List.flatMap_cons, valD_app, val_row]
    by_cases e : x = a
    · rw [if_pos ⟨e, hb⟩]; rfl
    · rw [if_neg fun q => e q.1]
      show valD _ _ = _
      refine rks_val hb ?_
      rcases List.mem_cons.mp h with q | q
      · exact absurd q.symm e
      · exact q
theorem zip_rng {α : Type} {d : α} {g : α → Nat → D} : ∀ {xs : List α} {k : Nat}, ((xs.zipIdx k).map fun p => g p.1 p.2) = (List.range xs.length).map fun i => g (xs.getD i d) (k + i)
  | [], _ => rfl
  | x :: xs, k => by
    rw [List.zipIdx_cons, List.map_cons, zip_rng (xs := xs) (k := k + 1), List.length_cons, List.range_succ_eq_map, List.map_cons, List.map_map]
    congr 1
    refine List.map_congr_left fun i _ => ?_
    show g (xs.getD i d) (k + 1 + i) = g ((x :: xs).getD (i + 1) d) (k + (i + 1))
    rw [show k + 1 + i = k + (i + 1) by omega]; rfl
theorem enum_S {c : List Str} : enumP (c.map .str) = (List.range c.length).map fun k => .tup [.int (k : Nat), .str (c.getD k "")] := by
  unfold enumP
  rw [List.zipIdx_map, List.map_map]
  have e := zip_rng (d := ("" : Str)) (g := fun s i => D.tup [.int (i : Nat), .str s]) (xs := c) (k := 0)
  simp only [Nat.zero_add] at e
  rw [← e]
  rfl
theorem flat_some {α : Type} (f : α → D) (xs : List α) : (xs.flatMap fun x => [f x]) = xs.map f := flat1 f xs
theorem fil_rng {α : Type} {d : α} {q : α → Bool} : ∀ {xs : List α}, ((List.range xs.length).filter fun i => q (xs.getD i d)).map (fun i => xs.getD i d) = xs.filter q
  | [] => rfl
  | x :: xs => by
    rw [List.length_cons, List.range_succ_eq_map, List.filter_cons, List.filter_map, List.filter_cons]
    have ih := fil_rng (d := d) (q := q) (xs := xs)
    have e1 : ((fun i => q ((x :: xs).getD i d)) ∘ Nat.succ) = fun i => q (xs.getD i d) := rfl
    rw [e1]
    have e2 : ∀ l : List Nat, (l.map Nat.succ).map (fun i => (x :: xs).getD i d) = l.map fun i => xs.getD i d := fun l => by rw [List.map_map]; rfl
    have e0 : q ((x :: xs).getD 0 d) = q x := rfl
    rw [e0]
    cases q x with
    | true =>
      rw [if_pos rfl, if_pos rfl, List.map_cons, e2, ih]; rfl
    | false =>
      rw [if_neg (by simp), if_neg (by simp), e2, ih]
section
variable {l : Lw} {n : Nat} (C : Ca l)
include C
theorem wkinds_t (hn : 1 ≤ n) {P : Pt} : l.orc n (.mt "World" "kinds") [P.wD] = some (sT P.kinds, []) := by
  apply Ok.eq
  refine op_World_kinds C.kinds (by omega) ?_
  simp -implicitDefEqProofs [k_World_kinds]
theorem wbodies_t (hn : 1 ≤ n) {P : Pt} : l.orc n (.mt "World" "bodies") [P.wD] = some (bT P.bods, []) := by
  apply Ok.eq
  refine op_World_bodies C.bodies (by omega) ?_
  simp -implicitDefEqProofs [k_World_bodies]
theorem wnames_t (hn : 1 ≤ n) {P : Pt} (h : POk P) : l.orc n (.mt "World" "names") [P.wD] = some (.lst ((P.bods.map (·.1)).map .str), []) := by
  apply Ok.eq
  refine op_World_names C.names (by omega) ?_
  have b12 := h.b12
  have hbT : ditems (bT P.bods) = some (P.bods.map bD) := rfl
  simp -implicitDefEqProofs [k_World_names, hbT]
  refine ok_gp P.bods bD (fun b => [.str b.1]) rfl (fun b hb => by simp -implicitDefEqProofs [bD]) ?_
  rw [flat1]
  simp
  exact len_ok (by omega)
theorem bodAt {P : Pt} {i : Nat} (hi : i < P.bods.length) : didx (bT P.bods) (.int (i : Nat)) = some (bD (P.bods.getD i bd0)) := by
  show atI (P.bods.map bD) _ = _
  rw [at_nat, List.getElem?_map, List.getD_eq_getElem?_getD, List.getElem?_eq_getElem hi]; rfl
theorem wpattern_t (hn : 1 ≤ n) {P : Pt} {i : Nat} (hi : i < P.bods.length) : l.orc n (.mt "World" "pattern") [P.wD, .int (i : Nat)] = some (patD (P.bods.getD i bd0), []) := by
  apply Ok.eq
  refine op_World_pattern C.pattern (by omega) ?_
  have e := bodAt C hi
  generalize P.bods.getD i bd0 = b at *
  have es : dslc (bD b) (some 1) (some 4) = some (patD b) := by
    show some (D.tup (cutD [D.str b.1, sT b.2.1, .int (b.2.2.1 : Nat), .str b.2.2.2.1, .str b.2.2.2.2] (some 1) (some 4))) = _
    rw [show cutD [D.str b.1, sT b.2.1, .int (b.2.2.1 : Nat), .str b.2.2.2.1, .str b.2.2.2.2] (some 1) (some 4) = [sT b.2.1, .int (b.2.2.1 : Nat), .str b.2.2.2.1] by simp [cutD, HT.sIx]]
    rfl
  simp -implicitDefEqProofs [k_World_pattern, e, es]
theorem wrank_t (hn : 1 ≤ n) {P : Pt} {a b : Str} (ha : a ∈ P.kinds) (hb : b ∈ P.kinds) : l.orc n (.mt "World" "rank") [P.wD, .str a, .str b] = some (rkD (P.rk a b), []) := by
  apply Ok.eq
  refine op_World_rank C.rank (by omega) ?_
  have e : didx (.dt P.rks) (.tup [.str a, .str b]) = some (rkD (P.rk a b)) := by
    show valD P.rks [.inr a, .inr b] = _
    exact rks_val hb ha
  simp -implicitDefEqProofs [k_World_rank, e]
  exact len_ok (by omega)
theorem param_t (hn : 1 ≤ n) {b : Bd} {k : Nat} : l.orc n (.fn "parameter_at") [patD b, .int (k : Nat)] = some (.str (metB b k), []) := by
  apply Ok.eq
  refine op_parameter_at C.parameter_at (by omega) ?_
  have dl : dlen (sT b.2.1) = some b.2.1.length := by simp [sT]
  simp -implicitDefEqProofs [k_parameter_at, patD, dl]
  unfold metB
  by_cases hk : k < b.2.1.length
  · have e : didx (sT b.2.1) (.int (k : Nat)) = some (.str (b.2.1.getD k "")) := by
      show atI (b.2.1.map D.str) _ = _
      rw [at_nat, List.getElem?_map, List.getD_eq_getElem?_getD, List.getElem?_eq_getElem hk]; rfl
    simp -implicitDefEqProofs [hk, e]
  · simp -implicitDefEqProofs [hk]
theorem can_t (hn : 1 ≤ n) {b : Bd} {k : Nat} : l.orc n (.fn "can_end") [patD b, .int (k : Nat)] = some (.bl (endB b k), []) := by
  apply Ok.eq
  refine op_can_end C.can_end (by omega) ?_
  have dl : dlen (sT b.2.1) = some b.2.1.length := by simp [sT]
  simp -implicitDefEqProofs [k_can_end, patD, dl]
  unfold endB
  by_cases h1 : b.2.2.1 ≤ k <;> by_cases h2 : b.2.2.2.1 = "" <;> by_cases h3 : k ≤ b.2.1.length <;> simp -implicitDefEqProofs [h1, h2, h3]
theorem rank_at_t (hn : 2 ≤ n) {P : Pt} (h : POk P) {b : Bd} (hb : BdOk P.kinds b) {k : Nat} {a : Str} (ha : a ∈ P.kinds) : l.orc n (.fn "rank_at") [P.wD, patD b, .int (k : Nat), .str a] = some (rkD (P.rk a (metB b k)), []) := by
  apply Ok.eq
  refine op_rank_at C.rank_at (by omega) ?_
  have e1 := param_t C (n := n - 1) (by omega) (b := b) (k := k)
  rcases met_or hb (k := k) with q | q
  · have e2 := rk_emp h ha
    rw [q] at e1 ⊢
    rw [e2]
    simp -implicitDefEqProofs [k_rank_at, e1, rkD]
  · have e2 := wrank_t C (n := n - 1) (by omega) ha q
    have ne : ¬ metB b k = "" := fun e => kinds_emp h (e ▸ q)
    generalize metB b k = x at *
    simp -implicitDefEqProofs [k_rank_at, e1, e2, ne]
theorem takes_it_t (hn : 3 ≤ n) {P : Pt} (h : POk P) {i : Nat} (hi : i < P.bods.length) {c : List Str} (hc : ∀ x ∈ c, x ∈ P.kinds) : l.orc n (.fn "takes_it") [P.wD, .int (i : Nat), sT c] = some (.bl (P.takes (P.bods.getD i bd0) c), []) := by
  apply Ok.eq
  refine op_takes_it C.takes_it (by omega) ?_
  have dl : dlen (sT c) = some c.length := by simp [sT]
  have e1 := wpattern_t C (n := n - 1) (by omega) hi
  have hb : BdOk P.kinds (P.bods.getD i bd0) := h.bs _ (by rw [List.getD_eq_getElem?_getD, List.getElem?_eq_getElem hi]; exact List.getElem_mem _)
  generalize P.bods.getD i bd0 = b at *
  have e2 := can_t C (n := n - 1) (by omega) (b := b) (k := c.length)
  have en : enumD (sT c) = some ((List.range c.length).map fun k => .tup [.int (k : Nat), .str (c.getD k "")]) := by
    show some (enumP (c.map .str)) = _
    rw [enum_S]
  unfold Pt.takes
  generalize hg : ((List.range c.length).all fun k => (P.rk (c.getD k "") (metB b k)).isSome) = t
  simp -implicitDefEqProofs [k_takes_it, e1, dl, e2]
  cases he : endB b c.length with
  | false => simp -implicitDefEqProofs
  | true =>
    simp -implicitDefEqProofs only [if_true, Bool.not_true, Bool.false_eq_true, if_false, Bool.true_and]
    simp -implicitDefEqProofs
    rw [en]
    simp -implicitDefEqProofs only [Ok_some]
    refine ok_qp (List.range c.length) (fun k => .tup [.int (k : Nat), .str (c.getD k "")]) (fun k => !(P.rk (c.getD k "") (metB b k)).isSome) rfl (fun k hk => ?_) ?_
    · have hk := List.mem_range.mp hk
      have ck : c.getD k "" ∈ P.kinds := hc _ (by rw [List.getD_eq_getElem?_getD, List.getElem?_eq_getElem hk]; exact List.getElem_mem _)
      have e4 := rank_at_t C (n := n - 1) (by omega) h hb (k := k) ck
      generalize c.getD k "" = x at *
      simp -implicitDefEqProofs [e4]
      cases P.rk x (metB b k) <;> rfl
    · have e5 : ((List.range c.length).any fun k => !(P.rk (c.getD k "") (metB b k)).isSome) = !t := by
        rw [← hg]
        induction List.range c.length with
        | nil => rfl
        | cons x xs ih => rw [List.any_cons, List.all_cons, ih, Bool.not_and]
      rw [e5]
end
end Rf
end

section
set_option Elab.async false
set_option linter.all false
set_option maxRecDepth 100000
set_option maxHeartbeats 1000000
/-! Who takes a call, as the program tells it. -/
namespace Rf
open PySem L2
/-- defs about ranks -/
structure Cr (l : Lw) : Prop where
  check_name : Has l c_check_name
  ranks : Has l c_ranks
  fits : Has l c_fits
section
variable {l : Lw} {n : Nat} (C : Ca l) (B : Bs l)
include C
theorem takers_t (hn : 4 ≤ n) {P : Pt} (h : POk P) {c : List Str} (hc : ∀ x ∈ c, x ∈ P.kinds) : l.orc n (.fn "takers") [P.wD, sT c] = some (.lst (((List.range P.bods.length).filter fun i => P.takes (P.bods.getD i bd0) c).map fun i => .int (i : Nat)), []) := by
  apply Ok.eq
  refine op_takers C.takers (by omega) ?_
  have b12 := h.b12
  have e1 := wbodies_t C (n := n - 1) (by omega) (P := P)
  have dl : dlen (bT P.bods) = some P.bods.length := by simp [bT]
  generalize hq : ((List.range P.bods.length).filter fun i => P.takes (P.bods.getD i bd0) c).map (fun i => D.int (i : Nat)) = qs
  have fl : ((List.range P.bods.length).filter fun i => P.takes (P.bods.getD i bd0) c).length ≤ (List.range P.bods.length).length := List.length_filter_le _ _
  rw [List.length_range] at fl
  have ql : qs.length ≤ 12 := by rw [← hq, List.length_map]; omega
  simp -implicitDefEqProofs [k_takers, e1, dl, rng_n (m := P.bods.length) (by omega)]
  refine ok_gp (List.range P.bods.length) (fun k => .int (k : Nat)) (fun i => if P.takes (P.bods.getD i bd0) c = true then [.int (i : Nat)] else []) rfl (fun i hi => ?_) ?_
  · have hi := List.mem_range.mp hi
    have e2 := takes_it_t C (n := n - 1) (by omega) h hi hc
    generalize P.takes (P.bods.getD i bd0) c = t at *
    simp -implicitDefEqProofs [e2]
  · rw [flat_if, hq]
    simp -implicitDefEqProofs
    exact len_ok (by omega)
include B
theorem world_ok_t (hn : 2 ≤ n) {P : Pt} : l.orc n (.fn "check_world") [P.wD] = some (.non, []) := by
  apply Ok.eq
  refine op_check_world C.check_world (by omega) ?_
  have c1 := fun x => check_t B (n := n - 1) (by omega) (x := x)
  simp -implicitDefEqProofs [k_check_world, cls_w, c1]
theorem is_call_t (hn : 2 ≤ n) {P : Pt} {m : Nat} (hm : m ≤ 12) {c : List Str} (hc : CallOk P m c) : l.orc n (.fn "is_call") [P.wD, sT c] = some (.bl true, []) := by
  apply Ok.eq
  refine op_is_call C.is_call (by omega) ?_
  have e1 := wkinds_t C (n := n - 1) (by omega) (P := P)
  have e2 := names_t B (n := n - 1) (by omega) hc.mem
  have dl : dlen (sT c) = some c.length := by simp [sT]
  have hl := hc.len
  have hl : (c.length : Int) ≤ 12 := by omega
  simp -implicitDefEqProofs [k_is_call, e1, e2, dl, hl]
theorem check_call_t (hn : 3 ≤ n) {P : Pt} {m : Nat} (hm : m ≤ 12) {c : List Str} (hc : CallOk P m c) : l.orc n (.fn "check_call") [P.wD, sT c] = some (.non, []) := by
  apply Ok.eq
  refine op_check_call C.check_call (by omega) ?_
  have c1 := fun x => check_t B (n := n - 1) (by omega) (x := x)
  have e1 := world_ok_t C B (n := n - 1) (by omega) (P := P)
  have e2 := is_call_t C B (n := n - 1) (by omega) hm hc
  simp -implicitDefEqProofs [k_check_call, c1, e1, e2]
theorem taking_t (hn : 5 ≤ n) {P : Pt} (h : POk P) {m : Nat} (hm : m ≤ 12) {c : List Str} (hc : CallOk P m c) : l.orc n (.fn "taking") [P.wD, sT c] = some (sT ((P.bods.filter fun b => P.takes b c).map (·.1)), []) := by
  apply Ok.eq
  refine op_taking C.taking (by omega) ?_
  have b12 := h.b12
  have e1 := check_call_t C B (n := n - 1) (by omega) hm hc
  have e2 := takers_t C (n := n - 1) (by omega) h hc.mem
  have e3 := wnames_t C (n := n - 1) (by omega) h
  simp -implicitDefEqProofs [k_taking, e1, e2]
  have fl : ((List.range P.bods.length).filter fun i => P.takes (P.bods.getD i bd0) c).length ≤ (List.range P.bods.length).length := List.length_filter_le _ _
  rw [List.length_range] at fl
  refine ok_gp ((List.range P.bods.length).filter fun i => P.takes (P.bods.getD i bd0) c) (fun k => .int (k : Nat)) (fun i => [.str (P.bods.getD i bd0).1]) (by simp) (fun i hi => ?_) ?_
  · have hi := List.mem_range.mp (List.mem_filter.mp hi).1
    have e4 : atI ((P.bods.map (·.1)).map D.str) ((i : Nat) : Int) = some (.str (P.bods.getD i bd0).1) := by
      rw [at_nat, List.getElem?_map, List.getElem?_map, List.getD_eq_getElem?_getD, List.getElem?_eq_getElem hi]; rfl
    generalize (P.bods.map (·.1)).map D.str = ns at *
    generalize (P.bods.getD i bd0).1 = x at *
    simp -implicitDefEqProofs [e3, e4]
  · rw [flat1]
    have e5 := fil_rng (d := bd0) (q := fun b => P.takes b c) (xs := P.bods)
    have e6 : ((List.range P.bods.length).filter fun i => P.takes (P.bods.getD i bd0) c).map (fun i => D.str (P.bods.getD i bd0).1) = (P.bods.filter fun b => P.takes b c).map fun b => .str b.1 := by
      rw [← e5, List.map_map]; rfl
    rw [e6]
    have fl2 : (P.bods.filter fun b => P.takes b c).length ≤ P.bods.length := List.length_filter_le _ _
    generalize (P.bods.filter fun b => P.takes b c) = fs at *
    simp -implicitDefEqProofs [sT]
    exact len_ok (n := fs.length) (by omega)
variable (E : Cr l)
include E
theorem fits_t (hn : 3 ≤ n) {P : Pt} {a b : Str} (ha : a ∈ P.kinds) (hb : b ∈ P.kinds) : l.orc n (.fn "fits") [P.wD, .str a, .str b] = some (rkD (P.rk a b), []) := by
  apply Ok.eq
  refine op_fits E.fits (by omega) ?_
  have c1 := fun x => check_t B (n := n - 1) (by omega) (x := x)
  have e1 := world_ok_t C B (n := n - 1) (by omega) (P := P)
  have e2 := wkinds_t C (n := n - 1) (by omega) (P := P)
  have e3 := wrank_t C (n := n - 1) (by omega) ha hb
  have i1 : dcmp .in_ (.str a) (sT P.kinds) = some true := by
    show dcmp .in_ (.str a) (.tup (P.kinds.map .str)) = _
    rw [in_strs, decide_eq_true ha]
  have i2 : dcmp .in_ (.str b) (sT P.kinds) = some true := by
    show dcmp .in_ (.str b) (.tup (P.kinds.map .str)) = _
    rw [in_strs, decide_eq_true hb]
  simp -implicitDefEqProofs [k_fits, c1, e1, e2, e3, i1, i2]
theorem name_at {P : Pt} (hn : (P.bods.map (·.1)).Nodup) {b : Bd} (hb : b ∈ P.bods) : ∃ i, i < P.bods.length ∧ P.bods.getD i bd0 = b ∧ idxD ((P.bods.map (·.1)).map .str) (.str b.1) = some (.int (i : Nat)) := by
  have hs : b.1 ∈ P.bods.map (·.1) := List.mem_map.mpr ⟨b, hb, rfl⟩
  obtain ⟨j, hj, ej⟩ := List.getElem_of_mem hb
  have fi : (P.bods.map (·.1)).findIdx? (fun z => decide (z = b.1)) = some j := by
    rw [List.findIdx?_eq_some_iff_getElem]
    refine ⟨by rw [List.length_map]; exact hj, by simp [ej], fun k hk => ?_⟩
    have kl : k < P.bods.length := by omega
    simp
    intro e
    have := (List.getElem_inj (xs := P.bods.map (·.1)) (h₀ := by simpa using kl) (h₁ := by simpa using hj) hn).mp (by simp [e, ej])
    omega
  refine ⟨j, hj, by rw [List.getD_eq_getElem?_getD, List.getElem?_eq_getElem hj]; exact ej, ?_⟩
  unfold idxD
  rw [strsOf_map]
  show ((P.bods.map (·.1)).findIdx? _).map _ = _
  rw [fi]; rfl
theorem ranks_t (hn : 4 ≤ n) {P : Pt} (h : POk P) (nd : (P.bods.map (·.1)).Nodup) {m : Nat} (hm : m ≤ 12) {c : List Str} (hc : CallOk P m c) {b : Bd} (hb : b ∈ P.bods) : l.orc n (.fn "ranks") [P.wD, .str b.1, sT c] = some (.tup ((List.range c.length).map fun k => rkD (P.rk (c.getD k "") (metB b k))), []) := by
  apply Ok.eq
  refine op_ranks E.ranks (by omega) ?_
  have c1 := fun x => check_t B (n := n - 1) (by omega) (x := x)
  have c2 := fun x => check_t B (n := n - 2) (by omega) (x := x)
  have e3 := wnames_t C (n := n - 1) (by omega) h
  have e3' := wnames_t C (n := n - 2) (by omega) h
  have e4 := is_call_t C B (n := n - 1) (by omega) hm hc
  obtain ⟨i, hi, hib, hix⟩ := name_at C B E nd hb
  have e5 := wpattern_t C (n := n - 1) (by omega) hi
  rw [hib] at e5
  have e1 : l.orc (n - 1) (.fn "check_name") [P.wD, .str b.1] = some (.non, []) := by
    apply Ok.eq
    refine op_check_name E.check_name (by omega) ?_
    have w := world_ok_t C B (n := n - 2) (by omega) (P := P)
    have i1 : dcmp .in_ (.str b.1) (.lst ((P.bods.map (·.1)).map .str)) = some true := by
      rw [in_strL, decide_eq_true (List.mem_map.mpr ⟨b, hb, rfl⟩)]
    generalize (P.bods.map (·.1)).map D.str = ns at *
    simp -implicitDefEqProofs [k_check_name, show n - 1 - 1 = n - 2 by omega, w, c2, e3', i1]
  have en : enumD (sT c) = some ((List.range c.length).map fun k => .tup [.int (k : Nat), .str (c.getD k "")]) := by
    show some (enumP (c.map .str)) = _
    rw [enum_S]
  have hl := hc.len
  generalize hrk : ((List.range c.length).map fun k => rkD (P.rk (c.getD k "") (metB b k))) = rs
  have rl : rs.length ≤ 12 := by rw [← hrk, List.length_map, List.length_range]; omega
  have pi : dprim .index [.lst ((P.bods.map (·.1)).map .str), .str b.1] = some (.int (i : Nat)) := by rw [prm_index]; exact hix
  generalize (P.bods.map (·.1)).map D.str = ns at *
  simp -implicitDefEqProofs [k_ranks, e1, c1, e3, e4, pi, e5, -prm_index]
  rw [en]
  simp -implicitDefEqProofs only [Ok_some]
  refine ok_gp (List.range c.length) (fun k => .tup [.int (k : Nat), .str (c.getD k "")]) (fun k => [rkD (P.rk (c.getD k "") (metB b k))]) rfl (fun k hk => ?_) ?_
  · have hk := List.mem_range.mp hk
    have ck : c.getD k "" ∈ P.kinds := hc.mem _ (by rw [List.getD_eq_getElem?_getD, List.getElem?_eq_getElem hk]; exact List.getElem_mem _)
    have e6 := rank_at_t C (n := n - 1) (by omega) h (h.bs b hb) (k := k) ck
    generalize c.getD k "" = x at *
    simp -implicitDefEqProofs [e6]
  · rw [flat1, hrk]
    simp -implicitDefEqProofs
    exact len_ok (by omega)
end
end Rf
end

section
set_option Elab.async false
set_option linter.all false
set_option maxRecDepth 100000
set_option maxHeartbeats 0
namespace Rf.Lk02
open PySem PySem.Spec PyProof.Rows L2
def top (i : Nat) : Stmt := PySem.Challenge.pw_onebests_k02_lower_arguments.main.body.getD i (.Pass ⟨0, 0, 0, 0⟩)
def c_law : Cd := ⟨.fn "law", ["script", "row", "parts", "world", "turn", "call", "low", "takers_v", "k", "body", "other", "found", "due", "high", "kind", "own", "name"], ["script"], [none], [(1, .l .z)], false,
  (.cons (.oset 0 1 (.lst (.cons (.var 0) (.cons (.cst (.int 0)) (.cons (.cst (.int 26454102)) (.cons (.cst (.int 0)) .nil)))))) (.cons (.set 2 (.call "_law_world" (.io 0 .nil))) (.cons (.set 3 (.call "_law_world_of" (.fz (.var 2) .nil))) (.cons (.forr (.one 4) (.rng1 (.cst (.int 6))) (.cons (.set 5 (.call "_law_some_call" (.io 0 (.fz (.var 2) (.fz (.cst (.int 6)) .nil))))) (.cons (.set 6 (.prm .tuple (.cons (.lc (.call "_law_low" (.io 0 (.fz (.var 2) (.fz (.var 14) .nil)))) (.cons (.one 14) (.val (.var 5)) .nil .nil)) .nil))) (.cons (.set 7 (.prm .tuple (.cons (.lc (.idx (.var 9) (.cst (.int 0))) (.cons (.one 9) (.val (.idx (.var 2) (.cst (.int 3)))) (.cons (.call "_law_takes" (.fz (.var 2) (.fz (.var 9) (.fz (.var 6) .nil)))) .nil) .nil)) .nil))) (.cons (.iff (.or (.not (.call "_law_alike" (.fz (.call "taking" (.fz (.var 3) (.fz (.var 6) .nil))) (.fz (.var 7) .nil)))) (.cmp .ne (.lc (.var 16) (.cons (.one 16) (.val (.call "taking" (.fz (.var 3) (.fz (.var 5) .nil)))) (.cons (.cmp .nin (.var 16) (.var 7)) .nil) .nil)) (.lst .nil))) (.cons (.ret (.cst (.bl false))) .nil) .nil) (.cons (.forr (.one 8) (.rng1 (.prm .len (.cons (.var 5) .nil))) (.cons (.forr (.one 10) (.val (.idx (.var 2) (.cst (.int 0)))) (.cons (.set 12 (.call "_law_rank" (.fz (.var 2) (.fz (.idx (.var 6) (.var 8)) (.fz (.var 10) .nil))))) (.cons (.iff (.not (.call "_law_alike" (.fz (.call "fits" (.fz (.var 3) (.fz (.idx (.var 6) (.var 8)) (.fz (.var 10) .nil)))) (.fz (.var 12) .nil)))) (.cons (.ret (.cst (.bl false))) .nil) .nil) (.cons (.set 13 (.call "fits" (.fz (.var 3) (.fz (.idx (.var 5) (.var 8)) (.fz (.var 10) .nil))))) (.cons (.iff (.and (.cmp .nis (.var 13) (.cst .non)) (.or (.cmp .is (.var 12) (.cst .non)) (.cmp .gt (.var 12) (.var 13)))) (.cons (.ret (.cst (.bl false))) .nil) .nil) .nil))))) .nil)) (.cons (.forr (.one 9) (.val (.idx (.var 2) (.cst (.int 3)))) (.cons (.set 11 (.lc (.call "ranks" (.fz (.var 3) (.fz (.idx (.var 9) (.cst (.int 0))) (.fz (.var 15) .nil)))) (.cons (.one 15) (.val (.tup (.cons (.var 5) (.cons (.var 6) .nil)))) .nil .nil))) (.cons (.set 12 (.prm .tuple (.cons (.lc (.call "_law_rank" (.fz (.var 2) (.fz (.idx (.var 6) (.var 8)) (.fz (.call "_law_met" (.fz (.var 9) (.fz (.var 8) .nil))) .nil)))) (.cons (.one 8) (.rng1 (.prm .len (.cons (.var 6) .nil))) .nil .nil)) .nil))) (.cons (.iff (.not (.call "_law_alike" (.fz (.idx (.var 11) (.cst (.int 1))) (.fz (.var 12) .nil)))) (.cons (.ret (.cst (.bl false))) .nil) .nil) (.cons (.iff (.cmp .ne (.lc (.var 8) (.cons (.one 8) (.rng1 (.prm .len (.cons (.var 12) .nil))) (.cons (.and (.cmp .nis (.idx (.idx (.var 11) (.cst (.int 0))) (.var 8)) (.cst .non)) (.or (.cmp .is (.idx (.var 12) (.var 8)) (.cst .non)) (.cmp .gt (.idx (.var 12) (.var 8)) (.idx (.idx (.var 11) (.cst (.int 0))) (.var 8))))) .nil) .nil)) (.lst .nil)) (.cons (.ret (.cst (.bl false))) .nil) .nil) .nil))))) .nil))))))) (.cons (.ret (.cst (.bl true))) .nil)))))⟩
def lw : Lw where
  fds := [
    (.fn, c_is_number.fd "is_number" "is_number" (top 8)),
    (.fn, c_check.fd "check" "check" (top 9)),
    (.fn, c_are_rising.fd "are_rising" "are_rising" (top 10)),
    (.fn, c_is_name.fd "is_name" "is_name" (top 11)),
    (.fn, c_are_names.fd "are_names" "are_names" (top 12)),
    (.fn, c_is_pattern.fd "is_pattern" "is_pattern" (top 16)),
    (.fn, c_is_body.fd "is_body" "is_body" (top 17)),
    (.fn, c_parameter_at.fd "parameter_at" "parameter_at" (top 18)),
    (.fn, c_can_end.fd "can_end" "can_end" (top 19)),
    (.ini, c_Order_u__init_u.fd "__init__" "Order.__init__" (inClass (top 22) 0)),
    (.mt, c_Order_is_below.fd "is_below" "Order.is_below" (inClass (top 22) 1)),
    (.fn, c_is_pair.fd "is_pair" "is_pair" (top 23)),
    (.fn, c_are_pairs.fd "are_pairs" "are_pairs" (top 24)),
    (.fn, c_are_kinds.fd "are_kinds" "are_kinds" (top 25)),
    (.fn, c_has_no_ring.fd "has_no_ring" "has_no_ring" (top 26)),
    (.ini, c_World_u__init_u.fd "__init__" "World.__init__" (inClass (top 33) 0)),
    (.pr, c_World_kinds.fd "kinds" "World.kinds" (inClass (top 33) 1)),
    (.pr, c_World_bodies.fd "bodies" "World.bodies" (inClass (top 33) 4)),
    (.mt, c_World_u_rank_found.fd "_rank_found" "World._rank_found" (inClass (top 33) 9)),
    (.mt, c_World_rank.fd "rank" "World.rank" (inClass (top 33) 10)),
    (.mt, c_World_names.fd "names" "World.names" (inClass (top 33) 11)),
    (.mt, c_World_pattern.fd "pattern" "World.pattern" (inClass (top 33) 12)),
    (.fn, c_are_bodies.fd "are_bodies" "are_bodies" (top 34)),
    (.fn, c_check_world.fd "check_world" "check_world" (top 35)),
    (.fn, c_is_call.fd "is_call" "is_call" (top 38)),
    (.fn, c_check_call.fd "check_call" "check_call" (top 39)),
    (.fn, c_rank_at.fd "rank_at" "rank_at" (top 40)),
    (.fn, c_takes_it.fd "takes_it" "takes_it" (top 41)),
    (.fn, c_takers.fd "takers" "takers" (top 42)),
    (.fn, c_taking.fd "taking" "taking" (top 43)),
    (.fn, c_check_name.fd "check_name" "check_name" (top 44)),
    (.fn, c_ranks.fd "ranks" "ranks" (top 45)),
    (.fn, c_fits.fd "fits" "fits" (top 46)),
    (.fn, c_law_taken.fd "_law_taken" "_law_taken" (top 48)),
    (.fn, c_law_some.fd "_law_some" "_law_some" (top 49)),
    (.fn, c_law_pick.fd "_law_pick" "_law_pick" (top 50)),
    (.fn, c_law_kinds.fd "_law_kinds" "_law_kinds" (top 51)),
    (.fn, c_law_uppers.fd "_law_uppers" "_law_uppers" (top 52)),
    (.fn, c_law_conversions.fd "_law_conversions" "_law_conversions" (top 53)),
    (.fn, c_law_pattern.fd "_law_pattern" "_law_pattern" (top 54)),
    (.fn, c_law_bodies.fd "_law_bodies" "_law_bodies" (top 55)),
    (.fn, c_law_world.fd "_law_world" "_law_world" (top 56)),
    (.fn, c_law_world_of.fd "_law_world_of" "_law_world_of" (top 57)),
    (.fn, c_law_ends.fd "_law_ends" "_law_ends" (top 58)),
    (.fn, c_law_above.fd "_law_above" "_law_above" (top 59)),
    (.fn, c_law_below.fd "_law_below" "_law_below" (top 60)),
    (.fn, c_law_met.fd "_law_met" "_law_met" (top 61)),
    (.fn, c_law_call_of.fd "_law_call_of" "_law_call_of" (top 62)),
    (.fn, c_law_call.fd "_law_call" "_law_call" (top 63)),
    (.fn, c_law_some_call.fd "_law_some_call" "_law_some_call" (top 64)),
    (.fn, c_law_low.fd "_law_low" "_law_low" (top 65)),
    (.fn, c_law_rank.fd "_law_rank" "_law_rank" (top 66)),
    (.fn, c_law_takes.fd "_law_takes" "_law_takes" (top 67)),
    (.fn, c_law_alike.fd "_law_alike" "_law_alike" (top 68)),
    (.fn, c_law.fd "law" "law" (top 69))]
  gls := [("MOST_SIGNS", .int 6), ("LETTERS", .str "abcdefghijklmnopqrstuvwxyz"), ("DIGITS", .str "0123456789"), ("MOST_PARAMETERS", .int 4), ("NO_REST", .str ""), ("MOST_KINDS", .int 6), ("MOST_UPPERS", .int 12), ("MOST_CONVERSIONS", .int 6), ("BELOW", .int 0), ("BY_CONVERSION", .int 1), ("MOST_BODIES", .int 12), ("MOST_ARGUMENTS", .int 12)]
  flds := [("Order", "_above"), ("Order", "_names"), ("World", "_bodies"), ("World", "_conversions"), ("World", "_kinds"), ("World", "_order"), ("World", "_ranks"), ("World", "_uppers")]
  isi := ["Order", "World"]
  W := 100000
def nm0 : List Str := ["_wall", "BestError", "BadArgument", "LETTERS", "DIGITS", "MOST_SIGNS", "is_number", "check", "are_rising", "is_name", "are_names", "NO_REST", "MOST_PARAMETERS", "is_pattern", "is_body", "parameter_at", "can_end", "MOST_KINDS", "Order", "is_pair", "are_pairs", "are_kinds", "has_no_ring", "MOST_UPPERS", "MOST_CONVERSIONS", "MOST_BODIES", "BELOW", "BY_CONVERSION", "World", "are_bodies"]
def nm1 : List Str := ["check_world", "MOST_ARGUMENTS", "is_call", "check_call", "rank_at", "takes_it", "takers", "taking", "check_name", "ranks", "fits", "_law_taken", "_law_some", "_law_pick", "_law_kinds", "_law_uppers", "_law_conversions", "_law_pattern", "_law_bodies", "_law_world", "_law_world_of", "_law_ends", "_law_above", "_law_below", "_law_met", "_law_call_of", "_law_call", "_law_some_call", "_law_low", "_law_rank"]
def nm2 : List Str := ["_law_takes", "_law_alike"]
def nms : List Str := nm0 ++ nm1 ++ nm2
theorem chk : (lw.fds.all fun y => fdB lw.gst y.2) = true := by decide +kernel
abbrev R : PySem.W.OpenRow := PySem.W.OpenLaw.row PySem.Challenge.rw_onebests_k02_lower_arguments
abbrev hk : PySem.W.Hook := hookR 6 lw
def ob (s : PySem.W.SharedT) : AlR := obsR 6 lw (HandSHeadRun.getT s)
theorem ob_eq (s : PySem.W.SharedT) : ob s = hk.obs s.abs := obsR_eq (HandSHeadRun.getT_eq s)
theorem run (w : World) : HandSHeadRun.RunEq R (PySem.W.view R.prog [69]) hk ob 6000 nms w := by
  intro os
  kernel_rfl
theorem args : (lw.fds.all fun y => argsB y.2.params y.2.ps) = true := by decide +kernel
theorem inis : (lw.fds.all fun y => match y.1, y.2.key with
      | .ini, .mt C _ => decide (C ∈ lw.isi)
      | _, _ => true) = true := by decide +kernel
def stmt : Prop := ∀ ns : List Int, ns.length ≤ 63 → (∀ z ∈ ns, Builtin.Int.intBits z ≤ 1048576) → ∃ outs, lw.orc 40 (.fn "law") [.lst (ns.map .int)] = some (.bl true, outs)
end Rf.Lk02
open PySem PySem.W PySem.Calls PyProof.Rows
theorem Rf.Lk02.ends (hv : Rf.Lk02.stmt) : PySem.Challenge.rw_onebests_k02_lower_arguments.Holds := by
  w_on; o_law
  refine HandSHeadRun.head_any (r := OpenLaw.row PySem.Challenge.rw_onebests_k02_lower_arguments) (q := view (OpenLaw.row PySem.Challenge.rw_onebests_k02_lower_arguments).prog [69]) (H := Rf.Lk02.hk) (ob := Rf.Lk02.ob) (M := 6000) (loose := Rf.Lk02.nms) (d := HandSHeadRun.topDef (OpenLaw.row PySem.Challenge.rw_onebests_k02_lower_arguments).prog 69) (kwd := []) Rf.Lk02.ob_eq
    (by kernel_rfl) (fun s => by kernel_rfl) Rf.Lk02.run (by kernel_rfl) (by kernel_rfl) (by kernel_rfl) (by rfl) (by first | assumption | decide +kernel) (by decide +kernel) ⟨rfl, rfl, rfl, rfl, rfl, by decide +kernel⟩ ?hw ?hc
  case hw => w_witness2
  case hc =>
    refine LamX.walk_ofTsE (l := PySem.Challenge.rw_onebests_k02_lower_arguments) (n := 63) (k := Rf.lvl 40) (x := "script") (CX := fun _ => C8.CX0) rfl (by decide) (by kernel_rfl) ⟨rfl, by decide, by decide⟩ ?F (fun _ _ _ _ _ z => z)
    intro w mg fa h Y G hmg0
    obtain ⟨K, KX, c⟩ := Y
    have hmg : mg ("law" : PySem.Str) = some (.ref fa) := by
      have e : (HandSHeadRun.topDef (OpenLaw.row PySem.Challenge.rw_onebests_k02_lower_arguments).prog 69).name = ("law" : PySem.Str) := by kernel_rfl
      rw [← e]
      exact hmg0
    exact ⟨K, KX, Rf.law_at c KX G Rf.Lk02.args Rf.Lk02.inis Rf.Lk02.chk hmg (y := (.fn, Rf.Lk02.c_law.fd "law" "law" (Rf.Lk02.top 69))) rfl rfl rfl rfl hv⟩
end

section
set_option Elab.async false
set_option linter.all false
set_option maxRecDepth 100000
set_option maxHeartbeats 1000000
/-! What takes arguments takes all lower ones. -/
namespace Rf.V02
open PySem L2 Rf Rf.Lk02
def z_t0 : IS := (.oset 0 1 (.lst (.cons (.var 0) (.cons (.cst (.int 0)) (.cons (.cst (.int 26454102)) (.cons (.cst (.int 0)) .nil))))))
def z_t1 : IS := (.set 2 (.call "_law_world" (.io 0 .nil)))
def z_t2 : IS := (.set 3 (.call "_law_world_of" (.fz (.var 2) .nil)))
def z_u0 : IS := (.set 5 (.call "_law_some_call" (.io 0 (.fz (.var 2) (.fz (.cst (.int 6)) .nil)))))
def z_u1 : IS := (.set 6 (.prm .tuple (.cons (.lc (.call "_law_low" (.io 0 (.fz (.var 2) (.fz (.var 14) .nil)))) (.cons (.one 14) (.val (.var 5)) .nil .nil)) .nil)))
def z_u2 : IS := (.set 7 (.prm .tuple (.cons (.lc (.idx (.var 9) (.cst (.int 0))) (.cons (.one 9) (.val (.idx (.var 2) (.cst (.int 3)))) (.cons (.call "_law_takes" (.fz (.var 2) (.fz (.var 9) (.fz (.var 6) .nil)))) .nil) .nil)) .nil)))
def z_u3 : IS := (.iff (.or (.not (.call "_law_alike" (.fz (.call "taking" (.fz (.var 3) (.fz (.var 6) .nil))) (.fz (.var 7) .nil)))) (.cmp .ne (.lc (.var 16) (.cons (.one 16) (.val (.call "taking" (.fz (.var 3) (.fz (.var 5) .nil)))) (.cons (.cmp .nin (.var 16) (.var 7)) .nil) .nil)) (.lst .nil))) (.cons (.ret (.cst (.bl false))) .nil) .nil)
def z_o0 : IS := (.set 12 (.call "_law_rank" (.fz (.var 2) (.fz (.idx (.var 6) (.var 8)) (.fz (.var 10) .nil)))))
def z_o1 : IS := (.iff (.not (.call "_law_alike" (.fz (.call "fits" (.fz (.var 3) (.fz (.idx (.var 6) (.var 8)) (.fz (.var 10) .nil)))) (.fz (.var 12) .nil)))) (.cons (.ret (.cst (.bl false))) .nil) .nil)
def z_o2 : IS := (.set 13 (.call "fits" (.fz (.var 3) (.fz (.idx (.var 5) (.var 8)) (.fz (.var 10) .nil)))))
def z_o3 : IS := (.iff (.and (.cmp .nis (.var 13) (.cst .non)) (.or (.cmp .is (.var 12) (.cst .non)) (.cmp .gt (.var 12) (.var 13)))) (.cons (.ret (.cst (.bl false))) .nil) .nil)
def z_o : ISs := (.cons z_o0 (.cons z_o1 (.cons z_o2 (.cons z_o3 .nil))))
def z_v0 : IS := (.forr (.one 10) (.val (.idx (.var 2) (.cst (.int 0)))) z_o)
def z_v : ISs := (.cons z_v0 .nil)
def z_u4 : IS := (.forr (.one 8) (.rng1 (.prm .len (.cons (.var 5) .nil))) z_v)
def z_d0 : IS := (.set 11 (.lc (.call "ranks" (.fz (.var 3) (.fz (.idx (.var 9) (.cst (.int 0))) (.fz (.var 15) .nil)))) (.cons (.one 15) (.val (.tup (.cons (.var 5) (.cons (.var 6) .nil)))) .nil .nil)))
def z_d1 : IS := (.set 12 (.prm .tuple (.cons (.lc (.call "_law_rank" (.fz (.var 2) (.fz (.idx (.var 6) (.var 8)) (.fz (.call "_law_met" (.fz (.var 9) (.fz (.var 8) .nil))) .nil)))) (.cons (.one 8) (.rng1 (.prm .len (.cons (.var 6) .nil))) .nil .nil)) .nil)))
def z_d2 : IS := (.iff (.not (.call "_law_alike" (.fz (.idx (.var 11) (.cst (.int 1))) (.fz (.var 12) .nil)))) (.cons (.ret (.cst (.bl false))) .nil) .nil)
def z_d3 : IS := (.iff (.cmp .ne (.lc (.var 8) (.cons (.one 8) (.rng1 (.prm .len (.cons (.var 12) .nil))) (.cons (.and (.cmp .nis (.idx (.idx (.var 11) (.cst (.int 0))) (.var 8)) (.cst .non)) (.or (.cmp .is (.idx (.var 12) (.var 8)) (.cst .non)) (.cmp .gt (.idx (.var 12) (.var 8)) (.idx (.idx (.var 11) (.cst (.int 0))) (.var 8))))) .nil) .nil)) (.lst .nil)) (.cons (.ret (.cst (.bl false))) .nil) .nil)
def z_d : ISs := (.cons z_d0 (.cons z_d1 (.cons z_d2 (.cons z_d3 .nil))))
def z_u5 : IS := (.forr (.one 9) (.val (.idx (.var 2) (.cst (.int 3)))) z_d)
def z_u : ISs := (.cons z_u0 (.cons z_u1 (.cons z_u2 (.cons z_u3 (.cons z_u4 (.cons z_u5 .nil))))))
def z_t3 : IS := (.forr (.one 4) (.rng1 (.cst (.int 6))) z_u)
def z_t4 : IS := (.ret (.cst (.bl true)))
def z_t : ISs := (.cons z_t0 (.cons z_t1 (.cons z_t2 (.cons z_t3 (.cons z_t4 .nil)))))
theorem code_eq : c_law.code = z_t := rfl
/-! ### plain -/
theorem flat_nil {α : Type} : ∀ xs : List α, (xs.flatMap fun _ => ([] : List D)) = []
  | [] => rfl
  | x :: xs => by rw [List.flatMap_cons, flat_nil xs]; rfl
theorem rk_mono {P : Pt} (h : POk P) {lo hi x : Str} (hl : lo ∈ P.kinds) (hh : hi ∈ P.kinds) (hx : x = "" ∨ x ∈ P.kinds) (k : P.bel lo hi = true) {r : Nat} (e : P.rk hi x = some r) : ∃ d, P.rk lo x = some d ∧ d ≤ r := by
  rcases hx with rfl | hx
  · rw [rk_emp h hh] at e; cases e
  · unfold Pt.rk at e ⊢
    by_cases q : P.bel hi x = true
    · have : P.bel lo x = true := bel_trans h.up hl hh k q
      rw [if_pos this]
      exact ⟨0, rfl, Nat.zero_le _⟩
    · rw [if_neg q] at e
      by_cases q2 : P.bel lo x = true
      · rw [if_pos q2]; exact ⟨0, rfl, Nat.zero_le _⟩
      · rw [if_neg q2]
        split at e
        · rename_i q3
          injection e with e
          have : (P.cvs.any fun c => P.bel lo c.1 && P.bel c.2 x) = true := by
            obtain ⟨c, hc, q4⟩ := List.any_eq_true.mp q3
            rw [Bool.and_eq_true] at q4
            exact List.any_eq_true.mpr ⟨c, hc, by rw [Bool.and_eq_true]; exact ⟨bel_trans h.up hl hh k q4.1, q4.2⟩⟩
          rw [if_pos this]
          exact ⟨1, rfl, by omega⟩
        · cases e
/-- what is lower, place by place -/
structure LowOk (P : Pt) (c lo : List Str) : Prop where
  len : lo.length = c.length
  ok : ∀ k, k < c.length → c.getD k "" ∈ P.kinds ∧ lo.getD k "" ∈ P.kinds ∧ P.bel (lo.getD k "") (c.getD k "") = true
theorem low_of {P : Pt} {c lo : List Str} (hc : ∀ x ∈ c, x ∈ P.kinds) (h : A2 (fun a b => b ∈ P.kinds ∧ P.bel b a = true) c lo) : LowOk P c lo := by
  induction h with
  | nil => exact ⟨rfl, fun k hk => by simp at hk⟩
  | cons q _ ih =>
    have ih := ih fun x hx => hc x (List.mem_cons_of_mem _ hx)
    refine ⟨by rw [List.length_cons, List.length_cons, ih.len], fun k hk => ?_⟩
    cases k with
    | zero => exact ⟨hc _ List.mem_cons_self, q.1, q.2⟩
    | succ k => exact ih.ok k (by simpa using hk)
theorem LowOk.mem {P : Pt} {c lo : List Str} (h : LowOk P c lo) : ∀ x ∈ lo, x ∈ P.kinds := fun x hx => by
  obtain ⟨i, hi, rfl⟩ := List.getElem_of_mem hx
  have := (h.ok i (by rw [← h.len]; exact hi)).2.1
  rwa [List.getD_eq_getElem?_getD, List.getElem?_eq_getElem hi] at this
theorem takes_mono {P : Pt} (h : POk P) {c lo : List Str} (hl : LowOk P c lo) {b : Bd} (hb : b ∈ P.bods) (k : P.takes b c = true) : P.takes b lo = true := by
  unfold Pt.takes at *
  rw [Bool.and_eq_true, List.all_eq_true] at *
  rw [hl.len]
  refine ⟨k.1, fun i hi => ?_⟩
  have q := k.2 i hi
  have hi := List.mem_range.mp hi
  obtain ⟨a1, a2, a3⟩ := hl.ok i hi
  obtain ⟨r, hr⟩ := Option.isSome_iff_exists.mp q
  obtain ⟨d, hd, _⟩ := rk_mono h a2 a1 (met_or (h.bs b hb)) a3 hr
  rw [hd]; rfl
/-- a rank no greater -/
def leR (lo hi : Option Nat) : Prop := ∀ r, hi = some r → ∃ d, lo = some d ∧ d ≤ r
theorem bas_rk (r : Option Nat) : Bas (rkD r) := by
  cases r with
  | none => exact .non
  | some k => exact .int k
/-! ### the law's walk -/
structure Al (l : Lw) : Prop where
  bs : Bs l
  dk : Dk l
  lc : Lc l
  ca : Ca l
  cr : Cr l
  low : Has l c_law_low
  alike : Has l c_law_alike
  law : Has l c_law
section
variable {l : Lw} {n W : Nat} (A : Al l) {N : Env → Om → Prop} {T : D → Om → Prop}
variable {sc row : D} {P : Pt} {x4 x5 x6 x7 x8 x9 x10 x11 x12 x13 x14 x15 x16 : Option D} {c lo : List Str}
include A
theorem u0_t (hn : 6 ≤ n) (h : PD P) (hr : RowOk row) (k : ∀ c row', CallOk P 6 c → RowOk row' → N [some sc, none, some (ptD P), some P.wD, x4, some (sT c), x6, x7, x8, x9, x10, x11, x12, x13, x14, x15, x16] [some row']) :
    OkS (l.orc n) W z_u0 [some sc, none, some (ptD P), some P.wD, x4, x5, x6, x7, x8, x9, x10, x11, x12, x13, x14, x15, x16] [some row] N T := by
  unfold z_u0
  simp -implicitDefEqProofs
  refine some_call_t A.lc (n := n) (by omega) h.ok h.b1 (m := 6) (by omega) hr fun c row' hc hr' => ?_
  simp -implicitDefEqProofs
  exact k c row' hc hr'
theorem u1_t (hn : 6 ≤ n) (h : PD P) (hr : RowOk row) (hc : CallOk P 6 c) (k : ∀ lo row', LowOk P c lo → RowOk row' → N [some sc, none, some (ptD P), some P.wD, x4, some (sT c), some (sT lo), x7, x8, x9, x10, x11, x12, x13, x14, x15, x16] [some row']) :
    OkS (l.orc n) W z_u1 [some sc, none, some (ptD P), some P.wD, x4, some (sT c), x6, x7, x8, x9, x10, x11, x12, x13, x14, x15, x16] [some row] N T := by
  unfold z_u1
  have hsT : ditems (sT c) = some (c.map .str) := rfl
  simp -implicitDefEqProofs [hsT]
  refine gl_t (zs := c) (e0 := .str) (enc := .str) (Q := fun a b => b ∈ P.kinds ∧ P.bel b a = true) hr (fun z hz row hr K kk => ?_) _ fun lo row2 hlo hr2 => ?_
  · simp -implicitDefEqProofs
    refine low_t A.lc.toLa A.lc.toDr A.low (n := n) (by omega) h.ok (hc.mem z hz) hr fun x hx hb row' hr' => ?_
    simp -implicitDefEqProofs
    exact kk x row' ⟨hx, hb⟩ hr'
  · have ll := hlo.len
    have cl := hc.len
    simp -implicitDefEqProofs
    exact ⟨len_ok (by omega), k lo row2 (low_of hc.mem hlo) hr2⟩
theorem u2_t (hn : 6 ≤ n) (h : PD P) (cl : c.length ≤ 6) (hl : LowOk P c lo) {ω : Om} (k : N [some sc, none, some (ptD P), some P.wD, x4, some (sT c), some (sT lo), some (sT ((P.bods.filter fun b => P.takes b lo).map (·.1))), x8, x9, x10, x11, x12, x13, x14, x15, x16] ω) :
    OkS (l.orc n) W z_u2 [some sc, none, some (ptD P), some P.wD, x4, some (sT c), some (sT lo), x7, x8, x9, x10, x11, x12, x13, x14, x15, x16] ω N T := by
  unfold z_u2
  have b4 := h.b4
  have ll := hl.len
  have i3 : didx (ptD P) (.int 3) = some (bT P.bods) := rfl
  have hbT : ditems (bT P.bods) = some (P.bods.map bD) := rfl
  simp -implicitDefEqProofs [i3, hbT]
  refine ok_gp P.bods bD (fun b => if P.takes b lo = true then [.str b.1] else []) rfl (fun b hb => ?_) ?_
  · have e := takes_t A.lc.toLa (n := n) (by omega) h.ok (b := b) hl.mem (by omega)
    have i0 : didx (bD b) (.int 0) = some (.str b.1) := rfl
    generalize P.takes b lo = q at *
    simp -implicitDefEqProofs [e, i0]
  · rw [flat_if]
    have fl : (P.bods.filter fun b => P.takes b lo).length ≤ P.bods.length := List.length_filter_le _ _
    have ej : (P.bods.filter fun b => P.takes b lo).map (fun b => D.str b.1) = ((P.bods.filter fun b => P.takes b lo).map (·.1)).map .str := by rw [List.map_map]; rfl
    rw [ej]
    generalize hq : (P.bods.filter fun b => P.takes b lo).map (·.1) = qs at *
    have ql : qs.length ≤ 4 := by rw [← hq, List.length_map]; omega
    simp -implicitDefEqProofs
    exact ⟨len_ok (by omega), k⟩
theorem u3_t (hn : 6 ≤ n) (h : PD P) (hc : CallOk P 6 c) (hl : LowOk P c lo) {ω : Om} (k : N [some sc, none, some (ptD P), some P.wD, x4, some (sT c), some (sT lo), some (sT ((P.bods.filter fun b => P.takes b lo).map (·.1))), x8, x9, x10, x11, x12, x13, x14, x15, x16] ω) :
    OkS (l.orc n) W z_u3 [some sc, none, some (ptD P), some P.wD, x4, some (sT c), some (sT lo), some (sT ((P.bods.filter fun b => P.takes b lo).map (·.1))), x8, x9, x10, x11, x12, x13, x14, x15, x16] ω N T := by
  unfold z_u3
  have b4 := h.b4
  have cl := hc.len
  have ll := hl.len
  have e1 := taking_t A.ca A.bs (n := n) (by omega) h.ok (m := 6) (by omega) (c := lo) ⟨hl.mem, by omega⟩
  have e2 := taking_t A.ca A.bs (n := n) (by omega) h.ok (m := 6) (by omega) hc
  have fl : (P.bods.filter fun b => P.takes b lo).length ≤ P.bods.length := List.length_filter_le _ _
  have e3 : l.orc n (.fn "_law_alike") [sT ((P.bods.filter fun b => P.takes b lo).map (·.1)), sT ((P.bods.filter fun b => P.takes b lo).map (·.1))] = some (.bl true, []) := alike_t A.alike (n := n) (by omega) (fun x hx => by obtain ⟨s, _, rfl⟩ := List.mem_map.mp hx; exact .str s) (by simp; omega)
  have sub : ∀ s ∈ (P.bods.filter fun b => P.takes b c).map (·.1), s ∈ (P.bods.filter fun b => P.takes b lo).map (·.1) := fun s hs => by
    obtain ⟨b, hb, rfl⟩ := List.mem_map.mp hs
    have hb := List.mem_filter.mp hb
    exact List.mem_map.mpr ⟨b, List.mem_filter.mpr ⟨hb.1, takes_mono h.ok hl hb.1 hb.2⟩, rfl⟩
  generalize (P.bods.filter fun b => P.takes b lo).map (·.1) = ts at *
  generalize (P.bods.filter fun b => P.takes b c).map (·.1) = us at *
  have hsT : ditems (sT us) = some (us.map .str) := rfl
  simp -implicitDefEqProofs [e1, e2, e3, hsT]
  refine ok_gp us .str (fun _ => []) rfl (fun s hs => ?_) ?_
  · have i1 : dcmp .nin (.str s) (sT ts) = some false := by
      show dcmp .nin (.str s) (.tup (ts.map .str)) = _
      rw [nin_strs, decide_eq_true (sub s hs)]; rfl
    simp -implicitDefEqProofs [i1]
  · rw [flat_nil]
    have en : dcmp .ne (.lst []) (.lst []) = some false := ne_nil (xs := []) fun x hx => by cases hx
    simp -implicitDefEqProofs [en]
    exact k
omit A in
theorem atG {c : List Str} {k : Nat} (hk : k < c.length) : didx (sT c) (.int (k : Nat)) = some (.str (c.getD k "")) := atS hk
theorem o_t (hn : 6 ≤ n) (h : PD P) (hc : CallOk P 6 c) (hl : LowOk P c lo) {ω : Om} {k : Nat} (hk : k < c.length) {x : Str} (hx : x ∈ P.kinds) (kk : ∀ x12 x13, N [some sc, none, some (ptD P), some P.wD, x4, some (sT c), some (sT lo), x7, some (.int (k : Nat)), x9, some (.str x), x11, x12, x13, x14, x15, x16] ω) :
    OkSs (l.orc n) W z_o [some sc, none, some (ptD P), some P.wD, x4, some (sT c), some (sT lo), x7, some (.int (k : Nat)), x9, some (.str x), x11, x12, x13, x14, x15, x16] ω N T := by
  unfold z_o z_o0 z_o1 z_o2 z_o3
  obtain ⟨a1, a2, a3⟩ := hl.ok k hk
  have i1 := atG hk
  have i2 := atG (c := lo) (k := k) (by rw [hl.len]; exact hk)
  have e1 := rank_t A.lc.toLa (n := n) (by omega) h.ok (b := x) a2
  have e2 := fits_t A.ca A.bs A.cr (n := n) (by omega) a2 hx
  have e3 := fits_t A.ca A.bs A.cr (n := n) (by omega) a1 hx
  have mo : leR (P.rk (lo.getD k "") x) (P.rk (c.getD k "") x) := fun r hr => rk_mono h.ok a2 a1 (.inr hx) a3 hr
  generalize P.rk (lo.getD k "") x = r1 at *
  generalize P.rk (c.getD k "") x = r2 at *
  generalize lo.getD k "" = y1 at *
  generalize c.getD k "" = y2 at *
  have e4 := alike_b A.alike (n := n) (by omega) (bas_rk r1)
  simp -implicitDefEqProofs [i1, i2, e1, e2, e3, e4]
  cases r2 with
  | none => simp -implicitDefEqProofs [rkD]; exact kk _ _
  | some r2 =>
    obtain ⟨d, rfl, hd⟩ := mo r2 rfl
    have hd2 : ¬ (r2 : Int) < (d : Int) := by omega
    have hd3 : ¬ r2 < d := by omega
    simp -implicitDefEqProofs [rkD, hd2, hd3]
    exact kk _ _
def VI (P : Pt) (sc : D) (c lo : List Str) (x4 x7 x9 x11 x14 x15 x16 : Option D) (ω0 : Om) (k : Nat) (ρ : Env) (ω : Om) : Prop := ∃ x8 x10 x12 x13, ρ = [some sc, none, some (ptD P), some P.wD, x4, some (sT c), some (sT lo), x7, x8, x9, x10, x11, x12, x13, x14, x15, x16] ∧ ω = ω0
def OI (P : Pt) (sc : D) (c lo : List Str) (x4 x7 x9 x11 x14 x15 x16 : Option D) (ω0 : Om) (k : Nat) (r : List Str) (ρ : Env) (ω : Om) : Prop := ∃ x10 x12 x13, ρ = [some sc, none, some (ptD P), some P.wD, x4, some (sT c), some (sT lo), x7, some (.int (k : Nat)), x9, x10, x11, x12, x13, x14, x15, x16] ∧ ω = ω0 ∧ ∀ x ∈ r, x ∈ P.kinds
theorem u4_t (hn : 6 ≤ n) (h : PD P) (hc : CallOk P 6 c) (hl : LowOk P c lo) {ω : Om} (kk : ∀ x8 x10 x12 x13, N [some sc, none, some (ptD P), some P.wD, x4, some (sT c), some (sT lo), x7, x8, x9, x10, x11, x12, x13, x14, x15, x16] ω) :
    OkS (l.orc n) W z_u4 [some sc, none, some (ptD P), some P.wD, x4, some (sT c), some (sT lo), x7, x8, x9, x10, x11, x12, x13, x14, x15, x16] ω N T := by
  unfold z_u4
  have cl := hc.len
  have dl : dlen (sT c) = some c.length := by simp [sT]
  have i0 : didx (ptD P) (.int 0) = some (sT P.kinds) := rfl
  have hsT : ditems (sT P.kinds) = some (P.kinds.map .str) := rfl
  simp -implicitDefEqProofs [dl, rng_n (m := c.length) (by omega)]
  refine floop_range (M := c.length) (e := fun k => D.int (k : Nat)) (VI P sc c lo x4 x7 x9 x11 x14 x15 x16 ω) ⟨x8, x10, x12, x13, rfl, rfl⟩ ?_ ?_
  · intro k hk ρ ω1 hI
    unfold VI at hI
    obtain ⟨y8, y10, y12, y13, h1, h2⟩ := hI
    subst h1
    subst h2
    simp -implicitDefEqProofs [z_v, z_v0, i0, hsT]
    refine floop_inv (xs := P.kinds) (enc := D.str) (OI P sc c lo x4 x7 x9 x11 x14 x15 x16 ω1 k) ⟨y10, y12, y13, rfl, rfl, fun x hx => hx⟩ ?_ ?_
    · intro x r ρ ω2 hI
      unfold OI at hI
      obtain ⟨y10, y12, y13, h1, h2, h3⟩ := hI
      subst h1
      subst h2
      simp -implicitDefEqProofs
      refine o_t A (n := n) hn h hc hl hk (h3 x List.mem_cons_self) fun y12 y13 => ?_
      exact ⟨some (.str x), y12, y13, rfl, rfl, fun y hy => h3 y (List.mem_cons_of_mem _ hy)⟩
    · intro ρ ω2 hI
      unfold OI at hI
      obtain ⟨y10, y12, y13, h1, h2, h3⟩ := hI
      subst h1
      subst h2
      exact ⟨some (.int (k : Nat)), y10, y12, y13, rfl, rfl⟩
  · intro ρ ω1 hI
    unfold VI at hI
    obtain ⟨y8, y10, y12, y13, h1, h2⟩ := hI
    subst h1
    subst h2
    exact kk _ _ _ _
def rkL (P : Pt) (b : Bd) (c : List Str) : List D := (List.range c.length).map fun k => rkD (P.rk (c.getD k "") (metB b k))
theorem rkl_at {b : Bd} {k : Nat} (hk : k < c.length) : atI (rkL P b c) ((k : Nat) : Int) = some (rkD (P.rk (c.getD k "") (metB b k))) := by
  unfold rkL
  rw [at_nat, List.getElem?_map, List.getElem?_range hk]; rfl
theorem d_t (hn : 6 ≤ n) (h : PD P) (hc : CallOk P 6 c) (hl : LowOk P c lo) {ω : Om} {b : Bd} (hb : b ∈ P.bods) (kk : ∀ x11 x12, N [some sc, none, some (ptD P), some P.wD, x4, some (sT c), some (sT lo), x7, x8, some (bD b), x10, x11, x12, x13, x14, x15, x16] ω) :
    OkSs (l.orc n) W z_d [some sc, none, some (ptD P), some P.wD, x4, some (sT c), some (sT lo), x7, x8, some (bD b), x10, x11, x12, x13, x14, x15, x16] ω N T := by
  unfold z_d z_d0
  have cl := hc.len
  have ll := hl.len
  have i0 : didx (bD b) (.int 0) = some (.str b.1) := rfl
  have e1 : l.orc n (.fn "ranks") [P.wD, .str b.1, sT c] = some (.tup (rkL P b c), []) := ranks_t A.ca A.bs A.cr (n := n) (by omega) h.ok h.bn (m := 6) (by omega) hc hb
  have e2 : l.orc n (.fn "ranks") [P.wD, .str b.1, sT lo] = some (.tup (rkL P b lo), []) := ranks_t A.ca A.bs A.cr (n := n) (by omega) h.ok h.bn (m := 6) (by omega) ⟨hl.mem, by omega⟩ hb
  simp -implicitDefEqProofs
  refine ⟨len_ok (by omega), ?_⟩
  refine ok_gp [c, lo] sT (fun c => [.tup (rkL P b c)]) rfl (fun s hs => ?_) ?_
  · rcases List.mem_cons.mp hs with e | e
    · subst e
      simp -implicitDefEqProofs [i0, e1]
    · rw [List.mem_singleton] at e
      subst e
      simp -implicitDefEqProofs [i0, e2]
  · rw [show ([c, lo].flatMap fun c => [D.tup (rkL P b c)]) = [.tup (rkL P b c), .tup (rkL P b lo)] from rfl]
    have dl : dlen (sT lo) = some lo.length := by simp [sT]
    unfold z_d1
    simp -implicitDefEqProofs [dl, rng_n (m := lo.length) (by omega)]
    refine ⟨len_ok (by omega), ?_⟩
    refine ok_gp (List.range lo.length) (fun k => .int (k : Nat)) (fun k => [rkD (P.rk (lo.getD k "") (metB b k))]) rfl (fun k hk => ?_) ?_
    · have hk := List.mem_range.mp hk
      have i1 := atG hk
      have e3 := met_t A.lc.toLa (n := n) (by omega) (b := b) (k := k)
      have e4 := rank_t A.lc.toLa (n := n) (by omega) h.ok (b := metB b k) (hl.ok k (by omega)).2.1
      generalize lo.getD k "" = y1 at *
      simp -implicitDefEqProofs [i1, e3, e4]
    · rw [flat1]
      rw [show ((List.range lo.length).map fun k => rkD (P.rk (lo.getD k "") (metB b k))) = rkL P b lo from rfl]
      have rl : (rkL P b lo).length = lo.length := by unfold rkL; rw [List.length_map, List.length_range]
      have e5 := alike_t A.alike (n := n) (by omega) (xs := rkL P b lo) (fun x hx => by obtain ⟨k, _, rfl⟩ := List.mem_map.mp hx; exact bas_rk _) (by omega)
      unfold z_d2
      simp -implicitDefEqProofs [e5]
      refine ⟨len_ok (by omega), ?_⟩
      unfold z_d3
      simp -implicitDefEqProofs [rng_n (m := (rkL P b lo).length) (by omega)]
      refine ok_gp (List.range (rkL P b lo).length) (fun k => .int (k : Nat)) (fun _ => []) rfl (fun k hk => ?_) ?_
      · have hk := List.mem_range.mp hk
        have j1 := rkl_at A (P := P) (c := c) (b := b) (k := k) (by omega)
        have j2 := rkl_at A (P := P) (c := lo) (b := b) (k := k) (by omega)
        obtain ⟨a1, a2, a3⟩ := hl.ok k (by omega)
        have mo : leR (P.rk (lo.getD k "") (metB b k)) (P.rk (c.getD k "") (metB b k)) := fun r hr => rk_mono h.ok a2 a1 (met_or (h.ok.bs b hb)) a3 hr
        generalize P.rk (lo.getD k "") (metB b k) = r1 at *
        generalize P.rk (c.getD k "") (metB b k) = r2 at *
        simp -implicitDefEqProofs [j1, j2]
        cases r2 with
        | none => simp -implicitDefEqProofs [rkD]
        | some r2 =>
          obtain ⟨d, rfl, hd⟩ := mo r2 rfl
          have hd2 : ¬ (r2 : Int) < (d : Int) := by omega
          have hd3 : ¬ r2 < d := by omega
          simp -implicitDefEqProofs [rkD, hd2, hd3]
      · rw [flat_nil]
        have en : dcmp .ne (.lst []) (.lst []) = some false := ne_nil (xs := []) fun x hx => by cases hx
        simp -implicitDefEqProofs [en]
        exact kk _ _
def DI (P : Pt) (sc : D) (c lo : List Str) (x4 x7 x8 x10 x13 x14 x15 x16 : Option D) (ω0 : Om) (r : List Bd) (ρ : Env) (ω : Om) : Prop := ∃ x9 x11 x12, ρ = [some sc, none, some (ptD P), some P.wD, x4, some (sT c), some (sT lo), x7, x8, x9, x10, x11, x12, x13, x14, x15, x16] ∧ ω = ω0 ∧ ∀ x ∈ r, x ∈ P.bods
theorem u5_t (hn : 6 ≤ n) (h : PD P) (hc : CallOk P 6 c) (hl : LowOk P c lo) {ω : Om} (kk : ∀ x9 x11 x12, N [some sc, none, some (ptD P), some P.wD, x4, some (sT c), some (sT lo), x7, x8, x9, x10, x11, x12, x13, x14, x15, x16] ω) :
    OkS (l.orc n) W z_u5 [some sc, none, some (ptD P), some P.wD, x4, some (sT c), some (sT lo), x7, x8, x9, x10, x11, x12, x13, x14, x15, x16] ω N T := by
  unfold z_u5
  have i3 : didx (ptD P) (.int 3) = some (bT P.bods) := rfl
  have hbT : ditems (bT P.bods) = some (P.bods.map bD) := rfl
  simp -implicitDefEqProofs [i3, hbT]
  refine floop_inv (xs := P.bods) (enc := bD) (DI P sc c lo x4 x7 x8 x10 x13 x14 x15 x16 ω) ⟨x9, x11, x12, rfl, rfl, fun x hx => hx⟩ ?_ ?_
  · intro b r ρ ω2 hI
    unfold DI at hI
    obtain ⟨y9, y11, y12, h1, h2, h3⟩ := hI
    subst h1
    subst h2
    simp -implicitDefEqProofs
    refine d_t A (n := n) hn h hc hl (h3 b List.mem_cons_self) fun y11 y12 => ?_
    exact ⟨some (bD b), y11, y12, rfl, rfl, fun y hy => h3 y (List.mem_cons_of_mem _ hy)⟩
  · intro ρ ω2 hI
    unfold DI at hI
    obtain ⟨y9, y11, y12, h1, h2, h3⟩ := hI
    subst h1
    subst h2
    exact kk _ _ _
def TI (P : Pt) (sc : D) (ρ : Env) (ω : Om) : Prop := ∃ x4 x5 x6 x7 x8 x9 x10 x11 x12 x13 x14 x15 x16 row, ρ = [some sc, none, some (ptD P), some P.wD, x4, x5, x6, x7, x8, x9, x10, x11, x12, x13, x14, x15, x16] ∧ ω = [some row] ∧ RowOk row
theorem turn_t (hn : 6 ≤ n) (h : PD P) (hr : RowOk row) (kk : ∀ ρ ω, TI P sc ρ ω → N ρ ω) :
    OkSs (l.orc n) W z_u [some sc, none, some (ptD P), some P.wD, x4, x5, x6, x7, x8, x9, x10, x11, x12, x13, x14, x15, x16] [some row] N T := by
  unfold z_u
  rw [oks_cons]
  refine u0_t A hn h hr fun c row1 hc hr1 => ?_
  rw [oks_cons]
  refine u1_t A hn h hr1 hc fun lo row2 hl hr2 => ?_
  rw [oks_cons]
  refine u2_t A hn h hc.len hl ?_
  rw [oks_cons]
  refine u3_t A hn h hc hl ?_
  rw [oks_cons]
  with_reducible refine u4_t A hn h hc hl fun x8 x10 x12 x13 => ?_
  rw [oks_cons]
  with_reducible refine u5_t A hn h hc hl fun x9 x11 x12 => ?_
  rw [oks_nil]
  refine kk _ _ ?_
  unfold TI
  exact ⟨x4, some (sT c), some (sT lo), some (sT ((P.bods.filter fun b => P.takes b lo).map (·.1))), x8, x9, x10, x11, x12, x13, x14, x15, x16, row2, rfl, rfl, hr2⟩
omit A in
theorem op_law (h : Has l c_law) (hn : 0 < n) {a0 : D} {P : D × List D → Prop} (k : OkSs (l.orc (n - 1)) l.W z_t [some a0, none, none, none, none, none, none, none, none, none, none, none, none, none, none, none, none] [none] (fun _ ω => outK 0 ω fun os => P (.non, os)) (fun d ω => outK 0 ω fun os => P (d, os))) : Ok (l.orc n (.fn "law") [a0]) P := orc_ok (c := c_law) h hn rfl rfl rfl rfl k
theorem law_t (hn : 8 ≤ n) {ns : List Int} : l.orc n (.fn "law") [.lst (ns.map .int)] = some (.bl true, []) := by
  apply Ok.eq
  refine op_law A.law (by omega) ?_
  unfold z_t z_t0 z_t1 z_t2 z_t3 z_t4
  have r0 : RowOk (.lst [.lst (ns.map .int), .int 0, .int 26454102, .int 0]) := ⟨ns, 0, 26454102, 0, rfl, by omega, by omega⟩
  simp -implicitDefEqProofs
  refine ⟨len_ok (by omega), ?_⟩
  refine world_d A.dk (n := n - 1) (by omega) r0 fun P row1 hP hr1 => ?_
  have e1 := world_of_d A.dk A.bs (n := n - 1) (by omega) hP.ok
  have e6 : rngD 0 6 = some ((List.range 6).map fun k => .int (k : Nat)) := rng_n (m := 6) (by omega)
  simp -implicitDefEqProofs [e1, e6]
  refine floop_range (M := 6) (e := fun k => D.int (k : Nat)) (fun _ => TI P (.lst (ns.map .int))) ?_ ?_ ?_
  · unfold TI
    exact ⟨none, none, none, none, none, none, none, none, none, none, none, none, none, row1, rfl, rfl, hr1⟩
  · intro k hk ρ ω hI
    unfold TI at hI
    obtain ⟨x4, x5, x6, x7, x8, x9, x10, x11, x12, x13, x14, x15, x16, row, h1, h2, h3⟩ := hI
    subst h1
    subst h2
    simp -implicitDefEqProofs
    exact turn_t A (n := n - 1) (by omega) hP h3 fun ρ ω h => h
  · intro ρ ω hI
    unfold TI at hI
    obtain ⟨x4, x5, x6, x7, x8, x9, x10, x11, x12, x13, x14, x15, x16, row, h1, h2, h3⟩ := hI
    subst h1
    subst h2
    simp -implicitDefEqProofs
end
theorem dr_ok : Dr lw := ⟨⟨_, _, _, _, rfl⟩, ⟨_, _, _, _, rfl⟩, ⟨_, _, _, _, rfl⟩⟩
theorem la_ok : La lw := ⟨⟨_, _, _, _, rfl⟩, ⟨_, _, _, _, rfl⟩, ⟨_, _, _, _, rfl⟩, ⟨_, _, _, _, rfl⟩, ⟨_, _, _, _, rfl⟩, ⟨_, _, _, _, rfl⟩⟩
theorem al_ok : Al lw := ⟨⟨⟨_, _, _, _, rfl⟩, ⟨_, _, _, _, rfl⟩, ⟨_, _, _, _, rfl⟩, ⟨_, _, _, _, rfl⟩, ⟨_, _, _, _, rfl⟩, ⟨_, _, _, _, rfl⟩, ⟨_, _, _, _, rfl⟩, ⟨_, _, _, _, rfl⟩, ⟨_, _, _, _, rfl⟩, ⟨_, _, _, _, rfl⟩, ⟨_, _, _, _, rfl⟩, ⟨_, _, _, _, rfl⟩, ⟨_, _, _, _, rfl⟩, ⟨_, _, _, _, rfl⟩, ⟨_, _, _, _, rfl⟩, ⟨_, _, _, _, rfl⟩⟩, ⟨dr_ok, ⟨_, _, _, _, rfl⟩, ⟨_, _, _, _, rfl⟩, ⟨_, _, _, _, rfl⟩, ⟨_, _, _, _, rfl⟩, ⟨_, _, _, _, rfl⟩, ⟨_, _, _, _, rfl⟩, ⟨_, _, _, _, rfl⟩⟩, ⟨dr_ok, la_ok, ⟨_, _, _, _, rfl⟩, ⟨_, _, _, _, rfl⟩, ⟨_, _, _, _, rfl⟩⟩, ⟨⟨_, _, _, _, rfl⟩, ⟨_, _, _, _, rfl⟩, ⟨_, _, _, _, rfl⟩, ⟨_, _, _, _, rfl⟩, ⟨_, _, _, _, rfl⟩, ⟨_, _, _, _, rfl⟩, ⟨_, _, _, _, rfl⟩, ⟨_, _, _, _, rfl⟩, ⟨_, _, _, _, rfl⟩, ⟨_, _, _, _, rfl⟩, ⟨_, _, _, _, rfl⟩, ⟨_, _, _, _, rfl⟩, ⟨_, _, _, _, rfl⟩, ⟨_, _, _, _, rfl⟩⟩, ⟨⟨_, _, _, _, rfl⟩, ⟨_, _, _, _, rfl⟩, ⟨_, _, _, _, rfl⟩⟩, ⟨_, _, _, _, rfl⟩, ⟨_, _, _, _, rfl⟩, ⟨_, _, _, _, rfl⟩⟩
theorem stmt_ok : stmt := fun ns _ _ => ⟨[], law_t al_ok (by omega)⟩
end Rf.V02
end

theorem PySem.Challenge.cw_onebests_k02_lower_arguments_holds : PySem.Challenge.rw_onebests_k02_lower_arguments.Holds := by
  exact Rf.Lk02.ends Rf.V02.stmt_ok
