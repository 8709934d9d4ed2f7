import PyProof.Rows.All
import Wide.All
import OpenK.AllK
import Wide.FinOn
import HandS.ForMost
import HandS.Walk
import HandS.Zip
import KE.GoesMore
import HandS.Exc
import HandS.Conv
import KE.SortData
import KE.KDictKeyed
import KE.KeyNested
import HandS.TupAny
import HandS.TupMul
import HandS.Deep
import HandS.Wide
import HandS.IsInst
import HandS.Text
import HandS.Style
import HandS.HeadWalk
import HandS.EndBits
import HandS.Defaults
import HandS.HeadHook1
import HandS.HeadHook2
import KE.KDictCopyH
import HandS.Comp
import KE.KDictSum
import PyProof.TupleOfSeq
import HandS.Head0
import HandS.Head1
import HandS.Head2
import HandS.HeadEnd
import PySem.Challenge.RW_roundorlist_k01_sums_of_rows_beside_trie
section
set_option Elab.async false
set_option linter.all false
set_option autoImplicit false
set_option maxRecDepth 100000
/-! EV, part I: enumerate over a tuple. -/
namespace EV
open PySem PySem.Spec L2
open PySem.AutoSeq1 (wpAny_loadPart')

theorem enum_newT (l : Addr) (xs : Array Value) (n : Nat) (dd : Option Addr) (sl : Array (Option Value)) :
    Meets (Builtin.«enumerate.__new__» ⟨[.type "enumerate", .ref l], []⟩) (fun _ G z => z.heap.get? l = some { cls := .type "tuple", dict := dd, data := .seq xs n, slots := sl } ∧
      G (.ok (.ret (.ref (z.heap.push { cls := .type "tuple_iterator", data := .fields #[.ref l, .int 0 0] }).objs.size)))
        { z with heap := (z.heap.push { cls := .type "tuple_iterator", data := .fields #[.ref l, .int 0 0] }).push { cls := .type "enumerate", data := .fields #[.none, .bool false, .ref z.heap.objs.size, rawInt 0, .none, .none] } }) :=
  .of_wp fun prog w A G z q => by
    obtain ⟨hp, gs, dr, tk, os⟩ := z
    obtain ⟨hl, q⟩ := q
    have hs := sub_enumerate
    have hT : Heap.IsTuple (Shared.heap ⟨hp, gs, dr, tk, os⟩) l xs := ⟨_, hl, rfl, n, rfl⟩
    wp_walk using wpAny_loadPart' hl
    refine wpAny_stack_any fun st => wpAny_pure ?_
    split
    · rename_i c _ _ _ _ _
      cases (c == Value.type "enumerate") <;> (wp_walk using wpAny_loadPart' hl, wpAny_pyIter_tuple hT; exact ⟨_, rfl, q⟩)
    · wp_walk using wpAny_loadPart' hl, wpAny_pyIter_tuple hT
      exact ⟨_, rfl, q⟩
section
variable {prog : Program} {w : World} {A : Around} {E : Value → Shared → Prop} {s : Shared}
theorem call_enumT {l : Addr} {xs : Array Value} {Q : Value → Shared → Prop} (hL : PyProof.Rows.IsTup s.heap l xs)
    (q : ∀ h', IsEnum h' (s.heap.objs.size + 1) s.heap.objs.size 0 .none → h'.IsTupleIter s.heap.objs.size l 0 →
      (∀ b o, s.heap.get? b = some o → h'.get? b = some o) → Q (.ref (s.heap.objs.size + 1)) { s with heap := h' }) :
    wpAny (model prog w) A (call (.type "enumerate") [.ref l]) Q E s := by
  obtain ⟨⟨c, dd, dt, sl⟩, hl, hc, n, hd⟩ := hL
  simp only at hc hd
  subst hc hd
  have hz : ∀ o : Obj, (s.heap.push o).objs.size = s.heap.objs.size + 1 := fun o => Heap.size_push ..
  refine callType_new F.called_enumerate (by decide) (F.typeCall_enumerate_1 _) (F.newCall_enumerate_1 _) (fun obj => F.args_object_init_2 obj _) F.entry_enumerate_new (enum_newT l xs n dd sl) ⟨hl, ?_⟩
  have he := Heap.get?_push_size (s.heap.push { cls := .type "tuple_iterator", data := .fields #[.ref l, .int 0 0] })
      (o := { cls := .type "enumerate", data := .fields #[.none, .bool false, .ref s.heap.objs.size, rawInt 0, .none, .none] }) rfl
  rw [hz] at he
  show _ ∧ _
  rw [hz]
  exact ⟨⟨_, he, rfl⟩, q _ he ⟨_, Heap.get?_push_of_some _ (Heap.get?_push_size _ (o := { cls := .type "tuple_iterator", data := .fields #[.ref l, .int 0 0] }) rfl), rfl, rfl⟩ fun b o x => Heap.get?_push_of_some _ (Heap.get?_push_of_some _ x)⟩
end
/-- the tuple at a, the items in new pairs with their places -/
def IteT (K : PySem.W.Frag) (a : Addr) : It :=
  ⟨fun i H => ∃ xs x, SqT K H a xs ∧ xs[i]? = some x, fun i H v H' => ∃ T x, v = .ref T ∧ H T = none ∧ H' = upd H T (.tup [.int (i : Nat), x]) ∧ ∀ xs, SqT K H a xs → xs[i]? = some x,
    fun i H => ∃ xs, SqT K H a xs ∧ xs.length = i⟩
theorem turn_enumT {P : Program} {w : World} {K : PySem.W.Frag} {elts : List Expr} {kk : Nat} {tpos : Pos} (a e it : Addr) (hat : a ≠ it) :
    Turn P w K (.Tuple elts kk tpos) (IteT K a) [e, it] e (fun i h => (∃ old, IsEnum h e it ((i : Nat) : Int) old) ∧ h.IsTupleIter it a i ∧ e ≠ it) where
  mem := by simp
  obj := fun i h st b hb => by
    obtain ⟨⟨old, he⟩, ⟨o, ho, hc, hd⟩, _⟩ := st
    have e' : b = e ∨ b = it := by simpa using hb
    rcases e' with z | z <;> subst z
    · exact ⟨_, he, fun v q => nomatch q⟩
    · exact ⟨o, ho, fun v q => by rw [hd] at q; cases q⟩
  keep := fun i h h' st k => by
    obtain ⟨⟨old, he⟩, ⟨o, ho, r⟩, hne⟩ := st
    exact ⟨⟨old, k e (by simp) _ he⟩, ⟨o, k it (by simp) o ho, r⟩, hne⟩
  item := by
    intro X hP hw hK hc i pins s σ H E I hf st hg
    subst hP hw hK
    obtain ⟨⟨old, he⟩, hit, hne⟩ := st
    obtain ⟨xs, x, hq, hx⟩ := hg
    obtain ⟨its, rv, p, hz⟩ := I.tuple hq
    have hl := rv.length
    have hi : i < xs.length := (List.getElem?_eq_some_iff.mp hx).1
    have hel : e < s.heap.objs.size := Heap.lt_size he
    have hil : it < s.heap.objs.size := by obtain ⟨_, q, _⟩ := hit; exact Heap.lt_size q
    have D := Draws.tuple (prog := X.prog) (w := X.w) (A := X.A.in1) (I.ok.hd hc) it a hat its.toArray
    have hea : e ≠ a := fun z => by
      subst z
      obtain ⟨o, ho, hc, _⟩ := p
      rw [show s.heap.get? e = some _ from he] at ho
      cases ho
      simp at hc
    refine wpAny_pyNext_enum_itemD D he ⟨hit, p⟩ (by simp; omega) hne (by simp [hne, hea]) fun u h' tk hu ho hst' hT hsz hk => ?_
    refine ⟨_, rfl, wpAny_letOwnedTupleGo_enum (s := { s with heap := h', toks := tk + 1 }) ho fun h2 he' sb => ?_⟩
    have ru : RelV x u := by
      obtain ⟨u', hu', r'⟩ := rv.get hx
      have e1 : its[i]? = some u := by simpa using hu
      rw [e1] at hu'; cases hu'
      exact r'
    have hT2 : h2.get? s.heap.objs.size = some { cls := .type "tuple", data := .seq #[.int i tk, u] } := (sb.2 _ (Nat.ne_of_gt hel)).trans hT
    have new : ObjOk X.prog X.w (upd H s.heap.objs.size (.tup [.int (i : Nat), x])) h2 s.heap.objs.size (.tup [.int (i : Nat), x]) :=
      ⟨by show 2 ≤ sizeLine; decide, [.int i tk, u], .cons ⟨_, rfl⟩ (.cons ru .nil), ⟨_, hT2, rfl, _, rfl⟩⟩
    have I1 := I.turnedNew (t' := tk + 1) (ch := [e, it]) (h' := h2) (fun b ob hb q => (sb.2 b (fun z => hb (by simp [z]))).trans (hk b ob (fun z => hb (by simp [z])) (fun z => hb (by simp [z])) q)) hf (Nat.le_refl _) new
    refine ⟨.ref s.heap.objs.size, _, I1, rfl, ⟨_, x, rfl, I.hok.fresh (Nat.le_refl _), rfl, fun ys hy => by rw [I.tuple_inj hy hq]; exact hx⟩, ⟨⟨u, ?_⟩, ?_, hne⟩, fun b hb => ?_⟩
    · have e1 : ((i + 1 : Nat) : Int) = (i : Int) + 1 := by omega
      rw [e1]; exact he'
    · exact hst'.1.at fun o q => (sb.2 it (Ne.symm hne)).trans q
    · have hb' : b < s.heap.objs.size := by
        have e' : b = e ∨ b = it := by simpa using hb
        rcases e' with z | z <;> subst z
        · exact hel
        · exact hil
      rw [upd_ne (Nat.ne_of_lt hb')]
      exact (hf b hb).1
  done := by
    intro X hP hw hK hc i pins s σ H E I hf st hg
    subst hP hw hK
    obtain ⟨⟨old, he⟩, hit, hne⟩ := st
    obtain ⟨xs, hq, hx⟩ := hg
    obtain ⟨its, rv, p, hz⟩ := I.tuple hq
    have hl := rv.length
    obtain ⟨f0, f1, f2, f3, f4, f5⟩ := hf it (by simp)
    have D := Draws.tuple (prog := X.prog) (w := X.w) (A := X.A.in1) (I.ok.hd hc) it a hat its.toArray
    subst hx
    exact wpAny_pyNext_enum_endD D he ⟨by simpa [hl] using hit, p⟩ fun h' eb => ⟨rfl, I.turned (t' := s.toks) (fun b o hb q => eb b o hb q) f0 f1 f3 f4 f5⟩
  self := fun A i s Q E st h => let ⟨⟨_, he⟩, _⟩ := st; wpAny_pyIter_enum he h
/-- enumerate(e), e a list or a tuple -/
def iEnumA (K : PySem.W.Frag) (ta : TA) : TI := fun σ H R => ta σ H fun vs H1 => ∃ a xs, vs = [.ref a] ∧ ((SqL K H1 a xs ∧ R (Ite K a) H1) ∨ (SqT K H1 a xs ∧ R (IteT K a) H1))
theorem pi_enumA {X : Cx} {e : Expr} {ta : TA} {p pos tpos : Pos} {elts : List Expr} {kk : Nat} (hg : Gl X "enumerate") (hm : X.mg "enumerate" = none) (ha : PA X [e] ta) (hs : starEach [e] X.env = [(false, eval e X.env)] := by rfl) :
    PI X (.Tuple elts kk tpos) (.Call (.Name "enumerate" p) [e] [] pos) (iEnumA X.K ta) := by
  refine ⟨fun pins s σ H R I h => ?_⟩
  refine PyProof.Rows.Call_ (ld_blt I hg hm PyProof.Rows.boot_enumerate (PyProof.Rows.callWith_type1 (thn (ha.run pos pins s σ H _ I h) fun us s1 ⟨vs, H1, I1, r1, q1⟩ => ?_) hs rfl))
  obtain ⟨a, xs, ex, q⟩ := q1
  subst ex
  cases r1 with
  | cons r rr =>
    cases rr
    cases r
    have fp : ∀ b ∈ [s1.heap.objs.size + 1, s1.heap.objs.size], s1.heap.objs.size ≤ b := fun b hb => by
      have e' : b = s1.heap.objs.size + 1 ∨ b = s1.heap.objs.size := by simpa using hb
      omega
    rcases q with ⟨hq, q⟩ | ⟨hq, q⟩
    · obtain ⟨its, rv, p', hz⟩ := I1.list hq
      refine call_enumerate_list p'.isList fun h' he hit hsz hk => wpAny_pyIter_enum he ?_
      exact ⟨s1.heap.objs.size + 1, [s1.heap.objs.size + 1, s1.heap.objs.size], _, _, H1, rfl, I1.kept (t' := s1.toks) hk, turn_enum a (s1.heap.objs.size + 1) s1.heap.objs.size, ⟨⟨.none, he⟩, hit, Nat.succ_ne_self _⟩,
        fun b hb => I1.fpOk (fp b hb) (I1.hok.fresh (fp b hb)), q⟩
    · obtain ⟨its, rv, p', hz⟩ := I1.tuple hq
      have hlt : a < s1.heap.objs.size := let ⟨_, ho, _⟩ := p'; Heap.lt_size ho
      refine call_enumT p' fun h' he hit hk => wpAny_pyIter_enum he ?_
      exact ⟨s1.heap.objs.size + 1, [s1.heap.objs.size + 1, s1.heap.objs.size], _, _, H1, rfl, I1.kept (t' := s1.toks) hk, turn_enumT a (s1.heap.objs.size + 1) s1.heap.objs.size (Nat.ne_of_lt hlt), ⟨⟨.none, he⟩, hit, Nat.succ_ne_self _⟩,
        fun b hb => I1.fpOk (fp b hb) (I1.hok.fresh (fp b hb)), q⟩
end EV
end

section
set_option Elab.async false
set_option linter.all false
set_option maxRecDepth 100000
/-! EV, part A: data, the small language, its reading as plain functions. No Python here. -/
namespace EV
open PySem

/-- data that never change -/
inductive D where
  | non | bl (b : Bool) | int (i : Int) | str (s : Str) | tup (xs : List D)

mutual
def D.py : D → PyData
  | .non => .none | .bl b => .bool b | .int i => .int i | .str s => .str s | .tup xs => .tuple (D.pys xs)
def D.pys : List D → List PyData
  | [] => []
  | x :: xs => x.py :: D.pys xs
end

/-- objects that change -/
inductive MO where
  | lst (xs : List D)

/-- values: data, the n-th object of the heap, an object that nobody holds yet, a list that is only read -/
inductive U where
  | d (x : D) | obj (n : Nat) | tmp (o : MO) | ro (xs : List D)

abbrev Hs := List MO
abbrev Rho := List (Option U)

inductive R (α : Type) where
  | ok (a : α) (h : Hs)
  | exc (c : String) (x : D) (h : Hs)
  | stuck
@[reducible] def R.bind {α β : Type} (r : R α) (f : α → Hs → R β) : R β :=
  match r with
  | .ok a h => f a h
  | .exc c x h => .exc c x h
  | .stuck => .stuck

inductive BOp where
  | add | sub | mul | fdiv | mod | pow
inductive COp where
  | eq | ne | lt | le | gt | ge | is_ | isnt | in_ | nin
inductive Bi where
  | len | int_ | tuple | list | abs | max2 | min2 | repr | isint | isbool | istuple | sorted | dict | set | sum | all | any

inductive Me where
  | append | extend

inductive E where
  | var (i : Nat) | non | bl (b : Bool) | int (i : Int) | str (s : Str) | gv (g : Nat)
  | bin (o : BOp) (a b : E) | neg (a : E)
  | cmp (o : COp) (a b : E) | cmp2 (o p : COp) (a b c : E)
  | and (a b : E) | or (a b : E) | not (a : E) | ife (c a b : E)
  | tup (xs : List E) | lst (xs : List E)
  | idx (a i : E) | slice (a lo hi : E) | absent
  | call (f : Nat) (xs : List E) (p : List Nat)
  | bi (f : Bi) (xs : List E)
  | meth (m : Me) (o : E) (xs : List E)
  | comp (vs tg : List Nat) (elt it : E) (ifs : List E)
  | rng1 (a : E) | rng2 (a b : E) | enum (a : E) | zip (a b : E)
  | comp2 (vs vs1 tg tg1 : List Nat) (elt it it1 : E) (ifs ifs1 : List E)
  | sdict (a : E)

structure Cc where
  call : Nat → List U → Hs → R U
  gv : Nat → Option D

/-! ### operations -/
mutual
def D.eqv : D → D → Bool
  | .non, .non => true
  | .bl a, .bl b => a == b
  | .bl a, .int j => (if a then 1 else 0) == j
  | .int i, .bl b => i == (if b then 1 else 0)
  | .int i, .int j => i == j
  | .str x, .str y => x == y
  | .tup xs, .tup ys => D.eqvs xs ys
  | _, _ => false
def D.eqvs : List D → List D → Bool
  | [], [] => true
  | x :: xs, y :: ys => D.eqv x y && D.eqvs xs ys
  | _, _ => false
end

/-- a value as data, for == and repr -/
def frz (h : Hs) : U → Option PyData
  | .d x => some x.py
  | .obj i => match h[i]? with
    | some (.lst xs) => some (.list (D.pys xs))
    | _ => none
  | .tmp (.lst xs) => some (.list (D.pys xs))
  | .ro xs => some (.list (D.pys xs))
def eqG (a b : U) (h : Hs) : Option Bool :=
  match frz h a, frz h b with
  | some x, some y => if SeqAt.shaped x = true ∧ SeqAt.shaped y = true then some (PyData.eqv x y) else none
  | _, _ => none
def eqU (a b : U) (h : Hs) : Option Bool :=
  match a, b with
  | .d (.str x), .d (.str y) => some (decide (x = y))
  | a, b => eqG a b h
def truthU (a : U) (h : Hs) : Option Bool :=
  match a with
  | .d .non => some false
  | .d (.bl b) => some b
  | .d (.int i) => some (i != 0)
  | .d (.tup xs) => some (!xs.isEmpty)
  | .obj i => match h[i]? with
    | some (.lst xs) => some (!xs.isEmpty)
    | _ => none
  | .tmp (.lst xs) => some (!xs.isEmpty)
  | .ro xs => some (!xs.isEmpty)
  | _ => none
def mulOk (i j : Int) : Prop := (-(2 ^ 64) < i ∧ i < 2 ^ 64) ∨ (-(2 ^ 64) < j ∧ j < 2 ^ 64)
def DivOk (j : Int) : Prop := 0 < j ∧ j < 2 ^ 1000
def PowOk (i j : Int) : Prop := 0 ≤ j ∧ j ≤ 1000000 ∧ i.natAbs < 2 ^ 64
def RngOk (j : Int) : Prop := -(2 ^ 62) ≤ j ∧ j < 2 ^ 62
def addU (a b : U) : Option U :=
  match a, b with
  | .d (.int i), .d (.int j) => some (.d (.int (i + j)))
  | .d (.tup xs), .d (.tup ys) => if xs.length + ys.length ≤ sizeLine then some (.d (.tup (xs ++ ys))) else none
  | .d (.str x), .d (.str y) => if x.length + y.length ≤ sizeLine then some (.d (.str (x ++ y))) else none
  | _, _ => none
open Classical in
noncomputable def mulI (a b : U) : Option U :=
  match a, b with
  | .d (.int i), .d (.int j) => if mulOk i j then some (.d (.int (i * j))) else none
  | _, _ => none
/-- a text, k times -/
def strMul (x : Str) (k : Int) : Str := ⟨(List.replicate k.toNat x.cps).foldl (· ++ ·) #[]⟩
noncomputable def mulU (a b : U) : Option U :=
  match a, b with
  | .d (.int _), .d (.int _) => mulI a b
  | .d (.tup xs), .d (.int k) => if 1 ≤ k ∧ k ≤ 1000 ∧ 1 ≤ xs.length ∧ xs.length ≤ 1000 then some (.d (.tup (List.replicate k.toNat xs).flatten)) else none
  | .d (.str x), .d (.int k) => if 2 ≤ k ∧ k ≤ 1000 ∧ 1 ≤ x.length ∧ x.length ≤ 1000 then some (.d (.str (strMul x k))) else none
  | _, _ => none
open Classical in
noncomputable def binU (o : BOp) (a b : U) : Option U :=
  match o with
  | .add => addU a b
  | .mul => mulU a b
  | .sub => match a, b with
    | .d (.int i), .d (.int j) => some (.d (.int (i - j)))
    | _, _ => none
  | .fdiv => match a, b with
    | .d (.int i), .d (.int j) => if DivOk j then some (.d (.int (i / j))) else none
    | _, _ => none
  | .mod => match a, b with
    | .d (.int i), .d (.int j) => if 0 < j then some (.d (.int (i % j))) else none
    | _, _ => none
  | .pow => match a, b with
    | .d (.int i), .d (.int j) => if PowOk i j then some (.d (.int (i ^ j.toNat))) else none
    | _, _ => none
/-- a in b -/
def inU (a b : U) (h : Hs) : Option Bool :=
  match frz h a, frz h b with
  | some x, some (.list ys) => if SeqAt.shaped x = true ∧ SeqAt.shaped (.list ys) = true then some (ys.any fun z => PyData.eqv z x) else none
  | some x, some (.tuple ys) => if SeqAt.shaped x = true ∧ SeqAt.shaped (.tuple ys) = true then some (ys.any fun z => PyData.eqv z x) else none
  | _, _ => none
def cmpI (f : Int → Int → Bool) (a b : U) : Option U :=
  match a, b with
  | .d (.int i), .d (.int j) => some (.d (.bl (f i j)))
  | _, _ => none
def isNonU : U → Bool
  | .d .non => true
  | _ => false
def cmpU (o : COp) (a b : U) (h : Hs) : Option U :=
  match o with
  | .eq => (eqU a b h).map fun k => .d (.bl k)
  | .ne => (eqU a b h).map fun k => .d (.bl (!k))
  | .lt => cmpI (fun i j => decide (i < j)) a b
  | .le => cmpI (fun i j => decide (i ≤ j)) a b
  | .gt => cmpI (fun i j => decide (j < i)) a b
  | .ge => cmpI (fun i j => decide (j ≤ i)) a b
  | .is_ => match b with
    | .d .non => some (.d (.bl (isNonU a)))
    | _ => none
  | .isnt => match b with
    | .d .non => some (.d (.bl (!isNonU a)))
    | _ => none
  | .in_ => (inU a b h).map fun k => .d (.bl k)
  | .nin => (inU a b h).map fun k => .d (.bl (!k))
/-- a op= b, of ints -/
def augU (o : BOp) (a b : U) : Option U :=
  match o, a, b with
  | .add, .d (.int i), .d (.int j) => some (.d (.int (i + j)))
  | .sub, .d (.int i), .d (.int j) => some (.d (.int (i - j)))
  | _, _, _ => none
def R.opt (o : Option U) (h : Hs) : R U :=
  match o with
  | some u => .ok u h
  | none => .stuck
/-- the items of a list or tuple -/
def itemsU (a : U) (h : Hs) : Option (List D) :=
  match a with
  | .d (.tup xs) => some xs
  | .obj i => match h[i]? with
    | some (.lst xs) => some xs
    | _ => none
  | .tmp (.lst xs) => some xs
  | .ro xs => some xs
  | _ => none
def itemsE (a : U) (h : Hs) : Option (List D) :=
  match a with
  | .ro _ => none
  | a => itemsU a h
def itemsL (a : U) (h : Hs) : Option (List D) :=
  match a with
  | .ro _ => none
  | .d _ => none
  | a => itemsU a h
def idxU (a i : U) (h : Hs) : Option U :=
  match i with
  | .d (.int k) => match itemsU a h with
    | some xs => (L2.atI xs k).map .d
    | none => none
  | _ => none
def cut {α : Type} (xs : List α) (lo hi : Option Int) : List α :=
  (xs.drop (HT.sIx xs.length 0 lo)).take (HT.sIx xs.length xs.length hi - HT.sIx xs.length 0 lo)
def sliceU (a : U) (lo hi : Option Int) (h : Hs) : Option U :=
  match a with
  | .d (.tup xs) => some (.d (.tup (cut xs lo hi)))
  | .obj i => match h[i]? with
    | some (.lst xs) => some (.tmp (.lst (cut xs lo hi)))
    | _ => none
  | _ => none
def U.data? : U → Option D
  | .d x => some x
  | _ => none
def datas : List U → Option (List D)
  | [] => some []
  | .d x :: us => (datas us).map (x :: ·)
  | _ :: _ => none

/-- a new object gets its place -/
def alloc (u : U) (h : Hs) : U × Hs :=
  match u with
  | .tmp o => (.obj h.length, h ++ [o])
  | u => (u, h)

/-- the bound arguments out of the given ones (p empty: as they come) -/
def perm (us : List U) (p : List Nat) : Option (List U) :=
  match p with
  | [] => some us
  | p => p.mapM fun i => us[i]?

def b2i (b : Bool) : Int := if b then 1 else 0
def showU (u : U) (h : Hs) : Option U :=
  match frz h u with
  | some x => if x.showable = true ∧ x.depth ≤ 64 ∧ x.shown.length ≤ sizeLine then some (.d (.str x.shown)) else none
  | none => none
/-- data that sorted() may meet, and sorted -/
def SortOk (xs : List D) : Prop := PySem.W.AllAlike (xs.map D.py) ∧ PySem.W.Sortable (xs.map D.py) ∧ ∀ x ∈ xs, x.py.depth ≤ 64
noncomputable def sortD (xs : List D) : List D := xs.mergeSort (PySem.W.dataLe false D.py)
/-! a key of a dict -/
mutual
def D.nk : D → Option NestedKey
  | .non => some .none
  | .bl _ => none
  | .int i => some (.num i)
  | .str s => some (.text s)
  | .tup xs => (D.nks xs).map .tup
def D.nks : List D → Option (List NestedKey)
  | [] => some []
  | x :: xs => match D.nk x, D.nks xs with
    | some k, some ks => some (k :: ks)
    | _, _ => none
end
def isTup : D → Bool
  | .tup _ => true
  | _ => false
def KeyOk (x : D) : Prop := isTup x = true ∧ ∃ k, D.nk x = some k ∧ k.depth ≤ 8
/-- the keys of pairs -/
def fstsD : List D → Option (List D)
  | [] => some []
  | .tup [k, _] :: ps => (fstsD ps).map (k :: ·)
  | _ => none
open Classical in
noncomputable def addD (acc : List D) (x : D) : List D := if x ∈ acc then acc else acc ++ [x]
/-- each once, at its first place -/
noncomputable def onceD (xs : List D) : List D := xs.foldl addD []
open Classical in
noncomputable def sortR (xs : List D) (h : Hs) : R U := if SortOk xs then .ok (.tmp (.lst (sortD xs))) h else .stuck
open Classical in
noncomputable def sdictR (u : U) (h : Hs) : R U :=
  match itemsL u h with
  | some ps => match fstsD ps with
    | some ks => if (∀ k ∈ ks, KeyOk k) ∧ SortOk (onceD ks) then .ok (.tmp (.lst (sortD (onceD ks)))) h else .stuck
    | none => .stuck
  | none => .stuck
/-- built-ins of one argument -/
noncomputable def bi1 (f : Bi) (u : U) (h : Hs) : R U :=
  match f with
  | .len => match itemsU u h with
    | some xs => .ok (.d (.int xs.length)) h
    | none => .stuck
  | .int_ => match u with
    | .d (.int i) => .ok u h
    | .d (.bl b) => .ok (.d (.int (b2i b))) h
    | .d (.str x) => match PySem.intText? x with
      | some n => if x.length ≤ 640 then .ok (.d (.int n)) h else .stuck
      | none => .stuck
    | _ => .stuck
  | .sorted => match itemsE u h with
    | some xs => sortR xs h
    | none => .stuck
  | .tuple => match itemsU u h with
    | some xs => .ok (.d (.tup xs)) h
    | none => .stuck
  | .list => match itemsU u h with
    | some xs => .ok (.tmp (.lst xs)) h
    | none => .stuck
  | .abs => match u with
    | .d (.int i) => .ok (.d (.int (if i < 0 then -i else i))) h
    | _ => .stuck
  | .repr => R.opt (showU u h) h
  | .isint => match u with
    | .d (.int _) => .ok (.d (.bl true)) h
    | .d (.bl _) => .ok (.d (.bl true)) h
    | _ => .ok (.d (.bl false)) h
  | .isbool => match u with
    | .d (.bl _) => .ok (.d (.bl true)) h
    | _ => .ok (.d (.bl false)) h
  | .istuple => match u with
    | .d (.tup _) => .ok (.d (.bl true)) h
    | _ => .ok (.d (.bl false)) h
  | _ => .stuck
def bi2 (f : Bi) (u v : U) (h : Hs) : R U :=
  match f, u, v with
  | .max2, .d (.int i), .d (.int j) => .ok (.d (.int (if j > i then j else i))) h
  | .min2, .d (.int i), .d (.int j) => .ok (.d (.int (if j < i then j else i))) h
  | _, _, _ => .stuck
noncomputable def biU (f : Bi) (us : List U) (h : Hs) : R U :=
  match us with
  | [u] => bi1 f u h
  | [u, v] => bi2 f u v h
  | _ => .stuck

/-! ### stores -/
def setVar (i : Nat) (u : U) (ρ : Rho) : Rho := ρ.set i (some u)
def setVars : List Nat → List U → Rho → Option Rho
  | [], [], ρ => some ρ
  | i :: is, u :: us, ρ => setVars is us (ρ.set i (some u))
  | _, _, _ => none
/-- a loop's target: a name, or names for a tuple -/
def setTg (tg : List Nat) (x : D) (ρ : Rho) : Option Rho :=
  match tg with
  | [i] => some (ρ.set i (some (.d x)))
  | is => match x with
    | .tup xs => setVars is (xs.map .d) ρ
    | _ => none
def wipe (ρ : Rho) : List Nat → Rho
  | [] => ρ
  | v :: vs => (wipe ρ vs).set v none

/-- what a loop walks: the items, and the list that is to stay as it is meanwhile -/
structure IterD where
  xs : List D
  watch : Option (Nat × MO)
open Classical in
noncomputable def IterD.ok (w : Option (Nat × MO)) (h : Hs) : Bool :=
  match w with
  | none => true
  | some (i, o) => decide (h[i]? = some o)
def intsD (lo : Int) : Nat → List D
  | 0 => []
  | n + 1 => .int lo :: intsD (lo + 1) n
def enumD (i : Int) : List D → List D
  | [] => []
  | x :: xs => .tup [.int i, x] :: enumD (i + 1) xs
def zipD : List D → List D → List D
  | x :: xs, y :: ys => .tup [x, y] :: zipD xs ys
  | _, _ => []
def seqItr (u : U) (h : Hs) : R IterD :=
  match u with
  | .d (.tup xs) => .ok ⟨xs, none⟩ h
  | .obj i => match h[i]? with
    | some (.lst xs) => .ok ⟨xs, some (i, .lst xs)⟩ h
    | _ => .stuck
  | .tmp (.lst xs) => .ok ⟨xs, none⟩ h
  | .ro xs => .ok ⟨xs, none⟩ h
  | _ => .stuck
open Classical in
noncomputable def rng1Itr (us : List U) (h : Hs) : R IterD :=
  match us with
  | [.d (.int j)] => if RngOk j then .ok ⟨intsD 0 j.toNat, none⟩ h else .stuck
  | _ => .stuck
open Classical in
noncomputable def rng2Itr (us : List U) (h : Hs) : R IterD :=
  match us with
  | [.d (.int i), .d (.int j)] => if RngOk i ∧ RngOk j then .ok ⟨intsD i (j - i).toNat, none⟩ h else .stuck
  | _ => .stuck
/-- two things that are walked at once: lists both, or tuples both -/
def zipItr (us : List U) (h : Hs) : R IterD :=
  match us with
  | [.d (.tup xs), .d (.tup ys)] => .ok ⟨zipD xs ys, none⟩ h
  | _ => .stuck

/-- the loop of a comprehension: one body's result an item (none: left out) -/
noncomputable def compL (w : Option (Nat × MO)) (body : D → Hs → R (Option D)) : List D → List D → Hs → R (List D)
  | [], acc, h => if IterD.ok w h = true then .ok acc h else .stuck
  | x :: xs, acc, h => if IterD.ok w h = true then
      match body x h with
      | .ok (some y) h' => compL w body xs (acc ++ [y]) h'
      | .ok none h' => compL w body xs acc h'
      | _ => .stuck
    else .stuck

/-- a loop for what it does to the heap -/
noncomputable def compM (w : Option (Nat × MO)) (body : D → Hs → R Unit) : List D → Hs → R Unit
  | [], h => if IterD.ok w h = true then .ok () h else .stuck
  | x :: xs, h => if IterD.ok w h = true then
      match body x h with
      | .ok _ h' => compM w body xs h'
      | _ => .stuck
    else .stuck

def tyU (u : U) : String :=
  match u with
  | .d .non => "NoneType" | .d (.bl _) => "bool" | .d (.int _) => "int" | .d (.str _) => "str" | .d (.tup _) => "tuple" | _ => "list"
/-! ### the reading: value, truth, a slice's part, what is walked -/
structure Den where
  v : Rho → Hs → R U
  t : Rho → Hs → R Bool
  p : Rho → Hs → R (Option Int)
  i : Rho → Hs → R IterD
def truthR (u : U) (h : Hs) : R Bool :=
  match truthU u h with
  | some k => .ok k h
  | none => .stuck
def partR (u : U) (h : Hs) : R (Option Int) :=
  match u with
  | .d (.int i) => .ok (some i) h
  | _ => .stuck
@[reducible] def Den.of (v : Rho → Hs → R U) : Den where
  v := v
  t := fun ρ h => (v ρ h).bind truthR
  p := fun ρ h => (v ρ h).bind partR
  i := fun ρ h => (v ρ h).bind seqItr
def getVar (i : Nat) (ρ : Rho) (h : Hs) : R U :=
  match ρ[i]? with
  | some (some u) => .ok u h
  | _ => .stuck
def gvR (x : Option D) (h : Hs) : R U :=
  match x with
  | some x => .ok (.d x) h
  | none => .stuck
def negR (u : U) (h : Hs) : R U :=
  match u with
  | .d (.int i) => .ok (.d (.int (-i))) h
  | _ => .stuck
def notR (u : U) (h : Hs) : R U :=
  match u with
  | .d (.bl b) => .ok (.d (.bl (!b))) h
  | _ => .stuck
/-- a bool, or nothing known -/
def onBl (u : U) (k : Bool → R U) : R U :=
  match u with
  | .d (.bl b) => k b
  | _ => .stuck
def onBlO (u : Option U) (k : Bool → R U) : R U :=
  match u with
  | some (.d (.bl b)) => k b
  | _ => .stuck
def tupR (us : List U) (h : Hs) : R U :=
  match datas us with
  | some xs => if xs.length ≤ sizeLine then .ok (.d (.tup xs)) h else .stuck
  | none => .stuck
def lstR (us : List U) (h : Hs) : R U :=
  match datas us with
  | some xs => if xs.length ≤ sizeLine then .ok (.tmp (.lst xs)) h else .stuck
  | none => .stuck
/-- arguments from the left, each new object laid -/
def evs : List Den → Rho → Hs → R (List U)
  | [], _, h => .ok [] h
  | e :: es, ρ, h => (e.v ρ h).bind fun u h1 => (evs es ρ (alloc u h1).2).bind fun us h2 => .ok ((alloc u h1).1 :: us) h2
noncomputable def biR (f : Bi) (es : List Den) (ρ : Rho) (h : Hs) : R U :=
  match es with
  | [e] => (e.v ρ h).bind fun u h1 => bi1 f u h1
  | es => (evs es ρ h).bind fun us h1 => biU f us h1
def testsR (es : List Den) (ρ : Rho) (h : Hs) : R Bool :=
  match es with
  | [] => .ok true h
  | [e] => e.t ρ h
  | _ => .stuck
def dataR (u : U) (h : Hs) : R (Option D) :=
  match u with
  | .d y => .ok (some y) h
  | _ => .stuck
def lstU (u : U) (h : Hs) : Bool :=
  match u with
  | .obj n => match h[n]? with
    | some (.lst _) => true
    | none => false
  | _ => false
/-- o.append(x), o.extend(xs) -/
def methR (m : Me) (o u : U) (h : Hs) : R U :=
  match m, o with
  | .append, .obj n => match h[n]?, u with
    | some (.lst xs), .d x => if xs.length < sizeLine then .ok (.d .non) (h.set n (.lst (xs ++ [x]))) else .stuck
    | _, _ => .stuck
  | .extend, .obj n => match h[n]?, itemsE u h with
    | some (.lst xs), some ys => if xs.length + ys.length ≤ sizeLine then .ok (.d .non) (h.set n (.lst (xs ++ ys))) else .stuck
    | _, _ => .stuck
  | _, _ => .stuck
def methE (m : Me) (o : Den) (es : List Den) (ρ : Rho) (h : Hs) : R U :=
  match es with
  | [e] => (o.v ρ h).bind fun u h1 => if lstU u h1 = true then (e.v ρ h1).bind fun v h2 => methR m u v h2 else .stuck
  | _ => .stuck
/-- a turn of a comprehension -/
def turnR (vs tg : List Nat) (elt : Den) (ifs : List Den) (ρ : Rho) (x : D) (h : Hs) : R (Option D) :=
  match setTg tg x (wipe ρ vs) with
  | some ρ' => (testsR ifs ρ' h).bind fun k h1 => if k = true then (elt.v ρ' h1).bind dataR else .ok none h1
  | none => .stuck
noncomputable def compR (vs tg : List Nat) (elt it : Den) (ifs : List Den) (ρ : Rho) (h : Hs) : R U :=
  (it.i ρ h).bind fun I h1 => if I.xs.length ≤ sizeLine then (compL I.watch (turnR vs tg elt ifs ρ) I.xs [] h1).bind fun ys h2 => .ok (.tmp (.lst ys)) h2 else .stuck
/-- one item more for the n-th object -/
def pushD (n : Nat) (u : U) (h : Hs) : R Unit :=
  match u, h[n]? with
  | .d y, some (.lst acc) => if acc.length < sizeLine then .ok () (h.set n (.lst (acc ++ [y]))) else .stuck
  | _, _ => .stuck
/-- a turn of the inner loop of a comprehension of two loops; of the outer one -/
def turn2R (n : Nat) (vs1 tg1 : List Nat) (elt : Den) (ifs1 : List Den) (ρ : Rho) (x : D) (h : Hs) : R Unit :=
  match setTg tg1 x (wipe ρ vs1) with
  | some ρ' => (testsR ifs1 ρ' h).bind fun k h1 => if k = true then (elt.v ρ' h1).bind (pushD n) else .ok () h1
  | none => .stuck
noncomputable def turn1R (n : Nat) (vs vs1 tg tg1 : List Nat) (elt it1 : Den) (ifs ifs1 : List Den) (ρ : Rho) (x : D) (h : Hs) : R Unit :=
  match setTg tg x (wipe ρ vs) with
  | some ρ' => (testsR ifs ρ' h).bind fun k h1 => if k = true then (it1.i ρ' h1).bind fun I h2 => compM I.watch (turn2R n vs1 tg1 elt ifs1 ρ') I.xs h2 else .ok () h1
  | none => .stuck
/-- the list stands in the heap while it grows; then it is no one's -/
def popR (n : Nat) (h : Hs) : R U :=
  match h[n]? with
  | some o => .ok (.tmp o) (h.take n)
  | none => .stuck
noncomputable def comp2R (vs vs1 tg tg1 : List Nat) (elt it it1 : Den) (ifs ifs1 : List Den) (ρ : Rho) (h : Hs) : R U :=
  (it.i ρ h).bind fun I h1 => (compM I.watch (turn1R h1.length vs vs1 tg tg1 elt it1 ifs ifs1 ρ) I.xs (h1 ++ [.lst []])).bind fun _ h2 => popR h1.length h2

mutual
noncomputable def den (C : Cc) : E → Den
  | .var i => .of (getVar i)
  | .non => .of fun _ h => .ok (.d .non) h
  | .bl b => .of fun _ h => .ok (.d (.bl b)) h
  | .int i => .of fun _ h => .ok (.d (.int i)) h
  | .str s => .of fun _ h => .ok (.d (.str s)) h
  | .gv g => .of fun _ h => gvR (C.gv g) h
  | .bin o a b => .of fun ρ h => ((den C a).v ρ h).bind fun u h1 => ((den C b).v ρ h1).bind fun v h2 => R.opt (binU o u v) h2
  | .neg a => .of fun ρ h => ((den C a).v ρ h).bind negR
  | .cmp o a b => .of fun ρ h => ((den C a).v ρ h).bind fun u h1 => ((den C b).v ρ h1).bind fun v h2 => R.opt (cmpU o u v h2) h2
  | .cmp2 o p a b c => .of fun ρ h => ((den C a).v ρ h).bind fun u h1 => ((den C b).v ρ h1).bind fun v h2 =>
      onBlO (cmpU o u v h2) fun k => if k = true then ((den C c).v ρ h2).bind fun w h3 => R.opt (cmpU p v w h3) h3 else .ok (.d (.bl false)) h2
  | .and a b => { Den.of (fun ρ h => ((den C a).v ρ h).bind fun u h1 => onBl u fun k => if k = true then (den C b).v ρ h1 else .ok (.d (.bl false)) h1) with
      t := fun ρ h => ((den C a).t ρ h).bind fun k h1 => if k = true then (den C b).t ρ h1 else .ok false h1 }
  | .or a b => { Den.of (fun ρ h => ((den C a).v ρ h).bind fun u h1 => onBl u fun k => if k = true then .ok (.d (.bl true)) h1 else (den C b).v ρ h1) with
      t := fun ρ h => ((den C a).t ρ h).bind fun k h1 => if k = true then .ok true h1 else (den C b).t ρ h1 }
  | .not a => { Den.of (fun ρ h => ((den C a).v ρ h).bind notR) with t := fun ρ h => ((den C a).t ρ h).bind fun k h1 => .ok (!k) h1 }
  | .ife c a b => .of fun ρ h => ((den C c).t ρ h).bind fun k h1 => if k = true then (den C a).v ρ h1 else (den C b).v ρ h1
  | .tup es => .of fun ρ h => (evs (dens C es) ρ h).bind tupR
  | .lst es => .of fun ρ h => (evs (dens C es) ρ h).bind lstR
  | .idx a i => .of fun ρ h => ((den C a).v ρ h).bind fun u h1 => ((den C i).v ρ h1).bind fun v h2 => R.opt (idxU u v h2) h2
  | .slice a lo hi => .of fun ρ h => ((den C a).v ρ h).bind fun u h1 => ((den C lo).p ρ h1).bind fun l h2 => ((den C hi).p ρ h2).bind fun r h3 => R.opt (sliceU u l r h3) h3
  | .absent => { Den.of (fun _ _ => .stuck) with p := fun _ h => .ok none h }
  | .call f es p => .of fun ρ h => (evs (dens C es) ρ h).bind fun us h1 => match perm us p with
    | some ws => C.call f ws h1
    | none => .stuck
  | .bi f es => .of fun ρ h => biR f (dens C es) ρ h
  | .meth m o es => .of fun ρ h => methE m (den C o) (dens C es) ρ h
  | .comp vs tg elt it ifs => .of fun ρ h => compR vs tg (den C elt) (den C it) (dens C ifs) ρ h
  | .comp2 vs vs1 tg tg1 elt it it1 ifs ifs1 => .of fun ρ h => comp2R vs vs1 tg tg1 (den C elt) (den C it) (den C it1) (dens C ifs) (dens C ifs1) ρ h
  | .sdict a => .of fun ρ h => ((den C a).v ρ h).bind sdictR
  | .rng1 a => { Den.of (fun _ _ => .stuck) with i := fun ρ h => (evs [den C a] ρ h).bind rng1Itr }
  | .rng2 a b => { Den.of (fun _ _ => .stuck) with i := fun ρ h => (evs [den C a, den C b] ρ h).bind rng2Itr }
  | .enum a => { Den.of (fun _ _ => .stuck) with i := fun ρ h => ((den C a).v ρ h).bind fun u h1 => (seqItr u h1).bind fun I h2 => .ok ⟨enumD 0 I.xs, I.watch⟩ h2 }
  | .zip a b => { Den.of (fun _ _ => .stuck) with i := fun ρ h => (evs [den C a, den C b] ρ h).bind zipItr }
noncomputable def dens (C : Cc) : List E → List Den
  | [] => []
  | e :: es => den C e :: dens C es
end

/-! ### statements -/
inductive S where
  | asg (i : Nat) (e : E) | asgT (is : List Nat) (e : E) | par (is : List Nat) (es : List E) | sub (o i e : E)
  | aug (i : Nat) (o : BOp) (e : E) | expr (e : E) | ret (e : E) | retN | pass | brk | cont
  | ife (c : E) (a b : List S)
  | for_ (tg : List Nat) (it : E) (body : List S) (wp : List Nat)
  | while_ (c : E) (body : List S) (wp : List Nat)
  | raise_ (c : String) (e : E) | never

inductive Flow where
  | next | brk | cont | ret (u : U)
inductive RS where
  | ok (f : Flow) (ρ : Rho) (h : Hs)
  | exc (c : String) (x : D) (ρ : Rho) (h : Hs)
  | stuck
/-- an expression within a statement -/
@[reducible] def R.on {α : Type} (r : R α) (ρ : Rho) (k : α → Hs → RS) : RS :=
  match r with
  | .ok a h => k a h
  | .exc c x h => .exc c x ρ h
  | .stuck => .stuck
/-- one statement behind another -/
@[reducible] def RS.seq (r : RS) (k : Rho → Hs → RS) : RS :=
  match r with
  | .ok .next ρ h => k ρ h
  | r => r
abbrev DenS := Rho → Hs → RS
def nextO (o : Option Rho) (h : Hs) : RS :=
  match o with
  | some ρ => .ok .next ρ h
  | none => .stuck
/-- a value into a name -/
def stV (i : Nat) (ρ : Rho) (u : U) (h : Hs) : RS := .ok .next (ρ.set i (some (alloc u h).1)) (alloc u h).2
def asgTR (is : List Nat) (ρ : Rho) (u : U) (h : Hs) : RS :=
  match u with
  | .d (.tup xs) => nextO (setVars is (xs.map .d) ρ) h
  | _ => .stuck
/-- o[i] = x -/
def subR (o i u : U) (ρ : Rho) (h : Hs) : RS :=
  match o, i, u with
  | .obj n, .d (.int k), .d x => match h[n]? with
    | some (.lst xs) => match L2.ixN xs.length k with
      | some j => .ok .next ρ (h.set n (.lst (xs.set j x)))
      | none => .stuck
    | _ => .stuck
  | _, _, _ => .stuck
noncomputable def forL (w : Option (Nat × MO)) (tg : List Nat) (body : DenS) (wp : List Nat) : List D → Rho → Hs → RS
  | [], ρ, h => if IterD.ok w h = true then .ok .next ρ h else .stuck
  | x :: xs, ρ, h => if IterD.ok w h = true then
      match setTg tg x ρ with
      | none => .stuck
      | some ρ1 => match body ρ1 h with
        | .ok .next ρ2 h2 => forL w tg body wp xs (wipe ρ2 wp) h2
        | .ok .cont ρ2 h2 => forL w tg body wp xs (wipe ρ2 wp) h2
        | .ok .brk ρ2 h2 => .ok .next (wipe ρ2 wp) h2
        | r => r
    else .stuck
def whileN (c : Rho → Hs → R Bool) (body : DenS) (wp : List Nat) : Nat → Rho → Hs → RS
  | 0, _, _ => .stuck
  | n + 1, ρ, h => (c ρ h).on ρ fun k h1 => if k = true then
      match body ρ h1 with
      | .ok .next ρ2 h2 => whileN c body wp n (wipe ρ2 wp) h2
      | .ok .cont ρ2 h2 => whileN c body wp n (wipe ρ2 wp) h2
      | .ok .brk ρ2 h2 => .ok .next (wipe ρ2 wp) h2
      | r => r
    else .ok .next ρ h1
def fuelW : Nat := 1000000000000
mutual
noncomputable def dS (C : Cc) : S → DenS
  | .asg i e => fun ρ h => ((den C e).v ρ h).on ρ (stV i ρ)
  | .asgT is e => fun ρ h => ((den C e).v ρ h).on ρ (asgTR is ρ)
  | .par is es => fun ρ h => (evs (dens C es) ρ h).on ρ fun us h1 => nextO (setVars is us ρ) h1
  | .sub o i e => fun ρ h => ((den C e).v ρ h).on ρ fun u h1 => ((den C o).v ρ h1).on ρ fun v h2 => ((den C i).v ρ h2).on ρ fun w h3 => subR v w u ρ h3
  | .aug i o e => fun ρ h => (getVar i ρ h).on ρ fun u h1 => ((den C e).v ρ h1).on ρ fun v h2 => (R.opt (augU o u v) h2).on ρ (stV i ρ)
  | .expr e => fun ρ h => ((den C e).v ρ h).on ρ fun _ h1 => .ok .next ρ h1
  | .ret e => fun ρ h => ((den C e).v ρ h).on ρ fun u h1 => .ok (.ret u) ρ h1
  | .retN => fun ρ h => .ok (.ret (.d .non)) ρ h
  | .pass => fun ρ h => .ok .next ρ h
  | .brk => fun ρ h => .ok .brk ρ h
  | .cont => fun ρ h => .ok .cont ρ h
  | .ife c a b => fun ρ h => ((den C c).t ρ h).on ρ fun k h1 => if k = true then dSs C a ρ h1 else dSs C b ρ h1
  | .for_ tg it body wp => fun ρ h => ((den C it).i ρ h).on ρ fun I h1 => forL I.watch tg (dSs C body) wp I.xs (wipe ρ wp) h1
  | .while_ c body wp => fun ρ h => whileN (den C c).t (dSs C body) wp fuelW (wipe ρ wp) h
  | .raise_ c e => fun ρ h => ((den C e).v ρ h).on ρ fun u h1 => match u with
    | .d x => .exc c x ρ h1
    | _ => .stuck
  | .never => fun _ _ => .stuck
noncomputable def dSs (C : Cc) : List S → DenS
  | [] => fun ρ h => .ok .next ρ h
  | s :: ss => fun ρ h => (dS C s ρ h).seq (dSs C ss)
end

/-! ### defs -/
structure Fn where
  n : Nat
  slots : Nat
  body : List S
def startR (slots : Nat) (us : List U) : Rho := us.map some ++ List.replicate (slots - us.length) none
/-- a def's end: what it made and no one holds is forgotten -/
def retU (n : Nat) (u : U) (h : Hs) : R U :=
  match u with
  | .obj i => if n ≤ i then (match h[i]? with | some o => .ok (.tmp o) (h.take n) | none => .stuck) else .ok u (h.take n)
  | u => .ok u (h.take n)
def finish (n : Nat) (r : RS) : R U :=
  match r with
  | .ok (.ret u) _ h => retU n u h
  | .ok .next _ h => .ok (.d .non) (h.take n)
  | .exc c x _ h => .exc c x (h.take n)
  | _ => .stuck
noncomputable def callD (C : Cc) (f : Fn) (us : List U) (h : Hs) : R U := finish h.length (dSs C f.body (startR f.slots us) h)
structure Lib where
  fn : Nat → Option Fn
  gv : Nat → Option D
noncomputable def callK (T : Lib) : Nat → Nat → List U → Hs → R U
  | 0, _, _, _ => .stuck
  | k + 1, f, us, h => match T.fn f with
    | some fn => if us.length = fn.n then callD ⟨callK T k, T.gv⟩ fn us h else .stuck
    | none => .stuck
noncomputable def Lib.at (T : Lib) (k : Nat) : Cc := ⟨callK T k, T.gv⟩
end EV
end

section
set_option Elab.async false
set_option linter.all false
set_option autoImplicit false
set_option maxRecDepth 100000
/-! EV, part B: how the reading lies in the layer's heap. -/
namespace EV
open PySem PySem.Spec L2

/-! ### relations -/
def KList (K : PySem.W.Frag) (a : Addr) (vs : List V) : Prop :=
  ∃ (o : Obj) (its : Array Value) (n : Nat), K.lookup a = some o ∧ o.cls = .type "list" ∧ o.dict = none ∧ o.data = .seq its n ∧ its.size ≤ sizeLine ∧ Vals vs its.toList
def RoL (K : PySem.W.Frag) (H : Hp) (a : Addr) (vs : List V) : Prop := (∃ o, H a = some (.frz o (.lst vs))) ∨ KList K a vs
theorem RoL.seq {K : PySem.W.Frag} {H : Hp} {a : Addr} {vs : List V} (h : RoL K H a vs) : SqL K H a vs := by
  rcases h with ⟨o, h⟩ | h
  · exact .inl (.inr ⟨o, h⟩)
  · exact .inr h
def MOk (K : PySem.W.Frag) (H : Hp) (a : Addr) : MO → Prop
  | .lst xs => ∃ vs, H a = some (.lst vs) ∧ DpAll K H vs (D.pys xs)
def UR (K : PySem.W.Frag) (m : List Addr) (H : Hp) (v : V) : U → Prop
  | .d x => Dp K H v x.py
  | .obj i => ∃ a, m[i]? = some a ∧ v = .ref a
  | .tmp _ => False
  | .ro xs => ∃ a vs, v = .ref a ∧ RoL K H a vs ∧ DpAll K H vs (D.pys xs)
/-- .. of a result: a new object is no one's, and is younger than H0 -/
def VR (K : PySem.W.Frag) (H0 : Hp) (m : List Addr) (H : Hp) (v : V) : U → Prop
  | .tmp o => ∃ a, v = .ref a ∧ a ∉ m ∧ H0 a = none ∧ MOk K H a o
  | .d x => UR K m H v (.d x)
  | .obj i => UR K m H v (.obj i)
  | .ro xs => UR K m H v (.ro xs)
structure HR (K : PySem.W.Frag) (m : List Addr) (h : Hs) (H : Hp) : Prop where
  len : m.length = h.length
  nd : m.Nodup
  at_ : ∀ (i : Nat) (o : MO) (a : Addr), h[i]? = some o → m[i]? = some a → MOk K H a o
structure EnvR (K : PySem.W.Frag) (m : List Addr) (H : Hp) (σ : St) (ρ : Rho) : Prop where
  len : ρ.length = σ.length
  at_ : ∀ (i : Nat) (u : U), ρ[i]? = some (some u) → ∃ v, σ[i]? = some (some v) ∧ UR K m H v u
structure Grow (m : List Addr) (H : Hp) (m' : List Addr) (H' : Hp) : Prop where
  ext : ∃ e, m' = m ++ e ∧ ∀ a ∈ e, H a = none
  keep : ∀ a o, H a = some o → a ∉ m → H' a = some o
  there : ∀ a o, H a = some o → ∃ o', H' a = some o'
/-- what never changes is kept -/
def Keep (H H' : Hp) : Prop := (∀ a vs, H a = some (.tup vs) → H' a = some (.tup vs)) ∧ ∀ a o u, H a = some (.frz o u) → H' a = some (.frz o u)

section
variable {K : PySem.W.Frag} {m m' m1 m2 : List Addr} {H H' H0 H1 H2 : Hp} {h h' : Hs} {v : V} {a : Addr}
theorem MOk.lst_of {o : MO} (x : MOk K H a o) : ∃ vs, H a = some (.lst vs) := by
  cases o with
  | lst xs => obtain ⟨vs, e, _⟩ := x; exact ⟨vs, e⟩
theorem HR.mem (hr : HR K m h H) (ha : a ∈ m) : ∃ vs, H a = some (.lst vs) := by
  obtain ⟨i, hi, e⟩ := List.getElem_of_mem ha
  have hi' : i < h.length := by rw [← hr.len]; exact hi
  exact (hr.at_ i h[i] a (by simp [hi']) (by rw [← e]; simp [hi])).lst_of
theorem Grow.keeps (hr : HR K m h H) (g : Grow m H m' H') : Keep H H' := by
  constructor
  · intro b vs e
    refine g.keep b _ e fun hb => ?_
    obtain ⟨ws, e'⟩ := hr.mem hb
    rw [e] at e'; cases e'
  · intro b o u e
    refine g.keep b _ e fun hb => ?_
    obtain ⟨ws, e'⟩ := hr.mem hb
    rw [e] at e'; cases e'
theorem Keep.refl : Keep H H := ⟨fun _ _ e => e, fun _ _ _ e => e⟩
theorem Keep.trans (x : Keep H H1) (y : Keep H1 H2) : Keep H H2 := ⟨fun a vs e => y.1 a vs (x.1 a vs e), fun a o u e => y.2 a o u (x.2 a o u e)⟩
theorem Grow.refl : Grow m H m H := ⟨⟨[], by simp, by simp⟩, fun _ _ e _ => e, fun _ o e => ⟨o, e⟩⟩
theorem Grow.free (g : Grow m H m' H') {b : Addr} (e : H' b = none) : H b = none := by
  cases q : H b with
  | none => rfl
  | some o =>
    obtain ⟨o', e'⟩ := g.there b o q
    rw [e] at e'; cases e'
theorem Grow.trans (x : Grow m H m1 H1) (y : Grow m1 H1 m2 H2) : Grow m H m2 H2 := by
  obtain ⟨e1, rfl, n1⟩ := x.ext
  obtain ⟨e2, rfl, n2⟩ := y.ext
  refine ⟨⟨e1 ++ e2, by simp, fun b hb => ?_⟩, fun b o e hn => ?_, fun b o e => ?_⟩
  · rcases List.mem_append.mp hb with z | z
    · exact n1 b z
    · exact x.free (n2 b z)
  · refine y.keep b o (x.keep b o e hn) fun hb => ?_
    rcases List.mem_append.mp hb with z | z
    · exact hn z
    · rw [n1 b z] at e; cases e
  · obtain ⟨o', e'⟩ := x.there b o e
    exact y.there b o' e'
theorem Grow.get (g : Grow m H m' H') {i : Nat} (e : m[i]? = some a) : m'[i]? = some a := by
  obtain ⟨e1, rfl, _⟩ := g.ext
  have hi : i < m.length := (List.getElem?_eq_some_iff.mp e).1
  rw [List.getElem?_append_left hi]; exact e
theorem Grow.sub (g : Grow m H m' H') (ha : a ∉ m') : a ∉ m := by
  obtain ⟨e1, rfl, _⟩ := g.ext
  exact fun z => ha (List.mem_append_left _ z)
theorem Grow.notin (g : Grow m H m' H') (ha : a ∉ m) {o : HO} (e : H a = some o) : a ∉ m' := by
  obtain ⟨e1, rfl, n⟩ := g.ext
  intro z
  rcases List.mem_append.mp z with z | z
  · exact ha z
  · rw [n a z] at e; cases e
theorem SqT.keeps {vs : List V} (k : Keep H H') (x : SqT K H a vs) : SqT K H' a vs := by
  rcases x with x | x
  · rcases x with x | ⟨o, x⟩
    · exact .inl (.inl (k.1 a vs x))
    · exact .inl (.inr ⟨o, k.2 a o _ x⟩)
  · exact .inr x
theorem RoL.keeps {vs : List V} (k : Keep H H') (x : RoL K H a vs) : RoL K H' a vs := by
  rcases x with ⟨o, x⟩ | x
  · exact .inl ⟨o, k.2 a o _ x⟩
  · exact .inr x
mutual
theorem dp_keeps (k : Keep H H') : ∀ (x : D) (v : V), Dp K H v x.py → Dp K H' v x.py
  | .non, v, h => by
    simp only [D.py] at h ⊢
    cases h; exact .non
  | .bl b, v, h => by
    simp only [D.py] at h ⊢
    cases h; exact .bl _
  | .int i, v, h => by
    simp only [D.py] at h ⊢
    cases h; exact .int _
  | .str s, v, h => by
    simp only [D.py] at h ⊢
    cases h; exact .str _
  | .tup xs, v, h => by
    simp only [D.py] at h ⊢
    cases h with
    | tup s al => exact .tup (SqT.keeps k s) (dps_keeps k xs _ al)
theorem dps_keeps (k : Keep H H') : ∀ (xs : List D) (vs : List V), DpAll K H vs (D.pys xs) → DpAll K H' vs (D.pys xs)
  | [], vs, h => by
    simp only [D.pys] at h ⊢
    cases h; exact .nil
  | x :: xs, vs, h => by
    simp only [D.pys] at h ⊢
    cases h with
    | cons a b => exact .cons (dp_keeps k x _ a) (dps_keeps k xs _ b)
end
theorem UR.grow (hr : HR K m h H) (g : Grow m H m' H') {u : U} (x : UR K m H v u) : UR K m' H' v u := by
  cases u with
  | d y => exact dp_keeps (g.keeps hr) y v x
  | obj i => obtain ⟨a, e, e2⟩ := x; exact ⟨a, g.get e, e2⟩
  | tmp o => exact x
  | ro xs =>
    obtain ⟨a, vs, e, r, d⟩ := x
    exact ⟨a, vs, e, RoL.keeps (g.keeps hr) r, dps_keeps (g.keeps hr) xs vs d⟩
theorem MOk.grow (hr : HR K m h H) (g : Grow m H m' H') (ha : a ∉ m) {o : MO} (x : MOk K H a o) : MOk K H' a o := by
  cases o with
  | lst xs =>
    obtain ⟨vs, e, d⟩ := x
    exact ⟨vs, g.keep a _ e ha, dps_keeps (g.keeps hr) xs vs d⟩
theorem VR.grow (hr : HR K m h H) (g : Grow m H m' H') {u : U} (x : VR K H0 m H v u) : VR K H0 m' H' v u := by
  cases u with
  | d y => exact UR.grow hr g (u := .d y) x
  | obj i => exact UR.grow hr g (u := .obj i) x
  | ro xs => exact UR.grow hr g (u := .ro xs) x
  | tmp o =>
    obtain ⟨a, e, hn, h0, k⟩ := x
    obtain ⟨vs, ea⟩ := k.lst_of
    exact ⟨a, e, g.notin hn ea, h0, k.grow hr g hn⟩
theorem VR.older {u : U} (x : VR K H1 m H v u) (hh : ∀ b, H1 b = none → H0 b = none) : VR K H0 m H v u := by
  cases u with
  | d y => exact x
  | obj i => exact x
  | ro xs => exact x
  | tmp o => obtain ⟨a, e, hn, h0, k⟩ := x; exact ⟨a, e, hn, hh _ h0, k⟩
theorem EnvR.grow {σ : St} {ρ : Rho} (hr : HR K m h H) (g : Grow m H m' H') (x : EnvR K m H σ ρ) : EnvR K m' H' σ ρ :=
  ⟨x.len, fun i u e => let ⟨v, e1, r⟩ := x.at_ i u e; ⟨v, e1, r.grow hr g⟩⟩
theorem UR.of_VR {u : U} (x : VR K H0 m H v u) (hu : ∀ o, u ≠ .tmp o) : UR K m H v u := by
  cases u with
  | d y => exact x
  | obj i => exact x
  | ro xs => exact x
  | tmp o => exact absurd rfl (hu o)
end

/-! ### what is wanted of a result -/
section
variable {α β : Type}
def XR (K : PySem.W.Frag) (H : Hp) (c : String) (x : D) (cls : Value) (dd : Option Addr) : Prop := False
def Fin (K : PySem.W.Frag) (W : XK) (rel : Hp → List Addr → Hp → β → α → Prop) (m : List Addr) (H : Hp) (r : R α) (Q : β → Hp → Prop) : Prop :=
  match r with
  | .ok a h' => ∀ b H' m', Grow m H m' H' → HR K m' h' H' → rel H m' H' b a → Q b H'
  | .exc c x h' => ∀ cls dd H' m', Grow m H m' H' → HR K m' h' H' → XR K H' c x cls dd → W cls dd H'
  | .stuck => False
end
abbrev relV (K : PySem.W.Frag) : Hp → List Addr → Hp → V → U → Prop := fun H0 m H v u => VR K H0 m H v u
abbrev relEq {α : Type} : Hp → List Addr → Hp → α → α → Prop := fun _ _ _ b a => b = a
/-- results that can be seen from an elder heap -/
def Old {α β : Type} (rel : Hp → List Addr → Hp → β → α → Prop) : Prop := ∀ H0 H1 m H b a, (∀ x, H1 x = none → H0 x = none) → rel H1 m H b a → rel H0 m H b a
theorem old_V {K : PySem.W.Frag} : Old (relV K) := fun H0 H1 m H b a hh x => VR.older x hh
theorem old_eq {α : Type} : Old (relEq (α := α)) := fun _ _ _ _ _ _ _ x => x
section
variable {α β γ δ : Type} {K : PySem.W.Frag} {W : XK} {m m1 : List Addr} {H H1 : Hp} {h1 : Hs}
theorem Fin.shift {rel : Hp → List Addr → Hp → β → α → Prop} (o : Old rel) (g : Grow m H m1 H1) {r : R α} {Q : β → Hp → Prop} (f : Fin K W rel m H r Q) : Fin K W rel m1 H1 r Q := by
  cases r with
  | ok a h' => exact fun b H' m' g' hr' x => f b H' m' (g.trans g') hr' (o _ _ _ _ _ _ (fun z e => g.free e) x)
  | exc c x h' => exact fun cls dd H' m' g' hr' y => f cls dd H' m' (g.trans g') hr' y
  | stuck => exact f
theorem Fin.bind {rel1 : Hp → List Addr → Hp → β → α → Prop} {rel2 : Hp → List Addr → Hp → δ → γ → Prop} (o : Old rel2) {r : R α} {f : α → Hs → R γ} {Q : δ → Hp → Prop} (x : Fin K W rel2 m H (r.bind f) Q) :
    Fin K W rel1 m H r fun b H1 => ∃ m1 h1 a, Grow m H m1 H1 ∧ HR K m1 h1 H1 ∧ rel1 H m1 H1 b a ∧ Fin K W rel2 m1 H1 (f a h1) Q := by
  cases r with
  | ok a h' => exact fun b H' m' g hr y => ⟨m', h', a, g, hr, y, Fin.shift o g x⟩
  | exc c y h' => exact x
  | stuck => exact x
theorem Fin.imp {rel : Hp → List Addr → Hp → β → α → Prop} {r : R α} {Q Q' : β → Hp → Prop} (x : Fin K W rel m H r Q) (h : ∀ b H', Q b H' → Q' b H') : Fin K W rel m H r Q' := by
  cases r with
  | ok a h' => exact fun b H' m' g hr y => h b H' (x b H' m' g hr y)
  | exc c y h' => exact x
  | stuck => exact x
theorem Fin.ok {rel : Hp → List Addr → Hp → β → α → Prop} {a : α} {h : Hs} {Q : β → Hp → Prop} {b : β} (hr : HR K m h H) (x : Fin K W rel m H (.ok a h) Q) (y : rel H m H b a) : Q b H := x b H m Grow.refl hr y
end

/-! ### the readings -/
def tE (K : PySem.W.Frag) (W : WX) (d : Den) : TE := fun σ H Q => ∃ ρ m h, EnvR K m H σ ρ ∧ HR K m h H ∧ Fin K (fun cls dd H' => W cls dd σ H') (relV K) m H (d.v ρ h) Q
def tT (K : PySem.W.Frag) (W : WX) (d : Den) : TT := fun σ H Q => ∃ ρ m h, EnvR K m H σ ρ ∧ HR K m h H ∧ Fin K (fun cls dd H' => W cls dd σ H') relEq m H (d.t ρ h) Q
theorem PE.imp {X : Cx} {e : Expr} {t t' : TE} (h : PE X e t) (i : ∀ σ H Q, t' σ H Q → t σ H Q) : PE X e t' := ⟨fun pins s σ H Q I q => h.run pins s σ H Q I (i σ H Q q)⟩
theorem PT.imp {X : Cx} {e : Expr} {t t' : TT} (h : PT X e t) (i : ∀ σ H Q, t' σ H Q → t σ H Q) : PT X e t' := ⟨fun pins s σ H Q I q => h.run pins s σ H Q I (i σ H Q q)⟩
theorem PS.imp {X : Cx} {e : Stmt} {t t' : TS} (h : PS X e t) (i : ∀ D σ H, t' D σ H → t D σ H) : PS X e t' := ⟨fun pins s σ H D I q => h.run pins s σ H D I (i D σ H q)⟩
theorem PSs.imp {X : Cx} {e : List Stmt} {t t' : TS} (h : PSs X e t) (i : ∀ D σ H, t' D σ H → t D σ H) : PSs X e t' := ⟨fun pins s σ H D I q => h.run pins s σ H D I (i D σ H q)⟩
theorem PA.imp {X : Cx} {e : List Expr} {t t' : TA} (h : PA X e t) (i : ∀ σ H Q, t' σ H Q → t σ H Q) : PA X e t' := ⟨fun pos pins s σ H Q I q => h.run pos pins s σ H Q I (i σ H Q q)⟩

/-- an expression's reading; a test's -/
def SE (X : Cx) (W : WX) (e : Expr) (d : Den) : Prop := PE X e (tE X.K W d)
def ST (X : Cx) (W : WX) (e : Expr) (d : Den) : Prop := PT X e (tT X.K W d)
end EV
end

section
set_option Elab.async false
set_option linter.all false
set_option autoImplicit false
set_option maxRecDepth 100000
/-! EV, part C: the reading of expressions is right. -/
namespace EV
open PySem PySem.Spec L2

section
variable {K : PySem.W.Frag} {m m' : List Addr} {H H' H0 : Hp} {h h' : Hs} {v : V} {p : Addr} {o : HO}
theorem UR.VR {u : U} (x : UR K m H v u) : VR K H0 m H v u := by
  cases u with
  | d y => exact x
  | obj i => exact x
  | ro xs => exact x
  | tmp o => exact False.elim x
abbrev VA (K : PySem.W.Frag) (m : List Addr) (H : Hp) (v : V) (u : U) : Prop := VR K (fun _ => none) m H v u
theorem VR.any {u : U} (x : VR K H0 m H v u) : VA K m H v u := x.older fun _ _ => rfl
theorem grow_new (hp : H p = none) : Grow m H m (upd H p o) :=
  ⟨⟨[], by simp, by simp⟩, fun a q e _ => by rw [upd_ne (ne_of_none e hp)]; exact e, fun a q e => ⟨q, by rw [upd_ne (ne_of_none e hp)]; exact e⟩⟩
theorem HR.moves (hr : HR K m h H) (k : Keep H H') (e : ∀ a ∈ m, H' a = H a) : HR K m h H' := by
  refine ⟨hr.len, hr.nd, fun i o a e1 e2 => ?_⟩
  have x := hr.at_ i o a e1 e2
  have ha : a ∈ m := List.mem_of_getElem? e2
  cases o with
  | lst xs =>
    obtain ⟨vs, q, d⟩ := x
    exact ⟨vs, (e a ha).trans q, dps_keeps k xs vs d⟩
theorem HR.new (hr : HR K m h H) (hp : H p = none) : HR K m h (upd H p o) := by
  refine hr.moves (Grow.keeps hr (grow_new hp)) fun a ha => ?_
  obtain ⟨vs, e⟩ := hr.mem ha
  exact upd_ne (ne_of_none e hp)
theorem HR.fresh (hr : HR K m h H) (hp : H p = none) : p ∉ m := fun z => by
  obtain ⟨vs, e⟩ := hr.mem z
  rw [hp] at e; cases e
theorem keep_new (hp : H p = none) : Keep H (upd H p o) :=
  ⟨fun a vs e => by rw [upd_ne (ne_of_none e hp)]; exact e, fun a q u e => by rw [upd_ne (ne_of_none e hp)]; exact e⟩
/-- a new tuple of data -/
theorem vr_tup (hr : HR K m h H) (hp : H p = none) {vs : List V} {xs : List D} (d : DpAll K H vs (D.pys xs)) : VR K H0 m (upd H p (.tup vs)) (.ref p) (.d (.tup xs)) := by
  show Dp K _ _ (D.py (.tup xs))
  simp only [D.py]
  exact .tup (SqT.of upd_same) (dps_keeps (keep_new hp) xs vs d)
/-- a new list of data -/
theorem vr_tmp (hr : HR K m h H) (hp : H p = none) {vs : List V} {xs : List D} (d : DpAll K H vs (D.pys xs)) : VR K H m (upd H p (.lst vs)) (.ref p) (.tmp (.lst xs)) :=
  ⟨p, rfl, hr.fresh hp, hp, vs, upd_same, dps_keeps (keep_new hp) xs vs d⟩
theorem dp_tup {xs : List D} (x : Dp K H v (D.py (.tup xs))) : ∃ a vs, v = .ref a ∧ SqT K H a vs ∧ DpAll K H vs (D.pys xs) := by
  simp only [D.py] at x
  cases x with
  | tup s al => exact ⟨_, _, rfl, s, al⟩
theorem dp_int {i : Int} (x : Dp K H v (D.py (.int i))) : v = .int i := by simp only [D.py] at x; cases x; rfl
theorem dp_bl {i : Bool} (x : Dp K H v (D.py (.bl i))) : v = .bl i := by simp only [D.py] at x; cases x; rfl
theorem dp_str {i : Str} (x : Dp K H v (D.py (.str i))) : v = .str i := by simp only [D.py] at x; cases x; rfl
theorem dp_non (x : Dp K H v (D.py .non)) : v = .non := by simp only [D.py] at x; cases x; rfl
theorem mk_int (i : Int) : Dp K H (.int i) (D.py (.int i)) := by simp only [D.py]; exact .int i
theorem mk_bl (i : Bool) : Dp K H (.bl i) (D.py (.bl i)) := by simp only [D.py]; exact .bl i
theorem mk_str (i : Str) : Dp K H (.str i) (D.py (.str i)) := by simp only [D.py]; exact .str i
theorem mk_non : Dp K H .non (D.py .non) := by simp only [D.py]; exact .non
theorem mk_tup {a : Addr} {vs : List V} {xs : List D} (s : SqT K H a vs) (d : DpAll K H vs (D.pys xs)) : Dp K H (.ref a) (D.py (.tup xs)) := by simp only [D.py]; exact .tup s d
theorem dps_len : ∀ {xs : List D} {vs : List V}, DpAll K H vs (D.pys xs) → vs.length = xs.length
  | [], _, h => by simp only [D.pys] at h; cases h; rfl
  | x :: xs, _, h => by
    simp only [D.pys] at h
    cases h with
    | cons a b => simp [dps_len b]
theorem dps_app : ∀ {xs ys : List D} {vs ws : List V}, DpAll K H vs (D.pys xs) → DpAll K H ws (D.pys ys) → DpAll K H (vs ++ ws) (D.pys (xs ++ ys))
  | [], _, _, _, h, h2 => by simp only [D.pys] at h; cases h; exact h2
  | x :: xs, _, _, _, h, h2 => by
    simp only [D.pys] at h
    cases h with
    | cons a b => simp only [List.cons_append, D.pys]; exact .cons a (dps_app b h2)
theorem dps_get : ∀ {xs : List D} {vs : List V} {i : Nat} {x : D}, DpAll K H vs (D.pys xs) → xs[i]? = some x → ∃ v, vs[i]? = some v ∧ Dp K H v x.py
  | [], _, _, _, _, e => by simp at e
  | y :: xs, _, 0, x, h, e => by
    simp only [D.pys] at h
    cases h with
    | cons a b => simp at e; subst e; exact ⟨_, rfl, a⟩
  | y :: xs, _, i + 1, x, h, e => by
    simp only [D.pys] at h
    cases h with
    | cons a b => simp only [List.getElem?_cons_succ] at e ⊢; exact dps_get b e
theorem dps_take : ∀ {xs : List D} {vs : List V} (n : Nat), DpAll K H vs (D.pys xs) → DpAll K H (vs.take n) (D.pys (xs.take n))
  | [], _, n, h => by simp only [D.pys] at h; cases h; simpa [D.pys] using DpAll.nil
  | x :: xs, _, 0, h => by simpa [D.pys] using DpAll.nil
  | x :: xs, _, n + 1, h => by
    simp only [D.pys] at h
    cases h with
    | cons a b => simp only [List.take_succ_cons, D.pys]; exact .cons a (dps_take n b)
theorem dps_drop : ∀ {xs : List D} {vs : List V} (n : Nat), DpAll K H vs (D.pys xs) → DpAll K H (vs.drop n) (D.pys (xs.drop n))
  | [], _, n, h => by simp only [D.pys] at h; cases h; simpa [D.pys] using DpAll.nil
  | x :: xs, _, 0, h => by simpa using h
  | x :: xs, _, n + 1, h => by
    simp only [D.pys] at h
    cases h with
    | cons a b => simp only [List.drop_succ_cons]; exact dps_drop n b
theorem dps_set : ∀ {xs : List D} {vs : List V} {v : V} {x : D} (n : Nat), DpAll K H vs (D.pys xs) → Dp K H v x.py → DpAll K H (vs.set n v) (D.pys (xs.set n x))
  | [], _, _, _, n, h, _ => by simp only [D.pys] at h; cases h; simpa [D.pys] using DpAll.nil
  | y :: xs, _, _, _, 0, h, e => by
    simp only [D.pys] at h
    cases h with
    | cons a b => simp only [List.set_cons_zero, D.pys]; exact .cons e b
  | y :: xs, _, _, _, n + 1, h, e => by
    simp only [D.pys] at h
    cases h with
    | cons a b => simp only [List.set_cons_succ, D.pys]; exact .cons a (dps_set n b e)
end

/-! ### the context -/
structure CO (X : Cx) (W : WX) : Prop where
  calm : X.calm = true
  nd : X.N.Nodup
  tk : Takes X W
  po : PassesOwn (model X.prog X.w) X.A X.env X.xe
  un : X.A.units + 200 < cLine
  gd : X.A.guards = some []

/-- an operation on two values -/
def rOp (K : PySem.W.Frag) (f : U → U → Hs → Option U) : R2 := fun x y H Q => ∃ m h u v w, HR K m h H ∧ VA K m H x u ∧ VA K m H y v ∧ f u v h = some w ∧
  ∀ z H' m', Grow m H m' H' → HR K m' h H' → VR K H m' H' z w → Q z H'
section
variable {X : Cx} {W : WX} {C : Cc}
abbrev SX (X : Cx) (W : WX) (C : Cc) (e : Expr) (ê : E) : Prop := PE X e (tE X.K W (den C ê))
abbrev TX (X : Cx) (W : WX) (C : Cc) (e : Expr) (ê : E) : Prop := PT X e (tT X.K W (den C ê))

theorem opt_some {K : PySem.W.Frag} {W : XK} {rel : Hp → List Addr → Hp → V → U → Prop} {m : List Addr} {H : Hp} {o : Option U} {h : Hs} {Q : VK} (x : Fin K W rel m H (R.opt o h) Q) : ∃ w, o = some w ∧ ∀ z H' m', Grow m H m' H' → HR K m' h H' → rel H m' H' z w → Q z H' := by
  cases o with
  | none => exact False.elim x
  | some w => exact ⟨w, rfl, fun z H' m' => x z H' m'⟩
/-- two values, then an operation -/
theorem two_of {d1 d2 : Den} {f : U → U → Hs → Option U} {σ : L2.St} {H : Hp} {Q : VK}
    (q : tE X.K W (.of fun ρ h => (d1.v ρ h).bind fun u h1 => (d2.v ρ h1).bind fun v h2 => R.opt (f u v h2) h2) σ H Q) :
    tOp (rOp X.K f) (tE X.K W d1) (tE X.K W d2) σ H Q := by
  obtain ⟨ρ, m, h, er, hr, fin⟩ := q
  refine ⟨ρ, m, h, er, hr, (Fin.bind (rel1 := relV X.K) old_V fin).imp ?_⟩
  rintro x H1 ⟨m1, h1, u, g1, hr1, r1, fin1⟩
  refine ⟨ρ, m1, h1, er.grow hr g1, hr1, (Fin.bind (rel1 := relV X.K) old_V fin1).imp ?_⟩
  rintro y H2 ⟨m2, h2, v, g2, hr2, r2, fin2⟩
  obtain ⟨w, e, q⟩ := opt_some fin2
  exact ⟨m2, h2, u, v, w, hr2, (r1.grow hr1 g2).any, r2.any, e, q⟩

/-! ### names, constants -/
theorem se_var (i : Nat) {x : Str} {pos : Pos} (hN : X.N[i]? = some x := by rfl) (hv : Vis X.env.scope x := by first | exact Or.inl rfl | exact Or.inr (Or.inl rfl) | exact Or.inr (Or.inr rfl))
    (hd : (x == ("__debug__" : Str)) = false := by decide) (hcd : (x == ("__classdict__" : Str)) = false := by decide) : SX X W C (.Name x pos) (.var i) := by
  refine PE.imp (pe_var hN hv hd hcd) fun σ H Q => ?_
  rintro ⟨ρ, m, h, er, hr, fin⟩
  have fin : Fin _ _ (relV X.K) m H (getVar i ρ h) Q := fin
  unfold getVar at fin
  split at fin
  · rename_i u e
    obtain ⟨v, e1, r⟩ := er.at_ i u e
    exact ⟨v, e1, Fin.ok hr fin r.VR⟩
  · exact False.elim fin
theorem se_non {j pos} : SX X W C (.Constant .none j pos) .non := PE.imp pe_non fun σ H Q ⟨ρ, m, h, er, hr, fin⟩ => Fin.ok (b := V.non) (a := U.d .non) hr fin mk_non
theorem se_bl {b j pos} : SX X W C (.Constant (.bool b) j pos) (.bl b) := PE.imp pe_bl fun σ H Q ⟨ρ, m, h, er, hr, fin⟩ => Fin.ok (b := V.bl b) (a := U.d (.bl b)) hr fin (mk_bl b)
theorem se_int {i j pos} : SX X W C (.Constant (.int i) j pos) (.int i) := PE.imp pe_int fun σ H Q ⟨ρ, m, h, er, hr, fin⟩ => Fin.ok (b := V.int i) (a := U.d (.int i)) hr fin (mk_int i)
theorem se_str {x j pos} : SX X W C (.Constant (.str x) j pos) (.str x) := PE.imp pe_str fun σ H Q ⟨ρ, m, h, er, hr, fin⟩ => Fin.ok (b := V.str x) (a := U.d (.str x)) hr fin (mk_str x)
/-- a module's number -/
theorem se_gvI {x : Str} {g : Nat} {i : Int} {t : Tok} {pos : Pos} (hg : Gl X x) (hm : X.mg x = some (.int i t)) (hC : C.gv g = some (.int i)) (hd : (x == ("__debug__" : Str)) = false := by decide) : SX X W C (.Name x pos) (.gv g) := by
  refine PE.imp (pe_glob hg hm (v := .int i) ⟨t, rfl⟩ hd) fun σ H Q => ?_
  rintro ⟨ρ, m, h, er, hr, fin⟩
  have fin : Fin _ _ (relV X.K) m H (gvR (C.gv g) h) Q := fin
  rw [hC] at fin
  exact Fin.ok (b := V.int i) (a := U.d (.int i)) hr fin (mk_int i)

/-! ### operators -/
theorem op_addU : OpR X (binaryOp .Add) (rOp X.K fun u v _ => addU u v) := by
  intro pins s σ H x y v u Q I rx ry ⟨m, h, a, b, w, hr, xa, yb, e, q⟩
  change addU a b = some w at e
  unfold addU at e
  split at e
  · rename_i i j
    cases e
    refine op_add pins s σ H x y v u Q I rx ry ⟨i, j, dp_int xa, dp_int yb, q _ H m Grow.refl hr (mk_int _)⟩
  · rename_i xs ys
    split at e
    · rename_i hz
      cases e
      obtain ⟨a1, vs, rfl, s1, d1⟩ := dp_tup xa
      obtain ⟨a2, ws, rfl, s2, d2⟩ := dp_tup yb
      refine op_catA pins s σ H _ _ v u Q I rx ry ⟨a1, a2, vs, ws, rfl, rfl, s1, s2, by rw [dps_len d1, dps_len d2]; exact hz, fun h1 => ?_, fun h1 h2 => ?_, fun h1 h2 p hp => ?_⟩
      · have : xs = [] := by have := dps_len d1; rw [h1] at this; exact List.eq_nil_of_length_eq_zero this.symm
        subst this
        exact q _ H m Grow.refl hr yb
      · have : ys = [] := by have := dps_len d2; rw [h2] at this; exact List.eq_nil_of_length_eq_zero this.symm
        subst this
        exact q _ H m Grow.refl hr (by rw [List.append_nil]; exact xa)
      · exact q _ _ m (grow_new hp) (hr.new hp) (vr_tup hr hp (dps_app d1 d2))
    · cases e
  · rename_i s1 s2
    split at e
    · rename_i hz
      cases e
      exact op_add_str pins s σ H x y v u Q I rx ry ⟨s1, s2, dp_str xa, dp_str yb, hz, q _ H m Grow.refl hr (mk_str _)⟩
    · cases e
  · cases e

theorem two_int {K : PySem.W.Frag} {m : List Addr} {H : Hp} {x y : V} {i j : Int} (xa : VA K m H x (.d (.int i))) (yb : VA K m H y (.d (.int j))) : x = .int i ∧ y = .int j := ⟨dp_int xa, dp_int yb⟩
/-- an operation of two ints, by the layer's rule -/
theorem op_ints {f : Value → Value → Sem Value} {Cd : Int → Int → Prop} {g : Int → Int → Int} (rule : OpR X f (rI Cd fun i j => .int (g i j))) {r : U → U → Option U}
    (hr : ∀ a b w, r a b = some w → ∃ i j, a = .d (.int i) ∧ b = .d (.int j) ∧ Cd i j ∧ w = .d (.int (g i j))) : OpR X f (rOp X.K fun u v _ => r u v) := by
  intro pins s σ H x y v u Q I rx ry ⟨m, h, a, b, w, hq, xa, yb, e, q⟩
  obtain ⟨i, j, rfl, rfl, c, rfl⟩ := hr a b w e
  exact rule pins s σ H x y v u Q I rx ry ⟨i, j, dp_int xa, dp_int yb, c, q _ H m Grow.refl hq (mk_int _)⟩
theorem op_ints0 {f : Value → Value → Sem Value} {g : Int → Int → Int} (rule : OpR X f (rI0 fun i j => .int (g i j))) {r : U → U → Option U}
    (hr : ∀ a b w, r a b = some w → ∃ i j, a = .d (.int i) ∧ b = .d (.int j) ∧ w = .d (.int (g i j))) : OpR X f (rOp X.K fun u v _ => r u v) := by
  intro pins s σ H x y v u Q I rx ry ⟨m, h, a, b, w, hq, xa, yb, e, q⟩
  obtain ⟨i, j, rfl, rfl, rfl⟩ := hr a b w e
  exact rule pins s σ H x y v u Q I rx ry ⟨i, j, dp_int xa, dp_int yb, q _ H m Grow.refl hq (mk_int _)⟩
theorem op_subU : OpR X (binaryOp .Sub) (rOp X.K fun u v _ => binU .sub u v) := op_ints0 op_sub (g := fun i j => i - j) fun a b w e => by
  simp only [binU] at e
  split at e
  · cases e; exact ⟨_, _, rfl, rfl, rfl⟩
  · cases e
theorem op_fdivU : OpR X (binaryOp .FloorDiv) (rOp X.K fun u v _ => binU .fdiv u v) := op_ints op_fdivW (g := fun i j => i / j) fun a b w e => by
  simp only [binU] at e
  split at e
  · split at e
    · rename_i i j c
      cases e
      have c' : 0 < j ∧ j < 2 ^ 1000 := c
      exact ⟨_, _, rfl, rfl, wide_div (b := 1000) c'.1 (by omega) (by omega) (by omega), rfl⟩
    · cases e
  · cases e
theorem op_modU : OpR X (binaryOp .Mod) (rOp X.K fun u v _ => binU .mod u v) := op_ints op_mod (g := fun i j => i % j) fun a b w e => by
  simp only [binU] at e
  split at e
  · split at e
    · cases e; rename_i c; exact ⟨_, _, rfl, rfl, c, rfl⟩
    · cases e
  · cases e
theorem op_powU : OpR X (binaryOp .Pow) (rOp X.K fun u v _ => binU .pow u v) := op_ints op_pow (g := fun i j => i ^ j.toNat) fun a b w e => by
  simp only [binU] at e
  split at e
  · split at e
    · cases e; rename_i c; exact ⟨_, _, rfl, rfl, c, rfl⟩
    · cases e
  · cases e
theorem op_mulI : OpR X (binaryOp .Mult) (rOp X.K fun u v _ => mulI u v) := op_ints op_mul (g := fun i j => i * j) fun a b w e => by
  simp only [mulI] at e
  split at e
  · split at e
    · cases e; rename_i c; exact ⟨_, _, rfl, rfl, c, rfl⟩
    · cases e
  · cases e

theorem se_bin {op : Operator} {o : BOp} {a b : Expr} {A B : E} {pos : Pos} (ho : OpR X (binaryOp op) (rOp X.K fun u v _ => binU o u v)) (ha : SX X W C a A) (hb : SX X W C b B) : SX X W C (.BinOp a op b pos) (.bin o A B) :=
  PE.imp (pe_op ho ha hb) fun _ _ _ q => two_of q
theorem se_add {a b : Expr} {A B : E} {pos : Pos} (ha : SX X W C a A) (hb : SX X W C b B) : SX X W C (.BinOp a .Add b pos) (.bin .add A B) := se_bin op_addU ha hb
theorem se_sub {a b : Expr} {A B : E} {pos : Pos} (ha : SX X W C a A) (hb : SX X W C b B) : SX X W C (.BinOp a .Sub b pos) (.bin .sub A B) := se_bin op_subU ha hb
theorem se_fdiv {a b : Expr} {A B : E} {pos : Pos} (ha : SX X W C a A) (hb : SX X W C b B) : SX X W C (.BinOp a .FloorDiv b pos) (.bin .fdiv A B) := se_bin op_fdivU ha hb
theorem se_mod {a b : Expr} {A B : E} {pos : Pos} (ha : SX X W C a A) (hb : SX X W C b B) : SX X W C (.BinOp a .Mod b pos) (.bin .mod A B) := se_bin op_modU ha hb
theorem se_pow {a b : Expr} {A B : E} {pos : Pos} (ha : SX X W C a A) (hb : SX X W C b B) : SX X W C (.BinOp a .Pow b pos) (.bin .pow A B) := se_bin op_powU ha hb
theorem se_neg {a : Expr} {A : E} {pos : Pos} (ha : SX X W C a A) : SX X W C (.UnaryOp .USub a pos) (.neg A) := by
  refine PE.imp (pe_un un_neg ha) fun σ H Q => ?_
  rintro ⟨ρ, m, h, er, hr, fin⟩
  refine ⟨ρ, m, h, er, hr, (Fin.bind (rel1 := relV X.K) old_V fin).imp ?_⟩
  rintro x H1 ⟨m1, h1, u, g1, hr1, r1, fin1⟩
  unfold negR at fin1
  split at fin1
  · rename_i i
    exact ⟨i, dp_int r1, Fin.ok hr1 fin1 (mk_int _)⟩
  · exact False.elim fin1

/-! ### comparisons -/
theorem dp_frz {m : List Addr} {H : Hp} {h : Hs} {v : V} {u : U} {x : PyData} (hr : HR X.K m h H) (r : VA X.K m H v u) (e : frz h u = some x) : Dp X.K H v x := by
  cases u with
  | d y => simp only [frz] at e; cases e; exact r
  | obj i =>
    obtain ⟨a, ea, rfl⟩ := r
    simp only [frz] at e
    split at e
    · rename_i xs eh
      cases e
      obtain ⟨vs, q, d⟩ := hr.at_ i _ a eh ea
      exact .lst (SqL.of q) d
    · cases e
  | tmp o =>
    obtain ⟨a, rfl, _, _, k⟩ := r
    cases o with
    | lst xs =>
      simp only [frz] at e; cases e
      obtain ⟨vs, q, d⟩ := k
      exact .lst (SqL.of q) d
  | ro xs =>
    obtain ⟨a, vs, rfl, q, d⟩ := r
    simp only [frz] at e; cases e
    exact .lst q.seq d
theorem opt_map {α β : Type} {o : Option α} {f : α → β} {b : β} (e : o.map f = some b) : ∃ a, o = some a ∧ b = f a := by
  cases o with
  | none => cases e
  | some a => cases e; exact ⟨a, rfl, rfl⟩
theorem eqU_of {a b : U} {h : Hs} {k : Bool} (e : eqG a b h = some k) : ∃ x y, frz h a = some x ∧ frz h b = some y ∧ SeqAt.shaped x = true ∧ SeqAt.shaped y = true ∧ k = PyData.eqv x y := by
  unfold eqG at e
  split at e
  · rename_i x y e1 e2
    split at e
    · rename_i c
      cases e
      exact ⟨x, y, e1, e2, c.1, c.2, rfl⟩
    · cases e
  · cases e
theorem op_eqU (hu : X.A.units + 200 < cLine) : OpR X (compareOp .Eq) (rOp X.K fun u v h => cmpU .eq u v h) := by
  intro pins s σ H x y v u Q I rx ry ⟨m, h, a, b, w, hr, xa, yb, e, q⟩
  obtain ⟨k, e1, rfl⟩ := opt_map e
  unfold eqU at e1
  split at e1
  · cases e1
    have ex := dp_str xa
    have ey := dp_str yb
    subst ex ey
    exact op_eq pins s σ H _ _ v u Q I rx ry ⟨rfl, by
      have e2 := q (.bl (decide (_ = _))) H m Grow.refl hr (mk_bl _)
      simpa only [V.str.injEq] using e2⟩
  obtain ⟨x1, y1, f1, f2, s1, s2, rfl⟩ := eqU_of e1
  exact op_eqD (by omega) pins s σ H x y v u Q I rx ry ⟨x1, y1, dp_frz hr xa f1, dp_frz hr yb f2, s1, s2, q _ H m Grow.refl hr (mk_bl _)⟩
theorem op_neU (hu : X.A.units + 200 < cLine) : OpR X (compareOp .NotEq) (rOp X.K fun u v h => cmpU .ne u v h) := by
  intro pins s σ H x y v u Q I rx ry ⟨m, h, a, b, w, hr, xa, yb, e, q⟩
  obtain ⟨k, e1, rfl⟩ := opt_map e
  unfold eqU at e1
  split at e1
  · cases e1
    have ex := dp_str xa
    have ey := dp_str yb
    subst ex ey
    exact op_ne pins s σ H _ _ v u Q I rx ry ⟨rfl, by
      have e2 := q (.bl (!decide (_ = _))) H m Grow.refl hr (mk_bl _)
      simpa only [V.str.injEq] using e2⟩
  obtain ⟨x1, y1, f1, f2, s1, s2, rfl⟩ := eqU_of e1
  exact op_neD (by omega) pins s σ H x y v u Q I rx ry ⟨x1, y1, dp_frz hr xa f1, dp_frz hr yb f2, s1, s2, q _ H m Grow.refl hr (mk_bl _)⟩
theorem op_cmpI {f : Value → Value → Sem Value} {g : Int → Int → Bool} (rule : OpR X f (rI0 fun i j => .bl (g i j))) : OpR X f (rOp X.K fun u v _ => cmpI g u v) := by
  intro pins s σ H x y v u Q I rx ry ⟨m, h, a, b, w, hr, xa, yb, e, q⟩
  change cmpI g a b = some w at e
  unfold cmpI at e
  split at e
  · rename_i i j
    cases e
    exact rule pins s σ H x y v u Q I rx ry ⟨i, j, dp_int xa, dp_int yb, q _ H m Grow.refl hr (mk_bl _)⟩
  · cases e
theorem isNon_of {m : List Addr} {H : Hp} {v : V} {u : U} {K : PySem.W.Frag} (r : VA K m H v u) : decide (v = .non) = isNonU u := by
  cases u with
  | d y =>
    have r : Dp K H v y.py := r
    cases y with
    | non => rw [dp_non r]; rfl
    | bl b => rw [dp_bl r]; rfl
    | int b => rw [dp_int r]; rfl
    | str b => rw [dp_str r]; rfl
    | tup b => obtain ⟨a, vs, rfl, _⟩ := dp_tup r; rfl
  | obj i => obtain ⟨a, _, rfl⟩ := r; rfl
  | tmp o => obtain ⟨a, rfl, _⟩ := r; rfl
  | ro xs => obtain ⟨a, vs, rfl, _⟩ := r; rfl
theorem op_isU : OpR X (compareOp .Is) (rOp X.K fun u v h => cmpU .is_ u v h) := by
  intro pins s σ H x y v u Q I rx ry ⟨m, h, a, b, w, hr, xa, yb, e, q⟩
  simp only [cmpU] at e
  split at e
  · cases e
    exact op_isN pins s σ H x y v u Q I rx ry ⟨dp_non yb, by rw [isNon_of xa]; exact q _ H m Grow.refl hr (mk_bl _)⟩
  · cases e
theorem op_isntU : OpR X (compareOp .IsNot) (rOp X.K fun u v h => cmpU .isnt u v h) := by
  intro pins s σ H x y v u Q I rx ry ⟨m, h, a, b, w, hr, xa, yb, e, q⟩
  simp only [cmpU] at e
  split at e
  · cases e
    exact op_notN pins s σ H x y v u Q I rx ry ⟨dp_non yb, by rw [isNon_of xa]; exact q _ H m Grow.refl hr (mk_bl _)⟩
  · cases e
theorem inU_of {a b : U} {h : Hs} {k : Bool} (e : inU a b h = some k) : ∃ x ys, frz h a = some x ∧ SeqAt.shaped x = true ∧ k = (ys.any fun z => PyData.eqv z x) ∧
    ((frz h b = some (.list ys) ∧ SeqAt.shaped (.list ys) = true) ∨ (frz h b = some (.tuple ys) ∧ SeqAt.shaped (.tuple ys) = true)) := by
  unfold inU at e
  split at e
  · rename_i x ys e1 e2
    split at e
    · rename_i c; cases e; exact ⟨x, ys, e1, c.1, rfl, .inl ⟨e2, c.2⟩⟩
    · cases e
  · rename_i x ys e1 e2
    split at e
    · rename_i c; cases e; exact ⟨x, ys, e1, c.1, rfl, .inr ⟨e2, c.2⟩⟩
    · cases e
  · cases e
theorem op_inU (hu : X.A.units + 200 < cLine) : OpR X (compareOp .In) (rOp X.K fun u v h => cmpU .in_ u v h) := by
  intro pins s σ H x y v u Q I rx ry ⟨m, h, a, b, w, hr, xa, yb, e, q⟩
  obtain ⟨k, e1, rfl⟩ := opt_map e
  obtain ⟨x1, ys, f1, s1, rfl, ⟨f2, s2⟩ | ⟨f2, s2⟩⟩ := inU_of e1
  · exact op_inD (by omega) pins s σ H x y v u Q I rx ry ⟨x1, ys, dp_frz hr xa f1, dp_frz hr yb f2, s1, s2, q _ H m Grow.refl hr (mk_bl _)⟩
  · obtain ⟨as, r1⟩ := Dp.reads I x1 x v (dp_frz hr xa f1) rx
    obtain ⟨bs, r2⟩ := Dp.reads I (.tuple ys) y u (dp_frz hr yb f2) ry
    exact SeqAt.in_tuple_reads r2 r1 (SeqAt.canLay_of_shaped s2) (SeqAt.canLay_of_shaped s1) (PyProof.Rows.room_in_shaped s1 (by omega)) ⟨.bl _, H, I, rfl, q _ H m Grow.refl hr (mk_bl _)⟩
theorem op_ninU (hu : X.A.units + 200 < cLine) : OpR X (compareOp .NotIn) (rOp X.K fun u v h => cmpU .nin u v h) := by
  intro pins s σ H x y v u Q I rx ry ⟨m, h, a, b, w, hr, xa, yb, e, q⟩
  obtain ⟨k, e1, rfl⟩ := opt_map e
  obtain ⟨x1, ys, f1, s1, rfl, ⟨f2, s2⟩ | ⟨f2, s2⟩⟩ := inU_of e1
  · exact op_notInD (by omega) pins s σ H x y v u Q I rx ry ⟨x1, ys, dp_frz hr xa f1, dp_frz hr yb f2, s1, s2, q _ H m Grow.refl hr (mk_bl _)⟩
  · obtain ⟨as, r1⟩ := Dp.reads I x1 x v (dp_frz hr xa f1) rx
    obtain ⟨bs, r2⟩ := Dp.reads I (.tuple ys) y u (dp_frz hr yb f2) ry
    exact SeqAt.notIn_tuple_reads r2 r1 (SeqAt.canLay_of_shaped s2) (SeqAt.canLay_of_shaped s1) (PyProof.Rows.room_in_shaped s1 (by omega)) ⟨.bl _, H, I, rfl, q _ H m Grow.refl hr (mk_bl _)⟩
theorem bl_of {m : List Addr} {H H0 : Hp} {v : V} {K : PySem.W.Frag} {b : Bool} (r : VR K H0 m H v (.d (.bl b))) : v = .bl b := dp_bl r
/-- which comparison it is -/
inductive CmpIs : CmpOp → COp → Prop where
  | eq : CmpIs .Eq .eq | ne : CmpIs .NotEq .ne | lt : CmpIs .Lt .lt | le : CmpIs .LtE .le | gt : CmpIs .Gt .gt | ge : CmpIs .GtE .ge
  | is_ : CmpIs .Is .is_ | isnt : CmpIs .IsNot .isnt | in_ : CmpIs .In .in_ | nin : CmpIs .NotIn .nin
theorem cmp_is {op : CmpOp} {o : COp} (co : CO X W) (h : CmpIs op o) : OpR X (compareOp op) (rOp X.K fun u v h => cmpU o u v h) := by
  cases h with
  | eq => exact op_eqU co.un
  | ne => exact op_neU co.un
  | lt => exact op_cmpI op_lt
  | le => exact op_cmpI op_le
  | gt => exact op_cmpI op_gt
  | ge => exact op_cmpI op_ge
  | is_ => exact op_isU
  | isnt => exact op_isntU
  | in_ => exact op_inU co.un
  | nin => exact op_ninU co.un
theorem se_cmp {op : CmpOp} {o : COp} {a b : Expr} {A B : E} {pos : Pos} (ho : CmpIs op o) (co : CO X W) (ha : SX X W C a A) (hb : SX X W C b B)
    (hm : behindInMarks op b = false := by rfl) : SX X W C (.Compare a [op] [b] pos) (.cmp o A B) :=
  PE.imp (pe_cmpR (cmp_is co ho) ha hb hm) fun _ _ _ q => two_of q
theorem R.assoc {α β γ : Type} (r : R α) (f : α → Hs → R β) (g : β → Hs → R γ) : (r.bind f).bind g = r.bind fun a h => (f a h).bind g := by cases r <;> rfl
theorem cmpU_bl {o : COp} {u v w : U} {h : Hs} (e : cmpU o u v h = some w) : ∃ k, w = .d (.bl k) := by
  have ci : ∀ {g : Int → Int → Bool}, cmpI g u v = some w → ∃ k, w = .d (.bl k) := fun {g} e => by
    unfold cmpI at e
    split at e
    · cases e; exact ⟨_, rfl⟩
    · cases e
  cases o with
  | eq => obtain ⟨k, _, rfl⟩ := opt_map e; exact ⟨_, rfl⟩
  | ne => obtain ⟨k, _, rfl⟩ := opt_map e; exact ⟨_, rfl⟩
  | lt => exact ci e
  | le => exact ci e
  | gt => exact ci e
  | ge => exact ci e
  | is_ =>
    simp only [cmpU] at e
    split at e
    · cases e; exact ⟨_, rfl⟩
    · cases e
  | isnt =>
    simp only [cmpU] at e
    split at e
    · cases e; exact ⟨_, rfl⟩
    · cases e
  | in_ => obtain ⟨k, _, rfl⟩ := opt_map e; exact ⟨_, rfl⟩
  | nin => obtain ⟨k, _, rfl⟩ := opt_map e; exact ⟨_, rfl⟩
theorem opt_truth {K : PySem.W.Frag} {W : XK} {m : List Addr} {H : Hp} {o : Option U} {h : Hs} {Q : Bool → Hp → Prop} (hb : ∀ w, o = some w → ∃ k, w = .d (.bl k))
    (x : Fin K W relEq m H ((R.opt o h).bind truthR) Q) : ∃ w, o = some w ∧ ∀ z H' m', Grow m H m' H' → HR K m' h H' → VR K H m' H' z w → ∃ k, z = .bl k ∧ Q k H' := by
  cases o with
  | none => exact False.elim x
  | some w =>
    obtain ⟨k, rfl⟩ := hb w rfl
    exact ⟨_, rfl, fun z H' m' g hr r => ⟨k, bl_of r, x k H' m' g hr rfl⟩⟩
theorem two_ofT {d1 d2 : Den} {f : U → U → Hs → Option U} (hf : ∀ u v h w, f u v h = some w → ∃ k, w = .d (.bl k)) {σ : L2.St} {H : Hp} {Q : Bool → Hp → Prop}
    (q : tT X.K W (.of fun ρ h => (d1.v ρ h).bind fun u h1 => (d2.v ρ h1).bind fun v h2 => R.opt (f u v h2) h2) σ H Q) :
    tTest (tOp (rOp X.K f) (tE X.K W d1) (tE X.K W d2)) σ H Q := by
  obtain ⟨ρ, m, h, er, hr, fin⟩ := q
  change Fin _ _ relEq m H (((d1.v ρ h).bind fun u h1 => (d2.v ρ h1).bind fun v h2 => R.opt (f u v h2) h2).bind truthR) Q at fin
  rw [R.assoc] at fin
  refine ⟨ρ, m, h, er, hr, (Fin.bind (rel1 := relV X.K) old_eq fin).imp ?_⟩
  rintro x H1 ⟨m1, h1, u, g1, hr1, r1, fin1⟩
  rw [R.assoc] at fin1
  refine ⟨ρ, m1, h1, er.grow hr g1, hr1, (Fin.bind (rel1 := relV X.K) old_eq fin1).imp ?_⟩
  rintro y H2 ⟨m2, h2, v, g2, hr2, r2, fin2⟩
  obtain ⟨w, e, q⟩ := opt_truth (hf u v h2) fin2
  exact ⟨m2, h2, u, v, w, hr2, (r1.grow hr1 g2).any, r2.any, e, q⟩
theorem st_cmp {op : CmpOp} {o : COp} {a b : Expr} {A B : E} {pos : Pos} (ho : CmpIs op o) (co : CO X W) (ha : SX X W C a A) (hb : SX X W C b B)
    (hm : behindInMarks op b = false := by rfl) : TX X W C (.Compare a [op] [b] pos) (.cmp o A B) :=
  PT.imp (pt_cmpR (cmp_is co ho) ha hb hm) fun _ _ _ q => two_ofT (fun _ _ _ _ e => cmpU_bl e) q
/-! chains -/
theorem onBlO_of {K : PySem.W.Frag} {W : XK} {α β : Type} {rel : Hp → List Addr → Hp → β → α → Prop} {o : Option U} {k : Bool → R U} {g : U → Hs → R α} {m : List Addr} {H : Hp} {Q : β → Hp → Prop}
    (x : Fin K W rel m H ((onBlO o k).bind g) Q) : ∃ b, o = some (.d (.bl b)) ∧ Fin K W rel m H ((k b).bind g) Q := by
  unfold onBlO at x
  split at x
  · exact ⟨_, rfl, x⟩
  · exact False.elim x
theorem bind_ok {α : Type} (r : R α) : r.bind (fun a h => .ok a h) = r := by cases r <;> rfl
theorem chain_of {α : Type} {d1 d2 d3 : Den} {f g : U → U → Hs → Option U} {rel : Hp → List Addr → Hp → α → α → Prop} {σ : L2.St} {H : Hp} {Q : V → Hp → Prop} {ρ : Rho} {m : List Addr} {h : Hs} (er : EnvR X.K m H σ ρ) (hr : HR X.K m h H)
    (fin : Fin X.K (fun cls dd H' => W cls dd σ H') (relV X.K) m H ((d1.v ρ h).bind fun u h1 => (d2.v ρ h1).bind fun v h2 => onBlO (f u v h2) fun k => if k = true then (d3.v ρ h2).bind fun w h3 => R.opt (g v w h3) h3 else .ok (.d (.bl false)) h2) Q) :
    tChain (rOp X.K f) (rOp X.K g) (tE X.K W d1) (tE X.K W d2) (tE X.K W d3) σ H Q := by
  refine ⟨ρ, m, h, er, hr, (Fin.bind (rel1 := relV X.K) old_V fin).imp ?_⟩
  rintro x H1 ⟨m1, h1, u, g1, hr1, r1, fin1⟩
  refine ⟨ρ, m1, h1, er.grow hr g1, hr1, (Fin.bind (rel1 := relV X.K) old_V fin1).imp ?_⟩
  rintro y H2 ⟨m2, h2, v, g2, hr2, r2, fin2⟩
  have er2 := (er.grow hr g1).grow hr1 g2
  rw [← bind_ok (onBlO _ _)] at fin2
  obtain ⟨b, eb, fin2⟩ := onBlO_of fin2
  refine ⟨m2, h2, u, v, _, hr2, (r1.grow hr1 g2).any, r2.any, eb, fun z H3 m3 g3 hr3 r3 => ⟨b, bl_of r3, ?_⟩⟩
  rw [bind_ok] at fin2
  have fin3 := fin2.shift old_V g3
  cases b with
  | false => exact Fin.ok (b := V.bl false) (a := U.d (.bl false)) hr3 fin3 (mk_bl false)
  | true =>
    refine ⟨ρ, m3, h2, er2.grow hr2 g3, hr3, (Fin.bind (rel1 := relV X.K) old_V fin3).imp ?_⟩
    rintro z4 H4 ⟨m4, h4, w, g4, hr4, r4, fin4⟩
    obtain ⟨w', e, q⟩ := opt_some fin4
    exact ⟨m4, h4, v, w, w', hr4, ((r2.grow hr2 g3).grow hr3 g4).any, r4.any, e, q⟩
theorem se_cmp2 {op op' : CmpOp} {o o' : COp} {a b c : Expr} {A B D' : E} {pos : Pos} (ho : CmpIs op o) (ho' : CmpIs op' o') (co : CO X W) (ha : SX X W C a A) (hb : SX X W C b B) (hc : SX X W C c D')
    (hm : lastMarks [op, op'] [b, c] = false := by with_unfolding_all rfl) : SX X W C (.Compare a [op, op'] [b, c] pos) (.cmp2 o o' A B D') :=
  PE.imp (pe_chain (cmp_is co ho) (cmp_is co ho') ha hb hc hm) fun _ _ _ ⟨_, _, _, er, hr, fin⟩ => chain_of (α := V) (rel := fun _ _ _ _ _ => True) er hr fin

/-! ### truth -/
theorem truthU_of {m : List Addr} {H : Hp} {h : Hs} {v : V} {u : U} {k : Bool} (hr : HR X.K m h H) (r : VA X.K m H v u) (e : truthU u h = some k) : TruV X.K v H k := by
  have emp : ∀ {xs : List D} {vs : List V}, DpAll X.K H vs (D.pys xs) → (!xs.isEmpty) = !vs.isEmpty := fun {xs vs} d => by
    have := dps_len d
    cases xs <;> cases vs <;> simp_all
  unfold truthU at e
  split at e
  · cases e; rw [dp_non r]; rfl
  · cases e; rw [dp_bl r]; rfl
  · cases e; rw [dp_int r]; rfl
  · cases e
    obtain ⟨a, vs, rfl, s, d⟩ := dp_tup r
    exact .inr (.inl ⟨vs, s, emp d⟩)
  · rename_i i
    split at e
    · rename_i xs eh
      cases e
      obtain ⟨a, ea, rfl⟩ := r
      obtain ⟨vs, q, d⟩ := hr.at_ i _ a eh ea
      exact .inl ⟨vs, SqL.of q, emp d⟩
    · cases e
  · cases e
    obtain ⟨a, rfl, _, _, vs, q, d⟩ := r
    exact .inl ⟨vs, SqL.of q, emp d⟩
  · cases e
    obtain ⟨a, vs, rfl, q, d⟩ := r
    exact .inl ⟨vs, q.seq, emp d⟩
  · cases e
/-- a value's truth: for names, calls, subscripts ..: he by fun _ => rfl -/
theorem st_val {a : Expr} {A : E} (hd : (den C A).t = fun ρ h => ((den C A).v ρ h).bind truthR) (ha : SX X W C a A) (he : ∀ whole, isTrue a X.env whole = (do let v ← whole; standAt a.pos; holding [v] (truthy v)) := by intro _; rfl) : TX X W C a A := by
  refine PT.imp (pt_truth ha he) fun σ H Q => ?_
  rintro ⟨ρ, m, h, er, hr, fin⟩
  rw [hd] at fin
  refine ⟨ρ, m, h, er, hr, (Fin.bind (rel1 := relV X.K) old_eq fin).imp ?_⟩
  rintro x H1 ⟨m1, h1, u, g1, hr1, r1, fin1⟩
  unfold truthR at fin1
  split at fin1
  · rename_i k ek
    exact ⟨k, truthU_of hr1 r1.any ek, Fin.ok hr1 fin1 rfl⟩
  · exact False.elim fin1
theorem st_not {a : Expr} {A : E} {pos : Pos} (ha : TX X W C a A) : TX X W C (.UnaryOp .Not a pos) (.not A) := by
  refine PT.imp (pt_not ha) fun σ H Q => ?_
  rintro ⟨ρ, m, h, er, hr, fin⟩
  refine ⟨ρ, m, h, er, hr, (Fin.bind (rel1 := relEq) old_eq fin).imp ?_⟩
  rintro x H1 ⟨m1, h1, k, g1, hr1, rfl, fin1⟩
  exact Fin.ok hr1 fin1 rfl
theorem tAnd_of {d1 d2 : Den} {σ : L2.St} {H : Hp} {Q : Bool → Hp → Prop} {ρ : Rho} {m : List Addr} {h : Hs} (er : EnvR X.K m H σ ρ) (hr : HR X.K m h H)
    (fin : Fin X.K (fun cls dd H' => W cls dd σ H') relEq m H ((d1.t ρ h).bind fun k h1 => if k = true then d2.t ρ h1 else .ok false h1) Q) : tAnd (tT X.K W d1) (tT X.K W d2) σ H Q := by
  refine ⟨ρ, m, h, er, hr, (Fin.bind (rel1 := relEq) old_eq fin).imp ?_⟩
  rintro x H1 ⟨m1, h1, k, g1, hr1, rfl, fin1⟩
  cases x with
  | true => exact ⟨ρ, m1, h1, er.grow hr g1, hr1, fin1⟩
  | false => exact Fin.ok (b := false) (a := false) hr1 fin1 rfl
theorem tOr_of {d1 d2 : Den} {σ : L2.St} {H : Hp} {Q : Bool → Hp → Prop} {ρ : Rho} {m : List Addr} {h : Hs} (er : EnvR X.K m H σ ρ) (hr : HR X.K m h H)
    (fin : Fin X.K (fun cls dd H' => W cls dd σ H') relEq m H ((d1.t ρ h).bind fun k h1 => if k = true then .ok true h1 else d2.t ρ h1) Q) : tOr (tT X.K W d1) (tT X.K W d2) σ H Q := by
  refine ⟨ρ, m, h, er, hr, (Fin.bind (rel1 := relEq) old_eq fin).imp ?_⟩
  rintro x H1 ⟨m1, h1, k, g1, hr1, rfl, fin1⟩
  cases x with
  | false => exact ⟨ρ, m1, h1, er.grow hr g1, hr1, fin1⟩
  | true => exact Fin.ok (b := true) (a := true) hr1 fin1 rfl
/-- a test whatever its whole is -/
abbrev WX' (X : Cx) (W : WX) (C : Cc) (e : Expr) (ê : E) : Prop := PW X e (tT X.K W (den C ê))
theorem PW.imp {e : Expr} {t t' : TT} (h : PW X e t) (i : ∀ σ H Q, t' σ H Q → t σ H Q) : PW X e t' := ⟨fun wh pins s σ H Q I q => h.run wh pins s σ H Q I (i σ H Q q)⟩
theorem sw_and1 {a : Expr} {A : E} {pos : Pos} (ha : TX X W C a A) : WX' X W C (.BoolOp .And [a] pos) A := pw_and1 ha
theorem sw_or1 {a : Expr} {A : E} {pos : Pos} (ha : TX X W C a A) : WX' X W C (.BoolOp .Or [a] pos) A := pw_or1 ha
theorem sw_and {a b : Expr} {rest : List Expr} {A B : E} {pos : Pos} (ha : TX X W C a A) (hb : WX' X W C (.BoolOp .And (b :: rest) pos) B) : WX' X W C (.BoolOp .And (a :: b :: rest) pos) (.and A B) :=
  PW.imp (pw_and ha hb) fun _ _ _ ⟨_, _, _, er, hr, fin⟩ => tAnd_of er hr fin
theorem sw_or {a b : Expr} {rest : List Expr} {A B : E} {pos : Pos} (ha : TX X W C a A) (hb : WX' X W C (.BoolOp .Or (b :: rest) pos) B) : WX' X W C (.BoolOp .Or (a :: b :: rest) pos) (.or A B) :=
  PW.imp (pw_or ha hb) fun _ _ _ ⟨_, _, _, er, hr, fin⟩ => tOr_of er hr fin
theorem st_w {a : Expr} {A : E} (h : WX' X W C a A) : TX X W C a A := h.pt
/-! .. as values: bools -/
theorem onBl_of {K : PySem.W.Frag} {W : XK} {α β : Type} {rel : Hp → List Addr → Hp → V → U → Prop} {o : U} {k : Bool → R U} {m : List Addr} {H : Hp} {Q : V → Hp → Prop}
    (x : Fin K W rel m H (onBl o k) Q) : ∃ b, o = .d (.bl b) ∧ Fin K W rel m H (k b) Q := by
  unfold onBl at x
  split at x
  · exact ⟨_, rfl, x⟩
  · exact False.elim x
theorem se_one {op} {a : Expr} {A : E} {pos : Pos} (h : SX X W C a A) : SX X W C (.BoolOp op [a] pos) A := pe_one h
theorem se_and {a b : Expr} {rest : List Expr} {A B : E} {pos : Pos} (ha : SX X W C a A) (hb : SX X W C (.BoolOp .And (b :: rest) pos) B) : SX X W C (.BoolOp .And (a :: b :: rest) pos) (.and A B) := by
  refine PE.imp (pe_and ha hb) fun σ H Q => ?_
  rintro ⟨ρ, m, h, er, hr, fin⟩
  refine ⟨ρ, m, h, er, hr, (Fin.bind (rel1 := relV X.K) old_V fin).imp ?_⟩
  rintro x H1 ⟨m1, h1, u, g1, hr1, r1, fin1⟩
  obtain ⟨b, rfl, fin1⟩ := onBl_of (α := Unit) (β := Unit) fin1
  refine ⟨b, bl_of r1, ?_⟩
  cases b with
  | true => exact ⟨ρ, m1, h1, er.grow hr g1, hr1, fin1⟩
  | false => exact Fin.ok (b := V.bl false) (a := U.d (.bl false)) hr1 fin1 (mk_bl _)
theorem se_or {a b : Expr} {rest : List Expr} {A B : E} {pos : Pos} (ha : SX X W C a A) (hb : SX X W C (.BoolOp .Or (b :: rest) pos) B) : SX X W C (.BoolOp .Or (a :: b :: rest) pos) (.or A B) := by
  refine PE.imp (pe_or ha hb) fun σ H Q => ?_
  rintro ⟨ρ, m, h, er, hr, fin⟩
  refine ⟨ρ, m, h, er, hr, (Fin.bind (rel1 := relV X.K) old_V fin).imp ?_⟩
  rintro x H1 ⟨m1, h1, u, g1, hr1, r1, fin1⟩
  obtain ⟨b, rfl, fin1⟩ := onBl_of (α := Unit) (β := Unit) fin1
  refine ⟨b, bl_of r1, ?_⟩
  cases b with
  | false => exact ⟨ρ, m1, h1, er.grow hr g1, hr1, fin1⟩
  | true => exact Fin.ok (b := V.bl true) (a := U.d (.bl true)) hr1 fin1 (mk_bl _)
theorem se_not {a : Expr} {A : E} {pos : Pos} (ha : SX X W C a A) : SX X W C (.UnaryOp .Not a pos) (.not A) := by
  refine PE.imp (pe_not ha) fun σ H Q => ?_
  rintro ⟨ρ, m, h, er, hr, fin⟩
  refine ⟨ρ, m, h, er, hr, (Fin.bind (rel1 := relV X.K) old_V fin).imp ?_⟩
  rintro x H1 ⟨m1, h1, u, g1, hr1, r1, fin1⟩
  unfold notR at fin1
  split at fin1
  · exact ⟨_, bl_of r1, Fin.ok hr1 fin1 (mk_bl _)⟩
  · exact False.elim fin1
theorem se_ife {c a b : Expr} {C' A B : E} {pos : Pos} (hc : TX X W C c C') (ha : SX X W C a A) (hb : SX X W C b B) : SX X W C (.IfExp c a b pos) (.ife C' A B) := by
  refine PE.imp (pe_ifExp hc ha hb) fun σ H Q => ?_
  rintro ⟨ρ, m, h, er, hr, fin⟩
  refine ⟨ρ, m, h, er, hr, (Fin.bind (rel1 := relEq) old_V fin).imp ?_⟩
  rintro x H1 ⟨m1, h1, k, g1, hr1, rfl, fin1⟩
  cases x with
  | true => exact ⟨ρ, m1, h1, er.grow hr g1, hr1, fin1⟩
  | false => exact ⟨ρ, m1, h1, er.grow hr g1, hr1, fin1⟩
end
end EV
end

section
set_option Elab.async false
set_option linter.all false
set_option autoImplicit false
set_option maxRecDepth 100000
/-! EV, part D: displays, subscripts, calls. -/
namespace EV
open PySem PySem.Spec L2

/-! ### a value gets its place -/
def UAll (K : PySem.W.Frag) (m : List Addr) (H : Hp) : List V → List U → Prop
  | [], [] => True
  | v :: vs, u :: us => UR K m H v u ∧ UAll K m H vs us
  | _, _ => False
abbrev relA (K : PySem.W.Frag) : Hp → List Addr → Hp → List V → List U → Prop := fun _ m H vs us => UAll K m H vs us
theorem old_A {K : PySem.W.Frag} : Old (relA K) := fun _ _ _ _ _ _ _ x => x
section
variable {K : PySem.W.Frag} {m m0 m1 m' : List Addr} {H H0 H' : Hp} {h h0 : Hs} {v : V} {u : U}
theorem UAll.grow (hr : HR K m h H) (g : Grow m H m' H') : ∀ {vs : List V} {us : List U}, UAll K m H vs us → UAll K m' H' vs us
  | [], [], _ => trivial
  | _ :: _, _ :: _, x => ⟨x.1.grow hr g, UAll.grow hr g x.2⟩
theorem UR.ext {e : List Addr} (x : UR K m H v u) : UR K (m ++ e) H v u := by
  cases u with
  | d y => exact x
  | obj i =>
    obtain ⟨a, q, r⟩ := x
    exact ⟨a, by rw [List.getElem?_append_left (List.getElem?_eq_some_iff.mp q).1]; exact q, r⟩
  | tmp o => exact x
  | ro xs => exact x
theorem alloc_ok (g : Grow m0 H0 m H) (hr : HR K m h H) (r : VR K H0 m H v u) : ∃ m', Grow m0 H0 m' H ∧ HR K m' (alloc u h).2 H ∧ UR K m' H v (alloc u h).1 ∧ ∃ e, m' = m ++ e := by
  cases u with
  | d y => exact ⟨m, g, hr, r, [], by simp⟩
  | obj i => exact ⟨m, g, hr, r, [], by simp⟩
  | ro xs => exact ⟨m, g, hr, r, [], by simp⟩
  | tmp o =>
    obtain ⟨a, rfl, hn, h0, k⟩ := r
    refine ⟨m ++ [a], ⟨?_, g.keep, g.there⟩, ⟨?_, ?_, ?_⟩, ⟨a, ?_, rfl⟩, [a], rfl⟩
    · obtain ⟨e, rfl, n⟩ := g.ext
      refine ⟨e ++ [a], by simp, fun b hb => ?_⟩
      rcases List.mem_append.mp hb with z | z
      · exact n b z
      · rw [List.mem_singleton.mp z]; exact h0
    · show (m ++ [a]).length = (h ++ [o]).length
      simp [hr.len]
    · refine List.nodup_append.mpr ⟨hr.nd, by simp, fun x hx y hy e => ?_⟩
      rw [List.mem_singleton.mp hy] at e
      subst e; exact hn hx
    · intro i o' b e1 e2
      have e1 : (h ++ [o])[i]? = some o' := e1
      by_cases hi : i < m.length
      · rw [List.getElem?_append_left hi] at e2
        rw [List.getElem?_append_left (by rw [← hr.len]; exact hi)] at e1
        exact hr.at_ i o' b e1 e2
      · have hl := hr.len
        rw [List.getElem?_append_right (by omega)] at e1 e2
        have : i - m.length = 0 := by
          by_cases z : i - m.length = 0
          · exact z
          · rw [List.getElem?_eq_none (by simp; omega)] at e2; cases e2
        rw [this] at e2; rw [← hl, this] at e1
        simp at e1 e2
        subst e1 e2
        exact k
    · show (m ++ [a])[h.length]? = some a
      rw [← hr.len]; simp
/-- .. and what was known of others stays -/
theorem EnvR.ext {σ : L2.St} {ρ : Rho} {e : List Addr} (x : EnvR K m H σ ρ) : EnvR K (m ++ e) H σ ρ := ⟨x.len, fun i u q => let ⟨v, e1, r⟩ := x.at_ i u q; ⟨v, e1, r.ext⟩⟩
theorem UAll.ext {e : List Addr} : ∀ {vs : List V} {us : List U}, UAll K m H vs us → UAll K (m ++ e) H vs us
  | [], [], _ => trivial
  | _ :: _, _ :: _, x => ⟨x.1.ext, UAll.ext x.2⟩
end
section
variable {α β γ δ : Type} {K : PySem.W.Frag} {W : XK} {m m1 : List Addr} {H H1 : Hp} {h1 : Hs}
/-- the bind, seen from the old heap -/
theorem Fin.bind0 {rel1 : Hp → List Addr → Hp → β → α → Prop} {rel2 : Hp → List Addr → Hp → δ → γ → Prop} {r : R α} {f : α → Hs → R γ} {Q : δ → Hp → Prop} (x : Fin K W rel2 m H (r.bind f) Q) :
    Fin K W rel1 m H r fun b H1 => ∃ m1 h1 a, Grow m H m1 H1 ∧ HR K m1 h1 H1 ∧ rel1 H m1 H1 b a ∧ Fin K W rel2 m H (f a h1) Q := by
  cases r with
  | ok a h' => exact fun b H' m' g hr y => ⟨m', h', a, g, hr, y, x⟩
  | exc c y h' => exact x
  | stuck => exact x
end

def tA (K : PySem.W.Frag) (W : WX) (ds : List Den) : TA := fun σ H Q => ∃ ρ m h, EnvR K m H σ ρ ∧ HR K m h H ∧ Fin K (fun cls dd H' => W cls dd σ H') (relA K) m H (evs ds ρ h) Q
section
variable {X : Cx} {W : WX} {C : Cc}
abbrev AX (X : Cx) (W : WX) (C : Cc) (es : List Expr) (ê : List E) : Prop := PA X es (tA X.K W (dens C ê))
theorem sa_nil : AX X W C [] [] := PA.imp pa_nil fun σ H Q ⟨ρ, m, h, er, hr, fin⟩ => Fin.ok (b := ([] : List V)) (a := ([] : List U)) hr fin trivial
theorem sa_cons {e : Expr} {es : List Expr} {A : E} {As : List E} (ha : SX X W C e A) (hs : AX X W C es As) (hst : starEach (e :: es) X.env = (false, eval e X.env) :: starEach es X.env := by rfl) : AX X W C (e :: es) (A :: As) := by
  refine PA.imp (pa_cons ha hs hst) fun σ H Q => ?_
  rintro ⟨ρ, m, h, er, hr, fin⟩
  refine ⟨ρ, m, h, er, hr, (Fin.bind0 (rel1 := relV X.K) fin).imp ?_⟩
  rintro x H1 ⟨m1, h1, u, g1, hr1, r1, fin1⟩
  obtain ⟨m2, g2, hr2, r2, e2, he2⟩ := alloc_ok g1 hr1 r1
  refine ⟨ρ, m2, _, he2 ▸ (er.grow hr g1).ext, hr2, (Fin.bind (rel1 := relA X.K) old_A (fin1.shift old_A g2)).imp ?_⟩
  rintro vs H3 ⟨m3, h3, us, g3, hr3, r3, fin3⟩
  exact Fin.ok (b := x :: vs) (a := (alloc u h1).1 :: us) hr3 fin3 ⟨r2.grow hr2 g3, r3⟩

/-! ### displays -/
theorem datas_of {K : PySem.W.Frag} {m : List Addr} {H : Hp} : ∀ {us : List U} {xs : List D} {vs : List V}, datas us = some xs → UAll K m H vs us → DpAll K H vs (D.pys xs)
  | [], xs, vs, e, r => by
    simp only [datas] at e
    cases e
    cases vs with
    | nil => simpa [D.pys] using DpAll.nil
    | cons _ _ => exact False.elim r
  | u :: us, xs, [], e, r => False.elim r
  | u :: us, xs, v :: vs, e, r => by
    cases u with
    | d x =>
      simp only [datas] at e
      obtain ⟨ys, e1, rfl⟩ := opt_map e
      simp only [D.pys]
      exact .cons r.1 (datas_of e1 r.2)
    | obj i => simp only [datas] at e; cases e
    | tmp i => simp only [datas] at e; cases e
    | ro i => simp only [datas] at e; cases e
theorem se_tup {es : List Expr} {As : List E} {x1 : Nat} {pos : Pos} (h : AX X W C es As) : SX X W C (.Tuple es x1 pos) (.tup As) := by
  refine PE.imp (pe_tup h) fun σ H Q => ?_
  rintro ⟨ρ, m, h, er, hr, fin⟩
  refine ⟨ρ, m, h, er, hr, (Fin.bind (rel1 := relA X.K) old_V fin).imp ?_⟩
  rintro vs H1 ⟨m1, h1, us, g1, hr1, r1, fin1⟩
  unfold tupR at fin1
  split at fin1
  · rename_i xs ex
    split at fin1
    · rename_i hz
      have d := datas_of ex r1
      exact ⟨by rw [dps_len d]; exact hz, fun p hp => fin1 _ _ m1 (grow_new hp) (hr1.new hp) (vr_tup hr1 hp d)⟩
    · exact False.elim fin1
  · exact False.elim fin1
theorem se_lst {es : List Expr} {As : List E} {pos : Pos} (h : AX X W C es As) : SX X W C (.List es pos) (.lst As) := by
  refine PE.imp (pe_lst h) fun σ H Q => ?_
  rintro ⟨ρ, m, h, er, hr, fin⟩
  refine ⟨ρ, m, h, er, hr, (Fin.bind (rel1 := relA X.K) old_V fin).imp ?_⟩
  rintro vs H1 ⟨m1, h1, us, g1, hr1, r1, fin1⟩
  unfold lstR at fin1
  split at fin1
  · rename_i xs ex
    split at fin1
    · rename_i hz
      have d := datas_of ex r1
      exact ⟨by rw [dps_len d]; exact hz, fun p hp => fin1 _ _ m1 (grow_new hp) (hr1.new hp) (vr_tmp hr1 hp d)⟩
    · exact False.elim fin1
  · exact False.elim fin1

/-! ### what is a list or a tuple -/
theorem items_of {m : List Addr} {H : Hp} {h : Hs} {v : V} {u : U} {xs : List D} (hr : HR X.K m h H) (r : VA X.K m H v u) (e : itemsU u h = some xs) :
    ∃ a vs, v = .ref a ∧ (SqL X.K H a vs ∨ SqT X.K H a vs) ∧ DpAll X.K H vs (D.pys xs) := by
  unfold itemsU at e
  split at e
  · cases e
    obtain ⟨a, vs, rfl, s, d⟩ := dp_tup r
    exact ⟨a, vs, rfl, .inr s, d⟩
  · split at e
    · rename_i eh
      cases e
      obtain ⟨a, ea, rfl⟩ := r
      obtain ⟨vs, q, d⟩ := hr.at_ _ _ a eh ea
      exact ⟨a, vs, rfl, .inl (SqL.of q), d⟩
    · cases e
  · cases e
    obtain ⟨a, rfl, _, _, vs, q, d⟩ := r
    exact ⟨a, vs, rfl, .inl (SqL.of q), d⟩
  · cases e
    obtain ⟨a, vs, rfl, q, d⟩ := r
    exact ⟨a, vs, rfl, .inl q.seq, d⟩
  · cases e
theorem atI_dps {K : PySem.W.Frag} {H : Hp} {xs : List D} {vs : List V} {i : Int} {x : D} (d : DpAll K H vs (D.pys xs)) (e : atI xs i = some x) : ∃ v, atI vs i = some v ∧ Dp K H v x.py := by
  unfold atI at e ⊢
  have hl := dps_len d
  rw [hl]
  cases q : ixN xs.length i with
  | none => rw [q] at e; cases e
  | some j =>
    rw [q] at e
    obtain ⟨v, e1, e2⟩ := dps_get d (show xs[j]? = some x from e)
    exact ⟨v, e1, e2⟩
def rIx2 (K : PySem.W.Frag) : R2 := fun x y H Q => rIxL K x y H Q ∨ rIxT K x y H Q
theorem ix_two : IxR X (rIx2 X.K) := IxR.or ix_list ix_tup
theorem se_idx {a b : Expr} {A B : E} {pos : Pos} (ha : SX X W C a A) (hb : SX X W C b B) (hs : PlainIx b := by intro _ _; rfl) : SX X W C (.Subscript a b pos) (.idx A B) := by
  refine PE.imp (pe_ix ix_two ha hb hs) fun σ H Q => ?_
  rintro ⟨ρ, m, h, er, hr, fin⟩
  have q := two_of (W := W) (X := X) (f := idxU) (d1 := den C A) (d2 := den C B) ⟨ρ, m, h, er, hr, fin⟩
  refine (show ∀ {t1 t2 : TE} {r r' : R2} (i : ∀ x y H Q, r x y H Q → r' x y H Q), (∀ σ H Q Q', (∀ v H1, Q v H1 → Q' v H1) → t1 σ H Q → t1 σ H Q') → (∀ σ H Q Q', (∀ v H1, Q v H1 → Q' v H1) → t2 σ H Q → t2 σ H Q') → tOp r t1 t2 σ H Q → tOp r' t1 t2 σ H Q from
    fun i m1 m2 z => m1 _ _ _ _ (fun x H1 y => m2 _ _ _ _ (fun w H2 k => i _ _ _ _ k) y) z) (fun x y H Q z => ?_) ?_ ?_ q
  · obtain ⟨m, h, u, v, w, hr, xa, yb, e, q⟩ := z
    unfold idxU at e
    split at e
    · rename_i k
      split at e
      · rename_i xs ex
        obtain ⟨x1, ex1, rfl⟩ := opt_map e
        obtain ⟨p, vs, rfl, s, d⟩ := items_of hr xa ex
        obtain ⟨v1, ev1, dv⟩ := atI_dps d ex1
        have qq := q v1 H m Grow.refl hr dv
        rcases s with s | s
        · exact .inl ⟨p, vs, k, v1, rfl, dp_int yb, s, ev1, qq⟩
        · exact .inr ⟨p, vs, k, v1, rfl, dp_int yb, s, ev1, qq⟩
      · cases e
    · cases e
  · rintro σ H Q Q' i ⟨ρ, m, h, er, hr, fin⟩
    exact ⟨ρ, m, h, er, hr, fin.imp i⟩
  · rintro σ H Q Q' i ⟨ρ, m, h, er, hr, fin⟩
    exact ⟨ρ, m, h, er, hr, fin.imp i⟩

/-! ### slices -/
def tO (K : PySem.W.Frag) (W : WX) (d : Den) : TO := fun σ H Q => ∃ ρ m h, EnvR K m H σ ρ ∧ HR K m h H ∧ Fin K (fun cls dd H' => W cls dd σ H') relEq m H (d.p ρ h) Q
abbrev OX (X : Cx) (W : WX) (C : Cc) (e : Option Expr) (ê : E) : Prop := PO X e (tO X.K W (den C ê))
theorem PO.imp {e : Option Expr} {t t' : TO} (h : PO X e t) (i : ∀ σ H Q, t' σ H Q → t σ H Q) : PO X e t' := ⟨fun pins s σ H Q I q => h.run pins s σ H Q I (i σ H Q q)⟩
theorem so_none : OX X W C none .absent := PO.imp po_none fun σ H Q ⟨ρ, m, h, er, hr, fin⟩ => Fin.ok (b := (none : Option Int)) (a := (none : Option Int)) hr fin rfl
theorem so_some {e : Expr} {A : E} (ha : SX X W C e A) (hd : (den C A).p = fun ρ h => ((den C A).v ρ h).bind partR := by rfl) : OX X W C (some e) A := by
  refine PO.imp (po_some ha) fun σ H Q => ?_
  rintro ⟨ρ, m, h, er, hr, fin⟩
  rw [hd] at fin
  refine ⟨ρ, m, h, er, hr, (Fin.bind (rel1 := relV X.K) old_eq fin).imp ?_⟩
  rintro x H1 ⟨m1, h1, u, g1, hr1, r1, fin1⟩
  unfold partR at fin1
  split at fin1
  · rename_i i
    exact ⟨i, dp_int r1, Fin.ok hr1 fin1 rfl⟩
  · exact False.elim fin1
theorem dps_cut {K : PySem.W.Frag} {H : Hp} {xs : List D} {vs : List V} (lo hi : Option Int) (d : DpAll K H vs (D.pys xs)) : DpAll K H (cutV vs lo hi) (D.pys (cut xs lo hi)) := by
  unfold cutV cut
  rw [dps_len d]
  exact dps_take _ (dps_drop _ d)
def rSl2 (K : PySem.W.Frag) : V → Option Int → Option Int → Hp → VK → Prop := fun x lo hi H Q => rSlL K x lo hi H Q ∨ rSlA K x lo hi H Q
theorem sl_two : SlR X (rSl2 X.K) := SlR.or sl_list sl_tupA
theorem se_slice {e : Expr} {lo hi : Option Expr} {A L B : E} {pos p2 : Pos} (ha : SX X W C e A) (hl : OX X W C lo L) (hb : OX X W C hi B) : SX X W C (.Subscript e (.Slice lo hi none p2) pos) (.slice A L B) := by
  refine PE.imp (pe_slice sl_two ha hl hb) fun σ H Q => ?_
  rintro ⟨ρ, m, h, er, hr, fin⟩
  refine ⟨ρ, m, h, er, hr, (Fin.bind (rel1 := relV X.K) old_V fin).imp ?_⟩
  rintro x H1 ⟨m1, h1, u, g1, hr1, r1, fin1⟩
  have er1 := er.grow hr g1
  refine ⟨ρ, m1, h1, er1, hr1, (Fin.bind (rel1 := relEq) old_V fin1).imp ?_⟩
  rintro l H2 ⟨m2, h2, _, g2, hr2, rfl, fin2⟩
  have er2 := er1.grow hr1 g2
  refine ⟨ρ, m2, h2, er2, hr2, (Fin.bind (rel1 := relEq) old_V fin2).imp ?_⟩
  rintro r H3 ⟨m3, h3, _, g3, hr3, rfl, fin3⟩
  obtain ⟨w, e, q⟩ := opt_some fin3
  have r3 := (r1.grow hr1 g2).grow hr2 g3
  unfold sliceU at e
  split at e
  · cases e
    rename_i xs
    obtain ⟨a, vs, rfl, s, d⟩ := dp_tup r3
    refine .inr ⟨a, vs, rfl, s, fun hw => ?_, fun _ p hp => q _ _ m3 (grow_new hp) (hr3.new hp) (vr_tup hr3 hp (dps_cut l r d))⟩
    have ec : cut xs l r = xs := by
      unfold cut
      rw [dps_len d] at hw
      rw [hw.1, hw.2]; simp
    exact q _ _ m3 Grow.refl hr3 (by rw [ec]; exact mk_tup s d)
  · split at e
    · rename_i eh
      cases e
      obtain ⟨a, ea, rfl⟩ := r3
      obtain ⟨vs, ev, d⟩ := hr3.at_ _ _ a eh ea
      exact .inl ⟨a, vs, rfl, SqL.of ev, fun p hp => q _ _ m3 (grow_new hp) (hr3.new hp) (vr_tmp hr3 hp (dps_cut l r d))⟩
    · cases e
  · cases e
end
end EV
end

section
set_option Elab.async false
set_option linter.all false
set_option autoImplicit false
set_option maxRecDepth 100000
/-! EV, part E: calls of defs, of built-ins. -/
namespace EV
open PySem PySem.Spec L2

/-! ### what a def promises -/
def spOf (K : PySem.W.Frag) (r : List U → Hs → R U) (n : Nat) : Sp := fun vs H Q E => vs.length = n ∧ ∃ m h us, HR K m h H ∧ UAll K m H vs us ∧ Fin K E (relV K) m H (r us h) Q
structure FnOkG (P : Program) (w : World) (K : PySem.W.Frag) (mg : Str → Option Value) (base : Heap) (k : Nat) (f : Addr) (fd : FuncData) (ps : List Str) (sp : Sp) : Prop where
  len : ∀ vs H Q E, sp vs H Q E → vs.length = ps.length
  run : ∀ (A : Around) (outer : List Env) (s : Shared) (H : Hp) (args : Args) (us : List Value) (vs : List V) (Q : VK) (E : XK), Room k A → A.guards = some [] → Env0 P w K mg base A outer s H → BindsTo s fd args (ps.zip us) → Vals vs us → sp vs H Q E →
    codeAny (model P w) A (.call (.ref f) args) (CR (CX P w) outer P w H s Q E) s
theorem UAll.length {K : PySem.W.Frag} {m : List Addr} {H : Hp} : ∀ {vs : List V} {us : List U}, UAll K m H vs us → vs.length = us.length
  | [], [], _ => rfl
  | _ :: _, _ :: _, x => by simp [UAll.length x.2]
/-- a def of the text, and the small language's one for it -/
structure Ent where
  id : Nat
  name : String
  st : Stmt
  N : List Str
  ps : List Str
  fn : Fn
structure FOk (P : Program) (w : World) (K : PySem.W.Frag) (mg : Str → Option Value) (base : Heap) (C : Cc) (k : Nat) (e : Ent) : Prop where
  ex : ∃ fa fd, mg e.name = some (.ref fa) ∧ L2.Fun K e.name e.name e.st fa fd ∧ Binds K fd e.ps [] ∧ FnOkG P w K mg base k fa fd e.ps (spOf K (C.call e.id) e.ps.length)
section
variable {X : Cx} {W : WX} {C : Cc} {k : Nat}
theorem run_g {pins : List (Addr × Obj)} {σ : L2.St} {H : Hp} {s : Shared} {Q : VK} {us : List Value} {vs : List V} {fa : Addr} {fd : FuncData} {ps : List Str} {sp : Sp} {kw : List (Str × Value)} {us' : List Value}
    (co : CO X W) (hr : Room k X.A) (F : FnOkG X.prog X.w X.K X.mg X.base k fa fd ps sp) (hb : BindsTo s fd ⟨us, kw⟩ (ps.zip us')) (I : L2.Inv X pins σ H s) (r : Vals vs us')
    (h : sp vs H Q fun cls dd H' => W cls dd σ H') : wpAny (model X.prog X.w) X.A (call (.ref fa) us kw) (EP X pins σ Q) X.xe s := by
  refine wpAny_call (codeAny_mono (F.run X.A X.stack s H ⟨us, kw⟩ us' vs Q _ hr co.gd I.env0 hb r h) fun r s' hq => ?_)
  cases r with
  | error e => exact co.tk e s' (XE.of_call I (fun _ _ _ w => w) hq)
  | ok fl =>
    cases fl with
    | ret u => exact I.after hq
    | next => exact False.elim hq
    | brk => exact False.elim hq
    | cont => exact False.elim hq

theorem UAll.perm {K : PySem.W.Frag} {m : List Addr} {H : Hp} : ∀ {vs : List V} {us : List U} {i : Nat} {u : U}, UAll K m H vs us → us[i]? = some u → ∃ v, vs[i]? = some v ∧ UR K m H v u
  | [], [], _, _, _, e => by simp at e
  | v :: _, _ :: _, 0, _, x, e => by simp at e; subst e; exact ⟨v, rfl, x.1⟩
  | _ :: _, _ :: _, i + 1, _, x, e => by
    obtain ⟨v, e1, e2⟩ := UAll.perm x.2 (show _ = _ by simpa using e)
    exact ⟨v, by simpa using e1, e2⟩
/-- f(e, ..) -/
theorem se_call {en : Ent} {f : String} {p pos : Pos} {e : Expr} {es : List Expr} {As : List E} (co : CO X W) (hr : Room k X.A) (F : FOk X.prog X.w X.K X.mg X.base C k en) (ha : AX X W C (e :: es) As) (hf : f = en.name := by rfl) (hl : As.length = en.ps.length := by rfl) (hg : Gl X f := by rfl)
    (hdb : ((f : Str) == ("__debug__" : Str)) = false := by decide) (he : starEach (e :: es) X.env = (false, eval e X.env) :: starEach es X.env := by rfl) (hpl : (backTo pos (starEach es X.env)).any (·.1) = false := by rfl) :
    SX X W C (.Call (.Name f p) (e :: es) [] pos) (.call en.id As []) := by
  subst hf
  obtain ⟨id, name, st, N, ps, fn⟩ := en
  obtain ⟨fa, fd, hm, hF, hb, G⟩ := F.ex
  simp only at hm hF hb G hl
  refine ⟨fun pins s σ H Q I q => ?_⟩
  obtain ⟨ρ, m, h, er, hr0, fin⟩ := q
  have q : tA X.K W (dens C As) σ H fun vs H1 => spOf X.K (C.call id) ps.length vs H1 Q fun cls dd H' => W cls dd σ H' := by
    refine ⟨ρ, m, h, er, hr0, ?_⟩
    have fin : Fin _ _ (relV X.K) m H ((evs (dens C As) ρ h).bind fun us h1 => match perm us [] with | some ws => C.call id ws h1 | none => .stuck) Q := fin
    have len : ∀ (ds : List Den) (ρ : Rho) (h : Hs) us h', evs ds ρ h = .ok us h' → us.length = ds.length := by
      intro ds
      induction ds with
      | nil => intro ρ h us h' e; simp only [evs] at e; cases e; rfl
      | cons d ds ih =>
        intro ρ h us h' e
        simp only [evs] at e
        cases q1 : d.v ρ h with
        | ok u h1 =>
          rw [q1] at e
          cases q2 : evs ds ρ (alloc u h1).2 with
          | ok us2 h2 =>
            rw [R.bind, q2] at e
            cases e
            simp [ih _ _ _ _ q2]
          | exc c x h2 => rw [R.bind, q2] at e; cases e
          | stuck => rw [R.bind, q2] at e; cases e
        | exc c x h2 => rw [q1] at e; cases e
        | stuck => rw [q1] at e; cases e
    have lens : ∀ es : List E, (dens C es).length = es.length := by
      intro es
      induction es with
      | nil => rfl
      | cons e es ih => show (dens C es).length + 1 = _; rw [ih]; rfl
    cases qe : evs (dens C As) ρ h with
    | ok us h1 =>
      rw [qe] at fin
      have hlen := len _ _ _ _ _ qe
      rw [lens, hl] at hlen
      exact fun vs H' m' g hr' r => ⟨by rw [UAll.length r, hlen], m', h1, us, hr', r, fin.shift old_V g⟩
    | exc c x h1 => rw [qe] at fin; exact fin
    | stuck => rw [qe] at fin; exact fin
  refine wpAny_Call_Name_kw (ld_glob I hg hm ?_ hdb)
  refine PySem.W.callWith_K (h₀ := X.base) I.ok.mod.kin hF.kp (thn (ha.run pos pins s σ H _ I q) fun us s1 ⟨vs, H1, I1, r, q⟩ => ⟨I1.kIn, ?_⟩) he hpl
  have hl2 : us.length = ps.length := by rw [← r.length]; exact q.1
  exact run_g (us := us) (kw := []) co hr G (by simpa using hb s1 us I1.kIn (by simpa using hl2)) I1 r q
end

/-! ### built-ins -/
def rBi (K : PySem.W.Frag) (f : Bi) : List V → Hp → VK → Prop := fun xs H Q => ∃ m h v u, xs = [v] ∧ HR K m h H ∧ VA K m H v u ∧ Fin K (fun _ _ _ => False) (relV K) m H (bi1 f u h) Q
theorem bi1_noexc {f : Bi} {u : U} {h : Hs} {c : String} {x : D} {h' : Hs} : bi1 f u h ≠ .exc c x h' := by
  intro e
  cases f <;> simp only [bi1] at e <;> (try unfold R.opt at e) <;> (try unfold sortR at e) <;> (repeat' split at e) <;> cases e
section
variable {X : Cx} {W : WX} {C : Cc} {k : Nat}
theorem noexc {K : PySem.W.Frag} {W W' : XK} {m : List Addr} {H : Hp} {r : R U} {Q : VK} (hn : ∀ c x h', r ≠ .exc c x h') (x : Fin K W (relV K) m H r Q) : Fin K W' (relV K) m H r Q := by
  cases r with
  | ok a h => exact x
  | exc c y h => exact absurd rfl (hn c y h)
  | stuck => exact x
theorem bi_pre {e : Expr} {A : E} {f : Bi} {σ : L2.St} {H : Hp} {Q : VK} (q : tE X.K W (den C (.bi f [A])) σ H Q) : tCB (rBi X.K f) (tCons (tE X.K W (den C A)) tNil) σ H Q := by
  obtain ⟨ρ, m, h, er, hr, fin⟩ := q
  refine ⟨ρ, m, h, er, hr, (Fin.bind (rel1 := relV X.K) old_V fin).imp ?_⟩
  rintro x H1 ⟨m1, h1, u, g1, hr1, r1, fin1⟩
  exact ⟨m1, h1, x, u, rfl, hr1, r1.any, noexc (fun c x h' => bi1_noexc) fin1⟩
theorem se_biB {f : Bi} {id : String} {x : Str} {e : Expr} {A : E} {p pos : Pos} (hc : CallR X (.builtin id) (rBi X.K f)) (hm : X.mg x = none) (hv : bootBuiltins x = some (.builtin id)) (ha : SX X W C e A) (hg : Gl X x := by rfl) (hn : x ≠ "__name__" := by decide) (hdb : (x == ("__debug__" : Str)) = false := by decide)
    (he : starEach [e] X.env = (false, eval e X.env) :: starEach [] X.env := by rfl) (hpl : (backTo pos (starEach [] X.env)).any (·.1) = false := by rfl) : SX X W C (.Call (.Name x p) [e] [] pos) (.bi f [A]) :=
  PE.imp (pe_callB hc hg hm hv (pa_cons ha pa_nil he) hn hdb he hpl) fun _ _ _ q => bi_pre (e := e) q
theorem se_biT {f : Bi} {T : String} {x : Str} {e : Expr} {A : E} {p pos : Pos} (hc : CallR X (.type T) (rBi X.K f)) (hm : X.mg x = none) (hv : bootBuiltins x = some (.type T)) (ha : SX X W C e A) (hg : Gl X x := by rfl) (hn : x ≠ "__name__" := by decide) (hdb : (x == ("__debug__" : Str)) = false := by decide)
    (he : starEach [e] X.env = (false, eval e X.env) :: starEach [] X.env := by rfl) (hpl : (backTo pos (starEach [] X.env)).any (·.1) = false := by rfl) : SX X W C (.Call (.Name x p) [e] [] pos) (.bi f [A]) :=
  PE.imp (pe_callTy hc hg hm hv (pa_cons ha pa_nil he) hn hdb he hpl) fun _ _ _ q => bi_pre (e := e) q

theorem cb_len : CallR X (.builtin "len") (rBi X.K .len) := by
  intro pins s σ H xs us Q I r ⟨m, h, v, u, e, hr, xa, fin⟩
  subst e
  simp only [bi1] at fin
  split at fin
  · rename_i xs ex
    obtain ⟨p, vs, rfl, sq, d⟩ := items_of hr xa ex
    exact call_len_seq pins s σ H _ us Q I r ⟨p, vs, rfl, sq, by rw [dps_len d]; exact Fin.ok hr fin (mk_int _)⟩
  · exact False.elim fin
theorem cb_int : CallR X (.type "int") (rBi X.K .int_) := by
  intro pins s σ H xs us Q I r ⟨m, h, v, u, e, hr, xa, fin⟩
  subst e
  simp only [bi1] at fin
  split at fin
  · exact call_int1 pins s σ H _ us Q I r (.inl ⟨_, by rw [dp_int xa], Fin.ok hr fin (mk_int _)⟩)
  · exact call_int1 pins s σ H _ us Q I r (.inr ⟨_, by rw [dp_bl xa], Fin.ok hr fin (mk_int _)⟩)
  · split at fin
    · rename_i n en
      split at fin
      · rename_i hl
        exact call_int_str pins s σ H _ us Q I r ⟨_, n, by rw [dp_str xa], en, hl, Fin.ok hr fin (mk_int _)⟩
      · exact False.elim fin
    · exact False.elim fin
  · exact False.elim fin
theorem cb_abs : CallR X (.builtin "abs") (rBi X.K .abs) := by
  intro pins s σ H xs us Q I r ⟨m, h, v, u, e, hr, xa, fin⟩
  subst e
  simp only [bi1] at fin
  split at fin
  · exact call_abs pins s σ H _ us Q I r ⟨_, by rw [dp_int xa], Fin.ok hr fin (mk_int _)⟩
  · exact False.elim fin
theorem cb_tuple : CallR X (.type "tuple") (rBi X.K .tuple) := by
  intro pins s σ H xs us Q I r ⟨m, h, v, u, e, hr, xa, fin⟩
  subst e
  simp only [bi1] at fin
  split at fin
  · rename_i xs ex
    obtain ⟨p, vs, rfl, sq, d⟩ := items_of hr xa ex
    refine call_tuple_of pins s σ H _ us Q I r ⟨p, vs, rfl, ?_⟩
    rcases sq with sq | sq
    · exact .inl ⟨sq, fun l hl => fin _ _ m (grow_new hl) (hr.new hl) (vr_tup hr hl d)⟩
    · exact .inr ⟨sq, Fin.ok hr fin (mk_tup sq d)⟩
  · exact False.elim fin
theorem cb_list : CallR X (.type "list") (rBi X.K .list) := by
  intro pins s σ H xs us Q I r ⟨m, h, v, u, e, hr, xa, fin⟩
  subst e
  simp only [bi1] at fin
  split at fin
  · rename_i xs ex
    obtain ⟨p, vs, rfl, sq, d⟩ := items_of hr xa ex
    exact call_list_of pins s σ H _ us Q I r ⟨p, vs, rfl, sq, fun l hl => fin _ _ m (grow_new hl) (hr.new hl) (vr_tmp hr hl d)⟩
  · exact False.elim fin
end
end EV
end

section
set_option Elab.async false
set_option linter.all false
set_option autoImplicit false
set_option maxRecDepth 100000
/-! EV, part F: repr, isinstance, max, min, methods. -/
namespace EV
open PySem PySem.Spec L2
section
variable {X : Cx} {W : WX} {C : Cc} {k : Nat}
theorem frz_nodict : ∀ {h : Hs} {u : U} {x : PyData}, frz h u = some x → x.hasDict = false := by
  have one : ∀ d : D, (d.py).hasDict = false ∧ True := by
    intro d
    refine ⟨?_, trivial⟩
    exact D.rec (motive_1 := fun d => d.py.hasDict = false) (motive_2 := fun ds => PyData.hasDictAll (D.pys ds) = false)
      (by simp [D.py, PyData.hasDict]) (by intro; simp [D.py, PyData.hasDict]) (by intro; simp [D.py, PyData.hasDict]) (by intro; simp [D.py, PyData.hasDict])
      (by intro xs ih; simp [D.py, PyData.hasDict, ih]) (by simp [D.pys, PyData.hasDictAll]) (by intro x xs i1 i2; simp [D.pys, PyData.hasDictAll, i1, i2]) d
  have all : ∀ ds : List D, PyData.hasDictAll (D.pys ds) = false := by
    intro ds
    induction ds with
    | nil => simp [D.pys, PyData.hasDictAll]
    | cons d ds ih => simp [D.pys, PyData.hasDictAll, (one d).1, ih]
  intro h u x e
  cases u with
  | d y => simp only [frz] at e; cases e; exact (one y).1
  | obj i =>
    simp only [frz] at e
    split at e
    · cases e; simp [PyData.hasDict, all]
    · cases e
  | tmp o => cases o; simp only [frz] at e; cases e; simp [PyData.hasDict, all]
  | ro xs => simp only [frz] at e; cases e; simp [PyData.hasDict, all]
theorem cb_repr (co : CO X W) : CallR X (.builtin "repr") (rBi X.K .repr) := by
  intro pins s σ H xs us Q I r ⟨m, h, v, u, e, hr, xa, fin⟩
  subst e
  obtain ⟨w, e1, q⟩ := opt_some fin
  unfold showU at e1
  split at e1
  · rename_i x ex
    split at e1
    · rename_i c
      obtain ⟨c1, c2, c3⟩ := c
      cases e1
      obtain ⟨uv, rfl, rv⟩ := vals1 r
      have dx := dp_frz hr xa ex
      have nd := frz_nodict ex
      have qq := fun H' m' g hr' => q (.str x.shown) H' m' g hr' (mk_str _)
      have un := co.un
      have leaf : ∀ {h' : Heap} {tk : Nat}, L2.Inv X pins σ H { s with heap := h', toks := tk } → ∀ t, EP X pins σ Q (.str x.shown t) { s with heap := h', toks := tk } := fun J t => ⟨.str x.shown, H, J, ⟨t, rfl⟩, qq H m Grow.refl hr⟩
      obtain ⟨as, rd⟩ := Dp.reads I x v uv dx rv
      have ref : ∀ a, uv = .ref a → wpAny (model X.prog X.w) X.A (call (.builtin "repr") [uv]) (EP X pins σ Q) X.xe s := fun a ea => by
        subst ea
        exact repr_of_reads' rd c1 (fun z => by rw [nd] at z; cases z) co.gd (by omega) (fun _ _ z => z) (fun h' t tk hk => leaf (I.kept hk) t) c3
      cases rd with
      | none => exact PySem.P.repr_of_none (leaf (I.kept (t' := s.toks + 1) fun _ _ z => z) _)
      | bool b =>
        refine PySem.P.repr_of_bool ?_
        have := leaf (I.kept (t' := s.toks + 1) fun _ _ z => z) s.toks
        simpa only [PyData.shown] using this
      | int i t =>
        refine PySem.P.repr_of_int (by simpa [PyData.showable] using c1) ?_
        have := leaf (I.kept (t' := s.toks + 1) fun _ _ z => z) s.toks
        simpa only [PyData.shown] using this
      | str i t =>
        refine PySem.P.repr_of_str ?_ (by simpa only [PyData.shown] using c3)
        have := leaf (I.kept (t' := s.toks + 1) fun _ _ z => z) s.toks
        simpa only [PyData.shown] using this
      | list _ _ _ _ => exact ref _ rfl
      | tuple _ _ _ _ => exact ref _ rfl
      | dict _ _ _ _ _ => exact ref _ rfl
    · cases e1
  · cases e1

/-! ### isinstance of a built-in class -/
theorem tyX_of {m : List Addr} {H : Hp} {h : Hs} {v : V} {u : U} (hr : HR X.K m h H) (r : VA X.K m H v u) :
    ∃ T : String, TyX X.K H v (.type T) ∧ T = tyU u := by
  have lst : ∀ {a : Addr} {vs : List V}, SqL X.K H a vs → TyX X.K H (.ref a) (.type "list") := fun {a vs} s => by
    rcases s with s | ⟨o, its, n, e, c, _⟩
    · rcases s with s | ⟨o, s⟩
      · exact .base (.lst s)
      · exact .base (.frz s)
    · exact .kList e c
  cases u with
  | d x =>
    have r : Dp X.K H v x.py := r
    cases x with
    | non => rw [dp_non r]; exact ⟨_, .base .non, rfl⟩
    | bl b => rw [dp_bl r]; exact ⟨_, .base (.bl b), rfl⟩
    | int i => rw [dp_int r]; exact ⟨_, .base (.int i), rfl⟩
    | str s => rw [dp_str r]; exact ⟨_, .base (.str s), rfl⟩
    | tup xs =>
      obtain ⟨a, vs, rfl, s, d⟩ := dp_tup r
      refine ⟨_, ?_, rfl⟩
      rcases s with s | ⟨o, its, n, e, c, _⟩
      · rcases s with s | ⟨o, s⟩
        · exact .base (.tup s)
        · exact .fTuple s
      · exact .kTuple e c
  | obj i =>
    obtain ⟨a, e, rfl⟩ := r
    have hi : i < h.length := by rw [← hr.len]; exact (List.getElem?_eq_some_iff.mp e).1
    obtain ⟨vs, q⟩ := (hr.at_ i h[i] a (by simp [hi]) e).lst_of
    exact ⟨_, lst (SqL.of q), rfl⟩
  | tmp o =>
    obtain ⟨a, rfl, _, _, k⟩ := r
    obtain ⟨vs, q⟩ := k.lst_of
    exact ⟨_, lst (SqL.of q), rfl⟩
  | ro xs =>
    obtain ⟨a, vs, rfl, q, d⟩ := r
    exact ⟨_, lst q.seq, rfl⟩
/-- isinstance(e, T), T written -/
theorem se_isi {f : Bi} {T : String} {e : Expr} {A : E} {p p2 pos : Pos} (hf : ∀ (u : U) (h : Hs), ∃ b, bi1 f u h = .ok (.d (.bl b)) h ∧ kitB (tyU u) T = some b)
    (hm : X.mg "isinstance" = none) (hm2 : X.mg (T : Str) = none) (ha : SX X W C e A) (hv2 : bootBuiltins (T : Str) = some (.type T)) (hg : Gl X "isinstance" := by rfl) (hg2 : Gl X (T : Str) := by rfl)
    (hn2 : (T : Str) ≠ "__name__" := by decide) (hdb2 : ((T : Str) == ("__debug__" : Str)) = false := by decide)
    (he : starEach [e, .Name T p2] X.env = (false, eval e X.env) :: starEach [.Name T p2] X.env := by rfl) (he2 : starEach [.Name T p2] X.env = (false, eval (.Name T p2) X.env) :: starEach [] X.env := by rfl)
    (hpl : (backTo pos (starEach [.Name T p2] X.env)).any (·.1) = false := by rfl) :
    SX X W C (.Call (.Name "isinstance" p) [e, .Name T p2] [] pos) (.bi f [A]) := by
  have hn : PE X (.Name (T : Str) p2) (tC (.ty T)) := pe_bltn hg2 hm2 hv2 rfl hn2 hdb2
  refine PE.imp (pe_callB call_isi hg hm PyProof.Rows.boot_isinstance (pa_cons ha (pa_cons hn pa_nil he2) he) (by decide) (by decide) he hpl) fun σ H Q => ?_
  rintro ⟨ρ, m, h, er, hr, fin⟩
  refine ⟨ρ, m, h, er, hr, (Fin.bind (rel1 := relV X.K) old_V fin).imp ?_⟩
  rintro x H1 ⟨m1, h1, u, g1, hr1, r1, fin1⟩
  obtain ⟨b, eb, kb⟩ := hf u h1
  rw [eb] at fin1
  obtain ⟨T', ty, eT⟩ := tyX_of hr1 r1.any
  exact ⟨x, .ty T, .type T', .type T, b, rfl, .ty T, ty, by rw [eT]; exact kit_ty kb, Fin.ok hr1 fin1 (mk_bl b)⟩
theorem isi_int : ∀ (u : U) (h : Hs), ∃ b, bi1 .isint u h = .ok (.d (.bl b)) h ∧ kitB (tyU u) "int" = some b := by
  intro u h
  have k1 : kitB "NoneType" "int" = some false := by decide +kernel
  have k2 : kitB "bool" "int" = some true := by decide +kernel
  have k3 : kitB "int" "int" = some true := by decide +kernel
  have k4 : kitB "str" "int" = some false := by decide +kernel
  have k5 : kitB "tuple" "int" = some false := by decide +kernel
  have k6 : kitB "list" "int" = some false := by decide +kernel
  cases u with
  | d x => cases x with
    | non => exact ⟨_, rfl, k1⟩
    | bl b => exact ⟨_, rfl, k2⟩
    | int b => exact ⟨_, rfl, k3⟩
    | str b => exact ⟨_, rfl, k4⟩
    | tup b => exact ⟨_, rfl, k5⟩
  | obj i => exact ⟨_, rfl, k6⟩
  | tmp o => exact ⟨_, rfl, k6⟩
  | ro xs => exact ⟨_, rfl, k6⟩
theorem isi_bool : ∀ (u : U) (h : Hs), ∃ b, bi1 .isbool u h = .ok (.d (.bl b)) h ∧ kitB (tyU u) "bool" = some b := by
  intro u h
  have k1 : kitB "NoneType" "bool" = some false := by decide +kernel
  have k2 : kitB "bool" "bool" = some true := by decide +kernel
  have k3 : kitB "int" "bool" = some false := by decide +kernel
  have k4 : kitB "str" "bool" = some false := by decide +kernel
  have k5 : kitB "tuple" "bool" = some false := by decide +kernel
  have k6 : kitB "list" "bool" = some false := by decide +kernel
  cases u with
  | d x => cases x with
    | non => exact ⟨_, rfl, k1⟩
    | bl b => exact ⟨_, rfl, k2⟩
    | int b => exact ⟨_, rfl, k3⟩
    | str b => exact ⟨_, rfl, k4⟩
    | tup b => exact ⟨_, rfl, k5⟩
  | obj i => exact ⟨_, rfl, k6⟩
  | tmp o => exact ⟨_, rfl, k6⟩
  | ro xs => exact ⟨_, rfl, k6⟩
theorem isi_tuple : ∀ (u : U) (h : Hs), ∃ b, bi1 .istuple u h = .ok (.d (.bl b)) h ∧ kitB (tyU u) "tuple" = some b := by
  intro u h
  have k1 : kitB "NoneType" "tuple" = some false := by decide +kernel
  have k2 : kitB "bool" "tuple" = some false := by decide +kernel
  have k3 : kitB "int" "tuple" = some false := by decide +kernel
  have k4 : kitB "str" "tuple" = some false := by decide +kernel
  have k5 : kitB "tuple" "tuple" = some true := by decide +kernel
  have k6 : kitB "list" "tuple" = some false := by decide +kernel
  cases u with
  | d x => cases x with
    | non => exact ⟨_, rfl, k1⟩
    | bl b => exact ⟨_, rfl, k2⟩
    | int b => exact ⟨_, rfl, k3⟩
    | str b => exact ⟨_, rfl, k4⟩
    | tup b => exact ⟨_, rfl, k5⟩
  | obj i => exact ⟨_, rfl, k6⟩
  | tmp o => exact ⟨_, rfl, k6⟩
  | ro xs => exact ⟨_, rfl, k6⟩

/-! ### built-ins of two values -/
def rBi2 (K : PySem.W.Frag) (f : Bi) : List V → Hp → VK → Prop := fun xs H Q => ∃ m h us, HR K m h H ∧ UAll K m H xs us ∧ Fin K (fun _ _ _ => False) (relV K) m H (biU f us h) Q
theorem biU_noexc {f : Bi} {us : List U} {h : Hs} {c : String} {x : D} {h' : Hs} : biU f us h ≠ .exc c x h' := by
  intro e
  unfold biU at e
  split at e
  · exact bi1_noexc e
  · unfold bi2 at e; split at e <;> cases e
  · cases e
theorem bi2_pre {A B : E} {As : List E} {f : Bi} {σ : L2.St} {H : Hp} {Q : VK} (q : tE X.K W (den C (.bi f (A :: B :: As))) σ H Q) : tCB (rBi2 X.K f) (tA X.K W (dens C (A :: B :: As))) σ H Q := by
  obtain ⟨ρ, m, h, er, hr, fin⟩ := q
  have fin : Fin _ _ (relV X.K) m H ((evs (dens C (A :: B :: As)) ρ h).bind fun us h1 => biU f us h1) Q := fin
  refine ⟨ρ, m, h, er, hr, (Fin.bind (rel1 := relA X.K) old_V fin).imp ?_⟩
  rintro vs H1 ⟨m1, h1, us, g1, hr1, r1, fin1⟩
  exact ⟨m1, h1, us, hr1, r1, noexc (fun c x h' => biU_noexc) fin1⟩
theorem se_bi2 {f : Bi} {id : String} {x : Str} {e e2 : Expr} {es : List Expr} {A B : E} {As : List E} {p pos : Pos} (hc : CallR X (.builtin id) (rBi2 X.K f)) (hm : X.mg x = none) (hv : bootBuiltins x = some (.builtin id)) (ha : AX X W C (e :: e2 :: es) (A :: B :: As)) (hg : Gl X x := by rfl) (hn : x ≠ "__name__" := by decide) (hdb : (x == ("__debug__" : Str)) = false := by decide)
    (he : starEach (e :: e2 :: es) X.env = (false, eval e X.env) :: starEach (e2 :: es) X.env := by rfl) (hpl : (backTo pos (starEach (e2 :: es) X.env)).any (·.1) = false := by rfl) : SX X W C (.Call (.Name x p) (e :: e2 :: es) [] pos) (.bi f (A :: B :: As)) :=
  PE.imp (pe_callB hc hg hm hv ha hn hdb he hpl) fun _ _ _ q => bi2_pre q
theorem UAll.two {K : PySem.W.Frag} {m : List Addr} {H : Hp} {vs : List V} {u v : U} (x : UAll K m H vs [u, v]) : ∃ a b, vs = [a, b] ∧ UR K m H a u ∧ UR K m H b v := by
  match vs, x with
  | [a, b], x => exact ⟨a, b, rfl, x.1, x.2.1⟩
theorem bi_two {f : Bi} {us : List U} {h : Hs} {r : R U} (hf : f = .max2 ∨ f = .min2) (e : biU f us h = r) (hr : r ≠ .stuck) : ∃ i j, us = [.d (.int i), .d (.int j)] := by
  subst e
  unfold biU at hr
  split at hr
  · rcases hf with rfl | rfl <;> exact absurd rfl hr
  · rcases hf with rfl | rfl <;> unfold bi2 at hr <;> split at hr <;> first | exact ⟨_, _, rfl⟩ | exact absurd rfl hr | simp_all
  · exact absurd rfl hr
theorem cb_max2 (hc : X.calm = true) : CallR X (.builtin "max") (rBi2 X.K .max2) := by
  intro pins s σ H xs us Q I r ⟨m, h, as, hr, xa, fin⟩
  have hns : biU .max2 as h ≠ .stuck := fun e => by rw [e] at fin; exact fin
  obtain ⟨i, j, rfl⟩ := bi_two (.inl rfl) rfl hns
  obtain ⟨a, b, rfl, ra, rb⟩ := xa.two
  exact call_max2 hc pins s σ H _ us Q I r ⟨i, j, by rw [dp_int ra, dp_int rb], Fin.ok hr fin (mk_int _)⟩
theorem cb_min2 (hc : X.calm = true) : CallR X (.builtin "min") (rBi2 X.K .min2) := by
  intro pins s σ H xs us Q I r ⟨m, h, as, hr, xa, fin⟩
  have hns : biU .min2 as h ≠ .stuck := fun e => by rw [e] at fin; exact fin
  obtain ⟨i, j, rfl⟩ := bi_two (.inr rfl) rfl hns
  obtain ⟨a, b, rfl, ra, rb⟩ := xa.two
  exact call_min2 hc pins s σ H _ us Q I r ⟨i, j, by rw [dp_int ra, dp_int rb], Fin.ok hr fin (mk_int _)⟩

/-! ### methods of lists -/
theorem grow_set {K : PySem.W.Frag} {m : List Addr} {H : Hp} {a : Addr} {vs : List V} {i : Nat} {o : HO} (ea : m[i]? = some a) : Grow m H m (upd H a o) := by
  refine ⟨⟨[], by simp, by simp⟩, fun b q e hn => ?_, fun b q e => ?_⟩
  · have : b ≠ a := fun z => hn (z ▸ List.mem_of_getElem? ea)
    rw [upd_ne this]; exact e
  · by_cases z : b = a
    · subst z; exact ⟨o, upd_same⟩
    · exact ⟨q, by rw [upd_ne z]; exact e⟩
theorem keep_set {H : Hp} {a : Addr} {vs : List V} {o : HO} (e0 : H a = some (.lst vs)) : Keep H (upd H a o) := by
  refine ⟨fun b ws e => ?_, fun b q u e => ?_⟩
  · rw [upd_ne (ne_of e e0 (by intro z; cases z))]; exact e
  · rw [upd_ne (ne_of e e0 (by intro z; cases z))]; exact e
theorem hr_set {K : PySem.W.Frag} {m : List Addr} {h : Hs} {H : Hp} {a : Addr} {vs ws : List V} {i : Nat} {ys : List D} (hr : HR K m h H) (ea : m[i]? = some a) (e0 : H a = some (.lst vs)) (d : DpAll K H ws (D.pys ys)) :
    HR K m (h.set i (.lst ys)) (upd H a (.lst ws)) := by
  have kp : Keep H (upd H a (.lst ws)) := keep_set e0
  refine ⟨by simp [hr.len], hr.nd, fun j o b e1 e2 => ?_⟩
  by_cases z : j = i
  · subst z
    rw [ea] at e2; cases e2
    have hj : j < h.length := by rw [← hr.len]; exact (List.getElem?_eq_some_iff.mp ea).1
    rw [List.getElem?_set_self hj] at e1; cases e1
    exact ⟨ws, upd_same, dps_keeps kp ys ws d⟩
  · have hne : b ≠ a := fun q => by
      subst q
      exact z ((List.getElem?_inj (List.getElem?_eq_some_iff.mp e2).1 hr.nd).mp (e2.trans ea.symm))
    rw [List.getElem?_set_ne (Ne.symm z)] at e1
    have x := hr.at_ j o b e1 e2
    cases o with
    | lst xs =>
      obtain ⟨us, q, d2⟩ := x
      exact ⟨us, by rw [upd_ne hne]; exact q, dps_keeps kp xs us d2⟩
def rMe (K : PySem.W.Frag) (f : Me) : V → List V → Hp → VK → Prop := fun x vs H Q => ∃ m h u w y, vs = [y] ∧ HR K m h H ∧ VA K m H x u ∧ VA K m H y w ∧ Fin K (fun _ _ _ => False) (relV K) m H (methR f u w h) Q
theorem methR_noexc {f : Me} {u v : U} {h : Hs} {c : String} {x : D} {h' : Hs} : methR f u v h ≠ .exc c x h' := by
  intro e
  unfold methR at e
  repeat' split at e
  all_goals cases e
theorem methR_obj {f : Me} {u v : U} {h : Hs} (hr : methR f u v h ≠ .stuck) : ∃ n xs, u = .obj n ∧ h[n]? = some (.lst xs) := by
  unfold methR at hr
  split at hr
  · split at hr
    · exact ⟨_, _, rfl, by assumption⟩
    · exact absurd rfl hr
  · split at hr
    · exact ⟨_, _, rfl, by assumption⟩
    · exact absurd rfl hr
  · exact absurd rfl hr
theorem se_meth {f : Me} {id : String} {o e : Expr} {A B : E} {name : Str} {apos cpos : Pos} (pa : PlainAttrs "list") (slot : Slot "list" name id) (hty : typeOf (.builtin id) = pure (.type "method_descriptor")) (hmt : MtR X id (rMe X.K f))
    (ho : SX X W C o A) (he : SX X W C e B) (hs : starEach [e] X.env = (false, eval e X.env) :: starEach [] X.env := by rfl)
    (hbase : attributeBase o name X.env (eval o X.env) = eval o X.env := by rfl)
    (hfew : ((backTo cpos (starEach [e] X.env)).all (fun x => !x.1) && (backToKw cpos (keywordEach [] X.env)).all (fun x => x.1.isSome)
      && decide ([e].length + ([] : List Keyword).length + (if ([] : List Keyword).isEmpty then 0 else 1) < 30)) = true := by rfl)
    (hline : (apos.endLine == cpos.line) = true := by rfl) : SX X W C (.Call (.Attribute o name apos) [e] [] cpos) (.meth f A [B]) := by
  refine PE.imp (pe_bm pa slot hty hmt ho (pa_cons he pa_nil hs) hbase hfew hline hs) fun σ H Q => ?_
  rintro ⟨ρ, m, h, er, hr, fin⟩
  refine ⟨ρ, m, h, er, hr, (Fin.bind (rel1 := relV X.K) old_V fin).imp ?_⟩
  rintro x H1 ⟨m1, h1, u, g1, hr1, r1, fin1⟩
  have er1 := er.grow hr g1
  split at fin1
  · rename_i hl
    have hx : ∃ n xs, u = .obj n ∧ h1[n]? = some (.lst xs) := by
      unfold lstU at hl
      split at hl
      · split at hl
        · exact ⟨_, _, rfl, by assumption⟩
        · cases hl
      · cases hl
    obtain ⟨n, xs, rfl, en⟩ := hx
    obtain ⟨a, ea, rfl⟩ := r1
    obtain ⟨vs, q, d⟩ := hr1.at_ n _ a en ea
    refine ⟨.inl ⟨rfl, vs, SqL.of q⟩, ρ, m1, h1, er1, hr1, (Fin.bind (rel1 := relV X.K) old_V fin1).imp ?_⟩
    rintro y H2 ⟨m2, h2, w, g2, hr2, r2, fin2⟩
    exact ⟨m2, h2, .obj n, w, y, rfl, hr2, ⟨a, g2.get ea, rfl⟩, r2.any, noexc (fun c x h' => methR_noexc) fin2⟩
  · exact False.elim fin1
theorem me_append : MtR X "list.append" (rMe X.K .append) := by
  intro pins s σ H x vs v us Q I rx rvs ⟨m, h, u, w, y, hy, hr, xa, yb, fin⟩
  subst hy
  obtain ⟨n, xs, rfl, en⟩ := methR_obj (f := .append) (u := u) (v := w) (h := h) (fun e => by rw [e] at fin; exact fin)
  obtain ⟨a, ea, rfl⟩ := xa
  obtain ⟨ws, q, d⟩ := hr.at_ n _ a en ea
  simp only [methR, en] at fin
  split at fin
  · rename_i xs' z e1
    cases e1
    split at fin
    · rename_i hz
      have yb : Dp X.K H y z.py := yb
      have kp := keep_set (o := .lst (ws ++ [y])) q
      have d2 : DpAll X.K H (ws ++ [y]) (D.pys (xs ++ [z])) := dps_app d (by simp only [D.pys]; exact .cons yb .nil)
      exact mt_append pins s σ H _ _ v us Q I rx rvs ⟨a, ws, y, rfl, rfl, q, by rw [dps_len d]; exact hz,
        fin _ _ m (grow_set (K := X.K) (vs := ws) ea) (hr_set hr ea q d2) mk_non⟩
    · exact False.elim fin
  · exact False.elim fin
open PySem.AutoSeq1 (wpAny_loadPart') in
theorem ext_tup (l b : Addr) (xs ys : Array Value) (n n2 : Nat) (dd : Option Addr) (sl : Array (Option Value)) (h1 : ¬(!xs.isEmpty && Builtin.List.listTooLong (xs.size + ys.size)) = true) (h2 : xs.size ≤ sizeLine) (h3 : (xs ++ ys).size ≤ sizeLine + 1) :
    Meets (Builtin.«list.extend» ⟨[.ref l, .ref b], []⟩) (fun _ G z => z.heap.get? l = some { cls := .type "list", data := .seq xs n } ∧ z.heap.get? b = some { cls := .type "tuple", dict := dd, data := .seq ys n2, slots := sl } ∧
      G (.ok (.ret Value.none)) { z with heap := z.heap.update l (Obj.mapSeq fun x => x ++ ys), toks := z.toks }) :=
  .of_wp fun prog w A G z q => by
    obtain ⟨hp, gs, dr, tk, os⟩ := z
    obtain ⟨hl, hb, q⟩ := q
    have f1 := AutoSeq1.idx_int
    have f2 := AutoSeq1.sub_tuple_tuple
    have f3 := AutoSeq1.sub_list_list
    have f4 := AutoSeq1.sub_tuple_list
    have f5 := AutoSeq1.sub_list_tuple
    wp_walk using (wpAny_updateSeq hl rfl (hz := h2) (_hz' := h3)), wpAny_loadPart' hl, wpAny_loadPart' hb
    exact ⟨_, rfl, q⟩
/-- xs.extend(a list or a tuple that is read) -/
theorem mt_extendA : MtM X "list.extend" (fun x vs H Q => ∃ l b xs zs, x = .ref l ∧ vs = [.ref b] ∧ H l = some (.lst xs) ∧ (H b = some (.lst zs) ∨ SqT X.K H b zs) ∧ xs.length + zs.length ≤ sizeLine ∧ Q .non (upd H l (.lst (xs ++ zs)))) := by
  intro pins s σ H x vs v us Q I rx rv h
  obtain ⟨l, b, xs, zs, rfl, rfl, hH, hB, hz, q⟩ := h
  rcases hB with hB | hB
  · exact mt_extend pins s σ H _ _ v us Q I rx rv ⟨l, b, xs, zs, rfl, rfl, hH, hB, hz, q⟩
  cases rx
  obtain ⟨u, rfl, ru⟩ := rv.one
  cases ru
  obtain ⟨z, its, n, r, hl, e⟩ := I.lstM hH
  obtain ⟨its2, r2, ⟨⟨cls, dd, data, sls⟩, e2, hc, n2, hd⟩, hl2⟩ := I.tuple hB
  simp only at hc hd
  subst hc hd
  have l2 := r2.length
  have s1 : its.toArray.size + its2.toArray.size ≤ sizeLine := by simp only [List.size_toArray]; omega
  have s2 : ¬(!its.toArray.isEmpty && Builtin.List.listTooLong (its.toArray.size + its2.toArray.size)) = true := by
    rw [notLongL s1, Bool.and_false]; exact Bool.false_ne_true
  refine call_meets F.slot_list_extend ⟨_, e, rfl⟩ F.entry_list_extend (F.args_list_extend_2 _ _) (ext_tup l b its.toArray its2.toArray n n2 dd sls s2 (by omega) (by rw [Array.size_append]; omega)) ⟨e, e2, ?_⟩
  exact ⟨.non, _, I.lset (its' := its ++ its2) hH e (by simp) (r.append r2) (by rw [List.length_append]; exact hz), rfl, q⟩
theorem me_extend : MtR X "list.extend" (rMe X.K .extend) := by
  intro pins s σ H x vs v us Q I rx rvs ⟨m, h, u, w, y, hy, hr, xa, yb, fin⟩
  subst hy
  obtain ⟨n, xs, rfl, en⟩ := methR_obj (f := .extend) (u := u) (v := w) (h := h) (fun e => by rw [e] at fin; exact fin)
  obtain ⟨a, ea, rfl⟩ := xa
  obtain ⟨ws, q, d⟩ := hr.at_ n _ a en ea
  simp only [methR, en] at fin
  split at fin
  · rename_i z ys e1 e2
    cases e1
    split at fin
    · rename_i hz
      have e3 : itemsU w h = some ys ∧ ∀ xs, w ≠ .ro xs := by
        unfold itemsE at e2
        split at e2
        · cases e2
        · rename_i hne
          exact ⟨e2, fun xs z => hne xs z⟩
      obtain ⟨b, zs, rfl, sq, d2⟩ := items_of hr yb e3.1
      have sq2 : H b = some (.lst zs) ∨ SqT X.K H b zs := by
        rcases sq with sq | sq
        · refine .inl ?_
          cases w with
          | d x =>
            obtain ⟨e4, _⟩ := e3
            cases x with
            | tup xs =>
              obtain ⟨a1, vs1, r1, s1, _⟩ := dp_tup yb
              cases r1
              obtain ⟨its, _, ⟨o1, n1, q1, c1, _, _⟩, _⟩ := I.list sq
              obtain ⟨its', _, ⟨o2, q2, c2, _⟩, _⟩ := I.tuple s1
              rw [q1] at q2; cases q2
              rw [c1] at c2
              exact absurd c2 (by decide)
            | non => cases e4
            | bl _ => cases e4
            | int _ => cases e4
            | str _ => cases e4
          | obj i =>
            obtain ⟨a1, r1, r2⟩ := yb
            cases r2
            have hi : i < h.length := by rw [← hr.len]; exact (List.getElem?_eq_some_iff.mp r1).1
            obtain ⟨vs1, q1⟩ := (hr.at_ i h[i] _ (by simp [hi]) r1).lst_of
            rw [I.list_inj sq (SqL.of q1)]; exact q1
          | tmp o =>
            obtain ⟨a1, r1, _, _, k1⟩ := yb
            cases r1
            obtain ⟨vs1, q1⟩ := k1.lst_of
            rw [I.list_inj sq (SqL.of q1)]; exact q1
          | ro xs => exact absurd rfl (e3.2 xs)
        · exact .inr sq
      exact mt_extendA pins s σ H _ _ v us Q I rx rvs ⟨a, b, ws, zs, rfl, rfl, q, sq2, by rw [dps_len d, dps_len d2]; exact hz,
        fin _ _ m (grow_set (K := X.K) (vs := ws) ea) (hr_set hr ea q (dps_app d d2)) mk_non⟩
    · exact False.elim fin
  · exact False.elim fin
end
end EV
end

section
set_option Elab.async false
set_option linter.all false
set_option autoImplicit false
set_option maxRecDepth 100000
/-! EV, part G: what is walked; comprehensions. -/
namespace EV
open PySem PySem.Spec L2

structure ItOk (K : PySem.W.Frag) (m1 : List Addr) (H1 : Hp) (I : IterD) (J : It) : Prop where
  go : ∀ m' h' H' (i : Nat) x, Grow m1 H1 m' H' → HR K m' h' H' → IterD.ok I.watch h' = true → I.xs[i]? = some x → J.go i H' ∧ ∀ v H'', J.yld i H' v H'' → Grow m' H' m' H'' ∧ HR K m' h' H'' ∧ Dp K H'' v x.py
  stop : ∀ m' h' H', Grow m1 H1 m' H' → HR K m' h' H' → IterD.ok I.watch h' = true → J.stop I.xs.length H'
abbrev relI (K : PySem.W.Frag) : Hp → List Addr → Hp → It → IterD → Prop := fun _ m H J I => ItOk K m H I J
theorem old_I {K : PySem.W.Frag} : Old (relI K) := fun _ _ _ _ _ _ _ x => x
def tI (K : PySem.W.Frag) (W : WX) (d : Den) : TI := fun σ H R => ∃ ρ m h, EnvR K m H σ ρ ∧ HR K m h H ∧ Fin K (fun cls dd H' => W cls dd σ H') (relI K) m H (d.i ρ h) R
theorem PI.imp {X : Cx} {tg e : Expr} {t t' : TI} (h : PI X tg e t) (i : ∀ σ H Q, t' σ H Q → t σ H Q) : PI X tg e t' := ⟨fun pins s σ H Q I q => h.run pins s σ H Q I (i σ H Q q)⟩
theorem PI.or {X : Cx} {tg e : Expr} {t t' : TI} (h : PI X tg e t) (h' : PI X tg e t') : PI X tg e fun σ H R => t σ H R ∨ t' σ H R :=
  ⟨fun pins s σ H Q I q => q.elim (fun z => h.run pins s σ H Q I z) fun z => h'.run pins s σ H Q I z⟩
section
variable {X : Cx} {W : WX} {C : Cc} {K : PySem.W.Frag} {m : List Addr} {H : Hp} {h : Hs}
abbrev IX (X : Cx) (W : WX) (C : Cc) (tg e : Expr) (ê : E) : Prop := PI X tg e (tI X.K W (den C ê))

/-! a list, a tuple, as it stands at each turn -/
/-- what stays of a walked list while the loop runs -/
def Stays (K : PySem.W.Frag) (m : List Addr) (H : Hp) (w : Option (Nat × MO)) (P : Hp → List V → Prop) (xs : List D) : Prop :=
  ∀ m' h' H', Grow m H m' H' → HR K m' h' H' → IterD.ok w h' = true → ∃ vs, P H' vs ∧ DpAll K H' vs (D.pys xs)
/-- a list of some kind -/
def LstKind (u : U) (h : Hs) (I : IterD) : Prop := (∃ i, u = .obj i ∧ h[i]? = some (.lst I.xs) ∧ I.watch = some (i, .lst I.xs)) ∨ u = .tmp (.lst I.xs) ∨ u = .ro I.xs
theorem seq_cases {u : U} {I : IterD} {h' : Hs} (e : seqItr u h = .ok I h') : h' = h ∧ ((u = .d (.tup I.xs) ∧ I.watch = none) ∨ LstKind u h I) := by
  unfold seqItr at e
  split at e
  · cases e; exact ⟨rfl, .inl ⟨rfl, rfl⟩⟩
  · split at e
    · cases e; exact ⟨rfl, .inr (.inl ⟨_, rfl, by assumption, rfl⟩)⟩
    · cases e
  · cases e; exact ⟨rfl, .inr (.inr (.inl rfl))⟩
  · cases e; exact ⟨rfl, .inr (.inr (.inr rfl))⟩
  · cases e
theorem seq_noexc {u : U} {c : String} {x : D} {h' : Hs} : seqItr u h ≠ .exc c x h' := by
  intro e
  unfold seqItr at e
  repeat' split at e
  all_goals cases e
theorem stays_tup {v : V} {xs : List D} (hr : HR K m h H) (r : VA K m H v (.d (.tup xs))) (w : Option (Nat × MO)) : ∃ a, v = .ref a ∧ (∃ vs, SqT K H a vs) ∧ Stays K m H w (fun H' vs => SqT K H' a vs) xs := by
  obtain ⟨a, vs, rfl, s, d⟩ := dp_tup r
  exact ⟨a, rfl, ⟨vs, s⟩, fun m' h' H' g hr' _ => ⟨vs, SqT.keeps (g.keeps hr) s, dps_keeps (g.keeps hr) _ vs d⟩⟩
theorem stays_lst {u : U} {v : V} {I : IterD} (hr : HR K m h H) (r : VA K m H v u) (k : LstKind u h I) : ∃ a, v = .ref a ∧ (∃ vs, SqL K H a vs) ∧ Stays K m H I.watch (fun H' vs => SqL K H' a vs) I.xs := by
  rcases k with ⟨i, rfl, eh, ew⟩ | rfl | rfl
  · obtain ⟨a, ea, rfl⟩ := r
    obtain ⟨vs, q, d⟩ := hr.at_ _ _ a eh ea
    refine ⟨a, rfl, ⟨vs, SqL.of q⟩, fun m' h' H' g hr' ok => ?_⟩
    rw [ew] at ok
    simp only [IterD.ok, decide_eq_true_eq] at ok
    obtain ⟨vs', q', d'⟩ := hr'.at_ i _ a ok (g.get ea)
    exact ⟨vs', SqL.of q', d'⟩
  · obtain ⟨a, rfl, hn, h0, vs, q, d⟩ := r
    exact ⟨a, rfl, ⟨vs, SqL.of q⟩, fun m' h' H' g hr' _ => ⟨vs, SqL.of (g.keep a _ q hn), dps_keeps (g.keeps hr) _ vs d⟩⟩
  · obtain ⟨a, vs, rfl, q, d⟩ := r
    exact ⟨a, rfl, ⟨vs, q.seq⟩, fun m' h' H' g hr' _ => ⟨vs, (RoL.keeps (g.keeps hr) q).seq, dps_keeps (g.keeps hr) _ vs d⟩⟩
theorem itok_list {I : IterD} {a : Addr} (s : Stays K m H I.watch (fun H' vs => SqL K H' a vs) I.xs) : ItOk K m H I (Itl K a) := by
  refine ⟨fun m' h' H' i x g hr ok e => ?_, fun m' h' H' g hr ok => ?_⟩
  · obtain ⟨vs, q, d⟩ := s m' h' H' g hr ok
    obtain ⟨v, ev, dv⟩ := dps_get d e
    refine ⟨⟨vs, v, q, ev⟩, fun y H'' z => ?_⟩
    obtain ⟨rfl, z⟩ := z
    have := z vs q
    rw [ev] at this; cases this
    exact ⟨Grow.refl, hr, dv⟩
  · obtain ⟨vs, q, d⟩ := s m' h' H' g hr ok
    exact ⟨vs, q, by rw [dps_len d]; exact Nat.le_refl _⟩
theorem itok_tup {I : IterD} {a : Addr} (s : Stays K m H I.watch (fun H' vs => SqT K H' a vs) I.xs) : ItOk K m H I (Itt K a) := by
  refine ⟨fun m' h' H' i x g hr ok e => ?_, fun m' h' H' g hr ok => ?_⟩
  · obtain ⟨vs, q, d⟩ := s m' h' H' g hr ok
    obtain ⟨v, ev, dv⟩ := dps_get d e
    refine ⟨⟨vs, v, q, ev⟩, fun y H'' z => ?_⟩
    obtain ⟨rfl, z⟩ := z
    have := z vs q
    rw [ev] at this; cases this
    exact ⟨Grow.refl, hr, dv⟩
  · obtain ⟨vs, q, d⟩ := s m' h' H' g hr ok
    exact ⟨vs, q, by rw [dps_len d]; exact Nat.le_refl _⟩
theorem si_seq {tg e : Expr} {A : E} (ha : SX X W C e A) (hd : (den C A).i = fun ρ h => ((den C A).v ρ h).bind seqItr := by rfl) : IX X W C tg e A := by
  refine PI.imp (PI.or (pi_list ha) (pi_tup ha)) fun σ H R => ?_
  rintro ⟨ρ, m, h, er, hr, fin⟩
  rw [hd] at fin
  cases hv : (den C A).v ρ h with
  | stuck => simp only [hv] at fin; exact False.elim fin
  | exc c x h1 => simp only [hv] at fin; exact .inl ⟨ρ, m, h, er, hr, by rw [hv]; exact fin⟩
  | ok u h1 =>
    simp only [hv] at fin
    change Fin _ _ _ _ _ (seqItr u h1) R at fin
    cases hs : seqItr u h1 with
    | stuck => rw [hs] at fin; exact False.elim fin
    | exc c x h2 => exact absurd hs seq_noexc
    | ok I h2 =>
      rw [hs] at fin
      obtain ⟨rfl, ⟨rfl, ew⟩ | k⟩ := seq_cases hs
      · refine .inr ⟨ρ, m, h, er, hr, ?_⟩
        rw [hv]
        intro x H' m' g hr' r
        obtain ⟨a, rfl, s, st⟩ := stays_tup hr' r I.watch
        exact ⟨a, rfl, s, fin (Itt X.K a) H' m' g hr' (itok_tup st)⟩
      · refine .inl ⟨ρ, m, h, er, hr, ?_⟩
        rw [hv]
        intro x H' m' g hr' r
        obtain ⟨a, rfl, s, st⟩ := stays_lst hr' r.any k
        exact ⟨a, rfl, s, fin (Itl X.K a) H' m' g hr' (itok_list st)⟩
/-! range -/
theorem ints_get : ∀ (n : Nat) (lo : Int) (i : Nat) (x : D), (intsD lo n)[i]? = some x → i < n ∧ x = .int (lo + i)
  | 0, lo, i, x, e => by simp [intsD] at e
  | n + 1, lo, 0, x, e => by simp [intsD] at e; exact ⟨by omega, by subst e; simp⟩
  | n + 1, lo, i + 1, x, e => by
    simp only [intsD, List.getElem?_cons_succ] at e
    obtain ⟨h1, rfl⟩ := ints_get n (lo + 1) i x e
    refine ⟨by omega, ?_⟩
    congr 1
    omega
theorem ints_len : ∀ (n : Nat) (lo : Int), (intsD lo n).length = n
  | 0, lo => rfl
  | n + 1, lo => by simp [intsD, ints_len n]
theorem itok_rng {lo : Int} {n : Nat} : ItOk K m H ⟨intsD lo n, none⟩ (L2.Itr lo n) := by
  refine ⟨fun m' h' H' i x g hr ok e => ?_, fun m' h' H' g hr ok => ?_⟩
  · obtain ⟨h1, rfl⟩ := ints_get n lo i x e
    refine ⟨h1, fun y H'' z => ?_⟩
    obtain ⟨rfl, rfl⟩ := z
    exact ⟨Grow.refl, hr, mk_int _⟩
  · show n ≤ (intsD lo n).length
    rw [ints_len]; exact Nat.le_refl _
theorem UAll.one {K : PySem.W.Frag} {m : List Addr} {H : Hp} {vs : List V} {u : U} (x : UAll K m H vs [u]) : ∃ a, vs = [a] ∧ UR K m H a u := by
  match vs, x with
  | [a], x => exact ⟨a, rfl, x.1⟩
theorem si_rng1 {tg a : Expr} {A : E} {p pos : Pos} (hm : X.mg "range" = none) (ha : AX X W C [a] [A]) (hg : Gl X "range" := by rfl) (hs : starEach [a] X.env = [(false, eval a X.env)] := by rfl) : IX X W C tg (.Call (.Name "range" p) [a] [] pos) (.rng1 A) := by
  refine PI.imp (pi_range1 hg hm ha hs) fun σ H R => ?_
  rintro ⟨ρ, m, h, er, hr, fin⟩
  refine ⟨ρ, m, h, er, hr, (Fin.bind (rel1 := relA X.K) old_I fin).imp ?_⟩
  rintro vs H1 ⟨m1, h1, us, g1, hr1, r1, fin1⟩
  unfold rng1Itr at fin1
  split at fin1
  · rename_i j
    split at fin1
    · rename_i c
      obtain ⟨v, rfl, rv⟩ := r1.one
      exact ⟨j, by rw [dp_int rv], c.1, c.2, fin1 _ _ m1 Grow.refl hr1 itok_rng⟩
    · exact False.elim fin1
  · exact False.elim fin1
theorem si_rng2 {tg a b : Expr} {A B : E} {p pos : Pos} (hm : X.mg "range" = none) (ha : AX X W C [a, b] [A, B]) (hg : Gl X "range" := by rfl) (hs : starEach [a, b] X.env = [(false, eval a X.env), (false, eval b X.env)] := by rfl) (hs2 : starEach [b] X.env = [(false, eval b X.env)] := by rfl) :
    IX X W C tg (.Call (.Name "range" p) [a, b] [] pos) (.rng2 A B) := by
  refine PI.imp (pi_range2 hg hm ha hs hs2) fun σ H R => ?_
  rintro ⟨ρ, m, h, er, hr, fin⟩
  refine ⟨ρ, m, h, er, hr, (Fin.bind (rel1 := relA X.K) old_I fin).imp ?_⟩
  rintro vs H1 ⟨m1, h1, us, g1, hr1, r1, fin1⟩
  unfold rng2Itr at fin1
  split at fin1
  · rename_i i j
    split at fin1
    · rename_i c
      obtain ⟨v, w, rfl, rv, rw'⟩ := r1.two
      exact ⟨i, j, by rw [dp_int rv, dp_int rw'], ⟨c.1.1, c.1.2, c.2.1, c.2.2⟩, fin1 _ _ m1 Grow.refl hr1 itok_rng⟩
    · exact False.elim fin1
  · exact False.elim fin1

/-! enumerate -/
theorem enum_get : ∀ (xs : List D) (c : Int) (i : Nat) (y : D), (enumD c xs)[i]? = some y → ∃ x, xs[i]? = some x ∧ y = .tup [.int (c + i), x]
  | [], c, i, y, e => by simp [enumD] at e
  | x :: xs, c, 0, y, e => by simp [enumD] at e; exact ⟨x, rfl, by rw [← e]; simp⟩
  | x :: xs, c, i + 1, y, e => by
    simp only [enumD, List.getElem?_cons_succ] at e
    obtain ⟨z, e1, rfl⟩ := enum_get xs (c + 1) i y e
    refine ⟨z, by simpa using e1, ?_⟩
    have : c + 1 + (i : Int) = c + ((i + 1 : Nat) : Int) := by omega
    rw [this]
theorem enum_len : ∀ (xs : List D) (c : Int), (enumD c xs).length = xs.length
  | [], _ => rfl
  | x :: xs, c => by simp [enumD, enum_len xs]
theorem pair_new {m' : List Addr} {h' : Hs} {H' : Hp} {T : Addr} {v w : V} {x y : D} (hr : HR K m' h' H') (hT : H' T = none) (a : Dp K H' v x.py) (b : Dp K H' w y.py) :
    Grow m' H' m' (upd H' T (.tup [v, w])) ∧ HR K m' h' (upd H' T (.tup [v, w])) ∧ Dp K (upd H' T (.tup [v, w])) (.ref T) (D.tup [x, y]).py :=
  ⟨grow_new hT, hr.new hT, vr_tup (H0 := H') hr hT (by simp only [D.pys]; exact .cons a (.cons b .nil))⟩
theorem itok_enumL {I : IterD} {a : Addr} (s : Stays K m H I.watch (fun H' vs => SqL K H' a vs) I.xs) : ItOk K m H ⟨enumD 0 I.xs, I.watch⟩ (Ite K a) := by
  refine ⟨fun m' h' H' i y g hr ok e => ?_, fun m' h' H' g hr ok => ?_⟩
  · obtain ⟨x, e1, rfl⟩ := enum_get _ _ _ _ e
    obtain ⟨vs, q, d⟩ := s m' h' H' g hr ok
    obtain ⟨v, ev, dv⟩ := dps_get d e1
    refine ⟨⟨vs, v, q, ev⟩, fun w H'' z => ?_⟩
    obtain ⟨T, w1, rfl, hT, rfl, z⟩ := z
    have := z vs q
    rw [ev] at this; cases this
    have p := pair_new hr hT (mk_int (i : Int)) dv
    simpa using p
  · obtain ⟨vs, q, d⟩ := s m' h' H' g hr ok
    exact ⟨vs, q, by show vs.length ≤ (enumD 0 I.xs).length; rw [enum_len, dps_len d]; exact Nat.le_refl _⟩
theorem itok_enumT {I : IterD} {a : Addr} (s : Stays K m H I.watch (fun H' vs => SqT K H' a vs) I.xs) : ItOk K m H ⟨enumD 0 I.xs, I.watch⟩ (IteT K a) := by
  refine ⟨fun m' h' H' i y g hr ok e => ?_, fun m' h' H' g hr ok => ?_⟩
  · obtain ⟨x, e1, rfl⟩ := enum_get _ _ _ _ e
    obtain ⟨vs, q, d⟩ := s m' h' H' g hr ok
    obtain ⟨v, ev, dv⟩ := dps_get d e1
    refine ⟨⟨vs, v, q, ev⟩, fun w H'' z => ?_⟩
    obtain ⟨T, w1, rfl, hT, rfl, z⟩ := z
    have := z vs q
    rw [ev] at this; cases this
    have p := pair_new hr hT (mk_int (i : Int)) dv
    simpa using p
  · obtain ⟨vs, q, d⟩ := s m' h' H' g hr ok
    exact ⟨vs, q, by show vs.length = (enumD 0 I.xs).length; rw [enum_len, dps_len d]⟩
theorem si_enum {e : Expr} {A : E} {p pos tpos : Pos} {elts : List Expr} {kk : Nat} (hm : X.mg "enumerate" = none) (ha : SX X W C e A) (hg : Gl X "enumerate" := by rfl) (hs : starEach [e] X.env = [(false, eval e X.env)] := by rfl) :
    IX X W C (.Tuple elts kk tpos) (.Call (.Name "enumerate" p) [e] [] pos) (.enum A) := by
  refine PI.imp (pi_enumA hg hm (pa_cons ha pa_nil hs) hs) fun σ H R => ?_
  rintro ⟨ρ, m, h, er, hr, fin⟩
  refine ⟨ρ, m, h, er, hr, (Fin.bind (rel1 := relV X.K) old_I fin).imp ?_⟩
  rintro x H1 ⟨m1, h1, u, g1, hr1, r1, fin1⟩
  cases hs : seqItr u h1 with
  | stuck => simp only [hs] at fin1; exact False.elim fin1
  | exc c x h2 => exact absurd hs seq_noexc
  | ok I h2 =>
    simp only [hs] at fin1
    obtain ⟨rfl, ⟨rfl, ew⟩ | k⟩ := seq_cases hs
    · obtain ⟨a, rfl, ⟨vs, s⟩, st⟩ := stays_tup hr1 r1.any I.watch
      exact ⟨a, vs, rfl, .inr ⟨s, fin1 _ H1 m1 Grow.refl hr1 (itok_enumT st)⟩⟩
    · obtain ⟨a, rfl, ⟨vs, s⟩, st⟩ := stays_lst hr1 r1.any k
      exact ⟨a, vs, rfl, .inl ⟨s, fin1 _ H1 m1 Grow.refl hr1 (itok_enumL st)⟩⟩
/-! zip of two tuples -/
theorem zip_get : ∀ (xs ys : List D) (i : Nat) (z : D), (zipD xs ys)[i]? = some z → ∃ x y, xs[i]? = some x ∧ ys[i]? = some y ∧ z = .tup [x, y]
  | [], _, i, z, e => by simp [zipD] at e
  | _ :: _, [], i, z, e => by simp [zipD] at e
  | x :: xs, y :: ys, 0, z, e => by simp [zipD] at e; exact ⟨x, y, rfl, rfl, e.symm⟩
  | x :: xs, y :: ys, i + 1, z, e => by
    simp only [zipD, List.getElem?_cons_succ] at e
    obtain ⟨a, b, e1, e2, rfl⟩ := zip_get xs ys i z e
    exact ⟨a, b, by simpa using e1, by simpa using e2, rfl⟩
theorem zip_len : ∀ (xs ys : List D), (zipD xs ys).length = min xs.length ys.length
  | [], _ => by simp [zipD]
  | _ :: _, [] => by simp [zipD]
  | x :: xs, y :: ys => by simp [zipD, zip_len xs ys]
theorem si_zip {e e2 : Expr} {A B : E} {p pos tpos : Pos} {elts : List Expr} {kk : Nat} (hm : X.mg "zip" = none) (ha : AX X W C [e, e2] [A, B]) (hg : Gl X "zip" := by rfl)
    (hs : starEach [e, e2] X.env = (false, eval e X.env) :: starEach [e2] X.env := by rfl) (hpl : (backTo pos (starEach [e2] X.env)).any (·.1) = false := by rfl) :
    IX X W C (.Tuple elts kk tpos) (.Call (.Name "zip" p) [e, e2] [] pos) (.zip A B) := by
  refine PI.imp (RZ.pi_zipA hg hm ha hs hpl) fun σ H R => ?_
  rintro ⟨ρ, m, h, er, hr, fin⟩
  refine ⟨ρ, m, h, er, hr, (Fin.bind (rel1 := relA X.K) old_I fin).imp ?_⟩
  rintro vs H1 ⟨m1, h1, us, g1, hr1, r1, fin1⟩
  unfold zipItr at fin1
  split at fin1
  · rename_i xs ys
    obtain ⟨v, w, rfl, rv, rw'⟩ := r1.two
    obtain ⟨a, as, rfl, s1, d1⟩ := dp_tup rv
    obtain ⟨b, bs, rfl, s2, d2⟩ := dp_tup rw'
    refine ⟨a, b, as, bs, rfl, .inr ⟨s1, s2, fin1 _ H1 m1 Grow.refl hr1 ⟨fun m' h' H' i z g hr ok e => ?_, fun m' h' H' g hr ok => ?_⟩⟩⟩
    · obtain ⟨x, y, e1, e2, rfl⟩ := zip_get _ _ _ _ e
      have k := g.keeps hr1
      obtain ⟨v1, ev1, dv1⟩ := dps_get (dps_keeps k _ _ d1) e1
      obtain ⟨v2, ev2, dv2⟩ := dps_get (dps_keeps k _ _ d2) e2
      refine ⟨⟨as, bs, v1, v2, SqT.keeps k s1, SqT.keeps k s2, ev1, ev2⟩, fun w H'' q => ?_⟩
      obtain ⟨T, y1, y2, rfl, hT, rfl, q1, q2⟩ := q
      have t1 := q1 as (SqT.keeps k s1)
      have t2 := q2 bs (SqT.keeps k s2)
      rw [ev1] at t1; cases t1
      rw [ev2] at t2; cases t2
      exact pair_new hr hT dv1 dv2
    · have k := g.keeps hr1
      refine ⟨as, bs, SqT.keeps k s1, SqT.keeps k s2, ?_⟩
      rw [show (IterD.xs ⟨zipD xs ys, none⟩) = zipD xs ys from rfl, zip_len, dps_len d1, dps_len d2]
      omega
  · exact False.elim fin1
end
end EV
end

section
set_option Elab.async false
set_option linter.all false
set_option autoImplicit false
set_option maxRecDepth 100000
/-! EV, part H: targets, comprehensions. -/
namespace EV
open PySem PySem.Spec L2
section
variable {K : PySem.W.Frag} {m m' : List Addr} {H H' : Hp} {h : Hs} {σ : L2.St} {ρ : Rho} {v : V} {u : U}
theorem EnvR.set (i : Nat) (er : EnvR K m H σ ρ) (r : UR K m H v u) : EnvR K m H (σ.set i (some v)) (ρ.set i (some u)) := by
  refine ⟨by simp [er.len], fun j w e => ?_⟩
  by_cases z : i = j
  · subst z
    by_cases hi : i < ρ.length
    · rw [List.getElem?_set_self hi] at e; cases e
      exact ⟨v, List.getElem?_set_self (by rw [← er.len]; exact hi), r⟩
    · rw [List.getElem?_eq_none (by simpa using hi)] at e; cases e
  · rw [List.getElem?_set_ne z] at e
    obtain ⟨w', e1, r'⟩ := er.at_ j w e
    exact ⟨w', by rw [List.getElem?_set_ne z]; exact e1, r'⟩
theorem EnvR.unset (i : Nat) (x : Option V) (er : EnvR K m H σ ρ) : EnvR K m H (σ.set i x) (ρ.set i none) := by
  refine ⟨by simp [er.len], fun j w e => ?_⟩
  by_cases z : i = j
  · subst z
    by_cases hi : i < ρ.length
    · rw [List.getElem?_set_self hi] at e; cases e
    · rw [List.getElem?_eq_none (by simpa using hi)] at e; cases e
  · rw [List.getElem?_set_ne z] at e
    obtain ⟨w', e1, r'⟩ := er.at_ j w e
    exact ⟨w', by rw [List.getElem?_set_ne z]; exact e1, r'⟩
/-- a slot less is known -/
theorem EnvR.forget (i : Nat) (er : EnvR K m H σ ρ) : EnvR K m H σ (ρ.set i none) := by
  refine ⟨by simp [er.len], fun j w e => ?_⟩
  by_cases z : i = j
  · subst z
    by_cases hi : i < ρ.length
    · rw [List.getElem?_set_self hi] at e; cases e
    · rw [List.getElem?_eq_none (by simpa using hi)] at e; cases e
  · rw [List.getElem?_set_ne z] at e
    exact er.at_ j w e
theorem EnvR.wipe (er : EnvR K m H σ ρ) : ∀ vs : List Nat, EnvR K m H (L2.wipe σ vs) (EV.wipe ρ vs)
  | [] => er
  | i :: vs => (EnvR.wipe er vs).unset i none
theorem EnvR.forgets (er : EnvR K m H σ ρ) : ∀ vs : List Nat, EnvR K m H σ (EV.wipe ρ vs)
  | [] => er
  | i :: vs => (EnvR.forgets er vs).forget i

/-! ### targets of loops -/
def TGok (K : PySem.W.Frag) (g : TG) (tg : List Nat) : Prop := ∀ σ ρ m H v (x : D) ρ', EnvR K m H σ ρ → Dp K H v x.py → setTg tg x ρ = some ρ' →
  ∀ Q : L2.St → Hp → Prop, (∀ σ', EnvR K m H σ' ρ' → (∀ j, j ∉ tg → σ'[j]? = σ[j]?) → σ'.length = σ.length → Q σ' H) → g v σ H Q
theorem tg_name (i : Nat) : TGok K (gName i) [i] := by
  intro σ ρ m H v x ρ' er d e Q q
  simp only [setTg] at e
  cases e
  exact q _ (er.set i (u := .d x) d) (fun j hj => List.getElem?_set_ne (by simpa [eq_comm] using hj)) (by simp)
def gNames : List Nat → TGs
  | [] => gNil
  | i :: is => gCons (gName i) (gNames is)
theorem names_ok : ∀ (is : List Nat) (xs : List D) (vs : List V) (σ : L2.St) (ρ ρ' : Rho) (m : List Addr) (H : Hp), EnvR K m H σ ρ → DpAll K H vs (D.pys xs) → setVars is (xs.map .d) ρ = some ρ' →
    ∀ Q : L2.St → Hp → Prop, (∀ σ', EnvR K m H σ' ρ' → (∀ j, j ∉ is → σ'[j]? = σ[j]?) → σ'.length = σ.length → Q σ' H) → vs.length = is.length ∧ gNames is vs σ H Q
  | [], [], vs, σ, ρ, ρ', m, H, er, d, e, Q, q => by
    simp only [List.map_nil, setVars] at e
    cases e
    simp only [D.pys] at d
    cases d
    exact ⟨rfl, rfl, q σ er (fun _ _ => rfl) rfl⟩
  | [], x :: xs, vs, σ, ρ, ρ', m, H, er, d, e, Q, q => by simp [setVars] at e
  | i :: is, [], vs, σ, ρ, ρ', m, H, er, d, e, Q, q => by simp [setVars] at e
  | i :: is, x :: xs, vs, σ, ρ, ρ', m, H, er, d, e, Q, q => by
    simp only [List.map_cons, setVars] at e
    simp only [D.pys] at d
    cases d with
    | cons a b =>
      rename_i v vs
      obtain ⟨l, g⟩ := names_ok is xs vs (σ.set i (some v)) _ ρ' m H (er.set i (u := .d x) a) b e Q fun σ' er' k l => q σ' er' (fun j hj => by
        have h1 : j ≠ i := fun z => hj (by simp [z])
        have h2 : j ∉ is := fun z => hj (List.mem_cons_of_mem _ z)
        rw [k j h2, List.getElem?_set_ne (Ne.symm h1)]) (by simpa using l)
      exact ⟨by simp [l], v, vs, rfl, g⟩
theorem tg_tup (is : List Nat) (hn : ∀ i, is ≠ [i]) : TGok K (gTup K is.length (gNames is)) is := by
  intro σ ρ m H v x ρ' er d e Q q
  unfold setTg at e
  split at e
  · rename_i i
    exact absurd rfl (hn i)
  · split at e
    · rename_i xs
      obtain ⟨a, vs, rfl, s, al⟩ := dp_tup d
      obtain ⟨l, g⟩ := names_ok is xs vs σ ρ ρ' m H er al e Q q
      exact ⟨a, vs, rfl, s, l, g⟩
    · cases e
end

/-! ### comprehensions -/
section
variable {X : Cx} {W : WX} {C : Cc} {K : PySem.W.Frag} {m : List Addr} {H : Hp} {h : Hs}
abbrev noW : WX := fun _ _ _ _ => False
theorem CO.blk (co : CO X W) {s : Shared} {H : Hp} {scope : Scope} {env : Env} {fp : List Addr} : CO (X.blk s H scope env fp) noW :=
  ⟨co.calm, co.nd, fun u s' ⟨_, _, _, _, _, _, _, _, _, _, _, _, _, _, _, _, z⟩ => z, PassesOwn.never, co.un, co.gd⟩
def tTs (K : PySem.W.Frag) (W : WX) (ds : List Den) : TT := fun σ H Q => ∃ ρ m h, EnvR K m H σ ρ ∧ HR K m h H ∧ Fin K (fun cls dd H' => W cls dd σ H') relEq m H (testsR ds ρ h) Q
theorem PTs.imp {X : Cx} {e : List Expr} {t t' : TT} (h : PTs X e t) (i : ∀ σ H Q, t' σ H Q → t σ H Q) : PTs X e t' := ⟨fun pins s σ H Q I q => h.run pins s σ H Q I (i σ H Q q)⟩
theorem sts_nil : PTs X [] (tTs X.K W (dens C [])) := PTs.imp pts_nil fun σ H Q ⟨ρ, m, h, er, hr, fin⟩ => Fin.ok (b := true) (a := true) hr fin rfl
theorem sts_one {c : Expr} {A : E} (hc : TX X W C c A) : PTs X [c] (tTs X.K W (dens C [A])) := PTs.imp (pts_one hc) fun σ H Q ⟨ρ, m, h, er, hr, fin⟩ => ⟨ρ, m, h, er, hr, fin⟩
abbrev relO (K : PySem.W.Frag) : Hp → List Addr → Hp → Option V → Option D → Prop := fun _ _ H v y => match v, y with
  | some v, some y => Dp K H v y.py
  | none, none => True
  | _, _ => False
theorem comp_step {W : XK} {m0 : List Addr} {H0 : Hp} {w : Option (Nat × MO)} {body : D → Hs → R (Option D)} {x : D} {xs acc : List D} {k : List D → Hs → R U} {Q : VK}
    (fin : Fin K W (relV K) m0 H0 ((compL w body (x :: xs) acc h).bind k) Q) : IterD.ok w h = true ∧
      Fin K (fun _ _ _ => False) (relO K) m H (body x h) fun r H1 => ∃ m1 h1, Grow m H m1 H1 ∧ HR K m1 h1 H1 ∧
        match r with
        | some v => ∃ y : D, Dp K H1 v y.py ∧ Fin K W (relV K) m0 H0 ((compL w body xs (acc ++ [y]) h1).bind k) Q
        | none => Fin K W (relV K) m0 H0 ((compL w body xs acc h1).bind k) Q := by
  unfold compL at fin
  split at fin
  · rename_i ok
    refine ⟨ok, ?_⟩
    cases hb : body x h with
    | stuck => rw [hb] at fin; exact False.elim fin
    | exc c y h1 => rw [hb] at fin; exact False.elim fin
    | ok o h1 =>
      rw [hb] at fin
      cases o with
      | none =>
        intro r H1 m1 g hr q
        cases r with
        | none => exact ⟨m1, h1, g, hr, fin⟩
        | some v => exact False.elim q
      | some y =>
        intro r H1 m1 g hr q
        cases r with
        | none => exact False.elim q
        | some v => exact ⟨m1, h1, g, hr, y, q, fin⟩
  · exact False.elim fin
theorem grow_put {m0 m : List Addr} {H0 H : Hp} {L : Addr} {o : HO} (g : Grow m0 H0 m H) (h0 : H0 L = none) : Grow m0 H0 m (upd H L o) := by
  refine ⟨g.ext, fun a q e hn => ?_, fun a q e => ?_⟩
  · rw [upd_ne (ne_of_none e h0)]; exact g.keep a q e hn
  · rw [upd_ne (ne_of_none e h0)]; exact g.there a q e
theorem hr_put {L : Addr} {ws zs : List V} (hr : HR K m h H) (hL : L ∉ m) (e : H L = some (.lst ws)) : HR K m h (upd H L (.lst zs)) :=
  hr.moves (keep_set e) fun a ha => upd_ne fun z => hL (z ▸ ha)
theorem old_O : Old (relO K) := fun _ _ _ _ _ _ _ x => x
theorem wipe_eq {σ σ' : L2.St} : ∀ {vs : List Nat}, (∀ j, j ∉ vs → σ'[j]? = σ[j]?) → σ'.length = σ.length → L2.wipe σ' vs = L2.wipe σ vs := by
  intro vs h hl
  apply List.ext_getElem?
  intro j
  by_cases hj : j ∈ vs
  · have key : ∀ (τ : L2.St) (vs : List Nat), j ∈ vs → (L2.wipe τ vs)[j]? = if j < τ.length then some none else none := by
      intro τ vs
      induction vs with
      | nil => intro z; cases z
      | cons v vs ih =>
        intro z
        show ((L2.wipe τ vs).set v none)[j]? = _
        by_cases e : v = j
        · subst e
          by_cases hl : v < (L2.wipe τ vs).length
          · rw [List.getElem?_set_self hl]
            rw [wipe_length] at hl
            rw [if_pos hl]
          · rw [List.getElem?_eq_none (by simpa using hl)]
            rw [wipe_length] at hl
            rw [if_neg hl]
        · rw [List.getElem?_set_ne e]
          exact ih (by rcases List.mem_cons.mp z with z | z; exact absurd z.symm e; exact z)
    rw [key σ' vs hj, key σ vs hj, hl]
  · rw [wipe_out hj, wipe_out hj, h j hj]
theorem wipe_idem {σ : L2.St} {vs : List Nat} : L2.wipe (L2.wipe σ vs) vs = L2.wipe σ vs := wipe_eq (fun j hj => wipe_out hj) (wipe_length σ vs)

theorem lc_of {wi : Den} {g : TG} {vs tg : List Nat} {elt : Den} {ifs : List Den} {σ : L2.St} {Q : VK} (hg : TGok X.K g tg) (hv : ∀ i ∈ tg, i ∈ vs)
    (q : tE X.K W (.of fun ρ h => compR vs tg elt wi ifs ρ h) σ H Q) : tLc (tI X.K W wi) g (tTs X.K noW ifs) (tE X.K noW elt) vs σ H Q := by
  obtain ⟨ρ, m, h, er, hr, fin⟩ := q
  have fin : Fin _ _ (relV X.K) m H (compR vs tg elt wi ifs ρ h) Q := fin
  unfold compR at fin
  refine ⟨ρ, m, h, er, hr, (Fin.bind (rel1 := relI X.K) old_V fin).imp ?_⟩
  rintro J H1 ⟨m1, h1, I, g1, hr1, it, fin1⟩
  intro L hL
  split at fin1
  case isFalse => exact False.elim fin1
  rename_i hsz
  have hL0 : H L = none := g1.free hL
  have er1 := er.grow hr g1
  refine ⟨fun i n Hc => n = I.xs.length - i ∧ i ≤ I.xs.length ∧ ∃ mc hc acc ws, Grow m1 H1 mc Hc ∧ HR X.K mc hc Hc ∧ L ∉ mc ∧ Hc L = some (.lst ws) ∧ DpAll X.K Hc ws (D.pys acc) ∧ acc.length ≤ i ∧
    Fin X.K (fun cls dd H' => W cls dd σ H') (relV X.K) m1 H1 ((compL I.watch (turnR vs tg elt ifs ρ) (I.xs.drop i) acc hc).bind fun ys h2 => .ok (.tmp (.lst ys)) h2) Q, ⟨I.xs.length, by simp, Nat.zero_le _, ?_⟩, ?_⟩
  · exact ⟨m1, h1, [], [], grow_new hL, hr1.new hL, hr1.fresh hL, upd_same, by simpa [D.pys] using DpAll.nil, Nat.le_refl _, by simpa using fin1⟩
  · rintro i n Hc ⟨rfl, hi, mc, hc, acc, ws, gc, hrc, nL, eL, dws, la, finc⟩
    by_cases hlt : i < I.xs.length
    · have ed : I.xs.drop i = I.xs[i] :: I.xs.drop (i + 1) := List.drop_eq_getElem_cons hlt
      rw [ed] at finc
      obtain ⟨ok, finb⟩ := comp_step (m := mc) (H := Hc) finc
      obtain ⟨go, yl⟩ := it.go mc hc Hc i I.xs[i] gc hrc ok (by simp [hlt])
      refine .inr ⟨go, fun H' => ∃ mc hc acc ws, Grow m1 H1 mc H' ∧ HR X.K mc hc H' ∧ L ∉ mc ∧ H' L = some (.lst ws) ∧ DpAll X.K H' ws (D.pys acc) ∧ acc.length ≤ i + 1 ∧
        Fin X.K (fun cls dd H' => W cls dd σ H') (relV X.K) m1 H1 ((compL I.watch (turnR vs tg elt ifs ρ) (I.xs.drop (i + 1)) acc hc).bind fun ys h2 => .ok (.tmp (.lst ys)) h2) Q,
        fun H' z => ⟨_, by omega, rfl, by omega, z⟩, fun x H2 y => ?_⟩
      obtain ⟨g2, hr2, dx⟩ := yl x H2 y
      have erc : EnvR X.K mc H2 σ ρ := ((er1.grow hr1 gc).grow hrc g2)
      have finb2 := Fin.shift old_O g2 finb
      unfold turnR at finb2
      split at finb2
      · rename_i ρ' eρ
        refine hg _ _ mc H2 x I.xs[i] ρ' (erc.wipe vs) dx eρ _ fun σ' er' kσ lσ => ⟨?_, ?_⟩
        · rw [show L2.wipe σ' vs = L2.wipe (L2.wipe σ vs) vs from wipe_eq (fun j hj => kσ j fun z => hj (hv j z)) lσ, wipe_idem]
        · refine ⟨ρ', mc, hc, er', hr2, (Fin.bind (rel1 := relEq) old_O finb2).imp ?_⟩
          rintro b H3 ⟨m3, h3, k, g3, hr3, rfl, fin3⟩
          have g23 := (gc.trans g2).trans g3
          have nL3 : L ∉ m3 := g3.notin nL (g2.keep L _ eL nL)
          have eL3 : H3 L = some (.lst ws) := g3.keep L _ (g2.keep L _ eL nL) nL
          cases b with
          | true =>
            refine ⟨ρ', m3, h3, er'.grow hr2 g3, hr3, (Fin.bind (rel1 := relV X.K) old_O fin3).imp ?_⟩
            rintro y H4 ⟨m4, h4, u, g4, hr4, r4, fin4⟩
            unfold dataR at fin4
            split at fin4
            · rename_i y'
              have r4 : Dp X.K H4 y y'.py := r4
              obtain ⟨m5, h5, g5, hr5, y2, dy2, fin5⟩ := fin4 (some y) H4 m4 Grow.refl hr4 r4
              have eL4 : H4 L = some (.lst ws) := g5.keep L _ eL nL
              have nL5 : L ∉ m5 := g5.notin nL eL
              have dL : DpAll X.K H4 (ws ++ [y]) (D.pys (acc ++ [y2])) := dps_app (dps_keeps (g5.keeps hrc) _ _ dws) (by simp only [D.pys]; exact .cons dy2 .nil)
              exact ⟨ws, eL4, by rw [dps_len dws]; omega, m5, h5, acc ++ [y2], ws ++ [y], grow_put (gc.trans g5) hL, hr_put hr5 nL5 eL4, nL5, upd_same, dps_keeps (keep_set eL4) _ _ dL, by simp; omega, fin5⟩
            · exact False.elim fin4
          | false =>
            obtain ⟨m5, h5, g5, hr5, fin5⟩ := fin3 none H3 m3 Grow.refl hr3 trivial
            exact ⟨m5, h5, acc, ws, gc.trans g5, hr5, g5.notin nL eL, g5.keep L _ eL nL, dps_keeps (g5.keeps hrc) _ _ dws, by omega, fin5⟩
      · exact False.elim finb2
    · have ei : i = I.xs.length := by omega
      subst ei
      rw [List.drop_length] at finc
      unfold compL at finc
      split at finc
      · rename_i ok
        refine .inl ⟨it.stop mc hc Hc gc hrc ok, ?_⟩
        exact finc (V.ref L) Hc mc gc hrc ⟨L, rfl, nL, hL, ws, eL, dws⟩
      · exact False.elim finc
end
end EV
end

section
set_option Elab.async false
set_option linter.all false
set_option autoImplicit false
set_option maxRecDepth 100000
/-! EV, part J: statements. -/
namespace EV
open PySem PySem.Spec L2
section
variable {X : Cx} {W : WX} {C : Cc}
/-- a comprehension as a value -/
theorem se_comp {elt tg it : Expr} {ifs : List Expr} {scope : Scope} {own : List (Str × Nat)} {pos : Pos} {g : TG} {tgI : List Nat} {Elt It' : E} {Ifs : List E} (co : CO X W) (hi : IX X W C tg it It') (ok : BlkOk X.N X.env.scope scope own)
    (hG : TGok X.K g tgI) (hv : ∀ i ∈ tgI, i ∈ own.map (·.2))
    (hg : ∀ (s : Shared) (H : Hp) (c : Addr) (cl : List (Str × Addr)) (fp : List Addr), PG (X.blk s H scope (compEnvC scope cl c X.env) fp) tg g)
    (ht : ∀ (s : Shared) (H : Hp) (c : Addr) (cl : List (Str × Addr)) (fp : List Addr), CO (X.blk s H scope (compEnvC scope cl c X.env) fp) noW → PTs (X.blk s H scope (compEnvC scope cl c X.env) fp) ifs (tTs X.K noW (dens C Ifs)))
    (he : ∀ (s : Shared) (H : Hp) (c : Addr) (cl : List (Str × Addr)) (fp : List Addr), CO (X.blk s H scope (compEnvC scope cl c X.env) fp) noW → SX (X.blk s H scope (compEnvC scope cl c X.env) fp) noW C elt Elt)
    (hs : ∀ x, foldedSetIterable it X.env x = pure x := by intro _; rfl) : SX X W C (.ListComp elt [⟨tg, it, ifs, 0⟩] scope pos) (.comp (own.map (·.2)) tgI Elt It' Ifs) :=
  PE.imp (pe_lc co.calm co.nd hi ok hg (fun s H c cl fp => ht s H c cl fp co.blk) (fun s H c cl fp => he s H c cl fp co.blk) hs) fun _ _ _ q => lc_of hG hv q

/-! ### what is wanted behind a statement -/
def FinS (K : PySem.W.Frag) (W : WX) (m : List Addr) (H : Hp) (r : RS) (D : Ends) : Prop :=
  match r with
  | .ok .next ρ h => ∀ σ' H' m', Grow m H m' H' → HR K m' h H' → EnvR K m' H' σ' ρ → D.nx σ' H'
  | .ok .brk ρ h => ∀ σ' H' m', Grow m H m' H' → HR K m' h H' → EnvR K m' H' σ' ρ → D.bk σ' H'
  | .ok .cont ρ h => ∀ σ' H' m', Grow m H m' H' → HR K m' h H' → EnvR K m' H' σ' ρ → D.ct σ' H'
  | .ok (.ret u) _ h => ∀ v H' m', Grow m H m' H' → HR K m' h H' → VR K H m' H' v u → D.rt v H'
  | .exc c x ρ h => ∀ σ' cls dd H' m', Grow m H m' H' → HR K m' h H' → EnvR K m' H' σ' ρ → XR K H' c x cls dd → W cls dd σ' H'
  | .stuck => False
theorem FinS.shift {K : PySem.W.Frag} {m m1 : List Addr} {H H1 : Hp} {r : RS} {D : Ends} (g : Grow m H m1 H1) (f : FinS K W m H r D) : FinS K W m1 H1 r D := by
  match r, f with
  | .ok .next ρ h, f => exact fun σ' H' m' g' => f σ' H' m' (g.trans g')
  | .ok .brk ρ h, f => exact fun σ' H' m' g' => f σ' H' m' (g.trans g')
  | .ok .cont ρ h, f => exact fun σ' H' m' g' => f σ' H' m' (g.trans g')
  | .ok (.ret u) _ h, f => exact fun v H' m' g' hr r => f v H' m' (g.trans g') hr (r.older fun b e => g.free e)
  | .exc c x ρ h, f => exact fun σ' cls dd H' m' g' => f σ' cls dd H' m' (g.trans g')
def tS (K : PySem.W.Frag) (W : WX) (d : DenS) : TS := fun D σ H => ∃ ρ m h, EnvR K m H σ ρ ∧ HR K m h H ∧ FinS K W m H (d ρ h) D
abbrev ZX (X : Cx) (W : WX) (C : Cc) (e : Stmt) (ê : S) : Prop := PS X e (tS X.K W (dS C ê))
abbrev ZXs (X : Cx) (W : WX) (C : Cc) (e : List Stmt) (ê : List S) : Prop := PSs X e (tS X.K W (dSs C ê))
/-- an expression within -/
theorem FinS.on {α β : Type} {K : PySem.W.Frag} {m : List Addr} {H : Hp} {h : Hs} {σ : L2.St} {ρ : Rho} {rel : Hp → List Addr → Hp → β → α → Prop} {r : R α} {k : α → Hs → RS} {D : Ends} (er : EnvR K m H σ ρ) (hr : HR K m h H) (f : FinS K W m H (r.on ρ k) D) :
    Fin K (fun cls dd H' => W cls dd σ H') rel m H r fun b H1 => ∃ m1 h1 a, Grow m H m1 H1 ∧ HR K m1 h1 H1 ∧ rel H m1 H1 b a ∧ FinS K W m H (k a h1) D := by
  cases r with
  | ok a h' => exact fun b H' m' g hr y => ⟨m', h', a, g, hr, y, f⟩
  | exc c x h' => exact fun cls dd H' m' g hr' y => f σ cls dd H' m' g hr' (er.grow hr g) y
  | stuck => exact f
theorem FinS.seq {K : PySem.W.Frag} {m : List Addr} {H : Hp} {r : RS} {k : Rho → Hs → RS} {D : Ends} (f : FinS K W m H (r.seq k) D) :
    FinS K W m H r { D with nx := tS K W k D } := by
  match r, f with
  | .ok .next ρ h, f => exact fun σ' H' m' g hr er => ⟨ρ, m', h, er, hr, FinS.shift g f⟩
  | .ok .brk ρ h, f => exact f
  | .ok .cont ρ h, f => exact f
  | .ok (.ret u) _ h, f => exact f
  | .exc c x ρ h, f => exact f
theorem zs_nil : ZXs X W C [] [] := PSs.imp pss_nil fun D σ H ⟨ρ, m, h, er, hr, f⟩ => f σ H m Grow.refl hr er
theorem zs_cons {s : Stmt} {ss : List Stmt} {A : S} {As : List S} (h1 : ZX X W C s A) (h2 : ZXs X W C ss As) : ZXs X W C (s :: ss) (A :: As) :=
  PSs.imp (pss_cons h1 h2) fun D σ H ⟨ρ, m, h, er, hr, f⟩ => ⟨ρ, m, h, er, hr, FinS.seq f⟩
/-- a value into a name -/
theorem stV_fin {K : PySem.W.Frag} {m m1 : List Addr} {H H1 : Hp} {h1 : Hs} {σ : L2.St} {ρ : Rho} {i : Nat} {v : V} {u : U} {D : Ends} (er : EnvR K m1 H1 σ ρ) (hr : HR K m1 h1 H1) (g : Grow m H m1 H1) (r : VR K H m1 H1 v u)
    (f : FinS K W m H (stV i ρ u h1) D) : D.nx (σ.set i (some v)) H1 := by
  obtain ⟨m2, g2, hr2, r2, e, rfl⟩ := alloc_ok g hr r
  exact f _ H1 _ g2 hr2 (er.ext.set i r2)
theorem zs_asg {i : Nat} {x : Str} {e : Expr} {A : E} {pos pos' : Pos} (co : CO X W) (ha : SX X W C e A) (hi : X.N[i]? = some x := by rfl) (hx : Loc X.env.scope x := by first | exact Or.inl rfl | exact Or.inr rfl)
    (hs : swapsWith e (some (.Name x pos')) pos.line X.env = pure false := by rfl) (hf : X.fn x = true ∨ X.env.scope.names.lookup x = some .local := by first | exact .inl rfl | exact .inr rfl) : ZX X W C (.Assign [.Name x pos'] e pos) (.asg i A) := by
  refine PS.imp (ps_set co.nd hi hx ha hs hf) fun D σ H => ?_
  rintro ⟨ρ, m, h, er, hr, f⟩
  refine ⟨ρ, m, h, er, hr, (FinS.on (rel := relV X.K) er hr f).imp ?_⟩
  rintro v H1 ⟨m1, h1, u, g1, hr1, r1, f1⟩
  exact stV_fin (er.grow hr g1) hr1 g1 r1 f1
theorem zs_expr {e : Expr} {A : E} {pos : Pos} (ha : SX X W C e A) (hs : swapsWith e none pos.line X.env = pure false := by rfl) : ZX X W C (.Expr e pos) (.expr A) := by
  refine PS.imp (ps_expr ha hs) fun D σ H => ?_
  rintro ⟨ρ, m, h, er, hr, f⟩
  refine ⟨ρ, m, h, er, hr, (FinS.on (rel := relV X.K) er hr f).imp ?_⟩
  rintro v H1 ⟨m1, h1, u, g1, hr1, r1, f1⟩
  exact f1 σ H1 m1 g1 hr1 (er.grow hr g1)
theorem zs_ret {e : Expr} {A : E} {pos : Pos} (ha : SX X W C e A) : ZX X W C (.Return (some e) pos) (.ret A) := by
  refine PS.imp (ps_ret ha) fun D σ H => ?_
  rintro ⟨ρ, m, h, er, hr, f⟩
  refine ⟨ρ, m, h, er, hr, (FinS.on (rel := relV X.K) er hr f).imp ?_⟩
  rintro v H1 ⟨m1, h1, u, g1, hr1, r1, f1⟩
  exact f1 v H1 m1 g1 hr1 r1
theorem zs_retN {pos : Pos} : ZX X W C (.Return none pos) .retN := PS.imp ps_retN fun D σ H ⟨ρ, m, h, er, hr, f⟩ => f .non H m Grow.refl hr mk_non
theorem zs_pass {pos : Pos} : ZX X W C (.Pass pos) .pass := PS.imp ps_pass fun D σ H ⟨ρ, m, h, er, hr, f⟩ => f σ H m Grow.refl hr er
theorem zs_brk {pos : Pos} : ZX X W C (.Break pos) .brk := PS.imp ps_break fun D σ H ⟨ρ, m, h, er, hr, f⟩ => f σ H m Grow.refl hr er
theorem zs_cont {pos : Pos} : ZX X W C (.Continue pos) .cont := PS.imp ps_continue fun D σ H ⟨ρ, m, h, er, hr, f⟩ => f σ H m Grow.refl hr er
theorem zs_if {c : Expr} {a b : List Stmt} {A : E} {As Bs : List S} {pos : Pos} (hc : TX X W C c A) (ha : ZXs X W C a As) (hb : ZXs X W C b Bs) : ZX X W C (.If c a b pos) (.ife A As Bs) := by
  refine PS.imp (ps_if hc ha hb) fun D σ H => ?_
  rintro ⟨ρ, m, h, er, hr, f⟩
  refine ⟨ρ, m, h, er, hr, (FinS.on (rel := relEq) er hr f).imp ?_⟩
  rintro b H1 ⟨m1, h1, k, g1, hr1, rfl, f1⟩
  cases b with
  | true => exact ⟨ρ, m1, h1, er.grow hr g1, hr1, FinS.shift g1 f1⟩
  | false => exact ⟨ρ, m1, h1, er.grow hr g1, hr1, FinS.shift g1 f1⟩
/-- name = [comprehension], the name a plain local one -/
theorem zs_asgC {i : Nat} {y : Str} {py : Pos} {elt tg it : Expr} {ifs : List Expr} {scope : Scope} {own : List (Str × Nat)} {pos spos : Pos} {g : TG} {tgI : List Nat} {Elt It' : E} {Ifs : List E} (co : CO X W) (hi : IX X W C tg it It') (ok : BlkOk X.N X.env.scope scope own)
    (hG : TGok X.K g tgI) (hv : ∀ i ∈ tgI, i ∈ own.map (·.2))
    (hg : ∀ (s : Shared) (H : Hp) (c : Addr) (cl : List (Str × Addr)) (fp : List Addr), PG (X.blk s H scope (compEnvC scope cl c X.env) fp) tg g)
    (ht : ∀ (s : Shared) (H : Hp) (c : Addr) (cl : List (Str × Addr)) (fp : List Addr), CO (X.blk s H scope (compEnvC scope cl c X.env) fp) noW → PTs (X.blk s H scope (compEnvC scope cl c X.env) fp) ifs (tTs X.K noW (dens C Ifs)))
    (he : ∀ (s : Shared) (H : Hp) (c : Addr) (cl : List (Str × Addr)) (fp : List Addr), CO (X.blk s H scope (compEnvC scope cl c X.env) fp) noW → SX (X.blk s H scope (compEnvC scope cl c X.env) fp) noW C elt Elt)
    (hy : X.N[i]? = some y := by rfl) (hyl : X.env.scope.names.lookup y = some .local := by rfl)
    (hsw : swapsWith (.ListComp elt [⟨tg, it, ifs, 0⟩] scope pos) (some (.Name y py)) spos.line X.env = pure true := by rfl)
    (hs : ∀ x, foldedSetIterable it X.env x = pure x := by intro _; rfl) : ZX X W C (.Assign [.Name y py] (.ListComp elt [⟨tg, it, ifs, 0⟩] scope pos) spos) (.asg i (.comp (own.map (·.2)) tgI Elt It' Ifs)) := by
  refine PS.imp (ps_setLc (tt := tTs X.K noW (dens C Ifs)) (te := tE X.K noW (den C Elt)) co.calm co.nd hy hyl hsw hi ok hg (fun s H c cl fp => ht s H c cl fp co.blk) (fun s H c cl fp => he s H c cl fp co.blk) hs) fun D σ H => ?_
  rintro ⟨ρ, m, h, er, hr, f⟩
  refine lc_of hG hv ⟨ρ, m, h, er, hr, (FinS.on (rel := relV X.K) er hr f).imp ?_⟩
  rintro v H1 ⟨m1, h1, u, g1, hr1, r1, f1⟩
  exact stV_fin (er.grow hr g1) hr1 g1 r1 f1
/-- a, b = a tuple -/
theorem zs_asgT {tg e : Expr} {A : E} {is : List Nat} {pos : Pos} (co : CO X W) (ha : SX X W C e A) (hg : PG X tg (gTup X.K is.length (gNames is))) (hs : swapsWithSole [tg] e pos.line X.env = pure false := by rfl) (hw : swappedStores [tg] e X.env = pure none := by rfl)
    (h1 : (assignEach [tg] X.env).map (·.2) = [assign tg X.env] := by rfl) : ZX X W C (.Assign [tg] e pos) (.asgT is A) := by
  refine PS.imp (ps_asg ha hg hs hw h1) fun D σ H => ?_
  rintro ⟨ρ, m, h, er, hr, f⟩
  refine ⟨ρ, m, h, er, hr, (FinS.on (rel := relV X.K) er hr f).imp ?_⟩
  rintro v H1 ⟨m1, h1, u, g1, hr1, r1, f1⟩
  unfold asgTR at f1
  split at f1
  · rename_i xs
    obtain ⟨a, vs, rfl, s, al⟩ := dp_tup r1
    unfold nextO at f1
    split at f1
    · rename_i ρ' e
      obtain ⟨l, gg⟩ := names_ok is xs vs σ ρ ρ' m1 H1 (er.grow hr g1) al e D.nx fun σ' er' _ _ => f1 σ' H1 m1 g1 hr1 er'
      exact ⟨a, vs, rfl, s, l, gg⟩
    · exact False.elim f1
  · exact False.elim f1
theorem setVars_ok {K : PySem.W.Frag} : ∀ (is : List Nat) (us : List U) (vs : List V) (σ : L2.St) (ρ ρ' : Rho) (m : List Addr) (H : Hp), EnvR K m H σ ρ → UAll K m H vs us → setVars is us ρ = some ρ' →
    ∀ Q : L2.St → Hp → Prop, (∀ σ', EnvR K m H σ' ρ' → Q σ' H) → vs.length = is.length ∧ gNames is vs σ H Q
  | [], [], [], σ, ρ, ρ', m, H, er, d, e, Q, q => by
    simp only [setVars] at e
    cases e
    exact ⟨rfl, rfl, q σ er⟩
  | [], _ :: _, _, σ, ρ, ρ', m, H, er, d, e, Q, q => by simp [setVars] at e
  | _ :: _, [], _, σ, ρ, ρ', m, H, er, d, e, Q, q => by simp [setVars] at e
  | i :: is, u :: us, v :: vs, σ, ρ, ρ', m, H, er, d, e, Q, q => by
    simp only [setVars] at e
    obtain ⟨l, g⟩ := setVars_ok is us vs (σ.set i (some v)) _ ρ' m H (er.set i d.1) d.2 e Q q
    exact ⟨by simp [l], v, vs, rfl, g⟩
/-- a, b = x, y, in one of the model's two ways -/
theorem zs_par2 {i j : Nat} {x y : Str} {a b : Expr} {A B : E} {px py pt pos : Pos} {kt k2 pt2} (co : CO X W) (ha : AX X W C [a, b] [A, B]) (hij : i ≠ j := by decide)
    (hi : X.N[i]? = some x := by rfl) (hj : X.N[j]? = some y := by rfl) (hx : X.env.scope.names.lookup x = some .local := by rfl) (hy : X.env.scope.names.lookup y = some .local := by rfl)
    (hw : swappedStores [.Tuple [.Name x px, .Name y py] kt pt] (.Tuple [a, b] k2 pt2) X.env = pure (some [x, y]) := by rfl)
    (hs : swapsWithSole [.Tuple [.Name x px, .Name y py] kt pt] (.Tuple [a, b] k2 pt2) pos.line X.env = pure false := by rfl) :
    ZX X W C (.Assign [.Tuple [.Name x px, .Name y py] kt pt] (.Tuple [a, b] k2 pt2) pos) (.par [i, j] [A, B]) := by
  refine PS.imp (ps_par co.calm co.nd hi hj hij hx hy ha hw hs) fun D σ H => ?_
  rintro ⟨ρ, m, h, er, hr, f⟩
  refine ⟨ρ, m, h, er, hr, (FinS.on (rel := relA X.K) er hr f).imp ?_⟩
  rintro vs H1 ⟨m1, h1, us, g1, hr1, r1, f1⟩
  unfold nextO at f1
  split at f1
  · rename_i ρ' e
    obtain ⟨l, gg⟩ := setVars_ok [i, j] us vs σ ρ ρ' m1 H1 (er.grow hr g1) r1 e D.nx fun σ' er' => f1 σ' H1 m1 g1 hr1 er'
    obtain ⟨v, vs', rfl, w, ws', rfl, rfl, q⟩ := gg
    exact ⟨v, w, rfl, q⟩
  · exact False.elim f1
theorem zs_par3 {i j l : Nat} {x y z : Str} {a b c : Expr} {A B C' : E} {px py pz pt pos : Pos} {kt k2 pt2} (co : CO X W) (ha : AX X W C [a, b, c] [A, B, C']) (hij : i ≠ j := by decide) (hil : i ≠ l := by decide) (hjl : j ≠ l := by decide)
    (hi : X.N[i]? = some x := by rfl) (hj : X.N[j]? = some y := by rfl) (hl : X.N[l]? = some z := by rfl) (hx : X.env.scope.names.lookup x = some .local := by rfl) (hy : X.env.scope.names.lookup y = some .local := by rfl) (hz : X.env.scope.names.lookup z = some .local := by rfl)
    (hw : swappedStores [.Tuple [.Name x px, .Name y py, .Name z pz] kt pt] (.Tuple [a, b, c] k2 pt2) X.env = pure (some [x, y, z]) := by rfl)
    (hs : swapsWithSole [.Tuple [.Name x px, .Name y py, .Name z pz] kt pt] (.Tuple [a, b, c] k2 pt2) pos.line X.env = pure false := by rfl) :
    ZX X W C (.Assign [.Tuple [.Name x px, .Name y py, .Name z pz] kt pt] (.Tuple [a, b, c] k2 pt2) pos) (.par [i, j, l] [A, B, C']) := by
  refine PS.imp (ps_par3 co.calm co.nd hi hj hl hij hil hjl hx hy hz ha hw hs) fun D σ H => ?_
  rintro ⟨ρ, m, h, er, hr, f⟩
  refine ⟨ρ, m, h, er, hr, (FinS.on (rel := relA X.K) er hr f).imp ?_⟩
  rintro vs H1 ⟨m1, h1, us, g1, hr1, r1, f1⟩
  unfold nextO at f1
  split at f1
  · rename_i ρ' e
    obtain ⟨l, gg⟩ := setVars_ok [i, j, l] us vs σ ρ ρ' m1 H1 (er.grow hr g1) r1 e D.nx fun σ' er' => f1 σ' H1 m1 g1 hr1 er'
    obtain ⟨v, vs', rfl, w, ws', rfl, w3, ws3, rfl, rfl, q⟩ := gg
    exact ⟨v, w, w3, rfl, q⟩
  · exact False.elim f1
/-- .. by a tuple that is made and taken apart -/
theorem zs_parT {tg : Expr} {es : List Expr} {As : List E} {is : List Nat} {k2 : Nat} {pt2 pos : Pos} (co : CO X W) (ha : AX X W C es As) (hg : PG X tg (gTup X.K is.length (gNames is))) (hsz : is.length ≤ sizeLine := by decide)
    (hs : swapsWithSole [tg] (.Tuple es k2 pt2) pos.line X.env = pure false := by rfl) (hw : swappedStores [tg] (.Tuple es k2 pt2) X.env = pure none := by rfl)
    (h1 : (assignEach [tg] X.env).map (·.2) = [assign tg X.env] := by rfl) : ZX X W C (.Assign [tg] (.Tuple es k2 pt2) pos) (.par is As) := by
  refine PS.imp (ps_asg (pe_tup ha) hg hs hw h1) fun D σ H => ?_
  rintro ⟨ρ, m, h, er, hr, f⟩
  refine ⟨ρ, m, h, er, hr, (FinS.on (rel := relA X.K) er hr f).imp ?_⟩
  rintro vs H1 ⟨m1, h1, us, g1, hr1, r1, f1⟩
  unfold nextO at f1
  split at f1
  · rename_i ρ' e
    have l0 := (setVars_ok is us vs σ ρ ρ' m1 H1 (er.grow hr g1) r1 e (fun _ _ => True) fun _ _ => trivial).1
    refine ⟨by omega, fun p hp => ?_⟩
    have er1 := (er.grow hr g1).grow hr1 (grow_new (o := .tup vs) hp)
    obtain ⟨l, gg⟩ := setVars_ok is us vs σ ρ ρ' m1 _ er1 (r1.grow hr1 (grow_new (o := .tup vs) hp)) e D.nx fun σ' er' => f1 σ' _ m1 (g1.trans (grow_new hp)) (hr1.new hp) er'
    exact ⟨p, vs, rfl, SqT.of upd_same, l, gg⟩
  · exact False.elim f1
/-- o[i] = e -/
theorem zs_sub {o i e : Expr} {A B D' : E} {pos tpos : Pos} (co : CO X W) (he : SX X W C e A) (ho : SX X W C o B) (hi : SX X W C i D')
    (ha : ∀ v, assign (.Subscript o i tpos) X.env v = (do
      let ov ← holding [v] (eval o X.env)
      let iv ← holding [v, ov] (eval i X.env)
      standAt tpos
      holding [v, ov, iv] (setItem ov iv v)
      release [v, ov, iv] []) := by intro _; rfl) (hs : swapsWithSole [.Subscript o i tpos] e pos.line X.env = pure false := by rfl) (hw : swappedStores [.Subscript o i tpos] e X.env = pure none := by rfl)
    (h1 : (assignEach [.Subscript o i tpos] X.env).map (·.2) = [assign (.Subscript o i tpos) X.env] := by rfl) : ZX X W C (.Assign [.Subscript o i tpos] e pos) (.sub B D' A) := by
  refine PS.imp (ps_asg he (pg_sub ho hi set_list ha) hs hw h1) fun D σ H => ?_
  rintro ⟨ρ, m, h, er, hr, f⟩
  refine ⟨ρ, m, h, er, hr, (FinS.on (rel := relV X.K) er hr f).imp ?_⟩
  rintro v H1 ⟨m1, h1, u, g1, hr1, r1, f1⟩
  have er1 := er.grow hr g1
  refine ⟨ρ, m1, h1, er1, hr1, (FinS.on (rel := relV X.K) er1 hr1 (FinS.shift g1 f1)).imp ?_⟩
  rintro ov H2 ⟨m2, h2, ou, g2, hr2, r2, f2⟩
  have er2 := er1.grow hr1 g2
  refine ⟨ρ, m2, h2, er2, hr2, (FinS.on (rel := relV X.K) er2 hr2 (FinS.shift g2 f2)).imp ?_⟩
  rintro iv H3 ⟨m3, h3, iu, g3, hr3, r3, f3⟩
  have er3 := er2.grow hr2 g3
  replace f3 := FinS.shift g3 f3
  unfold subR at f3
  split at f3
  · rename_i n k x
    split at f3
    · rename_i xs eh
      split at f3
      · rename_i j ej
        obtain ⟨a, ea, rfl⟩ := r2.grow hr2 g3
        obtain ⟨ws, q, d⟩ := hr3.at_ n _ a eh ea
        have dv : Dp X.K H3 v x.py := (r1.grow hr1 g2).grow hr2 g3
        refine ⟨a, ws, k, j, rfl, dp_int r3, q, by rw [dps_len d]; exact ej, ?_⟩
        have gs := grow_set (K := X.K) (vs := ws) (H := H3) (o := .lst (ws.set j v)) ea
        have hs := hr_set hr3 ea q (dps_set j d dv)
        exact f3 σ _ m3 gs hs (er3.grow hr3 gs)
      · exact False.elim f3
    · exact False.elim f3
  · exact False.elim f3
/-- name += e, name -= e, of ints -/
theorem zs_aug {i : Nat} {x : Str} {e : Expr} {A : E} {op : Operator} {o : BOp} {f : Int → Int → Int} {pos pos' : Pos} (co : CO X W) (he : SX X W C e A) (hp : PIp X op (ipI f)) (ho : ∀ u v w, augU o u v = some w → ∃ i j, u = .d (.int i) ∧ v = .d (.int j) ∧ w = .d (.int (f i j)))
    (hi : X.N[i]? = some x := by rfl) (hx : Loc X.env.scope x := by first | exact Or.inl rfl | exact Or.inr rfl) (hf : X.fn x = true ∨ X.env.scope.names.lookup x = some .local := by first | exact .inl rfl | exact .inr rfl) :
    ZX X W C (.AugAssign (.Name x pos') op e pos) (.aug i o A) := by
  refine PS.imp (ps_aug co.nd hi hx he hp hf) fun D σ H => ?_
  rintro ⟨ρ, m, h, er, hr, q⟩
  have q : FinS X.K W m H ((getVar i ρ h).on ρ fun u h1 => ((den C A).v ρ h1).on ρ fun v h2 => (R.opt (augU o u v) h2).on ρ (stV i ρ)) D := q
  unfold getVar at q
  split at q
  · rename_i u eu
    obtain ⟨v, ev, r⟩ := er.at_ i u eu
    have q : FinS X.K W m H (((den C A).v ρ h).on ρ fun v h2 => (R.opt (augU o u v) h2).on ρ (stV i ρ)) D := q
    refine ⟨v, ev, ρ, m, h, er, hr, (FinS.on (rel := relV X.K) er hr q).imp ?_⟩
    rintro y H1 ⟨m1, h1, w, g1, hr1, r1, f1⟩
    cases hq : augU o u w with
    | none => rw [hq] at f1; exact False.elim f1
    | some z =>
      rw [hq] at f1
      obtain ⟨a, b, rfl, rfl, rfl⟩ := ho u w z hq
      exact ⟨a, b, dp_int (r.grow hr g1), dp_int r1, stV_fin (er.grow hr g1) hr1 g1 (u := .d (.int (f a b))) (mk_int _) f1⟩
  · exact False.elim q
theorem aug_add : ∀ u v w, augU .add u v = some w → ∃ i j, u = .d (.int i) ∧ v = .d (.int j) ∧ w = .d (.int (i + j)) := fun u v w e => by
  unfold augU at e
  split at e
  · cases e; exact ⟨_, _, rfl, rfl, rfl⟩
  · rename_i h; cases h
  · cases e
theorem aug_sub : ∀ u v w, augU .sub u v = some w → ∃ i j, u = .d (.int i) ∧ v = .d (.int j) ∧ w = .d (.int (i - j)) := fun u v w e => by
  unfold augU at e
  split at e
  · rename_i h; cases h
  · cases e; exact ⟨_, _, rfl, rfl, rfl⟩
  · cases e

/-! ### loops -/
theorem zs_for {tg it : Expr} {body : List Stmt} {g : TG} {tgI wp : List Nat} {It' : E} {Bs : List S} {pos : Pos} (co : CO X W) (hi : IX X W C tg it It') (hg : PG X tg g) (hG : TGok X.K g tgI) (hb : ZXs X W C body Bs)
    (hs : ∀ x, foldedSetIterable it X.env x = pure x := by intro _; rfl) : ZX X W C (.For tg it body [] pos) (.for_ tgI It' Bs wp) := by
  refine PS.imp (ps_for co.po co.calm hi hg hb hs) fun D σ H => ?_
  rintro ⟨ρ, m, h, er, hr, f⟩
  refine ⟨ρ, m, h, er, hr, (FinS.on (rel := relI X.K) er hr f).imp ?_⟩
  rintro J H1 ⟨m1, h1, I, g1, hr1, it, f1⟩
  have f1 := FinS.shift g1 f1
  refine ⟨fun i n σc Hc => n = I.xs.length - i ∧ i ≤ I.xs.length ∧ ∃ mc hc ρc, Grow m1 H1 mc Hc ∧ HR X.K mc hc Hc ∧ EnvR X.K mc Hc σc ρc ∧ FinS X.K W m1 H1 (forL I.watch tgI (dSs C Bs) wp (I.xs.drop i) ρc hc) D,
    ⟨I.xs.length, by simp, Nat.zero_le _, m1, h1, _, Grow.refl, hr1, (er.grow hr g1).forgets wp, f1⟩, ?_⟩
  rintro i n σc Hc ⟨rfl, hle, mc, hc, ρc, gc, hrc, erc, fc⟩
  by_cases hlt : i < I.xs.length
  · have ed : I.xs.drop i = I.xs[i] :: I.xs.drop (i + 1) := List.drop_eq_getElem_cons hlt
    rw [ed] at fc
    unfold forL at fc
    split at fc
    · rename_i ok
      obtain ⟨go, yl⟩ := it.go mc hc Hc i I.xs[i] gc hrc ok (by simp [hlt])
      refine .inr ⟨go, fun σ' H' => ∃ mc hc ρc, Grow m1 H1 mc H' ∧ HR X.K mc hc H' ∧ EnvR X.K mc H' σ' ρc ∧ FinS X.K W m1 H1 (forL I.watch tgI (dSs C Bs) wp (I.xs.drop (i + 1)) ρc hc) D,
        fun σ' H' z => ⟨_, by omega, rfl, by omega, z⟩, fun x H2 y => ?_⟩
      obtain ⟨g2, hr2, dx⟩ := yl x H2 y
      split at fc
      · exact False.elim fc
      · rename_i ρ1 e1
        refine hG _ _ mc H2 x I.xs[i] ρ1 (erc.grow hrc g2) dx e1 _ fun σ1 er1 _ _ => ?_
        refine ⟨ρ1, mc, hc, er1, hr2, ?_⟩
        have g12 := gc.trans g2
        cases hbd : dSs C Bs ρ1 hc with
        | stuck => rw [hbd] at fc; exact False.elim fc
        | exc c x ρ2 h2 => rw [hbd] at fc; exact FinS.shift g12 (r := .exc c x ρ2 h2) fc
        | ok fl ρ2 h2 =>
          rw [hbd] at fc
          cases fl with
          | next => exact fun σ' H' m' g hr' er' => ⟨m', h2, _, g12.trans g, hr', er'.forgets wp, fc⟩
          | cont => exact fun σ' H' m' g hr' er' => ⟨m', h2, _, g12.trans g, hr', er'.forgets wp, fc⟩
          | brk => exact fun σ' H' m' g hr' er' => fc σ' H' m' (g12.trans g) hr' (er'.forgets wp)
          | ret u => exact FinS.shift g12 (r := .ok (.ret u) ρ2 h2) fc
    · exact False.elim fc
  · have ei : i = I.xs.length := by omega
    subst ei
    rw [List.drop_length] at fc
    unfold forL at fc
    split at fc
    · rename_i ok
      exact .inl ⟨it.stop mc hc Hc gc hrc ok, fc σc Hc mc gc hrc erc⟩
    · exact False.elim fc
theorem zs_while {c : Expr} {body : List Stmt} {A : E} {Bs : List S} {wp : List Nat} {pos : Pos} (co : CO X W) (hc : TX X W C c A) (hb : ZXs X W C body Bs) : ZX X W C (.While c body [] pos) (.while_ A Bs wp) := by
  refine PS.imp (ps_while co.po hc hb) fun D σ H => ?_
  rintro ⟨ρ, m, h, er, hr, f⟩
  have f : FinS X.K W m H (whileN (den C A).t (dSs C Bs) wp fuelW (EV.wipe ρ wp) h) D := f
  refine ⟨fun n σc Hc => ∃ mc hc ρc, Grow m H mc Hc ∧ HR X.K mc hc Hc ∧ EnvR X.K mc Hc σc ρc ∧ FinS X.K W m H (whileN (den C A).t (dSs C Bs) wp n ρc hc) D, ⟨fuelW, m, h, _, Grow.refl, hr, er.forgets wp, f⟩, ?_⟩
  rintro n σc Hc ⟨mc, hc, ρc, gc, hrc, erc, fc⟩
  cases n with
  | zero => exact False.elim fc
  | succ n =>
    unfold whileN at fc
    refine ⟨ρc, mc, hc, erc, hrc, ?_⟩
    cases hcd : (den C A).t ρc hc with
    | stuck => rw [hcd] at fc; exact False.elim fc
    | exc c x h1 => rw [hcd] at fc; exact fun cls dd H' m' g hr' y => fc σc cls dd H' m' (gc.trans g) hr' (erc.grow hrc g) y
    | ok b h1 =>
    rw [hcd] at fc
    rintro b' H1 m1 g1 hr1 e
    obtain rfl : b' = b := e
    have f0 := fc
    have er1 := erc.grow hrc g1
    have g01 := gc.trans g1
    cases b' with
    | false => exact f0 σc H1 m1 g01 hr1 er1
    | true =>
      rw [if_pos rfl]
      refine ⟨fun σ' H' => ∃ mc hc ρc, Grow m H mc H' ∧ HR X.K mc hc H' ∧ EnvR X.K mc H' σ' ρc ∧ FinS X.K W m H (whileN (den C A).t (dSs C Bs) wp n ρc hc) D, fun σ' H' z => ⟨n, Nat.lt_succ_self n, z⟩, ρc, m1, h1, er1, hr1, ?_⟩
      dsimp only [R.on] at f0
      rw [if_pos rfl] at f0
      cases hbd : dSs C Bs ρc h1 with
      | stuck => rw [hbd] at f0; exact False.elim f0
      | exc c x ρ2 h2 => rw [hbd] at f0; exact FinS.shift g01 (r := .exc c x ρ2 h2) f0
      | ok fl ρ2 h2 =>
        rw [hbd] at f0
        cases fl with
        | next => exact fun σ' H' m' g hr' er' => ⟨m', h2, _, g01.trans g, hr', er'.forgets wp, f0⟩
        | cont => exact fun σ' H' m' g hr' er' => ⟨m', h2, _, g01.trans g, hr', er'.forgets wp, f0⟩
        | brk => exact fun σ' H' m' g hr' er' => f0 σ' H' m' (g01.trans g) hr' (er'.forgets wp)
        | ret u => exact FinS.shift g01 (r := .ok (.ret u) ρ2 h2) f0
end
end EV
end

section
set_option Elab.async false
set_option linter.all false
set_option autoImplicit false
set_option maxRecDepth 100000
/-! EV, part K: defs, and the law's own call. -/
namespace EV
open PySem PySem.Spec L2
open PyProof.Rows (envOfC)

theorem dps_ints : ∀ (ns : List Int) (K : PySem.W.Frag) (H : Hp), DpAll K H (ns.map V.int) (D.pys (ns.map D.int))
  | [], K, H => by simpa [D.pys] using DpAll.nil
  | n :: ns, K, H => by
    simp only [List.map_cons, D.pys, D.py]
    exact .cons (.int n) (dps_ints ns K H)
section
variable {P : Program} {w : World} {K : PySem.W.Frag} {mg : Str → Option Value} {base : Heap} {k : Nat}
theorem start_ok {m : List Addr} {H : Hp} {N : List Str} : ∀ {vs : List V} {us : List U}, UAll K m H vs us → vs.length ≤ N.length → EnvR K m H (L2.start N vs) (startR N.length us) := by
  intro vs us ua hl
  have e := UAll.length ua
  refine ⟨by simp [L2.start, startR]; omega, fun i u q => ?_⟩
  unfold startR at q
  by_cases hi : i < us.length
  · rw [List.getElem?_append_left (by simpa using hi), List.getElem?_map] at q
    cases qu : us[i]? with
    | none => rw [qu] at q; cases q
    | some u' =>
      rw [qu] at q; cases q
      obtain ⟨v, ev, r⟩ := UAll.perm ua qu
      exact ⟨v, by unfold L2.start; rw [List.getElem?_append_left (by simp; omega), List.getElem?_map, ev]; rfl, r⟩
  · rw [List.getElem?_append_right (by simpa using hi)] at q
    rw [List.getElem?_replicate] at q
    split at q <;> cases q
theorem hr_take {m m' : List Addr} {h h' : Hs} {H H' : Hp} (hr : HR K m h H) (g : Grow m H m' H') (hr' : HR K m' h' H') : HR K m (h'.take h.length) H' := by
  obtain ⟨e, rfl, _⟩ := g.ext
  have l1 := hr.len
  have l2 := hr'.len
  simp only [List.length_append] at l2
  refine ⟨by simp; omega, hr.nd, fun i o a e1 e2 => ?_⟩
  have hi : i < m.length := (List.getElem?_eq_some_iff.mp e2).1
  rw [List.getElem?_take_of_lt (by omega)] at e1
  exact hr'.at_ i o a e1 (by rw [List.getElem?_append_left hi]; exact e2)
theorem grow_drop {m m' : List Addr} {H H' : Hp} (g : Grow m H m' H') : Grow m H m H' := ⟨⟨[], by simp, by simp⟩, g.keep, g.there⟩
/-- a def's end, seen from its caller -/
theorem ret_ok {m m' : List Addr} {h h' : Hs} {H H' : Hp} {v : V} {u : U} {E : XK} {Q : VK} (hr : HR K m h H) (g : Grow m H m' H') (hr' : HR K m' h' H') (r : VR K H m' H' v u)
    (f : Fin K E (relV K) m H (retU h.length u h') Q) : Q v H' := by
  have hr2 := hr_take hr g hr'
  have g2 := grow_drop g
  have l1 := hr.len
  obtain ⟨e, rfl, ne⟩ := g.ext
  cases u with
  | d x => exact f v H' m g2 hr2 r
  | ro xs => exact f v H' m g2 hr2 r
  | tmp o =>
    obtain ⟨a, rfl, hn, h0, k⟩ := r
    exact f (.ref a) H' m g2 hr2 ⟨a, rfl, fun z => hn (List.mem_append_left _ z), h0, k⟩
  | obj i =>
    obtain ⟨a, ea, rfl⟩ := r
    unfold retU at f
    dsimp only at f
    split at f
    · rename_i hi
      split at f
      · rename_i o eo
        have hi2 : m.length ≤ i := by omega
        rw [List.getElem?_append_right hi2] at ea
        have ma : a ∈ e := List.mem_of_getElem? ea
        refine f (.ref a) H' m g2 hr2 ⟨a, rfl, fun z => ?_, ne a ma, ?_⟩
        · exact (List.nodup_append.mp hr'.nd).2.2 a z a ma rfl
        · exact hr'.at_ i o a eo (by rw [List.getElem?_append_right hi2]; exact ea)
      · exact False.elim f
    · rename_i hi
      refine f (.ref a) H' m g2 hr2 ⟨a, ?_, rfl⟩
      rw [List.getElem?_append_left (by omega)] at ea
      exact ea
theorem co_body {N ps : List Str} {qual : Str} {scope : Scope} {f : Addr} {cd : Value} {A : Around} {outer : List Env} {s : Shared} {H : Hp} {E : XK} (S : FnScope N ps scope) (hr : Room k (A.deeper (envOfC qual scope s.heap.objs.size f cd))) (hg : A.guards = some []) :
    CO (cxOf (CX P w) P w K mg base N qual scope f cd A outer s H E) (fun cls d _ H => E cls d H) := by
  refine ⟨rfl, S.nd, takes_of rfl rfl rfl rfl, passes_of rfl, ?_, hg⟩
  have := hr.un
  show (A.deeper (envOfC qual scope s.heap.objs.size f cd)).units + 200 < cLine
  omega
/-- THE RULE: a def by its body -/
theorem fn_ok {x : Str} {st : Stmt} {f : Addr} {fd : FuncData} {N ps : List Str} {C : Cc} {fn : Fn} (F : L2.Fun K x x st f fd) (S : FnScope N ps (defScope st)) (hn : fn.slots = N.length)
    (hb : ∀ (cd : Value) (A : Around) (outer : List Env) (s : Shared) (H : Hp) (E : XK), CO (cxOf (CX P w) P w K mg base N x (defScope st) f cd A outer s H E) (fun cls d _ H => E cls d H) → Room k (A.deeper (envOfC x (defScope st) s.heap.objs.size f cd)) →
      ZXs (cxOf (CX P w) P w K mg base N x (defScope st) f cd A outer s H E) (fun cls d _ H => E cls d H) C (defBody st) fn.body) :
    FnOkG P w K mg base (k + 1) f fd ps (spOf K (callD C fn) ps.length) := by
  obtain ⟨⟨oc, od, kV, doc, pm, an, cdv, ct, osl, rfl, lk, hcd⟩, kp⟩ := F
  refine ⟨fun vs H Q E q => q.1, fun A outer s H args us vs Q E hr hg e0 hbind r q => ?_⟩
  obtain ⟨hl, m, h, as, hrm, ua, fin⟩ := q
  have KX : K.In s.heap := e0.mod.kin.keeps fun b o z => (e0.bs b o z).1
  have lim : s.heap.NoLimit := e0.mod.nolimit.keeps fun b o z => (e0.bs b o z).1
  have hk : ((ps.zip us).all fun y => (defScope st).names.lookup y.1 == some .local || (defScope st).names.lookup y.1 == some .cell) = true := by
    rw [List.all_eq_true]
    intro y hy
    rcases S.par y.1 (List.of_mem_zip hy).1 with z | z <;> rw [z] <;> rfl
  refine Att.call_fn KX lim lk hcd hr.depth hbind hk (fun s1 x1 => ?_) S.co S.gen S.kind
  have hr1 := hr.deeper (envOfC x (defScope st) s.heap.objs.size f cdv)
  have co := co_body (P := P) (w := w) (K := K) (mg := mg) (base := base) (outer := outer) (s := s) (H := H) (E := E) S hr1 hg
  have I := inv_start (CX := CX P w) (E := E) S hr.hd e0 hl r x1
  have lN : ps.length ≤ N.length := by have := congrArg List.length S.pre; simp at this; omega
  have body := hb cdv A outer s H E co hr1
  have goal : tS K (fun cls d _ H => E cls d H) (dSs C fn.body) { nx := fun _ H' => Q .non H', rt := Q } (L2.start N vs) H := by
    refine ⟨startR fn.slots as, m, h, by rw [hn]; exact start_ok ua (by omega), hrm, ?_⟩
    have fin : Fin K E (relV K) m H (finish h.length (dSs C fn.body (startR fn.slots as) h)) Q := fin
    cases hd : dSs C fn.body (startR fn.slots as) h with
    | stuck => rw [hd] at fin; exact False.elim fin
    | exc c y ρ' h' =>
      rw [hd] at fin
      exact fun σ' cls dd H' m' g hr' er' xr => fin cls dd H' m (grow_drop g) (hr_take hrm g hr') xr
    | ok fl ρ' h' =>
      rw [hd] at fin
      cases fl with
      | next => exact fun σ' H' m' g hr' er' => fin V.non H' m (grow_drop g) (hr_take hrm g hr') mk_non
      | brk => exact False.elim fin
      | cont => exact False.elim fin
      | ret u => exact fun v H' m' g hr' rv => ret_ok hrm g hr' rv fin
  refine wpAny_mono (body.run [] s1 (L2.start N vs) H _ I goal) (fun fl s' hs => ?_) fun e s' hs => hs
  have fend : ∀ {σ' : L2.St} {H' : Hp} {v : V} {u : Value}, L2.Inv (cxOf (CX P w) P w K mg base N x (defScope st) f cdv A outer s H E) [] σ' H' s' → RelV v u → Q v H' → CE outer P w H s Q u s' :=
    fun {σ' H' v u} J rv z => ⟨v, H', J.os, J.bare, J.base, J.hok, rv, z⟩
  cases fl with
  | next => obtain ⟨σ', H', J, z⟩ := hs; exact fend (v := V.non) (u := Value.none) J rfl z
  | ret u => obtain ⟨v, σ', H', J, rv, z⟩ := hs; exact fend J rv z
  | brk => obtain ⟨_, _, _, z⟩ := hs; exact False.elim z
  | cont => obtain ⟨_, _, _, z⟩ := hs; exact False.elim z
end

/-! ### a whole table of defs -/
/-- the names of built-ins that the text leaves alone -/
structure Free (mg : Str → Option Value) : Prop where
  all : ∀ x ∈ (["len", "int", "tuple", "list", "abs", "max", "min", "repr", "isinstance", "bool", "range", "enumerate", "zip", "sorted", "set", "dict", "sum", "all", "any", "str"] : List Str), mg x = none
/-- what is checked of an entry by itself -/
structure EntOk (e : Ent) : Prop where
  sc : FnScope e.N e.ps (defScope e.st)
  n : e.fn.n = e.ps.length
  slots : e.fn.slots = e.N.length
  bind : ∀ (kV doc pm : Value) (an : Option Addr) (cdv ct : Value) (us : List Value), us.length = e.ps.length → bindArgs (PySem.W.fnOf e.name e.name (defArgs e.st) (defBody e.st) (defScope e.st) .none kV doc pm an cdv ct) ⟨us, []⟩ = pure (e.ps.zip us)
/-- its body is read by the small language -/
def BodyOk (T : Lib) (tab : List Ent) (mg : Str → Option Value) (e : Ent) : Prop := ∀ (P : Program) (w : World) (K : PySem.W.Frag) (base : Heap) (k : Nat), Free mg → (∀ (i : Nat) (a : Ent), tab[i]? = some a → FOk P w K mg base (T.at k) k a) →
  ∀ (f : Addr) (cd : Value) (A : Around) (outer : List Env) (s : Shared) (H : Hp) (E : XK), CO (cxOf (CX P w) P w K mg base e.N e.name (defScope e.st) f cd A outer s H E) (fun cls d _ H => E cls d H) → Room k (A.deeper (envOfC e.name (defScope e.st) s.heap.objs.size f cd)) →
    ZXs (cxOf (CX P w) P w K mg base e.N e.name (defScope e.st) f cd A outer s H E) (fun cls d _ H => E cls d H) (T.at k) (defBody e.st) e.fn.body
inductive AllB (T : Lib) (tab : List Ent) (mg : Str → Option Value) : List Ent → Prop where
  | nil : AllB T tab mg []
  | cons {e : Ent} {es : List Ent} (h1 : EntOk e) (h2 : T.fn e.id = some e.fn) (h3 : BodyOk T tab mg e) (h : AllB T tab mg es) : AllB T tab mg (e :: es)
theorem AllB.get {T : Lib} {tab : List Ent} {mg : Str → Option Value} : ∀ {es : List Ent} {i : Nat} {e : Ent}, AllB T tab mg es → es[i]? = some e → EntOk e ∧ T.fn e.id = some e.fn ∧ BodyOk T tab mg e
  | _, _, _, .nil, q => by simp at q
  | _, 0, _, .cons h1 h2 h3 _, q => by simp at q; subst q; exact ⟨h1, h2, h3⟩
  | _, i + 1, _, .cons _ _ _ h, q => AllB.get (i := i) h (by simpa using q)
section
variable {P : Program} {w : World} {K : PySem.W.Frag} {mg : Str → Option Value} {base : Heap}
theorem tab_ok {T : Lib} {tab : List Ent} (al : AllB T tab mg tab) (fr : Free mg) (facts : ∀ (i : Nat) (e : Ent), tab[i]? = some e → ∃ fa fd, mg e.name = some (.ref fa) ∧ L2.Fun K e.name e.name e.st fa fd) :
    ∀ (k : Nat) (i : Nat) (e : Ent), tab[i]? = some e → FOk P w K mg base (T.at k) k e := by
  intro k
  induction k with
  | zero =>
    intro i e q
    obtain ⟨fa, fd, h1, h2⟩ := facts i e q
    obtain ⟨e1, e2, e3⟩ := al.get q
    refine ⟨fa, fd, h1, h2, h2.binds (ps := e.ps) e1.bind, ⟨fun vs H Q E z => z.1, fun A outer s H args us vs Q E hr hg e0 hb r z => ?_⟩⟩
    obtain ⟨_, m, h, as, _, _, fin⟩ := z
    exact False.elim fin
  | succ k ih =>
    intro i e q
    obtain ⟨fa, fd, h1, h2⟩ := facts i e q
    obtain ⟨e1, e2, e3⟩ := al.get q
    refine ⟨fa, fd, h1, h2, h2.binds (ps := e.ps) e1.bind, ?_⟩
    have G := fn_ok (P := P) (w := w) (mg := mg) (base := base) (k := k) (C := T.at k) (fn := e.fn) h2 e1.sc e1.slots fun cd A outer s H E co hr => e3 P w K base k fr ih fa cd A outer s H E co hr
    refine ⟨fun vs H Q E z => z.1, fun A outer s H args us vs Q E hr hg e0 hb r z => G.run A outer s H args us vs Q E hr hg e0 hb r ?_⟩
    obtain ⟨hl, m, h, as, hrm, ua, fin⟩ := z
    refine ⟨hl, m, h, as, hrm, ua, ?_⟩
    have fin : Fin K E (relV K) m H (callK T (k + 1) e.id as h) Q := fin
    have ea : as.length = e.fn.n := by rw [← UAll.length ua, hl, e1.n]
    unfold callK at fin
    rw [e2] at fin
    dsimp only at fin
    rw [if_pos ea] at fin
    exact fin
end
end EV
end

section
set_option Elab.async false
set_option linter.all false
set_option autoImplicit false
set_option maxRecDepth 100000
/-! EV, part L: the law's own call, over a head that tells facts. -/
namespace EV
open PySem PySem.Spec L2

/-- the heap of the layer at the law's entry: the script alone, if the module does not hold it -/
def H0of (K : PySem.W.Frag) (a : Addr) (o : Obj) (vs : List V) : Hp := fun b => if b = a ∧ K.lookup a = none then some (.frz o (.lst vs)) else none
theorem H0of_cases (K : PySem.W.Frag) (a : Addr) (o : Obj) (vs : List V) (b : Addr) : H0of K a o vs b = none ∨ (b = a ∧ K.lookup a = none ∧ H0of K a o vs b = some (.frz o (.lst vs))) := by
  unfold H0of
  by_cases c : b = a ∧ K.lookup a = none
  · exact .inr ⟨c.1, c.2, if_pos c⟩
  · exact .inl (if_neg c)
section
variable {P : Program} {w : World} {K : PySem.W.Frag} {mg mb : Str → Option Value} {k : Nat} {fa a : Addr} {fd : FuncData} {x : Str} {r : List U → Hs → R U} {s : Shared} {vs : List Value} {ns : List Int}
theorem law_run (KX : K.In s.heap) (hns : s.heap.Ns mainGlobals mg) (hb : s.heap.Ns builtinsNs mb) (hbb : ∀ x : Str, x ≠ "__name__" → mb x = bootBuiltins x) (hlim : s.heap.NoLimit) (hg : s.gens = #[])
    (ha : s.heap.get? a = some { cls := .type "list", data := .seq vs.toArray }) (hi : PyProof.Rows.IntsAre vs ns) (hl : ns.length ≤ sizeLine) (hr : Room k callerA)
    (F : ∀ base : Heap, K.In base → base.Ns mainGlobals mg → FnOkG P w K mg base k fa fd [x] (spOf K r 1)) (hbind : ∀ (s : Shared) (u : Value), BindsTo s fd ⟨[u], []⟩ [(x, u)])
    (law : ∃ h', r [.ro (ns.map .int)] [] = .ok (.d (.bl true)) h') :
    codeAny (model P w) callerA (.call (.ref fa) ⟨[.ref a], []⟩) (fun r s' => r = .ok (.ret (.bool true)) ∧ OldK s.heap s'.heap ∧ s'.os = s.os ∧ PyProof.Rows.AllBare s'.gens) s := by
  have rv := vals_ints hi
  have lv := rv.length
  have cs := H0of_cases K a { cls := .type "list", data := .seq vs.toArray } (ns.map V.int)
  generalize hH : H0of K a { cls := .type "list", data := .seq vs.toArray } (ns.map V.int) = H at cs
  have hok : HOk P w H s.heap := fun b o e => by
    rcases cs b with z | ⟨rfl, _, z⟩
    · rw [z] at e; cases e
    · rw [z] at e; cases e
      exact ⟨ha, by simp; exact hl, vs, 0, rv, ha⟩
  have hro : RoL K H a (ns.map V.int) := by
    cases q : K.lookup a with
    | none => exact .inl ⟨_, by rw [← hH]; exact if_pos ⟨rfl, q⟩⟩
    | some o =>
      have e := KX a o q
      rw [ha] at e; cases e
      exact .inr ⟨_, vs.toArray, 0, q, rfl, rfl, rfl, by rw [List.size_toArray, ← lv, List.length_map]; exact hl, by simpa using rv⟩
  have low : ∀ {b : Addr} {o : Obj}, s.heap.get? b = some o → (∀ q n, o.data ≠ .seq q n) → H b = none := fun {b o} e d => by
    rcases cs b with z | ⟨rfl, _, _⟩
    · exact z
    · rw [ha] at e; cases e
      exact absurd rfl (d _ _)
  have ns_ : ∀ {b : Addr} {g : Str → Option Value}, s.heap.Ns b g → (hidT s.heap H).Ns b g := fun {b g} ⟨o, es, ep, e, d, q⟩ => ⟨o, es, ep, hidT_get e (low e fun _ _ z => by rw [d] at z; cases z), d, q⟩
  have hKb : K.In (hidT s.heap H) := fun b o e => hidT_get (KX b o e) (by
    rcases cs b with z | ⟨rfl, z, _⟩
    · exact z
    · rw [z] at e; cases e)
  obtain ⟨mc, l1, l2⟩ := hlim
  have hM : Mod K mg (hidT s.heap H) := ⟨hKb, ns_ hns, ⟨mb, ns_ hb, hbb⟩, mc, ns_ l1, l2⟩
  have e0 : Env0 P w K mg (hidT s.heap H) callerA [] s H := ⟨rfl, hM, fun b o e => of_hidT e, Nat.le_of_eq (hidT_size _ _), trivial, fun b z => absurd (show b ∈ ([] : List Addr) from z) (by simp), hok, .of_eq hg⟩
  have sp : spOf K r 1 [V.ref a] H (fun v _ => v = .bl true) (fun _ _ _ => False) := by
    obtain ⟨h', e⟩ := law
    refine ⟨rfl, [], [], [.ro (ns.map .int)], ⟨rfl, List.nodup_nil, fun i o a e _ => by simp at e⟩, ⟨⟨a, ns.map V.int, rfl, hro, dps_ints ns K H⟩, trivial⟩, ?_⟩
    rw [e]
    exact fun v H' m' _ _ z => dp_bl z
  refine codeAny_mono ((F _ hKb (ns_ hns)).run callerA [] s H ⟨[.ref a], []⟩ [.ref a] [.ref a] _ _ hr rfl e0 (hbind s (.ref a)) (.cons rfl .nil) sp) fun q s' z => ?_
  cases q with
  | error e =>
    obtain ⟨_, _, _, _, _, _, _, _, _, _, _, _, z⟩ := z
    exact z.elim
  | ok fl =>
    cases fl with
    | next => exact False.elim z
    | brk => exact False.elim z
    | cont => exact False.elim z
    | ret u =>
      obtain ⟨v, H', os, bare, un, hok', r', q⟩ := z
      have q : v = .bl true := q
      subst q
      obtain rfl : u = Value.bool true := r'
      refine ⟨rfl, OldK.of_keep fun b o e => ?_, os, bare⟩
      rcases cs b with n | ⟨_, _, n⟩
      · exact un.keep b o e n (fun z => absurd (show b ∈ ([] : List Addr) from z) (by simp)) (by simp)
      · have n2 := un.frzs b _ _ n
        obtain ⟨e1, _⟩ := hok b _ n
        obtain ⟨e2, _⟩ := hok' b _ n2
        rw [e] at e1; cases e1
        exact e2
end

/-! ### the head's facts -/
def Ent.dd (e : Ent) : He.DefD := ⟨((e.name : Str), none), e.name, e.name, defArgs e.st, defBody e.st, defScope e.st, [], []⟩
def blts : List Str := ["len", "int", "tuple", "list", "abs", "max", "min", "repr", "isinstance", "bool", "range", "enumerate", "zip", "sorted", "set", "dict", "sum", "all", "any", "str"]
def facts (tab : List Ent) (more : List He.Fa) : List He.Fa := blts.map He.Fa.free ++ (tab.map fun e => He.Fa.glo e.name) ++ more
theorem fun_of {K : PySem.W.Frag} {e : Ent} {f : Addr} {fd : FuncData} (F : FunD K e.dd.name e.dd.qual e.dd.params e.dd.body e.dd.scope (e.dd.dvs K) (e.dd.kws K) f fd) : L2.Fun K e.name e.name e.st f fd := by
  obtain ⟨⟨oc, od, dV, kV, doc, pm, an, cdv, ct, osl, e1, lk, hc, hd, hk⟩, kp⟩ := F
  rcases hd with ⟨_, rfl⟩ | ⟨h, _⟩
  · exact ⟨⟨oc, od, kV, doc, pm, an, cdv, ct, osl, e1, lk, hc⟩, kp⟩
  · exact absurd rfl h
section
variable {tab : List Ent} {more : List He.Fa} {K : PySem.W.Frag} {h : Heap} {mg : Str → Option Value}
theorem free_of (X : K.In h) (G : h.Ns mainGlobals mg) (c : He.SaysD (facts tab more) (tab.map Ent.dd) K) : Free mg := by
  refine ⟨fun x hx => He.free_ok X G ?_⟩
  have hm : He.Fa.free x ∈ facts tab more := List.mem_append_left _ (List.mem_append_left _ (List.mem_map.mpr ⟨x, hx, rfl⟩))
  obtain ⟨i, hi, e⟩ := List.getElem_of_mem hm
  exact c.fact i (by rw [List.getElem?_eq_getElem hi, e])
theorem more_of (c : He.SaysD (facts tab more) (tab.map Ent.dd) K) {f : He.Fa} (hf : f ∈ more) : f.ok K = true := by
  have hm : f ∈ facts tab more := List.mem_append_right _ hf
  obtain ⟨i, hi, e⟩ := List.getElem_of_mem hm
  exact c.fact i (by rw [List.getElem?_eq_getElem hi, e])
theorem facts_of (X : K.In h) (G : h.Ns mainGlobals mg) (c : He.SaysD (facts tab more) (tab.map Ent.dd) K) (i : Nat) (e : Ent) (q : tab[i]? = some e) :
    ∃ fa fd, mg e.name = some (.ref fa) ∧ L2.Fun K e.name e.name e.st fa fd := by
  obtain ⟨fd, F⟩ := c.def_ i (d := e.dd) (by rw [List.getElem?_map, q]; rfl)
  have hm : He.Fa.glo e.name ∈ facts tab more := List.mem_append_left _ (List.mem_append_right _ (List.mem_map.mpr ⟨e, List.mem_of_getElem? q, rfl⟩))
  obtain ⟨j, hj, e2⟩ := List.getElem_of_mem hm
  have g := He.glo_ok X G (c.fact j (f := .glo e.name) (by rw [List.getElem?_eq_getElem hj, e2]))
  exact ⟨_, fd, g, fun_of F⟩
end
/-- THE END of a law row: the table, the facts, and what the law's def comes to -/
theorem law_walk {l : PySem.W.OpenLaw} {n k : Nat} {q : Program} {loose : List Str} {XP : (Str → Option Value) → Heap → Prop} {d : PySem.DefRec} {T : Lib} {tab : List Ent} {more : List He.Fa} {j : Nat} {en : Ent} {x : Str} {gvOk : (Str → Option Value) → Prop}
    (hn : l.most = some n) (hn2 : n ≤ sizeLine) (hdf : d.params.defaults = []) (hr : Room k callerA)
    (al : ∀ mg : Str → Option Value, gvOk mg → AllB T tab mg tab) (hj : tab[j]? = some en) (hname : (en.name : Str) = d.name) (hps : en.ps = [x])
    (hgv : ∀ (K : PySem.W.Frag) (h : Heap) (mg : Str → Option Value), K.In h → h.Ns mainGlobals mg → (∀ f ∈ more, f.ok K = true) → gvOk mg)
    (law : ∀ ns : List Int, ns.length ≤ n → (∀ z ∈ ns, Builtin.Int.intBits z ≤ 1048576) → ∃ h', callK T k en.id [.ro (ns.map .int)] [] = .ok (.d (.bl true)) h') :
    PySem.W.WalkO q loose XP (fun _ h => ∃ K : PySem.W.Frag, K.In h ∧ He.SaysD (facts tab more) (tab.map Ent.dd) K) l.row.toRowW d [] (fun f vs => PySem.call f vs) := by
  refine Att.attach_callB hn hdf fun w s₀ s₁ mg mb fa o pm cd doc a vs ns G Y ho hd hcd hmg hobj hints hlen hbits hg => ?_
  obtain ⟨K, KX, c⟩ := Y
  have gv := hgv K _ mg KX G.T.g fun f hf => more_of c hf
  obtain ⟨fa', fd, g1, F1⟩ := facts_of KX G.T.g c j en hj
  have e := hmg.symm.trans ((congrArg mg hname).symm.trans g1)
  cases e
  obtain ⟨e1, _, _⟩ := (al mg gv).get hj
  have hb : ∀ (s : Shared) (u : Value), BindsTo s fd ⟨[u], []⟩ [(x, u)] := fun s u => by
    have hb := F1.binds (ps := en.ps) e1.bind s [u]
    obtain ⟨⟨oc, od, kV, doc', pm', an, cdv, ct, osl, rfl, _, _⟩, _⟩ := F1
    have := e1.bind kV doc' pm' an cdv ct [u] (by rw [hps]; rfl)
    rw [hps] at this
    exact .of_eq this
  have G2 : ∀ base : Heap, K.In base → base.Ns mainGlobals mg → FnOkG l.prog w K mg base k fa fd [x] (spOf K (callK T k en.id) 1) := fun base _ _ => by
    obtain ⟨fa2, fd2, g2, F2, _, H2⟩ := (tab_ok (P := l.prog) (w := w) (K := K) (base := base) (al mg gv) (free_of KX G.T.g c) (facts_of KX G.T.g c) k j en hj).ex
    have e2 := g1.symm.trans g2
    cases e2
    obtain ⟨⟨oc, od, kV, doc', pm', an, cdv, ct, osl, q1, lk1, _⟩, _⟩ := F1
    obtain ⟨⟨oc2, od2, kV2, doc2, pm2, an2, cdv2, ct2, osl2, q2, lk2, _⟩, _⟩ := F2
    have e3 := lk1.symm.trans lk2
    cases e3
    rw [hps] at H2
    exact H2
  exact law_run KX G.T.g G.T.b G.T.builtins G.T.nolimit hg hobj hints (Nat.le_trans hlen hn2) hr G2 hb (law ns hlen hbits)
end EV
end

section
set_option Elab.async false
set_option linter.all false
set_option autoImplicit false
set_option maxRecDepth 100000
/-! EV, part M: repetition, calls by keywords, a statement that is never reached. -/
namespace EV
open PySem PySem.Spec L2
section
variable {X : Cx} {W : WX} {C : Cc} {k : Nat}
theorem zs_never {st : Stmt} : ZX X W C st .never := PS.imp ps_never fun D σ H ⟨ρ, m, h, er, hr, f⟩ => f

/-! ### tuple * 1 -/
theorem tup_mul1 (l : Addr) (items : Array Value) (n : Nat) (dd : Option Addr) (sl : Array (Option Value)) (u : Tok) :
    Meets (Builtin.«tuple.__mul__» ⟨[.ref l, .int 1 u], []⟩) (fun _ R s => s.heap.get? l = some { cls := .type "tuple", dict := dd, data := .seq items n, slots := sl } ∧ R (.ok (.ret (Value.ref l))) s) :=
  .of_wp fun prog w A R s h => by
    obtain ⟨hp, g, d, tk, os⟩ := s
    obtain ⟨hl, h⟩ := h
    have f1 := AutoSeq1.idx_int
    have c0 : (decide ((1 : Int) < -(2 ^ 63)) || decide ((1 : Int) ≥ 2 ^ 63)) = false := by decide
    have c1 : (items.isEmpty || (1 : Int) == 1) = true := by simp
    wp_walk using wpAny_loadPart' hl
    repeat (first
      | (refine wpAny_ite_false (decide_eq_false (by rw [c0]; exact Bool.false_ne_true)) ?_; wp_walk using wpAny_loadPart' hl)
      | (refine wpAny_ite_true (decide_eq_true c1) ?_; wp_walk using wpAny_loadPart' hl))
    exact ⟨_, rfl, h⟩

def rRep1 (K : PySem.W.Frag) : R2 := fun x y H Q => ∃ l xs, x = .ref l ∧ y = .int 1 ∧ SqT K H l xs ∧ Q (.ref l) H
theorem op_rep1 : OpR X (binaryOp .Mult) (rRep1 X.K) := by
  intro pins s σ H x y v u Q I rx ry h
  obtain ⟨l, xs, rfl, rfl, hT, q⟩ := h
  cases rx
  obtain ⟨t, rfl⟩ := ry
  obtain ⟨its, r, ⟨⟨cls, dd, data, sl⟩, ho, hc, n, hd⟩, hs⟩ := I.tuple hT
  simp only at hc hd
  subst hc hd
  refine wpAny_binaryOp_repeat_ref (T := "tuple") (U := "int") (by decide) ⟨_, ho, rfl⟩ (fun s' => typeIs_int s' 1 t) noFill_tuple_mul F.fills_int_mul F.slot_int_rmul repeat_tuple F.slot_int_index.lookup
    (call_meets F.slot_int_rmul (typeIs_int s 1 t) F.entry_int_rmul (F.args_int_rmul_2 _ _) (int_rmul_tuple 1 t l its.toArray n dd sl)
      ⟨ho, rfl, ⟨_, ho, rfl⟩, call_meets F.slot_tuple_mul ⟨_, ho, rfl⟩ F.entry_tuple_mul (F.args_tuple_mul_2 _ _) (tup_mul1 l its.toArray n dd sl t) ⟨ho, ?_⟩⟩)
  exact ⟨.ref l, H, I, rfl, q⟩
theorem dps_rep {K : PySem.W.Frag} {H : Hp} {vs : List V} {xs : List D} (d : DpAll K H vs (D.pys xs)) : ∀ n : Nat, DpAll K H (List.replicate n vs).flatten (D.pys (List.replicate n xs).flatten)
  | 0 => by simpa [D.pys] using DpAll.nil
  | n + 1 => by
    rw [List.replicate_succ, List.replicate_succ, List.flatten_cons, List.flatten_cons]
    exact dps_app d (dps_rep d n)
theorem rep_size (x : Array Nat) : ∀ (n : Nat) (a : Array Nat), ((List.replicate n x).foldl (· ++ ·) a).size = a.size + n * x.size
  | 0, a => by simp
  | n + 1, a => by
    rw [List.replicate_succ, List.foldl_cons, rep_size x n (a ++ x), Array.size_append, Nat.add_mul]
    omega
theorem op_mulU : OpR X (binaryOp .Mult) (rOp X.K fun u v _ => binU .mul u v) := by
  intro pins s σ H x y v u Q I rx ry ⟨m, h, a, b, w, hr, xa, yb, e, q⟩
  change mulU a b = some w at e
  unfold mulU at e
  split at e
  · exact op_mulI pins s σ H x y v u Q I rx ry ⟨m, h, _, _, w, hr, xa, yb, e, q⟩
  · rename_i xs k
    split at e
    · rename_i c
      obtain ⟨c1, c2, c3, c4⟩ := c
      cases e
      obtain ⟨l, vs, rfl, sq, d⟩ := dp_tup xa
      have ey := dp_int yb
      subst ey
      by_cases hk : k = 1
      · subst hk
        refine op_rep1 pins s σ H _ _ v u Q I rx ry ⟨l, vs, rfl, rfl, sq, q _ H m Grow.refl hr ?_⟩
        have : (List.replicate (1 : Int).toNat xs).flatten = xs := by simp
        rw [this]
        exact xa
      · have hne : vs ≠ [] := fun z => by
          have := dps_len d
          rw [z] at this
          simp at this
          omega
        exact op_repT pins s σ H _ _ v u Q I rx ry ⟨l, k, vs, rfl, rfl, sq, hne, by omega, c2, by rw [dps_len d]; exact c4, fun p hp => q _ _ m (grow_new hp) (hr.new hp) (vr_tup hr hp (dps_rep d _))⟩
    · cases e
  · rename_i z k
    split at e
    · rename_i c
      obtain ⟨c1, c2, c3, c4⟩ := c
      cases e
      have ex := dp_str xa
      have ey := dp_int yb
      subst ex ey
      obtain ⟨t, rfl⟩ := rx
      obtain ⟨t2, rfl⟩ := ry
      have b1 : ((z.length : Nat) : Int) * k ≤ 1000 * 1000 := Int.mul_le_mul (by omega) c2 (by omega) (by omega)
      refine PySem.P.mul_str ?_ (fun _ _ => ?_) (fun _ _ => ?_) ?_
      · rw [decide_eq_false (by omega), decide_eq_false (by omega)] <;> rfl
      · intro hh
        have e1 : (1000 : Int) ≤ (2 ^ 63 - 1) / k := by
          refine Int.le_ediv_of_mul_le (by omega) ?_
          omega
        omega
      · have : z.length * k.toNat ≤ 1000 * 1000 := Nat.mul_le_mul c4 (by omega)
        unfold Builtin.Str.tooLong
        rw [sizeLine_eq]
        exact decide_eq_false (by omega)
      · rw [if_neg (by omega), if_neg (by simp; omega)]
        refine ⟨?_, ?_⟩
        · show ((List.replicate k.toNat z.cps).foldl (· ++ ·) #[]).size ≤ sizeLine
          rw [rep_size, sizeLine_eq]
          have : k.toNat * z.cps.size ≤ 1000 * 1000 := Nat.mul_le_mul (by omega) c4
          simp only [Array.size_empty]
          omega
        · exact ⟨.str (strMul z k), H, I.kept (fun _ _ z => z), ⟨_, rfl⟩, q _ H m Grow.refl hr (mk_str _)⟩
    · cases e
  · cases e
theorem se_mul {a b : Expr} {A B : E} {pos : Pos} (ha : SX X W C a A) (hb : SX X W C b B) : SX X W C (.BinOp a .Mult b pos) (.bin .mul A B) := se_bin op_mulU ha hb

/-! ### calls by keywords -/
abbrev KX (X : Cx) (W : WX) (C : Cc) (es : List Keyword) (ê : List E) : Prop := PK X es (tA X.K W (dens C ê))
theorem PK.imp {X : Cx} {e : List Keyword} {t t' : TA} (h : PK X e t) (i : ∀ σ H Q, t' σ H Q → t σ H Q) : PK X e t' := ⟨fun pos pins s σ H Q I q => h.run pos pins s σ H Q I (i σ H Q q)⟩
theorem cons_of {A : E} {As : List E} {σ : L2.St} {H : Hp} {Q : List V → Hp → Prop} (q : tA X.K W (dens C (A :: As)) σ H Q) : tCons (tE X.K W (den C A)) (tA X.K W (dens C As)) σ H Q := by
  obtain ⟨ρ, m, h, er, hr, fin⟩ := q
  refine ⟨ρ, m, h, er, hr, (Fin.bind0 (rel1 := relV X.K) fin).imp ?_⟩
  rintro x H1 ⟨m1, h1, u, g1, hr1, r1, fin1⟩
  obtain ⟨m2, g2, hr2, r2, e2, he2⟩ := alloc_ok g1 hr1 r1
  refine ⟨ρ, m2, _, he2 ▸ (er.grow hr g1).ext, hr2, (Fin.bind (rel1 := relA X.K) old_A (fin1.shift old_A g2)).imp ?_⟩
  rintro vs H3 ⟨m3, h3, us, g3, hr3, r3, fin3⟩
  exact Fin.ok (b := x :: vs) (a := (alloc u h1).1 :: us) hr3 fin3 ⟨r2.grow hr2 g3, r3⟩
theorem kx_nil : KX X W C [] [] := PK.imp pk_nil fun σ H Q ⟨ρ, m, h, er, hr, fin⟩ => Fin.ok (b := ([] : List V)) (a := ([] : List U)) hr fin trivial
theorem kx_cons {nm : Option Str} {e : Expr} {p : Pos} {kws : List Keyword} {A : E} {As : List E} (ha : SX X W C e A) (hs : KX X W C kws As) : KX X W C (⟨nm, e, p⟩ :: kws) (A :: As) :=
  PK.imp (pk_cons ha hs) fun _ _ _ q => cons_of q
theorem evs_len : ∀ (ds : List Den) (ρ : Rho) (h : Hs) us h', evs ds ρ h = .ok us h' → us.length = ds.length := by
  intro ds
  induction ds with
  | nil => intro ρ h us h' e; simp only [evs] at e; cases e; rfl
  | cons d ds ih =>
    intro ρ h us h' e
    simp only [evs] at e
    cases q1 : d.v ρ h with
    | ok u h1 =>
      rw [q1] at e
      cases q2 : evs ds ρ (alloc u h1).2 with
      | ok us2 h2 =>
        rw [R.bind, q2] at e
        cases e
        simp [ih _ _ _ _ q2]
      | exc c x h2 => rw [R.bind, q2] at e; cases e
      | stuck => rw [R.bind, q2] at e; cases e
    | exc c x h2 => rw [q1] at e; cases e
    | stuck => rw [q1] at e; cases e
theorem dens_len : ∀ es : List E, (dens C es).length = es.length := by
  intro es
  induction es with
  | nil => rfl
  | cons e es ih => show (dens C es).length + 1 = _; rw [ih]; rfl
theorem dens_app : ∀ (es fs : List E), dens C (es ++ fs) = dens C es ++ dens C fs := by
  intro es fs
  induction es with
  | nil => rfl
  | cons e es ih => show den C e :: dens C (es ++ fs) = _; rw [ih]; rfl
theorem evs_app : ∀ (ds es : List Den) (ρ : Rho) (h : Hs), evs (ds ++ es) ρ h = (evs ds ρ h).bind fun us h1 => (evs es ρ h1).bind fun vs h2 => .ok (us ++ vs) h2 := by
  intro ds es
  induction ds with
  | nil =>
    intro ρ h
    simp only [List.nil_append, evs, R.bind]
    cases evs es ρ h <;> rfl
  | cons d ds ih =>
    intro ρ h
    simp only [List.cons_append, evs]
    cases d.v ρ h with
    | stuck => rfl
    | exc c x h1 => rfl
    | ok u h1 =>
      simp only [R.bind]
      rw [ih]
      cases evs ds ρ (alloc u h1).2 with
      | stuck => rfl
      | exc c x h2 => rfl
      | ok us h2 =>
        simp only [R.bind]
        cases evs es ρ h2 <;> rfl
/-- what is picked out of two lists in step -/
theorem pick_rel {α β : Type} {r : α → β → Prop} {xs : List α} {ys : List β} (hr : ∀ (i : Nat) (y : β), ys[i]? = some y → ∃ x, xs[i]? = some x ∧ r x y) :
    ∀ {p : List Nat} {zs : List β}, p.mapM (fun i => ys[i]?) = some zs → ∃ ws, p.mapM (fun i => xs[i]?) = some ws ∧ Paired r ws zs
  | [], zs, e => by simp at e; subst e; exact ⟨[], by simp, .nil⟩
  | i :: p, zs, e => by
    simp only [List.mapM_cons, Option.bind_eq_bind, Option.bind_eq_some_iff] at e
    obtain ⟨y, e1, zs', e2, e3⟩ := e
    cases e3
    obtain ⟨x, f1, f2⟩ := hr i y e1
    obtain ⟨ws, f3, f4⟩ := pick_rel (p := p) hr e2
    exact ⟨x :: ws, by simp [f1, f3], .cons f2 f4⟩
theorem uall_of {K : PySem.W.Frag} {m : List Addr} {H : Hp} : ∀ {vs : List V} {us : List U}, Paired (fun v u => UR K m H v u) vs us → UAll K m H vs us
  | _, _, .nil => trivial
  | _, _, .cons a b => ⟨a, uall_of b⟩
theorem uall_app {K : PySem.W.Frag} {m : List Addr} {H : Hp} : ∀ {vs : List V} {us : List U} {ws : List V} {xs : List U}, UAll K m H vs us → UAll K m H ws xs → UAll K m H (vs ++ ws) (us ++ xs)
  | [], [], _, _, _, b => b
  | _ :: _, _ :: _, _, _, a, b => ⟨a.1, uall_app a.2 b⟩
theorem uall_grow {K : PySem.W.Frag} {m m' : List Addr} {H H' : Hp} {h : Hs} (hr : HR K m h H) (g : Grow m H m' H') : ∀ {vs : List V} {us : List U}, UAll K m H vs us → UAll K m' H' vs us
  | [], [], _ => trivial
  | _ :: _, _ :: _, a => ⟨a.1.grow hr g, uall_grow hr g a.2⟩
theorem vals_pick {vs : List V} {us : List Value} (r : Vals vs us) {p : List Nat} {zs : List V} (e : p.mapM (fun i => vs[i]?) = some zs) : ∃ ws, p.mapM (fun i => us[i]?) = some ws ∧ Vals zs ws := by
  obtain ⟨ws, f1, f2⟩ := pick_rel (r := fun (u : Value) (v : V) => RelV v u) (xs := us) (fun i y q => r.get q) e
  refine ⟨ws, f1, ?_⟩
  clear e f1
  induction f2 with
  | nil => exact .nil
  | cons a _ ih => exact .cons a ih
theorem vals_app : ∀ {vs : List V} {us : List Value} {zs : List V} {ws : List Value}, Vals vs us → Vals zs ws → Vals (vs ++ zs) (us ++ ws)
  | _, _, _, _, .nil, z => z
  | _, _, _, _, .cons a b, z => .cons a (vals_app b z)
theorem mapM_len {α : Type} {xs : List α} : ∀ {p : List Nat} {zs : List α}, p.mapM (fun i => xs[i]?) = some zs → zs.length = p.length
  | [], zs, e => by simp at e; subst e; rfl
  | i :: p, zs, e => by
    simp only [List.mapM_cons, Option.bind_eq_bind, Option.bind_eq_some_iff] at e
    obtain ⟨y, e1, zs', e2, e3⟩ := e
    cases e3
    simp [mapM_len e2]
/-- how the values bind: positional ones, then those by name, picked by p -/
def KwOk (en : Ent) (n1 n2 : Nat) (ks : List Str) (p : List Nat) : Prop := ∀ (kV doc pm : Value) (an : Option Addr) (cdv ct : Value) (us ws zs : List Value), us.length = n1 → ws.length = n2 → p.mapM (fun i => (us ++ ws)[i]?) = some zs →
  bindArgs (PySem.W.fnOf en.name en.name (defArgs en.st) (defBody en.st) (defScope en.st) .none kV doc pm an cdv ct) ⟨us, ks.zip ws⟩ = pure (en.ps.zip zs)
/-- f(e, .., k = e, ..), the values at hand -/
theorem kw_run {en : Ent} {f : String} {As Bs : List E} {p : List Nat} {ks : List Str} (co : CO X W) (hr : Room k X.A) (F : FOk X.prog X.w X.K X.mg X.base C k en) (hkw : KwOk en As.length Bs.length ks p) (hl : p.length = en.ps.length) (hp : p ≠ [])
    {σ : L2.St} {H : Hp} {Q : VK} (q : tE X.K W (den C (.call en.id (As ++ Bs) p)) σ H Q) :
    tA X.K W (dens C As) σ H fun vs H1 => tA X.K W (dens C Bs) σ H1 fun ws H2 => vs.length = As.length ∧ ws.length = Bs.length ∧ ∃ zs, p.mapM (fun i => (vs ++ ws)[i]?) = some zs ∧ spOf X.K (C.call en.id) en.ps.length zs H2 Q fun cls dd H' => W cls dd σ H' := by
  obtain ⟨ρ, m, h, er, hr0, fin⟩ := q
  have fin : Fin _ _ (relV X.K) m H ((evs (dens C (As ++ Bs)) ρ h).bind fun us h1 => match perm us p with | some ws => C.call en.id ws h1 | none => .stuck) Q := fin
  rw [dens_app, evs_app] at fin
  refine ⟨ρ, m, h, er, hr0, ?_⟩
  cases qe : evs (dens C As) ρ h with
  | stuck => rw [qe] at fin; exact fin
  | exc c x h1 => rw [qe] at fin; exact fin
  | ok us h1 =>
    rw [qe] at fin
    have l1 := evs_len _ _ _ _ _ qe
    rw [dens_len] at l1
    refine fun vs H1 m1 g1 hr1 r1 => ⟨ρ, m1, h1, er.grow hr0 g1, hr1, ?_⟩
    have fin := Fin.shift old_V g1 fin
    cases qe2 : evs (dens C Bs) ρ h1 with
    | stuck => simp only [R.bind, qe2] at fin; exact fin
    | exc c x h2 => simp only [R.bind, qe2] at fin; exact fin
    | ok ws h2 =>
      simp only [R.bind, qe2] at fin
      have l2 := evs_len _ _ _ _ _ qe2
      rw [dens_len] at l2
      refine fun vs2 H2 m2 g2 hr2 r2 => ⟨by rw [UAll.length r1, l1], by rw [UAll.length r2, l2], ?_⟩
      have r1' : UAll X.K m2 H2 vs us := uall_grow hr1 g2 r1
      have ra := uall_app r1' r2
      have fin := Fin.shift old_V g2 fin
      cases qp : perm (us ++ ws) p with
      | none => rw [qp] at fin; exact False.elim fin
      | some zs =>
        rw [qp] at fin
        have qp' : p.mapM (fun i => (us ++ ws)[i]?) = some zs := by
          unfold perm at qp
          cases p with
          | nil => exact absurd rfl hp
          | cons a b => exact qp
        obtain ⟨vz, f1, f2⟩ := pick_rel (r := fun v u => UR X.K m2 H2 v u) (xs := vs ++ vs2) (fun i y e => UAll.perm ra e) qp'
        refine ⟨vz, f1, by rw [mapM_len f1, hl], m2, h2, zs, hr2, uall_of f2, fin⟩
/-- f(k = e, ..) -/
theorem se_callK0 {en : Ent} {f : String} {p : List Nat} {pf pos : Pos} {kws : List Keyword} {Bs : List E} (ks : List Str) (co : CO X W) (hr : Room k X.A) (F : FOk X.prog X.w X.K X.mg X.base C k en) (hb : KX X W C kws Bs) (hkw : KwOk en 0 Bs.length ks p)
    (hf : f = en.name := by rfl) (hl : p.length = en.ps.length := by rfl) (hp : p ≠ [] := by simp) (hg : Gl X f := by rfl) (hdb : ((f : Str) == ("__debug__" : Str)) = false := by decide)
    (hall : (backToKw pos (keywordEach kws X.env)).all (·.1.isSome) = true := by rfl) (hks : (backToKw pos (keywordEach kws X.env)).filterMap (·.1) = ks := by rfl)
    (hpl : ((backTo pos (starEach [] X.env)).any (·.1) || (backToKw pos (keywordEach kws X.env)).any (·.1.isNone)) = false := by rfl) :
    SX X W C (.Call (.Name f pf) [] kws pos) (.call en.id Bs p) := by
  subst hf
  obtain ⟨fa, fd, hm, hF, hbi, G⟩ := F.ex
  refine ⟨fun pins s σ H Q I q => ?_⟩
  have q := kw_run (As := []) (f := en.name) co hr F hkw hl hp q
  refine wpAny_Call_Name_kw (ld_glob I hg hm ?_ hdb)
  have q' : tA X.K W (dens C Bs) σ H fun vs H1 => vs.length = Bs.length ∧ ∃ zs, p.mapM (fun i => vs[i]?) = some zs ∧ spOf X.K (C.call en.id) en.ps.length zs H1 Q fun cls dd H' => W cls dd σ H' := by
    obtain ⟨ρ, m, h, er, hr0, fin⟩ := q
    obtain ⟨ρ2, m2, h2, er2, hr2, fin2⟩ := fin [] H m Grow.refl hr0 trivial
    exact ⟨ρ2, m2, h2, er2, hr2, fin2.imp fun vs H' z => ⟨z.2.1, z.2.2⟩⟩
  refine PySem.W.callWith_KW0 (h₀ := X.base) I.ok.mod.kin hF.kp hall (thn (hb.run pos pins s σ H _ I q') fun ws s2 ⟨zs, H2, I2, rz, q2⟩ => ⟨I2.kIn, ?_⟩) hpl
  · rw [hks]
    obtain ⟨l2, vz, e1, sp⟩ := q2
    obtain ⟨us', e2, r2⟩ := vals_pick rz e1
    obtain ⟨⟨oc, od, kV, doc, pm, an, cdv, ct, osl, rfl, lk, hcd⟩, kp⟩ := hF
    exact run_g (us := []) (us' := us') co hr G (.of_eq (hkw kV doc pm an cdv ct [] ws us' rfl (by rw [← rz.length, l2]) e2)) I2 r2 sp
/-- f(e, .., k = e, ..) -/
theorem se_callK {en : Ent} {f : String} {p : List Nat} {pf pos : Pos} {e : Expr} {es : List Expr} {kws : List Keyword} {As Bs : List E} (ks : List Str) (co : CO X W) (hr : Room k X.A) (F : FOk X.prog X.w X.K X.mg X.base C k en) (ha : AX X W C (e :: es) As) (hb : KX X W C kws Bs)
    (hkw : KwOk en As.length Bs.length ks p)
    (hf : f = en.name := by rfl) (hl : p.length = en.ps.length := by rfl) (hp : p ≠ [] := by simp) (hg : Gl X f := by rfl) (hdb : ((f : Str) == ("__debug__" : Str)) = false := by decide)
    (hall : (backToKw pos (keywordEach kws X.env)).all (·.1.isSome) = true := by rfl) (hks : (backToKw pos (keywordEach kws X.env)).filterMap (·.1) = ks := by rfl)
    (he : starEach (e :: es) X.env = (false, eval e X.env) :: starEach es X.env := by rfl)
    (hpl : ((backTo pos (starEach (e :: es) X.env)).any (·.1) || (backToKw pos (keywordEach kws X.env)).any (·.1.isNone)) = false := by rfl) :
    SX X W C (.Call (.Name f pf) (e :: es) kws pos) (.call en.id (As ++ Bs) p) := by
  subst hf
  obtain ⟨fa, fd, hm, hF, hbi, G⟩ := F.ex
  refine ⟨fun pins s σ H Q I q => ?_⟩
  have q := kw_run (f := en.name) co hr F hkw hl hp q
  refine wpAny_Call_Name_kw (ld_glob I hg hm ?_ hdb)
  refine PySem.W.callWith_KW (h₀ := X.base) I.ok.mod.kin hF.kp hall (thn (ha.run pos pins s σ H _ I q) fun us s1 ⟨vs, H1, I1, r, q1⟩ => ?_) hpl he
  refine thn (hb.run pos pins s1 σ H1 _ I1 q1) fun ws s2 ⟨zs, H2, I2, rz, q2⟩ => ⟨I2.kIn, ?_⟩
  rw [hks]
  obtain ⟨l1, l2, vz, e1, sp⟩ := q2
  have ra : Vals (vs ++ zs) (us ++ ws) := vals_app r rz
  obtain ⟨us', e2, r2⟩ := vals_pick ra e1
  obtain ⟨⟨oc, od, kV, doc, pm, an, cdv, ct, osl, rfl, lk, hcd⟩, kp⟩ := hF
  exact run_g (us := us) (us' := us') co hr G (.of_eq (hkw kV doc pm an cdv ct us ws us' (by rw [← r.length, l1]) (by rw [← rz.length, l2]) e2)) I2 r2 sp
end
end EV
end

section
set_option Elab.async false
set_option linter.all false
set_option autoImplicit false
set_option maxRecDepth 100000
/-! EV, part N: comprehensions of two loops. -/
namespace EV
open PySem PySem.Spec L2
section
variable {X : Cx} {W : WX} {C : Cc} {K : PySem.W.Frag} {m : List Addr} {H : Hp} {h : Hs}
theorem compM_step {w : Option (Nat × MO)} {body : D → Hs → R Unit} {x : D} {xs : List D} {h' : Hs} (e : compM w body (x :: xs) h = .ok () h') : IterD.ok w h = true ∧ ∃ h1, body x h = .ok () h1 ∧ compM w body xs h1 = .ok () h' := by
  unfold compM at e
  split at e
  · rename_i ok
    refine ⟨ok, ?_⟩
    cases hb : body x h with
    | stuck => rw [hb] at e; cases e
    | exc c y h1 => rw [hb] at e; cases e
    | ok o h1 => rw [hb] at e; exact ⟨h1, by cases o; rfl, e⟩
  · cases e
theorem compM_end {w : Option (Nat × MO)} {body : D → Hs → R Unit} {h' : Hs} (e : compM w body [] h = .ok () h') : IterD.ok w h = true ∧ h = h' := by
  unfold compM at e
  split at e
  · rename_i ok; cases e; exact ⟨ok, rfl⟩
  · cases e
theorem compM_noexc {w : Option (Nat × MO)} {body : D → Hs → R Unit} {c : String} {x : D} {h' : Hs} : ∀ (xs : List D) (h : Hs), compM w body xs h ≠ .exc c x h'
  | [], h => by
    unfold compM
    split <;> intro z <;> cases z
  | y :: xs, h => by
    unfold compM
    split
    · split
      · exact compM_noexc xs _
      · intro z; cases z
    · intro z; cases z
theorem rb_ok {α β : Type} {r : R α} {f : α → Hs → R β} {b : β} {h' : Hs} (e : r.bind f = .ok b h') : ∃ a h1, r = .ok a h1 ∧ f a h1 = .ok b h' := by
  cases r with
  | ok a h1 => exact ⟨a, h1, rfl, e⟩
  | exc c x h1 => cases e
  | stuck => cases e
theorem grow_alloc {L : Addr} {o : HO} (hL : H L = none) : Grow m H (m ++ [L]) (upd H L o) :=
  ⟨⟨[L], rfl, by simp [hL]⟩, fun a q e _ => by rw [upd_ne (ne_of_none e hL)]; exact e, fun a q e => ⟨q, by rw [upd_ne (ne_of_none e hL)]; exact e⟩⟩
theorem hr_alloc {L : Addr} (hr : HR K m h H) (hL : H L = none) : HR K (m ++ [L]) (h ++ [.lst []]) (upd H L (.lst [])) := by
  refine ⟨by simp [hr.len], ?_, fun i o a e1 e2 => ?_⟩
  · rw [List.nodup_append]
    refine ⟨hr.nd, by simp, fun a ha b hb => ?_⟩
    rw [List.mem_singleton.mp hb]
    exact fun z => hr.fresh hL (z ▸ ha)
  · have l := hr.len
    by_cases hi : i < h.length
    · rw [List.getElem?_append_left hi] at e1
      rw [List.getElem?_append_left (by omega)] at e2
      have x := (hr.new (o := .lst []) hL).at_ i o a e1 e2
      exact x
    · rw [List.getElem?_append_right (by omega)] at e1
      rw [List.getElem?_append_right (by omega)] at e2
      have e3 : i - h.length = 0 := by
        have := (List.getElem?_eq_some_iff.mp e1).1
        simp at this
        omega
      rw [e3] at e1
      rw [show i - m.length = 0 by omega] at e2
      cases e1; cases e2
      exact ⟨[], upd_same, by simpa [D.pys] using DpAll.nil⟩
theorem relOk {α β : Type} {W : XK} {rel : Hp → List Addr → Hp → β → α → Prop} {r : R α} {a : α} {h' : Hs} {Q : β → Hp → Prop} (e : r = .ok a h') (q : ∀ b H' m', Grow m H m' H' → HR K m' h' H' → rel H m' H' b a → Q b H') : Fin K W rel m H r Q := by
  subst e; exact q
theorem lc2_of {wi wi1 : Den} {g g1 : TG} {vs vs1 tg tg1 : List Nat} {elt : Den} {ifs ifs1 : List Den} {σ : L2.St} {Q : VK} (hg : TGok X.K g tg) (hv : ∀ i ∈ tg, i ∈ vs) (hg1 : TGok X.K g1 tg1) (hv1 : ∀ i ∈ tg1, i ∈ vs1)
    (q : tE X.K W (.of fun ρ h => comp2R vs vs1 tg tg1 elt wi wi1 ifs ifs1 ρ h) σ H Q) : tLc2 (tI X.K W wi) g (tTs X.K noW ifs) (tI X.K noW wi1) g1 (tTs X.K noW ifs1) (tE X.K noW elt) vs vs1 σ H Q := by
  obtain ⟨ρ, m, h, er, hr, fin⟩ := q
  have fin : Fin _ _ (relV X.K) m H (comp2R vs vs1 tg tg1 elt wi wi1 ifs ifs1 ρ h) Q := fin
  unfold comp2R at fin
  refine ⟨ρ, m, h, er, hr, (Fin.bind (rel1 := relI X.K) old_V fin).imp ?_⟩
  rintro J H1 ⟨m1, h1, I, g1', hr1, it, fin1⟩
  intro L hL
  have er1 := er.grow hr g1'
  cases hrun : compM I.watch (turn1R h1.length vs vs1 tg tg1 elt wi1 ifs ifs1 ρ) I.xs (h1 ++ [.lst []]) with
  | stuck => rw [hrun] at fin1; exact False.elim fin1
  | exc c y hE => exact absurd hrun (compM_noexc _ _)
  | ok un hE =>
  rw [hrun] at fin1
  have fin1 : Fin _ _ (relV X.K) m1 H1 (popR h1.length hE) Q := fin1
  have gL := grow_alloc (m := m1) (o := .lst []) hL
  have hrL := hr_alloc hr1 hL
  refine ⟨fun i n Hc => n = I.xs.length - i ∧ i ≤ I.xs.length ∧ ∃ mc hc, Grow (m1 ++ [L]) (upd H1 L (.lst [])) mc Hc ∧ HR X.K mc hc Hc ∧
    compM I.watch (turn1R h1.length vs vs1 tg tg1 elt wi1 ifs ifs1 ρ) (I.xs.drop i) hc = .ok un hE, ⟨I.xs.length, by simp, Nat.zero_le _, _, _, Grow.refl, hrL, by simpa using hrun⟩, ?_⟩
  have atL : ∀ {mc : List Addr} {Hc : Hp}, Grow (m1 ++ [L]) (upd H1 L (.lst [])) mc Hc → mc[h1.length]? = some L := fun gc => gc.get (by rw [List.getElem?_append_right (by rw [hr1.len]; exact Nat.le_refl _), hr1.len]; simp)
  rintro i n Hc ⟨rfl, hi, mc, hc, gc, hrc, run⟩
  by_cases hlt : i < I.xs.length
  · have ed : I.xs.drop i = I.xs[i] :: I.xs.drop (i + 1) := List.drop_eq_getElem_cons hlt
    rw [ed] at run
    obtain ⟨ok, h2, eb, run2⟩ := compM_step run
    obtain ⟨go, yl⟩ := it.go mc hc Hc i I.xs[i] (gL.trans gc) hrc ok (by simp [hlt])
    refine .inr ⟨go, fun H' => ∃ mc, Grow (m1 ++ [L]) (upd H1 L (.lst [])) mc H' ∧ HR X.K mc h2 H', fun H' ⟨mc, a, b⟩ => ⟨_, by omega, rfl, by omega, mc, h2, a, b, run2⟩, fun x Hx y => ?_⟩
    obtain ⟨gx, hrx, dx⟩ := yl x Hx y
    have erc : EnvR X.K mc Hx σ ρ := (((er1.grow hr1 gL).grow hrL gc).grow hrc gx)
    unfold turn1R at eb
    split at eb
    case h_2 => cases eb
    rename_i ρ' eρ
    obtain ⟨k, h3, et, eb⟩ := rb_ok eb
    refine hg _ _ mc Hx x I.xs[i] ρ' (erc.wipe vs) dx eρ _ fun σ' er' kσ lσ => ⟨?_, ?_⟩
    · rw [show L2.wipe σ' vs = L2.wipe (L2.wipe σ vs) vs from wipe_eq (fun j hj => kσ j fun z => hj (hv j z)) lσ, wipe_idem]
    refine ⟨ρ', mc, hc, er', hrx, relOk et ?_⟩
    rintro b H3 m3 g3 hr3 rfl
    cases b with
    | false =>
      rw [if_neg (by simp)] at eb
      cases eb
      exact ⟨m3, (gc.trans gx).trans g3, hr3⟩
    | true =>
      rw [if_pos rfl] at eb
      obtain ⟨I1, h4, ei, eb⟩ := rb_ok eb
      refine ⟨ρ', m3, h3, er'.grow hrx g3, hr3, relOk ei ?_⟩
      rintro J1 H4 m4 g4 hr4 it1
      have er4 := (er'.grow hrx g3).grow hr3 g4
      have g04 := ((gc.trans gx).trans g3).trans g4
      refine ⟨fun j n Hj => n = I1.xs.length - j ∧ j ≤ I1.xs.length ∧ ∃ mj hj, Grow m4 H4 mj Hj ∧ HR X.K mj hj Hj ∧ compM I1.watch (turn2R h1.length vs1 tg1 elt ifs1 ρ') (I1.xs.drop j) hj = .ok () h2, ⟨I1.xs.length, by simp, Nat.zero_le _, m4, h4, Grow.refl, hr4, by simpa using eb⟩, ?_⟩
      rintro j n Hj ⟨rfl, hj, mj, hjj, gj, hrj, runj⟩
      by_cases hlt1 : j < I1.xs.length
      · have ed1 : I1.xs.drop j = I1.xs[j] :: I1.xs.drop (j + 1) := List.drop_eq_getElem_cons hlt1
        rw [ed1] at runj
        obtain ⟨ok1, h5, eb1, runj2⟩ := compM_step runj
        obtain ⟨go1, yl1⟩ := it1.go mj hjj Hj j I1.xs[j] gj hrj ok1 (by simp [hlt1])
        refine .inr ⟨go1, fun H' => ∃ mj, Grow m4 H4 mj H' ∧ HR X.K mj h5 H', fun H' ⟨mj, a, b⟩ => ⟨_, by omega, rfl, by omega, mj, h5, a, b, runj2⟩, fun x1 Hy y1 => ?_⟩
        obtain ⟨gy, hry, dy⟩ := yl1 x1 Hy y1
        have ery := (er4.grow hr4 gj).grow hrj gy
        unfold turn2R at eb1
        split at eb1
        case h_2 => cases eb1
        rename_i ρ2 eρ2
        obtain ⟨k1, h6, et1, eb1⟩ := rb_ok eb1
        refine hg1 _ _ mj Hy x1 I1.xs[j] ρ2 (ery.wipe vs1) dy eρ2 _ fun σ2 er2 kσ2 lσ2 => ⟨?_, ?_⟩
        · rw [show L2.wipe σ2 vs1 = L2.wipe (L2.wipe σ' vs1) vs1 from wipe_eq (fun j hj => kσ2 j fun z => hj (hv1 j z)) lσ2, wipe_idem]
        refine ⟨ρ2, mj, hjj, er2, hry, relOk et1 ?_⟩
        rintro b H6 m6 g6 hr6 rfl
        cases b with
        | false =>
          rw [if_neg (by simp)] at eb1
          cases eb1
          exact ⟨m6, (gj.trans gy).trans g6, hr6⟩
        | true =>
          rw [if_pos rfl] at eb1
          obtain ⟨u, h7, ev, eb1⟩ := rb_ok eb1
          refine ⟨ρ2, m6, h6, er2.grow hry g6, hr6, relOk ev ?_⟩
          rintro y H7 m7 g7 hr7 rv
          have g47 := (((gj.trans gy).trans g6).trans g7)
          have eL := atL (g04.trans g47)
          unfold pushD at eb1
          split at eb1
          · rename_i yd acc eh
            split at eb1
            · rename_i hz
              cases eb1
              obtain ⟨ws, eH, dw⟩ := hr7.at_ _ _ L eh eL
              have rv : Dp X.K H7 y yd.py := rv
              have dL : DpAll X.K H7 (ws ++ [y]) (D.pys (acc ++ [yd])) := dps_app dw (by simp only [D.pys]; exact .cons rv .nil)
              exact ⟨ws, eH, by rw [dps_len dw]; exact hz, m7, g47.trans (grow_set (K := X.K) (vs := ws) eL), hr_set hr7 eL eH dL⟩
            · cases eb1
          · cases eb1
      · have ei : j = I1.xs.length := by omega
        subst ei
        rw [List.drop_length] at runj
        obtain ⟨ok1, rfl⟩ := compM_end runj
        exact .inl ⟨it1.stop mj hjj Hj gj hrj ok1, mj, g04.trans gj, hrj⟩
  · have ei : i = I.xs.length := by omega
    subst ei
    rw [List.drop_length] at run
    obtain ⟨ok, rfl⟩ := compM_end run
    refine .inl ⟨it.stop mc hc Hc (gL.trans gc) hrc ok, ?_⟩
    have eL := atL gc
    unfold popR at fin1
    split at fin1
    · rename_i o eo
      have g2 := grow_drop (gL.trans gc)
      have hn : L ∉ m1 := hr1.fresh hL
      exact fin1 (.ref L) Hc m1 g2 (hr_take hr1 (gL.trans gc) hrc) ⟨L, rfl, hn, hL, hrc.at_ _ _ L eo eL⟩
    · exact False.elim fin1
/-- [e for t in xs if .. for u in ys if ..] -/
theorem se_comp2 {elt tg it tg1 it1 : Expr} {ifs ifs1 : List Expr} {scope : Scope} {own : List (Str × Nat)} {pos : Pos} {g g1 : TG} {vs1 tgI tgI1 : List Nat} {Elt It' It1 : E} {Ifs Ifs1 : List E} (co : CO X W) (hi : IX X W C tg it It') (ok : BlkOk X.N X.env.scope scope own)
    (hG : TGok X.K g tgI) (hv : ∀ i ∈ tgI, i ∈ own.map (·.2)) (hG1 : TGok X.K g1 tgI1) (hv1 : ∀ i ∈ tgI1, i ∈ vs1) (hv2 : ∀ i ∈ vs1, i ∈ own.map (·.2))
    (hg : ∀ (s : Shared) (H : Hp) (c : Addr) (cl : List (Str × Addr)) (fp : List Addr), PG (X.blk s H scope (compEnvC scope cl c X.env) fp) tg g)
    (ht : ∀ (s : Shared) (H : Hp) (c : Addr) (cl : List (Str × Addr)) (fp : List Addr), CO (X.blk s H scope (compEnvC scope cl c X.env) fp) noW → PTs (X.blk s H scope (compEnvC scope cl c X.env) fp) ifs (tTs X.K noW (dens C Ifs)))
    (hi1 : ∀ (s : Shared) (H : Hp) (c : Addr) (cl : List (Str × Addr)) (fp : List Addr), CO (X.blk s H scope (compEnvC scope cl c X.env) fp) noW → IX (X.blk s H scope (compEnvC scope cl c X.env) fp) noW C tg1 it1 It1)
    (hg1 : ∀ (s : Shared) (H : Hp) (c : Addr) (cl : List (Str × Addr)) (fp : List Addr), PG (X.blk s H scope (compEnvC scope cl c X.env) fp) tg1 g1)
    (ht1 : ∀ (s : Shared) (H : Hp) (c : Addr) (cl : List (Str × Addr)) (fp : List Addr), CO (X.blk s H scope (compEnvC scope cl c X.env) fp) noW → PTs (X.blk s H scope (compEnvC scope cl c X.env) fp) ifs1 (tTs X.K noW (dens C Ifs1)))
    (he : ∀ (s : Shared) (H : Hp) (c : Addr) (cl : List (Str × Addr)) (fp : List Addr), CO (X.blk s H scope (compEnvC scope cl c X.env) fp) noW → SX (X.blk s H scope (compEnvC scope cl c X.env) fp) noW C elt Elt)
    (hs : ∀ x, foldedSetIterable it X.env x = pure x := by intro _; rfl) (hs1 : ∀ env x, foldedSetIterable it1 env x = pure x := by intro _ _; rfl) :
    SX X W C (.ListComp elt [⟨tg, it, ifs, 0⟩, ⟨tg1, it1, ifs1, 0⟩] scope pos) (.comp2 (own.map (·.2)) vs1 tgI tgI1 Elt It' It1 Ifs Ifs1) :=
  PE.imp (pe_lc2 co.calm co.nd hi ok hv2 hg (fun s H c cl fp => ht s H c cl fp co.blk) (fun s H c cl fp => hi1 s H c cl fp co.blk) hg1 (fun s H c cl fp => ht1 s H c cl fp co.blk) (fun s H c cl fp => he s H c cl fp co.blk) hs hs1)
    fun _ _ _ q => lc2_of hG hv hG1 hv1 q
end
end EV
end

section
set_option Elab.async false
set_option linter.all false
set_option autoImplicit false
set_option maxRecDepth 100000
/-! EV, part O: sorted(), dict() of pairs. -/
namespace EV
open PySem PySem.Spec L2
section
variable {X : Cx} {W : WX} {C : Cc} {K : PySem.W.Frag} {m : List Addr} {H : Hp} {h : Hs} {pins : List (Addr × Obj)} {σ : L2.St} {s : Shared}
abbrev AsD (K : PySem.W.Frag) (H : Hp) (u : Value) (x : D) : Prop := ∃ v, RelV v u ∧ Dp K H v x.py
theorem each_of : ∀ {vs : List V} {us : List Value} {xs : List D}, Vals vs us → DpAll K H vs (D.pys xs) → PySem.W.EachIs (AsD K H) us xs
  | _, _, [], r, d => by
    simp only [D.pys] at d
    cases d
    cases r
    exact .nil
  | _, _, x :: xs, r, d => by
    simp only [D.pys] at d
    cases d with
    | cons d1 d2 =>
      cases r with
      | cons r1 r2 => exact .cons ⟨_, r1, d1⟩ (each_of r2 d2)
theorem of_each : ∀ {us : List Value} {xs : List D}, PySem.W.EachIs (AsD K H) us xs → ∃ vs, Vals vs us ∧ DpAll K H vs (D.pys xs)
  | _, [], .nil => ⟨[], .nil, by simpa [D.pys] using DpAll.nil⟩
  | _, x :: xs, .cons ⟨v, r, d⟩ t => by
    obtain ⟨vs, r2, d2⟩ := of_each t
    exact ⟨v :: vs, .cons r r2, by simp only [D.pys]; exact .cons d d2⟩
mutual
theorem reads_nil {hp : Heap} : ∀ (x : D) (u : Value) (as : List Addr), PySem.Reads hp u x.py as → as = []
  | .non, _, _, r => by simp only [D.py] at r; cases r; rfl
  | .bl _, _, _, r => by simp only [D.py] at r; cases r; rfl
  | .int _, _, _, r => by simp only [D.py] at r; cases r; rfl
  | .str _, _, _, r => by simp only [D.py] at r; cases r; rfl
  | .tup xs, _, _, r => by
    simp only [D.py] at r
    cases r with
    | tuple _ _ _ t => exact readsAll_nil xs _ _ t
theorem readsAll_nil {hp : Heap} : ∀ (xs : List D) (us : List Value) (as : List Addr), PySem.ReadsAll hp us (D.pys xs) as → as = []
  | [], _, _, r => by simp only [D.pys] at r; cases r; rfl
  | x :: xs, _, _, r => by
    simp only [D.pys] at r
    cases r with
    | cons a b => rw [reads_nil x _ _ a, readsAll_nil xs _ _ b]; rfl
end
/-- sorted(x), when what x holds is at hand -/
theorem sorted_by (co : CO X W) {a : Addr} {vs : List V} {xs : List D} {Q : VK} (I : L2.Inv X pins σ H s) (d : DpAll X.K H vs (D.pys xs)) (ok : SortOk xs) (hz : xs.length ≤ sizeLine)
    (col : ∀ R : List Value → Shared → Prop, (∀ h' tk us, (∀ b o, s.heap.get? b = some o → h'.get? b = some o) → Vals vs us → R us { s with heap := h', toks := tk }) → wpAny (model X.prog X.w) X.A.in1 (collect (.ref a)) R X.xe s)
    (q : ∀ ws p, H p = none → DpAll X.K (upd H p (.lst ws)) ws (D.pys (sortD xs)) → Q (.ref p) (upd H p (.lst ws))) :
    wpAny (model X.prog X.w) X.A (call (.builtin "sorted") [.ref a]) (EP X pins σ Q) X.xe s := by
  have un := co.un
  apply Calls.call_function_entry PyProof.Rows.kind_sorted PyProof.Rows.plain_sorted PyProof.Rows.entry_sorted
    (PyProof.Rows.args_sorted1 _)
  unfold Builtin.«sorted»
  apply wpAny_bind (m := checkCount "sorted" 1 1 _)
  refine wpAny_pure (wpAny_bind (col _ fun h1 tk us hk rv => ?_))
  have lu : us.length = xs.length := by rw [← rv.length, dps_len d]
  have I1 : L2.Inv X pins σ H { s with heap := h1, toks := tk } := I.kept hk
  refine wpAny_bind (wpAny_newList ?_ (by rw [lu]; exact hz))
  have atN : (h1.push { cls := .type "list", data := .seq us.toArray }).get? h1.objs.size = some (PyProof.Rows.seqObj "list" us.toArray 0) := Heap.get?_push_size _ rfl
  have I2 : L2.Inv X pins σ H { s with heap := h1.push { cls := .type "list", data := .seq us.toArray }, toks := tk } := I1.kept fun b o z => Heap.get?_push_of_some _ z
  have er : PySem.W.EachIs (fun v b => ∃ as, Reads (h1.push { cls := .type "list", data := .seq us.toArray }) v (D.py b) as ∧ h1.objs.size ∉ as) us xs := (each_of rv d).mono fun u x ⟨v, r, dx⟩ => by
    obtain ⟨as, rd⟩ := Dp.reads I2 x.py v u dx r
    exact ⟨as, rd, by rw [reads_nil x _ _ rd]; simp⟩
  refine wpAny_bind (wpAny_holding (PySem.W.list_sort_data atN (each_of rv d) er ok.1 ok.2.1 hz (fun x hx => ?_) fun out lo eo => ?_))
  · have := ok.2.2 x hx
    show X.A.in1.units + 1 + _ < _
    have e1 : X.A.in1.units = X.A.units + 1 := rfl
    rw [e1]
    omega
  · obtain ⟨ws, r2, d2⟩ := of_each eo
    obtain ⟨ep, he⟩ := PyProof.Rows.sortedHeap_at (vs := us) (out := out.toArray) atN
    have fresh : H h1.objs.size = none := I1.hok.fresh (Nat.le_refl _)
    refine wpAny_pure ⟨_, rfl, .ref h1.objs.size, upd H h1.objs.size (.lst ws), I1.laid (t' := tk) (fun b o z => ?_) (Nat.le_refl _) ⟨by rw [dps_len d2, List.length_mergeSort]; exact hz, out, ep, r2, he⟩, rfl, q ws _ fresh (dps_keeps (keep_new fresh) _ _ d2)⟩
    have hb := Heap.lt_size z
    rw [PyProof.Rows.sortedHeap_old (Nat.ne_of_lt hb) (by rw [PyProof.Rows.size_push']; exact Nat.lt_succ_of_lt hb)]
    exact Heap.get?_push_of_some _ z
/-- what list() and sorted() get of a list or a tuple -/
theorem col_seq {a : Addr} {vs : List V} (I : L2.Inv X pins σ H s) (sq : SqL X.K H a vs ∨ SqT X.K H a vs) (R : List Value → Shared → Prop)
    (q : ∀ h' tk us, (∀ b o, s.heap.get? b = some o → h'.get? b = some o) → Vals vs us → R us { s with heap := h', toks := tk }) : wpAny (model X.prog X.w) X.A.in1 (collect (.ref a)) R X.xe s := by
  rcases sq with sq | sq
  · obtain ⟨us, rv, ⟨o, n, ho, hc, hd, hdat⟩, hz⟩ := I.list sq
    exact wpAny_collect_seq a (.inl rfl) ho hc hdat (fun h' hk => q h' s.toks us hk rv) (by rw [List.size_toArray, ← rv.length]; exact hz)
  · obtain ⟨us, rv, ⟨o, ho, hc, n, hdat⟩, hz⟩ := I.tuple sq
    exact wpAny_collect_seq a (.inr rfl) ho hc hdat (fun h' hk => q h' s.toks us hk rv) (by rw [List.size_toArray, ← rv.length]; exact hz)
theorem seq_len {a : Addr} {vs : List V} {xs : List D} (I : L2.Inv X pins σ H s) (sq : SqL X.K H a vs ∨ SqT X.K H a vs) (d : DpAll X.K H vs (D.pys xs)) : xs.length ≤ sizeLine := by
  rw [← dps_len d]
  rcases sq with sq | sq
  · obtain ⟨us, rv, _, hz⟩ := I.list sq; exact hz
  · obtain ⟨us, rv, _, hz⟩ := I.tuple sq; exact hz
theorem itemsE_of {u : U} {xs : List D} {v : V} {h : Hs} (hr : HR X.K m h H) (r : VA X.K m H v u) (e : itemsE u h = some xs) : ∃ a vs, v = .ref a ∧ (SqL X.K H a vs ∨ SqT X.K H a vs) ∧ DpAll X.K H vs (D.pys xs) := by
  have e2 : itemsU u h = some xs := by
    cases u with
    | ro ys => simp [itemsE] at e
    | d x => exact e
    | obj i => exact e
    | tmp o => exact e
  exact items_of hr r e2
theorem itemsL_of {u : U} {xs : List D} {v : V} {h : Hs} (hr : HR X.K m h H) (r : VA X.K m H v u) (e : itemsL u h = some xs) : ∃ a vs, v = .ref a ∧ SqL X.K H a vs ∧ DpAll X.K H vs (D.pys xs) := by
  cases u with
  | ro ys => simp [itemsL] at e
  | d x => simp [itemsL] at e
  | obj i =>
    obtain ⟨a, ea, rfl⟩ := r
    simp only [itemsL, itemsU] at e
    split at e
    · rename_i ys eh
      cases e
      obtain ⟨vs, q, d⟩ := hr.at_ i _ a eh ea
      exact ⟨a, vs, rfl, SqL.of q, d⟩
    · cases e
  | tmp o =>
    obtain ⟨a, rfl, _, _, k⟩ := r
    cases o with
    | lst ys =>
      simp only [itemsL, itemsU] at e; cases e
      obtain ⟨vs, q, d⟩ := k
      exact ⟨a, vs, rfl, SqL.of q, d⟩
theorem cb_sorted (co : CO X W) : CallR X (.builtin "sorted") (rBi X.K .sorted) := by
  intro pins s σ H xs us Q I r ⟨m, h, v, u, e, hr, xa, fin⟩
  subst e
  simp only [bi1] at fin
  split at fin
  · rename_i ys ey
    unfold sortR at fin
    split at fin
    · rename_i ok
      obtain ⟨a, vs, rfl, sq, d⟩ := itemsE_of hr xa ey
      rw [Vals.ref1 r]
      exact sorted_by co I d ok (seq_len I sq d) (col_seq I sq) fun ws p hp dw => fin (.ref p) _ m (grow_new hp) (hr.new hp) ⟨p, rfl, hr.fresh hp, hp, ws, upd_same, dw⟩
    · exact False.elim fin
  · exact False.elim fin

/-! ### keys -/
mutual
theorem nk_inj : ∀ (x y : D) (k : NestedKey), D.nk x = some k → D.nk y = some k → x = y
  | .non, y, k, h1, h2 => by
    simp only [D.nk] at h1; cases h1
    cases y <;> simp [D.nk] at h2 <;> rfl
  | .bl _, _, _, h1, _ => by simp [D.nk] at h1
  | .int i, y, k, h1, h2 => by
    simp only [D.nk] at h1; cases h1
    cases y <;> simp [D.nk] at h2
    rw [h2]
  | .str i, y, k, h1, h2 => by
    simp only [D.nk] at h1; cases h1
    cases y <;> simp [D.nk] at h2
    rw [h2]
  | .tup xs, y, k, h1, h2 => by
    simp only [D.nk] at h1
    obtain ⟨ks, e1, rfl⟩ := opt_map h1
    cases y <;> simp [D.nk] at h2
    rename_i ys
    rw [nks_inj xs ys ks e1 h2]
theorem nks_inj : ∀ (xs ys : List D) (ks : List NestedKey), D.nks xs = some ks → D.nks ys = some ks → xs = ys
  | [], ys, ks, h1, h2 => by
    simp only [D.nks] at h1; cases h1
    cases ys with
    | nil => rfl
    | cons y ys =>
      simp only [D.nks] at h2
      split at h2 <;> cases h2
  | x :: xs, ys, ks, h1, h2 => by
    simp only [D.nks] at h1
    split at h1
    · rename_i k1 ks1 e1 e2
      cases h1
      cases ys with
      | nil => simp [D.nks] at h2
      | cons y ys =>
        simp only [D.nks] at h2
        split at h2
        · rename_i k2 ks2 e3 e4
          cases h2
          rw [nk_inj x y _ e1 e3, nks_inj xs ys _ e2 e4]
        · cases h2
    · cases h1
end
mutual
theorem nested_of (I : L2.Inv X pins σ H s) : ∀ (x : D) (k : NestedKey) (v : V) (u : Value), D.nk x = some k → Dp X.K H v x.py → RelV v u → NestedIs s.heap k u
  | .non, k, v, u, e, d, r => by
    simp only [D.nk] at e; cases e
    rw [dp_non d] at r; cases r; exact .none
  | .bl _, k, v, u, e, d, r => by simp [D.nk] at e
  | .int i, k, v, u, e, d, r => by
    simp only [D.nk] at e; cases e
    rw [dp_int d] at r
    obtain ⟨t, rfl⟩ := r
    exact .int i t
  | .str i, k, v, u, e, d, r => by
    simp only [D.nk] at e; cases e
    rw [dp_str d] at r
    obtain ⟨t, rfl⟩ := r
    exact .text i t
  | .tup xs, k, v, u, e, d, r => by
    simp only [D.nk] at e
    obtain ⟨ks, e1, rfl⟩ := opt_map e
    obtain ⟨a, vs, rfl, sq, dd⟩ := dp_tup d
    cases r
    obtain ⟨its, rv, ⟨o, ho, hc, n, hd⟩, hz⟩ := I.tuple sq
    exact .tup ho hc hd (nesteds_of I xs ks vs its e1 dd rv)
theorem nesteds_of (I : L2.Inv X pins σ H s) : ∀ (xs : List D) (ks : List NestedKey) (vs : List V) (us : List Value), D.nks xs = some ks → DpAll X.K H vs (D.pys xs) → Vals vs us → NestedAll s.heap ks us
  | [], ks, vs, us, e, d, r => by
    simp only [D.nks] at e; cases e
    simp only [D.pys] at d; cases d
    cases r; exact .nil
  | x :: xs, ks, vs, us, e, d, r => by
    simp only [D.nks] at e
    split at e
    · rename_i k1 ks1 e1 e2
      cases e
      simp only [D.pys] at d
      cases d with
      | cons d1 d2 =>
        cases r with
        | cons r1 r2 => exact .cons (nested_of I x _ _ _ e1 d1 r1) (nesteds_of I xs _ _ _ e2 d2 r2)
    · cases e
end
/-! ### the entries, and each key once -/
abbrev Ents := List (NestedKey × Addr × Value)
abbrev EntR (K : PySem.W.Frag) (H : Hp) (x : D) (y : NestedKey × Addr × Value) : Prop := D.nk x = some y.1 ∧ Dp K H (.ref y.2.1) x.py
theorem atKey_none {xs : Ents} {k : NestedKey} : PySem.atKey xs k = none ↔ ∀ y ∈ xs, y.1 ≠ k := by
  induction xs with
  | nil => simp [PySem.atKey]
  | cons y xs ih =>
    unfold PySem.atKey at ih ⊢
    by_cases e : y.1 = k
    · simp [e]
    · rw [List.find?_cons_of_neg (by simp [e]), ih]
      simp [e]
theorem paired_app {α β : Type} {r : α → β → Prop} : ∀ {xs : List α} {ys : List β} {xs2 : List α} {ys2 : List β}, Paired r xs ys → Paired r xs2 ys2 → Paired r (xs ++ xs2) (ys ++ ys2)
  | _, _, _, _, .nil, z => z
  | _, _, _, _, .cons a b, z => .cons a (paired_app b z)
theorem paired_map {α β : Type} {r : α → β → Prop} {f : β → β} (hf : ∀ a b, r a b → r a (f b)) : ∀ {xs : List α} {ys : List β}, Paired r xs ys → Paired r xs (ys.map f)
  | _, _, .nil => .nil
  | _, _, .cons a b => .cons (hf _ _ a) (paired_map hf b)
theorem paired_mem {α β : Type} {r : α → β → Prop} : ∀ {xs : List α} {ys : List β}, Paired r xs ys → (∀ x ∈ xs, ∃ y ∈ ys, r x y) ∧ ∀ y ∈ ys, ∃ x ∈ xs, r x y
  | _, _, .nil => ⟨by simp, by simp⟩
  | _, _, .cons a b => by
    obtain ⟨h1, h2⟩ := paired_mem b
    constructor
    · intro x hx
      rcases List.mem_cons.mp hx with rfl | hx
      · exact ⟨_, List.mem_cons_self, a⟩
      · obtain ⟨y, hy, r⟩ := h1 x hx
        exact ⟨y, List.mem_cons_of_mem _ hy, r⟩
    · intro y hy
      rcases List.mem_cons.mp hy with rfl | hy
      · exact ⟨_, List.mem_cons_self, a⟩
      · obtain ⟨x, hx, r⟩ := h2 y hy
        exact ⟨x, List.mem_cons_of_mem _ hx, r⟩
theorem stored_step {acc : List D} {es : Ents} {x : D} {k : NestedKey} {a : Addr} {v : Value} (p : Paired (EntR K H) acc es) (r : EntR K H x (k, a, v)) : Paired (EntR K H) (addD acc x) (PySem.storedH es k a v) := by
  obtain ⟨p1, p2⟩ := paired_mem p
  unfold addD
  by_cases hx : x ∈ acc
  · rw [if_pos hx]
    cases q : PySem.atKey es k with
    | none =>
      obtain ⟨y, hy, ry⟩ := p1 x hx
      have := ry.1.symm.trans r.1
      exact absurd (Option.some.inj this) (atKey_none.mp q y hy)
    | some z =>
      rw [PySem.storedH_old q]
      refine paired_map (fun b y ry => ?_) p
      unfold PySem.putAt
      split
      · exact ry
      · exact ry
  · rw [if_neg hx]
    have q : PySem.atKey es k = none := atKey_none.mpr fun y hy e => by
      obtain ⟨z, hz, rz⟩ := p2 y hy
      have e2 : D.nk z = some k := by rw [rz.1, e]
      exact hx (nk_inj z x k e2 r.1 ▸ hz)
    rw [PySem.storedH_new q]
    exact paired_app p (.cons r .nil)
theorem stored_all : ∀ {xs : List D} {ps : Ents} {acc : List D} {es : Ents}, Paired (EntR K H) acc es → Paired (EntR K H) xs ps → Paired (EntR K H) (xs.foldl addD acc) (PySem.storedAllH es ps)
  | [], [], _, _, p, .nil => p
  | x :: xs, y :: ps, acc, es, p, .cons r t => stored_all (xs := xs) (ps := ps) (acc := addD acc x) (es := PySem.storedH es y.1 y.2.1 y.2.2) (stored_step p r) t
/-- a dict that is not yet anyone's, by its entries -/
def dctO (a : Addr) (es : Array DictEntry) : HO := .ext fun h => ∃ ep, h.DictRaw a es ep
theorem dct_ok {P : Program} {w : World} {H : Hp} {hp : Heap} {a : Addr} {es : Array DictEntry} {ep : Nat} (r : hp.DictRaw a es ep) : ObjOk P w H hp a (dctO a es) := by
  refine ⟨⟨ep, r⟩, ?_, fun h1 h2 ⟨ep1, r1⟩ k => ⟨ep1, r1.at k⟩⟩
  obtain ⟨o, ho, _⟩ := r
  exact ⟨o, ho⟩
/-- the pairs of a list, read off the heap -/
theorem pairs_at (I : L2.Inv X pins σ H s) : ∀ {ps : List D} {ks : List D} {vs : List V} {us : List Value}, fstsD ps = some ks → (∀ k ∈ ks, KeyOk k) → DpAll X.K H vs (D.pys ps) → Vals vs us →
    ∃ es : Ents, Paired (EntR X.K H) ks es ∧ (∀ y ∈ es, (nestedKind X.prog X.w).is s.heap y.1 y.2.1) ∧ es.length = us.length ∧ ∀ (j : Nat) (y : NestedKey × Addr × Value), es[j]? = some y → ∃ T, us[j]? = some (.ref T) ∧ PairAt s.heap T (.ref y.2.1) y.2.2
  | [], ks, vs, us, e, _, d, r => by
    simp only [fstsD] at e; cases e
    simp only [D.pys] at d; cases d
    cases r
    exact ⟨[], .nil, by simp, rfl, by simp⟩
  | p :: ps, ks, vs, us, e, kok, d, r => by
    unfold fstsD at e
    split at e
    · rename_i he; cases he
    · rename_i k x qs he
      cases he
      obtain ⟨ks', e1, rfl⟩ := opt_map e
      simp only [D.pys] at d
      cases d with
      | cons d1 d2 =>
        cases r with
        | cons r1 r2 =>
          obtain ⟨es, q1, q2, q3, q4⟩ := pairs_at I e1 (fun k hk => kok k (List.mem_cons_of_mem _ hk)) d2 r2
          obtain ⟨T, ws, rfl, sq, dd⟩ := dp_tup d1
          cases r1
          simp only [D.pys] at dd
          cases dd with
          | cons dk dd =>
            cases dd with
            | cons dx dn =>
              cases dn
              rename_i vk vx
              obtain ⟨its, rv, tup, _⟩ := I.tuple sq
              cases rv with
              | cons rk rv =>
                cases rv with
                | cons rx rn =>
                  cases rn
                  rename_i uk ux
                  obtain ⟨it, n, en, dp⟩ := kok k List.mem_cons_self
                  have nk := nested_of I k n vk uk en dk rk
                  cases k with
                  | tup kx =>
                    obtain ⟨b, wk, rfl, _, _⟩ := dp_tup dk
                    cases rk
                    refine ⟨(n, b, ux) :: es, .cons ⟨en, dk⟩ q1, fun y hy => ?_, by simp [q3], fun j y ej => ?_⟩
                    · rcases List.mem_cons.mp hy with rfl | hy
                      · exact ⟨nk, dp⟩
                      · exact q2 y hy
                    · cases j with
                      | zero =>
                        have ej : some (n, b, ux) = some y := ej
                        cases ej
                        exact ⟨T, rfl, .inl ⟨_, tup.choose_spec.1, tup.choose_spec.2.1, tup.choose_spec.2.2⟩⟩
                      | succ j =>
                        obtain ⟨T2, f1, f2⟩ := q4 j y (by simpa using ej)
                        exact ⟨T2, by simpa using f1, f2⟩
                  | non => simp [isTup] at it
                  | bl _ => simp [isTup] at it
                  | int _ => simp [isTup] at it
                  | str _ => simp [isTup] at it
    · cases e
/-- dict(a list of pairs) -/
theorem dict_by (co : CO X W) {a : Addr} {vs : List V} {ps ks : List D} {Q : VK} (I : L2.Inv X pins σ H s) (sq : SqL X.K H a vs) (d : DpAll X.K H vs (D.pys ps)) (e : fstsD ps = some ks) (kok : ∀ k ∈ ks, KeyOk k)
    (q : ∀ p es ws, H p = none → (p == sysModules) = false → es.size ≤ sizeLine → Vals ws (es.toList.map (·.key)) → DpAll X.K H ws (D.pys (onceD ks)) → Q (.ref p) (upd H p (dctO p es))) :
    wpAny (model X.prog X.w) X.A (call (.type "dict") [.ref a]) (EP X pins σ Q) X.xe s := by
  obtain ⟨us, rv, ⟨o, n, ho, hc, hd, hdat⟩, hz⟩ := I.list sq
  obtain ⟨es, p1, p2, p3, p4⟩ := pairs_at I e kok d rv
  have un := co.un
  have lz : es.length ≤ sizeLine := by rw [p3, ← rv.length]; exact hz
  let Ts : Nat → Addr := fun j => match us[j]? with
    | some (.ref T) => T
    | _ => 0
  have P := PairArg.list (prog := X.prog) (w := X.w) a us.toArray Ts (es.map fun y => (Value.ref y.2.1, y.2.2))
  refine call_dict_pairsH (knd := nestedKind X.prog X.w) (ps := es) P (I.ok.hd co.calm) (show X.A.in1.in1.units + 8 < cLine from ?_) ⟨⟨o, n, ho, hc, hd, hdat⟩, by simp [p3], fun j k v ej => ?_⟩ ⟨by simp, fun j k v ej => ?_⟩ (fun h' hk y hy => ?_) (by simpa using lz) fun h' tk dd hk => ?_
  · have e1 : X.A.in1.in1.units = X.A.units + 2 := rfl
    rw [e1]; omega
  · rw [List.getElem?_map] at ej
    obtain ⟨y, ey, e2⟩ := opt_map ej
    cases e2
    obtain ⟨T, f1, f2⟩ := p4 j y ey
    have eT : Ts j = T := by show (match us[j]? with | some (.ref T) => T | _ => 0) = T; rw [f1]
    rw [eT]
    exact ⟨by simpa using f1, f2⟩
  · have ej : (es.map fun y => (Value.ref y.2.1, y.2.2))[j]? = some (k, v) := ej
    rw [List.getElem?_map] at ej
    obtain ⟨y, ey, e2⟩ := opt_map ej
    cases e2
    exact ⟨y.1, y.2.1, ey, rfl⟩
  · exact nestedKind_stays.stays (fun b o2 ws n2 q1 q2 => hk b o2 (Nat.ne_of_lt (Heap.lt_size q1)) (by simp) q1) (p2 y hy)
  · obtain ⟨en, ep, hr, hs, hat⟩ := dd.raw
    have big : (s.heap.objs.size == sysModules) = false := beq_eq_false_iff_ne.mpr (Nat.ne_of_gt I.big)
    have fresh : H s.heap.objs.size = none := I.hok.fresh (Nat.le_refl _)
    have st := stored_all (K := X.K) (H := H) (xs := ks) (ps := es) (acc := []) (es := []) .nil p1
    have hsz : (PySem.storedAllH [] es).length ≤ es.length := by
      have : ∀ (ps acc : Ents), (PySem.storedAllH acc ps).length ≤ acc.length + ps.length := by
        intro ps
        induction ps with
        | nil => intro acc; exact Nat.le_refl _
        | cons y ps ih =>
          intro acc
          have h1 := ih (PySem.storedH acc y.1 y.2.1 y.2.2)
          have h2 := PySem.storedH_length acc y.1 y.2.1 y.2.2
          show (PySem.storedAllH (PySem.storedH acc y.1 y.2.1 y.2.2) ps).length ≤ _
          simp only [List.length_cons]
          omega
      simpa using this es []
    have keys : en.toList.map (·.key) = (PySem.storedAllH [] es).map fun y => Value.ref y.2.1 := by
      apply List.ext_getElem?
      intro i
      by_cases hi : i < en.size
      · obtain ⟨y, ey, ek, _⟩ := hat i hi
        rw [List.getElem?_map, List.getElem?_map, ey, Array.getElem?_toList, Array.getElem?_eq_getElem hi]
        simp [ek]
      · rw [List.getElem?_eq_none (by simp; omega), List.getElem?_eq_none (by simp; omega)]
    have rel : ∀ {xs : List D} {es : Ents}, Paired (EntR X.K H) xs es → Vals (es.map fun y => V.ref y.2.1) (es.map fun y => Value.ref y.2.1) ∧ DpAll X.K H (es.map fun y => V.ref y.2.1) (D.pys xs) := by
      intro xs es z
      induction z with
      | nil => exact ⟨.nil, by simpa [D.pys] using DpAll.nil⟩
      | cons a _ ih => exact ⟨.cons rfl ih.1, by simp only [D.pys, List.map_cons]; exact .cons a.2 ih.2⟩
    obtain ⟨r1, r2⟩ := rel st
    refine ⟨.ref s.heap.objs.size, _, I.laid (t' := tk) (fun b u z => hk b u (by simp) z) (Nat.le_refl _) (dct_ok hr), rfl, q _ en _ fresh big (by rw [hs]; omega) (by rw [keys]; exact r1) r2⟩
/-- sorted(that dict) -/
theorem sdict_by (co : CO X W) {p : Addr} {es : Array DictEntry} {ws : List V} {xs : List D} {Q : VK} (I : L2.Inv X pins σ H s) (e : H p = some (dctO p es)) (hp : (p == sysModules) = false) (hz : es.size ≤ sizeLine) (rv : Vals ws (es.toList.map (·.key)))
    (d : DpAll X.K H ws (D.pys xs)) (ok : SortOk xs) (q : ∀ ws p, H p = none → DpAll X.K (upd H p (.lst ws)) ws (D.pys (sortD xs)) → Q (.ref p) (upd H p (.lst ws))) :
    wpAny (model X.prog X.w) X.A (call (.builtin "sorted") [.ref p]) (EP X pins σ Q) X.xe s := by
  obtain ⟨⟨ep, hr⟩, _, _⟩ := I.hok p _ e
  have lx : xs.length = es.size := by rw [← dps_len d, rv.length]; simp
  refine sorted_by co I d ok (by rw [lx]; exact hz) (fun R k => ?_) q
  refine PySem.W.kdu_collect (A := X.A.in1) (KdlSrc.rawDict hp) (I.ok.hd co.calm) hr hz fun h' tk acc hk hacc => k h' tk _ hk ?_
  have ea : acc.toList = es.toList.map (·.key) := by
    apply List.ext_getElem?
    intro i
    by_cases hi : i < es.size
    · have hi2 : i < acc.size := by rw [hacc.1]; exact hi
      obtain ⟨hi3, ev⟩ := hacc.2 i acc[i] (Array.getElem?_eq_getElem hi2)
      rw [List.getElem?_map, Array.getElem?_toList, Array.getElem?_toList, Array.getElem?_eq_getElem hi2, Array.getElem?_eq_getElem hi, ev]
      rfl
    · rw [List.getElem?_eq_none (by simp [hacc.1]; omega), List.getElem?_eq_none (by simp; omega)]
  rw [ea]
  exact rv
def rDict (K : PySem.W.Frag) : List V → Hp → VK → Prop := fun xs H Q => ∃ a vs ps ks, xs = [V.ref a] ∧ SqL K H a vs ∧ DpAll K H vs (D.pys ps) ∧ fstsD ps = some ks ∧ (∀ k ∈ ks, KeyOk k) ∧
  ∀ p es ws, H p = none → (p == sysModules) = false → es.size ≤ sizeLine → Vals ws (es.toList.map (·.key)) → DpAll K H ws (D.pys (onceD ks)) → Q (.ref p) (upd H p (dctO p es))
theorem cr_dict (co : CO X W) : CallR X (.type "dict") (rDict X.K) := by
  intro pins s σ H xs us Q I r h
  obtain ⟨a, vs, ps, ks, rfl, sq, d, e, kok, q⟩ := h
  rw [Vals.ref1 r]
  exact dict_by co I sq d e kok q
def rSdict (K : PySem.W.Frag) : List V → Hp → VK → Prop := fun xs H Q => ∃ p es ws ys, xs = [V.ref p] ∧ H p = some (dctO p es) ∧ (p == sysModules) = false ∧ es.size ≤ sizeLine ∧ Vals ws (es.toList.map (·.key)) ∧ DpAll K H ws (D.pys ys) ∧ SortOk ys ∧
  ∀ ws p, H p = none → DpAll K (upd H p (.lst ws)) ws (D.pys (sortD ys)) → Q (.ref p) (upd H p (.lst ws))
theorem cr_sdict (co : CO X W) : CallR X (.builtin "sorted") (rSdict X.K) := by
  intro pins s σ H xs us Q I r h
  obtain ⟨p, es, ws, ys, rfl, e, hp, hz, rv, d, ok, q⟩ := h
  rw [Vals.ref1 r]
  exact sdict_by co I e hp hz rv d ok q
/-- sorted(dict(e)) -/
theorem se_sdict {e : Expr} {A : E} {p p2 pos pos2 : Pos} (co : CO X W) (hm : X.mg "sorted" = none) (hm2 : X.mg "dict" = none) (ha : SX X W C e A) (hg : Gl X "sorted" := by rfl) (hg2 : Gl X "dict" := by rfl)
    (he : starEach [e] X.env = (false, eval e X.env) :: starEach [] X.env := by rfl) (hpl : (backTo pos2 (starEach [] X.env)).any (·.1) = false := by rfl)
    (he2 : starEach [.Call (.Name "dict" p2) [e] [] pos2] X.env = (false, eval (.Call (.Name "dict" p2) [e] [] pos2) X.env) :: starEach [] X.env := by rfl) (hpl2 : (backTo pos (starEach [] X.env)).any (·.1) = false := by rfl) :
    SX X W C (.Call (.Name "sorted" p) [.Call (.Name "dict" p2) [e] [] pos2] [] pos) (.sdict A) := by
  have h1 := pe_callTy (pos := pos2) (p := p2) (cr_dict co) hg2 hm2 (by decide) (pa_cons ha pa_nil he) (by decide) (by decide) he hpl
  refine PE.imp (pe_callB (cr_sdict co) hg hm PyProof.Rows.boot_sorted (pa_cons h1 pa_nil he2) (by decide) (by decide) he2 hpl2) fun σ H Q => ?_
  rintro ⟨ρ, m, h, er, hr, fin⟩
  refine ⟨ρ, m, h, er, hr, (Fin.bind (rel1 := relV X.K) old_V fin).imp ?_⟩
  rintro x H1 ⟨m1, h1, u, g1, hr1, r1, fin1⟩
  unfold sdictR at fin1
  split at fin1
  · rename_i ps ep
    split at fin1
    · rename_i ks ek
      split at fin1
      · rename_i c
        obtain ⟨kok, ok⟩ := c
        obtain ⟨a, vs, rfl, sq, d⟩ := itemsL_of hr1 r1.any ep
        refine ⟨a, vs, ps, ks, rfl, sq, d, ek, kok, fun p es ws hp hb hz rv dk => ?_⟩
        have kp := keep_new (o := dctO p es) hp
        refine ⟨p, es, ws, onceD ks, rfl, upd_same, hb, hz, rv, dps_keeps kp _ _ dk, ok, fun ws2 p2 hp2 d2 => ?_⟩
        have hrd := hr1.new (o := dctO p es) hp
        have g2 := (grow_new (m := m1) (o := dctO p es) hp).trans (grow_new (o := .lst ws2) hp2)
        exact fin1 (.ref p2) _ m1 g2 (hrd.new hp2) ⟨p2, rfl, hrd.fresh hp2, (grow_new (m := m1) (o := dctO p es) hp).free hp2, ws2, upd_same, d2⟩
      · exact False.elim fin1
    · exact False.elim fin1
  · exact False.elim fin1
end
end EV
end

section
set_option Elab.async false
set_option linter.all false
set_option autoImplicit false
set_option maxRecDepth 100000
/-! EV, part P: more statements. -/
namespace EV
open PySem PySem.Spec L2
section
variable {X : Cx} {W : WX} {C : Cc}
/-- x = [e for .. for ..] -/
theorem zs_asgC2 {i : Nat} {y : Str} {py : Pos} {elt tg it tg1 it1 : Expr} {ifs ifs1 : List Expr} {scope : Scope} {own : List (Str × Nat)} {pos spos : Pos} {g g1 : TG} {vs1 tgI tgI1 : List Nat} {Elt It' It1 : E} {Ifs Ifs1 : List E} (co : CO X W) (hi : IX X W C tg it It') (ok : BlkOk X.N X.env.scope scope own)
    (hG : TGok X.K g tgI) (hv : ∀ i ∈ tgI, i ∈ own.map (·.2)) (hG1 : TGok X.K g1 tgI1) (hv1 : ∀ i ∈ tgI1, i ∈ vs1) (hv2 : ∀ i ∈ vs1, i ∈ own.map (·.2))
    (hg : ∀ (s : Shared) (H : Hp) (c : Addr) (cl : List (Str × Addr)) (fp : List Addr), PG (X.blk s H scope (compEnvC scope cl c X.env) fp) tg g)
    (ht : ∀ (s : Shared) (H : Hp) (c : Addr) (cl : List (Str × Addr)) (fp : List Addr), CO (X.blk s H scope (compEnvC scope cl c X.env) fp) noW → PTs (X.blk s H scope (compEnvC scope cl c X.env) fp) ifs (tTs X.K noW (dens C Ifs)))
    (hi1 : ∀ (s : Shared) (H : Hp) (c : Addr) (cl : List (Str × Addr)) (fp : List Addr), CO (X.blk s H scope (compEnvC scope cl c X.env) fp) noW → IX (X.blk s H scope (compEnvC scope cl c X.env) fp) noW C tg1 it1 It1)
    (hg1 : ∀ (s : Shared) (H : Hp) (c : Addr) (cl : List (Str × Addr)) (fp : List Addr), PG (X.blk s H scope (compEnvC scope cl c X.env) fp) tg1 g1)
    (ht1 : ∀ (s : Shared) (H : Hp) (c : Addr) (cl : List (Str × Addr)) (fp : List Addr), CO (X.blk s H scope (compEnvC scope cl c X.env) fp) noW → PTs (X.blk s H scope (compEnvC scope cl c X.env) fp) ifs1 (tTs X.K noW (dens C Ifs1)))
    (he : ∀ (s : Shared) (H : Hp) (c : Addr) (cl : List (Str × Addr)) (fp : List Addr), CO (X.blk s H scope (compEnvC scope cl c X.env) fp) noW → SX (X.blk s H scope (compEnvC scope cl c X.env) fp) noW C elt Elt)
    (hy : X.N[i]? = some y := by rfl) (hyl : X.env.scope.names.lookup y = some .local := by rfl)
    (hsw : swapsWith (.ListComp elt [⟨tg, it, ifs, 0⟩, ⟨tg1, it1, ifs1, 0⟩] scope pos) (some (.Name y py)) spos.line X.env = pure true := by rfl)
    (hs : ∀ x, foldedSetIterable it X.env x = pure x := by intro _; rfl) (hs1 : ∀ env x, foldedSetIterable it1 env x = pure x := by intro _ _; rfl) :
    ZX X W C (.Assign [.Name y py] (.ListComp elt [⟨tg, it, ifs, 0⟩, ⟨tg1, it1, ifs1, 0⟩] scope pos) spos) (.asg i (.comp2 (own.map (·.2)) vs1 tgI tgI1 Elt It' It1 Ifs Ifs1)) := by
  refine PS.imp (ps_setLc2 (wi1 := tI X.K noW (den C It1)) (tt := tTs X.K noW (dens C Ifs)) (tt1 := tTs X.K noW (dens C Ifs1)) (te := tE X.K noW (den C Elt)) co.calm co.nd hy hyl hsw hi ok hv2 hg (fun s H c cl fp => ht s H c cl fp co.blk) (fun s H c cl fp => hi1 s H c cl fp co.blk) hg1 (fun s H c cl fp => ht1 s H c cl fp co.blk) (fun s H c cl fp => he s H c cl fp co.blk) hs hs1) fun D σ H => ?_
  rintro ⟨ρ, m, h, er, hr, f⟩
  refine lc2_of hG hv hG1 hv1 ⟨ρ, m, h, er, hr, (FinS.on (rel := relV X.K) er hr f).imp ?_⟩
  rintro v H1 ⟨m1, h1, u, g1, hr1, r1, f1⟩
  exact stV_fin (er.grow hr g1) hr1 g1 r1 f1
theorem se_appendM {o e : Expr} {A B : E} {apos cpos : Pos} (co : CO X W) (ho : SX X W C o A) (he : SX X W C e B) (hs : starEach [e] X.env = (false, eval e X.env) :: starEach [] X.env := by rfl)
    (hbase : attributeBase o "append" X.env (eval o X.env) = eval o X.env := by rfl)
    (hfew : ((backTo cpos (starEach [e] X.env)).all (fun x => !x.1) && (backToKw cpos (keywordEach [] X.env)).all (fun x => x.1.isSome) && decide ([e].length + ([] : List Keyword).length + (if ([] : List Keyword).isEmpty then 0 else 1) < 30)) = true := by rfl)
    (hline : (apos.endLine == cpos.line) = true := by rfl) : SX X W C (.Call (.Attribute o "append" apos) [e] [] cpos) (.meth .append A [B]) :=
  se_meth PySem.F.plainAttrs_list PySem.F.slot_list_append PySem.F.type_list_append me_append ho he hs hbase hfew hline
theorem se_extendM {o e : Expr} {A B : E} {apos cpos : Pos} (co : CO X W) (ho : SX X W C o A) (he : SX X W C e B) (hs : starEach [e] X.env = (false, eval e X.env) :: starEach [] X.env := by rfl)
    (hbase : attributeBase o "extend" X.env (eval o X.env) = eval o X.env := by rfl)
    (hfew : ((backTo cpos (starEach [e] X.env)).all (fun x => !x.1) && (backToKw cpos (keywordEach [] X.env)).all (fun x => x.1.isSome) && decide ([e].length + ([] : List Keyword).length + (if ([] : List Keyword).isEmpty then 0 else 1) < 30)) = true := by rfl)
    (hline : (apos.endLine == cpos.line) = true := by rfl) : SX X W C (.Call (.Attribute o "extend" apos) [e] [] cpos) (.meth .extend A [B]) :=
  se_meth PySem.F.plainAttrs_list PySem.F.slot_list_extend PySem.F.type_list_extend me_extend ho he hs hbase hfew hline
end
end EV
end

section
set_option Elab.async false
set_option linter.all false
set_option maxRecDepth 100000
/-! EV, part Q: reckoning with the reading. Plain Lean. -/
namespace EV
open PySem
theorem ck {T : Lib} {f : Nat} {fn : Fn} {us : List U} {h : Hs} {k : Nat} (e : T.fn f = some fn) (hl : us.length = fn.n) : callK T (k + 1) f us h = callD ⟨callK T k, T.gv⟩ fn us h := by
  unfold callK
  rw [e]
  exact if_pos hl
theorem get0 {u : U} {ρ : Rho} {h : Hs} : getVar 0 (some u :: ρ) h = .ok u h := id rfl
theorem getS {i : Nat} {x : Option U} {ρ : Rho} {h : Hs} : getVar (i + 1) (x :: ρ) h = getVar i ρ h := id rfl
theorem take_len {h : Hs} : h.take h.length = h := List.take_length
theorem take_app {h t : Hs} : (h ++ t).take h.length = h := by simp
theorem take_cons {x y : MO} {h t : Hs} : (x :: (h ++ t)).take (y :: h).length = x :: h := by simp
theorem get_app {h : Hs} {x : MO} {t : Hs} : (h ++ x :: t)[h.length]? = some x := by simp
theorem set_app {h : Hs} {x y : MO} {t : Hs} : (h ++ x :: t).set h.length y = h ++ y :: t := by simp
theorem cmp_lt_int {i j : Int} {h : Hs} : cmpU .lt (.d (.int i)) (.d (.int j)) h = some (.d (.bl (decide (i < j)))) := id rfl
theorem cmp_le_int {i j : Int} {h : Hs} : cmpU .le (.d (.int i)) (.d (.int j)) h = some (.d (.bl (decide (i ≤ j)))) := id rfl
theorem cmp_gt_int {i j : Int} {h : Hs} : cmpU .gt (.d (.int i)) (.d (.int j)) h = some (.d (.bl (decide (j < i)))) := id rfl
theorem cmp_ge_int {i j : Int} {h : Hs} : cmpU .ge (.d (.int i)) (.d (.int j)) h = some (.d (.bl (decide (j ≤ i)))) := id rfl
theorem truth_bl {b : Bool} {h : Hs} : truthR (.d (.bl b)) h = .ok b h := id rfl
theorem fin_ret {n : Nat} {u : U} {ρ : Rho} {h : Hs} : finish n (.ok (.ret u) ρ h) = retU n u h := id rfl
theorem fin_next {n : Nat} {ρ : Rho} {h : Hs} : finish n (.ok .next ρ h) = .ok (.d .non) (h.take n) := id rfl
theorem retU_d {n : Nat} {x : D} {h : Hs} : retU n (.d x) h = .ok (.d x) (h.take n) := id rfl
theorem retU_tmp {n : Nat} {x : MO} {h : Hs} : retU n (.tmp x) h = .ok (.tmp x) (h.take n) := id rfl
theorem retU_ro {n : Nat} {x : List D} {h : Hs} : retU n (.ro x) h = .ok (.ro x) (h.take n) := id rfl
theorem add_int {i j : Int} : addU (.d (.int i)) (.d (.int j)) = some (.d (.int (i + j))) := id rfl
theorem sub_int {i j : Int} : binU .sub (.d (.int i)) (.d (.int j)) = some (.d (.int (i - j))) := id rfl
theorem bin_add {u v : U} : binU .add u v = addU u v := id rfl
theorem bin_mul {u v : U} : binU .mul u v = mulU u v := id rfl
theorem mod_int {i j : Int} (h : 0 < j) : binU .mod (.d (.int i)) (.d (.int j)) = some (.d (.int (i % j))) := if_pos h
theorem div_int {i j : Int} (h : 0 < j ∧ j < 10 ^ 15) : binU .fdiv (.d (.int i)) (.d (.int j)) = some (.d (.int (i / j))) := if_pos (show DivOk j from ⟨h.1, by omega⟩)
theorem mul_int {i j : Int} (h : mulOk i j) : mulU (.d (.int i)) (.d (.int j)) = some (.d (.int (i * j))) := if_pos h
/-! ### loops -/
theorem forL_inv {w : Option (Nat × MO)} {tg : List Nat} {body : DenS} {wp : List Nat} (P : List D → Rho → Hs → Prop)
    (step : ∀ x xs ρ h, P (x :: xs) ρ h → IterD.ok w h = true ∧ ∃ ρ1, setTg tg x ρ = some ρ1 ∧ ∃ ρ2 h2, (body ρ1 h = .ok .next ρ2 h2 ∨ body ρ1 h = .ok .cont ρ2 h2) ∧ P xs (wipe ρ2 wp) h2)
    (fin : ∀ ρ h, P [] ρ h → IterD.ok w h = true) : ∀ (xs : List D) (ρ : Rho) (h : Hs), P xs ρ h → ∃ ρ' h', forL w tg body wp xs ρ h = .ok .next ρ' h' ∧ P [] ρ' h'
  | [], ρ, h, p => ⟨ρ, h, by unfold forL; rw [if_pos (fin ρ h p)], p⟩
  | x :: xs, ρ, h, p => by
    obtain ⟨ok, ρ1, e1, ρ2, h2, e2, p2⟩ := step x xs ρ h p
    obtain ⟨ρ', h', e3, p3⟩ := forL_inv P step fin xs _ _ p2
    refine ⟨ρ', h', ?_, p3⟩
    unfold forL
    rw [if_pos ok, e1]
    rcases e2 with e2 | e2 <;> · simp only [e2]; exact e3
theorem compL_inv {w : Option (Nat × MO)} {body : D → Hs → R (Option D)} (P : List D → List D → Hs → Prop)
    (step : ∀ x xs acc h, P (x :: xs) acc h → IterD.ok w h = true ∧ ((∃ y h', body x h = .ok (some y) h' ∧ P xs (acc ++ [y]) h') ∨ ∃ h', body x h = .ok none h' ∧ P xs acc h'))
    (fin : ∀ acc h, P [] acc h → IterD.ok w h = true) : ∀ (xs acc : List D) (h : Hs), P xs acc h → ∃ ys h', compL w body xs acc h = .ok ys h' ∧ P [] ys h'
  | [], acc, h, p => ⟨acc, h, by unfold compL; rw [if_pos (fin acc h p)], p⟩
  | x :: xs, acc, h, p => by
    obtain ⟨ok, e⟩ := step x xs acc h p
    rcases e with ⟨y, h2, e2, p2⟩ | ⟨h2, e2, p2⟩
    · obtain ⟨ys, h', e3, p3⟩ := compL_inv P step fin xs _ _ p2
      refine ⟨ys, h', ?_, p3⟩
      unfold compL
      rw [if_pos ok, e2]
      exact e3
    · obtain ⟨ys, h', e3, p3⟩ := compL_inv P step fin xs _ _ p2
      refine ⟨ys, h', ?_, p3⟩
      unfold compL
      rw [if_pos ok, e2]
      exact e3
theorem compL_map {w : Option (Nat × MO)} {body : D → Hs → R (Option D)} {f : D → D} {h : Hs} (ok : IterD.ok w h = true) : ∀ (xs acc : List D), (∀ x ∈ xs, body x h = .ok (some (f x)) h) → compL w body xs acc h = .ok (acc ++ xs.map f) h
  | [], acc, _ => by unfold compL; rw [if_pos ok, List.map_nil, List.append_nil]
  | x :: xs, acc, e => by
    unfold compL
    rw [if_pos ok, e x List.mem_cons_self]
    show compL w body xs (acc ++ [f x]) h = _
    rw [compL_map ok xs _ fun y hy => e y (List.mem_cons_of_mem _ hy)]
    simp
theorem compM_inv {w : Option (Nat × MO)} {body : D → Hs → R Unit} (P : List D → Hs → Prop)
    (step : ∀ x xs h, P (x :: xs) h → IterD.ok w h = true ∧ ∃ h', body x h = .ok () h' ∧ P xs h')
    (fin : ∀ h, P [] h → IterD.ok w h = true) : ∀ (xs : List D) (h : Hs), P xs h → ∃ h', compM w body xs h = .ok () h' ∧ P [] h'
  | [], h, p => ⟨h, by unfold compM; rw [if_pos (fin h p)], p⟩
  | x :: xs, h, p => by
    obtain ⟨ok, h2, e2, p2⟩ := step x xs h p
    obtain ⟨h', e3, p3⟩ := compM_inv P step fin xs _ p2
    refine ⟨h', ?_, p3⟩
    unfold compM
    rw [if_pos ok, e2]
    exact e3
theorem ok_none {h : Hs} : IterD.ok none h = true := id rfl
theorem ok_some {i : Nat} {o : MO} {h : Hs} (e : h[i]? = some o) : IterD.ok (some (i, o)) h = true := by
  simp only [IterD.ok, decide_eq_true_eq]
  exact e
def upFrom (lo : Int) : Nat → List Int
  | 0 => []
  | n + 1 => lo :: upFrom (lo + 1) n
theorem intsD_eq : ∀ (n : Nat) (lo : Int), intsD lo n = (upFrom lo n).map .int
  | 0, _ => rfl
  | n + 1, lo => by
    unfold intsD upFrom
    rw [intsD_eq n, List.map_cons]
theorem upFrom_len : ∀ (n : Nat) (lo : Int), (upFrom lo n).length = n
  | 0, _ => rfl
  | n + 1, lo => by unfold upFrom; rw [List.length_cons, upFrom_len n]
/-! ### whole numbers, rows of them -/
theorem cmp_eq_int {i j : Int} {h : Hs} : cmpU .eq (.d (.int i)) (.d (.int j)) h = some (.d (.bl (decide (i = j)))) := by
  simp [cmpU, eqU, eqG, frz, D.py, SeqAt.shaped, PyData.canLay0, PyData.depth, PyData.eqv, BEq.beq]
theorem cmp_ne_int {i j : Int} {h : Hs} : cmpU .ne (.d (.int i)) (.d (.int j)) h = some (.d (.bl (!decide (i = j)))) := by
  simp [cmpU, eqU, eqG, frz, D.py, SeqAt.shaped, PyData.canLay0, PyData.depth, PyData.eqv, BEq.beq]
theorem cmp_ne_str {i j : Str} {h : Hs} : cmpU .ne (.d (.str i)) (.d (.str j)) h = some (.d (.bl (!decide (i = j)))) := id rfl
theorem cmp_eq_str {i j : Str} {h : Hs} : cmpU .eq (.d (.str i)) (.d (.str j)) h = some (.d (.bl (decide (i = j)))) := id rfl
theorem cmp_eq_bl {i j : Bool} {h : Hs} : cmpU .eq (.d (.bl i)) (.d (.bl j)) h = some (.d (.bl (decide (i = j)))) := by
  simp [cmpU, eqU, eqG, frz, D.py, SeqAt.shaped, PyData.canLay0, PyData.depth, PyData.eqv]
  cases i <;> cases j <;> rfl
theorem cmp_ne_bl {i j : Bool} {h : Hs} : cmpU .ne (.d (.bl i)) (.d (.bl j)) h = some (.d (.bl (!decide (i = j)))) := by
  simp [cmpU, eqU, eqG, frz, D.py, SeqAt.shaped, PyData.canLay0, PyData.depth, PyData.eqv]
  cases i <;> cases j <;> rfl
abbrev rowD (r : List Int) : D := .tup (r.map .int)
abbrev rowsD (rs : List (List Int)) : D := .tup (rs.map rowD)
theorem pys_int : ∀ r : List Int, D.pys (r.map .int) = r.map PyData.int
  | [] => rfl
  | x :: r => by simp only [List.map_cons, D.pys, D.py, pys_int r]
theorem row_py (r : List Int) : (rowD r).py = .tuple (r.map .int) := by simp only [D.py, pys_int]
theorem pys_row : ∀ rs : List (List Int), D.pys (rs.map rowD) = rs.map fun r => PyData.tuple (r.map .int)
  | [] => rfl
  | x :: r => by simp only [List.map_cons, D.pys, pys_row r, row_py]
theorem rows_py (rs : List (List Int)) : (rowsD rs).py = .tuple (rs.map fun r => .tuple (r.map .int)) := by simp only [D.py, pys_row]
theorem lay_ints : ∀ r : List Int, PyData.canLayAll0 (r.map .int) = true
  | [] => by simp [PyData.canLayAll0]
  | x :: r => by simp [PyData.canLayAll0, PyData.canLay0]; simpa using lay_ints r
theorem deep_ints : ∀ r : List Int, PyData.depthAll (r.map .int) = 0
  | [] => by simp [PyData.depthAll]
  | x :: r => by simp [PyData.depthAll, PyData.depth]; simpa using deep_ints r
theorem lay_rows : ∀ rs : List (List Int), PyData.canLayAll0 (rs.map fun r => .tuple (r.map .int)) = true
  | [] => by simp [PyData.canLayAll0]
  | x :: r => by simp only [List.map_cons, PyData.canLayAll0, PyData.canLay0, lay_ints, lay_rows r]; rfl
theorem deep_rows : ∀ rs : List (List Int), PyData.depthAll (rs.map fun r => .tuple (r.map .int)) ≤ 1
  | [] => by simp [PyData.depthAll]
  | x :: r => by
    simp only [List.map_cons, PyData.depthAll, PyData.depth, deep_ints]
    have := deep_rows r
    omega
theorem shaped_row (r : List Int) : SeqAt.shaped (rowD r).py = true := by
  rw [row_py]
  simp [SeqAt.shaped, PyData.canLay0, PyData.depth, lay_ints, deep_ints]
theorem shaped_rows (rs : List (List Int)) : SeqAt.shaped (rowsD rs).py = true := by
  rw [rows_py]
  have h1 := deep_rows rs
  have h2 : (PyData.tuple (rs.map fun r => .tuple (r.map .int))).depth ≤ 64 := by
    simp only [PyData.depth]
    exact Nat.le_trans (Nat.succ_le_succ h1) (by decide)
  unfold SeqAt.shaped
  rw [decide_eq_true h2]
  simp [PyData.canLay0, lay_rows]
theorem eqv_ints : ∀ r s : List Int, PyData.eqvAll (r.map .int) (s.map .int) = decide (r = s)
  | [], [] => by simp [PyData.eqvAll]
  | [], _ :: _ => by simp [PyData.eqvAll]
  | _ :: _, [] => by simp [PyData.eqvAll]
  | x :: r, y :: s => by
    simp only [List.map_cons, PyData.eqvAll, PyData.eqv, eqv_ints r s]
    by_cases h : x = y <;> by_cases h2 : r = s <;> simp [h, h2]
theorem eqv_row (r s : List Int) : PyData.eqv (.tuple (r.map .int)) (.tuple (s.map .int)) = decide (r = s) := by
  simp only [PyData.eqv, eqv_ints]
theorem eqv_rowsL : ∀ rs ss : List (List Int), PyData.eqvAll (rs.map fun r => .tuple (r.map .int)) (ss.map fun r => .tuple (r.map .int)) = decide (rs = ss)
  | [], [] => by simp [PyData.eqvAll]
  | [], _ :: _ => by simp [PyData.eqvAll]
  | _ :: _, [] => by simp [PyData.eqvAll]
  | x :: r, y :: s => by
    simp only [List.map_cons, PyData.eqvAll, eqv_row, eqv_rowsL r s]
    by_cases h : x = y <;> by_cases h2 : r = s <;> simp [h, h2]
theorem cmp_eq_row {r s : List Int} {h : Hs} : cmpU .eq (.d (rowD r)) (.d (rowD s)) h = some (.d (.bl (decide (r = s)))) := by
  have e : cmpU .eq (.d (rowD r)) (.d (rowD s)) h = (eqG (.d (rowD r)) (.d (rowD s)) h).map fun k => .d (.bl k) := rfl
  rw [e]
  unfold eqG frz
  simp only [shaped_row, and_self, if_true, Option.map_some]
  rw [row_py, row_py, eqv_row]
theorem cmp_eq_rows {r s : List (List Int)} {h : Hs} : cmpU .eq (.d (rowsD r)) (.d (rowsD s)) h = some (.d (.bl (decide (r = s)))) := by
  have e : cmpU .eq (.d (rowsD r)) (.d (rowsD s)) h = (eqG (.d (rowsD r)) (.d (rowsD s)) h).map fun k => .d (.bl k) := rfl
  rw [e]
  unfold eqG frz
  simp only [shaped_rows, and_self, if_true, Option.map_some]
  rw [rows_py, rows_py]
  simp only [PyData.eqv, eqv_rowsL]
theorem frz_d {x : D} {h : Hs} : frz h (.d x) = some x.py := id rfl
theorem frz_o {n : Nat} {xs : List D} {h : Hs} (e : h[n]? = some (.lst xs)) : frz h (.obj n) = some (.list (D.pys xs)) := by
  unfold frz
  dsimp only
  rw [e]
theorem cmp_in_rows {r : List Int} {s : List (List Int)} {h : Hs} : cmpU .in_ (.d (rowD r)) (.d (rowsD s)) h = some (.d (.bl (decide (r ∈ s)))) := by
  have e : cmpU .in_ (.d (rowD r)) (.d (rowsD s)) h = (inU (.d (rowD r)) (.d (rowsD s)) h).map fun k => .d (.bl k) := rfl
  rw [e]
  have h1 := shaped_row r
  have h2 := shaped_rows s
  rw [row_py] at h1
  rw [rows_py] at h2
  have h3 : SeqAt.shaped (.list (s.map fun r => .tuple (r.map .int))) = true := by
    simpa [SeqAt.shaped, PyData.canLay0, PyData.depth] using h2
  have key : inU (.d (rowD r)) (.d (rowsD s)) h = some ((s.map fun r => PyData.tuple (r.map .int)).any fun z => PyData.eqv z (.tuple (r.map .int))) := by
    unfold inU
    rw [frz_d, frz_d, row_py, rows_py]
    exact if_pos ⟨h1, h2⟩
  rw [key]
  simp only [Option.map_some, List.any_map]
  congr 3
  rw [Bool.eq_iff_iff]
  simp only [List.any_eq_true, Function.comp, eqv_row, decide_eq_true_eq]
  constructor
  · rintro ⟨x, hx, rfl⟩; exact hx
  · intro hx; exact ⟨r, hx, rfl⟩
theorem in_ints {i : Int} {xs : List Int} {n : Nat} {h : Hs} (e : h[n]? = some (.lst (xs.map .int))) : cmpU .nin (.d (.int i)) (.obj n) h = some (.d (.bl (!decide (i ∈ xs)))) := by
  have e2 : cmpU .nin (.d (.int i)) (.obj n) h = (inU (.d (.int i)) (.obj n) h).map fun k => .d (.bl (!k)) := rfl
  rw [e2]
  have h1 : SeqAt.shaped (.int i) = true := by simp [SeqAt.shaped, PyData.canLay0, PyData.depth]
  have h2 : SeqAt.shaped (.list (xs.map .int)) = true := by simp [SeqAt.shaped, PyData.canLay0, PyData.depth, lay_ints, deep_ints]
  have key : inU (.d (.int i)) (.obj n) h = some ((xs.map PyData.int).any fun z => PyData.eqv z (.int i)) := by
    unfold inU
    rw [frz_d, frz_o e, pys_int]
    exact if_pos ⟨h1, h2⟩
  rw [key]
  simp only [Option.map_some, List.any_map]
  congr 4
  rw [Bool.eq_iff_iff]
  simp only [List.any_eq_true, Function.comp, PyData.eqv, decide_eq_true_eq, beq_iff_eq]
  constructor
  · rintro ⟨x, hx, rfl⟩; exact hx
  · intro hx; exact ⟨i, hx, rfl⟩
/-! ### the equations one by one -/
theorem dv_var {C : Cc} {ρ : Rho} {h : Hs} {i : Nat} : (den C (.var i)).v ρ h = getVar i ρ h := id rfl
theorem dv_non {C : Cc} {ρ : Rho} {h : Hs} : (den C .non).v ρ h = .ok (.d .non) h := id rfl
theorem dv_bl {C : Cc} {ρ : Rho} {h : Hs} {b : Bool} : (den C (.bl b)).v ρ h = .ok (.d (.bl b)) h := id rfl
theorem dv_int {C : Cc} {ρ : Rho} {h : Hs} {b : Int} : (den C (.int b)).v ρ h = .ok (.d (.int b)) h := id rfl
theorem dv_str {C : Cc} {ρ : Rho} {h : Hs} {b : Str} : (den C (.str b)).v ρ h = .ok (.d (.str b)) h := id rfl
theorem dv_gv {C : Cc} {ρ : Rho} {h : Hs} {g : Nat} : (den C (.gv g)).v ρ h = gvR (C.gv g) h := id rfl
theorem dv_bin {C : Cc} {ρ : Rho} {h : Hs} {o : BOp} {a b : E} : (den C (.bin o a b)).v ρ h = ((den C a).v ρ h).bind fun u h1 => ((den C b).v ρ h1).bind fun v h2 => R.opt (binU o u v) h2 := id rfl
theorem dv_neg {C : Cc} {ρ : Rho} {h : Hs} {a : E} : (den C (.neg a)).v ρ h = ((den C a).v ρ h).bind negR := id rfl
theorem dv_cmp {C : Cc} {ρ : Rho} {h : Hs} {o : COp} {a b : E} : (den C (.cmp o a b)).v ρ h = ((den C a).v ρ h).bind fun u h1 => ((den C b).v ρ h1).bind fun v h2 => R.opt (cmpU o u v h2) h2 := id rfl
theorem dv_cmp2 {C : Cc} {ρ : Rho} {h : Hs} {o p : COp} {a b c : E} : (den C (.cmp2 o p a b c)).v ρ h = ((den C a).v ρ h).bind fun u h1 => ((den C b).v ρ h1).bind fun v h2 => onBlO (cmpU o u v h2) fun k => if k = true then ((den C c).v ρ h2).bind fun w h3 => R.opt (cmpU p v w h3) h3 else .ok (.d (.bl false)) h2 := id rfl
theorem dv_and {C : Cc} {ρ : Rho} {h : Hs} {a b : E} : (den C (.and a b)).v ρ h = ((den C a).v ρ h).bind fun u h1 => onBl u fun k => if k = true then (den C b).v ρ h1 else .ok (.d (.bl false)) h1 := id rfl
theorem dv_or {C : Cc} {ρ : Rho} {h : Hs} {a b : E} : (den C (.or a b)).v ρ h = ((den C a).v ρ h).bind fun u h1 => onBl u fun k => if k = true then .ok (.d (.bl true)) h1 else (den C b).v ρ h1 := id rfl
theorem dv_not {C : Cc} {ρ : Rho} {h : Hs} {a : E} : (den C (.not a)).v ρ h = ((den C a).v ρ h).bind notR := id rfl
theorem dv_ife {C : Cc} {ρ : Rho} {h : Hs} {c a b : E} : (den C (.ife c a b)).v ρ h = ((den C c).t ρ h).bind fun k h1 => if k = true then (den C a).v ρ h1 else (den C b).v ρ h1 := id rfl
theorem dv_tup {C : Cc} {ρ : Rho} {h : Hs} {es : List E} : (den C (.tup es)).v ρ h = (evs (dens C es) ρ h).bind tupR := id rfl
theorem dv_lst {C : Cc} {ρ : Rho} {h : Hs} {es : List E} : (den C (.lst es)).v ρ h = (evs (dens C es) ρ h).bind lstR := id rfl
theorem dv_idx {C : Cc} {ρ : Rho} {h : Hs} {a i : E} : (den C (.idx a i)).v ρ h = ((den C a).v ρ h).bind fun u h1 => ((den C i).v ρ h1).bind fun v h2 => R.opt (idxU u v h2) h2 := id rfl
theorem dv_slice {C : Cc} {ρ : Rho} {h : Hs} {a lo hi : E} : (den C (.slice a lo hi)).v ρ h = ((den C a).v ρ h).bind fun u h1 => ((den C lo).p ρ h1).bind fun l h2 => ((den C hi).p ρ h2).bind fun r h3 => R.opt (sliceU u l r h3) h3 := id rfl
theorem dv_call {C : Cc} {ρ : Rho} {h : Hs} {f : Nat} {es : List E} {p : List Nat} : (den C (.call f es p)).v ρ h = (evs (dens C es) ρ h).bind fun us h1 => match perm us p with | some ws => C.call f ws h1 | none => .stuck := id rfl
theorem dv_bi1 {C : Cc} {ρ : Rho} {h : Hs} {f : Bi} {a : E} : (den C (.bi f [a])).v ρ h = ((den C a).v ρ h).bind fun u h1 => bi1 f u h1 := id rfl
theorem dv_bi2 {C : Cc} {ρ : Rho} {h : Hs} {f : Bi} {a b : E} : (den C (.bi f [a, b])).v ρ h = (evs (dens C [a, b]) ρ h).bind fun us h1 => biU f us h1 := id rfl
theorem dv_meth {C : Cc} {ρ : Rho} {h : Hs} {m : Me} {o a : E} : (den C (.meth m o [a])).v ρ h = ((den C o).v ρ h).bind fun u h1 => if lstU u h1 = true then ((den C a).v ρ h1).bind fun v h2 => methR m u v h2 else .stuck := id rfl
theorem dv_sdict {C : Cc} {ρ : Rho} {h : Hs} {a : E} : (den C (.sdict a)).v ρ h = ((den C a).v ρ h).bind sdictR := id rfl
theorem dt_and {C : Cc} {ρ : Rho} {h : Hs} {a b : E} : (den C (.and a b)).t ρ h = ((den C a).t ρ h).bind fun k h1 => if k = true then (den C b).t ρ h1 else .ok false h1 := id rfl
theorem dt_or {C : Cc} {ρ : Rho} {h : Hs} {a b : E} : (den C (.or a b)).t ρ h = ((den C a).t ρ h).bind fun k h1 => if k = true then .ok true h1 else (den C b).t ρ h1 := id rfl
theorem dt_not {C : Cc} {ρ : Rho} {h : Hs} {a : E} : (den C (.not a)).t ρ h = ((den C a).t ρ h).bind fun k h1 => .ok (!k) h1 := id rfl
theorem dt_var {C : Cc} {ρ : Rho} {h : Hs} {i : Nat} : (den C (.var i)).t ρ h = ((den C (.var i)).v ρ h).bind truthR := id rfl
theorem dt_bl {C : Cc} {ρ : Rho} {h : Hs} {b : Bool} : (den C (.bl b)).t ρ h = ((den C (.bl b)).v ρ h).bind truthR := id rfl
theorem dt_cmp {C : Cc} {ρ : Rho} {h : Hs} {o : COp} {a b : E} : (den C (.cmp o a b)).t ρ h = ((den C (.cmp o a b)).v ρ h).bind truthR := id rfl
theorem dt_cmp2 {C : Cc} {ρ : Rho} {h : Hs} {o p : COp} {a b c : E} : (den C (.cmp2 o p a b c)).t ρ h = ((den C (.cmp2 o p a b c)).v ρ h).bind truthR := id rfl
theorem dt_call {C : Cc} {ρ : Rho} {h : Hs} {f : Nat} {es : List E} {p : List Nat} : (den C (.call f es p)).t ρ h = ((den C (.call f es p)).v ρ h).bind truthR := id rfl
theorem dt_bi {C : Cc} {ρ : Rho} {h : Hs} {f : Bi} {es : List E} : (den C (.bi f es)).t ρ h = ((den C (.bi f es)).v ρ h).bind truthR := id rfl
theorem dt_idx {C : Cc} {ρ : Rho} {h : Hs} {a i : E} : (den C (.idx a i)).t ρ h = ((den C (.idx a i)).v ρ h).bind truthR := id rfl
theorem dt_bin {C : Cc} {ρ : Rho} {h : Hs} {o : BOp} {a b : E} : (den C (.bin o a b)).t ρ h = ((den C (.bin o a b)).v ρ h).bind truthR := id rfl
theorem dt_ife {C : Cc} {ρ : Rho} {h : Hs} {c a b : E} : (den C (.ife c a b)).t ρ h = ((den C (.ife c a b)).v ρ h).bind truthR := id rfl
theorem dq_var {C : Cc} {ρ : Rho} {h : Hs} {i : Nat} : (den C (.var i)).p ρ h = ((den C (.var i)).v ρ h).bind partR := id rfl
theorem dq_call {C : Cc} {ρ : Rho} {h : Hs} {f : Nat} {es : List E} {p : List Nat} : (den C (.call f es p)).p ρ h = ((den C (.call f es p)).v ρ h).bind partR := id rfl
theorem dq_bi {C : Cc} {ρ : Rho} {h : Hs} {f : Bi} {es : List E} : (den C (.bi f es)).p ρ h = ((den C (.bi f es)).v ρ h).bind partR := id rfl
theorem dq_idx {C : Cc} {ρ : Rho} {h : Hs} {a i : E} : (den C (.idx a i)).p ρ h = ((den C (.idx a i)).v ρ h).bind partR := id rfl
theorem dq_bin {C : Cc} {ρ : Rho} {h : Hs} {o : BOp} {a b : E} : (den C (.bin o a b)).p ρ h = ((den C (.bin o a b)).v ρ h).bind partR := id rfl
theorem dq_ife {C : Cc} {ρ : Rho} {h : Hs} {c a b : E} : (den C (.ife c a b)).p ρ h = ((den C (.ife c a b)).v ρ h).bind partR := id rfl
theorem dq_int {C : Cc} {ρ : Rho} {h : Hs} {i : Int} : (den C (.int i)).p ρ h = ((den C (.int i)).v ρ h).bind partR := id rfl
theorem dq_neg {C : Cc} {ρ : Rho} {h : Hs} {a : E} : (den C (.neg a)).p ρ h = ((den C (.neg a)).v ρ h).bind partR := id rfl
theorem dq_absent {C : Cc} {ρ : Rho} {h : Hs} : (den C .absent).p ρ h = .ok none h := id rfl
theorem di_var {C : Cc} {ρ : Rho} {h : Hs} {i : Nat} : (den C (.var i)).i ρ h = ((den C (.var i)).v ρ h).bind seqItr := id rfl
theorem di_call {C : Cc} {ρ : Rho} {h : Hs} {f : Nat} {es : List E} {p : List Nat} : (den C (.call f es p)).i ρ h = ((den C (.call f es p)).v ρ h).bind seqItr := id rfl
theorem di_bi {C : Cc} {ρ : Rho} {h : Hs} {f : Bi} {es : List E} : (den C (.bi f es)).i ρ h = ((den C (.bi f es)).v ρ h).bind seqItr := id rfl
theorem di_idx {C : Cc} {ρ : Rho} {h : Hs} {a i : E} : (den C (.idx a i)).i ρ h = ((den C (.idx a i)).v ρ h).bind seqItr := id rfl
theorem di_bin {C : Cc} {ρ : Rho} {h : Hs} {o : BOp} {a b : E} : (den C (.bin o a b)).i ρ h = ((den C (.bin o a b)).v ρ h).bind seqItr := id rfl
theorem di_ife {C : Cc} {ρ : Rho} {h : Hs} {c a b : E} : (den C (.ife c a b)).i ρ h = ((den C (.ife c a b)).v ρ h).bind seqItr := id rfl
theorem di_lst {C : Cc} {ρ : Rho} {h : Hs} {es : List E} : (den C (.lst es)).i ρ h = ((den C (.lst es)).v ρ h).bind seqItr := id rfl
theorem di_tup {C : Cc} {ρ : Rho} {h : Hs} {es : List E} : (den C (.tup es)).i ρ h = ((den C (.tup es)).v ρ h).bind seqItr := id rfl
theorem di_slice {C : Cc} {ρ : Rho} {h : Hs} {a lo hi : E} : (den C (.slice a lo hi)).i ρ h = ((den C (.slice a lo hi)).v ρ h).bind seqItr := id rfl
theorem di_comp {C : Cc} {ρ : Rho} {h : Hs} {vs tg : List Nat} {elt it : E} {ifs : List E} : (den C (.comp vs tg elt it ifs)).i ρ h = ((den C (.comp vs tg elt it ifs)).v ρ h).bind seqItr := id rfl
theorem di_rng1 {C : Cc} {ρ : Rho} {h : Hs} {a : E} : (den C (.rng1 a)).i ρ h = (evs [den C a] ρ h).bind rng1Itr := id rfl
theorem di_rng2 {C : Cc} {ρ : Rho} {h : Hs} {a b : E} : (den C (.rng2 a b)).i ρ h = (evs [den C a, den C b] ρ h).bind rng2Itr := id rfl
theorem di_enum {C : Cc} {ρ : Rho} {h : Hs} {a : E} : (den C (.enum a)).i ρ h = ((den C a).v ρ h).bind fun u h1 => (seqItr u h1).bind fun I h2 => .ok ⟨enumD 0 I.xs, I.watch⟩ h2 := id rfl
theorem di_zip {C : Cc} {ρ : Rho} {h : Hs} {a b : E} : (den C (.zip a b)).i ρ h = (evs [den C a, den C b] ρ h).bind zipItr := id rfl
theorem ds_asg {C : Cc} {ρ : Rho} {h : Hs} {i : Nat} {e : E} : dS C (.asg i e) ρ h = ((den C e).v ρ h).on ρ (stV i ρ) := id rfl
theorem ds_asgT {C : Cc} {ρ : Rho} {h : Hs} {is : List Nat} {e : E} : dS C (.asgT is e) ρ h = ((den C e).v ρ h).on ρ (asgTR is ρ) := id rfl
theorem ds_par {C : Cc} {ρ : Rho} {h : Hs} {is : List Nat} {es : List E} : dS C (.par is es) ρ h = (evs (dens C es) ρ h).on ρ fun us h1 => nextO (setVars is us ρ) h1 := id rfl
theorem ds_sub {C : Cc} {ρ : Rho} {h : Hs} {o i e : E} : dS C (.sub o i e) ρ h = ((den C e).v ρ h).on ρ fun u h1 => ((den C o).v ρ h1).on ρ fun v h2 => ((den C i).v ρ h2).on ρ fun w h3 => subR v w u ρ h3 := id rfl
theorem ds_aug {C : Cc} {ρ : Rho} {h : Hs} {i : Nat} {o : BOp} {e : E} : dS C (.aug i o e) ρ h = (getVar i ρ h).on ρ fun u h1 => ((den C e).v ρ h1).on ρ fun v h2 => (R.opt (augU o u v) h2).on ρ (stV i ρ) := id rfl
theorem ds_expr {C : Cc} {ρ : Rho} {h : Hs} {e : E} : dS C (.expr e) ρ h = ((den C e).v ρ h).on ρ fun _ h1 => .ok .next ρ h1 := id rfl
theorem ds_ret {C : Cc} {ρ : Rho} {h : Hs} {e : E} : dS C (.ret e) ρ h = ((den C e).v ρ h).on ρ fun u h1 => .ok (.ret u) ρ h1 := id rfl
theorem ds_retN {C : Cc} {ρ : Rho} {h : Hs} : dS C .retN ρ h = .ok (.ret (.d .non)) ρ h := id rfl
theorem ds_pass {C : Cc} {ρ : Rho} {h : Hs} : dS C .pass ρ h = .ok .next ρ h := id rfl
theorem ds_brk {C : Cc} {ρ : Rho} {h : Hs} : dS C .brk ρ h = .ok .brk ρ h := id rfl
theorem ds_cont {C : Cc} {ρ : Rho} {h : Hs} : dS C .cont ρ h = .ok .cont ρ h := id rfl
theorem ds_ife {C : Cc} {ρ : Rho} {h : Hs} {c : E} {a b : List S} : dS C (.ife c a b) ρ h = ((den C c).t ρ h).on ρ fun k h1 => if k = true then dSs C a ρ h1 else dSs C b ρ h1 := id rfl
theorem dss_nil {C : Cc} {ρ : Rho} {h : Hs} : dSs C [] ρ h = .ok .next ρ h := id rfl
theorem dss_cons {C : Cc} {ρ : Rho} {h : Hs} {s : S} {ss : List S} : dSs C (s :: ss) ρ h = (dS C s ρ h).seq (dSs C ss) := id rfl
theorem dns_nil {C : Cc} : dens C [] = [] := id rfl
theorem dns_cons {C : Cc} {e : E} {es : List E} : dens C (e :: es) = den C e :: dens C es := id rfl
theorem evs_nil {ρ : Rho} {h : Hs} : evs [] ρ h = .ok [] h := id rfl
theorem evs_cons {ρ : Rho} {h : Hs} {e : Den} {es : List Den} : evs (e :: es) ρ h = (e.v ρ h).bind fun u h1 => (evs es ρ (alloc u h1).2).bind fun us h2 => .ok ((alloc u h1).1 :: us) h2 := id rfl
theorem ds_for {C : Cc} {ρ : Rho} {h : Hs} {tg wp : List Nat} {it : E} {body : List S} : dS C (.for_ tg it body wp) ρ h = ((den C it).i ρ h).on ρ fun I h1 => forL I.watch tg (dSs C body) wp I.xs (wipe ρ wp) h1 := id rfl
theorem comp_map {C : Cc} {vs tg : List Nat} {elt it : E} {ifs : List E} {ρ : Rho} {h : Hs} {xs : List D} {w : Option (Nat × MO)} {f : D → D} (hi : (den C it).i ρ h = .ok ⟨xs, w⟩ h) (ok : IterD.ok w h = true) (hz : xs.length ≤ sizeLine)
    (hb : ∀ x ∈ xs, turnR vs tg (den C elt) (dens C ifs) ρ x h = .ok (some (f x)) h) : (den C (.comp vs tg elt it ifs)).v ρ h = .ok (.tmp (.lst (xs.map f))) h := by
  show compR vs tg (den C elt) (den C it) (dens C ifs) ρ h = _
  unfold compR
  rw [hi]
  simp only [R.bind]
  rw [if_pos hz, compL_map ok xs [] hb]
  rfl
theorem comp_inv {C : Cc} {vs tg : List Nat} {elt it : E} {ifs : List E} {ρ : Rho} {h h1 : Hs} {xs : List D} {w : Option (Nat × MO)} (P : List D → List D → Hs → Prop) (hi : (den C it).i ρ h = .ok ⟨xs, w⟩ h1) (hz : xs.length ≤ sizeLine) (h0 : P xs [] h1)
    (step : ∀ x xs acc h, P (x :: xs) acc h → IterD.ok w h = true ∧ ((∃ y h', turnR vs tg (den C elt) (dens C ifs) ρ x h = .ok (some y) h' ∧ P xs (acc ++ [y]) h') ∨ ∃ h', turnR vs tg (den C elt) (dens C ifs) ρ x h = .ok none h' ∧ P xs acc h'))
    (fin : ∀ acc h, P [] acc h → IterD.ok w h = true) : ∃ ys h', (den C (.comp vs tg elt it ifs)).v ρ h = .ok (.tmp (.lst ys)) h' ∧ P [] ys h' := by
  obtain ⟨ys, h', e, p⟩ := compL_inv P step fin xs [] h1 h0
  refine ⟨ys, h', ?_, p⟩
  show compR vs tg (den C elt) (den C it) (dens C ifs) ρ h = _
  unfold compR
  rw [hi]
  simp only [R.bind]
  rw [if_pos hz, e]
theorem for_inv {C : Cc} {ρ : Rho} {h h1 : Hs} {tg wp : List Nat} {it : E} {body : List S} {xs : List D} {w : Option (Nat × MO)} (P : List D → Rho → Hs → Prop) (hi : (den C it).i ρ h = .ok ⟨xs, w⟩ h1) (h0 : P xs (wipe ρ wp) h1)
    (step : ∀ x xs ρ h, P (x :: xs) ρ h → IterD.ok w h = true ∧ ∃ ρ1, setTg tg x ρ = some ρ1 ∧ ∃ ρ2 h2, (dSs C body ρ1 h = .ok .next ρ2 h2 ∨ dSs C body ρ1 h = .ok .cont ρ2 h2) ∧ P xs (wipe ρ2 wp) h2)
    (fin : ∀ ρ h, P [] ρ h → IterD.ok w h = true) : ∃ ρ' h', dS C (.for_ tg it body wp) ρ h = .ok .next ρ' h' ∧ P [] ρ' h' := by
  obtain ⟨ρ', h', e, p⟩ := forL_inv P step fin xs _ h1 h0
  refine ⟨ρ', h', ?_, p⟩
  rw [ds_for, hi]
  exact e

theorem compL_of {α : Type} {w : Option (Nat × MO)} {body : D → Hs → R (Option D)} {e g : α → D} {h : Hs} (ok : IterD.ok w h = true) : ∀ (l : List α) (acc : List D), (∀ x ∈ l, body (e x) h = .ok (some (g x)) h) → compL w body (l.map e) acc h = .ok (acc ++ l.map g) h
  | [], acc, _ => by rw [List.map_nil]; unfold compL; rw [if_pos ok, List.map_nil, List.append_nil]
  | x :: xs, acc, q => by
    rw [List.map_cons]
    unfold compL
    rw [if_pos ok, q x List.mem_cons_self]
    show compL w body (xs.map e) (acc ++ [g x]) h = _
    rw [compL_of ok xs _ fun y hy => q y (List.mem_cons_of_mem _ hy)]
    simp
theorem comp_of {α : Type} {C : Cc} {vs tg : List Nat} {elt it : E} {ifs : List E} {ρ : Rho} {h : Hs} {l : List α} {e g : α → D} {w : Option (Nat × MO)} (hi : (den C it).i ρ h = .ok ⟨l.map e, w⟩ h) (ok : IterD.ok w h = true) (hz : l.length ≤ sizeLine)
    (hb : ∀ x ∈ l, turnR vs tg (den C elt) (dens C ifs) ρ (e x) h = .ok (some (g x)) h) : (den C (.comp vs tg elt it ifs)).v ρ h = .ok (.tmp (.lst (l.map g))) h := by
  show compR vs tg (den C elt) (den C it) (dens C ifs) ρ h = _
  unfold compR
  rw [hi]
  simp only [R.bind]
  rw [if_pos (by simpa using hz), compL_of ok l [] hb]
  rfl
theorem zipD_ints : ∀ r s : List Int, zipD (r.map .int) (s.map .int) = (r.zip s).map fun p => D.tup [.int p.1, .int p.2]
  | [], s => by simp [zipD]
  | x :: r, [] => by simp [zipD]
  | x :: r, y :: s => by simp [zipD, zipD_ints r s]
theorem seqItr_tup {xs : List D} {h : Hs} : seqItr (.d (.tup xs)) h = .ok ⟨xs, none⟩ h := id rfl
theorem seqItr_tmp {xs : List D} {h : Hs} : seqItr (.tmp (.lst xs)) h = .ok ⟨xs, none⟩ h := id rfl
theorem seqItr_ro {xs : List D} {h : Hs} : seqItr (.ro xs) h = .ok ⟨xs, none⟩ h := id rfl
theorem seqItr_obj {i : Nat} {xs : List D} {h : Hs} (e : h[i]? = some (.lst xs)) : seqItr (.obj i) h = .ok ⟨xs, some (i, .lst xs)⟩ h := by
  unfold seqItr
  dsimp only
  rw [e]
theorem items_tup {xs : List D} {h : Hs} : itemsU (.d (.tup xs)) h = some xs := id rfl
theorem items_tmp {xs : List D} {h : Hs} : itemsU (.tmp (.lst xs)) h = some xs := id rfl
theorem items_ro {xs : List D} {h : Hs} : itemsU (.ro xs) h = some xs := id rfl
theorem items_obj {i : Nat} {xs : List D} {h : Hs} (e : h[i]? = some (.lst xs)) : itemsU (.obj i) h = some xs := by
  unfold itemsU
  dsimp only
  rw [e]
theorem upFrom_mem : ∀ {n : Nat} {lo i : Int}, i ∈ upFrom lo n ↔ lo ≤ i ∧ i < lo + n
  | 0, lo, i => by
    simp only [upFrom, List.not_mem_nil, false_iff]
    omega
  | n + 1, lo, i => by
    simp only [upFrom, List.mem_cons, upFrom_mem (n := n)]
    omega
theorem upFrom_map {α : Type} {f : Int → α} : ∀ (n : Nat) (lo : Int), (upFrom lo n).map f = (List.range n).map fun (i : Nat) => f (lo + (i : Int))
  | 0, _ => rfl
  | n + 1, lo => by
    unfold upFrom
    rw [List.map_cons, upFrom_map n, List.range_succ_eq_map, List.map_cons, List.map_map]
    congr 1
    · simp
    · apply List.map_congr_left
      intro i _
      simp only [Function.comp, Nat.succ_eq_add_one, Int.natCast_add]
      congr 1
      omega

theorem rng1_nat {n : Nat} {h : Hs} (hn : n ≤ 1000000) : rng1Itr [.d (.int (n : Int))] h = .ok ⟨(List.range n).map fun (i : Nat) => D.int (i : Int), none⟩ h := by
  have c : RngOk (n : Int) := by unfold RngOk; omega
  unfold rng1Itr
  dsimp only
  rw [if_pos c, intsD_eq, Int.toNat_natCast, upFrom_map]
  simp
theorem rng2_int {i j : Int} {h : Hs} (hi : -1000000 ≤ i ∧ i ≤ 1000000) (hj : -1000000 ≤ j ∧ j ≤ 1000000) : rng2Itr [.d (.int i), .d (.int j)] h = .ok ⟨(upFrom i (j - i).toNat).map D.int, none⟩ h := by
  have c : RngOk i ∧ RngOk j := by unfold RngOk; omega
  unfold rng2Itr
  dsimp only
  rw [if_pos c, intsD_eq]
theorem le_size {n : Nat} (h : n ≤ 1000000) : n ≤ sizeLine := Nat.le_trans h (by decide)
theorem idx_row {r : List Int} {i : Nat} {h : Hs} (hi : i < r.length) : idxU (.d (rowD r)) (.d (.int (i : Int))) h = some (.d (.int r[i])) := by
  have e : idxU (.d (rowD r)) (.d (.int (i : Int))) h = (L2.atI (r.map D.int) (i : Int)).map .d := rfl
  rw [e, L2.atI_nat (v := D.int r[i]) (by simp [hi])]
  rfl
end EV
end

section
set_option Elab.async false
set_option linter.all false
set_option maxRecDepth 100000
set_option maxHeartbeats 0
namespace EV
/-! the text of the law, as terms of the small language -/
section
open PySem PySem.Spec L2
def tp (i : Nat) : Stmt := PySem.Challenge.pw_roundorlist_k01_sums_of_rows_beside_trie.main.body.getD i (.Pass ⟨0, 0, 0, 0⟩)
abbrev i_is_between : Nat := 0
abbrev i_is_many : Nat := 1
abbrev i_made_many : Nat := 2
abbrev i_level : Nat := 3
abbrev i_turned : Nat := 4
abbrev i_numbers_of : Nat := 5
abbrev i_sums : Nat := 6
abbrev i_sign_of : Nat := 7
abbrev i_row_of : Nat := 8
abbrev i__law_pool : Nat := 9
abbrev i__law_take : Nat := 10
abbrev i__law_one : Nat := 11
abbrev i__law_level : Nat := 12
abbrev i__law_turned : Nat := 13
abbrev i__law_in_rows : Nat := 14
abbrev i__law_any_row : Nat := 15
abbrev i__law_row_of : Nat := 16
abbrev i__law_any_motion : Nat := 17
abbrev i__law_near_motion : Nat := 18
abbrev i__law_tried : Nat := 19
abbrev i__law_tried_sums : Nat := 20
abbrev i__law_other_row : Nat := 21
abbrev i__law_two_right : Nat := 22
abbrev i__law_behind : Nat := 23
abbrev i__law_ahead : Nat := 24
abbrev i__law_three_right : Nat := 25
abbrev i__law_tale_right : Nat := 26
abbrev i_law : Nat := 27
abbrev gMOST_MEMBERS : Nat := 0
def s_is_between : List S :=
   [(.ret (.and (.bi .isint [(.var 0)]) (.and (.not (.bi .isbool [(.var 0)])) (.cmp2 .le .le (.var 1) (.var 0) (.var 2)))))]
def f_is_between : Fn := ⟨3, 3, s_is_between⟩
def e_is_between : Ent := ⟨i_is_between, "is_between", tp 5, ["thing", "least", "most"], ["thing", "least", "most"], f_is_between⟩
def s_is_many : List S :=
   [(.ret (.call i_is_between [(.var 0), (.int 1), (.gv gMOST_MEMBERS)] []))]
def f_is_many : Fn := ⟨1, 1, s_is_many⟩
def e_is_many : Ent := ⟨i_is_many, "is_many", tp 6, ["thing"], ["thing"], f_is_many⟩
def s_made_many : List S :=
   [(.ife (.not (.call i_is_many [(.var 0)] [])) [.never]
    []),
    (.ret (.var 0))]
def f_made_many : Fn := ⟨1, 1, s_made_many⟩
def e_made_many : Ent := ⟨i_made_many, "made_many", tp 7, ["n"], ["n"], f_made_many⟩
def s_level : List S :=
   [(.ret (.bin .mul (.tup [(.int 0)]) (.call i_made_many [(.var 0)] [])))]
def f_level : Fn := ⟨1, 1, s_level⟩
def e_level : Ent := ⟨i_level, "level", tp 8, ["n"], ["n"], f_level⟩
def s_turned : List S :=
   [(.ret (.bi .tuple [(.comp [1] [1] (.neg (.var 1)) (.var 0) [])]))]
def f_turned : Fn := ⟨1, 2, s_turned⟩
def e_turned : Ent := ⟨i_turned, "turned", tp 9, ["row", "number"], ["row"], f_turned⟩
def s_numbers_of : List S :=
   [(.ife (.or (.cmp .eq (.var 0) (.int 0)) (.cmp .eq (.var 0) (.var 1))) [(.ret (.tup [(.var 1)]))]
    []),
    (.ret (.ife (.cmp .eq (.var 1) (.int 0)) (.tup [(.var 0)]) (.tup [(.neg (.int 1)), (.int 0), (.int 1)])))]
def f_numbers_of : Fn := ⟨2, 2, s_numbers_of⟩
def e_numbers_of : Ent := ⟨i_numbers_of, "numbers_of", tp 10, ["one", "two"], ["one", "two"], f_numbers_of⟩
def s_sums : List S :=
   [(.asg 2 (.lst [(.tup [])])),
    (.for_ [3, 4] (.enum (.var 0)) [(.asg 2 (.comp2 [5, 6] [6] [5] [6] (.bin .add (.var 5) (.tup [(.var 6)])) (.var 2) (.call i_numbers_of [(.var 4), (.idx (.var 1) (.var 3))] []) [] []))] [3, 4]),
    (.ret (.bi .tuple [(.var 2)]))]
def f_sums : Fn := ⟨2, 7, s_sums⟩
def e_sums : Ent := ⟨i_sums, "sums", tp 11, ["one", "two", "found", "place", "number", "row", "new"], ["one", "two"], f_sums⟩
def s_sign_of : List S :=
   [(.ret (.ife (.cmp .eq (.var 0) (.int 0)) (.int 0) (.ife (.cmp .gt (.var 0) (.int 0)) (.int 1) (.neg (.int 1)))))]
def f_sign_of : Fn := ⟨1, 1, s_sign_of⟩
def e_sign_of : Ent := ⟨i_sign_of, "sign_of", tp 13, ["number"], ["number"], f_sign_of⟩
def s_row_of : List S :=
   [(.ret (.bi .tuple [(.comp [2, 3] [2, 3] (.call i_sign_of [(.bin .sub (.var 2) (.var 3))] []) (.zip (.var 0) (.var 1)) [])]))]
def f_row_of : Fn := ⟨2, 4, s_row_of⟩
def e_row_of : Ent := ⟨i_row_of, "row_of", tp 14, ["new", "old", "height", "other"], ["new", "old"], f_row_of⟩
def s__law_pool : List S :=
   [(.asg 2 (.int 0)),
    (.ife (.cmp .lt (.var 1) (.bi .len [(.var 0)])) [(.asg 2 (.idx (.var 0) (.var 1)))]
    [(.ife (.cmp .ne (.var 0) (.lst [])) [(.asg 2 (.idx (.var 0) (.int 0)))]
    [])]),
    (.asg 3 (.bi .max2 [(.bi .int_ [(.var 2)]), (.bi .int_ [(.bin .sub (.neg (.int 1)) (.var 2))])])),
    (.asg 4 (.bin .mod (.bi .int_ [(.bin .mul (.bin .add (.bin .add (.bin .add (.bin .mod (.bi .int_ [(.var 3)]) (.int 2147483629)) (.bin .mul (.bin .mul (.int 7919) (.var 1)) (.var 1))) (.bin .mul (.int 31) (.var 1))) (.int 17)) (.int 48271))]) (.int 2147483647))),
    (.ret (.lst [(.bin .mul (.var 3) (.bi .int_ [(.and (.cmp .ge (.var 3) (.bin .pow (.int 10) (.int 18))) (.cmp .lt (.var 1) (.bi .len [(.var 0)])))])), (.var 4)]))]
def f__law_pool : Fn := ⟨2, 5, s__law_pool⟩
def e__law_pool : Ent := ⟨i__law_pool, "_law_pool", tp 16, ["script", "k", "cell", "big", "mixed"], ["script", "k"], f__law_pool⟩
def s__law_take : List S :=
   [(.ife (.cmp .gt (.idx (.var 0) (.int 0)) (.int 0)) [(.asg 2 (.bin .mod (.bi .int_ [(.idx (.var 0) (.int 0))]) (.var 1))),
    (.sub (.var 0) (.int 0) (.bin .fdiv (.idx (.var 0) (.int 0)) (.var 1))),
    (.ret (.var 2))]
    []),
    (.sub (.var 0) (.int 1) (.bin .mod (.bi .int_ [(.bin .add (.bin .mul (.idx (.var 0) (.int 1)) (.int 39373)) (.int 7))]) (.int 2147483647))),
    (.ret (.bin .mod (.bi .int_ [(.bin .fdiv (.bin .mod (.bi .int_ [(.bin .mul (.idx (.var 0) (.int 1)) (.idx (.var 0) (.int 1)))]) (.int 2147483629)) (.int 32))]) (.var 1)))]
def f__law_take : Fn := ⟨2, 3, s__law_take⟩
def e__law_take : Ent := ⟨i__law_take, "_law_take", tp 17, ["jar", "top", "drawn"], ["jar", "top"], f__law_take⟩
def s__law_one : List S :=
   [(.ret (.idx (.var 1) (.call i__law_take [(.var 0), (.bi .len [(.var 1)])] [])))]
def f__law_one : Fn := ⟨2, 2, s__law_one⟩
def e__law_one : Ent := ⟨i__law_one, "_law_one", tp 18, ["jar", "things"], ["jar", "things"], f__law_one⟩
def s__law_level : List S :=
   [(.ret (.bin .mul (.tup [(.int 0)]) (.var 0)))]
def f__law_level : Fn := ⟨1, 1, s__law_level⟩
def e__law_level : Ent := ⟨i__law_level, "_law_level", tp 19, ["n"], ["n"], f__law_level⟩
def s__law_turned : List S :=
   [(.ret (.bi .tuple [(.comp [1] [1] (.neg (.var 1)) (.var 0) [])]))]
def f__law_turned : Fn := ⟨1, 2, s__law_turned⟩
def e__law_turned : Ent := ⟨i__law_turned, "_law_turned", tp 20, ["row", "a"], ["row"], f__law_turned⟩
def s__law_in_rows : List S :=
   [(.ret (.bi .tuple [(.sdict (.comp [1] [1] (.tup [(.var 1), (.bl true)]) (.var 0) []))]))]
def f__law_in_rows : Fn := ⟨1, 2, s__law_in_rows⟩
def e__law_in_rows : Ent := ⟨i__law_in_rows, "_law_in_rows", tp 21, ["rows", "row"], ["rows"], f__law_in_rows⟩
def s__law_any_row : List S :=
   [(.ret (.bi .tuple [(.comp [2] [2] (.bin .sub (.call i__law_take [(.var 0), (.int 3)] []) (.int 1)) (.rng1 (.var 1)) [])]))]
def f__law_any_row : Fn := ⟨2, 3, s__law_any_row⟩
def e__law_any_row : Ent := ⟨i__law_any_row, "_law_any_row", tp 22, ["jar", "n", "i"], ["jar", "n"], f__law_any_row⟩
def s__law_row_of : List S :=
   [(.ret (.bi .tuple [(.comp [2] [2] (.bin .sub (.bi .int_ [(.cmp .gt (.idx (.var 0) (.var 2)) (.idx (.var 1) (.var 2)))]) (.bi .int_ [(.cmp .lt (.idx (.var 0) (.var 2)) (.idx (.var 1) (.var 2)))])) (.rng1 (.bi .len [(.var 1)])) [])]))]
def f__law_row_of : Fn := ⟨2, 3, s__law_row_of⟩
def e__law_row_of : Ent := ⟨i__law_row_of, "_law_row_of", tp 23, ["new", "old", "i"], ["new", "old"], f__law_row_of⟩
def s__law_any_motion : List S :=
   [(.asg 2 (.call i__law_one [(.var 0), (.lst [(.int 2), (.int 3), (.int 3), (.int 5), (.bin .pow (.int 10) (.int 12))])] [])),
    (.ret (.bi .tuple [(.comp [3] [3] (.bin .sub (.call i__law_take [(.var 0), (.var 2)] []) (.bin .fdiv (.var 2) (.int 2))) (.rng1 (.var 1)) [])]))]
def f__law_any_motion : Fn := ⟨2, 4, s__law_any_motion⟩
def e__law_any_motion : Ent := ⟨i__law_any_motion, "_law_any_motion", tp 24, ["jar", "n", "wide", "i"], ["jar", "n"], f__law_any_motion⟩
def s__law_near_motion : List S :=
   [(.asg 2 (.bi .list [(.var 1)])),
    (.for_ [3] (.rng1 (.bin .add (.int 1) (.call i__law_take [(.var 0), (.int 2)] []))) [(.asg 4 (.call i__law_take [(.var 0), (.bi .len [(.var 1)])] [])),
    (.sub (.var 2) (.var 4) (.bin .add (.idx (.var 2) (.var 4)) (.call i__law_one [(.var 0), (.lst [(.neg (.int 2)), (.neg (.int 1)), (.int 1), (.int 2)])] [])))] [3, 4]),
    (.ret (.bi .tuple [(.var 2)]))]
def f__law_near_motion : Fn := ⟨2, 5, s__law_near_motion⟩
def e__law_near_motion : Ent := ⟨i__law_near_motion, "_law_near_motion", tp 25, ["jar", "motion", "found", "turn", "i"], ["jar", "motion"], f__law_near_motion⟩
def s__law_tried : List S :=
   [(.asg 2 (.lst [])),
    (.for_ [3] (.rng2 (.neg (.int 2)) (.int 3)) [(.for_ [4] (.rng2 (.neg (.int 2)) (.int 3)) [(.asg 5 (.idx (.call i__law_row_of [(.tup [(.var 4)]), (.tup [(.int 0)])] []) (.int 0))),
    (.ife (.and (.cmp .eq (.call i__law_row_of [(.tup [(.var 3)]), (.tup [(.int 0)])] []) (.tup [(.var 0)])) (.and (.cmp .eq (.call i__law_row_of [(.tup [(.var 4)]), (.tup [(.var 3)])] []) (.tup [(.var 1)])) (.cmp .nin (.var 5) (.var 2)))) [(.expr (.meth .append (.var 2) [(.var 5)]))]
    [])] [])] [3, 4, 5]),
    (.ret (.bi .sorted [(.var 2)]))]
def f__law_tried : Fn := ⟨2, 6, s__law_tried⟩
def e__law_tried : Ent := ⟨i__law_tried, "_law_tried", tp 26, ["a", "b", "found", "middle", "top", "told"], ["a", "b"], f__law_tried⟩
def s__law_tried_sums : List S :=
   [(.asg 2 (.lst [(.tup [])])),
    (.for_ [3] (.rng1 (.bi .len [(.var 0)])) [(.par [4, 5] [(.lst []), (.call i__law_tried [(.idx (.var 0) (.var 3)), (.idx (.var 1) (.var 3))] [])]),
    (.for_ [6] (.var 2) [(.expr (.meth .extend (.var 4) [(.comp [7] [7] (.bin .add (.var 6) (.tup [(.var 7)])) (.var 5) [])]))] []),
    (.asg 2 (.var 4))] [3, 4, 5, 6]),
    (.ret (.bi .tuple [(.var 2)]))]
def f__law_tried_sums : Fn := ⟨2, 8, s__law_tried_sums⟩
def e__law_tried_sums : Ent := ⟨i__law_tried_sums, "_law_tried_sums", tp 27, ["one", "two", "found", "i", "later", "some", "row", "c"], ["one", "two"], f__law_tried_sums⟩
def s__law_other_row : List S :=
   [(.par [3, 4] [(.call i__law_take [(.var 0), (.int 7)] []), (.call i__law_take [(.var 0), (.var 1)] [])]),
    (.ife (.cmp .lt (.var 3) (.int 2)) [(.ret (.call i__law_any_row [(.var 0), (.var 1)] []))]
    []),
    (.ife (.cmp .eq (.var 3) (.int 2)) [(.ret (.call i__law_level [(.var 1)] []))]
    []),
    (.ife (.cmp .eq (.var 3) (.int 3)) [(.ret (.var 2))]
    []),
    (.asg 5 (.ife (.cmp .lt (.var 3) (.int 6)) (.call i__law_turned [(.var 2)] []) (.var 2))),
    (.ret (.ife (.cmp .eq (.var 3) (.int 4)) (.var 5) (.bin .add (.bin .add (.slice (.var 5) .absent (.var 4)) (.tup [(.bin .sub (.call i__law_take [(.var 0), (.int 3)] []) (.int 1))])) (.slice (.var 5) (.bin .add (.var 4) (.int 1)) .absent))))]
def f__law_other_row : Fn := ⟨3, 6, s__law_other_row⟩
def e__law_other_row : Ent := ⟨i__law_other_row, "_law_other_row", tp 28, ["jar", "n", "one", "way", "i", "other"], ["jar", "n", "one"], f__law_other_row⟩
def s__law_two_right : List S :=
   [(.asg 3 (.call i__law_tried_sums [(.var 1), (.var 2)] [])),
    (.ife (.or (.cmp .ne (.bi .repr [(.call i_sums [(.var 1), (.var 2)] [])]) (.bi .repr [(.var 3)])) (.cmp .ne (.bi .repr [(.call i_sums [(.var 2), (.var 1)] [])]) (.bi .repr [(.var 3)]))) [(.ret (.bl false))]
    []),
    (.ife (.cmp .ne (.bi .repr [(.call i_sums [(.call i_turned [(.var 2)] []), (.call i_turned [(.var 1)] [])] [])]) (.bi .repr [(.bi .tuple [(.bi .sorted [(.comp [4] [4] (.call i__law_turned [(.var 4)] []) (.var 3) [])])])])) [(.ret (.bl false))]
    []),
    (.ife (.cmp .ne (.cmp .in_ (.call i_level [(.var 0)] []) (.call i_sums [(.var 1), (.var 2)] [])) (.cmp .eq (.var 2) (.call i__law_turned [(.var 1)] []))) [(.ret (.bl false))]
    []),
    (.ret (.and (.cmp .eq (.bi .repr [(.call i_sums [(.var 1), (.var 1)] [])]) (.bi .repr [(.tup [(.var 1)])])) (.cmp .eq (.bi .repr [(.call i_sums [(.var 2), (.call i_level [(.var 0)] [])] [])]) (.bi .repr [(.tup [(.var 2)])]))))]
def f__law_two_right : Fn := ⟨3, 5, s__law_two_right⟩
def e__law_two_right : Ent := ⟨i__law_two_right, "_law_two_right", tp 29, ["n", "one", "two", "due", "row"], ["n", "one", "two"], f__law_two_right⟩
def s__law_behind : List S :=
   [(.asg 2 (.lst [])),
    (.for_ [3] (.var 0) [(.expr (.meth .extend (.var 2) [(.call i_sums [(.var 3), (.var 1)] [])]))] [3]),
    (.ret (.call i__law_in_rows [(.var 2)] []))]
def f__law_behind : Fn := ⟨2, 4, s__law_behind⟩
def e__law_behind : Ent := ⟨i__law_behind, "_law_behind", tp 30, ["rows", "last", "found", "row"], ["rows", "last"], f__law_behind⟩
def s__law_ahead : List S :=
   [(.asg 2 (.lst [])),
    (.for_ [3] (.var 1) [(.expr (.meth .extend (.var 2) [(.call i_sums [(.var 0), (.var 3)] [])]))] [3]),
    (.ret (.call i__law_in_rows [(.var 2)] []))]
def f__law_ahead : Fn := ⟨2, 4, s__law_ahead⟩
def e__law_ahead : Ent := ⟨i__law_ahead, "_law_ahead", tp 31, ["one", "rows", "found", "row"], ["one", "rows"], f__law_ahead⟩
def s__law_three_right : List S :=
   [(.ret (.cmp .eq (.call i__law_behind [(.call i_sums [(.var 0), (.var 1)] []), (.var 2)] []) (.call i__law_ahead [(.var 0), (.call i_sums [(.var 1), (.var 2)] [])] [])))]
def f__law_three_right : Fn := ⟨3, 3, s__law_three_right⟩
def e__law_three_right : Ent := ⟨i__law_three_right, "_law_three_right", tp 32, ["one", "two", "last"], ["one", "two", "last"], f__law_three_right⟩
def s__law_tale_right : List S :=
   [(.par [3, 4, 5] [(.call i_row_of [(.var 1), (.var 0)] []), (.call i_row_of [(.var 2), (.var 1)] []), (.call i__law_row_of [(.var 2), (.var 0)] [])]),
    (.asg 6 (.bi .int_ [(.bin .add (.str "1") (.bin .mul (.str "0") (.int 300)))])),
    (.asg 7 (.comp [8] [8] (.bi .tuple [(.comp [9] [9] (.bin .mul (.var 6) (.var 9)) (.var 8) [])]) (.lst [(.var 2), (.var 0)]) [])),
    (.ife (.or (.cmp .ne (.bi .repr [(.call i_row_of [(.idx (.var 7) (.int 1)), (.idx (.var 7) (.int 0))] [1, 0])]) (.bi .repr [(.var 5)])) (.cmp .ne (.bi .repr [(.call i_row_of [(.var 2), (.var 0)] [])]) (.bi .repr [(.var 5)]))) [(.ret (.bl false))]
    []),
    (.ret (.cmp .in_ (.var 5) (.call i_sums [(.var 4), (.var 3)] [1, 0])))]
def f__law_tale_right : Fn := ⟨3, 10, s__law_tale_right⟩
def e__law_tale_right : Ent := ⟨i__law_tale_right, "_law_tale_right", tp 33, ["first", "middle", "last", "one", "two", "due", "far", "some", "motion", "height"], ["first", "middle", "last"], f__law_tale_right⟩
def s_law : List S :=
   [(.asg 1 (.call i__law_pool [(.var 0), (.int 0)] [])),
    (.asg 2 (.call i__law_one [(.var 1), (.lst [(.int 1), (.int 2), (.int 2), (.int 3), (.int 3), (.int 4), (.int 4), (.int 5), (.int 6)])] [])),
    (.for_ [3] (.rng1 (.int 3)) [(.asg 4 (.call i__law_any_row [(.var 1), (.var 2)] [])),
    (.asg 5 (.call i__law_other_row [(.var 1), (.var 2), (.var 4)] [])),
    (.asg 6 (.call i__law_other_row [(.var 1), (.var 2), (.var 4)] [])),
    (.ife (.or (.not (.call i__law_two_right [(.var 2), (.var 4), (.var 5)] [])) (.not (.call i__law_two_right [(.var 2), (.var 5), (.var 6)] []))) [(.ret (.bl false))]
    []),
    (.ife (.not (.call i__law_three_right [(.slice (.var 4) .absent (.int 3)), (.slice (.var 5) .absent (.int 3)), (.slice (.var 6) .absent (.int 3))] [])) [(.ret (.bl false))]
    []),
    (.asg 7 (.call i__law_any_motion [(.var 1), (.var 2)] [])),
    (.asg 8 (.call i__law_near_motion [(.var 1), (.var 7)] [])),
    (.asg 9 (.ife (.cmp .eq (.call i__law_take [(.var 1), (.int 2)] []) (.int 0)) (.call i__law_any_motion [(.var 1), (.var 2)] []) (.call i__law_near_motion [(.var 1), (.var 8)] []))),
    (.ife (.or (.not (.call i__law_tale_right [(.var 7), (.var 8), (.var 9)] [])) (.not (.call i__law_tale_right [(.var 9), (.var 7), (.var 8)] []))) [(.ret (.bl false))]
    [])] [3, 4, 5, 6, 7, 8, 9]),
    (.ret (.bl true))]
def f_law : Fn := ⟨1, 10, s_law⟩
def e_law : Ent := ⟨i_law, "law", tp 34, ["script", "jar", "n", "turn", "one", "two", "last", "motion", "near_one", "other"], ["script"], f_law⟩
def tab : List Ent := [e_is_between, e_is_many, e_made_many, e_level, e_turned, e_numbers_of, e_sums, e_sign_of, e_row_of, e__law_pool, e__law_take, e__law_one, e__law_level, e__law_turned, e__law_in_rows, e__law_any_row, e__law_row_of, e__law_any_motion, e__law_near_motion, e__law_tried, e__law_tried_sums, e__law_other_row, e__law_two_right, e__law_behind, e__law_ahead, e__law_three_right, e__law_tale_right, e_law]
def fns : List Fn := [f_is_between, f_is_many, f_made_many, f_level, f_turned, f_numbers_of, f_sums, f_sign_of, f_row_of, f__law_pool, f__law_take, f__law_one, f__law_level, f__law_turned, f__law_in_rows, f__law_any_row, f__law_row_of, f__law_any_motion, f__law_near_motion, f__law_tried, f__law_tried_sums, f__law_other_row, f__law_two_right, f__law_behind, f__law_ahead, f__law_three_right, f__law_tale_right, f_law]
def gvs : List D := [.int 6]
def lib : Lib := ⟨fun i => fns[i]?, fun i => gvs[i]?⟩
def GvOk (mg : Str → Option Value) : Prop := (∃ t, mg "MOST_MEMBERS" = some (.int 6 t))
theorem k_is_between : EntOk e_is_between := ⟨⟨rfl, rfl, rfl, by decide +kernel, rfl, by decide +kernel, by decide +kernel⟩, rfl, rfl, fun _ _ _ _ _ _ us hl => match us, hl with | [_, _, _], _ => rfl⟩
theorem b_is_between {mg : Str → Option Value} (gv : GvOk mg) : BodyOk lib tab mg e_is_between := by
  obtain ⟨t_MOST_MEMBERS, g_MOST_MEMBERS⟩ := gv
  intro P w K base k fr F f cd A outer s H E co hr
  exact (zs_cons (zs_ret (se_and (se_isi isi_int (fr.all "isinstance" (by decide)) (fr.all "int" (by decide)) (se_var 0) (by decide)) (se_and (se_not (se_isi isi_bool (fr.all "isinstance" (by decide)) (fr.all "bool" (by decide)) (se_var 0) (by decide))) (se_one (se_cmp2 .le .le co (se_var 1) (se_var 0) (se_var 2))))))
    zs_nil)
theorem k_is_many : EntOk e_is_many := ⟨⟨rfl, rfl, rfl, by decide +kernel, rfl, by decide +kernel, by decide +kernel⟩, rfl, rfl, fun _ _ _ _ _ _ us hl => match us, hl with | [_], _ => rfl⟩
theorem b_is_many {mg : Str → Option Value} (gv : GvOk mg) : BodyOk lib tab mg e_is_many := by
  obtain ⟨t_MOST_MEMBERS, g_MOST_MEMBERS⟩ := gv
  intro P w K base k fr F f cd A outer s H E co hr
  exact (zs_cons (zs_ret (se_call co hr (F (i_is_between) e_is_between rfl) (sa_cons (se_var 0) (sa_cons se_int (sa_cons (se_gvI (t := t_MOST_MEMBERS) rfl g_MOST_MEMBERS rfl) sa_nil)))))
    zs_nil)
theorem k_made_many : EntOk e_made_many := ⟨⟨rfl, rfl, rfl, by decide +kernel, rfl, by decide +kernel, by decide +kernel⟩, rfl, rfl, fun _ _ _ _ _ _ us hl => match us, hl with | [_], _ => rfl⟩
theorem b_made_many {mg : Str → Option Value} (gv : GvOk mg) : BodyOk lib tab mg e_made_many := by
  obtain ⟨t_MOST_MEMBERS, g_MOST_MEMBERS⟩ := gv
  intro P w K base k fr F f cd A outer s H E co hr
  exact (zs_cons (zs_if (st_not (st_val rfl (se_call co hr (F (i_is_many) e_is_many rfl) (sa_cons (se_var 0) sa_nil)))) (zs_cons zs_never
    zs_nil)
    zs_nil)
    (zs_cons (zs_ret (se_var 0))
    zs_nil))
theorem k_level : EntOk e_level := ⟨⟨rfl, rfl, rfl, by decide +kernel, rfl, by decide +kernel, by decide +kernel⟩, rfl, rfl, fun _ _ _ _ _ _ us hl => match us, hl with | [_], _ => rfl⟩
theorem b_level {mg : Str → Option Value} (gv : GvOk mg) : BodyOk lib tab mg e_level := by
  obtain ⟨t_MOST_MEMBERS, g_MOST_MEMBERS⟩ := gv
  intro P w K base k fr F f cd A outer s H E co hr
  exact (zs_cons (zs_ret (se_mul (se_tup (sa_cons se_int sa_nil)) (se_call co hr (F (i_made_many) e_made_many rfl) (sa_cons (se_var 0) sa_nil))))
    zs_nil)
theorem k_turned : EntOk e_turned := ⟨⟨rfl, rfl, rfl, by decide +kernel, rfl, by decide +kernel, by decide +kernel⟩, rfl, rfl, fun _ _ _ _ _ _ us hl => match us, hl with | [_], _ => rfl⟩
theorem b_turned {mg : Str → Option Value} (gv : GvOk mg) : BodyOk lib tab mg e_turned := by
  obtain ⟨t_MOST_MEMBERS, g_MOST_MEMBERS⟩ := gv
  intro P w K base k fr F f cd A outer s H E co hr
  exact (zs_cons (zs_ret (se_biT cb_tuple (fr.all "tuple" (by decide)) (by first | rfl | decide) (se_comp (own := [("number", 1)]) (tgI := [1]) co (si_seq (se_var 0)) (blkOk_by rfl) (tg_name 1) (by decide) (fun _ _ _ _ _ => (pg_name co.nd (i := 1) rfl (by first | exact Or.inl rfl | exact Or.inr rfl))) (fun _ _ _ _ _ c1 => sts_nil) (fun _ _ _ _ _ c1 => (se_neg (se_var 1))))))
    zs_nil)
theorem k_numbers_of : EntOk e_numbers_of := ⟨⟨rfl, rfl, rfl, by decide +kernel, rfl, by decide +kernel, by decide +kernel⟩, rfl, rfl, fun _ _ _ _ _ _ us hl => match us, hl with | [_, _], _ => rfl⟩
theorem b_numbers_of {mg : Str → Option Value} (gv : GvOk mg) : BodyOk lib tab mg e_numbers_of := by
  obtain ⟨t_MOST_MEMBERS, g_MOST_MEMBERS⟩ := gv
  intro P w K base k fr F f cd A outer s H E co hr
  exact (zs_cons (zs_if (st_w (sw_or (st_cmp .eq co (se_var 0) se_int) (sw_or1 (st_cmp .eq co (se_var 0) (se_var 1))))) (zs_cons (zs_ret (se_tup (sa_cons (se_var 1) sa_nil)))
    zs_nil)
    zs_nil)
    (zs_cons (zs_ret (se_ife (st_cmp .eq co (se_var 1) se_int) (se_tup (sa_cons (se_var 0) sa_nil)) (se_tup (sa_cons (se_neg se_int) (sa_cons se_int (sa_cons se_int sa_nil))))))
    zs_nil))
theorem k_sums : EntOk e_sums := ⟨⟨rfl, rfl, rfl, by decide +kernel, rfl, by decide +kernel, by decide +kernel⟩, rfl, rfl, fun _ _ _ _ _ _ us hl => match us, hl with | [_, _], _ => rfl⟩
theorem b_sums {mg : Str → Option Value} (gv : GvOk mg) : BodyOk lib tab mg e_sums := by
  obtain ⟨t_MOST_MEMBERS, g_MOST_MEMBERS⟩ := gv
  intro P w K base k fr F f cd A outer s H E co hr
  exact (zs_cons (zs_asg (i := 2) co (se_lst (sa_cons (se_tup sa_nil) sa_nil)))
    (zs_cons (zs_for (wp := [3, 4]) co (si_enum (fr.all "enumerate" (by decide)) (se_var 0)) (pg_tup co.calm (pgs_cons (pg_name co.nd (i := 3) rfl (by first | exact Or.inl rfl | exact Or.inr rfl)) (pgs_cons (pg_name co.nd (i := 4) rfl (by first | exact Or.inl rfl | exact Or.inr rfl)) pgs_nil))) (tg_tup [3, 4] (by simp)) (zs_cons (zs_asgC2 (i := 2) (own := [("row", 5), ("new", 6)]) (vs1 := [6]) (tgI := [5]) (tgI1 := [6]) co (si_seq (se_var 2)) (blkOk_by rfl) (tg_name 5) (by decide) (tg_name 6) (by decide) (by decide) (fun _ _ _ _ _ => (pg_name co.nd (i := 5) rfl (by first | exact Or.inl rfl | exact Or.inr rfl))) (fun _ _ _ _ _ c1 => sts_nil) (fun _ _ _ _ _ c1 => (si_seq (se_call c1 hr (F (i_numbers_of) e_numbers_of rfl) (sa_cons (se_var 4) (sa_cons (se_idx (se_var 1) (se_var 3)) sa_nil))))) (fun _ _ _ _ _ => (pg_name co.nd (i := 6) rfl (by first | exact Or.inl rfl | exact Or.inr rfl))) (fun _ _ _ _ _ c1 => sts_nil) (fun _ _ _ _ _ c1 => (se_add (se_var 5) (se_tup (sa_cons (se_var 6) sa_nil)))))
    zs_nil))
    (zs_cons (zs_ret (se_biT cb_tuple (fr.all "tuple" (by decide)) (by first | rfl | decide) (se_var 2)))
    zs_nil)))
theorem k_sign_of : EntOk e_sign_of := ⟨⟨rfl, rfl, rfl, by decide +kernel, rfl, by decide +kernel, by decide +kernel⟩, rfl, rfl, fun _ _ _ _ _ _ us hl => match us, hl with | [_], _ => rfl⟩
theorem b_sign_of {mg : Str → Option Value} (gv : GvOk mg) : BodyOk lib tab mg e_sign_of := by
  obtain ⟨t_MOST_MEMBERS, g_MOST_MEMBERS⟩ := gv
  intro P w K base k fr F f cd A outer s H E co hr
  exact (zs_cons (zs_ret (se_ife (st_cmp .eq co (se_var 0) se_int) se_int (se_ife (st_cmp .gt co (se_var 0) se_int) se_int (se_neg se_int))))
    zs_nil)
theorem k_row_of : EntOk e_row_of := ⟨⟨rfl, rfl, rfl, by decide +kernel, rfl, by decide +kernel, by decide +kernel⟩, rfl, rfl, fun _ _ _ _ _ _ us hl => match us, hl with | [_, _], _ => rfl⟩
theorem b_row_of {mg : Str → Option Value} (gv : GvOk mg) : BodyOk lib tab mg e_row_of := by
  obtain ⟨t_MOST_MEMBERS, g_MOST_MEMBERS⟩ := gv
  intro P w K base k fr F f cd A outer s H E co hr
  exact (zs_cons (zs_ret (se_biT cb_tuple (fr.all "tuple" (by decide)) (by first | rfl | decide) (se_comp (own := [("height", 2), ("other", 3)]) (tgI := [2, 3]) co (si_zip (fr.all "zip" (by decide)) (sa_cons (se_var 0) (sa_cons (se_var 1) sa_nil))) (blkOk_by rfl) (tg_tup [2, 3] (by simp)) (by decide) (fun _ _ _ _ _ => (pg_tup co.calm (pgs_cons (pg_name co.nd (i := 2) rfl (by first | exact Or.inl rfl | exact Or.inr rfl)) (pgs_cons (pg_name co.nd (i := 3) rfl (by first | exact Or.inl rfl | exact Or.inr rfl)) pgs_nil)))) (fun _ _ _ _ _ c1 => sts_nil) (fun _ _ _ _ _ c1 => (se_call c1 hr (F (i_sign_of) e_sign_of rfl) (sa_cons (se_sub (se_var 2) (se_var 3)) sa_nil))))))
    zs_nil)
theorem k__law_pool : EntOk e__law_pool := ⟨⟨rfl, rfl, rfl, by decide +kernel, rfl, by decide +kernel, by decide +kernel⟩, rfl, rfl, fun _ _ _ _ _ _ us hl => match us, hl with | [_, _], _ => rfl⟩
theorem b__law_pool {mg : Str → Option Value} (gv : GvOk mg) : BodyOk lib tab mg e__law_pool := by
  obtain ⟨t_MOST_MEMBERS, g_MOST_MEMBERS⟩ := gv
  intro P w K base k fr F f cd A outer s H E co hr
  exact (zs_cons (zs_asg (i := 2) co se_int)
    (zs_cons (zs_if (st_cmp .lt co (se_var 1) (se_biB cb_len (fr.all "len" (by decide)) (by first | rfl | decide) (se_var 0))) (zs_cons (zs_asg (i := 2) co (se_idx (se_var 0) (se_var 1)))
    zs_nil)
    (zs_cons (zs_if (st_cmp .ne co (se_var 0) (se_lst sa_nil)) (zs_cons (zs_asg (i := 2) co (se_idx (se_var 0) se_int))
    zs_nil)
    zs_nil)
    zs_nil))
    (zs_cons (zs_asg (i := 3) co (se_bi2 (cb_max2 co.calm) (fr.all "max" (by decide)) (by first | rfl | decide) (sa_cons (se_biT cb_int (fr.all "int" (by decide)) (by first | rfl | decide) (se_var 2)) (sa_cons (se_biT cb_int (fr.all "int" (by decide)) (by first | rfl | decide) (se_sub (se_neg se_int) (se_var 2))) sa_nil))))
    (zs_cons (zs_asg (i := 4) co (se_mod (se_biT cb_int (fr.all "int" (by decide)) (by first | rfl | decide) (se_mul (se_add (se_add (se_add (se_mod (se_biT cb_int (fr.all "int" (by decide)) (by first | rfl | decide) (se_var 3)) se_int) (se_mul (se_mul se_int (se_var 1)) (se_var 1))) (se_mul se_int (se_var 1))) se_int) se_int)) se_int))
    (zs_cons (zs_ret (se_lst (sa_cons (se_mul (se_var 3) (se_biT cb_int (fr.all "int" (by decide)) (by first | rfl | decide) (se_and (se_cmp .ge co (se_var 3) (se_pow se_int se_int)) (se_one (se_cmp .lt co (se_var 1) (se_biB cb_len (fr.all "len" (by decide)) (by first | rfl | decide) (se_var 0))))))) (sa_cons (se_var 4) sa_nil))))
    zs_nil)))))
theorem k__law_take : EntOk e__law_take := ⟨⟨rfl, rfl, rfl, by decide +kernel, rfl, by decide +kernel, by decide +kernel⟩, rfl, rfl, fun _ _ _ _ _ _ us hl => match us, hl with | [_, _], _ => rfl⟩
theorem b__law_take {mg : Str → Option Value} (gv : GvOk mg) : BodyOk lib tab mg e__law_take := by
  obtain ⟨t_MOST_MEMBERS, g_MOST_MEMBERS⟩ := gv
  intro P w K base k fr F f cd A outer s H E co hr
  exact (zs_cons (zs_if (st_cmp .gt co (se_idx (se_var 0) se_int) se_int) (zs_cons (zs_asg (i := 2) co (se_mod (se_biT cb_int (fr.all "int" (by decide)) (by first | rfl | decide) (se_idx (se_var 0) se_int)) (se_var 1)))
    (zs_cons (zs_sub co (se_fdiv (se_idx (se_var 0) se_int) (se_var 1)) (se_var 0) se_int)
    (zs_cons (zs_ret (se_var 2))
    zs_nil)))
    zs_nil)
    (zs_cons (zs_sub co (se_mod (se_biT cb_int (fr.all "int" (by decide)) (by first | rfl | decide) (se_add (se_mul (se_idx (se_var 0) se_int) se_int) se_int)) se_int) (se_var 0) se_int)
    (zs_cons (zs_ret (se_mod (se_biT cb_int (fr.all "int" (by decide)) (by first | rfl | decide) (se_fdiv (se_mod (se_biT cb_int (fr.all "int" (by decide)) (by first | rfl | decide) (se_mul (se_idx (se_var 0) se_int) (se_idx (se_var 0) se_int))) se_int) se_int)) (se_var 1)))
    zs_nil)))
theorem k__law_one : EntOk e__law_one := ⟨⟨rfl, rfl, rfl, by decide +kernel, rfl, by decide +kernel, by decide +kernel⟩, rfl, rfl, fun _ _ _ _ _ _ us hl => match us, hl with | [_, _], _ => rfl⟩
theorem b__law_one {mg : Str → Option Value} (gv : GvOk mg) : BodyOk lib tab mg e__law_one := by
  obtain ⟨t_MOST_MEMBERS, g_MOST_MEMBERS⟩ := gv
  intro P w K base k fr F f cd A outer s H E co hr
  exact (zs_cons (zs_ret (se_idx (se_var 1) (se_call co hr (F (i__law_take) e__law_take rfl) (sa_cons (se_var 0) (sa_cons (se_biB cb_len (fr.all "len" (by decide)) (by first | rfl | decide) (se_var 1)) sa_nil)))))
    zs_nil)
theorem k__law_level : EntOk e__law_level := ⟨⟨rfl, rfl, rfl, by decide +kernel, rfl, by decide +kernel, by decide +kernel⟩, rfl, rfl, fun _ _ _ _ _ _ us hl => match us, hl with | [_], _ => rfl⟩
theorem b__law_level {mg : Str → Option Value} (gv : GvOk mg) : BodyOk lib tab mg e__law_level := by
  obtain ⟨t_MOST_MEMBERS, g_MOST_MEMBERS⟩ := gv
  intro P w K base k fr F f cd A outer s H E co hr
  exact (zs_cons (zs_ret (se_mul (se_tup (sa_cons se_int sa_nil)) (se_var 0)))
    zs_nil)
theorem k__law_turned : EntOk e__law_turned := ⟨⟨rfl, rfl, rfl, by decide +kernel, rfl, by decide +kernel, by decide +kernel⟩, rfl, rfl, fun _ _ _ _ _ _ us hl => match us, hl with | [_], _ => rfl⟩
theorem b__law_turned {mg : Str → Option Value} (gv : GvOk mg) : BodyOk lib tab mg e__law_turned := by
  obtain ⟨t_MOST_MEMBERS, g_MOST_MEMBERS⟩ := gv
  intro P w K base k fr F f cd A outer s H E co hr
  exact (zs_cons (zs_ret (se_biT cb_tuple (fr.all "tuple" (by decide)) (by first | rfl | decide) (se_comp (own := [("a", 1)]) (tgI := [1]) co (si_seq (se_var 0)) (blkOk_by rfl) (tg_name 1) (by decide) (fun _ _ _ _ _ => (pg_name co.nd (i := 1) rfl (by first | exact Or.inl rfl | exact Or.inr rfl))) (fun _ _ _ _ _ c1 => sts_nil) (fun _ _ _ _ _ c1 => (se_neg (se_var 1))))))
    zs_nil)
theorem k__law_in_rows : EntOk e__law_in_rows := ⟨⟨rfl, rfl, rfl, by decide +kernel, rfl, by decide +kernel, by decide +kernel⟩, rfl, rfl, fun _ _ _ _ _ _ us hl => match us, hl with | [_], _ => rfl⟩
theorem b__law_in_rows {mg : Str → Option Value} (gv : GvOk mg) : BodyOk lib tab mg e__law_in_rows := by
  obtain ⟨t_MOST_MEMBERS, g_MOST_MEMBERS⟩ := gv
  intro P w K base k fr F f cd A outer s H E co hr
  exact (zs_cons (zs_ret (se_biT cb_tuple (fr.all "tuple" (by decide)) (by first | rfl | decide) (se_sdict co (fr.all "sorted" (by decide)) (fr.all "dict" (by decide)) (se_comp (own := [("row", 1)]) (tgI := [1]) co (si_seq (se_var 0)) (blkOk_by rfl) (tg_name 1) (by decide) (fun _ _ _ _ _ => (pg_name co.nd (i := 1) rfl (by first | exact Or.inl rfl | exact Or.inr rfl))) (fun _ _ _ _ _ c1 => sts_nil) (fun _ _ _ _ _ c1 => (se_tup (sa_cons (se_var 1) (sa_cons se_bl sa_nil))))))))
    zs_nil)
theorem k__law_any_row : EntOk e__law_any_row := ⟨⟨rfl, rfl, rfl, by decide +kernel, rfl, by decide +kernel, by decide +kernel⟩, rfl, rfl, fun _ _ _ _ _ _ us hl => match us, hl with | [_, _], _ => rfl⟩
theorem b__law_any_row {mg : Str → Option Value} (gv : GvOk mg) : BodyOk lib tab mg e__law_any_row := by
  obtain ⟨t_MOST_MEMBERS, g_MOST_MEMBERS⟩ := gv
  intro P w K base k fr F f cd A outer s H E co hr
  exact (zs_cons (zs_ret (se_biT cb_tuple (fr.all "tuple" (by decide)) (by first | rfl | decide) (se_comp (own := [("i", 2)]) (tgI := [2]) co (si_rng1 (fr.all "range" (by decide)) (sa_cons (se_var 1) sa_nil)) (blkOk_by rfl) (tg_name 2) (by decide) (fun _ _ _ _ _ => (pg_name co.nd (i := 2) rfl (by first | exact Or.inl rfl | exact Or.inr rfl))) (fun _ _ _ _ _ c1 => sts_nil) (fun _ _ _ _ _ c1 => (se_sub (se_call c1 hr (F (i__law_take) e__law_take rfl) (sa_cons (se_var 0) (sa_cons se_int sa_nil))) se_int)))))
    zs_nil)
theorem k__law_row_of : EntOk e__law_row_of := ⟨⟨rfl, rfl, rfl, by decide +kernel, rfl, by decide +kernel, by decide +kernel⟩, rfl, rfl, fun _ _ _ _ _ _ us hl => match us, hl with | [_, _], _ => rfl⟩
theorem b__law_row_of {mg : Str → Option Value} (gv : GvOk mg) : BodyOk lib tab mg e__law_row_of := by
  obtain ⟨t_MOST_MEMBERS, g_MOST_MEMBERS⟩ := gv
  intro P w K base k fr F f cd A outer s H E co hr
  exact (zs_cons (zs_ret (se_biT cb_tuple (fr.all "tuple" (by decide)) (by first | rfl | decide) (se_comp (own := [("i", 2)]) (tgI := [2]) co (si_rng1 (fr.all "range" (by decide)) (sa_cons (se_biB cb_len (fr.all "len" (by decide)) (by first | rfl | decide) (se_var 1)) sa_nil)) (blkOk_by rfl) (tg_name 2) (by decide) (fun _ _ _ _ _ => (pg_name co.nd (i := 2) rfl (by first | exact Or.inl rfl | exact Or.inr rfl))) (fun _ _ _ _ _ c1 => sts_nil) (fun _ _ _ _ _ c1 => (se_sub (se_biT cb_int (fr.all "int" (by decide)) (by first | rfl | decide) (se_cmp .gt c1 (se_idx (se_var 0) (se_var 2)) (se_idx (se_var 1) (se_var 2)))) (se_biT cb_int (fr.all "int" (by decide)) (by first | rfl | decide) (se_cmp .lt c1 (se_idx (se_var 0) (se_var 2)) (se_idx (se_var 1) (se_var 2)))))))))
    zs_nil)
theorem k__law_any_motion : EntOk e__law_any_motion := ⟨⟨rfl, rfl, rfl, by decide +kernel, rfl, by decide +kernel, by decide +kernel⟩, rfl, rfl, fun _ _ _ _ _ _ us hl => match us, hl with | [_, _], _ => rfl⟩
theorem b__law_any_motion {mg : Str → Option Value} (gv : GvOk mg) : BodyOk lib tab mg e__law_any_motion := by
  obtain ⟨t_MOST_MEMBERS, g_MOST_MEMBERS⟩ := gv
  intro P w K base k fr F f cd A outer s H E co hr
  exact (zs_cons (zs_asg (i := 2) co (se_call co hr (F (i__law_one) e__law_one rfl) (sa_cons (se_var 0) (sa_cons (se_lst (sa_cons se_int (sa_cons se_int (sa_cons se_int (sa_cons se_int (sa_cons (se_pow se_int se_int) sa_nil)))))) sa_nil))))
    (zs_cons (zs_ret (se_biT cb_tuple (fr.all "tuple" (by decide)) (by first | rfl | decide) (se_comp (own := [("i", 3)]) (tgI := [3]) co (si_rng1 (fr.all "range" (by decide)) (sa_cons (se_var 1) sa_nil)) (blkOk_by rfl) (tg_name 3) (by decide) (fun _ _ _ _ _ => (pg_name co.nd (i := 3) rfl (by first | exact Or.inl rfl | exact Or.inr rfl))) (fun _ _ _ _ _ c1 => sts_nil) (fun _ _ _ _ _ c1 => (se_sub (se_call c1 hr (F (i__law_take) e__law_take rfl) (sa_cons (se_var 0) (sa_cons (se_var 2) sa_nil))) (se_fdiv (se_var 2) se_int))))))
    zs_nil))
theorem k__law_near_motion : EntOk e__law_near_motion := ⟨⟨rfl, rfl, rfl, by decide +kernel, rfl, by decide +kernel, by decide +kernel⟩, rfl, rfl, fun _ _ _ _ _ _ us hl => match us, hl with | [_, _], _ => rfl⟩
theorem b__law_near_motion {mg : Str → Option Value} (gv : GvOk mg) : BodyOk lib tab mg e__law_near_motion := by
  obtain ⟨t_MOST_MEMBERS, g_MOST_MEMBERS⟩ := gv
  intro P w K base k fr F f cd A outer s H E co hr
  exact (zs_cons (zs_asg (i := 2) co (se_biT cb_list (fr.all "list" (by decide)) (by first | rfl | decide) (se_var 1)))
    (zs_cons (zs_for (wp := [3, 4]) co (si_rng1 (fr.all "range" (by decide)) (sa_cons (se_add se_int (se_call co hr (F (i__law_take) e__law_take rfl) (sa_cons (se_var 0) (sa_cons se_int sa_nil)))) sa_nil)) (pg_name co.nd (i := 3) rfl (by first | exact Or.inl rfl | exact Or.inr rfl)) (tg_name 3) (zs_cons (zs_asg (i := 4) co (se_call co hr (F (i__law_take) e__law_take rfl) (sa_cons (se_var 0) (sa_cons (se_biB cb_len (fr.all "len" (by decide)) (by first | rfl | decide) (se_var 1)) sa_nil))))
    (zs_cons (zs_sub co (se_add (se_idx (se_var 2) (se_var 4)) (se_call co hr (F (i__law_one) e__law_one rfl) (sa_cons (se_var 0) (sa_cons (se_lst (sa_cons (se_neg se_int) (sa_cons (se_neg se_int) (sa_cons se_int (sa_cons se_int sa_nil))))) sa_nil)))) (se_var 2) (se_var 4))
    zs_nil)))
    (zs_cons (zs_ret (se_biT cb_tuple (fr.all "tuple" (by decide)) (by first | rfl | decide) (se_var 2)))
    zs_nil)))
theorem k__law_tried : EntOk e__law_tried := ⟨⟨rfl, rfl, rfl, by decide +kernel, rfl, by decide +kernel, by decide +kernel⟩, rfl, rfl, fun _ _ _ _ _ _ us hl => match us, hl with | [_, _], _ => rfl⟩
theorem b__law_tried {mg : Str → Option Value} (gv : GvOk mg) : BodyOk lib tab mg e__law_tried := by
  obtain ⟨t_MOST_MEMBERS, g_MOST_MEMBERS⟩ := gv
  intro P w K base k fr F f cd A outer s H E co hr
  exact (zs_cons (zs_asg (i := 2) co (se_lst sa_nil))
    (zs_cons (zs_for (wp := [3, 4, 5]) co (si_rng2 (fr.all "range" (by decide)) (sa_cons (se_neg se_int) (sa_cons se_int sa_nil))) (pg_name co.nd (i := 3) rfl (by first | exact Or.inl rfl | exact Or.inr rfl)) (tg_name 3) (zs_cons (zs_for (wp := []) co (si_rng2 (fr.all "range" (by decide)) (sa_cons (se_neg se_int) (sa_cons se_int sa_nil))) (pg_name co.nd (i := 4) rfl (by first | exact Or.inl rfl | exact Or.inr rfl)) (tg_name 4) (zs_cons (zs_asg (i := 5) co (se_idx (se_call co hr (F (i__law_row_of) e__law_row_of rfl) (sa_cons (se_tup (sa_cons (se_var 4) sa_nil)) (sa_cons (se_tup (sa_cons se_int sa_nil)) sa_nil))) se_int))
    (zs_cons (zs_if (st_w (sw_and (st_cmp .eq co (se_call co hr (F (i__law_row_of) e__law_row_of rfl) (sa_cons (se_tup (sa_cons (se_var 3) sa_nil)) (sa_cons (se_tup (sa_cons se_int sa_nil)) sa_nil))) (se_tup (sa_cons (se_var 0) sa_nil))) (sw_and (st_cmp .eq co (se_call co hr (F (i__law_row_of) e__law_row_of rfl) (sa_cons (se_tup (sa_cons (se_var 4) sa_nil)) (sa_cons (se_tup (sa_cons (se_var 3) sa_nil)) sa_nil))) (se_tup (sa_cons (se_var 1) sa_nil))) (sw_and1 (st_cmp .nin co (se_var 5) (se_var 2)))))) (zs_cons (zs_expr (se_appendM co (se_var 2) (se_var 5)))
    zs_nil)
    zs_nil)
    zs_nil)))
    zs_nil))
    (zs_cons (zs_ret (se_biB (cb_sorted co) (fr.all "sorted" (by decide)) (by first | rfl | decide) (se_var 2)))
    zs_nil)))
theorem k__law_tried_sums : EntOk e__law_tried_sums := ⟨⟨rfl, rfl, rfl, by decide +kernel, rfl, by decide +kernel, by decide +kernel⟩, rfl, rfl, fun _ _ _ _ _ _ us hl => match us, hl with | [_, _], _ => rfl⟩
theorem b__law_tried_sums {mg : Str → Option Value} (gv : GvOk mg) : BodyOk lib tab mg e__law_tried_sums := by
  obtain ⟨t_MOST_MEMBERS, g_MOST_MEMBERS⟩ := gv
  intro P w K base k fr F f cd A outer s H E co hr
  exact (zs_cons (zs_asg (i := 2) co (se_lst (sa_cons (se_tup sa_nil) sa_nil)))
    (zs_cons (zs_for (wp := [3, 4, 5, 6]) co (si_rng1 (fr.all "range" (by decide)) (sa_cons (se_biB cb_len (fr.all "len" (by decide)) (by first | rfl | decide) (se_var 0)) sa_nil)) (pg_name co.nd (i := 3) rfl (by first | exact Or.inl rfl | exact Or.inr rfl)) (tg_name 3) (zs_cons (zs_par2 (i := 4) (j := 5) co (sa_cons (se_lst sa_nil) (sa_cons (se_call co hr (F (i__law_tried) e__law_tried rfl) (sa_cons (se_idx (se_var 0) (se_var 3)) (sa_cons (se_idx (se_var 1) (se_var 3)) sa_nil))) sa_nil)))
    (zs_cons (zs_for (wp := []) co (si_seq (se_var 2)) (pg_name co.nd (i := 6) rfl (by first | exact Or.inl rfl | exact Or.inr rfl)) (tg_name 6) (zs_cons (zs_expr (se_extendM co (se_var 4) (se_comp (own := [("c", 7)]) (tgI := [7]) co (si_seq (se_var 5)) (blkOk_by rfl) (tg_name 7) (by decide) (fun _ _ _ _ _ => (pg_name co.nd (i := 7) rfl (by first | exact Or.inl rfl | exact Or.inr rfl))) (fun _ _ _ _ _ c1 => sts_nil) (fun _ _ _ _ _ c1 => (se_add (se_var 6) (se_tup (sa_cons (se_var 7) sa_nil)))))))
    zs_nil))
    (zs_cons (zs_asg (i := 2) co (se_var 4))
    zs_nil))))
    (zs_cons (zs_ret (se_biT cb_tuple (fr.all "tuple" (by decide)) (by first | rfl | decide) (se_var 2)))
    zs_nil)))
theorem k__law_other_row : EntOk e__law_other_row := ⟨⟨rfl, rfl, rfl, by decide +kernel, rfl, by decide +kernel, by decide +kernel⟩, rfl, rfl, fun _ _ _ _ _ _ us hl => match us, hl with | [_, _, _], _ => rfl⟩
theorem b__law_other_row {mg : Str → Option Value} (gv : GvOk mg) : BodyOk lib tab mg e__law_other_row := by
  obtain ⟨t_MOST_MEMBERS, g_MOST_MEMBERS⟩ := gv
  intro P w K base k fr F f cd A outer s H E co hr
  exact (zs_cons (zs_par2 (i := 3) (j := 4) co (sa_cons (se_call co hr (F (i__law_take) e__law_take rfl) (sa_cons (se_var 0) (sa_cons se_int sa_nil))) (sa_cons (se_call co hr (F (i__law_take) e__law_take rfl) (sa_cons (se_var 0) (sa_cons (se_var 1) sa_nil))) sa_nil)))
    (zs_cons (zs_if (st_cmp .lt co (se_var 3) se_int) (zs_cons (zs_ret (se_call co hr (F (i__law_any_row) e__law_any_row rfl) (sa_cons (se_var 0) (sa_cons (se_var 1) sa_nil))))
    zs_nil)
    zs_nil)
    (zs_cons (zs_if (st_cmp .eq co (se_var 3) se_int) (zs_cons (zs_ret (se_call co hr (F (i__law_level) e__law_level rfl) (sa_cons (se_var 1) sa_nil)))
    zs_nil)
    zs_nil)
    (zs_cons (zs_if (st_cmp .eq co (se_var 3) se_int) (zs_cons (zs_ret (se_var 2))
    zs_nil)
    zs_nil)
    (zs_cons (zs_asg (i := 5) co (se_ife (st_cmp .lt co (se_var 3) se_int) (se_call co hr (F (i__law_turned) e__law_turned rfl) (sa_cons (se_var 2) sa_nil)) (se_var 2)))
    (zs_cons (zs_ret (se_ife (st_cmp .eq co (se_var 3) se_int) (se_var 5) (se_add (se_add (se_slice (se_var 5) so_none (so_some (se_var 4))) (se_tup (sa_cons (se_sub (se_call co hr (F (i__law_take) e__law_take rfl) (sa_cons (se_var 0) (sa_cons se_int sa_nil))) se_int) sa_nil))) (se_slice (se_var 5) (so_some (se_add (se_var 4) se_int)) so_none))))
    zs_nil))))))
theorem k__law_two_right : EntOk e__law_two_right := ⟨⟨rfl, rfl, rfl, by decide +kernel, rfl, by decide +kernel, by decide +kernel⟩, rfl, rfl, fun _ _ _ _ _ _ us hl => match us, hl with | [_, _, _], _ => rfl⟩
theorem b__law_two_right {mg : Str → Option Value} (gv : GvOk mg) : BodyOk lib tab mg e__law_two_right := by
  obtain ⟨t_MOST_MEMBERS, g_MOST_MEMBERS⟩ := gv
  intro P w K base k fr F f cd A outer s H E co hr
  exact (zs_cons (zs_asg (i := 3) co (se_call co hr (F (i__law_tried_sums) e__law_tried_sums rfl) (sa_cons (se_var 1) (sa_cons (se_var 2) sa_nil))))
    (zs_cons (zs_if (st_w (sw_or (st_cmp .ne co (se_biB (cb_repr co) (fr.all "repr" (by decide)) (by first | rfl | decide) (se_call co hr (F (i_sums) e_sums rfl) (sa_cons (se_var 1) (sa_cons (se_var 2) sa_nil)))) (se_biB (cb_repr co) (fr.all "repr" (by decide)) (by first | rfl | decide) (se_var 3))) (sw_or1 (st_cmp .ne co (se_biB (cb_repr co) (fr.all "repr" (by decide)) (by first | rfl | decide) (se_call co hr (F (i_sums) e_sums rfl) (sa_cons (se_var 2) (sa_cons (se_var 1) sa_nil)))) (se_biB (cb_repr co) (fr.all "repr" (by decide)) (by first | rfl | decide) (se_var 3)))))) (zs_cons (zs_ret se_bl)
    zs_nil)
    zs_nil)
    (zs_cons (zs_if (st_cmp .ne co (se_biB (cb_repr co) (fr.all "repr" (by decide)) (by first | rfl | decide) (se_call co hr (F (i_sums) e_sums rfl) (sa_cons (se_call co hr (F (i_turned) e_turned rfl) (sa_cons (se_var 2) sa_nil)) (sa_cons (se_call co hr (F (i_turned) e_turned rfl) (sa_cons (se_var 1) sa_nil)) sa_nil)))) (se_biB (cb_repr co) (fr.all "repr" (by decide)) (by first | rfl | decide) (se_biT cb_tuple (fr.all "tuple" (by decide)) (by first | rfl | decide) (se_biB (cb_sorted co) (fr.all "sorted" (by decide)) (by first | rfl | decide) (se_comp (own := [("row", 4)]) (tgI := [4]) co (si_seq (se_var 3)) (blkOk_by rfl) (tg_name 4) (by decide) (fun _ _ _ _ _ => (pg_name co.nd (i := 4) rfl (by first | exact Or.inl rfl | exact Or.inr rfl))) (fun _ _ _ _ _ c1 => sts_nil) (fun _ _ _ _ _ c1 => (se_call c1 hr (F (i__law_turned) e__law_turned rfl) (sa_cons (se_var 4) sa_nil)))))))) (zs_cons (zs_ret se_bl)
    zs_nil)
    zs_nil)
    (zs_cons (zs_if (st_cmp .ne co (se_cmp .in_ co (se_call co hr (F (i_level) e_level rfl) (sa_cons (se_var 0) sa_nil)) (se_call co hr (F (i_sums) e_sums rfl) (sa_cons (se_var 1) (sa_cons (se_var 2) sa_nil)))) (se_cmp .eq co (se_var 2) (se_call co hr (F (i__law_turned) e__law_turned rfl) (sa_cons (se_var 1) sa_nil)))) (zs_cons (zs_ret se_bl)
    zs_nil)
    zs_nil)
    (zs_cons (zs_ret (se_and (se_cmp .eq co (se_biB (cb_repr co) (fr.all "repr" (by decide)) (by first | rfl | decide) (se_call co hr (F (i_sums) e_sums rfl) (sa_cons (se_var 1) (sa_cons (se_var 1) sa_nil)))) (se_biB (cb_repr co) (fr.all "repr" (by decide)) (by first | rfl | decide) (se_tup (sa_cons (se_var 1) sa_nil)))) (se_one (se_cmp .eq co (se_biB (cb_repr co) (fr.all "repr" (by decide)) (by first | rfl | decide) (se_call co hr (F (i_sums) e_sums rfl) (sa_cons (se_var 2) (sa_cons (se_call co hr (F (i_level) e_level rfl) (sa_cons (se_var 0) sa_nil)) sa_nil)))) (se_biB (cb_repr co) (fr.all "repr" (by decide)) (by first | rfl | decide) (se_tup (sa_cons (se_var 2) sa_nil)))))))
    zs_nil)))))
theorem k__law_behind : EntOk e__law_behind := ⟨⟨rfl, rfl, rfl, by decide +kernel, rfl, by decide +kernel, by decide +kernel⟩, rfl, rfl, fun _ _ _ _ _ _ us hl => match us, hl with | [_, _], _ => rfl⟩
theorem b__law_behind {mg : Str → Option Value} (gv : GvOk mg) : BodyOk lib tab mg e__law_behind := by
  obtain ⟨t_MOST_MEMBERS, g_MOST_MEMBERS⟩ := gv
  intro P w K base k fr F f cd A outer s H E co hr
  exact (zs_cons (zs_asg (i := 2) co (se_lst sa_nil))
    (zs_cons (zs_for (wp := [3]) co (si_seq (se_var 0)) (pg_name co.nd (i := 3) rfl (by first | exact Or.inl rfl | exact Or.inr rfl)) (tg_name 3) (zs_cons (zs_expr (se_extendM co (se_var 2) (se_call co hr (F (i_sums) e_sums rfl) (sa_cons (se_var 3) (sa_cons (se_var 1) sa_nil)))))
    zs_nil))
    (zs_cons (zs_ret (se_call co hr (F (i__law_in_rows) e__law_in_rows rfl) (sa_cons (se_var 2) sa_nil)))
    zs_nil)))
theorem k__law_ahead : EntOk e__law_ahead := ⟨⟨rfl, rfl, rfl, by decide +kernel, rfl, by decide +kernel, by decide +kernel⟩, rfl, rfl, fun _ _ _ _ _ _ us hl => match us, hl with | [_, _], _ => rfl⟩
theorem b__law_ahead {mg : Str → Option Value} (gv : GvOk mg) : BodyOk lib tab mg e__law_ahead := by
  obtain ⟨t_MOST_MEMBERS, g_MOST_MEMBERS⟩ := gv
  intro P w K base k fr F f cd A outer s H E co hr
  exact (zs_cons (zs_asg (i := 2) co (se_lst sa_nil))
    (zs_cons (zs_for (wp := [3]) co (si_seq (se_var 1)) (pg_name co.nd (i := 3) rfl (by first | exact Or.inl rfl | exact Or.inr rfl)) (tg_name 3) (zs_cons (zs_expr (se_extendM co (se_var 2) (se_call co hr (F (i_sums) e_sums rfl) (sa_cons (se_var 0) (sa_cons (se_var 3) sa_nil)))))
    zs_nil))
    (zs_cons (zs_ret (se_call co hr (F (i__law_in_rows) e__law_in_rows rfl) (sa_cons (se_var 2) sa_nil)))
    zs_nil)))
theorem k__law_three_right : EntOk e__law_three_right := ⟨⟨rfl, rfl, rfl, by decide +kernel, rfl, by decide +kernel, by decide +kernel⟩, rfl, rfl, fun _ _ _ _ _ _ us hl => match us, hl with | [_, _, _], _ => rfl⟩
theorem b__law_three_right {mg : Str → Option Value} (gv : GvOk mg) : BodyOk lib tab mg e__law_three_right := by
  obtain ⟨t_MOST_MEMBERS, g_MOST_MEMBERS⟩ := gv
  intro P w K base k fr F f cd A outer s H E co hr
  exact (zs_cons (zs_ret (se_cmp .eq co (se_call co hr (F (i__law_behind) e__law_behind rfl) (sa_cons (se_call co hr (F (i_sums) e_sums rfl) (sa_cons (se_var 0) (sa_cons (se_var 1) sa_nil))) (sa_cons (se_var 2) sa_nil))) (se_call co hr (F (i__law_ahead) e__law_ahead rfl) (sa_cons (se_var 0) (sa_cons (se_call co hr (F (i_sums) e_sums rfl) (sa_cons (se_var 1) (sa_cons (se_var 2) sa_nil))) sa_nil)))))
    zs_nil)
theorem k__law_tale_right : EntOk e__law_tale_right := ⟨⟨rfl, rfl, rfl, by decide +kernel, rfl, by decide +kernel, by decide +kernel⟩, rfl, rfl, fun _ _ _ _ _ _ us hl => match us, hl with | [_, _, _], _ => rfl⟩
theorem b__law_tale_right {mg : Str → Option Value} (gv : GvOk mg) : BodyOk lib tab mg e__law_tale_right := by
  obtain ⟨t_MOST_MEMBERS, g_MOST_MEMBERS⟩ := gv
  intro P w K base k fr F f cd A outer s H E co hr
  exact (zs_cons (zs_par3 (i := 3) (j := 4) (l := 5) co (sa_cons (se_call co hr (F (i_row_of) e_row_of rfl) (sa_cons (se_var 1) (sa_cons (se_var 0) sa_nil))) (sa_cons (se_call co hr (F (i_row_of) e_row_of rfl) (sa_cons (se_var 2) (sa_cons (se_var 1) sa_nil))) (sa_cons (se_call co hr (F (i__law_row_of) e__law_row_of rfl) (sa_cons (se_var 2) (sa_cons (se_var 0) sa_nil))) sa_nil))))
    (zs_cons (zs_asg (i := 6) co (se_biT cb_int (fr.all "int" (by decide)) (by first | rfl | decide) (se_add se_str (se_mul se_str se_int))))
    (zs_cons (zs_asgC (i := 7) (own := [("motion", 8)]) (tgI := [8]) co (si_seq (se_lst (sa_cons (se_var 2) (sa_cons (se_var 0) sa_nil)))) (blkOk_by rfl) (tg_name 8) (by decide) (fun _ _ _ _ _ => (pg_name co.nd (i := 8) rfl (by first | exact Or.inl rfl | exact Or.inr rfl))) (fun _ _ _ _ _ c1 => sts_nil) (fun _ _ _ _ _ c1 => (se_biT cb_tuple (fr.all "tuple" (by decide)) (by first | rfl | decide) (se_comp (own := [("height", 9)]) (tgI := [9]) c1 (si_seq (se_var 8)) (blkOk_by rfl) (tg_name 9) (by decide) (fun _ _ _ _ _ => (pg_name co.nd (i := 9) rfl (by first | exact Or.inl rfl | exact Or.inr rfl))) (fun _ _ _ _ _ c2 => sts_nil) (fun _ _ _ _ _ c2 => (se_mul (se_var 6) (se_var 9)))))))
    (zs_cons (zs_if (st_w (sw_or (st_cmp .ne co (se_biB (cb_repr co) (fr.all "repr" (by decide)) (by first | rfl | decide) (se_callK0 (p := [1, 0]) ["old", "new"] co hr (F (i_row_of) e_row_of rfl) (kx_cons (se_idx (se_var 7) se_int) (kx_cons (se_idx (se_var 7) se_int) kx_nil)) (fun _ _ _ _ _ _ us ws zs h1 h2 h3 => match us, ws, h1, h2, h3 with | [], [b0, b1], _, _, h3 => Option.some.inj h3 ▸ rfl))) (se_biB (cb_repr co) (fr.all "repr" (by decide)) (by first | rfl | decide) (se_var 5))) (sw_or1 (st_cmp .ne co (se_biB (cb_repr co) (fr.all "repr" (by decide)) (by first | rfl | decide) (se_call co hr (F (i_row_of) e_row_of rfl) (sa_cons (se_var 2) (sa_cons (se_var 0) sa_nil)))) (se_biB (cb_repr co) (fr.all "repr" (by decide)) (by first | rfl | decide) (se_var 5)))))) (zs_cons (zs_ret se_bl)
    zs_nil)
    zs_nil)
    (zs_cons (zs_ret (se_cmp .in_ co (se_var 5) (se_callK0 (p := [1, 0]) ["two", "one"] co hr (F (i_sums) e_sums rfl) (kx_cons (se_var 4) (kx_cons (se_var 3) kx_nil)) (fun _ _ _ _ _ _ us ws zs h1 h2 h3 => match us, ws, h1, h2, h3 with | [], [b0, b1], _, _, h3 => Option.some.inj h3 ▸ rfl))))
    zs_nil)))))
theorem k_law : EntOk e_law := ⟨⟨rfl, rfl, rfl, by decide +kernel, rfl, by decide +kernel, by decide +kernel⟩, rfl, rfl, fun _ _ _ _ _ _ us hl => match us, hl with | [_], _ => rfl⟩
theorem b_law {mg : Str → Option Value} (gv : GvOk mg) : BodyOk lib tab mg e_law := by
  obtain ⟨t_MOST_MEMBERS, g_MOST_MEMBERS⟩ := gv
  intro P w K base k fr F f cd A outer s H E co hr
  exact (zs_cons (zs_asg (i := 1) co (se_call co hr (F (i__law_pool) e__law_pool rfl) (sa_cons (se_var 0) (sa_cons se_int sa_nil))))
    (zs_cons (zs_asg (i := 2) co (se_call co hr (F (i__law_one) e__law_one rfl) (sa_cons (se_var 1) (sa_cons (se_lst (sa_cons se_int (sa_cons se_int (sa_cons se_int (sa_cons se_int (sa_cons se_int (sa_cons se_int (sa_cons se_int (sa_cons se_int (sa_cons se_int sa_nil)))))))))) sa_nil))))
    (zs_cons (zs_for (wp := [3, 4, 5, 6, 7, 8, 9]) co (si_rng1 (fr.all "range" (by decide)) (sa_cons se_int sa_nil)) (pg_name co.nd (i := 3) rfl (by first | exact Or.inl rfl | exact Or.inr rfl)) (tg_name 3) (zs_cons (zs_asg (i := 4) co (se_call co hr (F (i__law_any_row) e__law_any_row rfl) (sa_cons (se_var 1) (sa_cons (se_var 2) sa_nil))))
    (zs_cons (zs_asg (i := 5) co (se_call co hr (F (i__law_other_row) e__law_other_row rfl) (sa_cons (se_var 1) (sa_cons (se_var 2) (sa_cons (se_var 4) sa_nil)))))
    (zs_cons (zs_asg (i := 6) co (se_call co hr (F (i__law_other_row) e__law_other_row rfl) (sa_cons (se_var 1) (sa_cons (se_var 2) (sa_cons (se_var 4) sa_nil)))))
    (zs_cons (zs_if (st_w (sw_or (st_not (st_val rfl (se_call co hr (F (i__law_two_right) e__law_two_right rfl) (sa_cons (se_var 2) (sa_cons (se_var 4) (sa_cons (se_var 5) sa_nil)))))) (sw_or1 (st_not (st_val rfl (se_call co hr (F (i__law_two_right) e__law_two_right rfl) (sa_cons (se_var 2) (sa_cons (se_var 5) (sa_cons (se_var 6) sa_nil))))))))) (zs_cons (zs_ret se_bl)
    zs_nil)
    zs_nil)
    (zs_cons (zs_if (st_not (st_val rfl (se_call co hr (F (i__law_three_right) e__law_three_right rfl) (sa_cons (se_slice (se_var 4) so_none (so_some se_int)) (sa_cons (se_slice (se_var 5) so_none (so_some se_int)) (sa_cons (se_slice (se_var 6) so_none (so_some se_int)) sa_nil)))))) (zs_cons (zs_ret se_bl)
    zs_nil)
    zs_nil)
    (zs_cons (zs_asg (i := 7) co (se_call co hr (F (i__law_any_motion) e__law_any_motion rfl) (sa_cons (se_var 1) (sa_cons (se_var 2) sa_nil))))
    (zs_cons (zs_asg (i := 8) co (se_call co hr (F (i__law_near_motion) e__law_near_motion rfl) (sa_cons (se_var 1) (sa_cons (se_var 7) sa_nil))))
    (zs_cons (zs_asg (i := 9) co (se_ife (st_cmp .eq co (se_call co hr (F (i__law_take) e__law_take rfl) (sa_cons (se_var 1) (sa_cons se_int sa_nil))) se_int) (se_call co hr (F (i__law_any_motion) e__law_any_motion rfl) (sa_cons (se_var 1) (sa_cons (se_var 2) sa_nil))) (se_call co hr (F (i__law_near_motion) e__law_near_motion rfl) (sa_cons (se_var 1) (sa_cons (se_var 8) sa_nil)))))
    (zs_cons (zs_if (st_w (sw_or (st_not (st_val rfl (se_call co hr (F (i__law_tale_right) e__law_tale_right rfl) (sa_cons (se_var 7) (sa_cons (se_var 8) (sa_cons (se_var 9) sa_nil)))))) (sw_or1 (st_not (st_val rfl (se_call co hr (F (i__law_tale_right) e__law_tale_right rfl) (sa_cons (se_var 9) (sa_cons (se_var 7) (sa_cons (se_var 8) sa_nil))))))))) (zs_cons (zs_ret se_bl)
    zs_nil)
    zs_nil)
    zs_nil))))))))))
    (zs_cons (zs_ret se_bl)
    zs_nil))))
theorem all_ok {mg : Str → Option Value} (gv : GvOk mg) : AllB lib tab mg tab := .cons k_is_between rfl (b_is_between gv) (.cons k_is_many rfl (b_is_many gv) (.cons k_made_many rfl (b_made_many gv) (.cons k_level rfl (b_level gv) (.cons k_turned rfl (b_turned gv) (.cons k_numbers_of rfl (b_numbers_of gv) (.cons k_sums rfl (b_sums gv) (.cons k_sign_of rfl (b_sign_of gv) (.cons k_row_of rfl (b_row_of gv) (.cons k__law_pool rfl (b__law_pool gv) (.cons k__law_take rfl (b__law_take gv) (.cons k__law_one rfl (b__law_one gv) (.cons k__law_level rfl (b__law_level gv) (.cons k__law_turned rfl (b__law_turned gv) (.cons k__law_in_rows rfl (b__law_in_rows gv) (.cons k__law_any_row rfl (b__law_any_row gv) (.cons k__law_row_of rfl (b__law_row_of gv) (.cons k__law_any_motion rfl (b__law_any_motion gv) (.cons k__law_near_motion rfl (b__law_near_motion gv) (.cons k__law_tried rfl (b__law_tried gv) (.cons k__law_tried_sums rfl (b__law_tried_sums gv) (.cons k__law_other_row rfl (b__law_other_row gv) (.cons k__law_two_right rfl (b__law_two_right gv) (.cons k__law_behind rfl (b__law_behind gv) (.cons k__law_ahead rfl (b__law_ahead gv) (.cons k__law_three_right rfl (b__law_three_right gv) (.cons k__law_tale_right rfl (b__law_tale_right gv) (.cons k_law rfl (b_law gv) (.nil))))))))))))))))))))))))))))
end
end EV
end

section
set_option Elab.async false
set_option linter.all false
set_option maxRecDepth 100000
set_option maxHeartbeats 0
namespace EV
open PySem PySem.Spec PyProof.Rows
def more : List He.Fa := [.int "MOST_MEMBERS" 6]
theorem gv_of (K : PySem.W.Frag) (h : Heap) (mg : Str → Option Value) (X : K.In h) (G : h.Ns mainGlobals mg) (c : ∀ f ∈ more, f.ok K = true) : GvOk mg := He.int_ok X G (c (.int "MOST_MEMBERS" 6) (by simp [more]))
abbrev rowO : PySem.W.OpenRow := PySem.W.OpenLaw.row PySem.Challenge.rw_roundorlist_k01_sums_of_rows_beside_trie
def fnD : List He.DefD := tab.map Ent.dd
def faD : List He.Fa := facts tab more
abbrev hkD : PySem.W.Hook := He.hookD 4 faD fnD
def obD (s : PySem.W.SharedT) : He.AlD := He.obsDG 4 faD fnD (HandSHeadRun.getT s)
theorem obD_eq (s : PySem.W.SharedT) : obD s = hkD.obs s.abs := He.obsDG_eq (HandSHeadRun.getT_eq s)
def looseD : List Str := ["Refused", "BadMany", "MOST_MEMBERS", "is_between", "is_many", "made_many", "level", "turned", "numbers_of", "sums", "sign_of", "row_of", "_law_pool", "_law_take", "_law_one", "_law_level", "_law_turned", "_law_in_rows", "_law_any_row", "_law_row_of", "_law_any_motion", "_law_near_motion", "_law_tried", "_law_tried_sums", "_law_other_row", "_law_two_right", "_law_behind", "_law_ahead", "_law_three_right", "_law_tale_right"]
theorem runD (w : World) : HandSHeadRun.RunEq rowO (PySem.W.view rowO.prog [34]) hkD obD 4000 looseD w := by
  intro os
  kernel_rfl
end EV
end

section
set_option Elab.async false
set_option linter.all false
set_option maxRecDepth 100000
namespace EV
open PySem
theorem gv_MOST : lib.gv gMOST_MEMBERS = some (.int 6) := rfl
def sgn (i : Int) : Int := if i = 0 then 0 else if 0 < i then 1 else -1
theorem m_sign_of (k : Nat) (h : Hs) (i : Int) : callK lib (k + 1) i_sign_of [.d (.int i)] h = .ok (.d (.int (sgn i))) h := by
  rw [ck (T := lib) (fn := f_sign_of) rfl rfl]
  unfold sgn
  by_cases h0 : i = 0
  · simp [List.take_succ_cons, seqItr_tup, seqItr_tmp, seqItr_ro, items_tup, items_tmp, items_ro, callD, startR, List.map_cons, List.map_nil, List.length_cons, List.length_nil, Nat.sub_self, Nat.reduceSub, Nat.reduceAdd, List.replicate, List.append_nil, List.cons_append, List.nil_append, get0, getS, R.bind, R.on, RS.seq, truth_bl, nextO, stV, alloc, setVars, setTg, List.set_cons_zero, List.set_cons_succ, wipe, biU, bi1, bi2, perm, R.opt, fin_ret, fin_next, retU_d, retU_tmp, retU_ro, take_len, add_int, sub_int, bin_add, bin_mul, cmp_eq_int, cmp_ne_int, cmp_lt_int, cmp_le_int, cmp_gt_int, cmp_ge_int, cmp_eq_bl, cmp_ne_bl, negR, notR, onBl, onBlO, tupR, lstR, datas, Option.map_some, gvR, Lib.at, dv_var, dv_non, dv_bl, dv_int, dv_str, dv_gv, dv_bin, dv_neg, dv_cmp, dv_cmp2, dv_and, dv_or, dv_not, dv_ife, dv_tup, dv_lst, dv_idx, dv_slice, dv_call, dv_bi1, dv_bi2, dv_meth, dv_sdict, dt_and, dt_or, dt_not, dt_var, dt_bl, dt_cmp, dt_cmp2, dt_call, dt_bi, dt_idx, dt_bin, dt_ife, dq_var, dq_call, dq_bi, dq_idx, dq_bin, dq_ife, dq_int, dq_neg, dq_absent, di_var, di_call, di_bi, di_idx, di_bin, di_ife, di_lst, di_tup, di_slice, di_comp, di_rng1, di_rng2, di_enum, di_zip, ds_asg, ds_asgT, ds_par, ds_sub, ds_aug, ds_expr, ds_ret, ds_retN, ds_pass, ds_brk, ds_cont, ds_ife, dss_nil, dss_cons, dns_nil, dns_cons, evs_nil, evs_cons, f_sign_of, s_sign_of, h0]
  · by_cases h1 : 0 < i <;> simp [List.take_succ_cons, seqItr_tup, seqItr_tmp, seqItr_ro, items_tup, items_tmp, items_ro, callD, startR, List.map_cons, List.map_nil, List.length_cons, List.length_nil, Nat.sub_self, Nat.reduceSub, Nat.reduceAdd, List.replicate, List.append_nil, List.cons_append, List.nil_append, get0, getS, R.bind, R.on, RS.seq, truth_bl, nextO, stV, alloc, setVars, setTg, List.set_cons_zero, List.set_cons_succ, wipe, biU, bi1, bi2, perm, R.opt, fin_ret, fin_next, retU_d, retU_tmp, retU_ro, take_len, add_int, sub_int, bin_add, bin_mul, cmp_eq_int, cmp_ne_int, cmp_lt_int, cmp_le_int, cmp_gt_int, cmp_ge_int, cmp_eq_bl, cmp_ne_bl, negR, notR, onBl, onBlO, tupR, lstR, datas, Option.map_some, gvR, Lib.at, dv_var, dv_non, dv_bl, dv_int, dv_str, dv_gv, dv_bin, dv_neg, dv_cmp, dv_cmp2, dv_and, dv_or, dv_not, dv_ife, dv_tup, dv_lst, dv_idx, dv_slice, dv_call, dv_bi1, dv_bi2, dv_meth, dv_sdict, dt_and, dt_or, dt_not, dt_var, dt_bl, dt_cmp, dt_cmp2, dt_call, dt_bi, dt_idx, dt_bin, dt_ife, dq_var, dq_call, dq_bi, dq_idx, dq_bin, dq_ife, dq_int, dq_neg, dq_absent, di_var, di_call, di_bi, di_idx, di_bin, di_ife, di_lst, di_tup, di_slice, di_comp, di_rng1, di_rng2, di_enum, di_zip, ds_asg, ds_asgT, ds_par, ds_sub, ds_aug, ds_expr, ds_ret, ds_retN, ds_pass, ds_brk, ds_cont, ds_ife, dss_nil, dss_cons, dns_nil, dns_cons, evs_nil, evs_cons, f_sign_of, s_sign_of, h0, h1]
theorem m_is_between (k : Nat) (h : Hs) (i a b : Int) : callK lib (k + 1) i_is_between [.d (.int i), .d (.int a), .d (.int b)] h = .ok (.d (.bl (decide (a ≤ i ∧ i ≤ b)))) h := by
  rw [ck (T := lib) (fn := f_is_between) rfl rfl]
  by_cases h0 : a ≤ i
  · simp [List.take_succ_cons, seqItr_tup, seqItr_tmp, seqItr_ro, items_tup, items_tmp, items_ro, callD, startR, List.map_cons, List.map_nil, List.length_cons, List.length_nil, Nat.sub_self, Nat.reduceSub, Nat.reduceAdd, List.replicate, List.append_nil, List.cons_append, List.nil_append, get0, getS, R.bind, R.on, RS.seq, truth_bl, nextO, stV, alloc, setVars, setTg, List.set_cons_zero, List.set_cons_succ, wipe, biU, bi1, bi2, perm, R.opt, fin_ret, fin_next, retU_d, retU_tmp, retU_ro, take_len, add_int, sub_int, bin_add, bin_mul, cmp_eq_int, cmp_ne_int, cmp_lt_int, cmp_le_int, cmp_gt_int, cmp_ge_int, cmp_eq_bl, cmp_ne_bl, negR, notR, onBl, onBlO, tupR, lstR, datas, Option.map_some, gvR, Lib.at, dv_var, dv_non, dv_bl, dv_int, dv_str, dv_gv, dv_bin, dv_neg, dv_cmp, dv_cmp2, dv_and, dv_or, dv_not, dv_ife, dv_tup, dv_lst, dv_idx, dv_slice, dv_call, dv_bi1, dv_bi2, dv_meth, dv_sdict, dt_and, dt_or, dt_not, dt_var, dt_bl, dt_cmp, dt_cmp2, dt_call, dt_bi, dt_idx, dt_bin, dt_ife, dq_var, dq_call, dq_bi, dq_idx, dq_bin, dq_ife, dq_int, dq_neg, dq_absent, di_var, di_call, di_bi, di_idx, di_bin, di_ife, di_lst, di_tup, di_slice, di_comp, di_rng1, di_rng2, di_enum, di_zip, ds_asg, ds_asgT, ds_par, ds_sub, ds_aug, ds_expr, ds_ret, ds_retN, ds_pass, ds_brk, ds_cont, ds_ife, dss_nil, dss_cons, dns_nil, dns_cons, evs_nil, evs_cons, f_is_between, s_is_between, h0]
  · simp [List.take_succ_cons, seqItr_tup, seqItr_tmp, seqItr_ro, items_tup, items_tmp, items_ro, callD, startR, List.map_cons, List.map_nil, List.length_cons, List.length_nil, Nat.sub_self, Nat.reduceSub, Nat.reduceAdd, List.replicate, List.append_nil, List.cons_append, List.nil_append, get0, getS, R.bind, R.on, RS.seq, truth_bl, nextO, stV, alloc, setVars, setTg, List.set_cons_zero, List.set_cons_succ, wipe, biU, bi1, bi2, perm, R.opt, fin_ret, fin_next, retU_d, retU_tmp, retU_ro, take_len, add_int, sub_int, bin_add, bin_mul, cmp_eq_int, cmp_ne_int, cmp_lt_int, cmp_le_int, cmp_gt_int, cmp_ge_int, cmp_eq_bl, cmp_ne_bl, negR, notR, onBl, onBlO, tupR, lstR, datas, Option.map_some, gvR, Lib.at, dv_var, dv_non, dv_bl, dv_int, dv_str, dv_gv, dv_bin, dv_neg, dv_cmp, dv_cmp2, dv_and, dv_or, dv_not, dv_ife, dv_tup, dv_lst, dv_idx, dv_slice, dv_call, dv_bi1, dv_bi2, dv_meth, dv_sdict, dt_and, dt_or, dt_not, dt_var, dt_bl, dt_cmp, dt_cmp2, dt_call, dt_bi, dt_idx, dt_bin, dt_ife, dq_var, dq_call, dq_bi, dq_idx, dq_bin, dq_ife, dq_int, dq_neg, dq_absent, di_var, di_call, di_bi, di_idx, di_bin, di_ife, di_lst, di_tup, di_slice, di_comp, di_rng1, di_rng2, di_enum, di_zip, ds_asg, ds_asgT, ds_par, ds_sub, ds_aug, ds_expr, ds_ret, ds_retN, ds_pass, ds_brk, ds_cont, ds_ife, dss_nil, dss_cons, dns_nil, dns_cons, evs_nil, evs_cons, f_is_between, s_is_between, h0]
theorem m_is_many (k : Nat) (h : Hs) (i : Int) : callK lib (k + 2) i_is_many [.d (.int i)] h = .ok (.d (.bl (decide (1 ≤ i ∧ i ≤ 6)))) h := by
  rw [ck (T := lib) (fn := f_is_many) rfl rfl]
  simp [List.take_succ_cons, seqItr_tup, seqItr_tmp, seqItr_ro, items_tup, items_tmp, items_ro, callD, startR, List.map_cons, List.map_nil, List.length_cons, List.length_nil, Nat.sub_self, Nat.reduceSub, Nat.reduceAdd, List.replicate, List.append_nil, List.cons_append, List.nil_append, get0, getS, R.bind, R.on, RS.seq, truth_bl, nextO, stV, alloc, setVars, setTg, List.set_cons_zero, List.set_cons_succ, wipe, biU, bi1, bi2, perm, R.opt, fin_ret, fin_next, retU_d, retU_tmp, retU_ro, take_len, add_int, sub_int, bin_add, bin_mul, cmp_eq_int, cmp_ne_int, cmp_lt_int, cmp_le_int, cmp_gt_int, cmp_ge_int, cmp_eq_bl, cmp_ne_bl, negR, notR, onBl, onBlO, tupR, lstR, datas, Option.map_some, gvR, Lib.at, dv_var, dv_non, dv_bl, dv_int, dv_str, dv_gv, dv_bin, dv_neg, dv_cmp, dv_cmp2, dv_and, dv_or, dv_not, dv_ife, dv_tup, dv_lst, dv_idx, dv_slice, dv_call, dv_bi1, dv_bi2, dv_meth, dv_sdict, dt_and, dt_or, dt_not, dt_var, dt_bl, dt_cmp, dt_cmp2, dt_call, dt_bi, dt_idx, dt_bin, dt_ife, dq_var, dq_call, dq_bi, dq_idx, dq_bin, dq_ife, dq_int, dq_neg, dq_absent, di_var, di_call, di_bi, di_idx, di_bin, di_ife, di_lst, di_tup, di_slice, di_comp, di_rng1, di_rng2, di_enum, di_zip, ds_asg, ds_asgT, ds_par, ds_sub, ds_aug, ds_expr, ds_ret, ds_retN, ds_pass, ds_brk, ds_cont, ds_ife, dss_nil, dss_cons, dns_nil, dns_cons, evs_nil, evs_cons, f_is_many, s_is_many, m_is_between, gv_MOST]
theorem m_made_many (k : Nat) (h : Hs) (i : Int) (h1 : 1 ≤ i) (h6 : i ≤ 6) : callK lib (k + 3) i_made_many [.d (.int i)] h = .ok (.d (.int i)) h := by
  rw [ck (T := lib) (fn := f_made_many) rfl rfl]
  simp [List.take_succ_cons, seqItr_tup, seqItr_tmp, seqItr_ro, items_tup, items_tmp, items_ro, callD, startR, List.map_cons, List.map_nil, List.length_cons, List.length_nil, Nat.sub_self, Nat.reduceSub, Nat.reduceAdd, List.replicate, List.append_nil, List.cons_append, List.nil_append, get0, getS, R.bind, R.on, RS.seq, truth_bl, nextO, stV, alloc, setVars, setTg, List.set_cons_zero, List.set_cons_succ, wipe, biU, bi1, bi2, perm, R.opt, fin_ret, fin_next, retU_d, retU_tmp, retU_ro, take_len, add_int, sub_int, bin_add, bin_mul, cmp_eq_int, cmp_ne_int, cmp_lt_int, cmp_le_int, cmp_gt_int, cmp_ge_int, cmp_eq_bl, cmp_ne_bl, negR, notR, onBl, onBlO, tupR, lstR, datas, Option.map_some, gvR, Lib.at, dv_var, dv_non, dv_bl, dv_int, dv_str, dv_gv, dv_bin, dv_neg, dv_cmp, dv_cmp2, dv_and, dv_or, dv_not, dv_ife, dv_tup, dv_lst, dv_idx, dv_slice, dv_call, dv_bi1, dv_bi2, dv_meth, dv_sdict, dt_and, dt_or, dt_not, dt_var, dt_bl, dt_cmp, dt_cmp2, dt_call, dt_bi, dt_idx, dt_bin, dt_ife, dq_var, dq_call, dq_bi, dq_idx, dq_bin, dq_ife, dq_int, dq_neg, dq_absent, di_var, di_call, di_bi, di_idx, di_bin, di_ife, di_lst, di_tup, di_slice, di_comp, di_rng1, di_rng2, di_enum, di_zip, ds_asg, ds_asgT, ds_par, ds_sub, ds_aug, ds_expr, ds_ret, ds_retN, ds_pass, ds_brk, ds_cont, ds_ife, dss_nil, dss_cons, dns_nil, dns_cons, evs_nil, evs_cons, f_made_many, s_made_many, m_is_many, h1, h6]
theorem m_level (k : Nat) (h : Hs) (i : Int) (h1 : 1 ≤ i) (h6 : i ≤ 6) : callK lib (k + 4) i_level [.d (.int i)] h = .ok (.d (rowD (List.replicate i.toNat 0))) h := by
  rw [ck (T := lib) (fn := f_level) rfl rfl]
  have h7 : i ≤ 1000 := by omega
  simp [List.take_succ_cons, seqItr_tup, seqItr_tmp, seqItr_ro, items_tup, items_tmp, items_ro, callD, startR, List.map_cons, List.map_nil, List.length_cons, List.length_nil, Nat.sub_self, Nat.reduceSub, Nat.reduceAdd, List.replicate, List.append_nil, List.cons_append, List.nil_append, get0, getS, R.bind, R.on, RS.seq, truth_bl, nextO, stV, alloc, setVars, setTg, List.set_cons_zero, List.set_cons_succ, wipe, biU, bi1, bi2, perm, R.opt, fin_ret, fin_next, retU_d, retU_tmp, retU_ro, take_len, add_int, sub_int, bin_add, bin_mul, cmp_eq_int, cmp_ne_int, cmp_lt_int, cmp_le_int, cmp_gt_int, cmp_ge_int, cmp_eq_bl, cmp_ne_bl, negR, notR, onBl, onBlO, tupR, lstR, datas, Option.map_some, gvR, Lib.at, dv_var, dv_non, dv_bl, dv_int, dv_str, dv_gv, dv_bin, dv_neg, dv_cmp, dv_cmp2, dv_and, dv_or, dv_not, dv_ife, dv_tup, dv_lst, dv_idx, dv_slice, dv_call, dv_bi1, dv_bi2, dv_meth, dv_sdict, dt_and, dt_or, dt_not, dt_var, dt_bl, dt_cmp, dt_cmp2, dt_call, dt_bi, dt_idx, dt_bin, dt_ife, dq_var, dq_call, dq_bi, dq_idx, dq_bin, dq_ife, dq_int, dq_neg, dq_absent, di_var, di_call, di_bi, di_idx, di_bin, di_ife, di_lst, di_tup, di_slice, di_comp, di_rng1, di_rng2, di_enum, di_zip, ds_asg, ds_asgT, ds_par, ds_sub, ds_aug, ds_expr, ds_ret, ds_retN, ds_pass, ds_brk, ds_cont, ds_ife, dss_nil, dss_cons, dns_nil, dns_cons, evs_nil, evs_cons, f_level, s_level, m_made_many, h1, h6, h7, sizeLine, mulU]
theorem m__law_level (k : Nat) (h : Hs) (i : Int) (h1 : 1 ≤ i) (h6 : i ≤ 6) : callK lib (k + 1) i__law_level [.d (.int i)] h = .ok (.d (rowD (List.replicate i.toNat 0))) h := by
  rw [ck (T := lib) (fn := f__law_level) rfl rfl]
  have h7 : i ≤ 1000 := by omega
  simp [List.take_succ_cons, seqItr_tup, seqItr_tmp, seqItr_ro, items_tup, items_tmp, items_ro, callD, startR, List.map_cons, List.map_nil, List.length_cons, List.length_nil, Nat.sub_self, Nat.reduceSub, Nat.reduceAdd, List.replicate, List.append_nil, List.cons_append, List.nil_append, get0, getS, R.bind, R.on, RS.seq, truth_bl, nextO, stV, alloc, setVars, setTg, List.set_cons_zero, List.set_cons_succ, wipe, biU, bi1, bi2, perm, R.opt, fin_ret, fin_next, retU_d, retU_tmp, retU_ro, take_len, add_int, sub_int, bin_add, bin_mul, cmp_eq_int, cmp_ne_int, cmp_lt_int, cmp_le_int, cmp_gt_int, cmp_ge_int, cmp_eq_bl, cmp_ne_bl, negR, notR, onBl, onBlO, tupR, lstR, datas, Option.map_some, gvR, Lib.at, dv_var, dv_non, dv_bl, dv_int, dv_str, dv_gv, dv_bin, dv_neg, dv_cmp, dv_cmp2, dv_and, dv_or, dv_not, dv_ife, dv_tup, dv_lst, dv_idx, dv_slice, dv_call, dv_bi1, dv_bi2, dv_meth, dv_sdict, dt_and, dt_or, dt_not, dt_var, dt_bl, dt_cmp, dt_cmp2, dt_call, dt_bi, dt_idx, dt_bin, dt_ife, dq_var, dq_call, dq_bi, dq_idx, dq_bin, dq_ife, dq_int, dq_neg, dq_absent, di_var, di_call, di_bi, di_idx, di_bin, di_ife, di_lst, di_tup, di_slice, di_comp, di_rng1, di_rng2, di_enum, di_zip, ds_asg, ds_asgT, ds_par, ds_sub, ds_aug, ds_expr, ds_ret, ds_retN, ds_pass, ds_brk, ds_cont, ds_ife, dss_nil, dss_cons, dns_nil, dns_cons, evs_nil, evs_cons, f__law_level, s__law_level, h1, h7, sizeLine, mulU]
theorem m_turned (k : Nat) (h : Hs) (r : List Int) (hz : r.length ≤ sizeLine) : callK lib (k + 1) i_turned [.d (rowD r)] h = .ok (.d (rowD (r.map fun i => -i))) h := by
  rw [ck (T := lib) (fn := f_turned) rfl rfl]
  have e := comp_of (C := ⟨callK lib k, lib.gv⟩) (vs := [1]) (tg := [1]) (elt := .neg (.var 1)) (it := .var 0) (ifs := []) (ρ := [some (.d (rowD r)), none]) (h := h) (l := r) (e := D.int) (g := fun i => .int (-i)) (w := none)
    (by simp [List.take_succ_cons, seqItr_tup, seqItr_tmp, seqItr_ro, items_tup, items_tmp, items_ro, callD, startR, List.map_cons, List.map_nil, List.length_cons, List.length_nil, Nat.sub_self, Nat.reduceSub, Nat.reduceAdd, List.replicate, List.append_nil, List.cons_append, List.nil_append, get0, getS, R.bind, R.on, RS.seq, truth_bl, nextO, stV, alloc, setVars, setTg, List.set_cons_zero, List.set_cons_succ, wipe, biU, bi1, bi2, perm, R.opt, fin_ret, fin_next, retU_d, retU_tmp, retU_ro, take_len, add_int, sub_int, bin_add, bin_mul, cmp_eq_int, cmp_ne_int, cmp_lt_int, cmp_le_int, cmp_gt_int, cmp_ge_int, cmp_eq_bl, cmp_ne_bl, negR, notR, onBl, onBlO, tupR, lstR, datas, Option.map_some, gvR, Lib.at, dv_var, dv_non, dv_bl, dv_int, dv_str, dv_gv, dv_bin, dv_neg, dv_cmp, dv_cmp2, dv_and, dv_or, dv_not, dv_ife, dv_tup, dv_lst, dv_idx, dv_slice, dv_call, dv_bi1, dv_bi2, dv_meth, dv_sdict, dt_and, dt_or, dt_not, dt_var, dt_bl, dt_cmp, dt_cmp2, dt_call, dt_bi, dt_idx, dt_bin, dt_ife, dq_var, dq_call, dq_bi, dq_idx, dq_bin, dq_ife, dq_int, dq_neg, dq_absent, di_var, di_call, di_bi, di_idx, di_bin, di_ife, di_lst, di_tup, di_slice, di_comp, di_rng1, di_rng2, di_enum, di_zip, ds_asg, ds_asgT, ds_par, ds_sub, ds_aug, ds_expr, ds_ret, ds_retN, ds_pass, ds_brk, ds_cont, ds_ife, dss_nil, dss_cons, dns_nil, dns_cons, evs_nil, evs_cons]) ok_none hz (fun x hx => by simp [List.take_succ_cons, seqItr_tup, seqItr_tmp, seqItr_ro, items_tup, items_tmp, items_ro, callD, startR, List.map_cons, List.map_nil, List.length_cons, List.length_nil, Nat.sub_self, Nat.reduceSub, Nat.reduceAdd, List.replicate, List.append_nil, List.cons_append, List.nil_append, get0, getS, R.bind, R.on, RS.seq, truth_bl, nextO, stV, alloc, setVars, setTg, List.set_cons_zero, List.set_cons_succ, wipe, biU, bi1, bi2, perm, R.opt, fin_ret, fin_next, retU_d, retU_tmp, retU_ro, take_len, add_int, sub_int, bin_add, bin_mul, cmp_eq_int, cmp_ne_int, cmp_lt_int, cmp_le_int, cmp_gt_int, cmp_ge_int, cmp_eq_bl, cmp_ne_bl, negR, notR, onBl, onBlO, tupR, lstR, datas, Option.map_some, gvR, Lib.at, dv_var, dv_non, dv_bl, dv_int, dv_str, dv_gv, dv_bin, dv_neg, dv_cmp, dv_cmp2, dv_and, dv_or, dv_not, dv_ife, dv_tup, dv_lst, dv_idx, dv_slice, dv_call, dv_bi1, dv_bi2, dv_meth, dv_sdict, dt_and, dt_or, dt_not, dt_var, dt_bl, dt_cmp, dt_cmp2, dt_call, dt_bi, dt_idx, dt_bin, dt_ife, dq_var, dq_call, dq_bi, dq_idx, dq_bin, dq_ife, dq_int, dq_neg, dq_absent, di_var, di_call, di_bi, di_idx, di_bin, di_ife, di_lst, di_tup, di_slice, di_comp, di_rng1, di_rng2, di_enum, di_zip, ds_asg, ds_asgT, ds_par, ds_sub, ds_aug, ds_expr, ds_ret, ds_retN, ds_pass, ds_brk, ds_cont, ds_ife, dss_nil, dss_cons, dns_nil, dns_cons, evs_nil, evs_cons, turnR, testsR, dataR])
  simp [List.take_succ_cons, seqItr_tup, seqItr_tmp, seqItr_ro, items_tup, items_tmp, items_ro, callD, startR, List.map_cons, List.map_nil, List.length_cons, List.length_nil, Nat.sub_self, Nat.reduceSub, Nat.reduceAdd, List.replicate, List.append_nil, List.cons_append, List.nil_append, get0, getS, R.bind, R.on, RS.seq, truth_bl, nextO, stV, alloc, setVars, setTg, List.set_cons_zero, List.set_cons_succ, wipe, biU, bi1, bi2, perm, R.opt, fin_ret, fin_next, retU_d, retU_tmp, retU_ro, take_len, add_int, sub_int, bin_add, bin_mul, cmp_eq_int, cmp_ne_int, cmp_lt_int, cmp_le_int, cmp_gt_int, cmp_ge_int, cmp_eq_bl, cmp_ne_bl, negR, notR, onBl, onBlO, tupR, lstR, datas, Option.map_some, gvR, Lib.at, dv_var, dv_non, dv_bl, dv_int, dv_str, dv_gv, dv_bin, dv_neg, dv_cmp, dv_cmp2, dv_and, dv_or, dv_not, dv_ife, dv_tup, dv_lst, dv_idx, dv_slice, dv_call, dv_bi1, dv_bi2, dv_meth, dv_sdict, dt_and, dt_or, dt_not, dt_var, dt_bl, dt_cmp, dt_cmp2, dt_call, dt_bi, dt_idx, dt_bin, dt_ife, dq_var, dq_call, dq_bi, dq_idx, dq_bin, dq_ife, dq_int, dq_neg, dq_absent, di_var, di_call, di_bi, di_idx, di_bin, di_ife, di_lst, di_tup, di_slice, di_comp, di_rng1, di_rng2, di_enum, di_zip, ds_asg, ds_asgT, ds_par, ds_sub, ds_aug, ds_expr, ds_ret, ds_retN, ds_pass, ds_brk, ds_cont, ds_ife, dss_nil, dss_cons, dns_nil, dns_cons, evs_nil, evs_cons, f_turned, s_turned, e]
theorem m__law_turned (k : Nat) (h : Hs) (r : List Int) (hz : r.length ≤ sizeLine) : callK lib (k + 1) i__law_turned [.d (rowD r)] h = .ok (.d (rowD (r.map fun i => -i))) h := by
  rw [ck (T := lib) (fn := f__law_turned) rfl rfl]
  have e := comp_of (C := ⟨callK lib k, lib.gv⟩) (vs := [1]) (tg := [1]) (elt := .neg (.var 1)) (it := .var 0) (ifs := []) (ρ := [some (.d (rowD r)), none]) (h := h) (l := r) (e := D.int) (g := fun i => .int (-i)) (w := none)
    (by simp [List.take_succ_cons, seqItr_tup, seqItr_tmp, seqItr_ro, items_tup, items_tmp, items_ro, callD, startR, List.map_cons, List.map_nil, List.length_cons, List.length_nil, Nat.sub_self, Nat.reduceSub, Nat.reduceAdd, List.replicate, List.append_nil, List.cons_append, List.nil_append, get0, getS, R.bind, R.on, RS.seq, truth_bl, nextO, stV, alloc, setVars, setTg, List.set_cons_zero, List.set_cons_succ, wipe, biU, bi1, bi2, perm, R.opt, fin_ret, fin_next, retU_d, retU_tmp, retU_ro, take_len, add_int, sub_int, bin_add, bin_mul, cmp_eq_int, cmp_ne_int, cmp_lt_int, cmp_le_int, cmp_gt_int, cmp_ge_int, cmp_eq_bl, cmp_ne_bl, negR, notR, onBl, onBlO, tupR, lstR, datas, Option.map_some, gvR, Lib.at, dv_var, dv_non, dv_bl, dv_int, dv_str, dv_gv, dv_bin, dv_neg, dv_cmp, dv_cmp2, dv_and, dv_or, dv_not, dv_ife, dv_tup, dv_lst, dv_idx, dv_slice, dv_call, dv_bi1, dv_bi2, dv_meth, dv_sdict, dt_and, dt_or, dt_not, dt_var, dt_bl, dt_cmp, dt_cmp2, dt_call, dt_bi, dt_idx, dt_bin, dt_ife, dq_var, dq_call, dq_bi, dq_idx, dq_bin, dq_ife, dq_int, dq_neg, dq_absent, di_var, di_call, di_bi, di_idx, di_bin, di_ife, di_lst, di_tup, di_slice, di_comp, di_rng1, di_rng2, di_enum, di_zip, ds_asg, ds_asgT, ds_par, ds_sub, ds_aug, ds_expr, ds_ret, ds_retN, ds_pass, ds_brk, ds_cont, ds_ife, dss_nil, dss_cons, dns_nil, dns_cons, evs_nil, evs_cons]) ok_none hz (fun x hx => by simp [List.take_succ_cons, seqItr_tup, seqItr_tmp, seqItr_ro, items_tup, items_tmp, items_ro, callD, startR, List.map_cons, List.map_nil, List.length_cons, List.length_nil, Nat.sub_self, Nat.reduceSub, Nat.reduceAdd, List.replicate, List.append_nil, List.cons_append, List.nil_append, get0, getS, R.bind, R.on, RS.seq, truth_bl, nextO, stV, alloc, setVars, setTg, List.set_cons_zero, List.set_cons_succ, wipe, biU, bi1, bi2, perm, R.opt, fin_ret, fin_next, retU_d, retU_tmp, retU_ro, take_len, add_int, sub_int, bin_add, bin_mul, cmp_eq_int, cmp_ne_int, cmp_lt_int, cmp_le_int, cmp_gt_int, cmp_ge_int, cmp_eq_bl, cmp_ne_bl, negR, notR, onBl, onBlO, tupR, lstR, datas, Option.map_some, gvR, Lib.at, dv_var, dv_non, dv_bl, dv_int, dv_str, dv_gv, dv_bin, dv_neg, dv_cmp, dv_cmp2, dv_and, dv_or, dv_not, dv_ife, dv_tup, dv_lst, dv_idx, dv_slice, dv_call, dv_bi1, dv_bi2, dv_meth, dv_sdict, dt_and, dt_or, dt_not, dt_var, dt_bl, dt_cmp, dt_cmp2, dt_call, dt_bi, dt_idx, dt_bin, dt_ife, dq_var, dq_call, dq_bi, dq_idx, dq_bin, dq_ife, dq_int, dq_neg, dq_absent, di_var, di_call, di_bi, di_idx, di_bin, di_ife, di_lst, di_tup, di_slice, di_comp, di_rng1, di_rng2, di_enum, di_zip, ds_asg, ds_asgT, ds_par, ds_sub, ds_aug, ds_expr, ds_ret, ds_retN, ds_pass, ds_brk, ds_cont, ds_ife, dss_nil, dss_cons, dns_nil, dns_cons, evs_nil, evs_cons, turnR, testsR, dataR])
  simp [List.take_succ_cons, seqItr_tup, seqItr_tmp, seqItr_ro, items_tup, items_tmp, items_ro, callD, startR, List.map_cons, List.map_nil, List.length_cons, List.length_nil, Nat.sub_self, Nat.reduceSub, Nat.reduceAdd, List.replicate, List.append_nil, List.cons_append, List.nil_append, get0, getS, R.bind, R.on, RS.seq, truth_bl, nextO, stV, alloc, setVars, setTg, List.set_cons_zero, List.set_cons_succ, wipe, biU, bi1, bi2, perm, R.opt, fin_ret, fin_next, retU_d, retU_tmp, retU_ro, take_len, add_int, sub_int, bin_add, bin_mul, cmp_eq_int, cmp_ne_int, cmp_lt_int, cmp_le_int, cmp_gt_int, cmp_ge_int, cmp_eq_bl, cmp_ne_bl, negR, notR, onBl, onBlO, tupR, lstR, datas, Option.map_some, gvR, Lib.at, dv_var, dv_non, dv_bl, dv_int, dv_str, dv_gv, dv_bin, dv_neg, dv_cmp, dv_cmp2, dv_and, dv_or, dv_not, dv_ife, dv_tup, dv_lst, dv_idx, dv_slice, dv_call, dv_bi1, dv_bi2, dv_meth, dv_sdict, dt_and, dt_or, dt_not, dt_var, dt_bl, dt_cmp, dt_cmp2, dt_call, dt_bi, dt_idx, dt_bin, dt_ife, dq_var, dq_call, dq_bi, dq_idx, dq_bin, dq_ife, dq_int, dq_neg, dq_absent, di_var, di_call, di_bi, di_idx, di_bin, di_ife, di_lst, di_tup, di_slice, di_comp, di_rng1, di_rng2, di_enum, di_zip, ds_asg, ds_asgT, ds_par, ds_sub, ds_aug, ds_expr, ds_ret, ds_retN, ds_pass, ds_brk, ds_cont, ds_ife, dss_nil, dss_cons, dns_nil, dns_cons, evs_nil, evs_cons, f__law_turned, s__law_turned, e]
def nums (a b : Int) : List Int := if a = 0 ∨ a = b then [b] else if b = 0 then [a] else [-1, 0, 1]
theorem m_numbers_of (k : Nat) (h : Hs) (a b : Int) : callK lib (k + 1) i_numbers_of [.d (.int a), .d (.int b)] h = .ok (.d (rowD (nums a b))) h := by
  rw [ck (T := lib) (fn := f_numbers_of) rfl rfl]
  unfold nums
  by_cases h0 : a = 0
  · simp [List.take_succ_cons, seqItr_tup, seqItr_tmp, seqItr_ro, items_tup, items_tmp, items_ro, callD, startR, List.map_cons, List.map_nil, List.length_cons, List.length_nil, Nat.sub_self, Nat.reduceSub, Nat.reduceAdd, List.replicate, List.append_nil, List.cons_append, List.nil_append, get0, getS, R.bind, R.on, RS.seq, truth_bl, nextO, stV, alloc, setVars, setTg, List.set_cons_zero, List.set_cons_succ, wipe, biU, bi1, bi2, perm, R.opt, fin_ret, fin_next, retU_d, retU_tmp, retU_ro, take_len, add_int, sub_int, bin_add, bin_mul, cmp_eq_int, cmp_ne_int, cmp_lt_int, cmp_le_int, cmp_gt_int, cmp_ge_int, cmp_eq_bl, cmp_ne_bl, negR, notR, onBl, onBlO, tupR, lstR, datas, Option.map_some, gvR, Lib.at, dv_var, dv_non, dv_bl, dv_int, dv_str, dv_gv, dv_bin, dv_neg, dv_cmp, dv_cmp2, dv_and, dv_or, dv_not, dv_ife, dv_tup, dv_lst, dv_idx, dv_slice, dv_call, dv_bi1, dv_bi2, dv_meth, dv_sdict, dt_and, dt_or, dt_not, dt_var, dt_bl, dt_cmp, dt_cmp2, dt_call, dt_bi, dt_idx, dt_bin, dt_ife, dq_var, dq_call, dq_bi, dq_idx, dq_bin, dq_ife, dq_int, dq_neg, dq_absent, di_var, di_call, di_bi, di_idx, di_bin, di_ife, di_lst, di_tup, di_slice, di_comp, di_rng1, di_rng2, di_enum, di_zip, ds_asg, ds_asgT, ds_par, ds_sub, ds_aug, ds_expr, ds_ret, ds_retN, ds_pass, ds_brk, ds_cont, ds_ife, dss_nil, dss_cons, dns_nil, dns_cons, evs_nil, evs_cons, f_numbers_of, s_numbers_of, h0, sizeLine]
  · by_cases h1 : a = b
    · simp [List.take_succ_cons, seqItr_tup, seqItr_tmp, seqItr_ro, items_tup, items_tmp, items_ro, callD, startR, List.map_cons, List.map_nil, List.length_cons, List.length_nil, Nat.sub_self, Nat.reduceSub, Nat.reduceAdd, List.replicate, List.append_nil, List.cons_append, List.nil_append, get0, getS, R.bind, R.on, RS.seq, truth_bl, nextO, stV, alloc, setVars, setTg, List.set_cons_zero, List.set_cons_succ, wipe, biU, bi1, bi2, perm, R.opt, fin_ret, fin_next, retU_d, retU_tmp, retU_ro, take_len, add_int, sub_int, bin_add, bin_mul, cmp_eq_int, cmp_ne_int, cmp_lt_int, cmp_le_int, cmp_gt_int, cmp_ge_int, cmp_eq_bl, cmp_ne_bl, negR, notR, onBl, onBlO, tupR, lstR, datas, Option.map_some, gvR, Lib.at, dv_var, dv_non, dv_bl, dv_int, dv_str, dv_gv, dv_bin, dv_neg, dv_cmp, dv_cmp2, dv_and, dv_or, dv_not, dv_ife, dv_tup, dv_lst, dv_idx, dv_slice, dv_call, dv_bi1, dv_bi2, dv_meth, dv_sdict, dt_and, dt_or, dt_not, dt_var, dt_bl, dt_cmp, dt_cmp2, dt_call, dt_bi, dt_idx, dt_bin, dt_ife, dq_var, dq_call, dq_bi, dq_idx, dq_bin, dq_ife, dq_int, dq_neg, dq_absent, di_var, di_call, di_bi, di_idx, di_bin, di_ife, di_lst, di_tup, di_slice, di_comp, di_rng1, di_rng2, di_enum, di_zip, ds_asg, ds_asgT, ds_par, ds_sub, ds_aug, ds_expr, ds_ret, ds_retN, ds_pass, ds_brk, ds_cont, ds_ife, dss_nil, dss_cons, dns_nil, dns_cons, evs_nil, evs_cons, f_numbers_of, s_numbers_of, h0, h1, sizeLine]
    · by_cases h2 : b = 0 <;> simp [List.take_succ_cons, seqItr_tup, seqItr_tmp, seqItr_ro, items_tup, items_tmp, items_ro, callD, startR, List.map_cons, List.map_nil, List.length_cons, List.length_nil, Nat.sub_self, Nat.reduceSub, Nat.reduceAdd, List.replicate, List.append_nil, List.cons_append, List.nil_append, get0, getS, R.bind, R.on, RS.seq, truth_bl, nextO, stV, alloc, setVars, setTg, List.set_cons_zero, List.set_cons_succ, wipe, biU, bi1, bi2, perm, R.opt, fin_ret, fin_next, retU_d, retU_tmp, retU_ro, take_len, add_int, sub_int, bin_add, bin_mul, cmp_eq_int, cmp_ne_int, cmp_lt_int, cmp_le_int, cmp_gt_int, cmp_ge_int, cmp_eq_bl, cmp_ne_bl, negR, notR, onBl, onBlO, tupR, lstR, datas, Option.map_some, gvR, Lib.at, dv_var, dv_non, dv_bl, dv_int, dv_str, dv_gv, dv_bin, dv_neg, dv_cmp, dv_cmp2, dv_and, dv_or, dv_not, dv_ife, dv_tup, dv_lst, dv_idx, dv_slice, dv_call, dv_bi1, dv_bi2, dv_meth, dv_sdict, dt_and, dt_or, dt_not, dt_var, dt_bl, dt_cmp, dt_cmp2, dt_call, dt_bi, dt_idx, dt_bin, dt_ife, dq_var, dq_call, dq_bi, dq_idx, dq_bin, dq_ife, dq_int, dq_neg, dq_absent, di_var, di_call, di_bi, di_idx, di_bin, di_ife, di_lst, di_tup, di_slice, di_comp, di_rng1, di_rng2, di_enum, di_zip, ds_asg, ds_asgT, ds_par, ds_sub, ds_aug, ds_expr, ds_ret, ds_retN, ds_pass, ds_brk, ds_cont, ds_ife, dss_nil, dss_cons, dns_nil, dns_cons, evs_nil, evs_cons, f_numbers_of, s_numbers_of, h0, h1, h2, sizeLine]
def rowOf (r s : List Int) : List Int := (r.zip s).map fun p => sgn (p.1 - p.2)
theorem m_row_of (k : Nat) (h : Hs) (r s : List Int) (hz : r.length ≤ 64) : callK lib (k + 2) i_row_of [.d (rowD r), .d (rowD s)] h = .ok (.d (rowD (rowOf r s))) h := by
  rw [ck (T := lib) (fn := f_row_of) rfl rfl]
  have hz2 : (r.zip s).length ≤ sizeLine := by simp [sizeLine]; omega
  have e := comp_of (C := ⟨callK lib (k + 1), lib.gv⟩) (vs := [2, 3]) (tg := [2, 3]) (elt := .call i_sign_of [.bin .sub (.var 2) (.var 3)] []) (it := .zip (.var 0) (.var 1)) (ifs := []) (ρ := [some (.d (rowD r)), some (.d (rowD s)), none, none]) (h := h)
    (l := r.zip s) (e := fun p => D.tup [.int p.1, .int p.2]) (g := fun p => .int (sgn (p.1 - p.2))) (w := none)
    (by simp [List.take_succ_cons, seqItr_tup, seqItr_tmp, seqItr_ro, items_tup, items_tmp, items_ro, callD, startR, List.map_cons, List.map_nil, List.length_cons, List.length_nil, Nat.sub_self, Nat.reduceSub, Nat.reduceAdd, List.replicate, List.append_nil, List.cons_append, List.nil_append, get0, getS, R.bind, R.on, RS.seq, truth_bl, nextO, stV, alloc, setVars, setTg, List.set_cons_zero, List.set_cons_succ, wipe, biU, bi1, bi2, perm, R.opt, fin_ret, fin_next, retU_d, retU_tmp, retU_ro, take_len, add_int, sub_int, bin_add, bin_mul, cmp_eq_int, cmp_ne_int, cmp_lt_int, cmp_le_int, cmp_gt_int, cmp_ge_int, cmp_eq_bl, cmp_ne_bl, negR, notR, onBl, onBlO, tupR, lstR, datas, Option.map_some, gvR, Lib.at, dv_var, dv_non, dv_bl, dv_int, dv_str, dv_gv, dv_bin, dv_neg, dv_cmp, dv_cmp2, dv_and, dv_or, dv_not, dv_ife, dv_tup, dv_lst, dv_idx, dv_slice, dv_call, dv_bi1, dv_bi2, dv_meth, dv_sdict, dt_and, dt_or, dt_not, dt_var, dt_bl, dt_cmp, dt_cmp2, dt_call, dt_bi, dt_idx, dt_bin, dt_ife, dq_var, dq_call, dq_bi, dq_idx, dq_bin, dq_ife, dq_int, dq_neg, dq_absent, di_var, di_call, di_bi, di_idx, di_bin, di_ife, di_lst, di_tup, di_slice, di_comp, di_rng1, di_rng2, di_enum, di_zip, ds_asg, ds_asgT, ds_par, ds_sub, ds_aug, ds_expr, ds_ret, ds_retN, ds_pass, ds_brk, ds_cont, ds_ife, dss_nil, dss_cons, dns_nil, dns_cons, evs_nil, evs_cons, zipItr, zipD_ints]) ok_none hz2 (fun x hx => by simp [List.take_succ_cons, seqItr_tup, seqItr_tmp, seqItr_ro, items_tup, items_tmp, items_ro, callD, startR, List.map_cons, List.map_nil, List.length_cons, List.length_nil, Nat.sub_self, Nat.reduceSub, Nat.reduceAdd, List.replicate, List.append_nil, List.cons_append, List.nil_append, get0, getS, R.bind, R.on, RS.seq, truth_bl, nextO, stV, alloc, setVars, setTg, List.set_cons_zero, List.set_cons_succ, wipe, biU, bi1, bi2, perm, R.opt, fin_ret, fin_next, retU_d, retU_tmp, retU_ro, take_len, add_int, sub_int, bin_add, bin_mul, cmp_eq_int, cmp_ne_int, cmp_lt_int, cmp_le_int, cmp_gt_int, cmp_ge_int, cmp_eq_bl, cmp_ne_bl, negR, notR, onBl, onBlO, tupR, lstR, datas, Option.map_some, gvR, Lib.at, dv_var, dv_non, dv_bl, dv_int, dv_str, dv_gv, dv_bin, dv_neg, dv_cmp, dv_cmp2, dv_and, dv_or, dv_not, dv_ife, dv_tup, dv_lst, dv_idx, dv_slice, dv_call, dv_bi1, dv_bi2, dv_meth, dv_sdict, dt_and, dt_or, dt_not, dt_var, dt_bl, dt_cmp, dt_cmp2, dt_call, dt_bi, dt_idx, dt_bin, dt_ife, dq_var, dq_call, dq_bi, dq_idx, dq_bin, dq_ife, dq_int, dq_neg, dq_absent, di_var, di_call, di_bi, di_idx, di_bin, di_ife, di_lst, di_tup, di_slice, di_comp, di_rng1, di_rng2, di_enum, di_zip, ds_asg, ds_asgT, ds_par, ds_sub, ds_aug, ds_expr, ds_ret, ds_retN, ds_pass, ds_brk, ds_cont, ds_ife, dss_nil, dss_cons, dns_nil, dns_cons, evs_nil, evs_cons, turnR, testsR, dataR, m_sign_of])
  simp [List.take_succ_cons, seqItr_tup, seqItr_tmp, seqItr_ro, items_tup, items_tmp, items_ro, callD, startR, List.map_cons, List.map_nil, List.length_cons, List.length_nil, Nat.sub_self, Nat.reduceSub, Nat.reduceAdd, List.replicate, List.append_nil, List.cons_append, List.nil_append, get0, getS, R.bind, R.on, RS.seq, truth_bl, nextO, stV, alloc, setVars, setTg, List.set_cons_zero, List.set_cons_succ, wipe, biU, bi1, bi2, perm, R.opt, fin_ret, fin_next, retU_d, retU_tmp, retU_ro, take_len, add_int, sub_int, bin_add, bin_mul, cmp_eq_int, cmp_ne_int, cmp_lt_int, cmp_le_int, cmp_gt_int, cmp_ge_int, cmp_eq_bl, cmp_ne_bl, negR, notR, onBl, onBlO, tupR, lstR, datas, Option.map_some, gvR, Lib.at, dv_var, dv_non, dv_bl, dv_int, dv_str, dv_gv, dv_bin, dv_neg, dv_cmp, dv_cmp2, dv_and, dv_or, dv_not, dv_ife, dv_tup, dv_lst, dv_idx, dv_slice, dv_call, dv_bi1, dv_bi2, dv_meth, dv_sdict, dt_and, dt_or, dt_not, dt_var, dt_bl, dt_cmp, dt_cmp2, dt_call, dt_bi, dt_idx, dt_bin, dt_ife, dq_var, dq_call, dq_bi, dq_idx, dq_bin, dq_ife, dq_int, dq_neg, dq_absent, di_var, di_call, di_bi, di_idx, di_bin, di_ife, di_lst, di_tup, di_slice, di_comp, di_rng1, di_rng2, di_enum, di_zip, ds_asg, ds_asgT, ds_par, ds_sub, ds_aug, ds_expr, ds_ret, ds_retN, ds_pass, ds_brk, ds_cont, ds_ife, dss_nil, dss_cons, dns_nil, dns_cons, evs_nil, evs_cons, f_row_of, s_row_of, e, rowOf, Function.comp_def]
theorem sgn_gt (a b : Int) : (if b < a then (1 : Int) else 0) - (if a < b then 1 else 0) = sgn (a - b) := by
  unfold sgn
  split <;> split <;> split <;> (try split) <;> omega
theorem zip_at (f : Int → Int → D) : ∀ (r s : List Int), r.length = s.length → (List.range s.length).map (fun i => f (r.getD i 0) (s.getD i 0)) = (r.zip s).map fun p => f p.1 p.2
  | [], [], _ => rfl
  | [], _ :: _, h => by simp at h
  | _ :: _, [], h => by simp at h
  | x :: r, y :: s, h => by
    have ih := zip_at f r s (by simpa using h)
    rw [List.length_cons, List.range_succ_eq_map, List.map_cons, List.map_map, List.zip_cons_cons, List.map_cons, ← ih]
    rfl
theorem m__law_row_of (k : Nat) (h : Hs) (r s : List Int) (hz : s.length ≤ 64) (hl : r.length = s.length) : callK lib (k + 1) i__law_row_of [.d (rowD r), .d (rowD s)] h = .ok (.d (rowD (rowOf r s))) h := by
  rw [ck (T := lib) (fn := f__law_row_of) rfl rfl]
  have e := comp_of (C := ⟨callK lib k, lib.gv⟩) (vs := [2]) (tg := [2])
    (elt := .bin .sub (.bi .int_ [.cmp .gt (.idx (.var 0) (.var 2)) (.idx (.var 1) (.var 2))]) (.bi .int_ [.cmp .lt (.idx (.var 0) (.var 2)) (.idx (.var 1) (.var 2))])) (it := .rng1 (.bi .len [.var 1])) (ifs := []) (ρ := [some (.d (rowD r)), some (.d (rowD s)), none]) (h := h)
    (l := List.range s.length) (e := fun (i : Nat) => D.int (i : Int)) (g := fun i => .int (sgn (r.getD i 0 - s.getD i 0))) (w := none)
    (by simp only [List.take_succ_cons, seqItr_tup, seqItr_tmp, seqItr_ro, items_tup, items_tmp, items_ro, callD, startR, List.map_cons, List.map_nil, List.length_cons, List.length_nil, Nat.sub_self, Nat.reduceSub, Nat.reduceAdd, List.replicate, List.append_nil, List.cons_append, List.nil_append, get0, getS, R.bind, R.on, RS.seq, truth_bl, nextO, stV, alloc, setVars, setTg, List.set_cons_zero, List.set_cons_succ, wipe, biU, bi1, bi2, perm, R.opt, fin_ret, fin_next, retU_d, retU_tmp, retU_ro, take_len, add_int, sub_int, bin_add, bin_mul, cmp_eq_int, cmp_ne_int, cmp_lt_int, cmp_le_int, cmp_gt_int, cmp_ge_int, cmp_eq_bl, cmp_ne_bl, negR, notR, onBl, onBlO, tupR, lstR, datas, Option.map_some, gvR, Lib.at, dv_var, dv_non, dv_bl, dv_int, dv_str, dv_gv, dv_bin, dv_neg, dv_cmp, dv_cmp2, dv_and, dv_or, dv_not, dv_ife, dv_tup, dv_lst, dv_idx, dv_slice, dv_call, dv_bi1, dv_bi2, dv_meth, dv_sdict, dt_and, dt_or, dt_not, dt_var, dt_bl, dt_cmp, dt_cmp2, dt_call, dt_bi, dt_idx, dt_bin, dt_ife, dq_var, dq_call, dq_bi, dq_idx, dq_bin, dq_ife, dq_int, dq_neg, dq_absent, di_var, di_call, di_bi, di_idx, di_bin, di_ife, di_lst, di_tup, di_slice, di_comp, di_rng1, di_rng2, di_enum, di_zip, ds_asg, ds_asgT, ds_par, ds_sub, ds_aug, ds_expr, ds_ret, ds_retN, ds_pass, ds_brk, ds_cont, ds_ife, dss_nil, dss_cons, dns_nil, dns_cons, evs_nil, evs_cons, List.length_map]; rw [rng1_nat (by omega)]) ok_none (by rw [List.length_range]; exact le_size (by omega)) (fun x hx => by
      have hx2 : x < s.length := by simpa using hx
      have hx1 : x < r.length := by omega
      simp only [List.take_succ_cons, seqItr_tup, seqItr_tmp, seqItr_ro, items_tup, items_tmp, items_ro, callD, startR, List.map_cons, List.map_nil, List.length_cons, List.length_nil, Nat.sub_self, Nat.reduceSub, Nat.reduceAdd, List.replicate, List.append_nil, List.cons_append, List.nil_append, get0, getS, R.bind, R.on, RS.seq, truth_bl, nextO, stV, alloc, setVars, setTg, List.set_cons_zero, List.set_cons_succ, wipe, biU, bi1, bi2, perm, R.opt, fin_ret, fin_next, retU_d, retU_tmp, retU_ro, take_len, add_int, sub_int, bin_add, bin_mul, cmp_eq_int, cmp_ne_int, cmp_lt_int, cmp_le_int, cmp_gt_int, cmp_ge_int, cmp_eq_bl, cmp_ne_bl, negR, notR, onBl, onBlO, tupR, lstR, datas, Option.map_some, gvR, Lib.at, dv_var, dv_non, dv_bl, dv_int, dv_str, dv_gv, dv_bin, dv_neg, dv_cmp, dv_cmp2, dv_and, dv_or, dv_not, dv_ife, dv_tup, dv_lst, dv_idx, dv_slice, dv_call, dv_bi1, dv_bi2, dv_meth, dv_sdict, dt_and, dt_or, dt_not, dt_var, dt_bl, dt_cmp, dt_cmp2, dt_call, dt_bi, dt_idx, dt_bin, dt_ife, dq_var, dq_call, dq_bi, dq_idx, dq_bin, dq_ife, dq_int, dq_neg, dq_absent, di_var, di_call, di_bi, di_idx, di_bin, di_ife, di_lst, di_tup, di_slice, di_comp, di_rng1, di_rng2, di_enum, di_zip, ds_asg, ds_asgT, ds_par, ds_sub, ds_aug, ds_expr, ds_ret, ds_retN, ds_pass, ds_brk, ds_cont, ds_ife, dss_nil, dss_cons, dns_nil, dns_cons, evs_nil, evs_cons, turnR, testsR, dataR, idx_row hx2, idx_row hx1, b2i, decide_eq_true_eq, sgn_gt, if_true, List.getD_eq_getElem?_getD, List.getElem?_eq_getElem hx1, List.getElem?_eq_getElem hx2, Option.getD_some])
  simp only [List.take_succ_cons, seqItr_tup, seqItr_tmp, seqItr_ro, items_tup, items_tmp, items_ro, callD, startR, List.map_cons, List.map_nil, List.length_cons, List.length_nil, Nat.sub_self, Nat.reduceSub, Nat.reduceAdd, List.replicate, List.append_nil, List.cons_append, List.nil_append, get0, getS, R.bind, R.on, RS.seq, truth_bl, nextO, stV, alloc, setVars, setTg, List.set_cons_zero, List.set_cons_succ, wipe, biU, bi1, bi2, perm, R.opt, fin_ret, fin_next, retU_d, retU_tmp, retU_ro, take_len, add_int, sub_int, bin_add, bin_mul, cmp_eq_int, cmp_ne_int, cmp_lt_int, cmp_le_int, cmp_gt_int, cmp_ge_int, cmp_eq_bl, cmp_ne_bl, negR, notR, onBl, onBlO, tupR, lstR, datas, Option.map_some, gvR, Lib.at, dv_var, dv_non, dv_bl, dv_int, dv_str, dv_gv, dv_bin, dv_neg, dv_cmp, dv_cmp2, dv_and, dv_or, dv_not, dv_ife, dv_tup, dv_lst, dv_idx, dv_slice, dv_call, dv_bi1, dv_bi2, dv_meth, dv_sdict, dt_and, dt_or, dt_not, dt_var, dt_bl, dt_cmp, dt_cmp2, dt_call, dt_bi, dt_idx, dt_bin, dt_ife, dq_var, dq_call, dq_bi, dq_idx, dq_bin, dq_ife, dq_int, dq_neg, dq_absent, di_var, di_call, di_bi, di_idx, di_bin, di_ife, di_lst, di_tup, di_slice, di_comp, di_rng1, di_rng2, di_enum, di_zip, ds_asg, ds_asgT, ds_par, ds_sub, ds_aug, ds_expr, ds_ret, ds_retN, ds_pass, ds_brk, ds_cont, ds_ife, dss_nil, dss_cons, dns_nil, dns_cons, evs_nil, evs_cons, f__law_row_of, s__law_row_of, e]
  rw [zip_at (fun a b => .int (sgn (a - b))) r s hl]
  simp [rowOf, Function.comp_def]
end EV
end

section
set_option Elab.async false
set_option linter.all false
set_option maxRecDepth 100000
namespace EV
open PySem
abbrev jarM (a b : Int) : MO := .lst [.int a, .int b]
theorem jar_0 {a b : Int} {t : Hs} : idxU (.obj 0) (.d (.int 0)) (jarM a b :: t) = some (.d (.int a)) := id rfl
theorem jar_1 {a b : Int} {t : Hs} : idxU (.obj 0) (.d (.int 1)) (jarM a b :: t) = some (.d (.int b)) := id rfl
theorem jar_s0 {a b v : Int} {ρ : Rho} {t : Hs} : subR (.obj 0) (.d (.int 0)) (.d (.int v)) ρ (jarM a b :: t) = .ok .next ρ (jarM v b :: t) := id rfl
theorem jar_s1 {a b v : Int} {ρ : Rho} {t : Hs} : subR (.obj 0) (.d (.int 1)) (.d (.int v)) ρ (jarM a b :: t) = .ok .next ρ (jarM a v :: t) := id rfl
theorem mul_r {i j : Int} (h1 : -1000000 ≤ j) (h2 : j ≤ 1000000) : mulU (.d (.int i)) (.d (.int j)) = some (.d (.int (i * j))) := mul_int (.inr ⟨by omega, by omega⟩)
theorem mul_l {i j : Int} (h1 : -10000000000 ≤ i) (h2 : i ≤ 10000000000) : mulU (.d (.int i)) (.d (.int j)) = some (.d (.int (i * j))) := mul_int (.inl ⟨by omega, by omega⟩)
theorem m__law_take (k : Nat) (a b top : Int) (t : Hs) (hb : 0 ≤ b ∧ b < 2147483647) (ht : 0 < top ∧ top < 10 ^ 15) : ∃ v a' b', callK lib (k + 1) i__law_take [.obj 0, .d (.int top)] (jarM a b :: t) = .ok (.d (.int v)) (jarM a' b' :: t) ∧ (0 ≤ v ∧ v < top) ∧ 0 ≤ b' ∧ b' < 2147483647 := by
  have t1 := ht.1
  rw [ck (T := lib) (fn := f__law_take) rfl rfl]
  by_cases h0 : 0 < a
  · refine ⟨a % top, a / top, b, ?_, ⟨Int.emod_nonneg _ (by omega), Int.emod_lt_of_pos _ t1⟩, hb⟩
    simp only [List.take_succ_cons, seqItr_tup, seqItr_tmp, seqItr_ro, items_tup, items_tmp, items_ro, callD, startR, List.map_cons, List.map_nil, List.length_cons, List.length_nil, Nat.sub_self, Nat.reduceSub, Nat.reduceAdd, List.replicate, List.append_nil, List.cons_append, List.nil_append, get0, getS, R.bind, R.on, RS.seq, truth_bl, nextO, stV, alloc, setVars, setTg, List.set_cons_zero, List.set_cons_succ, wipe, biU, bi1, bi2, perm, R.opt, fin_ret, fin_next, retU_d, retU_tmp, retU_ro, take_len, add_int, sub_int, bin_add, bin_mul, cmp_eq_int, cmp_ne_int, cmp_lt_int, cmp_le_int, cmp_gt_int, cmp_ge_int, cmp_eq_bl, cmp_ne_bl, negR, notR, onBl, onBlO, tupR, lstR, datas, Option.map_some, gvR, Lib.at, dv_var, dv_non, dv_bl, dv_int, dv_str, dv_gv, dv_bin, dv_neg, dv_cmp, dv_cmp2, dv_and, dv_or, dv_not, dv_ife, dv_tup, dv_lst, dv_idx, dv_slice, dv_call, dv_bi1, dv_bi2, dv_meth, dv_sdict, dt_and, dt_or, dt_not, dt_var, dt_bl, dt_cmp, dt_cmp2, dt_call, dt_bi, dt_idx, dt_bin, dt_ife, dq_var, dq_call, dq_bi, dq_idx, dq_bin, dq_ife, dq_int, dq_neg, dq_absent, di_var, di_call, di_bi, di_idx, di_bin, di_ife, di_lst, di_tup, di_slice, di_comp, di_rng1, di_rng2, di_enum, di_zip, ds_asg, ds_asgT, ds_par, ds_sub, ds_aug, ds_expr, ds_ret, ds_retN, ds_pass, ds_brk, ds_cont, ds_ife, dss_nil, dss_cons, dns_nil, dns_cons, evs_nil, evs_cons, f__law_take, s__law_take, jar_0, jar_s0, h0, mod_int t1, div_int ht, decide_true, if_true]
  · have hm : 0 ≤ (b * 39373 + 7) % 2147483647 ∧ (b * 39373 + 7) % 2147483647 < 2147483647 := ⟨Int.emod_nonneg _ (by omega), Int.emod_lt_of_pos _ (by omega)⟩
    generalize hbb : (b * 39373 + 7) % 2147483647 = b' at hm
    refine ⟨b' * b' % 2147483629 / 32 % top, a, b', ?_, ⟨Int.emod_nonneg _ (by omega), Int.emod_lt_of_pos _ t1⟩, hm⟩
    have m1 : mulU (.d (.int b)) (.d (.int 39373)) = some (.d (.int (b * 39373))) := mul_r (by omega) (by omega)
    have m2 : mulU (.d (.int b')) (.d (.int b')) = some (.d (.int (b' * b'))) := mul_l (by omega) (by omega)
    have d1 : (0 : Int) < 2147483647 := by omega
    have d2 : (0 : Int) < 2147483629 := by omega
    have d3 : (0 : Int) < 32 ∧ (32 : Int) < 10 ^ 15 := by omega
    simp only [List.take_succ_cons, seqItr_tup, seqItr_tmp, seqItr_ro, items_tup, items_tmp, items_ro, callD, startR, List.map_cons, List.map_nil, List.length_cons, List.length_nil, Nat.sub_self, Nat.reduceSub, Nat.reduceAdd, List.replicate, List.append_nil, List.cons_append, List.nil_append, get0, getS, R.bind, R.on, RS.seq, truth_bl, nextO, stV, alloc, setVars, setTg, List.set_cons_zero, List.set_cons_succ, wipe, biU, bi1, bi2, perm, R.opt, fin_ret, fin_next, retU_d, retU_tmp, retU_ro, take_len, add_int, sub_int, bin_add, bin_mul, cmp_eq_int, cmp_ne_int, cmp_lt_int, cmp_le_int, cmp_gt_int, cmp_ge_int, cmp_eq_bl, cmp_ne_bl, negR, notR, onBl, onBlO, tupR, lstR, datas, Option.map_some, gvR, Lib.at, dv_var, dv_non, dv_bl, dv_int, dv_str, dv_gv, dv_bin, dv_neg, dv_cmp, dv_cmp2, dv_and, dv_or, dv_not, dv_ife, dv_tup, dv_lst, dv_idx, dv_slice, dv_call, dv_bi1, dv_bi2, dv_meth, dv_sdict, dt_and, dt_or, dt_not, dt_var, dt_bl, dt_cmp, dt_cmp2, dt_call, dt_bi, dt_idx, dt_bin, dt_ife, dq_var, dq_call, dq_bi, dq_idx, dq_bin, dq_ife, dq_int, dq_neg, dq_absent, di_var, di_call, di_bi, di_idx, di_bin, di_ife, di_lst, di_tup, di_slice, di_comp, di_rng1, di_rng2, di_enum, di_zip, ds_asg, ds_asgT, ds_par, ds_sub, ds_aug, ds_expr, ds_ret, ds_retN, ds_pass, ds_brk, ds_cont, ds_ife, dss_nil, dss_cons, dns_nil, dns_cons, evs_nil, evs_cons, f__law_take, s__law_take, jar_0, jar_1, jar_s1, h0, m1, mod_int d1, hbb, m2, mod_int d2, div_int d3, mod_int t1, decide_false, Bool.false_eq_true, if_false]
theorem m__law_one (k : Nat) (a b : Int) (t : Hs) (n : Nat) (xs : List Int) (hn : (jarM a b :: t)[n]? = some (.lst (xs.map .int))) (hn0 : n ≠ 0) (hx : xs ≠ []) (hz : xs.length ≤ 1000) (hb : 0 ≤ b ∧ b < 2147483647) :
    ∃ v a' b', callK lib (k + 2) i__law_one [.obj 0, .obj n] (jarM a b :: t) = .ok (.d (.int v)) (jarM a' b' :: t) ∧ v ∈ xs ∧ 0 ≤ b' ∧ b' < 2147483647 := by
  have hp : 0 < xs.length := List.length_pos_iff.mpr hx
  obtain ⟨v, a', b', e, ⟨v0, v1⟩, hb'⟩ := m__law_take k a b (xs.length : Int) t hb ⟨by omega, by omega⟩
  obtain ⟨m, rfl⟩ : ∃ m, n = m + 1 := ⟨n - 1, by omega⟩
  have hn' : (jarM a' b' :: t)[m + 1]? = some (.lst (xs.map .int)) := by simpa using hn
  have hv : v.toNat < xs.length := by omega
  refine ⟨xs[v.toNat], a', b', ?_, List.getElem_mem hv, hb'⟩
  rw [ck (T := lib) (fn := f__law_one) rfl rfl]
  have ix : idxU (.obj (m + 1)) (.d (.int v)) (jarM a' b' :: t) = some (.d (.int xs[v.toNat])) := by
    have e1 : idxU (.obj (m + 1)) (.d (.int v)) (jarM a' b' :: t) = match itemsU (.obj (m + 1)) (jarM a' b' :: t) with | some xs => (L2.atI xs v).map .d | none => none := rfl
    rw [e1, items_obj hn']
    have e2 := L2.atI_nat (xs := xs.map D.int) (j := v.toNat) (v := D.int xs[v.toNat]) (by simp [hv])
    rw [Int.toNat_of_nonneg v0] at e2
    simp only [e2, Option.map_some]
  simp only [List.take_succ_cons, seqItr_tup, seqItr_tmp, seqItr_ro, items_tup, items_tmp, items_ro, callD, startR, List.map_cons, List.map_nil, List.length_cons, List.length_nil, Nat.sub_self, Nat.reduceSub, Nat.reduceAdd, List.replicate, List.append_nil, List.cons_append, List.nil_append, get0, getS, R.bind, R.on, RS.seq, truth_bl, nextO, stV, alloc, setVars, setTg, List.set_cons_zero, List.set_cons_succ, wipe, biU, bi1, bi2, perm, R.opt, fin_ret, fin_next, retU_d, retU_tmp, retU_ro, take_len, add_int, sub_int, bin_add, bin_mul, cmp_eq_int, cmp_ne_int, cmp_lt_int, cmp_le_int, cmp_gt_int, cmp_ge_int, cmp_eq_bl, cmp_ne_bl, negR, notR, onBl, onBlO, tupR, lstR, datas, Option.map_some, gvR, Lib.at, dv_var, dv_non, dv_bl, dv_int, dv_str, dv_gv, dv_bin, dv_neg, dv_cmp, dv_cmp2, dv_and, dv_or, dv_not, dv_ife, dv_tup, dv_lst, dv_idx, dv_slice, dv_call, dv_bi1, dv_bi2, dv_meth, dv_sdict, dt_and, dt_or, dt_not, dt_var, dt_bl, dt_cmp, dt_cmp2, dt_call, dt_bi, dt_idx, dt_bin, dt_ife, dq_var, dq_call, dq_bi, dq_idx, dq_bin, dq_ife, dq_int, dq_neg, dq_absent, di_var, di_call, di_bi, di_idx, di_bin, di_ife, di_lst, di_tup, di_slice, di_comp, di_rng1, di_rng2, di_enum, di_zip, ds_asg, ds_asgT, ds_par, ds_sub, ds_aug, ds_expr, ds_ret, ds_retN, ds_pass, ds_brk, ds_cont, ds_ife, dss_nil, dss_cons, dns_nil, dns_cons, evs_nil, evs_cons, f__law_one, s__law_one, items_obj hn, List.length_map, e, ix]
theorem m__law_pool (k : Nat) (ns : List Int) (h : Hs) : ∃ a b, callK lib (k + 1) i__law_pool [.ro (ns.map .int), .d (.int 0)] h = .ok (.tmp (jarM a b)) h ∧ 0 ≤ b ∧ b < 2147483647 := by
  have goal : ∃ a c, callK lib (k + 1) i__law_pool [.ro (ns.map .int), .d (.int 0)] h = .ok (.tmp (jarM a (c % 2147483647))) h := by
    rw [ck (T := lib) (fn := f__law_pool) rfl rfl]
    have d1 : (0 : Int) < 2147483647 := by omega
    have d2 : (0 : Int) < 2147483629 := by omega
    have pw : binU .pow (.d (.int 10)) (.d (.int 18)) = some (.d (.int (10 ^ 18))) := if_pos (show PowOk 10 18 from ⟨by omega, by omega, by decide⟩)
    have mr : ∀ i : Int, ∀ c : Bool, mulU (.d (.int i)) (.d (.int (if c = true then 1 else 0))) = some (.d (.int (i * b2i c))) := fun i c => mul_r (by cases c <;> decide) (by cases c <;> decide)
    have ms : ∀ i : Int, mulU (.d (.int i)) (.d (.int 48271)) = some (.d (.int (i * 48271))) := fun i => mul_r (by omega) (by omega)
    have m0 : ∀ i : Int, mulU (.d (.int i)) (.d (.int 0)) = some (.d (.int (i * 0))) := fun i => mul_r (by omega) (by omega)
    have m1 : ∀ i : Int, mulU (.d (.int i)) (.d (.int 1)) = some (.d (.int (i * 1))) := fun i => mul_r (by omega) (by omega)
    have sz : (2 : Nat) ≤ sizeLine := by decide
    have sz0 : (0 : Nat) ≤ sizeLine := by decide
    cases ns with
    | nil =>
      have c0 : cmpU .ne (.ro []) (.tmp (.lst [])) h = some (.d (.bl false)) := by
        simp [cmpU, eqU, eqG, frz, D.pys, SeqAt.shaped, PyData.canLay0, PyData.canLayAll0, PyData.depth, PyData.depthAll, PyData.eqv, PyData.eqvAll]
      refine ⟨?a1, ?c1, ?e1⟩
      rotate_left 2
      · simp only [List.take_succ_cons, seqItr_tup, seqItr_tmp, seqItr_ro, items_tup, items_tmp, items_ro, callD, startR, List.map_cons, List.map_nil, List.length_cons, List.length_nil, Nat.sub_self, Nat.reduceSub, Nat.reduceAdd, List.replicate, List.append_nil, List.cons_append, List.nil_append, get0, getS, R.bind, R.on, RS.seq, truth_bl, nextO, stV, alloc, setVars, setTg, List.set_cons_zero, List.set_cons_succ, wipe, biU, bi1, bi2, perm, R.opt, fin_ret, fin_next, retU_d, retU_tmp, retU_ro, take_len, add_int, sub_int, bin_add, bin_mul, cmp_eq_int, cmp_ne_int, cmp_lt_int, cmp_le_int, cmp_gt_int, cmp_ge_int, cmp_eq_bl, cmp_ne_bl, negR, notR, onBl, onBlO, tupR, lstR, datas, Option.map_some, gvR, Lib.at, dv_var, dv_non, dv_bl, dv_int, dv_str, dv_gv, dv_bin, dv_neg, dv_cmp, dv_cmp2, dv_and, dv_or, dv_not, dv_ife, dv_tup, dv_lst, dv_idx, dv_slice, dv_call, dv_bi1, dv_bi2, dv_meth, dv_sdict, dt_and, dt_or, dt_not, dt_var, dt_bl, dt_cmp, dt_cmp2, dt_call, dt_bi, dt_idx, dt_bin, dt_ife, dq_var, dq_call, dq_bi, dq_idx, dq_bin, dq_ife, dq_int, dq_neg, dq_absent, di_var, di_call, di_bi, di_idx, di_bin, di_ife, di_lst, di_tup, di_slice, di_comp, di_rng1, di_rng2, di_enum, di_zip, ds_asg, ds_asgT, ds_par, ds_sub, ds_aug, ds_expr, ds_ret, ds_retN, ds_pass, ds_brk, ds_cont, ds_ife, dss_nil, dss_cons, dns_nil, dns_cons, evs_nil, evs_cons, f__law_pool, s__law_pool, c0, pw, b2i, mr, ms, m0, m1, mod_int d1, mod_int d2, sz, sz0, decide_true, decide_false, if_true, if_false, Bool.false_eq_true, Int.lt_irrefl, Int.ofNat_zero, Int.natCast_zero, ite_self]
        rfl
    | cons n t =>
      have c1 : (0 : Int) < ((t.length + 1 : Nat) : Int) := by omega
      have ix : idxU (.ro (D.int n :: t.map D.int)) (.d (.int 0)) h = some (.d (.int n)) := by
        have e : idxU (.ro (D.int n :: t.map D.int)) (.d (.int 0)) h = (L2.atI (D.int n :: t.map D.int) ((0 : Nat) : Int)).map .d := rfl
        rw [e, L2.atI_nat (v := D.int n) rfl]
        rfl
      by_cases hb : 10 ^ 18 ≤ if -1 - n > n then -1 - n else n
      · refine ⟨?a2, ?c2, ?e2⟩
        rotate_left 2
        · simp only [List.take_succ_cons, seqItr_tup, seqItr_tmp, seqItr_ro, items_tup, items_tmp, items_ro, callD, startR, List.map_cons, List.map_nil, List.length_cons, List.length_nil, Nat.sub_self, Nat.reduceSub, Nat.reduceAdd, List.replicate, List.append_nil, List.cons_append, List.nil_append, get0, getS, R.bind, R.on, RS.seq, truth_bl, nextO, stV, alloc, setVars, setTg, List.set_cons_zero, List.set_cons_succ, wipe, biU, bi1, bi2, perm, R.opt, fin_ret, fin_next, retU_d, retU_tmp, retU_ro, take_len, add_int, sub_int, bin_add, bin_mul, cmp_eq_int, cmp_ne_int, cmp_lt_int, cmp_le_int, cmp_gt_int, cmp_ge_int, cmp_eq_bl, cmp_ne_bl, negR, notR, onBl, onBlO, tupR, lstR, datas, Option.map_some, gvR, Lib.at, dv_var, dv_non, dv_bl, dv_int, dv_str, dv_gv, dv_bin, dv_neg, dv_cmp, dv_cmp2, dv_and, dv_or, dv_not, dv_ife, dv_tup, dv_lst, dv_idx, dv_slice, dv_call, dv_bi1, dv_bi2, dv_meth, dv_sdict, dt_and, dt_or, dt_not, dt_var, dt_bl, dt_cmp, dt_cmp2, dt_call, dt_bi, dt_idx, dt_bin, dt_ife, dq_var, dq_call, dq_bi, dq_idx, dq_bin, dq_ife, dq_int, dq_neg, dq_absent, di_var, di_call, di_bi, di_idx, di_bin, di_ife, di_lst, di_tup, di_slice, di_comp, di_rng1, di_rng2, di_enum, di_zip, ds_asg, ds_asgT, ds_par, ds_sub, ds_aug, ds_expr, ds_ret, ds_retN, ds_pass, ds_brk, ds_cont, ds_ife, dss_nil, dss_cons, dns_nil, dns_cons, evs_nil, evs_cons, f__law_pool, s__law_pool, List.length_map, c1, ix, pw, hb, b2i, mr, ms, m0, m1, mod_int d1, mod_int d2, sz, sz0, decide_true, decide_false, if_true, if_false, Bool.false_eq_true, Int.lt_irrefl]
          rfl
      · refine ⟨?a3, ?c3, ?e3⟩
        rotate_left 2
        · simp only [List.take_succ_cons, seqItr_tup, seqItr_tmp, seqItr_ro, items_tup, items_tmp, items_ro, callD, startR, List.map_cons, List.map_nil, List.length_cons, List.length_nil, Nat.sub_self, Nat.reduceSub, Nat.reduceAdd, List.replicate, List.append_nil, List.cons_append, List.nil_append, get0, getS, R.bind, R.on, RS.seq, truth_bl, nextO, stV, alloc, setVars, setTg, List.set_cons_zero, List.set_cons_succ, wipe, biU, bi1, bi2, perm, R.opt, fin_ret, fin_next, retU_d, retU_tmp, retU_ro, take_len, add_int, sub_int, bin_add, bin_mul, cmp_eq_int, cmp_ne_int, cmp_lt_int, cmp_le_int, cmp_gt_int, cmp_ge_int, cmp_eq_bl, cmp_ne_bl, negR, notR, onBl, onBlO, tupR, lstR, datas, Option.map_some, gvR, Lib.at, dv_var, dv_non, dv_bl, dv_int, dv_str, dv_gv, dv_bin, dv_neg, dv_cmp, dv_cmp2, dv_and, dv_or, dv_not, dv_ife, dv_tup, dv_lst, dv_idx, dv_slice, dv_call, dv_bi1, dv_bi2, dv_meth, dv_sdict, dt_and, dt_or, dt_not, dt_var, dt_bl, dt_cmp, dt_cmp2, dt_call, dt_bi, dt_idx, dt_bin, dt_ife, dq_var, dq_call, dq_bi, dq_idx, dq_bin, dq_ife, dq_int, dq_neg, dq_absent, di_var, di_call, di_bi, di_idx, di_bin, di_ife, di_lst, di_tup, di_slice, di_comp, di_rng1, di_rng2, di_enum, di_zip, ds_asg, ds_asgT, ds_par, ds_sub, ds_aug, ds_expr, ds_ret, ds_retN, ds_pass, ds_brk, ds_cont, ds_ife, dss_nil, dss_cons, dns_nil, dns_cons, evs_nil, evs_cons, f__law_pool, s__law_pool, List.length_map, c1, ix, pw, hb, b2i, mr, ms, m0, m1, mod_int d1, mod_int d2, sz, sz0, decide_true, decide_false, if_true, if_false, Bool.false_eq_true, Int.lt_irrefl]
          rfl
  obtain ⟨a, c, e⟩ := goal
  exact ⟨a, c % 2147483647, e, Int.emod_nonneg _ (by omega), Int.emod_lt_of_pos _ (by omega)⟩
abbrev JOk (b : Int) : Prop := 0 ≤ b ∧ b < 2147483647
abbrev Sg (r : List Int) : Prop := ∀ x ∈ r, -1 ≤ x ∧ x ≤ 1
theorem rng1_of {i : Int} {h : Hs} (h0 : 0 ≤ i) (h1 : i ≤ 1000000) : rng1Itr [.d (.int i)] h = .ok ⟨(List.range i.toNat).map fun (i : Nat) => D.int (i : Int), none⟩ h := by
  have e := rng1_nat (n := i.toNat) (h := h) (by omega)
  rw [Int.toNat_of_nonneg h0] at e
  exact e
/-- a row drawn number by number -/
theorem drawn {C : Cc} {elt : E} {n : Nat} {t : Hs} {ρ : Rho} {a b : Int} {lo hi : Int} {it : E} {vs tg : List Nat} (hn : n ≤ 1000) (hb : JOk b)
    (hit : (den C it).i ρ (jarM a b :: t) = .ok ⟨(List.range n).map fun (i : Nat) => D.int (i : Int), none⟩ (jarM a b :: t))
    (turn : ∀ (x : Int) (a b : Int), JOk b → ∃ (v a' b' : Int), turnR vs tg (den C elt) (dens C []) ρ (.int x) (jarM a b :: t) = .ok (some (.int v)) (jarM a' b' :: t) ∧ (lo ≤ v ∧ v ≤ hi) ∧ JOk b') :
    ∃ (r : List Int) (a' b' : Int), (den C (.comp vs tg elt it [])).v ρ (jarM a b :: t) = .ok (.tmp (.lst (r.map D.int))) (jarM a' b' :: t) ∧ r.length = n ∧ (∀ x ∈ r, lo ≤ x ∧ x ≤ hi) ∧ JOk b' := by
  obtain ⟨ys, h', e, r, a', b', e1, e2, e3, e4, e5, e6⟩ := comp_inv (C := C) (vs := vs) (tg := tg) (elt := elt) (it := it) (ifs := []) (ρ := ρ)
    (fun rem acc h => ∃ (r : List Int) (a b : Int), acc = r.map D.int ∧ h = jarM a b :: t ∧ JOk b ∧ (∀ x ∈ r, lo ≤ x ∧ x ≤ hi) ∧ r.length + rem.length = n ∧ ∀ y ∈ rem, ∃ x : Int, y = .int x) hit
    (by rw [List.length_map, List.length_range]; exact le_size (by omega))
    ⟨[], a, b, rfl, rfl, hb, by simp, by simp, fun y hy => by
      obtain ⟨i, _, rfl⟩ := List.mem_map.mp hy
      exact ⟨_, rfl⟩⟩
    (fun x xs acc h ⟨r, a, b, e1, e2, e3, e4, e5, e6⟩ => by
      obtain ⟨i, rfl⟩ := e6 x List.mem_cons_self
      subst e2
      obtain ⟨v, a', b', q1, q2, q3⟩ := turn i a b e3
      refine ⟨ok_none, .inl ⟨_, _, q1, r ++ [v], a', b', by rw [e1]; simp, rfl, q3, fun x hx => ?_, ?_, fun y hy => e6 y (List.mem_cons_of_mem _ hy)⟩⟩
      · rcases List.mem_append.mp hx with hx | hx
        · exact e4 x hx
        · rw [List.mem_singleton.mp hx]; exact q2
      · rw [List.length_append]
        simp only [List.length_cons, List.length_nil] at e5 ⊢
        omega)
    (fun acc h _ => ok_none)
  exact ⟨r, a', b', by rw [e, e1, e2], by simpa using e5, e4, e3⟩
theorem m__law_any_row (k : Nat) (a b n : Int) (t : Hs) (hb : JOk b) (hn : 0 ≤ n ∧ n ≤ 1000) :
    ∃ (r : List Int) (a' b' : Int), callK lib (k + 2) i__law_any_row [.obj 0, .d (.int n)] (jarM a b :: t) = .ok (.d (rowD r)) (jarM a' b' :: t) ∧ (r.length : Int) = n ∧ Sg r ∧ JOk b' := by
  rw [ck (T := lib) (fn := f__law_any_row) rfl rfl]
  obtain ⟨r, a', b', e, e1, e2, e3⟩ := drawn (C := ⟨callK lib (k + 1), lib.gv⟩) (elt := .bin .sub (.call i__law_take [.var 0, .int 3] []) (.int 1)) (n := n.toNat) (t := t) (ρ := [some (.obj 0), some (.d (.int n)), none]) (a := a) (b := b) (lo := -1) (hi := 1) (it := .rng1 (.var 1)) (vs := [2]) (tg := [2]) (by omega) hb
    (by simp only [List.take_succ_cons, seqItr_tup, seqItr_tmp, seqItr_ro, items_tup, items_tmp, items_ro, callD, startR, List.map_cons, List.map_nil, List.length_cons, List.length_nil, Nat.sub_self, Nat.reduceSub, Nat.reduceAdd, List.replicate, List.append_nil, List.cons_append, List.nil_append, get0, getS, R.bind, R.on, RS.seq, truth_bl, nextO, stV, alloc, setVars, setTg, List.set_cons_zero, List.set_cons_succ, wipe, biU, bi1, bi2, perm, R.opt, fin_ret, fin_next, retU_d, retU_tmp, retU_ro, take_len, add_int, sub_int, bin_add, bin_mul, cmp_eq_int, cmp_ne_int, cmp_lt_int, cmp_le_int, cmp_gt_int, cmp_ge_int, cmp_eq_bl, cmp_ne_bl, negR, notR, onBl, onBlO, tupR, lstR, datas, Option.map_some, gvR, Lib.at, dv_var, dv_non, dv_bl, dv_int, dv_str, dv_gv, dv_bin, dv_neg, dv_cmp, dv_cmp2, dv_and, dv_or, dv_not, dv_ife, dv_tup, dv_lst, dv_idx, dv_slice, dv_call, dv_bi1, dv_bi2, dv_meth, dv_sdict, dt_and, dt_or, dt_not, dt_var, dt_bl, dt_cmp, dt_cmp2, dt_call, dt_bi, dt_idx, dt_bin, dt_ife, dq_var, dq_call, dq_bi, dq_idx, dq_bin, dq_ife, dq_int, dq_neg, dq_absent, di_var, di_call, di_bi, di_idx, di_bin, di_ife, di_lst, di_tup, di_slice, di_comp, di_rng1, di_rng2, di_enum, di_zip, ds_asg, ds_asgT, ds_par, ds_sub, ds_aug, ds_expr, ds_ret, ds_retN, ds_pass, ds_brk, ds_cont, ds_ife, dss_nil, dss_cons, dns_nil, dns_cons, evs_nil, evs_cons]; exact rng1_of hn.1 (by omega)) (fun x a b hb => by
      obtain ⟨v, a', b', e, q1, q2⟩ := m__law_take k a b 3 t hb (by omega)
      exact ⟨v - 1, a', b', by simp only [List.take_succ_cons, seqItr_tup, seqItr_tmp, seqItr_ro, items_tup, items_tmp, items_ro, callD, startR, List.map_cons, List.map_nil, List.length_cons, List.length_nil, Nat.sub_self, Nat.reduceSub, Nat.reduceAdd, List.replicate, List.append_nil, List.cons_append, List.nil_append, get0, getS, R.bind, R.on, RS.seq, truth_bl, nextO, stV, alloc, setVars, setTg, List.set_cons_zero, List.set_cons_succ, wipe, biU, bi1, bi2, perm, R.opt, fin_ret, fin_next, retU_d, retU_tmp, retU_ro, take_len, add_int, sub_int, bin_add, bin_mul, cmp_eq_int, cmp_ne_int, cmp_lt_int, cmp_le_int, cmp_gt_int, cmp_ge_int, cmp_eq_bl, cmp_ne_bl, negR, notR, onBl, onBlO, tupR, lstR, datas, Option.map_some, gvR, Lib.at, dv_var, dv_non, dv_bl, dv_int, dv_str, dv_gv, dv_bin, dv_neg, dv_cmp, dv_cmp2, dv_and, dv_or, dv_not, dv_ife, dv_tup, dv_lst, dv_idx, dv_slice, dv_call, dv_bi1, dv_bi2, dv_meth, dv_sdict, dt_and, dt_or, dt_not, dt_var, dt_bl, dt_cmp, dt_cmp2, dt_call, dt_bi, dt_idx, dt_bin, dt_ife, dq_var, dq_call, dq_bi, dq_idx, dq_bin, dq_ife, dq_int, dq_neg, dq_absent, di_var, di_call, di_bi, di_idx, di_bin, di_ife, di_lst, di_tup, di_slice, di_comp, di_rng1, di_rng2, di_enum, di_zip, ds_asg, ds_asgT, ds_par, ds_sub, ds_aug, ds_expr, ds_ret, ds_retN, ds_pass, ds_brk, ds_cont, ds_ife, dss_nil, dss_cons, dns_nil, dns_cons, evs_nil, evs_cons, turnR, testsR, dataR, e, if_true], by omega, q2⟩)
  refine ⟨r, a', b', ?_, by omega, e2, e3⟩
  simp only [List.take_succ_cons, seqItr_tup, seqItr_tmp, seqItr_ro, items_tup, items_tmp, items_ro, callD, startR, List.map_cons, List.map_nil, List.length_cons, List.length_nil, Nat.sub_self, Nat.reduceSub, Nat.reduceAdd, List.replicate, List.append_nil, List.cons_append, List.nil_append, get0, getS, R.bind, R.on, RS.seq, truth_bl, nextO, stV, alloc, setVars, setTg, List.set_cons_zero, List.set_cons_succ, wipe, biU, bi1, bi2, perm, R.opt, fin_ret, fin_next, retU_d, retU_tmp, retU_ro, take_len, add_int, sub_int, bin_add, bin_mul, cmp_eq_int, cmp_ne_int, cmp_lt_int, cmp_le_int, cmp_gt_int, cmp_ge_int, cmp_eq_bl, cmp_ne_bl, negR, notR, onBl, onBlO, tupR, lstR, datas, Option.map_some, gvR, Lib.at, dv_var, dv_non, dv_bl, dv_int, dv_str, dv_gv, dv_bin, dv_neg, dv_cmp, dv_cmp2, dv_and, dv_or, dv_not, dv_ife, dv_tup, dv_lst, dv_idx, dv_slice, dv_call, dv_bi1, dv_bi2, dv_meth, dv_sdict, dt_and, dt_or, dt_not, dt_var, dt_bl, dt_cmp, dt_cmp2, dt_call, dt_bi, dt_idx, dt_bin, dt_ife, dq_var, dq_call, dq_bi, dq_idx, dq_bin, dq_ife, dq_int, dq_neg, dq_absent, di_var, di_call, di_bi, di_idx, di_bin, di_ife, di_lst, di_tup, di_slice, di_comp, di_rng1, di_rng2, di_enum, di_zip, ds_asg, ds_asgT, ds_par, ds_sub, ds_aug, ds_expr, ds_ret, ds_retN, ds_pass, ds_brk, ds_cont, ds_ife, dss_nil, dss_cons, dns_nil, dns_cons, evs_nil, evs_cons, f__law_any_row, s__law_any_row, e]
theorem m__law_any_motion (k : Nat) (a b n : Int) (t : Hs) (hb : JOk b) (hn : 0 ≤ n ∧ n ≤ 1000) :
    ∃ (r : List Int) (a' b' : Int), callK lib (k + 3) i__law_any_motion [.obj 0, .d (.int n)] (jarM a b :: t) = .ok (.d (rowD r)) (jarM a' b' :: t) ∧ (r.length : Int) = n ∧ (∀ x ∈ r, -(10 ^ 12) ≤ x ∧ x ≤ 10 ^ 12) ∧ JOk b' := by
  rw [ck (T := lib) (fn := f__law_any_motion) rfl rfl]
  have pw : binU .pow (.d (.int 10)) (.d (.int 12)) = some (.d (.int (10 ^ 12))) := if_pos (show PowOk 10 12 from ⟨by omega, by omega, by decide⟩)
  have sz : (5 : Nat) ≤ sizeLine := by decide
  obtain ⟨w, a1, b1, e1, w1, hb1⟩ := m__law_one k a b (t ++ [.lst ([2, 3, 3, 5, 10 ^ 12].map D.int)]) (t.length + 1) [2, 3, 3, 5, 10 ^ 12] (by simp) (by omega) (by simp) (by simp) hb
  have hw : 2 ≤ w ∧ w ≤ 10 ^ 12 := by
    simp only [List.mem_cons, List.not_mem_nil, or_false] at w1
    omega
  simp only [List.map_cons, List.map_nil] at e1
  obtain ⟨r, a', b', e, f1, f2, f3⟩ := drawn (C := ⟨callK lib (k + 2), lib.gv⟩) (elt := .bin .sub (.call i__law_take [.var 0, .var 2] []) (.bin .fdiv (.var 2) (.int 2))) (n := n.toNat) (t := t ++ [.lst [.int 2, .int 3, .int 3, .int 5, .int (10 ^ 12)]]) (ρ := [some (.obj 0), some (.d (.int n)), some (.d (.int w)), none]) (a := a1) (b := b1) (lo := -(10 ^ 12)) (hi := 10 ^ 12) (it := .rng1 (.var 1)) (vs := [3]) (tg := [3]) (by omega) hb1
    (by simp only [List.take_succ_cons, seqItr_tup, seqItr_tmp, seqItr_ro, items_tup, items_tmp, items_ro, callD, startR, List.map_cons, List.map_nil, List.length_cons, List.length_nil, Nat.sub_self, Nat.reduceSub, Nat.reduceAdd, List.replicate, List.append_nil, List.cons_append, List.nil_append, get0, getS, R.bind, R.on, RS.seq, truth_bl, nextO, stV, alloc, setVars, setTg, List.set_cons_zero, List.set_cons_succ, wipe, biU, bi1, bi2, perm, R.opt, fin_ret, fin_next, retU_d, retU_tmp, retU_ro, take_len, add_int, sub_int, bin_add, bin_mul, cmp_eq_int, cmp_ne_int, cmp_lt_int, cmp_le_int, cmp_gt_int, cmp_ge_int, cmp_eq_bl, cmp_ne_bl, negR, notR, onBl, onBlO, tupR, lstR, datas, Option.map_some, gvR, Lib.at, dv_var, dv_non, dv_bl, dv_int, dv_str, dv_gv, dv_bin, dv_neg, dv_cmp, dv_cmp2, dv_and, dv_or, dv_not, dv_ife, dv_tup, dv_lst, dv_idx, dv_slice, dv_call, dv_bi1, dv_bi2, dv_meth, dv_sdict, dt_and, dt_or, dt_not, dt_var, dt_bl, dt_cmp, dt_cmp2, dt_call, dt_bi, dt_idx, dt_bin, dt_ife, dq_var, dq_call, dq_bi, dq_idx, dq_bin, dq_ife, dq_int, dq_neg, dq_absent, di_var, di_call, di_bi, di_idx, di_bin, di_ife, di_lst, di_tup, di_slice, di_comp, di_rng1, di_rng2, di_enum, di_zip, ds_asg, ds_asgT, ds_par, ds_sub, ds_aug, ds_expr, ds_ret, ds_retN, ds_pass, ds_brk, ds_cont, ds_ife, dss_nil, dss_cons, dns_nil, dns_cons, evs_nil, evs_cons]; exact rng1_of hn.1 (by omega)) (fun x a b hb => by
      obtain ⟨v, a', b', e, q1, q2⟩ := m__law_take (k + 1) a b w (t ++ [.lst [.int 2, .int 3, .int 3, .int 5, .int (10 ^ 12)]]) hb (by omega)
      have d2 : (0 : Int) < 2 ∧ (2 : Int) < 10 ^ 15 := by omega
      exact ⟨v - w / 2, a', b', by simp only [List.take_succ_cons, seqItr_tup, seqItr_tmp, seqItr_ro, items_tup, items_tmp, items_ro, callD, startR, List.map_cons, List.map_nil, List.length_cons, List.length_nil, Nat.sub_self, Nat.reduceSub, Nat.reduceAdd, List.replicate, List.append_nil, List.cons_append, List.nil_append, get0, getS, R.bind, R.on, RS.seq, truth_bl, nextO, stV, alloc, setVars, setTg, List.set_cons_zero, List.set_cons_succ, wipe, biU, bi1, bi2, perm, R.opt, fin_ret, fin_next, retU_d, retU_tmp, retU_ro, take_len, add_int, sub_int, bin_add, bin_mul, cmp_eq_int, cmp_ne_int, cmp_lt_int, cmp_le_int, cmp_gt_int, cmp_ge_int, cmp_eq_bl, cmp_ne_bl, negR, notR, onBl, onBlO, tupR, lstR, datas, Option.map_some, gvR, Lib.at, dv_var, dv_non, dv_bl, dv_int, dv_str, dv_gv, dv_bin, dv_neg, dv_cmp, dv_cmp2, dv_and, dv_or, dv_not, dv_ife, dv_tup, dv_lst, dv_idx, dv_slice, dv_call, dv_bi1, dv_bi2, dv_meth, dv_sdict, dt_and, dt_or, dt_not, dt_var, dt_bl, dt_cmp, dt_cmp2, dt_call, dt_bi, dt_idx, dt_bin, dt_ife, dq_var, dq_call, dq_bi, dq_idx, dq_bin, dq_ife, dq_int, dq_neg, dq_absent, di_var, di_call, di_bi, di_idx, di_bin, di_ife, di_lst, di_tup, di_slice, di_comp, di_rng1, di_rng2, di_enum, di_zip, ds_asg, ds_asgT, ds_par, ds_sub, ds_aug, ds_expr, ds_ret, ds_retN, ds_pass, ds_brk, ds_cont, ds_ife, dss_nil, dss_cons, dns_nil, dns_cons, evs_nil, evs_cons, turnR, testsR, dataR, e, div_int d2, if_true], by omega, q2⟩)
  refine ⟨r, a', b', ?_, by omega, f2, f3⟩
  simp only [List.take_succ_cons, seqItr_tup, seqItr_tmp, seqItr_ro, items_tup, items_tmp, items_ro, callD, startR, List.map_cons, List.map_nil, List.length_cons, List.length_nil, Nat.sub_self, Nat.reduceSub, Nat.reduceAdd, List.replicate, List.append_nil, List.cons_append, List.nil_append, get0, getS, R.bind, R.on, RS.seq, truth_bl, nextO, stV, alloc, setVars, setTg, List.set_cons_zero, List.set_cons_succ, wipe, biU, bi1, bi2, perm, R.opt, fin_ret, fin_next, retU_d, retU_tmp, retU_ro, take_len, add_int, sub_int, bin_add, bin_mul, cmp_eq_int, cmp_ne_int, cmp_lt_int, cmp_le_int, cmp_gt_int, cmp_ge_int, cmp_eq_bl, cmp_ne_bl, negR, notR, onBl, onBlO, tupR, lstR, datas, Option.map_some, gvR, Lib.at, dv_var, dv_non, dv_bl, dv_int, dv_str, dv_gv, dv_bin, dv_neg, dv_cmp, dv_cmp2, dv_and, dv_or, dv_not, dv_ife, dv_tup, dv_lst, dv_idx, dv_slice, dv_call, dv_bi1, dv_bi2, dv_meth, dv_sdict, dt_and, dt_or, dt_not, dt_var, dt_bl, dt_cmp, dt_cmp2, dt_call, dt_bi, dt_idx, dt_bin, dt_ife, dq_var, dq_call, dq_bi, dq_idx, dq_bin, dq_ife, dq_int, dq_neg, dq_absent, di_var, di_call, di_bi, di_idx, di_bin, di_ife, di_lst, di_tup, di_slice, di_comp, di_rng1, di_rng2, di_enum, di_zip, ds_asg, ds_asgT, ds_par, ds_sub, ds_aug, ds_expr, ds_ret, ds_retN, ds_pass, ds_brk, ds_cont, ds_ife, dss_nil, dss_cons, dns_nil, dns_cons, evs_nil, evs_cons, f__law_any_motion, s__law_any_motion, pw, sz, if_true, e1, e]
  simp
theorem at_len {x y : MO} {t u : Hs} : (x :: (t ++ y :: u))[t.length + 1]? = some y := by simp
theorem set_len {x y z : MO} {t u : Hs} : (x :: (t ++ y :: u)).set (t.length + 1) z = x :: (t ++ z :: u) := by simp
theorem idx_obj {m : List Int} {v : Int} {n : Nat} {h : Hs} (e : h[n]? = some (.lst (m.map D.int))) (h0 : 0 ≤ v) (h1 : v.toNat < m.length) : idxU (.obj n) (.d (.int v)) h = some (.d (.int (m[v.toNat]))) := by
  have e1 : idxU (.obj n) (.d (.int v)) h = match itemsU (.obj n) h with | some xs => (L2.atI xs v).map .d | none => none := rfl
  rw [e1, items_obj e]
  have e2 := L2.atI_nat (xs := m.map D.int) (j := v.toNat) (v := D.int m[v.toNat]) (by simp [h1])
  rw [Int.toNat_of_nonneg h0] at e2
  simp only [e2, Option.map_some]
theorem sub_obj {m : List Int} {v y : Int} {n : Nat} {h : Hs} {ρ : Rho} (e : h[n]? = some (.lst (m.map D.int))) (h0 : 0 ≤ v) (h1 : v.toNat < m.length) : subR (.obj n) (.d (.int v)) (.d (.int y)) ρ h = .ok .next ρ (h.set n (.lst ((m.set v.toNat y).map D.int))) := by
  unfold subR
  dsimp only
  rw [e]
  dsimp only
  have e2 : L2.ixN (m.map D.int).length v = some v.toNat := by
    unfold L2.ixN
    rw [if_pos h0, List.length_map, if_pos (by omega)]
  rw [e2]
  simp
theorem m__law_near_motion (k : Nat) (a b B : Int) (m0 : List Int) (t : Hs) (hb : JOk b) (hm : 1 ≤ m0.length ∧ m0.length ≤ 1000) (hB : ∀ x ∈ m0, -B ≤ x ∧ x ≤ B) :
    ∃ (r : List Int) (a' b' : Int), callK lib (k + 3) i__law_near_motion [.obj 0, .d (rowD m0)] (jarM a b :: t) = .ok (.d (rowD r)) (jarM a' b' :: t) ∧ r.length = m0.length ∧ (∀ x ∈ r, -(B + 4) ≤ x ∧ x ≤ B + 4) ∧ JOk b' := by
  rw [ck (T := lib) (fn := f__law_near_motion) rfl rfl]
  obtain ⟨v, a1, b1, e1, v1, hb1⟩ := m__law_take (k + 1) a b 2 (t ++ [.lst (m0.map D.int)]) hb (by omega)
  have it := rng1_of (i := 1 + v) (h := jarM a1 b1 :: (t ++ [.lst (m0.map D.int)])) (by omega) (by omega)
  have sz : (4 : Nat) ≤ sizeLine := by decide
  obtain ⟨ρ', h', ef, eρ, a2, b2, m2, u2, f1, f2, f3, f4, _⟩ := for_inv (C := ⟨callK lib (k + 2), lib.gv⟩) (tg := [3]) (wp := [3, 4]) (it := .rng1 (.bin .add (.int 1) (.call i__law_take [.var 0, .int 2] [])))
    (body := [.asg 4 (.call i__law_take [.var 0, .bi .len [.var 1]] []), .sub (.var 2) (.var 4) (.bin .add (.idx (.var 2) (.var 4)) (.call i__law_one [.var 0, .lst [.neg (.int 2), .neg (.int 1), .int 1, .int 2]] []))])
    (ρ := [some (.obj 0), some (.d (rowD m0)), some (.obj (t.length + 1)), none, none]) (h := jarM a b :: (t ++ [.lst (m0.map D.int)])) (h1 := jarM a1 b1 :: (t ++ [.lst (m0.map D.int)])) (w := none)
    (xs := (List.range (1 + v).toNat).map fun (i : Nat) => D.int (i : Int))
    (fun rem ρ h => ρ = [some (.obj 0), some (.d (rowD m0)), some (.obj (t.length + 1)), none, none] ∧ ∃ (a b : Int) (m : List Int) (u : Hs), h = jarM a b :: (t ++ .lst (m.map D.int) :: u) ∧ JOk b ∧ m.length = m0.length ∧ (∀ x ∈ m, -(B + 4 - 2 * rem.length) ≤ x ∧ x ≤ B + 4 - 2 * rem.length) ∧ ∀ y ∈ rem, ∃ x : Int, y = .int x)
    (by simp only [List.take_succ_cons, seqItr_tup, seqItr_tmp, seqItr_ro, items_tup, items_tmp, items_ro, callD, startR, List.map_cons, List.map_nil, List.length_cons, List.length_nil, Nat.sub_self, Nat.reduceSub, Nat.reduceAdd, List.replicate, List.append_nil, List.cons_append, List.nil_append, get0, getS, R.bind, R.on, RS.seq, truth_bl, nextO, stV, alloc, setVars, setTg, List.set_cons_zero, List.set_cons_succ, wipe, biU, bi1, bi2, perm, R.opt, fin_ret, fin_next, retU_d, retU_tmp, retU_ro, take_len, add_int, sub_int, bin_add, bin_mul, cmp_eq_int, cmp_ne_int, cmp_lt_int, cmp_le_int, cmp_gt_int, cmp_ge_int, cmp_eq_bl, cmp_ne_bl, negR, notR, onBl, onBlO, tupR, lstR, datas, Option.map_some, gvR, Lib.at, dv_var, dv_non, dv_bl, dv_int, dv_str, dv_gv, dv_bin, dv_neg, dv_cmp, dv_cmp2, dv_and, dv_or, dv_not, dv_ife, dv_tup, dv_lst, dv_idx, dv_slice, dv_call, dv_bi1, dv_bi2, dv_meth, dv_sdict, dt_and, dt_or, dt_not, dt_var, dt_bl, dt_cmp, dt_cmp2, dt_call, dt_bi, dt_idx, dt_bin, dt_ife, dq_var, dq_call, dq_bi, dq_idx, dq_bin, dq_ife, dq_int, dq_neg, dq_absent, di_var, di_call, di_bi, di_idx, di_bin, di_ife, di_lst, di_tup, di_slice, di_comp, di_rng1, di_rng2, di_enum, di_zip, ds_asg, ds_asgT, ds_par, ds_sub, ds_aug, ds_expr, ds_ret, ds_retN, ds_pass, ds_brk, ds_cont, ds_ife, dss_nil, dss_cons, dns_nil, dns_cons, evs_nil, evs_cons, e1, it]) ⟨by simp only [List.take_succ_cons, seqItr_tup, seqItr_tmp, seqItr_ro, items_tup, items_tmp, items_ro, callD, startR, List.map_cons, List.map_nil, List.length_cons, List.length_nil, Nat.sub_self, Nat.reduceSub, Nat.reduceAdd, List.replicate, List.append_nil, List.cons_append, List.nil_append, get0, getS, R.bind, R.on, RS.seq, truth_bl, nextO, stV, alloc, setVars, setTg, List.set_cons_zero, List.set_cons_succ, wipe, biU, bi1, bi2, perm, R.opt, fin_ret, fin_next, retU_d, retU_tmp, retU_ro, take_len, add_int, sub_int, bin_add, bin_mul, cmp_eq_int, cmp_ne_int, cmp_lt_int, cmp_le_int, cmp_gt_int, cmp_ge_int, cmp_eq_bl, cmp_ne_bl, negR, notR, onBl, onBlO, tupR, lstR, datas, Option.map_some, gvR, Lib.at, dv_var, dv_non, dv_bl, dv_int, dv_str, dv_gv, dv_bin, dv_neg, dv_cmp, dv_cmp2, dv_and, dv_or, dv_not, dv_ife, dv_tup, dv_lst, dv_idx, dv_slice, dv_call, dv_bi1, dv_bi2, dv_meth, dv_sdict, dt_and, dt_or, dt_not, dt_var, dt_bl, dt_cmp, dt_cmp2, dt_call, dt_bi, dt_idx, dt_bin, dt_ife, dq_var, dq_call, dq_bi, dq_idx, dq_bin, dq_ife, dq_int, dq_neg, dq_absent, di_var, di_call, di_bi, di_idx, di_bin, di_ife, di_lst, di_tup, di_slice, di_comp, di_rng1, di_rng2, di_enum, di_zip, ds_asg, ds_asgT, ds_par, ds_sub, ds_aug, ds_expr, ds_ret, ds_retN, ds_pass, ds_brk, ds_cont, ds_ife, dss_nil, dss_cons, dns_nil, dns_cons, evs_nil, evs_cons], a1, b1, m0, [], rfl, hb1, rfl, fun x hx => by
      have := hB x hx
      simp only [List.length_map, List.length_range]
      omega, fun y hy => by
      obtain ⟨i, _, rfl⟩ := List.mem_map.mp hy
      exact ⟨_, rfl⟩⟩
    (fun x xs ρ h ⟨eρ, a, b, m, u, eh, hb, hl, hbd, hx⟩ => by
      obtain ⟨i, rfl⟩ := hx x List.mem_cons_self
      subst eρ eh
      obtain ⟨v, a1, b1, e1, v1, hb1⟩ := m__law_take (k + 1) a b (m0.length : Int) (t ++ .lst (m.map D.int) :: u) hb ⟨by omega, by omega⟩
      have vl : v.toNat < m.length := by omega
      obtain ⟨w, a2, b2, e2, w1, hb2⟩ := m__law_one k a1 b1 (t ++ .lst (m.map D.int) :: (u ++ [.lst ([-2, -1, 1, 2].map D.int)])) (t.length + (u.length + 1) + 1) [-2, -1, 1, 2] (by simp) (by omega) (by simp) (by simp) hb1
      have w2 : -2 ≤ w ∧ w ≤ 2 := by
        simp only [List.mem_cons, List.not_mem_nil, or_false] at w1
        omega
      simp only [List.map_cons, List.map_nil] at e2
      have ix := idx_obj (v := v) (m := m) (h := jarM a1 b1 :: (t ++ .lst (m.map D.int) :: u)) at_len v1.1 vl
      refine ⟨ok_none, [some (.obj 0), some (.d (rowD m0)), some (.obj (t.length + 1)), some (.d (.int i)), none], rfl,
        [some (.obj 0), some (.d (rowD m0)), some (.obj (t.length + 1)), some (.d (.int i)), some (.d (.int v))], jarM a2 b2 :: (t ++ .lst ((m.set v.toNat (m[v.toNat] + w)).map D.int) :: (u ++ [.lst [.int (-2), .int (-1), .int 1, .int 2]])), .inl ?_, by simp only [List.take_succ_cons, seqItr_tup, seqItr_tmp, seqItr_ro, items_tup, items_tmp, items_ro, callD, startR, List.map_cons, List.map_nil, List.length_cons, List.length_nil, Nat.sub_self, Nat.reduceSub, Nat.reduceAdd, List.replicate, List.append_nil, List.cons_append, List.nil_append, get0, getS, R.bind, R.on, RS.seq, truth_bl, nextO, stV, alloc, setVars, setTg, List.set_cons_zero, List.set_cons_succ, wipe, biU, bi1, bi2, perm, R.opt, fin_ret, fin_next, retU_d, retU_tmp, retU_ro, take_len, add_int, sub_int, bin_add, bin_mul, cmp_eq_int, cmp_ne_int, cmp_lt_int, cmp_le_int, cmp_gt_int, cmp_ge_int, cmp_eq_bl, cmp_ne_bl, negR, notR, onBl, onBlO, tupR, lstR, datas, Option.map_some, gvR, Lib.at, dv_var, dv_non, dv_bl, dv_int, dv_str, dv_gv, dv_bin, dv_neg, dv_cmp, dv_cmp2, dv_and, dv_or, dv_not, dv_ife, dv_tup, dv_lst, dv_idx, dv_slice, dv_call, dv_bi1, dv_bi2, dv_meth, dv_sdict, dt_and, dt_or, dt_not, dt_var, dt_bl, dt_cmp, dt_cmp2, dt_call, dt_bi, dt_idx, dt_bin, dt_ife, dq_var, dq_call, dq_bi, dq_idx, dq_bin, dq_ife, dq_int, dq_neg, dq_absent, di_var, di_call, di_bi, di_idx, di_bin, di_ife, di_lst, di_tup, di_slice, di_comp, di_rng1, di_rng2, di_enum, di_zip, ds_asg, ds_asgT, ds_par, ds_sub, ds_aug, ds_expr, ds_ret, ds_retN, ds_pass, ds_brk, ds_cont, ds_ife, dss_nil, dss_cons, dns_nil, dns_cons, evs_nil, evs_cons], a2, b2, m.set v.toNat (m[v.toNat] + w), u ++ [.lst [.int (-2), .int (-1), .int 1, .int 2]], rfl, hb2, by simp [hl], fun x hx => ?_, fun y hy => hx y (List.mem_cons_of_mem _ hy)⟩
      · have sb := sub_obj (v := v) (m := m) (y := m[v.toNat] + w) (ρ := [some (.obj 0), some (.d (rowD m0)), some (.obj (t.length + 1)), some (.d (.int i)), some (.d (.int v))]) (h := jarM a2 b2 :: (t ++ .lst (m.map D.int) :: (u ++ [.lst [.int (-2), .int (-1), .int 1, .int 2]]))) at_len v1.1 vl
        simp only [List.take_succ_cons, seqItr_tup, seqItr_tmp, seqItr_ro, items_tup, items_tmp, items_ro, callD, startR, List.map_cons, List.map_nil, List.length_cons, List.length_nil, Nat.sub_self, Nat.reduceSub, Nat.reduceAdd, List.replicate, List.append_nil, List.cons_append, List.nil_append, get0, getS, R.bind, R.on, RS.seq, truth_bl, nextO, stV, alloc, setVars, setTg, List.set_cons_zero, List.set_cons_succ, wipe, biU, bi1, bi2, perm, R.opt, fin_ret, fin_next, retU_d, retU_tmp, retU_ro, take_len, add_int, sub_int, bin_add, bin_mul, cmp_eq_int, cmp_ne_int, cmp_lt_int, cmp_le_int, cmp_gt_int, cmp_ge_int, cmp_eq_bl, cmp_ne_bl, negR, notR, onBl, onBlO, tupR, lstR, datas, Option.map_some, gvR, Lib.at, dv_var, dv_non, dv_bl, dv_int, dv_str, dv_gv, dv_bin, dv_neg, dv_cmp, dv_cmp2, dv_and, dv_or, dv_not, dv_ife, dv_tup, dv_lst, dv_idx, dv_slice, dv_call, dv_bi1, dv_bi2, dv_meth, dv_sdict, dt_and, dt_or, dt_not, dt_var, dt_bl, dt_cmp, dt_cmp2, dt_call, dt_bi, dt_idx, dt_bin, dt_ife, dq_var, dq_call, dq_bi, dq_idx, dq_bin, dq_ife, dq_int, dq_neg, dq_absent, di_var, di_call, di_bi, di_idx, di_bin, di_ife, di_lst, di_tup, di_slice, di_comp, di_rng1, di_rng2, di_enum, di_zip, ds_asg, ds_asgT, ds_par, ds_sub, ds_aug, ds_expr, ds_ret, ds_retN, ds_pass, ds_brk, ds_cont, ds_ife, dss_nil, dss_cons, dns_nil, dns_cons, evs_nil, evs_cons, List.length_map, e1, ix, sz, if_true, List.append_assoc, List.length_append, e2, sb, set_app]
      · have hm := hbd
        rcases List.mem_or_eq_of_mem_set hx with hx | rfl
        · have := hbd x hx
          simp only [List.length_cons] at this
          omega
        · have := hbd m[v.toNat] (List.getElem_mem vl)
          simp only [List.length_cons] at this
          omega)
    (fun ρ h _ => ok_none)
  refine ⟨m2, a2, b2, ?_, f3, fun x hx => by have := f4 x hx; simp at this; omega, f2⟩
  subst eρ f1
  have e3 := items_obj (i := t.length + 1) (xs := m2.map D.int) (h := jarM a2 b2 :: (t ++ .lst (m2.map D.int) :: u2)) at_len
  simp only [List.take_succ_cons, seqItr_tup, seqItr_tmp, seqItr_ro, items_tup, items_tmp, items_ro, callD, startR, List.map_cons, List.map_nil, List.length_cons, List.length_nil, Nat.sub_self, Nat.reduceSub, Nat.reduceAdd, List.replicate, List.append_nil, List.cons_append, List.nil_append, get0, getS, R.bind, R.on, RS.seq, truth_bl, nextO, stV, alloc, setVars, setTg, List.set_cons_zero, List.set_cons_succ, wipe, biU, bi1, bi2, perm, R.opt, fin_ret, fin_next, retU_d, retU_tmp, retU_ro, take_len, add_int, sub_int, bin_add, bin_mul, cmp_eq_int, cmp_ne_int, cmp_lt_int, cmp_le_int, cmp_gt_int, cmp_ge_int, cmp_eq_bl, cmp_ne_bl, negR, notR, onBl, onBlO, tupR, lstR, datas, Option.map_some, gvR, Lib.at, dv_var, dv_non, dv_bl, dv_int, dv_str, dv_gv, dv_bin, dv_neg, dv_cmp, dv_cmp2, dv_and, dv_or, dv_not, dv_ife, dv_tup, dv_lst, dv_idx, dv_slice, dv_call, dv_bi1, dv_bi2, dv_meth, dv_sdict, dt_and, dt_or, dt_not, dt_var, dt_bl, dt_cmp, dt_cmp2, dt_call, dt_bi, dt_idx, dt_bin, dt_ife, dq_var, dq_call, dq_bi, dq_idx, dq_bin, dq_ife, dq_int, dq_neg, dq_absent, di_var, di_call, di_bi, di_idx, di_bin, di_ife, di_lst, di_tup, di_slice, di_comp, di_rng1, di_rng2, di_enum, di_zip, ds_asg, ds_asgT, ds_par, ds_sub, ds_aug, ds_expr, ds_ret, ds_retN, ds_pass, ds_brk, ds_cont, ds_ife, dss_nil, dss_cons, dns_nil, dns_cons, evs_nil, evs_cons, f__law_near_motion, s__law_near_motion]
  rw [ef]
  simp only [List.take_succ_cons, seqItr_tup, seqItr_tmp, seqItr_ro, items_tup, items_tmp, items_ro, callD, startR, List.map_cons, List.map_nil, List.length_cons, List.length_nil, Nat.sub_self, Nat.reduceSub, Nat.reduceAdd, List.replicate, List.append_nil, List.cons_append, List.nil_append, get0, getS, R.bind, R.on, RS.seq, truth_bl, nextO, stV, alloc, setVars, setTg, List.set_cons_zero, List.set_cons_succ, wipe, biU, bi1, bi2, perm, R.opt, fin_ret, fin_next, retU_d, retU_tmp, retU_ro, take_len, add_int, sub_int, bin_add, bin_mul, cmp_eq_int, cmp_ne_int, cmp_lt_int, cmp_le_int, cmp_gt_int, cmp_ge_int, cmp_eq_bl, cmp_ne_bl, negR, notR, onBl, onBlO, tupR, lstR, datas, Option.map_some, gvR, Lib.at, dv_var, dv_non, dv_bl, dv_int, dv_str, dv_gv, dv_bin, dv_neg, dv_cmp, dv_cmp2, dv_and, dv_or, dv_not, dv_ife, dv_tup, dv_lst, dv_idx, dv_slice, dv_call, dv_bi1, dv_bi2, dv_meth, dv_sdict, dt_and, dt_or, dt_not, dt_var, dt_bl, dt_cmp, dt_cmp2, dt_call, dt_bi, dt_idx, dt_bin, dt_ife, dq_var, dq_call, dq_bi, dq_idx, dq_bin, dq_ife, dq_int, dq_neg, dq_absent, di_var, di_call, di_bi, di_idx, di_bin, di_ife, di_lst, di_tup, di_slice, di_comp, di_rng1, di_rng2, di_enum, di_zip, ds_asg, ds_asgT, ds_par, ds_sub, ds_aug, ds_expr, ds_ret, ds_retN, ds_pass, ds_brk, ds_cont, ds_ife, dss_nil, dss_cons, dns_nil, dns_cons, evs_nil, evs_cons, e3]
  simp
theorem slice_to {r : List Int} {i : Int} {h : Hs} (h0 : 0 ≤ i) : sliceU (.d (rowD r)) none (some i) h = some (.d (rowD (r.take i.toNat))) := by
  have e : sliceU (.d (rowD r)) none (some i) h = some (.d (.tup (cut (r.map D.int) none (some i)))) := rfl
  rw [e]
  unfold cut
  have e2 : HT.sIx (r.map D.int).length (r.map D.int).length (some i) = min i.toNat r.length := by
    show (if i < 0 then _ else min i.toNat (r.map D.int).length) = _
    rw [if_neg (by omega), List.length_map]
  have e3 : HT.sIx (r.map D.int).length 0 none = 0 := rfl
  rw [e2, e3, List.drop_zero, Nat.sub_zero, ← List.map_take]
  congr 4
  by_cases hi : i.toNat ≤ r.length
  · rw [Nat.min_eq_left hi]
  · rw [Nat.min_eq_right (by omega), List.take_length, List.take_of_length_le (by omega)]
theorem slice_from {r : List Int} {i : Int} {h : Hs} (h0 : 0 ≤ i) : sliceU (.d (rowD r)) (some i) none h = some (.d (rowD (r.drop i.toNat))) := by
  have e : sliceU (.d (rowD r)) (some i) none h = some (.d (.tup (cut (r.map D.int) (some i) none))) := rfl
  rw [e]
  unfold cut
  have e2 : HT.sIx (r.map D.int).length 0 (some i) = min i.toNat r.length := by
    show (if i < 0 then _ else min i.toNat (r.map D.int).length) = _
    rw [if_neg (by omega), List.length_map]
  have e3 : HT.sIx (r.map D.int).length (r.map D.int).length none = r.length := by
    show (r.map D.int).length = _
    rw [List.length_map]
  rw [e2, e3, ← List.map_drop, ← List.map_take]
  congr 4
  rw [List.take_of_length_le (by simp)]
  by_cases hi : i.toNat ≤ r.length
  · rw [Nat.min_eq_left hi]
  · rw [Nat.min_eq_right (by omega), List.drop_length, List.drop_eq_nil_of_le (by omega)]
theorem add_row {r s : List Int} (hz : r.length + s.length ≤ 1000000) : addU (.d (rowD r)) (.d (rowD s)) = some (.d (rowD (r ++ s))) := by
  have e : addU (.d (rowD r)) (.d (rowD s)) = if (r.map D.int).length + (s.map D.int).length ≤ sizeLine then some (.d (.tup (r.map D.int ++ s.map D.int))) else none := rfl
  rw [e, if_pos (by simp only [List.length_map]; exact le_size hz), ← List.map_append]
theorem one_tup {i : Int} : D.tup [.int i] = rowD [i] := rfl
theorem m__law_other_row (k : Nat) (a b n : Int) (one : List Int) (t : Hs) (hb : JOk b) (hn : 1 ≤ n ∧ n ≤ 6) (hl : (one.length : Int) = n) (hs : Sg one) :
    ∃ (r : List Int) (a' b' : Int), callK lib (k + 3) i__law_other_row [.obj 0, .d (.int n), .d (rowD one)] (jarM a b :: t) = .ok (.d (rowD r)) (jarM a' b' :: t) ∧ (r.length : Int) = n ∧ Sg r ∧ JOk b' := by
  rw [ck (T := lib) (fn := f__law_other_row) rfl rfl]
  obtain ⟨w, a1, b1, e1, w1, hb1⟩ := m__law_take (k + 1) a b 7 t hb (by omega)
  obtain ⟨i, a2, b2, e2, i1, hb2⟩ := m__law_take (k + 1) a1 b1 n t hb1 (by omega)
  have sg0 : Sg (List.replicate n.toNat 0) := fun x hx => by rw [List.eq_of_mem_replicate hx]; decide
  have sgn_ : Sg (one.map fun i => -i) := fun x hx => by
    obtain ⟨y, hy, rfl⟩ := List.mem_map.mp hx
    have := hs y hy
    omega
  by_cases c1 : w < 2
  · obtain ⟨r, a3, b3, e3, r1, r2, r3⟩ := m__law_any_row k a2 b2 n t hb2 (by omega)
    refine ⟨r, a3, b3, ?_, r1, r2, r3⟩
    simp only [List.take_succ_cons, seqItr_tup, seqItr_tmp, seqItr_ro, items_tup, items_tmp, items_ro, callD, startR, List.map_cons, List.map_nil, List.length_cons, List.length_nil, Nat.sub_self, Nat.reduceSub, Nat.reduceAdd, List.replicate, List.append_nil, List.cons_append, List.nil_append, get0, getS, R.bind, R.on, RS.seq, truth_bl, nextO, stV, alloc, setVars, setTg, List.set_cons_zero, List.set_cons_succ, wipe, biU, bi1, bi2, perm, R.opt, fin_ret, fin_next, retU_d, retU_tmp, retU_ro, take_len, add_int, sub_int, bin_add, bin_mul, cmp_eq_int, cmp_ne_int, cmp_lt_int, cmp_le_int, cmp_gt_int, cmp_ge_int, cmp_eq_bl, cmp_ne_bl, negR, notR, onBl, onBlO, tupR, lstR, datas, Option.map_some, gvR, Lib.at, dv_var, dv_non, dv_bl, dv_int, dv_str, dv_gv, dv_bin, dv_neg, dv_cmp, dv_cmp2, dv_and, dv_or, dv_not, dv_ife, dv_tup, dv_lst, dv_idx, dv_slice, dv_call, dv_bi1, dv_bi2, dv_meth, dv_sdict, dt_and, dt_or, dt_not, dt_var, dt_bl, dt_cmp, dt_cmp2, dt_call, dt_bi, dt_idx, dt_bin, dt_ife, dq_var, dq_call, dq_bi, dq_idx, dq_bin, dq_ife, dq_int, dq_neg, dq_absent, di_var, di_call, di_bi, di_idx, di_bin, di_ife, di_lst, di_tup, di_slice, di_comp, di_rng1, di_rng2, di_enum, di_zip, ds_asg, ds_asgT, ds_par, ds_sub, ds_aug, ds_expr, ds_ret, ds_retN, ds_pass, ds_brk, ds_cont, ds_ife, dss_nil, dss_cons, dns_nil, dns_cons, evs_nil, evs_cons, f__law_other_row, s__law_other_row, e1, e2, c1, decide_true, if_true, e3]
  by_cases c2 : w = 2
  · refine ⟨List.replicate n.toNat 0, a2, b2, ?_, by simp; omega, sg0, hb2⟩
    have e3 := m__law_level (k + 1) (jarM a2 b2 :: t) n hn.1 hn.2
    subst c2
    simp only [List.take_succ_cons, seqItr_tup, seqItr_tmp, seqItr_ro, items_tup, items_tmp, items_ro, callD, startR, List.map_cons, List.map_nil, List.length_cons, List.length_nil, Nat.sub_self, Nat.reduceSub, Nat.reduceAdd, List.replicate, List.append_nil, List.cons_append, List.nil_append, get0, getS, R.bind, R.on, RS.seq, truth_bl, nextO, stV, alloc, setVars, setTg, List.set_cons_zero, List.set_cons_succ, wipe, biU, bi1, bi2, perm, R.opt, fin_ret, fin_next, retU_d, retU_tmp, retU_ro, take_len, add_int, sub_int, bin_add, bin_mul, cmp_eq_int, cmp_ne_int, cmp_lt_int, cmp_le_int, cmp_gt_int, cmp_ge_int, cmp_eq_bl, cmp_ne_bl, negR, notR, onBl, onBlO, tupR, lstR, datas, Option.map_some, gvR, Lib.at, dv_var, dv_non, dv_bl, dv_int, dv_str, dv_gv, dv_bin, dv_neg, dv_cmp, dv_cmp2, dv_and, dv_or, dv_not, dv_ife, dv_tup, dv_lst, dv_idx, dv_slice, dv_call, dv_bi1, dv_bi2, dv_meth, dv_sdict, dt_and, dt_or, dt_not, dt_var, dt_bl, dt_cmp, dt_cmp2, dt_call, dt_bi, dt_idx, dt_bin, dt_ife, dq_var, dq_call, dq_bi, dq_idx, dq_bin, dq_ife, dq_int, dq_neg, dq_absent, di_var, di_call, di_bi, di_idx, di_bin, di_ife, di_lst, di_tup, di_slice, di_comp, di_rng1, di_rng2, di_enum, di_zip, ds_asg, ds_asgT, ds_par, ds_sub, ds_aug, ds_expr, ds_ret, ds_retN, ds_pass, ds_brk, ds_cont, ds_ife, dss_nil, dss_cons, dns_nil, dns_cons, evs_nil, evs_cons, f__law_other_row, s__law_other_row, e1, e2, c1, decide_true, decide_false, Bool.false_eq_true, if_true, if_false, e3]
  by_cases c3 : w = 3
  · refine ⟨one, a2, b2, ?_, hl, hs, hb2⟩
    subst c3
    simp only [List.take_succ_cons, seqItr_tup, seqItr_tmp, seqItr_ro, items_tup, items_tmp, items_ro, callD, startR, List.map_cons, List.map_nil, List.length_cons, List.length_nil, Nat.sub_self, Nat.reduceSub, Nat.reduceAdd, List.replicate, List.append_nil, List.cons_append, List.nil_append, get0, getS, R.bind, R.on, RS.seq, truth_bl, nextO, stV, alloc, setVars, setTg, List.set_cons_zero, List.set_cons_succ, wipe, biU, bi1, bi2, perm, R.opt, fin_ret, fin_next, retU_d, retU_tmp, retU_ro, take_len, add_int, sub_int, bin_add, bin_mul, cmp_eq_int, cmp_ne_int, cmp_lt_int, cmp_le_int, cmp_gt_int, cmp_ge_int, cmp_eq_bl, cmp_ne_bl, negR, notR, onBl, onBlO, tupR, lstR, datas, Option.map_some, gvR, Lib.at, dv_var, dv_non, dv_bl, dv_int, dv_str, dv_gv, dv_bin, dv_neg, dv_cmp, dv_cmp2, dv_and, dv_or, dv_not, dv_ife, dv_tup, dv_lst, dv_idx, dv_slice, dv_call, dv_bi1, dv_bi2, dv_meth, dv_sdict, dt_and, dt_or, dt_not, dt_var, dt_bl, dt_cmp, dt_cmp2, dt_call, dt_bi, dt_idx, dt_bin, dt_ife, dq_var, dq_call, dq_bi, dq_idx, dq_bin, dq_ife, dq_int, dq_neg, dq_absent, di_var, di_call, di_bi, di_idx, di_bin, di_ife, di_lst, di_tup, di_slice, di_comp, di_rng1, di_rng2, di_enum, di_zip, ds_asg, ds_asgT, ds_par, ds_sub, ds_aug, ds_expr, ds_ret, ds_retN, ds_pass, ds_brk, ds_cont, ds_ife, dss_nil, dss_cons, dns_nil, dns_cons, evs_nil, evs_cons, f__law_other_row, s__law_other_row, e1, e2, c1, c2, decide_true, decide_false, Bool.false_eq_true, if_true, if_false]
  obtain ⟨v, a3, b3, e3, v1, hb3⟩ := m__law_take (k + 1) a2 b2 3 t hb2 (by omega)
  have sz1 : (1 : Nat) ≤ sizeLine := by decide
  have fin : ∀ other : List Int, (other.length : Int) = n → Sg other → ((other.take i.toNat ++ [v - 1] ++ other.drop (i + 1).toNat).length : Int) = n ∧ Sg (other.take i.toNat ++ [v - 1] ++ other.drop (i + 1).toNat) := by
    intro other ho so
    refine ⟨by simp; omega, fun x hx => ?_⟩
    rcases List.mem_append.mp hx with hx | hx
    · rcases List.mem_append.mp hx with hx | hx
      · exact so x (List.mem_of_mem_take hx)
      · rw [List.mem_singleton.mp hx]; omega
    · exact so x (List.mem_of_mem_drop hx)
  have ad1 : ∀ other : List Int, (other.length : Int) = n → addU (.d (rowD (other.take i.toNat))) (.d (rowD [v - 1])) = some (.d (rowD (other.take i.toNat ++ [v - 1]))) := fun other ho => add_row (by simp; omega)
  have ad2 : ∀ other : List Int, (other.length : Int) = n → addU (.d (rowD (other.take i.toNat ++ [v - 1]))) (.d (rowD (other.drop (i + 1).toNat))) = some (.d (rowD (other.take i.toNat ++ [v - 1] ++ other.drop (i + 1).toNat))) := fun other ho => add_row (by simp; omega)
  have st := fun other : List Int => slice_to (r := other) (i := i) (h := jarM a2 b2 :: t) i1.1
  have sf := fun other : List Int => slice_from (r := other) (i := i + 1) (h := jarM a3 b3 :: t) (by omega)
  have tn := m__law_turned (k + 1) (jarM a2 b2 :: t) one (le_size (by omega))
  have hl2 : ((one.map fun i => -i).length : Int) = n := by simpa using hl
  by_cases c4 : w = 4
  · refine ⟨one.map fun i => -i, a2, b2, ?_, hl2, sgn_, hb2⟩
    subst c4
    have c6 : (4 : Int) < 6 := by omega
    simp only [List.take_succ_cons, seqItr_tup, seqItr_tmp, seqItr_ro, items_tup, items_tmp, items_ro, callD, startR, List.map_cons, List.map_nil, List.length_cons, List.length_nil, Nat.sub_self, Nat.reduceSub, Nat.reduceAdd, List.replicate, List.append_nil, List.cons_append, List.nil_append, get0, getS, R.bind, R.on, RS.seq, truth_bl, nextO, stV, alloc, setVars, setTg, List.set_cons_zero, List.set_cons_succ, wipe, biU, bi1, bi2, perm, R.opt, fin_ret, fin_next, retU_d, retU_tmp, retU_ro, take_len, add_int, sub_int, bin_add, bin_mul, cmp_eq_int, cmp_ne_int, cmp_lt_int, cmp_le_int, cmp_gt_int, cmp_ge_int, cmp_eq_bl, cmp_ne_bl, negR, notR, onBl, onBlO, tupR, lstR, datas, Option.map_some, gvR, Lib.at, dv_var, dv_non, dv_bl, dv_int, dv_str, dv_gv, dv_bin, dv_neg, dv_cmp, dv_cmp2, dv_and, dv_or, dv_not, dv_ife, dv_tup, dv_lst, dv_idx, dv_slice, dv_call, dv_bi1, dv_bi2, dv_meth, dv_sdict, dt_and, dt_or, dt_not, dt_var, dt_bl, dt_cmp, dt_cmp2, dt_call, dt_bi, dt_idx, dt_bin, dt_ife, dq_var, dq_call, dq_bi, dq_idx, dq_bin, dq_ife, dq_int, dq_neg, dq_absent, di_var, di_call, di_bi, di_idx, di_bin, di_ife, di_lst, di_tup, di_slice, di_comp, di_rng1, di_rng2, di_enum, di_zip, ds_asg, ds_asgT, ds_par, ds_sub, ds_aug, ds_expr, ds_ret, ds_retN, ds_pass, ds_brk, ds_cont, ds_ife, dss_nil, dss_cons, dns_nil, dns_cons, evs_nil, evs_cons, f__law_other_row, s__law_other_row, e1, e2, c1, c2, c3, c6, tn, decide_true, decide_false, Bool.false_eq_true, if_true, if_false]
  by_cases c6 : w < 6
  · refine ⟨_, a3, b3, ?_, (fin _ hl2 sgn_).1, (fin _ hl2 sgn_).2, hb3⟩
    simp only [List.take_succ_cons, seqItr_tup, seqItr_tmp, seqItr_ro, items_tup, items_tmp, items_ro, callD, startR, List.map_cons, List.map_nil, List.length_cons, List.length_nil, Nat.sub_self, Nat.reduceSub, Nat.reduceAdd, List.replicate, List.append_nil, List.cons_append, List.nil_append, get0, getS, R.bind, R.on, RS.seq, truth_bl, nextO, stV, alloc, setVars, setTg, List.set_cons_zero, List.set_cons_succ, wipe, biU, bi1, bi2, perm, R.opt, fin_ret, fin_next, retU_d, retU_tmp, retU_ro, take_len, add_int, sub_int, bin_add, bin_mul, cmp_eq_int, cmp_ne_int, cmp_lt_int, cmp_le_int, cmp_gt_int, cmp_ge_int, cmp_eq_bl, cmp_ne_bl, negR, notR, onBl, onBlO, tupR, lstR, datas, Option.map_some, gvR, Lib.at, dv_var, dv_non, dv_bl, dv_int, dv_str, dv_gv, dv_bin, dv_neg, dv_cmp, dv_cmp2, dv_and, dv_or, dv_not, dv_ife, dv_tup, dv_lst, dv_idx, dv_slice, dv_call, dv_bi1, dv_bi2, dv_meth, dv_sdict, dt_and, dt_or, dt_not, dt_var, dt_bl, dt_cmp, dt_cmp2, dt_call, dt_bi, dt_idx, dt_bin, dt_ife, dq_var, dq_call, dq_bi, dq_idx, dq_bin, dq_ife, dq_int, dq_neg, dq_absent, di_var, di_call, di_bi, di_idx, di_bin, di_ife, di_lst, di_tup, di_slice, di_comp, di_rng1, di_rng2, di_enum, di_zip, ds_asg, ds_asgT, ds_par, ds_sub, ds_aug, ds_expr, ds_ret, ds_retN, ds_pass, ds_brk, ds_cont, ds_ife, dss_nil, dss_cons, dns_nil, dns_cons, evs_nil, evs_cons, f__law_other_row, s__law_other_row, e1, e2, c1, c2, c3, c4, c6, tn, partR, st, sf, e3, sz1, one_tup, ad1 _ hl2, ad2 _ hl2, decide_true, decide_false, Bool.false_eq_true, if_true, if_false]
  · refine ⟨_, a3, b3, ?_, (fin _ hl hs).1, (fin _ hl hs).2, hb3⟩
    simp only [List.take_succ_cons, seqItr_tup, seqItr_tmp, seqItr_ro, items_tup, items_tmp, items_ro, callD, startR, List.map_cons, List.map_nil, List.length_cons, List.length_nil, Nat.sub_self, Nat.reduceSub, Nat.reduceAdd, List.replicate, List.append_nil, List.cons_append, List.nil_append, get0, getS, R.bind, R.on, RS.seq, truth_bl, nextO, stV, alloc, setVars, setTg, List.set_cons_zero, List.set_cons_succ, wipe, biU, bi1, bi2, perm, R.opt, fin_ret, fin_next, retU_d, retU_tmp, retU_ro, take_len, add_int, sub_int, bin_add, bin_mul, cmp_eq_int, cmp_ne_int, cmp_lt_int, cmp_le_int, cmp_gt_int, cmp_ge_int, cmp_eq_bl, cmp_ne_bl, negR, notR, onBl, onBlO, tupR, lstR, datas, Option.map_some, gvR, Lib.at, dv_var, dv_non, dv_bl, dv_int, dv_str, dv_gv, dv_bin, dv_neg, dv_cmp, dv_cmp2, dv_and, dv_or, dv_not, dv_ife, dv_tup, dv_lst, dv_idx, dv_slice, dv_call, dv_bi1, dv_bi2, dv_meth, dv_sdict, dt_and, dt_or, dt_not, dt_var, dt_bl, dt_cmp, dt_cmp2, dt_call, dt_bi, dt_idx, dt_bin, dt_ife, dq_var, dq_call, dq_bi, dq_idx, dq_bin, dq_ife, dq_int, dq_neg, dq_absent, di_var, di_call, di_bi, di_idx, di_bin, di_ife, di_lst, di_tup, di_slice, di_comp, di_rng1, di_rng2, di_enum, di_zip, ds_asg, ds_asgT, ds_par, ds_sub, ds_aug, ds_expr, ds_ret, ds_retN, ds_pass, ds_brk, ds_cont, ds_ife, dss_nil, dss_cons, dns_nil, dns_cons, evs_nil, evs_cons, f__law_other_row, s__law_other_row, e1, e2, c1, c2, c3, c4, c6, partR, st, sf, e3, sz1, one_tup, ad1 _ hl, ad2 _ hl, decide_true, decide_false, Bool.false_eq_true, if_true, if_false]
theorem push_ok {h : Hs} {acc : List D} {y : D} (hz : acc.length < sizeLine) : pushD h.length (.d y) (h ++ [.lst acc]) = .ok () (h ++ [.lst (acc ++ [y])]) := by
  unfold pushD
  rw [get_app]
  dsimp only
  rw [if_pos hz, set_app]
/-- a comprehension of two loops over rows, one number more for each -/
theorem comp2_rows {C : Cc} {vs vs1 tg tg1 : List Nat} {elt it it1 : E} {ρ : Rho} {h : Hs} {F : List (List Int)} {N : List Int} {w : Option (Nat × MO)}
    (hi : (den C it).i ρ h = .ok ⟨F.map rowD, w⟩ h) (okw : ∀ acc, IterD.ok w (h ++ [.lst acc]) = true) (hz : F.length * N.length ≤ 1000000)
    (step : ∀ r : List Int, ∃ ρ', setTg tg (rowD r) (wipe ρ vs) = some ρ' ∧ (∀ hh, (den C it1).i ρ' hh = .ok ⟨N.map .int, none⟩ hh) ∧ ∀ c : Int, ∃ ρ2, setTg tg1 (.int c) (wipe ρ' vs1) = some ρ2 ∧ (r ∈ F → ∀ hh, (den C elt).v ρ2 hh = .ok (.d (rowD (r ++ [c]))) hh)) :
    (den C (.comp2 vs vs1 tg tg1 elt it it1 [] [])).v ρ h = .ok (.tmp (.lst ((F.flatMap fun r => N.map fun c => r ++ [c]).map rowD))) h := by
  have inner : ∀ (r : List Int) (ρ' : Rho), r ∈ F → (∀ c : Int, ∃ ρ2, setTg tg1 (.int c) (wipe ρ' vs1) = some ρ2 ∧ (r ∈ F → ∀ hh, (den C elt).v ρ2 hh = .ok (.d (rowD (r ++ [c]))) hh)) →
      ∀ (M : List Int) (acc : List D), acc.length + M.length ≤ 1000000 → compM none (turn2R h.length vs1 tg1 (den C elt) (dens C []) ρ') (M.map .int) (h ++ [.lst acc]) = .ok () (h ++ [.lst (acc ++ M.map fun c => rowD (r ++ [c]))]) := by
    intro r ρ' hr st M
    induction M with
    | nil => intro acc _; rw [List.map_nil, List.map_nil, List.append_nil]; unfold compM; rw [if_pos ok_none]
    | cons c M ih =>
      intro acc hl
      obtain ⟨ρ2, e1, e2⟩ := st c
      rw [List.map_cons]
      unfold compM
      have q : turn2R h.length vs1 tg1 (den C elt) (dens C []) ρ' (.int c) (h ++ [.lst acc]) = .ok () (h ++ [.lst (acc ++ [rowD (r ++ [c])])]) := by
        unfold turn2R
        rw [e1]
        show ((den C elt).v ρ2 (h ++ [.lst acc])).bind (pushD h.length) = _
        rw [e2 hr]
        refine push_ok (Nat.lt_of_lt_of_le ?_ (le_size (Nat.le_refl _)))
        simp only [List.length_cons] at hl
        omega
      rw [if_pos ok_none, q]
      show compM none _ _ _ = _
      rw [ih _ (by simp only [List.length_cons, List.length_append, List.length_nil] at hl ⊢; omega)]
      simp
  have outer : ∀ (G : List (List Int)) (acc : List D), (∀ r ∈ G, r ∈ F) → acc.length + G.length * N.length ≤ 1000000 → compM w (turn1R h.length vs vs1 tg tg1 (den C elt) (den C it1) (dens C []) (dens C []) ρ) (G.map rowD) (h ++ [.lst acc]) = .ok () (h ++ [.lst (acc ++ (G.flatMap fun r => N.map fun c => r ++ [c]).map rowD)]) := by
    intro G
    induction G with
    | nil => intro acc _ _; rw [List.map_nil]; unfold compM; rw [if_pos (okw acc)]; simp
    | cons r G ih =>
      intro acc hG hl
      rw [List.length_cons, Nat.add_mul, Nat.one_mul] at hl
      obtain ⟨ρ', e1, e2, e3⟩ := step r
      rw [List.map_cons]
      unfold compM
      have q : turn1R h.length vs vs1 tg tg1 (den C elt) (den C it1) (dens C []) (dens C []) ρ (rowD r) (h ++ [.lst acc]) = .ok () (h ++ [.lst (acc ++ N.map fun c => rowD (r ++ [c]))]) := by
        unfold turn1R
        rw [e1]
        show ((den C it1).i ρ' (h ++ [.lst acc])).bind _ = _
        rw [e2]
        exact inner r ρ' (hG r List.mem_cons_self) e3 N acc (by omega)
      rw [if_pos (okw acc), q]
      show compM w _ _ _ = _
      rw [ih _ (fun x hx => hG x (List.mem_cons_of_mem _ hx)) (by rw [List.length_append, List.length_map]; omega)]
      simp [Function.comp_def]
  show comp2R vs vs1 tg tg1 (den C elt) (den C it) (den C it1) (dens C []) (dens C []) ρ h = _
  unfold comp2R
  rw [hi]
  simp only [R.bind]
  rw [outer F [] (fun _ z => z) (by simpa using hz)]
  simp only [List.nil_append]
  unfold popR
  rw [get_app, take_app]
def sumsL : List Int → List Int → List (List Int) → List (List Int)
  | a :: r, b :: s, F => sumsL r s (F.flatMap fun row => (nums a b).map fun c => row ++ [c])
  | _, _, F => F
theorem nums_len (a b : Int) : 1 ≤ (nums a b).length ∧ (nums a b).length ≤ 3 := by
  unfold nums
  split
  · simp
  · split <;> simp
theorem flat_len {N : List Int} : ∀ F : List (List Int), (F.flatMap fun row => N.map fun c => row ++ [c]).length = F.length * N.length
  | [] => by simp
  | r :: F => by rw [List.flatMap_cons, List.length_append, flat_len F, List.length_map, List.length_cons, Nat.add_mul, Nat.one_mul, Nat.add_comm]
theorem enumD_cons {i : Int} {x : Int} {r : List Int} : enumD i ((x :: r).map .int) = .tup [.int i, .int x] :: enumD (i + 1) (r.map .int) := rfl
theorem m_sums (k : Nat) (one two : List Int) (h : Hs) (hl : one.length = two.length) (h6 : one.length ≤ 6) : callK lib (k + 2) i_sums [.d (rowD one), .d (rowD two)] h = .ok (.d (rowsD (sumsL one two [[]]))) h := by
  rw [ck (T := lib) (fn := f_sums) rfl rfl]
  obtain ⟨ρ', h', ef, F, u, e1, e2, e3⟩ := for_inv (C := ⟨callK lib (k + 1), lib.gv⟩) (tg := [3, 4]) (wp := [3, 4]) (it := .enum (.var 0))
    (body := [(.asg 2 (.comp2 [5, 6] [6] [5] [6] (.bin .add (.var 5) (.tup [(.var 6)])) (.var 2) (.call i_numbers_of [(.var 4), (.idx (.var 1) (.var 3))] []) [] []))])
    (ρ := [some (.d (rowD one)), some (.d (rowD two)), some (.obj h.length), none, none, none, none]) (h := h ++ [.lst [.tup []]]) (h1 := h ++ [.lst [.tup []]]) (w := none) (xs := enumD 0 (one.map .int))
    (fun rem ρ hh => ∃ (F : List (List Int)) (u : Hs), ρ = [some (.d (rowD one)), some (.d (rowD two)), some (.obj (h ++ u).length), none, none, none, none] ∧ hh = h ++ u ++ [.lst (F.map rowD)] ∧
      ∃ i : Nat, rem = enumD (i : Int) ((one.drop i).map .int) ∧ i ≤ one.length ∧ F.length ≤ 3 ^ i ∧ (∀ r ∈ F, r.length = i) ∧ sumsL (one.drop i) (two.drop i) F = sumsL one two [[]])
    (by simp only [List.take_succ_cons, seqItr_tup, seqItr_tmp, seqItr_ro, items_tup, items_tmp, items_ro, callD, startR, List.map_cons, List.map_nil, List.length_cons, List.length_nil, Nat.sub_self, Nat.reduceSub, Nat.reduceAdd, List.replicate, List.append_nil, List.cons_append, List.nil_append, get0, getS, R.bind, R.on, RS.seq, truth_bl, nextO, stV, alloc, setVars, setTg, List.set_cons_zero, List.set_cons_succ, wipe, biU, bi1, bi2, perm, R.opt, fin_ret, fin_next, retU_d, retU_tmp, retU_ro, take_len, add_int, sub_int, bin_add, bin_mul, cmp_eq_int, cmp_ne_int, cmp_lt_int, cmp_le_int, cmp_gt_int, cmp_ge_int, cmp_eq_bl, cmp_ne_bl, negR, notR, onBl, onBlO, tupR, lstR, datas, Option.map_some, gvR, Lib.at, dv_var, dv_non, dv_bl, dv_int, dv_str, dv_gv, dv_bin, dv_neg, dv_cmp, dv_cmp2, dv_and, dv_or, dv_not, dv_ife, dv_tup, dv_lst, dv_idx, dv_slice, dv_call, dv_bi1, dv_bi2, dv_meth, dv_sdict, dt_and, dt_or, dt_not, dt_var, dt_bl, dt_cmp, dt_cmp2, dt_call, dt_bi, dt_idx, dt_bin, dt_ife, dq_var, dq_call, dq_bi, dq_idx, dq_bin, dq_ife, dq_int, dq_neg, dq_absent, di_var, di_call, di_bi, di_idx, di_bin, di_ife, di_lst, di_tup, di_slice, di_comp, di_rng1, di_rng2, di_enum, di_zip, ds_asg, ds_asgT, ds_par, ds_sub, ds_aug, ds_expr, ds_ret, ds_retN, ds_pass, ds_brk, ds_cont, ds_ife, dss_nil, dss_cons, dns_nil, dns_cons, evs_nil, evs_cons]) ⟨[[]], [], by simp only [List.take_succ_cons, seqItr_tup, seqItr_tmp, seqItr_ro, items_tup, items_tmp, items_ro, callD, startR, List.map_cons, List.map_nil, List.length_cons, List.length_nil, Nat.sub_self, Nat.reduceSub, Nat.reduceAdd, List.replicate, List.append_nil, List.cons_append, List.nil_append, get0, getS, R.bind, R.on, RS.seq, truth_bl, nextO, stV, alloc, setVars, setTg, List.set_cons_zero, List.set_cons_succ, wipe, biU, bi1, bi2, perm, R.opt, fin_ret, fin_next, retU_d, retU_tmp, retU_ro, take_len, add_int, sub_int, bin_add, bin_mul, cmp_eq_int, cmp_ne_int, cmp_lt_int, cmp_le_int, cmp_gt_int, cmp_ge_int, cmp_eq_bl, cmp_ne_bl, negR, notR, onBl, onBlO, tupR, lstR, datas, Option.map_some, gvR, Lib.at, dv_var, dv_non, dv_bl, dv_int, dv_str, dv_gv, dv_bin, dv_neg, dv_cmp, dv_cmp2, dv_and, dv_or, dv_not, dv_ife, dv_tup, dv_lst, dv_idx, dv_slice, dv_call, dv_bi1, dv_bi2, dv_meth, dv_sdict, dt_and, dt_or, dt_not, dt_var, dt_bl, dt_cmp, dt_cmp2, dt_call, dt_bi, dt_idx, dt_bin, dt_ife, dq_var, dq_call, dq_bi, dq_idx, dq_bin, dq_ife, dq_int, dq_neg, dq_absent, di_var, di_call, di_bi, di_idx, di_bin, di_ife, di_lst, di_tup, di_slice, di_comp, di_rng1, di_rng2, di_enum, di_zip, ds_asg, ds_asgT, ds_par, ds_sub, ds_aug, ds_expr, ds_ret, ds_retN, ds_pass, ds_brk, ds_cont, ds_ife, dss_nil, dss_cons, dns_nil, dns_cons, evs_nil, evs_cons], by simp, 0, by simp, Nat.zero_le _, by simp, by simp, by simp⟩
    (fun x xs ρ hh ⟨F, u, eρ, eh, i, er, hi, hF, hlen, hs⟩ => by
      have hlt : i < one.length := by
        rcases Nat.lt_or_ge i one.length with z | z
        · exact z
        · rw [List.drop_eq_nil_of_le z] at er; cases er
      have hlt2 : i < two.length := by omega
      rw [List.drop_eq_getElem_cons hlt, enumD_cons] at er
      obtain ⟨rfl, rfl⟩ := List.cons.inj er
      rw [List.drop_eq_getElem_cons hlt, List.drop_eq_getElem_cons hlt2] at hs
      subst eρ eh
      have p3 : 3 ^ i ≤ 3 ^ 5 := Nat.pow_le_pow_right (by omega) (by omega)
      have nl := nums_len one[i] two[i]
      have cz : F.length * (nums one[i] two[i]).length ≤ 3 ^ i * 3 := Nat.mul_le_mul hF nl.2
      have key := comp2_rows (C := ⟨callK lib (k + 1), lib.gv⟩) (vs := [5, 6]) (vs1 := [6]) (tg := [5]) (tg1 := [6]) (elt := .bin .add (.var 5) (.tup [(.var 6)])) (it := .var 2) (it1 := .call i_numbers_of [(.var 4), (.idx (.var 1) (.var 3))] [])
        (ρ := [some (.d (rowD one)), some (.d (rowD two)), some (.obj (h ++ u).length), some (.d (.int (i : Int))), some (.d (.int one[i])), none, none]) (h := h ++ u ++ [.lst (F.map rowD)]) (F := F) (N := nums one[i] two[i]) (w := some ((h ++ u).length, .lst (F.map rowD)))
        (by simp only [List.take_succ_cons, seqItr_tup, seqItr_tmp, seqItr_ro, items_tup, items_tmp, items_ro, callD, startR, List.map_cons, List.map_nil, List.length_cons, List.length_nil, Nat.sub_self, Nat.reduceSub, Nat.reduceAdd, List.replicate, List.append_nil, List.cons_append, List.nil_append, get0, getS, R.bind, R.on, RS.seq, truth_bl, nextO, stV, alloc, setVars, setTg, List.set_cons_zero, List.set_cons_succ, wipe, biU, bi1, bi2, perm, R.opt, fin_ret, fin_next, retU_d, retU_tmp, retU_ro, take_len, add_int, sub_int, bin_add, bin_mul, cmp_eq_int, cmp_ne_int, cmp_lt_int, cmp_le_int, cmp_gt_int, cmp_ge_int, cmp_eq_bl, cmp_ne_bl, negR, notR, onBl, onBlO, tupR, lstR, datas, Option.map_some, gvR, Lib.at, dv_var, dv_non, dv_bl, dv_int, dv_str, dv_gv, dv_bin, dv_neg, dv_cmp, dv_cmp2, dv_and, dv_or, dv_not, dv_ife, dv_tup, dv_lst, dv_idx, dv_slice, dv_call, dv_bi1, dv_bi2, dv_meth, dv_sdict, dt_and, dt_or, dt_not, dt_var, dt_bl, dt_cmp, dt_cmp2, dt_call, dt_bi, dt_idx, dt_bin, dt_ife, dq_var, dq_call, dq_bi, dq_idx, dq_bin, dq_ife, dq_int, dq_neg, dq_absent, di_var, di_call, di_bi, di_idx, di_bin, di_ife, di_lst, di_tup, di_slice, di_comp, di_rng1, di_rng2, di_enum, di_zip, ds_asg, ds_asgT, ds_par, ds_sub, ds_aug, ds_expr, ds_ret, ds_retN, ds_pass, ds_brk, ds_cont, ds_ife, dss_nil, dss_cons, dns_nil, dns_cons, evs_nil, evs_cons]; exact seqItr_obj get_app) (fun acc => ok_some (by rw [List.append_assoc]; exact get_app)) (by omega) (fun r => ⟨[some (.d (rowD one)), some (.d (rowD two)), some (.obj (h ++ u).length), some (.d (.int (i : Int))), some (.d (.int one[i])), some (.d (rowD r)), none], by simp only [List.take_succ_cons, seqItr_tup, seqItr_tmp, seqItr_ro, items_tup, items_tmp, items_ro, callD, startR, List.map_cons, List.map_nil, List.length_cons, List.length_nil, Nat.sub_self, Nat.reduceSub, Nat.reduceAdd, List.replicate, List.append_nil, List.cons_append, List.nil_append, get0, getS, R.bind, R.on, RS.seq, truth_bl, nextO, stV, alloc, setVars, setTg, List.set_cons_zero, List.set_cons_succ, wipe, biU, bi1, bi2, perm, R.opt, fin_ret, fin_next, retU_d, retU_tmp, retU_ro, take_len, add_int, sub_int, bin_add, bin_mul, cmp_eq_int, cmp_ne_int, cmp_lt_int, cmp_le_int, cmp_gt_int, cmp_ge_int, cmp_eq_bl, cmp_ne_bl, negR, notR, onBl, onBlO, tupR, lstR, datas, Option.map_some, gvR, Lib.at, dv_var, dv_non, dv_bl, dv_int, dv_str, dv_gv, dv_bin, dv_neg, dv_cmp, dv_cmp2, dv_and, dv_or, dv_not, dv_ife, dv_tup, dv_lst, dv_idx, dv_slice, dv_call, dv_bi1, dv_bi2, dv_meth, dv_sdict, dt_and, dt_or, dt_not, dt_var, dt_bl, dt_cmp, dt_cmp2, dt_call, dt_bi, dt_idx, dt_bin, dt_ife, dq_var, dq_call, dq_bi, dq_idx, dq_bin, dq_ife, dq_int, dq_neg, dq_absent, di_var, di_call, di_bi, di_idx, di_bin, di_ife, di_lst, di_tup, di_slice, di_comp, di_rng1, di_rng2, di_enum, di_zip, ds_asg, ds_asgT, ds_par, ds_sub, ds_aug, ds_expr, ds_ret, ds_retN, ds_pass, ds_brk, ds_cont, ds_ife, dss_nil, dss_cons, dns_nil, dns_cons, evs_nil, evs_cons], fun hh => by simp only [List.take_succ_cons, seqItr_tup, seqItr_tmp, seqItr_ro, items_tup, items_tmp, items_ro, callD, startR, List.map_cons, List.map_nil, List.length_cons, List.length_nil, Nat.sub_self, Nat.reduceSub, Nat.reduceAdd, List.replicate, List.append_nil, List.cons_append, List.nil_append, get0, getS, R.bind, R.on, RS.seq, truth_bl, nextO, stV, alloc, setVars, setTg, List.set_cons_zero, List.set_cons_succ, wipe, biU, bi1, bi2, perm, R.opt, fin_ret, fin_next, retU_d, retU_tmp, retU_ro, take_len, add_int, sub_int, bin_add, bin_mul, cmp_eq_int, cmp_ne_int, cmp_lt_int, cmp_le_int, cmp_gt_int, cmp_ge_int, cmp_eq_bl, cmp_ne_bl, negR, notR, onBl, onBlO, tupR, lstR, datas, Option.map_some, gvR, Lib.at, dv_var, dv_non, dv_bl, dv_int, dv_str, dv_gv, dv_bin, dv_neg, dv_cmp, dv_cmp2, dv_and, dv_or, dv_not, dv_ife, dv_tup, dv_lst, dv_idx, dv_slice, dv_call, dv_bi1, dv_bi2, dv_meth, dv_sdict, dt_and, dt_or, dt_not, dt_var, dt_bl, dt_cmp, dt_cmp2, dt_call, dt_bi, dt_idx, dt_bin, dt_ife, dq_var, dq_call, dq_bi, dq_idx, dq_bin, dq_ife, dq_int, dq_neg, dq_absent, di_var, di_call, di_bi, di_idx, di_bin, di_ife, di_lst, di_tup, di_slice, di_comp, di_rng1, di_rng2, di_enum, di_zip, ds_asg, ds_asgT, ds_par, ds_sub, ds_aug, ds_expr, ds_ret, ds_retN, ds_pass, ds_brk, ds_cont, ds_ife, dss_nil, dss_cons, dns_nil, dns_cons, evs_nil, evs_cons, idx_row hlt2, m_numbers_of],
          fun c => ⟨[some (.d (rowD one)), some (.d (rowD two)), some (.obj (h ++ u).length), some (.d (.int (i : Int))), some (.d (.int one[i])), some (.d (rowD r)), some (.d (.int c))], by simp only [List.take_succ_cons, seqItr_tup, seqItr_tmp, seqItr_ro, items_tup, items_tmp, items_ro, callD, startR, List.map_cons, List.map_nil, List.length_cons, List.length_nil, Nat.sub_self, Nat.reduceSub, Nat.reduceAdd, List.replicate, List.append_nil, List.cons_append, List.nil_append, get0, getS, R.bind, R.on, RS.seq, truth_bl, nextO, stV, alloc, setVars, setTg, List.set_cons_zero, List.set_cons_succ, wipe, biU, bi1, bi2, perm, R.opt, fin_ret, fin_next, retU_d, retU_tmp, retU_ro, take_len, add_int, sub_int, bin_add, bin_mul, cmp_eq_int, cmp_ne_int, cmp_lt_int, cmp_le_int, cmp_gt_int, cmp_ge_int, cmp_eq_bl, cmp_ne_bl, negR, notR, onBl, onBlO, tupR, lstR, datas, Option.map_some, gvR, Lib.at, dv_var, dv_non, dv_bl, dv_int, dv_str, dv_gv, dv_bin, dv_neg, dv_cmp, dv_cmp2, dv_and, dv_or, dv_not, dv_ife, dv_tup, dv_lst, dv_idx, dv_slice, dv_call, dv_bi1, dv_bi2, dv_meth, dv_sdict, dt_and, dt_or, dt_not, dt_var, dt_bl, dt_cmp, dt_cmp2, dt_call, dt_bi, dt_idx, dt_bin, dt_ife, dq_var, dq_call, dq_bi, dq_idx, dq_bin, dq_ife, dq_int, dq_neg, dq_absent, di_var, di_call, di_bi, di_idx, di_bin, di_ife, di_lst, di_tup, di_slice, di_comp, di_rng1, di_rng2, di_enum, di_zip, ds_asg, ds_asgT, ds_par, ds_sub, ds_aug, ds_expr, ds_ret, ds_retN, ds_pass, ds_brk, ds_cont, ds_ife, dss_nil, dss_cons, dns_nil, dns_cons, evs_nil, evs_cons], fun hr hh => by
          have hrl := hlen r hr
          have sz1 : (1 : Nat) ≤ sizeLine := by decide
          simp only [List.take_succ_cons, seqItr_tup, seqItr_tmp, seqItr_ro, items_tup, items_tmp, items_ro, callD, startR, List.map_cons, List.map_nil, List.length_cons, List.length_nil, Nat.sub_self, Nat.reduceSub, Nat.reduceAdd, List.replicate, List.append_nil, List.cons_append, List.nil_append, get0, getS, R.bind, R.on, RS.seq, truth_bl, nextO, stV, alloc, setVars, setTg, List.set_cons_zero, List.set_cons_succ, wipe, biU, bi1, bi2, perm, R.opt, fin_ret, fin_next, retU_d, retU_tmp, retU_ro, take_len, add_int, sub_int, bin_add, bin_mul, cmp_eq_int, cmp_ne_int, cmp_lt_int, cmp_le_int, cmp_gt_int, cmp_ge_int, cmp_eq_bl, cmp_ne_bl, negR, notR, onBl, onBlO, tupR, lstR, datas, Option.map_some, gvR, Lib.at, dv_var, dv_non, dv_bl, dv_int, dv_str, dv_gv, dv_bin, dv_neg, dv_cmp, dv_cmp2, dv_and, dv_or, dv_not, dv_ife, dv_tup, dv_lst, dv_idx, dv_slice, dv_call, dv_bi1, dv_bi2, dv_meth, dv_sdict, dt_and, dt_or, dt_not, dt_var, dt_bl, dt_cmp, dt_cmp2, dt_call, dt_bi, dt_idx, dt_bin, dt_ife, dq_var, dq_call, dq_bi, dq_idx, dq_bin, dq_ife, dq_int, dq_neg, dq_absent, di_var, di_call, di_bi, di_idx, di_bin, di_ife, di_lst, di_tup, di_slice, di_comp, di_rng1, di_rng2, di_enum, di_zip, ds_asg, ds_asgT, ds_par, ds_sub, ds_aug, ds_expr, ds_ret, ds_retN, ds_pass, ds_brk, ds_cont, ds_ife, dss_nil, dss_cons, dns_nil, dns_cons, evs_nil, evs_cons, sz1, if_true, one_tup, add_row (r := r) (s := [c]) (by simp; omega)]⟩⟩)
      refine ⟨ok_none, [some (.d (rowD one)), some (.d (rowD two)), some (.obj (h ++ u).length), some (.d (.int (i : Int))), some (.d (.int one[i])), none, none], by simp only [List.take_succ_cons, seqItr_tup, seqItr_tmp, seqItr_ro, items_tup, items_tmp, items_ro, callD, startR, List.map_cons, List.map_nil, List.length_cons, List.length_nil, Nat.sub_self, Nat.reduceSub, Nat.reduceAdd, List.replicate, List.append_nil, List.cons_append, List.nil_append, get0, getS, R.bind, R.on, RS.seq, truth_bl, nextO, stV, alloc, setVars, setTg, List.set_cons_zero, List.set_cons_succ, wipe, biU, bi1, bi2, perm, R.opt, fin_ret, fin_next, retU_d, retU_tmp, retU_ro, take_len, add_int, sub_int, bin_add, bin_mul, cmp_eq_int, cmp_ne_int, cmp_lt_int, cmp_le_int, cmp_gt_int, cmp_ge_int, cmp_eq_bl, cmp_ne_bl, negR, notR, onBl, onBlO, tupR, lstR, datas, Option.map_some, gvR, Lib.at, dv_var, dv_non, dv_bl, dv_int, dv_str, dv_gv, dv_bin, dv_neg, dv_cmp, dv_cmp2, dv_and, dv_or, dv_not, dv_ife, dv_tup, dv_lst, dv_idx, dv_slice, dv_call, dv_bi1, dv_bi2, dv_meth, dv_sdict, dt_and, dt_or, dt_not, dt_var, dt_bl, dt_cmp, dt_cmp2, dt_call, dt_bi, dt_idx, dt_bin, dt_ife, dq_var, dq_call, dq_bi, dq_idx, dq_bin, dq_ife, dq_int, dq_neg, dq_absent, di_var, di_call, di_bi, di_idx, di_bin, di_ife, di_lst, di_tup, di_slice, di_comp, di_rng1, di_rng2, di_enum, di_zip, ds_asg, ds_asgT, ds_par, ds_sub, ds_aug, ds_expr, ds_ret, ds_retN, ds_pass, ds_brk, ds_cont, ds_ife, dss_nil, dss_cons, dns_nil, dns_cons, evs_nil, evs_cons],
        [some (.d (rowD one)), some (.d (rowD two)), some (.obj (h ++ u ++ [MO.lst (F.map rowD)]).length), some (.d (.int (i : Int))), some (.d (.int one[i])), none, none],
        h ++ u ++ [.lst (F.map rowD)] ++ [.lst ((F.flatMap fun row => (nums one[i] two[i]).map fun c => row ++ [c]).map rowD)], .inl ?_, F.flatMap (fun row => (nums one[i] two[i]).map fun c => row ++ [c]), u ++ [.lst (F.map rowD)], ?_, ?_, i + 1, by simp, by omega, ?_, ?_, hs⟩
      · simp only [List.take_succ_cons, seqItr_tup, seqItr_tmp, seqItr_ro, items_tup, items_tmp, items_ro, callD, startR, List.map_cons, List.map_nil, List.length_cons, List.length_nil, Nat.sub_self, Nat.reduceSub, Nat.reduceAdd, List.replicate, List.append_nil, List.cons_append, List.nil_append, get0, getS, R.bind, R.on, RS.seq, truth_bl, nextO, stV, alloc, setVars, setTg, List.set_cons_zero, List.set_cons_succ, wipe, biU, bi1, bi2, perm, R.opt, fin_ret, fin_next, retU_d, retU_tmp, retU_ro, take_len, add_int, sub_int, bin_add, bin_mul, cmp_eq_int, cmp_ne_int, cmp_lt_int, cmp_le_int, cmp_gt_int, cmp_ge_int, cmp_eq_bl, cmp_ne_bl, negR, notR, onBl, onBlO, tupR, lstR, datas, Option.map_some, gvR, Lib.at, dv_var, dv_non, dv_bl, dv_int, dv_str, dv_gv, dv_bin, dv_neg, dv_cmp, dv_cmp2, dv_and, dv_or, dv_not, dv_ife, dv_tup, dv_lst, dv_idx, dv_slice, dv_call, dv_bi1, dv_bi2, dv_meth, dv_sdict, dt_and, dt_or, dt_not, dt_var, dt_bl, dt_cmp, dt_cmp2, dt_call, dt_bi, dt_idx, dt_bin, dt_ife, dq_var, dq_call, dq_bi, dq_idx, dq_bin, dq_ife, dq_int, dq_neg, dq_absent, di_var, di_call, di_bi, di_idx, di_bin, di_ife, di_lst, di_tup, di_slice, di_comp, di_rng1, di_rng2, di_enum, di_zip, ds_asg, ds_asgT, ds_par, ds_sub, ds_aug, ds_expr, ds_ret, ds_retN, ds_pass, ds_brk, ds_cont, ds_ife, dss_nil, dss_cons, dns_nil, dns_cons, evs_nil, evs_cons, key]
      · simp only [List.take_succ_cons, seqItr_tup, seqItr_tmp, seqItr_ro, items_tup, items_tmp, items_ro, callD, startR, List.map_cons, List.map_nil, List.length_cons, List.length_nil, Nat.sub_self, Nat.reduceSub, Nat.reduceAdd, List.replicate, List.append_nil, List.cons_append, List.nil_append, get0, getS, R.bind, R.on, RS.seq, truth_bl, nextO, stV, alloc, setVars, setTg, List.set_cons_zero, List.set_cons_succ, wipe, biU, bi1, bi2, perm, R.opt, fin_ret, fin_next, retU_d, retU_tmp, retU_ro, take_len, add_int, sub_int, bin_add, bin_mul, cmp_eq_int, cmp_ne_int, cmp_lt_int, cmp_le_int, cmp_gt_int, cmp_ge_int, cmp_eq_bl, cmp_ne_bl, negR, notR, onBl, onBlO, tupR, lstR, datas, Option.map_some, gvR, Lib.at, dv_var, dv_non, dv_bl, dv_int, dv_str, dv_gv, dv_bin, dv_neg, dv_cmp, dv_cmp2, dv_and, dv_or, dv_not, dv_ife, dv_tup, dv_lst, dv_idx, dv_slice, dv_call, dv_bi1, dv_bi2, dv_meth, dv_sdict, dt_and, dt_or, dt_not, dt_var, dt_bl, dt_cmp, dt_cmp2, dt_call, dt_bi, dt_idx, dt_bin, dt_ife, dq_var, dq_call, dq_bi, dq_idx, dq_bin, dq_ife, dq_int, dq_neg, dq_absent, di_var, di_call, di_bi, di_idx, di_bin, di_ife, di_lst, di_tup, di_slice, di_comp, di_rng1, di_rng2, di_enum, di_zip, ds_asg, ds_asgT, ds_par, ds_sub, ds_aug, ds_expr, ds_ret, ds_retN, ds_pass, ds_brk, ds_cont, ds_ife, dss_nil, dss_cons, dns_nil, dns_cons, evs_nil, evs_cons, List.append_assoc]
      · simp only [List.append_assoc]
      · rw [flat_len, Nat.pow_succ]; exact cz
      · intro r hr
        obtain ⟨r0, h0, hr⟩ := List.mem_flatMap.mp hr
        obtain ⟨c, _, rfl⟩ := List.mem_map.mp hr
        rw [List.length_append, hlen r0 h0]
        rfl)
    (fun ρ h _ => ok_none)
  obtain ⟨i, er, hi, hF, hlen, hs⟩ := e3
  have hi2 : i = one.length := by
    rcases Nat.lt_or_ge i one.length with z | z
    · rw [List.drop_eq_getElem_cons z] at er; cases er
    · omega
  subst hi2
  rw [List.drop_length] at hs
  have hs2 : F = sumsL one two [[]] := by
    rw [← hs]
    unfold sumsL
    rfl
  subst e1 e2
  have it := items_obj (i := (h ++ u).length) (xs := F.map rowD) (h := h ++ u ++ [.lst (F.map rowD)]) get_app
  have sz1 : (1 : Nat) ≤ sizeLine := by decide
  have sz0 : (0 : Nat) ≤ sizeLine := by decide
  simp only [List.take_succ_cons, seqItr_tup, seqItr_tmp, seqItr_ro, items_tup, items_tmp, items_ro, callD, startR, List.map_cons, List.map_nil, List.length_cons, List.length_nil, Nat.sub_self, Nat.reduceSub, Nat.reduceAdd, List.replicate, List.append_nil, List.cons_append, List.nil_append, get0, getS, R.bind, R.on, RS.seq, truth_bl, nextO, stV, alloc, setVars, setTg, List.set_cons_zero, List.set_cons_succ, wipe, biU, bi1, bi2, perm, R.opt, fin_ret, fin_next, retU_d, retU_tmp, retU_ro, take_len, add_int, sub_int, bin_add, bin_mul, cmp_eq_int, cmp_ne_int, cmp_lt_int, cmp_le_int, cmp_gt_int, cmp_ge_int, cmp_eq_bl, cmp_ne_bl, negR, notR, onBl, onBlO, tupR, lstR, datas, Option.map_some, gvR, Lib.at, dv_var, dv_non, dv_bl, dv_int, dv_str, dv_gv, dv_bin, dv_neg, dv_cmp, dv_cmp2, dv_and, dv_or, dv_not, dv_ife, dv_tup, dv_lst, dv_idx, dv_slice, dv_call, dv_bi1, dv_bi2, dv_meth, dv_sdict, dt_and, dt_or, dt_not, dt_var, dt_bl, dt_cmp, dt_cmp2, dt_call, dt_bi, dt_idx, dt_bin, dt_ife, dq_var, dq_call, dq_bi, dq_idx, dq_bin, dq_ife, dq_int, dq_neg, dq_absent, di_var, di_call, di_bi, di_idx, di_bin, di_ife, di_lst, di_tup, di_slice, di_comp, di_rng1, di_rng2, di_enum, di_zip, ds_asg, ds_asgT, ds_par, ds_sub, ds_aug, ds_expr, ds_ret, ds_retN, ds_pass, ds_brk, ds_cont, ds_ife, dss_nil, dss_cons, dns_nil, dns_cons, evs_nil, evs_cons, f_sums, s_sums, sz1, sz0, if_true]
  rw [ef]
  simp only [List.take_succ_cons, seqItr_tup, seqItr_tmp, seqItr_ro, items_tup, items_tmp, items_ro, callD, startR, List.map_cons, List.map_nil, List.length_cons, List.length_nil, Nat.sub_self, Nat.reduceSub, Nat.reduceAdd, List.replicate, List.append_nil, List.cons_append, List.nil_append, get0, getS, R.bind, R.on, RS.seq, truth_bl, nextO, stV, alloc, setVars, setTg, List.set_cons_zero, List.set_cons_succ, wipe, biU, bi1, bi2, perm, R.opt, fin_ret, fin_next, retU_d, retU_tmp, retU_ro, take_len, add_int, sub_int, bin_add, bin_mul, cmp_eq_int, cmp_ne_int, cmp_lt_int, cmp_le_int, cmp_gt_int, cmp_ge_int, cmp_eq_bl, cmp_ne_bl, negR, notR, onBl, onBlO, tupR, lstR, datas, Option.map_some, gvR, Lib.at, dv_var, dv_non, dv_bl, dv_int, dv_str, dv_gv, dv_bin, dv_neg, dv_cmp, dv_cmp2, dv_and, dv_or, dv_not, dv_ife, dv_tup, dv_lst, dv_idx, dv_slice, dv_call, dv_bi1, dv_bi2, dv_meth, dv_sdict, dt_and, dt_or, dt_not, dt_var, dt_bl, dt_cmp, dt_cmp2, dt_call, dt_bi, dt_idx, dt_bin, dt_ife, dq_var, dq_call, dq_bi, dq_idx, dq_bin, dq_ife, dq_int, dq_neg, dq_absent, di_var, di_call, di_bi, di_idx, di_bin, di_ife, di_lst, di_tup, di_slice, di_comp, di_rng1, di_rng2, di_enum, di_zip, ds_asg, ds_asgT, ds_par, ds_sub, ds_aug, ds_expr, ds_ret, ds_retN, ds_pass, ds_brk, ds_cont, ds_ife, dss_nil, dss_cons, dns_nil, dns_cons, evs_nil, evs_cons, it]
  rw [hs2, List.append_assoc, take_app]
theorem sort_ints {xs ys : List Int} (hp : ys.Perm xs) (hs : ys.Pairwise (· ≤ ·)) : sortD (xs.map .int) = ys.map .int := by
  unfold sortD
  have dl : ∀ a b : Int, PySem.W.dataLe false D.py (.int a) (.int b) = decide (a ≤ b) := fun a b => congrFun (congrFun (PySem.W.dataLe_int (fun x : Int => x)) a) b
  rw [← List.map_mergeSort (r := fun a b => decide (a ≤ b)) (fun a _ b _ => (dl a b).symm)]
  congr 1
  have h1 := List.pairwise_mergeSort (le := fun a b : Int => decide (a ≤ b)) (fun a b c h1 h2 => by simp only [decide_eq_true_eq] at *; omega) (fun a b => by simp only [Bool.or_eq_true, decide_eq_true_eq]; omega) xs
  have h2 := List.mergeSort_perm xs (fun a b : Int => decide (a ≤ b))
  refine List.Perm.eq_of_pairwise (le := fun a b : Int => a ≤ b) (fun a b _ _ h1 h2 => by omega) (h1.imp fun h => by simpa using h) hs (h2.trans hp.symm)
theorem sortOk_ints (xs : List Int) : SortOk (xs.map .int) := by
  refine ⟨fun d hd d' hd' => ?_, .inr fun d hd => ?_, fun x hx => ?_⟩
  · simp only [List.map_map, List.mem_map, Function.comp] at hd hd'
    obtain ⟨i, _, rfl⟩ := hd
    obtain ⟨j, _, rfl⟩ := hd'
    simp [D.py, PySem.W.alike]
  · simp only [List.map_map, List.mem_map, Function.comp] at hd
    obtain ⟨i, _, rfl⟩ := hd
    simp [D.py]
  · obtain ⟨i, _, rfl⟩ := List.mem_map.mp hx
    simp [D.py, PyData.depth]
def tstep (a b m : Int) (T : List Int) (t : Int) : List Int := if sgn m = a ∧ sgn (t - m) = b ∧ sgn t ∉ T then T ++ [sgn t] else T
def triedL (a b : Int) : List Int := [-2, -1, 0, 1, 2].foldl (fun T m => [-2, -1, 0, 1, 2].foldl (tstep a b m) T) []
theorem tried_is (a b : Int) (ha : -1 ≤ a ∧ a ≤ 1) (hb : -1 ≤ b ∧ b ≤ 1) : (nums a b).Perm (triedL a b) ∧ (nums a b).Pairwise (· ≤ ·) := by
  have h1 : a = -1 ∨ a = 0 ∨ a = 1 := by omega
  have h2 : b = -1 ∨ b = 0 ∨ b = 1 := by omega
  rcases h1 with rfl | rfl | rfl <;> rcases h2 with rfl | rfl | rfl <;> decide
theorem cmp_eq_one {x a : Int} {h : Hs} : cmpU .eq (.d (.tup [.int x])) (.d (.tup [.int a])) h = some (.d (.bl (decide (x = a)))) := by
  have e := cmp_eq_row (r := [x]) (s := [a]) (h := h)
  have e2 : decide ([x] = [a]) = decide (x = a) := by simp
  rw [e2] at e
  exact e
theorem lst_at {n : Nat} {h : Hs} {xs : List D} (e : h[n]? = some (.lst xs)) : lstU (.obj n) h = true := by
  unfold lstU
  dsimp only
  rw [e]
theorem append_at {n : Nat} {h : Hs} {xs : List D} {x : D} (e : h[n]? = some (.lst xs)) (hz : xs.length < 1000000) : methR .append (.obj n) (.d x) h = .ok (.d .non) (h.set n (.lst (xs ++ [x]))) := by
  unfold methR
  dsimp only
  rw [e]
  exact if_pos (Nat.lt_of_lt_of_le hz (le_size (Nat.le_refl _)))
theorem idx_one {x : Int} {h : Hs} : idxU (.d (.tup [.int x])) (.d (.int 0)) h = some (.d (.int x)) := id rfl
theorem m__law_tried (k : Nat) (a b : Int) (h : Hs) (ha : -1 ≤ a ∧ a ≤ 1) (hb : -1 ≤ b ∧ b ≤ 1) : callK lib (k + 2) i__law_tried [.d (.int a), .d (.int b)] h = .ok (.tmp (.lst ((nums a b).map .int))) h := by
  rw [ck (T := lib) (fn := f__law_tried) rfl rfl]
  have ro : ∀ (x y : Int) (hh : Hs), callK lib (k + 1) i__law_row_of [.d (.tup [.int x]), .d (.tup [.int y])] hh = .ok (.d (.tup [.int (sgn (x - y))])) hh := fun x y hh => m__law_row_of k hh [x] [y] (by simp) rfl
  have sz1 : (1 : Nat) ≤ sizeLine := by decide
  have rg : ∀ hh : Hs, rng2Itr [.d (.int (-2)), .d (.int 3)] hh = .ok ⟨[-2, -1, 0, 1, 2].map D.int, none⟩ hh := fun hh => rng2_int (by omega) (by omega)
  obtain ⟨ρ', h', ef, T, e1, e2, ms, e3, e4, e5⟩ := for_inv (C := ⟨callK lib (k + 1), lib.gv⟩) (tg := [3]) (wp := [3, 4, 5]) (it := .rng2 (.neg (.int 2)) (.int 3))
    (body := [(.for_ [4] (.rng2 (.neg (.int 2)) (.int 3)) [(.asg 5 (.idx (.call i__law_row_of [(.tup [(.var 4)]), (.tup [(.int 0)])] []) (.int 0))),
    (.ife (.and (.cmp .eq (.call i__law_row_of [(.tup [(.var 3)]), (.tup [(.int 0)])] []) (.tup [(.var 0)])) (.and (.cmp .eq (.call i__law_row_of [(.tup [(.var 4)]), (.tup [(.var 3)])] []) (.tup [(.var 1)])) (.cmp .nin (.var 5) (.var 2)))) [(.expr (.meth .append (.var 2) [(.var 5)]))]
    [])] [])])
    (ρ := [some (.d (.int a)), some (.d (.int b)), some (.obj h.length), none, none, none]) (h := h ++ [.lst []]) (h1 := h ++ [.lst []]) (w := none) (xs := [-2, -1, 0, 1, 2].map D.int)
    (fun rem ρ hh => ∃ T : List Int, ρ = [some (.d (.int a)), some (.d (.int b)), some (.obj h.length), none, none, none] ∧ hh = h ++ [.lst (T.map .int)] ∧ ∃ ms : List Int, rem = ms.map .int ∧ T.length + 5 * ms.length ≤ 1000 ∧ ms.foldl (fun T m => [-2, -1, 0, 1, 2].foldl (tstep a b m) T) T = triedL a b)
    (by simp only [List.take_succ_cons, seqItr_tup, seqItr_tmp, seqItr_ro, items_tup, items_tmp, items_ro, callD, startR, List.map_cons, List.map_nil, List.length_cons, List.length_nil, Nat.sub_self, Nat.reduceSub, Nat.reduceAdd, List.replicate, List.append_nil, List.cons_append, List.nil_append, get0, getS, R.bind, R.on, RS.seq, truth_bl, nextO, stV, alloc, setVars, setTg, List.set_cons_zero, List.set_cons_succ, wipe, biU, bi1, bi2, perm, R.opt, fin_ret, fin_next, retU_d, retU_tmp, retU_ro, take_len, add_int, sub_int, bin_add, bin_mul, cmp_eq_int, cmp_ne_int, cmp_lt_int, cmp_le_int, cmp_gt_int, cmp_ge_int, cmp_eq_bl, cmp_ne_bl, negR, notR, onBl, onBlO, tupR, lstR, datas, Option.map_some, gvR, Lib.at, dv_var, dv_non, dv_bl, dv_int, dv_str, dv_gv, dv_bin, dv_neg, dv_cmp, dv_cmp2, dv_and, dv_or, dv_not, dv_ife, dv_tup, dv_lst, dv_idx, dv_slice, dv_call, dv_bi1, dv_bi2, dv_meth, dv_sdict, dt_and, dt_or, dt_not, dt_var, dt_bl, dt_cmp, dt_cmp2, dt_call, dt_bi, dt_idx, dt_bin, dt_ife, dq_var, dq_call, dq_bi, dq_idx, dq_bin, dq_ife, dq_int, dq_neg, dq_absent, di_var, di_call, di_bi, di_idx, di_bin, di_ife, di_lst, di_tup, di_slice, di_comp, di_rng1, di_rng2, di_enum, di_zip, ds_asg, ds_asgT, ds_par, ds_sub, ds_aug, ds_expr, ds_ret, ds_retN, ds_pass, ds_brk, ds_cont, ds_ife, dss_nil, dss_cons, dns_nil, dns_cons, evs_nil, evs_cons, rg]) ⟨[], by simp only [List.take_succ_cons, seqItr_tup, seqItr_tmp, seqItr_ro, items_tup, items_tmp, items_ro, callD, startR, List.map_cons, List.map_nil, List.length_cons, List.length_nil, Nat.sub_self, Nat.reduceSub, Nat.reduceAdd, List.replicate, List.append_nil, List.cons_append, List.nil_append, get0, getS, R.bind, R.on, RS.seq, truth_bl, nextO, stV, alloc, setVars, setTg, List.set_cons_zero, List.set_cons_succ, wipe, biU, bi1, bi2, perm, R.opt, fin_ret, fin_next, retU_d, retU_tmp, retU_ro, take_len, add_int, sub_int, bin_add, bin_mul, cmp_eq_int, cmp_ne_int, cmp_lt_int, cmp_le_int, cmp_gt_int, cmp_ge_int, cmp_eq_bl, cmp_ne_bl, negR, notR, onBl, onBlO, tupR, lstR, datas, Option.map_some, gvR, Lib.at, dv_var, dv_non, dv_bl, dv_int, dv_str, dv_gv, dv_bin, dv_neg, dv_cmp, dv_cmp2, dv_and, dv_or, dv_not, dv_ife, dv_tup, dv_lst, dv_idx, dv_slice, dv_call, dv_bi1, dv_bi2, dv_meth, dv_sdict, dt_and, dt_or, dt_not, dt_var, dt_bl, dt_cmp, dt_cmp2, dt_call, dt_bi, dt_idx, dt_bin, dt_ife, dq_var, dq_call, dq_bi, dq_idx, dq_bin, dq_ife, dq_int, dq_neg, dq_absent, di_var, di_call, di_bi, di_idx, di_bin, di_ife, di_lst, di_tup, di_slice, di_comp, di_rng1, di_rng2, di_enum, di_zip, ds_asg, ds_asgT, ds_par, ds_sub, ds_aug, ds_expr, ds_ret, ds_retN, ds_pass, ds_brk, ds_cont, ds_ife, dss_nil, dss_cons, dns_nil, dns_cons, evs_nil, evs_cons], by simp, [-2, -1, 0, 1, 2], rfl, by simp, rfl⟩
    (fun x xs ρ hh ⟨T, eρ, eh, ms, er, hz, hf⟩ => by
      cases ms with
      | nil => simp at er
      | cons m ms =>
      rw [List.map_cons] at er
      obtain ⟨rfl, rfl⟩ := List.cons.inj er
      subst eρ eh
      obtain ⟨ρ2, h2, ef2, G, x4, x5, f1, f2, ts, f3, f4, f5⟩ := for_inv (C := ⟨callK lib (k + 1), lib.gv⟩) (tg := [4]) (wp := []) (it := .rng2 (.neg (.int 2)) (.int 3))
        (body := [(.asg 5 (.idx (.call i__law_row_of [(.tup [(.var 4)]), (.tup [(.int 0)])] []) (.int 0))),
    (.ife (.and (.cmp .eq (.call i__law_row_of [(.tup [(.var 3)]), (.tup [(.int 0)])] []) (.tup [(.var 0)])) (.and (.cmp .eq (.call i__law_row_of [(.tup [(.var 4)]), (.tup [(.var 3)])] []) (.tup [(.var 1)])) (.cmp .nin (.var 5) (.var 2)))) [(.expr (.meth .append (.var 2) [(.var 5)]))]
    [])])
        (ρ := [some (.d (.int a)), some (.d (.int b)), some (.obj h.length), some (.d (.int m)), none, none]) (h := h ++ [.lst (T.map .int)]) (h1 := h ++ [.lst (T.map .int)]) (w := none) (xs := [-2, -1, 0, 1, 2].map D.int)
        (fun rem ρ hh => ∃ (G : List Int) (x4 x5 : Option U), ρ = [some (.d (.int a)), some (.d (.int b)), some (.obj h.length), some (.d (.int m)), x4, x5] ∧ hh = h ++ [.lst (G.map .int)] ∧ ∃ ts : List Int, rem = ts.map .int ∧ G.length + ts.length + 5 * ms.length ≤ 1000 ∧ ts.foldl (tstep a b m) G = [-2, -1, 0, 1, 2].foldl (tstep a b m) T)
        (by simp only [List.take_succ_cons, seqItr_tup, seqItr_tmp, seqItr_ro, items_tup, items_tmp, items_ro, callD, startR, List.map_cons, List.map_nil, List.length_cons, List.length_nil, Nat.sub_self, Nat.reduceSub, Nat.reduceAdd, List.replicate, List.append_nil, List.cons_append, List.nil_append, get0, getS, R.bind, R.on, RS.seq, truth_bl, nextO, stV, alloc, setVars, setTg, List.set_cons_zero, List.set_cons_succ, wipe, biU, bi1, bi2, perm, R.opt, fin_ret, fin_next, retU_d, retU_tmp, retU_ro, take_len, add_int, sub_int, bin_add, bin_mul, cmp_eq_int, cmp_ne_int, cmp_lt_int, cmp_le_int, cmp_gt_int, cmp_ge_int, cmp_eq_bl, cmp_ne_bl, negR, notR, onBl, onBlO, tupR, lstR, datas, Option.map_some, gvR, Lib.at, dv_var, dv_non, dv_bl, dv_int, dv_str, dv_gv, dv_bin, dv_neg, dv_cmp, dv_cmp2, dv_and, dv_or, dv_not, dv_ife, dv_tup, dv_lst, dv_idx, dv_slice, dv_call, dv_bi1, dv_bi2, dv_meth, dv_sdict, dt_and, dt_or, dt_not, dt_var, dt_bl, dt_cmp, dt_cmp2, dt_call, dt_bi, dt_idx, dt_bin, dt_ife, dq_var, dq_call, dq_bi, dq_idx, dq_bin, dq_ife, dq_int, dq_neg, dq_absent, di_var, di_call, di_bi, di_idx, di_bin, di_ife, di_lst, di_tup, di_slice, di_comp, di_rng1, di_rng2, di_enum, di_zip, ds_asg, ds_asgT, ds_par, ds_sub, ds_aug, ds_expr, ds_ret, ds_retN, ds_pass, ds_brk, ds_cont, ds_ife, dss_nil, dss_cons, dns_nil, dns_cons, evs_nil, evs_cons, rg]) ⟨T, none, none, by simp only [List.take_succ_cons, seqItr_tup, seqItr_tmp, seqItr_ro, items_tup, items_tmp, items_ro, callD, startR, List.map_cons, List.map_nil, List.length_cons, List.length_nil, Nat.sub_self, Nat.reduceSub, Nat.reduceAdd, List.replicate, List.append_nil, List.cons_append, List.nil_append, get0, getS, R.bind, R.on, RS.seq, truth_bl, nextO, stV, alloc, setVars, setTg, List.set_cons_zero, List.set_cons_succ, wipe, biU, bi1, bi2, perm, R.opt, fin_ret, fin_next, retU_d, retU_tmp, retU_ro, take_len, add_int, sub_int, bin_add, bin_mul, cmp_eq_int, cmp_ne_int, cmp_lt_int, cmp_le_int, cmp_gt_int, cmp_ge_int, cmp_eq_bl, cmp_ne_bl, negR, notR, onBl, onBlO, tupR, lstR, datas, Option.map_some, gvR, Lib.at, dv_var, dv_non, dv_bl, dv_int, dv_str, dv_gv, dv_bin, dv_neg, dv_cmp, dv_cmp2, dv_and, dv_or, dv_not, dv_ife, dv_tup, dv_lst, dv_idx, dv_slice, dv_call, dv_bi1, dv_bi2, dv_meth, dv_sdict, dt_and, dt_or, dt_not, dt_var, dt_bl, dt_cmp, dt_cmp2, dt_call, dt_bi, dt_idx, dt_bin, dt_ife, dq_var, dq_call, dq_bi, dq_idx, dq_bin, dq_ife, dq_int, dq_neg, dq_absent, di_var, di_call, di_bi, di_idx, di_bin, di_ife, di_lst, di_tup, di_slice, di_comp, di_rng1, di_rng2, di_enum, di_zip, ds_asg, ds_asgT, ds_par, ds_sub, ds_aug, ds_expr, ds_ret, ds_retN, ds_pass, ds_brk, ds_cont, ds_ife, dss_nil, dss_cons, dns_nil, dns_cons, evs_nil, evs_cons], rfl, [-2, -1, 0, 1, 2], rfl, by simp only [List.length_cons, List.length_nil] at hz ⊢; omega, rfl⟩
        (fun x xs ρ hh ⟨G, x4, x5, eρ, eh, ts, er, hz, hf⟩ => by
          cases ts with
          | nil => simp at er
          | cons t ts =>
          rw [List.map_cons] at er
          obtain ⟨rfl, rfl⟩ := List.cons.inj er
          subst eρ eh
          simp only [List.length_cons] at hz
          have inn := in_ints (i := sgn t) (xs := G) (h := h ++ [.lst (G.map .int)]) get_app
          have la := lst_at (h := h ++ [.lst (G.map .int)]) get_app
          have ap := append_at (x := .int (sgn t)) (h := h ++ [.lst (G.map .int)]) get_app (by rw [List.length_map]; omega)
          refine ⟨ok_none, [some (.d (.int a)), some (.d (.int b)), some (.obj h.length), some (.d (.int m)), some (.d (.int t)), x5], by simp only [List.take_succ_cons, seqItr_tup, seqItr_tmp, seqItr_ro, items_tup, items_tmp, items_ro, callD, startR, List.map_cons, List.map_nil, List.length_cons, List.length_nil, Nat.sub_self, Nat.reduceSub, Nat.reduceAdd, List.replicate, List.append_nil, List.cons_append, List.nil_append, get0, getS, R.bind, R.on, RS.seq, truth_bl, nextO, stV, alloc, setVars, setTg, List.set_cons_zero, List.set_cons_succ, wipe, biU, bi1, bi2, perm, R.opt, fin_ret, fin_next, retU_d, retU_tmp, retU_ro, take_len, add_int, sub_int, bin_add, bin_mul, cmp_eq_int, cmp_ne_int, cmp_lt_int, cmp_le_int, cmp_gt_int, cmp_ge_int, cmp_eq_bl, cmp_ne_bl, negR, notR, onBl, onBlO, tupR, lstR, datas, Option.map_some, gvR, Lib.at, dv_var, dv_non, dv_bl, dv_int, dv_str, dv_gv, dv_bin, dv_neg, dv_cmp, dv_cmp2, dv_and, dv_or, dv_not, dv_ife, dv_tup, dv_lst, dv_idx, dv_slice, dv_call, dv_bi1, dv_bi2, dv_meth, dv_sdict, dt_and, dt_or, dt_not, dt_var, dt_bl, dt_cmp, dt_cmp2, dt_call, dt_bi, dt_idx, dt_bin, dt_ife, dq_var, dq_call, dq_bi, dq_idx, dq_bin, dq_ife, dq_int, dq_neg, dq_absent, di_var, di_call, di_bi, di_idx, di_bin, di_ife, di_lst, di_tup, di_slice, di_comp, di_rng1, di_rng2, di_enum, di_zip, ds_asg, ds_asgT, ds_par, ds_sub, ds_aug, ds_expr, ds_ret, ds_retN, ds_pass, ds_brk, ds_cont, ds_ife, dss_nil, dss_cons, dns_nil, dns_cons, evs_nil, evs_cons], [some (.d (.int a)), some (.d (.int b)), some (.obj h.length), some (.d (.int m)), some (.d (.int t)), some (.d (.int (sgn t)))], h ++ [.lst ((tstep a b m G t).map .int)], .inl ?_, tstep a b m G t, some (.d (.int t)), some (.d (.int (sgn t))), by simp only [List.take_succ_cons, seqItr_tup, seqItr_tmp, seqItr_ro, items_tup, items_tmp, items_ro, callD, startR, List.map_cons, List.map_nil, List.length_cons, List.length_nil, Nat.sub_self, Nat.reduceSub, Nat.reduceAdd, List.replicate, List.append_nil, List.cons_append, List.nil_append, get0, getS, R.bind, R.on, RS.seq, truth_bl, nextO, stV, alloc, setVars, setTg, List.set_cons_zero, List.set_cons_succ, wipe, biU, bi1, bi2, perm, R.opt, fin_ret, fin_next, retU_d, retU_tmp, retU_ro, take_len, add_int, sub_int, bin_add, bin_mul, cmp_eq_int, cmp_ne_int, cmp_lt_int, cmp_le_int, cmp_gt_int, cmp_ge_int, cmp_eq_bl, cmp_ne_bl, negR, notR, onBl, onBlO, tupR, lstR, datas, Option.map_some, gvR, Lib.at, dv_var, dv_non, dv_bl, dv_int, dv_str, dv_gv, dv_bin, dv_neg, dv_cmp, dv_cmp2, dv_and, dv_or, dv_not, dv_ife, dv_tup, dv_lst, dv_idx, dv_slice, dv_call, dv_bi1, dv_bi2, dv_meth, dv_sdict, dt_and, dt_or, dt_not, dt_var, dt_bl, dt_cmp, dt_cmp2, dt_call, dt_bi, dt_idx, dt_bin, dt_ife, dq_var, dq_call, dq_bi, dq_idx, dq_bin, dq_ife, dq_int, dq_neg, dq_absent, di_var, di_call, di_bi, di_idx, di_bin, di_ife, di_lst, di_tup, di_slice, di_comp, di_rng1, di_rng2, di_enum, di_zip, ds_asg, ds_asgT, ds_par, ds_sub, ds_aug, ds_expr, ds_ret, ds_retN, ds_pass, ds_brk, ds_cont, ds_ife, dss_nil, dss_cons, dns_nil, dns_cons, evs_nil, evs_cons], rfl, ts, rfl, ?_, hf⟩
          · unfold tstep
            by_cases c1 : sgn m = a
            · by_cases c2 : sgn (t - m) = b
              · by_cases c3 : sgn t ∈ G
                · simp [List.take_succ_cons, seqItr_tup, seqItr_tmp, seqItr_ro, items_tup, items_tmp, items_ro, callD, startR, List.map_cons, List.map_nil, List.length_cons, List.length_nil, Nat.sub_self, Nat.reduceSub, Nat.reduceAdd, List.replicate, List.append_nil, List.cons_append, List.nil_append, get0, getS, R.bind, R.on, RS.seq, truth_bl, nextO, stV, alloc, setVars, setTg, List.set_cons_zero, List.set_cons_succ, wipe, biU, bi1, bi2, perm, R.opt, fin_ret, fin_next, retU_d, retU_tmp, retU_ro, take_len, add_int, sub_int, bin_add, bin_mul, cmp_eq_int, cmp_ne_int, cmp_lt_int, cmp_le_int, cmp_gt_int, cmp_ge_int, cmp_eq_bl, cmp_ne_bl, negR, notR, onBl, onBlO, tupR, lstR, datas, Option.map_some, gvR, Lib.at, dv_var, dv_non, dv_bl, dv_int, dv_str, dv_gv, dv_bin, dv_neg, dv_cmp, dv_cmp2, dv_and, dv_or, dv_not, dv_ife, dv_tup, dv_lst, dv_idx, dv_slice, dv_call, dv_bi1, dv_bi2, dv_meth, dv_sdict, dt_and, dt_or, dt_not, dt_var, dt_bl, dt_cmp, dt_cmp2, dt_call, dt_bi, dt_idx, dt_bin, dt_ife, dq_var, dq_call, dq_bi, dq_idx, dq_bin, dq_ife, dq_int, dq_neg, dq_absent, di_var, di_call, di_bi, di_idx, di_bin, di_ife, di_lst, di_tup, di_slice, di_comp, di_rng1, di_rng2, di_enum, di_zip, ds_asg, ds_asgT, ds_par, ds_sub, ds_aug, ds_expr, ds_ret, ds_retN, ds_pass, ds_brk, ds_cont, ds_ife, dss_nil, dss_cons, dns_nil, dns_cons, evs_nil, evs_cons, sz1, ro, idx_one, cmp_eq_one, inn, c1, c2, c3]
                · simp [List.take_succ_cons, seqItr_tup, seqItr_tmp, seqItr_ro, items_tup, items_tmp, items_ro, callD, startR, List.map_cons, List.map_nil, List.length_cons, List.length_nil, Nat.sub_self, Nat.reduceSub, Nat.reduceAdd, List.replicate, List.append_nil, List.cons_append, List.nil_append, get0, getS, R.bind, R.on, RS.seq, truth_bl, nextO, stV, alloc, setVars, setTg, List.set_cons_zero, List.set_cons_succ, wipe, biU, bi1, bi2, perm, R.opt, fin_ret, fin_next, retU_d, retU_tmp, retU_ro, take_len, add_int, sub_int, bin_add, bin_mul, cmp_eq_int, cmp_ne_int, cmp_lt_int, cmp_le_int, cmp_gt_int, cmp_ge_int, cmp_eq_bl, cmp_ne_bl, negR, notR, onBl, onBlO, tupR, lstR, datas, Option.map_some, gvR, Lib.at, dv_var, dv_non, dv_bl, dv_int, dv_str, dv_gv, dv_bin, dv_neg, dv_cmp, dv_cmp2, dv_and, dv_or, dv_not, dv_ife, dv_tup, dv_lst, dv_idx, dv_slice, dv_call, dv_bi1, dv_bi2, dv_meth, dv_sdict, dt_and, dt_or, dt_not, dt_var, dt_bl, dt_cmp, dt_cmp2, dt_call, dt_bi, dt_idx, dt_bin, dt_ife, dq_var, dq_call, dq_bi, dq_idx, dq_bin, dq_ife, dq_int, dq_neg, dq_absent, di_var, di_call, di_bi, di_idx, di_bin, di_ife, di_lst, di_tup, di_slice, di_comp, di_rng1, di_rng2, di_enum, di_zip, ds_asg, ds_asgT, ds_par, ds_sub, ds_aug, ds_expr, ds_ret, ds_retN, ds_pass, ds_brk, ds_cont, ds_ife, dss_nil, dss_cons, dns_nil, dns_cons, evs_nil, evs_cons, sz1, ro, idx_one, cmp_eq_one, inn, c1, c2, c3, la, ap, set_app]
              · simp [List.take_succ_cons, seqItr_tup, seqItr_tmp, seqItr_ro, items_tup, items_tmp, items_ro, callD, startR, List.map_cons, List.map_nil, List.length_cons, List.length_nil, Nat.sub_self, Nat.reduceSub, Nat.reduceAdd, List.replicate, List.append_nil, List.cons_append, List.nil_append, get0, getS, R.bind, R.on, RS.seq, truth_bl, nextO, stV, alloc, setVars, setTg, List.set_cons_zero, List.set_cons_succ, wipe, biU, bi1, bi2, perm, R.opt, fin_ret, fin_next, retU_d, retU_tmp, retU_ro, take_len, add_int, sub_int, bin_add, bin_mul, cmp_eq_int, cmp_ne_int, cmp_lt_int, cmp_le_int, cmp_gt_int, cmp_ge_int, cmp_eq_bl, cmp_ne_bl, negR, notR, onBl, onBlO, tupR, lstR, datas, Option.map_some, gvR, Lib.at, dv_var, dv_non, dv_bl, dv_int, dv_str, dv_gv, dv_bin, dv_neg, dv_cmp, dv_cmp2, dv_and, dv_or, dv_not, dv_ife, dv_tup, dv_lst, dv_idx, dv_slice, dv_call, dv_bi1, dv_bi2, dv_meth, dv_sdict, dt_and, dt_or, dt_not, dt_var, dt_bl, dt_cmp, dt_cmp2, dt_call, dt_bi, dt_idx, dt_bin, dt_ife, dq_var, dq_call, dq_bi, dq_idx, dq_bin, dq_ife, dq_int, dq_neg, dq_absent, di_var, di_call, di_bi, di_idx, di_bin, di_ife, di_lst, di_tup, di_slice, di_comp, di_rng1, di_rng2, di_enum, di_zip, ds_asg, ds_asgT, ds_par, ds_sub, ds_aug, ds_expr, ds_ret, ds_retN, ds_pass, ds_brk, ds_cont, ds_ife, dss_nil, dss_cons, dns_nil, dns_cons, evs_nil, evs_cons, sz1, ro, idx_one, cmp_eq_one, inn, c1, c2]
            · simp [List.take_succ_cons, seqItr_tup, seqItr_tmp, seqItr_ro, items_tup, items_tmp, items_ro, callD, startR, List.map_cons, List.map_nil, List.length_cons, List.length_nil, Nat.sub_self, Nat.reduceSub, Nat.reduceAdd, List.replicate, List.append_nil, List.cons_append, List.nil_append, get0, getS, R.bind, R.on, RS.seq, truth_bl, nextO, stV, alloc, setVars, setTg, List.set_cons_zero, List.set_cons_succ, wipe, biU, bi1, bi2, perm, R.opt, fin_ret, fin_next, retU_d, retU_tmp, retU_ro, take_len, add_int, sub_int, bin_add, bin_mul, cmp_eq_int, cmp_ne_int, cmp_lt_int, cmp_le_int, cmp_gt_int, cmp_ge_int, cmp_eq_bl, cmp_ne_bl, negR, notR, onBl, onBlO, tupR, lstR, datas, Option.map_some, gvR, Lib.at, dv_var, dv_non, dv_bl, dv_int, dv_str, dv_gv, dv_bin, dv_neg, dv_cmp, dv_cmp2, dv_and, dv_or, dv_not, dv_ife, dv_tup, dv_lst, dv_idx, dv_slice, dv_call, dv_bi1, dv_bi2, dv_meth, dv_sdict, dt_and, dt_or, dt_not, dt_var, dt_bl, dt_cmp, dt_cmp2, dt_call, dt_bi, dt_idx, dt_bin, dt_ife, dq_var, dq_call, dq_bi, dq_idx, dq_bin, dq_ife, dq_int, dq_neg, dq_absent, di_var, di_call, di_bi, di_idx, di_bin, di_ife, di_lst, di_tup, di_slice, di_comp, di_rng1, di_rng2, di_enum, di_zip, ds_asg, ds_asgT, ds_par, ds_sub, ds_aug, ds_expr, ds_ret, ds_retN, ds_pass, ds_brk, ds_cont, ds_ife, dss_nil, dss_cons, dns_nil, dns_cons, evs_nil, evs_cons, sz1, ro, idx_one, cmp_eq_one, inn, c1]
          · unfold tstep
            split
            · rw [List.length_append]
              simp only [List.length_cons, List.length_nil]
              omega
            · omega)
        (fun ρ h _ => ok_none)
      have ets : ts = [] := by cases ts with | nil => rfl | cons _ _ => simp at f3
      subst ets f1 f2
      have f5 : G = [-2, -1, 0, 1, 2].foldl (tstep a b m) T := f5
      refine ⟨ok_none, [some (.d (.int a)), some (.d (.int b)), some (.obj h.length), some (.d (.int m)), none, none], by simp only [List.take_succ_cons, seqItr_tup, seqItr_tmp, seqItr_ro, items_tup, items_tmp, items_ro, callD, startR, List.map_cons, List.map_nil, List.length_cons, List.length_nil, Nat.sub_self, Nat.reduceSub, Nat.reduceAdd, List.replicate, List.append_nil, List.cons_append, List.nil_append, get0, getS, R.bind, R.on, RS.seq, truth_bl, nextO, stV, alloc, setVars, setTg, List.set_cons_zero, List.set_cons_succ, wipe, biU, bi1, bi2, perm, R.opt, fin_ret, fin_next, retU_d, retU_tmp, retU_ro, take_len, add_int, sub_int, bin_add, bin_mul, cmp_eq_int, cmp_ne_int, cmp_lt_int, cmp_le_int, cmp_gt_int, cmp_ge_int, cmp_eq_bl, cmp_ne_bl, negR, notR, onBl, onBlO, tupR, lstR, datas, Option.map_some, gvR, Lib.at, dv_var, dv_non, dv_bl, dv_int, dv_str, dv_gv, dv_bin, dv_neg, dv_cmp, dv_cmp2, dv_and, dv_or, dv_not, dv_ife, dv_tup, dv_lst, dv_idx, dv_slice, dv_call, dv_bi1, dv_bi2, dv_meth, dv_sdict, dt_and, dt_or, dt_not, dt_var, dt_bl, dt_cmp, dt_cmp2, dt_call, dt_bi, dt_idx, dt_bin, dt_ife, dq_var, dq_call, dq_bi, dq_idx, dq_bin, dq_ife, dq_int, dq_neg, dq_absent, di_var, di_call, di_bi, di_idx, di_bin, di_ife, di_lst, di_tup, di_slice, di_comp, di_rng1, di_rng2, di_enum, di_zip, ds_asg, ds_asgT, ds_par, ds_sub, ds_aug, ds_expr, ds_ret, ds_retN, ds_pass, ds_brk, ds_cont, ds_ife, dss_nil, dss_cons, dns_nil, dns_cons, evs_nil, evs_cons], [some (.d (.int a)), some (.d (.int b)), some (.obj h.length), some (.d (.int m)), x4, x5], h ++ [.lst (G.map .int)], .inl (by rw [dss_cons, ef2]; simp only [List.take_succ_cons, seqItr_tup, seqItr_tmp, seqItr_ro, items_tup, items_tmp, items_ro, callD, startR, List.map_cons, List.map_nil, List.length_cons, List.length_nil, Nat.sub_self, Nat.reduceSub, Nat.reduceAdd, List.replicate, List.append_nil, List.cons_append, List.nil_append, get0, getS, R.bind, R.on, RS.seq, truth_bl, nextO, stV, alloc, setVars, setTg, List.set_cons_zero, List.set_cons_succ, wipe, biU, bi1, bi2, perm, R.opt, fin_ret, fin_next, retU_d, retU_tmp, retU_ro, take_len, add_int, sub_int, bin_add, bin_mul, cmp_eq_int, cmp_ne_int, cmp_lt_int, cmp_le_int, cmp_gt_int, cmp_ge_int, cmp_eq_bl, cmp_ne_bl, negR, notR, onBl, onBlO, tupR, lstR, datas, Option.map_some, gvR, Lib.at, dv_var, dv_non, dv_bl, dv_int, dv_str, dv_gv, dv_bin, dv_neg, dv_cmp, dv_cmp2, dv_and, dv_or, dv_not, dv_ife, dv_tup, dv_lst, dv_idx, dv_slice, dv_call, dv_bi1, dv_bi2, dv_meth, dv_sdict, dt_and, dt_or, dt_not, dt_var, dt_bl, dt_cmp, dt_cmp2, dt_call, dt_bi, dt_idx, dt_bin, dt_ife, dq_var, dq_call, dq_bi, dq_idx, dq_bin, dq_ife, dq_int, dq_neg, dq_absent, di_var, di_call, di_bi, di_idx, di_bin, di_ife, di_lst, di_tup, di_slice, di_comp, di_rng1, di_rng2, di_enum, di_zip, ds_asg, ds_asgT, ds_par, ds_sub, ds_aug, ds_expr, ds_ret, ds_retN, ds_pass, ds_brk, ds_cont, ds_ife, dss_nil, dss_cons, dns_nil, dns_cons, evs_nil, evs_cons]), G, by simp only [List.take_succ_cons, seqItr_tup, seqItr_tmp, seqItr_ro, items_tup, items_tmp, items_ro, callD, startR, List.map_cons, List.map_nil, List.length_cons, List.length_nil, Nat.sub_self, Nat.reduceSub, Nat.reduceAdd, List.replicate, List.append_nil, List.cons_append, List.nil_append, get0, getS, R.bind, R.on, RS.seq, truth_bl, nextO, stV, alloc, setVars, setTg, List.set_cons_zero, List.set_cons_succ, wipe, biU, bi1, bi2, perm, R.opt, fin_ret, fin_next, retU_d, retU_tmp, retU_ro, take_len, add_int, sub_int, bin_add, bin_mul, cmp_eq_int, cmp_ne_int, cmp_lt_int, cmp_le_int, cmp_gt_int, cmp_ge_int, cmp_eq_bl, cmp_ne_bl, negR, notR, onBl, onBlO, tupR, lstR, datas, Option.map_some, gvR, Lib.at, dv_var, dv_non, dv_bl, dv_int, dv_str, dv_gv, dv_bin, dv_neg, dv_cmp, dv_cmp2, dv_and, dv_or, dv_not, dv_ife, dv_tup, dv_lst, dv_idx, dv_slice, dv_call, dv_bi1, dv_bi2, dv_meth, dv_sdict, dt_and, dt_or, dt_not, dt_var, dt_bl, dt_cmp, dt_cmp2, dt_call, dt_bi, dt_idx, dt_bin, dt_ife, dq_var, dq_call, dq_bi, dq_idx, dq_bin, dq_ife, dq_int, dq_neg, dq_absent, di_var, di_call, di_bi, di_idx, di_bin, di_ife, di_lst, di_tup, di_slice, di_comp, di_rng1, di_rng2, di_enum, di_zip, ds_asg, ds_asgT, ds_par, ds_sub, ds_aug, ds_expr, ds_ret, ds_retN, ds_pass, ds_brk, ds_cont, ds_ife, dss_nil, dss_cons, dns_nil, dns_cons, evs_nil, evs_cons], rfl, ms, rfl, by simp only [List.length_nil] at f4; omega, ?_⟩
      rw [f5]
      exact hf)
    (fun ρ h _ => ok_none)
  have ems : ms = [] := by cases ms with | nil => rfl | cons _ _ => simp at e3
  subst ems e1 e2
  have e5 : T = triedL a b := e5
  subst e5
  obtain ⟨p1, p2⟩ := tried_is a b ha hb
  have it := items_obj (i := h.length) (xs := (triedL a b).map D.int) (h := h ++ [.lst ((triedL a b).map D.int)]) get_app
  have sz0 : (0 : Nat) ≤ sizeLine := by decide
  have so : bi1 .sorted (.obj h.length) (h ++ [.lst ((triedL a b).map D.int)]) = .ok (.tmp (.lst ((nums a b).map .int))) (h ++ [.lst ((triedL a b).map D.int)]) := by
    have e : bi1 .sorted (.obj h.length) (h ++ [.lst ((triedL a b).map D.int)]) = match itemsU (.obj h.length) (h ++ [.lst ((triedL a b).map D.int)]) with | some xs => sortR xs (h ++ [.lst ((triedL a b).map D.int)]) | none => .stuck := rfl
    rw [e, it]
    show sortR _ _ = _
    unfold sortR
    rw [if_pos (sortOk_ints _), sort_ints p1 p2]
  simp only [List.take_succ_cons, seqItr_tup, seqItr_tmp, seqItr_ro, items_tup, items_tmp, items_ro, callD, startR, List.map_cons, List.map_nil, List.length_cons, List.length_nil, Nat.sub_self, Nat.reduceSub, Nat.reduceAdd, List.replicate, List.append_nil, List.cons_append, List.nil_append, get0, getS, R.bind, R.on, RS.seq, truth_bl, nextO, stV, alloc, setVars, setTg, List.set_cons_zero, List.set_cons_succ, wipe, biU, bi1, bi2, perm, R.opt, fin_ret, fin_next, retU_d, retU_tmp, retU_ro, take_len, add_int, sub_int, bin_add, bin_mul, cmp_eq_int, cmp_ne_int, cmp_lt_int, cmp_le_int, cmp_gt_int, cmp_ge_int, cmp_eq_bl, cmp_ne_bl, negR, notR, onBl, onBlO, tupR, lstR, datas, Option.map_some, gvR, Lib.at, dv_var, dv_non, dv_bl, dv_int, dv_str, dv_gv, dv_bin, dv_neg, dv_cmp, dv_cmp2, dv_and, dv_or, dv_not, dv_ife, dv_tup, dv_lst, dv_idx, dv_slice, dv_call, dv_bi1, dv_bi2, dv_meth, dv_sdict, dt_and, dt_or, dt_not, dt_var, dt_bl, dt_cmp, dt_cmp2, dt_call, dt_bi, dt_idx, dt_bin, dt_ife, dq_var, dq_call, dq_bi, dq_idx, dq_bin, dq_ife, dq_int, dq_neg, dq_absent, di_var, di_call, di_bi, di_idx, di_bin, di_ife, di_lst, di_tup, di_slice, di_comp, di_rng1, di_rng2, di_enum, di_zip, ds_asg, ds_asgT, ds_par, ds_sub, ds_aug, ds_expr, ds_ret, ds_retN, ds_pass, ds_brk, ds_cont, ds_ife, dss_nil, dss_cons, dns_nil, dns_cons, evs_nil, evs_cons, f__law_tried, s__law_tried, sz0, if_true]
  rw [ef]
  simp only [List.take_succ_cons, seqItr_tup, seqItr_tmp, seqItr_ro, items_tup, items_tmp, items_ro, callD, startR, List.map_cons, List.map_nil, List.length_cons, List.length_nil, Nat.sub_self, Nat.reduceSub, Nat.reduceAdd, List.replicate, List.append_nil, List.cons_append, List.nil_append, get0, getS, R.bind, R.on, RS.seq, truth_bl, nextO, stV, alloc, setVars, setTg, List.set_cons_zero, List.set_cons_succ, wipe, biU, bi1, bi2, perm, R.opt, fin_ret, fin_next, retU_d, retU_tmp, retU_ro, take_len, add_int, sub_int, bin_add, bin_mul, cmp_eq_int, cmp_ne_int, cmp_lt_int, cmp_le_int, cmp_gt_int, cmp_ge_int, cmp_eq_bl, cmp_ne_bl, negR, notR, onBl, onBlO, tupR, lstR, datas, Option.map_some, gvR, Lib.at, dv_var, dv_non, dv_bl, dv_int, dv_str, dv_gv, dv_bin, dv_neg, dv_cmp, dv_cmp2, dv_and, dv_or, dv_not, dv_ife, dv_tup, dv_lst, dv_idx, dv_slice, dv_call, dv_bi1, dv_bi2, dv_meth, dv_sdict, dt_and, dt_or, dt_not, dt_var, dt_bl, dt_cmp, dt_cmp2, dt_call, dt_bi, dt_idx, dt_bin, dt_ife, dq_var, dq_call, dq_bi, dq_idx, dq_bin, dq_ife, dq_int, dq_neg, dq_absent, di_var, di_call, di_bi, di_idx, di_bin, di_ife, di_lst, di_tup, di_slice, di_comp, di_rng1, di_rng2, di_enum, di_zip, ds_asg, ds_asgT, ds_par, ds_sub, ds_aug, ds_expr, ds_ret, ds_retN, ds_pass, ds_brk, ds_cont, ds_ife, dss_nil, dss_cons, dns_nil, dns_cons, evs_nil, evs_cons] at so ⊢
  rw [so]
  simp only [List.take_succ_cons, seqItr_tup, seqItr_tmp, seqItr_ro, items_tup, items_tmp, items_ro, callD, startR, List.map_cons, List.map_nil, List.length_cons, List.length_nil, Nat.sub_self, Nat.reduceSub, Nat.reduceAdd, List.replicate, List.append_nil, List.cons_append, List.nil_append, get0, getS, R.bind, R.on, RS.seq, truth_bl, nextO, stV, alloc, setVars, setTg, List.set_cons_zero, List.set_cons_succ, wipe, biU, bi1, bi2, perm, R.opt, fin_ret, fin_next, retU_d, retU_tmp, retU_ro, take_len, add_int, sub_int, bin_add, bin_mul, cmp_eq_int, cmp_ne_int, cmp_lt_int, cmp_le_int, cmp_gt_int, cmp_ge_int, cmp_eq_bl, cmp_ne_bl, negR, notR, onBl, onBlO, tupR, lstR, datas, Option.map_some, gvR, Lib.at, dv_var, dv_non, dv_bl, dv_int, dv_str, dv_gv, dv_bin, dv_neg, dv_cmp, dv_cmp2, dv_and, dv_or, dv_not, dv_ife, dv_tup, dv_lst, dv_idx, dv_slice, dv_call, dv_bi1, dv_bi2, dv_meth, dv_sdict, dt_and, dt_or, dt_not, dt_var, dt_bl, dt_cmp, dt_cmp2, dt_call, dt_bi, dt_idx, dt_bin, dt_ife, dq_var, dq_call, dq_bi, dq_idx, dq_bin, dq_ife, dq_int, dq_neg, dq_absent, di_var, di_call, di_bi, di_idx, di_bin, di_ife, di_lst, di_tup, di_slice, di_comp, di_rng1, di_rng2, di_enum, di_zip, ds_asg, ds_asgT, ds_par, ds_sub, ds_aug, ds_expr, ds_ret, ds_retN, ds_pass, ds_brk, ds_cont, ds_ife, dss_nil, dss_cons, dns_nil, dns_cons, evs_nil, evs_cons, take_app]
theorem extend_at {n : Nat} {h : Hs} {xs ys : List D} (e : h[n]? = some (.lst xs)) (hz : xs.length + ys.length ≤ 1000000) : methR .extend (.obj n) (.tmp (.lst ys)) h = .ok (.d .non) (h.set n (.lst (xs ++ ys))) := by
  unfold methR
  dsimp only
  rw [e]
  exact if_pos (le_size hz)
theorem m__law_tried_sums (k : Nat) (one two : List Int) (h : Hs) (hl : one.length = two.length) (h6 : one.length ≤ 6) (s1 : Sg one) (s2 : Sg two) : callK lib (k + 3) i__law_tried_sums [.d (rowD one), .d (rowD two)] h = .ok (.d (rowsD (sumsL one two [[]]))) h := by
  rw [ck (T := lib) (fn := f__law_tried_sums) rfl rfl]
  have sz1 : (1 : Nat) ≤ sizeLine := by decide
  have sz0 : (0 : Nat) ≤ sizeLine := by decide
  have it := rng1_nat (n := one.length) (h := h ++ [.lst [.tup []]]) (by omega)
  obtain ⟨ρ', h', ef, F, u, v, e1, e2, e3⟩ := for_inv (C := ⟨callK lib (k + 2), lib.gv⟩) (tg := [3]) (wp := [3, 4, 5, 6]) (it := .rng1 (.bi .len [(.var 0)]))
    (body := [(.par [4, 5] [(.lst []), (.call i__law_tried [(.idx (.var 0) (.var 3)), (.idx (.var 1) (.var 3))] [])]),
    (.for_ [6] (.var 2) [(.expr (.meth .extend (.var 4) [(.comp [7] [7] (.bin .add (.var 6) (.tup [(.var 7)])) (.var 5) [])]))] []),
    (.asg 2 (.var 4))])
    (ρ := [some (.d (rowD one)), some (.d (rowD two)), some (.obj h.length), none, none, none, none, none]) (h := h ++ [.lst [.tup []]]) (h1 := h ++ [.lst [.tup []]]) (w := none) (xs := (List.range one.length).map fun (i : Nat) => D.int (i : Int))
    (fun rem ρ hh => ∃ (F : List (List Int)) (u v : Hs), ρ = [some (.d (rowD one)), some (.d (rowD two)), some (.obj (h ++ u).length), none, none, none, none, none] ∧ hh = h ++ u ++ .lst (F.map rowD) :: v ∧
      ∃ i : Nat, rem = ((List.range one.length).drop i).map (fun (i : Nat) => D.int (i : Int)) ∧ i ≤ one.length ∧ F.length ≤ 3 ^ i ∧ (∀ r ∈ F, r.length = i) ∧ sumsL (one.drop i) (two.drop i) F = sumsL one two [[]])
    (by simp only [List.take_succ_cons, seqItr_tup, seqItr_tmp, seqItr_ro, items_tup, items_tmp, items_ro, callD, startR, List.map_cons, List.map_nil, List.length_cons, List.length_nil, Nat.sub_self, Nat.reduceSub, Nat.reduceAdd, List.replicate, List.append_nil, List.cons_append, List.nil_append, get0, getS, R.bind, R.on, RS.seq, truth_bl, nextO, stV, alloc, setVars, setTg, List.set_cons_zero, List.set_cons_succ, wipe, biU, bi1, bi2, perm, R.opt, fin_ret, fin_next, retU_d, retU_tmp, retU_ro, take_len, add_int, sub_int, bin_add, bin_mul, cmp_eq_int, cmp_ne_int, cmp_lt_int, cmp_le_int, cmp_gt_int, cmp_ge_int, cmp_eq_bl, cmp_ne_bl, negR, notR, onBl, onBlO, tupR, lstR, datas, Option.map_some, gvR, Lib.at, dv_var, dv_non, dv_bl, dv_int, dv_str, dv_gv, dv_bin, dv_neg, dv_cmp, dv_cmp2, dv_and, dv_or, dv_not, dv_ife, dv_tup, dv_lst, dv_idx, dv_slice, dv_call, dv_bi1, dv_bi2, dv_meth, dv_sdict, dt_and, dt_or, dt_not, dt_var, dt_bl, dt_cmp, dt_cmp2, dt_call, dt_bi, dt_idx, dt_bin, dt_ife, dq_var, dq_call, dq_bi, dq_idx, dq_bin, dq_ife, dq_int, dq_neg, dq_absent, di_var, di_call, di_bi, di_idx, di_bin, di_ife, di_lst, di_tup, di_slice, di_comp, di_rng1, di_rng2, di_enum, di_zip, ds_asg, ds_asgT, ds_par, ds_sub, ds_aug, ds_expr, ds_ret, ds_retN, ds_pass, ds_brk, ds_cont, ds_ife, dss_nil, dss_cons, dns_nil, dns_cons, evs_nil, evs_cons, List.length_map]; rw [it]) ⟨[[]], [], [], by simp only [List.take_succ_cons, seqItr_tup, seqItr_tmp, seqItr_ro, items_tup, items_tmp, items_ro, callD, startR, List.map_cons, List.map_nil, List.length_cons, List.length_nil, Nat.sub_self, Nat.reduceSub, Nat.reduceAdd, List.replicate, List.append_nil, List.cons_append, List.nil_append, get0, getS, R.bind, R.on, RS.seq, truth_bl, nextO, stV, alloc, setVars, setTg, List.set_cons_zero, List.set_cons_succ, wipe, biU, bi1, bi2, perm, R.opt, fin_ret, fin_next, retU_d, retU_tmp, retU_ro, take_len, add_int, sub_int, bin_add, bin_mul, cmp_eq_int, cmp_ne_int, cmp_lt_int, cmp_le_int, cmp_gt_int, cmp_ge_int, cmp_eq_bl, cmp_ne_bl, negR, notR, onBl, onBlO, tupR, lstR, datas, Option.map_some, gvR, Lib.at, dv_var, dv_non, dv_bl, dv_int, dv_str, dv_gv, dv_bin, dv_neg, dv_cmp, dv_cmp2, dv_and, dv_or, dv_not, dv_ife, dv_tup, dv_lst, dv_idx, dv_slice, dv_call, dv_bi1, dv_bi2, dv_meth, dv_sdict, dt_and, dt_or, dt_not, dt_var, dt_bl, dt_cmp, dt_cmp2, dt_call, dt_bi, dt_idx, dt_bin, dt_ife, dq_var, dq_call, dq_bi, dq_idx, dq_bin, dq_ife, dq_int, dq_neg, dq_absent, di_var, di_call, di_bi, di_idx, di_bin, di_ife, di_lst, di_tup, di_slice, di_comp, di_rng1, di_rng2, di_enum, di_zip, ds_asg, ds_asgT, ds_par, ds_sub, ds_aug, ds_expr, ds_ret, ds_retN, ds_pass, ds_brk, ds_cont, ds_ife, dss_nil, dss_cons, dns_nil, dns_cons, evs_nil, evs_cons], by simp, 0, by simp, Nat.zero_le _, by simp, by simp, by simp⟩
    (fun x xs ρ hh ⟨F, u, v, eρ, eh, i, er, hi, hF, hlen, hs⟩ => by
      have hlt : i < one.length := by
        rcases Nat.lt_or_ge i one.length with z | z
        · exact z
        · rw [List.drop_eq_nil_of_le (by rw [List.length_range]; exact z)] at er; cases er
      have hlt2 : i < two.length := by omega
      rw [List.drop_eq_getElem_cons (by rw [List.length_range]; exact hlt), List.map_cons, List.getElem_range] at er
      obtain ⟨rfl, rfl⟩ := List.cons.inj er
      rw [List.drop_eq_getElem_cons hlt, List.drop_eq_getElem_cons hlt2] at hs
      subst eρ eh
      have p3 : 3 ^ i ≤ 3 ^ 5 := Nat.pow_le_pow_right (by omega) (by omega)
      have nl := nums_len one[i] two[i]
      have cz : F.length * (nums one[i] two[i]).length ≤ 3 ^ i * 3 := Nat.mul_le_mul hF nl.2
      have tr := m__law_tried k one[i] two[i] (h ++ u ++ .lst (F.map rowD) :: v ++ [.lst []]) (s1 _ (List.getElem_mem hlt)) (s2 _ (List.getElem_mem hlt2))
      obtain ⟨ρ2, h2, ef2, A, x6, f1, f2, B, f3, f4, f5⟩ := for_inv (C := ⟨callK lib (k + 2), lib.gv⟩) (tg := [6]) (wp := []) (it := .var 2)
        (body := [(.expr (.meth .extend (.var 4) [(.comp [7] [7] (.bin .add (.var 6) (.tup [(.var 7)])) (.var 5) [])]))])
        (ρ := [some (.d (rowD one)), some (.d (rowD two)), some (.obj (h ++ u).length), some (.d (.int (i : Int))), some (.obj (h ++ u ++ MO.lst (F.map rowD) :: v).length), some (.obj ((h ++ u ++ MO.lst (F.map rowD) :: v).length + 1)), none, none])
        (h := h ++ u ++ .lst (F.map rowD) :: v ++ [.lst [], .lst ((nums one[i] two[i]).map .int)]) (h1 := h ++ u ++ .lst (F.map rowD) :: v ++ [.lst [], .lst ((nums one[i] two[i]).map .int)]) (w := some ((h ++ u).length, .lst (F.map rowD))) (xs := F.map rowD)
        (fun rem ρ hh => ∃ (A : List (List Int)) (x6 : Option U), ρ = [some (.d (rowD one)), some (.d (rowD two)), some (.obj (h ++ u).length), some (.d (.int (i : Int))), some (.obj (h ++ u ++ MO.lst (F.map rowD) :: v).length), some (.obj ((h ++ u ++ MO.lst (F.map rowD) :: v).length + 1)), x6, none] ∧
          hh = h ++ u ++ .lst (F.map rowD) :: v ++ [.lst (A.map rowD), .lst ((nums one[i] two[i]).map .int)] ∧ ∃ B : List (List Int), rem = B.map rowD ∧ (A.length + B.length * (nums one[i] two[i]).length ≤ 3 ^ i * 3 ∧ ∀ r ∈ B, r.length = i) ∧
          A ++ (B.flatMap fun row => (nums one[i] two[i]).map fun c => row ++ [c]) = F.flatMap fun row => (nums one[i] two[i]).map fun c => row ++ [c])
        (by
          simp only [List.take_succ_cons, seqItr_tup, seqItr_tmp, seqItr_ro, items_tup, items_tmp, items_ro, callD, startR, List.map_cons, List.map_nil, List.length_cons, List.length_nil, Nat.sub_self, Nat.reduceSub, Nat.reduceAdd, List.replicate, List.append_nil, List.cons_append, List.nil_append, get0, getS, R.bind, R.on, RS.seq, truth_bl, nextO, stV, alloc, setVars, setTg, List.set_cons_zero, List.set_cons_succ, wipe, biU, bi1, bi2, perm, R.opt, fin_ret, fin_next, retU_d, retU_tmp, retU_ro, take_len, add_int, sub_int, bin_add, bin_mul, cmp_eq_int, cmp_ne_int, cmp_lt_int, cmp_le_int, cmp_gt_int, cmp_ge_int, cmp_eq_bl, cmp_ne_bl, negR, notR, onBl, onBlO, tupR, lstR, datas, Option.map_some, gvR, Lib.at, dv_var, dv_non, dv_bl, dv_int, dv_str, dv_gv, dv_bin, dv_neg, dv_cmp, dv_cmp2, dv_and, dv_or, dv_not, dv_ife, dv_tup, dv_lst, dv_idx, dv_slice, dv_call, dv_bi1, dv_bi2, dv_meth, dv_sdict, dt_and, dt_or, dt_not, dt_var, dt_bl, dt_cmp, dt_cmp2, dt_call, dt_bi, dt_idx, dt_bin, dt_ife, dq_var, dq_call, dq_bi, dq_idx, dq_bin, dq_ife, dq_int, dq_neg, dq_absent, di_var, di_call, di_bi, di_idx, di_bin, di_ife, di_lst, di_tup, di_slice, di_comp, di_rng1, di_rng2, di_enum, di_zip, ds_asg, ds_asgT, ds_par, ds_sub, ds_aug, ds_expr, ds_ret, ds_retN, ds_pass, ds_brk, ds_cont, ds_ife, dss_nil, dss_cons, dns_nil, dns_cons, evs_nil, evs_cons]
          exact seqItr_obj (by rw [List.append_assoc, List.cons_append]; exact get_app))
        ⟨[], none, by simp only [List.take_succ_cons, seqItr_tup, seqItr_tmp, seqItr_ro, items_tup, items_tmp, items_ro, callD, startR, List.map_cons, List.map_nil, List.length_cons, List.length_nil, Nat.sub_self, Nat.reduceSub, Nat.reduceAdd, List.replicate, List.append_nil, List.cons_append, List.nil_append, get0, getS, R.bind, R.on, RS.seq, truth_bl, nextO, stV, alloc, setVars, setTg, List.set_cons_zero, List.set_cons_succ, wipe, biU, bi1, bi2, perm, R.opt, fin_ret, fin_next, retU_d, retU_tmp, retU_ro, take_len, add_int, sub_int, bin_add, bin_mul, cmp_eq_int, cmp_ne_int, cmp_lt_int, cmp_le_int, cmp_gt_int, cmp_ge_int, cmp_eq_bl, cmp_ne_bl, negR, notR, onBl, onBlO, tupR, lstR, datas, Option.map_some, gvR, Lib.at, dv_var, dv_non, dv_bl, dv_int, dv_str, dv_gv, dv_bin, dv_neg, dv_cmp, dv_cmp2, dv_and, dv_or, dv_not, dv_ife, dv_tup, dv_lst, dv_idx, dv_slice, dv_call, dv_bi1, dv_bi2, dv_meth, dv_sdict, dt_and, dt_or, dt_not, dt_var, dt_bl, dt_cmp, dt_cmp2, dt_call, dt_bi, dt_idx, dt_bin, dt_ife, dq_var, dq_call, dq_bi, dq_idx, dq_bin, dq_ife, dq_int, dq_neg, dq_absent, di_var, di_call, di_bi, di_idx, di_bin, di_ife, di_lst, di_tup, di_slice, di_comp, di_rng1, di_rng2, di_enum, di_zip, ds_asg, ds_asgT, ds_par, ds_sub, ds_aug, ds_expr, ds_ret, ds_retN, ds_pass, ds_brk, ds_cont, ds_ife, dss_nil, dss_cons, dns_nil, dns_cons, evs_nil, evs_cons], rfl, F, rfl, ⟨by simpa using cz, hlen⟩, by simp⟩
        (fun x xs ρ hh ⟨A, x6, eρ, eh, B, er, hz, hf⟩ => by
          cases B with
          | nil => simp at er
          | cons r B =>
          rw [List.map_cons] at er
          obtain ⟨rfl, rfl⟩ := List.cons.inj er
          subst eρ eh
          obtain ⟨hz, hb⟩ := hz
          rw [List.length_cons, Nat.add_mul, Nat.one_mul] at hz
          have hrl := hb r List.mem_cons_self
          generalize hH : h ++ u ++ MO.lst (F.map rowD) :: v = H
          have gs : (H ++ [.lst (A.map rowD), .lst ((nums one[i] two[i]).map .int)])[H.length + 1]? = some (.lst ((nums one[i] two[i]).map .int)) := by simp
          have ga : (H ++ [.lst (A.map rowD), .lst ((nums one[i] two[i]).map .int)])[H.length]? = some (.lst (A.map rowD)) := get_app
          have gf : (H ++ [.lst (A.map rowD), .lst ((nums one[i] two[i]).map .int)])[(h ++ u).length]? = some (.lst (F.map rowD)) := by
            rw [← hH, List.append_assoc, List.cons_append]; exact get_app
          have cm := comp_of (C := ⟨callK lib (k + 2), lib.gv⟩) (vs := [7]) (tg := [7]) (elt := .bin .add (.var 6) (.tup [(.var 7)])) (it := .var 5) (ifs := [])
            (ρ := [some (.d (rowD one)), some (.d (rowD two)), some (.obj (h ++ u).length), some (.d (.int (i : Int))), some (.obj H.length), some (.obj (H.length + 1)), some (.d (rowD r)), none])
            (h := H ++ [.lst (A.map rowD), .lst ((nums one[i] two[i]).map .int)]) (l := nums one[i] two[i]) (e := D.int) (g := fun c => rowD (r ++ [c])) (w := some (H.length + 1, .lst ((nums one[i] two[i]).map .int)))
            (by simp only [List.take_succ_cons, seqItr_tup, seqItr_tmp, seqItr_ro, items_tup, items_tmp, items_ro, callD, startR, List.map_cons, List.map_nil, List.length_cons, List.length_nil, Nat.sub_self, Nat.reduceSub, Nat.reduceAdd, List.replicate, List.append_nil, List.cons_append, List.nil_append, get0, getS, R.bind, R.on, RS.seq, truth_bl, nextO, stV, alloc, setVars, setTg, List.set_cons_zero, List.set_cons_succ, wipe, biU, bi1, bi2, perm, R.opt, fin_ret, fin_next, retU_d, retU_tmp, retU_ro, take_len, add_int, sub_int, bin_add, bin_mul, cmp_eq_int, cmp_ne_int, cmp_lt_int, cmp_le_int, cmp_gt_int, cmp_ge_int, cmp_eq_bl, cmp_ne_bl, negR, notR, onBl, onBlO, tupR, lstR, datas, Option.map_some, gvR, Lib.at, dv_var, dv_non, dv_bl, dv_int, dv_str, dv_gv, dv_bin, dv_neg, dv_cmp, dv_cmp2, dv_and, dv_or, dv_not, dv_ife, dv_tup, dv_lst, dv_idx, dv_slice, dv_call, dv_bi1, dv_bi2, dv_meth, dv_sdict, dt_and, dt_or, dt_not, dt_var, dt_bl, dt_cmp, dt_cmp2, dt_call, dt_bi, dt_idx, dt_bin, dt_ife, dq_var, dq_call, dq_bi, dq_idx, dq_bin, dq_ife, dq_int, dq_neg, dq_absent, di_var, di_call, di_bi, di_idx, di_bin, di_ife, di_lst, di_tup, di_slice, di_comp, di_rng1, di_rng2, di_enum, di_zip, ds_asg, ds_asgT, ds_par, ds_sub, ds_aug, ds_expr, ds_ret, ds_retN, ds_pass, ds_brk, ds_cont, ds_ife, dss_nil, dss_cons, dns_nil, dns_cons, evs_nil, evs_cons]; exact seqItr_obj gs) (ok_some gs) (le_size (by omega)) (fun c hc => by
              simp only [List.take_succ_cons, seqItr_tup, seqItr_tmp, seqItr_ro, items_tup, items_tmp, items_ro, callD, startR, List.map_cons, List.map_nil, List.length_cons, List.length_nil, Nat.sub_self, Nat.reduceSub, Nat.reduceAdd, List.replicate, List.append_nil, List.cons_append, List.nil_append, get0, getS, R.bind, R.on, RS.seq, truth_bl, nextO, stV, alloc, setVars, setTg, List.set_cons_zero, List.set_cons_succ, wipe, biU, bi1, bi2, perm, R.opt, fin_ret, fin_next, retU_d, retU_tmp, retU_ro, take_len, add_int, sub_int, bin_add, bin_mul, cmp_eq_int, cmp_ne_int, cmp_lt_int, cmp_le_int, cmp_gt_int, cmp_ge_int, cmp_eq_bl, cmp_ne_bl, negR, notR, onBl, onBlO, tupR, lstR, datas, Option.map_some, gvR, Lib.at, dv_var, dv_non, dv_bl, dv_int, dv_str, dv_gv, dv_bin, dv_neg, dv_cmp, dv_cmp2, dv_and, dv_or, dv_not, dv_ife, dv_tup, dv_lst, dv_idx, dv_slice, dv_call, dv_bi1, dv_bi2, dv_meth, dv_sdict, dt_and, dt_or, dt_not, dt_var, dt_bl, dt_cmp, dt_cmp2, dt_call, dt_bi, dt_idx, dt_bin, dt_ife, dq_var, dq_call, dq_bi, dq_idx, dq_bin, dq_ife, dq_int, dq_neg, dq_absent, di_var, di_call, di_bi, di_idx, di_bin, di_ife, di_lst, di_tup, di_slice, di_comp, di_rng1, di_rng2, di_enum, di_zip, ds_asg, ds_asgT, ds_par, ds_sub, ds_aug, ds_expr, ds_ret, ds_retN, ds_pass, ds_brk, ds_cont, ds_ife, dss_nil, dss_cons, dns_nil, dns_cons, evs_nil, evs_cons, turnR, testsR, dataR, sz1, if_true, one_tup, add_row (r := r) (s := [c]) (by simp; omega)])
          have la := lst_at ga
          have ex := extend_at (ys := (nums one[i] two[i]).map fun c => rowD (r ++ [c])) ga (by rw [List.length_map, List.length_map]; omega)
          refine ⟨ok_some gf, [some (.d (rowD one)), some (.d (rowD two)), some (.obj (h ++ u).length), some (.d (.int (i : Int))), some (.obj H.length), some (.obj (H.length + 1)), some (.d (rowD r)), none], by simp only [List.take_succ_cons, seqItr_tup, seqItr_tmp, seqItr_ro, items_tup, items_tmp, items_ro, callD, startR, List.map_cons, List.map_nil, List.length_cons, List.length_nil, Nat.sub_self, Nat.reduceSub, Nat.reduceAdd, List.replicate, List.append_nil, List.cons_append, List.nil_append, get0, getS, R.bind, R.on, RS.seq, truth_bl, nextO, stV, alloc, setVars, setTg, List.set_cons_zero, List.set_cons_succ, wipe, biU, bi1, bi2, perm, R.opt, fin_ret, fin_next, retU_d, retU_tmp, retU_ro, take_len, add_int, sub_int, bin_add, bin_mul, cmp_eq_int, cmp_ne_int, cmp_lt_int, cmp_le_int, cmp_gt_int, cmp_ge_int, cmp_eq_bl, cmp_ne_bl, negR, notR, onBl, onBlO, tupR, lstR, datas, Option.map_some, gvR, Lib.at, dv_var, dv_non, dv_bl, dv_int, dv_str, dv_gv, dv_bin, dv_neg, dv_cmp, dv_cmp2, dv_and, dv_or, dv_not, dv_ife, dv_tup, dv_lst, dv_idx, dv_slice, dv_call, dv_bi1, dv_bi2, dv_meth, dv_sdict, dt_and, dt_or, dt_not, dt_var, dt_bl, dt_cmp, dt_cmp2, dt_call, dt_bi, dt_idx, dt_bin, dt_ife, dq_var, dq_call, dq_bi, dq_idx, dq_bin, dq_ife, dq_int, dq_neg, dq_absent, di_var, di_call, di_bi, di_idx, di_bin, di_ife, di_lst, di_tup, di_slice, di_comp, di_rng1, di_rng2, di_enum, di_zip, ds_asg, ds_asgT, ds_par, ds_sub, ds_aug, ds_expr, ds_ret, ds_retN, ds_pass, ds_brk, ds_cont, ds_ife, dss_nil, dss_cons, dns_nil, dns_cons, evs_nil, evs_cons],
            [some (.d (rowD one)), some (.d (rowD two)), some (.obj (h ++ u).length), some (.d (.int (i : Int))), some (.obj H.length), some (.obj (H.length + 1)), some (.d (rowD r)), none],
            H ++ [.lst ((A ++ (nums one[i] two[i]).map fun c => r ++ [c]).map rowD), .lst ((nums one[i] two[i]).map .int)], .inl ?_, A ++ (nums one[i] two[i]).map fun c => r ++ [c], some (.d (rowD r)), by simp only [List.take_succ_cons, seqItr_tup, seqItr_tmp, seqItr_ro, items_tup, items_tmp, items_ro, callD, startR, List.map_cons, List.map_nil, List.length_cons, List.length_nil, Nat.sub_self, Nat.reduceSub, Nat.reduceAdd, List.replicate, List.append_nil, List.cons_append, List.nil_append, get0, getS, R.bind, R.on, RS.seq, truth_bl, nextO, stV, alloc, setVars, setTg, List.set_cons_zero, List.set_cons_succ, wipe, biU, bi1, bi2, perm, R.opt, fin_ret, fin_next, retU_d, retU_tmp, retU_ro, take_len, add_int, sub_int, bin_add, bin_mul, cmp_eq_int, cmp_ne_int, cmp_lt_int, cmp_le_int, cmp_gt_int, cmp_ge_int, cmp_eq_bl, cmp_ne_bl, negR, notR, onBl, onBlO, tupR, lstR, datas, Option.map_some, gvR, Lib.at, dv_var, dv_non, dv_bl, dv_int, dv_str, dv_gv, dv_bin, dv_neg, dv_cmp, dv_cmp2, dv_and, dv_or, dv_not, dv_ife, dv_tup, dv_lst, dv_idx, dv_slice, dv_call, dv_bi1, dv_bi2, dv_meth, dv_sdict, dt_and, dt_or, dt_not, dt_var, dt_bl, dt_cmp, dt_cmp2, dt_call, dt_bi, dt_idx, dt_bin, dt_ife, dq_var, dq_call, dq_bi, dq_idx, dq_bin, dq_ife, dq_int, dq_neg, dq_absent, di_var, di_call, di_bi, di_idx, di_bin, di_ife, di_lst, di_tup, di_slice, di_comp, di_rng1, di_rng2, di_enum, di_zip, ds_asg, ds_asgT, ds_par, ds_sub, ds_aug, ds_expr, ds_ret, ds_retN, ds_pass, ds_brk, ds_cont, ds_ife, dss_nil, dss_cons, dns_nil, dns_cons, evs_nil, evs_cons], rfl, B, rfl, ⟨?_, fun r hr => hb r (List.mem_cons_of_mem _ hr)⟩, ?_⟩
          · simp only [List.take_succ_cons, seqItr_tup, seqItr_tmp, seqItr_ro, items_tup, items_tmp, items_ro, callD, startR, List.map_cons, List.map_nil, List.length_cons, List.length_nil, Nat.sub_self, Nat.reduceSub, Nat.reduceAdd, List.replicate, List.append_nil, List.cons_append, List.nil_append, get0, getS, R.bind, R.on, RS.seq, truth_bl, nextO, stV, alloc, setVars, setTg, List.set_cons_zero, List.set_cons_succ, wipe, biU, bi1, bi2, perm, R.opt, fin_ret, fin_next, retU_d, retU_tmp, retU_ro, take_len, add_int, sub_int, bin_add, bin_mul, cmp_eq_int, cmp_ne_int, cmp_lt_int, cmp_le_int, cmp_gt_int, cmp_ge_int, cmp_eq_bl, cmp_ne_bl, negR, notR, onBl, onBlO, tupR, lstR, datas, Option.map_some, gvR, Lib.at, dv_var, dv_non, dv_bl, dv_int, dv_str, dv_gv, dv_bin, dv_neg, dv_cmp, dv_cmp2, dv_and, dv_or, dv_not, dv_ife, dv_tup, dv_lst, dv_idx, dv_slice, dv_call, dv_bi1, dv_bi2, dv_meth, dv_sdict, dt_and, dt_or, dt_not, dt_var, dt_bl, dt_cmp, dt_cmp2, dt_call, dt_bi, dt_idx, dt_bin, dt_ife, dq_var, dq_call, dq_bi, dq_idx, dq_bin, dq_ife, dq_int, dq_neg, dq_absent, di_var, di_call, di_bi, di_idx, di_bin, di_ife, di_lst, di_tup, di_slice, di_comp, di_rng1, di_rng2, di_enum, di_zip, ds_asg, ds_asgT, ds_par, ds_sub, ds_aug, ds_expr, ds_ret, ds_retN, ds_pass, ds_brk, ds_cont, ds_ife, dss_nil, dss_cons, dns_nil, dns_cons, evs_nil, evs_cons, la, if_true, cm, ex, set_app]
            simp [Function.comp_def]
          · rw [List.length_append, List.length_map]; omega
          · rw [← hf]; simp)
        (fun ρ hh ⟨A, x6, eρ, eh, _⟩ => by
          subst eh
          exact ok_some (by rw [List.append_assoc, List.cons_append]; exact get_app))
      have eB : B = [] := by cases B with | nil => rfl | cons _ _ => simp at f3
      subst eB f1 f2
      rw [List.flatMap_nil, List.append_nil] at f5
      have hA : A.length ≤ 3 ^ i * 3 := by simpa using f4.1
      refine ⟨ok_none, [some (.d (rowD one)), some (.d (rowD two)), some (.obj (h ++ u).length), some (.d (.int (i : Int))), none, none, none, none], by simp only [List.take_succ_cons, seqItr_tup, seqItr_tmp, seqItr_ro, items_tup, items_tmp, items_ro, callD, startR, List.map_cons, List.map_nil, List.length_cons, List.length_nil, Nat.sub_self, Nat.reduceSub, Nat.reduceAdd, List.replicate, List.append_nil, List.cons_append, List.nil_append, get0, getS, R.bind, R.on, RS.seq, truth_bl, nextO, stV, alloc, setVars, setTg, List.set_cons_zero, List.set_cons_succ, wipe, biU, bi1, bi2, perm, R.opt, fin_ret, fin_next, retU_d, retU_tmp, retU_ro, take_len, add_int, sub_int, bin_add, bin_mul, cmp_eq_int, cmp_ne_int, cmp_lt_int, cmp_le_int, cmp_gt_int, cmp_ge_int, cmp_eq_bl, cmp_ne_bl, negR, notR, onBl, onBlO, tupR, lstR, datas, Option.map_some, gvR, Lib.at, dv_var, dv_non, dv_bl, dv_int, dv_str, dv_gv, dv_bin, dv_neg, dv_cmp, dv_cmp2, dv_and, dv_or, dv_not, dv_ife, dv_tup, dv_lst, dv_idx, dv_slice, dv_call, dv_bi1, dv_bi2, dv_meth, dv_sdict, dt_and, dt_or, dt_not, dt_var, dt_bl, dt_cmp, dt_cmp2, dt_call, dt_bi, dt_idx, dt_bin, dt_ife, dq_var, dq_call, dq_bi, dq_idx, dq_bin, dq_ife, dq_int, dq_neg, dq_absent, di_var, di_call, di_bi, di_idx, di_bin, di_ife, di_lst, di_tup, di_slice, di_comp, di_rng1, di_rng2, di_enum, di_zip, ds_asg, ds_asgT, ds_par, ds_sub, ds_aug, ds_expr, ds_ret, ds_retN, ds_pass, ds_brk, ds_cont, ds_ife, dss_nil, dss_cons, dns_nil, dns_cons, evs_nil, evs_cons],
        [some (.d (rowD one)), some (.d (rowD two)), some (.obj (h ++ u ++ MO.lst (F.map rowD) :: v).length), some (.d (.int (i : Int))), some (.obj (h ++ u ++ MO.lst (F.map rowD) :: v).length), some (.obj ((h ++ u ++ MO.lst (F.map rowD) :: v).length + 1)), x6, none],
        h ++ u ++ .lst (F.map rowD) :: v ++ [.lst (A.map rowD), .lst ((nums one[i] two[i]).map .int)], .inl ?_, A, u ++ .lst (F.map rowD) :: v, [.lst ((nums one[i] two[i]).map .int)], by simp only [List.take_succ_cons, seqItr_tup, seqItr_tmp, seqItr_ro, items_tup, items_tmp, items_ro, callD, startR, List.map_cons, List.map_nil, List.length_cons, List.length_nil, Nat.sub_self, Nat.reduceSub, Nat.reduceAdd, List.replicate, List.append_nil, List.cons_append, List.nil_append, get0, getS, R.bind, R.on, RS.seq, truth_bl, nextO, stV, alloc, setVars, setTg, List.set_cons_zero, List.set_cons_succ, wipe, biU, bi1, bi2, perm, R.opt, fin_ret, fin_next, retU_d, retU_tmp, retU_ro, take_len, add_int, sub_int, bin_add, bin_mul, cmp_eq_int, cmp_ne_int, cmp_lt_int, cmp_le_int, cmp_gt_int, cmp_ge_int, cmp_eq_bl, cmp_ne_bl, negR, notR, onBl, onBlO, tupR, lstR, datas, Option.map_some, gvR, Lib.at, dv_var, dv_non, dv_bl, dv_int, dv_str, dv_gv, dv_bin, dv_neg, dv_cmp, dv_cmp2, dv_and, dv_or, dv_not, dv_ife, dv_tup, dv_lst, dv_idx, dv_slice, dv_call, dv_bi1, dv_bi2, dv_meth, dv_sdict, dt_and, dt_or, dt_not, dt_var, dt_bl, dt_cmp, dt_cmp2, dt_call, dt_bi, dt_idx, dt_bin, dt_ife, dq_var, dq_call, dq_bi, dq_idx, dq_bin, dq_ife, dq_int, dq_neg, dq_absent, di_var, di_call, di_bi, di_idx, di_bin, di_ife, di_lst, di_tup, di_slice, di_comp, di_rng1, di_rng2, di_enum, di_zip, ds_asg, ds_asgT, ds_par, ds_sub, ds_aug, ds_expr, ds_ret, ds_retN, ds_pass, ds_brk, ds_cont, ds_ife, dss_nil, dss_cons, dns_nil, dns_cons, evs_nil, evs_cons, List.append_assoc], by simp, i + 1, rfl, by omega, by rw [Nat.pow_succ]; exact hA, ?_, ?_⟩
      · generalize hH : h ++ u ++ MO.lst (F.map rowD) :: v = H at tr ef2 ⊢
        have ln : (H ++ [MO.lst []]).length = H.length + 1 := by simp
        have ap : H ++ [MO.lst []] ++ [MO.lst ((nums one[i] two[i]).map .int)] = H ++ [.lst [], .lst ((nums one[i] two[i]).map .int)] := by simp
        simp only [List.take_succ_cons, seqItr_tup, seqItr_tmp, seqItr_ro, items_tup, items_tmp, items_ro, callD, startR, List.map_cons, List.map_nil, List.length_cons, List.length_nil, Nat.sub_self, Nat.reduceSub, Nat.reduceAdd, List.replicate, List.append_nil, List.cons_append, List.nil_append, get0, getS, R.bind, R.on, RS.seq, truth_bl, nextO, stV, alloc, setVars, setTg, List.set_cons_zero, List.set_cons_succ, wipe, biU, bi1, bi2, perm, R.opt, fin_ret, fin_next, retU_d, retU_tmp, retU_ro, take_len, add_int, sub_int, bin_add, bin_mul, cmp_eq_int, cmp_ne_int, cmp_lt_int, cmp_le_int, cmp_gt_int, cmp_ge_int, cmp_eq_bl, cmp_ne_bl, negR, notR, onBl, onBlO, tupR, lstR, datas, Option.map_some, gvR, Lib.at, dv_var, dv_non, dv_bl, dv_int, dv_str, dv_gv, dv_bin, dv_neg, dv_cmp, dv_cmp2, dv_and, dv_or, dv_not, dv_ife, dv_tup, dv_lst, dv_idx, dv_slice, dv_call, dv_bi1, dv_bi2, dv_meth, dv_sdict, dt_and, dt_or, dt_not, dt_var, dt_bl, dt_cmp, dt_cmp2, dt_call, dt_bi, dt_idx, dt_bin, dt_ife, dq_var, dq_call, dq_bi, dq_idx, dq_bin, dq_ife, dq_int, dq_neg, dq_absent, di_var, di_call, di_bi, di_idx, di_bin, di_ife, di_lst, di_tup, di_slice, di_comp, di_rng1, di_rng2, di_enum, di_zip, ds_asg, ds_asgT, ds_par, ds_sub, ds_aug, ds_expr, ds_ret, ds_retN, ds_pass, ds_brk, ds_cont, ds_ife, dss_nil, dss_cons, dns_nil, dns_cons, evs_nil, evs_cons, sz0, if_true, idx_row hlt, idx_row hlt2, tr, ln, ap]
        rw [ef2]
        simp only [List.take_succ_cons, seqItr_tup, seqItr_tmp, seqItr_ro, items_tup, items_tmp, items_ro, callD, startR, List.map_cons, List.map_nil, List.length_cons, List.length_nil, Nat.sub_self, Nat.reduceSub, Nat.reduceAdd, List.replicate, List.append_nil, List.cons_append, List.nil_append, get0, getS, R.bind, R.on, RS.seq, truth_bl, nextO, stV, alloc, setVars, setTg, List.set_cons_zero, List.set_cons_succ, wipe, biU, bi1, bi2, perm, R.opt, fin_ret, fin_next, retU_d, retU_tmp, retU_ro, take_len, add_int, sub_int, bin_add, bin_mul, cmp_eq_int, cmp_ne_int, cmp_lt_int, cmp_le_int, cmp_gt_int, cmp_ge_int, cmp_eq_bl, cmp_ne_bl, negR, notR, onBl, onBlO, tupR, lstR, datas, Option.map_some, gvR, Lib.at, dv_var, dv_non, dv_bl, dv_int, dv_str, dv_gv, dv_bin, dv_neg, dv_cmp, dv_cmp2, dv_and, dv_or, dv_not, dv_ife, dv_tup, dv_lst, dv_idx, dv_slice, dv_call, dv_bi1, dv_bi2, dv_meth, dv_sdict, dt_and, dt_or, dt_not, dt_var, dt_bl, dt_cmp, dt_cmp2, dt_call, dt_bi, dt_idx, dt_bin, dt_ife, dq_var, dq_call, dq_bi, dq_idx, dq_bin, dq_ife, dq_int, dq_neg, dq_absent, di_var, di_call, di_bi, di_idx, di_bin, di_ife, di_lst, di_tup, di_slice, di_comp, di_rng1, di_rng2, di_enum, di_zip, ds_asg, ds_asgT, ds_par, ds_sub, ds_aug, ds_expr, ds_ret, ds_retN, ds_pass, ds_brk, ds_cont, ds_ife, dss_nil, dss_cons, dns_nil, dns_cons, evs_nil, evs_cons]
      · intro r hr
        rw [f5] at hr
        obtain ⟨r0, h0, hr⟩ := List.mem_flatMap.mp hr
        obtain ⟨c, _, rfl⟩ := List.mem_map.mp hr
        rw [List.length_append, hlen r0 h0]
        rfl
      · rw [f5]
        exact hs)
    (fun ρ h _ => ok_none)
  obtain ⟨i, er, hi, hF, hlen, hs⟩ := e3
  have hi2 : i = one.length := by
    rcases Nat.lt_or_ge i one.length with z | z
    · rw [List.drop_eq_getElem_cons (by rw [List.length_range]; exact z)] at er; cases er
    · omega
  subst hi2
  rw [List.drop_length] at hs
  have hs2 : F = sumsL one two [[]] := by
    rw [← hs]
    unfold sumsL
    rfl
  subst e1 e2
  have itm := items_obj (i := (h ++ u).length) (xs := F.map rowD) (h := h ++ u ++ .lst (F.map rowD) :: v) get_app
  simp only [List.take_succ_cons, seqItr_tup, seqItr_tmp, seqItr_ro, items_tup, items_tmp, items_ro, callD, startR, List.map_cons, List.map_nil, List.length_cons, List.length_nil, Nat.sub_self, Nat.reduceSub, Nat.reduceAdd, List.replicate, List.append_nil, List.cons_append, List.nil_append, get0, getS, R.bind, R.on, RS.seq, truth_bl, nextO, stV, alloc, setVars, setTg, List.set_cons_zero, List.set_cons_succ, wipe, biU, bi1, bi2, perm, R.opt, fin_ret, fin_next, retU_d, retU_tmp, retU_ro, take_len, add_int, sub_int, bin_add, bin_mul, cmp_eq_int, cmp_ne_int, cmp_lt_int, cmp_le_int, cmp_gt_int, cmp_ge_int, cmp_eq_bl, cmp_ne_bl, negR, notR, onBl, onBlO, tupR, lstR, datas, Option.map_some, gvR, Lib.at, dv_var, dv_non, dv_bl, dv_int, dv_str, dv_gv, dv_bin, dv_neg, dv_cmp, dv_cmp2, dv_and, dv_or, dv_not, dv_ife, dv_tup, dv_lst, dv_idx, dv_slice, dv_call, dv_bi1, dv_bi2, dv_meth, dv_sdict, dt_and, dt_or, dt_not, dt_var, dt_bl, dt_cmp, dt_cmp2, dt_call, dt_bi, dt_idx, dt_bin, dt_ife, dq_var, dq_call, dq_bi, dq_idx, dq_bin, dq_ife, dq_int, dq_neg, dq_absent, di_var, di_call, di_bi, di_idx, di_bin, di_ife, di_lst, di_tup, di_slice, di_comp, di_rng1, di_rng2, di_enum, di_zip, ds_asg, ds_asgT, ds_par, ds_sub, ds_aug, ds_expr, ds_ret, ds_retN, ds_pass, ds_brk, ds_cont, ds_ife, dss_nil, dss_cons, dns_nil, dns_cons, evs_nil, evs_cons, f__law_tried_sums, s__law_tried_sums, sz1, sz0, if_true]
  rw [ef]
  simp only [List.take_succ_cons, seqItr_tup, seqItr_tmp, seqItr_ro, items_tup, items_tmp, items_ro, callD, startR, List.map_cons, List.map_nil, List.length_cons, List.length_nil, Nat.sub_self, Nat.reduceSub, Nat.reduceAdd, List.replicate, List.append_nil, List.cons_append, List.nil_append, get0, getS, R.bind, R.on, RS.seq, truth_bl, nextO, stV, alloc, setVars, setTg, List.set_cons_zero, List.set_cons_succ, wipe, biU, bi1, bi2, perm, R.opt, fin_ret, fin_next, retU_d, retU_tmp, retU_ro, take_len, add_int, sub_int, bin_add, bin_mul, cmp_eq_int, cmp_ne_int, cmp_lt_int, cmp_le_int, cmp_gt_int, cmp_ge_int, cmp_eq_bl, cmp_ne_bl, negR, notR, onBl, onBlO, tupR, lstR, datas, Option.map_some, gvR, Lib.at, dv_var, dv_non, dv_bl, dv_int, dv_str, dv_gv, dv_bin, dv_neg, dv_cmp, dv_cmp2, dv_and, dv_or, dv_not, dv_ife, dv_tup, dv_lst, dv_idx, dv_slice, dv_call, dv_bi1, dv_bi2, dv_meth, dv_sdict, dt_and, dt_or, dt_not, dt_var, dt_bl, dt_cmp, dt_cmp2, dt_call, dt_bi, dt_idx, dt_bin, dt_ife, dq_var, dq_call, dq_bi, dq_idx, dq_bin, dq_ife, dq_int, dq_neg, dq_absent, di_var, di_call, di_bi, di_idx, di_bin, di_ife, di_lst, di_tup, di_slice, di_comp, di_rng1, di_rng2, di_enum, di_zip, ds_asg, ds_asgT, ds_par, ds_sub, ds_aug, ds_expr, ds_ret, ds_retN, ds_pass, ds_brk, ds_cont, ds_ife, dss_nil, dss_cons, dns_nil, dns_cons, evs_nil, evs_cons, itm]
  rw [hs2, List.append_assoc, take_app]
end EV
end

section
set_option Elab.async false
set_option linter.all false
set_option maxRecDepth 100000
namespace EV
open PySem
theorem le_row (r s : List Int) : PySem.W.dataLe false D.py (rowD r) (rowD s) = decide (r ≤ s) := by
  have h1 := congrFun (congrFun (PySem.W.dataLe_rows (fun x : List Int => x)) r) s
  have h2 : ∀ xs ys : List PyData, PySem.W.dataLt (.tuple xs) (.tuple ys) = PySem.W.dataLt (.list xs) (.list ys) := fun xs ys => by
    rw [PySem.W.dataLt_tuple, PySem.W.dataLt_list]
  rw [← h1]
  show (!PySem.W.dataLt (rowD s).py (rowD r).py) = (!PySem.W.dataLt (.list (s.map .int)) (.list (r.map .int)))
  rw [row_py, row_py, h2]
theorem rowD_inj : ∀ r s : List Int, rowD r = rowD s → r = s
  | [], [], _ => rfl
  | [], _ :: _, h => by simp at h
  | _ :: _, [], h => by simp at h
  | x :: r, y :: s, h => by
    simp only [List.map_cons, D.tup.injEq, List.cons.injEq, D.int.injEq] at h
    rw [h.1, rowD_inj r s (by rw [D.tup.injEq]; exact h.2)]
/-- rows, each once, in order -/
noncomputable def setOf (F : List (List Int)) : List (List Int) := (F.foldl (fun acc x => if x ∈ acc then acc else acc ++ [x]) []).mergeSort fun a b => decide (a ≤ b)
theorem once_map : ∀ (F acc : List (List Int)), (F.map rowD).foldl addD (acc.map rowD) = (F.foldl (fun acc x => if x ∈ acc then acc else acc ++ [x]) acc).map rowD
  | [], acc => rfl
  | x :: F, acc => by
    rw [List.map_cons, List.foldl_cons, List.foldl_cons]
    have e : addD (acc.map rowD) (rowD x) = (if x ∈ acc then acc else acc ++ [x]).map rowD := by
      have im : rowD x ∈ acc.map rowD ↔ x ∈ acc := by
        constructor
        · intro h
          obtain ⟨y, hy, e⟩ := List.mem_map.mp h
          exact rowD_inj y x e ▸ hy
        · exact fun h => List.mem_map.mpr ⟨x, h, rfl⟩
      unfold addD
      by_cases h : x ∈ acc
      · rw [if_pos (im.mpr h), if_pos h]
      · rw [if_neg (fun z => h (im.mp z)), if_neg h, List.map_append]
        rfl
    rw [e, once_map F]
theorem once_mem : ∀ (F acc : List (List Int)), (∀ r, r ∈ F.foldl (fun acc x => if x ∈ acc then acc else acc ++ [x]) acc ↔ r ∈ acc ∨ r ∈ F) ∧ (acc.Nodup → (F.foldl (fun acc x => if x ∈ acc then acc else acc ++ [x]) acc).Nodup)
  | [], acc => ⟨by simp, fun h => h⟩
  | x :: F, acc => by
    rw [List.foldl_cons]
    obtain ⟨h1, h2⟩ := once_mem F (if x ∈ acc then acc else acc ++ [x])
    by_cases h : x ∈ acc
    · rw [if_pos h] at h1 h2 ⊢
      refine ⟨fun r => ?_, h2⟩
      rw [h1 r, List.mem_cons]
      constructor
      · rintro (z | z)
        · exact .inl z
        · exact .inr (.inr z)
      · rintro (z | rfl | z)
        · exact .inl z
        · exact .inl h
        · exact .inr z
    · rw [if_neg h] at h1 h2 ⊢
      refine ⟨fun r => ?_, fun nd => h2 ?_⟩
      · rw [h1 r, List.mem_append, List.mem_singleton, List.mem_cons]
        constructor
        · rintro ((z | z) | z)
          · exact .inl z
          · exact .inr (.inl z)
          · exact .inr (.inr z)
        · rintro (z | z | z)
          · exact .inl (.inl z)
          · exact .inl (.inr z)
          · exact .inr z
      · rw [List.nodup_append]
        refine ⟨nd, by simp, fun a ha b hb => ?_⟩
        rw [List.mem_singleton.mp hb]
        exact fun z => h (z ▸ ha)
theorem set_eq {F G : List (List Int)} (h : ∀ r, r ∈ F ↔ r ∈ G) : setOf F = setOf G := by
  unfold setOf
  have hp : (F.foldl (fun acc x => if x ∈ acc then acc else acc ++ [x]) []).Perm (G.foldl (fun acc x => if x ∈ acc then acc else acc ++ [x]) []) := by
    refine (List.perm_ext_iff_of_nodup ((once_mem F []).2 List.nodup_nil) ((once_mem G []).2 List.nodup_nil)).mpr fun r => ?_
    rw [(once_mem F []).1 r, (once_mem G []).1 r]
    simp [h r]
  have tr : ∀ a b c : List Int, decide (a ≤ b) = true → decide (b ≤ c) = true → decide (a ≤ c) = true := fun a b c h1 h2 => by
    simp only [decide_eq_true_eq] at *
    exact List.le_trans h1 h2
  have tot : ∀ a b : List Int, (decide (a ≤ b) || decide (b ≤ a)) = true := fun a b => by
    simp only [Bool.or_eq_true, decide_eq_true_eq]
    exact List.le_total a b
  refine List.Perm.eq_of_pairwise (le := fun a b : List Int => decide (a ≤ b) = true) (fun a b _ _ h1 h2 => ?_) (List.pairwise_mergeSort tr tot _) (List.pairwise_mergeSort tr tot _) (((List.mergeSort_perm _ _).trans hp).trans (List.mergeSort_perm _ _).symm)
  simp only [decide_eq_true_eq] at h1 h2
  exact List.le_antisymm h1 h2
theorem sort_rows (F : List (List Int)) : sortD (onceD (F.map rowD)) = (setOf F).map rowD := by
  unfold sortD onceD setOf
  rw [show F.map rowD = F.map rowD from rfl]
  have e := once_map F []
  rw [List.map_nil] at e
  rw [e]
  exact (List.map_mergeSort (r := fun a b => decide (a ≤ b)) (fun a _ b _ => (le_row a b).symm)).symm
end EV
end

section
set_option Elab.async false
set_option linter.all false
set_option maxRecDepth 100000
namespace EV
open PySem
theorem nks_ints : ∀ r : List Int, D.nks (r.map .int) = some (r.map .num)
  | [] => rfl
  | x :: r => by
    rw [List.map_cons, List.map_cons]
    unfold D.nks
    rw [nks_ints r]
    rfl
theorem deep_nums : ∀ r : List Int, NestedKey.depthAll (r.map .num) = 0
  | [] => rfl
  | x :: r => by
    rw [List.map_cons]
    unfold NestedKey.depthAll
    rw [deep_nums r]
    rfl
theorem key_row (r : List Int) : KeyOk (rowD r) := by
  refine ⟨rfl, .tup (r.map .num), ?_, ?_⟩
  · show (D.nks (r.map .int)).map NestedKey.tup = _
    rw [nks_ints]
    rfl
  · show NestedKey.depthAll (r.map .num) + 1 ≤ 8
    rw [deep_nums]
    decide
theorem alike_intsL : ∀ r s : List Int, PySem.W.alikeAll (r.map .int) (s.map .int) = true := PySem.W.alike_ints
theorem sortOk_rows {F : List (List Int)} (hne : ∀ r ∈ F, r ≠ []) : SortOk (onceD (F.map rowD)) := by
  have e := once_map F []
  rw [List.map_nil] at e
  have e2 : onceD (F.map rowD) = (F.foldl (fun acc x => if x ∈ acc then acc else acc ++ [x]) []).map rowD := e
  rw [e2]
  have hm : ∀ r ∈ F.foldl (fun acc x => if x ∈ acc then acc else acc ++ [x]) [], r ≠ [] := fun r hr => by
    rcases ((once_mem F []).1 r).mp hr with z | z
    · cases z
    · exact hne r z
  generalize F.foldl (fun acc x => if x ∈ acc then acc else acc ++ [x]) [] = G at hm
  refine ⟨fun d hd d' hd' => ?_, .inl fun d hd => ?_, fun x hx => ?_⟩
  · rw [List.map_map] at hd hd'
    obtain ⟨r, _, rfl⟩ := List.mem_map.mp hd
    obtain ⟨s, _, rfl⟩ := List.mem_map.mp hd'
    show PySem.W.alike (rowD r).py (rowD s).py = true
    rw [row_py, row_py]
    unfold PySem.W.alike
    exact alike_intsL r s
  · rw [List.map_map] at hd
    obtain ⟨r, hr, rfl⟩ := List.mem_map.mp hd
    show ∃ x t, (rowD r).py = .tuple (x :: t)
    rw [row_py]
    cases r with
    | nil => exact absurd rfl (hm [] hr)
    | cons x r => exact ⟨_, _, rfl⟩
  · obtain ⟨r, _, rfl⟩ := List.mem_map.mp hx
    rw [row_py]
    unfold PyData.depth
    rw [deep_ints]
    decide
theorem fsts_rows : ∀ F : List (List Int), fstsD (F.map fun r => .tup [rowD r, .bl true]) = some (F.map rowD)
  | [] => rfl
  | r :: F => by
    rw [List.map_cons]
    unfold fstsD
    rw [fsts_rows F]
    rfl
theorem m__law_in_rows (k : Nat) (F : List (List Int)) (n : Nat) (h : Hs) (hn : h[n]? = some (.lst (F.map rowD))) (hz : F.length ≤ 1000000) (hne : ∀ r ∈ F, r ≠ []) :
    callK lib (k + 1) i__law_in_rows [.obj n] h = .ok (.d (rowsD (setOf F))) h := by
  rw [ck (T := lib) (fn := f__law_in_rows) rfl rfl]
  have sz2 : (2 : Nat) ≤ sizeLine := by decide
  have e := comp_of (C := ⟨callK lib k, lib.gv⟩) (vs := [1]) (tg := [1]) (elt := .tup [.var 1, .bl true]) (it := .var 0) (ifs := []) (ρ := [some (.obj n), none]) (h := h) (l := F) (e := rowD) (g := fun r => .tup [rowD r, .bl true]) (w := some (n, .lst (F.map rowD)))
    (by simp only [List.take_succ_cons, seqItr_tup, seqItr_tmp, seqItr_ro, items_tup, items_tmp, items_ro, callD, startR, List.map_cons, List.map_nil, List.length_cons, List.length_nil, Nat.sub_self, Nat.reduceSub, Nat.reduceAdd, List.replicate, List.append_nil, List.cons_append, List.nil_append, get0, getS, R.bind, R.on, RS.seq, truth_bl, nextO, stV, alloc, setVars, setTg, List.set_cons_zero, List.set_cons_succ, wipe, biU, bi1, bi2, perm, R.opt, fin_ret, fin_next, retU_d, retU_tmp, retU_ro, take_len, add_int, sub_int, bin_add, bin_mul, cmp_eq_int, cmp_ne_int, cmp_lt_int, cmp_le_int, cmp_gt_int, cmp_ge_int, cmp_eq_bl, cmp_ne_bl, negR, notR, onBl, onBlO, tupR, lstR, datas, Option.map_some, gvR, Lib.at, dv_var, dv_non, dv_bl, dv_int, dv_str, dv_gv, dv_bin, dv_neg, dv_cmp, dv_cmp2, dv_and, dv_or, dv_not, dv_ife, dv_tup, dv_lst, dv_idx, dv_slice, dv_call, dv_bi1, dv_bi2, dv_meth, dv_sdict, dt_and, dt_or, dt_not, dt_var, dt_bl, dt_cmp, dt_cmp2, dt_call, dt_bi, dt_idx, dt_bin, dt_ife, dq_var, dq_call, dq_bi, dq_idx, dq_bin, dq_ife, dq_int, dq_neg, dq_absent, di_var, di_call, di_bi, di_idx, di_bin, di_ife, di_lst, di_tup, di_slice, di_comp, di_rng1, di_rng2, di_enum, di_zip, ds_asg, ds_asgT, ds_par, ds_sub, ds_aug, ds_expr, ds_ret, ds_retN, ds_pass, ds_brk, ds_cont, ds_ife, dss_nil, dss_cons, dns_nil, dns_cons, evs_nil, evs_cons]; exact seqItr_obj hn) (ok_some hn) (le_size hz) (fun r hr => by simp only [List.take_succ_cons, seqItr_tup, seqItr_tmp, seqItr_ro, items_tup, items_tmp, items_ro, callD, startR, List.map_cons, List.map_nil, List.length_cons, List.length_nil, Nat.sub_self, Nat.reduceSub, Nat.reduceAdd, List.replicate, List.append_nil, List.cons_append, List.nil_append, get0, getS, R.bind, R.on, RS.seq, truth_bl, nextO, stV, alloc, setVars, setTg, List.set_cons_zero, List.set_cons_succ, wipe, biU, bi1, bi2, perm, R.opt, fin_ret, fin_next, retU_d, retU_tmp, retU_ro, take_len, add_int, sub_int, bin_add, bin_mul, cmp_eq_int, cmp_ne_int, cmp_lt_int, cmp_le_int, cmp_gt_int, cmp_ge_int, cmp_eq_bl, cmp_ne_bl, negR, notR, onBl, onBlO, tupR, lstR, datas, Option.map_some, gvR, Lib.at, dv_var, dv_non, dv_bl, dv_int, dv_str, dv_gv, dv_bin, dv_neg, dv_cmp, dv_cmp2, dv_and, dv_or, dv_not, dv_ife, dv_tup, dv_lst, dv_idx, dv_slice, dv_call, dv_bi1, dv_bi2, dv_meth, dv_sdict, dt_and, dt_or, dt_not, dt_var, dt_bl, dt_cmp, dt_cmp2, dt_call, dt_bi, dt_idx, dt_bin, dt_ife, dq_var, dq_call, dq_bi, dq_idx, dq_bin, dq_ife, dq_int, dq_neg, dq_absent, di_var, di_call, di_bi, di_idx, di_bin, di_ife, di_lst, di_tup, di_slice, di_comp, di_rng1, di_rng2, di_enum, di_zip, ds_asg, ds_asgT, ds_par, ds_sub, ds_aug, ds_expr, ds_ret, ds_retN, ds_pass, ds_brk, ds_cont, ds_ife, dss_nil, dss_cons, dns_nil, dns_cons, evs_nil, evs_cons, turnR, testsR, dataR, sz2, if_true])
  have sd : sdictR (.tmp (.lst (F.map fun r => .tup [rowD r, .bl true]))) h = .ok (.tmp (.lst ((setOf F).map rowD))) h := by
    unfold sdictR
    show (match fstsD (F.map fun r => .tup [rowD r, .bl true]) with | some ks => _ | none => _) = _
    rw [fsts_rows]
    dsimp only
    rw [if_pos ⟨fun k hk => by obtain ⟨r, _, rfl⟩ := List.mem_map.mp hk; exact key_row r, sortOk_rows hne⟩, sort_rows]
  simp only [List.take_succ_cons, seqItr_tup, seqItr_tmp, seqItr_ro, items_tup, items_tmp, items_ro, callD, startR, List.map_cons, List.map_nil, List.length_cons, List.length_nil, Nat.sub_self, Nat.reduceSub, Nat.reduceAdd, List.replicate, List.append_nil, List.cons_append, List.nil_append, get0, getS, R.bind, R.on, RS.seq, truth_bl, nextO, stV, alloc, setVars, setTg, List.set_cons_zero, List.set_cons_succ, wipe, biU, bi1, bi2, perm, R.opt, fin_ret, fin_next, retU_d, retU_tmp, retU_ro, take_len, add_int, sub_int, bin_add, bin_mul, cmp_eq_int, cmp_ne_int, cmp_lt_int, cmp_le_int, cmp_gt_int, cmp_ge_int, cmp_eq_bl, cmp_ne_bl, negR, notR, onBl, onBlO, tupR, lstR, datas, Option.map_some, gvR, Lib.at, dv_var, dv_non, dv_bl, dv_int, dv_str, dv_gv, dv_bin, dv_neg, dv_cmp, dv_cmp2, dv_and, dv_or, dv_not, dv_ife, dv_tup, dv_lst, dv_idx, dv_slice, dv_call, dv_bi1, dv_bi2, dv_meth, dv_sdict, dt_and, dt_or, dt_not, dt_var, dt_bl, dt_cmp, dt_cmp2, dt_call, dt_bi, dt_idx, dt_bin, dt_ife, dq_var, dq_call, dq_bi, dq_idx, dq_bin, dq_ife, dq_int, dq_neg, dq_absent, di_var, di_call, di_bi, di_idx, di_bin, di_ife, di_lst, di_tup, di_slice, di_comp, di_rng1, di_rng2, di_enum, di_zip, ds_asg, ds_asgT, ds_par, ds_sub, ds_aug, ds_expr, ds_ret, ds_retN, ds_pass, ds_brk, ds_cont, ds_ife, dss_nil, dss_cons, dns_nil, dns_cons, evs_nil, evs_cons, f__law_in_rows, s__law_in_rows, e, sd]
/-- q is a sum of the rows r, s, number by number -/
def InS : List Int → List Int → List Int → Prop
  | a :: r, b :: s, c :: q => c ∈ nums a b ∧ InS r s q
  | _ :: _, _ :: _, [] => False
  | _, _, q => q = []
theorem sums_mem : ∀ (r s : List Int) (F : List (List Int)) (x : List Int), x ∈ sumsL r s F ↔ ∃ p ∈ F, ∃ q, x = p ++ q ∧ InS r s q
  | [], s, F, x => by
    have e : sumsL [] s F = F := by unfold sumsL; rfl
    rw [e]
    constructor
    · exact fun h => ⟨x, h, [], by simp, by unfold InS; rfl⟩
    · rintro ⟨p, hp, q, rfl, hq⟩
      have : q = [] := by unfold InS at hq; exact hq
      rw [this, List.append_nil]; exact hp
  | a :: r, [], F, x => by
    have e : sumsL (a :: r) [] F = F := by unfold sumsL; rfl
    rw [e]
    constructor
    · exact fun h => ⟨x, h, [], by simp, by unfold InS; rfl⟩
    · rintro ⟨p, hp, q, rfl, hq⟩
      have : q = [] := by unfold InS at hq; exact hq
      rw [this, List.append_nil]; exact hp
  | a :: r, b :: s, F, x => by
    show x ∈ sumsL r s _ ↔ _
    rw [sums_mem r s]
    constructor
    · rintro ⟨p, hp, q, rfl, hq⟩
      obtain ⟨p0, h0, hp⟩ := List.mem_flatMap.mp hp
      obtain ⟨c, hc, rfl⟩ := List.mem_map.mp hp
      exact ⟨p0, h0, c :: q, by simp, hc, hq⟩
    · rintro ⟨p, hp, q, rfl, hq⟩
      cases q with
      | nil => exact False.elim hq
      | cons c q => exact ⟨p ++ [c], List.mem_flatMap.mpr ⟨p, hp, List.mem_map.mpr ⟨c, hq.1, rfl⟩⟩, q, by simp, hq.2⟩
theorem sums_iff {r s x : List Int} : x ∈ sumsL r s [[]] ↔ InS r s x := by
  rw [sums_mem]
  constructor
  · rintro ⟨p, hp, q, rfl, hq⟩
    rw [List.mem_singleton.mp hp]; exact hq
  · exact fun h => ⟨[], by simp, x, rfl, h⟩
theorem inS_len : ∀ {r s x : List Int}, r.length = s.length → InS r s x → x.length = r.length
  | [], [], x, _, h => by have : x = [] := h; rw [this]
  | [], _ :: _, _, hl, _ => by simp at hl
  | _ :: _, [], _, hl, _ => by simp at hl
  | a :: r, b :: s, [], _, h => False.elim h
  | a :: r, b :: s, c :: x, hl, h => by rw [List.length_cons, inS_len (by simpa using hl) h.2, List.length_cons]
theorem nums_sg {a b c : Int} (ha : -1 ≤ a ∧ a ≤ 1) (hb : -1 ≤ b ∧ b ≤ 1) (h : c ∈ nums a b) : -1 ≤ c ∧ c ≤ 1 := by
  unfold nums at h
  split at h
  · rw [List.mem_singleton.mp h]; exact hb
  · split at h
    · rw [List.mem_singleton.mp h]; exact ha
    · simp at h; omega
theorem inS_sg : ∀ {r s x : List Int}, Sg r → Sg s → InS r s x → Sg x
  | [], s, x, _, _, h => by
    have : x = [] := by unfold InS at h; exact h
    rw [this]; exact fun y hy => by cases hy
  | _ :: _, [], x, _, _, h => by
    have : x = [] := by unfold InS at h; exact h
    rw [this]; exact fun y hy => by cases hy
  | a :: r, b :: s, [], _, _, h => False.elim h
  | a :: r, b :: s, c :: x, h1, h2, h => fun y hy => by
    rcases List.mem_cons.mp hy with rfl | hy
    · exact nums_sg (h1 a List.mem_cons_self) (h2 b List.mem_cons_self) h.1
    · exact inS_sg (fun z hz => h1 z (List.mem_cons_of_mem _ hz)) (fun z hz => h2 z (List.mem_cons_of_mem _ hz)) h.2 y hy
theorem nums_assoc {a b c z : Int} (ha : -1 ≤ a ∧ a ≤ 1) (hb : -1 ≤ b ∧ b ≤ 1) (hc : -1 ≤ c ∧ c ≤ 1) : (∃ x, x ∈ nums a b ∧ z ∈ nums x c) ↔ ∃ y, y ∈ nums b c ∧ z ∈ nums a y := by
  have key : (∀ z ∈ (nums a b).flatMap (fun x => nums x c), z ∈ (nums b c).flatMap (nums a)) ∧ ∀ z ∈ (nums b c).flatMap (nums a), z ∈ (nums a b).flatMap (fun x => nums x c) := by
    have h1 : a = -1 ∨ a = 0 ∨ a = 1 := by omega
    have h2 : b = -1 ∨ b = 0 ∨ b = 1 := by omega
    have h3 : c = -1 ∨ c = 0 ∨ c = 1 := by omega
    rcases h1 with rfl | rfl | rfl <;> rcases h2 with rfl | rfl | rfl <;> rcases h3 with rfl | rfl | rfl <;> decide
  have i1 : (∃ x, x ∈ nums a b ∧ z ∈ nums x c) ↔ z ∈ (nums a b).flatMap (fun x => nums x c) := List.mem_flatMap.symm
  have i2 : (∃ y, y ∈ nums b c ∧ z ∈ nums a y) ↔ z ∈ (nums b c).flatMap (nums a) := List.mem_flatMap.symm
  rw [i1, i2]
  exact ⟨key.1 z, key.2 z⟩
theorem inS_assoc : ∀ {r s t z : List Int}, r.length = s.length → s.length = t.length → Sg r → Sg s → Sg t → ((∃ x, InS r s x ∧ InS x t z) ↔ ∃ y, InS s t y ∧ InS r y z)
  | [], [], [], z, _, _, _, _, _ => by
    constructor
    · rintro ⟨x, hx, hz⟩
      have : x = [] := hx
      subst this
      exact ⟨[], rfl, hz⟩
    · rintro ⟨x, hx, hz⟩
      have : x = [] := hx
      subst this
      exact ⟨[], rfl, hz⟩
  | [], _ :: _, _, _, h, _, _, _, _ => by simp at h
  | _ :: _, [], _, _, h, _, _, _, _ => by simp at h
  | _, [], _ :: _, _, _, h, _, _, _ => by simp at h
  | _, _ :: _, [], _, _, h, _, _, _ => by simp at h
  | a :: r, b :: s, c :: t, z, h1, h2, s1, s2, s3 => by
    have tl : ∀ {x : Int} {r : List Int}, Sg (x :: r) → Sg r := fun h z hz => h z (List.mem_cons_of_mem _ hz)
    cases z with
    | nil =>
      constructor
      · rintro ⟨x, hx, hz⟩
        cases x with
        | nil => exact False.elim hx
        | cons _ _ => exact False.elim hz
      · rintro ⟨x, hx, hz⟩
        cases x with
        | nil => exact False.elim hx
        | cons _ _ => exact False.elim hz
    | cons w z =>
      have ih := inS_assoc (z := z) (by simpa using h1) (by simpa using h2) (tl s1) (tl s2) (tl s3)
      have na := nums_assoc (z := w) (s1 a List.mem_cons_self) (s2 b List.mem_cons_self) (s3 c List.mem_cons_self)
      constructor
      · rintro ⟨x, hx, hz⟩
        cases x with
        | nil => exact False.elim hx
        | cons x0 x =>
          obtain ⟨y0, p1, p2⟩ := na.mp ⟨x0, hx.1, hz.1⟩
          obtain ⟨y, q1, q2⟩ := ih.mp ⟨x, hx.2, hz.2⟩
          exact ⟨y0 :: y, ⟨p1, q1⟩, ⟨p2, q2⟩⟩
      · rintro ⟨x, hx, hz⟩
        cases x with
        | nil => exact False.elim hx
        | cons x0 x =>
          obtain ⟨y0, p1, p2⟩ := na.mpr ⟨x0, hx.1, hz.1⟩
          obtain ⟨y, q1, q2⟩ := ih.mpr ⟨x, hx.2, hz.2⟩
          exact ⟨y0 :: y, ⟨p1, q1⟩, ⟨p2, q2⟩⟩
theorem sums_len : ∀ (r s : List Int) (F : List (List Int)), (sumsL r s F).length ≤ F.length * 3 ^ r.length
  | [], s, F => by unfold sumsL; simp
  | a :: r, [], F => by
    unfold sumsL
    exact Nat.le_mul_of_pos_right _ (Nat.pow_pos (by omega))
  | a :: r, b :: s, F => by
    have h := sums_len r s (F.flatMap fun row => (nums a b).map fun c => row ++ [c])
    rw [flat_len] at h
    have n3 := (nums_len a b).2
    show (sumsL r s _).length ≤ _
    refine Nat.le_trans h ?_
    rw [List.length_cons, Nat.pow_succ, Nat.mul_assoc, Nat.mul_comm (3 ^ r.length) 3]
    exact Nat.mul_le_mul_left _ (Nat.mul_le_mul_right _ n3)
end EV
end

section
set_option Elab.async false
set_option linter.all false
set_option maxRecDepth 100000
namespace EV
open PySem
theorem extend_tup {n : Nat} {h : Hs} {xs ys : List D} (e : h[n]? = some (.lst xs)) (hz : xs.length + ys.length ≤ 1000000) : methR .extend (.obj n) (.d (.tup ys)) h = .ok (.d .non) (h.set n (.lst (xs ++ ys))) := by
  unfold methR
  dsimp only
  rw [e]
  exact if_pos (le_size hz)
/-- a list that grows by what a call tells of each row -/
theorem grown {C : Cc} {Rw : List (List Int)} {f : List Int → List (List Int)} {h : Hs} {a b : U} {call : E} {B : Nat} (hB : ∀ r ∈ Rw, (f r).length ≤ B) (hz : Rw.length * B ≤ 100000)
    (hc : ∀ r ∈ Rw, ∀ hh, (den C call).v [some a, some b, some (.obj h.length), some (.d (rowD r))] hh = .ok (.d (rowsD (f r))) hh)
    {it : E} (hi : (den C it).i [some a, some b, some (.obj h.length), none] (h ++ [.lst []]) = .ok ⟨Rw.map rowD, none⟩ (h ++ [.lst []])) :
    ∃ ρ' , dS C (.for_ [3] it [(.expr (.meth .extend (.var 2) [call]))] [3]) [some a, some b, some (.obj h.length), none] (h ++ [.lst []]) = .ok .next ρ' (h ++ [.lst ((Rw.flatMap f).map rowD)]) ∧ ρ' = [some a, some b, some (.obj h.length), none] := by
  obtain ⟨ρ', h', ef, A, e1, e2, G, e3, ⟨e4, e5⟩, e6⟩ := for_inv (C := C) (tg := [3]) (wp := [3]) (it := it) (body := [(.expr (.meth .extend (.var 2) [call]))]) (ρ := [some a, some b, some (.obj h.length), none]) (h := h ++ [.lst []]) (h1 := h ++ [.lst []]) (w := none) (xs := Rw.map rowD)
    (fun rem ρ hh => ∃ A : List (List Int), ρ = [some a, some b, some (.obj h.length), none] ∧ hh = h ++ [.lst (A.map rowD)] ∧ ∃ G : List (List Int), rem = G.map rowD ∧ ((∀ r ∈ G, r ∈ Rw) ∧ A.length + G.length * B ≤ 100000) ∧ A ++ G.flatMap f = Rw.flatMap f)
    hi ⟨[], by simp only [List.take_succ_cons, seqItr_tup, seqItr_tmp, seqItr_ro, items_tup, items_tmp, items_ro, callD, startR, List.map_cons, List.map_nil, List.length_cons, List.length_nil, Nat.sub_self, Nat.reduceSub, Nat.reduceAdd, List.replicate, List.append_nil, List.cons_append, List.nil_append, get0, getS, R.bind, R.on, RS.seq, truth_bl, nextO, stV, alloc, setVars, setTg, List.set_cons_zero, List.set_cons_succ, wipe, biU, bi1, bi2, perm, R.opt, fin_ret, fin_next, retU_d, retU_tmp, retU_ro, take_len, add_int, sub_int, bin_add, bin_mul, cmp_eq_int, cmp_ne_int, cmp_lt_int, cmp_le_int, cmp_gt_int, cmp_ge_int, cmp_eq_bl, cmp_ne_bl, negR, notR, onBl, onBlO, tupR, lstR, datas, Option.map_some, gvR, Lib.at, dv_var, dv_non, dv_bl, dv_int, dv_str, dv_gv, dv_bin, dv_neg, dv_cmp, dv_cmp2, dv_and, dv_or, dv_not, dv_ife, dv_tup, dv_lst, dv_idx, dv_slice, dv_call, dv_bi1, dv_bi2, dv_meth, dv_sdict, dt_and, dt_or, dt_not, dt_var, dt_bl, dt_cmp, dt_cmp2, dt_call, dt_bi, dt_idx, dt_bin, dt_ife, dq_var, dq_call, dq_bi, dq_idx, dq_bin, dq_ife, dq_int, dq_neg, dq_absent, di_var, di_call, di_bi, di_idx, di_bin, di_ife, di_lst, di_tup, di_slice, di_comp, di_rng1, di_rng2, di_enum, di_zip, ds_asg, ds_asgT, ds_par, ds_sub, ds_aug, ds_expr, ds_ret, ds_retN, ds_pass, ds_brk, ds_cont, ds_ife, dss_nil, dss_cons, dns_nil, dns_cons, evs_nil, evs_cons], by simp, Rw, rfl, ⟨fun _ z => z, by simpa using hz⟩, by simp⟩
    (fun x xs ρ hh ⟨A, eρ, eh, G, er, ⟨hG, hz⟩, hf⟩ => by
      cases G with
      | nil => simp at er
      | cons r G =>
      rw [List.map_cons] at er
      obtain ⟨rfl, rfl⟩ := List.cons.inj er
      subst eρ eh
      rw [List.length_cons, Nat.add_mul, Nat.one_mul] at hz
      have hr := hG r List.mem_cons_self
      have hb := hB r hr
      have la := lst_at (h := h ++ [.lst (A.map rowD)]) get_app
      have ex := extend_tup (ys := (f r).map rowD) (h := h ++ [.lst (A.map rowD)]) get_app (by rw [List.length_map, List.length_map]; omega)
      refine ⟨ok_none, [some a, some b, some (.obj h.length), some (.d (rowD r))], by simp only [List.take_succ_cons, seqItr_tup, seqItr_tmp, seqItr_ro, items_tup, items_tmp, items_ro, callD, startR, List.map_cons, List.map_nil, List.length_cons, List.length_nil, Nat.sub_self, Nat.reduceSub, Nat.reduceAdd, List.replicate, List.append_nil, List.cons_append, List.nil_append, get0, getS, R.bind, R.on, RS.seq, truth_bl, nextO, stV, alloc, setVars, setTg, List.set_cons_zero, List.set_cons_succ, wipe, biU, bi1, bi2, perm, R.opt, fin_ret, fin_next, retU_d, retU_tmp, retU_ro, take_len, add_int, sub_int, bin_add, bin_mul, cmp_eq_int, cmp_ne_int, cmp_lt_int, cmp_le_int, cmp_gt_int, cmp_ge_int, cmp_eq_bl, cmp_ne_bl, negR, notR, onBl, onBlO, tupR, lstR, datas, Option.map_some, gvR, Lib.at, dv_var, dv_non, dv_bl, dv_int, dv_str, dv_gv, dv_bin, dv_neg, dv_cmp, dv_cmp2, dv_and, dv_or, dv_not, dv_ife, dv_tup, dv_lst, dv_idx, dv_slice, dv_call, dv_bi1, dv_bi2, dv_meth, dv_sdict, dt_and, dt_or, dt_not, dt_var, dt_bl, dt_cmp, dt_cmp2, dt_call, dt_bi, dt_idx, dt_bin, dt_ife, dq_var, dq_call, dq_bi, dq_idx, dq_bin, dq_ife, dq_int, dq_neg, dq_absent, di_var, di_call, di_bi, di_idx, di_bin, di_ife, di_lst, di_tup, di_slice, di_comp, di_rng1, di_rng2, di_enum, di_zip, ds_asg, ds_asgT, ds_par, ds_sub, ds_aug, ds_expr, ds_ret, ds_retN, ds_pass, ds_brk, ds_cont, ds_ife, dss_nil, dss_cons, dns_nil, dns_cons, evs_nil, evs_cons], [some a, some b, some (.obj h.length), some (.d (rowD r))], h ++ [.lst ((A ++ f r).map rowD)], .inl ?_, A ++ f r, by simp only [List.take_succ_cons, seqItr_tup, seqItr_tmp, seqItr_ro, items_tup, items_tmp, items_ro, callD, startR, List.map_cons, List.map_nil, List.length_cons, List.length_nil, Nat.sub_self, Nat.reduceSub, Nat.reduceAdd, List.replicate, List.append_nil, List.cons_append, List.nil_append, get0, getS, R.bind, R.on, RS.seq, truth_bl, nextO, stV, alloc, setVars, setTg, List.set_cons_zero, List.set_cons_succ, wipe, biU, bi1, bi2, perm, R.opt, fin_ret, fin_next, retU_d, retU_tmp, retU_ro, take_len, add_int, sub_int, bin_add, bin_mul, cmp_eq_int, cmp_ne_int, cmp_lt_int, cmp_le_int, cmp_gt_int, cmp_ge_int, cmp_eq_bl, cmp_ne_bl, negR, notR, onBl, onBlO, tupR, lstR, datas, Option.map_some, gvR, Lib.at, dv_var, dv_non, dv_bl, dv_int, dv_str, dv_gv, dv_bin, dv_neg, dv_cmp, dv_cmp2, dv_and, dv_or, dv_not, dv_ife, dv_tup, dv_lst, dv_idx, dv_slice, dv_call, dv_bi1, dv_bi2, dv_meth, dv_sdict, dt_and, dt_or, dt_not, dt_var, dt_bl, dt_cmp, dt_cmp2, dt_call, dt_bi, dt_idx, dt_bin, dt_ife, dq_var, dq_call, dq_bi, dq_idx, dq_bin, dq_ife, dq_int, dq_neg, dq_absent, di_var, di_call, di_bi, di_idx, di_bin, di_ife, di_lst, di_tup, di_slice, di_comp, di_rng1, di_rng2, di_enum, di_zip, ds_asg, ds_asgT, ds_par, ds_sub, ds_aug, ds_expr, ds_ret, ds_retN, ds_pass, ds_brk, ds_cont, ds_ife, dss_nil, dss_cons, dns_nil, dns_cons, evs_nil, evs_cons], rfl, G, rfl, ⟨fun z hz => hG z (List.mem_cons_of_mem _ hz), by rw [List.length_append]; omega⟩, by rw [← hf]; simp⟩
      simp only [List.take_succ_cons, seqItr_tup, seqItr_tmp, seqItr_ro, items_tup, items_tmp, items_ro, callD, startR, List.map_cons, List.map_nil, List.length_cons, List.length_nil, Nat.sub_self, Nat.reduceSub, Nat.reduceAdd, List.replicate, List.append_nil, List.cons_append, List.nil_append, get0, getS, R.bind, R.on, RS.seq, truth_bl, nextO, stV, alloc, setVars, setTg, List.set_cons_zero, List.set_cons_succ, wipe, biU, bi1, bi2, perm, R.opt, fin_ret, fin_next, retU_d, retU_tmp, retU_ro, take_len, add_int, sub_int, bin_add, bin_mul, cmp_eq_int, cmp_ne_int, cmp_lt_int, cmp_le_int, cmp_gt_int, cmp_ge_int, cmp_eq_bl, cmp_ne_bl, negR, notR, onBl, onBlO, tupR, lstR, datas, Option.map_some, gvR, Lib.at, dv_var, dv_non, dv_bl, dv_int, dv_str, dv_gv, dv_bin, dv_neg, dv_cmp, dv_cmp2, dv_and, dv_or, dv_not, dv_ife, dv_tup, dv_lst, dv_idx, dv_slice, dv_call, dv_bi1, dv_bi2, dv_meth, dv_sdict, dt_and, dt_or, dt_not, dt_var, dt_bl, dt_cmp, dt_cmp2, dt_call, dt_bi, dt_idx, dt_bin, dt_ife, dq_var, dq_call, dq_bi, dq_idx, dq_bin, dq_ife, dq_int, dq_neg, dq_absent, di_var, di_call, di_bi, di_idx, di_bin, di_ife, di_lst, di_tup, di_slice, di_comp, di_rng1, di_rng2, di_enum, di_zip, ds_asg, ds_asgT, ds_par, ds_sub, ds_aug, ds_expr, ds_ret, ds_retN, ds_pass, ds_brk, ds_cont, ds_ife, dss_nil, dss_cons, dns_nil, dns_cons, evs_nil, evs_cons, la, if_true, hc r hr, ex, set_app, List.map_append])
    (fun ρ h _ => ok_none)
  have eG : G = [] := by cases G with | nil => rfl | cons _ _ => simp at e3
  subst eG e2
  rw [List.flatMap_nil, List.append_nil] at e6
  exact ⟨ρ', by rw [ef, e6], e1⟩
theorem ne_of_len {r : List Int} {n : Nat} (h : r.length = n) (hn : 1 ≤ n) : r ≠ [] := fun e => by rw [e] at h; simp at h; omega
theorem m__law_behind (k : Nat) (Rw : List (List Int)) (last : List Int) (h : Hs) (hR : ∀ r ∈ Rw, r.length = last.length) (hz : Rw.length ≤ 27) (h3 : 1 ≤ last.length ∧ last.length ≤ 3) :
    callK lib (k + 3) i__law_behind [.d (rowsD Rw), .d (rowD last)] h = .ok (.d (rowsD (setOf (Rw.flatMap fun r => sumsL r last [[]])))) h := by
  rw [ck (T := lib) (fn := f__law_behind) rfl rfl]
  have sz0 : (0 : Nat) ≤ sizeLine := by decide
  have p3 : 3 ^ last.length ≤ 3 ^ 3 := Nat.pow_le_pow_right (by omega) h3.2
  have hB : ∀ r ∈ Rw, (sumsL r last [[]]).length ≤ 27 := fun r hr => by
    have := sums_len r last [[]]
    rw [hR r hr] at this
    simp only [List.length_cons, List.length_nil] at this
    omega
  obtain ⟨ρ', ef, eρ⟩ := grown (C := ⟨callK lib (k + 2), lib.gv⟩) (Rw := Rw) (f := fun r => sumsL r last [[]]) (h := h) (a := .d (rowsD Rw)) (b := .d (rowD last)) (call := .call i_sums [.var 3, .var 1] []) (B := 27) (it := .var 0) hB (by omega)
    (fun r hr hh => by
      have := m_sums k r last hh (hR r hr) (by rw [hR r hr]; omega)
      simp only [List.take_succ_cons, seqItr_tup, seqItr_tmp, seqItr_ro, items_tup, items_tmp, items_ro, callD, startR, List.map_cons, List.map_nil, List.length_cons, List.length_nil, Nat.sub_self, Nat.reduceSub, Nat.reduceAdd, List.replicate, List.append_nil, List.cons_append, List.nil_append, get0, getS, R.bind, R.on, RS.seq, truth_bl, nextO, stV, alloc, setVars, setTg, List.set_cons_zero, List.set_cons_succ, wipe, biU, bi1, bi2, perm, R.opt, fin_ret, fin_next, retU_d, retU_tmp, retU_ro, take_len, add_int, sub_int, bin_add, bin_mul, cmp_eq_int, cmp_ne_int, cmp_lt_int, cmp_le_int, cmp_gt_int, cmp_ge_int, cmp_eq_bl, cmp_ne_bl, negR, notR, onBl, onBlO, tupR, lstR, datas, Option.map_some, gvR, Lib.at, dv_var, dv_non, dv_bl, dv_int, dv_str, dv_gv, dv_bin, dv_neg, dv_cmp, dv_cmp2, dv_and, dv_or, dv_not, dv_ife, dv_tup, dv_lst, dv_idx, dv_slice, dv_call, dv_bi1, dv_bi2, dv_meth, dv_sdict, dt_and, dt_or, dt_not, dt_var, dt_bl, dt_cmp, dt_cmp2, dt_call, dt_bi, dt_idx, dt_bin, dt_ife, dq_var, dq_call, dq_bi, dq_idx, dq_bin, dq_ife, dq_int, dq_neg, dq_absent, di_var, di_call, di_bi, di_idx, di_bin, di_ife, di_lst, di_tup, di_slice, di_comp, di_rng1, di_rng2, di_enum, di_zip, ds_asg, ds_asgT, ds_par, ds_sub, ds_aug, ds_expr, ds_ret, ds_retN, ds_pass, ds_brk, ds_cont, ds_ife, dss_nil, dss_cons, dns_nil, dns_cons, evs_nil, evs_cons, this]) (by simp only [List.take_succ_cons, seqItr_tup, seqItr_tmp, seqItr_ro, items_tup, items_tmp, items_ro, callD, startR, List.map_cons, List.map_nil, List.length_cons, List.length_nil, Nat.sub_self, Nat.reduceSub, Nat.reduceAdd, List.replicate, List.append_nil, List.cons_append, List.nil_append, get0, getS, R.bind, R.on, RS.seq, truth_bl, nextO, stV, alloc, setVars, setTg, List.set_cons_zero, List.set_cons_succ, wipe, biU, bi1, bi2, perm, R.opt, fin_ret, fin_next, retU_d, retU_tmp, retU_ro, take_len, add_int, sub_int, bin_add, bin_mul, cmp_eq_int, cmp_ne_int, cmp_lt_int, cmp_le_int, cmp_gt_int, cmp_ge_int, cmp_eq_bl, cmp_ne_bl, negR, notR, onBl, onBlO, tupR, lstR, datas, Option.map_some, gvR, Lib.at, dv_var, dv_non, dv_bl, dv_int, dv_str, dv_gv, dv_bin, dv_neg, dv_cmp, dv_cmp2, dv_and, dv_or, dv_not, dv_ife, dv_tup, dv_lst, dv_idx, dv_slice, dv_call, dv_bi1, dv_bi2, dv_meth, dv_sdict, dt_and, dt_or, dt_not, dt_var, dt_bl, dt_cmp, dt_cmp2, dt_call, dt_bi, dt_idx, dt_bin, dt_ife, dq_var, dq_call, dq_bi, dq_idx, dq_bin, dq_ife, dq_int, dq_neg, dq_absent, di_var, di_call, di_bi, di_idx, di_bin, di_ife, di_lst, di_tup, di_slice, di_comp, di_rng1, di_rng2, di_enum, di_zip, ds_asg, ds_asgT, ds_par, ds_sub, ds_aug, ds_expr, ds_ret, ds_retN, ds_pass, ds_brk, ds_cont, ds_ife, dss_nil, dss_cons, dns_nil, dns_cons, evs_nil, evs_cons])
  have le : ∀ Rw : List (List Int), (∀ r ∈ Rw, (sumsL r last [[]]).length ≤ 27) → (Rw.flatMap fun r => sumsL r last [[]]).length ≤ Rw.length * 27 := by
    intro Rw
    induction Rw with
    | nil => intro _; simp
    | cons r Rw ih =>
      intro hh
      have h1 := ih fun z hz => hh z (List.mem_cons_of_mem _ hz)
      have h2 := hh r List.mem_cons_self
      rw [List.flatMap_cons, List.length_append, List.length_cons]
      omega
  have ir := m__law_in_rows (k + 1) (Rw.flatMap fun r => sumsL r last [[]]) h.length (h ++ [.lst ((Rw.flatMap fun r => sumsL r last [[]]).map rowD)]) get_app (Nat.le_trans (le Rw hB) (by omega)) (fun r hr => by
    obtain ⟨x, hx, hr⟩ := List.mem_flatMap.mp hr
    exact ne_of_len (inS_len (hR x hx) (sums_iff.mp hr)) (by rw [hR x hx]; exact h3.1))
  subst eρ
  simp only [List.take_succ_cons, seqItr_tup, seqItr_tmp, seqItr_ro, items_tup, items_tmp, items_ro, callD, startR, List.map_cons, List.map_nil, List.length_cons, List.length_nil, Nat.sub_self, Nat.reduceSub, Nat.reduceAdd, List.replicate, List.append_nil, List.cons_append, List.nil_append, get0, getS, R.bind, R.on, RS.seq, truth_bl, nextO, stV, alloc, setVars, setTg, List.set_cons_zero, List.set_cons_succ, wipe, biU, bi1, bi2, perm, R.opt, fin_ret, fin_next, retU_d, retU_tmp, retU_ro, take_len, add_int, sub_int, bin_add, bin_mul, cmp_eq_int, cmp_ne_int, cmp_lt_int, cmp_le_int, cmp_gt_int, cmp_ge_int, cmp_eq_bl, cmp_ne_bl, negR, notR, onBl, onBlO, tupR, lstR, datas, Option.map_some, gvR, Lib.at, dv_var, dv_non, dv_bl, dv_int, dv_str, dv_gv, dv_bin, dv_neg, dv_cmp, dv_cmp2, dv_and, dv_or, dv_not, dv_ife, dv_tup, dv_lst, dv_idx, dv_slice, dv_call, dv_bi1, dv_bi2, dv_meth, dv_sdict, dt_and, dt_or, dt_not, dt_var, dt_bl, dt_cmp, dt_cmp2, dt_call, dt_bi, dt_idx, dt_bin, dt_ife, dq_var, dq_call, dq_bi, dq_idx, dq_bin, dq_ife, dq_int, dq_neg, dq_absent, di_var, di_call, di_bi, di_idx, di_bin, di_ife, di_lst, di_tup, di_slice, di_comp, di_rng1, di_rng2, di_enum, di_zip, ds_asg, ds_asgT, ds_par, ds_sub, ds_aug, ds_expr, ds_ret, ds_retN, ds_pass, ds_brk, ds_cont, ds_ife, dss_nil, dss_cons, dns_nil, dns_cons, evs_nil, evs_cons, f__law_behind, s__law_behind, sz0, if_true]
  rw [ef]
  simp only [List.take_succ_cons, seqItr_tup, seqItr_tmp, seqItr_ro, items_tup, items_tmp, items_ro, callD, startR, List.map_cons, List.map_nil, List.length_cons, List.length_nil, Nat.sub_self, Nat.reduceSub, Nat.reduceAdd, List.replicate, List.append_nil, List.cons_append, List.nil_append, get0, getS, R.bind, R.on, RS.seq, truth_bl, nextO, stV, alloc, setVars, setTg, List.set_cons_zero, List.set_cons_succ, wipe, biU, bi1, bi2, perm, R.opt, fin_ret, fin_next, retU_d, retU_tmp, retU_ro, take_len, add_int, sub_int, bin_add, bin_mul, cmp_eq_int, cmp_ne_int, cmp_lt_int, cmp_le_int, cmp_gt_int, cmp_ge_int, cmp_eq_bl, cmp_ne_bl, negR, notR, onBl, onBlO, tupR, lstR, datas, Option.map_some, gvR, Lib.at, dv_var, dv_non, dv_bl, dv_int, dv_str, dv_gv, dv_bin, dv_neg, dv_cmp, dv_cmp2, dv_and, dv_or, dv_not, dv_ife, dv_tup, dv_lst, dv_idx, dv_slice, dv_call, dv_bi1, dv_bi2, dv_meth, dv_sdict, dt_and, dt_or, dt_not, dt_var, dt_bl, dt_cmp, dt_cmp2, dt_call, dt_bi, dt_idx, dt_bin, dt_ife, dq_var, dq_call, dq_bi, dq_idx, dq_bin, dq_ife, dq_int, dq_neg, dq_absent, di_var, di_call, di_bi, di_idx, di_bin, di_ife, di_lst, di_tup, di_slice, di_comp, di_rng1, di_rng2, di_enum, di_zip, ds_asg, ds_asgT, ds_par, ds_sub, ds_aug, ds_expr, ds_ret, ds_retN, ds_pass, ds_brk, ds_cont, ds_ife, dss_nil, dss_cons, dns_nil, dns_cons, evs_nil, evs_cons, ir, take_app]
theorem m__law_ahead (k : Nat) (Rw : List (List Int)) (one : List Int) (h : Hs) (hR : ∀ r ∈ Rw, r.length = one.length) (hz : Rw.length ≤ 27) (h3 : 1 ≤ one.length ∧ one.length ≤ 3) :
    callK lib (k + 3) i__law_ahead [.d (rowD one), .d (rowsD Rw)] h = .ok (.d (rowsD (setOf (Rw.flatMap fun r => sumsL one r [[]])))) h := by
  rw [ck (T := lib) (fn := f__law_ahead) rfl rfl]
  have sz0 : (0 : Nat) ≤ sizeLine := by decide
  have p3 : 3 ^ one.length ≤ 3 ^ 3 := Nat.pow_le_pow_right (by omega) h3.2
  have hB : ∀ r ∈ Rw, (sumsL one r [[]]).length ≤ 27 := fun r hr => by
    have := sums_len one r [[]]
    simp only [List.length_cons, List.length_nil] at this
    omega
  obtain ⟨ρ', ef, eρ⟩ := grown (C := ⟨callK lib (k + 2), lib.gv⟩) (Rw := Rw) (f := fun r => sumsL one r [[]]) (h := h) (a := .d (rowD one)) (b := .d (rowsD Rw)) (call := .call i_sums [.var 0, .var 3] []) (B := 27) (it := .var 1) hB (by omega)
    (fun r hr hh => by
      have := m_sums k one r hh (hR r hr).symm (by omega)
      simp only [List.take_succ_cons, seqItr_tup, seqItr_tmp, seqItr_ro, items_tup, items_tmp, items_ro, callD, startR, List.map_cons, List.map_nil, List.length_cons, List.length_nil, Nat.sub_self, Nat.reduceSub, Nat.reduceAdd, List.replicate, List.append_nil, List.cons_append, List.nil_append, get0, getS, R.bind, R.on, RS.seq, truth_bl, nextO, stV, alloc, setVars, setTg, List.set_cons_zero, List.set_cons_succ, wipe, biU, bi1, bi2, perm, R.opt, fin_ret, fin_next, retU_d, retU_tmp, retU_ro, take_len, add_int, sub_int, bin_add, bin_mul, cmp_eq_int, cmp_ne_int, cmp_lt_int, cmp_le_int, cmp_gt_int, cmp_ge_int, cmp_eq_bl, cmp_ne_bl, negR, notR, onBl, onBlO, tupR, lstR, datas, Option.map_some, gvR, Lib.at, dv_var, dv_non, dv_bl, dv_int, dv_str, dv_gv, dv_bin, dv_neg, dv_cmp, dv_cmp2, dv_and, dv_or, dv_not, dv_ife, dv_tup, dv_lst, dv_idx, dv_slice, dv_call, dv_bi1, dv_bi2, dv_meth, dv_sdict, dt_and, dt_or, dt_not, dt_var, dt_bl, dt_cmp, dt_cmp2, dt_call, dt_bi, dt_idx, dt_bin, dt_ife, dq_var, dq_call, dq_bi, dq_idx, dq_bin, dq_ife, dq_int, dq_neg, dq_absent, di_var, di_call, di_bi, di_idx, di_bin, di_ife, di_lst, di_tup, di_slice, di_comp, di_rng1, di_rng2, di_enum, di_zip, ds_asg, ds_asgT, ds_par, ds_sub, ds_aug, ds_expr, ds_ret, ds_retN, ds_pass, ds_brk, ds_cont, ds_ife, dss_nil, dss_cons, dns_nil, dns_cons, evs_nil, evs_cons, this]) (by simp only [List.take_succ_cons, seqItr_tup, seqItr_tmp, seqItr_ro, items_tup, items_tmp, items_ro, callD, startR, List.map_cons, List.map_nil, List.length_cons, List.length_nil, Nat.sub_self, Nat.reduceSub, Nat.reduceAdd, List.replicate, List.append_nil, List.cons_append, List.nil_append, get0, getS, R.bind, R.on, RS.seq, truth_bl, nextO, stV, alloc, setVars, setTg, List.set_cons_zero, List.set_cons_succ, wipe, biU, bi1, bi2, perm, R.opt, fin_ret, fin_next, retU_d, retU_tmp, retU_ro, take_len, add_int, sub_int, bin_add, bin_mul, cmp_eq_int, cmp_ne_int, cmp_lt_int, cmp_le_int, cmp_gt_int, cmp_ge_int, cmp_eq_bl, cmp_ne_bl, negR, notR, onBl, onBlO, tupR, lstR, datas, Option.map_some, gvR, Lib.at, dv_var, dv_non, dv_bl, dv_int, dv_str, dv_gv, dv_bin, dv_neg, dv_cmp, dv_cmp2, dv_and, dv_or, dv_not, dv_ife, dv_tup, dv_lst, dv_idx, dv_slice, dv_call, dv_bi1, dv_bi2, dv_meth, dv_sdict, dt_and, dt_or, dt_not, dt_var, dt_bl, dt_cmp, dt_cmp2, dt_call, dt_bi, dt_idx, dt_bin, dt_ife, dq_var, dq_call, dq_bi, dq_idx, dq_bin, dq_ife, dq_int, dq_neg, dq_absent, di_var, di_call, di_bi, di_idx, di_bin, di_ife, di_lst, di_tup, di_slice, di_comp, di_rng1, di_rng2, di_enum, di_zip, ds_asg, ds_asgT, ds_par, ds_sub, ds_aug, ds_expr, ds_ret, ds_retN, ds_pass, ds_brk, ds_cont, ds_ife, dss_nil, dss_cons, dns_nil, dns_cons, evs_nil, evs_cons])
  have le : ∀ Rw : List (List Int), (∀ r ∈ Rw, (sumsL one r [[]]).length ≤ 27) → (Rw.flatMap fun r => sumsL one r [[]]).length ≤ Rw.length * 27 := by
    intro Rw
    induction Rw with
    | nil => intro _; simp
    | cons r Rw ih =>
      intro hh
      have h1 := ih fun z hz => hh z (List.mem_cons_of_mem _ hz)
      have h2 := hh r List.mem_cons_self
      rw [List.flatMap_cons, List.length_append, List.length_cons]
      omega
  have ir := m__law_in_rows (k + 1) (Rw.flatMap fun r => sumsL one r [[]]) h.length (h ++ [.lst ((Rw.flatMap fun r => sumsL one r [[]]).map rowD)]) get_app (Nat.le_trans (le Rw hB) (by omega)) (fun r hr => by
    obtain ⟨x, hx, hr⟩ := List.mem_flatMap.mp hr
    exact ne_of_len (inS_len (hR x hx).symm (sums_iff.mp hr)) h3.1)
  subst eρ
  simp only [List.take_succ_cons, seqItr_tup, seqItr_tmp, seqItr_ro, items_tup, items_tmp, items_ro, callD, startR, List.map_cons, List.map_nil, List.length_cons, List.length_nil, Nat.sub_self, Nat.reduceSub, Nat.reduceAdd, List.replicate, List.append_nil, List.cons_append, List.nil_append, get0, getS, R.bind, R.on, RS.seq, truth_bl, nextO, stV, alloc, setVars, setTg, List.set_cons_zero, List.set_cons_succ, wipe, biU, bi1, bi2, perm, R.opt, fin_ret, fin_next, retU_d, retU_tmp, retU_ro, take_len, add_int, sub_int, bin_add, bin_mul, cmp_eq_int, cmp_ne_int, cmp_lt_int, cmp_le_int, cmp_gt_int, cmp_ge_int, cmp_eq_bl, cmp_ne_bl, negR, notR, onBl, onBlO, tupR, lstR, datas, Option.map_some, gvR, Lib.at, dv_var, dv_non, dv_bl, dv_int, dv_str, dv_gv, dv_bin, dv_neg, dv_cmp, dv_cmp2, dv_and, dv_or, dv_not, dv_ife, dv_tup, dv_lst, dv_idx, dv_slice, dv_call, dv_bi1, dv_bi2, dv_meth, dv_sdict, dt_and, dt_or, dt_not, dt_var, dt_bl, dt_cmp, dt_cmp2, dt_call, dt_bi, dt_idx, dt_bin, dt_ife, dq_var, dq_call, dq_bi, dq_idx, dq_bin, dq_ife, dq_int, dq_neg, dq_absent, di_var, di_call, di_bi, di_idx, di_bin, di_ife, di_lst, di_tup, di_slice, di_comp, di_rng1, di_rng2, di_enum, di_zip, ds_asg, ds_asgT, ds_par, ds_sub, ds_aug, ds_expr, ds_ret, ds_retN, ds_pass, ds_brk, ds_cont, ds_ife, dss_nil, dss_cons, dns_nil, dns_cons, evs_nil, evs_cons, f__law_ahead, s__law_ahead, sz0, if_true]
  rw [ef]
  simp only [List.take_succ_cons, seqItr_tup, seqItr_tmp, seqItr_ro, items_tup, items_tmp, items_ro, callD, startR, List.map_cons, List.map_nil, List.length_cons, List.length_nil, Nat.sub_self, Nat.reduceSub, Nat.reduceAdd, List.replicate, List.append_nil, List.cons_append, List.nil_append, get0, getS, R.bind, R.on, RS.seq, truth_bl, nextO, stV, alloc, setVars, setTg, List.set_cons_zero, List.set_cons_succ, wipe, biU, bi1, bi2, perm, R.opt, fin_ret, fin_next, retU_d, retU_tmp, retU_ro, take_len, add_int, sub_int, bin_add, bin_mul, cmp_eq_int, cmp_ne_int, cmp_lt_int, cmp_le_int, cmp_gt_int, cmp_ge_int, cmp_eq_bl, cmp_ne_bl, negR, notR, onBl, onBlO, tupR, lstR, datas, Option.map_some, gvR, Lib.at, dv_var, dv_non, dv_bl, dv_int, dv_str, dv_gv, dv_bin, dv_neg, dv_cmp, dv_cmp2, dv_and, dv_or, dv_not, dv_ife, dv_tup, dv_lst, dv_idx, dv_slice, dv_call, dv_bi1, dv_bi2, dv_meth, dv_sdict, dt_and, dt_or, dt_not, dt_var, dt_bl, dt_cmp, dt_cmp2, dt_call, dt_bi, dt_idx, dt_bin, dt_ife, dq_var, dq_call, dq_bi, dq_idx, dq_bin, dq_ife, dq_int, dq_neg, dq_absent, di_var, di_call, di_bi, di_idx, di_bin, di_ife, di_lst, di_tup, di_slice, di_comp, di_rng1, di_rng2, di_enum, di_zip, ds_asg, ds_asgT, ds_par, ds_sub, ds_aug, ds_expr, ds_ret, ds_retN, ds_pass, ds_brk, ds_cont, ds_ife, dss_nil, dss_cons, dns_nil, dns_cons, evs_nil, evs_cons, ir, take_app]
theorem m__law_three_right (k : Nat) (one two last : List Int) (h : Hs) (l1 : one.length = two.length) (l2 : two.length = last.length) (h3 : 1 ≤ one.length ∧ one.length ≤ 3) (s1 : Sg one) (s2 : Sg two) (s3 : Sg last) :
    callK lib (k + 4) i__law_three_right [.d (rowD one), .d (rowD two), .d (rowD last)] h = .ok (.d (.bl true)) h := by
  rw [ck (T := lib) (fn := f__law_three_right) rfl rfl]
  have b27 : ∀ r s : List Int, r.length ≤ 3 → (sumsL r s [[]]).length ≤ 27 := fun r s hr => by
    have h1 := sums_len r s [[]]
    have p3 : 3 ^ r.length ≤ 3 ^ 3 := Nat.pow_le_pow_right (by omega) hr
    simp only [List.length_cons, List.length_nil] at h1
    omega
  have e1 := m_sums (k + 1) one two h l1 (by omega)
  have e2 := m_sums (k + 1) two last h l2 (by omega)
  have e3 := m__law_behind k (sumsL one two [[]]) last h (fun r hr => by rw [inS_len l1 (sums_iff.mp hr)]; omega) (b27 _ _ h3.2) (by omega)
  have e4 := m__law_ahead k (sumsL two last [[]]) one h (fun r hr => by rw [inS_len l2 (sums_iff.mp hr)]; omega) (b27 _ _ (by omega)) h3
  have se : setOf ((sumsL one two [[]]).flatMap fun r => sumsL r last [[]]) = setOf ((sumsL two last [[]]).flatMap fun r => sumsL one r [[]]) := set_eq fun z => by
    have := inS_assoc (z := z) l1 l2 s1 s2 s3
    simp only [List.mem_flatMap, sums_iff]
    exact this
  rw [se] at e3
  simp only [List.take_succ_cons, seqItr_tup, seqItr_tmp, seqItr_ro, items_tup, items_tmp, items_ro, callD, startR, List.map_cons, List.map_nil, List.length_cons, List.length_nil, Nat.sub_self, Nat.reduceSub, Nat.reduceAdd, List.replicate, List.append_nil, List.cons_append, List.nil_append, get0, getS, R.bind, R.on, RS.seq, truth_bl, nextO, stV, alloc, setVars, setTg, List.set_cons_zero, List.set_cons_succ, wipe, biU, bi1, bi2, perm, R.opt, fin_ret, fin_next, retU_d, retU_tmp, retU_ro, take_len, add_int, sub_int, bin_add, bin_mul, cmp_eq_int, cmp_ne_int, cmp_lt_int, cmp_le_int, cmp_gt_int, cmp_ge_int, cmp_eq_bl, cmp_ne_bl, negR, notR, onBl, onBlO, tupR, lstR, datas, Option.map_some, gvR, Lib.at, dv_var, dv_non, dv_bl, dv_int, dv_str, dv_gv, dv_bin, dv_neg, dv_cmp, dv_cmp2, dv_and, dv_or, dv_not, dv_ife, dv_tup, dv_lst, dv_idx, dv_slice, dv_call, dv_bi1, dv_bi2, dv_meth, dv_sdict, dt_and, dt_or, dt_not, dt_var, dt_bl, dt_cmp, dt_cmp2, dt_call, dt_bi, dt_idx, dt_bin, dt_ife, dq_var, dq_call, dq_bi, dq_idx, dq_bin, dq_ife, dq_int, dq_neg, dq_absent, di_var, di_call, di_bi, di_idx, di_bin, di_ife, di_lst, di_tup, di_slice, di_comp, di_rng1, di_rng2, di_enum, di_zip, ds_asg, ds_asgT, ds_par, ds_sub, ds_aug, ds_expr, ds_ret, ds_retN, ds_pass, ds_brk, ds_cont, ds_ife, dss_nil, dss_cons, dns_nil, dns_cons, evs_nil, evs_cons, f__law_three_right, s__law_three_right, e1, e2, e3, e4, cmp_eq_rows, decide_true]
end EV
end

section
set_option Elab.async false
set_option linter.all false
set_option maxRecDepth 100000
namespace EV
open PySem
theorem sg_cases {i : Int} (h : -1 ≤ i ∧ i ≤ 1) : i = -1 ∨ i = 0 ∨ i = 1 := by omega
theorem short_ints : ∀ r : List Int, Sg r → PyData.leavesShortAll 8 (r.map .int) = true ∧ PyData.showableAll (r.map .int) = true ∧ PyData.weightAll (r.map .int) ≤ 2 * r.length
  | [], _ => ⟨rfl, rfl, Nat.le_refl _⟩
  | x :: r, h => by
    obtain ⟨h1, h2, h3⟩ := short_ints r fun z hz => h z (List.mem_cons_of_mem _ hz)
    have hx := sg_cases (h x List.mem_cons_self)
    have s1 : PyData.leavesShort 8 (.int x) = true := by rcases hx with rfl | rfl | rfl <;> decide +kernel
    have s2 : PyData.showable (.int x) = true := by rcases hx with rfl | rfl | rfl <;> decide +kernel
    have s3 : PyData.weight (.int x) ≤ 1 := by rcases hx with rfl | rfl | rfl <;> decide +kernel
    rw [List.map_cons]
    refine ⟨?_, ?_, ?_⟩
    · unfold PyData.leavesShortAll; rw [s1, h1]; rfl
    · unfold PyData.showableAll; rw [s2, h2]; rfl
    · unfold PyData.weightAll; rw [List.length_cons]; omega
theorem short_rows : ∀ F : List (List Int), (∀ r ∈ F, Sg r ∧ r.length ≤ 6) → PyData.leavesShortAll 8 (F.map fun r => .tuple (r.map .int)) = true ∧ PyData.showableAll (F.map fun r => .tuple (r.map .int)) = true ∧ PyData.weightAll (F.map fun r => .tuple (r.map .int)) ≤ 13 * F.length
  | [], _ => ⟨rfl, rfl, Nat.le_refl _⟩
  | r :: F, h => by
    obtain ⟨h1, h2, h3⟩ := short_rows F fun z hz => h z (List.mem_cons_of_mem _ hz)
    obtain ⟨g1, g2⟩ := h r List.mem_cons_self
    obtain ⟨s1, s2, s3⟩ := short_ints r g1
    rw [List.map_cons]
    refine ⟨?_, ?_, ?_⟩
    · unfold PyData.leavesShortAll
      rw [h1, show PyData.leavesShort 8 (.tuple (r.map .int)) = true by unfold PyData.leavesShort; exact s1]
      rfl
    · unfold PyData.showableAll
      rw [h2, show PyData.showable (.tuple (r.map .int)) = true by unfold PyData.showable; exact s2]
      rfl
    · unfold PyData.weightAll
      have : PyData.weight (.tuple (r.map .int)) ≤ 2 * r.length := by unfold PyData.weight; exact s3
      rw [List.length_cons]
      omega
theorem show_ok {x : PyData} {u : U} {h : Hs} (e : frz h u = some x) (h1 : x.showable = true) (h2 : x.depth ≤ 64) (h3 : x.shown.length ≤ sizeLine) : showU u h = some (.d (.str x.shown)) := by
  unfold showU
  rw [e]
  exact if_pos ⟨h1, h2, h3⟩
theorem show_row {r : List Int} {h : Hs} (hs : Sg r) (hl : r.length ≤ 6) : showU (.d (rowD r)) h = some (.d (.str (PyData.tuple (r.map .int)).shown)) := by
  obtain ⟨s1, s2, s3⟩ := short_ints r hs
  refine show_ok (by rw [frz_d, row_py]) (by unfold PyData.showable; exact s2) (by unfold PyData.depth; rw [deep_ints]; decide) ?_
  have := PyData.shown_le 8 (by decide) (.tuple (r.map .int)) (by unfold PyData.leavesShort; exact s1)
  have w : PyData.weight (.tuple (r.map .int)) ≤ 2 * r.length := by unfold PyData.weight; exact s3
  exact le_size (by omega)
theorem show_rows {F : List (List Int)} {h : Hs} (hs : ∀ r ∈ F, Sg r ∧ r.length ≤ 6) (hz : F.length ≤ 1000) : showU (.d (rowsD F)) h = some (.d (.str (PyData.tuple (F.map fun r => .tuple (r.map .int))).shown)) := by
  obtain ⟨s1, s2, s3⟩ := short_rows F hs
  have d := deep_rows F
  refine show_ok (by rw [frz_d, rows_py]) (by unfold PyData.showable; exact s2) (by unfold PyData.depth; omega) ?_
  have := PyData.shown_le 8 (by decide) (.tuple (F.map fun r => .tuple (r.map .int))) (by unfold PyData.leavesShort; exact s1)
  have w : PyData.weight (.tuple (F.map fun r => .tuple (r.map .int))) ≤ 13 * F.length := by unfold PyData.weight; exact s3
  exact le_size (by omega)
theorem sgn_sg (i : Int) : -1 ≤ sgn i ∧ sgn i ≤ 1 := by unfold sgn; split <;> (try split) <;> omega
theorem rowOf_sg (r s : List Int) : Sg (rowOf r s) := fun x hx => by
  obtain ⟨p, _, rfl⟩ := List.mem_map.mp hx
  exact sgn_sg _
theorem rowOf_len {r s : List Int} (h : r.length = s.length) : (rowOf r s).length = s.length := by
  unfold rowOf
  rw [List.length_map, List.length_zip]
  omega
theorem nums_tale (a b c : Int) : sgn (c - a) ∈ nums (sgn (c - b)) (sgn (b - a)) := by
  unfold nums sgn
  repeat' split
  all_goals simp
  all_goals omega
theorem tale_in : ∀ {f m l : List Int}, f.length = m.length → m.length = l.length → InS (rowOf l m) (rowOf m f) (rowOf l f)
  | [], [], [], _, _ => rfl
  | [], _ :: _, _, h, _ => by simp at h
  | _ :: _, [], _, h, _ => by simp at h
  | _, [], _ :: _, _, h => by simp at h
  | _, _ :: _, [], _, h => by simp at h
  | a :: f, b :: m, c :: l, h1, h2 => ⟨nums_tale a b c, tale_in (by simpa using h1) (by simpa using h2)⟩
end EV
end

section
set_option Elab.async false
set_option linter.all false
set_option maxRecDepth 100000
namespace EV
open PySem
theorem mul_text {x : Str} {k : Int} (c : 2 ≤ k ∧ k ≤ 1000 ∧ 1 ≤ x.length ∧ x.length ≤ 1000) : mulU (.d (.str x)) (.d (.int k)) = some (.d (.str (strMul x k))) := by
  unfold mulU
  exact if_pos c
theorem add_text {x y : Str} (c : x.length + y.length ≤ sizeLine) : addU (.d (.str x)) (.d (.str y)) = some (.d (.str (x ++ y))) := by
  unfold addU
  exact if_pos c
theorem int_text {x : Str} {n : Int} {h : Hs} (e : PySem.intText? x = some n) (l : x.length ≤ 640) : bi1 .int_ (.d (.str x)) h = .ok (.d (.int n)) h := by
  unfold bi1
  dsimp only
  rw [e]
  exact if_pos l
theorem far_mul : mulU (.d (.str "0")) (.d (.int 300)) = some (.d (.str (strMul "0" 300))) := mul_text (by decide +kernel)
theorem far_add : addU (.d (.str "1")) (.d (.str (strMul "0" 300))) = some (.d (.str ("1" ++ strMul "0" 300))) := add_text (by decide +kernel)
theorem far_is (h : Hs) : bi1 .int_ (.d (.str ("1" ++ strMul "0" 300))) h = .ok (.d (.int (10 ^ 300))) h := int_text (by decide +kernel) (by decide +kernel)
theorem sgn_far {a b c : Int} (hc : 0 < c) : sgn (c * a - c * b) = sgn (a - b) := by
  unfold sgn
  have e : c * a - c * b = c * (a - b) := by rw [Int.mul_sub]
  rw [e]
  by_cases h0 : a - b = 0
  · rw [h0]; simp
  · by_cases h1 : 0 < a - b
    · have := Int.mul_pos hc h1
      rw [if_neg (by omega), if_pos this, if_neg h0, if_pos h1]
    · have h2 : c * (a - b) < 0 := Int.mul_neg_of_pos_of_neg hc (by omega)
      rw [if_neg (by omega), if_neg (by omega), if_neg h0, if_neg h1]
theorem rowOf_far {c : Int} (hc : 0 < c) : ∀ r s : List Int, rowOf (r.map fun x => c * x) (s.map fun x => c * x) = rowOf r s
  | [], s => by unfold rowOf; rfl
  | x :: r, [] => by unfold rowOf; simp
  | x :: r, y :: s => by
    have ih := rowOf_far hc r s
    unfold rowOf at ih ⊢
    simp only [List.map_cons, List.zip_cons_cons]
    rw [ih, sgn_far hc]
end EV
end

section
set_option Elab.async false
set_option linter.all false
set_option maxRecDepth 100000
namespace EV
open PySem
theorem nums_tale2 (a b c : Int) : sgn (c - a) ∈ nums (sgn (b - a)) (sgn (c - b)) := by
  unfold nums sgn
  repeat' split
  all_goals simp
  all_goals omega
theorem tale_in2 : ∀ {f m l : List Int}, f.length = m.length → m.length = l.length → InS (rowOf m f) (rowOf l m) (rowOf l f)
  | [], [], [], _, _ => rfl
  | [], _ :: _, _, h, _ => by simp at h
  | _ :: _, [], _, h, _ => by simp at h
  | _, [], _ :: _, _, h => by simp at h
  | _, _ :: _, [], _, h => by simp at h
  | a :: f, b :: m, c :: l, h1, h2 => ⟨nums_tale2 a b c, tale_in2 (by simpa using h1) (by simpa using h2)⟩
theorem m__law_tale_right (k : Nat) (f m l : List Int) (h : Hs) (h1 : f.length = m.length) (h2 : m.length = l.length) (h6 : f.length ≤ 6) (bf : ∀ x ∈ f, -(10 ^ 15) ≤ x ∧ x ≤ 10 ^ 15) (bl : ∀ x ∈ l, -(10 ^ 15) ≤ x ∧ x ≤ 10 ^ 15) :
    callK lib (k + 3) i__law_tale_right [.d (rowD f), .d (rowD m), .d (rowD l)] h = .ok (.d (.bl true)) h := by
  rw [ck (T := lib) (fn := f__law_tale_right) rfl rfl]
  have sz2 : (2 : Nat) ≤ sizeLine := by decide
  generalize hc : (10 : Int) ^ 300 = c
  have hp : 0 < c := by rw [← hc]; exact Int.pow_pos (by omega)
  have fi : PySem.intText? ("1" ++ strMul "0" 300) = some c := by rw [← hc]; decide +kernel
  have fl : (("1" : Str) ++ strMul "0" 300).length ≤ 640 := by decide +kernel
  have r1 := m_row_of k h m f (by omega)
  have r2 := m_row_of k h l m (by omega)
  have r3 := m__law_row_of (k + 1) h l f (by omega) (by omega)
  have inner : ∀ (g : List Int), (∀ x ∈ g, -(10 ^ 15) ≤ x ∧ x ≤ 10 ^ 15) → g.length ≤ 6 → (den ⟨callK lib (k + 2), lib.gv⟩ (.comp [9] [9] (.bin .mul (.var 6) (.var 9)) (.var 8) [])).v
      [some (.d (rowD f)), some (.d (rowD m)), some (.d (rowD l)), some (.d (rowD (rowOf m f))), some (.d (rowD (rowOf l m))), some (.d (rowD (rowOf l f))), some (.d (.int c)), none, some (.d (rowD g)), none] h = .ok (.tmp (.lst (g.map fun x => D.int (c * x)))) h := fun g hg hl =>
    comp_of (e := D.int) (w := none) (by simp only [List.take_succ_cons, seqItr_tup, seqItr_tmp, seqItr_ro, items_tup, items_tmp, items_ro, callD, startR, List.map_cons, List.map_nil, List.length_cons, List.length_nil, Nat.sub_self, Nat.reduceSub, Nat.reduceAdd, List.replicate, List.append_nil, List.cons_append, List.nil_append, get0, getS, R.bind, R.on, RS.seq, truth_bl, nextO, stV, alloc, setVars, setTg, List.set_cons_zero, List.set_cons_succ, wipe, biU, bi1, bi2, perm, R.opt, fin_ret, fin_next, retU_d, retU_tmp, retU_ro, take_len, add_int, sub_int, bin_add, bin_mul, cmp_eq_int, cmp_ne_int, cmp_lt_int, cmp_le_int, cmp_gt_int, cmp_ge_int, cmp_eq_bl, cmp_ne_bl, negR, notR, onBl, onBlO, tupR, lstR, datas, Option.map_some, gvR, Lib.at, dv_var, dv_non, dv_bl, dv_int, dv_str, dv_gv, dv_bin, dv_neg, dv_cmp, dv_cmp2, dv_and, dv_or, dv_not, dv_ife, dv_tup, dv_lst, dv_idx, dv_slice, dv_call, dv_bi1, dv_bi2, dv_meth, dv_sdict, dt_and, dt_or, dt_not, dt_var, dt_bl, dt_cmp, dt_cmp2, dt_call, dt_bi, dt_idx, dt_bin, dt_ife, dq_var, dq_call, dq_bi, dq_idx, dq_bin, dq_ife, dq_int, dq_neg, dq_absent, di_var, di_call, di_bi, di_idx, di_bin, di_ife, di_lst, di_tup, di_slice, di_comp, di_rng1, di_rng2, di_enum, di_zip, ds_asg, ds_asgT, ds_par, ds_sub, ds_aug, ds_expr, ds_ret, ds_retN, ds_pass, ds_brk, ds_cont, ds_ife, dss_nil, dss_cons, dns_nil, dns_cons, evs_nil, evs_cons]) ok_none (le_size (by omega)) (fun x hx => by
      have hx := hg x hx
      have mm : mulU (.d (.int c)) (.d (.int x)) = some (.d (.int (c * x))) := mul_int (.inr ⟨by omega, by omega⟩)
      simp only [List.take_succ_cons, seqItr_tup, seqItr_tmp, seqItr_ro, items_tup, items_tmp, items_ro, callD, startR, List.map_cons, List.map_nil, List.length_cons, List.length_nil, Nat.sub_self, Nat.reduceSub, Nat.reduceAdd, List.replicate, List.append_nil, List.cons_append, List.nil_append, get0, getS, R.bind, R.on, RS.seq, truth_bl, nextO, stV, alloc, setVars, setTg, List.set_cons_zero, List.set_cons_succ, wipe, biU, bi1, bi2, perm, R.opt, fin_ret, fin_next, retU_d, retU_tmp, retU_ro, take_len, add_int, sub_int, bin_add, bin_mul, cmp_eq_int, cmp_ne_int, cmp_lt_int, cmp_le_int, cmp_gt_int, cmp_ge_int, cmp_eq_bl, cmp_ne_bl, negR, notR, onBl, onBlO, tupR, lstR, datas, Option.map_some, gvR, Lib.at, dv_var, dv_non, dv_bl, dv_int, dv_str, dv_gv, dv_bin, dv_neg, dv_cmp, dv_cmp2, dv_and, dv_or, dv_not, dv_ife, dv_tup, dv_lst, dv_idx, dv_slice, dv_call, dv_bi1, dv_bi2, dv_meth, dv_sdict, dt_and, dt_or, dt_not, dt_var, dt_bl, dt_cmp, dt_cmp2, dt_call, dt_bi, dt_idx, dt_bin, dt_ife, dq_var, dq_call, dq_bi, dq_idx, dq_bin, dq_ife, dq_int, dq_neg, dq_absent, di_var, di_call, di_bi, di_idx, di_bin, di_ife, di_lst, di_tup, di_slice, di_comp, di_rng1, di_rng2, di_enum, di_zip, ds_asg, ds_asgT, ds_par, ds_sub, ds_aug, ds_expr, ds_ret, ds_retN, ds_pass, ds_brk, ds_cont, ds_ife, dss_nil, dss_cons, dns_nil, dns_cons, evs_nil, evs_cons, turnR, testsR, dataR, mm, if_true])
  have outer := comp_of (C := ⟨callK lib (k + 2), lib.gv⟩) (vs := [8]) (tg := [8]) (elt := .bi .tuple [(.comp [9] [9] (.bin .mul (.var 6) (.var 9)) (.var 8) [])]) (it := .lst [(.var 2), (.var 0)]) (ifs := [])
    (ρ := [some (.d (rowD f)), some (.d (rowD m)), some (.d (rowD l)), some (.d (rowD (rowOf m f))), some (.d (rowD (rowOf l m))), some (.d (rowD (rowOf l f))), some (.d (.int c)), none, none, none]) (h := h) (l := [l, f]) (e := rowD) (g := fun r => rowD (r.map fun x => c * x)) (w := none)
    (by simp only [List.take_succ_cons, seqItr_tup, seqItr_tmp, seqItr_ro, items_tup, items_tmp, items_ro, callD, startR, List.map_cons, List.map_nil, List.length_cons, List.length_nil, Nat.sub_self, Nat.reduceSub, Nat.reduceAdd, List.replicate, List.append_nil, List.cons_append, List.nil_append, get0, getS, R.bind, R.on, RS.seq, truth_bl, nextO, stV, alloc, setVars, setTg, List.set_cons_zero, List.set_cons_succ, wipe, biU, bi1, bi2, perm, R.opt, fin_ret, fin_next, retU_d, retU_tmp, retU_ro, take_len, add_int, sub_int, bin_add, bin_mul, cmp_eq_int, cmp_ne_int, cmp_lt_int, cmp_le_int, cmp_gt_int, cmp_ge_int, cmp_eq_bl, cmp_ne_bl, negR, notR, onBl, onBlO, tupR, lstR, datas, Option.map_some, gvR, Lib.at, dv_var, dv_non, dv_bl, dv_int, dv_str, dv_gv, dv_bin, dv_neg, dv_cmp, dv_cmp2, dv_and, dv_or, dv_not, dv_ife, dv_tup, dv_lst, dv_idx, dv_slice, dv_call, dv_bi1, dv_bi2, dv_meth, dv_sdict, dt_and, dt_or, dt_not, dt_var, dt_bl, dt_cmp, dt_cmp2, dt_call, dt_bi, dt_idx, dt_bin, dt_ife, dq_var, dq_call, dq_bi, dq_idx, dq_bin, dq_ife, dq_int, dq_neg, dq_absent, di_var, di_call, di_bi, di_idx, di_bin, di_ife, di_lst, di_tup, di_slice, di_comp, di_rng1, di_rng2, di_enum, di_zip, ds_asg, ds_asgT, ds_par, ds_sub, ds_aug, ds_expr, ds_ret, ds_retN, ds_pass, ds_brk, ds_cont, ds_ife, dss_nil, dss_cons, dns_nil, dns_cons, evs_nil, evs_cons, sz2, if_true]) ok_none (by simpa using sz2) (fun g hg => by
      have q := inner g (by rcases List.mem_cons.mp hg with rfl | hg; exact bl; rw [List.mem_singleton.mp hg]; exact bf) (by rcases List.mem_cons.mp hg with rfl | hg; omega; rw [List.mem_singleton.mp hg]; omega)
      simp only [List.take_succ_cons, seqItr_tup, seqItr_tmp, seqItr_ro, items_tup, items_tmp, items_ro, callD, startR, List.map_cons, List.map_nil, List.length_cons, List.length_nil, Nat.sub_self, Nat.reduceSub, Nat.reduceAdd, List.replicate, List.append_nil, List.cons_append, List.nil_append, get0, getS, R.bind, R.on, RS.seq, truth_bl, nextO, stV, alloc, setVars, setTg, List.set_cons_zero, List.set_cons_succ, wipe, biU, bi1, bi2, perm, R.opt, fin_ret, fin_next, retU_d, retU_tmp, retU_ro, take_len, add_int, sub_int, bin_add, bin_mul, cmp_eq_int, cmp_ne_int, cmp_lt_int, cmp_le_int, cmp_gt_int, cmp_ge_int, cmp_eq_bl, cmp_ne_bl, negR, notR, onBl, onBlO, tupR, lstR, datas, Option.map_some, gvR, Lib.at, dv_var, dv_non, dv_bl, dv_int, dv_str, dv_gv, dv_bin, dv_neg, dv_cmp, dv_cmp2, dv_and, dv_or, dv_not, dv_ife, dv_tup, dv_lst, dv_idx, dv_slice, dv_call, dv_bi1, dv_bi2, dv_meth, dv_sdict, dt_and, dt_or, dt_not, dt_var, dt_bl, dt_cmp, dt_cmp2, dt_call, dt_bi, dt_idx, dt_bin, dt_ife, dq_var, dq_call, dq_bi, dq_idx, dq_bin, dq_ife, dq_int, dq_neg, dq_absent, di_var, di_call, di_bi, di_idx, di_bin, di_ife, di_lst, di_tup, di_slice, di_comp, di_rng1, di_rng2, di_enum, di_zip, ds_asg, ds_asgT, ds_par, ds_sub, ds_aug, ds_expr, ds_ret, ds_retN, ds_pass, ds_brk, ds_cont, ds_ife, dss_nil, dss_cons, dns_nil, dns_cons, evs_nil, evs_cons, turnR, testsR, dataR, q, if_true]
      simp [Function.comp_def])
  have dl : (rowOf l f).length ≤ 6 := by rw [rowOf_len (by omega)]; omega
  have sh : ∀ hh, showU (.d (rowD (rowOf l f))) hh = some (.d (.str (PyData.tuple ((rowOf l f).map .int)).shown)) := fun hh => show_row (rowOf_sg _ _) dl
  have i1 : ∀ t, idxU (.obj h.length) (.d (.int 1)) (h ++ MO.lst [rowD (l.map fun x => c * x), rowD (f.map fun x => c * x)] :: t) = some (.d (rowD (f.map fun x => c * x))) := fun t => by
    have e : idxU (.obj h.length) (.d (.int 1)) (h ++ MO.lst [rowD (l.map fun x => c * x), rowD (f.map fun x => c * x)] :: t) = match itemsU (.obj h.length) (h ++ MO.lst [rowD (l.map fun x => c * x), rowD (f.map fun x => c * x)] :: t) with | some xs => (L2.atI xs 1).map .d | none => none := rfl
    rw [e, items_obj get_app]
    rfl
  have i0 : ∀ t, idxU (.obj h.length) (.d (.int 0)) (h ++ MO.lst [rowD (l.map fun x => c * x), rowD (f.map fun x => c * x)] :: t) = some (.d (rowD (l.map fun x => c * x))) := fun t => by
    have e : idxU (.obj h.length) (.d (.int 0)) (h ++ MO.lst [rowD (l.map fun x => c * x), rowD (f.map fun x => c * x)] :: t) = match itemsU (.obj h.length) (h ++ MO.lst [rowD (l.map fun x => c * x), rowD (f.map fun x => c * x)] :: t) with | some xs => (L2.atI xs 0).map .d | none => none := rfl
    rw [e, items_obj get_app]
    rfl
  have r4 := m_row_of k (h ++ [MO.lst [rowD (l.map fun x => c * x), rowD (f.map fun x => c * x)]]) (l.map fun x => c * x) (f.map fun x => c * x) (by simp; omega)
  rw [rowOf_far hp] at r4
  have r5 := m_row_of k (h ++ [MO.lst [rowD (l.map fun x => c * x), rowD (f.map fun x => c * x)]]) l f (by omega)
  have su := m_sums k (rowOf m f) (rowOf l m) (h ++ [MO.lst [rowD (l.map fun x => c * x), rowD (f.map fun x => c * x)]]) (by rw [rowOf_len (by omega), rowOf_len (by omega)]; omega) (by rw [rowOf_len (by omega)]; omega)
  have mem : rowOf l f ∈ sumsL (rowOf m f) (rowOf l m) [[]] := sums_iff.mpr (tale_in2 h1 h2)
  simp only [List.map_cons, List.map_nil] at outer
  simp only [List.take_succ_cons, seqItr_tup, seqItr_tmp, seqItr_ro, items_tup, items_tmp, items_ro, callD, startR, List.map_cons, List.map_nil, List.length_cons, List.length_nil, Nat.sub_self, Nat.reduceSub, Nat.reduceAdd, List.replicate, List.append_nil, List.cons_append, List.nil_append, get0, getS, R.bind, R.on, RS.seq, truth_bl, nextO, stV, alloc, setVars, setTg, List.set_cons_zero, List.set_cons_succ, wipe, biU, bi1, bi2, perm, R.opt, fin_ret, fin_next, retU_d, retU_tmp, retU_ro, take_len, add_int, sub_int, bin_add, bin_mul, cmp_eq_int, cmp_ne_int, cmp_lt_int, cmp_le_int, cmp_gt_int, cmp_ge_int, cmp_eq_bl, cmp_ne_bl, negR, notR, onBl, onBlO, tupR, lstR, datas, Option.map_some, gvR, Lib.at, dv_var, dv_non, dv_bl, dv_int, dv_str, dv_gv, dv_bin, dv_neg, dv_cmp, dv_cmp2, dv_and, dv_or, dv_not, dv_ife, dv_tup, dv_lst, dv_idx, dv_slice, dv_call, dv_bi1, dv_bi2, dv_meth, dv_sdict, dt_and, dt_or, dt_not, dt_var, dt_bl, dt_cmp, dt_cmp2, dt_call, dt_bi, dt_idx, dt_bin, dt_ife, dq_var, dq_call, dq_bi, dq_idx, dq_bin, dq_ife, dq_int, dq_neg, dq_absent, di_var, di_call, di_bi, di_idx, di_bin, di_ife, di_lst, di_tup, di_slice, di_comp, di_rng1, di_rng2, di_enum, di_zip, ds_asg, ds_asgT, ds_par, ds_sub, ds_aug, ds_expr, ds_ret, ds_retN, ds_pass, ds_brk, ds_cont, ds_ife, dss_nil, dss_cons, dns_nil, dns_cons, evs_nil, evs_cons, f__law_tale_right, s__law_tale_right, r1, r2, r3, far_mul, far_add, fi, fl, if_true, outer, i1, i0, List.mapM_cons, List.mapM_nil, Option.bind_eq_bind, Option.pure_def, Option.bind_some, List.getElem?_cons_zero, List.getElem?_cons_succ, r4, r5, sh, su, cmp_ne_str, decide_true, Bool.not_true, Bool.false_eq_true, if_false, cmp_in_rows, mem, take_app]
end EV
end

section
set_option Elab.async false
set_option linter.all false
set_option maxRecDepth 100000
namespace EV
open PySem
theorem nums_comm {a b : Int} (ha : -1 ≤ a ∧ a ≤ 1) (hb : -1 ≤ b ∧ b ≤ 1) : nums a b = nums b a := by
  rcases sg_cases ha with rfl | rfl | rfl <;> rcases sg_cases hb with rfl | rfl | rfl <;> decide
theorem sums_comm : ∀ (r s : List Int) (F : List (List Int)), r.length = s.length → Sg r → Sg s → sumsL r s F = sumsL s r F
  | [], [], F, _, _, _ => rfl
  | [], _ :: _, _, h, _, _ => by simp at h
  | _ :: _, [], _, h, _, _ => by simp at h
  | a :: r, b :: s, F, h, h1, h2 => by
    show sumsL r s _ = sumsL s r _
    rw [nums_comm (h1 a List.mem_cons_self) (h2 b List.mem_cons_self), sums_comm r s _ (by simpa using h) (fun z hz => h1 z (List.mem_cons_of_mem _ hz)) fun z hz => h2 z (List.mem_cons_of_mem _ hz)]
theorem sums_self : ∀ (r p : List Int), sumsL r r [p] = [p ++ r]
  | [], p => by unfold sumsL; simp
  | a :: r, p => by
    show sumsL r r ([p].flatMap fun row => (nums a a).map fun c => row ++ [c]) = _
    have e : nums a a = [a] := if_pos (.inr rfl)
    rw [e]
    simp only [List.flatMap_cons, List.flatMap_nil, List.map_cons, List.map_nil, List.append_nil]
    rw [sums_self r]
    simp
theorem sums_zero : ∀ (r p : List Int), sumsL r (List.replicate r.length 0) [p] = [p ++ r]
  | [], p => by unfold sumsL; simp
  | a :: r, p => by
    show sumsL r (List.replicate r.length 0) ([p].flatMap fun row => (nums a 0).map fun c => row ++ [c]) = _
    have e : nums a 0 = [a] := by
      unfold nums
      by_cases h : a = 0
      · rw [if_pos (.inl h), h]
      · rw [if_neg (by rintro (z | z) <;> exact h z), if_pos rfl]
    rw [e]
    simp only [List.flatMap_cons, List.flatMap_nil, List.map_cons, List.map_nil, List.append_nil]
    rw [sums_zero r]
    simp
end EV
end

section
set_option Elab.async false
set_option linter.all false
set_option maxRecDepth 100000
namespace EV
open PySem
theorem lt_app : ∀ {a b x y : List Int}, a.length = b.length → a < b → a ++ x < b ++ y
  | [], [], x, y, _, h => absurd h (List.lt_irrefl _)
  | [], _ :: _, _, _, hl, _ => by simp at hl
  | _ :: _, [], _, _, hl, _ => by simp at hl
  | p :: a, q :: b, x, y, hl, h => by
    rw [List.cons_append, List.cons_append]
    rw [List.cons_lt_cons_iff] at h ⊢
    rcases h with h | ⟨rfl, h⟩
    · exact .inl h
    · exact .inr ⟨rfl, lt_app (by simpa using hl) h⟩
theorem app_lt : ∀ (a : List Int) {x y : List Int}, x < y → a ++ x < a ++ y
  | [], _, _, h => h
  | p :: a, x, y, h => by
    rw [List.cons_append, List.cons_append, List.cons_lt_cons_iff]
    exact .inr ⟨rfl, app_lt a h⟩
theorem one_lt {x y : Int} (h : x < y) : [x] < [y] := by
  rw [List.cons_lt_cons_iff]
  exact .inl h
theorem nums_up {a b : Int} : (nums a b).Pairwise (· < ·) := by
  unfold nums
  split
  · simp
  · split
    · simp
    · decide
theorem sums_up : ∀ (r s : List Int) (F : List (List Int)) (n : Nat), (∀ x ∈ F, x.length = n) → F.Pairwise (· < ·) → (sumsL r s F).Pairwise (· < ·)
  | [], s, F, n, _, h => by unfold sumsL; exact h
  | _ :: _, [], F, n, _, h => by unfold sumsL; exact h
  | a :: r, b :: s, F, n, hl, h => by
    show (sumsL r s _).Pairwise _
    refine sums_up r s _ (n + 1) (fun x hx => ?_) ?_
    · obtain ⟨y, hy, hx⟩ := List.mem_flatMap.mp hx
      obtain ⟨c, _, rfl⟩ := List.mem_map.mp hx
      rw [List.length_append, hl y hy]
      rfl
    · rw [List.pairwise_flatMap]
      refine ⟨fun x hx => ?_, ?_⟩
      · rw [List.pairwise_map]
        exact nums_up.imp fun h => app_lt x (one_lt h)
      · refine h.imp_of_mem fun {x y} hx hy hxy u hu v hv => ?_
        obtain ⟨c, _, rfl⟩ := List.mem_map.mp hu
        obtain ⟨d, _, rfl⟩ := List.mem_map.mp hv
        exact lt_app (by rw [hl x hx, hl y hy]) hxy
def neg (r : List Int) : List Int := r.map fun i => -i
theorem nums_neg {a b c : Int} (ha : -1 ≤ a ∧ a ≤ 1) (hb : -1 ≤ b ∧ b ≤ 1) : c ∈ nums (-b) (-a) ↔ -c ∈ nums a b := by
  have key : (∀ c ∈ nums (-b) (-a), -c ∈ nums a b) ∧ ∀ c ∈ nums a b, -c ∈ nums (-b) (-a) := by
    rcases sg_cases ha with rfl | rfl | rfl <;> rcases sg_cases hb with rfl | rfl | rfl <;> decide
  refine ⟨key.1 c, fun h => ?_⟩
  have := key.2 _ h
  rwa [Int.neg_neg] at this
theorem inS_neg : ∀ {r s x : List Int}, r.length = s.length → Sg r → Sg s → (InS (neg s) (neg r) x ↔ InS r s (neg x))
  | [], [], x, _, _, _ => by
    show x = [] ↔ neg x = []
    unfold neg
    simp
  | [], _ :: _, _, h, _, _ => by simp at h
  | _ :: _, [], _, h, _, _ => by simp at h
  | a :: r, b :: s, [], _, _, _ => Iff.rfl
  | a :: r, b :: s, c :: x, h, h1, h2 => by
    have ih := inS_neg (x := x) (by simpa using h) (fun z hz => h1 z (List.mem_cons_of_mem _ hz)) fun z hz => h2 z (List.mem_cons_of_mem _ hz)
    have e := nums_neg (c := c) (h1 a List.mem_cons_self) (h2 b List.mem_cons_self)
    show (c ∈ nums (-b) (-a) ∧ InS (neg s) (neg r) x) ↔ (-c ∈ nums a b ∧ InS r s (neg x))
    rw [e, ih]
theorem neg_neg (r : List Int) : neg (neg r) = r := by
  unfold neg
  rw [List.map_map]
  simp [Function.comp_def]
theorem nums_nil {a b : Int} (ha : -1 ≤ a ∧ a ≤ 1) (hb : -1 ≤ b ∧ b ≤ 1) : (0 : Int) ∈ nums a b ↔ b = -a := by
  rcases sg_cases ha with rfl | rfl | rfl <;> rcases sg_cases hb with rfl | rfl | rfl <;> decide
theorem inS_level : ∀ {r s : List Int}, r.length = s.length → Sg r → Sg s → (InS r s (List.replicate r.length 0) ↔ s = neg r)
  | [], [], _, _, _ => by
    show ([] : List Int) = [] ↔ _
    simp [neg]
  | [], _ :: _, h, _, _ => by simp at h
  | _ :: _, [], h, _, _ => by simp at h
  | a :: r, b :: s, h, h1, h2 => by
    have ih := inS_level (by simpa using h) (fun z hz => h1 z (List.mem_cons_of_mem _ hz)) fun z hz => h2 z (List.mem_cons_of_mem _ hz)
    have e := nums_nil (h1 a List.mem_cons_self) (h2 b List.mem_cons_self)
    show (0 ∈ nums a b ∧ InS r s (List.replicate r.length 0)) ↔ b :: s = -a :: neg r
    rw [e, ih, List.cons.injEq]
end EV
end

section
set_option Elab.async false
set_option linter.all false
set_option maxRecDepth 100000
namespace EV
open PySem
theorem sort_rows_of {G L : List (List Int)} (hp : L.Perm G) (hs : L.Pairwise (· < ·)) : sortD (G.map rowD) = L.map rowD := by
  unfold sortD
  rw [← List.map_mergeSort (r := fun a b => decide (a ≤ b)) (fun a _ b _ => (le_row a b).symm)]
  congr 1
  have tr : ∀ a b c : List Int, decide (a ≤ b) = true → decide (b ≤ c) = true → decide (a ≤ c) = true := fun a b c h1 h2 => by
    simp only [decide_eq_true_eq] at *
    exact List.le_trans h1 h2
  have tot : ∀ a b : List Int, (decide (a ≤ b) || decide (b ≤ a)) = true := fun a b => by
    simp only [Bool.or_eq_true, decide_eq_true_eq]
    exact List.le_total a b
  refine List.Perm.eq_of_pairwise (le := fun a b : List Int => decide (a ≤ b) = true) (fun a b _ _ h1 h2 => ?_) (List.pairwise_mergeSort tr tot _) (hs.imp fun h => ?_) ((List.mergeSort_perm _ _).trans hp.symm)
  · simp only [decide_eq_true_eq] at h1 h2
    exact List.le_antisymm h1 h2
  · simp only [decide_eq_true_eq]
    exact List.le_of_lt h
theorem sortOk_rows2 {G : List (List Int)} (hm : ∀ r ∈ G, r ≠ []) : SortOk (G.map rowD) := by
  refine ⟨fun d hd d' hd' => ?_, .inl fun d hd => ?_, fun x hx => ?_⟩
  · rw [List.map_map] at hd hd'
    obtain ⟨r, _, rfl⟩ := List.mem_map.mp hd
    obtain ⟨s, _, rfl⟩ := List.mem_map.mp hd'
    show PySem.W.alike (rowD r).py (rowD s).py = true
    rw [row_py, row_py]
    unfold PySem.W.alike
    exact alike_intsL r s
  · rw [List.map_map] at hd
    obtain ⟨r, hr, rfl⟩ := List.mem_map.mp hd
    show ∃ x t, (rowD r).py = .tuple (x :: t)
    rw [row_py]
    cases r with
    | nil => exact absurd rfl (hm [] hr)
    | cons x r => exact ⟨_, _, rfl⟩
  · obtain ⟨r, _, rfl⟩ := List.mem_map.mp hx
    rw [row_py]
    unfold PyData.depth
    rw [deep_ints]
    decide
theorem lt_nodup {L : List (List Int)} (h : L.Pairwise (· < ·)) : L.Nodup := h.imp fun {a b} hab e => by
  subst e
  exact List.lt_irrefl _ hab
theorem sorted_neg {one two : List Int} (hl : one.length = two.length) (s1 : Sg one) (s2 : Sg two) : sortD (((sumsL one two [[]]).map neg).map rowD) = (sumsL (neg two) (neg one) [[]]).map rowD := by
  have up : ∀ r s : List Int, (sumsL r s [[]]).Pairwise (· < ·) := fun r s => sums_up r s [[]] 0 (by simp) (by simp)
  refine sort_rows_of ?_ (up _ _)
  have nd : ((sumsL one two [[]]).map neg).Nodup := by
    have h := lt_nodup (up one two)
    rw [List.Nodup, List.pairwise_map]
    exact h.imp fun {a b} hab e => hab (by rw [← neg_neg a, e, neg_neg])
  refine (List.perm_ext_iff_of_nodup (lt_nodup (up _ _)) nd).mpr fun x => ?_
  rw [sums_iff, inS_neg hl s1 s2, ← sums_iff]
  constructor
  · exact fun h => List.mem_map.mpr ⟨neg x, h, neg_neg x⟩
  · intro h
    obtain ⟨y, hy, rfl⟩ := List.mem_map.mp h
    rw [neg_neg]; exact hy
theorem bi_sorted {G L : List (List Int)} {h : Hs} (hm : ∀ r ∈ G, r ≠ []) (e : sortD (G.map rowD) = L.map rowD) : bi1 .sorted (.tmp (.lst (G.map rowD))) h = .ok (.tmp (.lst (L.map rowD))) h := by
  have q : bi1 .sorted (.tmp (.lst (G.map rowD))) h = sortR (G.map rowD) h := rfl
  rw [q]
  unfold sortR
  rw [if_pos (sortOk_rows2 hm), e]
end EV
end

section
set_option Elab.async false
set_option linter.all false
set_option maxRecDepth 100000
namespace EV
open PySem
theorem m__law_two_right (k : Nat) (n : Int) (one two : List Int) (h : Hs) (hn : 1 ≤ n ∧ n ≤ 6) (l1 : (one.length : Int) = n) (l2 : (two.length : Int) = n) (s1 : Sg one) (s2 : Sg two) :
    callK lib (k + 5) i__law_two_right [.d (.int n), .d (rowD one), .d (rowD two)] h = .ok (.d (.bl true)) h := by
  rw [ck (T := lib) (fn := f__law_two_right) rfl rfl]
  have hl : one.length = two.length := by omega
  have h6 : one.length ≤ 6 := by omega
  have sz1 : (1 : Nat) ≤ sizeLine := by decide
  have p6 : ∀ r : List Int, r.length ≤ 6 → 3 ^ r.length ≤ 729 := fun r hr => Nat.pow_le_pow_right (n := 3) (by omega) hr
  have ln : ∀ r s : List Int, r.length ≤ 6 → (sumsL r s [[]]).length ≤ 1000 := fun r s hr => by
    have := sums_len r s [[]]
    have := p6 r hr
    simp only [List.length_cons, List.length_nil] at *
    omega
  have nsg : ∀ r : List Int, Sg r → Sg (neg r) := fun r hr x hx => by
    obtain ⟨y, hy, rfl⟩ := List.mem_map.mp hx
    have := hr y hy
    omega
  have nlen : ∀ r : List Int, (neg r).length = r.length := fun r => List.length_map _
  have mem : ∀ r s : List Int, r.length = s.length → r.length ≤ 6 → Sg r → Sg s → ∀ x ∈ sumsL r s [[]], Sg x ∧ x.length ≤ 6 := fun r s e1 e2 g1 g2 x hx => by
    have hx := sums_iff.mp hx
    exact ⟨inS_sg g1 g2 hx, by rw [inS_len e1 hx]; exact e2⟩
  have z0 : Sg (List.replicate n.toNat 0) := fun x hx => by rw [List.eq_of_mem_replicate hx]; decide
  have zl : (List.replicate n.toNat (0 : Int)).length = one.length := by simp; omega
  have c12 : sumsL two one [[]] = sumsL one two [[]] := (sums_comm one two [[]] hl s1 s2).symm
  have a1 := m__law_tried_sums (k + 1) one two h hl h6 s1 s2
  have a2 := m_sums (k + 2) one two h hl h6
  have a3 := m_sums (k + 2) two one h hl.symm (by omega)
  have a4 : callK lib (k + 4) i_turned [.d (rowD two)] h = .ok (.d (rowD (neg two))) h := m_turned (k + 3) h two (le_size (by omega))
  have a5 : callK lib (k + 4) i_turned [.d (rowD one)] h = .ok (.d (rowD (neg one))) h := m_turned (k + 3) h one (le_size (by omega))
  have a6 := m_sums (k + 2) (neg two) (neg one) h (by rw [nlen, nlen, hl]) (by rw [nlen]; omega)
  have a7 : ∀ r hh, r ∈ sumsL one two [[]] → callK lib (k + 4) i__law_turned [.d (rowD r)] hh = .ok (.d (rowD (neg r))) hh := fun r hh hr => m__law_turned (k + 3) hh r (le_size (by have := (mem one two hl h6 s1 s2 r hr).2; omega))
  have a8 := m_level k h n hn.1 hn.2
  have a9 : callK lib (k + 4) i__law_turned [.d (rowD one)] h = .ok (.d (rowD (neg one))) h := m__law_turned (k + 3) h one (le_size (by omega))
  have b1 := m_sums (k + 2) one one h rfl h6
  have b2 := m_sums (k + 2) two (List.replicate n.toNat 0) h (by rw [zl, hl]) (by omega)
  have e1 : sumsL one one [[]] = [one] := sums_self one []
  have e2 : sumsL two (List.replicate n.toNat 0) [[]] = [two] := by
    have : n.toNat = two.length := by omega
    rw [this]; exact sums_zero two []
  rw [c12] at a3
  rw [e1] at b1
  rw [e2] at b2
  have sh1 : ∀ hh, showU (.d (rowsD (sumsL one two [[]]))) hh = _ := fun hh => show_rows (h := hh) (mem one two hl h6 s1 s2) (ln _ _ h6)
  have sh2 : ∀ hh, showU (.d (rowsD (sumsL (neg two) (neg one) [[]]))) hh = _ := fun hh => show_rows (h := hh) (mem (neg two) (neg one) (by rw [nlen, nlen, hl]) (by rw [nlen]; omega) (nsg _ s2) (nsg _ s1)) (ln _ _ (by rw [nlen]; omega))
  have sh3 : ∀ hh, showU (.d (rowsD [one])) hh = _ := fun hh => show_rows (h := hh) (F := [one]) (fun r hr => by rw [List.mem_singleton.mp hr]; exact ⟨s1, h6⟩) (by simp)
  have sh4 : ∀ hh, showU (.d (rowsD [two])) hh = _ := fun hh => show_rows (h := hh) (F := [two]) (fun r hr => by rw [List.mem_singleton.mp hr]; exact ⟨s2, by omega⟩) (by simp)
  have sh3 : ∀ hh, showU (.d (.tup [rowD one])) hh = some (.d (.str (PyData.tuple [.tuple (one.map .int)]).shown)) := sh3
  have sh4 : ∀ hh, showU (.d (.tup [rowD two])) hh = some (.d (.str (PyData.tuple [.tuple (two.map .int)]).shown)) := sh4
  have b1 : callK lib (k + 4) i_sums [.d (rowD one), .d (rowD one)] h = .ok (.d (.tup [rowD one])) h := b1
  have b2 : callK lib (k + 4) i_sums [.d (rowD two), .d (rowD (List.replicate n.toNat 0))] h = .ok (.d (.tup [rowD two])) h := b2
  have cm := comp_of (C := ⟨callK lib (k + 4), lib.gv⟩) (vs := [4]) (tg := [4]) (elt := .call i__law_turned [(.var 4)] []) (it := .var 3) (ifs := [])
    (ρ := [some (.d (.int n)), some (.d (rowD one)), some (.d (rowD two)), some (.d (rowsD (sumsL one two [[]]))), none]) (h := h) (l := sumsL one two [[]]) (e := rowD) (g := fun r => rowD (neg r)) (w := none)
    (by simp only [List.take_succ_cons, seqItr_tup, seqItr_tmp, seqItr_ro, items_tup, items_tmp, items_ro, callD, startR, List.map_cons, List.map_nil, List.length_cons, List.length_nil, Nat.sub_self, Nat.reduceSub, Nat.reduceAdd, List.replicate, List.append_nil, List.cons_append, List.nil_append, get0, getS, R.bind, R.on, RS.seq, truth_bl, nextO, stV, alloc, setVars, setTg, List.set_cons_zero, List.set_cons_succ, wipe, biU, bi1, bi2, perm, R.opt, fin_ret, fin_next, retU_d, retU_tmp, retU_ro, take_len, add_int, sub_int, bin_add, bin_mul, cmp_eq_int, cmp_ne_int, cmp_lt_int, cmp_le_int, cmp_gt_int, cmp_ge_int, cmp_eq_bl, cmp_ne_bl, negR, notR, onBl, onBlO, tupR, lstR, datas, Option.map_some, gvR, Lib.at, dv_var, dv_non, dv_bl, dv_int, dv_str, dv_gv, dv_bin, dv_neg, dv_cmp, dv_cmp2, dv_and, dv_or, dv_not, dv_ife, dv_tup, dv_lst, dv_idx, dv_slice, dv_call, dv_bi1, dv_bi2, dv_meth, dv_sdict, dt_and, dt_or, dt_not, dt_var, dt_bl, dt_cmp, dt_cmp2, dt_call, dt_bi, dt_idx, dt_bin, dt_ife, dq_var, dq_call, dq_bi, dq_idx, dq_bin, dq_ife, dq_int, dq_neg, dq_absent, di_var, di_call, di_bi, di_idx, di_bin, di_ife, di_lst, di_tup, di_slice, di_comp, di_rng1, di_rng2, di_enum, di_zip, ds_asg, ds_asgT, ds_par, ds_sub, ds_aug, ds_expr, ds_ret, ds_retN, ds_pass, ds_brk, ds_cont, ds_ife, dss_nil, dss_cons, dns_nil, dns_cons, evs_nil, evs_cons]) ok_none (le_size (by have := ln one two h6; omega)) (fun r hr => by simp only [List.take_succ_cons, seqItr_tup, seqItr_tmp, seqItr_ro, items_tup, items_tmp, items_ro, callD, startR, List.map_cons, List.map_nil, List.length_cons, List.length_nil, Nat.sub_self, Nat.reduceSub, Nat.reduceAdd, List.replicate, List.append_nil, List.cons_append, List.nil_append, get0, getS, R.bind, R.on, RS.seq, truth_bl, nextO, stV, alloc, setVars, setTg, List.set_cons_zero, List.set_cons_succ, wipe, biU, bi1, bi2, perm, R.opt, fin_ret, fin_next, retU_d, retU_tmp, retU_ro, take_len, add_int, sub_int, bin_add, bin_mul, cmp_eq_int, cmp_ne_int, cmp_lt_int, cmp_le_int, cmp_gt_int, cmp_ge_int, cmp_eq_bl, cmp_ne_bl, negR, notR, onBl, onBlO, tupR, lstR, datas, Option.map_some, gvR, Lib.at, dv_var, dv_non, dv_bl, dv_int, dv_str, dv_gv, dv_bin, dv_neg, dv_cmp, dv_cmp2, dv_and, dv_or, dv_not, dv_ife, dv_tup, dv_lst, dv_idx, dv_slice, dv_call, dv_bi1, dv_bi2, dv_meth, dv_sdict, dt_and, dt_or, dt_not, dt_var, dt_bl, dt_cmp, dt_cmp2, dt_call, dt_bi, dt_idx, dt_bin, dt_ife, dq_var, dq_call, dq_bi, dq_idx, dq_bin, dq_ife, dq_int, dq_neg, dq_absent, di_var, di_call, di_bi, di_idx, di_bin, di_ife, di_lst, di_tup, di_slice, di_comp, di_rng1, di_rng2, di_enum, di_zip, ds_asg, ds_asgT, ds_par, ds_sub, ds_aug, ds_expr, ds_ret, ds_retN, ds_pass, ds_brk, ds_cont, ds_ife, dss_nil, dss_cons, dns_nil, dns_cons, evs_nil, evs_cons, turnR, testsR, dataR, if_true, a7 r _ hr])
  have mm : (sumsL one two [[]]).map (fun r => rowD (neg r)) = ((sumsL one two [[]]).map neg).map rowD := by rw [List.map_map]; rfl
  rw [mm] at cm
  have so : ∀ hh, bi1 .sorted (.tmp (.lst (((sumsL one two [[]]).map neg).map rowD))) hh = .ok (.tmp (.lst ((sumsL (neg two) (neg one) [[]]).map rowD))) hh := fun hh => bi_sorted (fun r hr => by
    obtain ⟨x, hx, rfl⟩ := List.mem_map.mp hr
    exact ne_of_len (n := one.length) (by rw [nlen]; exact inS_len hl (sums_iff.mp hx)) (by omega)) (sorted_neg hl s1 s2)
  have so2 : ∀ hh, sortR (((sumsL one two [[]]).map neg).map rowD) hh = .ok (.tmp (.lst ((sumsL (neg two) (neg one) [[]]).map rowD))) hh := so
  have ie : ∀ xs hh, itemsE (.tmp (.lst xs)) hh = some xs := fun _ _ => rfl
  have lv : decide (List.replicate n.toNat 0 ∈ sumsL one two [[]]) = decide (two = neg one) := by
    have q := inS_level hl s1 s2
    have : one.length = n.toNat := by omega
    rw [this] at q
    have q2 : List.replicate n.toNat 0 ∈ sumsL one two [[]] ↔ two = neg one := sums_iff.trans q
    simp only [q2]
  have d1 : dSs ⟨callK lib (k + 4), lib.gv⟩ s__law_two_right [some (.d (.int n)), some (.d (rowD one)), some (.d (rowD two)), none, none] h = .ok (.ret (.d (.bl true))) [some (.d (.int n)), some (.d (rowD one)), some (.d (rowD two)), some (.d (rowsD (sumsL one two [[]]))), none] h := by
    simp only [List.take_succ_cons, seqItr_tup, seqItr_tmp, seqItr_ro, items_tup, items_tmp, items_ro, callD, startR, List.map_cons, List.map_nil, List.length_cons, List.length_nil, Nat.sub_self, Nat.reduceSub, Nat.reduceAdd, List.replicate, List.append_nil, List.cons_append, List.nil_append, get0, getS, R.bind, R.on, RS.seq, truth_bl, nextO, stV, alloc, setVars, setTg, List.set_cons_zero, List.set_cons_succ, wipe, biU, bi1, bi2, perm, R.opt, fin_ret, fin_next, retU_d, retU_tmp, retU_ro, take_len, add_int, sub_int, bin_add, bin_mul, cmp_eq_int, cmp_ne_int, cmp_lt_int, cmp_le_int, cmp_gt_int, cmp_ge_int, cmp_eq_bl, cmp_ne_bl, negR, notR, onBl, onBlO, tupR, lstR, datas, Option.map_some, gvR, Lib.at, dv_var, dv_non, dv_bl, dv_int, dv_str, dv_gv, dv_bin, dv_neg, dv_cmp, dv_cmp2, dv_and, dv_or, dv_not, dv_ife, dv_tup, dv_lst, dv_idx, dv_slice, dv_call, dv_bi1, dv_bi2, dv_meth, dv_sdict, dt_and, dt_or, dt_not, dt_var, dt_bl, dt_cmp, dt_cmp2, dt_call, dt_bi, dt_idx, dt_bin, dt_ife, dq_var, dq_call, dq_bi, dq_idx, dq_bin, dq_ife, dq_int, dq_neg, dq_absent, di_var, di_call, di_bi, di_idx, di_bin, di_ife, di_lst, di_tup, di_slice, di_comp, di_rng1, di_rng2, di_enum, di_zip, ds_asg, ds_asgT, ds_par, ds_sub, ds_aug, ds_expr, ds_ret, ds_retN, ds_pass, ds_brk, ds_cont, ds_ife, dss_nil, dss_cons, dns_nil, dns_cons, evs_nil, evs_cons, s__law_two_right, a1, a2, a3, a4, a5, a6, a8, a9, b1, b2, sh1, sh2, sh3, sh4, cm, so2, ie, cmp_ne_str, cmp_eq_str, cmp_in_rows, cmp_eq_row, lv, decide_true, Bool.not_true, Bool.false_eq_true, if_false, if_true, sz1]
  simp only [List.take_succ_cons, seqItr_tup, seqItr_tmp, seqItr_ro, items_tup, items_tmp, items_ro, callD, startR, List.map_cons, List.map_nil, List.length_cons, List.length_nil, Nat.sub_self, Nat.reduceSub, Nat.reduceAdd, List.replicate, List.append_nil, List.cons_append, List.nil_append, get0, getS, R.bind, R.on, RS.seq, truth_bl, nextO, stV, alloc, setVars, setTg, List.set_cons_zero, List.set_cons_succ, wipe, biU, bi1, bi2, perm, R.opt, fin_ret, fin_next, retU_d, retU_tmp, retU_ro, take_len, add_int, sub_int, bin_add, bin_mul, cmp_eq_int, cmp_ne_int, cmp_lt_int, cmp_le_int, cmp_gt_int, cmp_ge_int, cmp_eq_bl, cmp_ne_bl, negR, notR, onBl, onBlO, tupR, lstR, datas, Option.map_some, gvR, Lib.at, dv_var, dv_non, dv_bl, dv_int, dv_str, dv_gv, dv_bin, dv_neg, dv_cmp, dv_cmp2, dv_and, dv_or, dv_not, dv_ife, dv_tup, dv_lst, dv_idx, dv_slice, dv_call, dv_bi1, dv_bi2, dv_meth, dv_sdict, dt_and, dt_or, dt_not, dt_var, dt_bl, dt_cmp, dt_cmp2, dt_call, dt_bi, dt_idx, dt_bin, dt_ife, dq_var, dq_call, dq_bi, dq_idx, dq_bin, dq_ife, dq_int, dq_neg, dq_absent, di_var, di_call, di_bi, di_idx, di_bin, di_ife, di_lst, di_tup, di_slice, di_comp, di_rng1, di_rng2, di_enum, di_zip, ds_asg, ds_asgT, ds_par, ds_sub, ds_aug, ds_expr, ds_ret, ds_retN, ds_pass, ds_brk, ds_cont, ds_ife, dss_nil, dss_cons, dns_nil, dns_cons, evs_nil, evs_cons, f__law_two_right, d1]
end EV
end

section
set_option Elab.async false
set_option linter.all false
set_option maxRecDepth 100000
namespace EV
open PySem
theorem rng3 {h : Hs} : rng1Itr [.d (.int 3)] h = .ok ⟨[.int 0, .int 1, .int 2], none⟩ h := rng1_of (i := 3) (by omega) (by omega)
theorem take_sg {r : List Int} {i : Nat} (h : Sg r) : Sg (r.take i) := fun x hx => h x (List.mem_of_mem_take hx)
theorem m_law (ns : List Int) (k : Nat) : ∃ h', callK lib (k + 6) i_law [.ro (ns.map .int)] [] = .ok (.d (.bl true)) h' := by
  rw [ck (T := lib) (fn := f_law) rfl rfl]
  obtain ⟨a, b, e0, hb⟩ := m__law_pool (k + 4) ns []
  have sz9 : (9 : Nat) ≤ sizeLine := by decide
  obtain ⟨n, a1, b1, e1, hn, hb1⟩ := m__law_one (k + 3) a b [.lst ([1, 2, 2, 3, 3, 4, 4, 5, 6].map .int)] 1 [1, 2, 2, 3, 3, 4, 4, 5, 6] rfl (by decide) (by decide) (by decide) hb
  have hn16 : 1 ≤ n ∧ n ≤ 6 := by
    simp only [List.mem_cons, List.not_mem_nil, or_false] at hn
    omega
  simp only [List.map_cons, List.map_nil] at e1
  generalize ht : [MO.lst [.int 1, .int 2, .int 2, .int 3, .int 3, .int 4, .int 4, .int 5, .int 6]] = t at e1
  obtain ⟨ρ', h', ef, q⟩ := for_inv (C := ⟨callK lib (k + 5), lib.gv⟩) (tg := [3]) (wp := [3, 4, 5, 6, 7, 8, 9]) (it := .rng1 (.int 3))
    (body := [(.asg 4 (.call i__law_any_row [(.var 1), (.var 2)] [])),
    (.asg 5 (.call i__law_other_row [(.var 1), (.var 2), (.var 4)] [])),
    (.asg 6 (.call i__law_other_row [(.var 1), (.var 2), (.var 4)] [])),
    (.ife (.or (.not (.call i__law_two_right [(.var 2), (.var 4), (.var 5)] [])) (.not (.call i__law_two_right [(.var 2), (.var 5), (.var 6)] []))) [(.ret (.bl false))]
    []),
    (.ife (.not (.call i__law_three_right [(.slice (.var 4) .absent (.int 3)), (.slice (.var 5) .absent (.int 3)), (.slice (.var 6) .absent (.int 3))] [])) [(.ret (.bl false))]
    []),
    (.asg 7 (.call i__law_any_motion [(.var 1), (.var 2)] [])),
    (.asg 8 (.call i__law_near_motion [(.var 1), (.var 7)] [])),
    (.asg 9 (.ife (.cmp .eq (.call i__law_take [(.var 1), (.int 2)] []) (.int 0)) (.call i__law_any_motion [(.var 1), (.var 2)] []) (.call i__law_near_motion [(.var 1), (.var 8)] []))),
    (.ife (.or (.not (.call i__law_tale_right [(.var 7), (.var 8), (.var 9)] [])) (.not (.call i__law_tale_right [(.var 9), (.var 7), (.var 8)] []))) [(.ret (.bl false))]
    [])])
    (ρ := [some (.ro (ns.map .int)), some (.obj 0), some (.d (.int n)), none, none, none, none, none, none, none]) (h := jarM a1 b1 :: t) (h1 := jarM a1 b1 :: t) (w := none) (xs := [.int 0, .int 1, .int 2])
    (fun rem ρ hh => ∃ a b : Int, JOk b ∧ ρ = [some (.ro (ns.map .int)), some (.obj 0), some (.d (.int n)), none, none, none, none, none, none, none] ∧ hh = jarM a b :: t)
    (by simp only [List.take_succ_cons, seqItr_tup, seqItr_tmp, seqItr_ro, items_tup, items_tmp, items_ro, callD, startR, List.map_cons, List.map_nil, List.length_cons, List.length_nil, Nat.sub_self, Nat.reduceSub, Nat.reduceAdd, List.replicate, List.append_nil, List.cons_append, List.nil_append, get0, getS, R.bind, R.on, RS.seq, truth_bl, nextO, stV, alloc, setVars, setTg, List.set_cons_zero, List.set_cons_succ, wipe, biU, bi1, bi2, perm, R.opt, fin_ret, fin_next, retU_d, retU_tmp, retU_ro, take_len, add_int, sub_int, bin_add, bin_mul, cmp_eq_int, cmp_ne_int, cmp_lt_int, cmp_le_int, cmp_gt_int, cmp_ge_int, cmp_eq_bl, cmp_ne_bl, negR, notR, onBl, onBlO, tupR, lstR, datas, Option.map_some, gvR, Lib.at, dv_var, dv_non, dv_bl, dv_int, dv_str, dv_gv, dv_bin, dv_neg, dv_cmp, dv_cmp2, dv_and, dv_or, dv_not, dv_ife, dv_tup, dv_lst, dv_idx, dv_slice, dv_call, dv_bi1, dv_bi2, dv_meth, dv_sdict, dt_and, dt_or, dt_not, dt_var, dt_bl, dt_cmp, dt_cmp2, dt_call, dt_bi, dt_idx, dt_bin, dt_ife, dq_var, dq_call, dq_bi, dq_idx, dq_bin, dq_ife, dq_int, dq_neg, dq_absent, di_var, di_call, di_bi, di_idx, di_bin, di_ife, di_lst, di_tup, di_slice, di_comp, di_rng1, di_rng2, di_enum, di_zip, ds_asg, ds_asgT, ds_par, ds_sub, ds_aug, ds_expr, ds_ret, ds_retN, ds_pass, ds_brk, ds_cont, ds_ife, dss_nil, dss_cons, dns_nil, dns_cons, evs_nil, evs_cons, rng3]) ⟨a1, b1, hb1, by simp only [List.take_succ_cons, seqItr_tup, seqItr_tmp, seqItr_ro, items_tup, items_tmp, items_ro, callD, startR, List.map_cons, List.map_nil, List.length_cons, List.length_nil, Nat.sub_self, Nat.reduceSub, Nat.reduceAdd, List.replicate, List.append_nil, List.cons_append, List.nil_append, get0, getS, R.bind, R.on, RS.seq, truth_bl, nextO, stV, alloc, setVars, setTg, List.set_cons_zero, List.set_cons_succ, wipe, biU, bi1, bi2, perm, R.opt, fin_ret, fin_next, retU_d, retU_tmp, retU_ro, take_len, add_int, sub_int, bin_add, bin_mul, cmp_eq_int, cmp_ne_int, cmp_lt_int, cmp_le_int, cmp_gt_int, cmp_ge_int, cmp_eq_bl, cmp_ne_bl, negR, notR, onBl, onBlO, tupR, lstR, datas, Option.map_some, gvR, Lib.at, dv_var, dv_non, dv_bl, dv_int, dv_str, dv_gv, dv_bin, dv_neg, dv_cmp, dv_cmp2, dv_and, dv_or, dv_not, dv_ife, dv_tup, dv_lst, dv_idx, dv_slice, dv_call, dv_bi1, dv_bi2, dv_meth, dv_sdict, dt_and, dt_or, dt_not, dt_var, dt_bl, dt_cmp, dt_cmp2, dt_call, dt_bi, dt_idx, dt_bin, dt_ife, dq_var, dq_call, dq_bi, dq_idx, dq_bin, dq_ife, dq_int, dq_neg, dq_absent, di_var, di_call, di_bi, di_idx, di_bin, di_ife, di_lst, di_tup, di_slice, di_comp, di_rng1, di_rng2, di_enum, di_zip, ds_asg, ds_asgT, ds_par, ds_sub, ds_aug, ds_expr, ds_ret, ds_retN, ds_pass, ds_brk, ds_cont, ds_ife, dss_nil, dss_cons, dns_nil, dns_cons, evs_nil, evs_cons], rfl⟩
    (fun x xs ρ hh ⟨a, b, hb, eρ, eh⟩ => by
      subst eρ eh
      obtain ⟨r1, a1, b1, e1, l1, s1, hb1⟩ := m__law_any_row (k + 3) a b n t hb ⟨by omega, by omega⟩
      obtain ⟨r2, a2, b2, e2, l2, s2, hb2⟩ := m__law_other_row (k + 2) a1 b1 n r1 t hb1 hn16 l1 s1
      obtain ⟨r3, a3, b3, e3, l3, s3, hb3⟩ := m__law_other_row (k + 2) a2 b2 n r1 t hb2 hn16 l1 s1
      have t1 := m__law_two_right k n r1 r2 (jarM a3 b3 :: t) hn16 l1 l2 s1 s2
      have t2 := m__law_two_right k n r2 r3 (jarM a3 b3 :: t) hn16 l2 l3 s2 s3
      have t3 := m__law_three_right (k + 1) (r1.take 3) (r2.take 3) (r3.take 3) (jarM a3 b3 :: t) (by simp; omega) (by simp; omega) (by simp; omega) (take_sg s1) (take_sg s2) (take_sg s3)
      have sl : ∀ r : List Int, sliceU (.d (rowD r)) none (some 3) (jarM a3 b3 :: t) = some (.d (rowD (r.take 3))) := fun r => slice_to (i := 3) (by omega)
      obtain ⟨m1, a4, b4, e4, l4, s4, hb4⟩ := m__law_any_motion (k + 2) a3 b3 n t hb3 ⟨by omega, by omega⟩
      obtain ⟨m2, a5, b5, e5, l5, s5, hb5⟩ := m__law_near_motion (k + 2) a4 b4 (10 ^ 12) m1 t hb4 ⟨by omega, by omega⟩ s4
      obtain ⟨v, a6, b6, e6, v6, hb6⟩ := m__law_take (k + 4) a5 b5 2 t hb5 (by omega)
      obtain ⟨m3, a7, b7, e7, l7, s7, hb7⟩ : ∃ (m3 : List Int) (a7 b7 : Int), (if decide (v = 0) = true then callK lib (k + 5) i__law_any_motion [.obj 0, .d (.int n)] (jarM a6 b6 :: t) else callK lib (k + 5) i__law_near_motion [.obj 0, .d (rowD m2)] (jarM a6 b6 :: t)) = .ok (.d (rowD m3)) (jarM a7 b7 :: t) ∧ (m3.length : Int) = n ∧ (∀ x ∈ m3, -(10 ^ 12 + 8) ≤ x ∧ x ≤ 10 ^ 12 + 8) ∧ JOk b7 := by
        by_cases hv : v = 0
        · obtain ⟨m3, a7, b7, e7, l7, s7, hb7⟩ := m__law_any_motion (k + 2) a6 b6 n t hb6 ⟨by omega, by omega⟩
          refine ⟨m3, a7, b7, ?_, l7, fun x hx => by have := s7 x hx; omega, hb7⟩
          rw [if_pos (decide_eq_true hv)]; exact e7
        · obtain ⟨m3, a7, b7, e7, l7, s7, hb7⟩ := m__law_near_motion (k + 2) a6 b6 (10 ^ 12 + 4) m2 t hb6 ⟨by omega, by omega⟩ s5
          refine ⟨m3, a7, b7, ?_, by omega, fun x hx => by have := s7 x hx; omega, hb7⟩
          rw [if_neg (by simpa using hv)]; exact e7
      have u1 := m__law_tale_right (k + 2) m1 m2 m3 (jarM a7 b7 :: t) (by omega) (by omega) (by omega) (fun x hx => by have := s4 x hx; omega) (fun x hx => by have := s7 x hx; omega)
      have u2 := m__law_tale_right (k + 2) m3 m1 m2 (jarM a7 b7 :: t) (by omega) (by omega) (by omega) (fun x hx => by have := s7 x hx; omega) (fun x hx => by have := s5 x hx; omega)
      refine ⟨ok_none, [some (.ro (ns.map .int)), some (.obj 0), some (.d (.int n)), some (.d x), none, none, none, none, none, none], by simp only [List.take_succ_cons, seqItr_tup, seqItr_tmp, seqItr_ro, items_tup, items_tmp, items_ro, callD, startR, List.map_cons, List.map_nil, List.length_cons, List.length_nil, Nat.sub_self, Nat.reduceSub, Nat.reduceAdd, List.replicate, List.append_nil, List.cons_append, List.nil_append, get0, getS, R.bind, R.on, RS.seq, truth_bl, nextO, stV, alloc, setVars, setTg, List.set_cons_zero, List.set_cons_succ, wipe, biU, bi1, bi2, perm, R.opt, fin_ret, fin_next, retU_d, retU_tmp, retU_ro, take_len, add_int, sub_int, bin_add, bin_mul, cmp_eq_int, cmp_ne_int, cmp_lt_int, cmp_le_int, cmp_gt_int, cmp_ge_int, cmp_eq_bl, cmp_ne_bl, negR, notR, onBl, onBlO, tupR, lstR, datas, Option.map_some, gvR, Lib.at, dv_var, dv_non, dv_bl, dv_int, dv_str, dv_gv, dv_bin, dv_neg, dv_cmp, dv_cmp2, dv_and, dv_or, dv_not, dv_ife, dv_tup, dv_lst, dv_idx, dv_slice, dv_call, dv_bi1, dv_bi2, dv_meth, dv_sdict, dt_and, dt_or, dt_not, dt_var, dt_bl, dt_cmp, dt_cmp2, dt_call, dt_bi, dt_idx, dt_bin, dt_ife, dq_var, dq_call, dq_bi, dq_idx, dq_bin, dq_ife, dq_int, dq_neg, dq_absent, di_var, di_call, di_bi, di_idx, di_bin, di_ife, di_lst, di_tup, di_slice, di_comp, di_rng1, di_rng2, di_enum, di_zip, ds_asg, ds_asgT, ds_par, ds_sub, ds_aug, ds_expr, ds_ret, ds_retN, ds_pass, ds_brk, ds_cont, ds_ife, dss_nil, dss_cons, dns_nil, dns_cons, evs_nil, evs_cons],
        [some (.ro (ns.map .int)), some (.obj 0), some (.d (.int n)), some (.d x), some (.d (rowD r1)), some (.d (rowD r2)), some (.d (rowD r3)), some (.d (rowD m1)), some (.d (rowD m2)), some (.d (rowD m3))], jarM a7 b7 :: t, .inl ?_, a7, b7, hb7, by simp only [List.take_succ_cons, seqItr_tup, seqItr_tmp, seqItr_ro, items_tup, items_tmp, items_ro, callD, startR, List.map_cons, List.map_nil, List.length_cons, List.length_nil, Nat.sub_self, Nat.reduceSub, Nat.reduceAdd, List.replicate, List.append_nil, List.cons_append, List.nil_append, get0, getS, R.bind, R.on, RS.seq, truth_bl, nextO, stV, alloc, setVars, setTg, List.set_cons_zero, List.set_cons_succ, wipe, biU, bi1, bi2, perm, R.opt, fin_ret, fin_next, retU_d, retU_tmp, retU_ro, take_len, add_int, sub_int, bin_add, bin_mul, cmp_eq_int, cmp_ne_int, cmp_lt_int, cmp_le_int, cmp_gt_int, cmp_ge_int, cmp_eq_bl, cmp_ne_bl, negR, notR, onBl, onBlO, tupR, lstR, datas, Option.map_some, gvR, Lib.at, dv_var, dv_non, dv_bl, dv_int, dv_str, dv_gv, dv_bin, dv_neg, dv_cmp, dv_cmp2, dv_and, dv_or, dv_not, dv_ife, dv_tup, dv_lst, dv_idx, dv_slice, dv_call, dv_bi1, dv_bi2, dv_meth, dv_sdict, dt_and, dt_or, dt_not, dt_var, dt_bl, dt_cmp, dt_cmp2, dt_call, dt_bi, dt_idx, dt_bin, dt_ife, dq_var, dq_call, dq_bi, dq_idx, dq_bin, dq_ife, dq_int, dq_neg, dq_absent, di_var, di_call, di_bi, di_idx, di_bin, di_ife, di_lst, di_tup, di_slice, di_comp, di_rng1, di_rng2, di_enum, di_zip, ds_asg, ds_asgT, ds_par, ds_sub, ds_aug, ds_expr, ds_ret, ds_retN, ds_pass, ds_brk, ds_cont, ds_ife, dss_nil, dss_cons, dns_nil, dns_cons, evs_nil, evs_cons], rfl⟩
      simp only [List.take_succ_cons, seqItr_tup, seqItr_tmp, seqItr_ro, items_tup, items_tmp, items_ro, callD, startR, List.map_cons, List.map_nil, List.length_cons, List.length_nil, Nat.sub_self, Nat.reduceSub, Nat.reduceAdd, List.replicate, List.append_nil, List.cons_append, List.nil_append, get0, getS, R.bind, R.on, RS.seq, truth_bl, nextO, stV, alloc, setVars, setTg, List.set_cons_zero, List.set_cons_succ, wipe, biU, bi1, bi2, perm, R.opt, fin_ret, fin_next, retU_d, retU_tmp, retU_ro, take_len, add_int, sub_int, bin_add, bin_mul, cmp_eq_int, cmp_ne_int, cmp_lt_int, cmp_le_int, cmp_gt_int, cmp_ge_int, cmp_eq_bl, cmp_ne_bl, negR, notR, onBl, onBlO, tupR, lstR, datas, Option.map_some, gvR, Lib.at, dv_var, dv_non, dv_bl, dv_int, dv_str, dv_gv, dv_bin, dv_neg, dv_cmp, dv_cmp2, dv_and, dv_or, dv_not, dv_ife, dv_tup, dv_lst, dv_idx, dv_slice, dv_call, dv_bi1, dv_bi2, dv_meth, dv_sdict, dt_and, dt_or, dt_not, dt_var, dt_bl, dt_cmp, dt_cmp2, dt_call, dt_bi, dt_idx, dt_bin, dt_ife, dq_var, dq_call, dq_bi, dq_idx, dq_bin, dq_ife, dq_int, dq_neg, dq_absent, di_var, di_call, di_bi, di_idx, di_bin, di_ife, di_lst, di_tup, di_slice, di_comp, di_rng1, di_rng2, di_enum, di_zip, ds_asg, ds_asgT, ds_par, ds_sub, ds_aug, ds_expr, ds_ret, ds_retN, ds_pass, ds_brk, ds_cont, ds_ife, dss_nil, dss_cons, dns_nil, dns_cons, evs_nil, evs_cons, partR, e1, e2, e3, t1, t2, t3, sl, e4, e5, e6, e7, u1, u2, Bool.not_true, Bool.false_eq_true, if_false])
    (fun ρ h _ => ok_none)
  obtain ⟨a9, b9, hb9, rfl, rfl⟩ := q
  refine ⟨(jarM a9 b9 :: t).take 0, ?_⟩
  simp only [List.take_succ_cons, seqItr_tup, seqItr_tmp, seqItr_ro, items_tup, items_tmp, items_ro, callD, startR, List.map_cons, List.map_nil, List.length_cons, List.length_nil, Nat.sub_self, Nat.reduceSub, Nat.reduceAdd, List.replicate, List.append_nil, List.cons_append, List.nil_append, get0, getS, R.bind, R.on, RS.seq, truth_bl, nextO, stV, alloc, setVars, setTg, List.set_cons_zero, List.set_cons_succ, wipe, biU, bi1, bi2, perm, R.opt, fin_ret, fin_next, retU_d, retU_tmp, retU_ro, take_len, add_int, sub_int, bin_add, bin_mul, cmp_eq_int, cmp_ne_int, cmp_lt_int, cmp_le_int, cmp_gt_int, cmp_ge_int, cmp_eq_bl, cmp_ne_bl, negR, notR, onBl, onBlO, tupR, lstR, datas, Option.map_some, gvR, Lib.at, dv_var, dv_non, dv_bl, dv_int, dv_str, dv_gv, dv_bin, dv_neg, dv_cmp, dv_cmp2, dv_and, dv_or, dv_not, dv_ife, dv_tup, dv_lst, dv_idx, dv_slice, dv_call, dv_bi1, dv_bi2, dv_meth, dv_sdict, dt_and, dt_or, dt_not, dt_var, dt_bl, dt_cmp, dt_cmp2, dt_call, dt_bi, dt_idx, dt_bin, dt_ife, dq_var, dq_call, dq_bi, dq_idx, dq_bin, dq_ife, dq_int, dq_neg, dq_absent, di_var, di_call, di_bi, di_idx, di_bin, di_ife, di_lst, di_tup, di_slice, di_comp, di_rng1, di_rng2, di_enum, di_zip, ds_asg, ds_asgT, ds_par, ds_sub, ds_aug, ds_expr, ds_ret, ds_retN, ds_pass, ds_brk, ds_cont, ds_ife, dss_nil, dss_cons, dns_nil, dns_cons, evs_nil, evs_cons, f_law, s_law, e0, sz9, if_true]
  simp only [ht, e1]
  rw [ef]
  simp only [List.take_succ_cons, seqItr_tup, seqItr_tmp, seqItr_ro, items_tup, items_tmp, items_ro, callD, startR, List.map_cons, List.map_nil, List.length_cons, List.length_nil, Nat.sub_self, Nat.reduceSub, Nat.reduceAdd, List.replicate, List.append_nil, List.cons_append, List.nil_append, get0, getS, R.bind, R.on, RS.seq, truth_bl, nextO, stV, alloc, setVars, setTg, List.set_cons_zero, List.set_cons_succ, wipe, biU, bi1, bi2, perm, R.opt, fin_ret, fin_next, retU_d, retU_tmp, retU_ro, take_len, add_int, sub_int, bin_add, bin_mul, cmp_eq_int, cmp_ne_int, cmp_lt_int, cmp_le_int, cmp_gt_int, cmp_ge_int, cmp_eq_bl, cmp_ne_bl, negR, notR, onBl, onBlO, tupR, lstR, datas, Option.map_some, gvR, Lib.at, dv_var, dv_non, dv_bl, dv_int, dv_str, dv_gv, dv_bin, dv_neg, dv_cmp, dv_cmp2, dv_and, dv_or, dv_not, dv_ife, dv_tup, dv_lst, dv_idx, dv_slice, dv_call, dv_bi1, dv_bi2, dv_meth, dv_sdict, dt_and, dt_or, dt_not, dt_var, dt_bl, dt_cmp, dt_cmp2, dt_call, dt_bi, dt_idx, dt_bin, dt_ife, dq_var, dq_call, dq_bi, dq_idx, dq_bin, dq_ife, dq_int, dq_neg, dq_absent, di_var, di_call, di_bi, di_idx, di_bin, di_ife, di_lst, di_tup, di_slice, di_comp, di_rng1, di_rng2, di_enum, di_zip, ds_asg, ds_asgT, ds_par, ds_sub, ds_aug, ds_expr, ds_ret, ds_retN, ds_pass, ds_brk, ds_cont, ds_ife, dss_nil, dss_cons, dns_nil, dns_cons, evs_nil, evs_cons]
end EV
end

section
open PySem PySem.W PyProof.Rows
set_option Elab.async false
set_option maxRecDepth 100000 in
set_option maxHeartbeats 0 in
theorem PySem.Challenge.cw_roundorlist_k01_sums_of_rows_beside_trie_holds : PySem.Challenge.rw_roundorlist_k01_sums_of_rows_beside_trie.Holds := by
  w_on
  o_law
  refine HandSHeadRun.head_any (r := EV.rowO) (q := view EV.rowO.prog [34]) (H := EV.hkD) (ob := EV.obD) (M := 4000) (loose := EV.looseD)
    (d := HandSHeadRun.topDef EV.rowO.prog 34) (kwd := []) EV.obD_eq (by kernel_rfl) (fun s => by kernel_rfl) EV.runD (by kernel_rfl) (by kernel_rfl) (by kernel_rfl) (by rfl)
    (by first | assumption | decide +kernel) (by decide +kernel) ⟨rfl, rfl, rfl, rfl, rfl, by decide +kernel⟩ ?hw ?hc
  case hw => w_witness2
  case hc =>
    exact EV.law_walk (l := PySem.Challenge.rw_roundorlist_k01_sums_of_rows_beside_trie) (n := 63) (k := 12) (x := "script") (j := 27) (T := EV.lib) (tab := EV.tab) (en := EV.e_law) (more := EV.more) (gvOk := EV.GvOk) rfl (by decide)
      (by kernel_rfl) ⟨rfl, by decide, by decide⟩ (fun mg gv => EV.all_ok gv) rfl (by kernel_rfl) rfl EV.gv_of (fun ns _ _ => EV.m_law ns 6)
end
