import PyProof.Rows.All
import Wide.All
import OpenK.AllK
import Wide.FinOn
import HandS.ForMost
import HandS.ForExc
import KE.GoesMore
import HandS.HeadHook1
import HandS.HeadHook2
import HandS.IsInst
import HandS.CallRecv
import HandS.HeadWalk
import HandS.HeadEnd
import HandS.Head0
import HandS.Head1
import HandS.Head2
import KE.DataEq
import PySem.Challenge.RW_leastpull_k05_whole_rows
set_option Elab.async false
set_option linter.all false
set_option maxRecDepth 100000
set_option maxHeartbeats 4000000
namespace Lp
open PySem PySem.Spec L2 PyProof.Rows
theorem meets_enumT (l : Addr) (its : Array Value) (n : Nat) (dc : Option Addr) (sl : Array (Option Value)) :
    Meets (Builtin.«enumerate.__new__» ⟨[.type "enumerate", .ref l], []⟩) (fun _ R s => s.heap.get? l = some { cls := .type "tuple", dict := dc, data := .seq its n, slots := sl } ∧
      R (.ok (.ret (.ref (s.heap.push { cls := .type "tuple_iterator", data := .fields #[.ref l, .int 0 0] }).objs.size)))
        { s with heap := (s.heap.push { cls := .type "tuple_iterator", data := .fields #[.ref l, .int 0 0] }).push { cls := .type "enumerate", data := .fields #[.none, .bool false, .ref s.heap.objs.size, rawInt 0, .none, .none] } }) :=
  .of_wp fun P w A R s z => by
    obtain ⟨hp, g, d, tk, os⟩ := s
    obtain ⟨hl, z⟩ := z
    have hsub := sub_enumerate
    have hT : Heap.IsTuple (Shared.heap ⟨hp, g, d, tk, os⟩) l its := ⟨_, hl, rfl, n, rfl⟩
    wp_walk using AutoSeq1.wpAny_loadPart' hl
    refine wpAny_stack_any fun st => wpAny_pure ?_
    split
    · rename_i c _ _ _ _ _
      cases (c == Value.type "enumerate")
      · wp_walk using AutoSeq1.wpAny_loadPart' hl, wpAny_pyIter_tuple hT
        exact ⟨_, rfl, z⟩
      · wp_walk using AutoSeq1.wpAny_loadPart' hl, wpAny_pyIter_tuple hT
        exact ⟨_, rfl, z⟩
    · wp_walk using AutoSeq1.wpAny_loadPart' hl, wpAny_pyIter_tuple hT
      exact ⟨_, rfl, z⟩
section
variable {P : Program} {w : World} {A : Around} {E : Value → Shared → Prop} {s : Shared}
theorem call_enumT {l : Addr} {its : Array Value} {Q : Value → Shared → Prop} (ht : s.heap.IsTuple l its)
    (h : ∀ h1, IsEnum h1 (s.heap.objs.size + 1) s.heap.objs.size 0 .none → h1.IsTupleIter s.heap.objs.size l 0 → h1.objs.size = s.heap.objs.size + 2 →
      (∀ b o, s.heap.get? b = some o → h1.get? b = some o) → Q (.ref (s.heap.objs.size + 1)) { s with heap := h1 }) : wpAny (model P w) A (call (.type "enumerate") [.ref l]) Q E s := by
  obtain ⟨⟨c, dc, dt, sl⟩, hl, hc, n, hd⟩ := ht
  have e1 : c = .type "tuple" := hc
  have e2 : dt = .seq its n := hd
  subst e1 e2
  refine callType_new F.called_enumerate (by decide) (F.typeCall_enumerate_1 _) (F.newCall_enumerate_1 _) (fun o => F.args_object_init_2 o _) F.entry_enumerate_new (meets_enumT l its n dc sl) ⟨hl, ?_⟩
  obtain ⟨h1, e⟩ : ∃ h1, s.heap.push { cls := .type "tuple_iterator", data := .fields #[.ref l, .int 0 0] } = h1 := ⟨_, rfl⟩
  have hz : h1.objs.size = s.heap.objs.size + 1 := by rw [← e]; exact Heap.size_push ..
  have hi : h1.get? s.heap.objs.size = some { cls := .type "tuple_iterator", data := .fields #[.ref l, .int 0 0] } := by rw [← e]; exact Heap.get?_push_size _ rfl
  have hk : ∀ b o, s.heap.get? b = some o → h1.get? b = some o := fun b o q => by rw [← e]; exact Heap.get?_push_of_some _ q
  rw [e]
  show _ ∧ _
  have he : IsEnum (h1.push { cls := .type "enumerate", data := .fields #[.none, .bool false, .ref s.heap.objs.size, rawInt 0, .none, .none] }) h1.objs.size s.heap.objs.size 0 .none := Heap.get?_push_size _ rfl
  rw [hz] at he ⊢
  refine ⟨⟨_, he, rfl⟩, h _ he ⟨_, Heap.get?_push_of_some _ hi, rfl, rfl⟩ (by rw [Heap.size_push, hz]) fun b o q => Heap.get?_push_of_some _ (hk b o q)⟩
end
def IteT (K : PySem.W.Frag) (a : Addr) : It :=
  ⟨fun i H => ∃ (xs : List V) (x : V), SqT K H a xs ∧ xs[i]? = some x, fun i H v H' => ∃ T x, v = .ref T ∧ H T = none ∧ H' = upd H T (.tup [.int (i : Nat), x]) ∧ ∀ xs, SqT K H a xs → xs[i]? = some x, fun i H => ∃ xs : List V, SqT K H a xs ∧ xs.length ≤ i⟩
theorem turn_enumT {P : Program} {w : World} {K : PySem.W.Frag} {elts : List Expr} {kk : Nat} {tpos : Pos} {a e it : Addr} {its : Array Value} (hea : e ≠ a) (hia : it ≠ a) (hne : e ≠ it) :
    Turn P w K (.Tuple elts kk tpos) (IteT K a) [e, it] e (fun i h => (∃ old, IsEnum h e it ((i : Nat) : Int) old) ∧ h.IsTupleIter it a i) where
  mem := by simp
  obj := fun i h st b hb => by
    obtain ⟨⟨old, he⟩, o, ho, hc, hd⟩ := st
    rcases List.mem_cons.mp hb with z | z
    · rw [z]; exact ⟨_, he, fun v q => nomatch q⟩
    · simp at z
      rw [z]; exact ⟨o, ho, fun v q => by rw [hd] at q; cases q⟩
  keep := fun i h h' st k => let ⟨⟨old, he⟩, hi⟩ := st; ⟨⟨old, k e (by simp) _ he⟩, hi.at fun o q => k it (by simp) o q⟩
  item := by
    intro X hP hw hK hc i pins s σ H E I hf st hg
    subst hP hw hK
    obtain ⟨⟨old, he⟩, hit⟩ := st
    obtain ⟨xs, x, hq, hx⟩ := hg
    obtain ⟨vs, rv, p, hz⟩ := I.tuple hq
    obtain ⟨u, hu, ru⟩ := rv.get hx
    have hel : e < s.heap.objs.size := Heap.lt_size he
    have hil : it < s.heap.objs.size := by obtain ⟨_, q, _⟩ := hit; exact Heap.lt_size q
    have hi : i < vs.toArray.size := by simpa using (List.getElem?_eq_some_iff.mp hu).1
    have D := Draws.tuple (prog := X.prog) (w := X.w) (A := X.A.in1) (I.ok.hd hc) it a (Ne.symm hia) vs.toArray
    refine wpAny_pyNext_enum_itemD D he ⟨hit, p⟩ hi hne (by simp [hne, hea]) fun y h1 tk hy ho hs1 hT hsz hk => ?_
    have hy : y = u := by
      have hy : vs[i]? = some y := by simpa using hy
      rw [hu] at hy
      exact (Option.some.inj hy).symm
    subst hy
    refine ⟨_, rfl, wpAny_letOwnedTupleGo_enum (s := { s with heap := h1, toks := tk + 1 }) ho fun h2 he' sb => ?_⟩
    have hT2 : h2.get? s.heap.objs.size = some { cls := .type "tuple", data := .seq #[.int i tk, y] } := (sb.2 _ (Nat.ne_of_gt hel)).trans hT
    have new : ObjOk X.prog X.w (upd H s.heap.objs.size (.tup [.int (i : Nat), x])) h2 s.heap.objs.size (.tup [.int (i : Nat), x]) :=
      ⟨by show 2 ≤ sizeLine; decide, [.int i tk, y], .cons ⟨_, rfl⟩ (.cons ru .nil), ⟨_, hT2, rfl, _, rfl⟩⟩
    have I1 : Inv X pins σ (upd H s.heap.objs.size (.tup [.int (i : Nat), x])) { s with heap := h2, toks := tk + 1 } :=
      I.turnedNew (ch := [e, it]) (fun b ob hb q => (sb.2 b (fun z => hb (by simp [z]))).trans (hk b ob (fun z => hb (by simp [z])) (fun z => hb (by simp [z])) q)) hf (Nat.le_refl _) new
    refine ⟨.ref s.heap.objs.size, _, I1, rfl, ⟨_, x, rfl, I.hok.fresh (Nat.le_refl _), rfl, fun ys q => by rw [I.tuple_inj q hq]; exact hx⟩, ⟨⟨y, ?_⟩, hs1.1.at fun o q => (sb.2 it (Ne.symm hne)).trans q⟩, fun b hb => ?_⟩
    · have e1 : ((i + 1 : Nat) : Int) = (i : Int) + 1 := by omega
      rw [e1]
      exact he'
    · have hlt : b < s.heap.objs.size := by
        rcases List.mem_cons.mp hb with z | z
        · rw [z]; exact hel
        · simp at z; rw [z]; exact hil
      rw [upd_ne (Nat.ne_of_lt hlt)]
      exact (hf b hb).1
  done := by
    intro X hP hw hK hc i pins s σ H E I hf st hg
    subst hP hw hK
    obtain ⟨⟨old, he⟩, hit⟩ := st
    obtain ⟨xs, hq, hx⟩ := hg
    obtain ⟨vs, rv, p, hz⟩ := I.tuple hq
    obtain ⟨f0, f1, f2, f3, f4, f5⟩ := hf it (by simp)
    have hl := rv.length
    have hh : X.A.in1.handled = none := I.ok.hd hc
    have hT : s.TypeIs (.ref e) "enumerate" := ⟨_, he, rfl⟩
    unfold pyNext
    refine wpAny_bind (wpAny_attempt (wpAny_callSpecial?_slot (name := Str.ofString "__next__") hT F.slot_enumerate_next (wpAny_call_entry F.slot_enumerate_next hT F.entry_enumerate_next ?_ (F.args_enumerate_next_1 _))))
    show wpAny _ _ (field (.ref e) 2 >>= _) _ _ _
    refine wpAny_bind (wpAny_field he rfl (x := .ref it) rfl ?_)
    refine wpAny_bind (wpAny_nextOf_tuple_end hh hit p (by simp; omega) fun h1 x q1 q2 => ?_)
    obtain ⟨o, ho, hc'⟩ := q2
    refine wpAny_bind (wpAny_isInstance (T := "StopIteration") (b := true) ⟨o, ho, hc'⟩ isSubtype_stop ?_)
    exact wpAny_pure ⟨rfl, I.turned (t' := s.toks) (fun b o hb q => q1 b o hb q) f0 f1 f3 f4 f5⟩
  self := fun A i s Q E st h => let ⟨⟨_, he⟩, _⟩ := st; wpAny_pyIter_enum he h
def iEnum2 (K : PySem.W.Frag) (ta : TA) : TI := fun σ H R => ta σ H fun vs H1 => ∃ a xs, vs = [.ref a] ∧ ((SqL K H1 a xs ∧ R (Ite K a) H1) ∨ (SqT K H1 a xs ∧ R (IteT K a) H1))
theorem pi_enum2 {X : Cx} {e : Expr} {ta : TA} {p pos tpos : Pos} {elts : List Expr} {kk : Nat} (hg : Gl X "enumerate") (hm : X.mg "enumerate" = none) (ha : PA X [e] ta) (hs : starEach [e] X.env = [(false, eval e X.env)]) :
    PI X (.Tuple elts kk tpos) (.Call (.Name "enumerate" p) [e] [] pos) (iEnum2 X.K ta) := by
  refine ⟨fun pins s σ H R I h => ?_⟩
  refine PyProof.Rows.Call_ (ld_blt I hg hm boot_enumerate (PyProof.Rows.callWith_type1 (thn (ha.run pos pins s σ H _ I h) fun us s1 ⟨vs, H1, I1, r1, a, xs, ex, q⟩ => ?_) hs rfl))
  subst ex
  cases r1 with
  | cons r rr =>
    cases rr
    cases r
    have fin : ∀ b : Addr, b ∈ [s1.heap.objs.size + 1, s1.heap.objs.size] → FpOk X pins H1 b := fun b hb => by
      have hle : s1.heap.objs.size ≤ b := by
        rcases List.mem_cons.mp hb with z | z
        · rw [z]; exact Nat.le_add_right _ _
        · simp at z; rw [z]; exact Nat.le_refl _
      exact I1.fpOk hle (I1.hok.fresh hle)
    rcases q with ⟨hq, q⟩ | ⟨hq, q⟩
    · obtain ⟨its, rv, pl, hz⟩ := I1.list hq
      refine call_enumerate_list pl.isList fun h1 he hit hsz hk => wpAny_pyIter_enum he ?_
      exact ⟨s1.heap.objs.size + 1, [s1.heap.objs.size + 1, s1.heap.objs.size], _, _, H1, rfl, I1.kept (t' := s1.toks) hk, turn_enum a (s1.heap.objs.size + 1) s1.heap.objs.size, ⟨⟨.none, he⟩, hit, Nat.succ_ne_self _⟩, fin, q⟩
    · obtain ⟨its, rv, pl, hz⟩ := I1.tuple hq
      have hlt : a < s1.heap.objs.size := by obtain ⟨o, ho, _⟩ := pl; exact Heap.lt_size ho
      refine call_enumT pl fun h1 he hit hsz hk => wpAny_pyIter_enum he ?_
      exact ⟨s1.heap.objs.size + 1, [s1.heap.objs.size + 1, s1.heap.objs.size], _, _, H1, rfl, I1.kept (t' := s1.toks) hk, turn_enumT (its := #[]) (Nat.ne_of_gt (Nat.lt_succ_of_lt hlt)) (Nat.ne_of_gt hlt) (Nat.succ_ne_self _), ⟨⟨.none, he⟩, hit⟩, fin, q⟩
end Lp

namespace Lp
open PySem

inductive D where
  | non | bl (b : Bool) | int (i : Int) | str (s : Str)
  | tup (xs : List D) | lst (xs : List D) | arr (xs : List D)
  | ins (c : Nat) (fs : List (Nat × D)) | ref (l : Nat) | exn (c : Nat) (fs : List (Nat × D))
  | nl (xs : List D) | no (c : Nat) (fs : List (Nat × D)) | dic (kvs : List (L2.Key × D))
  deriving Inhabited
mutual
def D.wk : D → D
  | .non => .non
  | .bl b => .bl b
  | .int i => .int i
  | .str s => .str s
  | .tup xs => .tup (wks xs)
  | .lst xs => .lst (wks xs)
  | .arr xs => .arr (wks xs)
  | .ins c fs => .ins c (wkf fs)
  | .ref l => .ref l
  | .exn c fs => .exn c fs
  | .nl xs => .lst (wks xs)
  | .no c fs => .ins c (wkf fs)
  | .dic kvs => .dic (wkk kvs)
def wks : List D → List D
  | [] => []
  | d :: ds => d.wk :: wks ds
def wkf : List (Nat × D) → List (Nat × D)
  | [] => []
  | p :: ds => wkp p :: wkf ds
def wkp : Nat × D → Nat × D
  | (i, d) => (i, d.wk)
def wkk : List (L2.Key × D) → List (L2.Key × D)
  | [] => []
  | p :: ds => wkq p :: wkk ds
def wkq : L2.Key × D → L2.Key × D
  | (i, d) => (i, d.wk)
end
inductive MO where
  | lst (xs : List D) | dic (kvs : List (L2.Key × D)) | ins (c : Nat) (fs : List (Nat × D))
abbrev Store := List MO
abbrev Ev := List (Option D)
inductive Res (α : Type) where
  | bad | ok (a : α) (M : Store) | exc (c : Nat) (fs : List (Nat × D)) (M : Store)
def Res.bind {α β : Type} (r : Res α) (f : α → Store → Res β) : Res β := match r with
  | .bad => .bad
  | .ok a M => f a M
  | .exc c fs M => .exc c fs M
abbrev Fn := List D → Store → Res D
@[simp] theorem bind_ok {α β : Type} (a : α) (M : Store) (f : α → Store → Res β) : (Res.ok a M).bind f = f a M := rfl
@[simp] theorem bind_bad {α β : Type} (f : α → Store → Res β) : (Res.bad : Res α).bind f = .bad := rfl
@[simp] theorem bind_exc {α β : Type} (c : Nat) (fs : List (Nat × D)) (M : Store) (f : α → Store → Res β) : (Res.exc c fs M : Res α).bind f = .exc c fs M := rfl

def asM (M : Store) : D → Option (List D)
  | .lst xs => some xs
  | .nl xs => some xs
  | .ref l => (match M[l]? with | some (.lst xs) => some xs | _ => none)
  | _ => none
def asL (M : Store) : D → Option (List D)
  | .arr xs => some xs
  | d => asM M d
def asS (M : Store) : D → Option (List D)
  | .tup xs => some xs
  | d => asL M d
def asI (M : Store) : D → Option (Nat × List (Nat × D))
  | .ins c fs => some (c, fs)
  | .no c fs => some (c, fs)
  | .ref l => (match M[l]? with | some (.ins c fs) => some (c, fs) | _ => none)
  | _ => none
def asK : D → Option L2.Key
  | .int i => some (.inl i)
  | .str s => some (.inr s)
  | _ => none

def dval (kvs : List (L2.Key × D)) (k : L2.Key) : Option D := (kvs.find? fun kv => decide (kv.1 = k)).map (·.2)
def dput (kvs : List (L2.Key × D)) (k : L2.Key) (v : D) : List (L2.Key × D) :=
  if kvs.any fun kv => decide (kv.1 = k) then kvs.map fun kv => if kv.1 = k then (kv.1, v) else kv else kvs ++ [(k, v)]

def mapO {α β : Type} (f : α → Option β) : List α → Option (List β)
  | [] => some []
  | x :: xs => match f x, mapO f xs with
    | some a, some r => some (a :: r)
    | _, _ => none
def dat (M : Store) : Nat → D → Option PyData
  | 0 => fun _ => none
  | n + 1 => fun d => match d with
    | .non => some .none
    | .bl b => some (.bool b)
    | .int i => some (.int i)
    | .str s => if PyData.strOk s then some (.str s) else none
    | .tup xs => (mapO (dat M n) xs).map .tuple
    | .lst xs => (mapO (dat M n) xs).map .list
    | .nl xs => (mapO (dat M n) xs).map .list
    | .ref l => (match M[l]? with | some (.lst xs) => (mapO (dat M n) xs).map .list | _ => none)
    | _ => none

def line : Nat := sizeLine
def addI (a b : D) (M : Store) : Res D := match a, b with
  | .int i, .int j => .ok (.int (i + j)) M
  | .str x, .str y => if x.length + y.length ≤ sizeLine then .ok (.str (x ++ y)) M else .bad
  | .tup xs, .tup ys => if xs ≠ [] ∧ ys ≠ [] ∧ xs.length + ys.length ≤ sizeLine then .ok (.tup (xs ++ ys)) M else .bad
  | _, _ => .bad
def mulOk (i j : Int) : Prop := (-(2 ^ 64) < i ∧ i < 2 ^ 64) ∨ (-(2 ^ 64) < j ∧ j < 2 ^ 64)
instance (i j : Int) : Decidable (mulOk i j) := by unfold mulOk; exact inferInstance
def binD (op : Operator) (a b : D) (M : Store) : Res D := match op with
  | .Add => addI a b M
  | .Sub => (match a, b with | .int i, .int j => .ok (.int (i - j)) M | _, _ => .bad)
  | .Mult => (match a, b with | .int i, .int j => if mulOk i j then .ok (.int (i * j)) M else .bad | _, _ => .bad)
  | .FloorDiv => (match a, b with | .int i, .int j => if 0 < j ∧ j < 1073741824 then .ok (.int (i / j)) M else .bad | _, _ => .bad)
  | .Mod => (match a, b with | .int i, .int j => if 0 < j then .ok (.int (i % j)) M else .bad | _, _ => .bad)
  | .Pow => (match a, b with | .int i, .int j => if 0 ≤ j ∧ j ≤ 1000000 ∧ i.natAbs < 2 ^ 64 then .ok (.int (i ^ j.toNat)) M else .bad | _, _ => .bad)
  | _ => .bad
def negD (a : D) (M : Store) : Res D := match a with | .int i => .ok (.int (-i)) M | _ => .bad
def eqB (M : Store) (a b : D) : Option Bool := match a, b with
  | .int i, .int j => some (decide (i = j))
  | .str x, .str y => some (decide (x = y))
  | .bl x, .bl y => some (decide (x = y))
  | a, b => (match dat M 12 a, dat M 12 b with | some x, some y => some (PyData.eqv x y) | _, _ => none)
def isNon : D → Bool | .non => true | _ => false
def flatD : D → Bool | .non => true | .bl _ => true | .int _ => true | .str _ => true | _ => false
def eqF : D → D → Bool
  | .non, .non => true
  | .bl a, .bl b => a == b
  | .int i, .int j => i == j
  | .bl a, .int j => (if a then 1 else 0) == j
  | .int i, .bl b => i == (if b then 1 else 0)
  | .str x, .str y => x == y
  | _, _ => false
def inB (M : Store) (x xs : D) : Option Bool := match xs with
  | .ref l => (match M[l]? with
    | some (.lst ys) => if flatD x && ys.all flatD then some (ys.any fun y => eqF y x) else none
    | some (.dic kvs) => (match asK x with | some k => some (dval kvs k).isSome | none => none)
    | _ => none)
  | .tup ys => if flatD x && ys.all flatD then some (ys.any fun y => eqF y x) else none
  | .lst ys => if flatD x && ys.all flatD then some (ys.any fun y => eqF y x) else none
  | .nl ys => if flatD x && ys.all flatD then some (ys.any fun y => eqF y x) else none
  | .dic kvs => (match asK x with | some k => some (dval kvs k).isSome | none => none)
  | .arr ys => if flatD x && ys.all flatD then some (ys.any fun y => eqF y x) else none
  | _ => none
def bRes (o : Option Bool) (M : Store) : Res D := match o with | some b => .ok (.bl b) M | none => .bad
def cmpD (op : CmpOp) (a b : D) (M : Store) : Res D := match op with
  | .Eq => bRes (eqB M a b) M
  | .NotEq => bRes ((eqB M a b).map (!·)) M
  | .Lt => (match a, b with | .int i, .int j => .ok (.bl (decide (i < j))) M | _, _ => .bad)
  | .LtE => (match a, b with | .int i, .int j => .ok (.bl (decide (i ≤ j))) M | _, _ => .bad)
  | .Gt => (match a, b with | .int i, .int j => .ok (.bl (decide (j < i))) M | _, _ => .bad)
  | .GtE => (match a, b with | .int i, .int j => .ok (.bl (decide (j ≤ i))) M | _, _ => .bad)
  | .Is => (match b with | .non => .ok (.bl (isNon a)) M | _ => .bad)
  | .IsNot => (match b with | .non => .ok (.bl (!isNon a)) M | _ => .bad)
  | .In => bRes (inB M a b) M
  | .NotIn => bRes ((inB M a b).map (!·)) M
def truB (M : Store) : D → Option Bool
  | .non => some false
  | .bl b => some b
  | .int i => some (i != 0)
  | .str s => if s.length ≤ sizeLine then some ((s.length : Int) != 0) else none
  | .tup xs => some (!xs.isEmpty)
  | .lst xs => some (!xs.isEmpty)
  | .nl xs => some (!xs.isEmpty)
  | .dic kvs => some (!kvs.isEmpty)
  | .ref l => (match M[l]? with
    | some (.lst xs) => some (!xs.isEmpty)
    | some (.dic kvs) => some (!kvs.isEmpty)
    | _ => none)
  | _ => none
def oRes (o : Option D) (M : Store) : Res D := match o with | some d => .ok d M | none => .bad
def strAt (s : Str) (i : Int) : Option D := (L2.atI s.cps.toList i).map fun c => .str ⟨#[c]⟩
def idxD (a i : D) (M : Store) : Res D := match a, i with
  | .ref l, i => (match M[l]? with
    | some (.lst xs) => (match i with | .int j => oRes (L2.atI xs j) M | _ => .bad)
    | some (.dic kvs) => (match asK i with | some k => oRes (dval kvs k) M | none => .bad)
    | _ => .bad)
  | .tup xs, .int j => oRes (L2.atI xs j) M
  | .lst xs, .int j => oRes (L2.atI xs j) M
  | .nl xs, .int j => oRes (L2.atI xs j) M
  | .dic kvs, i => (match asK i with | some k => oRes (dval kvs k) M | none => .bad)
  | .arr xs, .int j => oRes (L2.atI xs j) M
  | .str s, .int j => if s.length ≤ sizeLine then oRes (strAt s j) M else .bad
  | _, _ => .bad
def fget (f : Nat) : List (Nat × D) → Option D
  | [] => none
  | (g, x) :: r => if g = f then some x else fget f r
def fput (f : Nat) (v : D) : List (Nat × D) → List (Nat × D)
  | [] => [(f, v)]
  | (g, x) :: r => if g = f then (g, v) :: r else (g, x) :: fput f v r
def cut {α : Type} (xs : List α) (lo hi : Option Int) : List α := (xs.drop (HT.sIx xs.length 0 lo)).take (HT.sIx xs.length xs.length hi - HT.sIx xs.length 0 lo)
def slcT (a : D) (lo hi : Option Int) (M : Store) : Res D := match a with
  | .tup xs => if HT.sIx xs.length 0 lo = 0 ∧ HT.sIx xs.length xs.length hi = xs.length then .bad else .ok (.tup (cut xs lo hi)) M
  | _ => .bad
def dInts : List D → Option (List Int) := mapO fun d => match d with | .int i => some i | _ => none
def dBls : List D → Option (List Bool) := mapO fun d => match d with | .bl i => some i | _ => none
def minL : List Int → Int
  | [] => 0
  | x :: xs => xs.foldl (fun a b => if b < a then b else a) x
def maxL : List Int → Int
  | [] => 0
  | x :: xs => xs.foldl (fun a b => if a < b then b else a) x
inductive Bf where | len | abs | int | sum | any | all | min | max | str | tuple
def lenO (M : Store) : D → Option Nat
  | .str s => if s.length ≤ sizeLine then some s.length else none
  | .ref l => (match M[l]? with | some (.lst xs) => some xs.length | some (.dic kvs) => some kvs.length | _ => none)
  | .dic kvs => some kvs.length
  | d => (asS M d).map List.length
def blt1 (b : Bf) (d : D) (M : Store) : Res D := match b with
  | .len => (match lenO M d with | some n => .ok (.int n) M | none => .bad)
  | .abs => (match d with | .int i => .ok (.int (if i < 0 then -i else i)) M | _ => .bad)
  | .int => (match d with | .int i => .ok (.int i) M | .bl k => .ok (.int (if k then 1 else 0)) M | _ => .bad)
  | .sum => (match (asM M d).bind dInts with | some ns => .ok (.int ns.sum) M | none => .bad)
  | .any => (match (asM M d).bind dBls with | some bs => .ok (.bl (bs.any id)) M | none => .bad)
  | .all => (match (asM M d).bind dBls with | some bs => .ok (.bl (bs.all id)) M | none => .bad)
  | .min => (match (asM M d).bind dInts with | some ns => if 0 < ns.length then .ok (.int (minL ns)) M else .bad | none => .bad)
  | .max => (match (asM M d).bind dInts with | some ns => if 0 < ns.length then .ok (.int (maxL ns)) M else .bad | none => .bad)
  | .str => (match d with | .int i => if i.natAbs.log2 < 1920 then .ok (.str (toString i)) M else .bad | _ => .bad)
  | .tuple => (match d with
    | .tup xs => .ok (.tup xs) M
    | d => (match asM M d with | some xs => .ok (.tup xs) M | none => .bad))
def blt2 (b : Bf) (x y : D) (M : Store) : Res D := match b with
  | .min => (match x, y with | .int i, .int j => .ok (.int (if j < i then j else i)) M | _, _ => .bad)
  | .max => (match x, y with | .int i, .int j => .ok (.int (if j > i then j else i)) M | _, _ => .bad)
  | _ => .bad
def bltD (b : Bf) (args : List D) (M : Store) : Res D := match args with
  | [d] => blt1 b d M
  | [x, y] => blt2 b x y M
  | _ => .bad
inductive Ty where | int | bool | str | list | tuple
def isiD (M : Store) (t : Ty) : D → Option Bool
  | .non => some false
  | .bl _ => some (match t with | .int => true | .bool => true | _ => false)
  | .int _ => some (match t with | .int => true | _ => false)
  | .str _ => some (match t with | .str => true | _ => false)
  | .tup _ => some (match t with | .tuple => true | _ => false)
  | .lst _ => some (match t with | .list => true | _ => false)
  | .nl _ => some (match t with | .list => true | _ => false)
  | .ref l => (match M[l]? with | some (.lst _) => some (match t with | .list => true | _ => false) | _ => none)
  | _ => none

def slL (a : D) (lo hi : Option Int) (M : Store) : Res (List D) := match asM M a with
  | some xs => .ok (cut xs lo hi) M
  | none => .bad
def catL (x y : D) (M : Store) : Res (List D) := match asM M x, asM M y with
    | some xs, some ys => if xs.length + ys.length ≤ sizeLine then .ok (xs ++ ys) M else .bad
    | _, _ => .bad
def repL (x y : D) (M : Store) : Res (List D) := match asM M x, y with
    | some xs, .int n => if -(2 ^ 63) ≤ n ∧ n < 2 ^ 63 ∧ xs.length * n.toNat ≤ sizeLine then .ok (List.replicate n.toNat xs).flatten M else .bad
    | _, _ => .bad

def idnD (x y : D) (M : Store) : Res D := match asM M x with
  | some ys => if flatD y && ys.all flatD then (match ys.findIdx? (fun z => eqF z y) with | some j => .ok (.int (j : Nat)) M | none => .bad) else .bad
  | none => .bad
def sumLL (M : Store) (x : D) : Option (List D) := (asM M x).bind fun xs => (mapO (asM M) xs).map List.flatten
def popzD (x : D) (M : Store) : Res D := match x with
  | .ref l => (match M[l]? with
    | some (.lst (y :: ys)) => .ok y (M.set l (.lst ys))
    | _ => .bad)
  | _ => .bad

mutual
inductive Fz (M : Store) (pk : List Nat) : D → D → Prop
  | non : Fz M pk .non .non
  | bl (b : Bool) : Fz M pk (.bl b) (.bl b)
  | int (i : Int) : Fz M pk (.int i) (.int i)
  | str (s : Str) : Fz M pk (.str s) (.str s)
  | tup {xs ys : List D} : Fzs M pk xs ys → Fz M pk (.tup xs) (.tup ys)
  | lst {xs ys : List D} : Fzs M pk xs ys → Fz M pk (.lst xs) (.lst ys)
  | arr {xs ys : List D} : Fzs M pk xs ys → Fz M pk (.arr xs) (.arr ys)
  | ins {c : Nat} {xs ys : List (Nat × D)} : Fzf M pk xs ys → Fz M pk (.ins c xs) (.ins c ys)
  | ref {l j : Nat} : pk[j]? = some l → Fz M pk (.ref l) (.ref j)
  | rlst {l : Nat} {xs ys : List D} : l ∉ pk → M[l]? = some (.lst xs) → Fzs M pk xs ys → Fz M pk (.ref l) (.nl ys)
  | rins {l c : Nat} {xs ys : List (Nat × D)} : l ∉ pk → M[l]? = some (.ins c xs) → Fzf M pk xs ys → Fz M pk (.ref l) (.no c ys)
  | rdic {l : Nat} {xs ys : List (L2.Key × D)} : l ∉ pk → M[l]? = some (.dic xs) → Fzk M pk xs ys → Fz M pk (.ref l) (.dic ys)
  | nl {xs ys : List D} : Fzs M pk xs ys → Fz M pk (.nl xs) (.nl ys)
  | no {c : Nat} {xs ys : List (Nat × D)} : Fzf M pk xs ys → Fz M pk (.no c xs) (.no c ys)
  | dic {xs ys : List (L2.Key × D)} : Fzk M pk xs ys → Fz M pk (.dic xs) (.dic ys)
inductive Fzs (M : Store) (pk : List Nat) : List D → List D → Prop
  | nil : Fzs M pk [] []
  | cons {x y : D} {xs ys : List D} : Fz M pk x y → Fzs M pk xs ys → Fzs M pk (x :: xs) (y :: ys)
inductive Fzf (M : Store) (pk : List Nat) : List (Nat × D) → List (Nat × D) → Prop
  | nil : Fzf M pk [] []
  | cons {f : Nat} {x y : D} {xs ys : List (Nat × D)} : Fz M pk x y → Fzf M pk xs ys → Fzf M pk ((f, x) :: xs) ((f, y) :: ys)
inductive Fzk (M : Store) (pk : List Nat) : List (L2.Key × D) → List (L2.Key × D) → Prop
  | nil : Fzk M pk [] []
  | cons {f : L2.Key} {x y : D} {xs ys : List (L2.Key × D)} : Fz M pk x y → Fzk M pk xs ys → Fzk M pk ((f, x) :: xs) ((f, y) :: ys)
end
inductive FzO (M : Store) (pk : List Nat) : MO → MO → Prop
  | lst {xs ys : List D} : Fzs M pk xs ys → FzO M pk (.lst xs) (.lst ys)
  | ins {c : Nat} {xs ys : List (Nat × D)} : Fzf M pk xs ys → FzO M pk (.ins c xs) (.ins c ys)
  | dic {xs ys : List (L2.Key × D)} : Fzk M pk xs ys → FzO M pk (.dic xs) (.dic ys)
structure FzM (M0 M : Store) (pk : List Nat) (M' : Store) : Prop where
  len : pk.length = M'.length
  nd : pk.Nodup
  low : ∀ j : Nat, j < M0.length → pk[j]? = some j
  obj : ∀ (j l : Nat), pk[j]? = some l → ∃ o o' : MO, M[l]? = some o ∧ M'[j]? = some o' ∧ ((M0[j]? = some o ∧ o' = o) ∨ FzO M pk o o')
mutual
theorem Fz.det {M : Store} {pk : List Nat} (nd : pk.Nodup) : ∀ {d x y : D}, Fz M pk d x → Fz M pk d y → x = y
  | _, _, _, .non, .non => rfl
  | _, _, _, .bl _, .bl _ => rfl
  | _, _, _, .int _, .int _ => rfl
  | _, _, _, .str _, .str _ => rfl
  | _, _, _, .tup h, .tup q => by rw [h.det nd q]
  | _, _, _, .lst h, .lst q => by rw [h.det nd q]
  | _, _, _, .arr h, .arr q => by rw [h.det nd q]
  | _, _, _, .ins h, .ins q => by rw [h.det nd q]
  | _, _, _, .dic h, .dic q => by rw [h.det nd q]
  | _, _, _, .nl h, .nl q => by rw [h.det nd q]
  | _, _, _, .no h, .no q => by rw [h.det nd q]
  | _, _, _, .ref h, .ref q => by
    obtain ⟨i, e⟩ := List.getElem?_eq_some_iff.mp h
    obtain ⟨j, e2⟩ := List.getElem?_eq_some_iff.mp q
    have := (List.getElem_inj nd).mp (e.trans e2.symm)
    rw [this]
  | _, _, _, .ref h, .rlst n _ _ => absurd (List.mem_of_getElem? h) n
  | _, _, _, .ref h, .rins n _ _ => absurd (List.mem_of_getElem? h) n
  | _, _, _, .ref h, .rdic n _ _ => absurd (List.mem_of_getElem? h) n
  | _, _, _, .rlst n _ _, .ref h => absurd (List.mem_of_getElem? h) n
  | _, _, _, .rins n _ _, .ref h => absurd (List.mem_of_getElem? h) n
  | _, _, _, .rdic n _ _, .ref h => absurd (List.mem_of_getElem? h) n
  | _, _, _, .rlst _ e h, .rlst _ e2 q => by rw [e] at e2; cases e2; rw [h.det nd q]
  | _, _, _, .rlst _ e h, .rins _ e2 q => by rw [e] at e2; cases e2
  | _, _, _, .rlst _ e h, .rdic _ e2 q => by rw [e] at e2; cases e2
  | _, _, _, .rins _ e h, .rlst _ e2 q => by rw [e] at e2; cases e2
  | _, _, _, .rins _ e h, .rins _ e2 q => by rw [e] at e2; cases e2; rw [h.det nd q]
  | _, _, _, .rins _ e h, .rdic _ e2 q => by rw [e] at e2; cases e2
  | _, _, _, .rdic _ e h, .rlst _ e2 q => by rw [e] at e2; cases e2
  | _, _, _, .rdic _ e h, .rins _ e2 q => by rw [e] at e2; cases e2
  | _, _, _, .rdic _ e h, .rdic _ e2 q => by rw [e] at e2; cases e2; rw [h.det nd q]
theorem Fzs.det {M : Store} {pk : List Nat} (nd : pk.Nodup) : ∀ {d x y : List D}, Fzs M pk d x → Fzs M pk d y → x = y
  | _, _, _, .nil, .nil => rfl
  | _, _, _, .cons h t, .cons q s => by rw [h.det nd q, t.det nd s]
theorem Fzf.det {M : Store} {pk : List Nat} (nd : pk.Nodup) : ∀ {d x y : List (Nat × D)}, Fzf M pk d x → Fzf M pk d y → x = y
  | _, _, _, .nil, .nil => rfl
  | _, _, _, .cons h t, .cons q s => by rw [h.det nd q, t.det nd s]
theorem Fzk.det {M : Store} {pk : List Nat} (nd : pk.Nodup) : ∀ {d x y : List (L2.Key × D)}, Fzk M pk d x → Fzk M pk d y → x = y
  | _, _, _, .nil, .nil => rfl
  | _, _, _, .cons h t, .cons q s => by rw [h.det nd q, t.det nd s]
end
open Classical in
noncomputable def frzR (M : Store) : Res D → Res D
  | .ok d M' => if h : FzM M M' (List.range M.length) M ∧ ∃ d', Fz M' (List.range M.length) d d' then .ok h.2.choose M else .bad
  | r => r
theorem frz_e {M M' : Store} {d d' : D} (h : FzM M M' (List.range M.length) M) (q : Fz M' (List.range M.length) d d') : frzR M (.ok d M') = .ok d' M := by
  have hh : FzM M M' (List.range M.length) M ∧ ∃ d', Fz M' (List.range M.length) d d' := ⟨h, d', q⟩
  unfold frzR
  simp only
  rw [dif_pos hh, hh.2.choose_spec.det List.nodup_range q]
theorem frzM_app (M N : Store) : FzM M (M ++ N) (List.range M.length) M := by
  refine ⟨by simp, List.nodup_range, fun j hj => List.getElem?_range hj, fun j l h => ?_⟩
  obtain ⟨hl, e⟩ := List.getElem?_eq_some_iff.mp h
  have hj : j < M.length := by simpa using hl
  have : l = j := by rw [← e]; simp
  subst this
  exact ⟨M[l], M[l], by rw [List.getElem?_append_left hj, List.getElem?_eq_getElem hj], List.getElem?_eq_getElem hj, .inl ⟨List.getElem?_eq_getElem hj, rfl⟩⟩
theorem frz_app {M N : Store} {d d' : D} (q : Fz (M ++ N) (List.range M.length) d d') : frzR M (.ok d (M ++ N)) = .ok d' M := frz_e (frzM_app M N) q

inductive E where
  | nil | cons (a r : E) | absent
  | var (i : Nat) | non | bl (b : Bool) | int (i : Int) | str (k : Nat) | gco (k : Nat)
  | bin (op : Operator) (a b : E) | neg (a : E)
  | cmp (op : CmpOp) (a b : E) | chn (o1 o2 : CmpOp) (a b c : E)
  | andv (a b : E) | orv (a b : E) | notv (a : E) | ife (c a b : E)
  | tru (a : E) | tand (a b : E) | tor (a b : E) | tnot (a : E)
  | idx (a i : E) | slt (a lo hi : E) | att (a : E) (f : Nat)
  | call (f : Nat) (args : E) | mth (a : E) (m : Nat) (args : E) | mk (c : Nat) (args : E)
  | blt (b : Bf) (args : E) | isi (a : E) (t : Ty)
  | app (a b : E) | idn (a b : E) | popz (a : E) | dem | fzo (a : E) | cals (f : Nat) (args : E) | mths (a : E) (m : Nat) (args : E) | mks (c : Nat) (args : E) | sml (a : E) | rngd (a b : E)
  | tup (es : E) | fz (p : E) | fr (p : E) | mu (p : E)
  | dsp (es : E) | lc (tg : List Nat) (it c e : E) | cat (a b : E) | rep (a k : E) | slp (a lo hi : E) | lof (a : E)
  | rng1 (a : E) | rng2 (a b : E) | enu (a : E) | zip2 (a b : E) | itm (a : E)
structure Gm where
  fn : Nat → Fn
  mth : Nat → Nat → Option Nat
  ini : Nat → Option Nat
  gco : Nat → D
  str : Nat → Str
  cfl : Nat → Nat → Bool
  mfl : Nat → Option Nat
def attG (G : Gm) (a : D) (f : Nat) (M : Store) : Res D := match asI M a with
  | some (c, fs) => if G.cfl c f then oRes (fget f fs) M else .bad
  | none => .bad
def noF (G : Gm) (m : Nat) (fs : List (Nat × D)) : Bool := match G.mfl m with
  | none => true
  | some f => (fget f fs).isNone
def setE (env : Ev) (i : Nat) (d : D) : Ev := env.set i (some d)
def bindT (env : Ev) : List Nat → List D → Option Ev
  | [], [] => some env
  | i :: is, d :: ds => bindT (setE env i d) is ds
  | _, _ => none
def bindG (env : Ev) (tg : List Nat) (d : D) : Option Ev := match tg with
  | [i] => some (setE env i d)
  | is => (match d with | .tup ds => bindT env is ds | _ => none)
def wipeE (env : Ev) : List Nat → Ev
  | [] => env
  | v :: vs => (wipeE env vs).set v none
def small (i : Int) : Prop := -(2 ^ 62) ≤ i ∧ i < 2 ^ 62
instance (i : Int) : Decidable (small i) := by unfold small; exact inferInstance
structure Itm where
  n : Nat
  nx : Nat → Store → Option (Option D)
def itmOf (M : Store) : D → Option Itm
  | .ref l => (match M[l]? with
    | some (.lst xs) => some ⟨xs.length, fun i M => match M[l]? with | some (.lst zs) => some zs[i]? | _ => none⟩
    | _ => none)
  | d => (asS M d).map fun xs => ⟨xs.length, fun i _ => some xs[i]?⟩
def itmL (M : Store) (d : D) : Option Itm := match d with
  | .tup _ => none
  | .arr _ => none
  | d => itmOf M d
def rngdI (hi : Int) (n : Nat) : Itm := ⟨n, fun i _ => some (if i < n then some (.int (hi - i)) else none)⟩
def rngI (lo : Int) (n : Nat) : Itm := ⟨n, fun i _ => some (if i < n then some (.int (lo + i)) else none)⟩
def enuI (J : Itm) : Itm := ⟨J.n, fun i M => (J.nx i M).map fun o => o.map fun x => .tup [.int i, x]⟩
def zipI (J J2 : Itm) : Itm := ⟨J.n, fun i M => match J.nx i M, J2.nx i M with
  | some (some x), some (some y) => some (some (.tup [x, y]))
  | some _, some _ => some none
  | _, _ => none⟩
def lcGo (J : Itm) (tg : List Nat) (env : Ev) (c : Ev → Store → Res Bool) (e : Ev → Store → Res D) : Nat → Nat → List D → Store → Res (List D)
  | k, i, acc, M => match J.nx i M with
    | none => .bad
    | some none => .ok acc M
    | some (some x) => match k with
      | 0 => .bad
      | k + 1 => match bindG env tg x with
        | some env' => (match c env' M with
          | .ok true M1 => (match e env' M1 with
            | .ok y M2 => if acc.length < sizeLine then lcGo J tg env c e k (i + 1) (acc ++ [y]) M2 else .bad
            | _ => .bad)
          | .ok false M1 => lcGo J tg env c e k (i + 1) acc M1
          | _ => .bad)
        | none => .bad
def partI : D → Option (Option Int)
  | .non => some none
  | .int i => some (some i)
  | _ => none
variable (G : Gm)
mutual
noncomputable def ev : E → Ev → Store → Res D
  | .var i, env, M => (match env[i]? with | some (some d) => .ok d M | _ => .bad)
  | .non, _, M => .ok .non M
  | .bl b, _, M => .ok (.bl b) M
  | .int i, _, M => .ok (.int i) M
  | .str k, _, M => .ok (.str (G.str k)) M
  | .gco k, _, M => .ok (G.gco k) M
  | .bin op a b, env, M => (ev a env M).bind fun x M => (ev b env M).bind fun y M => binD op x y M
  | .neg a, env, M => (ev a env M).bind fun x M => negD x M
  | .cmp op a b, env, M => (ev a env M).bind fun x M => (ev b env M).bind fun y M => cmpD op x y M
  | .chn o1 o2 a b c, env, M => (ev a env M).bind fun x M => (ev b env M).bind fun y M => (cmpD o1 x y M).bind fun z M => match z with
    | .bl true => (ev c env M).bind fun w M => cmpD o2 y w M
    | .bl false => .ok (.bl false) M
    | _ => .bad
  | .andv a b, env, M => (ev a env M).bind fun x M => match x with
    | .bl true => ev b env M
    | .bl false => .ok (.bl false) M
    | _ => .bad
  | .orv a b, env, M => (ev a env M).bind fun x M => match x with
    | .bl true => .ok (.bl true) M
    | .bl false => ev b env M
    | _ => .bad
  | .notv a, env, M => (ev a env M).bind fun x M => match x with
    | .bl k => .ok (.bl (!k)) M
    | _ => .bad
  | .ife c a b, env, M => (evT c env M).bind fun k M => match k with
    | true => ev a env M
    | false => ev b env M
  | .idx a i, env, M => (ev a env M).bind fun x M => (ev i env M).bind fun y M => idxD x y M
  | .slt a lo hi, env, M => (ev a env M).bind fun x M => (evO lo env M).bind fun l M => (evO hi env M).bind fun h M => slcT x l h M
  | .att a f, env, M => (ev a env M).bind fun x M => attG G x f M
  | .call f args, env, M => (evs args env M).bind fun ds M => G.fn f (wks ds) M
  | .mth a m args, env, M => (ev a env M).bind fun x M => match asI M x with
    | some (c, fs) => if noF G m fs then (match G.mth c m with
      | some f => (evs args env M).bind fun ds M => G.fn f (wks (x :: ds)) M
      | none => .bad) else .bad
    | none => .bad
  | .mk c args, env, M => (evs args env M).bind fun ds M => match G.ini c with
    | some f => (match G.fn f (.ref M.length :: wks ds) (M ++ [.ins c []]) with
      | .ok .non M' => .ok (.ref M.length) M'
      | .exc c fs M' => .exc c fs M'
      | _ => .bad)
    | none => .bad
  | .blt b args, env, M => (evs args env M).bind fun ds M => bltD b ds M
  | .isi a t, env, M => (ev a env M).bind fun x M => bRes (isiD M t x) M
  | .app a b, env, M => (ev a env M).bind fun x M => match x with
    | .ref l => (match M[l]? with
      | some (.lst _) => (ev b env M).bind fun y M => (match M[l]? with
        | some (.lst xs) => if xs.length < sizeLine then .ok .non (M.set l (.lst (xs ++ [y]))) else .bad
        | _ => .bad)
      | _ => .bad)
    | _ => .bad
  | .idn a b, env, M => (ev a env M).bind fun x M => match asM M x with
    | some _ => (ev b env M).bind fun y M => idnD x y M
    | none => .bad
  | .popz a, env, M => (ev a env M).bind fun x M => popzD x M
  | .dem, _, M => .ok (.ref M.length) (M ++ [.dic []])
  | .fzo a, env, M => frzR M (ev a env M)
  | .cals f args, env, M => (evs args env M).bind fun ds M => G.fn f ds M
  | .mths a m args, env, M => (ev a env M).bind fun x M => match asI M x with
    | some (c, fs) => if noF G m fs then (match G.mth c m with
      | some f => (evs args env M).bind fun ds M => G.fn f (x :: ds) M
      | none => .bad) else .bad
    | none => .bad
  | .mks c args, env, M => (evs args env M).bind fun ds M => match G.ini c with
    | some f => (match G.fn f (.ref M.length :: ds) (M ++ [.ins c []]) with
      | .ok .non M' => .ok (.ref M.length) M'
      | .exc c fs M' => .exc c fs M'
      | _ => .bad)
    | none => .bad
  | .tup es, env, M => (evs es env M).bind fun ds M => if ds.length ≤ sizeLine then .ok (.tup ds) M else .bad
  | .fz p, env, M => (evL p env M).bind fun xs M => .ok (.nl xs) M
  | .fr p, env, M => (evL p env M).bind fun xs M => .ok (.lst (wks xs)) M
  | .mu p, env, M => (evL p env M).bind fun xs M => .ok (.ref M.length) (M ++ [.lst xs])
  | _, _, _ => .bad
noncomputable def evT : E → Ev → Store → Res Bool
  | .tru a, env, M => (ev a env M).bind fun x M => match truB M x with | some b => .ok b M | none => .bad
  | .tand a b, env, M => (evT a env M).bind fun k M => match k with
    | true => evT b env M
    | false => .ok false M
  | .tor a b, env, M => (evT a env M).bind fun k M => match k with
    | true => .ok true M
    | false => evT b env M
  | .tnot a, env, M => (evT a env M).bind fun k M => .ok (!k) M
  | _, _, _ => .bad
noncomputable def evs : E → Ev → Store → Res (List D)
  | .nil, _, M => .ok [] M
  | .cons a r, env, M => (ev a env M).bind fun x M => (evs r env M).bind fun xs M => .ok (x :: xs) M
  | _, _, _ => .bad
noncomputable def evO : E → Ev → Store → Res (Option Int)
  | .absent, _, M => .ok none M
  | .tru a, env, M => (ev a env M).bind fun x M => match x with | .int i => .ok (some i) M | _ => .bad
  | _, _, _ => .bad
noncomputable def evL : E → Ev → Store → Res (List D)
  | .dsp es, env, M => (evs es env M).bind fun ds M => if ds.length ≤ sizeLine then .ok ds M else .bad
  | .cat a b, env, M => (ev a env M).bind fun x M => (ev b env M).bind fun y M => catL x y M
  | .rep a k, env, M => (ev a env M).bind fun x M => (ev k env M).bind fun y M => repL x y M
  | .slp a lo hi, env, M => (ev a env M).bind fun x M => (evO lo env M).bind fun l M => (evO hi env M).bind fun h M => slL x l h M
  | .lof a, env, M => (ev a env M).bind fun x M => match asS M x with
    | some xs => .ok xs M
    | none => .bad
  | .sml a, env, M => (ev a env M).bind fun x M => match sumLL M x with
    | some xs => if xs.length ≤ sizeLine then .ok xs M else .bad
    | none => .bad
  | .lc tg it c e, env, M => (evI it env M).bind fun J M => lcGo J tg (wipeE env tg) (evT c) (ev e) J.n 0 [] M
  | _, _, _ => .bad
noncomputable def evI : E → Ev → Store → Res Itm
  | .itm a, env, M => (ev a env M).bind fun x M => match itmOf M x with | some J => .ok J M | none => .bad
  | .rng1 a, env, M => (ev a env M).bind fun x M => match x with
    | .int n => if small n then .ok (rngI 0 n.toNat) M else .bad
    | _ => .bad
  | .rng2 a b, env, M => (ev a env M).bind fun x M => (ev b env M).bind fun y M => match x, y with
    | .int i, .int j => if small i ∧ small j then .ok (rngI i (j - i).toNat) M else .bad
    | _, _ => .bad
  | .rngd a b, env, M => (ev a env M).bind fun x M => (ev b env M).bind fun y M => match x, y with
    | .int i, .int j => if small i ∧ small j then .ok (rngdI i (i - j).toNat) M else .bad
    | _, _ => .bad
  | .enu a, env, M => (ev a env M).bind fun x M => match itmOf M x with | some J => .ok (enuI J) M | none => .bad
  | .zip2 a b, env, M => (ev a env M).bind fun x M => (ev b env M).bind fun y M => match itmL M x, itmL M y with
    | some J, some J2 => .ok (zipI J J2) M
    | _, _ => .bad
  | _, _, _ => .bad
end

inductive S where
  | nil | seq (s r : S)
  | set (i : Nat) (e : E) | setT (is : List Nat) (e : E) | setA (o : E) (f : Nat) (e : E) | setI (o i e : E)
  | aug (i : Nat) (op : Operator) (e : E) | augA (o : E) (f : Nat) (op : Operator) (e : E) | augI (o i : E) (op : Operator) (e : E)
  | ex (e : E) | ret (e : E) | retN | brk | pass | never
  | ife (c : E) (s t : S) | for_ (tg : List Nat) (it : E) (b : S) | whil (n : Nat) (c : E) (b : S)
inductive Out where
  | nx (env : Ev) | ret (d : D) | brk (env : Ev)
def augOp (op : Operator) (a b : D) (M : Store) : Res D := match op, a, b with
  | .Add, .int i, .int j => .ok (.int (i + j)) M
  | .Sub, .int i, .int j => .ok (.int (i - j)) M
  | _, _, _ => .bad
def forGo (J : Itm) (tg : List Nat) (b : Ev → Store → Res Out) : Nat → Nat → Ev → Store → Res Out
  | k, i, env, M => match J.nx i M with
    | none => .bad
    | some none => .ok (.nx env) M
    | some (some x) => match k with
      | 0 => .bad
      | k + 1 => match bindG env tg x with
        | some env' => (b env' M).bind fun o M => match o with
          | .nx env => forGo J tg b k (i + 1) env M
          | .brk env => .ok (.nx env) M
          | .ret d => .ok (.ret d) M
        | none => .bad
def whiGo (c : Ev → Store → Res Bool) (b : Ev → Store → Res Out) : Nat → Ev → Store → Res Out
  | n, env, M => (c env M).bind fun k M => match k with
    | false => .ok (.nx env) M
    | true => match n with
      | 0 => .bad
      | n + 1 => (b env M).bind fun o M => match o with
        | .nx env => whiGo c b n env M
        | .brk env => .ok (.nx env) M
        | .ret d => .ok (.ret d) M
def putA (G : Gm) (o : D) (f : Nat) (v : D) (M : Store) : Option Store := match o with
  | .ref l => (match M[l]? with | some (.ins c fs) => if fs.length < 1000 ∧ G.cfl c f = true then some (M.set l (.ins c (fput f v fs))) else none | _ => none)
  | _ => none
def putI (o i v : D) (M : Store) : Option Store := match o with
  | .ref l => (match M[l]? with
    | some (.lst xs) => (match i with | .int k => (L2.ixN xs.length k).map fun j => M.set l (.lst (xs.set j v)) | _ => none)
    | some (.dic kvs) => (match asK i with | some k => if kvs.length < sizeLine then some (M.set l (.dic (dput kvs k v))) else none | none => none)
    | _ => none)
  | _ => none
def nxR (env : Ev) (o : Option Store) : Res Out := match o with | some M => .ok (.nx env) M | none => .bad
noncomputable def exec : S → Ev → Store → Res Out
  | .nil, env, M => .ok (.nx env) M
  | .pass, env, M => .ok (.nx env) M
  | .seq s r, env, M => (exec s env M).bind fun o M => match o with
    | .nx env => exec r env M
    | o => .ok o M
  | .set i e, env, M => (ev G e env M).bind fun x M => .ok (.nx (setE env i x)) M
  | .setT is e, env, M => (ev G e env M).bind fun x M => match x with
    | .tup ds => (match bindT env is ds with | some env => .ok (.nx env) M | none => .bad)
    | _ => .bad
  | .setA o f e, env, M => (ev G e env M).bind fun y M => (ev G o env M).bind fun x M => nxR env (putA G x f y M)
  | .setI o i e, env, M => (ev G e env M).bind fun y M => (ev G o env M).bind fun x M => (ev G i env M).bind fun j M => nxR env (putI x j y M)
  | .aug i op e, env, M => (match env[i]? with
    | some (some x) => (ev G e env M).bind fun y M => (augOp op x y M).bind fun z M => .ok (.nx (setE env i z)) M
    | _ => .bad)
  | .augA o f op e, env, M => (ev G o env M).bind fun x M => match x with
    | .ref l => (match M[l]? with
      | some (.ins c fs) => (attG G (.ref l) f M).bind fun y M => (ev G e env M).bind fun z M => (augOp op y z M).bind fun w M => (match M[l]? with
        | some (.ins c' _) => if c = c' then nxR env (putA G (.ref l) f w M) else .bad
        | _ => .bad)
      | _ => .bad)
    | _ => .bad
  | .augI o i op e, env, M => (ev G o env M).bind fun x M => match x with
    | .ref l => (ev G i env M).bind fun j M => (idxD (.ref l) j M).bind fun y M => (ev G e env M).bind fun z M => (augOp op y z M).bind fun w M => nxR env (putI (.ref l) j w M)
    | _ => .bad
  | .ex e, env, M => (ev G e env M).bind fun _ M => .ok (.nx env) M
  | .ret e, env, M => (ev G e env M).bind fun x M => .ok (.ret x) M
  | .retN, _, M => .ok (.ret .non) M
  | .brk, env, M => .ok (.brk env) M
  | .never, _, _ => .bad
  | .ife c s t, env, M => (evT G c env M).bind fun k M => match k with
    | true => exec s env M
    | false => exec t env M
  | .for_ tg it b, env, M => (evI G it env M).bind fun J M => forGo J tg (exec b) J.n 0 env M
  | .whil n c b, env, M => whiGo (evT G c) (exec b) n env M
def fin (r : Res Out) : Res D := match r with
  | .ok (.ret d) M => .ok d M
  | .ok (.nx _) M => .ok .non M
  | .ok (.brk _) _ => .bad
  | .exc c fs M => .exc c fs M
  | .bad => .bad
def start (n : Nat) (ds : List D) : Ev := ds.map some ++ List.replicate (n - ds.length) none
end Lp

namespace Lp
open PySem PySem.Spec L2

structure Tb where
  fns : List Str
  cls : List Str
  mts : List Str
  fls : List Str
  gcs : List (Str × D)
  txt : List Str
  mth : List ((Nat × Nat) × Nat)
  cfs : List (Nat × Nat)
  mfs : List (Nat × Nat)
  ini : List (Nat × Nat)
  bor : Addr → Prop := fun _ => False
abbrev Tb.wb (T : Tb) (b : Addr → Prop) : Tb := { T with bor := b }
def Tb.okC (T : Tb) (c : Nat) : Prop := c < T.cls.length ∧ T.cls.getD c "" ≠ ""
def Tb.cad (T : Tb) (K : PySem.W.Frag) (c : Nat) : Addr := He.ga K (T.cls.getD c "")

mutual
inductive Rp (T : Tb) (K : PySem.W.Frag) (F : Hp) (mu : List Addr) : V → D → Prop
  | non : Rp T K F mu .non .non
  | bl (b : Bool) : Rp T K F mu (.bl b) (.bl b)
  | int (i : Int) : Rp T K F mu (.int i) (.int i)
  | str (s : Str) : Rp T K F mu (.str s) (.str s)
  | tup {a : Addr} {vs : List V} {ds : List D} : F a = some (.tup vs) → Rps T K F mu vs ds → Rp T K F mu (.ref a) (.tup ds)
  | lst {a : Addr} {vs : List V} {ds : List D} : F a = some (.lst vs) → Rps T K F mu vs ds → Rp T K F mu (.ref a) (.lst ds)
  | arrL {a : Addr} {vs : List V} {ds : List D} : SqL K F a vs → Rps T K F mu vs ds → Rp T K F mu (.ref a) (.arr ds)
  | arrT {a : Addr} {vs : List V} {ds : List D} : SqT K F a vs → Rps T K F mu vs ds → Rp T K F mu (.ref a) (.arr ds)
  | ins {a dx : Addr} {c : Nat} {fv : List (Str × V)} {fs : List (Nat × D)} : T.okC c → F a = some (.ins (T.cad K c) dx fv) → Rfs T K F mu fv fs → Rp T K F mu (.ref a) (.ins c fs)
  | ref {a : Addr} {l : Nat} : mu[l]? = some a → Rp T K F mu (.ref a) (.ref l)
  | nl {a : Addr} {vs : List V} {ds : List D} : ¬ T.bor a → F a = some (.lst vs) → Rps T K F mu vs ds → Rp T K F mu (.ref a) (.nl ds)
  | no {a dx : Addr} {c : Nat} {fv : List (Str × V)} {fs : List (Nat × D)} : ¬ T.bor a → T.okC c → F a = some (.ins (T.cad K c) dx fv) → Rfs T K F mu fv fs → Rp T K F mu (.ref a) (.no c fs)
  | dic {a : Addr} {ws : List (Key × V)} {kvs : List (Key × D)} : F a = some (.dK ws) → Rks T K F mu ws kvs → Rp T K F mu (.ref a) (.dic kvs)
inductive Rps (T : Tb) (K : PySem.W.Frag) (F : Hp) (mu : List Addr) : List V → List D → Prop
  | nil : Rps T K F mu [] []
  | cons {v : V} {vs : List V} {d : D} {ds : List D} : Rp T K F mu v d → Rps T K F mu vs ds → Rps T K F mu (v :: vs) (d :: ds)
inductive Rfs (T : Tb) (K : PySem.W.Frag) (F : Hp) (mu : List Addr) : List (Str × V) → List (Nat × D) → Prop
  | nil : Rfs T K F mu [] []
  | cons {f : Str} {i : Nat} {v : V} {fv : List (Str × V)} {d : D} {fs : List (Nat × D)} : T.fls[i]? = some f → Rp T K F mu v d → Rfs T K F mu fv fs → Rfs T K F mu ((f, v) :: fv) ((i, d) :: fs)
inductive Rks (T : Tb) (K : PySem.W.Frag) (F : Hp) (mu : List Addr) : List (Key × V) → List (Key × D) → Prop
  | nil : Rks T K F mu [] []
  | cons {k : Key} {v : V} {ws : List (Key × V)} {d : D} {ds : List (Key × D)} : Rp T K F mu v d → Rks T K F mu ws ds → Rks T K F mu ((k, v) :: ws) ((k, d) :: ds)
end
structure Gr (F : Hp) (mu : List Addr) (F' : Hp) (mu' : List Addr) : Prop where
  f : ∀ (a : Addr) (o : HO), F a = some o → F' a = some o
  m : ∀ (l : Nat) (a : Addr), mu[l]? = some a → mu'[l]? = some a
section
variable {T : Tb} {K : PySem.W.Frag} {F F' F2 : Hp} {mu mu' mu2 : List Addr}
theorem Gr.refl : Gr F mu F mu := ⟨fun _ _ h => h, fun _ _ h => h⟩
theorem Gr.trans (a : Gr F mu F' mu') (b : Gr F' mu' F2 mu2) : Gr F mu F2 mu2 := ⟨fun x o h => b.f x o (a.f x o h), fun l x h => b.m l x (a.m l x h)⟩
theorem Gr.rd {a : Addr} {u : HO} (g : Gr F mu F' mu') (h : Rd F a u) : Rd F' a u := h.elim (fun h => .inl (g.f a _ h)) fun ⟨o, h⟩ => .inr ⟨o, g.f a _ h⟩
theorem Gr.sqL {a : Addr} {vs : List V} (g : Gr F mu F' mu') (h : SqL K F a vs) : SqL K F' a vs := h.elim (fun h => .inl (g.rd h)) .inr
theorem Gr.sqT {a : Addr} {vs : List V} (g : Gr F mu F' mu') (h : SqT K F a vs) : SqT K F' a vs := h.elim (fun h => .inl (g.rd h)) .inr
mutual
theorem Rp.mono (g : Gr F mu F' mu') : ∀ {v : V} {d : D}, Rp T K F mu v d → Rp T K F' mu' v d
  | _, _, .non => .non
  | _, _, .bl b => .bl b
  | _, _, .int i => .int i
  | _, _, .str s => .str s
  | _, _, .tup h r => .tup (g.f _ _ h) (Rps.mono g r)
  | _, _, .lst h r => .lst (g.f _ _ h) (Rps.mono g r)
  | _, _, .arrL h r => .arrL (g.sqL h) (Rps.mono g r)
  | _, _, .arrT h r => .arrT (g.sqT h) (Rps.mono g r)
  | _, _, .ins hc h r => .ins hc (g.f _ _ h) (Rfs.mono g r)
  | _, _, .ref h => .ref (g.m _ _ h)
  | _, _, .nl n h r => .nl n (g.f _ _ h) (Rps.mono g r)
  | _, _, .no n hc h r => .no n hc (g.f _ _ h) (Rfs.mono g r)
  | _, _, .dic h r => .dic (g.f _ _ h) (Rks.mono g r)
theorem Rps.mono (g : Gr F mu F' mu') : ∀ {vs : List V} {ds : List D}, Rps T K F mu vs ds → Rps T K F' mu' vs ds
  | _, _, .nil => .nil
  | _, _, .cons r t => .cons (Rp.mono g r) (Rps.mono g t)
theorem Rfs.mono (g : Gr F mu F' mu') : ∀ {vs : List (Str × V)} {ds : List (Nat × D)}, Rfs T K F mu vs ds → Rfs T K F' mu' vs ds
  | _, _, .nil => .nil
  | _, _, .cons n r t => .cons n (Rp.mono g r) (Rfs.mono g t)
theorem Rks.mono (g : Gr F mu F' mu') : ∀ {vs : List (Key × V)} {ds : List (Key × D)}, Rks T K F mu vs ds → Rks T K F' mu' vs ds
  | _, _, .nil => .nil
  | _, _, .cons r t => .cons (Rp.mono g r) (Rks.mono g t)
end
theorem Rks.rk : ∀ {vs : List (Key × V)} {ds : List (Key × D)}, Rks T K F mu vs ds → Paired (fun p q => p.1 = q.1 ∧ Rp T K F mu p.2 q.2) vs ds
  | _, _, .nil => .nil
  | _, _, .cons r t => .cons ⟨rfl, r⟩ t.rk
theorem Rks.of {vs : List (Key × V)} {ds : List (Key × D)} (h : Paired (fun p q => p.1 = q.1 ∧ Rp T K F mu p.2 q.2) vs ds) : Rks T K F mu vs ds := by
  induction h with
  | nil => exact .nil
  | @cons p q vs ds h t ih =>
    obtain ⟨k, v⟩ := p
    obtain ⟨k2, d⟩ := q
    obtain ⟨e, r⟩ := h
    have e : k = k2 := e
    subst e
    exact .cons r ih
mutual
theorem Rp.wk : ∀ {v : V} {d : D}, Rp T K F mu v d → Rp T K F mu v d.wk
  | _, _, .non => .non
  | _, _, .bl b => .bl b
  | _, _, .int i => .int i
  | _, _, .str s => .str s
  | _, _, .tup h r => .tup h (Rps.wk r)
  | _, _, .lst h r => .lst h (Rps.wk r)
  | _, _, .arrL h r => .arrL h (Rps.wk r)
  | _, _, .arrT h r => .arrT h (Rps.wk r)
  | _, _, .ins hc h r => .ins hc h (Rfs.wk r)
  | _, _, .ref h => .ref h
  | _, _, .nl n h r => .lst h (Rps.wk r)
  | _, _, .no n hc h r => .ins hc h (Rfs.wk r)
  | _, _, .dic h r => .dic h (Rks.wk r)
theorem Rps.wk : ∀ {vs : List V} {ds : List D}, Rps T K F mu vs ds → Rps T K F mu vs (wks ds)
  | _, _, .nil => .nil
  | _, _, .cons r t => .cons (Rp.wk r) (Rps.wk t)
theorem Rfs.wk : ∀ {vs : List (Str × V)} {ds : List (Nat × D)}, Rfs T K F mu vs ds → Rfs T K F mu vs (wkf ds)
  | _, _, .nil => .nil
  | _, _, .cons n r t => .cons n (Rp.wk r) (Rfs.wk t)
theorem Rks.wk : ∀ {vs : List (Key × V)} {ds : List (Key × D)}, Rks T K F mu vs ds → Rks T K F mu vs (wkk ds)
  | _, _, .nil => .nil
  | _, _, .cons r t => .cons (Rp.wk r) (Rks.wk t)
end
theorem Rps.len : ∀ {vs : List V} {ds : List D}, Rps T K F mu vs ds → vs.length = ds.length
  | _, _, .nil => rfl
  | _, _, .cons _ t => congrArg (· + 1) t.len
theorem Rps.get : ∀ {vs : List V} {ds : List D} {i : Nat} {d : D}, Rps T K F mu vs ds → ds[i]? = some d → ∃ v, vs[i]? = some v ∧ Rp T K F mu v d
  | _, _, 0, _, .cons r _, e => by cases e; exact ⟨_, rfl, r⟩
  | _, _, i + 1, _, .cons _ t, e => t.get (i := i) e
theorem Rps.getV : ∀ {vs : List V} {ds : List D} {i : Nat} {v : V}, Rps T K F mu vs ds → vs[i]? = some v → ∃ d, ds[i]? = some d ∧ Rp T K F mu v d
  | _, _, 0, _, .cons r _, e => by cases e; exact ⟨_, rfl, r⟩
  | _, _, i + 1, _, .cons _ t, e => t.getV (i := i) e
theorem Rps.app : ∀ {vs ws : List V} {ds es : List D}, Rps T K F mu vs ds → Rps T K F mu ws es → Rps T K F mu (vs ++ ws) (ds ++ es)
  | _, _, _, _, .nil, s => s
  | _, _, _, _, .cons r t, s => .cons r (t.app s)
theorem Rps.take : ∀ {vs : List V} {ds : List D} (n : Nat), Rps T K F mu vs ds → Rps T K F mu (vs.take n) (ds.take n)
  | _, _, 0, _ => .nil
  | _, _, _ + 1, .nil => .nil
  | _, _, n + 1, .cons r t => .cons r (t.take n)
theorem Rps.drop : ∀ {vs : List V} {ds : List D} (n : Nat), Rps T K F mu vs ds → Rps T K F mu (vs.drop n) (ds.drop n)
  | _, _, 0, r => r
  | _, _, _ + 1, .nil => .nil
  | _, _, n + 1, .cons _ t => t.drop n
theorem Rps.set {v : V} {d : D} (r : Rp T K F mu v d) : ∀ {vs : List V} {ds : List D} (n : Nat), Rps T K F mu vs ds → Rps T K F mu (vs.set n v) (ds.set n d)
  | _, _, _, .nil => .nil
  | _, _, 0, .cons _ t => .cons r t
  | _, _, n + 1, .cons q t => .cons q (t.set r n)
theorem Rps.cut {vs : List V} {ds : List D} (r : Rps T K F mu vs ds) (lo hi : Option Int) : Rps T K F mu (cutV vs lo hi) (cut ds lo hi) := by
  unfold cutV Lp.cut
  rw [r.len]
  exact (r.drop _).take _
theorem Rps.rep {vs : List V} {ds : List D} (r : Rps T K F mu vs ds) : ∀ k : Nat, Rps T K F mu (List.replicate k vs).flatten (List.replicate k ds).flatten
  | 0 => .nil
  | k + 1 => by rw [List.replicate_succ, List.replicate_succ, List.flatten_cons, List.flatten_cons]; exact r.app (r.rep k)
theorem Rps.at {vs : List V} {ds : List D} {i : Int} {d : D} (r : Rps T K F mu vs ds) (h : atI ds i = some d) : ∃ v, atI vs i = some v ∧ Rp T K F mu v d := by
  unfold atI at h ⊢
  rw [r.len]
  cases e : ixN ds.length i with
  | none => rw [e] at h; cases h
  | some j =>
    rw [e] at h
    exact r.get (i := j) h
theorem Rps.ints : ∀ {vs : List V} {ds : List D} {ns : List Int}, Rps T K F mu vs ds → dInts ds = some ns → vs = ns.map V.int
  | _, _, ns, .nil, h => by cases h; rfl
  | _, _, ns, .cons r t, h => by
    cases r with
    | int i =>
      unfold dInts at h
      simp only [mapO] at h
      split at h
      · rename_i a b e1 e2
        cases h
        cases e1
        rw [t.ints e2]; rfl
      · cases h
    | _ => simp [dInts, mapO] at h
theorem Rps.bls : ∀ {vs : List V} {ds : List D} {ns : List Bool}, Rps T K F mu vs ds → dBls ds = some ns → vs = ns.map V.bl
  | _, _, ns, .nil, h => by cases h; rfl
  | _, _, ns, .cons r t, h => by
    cases r with
    | bl i =>
      unfold dBls at h
      simp only [mapO] at h
      split at h
      · rename_i a b e1 e2
        cases h
        cases e1
        rw [t.bls e2]; rfl
      · cases h
    | _ => simp [dBls, mapO] at h

abbrev RK (T : Tb) (K : PySem.W.Frag) (F : Hp) (mu : List Addr) : List (Key × V) → List (Key × D) → Prop := Paired fun p q => p.1 = q.1 ∧ Rp T K F mu p.2 q.2
def ObjR (T : Tb) (K : PySem.W.Frag) (F : Hp) (mu : List Addr) (H : Hp) (a : Addr) : MO → Prop
  | .lst xs => ∃ vs, H a = some (.lst vs) ∧ Rps T K F mu vs xs
  | .dic kvs => ∃ ws, H a = some (.dK ws) ∧ RK T K F mu ws kvs
  | .ins c fs => T.okC c ∧ ∃ dx fv, H a = some (.ins (T.cad K c) dx fv) ∧ Rfs T K F mu fv fs
structure HR (T : Tb) (K : PySem.W.Frag) (Z H : Hp) (M : Store) (mu : List Addr) (F : Hp) : Prop where
  sub : ∀ (a : Addr) (o : HO), F a = some o → H a = some o
  len : mu.length = M.length
  nd : mu.Nodup
  out : ∀ a, a ∈ mu → F a = none
  obj : ∀ (l : Nat) (a : Addr) (o : MO), mu[l]? = some a → M[l]? = some o → ObjR T K F mu H a o
  zs : ∀ (a : Addr) (o : HO), Z a = some o → H a = some o ∧ F a = none ∧ a ∉ mu
  bor : ∀ a : Addr, T.bor a → F a ≠ none
theorem RK.mono (g : Gr F mu F' mu') {ws : List (Key × V)} {kvs : List (Key × D)} (r : RK T K F mu ws kvs) : RK T K F' mu' ws kvs := Paired.mapP r fun _ _ ⟨a, b⟩ => ⟨a, b.mono g⟩
theorem ObjR.mono {H : Hp} {a : Addr} {o : MO} (g : Gr F mu F' mu') (h : ObjR T K F mu H a o) : ObjR T K F' mu' H a o := by
  cases o with
  | lst xs => obtain ⟨vs, e, r⟩ := h; exact ⟨vs, e, r.mono g⟩
  | dic kvs => obtain ⟨ws, e, r⟩ := h; exact ⟨ws, e, r.mono g⟩
  | ins c fs => obtain ⟨hc, dx, fv, e, r⟩ := h; exact ⟨hc, dx, fv, e, r.mono g⟩
theorem ObjR.heap {H H' : Hp} {a : Addr} {o : MO} (h : ObjR T K F mu H a o) (e : H' a = H a) : ObjR T K F mu H' a o := by
  cases o with
  | lst xs => obtain ⟨vs, q, r⟩ := h; exact ⟨vs, by rw [e]; exact q, r⟩
  | dic kvs => obtain ⟨ws, q, r⟩ := h; exact ⟨ws, by rw [e]; exact q, r⟩
  | ins c fs => obtain ⟨hc, dx, fv, q, r⟩ := h; exact ⟨hc, dx, fv, by rw [e]; exact q, r⟩
theorem ObjR.there {H : Hp} {a : Addr} {o : MO} (h : ObjR T K F mu H a o) : H a ≠ none := by
  cases o with
  | lst xs => obtain ⟨vs, q, r⟩ := h; rw [q]; simp
  | dic kvs => obtain ⟨ws, q, r⟩ := h; rw [q]; simp
  | ins c fs => obtain ⟨_, dx, fv, q, r⟩ := h; rw [q]; simp
section
variable {Z H : Hp} {M : Store}
theorem HR.sqL {a : Addr} {vs : List V} (h : HR T K Z H M mu F) (q : SqL K F a vs) : SqL K H a vs := Gr.sqL (mu := mu) (mu' := mu) ⟨h.sub, fun _ _ h => h⟩ q
theorem HR.sqT {a : Addr} {vs : List V} (h : HR T K Z H M mu F) (q : SqT K F a vs) : SqT K H a vs := Gr.sqT (mu := mu) (mu' := mu) ⟨h.sub, fun _ _ h => h⟩ q
theorem HR.at {a : Addr} {l : Nat} (h : HR T K Z H M mu F) (e : mu[l]? = some a) : ∃ o, M[l]? = some o ∧ ObjR T K F mu H a o := by
  have hl : l < M.length := by
    rw [← h.len]
    exact (List.getElem?_eq_some_iff.mp e).1
  exact ⟨M[l], List.getElem?_eq_getElem hl, h.obj l a _ e (List.getElem?_eq_getElem hl)⟩
theorem HR.mem {a : Addr} (h : HR T K Z H M mu F) (e : a ∈ mu) : H a ≠ none := by
  obtain ⟨l, hl, e⟩ := List.mem_iff_getElem.mp e
  obtain ⟨o, _, r⟩ := h.at (l := l) (a := a) (by rw [List.getElem?_eq_getElem hl, e])
  exact r.there
theorem HR.newF {a : Addr} (h : HR T K Z H M mu F) (e : H a = none) : F a = none ∧ a ∉ mu := by
  refine ⟨?_, fun q => h.mem q e⟩
  cases q : F a with
  | none => rfl
  | some o => rw [h.sub a o q] at e; cases e
theorem HR.nb {a : Addr} (h : HR T K Z H M mu F) (e : H a = none) : ¬ T.bor a := fun z => h.bor a z (h.newF e).1
theorem HR.frz {a : Addr} {o : HO} (h : HR T K Z H M mu F) (e : H a = none) : HR T K Z (upd H a o) M mu (upd F a o) ∧ Gr F mu (upd F a o) mu := by
  obtain ⟨e1, e2⟩ := h.newF e
  have g : Gr F mu (upd F a o) mu := ⟨fun b u q => by rw [upd_ne (ne_of_none q e1)]; exact q, fun _ _ q => q⟩
  refine ⟨⟨fun b u q => ?_, h.len, h.nd, fun b hb => ?_, fun l b u q1 q2 => ?_, fun b u q => ?_, fun b q => ?_⟩, g⟩
  · by_cases hb : b = a
    · subst hb; rw [upd_same] at q ⊢; exact q
    · rw [upd_ne hb] at q ⊢; exact h.sub b u q
  · rw [upd_ne (fun z => e2 (by rw [← z]; exact hb))]; exact h.out b hb
  · have hb : b ≠ a := fun z => e2 (z ▸ List.mem_of_getElem? q1)
    exact ((h.obj l b u q1 q2).mono g).heap (upd_ne hb)
  · obtain ⟨z1, z2, z3⟩ := h.zs b u q
    have hb : b ≠ a := ne_of_none z1 e
    rw [upd_ne hb, upd_ne hb]
    exact ⟨z1, z2, z3⟩
  · by_cases hb : b = a
    · subst hb; rw [upd_same]; exact fun z => by cases z
    · rw [upd_ne hb]; exact h.bor b q
theorem HR.alloc {a : Addr} {o : HO} {m : MO} (h : HR T K Z H M mu F) (e : H a = none) (r : ObjR T K F (mu ++ [a]) (upd H a o) a m) : HR T K Z (upd H a o) (M ++ [m]) (mu ++ [a]) F ∧ Gr F mu F (mu ++ [a]) := by
  obtain ⟨e1, e2⟩ := h.newF e
  have g : Gr F mu F (mu ++ [a]) := ⟨fun _ _ q => q, fun l b q => by rw [List.getElem?_append_left (List.getElem?_eq_some_iff.mp q).1]; exact q⟩
  refine ⟨⟨fun b u q => ?_, by simp [h.len], ?_, fun b hb => ?_, fun l b u q1 q2 => ?_, fun b u q => ?_, h.bor⟩, g⟩
  · have hb : b ≠ a := fun z => by rw [z, e1] at q; cases q
    rw [upd_ne hb]; exact h.sub b u q
  · exact List.nodup_append.mpr ⟨h.nd, by simp, fun x hx y hy => by simp at hy; subst hy; intro z; subst z; exact e2 hx⟩
  · rcases List.mem_append.mp hb with hb | hb
    · exact h.out b hb
    · simp at hb; subst hb; exact e1
  · by_cases hl : l < mu.length
    · rw [List.getElem?_append_left hl] at q1
      rw [List.getElem?_append_left (by rw [← h.len]; exact hl)] at q2
      have hb : b ≠ a := fun z => e2 (z ▸ List.mem_of_getElem? q1)
      exact ((h.obj l b u q1 q2).mono g).heap (upd_ne hb)
    · have hl2 : l = mu.length := by
        have := (List.getElem?_eq_some_iff.mp q1).1
        simp at this; omega
      subst hl2
      rw [List.getElem?_append_right (Nat.le_refl _)] at q1
      rw [h.len, List.getElem?_append_right (Nat.le_refl _)] at q2
      simp at q1 q2
      subst q1 q2
      exact r
  · obtain ⟨z1, z2, z3⟩ := h.zs b u q
    have hb : b ≠ a := ne_of_none z1 e
    rw [upd_ne hb]
    exact ⟨z1, z2, fun hm => (List.mem_append.mp hm).elim z3 fun hm => hb (by simpa using hm)⟩
theorem HR.put {a : Addr} {l : Nat} {o : HO} {m : MO} (h : HR T K Z H M mu F) (e : mu[l]? = some a) (r : ObjR T K F mu (upd H a o) a m) : HR T K Z (upd H a o) (M.set l m) mu F := by
  have ha : F a = none := h.out a (List.mem_of_getElem? e)
  refine ⟨fun b u q => ?_, by simp [h.len], h.nd, h.out, fun l' b u q1 q2 => ?_, fun b u q => ?_, h.bor⟩
  · have hb : b ≠ a := fun z => by rw [z, ha] at q; cases q
    rw [upd_ne hb]; exact h.sub b u q
  · by_cases hl : l = l'
    · subst hl
      rw [e] at q1; cases q1
      have hl : l < M.length := by rw [← h.len]; exact (List.getElem?_eq_some_iff.mp e).1
      rw [List.getElem?_set_self hl] at q2; cases q2
      exact r
    · rw [List.getElem?_set_ne hl] at q2
      have hb : b ≠ a := fun z => by
        subst z
        obtain ⟨h1, e1⟩ := List.getElem?_eq_some_iff.mp e
        obtain ⟨h2, e2⟩ := List.getElem?_eq_some_iff.mp q1
        exact hl ((List.getElem_inj h.nd).mp (e1.trans e2.symm))
      exact (h.obj l' b u q1 q2).heap (upd_ne hb)
  · obtain ⟨z1, z2, z3⟩ := h.zs b u q
    have hb : b ≠ a := fun z => z3 (by rw [z]; exact List.mem_of_getElem? e)
    rw [upd_ne hb]
    exact ⟨z1, z2, z3⟩
theorem Rp.lsM {v : V} {d : D} {xs : List D} (r : Rp T K F mu v d) (h : HR T K Z H M mu F) (e : asM M d = some xs) : ∃ a vs, v = .ref a ∧ H a = some (.lst vs) ∧ Rps T K F mu vs xs := by
  cases r with
  | lst q t => cases e; exact ⟨_, _, rfl, h.sub _ _ q, t⟩
  | nl n q t => cases e; exact ⟨_, _, rfl, h.sub _ _ q, t⟩
  | @ref a l q =>
    obtain ⟨o, e2, ro⟩ := h.at q
    simp only [asM, e2] at e
    cases o with
    | lst ys => cases e; obtain ⟨vs, q2, t⟩ := ro; exact ⟨a, vs, rfl, q2, t⟩
    | dic _ => cases e
    | ins _ _ => cases e
  | _ => cases e
theorem Rp.lsL {v : V} {d : D} {xs : List D} (r : Rp T K F mu v d) (h : HR T K Z H M mu F) (e : asL M d = some xs) : ∃ a vs, v = .ref a ∧ (SqL K H a vs ∨ SqT K H a vs) ∧ Rps T K F mu vs xs := by
  cases r with
  | arrL q t => cases e; exact ⟨_, _, rfl, .inl (h.sqL q), t⟩
  | arrT q t => cases e; exact ⟨_, _, rfl, .inr (h.sqT q), t⟩
  | lst q t =>
    obtain ⟨a, vs, e1, e2, e3⟩ := Rp.lsM (.lst q t) h e
    exact ⟨a, vs, e1, .inl (SqL.of e2), e3⟩
  | nl n q t =>
    obtain ⟨a, vs, e1, e2, e3⟩ := Rp.lsM (.nl n q t) h e
    exact ⟨a, vs, e1, .inl (SqL.of e2), e3⟩
  | @ref a l q =>
    obtain ⟨a, vs, e1, e2, e3⟩ := Rp.lsM (.ref q) h e
    exact ⟨a, vs, e1, .inl (SqL.of e2), e3⟩
  | _ => cases e
theorem Rp.sq {v : V} {d : D} {xs : List D} (r : Rp T K F mu v d) (h : HR T K Z H M mu F) (e : asS M d = some xs) : ∃ a vs, v = .ref a ∧ (SqL K H a vs ∨ SqT K H a vs) ∧ Rps T K F mu vs xs := by
  cases r with
  | tup q t => cases e; exact ⟨_, _, rfl, .inr (SqT.of (h.sub _ _ q)), t⟩
  | lst q t => obtain ⟨a, vs, e1, e2, e3⟩ := Rp.lsL (.lst q t) h e; exact ⟨a, vs, e1, e2, e3⟩
  | nl n q t => obtain ⟨a, vs, e1, e2, e3⟩ := Rp.lsL (.nl n q t) h e; exact ⟨a, vs, e1, e2, e3⟩
  | arrL q t => obtain ⟨a, vs, e1, e2, e3⟩ := Rp.lsL (.arrL q t) h e; exact ⟨a, vs, e1, e2, e3⟩
  | arrT q t => obtain ⟨a, vs, e1, e2, e3⟩ := Rp.lsL (.arrT q t) h e; exact ⟨a, vs, e1, e2, e3⟩
  | ref q => obtain ⟨a, vs, e1, e2, e3⟩ := Rp.lsL (.ref q) h e; exact ⟨a, vs, e1, e2, e3⟩
  | _ => cases e
theorem Rp.insI {v : V} {d : D} {c : Nat} {fs : List (Nat × D)} (r : Rp T K F mu v d) (h : HR T K Z H M mu F) (e : asI M d = some (c, fs)) : T.okC c ∧ ∃ a dx fv, v = .ref a ∧ H a = some (.ins (T.cad K c) dx fv) ∧ Rfs T K F mu fv fs := by
  cases r with
  | ins hc q t => cases e; exact ⟨hc, _, _, _, rfl, h.sub _ _ q, t⟩
  | no n hc q t => cases e; exact ⟨hc, _, _, _, rfl, h.sub _ _ q, t⟩
  | @ref a l q =>
    obtain ⟨o, e2, ro⟩ := h.at q
    simp only [asI, e2] at e
    cases o with
    | ins c fs => cases e; obtain ⟨hc, dx, fv, q2, t⟩ := ro; exact ⟨hc, a, dx, fv, rfl, q2, t⟩
    | dic _ => cases e
    | lst _ => cases e
  | _ => cases e
end

def EnvR (T : Tb) (K : PySem.W.Frag) (F : Hp) (mu : List Addr) (sg : L2.St) (env : Ev) : Prop := sg.length = env.length ∧ ∀ (i : Nat) (d : D), env[i]? = some (some d) → ∃ v : V, sg[i]? = some (some v) ∧ Rp T K F mu v d
theorem EnvR.mono {sg : L2.St} {env : Ev} (g : Gr F mu F' mu') (r : EnvR T K F mu sg env) : EnvR T K F' mu' sg env := ⟨r.1, fun i d e => let ⟨v, h, q⟩ := r.2 i d e; ⟨v, h, q.mono g⟩⟩
theorem EnvR.set {sg : L2.St} {env : Ev} {i : Nat} {v : V} {d : D} (r : EnvR T K F mu sg env) (q : Rp T K F mu v d) : EnvR T K F mu (sg.set i (some v)) (setE env i d) := by
  refine ⟨by simp [setE, r.1], fun j x e => ?_⟩
  unfold setE at e
  by_cases hj : i = j
  · subst hj
    have hl : i < env.length := by
      have := (List.getElem?_eq_some_iff.mp e).1
      simpa using this
    rw [List.getElem?_set_self hl] at e
    cases e
    exact ⟨v, List.getElem?_set_self (by rw [r.1]; exact hl), q⟩
  · rw [List.getElem?_set_ne hj] at e ⊢
    exact r.2 j x e
theorem EnvR.wipe {sg : L2.St} {env : Ev} (r : EnvR T K F mu sg env) : ∀ vs : List Nat, EnvR T K F mu (wipe sg vs) (wipeE env vs)
  | [] => r
  | i :: vs => by
    have ih := r.wipe vs
    refine ⟨by simp [L2.wipe, wipeE, ih.1], fun j x e => ?_⟩
    unfold wipeE at e
    unfold L2.wipe
    by_cases hj : i = j
    · subst hj
      by_cases hl : i < (wipeE env vs).length
      · rw [List.getElem?_set_self hl] at e; cases e
      · rw [List.getElem?_eq_none (by simpa using hl)] at e; cases e
    · rw [List.getElem?_set_ne hj] at e ⊢
      exact ih.2 j x e
end

def XR (T : Tb) (K : PySem.W.Frag) (F : Hp) (mu : List Addr) (c : Nat) (fs : List (Nat × D)) (cls : Value) (d : Option Addr) (H : Hp) : Prop :=
  cls = .ref (T.cad K c) ∧ ∃ a fv, d = some a ∧ H a = some (.xd fv) ∧ Rfs T K F mu fv fs
abbrev WE1 := Value → Option Addr → Hp → Prop
section
variable (T : Tb) (K : PySem.W.Frag) (Z : Hp) (w : WE1)
def PG {α : Type} (F : Hp) (mu : List Addr) (r : Res α) (Q : α → Store → Hp → List Addr → Hp → Prop) : Prop := match r with
  | .bad => False
  | .ok a M' => ∀ H' mu' F', Gr F mu F' mu' → HR T K Z H' M' mu' F' → Q a M' H' mu' F'
  | .exc c fs M' => ∀ H' mu' F', Gr F mu F' mu' → HR T K Z H' M' mu' F' → ∀ cls d, XR T K F' mu' c fs cls d H' → w cls d H'
def QD (T : Tb) (K : PySem.W.Frag) (Q : VK) : D → Store → Hp → List Addr → Hp → Prop := fun d _ H' mu' F' => ∀ v, Rp T K F' mu' v d → Q v H'
def QDs (T : Tb) (K : PySem.W.Frag) (Q : List V → Hp → Prop) : List D → Store → Hp → List Addr → Hp → Prop := fun ds _ H' mu' F' => ∀ vs, Rps T K F' mu' vs ds → Q vs H'
def QB (Q : Bool → Hp → Prop) : Bool → Store → Hp → List Addr → Hp → Prop := fun b _ H' _ _ => Q b H'
end
section
variable {T : Tb} {K : PySem.W.Frag} {Z : Hp} {w : WE1} {F F' : Hp} {mu mu' : List Addr} {α β : Type}
theorem PG.mono {r : Res α} {Q : α → Store → Hp → List Addr → Hp → Prop} (g : Gr F mu F' mu') (h : PG T K Z w F mu r Q) : PG T K Z w F' mu' r Q := by
  cases r with
  | bad => exact h
  | ok a M => exact fun H2 mu2 F2 g2 => h H2 mu2 F2 (g.trans g2)
  | exc c fs M => exact fun H2 mu2 F2 g2 => h H2 mu2 F2 (g.trans g2)
theorem PG.imp {r : Res α} {Q Q' : α → Store → Hp → List Addr → Hp → Prop} (h : PG T K Z w F mu r Q) (q : ∀ a M H' mu' F', Gr F mu F' mu' → HR T K Z H' M mu' F' → Q a M H' mu' F' → Q' a M H' mu' F') : PG T K Z w F mu r Q' := by
  cases r with
  | bad => exact h
  | ok a M => exact fun H2 mu2 F2 g2 hr => q a M H2 mu2 F2 g2 hr (h H2 mu2 F2 g2 hr)
  | exc c fs M => exact h
theorem PG.exc {w' : WE1} {r : Res α} {Q : α → Store → Hp → List Addr → Hp → Prop} (h : PG T K Z w F mu r Q) (q : ∀ c d H, w c d H → w' c d H) : PG T K Z w' F mu r Q := by
  cases r with
  | bad => exact h
  | ok a M => exact h
  | exc c fs M => exact fun H2 mu2 F2 g2 hr cls d x => q _ _ _ (h H2 mu2 F2 g2 hr cls d x)
theorem PG.bind {r : Res α} {k : α → Store → Res β} {Q : β → Store → Hp → List Addr → Hp → Prop} (h : PG T K Z w F mu (r.bind k) Q) : PG T K Z w F mu r (fun a M1 _ mu1 F1 => PG T K Z w F1 mu1 (k a M1) Q) := by
  cases r with
  | bad => exact h
  | ok a M => exact fun H2 mu2 F2 g2 _ => PG.mono g2 h
  | exc c fs M => exact h
theorem PG.here {a : α} {M : Store} {H : Hp} {Q : α → Store → Hp → List Addr → Hp → Prop} (h : PG T K Z w F mu (.ok a M) Q) (hr : HR T K Z H M mu F) : Q a M H mu F := h H mu F Gr.refl hr
end
end Lp

namespace Lp
open PySem PySem.Spec L2
open PyProof.Rows (subscriptTail)
section
variable {T : Tb} {X : Cx}
def R2D (T : Tb) (K : PySem.W.Frag) (f : D → D → Store → Res D) : R2 := fun x y H Q => ∃ Z w M mu F a b, HR T K Z H M mu F ∧ Rp T K F mu x a ∧ Rp T K F mu y b ∧ PG T K Z w F mu (f a b M) (QD T K Q)
theorem op_bin (op : Operator) : OpR X (binaryOp op) (R2D T X.K (binD op)) := by
  rintro pins s σ H x y v u Q I rx ry ⟨Z, w, M, mu, F, a, b, hr, ra, rb, p⟩
  cases op with
  | Add =>
    cases ra with
    | int i => cases rb with
      | int j => exact op_add pins s σ H _ _ v u Q I rx ry ⟨_, _, rfl, rfl, p.here hr _ (.int _)⟩
      | _ => exact p.elim
    | str i => cases rb with
      | str j =>
        have p : PG T X.K Z w F mu (if i.length + j.length ≤ sizeLine then .ok (.str (i ++ j)) M else .bad) (QD T X.K Q) := p
        by_cases hl : i.length + j.length ≤ sizeLine
        · rw [if_pos hl] at p
          exact op_add_str pins s σ H _ _ v u Q I rx ry ⟨_, _, rfl, rfl, hl, p.here hr _ (.str _)⟩
        · rw [if_neg hl] at p; exact p.elim
      | _ => exact p.elim
    | @tup a1 v1 d1 q1 t1 => cases rb with
      | @tup a2 v2 d2 q2 t2 =>
        have p : PG T X.K Z w F mu (if d1 ≠ [] ∧ d2 ≠ [] ∧ d1.length + d2.length ≤ sizeLine then .ok (.tup (d1 ++ d2)) M else .bad) (QD T X.K Q) := p
        by_cases hl : d1 ≠ [] ∧ d2 ≠ [] ∧ d1.length + d2.length ≤ sizeLine
        · rw [if_pos hl] at p
          obtain ⟨n1, n2, hl⟩ := hl
          have m1 : v1 ≠ [] := fun e => n1 (by have := t1.len; rw [e] at this; exact List.length_eq_zero_iff.mp this.symm)
          have m2 : v2 ≠ [] := fun e => n2 (by have := t2.len; rw [e] at this; exact List.length_eq_zero_iff.mp this.symm)
          refine op_catT pins s σ H _ _ v u Q I rx ry ⟨a1, a2, v1, v2, rfl, rfl, SqT.of (hr.sub _ _ q1), SqT.of (hr.sub _ _ q2), m1, by rw [t1.len, t2.len]; exact hl, fun e => absurd e m2, fun _ q hq => ?_⟩
          obtain ⟨hr2, g⟩ := hr.frz (o := .tup (v1 ++ v2)) hq
          exact p _ _ _ g hr2 _ (.tup upd_same ((t1.app t2).mono g))
        · rw [if_neg hl] at p; exact p.elim
      | _ => exact p.elim
    | _ => exact p.elim
  | Sub =>
    cases ra with
    | int i => cases rb with
      | int j => exact op_sub pins s σ H _ _ v u Q I rx ry ⟨_, _, rfl, rfl, p.here hr _ (.int _)⟩
      | _ => exact p.elim
    | _ => exact p.elim
  | Mult =>
    cases ra with
    | int i => cases rb with
      | int j =>
        have p : PG T X.K Z w F mu (if mulOk i j then .ok (.int (i * j)) M else .bad) (QD T X.K Q) := p
        by_cases hl : mulOk i j
        · rw [if_pos hl] at p
          exact op_mul pins s σ H _ _ v u Q I rx ry ⟨_, _, rfl, rfl, hl, p.here hr _ (.int _)⟩
        · rw [if_neg hl] at p; exact p.elim
      | _ => exact p.elim
    | _ => exact p.elim
  | FloorDiv =>
    cases ra with
    | int i => cases rb with
      | int j =>
        have p : PG T X.K Z w F mu (if 0 < j ∧ j < 1073741824 then .ok (.int (i / j)) M else .bad) (QD T X.K Q) := p
        by_cases hl : 0 < j ∧ j < 1073741824
        · rw [if_pos hl] at p
          exact op_fdiv pins s σ H _ _ v u Q I rx ry ⟨_, _, rfl, rfl, hl, p.here hr _ (.int _)⟩
        · rw [if_neg hl] at p; exact p.elim
      | _ => exact p.elim
    | _ => exact p.elim
  | Mod =>
    cases ra with
    | int i => cases rb with
      | int j =>
        have p : PG T X.K Z w F mu (if 0 < j then .ok (.int (i % j)) M else .bad) (QD T X.K Q) := p
        by_cases hl : 0 < j
        · rw [if_pos hl] at p
          exact op_mod pins s σ H _ _ v u Q I rx ry ⟨_, _, rfl, rfl, hl, p.here hr _ (.int _)⟩
        · rw [if_neg hl] at p; exact p.elim
      | _ => exact p.elim
    | _ => exact p.elim
  | Pow =>
    cases ra with
    | int i => cases rb with
      | int j =>
        have p : PG T X.K Z w F mu (if 0 ≤ j ∧ j ≤ 1000000 ∧ i.natAbs < 2 ^ 64 then .ok (.int (i ^ j.toNat)) M else .bad) (QD T X.K Q) := p
        by_cases hl : 0 ≤ j ∧ j ≤ 1000000 ∧ i.natAbs < 2 ^ 64
        · rw [if_pos hl] at p
          exact op_pow pins s σ H _ _ v u Q I rx ry ⟨_, _, rfl, rfl, hl, p.here hr _ (.int _)⟩
        · rw [if_neg hl] at p; exact p.elim
      | _ => exact p.elim
    | _ => exact p.elim
  | _ => exact p.elim
theorem op_neg : UnR X (unaryOp .USub) (fun x H Q => ∃ Z w M mu F a, HR T X.K Z H M mu F ∧ Rp T X.K F mu x a ∧ PG T X.K Z w F mu (negD a M) (QD T X.K Q)) := by
  rintro pins s σ H x v Q I rx ⟨Z, w, M, mu, F, a, hr, ra, p⟩
  cases ra with
  | int i => exact un_neg pins s σ H _ v Q I rx ⟨_, rfl, p.here hr _ (.int _)⟩
  | _ => exact p.elim
theorem mapO_len {α β : Type} {f : α → Option β} : ∀ {xs : List α} {ys : List β}, mapO f xs = some ys → ys.length = xs.length
  | [], _, h => by cases h; rfl
  | x :: xs, ys, h => by
    simp only [mapO] at h
    split at h
    · rename_i a r e1 e2
      cases h
      simp [mapO_len e2]
    · cases h
structure DatOk (n : Nat) (p : PyData) : Prop where
  lay : PyData.canLay0 p = true
  dep : PyData.depth p ≤ n
theorem datAll {K : PySem.W.Frag} {H F : Hp} {mu : List Addr} {M : Store} {n : Nat} (ih : ∀ {v : V} {d : D} {p : PyData}, Rp T K F mu v d → dat M n d = some p → Dp K H v p ∧ DatOk n p) :
    ∀ {vs : List V} {ds : List D} {ps : List PyData}, Rps T K F mu vs ds → mapO (dat M n) ds = some ps → DpAll K H vs ps ∧ PyData.canLayAll0 ps = true ∧ PyData.depthAll ps ≤ n
  | _, _, _, .nil, h => by cases h; exact ⟨.nil, rfl, Nat.zero_le _⟩
  | _, _, _, .cons r t, h => by
    simp only [mapO] at h
    split at h
    · rename_i a b e1 e2
      cases h
      obtain ⟨h1, h2⟩ := ih r e1
      obtain ⟨h3, h4, h5⟩ := datAll ih t e2
      refine ⟨.cons h1 h3, ?_, ?_⟩
      · simp only [PyData.canLayAll0, h2.lay, h4, Bool.and_self]
      · simp only [PyData.depthAll]; exact Nat.max_le.mpr ⟨h2.dep, h5⟩
    · cases h
theorem datR {K : PySem.W.Frag} {Z H F : Hp} {mu : List Addr} {M : Store} (hr : HR T K Z H M mu F) : ∀ (n : Nat) {v : V} {d : D} {p : PyData}, Rp T K F mu v d → dat M n d = some p → Dp K H v p ∧ DatOk n p
  | 0, _, _, _, _, h => by cases h
  | n + 1, v, d, p, r, h => by
    have ih := @datAll T K H F mu M n (fun {v d p} => datR hr n)
    cases r with
    | non => cases h; exact ⟨.non, rfl, Nat.zero_le _⟩
    | bl b => cases h; exact ⟨.bl b, rfl, Nat.zero_le _⟩
    | int i => cases h; exact ⟨.int i, rfl, Nat.zero_le _⟩
    | str s =>
      have h : (if PyData.strOk s then some (PyData.str s) else none) = some p := h
      by_cases hs : PyData.strOk s = true
      · rw [if_pos hs] at h; cases h; exact ⟨.str s, hs, Nat.zero_le _⟩
      · rw [if_neg hs] at h; cases h
    | tup q t =>
      have h : (mapO (dat M n) _).map PyData.tuple = some p := h
      obtain ⟨ps, e, rfl⟩ := Option.map_eq_some_iff.mp h
      obtain ⟨h1, h2, h3⟩ := ih t e
      exact ⟨.tup (SqT.of (hr.sub _ _ q)) h1, h2, Nat.succ_le_succ h3⟩
    | lst q t =>
      have h : (mapO (dat M n) _).map PyData.list = some p := h
      obtain ⟨ps, e, rfl⟩ := Option.map_eq_some_iff.mp h
      obtain ⟨h1, h2, h3⟩ := ih t e
      exact ⟨.lst (SqL.of (hr.sub _ _ q)) h1, h2, Nat.succ_le_succ h3⟩
    | nl n q t =>
      have h : (mapO (dat M _) _).map PyData.list = some p := h
      obtain ⟨ps, e, rfl⟩ := Option.map_eq_some_iff.mp h
      obtain ⟨h1, h2, h3⟩ := ih t e
      exact ⟨.lst (SqL.of (hr.sub _ _ q)) h1, h2, Nat.succ_le_succ h3⟩
    | ref q =>
      obtain ⟨o, e2, ro⟩ := hr.at q
      simp only [dat, e2] at h
      cases o with
      | lst xs =>
        obtain ⟨ps, e, rfl⟩ := Option.map_eq_some_iff.mp h
        obtain ⟨vs, q2, t⟩ := ro
        obtain ⟨h1, h2, h3⟩ := ih t e
        exact ⟨.lst (SqL.of q2) h1, h2, Nat.succ_le_succ h3⟩
      | dic _ => cases h
      | ins _ _ => cases h
    | _ => cases h
theorem data_shaped {n : Nat} {p : PyData} (h : DatOk n p) (hn : n ≤ 64) : SeqAt.shaped p = true := by
  unfold SeqAt.shaped
  rw [h.lay, decide_eq_true (Nat.le_trans h.dep hn)] <;> rfl
theorem eq_data {K : PySem.W.Frag} {Z H F : Hp} {mu : List Addr} {M : Store} {x y : V} {a b : D} {k : Bool} (hr : HR T K Z H M mu F) (ra : Rp T K F mu x a) (rb : Rp T K F mu y b) (e : eqB M a b = some k) :
    (scal x y = true ∧ decide (x = y) = k) ∨ ∃ d e, Dp K H x d ∧ Dp K H y e ∧ SeqAt.shaped d = true ∧ SeqAt.shaped e = true ∧ PyData.eqv d e = k := by
  have gen : (match dat M 12 a, dat M 12 b with | some x, some y => some (PyData.eqv x y) | _, _ => none) = some k → ∃ d e, Dp K H x d ∧ Dp K H y e ∧ SeqAt.shaped d = true ∧ SeqAt.shaped e = true ∧ PyData.eqv d e = k := fun e => by
    split at e
    · rename_i p q e1 e2
      obtain ⟨h1, h2⟩ := datR hr 12 ra e1
      obtain ⟨h3, h4⟩ := datR hr 12 rb e2
      cases e
      exact ⟨p, q, h1, h3, data_shaped h2 (by decide), data_shaped h4 (by decide), rfl⟩
    · cases e
  unfold eqB at e
  split at e
  · cases ra; cases rb; cases e; exact .inl ⟨rfl, by simp⟩
  · cases ra; cases rb; cases e; exact .inl ⟨rfl, by simp⟩
  · cases ra; cases rb; cases e; exact .inl ⟨rfl, by simp⟩
  · exact .inr (gen e)
theorem isNon_of {K : PySem.W.Frag} {F : Hp} {mu : List Addr} {x : V} {a : D} (r : Rp T K F mu x a) : isNon a = decide (x = .non) := by
  cases r <;> simp [isNon]
theorem flat_of {K : PySem.W.Frag} {F : Hp} {mu : List Addr} {x : V} {a : D} (r : Rp T K F mu x a) (h : flatD a = true) : flatV x = true := by
  cases r <;> first | rfl | cases h
theorem eqF_of {K : PySem.W.Frag} {F : Hp} {mu : List Addr} {x y : V} {a b : D} (r : Rp T K F mu x a) (q : Rp T K F mu y b) (h : flatD a = true) (h2 : flatD b = true) : eqF a b = eqV x y := by
  cases r <;> first | exact absurd h Bool.false_ne_true | (cases q <;> first | rfl | exact absurd h2 Bool.false_ne_true)
theorem flats_of {K : PySem.W.Frag} {F : Hp} {mu : List Addr} : ∀ {vs : List V} {ds : List D}, Rps T K F mu vs ds → ds.all flatD = true → vs.all flatV = true
  | _, _, .nil, _ => rfl
  | _, _, .cons r t, h => by
    rw [List.all_cons, Bool.and_eq_true] at h ⊢
    exact ⟨flat_of r h.1, flats_of t h.2⟩
theorem anyF_of {K : PySem.W.Frag} {F : Hp} {mu : List Addr} {x : V} {a : D} (r : Rp T K F mu x a) (h : flatD a = true) : ∀ {vs : List V} {ds : List D}, Rps T K F mu vs ds → ds.all flatD = true → (ds.any fun y => eqF y a) = inV x vs
  | _, _, .nil, _ => rfl
  | _, _, .cons q t, h2 => by
    rw [List.all_cons, Bool.and_eq_true] at h2
    unfold inV
    rw [List.any_cons, List.any_cons, eqF_of q r h2.1 h, anyF_of r h t h2.2]
    rfl
theorem key_val {K : PySem.W.Frag} {F : Hp} {mu : List Addr} {ws : List (Key × V)} {kvs : List (Key × D)} (r : RK T K F mu ws kvs) (k : Key) : (∀ d, dval kvs k = some d → ∃ v, valV ws k = some v ∧ Rp T K F mu v d) ∧ (dval kvs k = none → valV ws k = none) := by
  induction r with
  | nil => exact ⟨fun d h => (by cases h), fun _ => rfl⟩
  | @cons p q ws kvs r t ih =>
    obtain ⟨k1, v⟩ := p
    obtain ⟨k2, d⟩ := q
    have e : k1 = k2 := r.1
    have r2 : Rp T K F mu v d := r.2
    subst e
    by_cases hk : k1 = k
    · subst hk
      refine ⟨fun x h => ?_, fun h => ?_⟩
      · have : some d = some x := by simpa [dval, List.find?_cons] using h
        cases this
        exact ⟨v, valV_pos rfl, r2⟩
      · simp [dval, List.find?_cons] at h
    · rw [valV_neg hk]
      have e2 : dval ((k1, d) :: kvs) k = dval kvs k := by simp [dval, List.find?_cons, hk]
      rw [e2]
      exact ih
theorem key_put {K : PySem.W.Frag} {F : Hp} {mu : List Addr} {ws : List (Key × V)} {kvs : List (Key × D)} (r : RK T K F mu ws kvs) (k : Key) {v : V} {d : D} (rv : Rp T K F mu v d) : RK T K F mu (putK ws k v) (dput kvs k d) := by
  have h1 : (ws.any fun kv => decide (kv.1 = k)) = kvs.any fun kv => decide (kv.1 = k) := by
    induction r with
    | nil => rfl
    | cons r t ih => rw [List.any_cons, List.any_cons, ih, r.1]
  unfold putK dput
  rw [h1]
  by_cases hk : (kvs.any fun kv => decide (kv.1 = k)) = true
  · rw [if_pos hk, if_pos hk]
    clear h1 hk
    induction r with
    | nil => exact .nil
    | @cons p q ws kvs r t ih =>
      obtain ⟨k1, v1⟩ := p
      obtain ⟨k2, d1⟩ := q
      have e : k1 = k2 := r.1
      subst e
      refine .cons ?_ ih
      by_cases hk : k1 = k
      · simp only [if_pos hk]; exact ⟨by trivial, rv⟩
      · simp only [if_neg hk]; exact ⟨by trivial, r.2⟩
  · rw [if_neg hk, if_neg hk]
    clear h1 hk
    induction r with
    | nil => exact .cons ⟨rfl, rv⟩ .nil
    | cons r t ih => exact .cons r ih
theorem asK_of {K : PySem.W.Frag} {F : Hp} {mu : List Addr} {x : V} {a : D} {k : Key} (r : Rp T K F mu x a) (h : asK a = some k) : x = kV k := by
  cases r <;> first | (cases h <;> rfl) | cases h
theorem dget_of {K : PySem.W.Frag} {Z H F : Hp} {mu : List Addr} {M : Store} {y : V} {a : Addr} {b : D} {l : Nat} {k : Key} {kvs : List (Key × D)} (hr : HR T K Z H M mu F) (q : mu[l]? = some a) (e : M[l]? = some (.dic kvs)) (rb : Rp T K F mu y b) (hk : asK b = some k) :
    ∃ ws, H a = some (.dK ws) ∧ RK T K F mu ws kvs ∧ y = kV k := by
  obtain ⟨o, e2, ro⟩ := hr.at q
  rw [e] at e2; cases e2
  obtain ⟨ws, h1, h2⟩ := ro
  exact ⟨ws, h1, h2, asK_of rb hk⟩
theorem val_isSome {K : PySem.W.Frag} {F : Hp} {mu : List Addr} {ws : List (Key × V)} {kvs : List (Key × D)} (r : RK T K F mu ws kvs) (k : Key) : (valV ws k).isSome = (dval kvs k).isSome := by
  obtain ⟨h1, h2⟩ := key_val r k
  cases e : dval kvs k with
  | none => rw [h2 e] <;> rfl
  | some d => obtain ⟨v, h, _⟩ := h1 d e; rw [h] <;> rfl
theorem in_data {K : PySem.W.Frag} {Z H F : Hp} {mu : List Addr} {M : Store} {x y : V} {a b : D} {k : Bool} (hr : HR T K Z H M mu F) (ra : Rp T K F mu x a) (rb : Rp T K F mu y b) (e : inB M a b = some k) :
    (∃ l vs, y = .ref l ∧ (SqL K H l vs ∨ SqT K H l vs) ∧ flatV x = true ∧ vs.all flatV = true ∧ inV x vs = k) ∨ ∃ l o, y = .ref l ∧ DGet H l x o ∧ o.isSome = k := by
  have lst : ∀ {l : Addr} {vs : List V} {ys : List D}, (SqL K H l vs ∨ SqT K H l vs) → Rps T K F mu vs ys → (if flatD a && ys.all flatD then some (ys.any fun y => eqF y a) else none) = some k →
      (SqL K H l vs ∨ SqT K H l vs) ∧ flatV x = true ∧ vs.all flatV = true ∧ inV x vs = k := fun {l vs ys} h t e => by
    by_cases hf : (flatD a && ys.all flatD) = true
    · rw [if_pos hf] at e
      rw [Bool.and_eq_true] at hf
      cases e
      exact ⟨h, flat_of ra hf.1, flats_of t hf.2, (anyF_of ra hf.1 t hf.2).symm⟩
    · rw [if_neg hf] at e; cases e
  have dic : ∀ {ad : Addr} {ws : List (Key × V)} {kvs : List (Key × D)}, H ad = some (.dK ws) → RK T K F mu ws kvs → (match asK a with | some k => some (dval kvs k).isSome | none => none) = some k → ∃ o, DGet H ad x o ∧ o.isSome = k := fun {ad ws kvs} h1 h2 e => by
    cases hk : asK a with
    | none => rw [hk] at e; cases e
    | some key =>
      rw [hk] at e
      refine ⟨valV ws key, by rw [asK_of ra hk]; exact DGet.k h1, ?_⟩
      rw [val_isSome h2]
      exact Option.some.inj e
  cases rb with
  | tup q t => exact .inl ⟨_, _, rfl, lst (.inr (SqT.of (hr.sub _ _ q))) t e⟩
  | lst q t => exact .inl ⟨_, _, rfl, lst (.inl (SqL.of (hr.sub _ _ q))) t e⟩
  | nl n q t => exact .inl ⟨_, _, rfl, lst (.inl (SqL.of (hr.sub _ _ q))) t e⟩
  | dic q t =>
    obtain ⟨o, h1, h2⟩ := dic (hr.sub _ _ q) t.rk e
    exact .inr ⟨_, o, rfl, h1, h2⟩
  | arrL q t => exact .inl ⟨_, _, rfl, lst (.inl (hr.sqL q)) t e⟩
  | arrT q t => exact .inl ⟨_, _, rfl, lst (.inr (hr.sqT q)) t e⟩
  | @ref ad l q =>
    obtain ⟨o, e2, ro⟩ := hr.at q
    simp only [inB, e2] at e
    cases o with
    | lst xs =>
      obtain ⟨vs, q2, t⟩ := ro
      exact .inl ⟨_, _, rfl, lst (.inl (SqL.of q2)) t e⟩
    | dic kvs =>
      simp only at e
      cases hk : asK a with
      | none => rw [hk] at e; cases e
      | some key =>
        rw [hk] at e
        obtain ⟨ws, h1, h2, h3⟩ := dget_of hr q e2 ra hk
        refine .inr ⟨ad, valV ws key, rfl, by rw [h3]; exact DGet.k h1, ?_⟩
        rw [val_isSome h2]
        exact Option.some.inj e
    | ins _ _ => cases e
  | _ => cases e
theorem op_cmp (hu : X.A.units + 64 < cLine) (op : CmpOp) : OpR X (compareOp op) (R2D T X.K (cmpD op)) := by
  rintro pins s σ H x y v u Q I rx ry ⟨Z, w, M, mu, F, a, b, hr, ra, rb, p⟩
  cases op with
  | Eq =>
    have p : PG T X.K Z w F mu (bRes (eqB M a b) M) (QD T X.K Q) := p
    cases e : eqB M a b with
    | none => rw [e] at p; exact p.elim
    | some k =>
      rw [e] at p
      have q := p.here hr _ (.bl k)
      rcases eq_data hr ra rb e with ⟨h1, h2⟩ | ⟨d, e', h1, h2, h3, h4, h5⟩
      · exact op_eq pins s σ H x y v u Q I rx ry ⟨h1, by rw [h2]; exact q⟩
      · exact op_eqD hu pins s σ H x y v u Q I rx ry ⟨d, e', h1, h2, h3, h4, by rw [h5]; exact q⟩
  | NotEq =>
    have p : PG T X.K Z w F mu (bRes ((eqB M a b).map (!·)) M) (QD T X.K Q) := p
    cases e : eqB M a b with
    | none => rw [e] at p; exact p.elim
    | some k =>
      rw [e] at p
      have q := p.here hr _ (.bl (!k))
      rcases eq_data hr ra rb e with ⟨h1, h2⟩ | ⟨d, e', h1, h2, h3, h4, h5⟩
      · exact op_ne pins s σ H x y v u Q I rx ry ⟨h1, by rw [h2]; exact q⟩
      · exact op_neD hu pins s σ H x y v u Q I rx ry ⟨d, e', h1, h2, h3, h4, by rw [h5]; exact q⟩
  | Lt => cases ra with
    | int i => cases rb with
      | int j => exact op_lt pins s σ H _ _ v u Q I rx ry ⟨_, _, rfl, rfl, p.here hr _ (.bl _)⟩
      | _ => exact p.elim
    | _ => exact p.elim
  | LtE => cases ra with
    | int i => cases rb with
      | int j => exact op_le pins s σ H _ _ v u Q I rx ry ⟨_, _, rfl, rfl, p.here hr _ (.bl _)⟩
      | _ => exact p.elim
    | _ => exact p.elim
  | Gt => cases ra with
    | int i => cases rb with
      | int j => exact op_gt pins s σ H _ _ v u Q I rx ry ⟨_, _, rfl, rfl, p.here hr _ (.bl _)⟩
      | _ => exact p.elim
    | _ => exact p.elim
  | GtE => cases ra with
    | int i => cases rb with
      | int j => exact op_ge pins s σ H _ _ v u Q I rx ry ⟨_, _, rfl, rfl, p.here hr _ (.bl _)⟩
      | _ => exact p.elim
    | _ => exact p.elim
  | Is => cases rb with
    | non => exact op_isN pins s σ H x _ v u Q I rx ry ⟨rfl, by rw [← isNon_of ra]; exact p.here hr _ (.bl _)⟩
    | _ => exact p.elim
  | IsNot => cases rb with
    | non => exact op_notN pins s σ H x _ v u Q I rx ry ⟨rfl, by rw [← isNon_of ra]; exact p.here hr _ (.bl _)⟩
    | _ => exact p.elim
  | In =>
    have p : PG T X.K Z w F mu (bRes (inB M a b) M) (QD T X.K Q) := p
    cases e : inB M a b with
    | none => rw [e] at p; exact p.elim
    | some k =>
      rw [e] at p
      have q := p.here hr _ (.bl k)
      rcases in_data hr ra rb e with ⟨l, vs, rfl, h1, h2, h3, h4⟩ | ⟨l, o, rfl, h1, h2⟩
      · exact op_in_seq pins s σ H x _ v u Q I rx ry ⟨l, vs, rfl, h1, h2, h3, by rw [if_neg Bool.false_ne_true, h4]; exact q⟩
      · cases ry
        exact d_in (by omega) I h1 rx fun s3 I3 => ⟨.bl o.isSome, H, I3, rfl, by rw [h2]; exact q⟩
  | NotIn =>
    have p : PG T X.K Z w F mu (bRes ((inB M a b).map (!·)) M) (QD T X.K Q) := p
    cases e : inB M a b with
    | none => rw [e] at p; exact p.elim
    | some k =>
      rw [e] at p
      have q := p.here hr _ (.bl (!k))
      rcases in_data hr ra rb e with ⟨l, vs, rfl, h1, h2, h3, h4⟩ | ⟨l, o, rfl, h1, h2⟩
      · exact op_notIn_seq pins s σ H x _ v u Q I rx ry ⟨l, vs, rfl, h1, h2, h3, by rw [if_pos rfl, h4]; exact q⟩
      · cases ry
        exact d_notIn (by omega) I h1 rx fun s3 I3 => ⟨.bl (!o.isSome), H, I3, rfl, by rw [h2]; exact q⟩
theorem ix_any (hu : X.A.units + 64 < cLine) : IxR X (R2D T X.K idxD) := by
  rintro value slice pins s σ H x y v u Q I rx ry ⟨Z, w, M, mu, F, a, b, hr, ra, rb, p⟩ hs
  have seq : ∀ {ad : Addr} {vs : List V} {ds : List D} {j : Int}, x = .ref ad → y = .int j → (SqL X.K H ad vs ∨ SqT X.K H ad vs) → Rps T X.K F mu vs ds → PG T X.K Z w F mu (oRes (atI ds j) M) (QD T X.K Q) →
      wpAny (model X.prog X.w) X.A (subscriptTail value slice v u) (EP X pins σ Q) X.xe s := fun {ad vs ds j} ex ey h t p => by
    cases e : atI ds j with
    | none => rw [e] at p; exact p.elim
    | some d =>
      rw [e] at p
      obtain ⟨z, hz, rz⟩ := t.at e
      have q := p.here hr z rz
      rcases h with h | h
      · exact ix_list value slice pins s σ H x y v u Q I rx ry ⟨ad, vs, j, z, ex, ey, h, hz, q⟩ hs
      · exact ix_tup value slice pins s σ H x y v u Q I rx ry ⟨ad, vs, j, z, ex, ey, h, hz, q⟩ hs
  cases ra with
  | tup q t => cases rb with
    | int j => exact seq rfl rfl (.inr (SqT.of (hr.sub _ _ q))) t p
    | _ => exact p.elim
  | lst q t => cases rb with
    | int j => exact seq rfl rfl (.inl (SqL.of (hr.sub _ _ q))) t p
    | _ => exact p.elim
  | arrL q t => cases rb with
    | int j => exact seq rfl rfl (.inl (hr.sqL q)) t p
    | _ => exact p.elim
  | arrT q t => cases rb with
    | int j => exact seq rfl rfl (.inr (hr.sqT q)) t p
    | _ => exact p.elim
  | str z => cases rb with
    | int j =>
      have p : PG T X.K Z w F mu (if z.length ≤ sizeLine then oRes (strAt z j) M else .bad) (QD T X.K Q) := p
      by_cases hl : z.length ≤ sizeLine
      · rw [if_pos hl] at p
        unfold strAt at p
        cases e : atI z.cps.toList j with
        | none => rw [e] at p; exact p.elim
        | some c =>
          rw [e] at p
          exact ix_str value slice pins s σ H _ _ v u Q I rx ry ⟨z, j, c, rfl, rfl, hl, e, p.here hr _ (.str _)⟩ hs
      · rw [if_neg hl] at p; exact p.elim
    | _ => exact p.elim
  | @ref ad l q =>
    obtain ⟨o, e2, ro⟩ := hr.at q
    simp only [idxD, e2] at p
    cases o with
    | lst xs =>
      obtain ⟨vs, q2, t⟩ := ro
      cases rb with
      | int j => exact seq rfl rfl (.inl (SqL.of q2)) t p
      | _ => exact p.elim
    | dic kvs =>
      simp only at p
      cases hk : asK b with
      | none => rw [hk] at p; exact p.elim
      | some key =>
        rw [hk] at p
        obtain ⟨ws, h1, h2, h3⟩ := dget_of hr q e2 rb hk
        cases e : dval kvs key with
        | none => simp only [e] at p; exact p.elim
        | some d =>
          simp only [e] at p
          obtain ⟨z, hz, rz⟩ := (key_val h2 key).1 d e
          have g : DGet H ad y (some z) := by rw [h3, ← hz]; exact DGet.k h1
          cases rx
          exact PyProof.Rows.tail_any (dict_typeIs I g) PySem.F.slot_dict_getitem.lookup (d_getItem (by omega) I g ry fun w' s3 I3 rw' => ⟨z, H, I3, rw', p.here hr z rz⟩) hs
    | ins _ _ => exact p.elim
  | nl n q t => cases rb with
    | int j => exact seq rfl rfl (.inl (SqL.of (hr.sub _ _ q))) t p
    | _ => exact p.elim
  | @dic ad ws kvs q t =>
    simp only [idxD] at p
    cases hk : asK b with
    | none => rw [hk] at p; exact p.elim
    | some key =>
      rw [hk] at p
      have h1 := hr.sub _ _ q
      have h2 := t.rk
      have h3 := asK_of rb hk
      cases e : dval kvs key with
      | none => simp only [e] at p; exact p.elim
      | some d =>
        simp only [e] at p
        obtain ⟨z, hz, rz⟩ := (key_val h2 key).1 d e
        have g : DGet H ad y (some z) := by rw [h3, ← hz]; exact DGet.k h1
        cases rx
        exact PyProof.Rows.tail_any (dict_typeIs I g) PySem.F.slot_dict_getitem.lookup (d_getItem (by omega) I g ry fun w' s3 I3 rw' => ⟨z, H, I3, rw', p.here hr z rz⟩) hs
  | _ => exact p.elim
def RSl (T : Tb) (K : PySem.W.Frag) (f : D → Option Int → Option Int → Store → Res D) : V → Option Int → Option Int → Hp → VK → Prop := fun x lo hi H Q => ∃ Z w M mu F a, HR T K Z H M mu F ∧ Rp T K F mu x a ∧ PG T K Z w F mu (f a lo hi M) (QD T K Q)
theorem sl_t : SlR X (RSl T X.K slcT) := by
  rintro pins s σ H x v vl vu lo hi sl Q I rx hs pl pu ⟨Z, w, M, mu, F, a, hr, ra, p⟩
  cases ra with
  | @tup ad vs ds q t =>
    have p : PG T X.K Z w F mu (if HT.sIx ds.length 0 lo = 0 ∧ HT.sIx ds.length ds.length hi = ds.length then .bad else .ok (.tup (cut ds lo hi)) M) (QD T X.K Q) := p
    by_cases hl : HT.sIx ds.length 0 lo = 0 ∧ HT.sIx ds.length ds.length hi = ds.length
    · rw [if_pos hl] at p; exact p.elim
    · rw [if_neg hl] at p
      refine sl_tup pins s σ H _ v vl vu lo hi sl Q I rx hs pl pu ⟨ad, vs, rfl, SqT.of (hr.sub _ _ q), by rw [t.len]; exact hl, fun b hb => ?_⟩
      obtain ⟨hr2, g⟩ := hr.frz (o := .tup (cutV vs lo hi)) hb
      exact p _ _ _ g hr2 _ (.tup upd_same ((t.cut lo hi).mono g))
  | _ => exact p.elim
def QL (T : Tb) (K : PySem.W.Frag) (Q : VK) : List D → Store → Hp → List Addr → Hp → Prop := fun xs _ H' mu' F' => ∀ vs a, Rps T K F' mu' vs xs → H' a = none → Q (.ref a) (upd H' a (.lst vs))
def RSlL (T : Tb) (K : PySem.W.Frag) : V → Option Int → Option Int → Hp → VK → Prop := fun x lo hi H Q => ∃ Z w M mu F a, HR T K Z H M mu F ∧ Rp T K F mu x a ∧ PG T K Z w F mu (slL a lo hi M) (QL T K Q)
theorem sl_l : SlR X (RSlL T X.K) := by
  rintro pins s σ H x v vl vu lo hi sl Q I rx hs pl pu ⟨Z, w, M, mu, F, a, hr, ra, p⟩
  unfold slL at p
  cases ra with
  | @lst ad vs ds q t =>
    exact sl_list pins s σ H _ v vl vu lo hi sl Q I rx hs pl pu ⟨ad, vs, rfl, SqL.of (hr.sub _ _ q), fun b hb => p.here hr _ b (t.cut lo hi) hb⟩
  | @nl ad vs ds n q t =>
    exact sl_list pins s σ H _ v vl vu lo hi sl Q I rx hs pl pu ⟨ad, vs, rfl, SqL.of (hr.sub _ _ q), fun b hb => p.here hr _ b (t.cut lo hi) hb⟩
  | @ref ad l q =>
    obtain ⟨o, e2, ro⟩ := hr.at q
    simp only [asM, e2] at p
    cases o with
    | lst xs =>
      obtain ⟨vs, q2, t⟩ := ro
      exact sl_list pins s σ H _ v vl vu lo hi sl Q I rx hs pl pu ⟨ad, vs, rfl, SqL.of q2, fun b hb => p.here hr _ b (t.cut lo hi) hb⟩
    | dic _ => exact p.elim
    | ins _ _ => exact p.elim
  | _ => exact p.elim
def R2L (T : Tb) (K : PySem.W.Frag) (f : D → D → Store → Res (List D)) : R2 := fun x y H Q => ∃ Z w M mu F a b, HR T K Z H M mu F ∧ Rp T K F mu x a ∧ Rp T K F mu y b ∧ PG T K Z w F mu (f a b M) (QL T K Q)
theorem op_catL : OpR X (binaryOp .Add) (R2L T X.K catL) := by
  rintro pins s σ H x y v u Q I rx ry ⟨Z, w, M, mu, F, a, b, hr, ra, rb, p⟩
  unfold catL at p
  cases ea : asM M a with
  | none => rw [ea] at p; exact p.elim
  | some xs => cases eb : asM M b with
    | none => rw [ea, eb] at p; exact p.elim
    | some ys =>
      rw [ea, eb] at p
      simp only at p
      by_cases hl : xs.length + ys.length ≤ sizeLine
      · rw [if_pos hl] at p
        obtain ⟨a1, v1, rfl, h1, t1⟩ := ra.lsM hr ea
        obtain ⟨a2, v2, rfl, h2, t2⟩ := rb.lsM hr eb
        exact op_cat pins s σ H _ _ v u Q I rx ry ⟨a1, a2, v1, v2, rfl, rfl, h1, h2, by rw [t1.len, t2.len]; exact hl, fun q hq => p.here hr _ q (t1.app t2) hq⟩
      · rw [if_neg hl] at p; exact p.elim
theorem op_repL : OpR X (binaryOp .Mult) (R2L T X.K repL) := by
  rintro pins s σ H x y v u Q I rx ry ⟨Z, w, M, mu, F, a, b, hr, ra, rb, p⟩
  unfold repL at p
  cases ea : asM M a with
  | none => rw [ea] at p; exact p.elim
  | some xs =>
    rw [ea] at p
    cases rb with
    | int n =>
      simp only at p
      by_cases hl : -(2 ^ 63) ≤ n ∧ n < 2 ^ 63 ∧ xs.length * n.toNat ≤ sizeLine
      · rw [if_pos hl] at p
        obtain ⟨a1, v1, rfl, h1, t1⟩ := ra.lsM hr ea
        obtain ⟨l1, l2, l3⟩ := hl
        exact op_rep pins s σ H _ _ v u Q I rx ry ⟨a1, n, v1, rfl, rfl, h1, l1, l2, by rw [t1.len]; exact l3, fun q hq => p.here hr _ q (t1.rep _) hq⟩
      · rw [if_neg hl] at p; exact p.elim
    | _ => exact p.elim
theorem tru_of {Z H F : Hp} {mu : List Addr} {M : Store} {x : V} {a : D} {k : Bool} (hr : HR T X.K Z H M mu F) (ra : Rp T X.K F mu x a) (e : truB M a = some k) : TruV X.K x H k := by
  have emp : ∀ {vs : List V} {ds : List D}, Rps T X.K F mu vs ds → (!ds.isEmpty) = !vs.isEmpty := fun {vs ds} t => by cases t <;> rfl
  cases ra with
  | non => cases e; rfl
  | bl b => cases e; rfl
  | int i => cases e; rfl
  | str z =>
    have e : (if z.length ≤ sizeLine then some ((z.length : Int) != 0) else none) = some k := e
    by_cases hl : z.length ≤ sizeLine
    · rw [if_pos hl] at e; cases e; exact ⟨hl, rfl⟩
    · rw [if_neg hl] at e; cases e
  | tup q t => cases e; exact .inr (.inl ⟨_, SqT.of (hr.sub _ _ q), emp t⟩)
  | lst q t => cases e; exact .inl ⟨_, SqL.of (hr.sub _ _ q), emp t⟩
  | nl n q t => cases e; exact .inl ⟨_, SqL.of (hr.sub _ _ q), emp t⟩
  | dic q t =>
    cases e
    refine .inr (.inr ⟨_, hr.sub _ _ q, ?_⟩)
    cases t <;> rfl
  | ref q =>
    obtain ⟨o, e2, ro⟩ := hr.at q
    simp only [truB, e2] at e
    cases o with
    | lst xs => obtain ⟨vs, q2, t⟩ := ro; cases e; exact .inl ⟨_, SqL.of q2, emp t⟩
    | dic kvs =>
      obtain ⟨ws, q2, t⟩ := ro
      cases e
      refine .inr (.inr ⟨ws, q2, ?_⟩)
      cases t <;> rfl
    | ins _ _ => cases e
  | _ => cases e
theorem fls_inj {i j : Nat} {f : Str} (hn : T.fls.Nodup) (h1 : T.fls[i]? = some f) (h2 : T.fls[j]? = some f) : i = j := by
  obtain ⟨l1, e1⟩ := List.getElem?_eq_some_iff.mp h1
  obtain ⟨l2, e2⟩ := List.getElem?_eq_some_iff.mp h2
  exact (List.getElem_inj hn).mp (e1.trans e2.symm)
theorem fget_of {K : PySem.W.Frag} {F : Hp} {mu : List Addr} (hn : T.fls.Nodup) {i : Nat} {f : Str} (hf : T.fls[i]? = some f) : ∀ {fv : List (Str × V)} {fs : List (Nat × D)} {d : D}, Rfs T K F mu fv fs → fget i fs = some d → ∃ v, fv.lookup f = some v ∧ Rp T K F mu v d
  | _, _, _, .nil, h => by cases h
  | (g, v) :: fv, (j, y) :: fs, d, .cons hg r t, h => by
    unfold fget at h
    by_cases hj : j = i
    · rw [if_pos hj] at h
      cases h
      subst hj
      rw [hg] at hf; cases hf
      exact ⟨v, by simp [List.lookup], r⟩
    · rw [if_neg hj] at h
      have hne : ¬ f = g := fun e => hj (fls_inj hn hg (by rw [← e]; exact hf))
      obtain ⟨z, h1, h2⟩ := fget_of hn hf t h
      refine ⟨z, ?_, h2⟩
      have hb : (f == g) = false := beq_eq_false_iff_ne.mpr hne
      simp only [List.lookup, hb]
      exact h1
theorem fput_of {K : PySem.W.Frag} {F : Hp} {mu : List Addr} (hn : T.fls.Nodup) {i : Nat} {f : Str} (hf : T.fls[i]? = some f) {x : V} {y : D} (rx : Rp T K F mu x y) : ∀ {fv : List (Str × V)} {fs : List (Nat × D)}, Rfs T K F mu fv fs → Rfs T K F mu (putF f x fv) (fput i y fs)
  | _, _, .nil => .cons hf rx .nil
  | (g, v) :: fv, (j, z) :: fs, .cons hg r t => by
    unfold putF fput
    by_cases hj : j = i
    · subst hj
      rw [hg] at hf
      have hf := Option.some.inj hf
      subst hf
      rw [if_pos rfl, if_pos rfl]
      exact .cons hg rx t
    · have hne : ¬ g = f := fun e => hj (fls_inj hn hg (by rw [e]; exact hf))
      rw [if_neg hj, if_neg hne]
      exact .cons hg r (fput_of hn hf rx t)
theorem Rfs.len {K : PySem.W.Frag} {F : Hp} {mu : List Addr} : ∀ {fv : List (Str × V)} {fs : List (Nat × D)}, Rfs T K F mu fv fs → fv.length = fs.length
  | _, _, .nil => rfl
  | _, _, .cons _ _ t => congrArg (· + 1) (Rfs.len t)
theorem fno_of {K : PySem.W.Frag} {F : Hp} {mu : List Addr} {m : Str} (hm : m ∉ T.fls) : ∀ {fv : List (Str × V)} {fs : List (Nat × D)}, Rfs T K F mu fv fs → fv.lookup m = none
  | _, _, .nil => rfl
  | (g, v) :: fv, _, .cons hg r t => by
    have hne : ¬ m = g := fun e => hm (by rw [e]; exact List.mem_of_getElem? hg)
    have hb : (m == g) = false := beq_eq_false_iff_ne.mpr hne
    simp only [List.lookup, hb]
    exact fno_of hm t
theorem fno_at {K : PySem.W.Frag} {F : Hp} {mu : List Addr} (hn : T.fls.Nodup) {i : Nat} {m : Str} (hm : T.fls[i]? = some m) : ∀ {fv : List (Str × V)} {fs : List (Nat × D)}, Rfs T K F mu fv fs → fget i fs = none → fv.lookup m = none
  | _, _, .nil, _ => rfl
  | (g, v) :: fv, (j, y) :: fs, .cons hg r t, h => by
    unfold fget at h
    by_cases hj : j = i
    · rw [if_pos hj] at h; cases h
    · rw [if_neg hj] at h
      have hne : ¬ m = g := fun e => by
        subst e
        obtain ⟨l1, e1⟩ := List.getElem?_eq_some_iff.mp hg
        obtain ⟨l2, e2⟩ := List.getElem?_eq_some_iff.mp hm
        exact hj ((List.getElem_inj hn).mp (e1.trans e2.symm))
      have hb : (m == g) = false := beq_eq_false_iff_ne.mpr hne
      simp only [List.lookup, hb]
      exact fno_at hn hm t h
end
end Lp

namespace Lp
open PySem PySem.Spec L2
section
variable {T : Tb} {X : Cx}
def RCD (T : Tb) (K : PySem.W.Frag) (f : List D → Store → Res D) : List V → Hp → VK → Prop := fun vs H Q => ∃ Z w M mu F ds, HR T K Z H M mu F ∧ Rps T K F mu vs ds ∧ PG T K Z w F mu (f ds M) (QD T K Q)
def Bf.isTy : Bf → Bool | .int => true | .str => true | .tuple => true | _ => false
def Bf.nm : Bf → String | .len => "len" | .abs => "abs" | .int => "int" | .sum => "sum" | .any => "any" | .all => "all" | .min => "min" | .max => "max" | .str => "str" | .tuple => "tuple"
def Bf.val (b : Bf) : Value := if b.isTy then .type b.nm else .builtin b.nm
theorem minL_le : ∀ (ns : List Int) (a : Int), (ns.foldl (fun a b => if b < a then b else a) a ≤ a) ∧ (∀ y ∈ ns, ns.foldl (fun a b => if b < a then b else a) a ≤ y) ∧ (ns.foldl (fun a b => if b < a then b else a) a = a ∨ ns.foldl (fun a b => if b < a then b else a) a ∈ ns)
  | [], a => ⟨Int.le_refl _, fun y h => (by cases h), .inl rfl⟩
  | b :: r, a => by
    obtain ⟨h1, h2, h3⟩ := minL_le r (if b < a then b else a)
    simp only [List.foldl_cons]
    have e : (if b < a then b else a) ≤ a ∧ (if b < a then b else a) ≤ b := by split <;> omega
    refine ⟨Int.le_trans h1 e.1, fun y hy => ?_, ?_⟩
    · rcases List.mem_cons.mp hy with rfl | hy
      · exact Int.le_trans h1 e.2
      · exact h2 y hy
    · rcases h3 with h3 | h3
      · by_cases hb : b < a
        · rw [if_pos hb] at h3 ⊢; exact .inr (by rw [h3]; exact List.mem_cons_self)
        · rw [if_neg hb] at h3 ⊢; exact .inl h3
      · exact .inr (List.mem_cons_of_mem _ h3)
theorem maxL_le : ∀ (ns : List Int) (a : Int), (a ≤ ns.foldl (fun a b => if a < b then b else a) a) ∧ (∀ y ∈ ns, y ≤ ns.foldl (fun a b => if a < b then b else a) a) ∧ (ns.foldl (fun a b => if a < b then b else a) a = a ∨ ns.foldl (fun a b => if a < b then b else a) a ∈ ns)
  | [], a => ⟨Int.le_refl _, fun y h => (by cases h), .inl rfl⟩
  | b :: r, a => by
    obtain ⟨h1, h2, h3⟩ := maxL_le r (if a < b then b else a)
    simp only [List.foldl_cons]
    have e : a ≤ (if a < b then b else a) ∧ b ≤ (if a < b then b else a) := by split <;> omega
    refine ⟨Int.le_trans e.1 h1, fun y hy => ?_, ?_⟩
    · rcases List.mem_cons.mp hy with rfl | hy
      · exact Int.le_trans e.2 h1
      · exact h2 y hy
    · rcases h3 with h3 | h3
      · by_cases hb : a < b
        · rw [if_pos hb] at h3 ⊢; exact .inr (by rw [h3]; exact List.mem_cons_self)
        · rw [if_neg hb] at h3 ⊢; exact .inl h3
      · exact .inr (List.mem_cons_of_mem _ h3)
theorem minL_is {ns : List Int} {m : Int} (hm : m ∈ ns) (h : ∀ y, y ∈ ns → m ≤ y) : m = minL ns := by
  cases ns with
  | nil => cases hm
  | cons a r =>
    obtain ⟨h1, h2, h3⟩ := minL_le r a
    have e : minL (a :: r) ∈ a :: r := by
      rcases h3 with h3 | h3
      · exact List.mem_cons.mpr (.inl h3)
      · exact List.mem_cons.mpr (.inr h3)
    have l : minL (a :: r) ≤ m := by
      rcases List.mem_cons.mp hm with rfl | hm
      · exact h1
      · exact h2 m hm
    exact Int.le_antisymm (h _ e) l
theorem maxL_is {ns : List Int} {m : Int} (hm : m ∈ ns) (h : ∀ y, y ∈ ns → y ≤ m) : m = maxL ns := by
  cases ns with
  | nil => cases hm
  | cons a r =>
    obtain ⟨h1, h2, h3⟩ := maxL_le r a
    have e : maxL (a :: r) ∈ a :: r := by
      rcases h3 with h3 | h3
      · exact List.mem_cons.mpr (.inl h3)
      · exact List.mem_cons.mpr (.inr h3)
    have l : m ≤ maxL (a :: r) := by
      rcases List.mem_cons.mp hm with rfl | hm
      · exact h1
      · exact h2 m hm
    exact Int.le_antisymm l (h _ e)
theorem ints_at {Z F : Hp} {mu : List Addr} {H : Hp} {M : Store} {v : V} {d : D} {ns : List Int} (hr : HR T X.K Z H M mu F) (r : Rp T X.K F mu v d) (e : (asM M d).bind dInts = some ns) : ∃ a, v = .ref a ∧ SqL X.K H a (ns.map V.int) := by
  obtain ⟨xs, e1, e2⟩ := Option.bind_eq_some_iff.mp e
  obtain ⟨a, vs, h1, h2, h3⟩ := r.lsM hr e1
  have z := h3.ints e2
  subst z
  exact ⟨a, h1, SqL.of h2⟩
theorem bls_at {Z F : Hp} {mu : List Addr} {H : Hp} {M : Store} {v : V} {d : D} {ns : List Bool} (hr : HR T X.K Z H M mu F) (r : Rp T X.K F mu v d) (e : (asM M d).bind dBls = some ns) : ∃ a, v = .ref a ∧ SqL X.K H a (ns.map V.bl) := by
  obtain ⟨xs, e1, e2⟩ := Option.bind_eq_some_iff.mp e
  obtain ⟨a, vs, h1, h2, h3⟩ := r.lsM hr e1
  have z := h3.bls e2
  subst z
  exact ⟨a, h1, SqL.of h2⟩
theorem lenV {Z F : Hp} {mu : List Addr} {H : Hp} {M : Store} {v : V} {d : D} {n : Nat} (hr : HR T X.K Z H M mu F) (r : Rp T X.K F mu v d) (e : lenO M d = some n) :
    (∃ z, v = .str z ∧ z.length ≤ sizeLine ∧ n = z.length) ∨ (∃ a vs, v = .ref a ∧ (SqL X.K H a vs ∨ SqT X.K H a vs) ∧ n = vs.length) ∨ ∃ a ws, v = .ref a ∧ H a = some (.dK ws) ∧ n = ws.length := by
  have sq : ∀ {d : D}, Rp T X.K F mu v d → (asS M d).map List.length = some n → ∃ a vs, v = .ref a ∧ (SqL X.K H a vs ∨ SqT X.K H a vs) ∧ n = vs.length := fun {d} r e => by
    obtain ⟨xs, e1, e2⟩ := Option.map_eq_some_iff.mp e
    obtain ⟨a, vs, h1, h2, h3⟩ := r.sq hr e1
    exact ⟨a, vs, h1, h2, by rw [h3.len]; exact e2.symm⟩
  cases r with
  | str z =>
    have e : (if z.length ≤ sizeLine then some z.length else none) = some n := e
    by_cases hl : z.length ≤ sizeLine
    · rw [if_pos hl] at e; cases e; exact .inl ⟨z, rfl, hl, rfl⟩
    · rw [if_neg hl] at e; cases e
  | @ref a l q =>
    obtain ⟨o, e2, ro⟩ := hr.at q
    simp only [lenO, e2] at e
    cases o with
    | lst xs => obtain ⟨vs, q2, t⟩ := ro; cases e; exact .inr (.inl ⟨a, vs, rfl, .inl (SqL.of q2), t.len.symm⟩)
    | dic kvs => obtain ⟨ws, q2, t⟩ := ro; cases e; exact .inr (.inr ⟨a, ws, rfl, q2, (Paired.length t).symm⟩)
    | ins _ _ => cases e
  | tup q t => exact .inr (.inl (sq (.tup q t) e))
  | lst q t => exact .inr (.inl (sq (.lst q t) e))
  | arrL q t => exact .inr (.inl (sq (.arrL q t) e))
  | arrT q t => exact .inr (.inl (sq (.arrT q t) e))
  | nl n q t => exact .inr (.inl (sq (.nl n q t) e))
  | dic q t => cases e; exact .inr (.inr ⟨_, _, rfl, hr.sub _ _ q, (Paired.length t.rk).symm⟩)
  | no _ _ _ _ => cases e
  | non => cases e
  | bl _ => cases e
  | int _ => cases e
  | ins _ _ _ => cases e
theorem bf_call (hc : X.calm = true) (b : Bf) : CallR X b.val (RCD T X.K (bltD b)) := by
  rintro pins s σ H vs us Q I rv ⟨Z, w, M, mu, F, ds, hr, rd, p⟩
  match ds, rd with
  | [], .nil => exact p.elim
  | [d], .cons r .nil =>
    cases b with
    | len =>
      have p : PG T X.K Z w F mu (match lenO M d with | some n => .ok (.int n) M | none => .bad) (QD T X.K Q) := p
      cases e : lenO M d with
      | none => rw [e] at p; exact p.elim
      | some n =>
        rw [e] at p
        have q := p.here hr _ (.int _)
        rcases lenV hr r e with ⟨z, rfl, hl, rfl⟩ | ⟨a, vs, rfl, h, rfl⟩ | ⟨a, ws, rfl, h, rfl⟩
        · exact call_len_str pins s σ H _ us Q I rv ⟨z, rfl, hl, q⟩
        · exact call_len_seq pins s σ H _ us Q I rv ⟨a, vs, rfl, h, q⟩
        · obtain ⟨u, rfl, ru⟩ := vals1 rv
          cases ru
          exact d_len I (.inl h) fun t s' I' => ⟨.int ws.length, H, I', ⟨t, rfl⟩, q⟩
    | abs => cases r with
      | int i => exact call_abs pins s σ H _ us Q I rv ⟨i, rfl, p.here hr _ (.int _)⟩
      | _ => exact p.elim
    | int => cases r with
      | int i => exact call_int1 pins s σ H _ us Q I rv (.inl ⟨i, rfl, p.here hr _ (.int _)⟩)
      | bl k => exact call_int1 pins s σ H _ us Q I rv (.inr ⟨k, rfl, p.here hr _ (.int _)⟩)
      | _ => exact p.elim
    | sum =>
      have p : PG T X.K Z w F mu (match (asM M d).bind dInts with | some ns => .ok (.int ns.sum) M | none => .bad) (QD T X.K Q) := p
      cases e : (asM M d).bind dInts with
      | none => rw [e] at p; exact p.elim
      | some ns =>
        rw [e] at p
        obtain ⟨a, rfl, h⟩ := ints_at hr r e
        exact cr_sum hc pins s σ H _ us Q I rv ⟨a, ns, rfl, h, p.here hr _ (.int _)⟩
    | any =>
      have p : PG T X.K Z w F mu (match (asM M d).bind dBls with | some ns => .ok (.bl (ns.any id)) M | none => .bad) (QD T X.K Q) := p
      cases e : (asM M d).bind dBls with
      | none => rw [e] at p; exact p.elim
      | some ns =>
        rw [e] at p
        obtain ⟨a, rfl, h⟩ := bls_at hr r e
        exact cr_any hc pins s σ H _ us Q I rv ⟨a, ns, rfl, h, p.here hr _ (.bl _)⟩
    | all =>
      have p : PG T X.K Z w F mu (match (asM M d).bind dBls with | some ns => .ok (.bl (ns.all id)) M | none => .bad) (QD T X.K Q) := p
      cases e : (asM M d).bind dBls with
      | none => rw [e] at p; exact p.elim
      | some ns =>
        rw [e] at p
        obtain ⟨a, rfl, h⟩ := bls_at hr r e
        exact cr_all hc pins s σ H _ us Q I rv ⟨a, ns, rfl, h, p.here hr _ (.bl _)⟩
    | min =>
      have p : PG T X.K Z w F mu (match (asM M d).bind dInts with | some ns => if 0 < ns.length then .ok (.int (minL ns)) M else .bad | none => .bad) (QD T X.K Q) := p
      cases e : (asM M d).bind dInts with
      | none => rw [e] at p; exact p.elim
      | some ns =>
        rw [e] at p
        simp only at p
        by_cases hl : 0 < ns.length
        · rw [if_pos hl] at p
          obtain ⟨a, rfl, h⟩ := ints_at hr r e
          exact cr_min hc pins s σ H _ us Q I rv ⟨a, ns, rfl, h, hl, fun m h1 h2 => by rw [minL_is h1 h2]; exact p.here hr _ (.int _)⟩
        · rw [if_neg hl] at p; exact p.elim
    | max =>
      have p : PG T X.K Z w F mu (match (asM M d).bind dInts with | some ns => if 0 < ns.length then .ok (.int (maxL ns)) M else .bad | none => .bad) (QD T X.K Q) := p
      cases e : (asM M d).bind dInts with
      | none => rw [e] at p; exact p.elim
      | some ns =>
        rw [e] at p
        simp only at p
        by_cases hl : 0 < ns.length
        · rw [if_pos hl] at p
          obtain ⟨a, rfl, h⟩ := ints_at hr r e
          exact cr_max hc pins s σ H _ us Q I rv ⟨a, ns, rfl, h, hl, fun m h1 h2 => by rw [maxL_is h1 h2]; exact p.here hr _ (.int _)⟩
        · rw [if_neg hl] at p; exact p.elim
    | str => cases r with
      | int i =>
        have p : PG T X.K Z w F mu (if i.natAbs.log2 < 1920 then .ok (.str (toString i)) M else .bad) (QD T X.K Q) := p
        by_cases hl : i.natAbs.log2 < 1920
        · rw [if_pos hl] at p
          exact call_str_int pins s σ H _ us Q I rv ⟨i, rfl, hl, p.here hr _ (.str _)⟩
        · rw [if_neg hl] at p; exact p.elim
      | _ => exact p.elim
    | tuple =>
      have lst : ∀ {v : V} {d : D}, Rp T X.K F mu v d → Vals [v] us → PG T X.K Z w F mu (match asM M d with | some xs => .ok (.tup xs) M | none => .bad) (QD T X.K Q) → wpAny (model X.prog X.w) X.A (call (.type "tuple") us) (EP X pins σ Q) X.xe s := fun {v d} r rv p => by
        cases e : asM M d with
        | none => rw [e] at p; exact p.elim
        | some xs =>
          rw [e] at p
          obtain ⟨a, vs, rfl, h2, h3⟩ := r.lsM hr e
          refine call_tuple_of pins s σ H _ us Q I rv ⟨a, vs, rfl, .inl ⟨SqL.of h2, fun l hl => ?_⟩⟩
          obtain ⟨hr2, g⟩ := hr.frz (o := .tup vs) hl
          exact p _ _ _ g hr2 _ (.tup upd_same (h3.mono g))
      cases r with
      | @tup a vs xs q t => exact call_tuple_of pins s σ H _ us Q I rv ⟨a, vs, rfl, .inr ⟨SqT.of (hr.sub _ _ q), p.here hr _ (.tup q t)⟩⟩
      | lst q t => exact lst (.lst q t) rv p
      | nl n q t => exact lst (.nl n q t) rv p
      | ref q => exact lst (.ref q) rv p
      | _ => exact p.elim
  | [d, d2], .cons r (.cons r2 .nil) =>
    cases b with
    | min => cases r with
      | int i => cases r2 with
        | int j => exact call_min2 hc pins s σ H _ us Q I rv ⟨i, j, rfl, p.here hr _ (.int _)⟩
        | _ => exact p.elim
      | _ => exact p.elim
    | max => cases r with
      | int i => cases r2 with
        | int j => exact call_max2 hc pins s σ H _ us Q I rv ⟨i, j, rfl, p.here hr _ (.int _)⟩
        | _ => exact p.elim
      | _ => exact p.elim
    | _ => exact p.elim
  | d :: d2 :: d3 :: ds, .cons _ (.cons _ (.cons _ _)) => exact p.elim
end
end Lp

namespace Lp
open PySem PySem.Spec L2

def isLocB (sc : Scope) (x : Str) : Bool := match sc.names.lookup x with | some .local => true | some .cell => true | _ => false
def isVisB (sc : Scope) (x : Str) : Bool := match sc.names.lookup x with | some .local => true | some .cell => true | some .free => true | _ => false
def isGlB (sc : Scope) (x : Str) : Bool := match sc.names.lookup x with | some .globalImplicit => true | _ => false
def nmOk (x : Str) : Bool := !(x == ("__debug__" : Str)) && !(x == ("__classdict__" : Str)) && !(x == ("__name__" : Str)) && !(x == ("" : Str))
def noStar : Expr → Bool | .Starred .. => false | _ => true
def noSlice : Expr → Bool | .Slice .. => false | _ => true
def plainBase : Expr → Bool | .Call _ [] _ _ => false | _ => true
def noSet : Expr → Bool | .Set .. => false | _ => true
def plainT : Expr → Bool | .UnaryOp .. => false | .BoolOp .. => false | .IfExp .. => false | .Compare .. => false | .Slice .. => false | .Starred .. => false | _ => true
def cmpT : Expr → Bool | .Compare _ [_] [_] _ => true | .Compare _ [_, _] [_, _] _ => true | _ => false
def isTup : Expr → Bool | .Tuple .. => true | _ => false
theorem vis_of {sc : Scope} {x : Str} (h : isVisB sc x = true) : Vis sc x := by
  unfold isVisB at h
  split at h <;> first | exact .inl (by assumption) | exact .inr (.inl (by assumption)) | exact .inr (.inr (by assumption)) | cases h
theorem loc_of {sc : Scope} {x : Str} (h : isLocB sc x = true) : Loc sc x := by
  unfold isLocB at h
  split at h <;> first | exact .inl (by assumption) | exact .inr (by assumption) | cases h
theorem gl_of {X : Cx} {x : Str} (h : isGlB X.env.scope x = true) : Gl X x := by
  unfold isGlB at h
  split at h <;> first | assumption | cases h
structure Nm (x : Str) : Prop where
  d : (x == ("__debug__" : Str)) = false
  c : (x == ("__classdict__" : Str)) = false
  n : x ≠ "__name__"
  e : x ≠ ""
theorem nm_of {x : Str} (h : nmOk x = true) : Nm x := by
  unfold nmOk at h
  simp only [Bool.and_eq_true, Bool.not_eq_true'] at h
  exact ⟨h.1.1.1, h.1.1.2, fun e => by rw [e] at h; exact absurd h.1.2 (by simp), fun e => by rw [e] at h; exact absurd h.2 (by simp)⟩
theorem star_cons {e : Expr} {es : List Expr} {env : Env} (h : noStar e = true) : starEach (e :: es) env = (false, eval e env) :: starEach es env := by
  cases e <;> first | rfl | exact absurd h Bool.false_ne_true
theorem star_any {pos : Pos} {env : Env} : ∀ {es : List Expr}, es.all noStar = true → (backTo pos (starEach es env)).any (·.1) = false
  | [], _ => rfl
  | e :: es, h => by
    rw [List.all_cons, Bool.and_eq_true] at h
    rw [star_cons h.1]
    show (false || (backTo pos (starEach es env)).any (·.1)) = false
    rw [star_any h.2]
    rfl
theorem star_all {pos : Pos} {env : Env} : ∀ {es : List Expr}, es.all noStar = true → (backTo pos (starEach es env)).all (fun x => !x.1) = true
  | [], _ => rfl
  | e :: es, h => by
    rw [List.all_cons, Bool.and_eq_true] at h
    rw [star_cons h.1]
    show (true && (backTo pos (starEach es env)).all (fun x => !x.1)) = true
    rw [star_all h.2]
    rfl
theorem base_of {o : Expr} {f : Str} {env : Env} (h : plainBase o = true) : attributeBase o f env (eval o env) = eval o env := by
  cases o with
  | Call g args kws pos => cases args with
    | nil => exact absurd h Bool.false_ne_true
    | cons a r => unfold attributeBase; cases g <;> rfl
  | _ => rfl
theorem set_of {e : Expr} {env : Env} (h : noSet e = true) : ∀ x, foldedSetIterable e env x = pure x := by
  intro x
  cases e <;> first | rfl | exact absurd h Bool.false_ne_true
theorem ix_of {b : Expr} (h : noSlice b = true) : PlainIx b := by
  intro o i
  cases b <;> first | rfl | exact absurd h Bool.false_ne_true
theorem plainT_of {e : Expr} {env : Env} (h : plainT e = true) : ∀ whole, isTrue e env whole = (do let v ← whole; standAt e.pos; holding [v] (truthy v)) := by
  intro whole
  cases e <;> first | rfl | exact absurd h Bool.false_ne_true

section
variable (T : Tb) (N : List Str)
def mNames (sc : Scope) : List Nat → List Expr → Bool
  | [], [] => true
  | i :: is, .Name x _ :: es => decide (N[i]? = some x) && isLocB sc x && mNames sc is es
  | _, _ => false
def mG (sc : Scope) (is : List Nat) (tg : Expr) : Bool := match is, tg with
  | [i], .Name x _ => decide (N[i]? = some x) && isLocB sc x
  | i :: j :: is, .Tuple es _ _ => mNames N sc (i :: j :: is) es
  | _, _ => false
def Ty.nm : Ty → String | .int => "int" | .bool => "bool" | .str => "str" | .list => "list" | .tuple => "tuple"
def bltNm (x : String) : Bool := true
mutual
def mE (sc : Scope) : E → Expr → Bool
  | .var i, .Name x _ => decide (N[i]? = some x) && isVisB sc x && nmOk x
  | .non, .Constant .none _ _ => true
  | .bl b, .Constant (.bool c) _ _ => b == c
  | .int i, .Constant (.int j) _ _ => decide (i = j)
  | .str k, .Constant (.str s) _ _ => decide (T.txt[k]? = some s)
  | .gco k, .Name x _ => (match T.gcs[k]? with | some (y, _) => decide (x = y) | none => false) && isGlB sc x && nmOk x
  | .bin op a b, .BinOp l op' r _ => decide (op = op') && mE sc a l && mE sc b r
  | .neg a, .UnaryOp .USub x _ => mE sc a x
  | .cmp op a b, .Compare l [op'] [r] _ => decide (op = op') && noSet r && mE sc a l && mE sc b r
  | .chn o1 o2 a b c, .Compare l [p1, p2] [r, q] _ => decide (o1 = p1) && decide (o2 = p2) && noSet q && mE sc a l && mE sc b r && mE sc c q
  | .andv a b, .BoolOp .And [x, y] _ => mE sc a x && mE sc b y
  | .andv a b, .BoolOp .And (x :: y :: z :: r) p => mE sc a x && mE sc b (.BoolOp .And (y :: z :: r) p)
  | .orv a b, .BoolOp .Or [x, y] _ => mE sc a x && mE sc b y
  | .orv a b, .BoolOp .Or (x :: y :: z :: r) p => mE sc a x && mE sc b (.BoolOp .Or (y :: z :: r) p)
  | .notv a, .UnaryOp .Not x _ => mE sc a x
  | .ife c a b, .IfExp t x y _ => mT sc c t && mE sc a x && mE sc b y
  | .idx a i, .Subscript o s _ => noSlice s && mE sc a o && mE sc i s
  | .slt a lo hi, .Subscript o (.Slice l u none _) _ => mE sc a o && mO sc lo l && mO sc hi u
  | .att a f, .Attribute o x _ => decide (T.fls[f]? = some x) && plainBase o && mE sc a o
  | .call f args, .Call (.Name x _) es [] _ => decide (T.fns[f]? = some x) && isGlB sc x && nmOk x && es.all noStar && ms sc args es
  | .cals f args, .Call (.Name x _) es [] _ => decide (T.fns[f]? = some x) && isGlB sc x && nmOk x && es.all noStar && ms sc args es
  | .mth a m args, .Call (.Attribute o x ap) es [] p => decide (T.mts[m]? = some x) && plainBase o && (ap.endLine == p.line) && decide (es.length < 20) && es.all noStar && mE sc a o && ms sc args es
  | .mths a m args, .Call (.Attribute o x ap) es [] p => decide (T.mts[m]? = some x) && plainBase o && (ap.endLine == p.line) && decide (es.length < 20) && es.all noStar && mE sc a o && ms sc args es
  | .mk c args, .Call (.Name x _) es [] _ => (T.ini.lookup c).isSome && decide (T.cls[c]? = some x) && isGlB sc x && nmOk x && es.all noStar && ms sc args es
  | .mks c args, .Call (.Name x _) es [] _ => (T.ini.lookup c).isSome && decide (T.cls[c]? = some x) && isGlB sc x && nmOk x && es.all noStar && ms sc args es
  | .blt b args, .Call (.Name x _) (e :: es) [] _ => decide (x = (b.nm : Str)) && isGlB sc x && noStar e && es.all noStar && ms sc args (e :: es)
  | .isi a t, .Call (.Name x _) [e, .Name y _] [] _ => decide (x = ("isinstance" : Str)) && decide (y = (t.nm : Str)) && isGlB sc x && isGlB sc y && noStar e && mE sc a e
  | .app a b, .Call (.Attribute o x ap) [e] [] p => decide (x = ("append" : Str)) && plainBase o && (ap.endLine == p.line) && noStar e && mE sc a o && mE sc b e
  | .idn a b, .Call (.Attribute o x ap) [e] [] p => decide (x = ("index" : Str)) && plainBase o && (ap.endLine == p.line) && noStar e && mE sc a o && mE sc b e
  | .popz a, .Call (.Attribute o x ap) [.Constant (.int 0) _ _] [] p => decide (x = ("pop" : Str)) && plainBase o && (ap.endLine == p.line) && mE sc a o
  | .dem, .Dict [] [] _ => true
  | .fzo a, .Call f es kws p => mE sc a (.Call f es kws p)
  | .tup es, .Tuple xs _ _ => xs.all noStar && ms sc es xs
  | .fz p, e => mL sc p e
  | .fr p, e => mL sc p e
  | .mu p, e => mL sc p e
  | _, _ => false
def mT (sc : Scope) : E → Expr → Bool
  | .tru a, e => (plainT e || cmpT e) && mE sc a e
  | .tand a b, .BoolOp .And [x, y] _ => mT sc a x && mT sc b y
  | .tand a b, .BoolOp .And (x :: y :: z :: r) p => mT sc a x && mT sc b (.BoolOp .And (y :: z :: r) p)
  | .tor a b, .BoolOp .Or [x, y] _ => mT sc a x && mT sc b y
  | .tor a b, .BoolOp .Or (x :: y :: z :: r) p => mT sc a x && mT sc b (.BoolOp .Or (y :: z :: r) p)
  | .tnot a, .UnaryOp .Not x _ => mT sc a x
  | _, _ => false
def ms (sc : Scope) : E → List Expr → Bool
  | .nil, [] => true
  | .cons a r, e :: es => mE sc a e && ms sc r es
  | _, _ => false
def mO (sc : Scope) : E → Option Expr → Bool
  | .absent, none => true
  | .tru a, some e => mE sc a e
  | _, _ => false
def mL (sc : Scope) : E → Expr → Bool
  | .dsp es, .List xs _ => xs.all noStar && ms sc es xs
  | .cat a b, .BinOp l .Add r _ => mE sc a l && mE sc b r
  | .rep a b, .BinOp l .Mult r _ => mE sc a l && mE sc b r
  | .slp a lo hi, .Subscript o (.Slice l u none _) _ => mE sc a o && mO sc lo l && mO sc hi u
  | .lof a, .Call (.Name x _) [e] [] _ => decide (x = ("list" : Str)) && isGlB sc x && noStar e && mE sc a e
  | .sml a, .Call (.Name x _) [e, .List [] _] [] _ => decide (x = ("sum" : Str)) && isGlB sc x && noStar e && mE sc a e
  | .lc tg it c e, .ListComp elt [⟨target, iter, ifs, 0⟩] scope _ =>
    blkC N sc scope (tg.map fun i => (N.getD i "", i)) && mG N scope tg target && mI sc it target iter && noSet iter &&
      (match ifs with
        | [] => (match c with | .tru (.bl true) => true | _ => false)
        | [t] => mT (relS scope sc) c t
        | _ => false) && mE (relS scope sc) e elt
  | _, _ => false
def mI (sc : Scope) : E → Expr → Expr → Bool
  | .itm a, _, e => mE sc a e
  | .rng1 a, _, .Call (.Name x _) [e] [] _ => decide (x = ("range" : Str)) && isGlB sc x && noStar e && mE sc a e
  | .rng2 a b, _, .Call (.Name x _) [e, f] [] _ => decide (x = ("range" : Str)) && isGlB sc x && noStar e && noStar f && mE sc a e && mE sc b f
  | .rngd a b, _, .Call (.Name x _) [e, f, .UnaryOp .USub (.Constant (.int 1) _ _) _] [] _ => decide (x = ("range" : Str)) && isGlB sc x && noStar e && noStar f && mE sc a e && mE sc b f
  | .enu a, t, .Call (.Name x _) [e] [] _ => decide (x = ("enumerate" : Str)) && isGlB sc x && isTup t && noStar e && mE sc a e
  | .zip2 a b, t, .Call (.Name x _) [e, f] [] _ => decide (x = ("zip" : Str)) && isGlB sc x && isTup t && noStar e && noStar f && mE sc a e && mE sc b f
  | _, _, _ => false
end
end
end Lp

namespace Lp
open PySem PySem.Spec L2
section
variable (T : Tb) (K : PySem.W.Frag) (W : WX)
def tD (f : Ev → Store → Res D) : TE := fun σ H Q => ∃ Z env M mu F, HR T K Z H M mu F ∧ EnvR T K F mu σ env ∧ PG T K Z (fun c d H' => W c d σ H') F mu (f env M) (QD T K Q)
def tTt (f : Ev → Store → Res Bool) : TT := fun σ H Q => ∃ Z env M mu F, HR T K Z H M mu F ∧ EnvR T K F mu σ env ∧ PG T K Z (fun c d H' => W c d σ H') F mu (f env M) (QB Q)
def tDs (f : Ev → Store → Res (List D)) : TA := fun σ H Q => ∃ Z env M mu F, HR T K Z H M mu F ∧ EnvR T K F mu σ env ∧ PG T K Z (fun c d H' => W c d σ H') F mu (f env M) (QDs T K Q)
def tOo (f : Ev → Store → Res (Option Int)) : TO := fun σ H Q => ∃ Z env M mu F, HR T K Z H M mu F ∧ EnvR T K F mu σ env ∧ PG T K Z (fun c d H' => W c d σ H') F mu (f env M) (fun o _ H' _ _ => Q o H')
def tLl (f : Ev → Store → Res (List D)) : TE := fun σ H Q => ∃ Z env M mu F, HR T K Z H M mu F ∧ EnvR T K F mu σ env ∧ PG T K Z (fun c d H' => W c d σ H') F mu (f env M) (QL T K Q)
def ItR (J : Itm) (I : It) (mu : List Addr) (F : Hp) : Prop := ∀ (i : Nat) (Z H' : Hp) (M' : Store) (mu' : List Addr) (F' : Hp), Gr F mu F' mu' → HR T K Z H' M' mu' F' → match J.nx i M' with
  | none => True
  | some none => I.stop i H'
  | some (some x) => I.go i H' ∧ ∀ v H'', I.yld i H' v H'' → ∃ F'', Gr F' mu' F'' mu' ∧ HR T K Z H'' M' mu' F'' ∧ Rp T K F'' mu' v x
def LsR (J : Itm) (a : Addr) (mu : List Addr) (F : Hp) : Prop := ∀ (i : Nat) (Z H' : Hp) (M' : Store) (mu' : List Addr) (F' : Hp), Gr F mu F' mu' → HR T K Z H' M' mu' F' → match J.nx i M' with
  | none => True
  | some o => ∃ xs, SqL K H' a xs ∧ match o with
    | none => xs.length ≤ i
    | some x => ∃ v, xs[i]? = some v ∧ Rp T K F' mu' v x
def tIi (f : Ev → Store → Res Itm) : TI := fun σ H R => ∃ Z env M mu F, HR T K Z H M mu F ∧ EnvR T K F mu σ env ∧ PG T K Z (fun c d H' => W c d σ H') F mu (f env M) (fun J _ H' mu' F' => ∀ I, ItR T K J I mu' F' → R I H')
def spOf (f : Fn) : Sp := fun vs H Q E => ∃ b Z ds M mu F, HR (T.wb b) K Z H M mu F ∧ Rps (T.wb b) K F mu vs ds ∧ PG (T.wb b) K Z E F mu (f ds M) (QD (T.wb b) K Q)
end
def GcoOk (K : PySem.W.Frag) (mg : Str → Option Value) (x : Str) : D → Prop
  | .int i => ∃ t, mg x = some (.int i t)
  | .arr ds => ∃ a vs, mg x = some (.ref a) ∧ (∀ H, SqT K H a vs) ∧ ∀ T F mu, Rps T K F mu vs ds
  | _ => False
def blts : List Str := ["len", "abs", "int", "sum", "any", "all", "min", "max", "str", "tuple", "isinstance", "list", "bool", "range", "enumerate", "zip", "dict"]
structure Glb (T : Tb) (G : Gm) (k : Nat) (P : Program) (w : World) (K : PySem.W.Frag) (mg : Str → Option Value) (base : Heap) : Prop where
  nd : T.fls.Nodup
  str : ∀ i s, T.txt[i]? = some s → G.str i = s
  blt : ∀ x, x ∈ blts → mg x = none
  fn : ∀ (i : Nat) (x : Str), T.fns[i]? = some x → x ≠ "" → ∃ f fd ps, mg x = some (.ref f) ∧ PySem.W.keepIn K (.ref f) = true ∧ Binds K fd ps [] ∧ FnOk P w K mg base (L2.CX P w) k f fd ps (spOf T K (G.fn i))
  gco : ∀ (i : Nat) (x : Str) (d : D), T.gcs[i]? = some (x, d) → G.gco i = d ∧ (x ≠ "" → GcoOk K mg x d)
  cls : ∀ c, T.okC c → mg (T.cls.getD c "") = some (.ref (T.cad K c)) ∧ Cls K (T.cad K c) ∧ ∀ (i : Nat) (f : Str), G.cfl c i = true → T.fls[i]? = some f → NoAttr K (T.cad K c) f
  mfl : ∀ (m : Nat) (x : Str), T.mts[m]? = some x → match G.mfl m with | none => x ∉ T.fls | some f => T.fls[f]? = some x
  mth : ∀ c m i, T.okC c → G.mth c m = some i → ∃ x f fd ps, T.mts[m]? = some x ∧ Meth K (T.cad K c) x f ∧ Binds K fd ps [] ∧ FnOk P w K mg base (L2.CX P w) k f fd ps (spOf T K (G.fn i))
  inil : ∀ c, (T.ini.lookup c).isSome = true → (G.ini c).isSome = true
  ini : ∀ c i, T.okC c → G.ini c = some i → ∃ f fd ps, Mk K (T.cad K c) f ∧ Binds K fd ps [] ∧ FnOk P w K mg base (L2.CX P w) k f fd ps (spOf T K (G.fn i))
structure Good (T : Tb) (G : Gm) (k : Nat) (X : Cx) (W : WX) : Prop where
  nd : X.N.Nodup
  calm : X.calm = true
  room : Room (k + 1) X.A
  glb : Glb T G k X.prog X.w X.K X.mg X.base
  tk : Takes X W
section
variable {T : Tb} {G : Gm} {k : Nat}
structure Snd (T : Tb) (G : Gm) (k : Nat) (e : E) : Prop where
  v : ∀ {X : Cx} {W : WX} {a : Expr}, Good T G k X W → mE T X.N X.env.scope e a = true → PE X a (tD T X.K W (ev G e))
  c : ∀ {X : Cx} {W : WX} {a : Expr}, Good T G k X W → cmpT a = true → mE T X.N X.env.scope e a = true → PT X a (tTt T X.K W (evT G (.tru e)))
  t : ∀ {X : Cx} {W : WX} {a : Expr}, Good T G k X W → mT T X.N X.env.scope e a = true → PT X a (tTt T X.K W (evT G e))
  w : ∀ {X : Cx} {W : WX} {op : BoolOp} {es : List Expr} {p : Pos}, Good T G k X W → mT T X.N X.env.scope e (.BoolOp op es p) = true → PW X (.BoolOp op es p) (tTt T X.K W (evT G e))
  s : ∀ {X : Cx} {W : WX} {a : List Expr}, Good T G k X W → a.all noStar = true → ms T X.N X.env.scope e a = true → PA X a (tDs T X.K W (evs G e))
  o : ∀ {X : Cx} {W : WX} {a : Option Expr}, Good T G k X W → mO T X.N X.env.scope e a = true → PO X a (tOo T X.K W (evO G e))
  l : ∀ {X : Cx} {W : WX} {a : Expr}, Good T G k X W → mL T X.N X.env.scope e a = true → PE X a (tLl T X.K W (evL G e))
  i : ∀ {X : Cx} {W : WX} {tg a : Expr}, Good T G k X W → mI T X.N X.env.scope e tg a = true → PI X tg a (tIi T X.K W (evI G e))
theorem PE.imp {X : Cx} {e : Expr} {t t' : TE} (h : PE X e t) (q : ∀ σ H Q, t' σ H Q → t σ H Q) : PE X e t' := ⟨fun pins s σ H Q I z => h.run pins s σ H Q I (q σ H Q z)⟩
theorem PT.imp {X : Cx} {e : Expr} {t t' : TT} (h : PT X e t) (q : ∀ σ H Q, t' σ H Q → t σ H Q) : PT X e t' := ⟨fun pins s σ H Q I z => h.run pins s σ H Q I (q σ H Q z)⟩
theorem PW.imp {X : Cx} {e : Expr} {t t' : TT} (h : PW X e t) (q : ∀ σ H Q, t' σ H Q → t σ H Q) : PW X e t' := ⟨fun wh pins s σ H Q I z => h.run wh pins s σ H Q I (q σ H Q z)⟩
theorem PA.imp {X : Cx} {e : List Expr} {t t' : TA} (h : PA X e t) (q : ∀ σ H Q, t' σ H Q → t σ H Q) : PA X e t' := ⟨fun pos pins s σ H Q I z => h.run pos pins s σ H Q I (q σ H Q z)⟩
theorem PO.imp {X : Cx} {e : Option Expr} {t t' : TO} (h : PO X e t) (q : ∀ σ H Q, t' σ H Q → t σ H Q) : PO X e t' := ⟨fun pins s σ H Q I z => h.run pins s σ H Q I (q σ H Q z)⟩
theorem PI.imp {X : Cx} {tg e : Expr} {t t' : TI} (h : PI X tg e t) (q : ∀ σ H Q, t' σ H Q → t σ H Q) : PI X tg e t' := ⟨fun pins s σ H Q I z => h.run pins s σ H Q I (q σ H Q z)⟩
theorem and3 {a b : Bool} (h : (a && b) = true) : a = true ∧ b = true := Bool.and_eq_true_iff.mp h
theorem Snd.no {e : E} (v : ∀ {N : List Str} {sc : Scope} {a : Expr}, mE T N sc e a = false) (t : ∀ {N : List Str} {sc : Scope} {a : Expr}, mT T N sc e a = false) (s : ∀ {N : List Str} {sc : Scope} {a : List Expr}, ms T N sc e a = false)
    (o : ∀ {N : List Str} {sc : Scope} {a : Option Expr}, mO T N sc e a = false) (l : ∀ {N : List Str} {sc : Scope} {a : Expr}, mL T N sc e a = false) (i : ∀ {N : List Str} {sc : Scope} {tg a : Expr}, mI T N sc e tg a = false) : Snd T G k e :=
  ⟨fun _ h => (by rw [v] at h; cases h), fun _ _ h => (by rw [v] at h; cases h), fun _ h => (by rw [t] at h; cases h), fun _ h => (by rw [t] at h; cases h), fun _ _ h => (by rw [s] at h; cases h), fun _ h => (by rw [o] at h; cases h), fun _ h => (by rw [l] at h; cases h), fun _ h => (by rw [i] at h; cases h)⟩
theorem Snd.val {e : E} (v : ∀ {X : Cx} {W : WX} {a : Expr}, Good T G k X W → mE T X.N X.env.scope e a = true → PE X a (tD T X.K W (ev G e))) (c : ∀ {N : List Str} {sc : Scope} {a : Expr}, cmpT a = true → mE T N sc e a = false) (t : ∀ {N : List Str} {sc : Scope} {a : Expr}, mT T N sc e a = false) (s : ∀ {N : List Str} {sc : Scope} {a : List Expr}, ms T N sc e a = false)
    (o : ∀ {N : List Str} {sc : Scope} {a : Option Expr}, mO T N sc e a = false) (l : ∀ {N : List Str} {sc : Scope} {a : Expr}, mL T N sc e a = false) (i : ∀ {N : List Str} {sc : Scope} {tg a : Expr}, mI T N sc e tg a = false) : Snd T G k e :=
  ⟨v, fun _ z h => (by rw [c z] at h; cases h), fun _ h => (by rw [t] at h; cases h), fun _ h => (by rw [t] at h; cases h), fun _ _ h => (by rw [s] at h; cases h), fun _ h => (by rw [o] at h; cases h), fun _ h => (by rw [l] at h; cases h), fun _ h => (by rw [i] at h; cases h)⟩
theorem snd_var {i : Nat} : Snd T G k (.var i) := by
  refine Snd.val (fun {X W e} g h => ?_) (fun {N sc e} z => ?_) (by intros; rfl) (by intros; rfl) (by intros; rfl) (by intros; rfl) (by intros; rfl)
  · cases e <;> first | (exact absurd h Bool.false_ne_true) | skip
    rename_i x p
    simp only [mE, Bool.and_eq_true, decide_eq_true_eq] at h
    obtain ⟨⟨h1, h2⟩, h3⟩ := h
    refine PE.imp (pe_var h1 (vis_of h2) (nm_of h3).d (nm_of h3).c) ?_
    rintro σ H Q ⟨Z, env, M, mu, F, hr, er, p⟩
    simp only [ev] at p
    split at p
    · rename_i d e
      obtain ⟨v, h4, h5⟩ := er.2 i d e
      exact ⟨v, h4, p.here hr v h5⟩
    · exact p.elim
  · cases e <;> first | rfl | exact absurd z Bool.false_ne_true
theorem snd_non : Snd T G k .non := by
  refine Snd.val (fun {X W e} g h => ?_) (fun {N sc e} z => ?_) (by intros; rfl) (by intros; rfl) (by intros; rfl) (by intros; rfl) (by intros; rfl)
  · cases e <;> first | (exact absurd h Bool.false_ne_true) | skip
    rename_i c j p
    cases c <;> first | (exact absurd h Bool.false_ne_true) | skip
    refine PE.imp pe_non ?_
    rintro σ H Q ⟨Z, env, M, mu, F, hr, er, p⟩
    simp only [ev] at p
    exact p.here hr _ .non
  · cases e <;> first | rfl | exact absurd z Bool.false_ne_true
theorem snd_bl {b : Bool} : Snd T G k (.bl b) := by
  refine Snd.val (fun {X W e} g h => ?_) (fun {N sc e} z => ?_) (by intros; rfl) (by intros; rfl) (by intros; rfl) (by intros; rfl) (by intros; rfl)
  · cases e <;> first | (exact absurd h Bool.false_ne_true) | skip
    rename_i c j p
    cases c <;> first | (exact absurd h Bool.false_ne_true) | skip
    rename_i c
    have e : b = c := by simpa [mE] using h
    subst e
    refine PE.imp pe_bl ?_
    rintro σ H Q ⟨Z, env, M, mu, F, hr, er, p⟩
    simp only [ev] at p
    exact p.here hr _ (.bl b)
  · cases e <;> first | rfl | exact absurd z Bool.false_ne_true
theorem snd_int {i : Int} : Snd T G k (.int i) := by
  refine Snd.val (fun {X W e} g h => ?_) (fun {N sc e} z => ?_) (by intros; rfl) (by intros; rfl) (by intros; rfl) (by intros; rfl) (by intros; rfl)
  · cases e <;> first | (exact absurd h Bool.false_ne_true) | skip
    rename_i c j p
    cases c <;> first | (exact absurd h Bool.false_ne_true) | skip
    rename_i c
    have e : i = c := by simpa [mE] using h
    subst e
    refine PE.imp pe_int ?_
    rintro σ H Q ⟨Z, env, M, mu, F, hr, er, p⟩
    simp only [ev] at p
    exact p.here hr _ (.int i)
  · cases e <;> first | rfl | exact absurd z Bool.false_ne_true
theorem snd_str {i : Nat} : Snd T G k (.str i) := by
  refine Snd.val (fun {X W e} g h => ?_) (fun {N sc e} z => ?_) (by intros; rfl) (by intros; rfl) (by intros; rfl) (by intros; rfl) (by intros; rfl)
  · cases e <;> first | (exact absurd h Bool.false_ne_true) | skip
    rename_i c j p
    cases c <;> first | (exact absurd h Bool.false_ne_true) | skip
    rename_i s
    simp only [mE, decide_eq_true_eq] at h
    have e := g.glb.str i s h
    refine PE.imp pe_str ?_
    rintro σ H Q ⟨Z, env, M, mu, F, hr, er, p⟩
    simp only [ev, e] at p
    exact p.here hr _ (.str s)
  · cases e <;> first | rfl | exact absurd z Bool.false_ne_true
theorem snd_gco {i : Nat} : Snd T G k (.gco i) := by
  refine Snd.val (fun {X W e} g h => ?_) (fun {N sc e} z => ?_) (by intros; rfl) (by intros; rfl) (by intros; rfl) (by intros; rfl) (by intros; rfl)
  · cases e <;> first | (exact absurd h Bool.false_ne_true) | skip
    rename_i x p
    simp only [mE, Bool.and_eq_true] at h
    obtain ⟨⟨h1, h2⟩, h3⟩ := h
    cases q : T.gcs[i]? with
    | none => rw [q] at h1; cases h1
    | some yd =>
      obtain ⟨y, d⟩ := yd
      rw [q] at h1
      simp only [decide_eq_true_eq] at h1
      subst h1
      obtain ⟨e1, e2⟩ := g.glb.gco i x d q
      have e2 := e2 (nm_of h3).e
      cases d with
      | int j =>
        obtain ⟨t, e2⟩ := e2
        refine PE.imp (pe_glob (v := .int j) (gl_of h2) e2 ⟨t, rfl⟩ (nm_of h3).d) ?_
        rintro σ H Q ⟨Z, env, M, mu, F, hr, er, p⟩
        simp only [ev, e1] at p
        exact p.here hr _ (.int j)
      | arr ds =>
        obtain ⟨a, vs, e2, e3, e4⟩ := e2
        refine PE.imp (pe_glob (v := .ref a) (gl_of h2) e2 rfl (nm_of h3).d) ?_
        rintro σ H Q ⟨Z, env, M, mu, F, hr, er, p⟩
        simp only [ev, e1] at p
        exact p.here hr _ (.arrT (e3 F) (e4 _ _ _))
      | _ => exact e2.elim
  · cases e <;> first | rfl | exact absurd z Bool.false_ne_true
theorem snd_bin {op : Operator} {a b : E} (ia : Snd T G k a) (ib : Snd T G k b) : Snd T G k (.bin op a b) := by
  refine Snd.val (fun {X W e} g h => ?_) (fun {N sc e} z => ?_) (by intros; rfl) (by intros; rfl) (by intros; rfl) (by intros; rfl) (by intros; rfl)
  · cases e <;> first | (exact absurd h Bool.false_ne_true) | skip
    rename_i l op' r p
    simp only [mE, Bool.and_eq_true, decide_eq_true_eq] at h
    obtain ⟨⟨rfl, h1⟩, h2⟩ := h
    refine PE.imp (pe_op (op_bin (T := T) op) (ia.v g h1) (ib.v g h2)) ?_
    rintro σ H Q ⟨Z, env, M, mu, F, hr, er, p⟩
    simp only [ev] at p
    exact ⟨Z, env, M, mu, F, hr, er, p.bind.imp fun x M1 H1 mu1 F1 g1 hr1 p1 v rv => ⟨Z, env, M1, mu1, F1, hr1, er.mono g1, p1.bind.imp fun y M2 H2 mu2 F2 g2 hr2 p2 w rw => ⟨Z, _, M2, mu2, F2, x, y, hr2, rv.mono g2, rw, p2⟩⟩⟩
  · cases e <;> first | rfl | exact absurd z Bool.false_ne_true
theorem snd_neg {a : E} (ia : Snd T G k a) : Snd T G k (.neg a) := by
  refine Snd.val (fun {X W e} g h => ?_) (fun {N sc e} z => ?_) (by intros; rfl) (by intros; rfl) (by intros; rfl) (by intros; rfl) (by intros; rfl)
  · cases e <;> first | (exact absurd h Bool.false_ne_true) | skip
    rename_i op x p
    cases op <;> first | (exact absurd h Bool.false_ne_true) | skip
    simp only [mE] at h
    refine PE.imp (pe_un (op_neg (T := T)) (ia.v g h)) ?_
    rintro σ H Q ⟨Z, env, M, mu, F, hr, er, p⟩
    simp only [ev] at p
    exact ⟨Z, env, M, mu, F, hr, er, p.bind.imp fun x M1 H1 mu1 F1 g1 hr1 p1 v rv => ⟨Z, _, M1, mu1, F1, x, hr1, rv, p1⟩⟩
  · cases e <;> first | rfl | exact absurd z Bool.false_ne_true
theorem cmpD_bl (op : CmpOp) (x y : D) (M : Store) : cmpD op x y M = .bad ∨ ∃ k, cmpD op x y M = .ok (.bl k) M := by
  have hb : ∀ o : Option Bool, bRes o M = .bad ∨ ∃ k, bRes o M = .ok (.bl k) M := fun o => by
    cases o with
    | none => exact .inl rfl
    | some k => exact .inr ⟨k, rfl⟩
  cases op <;> simp only [cmpD] <;> first | exact hb _ | (split <;> first | exact .inr ⟨_, rfl⟩ | exact .inl rfl)
theorem bl_test {K : PySem.W.Frag} {Z : Hp} {w : WE1} {F : Hp} {mu : List Addr} {M : Store} {r : Res D} {Q : Bool → Hp → Prop} (hb : r = .bad ∨ ∃ k, r = .ok (.bl k) M)
    (p : PG T K Z w F mu r (fun d M1 _ mu1 F1 => PG T K Z w F1 mu1 (match truB M1 d with | some b => .ok b M1 | none => .bad) (QB Q))) : PG T K Z w F mu r (QD T K fun x H' => ∃ k, x = .bl k ∧ Q k H') := by
  rcases hb with e | ⟨k, e⟩
  · rw [e] at p; exact p.elim
  · rw [e] at p ⊢
    intro H' mu' F' g hr v rv
    cases rv
    exact ⟨k, rfl, (p H' mu' F' g hr).here hr⟩
theorem nomark_of {op : CmpOp} {e : Expr} (h : noSet e = true) : behindInMarks op e = false := by
  cases e <;> first | rfl | exact absurd h Bool.false_ne_true
theorem snd_cmp {op : CmpOp} {a b : E} (ia : Snd T G k a) (ib : Snd T G k b) : Snd T G k (.cmp op a b) := by
  refine ⟨fun {X W e} g h => ?_, fun {X W e} g _ h => ?_, fun _ h => (by cases h), fun _ h => (by cases h), fun _ _ h => (by cases h), fun _ h => (by cases h), fun _ h => (by cases h), fun _ h => (by cases h)⟩
  · cases e <;> first | (exact absurd h Bool.false_ne_true) | skip
    rename_i l ops cs p
    match ops, cs, h with
    | [op'], [r], h =>
    simp only [mE, Bool.and_eq_true, decide_eq_true_eq] at h
    obtain ⟨⟨⟨rfl, h0⟩, h1⟩, h2⟩ := h
    refine PE.imp (pe_cmpR (op_cmp (T := T) g.room.units op) (ia.v g h1) (ib.v g h2) (nomark_of h0)) ?_
    rintro σ H Q ⟨Z, env, M, mu, F, hr, er, p⟩
    simp only [ev] at p
    exact ⟨Z, env, M, mu, F, hr, er, p.bind.imp fun x M1 H1 mu1 F1 g1 hr1 p1 v rv => ⟨Z, env, M1, mu1, F1, hr1, er.mono g1, p1.bind.imp fun y M2 H2 mu2 F2 g2 hr2 p2 w rw => ⟨Z, _, M2, mu2, F2, x, y, hr2, rv.mono g2, rw, p2⟩⟩⟩
  · cases e <;> first | (exact absurd h Bool.false_ne_true) | skip
    rename_i l ops cs p _
    match ops, cs, h with
    | [op'], [r], h =>
    simp only [mE, Bool.and_eq_true, decide_eq_true_eq] at h
    obtain ⟨⟨⟨rfl, h0⟩, h1⟩, h2⟩ := h
    refine PT.imp (pt_cmpR (op_cmp (T := T) g.room.units op) (ia.v g h1) (ib.v g h2) (nomark_of h0)) ?_
    rintro σ H Q ⟨Z, env, M, mu, F, hr, er, p⟩
    simp only [evT, ev] at p
    exact ⟨Z, env, M, mu, F, hr, er, p.bind.bind.imp fun x M1 H1 mu1 F1 g1 hr1 p1 v rv => ⟨Z, env, M1, mu1, F1, hr1, er.mono g1, p1.bind.imp fun y M2 H2 mu2 F2 g2 hr2 p2 w rw => ⟨Z, _, M2, mu2, F2, x, y, hr2, rv.mono g2, rw, bl_test (cmpD_bl op x y M2) p2⟩⟩⟩
theorem mark2_of {o1 o2 : CmpOp} {r q : Expr} (h : noSet q = true) : lastMarks [o1, o2] [r, q] = false := by
  show behindInMarks o2 q = false
  exact nomark_of h
def chnR (o1 o2 : CmpOp) (x y : D) (c : Store → Res D) (M : Store) : Res D := (cmpD o1 x y M).bind fun z M => match z with
    | .bl true => (c M).bind fun w M => cmpD o2 y w M
    | .bl false => .ok (.bl false) M
    | _ => .bad
theorem tst_of {K : PySem.W.Frag} {Z : Hp} {w : WE1} {F : Hp} {mu : List Addr} {r : Res D} {Q : Bool → Hp → Prop} (hb : ∀ d M', r = .ok d M' → ∃ k, d = .bl k)
    (p : PG T K Z w F mu r (fun d M1 _ mu1 F1 => PG T K Z w F1 mu1 (match truB M1 d with | some b => .ok b M1 | none => .bad) (QB Q))) : PG T K Z w F mu r (QD T K fun x H' => ∃ k, x = .bl k ∧ Q k H') := by
  cases r with
  | bad => exact p
  | exc c fs M => exact p
  | ok d M =>
    obtain ⟨k, rfl⟩ := hb d M rfl
    intro H' mu' F' g hr v rv
    cases rv
    exact ⟨k, rfl, (p H' mu' F' g hr).here hr⟩
theorem chn_bl (o1 o2 : CmpOp) (x y : D) (c : Store → Res D) {M : Store} : ∀ d M', chnR o1 o2 x y c M = .ok d M' → ∃ k, d = .bl k := by
  intro d M' h
  unfold chnR at h
  rcases cmpD_bl o1 x y M with e | ⟨k, e⟩
  · rw [e] at h; cases h
  · rw [e] at h
    cases k with
    | false => cases h; exact ⟨false, rfl⟩
    | true =>
      have h : ((c M).bind fun w M => cmpD o2 y w M) = .ok d M' := h
      cases q : c M with
      | bad => rw [q] at h; cases h
      | exc _ _ _ => rw [q] at h; cases h
      | ok w M2 =>
        rw [q] at h
        have h : cmpD o2 y w M2 = .ok d M' := h
        rcases cmpD_bl o2 y w M2 with e2 | ⟨k2, e2⟩
        · rw [e2] at h; cases h
        · rw [e2] at h; cases h; exact ⟨k2, rfl⟩
theorem snd_chn {o1 o2 : CmpOp} {a b c : E} (ia : Snd T G k a) (ib : Snd T G k b) (ic : Snd T G k c) : Snd T G k (.chn o1 o2 a b c) := by
  have core : ∀ {X : Cx} {W : WX} {q : Expr} {σ : L2.St} {env : Ev} {Z F : Hp} {mu : List Addr} {M : Store} {x y : D} {v u : V} {H : Hp} {Q : VK}, HR T X.K Z H M mu F → EnvR T X.K F mu σ env → Rp T X.K F mu v x → Rp T X.K F mu u y →
      PG T X.K Z (fun c d H' => W c d σ H') F mu (chnR o1 o2 x y (ev G c env) M) (QD T X.K Q) →
      R2D T X.K (cmpD o1) v u H fun z H3 => ∃ k, z = .bl k ∧ (if k = true then tD T X.K W (ev G c) σ H3 fun w' H4 => R2D T X.K (cmpD o2) u w' H4 Q else Q (.bl false) H3) := fun {X W q σ env Z F mu M x y v u H Q} hr er rv ru p => by
    refine ⟨Z, fun c d H' => W c d σ H', M, mu, F, x, y, hr, rv, ru, ?_⟩
    unfold chnR at p
    have p := p.bind
    rcases cmpD_bl o1 x y M with e | ⟨k, e⟩
    · rw [e] at p; exact p.elim
    · rw [e] at p ⊢
      intro H' mu' F' g1 hr1 z rz
      cases rz
      have p1 := p H' mu' F' g1 hr1
      refine ⟨k, rfl, ?_⟩
      cases k with
      | true =>
        rw [if_pos rfl]
        exact ⟨Z, env, M, mu', F', hr1, er.mono g1, p1.bind.imp fun w M2 H2 mu2 F2 g2 hr2 p2 w' rw' => ⟨Z, _, M2, mu2, F2, y, w, hr2, ru.mono (g1.trans g2), rw', p2⟩⟩
      | false =>
        rw [if_neg Bool.false_ne_true]
        exact p1.here hr1 _ (.bl false)
  refine ⟨fun {X W e} g h => ?_, fun {X W e} g _ h => ?_, fun _ h => (by cases h), fun _ h => (by cases h), fun _ _ h => (by cases h), fun _ h => (by cases h), fun _ h => (by cases h), fun _ h => (by cases h)⟩
  · cases e <;> first | (exact absurd h Bool.false_ne_true) | skip
    rename_i l ops cs p
    match ops, cs, h with
    | [p1, p2], [r, q], h =>
    simp only [mE, Bool.and_eq_true, decide_eq_true_eq] at h
    obtain ⟨⟨⟨⟨⟨rfl, rfl⟩, h0⟩, h1⟩, h2⟩, h3⟩ := h
    refine PE.imp (pe_chain (op_cmp (T := T) g.room.units o1) (op_cmp (T := T) g.room.units o2) (ia.v g h1) (ib.v g h2) (ic.v g h3) (mark2_of h0)) ?_
    rintro σ H Q ⟨Z, env, M, mu, F, hr, er, p⟩
    simp only [ev] at p
    exact ⟨Z, env, M, mu, F, hr, er, p.bind.imp fun x M1 H1 mu1 F1 g1 hr1 p1 v rv => ⟨Z, env, M1, mu1, F1, hr1, er.mono g1, p1.bind.imp fun y M2 H2 mu2 F2 g2 hr2 p2 w rw => core (q := q) hr2 ((er.mono g1).mono g2) (rv.mono g2) rw p2⟩⟩
  · cases e <;> first | (exact absurd h Bool.false_ne_true) | skip
    rename_i l ops cs p _
    match ops, cs, h with
    | [p1, p2], [r, q], h =>
    simp only [mE, Bool.and_eq_true, decide_eq_true_eq] at h
    obtain ⟨⟨⟨⟨⟨rfl, rfl⟩, h0⟩, h1⟩, h2⟩, h3⟩ := h
    refine PT.imp (pt_chain (op_cmp (T := T) g.room.units o1) (op_cmp (T := T) g.room.units o2) (ia.v g h1) (ib.v g h2) (ic.v g h3) (mark2_of h0)) ?_
    rintro σ H Q ⟨Z, env, M, mu, F, hr, er, p⟩
    simp only [evT, ev] at p
    refine ⟨Z, env, M, mu, F, hr, er, p.bind.bind.imp fun x M1 H1 mu1 F1 g1 hr1 p1 v rv => ⟨Z, env, M1, mu1, F1, hr1, er.mono g1, p1.bind.imp fun y M2 H2 mu2 F2 g2 hr2 p2 w rw => core (q := q) hr2 ((er.mono g1).mono g2) (rv.mono g2) rw (tst_of (chn_bl o1 o2 x y _) p2)⟩⟩
theorem snd_andv {a b : E} (ia : Snd T G k a) (ib : Snd T G k b) : Snd T G k (.andv a b) := by
  refine Snd.val (fun {X W e} g h => ?_) (fun {N sc e} z => ?_) (by intros; rfl) (by intros; rfl) (by intros; rfl) (by intros; rfl) (by intros; rfl)
  · cases e <;> first | (exact absurd h Bool.false_ne_true) | skip
    rename_i op es p
    have fin : ∀ {x y : Expr} {rest : List Expr} {p : Pos}, mE T X.N X.env.scope a x = true → PE X (.BoolOp .And (y :: rest) p) (tD T X.K W (ev G b)) → PE X (.BoolOp .And (x :: y :: rest) p) (tD T X.K W (ev G (.andv a b))) := fun {x y rest p} h1 h2 => by
      refine PE.imp (pe_and (ia.v g h1) h2) ?_
      rintro σ H Q ⟨Z, env, M, mu, F, hr, er, p⟩
      simp only [ev] at p
      refine ⟨Z, env, M, mu, F, hr, er, p.bind.imp fun x M1 H1 mu1 F1 g1 hr1 p1 v rv => ?_⟩
      cases rv with
      | bl c =>
        refine ⟨c, rfl, ?_⟩
        cases c with
        | true => exact ⟨Z, env, M1, mu1, F1, hr1, er.mono g1, p1⟩
        | false => exact p1.here hr1 _ (.bl false)
      | _ => exact p1.elim
    cases op with
    | Or => match es, h with
      | [], h => exact absurd h Bool.false_ne_true
      | [_], h => exact absurd h Bool.false_ne_true
      | [_, _], h => exact absurd h Bool.false_ne_true
      | _ :: _ :: _ :: _, h => exact absurd h Bool.false_ne_true
    | And => match es, h with
      | [], h => exact absurd h Bool.false_ne_true
      | [_], h => exact absurd h Bool.false_ne_true
      | [x, y], h =>
        simp only [mE, Bool.and_eq_true] at h
        exact fin h.1 (pe_one (ib.v g h.2))
      | x :: y :: z :: r, h =>
        simp only [mE, Bool.and_eq_true] at h
        exact fin h.1 (ib.v g h.2)
  · cases e <;> first | rfl | exact absurd z Bool.false_ne_true
end
end Lp

namespace Lp
open PySem PySem.Spec L2
section
variable {T : Tb} {G : Gm} {k : Nat}
theorem snd_orv {a b : E} (ia : Snd T G k a) (ib : Snd T G k b) : Snd T G k (.orv a b) := by
  refine Snd.val (fun {X W e} g h => ?_) (fun {N sc e} z => ?_) (by intros; rfl) (by intros; rfl) (by intros; rfl) (by intros; rfl) (by intros; rfl)
  · cases e <;> first | (exact absurd h Bool.false_ne_true) | skip
    rename_i op es p
    have fin : ∀ {x y : Expr} {rest : List Expr} {p : Pos}, mE T X.N X.env.scope a x = true → PE X (.BoolOp .Or (y :: rest) p) (tD T X.K W (ev G b)) → PE X (.BoolOp .Or (x :: y :: rest) p) (tD T X.K W (ev G (.orv a b))) := fun {x y rest p} h1 h2 => by
      refine PE.imp (pe_or (ia.v g h1) h2) ?_
      rintro σ H Q ⟨Z, env, M, mu, F, hr, er, p⟩
      simp only [ev] at p
      refine ⟨Z, env, M, mu, F, hr, er, p.bind.imp fun x M1 H1 mu1 F1 g1 hr1 p1 v rv => ?_⟩
      cases rv with
      | bl c =>
        refine ⟨c, rfl, ?_⟩
        cases c with
        | false => exact ⟨Z, env, M1, mu1, F1, hr1, er.mono g1, p1⟩
        | true => exact p1.here hr1 _ (.bl true)
      | _ => exact p1.elim
    cases op with
    | And => match es, h with
      | [], h => exact absurd h Bool.false_ne_true
      | [_], h => exact absurd h Bool.false_ne_true
      | [_, _], h => exact absurd h Bool.false_ne_true
      | _ :: _ :: _ :: _, h => exact absurd h Bool.false_ne_true
    | Or => match es, h with
      | [], h => exact absurd h Bool.false_ne_true
      | [_], h => exact absurd h Bool.false_ne_true
      | [x, y], h =>
        simp only [mE, Bool.and_eq_true] at h
        exact fin h.1 (pe_one (ib.v g h.2))
      | x :: y :: z :: r, h =>
        simp only [mE, Bool.and_eq_true] at h
        exact fin h.1 (ib.v g h.2)
  · cases e <;> first | rfl | exact absurd z Bool.false_ne_true
theorem snd_notv {a : E} (ia : Snd T G k a) : Snd T G k (.notv a) := by
  refine Snd.val (fun {X W e} g h => ?_) (fun {N sc e} z => ?_) (by intros; rfl) (by intros; rfl) (by intros; rfl) (by intros; rfl) (by intros; rfl)
  · cases e <;> first | (exact absurd h Bool.false_ne_true) | skip
    rename_i op x p
    cases op <;> first | (exact absurd h Bool.false_ne_true) | skip
    simp only [mE] at h
    refine PE.imp (pe_not (ia.v g h)) ?_
    rintro σ H Q ⟨Z, env, M, mu, F, hr, er, p⟩
    simp only [ev] at p
    refine ⟨Z, env, M, mu, F, hr, er, p.bind.imp fun x M1 H1 mu1 F1 g1 hr1 p1 v rv => ?_⟩
    cases rv with
    | bl c => exact ⟨c, rfl, p1.here hr1 _ (.bl _)⟩
    | _ => exact p1.elim
  · cases e <;> first | rfl | exact absurd z Bool.false_ne_true
theorem snd_ife {c a b : E} (ic : Snd T G k c) (ia : Snd T G k a) (ib : Snd T G k b) : Snd T G k (.ife c a b) := by
  refine Snd.val (fun {X W e} g h => ?_) (fun {N sc e} z => ?_) (by intros; rfl) (by intros; rfl) (by intros; rfl) (by intros; rfl) (by intros; rfl)
  · cases e <;> first | (exact absurd h Bool.false_ne_true) | skip
    rename_i t x y p
    simp only [mE, Bool.and_eq_true] at h
    refine PE.imp (pe_ifExp (ic.t g h.1.1) (ia.v g h.1.2) (ib.v g h.2)) ?_
    rintro σ H Q ⟨Z, env, M, mu, F, hr, er, p⟩
    simp only [ev] at p
    refine ⟨Z, env, M, mu, F, hr, er, p.bind.imp fun x M1 H1 mu1 F1 g1 hr1 p1 => ?_⟩
    cases x with
    | true => (simp only [QB, if_true]; exact ⟨Z, env, M1, mu1, F1, hr1, er.mono g1, p1⟩)
    | false => (simp only [QB, Bool.false_eq_true, if_false]; exact ⟨Z, env, M1, mu1, F1, hr1, er.mono g1, p1⟩)
  · cases e <;> first | rfl | exact absurd z Bool.false_ne_true
theorem snd_idx {a b : E} (ia : Snd T G k a) (ib : Snd T G k b) : Snd T G k (.idx a b) := by
  refine Snd.val (fun {X W e} g h => ?_) (fun {N sc e} z => ?_) (by intros; rfl) (by intros; rfl) (by intros; rfl) (by intros; rfl) (by intros; rfl)
  · cases e <;> first | (exact absurd h Bool.false_ne_true) | skip
    rename_i o s p
    simp only [mE, Bool.and_eq_true] at h
    refine PE.imp (pe_ix (ix_any (T := T) g.room.units) (ia.v g h.1.2) (ib.v g h.2) (ix_of h.1.1)) ?_
    rintro σ H Q ⟨Z, env, M, mu, F, hr, er, p⟩
    simp only [ev] at p
    exact ⟨Z, env, M, mu, F, hr, er, p.bind.imp fun x M1 H1 mu1 F1 g1 hr1 p1 v rv => ⟨Z, env, M1, mu1, F1, hr1, er.mono g1, p1.bind.imp fun y M2 H2 mu2 F2 g2 hr2 p2 w rw => ⟨Z, _, M2, mu2, F2, x, y, hr2, rv.mono g2, rw, p2⟩⟩⟩
  · cases e <;> first | rfl | exact absurd z Bool.false_ne_true
theorem snd_slt {a lo hi : E} (ia : Snd T G k a) (il : Snd T G k lo) (ih : Snd T G k hi) : Snd T G k (.slt a lo hi) := by
  refine Snd.val (fun {X W e} g h => ?_) (fun {N sc e} z => ?_) (by intros; rfl) (by intros; rfl) (by intros; rfl) (by intros; rfl) (by intros; rfl)
  · cases e <;> first | (exact absurd h Bool.false_ne_true) | skip
    rename_i o s p
    cases s <;> first | (exact absurd h Bool.false_ne_true) | skip
    rename_i l u st p2
    cases st <;> first | (exact absurd h Bool.false_ne_true) | skip
    simp only [mE, Bool.and_eq_true] at h
    refine PE.imp (pe_slice (sl_t (T := T)) (ia.v g h.1.1) (il.o g h.1.2) (ih.o g h.2)) ?_
    rintro σ H Q ⟨Z, env, M, mu, F, hr, er, p⟩
    simp only [ev] at p
    exact ⟨Z, env, M, mu, F, hr, er, p.bind.imp fun x M1 H1 mu1 F1 g1 hr1 p1 v rv => ⟨Z, env, M1, mu1, F1, hr1, er.mono g1, p1.bind.imp fun y M2 H2 mu2 F2 g2 hr2 p2 => ⟨Z, env, M2, mu2, F2, hr2, (er.mono g1).mono g2, p2.bind.imp fun z M3 H3 mu3 F3 g3 hr3 p3 => ⟨Z, _, M3, mu3, F3, x, hr3, (rv.mono g2).mono g3, p3⟩⟩⟩⟩
  · cases e <;> first | rfl | exact absurd z Bool.false_ne_true
theorem snd_att {a : E} {f : Nat} (ia : Snd T G k a) : Snd T G k (.att a f) := by
  refine Snd.val (fun {X W e} g h => ?_) (fun {N sc e} z => ?_) (by intros; rfl) (by intros; rfl) (by intros; rfl) (by intros; rfl) (by intros; rfl)
  · cases e <;> first | (exact absurd h Bool.false_ne_true) | skip
    rename_i o x p
    simp only [mE, Bool.and_eq_true, decide_eq_true_eq] at h
    obtain ⟨⟨h1, h2⟩, h3⟩ := h
    refine PE.imp (pe_fld (ia.v g h3) (base_of h2)) ?_
    rintro σ H Q ⟨Z, env, M, mu, F, hr, er, p⟩
    simp only [ev] at p
    refine ⟨Z, env, M, mu, F, hr, er, p.bind.imp fun d M1 H1 mu1 F1 g1 hr1 p1 v rv => ?_⟩
    unfold attG at p1
    cases q1 : asI M1 d with
    | none => rw [q1] at p1; exact p1.elim
    | some cf =>
      obtain ⟨c, fs⟩ := cf
      rw [q1] at p1
      simp only at p1
      by_cases hcf : G.cfl c f = true
      · rw [if_pos hcf] at p1
        cases q2 : fget f fs with
        | none => rw [q2] at p1; exact p1.elim
        | some y =>
          rw [q2] at p1
          obtain ⟨hc, ad, dx, fv, rfl, q4, q5⟩ := rv.insI hr1 q1
          obtain ⟨z, q6, q7⟩ := fget_of g.glb.nd h1 q5 q2
          obtain ⟨_, c1, c2⟩ := g.glb.cls c hc
          exact ⟨ad, T.cad X.K c, dx, fv, z, rfl, q4, c1, c2 f x hcf h1, q6, p1.here hr1 _ q7⟩
      · rw [if_neg hcf] at p1; exact p1.elim
  · cases e <;> first | rfl | exact absurd z Bool.false_ne_true
theorem snd_tru {a : E} (ia : Snd T G k a) : Snd T G k (.tru a) := by
  refine ⟨fun _ h => (by cases h), fun _ _ h => (by cases h), fun {X W e} g h => ?_, fun {X W op es p} g h => ?_, fun _ _ h => (by cases h), fun {X W e} g h => ?_, fun _ h => (by cases h), fun _ h => (by cases h)⟩
  · simp only [mT, Bool.and_eq_true, Bool.or_eq_true] at h
    obtain ⟨h0, h1⟩ := h
    by_cases hc : cmpT e = true
    · exact ia.c g hc h1
    · rcases h0 with h0 | h0
      · refine PT.imp (pt_truth (ia.v g h1) (plainT_of h0)) ?_
        rintro σ H Q ⟨Z, env, M, mu, F, hr, er, p⟩
        simp only [evT] at p
        refine ⟨Z, env, M, mu, F, hr, er, p.bind.imp fun d M1 H1 mu1 F1 g1 hr1 p1 v rv => ?_⟩
        cases q : truB M1 d with
        | none => rw [q] at p1; exact p1.elim
        | some b =>
          rw [q] at p1
          exact ⟨b, tru_of hr1 rv q, p1.here hr1⟩
      · exact absurd h0 hc
  · simp only [mT, Bool.and_eq_true, Bool.or_eq_true] at h
    rcases h.1 with h0 | h0 <;> exact absurd h0 Bool.false_ne_true
  · cases e with
    | none => cases h
    | some e =>
      simp only [mO] at h
      refine PO.imp (po_some (ia.v g h)) ?_
      rintro σ H Q ⟨Z, env, M, mu, F, hr, er, p⟩
      simp only [evO] at p
      refine ⟨Z, env, M, mu, F, hr, er, p.bind.imp fun d M1 H1 mu1 F1 g1 hr1 p1 v rv => ?_⟩
      cases rv with
      | int i => exact ⟨i, rfl, p1.here hr1⟩
      | _ => exact p1.elim
theorem snd_absent : Snd T G k .absent := by
  refine ⟨fun _ h => (by cases h), fun _ _ h => (by cases h), fun _ h => (by cases h), fun _ h => (by cases h), fun _ _ h => (by cases h), fun {X W e} g h => ?_, fun _ h => (by cases h), fun _ h => (by cases h)⟩
  cases e with
  | some e => cases h
  | none =>
    refine PO.imp po_none ?_
    rintro σ H Q ⟨Z, env, M, mu, F, hr, er, p⟩
    simp only [evO] at p
    exact p.here hr
theorem snd_tand {a b : E} (ia : Snd T G k a) (ib : Snd T G k b) : Snd T G k (.tand a b) := by
  have fin : ∀ {X : Cx} {W : WX} {op : BoolOp} {es : List Expr} {p : Pos}, Good T G k X W → mT T X.N X.env.scope (.tand a b) (.BoolOp op es p) = true → PW X (.BoolOp op es p) (tTt T X.K W (evT G (.tand a b))) := fun {X W op es p} g h => by
    have fin : ∀ {x y : Expr} {rest : List Expr} {p : Pos}, mT T X.N X.env.scope a x = true → PW X (.BoolOp .And (y :: rest) p) (tTt T X.K W (evT G b)) → PW X (.BoolOp .And (x :: y :: rest) p) (tTt T X.K W (evT G (.tand a b))) := fun {x y rest p} h1 h2 => by
      refine PW.imp (pw_and (ia.t g h1) h2) ?_
      rintro σ H Q ⟨Z, env, M, mu, F, hr, er, p⟩
      simp only [evT] at p
      refine ⟨Z, env, M, mu, F, hr, er, p.bind.imp fun x M1 H1 mu1 F1 g1 hr1 p1 => ?_⟩
      cases x with
      | true => (simp only [QB, if_true]; exact ⟨Z, env, M1, mu1, F1, hr1, er.mono g1, p1⟩)
      | false => (simp only [QB, Bool.false_eq_true, if_false]; exact p1.here hr1)
    cases op with
    | Or => match es, h with
      | [], h => exact absurd h Bool.false_ne_true
      | [_], h => exact absurd h Bool.false_ne_true
      | [_, _], h => exact absurd h Bool.false_ne_true
      | _ :: _ :: _ :: _, h => exact absurd h Bool.false_ne_true
    | And => match es, h with
      | [], h => exact absurd h Bool.false_ne_true
      | [_], h => exact absurd h Bool.false_ne_true
      | [x, y], h =>
        simp only [mT, Bool.and_eq_true] at h
        exact fin h.1 (pw_and1 (ib.t g h.2))
      | x :: y :: z :: r, h =>
        simp only [mT, Bool.and_eq_true] at h
        exact fin h.1 (ib.w g h.2)
  refine ⟨fun _ h => (by cases h), fun _ _ h => (by cases h), fun {X W e} g h => ?_, fin, fun _ _ h => (by cases h), fun _ h => (by cases h), fun _ h => (by cases h), fun _ h => (by cases h)⟩
  cases e <;> first | (exact absurd h Bool.false_ne_true) | skip
  exact (fin g h).pt
theorem snd_tor {a b : E} (ia : Snd T G k a) (ib : Snd T G k b) : Snd T G k (.tor a b) := by
  have fin : ∀ {X : Cx} {W : WX} {op : BoolOp} {es : List Expr} {p : Pos}, Good T G k X W → mT T X.N X.env.scope (.tor a b) (.BoolOp op es p) = true → PW X (.BoolOp op es p) (tTt T X.K W (evT G (.tor a b))) := fun {X W op es p} g h => by
    have fin : ∀ {x y : Expr} {rest : List Expr} {p : Pos}, mT T X.N X.env.scope a x = true → PW X (.BoolOp .Or (y :: rest) p) (tTt T X.K W (evT G b)) → PW X (.BoolOp .Or (x :: y :: rest) p) (tTt T X.K W (evT G (.tor a b))) := fun {x y rest p} h1 h2 => by
      refine PW.imp (pw_or (ia.t g h1) h2) ?_
      rintro σ H Q ⟨Z, env, M, mu, F, hr, er, p⟩
      simp only [evT] at p
      refine ⟨Z, env, M, mu, F, hr, er, p.bind.imp fun x M1 H1 mu1 F1 g1 hr1 p1 => ?_⟩
      cases x with
      | false => (simp only [QB, Bool.false_eq_true, if_false]; exact ⟨Z, env, M1, mu1, F1, hr1, er.mono g1, p1⟩)
      | true => (simp only [QB, if_true]; exact p1.here hr1)
    cases op with
    | And => match es, h with
      | [], h => exact absurd h Bool.false_ne_true
      | [_], h => exact absurd h Bool.false_ne_true
      | [_, _], h => exact absurd h Bool.false_ne_true
      | _ :: _ :: _ :: _, h => exact absurd h Bool.false_ne_true
    | Or => match es, h with
      | [], h => exact absurd h Bool.false_ne_true
      | [_], h => exact absurd h Bool.false_ne_true
      | [x, y], h =>
        simp only [mT, Bool.and_eq_true] at h
        exact fin h.1 (pw_or1 (ib.t g h.2))
      | x :: y :: z :: r, h =>
        simp only [mT, Bool.and_eq_true] at h
        exact fin h.1 (ib.w g h.2)
  refine ⟨fun _ h => (by cases h), fun _ _ h => (by cases h), fun {X W e} g h => ?_, fin, fun _ _ h => (by cases h), fun _ h => (by cases h), fun _ h => (by cases h), fun _ h => (by cases h)⟩
  cases e <;> first | (exact absurd h Bool.false_ne_true) | skip
  exact (fin g h).pt
theorem snd_tnot {a : E} (ia : Snd T G k a) : Snd T G k (.tnot a) := by
  refine ⟨fun _ h => (by cases h), fun _ _ h => (by cases h), fun {X W e} g h => ?_, fun _ h => (by cases h), fun _ _ h => (by cases h), fun _ h => (by cases h), fun _ h => (by cases h), fun _ h => (by cases h)⟩
  cases e <;> first | (exact absurd h Bool.false_ne_true) | skip
  rename_i op x p
  cases op <;> first | (exact absurd h Bool.false_ne_true) | skip
  simp only [mT] at h
  refine PT.imp (pt_not (ia.t g h)) ?_
  rintro σ H Q ⟨Z, env, M, mu, F, hr, er, p⟩
  simp only [evT] at p
  exact ⟨Z, env, M, mu, F, hr, er, p.bind.imp fun x M1 H1 mu1 F1 g1 hr1 p1 => p1.here hr1⟩
theorem snd_nil : Snd T G k .nil := by
  refine ⟨fun _ h => (by cases h), fun _ _ h => (by cases h), fun _ h => (by cases h), fun _ h => (by cases h), fun {X W e} g h0 h => ?_, fun _ h => (by cases h), fun _ h => (by cases h), fun _ h => (by cases h)⟩
  cases e with
  | cons e es => cases h
  | nil =>
    refine PA.imp pa_nil ?_
    rintro σ H Q ⟨Z, env, M, mu, F, hr, er, p⟩
    simp only [evs] at p
    exact p.here hr _ .nil
theorem snd_cons {a r : E} (ia : Snd T G k a) (ir : Snd T G k r) : Snd T G k (.cons a r) := by
  refine ⟨fun _ h => (by cases h), fun _ _ h => (by cases h), fun _ h => (by cases h), fun _ h => (by cases h), fun {X W e} g h0 h => ?_, fun _ h => (by cases h), fun _ h => (by cases h), fun _ h => (by cases h)⟩
  cases e with
  | nil => cases h
  | cons e es =>
    simp only [ms, Bool.and_eq_true] at h
    rw [List.all_cons, Bool.and_eq_true] at h0
    refine PA.imp (pa_cons (ia.v g h.1) (ir.s g h0.2 h.2) (star_cons h0.1)) ?_
    rintro σ H Q ⟨Z, env, M, mu, F, hr, er, p⟩
    simp only [evs] at p
    exact ⟨Z, env, M, mu, F, hr, er, p.bind.imp fun x M1 H1 mu1 F1 g1 hr1 p1 v rv => ⟨Z, env, M1, mu1, F1, hr1, er.mono g1, p1.bind.imp fun xs M2 H2 mu2 F2 g2 hr2 p2 vs rvs => p2.here hr2 _ (.cons (rv.mono g2) rvs)⟩⟩
theorem snd_tup {es : E} (ie : Snd T G k es) : Snd T G k (.tup es) := by
  refine Snd.val (fun {X W e} g h => ?_) (fun {N sc e} z => ?_) (by intros; rfl) (by intros; rfl) (by intros; rfl) (by intros; rfl) (by intros; rfl)
  · cases e <;> first | (exact absurd h Bool.false_ne_true) | skip
    rename_i xs j p
    simp only [mE, Bool.and_eq_true] at h
    refine PE.imp (pe_tup (ie.s g h.1 h.2)) ?_
    rintro σ H Q ⟨Z, env, M, mu, F, hr, er, p⟩
    simp only [ev] at p
    refine ⟨Z, env, M, mu, F, hr, er, p.bind.imp fun ds M1 H1 mu1 F1 g1 hr1 p1 vs rvs => ?_⟩
    by_cases hl : ds.length ≤ sizeLine
    · rw [if_pos hl] at p1
      refine ⟨by rw [rvs.len]; exact hl, fun q hq => ?_⟩
      obtain ⟨hr2, g2⟩ := hr1.frz (o := .tup vs) hq
      exact p1 _ _ _ g2 hr2 _ (.tup upd_same (rvs.mono g2))
    · rw [if_neg hl] at p1; exact p1.elim
  · cases e <;> first | rfl | exact absurd z Bool.false_ne_true
theorem snd_dsp {es : E} (ie : Snd T G k es) : Snd T G k (.dsp es) := by
  refine ⟨fun _ h => (by cases h), fun _ _ h => (by cases h), fun _ h => (by cases h), fun _ h => (by cases h), fun _ _ h => (by cases h), fun _ h => (by cases h), fun {X W e} g h => ?_, fun _ h => (by cases h)⟩
  cases e <;> first | (exact absurd h Bool.false_ne_true) | skip
  rename_i xs p
  simp only [mL, Bool.and_eq_true] at h
  refine PE.imp (pe_lst (ie.s g h.1 h.2)) ?_
  rintro σ H Q ⟨Z, env, M, mu, F, hr, er, p⟩
  simp only [evL] at p
  refine ⟨Z, env, M, mu, F, hr, er, p.bind.imp fun ds M1 H1 mu1 F1 g1 hr1 p1 vs rvs => ?_⟩
  by_cases hl : ds.length ≤ sizeLine
  · rw [if_pos hl] at p1
    exact ⟨by rw [rvs.len]; exact hl, fun q hq => p1.here hr1 _ q rvs hq⟩
  · rw [if_neg hl] at p1; exact p1.elim
theorem snd_fz {q : E} (iq : Snd T G k q) : Snd T G k (.fz q) := by
  refine ⟨fun {X W e} g h => ?_, fun {X W e} g z h => ?_, fun _ h => (by cases h), fun _ h => (by cases h), fun _ _ h => (by cases h), fun _ h => (by cases h), fun _ h => (by cases h), fun _ h => (by cases h)⟩
  · have h : mL T X.N X.env.scope q e = true := h
    refine PE.imp (iq.l g h) ?_
    rintro σ H Q ⟨Z, env, M, mu, F, hr, er, p⟩
    simp only [ev] at p
    refine ⟨Z, env, M, mu, F, hr, er, p.bind.imp fun xs M1 H1 mu1 F1 g1 hr1 p1 vs a rvs ha => ?_⟩
    obtain ⟨hr2, g2⟩ := hr1.frz (o := .lst vs) ha
    exact p1 _ _ _ g2 hr2 _ (.nl (hr1.nb ha) upd_same (rvs.mono g2))
  · have h : mL T X.N X.env.scope q e = true := h
    cases e <;> first | (exact absurd z Bool.false_ne_true) | skip
    cases q <;> exact absurd h Bool.false_ne_true
theorem snd_fr {q : E} (iq : Snd T G k q) : Snd T G k (.fr q) := by
  refine ⟨fun {X W e} g h => ?_, fun {X W e} g z h => ?_, fun _ h => (by cases h), fun _ h => (by cases h), fun _ _ h => (by cases h), fun _ h => (by cases h), fun _ h => (by cases h), fun _ h => (by cases h)⟩
  · have h : mL T X.N X.env.scope q e = true := h
    refine PE.imp (iq.l g h) ?_
    rintro σ H Q ⟨Z, env, M, mu, F, hr, er, p⟩
    simp only [ev] at p
    refine ⟨Z, env, M, mu, F, hr, er, p.bind.imp fun xs M1 H1 mu1 F1 g1 hr1 p1 vs a rvs ha => ?_⟩
    obtain ⟨hr2, g2⟩ := hr1.frz (o := .lst vs) ha
    exact p1 _ _ _ g2 hr2 _ (.lst upd_same (rvs.wk.mono g2))
  · have h : mL T X.N X.env.scope q e = true := h
    cases e <;> first | (exact absurd z Bool.false_ne_true) | skip
    cases q <;> exact absurd h Bool.false_ne_true
theorem snd_mu {q : E} (iq : Snd T G k q) : Snd T G k (.mu q) := by
  refine ⟨fun {X W e} g h => ?_, fun {X W e} g z h => ?_, fun _ h => (by cases h), fun _ h => (by cases h), fun _ _ h => (by cases h), fun _ h => (by cases h), fun _ h => (by cases h), fun _ h => (by cases h)⟩
  · have h : mL T X.N X.env.scope q e = true := h
    refine PE.imp (iq.l g h) ?_
    rintro σ H Q ⟨Z, env, M, mu, F, hr, er, p⟩
    simp only [ev] at p
    refine ⟨Z, env, M, mu, F, hr, er, p.bind.imp fun xs M1 H1 mu1 F1 g1 hr1 p1 vs a rvs ha => ?_⟩
    have gg : Gr F1 mu1 F1 (mu1 ++ [a]) := ⟨fun _ _ q => q, fun l b q => by rw [List.getElem?_append_left (List.getElem?_eq_some_iff.mp q).1]; exact q⟩
    obtain ⟨hr2, g2⟩ := hr1.alloc (o := .lst vs) (m := .lst xs) ha ⟨vs, upd_same, rvs.mono gg⟩
    refine p1 _ _ _ g2 hr2 _ (.ref ?_)
    rw [← hr1.len, List.getElem?_append_right (Nat.le_refl _)]
    simp
  · have h : mL T X.N X.env.scope q e = true := h
    cases e <;> first | (exact absurd z Bool.false_ne_true) | skip
    cases q <;> exact absurd h Bool.false_ne_true
theorem snd_cat {a b : E} (ia : Snd T G k a) (ib : Snd T G k b) : Snd T G k (.cat a b) := by
  refine ⟨fun _ h => (by cases h), fun _ _ h => (by cases h), fun _ h => (by cases h), fun _ h => (by cases h), fun _ _ h => (by cases h), fun _ h => (by cases h), fun {X W e} g h => ?_, fun _ h => (by cases h)⟩
  cases e <;> first | (exact absurd h Bool.false_ne_true) | skip
  rename_i l op r p
  cases op <;> first | (exact absurd h Bool.false_ne_true) | skip
  simp only [mL, Bool.and_eq_true] at h
  refine PE.imp (pe_op (op_catL (T := T)) (ia.v g h.1) (ib.v g h.2)) ?_
  rintro σ H Q ⟨Z, env, M, mu, F, hr, er, p⟩
  simp only [evL] at p
  exact ⟨Z, env, M, mu, F, hr, er, p.bind.imp fun x M1 H1 mu1 F1 g1 hr1 p1 v rv => ⟨Z, env, M1, mu1, F1, hr1, er.mono g1, p1.bind.imp fun y M2 H2 mu2 F2 g2 hr2 p2 w rw => ⟨Z, _, M2, mu2, F2, x, y, hr2, rv.mono g2, rw, p2⟩⟩⟩
theorem snd_rep {a b : E} (ia : Snd T G k a) (ib : Snd T G k b) : Snd T G k (.rep a b) := by
  refine ⟨fun _ h => (by cases h), fun _ _ h => (by cases h), fun _ h => (by cases h), fun _ h => (by cases h), fun _ _ h => (by cases h), fun _ h => (by cases h), fun {X W e} g h => ?_, fun _ h => (by cases h)⟩
  cases e <;> first | (exact absurd h Bool.false_ne_true) | skip
  rename_i l op r p
  cases op <;> first | (exact absurd h Bool.false_ne_true) | skip
  simp only [mL, Bool.and_eq_true] at h
  refine PE.imp (pe_op (op_repL (T := T)) (ia.v g h.1) (ib.v g h.2)) ?_
  rintro σ H Q ⟨Z, env, M, mu, F, hr, er, p⟩
  simp only [evL] at p
  exact ⟨Z, env, M, mu, F, hr, er, p.bind.imp fun x M1 H1 mu1 F1 g1 hr1 p1 v rv => ⟨Z, env, M1, mu1, F1, hr1, er.mono g1, p1.bind.imp fun y M2 H2 mu2 F2 g2 hr2 p2 w rw => ⟨Z, _, M2, mu2, F2, x, y, hr2, rv.mono g2, rw, p2⟩⟩⟩
theorem snd_slp {a lo hi : E} (ia : Snd T G k a) (il : Snd T G k lo) (ih : Snd T G k hi) : Snd T G k (.slp a lo hi) := by
  refine ⟨fun _ h => (by cases h), fun _ _ h => (by cases h), fun _ h => (by cases h), fun _ h => (by cases h), fun _ _ h => (by cases h), fun _ h => (by cases h), fun {X W e} g h => ?_, fun _ h => (by cases h)⟩
  cases e <;> first | (exact absurd h Bool.false_ne_true) | skip
  rename_i o s p
  cases s <;> first | (exact absurd h Bool.false_ne_true) | skip
  rename_i l u st p2
  cases st <;> first | (exact absurd h Bool.false_ne_true) | skip
  simp only [mL, Bool.and_eq_true] at h
  refine PE.imp (pe_slice (sl_l (T := T)) (ia.v g h.1.1) (il.o g h.1.2) (ih.o g h.2)) ?_
  rintro σ H Q ⟨Z, env, M, mu, F, hr, er, p⟩
  simp only [evL] at p
  exact ⟨Z, env, M, mu, F, hr, er, p.bind.imp fun x M1 H1 mu1 F1 g1 hr1 p1 v rv => ⟨Z, env, M1, mu1, F1, hr1, er.mono g1, p1.bind.imp fun y M2 H2 mu2 F2 g2 hr2 p2 => ⟨Z, env, M2, mu2, F2, hr2, (er.mono g1).mono g2, p2.bind.imp fun z M3 H3 mu3 F3 g3 hr3 p3 => ⟨Z, _, M3, mu3, F3, x, hr3, (rv.mono g2).mono g3, p3⟩⟩⟩⟩
theorem snd_lof {a : E} (ia : Snd T G k a) : Snd T G k (.lof a) := by
  refine ⟨fun _ h => (by cases h), fun _ _ h => (by cases h), fun _ h => (by cases h), fun _ h => (by cases h), fun _ _ h => (by cases h), fun _ h => (by cases h), fun {X W e} g h => ?_, fun _ h => (by cases h)⟩
  cases e <;> first | (exact absurd h Bool.false_ne_true) | skip
  rename_i fn args kws p
  match fn, args, kws, h with
  | .Name x px, [e], [], h =>
  simp only [mL, Bool.and_eq_true, decide_eq_true_eq] at h
  obtain ⟨⟨⟨rfl, h1⟩, h2⟩, h3⟩ := h
  have hs : ([e] : List Expr).all noStar = true := by rw [List.all_cons, h2] <;> rfl
  refine PE.imp (pe_callTy call_list_of (gl_of h1) (g.glb.blt _ (by decide)) PyProof.Rows.boot_list (pa_cons (ia.v g h3) pa_nil (star_cons h2)) (by decide) (by decide) (star_cons h2) rfl) ?_
  rintro σ H Q ⟨Z, env, M, mu, F, hr, er, p⟩
  simp only [evL] at p
  refine ⟨Z, env, M, mu, F, hr, er, p.bind.imp fun d M1 H1 mu1 F1 g1 hr1 p1 v rv => ?_⟩
  cases q : asS M1 d with
  | none => rw [q] at p1; exact p1.elim
  | some xs =>
    rw [q] at p1
    obtain ⟨ad, vs, rfl, q2, q3⟩ := rv.sq hr1 q
    exact ⟨ad, vs, rfl, q2, fun l hl => p1.here hr1 _ l q3 hl⟩
end
end Lp

namespace Lp
open PySem PySem.Spec L2
section
variable {X : Cx} {CX : CXT} {k : Nat} {f C : Addr} {fd : FuncData} {ps : List Str} {sp : Sp} {E : L2.St → XK} {x m : Str} {p pos apos : Pos} {o : Expr} {es : List Expr} {ta : TE} {t : TA}
theorem pe_callG {e : Expr} (F : FnOk X.prog X.w X.K X.mg X.base CX k f fd ps sp) (hr : Room k X.A) (hg : Gl X x) (hm : X.mg x = some (.ref f)) (hk : PySem.W.keepIn X.K (.ref f) = true) (hb : Binds X.K fd ps []) (hx : ∀ σ, PassesAt CX X σ (E σ))
    (ha : PA X (e :: es) t) (hdb : (x == ("__debug__" : Str)) = false) (hs : (e :: es).all noStar = true) : PE X (.Call (.Name x p) (e :: es) [] pos) (tCallS sp E t) := by
  rw [List.all_cons, Bool.and_eq_true] at hs
  exact pe_callS F hr hg hm hk hb hx ha hdb (star_cons hs.1) (star_any hs.2)
theorem pe_callG0 (F : FnOk X.prog X.w X.K X.mg X.base CX k f fd ps sp) (hr : Room k X.A) (hg : Gl X x) (hm : X.mg x = some (.ref f)) (hk : PySem.W.keepIn X.K (.ref f) = true) (hb : Binds X.K fd ps []) (hx : ∀ σ, PassesAt CX X σ (E σ))
    (hdb : (x == ("__debug__" : Str)) = false) : PE X (.Call (.Name x p) [] [] pos) (tCallS sp E tNil) := by
  refine ⟨fun pins s σ H Q I h => ?_⟩
  refine wpAny_Call_Name_kw (ld_glob I hg hm ?_ hdb)
  exact PySem.W.callWith_K0 I.kIn hk (run_fnS (us := []) F hr hb (hx σ) I .nil h)
theorem mform_of {env : Env} {n : Nat} (hs : es.all noStar = true) (hn : n < 20) : methodCallForm n (backTo pos (starEach es env)) (backToKw pos (keywordEach [] env)) = true := by
  unfold methodCallForm
  rw [star_all hs]
  have : n < 30 := by omega
  simp [keywordEach, backToKw, this]
theorem mcallG {env : Env} (hp : plainBase o = true) (hl : (apos.endLine == pos.line) = true) (hn : es.length < 20) (hs : es.all noStar = true) :
    eval (.Call (.Attribute o m apos) es [] pos) env = (do
      let ov ← eval o env
      standAt apos.atName
      let (f, first) ← holding [ov] (getMethod ov m (plainOf o env))
      callWith pos f first (backTo pos (starEach es env)) (backToKw pos (keywordEach [] env))) :=
  mcall_of (base_of hp) fun ov => mcall_line (mform_of hs (by simpa using hn)) hl
def tMthG (K : PySem.W.Frag) (mg : Str → Option Value) (P : Program) (w : World) (base : Heap) (k : Nat) (m : Str) (E : L2.St → XK) (ta : TE) (t : TA) : TE := fun σ H Q => ta σ H fun x H1 => ∃ (a C dx : Addr) (fs : List (Str × V)) (f : Addr) (fd : FuncData) (ps : List Str) (sp : Sp),
  x = .ref a ∧ H1 a = some (.ins C dx fs) ∧ fs.lookup m = none ∧ Cls K C ∧ Meth K C m f ∧ Binds K fd ps [] ∧ FnOk P w K mg base (L2.CX P w) k f fd ps sp ∧ t σ H1 fun vs H2 => sp (x :: vs) H2 Q (E σ)
theorem pe_mthG {e : Expr} (he : PE X o ta) (hr : Room k X.A) (hx : ∀ σ, PassesAt (L2.CX X.prog X.w) X σ (E σ)) (ha : PA X (e :: es) t) (hp : plainBase o = true) (hl : (apos.endLine == pos.line) = true) (hn : (e :: es).length < 20) (hs : (e :: es).all noStar = true) :
    PE X (.Call (.Attribute o m apos) (e :: es) [] pos) (tMthG X.K X.mg X.prog X.w X.base k m E ta t) := by
  refine ⟨fun pins s σ H Q I h => ?_⟩
  have hs2 := hs
  rw [List.all_cons, Bool.and_eq_true] at hs2
  refine PySem.W.methodCall_KW (thn (he.run pins s σ H _ I h) fun u s1 ⟨x, H1, I1, rx, a, C, dx, fs, f, fd, ps, sp, ex, ea, l, c, hm, hb, F, q⟩ => ?_) (mcallG hp hl hn hs)
  subst ex
  obtain rfl : u = Value.ref a := rx
  refine getmeth_ok I1 ea c hm l ?_
  refine PySem.W.callWith_K (first := [.ref a]) (h₀ := X.base) I.ok.mod.kin hm.kp (thn (ha.run pos pins s1 σ H1 _ I1 q) fun us s2 ⟨vs, H2, I2, r, q2⟩ => ⟨I2.kIn, ?_⟩) (star_cons hs2.1) (star_any hs2.2)
  exact run_fnS (us := .ref a :: us) (vs := .ref a :: vs) F hr hb (hx σ) I2 (.cons rfl r) q2
theorem pe_mthG0 (he : PE X o ta) (hr : Room k X.A) (hx : ∀ σ, PassesAt (L2.CX X.prog X.w) X σ (E σ)) (hp : plainBase o = true) (hl : (apos.endLine == pos.line) = true) :
    PE X (.Call (.Attribute o m apos) [] [] pos) (tMthG X.K X.mg X.prog X.w X.base k m E ta tNil) := by
  refine ⟨fun pins s σ H Q I h => ?_⟩
  refine PySem.W.methodCall_KW (thn (he.run pins s σ H _ I h) fun u s1 ⟨x, H1, I1, rx, a, C, dx, fs, f, fd, ps, sp, ex, ea, l, c, hm, hb, F, q⟩ => ?_) (mcallG hp hl (by decide) rfl)
  subst ex
  obtain rfl : u = Value.ref a := rx
  refine getmeth_ok I1 ea c hm l ?_
  exact PySem.W.callWith_K0 (first := [.ref a]) I1.kIn hm.kp (run_fnS (us := [.ref a]) (vs := [.ref a]) F hr hb (hx σ) I1 (.cons rfl .nil) q)
theorem run_makeS {pins : List (Addr × Obj)} {σ : L2.St} {H : Hp} {s : Shared} {Q : VK} {us : List Value} {vs : List V} (M : Mk X.K C f) (F : FnOk X.prog X.w X.K X.mg X.base (L2.CX X.prog X.w) k f fd ps sp) (hr : Room (k + 1) X.A) (hb : Binds X.K fd ps [])
    (tk : ∀ (pins : List (Addr × Obj)) (H : Hp) (s : Shared) (e : Value) (s' : Shared), Inv X pins σ H s → L2.CX X.prog X.w X.stack H s (E σ) e s' → X.xe e s') (I : Inv X pins σ H s) (r : Vals vs us)
    (h : ∀ x dx, H x = none → H dx = none → dx ≠ x → sp (.ref x :: vs) (upd (upd H dx (.own x)) x (.ins C dx [])) (fun v H2 => v = .non ∧ Q (.ref x) H2) (E σ)) :
    wpAny (model X.prog X.w) X.A (call (.ref C) us) (EP X pins σ Q) X.xe s := by
  have hq := h (s.heap.objs.size + 1) s.heap.objs.size (I.hok.fresh (Nat.le_succ _)) (I.hok.fresh (Nat.le_refl _)) (Nat.ne_of_lt (Nat.lt_succ_self _))
  have I2 := Inv.made (C := C) I
  have r2 : Vals (V.ref (s.heap.objs.size + 1) :: vs) (Value.ref (s.heap.objs.size + 1) :: us) := .cons rfl r
  have hl : (Value.ref (s.heap.objs.size + 1) :: us).length = ps.length := by
    have e := r2.length
    rw [F.len _ _ _ _ hq] at e
    exact e.symm
  have b := hb _ (Value.ref (s.heap.objs.size + 1) :: us) I2.kIn (by rw [List.append_nil]; exact hl)
  rw [List.append_nil] at b
  refine wpAny_call (make_map (f := f) I.kIn M.makes M.init (beq_iff_eq.mp M.fn) (codeAny_mono (F.run _ X.stack _ _ ⟨Value.ref (s.heap.objs.size + 1) :: us, []⟩ (Value.ref (s.heap.objs.size + 1) :: us) _ _ (E σ) (hr.make C us [])
    (I2.env0.make C us []) b r2 hq) fun r s' hq' => ?_))
  cases r with
  | error e => exact tk pins _ _ e s' I2 hq'
  | ok fl =>
    cases fl with
    | ret u =>
      obtain ⟨v, H', I3, rv, ev, q3⟩ := I2.after hq'
      subst ev
      exact ⟨rv, ⟨V.ref (s.heap.objs.size + 1), H', I3, rfl, q3⟩⟩
    | next => exact False.elim hq'
    | brk => exact False.elim hq'
    | cont => exact False.elim hq'
def tMakeS (C : Addr) (sp : Sp) (E : L2.St → XK) (t : TA) : TE := fun σ H Q => t σ H fun vs H1 => ∀ x dx, H1 x = none → H1 dx = none → dx ≠ x →
  sp (.ref x :: vs) (upd (upd H1 dx (.own x)) x (.ins C dx [])) (fun v H2 => v = .non ∧ Q (.ref x) H2) (E σ)
theorem pe_makeG {e : Expr} (M : Mk X.K C f) (F : FnOk X.prog X.w X.K X.mg X.base (L2.CX X.prog X.w) k f fd ps sp) (hr : Room (k + 1) X.A) (hg : Gl X x) (hm : X.mg x = some (.ref C)) (hb : Binds X.K fd ps []) (hx : ∀ σ, PassesAt (L2.CX X.prog X.w) X σ (E σ))
    (ha : PA X (e :: es) t) (hdb : (x == ("__debug__" : Str)) = false) (hs : (e :: es).all noStar = true) : PE X (.Call (.Name x p) (e :: es) [] pos) (tMakeS C sp E t) := by
  rw [List.all_cons, Bool.and_eq_true] at hs
  refine ⟨fun pins s σ H Q I h => ?_⟩
  refine wpAny_Call_Name_kw (ld_glob I hg hm ?_ hdb)
  refine PySem.W.callWith_K (h₀ := X.base) I.ok.mod.kin M.kp (thn (ha.run pos pins s σ H _ I h) fun us s1 ⟨vs, H1, I1, r, q⟩ => ⟨I1.kIn, ?_⟩) (star_cons hs.1) (star_any hs.2)
  exact run_makeS M F hr hb (hx σ) I1 r q
theorem pe_makeG0 (M : Mk X.K C f) (F : FnOk X.prog X.w X.K X.mg X.base (L2.CX X.prog X.w) k f fd ps sp) (hr : Room (k + 1) X.A) (hg : Gl X x) (hm : X.mg x = some (.ref C)) (hb : Binds X.K fd ps []) (hx : ∀ σ, PassesAt (L2.CX X.prog X.w) X σ (E σ))
    (hdb : (x == ("__debug__" : Str)) = false) : PE X (.Call (.Name x p) [] [] pos) (tMakeS C sp E tNil) := by
  refine ⟨fun pins s σ H Q I h => ?_⟩
  refine wpAny_Call_Name_kw (ld_glob I hg hm ?_ hdb)
  exact PySem.W.callWith_K0 I.kIn M.kp (run_makeS (us := []) M F hr hb (hx σ) I .nil h)
end
section
variable {T : Tb} {G : Gm} {k : Nat}
theorem snd_call {f : Nat} {args : E} (ia : Snd T G k args) : Snd T G k (.call f args) := by
  refine Snd.val (fun {X W e} g h => ?_) (fun {N sc e} z => ?_) (by intros; rfl) (by intros; rfl) (by intros; rfl) (by intros; rfl) (by intros; rfl)
  · cases e <;> first | (exact absurd h Bool.false_ne_true) | skip
    rename_i fn es kws p
    cases fn <;> first | (exact absurd h Bool.false_ne_true) | skip
    rename_i x px
    cases kws with
    | cons _ _ => exact absurd h Bool.false_ne_true
    | nil =>
    simp only [mE, Bool.and_eq_true, decide_eq_true_eq] at h
    obtain ⟨⟨⟨⟨h1, h2⟩, h3⟩, h4⟩, h5⟩ := h
    obtain ⟨fa, fd, ps, e1, e2, e3, e4⟩ := g.glb.fn f x h1 (nm_of h3).e
    have hr : Room k X.A := g.room.mono (Nat.le_succ _)
    cases es with
    | nil =>
      refine PE.imp (pe_callG0 (E := WE W) e4 hr (gl_of h2) e1 e2 e3 (fun σ => passAt g.tk σ) (nm_of h3).d) ?_
      rintro σ H Q ⟨Z, env, M, mu, F, hr, er, p⟩
      cases args <;> first | (exact absurd h5 Bool.false_ne_true) | skip
      simp only [ev, evs, bind_ok] at p
      exact ⟨T.bor, Z, [], M, mu, F, hr, .nil, p⟩
    | cons e es =>
      refine PE.imp (pe_callG (E := WE W) e4 hr (gl_of h2) e1 e2 e3 (fun σ => passAt g.tk σ) (ia.s g h4 h5) (nm_of h3).d h4) ?_
      rintro σ H Q ⟨Z, env, M, mu, F, hr, er, p⟩
      simp only [ev] at p
      exact ⟨Z, env, M, mu, F, hr, er, p.bind.imp fun ds M1 H1 mu1 F1 g1 hr1 p1 vs rvs => ⟨T.bor, Z, wks ds, M1, mu1, F1, hr1, rvs.wk, p1⟩⟩
  · cases e <;> first | rfl | exact absurd z Bool.false_ne_true
theorem nof_of {P : Program} {w : World} {K : PySem.W.Frag} {mg : Str → Option Value} {base : Heap} {F : Hp} {mu : List Addr} {m : Nat} {x : Str} {fv : List (Str × V)} {fs : List (Nat × D)} (g : Glb T G k P w K mg base) (h1 : T.mts[m]? = some x) (h : noF G m fs = true) (r : Rfs T K F mu fv fs) : fv.lookup x = none := by
  have q := g.mfl m x h1
  unfold noF at h
  cases e : G.mfl m with
  | none => rw [e] at q; exact fno_of q r
  | some f =>
    rw [e] at q h
    exact fno_at g.nd q r (Option.isNone_iff_eq_none.mp h)
theorem snd_mth {a : E} {m : Nat} {args : E} (ia : Snd T G k a) (ir : Snd T G k args) : Snd T G k (.mth a m args) := by
  refine Snd.val (fun {X W e} g h => ?_) (fun {N sc e} z => ?_) (by intros; rfl) (by intros; rfl) (by intros; rfl) (by intros; rfl) (by intros; rfl)
  · cases e <;> first | (exact absurd h Bool.false_ne_true) | skip
    rename_i fn es kws p
    cases fn <;> first | (exact absurd h Bool.false_ne_true) | skip
    rename_i o x px
    cases kws with
    | cons _ _ => exact absurd h Bool.false_ne_true
    | nil =>
    simp only [mE, Bool.and_eq_true, decide_eq_true_eq] at h
    obtain ⟨⟨⟨⟨⟨⟨h1, h3⟩, h4⟩, h5⟩, h6⟩, h7⟩, h8⟩ := h
    have hr : Room k X.A := g.room.mono (Nat.le_succ _)
    cases es with
    | nil =>
      refine PE.imp (pe_mthG0 (E := WE W) (ia.v g h7) hr (fun σ => passAt g.tk σ) h3 h4) ?_
      rintro σ H Q ⟨Z, env, M, mu, F, hr, er, p⟩
      cases args <;> first | (exact absurd h8 Bool.false_ne_true) | skip
      simp only [ev, evs, bind_ok] at p
      refine ⟨Z, env, M, mu, F, hr, er, p.bind.imp fun d M1 H1 mu1 F1 g1 hr1 p1 v rv => ?_⟩
      cases q : asI M1 d with
      | none => rw [q] at p1; exact p1.elim
      | some cf =>
        obtain ⟨c, fs⟩ := cf
        rw [q] at p1
        simp only at p1
        by_cases hnf : noF G m fs = true
        case neg => rw [if_neg hnf] at p1; exact p1.elim
        rw [if_pos hnf] at p1
        cases q2 : G.mth c m with
        | none => rw [q2] at p1; exact p1.elim
        | some fi =>
          rw [q2] at p1
          obtain ⟨hc, ad, dx, fv, rfl, q4, q5⟩ := rv.insI hr1 q
          obtain ⟨y, fa, fd, ps, e1, e2, e3, e4⟩ := g.glb.mth c m fi hc q2
          rw [h1] at e1; cases e1
          obtain ⟨_, c1, _⟩ := g.glb.cls c hc
          exact ⟨ad, T.cad X.K c, dx, fv, fa, fd, ps, _, rfl, q4, nof_of g.glb h1 hnf q5, c1, e2, e3, e4, ⟨T.bor, Z, _, M1, mu1, F1, hr1, .cons rv.wk .nil, p1⟩⟩
    | cons e es =>
      refine PE.imp (pe_mthG (E := WE W) (ia.v g h7) hr (fun σ => passAt g.tk σ) (ir.s g h6 h8) h3 h4 h5 h6) ?_
      rintro σ H Q ⟨Z, env, M, mu, F, hr, er, p⟩
      simp only [ev] at p
      refine ⟨Z, env, M, mu, F, hr, er, p.bind.imp fun d M1 H1 mu1 F1 g1 hr1 p1 v rv => ?_⟩
      cases q : asI M1 d with
      | none => rw [q] at p1; exact p1.elim
      | some cf =>
        obtain ⟨c, fs⟩ := cf
        rw [q] at p1
        simp only at p1
        by_cases hnf : noF G m fs = true
        case neg => rw [if_neg hnf] at p1; exact p1.elim
        rw [if_pos hnf] at p1
        cases q2 : G.mth c m with
        | none => rw [q2] at p1; exact p1.elim
        | some fi =>
          rw [q2] at p1
          obtain ⟨hc, ad, dx, fv, rfl, q4, q5⟩ := rv.insI hr1 q
          obtain ⟨y, fa, fd, ps, e1, e2, e3, e4⟩ := g.glb.mth c m fi hc q2
          rw [h1] at e1; cases e1
          obtain ⟨_, c1, _⟩ := g.glb.cls c hc
          exact ⟨ad, T.cad X.K c, dx, fv, fa, fd, ps, _, rfl, q4, nof_of g.glb h1 hnf q5, c1, e2, e3, e4, ⟨Z, env, M1, mu1, F1, hr1, er.mono g1, p1.bind.imp fun ds M2 H2 mu2 F2 g2 hr2 p2 vs rvs => ⟨T.bor, Z, _, M2, mu2, F2, hr2, .cons (rv.mono g2).wk rvs.wk, p2⟩⟩⟩
  · cases e <;> first | rfl | exact absurd z Bool.false_ne_true
theorem HR.aside {K : PySem.W.Frag} {Z H F : Hp} {M : Store} {mu : List Addr} {a : Addr} {o : HO} (h : HR T K Z H M mu F) (e : H a = none) : HR T K Z (upd H a o) M mu F := by
  obtain ⟨e1, e2⟩ := h.newF e
  refine ⟨fun b u q => ?_, h.len, h.nd, h.out, fun l b u q1 q2 => ?_, fun b u q => ?_, h.bor⟩
  · rw [upd_ne (fun z => by rw [z, e1] at q; cases q)]; exact h.sub b u q
  · exact (h.obj l b u q1 q2).heap (upd_ne (fun z => e2 (by rw [← z]; exact List.mem_of_getElem? q1)))
  · obtain ⟨z1, z2, z3⟩ := h.zs b u q
    rw [upd_ne (ne_of_none z1 e)]
    exact ⟨z1, z2, z3⟩
theorem mk_of {X : Cx} {W : WX} {σ : L2.St} {c f : Nat} {ds : List D} {M : Store} {mu : List Addr} {Z F H : Hp} {vs : List V} {Q : VK} (hc : T.okC c) (hr : HR T X.K Z H M mu F) (rvs : Rps T X.K F mu vs ds)
    (p : PG T X.K Z (fun c d H' => W c d σ H') F mu (match G.fn f (.ref M.length :: ds) (M ++ [.ins c []]) with | .ok .non M' => .ok (.ref M.length) M' | .exc c fs M' => .exc c fs M' | _ => .bad) (QD T X.K Q)) :
    ∀ x dx, H x = none → H dx = none → dx ≠ x → spOf T X.K (G.fn f) (.ref x :: vs) (upd (upd H dx (.own x)) x (.ins (T.cad X.K c) dx [])) (fun v H2 => v = .non ∧ Q (.ref x) H2) (WE W σ) := by
  intro x dx hx hdx hne
  have h1 := hr.aside (o := .own x) hdx
  have hx1 : upd H dx (.own x) x = none := by rw [upd_ne (Ne.symm hne)]; exact hx
  obtain ⟨h2, g2⟩ := h1.alloc (o := .ins (T.cad X.K c) dx []) (m := .ins c []) hx1 ⟨hc, dx, [], upd_same, .nil⟩
  have hl : (mu ++ [x])[M.length]? = some x := by
    rw [← hr.len, List.getElem?_append_right (Nat.le_refl _)]
    simp
  refine ⟨T.bor, Z, _, _, _, F, h2, .cons (.ref hl) (rvs.mono g2), ?_⟩
  cases e : G.fn f (.ref M.length :: ds) (M ++ [.ins c []]) with
  | bad => rw [e] at p; exact p
  | exc c fs M' =>
    rw [e] at p
    exact fun H' mu' F' g3 hr3 cls d xr => p H' mu' F' (g2.trans g3) hr3 cls d xr
  | ok d M' =>
    rw [e] at p
    cases d with
    | non =>
      intro H' mu' F' g3 hr3 v rv
      cases rv
      exact ⟨rfl, p H' mu' F' (g2.trans g3) hr3 _ (.ref (g3.m _ _ hl))⟩
    | _ => exact p.elim
theorem snd_mk {c : Nat} {args : E} (ia : Snd T G k args) : Snd T G k (.mk c args) := by
  refine Snd.val (fun {X W e} g h => ?_) (fun {N sc e} z => ?_) (by intros; rfl) (by intros; rfl) (by intros; rfl) (by intros; rfl) (by intros; rfl)
  · cases e <;> first | (exact absurd h Bool.false_ne_true) | skip
    rename_i fn es kws p
    cases fn <;> first | (exact absurd h Bool.false_ne_true) | skip
    rename_i x px
    cases kws with
    | cons _ _ => exact absurd h Bool.false_ne_true
    | nil =>
    simp only [mE, Bool.and_eq_true, decide_eq_true_eq] at h
    obtain ⟨⟨⟨⟨⟨h0, h1⟩, h2⟩, h3⟩, h4⟩, h5⟩ := h
    cases q : G.ini c with
    | none => have z := g.glb.inil c h0; rw [q] at z; cases z
    | some fi =>
    have hx : T.cls.getD c "" = x := by rw [List.getD_eq_getElem?_getD, h1] <;> rfl
    have e0 : T.okC c := ⟨(List.getElem?_eq_some_iff.mp h1).1, by rw [hx]; exact (nm_of h3).e⟩
    obtain ⟨fa, fd, ps, e1, e3, e4⟩ := g.glb.ini c fi e0 q
    obtain ⟨c0, c1, c2⟩ := g.glb.cls c e0
    rw [hx] at c0
    cases es with
    | nil =>
      refine PE.imp (pe_makeG0 (E := WE W) e1 e4 g.room (gl_of h2) c0 e3 (fun σ => passAt g.tk σ) (nm_of h3).d) ?_
      rintro σ H Q ⟨Z, env, M, mu, F, hr, er, p⟩
      cases args <;> first | (exact absurd h5 Bool.false_ne_true) | skip
      simp only [ev, evs, bind_ok, q] at p
      exact mk_of e0 hr .nil p
    | cons e es =>
      refine PE.imp (pe_makeG (E := WE W) e1 e4 g.room (gl_of h2) c0 e3 (fun σ => passAt g.tk σ) (ia.s g h4 h5) (nm_of h3).d h4) ?_
      rintro σ H Q ⟨Z, env, M, mu, F, hr, er, p⟩
      simp only [ev, q] at p
      exact ⟨Z, env, M, mu, F, hr, er, p.bind.imp fun ds M1 H1 mu1 F1 g1 hr1 p1 vs rvs => mk_of e0 hr1 rvs.wk p1⟩
  · cases e <;> first | rfl | exact absurd z Bool.false_ne_true
theorem boot_of (b : Bf) : bootBuiltins (b.nm : Str) = some b.val := by
  cases b
  · exact boot_len
  · exact PyProof.Rows.boot_abs
  · exact PyProof.Rows.boot_int
  · decide +kernel
  · decide +kernel
  · decide +kernel
  · exact PyProof.Rows.boot_min
  · exact PyProof.Rows.boot_max
  · exact PyProof.Rows.boot_str
  · exact PyProof.Rows.boot_tuple
theorem blt_mem (b : Bf) : (b.nm : Str) ∈ blts := by cases b <;> decide
theorem blt_nm (b : Bf) : (b.nm : Str) ≠ "__name__" ∧ ((b.nm : Str) == ("__debug__" : Str)) = false := by cases b <;> decide
theorem snd_blt {b : Bf} {args : E} (ia : Snd T G k args) : Snd T G k (.blt b args) := by
  refine Snd.val (fun {X W e} g h => ?_) (fun {N sc e} z => ?_) (by intros; rfl) (by intros; rfl) (by intros; rfl) (by intros; rfl) (by intros; rfl)
  · cases e <;> first | (exact absurd h Bool.false_ne_true) | skip
    rename_i fn es kws p
    cases fn <;> first | (exact absurd h Bool.false_ne_true) | skip
    rename_i x px
    match es, kws, h with
    | e :: es, [], h =>
    simp only [mE, Bool.and_eq_true, decide_eq_true_eq] at h
    obtain ⟨⟨⟨⟨rfl, h2⟩, h3⟩, h4⟩, h5⟩ := h
    have hs : (e :: es).all noStar = true := by rw [List.all_cons, h3, h4] <;> rfl
    have hv := boot_of b
    have hc := bf_call (T := T) g.calm b
    have fin : PE X (.Call (.Name (b.nm : Str) px) (e :: es) [] p) (tCB (RCD T X.K (bltD b)) (tDs T X.K W (evs G args))) := by
      unfold Bf.val at hv hc
      cases e : b.isTy with
      | true =>
        rw [e] at hv hc
        exact pe_callTy hc (gl_of h2) (g.glb.blt _ (blt_mem b)) hv (ia.s g hs h5) (blt_nm b).1 (blt_nm b).2 (star_cons h3) (star_any h4)
      | false =>
        rw [e] at hv hc
        exact pe_callB hc (gl_of h2) (g.glb.blt _ (blt_mem b)) hv (ia.s g hs h5) (blt_nm b).1 (blt_nm b).2 (star_cons h3) (star_any h4)
    refine PE.imp fin ?_
    rintro σ H Q ⟨Z, env, M, mu, F, hr, er, p⟩
    simp only [ev] at p
    exact ⟨Z, env, M, mu, F, hr, er, p.bind.imp fun ds M1 H1 mu1 F1 g1 hr1 p1 vs rvs => ⟨Z, _, M1, mu1, F1, ds, hr1, rvs, p1⟩⟩
  · cases e <;> first | rfl | exact absurd z Bool.false_ne_true
theorem ty_boot (t : Ty) : bootBuiltins (t.nm : Str) = some (.type t.nm) := by
  cases t
  · exact PyProof.Rows.boot_int
  · exact PyProof.Rows.boot_bool
  · exact PyProof.Rows.boot_str
  · exact PyProof.Rows.boot_list
  · exact PyProof.Rows.boot_tuple
theorem ty_mem (t : Ty) : (t.nm : Str) ∈ blts := by cases t <;> decide
theorem ty_nm (t : Ty) : (t.nm : Str) ≠ "__name__" ∧ ((t.nm : Str) == ("__debug__" : Str)) = false := by cases t <;> decide
theorem isi_of {K : PySem.W.Frag} {Z H F : Hp} {mu : List Addr} {M : Store} {v : V} {d : D} {t : Ty} {b : Bool} (hr : HR T K Z H M mu F) (r : Rp T K F mu v d) (e : isiD M t d = some b) : ∃ n : String, TyX K H v (.type n) ∧ PySem.W.kitOne K (.type n) (.type t.nm) = some b := by
  cases r with
  | non => cases e; exact ⟨_, .base .non, kit_ty (by cases t <;> decide +kernel)⟩
  | bl k => cases e; exact ⟨_, .base (.bl k), kit_ty (by cases t <;> decide +kernel)⟩
  | int i => cases e; exact ⟨_, .base (.int i), kit_ty (by cases t <;> decide +kernel)⟩
  | str s => cases e; exact ⟨_, .base (.str s), kit_ty (by cases t <;> decide +kernel)⟩
  | tup q _ => cases e; exact ⟨_, .base (.tup (hr.sub _ _ q)), kit_ty (by cases t <;> decide +kernel)⟩
  | lst q _ => cases e; exact ⟨_, .base (.lst (hr.sub _ _ q)), kit_ty (by cases t <;> decide +kernel)⟩
  | nl _ q _ => cases e; exact ⟨_, .base (.lst (hr.sub _ _ q)), kit_ty (by cases t <;> decide +kernel)⟩
  | ref q =>
    obtain ⟨o, e2, ro⟩ := hr.at q
    simp only [isiD, e2] at e
    cases o with
    | lst xs =>
      obtain ⟨vs, q2, _⟩ := ro
      cases e
      exact ⟨_, .base (.lst q2), kit_ty (by cases t <;> decide +kernel)⟩
    | dic _ => cases e
    | ins _ _ => cases e
  | _ => cases e
theorem snd_isi {a : E} {t : Ty} (ia : Snd T G k a) : Snd T G k (.isi a t) := by
  refine Snd.val (fun {X W e} g h => ?_) (fun {N sc e} z => ?_) (by intros; rfl) (by intros; rfl) (by intros; rfl) (by intros; rfl) (by intros; rfl)
  · cases e <;> first | (exact absurd h Bool.false_ne_true) | skip
    rename_i fn es kws p
    cases fn <;> first | (exact absurd h Bool.false_ne_true) | skip
    rename_i x px
    match es, kws, h with
    | [e, .Name y py], [], h =>
    simp only [mE, Bool.and_eq_true, decide_eq_true_eq] at h
    obtain ⟨⟨⟨⟨⟨rfl, rfl⟩, h2⟩, h3⟩, h4⟩, h5⟩ := h
    refine PE.imp (pe_callB call_isi (gl_of h2) (g.glb.blt _ (by decide)) PyProof.Rows.boot_isinstance (pa_cons (ia.v g h5) (pa_cons (pe_bltn (v := .ty t.nm) (gl_of h3) (g.glb.blt _ (ty_mem t)) (ty_boot t) rfl (ty_nm t).1 (ty_nm t).2) pa_nil) (star_cons h4)) (by decide) (by decide) (star_cons h4) rfl) ?_
    rintro σ H Q ⟨Z, env, M, mu, F, hr, er, p⟩
    simp only [ev] at p
    refine ⟨Z, env, M, mu, F, hr, er, p.bind.imp fun d M1 H1 mu1 F1 g1 hr1 p1 v rv => ?_⟩
    cases q : isiD M1 t d with
    | none => rw [q] at p1; exact p1.elim
    | some b =>
      rw [q] at p1
      obtain ⟨n, q1, q2⟩ := isi_of hr1 rv q
      exact ⟨v, .ty t.nm, .type n, .type t.nm, b, rfl, .ty _, q1, q2, p1.here hr1 _ (.bl b)⟩
  · cases e <;> first | rfl | exact absurd z Bool.false_ne_true
theorem snd_app {a b : E} (ia : Snd T G k a) (ib : Snd T G k b) : Snd T G k (.app a b) := by
  refine Snd.val (fun {X W e} g h => ?_) (fun {N sc e} z => ?_) (by intros; rfl) (by intros; rfl) (by intros; rfl) (by intros; rfl) (by intros; rfl)
  · cases e <;> first | (exact absurd h Bool.false_ne_true) | skip
    rename_i fn es kws p
    cases fn <;> first | (exact absurd h Bool.false_ne_true) | skip
    rename_i o x px
    match es, kws, h with
    | [e], [], h =>
    simp only [mE, Bool.and_eq_true, decide_eq_true_eq] at h
    obtain ⟨⟨⟨⟨⟨rfl, h2⟩, h3⟩, h4⟩, h5⟩, h6⟩ := h
    have hs : ([e] : List Expr).all noStar = true := by rw [List.all_cons, h4] <;> rfl
    refine PE.imp (pe_bm PySem.F.plainAttrs_list PySem.F.slot_list_append PySem.F.type_list_append mt_append (ia.v g h5) (pa_cons (ib.v g h6) pa_nil (star_cons h4)) (base_of h2) ?_ h3 (star_cons h4) rfl) ?_
    · rw [star_all hs]; rfl
    rintro σ H Q ⟨Z, env, M, mu, F, hr, er, p⟩
    simp only [ev] at p
    refine ⟨Z, env, M, mu, F, hr, er, p.bind.imp fun d M1 H1 mu1 F1 g1 hr1 p1 v rv => ?_⟩
    cases rv with
    | @ref ad l q =>
      obtain ⟨o, e2, ro⟩ := hr1.at q
      simp only [e2] at p1
      cases o with
      | lst xs =>
        obtain ⟨vs, q2, t⟩ := ro
        refine ⟨.inl ⟨rfl, vs, SqL.of q2⟩, Z, env, M1, mu1, F1, hr1, er.mono g1, p1.bind.imp fun y M2 H2 mu2 F2 g2 hr2 p2 z rz => ?_⟩
        have q' := g2.m _ _ q
        obtain ⟨o2, e3, ro2⟩ := hr2.at q'
        simp only [e3] at p2
        cases o2 with
        | lst ys =>
          obtain ⟨ws, q4, t2⟩ := ro2
          simp only at p2
          by_cases hl : ys.length < sizeLine
          · rw [if_pos hl] at p2
            refine ⟨ad, ws, z, rfl, rfl, q4, by rw [t2.len]; exact hl, ?_⟩
            have hr3 := hr2.put (o := .lst (ws ++ [z])) (m := .lst (ys ++ [y])) q' ⟨_, upd_same, t2.app (.cons rz .nil)⟩
            exact p2 _ _ _ Gr.refl hr3 _ .non
          · rw [if_neg hl] at p2; exact p2.elim
        | dic _ => exact p2.elim
        | ins _ _ => exact p2.elim
      | dic _ => exact p1.elim
      | ins _ _ => exact p1.elim
    | _ => exact p1.elim
  · cases e <;> first | rfl | exact absurd z Bool.false_ne_true
end
end Lp

namespace Lp
open PySem PySem.Spec L2
section
variable {T : Tb} {K : PySem.W.Frag} {Z F : Hp} {mu : List Addr}
def iSeq (K : PySem.W.Frag) (tl : TE) : TI := fun σ H R => tl σ H fun x H1 => ∃ a, x = .ref a ∧ (((∃ xs, SqL K H1 a xs) ∧ R (Itl K a) H1) ∨ ((∃ xs, SqT K H1 a xs) ∧ R (Itt K a) H1))
theorem pi_seq {X : Cx} {tg l : Expr} {tl : TE} (hl : PE X l tl) : PI X tg l (iSeq X.K tl) := by
  refine ⟨fun pins s σ H R I h => ?_⟩
  refine thn (hl.run pins s σ H _ I h) fun v s1 ⟨x, H1, I1, r1, q1⟩ => ?_
  obtain ⟨a, e, q⟩ := q1
  subst e
  cases r1
  rcases q with ⟨⟨xs, hq⟩, q⟩ | ⟨⟨xs, hq⟩, q⟩
  · obtain ⟨its, rv, p, hz⟩ := I1.list hq
    refine wpAny_pyIter_list p.isList ?_
    refine ⟨s1.heap.objs.size, [s1.heap.objs.size], _, _, H1, rfl, I1.kept (t' := s1.toks) fun b o e => Heap.get?_push_of_some _ e, turn_list a _, ⟨_, Heap.get?_push_size _ rfl, rfl, rfl⟩, fun b hb => ?_, q⟩
    have e : b = s1.heap.objs.size := by simpa using hb
    subst e
    exact I1.fpOk (Nat.le_refl _) (I1.hok.fresh (Nat.le_refl _))
  · obtain ⟨its, rv, p, hz⟩ := I1.tuple hq
    refine wpAny_pyIter_tuple (show s1.heap.IsTuple a its.toArray from p) ?_
    refine ⟨s1.heap.objs.size, [s1.heap.objs.size], _, _, H1, rfl, I1.kept (t' := s1.toks) fun b o e => Heap.get?_push_of_some _ e, turn_tuple a _, ⟨_, Heap.get?_push_size _ rfl, rfl, rfl⟩, fun b hb => ?_, q⟩
    have e : b = s1.heap.objs.size := by simpa using hb
    subst e
    exact I1.fpOk (Nat.le_refl _) (I1.hok.fresh (Nat.le_refl _))
theorem ls_list {a : Addr} {vs : List V} {ds : List D} {n : Nat} (h : SqL K F a vs) (r : Rps T K F mu vs ds) : LsR T K ⟨n, fun i _ => some ds[i]?⟩ a mu F := by
  intro i Z H' M' mu' F' g hr
  have h' : SqL K H' a vs := hr.sqL (g.sqL h)
  refine ⟨vs, h', ?_⟩
  cases e : ds[i]? with
  | none => simp only; rw [r.len]; exact List.getElem?_eq_none_iff.mp e
  | some x =>
    obtain ⟨v, hv, rv⟩ := r.get e
    exact ⟨v, hv, rv.mono g⟩
theorem ls_ref {a : Addr} {l n : Nat} (h : mu[l]? = some a) : LsR T K ⟨n, fun i M => match M[l]? with | some (.lst zs) => some zs[i]? | _ => none⟩ a mu F := by
  intro i Z H' M' mu' F' g hr
  obtain ⟨o, e, ro⟩ := hr.at (g.m _ _ h)
  simp only [e]
  cases o with
  | dic _ => trivial
  | ins _ _ => trivial
  | lst zs =>
    obtain ⟨vs, q, t⟩ := ro
    refine ⟨vs, SqL.of q, ?_⟩
    cases e2 : zs[i]? with
    | none => simp only; rw [t.len]; exact List.getElem?_eq_none_iff.mp e2
    | some x =>
      obtain ⟨v, hv, rv⟩ := t.get e2
      exact ⟨v, hv, rv⟩
theorem it_ls {a : Addr} {J : Itm} (h : LsR T K J a mu F) : ItR T K J (Itl K a) mu F := by
  intro i Z H' M' mu' F' g hr
  have h := h i Z H' M' mu' F' g hr
  cases e : J.nx i M' with
  | none => simp only
  | some o =>
    rw [e] at h
    obtain ⟨xs, q, h⟩ := h
    cases o with
    | none => exact ⟨xs, q, h⟩
    | some x =>
      obtain ⟨v, hv, rv⟩ := h
      refine ⟨⟨xs, v, q, hv⟩, fun u H'' y => ?_⟩
      obtain ⟨e1, y⟩ := y
      subst e1
      have hu := y xs q
      rw [hv] at hu
      cases hu
      exact ⟨F', Gr.refl, hr, rv⟩
theorem it_tup {a : Addr} {vs : List V} {ds : List D} {n : Nat} (h : SqT K F a vs) (r : Rps T K F mu vs ds) : ItR T K ⟨n, fun i _ => some ds[i]?⟩ (Itt K a) mu F := by
  intro i Z H' M' mu' F' g hr
  have h' : SqT K H' a vs := hr.sqT (g.sqT h)
  cases e : ds[i]? with
  | none =>
    simp only [e]
    exact ⟨vs, h', by rw [r.len]; exact List.getElem?_eq_none_iff.mp e⟩
  | some x =>
    simp only [e]
    obtain ⟨v, hv, rv⟩ := r.get e
    refine ⟨⟨vs, v, h', hv⟩, fun u H'' y => ?_⟩
    obtain ⟨e1, y⟩ := y
    subst e1
    have hu := y vs h'
    rw [hv] at hu
    cases hu
    exact ⟨F', Gr.refl, hr, rv.mono g⟩
theorem it_rng {lo : Int} {n : Nat} : ItR T K (rngI lo n) (Itr lo n) mu F := by
  intro i Z H' M' mu' F' g hr
  by_cases h : i < n
  · simp only [rngI, if_pos h]
    refine ⟨h, fun u H'' y => ?_⟩
    obtain ⟨e1, y⟩ := y
    subst e1 y
    exact ⟨F', Gr.refl, hr, .int _⟩
  · simp only [rngI, if_neg h]
    exact Nat.le_of_not_lt h
theorem it_enu {a : Addr} {J : Itm} (h : LsR T K J a mu F) : ItR T K (enuI J) (Ite K a) mu F := by
  intro i Z H' M' mu' F' g hr
  have h := h i Z H' M' mu' F' g hr
  simp only [enuI]
  cases e : J.nx i M' with
  | none => simp only [Option.map]
  | some o =>
    rw [e] at h
    obtain ⟨xs, q, h⟩ := h
    cases o with
    | none => exact ⟨xs, q, h⟩
    | some x =>
      simp only [Option.map]
      obtain ⟨v, hv, rv⟩ := h
      refine ⟨⟨xs, v, q, hv⟩, fun u H'' y => ?_⟩
      obtain ⟨t, z, rfl, q1, rfl, q3⟩ := y
      have ez := q3 xs q
      rw [hv] at ez
      cases ez
      obtain ⟨hr3, g3⟩ := hr.frz (o := .tup [.int (i : Nat), v]) q1
      exact ⟨_, g3, hr3, .tup upd_same (.cons (.int _) (.cons (rv.mono g3) .nil))⟩
theorem it_enuT {a : Addr} {vs : List V} {ds : List D} {n : Nat} (h : SqT K F a vs) (r : Rps T K F mu vs ds) : ItR T K (enuI ⟨n, fun i _ => some ds[i]?⟩) (IteT K a) mu F := by
  intro i Z H' M' mu' F' g hr
  have h' : SqT K H' a vs := hr.sqT (g.sqT h)
  simp only [enuI]
  cases e : ds[i]? with
  | none =>
    simp only [Option.map]
    exact ⟨vs, h', by rw [r.len]; exact List.getElem?_eq_none_iff.mp e⟩
  | some x =>
    simp only [Option.map]
    obtain ⟨v, hv, rv⟩ := r.get e
    refine ⟨⟨vs, v, h', hv⟩, fun u H'' y => ?_⟩
    obtain ⟨t, z, rfl, q1, rfl, q3⟩ := y
    have ez := q3 vs h'
    rw [hv] at ez
    cases ez
    obtain ⟨hr3, g3⟩ := hr.frz (o := .tup [.int (i : Nat), v]) q1
    exact ⟨_, g3, hr3, .tup upd_same (.cons (.int _) (.cons (rv.mono (g.trans g3)) .nil))⟩
theorem it_zip {a b : Addr} {J J2 : Itm} (h : LsR T K J a mu F) (h2 : LsR T K J2 b mu F) : ItR T K (zipI J J2) (Itz K a b) mu F := by
  intro i Z H' M' mu' F' g hr
  have h := h i Z H' M' mu' F' g hr
  have h2 := h2 i Z H' M' mu' F' g hr
  simp only [zipI]
  cases e : J.nx i M' with
  | none => cases e2 : J2.nx i M' <;> simp only
  | some o => cases e2 : J2.nx i M' with
    | none => cases o <;> simp only
    | some o2 =>
      rw [e] at h
      rw [e2] at h2
      obtain ⟨xs, q1, h⟩ := h
      obtain ⟨ys, q2, h2⟩ := h2
      cases o with
      | none => cases o2 <;> exact ⟨xs, ys, q1, q2, .inl h⟩
      | some x => cases o2 with
        | none => exact ⟨xs, ys, q1, q2, .inr h2⟩
        | some y =>
          obtain ⟨v, hv, rv⟩ := h
          obtain ⟨w, hw, rw'⟩ := h2
          refine ⟨⟨xs, ys, v, w, q1, q2, hv, hw⟩, fun u H'' z => ?_⟩
          obtain ⟨t, x', y', rfl, z1, rfl, z3, z4⟩ := z
          have e3 := z3 xs q1
          rw [hv] at e3
          cases e3
          have e4 := z4 ys q2
          rw [hw] at e4
          cases e4
          obtain ⟨hr3, g3⟩ := hr.frz (o := .tup [v, w]) z1
          exact ⟨_, g3, hr3, .tup upd_same (.cons (rv.mono g3) (.cons (rw'.mono g3) .nil))⟩
end
section
variable {T : Tb} {G : Gm} {k : Nat}
theorem snd_itm {a : E} (ia : Snd T G k a) : Snd T G k (.itm a) := by
  refine ⟨fun _ h => (by cases h), fun _ _ h => (by cases h), fun _ h => (by cases h), fun _ h => (by cases h), fun _ _ h => (by cases h), fun _ h => (by cases h), fun _ h => (by cases h), fun {X W tg e} g h => ?_⟩
  have h : mE T X.N X.env.scope a e = true := h
  refine PI.imp (pi_seq (ia.v g h)) ?_
  rintro σ H R ⟨Z, env, M, mu, F, hr, er, p⟩
  simp only [evI] at p
  refine ⟨Z, env, M, mu, F, hr, er, p.bind.imp fun d M1 H1 mu1 F1 g1 hr1 p1 v rv => ?_⟩
  cases rv with
  | tup q t => exact ⟨_, rfl, .inr ⟨⟨_, SqT.of (hr1.sub _ _ q)⟩, p1.here hr1 _ (it_tup (SqT.of q) t)⟩⟩
  | lst q t => exact ⟨_, rfl, .inl ⟨⟨_, SqL.of (hr1.sub _ _ q)⟩, p1.here hr1 _ (it_ls (ls_list (SqL.of q) t))⟩⟩
  | nl _ q t => exact ⟨_, rfl, .inl ⟨⟨_, SqL.of (hr1.sub _ _ q)⟩, p1.here hr1 _ (it_ls (ls_list (SqL.of q) t))⟩⟩
  | arrL q t => exact ⟨_, rfl, .inl ⟨⟨_, hr1.sqL q⟩, p1.here hr1 _ (it_ls (ls_list q t))⟩⟩
  | arrT q t => exact ⟨_, rfl, .inr ⟨⟨_, hr1.sqT q⟩, p1.here hr1 _ (it_tup q t)⟩⟩
  | ref q =>
    obtain ⟨o, e, ro⟩ := hr1.at q
    simp only [itmOf, e] at p1
    cases o with
    | dic _ => exact p1.elim
    | ins _ _ => exact p1.elim
    | lst xs =>
      obtain ⟨vs, q2, t⟩ := ro
      exact ⟨_, rfl, .inl ⟨⟨vs, SqL.of q2⟩, p1.here hr1 _ (it_ls (ls_ref q))⟩⟩
  | _ => exact p1.elim
theorem snd_rng1 {a : E} (ia : Snd T G k a) : Snd T G k (.rng1 a) := by
  refine ⟨fun _ h => (by cases h), fun _ _ h => (by cases h), fun _ h => (by cases h), fun _ h => (by cases h), fun _ _ h => (by cases h), fun _ h => (by cases h), fun _ h => (by cases h), fun {X W tg e} g h => ?_⟩
  cases e <;> first | (exact absurd h Bool.false_ne_true) | skip
  rename_i fn es kws p
  cases fn <;> first | (exact absurd h Bool.false_ne_true) | skip
  rename_i x px
  match es, kws, h with
  | [e], [], h =>
  simp only [mI, Bool.and_eq_true, decide_eq_true_eq] at h
  obtain ⟨⟨⟨rfl, h2⟩, h3⟩, h4⟩ := h
  refine PI.imp (pi_range1 (gl_of h2) (g.glb.blt _ (by decide)) (pa_cons (ia.v g h4) pa_nil (star_cons h3)) (star_cons h3)) ?_
  rintro σ H R ⟨Z, env, M, mu, F, hr, er, p⟩
  simp only [evI] at p
  refine ⟨Z, env, M, mu, F, hr, er, p.bind.imp fun d M1 H1 mu1 F1 g1 hr1 p1 v rv => ?_⟩
  cases rv with
  | int n =>
    simp only at p1
    by_cases hl : small n
    · rw [if_pos hl] at p1
      exact ⟨n, rfl, hl.1, hl.2, p1.here hr1 _ it_rng⟩
    · rw [if_neg hl] at p1; exact p1.elim
  | _ => exact p1.elim
theorem snd_rng2 {a b : E} (ia : Snd T G k a) (ib : Snd T G k b) : Snd T G k (.rng2 a b) := by
  refine ⟨fun _ h => (by cases h), fun _ _ h => (by cases h), fun _ h => (by cases h), fun _ h => (by cases h), fun _ _ h => (by cases h), fun _ h => (by cases h), fun _ h => (by cases h), fun {X W tg e} g h => ?_⟩
  cases e <;> first | (exact absurd h Bool.false_ne_true) | skip
  rename_i fn es kws p
  cases fn <;> first | (exact absurd h Bool.false_ne_true) | skip
  rename_i x px
  match es, kws, h with
  | [e, f], [], h =>
  simp only [mI, Bool.and_eq_true, decide_eq_true_eq] at h
  obtain ⟨⟨⟨⟨⟨rfl, h2⟩, h3⟩, h4⟩, h5⟩, h6⟩ := h
  refine PI.imp (pi_range2 (gl_of h2) (g.glb.blt _ (by decide)) (pa_cons (ia.v g h5) (pa_cons (ib.v g h6) pa_nil (star_cons h4)) (star_cons h3)) (by rw [star_cons h3, star_cons h4] <;> rfl) (star_cons h4)) ?_
  rintro σ H R ⟨Z, env, M, mu, F, hr, er, p⟩
  simp only [evI] at p
  refine ⟨Z, env, M, mu, F, hr, er, p.bind.imp fun d M1 H1 mu1 F1 g1 hr1 p1 v rv => ⟨Z, env, M1, mu1, F1, hr1, er.mono g1, p1.bind.imp fun d2 M2 H2 mu2 F2 g2 hr2 p2 w rw => ?_⟩⟩
  cases rv with
  | int n => cases rw with
    | int m =>
      simp only at p2
      by_cases hl : small n ∧ small m
      · rw [if_pos hl] at p2
        exact ⟨n, m, rfl, ⟨hl.1.1, hl.1.2, hl.2.1, hl.2.2⟩, p2.here hr2 _ it_rng⟩
      · rw [if_neg hl] at p2; exact p2.elim
    | _ => exact p2.elim
  | _ => exact p2.elim
theorem itmL_of {K : PySem.W.Frag} {Z H F : Hp} {mu : List Addr} {M : Store} {v : V} {d : D} {J : Itm} (hr : HR T K Z H M mu F) (r : Rp T K F mu v d) (e : itmL M d = some J) : ∃ a vs, v = .ref a ∧ SqL K H a vs ∧ LsR T K J a mu F := by
  cases r with
  | lst q t => cases e; exact ⟨_, _, rfl, SqL.of (hr.sub _ _ q), ls_list (SqL.of q) t⟩
  | nl _ q t => cases e; exact ⟨_, _, rfl, SqL.of (hr.sub _ _ q), ls_list (SqL.of q) t⟩
  | ref q =>
    obtain ⟨o, e2, ro⟩ := hr.at q
    simp only [itmL, itmOf, e2] at e
    cases o with
    | dic _ => cases e
    | ins _ _ => cases e
    | lst xs =>
      obtain ⟨vs, q2, t⟩ := ro
      cases e
      exact ⟨_, vs, rfl, SqL.of q2, ls_ref q⟩
  | _ => cases e
theorem snd_enu {a : E} (ia : Snd T G k a) : Snd T G k (.enu a) := by
  refine ⟨fun _ h => (by cases h), fun _ _ h => (by cases h), fun _ h => (by cases h), fun _ h => (by cases h), fun _ _ h => (by cases h), fun _ h => (by cases h), fun _ h => (by cases h), fun {X W tg e} g h => ?_⟩
  cases e <;> first | (exact absurd h Bool.false_ne_true) | skip
  rename_i fn es kws p
  cases fn <;> first | (exact absurd h Bool.false_ne_true) | skip
  rename_i x px
  match es, kws, h with
  | [e], [], h =>
  simp only [mI, Bool.and_eq_true, decide_eq_true_eq] at h
  obtain ⟨⟨⟨⟨rfl, h2⟩, h0⟩, h3⟩, h4⟩ := h
  cases tg <;> first | (exact absurd h0 Bool.false_ne_true) | skip
  refine PI.imp (pi_enum2 (gl_of h2) (g.glb.blt _ (by decide)) (pa_cons (ia.v g h4) pa_nil (star_cons h3)) (star_cons h3)) ?_
  rintro σ H R ⟨Z, env, M, mu, F, hr, er, p⟩
  simp only [evI] at p
  refine ⟨Z, env, M, mu, F, hr, er, p.bind.imp fun d M1 H1 mu1 F1 g1 hr1 p1 v rv => ?_⟩
  cases rv with
  | tup q t => exact ⟨_, _, rfl, .inr ⟨SqT.of (hr1.sub _ _ q), p1.here hr1 _ (it_enuT (SqT.of q) t)⟩⟩
  | lst q t => exact ⟨_, _, rfl, .inl ⟨SqL.of (hr1.sub _ _ q), p1.here hr1 _ (it_enu (ls_list (SqL.of q) t))⟩⟩
  | nl _ q t => exact ⟨_, _, rfl, .inl ⟨SqL.of (hr1.sub _ _ q), p1.here hr1 _ (it_enu (ls_list (SqL.of q) t))⟩⟩
  | arrL q t => exact ⟨_, _, rfl, .inl ⟨hr1.sqL q, p1.here hr1 _ (it_enu (ls_list q t))⟩⟩
  | arrT q t => exact ⟨_, _, rfl, .inr ⟨hr1.sqT q, p1.here hr1 _ (it_enuT q t)⟩⟩
  | ref q =>
    obtain ⟨o, e, ro⟩ := hr1.at q
    simp only [itmOf, e] at p1
    cases o with
    | dic _ => exact p1.elim
    | ins _ _ => exact p1.elim
    | lst xs =>
      obtain ⟨vs, q2, t⟩ := ro
      exact ⟨_, vs, rfl, .inl ⟨SqL.of q2, p1.here hr1 _ (it_enu (ls_ref q))⟩⟩
  | _ => exact p1.elim
theorem snd_zip2 {a b : E} (ia : Snd T G k a) (ib : Snd T G k b) : Snd T G k (.zip2 a b) := by
  refine ⟨fun _ h => (by cases h), fun _ _ h => (by cases h), fun _ h => (by cases h), fun _ h => (by cases h), fun _ _ h => (by cases h), fun _ h => (by cases h), fun _ h => (by cases h), fun {X W tg e} g h => ?_⟩
  cases e <;> first | (exact absurd h Bool.false_ne_true) | skip
  rename_i fn es kws p
  cases fn <;> first | (exact absurd h Bool.false_ne_true) | skip
  rename_i x px
  match es, kws, h with
  | [e, f], [], h =>
  simp only [mI, Bool.and_eq_true, decide_eq_true_eq] at h
  obtain ⟨⟨⟨⟨⟨⟨rfl, h2⟩, h0⟩, h3⟩, h4⟩, h5⟩, h6⟩ := h
  cases tg <;> first | (exact absurd h0 Bool.false_ne_true) | skip
  refine PI.imp (pi_zip (gl_of h2) (g.glb.blt _ (by decide)) (pa_cons (ia.v g h5) (pa_cons (ib.v g h6) pa_nil (star_cons h4)) (star_cons h3)) (star_cons h3) (by rw [star_cons h4] <;> rfl)) ?_
  rintro σ H R ⟨Z, env, M, mu, F, hr, er, p⟩
  simp only [evI] at p
  refine ⟨Z, env, M, mu, F, hr, er, p.bind.imp fun d M1 H1 mu1 F1 g1 hr1 p1 v rv => ⟨Z, env, M1, mu1, F1, hr1, er.mono g1, p1.bind.imp fun d2 M2 H2 mu2 F2 g2 hr2 p2 w rw' => ?_⟩⟩
  cases e1 : itmL M2 d with
  | none => rw [e1] at p2; exact p2.elim
  | some J => cases e2 : itmL M2 d2 with
    | none => rw [e1, e2] at p2; exact p2.elim
    | some J2 =>
      rw [e1, e2] at p2
      obtain ⟨ad, vs, rfl, q1, q2⟩ := itmL_of hr2 (rv.mono g2) e1
      obtain ⟨bd, ws, rfl, q3, q4⟩ := itmL_of hr2 rw' e2
      exact ⟨ad, bd, vs, ws, rfl, q1, q3, p2.here hr2 _ (it_zip q2 q4)⟩
end
end Lp

namespace Lp
open PySem PySem.Spec L2 PyProof.Rows
theorem args_sum2 (a b : Value) : argsOk "sum" ⟨[a, b], []⟩ := by unfold argsOk; kernel_rfl
theorem sub_list_str : isSubtype (.type "list") (.type "str") = pure false := by rw [isSubtype_type]; kernel_rfl
theorem sub_list_bytes : isSubtype (.type "list") (.type "bytes") = pure false := by rw [isSubtype_type]; kernel_rfl
theorem sub_list_bytearray : isSubtype (.type "list") (.type "bytearray") = pure false := by rw [isSubtype_type]; kernel_rfl
section
variable {prog : Program} {w : World} {A : Around} {E : Value → Shared → Prop} {s : Shared}
theorem add_any {l b : Addr} {vs ws : List Value} {n : Nat} {Q : Value → Shared → Prop} (hl : PySem.IsL s.heap l vs.toArray n) (hb : s.heap.IsList b ws.toArray)
    (h : Q (.ref s.heap.objs.size) { s with heap := s.heap.push { cls := .type "list", data := .seq (vs ++ ws).toArray } }) (hsz : vs.length + ws.length ≤ sizeLine) : wpAny (model prog w) A (binaryOp .Add (.ref l) (.ref b)) Q E s := by
  obtain ⟨⟨cls2, dd2, data2, sl2⟩, ho2, hc2, n2, hd2⟩ := id hb
  simp only at hc2 hd2
  subst hc2 hd2
  have e : vs.toArray ++ ws.toArray = (vs ++ ws).toArray := by simp
  refine concat_meets ⟨_, hl, rfl⟩ ⟨_, ho2, rfl⟩ noFill_list_add seq_list_add PySem.F.slot_list_add PySem.F.entry_list_add (PySem.F.args_list_add_2 _ _) (list_addW l b vs.toArray ws.toArray n n2 none dd2 #[] sl2 (by simpa using hsz)) ⟨hl, ho2, ?_⟩
  rw [e]
  exact h
variable {R : Result → Shared → Prop} {I : Addr} {fp wr : List Addr} {n : Nat} {P : Nat → Value → Prop} {St : Nat → Heap → Prop}
theorem codeAny_sum_lists (W : Walks prog w A.in1 I fp wr n P St) (ad : Nat → Addr) (vals : List (List Value)) (hn : vals.length = n) (hval : ∀ i v, P i v → v = .ref (ad i)) (S : Addr) (hSf : ∀ b ∈ fp, b < S) :
    ∀ (k i : Nat) (s : Shared) (cur : Addr) (acc : List Value) (c m : Nat), n - i = k → i ≤ n → St i s.heap → s.heap.get? S = some { cls := .type "list", dict := none, data := .seq #[.ref cur] c, slots := #[] } →
    PySem.IsL s.heap cur acc.toArray m → (∀ j, i ≤ j → j < n → s.heap.IsList (ad j) (vals.getD j []).toArray ∧ ad j ∉ wr ∧ ad j ≠ S) → cur ∉ wr → cur ≠ S → acc.length + (vals.drop i).flatten.length ≤ sizeLine →
    (∀ h' tk cur' m', (∀ b o, b ∉ wr → b ≠ S → s.heap.get? b = some o → h'.get? b = some o) → PySem.IsL h' cur' (acc ++ (vals.drop i).flatten).toArray m' → (i = n → cur' = cur) → (i < n → S < cur') → R (.ok (.ret (.ref cur'))) { s with heap := h', toks := tk }) →
    codeAny (model prog w) A (.builtin "sum.loop" ⟨[.ref I, .ref S, rawInt 2, rawInt 0], []⟩) R s := by
  have hSw : S ∉ wr := fun h => Nat.lt_irrefl _ (hSf _ (W.sub _ h))
  intro k
  induction k with
  | zero =>
    intro i s cur acc c m hk hi hst hS hcur hit hcw hcS hz hR
    have hin : i = n := by omega
    subst hin
    refine codeAny_builtin F.entry_sum_loop ?_
    rw [Around.under_plainId F.plain_sum_loop _]
    show wpAny _ A.in1 (seqItems? (.ref S) >>= _) _ _ s
    refine wpAny_bind (wpAny_seqItems hS rfl ?_)
    show wpAny _ A.in1 (tryCatch (pyNext (.ref I)) _ >>= _) _ _ s
    refine wpAny_bind (wpAny_tryCatch (W.done s _ _ hst fun h' tk hk' => ?_))
    refine wpAny_pure (hR h' tk cur m (fun b o hbw _ e => hk' b o hbw e) ?_ (fun _ => rfl) (fun h => absurd h (Nat.lt_irrefl _)))
    rw [List.drop_eq_nil_of_le (by omega), List.flatten_nil, List.append_nil]
    exact hk' _ _ hcw hcur
  | succ k ih =>
    intro i s cur acc c m hk hi hst hS hcur hit hcw hcS hz hR
    have hlt : i < n := by omega
    refine codeAny_builtin F.entry_sum_loop ?_
    rw [Around.under_plainId F.plain_sum_loop _]
    show wpAny _ A.in1 (seqItems? (.ref S) >>= _) _ _ s
    refine wpAny_bind (wpAny_seqItems hS rfl ?_)
    show wpAny _ A.in1 (tryCatch (pyNext (.ref I)) _ >>= _) _ _ s
    refine wpAny_bind (wpAny_tryCatch (W.item i s _ _ hlt hst fun v h' tk hP hst' hk' => ?_))
    obtain rfl := hval i v hP
    have hS' := hk' S _ hSw hS
    have hcur' := hk' _ _ hcw hcur
    obtain ⟨hit1, hit2, hit3⟩ := hit i (Nat.le_refl _) hlt
    have hitm : h'.IsList (ad i) (vals.getD i []).toArray := by
      obtain ⟨o, ho, r⟩ := hit1
      exact ⟨o, hk' _ _ hit2 ho, r⟩
    have hvi : vals.drop i = vals.getD i [] :: vals.drop (i + 1) := by
      rw [List.drop_eq_getElem_cons (by omega), List.getD_eq_getElem?_getD, List.getElem?_eq_getElem (by omega)]
      rfl
    have hz2 : acc.length + ((vals.getD i []).length + (vals.drop (i + 1)).flatten.length) ≤ sizeLine := by
      rw [hvi, List.flatten_cons, List.length_append] at hz
      exact hz
    have hSlt : S < h'.objs.size := Heap.lt_size hS'
    show wpAny _ A.in1 ((holding [Value.ref (ad i)] (binaryOp .Add (.ref cur) (.ref (ad i)))).attempt >>= _) _ _ _
    refine wpAny_bind (wpAny_attempt (wpAny_holding (add_any (n := m) hcur' hitm ?_ (by omega))))
    generalize hp : h'.push { cls := .type "list", data := .seq (acc ++ vals.getD i []).toArray } = h1
    have h1new : PySem.IsL h1 h'.objs.size (acc ++ vals.getD i []).toArray 0 := by rw [← hp]; exact Heap.get?_push_size _ rfl
    have h1old : ∀ b o, h'.get? b = some o → h1.get? b = some o := fun b o e => by rw [← hp]; exact Heap.get?_push_of_some _ e
    have hS1 := h1old _ _ hS'
    show wpAny _ A.in1 (updateSeq S (fun _ => #[.ref h'.objs.size]) >>= _) _ _ _
    refine wpAny_bind (wpAny_updateSeq hS1 rfl ?_)
    have hS₂ := Heap.get?_update_self (Obj.mapSeq fun _ => #[Value.ref h'.objs.size]) hS1 rfl
    refine wpAny_bind (wpAny_letGo ?_)
    have up : ∀ b o, b ≠ S → h1.get? b = some o → ((h1.update S (Obj.mapSeq fun _ => #[Value.ref h'.objs.size])).update S (Obj.mapSeq fun _ => #[Value.ref h'.objs.size])).get? b = some o := fun b o hb e =>
      (Heap.get?_update_other _ _ (Ne.symm hb)).trans ((Heap.get?_update_other _ _ (Ne.symm hb)).trans e)
    refine wpAny_bind (wpAny_updateSeq hS₂ rfl (wpAny_pure ⟨plainId_quiet F.plain_sum_loop _, ih (i + 1) _ h'.objs.size (acc ++ vals.getD i []) _ 0 (by omega) hlt (W.frame _ _ _ hst' fun b hb o e => ?_) (Heap.get?_update_self _ hS₂ rfl) ?_ (fun j hj1 hj2 => ?_) ?_ ?_ ?_ fun h'' tk'' cur'' m'' hk'' hc1 hc2 hc3 => ?_⟩))
    · exact up b o (fun z => Nat.lt_irrefl _ (hSf S (z ▸ hb))) (h1old _ _ e)
    · exact up _ _ (Nat.ne_of_gt hSlt) h1new
    · obtain ⟨q1, q2, q3⟩ := hit j (by omega) hj2
      obtain ⟨o, ho, r⟩ := q1
      exact ⟨⟨o, up _ _ q3 (h1old _ _ (hk' _ _ q2 ho)), r⟩, q2, q3⟩
    · intro z
      exact Nat.lt_asymm hSlt (hSf _ (W.sub _ z))
    · exact Nat.ne_of_gt hSlt
    · rw [List.length_append]; omega
    · have hgo := hR h'' tk'' cur'' m'' (fun b o hbw hbS e => hk'' b o hbw hbS (up b o hbS (h1old _ _ (hk' b o hbw e)))) (by
        rw [hvi, List.flatten_cons, ← List.append_assoc]; exact hc1) (fun z => by omega) (fun _ => by
          by_cases hq : i + 1 = n
          · rw [hc2 hq]; exact hSlt
          · exact hc3 (by omega))
      exact hgo
theorem call_sum_lists {a b : Addr} {xs : List Addr} {vals : List (List Value)} {n : Nat} {Q : Value → Shared → Prop} (hh : A.handled = none) (hl : s.heap.IsList a (xs.map Value.ref).toArray) (hb : PySem.IsL s.heap b #[] n) (hlen : vals.length = xs.length)
    (hit : ∀ (j : Nat) (x : Addr), xs[j]? = some x → s.heap.IsList x (vals.getD j []).toArray) (hz : vals.flatten.length ≤ sizeLine)
    (h : ∀ h' tk cur' m', (∀ c o, s.heap.get? c = some o → h'.get? c = some o) → PySem.IsL h' cur' vals.flatten.toArray m' → (xs = [] → cur' = b) → (xs ≠ [] → s.heap.objs.size ≤ cur') → Q (.ref cur') { s with heap := h', toks := tk }) :
    wpAny (model prog w) A (call (.builtin "sum") [.ref a, .ref b]) Q E s := by
  refine call_function_tree F.kind_sum F.plain_sum F.entry_sum (args_sum2 _ _) ?_
  unfold Builtin.«sum»
  simp only [List.length_cons, List.length_nil]
  rw [if_neg (by decide)]
  refine wpAny_bind (wpAny_of_eq (show Builtin.Builtins.bindParams "sum" ["start"] 0 ⟨[.ref b], []⟩ = pure [some (.ref b)] from rfl) ?_)
  have hlt : a < s.heap.objs.size := by obtain ⟨_, e, _⟩ := hl; exact Heap.lt_size e
  refine wpAny_bind (wpAny_pyIter_list hl ?_)
  generalize hs2 : s.heap.push { cls := .type "list_iterator", data := .fields #[.ref a, .int 0 0] } = h2
  have z2 : h2.objs.size = s.heap.objs.size + 1 := by rw [← hs2]; exact Heap.size_push ..
  have old2 : ∀ c o, s.heap.get? c = some o → h2.get? c = some o := fun c o e => by rw [← hs2]; exact Heap.get?_push_of_some _ e
  have it2 : h2.IsListIter s.heap.objs.size a 0 := ⟨_, by rw [← hs2]; exact Heap.get?_push_size _ rfl, rfl, rfl⟩
  have hl2 : h2.IsList a (xs.map Value.ref).toArray := by
    obtain ⟨o, ho, r⟩ := hl
    exact ⟨o, old2 _ _ ho, r⟩
  refine wpAny_bind (wpAny_pure ?_)
  have tb : (({ s with heap := h2 } : Shared)).TypeIs (.ref b) "list" := ⟨_, old2 _ _ hb, rfl⟩
  simp only [List.forIn_cons, List.forIn_nil]
  refine wpAny_bind (wpAny_bind (wpAny_bind (wpAny_isInstance (T := "list") (b := false) tb sub_list_str ?_)))
  simp only [Bool.false_eq_true, if_false]
  refine wpAny_pure (wpAny_bind (wpAny_bind (wpAny_isInstance (T := "list") (b := false) tb sub_list_bytes ?_)))
  simp only [Bool.false_eq_true, if_false]
  refine wpAny_pure (wpAny_bind (wpAny_bind (wpAny_isInstance (T := "list") (b := false) tb sub_list_bytearray ?_)))
  simp only [Bool.false_eq_true, if_false]
  refine wpAny_pure (wpAny_pure ?_)
  refine wpAny_bind (wpAny_newObj_type ?_)
  show wpAny _ _ _ _ _ _
  have hW := Walks.list (prog := prog) (w := w) (A := A.in1) hh s.heap.objs.size a (Nat.ne_of_lt hlt) (xs.map Value.ref).toArray
  have hbl : b < s.heap.objs.size := Heap.lt_size hb
  have up : ∀ c o, s.heap.get? c = some o → (h2.push { cls := .type "list", data := .seq #[Value.ref b] }).get? c = some o := fun c o e => Heap.get?_push_of_some _ (old2 c o e)
  refine wpAny_pure ⟨plainId_quiet F.plain_sum_loop _, codeAny_sum_lists hW (fun i => xs.getD i 0) vals (by simpa using hlen) (fun i v hp => ?_) h2.objs.size (fun c hc => ?_) _ 0 _ b [] 0 n rfl (Nat.zero_le _) ?_ (Heap.get?_push_size _ rfl) (up _ _ hb) (fun j _ hj => ?_) ?_ (Nat.ne_of_lt (by rw [z2]; exact Nat.lt_succ_of_lt hbl)) (by simpa using hz) fun h' tk cur' m' hk hc1 hc2 hc3 => ?_⟩
  · have hp : (xs.map Value.ref).toArray[i]? = some v := hp
    rw [List.getElem?_toArray, List.getElem?_map] at hp
    obtain ⟨x, hx, rfl⟩ := Option.map_eq_some_iff.mp hp
    rw [List.getD_eq_getElem?_getD, hx]
    rfl
  · rcases List.mem_cons.mp hc with rfl | hc
    · rw [z2]; exact Nat.lt_succ_self _
    · rcases List.mem_cons.mp hc with rfl | hc
      · rw [z2]; exact Nat.lt_succ_of_lt hlt
      · cases hc
  · exact hW.frame _ h2 _ ⟨it2, hl2⟩ fun c _ o e => Heap.get?_push_of_some _ e
  · have hj : j < xs.length := by simpa using hj
    have hx : xs[j]? = some (xs.getD j 0) := by rw [List.getD_eq_getElem?_getD, List.getElem?_eq_getElem hj]; rfl
    obtain ⟨o, ho, r⟩ := hit j _ hx
    have hxl := Heap.lt_size ho
    refine ⟨⟨o, up _ _ ho, r⟩, ?_, ?_⟩
    · intro z
      exact Nat.ne_of_lt hxl (List.mem_singleton.mp z)
    · exact Nat.ne_of_lt (by rw [z2]; exact Nat.lt_succ_of_lt hxl)
  · intro z
    exact Nat.ne_of_lt hbl (List.mem_singleton.mp z)
  · have hc1 : PySem.IsL h' cur' vals.flatten.toArray m' := by simpa using hc1
    refine h h' tk cur' m' (fun c o e => ?_) hc1 (fun z => hc2 (by rw [z]; rfl)) (fun z => ?_)
    · have := Heap.lt_size e
      exact hk c o (fun y => Nat.ne_of_lt this (List.mem_singleton.mp y)) (Nat.ne_of_lt (by rw [z2]; exact Nat.lt_succ_of_lt this)) (up _ _ e)
    · have : h2.objs.size < cur' := hc3 (by
        show 0 < (xs.map Value.ref).toArray.size
        cases xs with
        | nil => exact absurd rfl z
        | cons => simp)
      exact Nat.le_of_lt (Nat.lt_trans (by rw [z2]; exact Nat.lt_succ_self _) this)
end
def rSumL (K : PySem.W.Frag) : List V → Hp → VK → Prop := fun vs H Q => ∃ (a b : Addr) (xs : List Addr) (yss : List (List V)), vs = [.ref a, .ref b] ∧ SqL K H a (xs.map V.ref) ∧ H b = some (.lst []) ∧ yss.length = xs.length ∧
  (∀ (j : Nat) (x : Addr), xs[j]? = some x → SqL K H x (yss.getD j [])) ∧ yss.flatten.length ≤ sizeLine ∧ (xs = [] → Q (.ref b) H) ∧ (xs ≠ [] → ∀ p, H p = none → Q (.ref p) (upd H p (.lst yss.flatten)))
theorem vals_refs : ∀ {xs : List Addr} {us : List Value}, Vals (xs.map V.ref) us → us = xs.map Value.ref
  | [], _, .nil => rfl
  | x :: xs, _, .cons r t => by
    cases r
    rw [vals_refs t]
    rfl
theorem cr_sumL {X : Cx} (hc : X.calm = true) : CallR X (.builtin "sum") (rSumL X.K) := by
  intro pins s σ H vs us Q I r h
  obtain ⟨a, b, xs, yss, rfl, ha, hb, hlen, hit, hz, q0, q1⟩ := h
  cases r with
  | cons r1 r2 => cases r2 with
    | cons r3 r4 =>
      cases r4
      cases r1
      cases r3
      obtain ⟨its, rv, hl, _⟩ := I.list ha
      rw [vals_refs rv] at hl
      obtain ⟨_, bts, bn, rb, _, eb⟩ := I.lstM hb
      cases rb
      have key : ∀ (zs : List (List V)) (ws : List Addr), zs.length = ws.length → (∀ (j : Nat) (x : Addr), ws[j]? = some x → SqL X.K H x (zs.getD j [])) → ∃ vals : List (List Value), vals.length = ws.length ∧ Vals zs.flatten vals.flatten ∧ ∀ (j : Nat) (x : Addr), ws[j]? = some x → s.heap.IsList x (vals.getD j []).toArray := by
        intro zs
        induction zs with
        | nil => intro ws h1 h2; cases ws with
          | nil => exact ⟨[], rfl, .nil, fun j x e => by cases e⟩
          | cons _ _ => cases h1
        | cons z zs ih => intro ws h1 h2; cases ws with
          | nil => cases h1
          | cons y ws =>
            obtain ⟨vals, k1, k2, k3⟩ := ih ws (by simpa using h1) (fun j x e => h2 (j + 1) x e)
            obtain ⟨its2, rv2, hl2, _⟩ := I.list (h2 0 y rfl)
            refine ⟨its2 :: vals, by simp [k1], by rw [List.flatten_cons, List.flatten_cons]; exact rv2.append k2, fun j x e => ?_⟩
            cases j with
            | zero => cases e; exact hl2.isList
            | succ j => exact k3 j x e
      obtain ⟨vals, k1, k2, k3⟩ := key yss xs hlen hit
      refine call_sum_lists (I.ok.hd hc) hl.isList eb k1 k3 (by rw [← k2.length]; exact hz) fun h' tk cur' m' hk hc1 hc2 hc3 => ?_
      by_cases hx : xs = []
      · rw [hc2 hx]
        exact ⟨.ref b, H, I.kept hk, rfl, q0 hx⟩
      · have hp := hc3 hx
        exact ⟨.ref cur', _, I.laid (a := cur') (o := .lst yss.flatten) hk hp ⟨hz, vals.flatten, m', k2, hc1⟩, rfl, q1 hx _ (I.hok.fresh hp)⟩
end Lp

namespace Lp
open PySem PySem.Spec L2
def Agr (M0 : Store) (r r' : Res D) : Prop := match r' with
  | .bad => True
  | .ok d' M' => r = .ok d' M' ∨ ∃ d M pk, r = .ok d M ∧ FzM M0 M pk M' ∧ Fz M pk d d'
  | .exc c fs' M' => r = .exc c fs' M' ∨ ∃ fs M pk, r = .exc c fs M ∧ FzM M0 M pk M' ∧ Fzf M pk fs fs'
section
variable {T : Tb} {K : PySem.W.Frag} {Z H F : Hp} {M M' : Store} {mu : List Addr} {pk : List Nat}
def pkMu (mu : List Addr) (pk : List Nat) : List Addr := pk.map fun l => mu.getD l 0
open Classical in
noncomputable def pkF (F H : Hp) (mu : List Addr) (pk : List Nat) : Hp := fun a => if ∃ l : Nat, mu[l]? = some a ∧ l ∉ pk then H a else F a
theorem pkMu_get {j l : Nat} {a : Addr} (h : pk[j]? = some l) (e : mu[l]? = some a) : (pkMu mu pk)[j]? = some a := by
  unfold pkMu
  rw [List.getElem?_map, h]
  show some (mu.getD l 0) = some a
  rw [List.getD_eq_getElem?_getD, e] <;> rfl
theorem pkMu_of {j : Nat} {a : Addr} (hl : ∀ l, l ∈ pk → l < mu.length) (h : (pkMu mu pk)[j]? = some a) : ∃ l, pk[j]? = some l ∧ mu[l]? = some a := by
  unfold pkMu at h
  rw [List.getElem?_map] at h
  cases e : pk[j]? with
  | none => rw [e] at h; cases h
  | some l =>
    rw [e] at h
    have hl := hl l (List.mem_of_getElem? e)
    have h : mu.getD l 0 = a := by simpa using h
    rw [List.getD_eq_getElem?_getD, List.getElem?_eq_getElem hl] at h
    exact ⟨l, rfl, by rw [List.getElem?_eq_getElem hl]; exact congrArg some (by simpa using h)⟩
theorem pkF_keep (hr : HR T K Z H M mu F) {a : Addr} {o : HO} (h : F a = some o) : pkF F H mu pk a = some o := by
  unfold pkF
  split
  · exact hr.sub a o h
  · exact h
theorem pkF_new {l : Nat} {a : Addr} (e : mu[l]? = some a) (h : l ∉ pk) : pkF F H mu pk a = H a := by
  unfold pkF
  rw [if_pos ⟨l, e, h⟩]
theorem nodup_at {mu : List Addr} (nd : mu.Nodup) {i j : Nat} {a : Addr} (h1 : mu[i]? = some a) (h2 : mu[j]? = some a) : i = j := by
  obtain ⟨l1, e1⟩ := List.getElem?_eq_some_iff.mp h1
  obtain ⟨l2, e2⟩ := List.getElem?_eq_some_iff.mp h2
  exact (List.getElem_inj nd).mp (e1.trans e2.symm)
theorem pkF_kept (hr : HR T K Z H M mu F) {l : Nat} {a : Addr} (e : mu[l]? = some a) (h : l ∈ pk) : pkF F H mu pk a = none := by
  unfold pkF
  rw [if_neg]
  · exact hr.out a (List.mem_of_getElem? e)
  · rintro ⟨j, e2, h2⟩
    exact h2 (nodup_at hr.nd e e2 ▸ h)
theorem HR.mnb (hr : HR T K Z H M mu F) {a : Addr} (h : a ∈ mu) : ¬ T.bor a := fun z => hr.bor a z (hr.out a h)
theorem pkF_grow (hr : HR T K Z H M mu F) : Gr F mu (pkF F H mu pk) mu := ⟨fun _ _ h => pkF_keep hr h, fun _ _ h => h⟩
mutual
theorem Fz.rp (hr : HR T K Z H M mu F) : ∀ {d d' : D} {v : V}, Fz M pk d d' → Rp T K F mu v d → Rp T K (pkF F H mu pk) (pkMu mu pk) v d'
  | _, _, _, .non, .non => .non
  | _, _, _, .bl b, .bl _ => .bl b
  | _, _, _, .int i, .int _ => .int i
  | _, _, _, .str s, .str _ => .str s
  | _, _, _, .tup h, .tup e t => .tup (pkF_keep hr e) (h.rp hr t)
  | _, _, _, .lst h, .lst e t => .lst (pkF_keep hr e) (h.rp hr t)
  | _, _, _, .arr h, .arrL e t => .arrL ((pkF_grow hr).sqL e) (h.rp hr t)
  | _, _, _, .arr h, .arrT e t => .arrT ((pkF_grow hr).sqT e) (h.rp hr t)
  | _, _, _, .ins h, .ins hc e t => .ins hc (pkF_keep hr e) (h.rp hr t)
  | _, _, _, .ref h, .ref e => .ref (pkMu_get h e)
  | _, _, _, .rlst h1 h2 h3, .ref e => by
    obtain ⟨o, e2, ro⟩ := hr.at e
    rw [h2] at e2
    cases e2
    obtain ⟨vs, q, t⟩ := ro
    exact .nl (hr.mnb (List.mem_of_getElem? e)) (by rw [pkF_new e h1]; exact q) (h3.rp hr t)
  | _, _, _, .rins h1 h2 h3, .ref e => by
    obtain ⟨o, e2, ro⟩ := hr.at e
    rw [h2] at e2
    cases e2
    obtain ⟨hc, dx, fv, q, t⟩ := ro
    exact .no (hr.mnb (List.mem_of_getElem? e)) hc (by rw [pkF_new e h1]; exact q) (h3.rp hr t)
  | _, _, _, .rdic h1 h2 h3, .ref e => by
    obtain ⟨o, e2, ro⟩ := hr.at e
    rw [h2] at e2
    cases e2
    obtain ⟨ws, q, t⟩ := ro
    exact .dic (by rw [pkF_new e h1]; exact q) (h3.rp hr (Rks.of t))
  | _, _, _, .nl h, .nl n e t => .nl n (pkF_keep hr e) (h.rp hr t)
  | _, _, _, .no h, .no n hc e t => .no n hc (pkF_keep hr e) (h.rp hr t)
  | _, _, _, .dic h, .dic e t => .dic (pkF_keep hr e) (h.rp hr t)
theorem Fzs.rp (hr : HR T K Z H M mu F) : ∀ {ds ds' : List D} {vs : List V}, Fzs M pk ds ds' → Rps T K F mu vs ds → Rps T K (pkF F H mu pk) (pkMu mu pk) vs ds'
  | _, _, _, .nil, .nil => .nil
  | _, _, _, .cons h t, .cons r rs => .cons (h.rp hr r) (t.rp hr rs)
theorem Fzf.rp (hr : HR T K Z H M mu F) : ∀ {ds ds' : List (Nat × D)} {vs : List (Str × V)}, Fzf M pk ds ds' → Rfs T K F mu vs ds → Rfs T K (pkF F H mu pk) (pkMu mu pk) vs ds'
  | _, _, _, .nil, .nil => .nil
  | _, _, _, .cons h t, .cons e r rs => .cons e (h.rp hr r) (t.rp hr rs)
theorem Fzk.rp (hr : HR T K Z H M mu F) : ∀ {ds ds' : List (Key × D)} {vs : List (Key × V)}, Fzk M pk ds ds' → Rks T K F mu vs ds → Rks T K (pkF F H mu pk) (pkMu mu pk) vs ds'
  | _, _, _, .nil, .nil => .nil
  | _, _, _, .cons h t, .cons r rs => .cons (h.rp hr r) (t.rp hr rs)
end
mutual
theorem Rp.fz {F0 : Hp} {mu0 : List Addr} {M : Store} (low : ∀ j : Nat, j < mu0.length → pk[j]? = some j) : ∀ {v : V} {d : D}, Rp T K F0 mu0 v d → Fz M pk d d
  | _, _, .non => .non
  | _, _, .bl b => .bl b
  | _, _, .int i => .int i
  | _, _, .str s => .str s
  | _, _, .tup _ t => .tup (Rps.fz low t)
  | _, _, .lst _ t => .lst (Rps.fz low t)
  | _, _, .arrL _ t => .arr (Rps.fz low t)
  | _, _, .arrT _ t => .arr (Rps.fz low t)
  | _, _, .ins _ _ t => .ins (Rfs.fz low t)
  | _, _, .ref e => .ref (low _ (List.getElem?_eq_some_iff.mp e).1)
  | _, _, .nl _ _ t => .nl (Rps.fz low t)
  | _, _, .no _ _ _ t => .no (Rfs.fz low t)
  | _, _, .dic _ t => .dic (Rks.fz low t)
theorem Rps.fz {F0 : Hp} {mu0 : List Addr} {M : Store} (low : ∀ j : Nat, j < mu0.length → pk[j]? = some j) : ∀ {vs : List V} {ds : List D}, Rps T K F0 mu0 vs ds → Fzs M pk ds ds
  | _, _, .nil => .nil
  | _, _, .cons r t => .cons (Rp.fz low r) (Rps.fz low t)
theorem Rfs.fz {F0 : Hp} {mu0 : List Addr} {M : Store} (low : ∀ j : Nat, j < mu0.length → pk[j]? = some j) : ∀ {vs : List (Str × V)} {ds : List (Nat × D)}, Rfs T K F0 mu0 vs ds → Fzf M pk ds ds
  | _, _, .nil => .nil
  | _, _, .cons _ r t => .cons (Rp.fz low r) (Rfs.fz low t)
theorem Rks.fz {F0 : Hp} {mu0 : List Addr} {M : Store} (low : ∀ j : Nat, j < mu0.length → pk[j]? = some j) : ∀ {vs : List (Key × V)} {ds : List (Key × D)}, Rks T K F0 mu0 vs ds → Fzk M pk ds ds
  | _, _, .nil => .nil
  | _, _, .cons r t => .cons (Rp.fz low r) (Rks.fz low t)
end
theorem ObjR.fz {F0 H0 : Hp} {mu0 : List Addr} {M : Store} {a : Addr} {o : MO} (low : ∀ j : Nat, j < mu0.length → pk[j]? = some j) (r : ObjR T K F0 mu0 H0 a o) : FzO M pk o o := by
  cases o with
  | lst xs => obtain ⟨vs, _, t⟩ := r; exact .lst (Rps.fz low t)
  | ins c fs => obtain ⟨_, dx, fv, _, t⟩ := r; exact .ins (Rfs.fz low t)
  | dic kvs =>
    obtain ⟨ws, e, t⟩ := r
    exact .dic (Rks.fz low (Rks.of t))
theorem FzM.hr {M0 : Store} {F0 H0 : Hp} {mu0 : List Addr} (h0 : HR T K Z H0 M0 mu0 F0) (g : Gr F0 mu0 F mu) (hr : HR T K Z H M mu F) (z : FzM M0 M pk M') : HR T K Z H M' (pkMu mu pk) (pkF F H mu pk) := by
  have hl : ∀ l, l ∈ pk → l < mu.length := fun l h => by
    obtain ⟨j, hj⟩ := List.mem_iff_getElem?.mp h
    obtain ⟨o, o', e, _, _⟩ := z.obj j l hj
    rw [hr.len]
    exact (List.getElem?_eq_some_iff.mp e).1
  refine ⟨fun a o h => ?_, by rw [← z.len]; simp [pkMu], ?_, fun a h => ?_, fun j a o' e1 e2 => ?_, fun a o h => ?_, fun a h => ?_⟩
  · unfold pkF at h
    split at h
    · exact h
    · exact hr.sub a o h
  · unfold pkMu
    rw [List.nodup_iff_pairwise_ne, List.pairwise_map]
    refine (List.nodup_iff_pairwise_ne.mp z.nd).imp_of_mem fun {i j} hi hj hij e => hij ?_
    have l1 := hl i hi
    have l2 := hl j hj
    rw [List.getD_eq_getElem?_getD, List.getD_eq_getElem?_getD, List.getElem?_eq_getElem l1, List.getElem?_eq_getElem l2] at e
    exact (List.getElem_inj hr.nd).mp (by simpa using e)
  · obtain ⟨j, hj⟩ := List.mem_iff_getElem?.mp h
    obtain ⟨l, h1, h2⟩ := pkMu_of hl hj
    exact pkF_kept hr h2 (List.mem_of_getElem? h1)
  · obtain ⟨l, h1, h2⟩ := pkMu_of hl e1
    obtain ⟨o, o2, q1, q2, q3⟩ := z.obj j l h1
    rw [e2] at q2
    cases q2
    have ro := hr.obj l a o h2 q1
    have q3 : FzO M pk o o' := by
      rcases q3 with ⟨q3, rfl⟩ | q3
      · have hj : j < M0.length := (List.getElem?_eq_some_iff.mp q3).1
        obtain ⟨a0, e0⟩ : ∃ a0, mu0[j]? = some a0 := ⟨_, List.getElem?_eq_getElem (by rw [h0.len]; exact hj)⟩
        exact ObjR.fz (fun i hi => z.low i (by rw [← h0.len]; exact hi)) (h0.obj j a0 _ e0 q3)
      · exact q3
    cases q3 with
    | lst h =>
      obtain ⟨vs, q, t⟩ := ro
      exact ⟨vs, q, h.rp hr t⟩
    | ins h =>
      obtain ⟨hc, dx, fv, q, t⟩ := ro
      exact ⟨hc, dx, fv, q, h.rp hr t⟩
    | dic h =>
      obtain ⟨ws, q, t⟩ := ro
      exact ⟨ws, q, (h.rp hr (Rks.of t)).rk⟩
  · obtain ⟨z1, z2, z3⟩ := hr.zs a o h
    have hm : a ∉ pkMu mu pk := fun hm => by
      obtain ⟨j, hj⟩ := List.mem_iff_getElem?.mp hm
      obtain ⟨l, h1, h2⟩ := pkMu_of hl hj
      exact z3 (List.mem_of_getElem? h2)
    refine ⟨z1, ?_, hm⟩
    unfold pkF
    rw [if_neg]
    · exact z2
    · rintro ⟨l, e, _⟩
      exact z3 (List.mem_of_getElem? e)
  · cases e : F a with
    | none => exact absurd e (hr.bor a h)
    | some o => rw [pkF_keep hr e]; exact fun z => by cases z
theorem FzM.gr {M0 : Store} {F0 : Hp} {mu0 : List Addr} (hr : HR T K Z H M mu F) (hn : mu0.length = M0.length) (g : Gr F0 mu0 F mu) (z : FzM M0 M pk M') : Gr F0 mu0 (pkF F H mu pk) (pkMu mu pk) :=
  ⟨fun a o h => pkF_keep hr (g.f a o h), fun l a h => pkMu_get (z.low l (by rw [← hn]; exact (List.getElem?_eq_some_iff.mp h).1)) (g.m l a h)⟩
theorem Agr.pg {M0 : Store} {F0 H0 : Hp} {mu0 : List Addr} {w : WE1} {r r' : Res D} {Q : VK} (h0 : HR T K Z H0 M0 mu0 F0) (a : Agr M0 r r') (p : PG T K Z w F0 mu0 r' (QD T K Q)) : PG T K Z w F0 mu0 r (QD T K Q) := by
  cases r' with
  | bad => exact p.elim
  | ok d' M' =>
    rcases a with rfl | ⟨d, M, pk, rfl, z1, z2⟩
    · exact p
    · intro H1 mu1 F1 g1 hr1 v rv
      exact p H1 _ _ (z1.gr hr1 h0.len g1) (z1.hr h0 g1 hr1) v (z2.rp hr1 rv)
  | exc c fs' M' =>
    rcases a with rfl | ⟨fs, M, pk, rfl, z1, z2⟩
    · exact p
    · intro H1 mu1 F1 g1 hr1 cls d x
      obtain ⟨x1, b, fv, x2, x3, x4⟩ := x
      exact p H1 _ _ (z1.gr hr1 h0.len g1) (z1.hr h0 g1 hr1) cls d ⟨x1, b, fv, x2, x3, z2.rp hr1 x4⟩
end
end Lp

namespace Lp
open PySem PySem.Spec L2
section
variable {T : Tb} {G : Gm} {k : Nat}
theorem snd_idn {a b : E} (ia : Snd T G k a) (ib : Snd T G k b) : Snd T G k (.idn a b) := by
  refine Snd.val (fun {X W e} g h => ?_) (fun {N sc e} z => ?_) (by intros; rfl) (by intros; rfl) (by intros; rfl) (by intros; rfl) (by intros; rfl)
  · cases e <;> first | (exact absurd h Bool.false_ne_true) | skip
    rename_i fn es kws p
    cases fn <;> first | (exact absurd h Bool.false_ne_true) | skip
    rename_i o x px
    match es, kws, h with
    | [e], [], h =>
    simp only [mE, Bool.and_eq_true, decide_eq_true_eq] at h
    obtain ⟨⟨⟨⟨⟨rfl, h2⟩, h3⟩, h4⟩, h5⟩, h6⟩ := h
    have hs : ([e] : List Expr).all noStar = true := by rw [List.all_cons, h4] <;> rfl
    refine PE.imp (pe_bm PySem.F.plainAttrs_list PySem.F.slot_list_index PySem.F.type_list_index mt_index (ia.v g h5) (pa_cons (ib.v g h6) pa_nil (star_cons h4)) (base_of h2) ?_ h3 (star_cons h4) rfl) ?_
    · rw [star_all hs]; rfl
    rintro σ H Q ⟨Z, env, M, mu, F, hr, er, p⟩
    simp only [ev] at p
    refine ⟨Z, env, M, mu, F, hr, er, p.bind.imp fun d M1 H1 mu1 F1 g1 hr1 p1 v rv => ?_⟩
    cases e0 : asM M1 d with
    | none => rw [e0] at p1; exact p1.elim
    | some xs0 =>
      rw [e0] at p1
      obtain ⟨ad, vs, rfl, q2, t⟩ := rv.lsM hr1 e0
      refine ⟨.inl ⟨rfl, vs, SqL.of q2⟩, Z, env, M1, mu1, F1, hr1, er.mono g1, p1.bind.imp fun y M2 H2 mu2 F2 g2 hr2 p2 z rz => ?_⟩
      unfold idnD at p2
      cases e3 : asM M2 d with
      | none => rw [e3] at p2; exact p2.elim
      | some ys =>
        rw [e3] at p2
        obtain ⟨ad2, ws, e4, q4, t2⟩ := (rv.mono g2).lsM hr2 e3
        cases e4
        simp only at p2
        by_cases hf : (flatD y && ys.all flatD) = true
        · rw [if_pos hf] at p2
          rw [Bool.and_eq_true] at hf
          cases e5 : ys.findIdx? (fun z => eqF z y) with
          | none => rw [e5] at p2; exact p2.elim
          | some j =>
            rw [e5] at p2
            obtain ⟨hj, k1, k2⟩ := List.findIdx?_eq_some_iff_getElem.mp e5
            obtain ⟨zv, hz, rzv⟩ := t2.get (List.getElem?_eq_getElem hj)
            refine ⟨ad, ws, z, j, zv, rfl, rfl, SqL.of q4, flat_of rz hf.1, flats_of t2 hf.2, hz, ?_, fun m z' hm hz' => ?_, p2.here hr2 _ (.int _)⟩
            · rw [← eqF_of rzv rz (List.all_eq_true.mp hf.2 _ (List.getElem_mem hj)) hf.1]
              exact k1
            · have hml : m < ys.length := Nat.lt_trans hm hj
              obtain ⟨zv2, hz2, rz2⟩ := t2.get (List.getElem?_eq_getElem hml)
              rw [hz'] at hz2
              cases hz2
              rw [← eqF_of rz2 rz (List.all_eq_true.mp hf.2 _ (List.getElem_mem hml)) hf.1]
              simpa using k2 m hm
        · rw [if_neg hf] at p2; exact p2.elim
  · cases e <;> first | rfl | exact absurd z Bool.false_ne_true
theorem snd_popz {a : E} (ia : Snd T G k a) : Snd T G k (.popz a) := by
  refine Snd.val (fun {X W e} g h => ?_) (fun {N sc e} z => ?_) (by intros; rfl) (by intros; rfl) (by intros; rfl) (by intros; rfl) (by intros; rfl)
  · cases e <;> first | (exact absurd h Bool.false_ne_true) | skip
    rename_i fn es kws p
    cases fn <;> first | (exact absurd h Bool.false_ne_true) | skip
    rename_i o x px
    match es, kws, h with
    | [.Constant (.int 0) ck cp], [], h =>
    simp only [mE, Bool.and_eq_true, decide_eq_true_eq] at h
    obtain ⟨⟨⟨rfl, h2⟩, h3⟩, h5⟩ := h
    refine PE.imp (pe_bm PySem.F.plainAttrs_list PySem.F.slot_list_pop PySem.F.type_list_pop mt_popAt (ia.v g h5) (pa_cons pe_int pa_nil rfl) (base_of h2) rfl h3 rfl rfl) ?_
    rintro σ H Q ⟨Z, env, M, mu, F, hr, er, p⟩
    simp only [ev] at p
    refine ⟨Z, env, M, mu, F, hr, er, p.bind.imp fun d M1 H1 mu1 F1 g1 hr1 p1 v rv => ?_⟩
    cases rv with
    | @ref ad l q =>
      obtain ⟨o, e2, ro⟩ := hr1.at q
      simp only [popzD, e2] at p1
      cases o with
      | lst xs =>
        obtain ⟨vs, q2, t⟩ := ro
        cases xs with
        | nil => exact p1.elim
        | cons y ys =>
          cases t with
          | @cons w _ ws _ ry ts =>
            refine ⟨.inl ⟨rfl, _, SqL.of q2⟩, ?_⟩
            refine ⟨ad, _, 0, 0, w, rfl, rfl, q2, by decide, by decide, (by unfold seqIndex?; simp <;> omega), rfl, ?_⟩
            have hr3 := hr1.put (o := .lst (List.eraseIdx (w :: _) 0)) (m := .lst ys) q ⟨_, upd_same, ts⟩
            exact p1 _ _ _ Gr.refl hr3 _ ry
      | dic _ => exact p1.elim
      | ins _ _ => exact p1.elim
    | _ => exact p1.elim
  · cases e <;> first | rfl | exact absurd z Bool.false_ne_true
theorem snd_dem : Snd T G k .dem := by
  refine Snd.val (fun {X W e} g h => ?_) (fun {N sc e} z => ?_) (by intros; rfl) (by intros; rfl) (by intros; rfl) (by intros; rfl) (by intros; rfl)
  · cases e <;> first | (exact absurd h Bool.false_ne_true) | skip
    rename_i ks vs p
    match ks, vs, h with
    | [], [], h =>
    refine PE.imp pe_dnewK ?_
    rintro σ H Q ⟨Z, env, M, mu, F, hr, er, p⟩
    simp only [ev] at p
    intro a ha
    obtain ⟨hr2, g2⟩ := hr.alloc (o := .dK []) (m := .dic []) ha ⟨[], upd_same, .nil⟩
    refine p _ _ _ g2 hr2 _ (.ref ?_)
    rw [← hr.len, List.getElem?_append_right (Nat.le_refl _)]
    simp
  · cases e <;> first | rfl | exact absurd z Bool.false_ne_true
theorem sumLL_at {K : PySem.W.Frag} {Z H F : Hp} {mu : List Addr} {M : Store} (hr : HR T K Z H M mu F) : ∀ {vs : List V} {xs : List D} {yss : List (List D)}, Rps T K F mu vs xs → mapO (asM M) xs = some yss →
    ∃ (as : List Addr) (wss : List (List V)), vs = as.map V.ref ∧ wss.length = as.length ∧ (∀ (j : Nat) (x : Addr), as[j]? = some x → H x = some (.lst (wss.getD j []))) ∧ Rps T K F mu wss.flatten yss.flatten
  | _, [], _, .nil, h => by
    cases h
    exact ⟨[], [], rfl, rfl, fun j x e => (by cases e), .nil⟩
  | _, x :: xs, yss, .cons r t, h => by
    simp only [mapO] at h
    cases e1 : asM M x with
    | none => rw [e1] at h; cases h
    | some ys => cases e2 : mapO (asM M) xs with
      | none => rw [e1, e2] at h; cases h
      | some zss =>
        rw [e1, e2] at h
        cases h
        obtain ⟨a, ws, rfl, q1, q2⟩ := r.lsM hr e1
        obtain ⟨as, wss, rfl, k1, k2, k3⟩ := sumLL_at hr t e2
        refine ⟨a :: as, ws :: wss, rfl, by simp [k1], fun j x e => ?_, by rw [List.flatten_cons, List.flatten_cons]; exact q2.app k3⟩
        cases j with
        | zero => cases e; exact q1
        | succ j => exact k2 j x e
theorem snd_sml {a : E} (ia : Snd T G k a) : Snd T G k (.sml a) := by
  refine ⟨fun _ h => (by cases h), fun _ _ h => (by cases h), fun _ h => (by cases h), fun _ h => (by cases h), fun _ _ h => (by cases h), fun _ h => (by cases h), fun {X W e} g h => ?_, fun _ h => (by cases h)⟩
  cases e <;> first | (exact absurd h Bool.false_ne_true) | skip
  rename_i fn args kws p
  match fn, args, kws, h with
  | .Name x px, [e, .List [] pl], [], h =>
  simp only [mL, Bool.and_eq_true, decide_eq_true_eq] at h
  obtain ⟨⟨⟨rfl, h1⟩, h2⟩, h3⟩ := h
  have hv := boot_of .sum
  refine PE.imp (pe_callB (cr_sumL g.calm) (gl_of h1) (g.glb.blt _ (by decide)) hv (pa_cons (ia.v g h3) (pa_cons (pe_lst pa_nil) pa_nil rfl) (star_cons h2)) (by decide) (by decide) (star_cons h2) rfl) ?_
  rintro σ H Q ⟨Z, env, M, mu, F, hr, er, p⟩
  simp only [evL] at p
  refine ⟨Z, env, M, mu, F, hr, er, p.bind.imp fun d M1 H1 mu1 F1 g1 hr1 p1 v rv => ⟨Nat.zero_le _, fun q hq => ?_⟩⟩
  unfold sumLL at p1
  cases e0 : asM M1 d with
  | none => rw [e0] at p1; exact p1.elim
  | some xs =>
    cases e1 : mapO (asM M1) xs with
    | none => rw [e0, Option.bind_some, e1] at p1; exact p1.elim
    | some yss =>
      rw [e0, Option.bind_some, e1] at p1
      simp only [Option.map_some] at p1
      by_cases hl : yss.flatten.length ≤ sizeLine
      · rw [if_pos hl] at p1
        obtain ⟨ad, vs, rfl, q2, t⟩ := rv.lsM hr1 e0
        obtain ⟨as, wss, rfl, k1, k2, k3⟩ := sumLL_at hr1 t e1
        have ne : ∀ x o, H1 x = some o → upd H1 q (.lst []) x = some o := fun x o e => by rw [upd_ne (fun z => by rw [z, hq] at e; cases e)]; exact e
        refine ⟨ad, q, as, wss, rfl, SqL.of (ne _ _ q2), upd_same, k1, fun j x e => SqL.of (ne _ _ (k2 j x e)), by rw [k3.len]; exact hl, fun z => ?_, fun z p' hp' => ?_⟩
        · subst z
          have : wss = [] := List.eq_nil_of_length_eq_zero (by simpa using k1)
          subst this
          exact p1.here hr1 [] q k3 hq
        · obtain ⟨hr2, g2⟩ := hr1.frz (o := .lst []) hq
          exact p1 _ _ _ g2 hr2 _ p' (k3.mono g2) hp'
      · rw [if_neg hl] at p1; exact p1.elim
theorem snd_cals {f : Nat} {args : E} (ia : Snd T G k args) : Snd T G k (.cals f args) := by
  refine Snd.val (fun {X W e} g h => ?_) (fun {N sc e} z => ?_) (by intros; rfl) (by intros; rfl) (by intros; rfl) (by intros; rfl) (by intros; rfl)
  · cases e <;> first | (exact absurd h Bool.false_ne_true) | skip
    rename_i fn es kws p
    cases fn <;> first | (exact absurd h Bool.false_ne_true) | skip
    rename_i x px
    cases kws with
    | cons _ _ => exact absurd h Bool.false_ne_true
    | nil =>
    simp only [mE, Bool.and_eq_true, decide_eq_true_eq] at h
    obtain ⟨⟨⟨⟨h1, h2⟩, h3⟩, h4⟩, h5⟩ := h
    obtain ⟨fa, fd, ps, e1, e2, e3, e4⟩ := g.glb.fn f x h1 (nm_of h3).e
    have hr : Room k X.A := g.room.mono (Nat.le_succ _)
    cases es with
    | nil =>
      refine PE.imp (pe_callG0 (E := WE W) e4 hr (gl_of h2) e1 e2 e3 (fun σ => passAt g.tk σ) (nm_of h3).d) ?_
      rintro σ H Q ⟨Z, env, M, mu, F, hr, er, p⟩
      cases args <;> first | (exact absurd h5 Bool.false_ne_true) | skip
      simp only [ev, evs, bind_ok] at p
      exact ⟨T.bor, Z, [], M, mu, F, hr, .nil, p⟩
    | cons e es =>
      refine PE.imp (pe_callG (E := WE W) e4 hr (gl_of h2) e1 e2 e3 (fun σ => passAt g.tk σ) (ia.s g h4 h5) (nm_of h3).d h4) ?_
      rintro σ H Q ⟨Z, env, M, mu, F, hr, er, p⟩
      simp only [ev] at p
      exact ⟨Z, env, M, mu, F, hr, er, p.bind.imp fun ds M1 H1 mu1 F1 g1 hr1 p1 vs rvs => ⟨T.bor, Z, ds, M1, mu1, F1, hr1, rvs, p1⟩⟩
  · cases e <;> first | rfl | exact absurd z Bool.false_ne_true
theorem snd_mths {a : E} {m : Nat} {args : E} (ia : Snd T G k a) (ir : Snd T G k args) : Snd T G k (.mths a m args) := by
  refine Snd.val (fun {X W e} g h => ?_) (fun {N sc e} z => ?_) (by intros; rfl) (by intros; rfl) (by intros; rfl) (by intros; rfl) (by intros; rfl)
  · cases e <;> first | (exact absurd h Bool.false_ne_true) | skip
    rename_i fn es kws p
    cases fn <;> first | (exact absurd h Bool.false_ne_true) | skip
    rename_i o x px
    cases kws with
    | cons _ _ => exact absurd h Bool.false_ne_true
    | nil =>
    simp only [mE, Bool.and_eq_true, decide_eq_true_eq] at h
    obtain ⟨⟨⟨⟨⟨⟨h1, h3⟩, h4⟩, h5⟩, h6⟩, h7⟩, h8⟩ := h
    have hr : Room k X.A := g.room.mono (Nat.le_succ _)
    cases es with
    | nil =>
      refine PE.imp (pe_mthG0 (E := WE W) (ia.v g h7) hr (fun σ => passAt g.tk σ) h3 h4) ?_
      rintro σ H Q ⟨Z, env, M, mu, F, hr, er, p⟩
      cases args <;> first | (exact absurd h8 Bool.false_ne_true) | skip
      simp only [ev, evs, bind_ok] at p
      refine ⟨Z, env, M, mu, F, hr, er, p.bind.imp fun d M1 H1 mu1 F1 g1 hr1 p1 v rv => ?_⟩
      cases q : asI M1 d with
      | none => rw [q] at p1; exact p1.elim
      | some cf =>
        obtain ⟨c, fs⟩ := cf
        rw [q] at p1
        simp only at p1
        by_cases hnf : noF G m fs = true
        case neg => rw [if_neg hnf] at p1; exact p1.elim
        rw [if_pos hnf] at p1
        cases q2 : G.mth c m with
        | none => rw [q2] at p1; exact p1.elim
        | some fi =>
          rw [q2] at p1
          obtain ⟨hc, ad, dx, fv, rfl, q4, q5⟩ := rv.insI hr1 q
          obtain ⟨y, fa, fd, ps, e1, e2, e3, e4⟩ := g.glb.mth c m fi hc q2
          rw [h1] at e1; cases e1
          obtain ⟨_, c1, _⟩ := g.glb.cls c hc
          exact ⟨ad, T.cad X.K c, dx, fv, fa, fd, ps, _, rfl, q4, nof_of g.glb h1 hnf q5, c1, e2, e3, e4, ⟨T.bor, Z, _, M1, mu1, F1, hr1, .cons rv .nil, p1⟩⟩
    | cons e es =>
      refine PE.imp (pe_mthG (E := WE W) (ia.v g h7) hr (fun σ => passAt g.tk σ) (ir.s g h6 h8) h3 h4 h5 h6) ?_
      rintro σ H Q ⟨Z, env, M, mu, F, hr, er, p⟩
      simp only [ev] at p
      refine ⟨Z, env, M, mu, F, hr, er, p.bind.imp fun d M1 H1 mu1 F1 g1 hr1 p1 v rv => ?_⟩
      cases q : asI M1 d with
      | none => rw [q] at p1; exact p1.elim
      | some cf =>
        obtain ⟨c, fs⟩ := cf
        rw [q] at p1
        simp only at p1
        by_cases hnf : noF G m fs = true
        case neg => rw [if_neg hnf] at p1; exact p1.elim
        rw [if_pos hnf] at p1
        cases q2 : G.mth c m with
        | none => rw [q2] at p1; exact p1.elim
        | some fi =>
          rw [q2] at p1
          obtain ⟨hc, ad, dx, fv, rfl, q4, q5⟩ := rv.insI hr1 q
          obtain ⟨y, fa, fd, ps, e1, e2, e3, e4⟩ := g.glb.mth c m fi hc q2
          rw [h1] at e1; cases e1
          obtain ⟨_, c1, _⟩ := g.glb.cls c hc
          exact ⟨ad, T.cad X.K c, dx, fv, fa, fd, ps, _, rfl, q4, nof_of g.glb h1 hnf q5, c1, e2, e3, e4, ⟨Z, env, M1, mu1, F1, hr1, er.mono g1, p1.bind.imp fun ds M2 H2 mu2 F2 g2 hr2 p2 vs rvs => ⟨T.bor, Z, _, M2, mu2, F2, hr2, .cons (rv.mono g2) rvs, p2⟩⟩⟩
  · cases e <;> first | rfl | exact absurd z Bool.false_ne_true
theorem snd_mks {c : Nat} {args : E} (ia : Snd T G k args) : Snd T G k (.mks c args) := by
  refine Snd.val (fun {X W e} g h => ?_) (fun {N sc e} z => ?_) (by intros; rfl) (by intros; rfl) (by intros; rfl) (by intros; rfl) (by intros; rfl)
  · cases e <;> first | (exact absurd h Bool.false_ne_true) | skip
    rename_i fn es kws p
    cases fn <;> first | (exact absurd h Bool.false_ne_true) | skip
    rename_i x px
    cases kws with
    | cons _ _ => exact absurd h Bool.false_ne_true
    | nil =>
    simp only [mE, Bool.and_eq_true, decide_eq_true_eq] at h
    obtain ⟨⟨⟨⟨⟨h0, h1⟩, h2⟩, h3⟩, h4⟩, h5⟩ := h
    cases q : G.ini c with
    | none => have z := g.glb.inil c h0; rw [q] at z; cases z
    | some fi =>
    have hx : T.cls.getD c "" = x := by rw [List.getD_eq_getElem?_getD, h1] <;> rfl
    have e0 : T.okC c := ⟨(List.getElem?_eq_some_iff.mp h1).1, by rw [hx]; exact (nm_of h3).e⟩
    obtain ⟨fa, fd, ps, e1, e3, e4⟩ := g.glb.ini c fi e0 q
    obtain ⟨c0, c1, c2⟩ := g.glb.cls c e0
    rw [hx] at c0
    cases es with
    | nil =>
      refine PE.imp (pe_makeG0 (E := WE W) e1 e4 g.room (gl_of h2) c0 e3 (fun σ => passAt g.tk σ) (nm_of h3).d) ?_
      rintro σ H Q ⟨Z, env, M, mu, F, hr, er, p⟩
      cases args <;> first | (exact absurd h5 Bool.false_ne_true) | skip
      simp only [ev, evs, bind_ok, q] at p
      exact mk_of e0 hr .nil p
    | cons e es =>
      refine PE.imp (pe_makeG (E := WE W) e1 e4 g.room (gl_of h2) c0 e3 (fun σ => passAt g.tk σ) (ia.s g h4 h5) (nm_of h3).d h4) ?_
      rintro σ H Q ⟨Z, env, M, mu, F, hr, er, p⟩
      simp only [ev, q] at p
      exact ⟨Z, env, M, mu, F, hr, er, p.bind.imp fun ds M1 H1 mu1 F1 g1 hr1 p1 vs rvs => mk_of e0 hr1 rvs p1⟩
  · cases e <;> first | rfl | exact absurd z Bool.false_ne_true
theorem frz_agr {M : Store} {r : Res D} : Agr M r (frzR M r) := by
  cases r with
  | bad => trivial
  | exc c fs M' => exact .inl rfl
  | ok d M' =>
    unfold frzR
    simp only
    split
    · rename_i h
      exact .inr ⟨d, M', _, rfl, h.1, h.2.choose_spec⟩
    · trivial
theorem snd_fzo {a : E} (ia : Snd T G k a) : Snd T G k (.fzo a) := by
  refine Snd.val (fun {X W e} g h => ?_) (fun {N sc e} z => ?_) (by intros; rfl) (by intros; rfl) (by intros; rfl) (by intros; rfl) (by intros; rfl)
  · cases e <;> first | (exact absurd h Bool.false_ne_true) | skip
    refine PE.imp (ia.v g h) ?_
    rintro σ H Q ⟨Z, env, M, mu, F, hr, er, p⟩
    exact ⟨Z, env, M, mu, F, hr, er, frz_agr.pg hr p⟩
  · cases e <;> first | rfl | exact absurd z Bool.false_ne_true
theorem it_rngd {K : PySem.W.Frag} {F : Hp} {mu : List Addr} {hi : Int} {n : Nat} : ItR T K (rngdI hi n) (Itc hi (-1) n) mu F := by
  intro i Z H' M' mu' F' g hr
  by_cases h : i < n
  · simp only [rngdI, if_pos h]
    refine ⟨h, fun u H'' y => ?_⟩
    obtain ⟨e1, y⟩ := y
    subst e1 y
    refine ⟨F', Gr.refl, hr, ?_⟩
    have e : hi + (i : Nat) * (-1) = hi - (i : Nat) := by omega
    rw [e]
    exact Rp.int _
  · simp only [rngdI, if_neg h]
    exact Nat.le_of_not_lt h
theorem snd_rngd {a b : E} (ia : Snd T G k a) (ib : Snd T G k b) : Snd T G k (.rngd a b) := by
  refine ⟨fun _ h => (by cases h), fun _ _ h => (by cases h), fun _ h => (by cases h), fun _ h => (by cases h), fun _ _ h => (by cases h), fun _ h => (by cases h), fun _ h => (by cases h), fun {X W tg e} g h => ?_⟩
  cases e <;> first | (exact absurd h Bool.false_ne_true) | skip
  rename_i fn es kws p
  cases fn <;> first | (exact absurd h Bool.false_ne_true) | skip
  rename_i x px
  match es, kws, h with
  | [e, f, .UnaryOp .USub (.Constant (.int 1) ck cp) cu], [], h =>
  simp only [mI, Bool.and_eq_true, decide_eq_true_eq] at h
  obtain ⟨⟨⟨⟨⟨rfl, h2⟩, h3⟩, h4⟩, h5⟩, h6⟩ := h
  refine PI.imp (pi_range3 (gl_of h2) (g.glb.blt _ (by decide)) (pa_cons (ia.v g h5) (pa_cons (ib.v g h6) (pa_cons ((snd_neg (snd_int (T := T) (G := G) (k := k) (i := 1))).v g (by simp [mE])) pa_nil rfl) (star_cons h4)) (star_cons h3)) (star_cons h3) (by rw [star_cons h4] <;> rfl)) ?_
  rintro σ H R ⟨Z, env, M, mu, F, hr, er, p⟩
  simp only [evI] at p
  refine ⟨Z, env, M, mu, F, hr, er, p.bind.imp fun d M1 H1 mu1 F1 g1 hr1 p1 v rv => ⟨Z, env, M1, mu1, F1, hr1, er.mono g1, p1.bind.imp fun d2 M2 H2 mu2 F2 g2 hr2 p2 w rw => ⟨Z, env, M2, mu2, F2, hr2, (er.mono g1).mono g2, ?_⟩⟩⟩
  cases rv with
  | int n => cases rw with
    | int m =>
      simp only at p2
      by_cases hl : small n ∧ small m
      · rw [if_pos hl] at p2
        intro H3 mu3 F3 g3 hr3 u ru
        cases ru
        exact ⟨n, m, -1, _, rfl, RgC.neg hl.1.1 hl.1.2 hl.2.1 hl.2.2, p2 _ _ _ g3 hr3 _ it_rngd⟩
      · rw [if_neg hl] at p2; exact p2.elim
    | _ => exact p2.elim
  | _ => exact p2.elim
end
end Lp

namespace Lp
open PySem PySem.Spec L2
section
variable {T : Tb} {G : Gm} {k : Nat}
def gNs : List Nat → TGs
  | [] => gNil
  | i :: is => gCons (gName i) (gNs is)
def gD (K : PySem.W.Frag) : List Nat → TG
  | [i] => gName i
  | is => gTup K is.length (gNs is)
theorem names_ok {X : Cx} {sc : Scope} (nd : X.N.Nodup) (hl : ∀ x, Loc sc x → Loc X.env.scope x ∧ (X.fn x = true ∨ X.env.scope.names.lookup x = some .local)) :
    ∀ {is : List Nat} {es : List Expr}, mNames X.N sc is es = true → PGs X es (gNs is) ∧ (assignEach es X.env).length = is.length ∧ (assignEach es X.env).findIdx? (·.1) = none
  | [], [], _ => ⟨pgs_nil, rfl, rfl⟩
  | [], _ :: _, h => by cases h
  | _ :: _, [], h => by cases h
  | i :: is, .Name x p :: es, h => by
    simp only [mNames, Bool.and_eq_true, decide_eq_true_eq] at h
    obtain ⟨⟨h1, h2⟩, h3⟩ := h
    obtain ⟨i1, i2, i3⟩ := names_ok nd hl h3
    obtain ⟨l1, l2⟩ := hl x (loc_of h2)
    have hf : X.fn x = true ∨ X.env.scope.names.lookup x = some .local := l2
    refine ⟨pgs_cons (pg_name nd h1 l1 hf) i1 rfl, ?_, ?_⟩
    · show (assignEach es X.env).length + 1 = is.length + 1
      rw [i2]
    · show List.findIdx? (·.1) ((false, assign (.Name x p) X.env) :: assignEach es X.env) = none
      rw [List.findIdx?_cons, i3]
      rfl
theorem tg_ok {X : Cx} {sc : Scope} (nd : X.N.Nodup) (hc : X.calm = true) (hl : ∀ x, Loc sc x → Loc X.env.scope x ∧ (X.fn x = true ∨ X.env.scope.names.lookup x = some .local)) {is : List Nat} {tg : Expr} (h : mG X.N sc is tg = true) : L2.PG X tg (gD X.K is) := by
  match is, h with
  | [], h => cases tg <;> cases h
  | [i], h =>
    match tg, h with
    | .Name x p, h =>
    simp only [mG, Bool.and_eq_true, decide_eq_true_eq] at h
    obtain ⟨l1, l2⟩ := hl x (loc_of h.2)
    have hf : X.fn x = true ∨ X.env.scope.names.lookup x = some .local := l2
    exact pg_name nd h.1 l1 hf
  | i :: j :: is, h =>
    cases tg <;> first | (exact absurd h Bool.false_ne_true) | skip
    obtain ⟨i1, i2, i3⟩ := names_ok nd hl h
    exact pg_tup hc i1 i2 i3
theorem wipe_get (σ : L2.St) (j : Nat) : ∀ js : List Nat, (wipe σ js)[j]? = if j ∈ js ∧ j < σ.length then some none else σ[j]?
  | [] => by simp [wipe]
  | v :: vs => by
    have ih := wipe_get σ j vs
    unfold wipe
    by_cases hv : v = j
    · subst hv
      rw [List.getElem?_set]
      simp only [wipe_length, if_true, List.mem_cons, true_or, true_and]
      by_cases hl : v < σ.length
      · simp [hl]
      · simp [hl, List.getElem?_eq_none (Nat.le_of_not_lt hl)]
    · rw [List.getElem?_set_ne hv, ih]
      have : (j ∈ v :: vs) ↔ j ∈ vs := by
        rw [List.mem_cons]
        exact ⟨fun h => h.elim (fun e => absurd e.symm hv) id, .inr⟩
      simp only [this]
theorem wipe_set {σ : L2.St} {i : Nat} {v : V} {js : List Nat} (h : i ∈ js) : wipe (σ.set i (some v)) js = wipe σ js := by
  apply List.ext_getElem?
  intro j
  rw [wipe_get, wipe_get, List.length_set]
  by_cases hj : i = j
  · subst hj
    by_cases hl : i < σ.length
    · simp [h, hl]
    · rw [if_neg (fun z => hl z.2), if_neg (fun z => hl z.2), List.getElem?_set]
      simp [hl, List.getElem?_eq_none (Nat.le_of_not_lt hl)]
  · rw [List.getElem?_set_ne hj]
theorem wipe_wipe {σ : L2.St} {js : List Nat} : wipe (wipe σ js) js = wipe σ js := by
  apply List.ext_getElem?
  intro j
  rw [wipe_get, wipe_get, wipe_length]
  by_cases hj : j ∈ js ∧ j < σ.length
  · rw [if_pos hj, if_pos hj]
  · rw [if_neg hj, if_neg hj]
theorem gNs_ok {K : PySem.W.Frag} {F : Hp} {mu : List Addr} {H : Hp} {Q : L2.St → Hp → Prop} : ∀ {is : List Nat} {vs : List V} {ds : List D} {σ : L2.St} {env env' : Ev}, Rps T K F mu vs ds → EnvR T K F mu σ env → bindT env is ds = some env' → (∀ σ', EnvR T K F mu σ' env' → (∀ js, (∀ j ∈ is, j ∈ js) → wipe σ' js = wipe σ js) → Q σ' H) → gNs is vs σ H Q
  | [], _, _, σ, env, env', .nil, er, h, q => by cases h; exact ⟨rfl, q σ er fun _ _ => rfl⟩
  | [], _, _, _, _, _, .cons _ _, _, h, _ => by cases h
  | _ :: _, _, _, _, _, _, .nil, _, h, _ => by cases h
  | i :: is, v :: vs, d :: ds, σ, env, env', .cons r t, er, h, q => by
    have h : bindT (setE env i d) is ds = some env' := h
    refine ⟨v, vs, rfl, ?_⟩
    refine gNs_ok t (er.set r) h fun σ' e1 e2 => q σ' e1 fun js hj => ?_
    rw [e2 js fun j hm => hj j (List.mem_cons_of_mem _ hm)]
    exact wipe_set (hj i List.mem_cons_self)
theorem bindT_len : ∀ {is : List Nat} {ds : List D} {env env' : Ev}, bindT env is ds = some env' → ds.length = is.length
  | [], [], _, _, _ => rfl
  | [], _ :: _, _, _, h => by cases h
  | _ :: _, [], _, _, h => by cases h
  | i :: is, d :: ds, env, env', h => congrArg (· + 1) (bindT_len (env := setE env i d) h)
theorem gT_ok {K : PySem.W.Frag} {Z F : Hp} {mu : List Addr} {M : Store} {H : Hp} {Q : L2.St → Hp → Prop} {is : List Nat} {v : V} {ds : List D} {σ : L2.St} {env env' : Ev} (hr : HR T K Z H M mu F) (r : Rp T K F mu v (.tup ds)) (er : EnvR T K F mu σ env) (h : bindT env is ds = some env')
    (q : ∀ σ', EnvR T K F mu σ' env' → wipe σ' is = wipe σ is → Q σ' H) : gTup K is.length (gNs is) v σ H Q := by
  cases r with
  | tup e t => exact ⟨_, _, rfl, SqT.of (hr.sub _ _ e), by rw [t.len]; exact bindT_len h, gNs_ok t er h fun σ' e1 e2 => q σ' e1 (e2 _ fun _ hj => hj)⟩
theorem gD_ok {K : PySem.W.Frag} {Z F : Hp} {mu : List Addr} {M : Store} {H : Hp} {Q : L2.St → Hp → Prop} {is : List Nat} {v : V} {d : D} {σ : L2.St} {env env' : Ev} (hr : HR T K Z H M mu F) (r : Rp T K F mu v d) (er : EnvR T K F mu σ env) (h : bindG env is d = some env')
    (q : ∀ σ', EnvR T K F mu σ' env' → wipe σ' is = wipe σ is → Q σ' H) : gD K is v σ H Q := by
  match is, h, q with
  | [], h, q => cases d <;> first | exact gT_ok hr r er h q | cases h
  | [i], h, q =>
    cases h
    exact q _ (er.set r) (wipe_set (by simp))
  | i :: j :: is, h, q => cases d <;> first | exact gT_ok hr r er h q | cases h

theorem HR.less {K : PySem.W.Frag} {Z Z' H F : Hp} {M : Store} {mu : List Addr} (h : HR T K Z H M mu F) (q : ∀ a o, Z' a = some o → Z a = some o) : HR T K Z' H M mu F := ⟨h.sub, h.len, h.nd, h.out, h.obj, fun a o e => h.zs a o (q a o e), h.bor⟩
theorem HR.put0 {K : PySem.W.Frag} {Z H F : Hp} {M : Store} {mu : List Addr} {a : Addr} {o : HO} (h : HR T K Z H M mu F) (e : H a = none) : HR T K (upd Z a o) (upd H a o) M mu F := by
  have h2 := h.aside (o := o) e
  obtain ⟨e1, e2⟩ := h.newF e
  refine ⟨h2.sub, h2.len, h2.nd, h2.out, h2.obj, fun b u q => ?_, h.bor⟩
  by_cases hb : b = a
  · subst hb
    rw [upd_same] at q ⊢
    exact ⟨q, e1, e2⟩
  · rw [upd_ne hb] at q
    exact h2.zs b u q
theorem HR.put1 {K : PySem.W.Frag} {Z H F : Hp} {M : Store} {mu : List Addr} {a : Addr} {o o' : HO} (h : HR T K (upd Z a o) H M mu F) : HR T K (upd Z a o') (upd H a o') M mu F := by
  obtain ⟨z1, z2, z3⟩ := h.zs a o upd_same
  refine ⟨fun b u q => ?_, h.len, h.nd, h.out, fun l b u q1 q2 => ?_, fun b u q => ?_, h.bor⟩
  · rw [upd_ne (fun z => by rw [z, z2] at q; cases q)]; exact h.sub b u q
  · exact (h.obj l b u q1 q2).heap (upd_ne (fun z => z3 (by rw [← z]; exact List.mem_of_getElem? q1)))
  · by_cases hb : b = a
    · subst hb
      rw [upd_same] at q ⊢
      exact ⟨q, z2, z3⟩
    · rw [upd_ne hb] at q ⊢
      exact h.zs b u (by rw [upd_ne hb]; exact q)
theorem HR.cut0 {K : PySem.W.Frag} {Z H F : Hp} {M : Store} {mu : List Addr} {a : Addr} {o : HO} (hz : Z a = none) (h : HR T K (upd Z a o) H M mu F) : ∃ H0, H0 a = none ∧ HR T K Z H0 M mu F ∧ H = upd H0 a o := by
  obtain ⟨z1, z2, z3⟩ := h.zs a o upd_same
  generalize hg : (fun b => if b = a then none else H b : Hp) = H0
  have hn : ∀ b, b ≠ a → H0 b = H b := fun b hb => by rw [← hg]; simp [hb]
  refine ⟨H0, by rw [← hg]; simp, ⟨fun b u q => ?_, h.len, h.nd, h.out, fun l b u q1 q2 => ?_, fun b u q => ?_, h.bor⟩, ?_⟩
  · rw [hn b (fun z => by rw [z, z2] at q; cases q)]; exact h.sub b u q
  · exact (h.obj l b u q1 q2).heap (hn b (fun z => z3 (by rw [← z]; exact List.mem_of_getElem? q1)))
  · have hb : b ≠ a := fun z => by rw [z, hz] at q; cases q
    rw [hn b hb]
    exact h.zs b u (by rw [upd_ne hb]; exact q)
  · funext b
    by_cases hb : b = a
    · subst hb; rw [upd_same, z1]
    · rw [upd_ne hb, hn b hb]
theorem HR.zn {K : PySem.W.Frag} {Z H F : Hp} {M : Store} {mu : List Addr} {a : Addr} (h : HR T K Z H M mu F) (e : H a = none) : Z a = none := by
  cases q : Z a with
  | none => rfl
  | some o => rw [(h.zs a o q).1] at e; cases e
def WN : WX := fun _ _ _ _ => False
def tC (T : Tb) (K : PySem.W.Frag) (f : Ev → Store → Res Bool) : TT := tTt T K WN f
theorem lc_run {K : PySem.W.Frag} {W : WX} {it : E} {tg : List Nat} {tt : TT} {c : Ev → Store → Res Bool} {e : Ev → Store → Res D} {σ : L2.St} {H : Hp} {Q : VK}
    (htt : ∀ σ H Q, tC T K c σ H Q → tt σ H Q)
    (h : tLl T K W (fun env M => (evI G it env M).bind fun J M => lcGo J tg (wipeE env tg) c e J.n 0 [] M) σ H Q) : tLc (tIi T K W (evI G it)) (gD K tg) tt (tD T K WN e) tg σ H Q := by
  obtain ⟨Z, env, M, mu, F, hr, er, p⟩ := h
  refine ⟨Z, env, M, mu, F, hr, er, p.bind.imp fun J M1 H1 mu1 F1 g1 hr1 p1 I hI D hD => ?_⟩
  have hz : Z D = none := hr1.zn hD
  have er1 : EnvR T K F1 mu1 (wipe σ tg) (wipeE env tg) := (er.mono g1).wipe tg
  refine ⟨fun i m H => ∃ M mu F acc va, HR T K (upd Z D (.lst va)) H M mu F ∧ Gr F1 mu1 F mu ∧ Rps T K F mu va acc ∧ PG T K Z (fun c d H' => W c d σ H') F mu (lcGo J tg (wipeE env tg) c e m i acc M) (QL T K Q),
    ⟨J.n, M1, mu1, F1, [], [], hr1.put0 hD, Gr.refl, .nil, p1⟩, ?_⟩
  rintro i m H2 ⟨M2, mu2, F2, acc, va, hr2, g2, ra, p2⟩
  have hI2 := hI i _ H2 M2 mu2 F2 g2 hr2
  unfold lcGo at p2
  cases e1 : J.nx i M2 with
  | none => rw [e1] at p2; exact p2.elim
  | some o =>
    rw [e1] at p2 hI2
    cases o with
    | none =>
      refine .inl ⟨hI2, ?_⟩
      obtain ⟨H0, h1, h2, h3⟩ := hr2.cut0 hz
      rw [h3]
      exact p2.here h2 va D ra h1
    | some x =>
      cases m with
      | zero => exact p2.elim
      | succ m =>
        simp only at p2 hI2
        refine .inr ⟨hI2.1, _, fun H' nx => ⟨m, Nat.lt_succ_self _, nx⟩, fun v H3 y => ?_⟩
        obtain ⟨F3, g3, hr3, rv⟩ := hI2.2 v H3 y
        cases e2 : bindG (wipeE env tg) tg x with
        | none => rw [e2] at p2; exact p2.elim
        | some env' =>
          rw [e2] at p2
          simp only at p2
          refine gD_ok hr3 rv (er1.mono (g2.trans g3)) e2 fun σ' er4 hw => ⟨by rw [hw]; exact wipe_wipe, htt _ _ _ ?_⟩
          cases e3 : c env' M2 with
          | bad => rw [e3] at p2; exact p2.elim
          | exc _ _ _ => rw [e3] at p2; exact p2.elim
          | ok b M4 =>
            rw [e3] at p2
            refine ⟨_, env', M2, mu2, F3, hr3, er4, ?_⟩
            rw [e3]
            intro H4 mu4 F4 g4 hr4
            cases b with
            | false =>
              simp only [QB, Bool.false_eq_true, if_false]
              exact ⟨M4, mu4, F4, acc, va, hr4, (g2.trans g3).trans g4, (ra.mono g3).mono g4, p2.mono (g3.trans g4)⟩
            | true =>
              simp only [QB, if_true]
              simp only at p2
              cases e5 : e env' M4 with
              | bad => rw [e5] at p2; exact p2.elim
              | exc _ _ _ => rw [e5] at p2; exact p2.elim
              | ok z M5 =>
                rw [e5] at p2
                simp only at p2
                refine ⟨_, env', M4, mu4, F4, hr4, er4.mono g4, ?_⟩
                rw [e5]
                intro H5 mu5 F5 g5 hr5 u ru
                by_cases hl : acc.length < sizeLine
                · rw [if_pos hl] at p2
                  have gg := (g3.trans g4).trans g5
                  refine ⟨va, (hr5.zs D _ upd_same).1, by rw [ra.len]; exact hl, M5, mu5, F5, acc ++ [z], va ++ [u], hr5.put1, g2.trans gg, (ra.mono gg).app (.cons ru .nil), p2.mono gg⟩
                · rw [if_neg hl] at p2; exact p2.elim
theorem Good.blk {X : Cx} {W : WX} {s : Shared} {H : Hp} {scope : Scope} {ce : Env} {fp : List Addr} (g : Good T G k X W) : Good T G k (X.blk s H scope ce fp) WN := ⟨g.nd, g.calm, g.room, g.glb, takes0⟩
theorem lc_parts {X : Cx} {W : WX} {tg : List Nat} {it c e : E} {elt target iter : Expr} {ifs : List Expr} {scope : Scope} {p : Pos} (ii : Snd T G k it) (ic : Snd T G k c) (ie : Snd T G k e) (g : Good T G k X W)
    (h : mL T X.N X.env.scope (.lc tg it c e) (.ListComp elt [⟨target, iter, ifs, 0⟩] scope p) = true) {P : Prop} (q : ∀ (tt : TT) (own : List (Str × Nat)), PI X target iter (tIi T X.K W (evI G it)) → BlkOk X.N X.env.scope scope own →
      (∀ (s : Shared) (H : Hp) (C : Addr) (cl : List (Str × Addr)) (fp : List Addr), L2.PG (X.blk s H scope (compEnvC scope cl C X.env) fp) target (gD X.K tg)) →
      (∀ (s : Shared) (H : Hp) (C : Addr) (cl : List (Str × Addr)) (fp : List Addr), PTs (X.blk s H scope (compEnvC scope cl C X.env) fp) ifs tt) →
      (∀ (s : Shared) (H : Hp) (C : Addr) (cl : List (Str × Addr)) (fp : List Addr), PE (X.blk s H scope (compEnvC scope cl C X.env) fp) elt (tD T X.K WN (ev G e))) →
      (∀ x, foldedSetIterable iter X.env x = pure x) → (∀ σ H Q, tLl T X.K W (evL G (.lc tg it c e)) σ H Q → tLc (tIi T X.K W (evI G it)) (gD X.K tg) tt (tD T X.K WN (ev G e)) (own.map (·.2)) σ H Q) → P) : P := by
  simp only [mL, Bool.and_eq_true] at h
  obtain ⟨⟨⟨⟨⟨h1, h2⟩, h3⟩, h4⟩, h5⟩, h6⟩ := h
  have hown : (tg.map fun i => (X.N.getD i "", i)).map (·.2) = tg := by
    rw [List.map_map]
    exact (List.map_congr_left fun _ _ => rfl).trans (List.map_id _)
  have hrel : ∀ x, Loc scope x → Loc (relS scope X.env.scope) x ∧ ((scope.names.lookup x == some .cell) = true ∨ (relS scope X.env.scope).names.lookup x = some .local) := fun x hx => by
    have key : ∀ (l : List (Str × NameKind)) (k : NameKind), (k = .local ∨ k = .cell) → l.lookup x = some k → (l.map fun (n, k) => if (k == .free && X.env.scope.kind == .function && X.env.scope.names.lookup n == some .cell) then (n, NameKind.cell) else (n, k)).lookup x = some k := fun l k hk => by
      induction l with
      | nil => intro h; cases h
      | cons q r ih =>
        obtain ⟨n, k'⟩ := q
        intro h
        rw [List.lookup_cons] at h
        rw [List.map_cons]
        cases hb : x == n with
        | true =>
          rw [hb] at h
          cases h
          have e : (k == NameKind.free) = false := by rcases hk with rfl | rfl <;> rfl
          simp only [e, Bool.false_and, Bool.false_eq_true, if_false, List.lookup_cons, hb]
        | false =>
          rw [hb] at h
          show List.lookup x ((if (k' == .free && X.env.scope.kind == .function && X.env.scope.names.lookup n == some .cell) = true then (n, NameKind.cell) else (n, k')) :: List.map _ r) = some k
          by_cases hq : (k' == .free && X.env.scope.kind == .function && X.env.scope.names.lookup n == some .cell) = true
          · rw [if_pos hq, List.lookup_cons, hb]; exact ih h
          · rw [if_neg hq, List.lookup_cons, hb]; exact ih h
    rcases hx with hx | hx
    · have := key _ _ (.inl rfl) hx
      exact ⟨.inl this, .inr this⟩
    · have := key _ _ (.inr rfl) hx
      exact ⟨.inr this, .inl (by rw [hx]; rfl)⟩
  have hg : ∀ (s : Shared) (H : Hp) (C : Addr) (cl : List (Str × Addr)) (fp : List Addr), L2.PG (X.blk s H scope (compEnvC scope cl C X.env) fp) target (gD X.K tg) := fun s H C cl fp => tg_ok (X := X.blk s H scope (compEnvC scope cl C X.env) fp) (sc := scope) g.nd g.calm hrel h2
  have he : ∀ (s : Shared) (H : Hp) (C : Addr) (cl : List (Str × Addr)) (fp : List Addr), PE (X.blk s H scope (compEnvC scope cl C X.env) fp) elt (tD T X.K WN (ev G e)) := fun s H C cl fp => ie.v (X := X.blk s H scope (compEnvC scope cl C X.env) fp) (g.blk) h6
  have fin : ∀ (tt : TT), (∀ σ H Q, tC T X.K (evT G c) σ H Q → tt σ H Q) → (∀ (s : Shared) (H : Hp) (C : Addr) (cl : List (Str × Addr)) (fp : List Addr), PTs (X.blk s H scope (compEnvC scope cl C X.env) fp) ifs tt) → P := fun tt q1 q2 => by
    refine q tt _ (ii.i g h3) (blkOk_by h1) hg q2 he (set_of h4) ?_
    intro σ H Q hh
    rw [hown]
    exact lc_run q1 hh
  match ifs, h5, fin with
  | [], h5, fin =>
    match c, h5, fin with
    | .tru (.bl true), _, fin =>
      refine fin tYes (fun σ H Q hh => ?_) (fun s H C cl fp => pts_nil)
      obtain ⟨Z, env, M, mu, F, hr, er, q⟩ := hh
      exact q.here (Q := QB Q) (a := true) hr
  | [t], h5, fin => exact fin _ (fun σ H Q hh => hh) (fun s H C cl fp => pts_one (ic.t (X := X.blk s H scope (compEnvC scope cl C X.env) fp) g.blk h5))
theorem snd_lc {tg : List Nat} {it c e : E} (ii : Snd T G k it) (ic : Snd T G k c) (ie : Snd T G k e) : Snd T G k (.lc tg it c e) := by
  refine ⟨fun _ h => (by cases h), fun _ _ h => (by cases h), fun _ h => (by cases h), fun _ h => (by cases h), fun _ _ h => (by cases h), fun _ h => (by cases h), fun {X W a} g h => ?_, fun _ h => (by cases h)⟩
  match a, h with
  | .ListComp elt [⟨target, iter, ifs, 0⟩] scope p, h =>
    exact lc_parts ii ic ie g h fun tt own q1 q2 q3 q4 q5 q6 q7 => PE.imp (pe_lc g.calm g.nd q1 q2 q3 q4 q5 q6) q7
theorem snd_all : ∀ e : E, Snd T G k e
  | .nil => snd_nil
  | .cons a r => snd_cons (snd_all a) (snd_all r)
  | .absent => snd_absent
  | .var i => snd_var
  | .non => snd_non
  | .bl b => snd_bl
  | .int i => snd_int
  | .str i => snd_str
  | .gco i => snd_gco
  | .bin op a b => snd_bin (snd_all a) (snd_all b)
  | .neg a => snd_neg (snd_all a)
  | .cmp op a b => snd_cmp (snd_all a) (snd_all b)
  | .chn o1 o2 a b c => snd_chn (snd_all a) (snd_all b) (snd_all c)
  | .andv a b => snd_andv (snd_all a) (snd_all b)
  | .orv a b => snd_orv (snd_all a) (snd_all b)
  | .notv a => snd_notv (snd_all a)
  | .ife c a b => snd_ife (snd_all c) (snd_all a) (snd_all b)
  | .tru a => snd_tru (snd_all a)
  | .tand a b => snd_tand (snd_all a) (snd_all b)
  | .tor a b => snd_tor (snd_all a) (snd_all b)
  | .tnot a => snd_tnot (snd_all a)
  | .idx a i => snd_idx (snd_all a) (snd_all i)
  | .slt a lo hi => snd_slt (snd_all a) (snd_all lo) (snd_all hi)
  | .att a f => snd_att (snd_all a)
  | .call f args => snd_call (snd_all args)
  | .mth a m args => snd_mth (snd_all a) (snd_all args)
  | .mk c args => snd_mk (snd_all args)
  | .blt b args => snd_blt (snd_all args)
  | .isi a t => snd_isi (snd_all a)
  | .app a b => snd_app (snd_all a) (snd_all b)
  | .idn a b => snd_idn (snd_all a) (snd_all b)
  | .popz a => snd_popz (snd_all a)
  | .dem => snd_dem
  | .fzo a => snd_fzo (snd_all a)
  | .cals f args => snd_cals (snd_all args)
  | .mths a m args => snd_mths (snd_all a) (snd_all args)
  | .mks c args => snd_mks (snd_all args)
  | .sml a => snd_sml (snd_all a)
  | .rngd a b => snd_rngd (snd_all a) (snd_all b)
  | .tup es => snd_tup (snd_all es)
  | .fz p => snd_fz (snd_all p)
  | .fr p => snd_fr (snd_all p)
  | .mu p => snd_mu (snd_all p)
  | .dsp es => snd_dsp (snd_all es)
  | .lc tg it c e => snd_lc (snd_all it) (snd_all c) (snd_all e)
  | .cat a b => snd_cat (snd_all a) (snd_all b)
  | .rep a b => snd_rep (snd_all a) (snd_all b)
  | .slp a lo hi => snd_slp (snd_all a) (snd_all lo) (snd_all hi)
  | .lof a => snd_lof (snd_all a)
  | .rng1 a => snd_rng1 (snd_all a)
  | .rng2 a b => snd_rng2 (snd_all a) (snd_all b)
  | .enu a => snd_enu (snd_all a)
  | .zip2 a b => snd_zip2 (snd_all a) (snd_all b)
  | .itm a => snd_itm (snd_all a)
end
end Lp

namespace Lp
open PySem PySem.Spec L2
section
variable (T : Tb) (N : List Str)
def notSD : Expr → Bool | .SetComp .. => false | .DictComp .. => false | _ => true
def swB (sc : Scope) (e : Expr) (x : Str) (p : Pos) : Bool := match e with
  | .ListComp _ _ s pos => (some NameKind.local == sc.names.lookup x) && (p.line == pos.line) && !(s.names.any fun (n, k) => n == x && (k == .local || k == .cell))
  | _ => false
def isLc : Expr → Bool | .ListComp .. => true | _ => false
def isLcE : E → Bool | .fz (.lc ..) => true | .fr (.lc ..) => true | .mu (.lc ..) => true | _ => false
mutual
def mS (sc : Scope) : S → Stmt → Bool
  | .pass => fun st => match st with
    | .Pass _ => true
    | .Expr (.Constant (.str _) _ _) _ => true
    | _ => false
  | .set i e => fun st => match st with
    | .Assign [.Name x p] v _ => decide (N[i]? = some x) && isLocB sc x && notSD v && (if swB sc v x p then isLcE e else true) && mE T N sc e v
    | _ => false
  | .setT is e => fun st => match st with
    | .Assign [.Tuple es k p] v _ => !isTup v && notSD v && mG N sc is (.Tuple es k p) && decide (2 ≤ is.length) && mE T N sc e v
    | _ => false
  | .setA o f e => fun st => match st with
    | .Assign [.Attribute b x _] v _ => decide (T.fls[f]? = some x) && notSD v && mE T N sc e v && mE T N sc o b
    | _ => false
  | .setI o i e => fun st => match st with
    | .Assign [.Subscript b j _] v _ => noSlice j && notSD v && mE T N sc e v && mE T N sc o b && mE T N sc i j
    | _ => false
  | .aug i op e => fun st => match st with
    | .AugAssign (.Name x _) op' v _ => decide (op = op') && decide (N[i]? = some x) && isLocB sc x && mE T N sc e v
    | _ => false
  | .augA o f op e => fun st => match st with
    | .AugAssign (.Attribute b x _) op' v _ => decide (op = op') && decide (T.fls[f]? = some x) && mE T N sc o b && mE T N sc e v
    | _ => false
  | .augI o i op e => fun st => match st with
    | .AugAssign (.Subscript b j _) op' v _ => decide (op = op') && noSlice j && mE T N sc o b && mE T N sc i j && mE T N sc e v
    | _ => false
  | .ex e => fun st => match st with
    | .Expr v _ => notSD v && !isLc v && mE T N sc e v
    | _ => false
  | .ret e => fun st => match st with
    | .Return (some v) _ => mE T N sc e v
    | _ => false
  | .retN => fun st => match st with
    | .Return none _ => true
    | _ => false
  | .brk => fun st => match st with
    | .Break _ => true
    | _ => false
  | .never => fun _ => true
  | .ife c s t => fun st => match st with
    | .If v a b _ => mT T N sc c v && mSs sc s a && mSs sc t b
    | _ => false
  | .for_ tg it b => fun st => match st with
    | .For v i a [] _ => mG N sc tg v && noSet i && mI T N sc it v i && mSs sc b a
    | _ => false
  | .whil _ c b => fun st => match st with
    | .While v a [] _ => mT T N sc c v && mSs sc b a
    | _ => false
  | .nil => fun _ => false
  | .seq _ _ => fun _ => false
def mSs (sc : Scope) : S → List Stmt → Bool
  | .nil => fun sts => match sts with
    | [] => true
    | _ => false
  | .seq s r => fun sts => match sts with
    | st :: sts => mS sc s st && mSs sc r sts
    | _ => false
  | .never => fun _ => true
  | _ => fun _ => false
end
end
section
variable (T : Tb) (K : PySem.W.Frag) (E : XK)
def QO (T : Tb) (K : PySem.W.Frag) (D : Ends) : Out → Store → Hp → List Addr → Hp → Prop := fun o _ H' mu' F' => match o with
  | .nx env => ∀ σ', EnvR T K F' mu' σ' env → D.nx σ' H'
  | .brk env => ∀ σ', EnvR T K F' mu' σ' env → D.bk σ' H'
  | .ret d => ∀ v, Rp T K F' mu' v d → D.rt v H'
def tS (f : Ev → Store → Res Out) : TS := fun D σ H => ∃ Z env M mu F, HR T K Z H M mu F ∧ EnvR T K F mu σ env ∧ PG T K Z E F mu (f env M) (QO T K D)
end
def WS (E : XK) : WX := fun c d _ H => E c d H
structure GoodS (T : Tb) (G : Gm) (k : Nat) (X : Cx) (E : XK) : Prop where
  g : Good T G k X (WS E)
  kind : X.env.scope.kind = .function
  fn : ∀ x, Loc X.env.scope x → X.fn x = true ∨ X.env.scope.names.lookup x = some .local
  own : PassesOwn (model X.prog X.w) X.A X.env X.xe
structure SndS (T : Tb) (G : Gm) (k : Nat) (s : S) : Prop where
  t : ∀ {X : Cx} {E : XK} {st : Stmt}, GoodS T G k X E → mS T X.N X.env.scope s st = true → PS X st (tS T X.K E (exec G s))
  l : ∀ {X : Cx} {E : XK} {sts : List Stmt}, GoodS T G k X E → mSs T X.N X.env.scope s sts = true → PSs X sts (tS T X.K E (exec G s))
theorem PS.imp {X : Cx} {e : Stmt} {t t' : TS} (h : PS X e t) (q : ∀ D σ H, t' D σ H → t D σ H) : PS X e t' := ⟨fun pins s σ H D I z => h.run pins s σ H D I (q D σ H z)⟩
theorem PSs.imp {X : Cx} {e : List Stmt} {t t' : TS} (h : PSs X e t) (q : ∀ D σ H, t' D σ H → t D σ H) : PSs X e t' := ⟨fun pins s σ H D I z => h.run pins s σ H D I (q D σ H z)⟩
section
variable {T : Tb} {G : Gm} {k : Nat}
theorem SndS.one {s : S} (l : ∀ {N : List Str} {sc : Scope} {a : List Stmt}, mSs T N sc s a = false) (h : ∀ {X : Cx} {E : XK} {st : Stmt}, GoodS T G k X E → mS T X.N X.env.scope s st = true → PS X st (tS T X.K E (exec G s))) : SndS T G k s :=
  ⟨h, fun _ q => by rw [l] at q; cases q⟩
theorem sw_any {v : Expr} {x : Str} {p : Pos} {l : Nat} {env : Env} (h : notSD v = true) (hk : env.scope.kind = .function) : swapsWith v (some (.Name x p)) l env = pure (swB env.scope v x p) := by
  cases v with
  | SetComp => cases h
  | DictComp => cases h
  | ListComp elt gs s pos =>
    have hb : env.blockKind = .function := by unfold Env.blockKind; rw [hk]; rfl
    have hx : env.kindOf x = env.scope.names.lookup x := rfl
    have hc : (env.scope.names.lookup x == some NameKind.local) = (some NameKind.local == env.scope.names.lookup x) := by
      rw [Bool.eq_iff_iff, beq_iff_eq, beq_iff_eq]
      exact eq_comm
    unfold swapsWith swB
    simp only [hb, hx, hc, Expr.pos]
    rfl
  | _ => rfl
theorem sw_none {v : Expr} {l : Nat} {env : Env} (h : notSD v = true) (h2 : isLc v = false) : swapsWith v none l env = pure false := by
  cases v with
  | SetComp => cases h
  | DictComp => cases h
  | ListComp => cases h2
  | _ => rfl
theorem sw_attr {v b : Expr} {x : Str} {p : Pos} {l : Nat} {env : Env} (h : notSD v = true) : swapsWith v (some (.Attribute b x p)) l env = pure false := by
  cases v with
  | SetComp => cases h
  | DictComp => cases h
  | _ => rfl
theorem sw_sub {v b j : Expr} {p : Pos} {l : Nat} {env : Env} (h : notSD v = true) : swapsWith v (some (.Subscript b j p)) l env = pure false := by
  cases v with
  | SetComp => cases h
  | DictComp => cases h
  | _ => rfl
theorem sw_tup {v : Expr} {es : List Expr} {kt : Nat} {p : Pos} {l : Nat} {env : Env} (h : notSD v = true) : swapsWith v (some (.Tuple es kt p)) l env = pure false := by
  cases v with
  | SetComp => cases h
  | DictComp => cases h
  | _ => rfl
theorem st_tup {v : Expr} {es : List Expr} {kt : Nat} {p : Pos} {env : Env} (h : isTup v = false) : swappedStores [.Tuple es kt p] v env = pure none := by
  cases v with
  | Tuple => cases h
  | _ => rfl
theorem tD_mono {K : PySem.W.Frag} {E : XK} {f : Ev → Store → Res D} {σ : L2.St} {H : Hp} {Q Q' : VK} (h : tD T K (WS E) f σ H Q) (q : ∀ v H, Q v H → Q' v H) : tD T K (WS E) f σ H Q' := by
  obtain ⟨Z, env, M, mu, F, hr, er, p⟩ := h
  exact ⟨Z, env, M, mu, F, hr, er, p.imp fun d M1 H1 mu1 F1 g1 hr1 z v rv => q _ _ (z v rv)⟩
theorem fz_of {K : PySem.W.Frag} {W : WX} {q : E} {σ : L2.St} {H : Hp} {Q : VK} (h : tD T K W (ev G (.fz q)) σ H Q) : tLl T K W (evL G q) σ H Q := by
  obtain ⟨Z, env, M, mu, F, hr, er, p⟩ := h
  simp only [ev] at p
  refine ⟨Z, env, M, mu, F, hr, er, p.bind.imp fun xs M1 H1 mu1 F1 g1 hr1 p1 vs a rvs ha => ?_⟩
  obtain ⟨hr2, g2⟩ := hr1.frz (o := .lst vs) ha
  exact p1 _ _ _ g2 hr2 _ (.nl (hr1.nb ha) upd_same (rvs.mono g2))
theorem fr_of {K : PySem.W.Frag} {W : WX} {q : E} {σ : L2.St} {H : Hp} {Q : VK} (h : tD T K W (ev G (.fr q)) σ H Q) : tLl T K W (evL G q) σ H Q := by
  obtain ⟨Z, env, M, mu, F, hr, er, p⟩ := h
  simp only [ev] at p
  refine ⟨Z, env, M, mu, F, hr, er, p.bind.imp fun xs M1 H1 mu1 F1 g1 hr1 p1 vs a rvs ha => ?_⟩
  obtain ⟨hr2, g2⟩ := hr1.frz (o := .lst vs) ha
  exact p1 _ _ _ g2 hr2 _ (.lst upd_same (rvs.wk.mono g2))
theorem mu_of {K : PySem.W.Frag} {W : WX} {q : E} {σ : L2.St} {H : Hp} {Q : VK} (h : tD T K W (ev G (.mu q)) σ H Q) : tLl T K W (evL G q) σ H Q := by
  obtain ⟨Z, env, M, mu, F, hr, er, p⟩ := h
  simp only [ev] at p
  refine ⟨Z, env, M, mu, F, hr, er, p.bind.imp fun xs M1 H1 mu1 F1 g1 hr1 p1 vs a rvs ha => ?_⟩
  have gg : Gr F1 mu1 F1 (mu1 ++ [a]) := ⟨fun _ _ q => q, fun l b q => by rw [List.getElem?_append_left (List.getElem?_eq_some_iff.mp q).1]; exact q⟩
  obtain ⟨hr2, g2⟩ := hr1.alloc (o := .lst vs) (m := .lst xs) ha ⟨vs, upd_same, rvs.mono gg⟩
  refine p1 _ _ _ g2 hr2 _ (.ref ?_)
  rw [← hr1.len, List.getElem?_append_right (Nat.le_refl _)]
  simp
theorem ss_nil : SndS T G k .nil := by
  refine ⟨fun {X E st} g h => absurd h Bool.false_ne_true, fun {X E sts} g h => ?_⟩
  match sts, h with
  | [], _ =>
    refine PSs.imp pss_nil ?_
    rintro D σ H ⟨Z, env, M, mu, F, hr, er, p⟩
    simp only [exec] at p
    exact p.here hr σ er
theorem ss_never : SndS T G k .never := ⟨fun {X E st} g h => PS.imp ps_never (by rintro D σ H ⟨Z, env, M, mu, F, hr, er, p⟩; exact p), fun {X E sts} g h => PSs.imp pss_never (by rintro D σ H ⟨Z, env, M, mu, F, hr, er, p⟩; exact p)⟩
theorem ss_seq {s r : S} (is : SndS T G k s) (ir : SndS T G k r) : SndS T G k (.seq s r) := by
  refine ⟨fun {X E st} g h => absurd h Bool.false_ne_true, fun {X E sts} g h => ?_⟩
  match sts, h with
  | st :: sts, h =>
    simp only [mSs, Bool.and_eq_true] at h
    refine PSs.imp (pss_cons (is.t g h.1) (ir.l g h.2)) ?_
    rintro D σ H ⟨Z, env, M, mu, F, hr, er, p⟩
    simp only [exec] at p
    refine ⟨Z, env, M, mu, F, hr, er, p.bind.imp fun o M1 H1 mu1 F1 g1 hr1 p1 => ?_⟩
    cases o with
    | nx env' => exact fun σ' er' => ⟨Z, env', M1, mu1, F1, hr1, er', p1⟩
    | ret d => exact fun v rv => p1.here hr1 v rv
    | brk env' => exact fun σ' er' => p1.here hr1 σ' er'
section
variable {N : List Str} {sc : Scope} {P : Prop} {st : Stmt}
theorem el_pass (h : mS T N sc .pass st = true) (a : ∀ p, st = .Pass p → P) (b : ∀ x j p q, st = .Expr (.Constant (.str x) j p) q → P) : P := by
  cases st with
  | Pass p => exact a p rfl
  | Expr e q => cases e with
    | Constant c j p => cases c with
      | str x => exact b x j p q rfl
      | _ => cases h
    | _ => cases h
  | _ => cases h
theorem el_brk (h : mS T N sc .brk st = true) : ∃ p, st = .Break p := by
  cases st with
  | Break p => exact ⟨p, rfl⟩
  | _ => cases h
theorem el_retN (h : mS T N sc .retN st = true) : ∃ p, st = .Return none p := by
  cases st with
  | Return o p => cases o with
    | none => exact ⟨p, rfl⟩
    | some _ => cases h
  | _ => cases h
theorem el_ret {e : E} (h : mS T N sc (.ret e) st = true) : ∃ v p, st = .Return (some v) p ∧ mE T N sc e v = true := by
  cases st with
  | Return o p => cases o with
    | none => cases h
    | some v => exact ⟨v, p, rfl, h⟩
  | _ => cases h
theorem el_ex {e : E} (h : mS T N sc (.ex e) st = true) : ∃ v p, st = .Expr v p ∧ (notSD v && !isLc v && mE T N sc e v) = true := by
  cases st with
  | Expr v p => exact ⟨v, p, rfl, h⟩
  | _ => cases h
theorem el_set {i : Nat} {e : E} (h : mS T N sc (.set i e) st = true) : ∃ x p v q, st = .Assign [.Name x p] v q ∧ (decide (N[i]? = some x) && isLocB sc x && notSD v && (if swB sc v x p then isLcE e else true) && mE T N sc e v) = true := by
  cases st with
  | Assign ts v q => cases ts with
    | nil => cases h
    | cons t r => cases t <;> cases r <;> first | exact ⟨_, _, _, _, rfl, h⟩ | cases h
  | _ => cases h
theorem el_setT {is : List Nat} {e : E} (h : mS T N sc (.setT is e) st = true) : ∃ es k p v q, st = .Assign [.Tuple es k p] v q ∧ (!isTup v && notSD v && mG N sc is (.Tuple es k p) && decide (2 ≤ is.length) && mE T N sc e v) = true := by
  cases st with
  | Assign ts v q => cases ts with
    | nil => cases h
    | cons t r => cases t <;> cases r <;> first | exact ⟨_, _, _, _, _, rfl, h⟩ | cases h
  | _ => cases h
theorem el_setA {o : E} {f : Nat} {e : E} (h : mS T N sc (.setA o f e) st = true) : ∃ b x p v q, st = .Assign [.Attribute b x p] v q ∧ (decide (T.fls[f]? = some x) && notSD v && mE T N sc e v && mE T N sc o b) = true := by
  cases st with
  | Assign ts v q => cases ts with
    | nil => cases h
    | cons t r => cases t <;> cases r <;> first | exact ⟨_, _, _, _, _, rfl, h⟩ | cases h
  | _ => cases h
theorem el_setI {o i e : E} (h : mS T N sc (.setI o i e) st = true) : ∃ b j p v q, st = .Assign [.Subscript b j p] v q ∧ (noSlice j && notSD v && mE T N sc e v && mE T N sc o b && mE T N sc i j) = true := by
  cases st with
  | Assign ts v q => cases ts with
    | nil => cases h
    | cons t r => cases t <;> cases r <;> first | exact ⟨_, _, _, _, _, rfl, h⟩ | cases h
  | _ => cases h
theorem el_aug {i : Nat} {op : Operator} {e : E} (h : mS T N sc (.aug i op e) st = true) : ∃ x p op' v q, st = .AugAssign (.Name x p) op' v q ∧ (decide (op = op') && decide (N[i]? = some x) && isLocB sc x && mE T N sc e v) = true := by
  cases st with
  | AugAssign t op' v q => cases t <;> first | exact ⟨_, _, _, _, _, rfl, h⟩ | cases h
  | _ => cases h
theorem el_augA {o : E} {f : Nat} {op : Operator} {e : E} (h : mS T N sc (.augA o f op e) st = true) : ∃ b x p op' v q, st = .AugAssign (.Attribute b x p) op' v q ∧ (decide (op = op') && decide (T.fls[f]? = some x) && mE T N sc o b && mE T N sc e v) = true := by
  cases st with
  | AugAssign t op' v q => cases t <;> first | exact ⟨_, _, _, _, _, _, rfl, h⟩ | cases h
  | _ => cases h
theorem el_augI {o i : E} {op : Operator} {e : E} (h : mS T N sc (.augI o i op e) st = true) : ∃ b j p op' v q, st = .AugAssign (.Subscript b j p) op' v q ∧ (decide (op = op') && noSlice j && mE T N sc o b && mE T N sc i j && mE T N sc e v) = true := by
  cases st with
  | AugAssign t op' v q => cases t <;> first | exact ⟨_, _, _, _, _, _, rfl, h⟩ | cases h
  | _ => cases h
theorem el_ife {c : E} {s t : S} (h : mS T N sc (.ife c s t) st = true) : ∃ v a b p, st = .If v a b p ∧ (mT T N sc c v && mSs T N sc s a && mSs T N sc t b) = true := by
  cases st with
  | If v a b p => exact ⟨v, a, b, p, rfl, h⟩
  | _ => cases h
theorem el_for {tg : List Nat} {it : E} {b : S} (h : mS T N sc (.for_ tg it b) st = true) : ∃ v i a p, st = .For v i a [] p ∧ (mG N sc tg v && noSet i && mI T N sc it v i && mSs T N sc b a) = true := by
  cases st with
  | For v i a o p => cases o with
    | nil => exact ⟨v, i, a, p, rfl, h⟩
    | cons _ _ => cases h
  | _ => cases h
theorem el_whil {n : Nat} {c : E} {b : S} (h : mS T N sc (.whil n c b) st = true) : ∃ v a p, st = .While v a [] p ∧ (mT T N sc c v && mSs T N sc b a) = true := by
  cases st with
  | While v a o p => cases o with
    | nil => exact ⟨v, a, p, rfl, h⟩
    | cons _ _ => cases h
  | _ => cases h
end
theorem ss_pass : SndS T G k .pass := by
  refine .one (by intros; rfl) fun {X E st} g h => ?_
  have fin : PS X st tNext → PS X st (tS T X.K E (exec G .pass)) := fun q => PS.imp q (by
    rintro D σ H ⟨Z, env, M, mu, F, hr, er, p⟩
    simp only [exec] at p
    exact p.here hr σ er)
  exact el_pass h (fun p e => by subst e; exact fin ps_pass) (fun x j p q e => by subst e; exact fin ps_doc)
theorem ss_brk : SndS T G k .brk := by
  refine .one (by intros; rfl) fun {X EX st} g h0 => ?_
  obtain ⟨_, rfl⟩ := el_brk h0
  exact PS.imp ps_break (by
      rintro D σ H ⟨Z, env, M, mu, F, hr, er, p⟩
      simp only [exec] at p
      exact p.here hr σ er)
theorem ss_retN : SndS T G k .retN := by
  refine .one (by intros; rfl) fun {X EX st} g h0 => ?_
  obtain ⟨_, rfl⟩ := el_retN h0
  exact PS.imp ps_retN (by
      rintro D σ H ⟨Z, env, M, mu, F, hr, er, p⟩
      simp only [exec] at p
      exact p.here hr _ .non)
theorem ss_ret {e : E} : SndS T G k (.ret e) := by
  refine .one (by intros; rfl) fun {X EX st} g h0 => ?_
  · obtain ⟨v, _, rfl, h⟩ := el_ret h0
    refine PS.imp (ps_ret ((snd_all e).v g.g h)) ?_
    rintro D σ H ⟨Z, env, M, mu, F, hr, er, p⟩
    simp only [exec] at p
    exact ⟨Z, env, M, mu, F, hr, er, p.bind.imp fun d M1 H1 mu1 F1 g1 hr1 p1 v rv => p1.here hr1 v rv⟩
theorem ss_ex {e : E} : SndS T G k (.ex e) := by
  refine .one (by intros; rfl) fun {X EX st} g h0 => ?_
  · obtain ⟨v, _, rfl, h⟩ := el_ex h0
    simp only [Bool.and_eq_true, Bool.not_eq_true'] at h
    obtain ⟨⟨h1, h2⟩, h3⟩ := h
    refine PS.imp (ps_expr ((snd_all e).v g.g h3) (sw_none h1 h2)) ?_
    rintro D σ H ⟨Z, env, M, mu, F, hr, er, p⟩
    simp only [exec] at p
    exact ⟨Z, env, M, mu, F, hr, er, p.bind.imp fun d M1 H1 mu1 F1 g1 hr1 p1 v rv => p1.here hr1 σ (er.mono g1)⟩
theorem set_of2 {K : PySem.W.Frag} {EX : XK} {i : Nat} {e : E} {D : Ends} {σ : L2.St} {H : Hp} (h : tS T K EX (exec G (.set i e)) D σ H) : tAsg (tD T K (WS EX) (ev G e)) (gName i) D σ H := by
  obtain ⟨Z, env, M, mu, F, hr, er, p⟩ := h
  simp only [exec] at p
  exact ⟨Z, env, M, mu, F, hr, er, p.bind.imp fun d M1 H1 mu1 F1 g1 hr1 p1 v rv => p1.here hr1 _ ((er.mono g1).set rv)⟩
theorem ss_set {i : Nat} {e : E} : SndS T G k (.set i e) := by
  refine .one (by intros; rfl) fun {X EX st} g h0 => ?_
  · obtain ⟨x, p, v, pos, rfl, h⟩ := el_set h0
    simp only [Bool.and_eq_true, decide_eq_true_eq] at h
    obtain ⟨⟨⟨⟨h1, h2⟩, h3⟩, h4⟩, h5⟩ := h
    have hs := sw_any (x := x) (p := p) (l := pos.line) h3 g.kind
    have hf := g.fn x (loc_of h2)
    cases hb : swB X.env.scope v x p with
    | false =>
      rw [hb] at hs
      exact PS.imp (ps_set g.g.nd h1 (loc_of h2) ((snd_all e).v g.g h5) hs hf) fun D σ H q => set_of2 q
    | true =>
      rw [hb] at hs h4
      have hloc : X.env.scope.names.lookup x = some .local := by
        unfold swB at hb
        split at hb
        · simp only [Bool.and_eq_true] at hb
          exact (beq_iff_eq.mp hb.1.1).symm
        · cases hb
      have key : ∀ (q : E), isLcE (.fz q) = true → mL T X.N X.env.scope q v = true → (∀ D σ H, tS T X.K EX (exec G (.set i e)) D σ H → tLl T X.K (WS EX) (evL G q) σ H fun x H1 => gName i x σ H1 D.nx) → PS X (.Assign [.Name x p] v pos) (tS T X.K EX (exec G (.set i e))) := fun q hq hl himp => by
        match q, hq, v, hl, hs, himp with
        | .lc tg it c e', _, .ListComp elt [⟨target, iter, ifs, 0⟩] scope lp, hl, hs, himp =>
          exact lc_parts (snd_all it) (snd_all c) (snd_all e') g.g hl fun tt own q1 q2 q3 q4 q5 q6 q7 => PS.imp (ps_setLc g.g.calm g.g.nd h1 hloc hs q1 q2 q3 q4 q5 q6) fun D σ H z => q7 _ _ _ (himp D σ H z)
      match e, h4, h5, key with
      | .fz q, h4, h5, key => exact key q h4 h5 fun D σ H z => fz_of (set_of2 z)
      | .fr q, h4, h5, key => exact key q (by cases q <;> first | exact h4 | cases h4) h5 fun D σ H z => fr_of (set_of2 z)
      | .mu q, h4, h5, key => exact key q (by cases q <;> first | exact h4 | cases h4) h5 fun D σ H z => mu_of (set_of2 z)
theorem ss_setT {is : List Nat} {e : E} : SndS T G k (.setT is e) := by
  refine .one (by intros; rfl) fun {X EX st} g h0 => ?_
  · obtain ⟨es, kt, p, v, pos, rfl, h⟩ := el_setT h0
    simp only [Bool.and_eq_true, Bool.not_eq_true'] at h
    obtain ⟨⟨⟨⟨h1, h2⟩, h3⟩, h4⟩, h5⟩ := h
    refine PS.imp (ps_asg ((snd_all e).v g.g h5) (tg_ok g.g.nd g.g.calm (fun x hx => ⟨hx, g.fn x hx⟩) h3) (by unfold swapsWithSole; exact sw_tup h2) (st_tup h1) rfl) ?_
    rintro D σ H ⟨Z, env, M, mu, F, hr, er, p⟩
    simp only [exec] at p
    refine ⟨Z, env, M, mu, F, hr, er, p.bind.imp fun d M1 H1 mu1 F1 g1 hr1 p1 v rv => ?_⟩
    have hG : gD X.K is = gTup X.K is.length (gNs is) := by
      cases is with
      | nil => exact absurd h4 (by simp)
      | cons i is => cases is with
        | nil => exact absurd h4 (by simp)
        | cons j is => rfl
    rw [hG]
    cases d with
    | tup ds =>
      simp only at p1
      cases e1 : bindT env is ds with
      | none => rw [e1] at p1; exact p1.elim
      | some env' =>
        rw [e1] at p1
        exact gT_ok hr1 rv (er.mono g1) e1 fun σ' er' _ => p1.here hr1 σ' er'
    | _ => exact p1.elim
theorem putA_of {K : PySem.W.Frag} {Z H F : Hp} {M : Store} {mu : List Addr} {x y : V} {o d : D} {f : Nat} {n : Str} {M' : Store} (hn : T.fls.Nodup) (hf : T.fls[f]? = some n) (hr : HR T K Z H M mu F) (rx : Rp T K F mu x o) (ry : Rp T K F mu y d) (e : putA G o f d M = some M') :
    ∃ a c dx fs, x = .ref a ∧ T.okC c ∧ G.cfl c f = true ∧ H a = some (.ins (T.cad K c) dx fs) ∧ fs.length < 1000 ∧ HR T K Z (upd H a (.ins (T.cad K c) dx (putF n y fs))) M' mu F := by
  unfold putA at e
  cases rx with
  | @ref a l q =>
    obtain ⟨m, e2, ro⟩ := hr.at q
    simp only [e2] at e
    cases m with
    | lst _ => cases e
    | dic _ => cases e
    | ins c fs =>
      simp only at e
      obtain ⟨hc, dx, fv, h1, h2⟩ := ro
      have hl := h2.len
      split at e
      · cases e
        rename_i hlc
        exact ⟨a, c, dx, fv, rfl, hc, hlc.2, h1, by omega, hr.put q ⟨hc, dx, _, upd_same, fput_of hn hf ry h2⟩⟩
      · cases e
  | _ => cases e
theorem ss_setA {o : E} {f : Nat} {e : E} : SndS T G k (.setA o f e) := by
  refine .one (by intros; rfl) fun {X EX st} g h0 => ?_
  · obtain ⟨b, x, p, v, pos, rfl, h⟩ := el_setA h0
    simp only [Bool.and_eq_true, decide_eq_true_eq] at h
    obtain ⟨⟨⟨h1, h2⟩, h3⟩, h4⟩ := h
    refine PS.imp (ps_fld ((snd_all o).v g.g h4) ((snd_all e).v g.g h3) (sw_attr h2)) ?_
    rintro D σ H ⟨Z, env, M, mu, F, hr, er, p⟩
    simp only [exec] at p
    refine ⟨Z, env, M, mu, F, hr, er, p.bind.imp fun d M1 H1 mu1 F1 g1 hr1 p1 y ry => ⟨Z, env, M1, mu1, F1, hr1, er.mono g1, p1.bind.imp fun od M2 H2 mu2 F2 g2 hr2 p2 x' rx => ?_⟩⟩
    cases q : putA G od f d M2 with
    | none => rw [q] at p2; exact p2.elim
    | some M' =>
      rw [q] at p2
      obtain ⟨a, c, dx, fs, rfl, hc, hcf, z1, z2, z3⟩ := putA_of g.g.glb.nd h1 hr2 rx (ry.mono g2) q
      obtain ⟨_, z4, z5⟩ := g.g.glb.cls c hc
      exact ⟨a, _, dx, fs, rfl, z1, z4, z5 f x hcf h1, z2, p2.here z3 σ ((er.mono g1).mono g2)⟩
end
end Lp

namespace Lp
open PySem PySem.Spec L2
section
variable {T : Tb} {G : Gm} {k : Nat}
theorem paired_len {α β : Type} {R : α → β → Prop} : ∀ {xs : List α} {ys : List β}, Paired R xs ys → xs.length = ys.length
  | _, _, .nil => rfl
  | _, _, .cons _ t => congrArg (· + 1) (paired_len t)
def RSetI (T : Tb) (K : PySem.W.Frag) : TSet := fun x y z H Q => ∃ Z M mu F o i v M', HR T K Z H M mu F ∧ Rp T K F mu x o ∧ Rp T K F mu y i ∧ Rp T K F mu z v ∧ putI o i v M = some M' ∧ ∀ H', HR T K Z H' M' mu F → Q H'
theorem set_any {X : Cx} (hu : X.A.units + 64 < cLine) : PSet X (RSetI T X.K) := by
  rintro pins s σ H x y z xv yv zv Q I rx ry rz ⟨Z, M, mu, F, o, i, v, M', hr, ro, ri, rv, e, q⟩
  unfold putI at e
  cases ro with
  | @ref a l ql =>
    obtain ⟨m, e2, rm⟩ := hr.at ql
    simp only [e2] at e
    cases m with
    | ins _ _ => cases e
    | lst xs =>
      obtain ⟨vs, h1, h2⟩ := rm
      simp only at e
      cases ri with
      | int n =>
        simp only at e
        cases e3 : ixN xs.length n with
        | none => rw [e3] at e; cases e
        | some j =>
          rw [e3] at e
          cases e
          exact set_list pins s σ H _ _ z xv yv zv Q I rx ry rz ⟨a, vs, n, j, rfl, rfl, h1, by rw [h2.len]; exact e3, q _ (hr.put ql ⟨_, upd_same, h2.set rv j⟩)⟩
      | _ => cases e
    | dic kvs =>
      simp only at e
      cases hk : asK i with
      | none => rw [hk] at e; cases e
      | some key =>
        rw [hk] at e
        obtain ⟨ws, h1, h2, rfl⟩ := dget_of hr ql e2 ri hk
        simp only at e
        split at e
        · rename_i hl
          cases e
          have hlen : ws.length = kvs.length := paired_len h2
          cases rx
          refine d_setItem (by omega) I (DPut.k h1 (by rw [hlen]; exact hl)) ry rz fun s4 I4 => ⟨_, I4, q _ (hr.put ql ⟨_, upd_same, key_put h2 key rv⟩)⟩
        · cases e
  | _ => cases e
theorem ss_setI {o i e : E} : SndS T G k (.setI o i e) := by
  refine .one (by intros; rfl) fun {X EX st} g h0 => ?_
  · obtain ⟨b, j, p, v, pos, rfl, h⟩ := el_setI h0
    simp only [Bool.and_eq_true] at h
    obtain ⟨⟨⟨⟨h1, h2⟩, h3⟩, h4⟩, h5⟩ := h
    refine PS.imp (ps_asg ((snd_all e).v g.g h3) (pg_sub ((snd_all o).v g.g h4) ((snd_all i).v g.g h5) (set_any (T := T) g.g.room.units) (fun u => by cases j <;> first | rfl | exact absurd h1 Bool.false_ne_true)) (by unfold swapsWithSole; exact sw_sub h2) rfl rfl) ?_
    rintro D σ H ⟨Z, env, M, mu, F, hr, er, p⟩
    simp only [exec] at p
    refine ⟨Z, env, M, mu, F, hr, er, p.bind.imp fun d M1 H1 mu1 F1 g1 hr1 p1 y ry => ⟨Z, env, M1, mu1, F1, hr1, er.mono g1, p1.bind.imp fun od M2 H2 mu2 F2 g2 hr2 p2 x' rx => ⟨Z, env, M2, mu2, F2, hr2, (er.mono g1).mono g2, p2.bind.imp fun jd M3 H3 mu3 F3 g3 hr3 p3 z rz => ?_⟩⟩⟩
    cases q : putI od jd d M3 with
    | none => rw [q] at p3; exact p3.elim
    | some M' =>
      rw [q] at p3
      exact ⟨Z, M3, mu3, F3, od, jd, d, M', hr3, rx.mono g3, rz, (ry.mono g2).mono g3, q, fun H' hr' => p3.here hr' σ (((er.mono g1).mono g2).mono g3)⟩
def RAug (T : Tb) (K : PySem.W.Frag) (op : Operator) : TIp := R2D T K (augOp op)
theorem aug_any {X : Cx} (op : Operator) : PIp X op (RAug T X.K op) := by
  rintro pins s σ H x y v u Q I rx ry ⟨Z, w, M, mu, F, a, b, hr, ra, rb, p⟩
  cases op <;> first | (cases ra <;> cases rb <;> exact p.elim) | skip
  · cases ra with
    | int i => cases rb with
      | int j => exact ip_add pins s σ H _ _ v u Q I rx ry ⟨i, j, rfl, rfl, p.here hr _ (.int _)⟩
      | _ => exact p.elim
    | _ => exact p.elim
  · cases ra with
    | int i => cases rb with
      | int j => exact ip_sub pins s σ H _ _ v u Q I rx ry ⟨i, j, rfl, rfl, p.here hr _ (.int _)⟩
      | _ => exact p.elim
    | _ => exact p.elim
theorem ss_aug {i : Nat} {op : Operator} {e : E} : SndS T G k (.aug i op e) := by
  refine .one (by intros; rfl) fun {X EX st} g h0 => ?_
  · obtain ⟨x, p, op', v, pos, rfl, h⟩ := el_aug h0
    simp only [Bool.and_eq_true, decide_eq_true_eq] at h
    obtain ⟨⟨⟨rfl, h1⟩, h2⟩, h3⟩ := h
    have hf := g.fn x (loc_of h2)
    refine PS.imp (ps_aug g.g.nd h1 (loc_of h2) ((snd_all e).v g.g h3) (aug_any (T := T) op) hf) ?_
    rintro D σ H ⟨Z, env, M, mu, F, hr, er, p⟩
    simp only [exec] at p
    split at p
    · rename_i d e1
      obtain ⟨x', hx, rx⟩ := er.2 i d e1
      exact ⟨x', hx, Z, env, M, mu, F, hr, er, p.bind.imp fun yd M1 H1 mu1 F1 g1 hr1 p1 y ry => ⟨Z, _, M1, mu1, F1, d, yd, hr1, rx.mono g1, ry, p1.bind.imp fun zd M2 H2 mu2 F2 g2 hr2 p2 z rz => p2.here hr2 _ (((er.mono g1).mono g2).set rz)⟩⟩
    · exact p.elim
theorem ss_augA {o : E} {f : Nat} {op : Operator} {e : E} : SndS T G k (.augA o f op e) := by
  refine .one (by intros; rfl) fun {X EX st} g h0 => ?_
  · obtain ⟨b, x, p, op', v, pos, rfl, h⟩ := el_augA h0
    simp only [Bool.and_eq_true, decide_eq_true_eq] at h
    obtain ⟨⟨⟨rfl, h1⟩, h3⟩, h4⟩ := h
    refine PS.imp (ps_fldaug ((snd_all o).v g.g h3) ((snd_all e).v g.g h4) (aug_any (T := T) op)) ?_
    rintro D σ H ⟨Z, env, M, mu, F, hr, er, p⟩
    simp only [exec] at p
    refine ⟨Z, env, M, mu, F, hr, er, p.bind.imp fun od M1 H1 mu1 F1 g1 hr1 p1 xv rx => ?_⟩
    cases od with
    | ref l =>
      simp only at p1
      cases rx with
      | @ref a _ q =>
        obtain ⟨m, e2, rm⟩ := hr1.at q
        simp only [e2] at p1
        cases m with
        | lst _ => exact p1.elim
        | dic _ => exact p1.elim
        | ins c fs =>
          simp only at p1
          obtain ⟨hc, dx, fv, z1, z2⟩ := rm
          obtain ⟨_, z4, z5⟩ := g.g.glb.cls c hc
          have ha : attG G (.ref l) f M1 = if G.cfl c f then oRes (fget f fs) M1 else .bad := by simp [attG, asI, e2]
          rw [ha] at p1
          by_cases hcf : G.cfl c f = true
          case neg => rw [if_neg hcf] at p1; exact p1.elim
          rw [if_pos hcf] at p1
          cases e3 : fget f fs with
          | none => rw [e3] at p1; exact p1.elim
          | some y =>
            rw [e3] at p1
            simp only [oRes, bind_ok] at p1
            obtain ⟨yv, hy, ry⟩ := fget_of g.g.glb.nd h1 z2 e3
            refine ⟨a, _, dx, fv, yv, rfl, z1, z4, z5 f x hcf h1, hy, Z, env, M1, mu1, F1, hr1, er.mono g1, p1.bind.imp fun zd M2 H2 mu2 F2 g2 hr2 p2 zv rz => ⟨Z, _, M2, mu2, F2, y, zd, hr2, ry.mono g2, rz, p2.bind.imp fun wd M3 H3 mu3 F3 g3 hr3 p3 wv rw' => ?_⟩⟩
            obtain ⟨m, e4, rm⟩ := hr3.at (g3.m _ _ (g2.m _ _ q))
            simp only [e4] at p3
            cases m with
            | lst _ => exact p3.elim
            | dic _ => exact p3.elim
            | ins c' fs' =>
              simp only at p3
              by_cases hcc : c = c'
              · rw [if_pos hcc] at p3
                subst hcc
                cases e5 : putA G (.ref l) f wd M3 with
                | none => rw [e5] at p3; exact p3.elim
                | some M' =>
                  rw [e5] at p3
                  obtain ⟨_, dx', fv', y1, y2⟩ := rm
                  obtain ⟨a', c', dx2, fs2, ea, hc', hcf', w1, w2, w3⟩ := putA_of g.g.glb.nd h1 hr3 (.ref (g3.m _ _ (g2.m _ _ q))) rw' e5
                  cases ea
                  rw [y1] at w1
                  have w1 := Option.some.inj w1
                  injection w1 with i1 i2 i3
                  rw [← i1, ← i2, ← i3] at w3
                  rw [← i3] at w2
                  exact ⟨dx', fv', y1, w2, p3.here w3 σ (((er.mono g1).mono g2).mono g3)⟩
              · rw [if_neg hcc] at p3; exact p3.elim
    | _ => exact p1.elim
theorem get_any {X : Cx} (hu : X.A.units + 64 < cLine) : PGet X (fun x y H Q => ∃ Z w M mu F a b l, HR T X.K Z H M mu F ∧ Rp T X.K F mu x a ∧ Rp T X.K F mu y b ∧ a = .ref l ∧ PG T X.K Z w F mu (idxD a b M) (QD T X.K Q)) := by
  rintro pins s σ H x y xv yv Q I rx ry ⟨Z, w, M, mu, F, a, b, l, hr, ra, rb, rfl, p⟩
  cases ra with
  | @ref ad _ q =>
    obtain ⟨o, e2, ro⟩ := hr.at q
    simp only [idxD, e2] at p
    cases o with
    | ins _ _ => exact p.elim
    | lst xs =>
      obtain ⟨vs, q2, t⟩ := ro
      cases rb with
      | int j =>
        simp only at p
        cases e : atI xs j with
        | none => rw [e] at p; exact p.elim
        | some d =>
          rw [e] at p
          obtain ⟨z, hz, rz⟩ := t.at e
          have qq := p.here hr z rz
          cases rx
          obtain ⟨tk, rfl⟩ := ry
          obtain ⟨its, r, pl, hzz⟩ := I.list (SqL.of q2)
          obtain ⟨j', h1, h2, h3, h4, h5⟩ := atI_get hz
          obtain ⟨wv, ew, rw'⟩ := r.get h2
          have hl := r.length
          have hn := line63
          have fin : EP X pins σ Q wv s := ⟨z, H, I, rw', qq⟩
          by_cases h0 : 0 ≤ j
          · have hj : j.toNat = j' := by
              rw [seqIndex_of h0 h5] at h1
              exact Option.some.inj h1
            exact wpAny_getItem_list pl.isList h0 (by omega) (by rw [hj]; simpa using ew) fin
          · have hj : (j + (its.toArray.size : Int)).toNat = j' := by
              rw [seqIndex_neg (by omega) h4] at h1
              rw [List.size_toArray, ← hl]
              exact Option.some.inj h1
            exact wpAny_getItem_list_neg pl.isList (by omega) (by rw [List.size_toArray] <;> omega) (by omega) (by rw [hj]; simpa using ew) fin
      | _ => exact p.elim
    | dic kvs =>
      simp only at p
      cases hk : asK b with
      | none => simp only [hk] at p; exact p.elim
      | some key =>
        simp only [hk] at p
        obtain ⟨ws, h1, h2, h3⟩ := dget_of hr q e2 rb hk
        cases e : dval kvs key with
        | none => simp only [e] at p; exact p.elim
        | some d =>
          simp only [e] at p
          obtain ⟨z, hz, rz⟩ := (key_val h2 key).1 d e
          have g : DGet H ad y (some z) := by rw [h3, ← hz]; exact DGet.k h1
          cases rx
          exact d_getItem (by omega) I g ry fun w' s3 I3 rw' => ⟨z, H, I3, rw', p.here hr z rz⟩
theorem ss_augI {o i : E} {op : Operator} {e : E} : SndS T G k (.augI o i op e) := by
  refine .one (by intros; rfl) fun {X EX st} g h0 => ?_
  · obtain ⟨b, j, p, op', v, pos, rfl, h⟩ := el_augI h0
    simp only [Bool.and_eq_true, decide_eq_true_eq] at h
    obtain ⟨⟨⟨⟨rfl, h2⟩, h3⟩, h4⟩, h5⟩ := h
    refine PS.imp (ps_augS ((snd_all o).v g.g h3) ((snd_all i).v g.g h4) (get_any (T := T) g.g.room.units) ((snd_all e).v g.g h5) (aug_any (T := T) op) (set_any (T := T) g.g.room.units) (fun _ _ _ => by cases j <;> first | rfl | exact absurd h2 Bool.false_ne_true)) ?_
    rintro D σ H ⟨Z, env, M, mu, F, hr, er, p⟩
    simp only [exec] at p
    refine ⟨Z, env, M, mu, F, hr, er, p.bind.imp fun od M1 H1 mu1 F1 g1 hr1 p1 xv rx => ?_⟩
    cases od with
    | ref l =>
      simp only at p1
      refine ⟨Z, env, M1, mu1, F1, hr1, er.mono g1, p1.bind.imp fun jd M2 H2 mu2 F2 g2 hr2 p2 jv rj => ⟨Z, _, M2, mu2, F2, _, jd, l, hr2, rx.mono g2, rj, rfl, p2.bind.imp fun yd M3 H3 mu3 F3 g3 hr3 p3 yv ry => ⟨Z, env, M3, mu3, F3, hr3, ((er.mono g1).mono g2).mono g3, p3.bind.imp fun zd M4 H4 mu4 F4 g4 hr4 p4 zv rz => ⟨Z, _, M4, mu4, F4, yd, zd, hr4, ry.mono g4, rz, p4.bind.imp fun wd M5 H5 mu5 F5 g5 hr5 p5 wv rw' => ?_⟩⟩⟩⟩
      cases e5 : putI (.ref l) jd wd M5 with
      | none => rw [e5] at p5; exact p5.elim
      | some M' =>
        rw [e5] at p5
        exact ⟨Z, M5, mu5, F5, _, jd, wd, M', hr5, ((((rx.mono g2).mono g3).mono g4).mono g5), (((rj.mono g3).mono g4).mono g5), rw', e5, fun H' hr' => p5.here hr' σ (((((er.mono g1).mono g2).mono g3).mono g4).mono g5)⟩
    | _ => exact p1.elim
theorem ss_ife {c : E} {s t : S} (is : SndS T G k s) (it : SndS T G k t) : SndS T G k (.ife c s t) := by
  refine .one (by intros; rfl) fun {X EX st} g h0 => ?_
  · obtain ⟨v, a, b, p, rfl, h⟩ := el_ife h0
    simp only [Bool.and_eq_true] at h
    refine PS.imp (ps_if ((snd_all c).t g.g h.1.1) (is.l g h.1.2) (it.l g h.2)) ?_
    rintro D σ H ⟨Z, env, M, mu, F, hr, er, p⟩
    simp only [exec] at p
    refine ⟨Z, env, M, mu, F, hr, er, p.bind.imp fun d M1 H1 mu1 F1 g1 hr1 p1 => ?_⟩
    cases d with
    | true => simp only [QB, if_true]; exact ⟨Z, env, M1, mu1, F1, hr1, er.mono g1, p1⟩
    | false => simp only [QB, Bool.false_eq_true, if_false]; exact ⟨Z, env, M1, mu1, F1, hr1, er.mono g1, p1⟩
theorem ss_whil {n : Nat} {c : E} {b : S} (ib : SndS T G k b) : SndS T G k (.whil n c b) := by
  refine .one (by intros; rfl) fun {X EX st} g h0 => ?_
  · obtain ⟨v, a, p, rfl, h⟩ := el_whil h0
    simp only [Bool.and_eq_true] at h
    refine PS.imp (ps_while g.own ((snd_all c).t g.g h.1) (ib.l g h.2)) ?_
    rintro D σ H ⟨Z, env, M, mu, F, hr, er, p⟩
    simp only [exec] at p
    refine ⟨fun m σ H => ∃ M mu F env, HR T X.K Z H M mu F ∧ EnvR T X.K F mu σ env ∧ PG T X.K Z EX F mu (whiGo (evT G c) (exec G b) m env M) (QO T X.K D), ⟨n, M, mu, F, env, hr, er, p⟩, ?_⟩
    rintro m σ1 H1 ⟨M1, mu1, F1, env1, hr1, er1, p1⟩
    unfold whiGo at p1
    refine ⟨Z, env1, M1, mu1, F1, hr1, er1, p1.bind.imp fun d M2 H2 mu2 F2 g2 hr2 p2 => ?_⟩
    cases d with
    | false => simp only [Bool.false_eq_true, if_false]; exact p2.here hr2 _ (er1.mono g2)
    | true =>
      simp only [if_true]
      cases m with
      | zero => exact p2.elim
      | succ m =>
        refine ⟨_, fun σ' H' nx => ⟨m, Nat.lt_succ_self _, nx⟩, Z, env1, M2, mu2, F2, hr2, er1.mono g2, p2.bind.imp fun o M3 H3 mu3 F3 g3 hr3 p3 => ?_⟩
        cases o with
        | nx env' => exact fun σ' er' => ⟨M3, mu3, F3, env', hr3, er', p3⟩
        | ret d => exact fun v rv => p3.here hr3 v rv
        | brk env' => exact fun σ' er' => p3.here hr3 σ' er'
theorem ss_for {tg : List Nat} {it : E} {b : S} (ib : SndS T G k b) : SndS T G k (.for_ tg it b) := by
  refine .one (by intros; rfl) fun {X EX st} g h0 => ?_
  · obtain ⟨v, i, a, p, rfl, h⟩ := el_for h0
    simp only [Bool.and_eq_true] at h
    obtain ⟨⟨⟨h1, h2⟩, h3⟩, h4⟩ := h
    refine PS.imp (ps_for g.own g.g.calm ((snd_all it).i g.g h3) (tg_ok g.g.nd g.g.calm (fun x hx => ⟨hx, g.fn x hx⟩) h1) (ib.l g h4) (set_of h2)) ?_
    rintro D σ H ⟨Z, env, M, mu, F, hr, er, p⟩
    simp only [exec] at p
    refine ⟨Z, env, M, mu, F, hr, er, p.bind.imp fun J M1 H1 mu1 F1 g1 hr1 p1 I hI => ?_⟩
    refine ⟨fun i m σ H => ∃ M mu F env, HR T X.K Z H M mu F ∧ Gr F1 mu1 F mu ∧ EnvR T X.K F mu σ env ∧ PG T X.K Z EX F mu (forGo J tg (exec G b) m i env M) (QO T X.K D), ⟨J.n, M1, mu1, F1, env, hr1, Gr.refl, er.mono g1, p1⟩, ?_⟩
    rintro i m σ2 H2 ⟨M2, mu2, F2, env2, hr2, g2, er2, p2⟩
    have hI2 := hI i _ H2 M2 mu2 F2 g2 hr2
    unfold forGo at p2
    cases e1 : J.nx i M2 with
    | none => rw [e1] at p2; exact p2.elim
    | some o =>
      rw [e1] at p2 hI2
      cases o with
      | none => exact .inl ⟨hI2, p2.here hr2 _ er2⟩
      | some x =>
        cases m with
        | zero => exact p2.elim
        | succ m =>
          simp only at p2 hI2
          refine .inr ⟨hI2.1, _, fun σ' H' nx => ⟨m, Nat.lt_succ_self _, nx⟩, fun v H3 y => ?_⟩
          obtain ⟨F3, g3, hr3, rv⟩ := hI2.2 v H3 y
          cases e2 : bindG env2 tg x with
          | none => rw [e2] at p2; exact p2.elim
          | some env' =>
            rw [e2] at p2
            simp only at p2
            refine gD_ok hr3 rv (er2.mono g3) e2 fun σ' er4 hw => ⟨Z, env', M2, mu2, F3, hr3, er4, (p2.mono g3).bind.imp fun o M4 H4 mu4 F4 g4 hr4 p4 => ?_⟩
            cases o with
            | nx env'' => exact fun σ' er' => ⟨M4, mu4, F4, env'', hr4, (g2.trans g3).trans g4, er', p4⟩
            | ret d => exact fun v rv => p4.here hr4 v rv
            | brk env'' => exact fun σ' er' => p4.here hr4 σ' er'
theorem ss_all : ∀ s : S, SndS T G k s
  | .nil => ss_nil
  | .seq s r => ss_seq (ss_all s) (ss_all r)
  | .set i e => ss_set
  | .setT is e => ss_setT
  | .setA o f e => ss_setA
  | .setI o i e => ss_setI
  | .aug i op e => ss_aug
  | .augA o f op e => ss_augA
  | .augI o i op e => ss_augI
  | .ex e => ss_ex
  | .ret e => ss_ret
  | .retN => ss_retN
  | .brk => ss_brk
  | .pass => ss_pass
  | .never => ss_never
  | .ife c s t => ss_ife (ss_all s) (ss_all t)
  | .for_ tg it b => ss_for (ss_all b)
  | .whil n c b => ss_whil (ss_all b)
end
end Lp

namespace Lp
open PySem PySem.Spec L2
def Ent (T : Tb) (φ : Fn) (ds : List D) (M : Store) (r : Res D) : Prop :=
  ∀ (K : PySem.W.Frag) (b : Addr → Prop) (Z H F : Hp) (w : WE1) (mu : List Addr) (vs : List V) (Q : VK), HR (T.wb b) K Z H M mu F → Rps (T.wb b) K F mu vs ds → PG (T.wb b) K Z w F mu r (QD (T.wb b) K Q) →
    ∃ b' Z' ds' M' mu' F', HR (T.wb b') K Z' H M' mu' F' ∧ Rps (T.wb b') K F' mu' vs ds' ∧ PG (T.wb b') K Z' w F' mu' (φ ds' M') (QD (T.wb b') K Q)
section
variable {T : Tb} {φ ψ : Fn} {ds : List D} {M : Store} {r : Res D}
theorem Ent.refl : Ent T φ ds M (φ ds M) := fun K b Z H F w mu vs Q hr rd p => ⟨b, Z, ds, M, mu, F, hr, rd, p⟩
theorem Ent.of (e : φ ds M = r) : Ent T φ ds M r := e ▸ Ent.refl
theorem Ent.agr (a : Agr M (φ ds M) r) : Ent T φ ds M r := fun K b Z H F w mu vs Q hr rd p => ⟨b, Z, ds, M, mu, F, hr, rd, a.pg hr p⟩
theorem Ent.trans (h : ∀ ds M, ψ ds M ≠ .bad → Ent T φ ds M (ψ ds M)) (e : Ent T ψ ds M r) : Ent T φ ds M r := fun K b Z H F w mu vs Q hr rd p => by
  obtain ⟨b1, Z1, ds1, M1, mu1, F1, hr1, rd1, p1⟩ := e K b Z H F w mu vs Q hr rd p
  exact h ds1 M1 (fun z => by rw [z] at p1; exact p1.elim) K b1 Z1 H F1 w mu1 vs Q hr1 rd1 p1
end
mutual
inductive Vw (M : Store) : D → D → Prop
  | non : Vw M .non .non
  | bl (b : Bool) : Vw M (.bl b) (.bl b)
  | int (i : Int) : Vw M (.int i) (.int i)
  | str (s : Str) : Vw M (.str s) (.str s)
  | tup {xs ys : List D} : Vws M xs ys → Vw M (.tup xs) (.tup ys)
  | lst {xs ys : List D} : Vws M xs ys → Vw M (.lst xs) (.lst ys)
  | arr {xs ys : List D} : Vws M xs ys → Vw M (.arr xs) (.arr ys)
  | ins {c : Nat} {xs ys : List (Nat × D)} : Vwf M xs ys → Vw M (.ins c xs) (.ins c ys)
  | dic {xs ys : List (Key × D)} : Vwk M xs ys → Vw M (.dic xs) (.dic ys)
  | nl {xs ys : List D} : Vws M xs ys → Vw M (.nl xs) (.lst ys)
  | no {c : Nat} {xs ys : List (Nat × D)} : Vwf M xs ys → Vw M (.no c xs) (.ins c ys)
  | rlst {l : Nat} {xs ys : List D} : M[l]? = some (.lst xs) → Vws M xs ys → Vw M (.ref l) (.lst ys)
  | rins {l c : Nat} {xs ys : List (Nat × D)} : M[l]? = some (.ins c xs) → Vwf M xs ys → Vw M (.ref l) (.ins c ys)
  | rdic {l : Nat} {xs ys : List (Key × D)} : M[l]? = some (.dic xs) → Vwk M xs ys → Vw M (.ref l) (.dic ys)
inductive Vws (M : Store) : List D → List D → Prop
  | nil : Vws M [] []
  | cons {x y : D} {xs ys : List D} : Vw M x y → Vws M xs ys → Vws M (x :: xs) (y :: ys)
inductive Vwf (M : Store) : List (Nat × D) → List (Nat × D) → Prop
  | nil : Vwf M [] []
  | cons {f : Nat} {x y : D} {xs ys : List (Nat × D)} : Vw M x y → Vwf M xs ys → Vwf M ((f, x) :: xs) ((f, y) :: ys)
inductive Vwk (M : Store) : List (Key × D) → List (Key × D) → Prop
  | nil : Vwk M [] []
  | cons {f : Key} {x y : D} {xs ys : List (Key × D)} : Vw M x y → Vwk M xs ys → Vwk M ((f, x) :: xs) ((f, y) :: ys)
end
mutual
inductive Ff (N : Store) (av : List Nat) : D → D → Prop
  | non : Ff N av .non .non
  | bl (b : Bool) : Ff N av (.bl b) (.bl b)
  | int (i : Int) : Ff N av (.int i) (.int i)
  | str (s : Str) : Ff N av (.str s) (.str s)
  | tup {xs ys : List D} : Ffs N av xs ys → Ff N av (.tup xs) (.tup ys)
  | lst {l : Nat} {xs ys : List D} : l ∉ av → N[l]? = some (.lst xs) → Ffs N av xs ys → Ff N av (.ref l) (.nl ys)
  | ins {l c : Nat} {xs ys : List (Nat × D)} : l ∉ av → N[l]? = some (.ins c xs) → Fff N av xs ys → Ff N av (.ref l) (.no c ys)
  | nl {xs ys : List D} : Ffs N av xs ys → Ff N av (.nl xs) (.nl ys)
  | no {c : Nat} {xs ys : List (Nat × D)} : Fff N av xs ys → Ff N av (.no c xs) (.no c ys)
inductive Ffs (N : Store) (av : List Nat) : List D → List D → Prop
  | nil : Ffs N av [] []
  | cons {x y : D} {xs ys : List D} : Ff N av x y → Ffs N av xs ys → Ffs N av (x :: xs) (y :: ys)
inductive Fff (N : Store) (av : List Nat) : List (Nat × D) → List (Nat × D) → Prop
  | nil : Fff N av [] []
  | cons {f : Nat} {x y : D} {xs ys : List (Nat × D)} : Ff N av x y → Fff N av xs ys → Fff N av ((f, x) :: xs) ((f, y) :: ys)
end
section
variable {T : Tb} {K : PySem.W.Frag} {Z H F H1 F1 : Hp} {M N : Store} {mu mu1 mu2 : List Addr} {av : List Nat}
abbrev Tb.lend (T : Tb) (mu : List Addr) : Tb := T.wb fun a => T.bor a ∨ a ∈ mu
open Classical in
noncomputable def bkF (av : List Nat) (mu mu1 : List Addr) (H1 F1 : Hp) : Hp := fun a => if a ∈ mu ∨ (∃ l, l ∈ av ∧ mu1[l]? = some a) then none else if a ∈ mu1 then H1 a else F1 a
theorem pkF0_in {a : Addr} (h : a ∈ mu) : pkF F H mu [] a = H a := by
  obtain ⟨l, e⟩ := List.mem_iff_getElem?.mp h
  exact pkF_new e (by simp)
mutual
theorem Vw.rp (hr : HR T K Z H M mu F) : ∀ {d d' : D} {v : V}, Vw M d d' → Rp T K F mu v d → Rp (T.lend mu) K (pkF F H mu []) [] v d'
  | _, _, _, .non, .non => .non
  | _, _, _, .bl b, .bl _ => .bl b
  | _, _, _, .int i, .int _ => .int i
  | _, _, _, .str s, .str _ => .str s
  | _, _, _, .tup h, .tup e t => .tup (pkF_keep hr e) (h.rp hr t)
  | _, _, _, .lst h, .lst e t => .lst (pkF_keep hr e) (h.rp hr t)
  | _, _, _, .arr h, .arrL e t => .arrL ((pkF_grow (pk := []) hr).sqL e) (h.rp hr t)
  | _, _, _, .arr h, .arrT e t => .arrT ((pkF_grow (pk := []) hr).sqT e) (h.rp hr t)
  | _, _, _, .ins h, .ins hc e t => .ins hc (pkF_keep hr e) (h.rp hr t)
  | _, _, _, .dic h, .dic e t => .dic (pkF_keep hr e) (h.rp hr t)
  | _, _, _, .nl h, .nl _ e t => .lst (pkF_keep hr e) (h.rp hr t)
  | _, _, _, .no h, .no _ hc e t => .ins hc (pkF_keep hr e) (h.rp hr t)
  | _, _, _, .rlst h2 h3, .ref e => by
    obtain ⟨o, e2, ro⟩ := hr.at e
    rw [h2] at e2
    cases e2
    obtain ⟨vs, q, t⟩ := ro
    exact .lst (by rw [pkF0_in (List.mem_of_getElem? e)]; exact q) (h3.rp hr t)
  | _, _, _, .rins h2 h3, .ref e => by
    obtain ⟨o, e2, ro⟩ := hr.at e
    rw [h2] at e2
    cases e2
    obtain ⟨hc, dx, fv, q, t⟩ := ro
    exact .ins hc (by rw [pkF0_in (List.mem_of_getElem? e)]; exact q) (h3.rp hr t)
  | _, _, _, .rdic h2 h3, .ref e => by
    obtain ⟨o, e2, ro⟩ := hr.at e
    rw [h2] at e2
    cases e2
    obtain ⟨ws, q, t⟩ := ro
    exact .dic (by rw [pkF0_in (List.mem_of_getElem? e)]; exact q) (h3.rp hr (Rks.of t))
theorem Vws.rp (hr : HR T K Z H M mu F) : ∀ {ds ds' : List D} {vs : List V}, Vws M ds ds' → Rps T K F mu vs ds → Rps (T.lend mu) K (pkF F H mu []) [] vs ds'
  | _, _, _, .nil, .nil => .nil
  | _, _, _, .cons h t, .cons r rs => .cons (h.rp hr r) (t.rp hr rs)
theorem Vwf.rp (hr : HR T K Z H M mu F) : ∀ {ds ds' : List (Nat × D)} {vs : List (Str × V)}, Vwf M ds ds' → Rfs T K F mu vs ds → Rfs (T.lend mu) K (pkF F H mu []) [] vs ds'
  | _, _, _, .nil, .nil => .nil
  | _, _, _, .cons h t, .cons e r rs => .cons e (h.rp hr r) (t.rp hr rs)
theorem Vwk.rp (hr : HR T K Z H M mu F) : ∀ {ds ds' : List (Key × D)} {vs : List (Key × V)}, Vwk M ds ds' → Rks T K F mu vs ds → Rks (T.lend mu) K (pkF F H mu []) [] vs ds'
  | _, _, _, .nil, .nil => .nil
  | _, _, _, .cons h t, .cons r rs => .cons (h.rp hr r) (t.rp hr rs)
end
theorem HR.all0 (hr : HR T K Z H M mu F) : HR (T.lend mu) K Z H [] [] (pkF F H mu []) := by
  refine ⟨fun a o h => ?_, rfl, List.nodup_nil, fun a h => absurd h List.not_mem_nil, fun l a o e _ => absurd e (by simp), fun a o h => ?_, fun a h => ?_⟩
  · unfold pkF at h
    split at h
    · exact h
    · exact hr.sub a o h
  · obtain ⟨z1, z2, z3⟩ := hr.zs a o h
    refine ⟨z1, ?_, by simp⟩
    unfold pkF
    rw [if_neg]
    · exact z2
    · rintro ⟨l, e, _⟩
      exact z3 (List.mem_of_getElem? e)
  · rcases h with h | h
    · cases e : F a with
      | none => exact absurd e (hr.bor a h)
      | some o => rw [pkF_keep hr e]; exact fun z => by cases z
    · rw [pkF0_in h]
      exact hr.mem h
structure Bk (T : Tb) (K : PySem.W.Frag) (Z H F : Hp) (M : Store) (mu : List Addr) (H1 F1 : Hp) (N : Store) (mu1 : List Addr) : Prop where
  hr : HR T K Z H M mu F
  g : Gr (pkF F H mu []) [] F1 mu1
  hr1 : HR (T.lend mu) K Z H1 N mu1 F1
theorem Bk.at_ (b : Bk T K Z H F M mu H1 F1 N mu1) {a : Addr} (h : a ∈ mu) : F1 a = H a ∧ H1 a = H a ∧ a ∉ mu1 := by
  cases e : H a with
  | none => exact absurd e (b.hr.mem h)
  | some o =>
    have h1 := b.g.f a o (by rw [pkF0_in h]; exact e)
    exact ⟨h1, b.hr1.sub a o h1, fun z => by rw [b.hr1.out a z] at h1; cases h1⟩
theorem Bk.old (b : Bk T K Z H F M mu H1 F1 N mu1) {a : Addr} {o : HO} (h : F1 a = some o) (hn : a ∉ mu) : bkF av mu mu1 H1 F1 a = some o := by
  have hn1 : a ∉ mu1 := fun z => by rw [b.hr1.out a z] at h; cases h
  unfold bkF
  rw [if_neg, if_neg hn1]
  · exact h
  · rintro (z | ⟨l, _, z⟩)
    · exact hn z
    · exact hn1 (List.mem_of_getElem? z)
theorem Bk.keep (b : Bk T K Z H F M mu H1 F1 N mu1) {a : Addr} {o : HO} (h : F a = some o) : bkF av mu mu1 H1 F1 a = some o :=
  b.old (b.g.f a o (pkF_keep b.hr h)) fun z => by rw [b.hr.out a z] at h; cases h
theorem Bk.sub (b : Bk T K Z H F M mu H1 F1 N mu1) (a : Addr) (o : HO) (h : bkF av mu mu1 H1 F1 a = some o) : H1 a = some o := by
  unfold bkF at h
  split at h
  · cases h
  · split at h
    · exact h
    · exact b.hr1.sub a o h
theorem Bk.bor (b : Bk T K Z H F M mu H1 F1 N mu1) (a : Addr) (h : T.bor a) : bkF av mu mu1 H1 F1 a ≠ none := by
  cases e : F a with
  | none => exact absurd e (b.hr.bor a h)
  | some o => rw [b.keep e]; exact fun z => by cases z
theorem Bk.zs (b : Bk T K Z H F M mu H1 F1 N mu1) (a : Addr) (o : HO) (h : Z a = some o) : H1 a = some o ∧ bkF av mu mu1 H1 F1 a = none ∧ a ∉ mu ∧ a ∉ mu1 := by
  obtain ⟨z1, z2, z3⟩ := b.hr1.zs a o h
  obtain ⟨_, _, z4⟩ := b.hr.zs a o h
  refine ⟨z1, ?_, z4, z3⟩
  unfold bkF
  split
  · rfl
  · first | exact z2 | (rw [if_neg z3]; exact z2)
theorem Bk.tup (b : Bk T K Z H F M mu H1 F1 N mu1) {a : Addr} {vs : List V} (h : F1 a = some (.tup vs)) : bkF av mu mu1 H1 F1 a = some (.tup vs) := by
  refine b.old h fun z => ?_
  obtain ⟨l, e⟩ := List.mem_iff_getElem?.mp z
  obtain ⟨o, _, ro⟩ := b.hr.at e
  rw [(b.at_ z).1] at h
  cases o with
  | lst xs => obtain ⟨_, q, _⟩ := ro; rw [q] at h; cases h
  | dic xs => obtain ⟨_, q, _⟩ := ro; rw [q] at h; cases h
  | ins c xs => obtain ⟨_, _, _, q, _⟩ := ro; rw [q] at h; cases h
theorem Bk.new (b : Bk T K Z H F M mu H1 F1 N mu1) {a : Addr} {l : Nat} (e : mu1[l]? = some a) (h : l ∉ av) : bkF av mu mu1 H1 F1 a = H1 a := by
  have hm := List.mem_of_getElem? e
  unfold bkF
  rw [if_neg, if_pos hm]
  rintro (z | ⟨j, z1, z2⟩)
  · exact (b.at_ z).2.2 hm
  · exact h (nodup_at b.hr1.nd e z2 ▸ z1)
mutual
theorem Ff.rp (b : Bk T K Z H F M mu H1 F1 N mu1) : ∀ {d t : D} {v : V}, Ff N av d t → Rp (T.lend mu) K F1 mu1 v d → Rp T K (bkF av mu mu1 H1 F1) mu2 v t
  | _, _, _, .non, .non => .non
  | _, _, _, .bl k, .bl _ => .bl k
  | _, _, _, .int i, .int _ => .int i
  | _, _, _, .str s, .str _ => .str s
  | _, _, _, .tup h, .tup e t => .tup (b.tup e) (h.rp b t)
  | _, _, _, .nl h, .nl n e t => .nl (fun z => n (.inl z)) (b.old e fun z => n (.inr z)) (h.rp b t)
  | _, _, _, .no h, .no n hc e t => .no (fun z => n (.inl z)) hc (b.old e fun z => n (.inr z)) (h.rp b t)
  | _, _, _, .lst h1 h2 h3, .ref e => by
    obtain ⟨o, e2, ro⟩ := b.hr1.at e
    rw [h2] at e2
    cases e2
    obtain ⟨vs, q, t⟩ := ro
    exact .nl (fun z => b.hr1.mnb (List.mem_of_getElem? e) (.inl z)) (by rw [b.new e h1]; exact q) (h3.rp b t)
  | _, _, _, .ins h1 h2 h3, .ref e => by
    obtain ⟨o, e2, ro⟩ := b.hr1.at e
    rw [h2] at e2
    cases e2
    obtain ⟨hc, dx, fv, q, t⟩ := ro
    exact .no (fun z => b.hr1.mnb (List.mem_of_getElem? e) (.inl z)) hc (by rw [b.new e h1]; exact q) (h3.rp b t)
theorem Ffs.rp (b : Bk T K Z H F M mu H1 F1 N mu1) : ∀ {ds ts : List D} {vs : List V}, Ffs N av ds ts → Rps (T.lend mu) K F1 mu1 vs ds → Rps T K (bkF av mu mu1 H1 F1) mu2 vs ts
  | _, _, _, .nil, .nil => .nil
  | _, _, _, .cons h t, .cons r rs => .cons (h.rp b r) (t.rp b rs)
theorem Fff.rp (b : Bk T K Z H F M mu H1 F1 N mu1) : ∀ {ds ts : List (Nat × D)} {vs : List (Str × V)}, Fff N av ds ts → Rfs (T.lend mu) K F1 mu1 vs ds → Rfs T K (bkF av mu mu1 H1 F1) mu2 vs ts
  | _, _, _, .nil, .nil => .nil
  | _, _, _, .cons h t, .cons e r rs => .cons e (h.rp b r) (t.rp b rs)
end
theorem Bk.gr (b : Bk T K Z H F M mu H1 F1 N mu1) (h : ∀ (l : Nat) (a : Addr), mu[l]? = some a → mu2[l]? = some a) : Gr F mu (bkF av mu mu1 H1 F1) mu2 := ⟨fun _ _ h => b.keep h, h⟩
theorem Bk.obj (b : Bk T K Z H F M mu H1 F1 N mu1) (h : ∀ (l : Nat) (a : Addr), mu[l]? = some a → mu2[l]? = some a) {l : Nat} {a : Addr} {o : MO} (e1 : mu[l]? = some a) (e2 : M[l]? = some o) : ObjR T K (bkF av mu mu1 H1 F1) mu2 H1 a o :=
  ((b.hr.obj l a o e1 e2).mono (b.gr h)).heap (b.at_ (List.mem_of_getElem? e1)).2.1
theorem Bk.out (b : Bk T K Z H F M mu H1 F1 N mu1) : HR T K Z H1 M mu (bkF [] mu mu1 H1 F1) := by
  refine ⟨b.sub, b.hr.len, b.hr.nd, fun a h => by unfold bkF; rw [if_pos (.inl h)], fun l a o e1 e2 => b.obj (fun _ _ h => h) e1 e2, fun a o h => ?_, b.bor⟩
  obtain ⟨z1, z2, z3, _⟩ := b.zs (av := []) a o h
  exact ⟨z1, z2, z3⟩
theorem Bk.outL (b : Bk T K Z H F M mu H1 F1 N mu1) {l : Nat} {a : Addr} {xs ts : List D} (e : mu1[l]? = some a) (e2 : N[l]? = some (.lst xs)) (f : Ffs N [l] xs ts) : HR T K Z H1 (M ++ [.lst ts]) (mu ++ [a]) (bkF [l] mu mu1 H1 F1) := by
  have hm := List.mem_of_getElem? e
  have hn : a ∉ mu := fun z => (b.at_ z).2.2 hm
  have gm : ∀ (l : Nat) (x : Addr), mu[l]? = some x → (mu ++ [a])[l]? = some x := fun l x h => by rw [List.getElem?_append_left (List.getElem?_eq_some_iff.mp h).1]; exact h
  refine ⟨b.sub, by simp [b.hr.len], ?_, fun x h => ?_, fun j x o q1 q2 => ?_, fun x o h => ?_, b.bor⟩
  · exact List.nodup_append.mpr ⟨b.hr.nd, by simp, fun x hx y hy => by simp at hy; subst hy; intro z; subst z; exact hn hx⟩
  · unfold bkF
    rw [if_pos]
    rcases List.mem_append.mp h with h | h
    · exact .inl h
    · simp at h
      subst h
      exact .inr ⟨l, by simp, e⟩
  · by_cases hj : j < mu.length
    · rw [List.getElem?_append_left hj] at q1
      rw [List.getElem?_append_left (by rw [← b.hr.len]; exact hj)] at q2
      exact b.obj gm q1 q2
    · have hj2 : j = mu.length := by
        have := (List.getElem?_eq_some_iff.mp q1).1
        simp at this
        omega
      subst hj2
      rw [List.getElem?_append_right (Nat.le_refl _)] at q1
      rw [b.hr.len, List.getElem?_append_right (Nat.le_refl _)] at q2
      simp at q1 q2
      subst q1 q2
      obtain ⟨vs, q, t⟩ := b.hr1.obj l a _ e e2
      exact ⟨vs, q, f.rp b t⟩
  · obtain ⟨z1, z2, z3, z4⟩ := b.zs (av := [l]) x o h
    refine ⟨z1, z2, fun z => ?_⟩
    rcases List.mem_append.mp z with z | z
    · exact z3 z
    · simp at z
      subst z
      exact z4 hm
end
theorem Ent.pure {T : Tb} {φ : Fn} {ds ds' : List D} {M N : Store} {d t : D} (h : Vws M ds ds') (e : φ ds' [] = .ok d N) (f : Ff N [] d t) : Ent T φ ds M (.ok t M) := fun K b0 Z H F w mu vs Q hr rd p => by
  refine ⟨_, Z, ds', [], [], pkF F H mu [], hr.all0, h.rp hr rd, ?_⟩
  rw [e]
  intro H1 mu1 F1 g1 hr1 v rv
  have b : Bk (T.wb b0) K Z H F M mu H1 F1 N mu1 := ⟨hr, g1, hr1⟩
  exact p H1 mu _ (b.gr fun _ _ h => h) b.out v (f.rp b rv)
theorem Ent.pureX {T : Tb} {φ : Fn} {ds ds' : List D} {M N : Store} {c : Nat} {fs ts : List (Nat × D)} (h : Vws M ds ds') (e : φ ds' [] = .exc c fs N) (f : Fff N [] fs ts) : Ent T φ ds M (.exc c ts M) := fun K b0 Z H F w mu vs Q hr rd p => by
  refine ⟨_, Z, ds', [], [], pkF F H mu [], hr.all0, h.rp hr rd, ?_⟩
  rw [e]
  intro H1 mu1 F1 g1 hr1 cls d ⟨x1, a, fv, x2, x3, x4⟩
  have b : Bk (T.wb b0) K Z H F M mu H1 F1 N mu1 := ⟨hr, g1, hr1⟩
  exact p H1 mu _ (b.gr fun _ _ h => h) b.out cls d ⟨x1, a, fv, x2, x3, f.rp b x4⟩
theorem Ent.pureL {T : Tb} {φ : Fn} {ds ds' : List D} {M N : Store} {l : Nat} {xs ts : List D} (h : Vws M ds ds') (e : φ ds' [] = .ok (.ref l) N) (e2 : N[l]? = some (.lst xs)) (f : Ffs N [l] xs ts) : Ent T φ ds M (.ok (.ref M.length) (M ++ [.lst ts])) := fun K b0 Z H F w mu vs Q hr rd p => by
  refine ⟨_, Z, ds', [], [], pkF F H mu [], hr.all0, h.rp hr rd, ?_⟩
  rw [e]
  intro H1 mu1 F1 g1 hr1 v rv
  have b : Bk (T.wb b0) K Z H F M mu H1 F1 N mu1 := ⟨hr, g1, hr1⟩
  cases rv with
  | @ref a _ q =>
    refine p H1 (mu ++ [a]) _ (b.gr fun l x h => ?_) (b.outL q e2 f) _ (.ref ?_)
    · rw [List.getElem?_append_left (List.getElem?_eq_some_iff.mp h).1]
      exact h
    · rw [← hr.len, List.getElem?_append_right (Nat.le_refl _)]
      simp
section
variable {T : Tb} {G : Gm} {k : Nat} {P : Program} {w : World} {K : PySem.W.Frag} {mg : Str → Option Value} {base : Heap}
theorem env_start {F : Hp} {mu : List Addr} {N : List Str} {vs : List V} {ds : List D} (r : Rps T K F mu vs ds) : EnvR T K F mu (L2.start N vs) (Lp.start N.length ds) := by
  have hl := r.len
  refine ⟨by simp [L2.start, Lp.start, hl], fun i d e => ?_⟩
  unfold Lp.start at e
  unfold L2.start
  by_cases hi : i < ds.length
  · rw [List.getElem?_append_left (by simpa using hi), List.getElem?_map] at e
    cases e2 : ds[i]? with
    | none => rw [e2] at e; cases e
    | some x =>
      rw [e2] at e
      have e : x = d := by simpa using e
      subst e
      obtain ⟨v, h1, h2⟩ := r.get e2
      exact ⟨v, by rw [List.getElem?_append_left (by simp [hl]; exact hi), List.getElem?_map, h1] <;> rfl, h2⟩
  · rw [List.getElem?_append_right (by simpa using hi), List.getElem?_replicate] at e
    split at e
    · cases e
    · cases e
set_option smartUnfolding false in
theorem mSs_wb {T : Tb} {b : Addr → Prop} {N : List Str} {sc : Scope} {s : S} {st : List Stmt} : mSs (T.wb b) N sc s st = mSs T N sc s st := by rfl
theorem Glb.wb {T : Tb} (hg : Glb T G k P w K mg base) (b : Addr → Prop) : Glb (T.wb b) G k P w K mg base :=
  ⟨hg.nd, hg.str, hg.blt, hg.fn, hg.gco, hg.cls, hg.mfl, hg.mth, hg.inil, hg.ini⟩
theorem def_ok {x qual : Str} {params : Arguments} {body : List Stmt} {scope : Scope} {dvs : List V} {kws : List (Str × V)} {f : Addr} {fd : FuncData} {N ps : List Str} {s : S} {φ : Fn}
    (F : FunD K x qual params body scope dvs kws f fd) (S : FnScope N ps scope) (hm : mSs T N scope s body = true) (hg : Glb T G k P w K mg base)
    (hφ : ∀ ds M, φ ds M ≠ .bad → ds.length = ps.length ∧ Ent T (fun ds M => fin (exec G s (Lp.start N.length ds) M)) ds M (φ ds M)) : FnOk P w K mg base (L2.CX P w) (k + 2) f fd ps (spOf T K φ) := by
  have nb : ∀ {b : Addr → Prop} {Z F : Hp} {mu : List Addr} {E : XK} {ds : List D} {M : Store} {Q : VK}, PG (T.wb b) K Z E F mu (φ ds M) (QD (T.wb b) K Q) → φ ds M ≠ .bad := fun h e => by rw [e] at h; exact h.elim
  refine F.ok S (fun vs H Q E ⟨b, Z, ds, M, mu, F, hr, r, p⟩ => by rw [r.len]; exact (hφ ds M (nb p)).1) fun cdv A outer s0 H vs Q E hr0 ⟨b, Z, ds, M, mu, F, hr, r, p⟩ => ?_
  obtain ⟨b, Z, ds, M, mu, F, hr, r, p2⟩ := (hφ ds M (nb p)).2 K b Z H F E mu vs Q hr r p
  have hg' : GoodS (T.wb b) G k (cxOf (L2.CX P w) P w K mg base N qual scope f cdv A outer s0 H E) E :=
    ⟨⟨S.nd, rfl, hr0, hg.wb b, takes_of rfl rfl rfl rfl⟩, S.kind, fun _ _ => .inl rfl, passes_of rfl⟩
  refine ⟨_, (ss_all s).l hg' (mSs_wb.trans hm), Z, _, M, mu, F, hr, env_start r, ?_⟩
  replace p2 : PG (T.wb b) K Z E F mu (fin (exec G s (Lp.start N.length ds) M)) (QD (T.wb b) K Q) := p2
  cases e : exec G s (Lp.start N.length ds) M with
  | bad => rw [e] at p2; exact p2.elim
  | exc c fs M' => rw [e] at p2; exact p2
  | ok o M' =>
    rw [e] at p2
    cases o with
    | nx env => exact fun H1 mu1 F1 g1 hr1 σ' er => p2 H1 mu1 F1 g1 hr1 _ .non
    | ret d => exact p2
    | brk env => exact p2.elim
def scB (N ps : List Str) (sc : Scope) : Bool :=
  (match sc.kind with | .function => true | _ => false) && !sc.isCoroutine && !sc.isGenerator && decide N.Nodup && decide (N.take ps.length = ps) && ps.all (fun x => isLocB sc x) && sc.names.all fun y => match y.2 with | .free => false | _ => true
theorem scope_of {N ps : List Str} {sc : Scope} (h : scB N ps sc = true) : FnScope N ps sc := by
  unfold scB at h
  simp only [Bool.and_eq_true, Bool.not_eq_true', decide_eq_true_eq, List.all_eq_true] at h
  obtain ⟨⟨⟨⟨⟨⟨h1, h2⟩, h3⟩, h4⟩, h5⟩, h6⟩, h7⟩ := h
  refine ⟨?_, h2, h3, h4, h5, fun x hx => loc_of (h6 x hx), fun y hy e => ?_⟩
  · split at h1
    · assumption
    · cases h1
  · have := h7 y hy
    rw [e] at this
    cases this
end
end Lp

namespace Lp
open PySem PySem.Spec L2
structure Item where
  d : He.DefD
  N : List Str
  ps : List Str
  s : S
abbrev BindsOk (d : He.DefD) (ps : List Str) : Prop := ∀ (kV doc pm : Value) (an : Option Addr) (cdv ct : Value) (us : List Value), us.length = ps.length → bindArgs (PySem.W.fnOf d.name d.qual d.params d.body d.scope .none kV doc pm an cdv ct) ⟨us, []⟩ = pure (ps.zip us)
structure ItemOk (T : Tb) (it : Item) : Prop where
  m : mSs T it.N it.d.scope it.s it.d.body = true
  sc : FnScope it.N it.ps it.d.scope
  dfl : it.d.dfl = []
  kwd : it.d.kwd = []
  b : BindsOk it.d it.ps
def gmOf (T : Tb) (fn : Nat → Fn) : Gm where
  fn := fn
  mth := fun c m => T.mth.lookup (c, m)
  ini := fun c => T.ini.lookup c
  gco := fun k => match T.gcs[k]? with | some (_, d) => d | none => .non
  str := fun k => T.txt.getD k ""
  cfl := fun c f => T.cfs.contains (c, f)
  mfl := fun m => T.mfs.lookup m
def mflB (T : Tb) : Bool := (List.range T.mts.length).all fun m => match T.mfs.lookup m with | none => decide (T.mts.getD m "" ∉ T.fls) | some f => decide (T.fls[f]? = some (T.mts.getD m ""))
structure RowFacts (T : Tb) (its : List (Nat × Item)) (K : PySem.W.Frag) (mg : Str → Option Value) : Prop where
  nd : T.fls.Nodup
  blt : ∀ x, x ∈ blts → mg x = none
  fn : ∀ (i : Nat) (x : Str), T.fns[i]? = some x → x ≠ "" → ∃ it : Item, its.lookup i = some it ∧ mg x = some (.ref (He.fAd K it.d.at_))
  gco : ∀ (i : Nat) (x : Str) (d : D), T.gcs[i]? = some (x, d) → x ≠ "" → GcoOk K mg x d
  cls : ∀ c : Nat, T.okC c → mg (T.cls.getD c "") = some (.ref (T.cad K c)) ∧ Cls K (T.cad K c) ∧ ∀ (i : Nat) (f : Str), T.cfs.contains (c, i) = true → T.fls[i]? = some f → NoAttr K (T.cad K c) f
  mfl : mflB T = true
  mth : ∀ (c m i : Nat), T.okC c → T.mth.lookup (c, m) = some i → ∃ (x : Str) (it : Item), T.mts[m]? = some x ∧ its.lookup i = some it ∧ Meth K (T.cad K c) x (He.fAd K it.d.at_)
  ini : ∀ (c i : Nat), T.okC c → T.ini.lookup c = some i → ∃ it : Item, its.lookup i = some it ∧ Mk K (T.cad K c) (He.fAd K it.d.at_)
  fd : ∀ (i : Nat) (it : Item), its.lookup i = some it → ∃ fd, FunD K it.d.name it.d.qual it.d.params it.d.body it.d.scope [] [] (He.fAd K it.d.at_) fd
section
variable {T : Tb} {its : List (Nat × Item)} {P : Program} {w : World} {K : PySem.W.Frag} {mg : Str → Option Value} {base : Heap} {k : Nat}
theorem glb_of {fn : Nat → Fn} (R : RowFacts T its K mg) (ok : ∀ (i : Nat) (it : Item), its.lookup i = some it → ItemOk T it)
    (h : ∀ (i : Nat) (it : Item) (fd : FuncData), its.lookup i = some it → FunD K it.d.name it.d.qual it.d.params it.d.body it.d.scope [] [] (He.fAd K it.d.at_) fd → FnOk P w K mg base (L2.CX P w) k (He.fAd K it.d.at_) fd it.ps (spOf T K (fn i))) :
    Glb T (gmOf T fn) k P w K mg base := by
  refine ⟨R.nd, fun i s e => ?_, R.blt, fun i x e hx => ?_, fun i x d e => ?_, R.cls, fun m x e => ?_, fun c m i hc e => ?_, fun c e => e, fun c i hc e => ?_⟩
  · show T.txt.getD i "" = s
    rw [List.getD_eq_getElem?_getD, e] <;> rfl
  · obtain ⟨it, h1, h2⟩ := R.fn i x e hx
    obtain ⟨fd, F⟩ := R.fd i it h1
    exact ⟨_, fd, it.ps, h2, F.kp, F.bindsN (ok i it h1).b, h i it fd h1 F⟩
  · refine ⟨?_, R.gco i x d e⟩
    show (match T.gcs[i]? with | some (_, d) => d | none => .non) = d
    rw [e]
  · have q := List.all_eq_true.mp R.mfl m (List.mem_range.mpr (List.getElem?_eq_some_iff.mp e).1)
    have hx : T.mts.getD m "" = x := by rw [List.getD_eq_getElem?_getD, e] <;> rfl
    rw [hx] at q
    show match T.mfs.lookup m with | none => x ∉ T.fls | some f => T.fls[f]? = some x
    cases e2 : T.mfs.lookup m with
    | none => rw [e2] at q; exact of_decide_eq_true q
    | some f => rw [e2] at q; exact of_decide_eq_true q
  · obtain ⟨x, it, h1, h2, h4⟩ := R.mth c m i hc e
    obtain ⟨fd, F⟩ := R.fd i it h2
    exact ⟨x, _, fd, it.ps, h1, h4, F.bindsN (ok i it h2).b, h i it fd h2 F⟩
  · obtain ⟨it, h1, h3⟩ := R.ini c i hc e
    obtain ⟨fd, F⟩ := R.fd i it h1
    exact ⟨_, fd, it.ps, h3, F.bindsN (ok i it h1).b, h i it fd h1 F⟩
theorem fnok_bad {f : Addr} {fd : FuncData} {ps : List Str} {φ : Fn} (h : ∀ ds M, φ ds M = .bad) : FnOk P w K mg base (L2.CX P w) k f fd ps (spOf T K φ) := by
  have no : ∀ {vs : List V} {H : Hp} {Q : VK} {E : XK}, spOf T K φ vs H Q E → False := by
    rintro vs H Q E ⟨b, Z, ds, M, mu, F, hr, r, p⟩
    rw [h] at p
    exact p.elim
  exact ⟨fun _ _ _ _ z => (no z).elim, fun _ _ _ _ _ _ _ _ _ _ _ _ _ z => (no z).elim⟩
theorem chain {fnS : Nat → Nat → Fn} {n : Nat} (R : RowFacts T its K mg) (ok : ∀ (i : Nat) (it : Item), its.lookup i = some it → ItemOk T it) (h0 : ∀ i ds M, fnS 0 i ds M = .bad)
    (hs : ∀ (j i : Nat) (it : Item), j < n → its.lookup i = some it → fnS (j + 1) i = fnS j i ∨ ∀ ds M, fnS (j + 1) i ds M ≠ .bad → ds.length = it.ps.length ∧ Ent T (fun ds M => fin (exec (gmOf T (fnS j)) it.s (Lp.start it.N.length ds) M)) ds M (fnS (j + 1) i ds M)) :
    ∀ j, j ≤ n → ∀ (i : Nat) (it : Item) (fd : FuncData), its.lookup i = some it → FunD K it.d.name it.d.qual it.d.params it.d.body it.d.scope [] [] (He.fAd K it.d.at_) fd → FnOk P w K mg base (L2.CX P w) (2 * j) (He.fAd K it.d.at_) fd it.ps (spOf T K (fnS j i))
  | 0, _, i, it, fd, _, _ => fnok_bad (h0 i)
  | j + 1, hj, i, it, fd, e, F => by
    have ih := chain R ok h0 hs j (Nat.le_of_succ_le hj)
    rcases hs j i it hj e with q | q
    · rw [q]
      exact (ih i it fd e F).mono (by omega)
    · exact def_ok F (ok i it e).sc (ok i it e).m (glb_of R ok ih) q
end
def gcoB (K : PySem.W.Frag) (x : Str) : D → Bool
  | .int i => (He.Fa.int x i).ok K
  | .arr ds => (He.Fa.glo x).ok K && He.tupB K x (ds.map fun d => match d with | .int i => .int i | .str s => .str s | _ => .non) && ds.all fun d => match d with | .int _ => true | .str _ => true | _ => false
  | _ => false
def rowB (T : Tb) (its : List (Nat × Item)) (K : PySem.W.Frag) : Bool :=
  (blts.all fun x => (He.Fa.free x).ok K) && ((List.range T.fns.length).all fun i => T.fns.getD i "" == "" || match its.lookup i, T.fns[i]? with | some it, some x => decide (it.d.at_ = (x, none)) && (He.Fa.glo x).ok K | _, _ => false) &&
    (T.gcs.all fun q => q.1 == "" || gcoB K q.1 q.2) && (T.cls.all fun c => c == "" || (He.Fa.glo c).ok K && (He.Fa.cls c).ok K) && (T.cfs.all fun q => T.cls.getD q.1 "" == "" || (He.Fa.noat (T.cls.getD q.1 "") (T.fls.getD q.2 "")).ok K) &&
    (T.mth.all fun q => T.cls.getD q.1.1 "" == "" || match T.mts[q.1.2]?, its.lookup q.2 with | some m, some it => decide (it.d.at_ = (T.cls.getD q.1.1 "", some m)) && (He.Fa.meth (T.cls.getD q.1.1 "") m).ok K | _, _ => false) &&
    (T.ini.all fun q => T.cls.getD q.1 "" == "" || match its.lookup q.2 with | some it => decide (it.d.at_ = (T.cls.getD q.1 "", some ("__init__" : Str))) && (He.Fa.mkr (T.cls.getD q.1 "")).ok K | _ => false)
theorem gco_ok {K : PySem.W.Frag} {h : Heap} {mg : Str → Option Value} (X : K.In h) (G : h.Ns mainGlobals mg) {x : Str} {d : D} (c : gcoB K x d = true) : GcoOk K mg x d := by
  cases d with
  | int i => exact He.int_ok X G c
  | arr ds =>
    simp only [gcoB, Bool.and_eq_true] at c
    obtain ⟨⟨c1, c2⟩, c3⟩ := c
    refine ⟨_, _, He.glo_ok X G c1, He.tupB_ok c2, fun T F mu => ?_⟩
    clear c2
    induction ds with
    | nil => exact .nil
    | cons d ds ih =>
      rw [List.all_cons, Bool.and_eq_true] at c3
      refine .cons ?_ (ih c3.2)
      have h1 := c3.1
      cases d <;> first | exact .int _ | exact .str _ | cases h1
  | _ => cases c
theorem lookup_mem {α β : Type} [BEq α] [LawfulBEq α] : ∀ {l : List (α × β)} {a : α} {b : β}, l.lookup a = some b → (a, b) ∈ l
  | (x, y) :: l, a, b, h => by
    rw [List.lookup_cons] at h
    by_cases e : a = x
    · subst e
      simp at h
      subst h
      exact List.mem_cons_self
    · have : (a == x) = false := beq_eq_false_iff_ne.mpr e
      rw [this] at h
      exact List.mem_cons_of_mem _ (lookup_mem h)
theorem facts_of {T : Tb} {its : List (Nat × Item)} {K : PySem.W.Frag} {h : Heap} {mg : Str → Option Value} (X : K.In h) (G : h.Ns mainGlobals mg) (nd : T.fls.Nodup) (ml : mflB T = true) (c : rowB T its K = true) (ok : ∀ (i : Nat) (it : Item), its.lookup i = some it → ItemOk T it) (sd : He.SaysD [] (its.map (·.2.d)) K) : RowFacts T its K mg := by
  unfold rowB at c
  simp only [Bool.and_eq_true, List.all_eq_true] at c
  obtain ⟨⟨⟨⟨⟨⟨c1, c2⟩, c3⟩, c4⟩, c45⟩, c5⟩, c6⟩ := c
  refine ⟨nd, fun x hx => He.free_ok X G (c1 x hx), fun i x e hx => ?_, fun i x d e hx => gco_ok X G ((Bool.or_eq_true _ _ ▸ c3 _ (List.mem_of_getElem? e)).resolve_left fun z => hx (beq_iff_eq.mp z)), fun i hi => ?_, ml, fun cc m i hc e => ?_, fun cc i hc e => ?_, fun i it e => ?_⟩
  · have q := c2 i (List.mem_range.mpr (List.getElem?_eq_some_iff.mp e).1)
    have hx2 : (T.fns.getD i "" == "") = false := by
      rw [List.getD_eq_getElem?_getD, e]
      exact beq_eq_false_iff_ne.mpr hx
    rw [hx2, e, Bool.false_or] at q
    cases e2 : its.lookup i with
    | none => rw [e2] at q; cases q
    | some it =>
      rw [e2] at q
      simp only [Bool.and_eq_true, decide_eq_true_eq] at q
      refine ⟨it, rfl, ?_⟩
      rw [q.1]
      exact He.glo_ok X G q.2
  · obtain ⟨hi1, hi2⟩ := hi
    have q := c4 (T.cls.getD i "") (by rw [List.getD_eq_getElem?_getD, List.getElem?_eq_getElem hi1]; exact List.getElem_mem hi1)
    rw [beq_eq_false_iff_ne.mpr hi2, Bool.false_or] at q
    simp only [Bool.and_eq_true] at q
    refine ⟨He.glo_ok X G q.1, He.cls_ok q.2, fun j f hj hf => ?_⟩
    have z := c45 (i, j) (by simpa using hj)
    simp only at z
    rw [beq_eq_false_iff_ne.mpr hi2, Bool.false_or, List.getD_eq_getElem?_getD (l := T.fls), hf] at z
    exact He.noat_ok z
  · have q := c5 _ (lookup_mem e)
    simp only at q
    rw [beq_eq_false_iff_ne.mpr hc.2, Bool.false_or] at q
    cases e2 : T.mts[m]? with
    | none => rw [e2] at q; cases q
    | some y => cases e3 : its.lookup i with
      | none => rw [e2, e3] at q; cases q
      | some it =>
        rw [e2, e3] at q
        simp only [Bool.and_eq_true, decide_eq_true_eq] at q
        refine ⟨y, it, rfl, rfl, ?_⟩
        rw [q.1]
        exact He.meth_ok q.2
  · have q := c6 _ (lookup_mem e)
    simp only at q
    rw [beq_eq_false_iff_ne.mpr hc.2, Bool.false_or] at q
    cases e3 : its.lookup i with
    | none => rw [e3] at q; cases q
    | some it =>
      rw [e3] at q
      simp only [Bool.and_eq_true, decide_eq_true_eq] at q
      refine ⟨it, rfl, ?_⟩
      rw [q.1]
      exact He.mkr_ok q.2
  · obtain ⟨j, hj⟩ := List.mem_iff_getElem?.mp (lookup_mem e)
    obtain ⟨fd, F⟩ := sd.def_ j (d := it.d) (by rw [List.getElem?_map, hj] <;> rfl)
    have o := ok i it e
    refine ⟨fd, ?_⟩
    have e1 : it.d.dvs K = [] := by unfold He.DefD.dvs; rw [o.dfl] <;> rfl
    have e2 : it.d.kws K = [] := by unfold He.DefD.kws; rw [o.kwd] <;> rfl
    rw [e1, e2] at F
    exact F
def obsL (n : Nat) (T : Tb) (its : List (Nat × Item)) (g : Addr → Option Obj) : He.AlD :=
  (rowB T its (He.frG g (He.asD g n)) && (its.map (·.2.d)).all fun d => d.ok (He.frG g (He.asD g n)), (its.map (·.2.d)).map fun d => He.fnW (He.frG g (He.asD g n)) d.at_)
def SaysL (T : Tb) (its : List (Nat × Item)) (K : PySem.W.Frag) : Prop := rowB T its K = true ∧ He.SaysD [] (its.map (·.2.d)) K
def hookL (n : Nat) (T : Tb) (its : List (Nat × Item)) : PySem.W.Hook where
  α := He.AlD
  obs := fun s => obsL n T its s.heap.get?
  val := fun _ => He.valD (its.map (·.2.d))
  says := fun _ h => ∃ K : PySem.W.Frag, K.In h ∧ SaysL T its K
  of := fun _ _ e => by
    have e1 := congrArg (fun z : He.AlD => z.1) e
    have e2 := congrArg (fun z : He.AlD => z.2) e
    obtain ⟨h1, h2⟩ := He.ba e1
    exact ⟨_, He.frG_in, h1, Prod.ext h2 e2⟩
  keeps := fun _ _ _ ⟨K, hK, c⟩ k => ⟨K, PySem.W.Frag.In.keeps hK k, c⟩
theorem obsL_eq {n : Nat} {T : Tb} {its : List (Nat × Item)} {g : Addr → Option Obj} {s : Shared} (h : ∀ a, g a = s.heap.get? a) : obsL n T its g = (hookL n T its).obs s := by
  have e : g = s.heap.get? := funext h
  rw [e] <;> rfl
theorem cx_none {P : Program} {w : World} (H : Hp) (s : Shared) (e : Value) (s' : Shared) (z : L2.CX P w [] H s (fun _ _ _ => False) e s') : False := by
  obtain ⟨a, B, H', cls, d, _, _, _, _, _, _, _, z⟩ := z
  exact z
theorem law_facts {T : Tb} {its : List (Nat × Item)} {n m li : Nat} {il : Item} {x y : Str} {P : Program} {w : World} {K : PySem.W.Frag} {mg : Str → Option Value} {h : Heap} {fa : Addr} {fnS : Nat → Nat → Fn} (X : K.In h) (G : h.Ns mainGlobals mg) (c : SaysL T its K) (nd : T.fls.Nodup) (ml : mflB T = true)
    (ok : ∀ (i : Nat) (it : Item), its.lookup i = some it → ItemOk T it) (h0 : ∀ i ds M, fnS 0 i ds M = .bad)
    (hs : ∀ (j i : Nat) (it : Item), j < n → its.lookup i = some it → fnS (j + 1) i = fnS j i ∨ ∀ ds M, fnS (j + 1) i ds M ≠ .bad → ds.length = it.ps.length ∧ Ent T (fun ds M => fin (exec (gmOf T (fnS j)) it.s (Lp.start it.N.length ds) M)) ds M (fnS (j + 1) i ds M))
    (e : its.lookup li = some il) (ex : T.fns[li]? = some y) (hy : y ≠ "") (ep : il.ps = [x]) (hfa : mg y = some (.ref fa)) (hl : ∀ ns : List Int, ns.length ≤ m → ∃ M, fnS n li [.arr (ns.map D.int)] [] = .ok (.bl true) M) :
    ∃ (K : PySem.W.Frag) (fd : FuncData) (sp : Sp), K.In h ∧ (∀ (s : Shared) (u : Value), BindsTo s fd ⟨[u], []⟩ [(x, u)]) ∧
        (∀ (H : Hp) (a : Addr) (ns : List Int), ns.length ≤ m → Only H → SqL K H a (ns.map V.int) → sp [.ref a] H (fun v _ => v = .bl true) fun _ _ _ => False) ∧
        ∀ base : Heap, K.In base → base.Ns mainGlobals mg → FnOk P w K mg base (L2.CX P w) (2 * n) fa fd [x] sp := by
  have R := facts_of X G nd ml c.1 ok c.2
  obtain ⟨fd, F⟩ := R.fd li il e
  obtain ⟨it, e2, e3⟩ := R.fn li y ex hy
  rw [e] at e2
  cases e2
  rw [hfa] at e3
  cases e3
  refine ⟨K, fd, spOf T K (fnS n li), X, fun s u => ?_, fun H a ns hlen _ hS => ?_, fun base _ _ => ?_⟩
  · have b := FunD.bindsA F (ok li il e).b s [u] (by rw [ep] <;> rfl)
    rw [ep] at b
    exact b
  · obtain ⟨M, q⟩ := hl ns hlen
    refine ⟨fun _ => False, fun _ => none, [.arr (ns.map D.int)], [], [], H, ⟨fun _ _ h => h, rfl, .nil, fun _ h => absurd h (by simp), fun _ _ _ h => by simp at h, fun _ _ h => by simp at h, fun _ h => h.elim⟩, .cons (.arrL hS ?_) .nil, ?_⟩
    · clear q hlen hS
      induction ns with
      | nil => exact .nil
      | cons i ns ih => exact .cons (.int i) ih
    · rw [q]
      intro H' mu' F' _ _ v rv
      cases rv
      rfl
  · have z := chain (base := base) (P := P) (w := w) R ok h0 hs n (Nat.le_refl _) li il fd e F
    rw [ep] at z
    exact z
end Lp

namespace Lp
open PySem PySem.Spec L2
structure Spec where
  ar : Nat
  dom : List D → Store → Prop
  post : List D → Store → Res D → Prop
open Classical in
noncomputable def pickF (T : Tb) (S : Spec) (φ : Fn) : Fn := fun ds M => if h : ds.length = S.ar ∧ S.dom ds M ∧ ∃ r, Ent T φ ds M r ∧ S.post ds M r then h.2.2.choose else .bad
def Meets (S : Spec) (φ : Fn) : Prop := ∀ ds M, ds.length = S.ar → S.dom ds M → S.post ds M (φ ds M)
def Shows (T : Tb) (S : Spec) (φ : Fn) : Prop := ∀ ds M, ds.length = S.ar → S.dom ds M → ∃ r, Ent T φ ds M r ∧ S.post ds M r
theorem Shows.meets {T : Tb} {S : Spec} {φ : Fn} (h : Shows T S φ) : Meets S (pickF T S φ) := fun ds M hl hd => by
  have q : ds.length = S.ar ∧ S.dom ds M ∧ ∃ r, Ent T φ ds M r ∧ S.post ds M r := ⟨hl, hd, h ds M hl hd⟩
  unfold pickF
  rw [dif_pos q]
  exact q.2.2.choose_spec.2
theorem pick_ent {T : Tb} {S : Spec} {φ : Fn} {ds : List D} {M : Store} (h : pickF T S φ ds M ≠ .bad) : ds.length = S.ar ∧ Ent T φ ds M (pickF T S φ ds M) := by
  unfold pickF at h ⊢
  split at h
  · rename_i q
    rw [dif_pos q]
    exact ⟨q.1, q.2.2.choose_spec.1⟩
  · exact absurd rfl h
noncomputable def runF (G : Gm) (s : S) (n : Nat) : Fn := fun ds M => fin (exec G s (Lp.start n ds) M)
noncomputable def fnL (T : Tb) (its : List (Nat × Item)) : List (List (Nat × Spec)) → Nat → Fn
  | [] => fun _ _ _ => .bad
  | g :: rest => fun i => match g.lookup i with
    | some S => (match its.lookup i with
      | some it => pickF T S (runF (gmOf T (fnL T its rest)) it.s it.N.length)
      | none => fun _ _ => .bad)
    | none => fnL T its rest i
noncomputable abbrev gmL (T : Tb) (its : List (Nat × Item)) (L : List (List (Nat × Spec))) : Gm := gmOf T (fnL T its L)
theorem meets_new {T : Tb} {its : List (Nat × Item)} {L : List (List (Nat × Spec))} {g : List (Nat × Spec)} {k : Nat} {S : Spec} {it : Item} (e : g.lookup k = some S) (hit : its.lookup k = some it)
    (h : Shows T S (runF (gmL T its L) it.s it.N.length)) : Meets S ((gmL T its (g :: L)).fn k) := by
  have q : (gmL T its (g :: L)).fn k = pickF T S (runF (gmL T its L) it.s it.N.length) := by
    show (match g.lookup k with | some S => (match its.lookup k with | some it => pickF T S (runF (gmOf T (fnL T its L)) it.s it.N.length) | none => fun _ _ => .bad) | none => fnL T its L k) = _
    rw [e, hit]
  rw [q]
  exact h.meets
theorem fnL_lift {T : Tb} {its : List (Nat × Item)} {L : List (List (Nat × Spec))} {k : Nat} : ∀ {pre : List (List (Nat × Spec))}, (pre.all fun g => (g.lookup k).isNone) = true → fnL T its (pre ++ L) k = fnL T its L k
  | [], _ => rfl
  | g :: pre, h => by
    rw [List.all_cons, Bool.and_eq_true] at h
    have h1 : g.lookup k = none := by simpa using h.1
    show (match g.lookup k with | some S => (match its.lookup k with | some it => pickF T S (runF (gmOf T (fnL T its (pre ++ L))) it.s it.N.length) | none => fun _ _ => .bad) | none => fnL T its (pre ++ L) k) = _
    rw [h1]
    exact fnL_lift h.2
theorem meets_old {T : Tb} {its : List (Nat × Item)} {L L' : List (List (Nat × Spec))} (pre : List (List (Nat × Spec))) {k : Nat} {S : Spec} (e : L' = pre ++ L) (h : (pre.all fun g => (g.lookup k).isNone) = true) (m : Meets S ((gmL T its L).fn k)) : Meets S ((gmL T its L').fn k) := by
  have q : (gmL T its L').fn k = (gmL T its L).fn k := by rw [e]; exact fnL_lift h
  rw [q]
  exact m
theorem stages {T : Tb} {its : List (Nat × Item)} (L : List (List (Nat × Spec))) (ar : ∀ g, g ∈ L → ∀ q, q ∈ g → ∀ it, its.lookup q.1 = some it → q.2.ar = it.ps.length) :
    ∃ fnS : Nat → Nat → Fn, fnS L.length = fnL T its L ∧ (∀ i ds M, fnS 0 i ds M = .bad) ∧ ∀ (j i : Nat) (it : Item), j < L.length → its.lookup i = some it → fnS (j + 1) i = fnS j i ∨
      ∀ ds M, fnS (j + 1) i ds M ≠ .bad → ds.length = it.ps.length ∧ Ent T (fun ds M => fin (exec (gmOf T (fnS j)) it.s (Lp.start it.N.length ds) M)) ds M (fnS (j + 1) i ds M) := by
  refine ⟨fun j => fnL T its (L.drop (L.length - j)), by simp, fun i ds M => by simp [fnL], fun j i it hj hi => ?_⟩
  have hlt : L.length - (j + 1) < L.length := by omega
  have e : L.drop (L.length - (j + 1)) = L[L.length - (j + 1)] :: L.drop (L.length - j) := by
    rw [List.drop_eq_getElem_cons hlt]
    congr 2
    omega
  obtain ⟨g, hg⟩ : ∃ g, L[L.length - (j + 1)] = g := ⟨_, rfl⟩
  have hm : g ∈ L := hg ▸ List.getElem_mem hlt
  rw [hg] at e
  have e2 : ∀ i, fnL T its (L.drop (L.length - (j + 1))) i = match g.lookup i with
    | some S => (match its.lookup i with
      | some it => pickF T S (runF (gmOf T (fnL T its (L.drop (L.length - j)))) it.s it.N.length)
      | none => fun _ _ => .bad)
    | none => fnL T its (L.drop (L.length - j)) i := fun i => by rw [e] <;> rfl
  simp only [e2]
  cases hk : g.lookup i with
  | none => exact .inl rfl
  | some S =>
    simp only [hi]
    refine .inr fun ds M h => ?_
    obtain ⟨h1, h2⟩ := pick_ent h
    exact ⟨h1.trans (ar g hm _ (lookup_mem hk) it hi), h2⟩
mutual
theorem Vw.det {M : Store} : ∀ {d x y : D}, Vw M d x → Vw M d y → x = y
  | _, _, _, .non, .non => rfl
  | _, _, _, .bl _, .bl _ => rfl
  | _, _, _, .int _, .int _ => rfl
  | _, _, _, .str _, .str _ => rfl
  | _, _, _, .tup h, .tup q => by rw [h.det q]
  | _, _, _, .lst h, .lst q => by rw [h.det q]
  | _, _, _, .arr h, .arr q => by rw [h.det q]
  | _, _, _, .ins h, .ins q => by rw [h.det q]
  | _, _, _, .dic h, .dic q => by rw [h.det q]
  | _, _, _, .nl h, .nl q => by rw [h.det q]
  | _, _, _, .no h, .no q => by rw [h.det q]
  | _, _, _, .rlst e h, .rlst e2 q => by rw [e] at e2; cases e2; rw [h.det q]
  | _, _, _, .rlst e h, .rins e2 q => by rw [e] at e2; cases e2
  | _, _, _, .rlst e h, .rdic e2 q => by rw [e] at e2; cases e2
  | _, _, _, .rins e h, .rlst e2 q => by rw [e] at e2; cases e2
  | _, _, _, .rins e h, .rins e2 q => by rw [e] at e2; cases e2; rw [h.det q]
  | _, _, _, .rins e h, .rdic e2 q => by rw [e] at e2; cases e2
  | _, _, _, .rdic e h, .rlst e2 q => by rw [e] at e2; cases e2
  | _, _, _, .rdic e h, .rins e2 q => by rw [e] at e2; cases e2
  | _, _, _, .rdic e h, .rdic e2 q => by rw [e] at e2; cases e2; rw [h.det q]
theorem Vws.det {M : Store} : ∀ {d x y : List D}, Vws M d x → Vws M d y → x = y
  | _, _, _, .nil, .nil => rfl
  | _, _, _, .cons h t, .cons q s => by rw [h.det q, t.det s]
theorem Vwf.det {M : Store} : ∀ {d x y : List (Nat × D)}, Vwf M d x → Vwf M d y → x = y
  | _, _, _, .nil, .nil => rfl
  | _, _, _, .cons h t, .cons q s => by rw [h.det q, t.det s]
theorem Vwk.det {M : Store} : ∀ {d x y : List (Key × D)}, Vwk M d x → Vwk M d y → x = y
  | _, _, _, .nil, .nil => rfl
  | _, _, _, .cons h t, .cons q s => by rw [h.det q, t.det s]
end
mutual
theorem Ff.det {N : Store} {av : List Nat} : ∀ {d x y : D}, Ff N av d x → Ff N av d y → x = y
  | _, _, _, .non, .non => rfl
  | _, _, _, .bl _, .bl _ => rfl
  | _, _, _, .int _, .int _ => rfl
  | _, _, _, .str _, .str _ => rfl
  | _, _, _, .tup h, .tup q => by rw [h.det q]
  | _, _, _, .lst _ e h, .lst _ e2 q => by rw [e] at e2; cases e2; rw [h.det q]
  | _, _, _, .lst _ e h, .ins _ e2 q => by rw [e] at e2; cases e2
  | _, _, _, .ins _ e h, .lst _ e2 q => by rw [e] at e2; cases e2
  | _, _, _, .ins _ e h, .ins _ e2 q => by rw [e] at e2; cases e2; rw [h.det q]
  | _, _, _, .nl h, .nl q => by rw [h.det q]
  | _, _, _, .no h, .no q => by rw [h.det q]
theorem Ffs.det {N : Store} {av : List Nat} : ∀ {d x y : List D}, Ffs N av d x → Ffs N av d y → x = y
  | _, _, _, .nil, .nil => rfl
  | _, _, _, .cons h t, .cons q s => by rw [h.det q, t.det s]
theorem Fff.det {N : Store} {av : List Nat} : ∀ {d x y : List (Nat × D)}, Fff N av d x → Fff N av d y → x = y
  | _, _, _, .nil, .nil => rfl
  | _, _, _, .cons h t, .cons q s => by rw [h.det q, t.det s]
end
inductive Pr where | val (t : D) | exc (c : Nat) (fs : List (Nat × D))
def Pr.at_ (M : Store) : Pr → Res D
  | .val t => .ok t M
  | .exc c fs => .exc c fs M
def Runs (φ : Fn) (ds : List D) : Pr → Prop
  | .val t => ∃ d N, φ ds [] = .ok d N ∧ Ff N [] d t
  | .exc c ts => ∃ fs N, φ ds [] = .exc c fs N ∧ Fff N [] fs ts
def RunsL (φ : Fn) (ds ts : List D) : Prop := ∃ l xs N, φ ds [] = .ok (.ref l) N ∧ N[l]? = some (.lst xs) ∧ Ffs N [l] xs ts
def pureSp (ar : Nat) {α : Type} (pre : α → Prop) (args : α → List D) (res : α → Pr) : Spec :=
  ⟨ar, fun ds M => ∃ a, pre a ∧ Vws M ds (args a), fun ds M r => ∀ a, pre a → Vws M ds (args a) → r = (res a).at_ M⟩
def newSp (ar : Nat) {α : Type} (pre : α → Prop) (args : α → List D) (res : α → List D) : Spec :=
  ⟨ar, fun ds M => ∃ a, pre a ∧ Vws M ds (args a), fun ds M r => ∀ a, pre a → Vws M ds (args a) → r = .ok (.ref M.length) (M ++ [.lst (res a)])⟩
section
variable {T : Tb} {φ : Fn} {ar : Nat} {α : Type} {pre : α → Prop} {args : α → List D} {res : α → Pr} {resL : α → List D}
theorem Runs.det {ds : List D} : ∀ {p q : Pr}, Runs φ ds p → Runs φ ds q → p = q
  | .val _, .val _, ⟨_, _, e, f⟩, ⟨_, _, e2, f2⟩ => by rw [e] at e2; cases e2; rw [f.det f2]
  | .exc _ _, .exc _ _, ⟨_, _, e, f⟩, ⟨_, _, e2, f2⟩ => by rw [e] at e2; cases e2; rw [f.det f2]
  | .val _, .exc _ _, ⟨_, _, e, _⟩, ⟨_, _, e2, _⟩ => by rw [e] at e2; cases e2
  | .exc _ _, .val _, ⟨_, _, e, _⟩, ⟨_, _, e2, _⟩ => by rw [e] at e2; cases e2
theorem Runs.ent {ds ds' : List D} {M : Store} (va : Vws M ds ds') : ∀ {p : Pr}, Runs φ ds' p → Ent T φ ds M (p.at_ M)
  | .val _, ⟨_, _, e, f⟩ => Ent.pure va e f
  | .exc _ _, ⟨_, _, e, f⟩ => Ent.pureX va e f
theorem pure_shows (h : ∀ a, pre a → Runs φ (args a) (res a)) : Shows T (pureSp ar pre args res) φ := by
  intro ds M hl ⟨a, pa, va⟩
  have ra := h a pa
  refine ⟨(res a).at_ M, ra.ent va, fun b pb vb => ?_⟩
  have rb := h b pb
  rw [← va.det vb] at rb
  rw [ra.det rb]
theorem pure_call (m : Meets (pureSp ar pre args res) φ) {ds : List D} {M : Store} (hl : ds.length = ar) (a : α) (pa : pre a) (va : Vws M ds (args a)) : φ ds M = (res a).at_ M := m ds M hl ⟨a, pa, va⟩ a pa va
theorem new_shows (h : ∀ a, pre a → RunsL φ (args a) (resL a)) : Shows T (newSp ar pre args resL) φ := by
  intro ds M hl ⟨a, pa, va⟩
  obtain ⟨l, xs, N, e, e2, f⟩ := h a pa
  refine ⟨_, Ent.pureL va e e2 f, fun b pb vb => ?_⟩
  obtain ⟨l', xs', N', q, q2, g⟩ := h b pb
  rw [← va.det vb, e] at q
  cases q
  rw [e2] at q2
  cases q2
  rw [f.det g]
theorem new_call (m : Meets (newSp ar pre args resL) φ) {ds : List D} {M : Store} (hl : ds.length = ar) (a : α) (pa : pre a) (va : Vws M ds (args a)) : φ ds M = .ok (.ref M.length) (M ++ [.lst (resL a)]) := m ds M hl ⟨a, pa, va⟩ a pa va
end
def Cl (d : D) : Prop := (∀ M, Vw M d d) ∧ d.wk = d
def Cls (ds : List D) : Prop := (∀ M, Vws M ds ds) ∧ wks ds = ds
def Clf (ds : List (Nat × D)) : Prop := (∀ M, Vwf M ds ds) ∧ wkf ds = ds
def Clk (ds : List (Key × D)) : Prop := (∀ M, Vwk M ds ds) ∧ wkk ds = ds
theorem Cl.non : Cl .non := ⟨fun _ => .non, rfl⟩
theorem Cl.bl (b : Bool) : Cl (.bl b) := ⟨fun _ => .bl b, rfl⟩
theorem Cl.int (b : Int) : Cl (.int b) := ⟨fun _ => .int b, rfl⟩
theorem Cl.str (b : Str) : Cl (.str b) := ⟨fun _ => .str b, rfl⟩
theorem Cl.tup {ds : List D} (h : Cls ds) : Cl (.tup ds) := ⟨fun M => .tup (h.1 M), congrArg D.tup h.2⟩
theorem Cl.lst {ds : List D} (h : Cls ds) : Cl (.lst ds) := ⟨fun M => .lst (h.1 M), congrArg D.lst h.2⟩
theorem Cl.arr {ds : List D} (h : Cls ds) : Cl (.arr ds) := ⟨fun M => .arr (h.1 M), congrArg D.arr h.2⟩
theorem Cl.ins {c : Nat} {ds : List (Nat × D)} (h : Clf ds) : Cl (.ins c ds) := ⟨fun M => .ins (h.1 M), congrArg (D.ins c) h.2⟩
theorem Cl.dic {ds : List (Key × D)} (h : Clk ds) : Cl (.dic ds) := ⟨fun M => .dic (h.1 M), congrArg D.dic h.2⟩
theorem Cls.nil : Cls [] := ⟨fun _ => .nil, rfl⟩
theorem Cls.cons {d : D} {ds : List D} (h : Cl d) (t : Cls ds) : Cls (d :: ds) := ⟨fun M => .cons (h.1 M) (t.1 M), by unfold wks; rw [h.2, t.2]⟩
theorem Clf.nil : Clf [] := ⟨fun _ => .nil, rfl⟩
theorem Clf.cons {f : Nat} {d : D} {ds : List (Nat × D)} (h : Cl d) (t : Clf ds) : Clf ((f, d) :: ds) := ⟨fun M => .cons (h.1 M) (t.1 M), by unfold wkf wkp; rw [h.2, t.2]⟩
theorem Clk.nil : Clk [] := ⟨fun _ => .nil, rfl⟩
theorem Clk.cons {f : Key} {d : D} {ds : List (Key × D)} (h : Cl d) (t : Clk ds) : Clk ((f, d) :: ds) := ⟨fun M => .cons (h.1 M) (t.1 M), by unfold wkk wkq; rw [h.2, t.2]⟩
theorem Cls.map {α : Type} {f : α → D} (h : ∀ x, Cl (f x)) : ∀ xs : List α, Cls (xs.map f)
  | [] => .nil
  | x :: xs => .cons (h x) (.map h xs)
theorem Cls.ints (ns : List Int) : Cls (ns.map D.int) := .map (fun _ => .int _) ns
theorem wks_map {α : Type} {f g : α → D} (h : ∀ x, (f x).wk = g x) : ∀ xs : List α, wks (xs.map f) = xs.map g
  | [] => rfl
  | x :: xs => by rw [List.map_cons, List.map_cons, ← h x, ← wks_map h xs]; rfl
theorem wk_non : D.wk .non = .non := rfl
theorem wk_bl {b : Bool} : D.wk (.bl b) = .bl b := rfl
theorem wk_int {b : Int} : D.wk (.int b) = .int b := rfl
theorem wk_str {b : Str} : D.wk (.str b) = .str b := rfl
theorem wk_ref {l : Nat} : D.wk (.ref l) = .ref l := rfl
theorem wk_tup {xs : List D} : D.wk (.tup xs) = .tup (wks xs) := rfl
theorem wk_lst {xs : List D} : D.wk (.lst xs) = .lst (wks xs) := rfl
theorem wk_nl {xs : List D} : D.wk (.nl xs) = .lst (wks xs) := rfl
theorem wk_arr {xs : List D} : D.wk (.arr xs) = .arr (wks xs) := rfl
theorem wk_ins {c : Nat} {xs : List (Nat × D)} : D.wk (.ins c xs) = .ins c (wkf xs) := rfl
theorem wk_no {c : Nat} {xs : List (Nat × D)} : D.wk (.no c xs) = .ins c (wkf xs) := rfl
theorem wk_dic {xs : List (Key × D)} : D.wk (.dic xs) = .dic (wkk xs) := rfl
theorem wks_nil : wks [] = [] := rfl
theorem wks_cons {d : D} {ds : List D} : wks (d :: ds) = d.wk :: wks ds := rfl
theorem wkf_nil : wkf [] = [] := rfl
theorem wkf_cons {f : Nat} {d : D} {ds : List (Nat × D)} : wkf ((f, d) :: ds) = (f, d.wk) :: wkf ds := rfl
theorem wkk_nil : wkk [] = [] := rfl
theorem wkk_cons {f : Key} {d : D} {ds : List (Key × D)} : wkk ((f, d) :: ds) = (f, d.wk) :: wkk ds := rfl
theorem wks_ints {ns : List Int} : wks (ns.map D.int) = ns.map D.int := (Cls.ints ns).2
theorem Ffs.map {α : Type} {N : Store} {av : List Nat} {f g : α → D} : ∀ {xs : List α}, (∀ x, x ∈ xs → Ff N av (f x) (g x)) → Ffs N av (xs.map f) (xs.map g)
  | [], _ => .nil
  | x :: xs, h => .cons (h x List.mem_cons_self) (.map fun y hy => h y (List.mem_cons_of_mem _ hy))
theorem Ffs.ints {N : Store} {av : List Nat} (ns : List Int) : Ffs N av (ns.map D.int) (ns.map D.int) := .map fun _ _ => .int _
theorem Runs.of {φ : Fn} {ds : List D} {t : D} (e : φ ds [] = .ok t []) (f : Ff [] [] t t) : Runs φ ds (.val t) := ⟨_, _, e, f⟩
theorem Runs.bl {φ : Fn} {ds : List D} {b : Bool} (e : φ ds [] = .ok (.bl b) []) : Runs φ ds (.val (.bl b)) := ⟨_, _, e, .bl b⟩
theorem Runs.int {φ : Fn} {ds : List D} {b : Int} (e : φ ds [] = .ok (.int b) []) : Runs φ ds (.val (.int b)) := ⟨_, _, e, .int b⟩
theorem Runs.non {φ : Fn} {ds : List D} (e : φ ds [] = .ok .non []) : Runs φ ds (.val .non) := ⟨_, _, e, .non⟩
end Lp

namespace Lp
open PySem PySem.Spec L2
mutual
inductive Vk (M : Store) (pk : List Nat) : D → D → Prop
  | non : Vk M pk .non .non
  | bl (b : Bool) : Vk M pk (.bl b) (.bl b)
  | int (i : Int) : Vk M pk (.int i) (.int i)
  | str (s : Str) : Vk M pk (.str s) (.str s)
  | tup {xs ys : List D} : Vks M pk xs ys → Vk M pk (.tup xs) (.tup ys)
  | lst {xs ys : List D} : Vks M pk xs ys → Vk M pk (.lst xs) (.lst ys)
  | arr {xs ys : List D} : Vks M pk xs ys → Vk M pk (.arr xs) (.arr ys)
  | ins {c : Nat} {xs ys : List (Nat × D)} : Vkf M pk xs ys → Vk M pk (.ins c xs) (.ins c ys)
  | dic {xs ys : List (Key × D)} : Vkk M pk xs ys → Vk M pk (.dic xs) (.dic ys)
  | nl {xs ys : List D} : Vks M pk xs ys → Vk M pk (.nl xs) (.nl ys)
  | no {c : Nat} {xs ys : List (Nat × D)} : Vkf M pk xs ys → Vk M pk (.no c xs) (.no c ys)
  | ref {l j : Nat} : pk[j]? = some l → Vk M pk (.ref l) (.ref j)
  | rlst {l : Nat} {xs ys : List D} : l ∉ pk → M[l]? = some (.lst xs) → Vks M pk xs ys → Vk M pk (.ref l) (.lst ys)
  | rins {l c : Nat} {xs ys : List (Nat × D)} : l ∉ pk → M[l]? = some (.ins c xs) → Vkf M pk xs ys → Vk M pk (.ref l) (.ins c ys)
  | rdic {l : Nat} {xs ys : List (Key × D)} : l ∉ pk → M[l]? = some (.dic xs) → Vkk M pk xs ys → Vk M pk (.ref l) (.dic ys)
inductive Vks (M : Store) (pk : List Nat) : List D → List D → Prop
  | nil : Vks M pk [] []
  | cons {x y : D} {xs ys : List D} : Vk M pk x y → Vks M pk xs ys → Vks M pk (x :: xs) (y :: ys)
inductive Vkf (M : Store) (pk : List Nat) : List (Nat × D) → List (Nat × D) → Prop
  | nil : Vkf M pk [] []
  | cons {f : Nat} {x y : D} {xs ys : List (Nat × D)} : Vk M pk x y → Vkf M pk xs ys → Vkf M pk ((f, x) :: xs) ((f, y) :: ys)
inductive Vkk (M : Store) (pk : List Nat) : List (Key × D) → List (Key × D) → Prop
  | nil : Vkk M pk [] []
  | cons {f : Key} {x y : D} {xs ys : List (Key × D)} : Vk M pk x y → Vkk M pk xs ys → Vkk M pk ((f, x) :: xs) ((f, y) :: ys)
end
inductive VkO (M : Store) (pk : List Nat) : MO → MO → Prop
  | lst {xs ys : List D} : Vks M pk xs ys → VkO M pk (.lst xs) (.lst ys)
  | ins {c : Nat} {xs ys : List (Nat × D)} : Vkf M pk xs ys → VkO M pk (.ins c xs) (.ins c ys)
  | dic {xs ys : List (Key × D)} : Vkk M pk xs ys → VkO M pk (.dic xs) (.dic ys)
structure Ek (M : Store) (pk : List Nat) (M' : Store) : Prop where
  len : pk.length = M'.length
  nd : pk.Nodup
  obj : ∀ (j l : Nat), pk[j]? = some l → ∃ o o', M[l]? = some o ∧ M'[j]? = some o' ∧ VkO M pk o o'
mutual
inductive Fe (N : Store) (r : Nat → Option Nat) : D → D → Prop
  | non : Fe N r .non .non
  | bl (b : Bool) : Fe N r (.bl b) (.bl b)
  | int (i : Int) : Fe N r (.int i) (.int i)
  | str (s : Str) : Fe N r (.str s) (.str s)
  | tup {xs ys : List D} : Fes N r xs ys → Fe N r (.tup xs) (.tup ys)
  | ref {l j : Nat} : r j = some l → Fe N r (.ref j) (.ref l)
  | lst {l : Nat} {xs ys : List D} : r l = none → N[l]? = some (.lst xs) → Fes N r xs ys → Fe N r (.ref l) (.nl ys)
  | ins {l c : Nat} {xs ys : List (Nat × D)} : r l = none → N[l]? = some (.ins c xs) → Fef N r xs ys → Fe N r (.ref l) (.no c ys)
  | nl {xs ys : List D} : Fes N r xs ys → Fe N r (.nl xs) (.nl ys)
  | no {c : Nat} {xs ys : List (Nat × D)} : Fef N r xs ys → Fe N r (.no c xs) (.no c ys)
inductive Fes (N : Store) (r : Nat → Option Nat) : List D → List D → Prop
  | nil : Fes N r [] []
  | cons {x y : D} {xs ys : List D} : Fe N r x y → Fes N r xs ys → Fes N r (x :: xs) (y :: ys)
inductive Fef (N : Store) (r : Nat → Option Nat) : List (Nat × D) → List (Nat × D) → Prop
  | nil : Fef N r [] []
  | cons {f : Nat} {x y : D} {xs ys : List (Nat × D)} : Fe N r x y → Fef N r xs ys → Fef N r ((f, x) :: xs) ((f, y) :: ys)
inductive Fek (N : Store) (r : Nat → Option Nat) : List (Key × D) → List (Key × D) → Prop
  | nil : Fek N r [] []
  | cons {f : Key} {x y : D} {xs ys : List (Key × D)} : Fe N r x y → Fek N r xs ys → Fek N r ((f, x) :: xs) ((f, y) :: ys)
end
inductive FeO (N : Store) (r : Nat → Option Nat) : MO → MO → Prop
  | lst {xs ys : List D} : Fes N r xs ys → FeO N r (.lst xs) (.lst ys)
  | ins {c : Nat} {xs ys : List (Nat × D)} : Fef N r xs ys → FeO N r (.ins c xs) (.ins c ys)
  | dic {xs ys : List (Key × D)} : Fek N r xs ys → FeO N r (.dic xs) (.dic ys)
def rho (n : Nat) (pk kp : List Nat) (j : Nat) : Option Nat := if j < pk.length then pk[j]? else (kp.idxOf? j).map (n + ·)
structure Xk (M : Store) (pk : List Nat) (N : Store) (kp : List Nat) (M2 : Store) : Prop where
  nd : kp.Nodup
  new : ∀ j, j ∈ kp → pk.length ≤ j ∧ j < N.length
  len : M2.length = M.length + kp.length
  old : ∀ l, l < M.length → l ∉ pk → M2[l]? = M[l]?
  obj : ∀ (j l : Nat), rho M.length pk kp j = some l → ∃ o o', N[j]? = some o ∧ M2[l]? = some o' ∧ FeO N (rho M.length pk kp) o o'
section
variable {T : Tb} {K : PySem.W.Frag} {Z H F H1 F1 : Hp} {M M' N M2 : Store} {mu mu1 : List Addr} {pk kp : List Nat}
abbrev Tb.lendK (T : Tb) (mu : List Addr) (pk : List Nat) : Tb := T.wb fun a => T.bor a ∨ ∃ l : Nat, mu[l]? = some a ∧ l ∉ pk
mutual
theorem Vk.rp (hr : HR T K Z H M mu F) : ∀ {d d' : D} {v : V}, Vk M pk d d' → Rp T K F mu v d → Rp (T.lendK mu pk) K (pkF F H mu pk) (pkMu mu pk) v d'
  | _, _, _, .non, .non => .non
  | _, _, _, .bl b, .bl _ => .bl b
  | _, _, _, .int i, .int _ => .int i
  | _, _, _, .str s, .str _ => .str s
  | _, _, _, .tup h, .tup e t => .tup (pkF_keep hr e) (h.rp hr t)
  | _, _, _, .lst h, .lst e t => .lst (pkF_keep hr e) (h.rp hr t)
  | _, _, _, .arr h, .arrL e t => .arrL ((pkF_grow (pk := pk) hr).sqL e) (h.rp hr t)
  | _, _, _, .arr h, .arrT e t => .arrT ((pkF_grow (pk := pk) hr).sqT e) (h.rp hr t)
  | _, _, _, .ins h, .ins hc e t => .ins hc (pkF_keep hr e) (h.rp hr t)
  | _, _, _, .dic h, .dic e t => .dic (pkF_keep hr e) (h.rp hr t)
  | _, _, _, .nl h, .nl n e t => .nl (fun z => z.elim n fun ⟨l, q, _⟩ => by rw [hr.out _ (List.mem_of_getElem? q)] at e; cases e) (pkF_keep hr e) (h.rp hr t)
  | _, _, _, .no h, .no n hc e t => .no (fun z => z.elim n fun ⟨l, q, _⟩ => by rw [hr.out _ (List.mem_of_getElem? q)] at e; cases e) hc (pkF_keep hr e) (h.rp hr t)
  | _, _, _, .ref h, .ref e => .ref (pkMu_get h e)
  | _, _, _, .rlst h1 h2 h3, .ref e => by
    obtain ⟨o, e2, ro⟩ := hr.at e
    rw [h2] at e2
    cases e2
    obtain ⟨vs, q, t⟩ := ro
    exact .lst (by rw [pkF_new e h1]; exact q) (h3.rp hr t)
  | _, _, _, .rins h1 h2 h3, .ref e => by
    obtain ⟨o, e2, ro⟩ := hr.at e
    rw [h2] at e2
    cases e2
    obtain ⟨hc, dx, fv, q, t⟩ := ro
    exact .ins hc (by rw [pkF_new e h1]; exact q) (h3.rp hr t)
  | _, _, _, .rdic h1 h2 h3, .ref e => by
    obtain ⟨o, e2, ro⟩ := hr.at e
    rw [h2] at e2
    cases e2
    obtain ⟨ws, q, t⟩ := ro
    exact .dic (by rw [pkF_new e h1]; exact q) (h3.rp hr (Rks.of t))
theorem Vks.rp (hr : HR T K Z H M mu F) : ∀ {ds ds' : List D} {vs : List V}, Vks M pk ds ds' → Rps T K F mu vs ds → Rps (T.lendK mu pk) K (pkF F H mu pk) (pkMu mu pk) vs ds'
  | _, _, _, .nil, .nil => .nil
  | _, _, _, .cons h t, .cons r rs => .cons (h.rp hr r) (t.rp hr rs)
theorem Vkf.rp (hr : HR T K Z H M mu F) : ∀ {ds ds' : List (Nat × D)} {vs : List (Str × V)}, Vkf M pk ds ds' → Rfs T K F mu vs ds → Rfs (T.lendK mu pk) K (pkF F H mu pk) (pkMu mu pk) vs ds'
  | _, _, _, .nil, .nil => .nil
  | _, _, _, .cons h t, .cons e r rs => .cons e (h.rp hr r) (t.rp hr rs)
theorem Vkk.rp (hr : HR T K Z H M mu F) : ∀ {ds ds' : List (Key × D)} {vs : List (Key × V)}, Vkk M pk ds ds' → Rks T K F mu vs ds → Rks (T.lendK mu pk) K (pkF F H mu pk) (pkMu mu pk) vs ds'
  | _, _, _, .nil, .nil => .nil
  | _, _, _, .cons h t, .cons r rs => .cons (h.rp hr r) (t.rp hr rs)
end
theorem Ek.lt (z : Ek M pk M') (hr : HR T K Z H M mu F) : ∀ l, l ∈ pk → l < mu.length := fun l h => by
  obtain ⟨j, hj⟩ := List.mem_iff_getElem?.mp h
  obtain ⟨o, o', e, _, _⟩ := z.obj j l hj
  rw [hr.len]
  exact (List.getElem?_eq_some_iff.mp e).1
theorem pkMu_mem (hl : ∀ l, l ∈ pk → l < mu.length) {a : Addr} (h : a ∈ pkMu mu pk) : ∃ j l : Nat, pk[j]? = some l ∧ mu[l]? = some a ∧ (pkMu mu pk)[j]? = some a := by
  obtain ⟨j, hj⟩ := List.mem_iff_getElem?.mp h
  obtain ⟨l, h1, h2⟩ := pkMu_of hl hj
  exact ⟨j, l, h1, h2, hj⟩
theorem Ek.hr (z : Ek M pk M') (hr : HR T K Z H M mu F) : HR (T.lendK mu pk) K Z H M' (pkMu mu pk) (pkF F H mu pk) := by
  have hl := z.lt hr
  refine ⟨fun a o h => ?_, by rw [← z.len]; simp [pkMu], ?_, fun a h => ?_, fun j a o' e1 e2 => ?_, fun a o h => ?_, fun a h => ?_⟩
  · unfold pkF at h
    split at h
    · exact h
    · exact hr.sub a o h
  · unfold pkMu
    rw [List.nodup_iff_pairwise_ne, List.pairwise_map]
    refine (List.nodup_iff_pairwise_ne.mp z.nd).imp_of_mem fun {i j} hi hj hij e => hij ?_
    have l1 := hl i hi
    have l2 := hl j hj
    rw [List.getD_eq_getElem?_getD, List.getD_eq_getElem?_getD, List.getElem?_eq_getElem l1, List.getElem?_eq_getElem l2] at e
    exact (List.getElem_inj hr.nd).mp (by simpa using e)
  · obtain ⟨j, l, h1, h2, _⟩ := pkMu_mem hl h
    exact pkF_kept hr h2 (List.mem_of_getElem? h1)
  · obtain ⟨l, h1, h2⟩ := pkMu_of hl e1
    obtain ⟨o, o2, q1, q2, q3⟩ := z.obj j l h1
    rw [e2] at q2
    cases q2
    have ro := hr.obj l a o h2 q1
    cases q3 with
    | lst h => obtain ⟨vs, q, t⟩ := ro; exact ⟨vs, q, h.rp hr t⟩
    | ins h => obtain ⟨hc, dx, fv, q, t⟩ := ro; exact ⟨hc, dx, fv, q, h.rp hr t⟩
    | dic h => obtain ⟨ws, q, t⟩ := ro; exact ⟨ws, q, (h.rp hr (Rks.of t)).rk⟩
  · obtain ⟨z1, z2, z3⟩ := hr.zs a o h
    refine ⟨z1, ?_, fun hm => ?_⟩
    · unfold pkF
      rw [if_neg]
      · exact z2
      · rintro ⟨l, e, _⟩
        exact z3 (List.mem_of_getElem? e)
    · obtain ⟨j, l, _, h2, _⟩ := pkMu_mem hl hm
      exact z3 (List.mem_of_getElem? h2)
  · rcases h with h | ⟨l, h1, h2⟩
    · cases e : F a with
      | none => exact absurd e (hr.bor a h)
      | some o => rw [pkF_keep hr e]; exact fun z => by cases z
    · rw [pkF_new h1 h2]
      exact hr.mem (List.mem_of_getElem? h1)
open Classical in
noncomputable def beF (mu mu1 : List Addr) (kp : List Nat) (H1 F1 : Hp) : Hp := fun a => if a ∈ mu ∨ (∃ l, l ∈ kp ∧ mu1[l]? = some a) then none else if a ∈ mu1 then H1 a else F1 a
structure Be (T : Tb) (K : PySem.W.Frag) (Z H F : Hp) (M : Store) (mu : List Addr) (pk : List Nat) (M' : Store) (H1 F1 : Hp) (N : Store) (mu1 : List Addr) (kp : List Nat) (M2 : Store) : Prop where
  hr : HR T K Z H M mu F
  z : Ek M pk M'
  g : Gr (pkF F H mu pk) (pkMu mu pk) F1 mu1
  hr1 : HR (T.lendK mu pk) K Z H1 N mu1 F1
  x : Xk M pk N kp M2
variable (b : Be T K Z H F M mu pk M' H1 F1 N mu1 kp M2)
include b
theorem Be.lent {a : Addr} {l : Nat} (h : mu[l]? = some a) (hn : l ∉ pk) : F1 a = H a ∧ H1 a = H a ∧ a ∉ mu1 := by
  cases e : H a with
  | none => exact absurd e (b.hr.mem (List.mem_of_getElem? h))
  | some o =>
    have h1 := b.g.f a o (by rw [pkF_new h hn]; exact e)
    exact ⟨h1, b.hr1.sub a o h1, fun z => by rw [b.hr1.out a z] at h1; cases h1⟩
theorem Be.kept {j l : Nat} (h : pk[j]? = some l) : ∃ a, mu[l]? = some a ∧ mu1[j]? = some a := by
  have hl := b.z.lt b.hr l (List.mem_of_getElem? h)
  exact ⟨_, List.getElem?_eq_getElem hl, b.g.m j _ (pkMu_get h (List.getElem?_eq_getElem hl))⟩
theorem Be.both {a : Addr} {j : Nat} (h1 : mu1[j]? = some a) (h : a ∈ mu) : ∃ l, pk[j]? = some l ∧ mu[l]? = some a := by
  obtain ⟨l, e⟩ := List.mem_iff_getElem?.mp h
  by_cases hp : l ∈ pk
  · obtain ⟨i, hi⟩ := List.mem_iff_getElem?.mp hp
    obtain ⟨a', q1, q2⟩ := b.kept hi
    rw [e] at q1
    cases q1
    have : i = j := nodup_at b.hr1.nd q2 h1
    subst this
    exact ⟨l, hi, e⟩
  · exact absurd (List.mem_of_getElem? h1) (b.lent e hp).2.2
theorem Be.old {a : Addr} {o : HO} (h : F1 a = some o) (hn : a ∉ mu) : beF mu mu1 kp H1 F1 a = some o := by
  have hn1 : a ∉ mu1 := fun z => by rw [b.hr1.out a z] at h; cases h
  unfold beF
  rw [if_neg, if_neg hn1]
  · exact h
  · rintro (z | ⟨l, _, z⟩)
    · exact hn z
    · exact hn1 (List.mem_of_getElem? z)
theorem Be.keep {a : Addr} {o : HO} (h : F a = some o) : beF mu mu1 kp H1 F1 a = some o :=
  b.old (b.g.f a o (pkF_keep b.hr h)) fun z => by rw [b.hr.out a z] at h; cases h
theorem Be.tup {a : Addr} {vs : List V} (h : F1 a = some (.tup vs)) : beF mu mu1 kp H1 F1 a = some (.tup vs) := by
  refine b.old h fun z => ?_
  obtain ⟨l, e⟩ := List.mem_iff_getElem?.mp z
  by_cases hp : l ∈ pk
  · obtain ⟨i, hi⟩ := List.mem_iff_getElem?.mp hp
    obtain ⟨a', q1, q2⟩ := b.kept hi
    rw [e] at q1
    cases q1
    rw [b.hr1.out a (List.mem_of_getElem? q2)] at h
    cases h
  · obtain ⟨o, _, ro⟩ := b.hr.at e
    rw [(b.lent e hp).1] at h
    cases o with
    | lst xs => obtain ⟨_, q, _⟩ := ro; rw [q] at h; cases h
    | dic xs => obtain ⟨_, q, _⟩ := ro; rw [q] at h; cases h
    | ins c xs => obtain ⟨_, _, _, q, _⟩ := ro; rw [q] at h; cases h
theorem rho_none {j : Nat} (h : rho M.length pk kp j = none) (hj : j < N.length) : pk.length ≤ j ∧ j ∉ kp := by
  unfold rho at h
  by_cases hp : j < pk.length
  · rw [if_pos hp, List.getElem?_eq_getElem hp] at h
    cases h
  · rw [if_neg hp, Option.map_eq_none_iff, List.idxOf?_eq_none_iff] at h
    exact ⟨by omega, h⟩
theorem rho_kp {i j : Nat} (h : kp[i]? = some j) : rho M.length pk kp j = some (M.length + i) := by
  have hj := b.x.new j (List.mem_of_getElem? h)
  unfold rho
  rw [if_neg (by omega), Option.map_eq_some_iff]
  refine ⟨i, ?_, rfl⟩
  rw [List.idxOf?_eq_some_iff]
  obtain ⟨hi, e⟩ := List.getElem?_eq_some_iff.mp h
  refine ⟨hi, by simpa using e, fun k hk => ?_⟩
  intro z
  have z : kp[k] = j := by simpa using z
  have := (List.getElem_inj b.x.nd).mp (z.trans e.symm)
  omega
theorem Be.new {a : Addr} {j : Nat} (e : mu1[j]? = some a) (h : rho M.length pk kp j = none) : beF mu mu1 kp H1 F1 a = H1 a ∧ a ∉ mu := by
  have hm := List.mem_of_getElem? e
  obtain ⟨h1, h2⟩ := rho_none b h (by rw [← b.hr1.len]; exact (List.getElem?_eq_some_iff.mp e).1)
  have hn : a ∉ mu := fun z => by
    obtain ⟨l, q, _⟩ := b.both e z
    have := (List.getElem?_eq_some_iff.mp q).1
    omega
  refine ⟨?_, hn⟩
  unfold beF
  rw [if_neg, if_pos hm]
  rintro (z | ⟨i, z1, z2⟩)
  · exact hn z
  · exact h2 (nodup_at b.hr1.nd e z2 ▸ z1)
def mu2of (mu mu1 : List Addr) (kp : List Nat) : List Addr := mu ++ kp.map fun j => mu1.getD j 0
omit b in
theorem mu2_old {l : Nat} {a : Addr} (h : mu[l]? = some a) : (mu2of mu mu1 kp)[l]? = some a := by
  unfold mu2of
  rw [List.getElem?_append_left (List.getElem?_eq_some_iff.mp h).1]
  exact h
theorem Be.at2 {j l : Nat} {a : Addr} (e : mu1[j]? = some a) (h : rho M.length pk kp j = some l) : (mu2of mu mu1 kp)[l]? = some a := by
  by_cases hp : j < pk.length
  · have h : pk[j]? = some l := by unfold rho at h; rw [if_pos hp] at h; exact h
    obtain ⟨a', q1, q2⟩ := b.kept h
    rw [e] at q2
    cases q2
    exact mu2_old q1
  · unfold rho at h
    rw [if_neg hp, Option.map_eq_some_iff] at h
    obtain ⟨i, h1, rfl⟩ := h
    rw [List.idxOf?_eq_some_iff] at h1
    obtain ⟨hi, e2, _⟩ := h1
    unfold mu2of
    rw [← b.hr.len, List.getElem?_append_right (by omega), Nat.add_sub_cancel_left, List.getElem?_map, List.getElem?_eq_getElem hi]
    have e2 : kp[i] = j := by simpa using e2
    rw [e2, Option.map_some, List.getD_eq_getElem?_getD, e] <;> rfl
theorem Be.of2 {l : Nat} {a : Addr} (h : (mu2of mu mu1 kp)[l]? = some a) : (mu[l]? = some a ∧ l < M.length) ∨ ∃ i j, l = M.length + i ∧ kp[i]? = some j ∧ mu1[j]? = some a := by
  unfold mu2of at h
  by_cases hl : l < mu.length
  · rw [List.getElem?_append_left hl] at h
    exact .inl ⟨h, by rw [← b.hr.len]; exact hl⟩
  · rw [List.getElem?_append_right (by omega), List.getElem?_map] at h
    cases e : kp[l - mu.length]? with
    | none => rw [e] at h; cases h
    | some j =>
      rw [e] at h
      have hj := (b.x.new j (List.mem_of_getElem? e)).2
      rw [← b.hr1.len] at hj
      have h : mu1.getD j 0 = a := by simpa using h
      rw [List.getD_eq_getElem?_getD, List.getElem?_eq_getElem hj] at h
      have h : mu1[j] = a := h
      exact .inr ⟨l - mu.length, j, by rw [← b.hr.len]; omega, e, by rw [List.getElem?_eq_getElem hj, h]⟩
theorem Be.newk {i j : Nat} {a : Addr} (h : kp[i]? = some j) (e : mu1[j]? = some a) : a ∉ mu := fun z => by
  obtain ⟨l, q, _⟩ := b.both e z
  have := (b.x.new j (List.mem_of_getElem? h)).1
  have := (List.getElem?_eq_some_iff.mp q).1
  omega
mutual
theorem Fe.rp : ∀ {d t : D} {v : V}, Fe N (rho M.length pk kp) d t → Rp (T.lendK mu pk) K F1 mu1 v d → Rp T K (beF mu mu1 kp H1 F1) (mu2of mu mu1 kp) v t
  | _, _, _, .non, .non => .non
  | _, _, _, .bl k, .bl _ => .bl k
  | _, _, _, .int i, .int _ => .int i
  | _, _, _, .str s, .str _ => .str s
  | _, _, _, .tup h, .tup e t => .tup (b.tup e) (Fes.rp h t)
  | _, _, _, .ref h, .ref e => .ref (b.at2 e h)
  | _, _, _, .nl h, .nl n e t => .nl (fun z => n (.inl z)) (b.old e fun z => by
      obtain ⟨l, q⟩ := List.mem_iff_getElem?.mp z
      by_cases hp : l ∈ pk
      · obtain ⟨i, hi⟩ := List.mem_iff_getElem?.mp hp
        obtain ⟨a', q1, q2⟩ := b.kept hi
        rw [q] at q1
        cases q1
        rw [b.hr1.out _ (List.mem_of_getElem? q2)] at e
        cases e
      · exact n (.inr ⟨l, q, hp⟩)) (Fes.rp h t)
  | _, _, _, .no h, .no n hc e t => .no (fun z => n (.inl z)) hc (b.old e fun z => by
      obtain ⟨l, q⟩ := List.mem_iff_getElem?.mp z
      by_cases hp : l ∈ pk
      · obtain ⟨i, hi⟩ := List.mem_iff_getElem?.mp hp
        obtain ⟨a', q1, q2⟩ := b.kept hi
        rw [q] at q1
        cases q1
        rw [b.hr1.out _ (List.mem_of_getElem? q2)] at e
        cases e
      · exact n (.inr ⟨l, q, hp⟩)) (Fef.rp h t)
  | _, _, _, .lst h1 h2 h3, .ref e => by
    obtain ⟨o, e2, ro⟩ := b.hr1.at e
    rw [h2] at e2
    cases e2
    obtain ⟨vs, q, t⟩ := ro
    exact .nl (fun z => b.hr1.mnb (List.mem_of_getElem? e) (.inl z)) (by rw [(b.new e h1).1]; exact q) (Fes.rp h3 t)
  | _, _, _, .ins h1 h2 h3, .ref e => by
    obtain ⟨o, e2, ro⟩ := b.hr1.at e
    rw [h2] at e2
    cases e2
    obtain ⟨hc, dx, fv, q, t⟩ := ro
    exact .no (fun z => b.hr1.mnb (List.mem_of_getElem? e) (.inl z)) hc (by rw [(b.new e h1).1]; exact q) (Fef.rp h3 t)
theorem Fes.rp : ∀ {ds ts : List D} {vs : List V}, Fes N (rho M.length pk kp) ds ts → Rps (T.lendK mu pk) K F1 mu1 vs ds → Rps T K (beF mu mu1 kp H1 F1) (mu2of mu mu1 kp) vs ts
  | _, _, _, .nil, .nil => .nil
  | _, _, _, .cons h t, .cons r rs => .cons (Fe.rp h r) (Fes.rp t rs)
theorem Fef.rp : ∀ {ds ts : List (Nat × D)} {vs : List (Str × V)}, Fef N (rho M.length pk kp) ds ts → Rfs (T.lendK mu pk) K F1 mu1 vs ds → Rfs T K (beF mu mu1 kp H1 F1) (mu2of mu mu1 kp) vs ts
  | _, _, _, .nil, .nil => .nil
  | _, _, _, .cons h t, .cons e r rs => .cons e (Fe.rp h r) (Fef.rp t rs)
theorem Fek.rp : ∀ {ds ts : List (Key × D)} {vs : List (Key × V)}, Fek N (rho M.length pk kp) ds ts → Rks (T.lendK mu pk) K F1 mu1 vs ds → Rks T K (beF mu mu1 kp H1 F1) (mu2of mu mu1 kp) vs ts
  | _, _, _, .nil, .nil => .nil
  | _, _, _, .cons h t, .cons r rs => .cons (Fe.rp h r) (Fek.rp t rs)
end
theorem Be.gr : Gr F mu (beF mu mu1 kp H1 F1) (mu2of mu mu1 kp) := ⟨fun _ _ h => b.keep h, fun _ _ h => mu2_old h⟩
theorem Be.objN {j l : Nat} {a : Addr} {o : MO} (e : mu1[j]? = some a) (h : rho M.length pk kp j = some l) (q : M2[l]? = some o) : ObjR T K (beF mu mu1 kp H1 F1) (mu2of mu mu1 kp) H1 a o := by
  obtain ⟨o1, o2, q1, q2, f⟩ := b.x.obj j l h
  rw [q] at q2
  cases q2
  have ro := b.hr1.obj j a o1 e q1
  cases f with
  | lst f => obtain ⟨vs, q, t⟩ := ro; exact ⟨vs, q, f.rp b t⟩
  | ins f => obtain ⟨hc, dx, fv, q, t⟩ := ro; exact ⟨hc, dx, fv, q, f.rp b t⟩
  | dic f => obtain ⟨ws, q, t⟩ := ro; exact ⟨ws, q, (f.rp b (Rks.of t)).rk⟩
theorem Be.out : HR T K Z H1 M2 (mu2of mu mu1 kp) (beF mu mu1 kp H1 F1) := by
  refine ⟨fun a o h => ?_, by rw [b.x.len]; simp [mu2of, b.hr.len], ?_, fun a h => ?_, fun l a o e1 e2 => ?_, fun a o h => ?_, fun a h => ?_⟩
  · unfold beF at h
    split at h
    · cases h
    · split at h
      · exact h
      · exact b.hr1.sub a o h
  · rw [List.nodup_iff_pairwise_ne, List.pairwise_iff_getElem]
    intro i j hi hj hij e
    have e1 : (mu2of mu mu1 kp)[i]? = some (mu2of mu mu1 kp)[i] := List.getElem?_eq_getElem hi
    have e2 : (mu2of mu mu1 kp)[j]? = some (mu2of mu mu1 kp)[i] := by rw [List.getElem?_eq_getElem hj, e]
    rcases b.of2 e1 with ⟨q1, _⟩ | ⟨x, y, z1, z2, z3⟩
    · rcases b.of2 e2 with ⟨q2, _⟩ | ⟨x2, y2, w1, w2, w3⟩
      · have := nodup_at b.hr.nd q1 q2
        omega
      · exact b.newk w2 w3 (List.mem_of_getElem? q1)
    · rcases b.of2 e2 with ⟨q2, _⟩ | ⟨x2, y2, w1, w2, w3⟩
      · exact b.newk z2 z3 (List.mem_of_getElem? q2)
      · have : y = y2 := nodup_at b.hr1.nd z3 w3
        subst this
        obtain ⟨p1, p2⟩ := List.getElem?_eq_some_iff.mp z2
        obtain ⟨p3, p4⟩ := List.getElem?_eq_some_iff.mp w2
        have := (List.getElem_inj b.x.nd).mp (p2.trans p4.symm)
        omega
  · obtain ⟨l, e⟩ := List.mem_iff_getElem?.mp h
    unfold beF
    rw [if_pos]
    rcases b.of2 e with ⟨q1, _⟩ | ⟨i, j, _, z2, z3⟩
    · exact .inl (List.mem_of_getElem? q1)
    · exact .inr ⟨j, List.mem_of_getElem? z2, z3⟩
  · rcases b.of2 e1 with ⟨q1, hl⟩ | ⟨i, j, rfl, z2, z3⟩
    · by_cases hp : l ∈ pk
      · obtain ⟨j, hj⟩ := List.mem_iff_getElem?.mp hp
        obtain ⟨a', p1, p2⟩ := b.kept hj
        rw [q1] at p1
        cases p1
        refine b.objN p2 ?_ e2
        unfold rho
        rw [if_pos (List.getElem?_eq_some_iff.mp hj).1, hj]
      · rw [b.x.old l hl hp] at e2
        exact ((b.hr.obj l a o q1 e2).mono b.gr).heap (b.lent q1 hp).2.1
    · exact b.objN z3 (rho_kp b z2) e2
  · obtain ⟨z1, z2, z3⟩ := b.hr1.zs a o h
    obtain ⟨_, _, z4⟩ := b.hr.zs a o h
    refine ⟨z1, ?_, fun z => ?_⟩
    · unfold beF
      split
      · rfl
      · first | exact z2 | (rw [if_neg z3]; exact z2)
    · obtain ⟨l, e⟩ := List.mem_iff_getElem?.mp z
      rcases b.of2 e with ⟨q1, _⟩ | ⟨i, j, _, _, q3⟩
      · exact z4 (List.mem_of_getElem? q1)
      · exact z3 (List.mem_of_getElem? q3)
  · cases e : F a with
    | none => exact absurd e (b.hr.bor a h)
    | some o => rw [b.keep e]; exact fun z => by cases z
end
theorem Ent.keep {T : Tb} {φ : Fn} {ds ds' : List D} {M M' N M2 : Store} {pk kp : List Nat} {d t : D} (z : Ek M pk M') (h : Vks M pk ds ds') (e : φ ds' M' = .ok d N) (x : Xk M pk N kp M2) (f : Fe N (rho M.length pk kp) d t) : Ent T φ ds M (.ok t M2) := fun K b0 Z H F w mu vs Q hr rd p => by
  refine ⟨fun a => b0 a ∨ ∃ l : Nat, mu[l]? = some a ∧ l ∉ pk, Z, ds', M', pkMu mu pk, pkF F H mu pk, z.hr (T := T.wb b0) hr, h.rp (T := T.wb b0) hr rd, ?_⟩
  rw [e]
  intro H1 mu1 F1 g1 hr1 v rv
  have b : Be (T.wb b0) K Z H F M mu pk M' H1 F1 N mu1 kp M2 := ⟨hr, z, g1, hr1, x⟩
  exact p H1 _ _ b.gr b.out v (f.rp b rv)
theorem Ent.keepX {T : Tb} {φ : Fn} {ds ds' : List D} {M M' N M2 : Store} {pk kp : List Nat} {c : Nat} {fs ts : List (Nat × D)} (z : Ek M pk M') (h : Vks M pk ds ds') (e : φ ds' M' = .exc c fs N) (x : Xk M pk N kp M2) (f : Fef N (rho M.length pk kp) fs ts) : Ent T φ ds M (.exc c ts M2) := fun K b0 Z H F w mu vs Q hr rd p => by
  refine ⟨fun a => b0 a ∨ ∃ l : Nat, mu[l]? = some a ∧ l ∉ pk, Z, ds', M', pkMu mu pk, pkF F H mu pk, z.hr (T := T.wb b0) hr, h.rp (T := T.wb b0) hr rd, ?_⟩
  rw [e]
  intro H1 mu1 F1 g1 hr1 cls d ⟨x1, a, fv, x2, x3, x4⟩
  have b : Be (T.wb b0) K Z H F M mu pk M' H1 F1 N mu1 kp M2 := ⟨hr, z, g1, hr1, x⟩
  exact p H1 _ _ b.gr b.out cls d ⟨x1, a, fv, x2, x3, f.rp b x4⟩
end Lp

namespace Lp
open PySem PySem.Spec L2 PyProof.Rows
theorem law_walk {l : PySem.W.OpenLaw} {m k : Nat} {q : Program} {loose : List Str} {XP : (Str → Option Value) → Heap → Prop} {YP : World → Heap → Prop} {d : DefRec} {x : Str} (h1 : l.most = some m) (h2 : m ≤ sizeLine) (h3 : d.params.defaults = []) (h4 : Room k callerA)
    (F : ∀ (w : World) (mg : Str → Option Value) (fa : Addr) (h : Heap), YP w h → h.Ns mainGlobals mg → mg d.name = some (.ref fa) → ∃ (K : PySem.W.Frag) (fd : FuncData) (sp : Sp), K.In h ∧ (∀ (s : Shared) (u : Value), BindsTo s fd ⟨[u], []⟩ [(x, u)]) ∧
      (∀ (H : Hp) (a : Addr) (ns : List Int), ns.length ≤ m → Only H → SqL K H a (ns.map V.int) → sp [.ref a] H (fun v _ => v = .bl true) fun _ _ _ => False) ∧ ∀ base : Heap, K.In base → base.Ns mainGlobals mg → FnOk l.prog w K mg base (L2.CX l.prog w) k fa fd [x] sp) :
    PySem.W.WalkO q loose XP YP l.row.toRowW d [] fun f vs => PySem.call f vs := by
  refine Att.attach_call h1 h3 fun w t t1 mg mb fa o pm cd doc a vs ns G Y q1 q2 q3 q4 q5 q6 q7 q8 => ?_
  obtain ⟨K, fd, sp, X, hb, hsp, hF⟩ := F w mg fa _ Y G.T.g q4
  exact law_call X G.T.g G.T.b G.T.builtins G.T.nolimit q8 q5 q6 (Nat.le_trans q7 h2) h4 hF hb (fun H o1 o2 => hsp H a ns q7 o1 o2) fun H e s' z => cx_none H t1 e s' z
theorem law_ends {l : PySem.W.OpenLaw} {m : Nat} {q : Program} {loose : List Str} {XP : (Str → Option Value) → Heap → Prop} {T : Tb} {its : List (Nat × Item)} {d : DefRec} {x y : Str} {L : List (List (Nat × Spec))} {li : Nat} {il : Item}
    (h1 : l.most = some m) (h2 : m ≤ sizeLine) (h3 : d.params.defaults = []) (h4 : Room (2 * L.length) callerA) (hd : d.name = y) (nd : T.fls.Nodup) (ml : mflB T = true) (ok : ∀ (i : Nat) (it : Item), its.lookup i = some it → ItemOk T it)
    (ar : (L.all fun g => g.all fun q => match its.lookup q.1 with | some it => decide (q.2.ar = it.ps.length) | none => true) = true) (e : its.lookup li = some il) (ex : T.fns[li]? = some y) (hy : y ≠ "") (ep : il.ps = [x])
    (hl : ∀ ns : List Int, ns.length ≤ m → ∃ M, (gmL T its L).fn li [.arr (ns.map D.int)] [] = .ok (.bl true) M) :
    PySem.W.WalkO q loose XP (fun _ h => ∃ K : PySem.W.Frag, K.In h ∧ SaysL T its K) l.row.toRowW d [] fun f vs => PySem.call f vs := by
  obtain ⟨fnS, s1, s2, s3⟩ := stages (T := T) (its := its) L (fun g hg q hq it hit => by
    have z := List.all_eq_true.mp (List.all_eq_true.mp ar g hg) q hq
    rw [hit] at z
    exact of_decide_eq_true z)
  refine law_walk (x := x) h1 h2 h3 h4 fun w mg fa h Y G hmg => ?_
  obtain ⟨K, KX, c⟩ := Y
  rw [hd] at hmg
  exact law_facts (n := L.length) KX G c nd ml ok s2 s3 e ex hy ep hmg fun ns hns => by
    rw [s1]
    exact hl ns hns
end Lp

namespace Lp
open PySem PySem.Spec L2 Lp
def tx0 : List PySem.Str := [("map" : PySem.Str), ("filter" : PySem.Str), ("while" : PySem.Str), ("scan" : PySem.Str), ("merge" : PySem.Str), ("take" : PySem.Str), ("drop" : PySem.Str), ("window" : PySem.Str), ("zip" : PySem.Str), ("no line of a graph" : PySem.Str), ("source" : PySem.Str), ("not a node" : PySem.Str), ("no such input" : PySem.Str), ("widths differ" : PySem.Str), ("too wide" : PySem.Str), ("too long" : PySem.Str), ("too many sources" : PySem.Str), ("wrong number of nodes" : PySem.Str), ("fold" : PySem.Str), ("" : PySem.Str)]
def tx1 : List PySem.Str := [("\n" : PySem.Str), (" " : PySem.Str), ("-" : PySem.Str), ("0" : PySem.Str), ("0123456789" : PySem.Str), ("-0" : PySem.Str), ("line" : PySem.Str), ("1" : PySem.Str), ("9" : PySem.Str), ("a" : PySem.Str), ("z" : PySem.Str), ("source\n" : PySem.Str), ("take 3 0\n" : PySem.Str), ("+" : PySem.Str), ("map 0" : PySem.Str), ("fire" : PySem.Str), ("read" : PySem.Str), ("exhausted" : PySem.Str), ("idle" : PySem.Str), ("ready" : PySem.Str)]
def tx2 : List PySem.Str := [("close" : PySem.Str), ("wrong readers" : PySem.Str), ("wrong values" : PySem.Str), ("wrong rules" : PySem.Str), ("no such reader" : PySem.Str), ("too many readers" : PySem.Str), ("closed" : PySem.Str), ("ended" : PySem.Str), ("open" : PySem.Str), ("nodes" : PySem.Str), ("made" : PySem.Str), ("events" : PySem.Str), ("at" : PySem.Str), ("reads" : PySem.Str), ("calls" : PySem.Str), ("values" : PySem.Str), ("rules" : PySem.Str), ("readers" : PySem.Str), ("x" : PySem.Str), ("other" : PySem.Str)]
def tx3 : List PySem.Str := [("wrong tapes" : PySem.Str), ("wrong pulls" : PySem.Str), ("out" : PySem.Str), ("pos" : PySem.Str), ("shut" : PySem.Str), ("tapes" : PySem.Str), ("seen" : PySem.Str)]
def TXT : List PySem.Str := tx0 ++ tx1 ++ tx2 ++ tx3
def tx (k : Nat) : PySem.Str := TXT.getD k ""
theorem tx_nd : TXT.Nodup := by decide +kernel
theorem tx_len : TXT.length = 67 := by decide +kernel
def FLS : List PySem.Str := [("accessed" : PySem.Str), ("active" : PySem.Str), ("at" : PySem.Str), ("calls" : PySem.Str), ("closed" : PySem.Str), ("coming" : PySem.Str), ("demands" : PySem.Str), ("ended" : PySem.Str), ("events" : PySem.Str), ("further" : PySem.Str), ("graph" : PySem.Str), ("left" : PySem.Str), ("looks" : PySem.Str), ("marks" : PySem.Str), ("more" : PySem.Str), ("node" : PySem.Str), ("nodes" : PySem.Str), ("outputs" : PySem.Str), ("place" : PySem.Str), ("places" : PySem.Str), ("pulls" : PySem.Str), ("reader" : PySem.Str), ("readers" : PySem.Str), ("reads" : PySem.Str), ("remaining" : PySem.Str), ("results" : PySem.Str), ("rows" : PySem.Str), ("rule" : PySem.Str), ("state" : PySem.Str), ("tape" : PySem.Str), ("tapes" : PySem.Str)]
def MTS : List PySem.Str := [("_reader" : PySem.Str), ("_source_state" : PySem.Str), ("calls" : PySem.Str), ("close" : PySem.Str), ("copy" : PySem.Str), ("demands" : PySem.Str), ("events" : PySem.Str), ("explain" : PySem.Str), ("fork" : PySem.Str), ("kept" : PySem.Str), ("looks" : PySem.Str), ("mark" : PySem.Str), ("next_step" : PySem.Str), ("node" : PySem.Str), ("positions" : PySem.Str), ("produced" : PySem.Str), ("pull" : PySem.Str), ("readers" : PySem.Str), ("remaining" : PySem.Str), ("size" : PySem.Str), ("sources" : PySem.Str), ("step" : PySem.Str)]
def GCD : List D := [(.arr [(.str (tx 0)), (.str (tx 1)), (.str (tx 2)), (.str (tx 3)), (.str (tx 4))]), (.arr [(.str (tx 5)), (.str (tx 6)), (.str (tx 7))]), (.arr [(.int 0), (.int 1), (.int 2), (.int 4), (.int 8), (.int 16), (.int 32), (.int 64), (.int 128), (.int 256), (.int 512), (.int 1024), (.int 2000)]), (.int 20), (.int 9), (.int 400), (.int 1000), (.int 1000000), (.int 12), (.int 1000), (.int 6), (.int 12), (.int 2000), (.int 12), (.int 4), (.int 2000), (.arr [(.str (tx 0)), (.str (tx 1)), (.str (tx 2))]), (.int 200), (.arr [(.str (tx 8)), (.str (tx 4))])]
def MTH : List ((Nat × Nat) × Nat) := [((1, 0), 215), ((1, 1), 216), ((1, 2), 217), ((1, 3), 218), ((1, 4), 219), ((1, 5), 220), ((1, 6), 221), ((1, 7), 222), ((1, 8), 223), ((1, 9), 224), ((1, 10), 225), ((1, 12), 226), ((1, 14), 227), ((1, 15), 228), ((1, 16), 229), ((1, 17), 230), ((1, 18), 231), ((1, 20), 232), ((1, 21), 233), ((5, 4), 238), ((8, 4), 242), ((9, 4), 244), ((9, 13), 245), ((9, 15), 246), ((9, 19), 247), ((10, 11), 249)]
def INI : List (Nat × Nat) := [(0, 213), (1, 214), (2, 234), (3, 235), (4, 236), (5, 237), (6, 239), (7, 240), (8, 241), (9, 243), (10, 248)]
def CFS : List (Nat × Nat) := [(0, 6), (0, 11), (0, 12), (1, 10), (1, 28), (2, 9), (2, 20), (2, 30), (3, 16), (4, 0), (4, 23), (4, 25), (5, 4), (5, 5), (5, 7), (5, 19), (5, 23), (5, 26), (5, 27), (5, 29), (6, 6), (6, 12), (6, 24), (7, 20), (7, 21), (7, 30), (8, 1), (8, 15), (8, 18), (9, 0), (9, 3), (9, 8), (9, 10), (9, 17), (9, 22), (10, 2), (10, 13), (10, 14)]
def MFS : List (Nat × Nat) := [(2, 3), (5, 6), (6, 8), (10, 12), (13, 15), (17, 22), (18, 24)]
abbrev t_map : PySem.Str := tx 0
abbrev t_filter : PySem.Str := tx 1
abbrev t_while : PySem.Str := tx 2
abbrev t_scan : PySem.Str := tx 3
abbrev t_merge : PySem.Str := tx 4
abbrev t_take : PySem.Str := tx 5
abbrev t_drop : PySem.Str := tx 6
abbrev t_window : PySem.Str := tx 7
abbrev t_zip : PySem.Str := tx 8
abbrev t_source : PySem.Str := tx 10
abbrev t_fold : PySem.Str := tx 18
abbrev t_line : PySem.Str := tx 26
abbrev t_a : PySem.Str := tx 29
abbrev t_z : PySem.Str := tx 30
abbrev t_fire : PySem.Str := tx 35
abbrev t_read : PySem.Str := tx 36
abbrev t_exhausted : PySem.Str := tx 37
abbrev t_idle : PySem.Str := tx 38
abbrev t_ready : PySem.Str := tx 39
abbrev t_close : PySem.Str := tx 40
abbrev t_closed : PySem.Str := tx 46
abbrev t_ended : PySem.Str := tx 47
abbrev t_open : PySem.Str := tx 48
abbrev t_nodes : PySem.Str := tx 49
abbrev t_made : PySem.Str := tx 50
abbrev t_events : PySem.Str := tx 51
abbrev t_at : PySem.Str := tx 52
abbrev t_reads : PySem.Str := tx 53
abbrev t_calls : PySem.Str := tx 54
abbrev t_values : PySem.Str := tx 55
abbrev t_rules : PySem.Str := tx 56
abbrev t_readers : PySem.Str := tx 57
abbrev t_x : PySem.Str := tx 58
abbrev t_other : PySem.Str := tx 59
abbrev t_out : PySem.Str := tx 62
abbrev t_pos : PySem.Str := tx 63
abbrev t_shut : PySem.Str := tx 64
abbrev t_tapes : PySem.Str := tx 65
abbrev t_seen : PySem.Str := tx 66
abbrev f_accessed : Nat := 0
abbrev f_active : Nat := 1
abbrev f_at : Nat := 2
abbrev f_calls : Nat := 3
abbrev f_closed : Nat := 4
abbrev f_coming : Nat := 5
abbrev f_demands : Nat := 6
abbrev f_ended : Nat := 7
abbrev f_events : Nat := 8
abbrev f_further : Nat := 9
abbrev f_graph : Nat := 10
abbrev f_left : Nat := 11
abbrev f_looks : Nat := 12
abbrev f_marks : Nat := 13
abbrev f_more : Nat := 14
abbrev f_node : Nat := 15
abbrev f_nodes : Nat := 16
abbrev f_outputs : Nat := 17
abbrev f_place : Nat := 18
abbrev f_places : Nat := 19
abbrev f_pulls : Nat := 20
abbrev f_reader : Nat := 21
abbrev f_readers : Nat := 22
abbrev f_reads : Nat := 23
abbrev f_remaining : Nat := 24
abbrev f_results : Nat := 25
abbrev f_rows : Nat := 26
abbrev f_rule : Nat := 27
abbrev f_state : Nat := 28
abbrev f_tape : Nat := 29
abbrev f_tapes : Nat := 30
abbrev c_Bounds : Nat := 0
abbrev c_Flow : Nat := 1
abbrev c_Future : Nat := 2
abbrev c_Graph : Nat := 3
abbrev c_Outcome : Nat := 4
abbrev c_Output : Nat := 5
abbrev c_Paper : Nat := 6
abbrev c_Plan : Nat := 7
abbrev c_Reader : Nat := 8
abbrev c_State : Nat := 9
abbrev c_Tape : Nat := 10
abbrev i_u_accepted : Nat := 0
abbrev i_u_called : Nat := 1
abbrev i_u_chain_input : Nat := 2
abbrev i_u_check : Nat := 3
abbrev i_u_covers : Nat := 4
abbrev i_u_covers_node : Nat := 5
abbrev i_u_fault : Nat := 6
abbrev i_u_fire : Nat := 7
abbrev i_u_fire_computed : Nat := 8
abbrev i_u_fire_merge : Nat := 9
abbrev i_u_fire_tested : Nat := 10
abbrev i_u_fire_window : Nat := 11
abbrev i_u_fire_zip : Nat := 12
abbrev i_u_first_places : Nat := 13
abbrev i_u_has_form : Nat := 14
abbrev i_u_has_head : Nat := 15
abbrev i_u_head : Nat := 16
abbrev i_u_is_mark : Nat := 17
abbrev i_u_is_parameter : Nat := 18
abbrev i_u_is_tape : Nat := 19
abbrev i_law_access : Nat := 20
abbrev i_law_acted : Nat := 21
abbrev i_law_agrees : Nat := 22
abbrev i_law_answer : Nat := 23
abbrev i_law_ask : Nat := 24
abbrev i_law_avail : Nat := 25
abbrev i_law_begin : Nat := 26
abbrev i_law_bounds : Nat := 27
abbrev i_law_built : Nat := 28
abbrev i_law_call : Nat := 29
abbrev i_law_called : Nat := 30
abbrev i_law_calling : Nat := 31
abbrev i_law_calls_right : Nat := 32
abbrev i_law_carried : Nat := 33
abbrev i_law_cell : Nat := 34
abbrev i_law_chain : Nat := 35
abbrev i_law_changed : Nat := 36
abbrev i_law_checked : Nat := 37
abbrev i_law_close : Nat := 38
abbrev i_law_copied : Nat := 39
abbrev i_law_covers : Nat := 40
abbrev i_law_deed : Nat := 41
abbrev i_law_demand_by : Nat := 42
abbrev i_law_do : Nat := 43
abbrev i_law_do_step : Nat := 44
abbrev i_law_draw : Nat := 45
abbrev i_law_drawn_future : Nat := 46
abbrev i_law_drawn_node : Nat := 47
abbrev i_law_due : Nat := 48
abbrev i_law_endless : Nat := 49
abbrev i_law_explained : Nat := 50
abbrev i_law_fault : Nat := 51
abbrev i_law_fire : Nat := 52
abbrev i_law_fire_merge : Nat := 53
abbrev i_law_flow : Nat := 54
abbrev i_law_fork : Nat := 55
abbrev i_law_forked : Nat := 56
abbrev i_law_form : Nat := 57
abbrev i_law_future : Nat := 58
abbrev i_law_graph : Nat := 59
abbrev i_law_held : Nat := 60
abbrev i_law_inputs : Nat := 61
abbrev i_law_is : Nat := 62
abbrev i_law_is_number : Nat := 63
abbrev i_law_is_open : Nat := 64
abbrev i_law_is_pair : Nat := 65
abbrev i_law_keepers : Nat := 66
abbrev i_law_keeps : Nat := 67
abbrev i_law_kept : Nat := 68
abbrev i_law_kept_while : Nat := 69
abbrev i_law_least : Nat := 70
abbrev i_law_left : Nat := 71
abbrev i_law_left_by : Nat := 72
abbrev i_law_length : Nat := 73
abbrev i_law_limit : Nat := 74
abbrev i_law_limits : Nat := 75
abbrev i_law_line : Nat := 76
abbrev i_law_look : Nat := 77
abbrev i_law_made : Nat := 78
abbrev i_law_mark : Nat := 79
abbrev i_law_merged : Nat := 80
abbrev i_law_more : Nat := 81
abbrev i_law_need_ok : Nat := 82
abbrev i_law_new : Nat := 83
abbrev i_law_next : Nat := 84
abbrev i_law_next_for : Nat := 85
abbrev i_law_node : Nat := 86
abbrev i_law_node_step : Nat := 87
abbrev i_law_node_step_new : Nat := 88
abbrev i_law_nodes : Nat := 89
abbrev i_law_not_less : Nat := 90
abbrev i_law_number : Nat := 91
abbrev i_law_of_kind : Nat := 92
abbrev i_law_once : Nat := 93
abbrev i_law_one_input : Nat := 94
abbrev i_law_open_input : Nat := 95
abbrev i_law_other : Nat := 96
abbrev i_law_other_paper : Nat := 97
abbrev i_law_pair_ok : Nat := 98
abbrev i_law_paper : Nat := 99
abbrev i_law_places : Nat := 100
abbrev i_law_pull : Nat := 101
abbrev i_law_pulled : Nat := 102
abbrev i_law_read : Nat := 103
abbrev i_law_remaining : Nat := 104
abbrev i_law_right : Nat := 105
abbrev i_law_row : Nat := 106
abbrev i_law_rule : Nat := 107
abbrev i_law_rules : Nat := 108
abbrev i_law_same : Nat := 109
abbrev i_law_scanned : Nat := 110
abbrev i_law_settle : Nat := 111
abbrev i_law_sources : Nat := 112
abbrev i_law_spoil : Nat := 113
abbrev i_law_spoiled : Nat := 114
abbrev i_law_spoiled_tapes : Nat := 115
abbrev i_law_spoiled_values : Nat := 116
abbrev i_law_spoilt : Nat := 117
abbrev i_law_state : Nat := 118
abbrev i_law_still : Nat := 119
abbrev i_law_text : Nat := 120
abbrev i_law_told : Nat := 121
abbrev i_law_values : Nat := 122
abbrev i_law_wants : Nat := 123
abbrev i_law_whole : Nat := 124
abbrev i_law_whole_node : Nat := 125
abbrev i_law_width : Nat := 126
abbrev i_law_world : Nat := 127
abbrev i_u_length : Nat := 128
abbrev i_u_lengths : Nat := 129
abbrev i_u_merged : Nat := 130
abbrev i_u_more : Nat := 131
abbrev i_u_node : Nat := 132
abbrev i_u_number : Nat := 133
abbrev i_u_plain : Nat := 134
abbrev i_u_plan_read : Nat := 135
abbrev i_u_plan_reader : Nat := 136
abbrev i_u_produce : Nat := 137
abbrev i_u_read : Nat := 138
abbrev i_u_scanned : Nat := 139
abbrev i_u_searched : Nat := 140
abbrev i_u_target_behind : Nat := 141
abbrev i_u_wall : Nat := 142
abbrev i_u_wanted : Nat := 143
abbrev i_u_width : Nat := 144
abbrev i_u_widths : Nat := 145
abbrev i_u_windows : Nat := 146
abbrev i_access : Nat := 147
abbrev i_answer : Nat := 148
abbrev i_are_values : Nat := 149
abbrev i_available : Nat := 150
abbrev i_bounds_of : Nat := 151
abbrev i_by_rule : Nat := 152
abbrev i_calling_nodes : Nat := 153
abbrev i_carried_out : Nat := 154
abbrev i_carry_out : Nat := 155
abbrev i_demand_by : Nat := 156
abbrev i_demanded_by : Nat := 157
abbrev i_denies_row : Nat := 158
abbrev i_denies_source : Nat := 159
abbrev i_do_step : Nat := 160
abbrev i_future_lengths : Nat := 161
abbrev i_future_of : Nat := 162
abbrev i_graph_text : Nat := 163
abbrev i_greater : Nat := 164
abbrev i_greatest_lengths : Nat := 165
abbrev i_has_reader : Nat := 166
abbrev i_in_future : Nat := 167
abbrev i_inputs_of : Nat := 168
abbrev i_is_integer : Nat := 169
abbrev i_is_missing : Nat := 170
abbrev i_is_need_of_row : Nat := 171
abbrev i_is_need_of_source : Nat := 172
abbrev i_is_node : Nat := 173
abbrev i_is_number : Nat := 174
abbrev i_is_open : Nat := 175
abbrev i_is_pair_for_read : Nat := 176
abbrev i_is_right : Nat := 177
abbrev i_is_rule : Nat := 178
abbrev i_is_within : Nat := 179
abbrev i_keeps : Nat := 180
abbrev i_law : Nat := 181
abbrev i_lesser : Nat := 182
abbrev i_look_by : Nat := 183
abbrev i_missing : Nat := 184
abbrev i_need_of_row : Nat := 185
abbrev i_need_of_source : Nat := 186
abbrev i_new_state : Nat := 187
abbrev i_next_step : Nat := 188
abbrev i_node_keeps : Nat := 189
abbrev i_pair_for_read : Nat := 190
abbrev i_paper_of : Nat := 191
abbrev i_plan_access : Nat := 192
abbrev i_plan_consumed : Nat := 193
abbrev i_plan_rows : Nat := 194
abbrev i_plus : Nat := 195
abbrev i_position_keeps : Nat := 196
abbrev i_positions_on : Nat := 197
abbrev i_pull : Nat := 198
abbrev i_read_graph : Nat := 199
abbrev i_reader_keeps : Nat := 200
abbrev i_remaining_by : Nat := 201
abbrev i_remaining_of : Nat := 202
abbrev i_row_explained : Nat := 203
abbrev i_search : Nat := 204
abbrev i_settle : Nat := 205
abbrev i_source_explained : Nat := 206
abbrev i_source_nodes : Nat := 207
abbrev i_usual_tape : Nat := 208
abbrev i_whole_rows : Nat := 209
abbrev i_widths : Nat := 210
abbrev i_next_step_steps : Nat := 211
abbrev i_pull_steps : Nat := 212
abbrev i_Bounds_init : Nat := 213
abbrev i_Flow_init : Nat := 214
abbrev i_Flow__reader : Nat := 215
abbrev i_Flow__source_state : Nat := 216
abbrev i_Flow_calls : Nat := 217
abbrev i_Flow_close : Nat := 218
abbrev i_Flow_copy : Nat := 219
abbrev i_Flow_demands : Nat := 220
abbrev i_Flow_events : Nat := 221
abbrev i_Flow_explain : Nat := 222
abbrev i_Flow_fork : Nat := 223
abbrev i_Flow_kept : Nat := 224
abbrev i_Flow_looks : Nat := 225
abbrev i_Flow_next_step : Nat := 226
abbrev i_Flow_positions : Nat := 227
abbrev i_Flow_produced : Nat := 228
abbrev i_Flow_pull : Nat := 229
abbrev i_Flow_readers : Nat := 230
abbrev i_Flow_remaining : Nat := 231
abbrev i_Flow_sources : Nat := 232
abbrev i_Flow_step : Nat := 233
abbrev i_Future_init : Nat := 234
abbrev i_Graph_init : Nat := 235
abbrev i_Outcome_init : Nat := 236
abbrev i_Output_init : Nat := 237
abbrev i_Output_copy : Nat := 238
abbrev i_Paper_init : Nat := 239
abbrev i_Plan_init : Nat := 240
abbrev i_Reader_init : Nat := 241
abbrev i_Reader_copy : Nat := 242
abbrev i_State_init : Nat := 243
abbrev i_State_copy : Nat := 244
abbrev i_State_node : Nat := 245
abbrev i_State_produced : Nat := 246
abbrev i_State_size : Nat := 247
abbrev i_Tape_init : Nat := 248
abbrev i_Tape_mark : Nat := 249
abbrev g_CALLING : Nat := 0
abbrev g_COUNTED : Nat := 1
abbrev g_COUNTS : Nat := 2
abbrev g_GREATEST_COUNT : Nat := 3
abbrev g_GREATEST_FACTOR : Nat := 4
abbrev g_GREATEST_LENGTH : Nat := 5
abbrev g_GREATEST_START : Nat := 6
abbrev g_GREATEST_VALUE : Nat := 7
abbrev g_GREATEST_WIDTH : Nat := 8
abbrev g_MODULUS : Nat := 9
abbrev g_MOST_FIRST : Nat := 10
abbrev g_MOST_NODES : Nat := 11
abbrev g_MOST_PULLS : Nat := 12
abbrev g_MOST_READERS : Nat := 13
abbrev g_MOST_SOURCES : Nat := 14
abbrev g_MOST_VALUES : Nat := 15
abbrev g_ONE_INPUT : Nat := 16
abbrev g_SOURCE_LENGTH : Nat := 17
abbrev g_TWO_INPUTS : Nat := 18
end Lp

namespace Lp
open PySem PySem.Spec L2 Lp
def n_is_integer : List PySem.Str := [("thing" : PySem.Str)]
def b_is_integer : S := (.seq (.ret (.andv (.isi (.var 0) .int) (.notv (.isi (.var 0) .bool)))) .nil)
def n_is_within : List PySem.Str := [("thing" : PySem.Str), ("low" : PySem.Str), ("high" : PySem.Str)]
def b_is_within : S := (.seq (.ret (.andv (.call 169 (.cons (.var 0) .nil)) (.chn .LtE .LtE (.var 1) (.var 0) (.var 2)))) .nil)
def n_is_number : List PySem.Str := [("thing" : PySem.Str)]
def b_is_number : S := (.seq (.ret (.andv (.call 169 (.cons (.var 0) .nil)) (.cmp .GtE (.var 0) (.int 0)))) .nil)
def n_u_is_parameter : List PySem.Str := [("kind" : PySem.Str), ("thing" : PySem.Str)]
def b_u_is_parameter : S := (.seq (.ife (.tru (.cmp .Eq (.var 0) (.str 3))) (.seq (.ret (.call 179 (.cons (.var 1) (.cons (.neg (.gco 6)) (.cons (.gco 6) .nil))))) .nil) .nil) (.seq (.ret (.call 179 (.cons (.var 1) (.cons (.blt .int (.cons (.cmp .Eq (.var 0) (.str 7)) .nil)) (.cons (.gco 3) .nil))))) .nil))
def n_is_node : List PySem.Str := [("thing" : PySem.Str), ("kind" : PySem.Str), ("rest" : PySem.Str)]
def b_is_node : S := (.seq (.ife (.tor (.tnot (.tru (.isi (.var 0) .tuple))) (.tor (.tru (.cmp .Eq (.blt .len (.cons (.var 0) .nil)) (.int 0))) (.tnot (.tru (.isi (.idx (.var 0) (.int 0)) .str))))) (.seq (.ret (.bl false)) .nil) .nil) (.seq (.set 1 (.idx (.var 0) (.int 0))) (.seq (.set 2 (.slt (.var 0) (.tru (.int 1)) .absent)) (.seq (.ife (.tru (.cmp .Eq (.var 1) (.str 10))) (.seq (.ret (.cmp .Eq (.blt .len (.cons (.var 2) .nil)) (.int 0))) .nil) .nil) (.seq (.ife (.tru (.cmp .In (.var 1) (.gco 16))) (.seq (.ret (.andv (.cmp .Eq (.blt .len (.cons (.var 2) .nil)) (.int 1)) (.call 174 (.cons (.idx (.var 2) (.int 0)) .nil)))) .nil) .nil) (.seq (.ife (.tor (.tru (.cmp .In (.var 1) (.gco 1))) (.tru (.cmp .Eq (.var 1) (.str 3)))) (.seq (.ret (.andv (.cmp .Eq (.blt .len (.cons (.var 2) .nil)) (.int 2)) (.andv (.call 18 (.cons (.var 1) (.cons (.idx (.var 2) (.int 0)) .nil))) (.call 174 (.cons (.idx (.var 2) (.int 1)) .nil))))) .nil) .nil) (.seq (.ret (.andv (.cmp .In (.var 1) (.gco 18)) (.andv (.cmp .Eq (.blt .len (.cons (.var 2) .nil)) (.int 2)) (.andv (.call 174 (.cons (.idx (.var 2) (.int 0)) .nil)) (.call 174 (.cons (.idx (.var 2) (.int 1)) .nil)))))) .nil)))))))
def n_inputs_of : List PySem.Str := [("node" : PySem.Str)]
def b_inputs_of : S := (.seq (.ife (.tor (.tru (.cmp .In (.idx (.var 0) (.int 0)) (.gco 16))) (.tru (.cmp .In (.idx (.var 0) (.int 0)) (.gco 18)))) (.seq (.ret (.slt (.var 0) (.tru (.int 1)) .absent)) .nil) .nil) (.seq (.ret (.slt (.var 0) (.tru (.int 2)) .absent)) .nil))
def n_u_width : List PySem.Str := [("node" : PySem.Str), ("known" : PySem.Str), ("kind" : PySem.Str), ("inputs" : PySem.Str)]
def b_u_width : S := (.seq (.set 2 (.idx (.var 0) (.int 0))) (.seq (.ife (.tru (.cmp .In (.var 2) (.tup (.cons (.str 10) (.cons (.str 0) (.cons (.str 3) .nil)))))) (.seq (.ret (.int 1)) .nil) .nil) (.seq (.set 3 (.call 168 (.cons (.var 0) .nil))) (.seq (.ife (.tru (.cmp .Eq (.var 2) (.str 7))) (.seq (.ret (.bin .Mult (.idx (.var 0) (.int 1)) (.idx (.var 1) (.idx (.var 3) (.int 0))))) .nil) .nil) (.seq (.ife (.tru (.cmp .Eq (.var 2) (.str 8))) (.seq (.ret (.bin .Add (.idx (.var 1) (.idx (.var 3) (.int 0))) (.idx (.var 1) (.idx (.var 3) (.int 1))))) .nil) .nil) (.seq (.ret (.idx (.var 1) (.idx (.var 3) (.int 0)))) .nil))))))
def b_u_length_C1e : E := (.idx (.var 1) (.var 4))
def n_u_length : List PySem.Str := [("node" : PySem.Str), ("known" : PySem.Str), ("kind" : PySem.Str), ("inputs" : PySem.Str), ("p" : PySem.Str)]
def b_u_length : S := (.seq (.set 2 (.idx (.var 0) (.int 0))) (.seq (.ife (.tru (.cmp .Eq (.var 2) (.str 10))) (.seq (.ret (.gco 17)) .nil) .nil) (.seq (.set 3 (.fz (.lc [4] (.itm (.call 168 (.cons (.var 0) .nil))) (.tru (.bl true)) b_u_length_C1e))) (.seq (.ife (.tru (.cmp .Eq (.var 2) (.str 5))) (.seq (.ret (.blt .min (.cons (.idx (.var 0) (.int 1)) (.cons (.idx (.var 3) (.int 0)) .nil)))) .nil) .nil) (.seq (.ife (.tru (.cmp .Eq (.var 2) (.str 6))) (.seq (.ret (.blt .max (.cons (.int 0) (.cons (.bin .Sub (.idx (.var 3) (.int 0)) (.idx (.var 0) (.int 1))) .nil)))) .nil) .nil) (.seq (.ife (.tru (.cmp .Eq (.var 2) (.str 7))) (.seq (.ret (.blt .max (.cons (.int 0) (.cons (.bin .Add (.bin .Sub (.idx (.var 3) (.int 0)) (.idx (.var 0) (.int 1))) (.int 1)) .nil)))) .nil) .nil) (.seq (.ife (.tru (.cmp .Eq (.var 2) (.str 4))) (.seq (.ret (.blt .sum (.cons (.var 3) .nil))) .nil) .nil) (.seq (.ret (.blt .min (.cons (.var 3) .nil))) .nil))))))))
def b_u_widths_L1 : S := (.seq (.ex (.app (.var 1) (.call 144 (.cons (.var 2) (.cons (.var 1) .nil))))) .nil)
def n_u_widths : List PySem.Str := [("nodes" : PySem.Str), ("known" : PySem.Str), ("node" : PySem.Str)]
def b_u_widths : S := (.seq (.set 1 (.mu (.dsp .nil))) (.seq (.for_ [2] (.itm (.var 0)) b_u_widths_L1) (.seq (.ret (.var 1)) .nil)))
def b_u_lengths_L1 : S := (.seq (.ex (.app (.var 1) (.call 128 (.cons (.var 2) (.cons (.var 1) .nil))))) .nil)
def n_u_lengths : List PySem.Str := [("nodes" : PySem.Str), ("known" : PySem.Str), ("node" : PySem.Str)]
def b_u_lengths : S := (.seq (.set 1 (.mu (.dsp .nil))) (.seq (.for_ [2] (.itm (.var 0)) b_u_lengths_L1) (.seq (.ret (.var 1)) .nil)))
def b_u_fault_C1c : E := (.tru (.cmp .Eq (.idx (.var 6) (.int 0)) (.str 10)))
def b_u_fault_C1e : E := (.var 6)
def b_u_fault_C2e : E := (.cmp .GtE (.var 5) (.var 1))
def n_u_fault : List PySem.Str := [("nodes" : PySem.Str), ("at" : PySem.Str), ("node" : PySem.Str), ("inputs" : PySem.Str), ("wide" : PySem.Str), ("p" : PySem.Str), ("other" : PySem.Str)]
def b_u_fault : S := (.seq (.set 2 (.idx (.var 0) (.var 1))) (.seq (.ife (.tnot (.tru (.call 173 (.cons (.var 2) .nil)))) (.seq (.ret (.str 11)) .nil) .nil) (.seq (.set 3 (.call 168 (.cons (.var 2) .nil))) (.seq (.ife (.tru (.blt .any (.cons (.fz (.lc [5] (.itm (.var 3)) (.tru (.bl true)) b_u_fault_C2e)) .nil))) (.seq (.ret (.str 12)) .nil) .nil) (.seq (.set 4 (.call 145 (.cons (.fz (.slp (.var 0) .absent (.tru (.bin .Add (.var 1) (.int 1))))) .nil))) (.seq (.ife (.tand (.tru (.cmp .Eq (.idx (.var 2) (.int 0)) (.str 4))) (.tru (.cmp .NotEq (.idx (.var 4) (.idx (.var 3) (.int 0))) (.idx (.var 4) (.idx (.var 3) (.int 1)))))) (.seq (.ret (.str 13)) .nil) .nil) (.seq (.ife (.tru (.cmp .Gt (.idx (.var 4) (.var 1)) (.gco 8))) (.seq (.ret (.str 14)) .nil) .nil) (.seq (.ife (.tru (.cmp .Gt (.idx (.call 129 (.cons (.fz (.slp (.var 0) .absent (.tru (.bin .Add (.var 1) (.int 1))))) .nil)) (.var 1)) (.gco 5))) (.seq (.ret (.str 15)) .nil) .nil) (.seq (.ife (.tru (.cmp .Gt (.blt .len (.cons (.fz (.lc [6] (.itm (.fz (.slp (.var 0) .absent (.tru (.bin .Add (.var 1) (.int 1)))))) b_u_fault_C1c b_u_fault_C1e)) .nil)) (.gco 14))) (.seq (.ret (.str 16)) .nil) .nil) (.seq (.ret .non) .nil))))))))))
def b_Graph_init_L1 : S := (.seq (.set 3 (.call 6 (.cons (.var 1) (.cons (.var 2) .nil)))) (.seq (.ife (.tru (.cmp .IsNot (.var 3) .non)) (.seq .never .nil) .nil) .nil))
def n_Graph_init : List PySem.Str := [("self" : PySem.Str), ("nodes" : PySem.Str), ("at" : PySem.Str), ("fault" : PySem.Str)]
def b_Graph_init : S := (.seq (.ife (.tnot (.tru (.chn .LtE .LtE (.int 1) (.blt .len (.cons (.var 1) .nil)) (.gco 11)))) (.seq .never .nil) .nil) (.seq (.for_ [2] (.rng1 (.blt .len (.cons (.var 1) .nil))) b_Graph_init_L1) (.seq (.setA (.var 0) 16 (.fz (.lof (.var 1)))) .nil)))
def b_widths : S := (.seq (.ret (.call 145 (.cons (.att (.var 0) 16) .nil))) .nil)
def b_greatest_lengths : S := (.seq (.ret (.call 129 (.cons (.att (.var 0) 16) .nil))) .nil)
def b_source_nodes_C1c : E := (.tru (.cmp .Eq (.idx (.var 2) (.int 0)) (.str 10)))
def b_source_nodes_C1e : E := (.var 1)
def n_source_nodes : List PySem.Str := [("graph" : PySem.Str), ("p" : PySem.Str), ("node" : PySem.Str)]
def b_source_nodes : S := (.seq (.ret (.mu (.lc [1, 2] (.enu (.att (.var 0) 16)) b_source_nodes_C1c b_source_nodes_C1e))) .nil)
def b_calling_nodes_C1c : E := (.tru (.cmp .In (.idx (.var 2) (.int 0)) (.gco 0)))
def b_calling_nodes_C1e : E := (.var 1)
def n_calling_nodes : List PySem.Str := [("graph" : PySem.Str), ("p" : PySem.Str), ("node" : PySem.Str)]
def b_calling_nodes : S := (.seq (.ret (.mu (.lc [1, 2] (.enu (.att (.var 0) 16)) b_calling_nodes_C1c b_calling_nodes_C1e))) .nil)
def n_law_cell : List PySem.Str := [("_law_script" : PySem.Str), ("_law_k" : PySem.Str)]
def b_law_cell : S := (.seq (.ife (.tru (.cmp .Lt (.var 1) (.blt .len (.cons (.var 0) .nil)))) (.seq (.ret (.idx (.var 0) (.var 1))) .nil) .nil) (.seq (.ret (.int 0)) .nil))
def b_law_row_L2 : S := (.seq (.ife (.tru (.cmp .Gt (.var 5) (.int 0))) (.seq (.ex (.app (.var 3) (.bin .Mod (.blt .int (.cons (.var 5) .nil)) (.int 840)))) (.seq (.set 5 (.bin .FloorDiv (.var 5) (.int 840))) .nil)) .nil) .nil)
def b_law_row_L3 : S := (.seq (.set 5 (.bin .Mod (.blt .int (.cons (.bin .Add (.bin .Add (.bin .Mult (.var 5) (.int 69069)) (.bin .Mult (.int 104729) (.bin .Add (.var 4) (.var 6)))) (.int 1)) .nil)) (.int 4294967291))) (.seq (.ex (.app (.var 3) (.bin .Mod (.blt .int (.cons (.bin .FloorDiv (.var 5) (.int 5003)) .nil)) (.int 840)))) .nil))
def b_law_row_L1 : S := (.seq (.set 5 (.call 34 (.cons (.var 0) (.cons (.var 4) .nil)))) (.seq (.set 5 (.bin .Add (.blt .abs (.cons (.bin .Mult (.int 2) (.var 5)) .nil)) (.blt .int (.cons (.cmp .Lt (.var 5) (.int 0)) .nil)))) (.seq (.ife (.tru (.cmp .Gt (.var 5) (.bin .Pow (.int 10) (.int 18)))) (.seq (.for_ [6] (.rng1 (.int 60)) b_law_row_L2) .nil) (.seq (.for_ [6] (.rng1 (.int 10)) b_law_row_L3) .nil)) .nil)))
def n_law_row : List PySem.Str := [("_law_script" : PySem.Str), ("_law_first" : PySem.Str), ("_law_last" : PySem.Str), ("_law_row_here" : PySem.Str), ("_law_k" : PySem.Str), ("_law_cell_here" : PySem.Str), ("_law_turn" : PySem.Str)]
def b_law_row : S := (.seq (.set 3 (.mu (.dsp .nil))) (.seq (.for_ [4] (.rng2 (.var 1) (.var 2)) b_law_row_L1) (.seq (.ret (.var 3)) .nil)))
def n_law_draw : List PySem.Str := [("_law_box" : PySem.Str), ("_law_many" : PySem.Str), ("_law_at" : PySem.Str)]
def b_law_draw : S := (.seq (.set 2 (.idx (.var 0) (.int 1))) (.seq (.setI (.var 0) (.int 1) (.bin .Add (.var 2) (.int 1))) (.seq (.ife (.tru (.cmp .Lt (.var 2) (.blt .len (.cons (.idx (.var 0) (.int 0)) .nil)))) (.seq (.ret (.bin .Mod (.blt .int (.cons (.idx (.idx (.var 0) (.int 0)) (.var 2)) .nil)) (.var 1))) .nil) .nil) (.seq (.ret (.bin .Mod (.blt .int (.cons (.bin .Add (.bin .Mult (.var 2) (.int 5)) (.int 1)) .nil)) (.var 1))) .nil))))
def n_law_inputs : List PySem.Str := [("_law_node" : PySem.Str)]
def b_law_inputs : S := (.seq (.ife (.tru (.cmp .Eq (.idx (.var 0) (.int 0)) (.str 10))) (.seq (.ret (.mu (.dsp .nil))) .nil) .nil) (.seq (.ife (.tru (.cmp .In (.idx (.var 0) (.int 0)) (.tup (.cons (.str 8) (.cons (.str 4) .nil))))) (.seq (.ret (.mu (.dsp (.cons (.idx (.var 0) (.int 1)) (.cons (.idx (.var 0) (.int 2)) .nil))))) .nil) .nil) (.seq (.ife (.tru (.cmp .In (.idx (.var 0) (.int 0)) (.tup (.cons (.str 5) (.cons (.str 6) (.cons (.str 7) (.cons (.str 3) .nil))))))) (.seq (.ret (.mu (.dsp (.cons (.idx (.var 0) (.int 2)) .nil)))) .nil) .nil) (.seq (.ret (.mu (.dsp (.cons (.idx (.var 0) (.int 1)) .nil)))) .nil))))
def n_law_width : List PySem.Str := [("_law_wide" : PySem.Str), ("_law_node" : PySem.Str)]
def b_law_width : S := (.seq (.ife (.tru (.cmp .In (.idx (.var 1) (.int 0)) (.tup (.cons (.str 10) (.cons (.str 0) (.cons (.str 3) .nil)))))) (.seq (.ret (.int 1)) .nil) .nil) (.seq (.ife (.tru (.cmp .Eq (.idx (.var 1) (.int 0)) (.str 8))) (.seq (.ret (.bin .Add (.idx (.var 0) (.idx (.var 1) (.int 1))) (.idx (.var 0) (.idx (.var 1) (.int 2))))) .nil) .nil) (.seq (.ife (.tru (.cmp .Eq (.idx (.var 1) (.int 0)) (.str 7))) (.seq (.ret (.bin .Mult (.idx (.var 1) (.int 1)) (.idx (.var 0) (.idx (.var 1) (.int 2))))) .nil) .nil) (.seq (.ret (.idx (.var 0) (.idx (.call 61 (.cons (.var 1) .nil)) (.int 0)))) .nil))))
def b_law_length_C1e : E := (.idx (.var 0) (.var 3))
def n_law_length : List PySem.Str := [("_law_long" : PySem.Str), ("_law_node" : PySem.Str), ("_law_have" : PySem.Str), ("_law_p" : PySem.Str)]
def b_law_length : S := (.seq (.ife (.tru (.cmp .Eq (.idx (.var 1) (.int 0)) (.str 10))) (.seq (.ret (.int 200)) .nil) .nil) (.seq (.set 2 (.fz (.lc [3] (.itm (.call 61 (.cons (.var 1) .nil))) (.tru (.bl true)) b_law_length_C1e))) (.seq (.ife (.tru (.cmp .Eq (.idx (.var 1) (.int 0)) (.str 5))) (.seq (.ret (.blt .min (.cons (.idx (.var 1) (.int 1)) (.cons (.idx (.var 2) (.int 0)) .nil)))) .nil) .nil) (.seq (.ife (.tru (.cmp .Eq (.idx (.var 1) (.int 0)) (.str 6))) (.seq (.ret (.blt .max (.cons (.int 0) (.cons (.bin .Sub (.idx (.var 2) (.int 0)) (.idx (.var 1) (.int 1))) .nil)))) .nil) .nil) (.seq (.ife (.tru (.cmp .Eq (.idx (.var 1) (.int 0)) (.str 7))) (.seq (.ret (.blt .max (.cons (.int 0) (.cons (.bin .Sub (.idx (.var 2) (.int 0)) (.bin .Sub (.idx (.var 1) (.int 1)) (.int 1))) .nil)))) .nil) .nil) (.seq (.ife (.tru (.cmp .Eq (.idx (.var 1) (.int 0)) (.str 8))) (.seq (.ret (.blt .min (.cons (.var 2) .nil))) .nil) .nil) (.seq (.ret (.blt .sum (.cons (.var 2) .nil))) .nil)))))))
def n_law_drawn_node : List PySem.Str := [("_law_box" : PySem.Str), ("_law_many" : PySem.Str), ("_law_kind" : PySem.Str), ("_law_p" : PySem.Str)]
def b_law_drawn_node : S := (.seq (.set 2 (.idx (.fz (.dsp (.cons (.str 10) (.cons (.str 0) (.cons (.str 1) (.cons (.str 2) (.cons (.str 5) (.cons (.str 6) (.cons (.str 7) (.cons (.str 3) (.cons (.str 8) (.cons (.str 4) (.cons (.str 8) (.cons (.str 4) .nil)))))))))))))) (.call 45 (.cons (.var 0) (.cons (.int 12) .nil))))) (.seq (.set 3 (.call 45 (.cons (.var 0) (.cons (.var 1) .nil)))) (.seq (.ife (.tru (.cmp .Eq (.var 2) (.str 10))) (.seq (.ret (.tup (.cons (.str 10) .nil))) .nil) .nil) (.seq (.ife (.tru (.cmp .In (.var 2) (.tup (.cons (.str 8) (.cons (.str 4) .nil))))) (.seq (.ret (.tup (.cons (.var 2) (.cons (.var 3) (.cons (.call 45 (.cons (.var 0) (.cons (.var 1) .nil))) .nil))))) .nil) .nil) (.seq (.ife (.tru (.cmp .In (.var 2) (.tup (.cons (.str 5) (.cons (.str 6) .nil))))) (.seq (.ret (.tup (.cons (.var 2) (.cons (.idx (.fz (.dsp (.cons (.int 0) (.cons (.int 1) (.cons (.int 2) (.cons (.int 3) (.cons (.int 4) (.cons (.int 6) .nil)))))))) (.call 45 (.cons (.var 0) (.cons (.int 6) .nil)))) (.cons (.var 3) .nil))))) .nil) .nil) (.seq (.ife (.tru (.cmp .Eq (.var 2) (.str 7))) (.seq (.ret (.tup (.cons (.var 2) (.cons (.bin .Add (.int 1) (.call 45 (.cons (.var 0) (.cons (.int 3) .nil)))) (.cons (.var 3) .nil))))) .nil) .nil) (.seq (.ife (.tru (.cmp .Eq (.var 2) (.str 3))) (.seq (.ret (.tup (.cons (.var 2) (.cons (.bin .Sub (.call 45 (.cons (.var 0) (.cons (.int 9) .nil))) (.int 4)) (.cons (.var 3) .nil))))) .nil) .nil) (.seq (.ret (.tup (.cons (.var 2) (.cons (.var 3) .nil)))) .nil))))))))
def b_law_graph_C1c : E := (.tru (.cmp .Eq (.idx (.var 11) (.int 0)) (.str 10)))
def b_law_graph_C1e : E := (.var 11)
def b_law_graph_L1 : S := (.seq (.set 6 (.call 47 (.cons (.var 0) (.cons (.blt .len (.cons (.var 2) .nil)) .nil)))) (.seq (.set 7 (.call 126 (.cons (.var 3) (.cons (.var 6) .nil)))) (.seq (.set 8 (.call 73 (.cons (.var 4) (.cons (.var 6) .nil)))) (.seq (.set 9 (.blt .len (.cons (.fz (.lc [11] (.itm (.var 2)) b_law_graph_C1c b_law_graph_C1e)) .nil))) (.seq (.set 10 (.orv (.cmp .NotEq (.idx (.var 6) (.int 0)) (.str 4)) (.cmp .Eq (.idx (.var 3) (.idx (.var 6) (.int 1))) (.idx (.var 3) (.idx (.var 6) (.int 2)))))) (.seq (.ife (.tor (.tnot (.tru (.var 10))) (.tor (.tru (.cmp .Gt (.var 7) (.int 12))) (.tor (.tru (.cmp .Gt (.var 8) (.int 400))) (.tand (.tru (.cmp .Eq (.idx (.var 6) (.int 0)) (.str 10))) (.tru (.cmp .Eq (.var 9) (.int 4))))))) (.seq (.set 6 (.tup (.cons (.str 0) (.cons (.bin .Sub (.blt .len (.cons (.var 2) .nil)) (.int 1)) .nil)))) (.seq (.set 7 (.int 1)) (.seq (.set 8 (.idx (.var 4) (.neg (.int 1)))) .nil))) .nil) (.seq (.ex (.app (.var 2) (.var 6))) (.seq (.ex (.app (.var 3) (.var 7))) (.seq (.ex (.app (.var 4) (.var 8))) .nil)))))))))
def n_law_graph : List PySem.Str := [("_law_box" : PySem.Str), ("_law_most" : PySem.Str), ("_law_nodes" : PySem.Str), ("_law_wide" : PySem.Str), ("_law_long" : PySem.Str), ("_law_turn" : PySem.Str), ("_law_node" : PySem.Str), ("_law_width_here" : PySem.Str), ("_law_length_here" : PySem.Str), ("_law_many" : PySem.Str), ("_law_fits" : PySem.Str), ("_law_one" : PySem.Str)]
def b_law_graph : S := (.seq (.set 2 (.mu (.dsp (.cons (.tup (.cons (.str 10) .nil)) .nil)))) (.seq (.set 3 (.mu (.dsp (.cons (.int 1) .nil)))) (.seq (.set 4 (.mu (.dsp (.cons (.int 200) .nil)))) (.seq (.for_ [5] (.rng1 (.bin .Add (.int 1) (.call 45 (.cons (.var 0) (.cons (.var 1) .nil))))) b_law_graph_L1) (.seq (.ret (.var 2)) .nil)))))
def b_law_of_kind_C1c : E := (.tru (.cmp .In (.idx (.idx (.var 0) (.var 2)) (.int 0)) (.var 1)))
def b_law_of_kind_C1e : E := (.var 2)
def n_law_of_kind : List PySem.Str := [("_law_nodes" : PySem.Str), ("_law_kinds" : PySem.Str), ("_law_n" : PySem.Str)]
def b_law_of_kind : S := (.seq (.ret (.mu (.lc [2] (.rng1 (.blt .len (.cons (.var 0) .nil))) b_law_of_kind_C1c b_law_of_kind_C1e))) .nil)
def n_law_calling : List PySem.Str := [("_law_nodes" : PySem.Str)]
def b_law_calling : S := (.seq (.ret (.call 92 (.cons (.var 0) (.cons (.tup (.cons (.str 0) (.cons (.str 1) (.cons (.str 2) (.cons (.str 3) (.cons (.str 4) .nil)))))) .nil)))) .nil)
def n_by_rule : List PySem.Str := [("kind" : PySem.Str), ("rule" : PySem.Str), ("rows" : PySem.Str), ("indexes" : PySem.Str), ("first" : PySem.Str), ("told" : PySem.Str), ("a" : PySem.Str), ("b" : PySem.Str), ("c" : PySem.Str)]
def b_by_rule : S := (.seq (.setT [6, 7, 8] (.var 1)) (.seq (.set 4 (.blt .sum (.cons (.idx (.var 2) (.int 0)) .nil))) (.seq (.ife (.tru (.cmp .Eq (.var 0) (.str 4))) (.seq (.ret (.cmp .LtE (.bin .Add (.bin .Mult (.var 6) (.var 4)) (.bin .Mult (.var 8) (.idx (.var 3) (.int 0)))) (.bin .Add (.bin .Mult (.var 7) (.blt .sum (.cons (.idx (.var 2) (.int 1)) .nil))) (.bin .Mult (.var 8) (.idx (.var 3) (.int 1)))))) .nil) .nil) (.seq (.ife (.tru (.cmp .Eq (.var 0) (.str 3))) (.seq (.ret (.bin .Mod (.bin .Add (.bin .Add (.bin .Mult (.var 6) (.var 4)) (.bin .Mult (.var 7) (.blt .sum (.cons (.idx (.var 2) (.int 1)) .nil)))) (.bin .Mult (.var 8) (.idx (.var 3) (.int 0)))) (.gco 9))) .nil) .nil) (.seq (.set 5 (.bin .Add (.bin .Add (.bin .Mult (.var 6) (.var 4)) (.bin .Mult (.var 7) (.idx (.var 3) (.int 0)))) (.var 8))) (.seq (.ife (.tru (.cmp .Eq (.var 0) (.str 0))) (.seq (.ret (.bin .Mod (.var 5) (.gco 9))) .nil) .nil) (.seq (.ret (.cmp .NotEq (.bin .Mod (.var 5) (.int 3)) (.int 0))) .nil)))))))
def n_u_merged : List PySem.Str := [("rule" : PySem.Str), ("one" : PySem.Str), ("two" : PySem.Str), ("rows" : PySem.Str), ("i" : PySem.Str), ("j" : PySem.Str)]
def b_u_merged : S := (.seq (.set 3 (.mu (.dsp .nil))) (.seq (.set 4 (.int 0)) (.seq (.set 5 (.int 0)) (.seq (.whil 5000 (.tand (.tru (.cmp .Lt (.var 4) (.blt .len (.cons (.var 1) .nil)))) (.tru (.cmp .Lt (.var 5) (.blt .len (.cons (.var 2) .nil))))) (.seq (.ife (.tru (.call 152 (.cons (.str 4) (.cons (.var 0) (.cons (.fz (.dsp (.cons (.idx (.var 1) (.var 4)) (.cons (.idx (.var 2) (.var 5)) .nil)))) (.cons (.fz (.dsp (.cons (.var 4) (.cons (.var 5) .nil)))) .nil)))))) (.seq (.ex (.app (.var 3) (.idx (.var 1) (.var 4)))) (.seq (.aug 4 .Add (.int 1)) .nil)) (.seq (.ex (.app (.var 3) (.idx (.var 2) (.var 5)))) (.seq (.aug 5 .Add (.int 1)) .nil))) .nil)) (.seq (.ret (.fz (.cat (.fz (.cat (.var 3) (.fz (.slp (.var 1) (.tru (.var 4)) .absent)))) (.fz (.slp (.var 2) (.tru (.var 5)) .absent))))) .nil)))))
def b_u_scanned_L1 : S := (.seq (.set 4 (.fz (.dsp (.cons (.call 152 (.cons (.str 3) (.cons (.var 0) (.cons (.fz (.dsp (.cons (.var 4) (.cons (.var 6) .nil)))) (.cons (.fz (.dsp (.cons (.var 5) .nil))) .nil))))) .nil)))) (.seq (.ex (.app (.var 3) (.var 4))) .nil))
def n_u_scanned : List PySem.Str := [("rule" : PySem.Str), ("start" : PySem.Str), ("rows" : PySem.Str), ("out" : PySem.Str), ("last" : PySem.Str), ("i" : PySem.Str), ("row" : PySem.Str)]
def b_u_scanned : S := (.seq (.set 3 (.mu (.dsp .nil))) (.seq (.set 4 (.fz (.dsp (.cons (.var 1) .nil)))) (.seq (.for_ [5, 6] (.enu (.var 2)) b_u_scanned_L1) (.seq (.ret (.var 3)) .nil))))
def b_u_accepted_L1 : S := (.seq (.ife (.tru (.call 152 (.cons (.var 0) (.cons (.var 1) (.cons (.fz (.dsp (.cons (.var 5) .nil))) (.cons (.fz (.dsp (.cons (.var 4) .nil))) .nil)))))) (.seq (.ex (.app (.var 3) (.var 5))) .nil) (.seq (.ife (.tru (.cmp .Eq (.var 0) (.str 2))) (.seq .brk .nil) .nil) .nil)) .nil)
def n_u_accepted : List PySem.Str := [("kind" : PySem.Str), ("rule" : PySem.Str), ("rows" : PySem.Str), ("out" : PySem.Str), ("i" : PySem.Str), ("row" : PySem.Str)]
def b_u_accepted : S := (.seq (.set 3 (.mu (.dsp .nil))) (.seq (.for_ [4, 5] (.enu (.var 2)) b_u_accepted_L1) (.seq (.ret (.var 3)) .nil)))
def b_u_windows_L2 : S := (.seq (.set 4 (.fz (.cat (.var 4) (.var 5)))) .nil)
def b_u_windows_L1 : S := (.seq (.set 4 (.fz (.dsp .nil))) (.seq (.for_ [5] (.itm (.fz (.slp (.var 1) (.tru (.var 3)) (.tru (.bin .Add (.var 3) (.var 0)))))) b_u_windows_L2) (.seq (.ex (.app (.var 2) (.var 4))) .nil)))
def n_u_windows : List PySem.Str := [("size" : PySem.Str), ("rows" : PySem.Str), ("out" : PySem.Str), ("i" : PySem.Str), ("whole" : PySem.Str), ("row" : PySem.Str)]
def b_u_windows : S := (.seq (.set 2 (.mu (.dsp .nil))) (.seq (.for_ [3] (.rng1 (.bin .Add (.bin .Sub (.blt .len (.cons (.var 1) .nil)) (.var 0)) (.int 1))) b_u_windows_L1) (.seq (.ret (.var 2)) .nil)))
def b_u_called_C1e : E := (.fz (.dsp (.cons (.call 152 (.cons (.str 0) (.cons (.var 1) (.cons (.fz (.dsp (.cons (.var 5) .nil))) (.cons (.fz (.dsp (.cons (.var 4) .nil))) .nil))))) .nil)))
def n_u_called : List PySem.Str := [("node" : PySem.Str), ("rule" : PySem.Str), ("inputs" : PySem.Str), ("kind" : PySem.Str), ("i" : PySem.Str), ("row" : PySem.Str)]
def b_u_called : S := (.seq (.set 3 (.idx (.var 0) (.int 0))) (.seq (.ife (.tru (.cmp .Eq (.var 3) (.str 0))) (.seq (.ret (.fz (.lc [4, 5] (.enu (.idx (.var 2) (.int 0))) (.tru (.bl true)) b_u_called_C1e))) .nil) .nil) (.seq (.ife (.tru (.cmp .Eq (.var 3) (.str 3))) (.seq (.ret (.call 139 (.cons (.var 1) (.cons (.idx (.var 0) (.int 1)) (.cons (.idx (.var 2) (.int 0)) .nil))))) .nil) .nil) (.seq (.ife (.tru (.cmp .Eq (.var 3) (.str 4))) (.seq (.ret (.cals 130 (.cons (.var 1) (.cons (.idx (.var 2) (.int 0)) (.cons (.idx (.var 2) (.int 1)) .nil))))) .nil) .nil) (.seq (.ret (.cals 0 (.cons (.var 3) (.cons (.var 1) (.cons (.idx (.var 2) (.int 0)) .nil))))) .nil)))))
def b_u_plain_C1e : E := (.fz (.cat (.var 3) (.var 4)))
def n_u_plain : List PySem.Str := [("node" : PySem.Str), ("inputs" : PySem.Str), ("kind" : PySem.Str), ("one" : PySem.Str), ("two" : PySem.Str)]
def b_u_plain : S := (.seq (.set 2 (.idx (.var 0) (.int 0))) (.seq (.ife (.tru (.cmp .Eq (.var 2) (.str 5))) (.seq (.ret (.fz (.slp (.idx (.var 1) (.int 0)) .absent (.tru (.idx (.var 0) (.int 1)))))) .nil) .nil) (.seq (.ife (.tru (.cmp .Eq (.var 2) (.str 6))) (.seq (.ret (.fz (.slp (.idx (.var 1) (.int 0)) (.tru (.idx (.var 0) (.int 1))) .absent))) .nil) .nil) (.seq (.ife (.tru (.cmp .Eq (.var 2) (.str 7))) (.seq (.ret (.call 146 (.cons (.idx (.var 0) (.int 1)) (.cons (.idx (.var 1) (.int 0)) .nil)))) .nil) .nil) (.seq (.ret (.fz (.lc [3, 4] (.zip2 (.idx (.var 1) (.int 0)) (.idx (.var 1) (.int 1))) (.tru (.bl true)) b_u_plain_C1e))) .nil)))))
def b_whole_rows_C2e : E := (.fz (.lof (.var 11)))
def b_whole_rows_C1e : E := (.fz (.lc [11] (.itm (.var 9)) (.tru (.bl true)) b_whole_rows_C2e))
def b_whole_rows_C3e : E := (.fz (.dsp (.cons (.var 12) .nil)))
def b_whole_rows_C4e : E := (.idx (.var 5) (.var 10))
def b_whole_rows_L1 : S := (.seq (.set 8 (.fz (.lc [10] (.itm (.call 168 (.cons (.var 7) .nil))) (.tru (.bl true)) b_whole_rows_C4e))) (.seq (.ife (.tru (.cmp .In (.var 6) (.var 3))) (.seq (.ex (.app (.var 5) (.fz (.lc [12] (.itm (.idx (.var 1) (.idn (.var 3) (.var 6)))) (.tru (.bl true)) b_whole_rows_C3e)))) .nil) (.seq (.ife (.tru (.cmp .In (.var 6) (.var 4))) (.seq (.ex (.app (.var 5) (.cals 1 (.cons (.var 7) (.cons (.idx (.var 2) (.idn (.var 4) (.var 6))) (.cons (.var 8) .nil)))))) .nil) (.seq (.ex (.app (.var 5) (.cals 134 (.cons (.var 7) (.cons (.var 8) .nil))))) .nil)) .nil)) .nil))
def n_whole_rows : List PySem.Str := [("graph" : PySem.Str), ("values" : PySem.Str), ("rules" : PySem.Str), ("sources" : PySem.Str), ("calling" : PySem.Str), ("known" : PySem.Str), ("p" : PySem.Str), ("node" : PySem.Str), ("inputs" : PySem.Str), ("rows" : PySem.Str), ("q" : PySem.Str), ("row" : PySem.Str), ("value" : PySem.Str)]
def b_whole_rows : S := (.seq (.set 3 (.call 207 (.cons (.var 0) .nil))) (.seq (.set 4 (.call 153 (.cons (.var 0) .nil))) (.seq (.set 5 (.mu (.dsp .nil))) (.seq (.for_ [6, 7] (.enu (.att (.var 0) 16)) b_whole_rows_L1) (.seq (.ret (.fz (.lc [9] (.itm (.var 5)) (.tru (.bl true)) b_whole_rows_C1e))) .nil)))))
def b_law_values_C1e : E := (.bin .Sub (.call 45 (.cons (.var 0) (.cons (.int 13) .nil))) (.int 3))
def b_law_values_L1 : S := (.seq (.ex (.app (.var 3) (.fz (.lc [5] (.rng1 (.call 45 (.cons (.var 0) (.cons (.bin .Add (.var 2) (.int 1)) .nil)))) (.tru (.bl true)) b_law_values_C1e)))) .nil)
def n_law_values : List PySem.Str := [("_law_box" : PySem.Str), ("_law_nodes" : PySem.Str), ("_law_most" : PySem.Str), ("_law_out" : PySem.Str), ("_law_n" : PySem.Str), ("_law_k" : PySem.Str)]
def b_law_values : S := (.seq (.set 3 (.mu (.dsp .nil))) (.seq (.for_ [4] (.itm (.call 92 (.cons (.var 1) (.cons (.tup (.cons (.str 10) .nil)) .nil)))) b_law_values_L1) (.seq (.ret (.var 3)) .nil)))
def b_law_rules_C1e : E := (.tup (.cons (.bin .Sub (.call 45 (.cons (.var 0) (.cons (.int 7) .nil))) (.int 3)) (.cons (.bin .Sub (.call 45 (.cons (.var 0) (.cons (.int 7) .nil))) (.int 3)) (.cons (.bin .Sub (.call 45 (.cons (.var 0) (.cons (.int 7) .nil))) (.int 3)) .nil))))
def n_law_rules : List PySem.Str := [("_law_box" : PySem.Str), ("_law_nodes" : PySem.Str), ("_law_n" : PySem.Str)]
def b_law_rules : S := (.seq (.ret (.fz (.lc [2] (.itm (.call 31 (.cons (.var 1) .nil))) (.tru (.bl true)) b_law_rules_C1e))) .nil)
def n_law_rule : List PySem.Str := [("_law_kind" : PySem.Str), ("_law_rule_here" : PySem.Str), ("_law_sums" : PySem.Str), ("_law_at" : PySem.Str), ("_law_a" : PySem.Str), ("_law_b" : PySem.Str), ("_law_c" : PySem.Str)]
def b_law_rule : S := (.seq (.set 4 (.idx (.var 1) (.int 0))) (.seq (.set 5 (.idx (.var 1) (.int 1))) (.seq (.set 6 (.idx (.var 1) (.int 2))) (.seq (.ife (.tru (.cmp .Eq (.var 0) (.str 0))) (.seq (.ret (.bin .Mod (.blt .int (.cons (.bin .Add (.bin .Add (.bin .Mult (.var 4) (.idx (.var 2) (.int 0))) (.bin .Mult (.var 5) (.idx (.var 3) (.int 0)))) (.var 6)) .nil)) (.int 1000))) .nil) .nil) (.seq (.ife (.tru (.cmp .Eq (.var 0) (.str 3))) (.seq (.ret (.bin .Mod (.blt .int (.cons (.bin .Add (.bin .Add (.bin .Mult (.var 4) (.idx (.var 2) (.int 0))) (.bin .Mult (.var 5) (.idx (.var 2) (.int 1)))) (.bin .Mult (.var 6) (.idx (.var 3) (.int 0)))) .nil)) (.int 1000))) .nil) .nil) (.seq (.ife (.tru (.cmp .Eq (.var 0) (.str 4))) (.seq (.ret (.cmp .LtE (.bin .Add (.bin .Mult (.var 4) (.idx (.var 2) (.int 0))) (.bin .Mult (.var 6) (.idx (.var 3) (.int 0)))) (.bin .Add (.bin .Mult (.var 5) (.idx (.var 2) (.int 1))) (.bin .Mult (.var 6) (.idx (.var 3) (.int 1)))))) .nil) .nil) (.seq (.ret (.cmp .NotEq (.bin .Mod (.blt .int (.cons (.bin .Add (.bin .Add (.bin .Mult (.var 4) (.idx (.var 2) (.int 0))) (.bin .Mult (.var 5) (.idx (.var 3) (.int 0)))) (.var 6)) .nil)) (.int 3)) (.int 0))) .nil)))))))
def b_law_scanned_L1 : S := (.seq (.set 4 (.call 107 (.cons (.str 3) (.cons (.var 0) (.cons (.fz (.dsp (.cons (.var 4) (.cons (.blt .sum (.cons (.idx (.var 2) (.var 5)) .nil)) .nil)))) (.cons (.fz (.dsp (.cons (.var 5) .nil))) .nil)))))) (.seq (.ex (.app (.var 3) (.fz (.dsp (.cons (.var 4) .nil))))) .nil))
def n_law_scanned : List PySem.Str := [("_law_rule_here" : PySem.Str), ("_law_first" : PySem.Str), ("_law_rows" : PySem.Str), ("_law_out" : PySem.Str), ("_law_last" : PySem.Str), ("_law_i" : PySem.Str)]
def b_law_scanned : S := (.seq (.set 3 (.mu (.dsp .nil))) (.seq (.set 4 (.var 1)) (.seq (.for_ [5] (.rng1 (.blt .len (.cons (.var 2) .nil))) b_law_scanned_L1) (.seq (.ret (.var 3)) .nil))))
def b_law_merged_L1 : S := (.seq (.set 7 (.cmp .Eq (.var 5) (.blt .len (.cons (.var 2) .nil)))) (.seq (.ife (.tand (.tru (.cmp .Lt (.var 4) (.blt .len (.cons (.var 1) .nil)))) (.tru (.cmp .Lt (.var 5) (.blt .len (.cons (.var 2) .nil))))) (.seq (.set 7 (.call 107 (.cons (.str 4) (.cons (.var 0) (.cons (.fz (.dsp (.cons (.blt .sum (.cons (.idx (.var 1) (.var 4)) .nil)) (.cons (.blt .sum (.cons (.idx (.var 2) (.var 5)) .nil)) .nil)))) (.cons (.fz (.dsp (.cons (.var 4) (.cons (.var 5) .nil)))) .nil)))))) .nil) .nil) (.seq (.ife (.tru (.var 7)) (.seq (.ex (.app (.var 3) (.idx (.var 1) (.var 4)))) (.seq (.set 4 (.bin .Add (.var 4) (.int 1))) .nil)) (.seq (.ex (.app (.var 3) (.idx (.var 2) (.var 5)))) (.seq (.set 5 (.bin .Add (.var 5) (.int 1))) .nil))) .nil)))
def n_law_merged : List PySem.Str := [("_law_rule_here" : PySem.Str), ("_law_one" : PySem.Str), ("_law_two" : PySem.Str), ("_law_out" : PySem.Str), ("_law_i" : PySem.Str), ("_law_j" : PySem.Str), ("_law_turn" : PySem.Str), ("_law_left" : PySem.Str)]
def b_law_merged : S := (.seq (.set 3 (.mu (.dsp .nil))) (.seq (.set 4 (.int 0)) (.seq (.set 5 (.int 0)) (.seq (.for_ [6] (.rng1 (.bin .Add (.blt .len (.cons (.var 1) .nil)) (.blt .len (.cons (.var 2) .nil)))) b_law_merged_L1) (.seq (.ret (.var 3)) .nil)))))
def b_law_kept_while_L1 : S := (.seq (.ife (.tru (.call 107 (.cons (.str 1) (.cons (.var 0) (.cons (.fz (.dsp (.cons (.blt .sum (.cons (.idx (.var 1) (.var 4)) .nil)) .nil))) (.cons (.fz (.dsp (.cons (.var 4) .nil))) .nil)))))) (.seq (.ex (.app (.var 3) (.idx (.var 1) (.var 4)))) .nil) (.seq (.ife (.tru (.var 2)) (.seq (.ret (.var 3)) .nil) .nil) .nil)) .nil)
def n_law_kept_while : List PySem.Str := [("_law_rule_here" : PySem.Str), ("_law_rows" : PySem.Str), ("_law_stop" : PySem.Str), ("_law_out" : PySem.Str), ("_law_i" : PySem.Str)]
def b_law_kept_while : S := (.seq (.set 3 (.mu (.dsp .nil))) (.seq (.for_ [4] (.rng1 (.blt .len (.cons (.var 1) .nil))) b_law_kept_while_L1) (.seq (.ret (.var 3)) .nil)))
def b_law_whole_node_C1e : E := (.fz (.cat (.idx (.idx (.var 1) (.int 0)) (.var 5)) (.idx (.idx (.var 1) (.int 1)) (.var 5))))
def b_law_whole_node_L1 : S := (.seq (.ex (.app (.var 4) (.fz (.sml (.fz (.slp (.idx (.var 1) (.int 0)) (.tru (.var 5)) (.tru (.bin .Add (.var 5) (.idx (.var 0) (.int 1)))))))))) .nil)
def b_law_whole_node_C2e : E := (.fz (.dsp (.cons (.call 107 (.cons (.str 0) (.cons (.var 2) (.cons (.fz (.dsp (.cons (.blt .sum (.cons (.idx (.idx (.var 1) (.int 0)) (.var 5)) .nil)) .nil))) (.cons (.fz (.dsp (.cons (.var 5) .nil))) .nil))))) .nil)))
def n_law_whole_node : List PySem.Str := [("_law_node" : PySem.Str), ("_law_rows" : PySem.Str), ("_law_rule_here" : PySem.Str), ("_law_kind" : PySem.Str), ("_law_out" : PySem.Str), ("_law_i" : PySem.Str)]
def b_law_whole_node : S := (.seq (.set 3 (.idx (.var 0) (.int 0))) (.seq (.ife (.tru (.cmp .Eq (.var 3) (.str 0))) (.seq (.ret (.fz (.lc [5] (.rng1 (.blt .len (.cons (.idx (.var 1) (.int 0)) .nil))) (.tru (.bl true)) b_law_whole_node_C2e))) .nil) .nil) (.seq (.ife (.tru (.cmp .In (.var 3) (.tup (.cons (.str 1) (.cons (.str 2) .nil))))) (.seq (.ret (.cals 69 (.cons (.var 2) (.cons (.idx (.var 1) (.int 0)) (.cons (.cmp .Eq (.var 3) (.str 2)) .nil))))) .nil) .nil) (.seq (.ife (.tru (.cmp .Eq (.var 3) (.str 5))) (.seq (.ret (.fz (.slp (.idx (.var 1) (.int 0)) .absent (.tru (.idx (.var 0) (.int 1)))))) .nil) .nil) (.seq (.ife (.tru (.cmp .Eq (.var 3) (.str 6))) (.seq (.ret (.fz (.slp (.idx (.var 1) (.int 0)) (.tru (.idx (.var 0) (.int 1))) .absent))) .nil) .nil) (.seq (.ife (.tru (.cmp .Eq (.var 3) (.str 7))) (.seq (.set 4 (.mu (.dsp .nil))) (.seq (.for_ [5] (.rng1 (.bin .Add (.bin .Sub (.blt .len (.cons (.idx (.var 1) (.int 0)) .nil)) (.idx (.var 0) (.int 1))) (.int 1))) b_law_whole_node_L1) (.seq (.ret (.var 4)) .nil))) .nil) (.seq (.ife (.tru (.cmp .Eq (.var 3) (.str 3))) (.seq (.ret (.call 110 (.cons (.var 2) (.cons (.idx (.var 0) (.int 1)) (.cons (.idx (.var 1) (.int 0)) .nil))))) .nil) .nil) (.seq (.ife (.tru (.cmp .Eq (.var 3) (.str 8))) (.seq (.ret (.fz (.lc [5] (.rng1 (.blt .min (.cons (.blt .len (.cons (.idx (.var 1) (.int 0)) .nil)) (.cons (.blt .len (.cons (.idx (.var 1) (.int 1)) .nil)) .nil)))) (.tru (.bl true)) b_law_whole_node_C1e))) .nil) .nil) (.seq (.ret (.cals 80 (.cons (.var 2) (.cons (.idx (.var 1) (.int 0)) (.cons (.idx (.var 1) (.int 1)) .nil))))) .nil)))))))))
def b_law_whole_C1e : E := (.fz (.dsp (.cons (.var 6) .nil)))
def b_law_whole_C2e : E := (.idx (.var 3) (.var 7))
def b_law_whole_L1 : S := (.seq (.ife (.tru (.cmp .Eq (.idx (.idx (.var 0) (.var 4)) (.int 0)) (.str 10))) (.seq (.ex (.app (.var 3) (.fz (.lc [6] (.itm (.idx (.var 1) (.idn (.call 92 (.cons (.var 0) (.cons (.tup (.cons (.str 10) .nil)) .nil))) (.var 4)))) (.tru (.bl true)) b_law_whole_C1e)))) .nil) (.seq (.set 5 .non) (.seq (.ife (.tru (.cmp .In (.var 4) (.call 31 (.cons (.var 0) .nil)))) (.seq (.set 5 (.idx (.var 2) (.idn (.call 31 (.cons (.var 0) .nil)) (.var 4)))) .nil) .nil) (.seq (.ex (.app (.var 3) (.cals 125 (.cons (.idx (.var 0) (.var 4)) (.cons (.fz (.lc [7] (.itm (.call 61 (.cons (.idx (.var 0) (.var 4)) .nil))) (.tru (.bl true)) b_law_whole_C2e)) (.cons (.var 5) .nil)))))) .nil)))) .nil)
def n_law_whole : List PySem.Str := [("_law_nodes" : PySem.Str), ("_law_values_here" : PySem.Str), ("_law_rules_here" : PySem.Str), ("_law_out" : PySem.Str), ("_law_n" : PySem.Str), ("_law_rule_here" : PySem.Str), ("_law_v" : PySem.Str), ("_law_p" : PySem.Str)]
def b_law_whole : S := (.seq (.set 3 (.mu (.dsp .nil))) (.seq (.for_ [4] (.rng1 (.blt .len (.cons (.var 0) .nil))) b_law_whole_L1) (.seq (.ret (.var 3)) .nil)))
def b_law_v3_C1e : E := (.fz (.lof (.var 7)))
def b_law_v3_L1 : S := (.seq (.set 3 (.call 59 (.cons (.var 1) (.cons (.int 8) .nil)))) (.seq (.set 4 (.call 122 (.cons (.var 1) (.cons (.var 3) (.cons (.int 8) .nil))))) (.seq (.set 5 (.call 108 (.cons (.var 1) (.cons (.var 3) .nil)))) (.seq (.set 6 (.call 209 (.cons (.mk 3 (.cons (.var 3) .nil)) (.cons (.fz (.lc [7] (.itm (.var 4)) (.tru (.bl true)) b_law_v3_C1e)) (.cons (.fz (.lof (.var 5))) .nil))))) (.seq (.ife (.tru (.cmp .NotEq (.var 6) (.call 124 (.cons (.var 3) (.cons (.var 4) (.cons (.var 5) .nil)))))) (.seq (.ret (.bl false)) .nil) .nil) .nil)))))
def n_law_v3 : List PySem.Str := [("_law_script" : PySem.Str), ("_law_box" : PySem.Str), ("_law_turn" : PySem.Str), ("_law_nodes" : PySem.Str), ("_law_values_here" : PySem.Str), ("_law_rules_here" : PySem.Str), ("_law_told" : PySem.Str), ("_law_one" : PySem.Str)]
def b_law_v3 : S := (.seq (.set 1 (.mu (.dsp (.cons (.call 106 (.cons (.var 0) (.cons (.int 0) (.cons (.int 50) .nil)))) (.cons (.int 0) .nil))))) (.seq (.for_ [2] (.rng1 (.int 5)) b_law_v3_L1) (.seq (.ret (.bl true)) .nil)))
end Lp

namespace Lp
open PySem
noncomputable section
def vOk : Option (Option D) → Store → Res D := fun o M => match o with | some (some d) => .ok d M | _ => .bad
def cB1 (G : Gm) (op : Operator) (b : E) (env : Ev) : D → Store → Res D := fun x M => (ev G b env M).bind (binD op x)
def cC1 (G : Gm) (op : CmpOp) (b : E) (env : Ev) : D → Store → Res D := fun x M => (ev G b env M).bind (cmpD op x)
def cH3 (G : Gm) (o2 : CmpOp) (c : E) (env : Ev) (y : D) : D → Store → Res D := fun x M => (match x with | .bl true => (ev G c env M).bind fun w M => cmpD o2 y w M | .bl false => .ok (.bl false) M | _ => .bad)
def cH2 (G : Gm) (o1 : CmpOp) (o2 : CmpOp) (c : E) (env : Ev) (z : D) : D → Store → Res D := fun x M => (cmpD o1 z x M).bind (cH3 G o2 c env x)
def cH1 (G : Gm) (o1 : CmpOp) (o2 : CmpOp) (b : E) (c : E) (env : Ev) : D → Store → Res D := fun x M => (ev G b env M).bind (cH2 G o1 o2 c env x)
def cAnd (G : Gm) (b : E) (env : Ev) : D → Store → Res D := fun x M => (match x with | .bl true => ev G b env M | .bl false => .ok (.bl false) M | _ => .bad)
def cOr (G : Gm) (b : E) (env : Ev) : D → Store → Res D := fun x M => (match x with | .bl true => .ok (.bl true) M | .bl false => ev G b env M | _ => .bad)
def cNot  : D → Store → Res D := fun x M => (match x with | .bl k => .ok (.bl (!k)) M | _ => .bad)
def cIfe (G : Gm) (a : E) (b : E) (env : Ev) : Bool → Store → Res D := fun x M => (match x with | true => ev G a env M | false => ev G b env M)
def cI1 (G : Gm) (i : E) (env : Ev) : D → Store → Res D := fun x M => (ev G i env M).bind (idxD x)
def cS2 (G : Gm) (hi : E) (env : Ev) (z : D) : Option Int → Store → Res D := fun x M => (evO G hi env M).bind (slcT z x)
def cS1 (G : Gm) (lo : E) (hi : E) (env : Ev) : D → Store → Res D := fun x M => (evO G lo env M).bind (cS2 G hi env x)
def cAt (G : Gm) (f : Nat) : D → Store → Res D := fun x M => attG G x f M
def cCall (G : Gm) (f : Nat) : List D → Store → Res D := fun x M => G.fn f (wks x) M
def cM2 (G : Gm) (f : Nat) (z : D) : List D → Store → Res D := fun x M => G.fn f (wks (z :: x)) M
def cM1 (G : Gm) (m : Nat) (args : E) (env : Ev) : D → Store → Res D := fun x M => (match asI M x with | some (c, fs) => if noF G m fs then (match G.mth c m with | some f => (evs G args env M).bind (cM2 G f x) | none => .bad) else .bad | none => .bad)
def mkK (l : Nat) : Res D → Res D := fun r => match r with | .ok .non M' => .ok (.ref l) M' | .exc c fs M' => .exc c fs M' | _ => .bad
def cMk (G : Gm) (c : Nat) : List D → Store → Res D := fun x M => (match G.ini c with | some f => mkK M.length (G.fn f (.ref M.length :: wks x) (M ++ [.ins c []])) | none => .bad)
def cIs (t : Ty) : D → Store → Res D := fun x M => bRes (isiD M t x) M
def appK (l : Nat) (y : D) : Option MO → Store → Res D := fun o M => match o with | some (.lst xs) => if xs.length < sizeLine then .ok .non (M.set l (.lst (xs ++ [y]))) else .bad | _ => .bad
def cA2 (l : Nat) : D → Store → Res D := fun x M => appK l x M[l]? M
def appP (G : Gm) (b : E) (env : Ev) (l : Nat) : Option MO → Store → Res D := fun o M => match o with | some (.lst _) => (ev G b env M).bind (cA2 l) | _ => .bad
def cA1 (G : Gm) (b : E) (env : Ev) : D → Store → Res D := fun x M => (match x with | .ref l => appP G b env l M[l]? M | _ => .bad)
def cTup  : List D → Store → Res D := fun x M => if x.length ≤ sizeLine then .ok (.tup x) M else .bad
def cFz  : List D → Store → Res D := fun x M => .ok (.nl x) M
def cFr  : List D → Store → Res D := fun x M => .ok (.lst (wks x)) M
def cMu  : List D → Store → Res D := fun x M => .ok (.ref M.length) (M ++ [.lst x])
def bOk : Option Bool → Store → Res Bool := fun o M => match o with | some b => .ok b M | none => .bad
def cTru  : D → Store → Res Bool := fun x M => bOk (truB M x) M
def cTa (G : Gm) (b : E) (env : Ev) : Bool → Store → Res Bool := fun x M => (match x with | true => evT G b env M | false => .ok false M)
def cTo (G : Gm) (b : E) (env : Ev) : Bool → Store → Res Bool := fun x M => (match x with | true => .ok true M | false => evT G b env M)
def cTn  : Bool → Store → Res Bool := fun x M => .ok (!x) M
def cCo2 (z : D) : List D → Store → Res (List D) := fun x M => .ok (z :: x) M
def cCo1 (G : Gm) (r : E) (env : Ev) : D → Store → Res (List D) := fun x M => (evs G r env M).bind (cCo2 x)
def cO  : D → Store → Res (Option Int) := fun x M => (match x with | .int i => .ok (some i) M | _ => .bad)
def cDs  : List D → Store → Res (List D) := fun x M => if x.length ≤ sizeLine then .ok x M else .bad
def cCt (G : Gm) (b : E) (env : Ev) : D → Store → Res (List D) := fun x M => (ev G b env M).bind (catL x)
def cRp (G : Gm) (b : E) (env : Ev) : D → Store → Res (List D) := fun x M => (ev G b env M).bind (repL x)
def cP2 (G : Gm) (hi : E) (env : Ev) (z : D) : Option Int → Store → Res (List D) := fun x M => (evO G hi env M).bind (slL z x)
def cP1 (G : Gm) (lo : E) (hi : E) (env : Ev) : D → Store → Res (List D) := fun x M => (evO G lo env M).bind (cP2 G hi env x)
def lOk : Option (List D) → Store → Res (List D) := fun o M => match o with | some xs => .ok xs M | none => .bad
def cLo  : D → Store → Res (List D) := fun x M => lOk (asS M x) M
def cLc (G : Gm) (tg : List Nat) (c : E) (e : E) (env : Ev) : Itm → Store → Res (List D) := fun x M => lcGo x tg (wipeE env tg) (evT G c) (ev G e) x.n 0 [] M
def iOk : Option Itm → Store → Res Itm := fun o M => match o with | some J => .ok J M | none => .bad
def cIt  : D → Store → Res Itm := fun x M => iOk (itmOf M x) M
def cR1  : D → Store → Res Itm := fun x M => (match x with | .int n => if small n then .ok (rngI 0 n.toNat) M else .bad | _ => .bad)
def cR3 (z : D) : D → Store → Res Itm := fun x M => (match z, x with | .int i, .int j => if small i ∧ small j then .ok (rngI i (j - i).toNat) M else .bad | _, _ => .bad)
def cR2 (G : Gm) (b : E) (env : Ev) : D → Store → Res Itm := fun x M => (ev G b env M).bind (cR3 x)
def enK : Option Itm → Store → Res Itm := fun o M => match o with | some J => .ok (enuI J) M | none => .bad
def cEn  : D → Store → Res Itm := fun x M => enK (itmOf M x) M
def cZ2 (z : D) : D → Store → Res Itm := fun x M => (match itmL M z, itmL M x with | some J, some J2 => .ok (zipI J J2) M | _, _ => .bad)
def cZ1 (G : Gm) (b : E) (env : Ev) : D → Store → Res Itm := fun x M => (ev G b env M).bind (cZ2 x)
def cSeq (G : Gm) (r : S) : Out → Store → Res Out := fun x M => (match x with | .nx env => exec G r env M | o => .ok o M)
def cSet (env : Ev) (i : Nat) : D → Store → Res Out := fun x M => .ok (.nx (setE env i x)) M
def eOk : Option Ev → Store → Res Out := fun o M => match o with | some env => .ok (.nx env) M | none => .bad
def cSt (env : Ev) (is : List Nat) : D → Store → Res Out := fun x M => (match x with | .tup ds => eOk (bindT env is ds) M | _ => .bad)
def cSA2 (G : Gm) (env : Ev) (f : Nat) (y : D) : D → Store → Res Out := fun x M => nxR env (putA G x f y M)
def cSA1 (G : Gm) (env : Ev) (o : E) (f : Nat) : D → Store → Res Out := fun x M => (ev G o env M).bind (cSA2 G env f x)
def cSI3 (env : Ev) (y : D) (z : D) : D → Store → Res Out := fun x M => nxR env (putI z x y M)
def cSI2 (G : Gm) (env : Ev) (i : E) (y : D) : D → Store → Res Out := fun x M => (ev G i env M).bind (cSI3 env y x)
def cSI1 (G : Gm) (env : Ev) (o : E) (i : E) : D → Store → Res Out := fun x M => (ev G o env M).bind (cSI2 G env i x)
def cEx (env : Ev) : D → Store → Res Out := fun x M => .ok (.nx env) M
def cRet  : D → Store → Res Out := fun x M => .ok (.ret x) M
def cIf (G : Gm) (s : S) (t : S) (env : Ev) : Bool → Store → Res Out := fun x M => (match x with | true => exec G s env M | false => exec G t env M)
def cFor (G : Gm) (tg : List Nat) (b : S) (env : Ev) : Itm → Store → Res Out := fun x M => forGo x tg (exec G b) x.n 0 env M
theorem vOk_e {d : D} {M : Store} : vOk (some (some d)) M = .ok d M := rfl
theorem ev_var {G : Gm} {env : Ev} {M : Store} {i : Nat} : ev G (.var i) env M = vOk env[i]? M := rfl
theorem ev_non {G : Gm} {env : Ev} {M : Store}  : ev G .non env M = .ok .non M := rfl
theorem ev_bl {G : Gm} {env : Ev} {M : Store} {b : Bool} : ev G (.bl b) env M = .ok (.bl b) M := rfl
theorem ev_int {G : Gm} {env : Ev} {M : Store} {i : Int} : ev G (.int i) env M = .ok (.int i) M := rfl
theorem ev_str {G : Gm} {env : Ev} {M : Store} {k : Nat} : ev G (.str k) env M = .ok (.str (G.str k)) M := rfl
theorem ev_gco {G : Gm} {env : Ev} {M : Store} {k : Nat} : ev G (.gco k) env M = .ok (G.gco k) M := rfl
theorem cB1_e {G : Gm} {op : Operator} {b : E} {env : Ev} {x : D} {M : Store} : cB1 G op b env x M = (ev G b env M).bind (binD op x) := rfl
theorem ev_bin {G : Gm} {env : Ev} {M : Store} {op : Operator} {a b : E} : ev G (.bin op a b) env M = (ev G a env M).bind (cB1 G op b env) := rfl
theorem ev_neg {G : Gm} {env : Ev} {M : Store} {a : E} : ev G (.neg a) env M = (ev G a env M).bind negD := rfl
theorem cC1_e {G : Gm} {op : CmpOp} {b : E} {env : Ev} {x : D} {M : Store} : cC1 G op b env x M = (ev G b env M).bind (cmpD op x) := rfl
theorem ev_cmp {G : Gm} {env : Ev} {M : Store} {op : CmpOp} {a b : E} : ev G (.cmp op a b) env M = (ev G a env M).bind (cC1 G op b env) := rfl
theorem cH3_t {G : Gm} {o2 : CmpOp} {c : E} {env : Ev} {y : D}  {M : Store} : cH3 G o2 c env y (.bl true) M = (ev G c env M).bind (cmpD o2 y) := rfl
theorem cH3_f {G : Gm} {o2 : CmpOp} {c : E} {env : Ev} {y : D}  {M : Store} : cH3 G o2 c env y (.bl false) M = .ok (.bl false) M := rfl
theorem cH2_e {G : Gm} {o1 : CmpOp} {o2 : CmpOp} {c : E} {env : Ev} {z : D} {x : D} {M : Store} : cH2 G o1 o2 c env z x M = (cmpD o1 z x M).bind (cH3 G o2 c env x) := rfl
theorem cH1_e {G : Gm} {o1 : CmpOp} {o2 : CmpOp} {b : E} {c : E} {env : Ev} {x : D} {M : Store} : cH1 G o1 o2 b c env x M = (ev G b env M).bind (cH2 G o1 o2 c env x) := rfl
theorem ev_chn {G : Gm} {env : Ev} {M : Store} {o1 o2 : CmpOp} {a b c : E} : ev G (.chn o1 o2 a b c) env M = (ev G a env M).bind (cH1 G o1 o2 b c env) := rfl
theorem cAnd_t {G : Gm} {b : E} {env : Ev}  {M : Store} : cAnd G b env (.bl true) M = ev G b env M := rfl
theorem cAnd_f {G : Gm} {b : E} {env : Ev}  {M : Store} : cAnd G b env (.bl false) M = .ok (.bl false) M := rfl
theorem ev_andv {G : Gm} {env : Ev} {M : Store} {a b : E} : ev G (.andv a b) env M = (ev G a env M).bind (cAnd G b env) := rfl
theorem cOr_t {G : Gm} {b : E} {env : Ev}  {M : Store} : cOr G b env (.bl true) M = .ok (.bl true) M := rfl
theorem cOr_f {G : Gm} {b : E} {env : Ev}  {M : Store} : cOr G b env (.bl false) M = ev G b env M := rfl
theorem ev_orv {G : Gm} {env : Ev} {M : Store} {a b : E} : ev G (.orv a b) env M = (ev G a env M).bind (cOr G b env) := rfl
theorem cNot_e  {k : Bool} {M : Store} : cNot  (.bl k) M = .ok (.bl (!k)) M := rfl
theorem ev_notv {G : Gm} {env : Ev} {M : Store} {a : E} : ev G (.notv a) env M = (ev G a env M).bind cNot := rfl
theorem cIfe_t {G : Gm} {a : E} {b : E} {env : Ev}  {M : Store} : cIfe G a b env true M = ev G a env M := rfl
theorem cIfe_f {G : Gm} {a : E} {b : E} {env : Ev}  {M : Store} : cIfe G a b env false M = ev G b env M := rfl
theorem ev_ife {G : Gm} {env : Ev} {M : Store} {c a b : E} : ev G (.ife c a b) env M = (evT G c env M).bind (cIfe G a b env) := rfl
theorem cI1_e {G : Gm} {i : E} {env : Ev} {x : D} {M : Store} : cI1 G i env x M = (ev G i env M).bind (idxD x) := rfl
theorem ev_idx {G : Gm} {env : Ev} {M : Store} {a i : E} : ev G (.idx a i) env M = (ev G a env M).bind (cI1 G i env) := rfl
theorem cS2_e {G : Gm} {hi : E} {env : Ev} {z : D} {x : Option Int} {M : Store} : cS2 G hi env z x M = (evO G hi env M).bind (slcT z x) := rfl
theorem cS1_e {G : Gm} {lo : E} {hi : E} {env : Ev} {x : D} {M : Store} : cS1 G lo hi env x M = (evO G lo env M).bind (cS2 G hi env x) := rfl
theorem ev_slt {G : Gm} {env : Ev} {M : Store} {a lo hi : E} : ev G (.slt a lo hi) env M = (ev G a env M).bind (cS1 G lo hi env) := rfl
theorem cAt_e {G : Gm} {f : Nat} {x : D} {M : Store} : cAt G f x M = attG G x f M := rfl
theorem ev_att {G : Gm} {env : Ev} {M : Store} {a : E} {f : Nat} : ev G (.att a f) env M = (ev G a env M).bind (cAt G f) := rfl
theorem ev_call {G : Gm} {env : Ev} {M : Store} {f : Nat} {args : E} : ev G (.call f args) env M = (evs G args env M).bind (cCall G f) := rfl
theorem cCall_e {G : Gm} {f : Nat} {x : List D} {M : Store} : cCall G f x M = G.fn f (wks x) M := rfl
theorem cM2_e {G : Gm} {f : Nat} {z : D} {x : List D} {M : Store} : cM2 G f z x M = G.fn f (wks (z :: x)) M := rfl
theorem cM1_e {G : Gm} {m : Nat} {args : E} {env : Ev} {x : D} {M : Store} : cM1 G m args env x M = (match asI M x with | some (c, fs) => if noF G m fs then (match G.mth c m with | some f => (evs G args env M).bind (cM2 G f x) | none => .bad) else .bad | none => .bad) := rfl
theorem ev_mth {G : Gm} {env : Ev} {M : Store} {a args : E} {m : Nat} : ev G (.mth a m args) env M = (ev G a env M).bind (cM1 G m args env) := rfl
theorem mkK_e {l : Nat} {M : Store} : mkK l (.ok .non M) = .ok (.ref l) M := rfl
theorem cMk_e {G : Gm} {c : Nat} {x : List D} {M : Store} : cMk G c x M = (match G.ini c with | some f => mkK M.length (G.fn f (.ref M.length :: wks x) (M ++ [.ins c []])) | none => .bad) := rfl
theorem ev_mk {G : Gm} {env : Ev} {M : Store} {c : Nat} {args : E} : ev G (.mk c args) env M = (evs G args env M).bind (cMk G c) := rfl
theorem ev_blt {G : Gm} {env : Ev} {M : Store} {b : Bf} {args : E} : ev G (.blt b args) env M = (evs G args env M).bind (bltD b) := rfl
theorem cIs_e {t : Ty} {x : D} {M : Store} : cIs t x M = bRes (isiD M t x) M := rfl
theorem ev_isi {G : Gm} {env : Ev} {M : Store} {a : E} {t : Ty} : ev G (.isi a t) env M = (ev G a env M).bind (cIs t) := rfl
theorem appK_e {l : Nat} {y : D} {xs : List D} {M : Store} : appK l y (some (.lst xs)) M = if xs.length < sizeLine then .ok .non (M.set l (.lst (xs ++ [y]))) else .bad := rfl
theorem cA2_e {l : Nat} {x : D} {M : Store} : cA2 l x M = appK l x M[l]? M := rfl
theorem appP_e {G : Gm} {b : E} {env : Ev} {l : Nat} {xs : List D} {M : Store} : appP G b env l (some (.lst xs)) M = (ev G b env M).bind (cA2 l) := rfl
theorem cA1_e {G : Gm} {b : E} {env : Ev} {l : Nat} {M : Store} : cA1 G b env (.ref l) M = appP G b env l M[l]? M := rfl
theorem ev_app {G : Gm} {env : Ev} {M : Store} {a b : E} : ev G (.app a b) env M = (ev G a env M).bind (cA1 G b env) := rfl
theorem cTup_e  {x : List D} {M : Store} : cTup  x M = if x.length ≤ sizeLine then .ok (.tup x) M else .bad := rfl
theorem ev_tup {G : Gm} {env : Ev} {M : Store} {es : E} : ev G (.tup es) env M = (evs G es env M).bind cTup := rfl
theorem cFz_e  {x : List D} {M : Store} : cFz  x M = .ok (.nl x) M := rfl
theorem cFr_e  {x : List D} {M : Store} : cFr  x M = .ok (.lst (wks x)) M := rfl
theorem ev_fr {G : Gm} {env : Ev} {M : Store} {p : E} : ev G (.fr p) env M = (evL G p env M).bind cFr := rfl
theorem ev_fz {G : Gm} {env : Ev} {M : Store} {p : E} : ev G (.fz p) env M = (evL G p env M).bind cFz := rfl
theorem cMu_e  {x : List D} {M : Store} : cMu  x M = .ok (.ref M.length) (M ++ [.lst x]) := rfl
theorem ev_mu {G : Gm} {env : Ev} {M : Store} {p : E} : ev G (.mu p) env M = (evL G p env M).bind cMu := rfl
theorem bOk_e {b : Bool} {M : Store} : bOk (some b) M = .ok b M := rfl
theorem cTru_e  {x : D} {M : Store} : cTru  x M = bOk (truB M x) M := rfl
theorem evT_tru {G : Gm} {env : Ev} {M : Store} {a : E} : evT G (.tru a) env M = (ev G a env M).bind cTru := rfl
theorem cTa_t {G : Gm} {b : E} {env : Ev}  {M : Store} : cTa G b env true M = evT G b env M := rfl
theorem cTa_f {G : Gm} {b : E} {env : Ev}  {M : Store} : cTa G b env false M = .ok false M := rfl
theorem evT_tand {G : Gm} {env : Ev} {M : Store} {a b : E} : evT G (.tand a b) env M = (evT G a env M).bind (cTa G b env) := rfl
theorem cTo_t {G : Gm} {b : E} {env : Ev}  {M : Store} : cTo G b env true M = .ok true M := rfl
theorem cTo_f {G : Gm} {b : E} {env : Ev}  {M : Store} : cTo G b env false M = evT G b env M := rfl
theorem evT_tor {G : Gm} {env : Ev} {M : Store} {a b : E} : evT G (.tor a b) env M = (evT G a env M).bind (cTo G b env) := rfl
theorem cTn_e  {x : Bool} {M : Store} : cTn  x M = .ok (!x) M := rfl
theorem evT_tnot {G : Gm} {env : Ev} {M : Store} {a : E} : evT G (.tnot a) env M = (evT G a env M).bind cTn := rfl
theorem evs_nil {G : Gm} {env : Ev} {M : Store}  : evs G .nil env M = .ok [] M := rfl
theorem cCo2_e {z : D} {x : List D} {M : Store} : cCo2 z x M = .ok (z :: x) M := rfl
theorem cCo1_e {G : Gm} {r : E} {env : Ev} {x : D} {M : Store} : cCo1 G r env x M = (evs G r env M).bind (cCo2 x) := rfl
theorem evs_cons {G : Gm} {env : Ev} {M : Store} {a r : E} : evs G (.cons a r) env M = (ev G a env M).bind (cCo1 G r env) := rfl
theorem evO_absent {G : Gm} {env : Ev} {M : Store}  : evO G .absent env M = .ok none M := rfl
theorem cO_e  {i : Int} {M : Store} : cO  (.int i) M = .ok (some i) M := rfl
theorem evO_tru {G : Gm} {env : Ev} {M : Store} {a : E} : evO G (.tru a) env M = (ev G a env M).bind cO := rfl
theorem cDs_e  {x : List D} {M : Store} : cDs  x M = if x.length ≤ sizeLine then .ok x M else .bad := rfl
theorem evL_dsp {G : Gm} {env : Ev} {M : Store} {es : E} : evL G (.dsp es) env M = (evs G es env M).bind cDs := rfl
theorem cCt_e {G : Gm} {b : E} {env : Ev} {x : D} {M : Store} : cCt G b env x M = (ev G b env M).bind (catL x) := rfl
theorem evL_cat {G : Gm} {env : Ev} {M : Store} {a b : E} : evL G (.cat a b) env M = (ev G a env M).bind (cCt G b env) := rfl
theorem cRp_e {G : Gm} {b : E} {env : Ev} {x : D} {M : Store} : cRp G b env x M = (ev G b env M).bind (repL x) := rfl
theorem evL_rep {G : Gm} {env : Ev} {M : Store} {a b : E} : evL G (.rep a b) env M = (ev G a env M).bind (cRp G b env) := rfl
theorem cP2_e {G : Gm} {hi : E} {env : Ev} {z : D} {x : Option Int} {M : Store} : cP2 G hi env z x M = (evO G hi env M).bind (slL z x) := rfl
theorem cP1_e {G : Gm} {lo : E} {hi : E} {env : Ev} {x : D} {M : Store} : cP1 G lo hi env x M = (evO G lo env M).bind (cP2 G hi env x) := rfl
theorem evL_slp {G : Gm} {env : Ev} {M : Store} {a lo hi : E} : evL G (.slp a lo hi) env M = (ev G a env M).bind (cP1 G lo hi env) := rfl
theorem lOk_e {xs : List D} {M : Store} : lOk (some xs) M = .ok xs M := rfl
theorem cLo_e  {x : D} {M : Store} : cLo  x M = lOk (asS M x) M := rfl
theorem evL_lof {G : Gm} {env : Ev} {M : Store} {a : E} : evL G (.lof a) env M = (ev G a env M).bind cLo := rfl
theorem cLc_e {G : Gm} {tg : List Nat} {c : E} {e : E} {env : Ev} {x : Itm} {M : Store} : cLc G tg c e env x M = lcGo x tg (wipeE env tg) (evT G c) (ev G e) x.n 0 [] M := rfl
theorem evL_lc {G : Gm} {env : Ev} {M : Store} {tg : List Nat} {it c e : E} : evL G (.lc tg it c e) env M = (evI G it env M).bind (cLc G tg c e env) := rfl
theorem iOk_e {J : Itm} {M : Store} : iOk (some J) M = .ok J M := rfl
theorem cIt_e  {x : D} {M : Store} : cIt  x M = iOk (itmOf M x) M := rfl
theorem evI_itm {G : Gm} {env : Ev} {M : Store} {a : E} : evI G (.itm a) env M = (ev G a env M).bind cIt := rfl
theorem cR1_e  {n : Int} {M : Store} : cR1  (.int n) M = if small n then .ok (rngI 0 n.toNat) M else .bad := rfl
theorem evI_rng1 {G : Gm} {env : Ev} {M : Store} {a : E} : evI G (.rng1 a) env M = (ev G a env M).bind cR1 := rfl
theorem cR3_e {z : D} {x : D} {M : Store} : cR3 z x M = (match z, x with | .int i, .int j => if small i ∧ small j then .ok (rngI i (j - i).toNat) M else .bad | _, _ => .bad) := rfl
theorem cR3_i {i j : Int} {M : Store} : cR3 (.int i) (.int j) M = if small i ∧ small j then .ok (rngI i (j - i).toNat) M else .bad := rfl
theorem cR2_e {G : Gm} {b : E} {env : Ev} {x : D} {M : Store} : cR2 G b env x M = (ev G b env M).bind (cR3 x) := rfl
theorem evI_rng2 {G : Gm} {env : Ev} {M : Store} {a b : E} : evI G (.rng2 a b) env M = (ev G a env M).bind (cR2 G b env) := rfl
theorem enK_e {J : Itm} {M : Store} : enK (some J) M = .ok (enuI J) M := rfl
theorem cEn_e  {x : D} {M : Store} : cEn  x M = enK (itmOf M x) M := rfl
theorem evI_enu {G : Gm} {env : Ev} {M : Store} {a : E} : evI G (.enu a) env M = (ev G a env M).bind cEn := rfl
theorem cZ2_e {z : D} {x : D} {M : Store} : cZ2 z x M = (match itmL M z, itmL M x with | some J, some J2 => .ok (zipI J J2) M | _, _ => .bad) := rfl
theorem cZ1_e {G : Gm} {b : E} {env : Ev} {x : D} {M : Store} : cZ1 G b env x M = (ev G b env M).bind (cZ2 x) := rfl
theorem evI_zip2 {G : Gm} {env : Ev} {M : Store} {a b : E} : evI G (.zip2 a b) env M = (ev G a env M).bind (cZ1 G b env) := rfl
theorem ex_nil {G : Gm} {env : Ev} {M : Store}  : exec G .nil env M = .ok (.nx env) M := rfl
theorem ex_pass {G : Gm} {env : Ev} {M : Store}  : exec G .pass env M = .ok (.nx env) M := rfl
theorem cSeq_n {G : Gm} {r : S} {env : Ev} {M : Store} : cSeq G r (.nx env) M = exec G r env M := rfl
theorem cSeq_r {G : Gm} {r : S} {d : D} {M : Store} : cSeq G r (.ret d) M = .ok (.ret d) M := rfl
theorem cSeq_b {G : Gm} {r : S} {env : Ev} {M : Store} : cSeq G r (.brk env) M = .ok (.brk env) M := rfl
theorem ex_seq {G : Gm} {env : Ev} {M : Store} {s r : S} : exec G (.seq s r) env M = (exec G s env M).bind (cSeq G r) := rfl
theorem cSet_e {env : Ev} {i : Nat} {x : D} {M : Store} : cSet env i x M = .ok (.nx (setE env i x)) M := rfl
theorem ex_set {G : Gm} {env : Ev} {M : Store} {i : Nat} {e : E} : exec G (.set i e) env M = (ev G e env M).bind (cSet env i) := rfl
theorem eOk_e {env : Ev} {M : Store} : eOk (some env) M = .ok (.nx env) M := rfl
theorem cSt_e {env : Ev} {is : List Nat} {ds : List D} {M : Store} : cSt env is (.tup ds) M = eOk (bindT env is ds) M := rfl
theorem ex_setT {G : Gm} {env : Ev} {M : Store} {is : List Nat} {e : E} : exec G (.setT is e) env M = (ev G e env M).bind (cSt env is) := rfl
theorem nxR_e {env : Ev} {M : Store} : nxR env (some M) = .ok (.nx env) M := rfl
theorem cSA2_e {G : Gm} {env : Ev} {f : Nat} {y : D} {x : D} {M : Store} : cSA2 G env f y x M = nxR env (putA G x f y M) := rfl
theorem cSA1_e {G : Gm} {env : Ev} {o : E} {f : Nat} {x : D} {M : Store} : cSA1 G env o f x M = (ev G o env M).bind (cSA2 G env f x) := rfl
theorem ex_setA {G : Gm} {env : Ev} {M : Store} {o e : E} {f : Nat} : exec G (.setA o f e) env M = (ev G e env M).bind (cSA1 G env o f) := rfl
theorem cSI3_e {env : Ev} {y : D} {z : D} {x : D} {M : Store} : cSI3 env y z x M = nxR env (putI z x y M) := rfl
theorem cSI2_e {G : Gm} {env : Ev} {i : E} {y : D} {x : D} {M : Store} : cSI2 G env i y x M = (ev G i env M).bind (cSI3 env y x) := rfl
theorem cSI1_e {G : Gm} {env : Ev} {o : E} {i : E} {x : D} {M : Store} : cSI1 G env o i x M = (ev G o env M).bind (cSI2 G env i x) := rfl
theorem ex_setI {G : Gm} {env : Ev} {M : Store} {o i e : E} : exec G (.setI o i e) env M = (ev G e env M).bind (cSI1 G env o i) := rfl
theorem cEx_e {env : Ev} {x : D} {M : Store} : cEx env x M = .ok (.nx env) M := rfl
theorem ex_ex {G : Gm} {env : Ev} {M : Store} {e : E} : exec G (.ex e) env M = (ev G e env M).bind (cEx env) := rfl
theorem cRet_e  {x : D} {M : Store} : cRet  x M = .ok (.ret x) M := rfl
theorem ex_ret {G : Gm} {env : Ev} {M : Store} {e : E} : exec G (.ret e) env M = (ev G e env M).bind cRet := rfl
theorem ex_retN {G : Gm} {env : Ev} {M : Store}  : exec G .retN env M = .ok (.ret .non) M := rfl
theorem ex_brk {G : Gm} {env : Ev} {M : Store}  : exec G .brk env M = .ok (.brk env) M := rfl
theorem cIf_t {G : Gm} {s : S} {t : S} {env : Ev}  {M : Store} : cIf G s t env true M = exec G s env M := rfl
theorem cIf_f {G : Gm} {s : S} {t : S} {env : Ev}  {M : Store} : cIf G s t env false M = exec G t env M := rfl
theorem ex_ife {G : Gm} {env : Ev} {M : Store} {c : E} {s t : S} : exec G (.ife c s t) env M = (evT G c env M).bind (cIf G s t env) := rfl
theorem cFor_e {G : Gm} {tg : List Nat} {b : S} {env : Ev} {x : Itm} {M : Store} : cFor G tg b env x M = forGo x tg (exec G b) x.n 0 env M := rfl
theorem ex_for {G : Gm} {env : Ev} {M : Store} {tg : List Nat} {it : E} {b : S} : exec G (.for_ tg it b) env M = (evI G it env M).bind (cFor G tg b env) := rfl
theorem fin_ret {d : D} {M : Store} : fin (.ok (.ret d) M) = .ok d M := rfl
theorem fin_nx {env : Ev} {M : Store} : fin (.ok (.nx env) M) = .ok .non M := rfl
def idP (G : Gm) (b : E) (env : Ev) (x : D) : Option (List D) → Store → Res D := fun o M => match o with | some _ => (ev G b env M).bind (idnD x) | none => .bad
def cIdn (G : Gm) (b : E) (env : Ev) : D → Store → Res D := fun x M => idP G b env x (asM M x) M
theorem idP_e {G : Gm} {b : E} {env : Ev} {x : D} {xs : List D} {M : Store} : idP G b env x (some xs) M = (ev G b env M).bind (idnD x) := rfl
theorem cIdn_e {G : Gm} {b : E} {env : Ev} {x : D} {M : Store} : cIdn G b env x M = idP G b env x (asM M x) M := rfl
theorem ev_idn {G : Gm} {env : Ev} {M : Store} {a b : E} : ev G (.idn a b) env M = (ev G a env M).bind (cIdn G b env) := rfl
def popK (l : Nat) : Option MO → Store → Res D := fun o M => match o with | some (.lst (y :: ys)) => .ok y (M.set l (.lst ys)) | _ => .bad
theorem popK_e {l : Nat} {y : D} {ys : List D} {M : Store} : popK l (some (.lst (y :: ys))) M = .ok y (M.set l (.lst ys)) := rfl
theorem popz_e {l : Nat} {M : Store} : popzD (.ref l) M = popK l M[l]? M := rfl
theorem ev_popz {G : Gm} {env : Ev} {M : Store} {a : E} : ev G (.popz a) env M = (ev G a env M).bind popzD := rfl
theorem ev_dem {G : Gm} {env : Ev} {M : Store} : ev G .dem env M = .ok (.ref M.length) (M ++ [.dic []]) := rfl
def cCalS (G : Gm) (f : Nat) : List D → Store → Res D := fun x M => G.fn f x M
theorem cCalS_e {G : Gm} {f : Nat} {x : List D} {M : Store} : cCalS G f x M = G.fn f x M := rfl
theorem ev_cals {G : Gm} {env : Ev} {M : Store} {f : Nat} {args : E} : ev G (.cals f args) env M = (evs G args env M).bind (cCalS G f) := rfl
def cMtS2 (G : Gm) (f : Nat) (z : D) : List D → Store → Res D := fun x M => G.fn f (z :: x) M
theorem cMtS2_e {G : Gm} {f : Nat} {z : D} {x : List D} {M : Store} : cMtS2 G f z x M = G.fn f (z :: x) M := rfl
def cMtS1 (G : Gm) (m : Nat) (args : E) (env : Ev) : D → Store → Res D := fun x M => (match asI M x with | some (c, fs) => if noF G m fs then (match G.mth c m with | some f => (evs G args env M).bind (cMtS2 G f x) | none => .bad) else .bad | none => .bad)
theorem cMtS1_e {G : Gm} {m : Nat} {args : E} {env : Ev} {x : D} {M : Store} : cMtS1 G m args env x M = (match asI M x with | some (c, fs) => if noF G m fs then (match G.mth c m with | some f => (evs G args env M).bind (cMtS2 G f x) | none => .bad) else .bad | none => .bad) := rfl
theorem ev_mths {G : Gm} {env : Ev} {M : Store} {a args : E} {m : Nat} : ev G (.mths a m args) env M = (ev G a env M).bind (cMtS1 G m args env) := rfl
def cMkS (G : Gm) (c : Nat) : List D → Store → Res D := fun x M => (match G.ini c with | some f => mkK M.length (G.fn f (.ref M.length :: x) (M ++ [.ins c []])) | none => .bad)
theorem cMkS_e {G : Gm} {c : Nat} {x : List D} {M : Store} : cMkS G c x M = (match G.ini c with | some f => mkK M.length (G.fn f (.ref M.length :: x) (M ++ [.ins c []])) | none => .bad) := rfl
theorem ev_mks {G : Gm} {env : Ev} {M : Store} {c : Nat} {args : E} : ev G (.mks c args) env M = (evs G args env M).bind (cMkS G c) := rfl
def smK : Option (List D) → Store → Res (List D) := fun o M => match o with | some xs => if xs.length ≤ sizeLine then .ok xs M else .bad | none => .bad
theorem smK_e {xs : List D} {M : Store} : smK (some xs) M = if xs.length ≤ sizeLine then .ok xs M else .bad := rfl
def cSm : D → Store → Res (List D) := fun x M => smK (sumLL M x) M
theorem cSm_e {x : D} {M : Store} : cSm x M = smK (sumLL M x) M := rfl
theorem evL_sml {G : Gm} {env : Ev} {M : Store} {a : E} : evL G (.sml a) env M = (ev G a env M).bind cSm := rfl
def cRd3 (z : D) : D → Store → Res Itm := fun x M => (match z, x with | .int i, .int j => if small i ∧ small j then .ok (rngdI i (i - j).toNat) M else .bad | _, _ => .bad)
theorem cRd3_i {i j : Int} {M : Store} : cRd3 (.int i) (.int j) M = if small i ∧ small j then .ok (rngdI i (i - j).toNat) M else .bad := rfl
def cRd2 (G : Gm) (b : E) (env : Ev) : D → Store → Res Itm := fun x M => (ev G b env M).bind (cRd3 x)
theorem cRd2_e {G : Gm} {b : E} {env : Ev} {x : D} {M : Store} : cRd2 G b env x M = (ev G b env M).bind (cRd3 x) := rfl
theorem evI_rngd {G : Gm} {env : Ev} {M : Store} {a b : E} : evI G (.rngd a b) env M = (ev G a env M).bind (cRd2 G b env) := rfl
def cAu1 (env : Ev) (i : Nat) (op : Operator) (x : D) : D → Store → Res Out := fun y M => (augOp op x y M).bind (cSet env i)
theorem cAu1_e {env : Ev} {i : Nat} {op : Operator} {x y : D} {M : Store} : cAu1 env i op x y M = (augOp op x y M).bind (cSet env i) := rfl
def auP (G : Gm) (env : Ev) (i : Nat) (op : Operator) (e : E) : Option (Option D) → Store → Res Out := fun o M => match o with | some (some x) => (ev G e env M).bind (cAu1 env i op x) | _ => .bad
theorem auP_e {G : Gm} {env : Ev} {i : Nat} {op : Operator} {e : E} {x : D} {M : Store} : auP G env i op e (some (some x)) M = (ev G e env M).bind (cAu1 env i op x) := rfl
theorem ex_aug {G : Gm} {env : Ev} {M : Store} {i : Nat} {op : Operator} {e : E} : exec G (.aug i op e) env M = auP G env i op e env[i]? M := rfl
theorem aug_add {i j : Int} {M : Store} : augOp .Add (.int i) (.int j) M = .ok (.int (i + j)) M := rfl
theorem aug_sub {i j : Int} {M : Store} : augOp .Sub (.int i) (.int j) M = .ok (.int (i - j)) M := rfl
theorem ex_whil {G : Gm} {env : Ev} {M : Store} {n : Nat} {c : E} {b : S} : exec G (.whil n c b) env M = whiGo (evT G c) (exec G b) n env M := rfl
def aaQ (G : Gm) (env : Ev) (l c f : Nat) (w : D) : Option MO → Store → Res Out := fun o M => match o with | some (.ins c' _) => if c = c' then nxR env (putA G (.ref l) f w M) else .bad | _ => .bad
theorem aaQ_e {G : Gm} {env : Ev} {l c f : Nat} {w : D} {fs : List (Nat × D)} {M : Store} : aaQ G env l c f w (some (.ins c fs)) M = nxR env (putA G (.ref l) f w M) := if_pos rfl
def cAA4 (G : Gm) (env : Ev) (l c f : Nat) : D → Store → Res Out := fun w M => aaQ G env l c f w M[l]? M
theorem cAA4_e {G : Gm} {env : Ev} {l c f : Nat} {w : D} {M : Store} : cAA4 G env l c f w M = aaQ G env l c f w M[l]? M := rfl
def cAA3 (G : Gm) (env : Ev) (l c f : Nat) (op : Operator) (y : D) : D → Store → Res Out := fun z M => (augOp op y z M).bind (cAA4 G env l c f)
theorem cAA3_e {G : Gm} {env : Ev} {l c f : Nat} {op : Operator} {y z : D} {M : Store} : cAA3 G env l c f op y z M = (augOp op y z M).bind (cAA4 G env l c f) := rfl
def cAA2 (G : Gm) (env : Ev) (l c f : Nat) (op : Operator) (e : E) : D → Store → Res Out := fun y M => (ev G e env M).bind (cAA3 G env l c f op y)
theorem cAA2_e {G : Gm} {env : Ev} {l c f : Nat} {op : Operator} {e : E} {y : D} {M : Store} : cAA2 G env l c f op e y M = (ev G e env M).bind (cAA3 G env l c f op y) := rfl
def aaP (G : Gm) (env : Ev) (l f : Nat) (op : Operator) (e : E) : Option MO → Store → Res Out := fun o M => match o with | some (.ins c _) => (attG G (.ref l) f M).bind (cAA2 G env l c f op e) | _ => .bad
theorem aaP_e {G : Gm} {env : Ev} {l c f : Nat} {op : Operator} {e : E} {fs : List (Nat × D)} {M : Store} : aaP G env l f op e (some (.ins c fs)) M = (attG G (.ref l) f M).bind (cAA2 G env l c f op e) := rfl
def cAA1 (G : Gm) (env : Ev) (f : Nat) (op : Operator) (e : E) : D → Store → Res Out := fun x M => match x with | .ref l => aaP G env l f op e M[l]? M | _ => .bad
theorem cAA1_e {G : Gm} {env : Ev} {l f : Nat} {op : Operator} {e : E} {M : Store} : cAA1 G env f op e (.ref l) M = aaP G env l f op e M[l]? M := rfl
theorem ex_augA {G : Gm} {env : Ev} {M : Store} {o e : E} {f : Nat} {op : Operator} : exec G (.augA o f op e) env M = (ev G o env M).bind (cAA1 G env f op e) := by
  simp only [exec]
  rfl
def cAI5 (env : Ev) (l : Nat) (j : D) : D → Store → Res Out := fun w M => nxR env (putI (.ref l) j w M)
theorem cAI5_e {env : Ev} {l : Nat} {j w : D} {M : Store} : cAI5 env l j w M = nxR env (putI (.ref l) j w M) := rfl
def cAI4 (env : Ev) (l : Nat) (j : D) (op : Operator) (y : D) : D → Store → Res Out := fun z M => (augOp op y z M).bind (cAI5 env l j)
theorem cAI4_e {env : Ev} {l : Nat} {j : D} {op : Operator} {y z : D} {M : Store} : cAI4 env l j op y z M = (augOp op y z M).bind (cAI5 env l j) := rfl
def cAI3 (G : Gm) (env : Ev) (l : Nat) (j : D) (op : Operator) (e : E) : D → Store → Res Out := fun y M => (ev G e env M).bind (cAI4 env l j op y)
theorem cAI3_e {G : Gm} {env : Ev} {l : Nat} {j : D} {op : Operator} {e : E} {y : D} {M : Store} : cAI3 G env l j op e y M = (ev G e env M).bind (cAI4 env l j op y) := rfl
def cAI2 (G : Gm) (env : Ev) (l : Nat) (op : Operator) (e : E) : D → Store → Res Out := fun j M => (idxD (.ref l) j M).bind (cAI3 G env l j op e)
theorem cAI2_e {G : Gm} {env : Ev} {l : Nat} {op : Operator} {e : E} {j : D} {M : Store} : cAI2 G env l op e j M = (idxD (.ref l) j M).bind (cAI3 G env l j op e) := rfl
def cAI1 (G : Gm) (env : Ev) (i : E) (op : Operator) (e : E) : D → Store → Res Out := fun x M => match x with | .ref l => (ev G i env M).bind (cAI2 G env l op e) | _ => .bad
theorem cAI1_e {G : Gm} {env : Ev} {i : E} {l : Nat} {op : Operator} {e : E} {M : Store} : cAI1 G env i op e (.ref l) M = (ev G i env M).bind (cAI2 G env l op e) := rfl
theorem ex_augI {G : Gm} {env : Ev} {M : Store} {o i e : E} {op : Operator} : exec G (.augI o i op e) env M = (ev G o env M).bind (cAI1 G env i op e) := by
  simp only [exec]
  rfl
end
end Lp

namespace Lp
open PySem
def gc (k : Nat) : D := GCD.getD k .non
class Gl (G : Gm) : Prop where
  str : G.str = tx
  gco : G.gco = gc
  mth : G.mth = fun c m => MTH.lookup (c, m)
  ini : G.ini = fun c => INI.lookup c
  cfl : G.cfl = fun c f => CFS.contains (c, f)
  mfl : G.mfl = fun m => MFS.lookup m
theorem zip_snd {α β : Type} (d : β) : ∀ (as : List α) (bs : List β) (k : Nat), as.length = bs.length → ((as.zip bs)[k]?.map (·.2)).getD d = bs.getD k d
  | [], [], k, _ => by simp
  | a :: as, b :: bs, 0, _ => rfl
  | a :: as, b :: bs, k + 1, h => zip_snd d as bs k (by simpa using h)
theorem glT_of {T : Tb} {fn : Nat → Fn} {ns : List Str} (h1 : T.txt = TXT) (h2 : T.gcs = ns.zip GCD) (h3 : ns.length = GCD.length) (h4 : T.mth = MTH) (h5 : T.ini = INI) (h6 : T.cfs = CFS) (h7 : T.mfs = MFS) : Gl (gmOf T fn) := by
  refine ⟨?_, ?_, by unfold gmOf; rw [h4], by unfold gmOf; rw [h5], by unfold gmOf; rw [h6], by unfold gmOf; rw [h7]⟩
  · funext k
    show T.txt.getD k "" = tx k
    rw [h1] <;> rfl
  · funext k
    have e : ∀ o : Option (Str × D), (match o with | some (_, d) => d | none => D.non) = (o.map (·.2)).getD .non := fun o => by cases o <;> rfl
    show (match T.gcs[k]? with | some (_, d) => d | none => .non) = GCD.getD k .non
    rw [e, h2]
    exact zip_snd _ _ _ _ h3
theorem Gstr {G : Gm} [g : Gl G] : G.str = tx := g.str
theorem Ggco {G : Gm} [g : Gl G] : G.gco = gc := g.gco
theorem Gmth {G : Gm} [g : Gl G] {c m : Nat} : G.mth c m = MTH.lookup (c, m) := by rw [g.mth]
theorem Gini {G : Gm} [g : Gl G] {c : Nat} : G.ini c = INI.lookup c := by rw [g.ini]
theorem Gcfl {G : Gm} [g : Gl G] {c f : Nat} : G.cfl c f = CFS.contains (c, f) := by rw [g.cfl]
theorem Gmfl {G : Gm} [g : Gl G] {m : Nat} : G.mfl m = MFS.lookup m := by rw [g.mfl]
theorem tx_dec {i j : Nat} (hi : i < 67) (hj : j < 67) : (tx i = tx j) = (i = j) := by
  refine propext ⟨fun h => ?_, fun h => by rw [h]⟩
  unfold tx at h
  have li : i < TXT.length := by rw [tx_len]; exact hi
  have lj : j < TXT.length := by rw [tx_len]; exact hj
  rw [List.getD_eq_getElem?_getD, List.getD_eq_getElem?_getD, List.getElem?_eq_getElem li, List.getElem?_eq_getElem lj] at h
  exact (List.getElem_inj tx_nd).mp (by simpa using h)
theorem tx_beq {i j : Nat} (hi : i < 67) (hj : j < 67) : (tx i == tx j) = (i == j) := by
  rw [Bool.eq_iff_iff, beq_iff_eq, beq_iff_eq, tx_dec hi hj]
theorem bin_add {M : Store} {i j : Int} : binD .Add (.int i) (.int j) M = .ok (.int (i + j)) M := rfl
theorem bin_sub {M : Store} {i j : Int} : binD .Sub (.int i) (.int j) M = .ok (.int (i - j)) M := rfl
theorem bin_mul {M : Store} {i j : Int} (h : mulOk i j) : binD .Mult (.int i) (.int j) M = .ok (.int (i * j)) M := if_pos h
theorem bin_div {M : Store} {i j : Int} (h : 0 < j ∧ j < 1073741824) : binD .FloorDiv (.int i) (.int j) M = .ok (.int (i / j)) M := if_pos h
theorem bin_mod {M : Store} {i j : Int} (h : 0 < j) : binD .Mod (.int i) (.int j) M = .ok (.int (i % j)) M := if_pos h
theorem bin_pow {M : Store} {i j : Int} (h : 0 ≤ j ∧ j ≤ 1000000 ∧ i.natAbs < 2 ^ 64) : binD .Pow (.int i) (.int j) M = .ok (.int (i ^ j.toNat)) M := if_pos h
theorem itm_tup {M : Store} {xs : List D} : itmOf M (.tup xs) = some ⟨xs.length, fun i _ => some xs[i]?⟩ := rfl
theorem itm_lst {M : Store} {xs : List D} : itmOf M (.lst xs) = some ⟨xs.length, fun i _ => some xs[i]?⟩ := rfl
theorem itm_arr {M : Store} {xs : List D} : itmOf M (.arr xs) = some ⟨xs.length, fun i _ => some xs[i]?⟩ := rfl
theorem itm_nl {M : Store} {xs : List D} : itmOf M (.nl xs) = some ⟨xs.length, fun i _ => some xs[i]?⟩ := rfl
theorem truB_bl {M : Store} {b : Bool} : truB M (.bl b) = some b := rfl
theorem truB_non {M : Store} : truB M .non = some false := rfl
theorem truB_int {M : Store} {i : Int} : truB M (.int i) = some (i != 0) := rfl
theorem eqB_int {M : Store} {i j : Int} : eqB M (.int i) (.int j) = some (decide (i = j)) := rfl
theorem eqB_str {M : Store} {i j : Str} : eqB M (.str i) (.str j) = some (decide (i = j)) := rfl
theorem eqB_bl {M : Store} {i j : Bool} : eqB M (.bl i) (.bl j) = some (decide (i = j)) := rfl
theorem idx_tup {M : Store} {xs : List D} {j : Int} : idxD (.tup xs) (.int j) M = oRes (L2.atI xs j) M := rfl
theorem idx_lst {M : Store} {xs : List D} {j : Int} : idxD (.lst xs) (.int j) M = oRes (L2.atI xs j) M := rfl
theorem idx_nl {M : Store} {xs : List D} {j : Int} : idxD (.nl xs) (.int j) M = oRes (L2.atI xs j) M := rfl
theorem idx_arr {M : Store} {xs : List D} {j : Int} : idxD (.arr xs) (.int j) M = oRes (L2.atI xs j) M := rfl
theorem idx_asL {M : Store} {a : D} {xs : List D} {j : Int} (h : asL M a = some xs) : idxD a (.int j) M = oRes (L2.atI xs j) M := by
  cases a with
  | lst ys => cases h; rfl
  | nl ys => cases h; rfl
  | arr ys => cases h; rfl
  | ref l =>
    simp only [asL, asM] at h
    cases e : M[l]? with
    | none => rw [e] at h; cases h
    | some o =>
      rw [e] at h
      cases o with
      | lst ys => cases h; simp only [idxD, e]
      | _ => cases h
  | _ => cases h
theorem atI_nat {α : Type} (xs : List α) (n : Nat) : L2.atI xs (n : Int) = xs[n]? := by
  unfold L2.atI L2.ixN
  rw [if_pos (Int.natCast_nonneg n)]
  by_cases h : n < xs.length
  · rw [if_pos (by omega)]
    show xs[(n : Int).toNat]? = xs[n]?
    rw [Int.toNat_natCast]
  · rw [if_neg (by omega), List.getElem?_eq_none (by omega)]
    rfl
theorem atI_0 {α : Type} (xs : List α) : L2.atI xs 0 = xs[0]? := atI_nat xs 0
theorem atI_1 {α : Type} (xs : List α) : L2.atI xs 1 = xs[1]? := atI_nat xs 1
theorem atI_2 {α : Type} (xs : List α) : L2.atI xs 2 = xs[2]? := atI_nat xs 2
theorem inB_tup {M : Store} {x : D} {ys : List D} : inB M x (.tup ys) = if flatD x && ys.all flatD then some (ys.any fun y => eqF y x) else none := by cases x <;> rfl
theorem inB_lst {M : Store} {x : D} {ys : List D} : inB M x (.lst ys) = if flatD x && ys.all flatD then some (ys.any fun y => eqF y x) else none := by cases x <;> rfl
theorem inB_nl {M : Store} {x : D} {ys : List D} : inB M x (.nl ys) = if flatD x && ys.all flatD then some (ys.any fun y => eqF y x) else none := by cases x <;> rfl
theorem inB_arr {M : Store} {x : D} {ys : List D} : inB M x (.arr ys) = if flatD x && ys.all flatD then some (ys.any fun y => eqF y x) else none := by cases x <;> rfl
theorem sIx_none (n d : Nat) : HT.sIx n d none = d := rfl
theorem sIx_nat (n d k : Nat) : HT.sIx n d (some (k : Int)) = min k n := by
  unfold HT.sIx
  first | (simp; omega) | (simp <;> omega) | skip
theorem slcT_1 {M : Store} {x : D} {xs : List D} : slcT (.tup (x :: xs)) (some 1) none M = .ok (.tup xs) M := by
  have e : HT.sIx ((x :: xs)).length 0 (some 1) = 1 := by rw [show (1 : Int) = ((1 : Nat) : Int) from rfl, sIx_nat]; simp
  show (if HT.sIx ((x :: xs)).length 0 (some 1) = 0 ∧ HT.sIx ((x :: xs)).length ((x :: xs)).length none = ((x :: xs)).length then Res.bad else Res.ok (D.tup (cut ((x :: xs)) (some 1) none)) M) = _
  rw [if_neg (by rw [e]; simp)]
  unfold cut
  rw [e, sIx_none]
  simp
theorem slcT_2 {M : Store} {x y : D} {xs : List D} : slcT (.tup (x :: y :: xs)) (some 2) none M = .ok (.tup xs) M := by
  have e : HT.sIx ((x :: y :: xs)).length 0 (some 2) = 2 := by rw [show (2 : Int) = ((2 : Nat) : Int) from rfl, sIx_nat]; simp
  show (if HT.sIx ((x :: y :: xs)).length 0 (some 2) = 0 ∧ HT.sIx ((x :: y :: xs)).length ((x :: y :: xs)).length none = ((x :: y :: xs)).length then Res.bad else Res.ok (D.tup (cut ((x :: y :: xs)) (some 2) none)) M) = _
  rw [if_neg (by rw [e]; simp)]
  unfold cut
  rw [e, sIx_none]
  simp
theorem slcT_21 {M : Store} {x : D} : slcT (.tup [x]) (some 2) none M = .ok (.tup []) M := by
  have e : HT.sIx ([x]).length 0 (some 2) = 1 := by rw [show (2 : Int) = ((2 : Nat) : Int) from rfl, sIx_nat]; simp
  show (if HT.sIx ([x]).length 0 (some 2) = 0 ∧ HT.sIx ([x]).length ([x]).length none = ([x]).length then Res.bad else Res.ok (D.tup (cut ([x]) (some 2) none)) M) = _
  rw [if_neg (by rw [e]; simp)]
  unfold cut
  rw [e, sIx_none]
  simp
theorem line_ok {n : Nat} (h : n ≤ 100) : (n ≤ sizeLine) = True := by
  refine propext ⟨fun _ => trivial, fun _ => Nat.le_trans h (by decide)⟩
theorem lcGo_pure {J : Itm} {tg : List Nat} {env : Ev} {c : Ev → Store → Res Bool} {e : Ev → Store → Res D} {M : Store} {xs : List D} (g : D → Option D) (hJ : ∀ i, J.nx i M = some xs[i]?) (hn : xs.length ≤ sizeLine)
    (h : ∀ x, x ∈ xs → ∃ env', bindG env tg x = some env' ∧ ((g x = none ∧ c env' M = .ok false M) ∨ ∃ y, g x = some y ∧ c env' M = .ok true M ∧ e env' M = .ok y M)) :
    ∀ (k i : Nat) (acc : List D), xs.length ≤ i + k → acc.length ≤ i → lcGo J tg env c e k i acc M = .ok (acc ++ (xs.drop i).filterMap g) M
  | k, i, acc, hk, ha => by
    unfold lcGo
    rw [hJ i]
    by_cases hi : i < xs.length
    · rw [List.getElem?_eq_getElem hi, List.drop_eq_getElem_cons hi]
      cases k with
      | zero => omega
      | succ k =>
        obtain ⟨env', h1, h2⟩ := h xs[i] (List.getElem_mem hi)
        simp only [h1]
        rcases h2 with ⟨h2, h3⟩ | ⟨y, h2, h3, h4⟩
        · simp only [h3]
          rw [lcGo_pure g hJ hn h k (i + 1) acc (by omega) (by omega), List.filterMap_cons_none h2]
        · simp only [h3, h4]
          rw [if_pos (by omega), lcGo_pure g hJ hn h k (i + 1) (acc ++ [y]) (by omega) (by simp; omega), List.filterMap_cons_some h2, List.append_assoc]
          rfl
    · rw [List.getElem?_eq_none (by omega), List.drop_eq_nil_of_le (by omega)]
      simp
theorem forGo_rule {J : Itm} {tg : List Nat} {b : Ev → Store → Res Out} {xs : List D} (P : Nat → Ev → Store → Prop) (R : D → Store → Prop) (hJ : ∀ i env M, P i env M → J.nx i M = some xs[i]?)
    (step : ∀ i x env M, xs[i]? = some x → P i env M → ∃ env1, bindG env tg x = some env1 ∧ ((∃ env' M', b env1 M = .ok (.nx env') M' ∧ P (i + 1) env' M') ∨ ∃ d M', b env1 M = .ok (.ret d) M' ∧ R d M')) :
    ∀ (k i : Nat) (env : Ev) (M : Store), xs.length ≤ i + k → i ≤ xs.length → P i env M → (∃ env' M', forGo J tg b k i env M = .ok (.nx env') M' ∧ P xs.length env' M') ∨ ∃ d M', forGo J tg b k i env M = .ok (.ret d) M' ∧ R d M'
  | k, i, env, M, hk, hi, hp => by
    unfold forGo
    rw [hJ i env M hp]
    by_cases hlt : i < xs.length
    · rw [List.getElem?_eq_getElem hlt]
      cases k with
      | zero => omega
      | succ k =>
        obtain ⟨env1, h1, h2⟩ := step i xs[i] env M (List.getElem?_eq_getElem hlt) hp
        simp only [h1]
        rcases h2 with ⟨env', M', h2, h3⟩ | ⟨d, M', h2, h3⟩
        · simp only [h2, bind_ok]
          exact forGo_rule P R hJ step k (i + 1) env' M' (by omega) hlt h3
        · simp only [h2, bind_ok]
          exact .inr ⟨d, M', rfl, h3⟩
    · have e : i = xs.length := by omega
      subst e
      rw [List.getElem?_eq_none (Nat.le_refl _)]
      exact .inl ⟨env, M, rfl, hp⟩
theorem forGo_all {J : Itm} {tg : List Nat} {b : Ev → Store → Res Out} {xs : List D} (P : Nat → Ev → Store → Prop) (hJ : ∀ i env M, P i env M → J.nx i M = some xs[i]?)
    (step : ∀ i x env M, xs[i]? = some x → P i env M → ∃ env1 env' M', bindG env tg x = some env1 ∧ b env1 M = .ok (.nx env') M' ∧ P (i + 1) env' M') {k : Nat} {env : Ev} {M : Store} (hk : xs.length ≤ k) (hp : P 0 env M) :
    ∃ env' M', forGo J tg b k 0 env M = .ok (.nx env') M' ∧ P xs.length env' M' := by
  rcases forGo_rule P (fun _ _ => False) hJ (fun i x env M h1 h2 => by
    obtain ⟨env1, env', M', q1, q2, q3⟩ := step i x env M h1 h2
    exact ⟨env1, q1, .inl ⟨env', M', q2, q3⟩⟩) k 0 env M (by omega) (Nat.zero_le _) hp with h | ⟨_, _, _, h⟩
  · exact h
  · exact h.elim
theorem idx_ints {M : Store} {a : D} {ws : List Int} {p : Nat} (h : asL M a = some (ws.map D.int)) (hp : p < ws.length) : idxD a (.int (p : Int)) M = .ok (.int (ws.getD p 0)) M := by
  rw [idx_asL h, atI_nat, List.getElem?_map, List.getElem?_eq_getElem hp, List.getD_eq_getElem?_getD, List.getElem?_eq_getElem hp]
  rfl
theorem lc_known {c : Ev → Store → Res Bool} {e : Ev → Store → Res D} {env : Ev} {M : Store} {ps : List Nat} {ls : List Int} {known : D} {tg n : Nat} (hk : asL M known = some (ls.map D.int)) (hi : ∀ p, p ∈ ps → p < ls.length) (hn : ps.length ≤ n) (hz : ps.length ≤ sizeLine)
    (hc : ∀ env, c env M = .ok true M) (he : ∀ p : Nat, e (setE env tg (.int (p : Int))) M = idxD known (.int (p : Int)) M) :
    lcGo ⟨n, fun i _ => some (ps.map fun (p : Nat) => D.int (p : Int))[i]?⟩ [tg] env c e n 0 [] M = .ok (ps.map fun (p : Nat) => D.int (ls.getD p 0)) M := by
  rw [lcGo_pure (xs := ps.map fun (p : Nat) => D.int (p : Int)) (fun d => match d with | .int p => some (.int (ls.getD p.toNat 0)) | _ => none) (fun i => rfl) (by simpa using hz) (fun x hx => ?_) n 0 [] (by simpa using hn) (Nat.le_refl _)]
  · rw [List.drop_zero, List.nil_append, List.filterMap_map]
    congr 1
    induction ps with
    | nil => rfl
    | cons p ps ih =>
      rw [List.filterMap_cons_some (b := D.int (ls.getD p 0)) (by simp), List.map_cons, ih (fun q hq => hi q (List.mem_cons_of_mem _ hq)) (by simp at hn; omega) (by simp at hz; omega)]
  · obtain ⟨p, hp, rfl⟩ := List.mem_map.mp hx
    refine ⟨_, rfl, .inr ⟨.int (ls.getD p 0), by simp, hc _, ?_⟩⟩
    rw [he p, idx_ints hk (hi p hp)]
abbrev tupI (n : Nat) (xs : List D) : Itm := ⟨n, fun i _ => some xs[i]?⟩
section
variable {n k i j : Nat} {xs : List D} {x y : D} {tg : List Nat} {env env' : Ev} {c : Ev → Store → Res Bool} {e : Ev → Store → Res D} {acc : List D} {M : Store} {J : Itm} {d : D}
def lcE (J : Itm) (tg : List Nat) (env : Ev) (c : Ev → Store → Res Bool) (e : Ev → Store → Res D) (k i : Nat) (acc : List D) : Res D → Res (List D) := fun r => match r with
  | .ok y M2 => if acc.length < sizeLine then lcGo J tg env c e k (i + 1) (acc ++ [y]) M2 else .bad
  | _ => .bad
def lcC (J : Itm) (tg : List Nat) (env : Ev) (c : Ev → Store → Res Bool) (e : Ev → Store → Res D) (k i : Nat) (acc : List D) (env' : Ev) : Res Bool → Res (List D) := fun r => match r with
  | .ok true M1 => lcE J tg env c e k i acc (e env' M1)
  | .ok false M1 => lcGo J tg env c e k (i + 1) acc M1
  | _ => .bad
def lcB (J : Itm) (tg : List Nat) (env : Ev) (c : Ev → Store → Res Bool) (e : Ev → Store → Res D) (k i : Nat) (acc : List D) (M : Store) : Option Ev → Res (List D) := fun o => match o with
  | some env' => lcC J tg env c e k i acc env' (c env' M)
  | none => .bad
def lcX (J : Itm) (tg : List Nat) (env : Ev) (c : Ev → Store → Res Bool) (e : Ev → Store → Res D) (k i : Nat) (acc : List D) (M : Store) : Option D → Res (List D) := fun o => match o with
  | none => .ok acc M
  | some x => lcB J tg env c e k i acc M (bindG env tg x)
theorem lcG_s : lcGo ⟨n, fun i _ => some xs[i]?⟩ tg env c e (k + 1) i acc M = lcX ⟨n, fun i _ => some xs[i]?⟩ tg env c e k i acc M xs[i]? := by
  rw [lcGo]
  cases h : xs[i]? with
  | none => simp only [h, lcX]
  | some x =>
    simp only [h, lcX]
    cases h2 : bindG env tg x with
    | none => simp only [h2, lcB]
    | some env' =>
      simp only [h2, lcB]
      cases h3 : c env' M with
      | bad => simp only [h3, lcC]
      | exc _ _ _ => simp only [h3, lcC]
      | ok b M1 => cases b with
        | false => simp only [h3, lcC]
        | true =>
          simp only [h3, lcC]
          cases h4 : e env' M1 <;> simp only [h4, lcE]
theorem lcG_0 (h : xs[i]? = none) : lcGo ⟨n, fun i _ => some xs[i]?⟩ tg env c e 0 i acc M = .ok acc M := by
  rw [lcGo]
  simp only [h]
theorem lcG_n : lcGo ⟨n, fun _ _ => some none⟩ tg env c e k i acc M = .ok acc M := by
  rw [lcGo]
theorem lcX_n : lcX J tg env c e k i acc M none = .ok acc M := rfl
theorem lcX_s : lcX J tg env c e k i acc M (some x) = lcB J tg env c e k i acc M (bindG env tg x) := rfl
theorem lcB_s : lcB J tg env c e k i acc M (some env') = lcC J tg env c e k i acc env' (c env' M) := rfl
theorem lcC_t : lcC J tg env c e k i acc env' (.ok true M) = lcE J tg env c e k i acc (e env' M) := rfl
theorem lcC_f : lcC J tg env c e k i acc env' (.ok false M) = lcGo J tg env c e k (i + 1) acc M := rfl
theorem lcE_o : lcE J tg env c e k i acc (.ok y M) = if acc.length < sizeLine then lcGo J tg env c e k (i + 1) (acc ++ [y]) M else .bad := rfl
theorem bindG_1 : bindG env [j] d = some (setE env j d) := rfl
theorem line_lt {m : Nat} (h : m ≤ 100) : (m < sizeLine) = True := propext ⟨fun _ => trivial, fun _ => Nat.lt_of_le_of_lt h (by decide)⟩
end
theorem minL_1 (a : Int) : minL [a] = a := rfl
theorem minL_2 (a b : Int) : minL [a, b] = if b < a then b else a := rfl
theorem dInts_1 {a : Int} : dInts [.int a] = some [a] := rfl
theorem dInts_2 {a b : Int} : dInts [.int a, .int b] = some [a, b] := rfl
theorem nc_0 : ((0 : Nat) : Int) = 0 := rfl
theorem nc_1 : ((1 : Nat) : Int) = 1 := rfl
theorem nc_2 : ((2 : Nat) : Int) = 2 := rfl
theorem nc_3 : ((3 : Nat) : Int) = 3 := rfl
theorem nc_4 : ((4 : Nat) : Int) = 4 := rfl
theorem nc_5 : ((5 : Nat) : Int) = 5 := rfl
theorem atI_3 {α : Type} (xs : List α) : L2.atI xs 3 = xs[3]? := atI_nat xs 3
theorem atI_4 {α : Type} (xs : List α) : L2.atI xs 4 = xs[4]? := atI_nat xs 4
theorem atI_5 {α : Type} (xs : List α) : L2.atI xs 5 = xs[5]? := atI_nat xs 5
theorem atI_6 {α : Type} (xs : List α) : L2.atI xs 6 = xs[6]? := atI_nat xs 6
theorem atI_7 {α : Type} (xs : List α) : L2.atI xs 7 = xs[7]? := atI_nat xs 7
theorem atI_8 {α : Type} (xs : List α) : L2.atI xs 8 = xs[8]? := atI_nat xs 8
theorem atI_9 {α : Type} (xs : List α) : L2.atI xs 9 = xs[9]? := atI_nat xs 9
theorem atI_10 {α : Type} (xs : List α) : L2.atI xs 10 = xs[10]? := atI_nat xs 10
theorem atI_11 {α : Type} (xs : List α) : L2.atI xs 11 = xs[11]? := atI_nat xs 11
theorem nc_6 : ((6 : Nat) : Int) = 6 := rfl
theorem nc_7 : ((7 : Nat) : Int) = 7 := rfl
theorem nc_8 : ((8 : Nat) : Int) = 8 := rfl
theorem nc_9 : ((9 : Nat) : Int) = 9 := rfl
theorem nc_10 : ((10 : Nat) : Int) = 10 := rfl
theorem nc_11 : ((11 : Nat) : Int) = 11 := rfl
theorem nc_12 : ((12 : Nat) : Int) = 12 := rfl
end Lp

namespace Lp
open PySem
theorem rng_nx {lo : Int} {n i : Nat} {M : Store} : (rngI lo n).nx i M = some (if i < n then some (.int (lo + i)) else none) := rfl
theorem rng_n {lo : Int} {n : Nat} : (rngI lo n).n = n := rfl
theorem small_nat {n : Nat} (h : n ≤ 1000000) : small (n : Int) := ⟨by omega, by omega⟩
theorem toNat_nat {n : Nat} : (n : Int).toNat = n := Int.toNat_natCast n
theorem p64 : (2 : Int) ^ 64 = 18446744073709551616 := rfl
theorem mul_okR {x y : Int} (h : -1000000 ≤ y ∧ y ≤ 1000000) : mulOk x y := .inr ⟨by rw [p64]; omega, by rw [p64]; omega⟩
theorem mul_okL {x y : Int} (h : -1000000 ≤ y ∧ y ≤ 1000000) : mulOk y x := .inl ⟨by rw [p64]; omega, by rw [p64]; omega⟩
theorem mul_ok {n : Nat} {x : Int} (h : n ≤ 20) : mulOk (n : Int) x := mul_okL (by omega)
theorem asS_asL {M : Store} {a : D} {xs : List D} (h : asL M a = some xs) : asS M a = some xs := by cases a <;> first | exact h | cases h
theorem blt_len {M : Store} {a : D} {n : Nat} (h : lenO M a = some n) : bltD .len [a] M = .ok (.int (n : Int)) M := by
  simp only [bltD, blt1, h]
theorem bi_int (i : Int) (M : Store) : bltD .int [.int i] M = .ok (.int i) M := rfl
theorem bi_bl (b : Bool) (M : Store) : bltD .int [.bl b] M = .ok (.int (if b then 1 else 0)) M := rfl
theorem bi_abs (i : Int) (M : Store) : bltD .abs [.int i] M = .ok (.int (if i < 0 then -i else i)) M := rfl
theorem succ_nat {k : Nat} : ((k : Nat) : Int) + 1 = ((k + 1 : Nat) : Int) := by omega
theorem get_new {M : Store} {o : MO} : (M ++ [o])[M.length]? = some o := by simp
theorem set_new {M : Store} {o o' : MO} : (M ++ [o]).set M.length o' = M ++ [o'] := by simp
theorem line_le {n : Nat} (h : n ≤ 100000) : n ≤ sizeLine := Nat.le_trans h (by decide)
theorem line_lt' {n : Nat} (h : n ≤ 100000) : n < sizeLine := Nat.lt_of_le_of_lt h (by decide)
theorem cut_take {α : Type} (xs : List α) (k : Nat) : cut xs none (some (k : Int)) = xs.take k := by
  simp only [cut, HT.sIx_none, HT.sIx_nat, List.drop_zero, Nat.sub_zero]
  rw [List.take_eq_take_iff]
  omega
theorem cut_drop {α : Type} (xs : List α) (k : Nat) : cut xs (some (k : Int)) none = xs.drop k := by
  simp only [cut, HT.sIx_none, HT.sIx_nat]
  by_cases h : k ≤ xs.length
  · rw [Nat.min_eq_left h, List.take_of_length_le (by simp)]
  · rw [Nat.min_eq_right (by omega), List.drop_of_length_le (Nat.le_refl _), List.drop_of_length_le (by omega)]; simp
theorem cut_all {α : Type} (xs : List α) : cut xs none none = xs := by simp [cut, HT.sIx_none]
section
variable {J : Itm} {tg : List Nat} {b : Ev → Store → Res Out} {n : Nat} {it : Nat → D}
def OutP (P B : Ev → Store → Prop) (R : D → Store → Prop) (X : Nat → List (Nat × D) → Store → Prop) : Res Out → Prop
  | .ok (.nx env) M => P env M
  | .ok (.brk env) M => B env M
  | .ok (.ret d) M => R d M
  | .exc c fs M => X c fs M
  | .bad => False
theorem for_out (P : Nat → Ev → Store → Prop) (B : Ev → Store → Prop) (R : D → Store → Prop) (X : Nat → List (Nat × D) → Store → Prop)
    (hJ : ∀ i env M, P i env M → J.nx i M = some (if i < n then some (it i) else none))
    (step : ∀ i env M, i < n → P i env M → ∃ env1, bindG env tg (it i) = some env1 ∧ OutP (P (i + 1)) B R X (b env1 M)) :
    ∀ (k i : Nat) (env : Ev) (M : Store), n ≤ i + k → i ≤ n → P i env M → OutP (fun env M => P n env M ∨ B env M) (fun _ _ => False) R X (forGo J tg b k i env M)
  | k, i, env, M, hk, hi, hp => by
    unfold forGo
    rw [hJ i env M hp]
    by_cases hlt : i < n
    · rw [if_pos hlt]
      cases k with
      | zero => omega
      | succ k =>
        obtain ⟨env1, h1, h2⟩ := step i env M hlt hp
        simp only [h1]
        cases e : b env1 M with
        | bad => rw [e] at h2; exact h2.elim
        | exc c fs M' => rw [e] at h2; exact h2
        | ok o M' =>
          rw [e] at h2
          cases o with
          | nx env' => exact for_out P B R X hJ step k (i + 1) env' M' (by omega) hlt h2
          | brk env' => exact .inr h2
          | ret d => exact h2
    · have e : i = n := by omega
      subst e
      rw [if_neg hlt]
      exact .inl hp
theorem for_all (P : Nat → Ev → Store → Prop) (hJ : ∀ i env M, P i env M → J.nx i M = some (if i < n then some (it i) else none))
    (step : ∀ i env M, i < n → P i env M → ∃ env1 env' M', bindG env tg (it i) = some env1 ∧ b env1 M = .ok (.nx env') M' ∧ P (i + 1) env' M') {k : Nat} {env : Ev} {M : Store} (hk : n ≤ k) (hp : P 0 env M) :
    ∃ env' M', forGo J tg b k 0 env M = .ok (.nx env') M' ∧ P n env' M' := by
  have h := for_out (b := b) P (fun _ _ => False) (fun _ _ => False) (fun _ _ _ => False) hJ (fun i env M h1 h2 => by
    obtain ⟨env1, env', M', q1, q2, q3⟩ := step i env M h1 h2
    exact ⟨env1, q1, by rw [q2]; exact q3⟩) k 0 env M (by omega) (Nat.zero_le _) hp
  cases e : forGo J tg b k 0 env M with
  | bad => rw [e] at h; exact h.elim
  | exc c fs M' => rw [e] at h; exact h.elim
  | ok o M' =>
    rw [e] at h
    cases o with
    | nx env' => exact ⟨env', M', rfl, h.elim id False.elim⟩
    | brk env' => exact h.elim
    | ret d => exact h.elim
theorem for_ret (P : Nat → Ev → Store → Prop) (R : D → Store → Prop) (hJ : ∀ i env M, P i env M → J.nx i M = some (if i < n then some (it i) else none))
    (step : ∀ i env M, i < n → P i env M → ∃ env1, bindG env tg (it i) = some env1 ∧ ((∃ env' M', b env1 M = .ok (.nx env') M' ∧ P (i + 1) env' M') ∨ ∃ d M', b env1 M = .ok (.ret d) M' ∧ R d M')) {k : Nat} {env : Ev} {M : Store} (hk : n ≤ k) (hp : P 0 env M) :
    (∃ env' M', forGo J tg b k 0 env M = .ok (.nx env') M' ∧ P n env' M') ∨ ∃ d M', forGo J tg b k 0 env M = .ok (.ret d) M' ∧ R d M' := by
  have h := for_out (b := b) P (fun _ _ => False) R (fun _ _ _ => False) hJ (fun i env M h1 h2 => by
    obtain ⟨env1, q1, q2⟩ := step i env M h1 h2
    refine ⟨env1, q1, ?_⟩
    rcases q2 with ⟨env', M', q2, q3⟩ | ⟨d, M', q2, q3⟩ <;> rw [q2] <;> exact q3) k 0 env M (by omega) (Nat.zero_le _) hp
  cases e : forGo J tg b k 0 env M with
  | bad => rw [e] at h; exact h.elim
  | exc c fs M' => rw [e] at h; exact h.elim
  | ok o M' =>
    rw [e] at h
    cases o with
    | nx env' => exact .inl ⟨env', M', rfl, h.elim id False.elim⟩
    | brk env' => exact h.elim
    | ret d => exact .inr ⟨d, M', rfl, h⟩
end
theorem lst_nx {α : Type} {xs : List α} {f : α → D} {i : Nat} (d : α) : (xs.map f)[i]? = if i < xs.length then some (f (xs.getD i d)) else none := by
  by_cases h : i < xs.length
  · rw [if_pos h, List.getElem?_map, List.getElem?_eq_getElem h, List.getD_eq_getElem?_getD, List.getElem?_eq_getElem h] <;> rfl
  · rw [if_neg h, List.getElem?_map, List.getElem?_eq_none (by omega)] <;> rfl
theorem enu_nx {α : Type} {xs : List α} {f : α → D} {m i : Nat} {M : Store} (d : α) : (enuI ⟨m, fun i _ => some (xs.map f)[i]?⟩).nx i M = some (if i < xs.length then some (.tup [.int (i : Int), f (xs.getD i d)]) else none) := by
  show (some (xs.map f)[i]?).map _ = _
  rw [lst_nx d]
  by_cases h : i < xs.length
  · rw [if_pos h, if_pos h] <;> rfl
  · rw [if_neg h, if_neg h] <;> rfl
theorem enu_n {J : Itm} : (enuI J).n = J.n := rfl
theorem zip_nx {α β : Type} {xs : List α} {ys : List β} {f : α → D} {g : β → D} {m m2 i : Nat} {M : Store} (d : α) (d2 : β) :
    (zipI ⟨m, fun i _ => some (xs.map f)[i]?⟩ ⟨m2, fun i _ => some (ys.map g)[i]?⟩).nx i M = some (if i < min xs.length ys.length then some (.tup [f (xs.getD i d), g (ys.getD i d2)]) else none) := by
  show (match some (xs.map f)[i]?, some (ys.map g)[i]? with
    | some (some x), some (some y) => some (some (D.tup [x, y]))
    | some _, some _ => some none
    | _, _ => none) = _
  rw [lst_nx d, lst_nx d2]
  by_cases h1 : i < xs.length
  · by_cases h2 : i < ys.length
    · rw [if_pos h1, if_pos h2, if_pos (by omega)]
    · rw [if_pos h1, if_neg h2, if_neg (by omega)]
  · rw [if_neg h1, if_neg (fun z => h1 (Nat.lt_of_lt_of_le z (Nat.min_le_left _ _)))]
section
variable {J : Itm} {tg : List Nat} {env : Ev} {c : Ev → Store → Res Bool} {e : Ev → Store → Res D} {n : Nat} {it : Nat → D}
theorem lc_inv (P : Nat → List D → Store → Prop) (hJ : ∀ i acc M, P i acc M → J.nx i M = some (if i < n then some (it i) else none)) (hz : ∀ i acc M, P i acc M → acc.length < sizeLine)
    (step : ∀ i acc M, i < n → P i acc M → ∃ env1, bindG env tg (it i) = some env1 ∧ ((∃ M1, c env1 M = .ok false M1 ∧ P (i + 1) acc M1) ∨ ∃ M1 y M2, c env1 M = .ok true M1 ∧ e env1 M1 = .ok y M2 ∧ P (i + 1) (acc ++ [y]) M2)) :
    ∀ (k i : Nat) (acc : List D) (M : Store), n ≤ i + k → i ≤ n → P i acc M → ∃ ys M', lcGo J tg env c e k i acc M = .ok ys M' ∧ P n ys M'
  | k, i, acc, M, hk, hi, hp => by
    unfold lcGo
    rw [hJ i acc M hp]
    by_cases hlt : i < n
    · rw [if_pos hlt]
      cases k with
      | zero => omega
      | succ k =>
        obtain ⟨env1, h1, h2⟩ := step i acc M hlt hp
        simp only [h1]
        rcases h2 with ⟨M1, h2, h3⟩ | ⟨M1, y, M2, h2, h3, h4⟩
        · simp only [h2]
          exact lc_inv P hJ hz step k (i + 1) acc M1 (by omega) hlt h3
        · simp only [h2, h3]
          rw [if_pos (hz i acc M hp)]
          exact lc_inv P hJ hz step k (i + 1) (acc ++ [y]) M2 (by omega) hlt h4
    · have e : i = n := by omega
      subst e
      rw [if_neg hlt]
      exact ⟨acc, M, rfl, hp⟩
theorem lc_fil {k : Nat} {M : Store} (sel : Nat → Bool) (f : Nat → D) (hJ : ∀ i, J.nx i M = some (if i < n then some (it i) else none)) (hz : n ≤ 100000) (hk : n ≤ k)
    (h : ∀ i, i < n → ∃ env1, bindG env tg (it i) = some env1 ∧ c env1 M = .ok (sel i) M ∧ (sel i = true → e env1 M = .ok (f i) M)) :
    lcGo J tg env c e k 0 [] M = .ok (((List.range n).filter sel).map f) M := by
  obtain ⟨ys, M', h1, h2, h3⟩ := lc_inv (J := J) (tg := tg) (env := env) (c := c) (e := e) (n := n) (it := it) (fun i acc M' => M' = M ∧ acc = ((List.range i).filter sel).map f ∧ i ≤ n) (fun i acc M' q => by rw [q.1]; exact hJ i)
    (fun i acc M' q => by
      rw [q.2.1, List.length_map]
      refine line_lt' (Nat.le_trans (List.length_filter_le _ _) ?_)
      rw [List.length_range]
      omega) (fun i acc M' hi q => by
      obtain ⟨rfl, rfl, _⟩ := q
      obtain ⟨env1, q1, q2, q3⟩ := h i hi
      refine ⟨env1, q1, ?_⟩
      cases hs : sel i with
      | false => exact .inl ⟨M', by rw [q2, hs], rfl, by rw [List.range_succ, List.filter_append]; simp [hs], hi⟩
      | true => exact .inr ⟨M', f i, M', by rw [q2, hs], q3 hs, rfl, by rw [List.range_succ, List.filter_append]; simp [hs], hi⟩) k 0 [] M (by omega) (Nat.zero_le _) ⟨rfl, rfl, Nat.zero_le _⟩
  rw [h1, h2, h3.1]
theorem lc_all {k : Nat} {M : Store} (f : Nat → D) (hJ : ∀ i, J.nx i M = some (if i < n then some (it i) else none)) (hz : n ≤ 100000) (hk : n ≤ k) (hc : ∀ env, c env M = .ok true M)
    (h : ∀ i, i < n → ∃ env1, bindG env tg (it i) = some env1 ∧ e env1 M = .ok (f i) M) : lcGo J tg env c e k 0 [] M = .ok ((List.range n).map f) M := by
  rw [lc_fil (fun _ => true) f hJ hz hk (fun i hi => by obtain ⟨env1, q1, q2⟩ := h i hi; exact ⟨env1, q1, hc _, fun _ => q2⟩), List.filter_eq_self.mpr (fun _ _ => rfl)]
end
theorem range_getD {α β : Type} (xs : List α) (f : α → β) (d : α) : (List.range xs.length).map (fun i => f (xs.getD i d)) = xs.map f := by
  apply List.ext_getElem?
  intro i
  rw [List.getElem?_map, List.getElem?_map]
  by_cases h : i < xs.length
  · rw [List.getElem?_range h, List.getElem?_eq_getElem h, Option.map_some, Option.map_some, List.getD_eq_getElem?_getD, List.getElem?_eq_getElem h] <;> rfl
  · rw [List.getElem?_eq_none (by simpa using h), List.getElem?_eq_none (by simpa using h)] <;> rfl
theorem range_fil {α β : Type} (xs : List α) (sel : α → Bool) (f : α → β) (d : α) : ((List.range xs.length).filter (fun i => sel (xs.getD i d))).map (fun i => f (xs.getD i d)) = (xs.filter sel).map f := by
  have e : (List.range xs.length).map (fun i => xs.getD i d) = xs := by rw [range_getD xs (fun x => x) d]; simp
  conv => rhs; rw [← e]
  rw [List.filter_map, List.map_map]
  rfl
theorem lc_lst {α : Type} {xs : List α} {enc : α → D} {tg : List Nat} {env : Ev} {c : Ev → Store → Res Bool} {e : Ev → Store → Res D} {M : Store} {k m : Nat} (d : α) (sel : α → Bool) (f : α → D) (hz : xs.length ≤ 100000) (hk : xs.length ≤ k)
    (h : ∀ x, x ∈ xs → ∃ env1, bindG env tg (enc x) = some env1 ∧ c env1 M = .ok (sel x) M ∧ (sel x = true → e env1 M = .ok (f x) M)) :
    lcGo ⟨m, fun i _ => some (xs.map enc)[i]?⟩ tg env c e k 0 [] M = .ok ((xs.filter sel).map f) M := by
  rw [lc_fil (it := fun i => enc (xs.getD i d)) (n := xs.length) (fun i => sel (xs.getD i d)) (fun i => f (xs.getD i d)) (fun i => congrArg some (lst_nx d)) hz hk (fun i hi => h _ (by
    rw [List.getD_eq_getElem?_getD, List.getElem?_eq_getElem hi]; exact List.getElem_mem hi)), range_fil xs sel f d]
theorem lc_map {α : Type} {xs : List α} {enc : α → D} {tg : List Nat} {env : Ev} {c : Ev → Store → Res Bool} {e : Ev → Store → Res D} {M : Store} {k m : Nat} (d : α) (f : α → D) (hz : xs.length ≤ 100000) (hk : xs.length ≤ k) (hc : ∀ env, c env M = .ok true M)
    (h : ∀ x, x ∈ xs → ∃ env1, bindG env tg (enc x) = some env1 ∧ e env1 M = .ok (f x) M) :
    lcGo ⟨m, fun i _ => some (xs.map enc)[i]?⟩ tg env c e k 0 [] M = .ok (xs.map f) M := by
  rw [lc_lst d (fun _ => true) f hz hk (fun x hx => by obtain ⟨env1, q1, q2⟩ := h x hx; exact ⟨env1, q1, hc _, fun _ => q2⟩), List.filter_eq_self.mpr (fun _ _ => rfl)]
def refI (l n : Nat) : Itm := ⟨n, fun i M => match M[l]? with | some (.lst zs) => some zs[i]? | _ => none⟩
theorem itm_ref {M : Store} {l : Nat} {xs : List D} (h : M[l]? = some (.lst xs)) : itmOf M (.ref l) = some (refI l xs.length) := by
  simp only [itmOf, h]
  rfl
theorem ref_nx {M : Store} {l n i : Nat} {xs : List D} (h : M[l]? = some (.lst xs)) : (refI l n).nx i M = some xs[i]? := by simp only [refI, h]
theorem lc_lstJ {α : Type} {J : Itm} {xs : List α} {enc : α → D} {tg : List Nat} {env : Ev} {c : Ev → Store → Res Bool} {e : Ev → Store → Res D} {M : Store} {k : Nat} (hJ : ∀ i, J.nx i M = some (xs.map enc)[i]?) (d : α) (sel : α → Bool) (f : α → D) (hz : xs.length ≤ 100000) (hk : xs.length ≤ k)
    (h : ∀ x, x ∈ xs → ∃ env1, bindG env tg (enc x) = some env1 ∧ c env1 M = .ok (sel x) M ∧ (sel x = true → e env1 M = .ok (f x) M)) :
    lcGo J tg env c e k 0 [] M = .ok ((xs.filter sel).map f) M := by
  rw [lc_fil (it := fun i => enc (xs.getD i d)) (n := xs.length) (fun i => sel (xs.getD i d)) (fun i => f (xs.getD i d)) (fun i => by rw [hJ i]; exact congrArg some (lst_nx d)) hz hk (fun i hi => h _ (by
    rw [List.getD_eq_getElem?_getD, List.getElem?_eq_getElem hi]; exact List.getElem_mem hi)), range_fil xs sel f d]
theorem getD_mem {α : Type} {xs : List α} {i : Nat} {d : α} (h : i < xs.length) : xs[i]? = some (xs.getD i d) := by
  rw [List.getD_eq_getElem?_getD, List.getElem?_eq_getElem h] <;> rfl
theorem idx_lstM {α : Type} {xs : List α} {f : α → D} {i : Nat} {M : Store} (d : α) (h : i < xs.length) : idxD (.lst (xs.map f)) (.int (i : Int)) M = .ok (f (xs.getD i d)) M := by
  rw [idx_lst, atI_nat, List.getElem?_map, getD_mem (d := d) h] <;> rfl
theorem Runs.new0 {φ : Fn} {ds xs ts : List D} {N : Store} (e : φ ds [] = .ok (.ref 0) (.lst xs :: N)) (f : Ffs (.lst xs :: N) [] xs ts) : Runs φ ds (.val (.nl ts)) := ⟨_, _, e, .lst List.not_mem_nil rfl f⟩
theorem Runs.nl {φ : Fn} {ds xs ts : List D} {N : Store} (e : φ ds [] = .ok (.nl xs) N) (f : Ffs N [] xs ts) : Runs φ ds (.val (.nl ts)) := ⟨_, _, e, .nl f⟩
abbrev natD (p : Nat) : D := .int (p : Int)
abbrev natsD (ns : List Nat) : List D := ns.map natD
theorem len_lst {xs : List D} {M : Store} : bltD .len [.lst xs] M = .ok (.int (xs.length : Int)) M := rfl
theorem len_nl {xs : List D} {M : Store} : bltD .len [.nl xs] M = .ok (.int (xs.length : Int)) M := rfl
theorem tru_e {G : Gm} (env : Ev) (M : Store) : evT G (.tru (.bl true)) env M = .ok true M := rfl
end Lp

namespace Lp
open PySem
local macro_rules | `(tactic| simp? [$args,*] $[$loc]?) => `(tactic| simp -implicitDefEqProofs only [$args,*, runF, natD, natsD, vOk_e, ev_var, ev_non, ev_bl, ev_int, ev_str, ev_gco, cB1_e, ev_bin, ev_neg, cC1_e, ev_cmp, cH3_t, cH3_f, cH2_e, cH1_e, ev_chn, cAnd_t, cAnd_f, ev_andv, cOr_t, cOr_f, ev_orv, cNot_e, ev_notv, cIfe_t, cIfe_f, ev_ife, cI1_e, ev_idx, cS2_e, cS1_e, ev_slt, cAt_e, ev_att, ev_call, cCall_e, cM2_e, cM1_e, ev_mth, mkK_e, cMk_e, ev_mk, ev_blt, cIs_e, ev_isi, appK_e, cA2_e, appP_e, cA1_e, ev_app, cTup_e, ev_tup, cFz_e, ev_fz, cFr_e, ev_fr, cMu_e, ev_mu, bOk_e, cTru_e, evT_tru, cTa_t, cTa_f, evT_tand, cTo_t, cTo_f, evT_tor, cTn_e, evT_tnot, evs_nil, cCo2_e, cCo1_e, evs_cons, evO_absent, cO_e, evO_tru, cDs_e, evL_dsp, cCt_e, evL_cat, cRp_e, evL_rep, cP2_e, cP1_e, evL_slp, lOk_e, cLo_e, evL_lof, cLc_e, evL_lc, iOk_e, cIt_e, evI_itm, cR1_e, evI_rng1, cR3_i, cR2_e, evI_rng2, cEn_e, evI_enu, cZ2_e, cZ1_e, evI_zip2, ex_nil, ex_pass, cSeq_n, cSeq_r, cSeq_b, ex_seq, cSet_e, ex_set, eOk_e, cSt_e, ex_setT, nxR_e, cSA2_e, cSA1_e, ex_setA, cSI3_e, cSI2_e, cSI1_e, ex_setI, cEx_e, ex_ex, cRet_e, ex_ret, ex_retN, ex_brk, cIf_t, cIf_f, ex_ife, cFor_e, ex_for, fin_ret, fin_nx, enK_e, idP_e, cIdn_e, ev_idn, popK_e, popz_e, ev_popz, ev_dem, cCalS_e, ev_cals, cMtS2_e, cMtS1_e, ev_mths, cMkS_e, ev_mks, smK_e, cSm_e, evL_sml, cRd3_i, cRd2_e, evI_rngd, cAu1_e, auP_e, ex_aug, aug_add, aug_sub, aaQ_e, cAA4_e, cAA3_e, cAA2_e, aaP_e, cAA1_e, ex_augA, cAI5_e, cAI4_e, cAI3_e, cAI2_e, cAI1_e, ex_augI, bind_ok, bind_bad, bind_exc, Lp.start, Gstr, Ggco, gc, GCD, setE, bin_add, bin_sub, cmpD, bRes, oRes, negD, truB_bl, truB_non, truB_int, isNon, bltD, blt1, blt2, eqB_int, eqB_str, eqB_bl, idx_tup, idx_lst, idx_arr, atI_0, atI_1, atI_2, atI_3, atI_4, atI_5, atI_6, atI_7, atI_8, atI_9, atI_10, atI_11,  slcT_1, slcT_2, slcT_21, inB_tup, inB_arr, inB_lst, flatD, eqF, tx_beq, List.all_cons, List.all_nil, List.any_cons, List.any_nil, Bool.and_true, Bool.true_and, Bool.and_false, Bool.false_and, Bool.or_false, Bool.or_true, Bool.true_or, Bool.false_or, Nat.reduceBEq, wipeE, itm_tup, itm_lst, itm_arr, List.map_cons, List.map_nil, List.cons_append, List.nil_append, List.length_cons, List.length_nil, List.getElem?_cons_zero, List.getElem?_cons_succ, List.getElem?_nil, List.set_cons_zero, List.set_cons_succ, List.getD_cons_zero, List.getD_cons_succ, List.replicate_succ, List.replicate_zero, Nat.reduceAdd, Nat.reduceSub, Nat.zero_add, Option.map_some, Option.map_none, Bool.not_true, Bool.not_false, ite_true, ite_false, if_true, if_false, reduceCtorEq, decide_true, decide_false, decide_eq_true_eq, tx_dec, Bool.false_eq_true, Nat.reduceEqDiff, Nat.reduceLT, Nat.reduceLeDiff, line_ok, line_lt, lcG_s, lcG_0, lcG_n, lcX_n, lcX_s, lcB_s, lcC_t, lcC_f, lcE_o, bindG_1, id_eq, nc_0, nc_1, nc_2, nc_3, nc_4, nc_5, nc_6, nc_7, nc_8, nc_9, nc_10, nc_11, nc_12,  Int.reduceEq, Int.reduceLT, Int.reduceLE, Int.reduceNeg, Int.reduceAdd, Int.reduceSub, Int.reduceMul, Option.bind_some, dInts_1, dInts_2, minL_1, minL_2, List.sum_cons, List.sum_nil, Int.add_zero, lenO, asS, asL, asM, idx_nl, inB_nl, itm_nl, wk_non, wk_bl, wk_int, wk_str, wk_ref, wk_tup, wk_lst, wk_nl, wk_arr, wk_ins, wk_no, wk_dic, wks_nil, wks_cons, wkf_nil, wkf_cons, wkk_nil, wkk_cons, wks_ints] $[$loc]?)
inductive Nd where
  | src | map (p : Nat) | filter (p : Nat) | whil (p : Nat) | take (n p : Nat) | drop (n p : Nat) | window (n p : Nat) | scan (s : Int) (p : Nat) | zip (p q : Nat) | merge (p q : Nat)
  deriving Inhabited, DecidableEq
namespace Nd
def d : Nd → D
  | src => .tup [.str (tx 10)]
  | map p => .tup [.str (tx 0), .int (p : Int)]
  | filter p => .tup [.str (tx 1), .int (p : Int)]
  | whil p => .tup [.str (tx 2), .int (p : Int)]
  | take n p => .tup [.str (tx 5), .int (n : Int), .int (p : Int)]
  | drop n p => .tup [.str (tx 6), .int (n : Int), .int (p : Int)]
  | window n p => .tup [.str (tx 7), .int (n : Int), .int (p : Int)]
  | scan s p => .tup [.str (tx 3), .int s, .int (p : Int)]
  | zip p q => .tup [.str (tx 8), .int (p : Int), .int (q : Int)]
  | merge p q => .tup [.str (tx 4), .int (p : Int), .int (q : Int)]
def kind : Nd → Str
  | src => (tx 10) | map _ => (tx 0) | filter _ => (tx 1) | whil _ => (tx 2) | take _ _ => (tx 5) | drop _ _ => (tx 6) | window _ _ => (tx 7) | scan _ _ => (tx 3) | zip _ _ => (tx 8) | merge _ _ => (tx 4)
def ins : Nd → List Nat
  | src => []
  | map p | filter p | whil p | take _ p | drop _ p | window _ p | scan _ p => [p]
  | zip p q | merge p q => [p, q]
def par : Nd → Prop
  | take n _ | drop n _ => n ≤ 20
  | window n _ => 1 ≤ n ∧ n ≤ 20
  | scan s _ => -1000 ≤ s ∧ s ≤ 1000
  | _ => True
def w (ws : List Int) : Nd → Int
  | src | map _ | scan _ _ => 1
  | window n p => (n : Int) * ws.getD p 0
  | zip p q => ws.getD p 0 + ws.getD q 0
  | filter p | whil p | take _ p | drop _ p => ws.getD p 0
  | merge p _ => ws.getD p 0
def l (ls : List Int) : Nd → Int
  | src => 200
  | map p | filter p | whil p | scan _ p => ls.getD p 0
  | take n p => if ls.getD p 0 < (n : Int) then ls.getD p 0 else n
  | drop n p => if ls.getD p 0 - n > 0 then ls.getD p 0 - n else 0
  | window n p => if ls.getD p 0 - n + 1 > 0 then ls.getD p 0 - n + 1 else 0
  | zip p q => if ls.getD q 0 < ls.getD p 0 then ls.getD q 0 else ls.getD p 0
  | merge p q => ls.getD p 0 + ls.getD q 0
def isSrc : Nd → Bool | src => true | _ => false
def isCall : Nd → Bool | map _ | filter _ | whil _ | scan _ _ | merge _ _ => true | _ => false
theorem cl : ∀ nd : Nd, Cl nd.d := fun nd => by cases nd <;> (refine Cl.tup ?_; (repeat' (first | exact Cls.nil | exact Clf.nil | exact Clk.nil | refine Clk.cons ?_ ?_ | refine Cl.dic ?_ | refine Cls.cons ?_ ?_ | refine Clf.cons ?_ ?_ | exact Cl.int _ | exact Cl.bl _ | exact Cl.non | exact Cl.str _ | exact Cls.ints _ | assumption | exact Nd.cl _ | exact Cls.nds _ | exact Cls.nats _ | exact Cl.st _ | exact Cl.bd _ | exact Cls.bds _ | exact Cls.rows _ | exact Cl.grf _ | exact Cl.enc _ | refine Cl.tup ?_ | refine Cl.lst ?_ | refine Cl.arr ?_ | refine Cl.ins ?_ | refine Cls.map (fun _ => ?_) _)))
theorem ff {N : Store} {av : List Nat} : ∀ nd : Nd, Ff N av nd.d nd.d := fun nd => by cases nd <;> (refine Ff.tup ?_; (repeat' (first | exact Ffs.nil | exact Fff.nil | refine Ffs.cons ?_ ?_ | refine Fff.cons ?_ ?_ | exact Ff.int _ | exact Ff.bl _ | exact Ff.non | exact Ff.str _ | exact Ffs.ints _ | assumption | exact Nd.ff _ | exact Ffs.nds _ | exact Ffs.nats _ | exact Ff.bd _ | exact Ffs.bds _ | refine Ff.tup ?_ | refine Ff.nl ?_ | refine Ff.no ?_ | refine Ff.lst (by simp) rfl ?_ | refine Ff.ins (by simp) rfl ?_ | refine Ffs.map (fun _ _ => ?_))))
end Nd
theorem wks_nds {nds : List Nd} : wks (nds.map Nd.d) = nds.map Nd.d := (Cls.map Nd.cl nds).2
theorem wk_nd {nd : Nd} : nd.d.wk = nd.d := (Nd.cl nd).2
theorem Cls.nds (nds : List Nd) : Cls (nds.map Nd.d) := .map Nd.cl nds
theorem Ffs.nds {N : Store} {av : List Nat} (nds : List Nd) : Ffs N av (nds.map Nd.d) (nds.map Nd.d) := .map fun _ _ => Nd.ff _
abbrev InsOk (nd : Nd) (n : Nat) : Prop := ∀ p, p ∈ nd.ins → p < n
theorem Cls.nats (ns : List Nat) : Cls (natsD ns) := .map (fun _ => .int _) ns
theorem wks_nats {ns : List Nat} : wks (ns.map natD) = ns.map natD := (Cls.nats ns).2
theorem Ffs.nats {N : Store} {av : List Nat} (ns : List Nat) : Ffs N av (natsD ns) (natsD ns) := .map fun _ _ => .int _
theorem idx_ints' {ws : List Int} {p : Nat} {M : Store} (hp : p < ws.length) : idxD (.lst (ws.map D.int)) (.int (p : Int)) M = .ok (.int (ws.getD p 0)) M := idx_ints rfl hp
theorem idx_nd {nds : List Nd} {i : Nat} {M : Store} (h : i < nds.length) : idxD (.lst (nds.map Nd.d)) (.int (i : Int)) M = .ok (nds.getD i default).d M := idx_lstM default h
theorem idx_kind {nd : Nd} {M : Store} : idxD nd.d (.int 0) M = .ok (.str nd.kind) M := by cases nd <;> simp only [Nd.d, Nd.kind, idx_tup, atI_0, List.getElem?_cons_zero, oRes]
def Sp_inputs_of : Spec := pureSp 1 (α := (Nd)) (fun nd => True) (fun nd => [nd.d]) (fun nd => (.val (.tup (natsD nd.ins))))
class H_inputs_of (G : Gm) : Prop where m : Meets Sp_inputs_of (G.fn 168)
theorem v_inputs_of {G : Gm} [H : H_inputs_of G] (nd : Nd) {ds : List D} {M : Store} (v : Vws M ds [nd.d]) (hl : ds.length = 1 := by rfl) : G.fn 168 ds M = Res.ok (.tup (natsD nd.ins)) M := pure_call H.m hl nd trivial v
theorem c_inputs_of {G : Gm} [H : H_inputs_of G] (nd : Nd) (M : Store) : G.fn 168 [nd.d] M = Res.ok (.tup (natsD nd.ins)) M := by
  have q : Cls [nd.d] := by (repeat' (first | exact Cls.nil | exact Clf.nil | exact Clk.nil | refine Clk.cons ?_ ?_ | refine Cl.dic ?_ | refine Cls.cons ?_ ?_ | refine Clf.cons ?_ ?_ | exact Cl.int _ | exact Cl.bl _ | exact Cl.non | exact Cl.str _ | exact Cls.ints _ | assumption | exact Nd.cl _ | exact Cls.nds _ | exact Cls.nats _ | exact Cl.st _ | exact Cl.bd _ | exact Cls.bds _ | exact Cls.rows _ | exact Cl.grf _ | exact Cl.enc _ | refine Cl.tup ?_ | refine Cl.lst ?_ | refine Cl.arr ?_ | refine Cl.ins ?_ | refine Cls.map (fun _ => ?_) _))
  exact v_inputs_of nd (q.1 M)
theorem r_inputs_of {G : Gm} [Gl G] (nd : Nd) : Runs (runF G b_inputs_of 1) [nd.d] ((.val (.tup (natsD nd.ins)))) := by
  refine Runs.of ?_ (Ff.tup (Ffs.nats _))
  cases nd <;> simp? [b_inputs_of, Nd.d, Nd.ins]
theorem sh_inputs_of {T : Tb} {G : Gm} [Gl G] : Shows T Sp_inputs_of (runF G b_inputs_of 1) := pure_shows (fun | nd, h => r_inputs_of nd)
def Sp_is_integer : Spec := pureSp 1 (α := (Int)) (fun i => True) (fun i => [.int i]) (fun i => (.val (.bl true)))
class H_is_integer (G : Gm) : Prop where m : Meets Sp_is_integer (G.fn 169)
theorem v_is_integer {G : Gm} [H : H_is_integer G] (i : Int) {ds : List D} {M : Store} (v : Vws M ds [.int i]) (hl : ds.length = 1 := by rfl) : G.fn 169 ds M = Res.ok (.bl true) M := pure_call H.m hl i trivial v
theorem c_is_integer {G : Gm} [H : H_is_integer G] (i : Int) (M : Store) : G.fn 169 [.int i] M = Res.ok (.bl true) M := by
  have q : Cls [.int i] := by (repeat' (first | exact Cls.nil | exact Clf.nil | exact Clk.nil | refine Clk.cons ?_ ?_ | refine Cl.dic ?_ | refine Cls.cons ?_ ?_ | refine Clf.cons ?_ ?_ | exact Cl.int _ | exact Cl.bl _ | exact Cl.non | exact Cl.str _ | exact Cls.ints _ | assumption | exact Nd.cl _ | exact Cls.nds _ | exact Cls.nats _ | exact Cl.st _ | exact Cl.bd _ | exact Cls.bds _ | exact Cls.rows _ | exact Cl.grf _ | exact Cl.enc _ | refine Cl.tup ?_ | refine Cl.lst ?_ | refine Cl.arr ?_ | refine Cl.ins ?_ | refine Cls.map (fun _ => ?_) _))
  exact v_is_integer i (q.1 M)
theorem r_is_integer {G : Gm} [Gl G] (i : Int) : Runs (runF G b_is_integer 1) [.int i] ((.val (.bl true))) := Runs.bl (by simp? [b_is_integer, isiD])
theorem sh_is_integer {T : Tb} {G : Gm} [Gl G] : Shows T Sp_is_integer (runF G b_is_integer 1) := pure_shows (fun | i, h => r_is_integer i)
def Sp_is_within : Spec := pureSp 3 (α := (Int) × (Int) × (Int)) (fun | (i, lo, hi) => True) (fun | (i, lo, hi) => [.int i, .int lo, .int hi]) (fun | (i, lo, hi) => (.val (.bl (decide (lo ≤ i) && decide (i ≤ hi)))))
class H_is_within (G : Gm) : Prop where m : Meets Sp_is_within (G.fn 179)
theorem v_is_within {G : Gm} [H : H_is_within G] (i : Int) (lo : Int) (hi : Int) {ds : List D} {M : Store} (v : Vws M ds [.int i, .int lo, .int hi]) (hl : ds.length = 3 := by rfl) : G.fn 179 ds M = Res.ok (.bl (decide (lo ≤ i) && decide (i ≤ hi))) M := pure_call H.m hl (i, lo, hi) trivial v
theorem c_is_within {G : Gm} [H : H_is_within G] (i : Int) (lo : Int) (hi : Int) (M : Store) : G.fn 179 [.int i, .int lo, .int hi] M = Res.ok (.bl (decide (lo ≤ i) && decide (i ≤ hi))) M := by
  have q : Cls [.int i, .int lo, .int hi] := by (repeat' (first | exact Cls.nil | exact Clf.nil | exact Clk.nil | refine Clk.cons ?_ ?_ | refine Cl.dic ?_ | refine Cls.cons ?_ ?_ | refine Clf.cons ?_ ?_ | exact Cl.int _ | exact Cl.bl _ | exact Cl.non | exact Cl.str _ | exact Cls.ints _ | assumption | exact Nd.cl _ | exact Cls.nds _ | exact Cls.nats _ | exact Cl.st _ | exact Cl.bd _ | exact Cls.bds _ | exact Cls.rows _ | exact Cl.grf _ | exact Cl.enc _ | refine Cl.tup ?_ | refine Cl.lst ?_ | refine Cl.arr ?_ | refine Cl.ins ?_ | refine Cls.map (fun _ => ?_) _))
  exact v_is_within i lo hi (q.1 M)
theorem r_is_within {G : Gm} [Gl G] [H_is_integer G] (i : Int) (lo : Int) (hi : Int) : Runs (runF G b_is_within 3) [.int i, .int lo, .int hi] ((.val (.bl (decide (lo ≤ i) && decide (i ≤ hi))))) := by
  refine Runs.bl ?_
  by_cases q : lo ≤ i <;> simp? [b_is_within, c_is_integer, q]
theorem sh_is_within {T : Tb} {G : Gm} [Gl G] [H_is_integer G] : Shows T Sp_is_within (runF G b_is_within 3) := pure_shows (fun | (i, lo, hi), h => r_is_within i lo hi)
def Sp_is_number : Spec := pureSp 1 (α := (Int)) (fun i => True) (fun i => [.int i]) (fun i => (.val (.bl (decide (0 ≤ i)))))
class H_is_number (G : Gm) : Prop where m : Meets Sp_is_number (G.fn 174)
theorem v_is_number {G : Gm} [H : H_is_number G] (i : Int) {ds : List D} {M : Store} (v : Vws M ds [.int i]) (hl : ds.length = 1 := by rfl) : G.fn 174 ds M = Res.ok (.bl (decide (0 ≤ i))) M := pure_call H.m hl i trivial v
theorem c_is_number {G : Gm} [H : H_is_number G] (i : Int) (M : Store) : G.fn 174 [.int i] M = Res.ok (.bl (decide (0 ≤ i))) M := by
  have q : Cls [.int i] := by (repeat' (first | exact Cls.nil | exact Clf.nil | exact Clk.nil | refine Clk.cons ?_ ?_ | refine Cl.dic ?_ | refine Cls.cons ?_ ?_ | refine Clf.cons ?_ ?_ | exact Cl.int _ | exact Cl.bl _ | exact Cl.non | exact Cl.str _ | exact Cls.ints _ | assumption | exact Nd.cl _ | exact Cls.nds _ | exact Cls.nats _ | exact Cl.st _ | exact Cl.bd _ | exact Cls.bds _ | exact Cls.rows _ | exact Cl.grf _ | exact Cl.enc _ | refine Cl.tup ?_ | refine Cl.lst ?_ | refine Cl.arr ?_ | refine Cl.ins ?_ | refine Cls.map (fun _ => ?_) _))
  exact v_is_number i (q.1 M)
theorem r_is_number {G : Gm} [Gl G] [H_is_integer G] (i : Int) : Runs (runF G b_is_number 1) [.int i] ((.val (.bl (decide (0 ≤ i))))) := Runs.bl (by simp? [b_is_number, c_is_integer])
theorem sh_is_number {T : Tb} {G : Gm} [Gl G] [H_is_integer G] : Shows T Sp_is_number (runF G b_is_number 1) := pure_shows (fun | i, h => r_is_number i)
def Sp_u_is_parameter : Spec := pureSp 2 (α := (Nat) × (Int)) (fun | (k, i) => k < 67 ) (fun | (k, i) => [.str (tx k), .int i]) (fun | (k, i) => (.val (.bl (if k = 3 then decide (-1000 ≤ i) && decide (i ≤ 1000) else decide ((if k = 7 then 1 else 0 : Int) ≤ i) && decide (i ≤ 20)))))
class H_u_is_parameter (G : Gm) : Prop where m : Meets Sp_u_is_parameter (G.fn 18)
theorem v_u_is_parameter {G : Gm} [H : H_u_is_parameter G] (k : Nat) (i : Int) (h : k < 67 ) {ds : List D} {M : Store} (v : Vws M ds [.str (tx k), .int i]) (hl : ds.length = 2 := by rfl) : G.fn 18 ds M = Res.ok (.bl (if k = 3 then decide (-1000 ≤ i) && decide (i ≤ 1000) else decide ((if k = 7 then 1 else 0 : Int) ≤ i) && decide (i ≤ 20))) M := pure_call H.m hl (k, i) h v
theorem c_u_is_parameter {G : Gm} [H : H_u_is_parameter G] (k : Nat) (i : Int) (h : k < 67 ) (M : Store) : G.fn 18 [.str (tx k), .int i] M = Res.ok (.bl (if k = 3 then decide (-1000 ≤ i) && decide (i ≤ 1000) else decide ((if k = 7 then 1 else 0 : Int) ≤ i) && decide (i ≤ 20))) M := by
  have q : Cls [.str (tx k), .int i] := by (repeat' (first | exact Cls.nil | exact Clf.nil | exact Clk.nil | refine Clk.cons ?_ ?_ | refine Cl.dic ?_ | refine Cls.cons ?_ ?_ | refine Clf.cons ?_ ?_ | exact Cl.int _ | exact Cl.bl _ | exact Cl.non | exact Cl.str _ | exact Cls.ints _ | assumption | exact Nd.cl _ | exact Cls.nds _ | exact Cls.nats _ | exact Cl.st _ | exact Cl.bd _ | exact Cls.bds _ | exact Cls.rows _ | exact Cl.grf _ | exact Cl.enc _ | refine Cl.tup ?_ | refine Cl.lst ?_ | refine Cl.arr ?_ | refine Cl.ins ?_ | refine Cls.map (fun _ => ?_) _))
  exact v_u_is_parameter k i h (q.1 M)
theorem r_u_is_parameter {G : Gm} [Gl G] [H_is_within G] (k : Nat) (i : Int) (h : k < 67 ) : Runs (runF G b_u_is_parameter 2) [.str (tx k), .int i] ((.val (.bl (if k = 3 then decide (-1000 ≤ i) && decide (i ≤ 1000) else decide ((if k = 7 then 1 else 0 : Int) ≤ i) && decide (i ≤ 20))))) := by
  refine Runs.bl ?_
  by_cases h3 : k = 3
  · subst h3
    simp? [b_u_is_parameter, c_is_within]
  · by_cases h7 : k = 7
    · subst h7
      simp? [b_u_is_parameter, c_is_within]
    · simp? [b_u_is_parameter, c_is_within, h, h3, h7]
theorem sh_u_is_parameter {T : Tb} {G : Gm} [Gl G] [H_is_within G] : Shows T Sp_u_is_parameter (runF G b_u_is_parameter 2) := pure_shows (fun | (k, i), h => r_u_is_parameter k i h)
def Sp_is_node : Spec := pureSp 1 (α := (Nd)) (fun nd => nd.par ) (fun nd => [nd.d]) (fun nd => (.val (.bl true)))
class H_is_node (G : Gm) : Prop where m : Meets Sp_is_node (G.fn 173)
theorem v_is_node {G : Gm} [H : H_is_node G] (nd : Nd) (h : nd.par ) {ds : List D} {M : Store} (v : Vws M ds [nd.d]) (hl : ds.length = 1 := by rfl) : G.fn 173 ds M = Res.ok (.bl true) M := pure_call H.m hl nd h v
theorem c_is_node {G : Gm} [H : H_is_node G] (nd : Nd) (h : nd.par ) (M : Store) : G.fn 173 [nd.d] M = Res.ok (.bl true) M := by
  have q : Cls [nd.d] := by (repeat' (first | exact Cls.nil | exact Clf.nil | exact Clk.nil | refine Clk.cons ?_ ?_ | refine Cl.dic ?_ | refine Cls.cons ?_ ?_ | refine Clf.cons ?_ ?_ | exact Cl.int _ | exact Cl.bl _ | exact Cl.non | exact Cl.str _ | exact Cls.ints _ | assumption | exact Nd.cl _ | exact Cls.nds _ | exact Cls.nats _ | exact Cl.st _ | exact Cl.bd _ | exact Cls.bds _ | exact Cls.rows _ | exact Cl.grf _ | exact Cl.enc _ | refine Cl.tup ?_ | refine Cl.lst ?_ | refine Cl.arr ?_ | refine Cl.ins ?_ | refine Cls.map (fun _ => ?_) _))
  exact v_is_node nd h (q.1 M)
theorem r_is_node {G : Gm} [Gl G] [H_is_number G] [H_u_is_parameter G] (nd : Nd) (h : nd.par ) : Runs (runF G b_is_node 3) [nd.d] ((.val (.bl true))) := by
  have n1 : ∀ p : Nat, (0 ≤ (p : Int)) = True := fun p => eq_true (Int.natCast_nonneg p)
  refine Runs.bl ?_
  cases nd with
  | src | map p | filter p | whil p | zip p q | merge p q => simp? [b_is_node, Nd.d, c_is_number, n1, isiD]
  | take n p | drop n p =>
    have e : ((n : Int) ≤ 20) = True := eq_true (by have : n ≤ 20 := h; omega)
    simp? [b_is_node, Nd.d, c_is_number, n1, c_u_is_parameter, e, isiD]
  | window n p =>
    have e : ((n : Int) ≤ 20) = True := eq_true (by have := h.2; omega)
    have e2 : (1 ≤ (n : Int)) = True := eq_true (by have := h.1; omega)
    simp? [b_is_node, Nd.d, c_is_number, n1, c_u_is_parameter, e, e2, isiD]
  | scan s p =>
    have e : (s ≤ 1000) = True := eq_true h.2
    have e2 : (-1000 ≤ s) = True := eq_true h.1
    simp? [b_is_node, Nd.d, c_is_number, n1, c_u_is_parameter, e, e2, isiD]
theorem sh_is_node {T : Tb} {G : Gm} [Gl G] [H_is_number G] [H_u_is_parameter G] : Shows T Sp_is_node (runF G b_is_node 3) := pure_shows (fun | nd, h => r_is_node nd h)
def Sp_u_width : Spec := pureSp 2 (α := (Nd) × (List Int)) (fun | (nd, ws) => InsOk nd ws.length ∧ nd.par ) (fun | (nd, ws) => [nd.d, .lst (ws.map D.int)]) (fun | (nd, ws) => (.val (.int (nd.w ws))))
class H_u_width (G : Gm) : Prop where m : Meets Sp_u_width (G.fn 144)
theorem v_u_width {G : Gm} [H : H_u_width G] (nd : Nd) (ws : List Int) (h : InsOk nd ws.length ∧ nd.par ) {ds : List D} {M : Store} (v : Vws M ds [nd.d, .lst (ws.map D.int)]) (hl : ds.length = 2 := by rfl) : G.fn 144 ds M = Res.ok (.int (nd.w ws)) M := pure_call H.m hl (nd, ws) h v
theorem c_u_width {G : Gm} [H : H_u_width G] (nd : Nd) (ws : List Int) (h : InsOk nd ws.length ∧ nd.par ) (M : Store) : G.fn 144 [nd.d, .lst (ws.map D.int)] M = Res.ok (.int (nd.w ws)) M := by
  have q : Cls [nd.d, .lst (ws.map D.int)] := by (repeat' (first | exact Cls.nil | exact Clf.nil | exact Clk.nil | refine Clk.cons ?_ ?_ | refine Cl.dic ?_ | refine Cls.cons ?_ ?_ | refine Clf.cons ?_ ?_ | exact Cl.int _ | exact Cl.bl _ | exact Cl.non | exact Cl.str _ | exact Cls.ints _ | assumption | exact Nd.cl _ | exact Cls.nds _ | exact Cls.nats _ | exact Cl.st _ | exact Cl.bd _ | exact Cls.bds _ | exact Cls.rows _ | exact Cl.grf _ | exact Cl.enc _ | refine Cl.tup ?_ | refine Cl.lst ?_ | refine Cl.arr ?_ | refine Cl.ins ?_ | refine Cls.map (fun _ => ?_) _))
  exact v_u_width nd ws h (q.1 M)
theorem r_u_width {G : Gm} [Gl G] [H_inputs_of G] (nd : Nd) (ws : List Int) (h : InsOk nd ws.length ∧ nd.par ) : Runs (runF G b_u_width 4) [nd.d, .lst (ws.map D.int)] ((.val (.int (nd.w ws)))) := by
  obtain ⟨hi, hp⟩ := h
  refine Runs.int ?_
  have h5 := c_inputs_of (G := G) nd
  have i1 := fun p hp => idx_ints' (ws := ws) (p := p) (M := []) (hi p hp)
  cases nd <;> simp -implicitDefEqProofs only [Nd.d, Nd.ins, List.mem_cons, List.not_mem_nil, or_false, forall_eq_or_imp, forall_eq, List.map_cons, List.map_nil] at h5 i1 <;> first | (simp? [b_u_width, Nd.d, Nd.w, h5, i1, bin_mul (mul_ok hp.2)]; done) | (simp? [b_u_width, Nd.d, Nd.w, h5, i1]; done)
theorem sh_u_width {T : Tb} {G : Gm} [Gl G] [H_inputs_of G] : Shows T Sp_u_width (runF G b_u_width 4) := pure_shows (fun | (nd, ws), h => r_u_width nd ws h)
def Sp_u_length : Spec := pureSp 2 (α := (Nd) × (List Int)) (fun | (nd, ls) => InsOk nd ls.length ) (fun | (nd, ls) => [nd.d, .lst (ls.map D.int)]) (fun | (nd, ls) => (.val (.int (nd.l ls))))
class H_u_length (G : Gm) : Prop where m : Meets Sp_u_length (G.fn 128)
theorem v_u_length {G : Gm} [H : H_u_length G] (nd : Nd) (ls : List Int) (h : InsOk nd ls.length ) {ds : List D} {M : Store} (v : Vws M ds [nd.d, .lst (ls.map D.int)]) (hl : ds.length = 2 := by rfl) : G.fn 128 ds M = Res.ok (.int (nd.l ls)) M := pure_call H.m hl (nd, ls) h v
theorem c_u_length {G : Gm} [H : H_u_length G] (nd : Nd) (ls : List Int) (h : InsOk nd ls.length ) (M : Store) : G.fn 128 [nd.d, .lst (ls.map D.int)] M = Res.ok (.int (nd.l ls)) M := by
  have q : Cls [nd.d, .lst (ls.map D.int)] := by (repeat' (first | exact Cls.nil | exact Clf.nil | exact Clk.nil | refine Clk.cons ?_ ?_ | refine Cl.dic ?_ | refine Cls.cons ?_ ?_ | refine Clf.cons ?_ ?_ | exact Cl.int _ | exact Cl.bl _ | exact Cl.non | exact Cl.str _ | exact Cls.ints _ | assumption | exact Nd.cl _ | exact Cls.nds _ | exact Cls.nats _ | exact Cl.st _ | exact Cl.bd _ | exact Cls.bds _ | exact Cls.rows _ | exact Cl.grf _ | exact Cl.enc _ | refine Cl.tup ?_ | refine Cl.lst ?_ | refine Cl.arr ?_ | refine Cl.ins ?_ | refine Cls.map (fun _ => ?_) _))
  exact v_u_length nd ls h (q.1 M)
theorem r_u_length {G : Gm} [Gl G] [H_inputs_of G] (nd : Nd) (ls : List Int) (h : InsOk nd ls.length ) : Runs (runF G b_u_length 5) [nd.d, .lst (ls.map D.int)] ((.val (.int (nd.l ls)))) := by
  refine Runs.int ?_
  have h5 := c_inputs_of (G := G) nd
  have i1 := fun p hp => idx_ints' (ws := ls) (p := p) (M := []) (h p hp)
  cases nd <;> simp -implicitDefEqProofs only [Nd.d, Nd.ins, List.mem_cons, List.not_mem_nil, or_false, forall_eq_or_imp, forall_eq, List.map_cons, List.map_nil] at h5 i1 <;> simp? [b_u_length, b_u_length_C1e, Nd.d, Nd.l, h5, i1]
theorem sh_u_length {T : Tb} {G : Gm} [Gl G] [H_inputs_of G] : Shows T Sp_u_length (runF G b_u_length 5) := pure_shows (fun | (nd, ls), h => r_u_length nd ls h)
end Lp

namespace Lp
open PySem
local macro_rules | `(tactic| simp? [$args,*] $[$loc]?) => `(tactic| simp -implicitDefEqProofs only [$args,*, runF, natD, natsD, vOk_e, ev_var, ev_non, ev_bl, ev_int, ev_str, ev_gco, cB1_e, ev_bin, ev_neg, cC1_e, ev_cmp, cH3_t, cH3_f, cH2_e, cH1_e, ev_chn, cAnd_t, cAnd_f, ev_andv, cOr_t, cOr_f, ev_orv, cNot_e, ev_notv, cIfe_t, cIfe_f, ev_ife, cI1_e, ev_idx, cS2_e, cS1_e, ev_slt, cAt_e, ev_att, ev_call, cCall_e, cM2_e, cM1_e, ev_mth, mkK_e, cMk_e, ev_mk, ev_blt, cIs_e, ev_isi, appK_e, cA2_e, appP_e, cA1_e, ev_app, cTup_e, ev_tup, cFz_e, ev_fz, cFr_e, ev_fr, cMu_e, ev_mu, bOk_e, cTru_e, evT_tru, cTa_t, cTa_f, evT_tand, cTo_t, cTo_f, evT_tor, cTn_e, evT_tnot, evs_nil, cCo2_e, cCo1_e, evs_cons, evO_absent, cO_e, evO_tru, cDs_e, evL_dsp, cCt_e, evL_cat, cRp_e, evL_rep, cP2_e, cP1_e, evL_slp, lOk_e, cLo_e, evL_lof, cLc_e, evL_lc, iOk_e, cIt_e, evI_itm, cR1_e, evI_rng1, cR3_i, cR2_e, evI_rng2, cEn_e, evI_enu, cZ2_e, cZ1_e, evI_zip2, ex_nil, ex_pass, cSeq_n, cSeq_r, cSeq_b, ex_seq, cSet_e, ex_set, eOk_e, cSt_e, ex_setT, nxR_e, cSA2_e, cSA1_e, ex_setA, cSI3_e, cSI2_e, cSI1_e, ex_setI, cEx_e, ex_ex, cRet_e, ex_ret, ex_retN, ex_brk, cIf_t, cIf_f, ex_ife, cFor_e, ex_for, fin_ret, fin_nx, enK_e, idP_e, cIdn_e, ev_idn, popK_e, popz_e, ev_popz, ev_dem, cCalS_e, ev_cals, cMtS2_e, cMtS1_e, ev_mths, cMkS_e, ev_mks, smK_e, cSm_e, evL_sml, cRd3_i, cRd2_e, evI_rngd, cAu1_e, auP_e, ex_aug, aug_add, aug_sub, aaQ_e, cAA4_e, cAA3_e, cAA2_e, aaP_e, cAA1_e, ex_augA, cAI5_e, cAI4_e, cAI3_e, cAI2_e, cAI1_e, ex_augI, bind_ok, bind_bad, bind_exc, Lp.start, Gstr, Ggco, gc, GCD, setE, bin_add, bin_sub, cmpD, bRes, oRes, negD, truB_bl, truB_non, truB_int, isNon, bltD, blt1, blt2, eqB_int, eqB_str, eqB_bl, idx_tup, idx_lst, idx_arr, atI_0, atI_1, atI_2, atI_3, atI_4, atI_5, atI_6, atI_7, atI_8, atI_9, atI_10, atI_11,  slcT_1, slcT_2, slcT_21, inB_tup, inB_arr, inB_lst, flatD, eqF, tx_beq, List.all_cons, List.all_nil, List.any_cons, List.any_nil, Bool.and_true, Bool.true_and, Bool.and_false, Bool.false_and, Bool.or_false, Bool.or_true, Bool.true_or, Bool.false_or, Nat.reduceBEq, wipeE, itm_tup, itm_lst, itm_arr, List.map_cons, List.map_nil, List.cons_append, List.nil_append, List.length_cons, List.length_nil, List.getElem?_cons_zero, List.getElem?_cons_succ, List.getElem?_nil, List.set_cons_zero, List.set_cons_succ, List.getD_cons_zero, List.getD_cons_succ, List.replicate_succ, List.replicate_zero, Nat.reduceAdd, Nat.reduceSub, Nat.zero_add, Option.map_some, Option.map_none, Bool.not_true, Bool.not_false, ite_true, ite_false, if_true, if_false, reduceCtorEq, decide_true, decide_false, decide_eq_true_eq, tx_dec, Bool.false_eq_true, Nat.reduceEqDiff, Nat.reduceLT, Nat.reduceLeDiff, line_ok, line_lt, lcG_s, lcG_0, lcG_n, lcX_n, lcX_s, lcB_s, lcC_t, lcC_f, lcE_o, bindG_1, id_eq, nc_0, nc_1, nc_2, nc_3, nc_4, nc_5, nc_6, nc_7, nc_8, nc_9, nc_10, nc_11, nc_12,  Int.reduceEq, Int.reduceLT, Int.reduceLE, Int.reduceNeg, Int.reduceAdd, Int.reduceSub, Int.reduceMul, Option.bind_some, dInts_1, dInts_2, minL_1, minL_2, List.sum_cons, List.sum_nil, Int.add_zero, lenO, asS, asL, asM, idx_nl, inB_nl, itm_nl, wk_non, wk_bl, wk_int, wk_str, wk_ref, wk_tup, wk_lst, wk_nl, wk_arr, wk_ins, wk_no, wk_dic, wks_nil, wks_cons, wkf_nil, wkf_cons, wkk_nil, wkk_cons, wks_ints] $[$loc]?)
def runN (f : List Int → Nd → Int) (nds : List Nd) : List Int := nds.foldl (fun ws nd => ws ++ [f ws nd]) []
theorem runN_snoc (f : List Int → Nd → Int) (nds : List Nd) (nd : Nd) : runN f (nds ++ [nd]) = runN f nds ++ [f (runN f nds) nd] := by simp [runN]
theorem runN_len (f : List Int → Nd → Int) (nds : List Nd) : (runN f nds).length = nds.length := by
  have key : ∀ (nds : List Nd) (ws : List Int), (nds.foldl (fun ws nd => ws ++ [f ws nd]) ws).length = ws.length + nds.length := fun nds => by
    induction nds with
    | nil => simp
    | cons nd nds ih => intro ws; simp only [List.foldl_cons, ih, List.length_append, List.length_cons, List.length_nil]; omega
  simpa [runN] using key nds []
abbrev wsN : List Nd → List Int := runN fun ws nd => nd.w ws
abbrev lsN : List Nd → List Int := runN fun ls nd => nd.l ls
theorem wsN_len (nds : List Nd) : (wsN nds).length = nds.length := runN_len _ _
theorem lsN_len (nds : List Nd) : (lsN nds).length = nds.length := runN_len _ _
theorem runN_take (f : List Int → Nd → Int) (nds : List Nd) (k i : Nat) (hi : i < k) : (runN f (nds.take k)).getD i 0 = (runN f nds).getD i 0 := by
  have key : ∀ (t : List Nd) (s : List Nd), (runN f (s ++ t)).take s.length = runN f s := fun t => by
    induction t with
    | nil => intro s; rw [List.append_nil, List.take_of_length_le (by rw [runN_len]; exact Nat.le_refl _)]
    | cons nd t ih =>
      intro s
      have := ih (s ++ [nd])
      rw [List.append_assoc] at this
      rw [show s ++ nd :: t = s ++ ([nd] ++ t) from rfl]
      have h2 : (runN f (s ++ ([nd] ++ t))).take s.length = ((runN f (s ++ ([nd] ++ t))).take (s ++ [nd]).length).take s.length := by rw [List.take_take]; congr 1; simp
      rw [h2, this, runN_snoc, List.take_append_of_le_length (by rw [runN_len]; exact Nat.le_refl _), List.take_of_length_le (by rw [runN_len]; exact Nat.le_refl _)]
  have e := key (nds.drop k) (nds.take k)
  rw [List.take_append_drop] at e
  rw [← e, List.getD_eq_getElem?_getD, List.getD_eq_getElem?_getD, List.getElem?_take]
  by_cases hk : i < (nds.take k).length
  · rw [if_pos hk]
  · rw [if_neg hk]
    have : nds.length ≤ i := by rw [List.length_take] at hk; omega
    rw [List.getElem?_eq_none (by rw [runN_len]; exact this)]
theorem wsN_take (nds : List Nd) {k i : Nat} (hi : i < k) : (wsN (nds.take k)).getD i 0 = (wsN nds).getD i 0 := runN_take _ _ _ _ hi
theorem lsN_take (nds : List Nd) {k i : Nat} (hi : i < k) : (lsN (nds.take k)).getD i 0 = (lsN nds).getD i 0 := runN_take _ _ _ _ hi
def Good1 (nds : List Nd) : Prop := ∀ (i : Nat) (nd : Nd), nds[i]? = some nd → InsOk nd i ∧ nd.par
structure Rt (nds : List Nd) : Prop where
  g : Good1 nds
  mrg : ∀ (i p q : Nat), nds[i]? = some (.merge p q) → (wsN nds).getD p 0 = (wsN nds).getD q 0
  wide : ∀ i : Nat, i < nds.length → (wsN nds).getD i 0 ≤ 12
  long : ∀ i : Nat, i < nds.length → (lsN nds).getD i 0 ≤ 400
  src : (nds.filter Nd.isSrc).length ≤ 4
  one : 1 ≤ nds.length
  many : nds.length ≤ 12
theorem Good1.take {nds : List Nd} (h : Good1 nds) (k : Nat) : Good1 (nds.take k) := fun i x hx => h i x (by rw [List.getElem?_take] at hx; split at hx <;> first | exact hx | cases hx)
theorem runs_loop {G : Gm} (c : Nat) (f : List Int → Nd → Int) (nds : List Nd) (hz : nds.length ≤ 1000)
    (hc : ∀ (i : Nat) (M : Store), i < nds.length → M[0]? = some (.lst ((runN f (nds.take i)).map D.int)) → G.fn c [(nds.getD i default).d, .ref 0] M = .ok (.int (f (runN f (nds.take i)) (nds.getD i default))) M) {nodes z : Option D} :
    ∃ z', forGo ⟨nds.length, fun i _ => some (nds.map Nd.d)[i]?⟩ [2] (exec G (.seq (.ex (.app (.var 1) (.call c (.cons (.var 2) (.cons (.var 1) .nil))))) .nil)) nds.length 0 [nodes, some (.ref 0), z] [.lst []]
      = .ok (.nx [nodes, some (.ref 0), z']) [.lst ((runN f nds).map D.int)] := by
  have key := for_all (J := ⟨nds.length, fun i _ => some (nds.map Nd.d)[i]?⟩) (tg := [2]) (b := exec G (.seq (.ex (.app (.var 1) (.call c (.cons (.var 2) (.cons (.var 1) .nil))))) .nil)) (n := nds.length) (it := fun i => (nds.getD i default).d)
    (fun i env M' => M' = [.lst ((runN f (nds.take i)).map D.int)] ∧ ∃ z, env = [nodes, some (.ref 0), z]) (fun i env M' h => congrArg some (lst_nx default))
    (fun i env M' hi h => by
      obtain ⟨rfl, z, rfl⟩ := h
      have ht : nds.take (i + 1) = nds.take i ++ [nds.getD i default] := by rw [List.take_add_one, getD_mem (d := default) hi] <;> rfl
      have hl : (runN f (nds.take i)).length = i := by rw [runN_len, List.length_take]; omega
      have h1 := hc i [.lst ((runN f (nds.take i)).map D.int)] hi rfl
      have hz2 : ((runN f (nds.take i)).map D.int).length < sizeLine := by rw [List.length_map, hl]; exact line_lt' (by omega)
      refine ⟨_, [nodes, some (.ref 0), some (nds.getD i default).d], [.lst ((runN f (nds.take (i + 1))).map D.int)], rfl, ?_, rfl, _, rfl⟩
      rw [ht, runN_snoc, List.map_append]
      simp? [h1, if_pos hz2, wk_nd])
    (k := nds.length) (env := [nodes, some (.ref 0), z]) (M := [.lst []]) (Nat.le_refl _) ⟨rfl, _, rfl⟩
  obtain ⟨env', M', h1, h2, z', h3⟩ := key
  subst h2 h3
  rw [List.take_length] at h1
  exact ⟨z', h1⟩
def Sp_u_widths : Spec := pureSp 1 (α := (List Nd)) (fun nds => Good1 nds ∧ nds.length ≤ 1000 ) (fun nds => [.lst (nds.map Nd.d)]) (fun nds => (.val (.nl ((wsN nds).map D.int))))
class H_u_widths (G : Gm) : Prop where m : Meets Sp_u_widths (G.fn 145)
theorem v_u_widths {G : Gm} [H : H_u_widths G] (nds : List Nd) (h : Good1 nds ∧ nds.length ≤ 1000 ) {ds : List D} {M : Store} (v : Vws M ds [.lst (nds.map Nd.d)]) (hl : ds.length = 1 := by rfl) : G.fn 145 ds M = Res.ok (.nl ((wsN nds).map D.int)) M := pure_call H.m hl nds h v
theorem c_u_widths {G : Gm} [H : H_u_widths G] (nds : List Nd) (h : Good1 nds ∧ nds.length ≤ 1000 ) (M : Store) : G.fn 145 [.lst (nds.map Nd.d)] M = Res.ok (.nl ((wsN nds).map D.int)) M := by
  have q : Cls [.lst (nds.map Nd.d)] := by (repeat' (first | exact Cls.nil | exact Clf.nil | exact Clk.nil | refine Clk.cons ?_ ?_ | refine Cl.dic ?_ | refine Cls.cons ?_ ?_ | refine Clf.cons ?_ ?_ | exact Cl.int _ | exact Cl.bl _ | exact Cl.non | exact Cl.str _ | exact Cls.ints _ | assumption | exact Nd.cl _ | exact Cls.nds _ | exact Cls.nats _ | exact Cl.st _ | exact Cl.bd _ | exact Cls.bds _ | exact Cls.rows _ | exact Cl.grf _ | exact Cl.enc _ | refine Cl.tup ?_ | refine Cl.lst ?_ | refine Cl.arr ?_ | refine Cl.ins ?_ | refine Cls.map (fun _ => ?_) _))
  exact v_u_widths nds h (q.1 M)
theorem r_u_widths {G : Gm} [Gl G] [H_u_width G] (nds : List Nd) (h : Good1 nds ∧ nds.length ≤ 1000 ) : Runs (runF G b_u_widths 3) [.lst (nds.map Nd.d)] ((.val (.nl ((wsN nds).map D.int)))) := by
  obtain ⟨hg, hz⟩ := h
  obtain ⟨z, q⟩ := runs_loop (G := G) 144 (fun ws nd => nd.w ws) nds hz (fun i M hi hM => by
    obtain ⟨g1, g2⟩ := hg i _ (getD_mem (d := default) hi)
    have hl : (wsN (nds.take i)).length = i := by rw [wsN_len, List.length_take]; omega
    exact v_u_width (nds.getD i default) (wsN (nds.take i)) ⟨by rw [hl]; exact g1, g2⟩ (.cons ((Nd.cl _).1 _) (.cons (.rlst hM ((Cls.ints _).1 _)) .nil))) (nodes := some (.lst (nds.map Nd.d))) (z := none)
  refine Runs.new0 (xs := (wsN nds).map D.int) (N := []) ?_ (Ffs.ints _)
  simp? [b_u_widths, b_u_widths_L1, List.length_map, q]
theorem sh_u_widths {T : Tb} {G : Gm} [Gl G] [H_u_width G] : Shows T Sp_u_widths (runF G b_u_widths 3) := pure_shows (fun | nds, h => r_u_widths nds h)
def Sp_u_lengths : Spec := pureSp 1 (α := (List Nd)) (fun nds => Good1 nds ∧ nds.length ≤ 1000 ) (fun nds => [.lst (nds.map Nd.d)]) (fun nds => (.val (.nl ((lsN nds).map D.int))))
class H_u_lengths (G : Gm) : Prop where m : Meets Sp_u_lengths (G.fn 129)
theorem v_u_lengths {G : Gm} [H : H_u_lengths G] (nds : List Nd) (h : Good1 nds ∧ nds.length ≤ 1000 ) {ds : List D} {M : Store} (v : Vws M ds [.lst (nds.map Nd.d)]) (hl : ds.length = 1 := by rfl) : G.fn 129 ds M = Res.ok (.nl ((lsN nds).map D.int)) M := pure_call H.m hl nds h v
theorem c_u_lengths {G : Gm} [H : H_u_lengths G] (nds : List Nd) (h : Good1 nds ∧ nds.length ≤ 1000 ) (M : Store) : G.fn 129 [.lst (nds.map Nd.d)] M = Res.ok (.nl ((lsN nds).map D.int)) M := by
  have q : Cls [.lst (nds.map Nd.d)] := by (repeat' (first | exact Cls.nil | exact Clf.nil | exact Clk.nil | refine Clk.cons ?_ ?_ | refine Cl.dic ?_ | refine Cls.cons ?_ ?_ | refine Clf.cons ?_ ?_ | exact Cl.int _ | exact Cl.bl _ | exact Cl.non | exact Cl.str _ | exact Cls.ints _ | assumption | exact Nd.cl _ | exact Cls.nds _ | exact Cls.nats _ | exact Cl.st _ | exact Cl.bd _ | exact Cls.bds _ | exact Cls.rows _ | exact Cl.grf _ | exact Cl.enc _ | refine Cl.tup ?_ | refine Cl.lst ?_ | refine Cl.arr ?_ | refine Cl.ins ?_ | refine Cls.map (fun _ => ?_) _))
  exact v_u_lengths nds h (q.1 M)
theorem r_u_lengths {G : Gm} [Gl G] [H_u_length G] (nds : List Nd) (h : Good1 nds ∧ nds.length ≤ 1000 ) : Runs (runF G b_u_lengths 3) [.lst (nds.map Nd.d)] ((.val (.nl ((lsN nds).map D.int)))) := by
  obtain ⟨hg, hz⟩ := h
  obtain ⟨z, q⟩ := runs_loop (G := G) 128 (fun ws nd => nd.l ws) nds hz (fun i M hi hM => by
    obtain ⟨g1, g2⟩ := hg i _ (getD_mem (d := default) hi)
    have hl : (lsN (nds.take i)).length = i := by rw [lsN_len, List.length_take]; omega
    exact v_u_length (nds.getD i default) (lsN (nds.take i)) (by rw [hl]; exact g1) (.cons ((Nd.cl _).1 _) (.cons (.rlst hM ((Cls.ints _).1 _)) .nil))) (nodes := some (.lst (nds.map Nd.d))) (z := none)
  refine Runs.new0 (xs := (lsN nds).map D.int) (N := []) ?_ (Ffs.ints _)
  simp? [b_u_lengths, b_u_lengths_L1, List.length_map, q]
theorem sh_u_lengths {T : Tb} {G : Gm} [Gl G] [H_u_length G] : Shows T Sp_u_lengths (runF G b_u_lengths 3) := pure_shows (fun | nds, h => r_u_lengths nds h)
theorem idx_nl_ints {ws : List Int} {p : Nat} {M : Store} (hp : p < ws.length) : idxD (.nl (ws.map D.int)) (.int (p : Int)) M = .ok (.int (ws.getD p 0)) M := idx_ints rfl hp
theorem slL_lst {xs : List D} {lo hi : Option Int} {M : Store} : slL (.lst xs) lo hi M = .ok (cut xs lo hi) M := rfl
def Sp_u_fault : Spec := pureSp 2 (α := (List Nd) × (Nat)) (fun | (nds, at_) => Rt nds ∧ at_ < nds.length ) (fun | (nds, at_) => [.lst (nds.map Nd.d), natD at_]) (fun | (nds, at_) => (.val (.non)))
class H_u_fault (G : Gm) : Prop where m : Meets Sp_u_fault (G.fn 6)
theorem v_u_fault {G : Gm} [H : H_u_fault G] (nds : List Nd) (at_ : Nat) (h : Rt nds ∧ at_ < nds.length ) {ds : List D} {M : Store} (v : Vws M ds [.lst (nds.map Nd.d), natD at_]) (hl : ds.length = 2 := by rfl) : G.fn 6 ds M = Res.ok (.non) M := pure_call H.m hl (nds, at_) h v
theorem c_u_fault {G : Gm} [H : H_u_fault G] (nds : List Nd) (at_ : Nat) (h : Rt nds ∧ at_ < nds.length ) (M : Store) : G.fn 6 [.lst (nds.map Nd.d), natD at_] M = Res.ok (.non) M := by
  have q : Cls [.lst (nds.map Nd.d), natD at_] := by (repeat' (first | exact Cls.nil | exact Clf.nil | exact Clk.nil | refine Clk.cons ?_ ?_ | refine Cl.dic ?_ | refine Cls.cons ?_ ?_ | refine Clf.cons ?_ ?_ | exact Cl.int _ | exact Cl.bl _ | exact Cl.non | exact Cl.str _ | exact Cls.ints _ | assumption | exact Nd.cl _ | exact Cls.nds _ | exact Cls.nats _ | exact Cl.st _ | exact Cl.bd _ | exact Cls.bds _ | exact Cls.rows _ | exact Cl.grf _ | exact Cl.enc _ | refine Cl.tup ?_ | refine Cl.lst ?_ | refine Cl.arr ?_ | refine Cl.ins ?_ | refine Cls.map (fun _ => ?_) _))
  exact v_u_fault nds at_ h (q.1 M)
theorem r_u_fault {G : Gm} [Gl G] [H_is_node G] [H_inputs_of G] [H_u_widths G] [H_u_lengths G] (nds : List Nd) (at_ : Nat) (h : Rt nds ∧ at_ < nds.length ) : Runs (runF G b_u_fault 7) [.lst (nds.map Nd.d), natD at_] ((.val (.non))) := by
  obtain ⟨hr, hat⟩ := h
  have hm := hr.many
  obtain ⟨q1, q2⟩ := hr.g at_ _ (getD_mem (d := default) hat)
  have hz : (nds.take (at_ + 1)).length ≤ 1000 := by rw [List.length_take]; omega
  have lenT : (nds.take (at_ + 1)).length = at_ + 1 := by rw [List.length_take]; omega
  have i0 := idx_nd (M := []) hat
  have i1 := c_is_node (G := G) (nds.getD at_ default) q2 []
  have i2 := c_inputs_of (G := G) (nds.getD at_ default) []
  have W := c_u_widths (G := G) (nds.take (at_ + 1)) ⟨hr.g.take _, hz⟩ []
  have L := c_u_lengths (G := G) (nds.take (at_ + 1)) ⟨hr.g.take _, hz⟩ []
  have iw := fun p (hp : p < at_ + 1) => idx_nl_ints (ws := wsN (nds.take (at_ + 1))) (p := p) (M := []) (by rw [wsN_len, lenT]; exact hp)
  have iL := idx_nl_ints (ws := lsN (nds.take (at_ + 1))) (p := at_) (M := []) (by rw [lsN_len, lenT]; omega)
  have s1 : cut (nds.map Nd.d) none (some ((at_ + 1 : Nat) : Int)) = (nds.take (at_ + 1)).map Nd.d := by rw [cut_take, List.map_take]
  have e1 : (12 < (wsN (nds.take (at_ + 1))).getD at_ 0) = False := eq_false (by rw [wsN_take nds (Nat.lt_succ_self _)]; have := hr.wide at_ hat; omega)
  have e2 : (400 < (lsN (nds.take (at_ + 1))).getD at_ 0) = False := eq_false (by rw [lsN_take nds (Nat.lt_succ_self _)]; have := hr.long at_ hat; omega)
  have e3 : ((4 : Int) < ((((nds.take (at_ + 1)).filter Nd.isSrc).map Nd.d).length : Nat)) = False := eq_false (by
    rw [List.length_map]
    have := (List.Sublist.filter Nd.isSrc (List.take_sublist (at_ + 1) nds)).length_le
    have := hr.src
    omega)
  have hlc : ∀ env : Ev, env.length = 7 → lcGo ⟨((nds.take (at_ + 1)).map Nd.d).length, fun i _ => some ((nds.take (at_ + 1)).map Nd.d)[i]?⟩ [6] env (evT G b_u_fault_C1c) (ev G b_u_fault_C1e) ((nds.take (at_ + 1)).map Nd.d).length 0 [] [] = .ok (((nds.take (at_ + 1)).filter Nd.isSrc).map Nd.d) [] := fun env he =>
    lc_lst default Nd.isSrc Nd.d (by omega) (by rw [List.length_map]; exact Nat.le_refl _) (fun nd _ => by
      match env, he with
      | [x0, x1, x2, x3, x4, x5, x6], _ => exact ⟨_, rfl, by cases nd <;> simp? [b_u_fault_C1c, Nd.d, Nd.isSrc], fun _ => by simp? [b_u_fault_C1e]⟩)
  have lt : ∀ p : Nat, p < at_ → ((at_ : Int) ≤ (p : Int)) = False := fun p hp => eq_false (by omega)
  have mg : ∀ p q : Nat, nds.getD at_ default = .merge p q → (wsN (nds.take (at_ + 1))).getD p 0 = (wsN (nds.take (at_ + 1))).getD q 0 := fun p q e => by
    rw [e] at q1
    have z1 := q1 p (by simp [Nd.ins])
    have z2 := q1 q (by simp [Nd.ins])
    rw [wsN_take nds (by omega), wsN_take nds (by omega)]
    exact hr.mrg at_ p q (by rw [← e]; exact getD_mem hat)
  refine Runs.non ?_
  generalize nds.getD at_ default = nd at q1 i0 i1 i2 mg
  have iw0 := iw at_ (by omega)
  have hl6 := fun x0 x1 x2 x3 x4 x5 x6 => hlc [x0, x1, x2, x3, x4, x5, x6] rfl
  cases nd with
  | merge p q =>
    have z1 := q1 p (by simp [Nd.ins])
    have z2 := q1 q (by simp [Nd.ins])
    have lp := lt p z1
    have lq := lt q z2
    have ip := iw p (by omega)
    have iq := iw q (by omega)
    have em := mg p q rfl
    simp -implicitDefEqProofs only [Nd.d, Nd.ins, natsD, List.map_cons, List.map_nil] at i0 i1 i2
    simp? [b_u_fault, b_u_fault_C2e, i0, i1, i2, succ_nat, slL_lst, s1, wks_nds, W, L, iw0, iL, ip, iq, em, e1, e2, e3, hl6, lp, lq, dBls, mapO]
  | src =>
    simp -implicitDefEqProofs only [Nd.d, Nd.ins, natsD, List.map_cons, List.map_nil] at i0 i1 i2
    simp? [b_u_fault, b_u_fault_C2e, i0, i1, i2, succ_nat, slL_lst, s1, wks_nds, W, L, iw0, iL, e1, e2, e3, hl6, dBls, mapO]
  | zip p q =>
    have lp := lt p (q1 p (by simp [Nd.ins]))
    have lq := lt q (q1 q (by simp [Nd.ins]))
    simp -implicitDefEqProofs only [Nd.d, Nd.ins, natsD, List.map_cons, List.map_nil] at i0 i1 i2
    simp? [b_u_fault, b_u_fault_C2e, i0, i1, i2, succ_nat, slL_lst, s1, wks_nds, W, L, iw0, iL, e1, e2, e3, hl6, lp, lq, dBls, mapO]
  | map p | filter p | whil p | take _ p | drop _ p | window _ p | scan _ p =>
    have lp := lt p (q1 p (by simp [Nd.ins]))
    simp -implicitDefEqProofs only [Nd.d, Nd.ins, natsD, List.map_cons, List.map_nil] at i0 i1 i2
    simp? [b_u_fault, b_u_fault_C2e, i0, i1, i2, succ_nat, slL_lst, s1, wks_nds, W, L, iw0, iL, e1, e2, e3, hl6, lp, dBls, mapO]
theorem sh_u_fault {T : Tb} {G : Gm} [Gl G] [H_is_node G] [H_inputs_of G] [H_u_widths G] [H_u_lengths G] : Shows T Sp_u_fault (runF G b_u_fault 7) := pure_shows (fun | (nds, at_), h => r_u_fault nds at_ h)
def grD (nds : List Nd) : D := .ins 3 [(16, .lst (nds.map Nd.d))]
abbrev grO (nds : List Nd) : MO := .ins 3 [(16, .lst (nds.map Nd.d))]
theorem Cl.grf (nds : List Nd) : Cl (grD nds) := .ins (.cons (.lst (Cls.nds nds)) .nil)
theorem cfl_nodes {G : Gm} [Gl G] : G.cfl 3 16 = true := by rw [Gcfl]; decide +kernel
theorem att_grD {G : Gm} [Gl G] {nds : List Nd} {M : Store} : attG G (grD nds) 16 M = .ok (.lst (nds.map Nd.d)) M := by
  simp only [attG, asI, grD, cfl_nodes, if_true, fget, oRes]
def Sp_widths : Spec := pureSp 1 (α := (List Nd)) (fun nds => Rt nds ) (fun nds => [grD nds]) (fun nds => (.val (.nl ((wsN nds).map D.int))))
class H_widths (G : Gm) : Prop where m : Meets Sp_widths (G.fn 210)
theorem v_widths {G : Gm} [H : H_widths G] (nds : List Nd) (h : Rt nds ) {ds : List D} {M : Store} (v : Vws M ds [grD nds]) (hl : ds.length = 1 := by rfl) : G.fn 210 ds M = Res.ok (.nl ((wsN nds).map D.int)) M := pure_call H.m hl nds h v
theorem c_widths {G : Gm} [H : H_widths G] (nds : List Nd) (h : Rt nds ) (M : Store) : G.fn 210 [grD nds] M = Res.ok (.nl ((wsN nds).map D.int)) M := by
  have q : Cls [grD nds] := by (repeat' (first | exact Cls.nil | exact Clf.nil | exact Clk.nil | refine Clk.cons ?_ ?_ | refine Cl.dic ?_ | refine Cls.cons ?_ ?_ | refine Clf.cons ?_ ?_ | exact Cl.int _ | exact Cl.bl _ | exact Cl.non | exact Cl.str _ | exact Cls.ints _ | assumption | exact Nd.cl _ | exact Cls.nds _ | exact Cls.nats _ | exact Cl.st _ | exact Cl.bd _ | exact Cls.bds _ | exact Cls.rows _ | exact Cl.grf _ | exact Cl.enc _ | refine Cl.tup ?_ | refine Cl.lst ?_ | refine Cl.arr ?_ | refine Cl.ins ?_ | refine Cls.map (fun _ => ?_) _))
  exact v_widths nds h (q.1 M)
def Sp_greatest_lengths : Spec := pureSp 1 (α := (List Nd)) (fun nds => Rt nds ) (fun nds => [grD nds]) (fun nds => (.val (.nl ((lsN nds).map D.int))))
class H_greatest_lengths (G : Gm) : Prop where m : Meets Sp_greatest_lengths (G.fn 165)
theorem v_greatest_lengths {G : Gm} [H : H_greatest_lengths G] (nds : List Nd) (h : Rt nds ) {ds : List D} {M : Store} (v : Vws M ds [grD nds]) (hl : ds.length = 1 := by rfl) : G.fn 165 ds M = Res.ok (.nl ((lsN nds).map D.int)) M := pure_call H.m hl nds h v
theorem c_greatest_lengths {G : Gm} [H : H_greatest_lengths G] (nds : List Nd) (h : Rt nds ) (M : Store) : G.fn 165 [grD nds] M = Res.ok (.nl ((lsN nds).map D.int)) M := by
  have q : Cls [grD nds] := by (repeat' (first | exact Cls.nil | exact Clf.nil | exact Clk.nil | refine Clk.cons ?_ ?_ | refine Cl.dic ?_ | refine Cls.cons ?_ ?_ | refine Clf.cons ?_ ?_ | exact Cl.int _ | exact Cl.bl _ | exact Cl.non | exact Cl.str _ | exact Cls.ints _ | assumption | exact Nd.cl _ | exact Cls.nds _ | exact Cls.nats _ | exact Cl.st _ | exact Cl.bd _ | exact Cls.bds _ | exact Cls.rows _ | exact Cl.grf _ | exact Cl.enc _ | refine Cl.tup ?_ | refine Cl.lst ?_ | refine Cl.arr ?_ | refine Cl.ins ?_ | refine Cls.map (fun _ => ?_) _))
  exact v_greatest_lengths nds h (q.1 M)
theorem r_widths {G : Gm} [Gl G] [H_u_widths G] (nds : List Nd) (h : Rt nds ) : Runs (runF G b_widths 1) [grD nds] ((.val (.nl ((wsN nds).map D.int)))) := Runs.nl (xs := (wsN nds).map D.int) (N := []) (by simp? [b_widths, att_grD, wks_nds, c_u_widths nds ⟨h.g, by have := h.many; omega⟩]) (Ffs.ints _)
theorem sh_widths {T : Tb} {G : Gm} [Gl G] [H_u_widths G] : Shows T Sp_widths (runF G b_widths 1) := pure_shows (fun | nds, h => r_widths nds h)
theorem r_greatest_lengths {G : Gm} [Gl G] [H_u_lengths G] (nds : List Nd) (h : Rt nds ) : Runs (runF G b_greatest_lengths 1) [grD nds] ((.val (.nl ((lsN nds).map D.int)))) := Runs.nl (xs := (lsN nds).map D.int) (N := []) (by simp? [b_greatest_lengths, att_grD, wks_nds, c_u_lengths nds ⟨h.g, by have := h.many; omega⟩]) (Ffs.ints _)
theorem sh_greatest_lengths {T : Tb} {G : Gm} [Gl G] [H_u_lengths G] : Shows T Sp_greatest_lengths (runF G b_greatest_lengths 1) := pure_shows (fun | nds, h => r_greatest_lengths nds h)
def posN (sel : Nd → Bool) (nds : List Nd) : List Nat := (List.range nds.length).filter fun i => sel (nds.getD i default)
theorem enum_lc {G : Gm} {c : E} {env : Ev} {M : Store} {nds : List Nd} (sel : Nd → Bool) (hz : nds.length ≤ 1000)
    (h : ∀ (i : Nat) (nd : Nd), evT G c (setE (setE env 1 (.int (i : Int))) 2 nd.d) M = .ok (sel nd) M) (h2 : ∀ (i : Nat) (nd : Nd), ev G (.var 1) (setE (setE env 1 (.int (i : Int))) 2 nd.d) M = .ok (.int (i : Int)) M) :
    lcGo (enuI ⟨nds.length, fun i _ => some (nds.map Nd.d)[i]?⟩) [1, 2] env (evT G c) (ev G (.var 1)) nds.length 0 [] M = .ok (natsD (posN sel nds)) M :=
  lc_fil (n := nds.length) (it := fun i => .tup [.int (i : Int), (nds.getD i default).d]) (fun i => sel (nds.getD i default)) natD (fun i => enu_nx default) (by omega) (Nat.le_refl _) fun i hi => ⟨_, rfl, h i _, fun _ => h2 i _⟩
theorem itmL_lst {M : Store} {xs : List D} : itmL M (.lst xs) = some ⟨xs.length, fun i _ => some xs[i]?⟩ := rfl
theorem itmL_nl {M : Store} {xs : List D} : itmL M (.nl xs) = some ⟨xs.length, fun i _ => some xs[i]?⟩ := rfl
def Sp_source_nodes : Spec := pureSp 1 (α := (List Nd)) (fun nds => nds.length ≤ 1000 ) (fun nds => [grD nds]) (fun nds => (.val (.nl (natsD (posN Nd.isSrc nds)))))
class H_source_nodes (G : Gm) : Prop where m : Meets Sp_source_nodes (G.fn 207)
theorem v_source_nodes {G : Gm} [H : H_source_nodes G] (nds : List Nd) (h : nds.length ≤ 1000 ) {ds : List D} {M : Store} (v : Vws M ds [grD nds]) (hl : ds.length = 1 := by rfl) : G.fn 207 ds M = Res.ok (.nl (natsD (posN Nd.isSrc nds))) M := pure_call H.m hl nds h v
theorem c_source_nodes {G : Gm} [H : H_source_nodes G] (nds : List Nd) (h : nds.length ≤ 1000 ) (M : Store) : G.fn 207 [grD nds] M = Res.ok (.nl (natsD (posN Nd.isSrc nds))) M := by
  have q : Cls [grD nds] := by (repeat' (first | exact Cls.nil | exact Clf.nil | exact Clk.nil | refine Clk.cons ?_ ?_ | refine Cl.dic ?_ | refine Cls.cons ?_ ?_ | refine Clf.cons ?_ ?_ | exact Cl.int _ | exact Cl.bl _ | exact Cl.non | exact Cl.str _ | exact Cls.ints _ | assumption | exact Nd.cl _ | exact Cls.nds _ | exact Cls.nats _ | exact Cl.st _ | exact Cl.bd _ | exact Cls.bds _ | exact Cls.rows _ | exact Cl.grf _ | exact Cl.enc _ | refine Cl.tup ?_ | refine Cl.lst ?_ | refine Cl.arr ?_ | refine Cl.ins ?_ | refine Cls.map (fun _ => ?_) _))
  exact v_source_nodes nds h (q.1 M)
def Sp_source_nodes_n : Spec := newSp 1 (α := (List Nd)) (fun nds => nds.length ≤ 1000 ) (fun nds => [grD nds]) (fun nds => natsD (posN Nd.isSrc nds))
class H_source_nodes_n (G : Gm) : Prop where m : Meets Sp_source_nodes_n (G.fn 207)
theorem v_source_nodes_n {G : Gm} [H : H_source_nodes_n G] (nds : List Nd) (h : nds.length ≤ 1000 ) {ds : List D} {M : Store} (v : Vws M ds [grD nds]) (hl : ds.length = 1 := by rfl) : G.fn 207 ds M = Res.ok (.ref M.length) (M ++ [.lst (natsD (posN Nd.isSrc nds))]) := new_call H.m hl nds h v
theorem c_source_nodes_n {G : Gm} [H : H_source_nodes_n G] (nds : List Nd) (h : nds.length ≤ 1000 ) (M : Store) : G.fn 207 [grD nds] M = Res.ok (.ref M.length) (M ++ [.lst (natsD (posN Nd.isSrc nds))]) := by
  have q : Cls [grD nds] := by (repeat' (first | exact Cls.nil | exact Clf.nil | exact Clk.nil | refine Clk.cons ?_ ?_ | refine Cl.dic ?_ | refine Cls.cons ?_ ?_ | refine Clf.cons ?_ ?_ | exact Cl.int _ | exact Cl.bl _ | exact Cl.non | exact Cl.str _ | exact Cls.ints _ | assumption | exact Nd.cl _ | exact Cls.nds _ | exact Cls.nats _ | exact Cl.st _ | exact Cl.bd _ | exact Cls.bds _ | exact Cls.rows _ | exact Cl.grf _ | exact Cl.enc _ | refine Cl.tup ?_ | refine Cl.lst ?_ | refine Cl.arr ?_ | refine Cl.ins ?_ | refine Cls.map (fun _ => ?_) _))
  exact v_source_nodes_n nds h (q.1 M)
def Sp_calling_nodes : Spec := pureSp 1 (α := (List Nd)) (fun nds => nds.length ≤ 1000 ) (fun nds => [grD nds]) (fun nds => (.val (.nl (natsD (posN Nd.isCall nds)))))
class H_calling_nodes (G : Gm) : Prop where m : Meets Sp_calling_nodes (G.fn 153)
theorem v_calling_nodes {G : Gm} [H : H_calling_nodes G] (nds : List Nd) (h : nds.length ≤ 1000 ) {ds : List D} {M : Store} (v : Vws M ds [grD nds]) (hl : ds.length = 1 := by rfl) : G.fn 153 ds M = Res.ok (.nl (natsD (posN Nd.isCall nds))) M := pure_call H.m hl nds h v
theorem c_calling_nodes {G : Gm} [H : H_calling_nodes G] (nds : List Nd) (h : nds.length ≤ 1000 ) (M : Store) : G.fn 153 [grD nds] M = Res.ok (.nl (natsD (posN Nd.isCall nds))) M := by
  have q : Cls [grD nds] := by (repeat' (first | exact Cls.nil | exact Clf.nil | exact Clk.nil | refine Clk.cons ?_ ?_ | refine Cl.dic ?_ | refine Cls.cons ?_ ?_ | refine Clf.cons ?_ ?_ | exact Cl.int _ | exact Cl.bl _ | exact Cl.non | exact Cl.str _ | exact Cls.ints _ | assumption | exact Nd.cl _ | exact Cls.nds _ | exact Cls.nats _ | exact Cl.st _ | exact Cl.bd _ | exact Cls.bds _ | exact Cls.rows _ | exact Cl.grf _ | exact Cl.enc _ | refine Cl.tup ?_ | refine Cl.lst ?_ | refine Cl.arr ?_ | refine Cl.ins ?_ | refine Cls.map (fun _ => ?_) _))
  exact v_calling_nodes nds h (q.1 M)
theorem source_nodes_run {G : Gm} [Gl G] (nds : List Nd) (h : nds.length ≤ 1000) : runF G b_source_nodes 3 [grD nds] [] = .ok (.ref 0) [.lst (natsD (posN Nd.isSrc nds))] := by
  have hl := fun (x0 : Option D) => enum_lc (G := G) (c := .tru (.cmp .Eq (.idx (.var 2) (.int 0)) (.str 10))) (env := [x0, none, none]) (M := []) (nds := nds) Nd.isSrc h (fun i nd => by cases nd <;> simp? [Nd.d, Nd.isSrc]) (fun i nd => by simp? [bind_ok])
  simp? [b_source_nodes, b_source_nodes_C1c, b_source_nodes_C1e, att_grD, itmL_lst, List.length_map, enu_n, hl]
theorem r_source_nodes {G : Gm} [Gl G] (nds : List Nd) (h : nds.length ≤ 1000 ) : Runs (runF G b_source_nodes 3) [grD nds] ((.val (.nl (natsD (posN Nd.isSrc nds))))) := Runs.new0 (source_nodes_run nds h) (Ffs.nats _)
theorem sh_source_nodes {T : Tb} {G : Gm} [Gl G] : Shows T Sp_source_nodes (runF G b_source_nodes 3) := pure_shows (fun | nds, h => r_source_nodes nds h)
theorem r_source_nodes_n {G : Gm} [Gl G] (nds : List Nd) (h : nds.length ≤ 1000 ) : RunsL (runF G b_source_nodes 3) [grD nds] (natsD (posN Nd.isSrc nds)) := ⟨0, _, _, source_nodes_run nds h, rfl, Ffs.nats _⟩
theorem sh_source_nodes_n {T : Tb} {G : Gm} [Gl G] : Shows T Sp_source_nodes_n (runF G b_source_nodes 3) := new_shows (fun | nds, h => r_source_nodes_n nds h)
theorem r_calling_nodes {G : Gm} [Gl G] (nds : List Nd) (h : nds.length ≤ 1000 ) : Runs (runF G b_calling_nodes 3) [grD nds] ((.val (.nl (natsD (posN Nd.isCall nds))))) := by
  have hl := fun (x0 : Option D) => enum_lc (G := G) (c := .tru (.cmp .In (.idx (.var 2) (.int 0)) (.gco 0))) (env := [x0, none, none]) (M := []) (nds := nds) Nd.isCall h (fun i nd => by cases nd <;> simp? [Nd.d, Nd.isCall]) (fun i nd => by simp? [bind_ok])
  refine Runs.new0 (xs := natsD (posN Nd.isCall nds)) (N := []) ?_ (Ffs.nats _)
  simp? [b_calling_nodes, b_calling_nodes_C1c, b_calling_nodes_C1e, att_grD, itmL_lst, List.length_map, enu_n, hl]
theorem sh_calling_nodes {T : Tb} {G : Gm} [Gl G] : Shows T Sp_calling_nodes (runF G b_calling_nodes 3) := pure_shows (fun | nds, h => r_calling_nodes nds h)
end Lp

namespace Lp
open PySem
local macro_rules | `(tactic| simp?! [$args,*] $[$loc]?) => `(tactic| simp -implicitDefEqProofs only [$args,*, runF, natD, natsD, vOk_e, ev_var, ev_non, ev_bl, ev_int, ev_str, ev_gco, cB1_e, ev_bin, ev_neg, cC1_e, ev_cmp, cH3_t, cH3_f, cH2_e, cH1_e, ev_chn, cAnd_t, cAnd_f, ev_andv, cOr_t, cOr_f, ev_orv, cNot_e, ev_notv, cIfe_t, cIfe_f, ev_ife, cI1_e, ev_idx, cS2_e, cS1_e, ev_slt, cAt_e, ev_att, ev_call, cCall_e, cM2_e, cM1_e, ev_mth, mkK_e, cMk_e, ev_mk, ev_blt, cIs_e, ev_isi, appK_e, cA2_e, appP_e, cA1_e, ev_app, cTup_e, ev_tup, cFz_e, ev_fz, cFr_e, ev_fr, cMu_e, ev_mu, bOk_e, cTru_e, evT_tru, cTa_t, cTa_f, evT_tand, cTo_t, cTo_f, evT_tor, cTn_e, evT_tnot, evs_nil, cCo2_e, cCo1_e, evs_cons, evO_absent, cO_e, evO_tru, cDs_e, evL_dsp, cCt_e, evL_cat, cRp_e, evL_rep, cP2_e, cP1_e, evL_slp, lOk_e, cLo_e, evL_lof, cLc_e, evL_lc, iOk_e, cIt_e, evI_itm, cR1_e, evI_rng1, cR3_i, cR2_e, evI_rng2, cEn_e, evI_enu, cZ2_e, cZ1_e, evI_zip2, ex_nil, ex_pass, cSeq_n, cSeq_r, cSeq_b, ex_seq, cSet_e, ex_set, eOk_e, cSt_e, ex_setT, nxR_e, cSA2_e, cSA1_e, ex_setA, cSI3_e, cSI2_e, cSI1_e, ex_setI, cEx_e, ex_ex, cRet_e, ex_ret, ex_retN, ex_brk, cIf_t, cIf_f, ex_ife, cFor_e, ex_for, fin_ret, fin_nx, enK_e, idP_e, cIdn_e, ev_idn, popK_e, popz_e, ev_popz, ev_dem, cCalS_e, ev_cals, cMtS2_e, cMtS1_e, ev_mths, cMkS_e, ev_mks, smK_e, cSm_e, evL_sml, cRd3_i, cRd2_e, evI_rngd, cAu1_e, auP_e, ex_aug, aug_add, aug_sub, aaQ_e, cAA4_e, cAA3_e, cAA2_e, aaP_e, cAA1_e, ex_augA, cAI5_e, cAI4_e, cAI3_e, cAI2_e, cAI1_e, ex_augI, bind_ok, bind_bad, bind_exc, Lp.start, Gstr, Ggco, gc, GCD, setE, bin_add, bin_sub, cmpD, bRes, oRes, negD, truB_bl, truB_non, truB_int, isNon, eqB_int, eqB_str, eqB_bl, idx_tup, idx_lst, idx_arr, atI_0, atI_1, atI_2, atI_3, atI_4, atI_5, atI_6, atI_7, atI_8, atI_9, atI_10, atI_11,  slcT_1, slcT_2, slcT_21, inB_tup, inB_arr, inB_lst, flatD, eqF, tx_beq, List.all_cons, List.all_nil, List.any_cons, List.any_nil, Bool.and_true, Bool.true_and, Bool.and_false, Bool.false_and, Bool.or_false, Bool.or_true, Bool.true_or, Bool.false_or, Nat.reduceBEq, wipeE, itm_tup, itm_lst, itm_arr, List.map_cons, List.map_nil, List.cons_append, List.nil_append, List.length_cons, List.length_nil, List.getElem?_cons_zero, List.getElem?_cons_succ, List.getElem?_nil, List.set_cons_zero, List.set_cons_succ, List.getD_cons_zero, List.getD_cons_succ, List.replicate_succ, List.replicate_zero, Nat.reduceAdd, Nat.reduceSub, Nat.zero_add, Option.map_some, Option.map_none, Bool.not_true, Bool.not_false, ite_true, ite_false, if_true, if_false, reduceCtorEq, decide_true, decide_false, decide_eq_true_eq, tx_dec, Bool.false_eq_true, Nat.reduceEqDiff, Nat.reduceLT, Nat.reduceLeDiff, line_ok, line_lt, lcG_s, lcG_0, lcG_n, lcX_n, lcX_s, lcB_s, lcC_t, lcC_f, lcE_o, bindG_1, id_eq, nc_0, nc_1, nc_2, nc_3, nc_4, nc_5, nc_6, nc_7, nc_8, nc_9, nc_10, nc_11, nc_12,  Int.reduceEq, Int.reduceLT, Int.reduceLE, Int.reduceNeg, Int.reduceAdd, Int.reduceSub, Int.reduceMul, Option.bind_some, dInts_1, dInts_2, minL_1, minL_2, List.sum_cons, List.sum_nil, Int.add_zero, idx_nl, inB_nl, itm_nl, wk_non, wk_bl, wk_int, wk_str, wk_ref, wk_tup, wk_lst, wk_nl, wk_arr, wk_ins, wk_no, wk_dic, wks_nil, wks_cons, wkf_nil, wkf_cons, wkk_nil, wkk_cons, wks_ints] $[$loc]?)
local macro_rules | `(tactic| simp? [$args,*] $[$loc]?) => `(tactic| simp -implicitDefEqProofs only [$args,*, runF, natD, natsD, vOk_e, ev_var, ev_non, ev_bl, ev_int, ev_str, ev_gco, cB1_e, ev_bin, ev_neg, cC1_e, ev_cmp, cH3_t, cH3_f, cH2_e, cH1_e, ev_chn, cAnd_t, cAnd_f, ev_andv, cOr_t, cOr_f, ev_orv, cNot_e, ev_notv, cIfe_t, cIfe_f, ev_ife, cI1_e, ev_idx, cS2_e, cS1_e, ev_slt, cAt_e, ev_att, ev_call, cCall_e, cM2_e, cM1_e, ev_mth, mkK_e, cMk_e, ev_mk, ev_blt, cIs_e, ev_isi, appK_e, cA2_e, appP_e, cA1_e, ev_app, cTup_e, ev_tup, cFz_e, ev_fz, cFr_e, ev_fr, cMu_e, ev_mu, bOk_e, cTru_e, evT_tru, cTa_t, cTa_f, evT_tand, cTo_t, cTo_f, evT_tor, cTn_e, evT_tnot, evs_nil, cCo2_e, cCo1_e, evs_cons, evO_absent, cO_e, evO_tru, cDs_e, evL_dsp, cCt_e, evL_cat, cRp_e, evL_rep, cP2_e, cP1_e, evL_slp, lOk_e, cLo_e, evL_lof, cLc_e, evL_lc, iOk_e, cIt_e, evI_itm, cR1_e, evI_rng1, cR3_i, cR2_e, evI_rng2, cEn_e, evI_enu, cZ2_e, cZ1_e, evI_zip2, ex_nil, ex_pass, cSeq_n, cSeq_r, cSeq_b, ex_seq, cSet_e, ex_set, eOk_e, cSt_e, ex_setT, nxR_e, cSA2_e, cSA1_e, ex_setA, cSI3_e, cSI2_e, cSI1_e, ex_setI, cEx_e, ex_ex, cRet_e, ex_ret, ex_retN, ex_brk, cIf_t, cIf_f, ex_ife, cFor_e, ex_for, fin_ret, fin_nx, enK_e, idP_e, cIdn_e, ev_idn, popK_e, popz_e, ev_popz, ev_dem, cCalS_e, ev_cals, cMtS2_e, cMtS1_e, ev_mths, cMkS_e, ev_mks, smK_e, cSm_e, evL_sml, cRd3_i, cRd2_e, evI_rngd, cAu1_e, auP_e, ex_aug, aug_add, aug_sub, aaQ_e, cAA4_e, cAA3_e, cAA2_e, aaP_e, cAA1_e, ex_augA, cAI5_e, cAI4_e, cAI3_e, cAI2_e, cAI1_e, ex_augI, bind_ok, bind_bad, bind_exc, Lp.start, Gstr, Ggco, gc, GCD, setE, bin_add, bin_sub, cmpD, bRes, oRes, negD, truB_bl, truB_non, truB_int, isNon, bltD, blt1, blt2, eqB_int, eqB_str, eqB_bl, idx_tup, idx_lst, idx_arr, atI_0, atI_1, atI_2, atI_3, atI_4, atI_5, atI_6, atI_7, atI_8, atI_9, atI_10, atI_11,  slcT_1, slcT_2, slcT_21, inB_tup, inB_arr, inB_lst, flatD, eqF, tx_beq, List.all_cons, List.all_nil, List.any_cons, List.any_nil, Bool.and_true, Bool.true_and, Bool.and_false, Bool.false_and, Bool.or_false, Bool.or_true, Bool.true_or, Bool.false_or, Nat.reduceBEq, wipeE, itm_tup, itm_lst, itm_arr, List.map_cons, List.map_nil, List.cons_append, List.nil_append, List.length_cons, List.length_nil, List.getElem?_cons_zero, List.getElem?_cons_succ, List.getElem?_nil, List.set_cons_zero, List.set_cons_succ, List.getD_cons_zero, List.getD_cons_succ, List.replicate_succ, List.replicate_zero, Nat.reduceAdd, Nat.reduceSub, Nat.zero_add, Option.map_some, Option.map_none, Bool.not_true, Bool.not_false, ite_true, ite_false, if_true, if_false, reduceCtorEq, decide_true, decide_false, decide_eq_true_eq, tx_dec, Bool.false_eq_true, Nat.reduceEqDiff, Nat.reduceLT, Nat.reduceLeDiff, line_ok, line_lt, lcG_s, lcG_0, lcG_n, lcX_n, lcX_s, lcB_s, lcC_t, lcC_f, lcE_o, bindG_1, id_eq, nc_0, nc_1, nc_2, nc_3, nc_4, nc_5, nc_6, nc_7, nc_8, nc_9, nc_10, nc_11, nc_12,  Int.reduceEq, Int.reduceLT, Int.reduceLE, Int.reduceNeg, Int.reduceAdd, Int.reduceSub, Int.reduceMul, Option.bind_some, dInts_1, dInts_2, minL_1, minL_2, List.sum_cons, List.sum_nil, Int.add_zero, lenO, asS, asL, asM, idx_nl, inB_nl, itm_nl, wk_non, wk_bl, wk_int, wk_str, wk_ref, wk_tup, wk_lst, wk_nl, wk_arr, wk_ins, wk_no, wk_dic, wks_nil, wks_cons, wkf_nil, wkf_cons, wkk_nil, wkk_cons, wks_ints] $[$loc]?)
mutual
theorem Vk.det {M : Store} {pk : List Nat} (nd : pk.Nodup) : ∀ {d x y : D}, Vk M pk d x → Vk M pk d y → x = y
  | _, _, _, .non, .non => rfl
  | _, _, _, .bl _, .bl _ => rfl
  | _, _, _, .int _, .int _ => rfl
  | _, _, _, .str _, .str _ => rfl
  | _, _, _, .tup h, .tup q => by rw [h.det nd q]
  | _, _, _, .lst h, .lst q => by rw [h.det nd q]
  | _, _, _, .arr h, .arr q => by rw [h.det nd q]
  | _, _, _, .ins h, .ins q => by rw [h.det nd q]
  | _, _, _, .dic h, .dic q => by rw [h.det nd q]
  | _, _, _, .nl h, .nl q => by rw [h.det nd q]
  | _, _, _, .no h, .no q => by rw [h.det nd q]
  | _, _, _, .ref h, .ref q => by
    obtain ⟨i, e⟩ := List.getElem?_eq_some_iff.mp h
    obtain ⟨j, e2⟩ := List.getElem?_eq_some_iff.mp q
    have := (List.getElem_inj nd).mp (e.trans e2.symm)
    rw [this]
  | _, _, _, .ref h, .rlst n _ _ => absurd (List.mem_of_getElem? h) n
  | _, _, _, .ref h, .rins n _ _ => absurd (List.mem_of_getElem? h) n
  | _, _, _, .ref h, .rdic n _ _ => absurd (List.mem_of_getElem? h) n
  | _, _, _, .rlst n _ _, .ref h => absurd (List.mem_of_getElem? h) n
  | _, _, _, .rins n _ _, .ref h => absurd (List.mem_of_getElem? h) n
  | _, _, _, .rdic n _ _, .ref h => absurd (List.mem_of_getElem? h) n
  | _, _, _, .rlst _ e h, .rlst _ e2 q => by rw [e] at e2; cases e2; rw [h.det nd q]
  | _, _, _, .rlst _ e h, .rins _ e2 q => by rw [e] at e2; cases e2
  | _, _, _, .rlst _ e h, .rdic _ e2 q => by rw [e] at e2; cases e2
  | _, _, _, .rins _ e h, .rlst _ e2 q => by rw [e] at e2; cases e2
  | _, _, _, .rins _ e h, .rins _ e2 q => by rw [e] at e2; cases e2; rw [h.det nd q]
  | _, _, _, .rins _ e h, .rdic _ e2 q => by rw [e] at e2; cases e2
  | _, _, _, .rdic _ e h, .rlst _ e2 q => by rw [e] at e2; cases e2
  | _, _, _, .rdic _ e h, .rins _ e2 q => by rw [e] at e2; cases e2
  | _, _, _, .rdic _ e h, .rdic _ e2 q => by rw [e] at e2; cases e2; rw [h.det nd q]
theorem Vks.det {M : Store} {pk : List Nat} (nd : pk.Nodup) : ∀ {d x y : List D}, Vks M pk d x → Vks M pk d y → x = y
  | _, _, _, .nil, .nil => rfl
  | _, _, _, .cons h t, .cons q s => by rw [h.det nd q, t.det nd s]
theorem Vkf.det {M : Store} {pk : List Nat} (nd : pk.Nodup) : ∀ {d x y : List (Nat × D)}, Vkf M pk d x → Vkf M pk d y → x = y
  | _, _, _, .nil, .nil => rfl
  | _, _, _, .cons h t, .cons q s => by rw [h.det nd q, t.det nd s]
theorem Vkk.det {M : Store} {pk : List Nat} (nd : pk.Nodup) : ∀ {d x y : List (L2.Key × D)}, Vkk M pk d x → Vkk M pk d y → x = y
  | _, _, _, .nil, .nil => rfl
  | _, _, _, .cons h t, .cons q s => by rw [h.det nd q, t.det nd s]
end
mutual
theorem Fe.det {N : Store} {r : Nat → Option Nat} : ∀ {d x y : D}, Fe N r d x → Fe N r d y → x = y
  | _, _, _, .non, .non => rfl
  | _, _, _, .bl _, .bl _ => rfl
  | _, _, _, .int _, .int _ => rfl
  | _, _, _, .str _, .str _ => rfl
  | _, _, _, .tup h, .tup q => by rw [h.det q]
  | _, _, _, .nl h, .nl q => by rw [h.det q]
  | _, _, _, .no h, .no q => by rw [h.det q]
  | _, _, _, .ref h, .ref q => by rw [h] at q; cases q; rfl
  | _, _, _, .ref h, .lst n _ _ => by rw [n] at h; cases h
  | _, _, _, .ref h, .ins n _ _ => by rw [n] at h; cases h
  | _, _, _, .lst n _ _, .ref h => by rw [n] at h; cases h
  | _, _, _, .ins n _ _, .ref h => by rw [n] at h; cases h
  | _, _, _, .lst _ e h, .lst _ e2 q => by rw [e] at e2; cases e2; rw [h.det q]
  | _, _, _, .lst _ e h, .ins _ e2 q => by rw [e] at e2; cases e2
  | _, _, _, .ins _ e h, .lst _ e2 q => by rw [e] at e2; cases e2
  | _, _, _, .ins _ e h, .ins _ e2 q => by rw [e] at e2; cases e2; rw [h.det q]
theorem Fes.det {N : Store} {r : Nat → Option Nat} : ∀ {d x y : List D}, Fes N r d x → Fes N r d y → x = y
  | _, _, _, .nil, .nil => rfl
  | _, _, _, .cons h t, .cons q s => by rw [h.det q, t.det s]
theorem Fef.det {N : Store} {r : Nat → Option Nat} : ∀ {d x y : List (Nat × D)}, Fef N r d x → Fef N r d y → x = y
  | _, _, _, .nil, .nil => rfl
  | _, _, _, .cons h t, .cons q s => by rw [h.det q, t.det s]
end
mutual
theorem Vw.vk {M : Store} {pk : List Nat} : ∀ {d : D}, Vw [] d d → Vk M pk d d
  | _, .non => .non
  | _, .bl _ => .bl _
  | _, .int _ => .int _
  | _, .str _ => .str _
  | _, .tup h => .tup h.vk
  | _, .lst h => .lst h.vk
  | _, .arr h => .arr h.vk
  | _, .ins h => .ins h.vk
  | _, .dic h => .dic h.vk
theorem Vws.vk {M : Store} {pk : List Nat} : ∀ {d : List D}, Vws [] d d → Vks M pk d d
  | _, .nil => .nil
  | _, .cons h t => .cons h.vk t.vk
theorem Vwf.vk {M : Store} {pk : List Nat} : ∀ {d : List (Nat × D)}, Vwf [] d d → Vkf M pk d d
  | _, .nil => .nil
  | _, .cons h t => .cons h.vk t.vk
theorem Vwk.vk {M : Store} {pk : List Nat} : ∀ {d : List (L2.Key × D)}, Vwk [] d d → Vkk M pk d d
  | _, .nil => .nil
  | _, .cons h t => .cons h.vk t.vk
end
theorem Cl.vk {d : D} (h : Cl d) (M : Store) {pk : List Nat} : Vk M pk d d := (h.1 []).vk
theorem Cls.vk {d : List D} (h : Cls d) (M : Store) {pk : List Nat} : Vks M pk d d := (h.1 []).vk
theorem Fes.map {α : Type} {N : Store} {r : Nat → Option Nat} {f g : α → D} : ∀ {xs : List α}, (∀ x, x ∈ xs → Fe N r (f x) (g x)) → Fes N r (xs.map f) (xs.map g)
  | [], _ => .nil
  | x :: xs, h => .cons (h x List.mem_cons_self) (.map fun y hy => h y (List.mem_cons_of_mem _ hy))
theorem Fes.ints {N : Store} {r : Nat → Option Nat} (ns : List Int) : Fes N r (ns.map D.int) (ns.map D.int) := .map fun _ _ => .int _
theorem Fes.nats {N : Store} {r : Nat → Option Nat} (ns : List Nat) : Fes N r (natsD ns) (natsD ns) := .map fun _ _ => .int _
theorem Nd.fe {N : Store} {r : Nat → Option Nat} (nd : Nd) : Fe N r nd.d nd.d := by cases nd <;> (refine Fe.tup ?_; repeat' (first | exact Fes.nil | refine Fes.cons ?_ ?_ | exact Fe.int _ | exact Fe.str _))
theorem Fes.nds {N : Store} {r : Nat → Option Nat} (nds : List Nd) : Fes N r (nds.map Nd.d) (nds.map Nd.d) := .map fun _ _ => Nd.fe _
def boxO (rs : List Int) (a : Nat) : MO := .lst [.nl (rs.map D.int), .int (a : Int)]
theorem map_int_inj : ∀ {xs ys : List Int}, xs.map D.int = ys.map D.int → xs = ys
  | [], [], _ => rfl
  | [], _ :: _, h => by cases h
  | _ :: _, [], h => by cases h
  | x :: xs, y :: ys, h => by
    rw [List.map_cons, List.map_cons] at h
    injection h with h1 h2
    injection h1 with h1
    rw [h1, map_int_inj h2]
theorem boxO_inj {rs rs2 : List Int} {a a2 : Nat} (h : boxO rs a = boxO rs2 a2) : rs = rs2 ∧ a = a2 := by
  unfold boxO at h
  injection h with h
  injection h with h1 h2
  injection h1 with h1
  injection h2 with h2 _
  injection h2 with h2
  exact ⟨map_int_inj h1, by omega⟩
def Fb (N : Store) (d t : D) : Prop := ∀ r : Nat → Option Nat, r 0 ≠ none → (∀ j, 0 < j → r j = none) → Fe N r d t
def boxSp (ar : Nat) {α β : Type} (pre : α → Prop) (args : α → List D) (R : α → β → Prop) (res : β → D) : Spec :=
  ⟨ar, fun ds M => ∃ a l rs n ds', ds = .ref l :: ds' ∧ M[l]? = some (boxO rs n) ∧ pre a ∧ Vks M [l] ds' (args a),
   fun ds M r => ∀ a l rs n ds', ds = .ref l :: ds' → M[l]? = some (boxO rs n) → pre a → Vks M [l] ds' (args a) → ∃ n' y, R a y ∧ r = .ok (res y) (M.set l (boxO rs n'))⟩
theorem Ek.box {M : Store} {l n : Nat} {rs : List Int} (h : M[l]? = some (boxO rs n)) : Ek M [l] [boxO rs n] := by
  refine ⟨rfl, by simp, fun j k e => ?_⟩
  have hj : j = 0 := by
    have := (List.getElem?_eq_some_iff.mp e).1
    simpa using this
  subst hj
  have : l = k := by simpa using e
  subst this
  exact ⟨_, _, h, rfl, .lst (.cons (.nl ((Cls.ints rs).vk M)) (.cons (.int _) .nil))⟩
theorem rho_box0 {m l : Nat} : rho m [l] [] 0 = some l := rfl
theorem rho_box1 {m l j : Nat} (h : 0 < j) : rho m [l] [] j = none := by
  unfold rho
  rw [if_neg (by simp; omega)]
  rfl
theorem Xk.box {M N : Store} {l n n' : Nat} {rs : List Int} (h : M[l]? = some (boxO rs n)) : Xk M [l] (boxO rs n' :: N) [] (M.set l (boxO rs n')) := by
  refine ⟨by simp, fun j hj => absurd hj (by simp), by simp, fun k _ hk => ?_, fun j k e => ?_⟩
  · have : l ≠ k := fun z => hk (by simp [z])
    rw [List.getElem?_set_ne this]
  · have hj : j = 0 := by
      cases j with
      | zero => rfl
      | succ j => rw [rho_box1 (Nat.succ_pos j)] at e; cases e
    subst hj
    rw [rho_box0] at e
    cases e
    exact ⟨_, _, rfl, List.getElem?_set_self (List.getElem?_eq_some_iff.mp h).1, .lst (.cons (.nl (Fes.ints rs)) (.cons (.int _) .nil))⟩
section
variable {T : Tb} {φ : Fn} {ar : Nat} {α β : Type} {pre : α → Prop} {args : α → List D} {R : α → β → Prop} {res : β → D}
theorem box_shows (h : ∀ a, pre a → ∀ rs n, ∃ n' y d N, R a y ∧ φ (.ref 0 :: args a) [boxO rs n] = .ok d (boxO rs n' :: N) ∧ Fb (boxO rs n' :: N) d (res y)) : Shows T (boxSp ar pre args R res) φ := by
  rintro ds M hl ⟨a, l, rs, n, ds', rfl, hb, pa, va⟩
  obtain ⟨n', y, d, N, h1, h2, h3⟩ := h a pa rs n
  have f3 := h3 (rho M.length [l] []) (by rw [rho_box0]; exact fun z => by cases z) fun j hj => rho_box1 hj
  refine ⟨_, Ent.keep (Ek.box hb) (.cons (.ref rfl) va) h2 (Xk.box hb) f3, ?_⟩
  rintro b l2 rs2 n2 ds2 e2 hb2 pb vb
  injection e2 with e3 e4
  injection e3 with e3
  subst e3 e4
  rw [hb] at hb2
  obtain ⟨e5, e6⟩ := boxO_inj (Option.some.inj hb2)
  subst e5 e6
  obtain ⟨n2', y2, d2, N2, g1, g2, g3⟩ := h b pb rs n
  have e := va.det (by simp) vb
  rw [← e, h2] at g2
  injection g2 with g2 g4
  injection g4 with g4 g5
  subst g2 g5
  obtain ⟨_, e7⟩ := boxO_inj g4
  subst e7
  have f4 := g3 (rho M.length [l] []) (by rw [rho_box0]; exact fun z => by cases z) fun j hj => rho_box1 hj
  rw [f3.det f4]
  exact ⟨n', y2, g1, rfl⟩
theorem box_call (m : Meets (boxSp ar pre args R res) φ) {l n : Nat} {rs : List Int} {ds : List D} {M : Store} (hl : (D.ref l :: ds).length = ar) (a : α) (pa : pre a) (hb : M[l]? = some (boxO rs n)) (va : Vks M [l] ds (args a)) :
    ∃ n' y, R a y ∧ φ (.ref l :: ds) M = .ok (res y) (M.set l (boxO rs n')) := m _ M hl ⟨a, l, rs, n, ds, rfl, hb, pa, va⟩ a l rs n ds rfl hb pa va
end
def drw (rs : List Int) (a : Nat) (m : Int) : Int := (if a < rs.length then rs.getD a 0 else (a : Int) * 5 + 1) % m
theorem drw_lt {rs : List Int} {a : Nat} {m : Int} (h : 0 < m) : 0 ≤ drw rs a m ∧ drw rs a m < m := ⟨Int.emod_nonneg _ (by omega), Int.emod_lt_of_pos _ h⟩
theorem drw_nat (rs : List Int) (a : Nat) {m : Nat} (h : 0 < m) : ∃ k : Nat, k < m ∧ drw rs a m = (k : Int) := by
  obtain ⟨h1, h2⟩ := drw_lt (rs := rs) (a := a) (m := m) (by omega)
  exact ⟨(drw rs a m).toNat, by omega, by omega⟩
def Sp_law_draw : Spec := ⟨2, fun ds M => ∃ l rs n m, ds = [.ref l, .int m] ∧ 0 < m ∧ M[l]? = some (boxO rs n),
  fun ds M r => ∀ l rs n m, ds = [.ref l, .int m] → 0 < m → M[l]? = some (boxO rs n) → r = .ok (.int (drw rs n m)) (M.set l (boxO rs (n + 1)))⟩
class H_law_draw (G : Gm) : Prop where m : Meets Sp_law_draw (G.fn 45)
theorem c_law_draw {G : Gm} [H : H_law_draw G] {l n : Nat} {rs : List Int} {m : Int} {M : Store} (hm : 0 < m) (hb : M[l]? = some (boxO rs n)) : G.fn 45 [.ref l, .int m] M = .ok (.int (drw rs n m)) (M.set l (boxO rs (n + 1))) :=
  H.m [.ref l, .int m] M rfl ⟨l, rs, n, m, rfl, hm, hb⟩ l rs n m rfl hm hb
theorem d_law_draw {G : Gm} [H : H_law_draw G] {n : Nat} {rs : List Int} {m : Nat} (N : Store) (hm : 0 < m) : ∃ k : Nat, k < m ∧ G.fn 45 [.ref 0, .int (m : Int)] (boxO rs n :: N) = .ok (.int (k : Int)) (boxO rs (n + 1) :: N) := by
  obtain ⟨k, h1, h2⟩ := drw_nat rs n hm
  refine ⟨k, h1, ?_⟩
  rw [c_law_draw (n := n) (rs := rs) (by omega) rfl, h2] <;> rfl
theorem asL_box {M : Store} {l a : Nat} {rs : List Int} (h : M[l]? = some (boxO rs a)) : asL M (.ref l) = some [.nl (rs.map D.int), .int (a : Int)] := by simp only [asL, asM, h, boxO]
theorem sh_law_draw {T : Tb} {G : Gm} [Gl G] : Shows T Sp_law_draw (runF G b_law_draw 3) := by
  rintro ds M hl ⟨l, rs, a, m, rfl, hm, hb⟩
  have hlt : l < M.length := (List.getElem?_eq_some_iff.mp hb).1
  have hb' : (M.set l (boxO rs (a + 1)))[l]? = some (boxO rs (a + 1)) := List.getElem?_set_self hlt
  have a1 : asL M (.ref l) = some [.nl (rs.map D.int), .int (a : Int)] := asL_box hb
  have a2 : asL (M.set l (boxO rs (a + 1))) (.ref l) = some [.nl (rs.map D.int), .int ((a + 1 : Nat) : Int)] := asL_box hb'
  have i1 : idxD (.ref l) (.int 1) M = .ok (.int (a : Int)) M := by rw [idx_asL a1, atI_1] <;> rfl
  have i2 : idxD (.ref l) (.int 0) (M.set l (boxO rs (a + 1))) = .ok (.nl (rs.map D.int)) (M.set l (boxO rs (a + 1))) := by rw [idx_asL a2, atI_0] <;> rfl
  have p1 : putI (.ref l) (.int 1) (.int ((a + 1 : Nat) : Int)) M = some (M.set l (boxO rs (a + 1))) := by
    simp only [putI, hb, boxO]
    rfl
  have run : runF G b_law_draw 3 [.ref l, .int m] M = .ok (.int (drw rs a m)) (M.set l (boxO rs (a + 1))) := by
    by_cases h : a < rs.length
    · have h' : ((a : Int) < (rs.length : Int)) = True := eq_true (by omega)
      have i3 := idx_nl_ints (ws := rs) (M := M.set l (boxO rs (a + 1))) (p := a) h
      simp?! [b_law_draw, i1, succ_nat, p1, i2, len_nl, List.length_map, h', i3, bi_int, bin_mod hm]
      simp only [drw, if_pos h]
    · have h' : ((a : Int) < (rs.length : Int)) = False := eq_false (by omega)
      simp?! [b_law_draw, i1, succ_nat, p1, i2, len_nl, List.length_map, h', bi_int, bin_mul (mul_okR (x := (a : Int)) (y := 5) (by decide)), bin_mod hm]
      simp only [drw, if_neg h]
  refine ⟨_, Ent.of run, ?_⟩
  rintro l2 rs2 n2 m2 e hm2 hb2
  injection e with e1 e2
  injection e1 with e1
  injection e2 with e2
  injection e2 with e2
  subst e1 e2
  rw [hb] at hb2
  obtain ⟨e5, e6⟩ := boxO_inj (Option.some.inj hb2)
  subst e5 e6
  rfl
def exSp (ar : Nat) {α β : Type} (pre : α → Prop) (args : α → List D) (res : β → D) : Spec :=
  ⟨ar, fun ds M => ∃ a, pre a ∧ Vws M ds (args a), fun ds M r => ∃ y, r = .ok (res y) M⟩
def Sp_law_cell : Spec := pureSp 2 (α := (List Int) × (Nat)) (fun | (ns, i) => True) (fun | (ns, i) => [.arr (ns.map D.int), natD i]) (fun | (ns, i) => (.val (.int (ns.getD i 0))))
class H_law_cell (G : Gm) : Prop where m : Meets Sp_law_cell (G.fn 34)
theorem v_law_cell {G : Gm} [H : H_law_cell G] (ns : List Int) (i : Nat) {ds : List D} {M : Store} (v : Vws M ds [.arr (ns.map D.int), natD i]) (hl : ds.length = 2 := by rfl) : G.fn 34 ds M = Res.ok (.int (ns.getD i 0)) M := pure_call H.m hl (ns, i) trivial v
theorem c_law_cell {G : Gm} [H : H_law_cell G] (ns : List Int) (i : Nat) (M : Store) : G.fn 34 [.arr (ns.map D.int), natD i] M = Res.ok (.int (ns.getD i 0)) M := by
  have q : Cls [.arr (ns.map D.int), natD i] := by (repeat' (first | exact Cls.nil | exact Clf.nil | exact Clk.nil | refine Clk.cons ?_ ?_ | refine Cl.dic ?_ | refine Cls.cons ?_ ?_ | refine Clf.cons ?_ ?_ | exact Cl.int _ | exact Cl.bl _ | exact Cl.non | exact Cl.str _ | exact Cls.ints _ | assumption | exact Nd.cl _ | exact Cls.nds _ | exact Cls.nats _ | exact Cl.st _ | exact Cl.bd _ | exact Cls.bds _ | exact Cls.rows _ | exact Cl.grf _ | exact Cl.enc _ | refine Cl.tup ?_ | refine Cl.lst ?_ | refine Cl.arr ?_ | refine Cl.ins ?_ | refine Cls.map (fun _ => ?_) _))
  exact v_law_cell ns i (q.1 M)
theorem r_law_cell {G : Gm} [Gl G] (ns : List Int) (i : Nat) : Runs (runF G b_law_cell 2) [.arr (ns.map D.int), natD i] ((.val (.int (ns.getD i 0)))) := by
  refine Runs.int ?_
  have len : bltD .len [.arr (ns.map D.int)] [] = .ok (.int (ns.length : Int)) [] := by rw [blt_len rfl, List.length_map]
  by_cases h : i < ns.length
  · have h' : ((i : Int) < (ns.length : Int)) = True := eq_true (by omega)
    have i1 := idx_ints (M := []) (a := .arr (ns.map D.int)) (p := i) rfl h
    simp?! [b_law_cell, len, h', i1]
  · have h' : ((i : Int) < (ns.length : Int)) = False := eq_false (by omega)
    have e : ns.getD i 0 = 0 := by rw [List.getD_eq_getElem?_getD, List.getElem?_eq_none (by omega)] <;> rfl
    simp?! [b_law_cell, len, h', e]
theorem sh_law_cell {T : Tb} {G : Gm} [Gl G] : Shows T Sp_law_cell (runF G b_law_cell 2) := pure_shows (fun | (ns, i), h => r_law_cell ns i)
def Sp_law_row : Spec := exSp 3 (α := List Int × Nat × Nat) (β := List Int) (fun | (_, a, b) => a ≤ 1000 ∧ b ≤ 1000) (fun | (ns, a, b) => [.arr (ns.map D.int), natD a, natD b]) (fun rs => .nl (rs.map D.int))
class H_law_row (G : Gm) : Prop where m : Meets Sp_law_row (G.fn 106)
theorem c_law_row {G : Gm} [H : H_law_row G] (ns : List Int) {a b : Nat} (ha : a ≤ 1000) (hb : b ≤ 1000) (M : Store) : ∃ rs : List Int, G.fn 106 [.arr (ns.map D.int), natD a, natD b] M = .ok (.nl (rs.map D.int)) M := by
  have q : Cls [.arr (ns.map D.int), natD a, natD b] := by (repeat' (first | exact Cls.nil | exact Clf.nil | exact Clk.nil | refine Clk.cons ?_ ?_ | refine Cl.dic ?_ | refine Cls.cons ?_ ?_ | refine Clf.cons ?_ ?_ | exact Cl.int _ | exact Cl.bl _ | exact Cl.non | exact Cl.str _ | exact Cls.ints _ | assumption | exact Nd.cl _ | exact Cls.nds _ | exact Cls.nats _ | exact Cl.st _ | exact Cl.bd _ | exact Cls.bds _ | exact Cls.rows _ | exact Cl.grf _ | exact Cl.enc _ | refine Cl.tup ?_ | refine Cl.lst ?_ | refine Cl.arr ?_ | refine Cl.ins ?_ | refine Cls.map (fun _ => ?_) _))
  exact H.m [.arr (ns.map D.int), natD a, natD b] M rfl ⟨(ns, a, b), ⟨ha, hb⟩, q.1 M⟩
abbrev row1 (rs : List Int) : Store := [.lst (rs.map D.int)]
theorem row_app {rs : List Int} {x : Int} (h : rs.length ≤ 100000) : appK 0 (.int x) (some (.lst (rs.map D.int))) (row1 rs) = .ok .non (row1 (rs ++ [x])) := by
  have hz : (rs.map D.int).length < sizeLine := by rw [List.length_map]; exact line_lt' h
  rw [appK_e, if_pos hz]
  show _ = Res.ok D.non [MO.lst ((rs ++ [x]).map D.int)]
  rw [List.map_append] <;> rfl
theorem law_row2 {G : Gm} [Gl G] (e0 e1 e2 : Option D) (k : Int) (c : Int) (rs : List Int) (y : Option D) (hr : rs.length ≤ 90000) :
    ∃ (rs' : List Int) (c' : Int) (y' : Option D), rs'.length ≤ rs.length + 60 ∧ forGo (rngI 0 60) [6] (exec G b_law_row_L2) 60 0
      [e0, e1, e2, some (.ref 0), some (.int k), some (.int c), y] (row1 rs) = .ok (.nx [e0, e1, e2, some (.ref 0), some (.int k), some (.int c'), y']) (row1 rs') := by
  have key := for_all (J := rngI 0 60) (tg := [6]) (b := exec G b_law_row_L2) (n := 60) (it := fun i => .int (0 + i))
    (fun i env M' => ∃ (rs' : List Int) (c' : Int) (y' : Option D), rs'.length ≤ rs.length + i ∧ env = [e0, e1, e2, some (.ref 0), some (.int k), some (.int c'), y'] ∧ M' = row1 rs') (fun i env M' h => rng_nx)
    (fun i env M' hi h => by
      obtain ⟨rs', c', y', h1, rfl, rfl⟩ := h
      by_cases hc : 0 < c'
      · have hc' : (0 < c') = True := eq_true hc
        refine ⟨_, [e0, e1, e2, some (.ref 0), some (.int k), some (.int (c' / 840)), some (.int (0 + i))], row1 (rs' ++ [c' % 840]), rfl, ?_, rs' ++ [c' % 840], _, _, by simp; omega, rfl, rfl⟩
        simp?! [b_law_row_L2, hc', row_app (rs := rs') (x := c' % 840) (by omega), bi_int, bin_mod (i := c') (j := 840) (by decide), bin_div (i := c') (j := 840) (by decide)]
      · have hc' : (0 < c') = False := eq_false hc
        refine ⟨_, [e0, e1, e2, some (.ref 0), some (.int k), some (.int c'), some (.int (0 + i))], row1 rs', rfl, ?_, rs', _, _, by omega, rfl, rfl⟩
        simp?! [b_law_row_L2, hc'])
    (k := 60) (env := [e0, e1, e2, some (.ref 0), some (.int k), some (.int c), y]) (M := row1 rs) (by omega) ⟨rs, c, y, Nat.le_refl _, rfl, rfl⟩
  obtain ⟨env', M', h2, rs', c', y', h3, h4, h5⟩ := key
  subst h4 h5
  exact ⟨rs', c', y', h3, h2⟩
theorem law_row3 {G : Gm} [Gl G] (e0 e1 e2 : Option D) (k : Int) (c : Int) (rs : List Int) (y : Option D) (hr : rs.length ≤ 90000) :
    ∃ (rs' : List Int) (c' : Int) (y' : Option D), rs'.length ≤ rs.length + 60 ∧ forGo (rngI 0 10) [6] (exec G b_law_row_L3) 10 0
      [e0, e1, e2, some (.ref 0), some (.int k), some (.int c), y] (row1 rs) = .ok (.nx [e0, e1, e2, some (.ref 0), some (.int k), some (.int c'), y']) (row1 rs') := by
  have key := for_all (J := rngI 0 10) (tg := [6]) (b := exec G b_law_row_L3) (n := 10) (it := fun i => .int (0 + i))
    (fun i env M' => ∃ (rs' : List Int) (c' : Int) (y' : Option D), rs'.length ≤ rs.length + i ∧ env = [e0, e1, e2, some (.ref 0), some (.int k), some (.int c'), y'] ∧ M' = row1 rs') (fun i env M' h => rng_nx)
    (fun i env M' hi h => by
      obtain ⟨rs', c', y', h1, rfl, rfl⟩ := h
      refine ⟨_, [e0, e1, e2, some (.ref 0), some (.int k), some (.int ((c' * 69069 + 104729 * (k + (0 + (i : Int))) + 1) % 4294967291)), some (.int (0 + (i : Int)))], row1 (rs' ++ [(c' * 69069 + 104729 * (k + (0 + (i : Int))) + 1) % 4294967291 / 5003 % 840]), rfl, ?_, _, _, _, by simp; omega, rfl, rfl⟩
      simp?! [b_law_row_L3, row_app (rs := rs') (x := (c' * 69069 + 104729 * (k + (0 + (i : Int))) + 1) % 4294967291 / 5003 % 840) (by omega), bi_int, bin_mul (mul_okR (x := c') (y := 69069) (by decide)), bin_mul (mul_okL (x := k + (0 + (i : Int))) (y := 104729) (by decide)), bin_mod (i := c' * 69069 + 104729 * (k + (0 + (i : Int))) + 1) (j := 4294967291) (by decide), bin_mod (i := (c' * 69069 + 104729 * (k + (0 + (i : Int))) + 1) % 4294967291 / 5003) (j := 840) (by decide), bin_div (i := (c' * 69069 + 104729 * (k + (0 + (i : Int))) + 1) % 4294967291) (j := 5003) (by decide)])
    (k := 10) (env := [e0, e1, e2, some (.ref 0), some (.int k), some (.int c), y]) (M := row1 rs) (by omega) ⟨rs, c, y, Nat.le_refl _, rfl, rfl⟩
  obtain ⟨env', M', h2, rs', c', y', h3, h4, h5⟩ := key
  subst h4 h5
  exact ⟨rs', c', y', by omega, h2⟩
theorem law_row_run {G : Gm} [Gl G] [H_law_cell G] (ns : List Int) (a b : Nat) (ha : a ≤ 1000) (hb : b ≤ 1000) : ∃ rs : List Int, runF G b_law_row 7 [.arr (ns.map D.int), natD a, natD b] [] = .ok (.ref 0) (row1 rs) := by
  have key := for_all (J := rngI (a : Int) (b - a)) (tg := [4]) (b := exec G b_law_row_L1) (n := b - a) (it := fun i => .int ((a : Int) + i))
    (fun i env M' => ∃ (rs : List Int) (y4 y5 y6 : Option D), rs.length ≤ 60 * i ∧ env = [some (.arr (ns.map D.int)), some (.int (a : Int)), some (.int (b : Int)), some (.ref 0), y4, y5, y6] ∧ M' = row1 rs) (fun i env M' h => rng_nx)
    (fun i env M' hi hp => by
      obtain ⟨rs, y4, y5, y6, h1, rfl, rfl⟩ := hp
      have ea : (a : Int) + (i : Int) = ((a + i : Nat) : Int) := by omega
      rw [ea]
      have hv := c_law_cell (G := G) ns (a + i) (row1 rs)
      generalize ns.getD (a + i) 0 = v at hv
      have hw : wks [.arr (ns.map D.int), natD (a + i)] = [.arr (ns.map D.int), natD (a + i)] := by simp? [natD]
      obtain ⟨c, hc⟩ : ∃ c : Int, (if 2 * v < 0 then -(2 * v) else 2 * v) + (if v < 0 then 1 else 0) = c := ⟨_, rfl⟩
      have hpow : binD .Pow (.int 10) (.int 18) (row1 rs) = .ok (.int (10 ^ (18 : Int).toNat)) (row1 rs) := bin_pow (by decide)
      obtain ⟨r1, c1, z1, l1, q1⟩ := law_row2 (G := G) (some (.arr (ns.map D.int))) (some (.int (a : Int))) (some (.int (b : Int))) ((a + i : Nat) : Int) c rs y6 (by omega)
      obtain ⟨r2, c2, z2, l2, q2⟩ := law_row3 (G := G) (some (.arr (ns.map D.int))) (some (.int (a : Int))) (some (.int (b : Int))) ((a + i : Nat) : Int) c rs y6 (by omega)
      have sm : small 60 := by decide
      have nt : (60 : Int).toNat = 60 := rfl
      have sm2 : small 10 := by decide
      have nt2 : (10 : Int).toNat = 10 := rfl
      by_cases hg : (10 : Int) ^ (18 : Int).toNat < c
      · have hg' : ((10 : Int) ^ (18 : Int).toNat < c) = True := eq_true hg
        refine ⟨_, [some (.arr (ns.map D.int)), some (.int (a : Int)), some (.int (b : Int)), some (.ref 0), some (.int ((a + i : Nat) : Int)), some (.int c1), z1], row1 r1, rfl, ?_, r1, _, _, _, by omega, rfl, rfl⟩
        simp?! [b_law_row_L1, hv, bin_mul (mul_okL (x := v) (y := 2) (by decide)), bi_abs, bi_bl, hc, hpow, hg', if_pos sm, nt, rng_n, q1]
      · have hg' : ((10 : Int) ^ (18 : Int).toNat < c) = False := eq_false hg
        refine ⟨_, [some (.arr (ns.map D.int)), some (.int (a : Int)), some (.int (b : Int)), some (.ref 0), some (.int ((a + i : Nat) : Int)), some (.int c2), z2], row1 r2, rfl, ?_, r2, _, _, _, by omega, rfl, rfl⟩
        simp?! [b_law_row_L1, hv, bin_mul (mul_okL (x := v) (y := 2) (by decide)), bi_abs, bi_bl, hc, hpow, hg', if_pos sm2, nt2, rng_n, q2])
    (k := b - a) (env := [some (.arr (ns.map D.int)), some (.int (a : Int)), some (.int (b : Int)), some (.ref 0), none, none, none]) (M := [MO.lst []]) (by omega) ⟨[], _, _, _, by simp, rfl, rfl⟩
  obtain ⟨env', M', h2, rs, y4, y5, y6, h3, h4, h5⟩ := key
  subst h4 h5
  have sm : small (a : Int) ∧ small (b : Int) := ⟨small_nat (by omega), small_nat (by omega)⟩
  have nt : ((b : Int) - (a : Int)).toNat = b - a := by omega
  exact ⟨rs, by simp?! [b_law_row, if_pos sm, nt, rng_n, h2]⟩
theorem sh_law_row {T : Tb} {G : Gm} [Gl G] [H_law_cell G] : Shows T Sp_law_row (runF G b_law_row 7) := by
  rintro ds M hl ⟨⟨ns, a, b⟩, ⟨ha, hb⟩, v⟩
  obtain ⟨rs, h⟩ := law_row_run (G := G) ns a b ha hb
  exact ⟨_, Ent.pure v h (Ff.lst List.not_mem_nil rfl (Ffs.ints rs)), rs, rfl⟩
end Lp

namespace Lp
open PySem
local macro_rules | `(tactic| simp? [$args,*] $[$loc]?) => `(tactic| simp -implicitDefEqProofs only [$args,*, runF, natD, natsD, vOk_e, ev_var, ev_non, ev_bl, ev_int, ev_str, ev_gco, cB1_e, ev_bin, ev_neg, cC1_e, ev_cmp, cH3_t, cH3_f, cH2_e, cH1_e, ev_chn, cAnd_t, cAnd_f, ev_andv, cOr_t, cOr_f, ev_orv, cNot_e, ev_notv, cIfe_t, cIfe_f, ev_ife, cI1_e, ev_idx, cS2_e, cS1_e, ev_slt, cAt_e, ev_att, ev_call, cCall_e, cM2_e, cM1_e, ev_mth, mkK_e, cMk_e, ev_mk, ev_blt, cIs_e, ev_isi, appK_e, cA2_e, appP_e, cA1_e, ev_app, cTup_e, ev_tup, cFz_e, ev_fz, cFr_e, ev_fr, cMu_e, ev_mu, bOk_e, cTru_e, evT_tru, cTa_t, cTa_f, evT_tand, cTo_t, cTo_f, evT_tor, cTn_e, evT_tnot, evs_nil, cCo2_e, cCo1_e, evs_cons, evO_absent, cO_e, evO_tru, cDs_e, evL_dsp, cCt_e, evL_cat, cRp_e, evL_rep, cP2_e, cP1_e, evL_slp, lOk_e, cLo_e, evL_lof, cLc_e, evL_lc, iOk_e, cIt_e, evI_itm, cR1_e, evI_rng1, cR3_i, cR2_e, evI_rng2, cEn_e, evI_enu, cZ2_e, cZ1_e, evI_zip2, ex_nil, ex_pass, cSeq_n, cSeq_r, cSeq_b, ex_seq, cSet_e, ex_set, eOk_e, cSt_e, ex_setT, nxR_e, cSA2_e, cSA1_e, ex_setA, cSI3_e, cSI2_e, cSI1_e, ex_setI, cEx_e, ex_ex, cRet_e, ex_ret, ex_retN, ex_brk, cIf_t, cIf_f, ex_ife, cFor_e, ex_for, fin_ret, fin_nx, enK_e, idP_e, cIdn_e, ev_idn, popK_e, popz_e, ev_popz, ev_dem, cCalS_e, ev_cals, cMtS2_e, cMtS1_e, ev_mths, cMkS_e, ev_mks, smK_e, cSm_e, evL_sml, cRd3_i, cRd2_e, evI_rngd, cAu1_e, auP_e, ex_aug, aug_add, aug_sub, aaQ_e, cAA4_e, cAA3_e, cAA2_e, aaP_e, cAA1_e, ex_augA, cAI5_e, cAI4_e, cAI3_e, cAI2_e, cAI1_e, ex_augI, bind_ok, bind_bad, bind_exc, Lp.start, Gstr, Ggco, gc, GCD, setE, bin_add, bin_sub, cmpD, bRes, oRes, negD, truB_bl, truB_non, truB_int, isNon, bltD, blt1, blt2, eqB_int, eqB_str, eqB_bl, idx_tup, idx_lst, idx_arr, atI_0, atI_1, atI_2, atI_3, atI_4, atI_5, atI_6, atI_7, atI_8, atI_9, atI_10, atI_11,  slcT_1, slcT_2, slcT_21, inB_tup, inB_arr, inB_lst, flatD, eqF, tx_beq, List.all_cons, List.all_nil, List.any_cons, List.any_nil, Bool.and_true, Bool.true_and, Bool.and_false, Bool.false_and, Bool.or_false, Bool.or_true, Bool.true_or, Bool.false_or, Nat.reduceBEq, wipeE, itm_tup, itm_lst, itm_arr, List.map_cons, List.map_nil, List.cons_append, List.nil_append, List.length_cons, List.length_nil, List.getElem?_cons_zero, List.getElem?_cons_succ, List.getElem?_nil, List.set_cons_zero, List.set_cons_succ, List.getD_cons_zero, List.getD_cons_succ, List.replicate_succ, List.replicate_zero, Nat.reduceAdd, Nat.reduceSub, Nat.zero_add, Option.map_some, Option.map_none, Bool.not_true, Bool.not_false, ite_true, ite_false, if_true, if_false, reduceCtorEq, decide_true, decide_false, decide_eq_true_eq, tx_dec, Bool.false_eq_true, Nat.reduceEqDiff, Nat.reduceLT, Nat.reduceLeDiff, line_ok, line_lt, lcG_s, lcG_0, lcG_n, lcX_n, lcX_s, lcB_s, lcC_t, lcC_f, lcE_o, bindG_1, id_eq, nc_0, nc_1, nc_2, nc_3, nc_4, nc_5, nc_6, nc_7, nc_8, nc_9, nc_10, nc_11, nc_12,  Int.reduceEq, Int.reduceLT, Int.reduceLE, Int.reduceNeg, Int.reduceAdd, Int.reduceSub, Int.reduceMul, Option.bind_some, dInts_1, dInts_2, minL_1, minL_2, List.sum_cons, List.sum_nil, Int.add_zero, lenO, asS, asL, asM, idx_nl, inB_nl, itm_nl, wk_non, wk_bl, wk_int, wk_str, wk_ref, wk_tup, wk_lst, wk_nl, wk_arr, wk_ins, wk_no, wk_dic, wks_nil, wks_cons, wkf_nil, wkf_cons, wkk_nil, wkk_cons, wks_ints] $[$loc]?)
def Sp_law_inputs : Spec := pureSp 1 (α := (Nd)) (fun nd => True) (fun nd => [nd.d]) (fun nd => (.val (.nl (natsD nd.ins))))
class H_law_inputs (G : Gm) : Prop where m : Meets Sp_law_inputs (G.fn 61)
theorem v_law_inputs {G : Gm} [H : H_law_inputs G] (nd : Nd) {ds : List D} {M : Store} (v : Vws M ds [nd.d]) (hl : ds.length = 1 := by rfl) : G.fn 61 ds M = Res.ok (.nl (natsD nd.ins)) M := pure_call H.m hl nd trivial v
theorem c_law_inputs {G : Gm} [H : H_law_inputs G] (nd : Nd) (M : Store) : G.fn 61 [nd.d] M = Res.ok (.nl (natsD nd.ins)) M := by
  have q : Cls [nd.d] := by (repeat' (first | exact Cls.nil | exact Clf.nil | exact Clk.nil | refine Clk.cons ?_ ?_ | refine Cl.dic ?_ | refine Cls.cons ?_ ?_ | refine Clf.cons ?_ ?_ | exact Cl.int _ | exact Cl.bl _ | exact Cl.non | exact Cl.str _ | exact Cls.ints _ | assumption | exact Nd.cl _ | exact Cls.nds _ | exact Cls.nats _ | exact Cl.st _ | exact Cl.bd _ | exact Cls.bds _ | exact Cls.rows _ | exact Cl.grf _ | exact Cl.enc _ | refine Cl.tup ?_ | refine Cl.lst ?_ | refine Cl.arr ?_ | refine Cl.ins ?_ | refine Cls.map (fun _ => ?_) _))
  exact v_law_inputs nd (q.1 M)
theorem r_law_inputs {G : Gm} [Gl G] (nd : Nd) : Runs (runF G b_law_inputs 1) [nd.d] ((.val (.nl (natsD nd.ins)))) := by
  cases nd <;> (refine Runs.new0 (xs := natsD (Nd.ins _)) (N := []) ?_ (Ffs.nats _); simp? [b_law_inputs, Nd.d, Nd.ins])
theorem sh_law_inputs {T : Tb} {G : Gm} [Gl G] : Shows T Sp_law_inputs (runF G b_law_inputs 1) := pure_shows (fun | nd, h => r_law_inputs nd)
def Sp_law_width : Spec := pureSp 2 (α := (List Int) × (Nd)) (fun | (ws, nd) => InsOk nd ws.length ∧ nd.par ) (fun | (ws, nd) => [.lst (ws.map D.int), nd.d]) (fun | (ws, nd) => (.val (.int (nd.w ws))))
class H_law_width (G : Gm) : Prop where m : Meets Sp_law_width (G.fn 126)
theorem v_law_width {G : Gm} [H : H_law_width G] (ws : List Int) (nd : Nd) (h : InsOk nd ws.length ∧ nd.par ) {ds : List D} {M : Store} (v : Vws M ds [.lst (ws.map D.int), nd.d]) (hl : ds.length = 2 := by rfl) : G.fn 126 ds M = Res.ok (.int (nd.w ws)) M := pure_call H.m hl (ws, nd) h v
theorem c_law_width {G : Gm} [H : H_law_width G] (ws : List Int) (nd : Nd) (h : InsOk nd ws.length ∧ nd.par ) (M : Store) : G.fn 126 [.lst (ws.map D.int), nd.d] M = Res.ok (.int (nd.w ws)) M := by
  have q : Cls [.lst (ws.map D.int), nd.d] := by (repeat' (first | exact Cls.nil | exact Clf.nil | exact Clk.nil | refine Clk.cons ?_ ?_ | refine Cl.dic ?_ | refine Cls.cons ?_ ?_ | refine Clf.cons ?_ ?_ | exact Cl.int _ | exact Cl.bl _ | exact Cl.non | exact Cl.str _ | exact Cls.ints _ | assumption | exact Nd.cl _ | exact Cls.nds _ | exact Cls.nats _ | exact Cl.st _ | exact Cl.bd _ | exact Cls.bds _ | exact Cls.rows _ | exact Cl.grf _ | exact Cl.enc _ | refine Cl.tup ?_ | refine Cl.lst ?_ | refine Cl.arr ?_ | refine Cl.ins ?_ | refine Cls.map (fun _ => ?_) _))
  exact v_law_width ws nd h (q.1 M)
theorem r_law_width {G : Gm} [Gl G] [H_law_inputs G] (ws : List Int) (nd : Nd) (h : InsOk nd ws.length ∧ nd.par ) : Runs (runF G b_law_width 2) [.lst (ws.map D.int), nd.d] ((.val (.int (nd.w ws)))) := by
  obtain ⟨hi, hp⟩ := h
  refine Runs.int ?_
  have h5 := c_law_inputs (G := G) nd
  have i1 := fun p hp => idx_ints' (ws := ws) (p := p) (M := []) (hi p hp)
  cases nd <;> simp -implicitDefEqProofs only [Nd.d, Nd.ins, List.mem_cons, List.not_mem_nil, or_false, forall_eq_or_imp, forall_eq, List.map_cons, List.map_nil] at h5 i1 <;> first | (simp? [b_law_width, Nd.d, Nd.w, h5, i1, bin_mul (mul_ok hp.2)]; done) | (simp? [b_law_width, Nd.d, Nd.w, h5, i1]; done)
theorem sh_law_width {T : Tb} {G : Gm} [Gl G] [H_law_inputs G] : Shows T Sp_law_width (runF G b_law_width 2) := pure_shows (fun | (ws, nd), h => r_law_width ws nd h)
theorem win_len (a n : Int) : a - (n - 1) = a - n + 1 := by omega
theorem dInts_1' {a : Int} : dInts [.int a] = some [a] := rfl
def Sp_law_length : Spec := pureSp 2 (α := (List Int) × (Nd)) (fun | (ls, nd) => InsOk nd ls.length ) (fun | (ls, nd) => [.lst (ls.map D.int), nd.d]) (fun | (ls, nd) => (.val (.int (nd.l ls))))
class H_law_length (G : Gm) : Prop where m : Meets Sp_law_length (G.fn 73)
theorem v_law_length {G : Gm} [H : H_law_length G] (ls : List Int) (nd : Nd) (h : InsOk nd ls.length ) {ds : List D} {M : Store} (v : Vws M ds [.lst (ls.map D.int), nd.d]) (hl : ds.length = 2 := by rfl) : G.fn 73 ds M = Res.ok (.int (nd.l ls)) M := pure_call H.m hl (ls, nd) h v
theorem c_law_length {G : Gm} [H : H_law_length G] (ls : List Int) (nd : Nd) (h : InsOk nd ls.length ) (M : Store) : G.fn 73 [.lst (ls.map D.int), nd.d] M = Res.ok (.int (nd.l ls)) M := by
  have q : Cls [.lst (ls.map D.int), nd.d] := by (repeat' (first | exact Cls.nil | exact Clf.nil | exact Clk.nil | refine Clk.cons ?_ ?_ | refine Cl.dic ?_ | refine Cls.cons ?_ ?_ | refine Clf.cons ?_ ?_ | exact Cl.int _ | exact Cl.bl _ | exact Cl.non | exact Cl.str _ | exact Cls.ints _ | assumption | exact Nd.cl _ | exact Cls.nds _ | exact Cls.nats _ | exact Cl.st _ | exact Cl.bd _ | exact Cls.bds _ | exact Cls.rows _ | exact Cl.grf _ | exact Cl.enc _ | refine Cl.tup ?_ | refine Cl.lst ?_ | refine Cl.arr ?_ | refine Cl.ins ?_ | refine Cls.map (fun _ => ?_) _))
  exact v_law_length ls nd h (q.1 M)
theorem r_law_length {G : Gm} [Gl G] [H_law_inputs G] (ls : List Int) (nd : Nd) (h : InsOk nd ls.length ) : Runs (runF G b_law_length 4) [.lst (ls.map D.int), nd.d] ((.val (.int (nd.l ls)))) := by
  refine Runs.int ?_
  have h5 := c_law_inputs (G := G) nd
  have i1 := fun p hp => idx_ints' (ws := ls) (p := p) (M := []) (h p hp)
  cases nd <;> simp -implicitDefEqProofs only [Nd.d, Nd.ins, List.mem_cons, List.not_mem_nil, or_false, forall_eq_or_imp, forall_eq, List.map_cons, List.map_nil] at h5 i1 <;> simp? [b_law_length, b_law_length_C1e, Nd.d, Nd.l, h5, i1, win_len]
theorem sh_law_length {T : Tb} {G : Gm} [Gl G] [H_law_inputs G] : Shows T Sp_law_length (runF G b_law_length 4) := pure_shows (fun | (ls, nd), h => r_law_length ls nd h)
def Sp_law_drawn_node : Spec := boxSp 2 (α := (Nat)) (β := (Nd)) (fun many => 0 < many ) (fun many => [natD many]) (fun many => (fun nd => InsOk nd many ∧ nd.par)) (fun nd => nd.d)
class H_law_drawn_node (G : Gm) : Prop where m : Meets Sp_law_drawn_node (G.fn 47)
theorem v_law_drawn_node {G : Gm} [H : H_law_drawn_node G] (many : Nat) (h : 0 < many ) {l n : Nat} {rs : List Int} {ds : List D} {M : Store} (hb : M[l]? = some (boxO rs n)) (v : Vks M [l] ds [natD many]) (hl : ds.length = 1 := by rfl) : ∃ (n' : Nat) (nd : Nd), (InsOk nd many ∧ nd.par) ∧ G.fn 47 (.ref l :: ds) M = .ok (nd.d) (M.set l (boxO rs n')) := by
  obtain ⟨n', nd, h1, h2⟩ := box_call H.m (by simpa using hl) many h hb v
  exact ⟨n', nd, h1, h2⟩
theorem c_law_drawn_node {G : Gm} [H : H_law_drawn_node G] (many : Nat) (h : 0 < many ) {l n : Nat} {rs : List Int} {M : Store} (hb : M[l]? = some (boxO rs n)) : ∃ (n' : Nat) (nd : Nd), (InsOk nd many ∧ nd.par) ∧ G.fn 47 (.ref l :: [natD many]) M = .ok (nd.d) (M.set l (boxO rs n')) := by
  have q : Cls [natD many] := by (repeat' (first | exact Cls.nil | exact Clf.nil | exact Clk.nil | refine Clk.cons ?_ ?_ | refine Cl.dic ?_ | refine Cls.cons ?_ ?_ | refine Clf.cons ?_ ?_ | exact Cl.int _ | exact Cl.bl _ | exact Cl.non | exact Cl.str _ | exact Cls.ints _ | assumption | exact Nd.cl _ | exact Cls.nds _ | exact Cls.nats _ | exact Cl.st _ | exact Cl.bd _ | exact Cls.bds _ | exact Cls.rows _ | exact Cl.grf _ | exact Cl.enc _ | refine Cl.tup ?_ | refine Cl.lst ?_ | refine Cl.arr ?_ | refine Cl.ins ?_ | refine Cls.map (fun _ => ?_) _))
  exact v_law_drawn_node many h hb (q.vk M)
theorem r_law_drawn_node {G : Gm} [Gl G] [H_law_draw G] (many : Nat) (h : 0 < many ) (rs : List Int) (n : Nat) : ∃ (n' : Nat) (nd : Nd) (d : D) (N : Store), (InsOk nd many ∧ nd.par) ∧ runF G b_law_drawn_node 4 (.ref 0 :: [natD many]) [boxO rs n] = .ok d (boxO rs n' :: N) ∧ Fb (boxO rs n' :: N) d (nd.d) := by
  obtain ⟨k, hk, ck⟩ := d_law_draw (G := G) (n := n) (rs := rs) (m := 12) [] (by omega)
  obtain ⟨p, hp, cp⟩ := d_law_draw (G := G) (n := n + 1) (rs := rs) (m := many) [] h
  obtain ⟨q, hq, cq⟩ := d_law_draw (G := G) (n := n + 1 + 1) (rs := rs) (m := many) [] h
  obtain ⟨x6, h6, c6⟩ := d_law_draw (G := G) (n := n + 1 + 1) (rs := rs) (m := 6) [] (by omega)
  obtain ⟨x3, h3, c3⟩ := d_law_draw (G := G) (n := n + 1 + 1) (rs := rs) (m := 3) [] (by omega)
  obtain ⟨x9, h9, c9⟩ := d_law_draw (G := G) (n := n + 1 + 1) (rs := rs) (m := 9) [] (by omega)
  have i1 : InsOk (.map p) many := fun z hz => by simp [Nd.ins] at hz; omega
  have one : ∀ (nd : Nd) (n' : Nat), InsOk nd many → nd.par → runF G b_law_drawn_node 4 [.ref 0, natD many] [boxO rs n] = .ok nd.d [boxO rs n'] → ∃ (n' : Nat) (nd : Nd) (d : D) (N : Store), (InsOk nd many ∧ nd.par) ∧ runF G b_law_drawn_node 4 [.ref 0, natD many] [boxO rs n] = .ok d (boxO rs n' :: N) ∧ Fb (boxO rs n' :: N) d nd.d :=
    fun nd n' z1 z2 z3 => ⟨n', nd, _, [], ⟨z1, z2⟩, z3, fun r _ _ => Nd.fe nd⟩
  have ck : G.fn 45 [.ref 0, .int 12] [boxO rs n] = .ok (.int (k : Int)) [boxO rs (n + 1)] := ck
  have c6 : G.fn 45 [.ref 0, .int 6] [boxO rs (n + 1 + 1)] = .ok (.int (x6 : Int)) [boxO rs (n + 1 + 1 + 1)] := c6
  have c3 : G.fn 45 [.ref 0, .int 3] [boxO rs (n + 1 + 1)] = .ok (.int (x3 : Int)) [boxO rs (n + 1 + 1 + 1)] := c3
  have c9 : G.fn 45 [.ref 0, .int 9] [boxO rs (n + 1 + 1)] = .ok (.int (x9 : Int)) [boxO rs (n + 1 + 1 + 1)] := c9
  have kk : k = 0 ∨ k = 1 ∨ k = 2 ∨ k = 3 ∨ k = 4 ∨ k = 5 ∨ k = 6 ∨ k = 7 ∨ k = 8 ∨ k = 9 ∨ k = 10 ∨ k = 11 := by omega
  have x6' : x6 = 0 ∨ x6 = 1 ∨ x6 = 2 ∨ x6 = 3 ∨ x6 = 4 ∨ x6 = 5 := by omega
  rcases kk with rfl | rfl | rfl | rfl | rfl | rfl | rfl | rfl | rfl | rfl | rfl | rfl
  · exact one .src (n + 2) (fun z hz => by simp [Nd.ins] at hz) trivial (by simp? [b_law_drawn_node, Nd.d, ck, cp])
  · exact one (.map p) (n + 2) i1 trivial (by simp? [b_law_drawn_node, Nd.d, ck, cp])
  · exact one (.filter p) (n + 2) i1 trivial (by simp? [b_law_drawn_node, Nd.d, ck, cp])
  · exact one (.whil p) (n + 2) i1 trivial (by simp? [b_law_drawn_node, Nd.d, ck, cp])
  · rcases x6' with rfl | rfl | rfl | rfl | rfl | rfl
    · exact one (.take 0 p) (n + 3) i1 (by show _ ≤ 20; omega) (by simp? [b_law_drawn_node, Nd.d, ck, cp, c6])
    · exact one (.take 1 p) (n + 3) i1 (by show _ ≤ 20; omega) (by simp? [b_law_drawn_node, Nd.d, ck, cp, c6])
    · exact one (.take 2 p) (n + 3) i1 (by show _ ≤ 20; omega) (by simp? [b_law_drawn_node, Nd.d, ck, cp, c6])
    · exact one (.take 3 p) (n + 3) i1 (by show _ ≤ 20; omega) (by simp? [b_law_drawn_node, Nd.d, ck, cp, c6])
    · exact one (.take 4 p) (n + 3) i1 (by show _ ≤ 20; omega) (by simp? [b_law_drawn_node, Nd.d, ck, cp, c6])
    · exact one (.take 6 p) (n + 3) i1 (by show _ ≤ 20; omega) (by simp? [b_law_drawn_node, Nd.d, ck, cp, c6])
  · rcases x6' with rfl | rfl | rfl | rfl | rfl | rfl
    · exact one (.drop 0 p) (n + 3) i1 (by show _ ≤ 20; omega) (by simp? [b_law_drawn_node, Nd.d, ck, cp, c6])
    · exact one (.drop 1 p) (n + 3) i1 (by show _ ≤ 20; omega) (by simp? [b_law_drawn_node, Nd.d, ck, cp, c6])
    · exact one (.drop 2 p) (n + 3) i1 (by show _ ≤ 20; omega) (by simp? [b_law_drawn_node, Nd.d, ck, cp, c6])
    · exact one (.drop 3 p) (n + 3) i1 (by show _ ≤ 20; omega) (by simp? [b_law_drawn_node, Nd.d, ck, cp, c6])
    · exact one (.drop 4 p) (n + 3) i1 (by show _ ≤ 20; omega) (by simp? [b_law_drawn_node, Nd.d, ck, cp, c6])
    · exact one (.drop 6 p) (n + 3) i1 (by show _ ≤ 20; omega) (by simp? [b_law_drawn_node, Nd.d, ck, cp, c6])
  · exact one (.window (1 + x3) p) (n + 3) i1 (by show 1 ≤ _ ∧ _ ≤ 20; omega) (by
      have e : (1 : Int) + (x3 : Int) = ((1 + x3 : Nat) : Int) := by omega
      simp? [b_law_drawn_node, Nd.d, ck, cp, c3, e])
  · exact one (.scan ((x9 : Int) - 4) p) (n + 3) i1 (by show -1000 ≤ _ ∧ _ ≤ 1000; omega) (by simp? [b_law_drawn_node, Nd.d, ck, cp, c9])
  · exact one (.zip p q) (n + 3) (fun z hz => by simp [Nd.ins] at hz; omega) trivial (by simp? [b_law_drawn_node, Nd.d, ck, cp, cq])
  · exact one (.merge p q) (n + 3) (fun z hz => by simp [Nd.ins] at hz; omega) trivial (by simp? [b_law_drawn_node, Nd.d, ck, cp, cq])
  · exact one (.zip p q) (n + 3) (fun z hz => by simp [Nd.ins] at hz; omega) trivial (by simp? [b_law_drawn_node, Nd.d, ck, cp, cq])
  · exact one (.merge p q) (n + 3) (fun z hz => by simp [Nd.ins] at hz; omega) trivial (by simp? [b_law_drawn_node, Nd.d, ck, cp, cq])
theorem sh_law_drawn_node {T : Tb} {G : Gm} [Gl G] [H_law_draw G] : Shows T Sp_law_drawn_node (runF G b_law_drawn_node 4) := by
  refine box_shows fun many h rs n => ?_
  obtain ⟨n', nd, d, N, h1, h2, h3⟩ := r_law_drawn_node (G := G) many h rs n
  exact ⟨n', nd, d, N, h1, h2, h3⟩
end Lp

namespace Lp
open PySem
local macro_rules | `(tactic| simp?! [$args,*] $[$loc]?) => `(tactic| simp -implicitDefEqProofs only [$args,*, runF, natD, natsD, vOk_e, ev_var, ev_non, ev_bl, ev_int, ev_str, ev_gco, cB1_e, ev_bin, ev_neg, cC1_e, ev_cmp, cH3_t, cH3_f, cH2_e, cH1_e, ev_chn, cAnd_t, cAnd_f, ev_andv, cOr_t, cOr_f, ev_orv, cNot_e, ev_notv, cIfe_t, cIfe_f, ev_ife, cI1_e, ev_idx, cS2_e, cS1_e, ev_slt, cAt_e, ev_att, ev_call, cCall_e, cM2_e, cM1_e, ev_mth, mkK_e, cMk_e, ev_mk, ev_blt, cIs_e, ev_isi, appK_e, cA2_e, appP_e, cA1_e, ev_app, cTup_e, ev_tup, cFz_e, ev_fz, cFr_e, ev_fr, cMu_e, ev_mu, bOk_e, cTru_e, evT_tru, cTa_t, cTa_f, evT_tand, cTo_t, cTo_f, evT_tor, cTn_e, evT_tnot, evs_nil, cCo2_e, cCo1_e, evs_cons, evO_absent, cO_e, evO_tru, cDs_e, evL_dsp, cCt_e, evL_cat, cRp_e, evL_rep, cP2_e, cP1_e, evL_slp, lOk_e, cLo_e, evL_lof, cLc_e, evL_lc, iOk_e, cIt_e, evI_itm, cR1_e, evI_rng1, cR3_i, cR2_e, evI_rng2, cEn_e, evI_enu, cZ2_e, cZ1_e, evI_zip2, ex_nil, ex_pass, cSeq_n, cSeq_r, cSeq_b, ex_seq, cSet_e, ex_set, eOk_e, cSt_e, ex_setT, nxR_e, cSA2_e, cSA1_e, ex_setA, cSI3_e, cSI2_e, cSI1_e, ex_setI, cEx_e, ex_ex, cRet_e, ex_ret, ex_retN, ex_brk, cIf_t, cIf_f, ex_ife, cFor_e, ex_for, fin_ret, fin_nx, enK_e, idP_e, cIdn_e, ev_idn, popK_e, popz_e, ev_popz, ev_dem, cCalS_e, ev_cals, cMtS2_e, cMtS1_e, ev_mths, cMkS_e, ev_mks, smK_e, cSm_e, evL_sml, cRd3_i, cRd2_e, evI_rngd, cAu1_e, auP_e, ex_aug, aug_add, aug_sub, aaQ_e, cAA4_e, cAA3_e, cAA2_e, aaP_e, cAA1_e, ex_augA, cAI5_e, cAI4_e, cAI3_e, cAI2_e, cAI1_e, ex_augI, bind_ok, bind_bad, bind_exc, Lp.start, Gstr, Ggco, gc, GCD, setE, bin_add, bin_sub, cmpD, bRes, oRes, negD, truB_bl, truB_non, truB_int, isNon, eqB_int, eqB_str, eqB_bl, idx_tup, idx_lst, idx_arr, atI_0, atI_1, atI_2, atI_3, atI_4, atI_5, atI_6, atI_7, atI_8, atI_9, atI_10, atI_11,  slcT_1, slcT_2, slcT_21, inB_tup, inB_arr, inB_lst, flatD, eqF, tx_beq, List.all_cons, List.all_nil, List.any_cons, List.any_nil, Bool.and_true, Bool.true_and, Bool.and_false, Bool.false_and, Bool.or_false, Bool.or_true, Bool.true_or, Bool.false_or, Nat.reduceBEq, wipeE, itm_tup, itm_lst, itm_arr, List.map_cons, List.map_nil, List.cons_append, List.nil_append, List.length_cons, List.length_nil, List.getElem?_cons_zero, List.getElem?_cons_succ, List.getElem?_nil, List.set_cons_zero, List.set_cons_succ, List.getD_cons_zero, List.getD_cons_succ, List.replicate_succ, List.replicate_zero, Nat.reduceAdd, Nat.reduceSub, Nat.zero_add, Option.map_some, Option.map_none, Bool.not_true, Bool.not_false, ite_true, ite_false, if_true, if_false, reduceCtorEq, decide_true, decide_false, decide_eq_true_eq, tx_dec, Bool.false_eq_true, Nat.reduceEqDiff, Nat.reduceLT, Nat.reduceLeDiff, line_ok, line_lt, lcG_s, lcG_0, lcG_n, lcX_n, lcX_s, lcB_s, lcC_t, lcC_f, lcE_o, bindG_1, id_eq, nc_0, nc_1, nc_2, nc_3, nc_4, nc_5, nc_6, nc_7, nc_8, nc_9, nc_10, nc_11, nc_12,  Int.reduceEq, Int.reduceLT, Int.reduceLE, Int.reduceNeg, Int.reduceAdd, Int.reduceSub, Int.reduceMul, Option.bind_some, dInts_1, dInts_2, minL_1, minL_2, List.sum_cons, List.sum_nil, Int.add_zero, idx_nl, inB_nl, itm_nl, wk_non, wk_bl, wk_int, wk_str, wk_ref, wk_tup, wk_lst, wk_nl, wk_arr, wk_ins, wk_no, wk_dic, wks_nil, wks_cons, wkf_nil, wkf_cons, wkk_nil, wkk_cons, wks_ints] $[$loc]?)
local macro_rules | `(tactic| simp? [$args,*] $[$loc]?) => `(tactic| simp -implicitDefEqProofs only [$args,*, runF, natD, natsD, vOk_e, ev_var, ev_non, ev_bl, ev_int, ev_str, ev_gco, cB1_e, ev_bin, ev_neg, cC1_e, ev_cmp, cH3_t, cH3_f, cH2_e, cH1_e, ev_chn, cAnd_t, cAnd_f, ev_andv, cOr_t, cOr_f, ev_orv, cNot_e, ev_notv, cIfe_t, cIfe_f, ev_ife, cI1_e, ev_idx, cS2_e, cS1_e, ev_slt, cAt_e, ev_att, ev_call, cCall_e, cM2_e, cM1_e, ev_mth, mkK_e, cMk_e, ev_mk, ev_blt, cIs_e, ev_isi, appK_e, cA2_e, appP_e, cA1_e, ev_app, cTup_e, ev_tup, cFz_e, ev_fz, cFr_e, ev_fr, cMu_e, ev_mu, bOk_e, cTru_e, evT_tru, cTa_t, cTa_f, evT_tand, cTo_t, cTo_f, evT_tor, cTn_e, evT_tnot, evs_nil, cCo2_e, cCo1_e, evs_cons, evO_absent, cO_e, evO_tru, cDs_e, evL_dsp, cCt_e, evL_cat, cRp_e, evL_rep, cP2_e, cP1_e, evL_slp, lOk_e, cLo_e, evL_lof, cLc_e, evL_lc, iOk_e, cIt_e, evI_itm, cR1_e, evI_rng1, cR3_i, cR2_e, evI_rng2, cEn_e, evI_enu, cZ2_e, cZ1_e, evI_zip2, ex_nil, ex_pass, cSeq_n, cSeq_r, cSeq_b, ex_seq, cSet_e, ex_set, eOk_e, cSt_e, ex_setT, nxR_e, cSA2_e, cSA1_e, ex_setA, cSI3_e, cSI2_e, cSI1_e, ex_setI, cEx_e, ex_ex, cRet_e, ex_ret, ex_retN, ex_brk, cIf_t, cIf_f, ex_ife, cFor_e, ex_for, fin_ret, fin_nx, enK_e, idP_e, cIdn_e, ev_idn, popK_e, popz_e, ev_popz, ev_dem, cCalS_e, ev_cals, cMtS2_e, cMtS1_e, ev_mths, cMkS_e, ev_mks, smK_e, cSm_e, evL_sml, cRd3_i, cRd2_e, evI_rngd, cAu1_e, auP_e, ex_aug, aug_add, aug_sub, aaQ_e, cAA4_e, cAA3_e, cAA2_e, aaP_e, cAA1_e, ex_augA, cAI5_e, cAI4_e, cAI3_e, cAI2_e, cAI1_e, ex_augI, bind_ok, bind_bad, bind_exc, Lp.start, Gstr, Ggco, gc, GCD, setE, bin_add, bin_sub, cmpD, bRes, oRes, negD, truB_bl, truB_non, truB_int, isNon, bltD, blt1, blt2, eqB_int, eqB_str, eqB_bl, idx_tup, idx_lst, idx_arr, atI_0, atI_1, atI_2, atI_3, atI_4, atI_5, atI_6, atI_7, atI_8, atI_9, atI_10, atI_11,  slcT_1, slcT_2, slcT_21, inB_tup, inB_arr, inB_lst, flatD, eqF, tx_beq, List.all_cons, List.all_nil, List.any_cons, List.any_nil, Bool.and_true, Bool.true_and, Bool.and_false, Bool.false_and, Bool.or_false, Bool.or_true, Bool.true_or, Bool.false_or, Nat.reduceBEq, wipeE, itm_tup, itm_lst, itm_arr, List.map_cons, List.map_nil, List.cons_append, List.nil_append, List.length_cons, List.length_nil, List.getElem?_cons_zero, List.getElem?_cons_succ, List.getElem?_nil, List.set_cons_zero, List.set_cons_succ, List.getD_cons_zero, List.getD_cons_succ, List.replicate_succ, List.replicate_zero, Nat.reduceAdd, Nat.reduceSub, Nat.zero_add, Option.map_some, Option.map_none, Bool.not_true, Bool.not_false, ite_true, ite_false, if_true, if_false, reduceCtorEq, decide_true, decide_false, decide_eq_true_eq, tx_dec, Bool.false_eq_true, Nat.reduceEqDiff, Nat.reduceLT, Nat.reduceLeDiff, line_ok, line_lt, lcG_s, lcG_0, lcG_n, lcX_n, lcX_s, lcB_s, lcC_t, lcC_f, lcE_o, bindG_1, id_eq, nc_0, nc_1, nc_2, nc_3, nc_4, nc_5, nc_6, nc_7, nc_8, nc_9, nc_10, nc_11, nc_12,  Int.reduceEq, Int.reduceLT, Int.reduceLE, Int.reduceNeg, Int.reduceAdd, Int.reduceSub, Int.reduceMul, Option.bind_some, dInts_1, dInts_2, minL_1, minL_2, List.sum_cons, List.sum_nil, Int.add_zero, lenO, asS, asL, asM, idx_nl, inB_nl, itm_nl, wk_non, wk_bl, wk_int, wk_str, wk_ref, wk_tup, wk_lst, wk_nl, wk_arr, wk_ins, wk_no, wk_dic, wks_nil, wks_cons, wkf_nil, wkf_cons, wkk_nil, wkk_cons, wks_ints] $[$loc]?)
theorem Rt.snoc {nds : List Nd} {nd : Nd} (h : Rt nds) (h1 : InsOk nd nds.length) (h2 : nd.par) (h3 : nd.w (wsN nds) ≤ 12) (h4 : nd.l (lsN nds) ≤ 400) (h5 : ∀ p q, nd = .merge p q → (wsN nds).getD p 0 = (wsN nds).getD q 0)
    (h6 : nd = .src → (nds.filter Nd.isSrc).length ≤ 3) (h7 : nds.length ≤ 11) : Rt (nds ++ [nd]) := by
  have ew : wsN (nds ++ [nd]) = wsN nds ++ [nd.w (wsN nds)] := runN_snoc _ _ _
  have el : lsN (nds ++ [nd]) = lsN nds ++ [nd.l (lsN nds)] := runN_snoc _ _ _
  have gw : ∀ i, i < nds.length → (wsN (nds ++ [nd])).getD i 0 = (wsN nds).getD i 0 := fun i hi => by
    rw [ew, List.getD_eq_getElem?_getD, List.getD_eq_getElem?_getD, List.getElem?_append_left (by rw [wsN_len]; exact hi)]
  have gl : ∀ i, i < nds.length → (lsN (nds ++ [nd])).getD i 0 = (lsN nds).getD i 0 := fun i hi => by
    rw [el, List.getD_eq_getElem?_getD, List.getD_eq_getElem?_getD, List.getElem?_append_left (by rw [lsN_len]; exact hi)]
  have at_ : ∀ (i : Nat) (x : Nd), (nds ++ [nd])[i]? = some x → (nds[i]? = some x ∧ i < nds.length) ∨ (i = nds.length ∧ x = nd) := fun i x hx => by
    by_cases hi : i < nds.length
    · rw [List.getElem?_append_left hi] at hx
      exact .inl ⟨hx, hi⟩
    · rw [List.getElem?_append_right (by omega)] at hx
      have hi2 : i - nds.length = 0 := by
        have := (List.getElem?_eq_some_iff.mp hx).1
        simp at this
        omega
      rw [hi2] at hx
      exact .inr ⟨by omega, (Option.some.inj hx).symm⟩
  refine ⟨fun i x hx => ?_, fun i p q hx => ?_, fun i hi => ?_, fun i hi => ?_, ?_, by simp, by simp; omega⟩
  · rcases at_ i x hx with ⟨hx, _⟩ | ⟨rfl, rfl⟩
    · exact h.g i x hx
    · exact ⟨h1, h2⟩
  · rcases at_ i _ hx with ⟨hx, hi⟩ | ⟨rfl, rfl⟩
    · have g := (h.g i _ hx).1
      have gp := g p (by simp [Nd.ins])
      have gq := g q (by simp [Nd.ins])
      rw [gw p (by omega), gw q (by omega)]
      exact h.mrg i p q hx
    · rw [gw p (h1 p (by simp [Nd.ins])), gw q (h1 q (by simp [Nd.ins]))]
      exact h5 p q rfl
  · by_cases hi2 : i < nds.length
    · rw [gw i hi2]; exact h.wide i hi2
    · have : i = nds.length := by simp at hi; omega
      subst this
      rw [ew, List.getD_eq_getElem?_getD, List.getElem?_append_right (by rw [wsN_len]; exact Nat.le_refl _), wsN_len]
      simpa using h3
  · by_cases hi2 : i < nds.length
    · rw [gl i hi2]; exact h.long i hi2
    · have : i = nds.length := by simp at hi; omega
      subst this
      rw [el, List.getD_eq_getElem?_getD, List.getElem?_append_right (by rw [lsN_len]; exact Nat.le_refl _), lsN_len]
      simpa using h4
  · rw [List.filter_append, List.length_append]
    by_cases hs : nd = .src
    · subst hs
      have := h6 rfl
      have e : ([Nd.src].filter Nd.isSrc).length = 1 := rfl
      omega
    · have hn : nd.isSrc = false := by cases nd <;> first | rfl | exact absurd rfl hs
      have := h.src
      simp [hn]
      exact this
theorem rt_one : Rt [.src] := by
  refine ⟨fun i nd h => ?_, fun i p q h => ?_, fun i hi => ?_, fun i hi => ?_, by decide, by decide, by decide⟩
  · have hi : i = 0 := by have := (List.getElem?_eq_some_iff.mp h).1; simp at this; exact this
    subst hi
    cases h
    exact ⟨fun p hp => by simp [Nd.ins] at hp, trivial⟩
  · have hi : i = 0 := by have := (List.getElem?_eq_some_iff.mp h).1; simp at this; exact this
    subst hi
    cases h
  · have hi : i = 0 := by simp at hi; exact hi
    subst hi
    decide
  · have hi : i = 0 := by simp at hi; exact hi
    subst hi
    decide
abbrev g3 (rs : List Int) (n : Nat) (A B C : List D) : Store := [boxO rs n, .lst A, .lst B, .lst C]
abbrev g3N (rs : List Int) (n : Nat) (nds : List Nd) : Store := g3 rs n (nds.map Nd.d) ((wsN nds).map D.int) ((lsN nds).map D.int)
theorem g3N_snoc {rs : List Int} {n : Nat} {nds : List Nd} {nd : Nd} : g3 rs n (nds.map Nd.d ++ [nd.d]) ((wsN nds).map D.int ++ [.int (nd.w (wsN nds))]) ((lsN nds).map D.int ++ [.int (nd.l (lsN nds))]) = g3N rs n (nds ++ [nd]) := by
  have ew : wsN (nds ++ [nd]) = wsN nds ++ [nd.w (wsN nds)] := runN_snoc _ _ _
  have el : lsN (nds ++ [nd]) = lsN nds ++ [nd.l (lsN nds)] := runN_snoc _ _ _
  unfold g3N
  rw [ew, el, List.map_append, List.map_append, List.map_append] <;> rfl
theorem idx_last {M : Store} {k : D} {ls : List Int} (h : asL M k = some (ls.map D.int)) (h0 : 0 < ls.length) : idxD k (.int (-1)) M = .ok (.int (ls.getD (ls.length - 1) 0)) M := by
  rw [idx_asL h]
  unfold L2.atI L2.ixN
  rw [List.length_map, if_neg (by decide), if_pos (by omega)]
  have e : ((-1 : Int) + (ls.length : Int)).toNat = ls.length - 1 := by omega
  show oRes ((ls.map D.int)[((-1 : Int) + (ls.length : Int)).toNat]?) M = _
  rw [e, List.getElem?_map, List.getElem?_eq_getElem (by omega), List.getD_eq_getElem?_getD, List.getElem?_eq_getElem (by omega)] <;> rfl
theorem neg_1 {M : Store} : negD (.int 1) M = .ok (.int (-1)) M := rfl
def Nd.fits (ws : List Int) : Nd → Bool
  | merge p q => decide (ws.getD p 0 = ws.getD q 0)
  | _ => true
def Nd.out (nds : List Nd) (nd : Nd) : Bool := !nd.fits (wsN nds) || (decide (12 < nd.w (wsN nds)) || (decide (400 < nd.l (lsN nds)) || (nd.isSrc && decide ((nds.filter Nd.isSrc).length = 4))))
theorem graph_turn {G : Gm} [Gl G] [H_law_drawn_node G] [H_law_width G] [H_law_length G] {rs : List Int} {n : Nat} {nds : List Nd} (hr : Rt nds) (h11 : nds.length ≤ 11) {m e5 y6 y7 y8 y9 y10 e11 : Option D} :
    ∃ (nd : Nd) (n' : Nat) (e6 e7 e8 e9 e10 e11' : Option D), Rt (nds ++ [nd]) ∧ exec G b_law_graph_L1 [some (.ref 0), m, some (.ref 1), some (.ref 2), some (.ref 3), e5, y6, y7, y8, y9, y10, e11] (g3N rs n nds)
      = .ok (.nx [some (.ref 0), m, some (.ref 1), some (.ref 2), some (.ref 3), e5, e6, e7, e8, e9, e10, e11']) (g3N rs n' (nds ++ [nd])) := by
  have h1 := hr.one
  obtain ⟨n', nd, ⟨q1, q2⟩, q3⟩ := c_law_drawn_node (G := G) nds.length h1 (l := 0) (n := n) (rs := rs) (M := g3N rs n nds) rfl
  have q3 : G.fn 47 [.ref 0, .int (nds.length : Int)] (g3N rs n nds) = .ok nd.d (g3N rs n' nds) := q3
  have w1 := v_law_width (G := G) (wsN nds) nd ⟨by rw [wsN_len]; exact q1, q2⟩ (ds := [.ref 2, nd.d]) (M := g3N rs n' nds) (.cons (.rlst rfl ((Cls.ints _).1 _)) (.cons ((Nd.cl _).1 _) .nil))
  have w2 := v_law_length (G := G) (lsN nds) nd (by rw [lsN_len]; exact q1) (ds := [.ref 3, nd.d]) (M := g3N rs n' nds) (.cons (.rlst rfl ((Cls.ints _).1 _)) (.cons ((Nd.cl _).1 _) .nil))
  have hlen : ∀ k, bltD .len [.ref 1] (g3N rs k nds) = .ok (.int (nds.length : Int)) (g3N rs k nds) := fun k => by rw [blt_len (n := (nds.map Nd.d).length) rfl, List.length_map]
  have hit : itmOf (g3N rs n' nds) (.ref 1) = some (refI 1 nds.length) := by rw [itm_ref (xs := nds.map Nd.d) rfl, List.length_map]
  have hn : (refI 1 nds.length).n = nds.length := rfl
  have hlc : ∀ x0 x1 x2 x3 x4 x5 x6 x7 x8 x9 x10 x11 : Option D, lcGo (refI 1 nds.length) [11] [x0, x1, x2, x3, x4, x5, x6, x7, x8, x9, x10, x11] (evT G b_law_graph_C1c) (ev G b_law_graph_C1e) nds.length 0 [] (g3N rs n' nds) = .ok ((nds.filter Nd.isSrc).map Nd.d) (g3N rs n' nds) := fun x0 x1 x2 x3 x4 x5 x6 x7 x8 x9 x10 x11 =>
    lc_lstJ (xs := nds) (enc := Nd.d) (fun i => ref_nx rfl) default Nd.isSrc Nd.d (by omega) (Nat.le_refl _) (fun nd _ => ⟨_, rfl, by cases nd <;> simp? [b_law_graph_C1c, Nd.d, Nd.isSrc], fun _ => by simp? [b_law_graph_C1e]⟩)
  have hcnt : (((nds.filter Nd.isSrc).map Nd.d).length) = (nds.filter Nd.isSrc).length := List.length_map _
  have z1 : ((nds.filter Nd.isSrc).map Nd.d).length ≤ sizeLine := by
    rw [List.length_map]
    exact line_le (Nat.le_trans (List.length_filter_le _ _) (by omega))
  have jw := fun p (hp : p < nds.length) => idx_ints (ws := wsN nds) (M := g3N rs n' nds) (a := .ref 2) (p := p) rfl (by rw [wsN_len]; exact hp)
  have hfit : ∀ e7 e8 e9 e10 e11 : Option D, ev G (.orv (.cmp .NotEq (.idx (.var 6) (.int 0)) (.str 4)) (.cmp .Eq (.idx (.var 3) (.idx (.var 6) (.int 1))) (.idx (.var 3) (.idx (.var 6) (.int 2))))) [some (.ref 0), m, some (.ref 1), some (.ref 2), some (.ref 3), e5, some nd.d, e7, e8, e9, e10, e11] (g3N rs n' nds)
      = .ok (.bl (nd.fits (wsN nds))) (g3N rs n' nds) := fun e7 e8 e9 e10 e11 => by
    cases nd with
    | merge p q =>
      have j1 := jw p (q1 p (by simp [Nd.ins]))
      have j2 := jw q (q1 q (by simp [Nd.ins]))
      simp? [Nd.d, Nd.fits, j1, j2]
    | _ => simp? [Nd.d, Nd.fits]
  have ko : ∀ (k : Nat) (b : Bool), some (MO.lst ((nds.map Nd.d))) = some (MO.lst ((nds.map Nd.d))) := fun _ _ => rfl
  have hbad : ∀ (e11 : Option D), evT G (.tor (.tnot (.tru (.var 10))) (.tor (.tru (.cmp .Gt (.var 7) (.int 12))) (.tor (.tru (.cmp .Gt (.var 8) (.int 400))) (.tand (.tru (.cmp .Eq (.idx (.var 6) (.int 0)) (.str 10))) (.tru (.cmp .Eq (.var 9) (.int 4))))))) [some (.ref 0), m, some (.ref 1), some (.ref 2), some (.ref 3), e5, some nd.d, some (.int (nd.w (wsN nds))), some (.int (nd.l (lsN nds))), some (.int ((nds.filter Nd.isSrc).length : Int)), some (.bl (nd.fits (wsN nds))), e11] (g3N rs n' nds)
      = .ok (nd.out nds) (g3N rs n' nds) := fun e11 => by
    have e4 : ((((nds.filter Nd.isSrc).length : Nat) : Int) = 4) = ((nds.filter Nd.isSrc).length = 4) := propext ⟨fun h => by omega, fun h => by omega⟩
    unfold Nd.out
    cases hf : nd.fits (wsN nds) with
    | false => simp? [bind_ok]
    | true =>
      by_cases a1 : 12 < nd.w (wsN nds)
      · simp? [a1]
      · by_cases a2 : 400 < nd.l (lsN nds)
        · simp? [a1, a2]
        · cases nd <;> simp? [Nd.d, Nd.isSrc, Nd.w, Nd.l, a1, a2, e4] at * <;> simp? [a1, a2]
  have al : ∀ (k : Nat) (A B C : List D) (x : D), A.length ≤ 100000 → appK 1 x (some (.lst A)) (g3 rs k A B C) = .ok .non (g3 rs k (A ++ [x]) B C) := fun k A B C x h => by rw [appK_e, if_pos (line_lt' h)] <;> rfl
  have bl : ∀ (k : Nat) (A B C : List D) (x : D), B.length ≤ 100000 → appK 2 x (some (.lst B)) (g3 rs k A B C) = .ok .non (g3 rs k A (B ++ [x]) C) := fun k A B C x h => by rw [appK_e, if_pos (line_lt' h)] <;> rfl
  have cl : ∀ (k : Nat) (A B C : List D) (x : D), C.length ≤ 100000 → appK 3 x (some (.lst C)) (g3 rs k A B C) = .ok .non (g3 rs k A B (C ++ [x])) := fun k A B C x h => by rw [appK_e, if_pos (line_lt' h)] <;> rfl
  have ap0 := fun (k : Nat) (B C : List D) (x : D) => al k (nds.map Nd.d) B C x (by rw [List.length_map]; omega)
  have ap1 := fun (k : Nat) (A C : List D) (x : D) => bl k A ((wsN nds).map D.int) C x (by rw [List.length_map, wsN_len]; omega)
  have ap2 := fun (k : Nat) (A B : List D) (x : D) => cl k A B ((lsN nds).map D.int) x (by rw [List.length_map, lsN_len]; omega)
  cases hb : nd.out nds with
  | false =>
    have hb' := hb
    unfold Nd.out at hb'
    simp only [Bool.or_eq_false_iff, Bool.not_eq_false', Bool.and_eq_false_iff, decide_eq_false_iff_not] at hb'
    obtain ⟨f1, f2, f3, f4⟩ := hb'
    refine ⟨nd, n', some nd.d, some (.int (nd.w (wsN nds))), some (.int (nd.l (lsN nds))), some (.int ((nds.filter Nd.isSrc).length : Int)), some (.bl (nd.fits (wsN nds))), e11,
      hr.snoc q1 q2 (by omega) (by omega) (fun p q e => by subst e; exact of_decide_eq_true f1) (fun e => by
        subst e
        have := hr.src
        rcases f4 with f4 | f4
        · cases f4
        · omega) h11, ?_⟩
    rw [← g3N_snoc]
    simp?! [b_law_graph_L1, wk_nd, hlen, q3, w1, w2, hit, hn, hlc, hcnt, hfit, hbad, hb, ap0, ap1, ap2, len_nl]
  | true =>
    have ml : (Nd.map (nds.length - 1)).l (lsN nds) = (lsN nds).getD (nds.length - 1) 0 := rfl
    have md : (Nd.map (nds.length - 1)).d = .tup [.str (tx 0), .int ((nds.length - 1 : Nat) : Int)] := rfl
    have mw : (Nd.map (nds.length - 1)).w (wsN nds) = 1 := rfl
    refine ⟨.map (nds.length - 1), n', some (Nd.map (nds.length - 1)).d, some (.int 1), some (.int ((lsN nds).getD (nds.length - 1) 0)), some (.int ((nds.filter Nd.isSrc).length : Int)), some (.bl (nd.fits (wsN nds))), e11,
      hr.snoc (fun p hp => by simp [Nd.ins] at hp; omega) trivial (by rw [mw]; omega) (by rw [ml]; exact hr.long _ (by omega)) (fun p q e => by cases e) (fun e => by cases e) h11, ?_⟩
    rw [← g3N_snoc]
    have il := idx_last (M := g3N rs n' nds) (k := .ref 3) (ls := lsN nds) rfl (by rw [lsN_len]; omega)
    rw [lsN_len] at il
    have e1 : (nds.length : Int) - 1 = ((nds.length - 1 : Nat) : Int) := by omega
    simp?! [b_law_graph_L1, wk_nd, hlen, q3, w1, w2, hit, hn, hlc, hcnt, hfit, hbad, hb, ap0, ap1, ap2, neg_1, il, e1, md, mw, ml, len_nl]
def Sp_law_graph : Spec := boxSp 2 (α := (Nat)) (β := (List Nd)) (fun most => 0 < most ∧ most ≤ 11 ) (fun most => [natD most]) (fun most => (fun nds => Rt nds ∧ nds.length ≤ most + 1)) (fun nds => .nl (nds.map Nd.d))
class H_law_graph (G : Gm) : Prop where m : Meets Sp_law_graph (G.fn 59)
theorem v_law_graph {G : Gm} [H : H_law_graph G] (most : Nat) (h : 0 < most ∧ most ≤ 11 ) {l n : Nat} {rs : List Int} {ds : List D} {M : Store} (hb : M[l]? = some (boxO rs n)) (v : Vks M [l] ds [natD most]) (hl : ds.length = 1 := by rfl) : ∃ (n' : Nat) (nds : List Nd), (Rt nds ∧ nds.length ≤ most + 1) ∧ G.fn 59 (.ref l :: ds) M = .ok (.nl (nds.map Nd.d)) (M.set l (boxO rs n')) := by
  obtain ⟨n', nds, h1, h2⟩ := box_call H.m (by simpa using hl) most h hb v
  exact ⟨n', nds, h1, h2⟩
theorem c_law_graph {G : Gm} [H : H_law_graph G] (most : Nat) (h : 0 < most ∧ most ≤ 11 ) {l n : Nat} {rs : List Int} {M : Store} (hb : M[l]? = some (boxO rs n)) : ∃ (n' : Nat) (nds : List Nd), (Rt nds ∧ nds.length ≤ most + 1) ∧ G.fn 59 (.ref l :: [natD most]) M = .ok (.nl (nds.map Nd.d)) (M.set l (boxO rs n')) := by
  have q : Cls [natD most] := by (repeat' (first | exact Cls.nil | exact Clf.nil | exact Clk.nil | refine Clk.cons ?_ ?_ | refine Cl.dic ?_ | refine Cls.cons ?_ ?_ | refine Clf.cons ?_ ?_ | exact Cl.int _ | exact Cl.bl _ | exact Cl.non | exact Cl.str _ | exact Cls.ints _ | assumption | exact Nd.cl _ | exact Cls.nds _ | exact Cls.nats _ | exact Cl.st _ | exact Cl.bd _ | exact Cls.bds _ | exact Cls.rows _ | exact Cl.grf _ | exact Cl.enc _ | refine Cl.tup ?_ | refine Cl.lst ?_ | refine Cl.arr ?_ | refine Cl.ins ?_ | refine Cls.map (fun _ => ?_) _))
  exact v_law_graph most h hb (q.vk M)
theorem r_law_graph {G : Gm} [Gl G] [H_law_draw G] [H_law_drawn_node G] [H_law_width G] [H_law_length G] (most : Nat) (h : 0 < most ∧ most ≤ 11 ) (rs : List Int) (n : Nat) : ∃ (n' : Nat) (nds : List Nd) (d : D) (N : Store), (Rt nds ∧ nds.length ≤ most + 1) ∧ runF G b_law_graph 12 (.ref 0 :: [natD most]) [boxO rs n] = .ok d (boxO rs n' :: N) ∧ Fb (boxO rs n' :: N) d (.nl (nds.map Nd.d)) := by
  obtain ⟨hm, hm2⟩ := h
  obtain ⟨t, ht, et⟩ := d_law_draw (G := G) (n := n) (rs := rs) (m := most) [.lst [Nd.src.d], .lst [.int 1], .lst [.int 200]] hm
  have key := for_all (J := rngI 0 (t + 1)) (tg := [5]) (b := exec G b_law_graph_L1) (n := t + 1) (it := fun i => .int (0 + i))
    (fun i env M' => ∃ (nds : List Nd) (n' : Nat) (y5 y6 y7 y8 y9 y10 y11 : Option D), Rt nds ∧ nds.length = i + 1 ∧ env = [some (.ref 0), some (natD most), some (.ref 1), some (.ref 2), some (.ref 3), y5, y6, y7, y8, y9, y10, y11] ∧ M' = g3N rs n' nds)
    (fun i env M' h => rng_nx)
    (fun i env M' hi h => by
      obtain ⟨nds, a', y5, y6, y7, y8, y9, y10, y11, h1, h2, rfl, rfl⟩ := h
      obtain ⟨nd, a2, x6, x7, x8, x9, x10, x11, q1, q2⟩ := graph_turn (G := G) (rs := rs) (n := a') (nds := nds) h1 (by omega) (m := some (natD most)) (e5 := some (.int (0 + i))) (y6 := y6) (y7 := y7) (y8 := y8) (y9 := y9) (y10 := y10) (e11 := y11)
      exact ⟨_, _, _, rfl, q2, nds ++ [nd], a2, _, _, _, _, _, _, _, q1, by simp; omega, rfl, rfl⟩)
    (k := t + 1) (env := [some (.ref 0), some (natD most), some (.ref 1), some (.ref 2), some (.ref 3), none, none, none, none, none, none, none]) (M := g3N rs (n + 1) [.src]) (by omega) ⟨[.src], n + 1, _, _, _, _, _, _, _, rt_one, rfl, rfl, rfl⟩
  obtain ⟨env', M', h2, nds, a', y5, y6, y7, y8, y9, y10, y11, q1, q2, h4, h5⟩ := key
  subst h4 h5
  have sm : small ((t + 1 : Nat) : Int) := small_nat (by omega)
  have nt : ((t + 1 : Nat) : Int).toNat = t + 1 := Int.toNat_natCast _
  have e1 : (1 : Int) + (t : Int) = ((t + 1 : Nat) : Int) := by omega
  have sd : D.tup [D.str (tx 10)] = Nd.src.d := rfl
  have s0 : g3N rs (n + 1) [.src] = [boxO rs (n + 1), .lst [Nd.src.d], .lst [.int 1], .lst [.int 200]] := by simp [g3N, g3, wsN, lsN, runN, Nd.w, Nd.l]
  rw [s0] at h2
  refine ⟨a', nds, .ref 1, [.lst (nds.map Nd.d), .lst ((wsN nds).map D.int), .lst ((lsN nds).map D.int)], ⟨q1, by omega⟩, ?_, fun r _ hr1 => Fe.lst (hr1 1 (by decide)) rfl (Fes.nds _)⟩
  simp -implicitDefEqProofs only [natD] at h2 et
  simp?! [b_law_graph, sd, et, e1, if_pos sm, nt, rng_n, h2]
theorem sh_law_graph {T : Tb} {G : Gm} [Gl G] [H_law_draw G] [H_law_drawn_node G] [H_law_width G] [H_law_length G] : Shows T Sp_law_graph (runF G b_law_graph 12) := by
  refine box_shows fun most h rs n => ?_
  obtain ⟨n', nds, d, N, h1, h2, h3⟩ := r_law_graph (G := G) most h rs n
  exact ⟨n', nds, d, N, h1, h2, h3⟩
end Lp

namespace Lp
open PySem
local macro_rules | `(tactic| simp?! [$args,*] $[$loc]?) => `(tactic| simp -implicitDefEqProofs only [$args,*, runF, natD, natsD, vOk_e, ev_var, ev_non, ev_bl, ev_int, ev_str, ev_gco, cB1_e, ev_bin, ev_neg, cC1_e, ev_cmp, cH3_t, cH3_f, cH2_e, cH1_e, ev_chn, cAnd_t, cAnd_f, ev_andv, cOr_t, cOr_f, ev_orv, cNot_e, ev_notv, cIfe_t, cIfe_f, ev_ife, cI1_e, ev_idx, cS2_e, cS1_e, ev_slt, cAt_e, ev_att, ev_call, cCall_e, cM2_e, cM1_e, ev_mth, mkK_e, cMk_e, ev_mk, ev_blt, cIs_e, ev_isi, appK_e, cA2_e, appP_e, cA1_e, ev_app, cTup_e, ev_tup, cFz_e, ev_fz, cFr_e, ev_fr, cMu_e, ev_mu, bOk_e, cTru_e, evT_tru, cTa_t, cTa_f, evT_tand, cTo_t, cTo_f, evT_tor, cTn_e, evT_tnot, evs_nil, cCo2_e, cCo1_e, evs_cons, evO_absent, cO_e, evO_tru, cDs_e, evL_dsp, cCt_e, evL_cat, cRp_e, evL_rep, cP2_e, cP1_e, evL_slp, lOk_e, cLo_e, evL_lof, cLc_e, evL_lc, iOk_e, cIt_e, evI_itm, cR1_e, evI_rng1, cR3_i, cR2_e, evI_rng2, cEn_e, evI_enu, cZ2_e, cZ1_e, evI_zip2, ex_nil, ex_pass, cSeq_n, cSeq_r, cSeq_b, ex_seq, cSet_e, ex_set, eOk_e, cSt_e, ex_setT, nxR_e, cSA2_e, cSA1_e, ex_setA, cSI3_e, cSI2_e, cSI1_e, ex_setI, cEx_e, ex_ex, cRet_e, ex_ret, ex_retN, ex_brk, cIf_t, cIf_f, ex_ife, cFor_e, ex_for, fin_ret, fin_nx, enK_e, idP_e, cIdn_e, ev_idn, popK_e, popz_e, ev_popz, ev_dem, cCalS_e, ev_cals, cMtS2_e, cMtS1_e, ev_mths, cMkS_e, ev_mks, smK_e, cSm_e, evL_sml, cRd3_i, cRd2_e, evI_rngd, cAu1_e, auP_e, ex_aug, aug_add, aug_sub, aaQ_e, cAA4_e, cAA3_e, cAA2_e, aaP_e, cAA1_e, ex_augA, cAI5_e, cAI4_e, cAI3_e, cAI2_e, cAI1_e, ex_augI, bind_ok, bind_bad, bind_exc, Lp.start, Gstr, Ggco, gc, GCD, setE, bin_add, bin_sub, cmpD, bRes, oRes, negD, truB_bl, truB_non, truB_int, isNon, eqB_int, eqB_str, eqB_bl, idx_tup, idx_lst, idx_arr, atI_0, atI_1, atI_2, atI_3, atI_4, atI_5, atI_6, atI_7, atI_8, atI_9, atI_10, atI_11,  slcT_1, slcT_2, slcT_21, inB_tup, inB_arr, inB_lst, flatD, eqF, tx_beq, List.all_cons, List.all_nil, List.any_cons, List.any_nil, Bool.and_true, Bool.true_and, Bool.and_false, Bool.false_and, Bool.or_false, Bool.or_true, Bool.true_or, Bool.false_or, Nat.reduceBEq, wipeE, itm_tup, itm_lst, itm_arr, List.map_cons, List.map_nil, List.cons_append, List.nil_append, List.length_cons, List.length_nil, List.getElem?_cons_zero, List.getElem?_cons_succ, List.getElem?_nil, List.set_cons_zero, List.set_cons_succ, List.getD_cons_zero, List.getD_cons_succ, List.replicate_succ, List.replicate_zero, Nat.reduceAdd, Nat.reduceSub, Nat.zero_add, Option.map_some, Option.map_none, Bool.not_true, Bool.not_false, ite_true, ite_false, if_true, if_false, reduceCtorEq, decide_true, decide_false, decide_eq_true_eq, tx_dec, Bool.false_eq_true, Nat.reduceEqDiff, Nat.reduceLT, Nat.reduceLeDiff, line_ok, line_lt, lcG_s, lcG_0, lcG_n, lcX_n, lcX_s, lcB_s, lcC_t, lcC_f, lcE_o, bindG_1, id_eq, nc_0, nc_1, nc_2, nc_3, nc_4, nc_5, nc_6, nc_7, nc_8, nc_9, nc_10, nc_11, nc_12,  Int.reduceEq, Int.reduceLT, Int.reduceLE, Int.reduceNeg, Int.reduceAdd, Int.reduceSub, Int.reduceMul, Option.bind_some, dInts_1, dInts_2, minL_1, minL_2, List.sum_cons, List.sum_nil, Int.add_zero, idx_nl, inB_nl, itm_nl, wk_non, wk_bl, wk_int, wk_str, wk_ref, wk_tup, wk_lst, wk_nl, wk_arr, wk_ins, wk_no, wk_dic, wks_nil, wks_cons, wkf_nil, wkf_cons, wkk_nil, wkk_cons, wks_ints] $[$loc]?)
local macro_rules | `(tactic| dsimp? [$args,*] $[$loc]?) => `(tactic| simp -implicitDefEqProofs only [$args,*, runF, natD, natsD, vOk_e, ev_var, ev_non, ev_bl, ev_int, ev_str, ev_gco, cB1_e, ev_bin, ev_neg, cC1_e, ev_cmp, cH3_t, cH3_f, cH2_e, cH1_e, ev_chn, cAnd_t, cAnd_f, ev_andv, cOr_t, cOr_f, ev_orv, cNot_e, ev_notv, cIfe_t, cIfe_f, ev_ife, cI1_e, ev_idx, cS2_e, cS1_e, ev_slt, cAt_e, ev_att, ev_call, cCall_e, cM2_e, cM1_e, ev_mth, mkK_e, cMk_e, ev_mk, ev_blt, cIs_e, ev_isi, appK_e, cA2_e, appP_e, cA1_e, ev_app, cTup_e, ev_tup, cFz_e, ev_fz, cFr_e, ev_fr, cMu_e, ev_mu, bOk_e, cTru_e, evT_tru, cTa_t, cTa_f, evT_tand, cTo_t, cTo_f, evT_tor, cTn_e, evT_tnot, evs_nil, cCo2_e, cCo1_e, evs_cons, evO_absent, cO_e, evO_tru, cDs_e, evL_dsp, cCt_e, evL_cat, cRp_e, evL_rep, cP2_e, cP1_e, evL_slp, lOk_e, cLo_e, evL_lof, cLc_e, evL_lc, iOk_e, cIt_e, evI_itm, cR1_e, evI_rng1, cR3_i, cR2_e, evI_rng2, cEn_e, evI_enu, cZ2_e, cZ1_e, evI_zip2, ex_nil, ex_pass, cSeq_n, cSeq_r, cSeq_b, ex_seq, cSet_e, ex_set, eOk_e, cSt_e, ex_setT, nxR_e, cSA2_e, cSA1_e, ex_setA, cSI3_e, cSI2_e, cSI1_e, ex_setI, cEx_e, ex_ex, cRet_e, ex_ret, ex_retN, ex_brk, cIf_t, cIf_f, ex_ife, cFor_e, ex_for, fin_ret, fin_nx, enK_e, idP_e, cIdn_e, ev_idn, popK_e, popz_e, ev_popz, ev_dem, cCalS_e, ev_cals, cMtS2_e, cMtS1_e, ev_mths, cMkS_e, ev_mks, smK_e, cSm_e, evL_sml, cRd3_i, cRd2_e, evI_rngd, cAu1_e, auP_e, ex_aug, aug_add, aug_sub, aaQ_e, cAA4_e, cAA3_e, cAA2_e, aaP_e, cAA1_e, ex_augA, cAI5_e, cAI4_e, cAI3_e, cAI2_e, cAI1_e, ex_augI, bind_ok, bind_bad, bind_exc, Lp.start, Gstr, Ggco, gc, GCD, setE, bin_add, bin_sub, cmpD, bRes, oRes, negD, truB_bl, truB_non, truB_int, isNon, eqB_int, eqB_str, eqB_bl, idx_tup, idx_lst, idx_arr, atI_0, atI_1, atI_2, atI_3, atI_4, atI_5, atI_6, atI_7, atI_8, atI_9, atI_10, atI_11,  slcT_1, slcT_2, slcT_21, inB_tup, inB_arr, inB_lst, flatD, eqF, tx_beq, List.all_cons, List.all_nil, List.any_cons, List.any_nil, Bool.and_true, Bool.true_and, Bool.and_false, Bool.false_and, Bool.or_false, Bool.or_true, Bool.true_or, Bool.false_or, Nat.reduceBEq, wipeE, itm_tup, itm_lst, itm_arr, List.map_cons, List.map_nil, List.cons_append, List.nil_append, List.length_cons, List.length_nil, List.getElem?_cons_zero, List.getElem?_cons_succ, List.getElem?_nil, List.set_cons_zero, List.set_cons_succ, List.getD_cons_zero, List.getD_cons_succ, List.replicate_succ, List.replicate_zero, Nat.reduceAdd, Nat.reduceSub, Nat.zero_add, Option.map_some, Option.map_none, Bool.not_true, Bool.not_false, ite_true, ite_false, if_true, if_false, reduceCtorEq, decide_true, decide_false, decide_eq_true_eq, tx_dec, Bool.false_eq_true, Nat.reduceEqDiff, Nat.reduceLT, Nat.reduceLeDiff, line_ok, line_lt, lcG_s, lcG_0, lcG_n, lcX_n, lcX_s, lcB_s, lcC_t, lcC_f, lcE_o, bindG_1, id_eq, nc_0, nc_1, nc_2, nc_3, nc_4, nc_5, nc_6, nc_7, nc_8, nc_9, nc_10, nc_11, nc_12,  Int.reduceEq, Int.reduceLT, Int.reduceLE, Int.reduceNeg, Int.reduceAdd, Int.reduceSub, Int.reduceMul, Option.bind_some, dInts_1, dInts_2, minL_1, minL_2, List.sum_cons, List.sum_nil, Int.add_zero, idx_nl, inB_nl, itm_nl, wk_non, wk_bl, wk_int, wk_str, wk_ref, wk_tup, wk_lst, wk_nl, wk_arr, wk_ins, wk_no, wk_dic, wks_nil, wks_cons, wkf_nil, wkf_cons, wkk_nil, wkk_cons, wks_ints, len_lst, len_nl, bi_int, bi_bl, bi_abs, rng_n, List.length_map] $[$loc]?)
local macro_rules | `(tactic| simp? [$args,*] $[$loc]?) => `(tactic| simp -implicitDefEqProofs only [$args,*, runF, natD, natsD, vOk_e, ev_var, ev_non, ev_bl, ev_int, ev_str, ev_gco, cB1_e, ev_bin, ev_neg, cC1_e, ev_cmp, cH3_t, cH3_f, cH2_e, cH1_e, ev_chn, cAnd_t, cAnd_f, ev_andv, cOr_t, cOr_f, ev_orv, cNot_e, ev_notv, cIfe_t, cIfe_f, ev_ife, cI1_e, ev_idx, cS2_e, cS1_e, ev_slt, cAt_e, ev_att, ev_call, cCall_e, cM2_e, cM1_e, ev_mth, mkK_e, cMk_e, ev_mk, ev_blt, cIs_e, ev_isi, appK_e, cA2_e, appP_e, cA1_e, ev_app, cTup_e, ev_tup, cFz_e, ev_fz, cFr_e, ev_fr, cMu_e, ev_mu, bOk_e, cTru_e, evT_tru, cTa_t, cTa_f, evT_tand, cTo_t, cTo_f, evT_tor, cTn_e, evT_tnot, evs_nil, cCo2_e, cCo1_e, evs_cons, evO_absent, cO_e, evO_tru, cDs_e, evL_dsp, cCt_e, evL_cat, cRp_e, evL_rep, cP2_e, cP1_e, evL_slp, lOk_e, cLo_e, evL_lof, cLc_e, evL_lc, iOk_e, cIt_e, evI_itm, cR1_e, evI_rng1, cR3_i, cR2_e, evI_rng2, cEn_e, evI_enu, cZ2_e, cZ1_e, evI_zip2, ex_nil, ex_pass, cSeq_n, cSeq_r, cSeq_b, ex_seq, cSet_e, ex_set, eOk_e, cSt_e, ex_setT, nxR_e, cSA2_e, cSA1_e, ex_setA, cSI3_e, cSI2_e, cSI1_e, ex_setI, cEx_e, ex_ex, cRet_e, ex_ret, ex_retN, ex_brk, cIf_t, cIf_f, ex_ife, cFor_e, ex_for, fin_ret, fin_nx, enK_e, idP_e, cIdn_e, ev_idn, popK_e, popz_e, ev_popz, ev_dem, cCalS_e, ev_cals, cMtS2_e, cMtS1_e, ev_mths, cMkS_e, ev_mks, smK_e, cSm_e, evL_sml, cRd3_i, cRd2_e, evI_rngd, cAu1_e, auP_e, ex_aug, aug_add, aug_sub, aaQ_e, cAA4_e, cAA3_e, cAA2_e, aaP_e, cAA1_e, ex_augA, cAI5_e, cAI4_e, cAI3_e, cAI2_e, cAI1_e, ex_augI, bind_ok, bind_bad, bind_exc, Lp.start, Gstr, Ggco, gc, GCD, setE, bin_add, bin_sub, cmpD, bRes, oRes, negD, truB_bl, truB_non, truB_int, isNon, bltD, blt1, blt2, eqB_int, eqB_str, eqB_bl, idx_tup, idx_lst, idx_arr, atI_0, atI_1, atI_2, atI_3, atI_4, atI_5, atI_6, atI_7, atI_8, atI_9, atI_10, atI_11,  slcT_1, slcT_2, slcT_21, inB_tup, inB_arr, inB_lst, flatD, eqF, tx_beq, List.all_cons, List.all_nil, List.any_cons, List.any_nil, Bool.and_true, Bool.true_and, Bool.and_false, Bool.false_and, Bool.or_false, Bool.or_true, Bool.true_or, Bool.false_or, Nat.reduceBEq, wipeE, itm_tup, itm_lst, itm_arr, List.map_cons, List.map_nil, List.cons_append, List.nil_append, List.length_cons, List.length_nil, List.getElem?_cons_zero, List.getElem?_cons_succ, List.getElem?_nil, List.set_cons_zero, List.set_cons_succ, List.getD_cons_zero, List.getD_cons_succ, List.replicate_succ, List.replicate_zero, Nat.reduceAdd, Nat.reduceSub, Nat.zero_add, Option.map_some, Option.map_none, Bool.not_true, Bool.not_false, ite_true, ite_false, if_true, if_false, reduceCtorEq, decide_true, decide_false, decide_eq_true_eq, tx_dec, Bool.false_eq_true, Nat.reduceEqDiff, Nat.reduceLT, Nat.reduceLeDiff, line_ok, line_lt, lcG_s, lcG_0, lcG_n, lcX_n, lcX_s, lcB_s, lcC_t, lcC_f, lcE_o, bindG_1, id_eq, nc_0, nc_1, nc_2, nc_3, nc_4, nc_5, nc_6, nc_7, nc_8, nc_9, nc_10, nc_11, nc_12,  Int.reduceEq, Int.reduceLT, Int.reduceLE, Int.reduceNeg, Int.reduceAdd, Int.reduceSub, Int.reduceMul, Option.bind_some, dInts_1, dInts_2, minL_1, minL_2, List.sum_cons, List.sum_nil, Int.add_zero, lenO, asS, asL, asM, idx_nl, inB_nl, itm_nl, wk_non, wk_bl, wk_int, wk_str, wk_ref, wk_tup, wk_lst, wk_nl, wk_arr, wk_ins, wk_no, wk_dic, wks_nil, wks_cons, wkf_nil, wkf_cons, wkk_nil, wkk_cons, wks_ints] $[$loc]?)
def kindsD : Bool → D
  | true => .tup [.str (tx 0), .str (tx 1), .str (tx 2), .str (tx 3), .str (tx 4)]
  | false => .tup [.str (tx 10)]
def selK : Bool → Nd → Bool
  | true => Nd.isCall
  | false => Nd.isSrc
theorem Cl.enc (c : Bool) : Cl (kindsD c) := by cases c <;> (unfold kindsD; (repeat' (first | exact Cls.nil | exact Clf.nil | exact Clk.nil | refine Clk.cons ?_ ?_ | refine Cl.dic ?_ | refine Cls.cons ?_ ?_ | refine Clf.cons ?_ ?_ | exact Cl.int _ | exact Cl.bl _ | exact Cl.non | exact Cl.str _ | exact Cls.ints _ | assumption | exact Nd.cl _ | exact Cls.nds _ | exact Cls.nats _ | exact Cl.st _ | exact Cl.bd _ | exact Cls.bds _ | exact Cls.rows _ | exact Cl.grf _ | exact Cl.enc _ | refine Cl.tup ?_ | refine Cl.lst ?_ | refine Cl.arr ?_ | refine Cl.ins ?_ | refine Cls.map (fun _ => ?_) _)))
theorem in_kinds {c : Bool} {nd : Nd} {M : Store} : inB M (.str nd.kind) (kindsD c) = some (selK c nd) := by
  cases c <;> cases nd <;> simp? [kindsD, selK, Nd.kind, Nd.isCall, Nd.isSrc]
def Sp_law_of_kind : Spec := pureSp 2 (α := (List Nd) × (Bool)) (fun | (nds, c) => nds.length ≤ 1000 ) (fun | (nds, c) => [.lst (nds.map Nd.d), kindsD c]) (fun | (nds, c) => (.val (.nl (natsD (posN (selK c) nds)))))
class H_law_of_kind (G : Gm) : Prop where m : Meets Sp_law_of_kind (G.fn 92)
theorem v_law_of_kind {G : Gm} [H : H_law_of_kind G] (nds : List Nd) (c : Bool) (h : nds.length ≤ 1000 ) {ds : List D} {M : Store} (v : Vws M ds [.lst (nds.map Nd.d), kindsD c]) (hl : ds.length = 2 := by rfl) : G.fn 92 ds M = Res.ok (.nl (natsD (posN (selK c) nds))) M := pure_call H.m hl (nds, c) h v
theorem c_law_of_kind {G : Gm} [H : H_law_of_kind G] (nds : List Nd) (c : Bool) (h : nds.length ≤ 1000 ) (M : Store) : G.fn 92 [.lst (nds.map Nd.d), kindsD c] M = Res.ok (.nl (natsD (posN (selK c) nds))) M := by
  have q : Cls [.lst (nds.map Nd.d), kindsD c] := by (repeat' (first | exact Cls.nil | exact Clf.nil | exact Clk.nil | refine Clk.cons ?_ ?_ | refine Cl.dic ?_ | refine Cls.cons ?_ ?_ | refine Clf.cons ?_ ?_ | exact Cl.int _ | exact Cl.bl _ | exact Cl.non | exact Cl.str _ | exact Cls.ints _ | assumption | exact Nd.cl _ | exact Cls.nds _ | exact Cls.nats _ | exact Cl.st _ | exact Cl.bd _ | exact Cls.bds _ | exact Cls.rows _ | exact Cl.grf _ | exact Cl.enc _ | refine Cl.tup ?_ | refine Cl.lst ?_ | refine Cl.arr ?_ | refine Cl.ins ?_ | refine Cls.map (fun _ => ?_) _))
  exact v_law_of_kind nds c h (q.1 M)
theorem r_law_of_kind {G : Gm} [Gl G] (nds : List Nd) (c : Bool) (h : nds.length ≤ 1000 ) : Runs (runF G b_law_of_kind 3) [.lst (nds.map Nd.d), kindsD c] ((.val (.nl (natsD (posN (selK c) nds))))) := by
  have m3 : small (nds.length : Int) := small_nat (by omega)
  have hl : lcGo (rngI 0 nds.length) [2] [some (.lst (nds.map Nd.d)), some (kindsD c), none] (evT G b_law_of_kind_C1c) (ev G b_law_of_kind_C1e) nds.length 0 [] [] = .ok (natsD (posN (selK c) nds)) [] :=
    lc_fil (n := nds.length) (it := fun i => .int (0 + (i : Int))) (fun i => selK c (nds.getD i default)) natD (fun i => rng_nx) (by omega) (Nat.le_refl _) fun i hi => ⟨_, rfl, by
      rw [Int.zero_add]
      simp?! [b_law_of_kind_C1c, idx_nd hi, idx_kind, in_kinds], fun _ => by
      rw [Int.zero_add]
      simp?! [b_law_of_kind_C1e]⟩
  refine Runs.new0 (xs := natsD (posN (selK c) nds)) (N := []) ?_ (Ffs.nats _)
  dsimp? [b_law_of_kind, if_pos m3, toNat_nat, hl]
theorem sh_law_of_kind {T : Tb} {G : Gm} [Gl G] : Shows T Sp_law_of_kind (runF G b_law_of_kind 3) := pure_shows (fun | (nds, c), h => r_law_of_kind nds c h)
theorem wk_kinds {c : Bool} : (kindsD c).wk = kindsD c := (Cl.enc c).2
def Sp_law_calling : Spec := pureSp 1 (α := (List Nd)) (fun nds => nds.length ≤ 1000 ) (fun nds => [.lst (nds.map Nd.d)]) (fun nds => (.val (.nl (natsD (posN Nd.isCall nds)))))
class H_law_calling (G : Gm) : Prop where m : Meets Sp_law_calling (G.fn 31)
theorem v_law_calling {G : Gm} [H : H_law_calling G] (nds : List Nd) (h : nds.length ≤ 1000 ) {ds : List D} {M : Store} (v : Vws M ds [.lst (nds.map Nd.d)]) (hl : ds.length = 1 := by rfl) : G.fn 31 ds M = Res.ok (.nl (natsD (posN Nd.isCall nds))) M := pure_call H.m hl nds h v
theorem c_law_calling {G : Gm} [H : H_law_calling G] (nds : List Nd) (h : nds.length ≤ 1000 ) (M : Store) : G.fn 31 [.lst (nds.map Nd.d)] M = Res.ok (.nl (natsD (posN Nd.isCall nds))) M := by
  have q : Cls [.lst (nds.map Nd.d)] := by (repeat' (first | exact Cls.nil | exact Clf.nil | exact Clk.nil | refine Clk.cons ?_ ?_ | refine Cl.dic ?_ | refine Cls.cons ?_ ?_ | refine Clf.cons ?_ ?_ | exact Cl.int _ | exact Cl.bl _ | exact Cl.non | exact Cl.str _ | exact Cls.ints _ | assumption | exact Nd.cl _ | exact Cls.nds _ | exact Cls.nats _ | exact Cl.st _ | exact Cl.bd _ | exact Cls.bds _ | exact Cls.rows _ | exact Cl.grf _ | exact Cl.enc _ | refine Cl.tup ?_ | refine Cl.lst ?_ | refine Cl.arr ?_ | refine Cl.ins ?_ | refine Cls.map (fun _ => ?_) _))
  exact v_law_calling nds h (q.1 M)
theorem r_law_calling {G : Gm} [Gl G] [H_law_of_kind G] (nds : List Nd) (h : nds.length ≤ 1000 ) : Runs (runF G b_law_calling 1) [.lst (nds.map Nd.d)] ((.val (.nl (natsD (posN Nd.isCall nds))))) := by
  have q := c_law_of_kind (G := G) nds true h []
  unfold kindsD selK at q
  exact Runs.nl (xs := natsD (posN Nd.isCall nds)) (N := []) (by simp? [b_law_calling, wks_nds, q]) (Ffs.nats _)
theorem sh_law_calling {T : Tb} {G : Gm} [Gl G] [H_law_of_kind G] : Shows T Sp_law_calling (runF G b_law_calling 1) := pure_shows (fun | nds, h => r_law_calling nds h)
theorem vw_nd {M : Store} {x : D} {nd : Nd} (h : Vw M x nd.d) : x = nd.d := by
  have sc : ∀ {x : D} {k : Str}, Vw M x (.str k) → x = .str k := fun h => by cases h; rfl
  have si : ∀ {x : D} {k : Int}, Vw M x (.int k) → x = .int k := fun h => by cases h; rfl
  have e0 : ∀ {xs : List D}, Vws M xs [] → xs = [] := fun h => by cases h; rfl
  have e1 : ∀ {xs : List D} {k : Str}, Vws M xs [.str k] → xs = [.str k] := fun h => by cases h with | cons h t => rw [sc h, e0 t]
  have e2 : ∀ {xs : List D} {k : Str} {i : Int}, Vws M xs [.str k, .int i] → xs = [.str k, .int i] := fun h => by cases h with | cons h t => cases t with | cons h2 t => rw [sc h, si h2, e0 t]
  have e3 : ∀ {xs : List D} {k : Str} {i j : Int}, Vws M xs [.str k, .int i, .int j] → xs = [.str k, .int i, .int j] := fun h => by cases h with | cons h t => cases t with | cons h2 t => cases t with | cons h3 t => rw [sc h, si h2, si h3, e0 t]
  cases nd <;> (cases h with | tup h => (first | rw [e1 h] | rw [e2 h] | rw [e3 h]) <;> rfl)
theorem vws_nds {M : Store} : ∀ {xs : List D} {nds : List Nd}, Vws M xs (nds.map Nd.d) → xs = nds.map Nd.d
  | [], [], _ => rfl
  | [], _ :: _, h => by cases h
  | _ :: _, [], h => by cases h
  | x :: xs, nd :: nds, h => by
    cases h with
    | cons h t => rw [vw_nd h, vws_nds t] <;> rfl
theorem vw_nds {M : Store} {a : D} {nds : List Nd} (h : Vw M a (.lst (nds.map Nd.d))) : asM M a = some (nds.map Nd.d) := by
  cases h with
  | lst h => exact congrArg some (vws_nds h)
  | nl h => exact congrArg some (vws_nds h)
  | rlst e h => simp only [asM, e, vws_nds h]
abbrev grM (nds : List Nd) : MO := .ins 3 [(16, .nl (nds.map Nd.d))]
def Sp_Graph_init : Spec := ⟨2, fun ds M => ∃ s a nds, ds = [.ref s, a] ∧ M[s]? = some (.ins 3 []) ∧ Vw M a (.lst (nds.map Nd.d)) ∧ Rt nds,
  fun ds M r => ∀ s a nds, ds = [.ref s, a] → M[s]? = some (.ins 3 []) → Vw M a (.lst (nds.map Nd.d)) → Rt nds → r = .ok .non (M.set s (grM nds))⟩
class H_Graph_init (G : Gm) : Prop where m : Meets Sp_Graph_init (G.fn 235)
theorem c_Graph_init {G : Gm} [H : H_Graph_init G] {s : Nat} {a : D} {nds : List Nd} {M : Store} (hs : M[s]? = some (.ins 3 [])) (ha : Vw M a (.lst (nds.map Nd.d))) (hr : Rt nds) : G.fn 235 [.ref s, a] M = .ok .non (M.set s (grM nds)) :=
  H.m _ M rfl ⟨s, a, nds, rfl, hs, ha, hr⟩ s a nds rfl hs ha hr
theorem asL_asM {M : Store} {a : D} {xs : List D} (h : asM M a = some xs) : asL M a = some xs := by cases a <;> first | exact h | cases h
theorem lenO_asM {M : Store} {a : D} {xs : List D} (h : asM M a = some xs) : lenO M a = some xs.length := by
  cases a with
  | lst ys => cases h; rfl
  | nl ys => cases h; rfl
  | ref l =>
    simp only [asM] at h
    cases e : M[l]? with
    | none => rw [e] at h; cases h
    | some o =>
      rw [e] at h
      cases o with
      | lst ys => cases h; simp only [lenO, e]
      | _ => cases h
  | _ => cases h
def graph_rest : S := (.seq (.for_ [2] (.rng1 (.blt .len (.cons (.var 1) .nil))) b_Graph_init_L1) (.seq (.setA (.var 0) 16 (.fz (.lof (.var 1)))) .nil))
theorem sh_Graph_init {T : Tb} {G : Gm} [Gl G] [H_u_fault G] : Shows T Sp_Graph_init (runF G b_Graph_init 4) := by
  rintro ds M hl ⟨s, a, nds, rfl, hs, ha, hr⟩
  have hm := hr.many
  have h1 := hr.one
  have hA := vw_nds ha
  have hlen : bltD .len [a] M = .ok (.int (nds.length : Int)) M := by rw [blt_len (lenO_asM hA), List.length_map]
  have m1 : (1 ≤ (nds.length : Int)) = True := eq_true (by omega)
  have m2 : ((nds.length : Int) ≤ 12) = True := eq_true (by omega)
  have m3 : small (nds.length : Int) := small_nat (by omega)
  have key := for_all (J := rngI 0 nds.length) (tg := [2]) (b := exec G b_Graph_init_L1) (n := nds.length) (it := fun i => .int (0 + i)) (fun i env M' => M' = M ∧ ∃ y z, env = [some (.ref s), some a, y, z]) (fun i env M' h => rng_nx)
    (fun i env M' hi h => by
      obtain ⟨rfl, y, z, rfl⟩ := h
      have hw : ∀ p : Nat, wks [a, natD p] = [a.wk, natD p] := fun p => by simp? [natD]
      have va : Vws M' [a.wk, natD i] [.lst (nds.map Nd.d), natD i] := by
        refine .cons ?_ (.cons (.int _) .nil)
        have wn : wks (nds.map Nd.d) = nds.map Nd.d := wks_nds
        cases a with
        | lst xs => cases ha with | lst h => rw [vws_nds h, wk_lst, wn]; exact .lst ((Cls.nds nds).1 _)
        | nl xs => cases ha with | nl h => rw [vws_nds h, wk_nl, wn]; exact .lst ((Cls.nds nds).1 _)
        | ref l => exact ha
        | _ => cases ha
      have q := v_u_fault (G := G) nds i ⟨hr, hi⟩ va
      refine ⟨_, [some (.ref s), some a, some (.int (0 + (i : Int))), some .non], M', rfl, ?_, rfl, _, _, rfl⟩
      simp? [b_Graph_init_L1, Int.zero_add, hw, q])
    (k := nds.length) (env := [some (.ref s), some a, none, none]) (M := M) (Nat.le_refl _) ⟨rfl, _, _, rfl⟩
  obtain ⟨env', M', h2, h3, y, z, h4⟩ := key
  subst h3 h4
  have hp : putA G (.ref s) 16 (.nl (nds.map Nd.d)) M' = some (M'.set s (grM nds)) := by
    simp only [putA, hs, cfl_nodes]
    rfl
  have run : runF G b_Graph_init 4 [.ref s, a] M' = .ok .non (M'.set s (grM nds)) := by
    simp?! [b_Graph_init, hlen, m1, m2, if_pos m3, toNat_nat, rng_n, h2, asS_asL (asL_asM hA), hp]
  refine ⟨_, Ent.of run, ?_⟩
  rintro s2 a2 nds2 e hs2 ha2 hr2
  injection e with e1 e2
  injection e1 with e1
  injection e2 with e2
  subst e1 e2
  have hA2 := vw_nds ha2
  rw [hA] at hA2
  show _ = Res.ok D.non (M'.set s (.ins 3 [(16, .nl (nds2.map Nd.d))]))
  rw [← Option.some.inj hA2]
theorem dat_asM {M : Store} {n : Nat} {d : D} {xs : List D} (h : asM M d = some xs) : dat M (n + 1) d = (mapO (dat M n) xs).map .list := by
  cases d with
  | lst ys => cases h; rfl
  | nl ys => cases h; rfl
  | ref l =>
    simp only [asM] at h
    cases e : M[l]? with
    | none => rw [e] at h; cases h
    | some o =>
      rw [e] at h
      cases o with
      | lst ys => cases h; simp only [dat, e]
      | _ => cases h
  | _ => cases h
theorem mapO_map {α β γ : Type} {f : β → Option γ} {g : α → β} {k : α → γ} (h : ∀ a, f (g a) = some (k a)) : ∀ xs : List α, mapO f (xs.map g) = some (xs.map k)
  | [] => rfl
  | x :: xs => by simp only [List.map_cons, mapO, h x, mapO_map h xs]
theorem eqB_of {M : Store} {a b : D} {p : PyData} (ha : dat M 12 a = some p) (hb : dat M 12 b = some p) (hp : p.plain = true) : eqB M a b = some true := by
  have q : PyData.eqv p p = true := PySem.SeqAt.eqv_refl_plain _ hp
  unfold eqB
  split
  · cases ha; cases hb; simp
  · rename_i x y
    have e1 : (if PyData.strOk x then some (PyData.str x) else none) = some p := ha
    have e2 : (if PyData.strOk y then some (PyData.str y) else none) = some p := hb
    split at e1
    · split at e2
      · cases e1; cases e2; simp
      · cases e2
    · cases e1
  · cases ha; cases hb; simp
  · simp only [ha, hb, q]
theorem plain_ints : ∀ ns : List Int, PyData.plainAll (ns.map PyData.int) = true
  | [] => rfl
  | n :: ns => by simp only [List.map_cons, PyData.plainAll, PyData.plain, plain_ints ns, Bool.and_true]
theorem eqB_ints {M : Store} {a b : D} {ns : List Int} (h1 : asM M a = some (ns.map D.int)) (h2 : asM M b = some (ns.map D.int)) : eqB M a b = some true :=
  eqB_of (p := .list (ns.map .int)) (by rw [dat_asM h1, mapO_map (f := dat M 11) (g := D.int) (k := PyData.int) (fun i => rfl)] <;> rfl) (by rw [dat_asM h2, mapO_map (f := dat M 11) (g := D.int) (k := PyData.int) (fun i => rfl)] <;> rfl) (by simp only [PyData.plain]; exact plain_ints ns)
theorem eqB_nats {M : Store} {a b : D} {ns : List Nat} (h1 : asM M a = some (natsD ns)) (h2 : asM M b = some (natsD ns)) : eqB M a b = some true := by
  have e : natsD ns = (ns.map fun (n : Nat) => (n : Int)).map D.int := by rw [List.map_map] <;> rfl
  rw [e] at h1 h2
  exact eqB_ints h1 h2
def Nd.dt : Nd → PyData
  | src => .tuple [.str (tx 10)]
  | map p => .tuple [.str (tx 0), .int (p : Int)]
  | filter p => .tuple [.str (tx 1), .int (p : Int)]
  | whil p => .tuple [.str (tx 2), .int (p : Int)]
  | take n p => .tuple [.str (tx 5), .int (n : Int), .int (p : Int)]
  | drop n p => .tuple [.str (tx 6), .int (n : Int), .int (p : Int)]
  | window n p => .tuple [.str (tx 7), .int (n : Int), .int (p : Int)]
  | scan s p => .tuple [.str (tx 3), .int s, .int (p : Int)]
  | zip p q => .tuple [.str (tx 8), .int (p : Int), .int (q : Int)]
  | merge p q => .tuple [.str (tx 4), .int (p : Int), .int (q : Int)]
theorem tx_ok : ∀ i : Nat, i < 67 → PyData.strOk (tx i) = true := by decide +kernel
theorem dat_nd {M : Store} {n : Nat} (nd : Nd) : dat M (n + 2) nd.d = some nd.dt := by
  cases nd <;> simp [dat, Nd.d, Nd.dt, mapO, tx_ok]
theorem plain_nd (nd : Nd) : nd.dt.plain = true := by cases nd <;> simp [Nd.dt, PyData.plain, PyData.plainAll]
theorem plain_nds : ∀ nds : List Nd, PyData.plainAll (nds.map Nd.dt) = true
  | [] => rfl
  | nd :: nds => by simp only [List.map_cons, PyData.plainAll, plain_nd, plain_nds nds, Bool.and_true]
theorem eqB_nds {M : Store} {a b : D} {nds : List Nd} (h1 : asM M a = some (nds.map Nd.d)) (h2 : asM M b = some (nds.map Nd.d)) : eqB M a b = some true :=
  eqB_of (p := .list (nds.map Nd.dt)) (by rw [dat_asM h1, mapO_map (f := dat M 11) (g := Nd.d) (k := Nd.dt) dat_nd] <;> rfl) (by rw [dat_asM h2, mapO_map (f := dat M 11) (g := Nd.d) (k := Nd.dt) dat_nd] <;> rfl) (by simp only [PyData.plain]; exact plain_nds nds)
end Lp

namespace Lp
open PySem
local macro_rules | `(tactic| simp?! [$args,*] $[$loc]?) => `(tactic| simp -implicitDefEqProofs only [$args,*, runF, natD, natsD, vOk_e, ev_var, ev_non, ev_bl, ev_int, ev_str, ev_gco, cB1_e, ev_bin, ev_neg, cC1_e, ev_cmp, cH3_t, cH3_f, cH2_e, cH1_e, ev_chn, cAnd_t, cAnd_f, ev_andv, cOr_t, cOr_f, ev_orv, cNot_e, ev_notv, cIfe_t, cIfe_f, ev_ife, cI1_e, ev_idx, cS2_e, cS1_e, ev_slt, cAt_e, ev_att, ev_call, cCall_e, cM2_e, cM1_e, ev_mth, mkK_e, cMk_e, ev_mk, ev_blt, cIs_e, ev_isi, appK_e, cA2_e, appP_e, cA1_e, ev_app, cTup_e, ev_tup, cFz_e, ev_fz, cFr_e, ev_fr, cMu_e, ev_mu, bOk_e, cTru_e, evT_tru, cTa_t, cTa_f, evT_tand, cTo_t, cTo_f, evT_tor, cTn_e, evT_tnot, evs_nil, cCo2_e, cCo1_e, evs_cons, evO_absent, cO_e, evO_tru, cDs_e, evL_dsp, cCt_e, evL_cat, cRp_e, evL_rep, cP2_e, cP1_e, evL_slp, lOk_e, cLo_e, evL_lof, cLc_e, evL_lc, iOk_e, cIt_e, evI_itm, cR1_e, evI_rng1, cR3_i, cR2_e, evI_rng2, cEn_e, evI_enu, cZ2_e, cZ1_e, evI_zip2, ex_nil, ex_pass, cSeq_n, cSeq_r, cSeq_b, ex_seq, cSet_e, ex_set, eOk_e, cSt_e, ex_setT, nxR_e, cSA2_e, cSA1_e, ex_setA, cSI3_e, cSI2_e, cSI1_e, ex_setI, cEx_e, ex_ex, cRet_e, ex_ret, ex_retN, ex_brk, cIf_t, cIf_f, ex_ife, cFor_e, ex_for, fin_ret, fin_nx, enK_e, idP_e, cIdn_e, ev_idn, popK_e, popz_e, ev_popz, ev_dem, cCalS_e, ev_cals, cMtS2_e, cMtS1_e, ev_mths, cMkS_e, ev_mks, smK_e, cSm_e, evL_sml, cRd3_i, cRd2_e, evI_rngd, cAu1_e, auP_e, ex_aug, aug_add, aug_sub, aaQ_e, cAA4_e, cAA3_e, cAA2_e, aaP_e, cAA1_e, ex_augA, cAI5_e, cAI4_e, cAI3_e, cAI2_e, cAI1_e, ex_augI, bind_ok, bind_bad, bind_exc, Lp.start, Gstr, Ggco, gc, GCD, setE, bin_add, bin_sub, cmpD, bRes, oRes, negD, truB_bl, truB_non, truB_int, isNon, eqB_int, eqB_str, eqB_bl, idx_tup, idx_lst, idx_arr, atI_0, atI_1, atI_2, atI_3, atI_4, atI_5, atI_6, atI_7, atI_8, atI_9, atI_10, atI_11,  slcT_1, slcT_2, slcT_21, inB_tup, inB_arr, inB_lst, flatD, eqF, tx_beq, List.all_cons, List.all_nil, List.any_cons, List.any_nil, Bool.and_true, Bool.true_and, Bool.and_false, Bool.false_and, Bool.or_false, Bool.or_true, Bool.true_or, Bool.false_or, Nat.reduceBEq, wipeE, itm_tup, itm_lst, itm_arr, List.map_cons, List.map_nil, List.cons_append, List.nil_append, List.length_cons, List.length_nil, List.getElem?_cons_zero, List.getElem?_cons_succ, List.getElem?_nil, List.set_cons_zero, List.set_cons_succ, List.getD_cons_zero, List.getD_cons_succ, List.replicate_succ, List.replicate_zero, Nat.reduceAdd, Nat.reduceSub, Nat.zero_add, Option.map_some, Option.map_none, Bool.not_true, Bool.not_false, ite_true, ite_false, if_true, if_false, reduceCtorEq, decide_true, decide_false, decide_eq_true_eq, tx_dec, Bool.false_eq_true, Nat.reduceEqDiff, Nat.reduceLT, Nat.reduceLeDiff, line_ok, line_lt, lcG_s, lcG_0, lcG_n, lcX_n, lcX_s, lcB_s, lcC_t, lcC_f, lcE_o, bindG_1, id_eq, nc_0, nc_1, nc_2, nc_3, nc_4, nc_5, nc_6, nc_7, nc_8, nc_9, nc_10, nc_11, nc_12,  Int.reduceEq, Int.reduceLT, Int.reduceLE, Int.reduceNeg, Int.reduceAdd, Int.reduceSub, Int.reduceMul, Option.bind_some, dInts_1, dInts_2, minL_1, minL_2, List.sum_cons, List.sum_nil, Int.add_zero, idx_nl, inB_nl, itm_nl, wk_non, wk_bl, wk_int, wk_str, wk_ref, wk_tup, wk_lst, wk_nl, wk_arr, wk_ins, wk_no, wk_dic, wks_nil, wks_cons, wkf_nil, wkf_cons, wkk_nil, wkk_cons, wks_ints] $[$loc]?)
def strSp (ar : Nat) {α : Type} (pre : α → Prop) (args : α → List D) (res : α → D) : Spec :=
  ⟨ar, fun ds M => ∃ a, pre a ∧ Vks M [] ds (args a), fun ds M r => ∀ a, pre a → Vks M [] ds (args a) → r = .ok (res a) M⟩
mutual
theorem Ff.fe {N : Store} {r : Nat → Option Nat} (hr : ∀ j, r j = none) : ∀ {d t : D}, Ff N [] d t → Fe N r d t
  | _, _, .non => .non
  | _, _, .bl _ => .bl _
  | _, _, .int _ => .int _
  | _, _, .str _ => .str _
  | _, _, .tup h => .tup (h.fe hr)
  | _, _, .lst _ e h => .lst (hr _) e (h.fe hr)
  | _, _, .ins _ e h => .ins (hr _) e (h.fe hr)
  | _, _, .nl h => .nl (h.fe hr)
  | _, _, .no h => .no (h.fe hr)
theorem Ffs.fe {N : Store} {r : Nat → Option Nat} (hr : ∀ j, r j = none) : ∀ {d t : List D}, Ffs N [] d t → Fes N r d t
  | _, _, .nil => .nil
  | _, _, .cons h t => .cons (h.fe hr) (t.fe hr)
theorem Fff.fe {N : Store} {r : Nat → Option Nat} (hr : ∀ j, r j = none) : ∀ {d t : List (Nat × D)}, Fff N [] d t → Fef N r d t
  | _, _, .nil => .nil
  | _, _, .cons h t => .cons (h.fe hr) (t.fe hr)
end
theorem rho_nil {m : Nat} : ∀ j, rho m [] [] j = none := fun j => by
  unfold rho
  rw [if_neg (by simp)]
  rfl
section
variable {T : Tb} {φ : Fn} {ar : Nat} {α : Type} {pre : α → Prop} {args : α → List D} {res : α → D}
theorem str_shows (h : ∀ a, pre a → Runs φ (args a) (.val (res a))) : Shows T (strSp ar pre args res) φ := by
  rintro ds M hl ⟨a, pa, va⟩
  obtain ⟨d, N, e, f⟩ := h a pa
  refine ⟨_, Ent.keep (M2 := M) (kp := []) (pk := []) (M' := []) ⟨rfl, List.nodup_nil, fun j l z => by cases z⟩ va e ⟨List.nodup_nil, fun j z => absurd z List.not_mem_nil, rfl, fun _ _ _ => rfl, fun j l z => by rw [rho_nil] at z; cases z⟩ (f.fe rho_nil), ?_⟩
  intro b pb vb
  obtain ⟨d2, N2, e2, f2⟩ := h b pb
  rw [← va.det List.nodup_nil vb, e] at e2
  cases e2
  rw [f.det f2]
theorem str_call (m : Meets (strSp ar pre args res) φ) {ds : List D} {M : Store} (hl : ds.length = ar) (a : α) (pa : pre a) (va : Vks M [] ds (args a)) : φ ds M = .ok (res a) M := m ds M hl ⟨a, pa, va⟩ a pa va
end
def Cs (d : D) : Prop := ∀ M pk, Vk M pk d d
def Css (ds : List D) : Prop := ∀ M pk, Vks M pk ds ds
theorem Cl.cs {d : D} (h : Cl d) : Cs d := fun M _ => h.vk M
theorem Cls.css {d : List D} (h : Cls d) : Css d := fun M _ => h.vk M
theorem Css.nil : Css [] := fun _ _ => .nil
theorem Css.cons {d : D} {ds : List D} (h : Cs d) (t : Css ds) : Css (d :: ds) := fun M pk => .cons (h M pk) (t M pk)
theorem Cs.int (i : Int) : Cs (.int i) := fun _ _ => .int i
theorem Cs.str (i : Str) : Cs (.str i) := fun _ _ => .str i
theorem Cs.bl (i : Bool) : Cs (.bl i) := fun _ _ => .bl i
theorem Cs.non : Cs .non := fun _ _ => .non
theorem Cs.nl {ds : List D} (h : Css ds) : Cs (.nl ds) := fun M pk => .nl (h M pk)
theorem Cs.tup {ds : List D} (h : Css ds) : Cs (.tup ds) := fun M pk => .tup (h M pk)
theorem Css.map {α : Type} {f : α → D} (h : ∀ x, Cs (f x)) : ∀ xs : List α, Css (xs.map f)
  | [] => .nil
  | x :: xs => .cons (h x) (.map h xs)
theorem Css.ints (ns : List Int) : Css (ns.map D.int) := .map (fun _ => Cs.int _) ns
abbrev Rows := List (List Int)
def rowD (r : List Int) : D := .nl (r.map D.int)
def rowW (r : List Int) : D := .lst (r.map D.int)
def rowsD (rs : Rows) : D := .nl (rs.map rowD)
def rowsW (rs : Rows) : D := .lst (rs.map rowW)
theorem Cs.row (r : List Int) : Cs (rowD r) := .nl (.ints r)
theorem Cs.rows (r : Rows) : Cs (rowsD r) := .nl (.map Cs.row r)
theorem Css.rowss (r : List Rows) : Css (r.map rowsD) := .map Cs.rows r
theorem Cl.rowW (r : List Int) : Cl (rowW r) := .lst (.ints r)
theorem Cl.rowsW (r : Rows) : Cl (rowsW r) := .lst (.map Cl.rowW r)
theorem Cls.rows (r : Rows) : Cls (r.map rowW) := .map Cl.rowW r
theorem wk_row {r : List Int} : (rowD r).wk = rowW r := by unfold rowD rowW; rw [wk_nl, wks_ints]
theorem wk_rowW {r : List Int} : (rowW r).wk = rowW r := (Cl.rowW r).2
theorem wk_rows {r : Rows} : (rowsD r).wk = rowsW r := by unfold rowsD rowsW; rw [wk_nl, wks_map (fun _ => wk_row)]
theorem Ff.row {N : Store} {av : List Nat} (r : List Int) : Ff N av (rowD r) (rowD r) := .nl (.ints r)
theorem Ffs.rows {N : Store} {av : List Nat} (r : Rows) : Ffs N av (r.map rowD) (r.map rowD) := .map fun _ _ => .row _
theorem Ff.rows {N : Store} {av : List Nat} (r : Rows) : Ff N av (rowsD r) (rowsD r) := .nl (.rows r)
theorem dInts_map : ∀ ns : List Int, dInts (ns.map D.int) = some ns
  | [] => rfl
  | n :: ns => by
    have e := dInts_map ns
    unfold dInts at e ⊢
    simp only [List.map_cons, mapO, e]
theorem sum_e {M : Store} {a : D} {ns : List Int} (h : asM M a = some (ns.map D.int)) : bltD .sum [a] M = .ok (.int ns.sum) M := by
  simp only [bltD, blt1, h, Option.bind_some, dInts_map]
theorem sum_row {M : Store} {r : List Int} : bltD .sum [rowD r] M = .ok (.int r.sum) M := sum_e rfl
theorem sum_rowW {M : Store} {r : List Int} : bltD .sum [rowW r] M = .ok (.int r.sum) M := sum_e rfl
theorem sum_ints {M : Store} {r : List Int} : bltD .sum [.lst (r.map D.int)] M = .ok (.int r.sum) M := sum_e rfl
structure Rl where
  a : Int
  b : Int
  c : Int
  deriving Inhabited
def Rl.d (r : Rl) : D := .tup [.int r.a, .int r.b, .int r.c]
def Rl.ok (r : Rl) : Prop := (-9 ≤ r.a ∧ r.a ≤ 9) ∧ (-9 ≤ r.b ∧ r.b ≤ 9) ∧ -9 ≤ r.c ∧ r.c ≤ 9
theorem Cl.rl (r : Rl) : Cl r.d := .tup (.cons (.int _) (.cons (.int _) (.cons (.int _) .nil)))
theorem Cs.rl (r : Rl) : Cs r.d := (Cl.rl r).cs
theorem wk_rl {r : Rl} : r.d.wk = r.d := (Cl.rl r).2
theorem Ff.rl {N : Store} {av : List Nat} (r : Rl) : Ff N av r.d r.d := .tup (.cons (.int _) (.cons (.int _) (.cons (.int _) .nil)))
inductive Ask where
  | map (x : List Int) (i : Nat) | test (w : Bool) (x : List Int) (i : Nat) | scan (l x : List Int) (i : Nat) | merge (x y : List Int) (i j : Nat)
def kindT (w : Bool) : Str := if w then (tx 2) else (tx 1)
def Ask.kind : Ask → Str | map _ _ => (tx 0) | test w _ _ => kindT w | scan _ _ _ => (tx 3) | merge _ _ _ _ => (tx 4)
def Ask.rows : Ask → Rows | map x _ => [x] | test _ x _ => [x] | scan l x _ => [l, x] | merge x y _ _ => [x, y]
def Ask.ats : Ask → List Nat | map _ i => [i] | test _ _ i => [i] | scan _ _ i => [i] | merge _ _ i j => [i, j]
def Rl.map (r : Rl) (x : List Int) (i : Nat) : Int := (r.a * x.sum + r.b * i + r.c) % 1000
def Rl.test (r : Rl) (x : List Int) (i : Nat) : Bool := !decide ((r.a * x.sum + r.b * i + r.c) % 3 = 0)
def Rl.scan (r : Rl) (l x : List Int) (i : Nat) : Int := (r.a * l.sum + r.b * x.sum + r.c * i) % 1000
def Rl.merge (r : Rl) (x y : List Int) (i j : Nat) : Bool := decide (r.a * x.sum + r.c * i ≤ r.b * y.sum + r.c * j)
def Ask.val (r : Rl) : Ask → D
  | map x i => .int (r.map x i)
  | test _ x i => .bl (r.test x i)
  | scan l x i => .int (r.scan l x i)
  | merge x y i j => .bl (r.merge x y i j)
theorem Ask.ff {N : Store} {av : List Nat} (r : Rl) (q : Ask) : Ff N av (q.val r) (q.val r) := by cases q <;> unfold Ask.val <;> first | exact .int _ | exact .bl _
def Sp_by_rule : Spec := pureSp 4 (α := (Rl) × (Ask)) (fun | (r, q) => r.ok ) (fun | (r, q) => [.str q.kind, r.d, .lst (q.rows.map rowW), .lst (natsD q.ats)]) (fun | (r, q) => (.val (q.val r)))
class H_by_rule (G : Gm) : Prop where m : Meets Sp_by_rule (G.fn 152)
theorem v_by_rule {G : Gm} [H : H_by_rule G] (r : Rl) (q : Ask) (h : r.ok ) {ds : List D} {M : Store} (v : Vws M ds [.str q.kind, r.d, .lst (q.rows.map rowW), .lst (natsD q.ats)]) (hl : ds.length = 4 := by rfl) : G.fn 152 ds M = Res.ok (q.val r) M := pure_call H.m hl (r, q) h v
theorem c_by_rule {G : Gm} [H : H_by_rule G] (r : Rl) (q : Ask) (h : r.ok ) (M : Store) : G.fn 152 [.str q.kind, r.d, .lst (q.rows.map rowW), .lst (natsD q.ats)] M = Res.ok (q.val r) M := by
  have qc : Cls [.str q.kind, r.d, .lst (q.rows.map rowW), .lst (natsD q.ats)] := by (repeat' (first | exact Cls.nil | exact Clf.nil | exact Clk.nil | refine Clk.cons ?_ ?_ | refine Cl.dic ?_ | refine Cls.cons ?_ ?_ | refine Clf.cons ?_ ?_ | exact Cl.int _ | exact Cl.bl _ | exact Cl.non | exact Cl.str _ | exact Cls.ints _ | assumption | exact Nd.cl _ | exact Cls.nds _ | exact Cls.nats _ | exact Cl.st _ | exact Cl.bd _ | exact Cls.bds _ | exact Cls.rows _ | exact Cl.rowW _ | exact Cl.rowsW _ | exact Cl.rl _ | exact Cl.grf _ | exact Cl.enc _ | refine Cl.tup ?_ | refine Cl.lst ?_ | refine Cl.arr ?_ | refine Cl.ins ?_ | refine Cls.map (fun _ => ?_) _))
  exact v_by_rule r q h (qc.1 M)
theorem r_by_rule {G : Gm} [Gl G] (r : Rl) (q : Ask) (h : r.ok ) : Runs (runF G b_by_rule 9) [.str q.kind, r.d, .lst (q.rows.map rowW), .lst (natsD q.ats)] ((.val (q.val r))) := by
  refine Runs.of ?_ (q.ff r)
  obtain ⟨⟨a1, a2⟩, ⟨b1, b2⟩, c1, c2⟩ := h
  have ha : ∀ x : Int, binD .Mult (.int r.a) (.int x) [] = .ok (.int (r.a * x)) [] := fun x => bin_mul (mul_okL (by omega))
  have hb : ∀ x : Int, binD .Mult (.int r.b) (.int x) [] = .ok (.int (r.b * x)) [] := fun x => bin_mul (mul_okL (by omega))
  have hc : ∀ x : Int, binD .Mult (.int r.c) (.int x) [] = .ok (.int (r.c * x)) [] := fun x => bin_mul (mul_okL (by omega))
  have m1 : ∀ x : Int, binD .Mod (.int x) (.int 1000) [] = .ok (.int (x % 1000)) [] := fun x => bin_mod (by decide)
  have m3 : ∀ x : Int, binD .Mod (.int x) (.int 3) [] = .ok (.int (x % 3)) [] := fun x => bin_mod (by decide)
  cases q with
  | map x i => simp?! [b_by_rule, Ask.kind, Ask.rows, Ask.ats, Ask.val, Rl.d, Rl.map, bindT, sum_rowW, ha, hb, hc, m1]
  | test w x i => cases w <;> simp?! [b_by_rule, Ask.kind, kindT, Ask.rows, Ask.ats, Ask.val, Rl.d, Rl.test, bindT, sum_rowW, ha, hb, hc, m3]
  | scan l x i => simp?! [b_by_rule, Ask.kind, Ask.rows, Ask.ats, Ask.val, Rl.d, Rl.scan, bindT, sum_rowW, ha, hb, hc, m1]
  | merge x y i j => simp?! [b_by_rule, Ask.kind, Ask.rows, Ask.ats, Ask.val, Rl.d, Rl.merge, bindT, sum_rowW, ha, hb, hc]
theorem sh_by_rule {T : Tb} {G : Gm} [Gl G] : Shows T Sp_by_rule (runF G b_by_rule 9) := pure_shows (fun | (r, q), h => r_by_rule r q h)
def Sp_law_rule : Spec := pureSp 4 (α := (Rl) × (Ask)) (fun | (r, q) => r.ok ) (fun | (r, q) => [.str q.kind, r.d, .lst ((q.rows.map List.sum).map D.int), .lst (natsD q.ats)]) (fun | (r, q) => (.val (q.val r)))
class H_law_rule (G : Gm) : Prop where m : Meets Sp_law_rule (G.fn 107)
theorem v_law_rule {G : Gm} [H : H_law_rule G] (r : Rl) (q : Ask) (h : r.ok ) {ds : List D} {M : Store} (v : Vws M ds [.str q.kind, r.d, .lst ((q.rows.map List.sum).map D.int), .lst (natsD q.ats)]) (hl : ds.length = 4 := by rfl) : G.fn 107 ds M = Res.ok (q.val r) M := pure_call H.m hl (r, q) h v
theorem c_law_rule {G : Gm} [H : H_law_rule G] (r : Rl) (q : Ask) (h : r.ok ) (M : Store) : G.fn 107 [.str q.kind, r.d, .lst ((q.rows.map List.sum).map D.int), .lst (natsD q.ats)] M = Res.ok (q.val r) M := by
  have qc : Cls [.str q.kind, r.d, .lst ((q.rows.map List.sum).map D.int), .lst (natsD q.ats)] := by (repeat' (first | exact Cls.nil | exact Clf.nil | exact Clk.nil | refine Clk.cons ?_ ?_ | refine Cl.dic ?_ | refine Cls.cons ?_ ?_ | refine Clf.cons ?_ ?_ | exact Cl.int _ | exact Cl.bl _ | exact Cl.non | exact Cl.str _ | exact Cls.ints _ | assumption | exact Nd.cl _ | exact Cls.nds _ | exact Cls.nats _ | exact Cl.st _ | exact Cl.bd _ | exact Cls.bds _ | exact Cls.rows _ | exact Cl.rowW _ | exact Cl.rowsW _ | exact Cl.rl _ | exact Cl.grf _ | exact Cl.enc _ | refine Cl.tup ?_ | refine Cl.lst ?_ | refine Cl.arr ?_ | refine Cl.ins ?_ | refine Cls.map (fun _ => ?_) _))
  exact v_law_rule r q h (qc.1 M)
theorem r_law_rule {G : Gm} [Gl G] (r : Rl) (q : Ask) (h : r.ok ) : Runs (runF G b_law_rule 7) [.str q.kind, r.d, .lst ((q.rows.map List.sum).map D.int), .lst (natsD q.ats)] ((.val (q.val r))) := by
  refine Runs.of ?_ (q.ff r)
  obtain ⟨⟨a1, a2⟩, ⟨b1, b2⟩, c1, c2⟩ := h
  have ha : ∀ x : Int, binD .Mult (.int r.a) (.int x) [] = .ok (.int (r.a * x)) [] := fun x => bin_mul (mul_okL (by omega))
  have hb : ∀ x : Int, binD .Mult (.int r.b) (.int x) [] = .ok (.int (r.b * x)) [] := fun x => bin_mul (mul_okL (by omega))
  have hc : ∀ x : Int, binD .Mult (.int r.c) (.int x) [] = .ok (.int (r.c * x)) [] := fun x => bin_mul (mul_okL (by omega))
  have m1 : ∀ x : Int, binD .Mod (.int x) (.int 1000) [] = .ok (.int (x % 1000)) [] := fun x => bin_mod (by decide)
  have m3 : ∀ x : Int, binD .Mod (.int x) (.int 3) [] = .ok (.int (x % 3)) [] := fun x => bin_mod (by decide)
  cases q with
  | map x i => simp?! [b_law_rule, Ask.kind, Ask.rows, Ask.ats, Ask.val, Rl.d, Rl.map, bi_int, ha, hb, hc, m1]
  | test w x i => cases w <;> simp?! [b_law_rule, Ask.kind, kindT, Ask.rows, Ask.ats, Ask.val, Rl.d, Rl.test, bi_int, ha, hb, hc, m3]
  | scan l x i => simp?! [b_law_rule, Ask.kind, Ask.rows, Ask.ats, Ask.val, Rl.d, Rl.scan, bi_int, ha, hb, hc, m1]
  | merge x y i j => simp?! [b_law_rule, Ask.kind, Ask.rows, Ask.ats, Ask.val, Rl.d, Rl.merge, bi_int, ha, hb, hc]
theorem sh_law_rule {T : Tb} {G : Gm} [Gl G] : Shows T Sp_law_rule (runF G b_law_rule 7) := pure_shows (fun | (r, q), h => r_law_rule r q h)
end Lp

namespace Lp
open PySem
local macro_rules | `(tactic| simp?! [$args,*] $[$loc]?) => `(tactic| simp -implicitDefEqProofs only [$args,*, runF, natD, natsD, vOk_e, ev_var, ev_non, ev_bl, ev_int, ev_str, ev_gco, cB1_e, ev_bin, ev_neg, cC1_e, ev_cmp, cH3_t, cH3_f, cH2_e, cH1_e, ev_chn, cAnd_t, cAnd_f, ev_andv, cOr_t, cOr_f, ev_orv, cNot_e, ev_notv, cIfe_t, cIfe_f, ev_ife, cI1_e, ev_idx, cS2_e, cS1_e, ev_slt, cAt_e, ev_att, ev_call, cCall_e, cM2_e, cM1_e, ev_mth, mkK_e, cMk_e, ev_mk, ev_blt, cIs_e, ev_isi, appK_e, cA2_e, appP_e, cA1_e, ev_app, cTup_e, ev_tup, cFz_e, ev_fz, cFr_e, ev_fr, cMu_e, ev_mu, bOk_e, cTru_e, evT_tru, cTa_t, cTa_f, evT_tand, cTo_t, cTo_f, evT_tor, cTn_e, evT_tnot, evs_nil, cCo2_e, cCo1_e, evs_cons, evO_absent, cO_e, evO_tru, cDs_e, evL_dsp, cCt_e, evL_cat, cRp_e, evL_rep, cP2_e, cP1_e, evL_slp, lOk_e, cLo_e, evL_lof, cLc_e, evL_lc, iOk_e, cIt_e, evI_itm, cR1_e, evI_rng1, cR3_i, cR2_e, evI_rng2, cEn_e, evI_enu, cZ2_e, cZ1_e, evI_zip2, ex_nil, ex_pass, cSeq_n, cSeq_r, cSeq_b, ex_seq, cSet_e, ex_set, eOk_e, cSt_e, ex_setT, nxR_e, cSA2_e, cSA1_e, ex_setA, cSI3_e, cSI2_e, cSI1_e, ex_setI, cEx_e, ex_ex, cRet_e, ex_ret, ex_retN, ex_brk, cIf_t, cIf_f, ex_ife, cFor_e, ex_for, fin_ret, fin_nx, enK_e, idP_e, cIdn_e, ev_idn, popK_e, popz_e, ev_popz, ev_dem, cCalS_e, ev_cals, cMtS2_e, cMtS1_e, ev_mths, cMkS_e, ev_mks, smK_e, cSm_e, evL_sml, cRd3_i, cRd2_e, evI_rngd, cAu1_e, auP_e, ex_aug, aug_add, aug_sub, aaQ_e, cAA4_e, cAA3_e, cAA2_e, aaP_e, cAA1_e, ex_augA, cAI5_e, cAI4_e, cAI3_e, cAI2_e, cAI1_e, ex_augI, bind_ok, bind_bad, bind_exc, Lp.start, Gstr, Ggco, gc, GCD, setE, bin_add, bin_sub, cmpD, bRes, oRes, negD, truB_bl, truB_non, truB_int, isNon, eqB_int, eqB_str, eqB_bl, idx_tup, idx_lst, idx_arr, atI_0, atI_1, atI_2, atI_3, atI_4, atI_5, atI_6, atI_7, atI_8, atI_9, atI_10, atI_11,  slcT_1, slcT_2, slcT_21, inB_tup, inB_arr, inB_lst, flatD, eqF, tx_beq, List.all_cons, List.all_nil, List.any_cons, List.any_nil, Bool.and_true, Bool.true_and, Bool.and_false, Bool.false_and, Bool.or_false, Bool.or_true, Bool.true_or, Bool.false_or, Nat.reduceBEq, wipeE, itm_tup, itm_lst, itm_arr, List.map_cons, List.map_nil, List.cons_append, List.nil_append, List.length_cons, List.length_nil, List.getElem?_cons_zero, List.getElem?_cons_succ, List.getElem?_nil, List.set_cons_zero, List.set_cons_succ, List.getD_cons_zero, List.getD_cons_succ, List.replicate_succ, List.replicate_zero, Nat.reduceAdd, Nat.reduceSub, Nat.zero_add, Option.map_some, Option.map_none, Bool.not_true, Bool.not_false, ite_true, ite_false, if_true, if_false, reduceCtorEq, decide_true, decide_false, decide_eq_true_eq, tx_dec, Bool.false_eq_true, Nat.reduceEqDiff, Nat.reduceLT, Nat.reduceLeDiff, line_ok, line_lt, lcG_s, lcG_0, lcG_n, lcX_n, lcX_s, lcB_s, lcC_t, lcC_f, lcE_o, bindG_1, id_eq, nc_0, nc_1, nc_2, nc_3, nc_4, nc_5, nc_6, nc_7, nc_8, nc_9, nc_10, nc_11, nc_12,  Int.reduceEq, Int.reduceLT, Int.reduceLE, Int.reduceNeg, Int.reduceAdd, Int.reduceSub, Int.reduceMul, Option.bind_some, dInts_1, dInts_2, minL_1, minL_2, List.sum_cons, List.sum_nil, Int.add_zero, idx_nl, inB_nl, itm_nl, wk_non, wk_bl, wk_int, wk_str, wk_ref, wk_tup, wk_lst, wk_nl, wk_arr, wk_ins, wk_no, wk_dic, wks_nil, wks_cons, wkf_nil, wkf_cons, wkk_nil, wkk_cons, wks_ints] $[$loc]?)
theorem whi_all {c : Ev → Store → Res Bool} {b : Ev → Store → Res Out} (P : Nat → Ev → Store → Prop) (Q : Ev → Store → Prop)
    (step : ∀ k env M, P k env M → (c env M = .ok false M ∧ Q env M) ∨ (c env M = .ok true M ∧ ∃ k' env' M', k' < k ∧ b env M = .ok (.nx env') M' ∧ P k' env' M')) :
    ∀ (n k : Nat) (env : Ev) (M : Store), k ≤ n → P k env M → ∃ env' M', whiGo c b n env M = .ok (.nx env') M' ∧ Q env' M'
  | n, k, env, M, hk, hp => by
    rcases step k env M hp with ⟨h1, h2⟩ | ⟨h1, k', env', M', h2, h3, h4⟩
    · exact ⟨env, M, by unfold whiGo; rw [h1]; rfl, h2⟩
    · cases n with
      | zero => omega
      | succ n =>
        obtain ⟨env2, M2, q1, q2⟩ := whi_all P Q step n k' env' M' (by omega) h4
        refine ⟨env2, M2, ?_, q2⟩
        unfold whiGo
        rw [h1]
        simp only [bind_ok, h3]
        exact q1
def Ok1 (rs : Rows) : Prop := rs.length ≤ 400 ∧ ∀ r, r ∈ rs → r.length ≤ 12
theorem Ok1.at {rs : Rows} (h : Ok1 rs) (i : Nat) : (rs.getD i []).length ≤ 12 := by
  rw [List.getD_eq_getElem?_getD]
  cases e : rs[i]? with
  | none => simp
  | some r => exact h.2 r (List.mem_of_getElem? e)
def scanN (r : Rl) (s : Int) (rs : Rows) : Nat → Rows × List Int
  | 0 => ([], [s])
  | n + 1 => ((scanN r s rs n).1 ++ [[r.scan (scanN r s rs n).2 (rs.getD n []) n]], [r.scan (scanN r s rs n).2 (rs.getD n []) n])
theorem scanN_len (r : Rl) (s : Int) (rs : Rows) : ∀ n, (scanN r s rs n).1.length = n
  | 0 => rfl
  | n + 1 => by simp [scanN, scanN_len r s rs n]
def scanR (r : Rl) (s : Int) (rs : Rows) : Rows := (scanN r s rs rs.length).1
theorem app_row {l : Nat} {rs : Rows} {x : List Int} {M : Store} (h : rs.length ≤ 100000) : appK l (rowD x) (some (.lst (rs.map rowD))) M = .ok .non (M.set l (.lst ((rs ++ [x]).map rowD))) := by
  have hz : (rs.map rowD).length < sizeLine := by rw [List.length_map]; exact line_lt' h
  rw [appK_e, if_pos hz, List.map_append] <;> rfl
abbrev out1 (rs : Rows) : Store := [.lst (rs.map rowD)]
theorem app_1 {rs : Rows} {x : List Int} (h : rs.length ≤ 100000) : appK 0 (rowD x) (some (.lst (rs.map rowD))) (out1 rs) = .ok .non (out1 (rs ++ [x])) := app_row h
theorem Runs.out1 {φ : Fn} {ds : List D} {rs : Rows} (e : φ ds [] = .ok (.ref 0) (out1 rs)) : Runs φ ds (.val (rowsD rs)) := .new0 e (Ffs.rows rs)
def Sp_u_scanned : Spec := pureSp 3 (α := (Rl) × (Int) × (Rows)) (fun | (r, s, rs) => r.ok ∧ Ok1 rs ) (fun | (r, s, rs) => [r.d, .int s, rowsW rs]) (fun | (r, s, rs) => (.val (rowsD (scanR r s rs))))
class H_u_scanned (G : Gm) : Prop where m : Meets Sp_u_scanned (G.fn 139)
theorem v_u_scanned {G : Gm} [H : H_u_scanned G] (r : Rl) (s : Int) (rs : Rows) (h : r.ok ∧ Ok1 rs ) {ds : List D} {M : Store} (v : Vws M ds [r.d, .int s, rowsW rs]) (hl : ds.length = 3 := by rfl) : G.fn 139 ds M = Res.ok (rowsD (scanR r s rs)) M := pure_call H.m hl (r, s, rs) h v
theorem c_u_scanned {G : Gm} [H : H_u_scanned G] (r : Rl) (s : Int) (rs : Rows) (h : r.ok ∧ Ok1 rs ) (M : Store) : G.fn 139 [r.d, .int s, rowsW rs] M = Res.ok (rowsD (scanR r s rs)) M := by
  have qc : Cls [r.d, .int s, rowsW rs] := by (repeat' (first | exact Cls.nil | exact Clf.nil | exact Clk.nil | refine Clk.cons ?_ ?_ | refine Cl.dic ?_ | refine Cls.cons ?_ ?_ | refine Clf.cons ?_ ?_ | exact Cl.int _ | exact Cl.bl _ | exact Cl.non | exact Cl.str _ | exact Cls.ints _ | assumption | exact Nd.cl _ | exact Cls.nds _ | exact Cls.nats _ | exact Cl.st _ | exact Cl.bd _ | exact Cls.bds _ | exact Cls.rows _ | exact Cl.rowW _ | exact Cl.rowsW _ | exact Cl.rl _ | exact Cl.grf _ | exact Cl.enc _ | refine Cl.tup ?_ | refine Cl.lst ?_ | refine Cl.arr ?_ | refine Cl.ins ?_ | refine Cls.map (fun _ => ?_) _))
  exact v_u_scanned r s rs h (qc.1 M)
theorem r_u_scanned {G : Gm} [Gl G] [H_by_rule G] (r : Rl) (s : Int) (rs : Rows) (h : r.ok ∧ Ok1 rs ) : Runs (runF G b_u_scanned 7) [r.d, .int s, rowsW rs] ((.val (rowsD (scanR r s rs)))) := by
  obtain ⟨hr, ho, _⟩ := h
  have key := for_all (J := enuI ⟨rs.length, fun i _ => some (rs.map rowW)[i]?⟩) (tg := [5, 6]) (b := exec G b_u_scanned_L1) (n := rs.length) (it := fun i => .tup [.int (i : Int), rowW (rs.getD i [])])
    (fun i env M => M = out1 (scanN r s rs i).1 ∧ ∃ y5 y6, env = [some r.d, some (.int s), some (rowsW rs), some (.ref 0), some (rowD (scanN r s rs i).2), y5, y6]) (fun i env M' h => enu_nx [])
    (fun i env M hi h => by
      obtain ⟨rfl, y5, y6, rfl⟩ := h
      have v := c_by_rule (G := G) r (.scan (scanN r s rs i).2 (rs.getD i []) i) hr (out1 (scanN r s rs i).1)
      simp only [Ask.kind, Ask.rows, Ask.ats, Ask.val, List.map_cons, List.map_nil, natsD] at v
      have ap := app_1 (rs := (scanN r s rs i).1) (x := [r.scan (scanN r s rs i).2 (rs.getD i []) i]) (by rw [scanN_len]; omega)
      refine ⟨_, [some r.d, some (.int s), some (rowsW rs), some (.ref 0), some (rowD (scanN r s rs (i + 1)).2), some (.int (i : Int)), some (rowW (rs.getD i []))], _, rfl, ?_, rfl, _, _, rfl⟩
      have e : rowD [r.scan (scanN r s rs i).2 (rs.getD i []) i] = .nl [.int (r.scan (scanN r s rs i).2 (rs.getD i []) i)] := rfl
      rw [e] at ap
      simp?! [b_u_scanned_L1, wk_row, wk_rowW, wk_rl, v, ap]
      rfl) (k := rs.length) (env := [some r.d, some (.int s), some (rowsW rs), some (.ref 0), some (rowD [s]), none, none]) (M := out1 []) (Nat.le_refl _) ⟨rfl, _, _, rfl⟩
  obtain ⟨env', M', h2, h3, y5, y6, h4⟩ := key
  subst h3 h4
  refine Runs.out1 ?_
  have it : itmOf (out1 []) (rowsW rs) = some ⟨rs.length, fun i _ => some (rs.map rowW)[i]?⟩ := by unfold rowsW; rw [itm_lst, List.length_map]
  have e1 : rowD [s] = .nl [.int s] := rfl
  rw [e1] at h2
  have e2 : out1 [] = [MO.lst []] := rfl
  rw [e2] at h2 it
  simp?! [b_u_scanned, it, enu_n, h2]
  rfl
theorem sh_u_scanned {T : Tb} {G : Gm} [Gl G] [H_by_rule G] : Shows T Sp_u_scanned (runF G b_u_scanned 7) := pure_shows (fun | (r, s, rs), h => r_u_scanned r s rs h)
theorem idx_rowsW {rs : Rows} {i : Nat} {M : Store} (h : i < rs.length) : idxD (rowsW rs) (.int (i : Int)) M = .ok (rowW (rs.getD i [])) M := idx_lstM [] h
theorem idx_rowsD {rs : Rows} {i : Nat} {M : Store} (h : i < rs.length) : idxD (rowsD rs) (.int (i : Int)) M = .ok (rowD (rs.getD i [])) M := by
  unfold rowsD
  rw [idx_nl, atI_nat, List.getElem?_map, getD_mem (d := []) h] <;> rfl
theorem len_rowsW {rs : Rows} {M : Store} : bltD .len [rowsW rs] M = .ok (.int (rs.length : Int)) M := by unfold rowsW; rw [len_lst, List.length_map]
theorem len_rowsD {rs : Rows} {M : Store} : bltD .len [rowsD rs] M = .ok (.int (rs.length : Int)) M := by unfold rowsD; rw [len_nl, List.length_map]
theorem itm_rowsW {rs : Rows} {M : Store} : itmOf M (rowsW rs) = some ⟨rs.length, fun i _ => some (rs.map rowW)[i]?⟩ := by unfold rowsW; rw [itm_lst, List.length_map]
theorem itm_rowsD {rs : Rows} {M : Store} : itmOf M (rowsD rs) = some ⟨rs.length, fun i _ => some (rs.map rowD)[i]?⟩ := by unfold rowsD; rw [itm_nl, List.length_map]
def Sp_law_scanned : Spec := pureSp 3 (α := (Rl) × (Int) × (Rows)) (fun | (r, s, rs) => r.ok ∧ Ok1 rs ) (fun | (r, s, rs) => [r.d, .int s, rowsW rs]) (fun | (r, s, rs) => (.val (rowsD (scanR r s rs))))
class H_law_scanned (G : Gm) : Prop where m : Meets Sp_law_scanned (G.fn 110)
theorem v_law_scanned {G : Gm} [H : H_law_scanned G] (r : Rl) (s : Int) (rs : Rows) (h : r.ok ∧ Ok1 rs ) {ds : List D} {M : Store} (v : Vws M ds [r.d, .int s, rowsW rs]) (hl : ds.length = 3 := by rfl) : G.fn 110 ds M = Res.ok (rowsD (scanR r s rs)) M := pure_call H.m hl (r, s, rs) h v
theorem c_law_scanned {G : Gm} [H : H_law_scanned G] (r : Rl) (s : Int) (rs : Rows) (h : r.ok ∧ Ok1 rs ) (M : Store) : G.fn 110 [r.d, .int s, rowsW rs] M = Res.ok (rowsD (scanR r s rs)) M := by
  have qc : Cls [r.d, .int s, rowsW rs] := by (repeat' (first | exact Cls.nil | exact Clf.nil | exact Clk.nil | refine Clk.cons ?_ ?_ | refine Cl.dic ?_ | refine Cls.cons ?_ ?_ | refine Clf.cons ?_ ?_ | exact Cl.int _ | exact Cl.bl _ | exact Cl.non | exact Cl.str _ | exact Cls.ints _ | assumption | exact Nd.cl _ | exact Cls.nds _ | exact Cls.nats _ | exact Cl.st _ | exact Cl.bd _ | exact Cls.bds _ | exact Cls.rows _ | exact Cl.rowW _ | exact Cl.rowsW _ | exact Cl.rl _ | exact Cl.grf _ | exact Cl.enc _ | refine Cl.tup ?_ | refine Cl.lst ?_ | refine Cl.arr ?_ | refine Cl.ins ?_ | refine Cls.map (fun _ => ?_) _))
  exact v_law_scanned r s rs h (qc.1 M)
theorem r_law_scanned {G : Gm} [Gl G] [H_law_rule G] (r : Rl) (s : Int) (rs : Rows) (h : r.ok ∧ Ok1 rs ) : Runs (runF G b_law_scanned 6) [r.d, .int s, rowsW rs] ((.val (rowsD (scanR r s rs)))) := by
  obtain ⟨hr, ho, _⟩ := h
  have key := for_all (J := rngI 0 rs.length) (tg := [5]) (b := exec G b_law_scanned_L1) (n := rs.length) (it := fun i => .int (0 + i))
    (fun i env M => M = out1 (scanN r s rs i).1 ∧ ∃ y5, env = [some r.d, some (.int s), some (rowsW rs), some (.ref 0), some (.int (scanN r s rs i).2.sum), y5]) (fun i env M' h => rng_nx)
    (fun i env M hi h => by
      obtain ⟨rfl, y5, rfl⟩ := h
      have v := c_law_rule (G := G) r (.scan (scanN r s rs i).2 (rs.getD i []) i) hr (out1 (scanN r s rs i).1)
      simp only [Ask.kind, Ask.rows, Ask.ats, Ask.val, List.map_cons, List.map_nil, natsD] at v
      have ap := app_1 (rs := (scanN r s rs i).1) (x := [r.scan (scanN r s rs i).2 (rs.getD i []) i]) (by rw [scanN_len]; omega)
      have e0 : (0 : Int) + (i : Int) = (i : Int) := by omega
      rw [e0]
      refine ⟨_, [some r.d, some (.int s), some (rowsW rs), some (.ref 0), some (.int (scanN r s rs (i + 1)).2.sum), some (.int (i : Int))], _, rfl, ?_, rfl, _, rfl⟩
      have e : rowD [r.scan (scanN r s rs i).2 (rs.getD i []) i] = .nl [.int (r.scan (scanN r s rs i).2 (rs.getD i []) i)] := rfl
      have e2 : (scanN r s rs (i + 1)).2.sum = r.scan (scanN r s rs i).2 (rs.getD i []) i := by simp [scanN]
      rw [e] at ap
      rw [e2]
      simp?! [b_law_scanned_L1, wk_row, wk_rowW, wk_rl, idx_rowsW hi, sum_rowW, v, ap]
      rfl) (k := rs.length) (env := [some r.d, some (.int s), some (rowsW rs), some (.ref 0), some (.int [s].sum), none]) (M := out1 []) (Nat.le_refl _) ⟨rfl, _, rfl⟩
  obtain ⟨env', M', h2, h3, y5, h4⟩ := key
  subst h3 h4
  refine Runs.out1 ?_
  have e1 : [s].sum = s := by simp
  rw [e1] at h2
  have e2 : out1 [] = [MO.lst []] := rfl
  rw [e2] at h2
  simp?! [b_law_scanned, len_rowsW, if_pos (small_nat (n := rs.length) (by omega)), toNat_nat, rng_n, h2]
  rfl
theorem sh_law_scanned {T : Tb} {G : Gm} [Gl G] [H_law_rule G] : Shows T Sp_law_scanned (runF G b_law_scanned 6) := pure_shows (fun | (r, s, rs), h => r_law_scanned r s rs h)
def accN (r : Rl) (rs : Rows) : Nat → Rows
  | 0 => []
  | n + 1 => if r.test (rs.getD n []) n then accN r rs n ++ [rs.getD n []] else accN r rs n
theorem accN_len (r : Rl) (rs : Rows) : ∀ n, (accN r rs n).length ≤ n
  | 0 => Nat.le_refl _
  | n + 1 => by
    unfold accN
    have := accN_len r rs n
    split
    · rw [List.length_append]; simp; exact this
    · omega
def stopK (r : Rl) (rs : Rows) : Nat → Nat → Nat
  | 0, k => k
  | f + 1, k => if r.test (rs.getD k []) k then stopK r rs f (k + 1) else k
theorem stopK_is {r : Rl} {rs : Rows} {k : Nat} (h1 : ∀ j, j < k → r.test (rs.getD j []) j = true) (h2 : k < rs.length → r.test (rs.getD k []) k = false) (h3 : k ≤ rs.length) : ∀ (f j : Nat), j ≤ k → f + j = rs.length → stopK r rs f j = k
  | 0, j, hj, hf => by unfold stopK; omega
  | f + 1, j, hj, hf => by
    unfold stopK
    by_cases hk : j = k
    · subst hk; rw [if_neg (by rw [h2 (by omega)]; exact Bool.false_ne_true)]
    · rw [if_pos (h1 j (by omega))]; exact stopK_is h1 h2 h3 f (j + 1) (by omega) (by omega)
def accR (r : Rl) (w : Bool) (rs : Rows) : Rows := accN r rs (if w then stopK r rs rs.length 0 else rs.length)
theorem accR_stop {r : Rl} {rs : Rows} {k : Nat} (h1 : ∀ j, j < k → r.test (rs.getD j []) j = true) (h2 : r.test (rs.getD k []) k = false) (h3 : k < rs.length) : accR r true rs = accN r rs k := by
  unfold accR
  rw [if_pos rfl, stopK_is h1 (fun _ => h2) (by omega) _ 0 (by omega) rfl]
theorem accR_all {r : Rl} {w : Bool} {rs : Rows} (h1 : w = true → ∀ j, j < rs.length → r.test (rs.getD j []) j = true) : accR r w rs = accN r rs rs.length := by
  unfold accR
  cases w with
  | false => rfl
  | true => rw [if_pos rfl, stopK_is (h1 rfl) (fun z => absurd z (Nat.lt_irrefl _)) (Nat.le_refl _) _ 0 (by omega) rfl]
def Sp_u_accepted : Spec := strSp 3 (α := (Rl) × (Bool) × (Rows)) (fun | (r, w, rs) => r.ok ∧ Ok1 rs ) (fun | (r, w, rs) => [.str (kindT w), r.d, rowsD rs]) (fun | (r, w, rs) => rowsD (accR r w rs))
class H_u_accepted (G : Gm) : Prop where m : Meets Sp_u_accepted (G.fn 0)
theorem v_u_accepted {G : Gm} [H : H_u_accepted G] (r : Rl) (w : Bool) (rs : Rows) (h : r.ok ∧ Ok1 rs ) {ds : List D} {M : Store} (v : Vks M [] ds [.str (kindT w), r.d, rowsD rs]) (hl : ds.length = 3 := by rfl) : G.fn 0 ds M = Res.ok (rowsD (accR r w rs)) M := str_call H.m hl (r, w, rs) h v
theorem c_u_accepted {G : Gm} [H : H_u_accepted G] (r : Rl) (w : Bool) (rs : Rows) (h : r.ok ∧ Ok1 rs ) (M : Store) : G.fn 0 [.str (kindT w), r.d, rowsD rs] M = Res.ok (rowsD (accR r w rs)) M := by
  have qc : Css [.str (kindT w), r.d, rowsD rs] := by (repeat' (first | exact Css.nil | refine Css.cons ?_ ?_ | assumption | exact Cs.rows _ | exact Css.rowss _ | exact Cs.row _ | exact Cs.int _ | exact Cs.str _ | exact Cs.bl _ | exact Cs.non | exact (Nd.cl _).cs | exact Cs.rl _ | refine Cs.nl ?_ | refine Cs.tup ?_ | exact Css.ints _ | refine Css.map (fun _ => ?_) _))
  exact v_u_accepted r w rs h (qc M [])
theorem r_u_accepted {G : Gm} [Gl G] [H_by_rule G] (r : Rl) (w : Bool) (rs : Rows) (h : r.ok ∧ Ok1 rs ) : Runs (runF G b_u_accepted 6) [.str (kindT w), r.d, rowsD rs] ((.val (rowsD (accR r w rs)))) := by
  obtain ⟨hr, ho, _⟩ := h
  have key := for_out (J := enuI ⟨rs.length, fun i _ => some (rs.map rowD)[i]?⟩) (tg := [4, 5]) (b := exec G b_u_accepted_L1) (n := rs.length) (it := fun i => .tup [.int (i : Int), rowD (rs.getD i [])])
    (fun i env M => (w = true → ∀ j, j < i → r.test (rs.getD j []) j = true) ∧ M = out1 (accN r rs i) ∧ ∃ y4 y5, env = [some (.str (kindT w)), some r.d, some (rowsD rs), some (.ref 0), y4, y5])
    (fun env M => M = out1 (accR r w rs) ∧ ∃ y4 y5, env = [some (.str (kindT w)), some r.d, some (rowsD rs), some (.ref 0), y4, y5]) (fun _ _ => False) (fun _ _ _ => False) (fun i env M' h => enu_nx [])
    (fun i env M hi h => by
      obtain ⟨h1, rfl, y4, y5, rfl⟩ := h
      have v := c_by_rule (G := G) r (.test w (rs.getD i []) i) hr (out1 (accN r rs i))
      simp only [Ask.kind, Ask.rows, Ask.ats, Ask.val, List.map_cons, List.map_nil, natsD] at v
      have ap := app_1 (rs := accN r rs i) (x := rs.getD i []) (by have := accN_len r rs i; omega)
      refine ⟨[some (.str (kindT w)), some r.d, some (rowsD rs), some (.ref 0), some (.int (i : Int)), some (rowD (rs.getD i []))], rfl, ?_⟩
      cases ht : r.test (rs.getD i []) i with
      | true =>
        rw [ht] at v
        have e : exec G b_u_accepted_L1 [some (.str (kindT w)), some r.d, some (rowsD rs), some (.ref 0), some (.int (i : Int)), some (rowD (rs.getD i []))] (out1 (accN r rs i)) = .ok (.nx [some (.str (kindT w)), some r.d, some (rowsD rs), some (.ref 0), some (.int (i : Int)), some (rowD (rs.getD i []))]) (out1 (accN r rs i ++ [rs.getD i []])) := by
          cases w <;> (simp only [kindT, if_true, Bool.false_eq_true, if_false] at v; simp?! [b_u_accepted_L1, kindT, wk_row, wk_rowW, wk_rl, v, ap])
        rw [e]
        refine ⟨fun hw j hj => ?_, ?_, _, _, rfl⟩
        · by_cases hji : j = i
          · subst hji; exact ht
          · exact h1 hw j (by omega)
        · show _ = out1 (if r.test (rs.getD i []) i then _ else _)
          rw [if_pos ht]
      | false =>
        rw [ht] at v
        cases w with
        | true =>
          have e : exec G b_u_accepted_L1 [some (.str (kindT true)), some r.d, some (rowsD rs), some (.ref 0), some (.int (i : Int)), some (rowD (rs.getD i []))] (out1 (accN r rs i)) = .ok (.brk [some (.str (kindT true)), some r.d, some (rowsD rs), some (.ref 0), some (.int (i : Int)), some (rowD (rs.getD i []))]) (out1 (accN r rs i)) := by
            simp only [kindT, if_true, Bool.false_eq_true, if_false] at v
            simp?! [b_u_accepted_L1, kindT, wk_row, wk_rowW, wk_rl, v]
          rw [e]
          exact ⟨by rw [accR_stop (h1 rfl) ht hi], _, _, rfl⟩
        | false =>
          have e : exec G b_u_accepted_L1 [some (.str (kindT false)), some r.d, some (rowsD rs), some (.ref 0), some (.int (i : Int)), some (rowD (rs.getD i []))] (out1 (accN r rs i)) = .ok (.nx [some (.str (kindT false)), some r.d, some (rowsD rs), some (.ref 0), some (.int (i : Int)), some (rowD (rs.getD i []))]) (out1 (accN r rs i)) := by
            simp only [kindT, if_true, Bool.false_eq_true, if_false] at v
            simp?! [b_u_accepted_L1, kindT, wk_row, wk_rowW, wk_rl, v]
          rw [e]
          refine ⟨(fun hw => by cases hw), ?_, _, _, rfl⟩
          show _ = out1 (if r.test (rs.getD i []) i then _ else _)
          rw [if_neg (by rw [ht]; exact Bool.false_ne_true)])
    rs.length 0 [some (.str (kindT w)), some r.d, some (rowsD rs), some (.ref 0), none, none] (out1 []) (by omega) (Nat.zero_le _) ⟨fun _ j hj => absurd hj (Nat.not_lt_zero _), rfl, _, _, rfl⟩
  have fin : ∃ y4 y5, forGo (enuI ⟨rs.length, fun i _ => some (rs.map rowD)[i]?⟩) [4, 5] (exec G b_u_accepted_L1) rs.length 0 [some (.str (kindT w)), some r.d, some (rowsD rs), some (.ref 0), none, none] (out1 []) = .ok (.nx [some (.str (kindT w)), some r.d, some (rowsD rs), some (.ref 0), y4, y5]) (out1 (accR r w rs)) := by
    cases e : forGo (enuI ⟨rs.length, fun i _ => some (rs.map rowD)[i]?⟩) [4, 5] (exec G b_u_accepted_L1) rs.length 0 [some (.str (kindT w)), some r.d, some (rowsD rs), some (.ref 0), none, none] (out1 []) with
    | bad => rw [e] at key; exact key.elim
    | exc c fs M' => rw [e] at key; exact key.elim
    | ok o M' =>
      rw [e] at key
      cases o with
      | nx env' =>
        rcases key with ⟨k1, k2, y4, y5, k3⟩ | ⟨k2, y4, y5, k3⟩
        · subst k2 k3; exact ⟨y4, y5, by rw [accR_all k1]⟩
        · subst k2 k3; exact ⟨y4, y5, rfl⟩
      | brk env' => exact key.elim
      | ret d => exact key.elim
  obtain ⟨y4, y5, h2⟩ := fin
  refine Runs.out1 ?_
  have e2 : out1 [] = [MO.lst []] := rfl
  rw [e2] at h2
  simp?! [b_u_accepted, itm_rowsD, enu_n, h2]
theorem sh_u_accepted {T : Tb} {G : Gm} [Gl G] [H_by_rule G] : Shows T Sp_u_accepted (runF G b_u_accepted 6) := str_shows (fun | (r, w, rs), h => r_u_accepted r w rs h)
def Sp_law_kept_while : Spec := strSp 3 (α := (Rl) × (Bool) × (Rows)) (fun | (r, w, rs) => r.ok ∧ Ok1 rs ) (fun | (r, w, rs) => [r.d, rowsD rs, .bl w]) (fun | (r, w, rs) => rowsD (accR r w rs))
class H_law_kept_while (G : Gm) : Prop where m : Meets Sp_law_kept_while (G.fn 69)
theorem v_law_kept_while {G : Gm} [H : H_law_kept_while G] (r : Rl) (w : Bool) (rs : Rows) (h : r.ok ∧ Ok1 rs ) {ds : List D} {M : Store} (v : Vks M [] ds [r.d, rowsD rs, .bl w]) (hl : ds.length = 3 := by rfl) : G.fn 69 ds M = Res.ok (rowsD (accR r w rs)) M := str_call H.m hl (r, w, rs) h v
theorem c_law_kept_while {G : Gm} [H : H_law_kept_while G] (r : Rl) (w : Bool) (rs : Rows) (h : r.ok ∧ Ok1 rs ) (M : Store) : G.fn 69 [r.d, rowsD rs, .bl w] M = Res.ok (rowsD (accR r w rs)) M := by
  have qc : Css [r.d, rowsD rs, .bl w] := by (repeat' (first | exact Css.nil | refine Css.cons ?_ ?_ | assumption | exact Cs.rows _ | exact Css.rowss _ | exact Cs.row _ | exact Cs.int _ | exact Cs.str _ | exact Cs.bl _ | exact Cs.non | exact (Nd.cl _).cs | exact Cs.rl _ | refine Cs.nl ?_ | refine Cs.tup ?_ | exact Css.ints _ | refine Css.map (fun _ => ?_) _))
  exact v_law_kept_while r w rs h (qc M [])
theorem r_law_kept_while {G : Gm} [Gl G] [H_law_rule G] (r : Rl) (w : Bool) (rs : Rows) (h : r.ok ∧ Ok1 rs ) : Runs (runF G b_law_kept_while 5) [r.d, rowsD rs, .bl w] ((.val (rowsD (accR r w rs)))) := by
  obtain ⟨hr, ho, _⟩ := h
  have key := for_ret (J := rngI 0 rs.length) (tg := [4]) (b := exec G b_law_kept_while_L1) (n := rs.length) (it := fun i => .int (0 + i))
    (fun i env M => (w = true → ∀ j, j < i → r.test (rs.getD j []) j = true) ∧ M = out1 (accN r rs i) ∧ ∃ y4, env = [some r.d, some (rowsD rs), some (.bl w), some (.ref 0), y4])
    (fun d M => d = .ref 0 ∧ M = out1 (accR r w rs)) (fun i env M' h => rng_nx)
    (fun i env M hi h => by
      obtain ⟨h1, rfl, y4, rfl⟩ := h
      have v := c_law_rule (G := G) r (.test false (rs.getD i []) i) hr (out1 (accN r rs i))
      simp only [Ask.kind, Ask.rows, Ask.ats, Ask.val, List.map_cons, List.map_nil, natsD, kindT, Bool.false_eq_true, if_false] at v
      have ap := app_1 (rs := accN r rs i) (x := rs.getD i []) (by have := accN_len r rs i; omega)
      have e0 : (0 : Int) + (i : Int) = (i : Int) := by omega
      rw [e0]
      refine ⟨[some r.d, some (rowsD rs), some (.bl w), some (.ref 0), some (.int (i : Int))], rfl, ?_⟩
      cases ht : r.test (rs.getD i []) i with
      | true =>
        rw [ht] at v
        refine .inl ⟨[some r.d, some (rowsD rs), some (.bl w), some (.ref 0), some (.int (i : Int))], out1 (accN r rs i ++ [rs.getD i []]), by simp?! [b_law_kept_while_L1, wk_row, wk_rowW, wk_rl, idx_rowsD hi, sum_row, v, ap], fun hw j hj => ?_, ?_, _, rfl⟩
        · by_cases hji : j = i
          · subst hji; exact ht
          · exact h1 hw j (by omega)
        · show _ = out1 (if r.test (rs.getD i []) i then _ else _)
          rw [if_pos ht]
      | false =>
        rw [ht] at v
        cases w with
        | true => exact .inr ⟨.ref 0, out1 (accN r rs i), by simp?! [b_law_kept_while_L1, wk_row, wk_rowW, wk_rl, idx_rowsD hi, sum_row, v], rfl, by rw [accR_stop (h1 rfl) ht hi]⟩
        | false =>
          refine .inl ⟨[some r.d, some (rowsD rs), some (.bl false), some (.ref 0), some (.int (i : Int))], out1 (accN r rs i), by simp?! [b_law_kept_while_L1, wk_row, wk_rowW, wk_rl, idx_rowsD hi, sum_row, v], (fun hw => by cases hw), ?_, _, rfl⟩
          show _ = out1 (if r.test (rs.getD i []) i then _ else _)
          rw [if_neg (by rw [ht]; exact Bool.false_ne_true)])
    (k := rs.length) (env := [some r.d, some (rowsD rs), some (.bl w), some (.ref 0), none]) (M := out1 []) (by omega) ⟨fun _ j hj => absurd hj (Nat.not_lt_zero _), rfl, _, rfl⟩
  refine Runs.out1 ?_
  have e2 : out1 [] = [MO.lst []] := rfl
  rcases key with ⟨env', M', h2, k1, k2, y4, k3⟩ | ⟨d, M', h2, k1, k2⟩
  · subst k2 k3
    rw [e2, ← accR_all k1] at h2
    simp?! [b_law_kept_while, len_rowsD, if_pos (small_nat (n := rs.length) (by omega)), toNat_nat, rng_n, h2]
  · subst k1 k2
    rw [e2] at h2
    simp?! [b_law_kept_while, len_rowsD, if_pos (small_nat (n := rs.length) (by omega)), toNat_nat, rng_n, h2]
theorem sh_law_kept_while {T : Tb} {G : Gm} [Gl G] [H_law_rule G] : Shows T Sp_law_kept_while (runF G b_law_kept_while 5) := str_shows (fun | (r, w, rs), h => r_law_kept_while r w rs h)
end Lp

namespace Lp
open PySem
local macro_rules | `(tactic| simp?! [$args,*] $[$loc]?) => `(tactic| simp -implicitDefEqProofs only [$args,*, runF, natD, natsD, vOk_e, ev_var, ev_non, ev_bl, ev_int, ev_str, ev_gco, cB1_e, ev_bin, ev_neg, cC1_e, ev_cmp, cH3_t, cH3_f, cH2_e, cH1_e, ev_chn, cAnd_t, cAnd_f, ev_andv, cOr_t, cOr_f, ev_orv, cNot_e, ev_notv, cIfe_t, cIfe_f, ev_ife, cI1_e, ev_idx, cS2_e, cS1_e, ev_slt, cAt_e, ev_att, ev_call, cCall_e, cM2_e, cM1_e, ev_mth, mkK_e, cMk_e, ev_mk, ev_blt, cIs_e, ev_isi, appK_e, cA2_e, appP_e, cA1_e, ev_app, cTup_e, ev_tup, cFz_e, ev_fz, cFr_e, ev_fr, cMu_e, ev_mu, bOk_e, cTru_e, evT_tru, cTa_t, cTa_f, evT_tand, cTo_t, cTo_f, evT_tor, cTn_e, evT_tnot, evs_nil, cCo2_e, cCo1_e, evs_cons, evO_absent, cO_e, evO_tru, cDs_e, evL_dsp, cCt_e, evL_cat, cRp_e, evL_rep, cP2_e, cP1_e, evL_slp, lOk_e, cLo_e, evL_lof, cLc_e, evL_lc, iOk_e, cIt_e, evI_itm, cR1_e, evI_rng1, cR3_i, cR2_e, evI_rng2, cEn_e, evI_enu, cZ2_e, cZ1_e, evI_zip2, ex_nil, ex_pass, cSeq_n, cSeq_r, cSeq_b, ex_seq, cSet_e, ex_set, eOk_e, cSt_e, ex_setT, nxR_e, cSA2_e, cSA1_e, ex_setA, cSI3_e, cSI2_e, cSI1_e, ex_setI, cEx_e, ex_ex, cRet_e, ex_ret, ex_retN, ex_brk, cIf_t, cIf_f, ex_ife, cFor_e, ex_for, fin_ret, fin_nx, enK_e, idP_e, cIdn_e, ev_idn, popK_e, popz_e, ev_popz, ev_dem, cCalS_e, ev_cals, cMtS2_e, cMtS1_e, ev_mths, cMkS_e, ev_mks, smK_e, cSm_e, evL_sml, cRd3_i, cRd2_e, evI_rngd, cAu1_e, auP_e, ex_aug, aug_add, aug_sub, aaQ_e, cAA4_e, cAA3_e, cAA2_e, aaP_e, cAA1_e, ex_augA, cAI5_e, cAI4_e, cAI3_e, cAI2_e, cAI1_e, ex_augI, bind_ok, bind_bad, bind_exc, Lp.start, Gstr, Ggco, gc, GCD, setE, bin_add, bin_sub, cmpD, bRes, oRes, negD, truB_bl, truB_non, truB_int, isNon, eqB_int, eqB_str, eqB_bl, idx_tup, idx_lst, idx_arr, atI_0, atI_1, atI_2, atI_3, atI_4, atI_5, atI_6, atI_7, atI_8, atI_9, atI_10, atI_11,  slcT_1, slcT_2, slcT_21, inB_tup, inB_arr, inB_lst, flatD, eqF, tx_beq, List.all_cons, List.all_nil, List.any_cons, List.any_nil, Bool.and_true, Bool.true_and, Bool.and_false, Bool.false_and, Bool.or_false, Bool.or_true, Bool.true_or, Bool.false_or, Nat.reduceBEq, wipeE, itm_tup, itm_lst, itm_arr, List.map_cons, List.map_nil, List.cons_append, List.nil_append, List.length_cons, List.length_nil, List.getElem?_cons_zero, List.getElem?_cons_succ, List.getElem?_nil, List.set_cons_zero, List.set_cons_succ, List.getD_cons_zero, List.getD_cons_succ, List.replicate_succ, List.replicate_zero, Nat.reduceAdd, Nat.reduceSub, Nat.zero_add, Option.map_some, Option.map_none, Bool.not_true, Bool.not_false, ite_true, ite_false, if_true, if_false, reduceCtorEq, decide_true, decide_false, decide_eq_true_eq, tx_dec, Bool.false_eq_true, Nat.reduceEqDiff, Nat.reduceLT, Nat.reduceLeDiff, line_ok, line_lt, lcG_s, lcG_0, lcG_n, lcX_n, lcX_s, lcB_s, lcC_t, lcC_f, lcE_o, bindG_1, id_eq, nc_0, nc_1, nc_2, nc_3, nc_4, nc_5, nc_6, nc_7, nc_8, nc_9, nc_10, nc_11, nc_12,  Int.reduceEq, Int.reduceLT, Int.reduceLE, Int.reduceNeg, Int.reduceAdd, Int.reduceSub, Int.reduceMul, Option.bind_some, dInts_1, dInts_2, minL_1, minL_2, List.sum_cons, List.sum_nil, Int.add_zero, idx_nl, inB_nl, itm_nl, wk_non, wk_bl, wk_int, wk_str, wk_ref, wk_tup, wk_lst, wk_nl, wk_arr, wk_ins, wk_no, wk_dic, wks_nil, wks_cons, wkf_nil, wkf_cons, wkk_nil, wkk_cons, wks_ints] $[$loc]?)
def mrg (r : Rl) : Rows → Rows → Nat → Nat → Rows
  | [], ys, _, _ => ys
  | x :: xs, [], _, _ => x :: xs
  | x :: xs, y :: ys, i, j => if r.merge x y i j then x :: mrg r xs (y :: ys) (i + 1) j else y :: mrg r (x :: xs) ys i (j + 1)
termination_by xs ys => xs.length + ys.length
theorem mrg_nl {r : Rl} {ys : Rows} {i j : Nat} : mrg r [] ys i j = ys := by rw [mrg]
theorem mrg_nr {r : Rl} {xs : Rows} {i j : Nat} : mrg r xs [] i j = xs := by cases xs <;> rw [mrg]
theorem mrg_l {r : Rl} {one two : Rows} {i j : Nat} (hi : i < one.length) (hj : j < two.length) (h : r.merge (one.getD i []) (two.getD j []) i j = true) : mrg r (one.drop i) (two.drop j) i j = one.getD i [] :: mrg r (one.drop (i + 1)) (two.drop j) (i + 1) j := by
  have e1 : one.drop i = one.getD i [] :: one.drop (i + 1) := by rw [List.drop_eq_getElem_cons hi, List.getD_eq_getElem?_getD, List.getElem?_eq_getElem hi] <;> rfl
  have e2 : two.drop j = two.getD j [] :: two.drop (j + 1) := by rw [List.drop_eq_getElem_cons hj, List.getD_eq_getElem?_getD, List.getElem?_eq_getElem hj] <;> rfl
  rw [e1, e2, mrg, if_pos h]
theorem mrg_r {r : Rl} {one two : Rows} {i j : Nat} (hi : i < one.length) (hj : j < two.length) (h : r.merge (one.getD i []) (two.getD j []) i j = false) : mrg r (one.drop i) (two.drop j) i j = two.getD j [] :: mrg r (one.drop i) (two.drop (j + 1)) i (j + 1) := by
  have e1 : one.drop i = one.getD i [] :: one.drop (i + 1) := by rw [List.drop_eq_getElem_cons hi, List.getD_eq_getElem?_getD, List.getElem?_eq_getElem hi] <;> rfl
  have e2 : two.drop j = two.getD j [] :: two.drop (j + 1) := by rw [List.drop_eq_getElem_cons hj, List.getD_eq_getElem?_getD, List.getElem?_eq_getElem hj] <;> rfl
  rw [e1, e2, mrg, if_neg (by rw [h]; exact Bool.false_ne_true)]
theorem drop_nil {α : Type} {xs : List α} {i : Nat} (h : ¬ i < xs.length) : xs.drop i = [] := List.drop_eq_nil_of_le (by omega)
theorem drop_one {xs : Rows} {i : Nat} (h : i < xs.length) : xs.drop i = xs.getD i [] :: xs.drop (i + 1) := by rw [List.drop_eq_getElem_cons h, List.getD_eq_getElem?_getD, List.getElem?_eq_getElem h] <;> rfl
theorem cat_e {M : Store} {x y : D} {xs ys : List D} (hx : asM M x = some xs) (hy : asM M y = some ys) (hl : xs.length + ys.length ≤ 100000) : catL x y M = .ok (xs ++ ys) M := by
  unfold catL
  rw [hx, hy]
  exact if_pos (line_le hl)
theorem slp_drop {M : Store} {x : D} {xs : List D} {i : Nat} (hx : asM M x = some xs) : slL x (some (i : Int)) none M = .ok (xs.drop i) M := by
  unfold slL
  rw [hx, ← cut_drop]
theorem slp_take {M : Store} {x : D} {xs : List D} {i : Nat} (hx : asM M x = some xs) : slL x none (some (i : Int)) M = .ok (xs.take i) M := by
  unfold slL
  rw [hx, ← cut_take]
theorem asM_rowsD {M : Store} {rs : Rows} : asM M (rowsD rs) = some (rs.map rowD) := rfl
theorem asM_out1 {rs : Rows} : asM (out1 rs) (.ref 0) = some (rs.map rowD) := rfl
def Sp_u_merged : Spec := strSp 3 (α := (Rl) × (Rows) × (Rows)) (fun | (r, one, two) => r.ok ∧ Ok1 one ∧ Ok1 two ) (fun | (r, one, two) => [r.d, rowsD one, rowsD two]) (fun | (r, one, two) => rowsD (mrg r one two 0 0))
class H_u_merged (G : Gm) : Prop where m : Meets Sp_u_merged (G.fn 130)
theorem v_u_merged {G : Gm} [H : H_u_merged G] (r : Rl) (one : Rows) (two : Rows) (h : r.ok ∧ Ok1 one ∧ Ok1 two ) {ds : List D} {M : Store} (v : Vks M [] ds [r.d, rowsD one, rowsD two]) (hl : ds.length = 3 := by rfl) : G.fn 130 ds M = Res.ok (rowsD (mrg r one two 0 0)) M := str_call H.m hl (r, one, two) h v
theorem c_u_merged {G : Gm} [H : H_u_merged G] (r : Rl) (one : Rows) (two : Rows) (h : r.ok ∧ Ok1 one ∧ Ok1 two ) (M : Store) : G.fn 130 [r.d, rowsD one, rowsD two] M = Res.ok (rowsD (mrg r one two 0 0)) M := by
  have qc : Css [r.d, rowsD one, rowsD two] := by (repeat' (first | exact Css.nil | refine Css.cons ?_ ?_ | assumption | exact Cs.rows _ | exact Css.rowss _ | exact Cs.row _ | exact Cs.int _ | exact Cs.str _ | exact Cs.bl _ | exact Cs.non | exact (Nd.cl _).cs | exact Cs.rl _ | refine Cs.nl ?_ | refine Cs.tup ?_ | exact Css.ints _ | refine Css.map (fun _ => ?_) _))
  exact v_u_merged r one two h (qc M [])
theorem r_u_merged {G : Gm} [Gl G] [H_by_rule G] (r : Rl) (one : Rows) (two : Rows) (h : r.ok ∧ Ok1 one ∧ Ok1 two ) : Runs (runF G b_u_merged 6) [r.d, rowsD one, rowsD two] ((.val (rowsD (mrg r one two 0 0)))) := by
  obtain ⟨hr, ⟨ho, _⟩, ht, _⟩ := h
  have key := whi_all (c := evT G (.tand (.tru (.cmp .Lt (.var 4) (.blt .len (.cons (.var 1) .nil)))) (.tru (.cmp .Lt (.var 5) (.blt .len (.cons (.var 2) .nil))))))
    (b := exec G (.seq (.ife (.tru (.call 152 (.cons (.str 4) (.cons (.var 0) (.cons (.fz (.dsp (.cons (.idx (.var 1) (.var 4)) (.cons (.idx (.var 2) (.var 5)) .nil)))) (.cons (.fz (.dsp (.cons (.var 4) (.cons (.var 5) .nil)))) .nil)))))) (.seq (.ex (.app (.var 3) (.idx (.var 1) (.var 4)))) (.seq (.aug 4 .Add (.int 1)) .nil)) (.seq (.ex (.app (.var 3) (.idx (.var 2) (.var 5)))) (.seq (.aug 5 .Add (.int 1)) .nil))) .nil))
    (fun k env M => ∃ (i j : Nat) (acc : Rows), k = (one.length - i) + (two.length - j) ∧ i ≤ one.length ∧ j ≤ two.length ∧ acc.length = i + j ∧ acc ++ mrg r (one.drop i) (two.drop j) i j = mrg r one two 0 0 ∧ M = out1 acc ∧ env = [some r.d, some (rowsD one), some (rowsD two), some (.ref 0), some (.int (i : Int)), some (.int (j : Int))])
    (fun env M => ∃ (i j : Nat) (acc : Rows), i ≤ one.length ∧ j ≤ two.length ∧ acc.length = i + j ∧ acc ++ one.drop i ++ two.drop j = mrg r one two 0 0 ∧ M = out1 acc ∧ env = [some r.d, some (rowsD one), some (rowsD two), some (.ref 0), some (.int (i : Int)), some (.int (j : Int))])
    (fun k env M h => by
      obtain ⟨i, j, acc, hk, hi, hj, hl, he, rfl, rfl⟩ := h
      by_cases h1 : i < one.length
      · by_cases h2 : j < two.length
        · have h1' : ((i : Int) < (one.length : Int)) = True := eq_true (by omega)
          have h2' : ((j : Int) < (two.length : Int)) = True := eq_true (by omega)
          have v := c_by_rule (G := G) r (.merge (one.getD i []) (two.getD j []) i j) hr (out1 acc)
          simp only [Ask.kind, Ask.rows, Ask.ats, Ask.val, List.map_cons, List.map_nil, natsD] at v
          have a1 := app_1 (rs := acc) (x := one.getD i []) (by omega)
          have a2 := app_1 (rs := acc) (x := two.getD j []) (by omega)
          refine .inr ⟨by simp?! [len_rowsD, h1', h2'], ?_⟩
          cases hm : r.merge (one.getD i []) (two.getD j []) i j with
          | true =>
            rw [hm] at v
            refine ⟨_, [some r.d, some (rowsD one), some (rowsD two), some (.ref 0), some (.int ((i + 1 : Nat) : Int)), some (.int (j : Int))], out1 (acc ++ [one.getD i []]), ?_, ?_, i + 1, j, acc ++ [one.getD i []], rfl, h1, hj, by rw [List.length_append]; simp; omega, ?_, rfl, rfl⟩
            · omega
            · simp?! [wk_row, wk_rl, idx_rowsD h1, idx_rowsD h2, v, a1, succ_nat]
            · rw [← he, mrg_l h1 h2 hm]; simp
          | false =>
            rw [hm] at v
            refine ⟨_, [some r.d, some (rowsD one), some (rowsD two), some (.ref 0), some (.int (i : Int)), some (.int ((j + 1 : Nat) : Int))], out1 (acc ++ [two.getD j []]), ?_, ?_, i, j + 1, acc ++ [two.getD j []], rfl, hi, h2, by rw [List.length_append]; simp; omega, ?_, rfl, rfl⟩
            · omega
            · simp?! [wk_row, wk_rl, idx_rowsD h1, idx_rowsD h2, v, a2, succ_nat]
            · rw [← he, mrg_r h1 h2 hm]; simp
        · have h1' : ((i : Int) < (one.length : Int)) = True := eq_true (by omega)
          have h2' : ((j : Int) < (two.length : Int)) = False := eq_false (by omega)
          exact .inl ⟨by simp?! [len_rowsD, h1', h2'], i, j, acc, hi, hj, hl, by rw [← he, drop_nil h2, mrg_nr]; simp, rfl, rfl⟩
      · have h1' : ((i : Int) < (one.length : Int)) = False := eq_false (by omega)
        exact .inl ⟨by simp?! [len_rowsD, h1'], i, j, acc, hi, hj, hl, by rw [← he, drop_nil h1, mrg_nl]; simp, rfl, rfl⟩)
    5000 (one.length + two.length) [some r.d, some (rowsD one), some (rowsD two), some (.ref 0), some (.int 0), some (.int 0)] (out1 []) (by omega) ⟨0, 0, [], by simp, Nat.zero_le _, Nat.zero_le _, rfl, rfl, rfl, rfl⟩
  obtain ⟨env', M', h2, i, j, acc, hi, hj, hl, he, h3, h4⟩ := key
  subst h3 h4
  have c1 : catL (.ref 0) (.nl ((one.map rowD).drop i)) (out1 acc) = .ok (acc.map rowD ++ (one.map rowD).drop i) (out1 acc) := cat_e asM_out1 rfl (by simp; omega)
  have c2 : catL (.nl (acc.map rowD ++ (one.map rowD).drop i)) (.nl ((two.map rowD).drop j)) (out1 acc) = .ok (acc.map rowD ++ (one.map rowD).drop i ++ (two.map rowD).drop j) (out1 acc) := cat_e rfl rfl (by simp; omega)
  have e2 : out1 [] = [MO.lst []] := rfl
  have e3 : (acc.map rowD ++ (one.map rowD).drop i ++ (two.map rowD).drop j) = (mrg r one two 0 0).map rowD := by rw [← he]; simp
  rw [e2] at h2
  refine Runs.nl (xs := (mrg r one two 0 0).map rowD) (N := out1 acc) ?_ (Ffs.rows _)
  rw [← e3]
  simp?! [b_u_merged, ex_whil, h2, slp_drop (M := out1 acc) (i := i) (asM_rowsD (rs := one)), slp_drop (M := out1 acc) (i := j) (asM_rowsD (rs := two)), c1, c2]
theorem sh_u_merged {T : Tb} {G : Gm} [Gl G] [H_by_rule G] : Shows T Sp_u_merged (runF G b_u_merged 6) := str_shows (fun | (r, one, two), h => r_u_merged r one two h)
def Sp_law_merged : Spec := strSp 3 (α := (Rl) × (Rows) × (Rows)) (fun | (r, one, two) => r.ok ∧ Ok1 one ∧ Ok1 two ) (fun | (r, one, two) => [r.d, rowsD one, rowsD two]) (fun | (r, one, two) => rowsD (mrg r one two 0 0))
class H_law_merged (G : Gm) : Prop where m : Meets Sp_law_merged (G.fn 80)
theorem v_law_merged {G : Gm} [H : H_law_merged G] (r : Rl) (one : Rows) (two : Rows) (h : r.ok ∧ Ok1 one ∧ Ok1 two ) {ds : List D} {M : Store} (v : Vks M [] ds [r.d, rowsD one, rowsD two]) (hl : ds.length = 3 := by rfl) : G.fn 80 ds M = Res.ok (rowsD (mrg r one two 0 0)) M := str_call H.m hl (r, one, two) h v
theorem c_law_merged {G : Gm} [H : H_law_merged G] (r : Rl) (one : Rows) (two : Rows) (h : r.ok ∧ Ok1 one ∧ Ok1 two ) (M : Store) : G.fn 80 [r.d, rowsD one, rowsD two] M = Res.ok (rowsD (mrg r one two 0 0)) M := by
  have qc : Css [r.d, rowsD one, rowsD two] := by (repeat' (first | exact Css.nil | refine Css.cons ?_ ?_ | assumption | exact Cs.rows _ | exact Css.rowss _ | exact Cs.row _ | exact Cs.int _ | exact Cs.str _ | exact Cs.bl _ | exact Cs.non | exact (Nd.cl _).cs | exact Cs.rl _ | refine Cs.nl ?_ | refine Cs.tup ?_ | exact Css.ints _ | refine Css.map (fun _ => ?_) _))
  exact v_law_merged r one two h (qc M [])
theorem r_law_merged {G : Gm} [Gl G] [H_law_rule G] (r : Rl) (one : Rows) (two : Rows) (h : r.ok ∧ Ok1 one ∧ Ok1 two ) : Runs (runF G b_law_merged 8) [r.d, rowsD one, rowsD two] ((.val (rowsD (mrg r one two 0 0)))) := by
  obtain ⟨hr, ⟨ho, _⟩, ht, _⟩ := h
  have key := for_all (J := rngI 0 (one.length + two.length)) (tg := [6]) (b := exec G b_law_merged_L1) (n := one.length + two.length) (it := fun i => .int (0 + i))
    (fun t env M => ∃ (i j : Nat) (acc : Rows) (y6 y7 : Option D), t = i + j ∧ i ≤ one.length ∧ j ≤ two.length ∧ acc.length = i + j ∧ acc ++ mrg r (one.drop i) (two.drop j) i j = mrg r one two 0 0 ∧ M = out1 acc ∧ env = [some r.d, some (rowsD one), some (rowsD two), some (.ref 0), some (.int (i : Int)), some (.int (j : Int)), y6, y7]) (fun i env M' h => rng_nx)
    (fun t env M htt h => by
      obtain ⟨i, j, acc, y6, y7, hk, hi, hj, hl, he, rfl, rfl⟩ := h
      have a1 := app_1 (rs := acc) (x := one.getD i []) (by omega)
      have a2 := app_1 (rs := acc) (x := two.getD j []) (by omega)
      by_cases h1 : i < one.length
      · have h1' : ((i : Int) < (one.length : Int)) = True := eq_true (by omega)
        by_cases h2 : j < two.length
        · have h2' : ((j : Int) < (two.length : Int)) = True := eq_true (by omega)
          have v := c_law_rule (G := G) r (.merge (one.getD i []) (two.getD j []) i j) hr (out1 acc)
          simp only [Ask.kind, Ask.rows, Ask.ats, Ask.val, List.map_cons, List.map_nil, natsD] at v
          cases hm : r.merge (one.getD i []) (two.getD j []) i j with
          | true =>
            rw [hm] at v
            refine ⟨_, [some r.d, some (rowsD one), some (rowsD two), some (.ref 0), some (.int ((i + 1 : Nat) : Int)), some (.int (j : Int)), some (.int (0 + (t : Int))), some (.bl true)], out1 (acc ++ [one.getD i []]), rfl, ?_, i + 1, j, acc ++ [one.getD i []], _, _, by omega, h1, hj, by rw [List.length_append]; simp; omega, ?_, rfl, rfl⟩
            · simp?! [b_law_merged_L1, len_rowsD, h1', h2', wk_rl, idx_rowsD h1, idx_rowsD h2, sum_row, v, a1, succ_nat]
            · rw [← he, mrg_l h1 h2 hm]; simp
          | false =>
            rw [hm] at v
            refine ⟨_, [some r.d, some (rowsD one), some (rowsD two), some (.ref 0), some (.int (i : Int)), some (.int ((j + 1 : Nat) : Int)), some (.int (0 + (t : Int))), some (.bl false)], out1 (acc ++ [two.getD j []]), rfl, ?_, i, j + 1, acc ++ [two.getD j []], _, _, by omega, hi, h2, by rw [List.length_append]; simp; omega, ?_, rfl, rfl⟩
            · simp?! [b_law_merged_L1, len_rowsD, h1', h2', wk_rl, idx_rowsD h1, idx_rowsD h2, sum_row, v, a2, succ_nat]
            · rw [← he, mrg_r h1 h2 hm]; simp
        · have h2' : ((j : Int) < (two.length : Int)) = False := eq_false (by omega)
          have h3' : ((j : Int) = (two.length : Int)) = True := eq_true (by omega)
          refine ⟨_, [some r.d, some (rowsD one), some (rowsD two), some (.ref 0), some (.int ((i + 1 : Nat) : Int)), some (.int (j : Int)), some (.int (0 + (t : Int))), some (.bl true)], out1 (acc ++ [one.getD i []]), rfl, ?_, i + 1, j, acc ++ [one.getD i []], _, _, by omega, h1, hj, by rw [List.length_append]; simp; omega, ?_, rfl, rfl⟩
          · simp?! [b_law_merged_L1, len_rowsD, h1', h2', h3', idx_rowsD h1, a1, succ_nat]
          · rw [← he, drop_nil h2, mrg_nr, mrg_nr, drop_one h1]; simp
      · have h1' : ((i : Int) < (one.length : Int)) = False := eq_false (by omega)
        have h2 : j < two.length := by omega
        have h3' : ((j : Int) = (two.length : Int)) = False := eq_false (by omega)
        refine ⟨_, [some r.d, some (rowsD one), some (rowsD two), some (.ref 0), some (.int (i : Int)), some (.int ((j + 1 : Nat) : Int)), some (.int (0 + (t : Int))), some (.bl false)], out1 (acc ++ [two.getD j []]), rfl, ?_, i, j + 1, acc ++ [two.getD j []], _, _, by omega, hi, h2, by rw [List.length_append]; simp; omega, ?_, rfl, rfl⟩
        · simp?! [b_law_merged_L1, len_rowsD, h1', h3', idx_rowsD h2, a2, succ_nat]
        · rw [← he, drop_nil h1, mrg_nl, mrg_nl, drop_one h2]; simp)
    (k := one.length + two.length) (env := [some r.d, some (rowsD one), some (rowsD two), some (.ref 0), some (.int 0), some (.int 0), none, none]) (M := out1 []) (Nat.le_refl _) ⟨0, 0, [], _, _, rfl, Nat.zero_le _, Nat.zero_le _, rfl, rfl, rfl, rfl⟩
  obtain ⟨env', M', h2, i, j, acc, y6, y7, hk, hi, hj, hl, he, h3, h4⟩ := key
  subst h3 h4
  have e4 : acc = mrg r one two 0 0 := by rw [← he, drop_nil (by omega), mrg_nl, drop_nil (by omega)]; simp
  rw [e4] at h2
  refine Runs.out1 ?_
  have e2 : out1 [] = [MO.lst []] := rfl
  rw [e2] at h2
  have sm : small ((one.length : Int) + (two.length : Int)) := ⟨by omega, by omega⟩
  have nt : ((one.length : Int) + (two.length : Int)).toNat = one.length + two.length := by omega
  simp?! [b_law_merged, len_rowsD, if_pos sm, nt, rng_n, h2]
theorem sh_law_merged {T : Tb} {G : Gm} [Gl G] [H_law_rule G] : Shows T Sp_law_merged (runF G b_law_merged 8) := str_shows (fun | (r, one, two), h => r_law_merged r one two h)
end Lp

namespace Lp
open PySem
local macro_rules | `(tactic| simp?! [$args,*] $[$loc]?) => `(tactic| simp -implicitDefEqProofs only [$args,*, runF, natD, natsD, vOk_e, ev_var, ev_non, ev_bl, ev_int, ev_str, ev_gco, cB1_e, ev_bin, ev_neg, cC1_e, ev_cmp, cH3_t, cH3_f, cH2_e, cH1_e, ev_chn, cAnd_t, cAnd_f, ev_andv, cOr_t, cOr_f, ev_orv, cNot_e, ev_notv, cIfe_t, cIfe_f, ev_ife, cI1_e, ev_idx, cS2_e, cS1_e, ev_slt, cAt_e, ev_att, ev_call, cCall_e, cM2_e, cM1_e, ev_mth, mkK_e, cMk_e, ev_mk, ev_blt, cIs_e, ev_isi, appK_e, cA2_e, appP_e, cA1_e, ev_app, cTup_e, ev_tup, cFz_e, ev_fz, cFr_e, ev_fr, cMu_e, ev_mu, bOk_e, cTru_e, evT_tru, cTa_t, cTa_f, evT_tand, cTo_t, cTo_f, evT_tor, cTn_e, evT_tnot, evs_nil, cCo2_e, cCo1_e, evs_cons, evO_absent, cO_e, evO_tru, cDs_e, evL_dsp, cCt_e, evL_cat, cRp_e, evL_rep, cP2_e, cP1_e, evL_slp, lOk_e, cLo_e, evL_lof, cLc_e, evL_lc, iOk_e, cIt_e, evI_itm, cR1_e, evI_rng1, cR3_i, cR2_e, evI_rng2, cEn_e, evI_enu, cZ2_e, cZ1_e, evI_zip2, ex_nil, ex_pass, cSeq_n, cSeq_r, cSeq_b, ex_seq, cSet_e, ex_set, eOk_e, cSt_e, ex_setT, nxR_e, cSA2_e, cSA1_e, ex_setA, cSI3_e, cSI2_e, cSI1_e, ex_setI, cEx_e, ex_ex, cRet_e, ex_ret, ex_retN, ex_brk, cIf_t, cIf_f, ex_ife, cFor_e, ex_for, fin_ret, fin_nx, enK_e, idP_e, cIdn_e, ev_idn, popK_e, popz_e, ev_popz, ev_dem, cCalS_e, ev_cals, cMtS2_e, cMtS1_e, ev_mths, cMkS_e, ev_mks, smK_e, cSm_e, evL_sml, cRd3_i, cRd2_e, evI_rngd, cAu1_e, auP_e, ex_aug, aug_add, aug_sub, aaQ_e, cAA4_e, cAA3_e, cAA2_e, aaP_e, cAA1_e, ex_augA, cAI5_e, cAI4_e, cAI3_e, cAI2_e, cAI1_e, ex_augI, bind_ok, bind_bad, bind_exc, Lp.start, Gstr, Ggco, gc, GCD, setE, bin_add, bin_sub, cmpD, bRes, oRes, negD, truB_bl, truB_non, truB_int, isNon, eqB_int, eqB_str, eqB_bl, idx_tup, idx_lst, idx_arr, atI_0, atI_1, atI_2, atI_3, atI_4, atI_5, atI_6, atI_7, atI_8, atI_9, atI_10, atI_11,  slcT_1, slcT_2, slcT_21, inB_tup, inB_arr, inB_lst, flatD, eqF, tx_beq, List.all_cons, List.all_nil, List.any_cons, List.any_nil, Bool.and_true, Bool.true_and, Bool.and_false, Bool.false_and, Bool.or_false, Bool.or_true, Bool.true_or, Bool.false_or, Nat.reduceBEq, wipeE, itm_tup, itm_lst, itm_arr, List.map_cons, List.map_nil, List.cons_append, List.nil_append, List.length_cons, List.length_nil, List.getElem?_cons_zero, List.getElem?_cons_succ, List.getElem?_nil, List.set_cons_zero, List.set_cons_succ, List.getD_cons_zero, List.getD_cons_succ, List.replicate_succ, List.replicate_zero, Nat.reduceAdd, Nat.reduceSub, Nat.zero_add, Option.map_some, Option.map_none, Bool.not_true, Bool.not_false, ite_true, ite_false, if_true, if_false, reduceCtorEq, decide_true, decide_false, decide_eq_true_eq, tx_dec, Bool.false_eq_true, Nat.reduceEqDiff, Nat.reduceLT, Nat.reduceLeDiff, line_ok, line_lt, lcG_s, lcG_0, lcG_n, lcX_n, lcX_s, lcB_s, lcC_t, lcC_f, lcE_o, bindG_1, id_eq, nc_0, nc_1, nc_2, nc_3, nc_4, nc_5, nc_6, nc_7, nc_8, nc_9, nc_10, nc_11, nc_12,  Int.reduceEq, Int.reduceLT, Int.reduceLE, Int.reduceNeg, Int.reduceAdd, Int.reduceSub, Int.reduceMul, Option.bind_some, dInts_1, dInts_2, minL_1, minL_2, List.sum_cons, List.sum_nil, Int.add_zero, idx_nl, inB_nl, itm_nl, wk_non, wk_bl, wk_int, wk_str, wk_ref, wk_tup, wk_lst, wk_nl, wk_arr, wk_ins, wk_no, wk_dic, wks_nil, wks_cons, wkf_nil, wkf_cons, wkk_nil, wkk_cons, wks_ints] $[$loc]?)
def winR (k : Nat) (rs : Rows) : Rows := (List.range (rs.length + 1 - k)).map fun i => ((rs.drop i).take k).flatten
def mapR (r : Rl) (rs : Rows) : Rows := (List.range rs.length).map fun i => [r.map (rs.getD i []) i]
def zipR (a b : Rows) : Rows := (List.range (min a.length b.length)).map fun i => a.getD i [] ++ b.getD i []
theorem slp_mid {M : Store} {x : D} {xs : List D} {i k : Nat} (hx : asM M x = some xs) (hi : i ≤ xs.length) : slL x (some (i : Int)) (some ((i : Int) + (k : Int))) M = .ok ((xs.drop i).take k) M := by
  unfold slL
  rw [hx]
  simp only
  congr 1
  rw [show (i : Int) + (k : Int) = ((i + k : Nat) : Int) by omega]
  unfold cut
  rw [HT.sIx_nat, HT.sIx_nat, Nat.min_eq_left hi, List.take_eq_take_iff, List.length_drop]
  omega
theorem asM_row {M : Store} {r : List Int} : asM M (rowD r) = some (r.map D.int) := rfl
theorem asM_rowW {M : Store} {r : List Int} : asM M (rowW r) = some (r.map D.int) := rfl
theorem asM_rowsW {M : Store} {rs : Rows} : asM M (rowsW rs) = some (rs.map rowW) := rfl
theorem Ok1.sub {rs : Rows} (h : Ok1 rs) (i k : Nat) : Ok1 ((rs.drop i).take k) := ⟨by rw [List.length_take, List.length_drop]; have := h.1; omega, fun r hr => h.2 r (List.mem_of_mem_drop (List.mem_of_mem_take hr))⟩
theorem Ok1.flat {rs : Rows} (h : ∀ r, r ∈ rs → r.length ≤ 12) : rs.flatten.length ≤ 12 * rs.length := by
  induction rs with
  | nil => simp
  | cons r rs ih =>
    have h1 := h r List.mem_cons_self
    have h2 := ih fun x hx => h x (List.mem_cons_of_mem _ hx)
    rw [List.flatten_cons, List.length_append, List.length_cons]
    omega
def Sp_u_windows : Spec := pureSp 2 (α := (Nat) × (Rows)) (fun | (k, rs) => (1 ≤ k ∧ k ≤ 20) ∧ Ok1 rs ) (fun | (k, rs) => [natD k, rowsW rs]) (fun | (k, rs) => (.val (rowsD (winR k rs))))
class H_u_windows (G : Gm) : Prop where m : Meets Sp_u_windows (G.fn 146)
theorem v_u_windows {G : Gm} [H : H_u_windows G] (k : Nat) (rs : Rows) (h : (1 ≤ k ∧ k ≤ 20) ∧ Ok1 rs ) {ds : List D} {M : Store} (v : Vws M ds [natD k, rowsW rs]) (hl : ds.length = 2 := by rfl) : G.fn 146 ds M = Res.ok (rowsD (winR k rs)) M := pure_call H.m hl (k, rs) h v
theorem c_u_windows {G : Gm} [H : H_u_windows G] (k : Nat) (rs : Rows) (h : (1 ≤ k ∧ k ≤ 20) ∧ Ok1 rs ) (M : Store) : G.fn 146 [natD k, rowsW rs] M = Res.ok (rowsD (winR k rs)) M := by
  have qc : Cls [natD k, rowsW rs] := by (repeat' (first | exact Cls.nil | exact Clf.nil | exact Clk.nil | refine Clk.cons ?_ ?_ | refine Cl.dic ?_ | refine Cls.cons ?_ ?_ | refine Clf.cons ?_ ?_ | exact Cl.int _ | exact Cl.bl _ | exact Cl.non | exact Cl.str _ | exact Cls.ints _ | assumption | exact Nd.cl _ | exact Cls.nds _ | exact Cls.nats _ | exact Cl.st _ | exact Cl.bd _ | exact Cls.bds _ | exact Cls.rows _ | exact Cl.rowW _ | exact Cl.rowsW _ | exact Cl.rl _ | exact Cl.grf _ | exact Cl.enc _ | refine Cl.tup ?_ | refine Cl.lst ?_ | refine Cl.arr ?_ | refine Cl.ins ?_ | refine Cls.map (fun _ => ?_) _))
  exact v_u_windows k rs h (qc.1 M)
theorem r_u_windows {G : Gm} [Gl G] (k : Nat) (rs : Rows) (h : (1 ≤ k ∧ k ≤ 20) ∧ Ok1 rs ) : Runs (runF G b_u_windows 6) [natD k, rowsW rs] ((.val (rowsD (winR k rs)))) := by
  obtain ⟨⟨hk1, hk2⟩, ho⟩ := h
  have hl := ho.1
  have inner : ∀ (N : Store) (i : Nat) (e2 e5 : Option D), ∃ y5, forGo ⟨(((rs.map rowW).drop i).take k).length, fun j _ => some (((rs.map rowW).drop i).take k)[j]?⟩ [5] (exec G b_u_windows_L2) (((rs.map rowW).drop i).take k).length 0 [some (natD k), some (rowsW rs), e2, some (.int (i : Int)), some (rowD []), e5] N
      = .ok (.nx [some (natD k), some (rowsW rs), e2, some (.int (i : Int)), some (rowD ((rs.drop i).take k).flatten), y5]) N := fun N i e2 e5 => by
    have em : ((rs.map rowW).drop i).take k = ((rs.drop i).take k).map rowW := by rw [List.map_take, List.map_drop]
    have hsub := ho.sub i k
    rw [em]
    generalize (rs.drop i).take k = ss at hsub
    have key := for_all (J := ⟨(ss.map rowW).length, fun j _ => some (ss.map rowW)[j]?⟩) (tg := [5]) (b := exec G b_u_windows_L2) (n := ss.length) (it := fun j => rowW (ss.getD j []))
      (fun j env M => M = N ∧ ∃ y5, env = [some (natD k), some (rowsW rs), e2, some (.int (i : Int)), some (rowD (ss.take j).flatten), y5]) (fun j env M' h => congrArg some (lst_nx []))
      (fun j env M hj h => by
        obtain ⟨rfl, y5, rfl⟩ := h
        have ht : (ss.take (j + 1)).flatten = (ss.take j).flatten ++ ss.getD j [] := by rw [List.take_add_one, getD_mem (d := []) hj]; simp
        have hz : (ss.take j).flatten.length ≤ 12 * (ss.take j).length := Ok1.flat fun r hr => hsub.2 r (List.mem_of_mem_take hr)
        have hz2 : (ss.take j).length ≤ 400 := by rw [List.length_take]; have := hsub.1; omega
        have hz3 := hsub.at j
        have c1 : catL (rowD (ss.take j).flatten) (rowW (ss.getD j [])) M = .ok ((ss.take j).flatten.map D.int ++ (ss.getD j []).map D.int) M := cat_e rfl rfl (by rw [List.length_map, List.length_map]; omega)
        refine ⟨_, [some (natD k), some (rowsW rs), e2, some (.int (i : Int)), some (rowD (ss.take (j + 1)).flatten), some (rowW (ss.getD j []))], M, rfl, ?_, rfl, _, rfl⟩
        rw [ht]
        have e : rowD ((ss.take j).flatten ++ ss.getD j []) = .nl ((ss.take j).flatten.map D.int ++ (ss.getD j []).map D.int) := by unfold rowD; rw [List.map_append]
        rw [e]
        simp?! [b_u_windows_L2, c1])
      (k := (ss.map rowW).length) (env := [some (natD k), some (rowsW rs), e2, some (.int (i : Int)), some (rowD []), e5]) (M := N) (by simp) ⟨rfl, e5, by simp⟩
    obtain ⟨env', M', h2, h3, y5, h4⟩ := key
    subst h3 h4
    exact ⟨y5, by rw [h2, List.take_length]⟩
  have key := for_all (J := rngI 0 (rs.length + 1 - k)) (tg := [3]) (b := exec G b_u_windows_L1) (n := rs.length + 1 - k) (it := fun i => .int (0 + i))
    (fun i env M => ∃ y3 y4 y5, M = out1 ((List.range i).map fun i => ((rs.drop i).take k).flatten) ∧ env = [some (natD k), some (rowsW rs), some (.ref 0), y3, y4, y5]) (fun i env M' h => rng_nx)
    (fun i env M hi h => by
      obtain ⟨y3, y4, y5, rfl, rfl⟩ := h
      have e0 : (0 : Int) + (i : Int) = (i : Int) := by omega
      rw [e0]
      obtain ⟨z5, q⟩ := inner (out1 ((List.range i).map fun i => ((rs.drop i).take k).flatten)) i (some (.ref 0)) y5
      have ap := app_1 (rs := (List.range i).map fun i => ((rs.drop i).take k).flatten) (x := ((rs.drop i).take k).flatten) (by simp; omega)
      have e1 : rowD [] = .nl [] := rfl
      rw [e1] at q
      refine ⟨_, [some (natD k), some (rowsW rs), some (.ref 0), some (.int (i : Int)), some (rowD ((rs.drop i).take k).flatten), z5], _, rfl, ?_, _, _, _, rfl, rfl⟩
      rw [List.range_succ, List.map_append, List.map_cons, List.map_nil]
      have sl := slp_mid (M := out1 ((List.range i).map fun i => ((rs.drop i).take k).flatten)) (k := k) (asM_rowsW (rs := rs)) (i := i) (by simp; omega)
      simp?! [b_u_windows_L1, sl, q, ap])
    (k := rs.length + 1 - k) (env := [some (natD k), some (rowsW rs), some (.ref 0), none, none, none]) (M := out1 []) (Nat.le_refl _) ⟨_, _, _, rfl, rfl⟩
  obtain ⟨env', M', h2, y3, y4, y5, h3, h4⟩ := key
  subst h3 h4
  refine Runs.out1 (rs := winR k rs) ?_
  have e2 : out1 [] = [MO.lst []] := rfl
  rw [e2] at h2
  have sm : small ((rs.length : Int) - (k : Int) + 1) := ⟨by omega, by omega⟩
  have nt : ((rs.length : Int) - (k : Int) + 1).toNat = rs.length + 1 - k := by omega
  simp?! [b_u_windows, len_rowsW, if_pos sm, nt, rng_n, h2]
  rfl
theorem sh_u_windows {T : Tb} {G : Gm} [Gl G] : Shows T Sp_u_windows (runF G b_u_windows 6) := pure_shows (fun | (k, rs), h => r_u_windows k rs h)
def wholeNd (r : Rl) : Nd → List Rows → Rows
  | .map _, [a] => mapR r a
  | .filter _, [a] => accR r false a
  | .whil _, [a] => accR r true a
  | .take n _, [a] => a.take n
  | .drop n _, [a] => a.drop n
  | .window n _, [a] => winR n a
  | .scan s _, [a] => scanR r s a
  | .zip _ _, [a, b] => zipR a b
  | .merge _ _, [a, b] => mrg r a b 0 0
  | _, _ => []
abbrev InsR (nd : Nd) (ins : List Rows) : Prop := ins.length = nd.ins.length ∧ ∀ rs, rs ∈ ins → Ok1 rs
theorem ins1 {α : Type} {xs : List α} (h : xs.length = 1) : ∃ a, xs = [a] := by
  match xs, h with
  | [a], _ => exact ⟨a, rfl⟩
theorem ins2 {α : Type} {xs : List α} (h : xs.length = 2) : ∃ a b, xs = [a, b] := by
  match xs, h with
  | [a, b], _ => exact ⟨a, b, rfl⟩
def Sp_u_called : Spec := strSp 3 (α := (Nd) × (Rl) × (List Rows)) (fun | (nd, r, ins) => r.ok ∧ nd.isCall = true ∧ InsR nd ins ) (fun | (nd, r, ins) => [nd.d, r.d, .nl (ins.map rowsD)]) (fun | (nd, r, ins) => rowsD (wholeNd r nd ins))
class H_u_called (G : Gm) : Prop where m : Meets Sp_u_called (G.fn 1)
theorem v_u_called {G : Gm} [H : H_u_called G] (nd : Nd) (r : Rl) (ins : List Rows) (h : r.ok ∧ nd.isCall = true ∧ InsR nd ins ) {ds : List D} {M : Store} (v : Vks M [] ds [nd.d, r.d, .nl (ins.map rowsD)]) (hl : ds.length = 3 := by rfl) : G.fn 1 ds M = Res.ok (rowsD (wholeNd r nd ins)) M := str_call H.m hl (nd, r, ins) h v
theorem c_u_called {G : Gm} [H : H_u_called G] (nd : Nd) (r : Rl) (ins : List Rows) (h : r.ok ∧ nd.isCall = true ∧ InsR nd ins ) (M : Store) : G.fn 1 [nd.d, r.d, .nl (ins.map rowsD)] M = Res.ok (rowsD (wholeNd r nd ins)) M := by
  have qc : Css [nd.d, r.d, .nl (ins.map rowsD)] := by (repeat' (first | exact Css.nil | refine Css.cons ?_ ?_ | assumption | exact Cs.rows _ | exact Css.rowss _ | exact Cs.row _ | exact Cs.int _ | exact Cs.str _ | exact Cs.bl _ | exact Cs.non | exact (Nd.cl _).cs | exact Cs.rl _ | refine Cs.nl ?_ | refine Cs.tup ?_ | exact Css.ints _ | refine Css.map (fun _ => ?_) _))
  exact v_u_called nd r ins h (qc M [])
theorem r_u_called {G : Gm} [Gl G] [H_by_rule G] [H_u_scanned G] [H_u_merged G] [H_u_accepted G] (nd : Nd) (r : Rl) (ins : List Rows) (h : r.ok ∧ nd.isCall = true ∧ InsR nd ins ) : Runs (runF G b_u_called 6) [nd.d, r.d, .nl (ins.map rowsD)] ((.val (rowsD (wholeNd r nd ins)))) := by
  obtain ⟨hr, hc, hl, ho⟩ := h
  cases nd with
  | map p =>
    obtain ⟨a, rfl⟩ := ins1 hl
    have ha := ho a List.mem_cons_self
    have lc := lc_all (J := enuI ⟨a.length, fun i _ => some (a.map rowD)[i]?⟩) (tg := [4, 5]) (env := [some (.tup [.str (tx 0), .int (p : Int)]), some r.d, some (.nl [rowsD a]), some (.str (tx 0)), none, none]) (c := evT G (.tru (.bl true))) (e := ev G b_u_called_C1e) (n := a.length) (it := fun i => .tup [.int (i : Int), rowD (a.getD i [])]) (k := a.length) (M := [])
      (fun i => rowD [r.map (a.getD i []) i]) (fun i => enu_nx []) (by have := ha.1; omega) (Nat.le_refl _) (fun env => tru_e env []) (fun i hi => by
        have v := c_by_rule (G := G) r (.map (a.getD i []) i) hr []
        simp only [Ask.kind, Ask.rows, Ask.ats, Ask.val, List.map_cons, List.map_nil, natsD] at v
        have e : rowD [r.map (a.getD i []) i] = .nl [.int (r.map (a.getD i []) i)] := rfl
        exact ⟨_, rfl, by rw [e]; simp?! [b_u_called_C1e, wk_row, wk_rl, v]⟩)
    refine Runs.nl (xs := (mapR r a).map rowD) (N := []) ?_ (Ffs.rows _)
    have e : (mapR r a).map rowD = (List.range a.length).map fun i => rowD [r.map (a.getD i []) i] := by unfold mapR; rw [List.map_map] <;> rfl
    rw [e]
    simp?! [b_u_called, Nd.d, itm_rowsD, enu_n, lc]
  | filter p =>
    obtain ⟨a, rfl⟩ := ins1 hl
    have v := c_u_accepted (G := G) r false a ⟨hr, ho a List.mem_cons_self⟩ []
    simp only [kindT, Bool.false_eq_true, if_false] at v
    refine Runs.nl (xs := (accR r false a).map rowD) (N := []) ?_ (Ffs.rows _)
    rw [show D.nl ((accR r false a).map rowD) = rowsD (accR r false a) from rfl]
    simp?! [b_u_called, Nd.d, v]
  | whil p =>
    obtain ⟨a, rfl⟩ := ins1 hl
    have v := c_u_accepted (G := G) r true a ⟨hr, ho a List.mem_cons_self⟩ []
    simp only [kindT, if_true] at v
    refine Runs.nl (xs := (accR r true a).map rowD) (N := []) ?_ (Ffs.rows _)
    rw [show D.nl ((accR r true a).map rowD) = rowsD (accR r true a) from rfl]
    simp?! [b_u_called, Nd.d, v]
  | scan s p =>
    obtain ⟨a, rfl⟩ := ins1 hl
    have v := c_u_scanned (G := G) r s a ⟨hr, ho a List.mem_cons_self⟩ []
    refine Runs.nl (xs := (scanR r s a).map rowD) (N := []) ?_ (Ffs.rows _)
    rw [show D.nl ((scanR r s a).map rowD) = rowsD (scanR r s a) from rfl]
    simp?! [b_u_called, Nd.d, wk_rl, wk_rows, v]
  | merge p q =>
    obtain ⟨a, b, rfl⟩ := ins2 hl
    have v := c_u_merged (G := G) r a b ⟨hr, ho a List.mem_cons_self, ho b (List.mem_cons_of_mem _ List.mem_cons_self)⟩ []
    refine Runs.nl (xs := (mrg r a b 0 0).map rowD) (N := []) ?_ (Ffs.rows _)
    rw [show D.nl ((mrg r a b 0 0).map rowD) = rowsD (mrg r a b 0 0) from rfl]
    simp?! [b_u_called, Nd.d, v]
  | _ => exact absurd hc Bool.false_ne_true
theorem sh_u_called {T : Tb} {G : Gm} [Gl G] [H_by_rule G] [H_u_scanned G] [H_u_merged G] [H_u_accepted G] : Shows T Sp_u_called (runF G b_u_called 6) := str_shows (fun | (nd, r, ins), h => r_u_called nd r ins h)
def Sp_u_plain : Spec := strSp 2 (α := (Nd) × (List Rows)) (fun | (nd, ins) => (nd.isCall = false ∧ nd.isSrc = false ∧ nd.par) ∧ InsR nd ins ) (fun | (nd, ins) => [nd.d, .nl (ins.map rowsD)]) (fun | (nd, ins) => rowsD (wholeNd default nd ins))
class H_u_plain (G : Gm) : Prop where m : Meets Sp_u_plain (G.fn 134)
theorem v_u_plain {G : Gm} [H : H_u_plain G] (nd : Nd) (ins : List Rows) (h : (nd.isCall = false ∧ nd.isSrc = false ∧ nd.par) ∧ InsR nd ins ) {ds : List D} {M : Store} (v : Vks M [] ds [nd.d, .nl (ins.map rowsD)]) (hl : ds.length = 2 := by rfl) : G.fn 134 ds M = Res.ok (rowsD (wholeNd default nd ins)) M := str_call H.m hl (nd, ins) h v
theorem c_u_plain {G : Gm} [H : H_u_plain G] (nd : Nd) (ins : List Rows) (h : (nd.isCall = false ∧ nd.isSrc = false ∧ nd.par) ∧ InsR nd ins ) (M : Store) : G.fn 134 [nd.d, .nl (ins.map rowsD)] M = Res.ok (rowsD (wholeNd default nd ins)) M := by
  have qc : Css [nd.d, .nl (ins.map rowsD)] := by (repeat' (first | exact Css.nil | refine Css.cons ?_ ?_ | assumption | exact Cs.rows _ | exact Css.rowss _ | exact Cs.row _ | exact Cs.int _ | exact Cs.str _ | exact Cs.bl _ | exact Cs.non | exact (Nd.cl _).cs | exact Cs.rl _ | refine Cs.nl ?_ | refine Cs.tup ?_ | exact Css.ints _ | refine Css.map (fun _ => ?_) _))
  exact v_u_plain nd ins h (qc M [])
theorem r_u_plain {G : Gm} [Gl G] [H_u_windows G] (nd : Nd) (ins : List Rows) (h : (nd.isCall = false ∧ nd.isSrc = false ∧ nd.par) ∧ InsR nd ins ) : Runs (runF G b_u_plain 5) [nd.d, .nl (ins.map rowsD)] ((.val (rowsD (wholeNd default nd ins)))) := by
  obtain ⟨⟨hc, hs, hp⟩, hl, ho⟩ := h
  cases nd with
  | take n p =>
    obtain ⟨a, rfl⟩ := ins1 hl
    have sl := slp_take (M := []) (i := n) (asM_rowsD (rs := a))
    refine Runs.nl (xs := (a.take n).map rowD) (N := []) ?_ (Ffs.rows _)
    rw [List.map_take]
    simp?! [b_u_plain, Nd.d, sl]
  | drop n p =>
    obtain ⟨a, rfl⟩ := ins1 hl
    have sl := slp_drop (M := []) (i := n) (asM_rowsD (rs := a))
    refine Runs.nl (xs := (a.drop n).map rowD) (N := []) ?_ (Ffs.rows _)
    rw [List.map_drop]
    simp?! [b_u_plain, Nd.d, sl]
  | window n p =>
    obtain ⟨a, rfl⟩ := ins1 hl
    have v := c_u_windows (G := G) n a ⟨hp, ho a List.mem_cons_self⟩ []
    refine Runs.nl (xs := (winR n a).map rowD) (N := []) ?_ (Ffs.rows _)
    rw [show D.nl ((winR n a).map rowD) = rowsD (winR n a) from rfl]
    simp?! [b_u_plain, Nd.d, wk_rows, v]
  | zip p q =>
    obtain ⟨a, b, rfl⟩ := ins2 hl
    have ha := ho a List.mem_cons_self
    have hb := ho b (List.mem_cons_of_mem _ List.mem_cons_self)
    have lc := lc_all (J := zipI ⟨a.length, fun i _ => some (a.map rowD)[i]?⟩ ⟨b.length, fun i _ => some (b.map rowD)[i]?⟩) (tg := [3, 4]) (env := [some (.tup [.str (tx 8), .int (p : Int), .int (q : Int)]), some (.nl [rowsD a, rowsD b]), some (.str (tx 8)), none, none]) (c := evT G (.tru (.bl true))) (e := ev G b_u_plain_C1e) (n := min a.length b.length) (it := fun i => .tup [rowD (a.getD i []), rowD (b.getD i [])]) (k := a.length) (M := [])
      (fun i => rowD (a.getD i [] ++ b.getD i [])) (fun i => zip_nx [] []) (by have := ha.1; omega) (Nat.min_le_left _ _) (fun env => tru_e env []) (fun i hi => by
        have h1 := ha.at i
        have h2 := hb.at i
        have c1 : catL (rowD (a.getD i [])) (rowD (b.getD i [])) [] = .ok ((a.getD i []).map D.int ++ (b.getD i []).map D.int) [] := cat_e rfl rfl (by rw [List.length_map, List.length_map]; omega)
        have e : rowD (a.getD i [] ++ b.getD i []) = .nl ((a.getD i []).map D.int ++ (b.getD i []).map D.int) := by unfold rowD; rw [List.map_append]
        exact ⟨_, rfl, by rw [e]; simp?! [b_u_plain_C1e, c1]⟩)
    refine Runs.nl (xs := (zipR a b).map rowD) (N := []) ?_ (Ffs.rows _)
    have e : (zipR a b).map rowD = (List.range (min a.length b.length)).map fun i => rowD (a.getD i [] ++ b.getD i []) := by unfold zipR; rw [List.map_map] <;> rfl
    rw [e]
    have i1 : itmL [] (rowsD a) = some ⟨a.length, fun i _ => some (a.map rowD)[i]?⟩ := by unfold rowsD; rw [itmL_nl, List.length_map]
    have i2 : itmL [] (rowsD b) = some ⟨b.length, fun i _ => some (b.map rowD)[i]?⟩ := by unfold rowsD; rw [itmL_nl, List.length_map]
    have zn : (zipI ⟨a.length, fun i _ => some (a.map rowD)[i]?⟩ ⟨b.length, fun i _ => some (b.map rowD)[i]?⟩).n = a.length := rfl
    simp?! [b_u_plain, Nd.d, i1, i2, zn, lc]
  | src => exact absurd hs (by simp [Nd.isSrc])
  | _ => exact absurd hc (by simp [Nd.isCall])
theorem sh_u_plain {T : Tb} {G : Gm} [Gl G] [H_u_windows G] : Shows T Sp_u_plain (runF G b_u_plain 5) := str_shows (fun | (nd, ins), h => r_u_plain nd ins h)
end Lp

namespace Lp
open PySem
local macro_rules | `(tactic| simp?! [$args,*] $[$loc]?) => `(tactic| simp -implicitDefEqProofs only [$args,*, runF, natD, natsD, vOk_e, ev_var, ev_non, ev_bl, ev_int, ev_str, ev_gco, cB1_e, ev_bin, ev_neg, cC1_e, ev_cmp, cH3_t, cH3_f, cH2_e, cH1_e, ev_chn, cAnd_t, cAnd_f, ev_andv, cOr_t, cOr_f, ev_orv, cNot_e, ev_notv, cIfe_t, cIfe_f, ev_ife, cI1_e, ev_idx, cS2_e, cS1_e, ev_slt, cAt_e, ev_att, ev_call, cCall_e, cM2_e, cM1_e, ev_mth, mkK_e, cMk_e, ev_mk, ev_blt, cIs_e, ev_isi, appK_e, cA2_e, appP_e, cA1_e, ev_app, cTup_e, ev_tup, cFz_e, ev_fz, cFr_e, ev_fr, cMu_e, ev_mu, bOk_e, cTru_e, evT_tru, cTa_t, cTa_f, evT_tand, cTo_t, cTo_f, evT_tor, cTn_e, evT_tnot, evs_nil, cCo2_e, cCo1_e, evs_cons, evO_absent, cO_e, evO_tru, cDs_e, evL_dsp, cCt_e, evL_cat, cRp_e, evL_rep, cP2_e, cP1_e, evL_slp, lOk_e, cLo_e, evL_lof, cLc_e, evL_lc, iOk_e, cIt_e, evI_itm, cR1_e, evI_rng1, cR3_i, cR2_e, evI_rng2, cEn_e, evI_enu, cZ2_e, cZ1_e, evI_zip2, ex_nil, ex_pass, cSeq_n, cSeq_r, cSeq_b, ex_seq, cSet_e, ex_set, eOk_e, cSt_e, ex_setT, nxR_e, cSA2_e, cSA1_e, ex_setA, cSI3_e, cSI2_e, cSI1_e, ex_setI, cEx_e, ex_ex, cRet_e, ex_ret, ex_retN, ex_brk, cIf_t, cIf_f, ex_ife, cFor_e, ex_for, fin_ret, fin_nx, enK_e, idP_e, cIdn_e, ev_idn, popK_e, popz_e, ev_popz, ev_dem, cCalS_e, ev_cals, cMtS2_e, cMtS1_e, ev_mths, cMkS_e, ev_mks, smK_e, cSm_e, evL_sml, cRd3_i, cRd2_e, evI_rngd, cAu1_e, auP_e, ex_aug, aug_add, aug_sub, aaQ_e, cAA4_e, cAA3_e, cAA2_e, aaP_e, cAA1_e, ex_augA, cAI5_e, cAI4_e, cAI3_e, cAI2_e, cAI1_e, ex_augI, bind_ok, bind_bad, bind_exc, Lp.start, Gstr, Ggco, gc, GCD, setE, bin_add, bin_sub, cmpD, bRes, oRes, negD, truB_bl, truB_non, truB_int, isNon, eqB_int, eqB_str, eqB_bl, idx_tup, idx_lst, idx_arr, atI_0, atI_1, atI_2, atI_3, atI_4, atI_5, atI_6, atI_7, atI_8, atI_9, atI_10, atI_11,  slcT_1, slcT_2, slcT_21, inB_tup, inB_arr, inB_lst, flatD, eqF, tx_beq, List.all_cons, List.all_nil, List.any_cons, List.any_nil, Bool.and_true, Bool.true_and, Bool.and_false, Bool.false_and, Bool.or_false, Bool.or_true, Bool.true_or, Bool.false_or, Nat.reduceBEq, wipeE, itm_tup, itm_lst, itm_arr, List.map_cons, List.map_nil, List.cons_append, List.nil_append, List.length_cons, List.length_nil, List.getElem?_cons_zero, List.getElem?_cons_succ, List.getElem?_nil, List.set_cons_zero, List.set_cons_succ, List.getD_cons_zero, List.getD_cons_succ, List.replicate_succ, List.replicate_zero, Nat.reduceAdd, Nat.reduceSub, Nat.zero_add, Option.map_some, Option.map_none, Bool.not_true, Bool.not_false, ite_true, ite_false, if_true, if_false, reduceCtorEq, decide_true, decide_false, decide_eq_true_eq, tx_dec, Bool.false_eq_true, Nat.reduceEqDiff, Nat.reduceLT, Nat.reduceLeDiff, line_ok, line_lt, lcG_s, lcG_0, lcG_n, lcX_n, lcX_s, lcB_s, lcC_t, lcC_f, lcE_o, bindG_1, id_eq, nc_0, nc_1, nc_2, nc_3, nc_4, nc_5, nc_6, nc_7, nc_8, nc_9, nc_10, nc_11, nc_12,  Int.reduceEq, Int.reduceLT, Int.reduceLE, Int.reduceNeg, Int.reduceAdd, Int.reduceSub, Int.reduceMul, Option.bind_some, dInts_1, dInts_2, minL_1, minL_2, List.sum_cons, List.sum_nil, Int.add_zero, idx_nl, inB_nl, itm_nl, wk_non, wk_bl, wk_int, wk_str, wk_ref, wk_tup, wk_lst, wk_nl, wk_arr, wk_ins, wk_no, wk_dic, wks_nil, wks_cons, wkf_nil, wkf_cons, wkk_nil, wkk_cons, wks_ints] $[$loc]?)
theorem mapO_rows {M : Store} : ∀ rs : Rows, mapO (asM M) (rs.map rowD) = some (rs.map fun r => r.map D.int)
  | [] => rfl
  | r :: rs => by rw [List.map_cons, mapO, asM_row, mapO_rows rs] <;> rfl
theorem sml_rows {M : Store} {rs : Rows} : sumLL M (.nl (rs.map rowD)) = some (rs.flatten.map D.int) := by
  show ((some (rs.map rowD)).bind fun xs => (mapO (asM M) xs).map List.flatten) = _
  rw [Option.bind_some, mapO_rows, Option.map_some, List.map_flatten]
theorem min_2 {x y : Int} {M : Store} : bltD .min [.int x, .int y] M = .ok (.int (if y < x then y else x)) M := rfl
def rlA (nd : Nd) (r : Rl) : D := if nd.isCall then r.d else .non
theorem Cs.rlA (nd : Nd) (r : Rl) : Cs (rlA nd r) := by unfold Lp.rlA; split <;> first | exact Cs.rl r | exact Cs.non
def Sp_law_whole_node : Spec := strSp 3 (α := (Nd) × (Rl) × (List Rows)) (fun | (nd, r, ins) => (nd.isSrc = false ∧ nd.par ∧ (nd.isCall = true → r.ok)) ∧ InsR nd ins ) (fun | (nd, r, ins) => [nd.d, .nl (ins.map rowsD), rlA nd r]) (fun | (nd, r, ins) => rowsD (wholeNd r nd ins))
class H_law_whole_node (G : Gm) : Prop where m : Meets Sp_law_whole_node (G.fn 125)
theorem v_law_whole_node {G : Gm} [H : H_law_whole_node G] (nd : Nd) (r : Rl) (ins : List Rows) (h : (nd.isSrc = false ∧ nd.par ∧ (nd.isCall = true → r.ok)) ∧ InsR nd ins ) {ds : List D} {M : Store} (v : Vks M [] ds [nd.d, .nl (ins.map rowsD), rlA nd r]) (hl : ds.length = 3 := by rfl) : G.fn 125 ds M = Res.ok (rowsD (wholeNd r nd ins)) M := str_call H.m hl (nd, r, ins) h v
theorem c_law_whole_node {G : Gm} [H : H_law_whole_node G] (nd : Nd) (r : Rl) (ins : List Rows) (h : (nd.isSrc = false ∧ nd.par ∧ (nd.isCall = true → r.ok)) ∧ InsR nd ins ) (M : Store) : G.fn 125 [nd.d, .nl (ins.map rowsD), rlA nd r] M = Res.ok (rowsD (wholeNd r nd ins)) M := by
  have qc : Css [nd.d, .nl (ins.map rowsD), rlA nd r] := by (repeat' (first | exact Css.nil | refine Css.cons ?_ ?_ | assumption | exact Cs.rows _ | exact Css.rowss _ | exact Cs.row _ | exact Cs.int _ | exact Cs.str _ | exact Cs.bl _ | exact Cs.non | exact (Nd.cl _).cs | exact Cs.rl _ | exact Cs.rlA _ _ | refine Cs.nl ?_ | refine Cs.tup ?_ | exact Css.ints _ | refine Css.map (fun _ => ?_) _))
  exact v_law_whole_node nd r ins h (qc M [])
theorem r_law_whole_node {G : Gm} [Gl G] [H_law_rule G] [H_law_kept_while G] [H_law_scanned G] [H_law_merged G] (nd : Nd) (r : Rl) (ins : List Rows) (h : (nd.isSrc = false ∧ nd.par ∧ (nd.isCall = true → r.ok)) ∧ InsR nd ins ) : Runs (runF G b_law_whole_node 6) [nd.d, .nl (ins.map rowsD), rlA nd r] ((.val (rowsD (wholeNd r nd ins)))) := by
  obtain ⟨⟨hs, hp, hr⟩, hl, ho⟩ := h
  cases nd with
  | src => exact absurd hs (by simp [Nd.isSrc])
  | map p =>
    obtain ⟨a, rfl⟩ := ins1 hl
    have ha := ho a List.mem_cons_self
    have hz := ha.1
    have lc := lc_all (J := rngI 0 a.length) (tg := [5]) (env := [some (.tup [.str (tx 0), .int (p : Int)]), some (.nl [rowsD a]), some r.d, some (.str (tx 0)), none, none]) (c := evT G (.tru (.bl true))) (e := ev G b_law_whole_node_C2e) (n := a.length) (it := fun i => .int (0 + i)) (k := a.length) (M := [])
      (fun i => rowD [r.map (a.getD i []) i]) (fun i => rng_nx) (by omega) (Nat.le_refl _) (fun env => tru_e env []) (fun i hi => by
        have v := c_law_rule (G := G) r (.map (a.getD i []) i) (hr rfl) []
        simp only [Ask.kind, Ask.rows, Ask.ats, Ask.val, List.map_cons, List.map_nil, natsD] at v
        have e : rowD [r.map (a.getD i []) i] = .nl [.int (r.map (a.getD i []) i)] := rfl
        have e0 : (0 : Int) + (i : Int) = (i : Int) := by omega
        exact ⟨_, rfl, by rw [e, e0]; simp?! [b_law_whole_node_C2e, wk_rl, idx_rowsD hi, sum_row, v]⟩)
    refine Runs.nl (xs := (mapR r a).map rowD) (N := []) ?_ (Ffs.rows _)
    have e : (mapR r a).map rowD = (List.range a.length).map fun i => rowD [r.map (a.getD i []) i] := by unfold mapR; rw [List.map_map] <;> rfl
    rw [e]
    have e2 : rlA (.map p) r = r.d := rfl
    simp?! [b_law_whole_node, Nd.d, e2, len_rowsD, if_pos (small_nat (n := a.length) (by omega)), toNat_nat, rng_n, lc]
  | filter p =>
    obtain ⟨a, rfl⟩ := ins1 hl
    have v := c_law_kept_while (G := G) r false a ⟨hr rfl, ho a List.mem_cons_self⟩ []
    refine Runs.nl (xs := (accR r false a).map rowD) (N := []) ?_ (Ffs.rows _)
    rw [show D.nl ((accR r false a).map rowD) = rowsD (accR r false a) from rfl]
    have e2 : rlA (.filter p) r = r.d := rfl
    simp?! [b_law_whole_node, Nd.d, e2, v]
  | whil p =>
    obtain ⟨a, rfl⟩ := ins1 hl
    have v := c_law_kept_while (G := G) r true a ⟨hr rfl, ho a List.mem_cons_self⟩ []
    refine Runs.nl (xs := (accR r true a).map rowD) (N := []) ?_ (Ffs.rows _)
    rw [show D.nl ((accR r true a).map rowD) = rowsD (accR r true a) from rfl]
    have e2 : rlA (.whil p) r = r.d := rfl
    simp?! [b_law_whole_node, Nd.d, e2, v]
  | take n p =>
    obtain ⟨a, rfl⟩ := ins1 hl
    have sl := slp_take (M := []) (i := n) (asM_rowsD (rs := a))
    refine Runs.nl (xs := (a.take n).map rowD) (N := []) ?_ (Ffs.rows _)
    rw [List.map_take]
    simp?! [b_law_whole_node, Nd.d, sl]
  | drop n p =>
    obtain ⟨a, rfl⟩ := ins1 hl
    have sl := slp_drop (M := []) (i := n) (asM_rowsD (rs := a))
    refine Runs.nl (xs := (a.drop n).map rowD) (N := []) ?_ (Ffs.rows _)
    rw [List.map_drop]
    simp?! [b_law_whole_node, Nd.d, sl]
  | window k p =>
    obtain ⟨a, rfl⟩ := ins1 hl
    have ha := ho a List.mem_cons_self
    obtain ⟨hk1, hk2⟩ := hp
    have hl := ha.1
    have key := for_all (J := rngI 0 (a.length + 1 - k)) (tg := [5]) (b := exec G b_law_whole_node_L1) (n := a.length + 1 - k) (it := fun i => .int (0 + i))
      (fun i env M => ∃ y5, M = out1 ((List.range i).map fun i => ((a.drop i).take k).flatten) ∧ env = [some (.tup [.str (tx 7), .int (k : Int), .int (p : Int)]), some (.nl [rowsD a]), some (rlA (.window k p) r), some (.str (tx 7)), some (.ref 0), y5]) (fun i env M' h => rng_nx)
      (fun i env M hi h => by
        obtain ⟨y5, rfl, rfl⟩ := h
        have e0 : (0 : Int) + (i : Int) = (i : Int) := by omega
        rw [e0]
        have ap := app_1 (rs := (List.range i).map fun i => ((a.drop i).take k).flatten) (x := ((a.drop i).take k).flatten) (by simp; omega)
        refine ⟨_, [some (.tup [.str (tx 7), .int (k : Int), .int (p : Int)]), some (.nl [rowsD a]), some (rlA (.window k p) r), some (.str (tx 7)), some (.ref 0), some (.int (i : Int))], _, rfl, ?_, _, rfl, rfl⟩
        rw [List.range_succ, List.map_append, List.map_cons, List.map_nil]
        have sl := slp_mid (M := out1 ((List.range i).map fun i => ((a.drop i).take k).flatten)) (k := k) (asM_rowsD (rs := a)) (i := i) (by simp; omega)
        have em : ((a.map rowD).drop i).take k = ((a.drop i).take k).map rowD := by rw [List.map_take, List.map_drop]
        rw [em] at sl
        have hz : ((a.drop i).take k).flatten.length ≤ 12 * ((a.drop i).take k).length := Ok1.flat (ha.sub i k).2
        have hz2 := (ha.sub i k).1
        have sz : (((a.drop i).take k).flatten.map D.int).length ≤ sizeLine := line_le (by rw [List.length_map]; omega)
        have e : rowD ((a.drop i).take k).flatten = .nl (((a.drop i).take k).flatten.map D.int) := rfl
        rw [e] at ap
        simp?! [b_law_whole_node_L1, sl, sml_rows, if_pos sz, ap])
      (k := a.length + 1 - k) (env := [some (.tup [.str (tx 7), .int (k : Int), .int (p : Int)]), some (.nl [rowsD a]), some (rlA (.window k p) r), some (.str (tx 7)), some (.ref 0), none]) (M := out1 []) (Nat.le_refl _) ⟨_, rfl, rfl⟩
    obtain ⟨env', M', h2, y5, h3, h4⟩ := key
    subst h3 h4
    refine Runs.out1 (rs := winR k a) ?_
    have e2 : out1 [] = [MO.lst []] := rfl
    rw [e2] at h2
    have sm : small ((a.length : Int) - (k : Int) + 1) := ⟨by omega, by omega⟩
    have nt : ((a.length : Int) - (k : Int) + 1).toNat = a.length + 1 - k := by omega
    simp?! [b_law_whole_node, Nd.d, len_rowsD, if_pos sm, nt, rng_n, h2]
    rfl
  | scan s p =>
    obtain ⟨a, rfl⟩ := ins1 hl
    have v := c_law_scanned (G := G) r s a ⟨hr rfl, ho a List.mem_cons_self⟩ []
    refine Runs.nl (xs := (scanR r s a).map rowD) (N := []) ?_ (Ffs.rows _)
    rw [show D.nl ((scanR r s a).map rowD) = rowsD (scanR r s a) from rfl]
    have e2 : rlA (.scan s p) r = r.d := rfl
    simp?! [b_law_whole_node, Nd.d, e2, wk_rl, wk_rows, v]
  | zip p q =>
    obtain ⟨a, b, rfl⟩ := ins2 hl
    have ha := ho a List.mem_cons_self
    have hb := ho b (List.mem_cons_of_mem _ List.mem_cons_self)
    have hz := ha.1
    have hz2 := hb.1
    have lc := lc_all (J := rngI 0 (min a.length b.length)) (tg := [5]) (env := [some (.tup [.str (tx 8), .int (p : Int), .int (q : Int)]), some (.nl [rowsD a, rowsD b]), some (rlA (.zip p q) r), some (.str (tx 8)), none, none]) (c := evT G (.tru (.bl true))) (e := ev G b_law_whole_node_C1e) (n := min a.length b.length) (it := fun i => .int (0 + i)) (k := min a.length b.length) (M := [])
      (fun i => rowD (a.getD i [] ++ b.getD i [])) (fun i => rng_nx) (by omega) (Nat.le_refl _) (fun env => tru_e env []) (fun i hi => by
        have h1 := ha.at i
        have h2 := hb.at i
        have c1 : catL (rowD (a.getD i [])) (rowD (b.getD i [])) [] = .ok ((a.getD i []).map D.int ++ (b.getD i []).map D.int) [] := cat_e rfl rfl (by rw [List.length_map, List.length_map]; omega)
        have e : rowD (a.getD i [] ++ b.getD i []) = .nl ((a.getD i []).map D.int ++ (b.getD i []).map D.int) := by unfold rowD; rw [List.map_append]
        have e0 : (0 : Int) + (i : Int) = (i : Int) := by omega
        exact ⟨_, rfl, by rw [e, e0]; simp?! [b_law_whole_node_C1e, idx_rowsD (rs := a) (i := i) (by omega), idx_rowsD (rs := b) (i := i) (by omega), c1]⟩)
    refine Runs.nl (xs := (zipR a b).map rowD) (N := []) ?_ (Ffs.rows _)
    have e : (zipR a b).map rowD = (List.range (min a.length b.length)).map fun i => rowD (a.getD i [] ++ b.getD i []) := by unfold zipR; rw [List.map_map] <;> rfl
    rw [e]
    have nt : (if (b.length : Int) < (a.length : Int) then (b.length : Int) else (a.length : Int)) = ((min a.length b.length : Nat) : Int) := by split <;> omega
    simp?! [b_law_whole_node, Nd.d, len_rowsD, min_2, nt, if_pos (small_nat (n := min a.length b.length) (by omega)), toNat_nat, rng_n, lc]
  | merge p q =>
    obtain ⟨a, b, rfl⟩ := ins2 hl
    have v := c_law_merged (G := G) r a b ⟨hr rfl, ho a List.mem_cons_self, ho b (List.mem_cons_of_mem _ List.mem_cons_self)⟩ []
    refine Runs.nl (xs := (mrg r a b 0 0).map rowD) (N := []) ?_ (Ffs.rows _)
    rw [show D.nl ((mrg r a b 0 0).map rowD) = rowsD (mrg r a b 0 0) from rfl]
    have e2 : rlA (.merge p q) r = r.d := rfl
    simp?! [b_law_whole_node, Nd.d, e2, v]
theorem sh_law_whole_node {T : Tb} {G : Gm} [Gl G] [H_law_rule G] [H_law_kept_while G] [H_law_scanned G] [H_law_merged G] : Shows T Sp_law_whole_node (runF G b_law_whole_node 6) := str_shows (fun | (nd, r, ins), h => r_law_whole_node nd r ins h)
theorem accN_mem {r : Rl} {rs : Rows} : ∀ {n : Nat} {x : List Int}, n ≤ rs.length → x ∈ accN r rs n → x ∈ rs
  | 0, _, _, h => by cases h
  | n + 1, x, hn, h => by
    unfold accN at h
    split at h
    · rcases List.mem_append.mp h with h | h
      · exact accN_mem (by omega) h
      · rw [List.mem_singleton.mp h]
        exact List.mem_of_getElem? (getD_mem (d := []) (by omega))
    · exact accN_mem (by omega) h
theorem stopK_le {r : Rl} {rs : Rows} : ∀ (f k : Nat), stopK r rs f k ≤ f + k
  | 0, k => by unfold stopK; omega
  | f + 1, k => by
    unfold stopK
    split
    · have := stopK_le (r := r) (rs := rs) f (k + 1); omega
    · omega
theorem accR_size (r : Rl) (w : Bool) (rs : Rows) : (accR r w rs).length ≤ rs.length ∧ ∀ x, x ∈ accR r w rs → x ∈ rs := by
  unfold accR
  have h : (if w = true then stopK r rs rs.length 0 else rs.length) ≤ rs.length := by
    split
    · have := stopK_le (r := r) (rs := rs) rs.length 0; omega
    · exact Nat.le_refl _
  exact ⟨Nat.le_trans (accN_len _ _ _) h, fun x hx => accN_mem h hx⟩
theorem mrg_size (r : Rl) : ∀ (a b : Rows) (i j : Nat), (mrg r a b i j).length = a.length + b.length ∧ ∀ x, x ∈ mrg r a b i j → x ∈ a ∨ x ∈ b
  | [], ys, i, j => by rw [mrg_nl]; exact ⟨by simp, fun x h => .inr h⟩
  | x :: xs, [], i, j => by rw [mrg_nr]; exact ⟨by simp, fun x h => .inl h⟩
  | x :: xs, y :: ys, i, j => by
    rw [mrg]
    split
    · obtain ⟨h1, h2⟩ := mrg_size r xs (y :: ys) (i + 1) j
      refine ⟨by simp only [List.length_cons] at h1 ⊢; omega, fun z hz => ?_⟩
      rcases List.mem_cons.mp hz with rfl | hz
      · exact .inl List.mem_cons_self
      · rcases h2 z hz with h | h
        · exact .inl (List.mem_cons_of_mem _ h)
        · exact .inr h
    · obtain ⟨h1, h2⟩ := mrg_size r (x :: xs) ys i (j + 1)
      refine ⟨by simp only [List.length_cons] at h1 ⊢; omega, fun z hz => ?_⟩
      rcases List.mem_cons.mp hz with rfl | hz
      · exact .inr List.mem_cons_self
      · rcases h2 z hz with h | h
        · exact .inl h
        · exact .inr (List.mem_cons_of_mem _ h)
termination_by a b => a.length + b.length
theorem scanN_row (r : Rl) (s : Int) (rs : Rows) : ∀ n x, x ∈ (scanN r s rs n).1 → x.length = 1
  | 0, _, h => by cases h
  | n + 1, x, h => by
    rcases List.mem_append.mp h with h | h
    · exact scanN_row r s rs n x h
    · rw [List.mem_singleton.mp h] <;> rfl
theorem flat_le {w : Nat} {rs : Rows} (h : ∀ r, r ∈ rs → r.length ≤ w) : rs.flatten.length ≤ w * rs.length := by
  induction rs with
  | nil => simp
  | cons r rs ih =>
    have h1 := h r List.mem_cons_self
    have h2 := ih fun x hx => h x (List.mem_cons_of_mem _ hx)
    rw [List.flatten_cons, List.length_append, List.length_cons, Nat.mul_succ]
    omega
def Fit (l w : Int) (rs : Rows) : Prop := (rs.length : Int) ≤ l ∧ ∀ r, r ∈ rs → (r.length : Int) ≤ w
theorem fit_nd {ls ws : List Int} {nd : Nd} {r : Rl} {ins : List Rows} (hl : ins.length = nd.ins.length) (hs : nd.isSrc = false) (hp : nd.par) (hm : ∀ p q, nd = .merge p q → ws.getD p 0 = ws.getD q 0)
    (h : ∀ (j : Nat) (p : Nat), nd.ins[j]? = some p → Fit (ls.getD p 0) (ws.getD p 0) (ins.getD j [])) : Fit (nd.l ls) (nd.w ws) (wholeNd r nd ins) := by
  cases nd with
  | src => cases hs
  | map p =>
    obtain ⟨a, rfl⟩ := ins1 hl
    obtain ⟨h1, h2⟩ := h 0 p rfl
    refine ⟨by simpa [wholeNd, mapR, Nd.l] using h1, fun x hx => ?_⟩
    simp only [wholeNd, mapR, List.mem_map] at hx
    obtain ⟨i, _, rfl⟩ := hx
    simp [Nd.w]
  | filter p =>
    obtain ⟨a, rfl⟩ := ins1 hl
    obtain ⟨h1, h2⟩ := h 0 p rfl
    obtain ⟨q1, q2⟩ := accR_size r false a
    exact ⟨Int.le_trans (by exact_mod_cast q1) h1, fun x hx => h2 x (q2 x hx)⟩
  | whil p =>
    obtain ⟨a, rfl⟩ := ins1 hl
    obtain ⟨h1, h2⟩ := h 0 p rfl
    obtain ⟨q1, q2⟩ := accR_size r true a
    exact ⟨Int.le_trans (by exact_mod_cast q1) h1, fun x hx => h2 x (q2 x hx)⟩
  | take n p =>
    obtain ⟨a, rfl⟩ := ins1 hl
    obtain ⟨h1, h2⟩ := h 0 p rfl
    have h1 : (a.length : Int) ≤ ls.getD p 0 := h1
    refine ⟨?_, fun x hx => h2 x (List.mem_of_mem_take hx)⟩
    show (((a.take n).length : Nat) : Int) ≤ if ls.getD p 0 < (n : Int) then ls.getD p 0 else n
    rw [List.length_take]
    split <;> omega
  | drop n p =>
    obtain ⟨a, rfl⟩ := ins1 hl
    obtain ⟨h1, h2⟩ := h 0 p rfl
    have h1 : (a.length : Int) ≤ ls.getD p 0 := h1
    refine ⟨?_, fun x hx => h2 x (List.mem_of_mem_drop hx)⟩
    show (((a.drop n).length : Nat) : Int) ≤ if ls.getD p 0 - n > 0 then ls.getD p 0 - n else 0
    rw [List.length_drop]
    split <;> omega
  | window n p =>
    obtain ⟨a, rfl⟩ := ins1 hl
    obtain ⟨h1, h2⟩ := h 0 p rfl
    have h1 : (a.length : Int) ≤ ls.getD p 0 := h1
    obtain ⟨hn, _⟩ := hp
    refine ⟨?_, fun x hx => ?_⟩
    · show (((winR n a).length : Nat) : Int) ≤ if ls.getD p 0 - n + 1 > 0 then ls.getD p 0 - n + 1 else 0
      unfold winR
      rw [List.length_map, List.length_range]
      split <;> omega
    · simp only [wholeNd, winR, List.mem_map] at hx
      obtain ⟨i, _, rfl⟩ := hx
      show _ ≤ (n : Int) * ws.getD p 0
      by_cases he : ((a.drop i).take n) = []
      · have hw : 0 ≤ ws.getD p 0 ∨ a = [] := by
          cases a with
          | nil => exact .inr rfl
          | cons r rs => exact .inl (Int.le_trans (Int.natCast_nonneg _) (h2 r List.mem_cons_self))
        rcases hw with hw | hw
        · rw [he]
          simpa using Int.mul_nonneg (Int.natCast_nonneg n) hw
        · rename_i hi
          subst hw
          simp at hi
          omega
      · have hw : 0 ≤ ws.getD p 0 := by
          cases hc : ((a.drop i).take n) with
          | nil => exact absurd hc he
          | cons r rs => exact Int.le_trans (Int.natCast_nonneg _) (h2 r (List.mem_of_mem_drop (List.mem_of_mem_take (hc ▸ List.mem_cons_self))))
        obtain ⟨w, ew⟩ := Int.eq_ofNat_of_zero_le hw
        have q := flat_le (w := w) (rs := (a.drop i).take n) (fun r hr => by
          have := h2 r (List.mem_of_mem_drop (List.mem_of_mem_take hr))
          omega)
        have q2 : ((a.drop i).take n).length ≤ n := by rw [List.length_take]; omega
        have q3 : w * ((a.drop i).take n).length ≤ w * n := Nat.mul_le_mul_left w q2
        rw [ew, ← Int.natCast_mul]
        have q4 : w * n = n * w := Nat.mul_comm _ _
        exact_mod_cast (by omega : ((a.drop i).take n).flatten.length ≤ n * w)
  | scan s p =>
    obtain ⟨a, rfl⟩ := ins1 hl
    obtain ⟨h1, h2⟩ := h 0 p rfl
    refine ⟨?_, fun x hx => ?_⟩
    · show (((scanR r s a).length : Nat) : Int) ≤ _
      unfold scanR
      rw [scanN_len]
      exact h1
    · have : x.length = 1 := scanN_row r s a _ x hx
      show (x.length : Int) ≤ 1
      omega
  | zip p q =>
    obtain ⟨a, b, rfl⟩ := ins2 hl
    obtain ⟨h1, h2⟩ := h 0 p rfl
    obtain ⟨h3, h4⟩ := h 1 q rfl
    have h1 : (a.length : Int) ≤ ls.getD p 0 := h1
    have h3 : (b.length : Int) ≤ ls.getD q 0 := h3
    refine ⟨?_, fun x hx => ?_⟩
    · show (((zipR a b).length : Nat) : Int) ≤ if ls.getD q 0 < ls.getD p 0 then ls.getD q 0 else ls.getD p 0
      unfold zipR
      rw [List.length_map, List.length_range]
      split <;> omega
    · simp only [wholeNd, zipR, List.mem_map, List.mem_range] at hx
      obtain ⟨i, hi, rfl⟩ := hx
      have q1 := h2 _ (List.mem_of_getElem? (getD_mem (xs := a) (i := i) (d := []) (by omega)))
      have q2 := h4 _ (List.mem_of_getElem? (getD_mem (xs := b) (i := i) (d := []) (by omega)))
      show ((a.getD i [] ++ b.getD i []).length : Int) ≤ ws.getD p 0 + ws.getD q 0
      rw [List.length_append]
      omega
  | merge p q =>
    obtain ⟨a, b, rfl⟩ := ins2 hl
    obtain ⟨h1, h2⟩ := h 0 p rfl
    obtain ⟨h3, h4⟩ := h 1 q rfl
    have h1 : (a.length : Int) ≤ ls.getD p 0 := h1
    have h3 : (b.length : Int) ≤ ls.getD q 0 := h3
    obtain ⟨q1, q2⟩ := mrg_size r a b 0 0
    refine ⟨?_, fun x hx => ?_⟩
    · show (((mrg r a b 0 0).length : Nat) : Int) ≤ ls.getD p 0 + ls.getD q 0
      omega
    · show _ ≤ ws.getD p 0
      rcases q2 x hx with h | h
      · exact h2 x h
      · rw [hm p q rfl]; exact h4 x h
end Lp

namespace Lp
open PySem
def rlOf (nds : List Nd) (rls : List Rl) (n : Nat) : Rl := if (nds.getD n default).isCall then rls.getD ((posN Nd.isCall nds).idxOf n) default else default
def rowsAt (nds : List Nd) (vs : Rows) (rls : List Rl) (T : List Rows) (n : Nat) : Rows :=
  if (nds.getD n default).isSrc then (vs.getD ((posN Nd.isSrc nds).idxOf n) []).map fun v => [v]
  else wholeNd (rlOf nds rls n) (nds.getD n default) ((nds.getD n default).ins.map fun p => T.getD p [])
def wholeT (nds : List Nd) (vs : Rows) (rls : List Rl) : Nat → List Rows
  | 0 => []
  | n + 1 => wholeT nds vs rls n ++ [rowsAt nds vs rls (wholeT nds vs rls n) n]
structure Wok (nds : List Nd) (vs : Rows) (rls : List Rl) : Prop where
  rt : Rt nds
  vl : vs.length = (posN Nd.isSrc nds).length
  vz : ∀ v, v ∈ vs → v.length ≤ 200
  rl : rls.length = (posN Nd.isCall nds).length
  ro : ∀ r, r ∈ rls → r.ok
theorem mem_posN {sel : Nd → Bool} {nds : List Nd} {i : Nat} (h : i < nds.length) : i ∈ posN sel nds ↔ sel (nds.getD i default) = true := by
  unfold posN
  rw [List.mem_filter, List.mem_range]
  exact ⟨fun q => q.2, fun q => ⟨h, q⟩⟩
theorem lsN_at {nds : List Nd} {n : Nat} (h : n < nds.length) : (lsN nds).getD n 0 = (nds.getD n default).l (lsN (nds.take n)) := by
  have ht : nds.take (n + 1) = nds.take n ++ [nds.getD n default] := by rw [List.take_add_one, getD_mem (d := default) h] <;> rfl
  have hl : (lsN (nds.take n)).length = n := by rw [lsN_len, List.length_take]; omega
  rw [← lsN_take nds (k := n + 1) (i := n) (by omega), ht]
  show (runN (fun ls nd => nd.l ls) (nds.take n ++ [nds.getD n default])).getD n 0 = _
  rw [runN_snoc, List.getD_eq_getElem?_getD, List.getElem?_append_right (by show (lsN (nds.take n)).length ≤ n; omega)]
  show (([_] : List Int)[n - (lsN (nds.take n)).length]?).getD 0 = _
  rw [hl, Nat.sub_self] <;> rfl
theorem wsN_at {nds : List Nd} {n : Nat} (h : n < nds.length) : (wsN nds).getD n 0 = (nds.getD n default).w (wsN (nds.take n)) := by
  have ht : nds.take (n + 1) = nds.take n ++ [nds.getD n default] := by rw [List.take_add_one, getD_mem (d := default) h] <;> rfl
  have hl : (wsN (nds.take n)).length = n := by rw [wsN_len, List.length_take]; omega
  rw [← wsN_take nds (k := n + 1) (i := n) (by omega), ht]
  show (runN (fun ls nd => nd.w ls) (nds.take n ++ [nds.getD n default])).getD n 0 = _
  rw [runN_snoc, List.getD_eq_getElem?_getD, List.getElem?_append_right (by show (wsN (nds.take n)).length ≤ n; omega)]
  show (([_] : List Int)[n - (wsN (nds.take n)).length]?).getD 0 = _
  rw [hl, Nat.sub_self] <;> rfl
section
variable {nds : List Nd} {vs : Rows} {rls : List Rl}
theorem wholeT_len : ∀ n, (wholeT nds vs rls n).length = n
  | 0 => rfl
  | n + 1 => by simp [wholeT, wholeT_len n]
theorem wholeT_old {n p : Nat} (h : p < n) : (wholeT nds vs rls (n + 1)).getD p [] = (wholeT nds vs rls n).getD p [] := by
  rw [wholeT, List.getD_eq_getElem?_getD, List.getD_eq_getElem?_getD, List.getElem?_append_left (by rw [wholeT_len]; exact h)]
theorem wholeT_new {n : Nat} : (wholeT nds vs rls (n + 1)).getD n [] = rowsAt nds vs rls (wholeT nds vs rls n) n := by
  rw [wholeT, List.getD_eq_getElem?_getD, List.getElem?_append_right (by rw [wholeT_len]; exact Nat.le_refl _), wholeT_len, Nat.sub_self] <;> rfl
theorem fit_whole (w : Wok nds vs rls) : ∀ n, n ≤ nds.length → ∀ p, p < n → Fit ((lsN nds).getD p 0) ((wsN nds).getD p 0) ((wholeT nds vs rls n).getD p [])
  | 0, _, p, hp => absurd hp (Nat.not_lt_zero _)
  | n + 1, hn, p, hp => by
    have ih := fit_whole w n (by omega)
    by_cases hpn : p < n
    · rw [wholeT_old hpn]; exact ih p hpn
    · have e : p = n := by omega
      subst e
      rw [wholeT_new, lsN_at (by omega), wsN_at (by omega)]
      have hn' : p < nds.length := by omega
      obtain ⟨g1, g2⟩ := w.rt.g p _ (getD_mem (d := default) hn')
      have hm := w.rt.mrg p
      rw [getD_mem (d := default) hn'] at hm
      unfold rowsAt
      generalize nds.getD p default = nd at g1 g2 hm
      by_cases hs : nd.isSrc = true
      · rw [if_pos hs]
        cases nd <;> first | (exact absurd hs Bool.false_ne_true) | skip
        refine ⟨?_, fun r hr => ?_⟩
        · rw [List.length_map]
          have : (vs.getD ((posN Nd.isSrc nds).idxOf p) []).length ≤ 200 := by
            rw [List.getD_eq_getElem?_getD]
            cases e : vs[(posN Nd.isSrc nds).idxOf p]? with
            | none => simp
            | some v => exact w.vz v (List.mem_of_getElem? e)
          show _ ≤ (200 : Int)
          omega
        · obtain ⟨v, _, rfl⟩ := List.mem_map.mp hr
          show _ ≤ (1 : Int)
          simp
      · rw [if_neg hs]
        refine fit_nd (by simp) (by simpa using hs) g2 (fun p' q' e => ?_) (fun j p' hj => ?_)
        · subst e
          have h1 : p' < p := g1 p' (by simp [Nd.ins])
          have h2 : q' < p := g1 q' (by simp [Nd.ins])
          rw [wsN_take nds h1, wsN_take nds h2]
          exact hm p' q' rfl
        · have hp' : p' < p := g1 p' (List.mem_of_getElem? hj)
          have e : (nd.ins.map fun q => (wholeT nds vs rls p).getD q []).getD j [] = (wholeT nds vs rls p).getD p' [] := by
            rw [List.getD_eq_getElem?_getD, List.getElem?_map, hj] <;> rfl
          rw [lsN_take nds hp', wsN_take nds hp', e]
          exact ih p' hp'
theorem ok1_whole (w : Wok nds vs rls) {n p : Nat} (hn : n ≤ nds.length) (hp : p < n) : Ok1 ((wholeT nds vs rls n).getD p []) := by
  obtain ⟨h1, h2⟩ := fit_whole w n hn p hp
  have q1 := w.rt.long p (by omega)
  have q2 := w.rt.wide p (by omega)
  exact ⟨by omega, fun r hr => by have := h2 r hr; omega⟩
theorem insR_whole (w : Wok nds vs rls) {n : Nat} (hn : n < nds.length) : InsR (nds.getD n default) ((nds.getD n default).ins.map fun p => (wholeT nds vs rls n).getD p []) := by
  obtain ⟨g1, g2⟩ := w.rt.g n _ (getD_mem (d := default) hn)
  refine ⟨by simp, fun rs hr => ?_⟩
  obtain ⟨p, hp, rfl⟩ := List.mem_map.mp hr
  exact ok1_whole w (by omega) (g1 p hp)
theorem rl_whole (w : Wok nds vs rls) {n : Nat} (hn : n < nds.length) (hc : (nds.getD n default).isCall = true) : (posN Nd.isCall nds).idxOf n < rls.length ∧ (rlOf nds rls n).ok ∧ rlOf nds rls n = rls.getD ((posN Nd.isCall nds).idxOf n) default := by
  have h1 : (posN Nd.isCall nds).idxOf n < rls.length := by rw [w.rl]; exact List.idxOf_lt_length_iff.mpr ((mem_posN hn).mpr hc)
  have e : rlOf nds rls n = rls.getD ((posN Nd.isCall nds).idxOf n) default := by unfold rlOf; rw [if_pos hc]
  exact ⟨h1, by rw [e]; exact w.ro _ (List.mem_of_getElem? (getD_mem h1)), e⟩
theorem src_whole (w : Wok nds vs rls) {n : Nat} (hn : n < nds.length) (hc : (nds.getD n default).isSrc = true) : (posN Nd.isSrc nds).idxOf n < vs.length := by
  rw [w.vl]; exact List.idxOf_lt_length_iff.mpr ((mem_posN hn).mpr hc)
end
theorem eqF_nat {p q : Nat} : eqF (natD p) (natD q) = (p == q) := by
  show ((p : Int) == (q : Int)) = _
  rw [Bool.eq_iff_iff, beq_iff_eq, beq_iff_eq]
  omega
theorem flat_nats (ns : List Nat) : (natsD ns).all flatD = true := by
  rw [List.all_map]
  exact List.all_eq_true.mpr fun _ _ => rfl
theorem inB_nats {M : Store} {x : D} {ns : List Nat} {i : Nat} (h : x = .nl (natsD ns) ∨ x = .lst (natsD ns)) : inB M (.int (i : Int)) x = some (decide (i ∈ ns)) := by
  have e : (natsD ns).any (fun y => eqF y (.int (i : Int))) = decide (i ∈ ns) := by
    rw [List.any_map, Bool.eq_iff_iff, List.any_eq_true, decide_eq_true_eq]
    constructor
    · rintro ⟨q, hq, z⟩
      have z : eqF (natD q) (natD i) = true := z
      rw [eqF_nat, beq_iff_eq] at z
      exact z ▸ hq
    · intro hi
      exact ⟨i, hi, by show eqF (natD i) (natD i) = true; rw [eqF_nat, beq_self_eq_true]⟩
  rcases h with rfl | rfl
  · rw [inB_nl, flat_nats, if_pos (show (flatD (.int (i : Int)) && true) = true from rfl), e]
  · rw [inB_lst, flat_nats, if_pos (show (flatD (.int (i : Int)) && true) = true from rfl), e]
theorem idn_nats {M : Store} {x : D} {ns : List Nat} {i : Nat} (hx : asM M x = some (natsD ns)) (hi : i ∈ ns) : idnD x (.int (i : Int)) M = .ok (.int ((ns.idxOf i : Nat) : Int)) M := by
  unfold idnD
  rw [hx]
  simp only
  rw [flat_nats, if_pos (show (flatD (.int (i : Int)) && true) = true from rfl)]
  have e : (natsD ns).findIdx? (fun z => eqF z (.int (i : Int))) = some (ns.idxOf i) := by
    rw [List.findIdx?_map]
    have e2 : ((fun z => eqF z (.int (i : Int))) ∘ natD) = fun q => q == i := by
      funext q
      exact eqF_nat
    rw [e2, List.findIdx?_eq_some_iff_getElem]
    have hl : ns.idxOf i < ns.length := List.idxOf_lt_length_iff.mpr hi
    refine ⟨hl, by simp, fun j hj => ?_⟩
    rw [List.idxOf] at hj
    have := List.not_of_lt_findIdx hj
    simpa using this
  rw [e]
theorem asM_nl {M : Store} {xs : List D} : asM M (.nl xs) = some xs := rfl
theorem asM_lst {M : Store} {xs : List D} : asM M (.lst xs) = some xs := rfl
abbrev outT (T : List Rows) : Store := [.lst (T.map rowsD)]
theorem app_T {T : List Rows} {x : Rows} (h : T.length ≤ 100000) : appK 0 (rowsD x) (some (.lst (T.map rowsD))) (outT T) = .ok .non (outT (T ++ [x])) := by
  have hz : (T.map rowsD).length < sizeLine := by rw [List.length_map]; exact line_lt' h
  rw [appK_e, if_pos hz]
  show _ = Res.ok D.non [MO.lst ((T ++ [x]).map rowsD)]
  rw [List.map_append] <;> rfl
theorem idx_T {T : List Rows} {p : Nat} (h : p < T.length) : idxD (.ref 0) (.int (p : Int)) (outT T) = .ok (rowsD (T.getD p [])) (outT T) := by
  rw [idx_asL (xs := T.map rowsD) rfl, atI_nat, List.getElem?_map, getD_mem (d := []) h] <;> rfl
theorem idx_vs {vs : Rows} {k : Nat} {M : Store} (h : k < vs.length) : idxD (.lst (vs.map rowW)) (.int (k : Int)) M = .ok (rowW (vs.getD k [])) M := idx_lstM [] h
theorem idx_rls {rls : List Rl} {k : Nat} {M : Store} (h : k < rls.length) : idxD (.lst (rls.map Rl.d)) (.int (k : Int)) M = .ok (rls.getD k default).d M := idx_lstM default h
theorem itm_rowW {r : List Int} {M : Store} : itmOf M (rowW r) = some ⟨r.length, fun i _ => some (r.map D.int)[i]?⟩ := by unfold rowW; rw [itm_lst, List.length_map]
theorem ones_D {v : List Int} : D.nl (v.map fun x => rowD [x]) = rowsD (v.map fun x => [x]) := by unfold rowsD; rw [List.map_map] <;> rfl
theorem ins_D {ins : List Nat} {f : Nat → Rows} : D.nl (ins.map fun p => rowsD (f p)) = .nl ((ins.map f).map rowsD) := by rw [List.map_map] <;> rfl
end Lp

namespace Lp
open PySem
local macro_rules | `(tactic| simp?! [$args,*] $[$loc]?) => `(tactic| simp -implicitDefEqProofs only [$args,*, runF, natD, natsD, vOk_e, ev_var, ev_non, ev_bl, ev_int, ev_str, ev_gco, cB1_e, ev_bin, ev_neg, cC1_e, ev_cmp, cH3_t, cH3_f, cH2_e, cH1_e, ev_chn, cAnd_t, cAnd_f, ev_andv, cOr_t, cOr_f, ev_orv, cNot_e, ev_notv, cIfe_t, cIfe_f, ev_ife, cI1_e, ev_idx, cS2_e, cS1_e, ev_slt, cAt_e, ev_att, ev_call, cCall_e, cM2_e, cM1_e, ev_mth, mkK_e, cMk_e, ev_mk, ev_blt, cIs_e, ev_isi, appK_e, cA2_e, appP_e, cA1_e, ev_app, cTup_e, ev_tup, cFz_e, ev_fz, cFr_e, ev_fr, cMu_e, ev_mu, bOk_e, cTru_e, evT_tru, cTa_t, cTa_f, evT_tand, cTo_t, cTo_f, evT_tor, cTn_e, evT_tnot, evs_nil, cCo2_e, cCo1_e, evs_cons, evO_absent, cO_e, evO_tru, cDs_e, evL_dsp, cCt_e, evL_cat, cRp_e, evL_rep, cP2_e, cP1_e, evL_slp, lOk_e, cLo_e, evL_lof, cLc_e, evL_lc, iOk_e, cIt_e, evI_itm, cR1_e, evI_rng1, cR3_i, cR2_e, evI_rng2, cEn_e, evI_enu, cZ2_e, cZ1_e, evI_zip2, ex_nil, ex_pass, cSeq_n, cSeq_r, cSeq_b, ex_seq, cSet_e, ex_set, eOk_e, cSt_e, ex_setT, nxR_e, cSA2_e, cSA1_e, ex_setA, cSI3_e, cSI2_e, cSI1_e, ex_setI, cEx_e, ex_ex, cRet_e, ex_ret, ex_retN, ex_brk, cIf_t, cIf_f, ex_ife, cFor_e, ex_for, fin_ret, fin_nx, enK_e, idP_e, cIdn_e, ev_idn, popK_e, popz_e, ev_popz, ev_dem, cCalS_e, ev_cals, cMtS2_e, cMtS1_e, ev_mths, cMkS_e, ev_mks, smK_e, cSm_e, evL_sml, cRd3_i, cRd2_e, evI_rngd, cAu1_e, auP_e, ex_aug, aug_add, aug_sub, aaQ_e, cAA4_e, cAA3_e, cAA2_e, aaP_e, cAA1_e, ex_augA, cAI5_e, cAI4_e, cAI3_e, cAI2_e, cAI1_e, ex_augI, bind_ok, bind_bad, bind_exc, Lp.start, Gstr, Ggco, gc, GCD, setE, bin_add, bin_sub, cmpD, bRes, oRes, negD, truB_bl, truB_non, truB_int, isNon, eqB_int, eqB_str, eqB_bl, idx_tup, idx_lst, idx_arr, atI_0, atI_1, atI_2, atI_3, atI_4, atI_5, atI_6, atI_7, atI_8, atI_9, atI_10, atI_11,  slcT_1, slcT_2, slcT_21, inB_tup, inB_arr, inB_lst, flatD, eqF, tx_beq, List.all_cons, List.all_nil, List.any_cons, List.any_nil, Bool.and_true, Bool.true_and, Bool.and_false, Bool.false_and, Bool.or_false, Bool.or_true, Bool.true_or, Bool.false_or, Nat.reduceBEq, wipeE, itm_tup, itm_lst, itm_arr, List.map_cons, List.map_nil, List.cons_append, List.nil_append, List.length_cons, List.length_nil, List.getElem?_cons_zero, List.getElem?_cons_succ, List.getElem?_nil, List.set_cons_zero, List.set_cons_succ, List.getD_cons_zero, List.getD_cons_succ, List.replicate_succ, List.replicate_zero, Nat.reduceAdd, Nat.reduceSub, Nat.zero_add, Option.map_some, Option.map_none, Bool.not_true, Bool.not_false, ite_true, ite_false, if_true, if_false, reduceCtorEq, decide_true, decide_false, decide_eq_true_eq, tx_dec, Bool.false_eq_true, Nat.reduceEqDiff, Nat.reduceLT, Nat.reduceLeDiff, line_ok, line_lt, lcG_s, lcG_0, lcG_n, lcX_n, lcX_s, lcB_s, lcC_t, lcC_f, lcE_o, bindG_1, id_eq, nc_0, nc_1, nc_2, nc_3, nc_4, nc_5, nc_6, nc_7, nc_8, nc_9, nc_10, nc_11, nc_12,  Int.reduceEq, Int.reduceLT, Int.reduceLE, Int.reduceNeg, Int.reduceAdd, Int.reduceSub, Int.reduceMul, Option.bind_some, dInts_1, dInts_2, minL_1, minL_2, List.sum_cons, List.sum_nil, Int.add_zero, idx_nl, inB_nl, itm_nl, wk_non, wk_bl, wk_int, wk_str, wk_ref, wk_tup, wk_lst, wk_nl, wk_arr, wk_ins, wk_no, wk_dic, wks_nil, wks_cons, wkf_nil, wkf_cons, wkk_nil, wkk_cons, wks_ints] $[$loc]?)
theorem Nd.ins_le (nd : Nd) : nd.ins.length ≤ 2 := by cases nd <;> simp [Nd.ins]
def Sp_whole_rows : Spec := pureSp 3 (α := (List Nd) × (Rows) × (List Rl)) (fun | (nds, vs, rls) => Wok nds vs rls ) (fun | (nds, vs, rls) => [grD nds, .lst (vs.map rowW), .lst (rls.map Rl.d)]) (fun | (nds, vs, rls) => (.val (.nl ((wholeT nds vs rls nds.length).map rowsD))))
class H_whole_rows (G : Gm) : Prop where m : Meets Sp_whole_rows (G.fn 209)
theorem v_whole_rows {G : Gm} [H : H_whole_rows G] (nds : List Nd) (vs : Rows) (rls : List Rl) (h : Wok nds vs rls ) {ds : List D} {M : Store} (v : Vws M ds [grD nds, .lst (vs.map rowW), .lst (rls.map Rl.d)]) (hl : ds.length = 3 := by rfl) : G.fn 209 ds M = Res.ok (.nl ((wholeT nds vs rls nds.length).map rowsD)) M := pure_call H.m hl (nds, vs, rls) h v
theorem c_whole_rows {G : Gm} [H : H_whole_rows G] (nds : List Nd) (vs : Rows) (rls : List Rl) (h : Wok nds vs rls ) (M : Store) : G.fn 209 [grD nds, .lst (vs.map rowW), .lst (rls.map Rl.d)] M = Res.ok (.nl ((wholeT nds vs rls nds.length).map rowsD)) M := by
  have qc : Cls [grD nds, .lst (vs.map rowW), .lst (rls.map Rl.d)] := by (repeat' (first | exact Cls.nil | exact Clf.nil | exact Clk.nil | refine Clk.cons ?_ ?_ | refine Cl.dic ?_ | refine Cls.cons ?_ ?_ | refine Clf.cons ?_ ?_ | exact Cl.int _ | exact Cl.bl _ | exact Cl.non | exact Cl.str _ | exact Cls.ints _ | assumption | exact Nd.cl _ | exact Cls.nds _ | exact Cls.nats _ | exact Cl.st _ | exact Cl.bd _ | exact Cls.bds _ | exact Cls.rows _ | exact Cl.rowW _ | exact Cl.rowsW _ | exact Cl.rl _ | exact Cl.grf _ | exact Cl.enc _ | refine Cl.tup ?_ | refine Cl.lst ?_ | refine Cl.arr ?_ | refine Cl.ins ?_ | refine Cls.map (fun _ => ?_) _))
  exact v_whole_rows nds vs rls h (qc.1 M)
theorem r_whole_rows {G : Gm} [Gl G] [H_source_nodes G] [H_calling_nodes G] [H_inputs_of G] [H_u_called G] [H_u_plain G] (nds : List Nd) (vs : Rows) (rls : List Rl) (h : Wok nds vs rls ) : Runs (runF G b_whole_rows 13) [grD nds, .lst (vs.map rowW), .lst (rls.map Rl.d)] ((.val (.nl ((wholeT nds vs rls nds.length).map rowsD)))) := by
  have hm := h.rt.many
  have key := for_all (J := enuI ⟨nds.length, fun i _ => some (nds.map Nd.d)[i]?⟩) (tg := [6, 7]) (b := exec G b_whole_rows_L1) (n := nds.length) (it := fun i => .tup [.int (i : Int), (nds.getD i default).d])
    (fun i env M => M = outT (wholeT nds vs rls i) ∧ ∃ y6 y7 y8, env = [some (grD nds), some (.lst (vs.map rowW)), some (.lst (rls.map Rl.d)), some (.nl (natsD (posN Nd.isSrc nds))), some (.nl (natsD (posN Nd.isCall nds))), some (.ref 0), y6, y7, y8, none, none, none, none]) (fun i env M' h => enu_nx default)
    (fun i env M hi hh => by
      obtain ⟨rfl, y6, y7, y8, rfl⟩ := hh
      obtain ⟨g1, g2⟩ := h.rt.g i _ (getD_mem (d := default) hi)
      have hT : (wholeT nds vs rls i).length = i := wholeT_len i
      have vi := c_inputs_of (G := G) (nds.getD i default) (outT (wholeT nds vs rls i))
      have lc := lc_map (xs := (nds.getD i default).ins) (enc := natD) (m := (nds.getD i default).ins.length) (k := (nds.getD i default).ins.length) (tg := [10]) (env := [some (grD nds), some (.lst (vs.map rowW)), some (.lst (rls.map Rl.d)), some (.nl (natsD (posN Nd.isSrc nds))), some (.nl (natsD (posN Nd.isCall nds))), some (.ref 0), some (.int (i : Int)), some (nds.getD i default).d, y8, none, none, none, none])
        (c := evT G (.tru (.bl true))) (e := ev G b_whole_rows_C4e) (M := outT (wholeT nds vs rls i)) 0 (fun p => rowsD ((wholeT nds vs rls i).getD p [])) (by have := Nd.ins_le (nds.getD i default); omega) (Nat.le_refl _) (fun env => tru_e env _) (fun p hp => by
          have hp' := g1 p hp
          exact ⟨_, rfl, by simp?! [b_whole_rows_C4e, idx_T (T := wholeT nds vs rls i) (p := p) (by omega)]⟩)
      have ap := app_T (T := wholeT nds vs rls i) (x := rowsAt nds vs rls (wholeT nds vs rls i) i) (by omega)
      refine ⟨_, [some (grD nds), some (.lst (vs.map rowW)), some (.lst (rls.map Rl.d)), some (.nl (natsD (posN Nd.isSrc nds))), some (.nl (natsD (posN Nd.isCall nds))), some (.ref 0), some (.int (i : Int)), some (nds.getD i default).d, some (.nl ((nds.getD i default).ins.map fun p => rowsD ((wholeT nds vs rls i).getD p []))), none, none, none, none], _, rfl, ?_, rfl, _, _, _, rfl⟩
      have i1 := inB_nats (M := outT (wholeT nds vs rls i)) (ns := posN Nd.isSrc nds) (i := i) (.inl rfl)
      have i2 := inB_nats (M := outT (wholeT nds vs rls i)) (ns := posN Nd.isCall nds) (i := i) (.inl rfl)
      have hir := insR_whole h hi
      by_cases hs : (nds.getD i default).isSrc = true
      · have m1 : i ∈ posN Nd.isSrc nds := (mem_posN hi).mpr hs
        have d1 : decide (i ∈ posN Nd.isSrc nds) = true := decide_eq_true m1
        have hv := src_whole h hi hs
        have ix := idn_nats (M := outT (wholeT nds vs rls i)) (x := .nl (natsD (posN Nd.isSrc nds))) rfl m1
        have lc2 := lc_map (xs := vs.getD ((posN Nd.isSrc nds).idxOf i) []) (enc := D.int) (m := (vs.getD ((posN Nd.isSrc nds).idxOf i) []).length) (k := (vs.getD ((posN Nd.isSrc nds).idxOf i) []).length) (tg := [12]) (env := [some (grD nds), some (.lst (vs.map rowW)), some (.lst (rls.map Rl.d)), some (.nl (natsD (posN Nd.isSrc nds))), some (.nl (natsD (posN Nd.isCall nds))), some (.ref 0), some (.int (i : Int)), some (nds.getD i default).d, some (.nl ((nds.getD i default).ins.map fun p => rowsD ((wholeT nds vs rls i).getD p []))), none, none, none, none])
          (c := evT G (.tru (.bl true))) (e := ev G b_whole_rows_C3e) (M := outT (wholeT nds vs rls i)) 0 (fun x => rowD [x]) (by have := h.vz _ (List.mem_of_getElem? (getD_mem (d := []) hv)); omega) (Nat.le_refl _) (fun env => tru_e env _) (fun x hx => ⟨_, rfl, by rw [show rowD [x] = .nl [.int x] from rfl]; simp?! [b_whole_rows_C3e]⟩)
        have er : rowsAt nds vs rls (wholeT nds vs rls i) i = (vs.getD ((posN Nd.isSrc nds).idxOf i) []).map fun v => [v] := by unfold rowsAt; rw [if_pos hs]
        rw [er, ← ones_D] at ap
        have eT : wholeT nds vs rls (i + 1) = wholeT nds vs rls i ++ [(vs.getD ((posN Nd.isSrc nds).idxOf i) []).map fun v => [v]] := by rw [wholeT, er]
        rw [eT]
        simp?! [b_whole_rows_L1, wk_nd, vi, lc, i1, d1, asM_nl, ix, idx_vs hv, itm_rowW, lc2, ap, List.length_map]
      · have m1 : ¬ i ∈ posN Nd.isSrc nds := fun z => hs ((mem_posN hi).mp z)
        have d1 : decide (i ∈ posN Nd.isSrc nds) = false := decide_eq_false m1
        have er : rowsAt nds vs rls (wholeT nds vs rls i) i = wholeNd (rlOf nds rls i) (nds.getD i default) ((nds.getD i default).ins.map fun p => (wholeT nds vs rls i).getD p []) := by unfold rowsAt; rw [if_neg hs]
        have eT : wholeT nds vs rls (i + 1) = wholeT nds vs rls i ++ [wholeNd (rlOf nds rls i) (nds.getD i default) ((nds.getD i default).ins.map fun p => (wholeT nds vs rls i).getD p [])] := by rw [wholeT, er]
        rw [er] at ap
        rw [eT]
        by_cases hc : (nds.getD i default).isCall = true
        · have m2 : i ∈ posN Nd.isCall nds := (mem_posN hi).mpr hc
          have d2 : decide (i ∈ posN Nd.isCall nds) = true := decide_eq_true m2
          obtain ⟨hk, ho, eo⟩ := rl_whole h hi hc
          have ix := idn_nats (M := outT (wholeT nds vs rls i)) (x := .nl (natsD (posN Nd.isCall nds))) rfl m2
          have v := c_u_called (G := G) (nds.getD i default) (rlOf nds rls i) _ ⟨ho, hc, hir⟩ (outT (wholeT nds vs rls i))
          rw [← ins_D] at v
          rw [eo] at v ap ⊢
          simp?! [b_whole_rows_L1, wk_nd, vi, lc, i1, i2, d1, d2, asM_nl, ix, idx_rls hk, v, ap, List.length_map]
        · have d2 : decide (i ∈ posN Nd.isCall nds) = false := decide_eq_false fun z => hc ((mem_posN hi).mp z)
          have v := c_u_plain (G := G) (nds.getD i default) _ ⟨⟨by simpa using hc, by simpa using hs, g2⟩, hir⟩ (outT (wholeT nds vs rls i))
          rw [← ins_D] at v
          have eo : rlOf nds rls i = default := by unfold rlOf; rw [if_neg hc]
          rw [eo] at ap ⊢
          simp?! [b_whole_rows_L1, wk_nd, vi, lc, i1, i2, d1, d2, v, ap, List.length_map])
    (k := nds.length) (env := [some (grD nds), some (.lst (vs.map rowW)), some (.lst (rls.map Rl.d)), some (.nl (natsD (posN Nd.isSrc nds))), some (.nl (natsD (posN Nd.isCall nds))), some (.ref 0), none, none, none, none, none, none, none]) (M := outT []) (Nat.le_refl _) ⟨rfl, _, _, _, rfl⟩
  obtain ⟨env', M', h2, y, y6, y7, y8, h4⟩ := key
  subst y h4
  have hT : (wholeT nds vs rls nds.length).length = nds.length := wholeT_len _
  have lc3 := lc_lstJ (J := refI 0 nds.length) (xs := wholeT nds vs rls nds.length) (enc := rowsD) (k := nds.length) (tg := [9]) (env := [some (grD nds), some (.lst (vs.map rowW)), some (.lst (rls.map Rl.d)), some (.nl (natsD (posN Nd.isSrc nds))), some (.nl (natsD (posN Nd.isCall nds))), some (.ref 0), y6, y7, y8, none, none, none, none])
    (c := evT G (.tru (.bl true))) (e := ev G b_whole_rows_C1e) (M := outT (wholeT nds vs rls nds.length)) (fun i => ref_nx rfl) [] (fun _ => true) rowsD (by omega) (by omega) (fun R hR => by
      obtain ⟨p, hp, rfl⟩ := List.getElem_of_mem hR
      have ho : Ok1 ((wholeT nds vs rls nds.length)[p]) := by
        have q := ok1_whole h (n := nds.length) (p := p) (Nat.le_refl _) (by omega)
        rw [List.getD_eq_getElem?_getD, List.getElem?_eq_getElem hp] at q
        exact q
      generalize (wholeT nds vs rls nds.length)[p] = R at ho
      have lc4 := fun (x9 : Option D) => lc_map (xs := R) (enc := rowD) (m := R.length) (k := R.length) (tg := [11]) (env := [some (grD nds), some (.lst (vs.map rowW)), some (.lst (rls.map Rl.d)), some (.nl (natsD (posN Nd.isSrc nds))), some (.nl (natsD (posN Nd.isCall nds))), some (.ref 0), y6, y7, y8, some (rowsD R), none, none, none])
        (c := evT G (.tru (.bl true))) (e := ev G b_whole_rows_C2e) (M := outT (wholeT nds vs rls nds.length)) [] rowD (by have := ho.1; omega) (Nat.le_refl _) (fun env => tru_e env _) (fun r hr => ⟨_, rfl, by
          have ea : asS (outT (wholeT nds vs rls nds.length)) (rowD r) = some (r.map D.int) := rfl
          rw [show rowD r = .nl (r.map D.int) from rfl] at ea ⊢
          simp?! [b_whole_rows_C2e, ea]⟩)
      refine ⟨_, rfl, tru_e _ _, fun _ => ?_⟩
      have e : rowsD R = .nl (R.map rowD) := rfl
      simp?! [b_whole_rows_C1e, itm_rowsD, lc4 none]
      rfl)
  have ef : (wholeT nds vs rls nds.length).filter (fun _ => true) = wholeT nds vs rls nds.length := List.filter_eq_self.mpr fun _ _ => rfl
  rw [ef] at lc3
  have ir := itm_ref (M := outT (wholeT nds vs rls nds.length)) (l := 0) (xs := (wholeT nds vs rls nds.length).map rowsD) rfl
  rw [List.length_map, hT] at ir
  refine Runs.nl (xs := (wholeT nds vs rls nds.length).map rowsD) (N := outT (wholeT nds vs rls nds.length)) ?_ (.map fun _ _ => .rows _)
  have v1 := c_source_nodes (G := G) nds (by omega) []
  have v2 := c_calling_nodes (G := G) nds (by omega) []
  have e2 : outT [] = [MO.lst []] := rfl
  rw [e2] at h2
  have wg : (grD nds).wk = grD nds := (Cl.grf nds).2
  have rn : (refI 0 nds.length).n = nds.length := rfl
  simp?! [b_whole_rows, wg, v1, v2, att_grD, List.length_map, enu_n, h2, ir, rn, lc3]
theorem sh_whole_rows {T : Tb} {G : Gm} [Gl G] [H_source_nodes G] [H_calling_nodes G] [H_inputs_of G] [H_u_called G] [H_u_plain G] : Shows T Sp_whole_rows (runF G b_whole_rows 13) := pure_shows (fun | (nds, vs, rls), h => r_whole_rows nds vs rls h)
end Lp

namespace Lp
open PySem
local macro_rules | `(tactic| simp?! [$args,*] $[$loc]?) => `(tactic| simp -implicitDefEqProofs only [$args,*, runF, natD, natsD, vOk_e, ev_var, ev_non, ev_bl, ev_int, ev_str, ev_gco, cB1_e, ev_bin, ev_neg, cC1_e, ev_cmp, cH3_t, cH3_f, cH2_e, cH1_e, ev_chn, cAnd_t, cAnd_f, ev_andv, cOr_t, cOr_f, ev_orv, cNot_e, ev_notv, cIfe_t, cIfe_f, ev_ife, cI1_e, ev_idx, cS2_e, cS1_e, ev_slt, cAt_e, ev_att, ev_call, cCall_e, cM2_e, cM1_e, ev_mth, mkK_e, cMk_e, ev_mk, ev_blt, cIs_e, ev_isi, appK_e, cA2_e, appP_e, cA1_e, ev_app, cTup_e, ev_tup, cFz_e, ev_fz, cFr_e, ev_fr, cMu_e, ev_mu, bOk_e, cTru_e, evT_tru, cTa_t, cTa_f, evT_tand, cTo_t, cTo_f, evT_tor, cTn_e, evT_tnot, evs_nil, cCo2_e, cCo1_e, evs_cons, evO_absent, cO_e, evO_tru, cDs_e, evL_dsp, cCt_e, evL_cat, cRp_e, evL_rep, cP2_e, cP1_e, evL_slp, lOk_e, cLo_e, evL_lof, cLc_e, evL_lc, iOk_e, cIt_e, evI_itm, cR1_e, evI_rng1, cR3_i, cR2_e, evI_rng2, cEn_e, evI_enu, cZ2_e, cZ1_e, evI_zip2, ex_nil, ex_pass, cSeq_n, cSeq_r, cSeq_b, ex_seq, cSet_e, ex_set, eOk_e, cSt_e, ex_setT, nxR_e, cSA2_e, cSA1_e, ex_setA, cSI3_e, cSI2_e, cSI1_e, ex_setI, cEx_e, ex_ex, cRet_e, ex_ret, ex_retN, ex_brk, cIf_t, cIf_f, ex_ife, cFor_e, ex_for, fin_ret, fin_nx, enK_e, idP_e, cIdn_e, ev_idn, popK_e, popz_e, ev_popz, ev_dem, cCalS_e, ev_cals, cMtS2_e, cMtS1_e, ev_mths, cMkS_e, ev_mks, smK_e, cSm_e, evL_sml, cRd3_i, cRd2_e, evI_rngd, cAu1_e, auP_e, ex_aug, aug_add, aug_sub, aaQ_e, cAA4_e, cAA3_e, cAA2_e, aaP_e, cAA1_e, ex_augA, cAI5_e, cAI4_e, cAI3_e, cAI2_e, cAI1_e, ex_augI, bind_ok, bind_bad, bind_exc, Lp.start, Gstr, Ggco, gc, GCD, setE, bin_add, bin_sub, cmpD, bRes, oRes, negD, truB_bl, truB_non, truB_int, isNon, eqB_int, eqB_str, eqB_bl, idx_tup, idx_lst, idx_arr, atI_0, atI_1, atI_2, atI_3, atI_4, atI_5, atI_6, atI_7, atI_8, atI_9, atI_10, atI_11,  slcT_1, slcT_2, slcT_21, inB_tup, inB_arr, inB_lst, flatD, eqF, tx_beq, List.all_cons, List.all_nil, List.any_cons, List.any_nil, Bool.and_true, Bool.true_and, Bool.and_false, Bool.false_and, Bool.or_false, Bool.or_true, Bool.true_or, Bool.false_or, Nat.reduceBEq, wipeE, itm_tup, itm_lst, itm_arr, List.map_cons, List.map_nil, List.cons_append, List.nil_append, List.length_cons, List.length_nil, List.getElem?_cons_zero, List.getElem?_cons_succ, List.getElem?_nil, List.set_cons_zero, List.set_cons_succ, List.getD_cons_zero, List.getD_cons_succ, List.replicate_succ, List.replicate_zero, Nat.reduceAdd, Nat.reduceSub, Nat.zero_add, Option.map_some, Option.map_none, Bool.not_true, Bool.not_false, ite_true, ite_false, if_true, if_false, reduceCtorEq, decide_true, decide_false, decide_eq_true_eq, tx_dec, Bool.false_eq_true, Nat.reduceEqDiff, Nat.reduceLT, Nat.reduceLeDiff, line_ok, line_lt, lcG_s, lcG_0, lcG_n, lcX_n, lcX_s, lcB_s, lcC_t, lcC_f, lcE_o, bindG_1, id_eq, nc_0, nc_1, nc_2, nc_3, nc_4, nc_5, nc_6, nc_7, nc_8, nc_9, nc_10, nc_11, nc_12,  Int.reduceEq, Int.reduceLT, Int.reduceLE, Int.reduceNeg, Int.reduceAdd, Int.reduceSub, Int.reduceMul, Option.bind_some, dInts_1, dInts_2, minL_1, minL_2, List.sum_cons, List.sum_nil, Int.add_zero, idx_nl, inB_nl, itm_nl, wk_non, wk_bl, wk_int, wk_str, wk_ref, wk_tup, wk_lst, wk_nl, wk_arr, wk_ins, wk_no, wk_dic, wks_nil, wks_cons, wkf_nil, wkf_cons, wkk_nil, wkk_cons, wks_ints] $[$loc]?)
theorem src_kind {nd : Nd} : decide (nd.kind = (tx 10)) = nd.isSrc := by
  cases nd <;> simp [Nd.kind, Nd.isSrc, tx_dec]
def Sp_law_whole : Spec := pureSp 3 (α := (List Nd) × (Rows) × (List Rl)) (fun | (nds, vs, rls) => Wok nds vs rls ) (fun | (nds, vs, rls) => [.lst (nds.map Nd.d), .lst (vs.map rowW), .lst (rls.map Rl.d)]) (fun | (nds, vs, rls) => (.val (.nl ((wholeT nds vs rls nds.length).map rowsD))))
class H_law_whole (G : Gm) : Prop where m : Meets Sp_law_whole (G.fn 124)
theorem v_law_whole {G : Gm} [H : H_law_whole G] (nds : List Nd) (vs : Rows) (rls : List Rl) (h : Wok nds vs rls ) {ds : List D} {M : Store} (v : Vws M ds [.lst (nds.map Nd.d), .lst (vs.map rowW), .lst (rls.map Rl.d)]) (hl : ds.length = 3 := by rfl) : G.fn 124 ds M = Res.ok (.nl ((wholeT nds vs rls nds.length).map rowsD)) M := pure_call H.m hl (nds, vs, rls) h v
theorem c_law_whole {G : Gm} [H : H_law_whole G] (nds : List Nd) (vs : Rows) (rls : List Rl) (h : Wok nds vs rls ) (M : Store) : G.fn 124 [.lst (nds.map Nd.d), .lst (vs.map rowW), .lst (rls.map Rl.d)] M = Res.ok (.nl ((wholeT nds vs rls nds.length).map rowsD)) M := by
  have qc : Cls [.lst (nds.map Nd.d), .lst (vs.map rowW), .lst (rls.map Rl.d)] := by (repeat' (first | exact Cls.nil | exact Clf.nil | exact Clk.nil | refine Clk.cons ?_ ?_ | refine Cl.dic ?_ | refine Cls.cons ?_ ?_ | refine Clf.cons ?_ ?_ | exact Cl.int _ | exact Cl.bl _ | exact Cl.non | exact Cl.str _ | exact Cls.ints _ | assumption | exact Nd.cl _ | exact Cls.nds _ | exact Cls.nats _ | exact Cl.st _ | exact Cl.bd _ | exact Cls.bds _ | exact Cls.rows _ | exact Cl.rowW _ | exact Cl.rowsW _ | exact Cl.rl _ | exact Cl.grf _ | exact Cl.enc _ | refine Cl.tup ?_ | refine Cl.lst ?_ | refine Cl.arr ?_ | refine Cl.ins ?_ | refine Cls.map (fun _ => ?_) _))
  exact v_law_whole nds vs rls h (qc.1 M)
theorem r_law_whole {G : Gm} [Gl G] [H_law_of_kind G] [H_law_calling G] [H_law_inputs G] [H_law_whole_node G] (nds : List Nd) (vs : Rows) (rls : List Rl) (h : Wok nds vs rls ) : Runs (runF G b_law_whole 8) [.lst (nds.map Nd.d), .lst (vs.map rowW), .lst (rls.map Rl.d)] ((.val (.nl ((wholeT nds vs rls nds.length).map rowsD)))) := by
  have hm := h.rt.many
  have key := for_all (J := rngI 0 nds.length) (tg := [4]) (b := exec G b_law_whole_L1) (n := nds.length) (it := fun i => .int (0 + i))
    (fun i env M => M = outT (wholeT nds vs rls i) ∧ ∃ y4 y5, env = [some (.lst (nds.map Nd.d)), some (.lst (vs.map rowW)), some (.lst (rls.map Rl.d)), some (.ref 0), y4, y5, none, none]) (fun i env M' h => rng_nx)
    (fun i env M hi hh => by
      obtain ⟨rfl, y4, y5, rfl⟩ := hh
      have e0 : (0 : Int) + (i : Int) = (i : Int) := by omega
      rw [e0]
      obtain ⟨g1, g2⟩ := h.rt.g i _ (getD_mem (d := default) hi)
      have hT : (wholeT nds vs rls i).length = i := wholeT_len i
      have ap := app_T (T := wholeT nds vs rls i) (x := rowsAt nds vs rls (wholeT nds vs rls i) i) (by omega)
      have K := c_law_of_kind (G := G) nds false (by omega) (outT (wholeT nds vs rls i))
      unfold kindsD selK at K
      have K2 := c_law_calling (G := G) nds (by omega) (outT (wholeT nds vs rls i))
      have hir := insR_whole h hi
      by_cases hs : (nds.getD i default).isSrc = true
      · have m1 : i ∈ posN Nd.isSrc nds := (mem_posN hi).mpr hs
        have hv := src_whole h hi hs
        have ix := idn_nats (M := outT (wholeT nds vs rls i)) (x := .nl (natsD (posN Nd.isSrc nds))) rfl m1
        have lc2 := lc_map (xs := vs.getD ((posN Nd.isSrc nds).idxOf i) []) (enc := D.int) (m := (vs.getD ((posN Nd.isSrc nds).idxOf i) []).length) (k := (vs.getD ((posN Nd.isSrc nds).idxOf i) []).length) (tg := [6]) (env := [some (.lst (nds.map Nd.d)), some (.lst (vs.map rowW)), some (.lst (rls.map Rl.d)), some (.ref 0), some (.int (i : Int)), y5, none, none])
          (c := evT G (.tru (.bl true))) (e := ev G b_law_whole_C1e) (M := outT (wholeT nds vs rls i)) 0 (fun x => rowD [x]) (by have := h.vz _ (List.mem_of_getElem? (getD_mem (d := []) hv)); omega) (Nat.le_refl _) (fun env => tru_e env _) (fun x hx => ⟨_, rfl, by rw [show rowD [x] = .nl [.int x] from rfl]; simp?! [b_law_whole_C1e]⟩)
        have er : rowsAt nds vs rls (wholeT nds vs rls i) i = (vs.getD ((posN Nd.isSrc nds).idxOf i) []).map fun v => [v] := by unfold rowsAt; rw [if_pos hs]
        rw [er, ← ones_D] at ap
        have eT : wholeT nds vs rls (i + 1) = wholeT nds vs rls i ++ [(vs.getD ((posN Nd.isSrc nds).idxOf i) []).map fun v => [v]] := by rw [wholeT, er]
        refine ⟨_, [some (.lst (nds.map Nd.d)), some (.lst (vs.map rowW)), some (.lst (rls.map Rl.d)), some (.ref 0), some (.int (i : Int)), y5, none, none], _, rfl, ?_, rfl, _, _, rfl⟩
        rw [eT]
        simp?! [b_law_whole_L1, idx_nd hi, idx_kind, src_kind, hs, wks_nds, K, asM_nl, ix, idx_vs hv, itm_rowW, lc2, ap]
      · have hs' : (nds.getD i default).isSrc = false := by simpa using hs
        have er : rowsAt nds vs rls (wholeT nds vs rls i) i = wholeNd (rlOf nds rls i) (nds.getD i default) ((nds.getD i default).ins.map fun p => (wholeT nds vs rls i).getD p []) := by unfold rowsAt; rw [if_neg hs]
        have eT : wholeT nds vs rls (i + 1) = wholeT nds vs rls i ++ [wholeNd (rlOf nds rls i) (nds.getD i default) ((nds.getD i default).ins.map fun p => (wholeT nds vs rls i).getD p [])] := by rw [wholeT, er]
        rw [er] at ap
        rw [eT]
        have vi := c_law_inputs (G := G) (nds.getD i default) (outT (wholeT nds vs rls i))
        have i2 := inB_nats (M := outT (wholeT nds vs rls i)) (ns := posN Nd.isCall nds) (i := i) (.inl rfl)
        have lc := fun (x5 : Option D) => lc_map (xs := (nds.getD i default).ins) (enc := natD) (m := (nds.getD i default).ins.length) (k := (nds.getD i default).ins.length) (tg := [7]) (env := [some (.lst (nds.map Nd.d)), some (.lst (vs.map rowW)), some (.lst (rls.map Rl.d)), some (.ref 0), some (.int (i : Int)), x5, none, none])
          (c := evT G (.tru (.bl true))) (e := ev G b_law_whole_C2e) (M := outT (wholeT nds vs rls i)) 0 (fun p => rowsD ((wholeT nds vs rls i).getD p [])) (by have := Nd.ins_le (nds.getD i default); omega) (Nat.le_refl _) (fun env => tru_e env _) (fun p hp => by
            have hp' := g1 p hp
            exact ⟨_, rfl, by simp?! [b_law_whole_C2e, idx_T (T := wholeT nds vs rls i) (p := p) (by omega)]⟩)
        by_cases hc : (nds.getD i default).isCall = true
        · have m2 : i ∈ posN Nd.isCall nds := (mem_posN hi).mpr hc
          have d2 : decide (i ∈ posN Nd.isCall nds) = true := decide_eq_true m2
          obtain ⟨hk, ho, eo⟩ := rl_whole h hi hc
          have ix := idn_nats (M := outT (wholeT nds vs rls i)) (x := .nl (natsD (posN Nd.isCall nds))) rfl m2
          have v := c_law_whole_node (G := G) (nds.getD i default) (rlOf nds rls i) _ ⟨⟨hs', g2, fun _ => ho⟩, hir⟩ (outT (wholeT nds vs rls i))
          rw [← ins_D] at v
          have ea : rlA (nds.getD i default) (rlOf nds rls i) = (rls.getD ((posN Nd.isCall nds).idxOf i) default).d := by unfold rlA; rw [if_pos hc, eo]
          rw [ea, eo] at v
          rw [eo] at ap ⊢
          refine ⟨_, [some (.lst (nds.map Nd.d)), some (.lst (vs.map rowW)), some (.lst (rls.map Rl.d)), some (.ref 0), some (.int (i : Int)), some (rls.getD ((posN Nd.isCall nds).idxOf i) default).d, none, none], _, rfl, ?_, rfl, _, _, rfl⟩
          simp?! [b_law_whole_L1, idx_nd hi, idx_kind, src_kind, hs', wks_nds, wk_nd, K2, i2, d2, asM_nl, ix, idx_rls hk, vi, lc, v, ap, List.length_map]
        · have d2 : decide (i ∈ posN Nd.isCall nds) = false := decide_eq_false fun z => hc ((mem_posN hi).mp z)
          have v := c_law_whole_node (G := G) (nds.getD i default) (rlOf nds rls i) _ ⟨⟨hs', g2, fun z => absurd z hc⟩, hir⟩ (outT (wholeT nds vs rls i))
          rw [← ins_D] at v
          have ea : rlA (nds.getD i default) (rlOf nds rls i) = .non := by unfold rlA; rw [if_neg hc]
          rw [ea] at v
          refine ⟨_, [some (.lst (nds.map Nd.d)), some (.lst (vs.map rowW)), some (.lst (rls.map Rl.d)), some (.ref 0), some (.int (i : Int)), some .non, none, none], _, rfl, ?_, rfl, _, _, rfl⟩
          simp?! [b_law_whole_L1, idx_nd hi, idx_kind, src_kind, hs', wks_nds, wk_nd, K2, i2, d2, vi, lc, v, ap, List.length_map])
    (k := nds.length) (env := [some (.lst (nds.map Nd.d)), some (.lst (vs.map rowW)), some (.lst (rls.map Rl.d)), some (.ref 0), none, none, none, none]) (M := outT []) (Nat.le_refl _) ⟨rfl, _, _, rfl⟩
  obtain ⟨env', M', h2, h3, y4, y5, h4⟩ := key
  subst h3 h4
  have e2 : outT [] = [MO.lst []] := rfl
  rw [e2] at h2
  refine Runs.new0 (xs := (wholeT nds vs rls nds.length).map rowsD) (N := []) ?_ (.map fun _ _ => .rows _)
  simp?! [b_law_whole, len_lst, List.length_map, if_pos (small_nat (n := nds.length) (by omega)), toNat_nat, rng_n, h2]
theorem sh_law_whole {T : Tb} {G : Gm} [Gl G] [H_law_of_kind G] [H_law_calling G] [H_law_inputs G] [H_law_whole_node G] : Shows T Sp_law_whole (runF G b_law_whole 8) := pure_shows (fun | (nds, vs, rls), h => r_law_whole nds vs rls h)
def Vals1 (most : Nat) (v : List Int) : Prop := v.length ≤ most ∧ ∀ x, x ∈ v → -3 ≤ x ∧ x ≤ 9
theorem Fes.rows {N : Store} {r : Nat → Option Nat} (rs : Rows) : Fes N r (rs.map rowD) (rs.map rowD) := .map fun _ _ => .nl (.ints _)
def Sp_law_values : Spec := boxSp 3 (α := (List Nd) × (Nat)) (β := (Rows)) (fun | (nds, most) => nds.length ≤ 12 ∧ most ≤ 200 ) (fun | (nds, most) => [.lst (nds.map Nd.d), natD most]) (fun | (nds, most) => (fun vs => vs.length = (posN Nd.isSrc nds).length ∧ ∀ v, v ∈ vs → Vals1 most v)) (fun vs => rowsD vs)
class H_law_values (G : Gm) : Prop where m : Meets Sp_law_values (G.fn 122)
theorem v_law_values {G : Gm} [H : H_law_values G] (nds : List Nd) (most : Nat) (h : nds.length ≤ 12 ∧ most ≤ 200 ) {l n : Nat} {rs : List Int} {ds : List D} {M : Store} (hb : M[l]? = some (boxO rs n)) (v : Vks M [l] ds [.lst (nds.map Nd.d), natD most]) (hl : ds.length = 2 := by rfl) : ∃ (n' : Nat) (vs : Rows), (vs.length = (posN Nd.isSrc nds).length ∧ ∀ v, v ∈ vs → Vals1 most v) ∧ G.fn 122 (.ref l :: ds) M = .ok (rowsD vs) (M.set l (boxO rs n')) := by
  obtain ⟨n', vs, h1, h2⟩ := box_call H.m (by simpa using hl) (nds, most) h hb v
  exact ⟨n', vs, h1, h2⟩
theorem c_law_values {G : Gm} [H : H_law_values G] (nds : List Nd) (most : Nat) (h : nds.length ≤ 12 ∧ most ≤ 200 ) {l n : Nat} {rs : List Int} {M : Store} (hb : M[l]? = some (boxO rs n)) : ∃ (n' : Nat) (vs : Rows), (vs.length = (posN Nd.isSrc nds).length ∧ ∀ v, v ∈ vs → Vals1 most v) ∧ G.fn 122 (.ref l :: [.lst (nds.map Nd.d), natD most]) M = .ok (rowsD vs) (M.set l (boxO rs n')) := by
  have qc : Cls [.lst (nds.map Nd.d), natD most] := by (repeat' (first | exact Cls.nil | exact Clf.nil | exact Clk.nil | refine Clk.cons ?_ ?_ | refine Cl.dic ?_ | refine Cls.cons ?_ ?_ | refine Clf.cons ?_ ?_ | exact Cl.int _ | exact Cl.bl _ | exact Cl.non | exact Cl.str _ | exact Cls.ints _ | assumption | exact Nd.cl _ | exact Cls.nds _ | exact Cls.nats _ | exact Cl.st _ | exact Cl.bd _ | exact Cls.bds _ | exact Cls.rows _ | exact Cl.rowW _ | exact Cl.rowsW _ | exact Cl.rl _ | exact Cl.grf _ | exact Cl.enc _ | refine Cl.tup ?_ | refine Cl.lst ?_ | refine Cl.arr ?_ | refine Cl.ins ?_ | refine Cls.map (fun _ => ?_) _))
  exact v_law_values nds most h hb (qc.vk M)
theorem r_law_values {G : Gm} [Gl G] [H_law_draw G] [H_law_of_kind G] (nds : List Nd) (most : Nat) (h : nds.length ≤ 12 ∧ most ≤ 200 ) (rs : List Int) (n : Nat) : ∃ (n' : Nat) (vs : Rows) (d : D) (N : Store), (vs.length = (posN Nd.isSrc nds).length ∧ ∀ v, v ∈ vs → Vals1 most v) ∧ runF G b_law_values 6 (.ref 0 :: [.lst (nds.map Nd.d), natD most]) [boxO rs n] = .ok d (boxO rs n' :: N) ∧ Fb (boxO rs n' :: N) d (rowsD vs) := by
  obtain ⟨hn, hm⟩ := h
  have key := for_all (J := ⟨(natsD (posN Nd.isSrc nds)).length, fun i _ => some (natsD (posN Nd.isSrc nds))[i]?⟩) (tg := [4]) (b := exec G b_law_values_L1) (n := (posN Nd.isSrc nds).length) (it := fun i => natD ((posN Nd.isSrc nds).getD i 0))
    (fun i env M => ∃ (n' : Nat) (vs : Rows) (y4 : Option D), vs.length = i ∧ (∀ v, v ∈ vs → Vals1 most v) ∧ M = [boxO rs n', .lst (vs.map rowD)] ∧ env = [some (.ref 0), some (.lst (nds.map Nd.d)), some (natD most), some (.ref 1), y4, none]) (fun i env M' h => congrArg some (lst_nx 0))
    (fun i env M hi hh => by
      obtain ⟨n', vs, y4, hl, hv, rfl, rfl⟩ := hh
      obtain ⟨k, hk, q⟩ := d_law_draw (G := G) (rs := rs) (n := n') (m := most + 1) [.lst (vs.map rowD)] (by omega)
      obtain ⟨ys, M2, q1, q2⟩ := lc_inv (J := rngI 0 k) (tg := [5]) (env := [some (.ref 0), some (.lst (nds.map Nd.d)), some (natD most), some (.ref 1), some (natD ((posN Nd.isSrc nds).getD i 0)), none]) (c := evT G (.tru (.bl true))) (e := ev G b_law_values_C1e) (n := k) (it := fun i => .int (0 + i))
        (fun j acc M => ∃ (n2 : Nat) (xs : List Int), j ≤ k ∧ xs.length = j ∧ (∀ x, x ∈ xs → -3 ≤ x ∧ x ≤ 9) ∧ acc = xs.map D.int ∧ M = [boxO rs n2, .lst (vs.map rowD)]) (fun j acc M h => rng_nx)
        (fun j acc M h => by obtain ⟨n2, xs, h0, h1, h2, rfl, rfl⟩ := h; rw [List.length_map]; exact line_lt' (by omega))
        (fun j acc M hj h => by
          obtain ⟨n2, xs, h0, h1, h2, rfl, rfl⟩ := h
          obtain ⟨z, hz, qz⟩ := d_law_draw (G := G) (rs := rs) (n := n2) (m := 13) [.lst (vs.map rowD)] (by omega)
          have qz : G.fn 45 [.ref 0, .int 13] [boxO rs n2, .lst (vs.map rowD)] = .ok (.int (z : Int)) [boxO rs (n2 + 1), .lst (vs.map rowD)] := qz
          refine ⟨_, rfl, .inr ⟨_, .int ((z : Int) - 3), [boxO rs (n2 + 1), .lst (vs.map rowD)], tru_e _ _, by simp?! [b_law_values_C1e, qz], n2 + 1, xs ++ [(z : Int) - 3], hj, by simp [h1], fun x hx => ?_, by simp, rfl⟩⟩
          rcases List.mem_append.mp hx with hx | hx
          · exact h2 x hx
          · rw [List.mem_singleton.mp hx]; omega)
        k 0 [] [boxO rs (n' + 1), .lst (vs.map rowD)] (by omega) (Nat.zero_le _) ⟨n' + 1, [], Nat.zero_le _, rfl, fun x hx => absurd hx List.not_mem_nil, rfl, rfl⟩
      obtain ⟨n2, xs, _, h1, h2, rfl, rfl⟩ := q2
      have hz : posN Nd.isSrc nds = posN Nd.isSrc nds := rfl
      have hpl : (posN Nd.isSrc nds).length ≤ 12 := by
        unfold posN
        refine Nat.le_trans (List.length_filter_le _ _) ?_
        rw [List.length_range]; exact hn
      have ap : appK 1 (.nl (xs.map D.int)) (some (.lst (vs.map rowD))) [boxO rs n2, .lst (vs.map rowD)] = .ok .non [boxO rs n2, .lst ((vs ++ [xs]).map rowD)] := app_row (l := 1) (rs := vs) (x := xs) (M := [boxO rs n2, .lst (vs.map rowD)]) (by omega)
      refine ⟨_, [some (.ref 0), some (.lst (nds.map Nd.d)), some (natD most), some (.ref 1), some (natD ((posN Nd.isSrc nds).getD i 0)), none], [boxO rs n2, .lst ((vs ++ [xs]).map rowD)], rfl, ?_, n2, vs ++ [xs], _, by simp [hl], fun v hv' => ?_, rfl, rfl⟩
      · have em : ((most : Nat) : Int) + 1 = ((most + 1 : Nat) : Int) := by omega
        simp?! [b_law_values_L1, em, q, if_pos (small_nat (n := k) (by omega)), toNat_nat, rng_n, q1, ap]
      · rcases List.mem_append.mp hv' with hv' | hv'
        · exact hv v hv'
        · rw [List.mem_singleton.mp hv']; exact ⟨by omega, h2⟩)
    (k := (natsD (posN Nd.isSrc nds)).length) (env := [some (.ref 0), some (.lst (nds.map Nd.d)), some (natD most), some (.ref 1), none, none]) (M := [boxO rs n, .lst []]) (by simp) ⟨n, [], _, rfl, fun v hv => absurd hv List.not_mem_nil, rfl, rfl⟩
  obtain ⟨env', M', h2, n', vs, y4, h3, h4, h5, h6⟩ := key
  subst h5 h6
  have K := c_law_of_kind (G := G) nds false (by omega) [boxO rs n, .lst []]
  unfold kindsD selK at K
  refine ⟨n', vs, .ref 1, [.lst (vs.map rowD)], ⟨h3, h4⟩, ?_, fun r hr0 hr1 => .lst (hr1 1 (by decide)) rfl (.rows vs)⟩
  simp?! [b_law_values, wks_nds, K, itm_nl, h2]
theorem sh_law_values {T : Tb} {G : Gm} [Gl G] [H_law_draw G] [H_law_of_kind G] : Shows T Sp_law_values (runF G b_law_values 6) := by
  refine box_shows fun x h rs n => ?_
  obtain ⟨nds, most⟩ := x
  obtain ⟨n', vs, d, N, h1, h2, h3⟩ := r_law_values (G := G) nds most h rs n
  exact ⟨n', vs, d, N, h1, h2, h3⟩
theorem Fe.rl {N : Store} {r : Nat → Option Nat} (rl : Rl) : Fe N r rl.d rl.d := .tup (.cons (.int _) (.cons (.int _) (.cons (.int _) .nil)))
def Sp_law_rules : Spec := boxSp 2 (α := (List Nd)) (β := (List Rl)) (fun nds => nds.length ≤ 12 ) (fun nds => [.lst (nds.map Nd.d)]) (fun nds => (fun rls => rls.length = (posN Nd.isCall nds).length ∧ ∀ r, r ∈ rls → r.ok)) (fun rls => .nl (rls.map Rl.d))
class H_law_rules (G : Gm) : Prop where m : Meets Sp_law_rules (G.fn 108)
theorem v_law_rules {G : Gm} [H : H_law_rules G] (nds : List Nd) (h : nds.length ≤ 12 ) {l n : Nat} {rs : List Int} {ds : List D} {M : Store} (hb : M[l]? = some (boxO rs n)) (v : Vks M [l] ds [.lst (nds.map Nd.d)]) (hl : ds.length = 1 := by rfl) : ∃ (n' : Nat) (rls : List Rl), (rls.length = (posN Nd.isCall nds).length ∧ ∀ r, r ∈ rls → r.ok) ∧ G.fn 108 (.ref l :: ds) M = .ok (.nl (rls.map Rl.d)) (M.set l (boxO rs n')) := by
  obtain ⟨n', rls, h1, h2⟩ := box_call H.m (by simpa using hl) nds h hb v
  exact ⟨n', rls, h1, h2⟩
theorem c_law_rules {G : Gm} [H : H_law_rules G] (nds : List Nd) (h : nds.length ≤ 12 ) {l n : Nat} {rs : List Int} {M : Store} (hb : M[l]? = some (boxO rs n)) : ∃ (n' : Nat) (rls : List Rl), (rls.length = (posN Nd.isCall nds).length ∧ ∀ r, r ∈ rls → r.ok) ∧ G.fn 108 (.ref l :: [.lst (nds.map Nd.d)]) M = .ok (.nl (rls.map Rl.d)) (M.set l (boxO rs n')) := by
  have qc : Cls [.lst (nds.map Nd.d)] := by (repeat' (first | exact Cls.nil | exact Clf.nil | exact Clk.nil | refine Clk.cons ?_ ?_ | refine Cl.dic ?_ | refine Cls.cons ?_ ?_ | refine Clf.cons ?_ ?_ | exact Cl.int _ | exact Cl.bl _ | exact Cl.non | exact Cl.str _ | exact Cls.ints _ | assumption | exact Nd.cl _ | exact Cls.nds _ | exact Cls.nats _ | exact Cl.st _ | exact Cl.bd _ | exact Cls.bds _ | exact Cls.rows _ | exact Cl.rowW _ | exact Cl.rowsW _ | exact Cl.rl _ | exact Cl.grf _ | exact Cl.enc _ | refine Cl.tup ?_ | refine Cl.lst ?_ | refine Cl.arr ?_ | refine Cl.ins ?_ | refine Cls.map (fun _ => ?_) _))
  exact v_law_rules nds h hb (qc.vk M)
theorem r_law_rules {G : Gm} [Gl G] [H_law_draw G] [H_law_calling G] (nds : List Nd) (h : nds.length ≤ 12 ) (rs : List Int) (n : Nat) : ∃ (n' : Nat) (rls : List Rl) (d : D) (N : Store), (rls.length = (posN Nd.isCall nds).length ∧ ∀ r, r ∈ rls → r.ok) ∧ runF G b_law_rules 3 (.ref 0 :: [.lst (nds.map Nd.d)]) [boxO rs n] = .ok d (boxO rs n' :: N) ∧ Fb (boxO rs n' :: N) d (.nl (rls.map Rl.d)) := by
  have hpl : (posN Nd.isCall nds).length ≤ 12 := by
    unfold posN
    refine Nat.le_trans (List.length_filter_le _ _) ?_
    rw [List.length_range]; exact h
  obtain ⟨ys, M2, q1, n2, rls, _, h1, h2, h3, h4⟩ := lc_inv (J := ⟨(natsD (posN Nd.isCall nds)).length, fun i _ => some (natsD (posN Nd.isCall nds))[i]?⟩) (tg := [2]) (env := [some (.ref 0), some (.lst (nds.map Nd.d)), none]) (c := evT G (.tru (.bl true))) (e := ev G b_law_rules_C1e) (n := (posN Nd.isCall nds).length) (it := fun i => natD ((posN Nd.isCall nds).getD i 0))
    (fun j acc M => ∃ (n2 : Nat) (rls : List Rl), j ≤ (posN Nd.isCall nds).length ∧ rls.length = j ∧ (∀ r, r ∈ rls → r.ok) ∧ acc = rls.map Rl.d ∧ M = [boxO rs n2]) (fun j acc M h => congrArg some (lst_nx 0))
    (fun j acc M h => by obtain ⟨n2, xs, h0, h1, h2, rfl, rfl⟩ := h; rw [List.length_map]; exact line_lt' (by omega))
    (fun j acc M hj h => by
      obtain ⟨n2, rls, h0, h1, h2, rfl, rfl⟩ := h
      obtain ⟨a, ha, qa⟩ := d_law_draw (G := G) (rs := rs) (n := n2) (m := 7) [] (by omega)
      obtain ⟨b, hb, qb⟩ := d_law_draw (G := G) (rs := rs) (n := n2 + 1) (m := 7) [] (by omega)
      obtain ⟨c, hc, qc⟩ := d_law_draw (G := G) (rs := rs) (n := n2 + 1 + 1) (m := 7) [] (by omega)
      have qa : G.fn 45 [.ref 0, .int 7] [boxO rs n2] = .ok (.int (a : Int)) [boxO rs (n2 + 1)] := qa
      have qb : G.fn 45 [.ref 0, .int 7] [boxO rs (n2 + 1)] = .ok (.int (b : Int)) [boxO rs (n2 + 1 + 1)] := qb
      have qc : G.fn 45 [.ref 0, .int 7] [boxO rs (n2 + 1 + 1)] = .ok (.int (c : Int)) [boxO rs (n2 + 1 + 1 + 1)] := qc
      refine ⟨_, rfl, .inr ⟨_, (Rl.mk ((a : Int) - 3) ((b : Int) - 3) ((c : Int) - 3)).d, [boxO rs (n2 + 1 + 1 + 1)], tru_e _ _, by unfold Rl.d; simp?! [b_law_rules_C1e, qa, qb, qc], n2 + 1 + 1 + 1, rls ++ [Rl.mk ((a : Int) - 3) ((b : Int) - 3) ((c : Int) - 3)], hj, by simp [h1], fun x hx => ?_, by simp, rfl⟩⟩
      rcases List.mem_append.mp hx with hx | hx
      · exact h2 x hx
      · rw [List.mem_singleton.mp hx]
        exact ⟨by constructor <;> (simp only; omega), by constructor <;> (simp only; omega), by simp only; omega, by simp only; omega⟩)
    (natsD (posN Nd.isCall nds)).length 0 [] [boxO rs n] (by simp) (Nat.zero_le _) ⟨n, [], Nat.zero_le _, rfl, fun x hx => absurd hx List.not_mem_nil, rfl, rfl⟩
  subst h3 h4
  have K := c_law_calling (G := G) nds (by omega) [boxO rs n]
  refine ⟨n2, rls, .nl (rls.map Rl.d), [], ⟨h1, h2⟩, ?_, fun r hr0 hr1 => .nl (.map fun _ _ => .rl _)⟩
  simp?! [b_law_rules, wks_nds, K, itm_nl, q1]
theorem sh_law_rules {T : Tb} {G : Gm} [Gl G] [H_law_draw G] [H_law_calling G] : Shows T Sp_law_rules (runF G b_law_rules 3) := by
  refine box_shows fun nds h rs n => ?_
  obtain ⟨n', rls, d, N, h1, h2, h3⟩ := r_law_rules (G := G) nds h rs n
  exact ⟨n', rls, d, N, h1, h2, h3⟩
end Lp

namespace Lp
open PySem
local macro_rules | `(tactic| simp?! [$args,*] $[$loc]?) => `(tactic| simp -implicitDefEqProofs only [$args,*, runF, natD, natsD, vOk_e, ev_var, ev_non, ev_bl, ev_int, ev_str, ev_gco, cB1_e, ev_bin, ev_neg, cC1_e, ev_cmp, cH3_t, cH3_f, cH2_e, cH1_e, ev_chn, cAnd_t, cAnd_f, ev_andv, cOr_t, cOr_f, ev_orv, cNot_e, ev_notv, cIfe_t, cIfe_f, ev_ife, cI1_e, ev_idx, cS2_e, cS1_e, ev_slt, cAt_e, ev_att, ev_call, cCall_e, cM2_e, cM1_e, ev_mth, mkK_e, cMk_e, ev_mk, ev_blt, cIs_e, ev_isi, appK_e, cA2_e, appP_e, cA1_e, ev_app, cTup_e, ev_tup, cFz_e, ev_fz, cFr_e, ev_fr, cMu_e, ev_mu, bOk_e, cTru_e, evT_tru, cTa_t, cTa_f, evT_tand, cTo_t, cTo_f, evT_tor, cTn_e, evT_tnot, evs_nil, cCo2_e, cCo1_e, evs_cons, evO_absent, cO_e, evO_tru, cDs_e, evL_dsp, cCt_e, evL_cat, cRp_e, evL_rep, cP2_e, cP1_e, evL_slp, lOk_e, cLo_e, evL_lof, cLc_e, evL_lc, iOk_e, cIt_e, evI_itm, cR1_e, evI_rng1, cR3_i, cR2_e, evI_rng2, cEn_e, evI_enu, cZ2_e, cZ1_e, evI_zip2, ex_nil, ex_pass, cSeq_n, cSeq_r, cSeq_b, ex_seq, cSet_e, ex_set, eOk_e, cSt_e, ex_setT, nxR_e, cSA2_e, cSA1_e, ex_setA, cSI3_e, cSI2_e, cSI1_e, ex_setI, cEx_e, ex_ex, cRet_e, ex_ret, ex_retN, ex_brk, cIf_t, cIf_f, ex_ife, cFor_e, ex_for, fin_ret, fin_nx, enK_e, idP_e, cIdn_e, ev_idn, popK_e, popz_e, ev_popz, ev_dem, cCalS_e, ev_cals, cMtS2_e, cMtS1_e, ev_mths, cMkS_e, ev_mks, smK_e, cSm_e, evL_sml, cRd3_i, cRd2_e, evI_rngd, cAu1_e, auP_e, ex_aug, aug_add, aug_sub, aaQ_e, cAA4_e, cAA3_e, cAA2_e, aaP_e, cAA1_e, ex_augA, cAI5_e, cAI4_e, cAI3_e, cAI2_e, cAI1_e, ex_augI, bind_ok, bind_bad, bind_exc, Lp.start, Gstr, Ggco, gc, GCD, setE, bin_add, bin_sub, cmpD, bRes, oRes, negD, truB_bl, truB_non, truB_int, isNon, eqB_int, eqB_str, eqB_bl, idx_tup, idx_lst, idx_arr, atI_0, atI_1, atI_2, atI_3, atI_4, atI_5, atI_6, atI_7, atI_8, atI_9, atI_10, atI_11,  slcT_1, slcT_2, slcT_21, inB_tup, inB_arr, inB_lst, flatD, eqF, tx_beq, List.all_cons, List.all_nil, List.any_cons, List.any_nil, Bool.and_true, Bool.true_and, Bool.and_false, Bool.false_and, Bool.or_false, Bool.or_true, Bool.true_or, Bool.false_or, Nat.reduceBEq, wipeE, itm_tup, itm_lst, itm_arr, List.map_cons, List.map_nil, List.cons_append, List.nil_append, List.length_cons, List.length_nil, List.getElem?_cons_zero, List.getElem?_cons_succ, List.getElem?_nil, List.set_cons_zero, List.set_cons_succ, List.getD_cons_zero, List.getD_cons_succ, List.replicate_succ, List.replicate_zero, Nat.reduceAdd, Nat.reduceSub, Nat.zero_add, Option.map_some, Option.map_none, Bool.not_true, Bool.not_false, ite_true, ite_false, if_true, if_false, reduceCtorEq, decide_true, decide_false, decide_eq_true_eq, tx_dec, Bool.false_eq_true, Nat.reduceEqDiff, Nat.reduceLT, Nat.reduceLeDiff, line_ok, line_lt, lcG_s, lcG_0, lcG_n, lcX_n, lcX_s, lcB_s, lcC_t, lcC_f, lcE_o, bindG_1, id_eq, nc_0, nc_1, nc_2, nc_3, nc_4, nc_5, nc_6, nc_7, nc_8, nc_9, nc_10, nc_11, nc_12,  Int.reduceEq, Int.reduceLT, Int.reduceLE, Int.reduceNeg, Int.reduceAdd, Int.reduceSub, Int.reduceMul, Option.bind_some, dInts_1, dInts_2, minL_1, minL_2, List.sum_cons, List.sum_nil, Int.add_zero, idx_nl, inB_nl, itm_nl, wk_non, wk_bl, wk_int, wk_str, wk_ref, wk_tup, wk_lst, wk_nl, wk_arr, wk_ins, wk_no, wk_dic, wks_nil, wks_cons, wkf_nil, wkf_cons, wkk_nil, wkk_cons, wks_ints] $[$loc]?)
local macro_rules | `(tactic| dsimp? [$args,*] $[$loc]?) => `(tactic| simp -implicitDefEqProofs only [$args,*, runF, natD, natsD, vOk_e, ev_var, ev_non, ev_bl, ev_int, ev_str, ev_gco, cB1_e, ev_bin, ev_neg, cC1_e, ev_cmp, cH3_t, cH3_f, cH2_e, cH1_e, ev_chn, cAnd_t, cAnd_f, ev_andv, cOr_t, cOr_f, ev_orv, cNot_e, ev_notv, cIfe_t, cIfe_f, ev_ife, cI1_e, ev_idx, cS2_e, cS1_e, ev_slt, cAt_e, ev_att, ev_call, cCall_e, cM2_e, cM1_e, ev_mth, mkK_e, cMk_e, ev_mk, ev_blt, cIs_e, ev_isi, appK_e, cA2_e, appP_e, cA1_e, ev_app, cTup_e, ev_tup, cFz_e, ev_fz, cFr_e, ev_fr, cMu_e, ev_mu, bOk_e, cTru_e, evT_tru, cTa_t, cTa_f, evT_tand, cTo_t, cTo_f, evT_tor, cTn_e, evT_tnot, evs_nil, cCo2_e, cCo1_e, evs_cons, evO_absent, cO_e, evO_tru, cDs_e, evL_dsp, cCt_e, evL_cat, cRp_e, evL_rep, cP2_e, cP1_e, evL_slp, lOk_e, cLo_e, evL_lof, cLc_e, evL_lc, iOk_e, cIt_e, evI_itm, cR1_e, evI_rng1, cR3_i, cR2_e, evI_rng2, cEn_e, evI_enu, cZ2_e, cZ1_e, evI_zip2, ex_nil, ex_pass, cSeq_n, cSeq_r, cSeq_b, ex_seq, cSet_e, ex_set, eOk_e, cSt_e, ex_setT, nxR_e, cSA2_e, cSA1_e, ex_setA, cSI3_e, cSI2_e, cSI1_e, ex_setI, cEx_e, ex_ex, cRet_e, ex_ret, ex_retN, ex_brk, cIf_t, cIf_f, ex_ife, cFor_e, ex_for, fin_ret, fin_nx, enK_e, idP_e, cIdn_e, ev_idn, popK_e, popz_e, ev_popz, ev_dem, cCalS_e, ev_cals, cMtS2_e, cMtS1_e, ev_mths, cMkS_e, ev_mks, smK_e, cSm_e, evL_sml, cRd3_i, cRd2_e, evI_rngd, cAu1_e, auP_e, ex_aug, aug_add, aug_sub, aaQ_e, cAA4_e, cAA3_e, cAA2_e, aaP_e, cAA1_e, ex_augA, cAI5_e, cAI4_e, cAI3_e, cAI2_e, cAI1_e, ex_augI, bind_ok, bind_bad, bind_exc, Lp.start, Gstr, Ggco, gc, GCD, setE, bin_add, bin_sub, cmpD, bRes, oRes, negD, truB_bl, truB_non, truB_int, isNon, eqB_int, eqB_str, eqB_bl, idx_tup, idx_lst, idx_arr, atI_0, atI_1, atI_2, atI_3, atI_4, atI_5, atI_6, atI_7, atI_8, atI_9, atI_10, atI_11,  slcT_1, slcT_2, slcT_21, inB_tup, inB_arr, inB_lst, flatD, eqF, tx_beq, List.all_cons, List.all_nil, List.any_cons, List.any_nil, Bool.and_true, Bool.true_and, Bool.and_false, Bool.false_and, Bool.or_false, Bool.or_true, Bool.true_or, Bool.false_or, Nat.reduceBEq, wipeE, itm_tup, itm_lst, itm_arr, List.map_cons, List.map_nil, List.cons_append, List.nil_append, List.length_cons, List.length_nil, List.getElem?_cons_zero, List.getElem?_cons_succ, List.getElem?_nil, List.set_cons_zero, List.set_cons_succ, List.getD_cons_zero, List.getD_cons_succ, List.replicate_succ, List.replicate_zero, Nat.reduceAdd, Nat.reduceSub, Nat.zero_add, Option.map_some, Option.map_none, Bool.not_true, Bool.not_false, ite_true, ite_false, if_true, if_false, reduceCtorEq, decide_true, decide_false, decide_eq_true_eq, tx_dec, Bool.false_eq_true, Nat.reduceEqDiff, Nat.reduceLT, Nat.reduceLeDiff, line_ok, line_lt, lcG_s, lcG_0, lcG_n, lcX_n, lcX_s, lcB_s, lcC_t, lcC_f, lcE_o, bindG_1, id_eq, nc_0, nc_1, nc_2, nc_3, nc_4, nc_5, nc_6, nc_7, nc_8, nc_9, nc_10, nc_11, nc_12,  Int.reduceEq, Int.reduceLT, Int.reduceLE, Int.reduceNeg, Int.reduceAdd, Int.reduceSub, Int.reduceMul, Option.bind_some, dInts_1, dInts_2, minL_1, minL_2, List.sum_cons, List.sum_nil, Int.add_zero, idx_nl, inB_nl, itm_nl, wk_non, wk_bl, wk_int, wk_str, wk_ref, wk_tup, wk_lst, wk_nl, wk_arr, wk_ins, wk_no, wk_dic, wks_nil, wks_cons, wkf_nil, wkf_cons, wkk_nil, wkk_cons, wks_ints, len_lst, len_nl, bi_int, bi_bl, bi_abs, rng_n, List.length_map] $[$loc]?)
theorem plainAll_map {α : Type} {f : α → PyData} (h : ∀ x, (f x).plain = true) : ∀ xs : List α, PyData.plainAll (xs.map f) = true
  | [] => rfl
  | x :: xs => by simp only [List.map_cons, PyData.plainAll, h x, plainAll_map h xs, Bool.and_true]
def rowP (r : List Int) : PyData := .list (r.map PyData.int)
def rowsP (R : Rows) : PyData := .list (R.map rowP)
theorem dat_row {M : Store} {n : Nat} (r : List Int) : dat M (n + 2) (rowD r) = some (rowP r) := by
  rw [dat_asM (n := n + 1) (asM_row), mapO_map (f := dat M (n + 1)) (g := D.int) (k := PyData.int) (fun _ => rfl)] <;> rfl
theorem dat_rows {M : Store} {n : Nat} (R : Rows) : dat M (n + 3) (rowsD R) = some (rowsP R) := by
  rw [dat_asM (n := n + 2) (asM_rowsD), mapO_map (f := dat M (n + 2)) (g := rowD) (k := rowP) dat_row] <;> rfl
theorem plain_rowP (r : List Int) : (rowP r).plain = true := by
  unfold rowP
  simp only [PyData.plain]
  exact plain_ints r
theorem plain_rowsP (R : Rows) : (rowsP R).plain = true := by
  unfold rowsP
  simp only [PyData.plain]
  exact plainAll_map plain_rowP R
theorem eqB_T {M : Store} {T : List Rows} : eqB M (.nl (T.map rowsD)) (.nl (T.map rowsD)) = some true := by
  have e : dat M 12 (.nl (T.map rowsD)) = some (.list (T.map rowsP)) := by
    rw [dat_asM (n := 11) (asM_nl), mapO_map (f := dat M 11) (g := rowsD) (k := rowsP) dat_rows] <;> rfl
  exact eqB_of e e (by simp only [PyData.plain]; exact plainAll_map plain_rowsP T)
theorem wks_rowsD {vs : Rows} : wks (vs.map rowD) = vs.map rowW := wks_map (fun _ => wk_row) vs
theorem wks_rls {rls : List Rl} : wks (rls.map Rl.d) = rls.map Rl.d := (Cls.map Cl.rl rls).2
theorem asS_nl {M : Store} {xs : List D} : asS M (.nl xs) = some xs := rfl
theorem asS_row {M : Store} {r : List Int} : asS M (rowD r) = some (r.map D.int) := rfl
theorem cMk_graph {G : Gm} [Gl G] [H_Graph_init G] {nds : List Nd} {M : Store} (hr : Rt nds) : cMk G 3 [.nl (nds.map Nd.d)] M = .ok (.ref M.length) (M ++ [grM nds]) := by
  have e : G.ini 3 = some 235 := by rw [Gini]; decide +kernel
  have q := c_Graph_init (G := G) (s := M.length) (a := .lst (nds.map Nd.d)) (nds := nds) (M := M ++ [.ins 3 []]) get_new (.lst ((Cls.nds nds).1 _)) hr
  rw [set_new] at q
  rw [cMk_e, e]
  simp -implicitDefEqProofs only [wk_nl, wks_nds, wks_nil, wks_cons, q, mkK_e]
theorem k05_turn {G : Gm} [Gl G] [H_law_graph G] [H_law_values G] [H_law_rules G] [H_Graph_init G] [H_whole_rows G] [H_law_whole G]
    (M : Store) (rs : List Int) (n : Nat) (hb : M[0]? = some (boxO rs n)) (e0 e2 e3 e4 e5 e6 : Option D) :
    ∃ (n' : Nat) (M' : Store) (y3 y4 y5 y6 : Option D), M'[0]? = some (boxO rs n') ∧ exec G b_law_v3_L1 [e0, some (.ref 0), e2, e3, e4, e5, e6, none] M = .ok (.nx [e0, some (.ref 0), e2, y3, y4, y5, y6, none]) M' := by
  obtain ⟨n1, nds, ⟨hr, _⟩, q1⟩ := c_law_graph (G := G) 8 ⟨by decide, by decide⟩ hb
  have q1 : G.fn 59 [.ref 0, .int 8] M = .ok (.nl (nds.map Nd.d)) (M.set 0 (boxO rs n1)) := q1
  have hlt : 0 < M.length := (List.getElem?_eq_some_iff.mp hb).1
  have hb1 : (M.set 0 (boxO rs n1))[0]? = some (boxO rs n1) := List.getElem?_set_self hlt
  have hl1 : 0 < (M.set 0 (boxO rs n1)).length := by rw [List.length_set]; exact hlt
  generalize M.set 0 (boxO rs n1) = M1 at q1 hb1 hl1
  obtain ⟨n2, vs, ⟨hv1, hv2⟩, q2⟩ := c_law_values (G := G) nds 8 ⟨hr.many, by decide⟩ hb1
  have q2 : G.fn 122 [.ref 0, .lst (nds.map Nd.d), .int 8] M1 = .ok (rowsD vs) (M1.set 0 (boxO rs n2)) := q2
  have hb2 : (M1.set 0 (boxO rs n2))[0]? = some (boxO rs n2) := List.getElem?_set_self hl1
  have hl2 : 0 < (M1.set 0 (boxO rs n2)).length := by rw [List.length_set]; exact hl1
  generalize M1.set 0 (boxO rs n2) = M2 at q2 hb2 hl2
  obtain ⟨n3, rls, ⟨hq1, hq2⟩, q3⟩ := c_law_rules (G := G) nds hr.many hb2
  have q3 : G.fn 108 [.ref 0, .lst (nds.map Nd.d)] M2 = .ok (.nl (rls.map Rl.d)) (M2.set 0 (boxO rs n3)) := q3
  have hb3 : (M2.set 0 (boxO rs n3))[0]? = some (boxO rs n3) := List.getElem?_set_self hl2
  have hl3 : 0 < (M2.set 0 (boxO rs n3)).length := by rw [List.length_set]; exact hl2
  generalize M2.set 0 (boxO rs n3) = M3 at q3 hb3 hl3
  have wok : Wok nds vs rls := ⟨hr, hv1, fun v hv => by have := (hv2 v hv).1; omega, hq1, hq2⟩
  have mk := cMk_graph (G := G) (M := M3) hr
  have g4 : (M3 ++ [grM nds])[M3.length]? = some (grM nds) := get_new
  have b4 : (M3 ++ [grM nds])[0]? = some (boxO rs n3) := by rw [List.getElem?_append_left hl3]; exact hb3
  generalize M3 ++ [grM nds] = M4 at mk g4 b4
  have hvz : vs.length ≤ 12 := by
    rw [hv1]
    unfold posN
    refine Nat.le_trans (List.length_filter_le _ _) ?_
    rw [List.length_range]; exact hr.many
  have lc := fun (x6 : Option D) => lc_map (xs := vs) (enc := rowD) (m := vs.length) (k := vs.length) (tg := [7]) (env := [e0, some (.ref 0), e2, some (.nl (nds.map Nd.d)), some (rowsD vs), some (.nl (rls.map Rl.d)), x6, none])
    (c := evT G (.tru (.bl true))) (e := ev G b_law_v3_C1e) (M := M4) [] rowD (by omega) (Nat.le_refl _) (fun env => tru_e env _) (fun r hr => ⟨_, rfl, by
      have ea := asS_row (M := M4) (r := r)
      rw [show rowD r = .nl (r.map D.int) from rfl] at ea ⊢
      simp?! [b_law_v3_C1e, ea]⟩)
  have W := v_whole_rows (G := G) nds vs rls wok (M := M4) (ds := [.ref M3.length, .lst (vs.map rowW), .lst (rls.map Rl.d)])
    (.cons (.rins g4 (.cons (.nl ((Cls.nds nds).1 _)) .nil)) (.cons (.lst ((Cls.rows vs).1 _)) (.cons (.lst ((Cls.map Cl.rl rls).1 _)) .nil)))
  have L := c_law_whole (G := G) nds vs rls wok M4
  refine ⟨n3, M4, some (.nl (nds.map Nd.d)), some (rowsD vs), some (.nl (rls.map Rl.d)), some (.nl ((wholeT nds vs rls nds.length).map rowsD)), b4, ?_⟩
  have er : rowsW vs = .lst (vs.map rowW) := rfl
  dsimp? [b_law_v3_L1, q1, q2, q3, ev_mk, mk, itm_rowsD, lc, asS_nl, wks_nds, wks_rowsD, wks_rls, wk_rows, er, W, L, eqB_T]
def Sp_law_v3 : Spec := ⟨1, fun ds M => (∃ ns : List Int, ds = [.arr (ns.map D.int)]) ∧ M = [], fun _ _ r => ∃ M', r = .ok (.bl true) M'⟩
class H_law_v3 (G : Gm) : Prop where m : Meets Sp_law_v3 (G.fn 181)
theorem sh_law_v3 {T : Tb} {G : Gm} [Gl G] [H_law_row G] [H_law_graph G] [H_law_values G] [H_law_rules G] [H_Graph_init G] [H_whole_rows G] [H_law_whole G] : Shows T Sp_law_v3 (runF G b_law_v3 8) := by
  rintro ds M hl ⟨⟨ns, rfl⟩, rfl⟩
  obtain ⟨rs, q⟩ := c_law_row (G := G) ns (a := 0) (b := 50) (by decide) (by decide) []
  have q : G.fn 106 [.arr (ns.map D.int), .int 0, .int 50] [] = .ok (.nl (rs.map D.int)) [] := q
  have key := for_all (J := rngI 0 5) (tg := [2]) (b := exec G b_law_v3_L1) (n := 5) (it := fun i => .int (0 + i))
    (fun i env M' => ∃ (n' : Nat) (y2 y3 y4 y5 y6 : Option D), M'[0]? = some (boxO rs n') ∧ env = [some (.arr (ns.map D.int)), some (.ref 0), y2, y3, y4, y5, y6, none]) (fun i env M' h => rng_nx)
    (fun i env M' hi h => by
      obtain ⟨n', y2, y3, y4, y5, y6, h1, rfl⟩ := h
      obtain ⟨n2, M2, z3, z4, z5, z6, h2, h3⟩ := k05_turn (G := G) M' rs n' h1 (some (.arr (ns.map D.int))) (some (.int (0 + i))) y3 y4 y5 y6
      exact ⟨_, _, _, rfl, h3, n2, _, _, _, _, _, h2, rfl⟩)
    (k := 5) (env := [some (.arr (ns.map D.int)), some (.ref 0), none, none, none, none, none, none]) (M := [boxO rs 0]) (by omega) ⟨0, _, _, _, _, _, rfl, rfl⟩
  obtain ⟨env', M', h2, n', y2, y3, y4, y5, y6, h3, h4⟩ := key
  subst h4
  have sm : small 5 := by decide
  have nt : (5 : Int).toNat = 5 := rfl
  have e0 : MO.lst [.nl (rs.map D.int), .int 0] = boxO rs 0 := rfl
  exact ⟨_, Ent.refl, M', by dsimp? [b_law_v3, q, e0, if_pos sm, nt, h2, wks_ints]⟩
end Lp

namespace k05
open PySem PySem.Spec L2 Lp
def top (i : Nat) : Stmt := PySem.Challenge.pw_leastpull_k05_whole_rows.main.body.getD i (.Pass ⟨0, 0, 0, 0⟩)
def fnsN : List PySem.Str := [("_accepted" : PySem.Str), ("_called" : PySem.Str), ("" : PySem.Str), ("" : PySem.Str), ("" : PySem.Str), ("" : PySem.Str), ("_fault" : PySem.Str), ("" : PySem.Str), ("" : PySem.Str), ("" : PySem.Str), ("" : PySem.Str), ("" : PySem.Str), ("" : PySem.Str), ("" : PySem.Str), ("" : PySem.Str), ("" : PySem.Str), ("" : PySem.Str), ("" : PySem.Str), ("_is_parameter" : PySem.Str), ("" : PySem.Str), ("" : PySem.Str), ("" : PySem.Str), ("" : PySem.Str), ("" : PySem.Str), ("" : PySem.Str), ("" : PySem.Str), ("" : PySem.Str), ("" : PySem.Str), ("" : PySem.Str), ("" : PySem.Str), ("" : PySem.Str), ("_law_calling" : PySem.Str), ("" : PySem.Str), ("" : PySem.Str), ("_law_cell" : PySem.Str), ("" : PySem.Str), ("" : PySem.Str), ("" : PySem.Str), ("" : PySem.Str), ("" : PySem.Str), ("" : PySem.Str), ("" : PySem.Str), ("" : PySem.Str), ("" : PySem.Str), ("" : PySem.Str), ("_law_draw" : PySem.Str), ("" : PySem.Str), ("_law_drawn_node" : PySem.Str), ("" : PySem.Str), ("" : PySem.Str), ("" : PySem.Str), ("" : PySem.Str), ("" : PySem.Str), ("" : PySem.Str), ("" : PySem.Str), ("" : PySem.Str), ("" : PySem.Str), ("" : PySem.Str), ("" : PySem.Str), ("_law_graph" : PySem.Str), ("" : PySem.Str), ("_law_inputs" : PySem.Str), ("" : PySem.Str), ("" : PySem.Str), ("" : PySem.Str), ("" : PySem.Str), ("" : PySem.Str), ("" : PySem.Str), ("" : PySem.Str), ("_law_kept_while" : PySem.Str), ("" : PySem.Str), ("" : PySem.Str), ("" : PySem.Str), ("_law_length" : PySem.Str), ("" : PySem.Str), ("" : PySem.Str), ("" : PySem.Str), ("" : PySem.Str), ("" : PySem.Str), ("" : PySem.Str), ("_law_merged" : PySem.Str), ("" : PySem.Str), ("" : PySem.Str), ("" : PySem.Str), ("" : PySem.Str), ("" : PySem.Str), ("" : PySem.Str), ("" : PySem.Str), ("" : PySem.Str), ("" : PySem.Str), ("" : PySem.Str), ("" : PySem.Str), ("_law_of_kind" : PySem.Str), ("" : PySem.Str), ("" : PySem.Str), ("" : PySem.Str), ("" : PySem.Str), ("" : PySem.Str), ("" : PySem.Str), ("" : PySem.Str), ("" : PySem.Str), ("" : PySem.Str), ("" : PySem.Str), ("" : PySem.Str), ("" : PySem.Str), ("" : PySem.Str), ("_law_row" : PySem.Str), ("_law_rule" : PySem.Str), ("_law_rules" : PySem.Str), ("" : PySem.Str), ("_law_scanned" : PySem.Str), ("" : PySem.Str), ("" : PySem.Str), ("" : PySem.Str), ("" : PySem.Str), ("" : PySem.Str), ("" : PySem.Str), ("" : PySem.Str), ("" : PySem.Str), ("" : PySem.Str), ("" : PySem.Str), ("" : PySem.Str), ("_law_values" : PySem.Str), ("" : PySem.Str), ("_law_whole" : PySem.Str), ("_law_whole_node" : PySem.Str), ("_law_width" : PySem.Str), ("" : PySem.Str), ("_length" : PySem.Str), ("_lengths" : PySem.Str), ("_merged" : PySem.Str), ("" : PySem.Str), ("" : PySem.Str), ("" : PySem.Str), ("_plain" : PySem.Str), ("" : PySem.Str), ("" : PySem.Str), ("" : PySem.Str), ("" : PySem.Str), ("_scanned" : PySem.Str), ("" : PySem.Str), ("" : PySem.Str), ("" : PySem.Str), ("" : PySem.Str), ("_width" : PySem.Str), ("_widths" : PySem.Str), ("_windows" : PySem.Str), ("" : PySem.Str), ("" : PySem.Str), ("" : PySem.Str), ("" : PySem.Str), ("" : PySem.Str), ("by_rule" : PySem.Str), ("calling_nodes" : PySem.Str), ("" : PySem.Str), ("" : PySem.Str), ("" : PySem.Str), ("" : PySem.Str), ("" : PySem.Str), ("" : PySem.Str), ("" : PySem.Str), ("" : PySem.Str), ("" : PySem.Str), ("" : PySem.Str), ("" : PySem.Str), ("" : PySem.Str), ("" : PySem.Str), ("" : PySem.Str), ("inputs_of" : PySem.Str), ("is_integer" : PySem.Str), ("" : PySem.Str), ("" : PySem.Str), ("" : PySem.Str), ("is_node" : PySem.Str), ("is_number" : PySem.Str), ("" : PySem.Str), ("" : PySem.Str), ("" : PySem.Str), ("" : PySem.Str), ("is_within" : PySem.Str), ("" : PySem.Str), ("law" : PySem.Str), ("" : PySem.Str), ("" : PySem.Str), ("" : PySem.Str), ("" : PySem.Str), ("" : PySem.Str), ("" : PySem.Str), ("" : PySem.Str), ("" : PySem.Str), ("" : PySem.Str), ("" : PySem.Str), ("" : PySem.Str), ("" : PySem.Str), ("" : PySem.Str), ("" : PySem.Str), ("" : PySem.Str), ("" : PySem.Str), ("" : PySem.Str), ("" : PySem.Str), ("" : PySem.Str), ("" : PySem.Str), ("" : PySem.Str), ("" : PySem.Str), ("" : PySem.Str), ("" : PySem.Str), ("" : PySem.Str), ("source_nodes" : PySem.Str), ("" : PySem.Str), ("whole_rows" : PySem.Str), ("" : PySem.Str), ("" : PySem.Str), ("" : PySem.Str)]
def clsN : List PySem.Str := [("" : PySem.Str), ("" : PySem.Str), ("" : PySem.Str), ("Graph" : PySem.Str), ("" : PySem.Str), ("" : PySem.Str), ("" : PySem.Str), ("" : PySem.Str), ("" : PySem.Str), ("" : PySem.Str), ("" : PySem.Str)]
def gcsN : List PySem.Str := [("CALLING" : PySem.Str), ("COUNTED" : PySem.Str), ("" : PySem.Str), ("GREATEST_COUNT" : PySem.Str), ("" : PySem.Str), ("GREATEST_LENGTH" : PySem.Str), ("GREATEST_START" : PySem.Str), ("" : PySem.Str), ("GREATEST_WIDTH" : PySem.Str), ("MODULUS" : PySem.Str), ("" : PySem.Str), ("MOST_NODES" : PySem.Str), ("" : PySem.Str), ("" : PySem.Str), ("MOST_SOURCES" : PySem.Str), ("" : PySem.Str), ("ONE_INPUT" : PySem.Str), ("SOURCE_LENGTH" : PySem.Str), ("TWO_INPUTS" : PySem.Str)]
def tb : Tb := { fns := fnsN, cls := clsN, mts := MTS, fls := FLS, gcs := gcsN.zip GCD, txt := TXT, mth := MTH, cfs := CFS, mfs := MFS, ini := INI }
def d_169 : He.DefD := ⟨("is_integer", none), "is_integer", "is_integer", defArgs (top 7), defBody (top 7), defScope (top 7), [], []⟩
def it_169 : Item := ⟨d_169, n_is_integer, [("thing" : PySem.Str)], b_is_integer⟩
def d_179 : He.DefD := ⟨("is_within", none), "is_within", "is_within", defArgs (top 8), defBody (top 8), defScope (top 8), [], []⟩
def it_179 : Item := ⟨d_179, n_is_within, [("thing" : PySem.Str), ("low" : PySem.Str), ("high" : PySem.Str)], b_is_within⟩
def d_174 : He.DefD := ⟨("is_number", none), "is_number", "is_number", defArgs (top 9), defBody (top 9), defScope (top 9), [], []⟩
def it_174 : Item := ⟨d_174, n_is_number, [("thing" : PySem.Str)], b_is_number⟩
def d_18 : He.DefD := ⟨("_is_parameter", none), "_is_parameter", "_is_parameter", defArgs (top 10), defBody (top 10), defScope (top 10), [], []⟩
def it_18 : Item := ⟨d_18, n_u_is_parameter, [("kind" : PySem.Str), ("thing" : PySem.Str)], b_u_is_parameter⟩
def d_173 : He.DefD := ⟨("is_node", none), "is_node", "is_node", defArgs (top 11), defBody (top 11), defScope (top 11), [], []⟩
def it_173 : Item := ⟨d_173, n_is_node, [("thing" : PySem.Str)], b_is_node⟩
def d_168 : He.DefD := ⟨("inputs_of", none), "inputs_of", "inputs_of", defArgs (top 12), defBody (top 12), defScope (top 12), [], []⟩
def it_168 : Item := ⟨d_168, n_inputs_of, [("node" : PySem.Str)], b_inputs_of⟩
def d_152 : He.DefD := ⟨("by_rule", none), "by_rule", "by_rule", defArgs (top 15), defBody (top 15), defScope (top 15), [], []⟩
def it_152 : Item := ⟨d_152, n_by_rule, [("kind" : PySem.Str), ("rule" : PySem.Str), ("rows" : PySem.Str), ("indexes" : PySem.Str)], b_by_rule⟩
def d_144 : He.DefD := ⟨("_width", none), "_width", "_width", defArgs (top 25), defBody (top 25), defScope (top 25), [], []⟩
def it_144 : Item := ⟨d_144, n_u_width, [("node" : PySem.Str), ("known" : PySem.Str)], b_u_width⟩
def d_128 : He.DefD := ⟨("_length", none), "_length", "_length", defArgs (top 26), defBody (top 26), defScope (top 26), [], []⟩
def it_128 : Item := ⟨d_128, n_u_length, [("node" : PySem.Str), ("known" : PySem.Str)], b_u_length⟩
def d_145 : He.DefD := ⟨("_widths", none), "_widths", "_widths", defArgs (top 27), defBody (top 27), defScope (top 27), [], []⟩
def it_145 : Item := ⟨d_145, n_u_widths, [("nodes" : PySem.Str)], b_u_widths⟩
def d_129 : He.DefD := ⟨("_lengths", none), "_lengths", "_lengths", defArgs (top 28), defBody (top 28), defScope (top 28), [], []⟩
def it_129 : Item := ⟨d_129, n_u_lengths, [("nodes" : PySem.Str)], b_u_lengths⟩
def d_6 : He.DefD := ⟨("_fault", none), "_fault", "_fault", defArgs (top 29), defBody (top 29), defScope (top 29), [], []⟩
def it_6 : Item := ⟨d_6, n_u_fault, [("nodes" : PySem.Str), ("at" : PySem.Str)], b_u_fault⟩
def d_235 : He.DefD := ⟨("Graph", some "__init__"), "__init__", "Graph.__init__", defArgs ((inClass (top 30) 0)), defBody ((inClass (top 30) 0)), defScope ((inClass (top 30) 0)), [], []⟩
def it_235 : Item := ⟨d_235, n_Graph_init, [("self" : PySem.Str), ("nodes" : PySem.Str)], b_Graph_init⟩
def d_207 : He.DefD := ⟨("source_nodes", none), "source_nodes", "source_nodes", defArgs (top 31), defBody (top 31), defScope (top 31), [], []⟩
def it_207 : Item := ⟨d_207, n_source_nodes, [("graph" : PySem.Str)], b_source_nodes⟩
def d_153 : He.DefD := ⟨("calling_nodes", none), "calling_nodes", "calling_nodes", defArgs (top 32), defBody (top 32), defScope (top 32), [], []⟩
def it_153 : Item := ⟨d_153, n_calling_nodes, [("graph" : PySem.Str)], b_calling_nodes⟩
def d_130 : He.DefD := ⟨("_merged", none), "_merged", "_merged", defArgs (top 34), defBody (top 34), defScope (top 34), [], []⟩
def it_130 : Item := ⟨d_130, n_u_merged, [("rule" : PySem.Str), ("one" : PySem.Str), ("two" : PySem.Str)], b_u_merged⟩
def d_139 : He.DefD := ⟨("_scanned", none), "_scanned", "_scanned", defArgs (top 35), defBody (top 35), defScope (top 35), [], []⟩
def it_139 : Item := ⟨d_139, n_u_scanned, [("rule" : PySem.Str), ("start" : PySem.Str), ("rows" : PySem.Str)], b_u_scanned⟩
def d_0 : He.DefD := ⟨("_accepted", none), "_accepted", "_accepted", defArgs (top 36), defBody (top 36), defScope (top 36), [], []⟩
def it_0 : Item := ⟨d_0, n_u_accepted, [("kind" : PySem.Str), ("rule" : PySem.Str), ("rows" : PySem.Str)], b_u_accepted⟩
def d_146 : He.DefD := ⟨("_windows", none), "_windows", "_windows", defArgs (top 37), defBody (top 37), defScope (top 37), [], []⟩
def it_146 : Item := ⟨d_146, n_u_windows, [("size" : PySem.Str), ("rows" : PySem.Str)], b_u_windows⟩
def d_1 : He.DefD := ⟨("_called", none), "_called", "_called", defArgs (top 38), defBody (top 38), defScope (top 38), [], []⟩
def it_1 : Item := ⟨d_1, n_u_called, [("node" : PySem.Str), ("rule" : PySem.Str), ("inputs" : PySem.Str)], b_u_called⟩
def d_134 : He.DefD := ⟨("_plain", none), "_plain", "_plain", defArgs (top 39), defBody (top 39), defScope (top 39), [], []⟩
def it_134 : Item := ⟨d_134, n_u_plain, [("node" : PySem.Str), ("inputs" : PySem.Str)], b_u_plain⟩
def d_209 : He.DefD := ⟨("whole_rows", none), "whole_rows", "whole_rows", defArgs (top 40), defBody (top 40), defScope (top 40), [], []⟩
def it_209 : Item := ⟨d_209, n_whole_rows, [("graph" : PySem.Str), ("values" : PySem.Str), ("rules" : PySem.Str)], b_whole_rows⟩
def d_34 : He.DefD := ⟨("_law_cell", none), "_law_cell", "_law_cell", defArgs (top 42), defBody (top 42), defScope (top 42), [], []⟩
def it_34 : Item := ⟨d_34, n_law_cell, [("_law_script" : PySem.Str), ("_law_k" : PySem.Str)], b_law_cell⟩
def d_106 : He.DefD := ⟨("_law_row", none), "_law_row", "_law_row", defArgs (top 43), defBody (top 43), defScope (top 43), [], []⟩
def it_106 : Item := ⟨d_106, n_law_row, [("_law_script" : PySem.Str), ("_law_first" : PySem.Str), ("_law_last" : PySem.Str)], b_law_row⟩
def d_45 : He.DefD := ⟨("_law_draw", none), "_law_draw", "_law_draw", defArgs (top 44), defBody (top 44), defScope (top 44), [], []⟩
def it_45 : Item := ⟨d_45, n_law_draw, [("_law_box" : PySem.Str), ("_law_many" : PySem.Str)], b_law_draw⟩
def d_61 : He.DefD := ⟨("_law_inputs", none), "_law_inputs", "_law_inputs", defArgs (top 45), defBody (top 45), defScope (top 45), [], []⟩
def it_61 : Item := ⟨d_61, n_law_inputs, [("_law_node" : PySem.Str)], b_law_inputs⟩
def d_126 : He.DefD := ⟨("_law_width", none), "_law_width", "_law_width", defArgs (top 46), defBody (top 46), defScope (top 46), [], []⟩
def it_126 : Item := ⟨d_126, n_law_width, [("_law_wide" : PySem.Str), ("_law_node" : PySem.Str)], b_law_width⟩
def d_73 : He.DefD := ⟨("_law_length", none), "_law_length", "_law_length", defArgs (top 47), defBody (top 47), defScope (top 47), [], []⟩
def it_73 : Item := ⟨d_73, n_law_length, [("_law_long" : PySem.Str), ("_law_node" : PySem.Str)], b_law_length⟩
def d_47 : He.DefD := ⟨("_law_drawn_node", none), "_law_drawn_node", "_law_drawn_node", defArgs (top 48), defBody (top 48), defScope (top 48), [], []⟩
def it_47 : Item := ⟨d_47, n_law_drawn_node, [("_law_box" : PySem.Str), ("_law_many" : PySem.Str)], b_law_drawn_node⟩
def d_59 : He.DefD := ⟨("_law_graph", none), "_law_graph", "_law_graph", defArgs (top 49), defBody (top 49), defScope (top 49), [], []⟩
def it_59 : Item := ⟨d_59, n_law_graph, [("_law_box" : PySem.Str), ("_law_most" : PySem.Str)], b_law_graph⟩
def d_92 : He.DefD := ⟨("_law_of_kind", none), "_law_of_kind", "_law_of_kind", defArgs (top 50), defBody (top 50), defScope (top 50), [], []⟩
def it_92 : Item := ⟨d_92, n_law_of_kind, [("_law_nodes" : PySem.Str), ("_law_kinds" : PySem.Str)], b_law_of_kind⟩
def d_31 : He.DefD := ⟨("_law_calling", none), "_law_calling", "_law_calling", defArgs (top 51), defBody (top 51), defScope (top 51), [], []⟩
def it_31 : Item := ⟨d_31, n_law_calling, [("_law_nodes" : PySem.Str)], b_law_calling⟩
def d_122 : He.DefD := ⟨("_law_values", none), "_law_values", "_law_values", defArgs (top 52), defBody (top 52), defScope (top 52), [], []⟩
def it_122 : Item := ⟨d_122, n_law_values, [("_law_box" : PySem.Str), ("_law_nodes" : PySem.Str), ("_law_most" : PySem.Str)], b_law_values⟩
def d_108 : He.DefD := ⟨("_law_rules", none), "_law_rules", "_law_rules", defArgs (top 53), defBody (top 53), defScope (top 53), [], []⟩
def it_108 : Item := ⟨d_108, n_law_rules, [("_law_box" : PySem.Str), ("_law_nodes" : PySem.Str)], b_law_rules⟩
def d_107 : He.DefD := ⟨("_law_rule", none), "_law_rule", "_law_rule", defArgs (top 54), defBody (top 54), defScope (top 54), [], []⟩
def it_107 : Item := ⟨d_107, n_law_rule, [("_law_kind" : PySem.Str), ("_law_rule_here" : PySem.Str), ("_law_sums" : PySem.Str), ("_law_at" : PySem.Str)], b_law_rule⟩
def d_110 : He.DefD := ⟨("_law_scanned", none), "_law_scanned", "_law_scanned", defArgs (top 55), defBody (top 55), defScope (top 55), [], []⟩
def it_110 : Item := ⟨d_110, n_law_scanned, [("_law_rule_here" : PySem.Str), ("_law_first" : PySem.Str), ("_law_rows" : PySem.Str)], b_law_scanned⟩
def d_80 : He.DefD := ⟨("_law_merged", none), "_law_merged", "_law_merged", defArgs (top 56), defBody (top 56), defScope (top 56), [], []⟩
def it_80 : Item := ⟨d_80, n_law_merged, [("_law_rule_here" : PySem.Str), ("_law_one" : PySem.Str), ("_law_two" : PySem.Str)], b_law_merged⟩
def d_69 : He.DefD := ⟨("_law_kept_while", none), "_law_kept_while", "_law_kept_while", defArgs (top 57), defBody (top 57), defScope (top 57), [], []⟩
def it_69 : Item := ⟨d_69, n_law_kept_while, [("_law_rule_here" : PySem.Str), ("_law_rows" : PySem.Str), ("_law_stop" : PySem.Str)], b_law_kept_while⟩
def d_125 : He.DefD := ⟨("_law_whole_node", none), "_law_whole_node", "_law_whole_node", defArgs (top 58), defBody (top 58), defScope (top 58), [], []⟩
def it_125 : Item := ⟨d_125, n_law_whole_node, [("_law_node" : PySem.Str), ("_law_rows" : PySem.Str), ("_law_rule_here" : PySem.Str)], b_law_whole_node⟩
def d_124 : He.DefD := ⟨("_law_whole", none), "_law_whole", "_law_whole", defArgs (top 59), defBody (top 59), defScope (top 59), [], []⟩
def it_124 : Item := ⟨d_124, n_law_whole, [("_law_nodes" : PySem.Str), ("_law_values_here" : PySem.Str), ("_law_rules_here" : PySem.Str)], b_law_whole⟩
def d_181 : He.DefD := ⟨("law", none), "law", "law", defArgs (top 60), defBody (top 60), defScope (top 60), [], []⟩
def it_181 : Item := ⟨d_181, n_law_v3, [("_law_script" : PySem.Str)], b_law_v3⟩
def its0 : List (Nat × Item) := [(169, it_169), (179, it_179), (174, it_174), (18, it_18), (173, it_173), (168, it_168), (152, it_152), (144, it_144), (128, it_128), (145, it_145), (129, it_129), (6, it_6), (235, it_235), (207, it_207), (153, it_153), (130, it_130), (139, it_139), (0, it_0), (146, it_146), (1, it_1), (134, it_134), (209, it_209), (34, it_34), (106, it_106), (45, it_45)]
def its1 : List (Nat × Item) := [(61, it_61), (126, it_126), (73, it_73), (47, it_47), (59, it_59), (92, it_92), (31, it_31), (122, it_122), (108, it_108), (107, it_107), (110, it_110), (80, it_80), (69, it_69), (125, it_125), (124, it_124), (181, it_181)]
def its : List (Nat × Item) := its0 ++ its1
theorem ok_169 : ItemOk tb it_169 := ⟨by decide +kernel, scope_of (by decide +kernel), rfl, rfl, fun _ _ _ _ _ _ us hl => match us, hl with | [_], _ => rfl⟩
theorem ok_179 : ItemOk tb it_179 := ⟨by decide +kernel, scope_of (by decide +kernel), rfl, rfl, fun _ _ _ _ _ _ us hl => match us, hl with | [_, _, _], _ => rfl⟩
theorem ok_174 : ItemOk tb it_174 := ⟨by decide +kernel, scope_of (by decide +kernel), rfl, rfl, fun _ _ _ _ _ _ us hl => match us, hl with | [_], _ => rfl⟩
theorem ok_18 : ItemOk tb it_18 := ⟨by decide +kernel, scope_of (by decide +kernel), rfl, rfl, fun _ _ _ _ _ _ us hl => match us, hl with | [_, _], _ => rfl⟩
theorem ok_173 : ItemOk tb it_173 := ⟨by decide +kernel, scope_of (by decide +kernel), rfl, rfl, fun _ _ _ _ _ _ us hl => match us, hl with | [_], _ => rfl⟩
theorem ok_168 : ItemOk tb it_168 := ⟨by decide +kernel, scope_of (by decide +kernel), rfl, rfl, fun _ _ _ _ _ _ us hl => match us, hl with | [_], _ => rfl⟩
theorem ok_152 : ItemOk tb it_152 := ⟨by decide +kernel, scope_of (by decide +kernel), rfl, rfl, fun _ _ _ _ _ _ us hl => match us, hl with | [_, _, _, _], _ => rfl⟩
theorem ok_144 : ItemOk tb it_144 := ⟨by decide +kernel, scope_of (by decide +kernel), rfl, rfl, fun _ _ _ _ _ _ us hl => match us, hl with | [_, _], _ => rfl⟩
theorem ok_128 : ItemOk tb it_128 := ⟨by decide +kernel, scope_of (by decide +kernel), rfl, rfl, fun _ _ _ _ _ _ us hl => match us, hl with | [_, _], _ => rfl⟩
theorem ok_145 : ItemOk tb it_145 := ⟨by decide +kernel, scope_of (by decide +kernel), rfl, rfl, fun _ _ _ _ _ _ us hl => match us, hl with | [_], _ => rfl⟩
theorem ok_129 : ItemOk tb it_129 := ⟨by decide +kernel, scope_of (by decide +kernel), rfl, rfl, fun _ _ _ _ _ _ us hl => match us, hl with | [_], _ => rfl⟩
theorem ok_6 : ItemOk tb it_6 := ⟨by decide +kernel, scope_of (by decide +kernel), rfl, rfl, fun _ _ _ _ _ _ us hl => match us, hl with | [_, _], _ => rfl⟩
theorem ok_235 : ItemOk tb it_235 := ⟨by decide +kernel, scope_of (by decide +kernel), rfl, rfl, fun _ _ _ _ _ _ us hl => match us, hl with | [_, _], _ => rfl⟩
theorem ok_207 : ItemOk tb it_207 := ⟨by decide +kernel, scope_of (by decide +kernel), rfl, rfl, fun _ _ _ _ _ _ us hl => match us, hl with | [_], _ => rfl⟩
theorem ok_153 : ItemOk tb it_153 := ⟨by decide +kernel, scope_of (by decide +kernel), rfl, rfl, fun _ _ _ _ _ _ us hl => match us, hl with | [_], _ => rfl⟩
theorem ok_130 : ItemOk tb it_130 := ⟨by decide +kernel, scope_of (by decide +kernel), rfl, rfl, fun _ _ _ _ _ _ us hl => match us, hl with | [_, _, _], _ => rfl⟩
theorem ok_139 : ItemOk tb it_139 := ⟨by decide +kernel, scope_of (by decide +kernel), rfl, rfl, fun _ _ _ _ _ _ us hl => match us, hl with | [_, _, _], _ => rfl⟩
theorem ok_0 : ItemOk tb it_0 := ⟨by decide +kernel, scope_of (by decide +kernel), rfl, rfl, fun _ _ _ _ _ _ us hl => match us, hl with | [_, _, _], _ => rfl⟩
theorem ok_146 : ItemOk tb it_146 := ⟨by decide +kernel, scope_of (by decide +kernel), rfl, rfl, fun _ _ _ _ _ _ us hl => match us, hl with | [_, _], _ => rfl⟩
theorem ok_1 : ItemOk tb it_1 := ⟨by decide +kernel, scope_of (by decide +kernel), rfl, rfl, fun _ _ _ _ _ _ us hl => match us, hl with | [_, _, _], _ => rfl⟩
theorem ok_134 : ItemOk tb it_134 := ⟨by decide +kernel, scope_of (by decide +kernel), rfl, rfl, fun _ _ _ _ _ _ us hl => match us, hl with | [_, _], _ => rfl⟩
theorem ok_209 : ItemOk tb it_209 := ⟨by decide +kernel, scope_of (by decide +kernel), rfl, rfl, fun _ _ _ _ _ _ us hl => match us, hl with | [_, _, _], _ => rfl⟩
theorem ok_34 : ItemOk tb it_34 := ⟨by decide +kernel, scope_of (by decide +kernel), rfl, rfl, fun _ _ _ _ _ _ us hl => match us, hl with | [_, _], _ => rfl⟩
theorem ok_106 : ItemOk tb it_106 := ⟨by decide +kernel, scope_of (by decide +kernel), rfl, rfl, fun _ _ _ _ _ _ us hl => match us, hl with | [_, _, _], _ => rfl⟩
theorem ok_45 : ItemOk tb it_45 := ⟨by decide +kernel, scope_of (by decide +kernel), rfl, rfl, fun _ _ _ _ _ _ us hl => match us, hl with | [_, _], _ => rfl⟩
theorem ok_61 : ItemOk tb it_61 := ⟨by decide +kernel, scope_of (by decide +kernel), rfl, rfl, fun _ _ _ _ _ _ us hl => match us, hl with | [_], _ => rfl⟩
theorem ok_126 : ItemOk tb it_126 := ⟨by decide +kernel, scope_of (by decide +kernel), rfl, rfl, fun _ _ _ _ _ _ us hl => match us, hl with | [_, _], _ => rfl⟩
theorem ok_73 : ItemOk tb it_73 := ⟨by decide +kernel, scope_of (by decide +kernel), rfl, rfl, fun _ _ _ _ _ _ us hl => match us, hl with | [_, _], _ => rfl⟩
theorem ok_47 : ItemOk tb it_47 := ⟨by decide +kernel, scope_of (by decide +kernel), rfl, rfl, fun _ _ _ _ _ _ us hl => match us, hl with | [_, _], _ => rfl⟩
theorem ok_59 : ItemOk tb it_59 := ⟨by decide +kernel, scope_of (by decide +kernel), rfl, rfl, fun _ _ _ _ _ _ us hl => match us, hl with | [_, _], _ => rfl⟩
theorem ok_92 : ItemOk tb it_92 := ⟨by decide +kernel, scope_of (by decide +kernel), rfl, rfl, fun _ _ _ _ _ _ us hl => match us, hl with | [_, _], _ => rfl⟩
theorem ok_31 : ItemOk tb it_31 := ⟨by decide +kernel, scope_of (by decide +kernel), rfl, rfl, fun _ _ _ _ _ _ us hl => match us, hl with | [_], _ => rfl⟩
theorem ok_122 : ItemOk tb it_122 := ⟨by decide +kernel, scope_of (by decide +kernel), rfl, rfl, fun _ _ _ _ _ _ us hl => match us, hl with | [_, _, _], _ => rfl⟩
theorem ok_108 : ItemOk tb it_108 := ⟨by decide +kernel, scope_of (by decide +kernel), rfl, rfl, fun _ _ _ _ _ _ us hl => match us, hl with | [_, _], _ => rfl⟩
theorem ok_107 : ItemOk tb it_107 := ⟨by decide +kernel, scope_of (by decide +kernel), rfl, rfl, fun _ _ _ _ _ _ us hl => match us, hl with | [_, _, _, _], _ => rfl⟩
theorem ok_110 : ItemOk tb it_110 := ⟨by decide +kernel, scope_of (by decide +kernel), rfl, rfl, fun _ _ _ _ _ _ us hl => match us, hl with | [_, _, _], _ => rfl⟩
theorem ok_80 : ItemOk tb it_80 := ⟨by decide +kernel, scope_of (by decide +kernel), rfl, rfl, fun _ _ _ _ _ _ us hl => match us, hl with | [_, _, _], _ => rfl⟩
theorem ok_69 : ItemOk tb it_69 := ⟨by decide +kernel, scope_of (by decide +kernel), rfl, rfl, fun _ _ _ _ _ _ us hl => match us, hl with | [_, _, _], _ => rfl⟩
theorem ok_125 : ItemOk tb it_125 := ⟨by decide +kernel, scope_of (by decide +kernel), rfl, rfl, fun _ _ _ _ _ _ us hl => match us, hl with | [_, _, _], _ => rfl⟩
theorem ok_124 : ItemOk tb it_124 := ⟨by decide +kernel, scope_of (by decide +kernel), rfl, rfl, fun _ _ _ _ _ _ us hl => match us, hl with | [_, _, _], _ => rfl⟩
theorem ok_181 : ItemOk tb it_181 := ⟨by decide +kernel, scope_of (by decide +kernel), rfl, rfl, fun _ _ _ _ _ _ us hl => match us, hl with | [_], _ => rfl⟩
theorem oks : ∀ (i : Nat) (it : Item), its.lookup i = some it → ItemOk tb it := fun i it h => by
  have h := lookup_mem h
  simp only [its, its0, its1, List.mem_append, List.mem_cons, List.not_mem_nil, or_false, Prod.mk.injEq] at h
  rcases h with (⟨rfl, rfl⟩ | ⟨rfl, rfl⟩ | ⟨rfl, rfl⟩ | ⟨rfl, rfl⟩ | ⟨rfl, rfl⟩ | ⟨rfl, rfl⟩ | ⟨rfl, rfl⟩ | ⟨rfl, rfl⟩ | ⟨rfl, rfl⟩ | ⟨rfl, rfl⟩ | ⟨rfl, rfl⟩ | ⟨rfl, rfl⟩ | ⟨rfl, rfl⟩ | ⟨rfl, rfl⟩ | ⟨rfl, rfl⟩ | ⟨rfl, rfl⟩ | ⟨rfl, rfl⟩ | ⟨rfl, rfl⟩ | ⟨rfl, rfl⟩ | ⟨rfl, rfl⟩ | ⟨rfl, rfl⟩ | ⟨rfl, rfl⟩ | ⟨rfl, rfl⟩ | ⟨rfl, rfl⟩ | ⟨rfl, rfl⟩) | ⟨rfl, rfl⟩ | ⟨rfl, rfl⟩ | ⟨rfl, rfl⟩ | ⟨rfl, rfl⟩ | ⟨rfl, rfl⟩ | ⟨rfl, rfl⟩ | ⟨rfl, rfl⟩ | ⟨rfl, rfl⟩ | ⟨rfl, rfl⟩ | ⟨rfl, rfl⟩ | ⟨rfl, rfl⟩ | ⟨rfl, rfl⟩ | ⟨rfl, rfl⟩ | ⟨rfl, rfl⟩ | ⟨rfl, rfl⟩ | ⟨rfl, rfl⟩
  · exact ok_169
  · exact ok_179
  · exact ok_174
  · exact ok_18
  · exact ok_173
  · exact ok_168
  · exact ok_152
  · exact ok_144
  · exact ok_128
  · exact ok_145
  · exact ok_129
  · exact ok_6
  · exact ok_235
  · exact ok_207
  · exact ok_153
  · exact ok_130
  · exact ok_139
  · exact ok_0
  · exact ok_146
  · exact ok_1
  · exact ok_134
  · exact ok_209
  · exact ok_34
  · exact ok_106
  · exact ok_45
  · exact ok_61
  · exact ok_126
  · exact ok_73
  · exact ok_47
  · exact ok_59
  · exact ok_92
  · exact ok_31
  · exact ok_122
  · exact ok_108
  · exact ok_107
  · exact ok_110
  · exact ok_80
  · exact ok_69
  · exact ok_125
  · exact ok_124
  · exact ok_181
end k05

namespace k05
open PySem PySem.Spec L2 Lp
abbrev R : PySem.W.OpenRow := PySem.W.OpenLaw.row PySem.Challenge.rw_leastpull_k05_whole_rows
def ls0 : List PySem.Str := [("ONE_INPUT" : PySem.Str), ("COUNTED" : PySem.Str), ("TWO_INPUTS" : PySem.Str), ("CALLING" : PySem.Str), ("GREATEST_COUNT" : PySem.Str), ("GREATEST_START" : PySem.Str), ("is_integer" : PySem.Str), ("is_within" : PySem.Str), ("is_number" : PySem.Str), ("_is_parameter" : PySem.Str), ("is_node" : PySem.Str), ("inputs_of" : PySem.Str), ("MODULUS" : PySem.Str), ("by_rule" : PySem.Str), ("LeastpullError" : PySem.Str), ("GraphError" : PySem.Str), ("MOST_NODES" : PySem.Str), ("MOST_SOURCES" : PySem.Str), ("GREATEST_WIDTH" : PySem.Str), ("GREATEST_LENGTH" : PySem.Str), ("SOURCE_LENGTH" : PySem.Str), ("_width" : PySem.Str), ("_length" : PySem.Str), ("_widths" : PySem.Str), ("_lengths" : PySem.Str), ("_fault" : PySem.Str), ("Graph" : PySem.Str), ("source_nodes" : PySem.Str), ("calling_nodes" : PySem.Str), ("_merged" : PySem.Str)]
def ls1 : List PySem.Str := [("_scanned" : PySem.Str), ("_accepted" : PySem.Str), ("_windows" : PySem.Str), ("_called" : PySem.Str), ("_plain" : PySem.Str), ("whole_rows" : PySem.Str), ("_law_cell" : PySem.Str), ("_law_row" : PySem.Str), ("_law_draw" : PySem.Str), ("_law_inputs" : PySem.Str), ("_law_width" : PySem.Str), ("_law_length" : PySem.Str), ("_law_drawn_node" : PySem.Str), ("_law_graph" : PySem.Str), ("_law_of_kind" : PySem.Str), ("_law_calling" : PySem.Str), ("_law_values" : PySem.Str), ("_law_rules" : PySem.Str), ("_law_rule" : PySem.Str), ("_law_scanned" : PySem.Str), ("_law_merged" : PySem.Str), ("_law_kept_while" : PySem.Str), ("_law_whole_node" : PySem.Str), ("_law_whole" : PySem.Str)]
def loose : List PySem.Str := ls0 ++ ls1
abbrev hk : PySem.W.Hook := hookL 4 tb its
def ob (s : PySem.W.SharedT) : He.AlD := obsL 4 tb its (HandSHeadRun.getT s)
theorem ob_eq (s : PySem.W.SharedT) : ob s = hk.obs s.abs := obsL_eq (HandSHeadRun.getT_eq s)
theorem run (w : World) : HandSHeadRun.RunEq R (PySem.W.view R.prog [60]) hk ob 20000 loose w := by
  intro os
  kernel_rfl
end k05

namespace k05
open PySem PySem.Spec L2 Lp
def gr1 : List (Nat × Lp.Spec) := [(152, Sp_by_rule), (153, Sp_calling_nodes), (168, Sp_inputs_of), (169, Sp_is_integer), (34, Sp_law_cell), (45, Sp_law_draw), (61, Sp_law_inputs), (92, Sp_law_of_kind), (107, Sp_law_rule), (207, Sp_source_nodes), (146, Sp_u_windows)]
def gr2 : List (Nat × Lp.Spec) := [(174, Sp_is_number), (179, Sp_is_within), (31, Sp_law_calling), (47, Sp_law_drawn_node), (69, Sp_law_kept_while), (73, Sp_law_length), (80, Sp_law_merged), (106, Sp_law_row), (110, Sp_law_scanned), (122, Sp_law_values), (126, Sp_law_width), (0, Sp_u_accepted), (128, Sp_u_length), (130, Sp_u_merged), (134, Sp_u_plain), (139, Sp_u_scanned), (144, Sp_u_width)]
def gr3 : List (Nat × Lp.Spec) := [(59, Sp_law_graph), (108, Sp_law_rules), (125, Sp_law_whole_node), (1, Sp_u_called), (18, Sp_u_is_parameter), (129, Sp_u_lengths), (145, Sp_u_widths)]
def gr4 : List (Nat × Lp.Spec) := [(173, Sp_is_node), (124, Sp_law_whole), (209, Sp_whole_rows)]
def gr5 : List (Nat × Lp.Spec) := [(6, Sp_u_fault)]
def gr6 : List (Nat × Lp.Spec) := [(235, Sp_Graph_init)]
def gr7 : List (Nat × Lp.Spec) := [(181, Sp_law_v3)]
def LL0 : List (List (Nat × Lp.Spec)) := []
def LL1 : List (List (Nat × Lp.Spec)) := gr1 :: LL0
def LL2 : List (List (Nat × Lp.Spec)) := gr2 :: LL1
def LL3 : List (List (Nat × Lp.Spec)) := gr3 :: LL2
def LL4 : List (List (Nat × Lp.Spec)) := gr4 :: LL3
def LL5 : List (List (Nat × Lp.Spec)) := gr5 :: LL4
def LL6 : List (List (Nat × Lp.Spec)) := gr6 :: LL5
def LL7 : List (List (Nat × Lp.Spec)) := gr7 :: LL6
theorem gl_ (L : List (List (Nat × Lp.Spec))) : Gl (gmL tb its L) := glT_of (ns := gcsN) rfl rfl rfl rfl rfl rfl rfl
theorem m_by_rule : H_by_rule (gmL tb its LL1) := by
  haveI := gl_ LL0
  exact ⟨meets_new (L := LL0) (it := it_152) rfl rfl sh_by_rule⟩
theorem m_calling_nodes : H_calling_nodes (gmL tb its LL1) := by
  haveI := gl_ LL0
  exact ⟨meets_new (L := LL0) (it := it_153) rfl rfl sh_calling_nodes⟩
theorem m_inputs_of : H_inputs_of (gmL tb its LL1) := by
  haveI := gl_ LL0
  exact ⟨meets_new (L := LL0) (it := it_168) rfl rfl sh_inputs_of⟩
theorem m_is_integer : H_is_integer (gmL tb its LL1) := by
  haveI := gl_ LL0
  exact ⟨meets_new (L := LL0) (it := it_169) rfl rfl sh_is_integer⟩
theorem m_law_cell : H_law_cell (gmL tb its LL1) := by
  haveI := gl_ LL0
  exact ⟨meets_new (L := LL0) (it := it_34) rfl rfl sh_law_cell⟩
theorem m_law_draw : H_law_draw (gmL tb its LL1) := by
  haveI := gl_ LL0
  exact ⟨meets_new (L := LL0) (it := it_45) rfl rfl sh_law_draw⟩
theorem m_law_inputs : H_law_inputs (gmL tb its LL1) := by
  haveI := gl_ LL0
  exact ⟨meets_new (L := LL0) (it := it_61) rfl rfl sh_law_inputs⟩
theorem m_law_of_kind : H_law_of_kind (gmL tb its LL1) := by
  haveI := gl_ LL0
  exact ⟨meets_new (L := LL0) (it := it_92) rfl rfl sh_law_of_kind⟩
theorem m_law_rule : H_law_rule (gmL tb its LL1) := by
  haveI := gl_ LL0
  exact ⟨meets_new (L := LL0) (it := it_107) rfl rfl sh_law_rule⟩
theorem m_source_nodes : H_source_nodes (gmL tb its LL1) := by
  haveI := gl_ LL0
  exact ⟨meets_new (L := LL0) (it := it_207) rfl rfl sh_source_nodes⟩
theorem m_u_windows : H_u_windows (gmL tb its LL1) := by
  haveI := gl_ LL0
  exact ⟨meets_new (L := LL0) (it := it_146) rfl rfl sh_u_windows⟩
theorem m_is_number : H_is_number (gmL tb its LL2) := by
  haveI := gl_ LL1
  haveI := m_is_integer
  exact ⟨meets_new (L := LL1) (it := it_174) rfl rfl sh_is_number⟩
theorem m_is_within : H_is_within (gmL tb its LL2) := by
  haveI := gl_ LL1
  haveI := m_is_integer
  exact ⟨meets_new (L := LL1) (it := it_179) rfl rfl sh_is_within⟩
theorem m_law_calling : H_law_calling (gmL tb its LL2) := by
  haveI := gl_ LL1
  haveI := m_law_of_kind
  exact ⟨meets_new (L := LL1) (it := it_31) rfl rfl sh_law_calling⟩
theorem m_law_drawn_node : H_law_drawn_node (gmL tb its LL2) := by
  haveI := gl_ LL1
  haveI := m_law_draw
  exact ⟨meets_new (L := LL1) (it := it_47) rfl rfl sh_law_drawn_node⟩
theorem m_law_kept_while : H_law_kept_while (gmL tb its LL2) := by
  haveI := gl_ LL1
  haveI := m_law_rule
  exact ⟨meets_new (L := LL1) (it := it_69) rfl rfl sh_law_kept_while⟩
theorem m_law_length : H_law_length (gmL tb its LL2) := by
  haveI := gl_ LL1
  haveI := m_law_inputs
  exact ⟨meets_new (L := LL1) (it := it_73) rfl rfl sh_law_length⟩
theorem m_law_merged : H_law_merged (gmL tb its LL2) := by
  haveI := gl_ LL1
  haveI := m_law_rule
  exact ⟨meets_new (L := LL1) (it := it_80) rfl rfl sh_law_merged⟩
theorem m_law_row : H_law_row (gmL tb its LL2) := by
  haveI := gl_ LL1
  haveI := m_law_cell
  exact ⟨meets_new (L := LL1) (it := it_106) rfl rfl sh_law_row⟩
theorem m_law_scanned : H_law_scanned (gmL tb its LL2) := by
  haveI := gl_ LL1
  haveI := m_law_rule
  exact ⟨meets_new (L := LL1) (it := it_110) rfl rfl sh_law_scanned⟩
theorem m_law_values : H_law_values (gmL tb its LL2) := by
  haveI := gl_ LL1
  haveI := m_law_draw
  haveI := m_law_of_kind
  exact ⟨meets_new (L := LL1) (it := it_122) rfl rfl sh_law_values⟩
theorem m_law_width : H_law_width (gmL tb its LL2) := by
  haveI := gl_ LL1
  haveI := m_law_inputs
  exact ⟨meets_new (L := LL1) (it := it_126) rfl rfl sh_law_width⟩
theorem m_u_accepted : H_u_accepted (gmL tb its LL2) := by
  haveI := gl_ LL1
  haveI := m_by_rule
  exact ⟨meets_new (L := LL1) (it := it_0) rfl rfl sh_u_accepted⟩
theorem m_u_length : H_u_length (gmL tb its LL2) := by
  haveI := gl_ LL1
  haveI := m_inputs_of
  exact ⟨meets_new (L := LL1) (it := it_128) rfl rfl sh_u_length⟩
theorem m_u_merged : H_u_merged (gmL tb its LL2) := by
  haveI := gl_ LL1
  haveI := m_by_rule
  exact ⟨meets_new (L := LL1) (it := it_130) rfl rfl sh_u_merged⟩
theorem m_u_plain : H_u_plain (gmL tb its LL2) := by
  haveI := gl_ LL1
  haveI := m_u_windows
  exact ⟨meets_new (L := LL1) (it := it_134) rfl rfl sh_u_plain⟩
theorem m_u_scanned : H_u_scanned (gmL tb its LL2) := by
  haveI := gl_ LL1
  haveI := m_by_rule
  exact ⟨meets_new (L := LL1) (it := it_139) rfl rfl sh_u_scanned⟩
theorem m_u_width : H_u_width (gmL tb its LL2) := by
  haveI := gl_ LL1
  haveI := m_inputs_of
  exact ⟨meets_new (L := LL1) (it := it_144) rfl rfl sh_u_width⟩
theorem m_law_graph : H_law_graph (gmL tb its LL3) := by
  haveI := gl_ LL2
  haveI : H_law_draw (gmL tb its LL2) := ⟨meets_old [gr2] rfl rfl m_law_draw.m⟩
  haveI := m_law_drawn_node
  haveI := m_law_width
  haveI := m_law_length
  exact ⟨meets_new (L := LL2) (it := it_59) rfl rfl sh_law_graph⟩
theorem m_law_rules : H_law_rules (gmL tb its LL3) := by
  haveI := gl_ LL2
  haveI : H_law_draw (gmL tb its LL2) := ⟨meets_old [gr2] rfl rfl m_law_draw.m⟩
  haveI := m_law_calling
  exact ⟨meets_new (L := LL2) (it := it_108) rfl rfl sh_law_rules⟩
theorem m_law_whole_node : H_law_whole_node (gmL tb its LL3) := by
  haveI := gl_ LL2
  haveI : H_law_rule (gmL tb its LL2) := ⟨meets_old [gr2] rfl rfl m_law_rule.m⟩
  haveI := m_law_kept_while
  haveI := m_law_scanned
  haveI := m_law_merged
  exact ⟨meets_new (L := LL2) (it := it_125) rfl rfl sh_law_whole_node⟩
theorem m_u_called : H_u_called (gmL tb its LL3) := by
  haveI := gl_ LL2
  haveI : H_by_rule (gmL tb its LL2) := ⟨meets_old [gr2] rfl rfl m_by_rule.m⟩
  haveI := m_u_scanned
  haveI := m_u_merged
  haveI := m_u_accepted
  exact ⟨meets_new (L := LL2) (it := it_1) rfl rfl sh_u_called⟩
theorem m_u_is_parameter : H_u_is_parameter (gmL tb its LL3) := by
  haveI := gl_ LL2
  haveI := m_is_within
  exact ⟨meets_new (L := LL2) (it := it_18) rfl rfl sh_u_is_parameter⟩
theorem m_u_lengths : H_u_lengths (gmL tb its LL3) := by
  haveI := gl_ LL2
  haveI := m_u_length
  exact ⟨meets_new (L := LL2) (it := it_129) rfl rfl sh_u_lengths⟩
theorem m_u_widths : H_u_widths (gmL tb its LL3) := by
  haveI := gl_ LL2
  haveI := m_u_width
  exact ⟨meets_new (L := LL2) (it := it_145) rfl rfl sh_u_widths⟩
theorem m_is_node : H_is_node (gmL tb its LL4) := by
  haveI := gl_ LL3
  haveI : H_is_number (gmL tb its LL3) := ⟨meets_old [gr3] rfl rfl m_is_number.m⟩
  haveI := m_u_is_parameter
  exact ⟨meets_new (L := LL3) (it := it_173) rfl rfl sh_is_node⟩
theorem m_law_whole : H_law_whole (gmL tb its LL4) := by
  haveI := gl_ LL3
  haveI : H_law_of_kind (gmL tb its LL3) := ⟨meets_old [gr3, gr2] rfl rfl m_law_of_kind.m⟩
  haveI : H_law_calling (gmL tb its LL3) := ⟨meets_old [gr3] rfl rfl m_law_calling.m⟩
  haveI : H_law_inputs (gmL tb its LL3) := ⟨meets_old [gr3, gr2] rfl rfl m_law_inputs.m⟩
  haveI := m_law_whole_node
  exact ⟨meets_new (L := LL3) (it := it_124) rfl rfl sh_law_whole⟩
theorem m_whole_rows : H_whole_rows (gmL tb its LL4) := by
  haveI := gl_ LL3
  haveI : H_source_nodes (gmL tb its LL3) := ⟨meets_old [gr3, gr2] rfl rfl m_source_nodes.m⟩
  haveI : H_calling_nodes (gmL tb its LL3) := ⟨meets_old [gr3, gr2] rfl rfl m_calling_nodes.m⟩
  haveI : H_inputs_of (gmL tb its LL3) := ⟨meets_old [gr3, gr2] rfl rfl m_inputs_of.m⟩
  haveI := m_u_called
  haveI : H_u_plain (gmL tb its LL3) := ⟨meets_old [gr3] rfl rfl m_u_plain.m⟩
  exact ⟨meets_new (L := LL3) (it := it_209) rfl rfl sh_whole_rows⟩
theorem m_u_fault : H_u_fault (gmL tb its LL5) := by
  haveI := gl_ LL4
  haveI := m_is_node
  haveI : H_inputs_of (gmL tb its LL4) := ⟨meets_old [gr4, gr3, gr2] rfl rfl m_inputs_of.m⟩
  haveI : H_u_widths (gmL tb its LL4) := ⟨meets_old [gr4] rfl rfl m_u_widths.m⟩
  haveI : H_u_lengths (gmL tb its LL4) := ⟨meets_old [gr4] rfl rfl m_u_lengths.m⟩
  exact ⟨meets_new (L := LL4) (it := it_6) rfl rfl sh_u_fault⟩
theorem m_Graph_init : H_Graph_init (gmL tb its LL6) := by
  haveI := gl_ LL5
  haveI := m_u_fault
  exact ⟨meets_new (L := LL5) (it := it_235) rfl rfl sh_Graph_init⟩
theorem m_law_v3 : H_law_v3 (gmL tb its LL7) := by
  haveI := gl_ LL6
  haveI : H_law_row (gmL tb its LL6) := ⟨meets_old [gr6, gr5, gr4, gr3] rfl rfl m_law_row.m⟩
  haveI : H_law_graph (gmL tb its LL6) := ⟨meets_old [gr6, gr5, gr4] rfl rfl m_law_graph.m⟩
  haveI : H_law_values (gmL tb its LL6) := ⟨meets_old [gr6, gr5, gr4, gr3] rfl rfl m_law_values.m⟩
  haveI : H_law_rules (gmL tb its LL6) := ⟨meets_old [gr6, gr5, gr4] rfl rfl m_law_rules.m⟩
  haveI := m_Graph_init
  haveI : H_whole_rows (gmL tb its LL6) := ⟨meets_old [gr6, gr5] rfl rfl m_whole_rows.m⟩
  haveI : H_law_whole (gmL tb its LL6) := ⟨meets_old [gr6, gr5] rfl rfl m_law_whole.m⟩
  exact ⟨meets_new (L := LL6) (it := it_181) rfl rfl sh_law_v3⟩
theorem top_ (ns : List Int) : ∃ M, (gmL tb its LL7).fn 181 [.arr (ns.map D.int)] [] = .ok (.bl true) M := m_law_v3.m [.arr (ns.map D.int)] [] rfl ⟨⟨ns, rfl⟩, rfl⟩
theorem ar_ : (LL7.all fun g => g.all fun q => match its.lookup q.1 with | some it => decide (q.2.ar = it.ps.length) | none => true) = true := by rfl
theorem nd_ : tb.fls.Nodup := by decide +kernel
theorem ml_ : mflB tb = true := by decide +kernel
end k05
open PySem PySem.W PySem.Calls PyProof.Rows
set_option maxHeartbeats 0 in
theorem PySem.Challenge.cw_leastpull_k05_whole_rows_holds : PySem.Challenge.rw_leastpull_k05_whole_rows.Holds := by
  w_on; o_law
  refine HandSHeadRun.head_any (r := OpenLaw.row PySem.Challenge.rw_leastpull_k05_whole_rows) (q := view (OpenLaw.row PySem.Challenge.rw_leastpull_k05_whole_rows).prog [60]) (H := k05.hk) (ob := k05.ob) (M := 20000) (loose := k05.loose) (d := HandSHeadRun.topDef (OpenLaw.row PySem.Challenge.rw_leastpull_k05_whole_rows).prog 60) (kwd := []) k05.ob_eq
    (by kernel_rfl) (fun s => by kernel_rfl) k05.run (by kernel_rfl) (by kernel_rfl) (by kernel_rfl) (by rfl) (by first | assumption | decide +kernel) (by decide +kernel) ⟨rfl, rfl, rfl, rfl, rfl, by decide +kernel⟩ ?hw ?hc
  case hw => w_witness2
  case hc =>
    exact Lp.law_ends (l := PySem.Challenge.rw_leastpull_k05_whole_rows) (m := 63) (T := k05.tb) (its := k05.its) (x := "_law_script") (y := "law") (L := k05.LL7) (li := 181) (il := k05.it_181) rfl (by decide) (by kernel_rfl) ⟨rfl, by decide, by decide⟩ (by kernel_rfl) k05.nd_ k05.ml_ k05.oks k05.ar_ rfl rfl (by decide) rfl fun ns _ => k05.top_ ns
