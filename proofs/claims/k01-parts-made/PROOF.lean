import PyProof.Rows.All
import Wide.All
import OpenK.AllK
import Wide.FinOn
import HandS.ForMost
import HandS.TupMul
import KE.GoesEnum
import HandS.Wide
import HandS.TupAny
import HandS.Conv
import HandS.Exc
import HandS.ExcOwn
import HandS.Strs
import HandS.SortInts
import HandS.Style
import HandS.Zip
import HandS.Lambda
import HandS.IsInst
import HandS.Deep
import HandS.TupSets
import HandS.More
import HandS.ExcCtx
import KE.KSortedM
import HandS.HotCalls
import HandS.EndTab
import KE.KTryMore
import HandS.ExcIs
import HandS.Defaults
import HandS.EndBits
import PySem.Challenge.RW_gimbalrow_k01_parts_made
set_option Elab.async false
set_option linter.all false
set_option maxRecDepth 100000
set_option maxHeartbeats 8000000
namespace PyD
open PySem PySem.Spec PyProof.Rows L2
theorem tuple_mul1 (l : Addr) (items : Array Value) (n : Nat) (dd : Option Addr) (sl : Array (Option Value)) (u : Tok) :
    Meets (Builtin.«tuple.__mul__» ⟨[.ref l, .int 1 u], []⟩) (fun _ R s => s.heap.get? l = some { cls := .type "tuple", dict := dd, data := .seq items n, slots := sl } ∧ R (.ok (.ret (Value.ref l))) s) :=
  .of_wp fun prog w A R s h => by
    obtain ⟨hp, g, d, tk, os⟩ := s
    obtain ⟨hl, h⟩ := h
    have f1 := AutoSeq1.idx_int
    have c1 : (items.isEmpty || (1 : Int) == 1) = true := by simp
    wp_walk using AutoSeq1.wpAny_loadPart' hl
    repeat (first
      | (refine wpAny_ite_true (decide_eq_true c1) ?_; wp_walk using AutoSeq1.wpAny_loadPart' hl)
      | (refine wpAny_ite_true (by simp) ?_; wp_walk using AutoSeq1.wpAny_loadPart' hl))
    exact ⟨_, rfl, h⟩
def rRep1 (K : PySem.W.Frag) : R2 := fun x y H Q => ∃ l xs, x = .ref l ∧ y = .int 1 ∧ SqT K H l xs ∧ Q (.ref l) H
section
variable {X : Cx}
theorem op_rep1 : OpR X (binaryOp .Mult) (rRep1 X.K) := by
  intro pins s σ H x y v u Q I rx ry h
  obtain ⟨l, xs, rfl, rfl, hT, q⟩ := h
  cases rx
  obtain ⟨t, rfl⟩ := ry
  obtain ⟨its, r, ⟨⟨cls, dd, data, sl⟩, ho, hc, n, hd⟩, hs⟩ := I.tuple hT
  simp only at hc hd
  subst hc hd
  refine wpAny_binaryOp_repeat_ref (T := "tuple") (U := "int") (by decide) ⟨_, ho, rfl⟩ (fun s' => typeIs_int s' 1 t) noFill_tuple_mul F.fills_int_mul F.slot_int_rmul repeat_tuple F.slot_int_index.lookup
    (call_meets F.slot_int_rmul (typeIs_int s 1 t) F.entry_int_rmul (F.args_int_rmul_2 _ _) (int_rmul_tuple 1 t l its.toArray n dd sl)
      ⟨ho, rfl, ⟨_, ho, rfl⟩, call_meets F.slot_tuple_mul ⟨_, ho, rfl⟩ F.entry_tuple_mul (F.args_tuple_mul_2 _ _) (tuple_mul1 l its.toArray n dd sl t) ⟨ho, ?_⟩⟩)
  exact ⟨.ref l, H, I, rfl, q⟩
end
set_option maxHeartbeats 1000000 in
theorem meets_enum1 {v : Value} {o : Obj} {H : Heap → Prop} (B : Begins v o H) :
    Meets (Builtin.«enumerate.__new__» ⟨[.type "enumerate", v], []⟩) (fun _ R s => H s.heap ∧
      R (.ok (.ret (.ref (s.heap.push o).objs.size))) { s with heap := (s.heap.push o).push { cls := .type "enumerate", data := .fields #[.none, .bool false, .ref s.heap.objs.size, rawInt 0, .none, .none] } }) :=
  .of_wp fun prog w A R s h => by
    obtain ⟨hp, g, d, tk, os⟩ := s; obtain ⟨h1, h⟩ := h
    have hsub := sub_enumerate
    have q1 : ∀ {A' : Around} {E : Value → Shared → Prop} {Q : Value → Shared → Prop}, Q (.ref hp.objs.size) ⟨hp.push o, g, d, tk, os⟩ → wpAny (model prog w) A' (pyIter v) Q E ⟨hp, g, d, tk, os⟩ :=
      fun q => B.iter prog w _ _ ⟨hp, g, d, tk, os⟩ _ h1 q
    wp_walk using q1
    refine wpAny_stack_any fun st => wpAny_pure ?_
    split
    · rename_i c _ _ _ _ _
      cases (c == Value.type "enumerate")
      · wp_walk using q1
        exact ⟨_, rfl, h⟩
      · wp_walk using q1
        exact ⟨_, rfl, h⟩
    · wp_walk using q1
      exact ⟨_, rfl, h⟩
section
variable {prog : Program} {w : World} {A : Around} {E : Value → Shared → Prop} {s : Shared}
theorem enum_begins1 {v : Value} {o : Obj} {H : Heap → Prop} {Q : Value → Shared → Prop} (B : Begins v o H) (h1 : H s.heap)
    (h : ∀ h', IsEnum h' (s.heap.objs.size + 1) s.heap.objs.size 0 .none → h'.get? s.heap.objs.size = some o → h'.objs.size = s.heap.objs.size + 2 →
      (∀ b o, s.heap.get? b = some o → h'.get? b = some o) → Q (.ref (s.heap.objs.size + 1)) { s with heap := h' }) :
    wpAny (model prog w) A (call (.type "enumerate") [v]) Q E s := by
  refine callType_new F.called_enumerate (by decide) (F.typeCall_enumerate_1 _) (F.newCall_enumerate_1 _) (fun obj => F.args_object_init_2 obj _) F.entry_enumerate_new
    (meets_enum1 B) ⟨h1, ?_⟩
  have hz : (s.heap.push o).objs.size = s.heap.objs.size + 1 := Heap.size_push ..
  show _ ∧ _
  rw [hz]
  have he : IsEnum ((s.heap.push o).push { cls := .type "enumerate", data := .fields #[.none, .bool false, .ref s.heap.objs.size, rawInt 0, .none, .none] }) (s.heap.objs.size + 1) s.heap.objs.size 0 .none := by
    have := Heap.get?_push_size (s.heap.push o) (o := { cls := .type "enumerate", data := .fields #[.none, .bool false, .ref s.heap.objs.size, rawInt 0, .none, .none] }) rfl
    rw [hz] at this; exact this
  refine ⟨⟨_, he, rfl⟩, h _ he (Heap.get?_push_of_some _ (Heap.get?_push_size _ B.free)) (by rw [Heap.size_push, hz]) fun b o x => Heap.get?_push_of_some _ (Heap.get?_push_of_some _ x)⟩
end
def IteT (K : PySem.W.Frag) (a : Addr) : L2.It :=
  ⟨fun i H => ∃ (xs : List V) (x : V), SqT K H a xs ∧ xs[i]? = some x, fun i H v H' => ∃ T x, v = .ref T ∧ H T = none ∧ H' = upd H T (.tup [.int (i : Nat), x]) ∧ ∀ xs, SqT K H a xs → xs[i]? = some x, fun i H => ∃ xs : List V, SqT K H a xs ∧ xs.length = i⟩
theorem turn_enumT {P : Program} {w : World} {K : PySem.W.Frag} {elts : List Expr} {kk : Nat} {tpos : Pos} (a e it : Addr) (hne : e ≠ it) :
    Turn P w K (.Tuple elts kk tpos) (IteT K a) [e, it] e (fun i h => (∃ old, IsEnum h e it ((i : Nat) : Int) old) ∧ h.IsTupleIter it a i) where
  mem := by simp
  obj := fun i h st b hb => by
    obtain ⟨⟨old, he⟩, ⟨o, ho, hc, hd⟩⟩ := st
    have e' : b = e ∨ b = it := by simpa using hb
    rcases e' with z | z
    · rw [z]; exact ⟨_, he, fun v q => nomatch q⟩
    · rw [z]; exact ⟨o, ho, fun v q => by rw [hd] at q; cases q⟩
  keep := fun i h h' st k => let ⟨⟨old, he⟩, hi⟩ := st; ⟨⟨old, k e (by simp) _ he⟩, hi.at fun o q => k it (by simp) o q⟩
  item := by
    intro X hP hw hK hc i pins s σ H E I hf st hg
    subst hP hw hK
    obtain ⟨⟨old, he⟩, hit⟩ := st
    obtain ⟨xs, x, hq, hx⟩ := hg
    obtain ⟨its, rv, p, hz⟩ := I.tuple hq
    obtain ⟨u, hu, ru⟩ := rv.get hx
    have hel : e < s.heap.objs.size := Heap.lt_size he
    have hil : it < s.heap.objs.size := by obtain ⟨_, q, _⟩ := hit; exact Heap.lt_size q
    have hH : H e = none := (hf e (by simp)).1
    have hHi : H it = none := (hf it (by simp)).1
    have pT : s.heap.IsTuple a its.toArray := p
    have hit' : a ≠ it ∧ a ≠ e := by
      obtain ⟨o, ho, hcls, _⟩ := id hit
      obtain ⟨o2, ho2, hcls2, _⟩ := id pT
      refine ⟨fun z => ?_, fun z => ?_⟩
      · subst z; rw [ho] at ho2; cases ho2; rw [hcls] at hcls2; injection hcls2 with zz; exact absurd zz (by decide)
      · subst z; rw [he] at ho2; cases ho2; injection hcls2 with zz; exact absurd zz (by decide)
    have hiz : i < its.toArray.size := by
      rcases Nat.lt_or_ge i its.length with z | z
      · simpa using z
      · rw [List.getElem?_eq_none z] at hu; cases hu
    refine wpAny_pyNext_enum_itemC (Draws.tuple (A := X.A.in1) (show X.A.in1.handled = none from I.ok.hd hc) it a hit'.1 its.toArray) he ⟨hit, pT⟩ hiz hne (by simp [hne, Ne.symm hit'.2]) fun x' h' tk hP ho hst hT hsz hk => ?_
    have ex : x' = u := by
      have h1 : its.toArray[i]? = some x' := hP
      rw [show its.toArray[i]? = some u by simpa using hu] at h1
      exact (Option.some.inj h1).symm
    subst ex
    refine ⟨_, rfl, wpAny_letOwnedTupleGo_enum (s := { s with heap := h', toks := tk + 1 }) ho fun h'' he' sb => ?_⟩
    have hT2 : h''.get? s.heap.objs.size = some { cls := .type "tuple", data := .seq #[.int i tk, x'] } := (sb.2 _ (Nat.ne_of_gt hel)).trans hT
    have new : ObjOk X.prog X.w (upd H s.heap.objs.size (.tup [.int (i : Nat), x])) h'' s.heap.objs.size (.tup [.int (i : Nat), x]) :=
      ⟨by show 2 ≤ sizeLine; decide, [.int i tk, x'], .cons ⟨_, rfl⟩ (.cons ru .nil), ⟨_, hT2, rfl, _, rfl⟩⟩
    have I1 : L2.Inv X pins σ (upd H s.heap.objs.size (.tup [.int (i : Nat), x])) { s with heap := h'', toks := tk + 1 } :=
      I.turnedNew (ch := [e, it]) (fun b ob hb q => (sb.2 b (fun z => hb (by simp [z]))).trans (hk b ob (fun z => hb (by simp [z])) (fun z => hb (by simp [z])) q)) hf (Nat.le_refl _) new
    refine ⟨.ref s.heap.objs.size, _, I1, rfl, ⟨_, x, rfl, I.hok.fresh (Nat.le_refl _), rfl, fun ys hy => by rw [I.tuple_inj hy hq]; exact hx⟩, ⟨⟨x', ?_⟩, hst.1.at fun o q => (sb.2 it (Ne.symm hne)).trans q⟩, fun b hb => ?_⟩
    · have e1 : ((i + 1 : Nat) : Int) = (i : Int) + 1 := by omega
      rw [e1]; exact he'
    · have hb' : b < s.heap.objs.size := by
        have e' : b = e ∨ b = it := by simpa using hb
        rcases e' with z | z
        · rw [z]; exact hel
        · rw [z]; exact hil
      rw [upd_ne (Nat.ne_of_lt hb')]
      exact (hf b hb).1
  done := by
    intro X hP hw hK hc i pins s σ H E I hf st hg
    subst hP hw hK
    obtain ⟨⟨old, he⟩, hit⟩ := st
    obtain ⟨xs, hq, hx⟩ := hg
    obtain ⟨its, rv, p, hz⟩ := I.tuple hq
    obtain ⟨f0, f1, f2, f3, f4, f5⟩ := hf it (by simp)
    have hl := rv.length
    have pT : s.heap.IsTuple a its.toArray := p
    have hit' : a ≠ it := by
      obtain ⟨o, ho, hcls, _⟩ := id hit
      obtain ⟨o2, ho2, hcls2, _⟩ := id pT
      intro z
      subst z; rw [ho] at ho2; cases ho2; rw [hcls] at hcls2; injection hcls2 with zz; exact absurd zz (by decide)
    have hin : i = its.toArray.size := by simp; omega
    subst hin
    exact wpAny_pyNext_enum_endD (Draws.tuple (A := X.A.in1) (show X.A.in1.handled = none from I.ok.hd hc) it a hit' its.toArray) he ⟨hit, pT⟩ fun h' eb => ⟨rfl, I.turned (t' := s.toks) (fun b o hb q => eb b o hb q) f0 f1 f3 f4 f5⟩
  self := fun A i s Q E st h => let ⟨⟨_, he⟩, _⟩ := st; wpAny_pyIter_enum he h
def iEnumT (K : PySem.W.Frag) (ta : TA) : TI := fun σ H R => ta σ H fun vs H1 => ∃ a xs, vs = [.ref a] ∧ SqT K H1 a xs ∧ R (IteT K a) H1
theorem pi_enumT {X : Cx} {e : Expr} {ta : TA} {p pos tpos : Pos} {elts : List Expr} {kk : Nat} (hg : Gl X "enumerate") (hm : X.mg "enumerate" = none) (ha : PA X [e] ta) (hs : starEach [e] X.env = [(false, eval e X.env)] := by rfl) :
    PI X (.Tuple elts kk tpos) (.Call (.Name "enumerate" p) [e] [] pos) (iEnumT X.K ta) := by
  refine ⟨fun pins s σ H R I h => ?_⟩
  refine Call_ (ld_blt I hg hm boot_enumerate (PyProof.Rows.callWith_type1 (thn (ha.run pos pins s σ H _ I h) fun us s1 ⟨vs, H1, I1, r1, q1⟩ => ?_) hs rfl))
  obtain ⟨a, xs, ex, hq, q⟩ := q1
  subst ex
  cases r1 with
  | cons r rr =>
    cases rr
    cases r
    obtain ⟨its, rv, p', hz⟩ := I1.tuple hq
    refine enum_begins1 (begins_tuple a its.toArray) p' fun h' he ho hsz hk => wpAny_pyIter_enum he ?_
    have I2 : L2.Inv X pins σ H1 { s1 with heap := h' } := I1.kept (t' := s1.toks) hk
    refine ⟨s1.heap.objs.size + 1, [s1.heap.objs.size + 1, s1.heap.objs.size], _, _, H1, rfl, I2, turn_enumT a (s1.heap.objs.size + 1) s1.heap.objs.size (Nat.succ_ne_self _), ⟨⟨.none, he⟩, ⟨_, ho, rfl, rfl⟩⟩, fun b hb => ?_, q⟩
    have e' : b = s1.heap.objs.size + 1 ∨ b = s1.heap.objs.size := by simpa using hb
    have hle : s1.heap.objs.size ≤ b := by
      rcases e' with z | z
      · rw [z]; exact Nat.le_add_right _ _
      · rw [z]; exact Nat.le_refl _
    exact I1.fpOk hle (I1.hok.fresh hle)
end PyD

namespace PyD
open PySem
inductive D where
  | non | bl (b : Bool) | int (i : Int) | str (s : Str) | tup (xs : List D) | lst (xs : List D) | ref (n : Nat)
  | fn (f : Str) | exc (c : Str) (fs : List D) | scr (is : List Int)
inductive O where
  | lst (xs : List D) | dct (ks : List L2.Key) (vs : List D) | ins (c : Str) (fs : List Str) (vs : List D)
abbrev Store := List O
abbrev Ro := List (Option D)
structure Exn where
  cls : Str
  fs : List D
inductive R (α : Type) where
  | ok (a : α) (S : Store) | err (x : Exn) (S : Store) | bad
def R.bd {α β : Type} : R α → (α → Store → R β) → R β
  | .ok a S, f => f a S
  | .err x S, _ => .err x S
  | .bad, _ => .bad
theorem R.bd_ok {α β : Type} (a : α) (S : Store) (f : α → Store → R β) : (R.ok a S).bd f = f a S := rfl
theorem R.bd_err {α β : Type} (x : Exn) (S : Store) (f : α → Store → R β) : (R.err x S : R α).bd f = .err x S := rfl
theorem R.bd_bad {α β : Type} (f : α → Store → R β) : (R.bad : R α).bd f = .bad := rfl
def R.ne {α : Type} : R α → R α
  | .err _ _ => .bad
  | r => r
theorem R.ne_ok {α : Type} (a : α) (S : Store) : (R.ok a S).ne = .ok a S := rfl
theorem R.ne_bad {α : Type} : (R.bad : R α).ne = .bad := rfl
theorem R.ne_err {α : Type} (x : Exn) (S : Store) : (R.err x S : R α).ne = .bad := rfl
def opt {α : Type} (o : Option α) (S : Store) : R α := match o with
  | some a => .ok a S
  | none => .bad
theorem opt_some {α : Type} (a : α) (S : Store) : opt (some a) S = .ok a S := rfl
theorem opt_none {α : Type} (S : Store) : opt (none : Option α) S = .bad := rfl

inductive Bo where | add | sub | mul | fdiv | mod | pow
inductive Co where | lt | le | gt | ge | eq | ne
inductive Bi where | len | abs | tuple | all | any
inductive Ty where | list | tuple | bool | int | str | seq
inductive Me where | app | pop | ext | idx | clr
inductive Tg where | one (i : Nat) | many (is : List Nat)
inductive Ar where | p (i : Nat) | k (i : Nat) | d (d : D)
mutual
inductive E where
  | var (i : Nat) | non | bl (b : Bool) | int (i : Int) | str (s : Str) | glob (x : Str)
  | bin (o : Bo) (a b : E) | neg (a : E)
  | cmp (o : Co) (a b : E) | inn (neg : Bool) (a b : E) | isn (a : E) | ntn (a : E)
  | chain (o p : Co) (a b c : E)
  | and (es : Es) | or (es : Es) | not (a : E) | ite (c a b : E)
  | tup (es : Es) | new (own : Bool) (l : L)
  | idx (a i : E) | sl (a lo hi : E)
  | call (raw : Bool) (f : Str) (es : Es)
  | callk (raw : Bool) (f : Str) (es : Es) (ks : List Str) (kes : Es) (arr : List Ar)
  | bi (b : Bi) (e : E) | trng (es : Es)
  | me (m : Me) (o : E) (es : Es)
  | isa (t : Ty) (a : E) | isx (c : Str) (a : E) | exf (a : E) (f : Str) | tried (a : E)
inductive Es where
  | nil | cons (e : E) (es : Es)
inductive L where
  | disp (es : Es) | cat (a b : E)
  | comp (own : List (Str × Nat)) (tg : Tg) (it : I) (cond : Es) (elt : E)
  | list (e : E) | rng (es : Es) | sorted (e : E)
inductive I where
  | seq (e : E) | rng (es : Es) | enum (e : E) | zip (a b : E) | zipl (a b : E)
end
mutual
inductive C where
  | skip | set (i : Nat) (e : E) | stg (tg : List Nat) (e : E) | par (is : List Nat) (es : Es)
  | six (o i e : E) | aug (i : Nat) (o : Bo) (e : E) | ex (e : E) | ret (e : E) | retN
  | iff (c : E) (a b : Cs) | whl (c : E) (a : Cs) | fr (tg : Tg) (it : I) (a : Cs) | brk | cnt | never
  | raise (c : Str) (es : Es) | tryx (b : Cs) (hs : Hs)
inductive Cs where
  | nil | cons (c : C) (cs : Cs)
inductive Hs where
  | nil | cons (cs : List Str) (nm : Option Nat) (b : Cs) (hs : Hs)
end
structure Fn where
  np : Nat
  nl : Nat
  drop : Bool
  body : Cs

abbrev E.app (o e : E) : E := .me .app o (.cons e .nil)
abbrev E.pop (o i : E) : E := .me .pop o (.cons i .nil)
def intMulOk (i j : Int) : Prop := i.natAbs.log2 + j.natAbs.log2 < 1000000
def intDivOk (j : Int) : Prop := 0 < j ∧ j.natAbs.log2 < 9000
def sizeOk (n : Nat) : Prop := n ≤ 100000
noncomputable section
open Classical
def need (p : Prop) {α : Type} (o : Option α) : Option α := if p then o else none
theorem need_some {p : Prop} {α : Type} {o : Option α} {a : α} (h : need p o = some a) : p ∧ o = some a := by
  unfold need at h; split at h
  · exact ⟨by assumption, h⟩
  · cases h
theorem need_of {p : Prop} {α : Type} {o : Option α} (h : p) : need p o = o := if_pos h
def lstOf (S : Store) : D → Option (List D)
  | .lst xs => some xs
  | .ref n => match S[n]? with
    | some (.lst xs) => some xs
    | _ => none
  | _ => none
def seqOf (S : Store) : D → Option (List D)
  | .tup xs => some xs
  | .lst xs => some xs
  | .ref n => lstOf S (.ref n)
  | _ => none
def keyD : D → Option L2.Key
  | .int i => some (.inl i)
  | .str s => some (.inr s)
  | _ => none
def dctOf (S : Store) : D → Option (List L2.Key × List D)
  | .ref n => match S[n]? with
    | some (.dct ks vs) => some (ks, vs)
    | _ => none
  | _ => none
def dget : List L2.Key → List D → L2.Key → Option D
  | k :: ks, v :: vs, j => if k = j then some v else dget ks vs j
  | _, _, _ => none
def hasK (ks : List L2.Key) (k : L2.Key) : Bool := ks.any fun j => decide (j = k)
def dput (ks : List L2.Key) (vs : List D) (k : L2.Key) (x : D) : List L2.Key × List D :=
  if hasK ks k = true then (ks, (ks.zip vs).map fun p => if p.1 = k then x else p.2) else (ks ++ [k], vs ++ [x])
def catL (S : Store) (x y : D) : Option (List D) := match lstOf S x, lstOf S y with
  | some xs, some ys => need (sizeOk (xs.length + ys.length)) (some (xs ++ ys))
  | _, _ => none
def bin (S : Store) (o : Bo) (x y : D) : Option D := match o, x, y with
  | .add, .int i, .int j => some (.int (i + j))
  | .sub, .int i, .int j => some (.int (i - j))
  | .mul, .int i, .int j => need (intMulOk i j) (some (.int (i * j)))
  | .fdiv, .int i, .int j => need (intDivOk j) (some (.int (i / j)))
  | .mod, .int i, .int j => need (0 < j) (some (.int (i % j)))
  | .pow, .int i, .int j => need (0 ≤ j ∧ j ≤ 1000000 ∧ i.natAbs < 2 ^ 64) (some (.int (i ^ j.toNat)))
  | .add, .tup xs, .tup ys => need (sizeOk (xs.length + ys.length)) (some (.tup (xs ++ ys)))
  | .mul, .tup xs, .int j => need (1 ≤ j ∧ j ≤ 1000 ∧ xs ≠ [] ∧ xs.length ≤ 1000) (some (.tup (List.replicate j.toNat xs).flatten))
  | .add, .str a, .str b => need (sizeOk (a.length + b.length)) (some (.str (a ++ b)))
  | .add, x, y => (catL S x y).map .lst
  | .mul, x, .int j => (lstOf S x).bind fun xs => need (0 ≤ j ∧ j ≤ 1000 ∧ xs.length ≤ 1000) (some (.lst (List.replicate j.toNat xs).flatten))
  | _, _, _ => none
mutual
def D.pd : D → Option PyData
  | .non => some .none
  | .bl b => some (.bool b)
  | .int i => some (.int i)
  | .str s => some (.str s)
  | .tup xs => (D.pds xs).map .tuple
  | .lst xs => (D.pds xs).map .list
  | .ref _ => none
  | .fn _ => none
  | .exc _ _ => none
  | .scr _ => none
def D.pds : List D → Option (List PyData)
  | [] => some []
  | x :: xs => match D.pd x, D.pds xs with
    | some p, some ps => some (p :: ps)
    | _, _ => none
end
def pdS (S : Store) : D → Option PyData
  | .ref n => match S[n]? with
    | some (.lst xs) => (D.pds xs).map .list
    | _ => none
  | d => d.pd
def eqD (S : Store) (x y : D) : Option Bool := match pdS S x, pdS S y with
  | some p, some q => need (SeqAt.shaped p = true ∧ SeqAt.shaped q = true) (some (PyData.eqv p q))
  | _, _ => none
def cmp (S : Store) (o : Co) (x y : D) : Option Bool := match o, x, y with
  | .lt, .int i, .int j => some (decide (i < j))
  | .le, .int i, .int j => some (decide (i ≤ j))
  | .gt, .int i, .int j => some (decide (j < i))
  | .ge, .int i, .int j => some (decide (j ≤ i))
  | .eq, x, y => eqD S x y
  | .ne, x, y => (eqD S x y).map not
  | _, _, _ => none
def truth (S : Store) : D → Option Bool
  | .non => some false
  | .bl b => some b
  | .int i => some (i != 0)
  | .tup xs => some (!xs.isEmpty)
  | .lst xs => some (!xs.isEmpty)
  | .ref n => (lstOf S (.ref n)).map fun xs => !xs.isEmpty
  | .str _ => none
  | .fn _ => none
  | .exc _ _ => none
  | .scr _ => none
def isNon : D → Bool
  | .non => true
  | _ => false
def idxD (S : Store) : D → D → Option D
  | .tup xs, .int i => L2.atI xs i
  | .lst xs, .int i => L2.atI xs i
  | .ref n, k => match S[n]? with
    | some (.lst xs) => match k with
      | .int i => L2.atI xs i
      | _ => none
    | some (.dct ks vs) => (keyD k).bind (dget ks vs)
    | _ => none
  | _, _ => none
def ofI : D → Option (Option Int)
  | .int i => some (some i)
  | _ => none
def E.isNon : E → Bool
  | .non => true
  | _ => false
def cut (xs : List D) (lo hi : Option Int) : List D := (xs.drop (HT.sIx xs.length 0 lo)).take (HT.sIx xs.length xs.length hi - HT.sIx xs.length 0 lo)
def slD (S : Store) (x : D) (l h : Option Int) : Option D := match x with
  | .tup xs => some (.tup (cut xs l h))
  | .lst xs => some (.lst (cut xs l h))
  | .scr xs => some (.lst (cut (xs.map .int) l h))
  | .ref n => (lstOf S (.ref n)).map fun xs => .lst (cut xs l h)
  | _ => none
def isaD (S : Store) (t : Ty) (d : D) : Option Bool := match t, d with
  | .list, .lst _ => some true
  | .seq, .lst _ => some true
  | .list, .ref n => (lstOf S (.ref n)).map fun _ => true
  | .seq, .ref n => (lstOf S (.ref n)).map fun _ => true
  | _, .ref n => (lstOf S (.ref n)).map fun _ => false
  | _, .fn _ => none
  | _, .exc _ _ => none
  | _, .scr _ => none
  | .tuple, .tup _ => some true
  | .seq, .tup _ => some true
  | .bool, .bl _ => some true
  | .int, .bl _ => some true
  | .int, .int _ => some true
  | .str, .str _ => some true
  | _, _ => some false
def allBl : List D → Option (List Bool)
  | [] => some []
  | .bl b :: r => (allBl r).map (b :: ·)
  | _ :: _ => none
def allInt : List D → Option (List Int)
  | [] => some []
  | .int i :: r => (allInt r).map (i :: ·)
  | _ :: _ => none
def biD (S : Store) (b : Bi) (x : D) : Option D := match b, x with
  | .abs, .int i => some (.int (if i < 0 then -i else i))
  | .len, .str s => need (sizeOk s.length) (some (.int s.length))
  | .len, x => (seqOf S x).map fun xs => .int xs.length
  | .tuple, .tup xs => some (.tup xs)
  | .tuple, x => (lstOf S x).map .tup
  | .all, x => ((lstOf S x).bind allBl).map fun bs => .bl (bs.all id)
  | .any, x => ((lstOf S x).bind allBl).map fun bs => .bl (bs.any id)
  | _, _ => none
def rngD : List D → Option (Int × Nat)
  | [.int j] => need (-(2 ^ 62) ≤ j ∧ j < 2 ^ 62) (some (0, j.toNat))
  | [.int i, .int j] => need (-(2 ^ 62) ≤ i ∧ i < 2 ^ 62 ∧ -(2 ^ 62) ≤ j ∧ j < 2 ^ 62) (some (i, (j - i).toNat))
  | _ => none
def upTo (lo : Int) (n : Nat) : List D := (List.range n).map fun k => .int (lo + (k : Nat))
structure It where
  items : List D
  src : List (Nat × List D)
def It.still (t : It) (S : Store) : Prop := ∀ p ∈ t.src, S[p.1]? = some (.lst p.2)
def seqIt (S : Store) : D → Option It
  | .tup xs => some ⟨xs, []⟩
  | .lst xs => some ⟨xs, []⟩
  | .ref n => (lstOf S (.ref n)).map fun xs => ⟨xs, [(n, xs)]⟩
  | _ => none
def isTup : D → Bool
  | .tup _ => true
  | _ => false
def zipL (S : Store) (x y : D) : R It := if isTup x = false ∧ isTup y = false then
    match seqIt S x, seqIt S y with
    | some t, some u => .ok ⟨(t.items.zip u.items).map fun p => .tup [p.1, p.2], t.src ++ u.src⟩ S
    | _, _ => .bad
  else .bad
def enumAt : Nat → List D → List D
  | _, [] => []
  | k, x :: xs => .tup [.int (k : Nat), x] :: enumAt (k + 1) xs
def setTg (tg : Tg) (d : D) (ρ : Ro) : Option Ro := match tg, d with
  | .one i, d => some (ρ.set i (some d))
  | .many is, .tup xs => need (xs.length = is.length) (some ((is.zip xs).foldl (fun ρ p => ρ.set p.1 (some p.2)) ρ))
  | _, _ => none
def wipe (ρ : Ro) : List Nat → Ro
  | [] => ρ
  | v :: vs => (wipe ρ vs).set v none
def arrange (ps ks : List D) : List Ar → Option (List D)
  | [] => some []
  | .p i :: r => match ps[i]?, arrange ps ks r with
    | some x, some xs => some (x :: xs)
    | _, _ => none
  | .k i :: r => match ks[i]?, arrange ps ks r with
    | some x, some xs => some (x :: xs)
    | _, _ => none
  | .d x :: r => (arrange ps ks r).map (x :: ·)
def insSort : List Int → List Int := fun l => l.mergeSort (· ≤ ·)
def leS (a b : Str) : Bool := !Spec.ltCps b.cps.toList a.cps.toList
def sortS (ss : List Str) : List Str := ss.mergeSort leS
def lexLe : List Int → List Int → Bool
  | [], _ => true
  | _ :: _, [] => false
  | p :: ns, q :: ms => decide (p < q) || (decide (p = q) && lexLe ns ms)
def sortT (ls : List (List Int)) : List (List Int) := ls.mergeSort lexLe
def allStr : List D → Option (List Str)
  | [] => some []
  | .str s :: r => (allStr r).map (s :: ·)
  | _ :: _ => none
def allRow : List D → Option (List (List Int))
  | [] => some []
  | .tup xs :: r => match allInt xs, allRow r with
    | some ns, some ls => some (ns :: ls)
    | _, _ => none
  | _ :: _ => none
def allKeyS : List L2.Key → Option (List Str)
  | [] => some []
  | .inr s :: r => (allKeyS r).map (s :: ·)
  | _ :: _ => none
def oneLen (d : Nat) (ls : List (List Int)) : Bool := ls.all fun l => l.length == d
def sortL (xs : List D) : Option (List D) := match allInt xs with
  | some ns => some ((insSort ns).map .int)
  | none => match allStr xs with
    | some ss => need (ss.length < 64) (some ((sortS ss).map .str))
    | none => match allRow xs with
      | some (l :: ls) => need (ls.length < 63 ∧ 1 ≤ l.length ∧ oneLen l.length ls = true) (some ((sortT (l :: ls)).map fun l => .tup (l.map .int)))
      | _ => none
def sortD (S : Store) (x : D) : Option (List D) := match dctOf S x with
  | some (ks, _) => (allKeyS ks).bind fun ss => need (ss.length < 64) (some ((sortS ss).map .str))
  | none => (lstOf S x).bind sortL
def listMt (S : Store) (n : Nat) (f : List D → Option (D × List D)) : R D := match S[n]? with
  | some (.lst xs) => match f xs with
    | some (d, ys) => .ok d (S.set n (.lst ys))
    | none => .bad
  | _ => .bad
def popAt (xs : List D) (i : Int) : Option (D × List D) := match seqIndex? i xs.length with
  | some k => match xs[k]? with
    | some x => need (-(2 ^ 63) ≤ i ∧ i < 2 ^ 63) (some (x, xs.eraseIdx k))
    | none => none
  | none => none

def flatD : D → Bool
  | .non => true
  | .bl _ => true
  | .int _ => true
  | .str _ => true
  | _ => false
def eqF : D → D → Bool
  | .non, .non => true
  | .bl a, .bl b => a == b
  | .bl a, .int b => (if a then 1 else 0) == b
  | .int a, .bl b => a == (if b then 1 else 0)
  | .int a, .int b => a == b
  | .str a, .str b => a == b
  | _, _ => false
def inD (S : Store) (x y : D) : Option Bool := match y with
  | .str b => match x with
    | .str a => some (!(Builtin.Str.occurrences b a 0 b.length 1).isEmpty)
    | _ => none
  | .tup ys => if flatD x && ys.all flatD then some (ys.any fun z => eqF z x) else none
  | y => match dctOf S y with
    | some (ks, _) => (keyD x).map fun k => hasK ks k
    | none => match lstOf S y with
      | some ys => if flatD x && ys.all flatD then some (ys.any fun z => eqF z x) else match pdS S x, D.pds ys with
        | some d, some ds => need (SeqAt.shaped d = true ∧ SeqAt.shaped (.list ds) = true) (some (ds.any fun z => PyData.eqv z d))
        | _, _ => none
      | none => none
def isLr (S : Store) : D → Bool
  | .ref n => match S[n]? with
    | some (.lst _) => true
    | _ => false
  | _ => false
def meT : Me → Store → D → Bool
  | .app, S, x => isLr S x
  | .pop, S, x => isLr S x
  | .ext, S, x => isLr S x
  | .clr, S, x => isLr S x
  | .idx, S, x => (seqOf S x).isSome
def idxF (y : D) (xs : List D) : Option D := if flatD y && xs.all flatD then (xs.findIdx? fun z => eqF z y).map fun j => .int (j : Nat) else none
def meD (m : Me) (S : Store) (x : D) (ds : List D) : R D := match m, x, ds with
  | .app, .ref n, [y] => listMt S n fun xs => need (sizeOk (xs.length + 1)) (some (.non, xs ++ [y]))
  | .pop, .ref n, [.int i] => listMt S n fun xs => popAt xs i
  | .ext, .ref n, [y] => match lstOf S y with
    | some ys => listMt S n fun xs => need (sizeOk (xs.length + ys.length)) (some (.non, xs ++ ys))
    | none => .bad
  | .clr, .ref n, [] => listMt S n fun _ => some (.non, [])
  | .idx, x, [y] => opt ((seqOf S x).bind (idxF y)) S
  | _, _, _ => .bad
def parX (c : Str) : Str :=
  if (["BadPart", "BadTurn", "BadRow", "BadMotion", "BadAxes", "BadBody", "BadText", "BadName", "BadHelper", "BadColumn", "BadWorth", "BadWay", "BadPage"] : List Str).contains c then "GimbalError"
  else if (["NoGauge", "NoMounting", "NoHelper", "NoRoll", "NoRow", "NoColumn", "Taken", "Full", "Nothing", "Apart", "Misfit", "Torn", "Used", "Unfit"] : List Str).contains c then "BookError" else if c = "GimbalError" then "ValueError" else if c = "BookError" then "LookupError" else ""
def subX (c d : Str) : Bool := c == d || parX c == d || parX (parX c) == d
def fldX (c : Str) : List Str := if c = "BadPage" then ["row"] else if c = "Torn" then ["steps"] else if c = "Used" then ["by"] else if c = "Unfit" then ["verdict"] else if c = "Halt" then ["word"] else []
def excF (d : D) (f : Str) : Option D := match d with
  | .exc c fs => (((fldX c).zip fs).find? fun p => p.1 == f).map (·.2)
  | _ => none
def isxD (c : Str) (d : D) : Option Bool := match d with
  | .exc k _ => some (subX k c)
  | _ => none
structure G where
  call : Str → List D → Store → R D
  raw : Str → List D → Store → R D
  glob : Str → Option D
variable (g : G)
def kbG (c : Str) : Bool := match g.glob c with
  | some (.exc _ _) => true
  | _ => false
def triedR (kb : Str → Bool) (r : R D) : R D := match r with
  | .ok d S1 => .ok (.tup [.str "told", d]) S1
  | .err x S1 => if x.fs.isEmpty = true ∧ kb x.cls = true then .ok (.tup [.str x.cls]) S1 else .bad
  | .bad => .bad
def compLoop (t : It) (tg : Tg) (cond : Ro → Store → R Bool) (elt : Ro → Store → R D) (ρ : Ro) : List D → List D → Store → R (List D)
  | [], acc, S => if t.still S then .ok acc S else .bad
  | x :: xs, acc, S => if t.still S then
      match setTg tg x ρ with
      | none => .bad
      | some ρ1 => (cond ρ1 S).bd fun b S1 => if b = true then
          (elt ρ1 S1).bd fun y S2 => if sizeOk (acc.length + 1) then compLoop t tg cond elt ρ xs (acc ++ [y]) S2 else .bad
        else compLoop t tg cond elt ρ xs acc S1
    else .bad
mutual
def evE (ρ : Ro) (e : E) (S : Store) : R D := match e with
  | .var i => opt (ρ.getD i none) S
  | .non => .ok .non S
  | .bl b => .ok (.bl b) S
  | .int i => .ok (.int i) S
  | .str x => .ok (.str x) S
  | .glob x => opt (g.glob x) S
  | .bin o a b => (evE ρ a S).bd fun x S1 => (evE ρ b S1).bd fun y S2 => opt (bin S2 o x y) S2
  | .neg a => (evE ρ a S).bd fun x S1 => match x with
    | .int i => .ok (.int (-i)) S1
    | _ => .bad
  | .cmp o a b => (evE ρ a S).bd fun x S1 => (evE ρ b S1).bd fun y S2 => opt ((cmp S2 o x y).map .bl) S2
  | .inn neg a b => (evE ρ a S).bd fun x S1 => (evE ρ b S1).bd fun y S2 => opt ((inD S2 x y).map fun b => .bl (b != neg)) S2
  | .isn a => (evE ρ a S).bd fun x S1 => .ok (.bl (isNon x)) S1
  | .ntn a => (evE ρ a S).bd fun x S1 => .ok (.bl (!isNon x)) S1
  | .chain o p a b c => (evE ρ a S).bd fun x S1 => (evE ρ b S1).bd fun y S2 => match cmp S2 o x y with
    | some true => (evE ρ c S2).bd fun z S3 => opt ((cmp S3 p y z).map .bl) S3
    | some false => .ok (.bl false) S2
    | none => .bad
  | .and es => evAnd ρ es S
  | .or es => evOr ρ es S
  | .not a => (evE ρ a S).bd fun x S1 => match x with
    | .bl b => .ok (.bl (!b)) S1
    | _ => .bad
  | .ite c a b => (evE ρ c S).bd fun x S1 => match truth S1 x with
    | some true => evE ρ a S1
    | some false => evE ρ b S1
    | none => .bad
  | .tup es => (evEs ρ es S).bd fun ds S1 => if sizeOk ds.length then .ok (.tup ds) S1 else .bad
  | .new own l => (evL ρ l S).bd fun ds S1 => if own = true then .ok (.ref S1.length) (S1 ++ [.lst ds]) else .ok (.lst ds) S1
  | .idx a i => (evE ρ a S).bd fun x S1 => (evE ρ i S1).bd fun y S2 => opt (idxD S2 x y) S2
  | .sl a lo hi => (evE ρ a S).bd fun x S1 => (if lo.isNon = true then .ok none S1 else (evE ρ lo S1).bd fun d S2 => opt (ofI d) S2).bd fun l S2 =>
      (if hi.isNon = true then .ok none S2 else (evE ρ hi S2).bd fun d S3 => opt (ofI d) S3).bd fun h S3 => opt (slD S3 x l h) S3
  | .call raw f es => (evEs ρ es S).bd fun ds S1 => if raw = true then g.raw f ds S1 else g.call f ds S1
  | .callk raw f es _ kes arr => (evEs ρ es S).bd fun ds S1 => (evEs ρ kes S1).bd fun ks S2 => match arrange ds ks arr with
    | some as => if raw = true then g.raw f as S2 else g.call f as S2
    | none => .bad
  | .bi b e => (evE ρ e S).bd fun x S1 => opt (biD S1 b x) S1
  | .isa t e => (evE ρ e S).bd fun x S1 => opt ((isaD S1 t x).map .bl) S1
  | .isx c e => (evE ρ e S).bd fun x S1 => opt ((isxD c x).map .bl) S1
  | .exf e f => (evE ρ e S).bd fun x S1 => opt (excF x f) S1
  | .tried e => triedR (kbG g) (evE ρ e S)
  | .trng es => (evEs ρ es S).bd fun ds S1 => opt ((rngD ds).bind fun p => need (sizeOk p.2) (some (.tup (upTo p.1 p.2)))) S1
  | .me m o es => (evE ρ o S).bd fun x S1 => if meT m S1 x = true then (evEs ρ es S1).bd fun ds S2 => meD m S2 x ds else .bad
def evEs (ρ : Ro) (es : Es) (S : Store) : R (List D) := match es with
  | .nil => .ok [] S
  | .cons e es => (evE ρ e S).bd fun d S1 => (evEs ρ es S1).bd fun ds S2 => .ok (d :: ds) S2
def evAnd (ρ : Ro) (es : Es) (S : Store) : R D := match es with
  | .nil => .bad
  | .cons e es => match es with
    | .nil => evE ρ e S
    | .cons _ _ => (evE ρ e S).bd fun x S1 => match x with
      | .bl true => evAnd ρ es S1
      | .bl false => .ok (.bl false) S1
      | _ => .bad
def evOr (ρ : Ro) (es : Es) (S : Store) : R D := match es with
  | .nil => .bad
  | .cons e es => match es with
    | .nil => evE ρ e S
    | .cons _ _ => (evE ρ e S).bd fun x S1 => match x with
      | .bl true => .ok (.bl true) S1
      | .bl false => evOr ρ es S1
      | _ => .bad
def evL (ρ : Ro) (l : L) (S : Store) : R (List D) := match l with
  | .disp es => (evEs ρ es S).bd fun ds S1 => if sizeOk ds.length then .ok ds S1 else .bad
  | .cat a b => (evE ρ a S).bd fun x S1 => (evE ρ b S1).bd fun y S2 => opt (catL S2 x y) S2
  | .comp own tg it cond elt => (evI ρ it S).bd fun t S1 =>
      compLoop t tg (fun ρ1 S => match cond with
        | .nil => .ok true S
        | .cons c _ => ((evE ρ1 c S).bd fun d S1 => opt (truth S1 d) S1).ne) (fun ρ1 S => (evE ρ1 elt S).ne) (wipe ρ (own.map (·.2))) t.items [] S1
  | .list e => (evE ρ e S).bd fun x S1 => opt (seqOf S1 x) S1
  | .rng es => (evEs ρ es S).bd fun ds S1 => opt ((rngD ds).bind fun p => need (sizeOk p.2) (some (upTo p.1 p.2))) S1
  | .sorted e => (evE ρ e S).bd fun x S1 => opt (sortD S1 x) S1
def evI (ρ : Ro) (it : I) (S : Store) : R It := match it with
  | .seq e => (evE ρ e S).bd fun x S1 => opt (seqIt S1 x) S1
  | .rng es => (evEs ρ es S).bd fun ds S1 => opt ((rngD ds).map fun p => ⟨upTo p.1 p.2, []⟩) S1
  | .enum e => (evE ρ e S).bd fun x S1 => opt ((seqIt S1 x).map fun t => ⟨enumAt 0 t.items, t.src⟩) S1
  | .zip a b => (evE ρ a S).bd fun x S1 => (evE ρ b S1).bd fun y S2 => if isTup x = isTup y then
      match seqIt S2 x, seqIt S2 y with
      | some t, some u => .ok ⟨(t.items.zip u.items).map fun p => .tup [p.1, p.2], t.src ++ u.src⟩ S2
      | _, _ => .bad
    else .bad
  | .zipl a b => (evE ρ a S).bd fun x S1 => (evE ρ b S1).bd fun y S2 => zipL S2 x y
end
inductive Out where
  | nx (ρ : Ro) (S : Store) | ret (d : D) (S : Store) | brk (ρ : Ro) (S : Store) | cnt (ρ : Ro) (S : Store) | err (x : Exn) (ρ : Ro) (S : Store) | bad
def R.th {α : Type} (r : R α) (ρ : Ro) (f : α → Store → Out) : Out := match r with
  | .ok a S => f a S
  | .err x S => .err x ρ S
  | .bad => .bad
def Out.th : Out → (Ro → Store → Out) → Out
  | .nx ρ S, f => f ρ S
  | .ret d S, _ => .ret d S
  | .brk ρ S, _ => .brk ρ S
  | .cnt ρ S, _ => .cnt ρ S
  | .err x ρ S, _ => .err x ρ S
  | .bad, _ => .bad
def whileN (c : Ro → Store → R Bool) (b : Ro → Store → Out) : Nat → Ro → Store → Out
  | 0, _, _ => .bad
  | n + 1, ρ, S => (c ρ S).th ρ fun k S1 => if k = true then match b ρ S1 with
      | .nx ρ1 S2 => whileN c b n ρ1 S2
      | .cnt ρ1 S2 => whileN c b n ρ1 S2
      | .brk ρ1 S2 => .nx ρ1 S2
      | o => o
    else .nx ρ S1
def whileM (c : Ro → Store → R Bool) (b : Ro → Store → Out) (ρ : Ro) (S : Store) : Out :=
  if h : ∃ n, whileN c b n ρ S ≠ .bad then whileN c b (choose h) ρ S else .bad
def forM (t : It) (tg : Tg) (b : Ro → Store → Out) : List D → Ro → Store → Out
  | [], ρ, S => if t.still S then .nx ρ S else .bad
  | x :: xs, ρ, S => if t.still S then
      match setTg tg x ρ with
      | none => .bad
      | some ρ1 => match b ρ1 S with
        | .nx ρ2 S2 => forM t tg b xs ρ2 S2
        | .cnt ρ2 S2 => forM t tg b xs ρ2 S2
        | .brk ρ2 S2 => .nx ρ2 S2
        | o => o
    else .bad
def augD : Bo → D → D → Option D
  | .add, .int a, .int b => some (.int (a + b))
  | .sub, .int a, .int b => some (.int (a - b))
  | _, _, _ => none
def Out.un (nm : Option Nat) : Out → Out
  | .nx ρ S => .nx (match nm with | some i => ρ.set i none | none => ρ) S
  | .brk ρ S => .brk (match nm with | some i => ρ.set i none | none => ρ) S
  | .cnt ρ S => .cnt (match nm with | some i => ρ.set i none | none => ρ) S
  | .ret d S => .ret d S
  | _ => .bad
def setAll (ρ : Ro) (is : List Nat) (ds : List D) : Ro := (is.zip ds).foldl (fun ρ p => ρ.set p.1 (some p.2)) ρ
mutual
def evC (c : C) (ρ : Ro) (S : Store) : Out := match c with
  | .skip => .nx ρ S
  | .set i e => (evE g ρ e S).th ρ fun d S1 => .nx (ρ.set i (some d)) S1
  | .stg tg e => (evE g ρ e S).th ρ fun d S1 => match setTg (.many tg) d ρ with
    | some ρ1 => .nx ρ1 S1
    | none => .bad
  | .par is es => (evEs g ρ es S).th ρ fun ds S1 => if ds.length = is.length then .nx (setAll ρ is ds) S1 else .bad
  | .six o i e => (evE g ρ e S).th ρ fun d S1 => (evE g ρ o S1).th ρ fun x S2 => (evE g ρ i S2).th ρ fun y S3 => match x, y with
    | .ref n, k => match S3[n]? with
      | some (.lst xs) => match k with
        | .int i => match L2.ixN xs.length i with
          | some j => .nx ρ (S3.set n (.lst (xs.set j d)))
          | none => .bad
        | _ => .bad
      | some (.dct ks vs) => match keyD k with
        | some k => if sizeOk (ks.length + 1) then .nx ρ (S3.set n (.dct (dput ks vs k d).1 (dput ks vs k d).2)) else .bad
        | none => .bad
      | _ => .bad
    | _, _ => .bad
  | .aug i o e => match ρ.getD i none with
    | some x => (evE g ρ e S).th ρ fun y S1 => match augD o x y with
      | some z => .nx (ρ.set i (some z)) S1
      | none => .bad
    | none => .bad
  | .ex e => (evE g ρ e S).th ρ fun _ S1 => .nx ρ S1
  | .ret e => (evE g ρ e S).th ρ fun d S1 => .ret d S1
  | .retN => .ret .non S
  | .iff c a b => (evE g ρ c S).th ρ fun d S1 => match truth S1 d with
    | some true => evCs a ρ S1
    | some false => evCs b ρ S1
    | none => .bad
  | .whl c a => whileM (fun ρ S => (evE g ρ c S).bd fun d S1 => opt (truth S1 d) S1) (fun ρ S => evCs a ρ S) ρ S
  | .fr tg it a => (evI g ρ it S).th ρ fun t S1 => forM t tg (fun ρ S => evCs a ρ S) t.items ρ S1
  | .brk => .brk ρ S
  | .cnt => .cnt ρ S
  | .never => .bad
  | .raise c es => (evEs g ρ es S).th ρ fun ds S1 => .err ⟨c, ds⟩ ρ S1
  | .tryx b hs => match evCs b ρ S with
    | .err x ρ1 S1 => evHs hs x ρ1 S1
    | o => o
def evHs (hs : Hs) (x : Exn) (ρ : Ro) (S : Store) : Out := match hs with
  | .nil => .err x ρ S
  | .cons cs nm b r => if cs.any (fun c => subX x.cls c) = true then (evCs b (match nm with | some i => ρ.set i (some (.exc x.cls x.fs)) | none => ρ) S).un nm else evHs r x ρ S
def evCs (cs : Cs) (ρ : Ro) (S : Store) : Out := match cs with
  | .nil => .nx ρ S
  | .cons c cs => (evC c ρ S).th fun ρ1 S1 => evCs cs ρ1 S1
end
mutual
def clo (k : Nat) : D → Prop
  | .ref n => n < k
  | .tup xs => clos k xs
  | .lst xs => clos k xs
  | .exc _ xs => clos k xs
  | _ => True
def clos (k : Nat) : List D → Prop
  | [] => True
  | x :: xs => clo k x ∧ clos k xs
end
def O.clo (k : Nat) : O → Prop
  | .lst xs => clos k xs
  | .dct _ xs => clos k xs
  | .ins _ _ xs => clos k xs
def seqOpt {α : Type} : List (Option α) → Option (List α)
  | [] => some []
  | none :: _ => none
  | some x :: r => (seqOpt r).map (x :: ·)
def frz (k : Nat) (S : Store) : Nat → D → Option D
  | 0, _ => none
  | m + 1, .ref n => if n < k then some (.ref n) else match S[n]? with
    | some (.lst xs) => (seqOpt (xs.map (frz k S m))).map .lst
    | _ => none
  | m + 1, .tup xs => (seqOpt (xs.map (frz k S m))).map .tup
  | m + 1, .lst xs => (seqOpt (xs.map (frz k S m))).map .lst
  | _ + 1, .exc _ _ => none
  | _ + 1, d => some d
def leave (k : Nat) (d : D) (S : Store) : R D := match frz k S 8 d with
  | some v => if (∀ o ∈ S.take k, o.clo k) then .ok v (S.take k) else .bad
  | none => .bad
def leaveX (k : Nat) (x : Exn) (S : Store) : R D := match seqOpt (x.fs.map (frz k S 8)) with
  | some fs => if (∀ o ∈ S.take k, o.clo k) then .err ⟨x.cls, fs⟩ (S.take k) else .bad
  | none => .bad
def start (nl : Nat) (args : List D) : Ro := args.map some ++ List.replicate (nl - args.length) none
def finish (drop : Bool) (k : Nat) : Out → R D
  | .ret d S => if drop = true then leave k d S else .ok d S
  | .nx _ S => if drop = true then leave k .non S else .ok .non S
  | .err x _ S => if drop = true then leaveX k x S else .err x S
  | _ => .bad
variable (T : Str → Option Fn) (gl : Str → Option D)
def callM : Nat → Bool → Str → List D → Store → R D
  | 0, _, _, _, _ => .bad
  | d + 1, raw, f, args, S => match T f with
    | none => .bad
    | some fn => if args.length = fn.np then finish (fn.drop && !raw) S.length (evCs ⟨callM d false, callM d true, gl⟩ fn.body (start fn.nl args) S) else .bad
def callN (d : Nat) : Str → List D → Store → R D := callM T gl d false
def rawN (d : Nat) : Str → List D → Store → R D := callM T gl d true
def GG (d : Nat) : G := ⟨callN T gl d, rawN T gl d, gl⟩
theorem callN_zero (f : Str) (args : List D) (S : Store) : callN T gl 0 f args S = .bad := rfl
theorem rawN_zero (f : Str) (args : List D) (S : Store) : rawN T gl 0 f args S = .bad := rfl
theorem callN_succ (d : Nat) (f : Str) (args : List D) (S : Store) : callN T gl (d + 1) f args S = match T f with
    | none => .bad
    | some fn => if args.length = fn.np then finish fn.drop S.length (evCs (GG T gl d) fn.body (start fn.nl args) S) else .bad := by
  show callM T gl (d + 1) false f args S = _
  rw [callM]
  simp only [Bool.not_false, Bool.and_true]
  rfl
theorem rawN_succ (d : Nat) (f : Str) (args : List D) (S : Store) : rawN T gl (d + 1) f args S = match T f with
    | none => .bad
    | some fn => if args.length = fn.np then finish false S.length (evCs (GG T gl d) fn.body (start fn.nl args) S) else .bad := by
  show callM T gl (d + 1) true f args S = _
  rw [callM]
  simp only [Bool.not_true, Bool.and_false]
  rfl
end
end PyD

namespace PyD
open PySem PySem.Spec PyProof.Rows L2
def tupO (its : List Value) : Obj := { cls := .type "tuple", data := .seq its.toArray }
def TupO (its : List Value) (vs : List V) : HO := .frz (tupO its) (.tup vs)
def NewT (H : Hp) (Q : VK) (vs : List V) : Prop := ∀ p its, H p = none → Vals vs its → Q (.ref p) (upd H p (TupO its vs))
theorem TupO.ok {P : Program} {w : World} {H : Hp} {h : Heap} {a : Addr} {its : List Value} {vs : List V} (r : Vals vs its) (hz : vs.length ≤ sizeLine) (e : h.get? a = some (tupO its)) : ObjOk P w H h a (TupO its vs) :=
  ⟨e, hz, its, r, _, e, rfl, 0, rfl⟩
section
variable {X : Cx} {pins : List (Addr × Obj)} {σ : L2.St} {H : Hp} {s : Shared}
theorem laidT {Q : VK} {h' : Heap} {t' : Nat} {its : List Value} {vs : List V} (I : L2.Inv X pins σ H { s with heap := h', toks := t' }) (r : Vals vs its) (hz : vs.length ≤ sizeLine) (q : NewT H Q vs) :
    EP X pins σ Q (.ref h'.objs.size) { s with heap := h'.push (tupO its), toks := t' } :=
  ⟨.ref h'.objs.size, _, I.laid (t' := t') (o := TupO its vs) (fun b ob e => Heap.get?_push_of_some _ e) (Nat.le_refl _) (TupO.ok r hz (Heap.get?_push_size _ rfl)), rfl, q _ its (I.hok.fresh (Nat.le_refl _)) r⟩
variable {e a b : Expr} {es : List Expr} {t : TA} {pos : Pos}
def tTupX (t : TA) : TE := fun σ H Q => t σ H fun xs H1 => xs.length ≤ sizeLine ∧ NewT H1 Q xs
theorem pe_tupX {x1} (h : PA X es t) : PE X (.Tuple es x1 pos) (tTupX t) :=
  ⟨fun pins s σ H Q I hq => wpAny_Tuple_spliced (thn (h.run pos pins s σ H _ I hq) fun us s1 ⟨xs, H1, I1, r, z, q⟩ => ⟨by rw [← r.length]; exact z, laidT (t' := s1.toks) I1 r z q⟩)⟩
def rCatX (K : PySem.W.Frag) : R2 := fun x y H Q => ∃ a b xs ys, x = .ref a ∧ y = .ref b ∧ SqT K H a xs ∧ SqT K H b ys ∧ xs.length + ys.length ≤ sizeLine ∧ (xs = [] → Q (.ref b) H) ∧ (xs ≠ [] → ys = [] → Q (.ref a) H) ∧ (xs ≠ [] → ys ≠ [] → NewT H Q (xs ++ ys))
theorem vals_nil {xs : List V} {us : List Value} (r : Vals xs us) : us = [] ↔ xs = [] := by cases r <;> simp
theorem op_catX : OpR X (binaryOp .Add) (rCatX X.K) := by
  intro pins s σ H x y v u Q I rx ry ⟨a, b, xs, ys, ex, ey, ha, hb, hz, q0, q1, q2⟩
  subst ex; subst ey
  cases rx; cases ry
  obtain ⟨us, ra, pa, _⟩ := I.tuple ha
  obtain ⟨ws, rb, pb, _⟩ := I.tuple hb
  by_cases hx : xs = []
  · rw [(vals_nil ra).mpr hx] at pa
    exact cat_tup0 pa pb ⟨.ref b, H, I, rfl, q0 hx⟩
  · exact HT.cat_tup pa pb (fun z => hx ((vals_nil ra).mp z)) (fun z => ⟨.ref a, H, I, rfl, q1 hx ((vals_nil rb).mp z)⟩)
      (fun z => laidT (t' := s.toks) I (ra.append rb) (by rw [List.length_append]; exact hz) (q2 hx fun z' => z ((vals_nil rb).mpr z'))) (by rw [← ra.length, ← rb.length]; exact hz)
def rSlX (K : PySem.W.Frag) : V → Option Int → Option Int → Hp → VK → Prop := fun x lo hi H Q => ∃ a xs, x = .ref a ∧ SqT K H a xs ∧
  (HT.sIx xs.length 0 lo = 0 ∧ HT.sIx xs.length xs.length hi = xs.length → Q (.ref a) H) ∧ (¬ (HT.sIx xs.length 0 lo = 0 ∧ HT.sIx xs.length xs.length hi = xs.length) → NewT H Q (cutV xs lo hi))
theorem sl_tupX : SlR X (rSlX X.K) := by
  intro pins s σ H x v vl vu lo hi sl Q I rx hs pl pu ⟨a, xs, ex, hx, q1, q2⟩
  subst ex
  cases rx
  obtain ⟨us, r, ht, hz⟩ := I.tuple hx
  have hn : us.toArray.size = xs.length := by rw [List.size_toArray]; exact r.length.symm
  refine ⟨"tuple", _, PyProof.Rows.slot_tuple_getitem.lookup, ht.typeIs, ?_⟩
  by_cases hw : HT.sIx xs.length 0 lo = 0 ∧ HT.sIx xs.length xs.length hi = xs.length
  · exact getItem_tuple_whole ht hs pl pu (by rw [hn]; exact hw) ⟨.ref a, H, I, rfl, q1 hw⟩
  · refine HT.getItem_tuple_cut ht hs pl pu (by rw [hn]; exact hw) ?_ (by rw [hn]; exact hz)
    rw [hn]
    exact laidT (t' := s.toks) I ((r.drop (HT.sIx xs.length 0 lo)).take (HT.sIx xs.length xs.length hi - HT.sIx xs.length 0 lo)) (Nat.le_trans (cutV_length xs lo hi) hz) (q2 hw)
theorem call_tupleX : CallR X (.type "tuple") (fun xs H Q => ∃ p ys, xs = [.ref p] ∧ ((SqL X.K H p ys ∧ NewT H Q ys) ∨ (SqT X.K H p ys ∧ Q (.ref p) H))) := by
  intro pins s σ H xs us Q I r ⟨p, ys, ex, h⟩
  subst ex
  obtain ⟨u, rfl, rx⟩ := vals1 r
  cases rx
  rcases h with ⟨hq, q⟩ | ⟨hq, q⟩
  · obtain ⟨ws, r', pl, hz⟩ := I.list hq
    have hl := r'.length
    exact call_tuple_list pl.isList (fun h' kp => laidT (t' := s.toks) (I.kept (t' := s.toks) kp) r' hz q) (by simp only [List.size_toArray] <;> omega)
  · obtain ⟨ws, r', pl, hz⟩ := I.tuple hq
    exact call_tuple_same pl ⟨.ref p, H, I, rfl, q⟩
def rRepX (K : PySem.W.Frag) : R2 := fun x y H Q => ∃ l k xs, x = .ref l ∧ y = .int k ∧ SqT K H l xs ∧ xs ≠ [] ∧ 2 ≤ k ∧ k ≤ 1000 ∧ xs.length ≤ 1000 ∧ NewT H Q (List.replicate k.toNat xs).flatten
theorem op_repX : OpR X (binaryOp .Mult) (rRepX X.K) := by
  intro pins s σ H x y v u Q I rx ry ⟨l, k, xs, ex, ey, hT, hne, h1, h2, hz, q⟩
  subst ex; subst ey
  cases rx
  obtain ⟨t, rfl⟩ := ry
  obtain ⟨us, r, ⟨⟨cls, dd, data, sl⟩, ho, hc, n, hd⟩, hs⟩ := I.tuple hT
  simp only at hc hd
  subst hc hd
  have hle : us.toArray.size = xs.length := by rw [List.size_toArray]; exact r.length.symm
  have hi : us.toArray.isEmpty = false := by
    cases us with
    | nil => exact absurd ((vals_nil r).mp rfl) hne
    | cons a b => rfl
  have hm : ((us.toArray.size : Nat) : Int) * k ≤ 1000000 := by
    rw [hle]
    have a1 : ((xs.length : Nat) : Int) * k ≤ 1000 * k := Int.mul_le_mul_of_nonneg_right (by omega) (by omega)
    omega
  have hlen : (List.replicate k.toNat xs).flatten.length ≤ sizeLine := by
    rw [PyProof.Rows.lm_len_rep_flat, sizeLine_eq]
    have a1 : k.toNat * xs.length ≤ 1000 * 1000 := Nat.mul_le_mul (by omega) hz
    omega
  have rr := r.rep k.toNat
  have flen : (List.replicate k.toNat us).flatten.length ≤ sizeLine := by rw [← rr.length]; exact hlen
  refine wpAny_binaryOp_repeat_ref (T := "tuple") (U := "int") (by decide) ⟨_, ho, rfl⟩ (fun s' => typeIs_int s' k t) noFill_tuple_mul F.fills_int_mul F.slot_int_rmul repeat_tuple F.slot_int_index.lookup
    (call_meets F.slot_int_rmul (typeIs_int s k t) F.entry_int_rmul (F.args_int_rmul_2 _ _) (int_rmul_tuple k t l us.toArray n dd sl)
      ⟨ho, rfl, ⟨_, ho, rfl⟩, call_meets F.slot_tuple_mul ⟨_, ho, rfl⟩ F.entry_tuple_mul (F.args_tuple_mul_2 _ _)
        (tuple_mulW l us.toArray n dd sl k t (by rw [decide_eq_false (by omega), decide_eq_false (by omega)] <;> rfl) (by rw [hi, Bool.false_or]; exact beq_eq_false_iff_ne.mpr (by omega)) (by rw [hi, Bool.or_false]; exact decide_eq_false (by omega)) (by omega)
          (by unfold Builtin.Tuple.tupleTooMany; rw [sizeLine_eq]; exact decide_eq_false (by omega)) (by rw [size_rep, List.size_toArray]; exact flen)) ⟨ho, ?_⟩⟩)
  rw [size_rep]
  exact laidT (t' := s.toks) I rr hlen q
def tTupRgX (te : L2.St → Hp → (Int → Int → Hp → Prop) → Prop) : TE := fun σ H Q => te σ H fun a b H1 => RgOk a b ∧ NewT H1 Q (rgV a b)
theorem pe_tupRgX {p : Pos} {te : L2.St → Hp → (Int → Int → Hp → Prop) → Prop} (hc : X.calm = true) (hg : Gl X "tuple") (hm : X.mg "tuple" = none) (he : PRg X e te) (na : starEach [e] X.env = (false, eval e X.env) :: starEach [] X.env) : PE X (.Call (.Name "tuple" p) [e] [] pos) (tTupRgX te) := by
  refine ⟨fun pins s σ H Q I h => Call_ (ld_blt I hg hm boot_tuple (PyProof.Rows.callWith_type1 (args_cons (thn (he pins s σ H _ I h) fun x s1 ⟨r, a, b, t, u, v, H1, ex, hr, I1, ok, q⟩ => args_nil ?_) na) na))⟩
  subst ex
  obtain ⟨b1, b2, b3, b4, b5⟩ := ok
  refine call_tuple_range (n := (b - a).toNat) (I1.ok.hd hc) hr (small_one b1 b2 b3 b4) (rangeSize_nat a b) b5 fun h' tk acc hk hi => ?_
  have := laidT (t' := tk) (I1.kept (t' := tk) hk) (vals_rg hi) (by rw [rgV_length, sizeLine_eq]; omega) q
  unfold tupO at this
  rw [Array.toArray_toList] at this
  exact this
theorem SqT.ofX {K : PySem.W.Frag} {H : Hp} {p : Addr} {its : List Value} {vs : List V} (h : H p = some (TupO its vs)) : SqT K H p vs := .inl (.inr ⟨_, h⟩)
def TyR (X : Cx) (T : String) (x : V) (H : Hp) : Prop := ∀ (pins : List (Addr × Obj)) (σ : L2.St) (s : Shared) (v : Value), L2.Inv X pins σ H s → RelV x v → s.TypeIs v T ∧ ∀ a, v = .ref a → ∃ ob, s.heap.get? a = some ob ∧ ob.dict = none
theorem TyR.of {T : String} {x : V} (h : tyV X.K T x H) : TyR X T x H := fun _ _ _ _ I r => tyV_is I r h
theorem TyR.tup {p : Addr} {its : List Value} {vs : List V} (h : H p = some (TupO its vs)) : TyR X "tuple" (.ref p) H := fun _ _ s v I r => by
  cases r
  obtain ⟨e, _⟩ := I.hok p _ h
  exact ⟨⟨_, e, rfl⟩, fun a ea => by cases ea; exact ⟨_, e, rfl⟩⟩
variable {o : Expr} {to : TE} {name : Str} {apos cpos : Pos} {T id : String} {r : V → List V → Hp → VK → Prop}
def tBG (X : Cx) (T : String) (r : V → List V → Hp → VK → Prop) (to : TE) (t : TA) : TE := fun σ H Q => to σ H fun x H1 => TyR X T x H1 ∧ t σ H1 fun xs H2 => r x xs H2 Q
theorem pe_bg (pa : PlainAttrs T) (slot : Slot T name id) (hty : typeOf (.builtin id) = pure (.type "method_descriptor")) (hm : MtR X id r) (ho : PE X o to) (ha : PA X (e :: es) t)
    (hbase : attributeBase o name X.env (eval o X.env) = eval o X.env)
    (hfew : ((backTo cpos (starEach (e :: es) X.env)).all (fun x => !x.1) && (backToKw cpos (keywordEach [] X.env)).all (fun x => x.1.isSome) && decide ((e :: es).length + ([] : List Keyword).length + (if ([] : List Keyword).isEmpty then 0 else 1) < 30)) = true)
    (hline : (apos.endLine == cpos.line) = true) (hs : starEach (e :: es) X.env = (false, eval e X.env) :: starEach es X.env) (hpl : (backTo cpos (starEach es X.env)).any (·.1) = false) :
    PE X (.Call (.Attribute o name apos) (e :: es) [] cpos) (tBG X T r to t) := by
  refine ⟨fun pins s σ H Q I h => wpAny_Call_method_late hbase hfew hline rfl (thn (ho.run pins s σ H _ I h) fun v s1 ⟨x, H1, I1, r1, ty, q1⟩ => ?_)⟩
  obtain ⟨h1, h2⟩ := ty pins σ s1 v I1 r1
  have hA := ha.run cpos pins s1 σ H1 _ I1 q1
  refine ⟨T, id, pa, slot, hty, h1, h2, ?_⟩
  rw [hs] at hA ⊢
  exact Calls.callWith_builtin (by show (false || (backTo cpos (starEach es X.env)).any (·.1)) = false; rw [hpl] <;> rfl) (Calls.evalArgs_plain (thn hA fun us s2 ⟨vs, H2, I2, r2, q2⟩ => hm pins s2 σ H2 x vs v us Q I2 r1 r2 q2))
def tBG0 (X : Cx) (T : String) (r : V → List V → Hp → VK → Prop) (to : TE) : TE := fun σ H Q => to σ H fun x H1 => TyR X T x H1 ∧ r x [] H1 Q
theorem pe_bg0 (pa : PlainAttrs T) (slot : Slot T name id) (hty : typeOf (.builtin id) = pure (.type "method_descriptor")) (hm : MtR X id r) (ho : PE X o to) (hbase : attributeBase o name X.env (eval o X.env) = eval o X.env) (hline : (apos.endLine == cpos.line) = true) :
    PE X (.Call (.Attribute o name apos) [] [] cpos) (tBG0 X T r to) := by
  refine ⟨fun pins s σ H Q I h => wpAny_Call_method0_late hbase hline (thn (ho.run pins s σ H _ I h) fun v s1 ⟨x, H1, I1, r1, ty, q1⟩ => ?_)⟩
  obtain ⟨h1, h2⟩ := ty pins σ s1 v I1 r1
  exact ⟨T, id, pa, slot, hty, h1, h2, Calls.callWith_builtin rfl (PySem.evalArgs_none (hm pins s1 σ H1 x [] v [] Q I1 r1 .nil q1))⟩
def rTIndex (K : PySem.W.Frag) : V → List V → Hp → VK → Prop := fun x xs H Q => ∃ (a : Addr) (ys : List V) (y : V) (j : Nat) (z : V), x = V.ref a ∧ xs = [y] ∧ SqT K H a ys ∧ flatV y = true ∧ ys.all flatV = true ∧ ys[j]? = some z ∧ eqV z y = true ∧
  (∀ (m : Nat) (z' : V), m < j → ys[m]? = some z' → eqV z' y = false) ∧ Q (.int (j : Nat)) H
theorem mt_tindex : MtR X "tuple.index" (rTIndex X.K) := by
  intro pins s σ H x xs v us Q I rx rxs ⟨a, ys, y, j, z, ex, exs, hs, fy, fys, hz, hzj, hno, q⟩
  subst ex; subst exs
  cases rx
  obtain ⟨uy, rfl, ry⟩ := vals1 rxs
  obtain ⟨ws, rv, ⟨⟨cls, dd, data, sl⟩, ho, hc, n, hd⟩, hlen⟩ := I.tuple hs
  simp only at hc hd
  subst hc hd
  have hl : ws.toArray.size = ys.length := by rw [List.size_toArray]; exact rv.length.symm
  have hj : j < ws.toArray.size := by rw [hl]; exact (List.getElem?_eq_some_iff.mp hz).1
  have at' : ∀ (m : Nat) (hm : m < ws.toArray.size), ∃ y0, ys[m]? = some y0 ∧ RelV y0 ws.toArray[m] := fun m hm => by
    have hm' : m < ys.length := by rw [← hl]; exact hm
    obtain ⟨w, hw, rw'⟩ := rv.get (List.getElem?_eq_getElem hm')
    obtain ⟨_, hme⟩ := List.getElem?_eq_some_iff.mp hw
    have e1 : ws.toArray[m] = w := by simpa using hme
    exact ⟨ys[m], List.getElem?_eq_getElem hm', by rw [e1]; exact rw'⟩
  refine call_meets PySem.F.slot_tuple_index ⟨_, ho, rfl⟩ PySem.F.entry_tuple_index (PySem.F.args_tuple_index_2 _ _) (TI.tuple_indexAt a ws.toArray n dd sl uy (eqU y) j hj ?_ ?_)
    ⟨ho, fun w hw => mem_eqAt ry fy rv fys w (by simpa using hw), ⟨.int (j : Nat), H, I.tok _, ⟨_, rfl⟩, q⟩⟩
  · obtain ⟨y0, h1, h2⟩ := at' j hj
    rw [hz] at h1
    cases h1
    rw [eqU_of h2 (flat_at fys hz)]
    exact hzj
  · intro m hm hmj
    obtain ⟨y0, h1, h2⟩ := at' m hm
    rw [eqU_of h2 (flat_at fys h1)]
    exact hno m _ hmj h1
end
end PyD

namespace PyD
open PySem PySem.Spec PyProof.Rows L2

def Kt (K : PySem.W.Frag) (a : Addr) (xs : List V) : Prop := ∃ (o : Obj) (its : Array Value) (n : Nat), K.lookup a = some o ∧ o.cls = .type "tuple" ∧ o.dict = none ∧ o.data = .seq its n ∧ its.size ≤ sizeLine ∧ Vals xs its.toList
def HT' (H : Hp) (p : Addr) (vs : List V) : Prop := ∃ its, H p = some (TupO its vs)
def Kl (K : PySem.W.Frag) (a : Addr) (xs : List V) : Prop := ∃ (o : Obj) (its : Array Value) (n : Nat), K.lookup a = some o ∧ o.cls = .type "list" ∧ o.dict = none ∧ o.data = .seq its n ∧ its.size ≤ sizeLine ∧ Vals xs its.toList
def ExcO (a : Addr) (cls : Value) (dx : Option Addr) : HO := .ext fun h => ∃ o vs, h.get? a = some o ∧ o.cls = cls ∧ o.dict = dx ∧ o.data = .fields vs
def clsV (K : PySem.W.Frag) (c : Str) (v : Value) : Prop := PySem.W.nsIn K mainGlobals c = some (some v)
def FldAt (m fb : List Addr) (H : Hp) (c : Str) (dx : Option Addr) (vs : List V) : Prop := (vs = [] ∧ dx = none) ∨ ∃ x, dx = some x ∧ H x = some (.xd ((fldX c).zip vs)) ∧ x ∉ m ∧ x ∉ fb ∧ vs ≠ []
class TB where
  tabs : List (Addr × Str)
  hot : Option (Addr × Str)
variable [TB]
mutual
inductive Rep (K : PySem.W.Frag) (fb m : List Addr) (H : Hp) : D → V → Prop
  | non : Rep K fb m H .non .non
  | bl (b : Bool) : Rep K fb m H (.bl b) (.bl b)
  | int (i : Int) : Rep K fb m H (.int i) (.int i)
  | str (s : Str) : Rep K fb m H (.str s) (.str s)
  | tup {p : Addr} {vs : List V} {ds : List D} : (HT' H p vs ∧ p ∉ m ∧ p ∉ fb) ∨ Kt K p vs → Reps K fb m H ds vs → Rep K fb m H (.tup ds) (.ref p)
  | lst {p : Addr} {vs : List V} {ds : List D} : (Rd H p (.lst vs) ∧ p ∉ m ∧ p ∉ fb) → Reps K fb m H ds vs → Rep K fb m H (.lst ds) (.ref p)
  | ref {n : Nat} {a : Addr} : m[n]? = some a → Rep K fb m H (.ref n) (.ref a)
  | scr {p : Addr} {is : List Int} : (Rd H p (.lst (is.map .int)) ∧ p ∉ m ∧ p ∉ fb) ∨ Kl K p (is.map .int) → Rep K fb m H (.scr is) (.ref p)
  | fn {f : Str} {a : Addr} : clsV K f (.ref a) → Rep K fb m H (.fn f) (.ref a)
  | hot {c : Str} {a : Addr} : TB.hot = some (a, c) → Rep K fb m H (.exc c []) (.ref a)
inductive Reps (K : PySem.W.Frag) (fb m : List Addr) (H : Hp) : List D → List V → Prop
  | nil : Reps K fb m H [] []
  | cons {d : D} {v : V} {ds : List D} {vs : List V} : Rep K fb m H d v → Reps K fb m H ds vs → Reps K fb m H (d :: ds) (v :: vs)
end
def kd : HO → Nat
  | .lst _ => 1
  | .dK _ => 2
  | .ins _ _ _ => 3
  | _ => 0
structure Ext (m : List Addr) (H : Hp) (m' : List Addr) (H' : Hp) : Prop where
  more : ∃ l, m' = m ++ l ∧ ∀ a ∈ l, H a = none
  stay : ∀ a o, H a = some o → a ∉ m → (∀ ps, o ≠ .tbl ps) → H' a = some o
  dom : ∀ a, H a ≠ none → H' a ≠ none
  knd : ∀ a u u', a ∈ m → H a = some u → H' a = some u' → kd u = kd u'
theorem Ext.refl (m : List Addr) (H : Hp) : Ext m H m H := ⟨⟨[], by simp, by simp⟩, fun _ _ h _ _ => h, fun _ h => h, fun _ _ _ _ h h' => by rw [h] at h'; cases h'; rfl⟩
theorem Ext.out {m m' : List Addr} {H H' : Hp} (e : Ext m H m' H') {a : Addr} (h : H a ≠ none) (n : a ∉ m) : a ∉ m' := by
  obtain ⟨l, rfl, hl⟩ := e.more
  intro z
  rcases List.mem_append.mp z with z | z
  · exact n z
  · exact h (hl a z)
theorem Ext.trans {m m1 m2 : List Addr} {H H1 H2 : Hp} (a : Ext m H m1 H1) (b : Ext m1 H1 m2 H2) : Ext m H m2 H2 := by
  obtain ⟨l1, e1, h1⟩ := a.more
  obtain ⟨l2, e2, h2⟩ := b.more
  refine ⟨⟨l1 ++ l2, by rw [e2, e1, List.append_assoc], fun c hc => ?_⟩, fun c o h n t => ?_, fun c h => b.dom c (a.dom c h), fun c u u2 hm h h2 => ?_⟩
  · rcases List.mem_append.mp hc with z | z
    · exact h1 c z
    · have := h2 c z
      cases q : H c with
      | none => rfl
      | some o => exact absurd this (a.dom c (by rw [q]; exact fun z => nomatch z))
  · exact b.stay c o (a.stay c o h n t) (a.out (by rw [h]; exact fun z => nomatch z) n) t
  · cases q : H1 c with
    | none => exact absurd q (a.dom c (by rw [h]; exact fun z => nomatch z))
    | some u1 => exact (a.knd c u u1 hm h q).trans (b.knd c u1 u2 (by rw [e1]; exact List.mem_append_left _ hm) q h2)
theorem Ext.nth {m m' : List Addr} {H H' : Hp} (e : Ext m H m' H') {n : Nat} {a : Addr} (h : m[n]? = some a) : m'[n]? = some a := by
  obtain ⟨l, rfl, _⟩ := e.more
  rw [List.getElem?_append_left]
  · exact h
  · rcases Nat.lt_or_ge n m.length with z | z
    · exact z
    · rw [List.getElem?_eq_none z] at h; cases h
theorem Ext.rd {m m' : List Addr} {H H' : Hp} (e : Ext m H m' H') {p : Addr} {u : HO} (h : Rd H p u) (n : p ∉ m) (t : ∀ ps, u ≠ .tbl ps) : Rd H' p u ∧ p ∉ m' := by
  rcases h with h | ⟨o, h⟩
  · exact ⟨.inl (e.stay _ _ h n t), e.out (by rw [h]; exact fun z => nomatch z) n⟩
  · exact ⟨.inr ⟨o, e.stay _ _ h n (fun _ z => nomatch z)⟩, e.out (by rw [h]; exact fun z => nomatch z) n⟩
theorem Ext.ht {m m' : List Addr} {H H' : Hp} (e : Ext m H m' H') {p : Addr} {vs : List V} (h : HT' H p vs) (n : p ∉ m) : HT' H' p vs ∧ p ∉ m' := by
  obtain ⟨its, h⟩ := h
  exact ⟨⟨its, e.stay _ _ h n (fun _ z => nomatch z)⟩, e.out (by rw [h]; exact fun z => nomatch z) n⟩
theorem Ext.exO {m m' : List Addr} {H H' : Hp} {fb : List Addr} (e : Ext m H m' H') {a : Addr} {cls : Value} {dx : Option Addr} (h : H a = some (ExcO a cls dx) ∧ a ∉ m ∧ a ∉ fb) : H' a = some (ExcO a cls dx) ∧ a ∉ m' ∧ a ∉ fb :=
  ⟨e.stay _ _ h.1 h.2.1 (fun _ z => nomatch z), e.out (by rw [h.1]; exact fun z => nomatch z) h.2.1, h.2.2⟩
theorem Ext.fld {m m' : List Addr} {H H' : Hp} {fb : List Addr} (e : Ext m H m' H') {c : Str} {dx : Option Addr} {vs : List V} (h : FldAt m fb H c dx vs) : FldAt m' fb H' c dx vs := by
  rcases h with h | ⟨x, h1, h2, h3, h4⟩
  · exact .inl h
  · exact .inr ⟨x, h1, e.stay _ _ h2 h3 (fun _ z => nomatch z), e.out (by rw [h2]; exact fun z => nomatch z) h3, h4⟩
theorem nodup_at {N : List Nat} (hN : N.Nodup) {i j : Nat} {x : Nat} (a : N[i]? = some x) (b : N[j]? = some x) : i = j := by
  obtain ⟨h1, e1⟩ := List.getElem?_eq_some_iff.mp a
  obtain ⟨h2, e2⟩ := List.getElem?_eq_some_iff.mp b
  rcases Nat.lt_trichotomy i j with l | e | l
  · exact absurd (e1.trans e2.symm) (List.pairwise_iff_getElem.mp hN i j h1 h2 l)
  · exact e
  · exact absurd (e2.trans e1.symm) (List.pairwise_iff_getElem.mp hN j i h2 h1 l)
section
variable {K : PySem.W.Frag} {fb m m' : List Addr} {H H' : Hp}
mutual
theorem Rep.mono (e : Ext m H m' H') : ∀ {d : D} {v : V}, Rep K fb m H d v → Rep K fb m' H' d v
  | _, _, .non => .non
  | _, _, .bl b => .bl b
  | _, _, .int i => .int i
  | _, _, .str s => .str s
  | _, _, .tup h r => .tup (h.elim (fun q => .inl ⟨(e.ht q.1 q.2.1).1, (e.ht q.1 q.2.1).2, q.2.2⟩) .inr) (Reps.mono e r)
  | _, _, .lst q r => .lst ⟨(e.rd q.1 q.2.1 (fun _ z => nomatch z)).1, (e.rd q.1 q.2.1 (fun _ z => nomatch z)).2, q.2.2⟩ (Reps.mono e r)
  | _, _, .scr h => .scr (h.elim (fun q => .inl ⟨(e.rd q.1 q.2.1 (fun _ z => nomatch z)).1, (e.rd q.1 q.2.1 (fun _ z => nomatch z)).2, q.2.2⟩) .inr)
  | _, _, .ref h => .ref (e.nth h)
  | _, _, .fn h => .fn h
  | _, _, .hot h => .hot h
theorem Reps.mono (e : Ext m H m' H') : ∀ {ds : List D} {vs : List V}, Reps K fb m H ds vs → Reps K fb m' H' ds vs
  | _, _, .nil => .nil
  | _, _, .cons r t => .cons (Rep.mono e r) (Reps.mono e t)
end
theorem Reps.length : ∀ {ds : List D} {vs : List V}, Reps K fb m H ds vs → ds.length = vs.length
  | _, _, .nil => rfl
  | _, _, .cons _ t => congrArg (· + 1) (Reps.length t)
theorem Reps.get : ∀ {ds : List D} {vs : List V} {i : Nat} {d : D}, Reps K fb m H ds vs → ds[i]? = some d → ∃ v, vs[i]? = some v ∧ Rep K fb m H d v
  | _, _, _, _, .nil, e => by simp at e
  | _, _, 0, _, .cons r _, e => by simp at e; subst e; exact ⟨_, rfl, r⟩
  | _, _, i + 1, d, .cons _ t, e => by
    obtain ⟨v, h1, h2⟩ := Reps.get (i := i) (d := d) t (by simpa using e)
    exact ⟨v, by simpa using h1, h2⟩
theorem Reps.app : ∀ {ds es : List D} {vs us : List V}, Reps K fb m H ds vs → Reps K fb m H es us → Reps K fb m H (ds ++ es) (vs ++ us)
  | _, _, _, _, .nil, s => s
  | _, _, _, _, .cons r t, s => .cons r (Reps.app t s)
theorem Reps.take : ∀ {ds : List D} {vs : List V} (n : Nat), Reps K fb m H ds vs → Reps K fb m H (ds.take n) (vs.take n)
  | _, _, 0, _ => .nil
  | _, _, _ + 1, .nil => .nil
  | _, _, n + 1, .cons r t => .cons r (Reps.take n t)
theorem Reps.drop : ∀ {ds : List D} {vs : List V} (n : Nat), Reps K fb m H ds vs → Reps K fb m H (ds.drop n) (vs.drop n)
  | _, _, 0, r => r
  | _, _, _ + 1, .nil => .nil
  | _, _, n + 1, .cons _ t => Reps.drop n t
theorem Reps.set : ∀ {ds : List D} {vs : List V} {d : D} {v : V} (n : Nat), Reps K fb m H ds vs → Rep K fb m H d v → Reps K fb m H (ds.set n d) (vs.set n v)
  | _, _, _, _, _, .nil, _ => .nil
  | _, _, _, _, 0, .cons _ t, r => .cons r t
  | _, _, _, _, n + 1, .cons q t, r => .cons q (Reps.set n t r)
theorem Reps.erase : ∀ {ds : List D} {vs : List V} (n : Nat), Reps K fb m H ds vs → Reps K fb m H (ds.eraseIdx n) (vs.eraseIdx n)
  | _, _, _, .nil => .nil
  | _, _, 0, .cons _ t => t
  | _, _, n + 1, .cons q t => .cons q (Reps.erase n t)
theorem Reps.reps (n : Nat) {ds : List D} {vs : List V} (r : Reps K fb m H ds vs) : Reps K fb m H (List.replicate n ds).flatten (List.replicate n vs).flatten := by
  induction n with
  | zero => exact .nil
  | succ n ih => rw [List.replicate_succ, List.replicate_succ, List.flatten_cons, List.flatten_cons]; exact r.app ih
theorem Reps.cut {ds : List D} {vs : List V} (r : Reps K fb m H ds vs) (lo hi : Option Int) : Reps K fb m H (PyD.cut ds lo hi) (cutV vs lo hi) := by
  unfold PyD.cut cutV
  rw [r.length]
  exact (r.drop _).take _
def O.vals : O → List D
  | .lst xs => xs
  | .dct _ xs => xs
  | .ins _ _ xs => xs
def O.kd : O → Nat
  | .lst _ => 1
  | .dct _ _ => 2
  | .ins _ _ _ => 3
def Ob (K : PySem.W.Frag) : O → List V → HO → Prop
  | .lst _, vs, u => u = .lst vs
  | .dct ks ds, vs, u => u = .dK (ks.zip vs) ∧ ks.length = ds.length
  | .ins c fs ds, vs, u => ∃ C dx, clsV K c (.ref C) ∧ u = .ins C dx (fs.zip vs) ∧ fs.length = ds.length
theorem Ob.kd {o : O} {vs : List V} {u : HO} (h : Ob K o vs u) : PyD.kd u = o.kd := by
  cases o with
  | lst _ => obtain rfl := h; rfl
  | dct _ _ => obtain ⟨rfl, _⟩ := h; rfl
  | ins _ _ _ => obtain ⟨_, _, _, rfl, _⟩ := h; rfl
theorem Ob.mut {o : O} {vs : List V} {u : HO} (h : Ob K o vs u) : (∀ p ps, u ≠ .frz p ps) ∧ (∀ ps, u ≠ .tup ps) ∧ ∀ ps, u ≠ .tbl ps := by
  cases o with
  | lst _ => obtain rfl := h; exact ⟨fun _ _ z => (nomatch z), fun _ z => (nomatch z), fun _ z => nomatch z⟩
  | dct _ _ => obtain ⟨rfl, _⟩ := h; exact ⟨fun _ _ z => (nomatch z), fun _ z => (nomatch z), fun _ z => nomatch z⟩
  | ins _ _ _ => obtain ⟨_, _, _, rfl, _⟩ := h; exact ⟨fun _ _ z => (nomatch z), fun _ z => (nomatch z), fun _ z => nomatch z⟩
def ObR (K : PySem.W.Frag) (fb m : List Addr) (H : Hp) (a : Addr) (o : O) : Prop := ∃ u vs, H a = some u ∧ Ob K o vs u ∧ Reps K fb m H o.vals vs
theorem ObR.lst {a : Addr} {ds : List D} (h : ObR K fb m H a (.lst ds)) : ∃ vs, H a = some (.lst vs) ∧ Reps K fb m H ds vs := by
  obtain ⟨u, vs, h1, h2, h3⟩ := h
  obtain rfl : u = .lst vs := h2
  exact ⟨vs, h1, h3⟩
theorem ObR.ofL {a : Addr} {ds : List D} {vs : List V} (h1 : H a = some (.lst vs)) (h2 : Reps K fb m H ds vs) : ObR K fb m H a (.lst ds) := ⟨_, vs, h1, rfl, h2⟩
theorem ObR.imp {fb' m' : List Addr} {H' : Hp} {a : Addr} {o : O} (h : ObR K fb m H a o) (hh : ∀ u, H a = some u → H' a = some u) (hr : ∀ ds vs, Reps K fb m H ds vs → Reps K fb' m' H' ds vs) : ObR K fb' m' H' a o := by
  obtain ⟨u, vs, h1, h2, h3⟩ := h
  exact ⟨u, vs, hh _ h1, h2, hr _ _ h3⟩
def TabF (T : List (Addr × Str)) (fb m : List Addr) (H : Hp) : Prop := ∀ p ∈ T, p.1 ∉ fb ∧ p.1 ∉ m ∧ ∃ ps : Array Value, H p.1 = some (.tbl ps) ∧ TriplesOk ps.toList ∧ ∀ (pos : Pos) (cv : Value), codeAmong pos ps.toList = some cv → ∃ c, cv = .ref c ∧ H c = some (LamX.CodeO c p.2) ∧ c ∉ fb ∧ c ∉ m
theorem TabF.mv {T : List (Addr × Str)} {fb m fb' m' : List Addr} {H H' : Hp} (t : TabF T fb m H) (h : ∀ a, H a ≠ none → a ∉ fb → a ∉ m → a ∉ fb' ∧ a ∉ m' ∧ H' a = H a) : TabF T fb' m' H' := fun p hp => by
  obtain ⟨h1, h2, ps, h3, h4, h5⟩ := t p hp
  obtain ⟨k1, k2, k3⟩ := h p.1 (by rw [h3]; exact fun z => nomatch z) h1 h2
  refine ⟨k1, k2, ps, k3.trans h3, h4, fun pos cv hc => ?_⟩
  obtain ⟨c, e, h6, h7, h8⟩ := h5 pos cv hc
  obtain ⟨j1, j2, j3⟩ := h c (by rw [h6]; exact fun z => nomatch z) h7 h8
  exact ⟨c, e, j3.trans h6, j1, j2⟩
theorem TabF.tabs {T : List (Addr × Str)} {fb m : List Addr} {H : Hp} (t : TabF T fb m H) : LamX.Tabs T H := fun p hp => by
  obtain ⟨_, _, ps, h3, h4, h5⟩ := t p hp
  refine ⟨ps, h3, h4, fun pos cv hc => ?_⟩
  obtain ⟨c, e, h6, _⟩ := h5 pos cv hc
  exact ⟨c, e, h6⟩
structure Rel (K : PySem.W.Frag) (fb m : List Addr) (S : Store) (H : Hp) : Prop where
  len : m.length = S.length
  nd : m.Nodup
  ob : ∀ (n : Nat) (o : O), S[n]? = some o → ∃ a, m[n]? = some a ∧ ObR K fb m H a o
  fbd : ∀ a ∈ fb, H a ≠ none
  fbm : ∀ a ∈ fb, a ∉ m
  tab : TabF TB.tabs fb m H
  fbl : ∀ a ∈ fb, ∃ vs, H a = some (.lst vs)
theorem Rel.mem {S : Store} (r : Rel K fb m S H) {a : Addr} (h : a ∈ m) : ∃ u o vs, H a = some u ∧ Ob K o vs u := by
  obtain ⟨n, hn⟩ := List.mem_iff_getElem?.mp h
  have hl : n < S.length := by
    rw [← r.len]
    rcases Nat.lt_or_ge n m.length with z | z
    · exact z
    · rw [List.getElem?_eq_none z] at hn; cases hn
  obtain ⟨b, hb, q⟩ := r.ob n _ (List.getElem?_eq_getElem hl)
  rw [hn] at hb; cases hb
  obtain ⟨u, vs, h1, h2, _⟩ := q
  exact ⟨u, _, vs, h1, h2⟩
theorem Rel.fresh {S : Store} (r : Rel K fb m S H) {a : Addr} (h : H a = none) : a ∉ m := fun z => by
  obtain ⟨u, o, vs, e, _⟩ := r.mem z
  rw [h] at e; cases e
theorem ObR.mono {a : Addr} {o : O} (e : Ext m H m' H') (h :  ObR K fb m H a o) (hs : H' a = H a) : ObR K fb m' H' a o := h.imp (fun u hu => by rw [hs]; exact hu) fun _ _ r => r.mono e
theorem Ext.new {S : Store} (r : Rel K fb m S H) {p : Addr} {o : HO} (h : H p = none) : Ext m H m (upd H p o) := by
  refine ⟨⟨[], by simp, by simp⟩, fun a u e _ _ => ?_, fun a e => ?_, fun a u u' _ h1 h2 => ?_⟩
  · rw [upd_ne (ne_of_none e h)]; exact e
  · by_cases z : a = p
    · subst z; exact absurd h e
    · rw [upd_ne z]; exact e
  · rw [upd_ne (ne_of_none h1 h), h1] at h2
    cases h2; rfl
theorem Rel.new {S : Store} (r : Rel K fb m S H) {p : Addr} {o : HO} (h : H p = none) : Rel K fb m S (upd H p o) := by
  refine ⟨r.len, r.nd, fun n u e => ?_, fun a ha => (Ext.new r h).dom a (r.fbd a ha), r.fbm, r.tab.mv fun a q n1 n2 => ⟨n1, n2, upd_ne fun z => q (by rw [z]; exact h)⟩, fun a ha => (r.fbl a ha).imp fun vs e => by rw [upd_ne (ne_of_none e h)]; exact e⟩
  obtain ⟨a, ha, q⟩ := r.ob n u e
  refine ⟨a, ha, q.mono (Ext.new r h) (upd_ne ?_)⟩
  intro z
  subst z
  exact r.fresh h (List.mem_of_getElem? ha)
theorem Ext.own {S : Store} (r : Rel K fb m S H) {m1 : List Addr} {H1 : Hp} (e : Ext m H m1 H1) {p : Addr} (h : H p = none) (h1 : H1 p ≠ none) : Ext m H (m1 ++ [p]) H1 := by
  obtain ⟨l, hl, hn⟩ := e.more
  refine ⟨⟨l ++ [p], by rw [hl, List.append_assoc], fun a ha => ?_⟩, e.stay, e.dom, e.knd⟩
  rcases List.mem_append.mp ha with z | z
  · exact hn a z
  · rw [List.mem_singleton.mp z]; exact h
theorem Ext.wr {p : Addr} {o u0 : HO} (h : p ∈ m) (h1 : H p = some u0) (hk : kd u0 = kd o) : Ext m H m (upd H p o) := by
  refine ⟨⟨[], by simp, by simp⟩, fun a u e n _ => ?_, fun a e => ?_, fun a u u' _ h2 h3 => ?_⟩
  · rw [upd_ne (fun z => n (by rw [z]; exact h))]; exact e
  · by_cases z : a = p
    · subst z; rw [upd_same]; exact fun z => nomatch z
    · rw [upd_ne z]; exact e
  · by_cases z : a = p
    · subst z
      rw [upd_same] at h3
      rw [h1] at h2
      cases h2; cases h3
      exact hk
    · rw [upd_ne z, h2] at h3
      cases h3; rfl
theorem Rel.wrO {S : Store} (r : Rel K fb m S H) {n : Nat} {p : Addr} (h : m[n]? = some p) {o o' : O} {u : HO} {vs : List V} (ho : S[n]? = some o) (hk : o.kd = PyD.kd u) (hb : Ob K o' vs u) (q : Reps K fb m H o'.vals vs) : Ext m H m (upd H p u) ∧ Rel K fb m (S.set n o') (upd H p u) := by
  have hm := List.mem_of_getElem? h
  obtain ⟨b, hb', u0, vs0, hu0, hb0, _⟩ := r.ob n o ho
  rw [h] at hb'; cases hb'
  have e : Ext m H m (upd H p u) := Ext.wr hm hu0 (hb0.kd.trans hk)
  refine ⟨e, ⟨by rw [List.length_set]; exact r.len, r.nd, fun k o2 hk => ?_, fun a ha => e.dom a (r.fbd a ha), r.fbm, r.tab.mv fun a _ n1 n2 => ⟨n1, n2, upd_ne fun z => n2 (by rw [z]; exact hm)⟩, fun a ha => (r.fbl a ha).imp fun vs e => by rw [upd_ne fun z => r.fbm a ha (by rw [z]; exact hm)]; exact e⟩⟩
  by_cases z : k = n
  · subst z
    refine ⟨p, h, ?_⟩
    have : (S.set k o')[k]? = some o' := by
      rw [List.getElem?_set_self]
      rcases Nat.lt_or_ge k S.length with w | w
      · exact w
      · rw [List.getElem?_eq_none (by rw [List.length_set]; exact w)] at hk; cases hk
    rw [this] at hk
    cases hk
    exact ⟨u, vs, upd_same, hb, q.mono e⟩
  · rw [List.getElem?_set_ne (Ne.symm z)] at hk
    obtain ⟨a, ha, qa⟩ := r.ob k o2 hk
    refine ⟨a, ha, qa.mono e (upd_ne ?_)⟩
    intro w
    subst w
    exact z (nodup_at r.nd ha h)
theorem Rel.wr {S : Store} (r : Rel K fb m S H) {n : Nat} {p : Addr} (h : m[n]? = some p) {xs : List D} (ho : S[n]? = some (.lst xs)) {ds : List D} {vs : List V} (q : Reps K fb m H ds vs) : Ext m H m (upd H p (.lst vs)) ∧ Rel K fb m (S.set n (.lst ds)) (upd H p (.lst vs)) :=
  r.wrO h ho rfl (o' := .lst ds) rfl q
mutual
theorem Rep.weak {p : Addr} : ∀ {d : D} {v : V}, Rep K (p :: fb) m H d v → Rep K fb m H d v
  | _, _, .non => .non
  | _, _, .bl b => .bl b
  | _, _, .int i => .int i
  | _, _, .str s => .str s
  | _, _, .tup h r => .tup (h.elim (fun q => .inl ⟨q.1, q.2.1, fun z => q.2.2 (List.mem_cons_of_mem _ z)⟩) .inr) (Reps.weak r)
  | _, _, .lst q r => .lst ⟨q.1, q.2.1, fun z => q.2.2 (List.mem_cons_of_mem _ z)⟩ (Reps.weak r)
  | _, _, .scr h => .scr (h.elim (fun q => .inl ⟨q.1, q.2.1, fun z => q.2.2 (List.mem_cons_of_mem _ z)⟩) .inr)
  | _, _, .ref h => .ref h
  | _, _, .fn h => .fn h
  | _, _, .hot h => .hot h
theorem Reps.weak {p : Addr} : ∀ {ds : List D} {vs : List V}, Reps K (p :: fb) m H ds vs → Reps K fb m H ds vs
  | _, _, .nil => .nil
  | _, _, .cons r t => .cons (Rep.weak r) (Reps.weak t)
end
theorem into_get {n : Nat} {a : Addr} {l : List Addr} (h : m[n]? = some a) : (m ++ l)[n]? = some a := by
  rw [List.getElem?_append_left]
  · exact h
  · rcases Nat.lt_or_ge n m.length with z | z
    · exact z
    · rw [List.getElem?_eq_none z] at h; cases h
theorem no_into {p x : Addr} (h1 : x ∉ m) (h2 : x ∉ p :: fb) : x ∉ m ++ [p] := fun z => (List.mem_append.mp z).elim h1 fun w => h2 (by rw [List.mem_singleton.mp w]; exact List.mem_cons_self)
theorem no_guardR {p x : Addr} {u : HO} (h : H p = none) (h1 : Rd H x u) (h2 : x ∉ fb) : x ∉ p :: fb := fun z => (List.mem_cons.mp z).elim (fun w => by
  subst w
  rcases h1 with e | ⟨_, e⟩ <;> rw [h] at e <;> cases e) h2
theorem no_guard {p x : Addr} {o : HO} (h : H p = none) (h1 : H x = some o) (h2 : x ∉ fb) : x ∉ p :: fb := fun z => (List.mem_cons.mp z).elim (fun w => by subst w; rw [h] at h1; cases h1) h2
mutual
theorem Rep.into {p : Addr} : ∀ {d : D} {v : V}, Rep K (p :: fb) m H d v → Rep K fb (m ++ [p]) H d v
  | _, _, .non => .non
  | _, _, .bl b => .bl b
  | _, _, .int i => .int i
  | _, _, .str s => .str s
  | _, _, .tup h r => .tup (h.elim (fun q => .inl ⟨q.1, fun z => (List.mem_append.mp z).elim q.2.1 fun w => q.2.2 (by rw [List.mem_singleton.mp w]; exact List.mem_cons_self), fun z => q.2.2 (List.mem_cons_of_mem _ z)⟩) .inr) (Reps.into r)
  | _, _, .lst q r => .lst ⟨q.1, no_into q.2.1 q.2.2, fun z => q.2.2 (List.mem_cons_of_mem _ z)⟩ (Reps.into r)
  | _, _, .scr h => .scr (h.elim (fun q => .inl ⟨q.1, no_into q.2.1 q.2.2, fun z => q.2.2 (List.mem_cons_of_mem _ z)⟩) .inr)
  | _, _, .ref h => .ref (into_get h)
  | _, _, .fn h => .fn h
  | _, _, .hot h => .hot h
theorem Reps.into {p : Addr} : ∀ {ds : List D} {vs : List V}, Reps K (p :: fb) m H ds vs → Reps K fb (m ++ [p]) H ds vs
  | _, _, .nil => .nil
  | _, _, .cons r t => .cons (Rep.into r) (Reps.into t)
end
mutual
theorem Rep.guard {p : Addr} (h : H p = none) : ∀ {d : D} {v : V}, Rep K fb m H d v → Rep K (p :: fb) m H d v
  | _, _, .non => .non
  | _, _, .bl b => .bl b
  | _, _, .int i => .int i
  | _, _, .str s => .str s
  | _, _, .tup q r => .tup (q.elim (fun q => .inl ⟨q.1, q.2.1, fun z => (List.mem_cons.mp z).elim (fun w => by
      subst w
      obtain ⟨_, e⟩ := q.1
      rw [h] at e; cases e) q.2.2⟩) .inr) (Reps.guard h r)
  | _, _, .lst q r => .lst ⟨q.1, q.2.1, no_guardR h q.1 q.2.2⟩ (Reps.guard h r)
  | _, _, .scr q => .scr (q.elim (fun q => .inl ⟨q.1, q.2.1, no_guardR h q.1 q.2.2⟩) .inr)
  | _, _, .ref h => .ref h
  | _, _, .fn h => .fn h
  | _, _, .hot h => .hot h
theorem Reps.guard {p : Addr} (h : H p = none) : ∀ {ds : List D} {vs : List V}, Reps K fb m H ds vs → Reps K (p :: fb) m H ds vs
  | _, _, .nil => .nil
  | _, _, .cons r t => .cons (Rep.guard h r) (Reps.guard h t)
end
theorem Rel.guard {S : Store} (r : Rel K fb m S H) {p : Addr} {o : List V} (h : H p = none) : Rel K (p :: fb) m S (upd H p (.lst o)) := by
  have e := Ext.new r (o := .lst o) h
  refine ⟨r.len, r.nd, fun n u q => ?_, fun a ha => ?_, fun a ha => ?_, r.tab.mv fun a q n1 n2 => ⟨fun z => (List.mem_cons.mp z).elim (fun z => q (by rw [z]; exact h)) n1, n2, upd_ne fun z => q (by rw [z]; exact h)⟩, fun a ha => (List.mem_cons.mp ha).elim (fun z => ⟨o, by rw [z, upd_same]⟩) fun z => (r.fbl a z).imp fun vs e => by rw [upd_ne (ne_of_none e h)]; exact e⟩
  · obtain ⟨a, ha, w⟩ := r.ob n u q
    exact ⟨a, ha, w.imp (fun u hu => by rw [upd_ne (ne_of_none hu h)]; exact hu) fun _ _ rr => (rr.guard h).mono e⟩
  · rcases List.mem_cons.mp ha with z | z
    · subst z; rw [upd_same]; exact fun z => nomatch z
    · exact e.dom a (r.fbd a z)
  · rcases List.mem_cons.mp ha with z | z
    · subst z; exact r.fresh h
    · exact r.fbm a z
theorem Rel.weak {S : Store} {p : Addr} (r : Rel K (p :: fb) m S H) : Rel K fb m S H := by
  refine ⟨r.len, r.nd, fun n u q => ?_, fun a ha => r.fbd a (List.mem_cons_of_mem _ ha), fun a ha => r.fbm a (List.mem_cons_of_mem _ ha), r.tab.mv fun a _ n1 n2 => ⟨fun z => n1 (List.mem_cons_of_mem _ z), n2, rfl⟩, fun a ha => r.fbl a (List.mem_cons_of_mem _ ha)⟩
  obtain ⟨a, ha, w⟩ := r.ob n u q
  exact ⟨a, ha, w.imp (fun _ h => h) fun _ _ rr => rr.weak⟩
theorem Rel.intoO {S : Store} {p : Addr} (r : Rel K (p :: fb) m S H) (hp : p ∉ fb) {o1 : O} {u1 : HO} {vs : List V} (h : H p = some u1) (hb : Ob K o1 vs u1) (q : Reps K (p :: fb) m H o1.vals vs) : Rel K fb (m ++ [p]) (S ++ [o1]) H := by
  have hpm := r.fbm p List.mem_cons_self
  refine ⟨by rw [List.length_append, List.length_append, r.len]; rfl, ?_, fun n o hn => ?_, fun a ha => r.fbd a (List.mem_cons_of_mem _ ha), fun a ha z => ?_, r.tab.mv fun a _ n1 n2 => ⟨fun z => n1 (List.mem_cons_of_mem _ z), fun z => (List.mem_append.mp z).elim n2 fun z => n1 (by rw [List.mem_singleton.mp z]; exact List.mem_cons_self), rfl⟩, fun a ha => r.fbl a (List.mem_cons_of_mem _ ha)⟩
  · rw [List.nodup_append]
    exact ⟨r.nd, by simp, fun a ha b hb => by rw [List.mem_singleton.mp hb]; exact fun z => hpm (z ▸ ha)⟩
  · rcases Nat.lt_or_ge n S.length with z | z
    · rw [List.getElem?_append_left z] at hn
      obtain ⟨a, ha, qa⟩ := r.ob n o hn
      exact ⟨a, by rw [List.getElem?_append_left (by rw [r.len]; exact z)]; exact ha, qa.imp (fun _ h => h) fun _ _ rr => rr.into⟩
    · rw [List.getElem?_append_right z] at hn
      have : n - S.length = 0 := by
        rcases Nat.eq_zero_or_pos (n - S.length) with w | w
        · exact w
        · rw [List.getElem?_eq_none (by rw [List.length_singleton]; exact w)] at hn; cases hn
      rw [this] at hn
      cases hn
      refine ⟨p, ?_, u1, vs, h, hb, q.into⟩
      rw [List.getElem?_append_right (by rw [r.len]; exact z), r.len, this]
      rfl
  · rcases List.mem_append.mp z with w | w
    · exact r.fbm a (List.mem_cons_of_mem _ ha) w
    · rw [List.mem_singleton.mp w] at ha; exact hp ha
theorem Rel.into {S : Store} {p : Addr} (r : Rel K (p :: fb) m S H) (hp : p ∉ fb) {ds : List D} {vs : List V} (h : H p = some (.lst vs)) (q : Reps K (p :: fb) m H ds vs) : Rel K fb (m ++ [p]) (S ++ [.lst ds]) H := r.intoO hp h (o1 := .lst ds) rfl q
structure Lo (K : PySem.W.Frag) (fb m : List Addr) (H : Hp) (ρ : Ro) (σ : L2.St) : Prop where
  len : ρ.length = σ.length
  at_ : ∀ (i : Nat) (d : D), ρ[i]? = some (some d) → ∃ v, σ[i]? = some (some v) ∧ Rep K fb m H d v
theorem Lo.mono {ρ : Ro} {σ : L2.St} (e : Ext m H m' H') (l : Lo K fb m H ρ σ) : Lo K fb m' H' ρ σ := ⟨l.len, fun i d h => by
  obtain ⟨v, h1, h2⟩ := l.at_ i d h
  exact ⟨v, h1, h2.mono e⟩⟩
theorem Lo.get {ρ : Ro} {σ : L2.St} (l : Lo K fb m H ρ σ) {i : Nat} {d : D} (h : ρ.getD i none = some d) : ∃ v, σ[i]? = some (some v) ∧ Rep K fb m H d v := by
  refine l.at_ i d ?_
  rw [List.getD_eq_getElem?_getD] at h
  cases q : ρ[i]? with
  | none => rw [q] at h; cases h
  | some o => rw [q] at h; exact congrArg some h
theorem Lo.set {ρ : Ro} {σ : L2.St} (l : Lo K fb m H ρ σ) (i : Nat) {d : D} {v : V} (r : Rep K fb m H d v) : Lo K fb m H (ρ.set i (some d)) (σ.set i (some v)) := by
  refine ⟨by rw [List.length_set, List.length_set]; exact l.len, fun j e h => ?_⟩
  by_cases z : i = j
  · subst z
    rcases Nat.lt_or_ge i ρ.length with w | w
    · rw [List.getElem?_set_self w] at h
      cases h
      exact ⟨v, by rw [List.getElem?_set_self (by rw [← l.len]; exact w)], r⟩
    · rw [List.getElem?_eq_none (by rw [List.length_set]; exact w)] at h; cases h
  · rw [List.getElem?_set_ne z] at h
    obtain ⟨u, h1, h2⟩ := l.at_ j e h
    exact ⟨u, by rw [List.getElem?_set_ne z]; exact h1, h2⟩
theorem Lo.clear {ρ : Ro} {σ : L2.St} (l : Lo K fb m H ρ σ) (i : Nat) : Lo K fb m H (ρ.set i none) (σ.set i none) := by
  refine ⟨by rw [List.length_set, List.length_set]; exact l.len, fun j e h => ?_⟩
  by_cases z : i = j
  · subst z
    rcases Nat.lt_or_ge i ρ.length with w | w
    · rw [List.getElem?_set_self w] at h; cases h
    · rw [List.getElem?_eq_none (by rw [List.length_set]; exact w)] at h; cases h
  · rw [List.getElem?_set_ne z] at h
    obtain ⟨u, h1, h2⟩ := l.at_ j e h
    exact ⟨u, by rw [List.getElem?_set_ne z]; exact h1, h2⟩
theorem Lo.wipe {ρ : Ro} {σ : L2.St} (l : Lo K fb m H ρ σ) : ∀ vs : List Nat, Lo K fb m H (PyD.wipe ρ vs) (L2.wipe σ vs)
  | [] => l
  | v :: vs => (Lo.wipe l vs).clear v

theorem Rel.list {S : Store} (r : Rel K fb m S H) {d : D} {v : V} {ds : List D} (h : Rep K fb m H d v) (e : lstOf S d = some ds) : ∃ p vs, v = .ref p ∧ SqL K H p vs ∧ Reps K fb m H ds vs := by
  cases h with
  | lst h q =>
    cases e
    exact ⟨_, _, rfl, .inl h.1, q⟩
  | ref h =>
    rename_i n a
    unfold lstOf at e
    simp only at e
    split at e
    · rename_i xs hx
      cases e
      obtain ⟨b, hb, q0⟩ := r.ob _ _ hx
      obtain ⟨vs, hv, q⟩ := q0.lst
      rw [h] at hb
      cases hb
      exact ⟨_, vs, rfl, SqL.of hv, q⟩
    · cases e
  | _ => cases e
theorem Rep.tuple {v : V} {ds : List D} (h : Rep K fb m H (.tup ds) v) : ∃ p vs, v = .ref p ∧ SqT K H p vs ∧ Reps K fb m H ds vs := by
  cases h with
  | tup h q =>
    refine ⟨_, _, rfl, ?_, q⟩
    rcases h with h | h
    · obtain ⟨⟨its, e⟩, _⟩ := h
      exact SqT.ofX e
    · obtain ⟨o, its, n, a, b, c, d, z⟩ := h
      exact .inr ⟨o, its, n, a, b, d, z⟩
theorem Rep.tupX {X : Cx} {v : V} {ds : List D} (h : Rep X.K fb m H (.tup ds) v) : TyR X "tuple" v H := by
  cases h with
  | tup h q =>
    rcases h with ⟨⟨its, e⟩, _⟩ | ⟨o, its, n, a, b, c, d, z⟩
    · exact TyR.tup e
    · exact TyR.of (.inr (.inl ⟨rfl, o, a, b, c⟩))
theorem Rel.seq {S : Store} (r : Rel K fb m S H) {d : D} {v : V} {ds : List D} (h : Rep K fb m H d v) (e : seqOf S d = some ds) : ∃ p vs, v = .ref p ∧ (SqL K H p vs ∨ SqT K H p vs) ∧ Reps K fb m H ds vs := by
  cases d with
  | tup xs =>
    cases e
    obtain ⟨p, vs, h1, h2, h3⟩ := h.tuple
    exact ⟨p, vs, h1, .inr h2, h3⟩
  | lst xs => 
    obtain ⟨p, vs, h1, h2, h3⟩ := r.list h (show lstOf S (.lst xs) = some ds from e)
    exact ⟨p, vs, h1, .inl h2, h3⟩
  | ref n =>
    obtain ⟨p, vs, h1, h2, h3⟩ := r.list h (show lstOf S (.ref n) = some ds from e)
    exact ⟨p, vs, h1, .inl h2, h3⟩
  | _ => cases e
end
end PyD

namespace PyD
open PySem PySem.Spec PyProof.Rows L2
variable [TB]

def ExR (K : PySem.W.Frag) (fb m : List Addr) (H : Hp) (x : Exn) (cls : Value) (dx : Option Addr) : Prop := clsV K x.cls cls ∧ ∃ vs, FldAt m fb H x.cls dx vs ∧ Reps K fb m H x.fs vs
def Post {α β : Type} (K : PySem.W.Frag) (E : XK) (fb : List Addr) (rp : List Addr → Hp → α → β → Prop) (m : List Addr) (H : Hp) (Q : β → Hp → Prop) : R α → Prop
  | .ok a S => ∀ m' H' b, Ext m H m' H' → Rel K fb m' S H' → rp m' H' a b → Q b H'
  | .err x S => ∀ m' H' cls dx, Ext m H m' H' → Rel K fb m' S H' → ExR K fb m' H' x cls dx → E cls dx H'
  | .bad => False
section
variable {K : PySem.W.Frag} {E : XK} {fb m m1 : List Addr} {H H1 : Hp} {α β γ δ : Type} {rp : List Addr → Hp → α → β → Prop} {rq : List Addr → Hp → γ → δ → Prop}
theorem Post.mono {Q : β → Hp → Prop} {r : R α} (e : Ext m H m1 H1) (h : Post K E fb rp m H Q r) : Post K E fb rp m1 H1 Q r := by
  cases r with
  | ok a S => exact fun m' H' b e' r' p => h m' H' b (e.trans e') r' p
  | err x S => exact fun m' H' c d e' r' p => h m' H' c d (e.trans e') r' p
  | bad => exact h
theorem Post.imp {Q Q' : β → Hp → Prop} {r : R α} (h : Post K E fb rp m H Q r) (hq : ∀ b H, Q b H → Q' b H) : Post K E fb rp m H Q' r := by
  cases r with
  | ok a S => exact fun m' H' b e' r' p => hq _ _ (h m' H' b e' r' p)
  | err x S => exact h
  | bad => exact h
theorem Post.bd {Q : δ → Hp → Prop} {r : R α} {k : α → Store → R γ} (h : Post K E fb rq m H Q (r.bd k)) :
    Post K E fb rp m H (fun x H1 => ∃ m1 S1 a, Ext m H m1 H1 ∧ Rel K fb m1 S1 H1 ∧ rp m1 H1 a x ∧ Post K E fb rq m1 H1 Q (k a S1)) r := by
  cases r with
  | ok a S => exact fun m' H' b e r' p => ⟨m', S, a, e, r', p, h.mono e⟩
  | err x S => exact h
  | bad => exact h
theorem Post.now {Q : β → Hp → Prop} {S : Store} {a : α} {b : β} (r : Rel K fb m S H) (p : rp m H a b) (h : Post K E fb rp m H Q (.ok a S)) : Q b H := h m H b (Ext.refl m H) r p
end
abbrev rpE (K : PySem.W.Frag) (fb : List Addr) : List Addr → Hp → D → V → Prop := fun m H d v => Rep K fb m H d v
abbrev rpA (K : PySem.W.Frag) (fb : List Addr) : List Addr → Hp → List D → List V → Prop := fun m H d v => Reps K fb m H d v
abbrev rpT : List Addr → Hp → Bool → Bool → Prop := fun _ _ a b => b = a
def PostL (K : PySem.W.Frag) (E : XK) (fb : List Addr) (m : List Addr) (H : Hp) (Q : VK) : R (List D) → Prop
  | .ok ds S => ∀ m' H' p vs, Ext m H m' H' → Rel K (p :: fb) m' S H' → H p = none → p ∉ fb → H' p = some (.lst vs) → Reps K (p :: fb) m' H' ds vs → Q (.ref p) H'
  | .err x S => ∀ m' H' cls dx, Ext m H m' H' → Rel K fb m' S H' → ExR K fb m' H' x cls dx → E cls dx H'
  | .bad => False
def tE (K : PySem.W.Frag) (W : WX) (ev : Ro → Store → R D) : TE := fun σ H Q => ∃ fb m S ρ, Rel K fb m S H ∧ Lo K fb m H ρ σ ∧ Post K (WE W σ) fb (rpE K fb) m H Q (ev ρ S)
def tA (K : PySem.W.Frag) (W : WX) (ev : Ro → Store → R (List D)) : TA := fun σ H Q => ∃ fb m S ρ, Rel K fb m S H ∧ Lo K fb m H ρ σ ∧ Post K (WE W σ) fb (rpA K fb) m H Q (ev ρ S)
def tT (K : PySem.W.Frag) (W : WX) (ev : Ro → Store → R Bool) : TT := fun σ H Q => ∃ fb m S ρ, Rel K fb m S H ∧ Lo K fb m H ρ σ ∧ Post K (WE W σ) fb rpT m H Q (ev ρ S)
def tL (K : PySem.W.Frag) (W : WX) (ev : Ro → Store → R (List D)) : TE := fun σ H Q => ∃ fb m S ρ, Rel K fb m S H ∧ Lo K fb m H ρ σ ∧ PostL K (WE W σ) fb m H Q (ev ρ S)
theorem _root_.L2.PE.imp {X : Cx} {e : Expr} {t t' : TE} (h : PE X e t) (i : ∀ σ H Q, t' σ H Q → t σ H Q) : PE X e t' := ⟨fun pins s σ H Q I q => h.run pins s σ H Q I (i _ _ _ q)⟩
theorem _root_.L2.PT.imp {X : Cx} {e : Expr} {t t' : TT} (h : PT X e t) (i : ∀ σ H Q, t' σ H Q → t σ H Q) : PT X e t' := ⟨fun pins s σ H Q I q => h.run pins s σ H Q I (i _ _ _ q)⟩
theorem _root_.L2.PW.imp {X : Cx} {e : Expr} {t t' : TT} (h : PW X e t) (i : ∀ σ H Q, t' σ H Q → t σ H Q) : PW X e t' := ⟨fun w pins s σ H Q I q => h.run w pins s σ H Q I (i _ _ _ q)⟩
theorem _root_.L2.PA.imp {X : Cx} {es : List Expr} {t t' : TA} (h : PA X es t) (i : ∀ σ H Q, t' σ H Q → t σ H Q) : PA X es t' := ⟨fun p pins s σ H Q I q => h.run p pins s σ H Q I (i _ _ _ q)⟩
theorem _root_.L2.PK.imp {X : Cx} {es : List Keyword} {t t' : TA} (h : PK X es t) (i : ∀ σ H Q, t' σ H Q → t σ H Q) : PK X es t' := ⟨fun p pins s σ H Q I q => h.run p pins s σ H Q I (i _ _ _ q)⟩
theorem _root_.L2.PS.imp {X : Cx} {e : Stmt} {t t' : TS} (h : PS X e t) (i : ∀ D σ H, t' D σ H → t D σ H) : PS X e t' := ⟨fun pins s σ H D I q => h.run pins s σ H D I (i _ _ _ q)⟩
theorem _root_.L2.PSs.imp {X : Cx} {e : List Stmt} {t t' : TS} (h : PSs X e t) (i : ∀ D σ H, t' D σ H → t D σ H) : PSs X e t' := ⟨fun pins s σ H D I q => h.run pins s σ H D I (i _ _ _ q)⟩
theorem _root_.L2.PI.imp {X : Cx} {tg it : Expr} {t t' : TI} (h : PI X tg it t) (i : ∀ σ H Q, t' σ H Q → t σ H Q) : PI X tg it t' := ⟨fun pins s σ H D I q => h.run pins s σ H D I (i _ _ _ q)⟩

def opB : Bo → Operator
  | .add => .Add | .sub => .Sub | .mul => .Mult | .fdiv => .FloorDiv | .mod => .Mod | .pow => .Pow
def opC : Co → CmpOp
  | .lt => .Lt | .le => .LtE | .gt => .Gt | .ge => .GtE | .eq => .Eq | .ne => .NotEq

def rB (K : PySem.W.Frag) (o : Bo) : R2 := fun x y H Q => ∃ E fb m S d e, Rel K fb m S H ∧ Rep K fb m H d x ∧ Rep K fb m H e y ∧ Post K E fb (rpE K fb) m H Q (opt (bin S o d e) S)
theorem szOk {n : Nat} (h : sizeOk n) : n ≤ sizeLine := Nat.le_trans h (by rw [sizeLine_eq]; decide)
theorem bin_ints {S : Store} {o : Bo} {i j : Int} {r : D} (h : bin S o (.int i) (.int j) = some r) : ∃ k, r = .int k := by
  cases o <;> simp only [bin] at h
  · exact ⟨_, (Option.some.inj h).symm⟩
  · exact ⟨_, (Option.some.inj h).symm⟩
  · exact ⟨_, (Option.some.inj (need_some h).2).symm⟩
  · exact ⟨_, (Option.some.inj (need_some h).2).symm⟩
  · exact ⟨_, (Option.some.inj (need_some h).2).symm⟩
  · exact ⟨_, (Option.some.inj (need_some h).2).symm⟩
theorem Post.opt {K : PySem.W.Frag} {E : XK} {fb m : List Addr} {H : Hp} {α β : Type} {rp : List Addr → Hp → α → β → Prop} {Q : β → Hp → Prop} {o : Option α} {S : Store} (h : Post K E fb rp m H Q (opt o S)) : ∃ a, o = some a ∧ Post K E fb rp m H Q (.ok a S) := by
  cases o with
  | none => exact h.elim
  | some a => exact ⟨a, rfl, h⟩
theorem Post.newT {K : PySem.W.Frag} {E : XK} {fb m : List Addr} {H : Hp} {Q : VK} {S : Store} {ds : List D} {vs : List V} (r : Rel K fb m S H) (p : Reps K fb m H ds vs) (h : Post K E fb (rpE K fb) m H Q (.ok (.tup ds) S)) : NewT H Q vs := fun q its hq _ =>
  h m _ _ (Ext.new r hq) (r.new hq) (.tup (.inl ⟨⟨its, upd_same⟩, r.fresh hq, fun z => r.fbd q z hq⟩) (p.mono (Ext.new r hq)))
theorem Post.newL {K : PySem.W.Frag} {E : XK} {fb m : List Addr} {H : Hp} {Q : VK} {S : Store} {ds : List D} {vs : List V} (r : Rel K fb m S H) (p : Reps K fb m H ds vs) (h : Post K E fb (rpE K fb) m H Q (.ok (.lst ds) S)) : ∀ q, H q = none → Q (.ref q) (upd H q (.lst vs)) := fun q hq =>
  h m _ _ (Ext.new r hq) (r.new hq) (.lst ⟨.inl upd_same, r.fresh hq, fun z => r.fbd q z hq⟩ (p.mono (Ext.new r hq)))
theorem PostL.new {K : PySem.W.Frag} {E : XK} {fb m : List Addr} {H : Hp} {Q : VK} {S : Store} {ds : List D} {vs : List V} (r : Rel K fb m S H) (p : Reps K fb m H ds vs) (h : PostL K E fb m H Q (.ok ds S)) : ∀ q, H q = none → Q (.ref q) (upd H q (.lst vs)) := fun q hq =>
  h m _ q vs (Ext.new r hq) (r.guard hq) hq (fun z => r.fbd q z hq) upd_same ((p.guard hq).mono (Ext.new r hq))
section
variable {X : Cx}
theorem tup_nil {K : PySem.W.Frag} {fb m : List Addr} {H : Hp} {vs : List V} (h : Reps K fb m H [] vs) : vs = [] := by cases h; rfl
def rCatR : R2 := fun x y H Q => ∃ l b xs zs, x = .ref l ∧ y = .ref b ∧ Rd H l (.lst xs) ∧ Rd H b (.lst zs) ∧ xs.length + zs.length ≤ sizeLine ∧ ∀ p, H p = none → Q (.ref p) (upd H p (.lst (xs ++ zs)))
theorem op_catR : OpR X (binaryOp .Add) rCatR := by
  intro pins s σ H x y v u Q I rx ry ⟨l, b, xs, zs, ex, ey, hH, hB, hz, q⟩
  subst ex; subst ey
  cases rx; cases ry
  obtain ⟨z, ws, n, r, e⟩ := hH.ok I.hok
  obtain ⟨z2, ws2, n2, r2, e2⟩ := hB.ok I.hok
  have l1 : xs.length = ws.length := r.length
  have l2 : zs.length = ws2.length := r2.length
  refine PySem.P.add_list e e2 ?_ (by rw [List.size_toArray, List.size_toArray]; omega)
  have ea : ws.toArray ++ ws2.toArray = (ws ++ ws2).toArray := by simp
  rw [ea]
  exact ⟨.ref _, _, I.lnew (t' := s.toks) (r.append r2) (by rw [List.length_append]; omega), rfl, q _ I.fresh⟩
theorem Rel.listR {K : PySem.W.Frag} {fb m : List Addr} {S : Store} {H : Hp} (r : Rel K fb m S H) {d : D} {v : V} {ds : List D} (h : Rep K fb m H d v) (e : lstOf S d = some ds) : ∃ p vs, v = .ref p ∧ Rd H p (.lst vs) ∧ Reps K fb m H ds vs := by
  cases d with
  | lst xs =>
    cases e
    cases h with
    | lst q rr => exact ⟨_, _, rfl, q.1, rr⟩
  | ref n =>
    unfold lstOf at e
    simp only at e
    split at e
    · rename_i xs hx
      cases e
      cases h with
      | ref h =>
        obtain ⟨b, hb, q0⟩ := r.ob _ _ hx
        obtain ⟨vs, hv, rr⟩ := q0.lst
        rw [h] at hb
        cases hb
        exact ⟨_, vs, rfl, .inl hv, rr⟩
    · cases e
  | _ => cases e
theorem catL_inv {S : Store} {x y : D} {zs : List D} (h : catL S x y = some zs) : ∃ xs ys, lstOf S x = some xs ∧ lstOf S y = some ys ∧ sizeOk (xs.length + ys.length) ∧ zs = xs ++ ys := by
  unfold catL at h
  split at h
  · rename_i xs ys h1 h2
    obtain ⟨h3, h4⟩ := need_some h
    exact ⟨xs, ys, h1, h2, h3, (Option.some.inj h4).symm⟩
  · cases h
theorem bin_inv {S : Store} {o : Bo} {d e a : D} (h : bin S o d e = some a) : (∃ i j, d = .int i ∧ e = .int j) ∨ (o = .add ∧ ∃ xs ys, d = .tup xs ∧ e = .tup ys ∧ need (sizeOk (xs.length + ys.length)) (some (.tup (xs ++ ys))) = some a) ∨
    (o = .mul ∧ ∃ xs j, d = .tup xs ∧ e = .int j ∧ need (1 ≤ j ∧ j ≤ 1000 ∧ xs ≠ [] ∧ xs.length ≤ 1000) (some (.tup (List.replicate j.toNat xs).flatten)) = some a) ∨
    (o = .add ∧ ∃ x y, d = .str x ∧ e = .str y ∧ need (sizeOk (x.length + y.length)) (some (.str (x ++ y))) = some a) ∨ (o = .add ∧ ∃ zs, catL S d e = some zs ∧ a = .lst zs) ∨
    (o = .mul ∧ ∃ xs j, lstOf S d = some xs ∧ e = .int j ∧ (0 ≤ j ∧ j ≤ 1000 ∧ xs.length ≤ 1000) ∧ a = .lst (List.replicate j.toNat xs).flatten) := by
  unfold bin at h
  split at h
  · exact .inl ⟨_, _, rfl, rfl⟩
  · exact .inl ⟨_, _, rfl, rfl⟩
  · exact .inl ⟨_, _, rfl, rfl⟩
  · exact .inl ⟨_, _, rfl, rfl⟩
  · exact .inl ⟨_, _, rfl, rfl⟩
  · exact .inl ⟨_, _, rfl, rfl⟩
  · exact .inr (.inl ⟨rfl, _, _, rfl, rfl, h⟩)
  · exact .inr (.inr (.inl ⟨rfl, _, _, rfl, rfl, h⟩))
  · exact .inr (.inr (.inr (.inl ⟨rfl, _, _, rfl, rfl, h⟩)))
  · obtain ⟨zs, h1, h2⟩ := Option.map_eq_some_iff.mp h
    exact .inr (.inr (.inr (.inr (.inl ⟨rfl, zs, h1, h2.symm⟩))))
  · obtain ⟨xs, h1, h2⟩ := Option.bind_eq_some_iff.mp h
    obtain ⟨h3, h4⟩ := need_some h2
    exact .inr (.inr (.inr (.inr (.inr ⟨rfl, xs, _, h1, rfl, h3, (Option.some.inj h4).symm⟩))))
  · cases h
def rRepR : R2 := fun x y H Q => ∃ l k xs, x = .ref l ∧ y = .int k ∧ Rd H l (.lst xs) ∧ -(2 ^ 63) ≤ k ∧ k < 2 ^ 63 ∧ xs.length * k.toNat ≤ sizeLine ∧ ∀ p, H p = none → Q (.ref p) (upd H p (.lst (List.replicate k.toNat xs).flatten))
theorem op_repR : OpR X (binaryOp .Mult) rRepR := by
  intro pins s σ H x y v u Q I rx ry ⟨l, k, xs, ex, ey, hH, h1, h2, hz, q⟩
  subst ex; subst ey
  cases rx
  obtain ⟨t, rfl⟩ := ry
  obtain ⟨z, ws, n, r, e⟩ := hH.ok I.hok
  have hl : xs.length = ws.length := r.length
  have hlen : ws.toArray.size * k.toNat ≤ sizeLine := by rw [List.size_toArray, ← hl]; exact hz
  have hnew : List.foldl (fun x1 x2 => x1 ++ x2) #[] (List.replicate (if ws.toArray.isEmpty = true then 0 else k.toNat) ws.toArray) = (List.replicate k.toNat ws).flatten.toArray := by
    rw [size_rep]
    cases ws with
    | nil => simp
    | cons a r' => rw [if_neg (by simp)]
  refine wpAny_binaryOp_repeat_ref (T := "list") (U := "int") (by decide) ⟨_, e, rfl⟩ (fun s' => typeIs_int s' k t) noFill_list_mul F.fills_int_mul F.slot_int_rmul repeat_list F.slot_int_index.lookup
    (call_meets F.slot_int_rmul (typeIs_int s k t) F.entry_int_rmul (F.args_int_rmul_2 _ _) (int___rmul___int_list k t l ws.toArray n)
      ⟨e, rfl, ⟨_, e, rfl⟩, call_meets F.slot_list_mul ⟨_, e, rfl⟩ F.entry_list_mul (F.args_list_mul_2 _ _) (AutoListH.list___mul___list_int_3 l ws.toArray n k t
        (by rw [fitsIndex_both h1 h2]; exact Bool.false_ne_true) (by have : (sizeLine : Nat) ≤ (2 ^ 63 - 1) / 8 := by { decide }
                                                                     omega) (by rw [notLongL hlen]; exact Bool.false_ne_true)) ⟨e, ?_⟩⟩)
  rw [hnew]
  exact ⟨.ref _, _, I.lnew (t' := s.toks) (r.rep k.toNat) (by rw [PyProof.Rows.lm_len_rep_flat, Nat.mul_comm]; exact hz), rfl, q _ I.fresh⟩
theorem op_bin (o : Bo) : OpR X (binaryOp (opB o)) (rB X.K o) := by
  intro pins s σ H x y v u Q I rx ry ⟨E, fb, m, S, d, e, r, rd, re, h⟩
  obtain ⟨a, ha, h⟩ := h.opt
  rcases bin_inv ha with ⟨i, j, rfl, rfl⟩ | ⟨rfl, xs, ys, rfl, rfl, hb⟩ | ⟨rfl, xs, j, rfl, rfl, hb⟩ | ⟨rfl, a1, a2, rfl, rfl, hb⟩ | ⟨rfl, zs, hb, rfl⟩ | ⟨rfl, xs, j, hb, rfl, ⟨h1, h2, h3⟩, rfl⟩
  · cases rd
    cases re
    cases o with
    | add => cases ha; exact op_add pins s σ H _ _ v u Q I rx ry ⟨i, j, rfl, rfl, h.now r (.int _)⟩
    | sub => cases ha; exact op_sub pins s σ H _ _ v u Q I rx ry ⟨i, j, rfl, rfl, h.now r (.int _)⟩
    | mul =>
      obtain ⟨h1, h2⟩ := need_some ha
      cases h2
      exact op_mulW pins s σ H _ _ v u Q I rx ry ⟨i, j, rfl, rfl, h1, h.now r (.int _)⟩
    | fdiv =>
      obtain ⟨h1, h2⟩ := need_some ha
      cases h2
      exact op_fdivW pins s σ H _ _ v u Q I rx ry ⟨i, j, rfl, rfl, h1, h.now r (.int _)⟩
    | mod =>
      obtain ⟨h1, h2⟩ := need_some ha
      cases h2
      exact op_mod pins s σ H _ _ v u Q I rx ry ⟨i, j, rfl, rfl, h1, h.now r (.int _)⟩
    | pow =>
      obtain ⟨h1, h2⟩ := need_some ha
      cases h2
      exact op_pow pins s σ H _ _ v u Q I rx ry ⟨i, j, rfl, rfl, h1, h.now r (.int _)⟩
  · obtain ⟨h1, h5⟩ := need_some hb
    cases h5
    obtain ⟨p, vs, rfl, hT, q⟩ := rd.tuple
    obtain ⟨p2, vs2, rfl, hT2, q2⟩ := re.tuple
    refine op_catX pins s σ H _ _ v u Q I rx ry ⟨p, p2, vs, vs2, rfl, rfl, hT, hT2, by rw [← q.length, ← q2.length]; exact szOk h1, fun z => ?_, fun _ z => ?_, fun _ _ => h.newT r (q.app q2)⟩
    · subst z; cases q
      exact h.now r re
    · subst z; cases q2
      rw [List.append_nil] at h
      exact h.now r rd
  · obtain ⟨⟨h1, h2, h3, h4⟩, h5⟩ := need_some hb
    cases h5
    obtain ⟨p, vs, rfl, hT, q⟩ := rd.tuple
    cases re
    by_cases hj : j = 1
    · subst hj
      refine op_rep1 pins s σ H _ _ v u Q I rx ry ⟨p, vs, rfl, rfl, hT, ?_⟩
      have e : (List.replicate (1 : Int).toNat xs).flatten = xs := by simp
      rw [e] at h
      exact h.now r rd
    · exact op_repX pins s σ H _ _ v u Q I rx ry ⟨p, j, vs, rfl, rfl, hT, fun z => h3 (by rw [z] at q; cases q; rfl), by omega, h2, by rw [← q.length]; exact h4, h.newT r (q.reps _)⟩
  · obtain ⟨h1, h2⟩ := need_some hb
    cases h2
    cases rd
    cases re
    exact op_add_str pins s σ H _ _ v u Q I rx ry ⟨a1, a2, rfl, rfl, szOk h1, h.now r (.str _)⟩
  · obtain ⟨xs, ys, e1, e2, hz, rfl⟩ := catL_inv hb
    obtain ⟨p, vs, rfl, hp, q⟩ := r.listR rd e1
    obtain ⟨p2, vs2, rfl, hp2, q2⟩ := r.listR re e2
    exact op_catR pins s σ H _ _ v u Q I rx ry ⟨p, p2, vs, vs2, rfl, rfl, hp, hp2, by rw [← q.length, ← q2.length]; exact szOk hz, h.newL r (q.app q2)⟩
  · obtain ⟨p, vs, rfl, hp, q⟩ := r.listR rd hb
    cases re
    have hl := q.length
    refine op_repR pins s σ H _ _ v u Q I rx ry ⟨p, j, vs, rfl, rfl, hp, by omega, by omega, ?_, h.newL r (q.reps _)⟩
    rw [← hl, sizeLine_eq]
    have a1 : xs.length * j.toNat ≤ 1000 * 1000 := Nat.mul_le_mul h3 (by omega)
    omega
mutual
theorem pd_dp {K : PySem.W.Frag} {fb m : List Addr} {H : Hp} : ∀ {d : D} {v : V} {p : PyData}, Rep K fb m H d v → d.pd = some p → Dp K H v p
  | _, _, _, .non, e => by cases e; exact .non
  | _, _, _, .bl b, e => by cases e; exact .bl b
  | _, _, _, .int i, e => by cases e; exact .int i
  | _, _, _, .str i, e => by cases e; exact .str i
  | _, _, _, .tup h r, e => by
    rw [D.pd] at e
    obtain ⟨ps, e1, e2⟩ := Option.map_eq_some_iff.mp e
    subst e2
    exact .tup (h.elim (fun ⟨⟨its, q⟩, _⟩ => SqT.ofX q) fun ⟨o, its, n, a, b, c, d, z⟩ => .inr ⟨o, its, n, a, b, d, z⟩) (pds_dp r e1)
  | _, _, _, .lst h r, e => by
    rw [D.pd] at e
    obtain ⟨ps, e1, e2⟩ := Option.map_eq_some_iff.mp e
    subst e2
    exact .lst (.inl h.1) (pds_dp r e1)
  | _, _, _, .ref h, e => by cases e
  | _, _, _, .fn h, e => by cases e
  | _, _, _, .scr h, e => by cases e
  | _, _, _, .hot _, e => by cases e
theorem pds_dp {K : PySem.W.Frag} {fb m : List Addr} {H : Hp} : ∀ {ds : List D} {vs : List V} {ps : List PyData}, Reps K fb m H ds vs → D.pds ds = some ps → DpAll K H vs ps
  | _, _, _, .nil, e => by cases e; exact .nil
  | _, _, _, .cons r t, e => by
    rw [D.pds] at e
    split at e
    · rename_i p qs h1 h2
      cases e
      exact .cons (pd_dp r h1) (pds_dp t h2)
    · cases e
end
theorem pdS_dp {K : PySem.W.Frag} {fb m : List Addr} {S : Store} {H : Hp} (r : Rel K fb m S H) {d : D} {v : V} {p : PyData} (h : Rep K fb m H d v) (e : pdS S d = some p) : Dp K H v p := by
  cases d with
  | ref n =>
    unfold pdS at e
    simp only at e
    split at e
    · rename_i xs hx
      obtain ⟨ps, e1, e2⟩ := Option.map_eq_some_iff.mp e
      subst e2
      obtain ⟨q, vs, rfl, hl, rr⟩ := r.list h (show lstOf S (.ref n) = some xs by simp only [lstOf, hx])
      exact .lst hl (pds_dp rr e1)
    · cases e
  | _ => exact pd_dp h e
def rC (K : PySem.W.Frag) (o : Co) : R2 := fun x y H Q => ∃ fb m S d e, Rel K fb m S H ∧ Rep K fb m H d x ∧ Rep K fb m H e y ∧ ∃ b, cmp S o d e = some b ∧ Q (.bl b) H
theorem op_cmp (hu : X.A.units + 64 < cLine) (o : Co) : OpR X (compareOp (opC o)) (rC X.K o) := by
  intro pins s σ H x y v u Q I rx ry ⟨fb, m, S, d, e, r, rd, re, b, hb, q⟩
  have heq : ∀ b, eqD S d e = some b → ∃ p q, Dp X.K H x p ∧ Dp X.K H y q ∧ SeqAt.shaped p = true ∧ SeqAt.shaped q = true ∧ b = PyData.eqv p q := fun b h => by
    unfold eqD at h
    split at h
    · rename_i p q h1 h2
      obtain ⟨⟨h3, h4⟩, h5⟩ := need_some h
      exact ⟨p, q, pdS_dp r rd h1, pdS_dp r re h2, h3, h4, (Option.some.inj h5).symm⟩
    · cases h
  cases o with
  | eq =>
    obtain ⟨p, w, h1, h2, h3, h4, rfl⟩ := heq b (by cases d <;> cases e <;> exact hb)
    exact op_eqD hu pins s σ H _ _ v u Q I rx ry ⟨p, w, h1, h2, h3, h4, q⟩
  | ne =>
    have hb' : (eqD S d e).map not = some b := by cases d <;> cases e <;> exact hb
    obtain ⟨c, hc, rfl⟩ := Option.map_eq_some_iff.mp hb'
    obtain ⟨p, w, h1, h2, h3, h4, rfl⟩ := heq c hc
    exact op_neD hu pins s σ H _ _ v u Q I rx ry ⟨p, w, h1, h2, h3, h4, q⟩
  | lt => cases d <;> cases e <;> first | (cases hb; done) | (cases rd; cases re; cases hb; exact op_lt pins s σ H _ _ v u Q I rx ry ⟨_, _, rfl, rfl, q⟩)
  | le => cases d <;> cases e <;> first | (cases hb; done) | (cases rd; cases re; cases hb; exact op_le pins s σ H _ _ v u Q I rx ry ⟨_, _, rfl, rfl, q⟩)
  | gt => cases d <;> cases e <;> first | (cases hb; done) | (cases rd; cases re; cases hb; exact op_gt pins s σ H _ _ v u Q I rx ry ⟨_, _, rfl, rfl, q⟩)
  | ge => cases d <;> cases e <;> first | (cases hb; done) | (cases rd; cases re; cases hb; exact op_ge pins s σ H _ _ v u Q I rx ry ⟨_, _, rfl, rfl, q⟩)
end
end PyD

namespace PyD
open PySem PySem.Spec PyProof.Rows L2
variable [TB]
section
variable {X : Cx} {W : WX} {a b c : Expr} {fa ff fc : Ro → Store → R D} {pos : Pos}
theorem s_var {i : Nat} {x : Str} (hN : X.N[i]? = some x) (hv : Vis X.env.scope x) (hd : (x == ("__debug__" : Str)) = false) (hcd : (x == ("__classdict__" : Str)) = false) : PE X (.Name x pos) (tE X.K W fun ρ S => opt (ρ.getD i none) S) :=
  (pe_var hN hv hd hcd).imp fun σ H Q ⟨fb, m, S, ρ, r, l, h⟩ => by
    obtain ⟨d, e, h⟩ := h.opt
    obtain ⟨v, h1, h2⟩ := l.get e
    exact ⟨v, h1, h.now r h2⟩
theorem s_cst {K : PySem.W.Frag} {W : WX} {d : D} {v : V} (hr : ∀ fb m H, Rep K fb m H d v) {σ : L2.St} {H : Hp} {Q : VK} (h : tE K W (fun _ S => .ok d S) σ H Q) : tC v σ H Q := by
  obtain ⟨fb, m, S, ρ, r, l, h⟩ := h
  exact h.now r (hr fb m H)
theorem s_bin (o : Bo) (ha : PE X a (tE X.K W fa)) (hb : PE X b (tE X.K W ff)) : PE X (.BinOp a (opB o) b pos) (tE X.K W fun ρ S => (fa ρ S).bd fun x S1 => (ff ρ S1).bd fun y S2 => opt (bin S2 o x y) S2) :=
  (pe_op (op_bin o) ha hb).imp fun σ H Q ⟨fb, m, S, ρ, r, l, h⟩ =>
    ⟨fb, m, S, ρ, r, l, h.bd.imp fun x H1 ⟨m1, S1, d, e1, r1, p1, h1⟩ =>
      ⟨fb, m1, S1, ρ, r1, l.mono e1, h1.bd.imp fun y H2 ⟨m2, S2, d2, e2, r2, p2, h2⟩ => ⟨_, fb, m2, S2, d, d2, r2, p1.mono e2, p2, h2⟩⟩⟩
theorem s_neg (ha : PE X a (tE X.K W fa)) : PE X (.UnaryOp .USub a pos) (tE X.K W fun ρ S => (fa ρ S).bd fun x S1 => match x with | .int i => .ok (.int (-i)) S1 | _ => .bad) :=
  (pe_un un_neg ha).imp fun σ H Q ⟨fb, m, S, ρ, r, l, h⟩ =>
    ⟨fb, m, S, ρ, r, l, h.bd.imp fun x H1 ⟨m1, S1, d, e1, r1, p1, h1⟩ => by
      cases d with
      | int i => cases p1; exact ⟨i, rfl, h1.now r1 (.int _)⟩
      | _ => exact h1.elim⟩
theorem cmp_post {K : PySem.W.Frag} {E : XK} {fb m : List Addr} {H : Hp} {S : Store} {Q : VK} {o : Option Bool} (r : Rel K fb m S H) (h : Post K E fb (rpE K fb) m H Q (opt (o.map .bl) S)) : ∃ b, o = some b ∧ Q (.bl b) H := by
  obtain ⟨d, e, h⟩ := h.opt
  obtain ⟨b, e1, rfl⟩ := Option.map_eq_some_iff.mp e
  exact ⟨b, e1, h.now r (.bl b)⟩
theorem s_cmp (hu : X.A.units + 64 < cLine) (o : Co) (ha : PE X a (tE X.K W fa)) (hb : PE X b (tE X.K W ff)) : PE X (.Compare a [opC o] [b] pos) (tE X.K W fun ρ S => (fa ρ S).bd fun x S1 => (ff ρ S1).bd fun y S2 => opt ((cmp S2 o x y).map .bl) S2) :=
  (pe_cmpR (op_cmp hu o) ha hb (nomark b (by cases o <;> decide) (by cases o <;> decide))).imp fun σ H Q ⟨fb, m, S, ρ, r, l, h⟩ =>
    ⟨fb, m, S, ρ, r, l, h.bd.imp fun x H1 ⟨m1, S1, d, e1, r1, p1, h1⟩ =>
      ⟨fb, m1, S1, ρ, r1, l.mono e1, h1.bd.imp fun y H2 ⟨m2, S2, d2, e2, r2, p2, h2⟩ => ⟨fb, m2, S2, d, d2, r2, p1.mono e2, p2, cmp_post r2 h2⟩⟩⟩
theorem Rep.isNon {K : PySem.W.Frag} {fb m : List Addr} {H : Hp} {d : D} {v : V} (h : Rep K fb m H d v) : decide (v = .non) = isNon d := by
  cases h <;> rfl
theorem s_isn {j pos'} (ha : PE X a (tE X.K W fa)) : PE X (.Compare a [.Is] [.Constant .none j pos'] pos) (tE X.K W fun ρ S => (fa ρ S).bd fun x S1 => .ok (.bl (isNon x)) S1) :=
  (pe_cmp (pc_isN ha) rfl).imp fun σ H Q ⟨fb, m, S, ρ, r, l, h⟩ =>
    ⟨fb, m, S, ρ, r, l, h.bd.imp fun x H1 ⟨m1, S1, d, e1, r1, p1, h1⟩ => by rw [p1.isNon]; exact h1.now r1 (.bl _)⟩
theorem s_ntn {j pos'} (ha : PE X a (tE X.K W fa)) : PE X (.Compare a [.IsNot] [.Constant .none j pos'] pos) (tE X.K W fun ρ S => (fa ρ S).bd fun x S1 => .ok (.bl (!isNon x)) S1) :=
  (pe_cmp (pc_notN ha) rfl).imp fun σ H Q ⟨fb, m, S, ρ, r, l, h⟩ =>
    ⟨fb, m, S, ρ, r, l, h.bd.imp fun x H1 ⟨m1, S1, d, e1, r1, p1, h1⟩ => by rw [p1.isNon]; exact h1.now r1 (.bl _)⟩
theorem chain_imp {K : PySem.W.Frag} {W : WX} {o p : Co} {ga gb gc : Ro → Store → R D} {σ : L2.St} {H : Hp} {Q : VK}
    (h : tE K W (fun ρ S => (ga ρ S).bd fun x S1 => (gb ρ S1).bd fun y S2 => match cmp S2 o x y with
      | some true => (gc ρ S2).bd fun z S3 => opt ((cmp S3 p y z).map .bl) S3
      | some false => .ok (.bl false) S2
      | none => .bad) σ H Q) : tChain (rC K o) (rC K p) (tE K W ga) (tE K W gb) (tE K W gc) σ H Q := by
  obtain ⟨fb, m, S, ρ, r, l, h⟩ := h
  refine ⟨fb, m, S, ρ, r, l, h.bd.imp fun x H1 ⟨m1, S1, d, e1, r1, p1, h1⟩ => ⟨fb, m1, S1, ρ, r1, l.mono e1, h1.bd.imp fun y H2 ⟨m2, S2, d2, e2, r2, p2, h2⟩ => ⟨fb, m2, S2, d, d2, r2, p1.mono e2, p2, ?_⟩⟩⟩
  cases hc : cmp S2 o d d2 with
  | none => simp only [hc] at h2; exact h2.elim
  | some k =>
    simp only [hc] at h2
    refine ⟨k, rfl, k, rfl, ?_⟩
    cases k with
    | false => exact iteF (h2.now r2 (.bl _))
    | true => exact iteT ⟨fb, m2, S2, ρ, r2, (l.mono e1).mono e2, h2.bd.imp fun z H3 ⟨m3, S3, d3, e3, r3, p3, h3⟩ => ⟨fb, m3, S3, d2, d3, r3, p2.mono e3, p3, cmp_post r3 h3⟩⟩
theorem s_chain (hu : X.A.units + 64 < cLine) (o p : Co) (ha : PE X a (tE X.K W fa)) (hb : PE X b (tE X.K W ff)) (hc : PE X c (tE X.K W fc)) (hm : lastMarks [opC o, opC p] [b, c] = false) : PE X (.Compare a [opC o, opC p] [b, c] pos)
    (tE X.K W fun ρ S => (fa ρ S).bd fun x S1 => (ff ρ S1).bd fun y S2 => match cmp S2 o x y with
      | some true => (fc ρ S2).bd fun z S3 => opt ((cmp S3 p y z).map .bl) S3
      | some false => .ok (.bl false) S2
      | none => .bad) :=
  (pe_chain (op_cmp hu o) (op_cmp hu p) ha hb hc hm).imp fun σ H Q h => chain_imp h
theorem s_and {r : List Expr} (ha : PE X a (tE X.K W fa)) (hb : PE X (.BoolOp .And (b :: r) pos) (tE X.K W ff)) : PE X (.BoolOp .And (a :: b :: r) pos) (tE X.K W fun ρ S => (fa ρ S).bd fun x S1 => match x with
    | .bl true => ff ρ S1
    | .bl false => .ok (.bl false) S1
    | _ => .bad) :=
  (pe_and ha hb).imp fun σ H Q ⟨fb, m, S, ρ, r, l, h⟩ =>
    ⟨fb, m, S, ρ, r, l, h.bd.imp fun x H1 ⟨m1, S1, d, e1, r1, p1, h1⟩ => by
      cases d with
      | bl k =>
        cases p1
        refine ⟨k, rfl, ?_⟩
        cases k with
        | true => exact iteT ⟨fb, m1, S1, ρ, r1, l.mono e1, h1⟩
        | false => exact iteF (h1.now r1 (.bl _))
      | _ => exact h1.elim⟩
theorem s_or {r : List Expr} (ha : PE X a (tE X.K W fa)) (hb : PE X (.BoolOp .Or (b :: r) pos) (tE X.K W ff)) : PE X (.BoolOp .Or (a :: b :: r) pos) (tE X.K W fun ρ S => (fa ρ S).bd fun x S1 => match x with
    | .bl true => .ok (.bl true) S1
    | .bl false => ff ρ S1
    | _ => .bad) :=
  (pe_or ha hb).imp fun σ H Q ⟨fb, m, S, ρ, r, l, h⟩ =>
    ⟨fb, m, S, ρ, r, l, h.bd.imp fun x H1 ⟨m1, S1, d, e1, r1, p1, h1⟩ => by
      cases d with
      | bl k =>
        cases p1
        refine ⟨k, rfl, ?_⟩
        cases k with
        | true => exact iteT (h1.now r1 (.bl _))
        | false => exact iteF ⟨fb, m1, S1, ρ, r1, l.mono e1, h1⟩
      | _ => exact h1.elim⟩
theorem s_not (ha : PE X a (tE X.K W fa)) : PE X (.UnaryOp .Not a pos) (tE X.K W fun ρ S => (fa ρ S).bd fun x S1 => match x with | .bl b => .ok (.bl (!b)) S1 | _ => .bad) :=
  (pe_not ha).imp fun σ H Q ⟨fb, m, S, ρ, r, l, h⟩ =>
    ⟨fb, m, S, ρ, r, l, h.bd.imp fun x H1 ⟨m1, S1, d, e1, r1, p1, h1⟩ => by
      cases d with
      | bl i => cases p1; exact ⟨i, rfl, h1.now r1 (.bl _)⟩
      | _ => exact h1.elim⟩
theorem truth_V {K : PySem.W.Frag} {fb m : List Addr} {H : Hp} {S : Store} {d : D} {v : V} {k : Bool} (r : Rel K fb m S H) (p : Rep K fb m H d v) (h : truth S d = some k) : TruV K v H k := by
  have em : ∀ {xs : List D} {vs : List V}, Reps K fb m H xs vs → (!xs.isEmpty) = !vs.isEmpty := fun q => by cases q <;> rfl
  cases d with
  | non => cases p; exact (Option.some.inj h).symm
  | bl b => cases p; exact (Option.some.inj h).symm
  | int i => cases p; exact (Option.some.inj h).symm
  | tup xs =>
    obtain ⟨q, vs, rfl, hT, rr⟩ := p.tuple
    exact .inr (.inl ⟨vs, hT, by rw [← em rr]; exact (Option.some.inj h).symm⟩)
  | lst xs =>
    obtain ⟨q, vs, rfl, hT, rr⟩ := r.list p (show lstOf S (.lst xs) = some xs from rfl)
    exact .inl ⟨vs, hT, by rw [← em rr]; exact (Option.some.inj h).symm⟩
  | ref n =>
    obtain ⟨xs, e1, e2⟩ := Option.map_eq_some_iff.mp (show (lstOf S (.ref n)).map (fun xs => !xs.isEmpty) = some k from h)
    obtain ⟨q, vs, rfl, hT, rr⟩ := r.list p e1
    exact .inl ⟨vs, hT, by rw [← em rr]; exact e2.symm⟩
  | str s => cases h
  | fn _ => cases h
  | exc _ _ => cases h
  | scr _ => cases h
abbrev tru (f : Ro → Store → R D) : Ro → Store → R Bool := fun ρ S => (f ρ S).bd fun d S1 => opt (truth S1 d) S1
theorem u_plain (ha : PE X a (tE X.K W fa)) (he : ∀ whole, isTrue a X.env whole = (do let v ← whole; standAt a.pos; holding [v] (truthy v))) : PT X a (tT X.K W (tru fa)) :=
  (pt_truth ha he).imp fun σ H Q ⟨fb, m, S, ρ, r, l, h⟩ =>
    ⟨fb, m, S, ρ, r, l, h.bd.imp fun x H1 ⟨m1, S1, d, e1, r1, p1, h1⟩ => by
      obtain ⟨k, e, h1⟩ := h1.opt
      exact ⟨k, truth_V r1 p1 e, h1.now r1 rfl⟩⟩
theorem tru_bl {K : PySem.W.Frag} {E : XK} {fb m : List Addr} {H : Hp} {Q : Bool → Hp → Prop} {f : R D} (h : Post K E fb rpT m H Q (f.bd fun d S1 => opt (truth S1 d) S1)) (hb : ∀ d S, f = .ok d S → ∃ b, d = .bl b) :
    Post K E fb (rpE K fb) m H (fun x H1 => ∃ k, x = .bl k ∧ Q k H1) f := by
  cases f with
  | ok d S =>
    obtain ⟨b, rfl⟩ := hb d S rfl
    intro m' H' v e r p
    cases p
    exact ⟨b, rfl, h m' H' b e r rfl⟩
  | err x S => exact h
  | bad => exact h
theorem bl_of {o : Option Bool} {S : Store} {d : D} {S' : Store} (h : opt (o.map D.bl) S = .ok d S') : ∃ b, d = .bl b := by
  cases o with
  | none => cases h
  | some b => cases h; exact ⟨b, rfl⟩
theorem R.bd_inv {α β : Type} {r : R α} {k : α → Store → R β} {b : β} {S' : Store} (h : r.bd k = .ok b S') : ∃ a S, r = .ok a S ∧ k a S = .ok b S' := by
  cases r with
  | ok a S => exact ⟨a, S, rfl, h⟩
  | err x S => cases h
  | bad => cases h
theorem u_cmp (hu : X.A.units + 64 < cLine) (o : Co) (ha : PE X a (tE X.K W fa)) (hb : PE X b (tE X.K W ff)) : PT X (.Compare a [opC o] [b] pos) (tT X.K W (tru fun ρ S => (fa ρ S).bd fun x S1 => (ff ρ S1).bd fun y S2 => opt ((cmp S2 o x y).map .bl) S2)) :=
  (pt_cmpR (op_cmp hu o) ha hb (nomark b (by cases o <;> decide) (by cases o <;> decide))).imp fun σ H Q ⟨fb, m, S, ρ, r, l, h⟩ => by
    have h' := tru_bl h fun d S e => by
      obtain ⟨_, _, _, e⟩ := R.bd_inv e
      obtain ⟨_, _, _, e⟩ := R.bd_inv e
      exact bl_of e
    exact ⟨fb, m, S, ρ, r, l, h'.bd.imp fun x H1 ⟨m1, S1, d, e1, r1, p1, h1⟩ =>
      ⟨fb, m1, S1, ρ, r1, l.mono e1, h1.bd.imp fun y H2 ⟨m2, S2, d2, e2, r2, p2, h2⟩ => ⟨fb, m2, S2, d, d2, r2, p1.mono e2, p2, cmp_post r2 h2⟩⟩⟩
theorem u_isn {j pos'} (ha : PE X a (tE X.K W fa)) : PT X (.Compare a [.Is] [.Constant .none j pos'] pos) (tT X.K W (tru fun ρ S => (fa ρ S).bd fun x S1 => .ok (.bl (isNon x)) S1)) :=
  (pt_cmp (pc_isN ha) rfl).imp fun σ H Q ⟨fb, m, S, ρ, r, l, h⟩ => by
    have h' := tru_bl h fun d S e => by
      obtain ⟨_, _, _, e⟩ := R.bd_inv e
      cases e; exact ⟨_, rfl⟩
    exact ⟨fb, m, S, ρ, r, l, h'.bd.imp fun x H1 ⟨m1, S1, d, e1, r1, p1, h1⟩ => by
      have := h1.now r1 (.bl _)
      rw [p1.isNon]; exact this⟩
theorem u_ntn {j pos'} (ha : PE X a (tE X.K W fa)) : PT X (.Compare a [.IsNot] [.Constant .none j pos'] pos) (tT X.K W (tru fun ρ S => (fa ρ S).bd fun x S1 => .ok (.bl (!isNon x)) S1)) :=
  (pt_cmp (pc_notN ha) rfl).imp fun σ H Q ⟨fb, m, S, ρ, r, l, h⟩ => by
    have h' := tru_bl h fun d S e => by
      obtain ⟨_, _, _, e⟩ := R.bd_inv e
      cases e; exact ⟨_, rfl⟩
    exact ⟨fb, m, S, ρ, r, l, h'.bd.imp fun x H1 ⟨m1, S1, d, e1, r1, p1, h1⟩ => by
      have := h1.now r1 (.bl _)
      rw [p1.isNon]; exact this⟩
theorem u_chain (hu : X.A.units + 64 < cLine) (o p : Co) (ha : PE X a (tE X.K W fa)) (hb : PE X b (tE X.K W ff)) (hc : PE X c (tE X.K W fc)) (hm : lastMarks [opC o, opC p] [b, c] = false) : PT X (.Compare a [opC o, opC p] [b, c] pos)
    (tT X.K W (tru fun ρ S => (fa ρ S).bd fun x S1 => (ff ρ S1).bd fun y S2 => match cmp S2 o x y with
      | some true => (fc ρ S2).bd fun z S3 => opt ((cmp S3 p y z).map .bl) S3
      | some false => .ok (.bl false) S2
      | none => .bad)) :=
  (pt_chain (op_cmp hu o) (op_cmp hu p) ha hb hc hm).imp fun σ H Q ⟨fb, m, S, ρ, r, l, h⟩ => by
    refine chain_imp ⟨fb, m, S, ρ, r, l, tru_bl h fun d S e => ?_⟩
    obtain ⟨_, _, _, e⟩ := R.bd_inv e
    obtain ⟨_, _, _, e⟩ := R.bd_inv e
    split at e
    · obtain ⟨_, _, _, e⟩ := R.bd_inv e
      exact bl_of e
    · cases e; exact ⟨_, rfl⟩
    · cases e
theorem u_not {fa : Ro → Store → R D} (ha : PT X a (tT X.K W (tru fa))) : PT X (.UnaryOp .Not a pos) (tT X.K W (tru fun ρ S => (fa ρ S).bd fun x S1 => match x with | .bl b => .ok (.bl (!b)) S1 | _ => .bad)) :=
  (pt_not ha).imp fun σ H Q ⟨fb, m, S, ρ, r, l, h⟩ => by
    refine ⟨fb, m, S, ρ, r, l, ?_⟩
    simp only [tru] at h ⊢
    cases hf : fa ρ S with
    | ok d S1 =>
      rw [hf] at h
      cases d with
      | bl k => exact fun m' H' b e r' p => by subst p; exact h m' H' _ e r' rfl
      | _ => exact h.elim
    | err x S => rw [hf] at h; exact h
    | bad => rw [hf] at h; exact h
theorem u_and {r : List Expr} {pos} (ha : PT X a (tT X.K W (tru fa))) (hb : PW X (.BoolOp .And (b :: r) pos) (tT X.K W (tru ff))) : PW X (.BoolOp .And (a :: b :: r) pos) (tT X.K W (tru fun ρ S => (fa ρ S).bd fun x S1 => match x with
    | .bl true => ff ρ S1
    | .bl false => .ok (.bl false) S1
    | _ => .bad)) :=
  (pw_and ha hb).imp fun σ H Q ⟨fb, m, S, ρ, r, l, h⟩ => by
    refine ⟨fb, m, S, ρ, r, l, ?_⟩
    simp only [tru] at h ⊢
    cases hf : fa ρ S with
    | ok d S1 =>
      rw [hf] at h
      cases d with
      | bl k =>
        intro m' H' b' e r' p
        rw [show b' = k from p]
        cases k with
        | true => exact iteT ⟨fb, m', S1, ρ, r', l.mono e, Post.mono e h⟩
        | false => exact iteF (h m' H' _ e r' rfl)
      | _ => exact h.elim
    | err x S => rw [hf] at h; exact h
    | bad => rw [hf] at h; exact h
theorem u_or {r : List Expr} {pos} (ha : PT X a (tT X.K W (tru fa))) (hb : PW X (.BoolOp .Or (b :: r) pos) (tT X.K W (tru ff))) : PW X (.BoolOp .Or (a :: b :: r) pos) (tT X.K W (tru fun ρ S => (fa ρ S).bd fun x S1 => match x with
    | .bl true => .ok (.bl true) S1
    | .bl false => ff ρ S1
    | _ => .bad)) :=
  (pw_or ha hb).imp fun σ H Q ⟨fb, m, S, ρ, r, l, h⟩ => by
    refine ⟨fb, m, S, ρ, r, l, ?_⟩
    simp only [tru] at h ⊢
    cases hf : fa ρ S with
    | ok d S1 =>
      rw [hf] at h
      cases d with
      | bl k =>
        intro m' H' b' e r' p
        rw [show b' = k from p]
        cases k with
        | true => exact iteT (h m' H' _ e r' rfl)
        | false => exact iteF ⟨fb, m', S1, ρ, r', l.mono e, Post.mono e h⟩
      | _ => exact h.elim
    | err x S => rw [hf] at h; exact h
    | bad => rw [hf] at h; exact h
theorem s_ite (hc : PT X c (tT X.K W (tru fc))) (ha : PE X a (tE X.K W fa)) (hb : PE X b (tE X.K W ff)) : PE X (.IfExp c a b pos) (tE X.K W fun ρ S => (fc ρ S).bd fun x S1 => match truth S1 x with
    | some true => fa ρ S1
    | some false => ff ρ S1
    | none => .bad) :=
  (pe_ifExp hc ha hb).imp fun σ H Q ⟨fb, m, S, ρ, r, l, h⟩ => by
    refine ⟨fb, m, S, ρ, r, l, ?_⟩
    dsimp only at h
    simp only [tru]
    cases hf : fc ρ S with
    | ok d S1 =>
      rw [hf] at h
      simp only [R.bd_ok] at h ⊢
      cases ht : truth S1 d with
      | none => rw [ht] at h; exact h.elim
      | some k =>
        rw [ht] at h
        intro m' H' b' e r' p
        rw [show b' = k from p]
        cases k with
        | true => exact iteT ⟨fb, m', S1, ρ, r', l.mono e, Post.mono e h⟩
        | false => exact iteF ⟨fb, m', S1, ρ, r', l.mono e, Post.mono e h⟩
    | err x S => rw [hf] at h; exact h
    | bad => rw [hf] at h; exact h
variable {es : List Expr} {fs : Ro → Store → R (List D)}
theorem s_nil : PA X [] (tA X.K W fun _ S => .ok [] S) := pa_nil.imp fun σ H Q ⟨fb, m, S, ρ, r, l, h⟩ => h.now r .nil
theorem s_cons (ha : PE X a (tE X.K W fa)) (hr : PA X es (tA X.K W fs)) (hs : starEach (a :: es) X.env = (false, eval a X.env) :: starEach es X.env) : PA X (a :: es) (tA X.K W fun ρ S => (fa ρ S).bd fun d S1 => (fs ρ S1).bd fun ds S2 => .ok (d :: ds) S2) :=
  (pa_cons ha hr hs).imp fun σ H Q ⟨fb, m, S, ρ, r, l, h⟩ =>
    ⟨fb, m, S, ρ, r, l, h.bd.imp fun x H1 ⟨m1, S1, d, e1, r1, p1, h1⟩ =>
      ⟨fb, m1, S1, ρ, r1, l.mono e1, h1.bd.imp fun y H2 ⟨m2, S2, d2, e2, r2, p2, h2⟩ => h2.now r2 (.cons (p1.mono e2) p2)⟩⟩
open Classical in
theorem s_tup {k} (h : PA X es (tA X.K W fs)) : PE X (.Tuple es k pos) (tE X.K W fun ρ S => (fs ρ S).bd fun ds S1 => if sizeOk ds.length then .ok (.tup ds) S1 else .bad) :=
  (pe_tupX h).imp fun σ H Q ⟨fb, m, S, ρ, r, l, h⟩ =>
    ⟨fb, m, S, ρ, r, l, h.bd.imp fun x H1 ⟨m1, S1, d, e1, r1, p1, h1⟩ => by
      by_cases hz : sizeOk d.length
      · rw [if_pos hz] at h1
        exact ⟨by rw [← p1.length]; exact szOk hz, h1.newT r1 p1⟩
      · rw [if_neg hz] at h1; exact h1.elim⟩
theorem PostL.bd {α β : Type} {K : PySem.W.Frag} {E : XK} {fb m : List Addr} {H : Hp} {rp : List Addr → Hp → α → β → Prop} {Q : VK} {r : R α} {k : α → Store → R (List D)} (h : PostL K E fb m H Q (r.bd k)) :
    Post K E fb rp m H (fun x H1 => ∃ m1 S1 a, Ext m H m1 H1 ∧ Rel K fb m1 S1 H1 ∧ rp m1 H1 a x ∧ PostL K E fb m1 H1 Q (k a S1)) r := by
  cases r with
  | ok a S =>
    refine fun m' H' b e r' p => ⟨m', S, a, e, r', p, ?_⟩
    cases hk : k a S with
    | ok ds S2 =>
      rw [R.bd_ok, hk] at h
      exact fun m2 H2 q vs e2 r2 hq hf hv rr => h m2 H2 q vs (e.trans e2) r2 (by
        cases w : H q with
        | none => rfl
        | some o => exact absurd hq (e.dom q (by rw [w]; exact fun z => nomatch z))) hf hv rr
    | err x S2 => rw [R.bd_ok, hk] at h; exact fun m2 H2 c d e2 r2 p => h m2 H2 c d (e.trans e2) r2 p
    | bad => rw [R.bd_ok, hk] at h; exact h
  | err x S => exact h
  | bad => exact h
theorem PostL.opt {K : PySem.W.Frag} {E : XK} {fb m : List Addr} {H : Hp} {Q : VK} {o : Option (List D)} {S : Store} (h : PostL K E fb m H Q (opt o S)) : ∃ a, o = some a ∧ PostL K E fb m H Q (.ok a S) := by
  cases o with
  | none => exact h.elim
  | some a => exact ⟨a, rfl, h⟩
open Classical in
theorem l_disp (h : PA X es (tA X.K W fs)) : PE X (.List es pos) (tL X.K W fun ρ S => (fs ρ S).bd fun ds S1 => if sizeOk ds.length then .ok ds S1 else .bad) :=
  (pe_lst h).imp fun σ H Q ⟨fb, m, S, ρ, r, l, h⟩ =>
    ⟨fb, m, S, ρ, r, l, h.bd.imp fun x H1 ⟨m1, S1, d, e1, r1, p1, h1⟩ => by
      by_cases hz : sizeOk d.length
      · rw [if_pos hz] at h1
        exact ⟨by rw [← p1.length]; exact szOk hz, h1.new r1 p1⟩
      · rw [if_neg hz] at h1; exact h1.elim⟩
theorem new_imp {K : PySem.W.Frag} {W : WX} {fl : Ro → Store → R (List D)} {own : Bool} {σ : L2.St} {H : Hp} {Q : VK} (h : tE K W (fun ρ S => (fl ρ S).bd fun ds S1 => if own = true then .ok (.ref S1.length) (S1 ++ [.lst ds]) else .ok (.lst ds) S1) σ H Q) : tL K W fl σ H Q := by
  obtain ⟨fb, m, S, ρ, r, l, h⟩ := h
  refine ⟨fb, m, S, ρ, r, l, ?_⟩
  dsimp only at h
  cases hf : fl ρ S with
  | ok ds S1 =>
    rw [hf, R.bd_ok] at h
    intro m' H' p vs e r' hp hfb hv rr
    cases own with
    | true =>
      simp only [if_pos] at h
      refine h (m' ++ [p]) H' (.ref p) (Ext.own r e hp (by rw [hv]; exact fun z => nomatch z)) (r'.into hfb hv rr) (.ref ?_)
      rw [List.getElem?_append_right (by rw [r'.len]; exact Nat.le_refl _), r'.len, Nat.sub_self]
      rfl
    | false =>
      simp only [Bool.false_eq_true, if_false] at h
      exact h m' H' (.ref p) e r'.weak (.lst ⟨.inl hv, r'.fbm p List.mem_cons_self, hfb⟩ rr.weak)
  | err x S1 => rw [hf] at h; exact h
  | bad => rw [hf] at h; exact h
theorem s_new {fl : Ro → Store → R (List D)} (own : Bool) (h : PE X a (tL X.K W fl)) : PE X a (tE X.K W fun ρ S => (fl ρ S).bd fun ds S1 => if own = true then .ok (.ref S1.length) (S1 ++ [.lst ds]) else .ok (.lst ds) S1) := h.imp fun σ H Q q => new_imp q
def rIxD (K : PySem.W.Frag) : R2 := fun x y H Q => ∃ E fb m S d e, Rel K fb m S H ∧ Rep K fb m H d x ∧ Rep K fb m H e y ∧ Post K E fb (rpE K fb) m H Q (opt (idxD S d e) S)
theorem atI_reps {K : PySem.W.Frag} {fb m : List Addr} {H : Hp} {ds : List D} {vs : List V} (r : Reps K fb m H ds vs) {i : Int} {d : D} (h : atI ds i = some d) : ∃ v, atI vs i = some v ∧ Rep K fb m H d v := by
  unfold atI at h ⊢
  rw [← r.length]
  cases hi : ixN ds.length i with
  | none => rw [hi] at h; cases h
  | some j =>
    rw [hi] at h
    exact r.get (i := j) h
theorem key_rep {K : PySem.W.Frag} {fb m : List Addr} {H : Hp} {d : D} {v : V} {k : L2.Key} (r : Rep K fb m H d v) (h : keyD d = some k) : v = kV k := by
  cases r <;> first | (cases h; done) | (cases h; rfl)
theorem dget_rep {K : PySem.W.Frag} {fb m : List Addr} {H : Hp} {k : L2.Key} {w : D} : ∀ {ks : List L2.Key} {ds : List D} {vs : List V}, Reps K fb m H ds vs → dget ks ds k = some w → ∃ v, valV (ks.zip vs) k = some v ∧ Rep K fb m H w v
  | [], _, _, _, h => by cases h
  | _ :: _, [], _, _, h => by cases h
  | j :: ks, d :: ds, _, .cons r t, h => by
    rw [dget] at h
    by_cases e : j = k
    · rw [if_pos e] at h
      cases h
      exact ⟨_, valV_pos (p := (j, _)) e, r⟩
    · rw [if_neg e] at h
      obtain ⟨v, h1, h2⟩ := dget_rep t h
      exact ⟨v, (valV_neg (p := (j, _)) e).trans h1, h2⟩
theorem dct_at {K : PySem.W.Frag} {fb m : List Addr} {S : Store} {H : Hp} (r : Rel K fb m S H) {n : Nat} {v : V} {ks : List L2.Key} {ds : List D} (h : Rep K fb m H (.ref n) v) (e : S[n]? = some (.dct ks ds)) :
    ∃ p vs, v = .ref p ∧ m[n]? = some p ∧ H p = some (.dK (ks.zip vs)) ∧ ks.length = ds.length ∧ Reps K fb m H ds vs := by
  cases h with
  | ref h =>
    obtain ⟨b, hb, u, vs, hu, ⟨hq, hl⟩, rr⟩ := r.ob _ _ e
    rw [h] at hb
    cases hb
    subst hq
    exact ⟨_, vs, rfl, h, hu, hl, rr⟩
theorem ix_D (hu : X.A.units + 64 < cLine) : IxR X (rIxD X.K) := by
  intro value slice pins s σ H x y v u Q I rx ry ⟨E, fb, m, S, d, e, r, rd, re, h⟩ hs
  obtain ⟨a, ha, hh⟩ := h.opt
  cases d with
  | tup xs =>
    cases e with
    | int i =>
      cases re
      obtain ⟨p, vs, rfl, hT, q⟩ := rd.tuple
      obtain ⟨w, h1, h2⟩ := atI_reps q (show atI xs i = some a from ha)
      exact ix_tup value slice pins s σ H _ _ v u Q I rx ry ⟨p, vs, i, w, rfl, rfl, hT, h1, hh.now r h2⟩ hs
    | _ => cases ha
  | lst xs =>
    cases e with
    | int i =>
      cases re
      obtain ⟨p, vs, rfl, hT, q⟩ := r.list rd (show lstOf S (.lst xs) = some xs from rfl)
      obtain ⟨w, h1, h2⟩ := atI_reps q (show atI xs i = some a from ha)
      exact ix_list value slice pins s σ H _ _ v u Q I rx ry ⟨p, vs, i, w, rfl, rfl, hT, h1, hh.now r h2⟩ hs
    | _ => cases ha
  | ref n =>
    unfold idxD at ha
    dsimp only at ha
    split at ha
    · rename_i xs hx
      split at ha
      · rename_i i
        cases re
        obtain ⟨p, vs, rfl, hT, q⟩ := r.list rd (show lstOf S (.ref n) = some xs by simp only [lstOf, hx])
        obtain ⟨w, h1, h2⟩ := atI_reps q ha
        exact ix_list value slice pins s σ H _ _ v u Q I rx ry ⟨p, vs, i, w, rfl, rfl, hT, h1, hh.now r h2⟩ hs
      · cases ha
    · rename_i ks ds hx
      obtain ⟨k, hk, hg⟩ := Option.bind_eq_some_iff.mp ha
      obtain ⟨p, vs, rfl, _, hp, _, rr⟩ := dct_at r rd hx
      obtain rfl := key_rep re hk
      obtain ⟨w, h1, h2⟩ := dget_rep rr hg
      obtain rfl : v = Value.ref p := rx
      have g : DGet H p (kV k) (some w) := by rw [← h1]; exact DGet.k hp
      exact tail_any (dict_typeIs I g) PySem.F.slot_dict_getitem.lookup (d_getItem (by omega) I g ry fun w' s' I' rw' => ⟨w, H, I', rw', hh.now r h2⟩) hs
    · cases ha
  | _ => cases e <;> cases ha
theorem s_idx (hu : X.A.units + 64 < cLine) (ha : PE X a (tE X.K W fa)) (hb : PE X b (tE X.K W ff)) (hs : PlainIx b) : PE X (.Subscript a b pos) (tE X.K W fun ρ S => (fa ρ S).bd fun x S1 => (ff ρ S1).bd fun y S2 => opt (idxD S2 x y) S2) :=
  (pe_ix (ix_D hu) ha hb hs).imp fun σ H Q ⟨fb, m, S, ρ, r, l, h⟩ =>
    ⟨fb, m, S, ρ, r, l, h.bd.imp fun x H1 ⟨m1, S1, d, e1, r1, p1, h1⟩ =>
      ⟨fb, m1, S1, ρ, r1, l.mono e1, h1.bd.imp fun y H2 ⟨m2, S2, d2, e2, r2, p2, h2⟩ => ⟨_, fb, m2, S2, d, d2, r2, p1.mono e2, p2, h2⟩⟩⟩
end
end PyD

namespace PyD
open PySem PySem.Spec PyProof.Rows L2
variable [TB]
section
variable {X : Cx} {W : WX} {a b c : Expr} {fa ff fc : Ro → Store → R D} {pos : Pos}
def rpO : List Addr → Hp → Option Int → Option Int → Prop := fun _ _ a b => b = a
def tO (K : PySem.W.Frag) (W : WX) (ev : Ro → Store → R (Option Int)) : TO := fun σ H Q => ∃ fb m S ρ, Rel K fb m S H ∧ Lo K fb m H ρ σ ∧ Post K (WE W σ) fb rpO m H Q (ev ρ S)
theorem _root_.L2.PO.imp {X : Cx} {e : Option Expr} {t t' : TO} (h : PO X e t) (i : ∀ σ H Q, t' σ H Q → t σ H Q) : PO X e t' := ⟨fun pins s σ H Q I q => h.run pins s σ H Q I (i _ _ _ q)⟩
theorem o_none : PO X none (tO X.K W fun _ S => .ok none S) := po_none.imp fun σ H Q ⟨fb, m, S, ρ, r, l, h⟩ => h.now r rfl
theorem o_some (ha : PE X a (tE X.K W fa)) : PO X (some a) (tO X.K W fun ρ S => (fa ρ S).bd fun d S1 => opt (ofI d) S1) :=
  (po_some ha).imp fun σ H Q ⟨fb, m, S, ρ, r, l, h⟩ => ⟨fb, m, S, ρ, r, l, h.bd.imp fun x H1 ⟨m1, S1, d, e1, r1, p1, h1⟩ => by
    obtain ⟨o, ho, h1⟩ := h1.opt
    cases d with
    | int i => cases p1; cases ho; exact ⟨i, rfl, h1.now r1 rfl⟩
    | _ => cases ho⟩
theorem int_reps {K : PySem.W.Frag} {fb m : List Addr} {H : Hp} : ∀ (l : List Int), Reps K fb m H (l.map .int) (l.map V.int)
  | [] => .nil
  | x :: r => .cons (.int _) (int_reps r)
def rSlD (K : PySem.W.Frag) : V → Option Int → Option Int → Hp → VK → Prop := fun x lo hi H Q => ∃ E fb m S d, Rel K fb m S H ∧ Rep K fb m H d x ∧ Post K E fb (rpE K fb) m H Q (opt (slD S d lo hi) S)
theorem sl_D : SlR X (rSlD X.K) := by
  intro pins s σ H x v vl vu lo hi sl Q I rx hs pl pu ⟨E, fb, m, S, d, r, rd, h⟩
  obtain ⟨w, hw, hh⟩ := h.opt
  cases d with
  | tup xs =>
    cases hw
    obtain ⟨p, vs, rfl, hT, q⟩ := rd.tuple
    refine sl_tupX pins s σ H _ v vl vu lo hi sl Q I rx hs pl pu ⟨p, vs, rfl, hT, fun z => ?_, fun _ => hh.newT r (q.cut lo hi)⟩
    have e : PyD.cut xs lo hi = xs := by
      unfold PyD.cut
      rw [q.length, z.1, z.2, List.drop_zero, ← q.length, Nat.sub_zero, List.take_length]
    rw [e] at hh
    exact hh.now r rd
  | lst xs =>
    cases hw
    obtain ⟨p, vs, rfl, hT, q⟩ := r.list rd (show lstOf S (.lst xs) = some xs from rfl)
    exact sl_list pins s σ H _ v vl vu lo hi sl Q I rx hs pl pu ⟨p, vs, rfl, hT, hh.newL r (q.cut lo hi)⟩
  | scr is =>
    cases hw
    cases rd with
    | scr hq =>
      have q : Reps X.K fb m H (is.map .int) (is.map V.int) := int_reps is
      exact sl_list pins s σ H _ v vl vu lo hi sl Q I rx hs pl pu ⟨_, _, rfl, hq.elim (fun z => .inl z.1) .inr, hh.newL r (q.cut lo hi)⟩
  | ref n =>
    obtain ⟨xs, e1, e2⟩ := Option.map_eq_some_iff.mp (show (lstOf S (.ref n)).map (fun xs => D.lst (PyD.cut xs lo hi)) = some w from hw)
    subst e2
    obtain ⟨p, vs, rfl, hT, q⟩ := r.list rd e1
    exact sl_list pins s σ H _ v vl vu lo hi sl Q I rx hs pl pu ⟨p, vs, rfl, hT, hh.newL r (q.cut lo hi)⟩
  | _ => cases hw
theorem s_sl {lo hi : Option Expr} {p2 : Pos} {fl fh : Ro → Store → R (Option Int)} (ha : PE X a (tE X.K W fa)) (hl : PO X lo (tO X.K W fl)) (hh : PO X hi (tO X.K W fh)) : PE X (.Subscript a (.Slice lo hi none p2) pos)
    (tE X.K W fun ρ S => (fa ρ S).bd fun x S1 => (fl ρ S1).bd fun l S2 => (fh ρ S2).bd fun h S3 => opt (slD S3 x l h) S3) :=
  (pe_slice sl_D ha hl hh).imp fun σ H Q ⟨fb, m, S, ρ, r, l, h⟩ =>
    ⟨fb, m, S, ρ, r, l, h.bd.imp fun x H1 ⟨m1, S1, d, e1, r1, p1, h1⟩ =>
      ⟨fb, m1, S1, ρ, r1, l.mono e1, h1.bd.imp fun y H2 ⟨m2, S2, d2, e2, r2, p2, h2⟩ =>
        ⟨fb, m2, S2, ρ, r2, (l.mono e1).mono e2, h2.bd.imp fun z H3 ⟨m3, S3, d3, e3, r3, p3, h3⟩ => by
          rw [show y = d2 from p2, show z = d3 from p3]
          exact ⟨_, fb, m3, S3, d, r3, (p1.mono e2).mono e3, h3⟩⟩⟩⟩
def rBi (K : PySem.W.Frag) (b : Bi) : List V → Hp → VK → Prop := fun xs H Q => ∃ E fb m S d x, xs = [x] ∧ Rel K fb m S H ∧ Rep K fb m H d x ∧ Post K E fb (rpE K fb) m H Q (opt (biD S b d) S)
theorem allBl_reps {K : PySem.W.Frag} {fb m : List Addr} {H : Hp} : ∀ {ds : List D} {vs : List V} {bs : List Bool}, Reps K fb m H ds vs → allBl ds = some bs → vs = bs.map V.bl
  | [], _, _, .nil, e => by cases e; rfl
  | .bl b :: ds, _, bs, .cons r t, e => by
    obtain ⟨cs, e1, e2⟩ := Option.map_eq_some_iff.mp (show (allBl ds).map (b :: ·) = some bs from e)
    subst e2
    cases r
    rw [allBl_reps t e1]
    rfl
  | .non :: _, _, _, _, e => by cases e
  | .int _ :: _, _, _, _, e => by cases e
  | .str _ :: _, _, _, _, e => by cases e
  | .tup _ :: _, _, _, _, e => by cases e
  | .lst _ :: _, _, _, _, e => by cases e
  | .ref _ :: _, _, _, _, e => by cases e
  | .fn _ :: _, _, _, _, e => by cases e
  | .exc _ _ :: _, _, _, _, e => by cases e
  | .scr _ :: _, _, _, _, e => by cases e
theorem allInt_reps {K : PySem.W.Frag} {fb m : List Addr} {H : Hp} : ∀ {ds : List D} {vs : List V} {bs : List Int}, Reps K fb m H ds vs → allInt ds = some bs → vs = bs.map V.int
  | [], _, _, .nil, e => by cases e; rfl
  | .int b :: ds, _, bs, .cons r t, e => by
    obtain ⟨cs, e1, e2⟩ := Option.map_eq_some_iff.mp (show (allInt ds).map (b :: ·) = some bs from e)
    subst e2
    cases r
    rw [allInt_reps t e1]
    rfl
  | .non :: _, _, _, _, e => by cases e
  | .bl _ :: _, _, _, _, e => by cases e
  | .str _ :: _, _, _, _, e => by cases e
  | .tup _ :: _, _, _, _, e => by cases e
  | .lst _ :: _, _, _, _, e => by cases e
  | .ref _ :: _, _, _, _, e => by cases e
  | .fn _ :: _, _, _, _, e => by cases e
  | .exc _ _ :: _, _, _, _, e => by cases e
  | .scr _ :: _, _, _, _, e => by cases e
def biName : Bi → Str
  | .len => "len" | .abs => "abs" | .tuple => "tuple" | .all => "all" | .any => "any"
def biId : Bi → Value
  | .len => .builtin "len" | .abs => .builtin "abs" | .tuple => .type "tuple" | .all => .builtin "all" | .any => .builtin "any"
theorem biD_len {S : Store} {d w : D} (h : biD S .len d = some w) : (∃ z, d = .str z) ∨ ∃ ys, seqOf S d = some ys ∧ w = .int ys.length := by
  cases d <;> first
    | exact .inl ⟨_, rfl⟩
    | (simp only [biD, Option.map_eq_some_iff] at h; obtain ⟨ys, h1, h2⟩ := h; exact .inr ⟨ys, h1, h2.symm⟩)
theorem biD_tuple {S : Store} {d w : D} (h : biD S .tuple d = some w) : (∃ z, d = .tup z) ∨ ∃ ys, lstOf S d = some ys ∧ w = .tup ys := by
  cases d <;> first
    | exact .inl ⟨_, rfl⟩
    | (simp only [biD, Option.map_eq_some_iff] at h; obtain ⟨ys, h1, h2⟩ := h; exact .inr ⟨ys, h1, h2.symm⟩)
theorem biD_all {S : Store} {d w : D} (h : biD S .all d = some w) : ∃ ys bs, lstOf S d = some ys ∧ allBl ys = some bs ∧ w = .bl (bs.all id) := by
  have h' : ((lstOf S d).bind allBl).map (fun bs => D.bl (bs.all id)) = some w := by cases d <;> exact h
  obtain ⟨bs, e1, e2⟩ := Option.map_eq_some_iff.mp h'
  obtain ⟨ys, e1, e3⟩ := Option.bind_eq_some_iff.mp e1
  exact ⟨ys, bs, e1, e3, e2.symm⟩
theorem biD_any {S : Store} {d w : D} (h : biD S .any d = some w) : ∃ ys bs, lstOf S d = some ys ∧ allBl ys = some bs ∧ w = .bl (bs.any id) := by
  have h' : ((lstOf S d).bind allBl).map (fun bs => D.bl (bs.any id)) = some w := by cases d <;> exact h
  obtain ⟨bs, e1, e2⟩ := Option.map_eq_some_iff.mp h'
  obtain ⟨ys, e1, e3⟩ := Option.bind_eq_some_iff.mp e1
  exact ⟨ys, bs, e1, e3, e2.symm⟩
def biQ : Bi → Bool
  | .all => false
  | .any => false
  | _ => true
theorem call_bi (b : Bi) (hc : biQ b = true ∨ X.calm = true) : CallR X (biId b) (rBi X.K b) := by
  intro pins s σ H xs us Q I rv ⟨E, fb, m, S, d, x, e, r, rd, h⟩
  subst e
  obtain ⟨w, hw, hh⟩ := h.opt
  cases b with
  | abs =>
    cases d with
    | int i => cases hw; cases rd; exact call_abs pins s σ H _ us Q I rv ⟨i, rfl, hh.now r (.int _)⟩
    | _ => cases hw
  | len =>
    rcases biD_len hw with ⟨z, rfl⟩ | ⟨ys, e1, rfl⟩
    · obtain ⟨h1, h2⟩ := need_some hw
      cases h2
      cases rd
      exact call_len pins s σ H _ us Q I rv ⟨_, _, rfl, ⟨szOk h1, rfl⟩, hh.now r (.int _)⟩
    · obtain ⟨p, vs, rfl, hq, q⟩ := r.seq rd e1
      rw [q.length] at hh
      exact call_len_seq pins s σ H _ us Q I rv ⟨p, vs, rfl, hq, hh.now r (.int _)⟩
  | tuple =>
    rcases biD_tuple hw with ⟨z, rfl⟩ | ⟨ys, e1, rfl⟩
    · cases hw
      obtain ⟨p, vs, rfl, hT, q⟩ := rd.tuple
      exact call_tupleX pins s σ H _ us Q I rv ⟨p, vs, rfl, .inr ⟨hT, hh.now r rd⟩⟩
    · obtain ⟨p, vs, rfl, hq, q⟩ := r.list rd e1
      exact call_tupleX pins s σ H _ us Q I rv ⟨p, vs, rfl, .inl ⟨hq, hh.newT r q⟩⟩
  | all =>
    obtain ⟨ys, bs, e1, e3, rfl⟩ := biD_all hw
    obtain ⟨p, vs, rfl, hq, q⟩ := r.list rd e1
    rw [allBl_reps q e3] at hq
    exact cr_all (hc.resolve_left (fun z => by cases z)) pins s σ H _ us Q I rv ⟨p, bs, rfl, hq, hh.now r (.bl _)⟩
  | any =>
    obtain ⟨ys, bs, e1, e3, rfl⟩ := biD_any hw
    obtain ⟨p, vs, rfl, hq, q⟩ := r.list rd e1
    rw [allBl_reps q e3] at hq
    exact cr_any (hc.resolve_left (fun z => by cases z)) pins s σ H _ us Q I rv ⟨p, bs, rfl, hq, hh.now r (.bl _)⟩
theorem s_bi (b : Bi) (hc : biQ b = true ∨ X.calm = true) {p : Pos} (hg : Gl X (biName b)) (hm : X.mg (biName b) = none) (ha : PE X a (tE X.K W fa)) (hs : starEach [a] X.env = (false, eval a X.env) :: starEach [] X.env) :
    PE X (.Call (.Name (biName b) p) [a] [] pos) (tE X.K W fun ρ S => (fa ρ S).bd fun x S1 => opt (biD S1 b x) S1) := by
  have pa : PA X [a] (tCons (tE X.K W fa) tNil) := pa_cons ha pa_nil hs
  have i : ∀ σ H Q, tE X.K W (fun ρ S => (fa ρ S).bd fun x S1 => opt (biD S1 b x) S1) σ H Q → tCB (rBi X.K b) (tCons (tE X.K W fa) tNil) σ H Q := fun σ H Q ⟨fb, m, S, ρ, r, l, h⟩ =>
    ⟨fb, m, S, ρ, r, l, h.bd.imp fun x H1 ⟨m1, S1, d, e1, r1, p1, h1⟩ => ⟨_, fb, m1, S1, d, x, rfl, r1, p1, h1⟩⟩
  cases b with
  | len => exact (pe_callB (call_bi .len hc) hg hm PySem.boot_len pa (by decide) (by decide) hs rfl).imp i
  | abs => exact (pe_callB (call_bi .abs hc) hg hm (by decide +kernel) pa (by decide) (by decide) hs rfl).imp i
  | tuple => exact (pe_callTy (call_bi .tuple hc) hg hm (by decide +kernel) pa (by decide) (by decide) hs rfl).imp i
  | all => exact (pe_callB (call_bi .all hc) hg hm (by decide +kernel) pa (by decide) (by decide) hs rfl).imp i
  | any => exact (pe_callB (call_bi .any hc) hg hm (by decide +kernel) pa (by decide) (by decide) hs rfl).imp i
theorem listMt_inv {S : Store} {n : Nat} {f : List D → Option (D × List D)} {K : PySem.W.Frag} {E : XK} {fb m : List Addr} {H : Hp} {Q : VK} (h : Post K E fb (rpE K fb) m H Q (listMt S n f)) : ∃ xs d ys, S[n]? = some (.lst xs) ∧ f xs = some (d, ys) ∧ Post K E fb (rpE K fb) m H Q (.ok d (S.set n (.lst ys))) := by
  unfold listMt at h
  cases e : S[n]? with
  | none => rw [e] at h; exact h.elim
  | some o =>
    cases o with
    | lst xs =>
      rw [e] at h
      dsimp only at h
      cases e2 : f xs with
      | none => rw [e2] at h; exact h.elim
      | some p => rw [e2] at h; exact ⟨xs, p.1, p.2, rfl, e2, h⟩
    | dct _ _ => rw [e] at h; exact h.elim
    | ins _ _ _ => rw [e] at h; exact h.elim
theorem ref_at {K : PySem.W.Frag} {fb m : List Addr} {S : Store} {H : Hp} (r : Rel K fb m S H) {n : Nat} {v : V} {xs : List D} (h : Rep K fb m H (.ref n) v) (e : S[n]? = some (.lst xs)) : ∃ p vs, v = .ref p ∧ m[n]? = some p ∧ H p = some (.lst vs) ∧ Reps K fb m H xs vs := by
  cases h with
  | ref h =>
    obtain ⟨b, hb, q0⟩ := r.ob _ _ e
    obtain ⟨vs, hv, q⟩ := q0.lst
    rw [h] at hb
    cases hb
    exact ⟨_, vs, rfl, h, hv, q⟩
theorem szLt {n : Nat} (h : sizeOk (n + 1)) : n < sizeLine := Nat.lt_of_lt_of_le (Nat.lt_succ_self n) (szOk h)
end
end PyD

namespace PyD
open PySem PySem.Spec PyProof.Rows L2
variable [TB]
def meN : Me → Str
  | .app => "append" | .pop => "pop" | .ext => "extend" | .idx => "index" | .clr => "clear"
section
variable {K : PySem.W.Frag} {fb m : List Addr} {S : Store} {H : Hp}
theorem flat_rep {d : D} {v : V} (r : Rep K fb m H d v) (h : flatD d = true) : flatV v = true := by cases r <;> first | rfl | cases h
theorem eq_rep {d e : D} {v w : V} (r : Rep K fb m H d v) (q : Rep K fb m H e w) (h : flatD d = true) (h2 : flatD e = true) : eqV v w = eqF d e := by
  cases r <;> first | (cases h; done) | (cases q <;> first | rfl | cases h2)
theorem flat_reps : ∀ {ds : List D} {vs : List V}, Reps K fb m H ds vs → ds.all flatD = true → vs.all flatV = true
  | _, _, .nil, _ => rfl
  | _, _, .cons r t, h => by
    rw [List.all_cons, Bool.and_eq_true] at h ⊢
    exact ⟨flat_rep r h.1, flat_reps t h.2⟩
theorem idxF_at {xs : List D} {vs : List V} {y w : D} {u : V} (h : idxF y xs = some w) (r : Reps K fb m H xs vs) (q : Rep K fb m H y u) : ∃ (j : Nat) (z : V), w = .int (j : Nat) ∧ flatV u = true ∧ vs.all flatV = true ∧ vs[j]? = some z ∧ eqV z u = true ∧ ∀ (k : Nat) (z' : V), k < j → vs[k]? = some z' → eqV z' u = false := by
  unfold idxF at h
  split at h
  · rename_i hf
    rw [Bool.and_eq_true] at hf
    obtain ⟨j, hj, rfl⟩ := Option.map_eq_some_iff.mp h
    rw [List.findIdx?_eq_some_iff_getElem] at hj
    obtain ⟨hl, h1, h2⟩ := hj
    have fl := List.all_eq_true.mp hf.2
    obtain ⟨z, hz, rz⟩ := r.get (List.getElem?_eq_getElem hl)
    refine ⟨j, z, rfl, flat_rep q hf.1, flat_reps r hf.2, hz, ?_, fun k z' hk hz' => ?_⟩
    · rw [eq_rep rz q (fl _ (List.getElem_mem hl)) hf.1]; exact h1
    · have hkl : k < xs.length := Nat.lt_trans hk hl
      obtain ⟨z2, e2, r2⟩ := r.get (List.getElem?_eq_getElem hkl)
      rw [hz'] at e2
      cases e2
      rw [eq_rep r2 q (fl _ (List.getElem_mem hkl)) hf.1]
      have := h2 k hk
      simpa using this
  · cases h
theorem isLr_inv {d : D} (h : isLr S d = true) : ∃ n xs, d = .ref n ∧ S[n]? = some (.lst xs) := by
  unfold isLr at h
  split at h
  · rename_i n
    split at h
    · exact ⟨n, _, rfl, by assumption⟩
    · cases h
  · cases h
end
def rMe (K : PySem.W.Frag) (me : Me) (d : D) : V → List V → Hp → VK → Prop := fun x xs H Q => ∃ E fb m S ds, Rel K fb m S H ∧ Rep K fb m H d x ∧ Reps K fb m H ds xs ∧ Post K E fb (rpE K fb) m H Q (meD me S d ds)
theorem Reps.one {K : PySem.W.Frag} {fb m : List Addr} {H : Hp} {d : D} {vs : List V} (h : Reps K fb m H [d] vs) : ∃ v, vs = [v] ∧ Rep K fb m H d v := by
  cases h with
  | cons r t => cases t; exact ⟨_, rfl, r⟩
theorem Reps.zero {K : PySem.W.Frag} {fb m : List Addr} {H : Hp} {vs : List V} (h : Reps K fb m H [] vs) : vs = [] := by cases h; rfl
section
variable {X : Cx}
def rExtendR : V → List V → Hp → VK → Prop := fun x vs H Q => ∃ l b xs zs, x = .ref l ∧ vs = [.ref b] ∧ H l = some (.lst xs) ∧ Rd H b (.lst zs) ∧ xs.length + zs.length ≤ sizeLine ∧ Q .non (upd H l (.lst (xs ++ zs)))
theorem mt_extendR : MtR X "list.extend" rExtendR := by
  intro pins s σ H x vs v us Q I rx rv ⟨l, b, xs, zs, ex, evs, hH, hB, hz, q⟩
  subst ex; subst evs
  cases rx
  obtain ⟨u, rfl, ru⟩ := vals1 rv
  cases ru
  obtain ⟨z, ws, n, r, hl, e⟩ := I.lstM hH
  obtain ⟨z2, ws2, n2, r2, e2⟩ := hB.ok I.hok
  have hl2 : zs.length = ws2.length := r2.length
  have hsz : ws.toArray.size + ws2.toArray.size ≤ sizeLine := by rw [List.size_toArray, List.size_toArray]; omega
  refine call_meets F.slot_list_extend ⟨_, e, rfl⟩ F.entry_list_extend (F.args_list_extend_2 _ _)
    (AutoSeq1.list_extend_list_list_0 l ws.toArray n b ws2.toArray n2 (by rw [notLongL hsz, Bool.and_false]; exact Bool.false_ne_true) (by rw [List.size_toArray]; omega) (by omega)) ⟨e, e2, ?_⟩
  exact ⟨.non, _, I.lset (its' := ws ++ ws2) hH e (by simp) (r.append r2) (by rw [List.length_append]; omega), rfl, q⟩
structure MeF (X : Cx) (me : Me) (d : D) (T id : String) : Prop where
  pa : PlainAttrs T
  slot : Slot T (meN me) id
  ty : typeOf (.builtin id) = pure (.type "method_descriptor")
  is_ : ∀ (fb m : List Addr) (S : Store) (H : Hp) (x : V), Rel X.K fb m S H → Rep X.K fb m H d x → meT me S d = true → TyR X T x H
  mt : MtR X id (rMe X.K me d)
theorem lr_ty {fb m : List Addr} {S : Store} {H : Hp} {d : D} {x : V} (r : Rel X.K fb m S H) (p : Rep X.K fb m H d x) (h : isLr S d = true) : TyR X "list" x H := by
  obtain ⟨n, xs, rfl, e⟩ := isLr_inv h
  obtain ⟨q, vs, rfl, _, hv, _⟩ := ref_at r p e
  exact TyR.of (.inl ⟨rfl, vs, SqL.of hv⟩)
theorem seq_ty {fb m : List Addr} {S : Store} {H : Hp} {d : D} {x : V} (r : Rel X.K fb m S H) (p : Rep X.K fb m H d x) (h : (seqOf S d).isSome = true) : (∃ ys, d = .tup ys) ∨ TyR X "list" x H := by
  cases d with
  | tup ys => exact .inl ⟨ys, rfl⟩
  | lst ys =>
    obtain ⟨q, vs, rfl, hq, _⟩ := r.list p (ds := ys) rfl
    exact .inr (TyR.of (.inl ⟨rfl, vs, hq⟩))
  | ref n =>
    obtain ⟨ys, e⟩ := Option.isSome_iff_exists.mp h
    obtain ⟨q, vs, rfl, hq, _⟩ := r.list p (show lstOf S (.ref n) = some ys from e)
    exact .inr (TyR.of (.inl ⟨rfl, vs, hq⟩))
  | _ => cases h
theorem mt_app {d : D} : MtR X "list.append" (rMe X.K .app d) := by
  intro pins s σ H x xs v us Q I rx rxs ⟨E, fb, m, S, ds, r, p, q, h⟩
  unfold meD at h
  split at h
  all_goals first | exact h.elim | skip
  all_goals rename_i hm; first | (cases hm; done) | skip
  obtain ⟨y, rfl, ry⟩ := q.one
  obtain ⟨ys, d1, zs, e1, e2, h⟩ := listMt_inv h
  obtain ⟨hz, e3⟩ := need_some e2
  cases e3
  obtain ⟨a, vs, rfl, hm, hv, rr⟩ := ref_at r p e1
  obtain ⟨w1, w2⟩ := r.wr hm e1 (rr.app (.cons ry .nil))
  exact mt_append pins s σ H _ _ v us Q I rx rxs ⟨a, vs, y, rfl, rfl, hv, by rw [← rr.length]; exact szLt hz, h _ _ _ w1 w2 .non⟩
theorem mt_pop' {d : D} : MtR X "list.pop" (rMe X.K .pop d) := by
  intro pins s σ H x xs v us Q I rx rxs ⟨E, fb, m, S, ds, r, p, q, h⟩
  unfold meD at h
  split at h
  all_goals first | exact h.elim | skip
  all_goals rename_i hm; first | (cases hm; done) | skip
  obtain ⟨y, rfl, ry⟩ := q.one
  cases ry
  obtain ⟨ys, d1, zs, e1, e2, h⟩ := listMt_inv h
  obtain ⟨a, vs, rfl, hm, hv, rr⟩ := ref_at r p e1
  unfold popAt at e2
  split at e2
  · rename_i k hk
    split at e2
    · rename_i x hx
      obtain ⟨⟨z1, z2⟩, z3⟩ := need_some e2
      cases z3
      obtain ⟨w1, w2⟩ := r.wr hm e1 (rr.erase k)
      obtain ⟨u, hu, ru⟩ := rr.get hx
      exact mt_popAt pins s σ H _ _ v us Q I rx rxs ⟨a, vs, _, k, u, rfl, rfl, hv, z1, z2, by rw [← rr.length]; exact hk, hu, h _ _ _ w1 w2 (ru.mono w1)⟩
    · cases e2
  · cases e2
theorem mt_ext' {d : D} : MtR X "list.extend" (rMe X.K .ext d) := by
  intro pins s σ H x xs v us Q I rx rxs ⟨E, fb, m, S, ds, r, p, q, h⟩
  unfold meD at h
  split at h
  all_goals first | exact h.elim | skip
  all_goals rename_i hm; first | (cases hm; done) | skip
  obtain ⟨y, rfl, ry⟩ := q.one
  split at h
  · rename_i ys hy
    obtain ⟨xs, d1, zs, e1, e2, h⟩ := listMt_inv h
    obtain ⟨hz, e3⟩ := need_some e2
    cases e3
    obtain ⟨a, vs, rfl, hm, hv, rr⟩ := ref_at r p e1
    obtain ⟨b, us2, rfl, hb, rr2⟩ := r.listR ry hy
    obtain ⟨w1, w2⟩ := r.wr hm e1 (rr.app rr2)
    exact mt_extendR pins s σ H _ _ v us Q I rx rxs ⟨a, b, vs, us2, rfl, rfl, hv, hb, by rw [← rr.length, ← rr2.length]; exact szOk hz, h _ _ _ w1 w2 .non⟩
  · exact h.elim
theorem mt_clr' {d : D} : MtR X "list.clear" (rMe X.K .clr d) := by
  intro pins s σ H x xs v us Q I rx rxs ⟨E, fb, m, S, ds, r, p, q, h⟩
  unfold meD at h
  split at h
  all_goals first | exact h.elim | skip
  all_goals rename_i hm; first | (cases hm; done) | skip
  obtain rfl := q.zero
  obtain ⟨xs, d1, zs, e1, e2, h⟩ := listMt_inv h
  cases e2
  obtain ⟨a, vs, rfl, hm, hv, rr⟩ := ref_at r p e1
  obtain ⟨w1, w2⟩ := r.wr hm e1 (.nil : Reps X.K fb m H [] [])
  exact mt_clear pins s σ H _ _ v us Q I rx rxs ⟨a, vs, rfl, rfl, hv, h _ _ _ w1 w2 .non⟩
theorem idx_inv {E : XK} {fb m : List Addr} {S : Store} {H : Hp} {Q : VK} {K : PySem.W.Frag} {d : D} {ds : List D} (h : Post K E fb (rpE K fb) m H Q (meD .idx S d ds)) : ∃ y, ds = [y] ∧ Post K E fb (rpE K fb) m H Q (opt ((seqOf S d).bind (idxF y)) S) := by
  cases ds with
  | nil => exact (show False from h).elim
  | cons y r =>
    cases r with
    | nil => exact ⟨y, rfl, h⟩
    | cons _ _ => exact (show False from h).elim
theorem mt_idxL {d : D} (hd : ∀ ys, d ≠ .tup ys) : MtR X "list.index" (rMe X.K .idx d) := by
  intro pins s σ H x xs v us Q I rx rxs ⟨E, fb, m, S, ds, r, p, q, h⟩
  obtain ⟨y, rfl, h⟩ := idx_inv h
  obtain ⟨y, rfl, ry⟩ := q.one
  obtain ⟨w, hw, h⟩ := h.opt
  obtain ⟨ys, e1, e2⟩ := Option.bind_eq_some_iff.mp hw
  have e1' : lstOf S d = some ys := by
    cases d with
    | tup ys => exact absurd rfl (hd ys)
    | lst ys => exact e1
    | ref n => exact e1
    | _ => cases e1
  obtain ⟨a, vs, rfl, hq, rr⟩ := r.list p e1'
  obtain ⟨j, z, rfl, f1, f2, f3, f4, f5⟩ := idxF_at e2 rr ry
  exact mt_index pins s σ H _ _ v us Q I rx rxs ⟨a, vs, y, j, z, rfl, rfl, hq, f1, f2, f3, f4, f5, h.now r (.int _)⟩
theorem mt_idxT {ys : List D} : MtR X "tuple.index" (rMe X.K .idx (.tup ys)) := by
  intro pins s σ H x xs v us Q I rx rxs ⟨E, fb, m, S, ds, r, p, q, h⟩
  obtain ⟨y, rfl, h⟩ := idx_inv h
  obtain ⟨y, rfl, ry⟩ := q.one
  obtain ⟨w, hw, h⟩ := h.opt
  have e2 : idxF _ ys = some w := hw
  obtain ⟨a, vs, rfl, hq, rr⟩ := p.tuple
  obtain ⟨j, z, rfl, f1, f2, f3, f4, f5⟩ := idxF_at e2 rr ry
  exact mt_tindex pins s σ H _ _ v us Q I rx rxs ⟨a, vs, y, j, z, rfl, rfl, hq, f1, f2, f3, f4, f5, h.now r (.int _)⟩
theorem me_ok (me : Me) (d : D) : ∃ T id, MeF X me d T id := by
  cases me with
  | app => exact ⟨_, _, PySem.F.plainAttrs_list, PySem.F.slot_list_append, PySem.F.type_list_append, fun _ _ _ _ _ r p h => lr_ty r p h, mt_app⟩
  | pop => exact ⟨_, _, PySem.F.plainAttrs_list, PySem.F.slot_list_pop, PySem.F.type_list_pop, fun _ _ _ _ _ r p h => lr_ty r p h, mt_pop'⟩
  | ext => exact ⟨_, _, PySem.F.plainAttrs_list, PySem.F.slot_list_extend, PySem.F.type_list_extend, fun _ _ _ _ _ r p h => lr_ty r p h, mt_ext'⟩
  | clr => exact ⟨_, _, PySem.F.plainAttrs_list, PySem.F.slot_list_clear, PySem.F.type_list_clear, fun _ _ _ _ _ r p h => lr_ty r p h, mt_clr'⟩
  | idx =>
    by_cases hd : ∃ ys, d = .tup ys
    · obtain ⟨ys, rfl⟩ := hd
      exact ⟨_, _, PySem.F.plainAttrs_tuple, PySem.F.slot_tuple_index, PySem.F.type_tuple_index, fun _ _ _ _ _ _ p _ => p.tupX, mt_idxT⟩
    · exact ⟨_, _, PySem.F.plainAttrs_list, PySem.F.slot_list_index, PySem.F.type_list_index, fun _ _ _ _ _ r p h => (seq_ty r p h).elim (fun z => absurd z hd) id, mt_idxL fun ys z => hd ⟨ys, z⟩⟩
variable {W : WX} {a b : Expr} {es : List Expr} {fa : Ro → Store → R D} {fs : Ro → Store → R (List D)} {pos : Pos}
theorem s_me (me : Me) {apos : Pos} (ha : PE X a (tE X.K W fa)) (hb : PA X (b :: es) (tA X.K W fs)) (hbase : attributeBase a (meN me) X.env (eval a X.env) = eval a X.env)
    (hfew : ((backTo pos (starEach (b :: es) X.env)).all (fun x => !x.1) && (backToKw pos (keywordEach [] X.env)).all (fun x => x.1.isSome) && decide ((b :: es).length + ([] : List Keyword).length + (if ([] : List Keyword).isEmpty then 0 else 1) < 30)) = true)
    (hline : (apos.endLine == pos.line) = true) (hs : starEach (b :: es) X.env = (false, eval b X.env) :: starEach es X.env) (hpl : (backTo pos (starEach es X.env)).any (·.1) = false) :
    PE X (.Call (.Attribute a (meN me) apos) (b :: es) [] pos) (tE X.K W fun ρ S => (fa ρ S).bd fun x S1 => if meT me S1 x = true then (fs ρ S1).bd fun ds S2 => meD me S2 x ds else .bad) := by
  have pj : PE X (.Call (.Attribute a (meN me) apos) (b :: es) [] pos) (fun σ H Q => ∃ d T id, MeF X me d T id ∧ tBG X T (rMe X.K me d) (tE X.K W fa) (tA X.K W fs) σ H Q) :=
    ⟨fun pins s σ H Q I ⟨d, T, id, f, h⟩ => (pe_bg f.pa f.slot f.ty f.mt ha hb hbase hfew hline hs hpl).run pins s σ H Q I h⟩
  refine pj.imp fun σ H Q ⟨fb, m, S, ρ, r, l, h⟩ => ?_
  dsimp only at h
  cases hf : fa ρ S with
  | bad => rw [hf] at h; exact h.elim
  | err x S1 =>
    rw [hf] at h
    obtain ⟨T, id, f⟩ := me_ok (X := X) me .non
    exact ⟨_, T, id, f, fb, m, S, ρ, r, l, by rw [hf]; exact h⟩
  | ok d S1 =>
    rw [hf] at h
    obtain ⟨T, id, f⟩ := me_ok (X := X) me d
    refine ⟨d, T, id, f, fb, m, S, ρ, r, l, ?_⟩
    rw [hf]
    intro m1 H1 v e1 r1 p1
    have h : Post X.K (WE W σ) fb (rpE X.K fb) m H Q (if meT me S1 d = true then (fs ρ S1).bd fun ds S2 => meD me S2 d ds else .bad) := h
    by_cases ht : meT me S1 d = true
    · rw [if_pos ht] at h
      exact ⟨f.is_ _ _ _ _ _ r1 p1 ht, fb, m1, S1, ρ, r1, l.mono e1, (Post.mono e1 h).bd.imp fun vs H2 ⟨m2, S2, ds, e2, r2, p2, h2⟩ => ⟨_, fb, m2, S2, ds, r2, p1.mono e2, p2, h2⟩⟩
    · rw [if_neg ht] at h; exact h.elim
theorem s_me0 (me : Me) {apos : Pos} (ha : PE X a (tE X.K W fa)) (hbase : attributeBase a (meN me) X.env (eval a X.env) = eval a X.env) (hline : (apos.endLine == pos.line) = true) :
    PE X (.Call (.Attribute a (meN me) apos) [] [] pos) (tE X.K W fun ρ S => (fa ρ S).bd fun x S1 => if meT me S1 x = true then (R.ok [] S1).bd fun ds S2 => meD me S2 x ds else .bad) := by
  have pj : PE X (.Call (.Attribute a (meN me) apos) [] [] pos) (fun σ H Q => ∃ d T id, MeF X me d T id ∧ tBG0 X T (rMe X.K me d) (tE X.K W fa) σ H Q) :=
    ⟨fun pins s σ H Q I ⟨d, T, id, f, h⟩ => (pe_bg0 f.pa f.slot f.ty f.mt ha hbase hline).run pins s σ H Q I h⟩
  refine pj.imp fun σ H Q ⟨fb, m, S, ρ, r, l, h⟩ => ?_
  dsimp only at h
  cases hf : fa ρ S with
  | bad => rw [hf] at h; exact h.elim
  | err x S1 =>
    rw [hf] at h
    obtain ⟨T, id, f⟩ := me_ok (X := X) me .non
    exact ⟨_, T, id, f, fb, m, S, ρ, r, l, by rw [hf]; exact h⟩
  | ok d S1 =>
    rw [hf] at h
    obtain ⟨T, id, f⟩ := me_ok (X := X) me d
    refine ⟨d, T, id, f, fb, m, S, ρ, r, l, ?_⟩
    rw [hf]
    intro m1 H1 v e1 r1 p1
    have h : Post X.K (WE W σ) fb (rpE X.K fb) m H Q (if meT me S1 d = true then meD me S1 d [] else .bad) := h
    by_cases ht : meT me S1 d = true
    · rw [if_pos ht] at h
      exact ⟨f.is_ _ _ _ _ _ r1 p1 ht, _, fb, m1, S1, [], r1, p1, .nil, Post.mono e1 h⟩
    · rw [if_neg ht] at h; exact h.elim
end
end PyD

namespace PyD
open PySem PySem.Spec PyProof.Rows L2
variable [TB]
def tyS : Ty → String
  | .list => "list" | .tuple => "tuple" | .bool => "bool" | .int => "int" | .str => "str" | .seq => "tuple"
def kiS : D → String
  | .non => "NoneType" | .bl _ => "bool" | .int _ => "int" | .str _ => "str" | .tup _ => "tuple" | .lst _ => "list" | .ref _ => "list" | _ => ""
section
variable {X : Cx} {W : WX} {K : PySem.W.Frag} {fb m : List Addr} {S : Store} {H : Hp} {d : D} {x : V}
theorem ty_sqL {p : Addr} {vs : List V} (h : SqL K H p vs) : TyX K H (.ref p) (.type "list") := by
  rcases h with (h | ⟨o, h⟩) | ⟨o, its, n, h1, h2, _⟩
  · exact .base (.lst h)
  · exact .base (.frz h)
  · exact .kList h1 h2
theorem ty_sqT {p : Addr} {vs : List V} (h : SqT K H p vs) : TyX K H (.ref p) (.type "tuple") := by
  rcases h with (h | ⟨o, h⟩) | ⟨o, its, n, h1, h2, _⟩
  · exact .base (.tup h)
  · exact .fTuple h
  · exact .kTuple h1 h2
theorem rep_ty (r : Rel K fb m S H) (p : Rep K fb m H d x) (hs : kiS d ≠ "") (hd : ∀ n, d = .ref n → ∃ ys, lstOf S d = some ys) : TyX K H x (.type (kiS d)) := by
  cases d with
  | non => cases p; exact .base .non
  | bl b => cases p; exact .base (.bl b)
  | int i => cases p; exact .base (.int i)
  | str i => cases p; exact .base (.str i)
  | tup xs =>
    obtain ⟨q, vs, rfl, hT, _⟩ := p.tuple
    exact ty_sqT hT
  | lst xs =>
    obtain ⟨q, vs, rfl, hq, _⟩ := r.list p (ds := xs) rfl
    exact ty_sqL hq
  | ref n =>
    obtain ⟨ys, hy⟩ := hd n rfl
    obtain ⟨q, vs, rfl, hq, _⟩ := r.list p hy
    exact ty_sqL hq
  | _ => exact absurd rfl hs
theorem isaD_ki {t : Ty} {b : Bool} (h : isaD S t d = some b) : kiS d ≠ "" := by
  cases d <;> first | (intro z; simp [kiS] at z; done) | (cases t <;> cases h)
theorem isaD_ref {t : Ty} {b : Bool} (h : isaD S t d = some b) : ∀ n, d = .ref n → ∃ ys, lstOf S d = some ys := by
  rintro n rfl
  cases e : lstOf S (.ref n) with
  | some ys => exact ⟨ys, rfl⟩
  | none => cases t <;> simp [isaD, e] at h
theorem isaD_one {t : Ty} {b : Bool} (ht : t ≠ .seq) (h : isaD S t d = some b) : kitB (kiS d) (tyS t) = some b := by
  obtain hr := isaD_ref h
  cases d with
  | ref n =>
    obtain ⟨ys, hy⟩ := hr n rfl
    cases t <;> first
      | exact absurd rfl ht
      | (simp only [isaD, hy, Option.map_some, Option.some.injEq] at h; subst h; show kitB "list" _ = _; decide +kernel)
  | non => cases t <;> first | exact absurd rfl ht | (cases h; show kitB "NoneType" _ = _; decide +kernel)
  | bl _ => cases t <;> first | exact absurd rfl ht | (cases h; show kitB "bool" _ = _; decide +kernel)
  | int _ => cases t <;> first | exact absurd rfl ht | (cases h; show kitB "int" _ = _; decide +kernel)
  | str _ => cases t <;> first | exact absurd rfl ht | (cases h; show kitB "str" _ = _; decide +kernel)
  | tup _ => cases t <;> first | exact absurd rfl ht | (cases h; show kitB "tuple" _ = _; decide +kernel)
  | lst _ => cases t <;> first | exact absurd rfl ht | (cases h; show kitB "list" _ = _; decide +kernel)
  | _ => cases t <;> cases h
theorem isaD_seq {b : Bool} (h : isaD S .seq d = some b) : PySem.W.kitAny K (.type (kiS d)) [.type "list", .type "tuple"] = some b := by
  have key : ∀ (k : String) (b1 b2 r : Bool), kitB k "list" = some b1 → kitB k "tuple" = some b2 → r = (b1 || b2) → PySem.W.kitAny K (.type k) [.type "list", .type "tuple"] = some r := by
    intro k b1 b2 r h1 h2 e
    subst e
    refine kitAny_cons (b := b1) (kit_ty h1) (fun e => ?_) (fun e => by rw [e]; rfl)
    refine kitAny_cons (b := b2) (kit_ty h2) (fun e2 => ?_) (fun e2 => by rw [e, e2]; rfl)
    rw [e, e2]; exact kitAny_nil
  obtain hr := isaD_ref h
  cases d with
  | ref n =>
    obtain ⟨ys, hy⟩ := hr n rfl
    simp only [isaD, hy, Option.map_some, Option.some.injEq] at h
    subst h
    exact key "list" true false true (by decide +kernel) (by decide +kernel) rfl
  | non => cases h; exact key "NoneType" false false false (by decide +kernel) (by decide +kernel) rfl
  | bl _ => cases h; exact key "bool" false false false (by decide +kernel) (by decide +kernel) rfl
  | int _ => cases h; exact key "int" false false false (by decide +kernel) (by decide +kernel) rfl
  | str _ => cases h; exact key "str" false false false (by decide +kernel) (by decide +kernel) rfl
  | tup _ => cases h; exact key "tuple" false true true (by decide +kernel) (by decide +kernel) rfl
  | lst _ => cases h; exact key "list" true false true (by decide +kernel) (by decide +kernel) rfl
  | _ => cases h
end
def tyN : Ty → Str
  | .list => "list" | .tuple => "tuple" | .bool => "bool" | .int => "int" | .str => "str" | .seq => "tuple"
theorem boot_ty (t : Ty) : bootBuiltins (tyN t) = some (.type (tyS t)) := by cases t <;> decide +kernel
section
variable {X : Cx} {W : WX} {a : Expr} {fa : Ro → Store → R D} {p q q2 pos tpos : Pos}
theorem pe_tyN (t : Ty) (hg : Gl X (tyN t)) (hm : X.mg (tyN t) = none) : PE X (.Name (tyN t) q) (tC (.ty (tyS t))) :=
  pe_bltn hg hm (boot_ty t) rfl (by cases t <;> decide) (by cases t <;> decide)
theorem s_isa (t : Ty) (ht : t ≠ .seq) (hg : Gl X "isinstance") (hm : X.mg "isinstance" = none) (hgT : Gl X (tyN t)) (hmT : X.mg (tyN t) = none) (ha : PE X a (tE X.K W fa)) (hs : ∀ es, starEach (a :: es) X.env = (false, eval a X.env) :: starEach es X.env) :
    PE X (.Call (.Name "isinstance" p) [a, .Name (tyN t) q] [] pos) (tE X.K W fun ρ S => (fa ρ S).bd fun x S1 => opt ((isaD S1 t x).map .bl) S1) := by
  have pa : PA X [a, .Name (tyN t) q] (tCons (tE X.K W fa) (tCons (tC (.ty (tyS t))) tNil)) := pa_cons ha (pa_cons (pe_tyN t hgT hmT) pa_nil rfl) (hs _)
  refine (pe_callB (call_isi) hg hm PyProof.Rows.boot_isinstance pa (by decide) (by decide) (hs _) rfl).imp ?_
  intro σ H Q ⟨fb, m, S, ρ, r, l, h⟩
  refine ⟨fb, m, S, ρ, r, l, h.bd.imp fun x H1 ⟨m1, S1, d, e1, r1, p1, h1⟩ => ?_⟩
  obtain ⟨w, hw, hh⟩ := h1.opt
  obtain ⟨b, hb, rfl⟩ := Option.map_eq_some_iff.mp hw
  exact ⟨x, .ty (tyS t), _, _, b, rfl, .ty _, rep_ty r1 p1 (isaD_ki hb) (isaD_ref hb), kit_ty (isaD_one ht hb), hh.now r1 (.bl _)⟩
theorem s_isaT {k : Nat} (hg : Gl X "isinstance") (hm : X.mg "isinstance" = none) (hg1 : Gl X "list") (hm1 : X.mg "list" = none) (hg2 : Gl X "tuple") (hm2 : X.mg "tuple" = none) (ha : PE X a (tE X.K W fa)) (hs : ∀ es, starEach (a :: es) X.env = (false, eval a X.env) :: starEach es X.env) :
    PE X (.Call (.Name "isinstance" p) [a, .Tuple [.Name "list" q, .Name "tuple" q2] k tpos] [] pos) (tE X.K W fun ρ S => (fa ρ S).bd fun x S1 => opt ((isaD S1 .seq x).map .bl) S1) := by
  have pt : PE X (.Tuple [.Name "list" q, .Name "tuple" q2] k tpos) (tTup (tCons (tC (.ty "list")) (tCons (tC (.ty "tuple")) tNil))) := pe_tup (pa_cons (pe_tyN .list hg1 hm1) (pa_cons (pe_tyN .tuple hg2 hm2) pa_nil rfl) rfl)
  have pa : PA X [a, .Tuple [.Name "list" q, .Name "tuple" q2] k tpos] (tCons (tE X.K W fa) (tCons (tTup (tCons (tC (.ty "list")) (tCons (tC (.ty "tuple")) tNil))) tNil)) := pa_cons ha (pa_cons pt pa_nil rfl) (hs _)
  refine (pe_callB (call_isiT) hg hm PyProof.Rows.boot_isinstance pa (by decide) (by decide) (hs _) rfl).imp ?_
  intro σ H Q ⟨fb, m, S, ρ, r, l, h⟩
  refine ⟨fb, m, S, ρ, r, l, h.bd.imp fun x H1 ⟨m1, S1, d, e1, r1, p1, h1⟩ => ?_⟩
  refine ⟨by show 2 ≤ sizeLine; rw [sizeLine_eq]; omega, fun t ht => ?_⟩
  obtain ⟨w, hw, hh⟩ := h1.opt
  obtain ⟨b, hb, rfl⟩ := Option.map_eq_some_iff.mp hw
  have r2 : Rel X.K fb m1 S1 (upd H1 t (.tup [.ty "list", .ty "tuple"])) := r1.new ht
  have ex := Ext.new (o := HO.tup [.ty "list", .ty "tuple"]) r1 ht
  refine ⟨x, t, [.ty "list", .ty "tuple"], _, [.type "list", .type "tuple"], b, rfl, upd_same, .cons (.ty _) (.cons (.ty _) .nil), rep_ty r2 (p1.mono ex) (isaD_ki hb) (isaD_ref hb), isaD_seq hb, ?_⟩
  exact hh m1 _ _ ex r2 (.bl _)
end
end PyD

namespace PyD
open PySem PySem.Spec PyProof.Rows L2
variable [TB]
def opN (neg : Bool) : CmpOp := if neg then .NotIn else .In
def rInn (K : PySem.W.Frag) (neg : Bool) : R2 := fun x y H Q => ∃ fb m S d e, Rel K fb m S H ∧ Rep K fb m H d x ∧ Rep K fb m H e y ∧ ∃ b, inD S d e = some b ∧ Q (.bl (b != neg)) H
section
variable {K : PySem.W.Frag} {fb m : List Addr} {S : Store} {H : Hp}
theorem inV_reps {x : D} {v : V} (rx : Rep K fb m H x v) (fx : flatD x = true) : ∀ {ys : List D} {vs : List V}, Reps K fb m H ys vs → ys.all flatD = true → inV v vs = ys.any fun z => eqF z x
  | _, _, .nil, _ => rfl
  | _, _, .cons (d := y) (ds := ys) r t, h => by
    rw [List.all_cons, Bool.and_eq_true] at h
    have ih := inV_reps rx fx t h.2
    unfold inV at ih ⊢
    rw [List.any_cons, List.any_cons, ih, eq_rep r rx h.1 fx]
theorem key_mem {ks : List L2.Key} {ds : List D} {vs : List V} {k : L2.Key} (rr : Reps K fb m H ds vs) (hl : ks.length = ds.length) : (valV (ks.zip vs) k).isSome = hasK ks k := by
  rw [← valV_any]
  have hl2 : ks.length = vs.length := hl.trans rr.length
  clear rr hl
  induction ks generalizing vs with
  | nil => rfl
  | cons j ks ih =>
    cases vs with
    | nil => cases hl2
    | cons v vs =>
      unfold hasK
      rw [List.zip_cons_cons, List.any_cons, List.any_cons, ih (by simpa using hl2)]
      rfl
end
section
variable {X : Cx}
theorem op_inn (hu : X.A.units + 64 < cLine) (hu2 : X.A.units + 65 < cLine) (neg : Bool) : OpR X (compareOp (opN neg)) (rInn X.K neg) := by
  intro pins s σ H x y v u Q I rx ry ⟨fb, m, S, d, e, r, rd, re, b, hb, q⟩
  have flat : ∀ {p : Addr} {ys : List D} {vs : List V}, y = .ref p → (SqL X.K H p vs ∨ SqT X.K H p vs) → Reps X.K fb m H ys vs → flatD d = true → ys.all flatD = true → b = (ys.any fun z => eqF z d) → wpAny (model X.prog X.w) X.A (compareOp (opN neg) v u) (EP X pins σ Q) X.xe s := by
    intro p ys vs ey hq rr fd fy eb
    have hv := inV_reps rd fd rr fy
    rw [eb, ← hv] at q
    cases neg with
    | false => exact op_in_seq pins s σ H _ _ v u Q I rx ry ⟨p, vs, ey, hq, flat_rep rd fd, flat_reps rr fy, by simpa using q⟩
    | true => exact op_notIn_seq pins s σ H _ _ v u Q I rx ry ⟨p, vs, ey, hq, flat_rep rd fd, flat_reps rr fy, by simpa using q⟩
  have key : ∀ (es : List D), lstOf S e = some es → (if flatD d && es.all flatD then some (es.any fun z => eqF z d) else match pdS S d, D.pds es with
        | some p, some ps => need (SeqAt.shaped p = true ∧ SeqAt.shaped (.list ps) = true) (some (ps.any fun z => PyData.eqv z p))
        | _, _ => none) = some b → wpAny (model X.prog X.w) X.A (compareOp (opN neg) v u) (EP X pins σ Q) X.xe s := by
    intro es he hb
    obtain ⟨p, vs, ey, hq, rr⟩ := r.list re he
    split at hb
    · rename_i hf
      rw [Bool.and_eq_true] at hf
      exact flat ey (.inl hq) rr hf.1 hf.2 (Option.some.inj hb).symm
    · split at hb
      · rename_i p1 ps h1 h2
        obtain ⟨⟨s1, s2⟩, h3⟩ := need_some hb
        cases h3
        have d1 := pdS_dp r rd h1
        have d2 : Dp X.K H y (.list ps) := by rw [ey]; exact .lst hq (pds_dp rr h2)
        cases neg with
        | false => exact op_inD hu2 pins s σ H _ _ v u Q I rx ry ⟨p1, ps, d1, d2, s1, s2, by simpa using q⟩
        | true => exact op_notInD hu2 pins s σ H _ _ v u Q I rx ry ⟨p1, ps, d1, d2, s1, s2, by simpa using q⟩
      · cases hb
  unfold inD at hb
  split at hb
  · split at hb
    · cases rd
      cases re
      cases hb
      cases neg with
      | false => exact op_in_str pins s σ H _ _ v u Q I rx ry ⟨_, _, rfl, rfl, by simpa using q⟩
      | true => exact op_notin_str pins s σ H _ _ v u Q I rx ry ⟨_, _, rfl, rfl, by simpa using q⟩
    · cases hb
  · split at hb
    · rename_i ys hf
      rw [Bool.and_eq_true] at hf
      obtain ⟨p, vs, ey, hq, rr⟩ := re.tuple
      exact flat ey (.inr hq) rr hf.1 hf.2 (Option.some.inj hb).symm
    · cases hb
  · split at hb
    · rename_i ks ds hd
      obtain ⟨k, hk, rfl⟩ := Option.map_eq_some_iff.mp hb
      unfold dctOf at hd
      split at hd
      · rename_i n
        split at hd
        · rename_i ks' ds' hx
          cases hd
          obtain ⟨p, vs, rfl, _, hp, hl, rr⟩ := dct_at r re hx
          obtain rfl := key_rep rd hk
          have g := DGet.k (k := k) hp
          have hm := key_mem (k := k) rr hl
          obtain rfl : u = Value.ref p := ry
          cases neg with
          | false => exact d_in (by omega) I g rx fun s3 I3 => ⟨.bl _, H, I3, rfl, by rw [hm]; simpa using q⟩
          | true => exact d_notIn (by omega) I g rx fun s3 I3 => ⟨.bl _, H, I3, rfl, by rw [hm]; simpa using q⟩
        · cases hd
      · cases hd
    · split at hb
      · rename_i es he
        exact key es he hb
      · cases hb
variable {W : WX} {a b : Expr} {fa ff : Ro → Store → R D} {pos : Pos}
theorem inn_post {K : PySem.W.Frag} {E : XK} {fb m : List Addr} {H : Hp} {S : Store} {Q : VK} {o : Option Bool} {neg : Bool} (r : Rel K fb m S H) (h : Post K E fb (rpE K fb) m H Q (opt (o.map fun b => .bl (b != neg)) S)) : ∃ b, o = some b ∧ Q (.bl (b != neg)) H := by
  obtain ⟨d, e, h⟩ := h.opt
  obtain ⟨b, e1, rfl⟩ := Option.map_eq_some_iff.mp e
  exact ⟨b, e1, h.now r (.bl _)⟩
theorem s_inn (hu : X.A.units + 64 < cLine) (hu2 : X.A.units + 65 < cLine) (neg : Bool) (ha : PE X a (tE X.K W fa)) (hb : PE X b (tE X.K W ff)) (hm : behindInMarks (opN neg) b = false) : PE X (.Compare a [opN neg] [b] pos) (tE X.K W fun ρ S => (fa ρ S).bd fun x S1 => (ff ρ S1).bd fun y S2 => opt ((inD S2 x y).map fun b => .bl (b != neg)) S2) :=
  (pe_cmpR (op_inn hu hu2 neg) ha hb hm).imp fun σ H Q ⟨fb, m, S, ρ, r, l, h⟩ =>
    ⟨fb, m, S, ρ, r, l, h.bd.imp fun x H1 ⟨m1, S1, d, e1, r1, p1, h1⟩ =>
      ⟨fb, m1, S1, ρ, r1, l.mono e1, h1.bd.imp fun y H2 ⟨m2, S2, d2, e2, r2, p2, h2⟩ => ⟨fb, m2, S2, d, d2, r2, p1.mono e2, p2, inn_post r2 h2⟩⟩⟩
theorem u_inn (hu : X.A.units + 64 < cLine) (hu2 : X.A.units + 65 < cLine) (neg : Bool) (ha : PE X a (tE X.K W fa)) (hb : PE X b (tE X.K W ff)) (hm : behindInMarks (opN neg) b = false) : PT X (.Compare a [opN neg] [b] pos) (tT X.K W (tru fun ρ S => (fa ρ S).bd fun x S1 => (ff ρ S1).bd fun y S2 => opt ((inD S2 x y).map fun b => .bl (b != neg)) S2)) :=
  (pt_cmpR (op_inn hu hu2 neg) ha hb hm).imp fun σ H Q ⟨fb, m, S, ρ, r, l, h⟩ => by
    have h' := tru_bl h fun d S e => by
      obtain ⟨_, _, _, e⟩ := R.bd_inv e
      obtain ⟨_, _, _, e⟩ := R.bd_inv e
      cases q : inD _ _ _ with
      | none => rw [q] at e; cases e
      | some k => rw [q] at e; cases e; exact ⟨_, rfl⟩
    exact ⟨fb, m, S, ρ, r, l, h'.bd.imp fun x H1 ⟨m1, S1, d, e1, r1, p1, h1⟩ =>
      ⟨fb, m1, S1, ρ, r1, l.mono e1, h1.bd.imp fun y H2 ⟨m2, S2, d2, e2, r2, p2, h2⟩ => ⟨fb, m2, S2, d, d2, r2, p1.mono e2, p2, inn_post r2 h2⟩⟩⟩
theorem l_cat (ha : PE X a (tE X.K W fa)) (hb : PE X b (tE X.K W ff)) : PE X (.BinOp a .Add b pos) (tL X.K W fun ρ S => (fa ρ S).bd fun x S1 => (ff ρ S1).bd fun y S2 => opt (catL S2 x y) S2) :=
  (pe_op op_catR ha hb).imp fun σ H Q ⟨fb, m, S, ρ, r, l, h⟩ =>
    ⟨fb, m, S, ρ, r, l, (PostL.bd h).imp fun x H1 ⟨m1, S1, d, e1, r1, p1, h1⟩ =>
      ⟨fb, m1, S1, ρ, r1, l.mono e1, (PostL.bd h1).imp fun y H2 ⟨m2, S2, d2, e2, r2, p2, h2⟩ => by
        obtain ⟨zs, e, h2⟩ := h2.opt
        obtain ⟨xs, ys, g1, g2, hz, rfl⟩ := catL_inv e
        obtain ⟨p, vs, rfl, hp, q⟩ := r2.listR (p1.mono e2) g1
        obtain ⟨p3, vs2, rfl, hp2, q2⟩ := r2.listR p2 g2
        exact ⟨p, p3, vs, vs2, rfl, rfl, hp, hp2, by rw [← q.length, ← q2.length]; exact szOk hz, h2.new r2 (q.app q2)⟩⟩⟩
end
end PyD

namespace PyD
open PySem PySem.Spec PyProof.Rows L2
variable [TB]
def rkZ (B : Int) (ns : List Int) : Int := TS.code (2 * B) (ns.map (· + B))
def inZ (B : Int) (ns : List Int) : Prop := ∀ m ∈ ns, -B ≤ m ∧ m < B
theorem inZ.bd {B : Int} {ns : List Int} (h : inZ B ns) : TS.Bd (2 * B) (ns.map (· + B)) := fun m hm => by
  obtain ⟨z, hz, rfl⟩ := List.mem_map.1 hm
  have := h z hz
  omega
theorem inZ.tail {B p : Int} {ns : List Int} (h : inZ B (p :: ns)) : inZ B ns := fun m hm => h m (List.mem_cons_of_mem _ hm)
theorem rkZ_same {B p : Int} {ns ms : List Int} (hl : ns.length = ms.length) : rkZ B (p :: ns) < rkZ B (p :: ms) ↔ rkZ B ns < rkZ B ms := TS.code_same (by simpa using hl)
theorem rkZ_lt {B p q : Int} {ns ms : List Int} (hl : ns.length = ms.length) (h1 : inZ B ns) (h2 : inZ B ms) (h : p < q) : rkZ B (p :: ns) < rkZ B (q :: ms) := TS.code_lt (by simpa using hl) h1.bd h2.bd (show p + B < q + B by omega)
theorem rkZ_inj {B : Int} : ∀ {ns ms : List Int}, ns.length = ms.length → inZ B ns → inZ B ms → rkZ B ns = rkZ B ms → ns = ms
  | [], [], _, _, _, _ => rfl
  | p :: ns, q :: ms, hl, h1, h2, e => by
    have hl' : ns.length = ms.length := by simpa using hl
    rcases Int.lt_trichotomy p q with h | h | h
    · have := rkZ_lt hl' h1.tail h2.tail h; omega
    · subst h
      have a := rkZ_same (B := B) (p := p) hl'
      have b := rkZ_same (B := B) (p := p) hl'.symm
      rw [rkZ_inj hl' h1.tail h2.tail (by
        rcases Int.lt_trichotomy (rkZ B ns) (rkZ B ms) with c | c | c
        · have := a.2 c; omega
        · exact c
        · have := b.2 c; omega)]
    · have := rkZ_lt hl'.symm h2.tail h1.tail h; omega
section
variable {prog : Program} {w : World} {A : Around} {E : Value → Shared → Prop} {s : Shared} {Q : Bool → Shared → Prop}
theorem lexZ {B : Int} {b : Bool} : ∀ {ns ms : List Int} {xs ys : List Value} (i : Nat), PyProof.Rows.IntsAre xs ns → PyProof.Rows.IntsAre ys ms → ns.length = ms.length → inZ B ns → inZ B ms → Q (decide (rkZ B ns < rkZ B ms)) s → PySem.W.KatLex prog w A b false Q (xs.zip ys) i s
  | [], [], _, _, i, .nil, .nil, _, _, _, h => by
    rw [decide_eq_false (Int.lt_irrefl _)] at h
    exact PySem.W.kat_nil h
  | p :: ns, q :: ms, _, _, i, .cons _ _ hx, .cons _ _ hy, hl, h1, h2, h => by
    have hl' : ns.length = ms.length := by simpa using hl
    refine PySem.W.kat_cons (wpAny_eqBool_int ?_)
    by_cases e : p = q
    · subst e
      rw [decide_eq_decide.mpr (rkZ_same hl')] at h
      rw [beq_self_eq_true]
      refine PySem.W.kat_yes ?_
      exact lexZ (i + 1) hx hy hl' h1.tail h2.tail h
    · rw [beq_eq_false_iff_ne.mpr e]
      refine PySem.W.kat_no (TS.oneLt_ints _ ?_)
      have d : (rkZ B (p :: ns) < rkZ B (q :: ms)) ↔ p < q := ⟨fun x => by
        rcases Int.lt_trichotomy p q with y | y | y
        · exact y
        · exact absurd y e
        · have := rkZ_lt hl'.symm h2.tail h1.tail y; omega, rkZ_lt hl' h1.tail h2.tail⟩
      rw [decide_eq_decide.mpr d] at h
      exact h
def RowsZ (h : Heap) (d : Nat) (B : Int) (vs : List Value) : Prop := ∀ v ∈ vs, ∃ ns, TS.TupInts h v ns ∧ ns.length = d ∧ inZ B ns
theorem RowsZ.keeps {h h' : Heap} {d : Nat} {B : Int} {vs : List Value} (x : RowsZ h d B vs) (k : ∀ b o, h.get? b = some o → o.cls = .type "tuple" → h'.get? b = some o) : RowsZ h' d B vs := fun v hv =>
  let ⟨ns, t, r⟩ := x v hv; ⟨ns, t.keeps k, r⟩
theorem headsZ {h : Heap} {d : Nat} {B : Int} (hd : 1 ≤ d) : ∀ vs : List Value, RowsZ h d B vs → ∃ fs, PySem.W.KatTups h vs fs ∧ fs.length = vs.length ∧ ∀ f ∈ fs, ∃ n t, f = Value.int n t
  | [], _ => ⟨[], .nil, rfl, fun f hf => nomatch hf⟩
  | v :: vs, x => by
    obtain ⟨fs, k, hl, hi⟩ := headsZ hd vs fun u hu => x u (List.mem_cons_of_mem _ hu)
    obtain ⟨ns, ⟨a, xs, rfl, ⟨o, ho, hc, n, hdt⟩, i⟩, hn, _⟩ := x v List.mem_cons_self
    have il := i.length
    cases q : xs.toList with
    | nil => rw [q] at il; simp only [List.length_nil] at il; omega
    | cons y ys =>
      obtain ⟨m, t, hy⟩ := i.all y (by rw [q]; exact List.mem_cons_self)
      refine ⟨y :: fs, .cons ho hc hdt ?_ k, by simp [hl], fun f hf => ?_⟩
      · rw [← Array.getElem?_toList, q]; rfl
      · rcases List.mem_cons.mp hf with rfl | hf
        · exact ⟨m, t, hy⟩
        · exact hi f hf
def rvZ (B : Int) (h : Heap) (v : Value) : Int := rkZ B (TS.intsOf h v)
theorem kindZ {d : Nat} {B : Int} {vs : List Value} (hd : 1 ≤ d) (h2 : 2 ≤ vs.length) (x : RowsZ s.heap d B vs) (r : Value → Int) (hr : ∀ v ∈ vs, ∀ ns, TS.TupInts s.heap v ns → r v = rkZ B ns) (Q : SortKind → Shared → Prop)
    (h : ∀ κ, TS.Cmp prog w A s κ (pairsOf vs) r → Q κ s) : wpAny (model prog w) A (keyKind' vs.toArray) Q E s := by
  obtain ⟨fs, k, hl, hi⟩ := headsZ hd vs x
  refine PySem.W.kat_kind (T := Value.type "int") k (by omega) (fun f hf => ?_) rfl (h _ fun p q hp hq Q' E' hQ => ?_)
  · obtain ⟨n, t, rfl⟩ := hi f hf
    exact PySem.W.Looks.of_pure rfl
  · rw [pairsOf_toList] at hp hq
    have mp := (mem_zip_self hp).2
    have mq := (mem_zip_self hq).2
    obtain ⟨ns, tp, lp, bp⟩ := x _ mp
    obtain ⟨ms, tq, lq, bq⟩ := x _ mq
    rw [hr _ mp _ tp, hr _ mq _ tq] at hQ
    obtain ⟨a, xs, e1, ⟨o, ho, hc, n, hdt⟩, i⟩ := tp
    obtain ⟨a', ys, e2, ⟨o', ho', hc', n', hdt'⟩, i'⟩ := tq
    rw [e1, e2]
    refine PySem.W.kat_lt ho hdt ho' hdt' ?_
    have l1 := i.length
    have l2 := i'.length
    rw [Array.length_toList] at l1 l2
    rw [decide_eq_false (show ¬xs.size < ys.size by omega)]
    exact lexZ 0 i i' (by omega) bp bq hQ
theorem rowsZ_rank {h : Heap} {d : Nat} {B : Int} {vs : List Value} (x : RowsZ h d B vs) {h' : Heap} (k : ∀ b o, h.get? b = some o → o.cls = .type "tuple" → h'.get? b = some o) : ∀ v ∈ vs, ∀ ns, TS.TupInts h' v ns → rvZ B h v = rkZ B ns := fun v hv ns t => by
  obtain ⟨ns0, t0, _⟩ := x v hv
  rw [t.ints.symm.trans (t0.keeps k).ints]
  show rkZ B _ = _
  rw [t0.ints]
theorem sortedZ {l : Addr} {vs : List Value} {d : Nat} {B : Int} {Q : Value → Shared → Prop} (hl : s.heap.IsList l vs.toArray) (h64 : vs.length < 64) (hd : 1 ≤ d) (x : RowsZ s.heap d B vs)
    (h : ∀ out : Array Value, out.toList.Perm vs → out.toList.Pairwise (fun u v => rvZ B s.heap u ≤ rvZ B s.heap v) → Q (.ref (s.heap.objs.size + 1)) { s with heap := PyProof.Rows.sortedAll s.heap vs out }) :
    wpAny (model prog w) A (call (.builtin "sorted") [.ref l]) Q E s := by
  refine Calls.call_function_entry kind_sorted plain_sorted entry_sorted (args_sorted1 _) ?_
  unfold Builtin.«sorted»
  refine wpAny_bind (m := checkCount "sorted" 1 1 _) (wpAny_pure ?_)
  refine wpAny_bind (collect_list hl ?_ (by rw [sizeLine_eq]; omega))
  refine wpAny_bind (wpAny_newList ?_ (by rw [sizeLine_eq]; omega))
  have hsz : ((s.heap.push (seqObj "list" #[] 0)).update s.heap.objs.size (Obj.mapSeq (· ++ vs.toArray))).objs.size = s.heap.objs.size + 1 := by rw [Heap.size_update, size_push']
  have hoL : (((s.heap.push (seqObj "list" #[] 0)).update s.heap.objs.size (Obj.mapSeq (· ++ vs.toArray))).push (seqObj "list" vs.toArray 0)).get? (s.heap.objs.size + 1) = some (seqObj "list" vs.toArray 0) := by
    rw [← hsz]; exact Heap.get?_push_size _ rfl
  have k1 : ∀ b o, s.heap.get? b = some o → o.cls = .type "tuple" → (((s.heap.push (seqObj "list" #[] 0)).update s.heap.objs.size (Obj.mapSeq (· ++ vs.toArray))).push (seqObj "list" vs.toArray 0)).get? b = some o := fun b o q _ => by
    have hlt : b < s.heap.objs.size := Heap.lt_size q
    rw [Heap.get?_push_ne _ _ _ (by rw [hsz]; exact Nat.ne_of_lt (Nat.lt_succ_of_lt hlt)), Heap.get?_update_ne _ _ _ _ (Nat.ne_of_lt hlt), Heap.get?_push_ne _ _ _ (Nat.ne_of_lt hlt)]
    exact q
  show wpAny _ _ _ _ _ { s with heap := ((s.heap.push (seqObj "list" #[] 0)).update s.heap.objs.size (Obj.mapSeq (· ++ vs.toArray))).push (seqObj "list" vs.toArray 0) }
  rw [hsz]
  generalize hG : ((s.heap.push (seqObj "list" #[] 0)).update s.heap.objs.size (Obj.mapSeq (· ++ vs.toArray))).push (seqObj "list" vs.toArray 0) = G at hoL k1
  refine wpAny_bind (wpAny_holding (wpAny_call_entry slot_list_sort ⟨_, hoL, rfl⟩ entry_list_sort ?_ (args_list_sort _)))
  have k2 : ∀ b o, G.get? b = some o → o.cls = .type "tuple" → (TS.midHeap G (s.heap.objs.size + 1) vs).get? b = some o := fun b o e hc => by
    refine TS.midHeap_old ?_ e
    rintro rfl
    rw [hoL] at e
    rw [← Option.some.inj e] at hc
    exact absurd (show Value.type "list" = Value.type "tuple" from hc) (by decide)
  refine SK.plain_sort (r := rvZ B s.heap) hoL h64 (fun h2 Q hQ => ?_) fun ps out a1 a2 a3 => ?_
  · have y := x.keeps k1
    exact kindZ (s := { s with heap := TS.midHeap G (s.heap.objs.size + 1) vs }) hd h2 (y.keeps k2) _ (rowsZ_rank x fun b o e c => k2 b o (k1 b o e c) c) Q hQ
  · obtain ⟨p, o⟩ := TS.out_rank a1 a2 a3
    subst hG
    exact ⟨_, rfl, wpAny_pure ⟨_, rfl, h out p o⟩⟩
end
section
variable {X : Cx}
def rSortZ (K : PySem.W.Frag) : List V → Hp → VK → Prop := fun vs H Q => ∃ (a : Addr) (xs : List V) (d : Nat) (B : Int), vs = [V.ref a] ∧ SqL K H a xs ∧ xs.length < 64 ∧ 1 ≤ d ∧ (∀ x ∈ xs, ∃ ns, TupI K H x ns ∧ ns.length = d ∧ inZ B ns) ∧
  ∀ (ys : List V) (p : Addr), ys.Perm xs → ys.Pairwise (fun x y => ∀ n m, TupI K H x n → TupI K H y m → rkZ B n ≤ rkZ B m) → H p = none → Q (.ref p) (upd H p (.lst ys))
theorem cr_sortZ : CallR X (.builtin "sorted") (rSortZ X.K) := by
  intro pins s σ H vs us Q I r h
  obtain ⟨a, xs, d, B, rfl, hs, h64, hd, hx, q⟩ := h
  obtain ⟨its, rv, hl, hz⟩ := I.list hs
  rw [Vals.ref1 r]
  obtain ⟨e1, e2⟩ := bkV_refs rv fun x m => by
    obtain ⟨ns, ⟨t, e, _⟩, _⟩ := hx x m
    exact ⟨t, e⟩
  refine sortedZ (d := d) (B := B) hl.isList (by rw [← rv.length]; exact h64) hd (fun v hv => ?_) fun out h1 h2 => ?_
  · obtain ⟨t, rfl⟩ := e2 v hv
    obtain ⟨ns, ⟨t', e, ht⟩, hn, hb⟩ := hx (V.ref t) (by rw [e1]; exact List.mem_map.mpr ⟨_, hv, rfl⟩)
    cases e
    exact ⟨ns, tupI_raw I ht, hn, hb⟩
  · obtain ⟨ep, he'⟩ := PyProof.Rows.sortedAll_at s.heap its out
    have hp : (out.toList.map bkV).Perm xs := by rw [e1]; exact h1.map bkV
    refine ⟨.ref _, upd H (s.heap.objs.size + 1) (.lst (out.toList.map bkV)), I.laid (t' := s.toks) (fun _ _ => PyProof.Rows.sortedAll_old) (Nat.le_succ _) ⟨by rw [hp.length_eq]; exact hz, out.toList, ep, bkV_vals fun u hu => e2 u (h1.mem_iff.mp hu), he'⟩, rfl, q _ _ hp ?_ (I.hok.fresh (Nat.le_succ _))⟩
    rw [List.pairwise_map]
    refine h2.imp fun {u v} huv n m hn hm => ?_
    obtain ⟨t, et, ht⟩ := hn
    obtain ⟨t', et', ht'⟩ := hm
    have i1 : TS.intsOf s.heap u = n := by rw [bkV_ref et]; exact (tupI_raw I ht).ints
    have i2 : TS.intsOf s.heap v = m := by rw [bkV_ref et']; exact (tupI_raw I ht').ints
    rw [← i1, ← i2]
    exact huv
end
theorem leS_iff {a b : Str} : leS a b = true ↔ a.cps.toList ≤ b.cps.toList := by
  unfold leS
  rw [PyProof.Rows.ltCps_eq]
  simp
theorem leS_trans (a b c : Str) (h1 : leS a b = true) (h2 : leS b c = true) : leS a c = true := leS_iff.2 (List.le_trans (leS_iff.1 h1) (leS_iff.1 h2))
theorem leS_total (a b : Str) : (leS a b || leS b a) = true := by
  rw [Bool.or_eq_true, leS_iff, leS_iff]
  exact List.le_total _ _
theorem leS_anti {a b : Str} (h1 : leS a b = true) (h2 : leS b a = true) : a = b := by
  have h := Std.le_antisymm (leS_iff.1 h1) (leS_iff.1 h2)
  obtain ⟨⟨x⟩⟩ := a
  obtain ⟨⟨y⟩⟩ := b
  have h : x = y := h
  rw [h]
theorem rising_all : ∀ {p : Str} {r : List Str}, risingS p r = true → r.Pairwise (fun a b => leS a b = true) ∧ ∀ x ∈ r, leS p x = true
  | p, [], _ => ⟨.nil, fun x h => nomatch h⟩
  | p, x :: r, h => by
    rw [risingS, Bool.and_eq_true] at h
    obtain ⟨h1, h2⟩ := rising_all h.2
    have e : leS p x = true := h.1
    exact ⟨.cons h2 h1, fun y hy => by
      rcases List.mem_cons.1 hy with rfl | hy
      · exact e
      · exact leS_trans _ _ _ e (h2 y hy)⟩
theorem sortS_of {ys ss : List Str} (hp : ys.Perm ss) (hs : sortedS ys = true) : ys = sortS ss := by
  refine List.Perm.eq_of_pairwise (le := fun a b => leS a b = true) (fun a b _ _ => leS_anti) ?_ (List.pairwise_mergeSort leS_trans leS_total ss) (hp.trans (List.mergeSort_perm ss leS).symm)
  cases ys with
  | nil => exact .nil
  | cons x r => have := rising_all hs; exact .cons this.2 this.1
theorem lexLe_trans : ∀ a b c : List Int, lexLe a b = true → lexLe b c = true → lexLe a c = true
  | [], _, _, _, _ => rfl
  | _ :: _, [], _, h, _ => by cases h
  | _ :: _, _ :: _, [], _, h => by cases h
  | p :: a, q :: b, r :: c, h1, h2 => by
    simp only [lexLe, Bool.or_eq_true, decide_eq_true_eq, Bool.and_eq_true] at h1 h2 ⊢
    rcases h1 with h1 | ⟨h1, e1⟩ <;> rcases h2 with h2 | ⟨h2, e2⟩
    · exact .inl (by omega)
    · exact .inl (by omega)
    · exact .inl (by omega)
    · exact .inr ⟨by omega, lexLe_trans a b c e1 e2⟩
theorem lexLe_total : ∀ a b : List Int, (lexLe a b || lexLe b a) = true
  | [], _ => rfl
  | _ :: _, [] => rfl
  | p :: a, q :: b => by
    have := lexLe_total a b
    simp only [lexLe, Bool.or_eq_true, decide_eq_true_eq, Bool.and_eq_true] at this ⊢
    rcases Int.lt_trichotomy p q with h | h | h
    · exact .inl (.inl h)
    · rcases this with t | t
      · exact .inl (.inr ⟨h, t⟩)
      · exact .inr (.inr ⟨h.symm, t⟩)
    · exact .inr (.inl h)
theorem lexLe_anti : ∀ {a b : List Int}, lexLe a b = true → lexLe b a = true → a = b
  | [], [], _, _ => rfl
  | [], _ :: _, _, h => by cases h
  | _ :: _, [], h, _ => by cases h
  | p :: a, q :: b, h1, h2 => by
    simp only [lexLe, Bool.or_eq_true, decide_eq_true_eq, Bool.and_eq_true] at h1 h2
    rcases h1 with h1 | ⟨h1, e1⟩ <;> rcases h2 with h2 | ⟨h2, e2⟩
    · omega
    · omega
    · omega
    · rw [h1, lexLe_anti e1 e2]
theorem lexLe_of {B : Int} : ∀ {a b : List Int}, a.length = b.length → inZ B a → inZ B b → rkZ B a ≤ rkZ B b → lexLe a b = true
  | [], _, _, _, _, _ => rfl
  | p :: a, [], h, _, _, _ => by cases h
  | p :: a, q :: b, hl, h1, h2, h => by
    have hl' : a.length = b.length := by simpa using hl
    simp only [lexLe, Bool.or_eq_true, decide_eq_true_eq, Bool.and_eq_true]
    rcases Int.lt_trichotomy p q with c | c | c
    · exact .inl c
    · subst c
      refine .inr ⟨rfl, lexLe_of hl' h1.tail h2.tail ?_⟩
      have := rkZ_same (B := B) (p := p) hl'.symm
      omega
    · have := rkZ_lt (B := B) hl'.symm h2.tail h1.tail c
      omega
theorem inZ_ex : ∀ ls : List (List Int), ∃ B : Int, ∀ l ∈ ls, inZ B l
  | [] => ⟨0, fun l h => nomatch h⟩
  | l :: ls => by
    obtain ⟨B, hB⟩ := inZ_ex ls
    have one : ∀ l : List Int, ∃ C : Int, inZ C l := by
      intro l
      induction l with
      | nil => exact ⟨0, fun m h => nomatch h⟩
      | cons x l ih =>
        obtain ⟨C, hC⟩ := ih
        refine ⟨(C.natAbs : Int) + x.natAbs + 1, fun m hm => ?_⟩
        rcases List.mem_cons.1 hm with rfl | hm
        · omega
        · have := hC m hm; omega
    obtain ⟨C, hC⟩ := one l
    refine ⟨(B.natAbs : Int) + C.natAbs, fun k hk m hm => ?_⟩
    rcases List.mem_cons.1 hk with rfl | hk
    · have := hC m hm; omega
    · have := hB k hk m hm; omega
section
variable {K : PySem.W.Frag} {fb m : List Addr} {H : Hp}
theorem allStr_reps : ∀ {ds : List D} {vs : List V} {ss : List Str}, Reps K fb m H ds vs → allStr ds = some ss → vs = ss.map V.str
  | [], _, _, .nil, e => by cases e; rfl
  | d :: ds, _, ss, .cons r t, e => by
    cases d with
    | str s =>
      obtain ⟨cs, e1, e2⟩ := Option.map_eq_some_iff.mp (show (allStr ds).map (s :: ·) = some ss from e)
      subst e2
      cases r
      rw [allStr_reps t e1]
      rfl
    | _ => cases e
theorem str_reps : ∀ (l : List Str), Reps K fb m H (l.map .str) (l.map V.str)
  | [] => .nil
  | x :: r => .cons (.str _) (str_reps r)
theorem keyS_map : ∀ {ks : List L2.Key} {ss : List Str}, allKeyS ks = some ss → ks = ss.map Sum.inr
  | [], _, e => by cases e; rfl
  | .inl _ :: _, _, e => by cases e
  | .inr s :: ks, ss, e => by
    obtain ⟨cs, e1, e2⟩ := Option.map_eq_some_iff.mp (show (allKeyS ks).map (s :: ·) = some ss from e)
    subst e2
    rw [List.map_cons, ← keyS_map e1]
end
end PyD

namespace PyD
open PySem PySem.Spec PyProof.Rows L2
variable [TB]
section
variable {X : Cx} {W : WX} {a b c : Expr} {fa ff fc : Ro → Store → R D} {pos : Pos} {es : List Expr} {fs : Ro → Store → R (List D)}
theorem PostL.mono {K : PySem.W.Frag} {E : XK} {fb m m1 : List Addr} {H H1 : Hp} {Q : VK} {r : R (List D)} (e : Ext m H m1 H1) (h : PostL K E fb m H Q r) : PostL K E fb m1 H1 Q r := by
  cases r with
  | ok ds S2 =>
    exact fun m2 H2 q vs e2 r2 hq hf hv rr => h m2 H2 q vs (e.trans e2) r2 (by
        cases w : H q with
        | none => rfl
        | some o => exact absurd hq (e.dom q (by rw [w]; exact fun z => nomatch z))) hf hv rr
  | err x S2 => exact fun m2 H2 c d e2 r2 p => h m2 H2 c d (e.trans e2) r2 p
  | bad => exact h
def ArrV (K : PySem.W.Frag) (us ws : List Value) : Ar → Value → Prop
  | .p i, v => us[i]? = some v
  | .k i, v => ws[i]? = some v
  | .d d, v => ∃ x, RelV x v ∧ ∀ fb m H, Rep K fb m H d x
def Bnd (K : PySem.W.Frag) (fd : FuncData) (ps : List Str) (n : Nat) (ks : List Str) (arr : List Ar) : Prop :=
  ∀ (s : Shared) (us ws : List Value), K.In s.heap → us.length = n → ws.length = ks.length → ∃ as, BindsTo s fd ⟨us, ks.zip ws⟩ (ps.zip as) ∧ Paired (ArrV K us ws) arr as
theorem arr_ok {K : PySem.W.Frag} {fb m : List Addr} {H : Hp} {us ws : List Value} {vs zs : List V} {ds es : List D} (r1 : Reps K fb m H ds vs) (v1 : Vals vs us) (r2 : Reps K fb m H es zs) (v2 : Vals zs ws) :
    ∀ {arr : List Ar} {as : List Value} {ads : List D}, Paired (ArrV K us ws) arr as → arrange ds es arr = some ads → ∃ avs, Vals avs as ∧ Reps K fb m H ads avs
  | _, _, _, .nil, e => by cases e; exact ⟨[], .nil, .nil⟩
  | .p i :: arr, _, ads, .cons q t, e => by
    rw [arrange] at e
    split at e
    · rename_i x xs h1 h2
      cases e
      obtain ⟨avs, w1, w2⟩ := arr_ok r1 v1 r2 v2 t h2
      obtain ⟨v, g1, g2⟩ := r1.get h1
      obtain ⟨u, g3, g4⟩ := v1.get g1
      rw [show us[i]? = _ from q] at g3
      cases g3
      exact ⟨v :: avs, .cons g4 w1, .cons g2 w2⟩
    · cases e
  | .k i :: arr, _, ads, .cons q t, e => by
    rw [arrange] at e
    split at e
    · rename_i x xs h1 h2
      cases e
      obtain ⟨avs, w1, w2⟩ := arr_ok r1 v1 r2 v2 t h2
      obtain ⟨v, g1, g2⟩ := r2.get h1
      obtain ⟨u, g3, g4⟩ := v2.get g1
      rw [show ws[i]? = _ from q] at g3
      cases g3
      exact ⟨v :: avs, .cons g4 w1, .cons g2 w2⟩
    · cases e
  | .d d :: arr, _, ads, .cons q t, e => by
    rw [arrange] at e
    obtain ⟨xs, h2, h3⟩ := Option.map_eq_some_iff.mp e
    subst h3
    obtain ⟨avs, w1, w2⟩ := arr_ok r1 v1 r2 v2 t h2
    obtain ⟨x, g1, g2⟩ := q
    exact ⟨x :: avs, .cons g1 w1, .cons (g2 _ _ _) w2⟩
def spF (K : PySem.W.Frag) (fn : List D → Store → R D) (np : Nat) : Sp := fun vs H Q E => vs.length = np ∧ ∃ fb m S ds, Rel K fb m S H ∧ Reps K fb m H ds vs ∧ Post K E fb (rpE K fb) m H Q (fn ds S)
def G.fn (g : G) (raw : Bool) (f : Str) : List D → Store → R D := fun ds S => if raw = true then g.raw f ds S else g.call f ds S
structure Sig where
  np : Nat
  plain : Bool
  shapes : List (Nat × List Str × List Ar)
abbrev CXX (X : Cx) : CXT := L2N.CX X.prog X.w
theorem passN (tk : L2N.Takes X W) (σ : L2.St) : PassesAt (CXX X) X σ (WE W σ) := fun _ _ _ e s' I c => tk e s' (L2N.XE.of_call I (fun _ _ _ h => h) c)
def CallAt (X : Cx) (g : G) (f : Str) (sg : Sig) (k : Nat) : Prop := ∃ (fa : Addr) (fd : FuncData) (ps : List Str), X.mg f = some (.ref fa) ∧ PySem.W.keepIn X.K (.ref fa) = true ∧ ps.length = sg.np ∧
  (∀ raw, FnOk X.prog X.w X.K X.mg X.base (CXX X) k fa fd ps (spF X.K (g.fn raw f) sg.np)) ∧ (sg.plain = true → Binds X.K fd ps []) ∧ (∀ sh ∈ sg.shapes, Bnd X.K fd ps sh.1 sh.2.1 sh.2.2) ∧ ∀ raw ds S, g.fn raw f ds S ≠ .bad → ds.length = sg.np
def CallOk (X : Cx) (g : G) (f : Str) (sg : Sig) : Prop := ∃ k, Room k X.A ∧ CallAt X g f sg k
theorem call_run {fn : List D → Store → R D} {np : Nat} {K : PySem.W.Frag} {E : XK} {fb m : List Addr} {H : Hp} {S : Store} {Q : VK} {ds : List D} {vs : List V} (r : Rel K fb m S H) (p : Reps K fb m H ds vs) (hl : ∀ ds S, fn ds S ≠ .bad → ds.length = np)
    (h : Post K E fb (rpE K fb) m H Q (fn ds S)) : spF K fn np vs H Q E := by
  refine ⟨?_, fb, m, S, ds, r, p, h⟩
  rw [← p.length]
  exact hl ds S (fun z => by rw [z] at h; exact h)
theorem s_call0 {g : G} {f : Str} {sg : Sig} {p : Pos} (raw : Bool) (tk : L2N.Takes X W) (hg : Gl X f) (hdb : (f == ("__debug__" : Str)) = false) (C : CallOk X g f sg) (hp : sg.plain = true) : PE X (.Call (.Name f p) [] [] pos) (tE X.K W fun ρ S => (R.ok [] S).bd fun ds S1 => g.fn raw f ds S1) := by
  obtain ⟨k, hr, fa, fd, ps, hm, hk, hps, F, hb, _, hl⟩ := C
  refine ⟨fun pins s σ H Q I ⟨fb, m, S, ρ, r, l, h⟩ => ?_⟩
  refine wpAny_Call_Name_kw (ld_glob I hg hm ?_ hdb)
  exact PySem.W.callWith_K0 I.kIn hk <| run_fnS (us := []) (vs := []) (E := WE W) (F raw) hr (hb hp) (passN tk σ) I .nil (call_run r .nil (hl raw) h)
theorem s_call {g : G} {f : Str} {sg : Sig} {p : Pos} (raw : Bool) (tk : L2N.Takes X W) (hg : Gl X f) (hdb : (f == ("__debug__" : Str)) = false) (C : CallOk X g f sg) (hp : sg.plain = true) (ha : PA X (a :: es) (tA X.K W fs)) (hs : starEach (a :: es) X.env = (false, eval a X.env) :: starEach es X.env) (hpl : (backTo pos (starEach es X.env)).any (·.1) = false) :
    PE X (.Call (.Name f p) (a :: es) [] pos) (tE X.K W fun ρ S => (fs ρ S).bd fun ds S1 => g.fn raw f ds S1) := by
  obtain ⟨k, hr, fa, fd, ps, hm, hk, hps, F, hb, _, hl⟩ := C
  exact (pe_callS (E := WE W) (F raw) hr hg hm hk (hb hp) (passN tk) ha hdb hs hpl).imp fun σ H Q ⟨fb, m, S, ρ, r, l, h⟩ =>
    ⟨fb, m, S, ρ, r, l, h.bd.imp fun vs H1 ⟨m1, S1, ds, e1, r1, p1, h1⟩ => call_run r1 p1 (hl raw) h1⟩
theorem k_nil : PK X [] (tA X.K W fun _ S => .ok [] S) := pk_nil.imp fun σ H Q ⟨fb, m, S, ρ, r, l, h⟩ => h.now r .nil
theorem k_cons {nm : Option Str} {kpos : Pos} {kws : List Keyword} (ha : PE X a (tE X.K W fa)) (hr : PK X kws (tA X.K W fs)) : PK X (⟨nm, a, kpos⟩ :: kws) (tA X.K W fun ρ S => (fa ρ S).bd fun d S1 => (fs ρ S1).bd fun ds S2 => .ok (d :: ds) S2) :=
  (pk_cons ha hr).imp fun σ H Q ⟨fb, m, S, ρ, r, l, h⟩ =>
    ⟨fb, m, S, ρ, r, l, h.bd.imp fun x H1 ⟨m1, S1, d, e1, r1, p1, h1⟩ =>
      ⟨fb, m1, S1, ρ, r1, l.mono e1, h1.bd.imp fun y H2 ⟨m2, S2, d2, e2, r2, p2, h2⟩ => h2.now r2 (.cons (p1.mono e2) p2)⟩⟩
theorem run_k {pins : List (Addr × Obj)} {σ : L2.St} {s : Shared} {fn : List D → Store → R D} {np : Nat} {fa : Addr} {fd : FuncData} {ps ks : List Str} {k n : Nat} {arr : List Ar} {us ws : List Value} {vs zs : List V} {ds es ads : List D} {H : Hp} {S : Store} {fb m : List Addr} {Q : VK} (tk : L2N.Takes X W)
    (F : FnOk X.prog X.w X.K X.mg X.base (CXX X) k fa fd ps (spF X.K fn np)) (hr : Room k X.A) (hb : Bnd X.K fd ps n ks arr) (hl : ∀ ds S, fn ds S ≠ .bad → ds.length = np) (I : L2.Inv X pins σ H s) (r : Rel X.K fb m S H)
    (v1 : Vals vs us) (r1 : Reps X.K fb m H ds vs) (v2 : Vals zs ws) (r2 : Reps X.K fb m H es zs) (l1 : us.length = n) (l2 : ws.length = ks.length) (ha : arrange ds es arr = some ads) (h : Post X.K (WE W σ) fb (rpE X.K fb) m H Q (fn ads S)) :
    wpAny (model X.prog X.w) X.A (call (.ref fa) us (ks.zip ws)) (EP X pins σ Q) X.xe s := by
  obtain ⟨as, hbt, pa⟩ := hb s us ws I.kIn l1 l2
  obtain ⟨avs, va, ra⟩ := arr_ok r1 v1 r2 v2 pa ha
  refine wpAny_call (codeAny_mono (F.run X.A X.stack s H ⟨us, ks.zip ws⟩ as avs Q (WE W σ) hr I.env0 hbt va (call_run r ra hl h)) fun r s' hq => ?_)
  cases r with
  | error e => exact passN tk σ pins H s e s' I hq
  | ok fl =>
    cases fl with
    | ret u => exact I.after hq
    | next => exact False.elim hq
    | brk => exact False.elim hq
    | cont => exact False.elim hq
abbrev evK (g : G) (raw : Bool) (f : Str) (fs fk : Ro → Store → R (List D)) (arr : List Ar) : Ro → Store → R D := fun ρ S => (fs ρ S).bd fun ds S1 => (fk ρ S1).bd fun ks S2 => match arrange ds ks arr with
    | some as => g.fn raw f as S2
    | none => .bad
theorem arr_inv {K : PySem.W.Frag} {E : XK} {fn : List D → Store → R D} {fb m : List Addr} {H : Hp} {S : Store} {Q : VK} {ds es : List D} {arr : List Ar} (h : Post K E fb (rpE K fb) m H Q (match arrange ds es arr with
    | some as => fn as S
    | none => .bad)) : ∃ ads, arrange ds es arr = some ads ∧ Post K E fb (rpE K fb) m H Q (fn ads S) := by
  cases e : arrange ds es arr with
  | none => rw [e] at h; exact h.elim
  | some ads => rw [e] at h; exact ⟨ads, rfl, h⟩
theorem s_callk {g : G} {f : Str} {sg : Sig} {p : Pos} {n : Nat} {ks : List Str} {arr : List Ar} {kws : List Keyword} {fk : Ro → Store → R (List D)} (raw : Bool) (tk : L2N.Takes X W) (hg : Gl X f) (hdb : (f == ("__debug__" : Str)) = false) (C : CallOk X g f sg) (hsh : (n, ks, arr) ∈ sg.shapes)
    (hn : (a :: es).length = n) (ha : PA X (a :: es) (tA X.K W fs)) (hkw : PK X kws (tA X.K W fk)) (hall : (backToKw pos (keywordEach kws X.env)).all (·.1.isSome) = true) (hks : (backToKw pos (keywordEach kws X.env)).filterMap (·.1) = ks)
    (he : starEach (a :: es) X.env = (false, eval a X.env) :: starEach es X.env) (hpl : ((backTo pos (starEach (a :: es) X.env)).any (·.1) || (backToKw pos (keywordEach kws X.env)).any (·.1.isNone)) = false)
    (hlen : ∀ ρ S ds S', fs ρ S = .ok ds S' → ds.length = n) (hlk : ∀ ρ S ds S', fk ρ S = .ok ds S' → ds.length = ks.length) : PE X (.Call (.Name f p) (a :: es) kws pos) (tE X.K W (evK g raw f fs fk arr)) := by
  obtain ⟨k, hr, fa, fd, ps, hm, hk, hps, F, _, hb, hl⟩ := C
  refine ⟨fun pins s σ H Q I ⟨fb, m, S, ρ, r, l, h⟩ => ?_⟩
  refine wpAny_Call_Name_kw (ld_glob I hg hm ?_ hdb)
  refine PySem.W.callWith_KW (h₀ := X.base) I.ok.mod.kin hk hall (thn (ha.run pos pins s σ H (fun vs H1 => ∃ ds m1 S1, fs ρ S = .ok ds S1 ∧ Ext m H m1 H1 ∧ Rel X.K fb m1 S1 H1 ∧ Reps X.K fb m1 H1 ds vs) I ⟨fb, m, S, ρ, r, l, ?_⟩) fun us s1 ⟨vs, H1, I1, v1, ds, m1, S1, hfs, e1, r1, p1⟩ => ?_) hpl he
  · cases hfs : fs ρ S with
    | err x S1 => simp only [evK, hfs, R.bd_err] at h; exact h
    | bad => simp only [evK, hfs] at h; exact h.elim
    | ok ds S1 => exact fun m1 H1 vs e1 r1 p1 => ⟨ds, m1, S1, rfl, e1, r1, p1⟩
  simp only [evK, hfs, R.bd_ok] at h
  have h := Post.mono e1 h
  refine thn (hkw.run pos pins s1 σ H1 (fun vs H2 => ∃ zs m2 S2, fk ρ S1 = .ok zs S2 ∧ Ext m1 H1 m2 H2 ∧ Rel X.K fb m2 S2 H2 ∧ Reps X.K fb m2 H2 zs vs) I1 ⟨fb, m1, S1, ρ, r1, l.mono e1, ?_⟩) fun ws s2 ⟨us2, H2, I2, v2, zs, m2, S2, hfk, e2, r2, p2⟩ => ⟨I2.kIn, ?_⟩
  · cases hfk : fk ρ S1 with
    | err x S1 => simp only [hfk, R.bd_err] at h; exact h
    | bad => simp only [hfk] at h; exact h.elim
    | ok zs S2 => exact fun m1 H1 vs e1 r1 p1 => ⟨zs, m1, S2, rfl, e1, r1, p1⟩
  simp only [hfk, R.bd_ok] at h
  obtain ⟨ads, ea, h⟩ := arr_inv (fn := g.fn raw f) h
  rw [hks]
  exact run_k tk (F raw) hr (hb _ hsh) (hl raw) I2 r2 v1 (p1.mono e2) v2 p2 (by show us.length = n; rw [← v1.length, ← p1.length]; exact hlen _ _ _ _ hfs) (by show ws.length = ks.length; rw [← v2.length, ← p2.length]; exact hlk _ _ _ _ hfk) ea (Post.mono e2 h)
theorem s_callk0 {g : G} {f : Str} {sg : Sig} {p : Pos} {ks : List Str} {arr : List Ar} {kws : List Keyword} {fk : Ro → Store → R (List D)} (raw : Bool) (tk : L2N.Takes X W) (hg : Gl X f) (hdb : (f == ("__debug__" : Str)) = false) (C : CallOk X g f sg) (hsh : (0, ks, arr) ∈ sg.shapes)
    (hkw : PK X kws (tA X.K W fk)) (hall : (backToKw pos (keywordEach kws X.env)).all (·.1.isSome) = true) (hks : (backToKw pos (keywordEach kws X.env)).filterMap (·.1) = ks)
    (hpl : ((backTo pos (starEach [] X.env)).any (·.1) || (backToKw pos (keywordEach kws X.env)).any (·.1.isNone)) = false)
    (hlk : ∀ ρ S ds S', fk ρ S = .ok ds S' → ds.length = ks.length) : PE X (.Call (.Name f p) [] kws pos) (tE X.K W (evK g raw f (fun _ S => .ok [] S) fk arr)) := by
  obtain ⟨k, hr, fa, fd, ps, hm, hk, hps, F, _, hb, hl⟩ := C
  refine ⟨fun pins s σ H Q I ⟨fb, m, S, ρ, r, l, h⟩ => ?_⟩
  refine wpAny_Call_Name_kw (ld_glob I hg hm ?_ hdb)
  simp only [evK, R.bd_ok] at h
  refine PySem.W.callWith_KW0 (h₀ := X.base) I.ok.mod.kin hk hall ?_ hpl
  refine thn (hkw.run pos pins s σ H (fun vs H2 => ∃ zs m2 S2, fk ρ S = .ok zs S2 ∧ Ext m H m2 H2 ∧ Rel X.K fb m2 S2 H2 ∧ Reps X.K fb m2 H2 zs vs) I ⟨fb, m, S, ρ, r, l, ?_⟩) fun ws s2 ⟨us2, H2, I2, v2, zs, m2, S2, hfk, e2, r2, p2⟩ => ⟨I2.kIn, ?_⟩
  · cases hfk : fk ρ S with
    | err x S1 => simp only [hfk, R.bd_err] at h; exact h
    | bad => simp only [hfk] at h; exact h.elim
    | ok zs S2 => exact fun m1 H1 vs e1 r1 p1 => ⟨zs, m1, S2, rfl, e1, r1, p1⟩
  simp only [hfk, R.bd_ok] at h
  obtain ⟨ads, ea, h⟩ := arr_inv (fn := g.fn raw f) h
  rw [hks]
  exact run_k tk (us := []) (vs := []) (F raw) hr (hb _ hsh) (hl raw) I2 r2 .nil .nil v2 p2 rfl (by show ws.length = ks.length; rw [← v2.length, ← p2.length]; exact hlk _ _ _ _ hfk) ea (Post.mono e2 h)
theorem l_list {p : Pos} (hg : Gl X "list") (hm : X.mg "list" = none) (ha : PE X a (tE X.K W fa)) (hs : starEach [a] X.env = (false, eval a X.env) :: starEach [] X.env) : PE X (.Call (.Name "list" p) [a] [] pos) (tL X.K W fun ρ S => (fa ρ S).bd fun x S1 => opt (seqOf S1 x) S1) :=
  (pe_callTy call_list_of hg hm (by decide +kernel) (pa_cons ha pa_nil hs) (by decide) (by decide) hs rfl).imp fun σ H Q ⟨fb, m, S, ρ, r, l, h⟩ =>
    ⟨fb, m, S, ρ, r, l, h.bd.imp fun x H1 ⟨m1, S1, d, e1, r1, p1, h1⟩ => by
      obtain ⟨ds, e, h1⟩ := h1.opt
      obtain ⟨q, vs, rfl, hq, rr⟩ := r1.seq p1 e
      exact ⟨q, vs, rfl, hq, h1.new r1 rr⟩⟩
theorem up_reps {K : PySem.W.Frag} {fb m : List Addr} {H : Hp} (lo : Int) : ∀ (l : List Nat), Reps K fb m H (l.map fun k => .int (lo + (k : Nat))) (l.map fun k => V.int (lo + (k : Nat)))
  | [] => .nil
  | x :: r => .cons (.int _) (up_reps lo r)
theorem rngD_inv {ds : List D} {p : Int × Nat} (h : rngD ds = some p) : (∃ j, ds = [.int j] ∧ (-(2 ^ 62) ≤ j ∧ j < 2 ^ 62) ∧ p = (0, j.toNat)) ∨ ∃ i j, ds = [.int i, .int j] ∧ (-(2 ^ 62) ≤ i ∧ i < 2 ^ 62 ∧ -(2 ^ 62) ≤ j ∧ j < 2 ^ 62) ∧ p = (i, (j - i).toNat) := by
  unfold rngD at h
  split at h
  · obtain ⟨h1, h2⟩ := need_some h; exact .inl ⟨_, rfl, h1, (Option.some.inj h2).symm⟩
  · obtain ⟨h1, h2⟩ := need_some h; exact .inr ⟨_, _, rfl, h1, (Option.some.inj h2).symm⟩
  · cases h
theorem rng_ok {i j : Int} (h : -(2 ^ 62) ≤ i ∧ i < 2 ^ 62 ∧ -(2 ^ 62) ≤ j ∧ j < 2 ^ 62) (hz : sizeOk (j - i).toNat) : RgOk i j := ⟨h.1, h.2.1, h.2.2.1, h.2.2.2, Nat.le_trans hz (by decide)⟩
theorem prg1 {p : Pos} {k : List D → Store → R (List D)} (hg : Gl X "range") (hm : X.mg "range" = none) (ha : PE X a (tE X.K W fa)) (na : starEach [a] X.env = (false, eval a X.env) :: starEach [] X.env) :
    PRg X (.Call (.Name "range" p) [a] [] pos) (tRg1 (tE X.K W fa)) := prg_1 hg hm ha na
theorem rg1_bd {K : PySem.W.Frag} {fb m : List Addr} {S : Store} {H : Hp} {ρ : Ro} {σ : L2.St} {α : Type} {rq : List Addr → Hp → D → α → Prop} {fa : Ro → Store → R D} (r : Rel K fb m S H) (l : Lo K fb m H ρ σ) {Q : Int → Int → Hp → Prop}
    (h : ∀ (m1 : List Addr) (H1 : Hp) (S1 : Store) (i : Int), Ext m H m1 H1 → Rel K fb m1 S1 H1 → fa ρ S = .ok (.int i) S1 → Q 0 i H1) (hok : ∃ i S1, fa ρ S = .ok (.int i) S1) : tRg1 (tE K W fa) σ H Q := by
  obtain ⟨i, S1, e⟩ := hok
  refine ⟨fb, m, S, ρ, r, l, ?_⟩
  rw [e]
  intro m1 H1 v e1 r1 p1
  cases p1
  exact ⟨i, rfl, h m1 H1 S1 i e1 r1 e⟩
theorem rg2_bd {K : PySem.W.Frag} {fb m : List Addr} {S : Store} {H : Hp} {ρ : Ro} {σ : L2.St} {fa ff : Ro → Store → R D} (r : Rel K fb m S H) (l : Lo K fb m H ρ σ) {Q : Int → Int → Hp → Prop} {i j : Int} {S1 S2 : Store} (ea : fa ρ S = .ok (.int i) S1) (eb : ff ρ S1 = .ok (.int j) S2)
    (h : ∀ (m1 : List Addr) (H1 : Hp), Ext m H m1 H1 → Rel K fb m1 S2 H1 → Q i j H1) : tRg2 (tE K W fa) (tE K W ff) σ H Q := by
  refine ⟨fb, m, S, ρ, r, l, ?_⟩
  rw [ea]
  intro m1 H1 v e1 r1 p1
  cases p1
  refine ⟨fb, m1, S1, ρ, r1, l.mono e1, ?_⟩
  rw [eb]
  intro m2 H2 v e2 r2 p2
  cases p2
  exact ⟨i, j, rfl, rfl, h m2 H2 (e1.trans e2) r2⟩
abbrev ev1 (fa : Ro → Store → R D) : Ro → Store → R (List D) := fun ρ S => (fa ρ S).bd fun d S1 => (R.ok [] S1).bd fun ds S2 => .ok (d :: ds) S2
abbrev ev2 (fa ff : Ro → Store → R D) : Ro → Store → R (List D) := fun ρ S => (fa ρ S).bd fun d S1 => ((ff ρ S1).bd fun e S2 => (R.ok [] S2).bd fun ds S3 => .ok (e :: ds) S3).bd fun ds S2 => .ok (d :: ds) S2
theorem ev1_inv {ρ : Ro} {S S' : Store} {ds : List D} (h : ev1 fa ρ S = .ok ds S') : ∃ d, fa ρ S = .ok d S' ∧ ds = [d] := by
  obtain ⟨d, S1, e, h⟩ := R.bd_inv h
  cases h
  exact ⟨d, e, rfl⟩
theorem ev2_inv {ρ : Ro} {S S' : Store} {ds : List D} (h : ev2 fa ff ρ S = .ok ds S') : ∃ d e S1, fa ρ S = .ok d S1 ∧ ff ρ S1 = .ok e S' ∧ ds = [d, e] := by
  obtain ⟨d, S1, e, h⟩ := R.bd_inv h
  obtain ⟨es, S2, e2, h⟩ := R.bd_inv h
  obtain ⟨f, S3, e3, h2⟩ := R.bd_inv e2
  cases h2
  cases h
  exact ⟨d, f, S1, e, e3, rfl⟩
theorem ev1_err {ρ : Ro} {S S' : Store} {x : Exn} (h : ev1 fa ρ S = .err x S') : fa ρ S = .err x S' := by
  unfold ev1 at h
  cases hf : fa ρ S with
  | ok d S1 => rw [hf] at h; cases h
  | err y S1 => rw [hf] at h; cases h; rfl
  | bad => rw [hf] at h; cases h
theorem rg2_err {K : PySem.W.Frag} {fb m : List Addr} {S S1 : Store} {H : Hp} {ρ : Ro} {σ : L2.St} {Q : Int → Int → Hp → Prop} {x : Exn} (r : Rel K fb m S H) (l : Lo K fb m H ρ σ) (h : ev2 fa ff ρ S = .err x S1)
    (w : ∀ m' H' cls dx, Ext m H m' H' → Rel K fb m' S1 H' → ExR K fb m' H' x cls dx → WE W σ cls dx H') : tRg2 (tE K W fa) (tE K W ff) σ H Q := by
  unfold ev2 at h
  refine ⟨fb, m, S, ρ, r, l, ?_⟩
  cases hf : fa ρ S with
  | bad => rw [hf] at h; cases h
  | err y S2 => rw [hf] at h; cases h; exact w
  | ok d S2 =>
    rw [hf, R.bd_ok] at h
    intro m1 H1 v e1 r1 p1
    refine ⟨fb, m1, S2, ρ, r1, l.mono e1, ?_⟩
    cases hg : ff ρ S2 with
    | bad => rw [hg] at h; cases h
    | err y S3 => rw [hg] at h; cases h; exact fun m2 H2 c dx e2 r2 p2 => w m2 H2 c dx (e1.trans e2) r2 p2
    | ok d S3 => rw [hg] at h; cases h
theorem l_rng1 {p q : Pos} {cpos : Pos} (hc : X.calm = true) (hg : Gl X "range") (hm : X.mg "range" = none) (hg2 : Gl X "list") (hm2 : X.mg "list" = none) (ha : PE X a (tE X.K W fa)) (na : starEach [a] X.env = (false, eval a X.env) :: starEach [] X.env) :
    PE X (.Call (.Name "list" q) [.Call (.Name "range" p) [a] [] cpos] [] pos) (tL X.K W fun ρ S => (ev1 fa ρ S).bd fun ds S1 => opt ((rngD ds).bind fun p => need (sizeOk p.2) (some (upTo p.1 p.2))) S1) :=
  (pe_listRg hc hg2 hm2 (prg_1 hg hm ha na) rfl).imp fun σ H Q ⟨fb, m, S, ρ, r, l, h⟩ => by
    dsimp only at h
    cases hf : ev1 fa ρ S with
    | err x S1 => rw [hf] at h; exact ⟨fb, m, S, ρ, r, l, by rw [ev1_err hf]; exact h⟩
    | bad => rw [hf] at h; exact h.elim
    | ok ds S1 =>
      rw [hf] at h
      obtain ⟨w, hw, hh⟩ := PostL.opt h
      obtain ⟨pr, h1, h2⟩ := Option.bind_eq_some_iff.mp hw
      obtain ⟨h3, h4⟩ := need_some h2
      cases h4
      obtain ⟨d, e, rfl⟩ := ev1_inv hf
      rcases rngD_inv h1 with ⟨j, ej, hj, rfl⟩ | ⟨i, j, ej, _⟩
      · cases ej
        refine rg1_bd (rq := fun _ _ _ (_ : Unit) => True) r l (fun m1 H1 S' i e1 r1 e' => ?_) ⟨j, S1, e⟩
        rw [e] at e'
        cases e'
        refine ⟨rng_ok ⟨by omega, by omega, hj.1, hj.2⟩ (by rw [Int.sub_zero]; exact h3), fun q hq => ?_⟩
        have h6 := (PostL.mono e1 hh).new r1 (up_reps 0 (List.range j.toNat)) q hq
        unfold rgV
        rw [Int.sub_zero]
        exact h6
      · cases ej
theorem l_rng2 {p q : Pos} {cpos : Pos} (hc : X.calm = true) (hg : Gl X "range") (hm : X.mg "range" = none) (hg2 : Gl X "list") (hm2 : X.mg "list" = none) (ha : PE X a (tE X.K W fa)) (hb : PE X b (tE X.K W ff)) (na : starEach [a, b] X.env = (false, eval a X.env) :: starEach [b] X.env) (nb : starEach [b] X.env = (false, eval b X.env) :: starEach [] X.env) :
    PE X (.Call (.Name "list" q) [.Call (.Name "range" p) [a, b] [] cpos] [] pos) (tL X.K W fun ρ S => (ev2 fa ff ρ S).bd fun ds S1 => opt ((rngD ds).bind fun p => need (sizeOk p.2) (some (upTo p.1 p.2))) S1) :=
  (pe_listRg hc hg2 hm2 (prg_2 hg hm ha hb na nb (by rw [nb]; rfl)) rfl).imp fun σ H Q ⟨fb, m, S, ρ, r, l, h⟩ => by
    dsimp only at h
    cases hf : ev2 fa ff ρ S with
    | err x S1 => rw [hf] at h; exact rg2_err r l hf h
    | bad => rw [hf] at h; exact h.elim
    | ok ds S1 =>
      rw [hf] at h
      obtain ⟨w, hw, hh⟩ := PostL.opt h
      obtain ⟨pr, h1, h2⟩ := Option.bind_eq_some_iff.mp hw
      obtain ⟨h3, h4⟩ := need_some h2
      cases h4
      obtain ⟨d, e, S0, ea, eb, rfl⟩ := ev2_inv hf
      rcases rngD_inv h1 with ⟨j, ej, hj, rfl⟩ | ⟨i, j, ej, hj, rfl⟩
      · cases ej
      · cases ej
        refine rg2_bd r l ea eb fun m1 H1 e1 r1 => ?_
        refine ⟨rng_ok hj h3, fun q hq => ?_⟩
        exact (PostL.mono e1 hh).new r1 (up_reps i (List.range (j - i).toNat)) q hq
theorem t_rng1 {p q : Pos} {cpos : Pos} (hc : X.calm = true) (hg : Gl X "range") (hm : X.mg "range" = none) (hg2 : Gl X "tuple") (hm2 : X.mg "tuple" = none) (ha : PE X a (tE X.K W fa)) (na : starEach [a] X.env = (false, eval a X.env) :: starEach [] X.env) :
    PE X (.Call (.Name "tuple" q) [.Call (.Name "range" p) [a] [] cpos] [] pos) (tE X.K W fun ρ S => (ev1 fa ρ S).bd fun ds S1 => opt ((rngD ds).bind fun p => need (sizeOk p.2) (some (.tup (upTo p.1 p.2)))) S1) :=
  (pe_tupRgX hc hg2 hm2 (prg_1 hg hm ha na) rfl).imp fun σ H Q ⟨fb, m, S, ρ, r, l, h⟩ => by
    dsimp only at h
    cases hf : ev1 fa ρ S with
    | err x S1 => rw [hf] at h; exact ⟨fb, m, S, ρ, r, l, by rw [ev1_err hf]; exact h⟩
    | bad => rw [hf] at h; exact h.elim
    | ok ds S1 =>
      rw [hf] at h
      obtain ⟨w, hw, hh⟩ := Post.opt h
      obtain ⟨pr, h1, h2⟩ := Option.bind_eq_some_iff.mp hw
      obtain ⟨h3, h4⟩ := need_some h2
      cases h4
      obtain ⟨d, e, rfl⟩ := ev1_inv hf
      rcases rngD_inv h1 with ⟨j, ej, hj, rfl⟩ | ⟨i, j, ej, _⟩
      · cases ej
        refine rg1_bd (rq := fun _ _ _ (_ : Unit) => True) r l (fun m1 H1 S' i e1 r1 e' => ?_) ⟨j, S1, e⟩
        rw [e] at e'
        cases e'
        refine ⟨rng_ok ⟨by omega, by omega, hj.1, hj.2⟩ (by rw [Int.sub_zero]; exact h3), ?_⟩
        have h6 := (Post.mono e1 hh).newT r1 (up_reps 0 (List.range j.toNat))
        unfold rgV
        rw [Int.sub_zero]
        exact h6
      · cases ej
theorem t_rng2 {p q : Pos} {cpos : Pos} (hc : X.calm = true) (hg : Gl X "range") (hm : X.mg "range" = none) (hg2 : Gl X "tuple") (hm2 : X.mg "tuple" = none) (ha : PE X a (tE X.K W fa)) (hb : PE X b (tE X.K W ff)) (na : starEach [a, b] X.env = (false, eval a X.env) :: starEach [b] X.env) (nb : starEach [b] X.env = (false, eval b X.env) :: starEach [] X.env) :
    PE X (.Call (.Name "tuple" q) [.Call (.Name "range" p) [a, b] [] cpos] [] pos) (tE X.K W fun ρ S => (ev2 fa ff ρ S).bd fun ds S1 => opt ((rngD ds).bind fun p => need (sizeOk p.2) (some (.tup (upTo p.1 p.2)))) S1) :=
  (pe_tupRgX hc hg2 hm2 (prg_2 hg hm ha hb na nb (by rw [nb]; rfl)) rfl).imp fun σ H Q ⟨fb, m, S, ρ, r, l, h⟩ => by
    dsimp only at h
    cases hf : ev2 fa ff ρ S with
    | err x S1 => rw [hf] at h; exact rg2_err r l hf h
    | bad => rw [hf] at h; exact h.elim
    | ok ds S1 =>
      rw [hf] at h
      obtain ⟨w, hw, hh⟩ := Post.opt h
      obtain ⟨pr, h1, h2⟩ := Option.bind_eq_some_iff.mp hw
      obtain ⟨h3, h4⟩ := need_some h2
      cases h4
      obtain ⟨d, e, S0, ea, eb, rfl⟩ := ev2_inv hf
      rcases rngD_inv h1 with ⟨j, ej, hj, rfl⟩ | ⟨i, j, ej, hj, rfl⟩
      · cases ej
      · cases ej
        refine rg2_bd r l ea eb fun m1 H1 e1 r1 => ?_
        exact ⟨rng_ok hj h3, (Post.mono e1 hh).newT r1 (up_reps i (List.range (j - i).toNat))⟩
theorem cr_or {f : Value} {r1 r2 : List V → Hp → VK → Prop} (h1 : CallR X f r1) (h2 : CallR X f r2) : CallR X f (fun vs H Q => r1 vs H Q ∨ r2 vs H Q) := fun pins s σ H xs us Q I r h => h.elim (h1 pins s σ H xs us Q I r) (h2 pins s σ H xs us Q I r)
def rDctS (xs : List V) (H : Hp) (Q : VK) : Prop := ∃ (a : Addr) (kvs : List (L2.Key × V)) (ks : List Str), xs = [.ref a] ∧ Rd H a (.dK kvs) ∧ kvs.map (·.1) = ks.map Sum.inr ∧ ks.length < 64 ∧ ∀ ys p, ys.Perm ks → sortedS ys = true → H p = none → Q (.ref p) (upd H p (.lst (ys.map V.str)))
def rwD (l : List Int) : D := .tup (l.map .int)
theorem allRow_eq : ∀ {ds : List D} {ls : List (List Int)}, allRow ds = some ls → ds = ls.map rwD
  | [], _, e => by cases e; rfl
  | d :: ds, ls, e => by
    cases d with
    | tup xs =>
      rw [allRow] at e
      split at e
      · rename_i ns ls' h1 h2
        cases e
        rw [List.map_cons, ← allRow_eq h2]
        congr 1
        show D.tup xs = D.tup _
        congr 1
        have key : ∀ {xs : List D} {ns : List Int}, allInt xs = some ns → xs = ns.map .int := by
          intro xs
          induction xs with
          | nil => intro ns e; cases e; rfl
          | cons x xs ih =>
            intro ns e
            cases x with
            | int i =>
              obtain ⟨cs, e1, e2⟩ := Option.map_eq_some_iff.mp (show (allInt xs).map (i :: ·) = some ns from e)
              subst e2
              rw [List.map_cons, ← ih e1]
            | _ => cases e
        exact key h1
      · cases e
    | _ => cases e
theorem rows_perm {K : PySem.W.Frag} {fb m : List Addr} {H : Hp} {vs ys : List V} (hp : vs.Perm ys) : ∀ {ls : List (List Int)}, Reps K fb m H (ls.map rwD) vs → ∃ ls' : List (List Int), ls'.Perm ls ∧ Reps K fb m H (ls'.map rwD) ys := by
  induction hp with
  | nil => intro ls r; exact ⟨ls, .refl _, r⟩
  | cons x _ ih =>
    intro ls r
    cases ls with
    | nil => cases r
    | cons l ls =>
      cases r with
      | cons a t =>
        obtain ⟨ls', p, q⟩ := ih t
        exact ⟨l :: ls', p.cons _, .cons a q⟩
  | swap x y _ =>
    intro ls r
    cases ls with
    | nil => cases r
    | cons l ls =>
      cases r with
      | cons a t =>
        cases ls with
        | nil => cases t
        | cons l2 ls =>
          cases t with
          | cons b t => exact ⟨l2 :: l :: ls, .swap .., .cons b (.cons a t)⟩
  | trans _ _ ih1 ih2 =>
    intro ls r
    obtain ⟨l1, p1, q1⟩ := ih1 r
    obtain ⟨l2, p2, q2⟩ := ih2 q1
    exact ⟨l2, p2.trans p1, q2⟩
theorem row_ti {K : PySem.W.Frag} {fb m : List Addr} {H : Hp} {l : List Int} {v : V} (r : Rep K fb m H (rwD l) v) : TupI K H v l := by
  obtain ⟨p, vs, rfl, h, rr⟩ := Rep.tuple r
  have e : allInt (l.map .int) = some l := by
    induction l generalizing vs with
    | nil => rfl
    | cons x l ih =>
      cases rr with
      | cons a t => 
        show (allInt (l.map .int)).map (x :: ·) = _
        have : ∀ l : List Int, allInt (l.map .int) = some l := fun l => by
          induction l with
          | nil => rfl
          | cons y l ih => show (allInt (l.map .int)).map (y :: ·) = _; rw [ih]; rfl
        rw [this]; rfl
  rw [allInt_reps rr e] at h
  exact ⟨p, rfl, h⟩
theorem rows_ti {K : PySem.W.Frag} {fb m : List Addr} {H : Hp} : ∀ {ls : List (List Int)} {vs : List V}, Reps K fb m H (ls.map rwD) vs → (∀ v ∈ vs, ∃ l ∈ ls, TupI K H v l) ∧ ∀ {R : List Int → List Int → Prop}, vs.Pairwise (fun x y => ∀ n m, TupI K H x n → TupI K H y m → R n m) → ls.Pairwise R
  | [], _, .nil => ⟨fun v h => (nomatch h), fun _ => .nil⟩
  | l :: ls, v :: vs, .cons r t => by
    obtain ⟨h1, h2⟩ := rows_ti t
    refine ⟨fun u hu => ?_, fun {R} h => ?_⟩
    · rcases List.mem_cons.1 hu with rfl | hu
      · exact ⟨l, List.mem_cons_self, row_ti r⟩
      · obtain ⟨l', a, b⟩ := h1 u hu
        exact ⟨l', List.mem_cons_of_mem _ a, b⟩
    · cases h with
      | cons h3 h4 =>
        refine .cons (fun l' hl' => ?_) (h2 h4)
        have key : ∀ {ls : List (List Int)} {vs : List V}, Reps K fb m H (ls.map rwD) vs → l' ∈ ls → ∃ u ∈ vs, TupI K H u l' := by
          intro ls
          induction ls with
          | nil => intro vs _ h; cases h
          | cons a ls ih =>
            intro vs q h
            cases q with
            | cons q1 q2 =>
              rcases List.mem_cons.1 h with rfl | h
              · exact ⟨_, List.mem_cons_self, row_ti q1⟩
              · obtain ⟨u, a, b⟩ := ih q2 h
                exact ⟨u, List.mem_cons_of_mem _ a, b⟩
        obtain ⟨u, hu, ti⟩ := key t hl'
        exact h3 u hu _ _ (row_ti r) ti
theorem l_sorted {p : Pos} (hc : X.calm = true) (hg : Gl X "sorted") (hm : X.mg "sorted" = none) (ha : PE X a (tE X.K W fa)) (hs : starEach [a] X.env = (false, eval a X.env) :: starEach [] X.env) : PE X (.Call (.Name "sorted" p) [a] [] pos) (tL X.K W fun ρ S => (fa ρ S).bd fun x S1 => opt (sortD S1 x) S1) :=
  (pe_callB (cr_or cr_sortedI (cr_or cr_sortedS (cr_or cr_sortZ (show CallR X (.builtin "sorted") rDctS from call_sortedD hc)))) hg hm boot_sorted (pa_cons ha pa_nil hs) (by decide) (by decide) hs rfl).imp fun σ H Q ⟨fb, m, S, ρ, r, l, h⟩ =>
    ⟨fb, m, S, ρ, r, l, h.bd.imp fun x H1 ⟨m1, S1, d, e1, r1, p1, h0⟩ => by
      obtain ⟨ds, e, h1⟩ := h0.opt
      clear h0
      unfold sortD at e
      split at e
      · rename_i ks xs hd
        obtain ⟨ss, e2, e3⟩ := Option.bind_eq_some_iff.mp e
        obtain ⟨h64, e3⟩ := need_some e3
        cases e3
        unfold dctOf at hd
        split at hd
        · rename_i n
          split at hd
          · rename_i ks' ds' hx
            cases hd
            obtain ⟨q, vs, rfl, _, hp, hl, rr⟩ := dct_at r1 p1 hx
            have hk := keyS_map e2
            refine .inr (.inr (.inr ⟨q, ks.zip vs, ss, rfl, .inl hp, ?_, h64, fun ys q2 hq hs hn => ?_⟩))
            · rw [← hk, ← List.unzip_fst, List.unzip_zip (by rw [← rr.length, ← hl])]
            · rw [sortS_of hq hs]
              exact h1.new r1 (str_reps _) q2 hn
          · cases hd
        · cases hd
      · obtain ⟨xs, e3, e4⟩ := Option.bind_eq_some_iff.mp e
        obtain ⟨q, vs, rfl, hq, rr⟩ := r1.list p1 e3
        unfold sortL at e4
        split at e4
        · rename_i ns e5
          cases e4
          rw [allInt_reps rr e5] at hq
          refine .inl ⟨q, ns, rfl, hq, fun ns' p hp hsort hn => ?_⟩
          have e5 : ns' = insSort ns := by
            refine PySem.W.ksm_same (hp.trans (List.mergeSort_perm ns _).symm) hsort ?_
            exact (List.pairwise_mergeSort (fun a b c h1 h2 => by simp at *; omega) (fun a b => by simp; omega) ns).imp (fun h => by simpa using h)
          rw [e5]
          exact h1.new r1 (int_reps _) p hn
        · split at e4
          · rename_i ss e5
            obtain ⟨h64, e4⟩ := need_some e4
            cases e4
            rw [allStr_reps rr e5] at hq
            refine .inr (.inl ⟨q, ss, rfl, hq, h64, fun ys q2 hp hs hn => ?_⟩)
            rw [sortS_of hp hs]
            exact h1.new r1 (str_reps _) q2 hn
          · split at e4
            · rename_i l0 ls e5
              obtain ⟨⟨h64, h1l, hone⟩, e4⟩ := need_some e4
              cases e4
              have hx := allRow_eq e5
              subst hx
              obtain ⟨B, hB⟩ := inZ_ex (l0 :: ls)
              have hlen : ∀ l ∈ l0 :: ls, l.length = l0.length := fun l hl => by
                rcases List.mem_cons.1 hl with rfl | hl
                · rfl
                · exact eq_of_beq (List.all_eq_true.1 hone l hl)
              refine .inr (.inr (.inl ⟨q, vs, l0.length, B, rfl, hq, ?_, h1l, fun v hv => ?_, fun ys q2 hp hs hn => ?_⟩))
              · rw [← rr.length, List.length_map, List.length_cons]; omega
              · obtain ⟨l, hl, ti⟩ := (rows_ti rr).1 v hv
                exact ⟨l, ti, hlen l hl, hB l hl⟩
              · obtain ⟨ls', hp', rr'⟩ := rows_perm hp.symm rr
                have hs' := (rows_ti rr').2 hs
                have e6 : ls' = sortT (l0 :: ls) := by
                  refine List.Perm.eq_of_pairwise (le := fun a b => lexLe a b = true) (fun a b _ _ => lexLe_anti) ?_ (List.pairwise_mergeSort lexLe_trans lexLe_total _) (hp'.trans (List.mergeSort_perm _ _).symm)
                  refine List.Pairwise.imp_of_mem (fun {a b} ha hb h => ?_) hs'
                  have ha := hp'.mem_iff.1 ha
                  have hb := hp'.mem_iff.1 hb
                  exact lexLe_of (by rw [hlen a ha, hlen b hb]) (hB a ha) (hB b hb) h
                rw [e6] at rr'
                exact h1.new r1 rr' q2 hn
            · cases e4⟩
end
end PyD

namespace PyD
open PySem PySem.Spec PyProof.Rows L2
variable [TB]
section
variable {K : PySem.W.Frag} {fb fb' m m' : List Addr} {H H' : Hp}
theorem no_guards (g : ∀ a ∈ fb', a ∈ fb ∨ H a = none) {x : Addr} {u : HO} (h1 : Rd H x u) (h2 : x ∉ fb) : x ∉ fb' := fun z => (g _ z).elim h2 fun w => by
  rcases h1 with e | ⟨_, e⟩ <;> rw [w] at e <;> cases e
mutual
theorem Rep.guards (g : ∀ a ∈ fb', a ∈ fb ∨ H a = none) : ∀ {d : D} {v : V}, Rep K fb m H d v → Rep K fb' m H d v
  | _, _, .non => .non
  | _, _, .bl b => .bl b
  | _, _, .int i => .int i
  | _, _, .str s => .str s
  | _, _, .tup q r => .tup (q.elim (fun q => .inl ⟨q.1, q.2.1, fun z => (g _ z).elim q.2.2 fun w => by
      obtain ⟨_, e⟩ := q.1
      rw [w] at e; cases e⟩) .inr) (Reps.guards g r)
  | _, _, .lst q r => .lst ⟨q.1, q.2.1, no_guards g q.1 q.2.2⟩ (Reps.guards g r)
  | _, _, .scr q => .scr (q.elim (fun q => .inl ⟨q.1, q.2.1, no_guards g q.1 q.2.2⟩) .inr)
  | _, _, .ref h => .ref h
  | _, _, .fn h => .fn h
  | _, _, .hot h => .hot h
theorem Reps.guards (g : ∀ a ∈ fb', a ∈ fb ∨ H a = none) : ∀ {ds : List D} {vs : List V}, Reps K fb m H ds vs → Reps K fb' m H ds vs
  | _, _, .nil => .nil
  | _, _, .cons r t => .cons (Rep.guards g r) (Reps.guards g t)
end
theorem upd_rd {p q : Addr} {o u : HO} (h : Rd H q u) (n : q ≠ p) : Rd (upd H p o) q u := by
  rcases h with h | ⟨w, h⟩
  · exact .inl (by rw [upd_ne n]; exact h)
  · exact .inr ⟨w, by rw [upd_ne n]; exact h⟩
mutual
theorem Rep.wrF {p : Addr} {o : HO} (hp : p ∈ fb) : ∀ {d : D} {v : V}, Rep K fb m H d v → Rep K fb m (upd H p o) d v
  | _, _, .non => .non
  | _, _, .bl b => .bl b
  | _, _, .int i => .int i
  | _, _, .str s => .str s
  | _, _, .tup q r => .tup (q.elim (fun q => .inl ⟨q.1.imp fun its e => by rw [upd_ne fun z => q.2.2 (by rw [z]; exact hp)]; exact e, q.2⟩) .inr) (Reps.wrF hp r)
  | _, _, .lst q r => .lst ⟨upd_rd q.1 fun z => q.2.2 (by rw [z]; exact hp), q.2⟩ (Reps.wrF hp r)
  | _, _, .scr q => .scr (q.elim (fun q => .inl ⟨upd_rd q.1 fun z => q.2.2 (by rw [z]; exact hp), q.2⟩) .inr)
  | _, _, .ref h => .ref h
  | _, _, .fn h => .fn h
  | _, _, .hot h => .hot h
theorem Reps.wrF {p : Addr} {o : HO} (hp : p ∈ fb) : ∀ {ds : List D} {vs : List V}, Reps K fb m H ds vs → Reps K fb m (upd H p o) ds vs
  | _, _, .nil => .nil
  | _, _, .cons r t => .cons (Rep.wrF hp r) (Reps.wrF hp t)
end
theorem Rel.wrF {S : Store} {p : Addr} {o : List V} (hp : p ∈ fb) (r : Rel K fb m S H) : Rel K fb m S (upd H p (.lst o)) := by
  refine ⟨r.len, r.nd, fun n u e => ?_, fun a ha => ?_, r.fbm, r.tab.mv fun a _ n1 n2 => ⟨n1, n2, upd_ne fun z => n1 (by rw [z]; exact hp)⟩, fun a ha => by
    by_cases z : a = p
    · exact ⟨o, by rw [z, upd_same]⟩
    · rw [upd_ne z]; exact r.fbl a ha⟩
  · obtain ⟨a, ha, q⟩ := r.ob n u e
    exact ⟨a, ha, q.imp (fun u hu => by rw [upd_ne (fun z => r.fbm p hp (by rw [← z]; exact List.mem_of_getElem? ha))]; exact hu) fun _ _ rr => rr.wrF hp⟩
  · by_cases z : a = p
    · rw [z, upd_same]; exact fun z => nomatch z
    · rw [upd_ne z]; exact r.fbd a ha
theorem Lo.wrF {p : Addr} {o : HO} (hp : p ∈ fb) {ρ : Ro} {σ : L2.St} (l : Lo K fb m H ρ σ) : Lo K fb m (upd H p o) ρ σ := ⟨l.len, fun i d h => by
  obtain ⟨v, h1, h2⟩ := l.at_ i d h
  exact ⟨v, h1, h2.wrF hp⟩⟩
theorem Lo.guard {p : Addr} (hp : H p = none) {ρ : Ro} {σ : L2.St} (l : Lo K fb m H ρ σ) : Lo K (p :: fb) m H ρ σ := ⟨l.len, fun i d h => by
  obtain ⟨v, h1, h2⟩ := l.at_ i d h
  exact ⟨v, h1, h2.guard hp⟩⟩
theorem Ext.updNew {p : Addr} {o : HO} (e : Ext m H m' H') (h : H p = none) : Ext m H m' (upd H' p o) := by
  refine ⟨e.more, fun a u q n t => ?_, fun a q => ?_, fun a u u' hm q q' => ?_⟩
  · rw [upd_ne (fun z => by rw [z, h] at q; cases q)]; exact e.stay a u q n t
  · by_cases z : a = p
    · rw [z, upd_same]; exact fun z => nomatch z
    · rw [upd_ne z]; exact e.dom a q
  · rw [upd_ne (fun z => by rw [z, h] at q; cases q)] at q'
    exact e.knd a u u' hm q q'
end
def tgIdx : Tg → List Nat
  | .one i => [i]
  | .many is => is
def RepI (K : PySem.W.Frag) (fb m : List Addr) (H : Hp) (tg : Tg) (d : D) (v : V) : Prop := Rep K fb m H d v ∨ ((∃ is, tg = .many is) ∧ ∃ ds p vs, d = .tup ds ∧ v = .ref p ∧ SqT K H p vs ∧ Reps K fb m H ds vs)
def gT (K : PySem.W.Frag) (tg : Tg) : TG := fun v σ H Q => ∃ fb m S ρ d ρ1, Rel K fb m S H ∧ Lo K fb m H ρ σ ∧ RepI K fb m H tg d v ∧ setTg tg d ρ = some ρ1 ∧ ∀ σ1, Lo K fb m H ρ1 σ1 → (∀ vs, (∀ i ∈ tgIdx tg, i ∈ vs) → L2.wipe σ1 vs = L2.wipe σ vs) → Q σ1 H
theorem wipe_set (σ : L2.St) (i : Nat) (v : V) : ∀ vs : List Nat, i ∈ vs → L2.wipe (σ.set i (some v)) vs = L2.wipe σ vs
  | [], h => by cases h
  | j :: vs, h => by
    unfold L2.wipe
    by_cases hm : i ∈ vs
    · rw [wipe_set σ i v vs hm]
    · rcases List.mem_cons.mp h with e | e
      · subst e
        have : ∀ vs : List Nat, i ∉ vs → L2.wipe (σ.set i (some v)) vs = (L2.wipe σ vs).set i (some v) := by
          intro vs
          induction vs with
          | nil => intro _; rfl
          | cons k ks ih =>
            intro hn
            unfold L2.wipe
            rw [ih (fun z => hn (List.mem_cons_of_mem _ z)), List.set_comm _ _ (fun z => hn (by rw [z]; exact List.mem_cons_self))]
        rw [this vs hm, List.set_set]
      · exact absurd e hm
section
variable {X : Cx} {pos : Pos}
theorem g_one {i : Nat} {x : Str} (hN : X.N.Nodup) (hi : X.N[i]? = some x) (hx : L2.Loc X.env.scope x) (hf : X.fn x = true ∨ X.env.scope.names.lookup x = some .local) : PG X (.Name x pos) (gT X.K (.one i)) := by
  have p := pg_name (pos := pos) hN hi hx hf
  refine ⟨fun pins s σ H v u Q I r ⟨fb, m, S, ρ, d, ρ1, r0, l, rd, e, q⟩ => p.run pins s σ H v u Q I r ?_⟩
  cases e
  have rd : Rep X.K fb m H d v := rd.elim id fun ⟨⟨_, z⟩, _⟩ => by cases z
  exact q _ (l.set i rd) fun vs hvs => wipe_set σ i v vs (hvs i List.mem_cons_self)
def gTs (K : PySem.W.Frag) (is : List Nat) : TGs := fun vs σ H Q => ∃ fb m S ρ ds, Rel K fb m S H ∧ Lo K fb m H ρ σ ∧ Reps K fb m H ds vs ∧ ds.length = is.length ∧ ∀ σ1, Lo K fb m H ((is.zip ds).foldl (fun ρ p => ρ.set p.1 (some p.2)) ρ) σ1 → (∀ vs, (∀ i ∈ is, i ∈ vs) → L2.wipe σ1 vs = L2.wipe σ vs) → Q σ1 H
theorem gs_nil : PGs X [] (gTs X.K []) := by
  refine ⟨fun pins s σ H vs us Q I r ⟨fb, m, S, ρ, ds, r0, l, rd, e, q⟩ => pgs_nil.run pins s σ H vs us Q I r ?_⟩
  cases rd with
  | nil => exact ⟨rfl, q σ l fun _ _ => rfl⟩
  | cons _ _ => cases e
theorem gs_cons {i : Nat} {is : List Nat} {x : Str} {es : List Expr} (hN : X.N.Nodup) (hi : X.N[i]? = some x) (hx : L2.Loc X.env.scope x) (hf : X.fn x = true ∨ X.env.scope.names.lookup x = some .local) (h2 : PGs X es (gTs X.K is)) : PGs X (.Name x pos :: es) (gTs X.K (i :: is)) := by
  have p := pgs_cons (pg_name (pos := pos) hN hi hx hf) h2 rfl
  refine ⟨fun pins s σ H vs us Q I r ⟨fb, m, S, ρ, ds, r0, l, rd, e, q⟩ => p.run pins s σ H vs us Q I r ?_⟩
  cases rd with
  | nil => cases e
  | cons r1 rr =>
    refine ⟨_, _, rfl, ?_⟩
    refine ⟨fb, m, S, _, _, r0, l.set i r1, rr, Nat.succ.inj e, fun σ1 h1 h2 => q σ1 h1 fun vs hvs => ?_⟩
    rw [h2 vs fun j hj => hvs j (List.mem_cons_of_mem _ hj)]
    exact wipe_set σ i _ vs (hvs i List.mem_cons_self)
theorem g_many {is : List Nat} {es : List Expr} {k : Nat} (hc : X.calm = true) (h : PGs X es (gTs X.K is)) (hn : (assignEach es X.env).length = is.length) (hst : (assignEach es X.env).findIdx? (·.1) = none) : PG X (.Tuple es k pos) (gT X.K (.many is)) := by
  have p := pg_tup (k := k) (pos := pos) hc h hn hst
  refine ⟨fun pins s σ H v u Q I r ⟨fb, m, S, ρ, d, ρ1, r0, l, rd, e, q⟩ => p.run pins s σ H v u Q I r ?_⟩
  cases d with
  | tup xs =>
    obtain ⟨e1, e2⟩ := need_some e
    cases e2
    obtain ⟨a, vs, rfl, hT, rr⟩ : ∃ p vs, v = .ref p ∧ SqT X.K H p vs ∧ Reps X.K fb m H xs vs := rd.elim (fun z => z.tuple) fun ⟨_, ds, p, vs, z1, z2, z3, z4⟩ => by cases z1; exact ⟨p, vs, z2, z3, z4⟩
    exact ⟨a, vs, rfl, hT, by rw [← rr.length]; exact e1, fb, m, S, ρ, xs, r0, l, rr, e1, q⟩
  | _ => cases e
end
def ItR (K : PySem.W.Frag) (tg : Tg) (fb m0 : List Addr) (H0 : Hp) (t : It) (J : L2.It) : Prop :=
  ∀ fb' m S H, (∀ a ∈ fb', a ∈ fb ∨ H0 a = none) → Ext m0 H0 m H → Rel K fb' m S H → t.still S →
    (∀ i d, t.items[i]? = some d → J.go i H ∧ ∀ x H', J.yld i H x H' → Ext m H m H' ∧ Rel K fb' m S H' ∧ RepI K fb' m H' tg d x) ∧ (∀ i, i = t.items.length → J.stop i H)
def tI (K : PySem.W.Frag) (W : WX) (tg : Tg) (ev : Ro → Store → R It) : TI := fun σ H Q => ∃ fb m S ρ, Rel K fb m S H ∧ Lo K fb m H ρ σ ∧ Post K (WE W σ) fb (fun m H t J => ItR K tg fb m H t J) m H Q (ev ρ S)
section
variable {K : PySem.W.Frag} {fb m : List Addr} {S : Store} {H : Hp}
theorem seqIt_at {d : D} {v : V} {t : It} (rd : Rep K fb m H d v) (e : seqIt S d = some t) :
    ∃ p, v = .ref p ∧ (isTup d = true ∧ (∀ fb' m1 S1 H1, (∀ a ∈ fb', a ∈ fb ∨ H a = none) → Ext m H m1 H1 → Rel K fb' m1 S1 H1 → t.still S1 → ∃ vs, SqT K H1 p vs ∧ Reps K fb' m1 H1 t.items vs) ∨
      isTup d = false ∧ (∀ fb' m1 S1 H1, (∀ a ∈ fb', a ∈ fb ∨ H a = none) → Ext m H m1 H1 → Rel K fb' m1 S1 H1 → t.still S1 → ∃ vs, SqL K H1 p vs ∧ Reps K fb' m1 H1 t.items vs)) := by
  cases d with
  | tup xs =>
    cases e
    obtain ⟨p, vs, rfl, _, _⟩ := rd.tuple
    refine ⟨p, rfl, .inl ⟨rfl, fun fb' m1 S1 H1 g e1 r1 _ => ?_⟩⟩
    obtain ⟨q, us, e2, hT, rr⟩ := ((rd.guards g).mono e1).tuple
    cases e2
    exact ⟨us, hT, rr⟩
  | lst xs =>
    cases e
    cases rd with
    | lst h rr =>
      rename_i p vs
      refine ⟨p, rfl, .inr ⟨rfl, fun fb' m1 S1 H1 g e1 r1 _ => ?_⟩⟩
      obtain ⟨q, us, e2, hT, rr⟩ := r1.list (((Rep.lst h rr).guards g).mono e1) (show lstOf S1 (.lst xs) = some xs from rfl)
      cases e2
      exact ⟨us, hT, rr⟩
  | ref n =>
    obtain ⟨xs, e1, e2⟩ := Option.map_eq_some_iff.mp (show (lstOf S (.ref n)).map (fun xs => (⟨xs, [(n, xs)]⟩ : It)) = some t from e)
    subst e2
    cases rd with
    | ref h =>
      rename_i p
      refine ⟨p, rfl, .inr ⟨rfl, fun fb' m1 S1 H1 g e1 r1 st => ?_⟩⟩
      have hs : S1[n]? = some (.lst xs) := st (n, xs) List.mem_cons_self
      obtain ⟨q, us, e2, hm, hv, rr⟩ := ref_at r1 (.ref (e1.nth h)) hs
      cases e2
      exact ⟨us, SqL.of hv, rr⟩
  | _ => cases e
theorem no_get {α : Type} {xs : List α} {i : Nat} (h : xs.length ≤ i) : xs[i]? = none := List.getElem?_eq_none h
end
section
variable {X : Cx} {W : WX} {a b : Expr} {fa ff : Ro → Store → R D} {pos : Pos} {tg : Expr} {tG : Tg}
theorem i_seq (ha : PE X a (tE X.K W fa)) : PI X tg a (tI X.K W tG fun ρ S => (fa ρ S).bd fun x S1 => opt (seqIt S1 x) S1) := by
  have p1 := pi_list (tg := tg) ha
  have p2 := pi_tup (tg := tg) ha
  have pj : PI X tg a (fun σ H Q => iList X.K (tE X.K W fa) σ H Q ∨ iTup X.K (tE X.K W fa) σ H Q) := ⟨fun pins s σ H R I h => h.elim (p1.run pins s σ H R I) (p2.run pins s σ H R I)⟩
  refine pj.imp fun σ H Q ⟨fb, m, S, ρ, r, l, h⟩ => ?_
  dsimp only at h
  cases hf : fa ρ S with
  | err x S1 => rw [hf] at h; exact .inl ⟨fb, m, S, ρ, r, l, by rw [hf]; exact h⟩
  | bad => rw [hf] at h; exact h.elim
  | ok d S1 =>
    rw [hf] at h
    obtain ⟨t, ht, hh⟩ := Post.opt h
    have go : ∀ (b : Bool), isTup d = b → (match b with | true => iTup X.K (tE X.K W fa) σ H Q | false => iList X.K (tE X.K W fa) σ H Q) := by
      intro b hb
      cases b with
      | true =>
        refine ⟨fb, m, S, ρ, r, l, ?_⟩
        rw [hf]
        intro m1 H1 v e1 r1 q1
        obtain ⟨p, rfl, hq⟩ := seqIt_at q1 ht
        rcases hq with ⟨_, hq⟩ | ⟨z, _⟩
        · have ho : t.still S1 := by
            cases d with
            | tup xs => cases ht; exact fun _ z => nomatch z
            | _ => cases hb
          obtain ⟨vs0, h0, _⟩ := hq fb m1 S1 H1 (fun a h => .inl h) (Ext.refl _ _) r1 ho
          refine ⟨p, rfl, ⟨vs0, h0⟩, hh m1 H1 _ e1 r1 fun fb' m2 S2 H2 g e2 r2 st => ?_⟩
          obtain ⟨vs, h1, rr⟩ := hq fb' m2 S2 H2 g e2 r2 st
          refine ⟨fun i d hd => ?_, fun i hi => ⟨vs, h1, by rw [← rr.length]; exact Nat.le_of_eq hi.symm⟩⟩
          obtain ⟨v, hv, rv⟩ := rr.get hd
          exact ⟨⟨vs, v, h1, hv⟩, fun x H' ⟨e, hx⟩ => by
            subst e
            have := hx vs h1
            rw [hv] at this
            cases this
            exact ⟨Ext.refl _ _, r2, .inl rv⟩⟩
        · rw [hb] at z; cases z
      | false =>
        refine ⟨fb, m, S, ρ, r, l, ?_⟩
        rw [hf]
        intro m1 H1 v e1 r1 q1
        obtain ⟨p, rfl, hq⟩ := seqIt_at q1 ht
        rcases hq with ⟨z, _⟩ | ⟨_, hq⟩
        · rw [hb] at z; cases z
        · have ho : t.still S1 := by
            cases d with
            | lst xs => cases ht; exact fun _ z => nomatch z
            | ref n =>
              obtain ⟨xs, e1, e2⟩ := Option.map_eq_some_iff.mp (show (lstOf S1 (.ref n)).map (fun xs => (⟨xs, [(n, xs)]⟩ : It)) = some t from ht)
              subst e2
              intro p hp
              cases List.mem_singleton.mp hp
              unfold lstOf at e1
              simp only at e1
              split at e1
              · rename_i ys hy
                cases e1
                exact hy
              · cases e1
            | tup xs => cases hb
            | _ => cases ht
          obtain ⟨vs0, h0, _⟩ := hq fb m1 S1 H1 (fun a h => .inl h) (Ext.refl _ _) r1 ho
          refine ⟨p, rfl, ⟨vs0, h0⟩, hh m1 H1 _ e1 r1 fun fb' m2 S2 H2 g e2 r2 st => ?_⟩
          obtain ⟨vs, h1, rr⟩ := hq fb' m2 S2 H2 g e2 r2 st
          refine ⟨fun i d hd => ?_, fun i hi => ⟨vs, h1, by rw [← rr.length]; exact Nat.le_of_eq hi.symm⟩⟩
          obtain ⟨v, hv, rv⟩ := rr.get hd
          exact ⟨⟨vs, v, h1, hv⟩, fun x H' ⟨e, hx⟩ => by
            subst e
            have := hx vs h1
            rw [hv] at this
            cases this
            exact ⟨Ext.refl _ _, r2, .inl rv⟩⟩
    cases hb : isTup d with
    | true => exact .inr (go true hb)
    | false => exact .inl (go false hb)
theorem upTo_get {lo : Int} {n i : Nat} {d : D} (h : (upTo lo n)[i]? = some d) : i < n ∧ d = .int (lo + i) := by
  unfold upTo at h
  rw [List.getElem?_map] at h
  obtain ⟨k, h1, h2⟩ := Option.map_eq_some_iff.mp h
  rw [List.getElem?_range] at h1
  · cases h1
    refine ⟨?_, h2.symm⟩
    rcases Nat.lt_or_ge i n with z | z
    · exact z
    · rw [List.getElem?_eq_none (by simpa using z)] at h; cases h
  · rcases Nat.lt_or_ge i n with z | z
    · exact z
    · rw [List.getElem?_eq_none (by rw [List.length_range]; exact z)] at h1; cases h1
theorem rng_ItR {K : PySem.W.Frag} {tG : Tg} {fb m : List Addr} {H : Hp} (lo : Int) (n : Nat) : ItR K tG fb m H ⟨upTo lo n, []⟩ (Itr lo n) := fun fb' m1 S1 H1 g e1 r1 st =>
  ⟨fun i d hd => by
    obtain ⟨h1, rfl⟩ := upTo_get hd
    exact ⟨h1, fun x H' ⟨e, ex⟩ => by subst e; subst ex; exact ⟨Ext.refl _ _, r1, .inl (.int _)⟩⟩,
   fun i hi0 => by
    have hi := Nat.le_of_eq hi0.symm
    unfold upTo at hi
    simp only [List.length_map, List.length_range] at hi
    exact hi⟩
theorem i_rng1 {p : Pos} (hg : Gl X "range") (hm : X.mg "range" = none) (ha : PA X [a] (tA X.K W (ev1 fa))) (na : starEach [a] X.env = [(false, eval a X.env)]) : PI X tg (.Call (.Name "range" p) [a] [] pos) (tI X.K W tG fun ρ S => (ev1 fa ρ S).bd fun ds S1 => opt ((rngD ds).map fun p => ⟨upTo p.1 p.2, []⟩) S1) :=
  (pi_range1 hg hm ha na).imp fun σ H Q ⟨fb, m, S, ρ, r, l, h⟩ => by
    dsimp only at h
    refine ⟨fb, m, S, ρ, r, l, ?_⟩
    cases hf : ev1 fa ρ S with
    | err x S1 => rw [hf] at h; exact h
    | bad => rw [hf] at h; exact h.elim
    | ok ds S1 =>
      rw [hf] at h
      obtain ⟨t, ht, hh⟩ := Post.opt h
      obtain ⟨pr, h1, h2⟩ := Option.map_eq_some_iff.mp ht
      obtain ⟨d, _, rfl⟩ := ev1_inv hf
      intro m1 H1 vs e1 r1 q1
      rcases rngD_inv h1 with ⟨j, ej, hj, rfl⟩ | ⟨i, j, ej, _⟩
      · cases ej
        cases q1 with
        | cons q1 q2 =>
          cases q1
          cases q2
          subst h2
          exact ⟨j, rfl, hj.1, hj.2, hh m1 H1 _ e1 r1 (rng_ItR 0 _)⟩
      · cases ej
theorem i_rng2 {p : Pos} (hg : Gl X "range") (hm : X.mg "range" = none) (ha : PA X [a, b] (tA X.K W (ev2 fa ff))) (na : starEach [a, b] X.env = [(false, eval a X.env), (false, eval b X.env)]) (nb : starEach [b] X.env = [(false, eval b X.env)]) : PI X tg (.Call (.Name "range" p) [a, b] [] pos) (tI X.K W tG fun ρ S => (ev2 fa ff ρ S).bd fun ds S1 => opt ((rngD ds).map fun p => ⟨upTo p.1 p.2, []⟩) S1) :=
  (pi_range2 hg hm ha na nb).imp fun σ H Q ⟨fb, m, S, ρ, r, l, h⟩ => by
    dsimp only at h
    refine ⟨fb, m, S, ρ, r, l, ?_⟩
    cases hf : ev2 fa ff ρ S with
    | err x S1 => rw [hf] at h; exact h
    | bad => rw [hf] at h; exact h.elim
    | ok ds S1 =>
      rw [hf] at h
      obtain ⟨t, ht, hh⟩ := Post.opt h
      obtain ⟨pr, h1, h2⟩ := Option.map_eq_some_iff.mp ht
      obtain ⟨d, e, _, _, _, rfl⟩ := ev2_inv hf
      intro m1 H1 vs e1 r1 q1
      rcases rngD_inv h1 with ⟨j, ej, hj, rfl⟩ | ⟨i, j, ej, hj, rfl⟩
      · cases ej
      · cases ej
        cases q1 with
        | cons q1 q2 =>
          cases q2 with
          | cons q2 q3 =>
            cases q1
            cases q2
            cases q3
            subst h2
            exact ⟨i, j, rfl, hj, hh m1 H1 _ e1 r1 (rng_ItR i _)⟩
end
end PyD

namespace PyD
open PySem PySem.Spec PyProof.Rows L2
variable [TB]
section
variable {X : Cx} {W : WX} {a b : Expr} {fa ff : Ro → Store → R D} {pos : Pos} {tg : Expr} {is : List Nat}
open Classical in
theorem seqIt_still {S : Store} {d : D} {t : It} (h : seqIt S d = some t) : t.still S := by
  cases d with
  | tup xs => cases h; exact fun _ z => nomatch z
  | lst xs => cases h; exact fun _ z => nomatch z
  | ref n =>
    obtain ⟨xs, e1, e2⟩ := Option.map_eq_some_iff.mp (show (lstOf S (.ref n)).map (fun xs => (⟨xs, [(n, xs)]⟩ : It)) = some t from h)
    subst e2
    intro p hp
    cases List.mem_singleton.mp hp
    unfold lstOf at e1
    simp only at e1
    split at e1
    · rename_i ys hy
      cases e1
      exact hy
    · cases e1
  | _ => cases h
theorem still_app {t u : It} {is : List D} {S : Store} (h : (⟨is, t.src ++ u.src⟩ : It).still S) : t.still S ∧ u.still S := ⟨fun p hp => h p (List.mem_append_left _ hp), fun p hp => h p (List.mem_append_right _ hp)⟩
theorem zip_get {xs ys : List D} {i : Nat} {d : D} (h : ((xs.zip ys).map fun p => D.tup [p.1, p.2])[i]? = some d) : ∃ x y, xs[i]? = some x ∧ ys[i]? = some y ∧ d = .tup [x, y] := by
  rw [List.getElem?_map] at h
  obtain ⟨p, h1, h2⟩ := Option.map_eq_some_iff.mp h
  have h3 : (xs.zip ys)[i]? = some (p.1, p.2) := h1
  rw [List.getElem?_zip_eq_some] at h3
  exact ⟨p.1, p.2, h3.1, h3.2, h2.symm⟩
theorem pair_new {K : PySem.W.Frag} {fb m : List Addr} {S : Store} {H : Hp} (r : Rel K fb m S H) {x y : D} {vx vy : V} (rx : Rep K fb m H x vx) (ry : Rep K fb m H y vy) {T : Addr} (hT : H T = none) {is : List Nat} :
    Ext m H m (upd H T (.tup [vx, vy])) ∧ Rel K fb m S (upd H T (.tup [vx, vy])) ∧ RepI K fb m (upd H T (.tup [vx, vy])) (.many is) (.tup [x, y]) (.ref T) :=
  ⟨Ext.new r hT, r.new hT, .inr ⟨⟨_, rfl⟩, _, T, _, rfl, rfl, .inl (.inl upd_same), .cons (rx.mono (Ext.new r hT)) (.cons (ry.mono (Ext.new r hT)) .nil)⟩⟩
open Classical in
theorem i_zip {p tpos : Pos} {elts : List Expr} {kk : Nat} (hg : Gl X "zip") (hm : X.mg "zip" = none) (ha : PE X a (tE X.K W fa)) (hb : PE X b (tE X.K W ff)) (hs : starEach [a, b] X.env = (false, eval a X.env) :: starEach [b] X.env) (hs2 : starEach [b] X.env = (false, eval b X.env) :: starEach [] X.env) :
    PI X (.Tuple elts kk tpos) (.Call (.Name "zip" p) [a, b] [] pos) (tI X.K W (.many is) fun ρ S => (fa ρ S).bd fun x S1 => (ff ρ S1).bd fun y S2 => if isTup x = isTup y then
      match seqIt S2 x, seqIt S2 y with
      | some t, some u => .ok ⟨(t.items.zip u.items).map fun p => .tup [p.1, p.2], t.src ++ u.src⟩ S2
      | _, _ => .bad
    else .bad) :=
  (RZ.pi_zipA hg hm (pa_cons ha (pa_cons hb pa_nil hs2) hs) hs (by rw [hs2]; rfl)).imp fun σ H Q ⟨fb, m, S, ρ, r, l, h⟩ =>
    ⟨fb, m, S, ρ, r, l, h.bd.imp fun x H1 ⟨m1, S1, d, e1, r1, p1, h1⟩ => ⟨fb, m1, S1, ρ, r1, l.mono e1, h1.bd.imp fun y H2 ⟨m2, S2, d2, e2, r2, p2, h2⟩ => by
      by_cases ht : isTup d = isTup d2
      · rw [if_pos ht] at h2
        cases q1 : seqIt S2 d with
        | none => rw [q1] at h2; exact h2.elim
        | some t =>
          cases q2 : seqIt S2 d2 with
          | none => rw [q1, q2] at h2; exact h2.elim
          | some u =>
            rw [q1, q2] at h2
            have p1' := p1.mono e2
            obtain ⟨pa, rfl, ha⟩ := seqIt_at p1' q1
            obtain ⟨pb, rfl, hb⟩ := seqIt_at p2 q2
            rcases ha with ⟨za, ha⟩ | ⟨za, ha⟩
            · rcases hb with ⟨zb, hb⟩ | ⟨zb, hb⟩
              · obtain ⟨vs0, h0, _⟩ := ha fb m2 S2 H2 (fun a h => .inl h) (Ext.refl _ _) r2 (seqIt_still q1)
                obtain ⟨us0, h0', _⟩ := hb fb m2 S2 H2 (fun a h => .inl h) (Ext.refl _ _) r2 (seqIt_still q2)
                refine ⟨pa, pb, vs0, us0, rfl, .inr ⟨h0, h0', h2 m2 H2 _ (Ext.refl _ _) r2 fun fb' m3 S3 H3 g e3 r3 st => ?_⟩⟩
                obtain ⟨st1, st2⟩ := still_app st
                obtain ⟨vs, w1, rr1⟩ := ha fb' m3 S3 H3 g e3 r3 st1
                obtain ⟨us, w2, rr2⟩ := hb fb' m3 S3 H3 g e3 r3 st2
                refine ⟨fun i d hd => ?_, fun i hi0 => ⟨vs, us, w1, w2, ?_⟩⟩
                · obtain ⟨dx, dy, hx, hy, rfl⟩ := zip_get hd
                  obtain ⟨vx, g1, g2⟩ := rr1.get hx
                  obtain ⟨vy, g3, g4⟩ := rr2.get hy
                  refine ⟨⟨vs, us, vx, vy, w1, w2, g1, g3⟩, fun x H' ⟨T, x1, y1, hx1, hT, hH, k1, k2⟩ => ?_⟩
                  have e5 := k1 vs w1
                  have e6 := k2 us w2
                  rw [g1] at e5; cases e5
                  rw [g3] at e6; cases e6
                  subst hH; subst hx1
                  exact pair_new r3 g2 g4 hT
                · have hi := Nat.le_of_eq hi0.symm
                  simp only [List.length_map, List.length_zip] at hi
                  rw [← rr1.length, ← rr2.length]
                  omega
              · rw [za, zb] at ht; cases ht
            · rcases hb with ⟨zb, hb⟩ | ⟨zb, hb⟩
              · rw [za, zb] at ht; cases ht
              · obtain ⟨vs0, h0, _⟩ := ha fb m2 S2 H2 (fun a h => .inl h) (Ext.refl _ _) r2 (seqIt_still q1)
                obtain ⟨us0, h0', _⟩ := hb fb m2 S2 H2 (fun a h => .inl h) (Ext.refl _ _) r2 (seqIt_still q2)
                refine ⟨pa, pb, vs0, us0, rfl, .inl ⟨h0, h0', h2 m2 H2 _ (Ext.refl _ _) r2 fun fb' m3 S3 H3 g e3 r3 st => ?_⟩⟩
                obtain ⟨st1, st2⟩ := still_app st
                obtain ⟨vs, w1, rr1⟩ := ha fb' m3 S3 H3 g e3 r3 st1
                obtain ⟨us, w2, rr2⟩ := hb fb' m3 S3 H3 g e3 r3 st2
                refine ⟨fun i d hd => ?_, fun i hi0 => ⟨vs, us, w1, w2, ?_⟩⟩
                · obtain ⟨dx, dy, hx, hy, rfl⟩ := zip_get hd
                  obtain ⟨vx, g1, g2⟩ := rr1.get hx
                  obtain ⟨vy, g3, g4⟩ := rr2.get hy
                  refine ⟨⟨vs, us, vx, vy, w1, w2, g1, g3⟩, fun x H' ⟨T, x1, y1, hx1, hT, hH, k1, k2⟩ => ?_⟩
                  have e5 := k1 vs w1
                  have e6 := k2 us w2
                  rw [g1] at e5; cases e5
                  rw [g3] at e6; cases e6
                  subst hH; subst hx1
                  exact pair_new r3 g2 g4 hT
                · have hi := Nat.le_of_eq hi0.symm
                  simp only [List.length_map, List.length_zip] at hi
                  rw [← rr1.length, ← rr2.length]
                  omega
      · rw [if_neg ht] at h2; exact h2.elim⟩⟩
theorem enumAt_get : ∀ {xs : List D} {k i : Nat} {d : D}, (enumAt k xs)[i]? = some d → ∃ x, xs[i]? = some x ∧ d = .tup [.int ((k + i : Nat) : Int), x]
  | [], k, i, d, h => by simp [enumAt] at h
  | x :: xs, k, 0, d, h => by
    rw [enumAt] at h
    exact ⟨x, rfl, (Option.some.inj h).symm⟩
  | x :: xs, k, i + 1, d, h => by
    rw [enumAt, List.getElem?_cons_succ] at h
    obtain ⟨y, h1, h2⟩ := enumAt_get h
    refine ⟨y, h1, ?_⟩
    rw [h2, show k + 1 + i = k + (i + 1) by omega]
theorem enumAt_len : ∀ {xs : List D} {k : Nat}, (enumAt k xs).length = xs.length
  | [], _ => rfl
  | _ :: xs, k => congrArg (· + 1) (enumAt_len (xs := xs) (k := k + 1))
theorem i_enum {p tpos : Pos} {elts : List Expr} {kk : Nat} (hg : Gl X "enumerate") (hm : X.mg "enumerate" = none) (ha : PE X a (tE X.K W fa)) (hs : starEach [a] X.env = (false, eval a X.env) :: starEach [] X.env) :
    PI X (.Tuple elts kk tpos) (.Call (.Name "enumerate" p) [a] [] pos) (tI X.K W (.many is) fun ρ S => (fa ρ S).bd fun x S1 => opt ((seqIt S1 x).map fun t => ⟨enumAt 0 t.items, t.src⟩) S1) := by
  have p1 := pi_enum (p := p) (pos := pos) (tpos := tpos) (elts := elts) (kk := kk) hg hm (pa_cons ha pa_nil hs) hs
  have p2 := pi_enumT (p := p) (pos := pos) (tpos := tpos) (elts := elts) (kk := kk) hg hm (pa_cons ha pa_nil hs) hs
  have pj : PI X (.Tuple elts kk tpos) (.Call (.Name "enumerate" p) [a] [] pos) (fun σ H Q => iEnum X.K (tCons (tE X.K W fa) tNil) σ H Q ∨ iEnumT X.K (tCons (tE X.K W fa) tNil) σ H Q) := ⟨fun pins s σ H R I h => h.elim (p1.run pins s σ H R I) (p2.run pins s σ H R I)⟩
  refine pj.imp fun σ H Q ⟨fb, m, S, ρ, r, l, h⟩ => ?_
  dsimp only at h
  cases hf : fa ρ S with
  | err x S1 => rw [hf] at h; exact .inl ⟨fb, m, S, ρ, r, l, by rw [hf]; exact h⟩
  | bad => rw [hf] at h; exact h.elim
  | ok d S1 =>
    rw [hf] at h
    obtain ⟨w, hw, hh⟩ := Post.opt h
    obtain ⟨t, ht, rfl⟩ := Option.map_eq_some_iff.mp hw
    have go : ∀ (b : Bool), isTup d = b → (match b with | true => iEnumT X.K (tCons (tE X.K W fa) tNil) σ H Q | false => iEnum X.K (tCons (tE X.K W fa) tNil) σ H Q) := by
      intro b hb
      cases b with
      | true =>
        refine ⟨fb, m, S, ρ, r, l, ?_⟩
        rw [hf]
        intro m1 H1 v e1 r1 q1
        obtain ⟨p, rfl, hq⟩ := seqIt_at q1 ht
        rcases hq with ⟨_, hq⟩ | ⟨z, _⟩
        · obtain ⟨vs0, h0, _⟩ := hq fb m1 S1 H1 (fun a h => .inl h) (Ext.refl _ _) r1 (seqIt_still ht)
          refine ⟨p, vs0, rfl, h0, hh m1 H1 _ e1 r1 fun fb' m2 S2 H2 g e2 r2 st => ?_⟩
          obtain ⟨vs, h1, rr⟩ := hq fb' m2 S2 H2 g e2 r2 st
          refine ⟨fun i d hd => ?_, fun i hi => ?_⟩
          · obtain ⟨y, hy, rfl⟩ := enumAt_get hd
            obtain ⟨v, hv, rv⟩ := rr.get hy
            refine ⟨⟨vs, v, h1, hv⟩, fun x H' ⟨T, x1, hx, hT, hH, k1⟩ => ?_⟩
            have := k1 vs h1
            rw [hv] at this
            cases this
            subst hH; subst hx
            rw [Nat.zero_add]
            exact pair_new r2 (.int _) rv hT
          · exact ⟨vs, h1, by rw [← rr.length, ← enumAt_len (k := 0)]; exact hi.symm⟩
        · rw [hb] at z; cases z
      | false =>
        refine ⟨fb, m, S, ρ, r, l, ?_⟩
        rw [hf]
        intro m1 H1 v e1 r1 q1
        obtain ⟨p, rfl, hq⟩ := seqIt_at q1 ht
        rcases hq with ⟨z, _⟩ | ⟨_, hq⟩
        · rw [hb] at z; cases z
        · obtain ⟨vs0, h0, _⟩ := hq fb m1 S1 H1 (fun a h => .inl h) (Ext.refl _ _) r1 (seqIt_still ht)
          refine ⟨p, vs0, rfl, h0, hh m1 H1 _ e1 r1 fun fb' m2 S2 H2 g e2 r2 st => ?_⟩
          obtain ⟨vs, h1, rr⟩ := hq fb' m2 S2 H2 g e2 r2 st
          refine ⟨fun i d hd => ?_, fun i hi => ⟨vs, h1, ?_⟩⟩
          · obtain ⟨y, hy, rfl⟩ := enumAt_get hd
            obtain ⟨v, hv, rv⟩ := rr.get hy
            refine ⟨⟨vs, v, h1, hv⟩, fun x H' ⟨T, x1, hx, hT, hH, k1⟩ => ?_⟩
            have := k1 vs h1
            rw [hv] at this
            cases this
            subst hH; subst hx
            rw [Nat.zero_add]
            exact pair_new r2 (.int _) rv hT
          · rw [← rr.length, ← enumAt_len (k := 0)]
            exact Nat.le_of_eq hi.symm
    cases hb : isTup d with
    | true => exact .inr (go true hb)
    | false => exact .inl (go false hb)
open Classical in
theorem compLoop_inv {K : PySem.W.Frag} {E : XK} {fb m : List Addr} {H : Hp} {Q : VK} {t : It} {tg : Tg} {cond : Ro → Store → R Bool} {elt : Ro → Store → R D} {ρ : Ro} {acc : List D} {S : Store} {x : D} {xs : List D} (h : PostL K E fb m H Q (compLoop t tg cond elt ρ (x :: xs) acc S)) :
    t.still S ∧ ∃ ρ1, setTg tg x ρ = some ρ1 ∧ PostL K E fb m H Q ((cond ρ1 S).bd fun b S1 => if b = true then
          (elt ρ1 S1).bd fun y S2 => if sizeOk (acc.length + 1) then compLoop t tg cond elt ρ xs (acc ++ [y]) S2 else .bad
        else compLoop t tg cond elt ρ xs acc S1) := by
  rw [compLoop] at h
  by_cases st : t.still S
  · rw [if_pos st] at h
    cases e : setTg tg x ρ with
    | none => rw [e] at h; exact h.elim
    | some ρ1 => rw [e] at h; exact ⟨st, ρ1, rfl, h⟩
  · rw [if_neg st] at h; exact h.elim
open Classical in
theorem compLoop_end {K : PySem.W.Frag} {E : XK} {fb m : List Addr} {H : Hp} {Q : VK} {t : It} {tg : Tg} {cond : Ro → Store → R Bool} {elt : Ro → Store → R D} {ρ : Ro} {acc : List D} {S : Store} (h : PostL K E fb m H Q (compLoop t tg cond elt ρ [] acc S)) : t.still S ∧ PostL K E fb m H Q (.ok acc S) := by
  rw [compLoop] at h
  by_cases st : t.still S
  · rw [if_pos st] at h; exact ⟨st, h⟩
  · rw [if_neg st] at h; exact h.elim
abbrev W0 : WX := fun _ _ _ _ => False
theorem lc_imp {K : PySem.W.Frag} {W : WX} {fi : Ro → Store → R It} {tg : Tg} {fc : Ro → Store → R Bool} {fe : Ro → Store → R D} {vs : List Nat} (htg : ∀ i ∈ tgIdx tg, i ∈ vs) {σ : L2.St} {H : Hp} {Q : VK}
    (h : tL K W (fun ρ S => (fi ρ S).bd fun t S1 => compLoop t tg (fun ρ S => (fc ρ S).ne) (fun ρ S => (fe ρ S).ne) (PyD.wipe ρ vs) t.items [] S1) σ H Q) : tLc (tI K W tg fi) (gT K tg) (tT K W0 fc) (tE K W0 fe) vs σ H Q := by
  obtain ⟨fb, m, S, ρ, r, l, h⟩ := h
  dsimp only at h
  refine ⟨fb, m, S, ρ, r, l, ?_⟩
  refine Post.imp (PostL.bd h) fun J H1 ⟨m1, S1, t, e1, r1, it, h1⟩ => ?_
  intro Dp hD
  -- the invariant
  refine ⟨fun i n Hc => i + n = t.items.length ∧ ∃ m2 S2 acc as, Ext m1 H1 m2 Hc ∧ Rel K (Dp :: fb) m2 S2 Hc ∧ Lo K (Dp :: fb) m2 Hc (PyD.wipe ρ vs) (L2.wipe σ vs) ∧ Hc Dp = some (.lst as) ∧ Reps K (Dp :: fb) m2 Hc acc as ∧
      PostL K (WE W σ) fb m1 H1 Q (compLoop t tg (fun ρ S => (fc ρ S).ne) (fun ρ S => (fe ρ S).ne) (PyD.wipe ρ vs) (t.items.drop i) acc S2), ⟨t.items.length, by simp, m1, S1, [], [], Ext.new r1 hD, r1.guard hD, (((l.mono e1).wipe vs).guard hD).mono (Ext.new r1 hD), upd_same, .nil, h1⟩, ?_⟩
  rintro i n Hc ⟨hin, m2, S2, acc, as, e2, r2, l2, hDc, ra, hp⟩
  have hg : ∀ a ∈ Dp :: fb, a ∈ fb ∨ H1 a = none := fun a ha => (List.mem_cons.mp ha).elim (fun z => .inr (by rw [z]; exact hD)) .inl
  have hDfb : Dp ∉ fb := fun z => r1.fbd Dp z hD
  by_cases hi : i < t.items.length
  · -- a turn
    rw [List.drop_eq_getElem_cons hi] at hp
    obtain ⟨st, ρ1, hset, hp⟩ := compLoop_inv hp
    obtain ⟨hgo, _⟩ := it (Dp :: fb) m2 S2 Hc hg e2 r2 st
    obtain ⟨hg1, hy⟩ := hgo i t.items[i] (List.getElem?_eq_getElem hi)
    refine .inr ⟨hg1, _, fun H' hN => ⟨n - 1, by omega, hN⟩, fun x H' hyl => ?_⟩
    obtain ⟨e3, r3, rx⟩ := hy x H' hyl
    refine ⟨Dp :: fb, m2, S2, PyD.wipe ρ vs, t.items[i], ρ1, r3, l2.mono e3, rx, hset, fun σ1 l3 hw => ⟨?_, ?_⟩⟩
    · rw [hw vs htg]
      have : ∀ vs : List Nat, L2.wipe (L2.wipe σ vs) vs = L2.wipe σ vs := by
        intro vs
        induction vs with
        | nil => rfl
        | cons k ks ih =>
          show (L2.wipe ((L2.wipe σ ks).set k none) ks).set k none = (L2.wipe σ ks).set k none
          have hs : ∀ (σ : L2.St) (ks : List Nat), (L2.wipe (σ.set k none) ks).set k none = (L2.wipe σ ks).set k none := by
            intro σ ks
            induction ks with
            | nil => exact List.set_set ..
            | cons j js ih2 =>
              show ((L2.wipe (σ.set k none) js).set j none).set k none = ((L2.wipe σ js).set j none).set k none
              by_cases hjk : j = k
              · subst hjk; rw [List.set_set, List.set_set]; exact ih2
              · rw [List.set_comm _ _ hjk, ih2, List.set_comm _ _ (Ne.symm hjk)]
          rw [hs, ih]
      exact this vs
    · -- the test, the element
      have e23 := e2.trans e3
      refine ⟨Dp :: fb, m2, S2, ρ1, r3, l3, ?_⟩
      cases hcnd : fc ρ1 S2 with
      | err x S3 => rw [hcnd] at hp; exact (show False from hp).elim
      | bad => rw [hcnd] at hp; exact hp.elim
      | ok k S3 =>
        rw [hcnd, R.ne_ok, R.bd_ok] at hp
        intro m4 H4 k' e4 r4 hk
        rw [show k' = k from hk]
        have hD4 : H4 Dp = some (.lst as) := e4.stay Dp _ (e3.stay Dp _ hDc (r2.fbm Dp List.mem_cons_self) (fun _ z => nomatch z)) (r3.fbm Dp List.mem_cons_self) (fun _ z => nomatch z)
        cases k with
        | false =>
          refine iteF ⟨by omega, m4, S3, acc, as, e23.trans e4, r4, (l2.mono e3).mono e4, hD4, (ra.mono e3).mono e4, ?_⟩
          simpa using hp
        | true =>
          refine iteT ⟨Dp :: fb, m4, S3, ρ1, r4, l3.mono e4, ?_⟩
          simp only [if_true] at hp
          cases hel : fe ρ1 S3 with
          | err x S4 => rw [hel] at hp; exact (show False from hp).elim
          | bad => rw [hel] at hp; exact hp.elim
          | ok y S4 =>
            rw [hel, R.ne_ok, R.bd_ok] at hp
            by_cases hz : sizeOk (acc.length + 1)
            · rw [if_pos hz] at hp
              intro m5 H5 v e5 r5 ry
              have hD5 : H5 Dp = some (.lst as) := e5.stay Dp _ hD4 (r4.fbm Dp List.mem_cons_self) (fun _ z => nomatch z)
              refine ⟨as, hD5, by rw [← ra.length]; exact szLt hz, by omega, m5, S4, acc ++ [y], as ++ [v], ((e23.trans e4).trans e5).updNew hD, r5.wrF List.mem_cons_self, (((l2.mono e3).mono e4).mono e5).wrF List.mem_cons_self, upd_same, ?_, hp⟩
              exact ((((ra.mono e3).mono e4).mono e5).wrF List.mem_cons_self).app (.cons (ry.wrF List.mem_cons_self) .nil)
            · rw [if_neg hz] at hp; exact hp.elim
  · -- the end
    have hi' : t.items.length ≤ i := Nat.le_of_not_lt hi
    rw [List.drop_eq_nil_of_le hi'] at hp
    obtain ⟨st, hp⟩ := compLoop_end hp
    obtain ⟨_, hst⟩ := it (Dp :: fb) m2 S2 Hc hg e2 r2 st
    exact .inl ⟨hst i (by omega), hp m2 Hc Dp as e2 r2 hD hDfb hDc ra⟩
theorem l_comp {elt tge iter : Expr} {ifs : List Expr} {scope : Scope} {own : List (Str × Nat)} {fi : Ro → Store → R It} {tg : Tg} {fc : Ro → Store → R Bool} {fe : Ro → Store → R D} (hc : X.calm = true) (hN : X.N.Nodup) (hi : PI X tge iter (tI X.K W tg fi)) (ok : BlkOk X.N X.env.scope scope own) (htg : ∀ i ∈ tgIdx tg, i ∈ own.map (·.2))
    (hg : ∀ (s : Shared) (H : Hp) (C : Addr) (cl : List (Str × Addr)) (fp : List Addr), PG (X.blk s H scope (compEnvC scope cl C X.env) fp) tge (gT X.K tg)) (ht : ∀ (s : Shared) (H : Hp) (C : Addr) (cl : List (Str × Addr)) (fp : List Addr), PTs (X.blk s H scope (compEnvC scope cl C X.env) fp) ifs (tT X.K W0 fc))
    (he : ∀ (s : Shared) (H : Hp) (C : Addr) (cl : List (Str × Addr)) (fp : List Addr), PE (X.blk s H scope (compEnvC scope cl C X.env) fp) elt (tE X.K W0 fe)) (hs : ∀ x, foldedSetIterable iter X.env x = pure x) :
    PE X (.ListComp elt [⟨tge, iter, ifs, 0⟩] scope pos) (tL X.K W fun ρ S => (fi ρ S).bd fun t S1 => compLoop t tg (fun ρ S => (fc ρ S).ne) (fun ρ S => (fe ρ S).ne) (PyD.wipe ρ (own.map (·.2))) t.items [] S1) :=
  (pe_lc hc hN hi ok hg ht he hs).imp fun σ H Q h => lc_imp htg h
theorem PSsetLc {elt tge iter : Expr} {ifs : List Expr} {scope : Scope} {own : List (Str × Nat)} {fi : Ro → Store → R It} {tg : Tg} {fc : Ro → Store → R Bool} {fe : Ro → Store → R D} {i : Nat} {y : Str} {py spos : Pos} (hc : X.calm = true) (hN : X.N.Nodup) (hy : X.N[i]? = some y) (hyl : X.env.scope.names.lookup y = some .local)
    (hsw : swapsWith (.ListComp elt [⟨tge, iter, ifs, 0⟩] scope pos) (some (.Name y py)) spos.line X.env = pure true) (hi : PI X tge iter (tI X.K W tg fi)) (ok : BlkOk X.N X.env.scope scope own) (htg : ∀ i ∈ tgIdx tg, i ∈ own.map (·.2))
    (hg : ∀ (s : Shared) (H : Hp) (C : Addr) (cl : List (Str × Addr)) (fp : List Addr), PG (X.blk s H scope (compEnvC scope cl C X.env) fp) tge (gT X.K tg)) (ht : ∀ (s : Shared) (H : Hp) (C : Addr) (cl : List (Str × Addr)) (fp : List Addr), PTs (X.blk s H scope (compEnvC scope cl C X.env) fp) ifs (tT X.K W0 fc))
    (he : ∀ (s : Shared) (H : Hp) (C : Addr) (cl : List (Str × Addr)) (fp : List Addr), PE (X.blk s H scope (compEnvC scope cl C X.env) fp) elt (tE X.K W0 fe)) (hs : ∀ x, foldedSetIterable iter X.env x = pure x) :
    PS X (.Assign [.Name y py] (.ListComp elt [⟨tge, iter, ifs, 0⟩] scope pos) spos) (tAsg (tL X.K W fun ρ S => (fi ρ S).bd fun t S1 => compLoop t tg (fun ρ S => (fc ρ S).ne) (fun ρ S => (fe ρ S).ne) (PyD.wipe ρ (own.map (·.2))) t.items [] S1) (gName i)) :=
  (ps_setLc hc hN hy hyl hsw hi ok hg ht he hs).imp fun D σ H h => lc_imp htg h
end
end PyD

namespace PyD
open PySem PySem.Spec PyProof.Rows L2 LamX
variable [TB]
section
variable {X : Cx} {pins : List (Addr × Obj)} {σ : L2.St} {H HZ : Hp} {s s1 : Shared}
theorem lam_new {c P : Addr} {params : Arguments} {body : Expr} {scope : Scope} {pos : Pos} {E : Value → Shared → Prop} {Q : Value → Shared → Prop} {ps : Array Value} (I : Inv X pins σ H s) (TB : TabB X.base X.mg c P) (hcode : X.env.code = .ref c)
    (hP : H P = some (.tbl ps)) (ht : TriplesOk ps.toList) (ha : ∀ (pos : Pos) (cv : Value), codeAmong pos ps.toList = some cv → ∃ c', cv = .ref c' ∧ H c' = some (CodeO c' (X.env.qual ++ "<lambda>")))
    (hdef : defaultsOf params X.env = ([], [])) (hfree : ∀ y ∈ scope.names, y.2 = .free → ∃ c, X.env.cells.lookup y.1 = some c)
    (h : ∀ (f c' : Addr) (pm ctv : Value) (H1 : Hp) (s' : Shared), Inv X pins σ H1 s' → (H1 = H ∨ ∃ ps' : Array Value, H c' = none ∧ H1 = upd (upd H P (.tbl ps')) c' (CodeO c' (X.env.qual ++ "<lambda>")) ∧ TriplesOk ps'.toList ∧ ∀ (pos : Pos) (cv : Value), codeAmong pos ps'.toList = some cv → codeAmong pos ps.toList = some cv ∨ cv = .ref c') →
      s'.heap.get? f = some (PySem.W.kla_obj "<lambda>" (X.env.qual ++ "<lambda>") params body scope (cloFrom X.env.cells scope.names []) pm c' ctv) → H1 f = none → f ∉ frs X.stack → H1 c' = some (CodeO c' (X.env.qual ++ "<lambda>")) → Q (.ref f) s') :
    wpAny (model X.prog X.w) X.A (eval (.Lambda params body scope pos) X.env) Q E s := by
  refine PySem.W.kla_eval hdef ?_
  have bP : s.heap.BuiltinsAt X.mg P := TB.bm.keeps I.bk
  have hP' : s.heap.get? P = some { cls := .none, data := .fields ps } := I.hok P _ hP
  have out : ∀ f, s.heap.objs.size ≤ f → f ∉ frs X.stack := fun f hf z => by
    rcases List.mem_cons.mp (I.stkSub _ z) with e | e
    · have h1 := I.lt
      rw [← e] at h1
      exact Nat.lt_irrefl _ (Nat.lt_of_lt_of_le h1 hf)
    · exact I.nofs hf e
  cases hc : codeAmong pos ps.toList with
  | some cv =>
    obtain ⟨c', rfl, hco⟩ := ha pos cv hc
    refine PySem.W.kla_makeFunctionHit (mg := X.mg) (c := c) (P := P) (ps := ps) (closure_ok hfree) I.ok.glob (I.mod.glob.keeps I.bk) hcode (TB.code.keeps I.bk) hP' ht hc bP fun ctv h' tk hx hsz => ?_
    exact h h'.objs.size c' _ ctv H _ (I.kept fun b o e => Heap.get?_push_of_some _ (hx b o e)) (.inl rfl) (Heap.get?_push_size _ rfl) (I.hok.fresh hsz) (out _ hsz) hco
  | none =>
    refine PySem.W.kla_makeFunction (mg := X.mg) (c := c) (P := P) (ps := ps) (closure_ok hfree) I.ok.glob (I.mod.glob.keeps I.bk) hcode (TB.code.keeps I.bk) hP' ht hc TB.gP bP fun c' ctv h' tk hx hge hlt hrec htb => ?_
    obtain ⟨c2, oc, vs, t, e2, hoc, hd, hv⟩ := hrec
    cases e2
    have hsz : s.heap.objs.size ≤ h'.objs.size := Nat.le_trans hge (Nat.le_of_lt hlt)
    have I1 := inv_table (t' := tk) (more := #[rawInt pos.line, rawInt pos.col, .ref c']) (h' := h'.push (PySem.W.kla_obj "<lambda>" (X.env.qual ++ "<lambda>") params body scope (cloFrom X.env.cells scope.names []) ((X.mg "__name__").getD .none) c' ctv)) I hP
      (fun b o hb e => Heap.get?_push_of_some _ (hx b o hb e)) (Heap.get?_push_of_some _ htb) hge ⟨oc, vs, t, Heap.get?_push_of_some _ hoc, hd, hv⟩
    have eL : (ps ++ #[rawInt pos.line, rawInt pos.col, .ref c']).toList = ps.toList ++ [rawInt pos.line, rawInt pos.col, .ref c'] := by simp
    refine h h'.objs.size c' _ ctv _ _ I1 (.inr ⟨_, I.hok.fresh hge, rfl, by rw [eL]; exact PySem.TriplesOk_snoc _ _ _ _ ht, fun p' cv hcv => ?_⟩) (Heap.get?_push_size _ rfl) ?_ (out _ hsz) upd_same
    · rw [eL] at hcv
      exact among_app _ ht hcv
    · rw [upd_ne (Nat.ne_of_gt hlt), upd_ne (Nat.ne_of_gt (Nat.lt_of_lt_of_le (Heap.lt_size hP') hsz))]
      exact I.hok.fresh hsz
theorem Rel.lam {K : PySem.W.Frag} {fb m : List Addr} {S : Store} {H1 : Hp} {P c' : Addr} {q : Str} {ps : Array Value} (r : Rel K fb m S H) (hm : (P, q) ∈ TB.tabs) (hu : ∀ p ∈ TB.tabs, p.1 = P → p.2 = q) (hP : H P = some (.tbl ps))
    (e : H1 = H ∨ ∃ ps' : Array Value, H c' = none ∧ H1 = upd (upd H P (.tbl ps')) c' (CodeO c' q) ∧ TriplesOk ps'.toList ∧ ∀ (pos : Pos) (cv : Value), codeAmong pos ps'.toList = some cv → codeAmong pos ps.toList = some cv ∨ cv = .ref c') :
    Ext m H m H1 ∧ Rel K fb m S H1 := by
  rcases e with rfl | ⟨ps', hc, rfl, ht, ha⟩
  · exact ⟨Ext.refl _ _, r⟩
  obtain ⟨nf, nm, ps2, hP2, ht2, ha2⟩ := r.tab _ hm
  rw [hP] at hP2
  cases hP2
  have cm : c' ∉ m := r.fresh hc
  have cf : c' ∉ fb := fun z => r.fbd _ z hc
  have nPc : P ≠ c' := ne_of_none hP hc
  have at_ : ∀ a, a ≠ P → a ≠ c' → upd (upd H P (.tbl ps')) c' (CodeO c' q) a = H a := fun a h1 h2 => by rw [upd_ne h2, upd_ne h1]
  have some_ : ∀ a o, H a = some o → (∀ ps, o ≠ .tbl ps) → upd (upd H P (.tbl ps')) c' (CodeO c' q) a = some o := fun a o h1 h2 => by
    rw [at_ a (fun z => by rw [z, hP] at h1; cases h1; exact h2 _ rfl) (ne_of_none h1 hc)]; exact h1
  have ex : Ext m H m (upd (upd H P (.tbl ps')) c' (CodeO c' q)) := by
    refine ⟨⟨[], by simp, by simp⟩, fun a o h1 _ h2 => some_ a o h1 h2, fun a h1 => ?_, fun a u u' h1 h2 h3 => ?_⟩
    · by_cases z : a = c'
      · rw [z, upd_same]; exact fun z => nomatch z
      · rw [upd_ne z]
        by_cases w : a = P
        · rw [w, upd_same]; exact fun z => nomatch z
        · rw [upd_ne w]; exact h1
    · rw [at_ a (fun z => nm (z ▸ h1)) (fun z => cm (z ▸ h1)), h2] at h3
      cases h3; rfl
  refine ⟨ex, r.len, r.nd, fun n o h1 => ?_, fun a h1 => ex.dom a (r.fbd a h1), r.fbm, fun p hp => ?_, fun a h1 => (r.fbl a h1).imp fun vs h2 => some_ a _ h2 fun ps z => nomatch z⟩
  · obtain ⟨a, h2, h3⟩ := r.ob n o h1
    have := List.mem_of_getElem? h2
    exact ⟨a, h2, h3.mono ex (at_ a (fun z => nm (z ▸ this)) (fun z => cm (z ▸ this)))⟩
  · obtain ⟨k1, k2, qs, k3, k4, k5⟩ := r.tab p hp
    refine ⟨k1, k2, ?_⟩
    have code : ∀ c, H c = some (CodeO c p.2) → upd (upd H P (.tbl ps')) c' (CodeO c' q) c = some (CodeO c p.2) := fun c h1 => some_ c _ h1 codeO_ne
    by_cases z : p.1 = P
    · have e2 := hu p hp z
      rw [z] at k3 ⊢
      rw [hP] at k3
      cases k3
      refine ⟨ps', by rw [upd_ne nPc, upd_same], ht, fun pos cv h1 => ?_⟩
      rcases ha pos cv h1 with h2 | rfl
      · obtain ⟨c, e3, e4, e5⟩ := k5 pos cv h2
        exact ⟨c, e3, code c e4, e5⟩
      · exact ⟨c', rfl, by rw [e2, upd_same], cf, cm⟩
    · refine ⟨qs, by rw [at_ _ z (ne_of_none k3 hc)]; exact k3, k4, fun pos cv h1 => ?_⟩
      obtain ⟨c, e3, e4, e5⟩ := k5 pos cv h1
      exact ⟨c, e3, code c e4, e5⟩
def lamCxN (X : Cx) (A : Around) (outer : List Env) (s : Shared) (H : Hp) (E : XK) (scope : Scope) (f c' : Addr) : Cx :=
  (lamCx X A outer s H (fun _ _ _ => False) scope f c').wish fun e s' => wpAny (model X.prog X.w) (A.deeper (lamEnv X scope s.heap.objs.size f c')) (leaving (lamEnv X scope s.heap.objs.size f c') e) (fun _ s'' => L2N.CX X.prog X.w outer H s E e s'') (fun e' s'' => L2N.CX X.prog X.w outer H s E e' s'') s'
theorem lamCxN_takes {A : Around} {outer : List Env} {E : XK} {scope : Scope} {f c' : Addr} : L2N.Takes (lamCxN X A outer s H E scope f c') (fun cls d _ H => E cls d H) := L2N.takes_of rfl rfl rfl rfl
theorem pe_actN {CXg : CXT} {Eg : XK} {Ng : List Str} {qg : Str} {sg : Scope} {g f c' : Addr} {cdg pm ctv : Value} {params : Arguments} {body : Expr} {scope : Scope} {k i : Nat} {a : Str} {pn : List (Addr × Obj)} {xe : Value → Shared → Prop} {W : WX} {E : XK} {tb : TE} {p1 p2 : Pos}
    (I : Inv X pins σ H s) (L : LamS X.env.scope scope) (hf : s.heap.get? f = some (PySem.W.kla_obj "<lambda>" (X.env.qual ++ "<lambda>") params body scope (cloFrom X.env.cells scope.names []) pm c' ctv)) (hfn : H f = none) (hfr : f ∉ frs X.stack)
    (hbind : bindArgs (PySem.W.kla_fn "<lambda>" (X.env.qual ++ "<lambda>") params body scope (cloFrom X.env.cells scope.names []) pm (.ref c') ctv) ⟨[], []⟩ = pure [])
    (tk : L2N.Takes ((cxOf CXg X.prog X.w X.K X.mg X.base Ng qg sg g cdg X.A X.stack s H Eg).tr pn xe) W) (hr : Room (k + 1) (X.A.deeper (envOfC qg sg s.heap.objs.size g cdg)))
    (hbody : ∀ (s2 : Shared) (H2 : Hp), Room k ((X.A.deeper (envOfC qg sg s.heap.objs.size g cdg)).deeper (lamEnv X scope s2.heap.objs.size f c')) → PE (lamCxN X (X.A.deeper (envOfC qg sg s.heap.objs.size g cdg)) (envOfC qg sg s.heap.objs.size g cdg :: X.stack) s2 H2 E scope f c') body tb)
    (hN : Ng[i]? = some a) (hv : Vis sg a) (hd : (a == ("__debug__" : Str)) = false := by decide) (hcd : (a == ("__classdict__" : Str)) = false := by decide) :
    PE ((cxOf CXg X.prog X.w X.K X.mg X.base Ng qg sg g cdg X.A X.stack s H Eg).tr pn xe) (.Call (.Name a p1) [] [] p2)
      (fun σZ HZ Q => (∀ cls d H', E cls d H' → W cls d σZ H') ∧ σZ[i]? = some (some (.ref f)) ∧ HZ c' = some (CodeO c' (X.env.qual ++ "<lambda>")) ∧ tb σ HZ Q) := by
  refine ⟨fun pinsZ sZ σZ HZ Q IZ ⟨hW, hs, hc, ht⟩ => ?_⟩
  refine wpAny_Call_Name_kw (thn ((pe_var (pos := p1) (i := i) hN hv hd hcd).run pinsZ sZ σZ HZ (fun v H1 => v = .ref f ∧ H1 = HZ) IZ ⟨.ref f, hs, rfl, rfl⟩) fun u s1 ⟨v, H1, I1, r1, q1⟩ => ?_)
  obtain ⟨rfl, rfl⟩ := q1
  obtain rfl : u = Value.ref f := r1
  have of1 : s1.heap.get? f = some (PySem.W.kla_obj "<lambda>" (X.env.qual ++ "<lambda>") params body scope (cloFrom X.env.cells scope.names []) pm c' ctv) := I1.base.keep f _ hf hfn hfr (fun z => nomatch (show f ∈ ([] : List Addr) from z))
  refine PySem.W.callWith_F0 ⟨_, _, _, _, of1⟩ ?_
  have un : Un (frs X.stack) [] H H1 s.heap s1.heap := I1.base
  obtain ⟨⟨oc, vs, t, hoc, hdc, hvc⟩, _, _⟩ := I1.hok c' _ hc
  have rc : codeAny (model X.prog X.w) (X.A.deeper (envOfC qg sg s.heap.objs.size g cdg)) (.call (.ref f) ⟨[], []⟩) (CR (L2N.CX X.prog X.w) (envOfC qg sg s.heap.objs.size g cdg :: X.stack) X.prog X.w H1 s1 Q E) s1 := by
    refine PySem.W.kla_callFunE hr.depth of1 rfl L.co L.gen rfl ⟨c', oc, vs, t, rfl, hoc, hdc, hvc⟩ ?_
    rw [hbind]
    refine wpAny_pure (wpAny_newFunctionEnv (fun y hy => (L.own y hy).2) (fun y hy => absurd hy (by simp)) (fun h₁ hns hsb => ⟨I1.nolimit.fresh _ hsb, ?_⟩) L.kind)
    show codeAny _ _ (.expr body (lamEnv X scope s1.heap.objs.size f c')) _ _
    have kp : ∀ b o, s1.heap.get? b = some o → h₁.get? b = some o := fun b o e => hsb.extBut b o (Nat.ne_of_lt (Heap.lt_size e)) (Heap.get?_push_of_some _ e)
    have J := (lam_start2 (tk := s1.toks + ([] : List (Str × Value)).length) (E := fun _ _ _ => False) (f := f) (c' := c') I L I1.env0 hr.hd un hns kp).wish fun e s' => wpAny (model X.prog X.w) ((X.A.deeper (envOfC qg sg s.heap.objs.size g cdg)).deeper (lamEnv X scope s1.heap.objs.size f c')) (leaving (lamEnv X scope s1.heap.objs.size f c') e)
      (fun _ s'' => L2N.CX X.prog X.w (envOfC qg sg s.heap.objs.size g cdg :: X.stack) H1 s1 E e s'') (fun e' s'' => L2N.CX X.prog X.w (envOfC qg sg s.heap.objs.size g cdg :: X.stack) H1 s1 E e' s'') s'
    refine PySem.W.kla_codeExpr (wpAny_mono ((hbody s1 H1 (hr.deeper _)).run [] _ _ H1 Q J ht) (fun v s' hq => ?_) fun e s' hq => hq)
    obtain ⟨w', H', J', rv, q⟩ := hq
    exact ⟨w', H', J'.os, J'.bare, J'.base, J'.hok, rv, q⟩
  refine wpAny_call (codeAny_mono rc fun r s' hq => ?_)
  cases r with
  | error e => exact tk e s' (L2N.XE.of_call I1 (fun cls d H' h => hW cls d H' h) hq)
  | ok fl =>
    cases fl with
    | ret u => exact I1.after hq
    | next => exact False.elim hq
    | brk => exact False.elim hq
    | cont => exact False.elim hq
end
end PyD

namespace PyD
open PySem PySem.Spec PyProof.Rows L2 LamX
theorem funs_keep {h h' base : Heap} (k : ∀ b o, h.get? b = some o → h'.get? b = some o) {l : List Env} (x : h.FunFrames base l) : h'.FunFrames base l := x.of_keeps fun b o e _ => ⟨o, k b o e, rfl⟩
theorem fly_keep {h h' base : Heap} {l : List Env} {e : Addr} {Z : Obj → Prop} (k : ∀ b o, h.get? b = some o → h'.get? b = some o) (f : HandSPX.FlyingZ base l e Z h) : HandSPX.FlyingZ base l e Z h' := by
  obtain ⟨f1, f2, f3, oe, vs, T, oT, ts, g1, g2, g3, g4, g5, g6, g7, g8, g9⟩ := f
  exact ⟨fun b o q => k _ _ (f1 b o q), f2, funs_keep k f3, oe, vs, T, oT, ts, k _ _ g1, g2, g3, g4, g5, g6, k _ _ g7, g8, g9⟩
def wAs2 (K : PySem.W.Frag) (c1 c2 : Value) (i : Nat) (ts : Addr → Value → Option Addr → TS) (D : Ends) : WX := fun cls d σ H =>
  PySem.W.exmAny K cls [c1, c2] = some true ∧ ∀ a, H a = none → ts a cls d { nx := fun σ' H' => D.nx (σ'.set i none) H', rt := D.rt, bk := fun σ' H' => D.bk (σ'.set i none) H', ct := fun σ' H' => D.ct (σ'.set i none) H' } (σ.set i (some (.ref a))) H
section
variable {X : Cx} {x1 x2 n : Str} {c1 c2 : Value} {i kk : Nat} {body suite : List Stmt} {b₀ : Stmt} {p1 p2 tp pos pos' : Pos} {tb : WX → TS} {ts : Addr → Value → Option Addr → TS}
theorem ps_try_as2 (hs : X.stack = X.env :: X.outer) (hf : X.env.frame = some X.env.locals) (hN : X.N.Nodup) (hi : X.N[i]? = some n) (hln : X.env.kindOf n = some .local) (g1 : Gl X x1) (m1 : X.mg x1 = some c1) (d1 : (x1 == ("__debug__" : Str)) = false) (g2 : Gl X x2) (m2 : X.mg x2 = some c2) (d2 : (x2 == ("__debug__" : Str)) = false)
    (hb : ∀ (W : WX) (pn : List (Addr × Obj)) (xe : Value → Shared → Prop), L2N.Takes (X.tr pn xe) W → PassesOwn (model X.prog X.w) X.A X.env xe → PSs (X.tr pn xe) body (tb W))
    (hsu : ∀ (a : Addr) (oe : Obj) (cls : Value) (d : Option Addr) (pn : List (Addr × Obj)), L2N.Zn cls d oe → (∃ vs, oe.data = .fields vs) → PSs (X.suite a ((a, oe) :: pn)) (b₀ :: suite) (ts a cls d)) :
    PS X (.Try body [.ExceptHandler (some (.Tuple [.Name x1 p1, .Name x2 p2] kk tp)) (some n) (b₀ :: suite) pos'] [] [] pos) (fun D σ H => tb (wAs2 X.K c1 c2 i ts D) D σ H) := by
  refine ⟨fun pins s σ H D I h => ?_⟩
  have ok := I.ok
  have hfr : X.A.frames = some (X.env :: X.outer) := by rw [ok.frames, hs]
  have hloc : Loc X.env.scope n := .inl hln
  refine wpAny_Try_except ?_
  refine wpAny_mono ((hb (wAs2 X.K c1 c2 i ts D) (X.pn ++ pins) (fun e s₁ => wpAny (model X.prog X.w) X.A (noteFrame e X.env) (fun _ s₂ => wpAny (model X.prog X.w) X.A (setFlight e none) (fun _ s₃ =>
    wpAny (model X.prog X.w) X.A (handleBy e X.env [.ExceptHandler (some (.Tuple [.Name x1 p1, .Name x2 p2] kk tp)) (some n) (b₀ :: suite) pos']) (SP X pins D) X.xe s₃) X.xe s₂) X.xe s₁) (fun u s' xx => ?_) PassesOwn.looking).run [] s σ H D (I.toTry _) h) (fun f s1 hsp => ?_) (fun e s1 he => he)
  · obtain ⟨a, B, sI, pins', σ', H', cls, d, rfl, J', nb, up, sky, na, os, ag, hb1, hyes⟩ := xx
    have J : Inv X pins σ' H' sI := J'.ofTry ok
    have sky' : Sky B (X.env :: X.outer) a (L2N.Zn cls d) X.env.locals s'.heap := by rw [← hs]; exact sky
    show wpAny (model X.prog X.w) X.A (noteFrame (.ref a) X.env) _ _ _
    refine L2N.Sky.land L2N.Zn.steady hfr hf sky' fun h3 fl3 up3 => ?_
    have J3 : Inv X pins σ' H' { s' with heap := h3 } := J.landed nb fl3.1 (up.trans up3) os ag
    obtain ⟨oe3, vs3, he3, hz3, hd3⟩ := fl3.there
    have notFr : ∀ {h : Heap} {o : Obj} {vs : Array Value}, h.FunFrames B (X.env :: X.outer) → h.get? a = some o → o.data = .fields vs → a ∉ frs (X.env :: X.outer) := fun {h o vs} ff e dd hm => by
      obtain ⟨_, o', e', hnf⟩ := ff.mem hm
      rw [e] at e'; cases e'
      exact hnf _ dd
    have nfr := notFr fl3.2.2.1 he3 hd3
    have nL : a ≠ X.env.locals := fun z => nfr (List.mem_filterMap.mpr ⟨X.env, List.mem_cons_self, by rw [hf, z]⟩)
    have nF : a ∉ X.fs := fun hm => by
      obtain ⟨e, he, q⟩ := List.mem_filterMap.mp hm
      exact nfr (List.mem_filterMap.mpr ⟨e, List.mem_cons_of_mem _ he, q⟩)
    have S3 := J3.suite he3 hd3 na nL nF
    refine wpAny_handleBy_cons (codeAny_handlers_test ?_) (by intro q; cases q)
    have kp : ∀ q o, h3.get? q = some o → (h3.push { cls := .type "tuple", data := .seq [c1, c2].toArray }).get? q = some o := fun _ _ z => Heap.get?_push_of_some _ z
    refine wpAny_Tuple ?_
    refine wpAny_items_cons (ld_glob (X := X.suite a ((a, oe3) :: (X.pn ++ pins))) S3 g1 m1 ?_ d1)
    refine wpAny_items_cons (ld_glob (X := X.suite a ((a, oe3) :: (X.pn ++ pins))) S3 g2 m2 ?_ d2)
    refine wpAny_items_nil ⟨by size_fits, ?_⟩
    have LT : PySem.W.Looks (model X.prog X.w) (h3.push { cls := .type "tuple", data := .seq [c1, c2].toArray }) (typeOf (.ref a)) cls := fun A Q E s k q => wpAny_typeOf_ref (k _ _ (kp _ _ he3)) (by rw [hz3.1]; exact q)
    have fl3p := fly_keep kp fl3
    have up3p : s'.heap.UpToSlots (h3.push { cls := .type "tuple", data := .seq [c1, c2].toArray }) := up3.trans (Heap.UpToSlots.of_keeps kp)
    refine (PySem.W.exm_tup2 (M := model X.prog X.w) (J3.kIn.keeps kp) LT (Heap.get?_push_size h3 rfl) hb1).here ?_
    refine codeAny_handlers_suite_as ?_
    refine HandSPX.lands_againZ fl3p fun h4 fl4 up4 => ?_
    have J4 : Inv X pins σ' H' { s' with heap := h4 } := J.landed nb fl4.1 ((up.trans up3p).trans up4) os ag
    obtain ⟨oe4, vs4, he4, hz4, hd4⟩ := fl4.there
    have S4 := J4.suite he4 hd4 na nL nF
    refine store_ok (X := X.suite a ((a, oe4) :: (X.pn ++ pins))) (v := .ref a) S4 hN hi hloc rfl (fun s5 S5 => ?_) (.inr hln)
    refine wpAny_mono ((hsu a oe4 cls d (X.pn ++ pins) hz4 ⟨_, hd4⟩).run [] s5 _ H' _ S5 (hyes a na)) (fun f s6 hsp => ?_) (fun _ _ z => False.elim z)
    have end_ : ∀ {σ6 : L2.St} {H6 : Hp} {Q : Shared → Prop}, Inv (X.suite a ((a, oe4) :: (X.pn ++ pins))) [] σ6 H6 s6 → (∀ s7, Inv X pins (σ6.set i none) H6 s7 → Q s7) →
        wpAny (model X.prog X.w) X.A (do bindName X.env n .none; unbindBehindTheSuite X.env n pos') (fun _ s7 => Q s7) X.xe s6 := fun {σ6 H6 Q} S6 hq => gone_ok (S6.unsuite ok) hN hi hln hq
    cases f with
    | next => obtain ⟨σ6, H6, S6, q6⟩ := hsp; exact end_ S6 fun s7 J7 => ⟨_, _, J7, q6⟩
    | brk => obtain ⟨σ6, H6, S6, q6⟩ := hsp; exact end_ S6 fun s7 J7 => ⟨_, _, J7, q6⟩
    | cont => obtain ⟨σ6, H6, S6, q6⟩ := hsp; exact end_ S6 fun s7 J7 => ⟨_, _, J7, q6⟩
    | ret u => obtain ⟨v6, σ6, H6, S6, r6, q6⟩ := hsp; exact end_ S6 fun s7 J7 => ⟨_, _, _, J7, r6, q6⟩
  · cases f with
    | next => obtain ⟨σ', H', J', q⟩ := hsp; exact wpAny_execs_nil ⟨σ', H', J'.ofTry ok, q⟩
    | brk => obtain ⟨σ', H', J', q⟩ := hsp; exact ⟨σ', H', J'.ofTry ok, q⟩
    | cont => obtain ⟨σ', H', J', q⟩ := hsp; exact ⟨σ', H', J'.ofTry ok, q⟩
    | ret u => obtain ⟨v, σ', H', J', r, q⟩ := hsp; exact ⟨v, σ', H', J'.ofTry ok, r, q⟩
end
end PyD

namespace PyD
open PySem PySem.Spec PyProof.Rows L2 LamX
variable [TB]
theorem Rel.frame {K : PySem.W.Frag} {fb m m' : List Addr} {S : Store} {H H' : Hp} (r : Rel K fb m S H) (e : Ext [] H m' H') (t : TabF TB.tabs [] [] H') : Ext m H m H' ∧ Rel K fb m S H' := by
  have st : ∀ a o, H a = some o → (∀ ps, o ≠ .tbl ps) → H' a = some o := fun a o h n => e.stay a o h (fun z => nomatch z) n
  have mem : ∀ a, a ∈ m → H' a = H a := fun a h => by
    obtain ⟨u, o, vs, h1, h2⟩ := r.mem h
    rw [h1, st a u h1 h2.mut.2.2]
  have ex : Ext m H m H' := ⟨⟨[], by simp, by simp⟩, fun a o h _ n => st a o h n, e.dom, fun a u u' h1 h2 h3 => by
    rw [mem a h1, h2] at h3
    cases h3; rfl⟩
  have lst : ∀ a ∈ fb, ∃ vs, H' a = some (.lst vs) := fun a h => (r.fbl a h).imp fun vs h1 => st a _ h1 fun ps z => nomatch z
  have nfb : ∀ a o, H' a = some o → (∀ vs, o ≠ .lst vs) → a ∉ fb := fun a o h n z => by
    obtain ⟨vs, h1⟩ := lst a z
    rw [h] at h1; cases h1; exact n vs rfl
  have nm : ∀ a o, H' a = some o → (∀ vs, o ≠ .lst vs) → (∀ kv, o ≠ .dK kv) → (∀ C d f, o ≠ .ins C d f) → a ∉ m := fun a o h n1 n2 n3 z => by
    obtain ⟨u, q, vs, h1, h2⟩ := r.mem z
    rw [mem a z, h1] at h
    cases h
    cases q with
    | lst _ => obtain rfl := h2; exact n1 _ rfl
    | dct _ _ => obtain ⟨rfl, _⟩ := h2; exact n2 _ rfl
    | ins _ _ _ => obtain ⟨_, _, _, rfl, _⟩ := h2; exact n3 _ _ _ rfl
  refine ⟨ex, r.len, r.nd, fun n o h1 => ?_, fun a h => ex.dom a (r.fbd a h), r.fbm, fun p hp => ?_, lst⟩
  · obtain ⟨a, h2, h3⟩ := r.ob n o h1
    exact ⟨a, h2, h3.mono ex (mem a (List.mem_of_getElem? h2))⟩
  · obtain ⟨_, _, ps, h1, h2, h3⟩ := t p hp
    refine ⟨nfb _ _ h1 (fun _ z => nomatch z), nm _ _ h1 (fun _ z => nomatch z) (fun _ z => nomatch z) (fun _ _ _ z => nomatch z), ps, h1, h2, fun pos cv h4 => ?_⟩
    obtain ⟨c, e1, e2, _⟩ := h3 pos cv h4
    have x1 : ∀ vs, CodeO c p.2 ≠ .lst vs := fun vs z => by unfold CodeO at z; cases z
    have x2 : ∀ kv, CodeO c p.2 ≠ .dK kv := fun vs z => by unfold CodeO at z; cases z
    have x3 : ∀ C d f, CodeO c p.2 ≠ .ins C d f := fun _ _ _ z => by unfold CodeO at z; cases z
    exact ⟨c, e1, e2, nfb _ _ e2 x1, nm _ _ e2 x1 x2 x3⟩
def triedB : List Stmt → Bool
  | [.Try [.Return (some (.Tuple [.Constant (.str t) _ _, .Call (.Name a _) [] [] _] _ _)) _] [.ExceptHandler (some (.Tuple [.Name g1 _, .Name g2 _] _ _)) (some e) [.Return (some (.Tuple [.Call (.Name kn _) [.Name e2 _] [] _] _ _)) _] _] [] [] _] =>
    decide (t = "told") && decide (a = "_law_act") && decide (g1 = "GimbalError") && decide (g2 = "BookError") && decide (e = "_law_e") && decide (kn = "_law_kin") && decide (e2 = "_law_e")
  | _ => false
def kinNames : List Str := ["BadPart", "BadTurn", "BadRow", "BadMotion", "BadAxes", "BadBody", "BadText", "BadName", "BadHelper", "BadColumn", "BadWorth", "BadWay", "BadPage", "NoGauge", "NoMounting", "NoHelper", "NoRoll", "NoRow", "NoColumn", "Taken", "Full", "Nothing", "Apart", "Torn", "Used", "Unfit", "Misfit"]
def KinRun (P : Program) (w : World) (K : PySem.W.Frag) (mg : Str → Option Value) (base : Heap) (fk : Addr) (c : Str) : Prop :=
  ∀ (A : Around) (outer : List Env) (s : Shared) (H : Hp) (Q : VK) (p : Addr × Obj) (D : Value), L2H.RoomH 3 A → L2H.Hot1 A p → L2H.PinOk outer H s p → Env0 P w K mg base A outer s H → clsV K c D → L2N.Zn D none p.2 → (∃ vs, p.2.data = .fields vs) → TabF TB.tabs [] [] H →
    (∀ m' H', Ext [] H m' H' → TabF TB.tabs [] [] H' → Q (.str c) H') → codeAny (model P w) A (.call (.ref fk) ⟨[.ref p.1], []⟩) (CR (L2N.CX P w) outer P w H s Q (fun _ _ _ => False)) s
def TrK (P : Program) (w : World) (K : PySem.W.Frag) (mg : Str → Option Value) (base : Heap) (kb : Str → Bool) : Prop :=
  ∃ (g fk G B : Addr) (pg : Arguments) (bg : List Stmt) (sg : Scope) (dV kV doc pm cdv ct oc : Value) (an od : Option Addr) (osl : Array (Option Value)),
    mg "_law_tried" = some (.ref g) ∧ PySem.W.keepIn K (.ref g) = true ∧ K.lookup g = some ⟨oc, od, .func (PySem.W.fnOf "_law_tried" "_law_tried" pg bg sg dV kV doc pm an cdv ct), osl⟩ ∧ PySem.W.codeIn K cdv "_law_tried" = true ∧
    L2.Binds K (PySem.W.fnOf "_law_tried" "_law_tried" pg bg sg dV kV doc pm an cdv ct) ["_law_act"] [] ∧ FnScope ["_law_act", "_law_e"] ["_law_act"] sg ∧ triedB bg = true ∧ sg.names.lookup ("_law_act" : Str) = some .local ∧ sg.names.lookup ("_law_e" : Str) = some .local ∧
    sg.names.lookup ("GimbalError" : Str) = some .globalImplicit ∧ sg.names.lookup ("BookError" : Str) = some .globalImplicit ∧ sg.names.lookup ("_law_kin" : Str) = some .globalImplicit ∧ mg "GimbalError" = some (.ref G) ∧ mg "BookError" = some (.ref B) ∧ mg "_law_kin" = some (.ref fk) ∧ PySem.W.keepIn K (.ref fk) = true ∧
    ∀ c, kb c = true → KinRun P w K mg base fk c ∧ ∀ D, clsV K c D → PySem.W.exmAny K D [.ref G, .ref B] = some true
section
variable {X : Cx} {W : WX}
structure TabX (X : Cx) : Prop where
  ex : ∃ c P, X.env.code = .ref c ∧ TabB X.base X.mg c P ∧ (P, X.env.qual ++ "<lambda>") ∈ TB.tabs ∧ ∀ p ∈ TB.tabs, p.1 = P → p.2 = X.env.qual ++ "<lambda>"
theorem kin_call {kb : Str → Bool} {fk a : Addr} {i : Nat} {nk ne : Str} {oe : Obj} {cls : Value} {pn : List (Addr × Obj)} {Z : Cx} {p p2 pos : Pos} (hr : L2H.RoomH 3 Z.A) (hg : Gl Z nk) (hd : (nk == ("__debug__" : Str)) = false) (hm : Z.mg nk = some (.ref fk)) (hk : PySem.W.keepIn Z.K (.ref fk) = true) (hN : Z.N[i]? = some ne) (hv : Vis Z.env.scope ne)
    (hd1 : (ne == ("__debug__" : Str)) = false) (hd2 : (ne == ("__classdict__" : Str)) = false) (hz : L2N.Zn cls none oe) (hf : ∃ vs, oe.data = .fields vs) (F : ∀ c, kb c = true → KinRun Z.prog Z.w Z.K Z.mg Z.base fk c) :
    PE (Z.suite a ((a, oe) :: pn)) (.Call (.Name nk p) [.Name ne p2] [] pos) (fun σ0 H0 Q => σ0[i]? = some (some (.ref a)) ∧ TabF TB.tabs [] [] H0 ∧ ∃ cn, kb cn = true ∧ clsV Z.K cn cls ∧ ∀ m' H', Ext [] H0 m' H' → TabF TB.tabs [] [] H' → Q (.str cn) H') := by
  refine ⟨fun pins s σ H Q I ⟨h1, h2, cn, h3, h4, h5⟩ => ?_⟩
  refine wpAny_Call_Name_kw (ld_glob (X := Z.suite a ((a, oe) :: pn)) I hg hm ?_ hd)
  refine PySem.W.callWith_K (h₀ := Z.base) I.ok.mod.kin hk (thn ((pa_cons (pe_var (X := Z.suite a ((a, oe) :: pn)) (pos := p2) (i := i) hN hv hd1 hd2) pa_nil).run pos pins s σ H (fun xs H1 => xs = [.ref a] ∧ H1 = H) I ⟨.ref a, h1, rfl, rfl⟩) fun us s1 ⟨vs, H1, I1, r, q⟩ => ⟨I1.kIn, ?_⟩) (by rfl) (by rfl)
  obtain ⟨rfl, rfl⟩ := q
  obtain rfl : us = [Value.ref a] := Vals.ref1 r
  have P1 := I1.pin (a, oe) (List.mem_append_left _ List.mem_cons_self)
  have hpin : L2H.PinOk Z.stack H1 s1 (a, oe) := ⟨P1.1, P1.2.1, fun hm => (List.mem_cons.mp (I1.stkSub a hm)).elim P1.2.2.1 P1.2.2.2.1, P1.2.2.2.2⟩
  have hot : L2H.Hot1 (Z.A.mark (some (.ref a))) (a, oe) := ⟨rfl, hf.imp fun vs e => ⟨e, hz.2.2 vs e⟩⟩
  refine wpAny_call (codeAny_mono (F cn h3 (Z.A.mark (some (.ref a))) Z.stack s1 H1 Q (a, oe) cls ⟨hr.dp, hr.un⟩ hot hpin I1.env0 h4 hz hf h2 h5) fun r s' hq => ?_)
  cases r with
  | error e =>
    obtain ⟨_, _, _, _, _, _, _, _, _, _, _, _, z⟩ := hq
    exact z.elim
  | ok fl =>
    cases fl with
    | ret u => exact I1.after hq
    | next => exact False.elim hq
    | brk => exact False.elim hq
    | cont => exact False.elim hq
theorem tried_run {kb : Str → Bool} {k : Nat} {params : Arguments} {body : Expr} {scope : Scope} {p lpos pos : Pos} {fe : Ro → Store → R D} (T : TrK X.prog X.w X.K X.mg X.base kb) (tx : TabX X) (hg : Gl X "_law_tried") (hr : Room (k + 2) X.A) (hk2 : 2 ≤ k) (L : LamS X.env.scope scope) (hdef : defaultsOf params X.env = ([], []))
    (hbind : ∀ (q : Str) (cl : List (Str × Addr)) (pm cv ctv : Value), bindArgs (PySem.W.kla_fn "<lambda>" q params body scope cl pm cv ctv) ⟨[], []⟩ = pure [])
    (hbody : ∀ (A : Around) (outer : List Env) (s : Shared) (H : Hp) (E : XK) (f c' : Addr), Room k (A.deeper (lamEnv X scope s.heap.objs.size f c')) → PE (lamCxN X A outer s H E scope f c') body (tE X.K (fun cls d _ H => E cls d H) fe)) :
    PE X (.Call (.Name "_law_tried" p) [.Lambda params body scope lpos] [] pos) (tE X.K W fun ρ S => triedR kb (fe ρ S)) := by
  obtain ⟨g, fk, G, B, pg, bg, sg, dV, kV, doc, pm, cdv, ct, oc, an, od, osl, t1, t2, t3, t4, t5, t6, t7, t8, t9, t10, t11, t12, t13, t14, t15, t16, t17⟩ := T
  obtain ⟨c, P, c1, c2, c3, c4⟩ := tx.ex
  refine ⟨fun pins s σ H Q I ⟨fb, m, S, ρ, r, l, h⟩ => ?_⟩
  obtain ⟨_, _, ps, hP, ht, ha⟩ := r.tab _ c3
  refine wpAny_Call_Name_kw (ld_glob I hg t1 ?_ (by decide))
  refine PySem.W.callWith_K (h₀ := X.base) I.ok.mod.kin t2 ?_ (by rfl) (by rfl)
  show wpAny _ _ (spliced ((false, eval (.Lambda params body scope lpos) X.env) :: backTo pos (starEach [] X.env))) _ _ s
  refine Calls.spliced_cons (lam_new I c2 c1 hP ht (fun pos cv q => (ha pos cv q).imp fun c' z => ⟨z.1, z.2.1⟩) hdef (L.has I.ok) fun f c' pm' ctv H1 s' I1 e1 hf hfn hfr hco => ?_)
  obtain ⟨x1, r1⟩ := r.lam c3 c4 hP e1
  refine Calls.spliced_nil ⟨I1.kIn, ?_⟩
  have l1 := l.mono x1
  have h1 : Post X.K (WE W σ) fb (rpE X.K fb) m H1 Q (triedR kb (fe ρ S)) := h.mono x1
  have rc : codeAny (model X.prog X.w) X.A (.call (.ref g) ⟨[.ref f], []⟩) (CR (L2N.CX X.prog X.w) X.stack X.prog X.w H1 s' Q (fun _ _ _ => False)) s' := by
    refine run_ofS (N := ["_law_act", "_law_e"]) (ps := ["_law_act"]) (us := [.ref f]) (vs := [.ref f]) t3 t4 t6 (k := k + 1) hr I1.env0 (t5 s' [.ref f] I1.kIn rfl) (.cons rfl .nil) rfl fun hr' => ?_
    unfold triedB at t7
    split at t7
    · rename_i tl j0 p0 al pa pb pt0 pt1 pr g1 pg1 g2 pg2 kg pgt el kl pk el2 pk2 pk3 kt pkt pr2 ph pT
      simp only [Bool.and_eq_true, decide_eq_true_eq] at t7
      obtain ⟨⟨⟨⟨⟨⟨rfl, rfl⟩, rfl⟩, rfl⟩, rfl⟩, rfl⟩, rfl⟩ := t7
      refine ⟨_, pss_one (ps_try_as2 (X := cxOf (L2N.CX X.prog X.w) X.prog X.w X.K X.mg X.base ["_law_act", "_law_e"] "_law_tried" sg g cdv X.A X.stack s' H1 (fun _ _ _ => False)) (i := 1) (c1 := .ref G) (c2 := .ref B)
        (tb := fun W D σ0 H0 => ∃ E : XK, (∀ cls d H', E cls d H' → W cls d σ0 H') ∧ σ0[0]? = some (some (.ref f)) ∧ H0 c' = some (CodeO c' (X.env.qual ++ "<lambda>")) ∧ tE X.K (fun cls d _ H => E cls d H) fe σ H0 (fun v H2 => [V.str "told", v].length ≤ sizeLine ∧ NewT H2 D.rt [V.str "told", v]))
        (ts := fun a cls d D σ0 H0 => d = none ∧ σ0[1]? = some (some (.ref a)) ∧ TabF TB.tabs [] [] H0 ∧ ∃ cn, kb cn = true ∧ clsV X.K cn cls ∧ ∀ m' H', Ext [] H0 m' H' → TabF TB.tabs [] [] H' → [V.str cn].length ≤ sizeLine ∧ NewT H' D.rt [V.str cn])
        rfl rfl (show (["_law_act", "_law_e"] : List Str).Nodup by decide) rfl t9 t10 t13 (by decide) t11 t14 (by decide) (fun W pn xe tk po => ⟨fun pins0 s0 σ0 H0 D0 I0 ⟨E, hW, q1, q2, q3⟩ => ?_⟩) (fun a oe cls d pn hz hfd => ⟨fun pins0 s0 σ0 H0 D0 I0 ⟨q0, q1, q2, cn, q3, q4, q5⟩ => ?_⟩)), ?_⟩
      · exact (pss_one (ps_ret (pe_tupX (pa_cons pe_str (pa_cons (pe_actN (i := 0) I1 L hf hfn hfr (hbind _ _ _ _ _) tk hr' (fun s2 H2 hr2 => hbody _ _ _ _ _ _ _ hr2) rfl (.inl t8)) pa_nil))))).run pins0 s0 σ0 H0 D0 I0 ⟨hW, q1, q2, q3⟩
      · subst q0
        exact (pss_one (ps_ret (pe_tupX (pa_cons (kin_call (Z := cxOf (L2N.CX X.prog X.w) X.prog X.w X.K X.mg X.base ["_law_act", "_law_e"] "_law_tried" sg g cdv X.A X.stack s' H1 (fun _ _ _ => False)) (kb := kb) (i := 1) (L2H.roomH_of (hr'.mono (show 3 ≤ k + 1 by omega))) t12 (by decide) t15 t16 rfl (.inl t9) (by decide) (by decide) hz hfd fun c hc => (t17 c hc).1) pa_nil)))).run pins0 s0 σ0 H0 D0 I0 ⟨q1, q2, cn, q3, q4, q5⟩
      · refine ⟨_, fun cls d H' q => q, rfl, hco, fb, m, S, ρ, r1, l1, ?_⟩
        cases hfe : fe ρ S with
        | bad => rw [hfe] at h1; exact h1.elim
        | ok d S1 =>
          rw [hfe] at h1
          intro m' H' v e r' p
          exact ⟨szOk (show PyD.sizeOk 2 by show 2 ≤ 100000; omega), Post.newT r' (.cons (.str _) (.cons p .nil)) (h1.mono e)⟩
        | err x S1 =>
          rw [hfe] at h1
          intro m' H' cls dx e r' p
          unfold triedR at h1
          by_cases hx : x.fs.isEmpty = true ∧ kb x.cls = true
          · simp only [if_pos hx] at h1
            obtain ⟨cv, vs, fl, rr⟩ := p
            have hfs : x.fs = [] := List.isEmpty_iff.1 hx.1
            rw [hfs] at rr
            cases rr
            have hdx : dx = none := by
              rcases fl with ⟨_, z⟩ | ⟨_, _, _, _, _, z⟩
              · exact z
              · exact absurd rfl z
            refine ⟨(t17 _ hx.2).2 _ cv, fun a ha => ⟨hdx, rfl, r'.tab.mv fun b _ _ _ => ⟨(fun z => nomatch z), (fun z => nomatch z), rfl⟩, x.cls, hx.2, cv, fun m2 H2 e2 t2 => ?_⟩⟩
            obtain ⟨x3, r3⟩ := r'.frame e2 t2
            exact ⟨szOk (show PyD.sizeOk 1 by show 1 ≤ 100000; omega), Post.newT r3 (.cons (.str _) .nil) ((h1.mono e).mono x3)⟩
          · simp only [if_neg hx] at h1
            exact h1.elim
    · cases t7
  refine wpAny_call (codeAny_mono rc fun r s2 hq => ?_)
  cases r with
  | error e =>
    obtain ⟨_, _, _, _, _, _, _, _, _, _, _, _, z⟩ := hq
    exact z.elim
  | ok fl =>
    cases fl with
    | ret u => exact I1.after hq
    | next => exact False.elim hq
    | brk => exact False.elim hq
    | cont => exact False.elim hq
end
end PyD

namespace PyD
open PySem PySem.Spec PyProof.Rows L2 HotX
section
variable {prog : Program} {w : World} {A : Around} {E : Value → Shared → Prop} {s : Shared}
theorem hot_keep {x1 : Addr} {h h' : Heap} (hot : HotAt A x1 h) (k : ∀ b o, h.get? b = some o → (∀ vs : Array Value, o.data = .fields vs → vs[2]? = some .none → ∃ o', h'.get? b = some o' ∧ o'.data = o.data)) : HotAt A x1 h' := by
  obtain ⟨hh, o, vs, h1, d1, c1⟩ := hot
  obtain ⟨o', h2, d2⟩ := k _ _ h1 vs d1 c1
  exact ⟨hh, o', vs, h2, d2.trans d1, c1⟩
theorem hot_ext {x1 it : Addr} {h h' : Heap} (hot : HotAt A x1 h) (hne : x1 ≠ it) (k : Heap.ExtBut it h h') : HotAt A x1 h' := by
  obtain ⟨hh, o, vs, h1, d1, c1⟩ := hot
  exact ⟨hh, o, vs, k _ _ hne h1, d1, c1⟩
theorem nextOf_list_end_hot {it l x1 : Addr} {i : Nat} {items : Array Value} {Q : Value → Shared → Prop} (hot : HotAt A x1 s.heap) (hne : x1 ≠ it)
    (hit : s.heap.IsListIter it l i) (hl : s.heap.IsList l items) (hx : items[i]? = none)
    (hE : ∀ h' e, Heap.ExtBut it s.heap h' → (∃ o, h'.get? e = some o ∧ o.cls = .type "StopIteration") → E (.ref e) { s with heap := h' }) :
    wpAny (model prog w) A (Builtin.SmallTypes.nextOf (.ref it)) Q E s := by
  obtain ⟨hh, o1, vs1, h1, d1, c1⟩ := hot
  obtain ⟨o, ho, hc, hd⟩ := id hit
  obtain ⟨ol, hol, _, nl, hdl⟩ := hl
  unfold Builtin.SmallTypes.nextOf
  refine wpAny_bind (wpAny_callSpecial?_slot (name := Str.ofString "__next__") hit.typeIs slot_listiter_next
    (wpAny_call_entry slot_listiter_next hit.typeIs entry_listiter_next ?_ (args_listiter_next _)))
  show wpAny _ _ (field (.ref it) 0 >>= _) _ _ s
  refine wpAny_bind (wpAny_field ho hd (x := .ref l) rfl ?_)
  show wpAny _ _ (if (Value.ref l == Value.none) = true then _ else _) _ _ s
  rw [if_neg (show ¬ ((Value.ref l == Value.none) = true) from Bool.false_ne_true)]
  show wpAny _ _ (field (.ref it) 1 >>= _) _ _ s
  refine wpAny_bind (wpAny_field ho hd (x := .int i 0) rfl ?_)
  show wpAny _ _ (seqItems? (.ref l) >>= _) _ _ s
  refine wpAny_bind (wpAny_seqItems hol hdl ?_)
  simp only [Int.toNat_natCast, hx]
  refine wpAny_bind (wpAny_rule (wpAny_bind (wpAny_setField ho hd (by simp) ?_)))
  show wpAny _ _ (newExc (.type "StopIteration") [] >>= _) _ _ _
  refine wpAny_bind ?_
  simp only [newExc, newTuple]
  refine wpAny_bind (wpAny_newObj_type ?_ (by size_fits))
  refine wpAny_bind (m := firstArgMember _ _) (wpAny_of_eq (a := Value.none) (by first | rfl | (simp only [firstArgMember]; rfl)) ?_)
  refine wpAny_newObj_type ?_ (by size_fits)
  refine raiseNew_hot ⟨hh, o1, vs1, Heap.get?_push_of_some _ (Heap.get?_push_of_some _ ((Heap.get?_update_ne _ _ _ _ hne).trans h1)), d1, c1⟩ (Nat.ne_of_lt (Heap.lt_size (Heap.get?_push_of_some _ ((Heap.get?_update_ne _ _ _ _ hne).trans h1)))) (Heap.get?_push_size _ rfl) rfl (by first | (simp; done) | (simp; omega) | (simp only [Array.size_append]; simp; omega)) ?_
  refine hE _ _ (fun b o hb e => ?_) ⟨_, Heap.get?_update_self _ (Heap.get?_push_size _ rfl) rfl, rfl⟩
  have e2 := fun f => (Heap.get?_update_ne s.heap b it f hb).trans e
  rw [Heap.get?_update_other _ _ (Nat.ne_of_gt (Heap.lt_size (Heap.get?_push_of_some _ (e2 _))))]
  exact Heap.get?_push_of_some _ (Heap.get?_push_of_some _ (e2 _))
theorem zip_next_end_hot {z TI TO i1 i2 l1 l2 x1 : Addr} {k1 k2 : Nat} {xs ys : Array Value} {a b : Value} {Q : Fin → Shared → Prop} (hot : HotAt A x1 s.heap) (nz : x1 ≠ z) (nTO : x1 ≠ TO) (n1 : x1 ≠ i1) (n2 : x1 ≠ i2) (D : ZipApart z TI TO i1 i2 l1 l2)
    (hz : IsZip s.heap z TI TO .none) (hTI : IsPair s.heap TI (.ref i1) (.ref i2)) (hTO : IsPair s.heap TO a b)
    (h1 : s.heap.IsListIter i1 l1 k1) (h2 : s.heap.IsListIter i2 l2 k2) (hl1 : s.heap.IsList l1 xs) (hl2 : s.heap.IsList l2 ys) (hend : xs[k1]? = none ∨ ys[k2]? = none)
    (hE : ∀ h' e, (∀ c o, c ≠ z → c ≠ TO → c ≠ i1 → c ≠ i2 → s.heap.get? c = some o → h'.get? c = some o) → (∃ o, h'.get? e = some o ∧ o.cls = .type "StopIteration") → E (.ref e) { s with heap := h' }) :
    wpAny (model prog w) A (Builtin.«zip.__next__» ⟨[.ref z], []⟩) Q E s := by
  show wpAny _ _ (field (.ref z) 2 >>= _) _ _ _
  refine wpAny_bind (wpAny_field hz rfl (x := .bool false) rfl ?_)
  show wpAny _ _ (field (.ref z) 3 >>= _) _ _ _
  refine wpAny_bind (wpAny_field hz rfl (x := .ref TI) rfl ?_)
  refine wpAny_bind (wpAny_seqItems hTI rfl ?_)
  show wpAny _ _ (Builtin.SmallTypes.ownedTupleIsFree (.ref z) >>= _) _ _ _
  refine wpAny_bind ?_
  unfold Builtin.SmallTypes.ownedTupleIsFree
  refine wpAny_bind (wpAny_field hz rfl (x := .none) rfl (wpAny_pure ?_))
  simp only [if_true]
  refine wpAny_bind (wpAny_rule ?_)
  refine wpAny_bind (wpAny_field hz rfl (x := .ref TO) rfl ?_)
  refine wpAny_bind (wpAny_setField_rec hz (by simp) fun h₁ hz₁ hs₁ => ?_)
  replace hz₁ : IsZip h₁ z TI TO .ellipsis := hz₁
  have hot₁ := hot_ext hot nz hs₁.extBut
  refine wpAny_bind ?_
  simp only [List.zipIdx_cons, List.zipIdx_nil, List.forIn_cons, List.forIn_nil]
  refine wpAny_bind (wpAny_bind (wpAny_onRaise ?_))
  show wpAny _ _ (Builtin.SmallTypes.nextOf (.ref i1) >>= _) _ _ _
  cases hx : xs[k1]? with
  | none =>
    refine wpAny_bind (nextOf_list_end_hot hot₁ n1 (h1.extBut hs₁.extBut D.i1z) (hl1.extBut hs₁.extBut D.l1z) hx fun h₂ e hs₂ he => ?_)
    obtain ⟨oe, hoe, hce⟩ := he
    have hz₂ : IsZip h₂ z TI TO .ellipsis := hs₂ _ _ D.i1z.symm hz₁
    have hez : e ≠ z := fun x => by subst x; rw [hz₂] at hoe; cases hoe; simp at hce
    exact wpAny_setField_rec hz₂ (by simp) fun h₃ _ hs₃ => hE h₃ e (fun c o c1 _ c3 _ x => hs₃.extBut _ _ c1 (hs₂ _ _ c3 (hs₁.extBut _ _ c1 x))) ⟨oe, hs₃.extBut _ _ hez hoe, hce⟩
  | some x =>
    have hy : ys[k2]? = none := by rcases hend with h | h; rw [hx] at h; cases h; exact h
    refine wpAny_bind (wpAny_nextOf_list_item (h1.extBut hs₁.extBut D.i1z) (hl1.extBut hs₁.extBut D.l1z) hx fun h₂ h1₂ hs₂ => wpAny_pure ?_)
    have hTO₂ : IsPair h₂ TO a b := hs₂.extBut _ _ D.TOi1 (hs₁.extBut _ _ D.TOz hTO)
    refine wpAny_bind (wpAny_seqItems hTO₂ rfl ?_)
    refine wpAny_bind (wpAny_updateSeq_pair hTO₂ fun h₃ hTO₃ hs₃ => ?_)
    refine wpAny_bind (wpAny_letGo (wpAny_pure ?_))
    refine wpAny_bind (wpAny_bind (wpAny_onRaise ?_))
    show wpAny _ _ (Builtin.SmallTypes.nextOf (.ref i2) >>= _) _ _ _
    have hot₃ := hot_ext (hot_ext hot₁ n1 hs₂.extBut) nTO hs₃.extBut
    refine wpAny_bind (nextOf_list_end_hot hot₃ n2 (((h2.extBut hs₁.extBut D.i2z).extBut hs₂.extBut D.i12.symm).extBut hs₃.extBut D.TOi2.symm)
      (((hl2.extBut hs₁.extBut D.l2z).extBut hs₂.extBut D.l2i1).extBut hs₃.extBut D.l2TO) hy fun h₄ e hs₄ he => ?_)
    obtain ⟨oe, hoe, hce⟩ := he
    have hz₄ : IsZip h₄ z TI TO .ellipsis := hs₄ _ _ D.i2z.symm (hs₃.extBut _ _ D.TOz.symm (hs₂.extBut _ _ D.i1z.symm hz₁))
    have hez : e ≠ z := fun x => by subst x; rw [hz₄] at hoe; cases hoe; simp at hce
    exact wpAny_setField_rec hz₄ (by simp) fun h₅ _ hs₅ => hE h₅ e (fun c o c1 c2 c3 c4 x => hs₅.extBut _ _ c1 (hs₄ _ _ c4 (hs₃.extBut _ _ c2 (hs₂.extBut _ _ c3 (hs₁.extBut _ _ c1 x))))) ⟨oe, hs₅.extBut _ _ hez hoe, hce⟩
theorem pyNext_zip_end_hot {z TI TO i1 i2 l1 l2 x1 : Addr} {k1 k2 : Nat} {xs ys : Array Value} {a b : Value} {Q : Option Value → Shared → Prop} (hot : HotAt A x1 s.heap) (nz : x1 ≠ z) (nTO : x1 ≠ TO) (n1 : x1 ≠ i1) (n2 : x1 ≠ i2) (D : ZipApart z TI TO i1 i2 l1 l2)
    (hz : IsZip s.heap z TI TO .none) (hTI : IsPair s.heap TI (.ref i1) (.ref i2)) (hTO : IsPair s.heap TO a b)
    (h1 : s.heap.IsListIter i1 l1 k1) (h2 : s.heap.IsListIter i2 l2 k2) (hl1 : s.heap.IsList l1 xs) (hl2 : s.heap.IsList l2 ys) (hend : xs[k1]? = none ∨ ys[k2]? = none)
    (hQ : ∀ h', (∀ c o, c ≠ z → c ≠ TO → c ≠ i1 → c ≠ i2 → s.heap.get? c = some o → h'.get? c = some o) → Q none { s with heap := h' }) : wpAny (model prog w) A (pyNext (.ref z)) Q E s := by
  have hT : s.TypeIs (.ref z) "zip" := ⟨_, hz, rfl⟩
  unfold pyNext
  refine wpAny_bind (wpAny_attempt (wpAny_callSpecial?_slot (name := Str.ofString "__next__") hT F.slot_zip_next
    (wpAny_call_entry F.slot_zip_next hT F.entry_zip_next (zip_next_end_hot (A := A.in1) ⟨hot.1, hot.2⟩ nz nTO n1 n2 D hz hTI hTO h1 h2 hl1 hl2 hend fun h' e hk he => ?_) (F.args_zip_next_1 _))))
  obtain ⟨o, ho, hc⟩ := he
  refine wpAny_bind (wpAny_isInstance (T := "StopIteration") (b := true) ⟨o, ho, hc⟩ isSubtype_stop ?_)
  exact wpAny_pure (hQ _ hk)
theorem next_tuple_end_hot {it t x1 : Addr} {i : Nat} {items : Array Value} {Q : Option Value → Shared → Prop} (hot : HotAt A x1 s.heap) (hne : x1 ≠ it)
    (hit : IsTupIter s.heap it t i) (ht : IsTup s.heap t items) (hx : items[i]? = none)
    (hQ : ∀ h', Heap.ExtBut it s.heap h' → Q none { s with heap := h' }) : wpAny (model prog w) A (pyNext (.ref it)) Q E s := by
  obtain ⟨hh, o1, vs1, h1, d1, c1⟩ := hot
  obtain ⟨o, ho, hc, hd⟩ := id hit
  obtain ⟨ol, hol, _, nl, hdl⟩ := ht
  unfold pyNext
  refine wpAny_bind (wpAny_attempt (wpAny_callSpecial?_slot (name := Str.ofString "__next__") hit.typeIs slot_tupleiter_next
    (wpAny_call_entry slot_tupleiter_next hit.typeIs entry_tupleiter_next ?_ (args_tupleiter_next _))))
  show wpAny _ _ (field (.ref it) 0 >>= _) _ _ s
  refine wpAny_bind (wpAny_field ho hd (x := .ref t) rfl ?_)
  show wpAny _ _ (if (Value.ref t == Value.none) = true then _ else _) _ _ s
  rw [if_neg (show ¬ ((Value.ref t == Value.none) = true) from Bool.false_ne_true)]
  show wpAny _ _ (field (.ref it) 1 >>= _) _ _ s
  refine wpAny_bind (wpAny_field ho hd (x := .int i 0) rfl ?_)
  show wpAny _ _ (seqItems? (.ref t) >>= _) _ _ s
  refine wpAny_bind (wpAny_seqItems hol hdl ?_)
  simp only [Int.toNat_natCast, hx]
  refine wpAny_bind (wpAny_rule (wpAny_bind (wpAny_setField ho hd (by simp) ?_)))
  show wpAny _ _ (newExc (.type "StopIteration") [] >>= _) _ _ _
  refine wpAny_bind ?_
  simp only [newExc, newTuple]
  refine wpAny_bind (wpAny_newObj_type ?_ (by size_fits))
  refine wpAny_bind (m := firstArgMember _ _) (wpAny_of_eq (a := Value.none) (by first | rfl | (simp only [firstArgMember]; rfl)) ?_)
  refine wpAny_newObj_type ?_ (by size_fits)
  refine raiseNew_hot ⟨hh, o1, vs1, Heap.get?_push_of_some _ (Heap.get?_push_of_some _ ((Heap.get?_update_ne _ _ _ _ hne).trans h1)), d1, c1⟩ (Nat.ne_of_lt (Heap.lt_size (Heap.get?_push_of_some _ ((Heap.get?_update_ne _ _ _ _ hne).trans h1)))) (Heap.get?_push_size _ rfl) rfl (by first | (simp; done) | (simp; omega) | (simp only [Array.size_append]; simp; omega)) ?_
  refine wpAny_bind (wpAny_isInstance (T := "StopIteration") (b := true) ⟨_, Heap.get?_update_self _ (Heap.get?_push_size _ rfl) rfl, rfl⟩ isSubtype_stop ?_)
  refine wpAny_pure (hQ _ fun b o hb e => ?_)
  have e2 := fun f => (Heap.get?_update_ne s.heap b it f hb).trans e
  rw [Heap.get?_update_other _ _ (Nat.ne_of_gt (Heap.lt_size (Heap.get?_push_of_some _ (e2 _))))]
  exact Heap.get?_push_of_some _ (Heap.get?_push_of_some _ (e2 _))
theorem unpackItems_hot {t x1 : Addr} {items : Array Value} {Q : List Value → Shared → Prop} (hot : HotAt A x1 s.heap) (ht : IsTup s.heap t items)
    (hQ : ∀ h', Heap.ExtBut s.heap.objs.size s.heap h' → Q items.toList { s with heap := h' }) : wpAny (model prog w) A (unpackItems (.ref t) items.size none) Q E s := by
  have hlt : t ≠ s.heap.objs.size := by obtain ⟨o, ho, _⟩ := ht; exact Nat.ne_of_lt (Heap.lt_size ho)
  have hx : x1 ≠ s.heap.objs.size := by obtain ⟨_, o, _, ho, _⟩ := hot; exact Nat.ne_of_lt (Heap.lt_size ho)
  unfold unpackItems
  refine wpAny_bind ?_
  unfold notIterableAtAll
  refine wpAny_bind (wpAny_specialOf ht.typeIs slot_tuple_iter.lookup ?_)
  refine wpAny_pure ?_
  simp only [Bool.false_eq_true, if_false]
  refine wpAny_bind (wpAny_holding (iter_tuple ht ?_))
  refine wpAny_bind (wpAny_holding (draw_tuple hlt items.size 0 _ _ ⟨_, Heap.get?_push_size _ rfl, rfl, rfl⟩ (ht.push _) (by omega) fun h₁ hit₁ hs₁ => ?_))
  have hall : List.take items.size (List.drop 0 items.toList) = items.toList := by
    rw [List.drop_zero]; exact List.take_of_length_le (by simp)
  rw [hall]
  rw [if_neg (by simp)]
  have ht₁ : IsTup h₁ t items := (ht.push _).extBut hs₁.extBut hlt
  have hot₁ : HotAt A x1 h₁ := by
    obtain ⟨hh, o, vs, e1, d1, c1⟩ := hot
    exact ⟨hh, o, vs, hs₁.extBut _ _ hx (Heap.get?_push_of_some _ e1), d1, c1⟩
  refine wpAny_bind (wpAny_holding (next_tuple_end_hot hot₁ hx hit₁ ht₁ (by simp) fun h₂ he₂ => ?_))
  simp only [Option.isSome_none, Bool.false_eq_true, if_false]
  exact wpAny_pure (hQ h₂ fun b o hb e => he₂ b o hb (hs₁.extBut b o hb (Heap.get?_push_of_some _ e)))
theorem assign_Tuple_hot {env : Env} {elts : List Expr} {k : Nat} {pos : Pos} {t x1 : Addr} {items : Array Value} {Q : Unit → Shared → Prop} (hot : HotAt A x1 s.heap) (ht : IsTup s.heap t items)
    (hn : (assignEach elts env).length = items.size) (hstar : (assignEach elts env).findIdx? (·.1) = none)
    (h : ∀ h', Heap.ExtBut s.heap.objs.size s.heap h' → wpAny (model prog w) A (assignInOrder ((assignEach elts env).map (·.2)) items.toList) Q E { s with heap := h' }) :
    wpAny (model prog w) A (assign (.Tuple elts k pos) env (.ref t)) Q E s := by
  rw [assign_Tuple]
  refine wpAny_bind (wpAny_standAt ?_)
  unfold unpack
  rw [hn, hstar]
  exact wpAny_bind (wpAny_holding (unpackItems_hot hot ht h))
end
section
variable {X : Cx} {pos : Pos}
theorem pg_tupH {es : List Expr} {k : Nat} {t : TGs} {n : Nat} (hc : L2H.HotC X) (h : PGs X es t) (hn : (assignEach es X.env).length = n) (hst : (assignEach es X.env).findIdx? (·.1) = none) : PG X (.Tuple es k pos) (gTup X.K n t) := by
  refine ⟨fun pins s σ H v u Q I r hw => ?_⟩
  obtain ⟨a, xs, e1, hq, hl, hw⟩ := hw
  subst e1
  cases r
  obtain ⟨its, rv, ht, hz⟩ := I.tuple hq
  obtain ⟨x1, hot⟩ := hc.at I
  refine assign_Tuple_hot hot ht (by simp [hn, ← hl, rv.length]) hst fun h' hx => ?_
  have I1 : Inv X pins σ H { s with heap := h' } := I.kept (t' := s.toks) fun b o e => hx b o (Nat.ne_of_lt (Heap.lt_size e)) e
  exact h.run pins _ σ H xs _ Q I1 (by simpa using rv) hw
theorem turn_zipH {P : Program} {w : World} {K : PySem.W.Frag} {elts : List Expr} {kk : Nat} {tpos : Pos} {a b z TI TO i1 i2 : Addr} (D : ZipApart z TI TO i1 i2 a b) :
    L2H.TurnH P w K (.Tuple elts kk tpos) (Itz K a b) [z, TI, TO, i1, i2] z (fun i h => IsZip h z TI TO .none ∧ IsPair h TI (.ref i1) (.ref i2) ∧ (∃ x y, IsPair h TO x y) ∧ h.IsListIter i1 a i ∧ h.IsListIter i2 b i) where
  mem := by simp
  obj := (turn_zip (P := P) (w := w) (K := K) (elts := elts) (kk := kk) (tpos := tpos) D).obj
  keep := (turn_zip (P := P) (w := w) (K := K) (elts := elts) (kk := kk) (tpos := tpos) D).keep
  self := fun A i s Q E st h => wpAny_pyIter_zip st.1 h
  item := by
    intro X hP hw hK hc i pins s σ H E I hf st hg
    subst hP hw hK
    obtain ⟨hz, hTI, ⟨x0, y0, hTO⟩, h1, h2⟩ := st
    obtain ⟨xs, ys, x, y, hqx, hqy, hx, hy⟩ := hg
    obtain ⟨its, rv, p, _⟩ := I.list hqx
    obtain ⟨its2, rv2, p2, _⟩ := I.list hqy
    obtain ⟨u, hu, ru⟩ := rv.get hx
    obtain ⟨u2, hu2, ru2⟩ := rv2.get hy
    have hzl : z < s.heap.objs.size := Heap.lt_size hz
    refine wpAny_pyNext_zip_item D hz hTI hTO h1 h2 p.isList p2.isList (x := u) (y := u2) (by simpa using hu) (by simpa using hu2) fun h' z' TO' h1' h2' hT hsz hk => ?_
    refine ⟨_, rfl, wpAny_letOwnedTupleGo_zip (s := { s with heap := h' }) z' fun h'' z'' sb => ?_⟩
    have hT2 : h''.get? s.heap.objs.size = some { cls := .type "tuple", data := .seq #[u, u2] } := (sb.2 _ (Nat.ne_of_gt hzl)).trans hT
    have new : ObjOk X.prog X.w (upd H s.heap.objs.size (.tup [x, y])) h'' s.heap.objs.size (.tup [x, y]) :=
      ⟨by show 2 ≤ sizeLine; decide, [u, u2], .cons ru (.cons ru2 .nil), ⟨_, hT2, rfl, _, rfl⟩⟩
    have I1 : Inv X pins σ (upd H s.heap.objs.size (.tup [x, y])) { s with heap := h'' } :=
      I.turnedNew (t' := s.toks) (ch := [z, TI, TO, i1, i2]) (fun c o hb q => (sb.2 c (fun q' => hb (by simp [q']))).trans (hk c o (fun q' => hb (by simp [q'])) (fun q' => hb (by simp [q'])) (fun q' => hb (by simp [q'])) (fun q' => hb (by simp [q'])) q)) hf (Nat.le_refl _) new
    refine ⟨.ref s.heap.objs.size, _, I1, rfl, ⟨_, x, y, rfl, I.hok.fresh (Nat.le_refl _), rfl, fun l hl => by rw [I.list_inj hl hqx]; exact hx, fun l hl => by rw [I.list_inj hl hqy]; exact hy⟩, ⟨z'', ?_, ⟨u, u2, ?_⟩, ?_, ?_⟩, fun c hcm => ?_⟩
    · exact (sb.2 _ D.TIz).trans (hk _ _ D.TIz D.TITO D.TIi1 D.TIi2 hTI)
    · exact (sb.2 _ D.TOz).trans TO'
    · exact h1'.at fun o q => (sb.2 _ D.i1z).trans q
    · exact h2'.at fun o q => (sb.2 _ D.i2z).trans q
    · have hlt : c < s.heap.objs.size := by
        have e' : c = z ∨ c = TI ∨ c = TO ∨ c = i1 ∨ c = i2 := by simpa using hcm
        rcases e' with q | q | q | q | q
        · rw [q]; exact hzl
        · rw [q]; exact Heap.lt_size hTI
        · rw [q]; exact Heap.lt_size hTO
        · rw [q]; obtain ⟨_, e1, _⟩ := h1; exact Heap.lt_size e1
        · rw [q]; obtain ⟨_, e2, _⟩ := h2; exact Heap.lt_size e2
      rw [upd_ne (Nat.ne_of_lt hlt)]
      exact (hf c hcm).1
  done := by
    intro X hP hw hK hc i pins s σ H E I hf st hg
    subst hP hw hK
    obtain ⟨hz, hTI, ⟨x0, y0, hTO⟩, h1, h2⟩ := st
    obtain ⟨xs, ys, hqx, hqy, hend⟩ := hg
    obtain ⟨its, rv, p, _⟩ := I.list hqx
    obtain ⟨its2, rv2, p2, _⟩ := I.list hqy
    have l1 := rv.length
    have l2 := rv2.length
    have he : its.toArray[i]? = none ∨ its2.toArray[i]? = none := by
      rcases hend with q | q
      · exact .inl (by simp; omega)
      · exact .inr (by simp; omega)
    obtain ⟨q, ⟨hh, v1, e1, c1⟩, hq⟩ := hc
    have hot : HotAt X.A q.1 s.heap := ⟨hh, q.2, v1, (I.pin q (List.mem_append_left _ hq)).1, e1, c1⟩
    have ne : ∀ b, b ∈ [z, TI, TO, i1, i2] → q.1 ≠ b := fun b hb => (hf b hb).2.2.2.2.2 q (List.mem_append_left _ hq)
    exact pyNext_zip_end_hot hot (ne _ (by simp)) (ne _ (by simp)) (ne _ (by simp)) (ne _ (by simp)) D hz hTI hTO h1 h2 p.isList p2.isList he fun h' hk => ⟨rfl, I.turnedL (t' := s.toks) (ch := [z, TI, TO, i1, i2]) (fun c o hb q =>
      hk c o (fun q' => hb (by simp [q'])) (fun q' => hb (by simp [q'])) (fun q' => hb (by simp [q'])) (fun q' => hb (by simp [q'])) q) hf⟩
theorem pi_zipH {e e2 : Expr} {ta : TA} {p pos tpos : Pos} {elts : List Expr} {kk : Nat} (hg : Gl X "zip") (hm : X.mg "zip" = none) (ha : PA X [e, e2] ta)
    (hs : starEach [e, e2] X.env = (false, eval e X.env) :: starEach [e2] X.env) (hpl : (backTo pos (starEach [e2] X.env)).any (·.1) = false) :
    L2H.PIH X (.Tuple elts kk tpos) (.Call (.Name "zip" p) [e, e2] [] pos) (iZip X.K ta) := by
  refine ⟨fun pins s σ H R I h => ?_⟩
  refine Call_ (ld_blt I hg hm PyProof.Rows.boot_zip (PyProof.Rows.callWith_type1 (thn (ha.run pos pins s σ H _ I h) fun us s1 ⟨vs, H1, I1, r1, q1⟩ => ?_) hs hpl))
  obtain ⟨a, b, xs, ys, ex, hqx, hqy, q⟩ := q1
  subst ex
  cases r1 with
  | cons r rr =>
    cases rr with
    | cons r' rr =>
      cases rr
      cases r
      cases r'
      obtain ⟨its, rv, p1, _⟩ := I1.list hqx
      obtain ⟨its2, rv2, p2, _⟩ := I1.list hqy
      have la : a < s1.heap.objs.size := p1.lt
      have lb : b < s1.heap.objs.size := p2.lt
      refine call_zip_2 p1.isList p2.isList fun h' hz hTI hTO h1 h2 hsz hk => wpAny_pyIter_zip hz ?_
      have I2 : Inv X pins σ H1 { s1 with heap := h' } := I1.kept (t' := s1.toks) hk
      refine ⟨s1.heap.objs.size + 4, [s1.heap.objs.size + 4, s1.heap.objs.size + 2, s1.heap.objs.size + 3, s1.heap.objs.size, s1.heap.objs.size + 1], _, _, H1, rfl, I2, turn_zipH (PySem.W.ktu_apart s1.heap.objs.size a b la lb), ⟨hz, hTI, ⟨_, _, hTO⟩, h1, h2⟩, fun c hcm => ?_, q⟩
      have e' : c = s1.heap.objs.size + 4 ∨ c = s1.heap.objs.size + 2 ∨ c = s1.heap.objs.size + 3 ∨ c = s1.heap.objs.size ∨ c = s1.heap.objs.size + 1 := by simpa using hcm
      have hle : s1.heap.objs.size ≤ c := by
        rcases e' with z | z | z | z | z
        · rw [z]; exact Nat.le_add_right _ _
        · rw [z]; exact Nat.le_add_right _ _
        · rw [z]; exact Nat.le_add_right _ _
        · rw [z]; exact Nat.le_refl _
        · rw [z]; exact Nat.le_add_right _ _
      exact I1.fpOk hle (I1.hok.fresh hle)
abbrev blkH (X : Cx) (p : Addr × Obj) (s : Shared) (H : Hp) (scope : Scope) (cenv : Env) (fp : List Addr) : Cx := (X.blk s H scope cenv fp).tr [p] (fun _ _ => False)
theorem lc_coreH {p : Addr × Obj} {pins : List (Addr × Obj)} {s : Shared} {σ : L2.St} {H : Hp} {Q : VK} {elt tg iter : Expr} {ifs : List Expr} {scope : Scope} {own : List (Str × Nat)} {pos pos' : Pos} {wi : TI} {g : TG} {tt : TT} {te : TE} {use : Option (Value → Sem Unit)} {Qf : Value → Shared → Prop}
    (hot : L2H.Hot1 X.A p) (hp : p ∈ X.pn) (hN : X.N.Nodup) (I : Inv X pins σ H s) (hi : L2H.PIH X tg iter wi) (ok : BlkOk X.N X.env.scope scope own)
    (hg : ∀ (s : Shared) (H : Hp) (C : Addr) (cl : List (Str × Addr)) (fp : List Addr), PG (blkH X p s H scope (compEnvC scope cl C X.env) fp) tg g) (ht : ∀ (s : Shared) (H : Hp) (C : Addr) (cl : List (Str × Addr)) (fp : List Addr), PTs (blkH X p s H scope (compEnvC scope cl C X.env) fp) ifs tt)
    (he : ∀ (s : Shared) (H : Hp) (C : Addr) (cl : List (Str × Addr)) (fp : List Addr), PE (blkH X p s H scope (compEnvC scope cl C X.env) fp) elt te) (hs : ∀ x, foldedSetIterable iter X.env x = pure x)
    (h : tLc wi g tt te (own.map (·.2)) σ H Q)
    (hRR : ∀ D C s' m H', Inv X pins σ H' s' → Q (.ref D) H' → s'.heap.Ns C m → FpOk X pins H' C → compPost (model X.prog X.w) X.A X.xe use Qf (.ref D) C (.ok .next) s') :
    wpAny (model X.prog X.w) X.A (comprehension (.ListComp elt [⟨tg, iter, ifs, 0⟩] scope pos) scope X.env pos' (newList []) false (eval iter X.env) use) Qf X.xe s := by
  have hfree : ∀ y ∈ scope.names, y.2 = .free → ∃ c, X.env.cells.lookup y.1 = some c := fun y hy e => by
    rcases ok.free y hy e with k | k
    · exact I.ok.has _ (.inl k)
    · exact I.ok.has _ (.inr k)
  refine wpAny_comprehension_free (use := use) rfl hs (closure_ok hfree) ok.kind (fun y hy e => by rw [ok.uniq y hy, e])
    (thn (hi.run pins s σ H _ I h) fun xv s1 hx => thn hx fun itv s2 h2 => ?_)
  obtain ⟨it, fp, tn, J, H2, e, I2, T, st2, f2, q⟩ := h2
  subst e
  refine wpAny_newObj_type (newEnv_comp ?_) (by show 0 ≤ sizeLine; decide)
  generalize hD : s2.heap.objs.size = D
  have hDn : H2 D = none := I2.hok.fresh (Nat.le_of_eq hD)
  obtain ⟨W, ⟨m0, w0⟩, turn⟩ := q D hDn
  generalize hs3 : ({ s2 with heap := s2.heap.push { cls := .type "list", data := .seq ([] : List Value).toArray } } : Shared) = s3
  have I3 : Inv X pins σ (upd H2 D (.lst [])) s3 := by
    rw [← hs3]
    refine I2.laid (t' := s2.toks) (fun b o e => Heap.get?_push_of_some _ e) (Nat.le_of_eq hD) ⟨Nat.zero_le _, [], 0, .nil, ?_⟩
    rw [← hD]
    exact Heap.get?_push_size _ rfl
  have h3 : s3.heap = s2.heap.push { cls := .type "list", data := .seq ([] : List Value).toArray } := by rw [← hs3]
  have sz : ∀ b ∈ fp, b < s2.heap.objs.size := fun b hb => by
    obtain ⟨o, e, _⟩ := T.obj _ _ st2 b hb
    exact Heap.lt_size e
  have f3 : ∀ b ∈ fp, FpOk X pins (upd H2 D (.lst [])) b ∧ b < s3.heap.objs.size := fun b hb => by
    have hlt := sz b hb
    refine ⟨⟨?_, (f2 b hb).2⟩, by rw [h3, Heap.size_push]; exact Nat.lt_succ_of_lt hlt⟩
    rw [upd_ne (by rw [← hD]; exact Nat.ne_of_lt hlt)]
    exact (f2 b hb).1
  have st3 : tn 0 s3.heap := T.keep _ _ _ st2 fun b _ o e => by rw [h3]; exact Heap.get?_push_of_some _ e
  have I4 := block_start I3 ok hN f3
  have P3 := I3.pin p (List.mem_append_left _ hp)
  have pg := hg s3 (upd H2 D (.lst [])) s3.heap.objs.size (cellsFrom (s3.heap.objs.size + 1) scope.names (cloFrom X.env.cells scope.names [])) fp
  have pt := ht s3 (upd H2 D (.lst [])) s3.heap.objs.size (cellsFrom (s3.heap.objs.size + 1) scope.names (cloFrom X.env.cells scope.names [])) fp
  have pe := he s3 (upd H2 D (.lst [])) s3.heap.objs.size (cellsFrom (s3.heap.objs.size + 1) scope.names (cloFrom X.env.cells scope.names [])) fp
  show codeAny _ _ (.compStart (.ListComp elt [⟨tg, iter, ifs, 0⟩] scope pos) 0 (.ref it) (.ref D) (compEnvC scope (cellsFrom (s3.heap.objs.size + 1) scope.names (cloFrom X.env.cells scope.names [])) s3.heap.objs.size X.env)) (compPost (model X.prog X.w) X.A X.xe use Qf (.ref D) s3.heap.objs.size) _
  have nfp : ∀ b ∈ fp, (upd H2 D (.lst [])) b = none := fun b hb => (f3 b hb).1.1
  generalize hce : compEnvC scope (cellsFrom (s3.heap.objs.size + 1) scope.names (cloFrom X.env.cells scope.names [])) s3.heap.objs.size X.env = ce at I4 pg pt pe ⊢
  have cL : ce.locals = s3.heap.objs.size := by subst hce; rfl
  generalize hH3 : upd H2 D (.lst []) = H3 at I3 I4 pg pt pe w0 nfp f3 P3
  generalize hs4 : ({ s3 with heap := pushCells (s3.heap.push { cls := .type "dict", data := .dict #[] }) scope.names } : Shared) = s4 at I4 ⊢
  have I4 : Inv (blkH X p s3 H3 scope ce fp) [] (L2.wipe σ (own.map (·.2))) H3 s4 := ⟨I4.ok.toTry _ _, I4.os, I4.bare, I4.base, I4.loc, I4.cell, I4.free, I4.freeC, fun q hq => by
    obtain rfl : q = p := by simpa using (show q ∈ [p] ++ ([] : List (Addr × Obj)) from hq)
    refine ⟨?_, P3.2.1, ?_, fun hm => (List.mem_cons.mp (I3.stkSub q.1 hm)).elim P3.2.2.1 P3.2.2.2.1, P3.2.2.2.2⟩
    · rw [← hs4]; exact pushCells_keeps _ _ _ _ (Heap.get?_push_of_some _ P3.1)
    · show q.1 ≠ ce.locals
      rw [cL]
      exact Nat.ne_of_lt (Heap.lt_size P3.1), I4.hok, I4.len⟩
  have hotY : L2H.HotC (blkH X p s3 H3 scope ce fp) := ⟨p, hot, List.mem_singleton_self p⟩
  have st4 : tn 0 s4.heap := T.keep _ _ _ st3 fun b _ o e => by rw [← hs4]; exact pushCells_keeps _ _ _ _ (Heap.get?_push_of_some _ e)
  have stat : ∀ {σ' : L2.St} {H' : Hp} {s' : Shared}, Inv (blkH X p s3 H3 scope ce fp) [] σ' H' s' → (∀ b ∈ fp, H' b = none) → ∀ b ∈ fp, FpOk (blkH X p s3 H3 scope ce fp) [] H' b := fun {σ' H' s'} I' hn b hb =>
    ⟨hn b hb, (I'.ok.exf b hb).1, I'.ok.exfs b hb, .inl hb, fun x c e => (I'.ok.exf b hb).2 x c e, fun q hq => by
      obtain rfl : q = p := by simpa using (show q ∈ [p] ++ ([] : List (Addr × Obj)) from hq)
      exact (f3 b hb).1.2.2.2.2.2 q (List.mem_append_left _ hp)⟩
  have loop : codeAny (model X.prog X.w) X.A (.compLoop (.ListComp elt [⟨tg, iter, ifs, 0⟩] scope pos) 0 (.ref it) (.ref D) ce) (compPost (model X.prog X.w) X.A X.xe use Qf (.ref D) s3.heap.objs.size) s4 := by
    refine compLoop_any (fun n s' => ∃ i H', Inv (blkH X p s3 H3 scope ce fp) [] (L2.wipe σ (own.map (·.2))) H' s' ∧ tn i s'.heap ∧ (∀ b ∈ fp, H' b = none) ∧ W i n H') ?_ m0 ⟨0, H3, I4, st4, nfp, w0⟩
    rintro n s5 ⟨i, H5, I5, st5, n5, w5⟩
    rcases turn i n H5 w5 with ⟨stop, qq⟩ | ⟨go, Nx, hNx, step⟩
    · have td := T.done (blkH X p s3 H3 scope ce fp) rfl rfl rfl hotY i [] s5 _ H5 (fun _ _ => False) I5 (stat I5 n5) st5 stop
      refine thnF td fun r s6 ⟨hr, I6⟩ => ?_
      subst hr
      have I7 : Inv X pins σ H5 s6 := I3.call' (ch := fp) I6.os I6.base I6.hok I6.bare fun b hb => ⟨(f3 b hb).1.2.2.2.1, (f3 b hb).1.2.1, (f3 b hb).1.2.2.2.2.1, (f3 b hb).1.2.2.2.2.2⟩
      have nC : H5 s3.heap.objs.size = none := by
        have z : H5 ce.locals = none := I6.free
        rw [cL] at z
        exact z
      obtain ⟨m, hn, _⟩ := I6.loc
      have hn : s6.heap.Ns ce.locals m := hn
      rw [cL] at hn
      exact hRR D s3.heap.objs.size s6 m H5 I7 qq hn (I3.fpOk (Nat.le_refl _) nC)
    · have ti := T.item (blkH X p s3 H3 scope ce fp) rfl rfl rfl hotY i [] s5 _ H5 (fun _ _ => False) I5 (stat I5 n5) st5 go
      refine thnF ti fun r s6 ⟨u, hr, h6⟩ => ?_
      subst hr
      refine thnF h6 fun _ s7 ⟨x, H7, I7, r7, y7, st7, n7⟩ => ?_
      have I7' := I7.pinned (stat I7 n7) (T.obj _ _ st7)
      refine thnF (pg.run _ s7 _ H7 x u _ I7' r7 (step x H7 y7)) fun _ s8 ⟨σ8, H8, I8, hw8, q8⟩ => ?_
      refine thnF (pt.run _ s8 σ8 H8 _ I8 q8) fun b s9 ⟨H9, I9, q9⟩ => ?_
      have fin : ∀ {s' : Shared} {H' : Hp}, Inv (blkH X p s3 H3 scope ce fp) ([] ++ pinsAt fp s7.heap) σ8 H' s' → Nx H' → ∃ m, m < n ∧ ∃ i H', Inv (blkH X p s3 H3 scope ce fp) [] (L2.wipe σ (own.map (·.2))) H' s' ∧ tn i s'.heap ∧ (∀ b ∈ fp, H' b = none) ∧ W i m H' := fun {s' H'} I' nx => by
        obtain ⟨m', hm, w'⟩ := hNx H' nx
        have pin' : ∀ b ∈ fp, ∀ o, s7.heap.get? b = some o → s'.heap.get? b = some o ∧ H' b = none := fun b hb o e =>
          let z := I'.pin (b, o) (List.mem_append_right _ (List.mem_append_right _ (mem_pinsAt hb e)))
          ⟨z.1, z.2.1⟩
        have hl : (L2.wipe σ (own.map (·.2))).length = σ8.length := by rw [← hw8, L2.wipe_length]
        refine ⟨m', hm, i + 1, H', (I'.unpinned (pins := [])).weak hl (fun j v e => ?_), T.keep _ _ _ st7 fun b hb o e => (pin' b hb o e).1, fun b hb => ?_, w'⟩
        · rw [← hw8] at e
          exact (L2.wipe_some e).1
        · obtain ⟨o, e, _⟩ := T.obj _ _ st7 b hb
          exact (pin' b hb o e).2
      cases b with
      | false =>
        simp only [Bool.false_eq_true, if_false] at q9 ⊢
        exact fin I9 q9
      | true =>
        simp only [if_true] at q9 ⊢
        refine thnF (pe.run _ s9 σ8 H9 _ I9 q9) fun z s10 ⟨yv, H10, I10, r10, acc, hD10, hz10, nx⟩ => ?_
        exact app_ok (X := blkH X p s3 H3 scope ce fp) I10 hD10 hz10 r10 fun s11 I11 => fin I11 nx
  exact codeAny_compStart_list loop (T.self X.A 0 _ _ _ st4 loop)
theorem pe_lcH {p : Addr × Obj} {elt tg iter : Expr} {ifs : List Expr} {scope : Scope} {own : List (Str × Nat)} {wi : TI} {g : TG} {tt : TT} {te : TE} (hot : L2H.Hot1 X.A p) (hp : p ∈ X.pn) (hN : X.N.Nodup) (hi : L2H.PIH X tg iter wi) (ok : BlkOk X.N X.env.scope scope own)
    (hg : ∀ (s : Shared) (H : Hp) (C : Addr) (cl : List (Str × Addr)) (fp : List Addr), PG (blkH X p s H scope (compEnvC scope cl C X.env) fp) tg g) (ht : ∀ (s : Shared) (H : Hp) (C : Addr) (cl : List (Str × Addr)) (fp : List Addr), PTs (blkH X p s H scope (compEnvC scope cl C X.env) fp) ifs tt)
    (he : ∀ (s : Shared) (H : Hp) (C : Addr) (cl : List (Str × Addr)) (fp : List Addr), PE (blkH X p s H scope (compEnvC scope cl C X.env) fp) elt te) (hs : ∀ x, foldedSetIterable iter X.env x = pure x) :
    PE X (.ListComp elt [⟨tg, iter, ifs, 0⟩] scope pos) (tLc wi g tt te (own.map (·.2))) := by
  refine ⟨fun pins s σ H Q I h => ?_⟩
  rw [eval_ListComp]
  refine lc_coreH hot hp hN I hi ok hg ht he hs h fun D C s' m H' I' q hn f => ⟨m, hn, fun h'' sb => ?_⟩
  obtain ⟨f0, f1, f2, f3, f4, f5⟩ := f
  exact ⟨.ref D, H', I'.turned (t' := s'.toks) (fun b o hb e => (sb.2 b hb).trans e) f0 f1 f3 f4 f5, rfl, q⟩
theorem ps_setLcH {p : Addr × Obj} {i : Nat} {y : Str} {py : Pos} {elt tg iter : Expr} {ifs : List Expr} {scope : Scope} {own : List (Str × Nat)} {spos : Pos} {wi : TI} {g : TG} {tt : TT} {te : TE} (hot : L2H.Hot1 X.A p) (hp : p ∈ X.pn) (hN : X.N.Nodup) (hy : X.N[i]? = some y) (hyl : X.env.scope.names.lookup y = some .local)
    (hsw : swapsWith (.ListComp elt [⟨tg, iter, ifs, 0⟩] scope pos) (some (.Name y py)) spos.line X.env = pure true) (hi : L2H.PIH X tg iter wi) (ok : BlkOk X.N X.env.scope scope own)
    (hg : ∀ (s : Shared) (H : Hp) (C : Addr) (cl : List (Str × Addr)) (fp : List Addr), PG (blkH X p s H scope (compEnvC scope cl C X.env) fp) tg g) (ht : ∀ (s : Shared) (H : Hp) (C : Addr) (cl : List (Str × Addr)) (fp : List Addr), PTs (blkH X p s H scope (compEnvC scope cl C X.env) fp) ifs tt)
    (he : ∀ (s : Shared) (H : Hp) (C : Addr) (cl : List (Str × Addr)) (fp : List Addr), PE (blkH X p s H scope (compEnvC scope cl C X.env) fp) elt te) (hs : ∀ x, foldedSetIterable iter X.env x = pure x) :
    PS X (.Assign [.Name y py] (.ListComp elt [⟨tg, iter, ifs, 0⟩] scope pos) spos) (tAsg (tLc wi g tt te (own.map (·.2))) (gName i)) := by
  refine ⟨fun pins s σ H D I h => ?_⟩
  rw [exec_Assign_Name_used _ _ _ _ hsw]
  refine wpAny_bind (wpAny_standAt (wpAny_bind ?_))
  show wpAny _ X.A (do let _ ← comprehension (.ListComp elt [⟨tg, iter, ifs, 0⟩] scope pos) scope X.env (firstIterPos [⟨tg, iter, ifs, 0⟩] pos) (newList []) false (eval iter X.env) (some (assign (.Name y py) X.env))) _ _ s
  have h : tLc wi g tt te (own.map (·.2)) σ H (fun x H1 => gName i x σ H1 D.nx) := h
  refine wpAny_bind (thn (lc_coreH (Qf := fun _ s' => SP X pins D .next s') hot hp hN I hi ok hg ht he hs h fun L C s' m H' I' q hn f => ?_) fun _ s' hq => wpAny_pure (wpAny_pure hq))
  show wpAny _ _ (assign (.Name y py) X.env (.ref L)) _ _ _
  refine wpAny_assign_Name (store_ok2 (v := V.ref L) I' hN hy (.inl hyl) rfl (fun s2 I2 ⟨a, sb, ha⟩ => ?_) (.inr hyl))
  obtain ⟨f0, f1, f2, f3, f4, f5⟩ := f
  have haC : C ≠ a := by
    rcases ha with z | z
    · rw [z]; exact f1
    · exact fun e => f4 y a z e.symm
  refine ⟨m, hn.sameBut sb haC, fun h3 sb3 => ?_⟩
  exact ⟨_, H', I2.turned (t' := s2.toks) (fun b o hb e => (sb3.2 b hb).trans e) f0 f1 f3 f4 f5, q⟩
end
section
variable [TB] {X : Cx} {W : WX} {a b : Expr} {fa ff : Ro → Store → R D} {pos : Pos} {is : List Nat}
theorem i_ziplH {p tpos : Pos} {elts : List Expr} {kk : Nat} (hg : Gl X "zip") (hm : X.mg "zip" = none) (ha : PE X a (tE X.K W fa)) (hb : PE X b (tE X.K W ff)) (hs : starEach [a, b] X.env = (false, eval a X.env) :: starEach [b] X.env) (hs2 : starEach [b] X.env = (false, eval b X.env) :: starEach [] X.env) :
    L2H.PIH X (.Tuple elts kk tpos) (.Call (.Name "zip" p) [a, b] [] pos) (tI X.K W (.many is) fun ρ S => (fa ρ S).bd fun x S1 => (ff ρ S1).bd fun y S2 => zipL S2 x y) := by
  have P := pi_zipH (p := p) (pos := pos) (tpos := tpos) (elts := elts) (kk := kk) hg hm (pa_cons ha (pa_cons hb pa_nil hs2) hs) hs (by rw [hs2]; rfl)
  refine ⟨fun pins s σ H R I h => P.run pins s σ H R I ?_⟩
  obtain ⟨fb, m, S, ρ, r, l, h⟩ := h
  exact ⟨fb, m, S, ρ, r, l, h.bd.imp fun x H1 ⟨m1, S1, d, e1, r1, p1, h1⟩ => ⟨fb, m1, S1, ρ, r1, l.mono e1, h1.bd.imp fun y H2 ⟨m2, S2, d2, e2, r2, p2, h2⟩ => by
      unfold zipL at h2
      by_cases ht : isTup d = false ∧ isTup d2 = false
      · rw [if_pos ht] at h2
        cases q1 : seqIt S2 d with
        | none => rw [q1] at h2; exact h2.elim
        | some t =>
          cases q2 : seqIt S2 d2 with
          | none => rw [q1, q2] at h2; exact h2.elim
          | some u =>
            rw [q1, q2] at h2
            have p1' := p1.mono e2
            obtain ⟨pa, rfl, ha⟩ := seqIt_at p1' q1
            obtain ⟨pb, rfl, hb⟩ := seqIt_at p2 q2
            rcases ha with ⟨za, ha⟩ | ⟨za, ha⟩
            · rw [ht.1] at za; cases za
            rcases hb with ⟨zb, hb⟩ | ⟨zb, hb⟩
            · rw [ht.2] at zb; cases zb
            obtain ⟨vs0, h0, _⟩ := ha fb m2 S2 H2 (fun a h => .inl h) (Ext.refl _ _) r2 (seqIt_still q1)
            obtain ⟨us0, h0', _⟩ := hb fb m2 S2 H2 (fun a h => .inl h) (Ext.refl _ _) r2 (seqIt_still q2)
            refine ⟨pa, pb, vs0, us0, rfl, h0, h0', h2 m2 H2 _ (Ext.refl _ _) r2 fun fb' m3 S3 H3 g e3 r3 st => ?_⟩
            obtain ⟨st1, st2⟩ := still_app st
            obtain ⟨vs, w1, rr1⟩ := ha fb' m3 S3 H3 g e3 r3 st1
            obtain ⟨us, w2, rr2⟩ := hb fb' m3 S3 H3 g e3 r3 st2
            refine ⟨fun i d hd => ?_, fun i hi0 => ⟨vs, us, w1, w2, ?_⟩⟩
            · obtain ⟨dx, dy, hx, hy, rfl⟩ := zip_get hd
              obtain ⟨vx, g1, g2⟩ := rr1.get hx
              obtain ⟨vy, g3, g4⟩ := rr2.get hy
              refine ⟨⟨vs, us, vx, vy, w1, w2, g1, g3⟩, fun x H' ⟨T, x1, y1, hx1, hT, hH, k1, k2⟩ => ?_⟩
              have e5 := k1 vs w1
              have e6 := k2 us w2
              rw [g1] at e5; cases e5
              rw [g3] at e6; cases e6
              subst hH; subst hx1
              exact pair_new r3 g2 g4 hT
            · have hi := Nat.le_of_eq hi0.symm
              simp only [List.length_map, List.length_zip] at hi
              rw [← rr1.length, ← rr2.length]
              omega
      · rw [if_neg ht] at h2; exact h2.elim⟩⟩
theorem l_compH {p : Addr × Obj} {elt tge iter : Expr} {ifs : List Expr} {scope : Scope} {own : List (Str × Nat)} {fi : Ro → Store → R It} {tg : Tg} {fc : Ro → Store → R Bool} {fe : Ro → Store → R D} (hot : L2H.Hot1 X.A p) (hp : p ∈ X.pn) (hN : X.N.Nodup) (hi : L2H.PIH X tge iter (tI X.K W tg fi)) (ok : BlkOk X.N X.env.scope scope own) (htg : ∀ i ∈ tgIdx tg, i ∈ own.map (·.2))
    (hg : ∀ (s : Shared) (H : Hp) (C : Addr) (cl : List (Str × Addr)) (fp : List Addr), PG (blkH X p s H scope (compEnvC scope cl C X.env) fp) tge (gT X.K tg)) (ht : ∀ (s : Shared) (H : Hp) (C : Addr) (cl : List (Str × Addr)) (fp : List Addr), PTs (blkH X p s H scope (compEnvC scope cl C X.env) fp) ifs (tT X.K W0 fc))
    (he : ∀ (s : Shared) (H : Hp) (C : Addr) (cl : List (Str × Addr)) (fp : List Addr), PE (blkH X p s H scope (compEnvC scope cl C X.env) fp) elt (tE X.K W0 fe)) (hs : ∀ x, foldedSetIterable iter X.env x = pure x) :
    PE X (.ListComp elt [⟨tge, iter, ifs, 0⟩] scope pos) (tL X.K W fun ρ S => (fi ρ S).bd fun t S1 => compLoop t tg (fun ρ S => (fc ρ S).ne) (fun ρ S => (fe ρ S).ne) (PyD.wipe ρ (own.map (·.2))) t.items [] S1) :=
  (pe_lcH hot hp hN hi ok hg ht he hs).imp fun σ H Q h => lc_imp htg h
theorem PSsetLcH {p : Addr × Obj} {elt tge iter : Expr} {ifs : List Expr} {scope : Scope} {own : List (Str × Nat)} {fi : Ro → Store → R It} {tg : Tg} {fc : Ro → Store → R Bool} {fe : Ro → Store → R D} {i : Nat} {y : Str} {py spos : Pos} (hot : L2H.Hot1 X.A p) (hp : p ∈ X.pn) (hN : X.N.Nodup) (hy : X.N[i]? = some y) (hyl : X.env.scope.names.lookup y = some .local)
    (hsw : swapsWith (.ListComp elt [⟨tge, iter, ifs, 0⟩] scope pos) (some (.Name y py)) spos.line X.env = pure true) (hi : L2H.PIH X tge iter (tI X.K W tg fi)) (ok : BlkOk X.N X.env.scope scope own) (htg : ∀ i ∈ tgIdx tg, i ∈ own.map (·.2))
    (hg : ∀ (s : Shared) (H : Hp) (C : Addr) (cl : List (Str × Addr)) (fp : List Addr), PG (blkH X p s H scope (compEnvC scope cl C X.env) fp) tge (gT X.K tg)) (ht : ∀ (s : Shared) (H : Hp) (C : Addr) (cl : List (Str × Addr)) (fp : List Addr), PTs (blkH X p s H scope (compEnvC scope cl C X.env) fp) ifs (tT X.K W0 fc))
    (he : ∀ (s : Shared) (H : Hp) (C : Addr) (cl : List (Str × Addr)) (fp : List Addr), PE (blkH X p s H scope (compEnvC scope cl C X.env) fp) elt (tE X.K W0 fe)) (hs : ∀ x, foldedSetIterable iter X.env x = pure x) :
    PS X (.Assign [.Name y py] (.ListComp elt [⟨tge, iter, ifs, 0⟩] scope pos) spos) (tAsg (tL X.K W fun ρ S => (fi ρ S).bd fun t S1 => compLoop t tg (fun ρ S => (fc ρ S).ne) (fun ρ S => (fe ρ S).ne) (PyD.wipe ρ (own.map (·.2))) t.items [] S1) (gName i)) :=
  (ps_setLcH hot hp hN hy hyl hsw hi ok hg ht he hs).imp fun D σ H h => lc_imp htg h
theorem g_manyH {es : List Expr} {k : Nat} (hc : L2H.HotC X) (h : PGs X es (gTs X.K is)) (hn : (assignEach es X.env).length = is.length) (hst : (assignEach es X.env).findIdx? (·.1) = none) : PG X (.Tuple es k pos) (gT X.K (.many is)) := by
  have p := pg_tupH (k := k) (pos := pos) hc h hn hst
  refine ⟨fun pins s σ H v u Q I r ⟨fb, m, S, ρ, d, ρ1, r0, l, rd, e, q⟩ => p.run pins s σ H v u Q I r ?_⟩
  cases d with
  | tup xs =>
    obtain ⟨e1, e2⟩ := need_some e
    cases e2
    obtain ⟨a, vs, rfl, hT, rr⟩ : ∃ p vs, v = .ref p ∧ SqT X.K H p vs ∧ Reps X.K fb m H xs vs := rd.elim (fun z => z.tuple) fun ⟨_, ds, p, vs, z1, z2, z3, z4⟩ => by cases z1; exact ⟨p, vs, z2, z3, z4⟩
    exact ⟨a, vs, rfl, hT, by rw [← rr.length]; exact e1, fb, m, S, ρ, xs, r0, l, rr, e1, q⟩
  | _ => cases e
theorem call_isH {D : Addr} {p : Addr × Obj} (C : ExcC X.K D) (hp : p ∈ X.pn) (hz : Zc (.ref D) none p.2) (hf : ∃ vs, p.2.data = .fields vs) : CallR X (.builtin "isinstance") (rIsE X.K D p.1) := by
  intro pins s σ H xs us Q I r h
  obtain ⟨c, cv, b, rfl, hcv, e, q⟩ := h
  cases r with
  | cons rx rr =>
    cases rr with
    | cons rt rr =>
      cases rr
      cases rx
      have ec := hcv _ rt
      subst ec
      obtain ⟨hget, _⟩ := I.pin p (List.mem_append_left _ hp)
      obtain ⟨vs, hv⟩ := hf
      have J : PySem.W.InstAt s.heap p.1 p.2 D none := by
        obtain ⟨a, ⟨oc, od, oda, osl⟩⟩ := p
        obtain ⟨h1, h2⟩ := hz
        dsimp only at h1 h2 hv
        subst h1 h2 hv
        exact ⟨hget, rfl, rfl, trivial⟩
      exact PySem.W.kia_one (PySem.W.handS_kitx_exc C.hg C.hk C.hs C.hd C.ha C.hn C.ht C.hm) I.kIn J e (fun z => nomatch z) fun tk => ⟨.bl b, H, I.kept (t' := tk) fun _ _ z => z, rfl, q⟩
end
end PyD

namespace PyD
open PySem PySem.Spec PyProof.Rows L2
variable [TB]
def IsxOk (X : Cx) (n : Str) : Prop := ∃ (p : Addr × Obj) (D : Addr) (c : Str) (v : V) (cv : Value), TB.hot = some (p.1, c) ∧ p ∈ X.pn ∧ ExcC X.K D ∧ Zc (.ref D) none p.2 ∧ (∃ vs, p.2.data = .fields vs) ∧
  (∀ u, RelV v u → u = cv) ∧ PySem.W.kitOne X.K (.ref D) cv = some (subX c n) ∧ ∀ (q : Pos), Gl X n → PE X (.Name n q) (tC v)
section
variable {X : Cx} {W : WX} {a : Expr} {fa : Ro → Store → R D} {p q pos : Pos}
theorem s_isx {n : Str} (T : IsxOk X n) (hg : Gl X "isinstance") (hm : X.mg "isinstance" = none) (hgT : Gl X n) (ha : PE X a (tE X.K W fa)) (hs : ∀ es, starEach (a :: es) X.env = (false, eval a X.env) :: starEach es X.env) :
    PE X (.Call (.Name "isinstance" p) [a, .Name n q] [] pos) (tE X.K W fun ρ S => (fa ρ S).bd fun x S1 => opt ((isxD n x).map .bl) S1) := by
  obtain ⟨p0, D, c, v, cv, h0, hp, C, hz, hf, hv, hk, hn⟩ := T
  have pa : PA X [a, .Name n q] (tCons (tE X.K W fa) (tCons (tC v) tNil)) := pa_cons ha (pa_cons (hn q hgT) pa_nil rfl) (hs _)
  refine (pe_callB (call_isH C hp hz hf) hg hm PyProof.Rows.boot_isinstance pa (by decide) (by decide) (hs _) rfl).imp ?_
  intro σ H Q ⟨fb, m, S, ρ, r, l, h⟩
  refine ⟨fb, m, S, ρ, r, l, h.bd.imp fun x H1 ⟨m1, S1, d, e1, r1, p1, h1⟩ => ?_⟩
  obtain ⟨w, hw, hh⟩ := h1.opt
  obtain ⟨b, hb, rfl⟩ := Option.map_eq_some_iff.mp hw
  cases p1 with
  | hot z =>
    rw [h0] at z
    cases z
    obtain rfl : subX _ n = b := Option.some.inj hb
    exact ⟨v, cv, _, rfl, hv, hk, hh.now r1 (.bl _)⟩
  | _ => cases hb
end
end PyD

namespace PyD
open PySem PySem.Spec PyProof.Rows L2
variable [TB]
structure Ck where
  N : List Str
  names : List (Str × NameKind)
  sig : Str → Option Sig
  gl : Str → Bool
  xr : Str → Bool
  calm : Bool
  tr : Bool
  xi : Str → Bool
def nodbg (x : Str) : Bool := !(x == ("__debug__" : Str)) && !(x == ("__classdict__" : Str))
def visB (names : List (Str × NameKind)) (x : Str) : Bool := match names.lookup x with
  | some .local => true
  | some .cell => true
  | some .free => true
  | _ => false
def locB (names : List (Str × NameKind)) (x : Str) : Bool := match names.lookup x with
  | some .local => true
  | some .cell => true
  | _ => false
def lclB (names : List (Str × NameKind)) (x : Str) : Bool := match names.lookup x with
  | some .local => true
  | _ => false
def gloB (names : List (Str × NameKind)) (x : Str) : Bool := match names.lookup x with
  | some .globalImplicit => true
  | _ => false
def opB' : Bo → Operator → Bool
  | .add, .Add => true | .sub, .Sub => true | .mul, .Mult => true | .fdiv, .FloorDiv => true | .mod, .Mod => true | .pow, .Pow => true | _, _ => false
theorem opB'_eq {o : Bo} {p : Operator} (h : opB' o p = true) : p = opB o := by cases o <;> cases p <;> first | rfl | cases h
def opC' : Co → CmpOp → Bool
  | .lt, .Lt => true | .le, .LtE => true | .gt, .Gt => true | .ge, .GtE => true | .eq, .Eq => true | .ne, .NotEq => true | _, _ => false
theorem opC'_eq {o : Co} {p : CmpOp} (h : opC' o p = true) : p = opC o := by cases o <;> cases p <;> first | rfl | cases h
def opN' : Bool → CmpOp → Bool
  | false, .In => true | true, .NotIn => true | _, _ => false
theorem opN'_eq {b : Bool} {p : CmpOp} (h : opN' b p = true) : p = opN b := by cases b <;> cases p <;> first | rfl | cases h
def nsB : Expr → Bool
  | .Starred .. => false
  | _ => true
def noSl : Expr → Bool
  | .Slice .. => false
  | _ => true
def noSet : Expr → Bool
  | .Set .. => false
  | _ => true
def shortB : List Expr → Bool
  | [_] => true
  | [_, _] => true
  | _ => false
def baseB : Expr → Bool
  | .Call .. => false
  | _ => true
def nodupN : List Nat → Bool
  | [] => true
  | x :: r => !r.contains x && nodupN r
mutual
def D.same : D → D → Bool
  | .non, .non => true
  | .bl a, .bl b => a == b
  | .int a, .int b => a == b
  | .str a, .str b => a == b
  | .tup a, .tup b => D.sames a b
  | _, _ => false
def D.sames : List D → List D → Bool
  | [], [] => true
  | x :: xs, y :: ys => D.same x y && D.sames xs ys
  | _, _ => false
end
mutual
theorem same_eq : ∀ {a b : D}, D.same a b = true → a = b
  | .non, .non, _ => rfl
  | .bl a, .bl b, h => by rw [eq_of_beq (show (a == b) = true from h)]
  | .int a, .int b, h => by rw [eq_of_beq (show (a == b) = true from h)]
  | .str a, .str b, h => by rw [eq_of_beq (show (a == b) = true from h)]
  | .tup a, .tup b, h => by rw [sames_eq (show D.sames a b = true from h)]
theorem sames_eq : ∀ {a b : List D}, D.sames a b = true → a = b
  | [], [], _ => rfl
  | x :: xs, y :: ys, h => by
    have h' : D.same x y = true ∧ D.sames xs ys = true := by simpa [D.sames] using h
    rw [same_eq h'.1, sames_eq h'.2]
end
def arSame : List Ar → List Ar → Bool
  | [], [] => true
  | .p i :: r, .p j :: q => i == j && arSame r q
  | .k i :: r, .k j :: q => i == j && arSame r q
  | .d a :: r, .d b :: q => D.same a b && arSame r q
  | _, _ => false
theorem arSame_eq : ∀ {a b : List Ar}, arSame a b = true → a = b
  | [], [], _ => rfl
  | .p i :: r, .p j :: q, h => by
    have h' : (i == j) = true ∧ arSame r q = true := by simpa [arSame] using h
    rw [eq_of_beq h'.1, arSame_eq h'.2]
  | .k i :: r, .k j :: q, h => by
    have h' : (i == j) = true ∧ arSame r q = true := by simpa [arSame] using h
    rw [eq_of_beq h'.1, arSame_eq h'.2]
  | .d a :: r, .d b :: q, h => by
    have h' : D.same a b = true ∧ arSame r q = true := by simpa [arSame] using h
    rw [same_eq h'.1, arSame_eq h'.2]
def kwNames : List Keyword → List (Option Str)
  | [] => []
  | ⟨n, _, _⟩ :: r => n :: kwNames r
def Es.len : Es → Nat
  | .nil => 0
  | .cons _ r => r.len + 1
def shapeB (sg : Sig) (n : Nat) (ks : List Str) (arr : List Ar) : Bool := sg.shapes.any fun sh => sh.1 == n && decide (sh.2.1 = ks) && arSame sh.2.2 arr
def chkTg (k : Ck) (tg : Tg) (x : Expr) : Bool := match tg, x with
  | .one i, .Name n _ => decide (k.N[i]? = some n) && locB k.names n
  | .many is, .Tuple es _ _ => chkTgs is es
  | _, _ => false
where chkTgs : List Nat → List Expr → Bool
  | [], [] => true
  | i :: is, .Name n _ :: es => decide (k.N[i]? = some n) && locB k.names n && chkTgs is es
  | _, _ => false
def isTupE : Expr → Bool
  | .Tuple .. => true
  | _ => false
def isaB (k : Ck) (t : Ty) (z : Expr) : Bool := match t, z with
  | .seq, .Tuple [.Name a _, .Name b _] _ _ => decide (a = "list") && decide (b = "tuple") && gloB k.names a && gloB k.names b
  | .seq, _ => false
  | t, .Name n _ => decide (n = tyN t) && gloB k.names n
  | _, _ => false
mutual
def chkE (k : Ck) (e : E) (x : Expr) : Bool := match e with
  | .var i => match x with
    | .Name n _ => decide (k.N[i]? = some n) && visB k.names n && nodbg n
    | _ => false
  | .non => match x with
    | .Constant .none _ _ => true
    | _ => false
  | .bl b => match x with
    | .Constant (.bool c) _ _ => b == c
    | _ => false
  | .int i => match x with
    | .Constant (.int j) _ _ => i == j
    | _ => false
  | .str s => match x with
    | .Constant (.str t) _ _ => s == t
    | _ => false
  | .glob y => match x with
    | .Name n _ => y == n && gloB k.names n && nodbg n && k.gl n
    | _ => false
  | .bin o a b => match x with
    | .BinOp l p r _ => opB' o p && chkE k a l && chkE k b r
    | _ => false
  | .neg a => match x with
    | .UnaryOp .USub y _ => chkE k a y
    | _ => false
  | .cmp o a b => match x with
    | .Compare l [p] [r] _ => opC' o p && chkE k a l && chkE k b r
    | _ => false
  | .isn a => match x with
    | .Compare l [.Is] [.Constant .none _ _] _ => chkE k a l
    | _ => false
  | .ntn a => match x with
    | .Compare l [.IsNot] [.Constant .none _ _] _ => chkE k a l
    | _ => false
  | .chain o p a b c => match x with
    | .Compare l [q, s] [r, t] _ => opC' o q && opC' p s && chkE k a l && chkE k b r && chkE k c t
    | _ => false
  | .and es => match x with
    | .BoolOp .And vs _ => chkEs k es vs
    | _ => false
  | .or es => match x with
    | .BoolOp .Or vs _ => chkEs k es vs
    | _ => false
  | .not a => match x with
    | .UnaryOp .Not y _ => chkE k a y
    | _ => false
  | .ite c a b => match x with
    | .IfExp t y z _ => chkE k c t && c.tok && chkE k a y && chkE k b z
    | _ => false
  | .tup es => match x with
    | .Tuple vs _ _ => chkEs k es vs
    | _ => false
  | .new _ l => chkL k l x
  | .sl a lo hi => match x with
    | .Subscript v (.Slice l h none _) _ => chkE k a v && (match l with
      | none => lo.isNon
      | some y => !lo.isNon && chkE k lo y) && (match h with
      | none => hi.isNon
      | some y => !hi.isNon && chkE k hi y)
    | _ => false
  | .idx a i => match x with
    | .Subscript v s _ => chkE k a v && chkE k i s && noSl s
    | _ => false
  | .inn neg a b => match x with
    | .Compare l [p] [r] _ => opN' neg p && chkE k a l && chkE k b r && noSet r
    | _ => false
  | .call _ f es => match x with
    | .Call (.Name n _) args [] _ => f == n && gloB k.names n && nodbg n && (match k.sig n with
      | some sg => sg.plain
      | none => false) && chkEs k es args
    | _ => false
  | .callk _ f es ks kes arr => match x with
    | .Call (.Name n _) args kws _ => f == n && gloB k.names n && nodbg n && (match k.sig n with
      | some sg => shapeB sg es.len ks arr
      | none => false) && chkEs k es args && chkKs k kes kws && decide (kwNames kws = ks.map some)
    | _ => false
  | .bi b e => match x with
    | .Call (.Name n _) [y] [] _ => (biQ b || k.calm) && decide (n = biName b) && gloB k.names n && chkE k e y && nsB y
    | _ => false
  | .isa t e => match x with
    | .Call (.Name n _) [y, z] [] _ => decide (n = "isinstance") && gloB k.names n && chkE k e y && nsB y && isaB k t z
    | _ => false
  | .trng es => match x with
    | .Call (.Name n _) [.Call (.Name q _) args [] _] [] _ => k.calm && decide (n = "tuple") && decide (q = "range") && gloB k.names n && gloB k.names q && chkEs k es args && shortB args
    | _ => false
  | .me m o es => match x with
    | .Call (.Attribute v mn ap) args [] cp => decide (mn = meN m) && chkE k o v && chkEs k es args && baseB v && (ap.endLine == cp.line) && decide (args.length < 20)
    | _ => false
  | .isx n a => match x with
    | .Call (.Name i _) [y, .Name n2 _] [] _ => !k.calm && k.xi n && decide (i = "isinstance") && decide (n2 = n) && gloB k.names i && gloB k.names n && chkE k a y && nsB y
    | _ => false
  | .exf _ _ => false
  | .tried e => match x with
    | .Call (.Name n _) [.Lambda ⟨[], [], none, [], [], none, []⟩ b sc _] [] _ => k.calm && k.tr && decide (n = "_law_tried") && gloB k.names n && LamX.lamSB ⟨.function, k.names, false, false, []⟩ sc && chkE { k with names := sc.names, tr := false, xi := fun _ => false } e b
    | _ => false
def chkEs (k : Ck) (es : Es) (xs : List Expr) : Bool := match es with
  | .nil => match xs with
    | [] => true
    | _ => false
  | .cons e es => match xs with
    | x :: xs => chkE k e x && nsB x && chkEs k es xs
    | _ => false
def chkKs (k : Ck) (es : Es) (xs : List Keyword) : Bool := match es with
  | .nil => match xs with
    | [] => true
    | _ => false
  | .cons e es => match xs with
    | ⟨_, x, _⟩ :: xs => chkE k e x && chkKs k es xs
    | _ => false
def chkL (k : Ck) (l : L) (x : Expr) : Bool := match l with
  | .disp es => match x with
    | .List vs _ => chkEs k es vs
    | _ => false
  | .cat a b => match x with
    | .BinOp l .Add r _ => chkE k a l && chkE k b r
    | _ => false
  | .comp own tg it cond elt => match x with
    | .ListComp y [⟨t, iter, ifs, 0⟩] sc _ => (if k.calm = true then chkI k it t iter else chkZ k it t iter) && noSet iter && blkC k.N ⟨.function, k.names, false, false, []⟩ sc own && (tgIdx tg).all (fun i => (own.map (·.2)).contains i) &&
      chkTg { k with names := sc.names, tr := false, xi := fun _ => false } tg t && (match cond, ifs with
      | .nil, [] => true
      | .cons c .nil, [z] => chkE { k with names := sc.names, tr := false, xi := fun _ => false } c z && c.tok
      | _, _ => false) && chkE { k with names := sc.names, tr := false, xi := fun _ => false } elt y
    | _ => false
  | .list e => match x with
    | .Call (.Name n _) [y] [] _ => decide (n = "list") && gloB k.names n && chkE k e y && nsB y
    | _ => false
  | .rng es => match x with
    | .Call (.Name n _) [.Call (.Name q _) args [] _] [] _ => k.calm && decide (n = "list") && decide (q = "range") && gloB k.names n && gloB k.names q && chkEs k es args && shortB args
    | _ => false
  | .sorted e => match x with
    | .Call (.Name n _) [y] [] _ => k.calm && decide (n = "sorted") && gloB k.names n && chkE k e y && nsB y
    | _ => false
def chkI (k : Ck) (it : I) (t : Expr) (x : Expr) : Bool := match it with
  | .seq e => chkE k e x
  | .rng es => match x with
    | .Call (.Name n _) args [] _ => decide (n = "range") && gloB k.names n && chkEs k es args && shortB args
    | _ => false
  | .enum a => match x with
    | .Call (.Name n _) [y] [] _ => decide (n = "enumerate") && gloB k.names n && chkE k a y && nsB y && isTupE t
    | _ => false
  | .zip a b => match x with
    | .Call (.Name n _) [y, z] [] _ => decide (n = "zip") && gloB k.names n && chkE k a y && nsB y && chkE k b z && nsB z && isTupE t
    | _ => false
  | .zipl _ _ => false
def chkZ (k : Ck) (it : I) (t : Expr) (x : Expr) : Bool := match it with
  | .zipl a b => match x with
    | .Call (.Name n _) [y, z] [] _ => decide (n = "zip") && gloB k.names n && chkE k a y && nsB y && chkE k b z && nsB z && isTupE t
    | _ => false
  | _ => false
def E.tok (e : E) : Bool := match e with
  | .not a => a.tok
  | .and es => es.tok
  | .or es => es.tok
  | .cmp _ _ _ => true
  | .isn _ => true
  | .ntn _ => true
  | .chain _ _ _ _ _ => true
  | .var _ => true
  | .call _ _ _ => true
  | .callk _ _ _ _ _ _ => true
  | .inn _ _ _ => true
  | .bi _ _ => true
  | .isa _ _ => true
  | .idx _ _ => true
  | .bl _ => true
  | _ => false
def Es.tok (es : Es) : Bool := match es with
  | .nil => true
  | .cons e es => e.tok && es.tok
end
end PyD

namespace PyD
open PySem PySem.Spec PyProof.Rows L2
variable [TB]
def bNames : List Str := ["len", "abs", "tuple", "all", "any", "list", "range", "sorted", "zip", "enumerate", "isinstance", "bool", "int", "str"]
def XcOk (X : Cx) (c : Str) : Prop := ∃ (C : Addr) (B newId initId : String) (bm : List Value), PySem.ExcBaseFacts B newId initId bm ∧ PySem.W.excIn X.K C bm newId = true ∧ X.mg c = some (.ref C) ∧ PySem.W.keepIn X.K (.ref C) = true ∧ Raises X (.ref C) ∧ clsV X.K c (.ref C)
structure Sta (X : Cx) (W : WX) (g : G) (k : Ck) : Prop where
  tk : L2N.Takes X W
  N : X.N = k.N
  nm : ∀ x kd, k.names.lookup x = some kd → X.env.scope.names.lookup x = some kd ∨ (kd = .free ∧ X.env.scope.names.lookup x = some .cell)
  nd : X.N.Nodup
  calm : k.calm = true → X.calm = true
  hot : k.calm = false → L2H.HotC X
  isx : k.calm = false → ∀ n, k.xi n = true → IsxOk X n
  un : X.A.units + 64 < cLine
  un2 : X.A.units + 65 < cLine
  fn : ∀ x, k.names.lookup x = some .cell → X.fn x = true
  bn : ∀ x ∈ bNames, X.mg x = none
  gc : ∀ x d, k.gl x = true → g.glob x = some d → ∃ v u, X.mg x = some u ∧ RelV v u ∧ ∀ fb m H, Rep X.K fb m H d v
  cl : ∀ f sg, k.sig f = some sg → CallOk X g f sg
  xc : ∀ c, k.xr c = true → XcOk X c
  tr : k.tr = true → ∃ r, 2 ≤ r ∧ Room (r + 2) X.A ∧ TrK X.prog X.w X.K X.mg X.base (kbG g) ∧ TabX X ∧ ∀ f sg, k.sig f = some sg → CallAt X g f sg r
theorem relS_any {sc : Scope} : ∀ {names : List (Str × NameKind)} {x : Str}, names.lookup x = some .free →
    (names.map fun (n, k) => if (k == NameKind.free && sc.kind == .function && sc.names.lookup n == some .cell) then (n, NameKind.cell) else (n, k)).lookup x = some .free ∨
    (names.map fun (n, k) => if (k == NameKind.free && sc.kind == .function && sc.names.lookup n == some .cell) then (n, NameKind.cell) else (n, k)).lookup x = some .cell
  | [], _, h => by simp at h
  | (n, k₀) :: r, x, h => by
    have ih := @relS_any sc r x
    show List.lookup x ((if (k₀ == NameKind.free && sc.kind == .function && sc.names.lookup n == some .cell) = true then (n, NameKind.cell) else (n, k₀)) :: (r.map _)) = some .free ∨ List.lookup x ((if (k₀ == NameKind.free && sc.kind == .function && sc.names.lookup n == some .cell) = true then (n, NameKind.cell) else (n, k₀)) :: (r.map _)) = some .cell
    cases hx : x == n with
    | true =>
      simp only [List.lookup_cons, hx] at h
      cases h
      by_cases hc : (NameKind.free == NameKind.free && sc.kind == .function && sc.names.lookup n == some .cell) = true
      · rw [if_pos hc]; right; simp only [List.lookup_cons, hx]
      · rw [if_neg hc]; left; simp only [List.lookup_cons, hx]
    | false =>
      simp only [List.lookup_cons, hx] at h
      by_cases hc : (k₀ == NameKind.free && sc.kind == .function && sc.names.lookup n == some .cell) = true
      · rw [if_pos hc]; simp only [List.lookup_cons, hx]; exact ih h
      · rw [if_neg hc]; simp only [List.lookup_cons, hx]; exact ih h
section
variable {X : Cx} {W : WX} {g : G} {k : Ck}
theorem takes_W0 {X : Cx} : L2N.Takes X W0 := fun _ _ ⟨_, _, _, _, _, _, _, _, _, _, _, _, _, _, _, _, w⟩ => w.elim
theorem Sta.blk (st : Sta X W g k) (hk : k.calm = true) (s : Shared) (H : Hp) (scope : Scope) (C : Addr) (cl : List (Str × Addr)) (fp : List Addr) : Sta (X.blk s H scope (compEnvC scope cl C X.env) fp) W0 g { k with names := scope.names, tr := false, xi := fun _ => false } where
  tk := takes_W0
  N := st.N
  nm := fun x kd h => by
    by_cases hf : kd = .free
    · subst hf
      exact (relS_any (sc := X.env.scope) h).imp id fun z => ⟨rfl, z⟩
    · exact .inl (lookup_relS_keep (sc := X.env.scope) hf h)
  nd := st.nd
  calm := st.calm
  hot := fun h => by rw [show k.calm = false from h] at hk; cases hk
  un := st.un
  un2 := st.un2
  fn := fun x h => by
    show (scope.names.lookup x == some .cell) = true
    rw [show scope.names.lookup x = some .cell from h]
    rfl
  bn := st.bn
  gc := st.gc
  cl := st.cl
  xc := st.xc
  tr := fun h => nomatch h
  isx := fun _ n h => nomatch (show false = true from h)
theorem Sta.blkH (st : Sta X W g k) (hk : k.calm = false) {p : Addr × Obj} (hot : L2H.Hot1 X.A p) (s : Shared) (H : Hp) (scope : Scope) (C : Addr) (cl : List (Str × Addr)) (fp : List Addr) : Sta (blkH X p s H scope (compEnvC scope cl C X.env) fp) W0 g { k with names := scope.names, tr := false, xi := fun _ => false } where
  tk := takes_W0
  N := st.N
  nm := fun x kd h => by
    by_cases hf : kd = .free
    · subst hf
      exact (relS_any (sc := X.env.scope) h).imp id fun z => ⟨rfl, z⟩
    · exact .inl (lookup_relS_keep (sc := X.env.scope) hf h)
  nd := st.nd
  calm := fun h => by rw [show k.calm = true from h] at hk; cases hk
  hot := fun _ => ⟨p, hot, List.mem_singleton_self p⟩
  un := st.un
  un2 := st.un2
  fn := fun x h => by
    show (scope.names.lookup x == some .cell) = true
    rw [show scope.names.lookup x = some .cell from h]
    rfl
  bn := st.bn
  gc := st.gc
  cl := st.cl
  xc := st.xc
  tr := fun h => nomatch h
  isx := fun _ n h => nomatch (show false = true from h)
theorem nodbg_1 {n : Str} (h : nodbg n = true) : (n == ("__debug__" : Str)) = false := by
  unfold nodbg at h
  simp only [Bool.and_eq_true, Bool.not_eq_true'] at h
  exact h.1
theorem nodbg_2 {n : Str} (h : nodbg n = true) : (n == ("__classdict__" : Str)) = false := by
  unfold nodbg at h
  simp only [Bool.and_eq_true, Bool.not_eq_true'] at h
  exact h.2
theorem Sta.vis (st : Sta X W g k) {n : Str} (h : visB k.names n = true) : Vis X.env.scope n := by
  unfold visB at h
  unfold Vis
  split at h
  · rename_i e
    rcases st.nm _ _ e with z | ⟨z, _⟩
    · exact .inl z
    · cases z
  · rename_i e
    rcases st.nm _ _ e with z | ⟨z, _⟩
    · exact .inr (.inl z)
    · cases z
  · rename_i e
    rcases st.nm _ _ e with z | ⟨_, z⟩
    · exact .inr (.inr z)
    · exact .inr (.inl z)
  · cases h
theorem Sta.loc (st : Sta X W g k) {n : Str} (h : locB k.names n = true) : L2.Loc X.env.scope n ∧ (X.fn n = true ∨ X.env.scope.names.lookup n = some .local) := by
  unfold locB at h
  unfold L2.Loc
  split at h
  · rename_i e
    rcases st.nm _ _ e with z | ⟨z, _⟩
    · exact ⟨.inl z, .inr z⟩
    · cases z
  · rename_i e
    rcases st.nm _ _ e with z | ⟨z, _⟩
    · exact ⟨.inr z, .inl (st.fn n e)⟩
    · cases z
  · cases h
theorem Sta.lcl (st : Sta X W g k) {n : Str} (h : lclB k.names n = true) : X.env.scope.names.lookup n = some .local := by
  unfold lclB at h
  split at h
  · rename_i e
    rcases st.nm _ _ e with z | ⟨z, _⟩
    · exact z
    · cases z
  · cases h
theorem Sta.glo (st : Sta X W g k) {n : Str} (h : gloB k.names n = true) : Gl X n := by
  unfold gloB at h
  show X.env.scope.names.lookup n = some .globalImplicit
  split at h
  · rename_i e
    rcases st.nm _ _ e with z | ⟨z, _⟩
    · exact z
    · cases z
  · cases h
theorem Sta.blkOk (st : Sta X W g k) {scope : Scope} {own : List (Str × Nat)} (h : blkC k.N ⟨.function, k.names, false, false, []⟩ scope own = true) : BlkOk X.N X.env.scope scope own := by
  have b := blkOk_by h
  rw [st.N]
  refine ⟨b.kind, b.uniq, b.ix, fun y hy e => ?_, b.own⟩
  rcases b.free y hy e with z | z
  · rcases st.nm _ _ z with w | ⟨w, _⟩
    · exact .inl w
    · cases w
  · rcases st.nm _ _ z with w | ⟨_, w⟩
    · exact .inr w
    · exact .inl w
theorem Sta.at (st : Sta X W g k) {n : Str} {i : Nat} (h : decide (k.N[i]? = some n) = true) : X.N[i]? = some n := by
  rw [st.N]; exact of_decide_eq_true h
theorem star_cons {e : Expr} {es : List Expr} {env : Env} (h : nsB e = true) : starEach (e :: es) env = (false, eval e env) :: starEach es env := by
  cases e <;> first | rfl | cases h
theorem plain_ix {e : Expr} (h : noSl e = true) : PlainIx e := by
  intro o i
  cases e <;> first | rfl | cases h
theorem folded_set {e : Expr} {env : Env} (h : noSet e = true) (x : Value) : foldedSetIterable e env x = pure x := by
  cases e <;> first | rfl | cases h
theorem attr_base {o : Expr} {m : Str} {env : Env} (h : baseB o = true) : attributeBase o m env (eval o env) = eval o env := by
  cases o <;> first | rfl | cases h
theorem chkEs_ns {k : Ck} : ∀ {es : Es} {xs : List Expr}, chkEs k es xs = true → ∀ x ∈ xs, nsB x = true
  | .nil, [], _, x, hx => by cases hx
  | .nil, _ :: _, h, _, _ => by cases h
  | .cons _ _, [], h, _, _ => by cases h
  | .cons e es, y :: ys, h, x, hx => by
    have h' : (chkE k e y && nsB y && chkEs k es ys) = true := h
    simp only [Bool.and_eq_true] at h'
    rcases List.mem_cons.mp hx with z | z
    · subst z; exact h'.1.2
    · exact chkEs_ns h'.2 x z
theorem chkEs_len {k : Ck} : ∀ {es : Es} {xs : List Expr}, chkEs k es xs = true → xs.length = es.len
  | .nil, [], _ => rfl
  | .nil, _ :: _, h => by cases h
  | .cons _ _, [], h => by cases h
  | .cons e es, y :: ys, h => by
    have h' : (chkE k e y && nsB y && chkEs k es ys) = true := h
    simp only [Bool.and_eq_true] at h'
    show ys.length + 1 = es.len + 1
    rw [chkEs_len h'.2]
theorem back_any {pos : Pos} {env : Env} : ∀ {xs : List Expr}, (∀ x ∈ xs, nsB x = true) → (backTo pos (starEach xs env)).any (·.1) = false
  | [], _ => rfl
  | x :: xs, h => by
    rw [star_cons (h x List.mem_cons_self)]
    show (false || (backTo pos (starEach xs env)).any (·.1)) = false
    rw [back_any fun y hy => h y (List.mem_cons_of_mem _ hy)]
    rfl
theorem noSet_marks {op : CmpOp} {e : Expr} (h : noSet e = true) : behindInMarks op e = false := by cases e <;> first | rfl | cases h
theorem few_ok {pos : Pos} {env : Env} {xs : List Expr} (h : ∀ x ∈ xs, nsB x = true) (hl : xs.length < 20) : ((backTo pos (starEach xs env)).all (fun x => !x.1) && (backToKw pos (keywordEach [] env)).all (fun x => x.1.isSome) && decide (xs.length + ([] : List Keyword).length + (if ([] : List Keyword).isEmpty then 0 else 1) < 30)) = true := by
  have h1 : ∀ {xs : List Expr}, (∀ x ∈ xs, nsB x = true) → (backTo pos (starEach xs env)).all (fun x => !x.1) = true := by
    intro xs
    induction xs with
    | nil => intro _; rfl
    | cons x xs ih =>
      intro h
      rw [star_cons (h x List.mem_cons_self)]
      show (!false && (backTo pos (starEach xs env)).all (fun x => !x.1)) = true
      rw [ih fun y hy => h y (List.mem_cons_of_mem _ hy)]
      rfl
  rw [h1 h]
  simp only [Bool.true_and, List.length_nil, Nat.add_zero, List.isEmpty_nil, if_true, decide_eq_true_eq]
  show (true && decide (xs.length < 30)) = true
  rw [decide_eq_true (by omega)]
  rfl
theorem evEs_len {g : G} {ρ : Ro} : ∀ {es : Es} {S S' : Store} {ds : List D}, evEs g ρ es S = .ok ds S' → ds.length = es.len
  | .nil, S, S', ds, h => by
    rw [evEs] at h
    cases h
    rfl
  | .cons e es, S, S', ds, h => by
    rw [evEs] at h
    obtain ⟨d, S1, _, h⟩ := R.bd_inv h
    obtain ⟨ds', S2, h2, h⟩ := R.bd_inv h
    cases h
    show ds'.length + 1 = es.len + 1
    rw [evEs_len h2]
theorem kw_facts {pos : Pos} {env : Env} : ∀ {kws : List Keyword} {ks : List Str}, kwNames kws = ks.map some → (backToKw pos (keywordEach kws env)).all (·.1.isSome) = true ∧ (backToKw pos (keywordEach kws env)).filterMap (·.1) = ks ∧ (backToKw pos (keywordEach kws env)).any (·.1.isNone) = false ∧ kws.length = ks.length
  | [], [], _ => ⟨rfl, rfl, rfl, rfl⟩
  | [], _ :: _, h => nomatch h
  | ⟨_, _, _⟩ :: _, [], h => nomatch h
  | ⟨n, v, p⟩ :: kws, q :: ks, h => by
    have h' : n :: kwNames kws = some q :: ks.map some := h
    injection h' with h1 h2
    subst h1
    obtain ⟨a, b, c, d⟩ := kw_facts (pos := pos) (env := env) h2
    refine ⟨?_, ?_, ?_, by rw [List.length_cons, List.length_cons, d]⟩
    · show (true && (backToKw pos (keywordEach kws env)).all (·.1.isSome)) = true
      rw [a]; rfl
    · show q :: (backToKw pos (keywordEach kws env)).filterMap (·.1) = q :: ks
      rw [b]
    · show (false || (backToKw pos (keywordEach kws env)).any (·.1.isNone)) = false
      rw [c]; rfl
theorem chkKs_len {k : Ck} : ∀ {es : Es} {xs : List Keyword}, chkKs k es xs = true → xs.length = es.len
  | .nil, [], _ => rfl
  | .nil, _ :: _, h => by cases h
  | .cons _ _, [], h => by cases h
  | .cons e es, ⟨_, y, _⟩ :: ys, h => by
    have h' : (chkE k e y && chkKs k es ys) = true := h
    simp only [Bool.and_eq_true] at h'
    show ys.length + 1 = es.len + 1
    rw [chkKs_len h'.2]
theorem so_tgs (st : Sta X W g k) : ∀ (is : List Nat) (es : List Expr), chkTg.chkTgs k is es = true → PGs X es (gTs X.K is) ∧ (assignEach es X.env).length = is.length ∧ (assignEach es X.env).findIdx? (·.1) = none
  | [], [], _ => ⟨gs_nil, rfl, rfl⟩
  | [], _ :: _, h => by cases h
  | _ :: _, [], h => by cases h
  | i :: is, e :: es, h => by
    cases e with
    | Name n p =>
      have h' : (decide (k.N[i]? = some n) && locB k.names n && chkTg.chkTgs k is es) = true := h
      simp only [Bool.and_eq_true] at h'
      obtain ⟨a, b, c⟩ := so_tgs st is es h'.2
      obtain ⟨l1, l2⟩ := st.loc h'.1.2
      refine ⟨gs_cons st.nd (st.at h'.1.1) l1 l2 a, ?_, ?_⟩
      · show (assignEach es X.env).length + 1 = is.length + 1
        rw [b]
      · show List.findIdx? (·.1) ((false, assign (.Name n p) X.env) :: assignEach es X.env) = none
        rw [List.findIdx?_cons, c]
        rfl
    | _ => cases h
theorem so_tg (st : Sta X W g k) {tg : Tg} {e : Expr} (h : chkTg k tg e = true) : PG X e (gT X.K tg) := by
  cases tg with
  | one i =>
    cases e with
    | Name n p =>
      have h' : (decide (k.N[i]? = some n) && locB k.names n) = true := h
      simp only [Bool.and_eq_true] at h'
      obtain ⟨l1, l2⟩ := st.loc h'.2
      exact g_one st.nd (st.at h'.1) l1 l2
    | _ => cases h
  | many is =>
    cases e with
    | Tuple es j p =>
      obtain ⟨a, b, c⟩ := so_tgs st is es h
      cases hk : k.calm with
      | true => exact g_many (st.calm hk) a b c
      | false => exact g_manyH (st.hot hk) a b c
    | _ => cases h
theorem s_glob {n : Str} {pos : Pos} (st : Sta X W g k) (hg : Gl X n) (hd : (n == ("__debug__" : Str)) = false) (hk : k.gl n = true) : PE X (.Name n pos) (tE X.K W fun ρ S => opt (g.glob n) S) := by
  cases e : g.glob n with
  | none => exact ⟨fun pins s σ H Q I ⟨fb, m, S, ρ, r, l, h⟩ => h.elim⟩
  | some d =>
    obtain ⟨v, u, h1, h2, h3⟩ := st.gc n d hk e
    exact (pe_glob hg h1 h2 hd).imp fun σ H Q ⟨fb, m, S, ρ, r, l, h⟩ => h.now r (h3 _ _ _)
theorem Sta.lamS (st : Sta X W g k) {scope : Scope} (h : LamX.lamSB ⟨.function, k.names, false, false, []⟩ scope = true) : LamX.LamS X.env.scope scope := by
  have L := LamX.lamS_by h
  refine ⟨L.kind, L.co, L.gen, L.own, fun y hy e => ?_⟩
  rcases L.free y hy e with z | z
  · rcases st.nm _ _ z with w | ⟨w, _⟩
    · exact .inl w
    · cases w
  · rcases st.nm _ _ z with w | ⟨_, w⟩
    · exact .inr w
    · exact .inl w
theorem Sta.lam (st : Sta X W g k) (hk : k.calm = true) {r : Nat} {scope : Scope} {A : Around} {outer : List Env} {s : Shared} {H : Hp} {E : XK} {f c' : Addr} (L : LamX.LamS X.env.scope scope) (hc : ∀ f sg, k.sig f = some sg → CallAt X g f sg r) (hr : Room r (A.deeper (LamX.lamEnv X scope s.heap.objs.size f c'))) :
    Sta (lamCxN X A outer s H E scope f c') (fun cls d _ H => E cls d H) g { k with names := scope.names, tr := false, xi := fun _ => false } where
  tk := lamCxN_takes
  N := st.N
  nm := fun x kd h => .inl h
  nd := st.nd
  calm := fun _ => rfl
  hot := fun h => by rw [show k.calm = false from h] at hk; cases hk
  un := by have := hr.un; show (A.deeper (LamX.lamEnv X scope s.heap.objs.size f c')).units + 64 < cLine; omega
  un2 := by have := hr.un; show (A.deeper (LamX.lamEnv X scope s.heap.objs.size f c')).units + 65 < cLine; omega
  fn := fun x h => absurd rfl (L.own _ (PySem.mem_of_lookup h)).2
  bn := st.bn
  gc := st.gc
  cl := fun f sg h => ⟨r, hr, hc f sg h⟩
  xc := st.xc
  tr := fun h => nomatch h
  isx := fun _ n h => nomatch (show false = true from h)
end
end PyD

namespace PyD
open PySem PySem.Spec PyProof.Rows L2
variable [TB]
theorem nsB_of {e : Expr} (h : nsB e = true) (env : Env) : starEach [e] env = (false, eval e env) :: starEach [] env := star_cons h
theorem chk1 {k : Ck} {es : Es} {a : Expr} (h : chkEs k es [a] = true) : ∃ e, es = .cons e .nil ∧ chkE k e a = true ∧ nsB a = true := by
  cases es with
  | nil => cases h
  | cons e es =>
    have h' : (chkE k e a && nsB a && chkEs k es []) = true := h
    simp only [Bool.and_eq_true] at h'
    cases es with
    | nil => exact ⟨e, rfl, h'.1.1, h'.1.2⟩
    | cons _ _ => exact absurd h'.2 (fun z => by cases z)
theorem chk2 {k : Ck} {es : Es} {a b : Expr} (h : chkEs k es [a, b] = true) : ∃ e f, es = .cons e (.cons f .nil) ∧ chkE k e a = true ∧ nsB a = true ∧ chkE k f b = true ∧ nsB b = true := by
  cases es with
  | nil => cases h
  | cons e es =>
    have h' : (chkE k e a && nsB a && chkEs k es [b]) = true := h
    simp only [Bool.and_eq_true] at h'
    obtain ⟨f, rfl, h2, h3⟩ := chk1 h'.2
    exact ⟨e, f, rfl, h'.1.1, h'.1.2, h2, h3⟩
theorem isNon_eq {e : E} (h : e.isNon = true) : e = .non := by cases e <;> first | rfl | cases h
theorem shape_mem {sg : Sig} {n : Nat} {ks : List Str} {arr : List Ar} (h : shapeB sg n ks arr = true) : (n, ks, arr) ∈ sg.shapes := by
  unfold shapeB at h
  obtain ⟨⟨a, b, c⟩, h1, h2⟩ := List.any_eq_true.mp h
  simp only [Bool.and_eq_true] at h2
  rw [eq_of_beq h2.1.1, of_decide_eq_true h2.1.2, arSame_eq h2.2] at h1
  exact h1
theorem tg_many {k : Ck} {tg : Tg} {t : Expr} (h : chkTg k tg t = true) : isTupE t = true → ∃ is, tg = .many is := fun ht => by
  cases tg with
  | one i => cases t <;> first | (cases ht; done) | exact absurd (show false = true from h) Bool.false_ne_true
  | many is => exact ⟨is, rfl⟩
theorem so_comp {g : G} {own : List (Str × Nat)} {tg : Tg} {it : I} {cond : Es} {elt : E} {X : Cx} {W : WX} {k : Ck} (st : Sta X W g k) {x : Expr} (h : chkL k (.comp own tg it cond elt) x = true)
    (hi : ∀ {t y : Expr}, chkI k it t y = true → (isTupE t = true → ∃ is, tg = .many is) → PI X t y (tI X.K W tg fun ρ S => evI g ρ it S))
    (hz : ∀ {t y : Expr}, chkZ k it t y = true → (isTupE t = true → ∃ is, tg = .many is) → L2H.PIH X t y (tI X.K W tg fun ρ S => evI g ρ it S))
    (hc : ∀ (c : E), cond = .cons c .nil → ∀ {X : Cx} {W : WX} {k : Ck} (st : Sta X W g k) {z : Expr}, chkE k c z = true → c.tok = true → PT X z (tT X.K W (tru fun ρ S => evE g ρ c S)))
    (he : ∀ {X : Cx} {W : WX} {k : Ck} (st : Sta X W g k) {z : Expr}, chkE k elt z = true → PE X z (tE X.K W fun ρ S => evE g ρ elt S)) : PE X x (tL X.K W fun ρ S => evL g ρ (.comp own tg it cond elt) S) := by
  rw [chkL.eq_def] at h; dsimp only at h
  split at h
  · rename_i y t iter ifs sc p
    simp only [Bool.and_eq_true] at h
    obtain ⟨⟨⟨⟨⟨⟨h1, h2⟩, h3⟩, h4⟩, h5⟩, h6⟩, h7⟩ := h
    cases cond with
    | nil =>
      cases ifs with
      | nil =>
        by_cases hk : k.calm = true
        · rw [if_pos hk] at h1
          refine l_comp (fc := fun _ S => .ok true S) (st.calm hk) st.nd (hi h1 (tg_many h5)) (st.blkOk h3) (fun i hi => by simpa using List.all_eq_true.mp h4 i hi) (fun s H C cl fp => so_tg (st.blk hk s H sc C cl fp) h5) (fun s H C cl fp => ?_) (fun s H C cl fp => he (st.blk hk s H sc C cl fp) h7) (folded_set h2)
          refine ⟨fun pins s σ H Q I ⟨fb, m, S, ρ, r, l, h⟩ => pts_nil.run pins s σ H Q I ?_⟩
          exact h.now r rfl
        · rw [if_neg hk] at h1
          have hk : k.calm = false := by simpa using hk
          obtain ⟨p0, hot, hp⟩ := st.hot hk
          refine l_compH (fc := fun _ S => .ok true S) hot hp st.nd (hz h1 (tg_many h5)) (st.blkOk h3) (fun i hi => by simpa using List.all_eq_true.mp h4 i hi) (fun s H C cl fp => so_tg (st.blkH hk hot s H sc C cl fp) h5) (fun s H C cl fp => ?_) (fun s H C cl fp => he (st.blkH hk hot s H sc C cl fp) h7) (folded_set h2)
          refine ⟨fun pins s σ H Q I ⟨fb, m, S, ρ, r, l, h⟩ => pts_nil.run pins s σ H Q I ?_⟩
          exact h.now r rfl
      | cons _ _ => cases h6
    | cons c cs =>
      cases cs with
      | cons _ _ => cases ifs <;> cases h6
      | nil =>
        cases ifs with
        | nil => cases h6
        | cons z zs =>
          cases zs with
          | cons _ _ => cases h6
          | nil =>
            have h6' : (chkE { k with names := sc.names, tr := false, xi := fun _ => false } c z && c.tok) = true := h6
            simp only [Bool.and_eq_true] at h6'
            by_cases hk : k.calm = true
            · rw [if_pos hk] at h1
              exact l_comp (fc := tru fun ρ S => evE g ρ c S) (st.calm hk) st.nd (hi h1 (tg_many h5)) (st.blkOk h3) (fun i hi => by simpa using List.all_eq_true.mp h4 i hi) (fun s H C cl fp => so_tg (st.blk hk s H sc C cl fp) h5) (fun s H C cl fp => pts_one (hc c rfl (st.blk hk s H sc C cl fp) h6'.1 h6'.2)) (fun s H C cl fp => he (st.blk hk s H sc C cl fp) h7) (folded_set h2)
            · rw [if_neg hk] at h1
              have hk : k.calm = false := by simpa using hk
              obtain ⟨p0, hot, hp⟩ := st.hot hk
              exact l_compH (fc := tru fun ρ S => evE g ρ c S) hot hp st.nd (hz h1 (tg_many h5)) (st.blkOk h3) (fun i hi => by simpa using List.all_eq_true.mp h4 i hi) (fun s H C cl fp => so_tg (st.blkH hk hot s H sc C cl fp) h5) (fun s H C cl fp => pts_one (hc c rfl (st.blkH hk hot s H sc C cl fp) h6'.1 h6'.2)) (fun s H C cl fp => he (st.blkH hk hot s H sc C cl fp) h7) (folded_set h2)
  · cases h
theorem isa_ok {X : Cx} {W : WX} {g : G} {k : Ck} (st : Sta X W g k) {t : Ty} {y z : Expr} {fa : Ro → Store → R D} {p pos : Pos} (h2 : gloB k.names "isinstance" = true) (ha : PE X y (tE X.K W fa)) (hn : nsB y = true) (h5 : isaB k t z = true) :
    PE X (.Call (.Name "isinstance" p) [y, z] [] pos) (tE X.K W fun ρ S => (fa ρ S).bd fun x S1 => opt ((isaD S1 t x).map .bl) S1) := by
  unfold isaB at h5
  split at h5
  · simp only [Bool.and_eq_true, decide_eq_true_eq] at h5
    obtain ⟨⟨⟨e1, e2⟩, h6⟩, h7⟩ := h5
    subst e1 e2
    exact s_isaT (st.glo h2) (st.bn _ (by decide)) (st.glo h6) (st.bn _ (by decide)) (st.glo h7) (st.bn _ (by decide)) ha (fun es => star_cons hn)
  · cases h5
  · rename_i ht
    simp only [Bool.and_eq_true, decide_eq_true_eq] at h5
    obtain ⟨e1, h6⟩ := h5
    subst e1
    exact s_isa t (by assumption) (st.glo h2) (st.bn _ (by decide)) (st.glo h6) (st.bn _ (by cases t <;> decide)) ha (fun es => star_cons hn)
  · cases h5
mutual
theorem soE {g : G} : ∀ (e : E) {X : Cx} {W : WX} {k : Ck} (st : Sta X W g k) {x : Expr}, chkE k e x = true → PE X x (tE X.K W fun ρ S => evE g ρ e S)
  | .var i, X, W, k, st, x, h => by
    rw [chkE.eq_def] at h; dsimp only at h
    split at h
    · simp only [Bool.and_eq_true] at h
      exact s_var (st.at h.1.1) (st.vis h.1.2) (nodbg_1 h.2) (nodbg_2 h.2)
    · cases h
  | .non, X, W, k, st, x, h => by
    rw [chkE.eq_def] at h; dsimp only at h
    split at h
    · exact pe_non.imp fun σ H Q q => s_cst (fun _ _ _ => .non) q
    · cases h
  | .bl b, X, W, k, st, x, h => by
    rw [chkE.eq_def] at h; dsimp only at h
    split at h
    · rw [eq_of_beq h]
      exact pe_bl.imp fun σ H Q q => s_cst (fun _ _ _ => .bl _) q
    · cases h
  | .int i, X, W, k, st, x, h => by
    rw [chkE.eq_def] at h; dsimp only at h
    split at h
    · rw [eq_of_beq h]
      exact pe_int.imp fun σ H Q q => s_cst (fun _ _ _ => .int _) q
    · cases h
  | .str i, X, W, k, st, x, h => by
    rw [chkE.eq_def] at h; dsimp only at h
    split at h
    · rw [eq_of_beq h]
      exact pe_str.imp fun σ H Q q => s_cst (fun _ _ _ => .str _) q
    · cases h
  | .glob y, X, W, k, st, x, h => by
    rw [chkE.eq_def] at h; dsimp only at h
    split at h
    · simp only [Bool.and_eq_true] at h
      rw [eq_of_beq h.1.1.1]
      exact s_glob st (st.glo h.1.1.2) (nodbg_1 h.1.2) h.2
    · cases h
  | .bin o a b, X, W, k, st, x, h => by
    rw [chkE.eq_def] at h; dsimp only at h
    split at h
    · simp only [Bool.and_eq_true] at h
      rw [opB'_eq h.1.1]
      exact s_bin o (soE a st h.1.2) (soE b st h.2)
    · cases h
  | .neg a, X, W, k, st, x, h => by
    rw [chkE.eq_def] at h; dsimp only at h
    split at h
    · exact s_neg (soE a st h)
    · cases h
  | .cmp o a b, X, W, k, st, x, h => by
    rw [chkE.eq_def] at h; dsimp only at h
    split at h
    · simp only [Bool.and_eq_true] at h
      rw [opC'_eq h.1.1]
      exact s_cmp st.un o (soE a st h.1.2) (soE b st h.2)
    · cases h
  | .isn a, X, W, k, st, x, h => by
    rw [chkE.eq_def] at h; dsimp only at h
    split at h
    · exact s_isn (soE a st h)
    · cases h
  | .ntn a, X, W, k, st, x, h => by
    rw [chkE.eq_def] at h; dsimp only at h
    split at h
    · exact s_ntn (soE a st h)
    · cases h
  | .chain o p a b c, X, W, k, st, x, h => by
    rw [chkE.eq_def] at h; dsimp only at h
    split at h
    · simp only [Bool.and_eq_true] at h
      rw [opC'_eq h.1.1.1.1, opC'_eq h.1.1.1.2]
      refine s_chain st.un o p (soE a st h.1.1.2) (soE b st h.1.2) (soE c st h.2) ?_
      exact nobehind _ (by cases p <;> decide) (by cases p <;> decide)
    · cases h
  | .and es, X, W, k, st, x, h => by
    rw [chkE.eq_def] at h; dsimp only at h
    split at h
    · exact soAnd es st h
    · cases h
  | .or es, X, W, k, st, x, h => by
    rw [chkE.eq_def] at h; dsimp only at h
    split at h
    · exact soOr es st h
    · cases h
  | .not a, X, W, k, st, x, h => by
    rw [chkE.eq_def] at h; dsimp only at h
    split at h
    · exact s_not (soE a st h)
    · cases h
  | .ite c a b, X, W, k, st, x, h => by
    rw [chkE.eq_def] at h; dsimp only at h
    split at h
    · simp only [Bool.and_eq_true] at h
      exact s_ite (soT c st h.1.1.1 h.1.1.2) (soE a st h.1.2) (soE b st h.2)
    · cases h
  | .tup es, X, W, k, st, x, h => by
    rw [chkE.eq_def] at h; dsimp only at h
    split at h
    · exact s_tup (soEs es st h)
    · cases h
  | .new own l, X, W, k, st, x, h => by
    rw [chkE.eq_def] at h; dsimp only at h
    exact s_new own (soL l st h)
  | .idx a i, X, W, k, st, x, h => by
    rw [chkE.eq_def] at h; dsimp only at h
    split at h
    · simp only [Bool.and_eq_true] at h
      exact s_idx st.un (soE a st h.1.1) (soE i st h.1.2) (plain_ix h.2)
    · cases h
  | .sl a lo hi, X, W, k, st, x, h => by
    rw [chkE.eq_def] at h; dsimp only at h
    split at h
    · rename_i v l u p2 p
      simp only [Bool.and_eq_true] at h
      obtain ⟨⟨h1, h2⟩, h3⟩ := h
      have ol : PO X l (tO X.K W fun ρ S1 => if lo.isNon = true then .ok none S1 else (evE g ρ lo S1).bd fun d S2 => opt (ofI d) S2) := by
        cases l with
        | none =>
          have e : lo.isNon = true := h2
          simp only [e, if_true]
          exact o_none
        | some y =>
          have e : (!lo.isNon && chkE k lo y) = true := h2
          simp only [Bool.and_eq_true, Bool.not_eq_true'] at e
          simp only [e.1, Bool.false_eq_true, if_false]
          exact o_some (soE lo st e.2)
      have oh : PO X u (tO X.K W fun ρ S1 => if hi.isNon = true then .ok none S1 else (evE g ρ hi S1).bd fun d S2 => opt (ofI d) S2) := by
        cases u with
        | none =>
          have e : hi.isNon = true := h3
          simp only [e, if_true]
          exact o_none
        | some y =>
          have e : (!hi.isNon && chkE k hi y) = true := h3
          simp only [Bool.and_eq_true, Bool.not_eq_true'] at e
          simp only [e.1, Bool.false_eq_true, if_false]
          exact o_some (soE hi st e.2)
      exact s_sl (soE a st h1) ol oh
    · cases h
  | .call raw f es, X, W, k, st, x, h => by
    rw [chkE.eq_def] at h; dsimp only at h
    split at h
    · rename_i n p args pos
      simp only [Bool.and_eq_true] at h
      obtain ⟨⟨⟨⟨h1, h2⟩, h3⟩, h4⟩, h5⟩ := h
      obtain rfl := eq_of_beq h1
      split at h4
      · rename_i sg hsg
        cases args with
        | nil =>
          cases es with
          | nil => exact s_call0 raw st.tk (st.glo h2) (nodbg_1 h3) (st.cl _ _ hsg) h4
          | cons _ _ => exact absurd h5 (fun z => by cases z)
        | cons a as =>
          have hns := chkEs_ns h5
          exact s_call raw st.tk (st.glo h2) (nodbg_1 h3) (st.cl _ _ hsg) h4 (soEs es st h5) (star_cons (hns a List.mem_cons_self)) (back_any fun y hy => hns y (List.mem_cons_of_mem _ hy))
      · cases h4
    · cases h
  | .callk raw f es ks kes arr, X, W, k, st, x, h => by
    rw [chkE.eq_def] at h; dsimp only at h
    split at h
    · rename_i n p args kws pos
      simp only [Bool.and_eq_true] at h
      obtain ⟨⟨⟨⟨⟨⟨h1, h2⟩, h3⟩, h4⟩, h5⟩, h6⟩, h7⟩ := h
      obtain rfl := eq_of_beq h1
      obtain ⟨k1, k2, k3, k4⟩ := kw_facts (pos := pos) (env := X.env) (of_decide_eq_true h7)
      split at h4
      · rename_i sg hsg
        have hl : ∀ (ρ : Ro) (S : Store) (ds : List D) (S' : Store), evEs g ρ kes S = .ok ds S' → ds.length = ks.length := fun ρ S ds S' e => by
          rw [evEs_len e, ← chkKs_len h6, k4]
        cases args with
        | nil =>
          cases es with
          | nil => exact s_callk0 raw st.tk (st.glo h2) (nodbg_1 h3) (st.cl _ _ hsg) (shape_mem h4) (soKs kes st h6) k1 k2 (by rw [k3]; rfl) hl
          | cons _ _ => exact absurd h5 (fun z => by cases z)
        | cons a as =>
          have hns := chkEs_ns h5
          exact s_callk raw st.tk (st.glo h2) (nodbg_1 h3) (st.cl _ _ hsg) (shape_mem h4) (chkEs_len h5) (soEs es st h5) (soKs kes st h6) k1 k2 (star_cons (hns a List.mem_cons_self)) (by rw [k3, back_any hns]; rfl) (fun ρ S ds S' e => evEs_len e) hl
      · cases h4
    · cases h
  | .bi b e, X, W, k, st, x, h => by
    rw [chkE.eq_def] at h; dsimp only at h
    split at h
    · simp only [Bool.and_eq_true] at h
      obtain ⟨⟨⟨⟨hc, h1⟩, h2⟩, h3⟩, h4⟩ := h
      obtain rfl := of_decide_eq_true h1
      exact s_bi b ((Bool.or_eq_true_iff.1 hc).imp id st.calm) (st.glo h2) (st.bn _ (by cases b <;> decide)) (soE e st h3) (nsB_of h4 _)
    · cases h
  | .isa t e, X, W, k, st, x, h => by
    rw [chkE.eq_def] at h; dsimp only at h
    split at h
    · simp only [Bool.and_eq_true] at h
      obtain ⟨⟨⟨⟨h1, h2⟩, h3⟩, h4⟩, h5⟩ := h
      obtain rfl := of_decide_eq_true h1
      exact isa_ok st h2 (soE e st h3) h4 h5
    · cases h
  | .trng es, X, W, k, st, x, h => by
    rw [chkE.eq_def] at h; dsimp only at h
    split at h
    · rename_i n p q p2 args p3 p4
      simp only [Bool.and_eq_true] at h
      obtain ⟨⟨⟨⟨⟨⟨hc, h1⟩, h2⟩, h3⟩, h4⟩, h5⟩, h10⟩ := h
      obtain rfl := of_decide_eq_true h1
      obtain rfl := of_decide_eq_true h2
      cases args with
      | nil =>
        cases es with
        | nil => exact ⟨fun pins s σ H Q I ⟨fb, m, S, ρ, r, l, h⟩ => h.elim⟩
        | cons _ _ => exact absurd h5 (fun z => by cases z)
      | cons a as =>
        cases as with
        | nil =>
          cases es with
          | nil => cases h5
          | cons e es =>
            obtain ⟨e', he, h6, h7⟩ := chk1 h5
            cases he
            exact t_rng1 (st.calm hc) (st.glo h4) (st.bn _ (by decide)) (st.glo h3) (st.bn _ (by decide)) (soE e st h6) (nsB_of h7 _)
        | cons b bs =>
          cases bs with
          | nil =>
            cases es with
            | nil => cases h5
            | cons e es =>
              cases es with
              | nil => exact absurd (chkEs_len h5) (by intro z; cases z)
              | cons f fs =>
                obtain ⟨e', f', he, h6, h7, h8, h9⟩ := chk2 h5
                cases he
                exact t_rng2 (st.calm hc) (st.glo h4) (st.bn _ (by decide)) (st.glo h3) (st.bn _ (by decide)) (soE e st h6) (soE f st h8) (star_cons h7) (nsB_of h9 _)
          | cons c cs => cases h10
    · cases h
  | .inn neg a b, X, W, k, st, x, h => by
    rw [chkE.eq_def] at h; dsimp only at h
    split at h
    · simp only [Bool.and_eq_true] at h
      rw [opN'_eq h.1.1.1]
      exact s_inn st.un st.un2 neg (soE a st h.1.1.2) (soE b st h.1.2) (noSet_marks h.2)
    · cases h
  | .me m o es, X, W, k, st, x, h => by
    rw [chkE.eq_def] at h; dsimp only at h
    split at h
    · rename_i v mn ap args cp
      simp only [Bool.and_eq_true] at h
      obtain ⟨⟨⟨⟨⟨h1, h2⟩, h3⟩, h4⟩, h5⟩, h6⟩ := h
      obtain rfl := of_decide_eq_true h1
      cases args with
      | nil =>
        cases es with
        | nil => exact s_me0 m (soE o st h2) (attr_base h4) h5
        | cons _ _ => exact absurd h3 (fun z => by cases z)
      | cons a as =>
        have hns := chkEs_ns h3
        exact s_me m (soE o st h2) (soEs es st h3) (attr_base h4) (few_ok hns (of_decide_eq_true h6)) h5 (star_cons (hns a List.mem_cons_self)) (back_any fun y hy => hns y (List.mem_cons_of_mem _ hy))
    · cases h
  | .isx c a, X, W, k, st, x, h => by
    rw [chkE.eq_def] at h; dsimp only at h
    split at h
    · simp only [Bool.and_eq_true, Bool.not_eq_true'] at h
      obtain ⟨⟨⟨⟨⟨⟨⟨h1, h2⟩, h3⟩, h4⟩, h5⟩, h6⟩, h7⟩, h8⟩ := h
      obtain rfl := of_decide_eq_true h3
      obtain rfl := of_decide_eq_true h4
      exact s_isx (st.isx h1 _ h2) (st.glo h5) (st.bn _ (by decide)) (st.glo h6) (soE a st h7) (fun es => star_cons h8)
    · cases h
  | .exf a f, X, W, k, st, x, h => by
    rw [chkE.eq_def] at h; cases h
  | .tried a, X, W, k, st, x, h => by
    rw [chkE.eq_def] at h; dsimp only at h
    split at h
    · simp only [Bool.and_eq_true] at h
      obtain ⟨⟨⟨⟨⟨h0, h1⟩, h2⟩, h3⟩, h4⟩, h5⟩ := h
      obtain rfl := of_decide_eq_true h2
      obtain ⟨r, r2, hr, T, tx, hc⟩ := st.tr h1
      have L := st.lamS h4
      exact tried_run T tx (st.glo h3) hr r2 L rfl (fun q cl pm cv ctv => rfl) fun A outer s H E f c' hr' => soE a (st.lam h0 L hc hr') h5
    · cases h
termination_by e => (sizeOf e, 0)
theorem soAnd {g : G} : ∀ (es : Es) {X : Cx} {W : WX} {k : Ck} (st : Sta X W g k) {xs : List Expr} {pos : Pos}, chkEs k es xs = true → PE X (.BoolOp .And xs pos) (tE X.K W fun ρ S => evAnd g ρ es S)
  | .nil, X, W, k, st, xs, pos, h => ⟨fun pins s σ H Q I ⟨fb, m, S, ρ, r, l, h⟩ => h.elim⟩
  | .cons e .nil, X, W, k, st, xs, pos, h => by
    cases xs with
    | nil => cases h
    | cons y ys =>
      have h' : (chkE k e y && nsB y && chkEs k .nil ys) = true := h
      simp only [Bool.and_eq_true] at h'
      cases ys with
      | nil => exact pe_one (soE e st h'.1.1)
      | cons _ _ => exact absurd h'.2 (fun z => by cases z)
  | .cons e (.cons f fs), X, W, k, st, xs, pos, h => by
    cases xs with
    | nil => cases h
    | cons y ys =>
      have h' : (chkE k e y && nsB y && chkEs k (.cons f fs) ys) = true := h
      simp only [Bool.and_eq_true] at h'
      cases ys with
      | nil => exact absurd h'.2 (fun z => by cases z)
      | cons z zs => exact s_and (soE e st h'.1.1) (soAnd (.cons f fs) st h'.2)
termination_by e => (sizeOf e, 0)
theorem soOr {g : G} : ∀ (es : Es) {X : Cx} {W : WX} {k : Ck} (st : Sta X W g k) {xs : List Expr} {pos : Pos}, chkEs k es xs = true → PE X (.BoolOp .Or xs pos) (tE X.K W fun ρ S => evOr g ρ es S)
  | .nil, X, W, k, st, xs, pos, h => ⟨fun pins s σ H Q I ⟨fb, m, S, ρ, r, l, h⟩ => h.elim⟩
  | .cons e .nil, X, W, k, st, xs, pos, h => by
    cases xs with
    | nil => cases h
    | cons y ys =>
      have h' : (chkE k e y && nsB y && chkEs k .nil ys) = true := h
      simp only [Bool.and_eq_true] at h'
      cases ys with
      | nil => exact pe_one (soE e st h'.1.1)
      | cons _ _ => exact absurd h'.2 (fun z => by cases z)
  | .cons e (.cons f fs), X, W, k, st, xs, pos, h => by
    cases xs with
    | nil => cases h
    | cons y ys =>
      have h' : (chkE k e y && nsB y && chkEs k (.cons f fs) ys) = true := h
      simp only [Bool.and_eq_true] at h'
      cases ys with
      | nil => exact absurd h'.2 (fun z => by cases z)
      | cons z zs => exact s_or (soE e st h'.1.1) (soOr (.cons f fs) st h'.2)
termination_by e => (sizeOf e, 0)
theorem tAndW {g : G} : ∀ (es : Es) {X : Cx} {W : WX} {k : Ck} (st : Sta X W g k) {x : Expr} {xs : List Expr} {pos : Pos}, chkEs k es (x :: xs) = true → es.tok = true → PW X (.BoolOp .And (x :: xs) pos) (tT X.K W (tru fun ρ S => evAnd g ρ es S))
  | .nil, X, W, k, st, x, xs, pos, h, t => by cases h
  | .cons e .nil, X, W, k, st, x, xs, pos, h, t => by
    have h' : (chkE k e x && nsB x && chkEs k .nil xs) = true := h
    have t' : (e.tok && Es.tok .nil) = true := t
    simp only [Bool.and_eq_true] at h' t'
    cases xs with
    | nil => exact pw_and1 (soT e st h'.1.1 t'.1)
    | cons _ _ => exact absurd h'.2 (fun z => by cases z)
  | .cons e (.cons f fs), X, W, k, st, x, xs, pos, h, t => by
    have h' : (chkE k e x && nsB x && chkEs k (.cons f fs) xs) = true := h
    have t' : (e.tok && Es.tok (.cons f fs)) = true := t
    simp only [Bool.and_eq_true] at h' t'
    cases xs with
    | nil => exact absurd h'.2 (fun z => by cases z)
    | cons z zs => exact u_and (soT e st h'.1.1 t'.1) (tAndW (.cons f fs) st h'.2 t'.2)
termination_by e => (sizeOf e, 0)
theorem tOrW {g : G} : ∀ (es : Es) {X : Cx} {W : WX} {k : Ck} (st : Sta X W g k) {x : Expr} {xs : List Expr} {pos : Pos}, chkEs k es (x :: xs) = true → es.tok = true → PW X (.BoolOp .Or (x :: xs) pos) (tT X.K W (tru fun ρ S => evOr g ρ es S))
  | .nil, X, W, k, st, x, xs, pos, h, t => by cases h
  | .cons e .nil, X, W, k, st, x, xs, pos, h, t => by
    have h' : (chkE k e x && nsB x && chkEs k .nil xs) = true := h
    have t' : (e.tok && Es.tok .nil) = true := t
    simp only [Bool.and_eq_true] at h' t'
    cases xs with
    | nil => exact pw_or1 (soT e st h'.1.1 t'.1)
    | cons _ _ => exact absurd h'.2 (fun z => by cases z)
  | .cons e (.cons f fs), X, W, k, st, x, xs, pos, h, t => by
    have h' : (chkE k e x && nsB x && chkEs k (.cons f fs) xs) = true := h
    have t' : (e.tok && Es.tok (.cons f fs)) = true := t
    simp only [Bool.and_eq_true] at h' t'
    cases xs with
    | nil => exact absurd h'.2 (fun z => by cases z)
    | cons z zs => exact u_or (soT e st h'.1.1 t'.1) (tOrW (.cons f fs) st h'.2 t'.2)
termination_by e => (sizeOf e, 0)
theorem soT {g : G} : ∀ (e : E) {X : Cx} {W : WX} {k : Ck} (st : Sta X W g k) {x : Expr}, chkE k e x = true → e.tok = true → PT X x (tT X.K W (tru fun ρ S => evE g ρ e S))
  | .not a, X, W, k, st, x, h, t => by
    rw [chkE.eq_def] at h; dsimp only at h
    split at h
    · exact u_not (soT a st h t)
    · cases h
  | .and es, X, W, k, st, x, h, t => by
    rw [chkE.eq_def] at h; dsimp only at h
    split at h
    · rename_i vs pos
      cases vs with
      | nil =>
        cases es with
        | nil => exact ⟨fun pins s σ H Q I ⟨fb, m, S, ρ, r, l, h⟩ => h.elim⟩
        | cons _ _ => cases h
      | cons y ys => exact (tAndW es st h t).pt
    · cases h
  | .or es, X, W, k, st, x, h, t => by
    rw [chkE.eq_def] at h; dsimp only at h
    split at h
    · rename_i vs pos
      cases vs with
      | nil =>
        cases es with
        | nil => exact ⟨fun pins s σ H Q I ⟨fb, m, S, ρ, r, l, h⟩ => h.elim⟩
        | cons _ _ => cases h
      | cons y ys => exact (tOrW es st h t).pt
    · cases h
  | .cmp o a b, X, W, k, st, x, h, t => by
    rw [chkE.eq_def] at h; dsimp only at h
    split at h
    · simp only [Bool.and_eq_true] at h
      rw [opC'_eq h.1.1]
      exact u_cmp st.un o (soE a st h.1.2) (soE b st h.2)
    · cases h
  | .isn a, X, W, k, st, x, h, t => by
    rw [chkE.eq_def] at h; dsimp only at h
    split at h
    · exact u_isn (soE a st h)
    · cases h
  | .ntn a, X, W, k, st, x, h, t => by
    rw [chkE.eq_def] at h; dsimp only at h
    split at h
    · exact u_ntn (soE a st h)
    · cases h
  | .chain o p a b c, X, W, k, st, x, h, t => by
    rw [chkE.eq_def] at h; dsimp only at h
    split at h
    · simp only [Bool.and_eq_true] at h
      rw [opC'_eq h.1.1.1.1, opC'_eq h.1.1.1.2]
      refine u_chain st.un o p (soE a st h.1.1.2) (soE b st h.1.2) (soE c st h.2) ?_
      exact nobehind _ (by cases p <;> decide) (by cases p <;> decide)
    · cases h
  | .ite _ _ _, X, W, k, st, x, h, t => by cases t
  | .var i, X, W, k, st, x, h, t => by
    have p := soE (.var i) st h
    rw [chkE.eq_def] at h; dsimp only at h
    split at h
    · exact u_plain p (fun _ => rfl)
    · cases h
  | .call raw f es, X, W, k, st, x, h, t => by
    have p := soE (.call raw f es) st h
    rw [chkE.eq_def] at h; dsimp only at h
    split at h
    · exact u_plain p (fun _ => rfl)
    · cases h
  | .callk raw f es ks kes arr, X, W, k, st, x, h, t => by
    have p := soE (.callk raw f es ks kes arr) st h
    rw [chkE.eq_def] at h; dsimp only at h
    split at h
    · exact u_plain p (fun _ => rfl)
    · cases h
  | .isa t0 e, X, W, k, st, x, h, t => by
    have p := soE (.isa t0 e) st h
    rw [chkE.eq_def] at h; dsimp only at h
    split at h
    · exact u_plain p (fun _ => rfl)
    · cases h
  | .bi b e, X, W, k, st, x, h, t => by
    have p := soE (.bi b e) st h
    rw [chkE.eq_def] at h; dsimp only at h
    split at h
    · exact u_plain p (fun _ => rfl)
    · cases h
  | .idx a i, X, W, k, st, x, h, t => by
    have p := soE (.idx a i) st h
    rw [chkE.eq_def] at h; dsimp only at h
    split at h
    · exact u_plain p (fun _ => rfl)
    · cases h
  | .bl b, X, W, k, st, x, h, t => by
    have p := soE (.bl b) st h
    rw [chkE.eq_def] at h; dsimp only at h
    split at h
    · exact u_plain p (fun _ => rfl)
    · cases h
  | .non, X, W, k, st, x, h, t => by cases t
  | .int _, X, W, k, st, x, h, t => by cases t
  | .str _, X, W, k, st, x, h, t => by cases t
  | .glob _, X, W, k, st, x, h, t => by cases t
  | .bin _ _ _, X, W, k, st, x, h, t => by cases t
  | .neg _, X, W, k, st, x, h, t => by cases t
  | .tup _, X, W, k, st, x, h, t => by cases t
  | .new _ _, X, W, k, st, x, h, t => by cases t
  | .sl _ _ _, X, W, k, st, x, h, t => by cases t
  | .trng _, X, W, k, st, x, h, t => by cases t
  | .me _ _ _, X, W, k, st, x, h, t => by cases t
  | .isx _ _, X, W, k, st, x, h, t => by cases t
  | .exf _ _, X, W, k, st, x, h, t => by cases t
  | .tried _, X, W, k, st, x, h, t => by cases t
  | .inn neg a b, X, W, k, st, x, h, t => by
    rw [chkE.eq_def] at h; dsimp only at h
    split at h
    · simp only [Bool.and_eq_true] at h
      rw [opN'_eq h.1.1.1]
      exact u_inn st.un st.un2 neg (soE a st h.1.1.2) (soE b st h.1.2) (noSet_marks h.2)
    · cases h
termination_by e => (sizeOf e, 1)
theorem soEs {g : G} : ∀ (es : Es) {X : Cx} {W : WX} {k : Ck} (st : Sta X W g k) {xs : List Expr}, chkEs k es xs = true → PA X xs (tA X.K W fun ρ S => evEs g ρ es S)
  | .nil, X, W, k, st, xs, h => by
    cases xs with
    | nil => exact s_nil
    | cons _ _ => cases h
  | .cons e es, X, W, k, st, xs, h => by
    cases xs with
    | nil => cases h
    | cons y ys =>
      have h' : (chkE k e y && nsB y && chkEs k es ys) = true := h
      simp only [Bool.and_eq_true] at h'
      exact s_cons (soE e st h'.1.1) (soEs es st h'.2) (star_cons h'.1.2)
termination_by e => (sizeOf e, 0)
theorem soKs {g : G} : ∀ (es : Es) {X : Cx} {W : WX} {k : Ck} (st : Sta X W g k) {xs : List Keyword}, chkKs k es xs = true → PK X xs (tA X.K W fun ρ S => evEs g ρ es S)
  | .nil, X, W, k, st, xs, h => by
    cases xs with
    | nil => exact k_nil
    | cons _ _ => cases h
  | .cons e es, X, W, k, st, xs, h => by
    cases xs with
    | nil => cases h
    | cons y ys =>
      obtain ⟨n, v, p⟩ := y
      have h' : (chkE k e v && chkKs k es ys) = true := h
      simp only [Bool.and_eq_true] at h'
      exact k_cons (soE e st h'.1) (soKs es st h'.2)
termination_by e => (sizeOf e, 0)
theorem soL {g : G} : ∀ (l : L) {X : Cx} {W : WX} {k : Ck} (st : Sta X W g k) {x : Expr}, chkL k l x = true → PE X x (tL X.K W fun ρ S => evL g ρ l S)
  | .cat a b, X, W, k, st, x, h => by
    rw [chkL.eq_def] at h; dsimp only at h
    split at h
    · simp only [Bool.and_eq_true] at h
      exact l_cat (soE a st h.1) (soE b st h.2)
    · cases h
  | .disp es, X, W, k, st, x, h => by
    rw [chkL.eq_def] at h; dsimp only at h
    split at h
    · exact l_disp (soEs es st h)
    · cases h
  | .list e, X, W, k, st, x, h => by
    rw [chkL.eq_def] at h; dsimp only at h
    split at h
    · simp only [Bool.and_eq_true] at h
      obtain ⟨⟨⟨h1, h2⟩, h3⟩, h4⟩ := h
      obtain rfl := of_decide_eq_true h1
      exact l_list (st.glo h2) (st.bn _ (by decide)) (soE e st h3) (nsB_of h4 _)
    · cases h
  | .sorted e, X, W, k, st, x, h => by
    rw [chkL.eq_def] at h; dsimp only at h
    split at h
    · simp only [Bool.and_eq_true] at h
      obtain ⟨⟨⟨⟨hc, h1⟩, h2⟩, h3⟩, h4⟩ := h
      obtain rfl := of_decide_eq_true h1
      exact l_sorted (st.calm hc) (st.glo h2) (st.bn _ (by decide)) (soE e st h3) (nsB_of h4 _)
    · cases h
  | .rng es, X, W, k, st, x, h => by
    rw [chkL.eq_def] at h; dsimp only at h
    split at h
    · rename_i n p q p2 args p3 p4
      simp only [Bool.and_eq_true] at h
      obtain ⟨⟨⟨⟨⟨⟨hc, h1⟩, h2⟩, h3⟩, h4⟩, h5⟩, h10⟩ := h
      obtain rfl := of_decide_eq_true h1
      obtain rfl := of_decide_eq_true h2
      cases args with
      | nil =>
        cases es with
        | nil => exact ⟨fun pins s σ H Q I ⟨fb, m, S, ρ, r, l, h⟩ => h.elim⟩
        | cons _ _ => exact absurd h5 (fun z => by cases z)
      | cons a as =>
        cases as with
        | nil =>
          cases es with
          | nil => cases h5
          | cons e es =>
            obtain ⟨e', he, h6, h7⟩ := chk1 h5
            cases he
            exact l_rng1 (st.calm hc) (st.glo h4) (st.bn _ (by decide)) (st.glo h3) (st.bn _ (by decide)) (soE e st h6) (nsB_of h7 _)
        | cons b bs =>
          cases bs with
          | nil =>
            cases es with
            | nil => cases h5
            | cons e es =>
              cases es with
              | nil => exact absurd (chkEs_len h5) (by intro z; cases z)
              | cons f fs =>
                obtain ⟨e', f', he, h6, h7, h8, h9⟩ := chk2 h5
                cases he
                exact l_rng2 (st.calm hc) (st.glo h4) (st.bn _ (by decide)) (st.glo h3) (st.bn _ (by decide)) (soE e st h6) (soE f st h8) (star_cons h7) (nsB_of h9 _)
          | cons c cs => cases h10
    · cases h
  | .comp own tg it cond elt, X, W, k, st, x, h => so_comp st h (@fun t y h' ht => soI it st h' ht) (@fun t y h' ht => soZ it st h' ht) (@fun c e X' W' k' st' z h' t' => by subst e; exact soT c st' h' t') (@fun X' W' k' st' z h' => soE elt st' h')
termination_by e => (sizeOf e, 0)
theorem soI {g : G} : ∀ (it : I) {X : Cx} {W : WX} {k : Ck} (st : Sta X W g k) {t x : Expr} {tg : Tg}, chkI k it t x = true → (isTupE t = true → ∃ is, tg = .many is) → PI X t x (tI X.K W tg fun ρ S => evI g ρ it S)
  | .seq e, X, W, k, st, t, x, tg, h, ht => by
    rw [chkI.eq_def] at h; dsimp only at h
    exact i_seq (soE e st h)
  | .rng es, X, W, k, st, t, x, tg, h, ht => by
    rw [chkI.eq_def] at h; dsimp only at h
    split at h
    · rename_i n p args p2
      simp only [Bool.and_eq_true] at h
      obtain ⟨⟨⟨h1, h4⟩, h5⟩, h10⟩ := h
      obtain rfl := of_decide_eq_true h1
      cases args with
      | nil =>
        cases es with
        | nil => exact ⟨fun pins s σ H Q I ⟨fb, m, S, ρ, r, l, h⟩ => h.elim⟩
        | cons _ _ => exact absurd h5 (fun z => by cases z)
      | cons a as =>
        cases as with
        | nil =>
          cases es with
          | nil => cases h5
          | cons e es =>
            obtain ⟨e', he, h6, h7⟩ := chk1 h5
            cases he
            exact i_rng1 (st.glo h4) (st.bn _ (by decide)) (s_cons (soE e st h6) s_nil (nsB_of h7 _)) (nsB_of h7 _)
        | cons b bs =>
          cases bs with
          | nil =>
            cases es with
            | nil => cases h5
            | cons e es =>
              cases es with
              | nil => exact absurd (chkEs_len h5) (by intro z; cases z)
              | cons f fs =>
                obtain ⟨e', f', he, h6, h7, h8, h9⟩ := chk2 h5
                cases he
                exact i_rng2 (st.glo h4) (st.bn _ (by decide)) (s_cons (soE e st h6) (s_cons (soE f st h8) s_nil (nsB_of h9 _)) (star_cons h7)) (by rw [star_cons h7, nsB_of h9]; rfl) (nsB_of h9 _)
          | cons c cs => cases h10
    · cases h
  | .enum a, X, W, k, st, t, x, tg, h, ht => by
    rw [chkI.eq_def] at h; dsimp only at h
    split at h
    · simp only [Bool.and_eq_true] at h
      obtain ⟨⟨⟨⟨h1, h2⟩, h3⟩, h4⟩, h7⟩ := h
      obtain rfl := of_decide_eq_true h1
      cases t with
      | Tuple es j p => obtain ⟨is, rfl⟩ := ht rfl; exact i_enum (st.glo h2) (st.bn _ (by decide)) (soE a st h3) (nsB_of h4 _)
      | _ => cases h7
    · cases h
  | .zip a b, X, W, k, st, t, x, tg, h, ht => by
    rw [chkI.eq_def] at h; dsimp only at h
    split at h
    · simp only [Bool.and_eq_true] at h
      obtain ⟨⟨⟨⟨⟨⟨h1, h2⟩, h3⟩, h4⟩, h5⟩, h6⟩, h7⟩ := h
      obtain rfl := of_decide_eq_true h1
      cases t with
      | Tuple es j p => obtain ⟨is, rfl⟩ := ht rfl; exact i_zip (st.glo h2) (st.bn _ (by decide)) (soE a st h3) (soE b st h5) (star_cons h4) (nsB_of h6 _)
      | _ => cases h7
    · cases h
  | .zipl a b, X, W, k, st, t, x, tg, h, ht => by
    rw [chkI.eq_def] at h; cases h
termination_by e => (sizeOf e, 0)
theorem soZ {g : G} : ∀ (it : I) {X : Cx} {W : WX} {k : Ck} (st : Sta X W g k) {t x : Expr} {tg : Tg}, chkZ k it t x = true → (isTupE t = true → ∃ is, tg = .many is) → L2H.PIH X t x (tI X.K W tg fun ρ S => evI g ρ it S)
  | .zipl a b, X, W, k, st, t, x, tg, h, ht => by
    rw [chkZ.eq_def] at h; dsimp only at h
    split at h
    · simp only [Bool.and_eq_true] at h
      obtain ⟨⟨⟨⟨⟨⟨h1, h2⟩, h3⟩, h4⟩, h5⟩, h6⟩, h7⟩ := h
      obtain rfl := of_decide_eq_true h1
      cases t with
      | Tuple es j p => obtain ⟨is, rfl⟩ := ht rfl; exact i_ziplH (st.glo h2) (st.bn _ (by decide)) (soE a st h3) (soE b st h5) (star_cons h4) (nsB_of h6 _)
      | _ => cases h7
    · cases h
  | .seq _, X, W, k, st, t, x, tg, h, ht => by rw [chkZ.eq_def] at h; cases h
  | .rng _, X, W, k, st, t, x, tg, h, ht => by rw [chkZ.eq_def] at h; cases h
  | .enum _, X, W, k, st, t, x, tg, h, ht => by rw [chkZ.eq_def] at h; cases h
  | .zip _ _, X, W, k, st, t, x, tg, h, ht => by rw [chkZ.eq_def] at h; cases h
termination_by e => (sizeOf e, 0)
end
end PyD

namespace PyD
open PySem PySem.Spec PyProof.Rows L2
variable [TB]
def PostC (K : PySem.W.Frag) (W : WX) (fb m : List Addr) (H : Hp) (D : Ends) : Out → Prop
  | .nx ρ S => ∀ m' H' σ, Ext m H m' H' → Rel K fb m' S H' → Lo K fb m' H' ρ σ → D.nx σ H'
  | .ret d S => ∀ m' H' v, Ext m H m' H' → Rel K fb m' S H' → Rep K fb m' H' d v → D.rt v H'
  | .brk ρ S => ∀ m' H' σ, Ext m H m' H' → Rel K fb m' S H' → Lo K fb m' H' ρ σ → D.bk σ H'
  | .cnt ρ S => ∀ m' H' σ, Ext m H m' H' → Rel K fb m' S H' → Lo K fb m' H' ρ σ → D.ct σ H'
  | .err x ρ S => ∀ m' H' σ cls dx, Ext m H m' H' → Rel K fb m' S H' → Lo K fb m' H' ρ σ → ExR K fb m' H' x cls dx → W cls dx σ H'
  | .bad => False
def tC (K : PySem.W.Frag) (W : WX) (ev : Ro → Store → Out) : TS := fun D σ H => ∃ fb m S ρ, Rel K fb m S H ∧ Lo K fb m H ρ σ ∧ PostC K W fb m H D (ev ρ S)
section
variable {K : PySem.W.Frag} {W : WX} {fb m m1 : List Addr} {H H1 : Hp} {D : Ends}
theorem PostC.mono {o : Out} (e : Ext m H m1 H1) (h : PostC K W fb m H D o) : PostC K W fb m1 H1 D o := by
  cases o with
  | nx ρ S => exact fun m' H' σ e' r l => h m' H' σ (e.trans e') r l
  | ret ρ S => exact fun m' H' σ e' r l => h m' H' σ (e.trans e') r l
  | brk ρ S => exact fun m' H' σ e' r l => h m' H' σ (e.trans e') r l
  | cnt ρ S => exact fun m' H' σ e' r l => h m' H' σ (e.trans e') r l
  | err x ρ S => exact fun m' H' σ c d e' r l p => h m' H' σ c d (e.trans e') r l p
  | bad => exact h
theorem PostC.bd {α β : Type} {rp : List Addr → Hp → α → β → Prop} {r : R α} {ρ : Ro} {σ : L2.St} {f : α → Store → Out} (l : Lo K fb m H ρ σ) (h : PostC K W fb m H D (r.th ρ f)) :
    Post K (WE W σ) fb rp m H (fun x H1 => ∃ m1 S1 a, Ext m H m1 H1 ∧ Rel K fb m1 S1 H1 ∧ rp m1 H1 a x ∧ PostC K W fb m1 H1 D (f a S1)) r := by
  cases r with
  | ok a S => exact fun m' H' b e r' p => ⟨m', S, a, e, r', p, PostC.mono e h⟩
  | err x S => exact fun m' H' c d e r' p => h m' H' σ c d e r' (l.mono e) p
  | bad => exact h
theorem PostC.seq {o : Out} {f : Ro → Store → Out} (h : PostC K W fb m H D (o.th f)) : PostC K W fb m H { D with nx := fun σ H' => tC K W f D σ H' } o := by
  cases o with
  | nx ρ S => exact fun m' H' σ e r l => ⟨fb, m', S, ρ, r, l, PostC.mono e h⟩
  | ret d S => exact h
  | brk ρ S => exact h
  | cnt ρ S => exact h
  | err x ρ S => exact h
  | bad => exact h
end
section
variable {X : Cx} {W : WX} {pos : Pos} {a b c : Expr} {fa ff fc : Ro → Store → R D}
theorem c_nil : PSs X [] (tC X.K W fun ρ S => .nx ρ S) := pss_nil.imp fun D σ H ⟨fb, m, S, ρ, r, l, h⟩ => h m H σ (Ext.refl _ _) r l
theorem c_cons {st : Stmt} {rest : List Stmt} {f1 f2 : Ro → Store → Out} (h1 : PS X st (tC X.K W f1)) (h2 : PSs X rest (tC X.K W f2)) : PSs X (st :: rest) (tC X.K W fun ρ S => (f1 ρ S).th fun ρ1 S1 => f2 ρ1 S1) :=
  (pss_cons h1 h2).imp fun D σ H ⟨fb, m, S, ρ, r, l, h⟩ => ⟨fb, m, S, ρ, r, l, PostC.seq h⟩
theorem c_skip {st : Stmt} (h : PS X st tNext) : PS X st (tC X.K W fun ρ S => .nx ρ S) := h.imp fun D σ H ⟨fb, m, S, ρ, r, l, h⟩ => h m H σ (Ext.refl _ _) r l
theorem c_brk : PS X (.Break pos) (tC X.K W fun ρ S => .brk ρ S) := ps_break.imp fun D σ H ⟨fb, m, S, ρ, r, l, h⟩ => h m H σ (Ext.refl _ _) r l
theorem c_cnt : PS X (.Continue pos) (tC X.K W fun ρ S => .cnt ρ S) := ps_continue.imp fun D σ H ⟨fb, m, S, ρ, r, l, h⟩ => h m H σ (Ext.refl _ _) r l
theorem c_never {st : Stmt} : PS X st (tC X.K W fun _ _ => .bad) := ⟨fun pins s σ H D I ⟨fb, m, S, ρ, r, l, h⟩ => h.elim⟩
theorem c_ex (ha : PE X a (tE X.K W fa)) (hs : swapsWith a none pos.line X.env = pure false) : PS X (.Expr a pos) (tC X.K W fun ρ S => (fa ρ S).th ρ fun _ S1 => .nx ρ S1) :=
  (ps_expr ha hs).imp fun D σ H ⟨fb, m, S, ρ, r, l, h⟩ => ⟨fb, m, S, ρ, r, l, (PostC.bd l h).imp fun x H1 ⟨m1, S1, d, e1, r1, p1, h1⟩ => h1 m1 H1 σ (Ext.refl _ _) r1 (l.mono e1)⟩
theorem c_ret (ha : PE X a (tE X.K W fa)) : PS X (.Return (some a) pos) (tC X.K W fun ρ S => (fa ρ S).th ρ fun d S1 => .ret d S1) :=
  (ps_ret ha).imp fun D σ H ⟨fb, m, S, ρ, r, l, h⟩ => ⟨fb, m, S, ρ, r, l, (PostC.bd l h).imp fun x H1 ⟨m1, S1, d, e1, r1, p1, h1⟩ => h1 m1 H1 x (Ext.refl _ _) r1 p1⟩
theorem c_retN : PS X (.Return none pos) (tC X.K W fun _ S => .ret .non S) := ps_retN.imp fun D σ H ⟨fb, m, S, ρ, r, l, h⟩ => h m H .non (Ext.refl _ _) r .non
theorem set_imp {K : PySem.W.Frag} {W : WX} {i : Nat} {D : Ends} {σ : L2.St} {H : Hp} (h : tC K W (fun ρ S => (fa ρ S).th ρ fun d S1 => .nx (ρ.set i (some d)) S1) D σ H) : tAsg (tE K W fa) (gName i) D σ H := by
  obtain ⟨fb, m, S, ρ, r, l, h⟩ := h
  exact ⟨fb, m, S, ρ, r, l, (PostC.bd l h).imp fun x H1 ⟨m1, S1, d, e1, r1, p1, h1⟩ => h1 m1 H1 _ (Ext.refl _ _) r1 ((l.mono e1).set i p1)⟩
theorem c_set {i : Nat} {x : Str} {p : Pos} (hN : X.N.Nodup) (hi : X.N[i]? = some x) (hx : L2.Loc X.env.scope x) (hf : X.fn x = true ∨ X.env.scope.names.lookup x = some .local) (ha : PE X a (tE X.K W fa)) (hs : swapsWith a (some (.Name x p)) pos.line X.env = pure false) :
    PS X (.Assign [.Name x p] a pos) (tC X.K W fun ρ S => (fa ρ S).th ρ fun d S1 => .nx (ρ.set i (some d)) S1) :=
  (ps_set hN hi hx ha hs hf).imp fun D σ H h => set_imp h
theorem c_stg {t : Expr} {is : List Nat} (ha : PE X a (tE X.K W fa)) (hg : PG X t (gT X.K (.many is))) (hs : swapsWithSole [t] a pos.line X.env = pure false) (hw : swappedStores [t] a X.env = pure none) (h1 : (assignEach [t] X.env).map (·.2) = [assign t X.env]) :
    PS X (.Assign [t] a pos) (tC X.K W fun ρ S => (fa ρ S).th ρ fun d S1 => match setTg (.many is) d ρ with
      | some ρ1 => .nx ρ1 S1
      | none => .bad) :=
  (ps_asg ha hg hs hw h1).imp fun D σ H ⟨fb, m, S, ρ, r, l, h⟩ => ⟨fb, m, S, ρ, r, l, (PostC.bd l h).imp fun x H1 ⟨m1, S1, d, e1, r1, p1, h1⟩ => by
    cases e : setTg (.many is) d ρ with
    | none => rw [e] at h1; exact h1.elim
    | some ρ1 =>
      rw [e] at h1
      exact ⟨fb, m1, S1, ρ, d, ρ1, r1, l.mono e1, .inl p1, e, fun σ1 l1 _ => h1 m1 H1 σ1 (Ext.refl _ _) r1 l1⟩⟩
def rSetD : V → V → V → Hp → (Hp → Prop) → Prop := fun o i v H Q => rSetL o i v H Q ∨ ∃ a H', o = .ref a ∧ DPut H a i v H' ∧ Q H'
theorem set_D (hu : X.A.units + 64 < cLine) : PSet X rSetD := by
  intro pins s σ H o i v ov iv u Q I ro ri rv h
  rcases h with h | ⟨a, H', eo, g, q⟩
  · exact set_list pins s σ H o i v ov iv u Q I ro ri rv h
  · subst eo
    obtain rfl : ov = Value.ref a := ro
    exact d_setItem (by omega) I g ri rv fun s' I' => ⟨H', I', q⟩
theorem mapk_reps {K : PySem.W.Frag} {fb m : List Addr} {H : Hp} {k : L2.Key} {d : PyD.D} {v : V} (r : Rep K fb m H d v) : ∀ (ks : List L2.Key) {ds : List PyD.D} {vs : List V}, Reps K fb m H ds vs → Reps K fb m H ((ks.zip ds).map fun p => if p.1 = k then d else p.2) ((ks.zip vs).map fun p => if p.1 = k then v else p.2)
  | [], _, _, _ => .nil
  | _ :: _, _, _, .nil => .nil
  | j :: ks, _, _, .cons r1 t => by
    rw [List.zip_cons_cons, List.map_cons, List.zip_cons_cons, List.map_cons]
    refine .cons ?_ (mapk_reps r ks t)
    by_cases e : j = k
    · rw [if_pos e, if_pos e]; exact r
    · rw [if_neg e, if_neg e]; exact r1
theorem dput_zip {K : PySem.W.Frag} {fb m : List Addr} {H : Hp} {ks : List L2.Key} {ds : List PyD.D} {vs : List V} (rr : Reps K fb m H ds vs) (hl : ks.length = ds.length) (k : L2.Key) {d : PyD.D} {v : V} (r : Rep K fb m H d v) :
    ∃ us, putK (ks.zip vs) k v = (dput ks ds k d).1.zip us ∧ (dput ks ds k d).1.length = (dput ks ds k d).2.length ∧ Reps K fb m H (dput ks ds k d).2 us := by
  have hv : ks.length = vs.length := hl.trans rr.length
  have hk : ((ks.zip vs).any fun kv => decide (kv.1 = k)) = hasK ks k := by rw [valV_any, key_mem rr hl]
  unfold putK dput
  rw [hk]
  by_cases h : hasK ks k = true
  · rw [if_pos h, if_pos h]
    refine ⟨(ks.zip vs).map fun p => if p.1 = k then v else p.2, ?_, ?_, ?_⟩
    · show (ks.zip vs).map (fun kv => if kv.1 = k then (kv.1, v) else kv) = ks.zip ((ks.zip vs).map fun p => if p.1 = k then v else p.2)
      clear hk h rr hl
      induction ks generalizing vs with
      | nil => rfl
      | cons j ks ih =>
        cases vs with
        | nil => cases hv
        | cons x xs =>
          rw [List.zip_cons_cons, List.map_cons, List.map_cons, List.zip_cons_cons, ← ih (by simpa using hv)]
          by_cases e : j = k
          · rw [if_pos e, if_pos e]
          · rw [if_neg e, if_neg e]
    · show ks.length = ((ks.zip ds).map _).length
      rw [List.length_map, List.length_zip, hl, Nat.min_self]
    · show Reps K fb m H ((ks.zip ds).map fun p => if p.1 = k then d else p.2) _
      exact mapk_reps r ks rr
  · rw [if_neg h, if_neg h]
    refine ⟨vs ++ [v], ?_, ?_, rr.app (.cons r .nil)⟩
    · show ks.zip vs ++ [(k, v)] = (ks ++ [k]).zip (vs ++ [v])
      rw [List.zip_append hv]; rfl
    · show (ks ++ [k]).length = (ds ++ [d]).length
      rw [List.length_append, List.length_append, hl]; rfl
open Classical in
theorem c_six {o i : Expr} {fo fi : Ro → Store → R D} {p : Pos} (hu : X.A.units + 64 < cLine) (he : PE X a (tE X.K W fa)) (ho : PE X o (tE X.K W fo)) (hi : PE X i (tE X.K W fi)) (hns : noSl i = true) : PS X (.Assign [.Subscript o i p] a pos) (tC X.K W fun ρ S => (fa ρ S).th ρ fun d S1 => (fo ρ S1).th ρ fun x S2 => (fi ρ S2).th ρ fun y S3 => match x, y with
    | .ref n, k => match S3[n]? with
      | some (.lst xs) => match k with
        | .int i => match L2.ixN xs.length i with
          | some j => .nx ρ (S3.set n (.lst (xs.set j d)))
          | none => .bad
        | _ => .bad
      | some (.dct ks vs) => match keyD k with
        | some k => if sizeOk (ks.length + 1) then .nx ρ (S3.set n (.dct (dput ks vs k d).1 (dput ks vs k d).2)) else .bad
        | none => .bad
      | _ => .bad
    | _, _ => .bad) :=
  (ps_asg he (pg_sub ho hi (set_D hu) (by intro _; cases i <;> first | rfl | cases hns)) (by cases a <;> rfl) (by cases a <;> rfl) rfl).imp fun D σ H ⟨fb, m, S, ρ, r, l, h⟩ => ⟨fb, m, S, ρ, r, l, (PostC.bd l h).imp fun v H1 ⟨m1, S1, d, e1, r1, p1, h1⟩ =>
    ⟨fb, m1, S1, ρ, r1, l.mono e1, (PostC.bd (l.mono e1) h1).imp fun x H2 ⟨m2, S2, d2, e2, r2, p2, h2⟩ =>
      ⟨fb, m2, S2, ρ, r2, (l.mono e1).mono e2, (PostC.bd ((l.mono e1).mono e2) h2).imp fun y H3 ⟨m3, S3, d3, e3, r3, p3, h3⟩ => by
        have lo := ((l.mono e1).mono e2).mono e3
        have pv := (p1.mono e2).mono e3
        have px := p2.mono e3
        cases d2 with
        | ref n =>
          dsimp only at h3
          split at h3
          · rename_i xs es
            split at h3
            · rename_i i
              split at h3
              · rename_i j ej
                cases p3
                obtain ⟨q, vs, rfl, hm, hv, rr⟩ := ref_at r3 px es
                obtain ⟨w1, w2⟩ := r3.wr hm es (rr.set j pv)
                exact .inl ⟨q, vs, i, j, rfl, rfl, hv, by rw [← rr.length]; exact ej, h3 _ _ _ w1 w2 (lo.mono w1)⟩
              · exact h3.elim
            · exact h3.elim
          · rename_i ks ds es
            split at h3
            · rename_i k ek
              by_cases hz : sizeOk (ks.length + 1)
              · rw [if_pos hz] at h3
                obtain ⟨q, vs, rfl, hm, hv, hl, rr⟩ := dct_at r3 px es
                obtain rfl := key_rep p3 ek
                obtain ⟨us, u1, u2, u3⟩ := dput_zip rr hl k pv
                have wr := r3.wrO (o' := .dct (dput ks ds k d).1 (dput ks ds k d).2) (u := .dK ((dput ks ds k d).1.zip us)) (vs := us) hm es rfl ⟨rfl, u2⟩ u3
                refine .inr ⟨q, _, rfl, DPut.k hv ?_, ?_⟩
                · rw [List.length_zip, ← rr.length, hl, Nat.min_self, ← hl]; exact szLt hz
                · rw [u1]
                  exact h3 _ _ _ wr.1 wr.2 (lo.mono wr.1)
              · rw [if_neg hz] at h3; exact h3.elim
            · exact h3.elim
          · exact h3.elim
        | _ => exact h3.elim⟩⟩⟩
theorem c_iff {sa sb : List Stmt} {ga gb : Ro → Store → Out} (hc : PT X c (tT X.K W (tru fc))) (ha : PSs X sa (tC X.K W ga)) (hb : PSs X sb (tC X.K W gb)) : PS X (.If c sa sb pos) (tC X.K W fun ρ S => (fc ρ S).th ρ fun d S1 => match truth S1 d with
    | some true => ga ρ S1
    | some false => gb ρ S1
    | none => .bad) :=
  (ps_if hc ha hb).imp fun D σ H ⟨fb, m, S, ρ, r, l, h⟩ => by
    refine ⟨fb, m, S, ρ, r, l, ?_⟩
    simp only [tru]
    dsimp only at h
    cases hf : fc ρ S with
    | ok d S1 =>
      rw [hf] at h
      simp only [R.bd_ok, R.th] at h ⊢
      cases ht : truth S1 d with
      | none => rw [ht] at h; exact h.elim
      | some k =>
        rw [ht] at h
        intro m' H' b' e r' p
        rw [show b' = k from p]
        cases k with
        | true => exact iteT ⟨fb, m', S1, ρ, r', l.mono e, PostC.mono e h⟩
        | false => exact iteF ⟨fb, m', S1, ρ, r', l.mono e, PostC.mono e h⟩
    | err x S => rw [hf] at h; exact fun m' H' c d e r' p => h m' H' σ c d e r' (l.mono e) p
    | bad => rw [hf] at h; exact h
theorem whileM_some {c : Ro → Store → R Bool} {b : Ro → Store → Out} {ρ : Ro} {S : Store} {K : PySem.W.Frag} {W : WX} {fb m : List Addr} {H : Hp} {D : Ends} (h : PostC K W fb m H D (whileM c b ρ S)) : ∃ n, PostC K W fb m H D (whileN c b n ρ S) := by
  unfold whileM at h
  split at h
  · exact ⟨_, h⟩
  · exact h.elim
theorem c_whl {sa : List Stmt} {cb : Ro → Store → R Bool} {ga : Ro → Store → Out} (hp : PassesOwn (model X.prog X.w) X.A X.env X.xe) (hc : PT X c (tT X.K W cb)) (ha : PSs X sa (tC X.K W ga)) : PS X (.While c sa [] pos) (tC X.K W fun ρ S => whileM cb ga ρ S) :=
  (ps_while hp hc ha).imp fun D σ H ⟨fb, m, S, ρ, r, l, h⟩ => by
    obtain ⟨n, hn⟩ := whileM_some h
    refine ⟨fun n σ H => ∃ fb m S ρ, Rel X.K fb m S H ∧ Lo X.K fb m H ρ σ ∧ PostC X.K W fb m H D (whileN cb ga n ρ S), ⟨n, fb, m, S, ρ, r, l, hn⟩, ?_⟩
    rintro n σ H ⟨fb, m, S, ρ, r, l, h⟩
    cases n with
    | zero => exact h.elim
    | succ n =>
      rw [whileN] at h
      refine ⟨fb, m, S, ρ, r, l, ?_⟩
      cases hf : cb ρ S with
      | err x S => rw [hf] at h; exact fun m' H' c d e r' p => h m' H' σ c d e r' (l.mono e) p
      | bad => rw [hf] at h; exact h
      | ok k S1 =>
        rw [hf] at h
        simp only [R.th] at h
        intro m' H' b' e r' p
        rw [show b' = k from p]
        cases k with
        | false =>
          simp only [Bool.false_eq_true, if_false] at h
          exact iteF (h m' H' σ e r' (l.mono e))
        | true =>
          simp only [if_true] at h
          refine iteT ⟨_, fun σ' H' hN => ⟨n, Nat.lt_succ_self n, hN⟩, fb, m', S1, ρ, r', l.mono e, ?_⟩
          cases ho : ga ρ S1 with
          | nx ρ2 S2 => rw [ho] at h; exact fun m2 H2 σ2 e2 r2 l2 => ⟨fb, m2, S2, ρ2, r2, l2, PostC.mono (e.trans e2) h⟩
          | cnt ρ2 S2 => rw [ho] at h; exact fun m2 H2 σ2 e2 r2 l2 => ⟨fb, m2, S2, ρ2, r2, l2, PostC.mono (e.trans e2) h⟩
          | brk ρ2 S2 => rw [ho] at h; exact fun m2 H2 σ2 e2 r2 l2 => h m2 H2 σ2 (e.trans e2) r2 l2
          | ret d S2 => rw [ho] at h; exact fun m2 H2 σ2 e2 r2 l2 => h m2 H2 σ2 (e.trans e2) r2 l2
          | err x ρ2 S2 => rw [ho] at h; exact fun m2 H2 σ2 c d e2 r2 l2 p => h m2 H2 σ2 c d (e.trans e2) r2 l2 p
          | bad => rw [ho] at h; exact h
open Classical in
theorem forM_inv {K : PySem.W.Frag} {W : WX} {fb m : List Addr} {H : Hp} {D : Ends} {t : It} {tg : Tg} {b : Ro → Store → Out} {x : PyD.D} {xs : List PyD.D} {ρ : Ro} {S : Store} (h : PostC K W fb m H D (forM t tg b (x :: xs) ρ S)) : t.still S ∧ ∃ ρ1, setTg tg x ρ = some ρ1 ∧ PostC K W fb m H D (match b ρ1 S with
        | .nx ρ2 S2 => forM t tg b xs ρ2 S2
        | .cnt ρ2 S2 => forM t tg b xs ρ2 S2
        | .brk ρ2 S2 => .nx ρ2 S2
        | o => o) := by
  rw [forM] at h
  by_cases st : t.still S
  · rw [if_pos st] at h
    cases e : setTg tg x ρ with
    | none => rw [e] at h; exact h.elim
    | some ρ1 => rw [e] at h; exact ⟨st, ρ1, rfl, h⟩
  · rw [if_neg st] at h; exact h.elim
open Classical in
theorem forM_end {K : PySem.W.Frag} {W : WX} {fb m : List Addr} {H : Hp} {D : Ends} {t : It} {tg : Tg} {b : Ro → Store → Out} {ρ : Ro} {S : Store} (h : PostC K W fb m H D (forM t tg b [] ρ S)) : t.still S ∧ PostC K W fb m H D (.nx ρ S) := by
  rw [forM] at h
  by_cases st : t.still S
  · rw [if_pos st] at h; exact ⟨st, h⟩
  · rw [if_neg st] at h; exact h.elim
theorem c_for {te iter : Expr} {sa : List Stmt} {fi : Ro → Store → R It} {tg : Tg} {ga : Ro → Store → Out} (hp : PassesOwn (model X.prog X.w) X.A X.env X.xe) (hc : X.calm = true) (hi : PI X te iter (tI X.K W tg fi)) (hg : PG X te (gT X.K tg)) (hb : PSs X sa (tC X.K W ga)) (hs : ∀ x, foldedSetIterable iter X.env x = pure x) :
    PS X (.For te iter sa [] pos) (tC X.K W fun ρ S => (fi ρ S).th ρ fun t S1 => forM t tg ga t.items ρ S1) :=
  (ps_for hp hc hi hg hb hs).imp fun D σ H ⟨fb, m, S, ρ, r, l, h⟩ => ⟨fb, m, S, ρ, r, l, (PostC.bd l h).imp fun J H1 ⟨m1, S1, t, e1, r1, it, h1⟩ => by
    refine ⟨fun i n σc Hc => i + n = t.items.length ∧ ∃ m2 S2 ρ2, Ext m1 H1 m2 Hc ∧ Rel X.K fb m2 S2 Hc ∧ Lo X.K fb m2 Hc ρ2 σc ∧ PostC X.K W fb m2 Hc D (forM t tg ga (t.items.drop i) ρ2 S2), ⟨t.items.length, by simp, m1, S1, ρ, Ext.refl _ _, r1, l.mono e1, h1⟩, ?_⟩
    rintro i n σc Hc ⟨hin, m2, S2, ρ2, e2, r2, l2, hp⟩
    by_cases hi : i < t.items.length
    · rw [List.drop_eq_getElem_cons hi] at hp
      obtain ⟨st, ρ1, hset, hp⟩ := forM_inv hp
      obtain ⟨hgo, _⟩ := it fb m2 S2 Hc (fun a h => .inl h) e2 r2 st
      obtain ⟨hg1, hy⟩ := hgo i t.items[i] (List.getElem?_eq_getElem hi)
      refine .inr ⟨hg1, _, fun σ' H' hN => ⟨n - 1, by omega, hN⟩, fun x H' hyl => ?_⟩
      obtain ⟨e3, r3, rx⟩ := hy x H' hyl
      refine ⟨fb, m2, S2, ρ2, t.items[i], ρ1, r3, l2.mono e3, rx, hset, fun σ1 l3 _ => ⟨fb, m2, S2, ρ1, r3, l3, ?_⟩⟩
      have e23 := e2.trans e3
      cases ho : ga ρ1 S2 with
      | nx ρ4 S4 => rw [ho] at hp; exact fun m4 H4 σ4 e4 r4 l4 => ⟨by omega, m4, S4, ρ4, e23.trans e4, r4, l4, PostC.mono (e3.trans e4) hp⟩
      | cnt ρ4 S4 => rw [ho] at hp; exact fun m4 H4 σ4 e4 r4 l4 => ⟨by omega, m4, S4, ρ4, e23.trans e4, r4, l4, PostC.mono (e3.trans e4) hp⟩
      | brk ρ4 S4 => rw [ho] at hp; exact fun m4 H4 σ4 e4 r4 l4 => hp m4 H4 σ4 (e3.trans e4) r4 l4
      | ret d S4 => rw [ho] at hp; exact fun m4 H4 σ4 e4 r4 l4 => hp m4 H4 σ4 (e3.trans e4) r4 l4
      | err x ρ4 S4 => rw [ho] at hp; exact fun m4 H4 σ4 c d e4 r4 l4 p => hp m4 H4 σ4 c d (e3.trans e4) r4 l4 p
      | bad => rw [ho] at hp; exact hp
    · have hi' : t.items.length ≤ i := Nat.le_of_not_lt hi
      rw [List.drop_eq_nil_of_le hi'] at hp
      obtain ⟨st, hp⟩ := forM_end hp
      obtain ⟨_, hst⟩ := it fb m2 S2 Hc (fun a h => .inl h) e2 r2 st
      exact .inl ⟨hst i (by omega), hp m2 Hc σc (Ext.refl _ _) r2 l2⟩⟩
theorem sta (e : Expr) (h : nsB e = true) : (match e with | .Starred .. => true | _ => false) = false := by cases e <;> first | rfl | cases h
theorem swp2 {x y : Str} {px py p p2 : Pos} {k k2 : Nat} {a b : Expr} {env : Env} (hb : env.blockKind = .function) (hx : env.kindOf x = some .local) (hy : env.kindOf y = some .local) (hl : py.line = px.line) (hne : x ≠ y) (na : nsB a = true) (nb : nsB b = true)
    (hf : ([a, b].all (foldedForSure 8)) = false) (hc : ([a, b].all (constantsAlone 8)) = false) : swappedStores [.Tuple [.Name x px, .Name y py] k p] (.Tuple [a, b] k2 p2) env = pure (some [x, y]) := by
  have hs : ([a, b].any fun | .Starred .. => true | _ => false) = false := by
    cases a <;> first | (cases na; done) | (cases b <;> first | rfl | (cases nb; done))
  unfold swappedStores
  simp only [List.length_cons, List.length_nil, hb, hs, hf, hc, hx, hy, Expr.pos, hl, List.head?_cons, Option.map_some, Option.getD_some, List.filterMap_cons, List.filterMap_nil, beq_self_eq_true, Bool.and_self, if_true, List.eraseDups_cons, List.eraseDups_nil]
  have hxy : (y == x) = false := by simpa using Ne.symm hne
  simp [hxy, List.eraseDups_cons]
  intro h
  exfalso
  rcases h with h | h
  · cases a <;> first | (cases h; done) | cases na
  · cases b <;> first | (cases h; done) | cases nb
theorem c_par2 {i j : Nat} {x y : Str} {px py pt : Pos} {kt k2 : Nat} {pt2 : Pos} {fs : Ro → Store → R (List PyD.D)} (hc : X.calm = true) (hN : X.N.Nodup) (hi : X.N[i]? = some x) (hj : X.N[j]? = some y) (hij : i ≠ j) (hx : X.env.scope.names.lookup x = some .local) (hy : X.env.scope.names.lookup y = some .local)
    (ha : PA X [a, b] (tA X.K W fs)) (hw : swappedStores [.Tuple [.Name x px, .Name y py] kt pt] (.Tuple [a, b] k2 pt2) X.env = pure (some [x, y])) :
    PS X (.Assign [.Tuple [.Name x px, .Name y py] kt pt] (.Tuple [a, b] k2 pt2) pos) (tC X.K W fun ρ S => (fs ρ S).th ρ fun ds S1 => if ds.length = [i, j].length then .nx (setAll ρ [i, j] ds) S1 else .bad) :=
  (ps_par hc hN hi hj hij hx hy ha hw rfl).imp fun D σ H ⟨fb, m, S, ρ, r, l, h⟩ => ⟨fb, m, S, ρ, r, l, (PostC.bd l h).imp fun vs H1 ⟨m1, S1, ds, e1, r1, p1, h1⟩ => by
    by_cases hz : ds.length = [i, j].length
    · rw [if_pos hz] at h1
      cases p1 with
      | nil => cases hz
      | cons q1 p1 =>
        cases p1 with
        | nil => cases hz
        | cons q2 p1 =>
          cases p1 with
          | cons _ _ => cases hz
          | nil => exact ⟨_, _, rfl, h1 m1 H1 _ (Ext.refl _ _) r1 (((l.mono e1).set i q1).set j q2)⟩
    · rw [if_neg hz] at h1; exact h1.elim⟩
theorem swp3 {x y z : Str} {px py pz p p2 : Pos} {k k2 : Nat} {a b c : Expr} {env : Env} (hb : env.blockKind = .function) (hx : env.kindOf x = some .local) (hy : env.kindOf y = some .local) (hz : env.kindOf z = some .local) (hl : py.line = px.line) (hl2 : pz.line = px.line) (h1 : x ≠ y) (h2 : x ≠ z) (h3 : y ≠ z) (na : nsB a = true) (nb : nsB b = true) (nc : nsB c = true)
    (hf : ([a, b, c].all (foldedForSure 8)) = false) (hc : ([a, b, c].all (constantsAlone 8)) = false) : swappedStores [.Tuple [.Name x px, .Name y py, .Name z pz] k p] (.Tuple [a, b, c] k2 p2) env = pure (some [x, y, z]) := by
  have ss : ∀ e : Expr, nsB e = true → (match e with | .Starred .. => true | _ => false) = false := fun e h => by cases e <;> first | rfl | cases h
  have hs : ([a, b, c].any fun | .Starred .. => true | _ => false) = false := by
    simp only [List.any_cons, List.any_nil, ss a na, ss b nb, ss c nc, Bool.or_self]
  unfold swappedStores
  simp only [List.length_cons, List.length_nil, hb, hs, hf, hc, hx, hy, hz, Expr.pos, hl, hl2, List.head?_cons, Option.map_some, Option.getD_some, List.filterMap_cons, List.filterMap_nil, beq_self_eq_true, Bool.and_self, if_true, List.eraseDups_cons, List.eraseDups_nil]
  have e1 : (y == x) = false := by simpa using Ne.symm h1
  have e2 : (z == x) = false := by simpa using Ne.symm h2
  have e3 : (z == y) = false := by simpa using Ne.symm h3
  simp [e1, e2, e3, List.eraseDups_cons]
  intro h
  exfalso
  rcases h with h | h | h
  · cases a <;> first | (cases h; done) | cases na
  · cases b <;> first | (cases h; done) | cases nb
  · cases c <;> first | (cases h; done) | cases nc
theorem c_par3 {i j n : Nat} {x y z : Str} {px py pz pt : Pos} {kt k2 : Nat} {pt2 : Pos} {fs : Ro → Store → R (List PyD.D)} (hc : X.calm = true) (hN : X.N.Nodup) (hi : X.N[i]? = some x) (hj : X.N[j]? = some y) (hn : X.N[n]? = some z) (hij : i ≠ j) (hin : i ≠ n) (hjn : j ≠ n) (hx : X.env.scope.names.lookup x = some .local) (hy : X.env.scope.names.lookup y = some .local) (hz : X.env.scope.names.lookup z = some .local)
    (ha : PA X [a, b, c] (tA X.K W fs)) (hw : swappedStores [.Tuple [.Name x px, .Name y py, .Name z pz] kt pt] (.Tuple [a, b, c] k2 pt2) X.env = pure (some [x, y, z])) :
    PS X (.Assign [.Tuple [.Name x px, .Name y py, .Name z pz] kt pt] (.Tuple [a, b, c] k2 pt2) pos) (tC X.K W fun ρ S => (fs ρ S).th ρ fun ds S1 => if ds.length = [i, j, n].length then .nx (setAll ρ [i, j, n] ds) S1 else .bad) :=
  (ps_par3 hc hN hi hj hn hij hin hjn hx hy hz ha hw rfl).imp fun D σ H ⟨fb, m, S, ρ, r, l, h⟩ => ⟨fb, m, S, ρ, r, l, (PostC.bd l h).imp fun vs H1 ⟨m1, S1, ds, e1, r1, p1, h1⟩ => by
    by_cases hz : ds.length = [i, j, n].length
    · rw [if_pos hz] at h1
      cases p1 with
      | nil => cases hz
      | cons q1 p1 =>
        cases p1 with
        | nil => cases hz
        | cons q2 p1 =>
          cases p1 with
          | nil => cases hz
          | cons q3 p1 =>
            cases p1 with
            | cons _ _ => cases hz
            | nil => exact ⟨_, _, _, rfl, h1 m1 H1 _ (Ext.refl _ _) r1 ((((l.mono e1).set i q1).set j q2).set n q3)⟩
    · rw [if_neg hz] at h1; exact h1.elim⟩
theorem aug_imp {K : PySem.W.Frag} {W : WX} {i : Nat} {o : Bo} {f : Int → Int → Int} (hof : ∀ x y z, augD o x y = some z → ∃ a b, x = .int a ∧ y = .int b ∧ z = .int (f a b)) {D : Ends} {σ : L2.St} {H : Hp}
    (h : tC K W (fun ρ S => match ρ.getD i none with
      | some x => (fa ρ S).th ρ fun y S1 => match augD o x y with
        | some z => .nx (ρ.set i (some z)) S1
        | none => .bad
      | none => .bad) D σ H) : tAug i (tE K W fa) (ipI f) D σ H := by
  obtain ⟨fb, m, S, ρ, r, l, h⟩ := h
  dsimp only at h
  cases e : ρ.getD i none with
  | none => rw [e] at h; exact h.elim
  | some d0 =>
    rw [e] at h
    obtain ⟨v, h1, h2⟩ := l.get e
    refine ⟨v, h1, fb, m, S, ρ, r, l, (PostC.bd l h).imp fun y H1 ⟨m1, S1, d, e1, r1, p1, h3⟩ => ?_⟩
    cases e2 : augD o d0 d with
    | none => rw [e2] at h3; exact h3.elim
    | some z =>
      rw [e2] at h3
      obtain ⟨a, b, rfl, rfl, rfl⟩ := hof _ _ _ e2
      cases h2
      cases p1
      exact ⟨a, b, rfl, rfl, h3 m1 H1 _ (Ext.refl _ _) r1 ((l.mono e1).set i (.int _))⟩
theorem c_aug {i : Nat} {o : Bo} {x : Str} {p : Pos} (hN : X.N.Nodup) (hi : X.N[i]? = some x) (hx : L2.Loc X.env.scope x) (hf : X.fn x = true ∨ X.env.scope.names.lookup x = some .local) (ha : PE X a (tE X.K W fa)) (ho : o = .add ∨ o = .sub) :
    PS X (.AugAssign (.Name x p) (opB o) a pos) (tC X.K W fun ρ S => match ρ.getD i none with
      | some x => (fa ρ S).th ρ fun y S1 => match augD o x y with
        | some z => .nx (ρ.set i (some z)) S1
        | none => .bad
      | none => .bad) := by
  rcases ho with rfl | rfl
  · refine (ps_aug hN hi hx ha ip_add hf).imp fun D σ H h => aug_imp (f := fun i j => i + j) (fun x y z h => ?_) h
    cases x <;> cases y <;> first | exact ⟨_, _, rfl, rfl, (Option.some.inj h).symm⟩ | cases h
  · refine (ps_aug hN hi hx ha ip_sub hf).imp fun D σ H h => aug_imp (f := fun i j => i - j) (fun x y z h => ?_) h
    cases x <;> cases y <;> first | exact ⟨_, _, rfl, rfl, (Option.some.inj h).symm⟩ | cases h
theorem pmk0 {C : Addr} {bmB : List Value} {B newId initId : String} {x : Str} {p : Pos} (F : PySem.ExcBaseFacts B newId initId bmB) (q : PySem.W.excIn X.K C bmB newId = true) (gC : X.mg x = some (.ref C)) (kC : PySem.W.keepIn X.K (.ref C) = true) (r : Raises X (.ref C)) (hg : Gl X x)
    (hdb : (x == ("__debug__" : Str)) = false) : L2N.PMk X (.Call (.Name x p) [] [] pos) (fun _ H Q => Q (.ref C) none H) := by
  intro pins s σ H Q I h
  refine wpAny_Call_Name_kw (ld_glob I hg gC ?_ hdb)
  refine PySem.W.callWith_K0 I.kIn kC ?_
  obtain ⟨bm, N, nm, qn, bs, hdct, sn, sub, ab, col, dd, k0, k1, k2, k3, k5, mN, hC, hN, hni, T⟩ := exc_obj I.kIn q
  exact wpAny_call_exc_subT F T hC hN hni (fun h' e hm => L2N.mk_of I hm r h (I.hok.gone hm.new)) (by show 0 ≤ sizeLine; rw [sizeLine_eq]; omega)
theorem c_raise {g : G} {k : Ck} (st : Sta X W g k) (hcalm : k.calm = true) {c : Str} {p p2 : Pos} (hc : k.xr c = true) (hg : gloB k.names c = true) (hd : nodbg c = true) : PS X (.Raise (some (.Call (.Name c p) [] [] p2)) none pos) (tC X.K W fun ρ S => evC g (.raise c .nil) ρ S) := by
  obtain ⟨C, B, nw, ni, bm, F, q, gC, kC, r, cv⟩ := st.xc c hc
  refine (L2N.ps_raise (st.calm hcalm) st.tk (pmk0 F q gC kC r (st.glo hg) (nodbg_1 hd))).imp fun D σ H ⟨fb, m, S, ρ, rl, l, h⟩ => ?_
  have h : PostC X.K W fb m H D (evC g (.raise c .nil) ρ S) := h
  rw [evC.eq_def] at h
  dsimp only at h
  rw [evEs.eq_def] at h
  exact h m H σ (.ref C) none (Ext.refl _ _) rl l ⟨cv, [], .inl ⟨rfl, rfl⟩, .nil⟩
end
end PyD

namespace PyD
open PySem PySem.Spec PyProof.Rows L2
variable [TB]
def noComp : Expr → Bool
  | .ListComp .. => false
  | .SetComp .. => false
  | .DictComp .. => false
  | _ => true
def noTup : Expr → Bool
  | .Tuple .. => false
  | _ => true
def shadow (sc : Scope) (n : Str) : Bool := sc.names.any fun p => p.1 == n && (p.2 == .local || p.2 == .cell)
def parOk (vs : List Expr) : Bool := !(vs.all (foldedForSure 8)) && !(vs.all (constantsAlone 8)) && vs.all nsB
def notLoc (k : Ck) (es : List Expr) : Bool := es.any fun e => match e with
  | .Name n _ => !lclB k.names n
  | _ => false
mutual
def chkC (k : Ck) (c : C) (s : Stmt) : Bool := match c with
  | .skip => match s with
    | .Pass _ => true
    | .Expr (.Constant (.str _) _ _) _ => true
    | _ => false
  | .set i e => match s with
    | .Assign [.Name n p] v sp => decide (k.N[i]? = some n) && locB k.names n && chkE k e v && (match v with
      | .ListComp _ _ sc vp => !lclB k.names n || (p.line == vp.line && !shadow sc n)
      | .SetComp .. => false
      | .DictComp .. => false
      | _ => true)
    | _ => false
  | .stg tg e => match s with
    | .Assign [.Tuple es kk tp] v _ => chkTg k (.many tg) (.Tuple es kk tp) && chkE k e v && (noTup v || !(es.length == 2 || es.length == 3) || notLoc k es)
    | _ => false
  | .par is es => match s with
    | .Assign [.Tuple [.Name x px, .Name y py] _ _] (.Tuple [a, b] _ _) _ => match is with
      | [i, j] => k.calm && decide (k.N[i]? = some x) && decide (k.N[j]? = some y) && !(i == j) && lclB k.names x && lclB k.names y && py.line == px.line && parOk [a, b] && chkEs k es [a, b]
      | _ => false
    | .Assign [.Tuple [.Name x px, .Name y py, .Name z pz] _ _] (.Tuple [a, b, c] _ _) _ => match is with
      | [i, j, n] => k.calm && decide (k.N[i]? = some x) && decide (k.N[j]? = some y) && decide (k.N[n]? = some z) && !(i == j) && !(i == n) && !(j == n) && lclB k.names x && lclB k.names y && lclB k.names z && py.line == px.line && pz.line == px.line && parOk [a, b, c] && chkEs k es [a, b, c]
      | _ => false
    | _ => false
  | .six o i e => match s with
    | .Assign [.Subscript ov iv _] v _ => chkE k o ov && chkE k i iv && chkE k e v && noSl iv
    | _ => false
  | .aug i o e => match s with
    | .AugAssign (.Name n _) p v _ => decide (k.N[i]? = some n) && locB k.names n && opB' o p && (match o with
      | .add => true
      | .sub => true
      | _ => false) && chkE k e v
    | _ => false
  | .ex e => match s with
    | .Expr v _ => chkE k e v && noComp v
    | _ => false
  | .ret e => match s with
    | .Return (some v) _ => chkE k e v
    | _ => false
  | .retN => match s with
    | .Return none _ => true
    | _ => false
  | .iff c a b => match s with
    | .If t x y _ => chkE k c t && c.tok && chkCs k a x && chkCs k b y
    | _ => false
  | .whl c a => match s with
    | .While t x [] _ => chkE k c t && c.tok && chkCs k a x
    | _ => false
  | .fr tg it a => match s with
    | .For t i x [] _ => k.calm && chkTg k tg t && chkI k it t i && noSet i && chkCs k a x
    | _ => false
  | .brk => match s with
    | .Break _ => true
    | _ => false
  | .cnt => match s with
    | .Continue _ => true
    | _ => false
  | .never => true
  | .raise c es => match s with
    | .Raise (some (.Call (.Name n _) [] [] _)) none _ => k.calm && decide (n = c) && gloB k.names n && nodbg n && k.xr n && (match es with
      | .nil => true
      | _ => false)
    | _ => false
  | .tryx _ _ => false
def chkCs (k : Ck) (cs : Cs) (ss : List Stmt) : Bool := match cs with
  | .nil => match ss with
    | [] => true
    | _ => false
  | .cons c cs => match ss with
    | s :: ss => chkC k c s && chkCs k cs ss
    | _ => false
end
structure StaS (X : Cx) (W : WX) (g : G) (k : Ck) : Prop extends Sta X W g k where
  po : PassesOwn (model X.prog X.w) X.A X.env X.xe
  bk : X.env.blockKind = .function
  fk : X.env.scope.kind = .function
  ex : ∀ n, X.env.scope.names.lookup n = k.names.lookup n
theorem swaps_no {e : Expr} {t : Option Expr} {l : Nat} {env : Env} (h : noComp e = true) : swapsWith e t l env = pure false := by
  cases e <;> first | rfl | cases h
theorem swapped_no {e t : Expr} {env : Env} (h : noTup e = true) : swappedStores [t] e env = pure none := by
  cases e <;> first | (cases t <;> rfl; done) | cases h
theorem swapped_len {es vs : List Expr} {k k2 : Nat} {p p2 : Pos} {env : Env} (h : (es.length == 2 || es.length == 3) = false) : swappedStores [.Tuple es k p] (.Tuple vs k2 p2) env = pure none := by
  unfold swappedStores
  simp only [h, Bool.not_false, Bool.true_or, if_true]
theorem fm_lt {α β : Type} {f : α → Option β} : ∀ {l : List α}, (∃ a ∈ l, f a = none) → (l.filterMap f).length < l.length
  | [], ⟨_, h, _⟩ => nomatch h
  | a :: l, ⟨b, hb, e⟩ => by
    rw [List.filterMap_cons, List.length_cons]
    cases hf : f a with
    | none => exact Nat.lt_succ_of_le (List.length_filterMap_le f l)
    | some c =>
      rcases List.mem_cons.mp hb with z | z
      · rw [z, hf] at e; cases e
      · simp only [List.length_cons]
        exact Nat.succ_lt_succ (fm_lt ⟨b, z, e⟩)
theorem swapped_cell {es vs : List Expr} {k k2 : Nat} {p p2 : Pos} {env : Env} {n : Str} {pn : Pos} (hm : Expr.Name n pn ∈ es) (hk : (env.kindOf n == some .local) = false) : swappedStores [.Tuple es k p] (.Tuple vs k2 p2) env = pure none := by
  unfold swappedStores
  have hn := fm_lt (l := es) (f := fun
    | .Name id pos => if env.kindOf id == some .local && pos.line == ((es.head?.map (·.pos.line)).getD 0) then some id else none
    | _ => none) ⟨_, hm, by simp only [hk, Bool.false_and, Bool.false_eq_true, if_false]⟩
  simp only
  split
  · rfl
  · split
    · rfl
    · rw [if_pos]
      rw [Bool.or_eq_true]
      left
      rw [bne_iff_ne]
      exact Nat.ne_of_lt hn
section
variable {X : Cx} {W : WX} {g : G} {k : Ck}
theorem soSetComp {own : Bool} {l : L} (st : StaS X W g k) {i : Nat} {n : Str} {p sp : Pos} {x : Expr} {sc : Scope} {elt : Expr} {gens : List Comprehension} {vp : Pos} (hi : decide (k.N[i]? = some n) = true) (hl : lclB k.names n = true) (hx : x = .ListComp elt gens sc vp) (h : chkL k l x = true)
    (hp : (p.line == vp.line) = true) (hsh : shadow sc n = false) : PS X (.Assign [.Name n p] x sp) (tC X.K W fun ρ S => (evE g ρ (.new own l) S).th ρ fun d S1 => .nx (ρ.set i (some d)) S1) := by
  cases l with
  | comp ow tg it cond e =>
    rw [chkL.eq_def] at h; dsimp only at h
    split at h
    · rename_i y t iter ifs sc' p'
      cases hx
      simp only [Bool.and_eq_true] at h
      obtain ⟨⟨⟨⟨⟨⟨h1, h2⟩, h3⟩, h4⟩, h5⟩, h6⟩, h7⟩ := h
      have hloc := st.lcl hl
      have hsw : swapsWith (.ListComp elt [⟨t, iter, ifs, 0⟩] sc vp) (some (.Name n p)) sp.line X.env = pure true := by
        show (pure (X.env.blockKind == .function && X.env.kindOf n == some .local && p.line == vp.line && !(sc.names.any fun (m, k) => m == n && (k == .local || k == .cell))) : Sem Bool) = pure true
        have e1 : X.env.kindOf n = some .local := hloc
        have e2 : (sc.names.any fun (m, k) => m == n && (k == .local || k == .cell)) = false := hsh
        rw [st.bk, e1, hp, e2]
        rfl
      cases cond with
      | nil =>
        cases ifs with
        | nil =>
          by_cases hk : k.calm = true
          · rw [if_pos hk] at h1
            refine PS.imp (PSsetLc (fc := fun _ S => .ok true S) (st.calm hk) st.nd (st.at hi) hloc hsw (soI it st.toSta h1 (tg_many h5)) (st.blkOk h3) (fun i hi => by simpa using List.all_eq_true.mp h4 i hi) (fun s H C cl fp => so_tg (st.toSta.blk hk s H sc C cl fp) h5) (fun s H C cl fp => ?_) (fun s H C cl fp => soE e (st.toSta.blk hk s H sc C cl fp) h7) (folded_set h2)) fun D σ H q => ?_
            · refine ⟨fun pins s σ H Q I ⟨fb, m, S, ρ, r, l, h⟩ => pts_nil.run pins s σ H Q I ?_⟩
              exact h.now r rfl
            · exact new_imp (own := own) (set_imp q)
          · rw [if_neg hk] at h1
            have hk : k.calm = false := by simpa using hk
            obtain ⟨p0, hot, hp⟩ := st.hot hk
            refine PS.imp (PSsetLcH (fc := fun _ S => .ok true S) hot hp st.nd (st.at hi) hloc hsw (soZ it st.toSta h1 (tg_many h5)) (st.blkOk h3) (fun i hi => by simpa using List.all_eq_true.mp h4 i hi) (fun s H C cl fp => so_tg (st.toSta.blkH hk hot s H sc C cl fp) h5) (fun s H C cl fp => ?_) (fun s H C cl fp => soE e (st.toSta.blkH hk hot s H sc C cl fp) h7) (folded_set h2)) fun D σ H q => ?_
            · refine ⟨fun pins s σ H Q I ⟨fb, m, S, ρ, r, l, h⟩ => pts_nil.run pins s σ H Q I ?_⟩
              exact h.now r rfl
            · exact new_imp (own := own) (set_imp q)
        | cons _ _ => cases h6
      | cons c cs =>
        cases cs with
        | cons _ _ => cases ifs <;> cases h6
        | nil =>
          cases ifs with
          | nil => cases h6
          | cons z zs =>
            cases zs with
            | cons _ _ => cases h6
            | nil =>
              have h6' : (chkE { k with names := sc.names, tr := false, xi := fun _ => false } c z && c.tok) = true := h6
              simp only [Bool.and_eq_true] at h6'
              by_cases hk : k.calm = true
              · rw [if_pos hk] at h1
                refine PS.imp (PSsetLc (fc := tru fun ρ S => evE g ρ c S) (st.calm hk) st.nd (st.at hi) hloc hsw (soI it st.toSta h1 (tg_many h5)) (st.blkOk h3) (fun i hi => by simpa using List.all_eq_true.mp h4 i hi) (fun s H C cl fp => so_tg (st.toSta.blk hk s H sc C cl fp) h5) (fun s H C cl fp => pts_one (soT c (st.toSta.blk hk s H sc C cl fp) h6'.1 h6'.2)) (fun s H C cl fp => soE e (st.toSta.blk hk s H sc C cl fp) h7) (folded_set h2)) fun D σ H q => ?_
                exact new_imp (own := own) (set_imp q)
              · rw [if_neg hk] at h1
                have hk : k.calm = false := by simpa using hk
                obtain ⟨p0, hot, hp⟩ := st.hot hk
                refine PS.imp (PSsetLcH (fc := tru fun ρ S => evE g ρ c S) hot hp st.nd (st.at hi) hloc hsw (soZ it st.toSta h1 (tg_many h5)) (st.blkOk h3) (fun i hi => by simpa using List.all_eq_true.mp h4 i hi) (fun s H C cl fp => so_tg (st.toSta.blkH hk hot s H sc C cl fp) h5) (fun s H C cl fp => pts_one (soT c (st.toSta.blkH hk hot s H sc C cl fp) h6'.1 h6'.2)) (fun s H C cl fp => soE e (st.toSta.blkH hk hot s H sc C cl fp) h7) (folded_set h2)) fun D σ H q => ?_
                exact new_imp (own := own) (set_imp q)
    · cases h
  | _ =>
    subst hx
    cases h
theorem new_only {e : E} {elt : Expr} {gens : List Comprehension} {sc : Scope} {vp : Pos} (h : chkE k e (.ListComp elt gens sc vp) = true) : ∃ own l, e = .new own l := by
  cases e <;> first | exact ⟨_, _, rfl⟩ | cases h
theorem so_set (st : StaS X W g k) {i : Nat} {e : E} {s : Stmt} (h : chkC k (.set i e) s = true) : PS X s (tC X.K W fun ρ S => evC g (.set i e) ρ S) := by
  rw [chkC.eq_def] at h; dsimp only at h
  split at h
  · rename_i n p v sp
    simp only [Bool.and_eq_true] at h
    obtain ⟨⟨⟨h1, h2⟩, h3⟩, h4⟩ := h
    obtain ⟨l1, l2⟩ := st.loc h2
    have plain : swapsWith v (some (.Name n p)) sp.line X.env = pure false → PS X (.Assign [.Name n p] v sp) (tC X.K W fun ρ S => evC g (.set i e) ρ S) := fun hs => c_set st.nd (st.at h1) l1 l2 (soE e st.toSta h3) hs
    cases v with
    | ListComp elt gens sc vp =>
      have h4' : (!lclB k.names n || (p.line == vp.line && !shadow sc n)) = true := h4
      by_cases hl : lclB k.names n = true
      · rw [hl] at h4'
        simp only [Bool.not_true, Bool.false_or, Bool.and_eq_true, Bool.not_eq_true'] at h4'
        obtain ⟨own, l, rfl⟩ := new_only h3
        have h3' : chkL k l (.ListComp elt gens sc vp) = true := h3
        exact soSetComp st h1 hl rfl h3' h4'.1 h4'.2
      · refine plain ?_
        show (pure (X.env.blockKind == .function && X.env.kindOf n == some .local && p.line == vp.line && !(sc.names.any fun (m, k) => m == n && (k == .local || k == .cell))) : Sem Bool) = pure false
        have e1 : (X.env.kindOf n == some .local) = false := by
          show (X.env.scope.names.lookup n == some .local) = false
          rw [st.ex n]
          unfold lclB at hl
          cases hq : k.names.lookup n with
          | none => rfl
          | some kd =>
            rw [hq] at hl
            cases kd <;> first | rfl | exact absurd rfl hl
        rw [e1, Bool.and_false, Bool.false_and, Bool.false_and]
    | SetComp _ _ _ _ => cases h4
    | DictComp _ _ _ _ _ => cases h4
    | _ => exact plain rfl
  · cases h
theorem so_par (st : StaS X W g k) {is : List Nat} {es : Es} {s : Stmt} (h : chkC k (.par is es) s = true) : PS X s (tC X.K W fun ρ S => evC g (.par is es) ρ S) := by
  rw [chkC.eq_def] at h; dsimp only at h
  split at h
  · rename_i x px y py k1 p1 a b k2 p2 pos
    split at h
    · rename_i i j
      simp only [Bool.and_eq_true, Bool.not_eq_true'] at h
      obtain ⟨⟨⟨⟨⟨⟨⟨⟨hc0, h1⟩, h2⟩, h3⟩, h4⟩, h5⟩, h6⟩, h7⟩, h8⟩ := h
      unfold parOk at h7
      simp only [Bool.and_eq_true, Bool.not_eq_true'] at h7
      have hij : i ≠ j := by simpa using h3
      have hxy : x ≠ y := fun z => by
        rw [← z] at h2
        exact hij (nodup_ix st.nd (st.at h1) (st.at h2))
      have hns : ∀ e ∈ [a, b], nsB e = true := List.all_eq_true.mp h7.2
      exact c_par2 (st.calm hc0) st.nd (st.at h1) (st.at h2) hij (st.lcl h4) (st.lcl h5) (soEs es st.toSta h8)
        (swp2 st.bk (st.lcl h4) (st.lcl h5) (eq_of_beq h6) hxy (hns a (by simp)) (hns b (by simp)) h7.1.1 h7.1.2)
    · cases h
  · rename_i x px y py z pz k1 p1 a b c k2 p2 pos
    split at h
    · rename_i i j n
      simp only [Bool.and_eq_true, Bool.not_eq_true'] at h
      obtain ⟨⟨⟨⟨⟨⟨⟨⟨⟨⟨⟨⟨⟨hc0, h1⟩, h2⟩, h3⟩, h4⟩, h5⟩, h6⟩, h7⟩, h8⟩, h9⟩, h10⟩, h11⟩, h12⟩, h13⟩ := h
      unfold parOk at h12
      simp only [Bool.and_eq_true, Bool.not_eq_true'] at h12
      have hij : i ≠ j := by simpa using h4
      have hin : i ≠ n := by simpa using h5
      have hjn : j ≠ n := by simpa using h6
      have hxy : x ≠ y := fun z => by
        rw [← z] at h2
        exact hij (nodup_ix st.nd (st.at h1) (st.at h2))
      have hxz : x ≠ z := fun z => by
        rw [← z] at h3
        exact hin (nodup_ix st.nd (st.at h1) (st.at h3))
      have hyz : y ≠ z := fun z => by
        rw [← z] at h3
        exact hjn (nodup_ix st.nd (st.at h2) (st.at h3))
      have hns : ∀ e ∈ [a, b, c], nsB e = true := List.all_eq_true.mp h12.2
      exact c_par3 (st.calm hc0) st.nd (st.at h1) (st.at h2) (st.at h3) hij hin hjn (st.lcl h7) (st.lcl h8) (st.lcl h9) (soEs es st.toSta h13)
        (swp3 st.bk (st.lcl h7) (st.lcl h8) (st.lcl h9) (eq_of_beq h10) (eq_of_beq h11) hxy hxz hyz (hns a (by simp)) (hns b (by simp)) (hns c (by simp)) h12.1.1 h12.1.2)
    · cases h
  · cases h
mutual
theorem soC (g : G) : ∀ (c : C) {X : Cx} {W : WX} {k : Ck} (st : StaS X W g k) {s : Stmt}, chkC k c s = true → PS X s (tC X.K W fun ρ S => evC g c ρ S)
  | .skip, X, W, k, st, s, h => by
    rw [chkC.eq_def] at h; dsimp only at h
    split at h
    · exact c_skip ps_pass
    · exact c_skip ps_doc
    · cases h
  | .set i e, X, W, k, st, s, h => so_set st h
  | .par is es, X, W, k, st, s, h => so_par st h
  | .stg tg e, X, W, k, st, s, h => by
    rw [chkC.eq_def] at h; dsimp only at h
    split at h
    · rename_i es kk tp v sp
      simp only [Bool.and_eq_true, Bool.or_eq_true, Bool.not_eq_true'] at h
      obtain ⟨⟨h1, h2⟩, h3⟩ := h
      refine c_stg (soE e st.toSta h2) (so_tg st.toSta h1) (by cases v <;> rfl) ?_ rfl
      rcases h3 with (h3 | h3) | h3
      · exact swapped_no h3
      rotate_left
      · by_cases hv : noTup v = true
        · exact swapped_no hv
        · cases v with
          | Tuple vs k2 p2 =>
            obtain ⟨e, he, hl⟩ := List.any_eq_true.mp h3
            cases e with
            | Name n pn =>
              refine swapped_cell he ?_
              show (X.env.scope.names.lookup n == some .local) = false
              rw [st.ex n]
              have hl : lclB k.names n = false := by simpa using hl
              unfold lclB at hl
              cases hq : k.names.lookup n with
              | none => rfl
              | some kd =>
                rw [hq] at hl
                cases kd <;> first | rfl | cases hl
            | _ => cases hl
          | _ => exact absurd rfl hv
      · by_cases hv : noTup v = true
        · exact swapped_no hv
        · cases v with
          | Tuple vs k2 p2 => exact swapped_len h3
          | _ => exact absurd rfl hv
    · cases h
  | .six o i e, X, W, k, st, s, h => by
    rw [chkC.eq_def] at h; dsimp only at h
    split at h
    · simp only [Bool.and_eq_true] at h
      exact c_six st.un (soE e st.toSta h.1.2) (soE o st.toSta h.1.1.1) (soE i st.toSta h.1.1.2) h.2
    · cases h
  | .aug i o e, X, W, k, st, s, h => by
    rw [chkC.eq_def] at h; dsimp only at h
    split at h
    · simp only [Bool.and_eq_true] at h
      obtain ⟨⟨⟨⟨h1, h2⟩, h3⟩, h4⟩, h5⟩ := h
      obtain ⟨l1, l2⟩ := st.loc h2
      rw [opB'_eq h3]
      refine c_aug st.nd (st.at h1) l1 l2 (soE e st.toSta h5) ?_
      cases o <;> first | exact .inl rfl | exact .inr rfl | cases h4
    · cases h
  | .ex e, X, W, k, st, s, h => by
    rw [chkC.eq_def] at h; dsimp only at h
    split at h
    · simp only [Bool.and_eq_true] at h
      exact c_ex (soE e st.toSta h.1) (swaps_no h.2)
    · cases h
  | .ret e, X, W, k, st, s, h => by
    rw [chkC.eq_def] at h; dsimp only at h
    split at h
    · exact c_ret (soE e st.toSta h)
    · cases h
  | .retN, X, W, k, st, s, h => by
    rw [chkC.eq_def] at h; dsimp only at h
    split at h
    · exact c_retN
    · cases h
  | .iff c a b, X, W, k, st, s, h => by
    rw [chkC.eq_def] at h; dsimp only at h
    split at h
    · simp only [Bool.and_eq_true] at h
      exact c_iff (soT c st.toSta h.1.1.1 h.1.1.2) (soCs g a st h.1.2) (soCs g b st h.2)
    · cases h
  | .whl c a, X, W, k, st, s, h => by
    rw [chkC.eq_def] at h; dsimp only at h
    split at h
    · simp only [Bool.and_eq_true] at h
      exact c_whl st.po (soT c st.toSta h.1.1 h.1.2) (soCs g a st h.2)
    · cases h
  | .fr tg it a, X, W, k, st, s, h => by
    rw [chkC.eq_def] at h; dsimp only at h
    split at h
    · simp only [Bool.and_eq_true] at h
      exact c_for st.po (st.calm h.1.1.1.1) (soI it st.toSta h.1.1.2 (tg_many h.1.1.1.2)) (so_tg st.toSta h.1.1.1.2) (soCs g a st h.2) (folded_set h.1.2)
    · cases h
  | .brk, X, W, k, st, s, h => by
    rw [chkC.eq_def] at h; dsimp only at h
    split at h
    · exact c_brk
    · cases h
  | .cnt, X, W, k, st, s, h => by
    rw [chkC.eq_def] at h; dsimp only at h
    split at h
    · exact c_cnt
    · cases h
  | .never, X, W, k, st, s, h => c_never
  | .raise c es, X, W, k, st, s, h => by
    rw [chkC.eq_def] at h; dsimp only at h
    split at h
    · simp only [Bool.and_eq_true] at h
      obtain ⟨⟨⟨⟨⟨hc0, h1⟩, h2⟩, h3⟩, h4⟩, h5⟩ := h
      obtain rfl := of_decide_eq_true h1
      cases es with
      | nil => exact c_raise st.toSta hc0 h4 h2 h3
      | cons _ _ => cases h5
    · cases h
  | .tryx b hs, X, W, k, st, s, h => by rw [chkC.eq_def] at h; cases h
theorem soCs (g : G) : ∀ (cs : Cs) {X : Cx} {W : WX} {k : Ck} (st : StaS X W g k) {ss : List Stmt}, chkCs k cs ss = true → PSs X ss (tC X.K W fun ρ S => evCs g cs ρ S)
  | .nil, X, W, k, st, ss, h => by
    cases ss with
    | nil => exact c_nil
    | cons _ _ => cases h
  | .cons c cs, X, W, k, st, ss, h => by
    cases ss with
    | nil => cases h
    | cons s ss =>
      have h' : (chkC k c s && chkCs k cs ss) = true := h
      simp only [Bool.and_eq_true] at h'
      exact c_cons (soC g c st h'.1) (soCs g cs st h'.2)
end
end
end PyD

namespace PyD
open PySem PySem.Spec PyProof.Rows L2
variable [TB]
section
variable {K : PySem.W.Frag} {fb m l : List Addr} {H : Hp}
mutual
theorem Rep.shrink : ∀ {d : D} {v : V}, clo m.length d → Rep K fb (m ++ l) H d v → Rep K fb m H d v
  | _, _, _, .non => .non
  | _, _, _, .bl b => .bl b
  | _, _, _, .int i => .int i
  | _, _, _, .str s => .str s
  | _, _, c, .tup q r => .tup (q.elim (fun q => .inl ⟨q.1, fun z => q.2.1 (List.mem_append_left _ z), q.2.2⟩) .inr) (Reps.shrink (by unfold clo at c; exact c) r)
  | _, _, c, .lst q r => .lst ⟨q.1, fun z => q.2.1 (List.mem_append_left _ z), q.2.2⟩ (Reps.shrink (by unfold clo at c; exact c) r)
  | _, _, _, .scr q => .scr (q.elim (fun q => .inl ⟨q.1, fun z => q.2.1 (List.mem_append_left _ z), q.2.2⟩) .inr)
  | _, _, _, .fn h => .fn h
  | _, _, c, .hot h => .hot h
  | _, _, c, .ref h => .ref (by
      unfold clo at c
      rw [List.getElem?_append_left c] at h
      exact h)
theorem Reps.shrink : ∀ {ds : List D} {vs : List V}, clos m.length ds → Reps K fb (m ++ l) H ds vs → Reps K fb m H ds vs
  | _, _, _, .nil => .nil
  | _, _, c, .cons r t => by
    unfold clos at c
    exact .cons (Rep.shrink c.1 r) (Reps.shrink c.2 t)
end
theorem seqOpt_reps {f : D → Option D} : ∀ {xs ys : List D} {vs : List V}, Reps K fb (m ++ l) H xs vs → seqOpt (xs.map f) = some ys → (∀ x y v, Rep K fb (m ++ l) H x v → f x = some y → Rep K fb m H y v) → Reps K fb m H ys vs
  | [], ys, _, .nil, e, _ => by cases e; exact .nil
  | x :: xs, ys, _, .cons r t, e, h => by
    rw [List.map_cons] at e
    cases ef : f x with
    | none => rw [ef] at e; cases e
    | some y =>
      rw [ef] at e
      obtain ⟨zs, e1, e2⟩ := Option.map_eq_some_iff.mp (show (seqOpt (xs.map f)).map (y :: ·) = some ys from e)
      subst e2
      exact .cons (h x y _ r ef) (seqOpt_reps t e1 h)
theorem frz_rep {S : Store} (r : Rel K fb (m ++ l) S H) : ∀ (n : Nat) {d v : D} {x : V}, frz m.length S n d = some v → Rep K fb (m ++ l) H d x → Rep K fb m H v x
  | 0, _, _, _, h, _ => by cases h
  | n + 1, d, v, x, h, p => by
    cases d with
    | ref i =>
      rw [frz] at h
      by_cases hi : i < m.length
      · rw [if_pos hi] at h
        cases h
        exact Rep.shrink (by unfold clo; exact hi) p
      · rw [if_neg hi] at h
        cases e : S[i]? with
        | none => rw [e] at h; cases h
        | some o =>
          cases o with
          | dct _ _ => rw [e] at h; cases h
          | ins _ _ _ => rw [e] at h; cases h
          | lst xs =>
            rw [e] at h
            obtain ⟨ys, e1, e2⟩ := Option.map_eq_some_iff.mp h
            subst e2
            obtain ⟨q, vs, rfl, hm, hv, rr⟩ := ref_at r p e
            have hq : q ∉ m := fun z => by
              obtain ⟨j, hj⟩ := List.mem_iff_getElem?.mp z
              have hjl : j < m.length := by
                rcases Nat.lt_or_ge j m.length with w | w
                · exact w
                · rw [List.getElem?_eq_none w] at hj; cases hj
              have : (m ++ l)[j]? = some q := by rw [List.getElem?_append_left hjl]; exact hj
              have := nodup_at r.nd this hm
              omega
            exact .lst ⟨.inl hv, hq, fun z => r.fbm q z (List.mem_of_getElem? hm)⟩ (seqOpt_reps rr e1 fun x y v r' e' => frz_rep r n e' r')
    | tup xs =>
      rw [frz] at h
      obtain ⟨ys, e1, e2⟩ := Option.map_eq_some_iff.mp h
      subst e2
      cases p with
      | tup q rr => exact .tup (q.elim (fun q => .inl ⟨q.1, fun z => q.2.1 (List.mem_append_left _ z), q.2.2⟩) .inr) (seqOpt_reps rr e1 fun x y v r' e' => frz_rep r n e' r')
    | lst xs =>
      rw [frz] at h
      obtain ⟨ys, e1, e2⟩ := Option.map_eq_some_iff.mp h
      subst e2
      cases p with
      | lst q rr => exact .lst ⟨q.1, fun z => q.2.1 (List.mem_append_left _ z), q.2.2⟩ (seqOpt_reps rr e1 fun x y v r' e' => frz_rep r n e' r')
    | non => cases h; cases p; exact .non
    | bl b => cases h; cases p; exact .bl _
    | int b => cases h; cases p; exact .int _
    | str b => cases h; cases p; exact .str _
    | fn b => cases h; cases p with | fn h => exact .fn h
    | scr b => cases h; exact Rep.shrink (by unfold clo; exact trivial) p
    | exc c fs => cases h
theorem Rel.shrink {S : Store} (r : Rel K fb (m ++ l) S H) (hc : ∀ o ∈ S.take m.length, o.clo m.length) : Rel K fb m (S.take m.length) H := by
  have hl : m.length ≤ S.length := by rw [← r.len, List.length_append]; exact Nat.le_add_right _ _
  refine ⟨by rw [List.length_take, Nat.min_eq_left hl], (List.nodup_append.mp r.nd).1, fun n o hn => ?_, r.fbd, fun a ha z => r.fbm a ha (List.mem_append_left _ z), r.tab.mv fun a _ n1 n2 => ⟨n1, fun z => n2 (List.mem_append_left _ z), rfl⟩, r.fbl⟩
  have hnl : n < m.length := by
    rcases Nat.lt_or_ge n m.length with w | w
    · exact w
    · rw [List.getElem?_eq_none (by rw [List.length_take]; omega)] at hn; cases hn
  have hmem := List.mem_of_getElem? hn
  rw [List.getElem?_take_of_lt hnl] at hn
  obtain ⟨a, ha, q⟩ := r.ob n o hn
  rw [List.getElem?_append_left hnl] at ha
  have hcl : clos m.length o.vals := by
    have := hc _ hmem
    cases o <;> exact this
  obtain ⟨u, vs, h1, h2, h3⟩ := q
  exact ⟨a, ha, u, vs, h1, h2, h3.shrink hcl⟩
theorem Ext.shrink {m' : List Addr} {H' : Hp} (e : Ext m H m' H') : Ext m H m H' := ⟨⟨[], by simp, by simp⟩, e.stay, e.dom, e.knd⟩
theorem FldAt.shrink {c : Str} {dx : Option Addr} {vs : List V} (h : FldAt (m ++ l) fb H c dx vs) : FldAt m fb H c dx vs := h.imp id fun ⟨x, a, b, c, d⟩ => ⟨x, a, b, fun z => c (List.mem_append_left _ z), d⟩
open Classical in
theorem leave_post {E : XK} {S S' : Store} {d : D} {Q : VK} (r0 : Rel K fb m S H) (h : Post K E fb (rpE K fb) m H Q (leave S.length d S')) : ∀ m' H' v, Ext m H m' H' → Rel K fb m' S' H' → Rep K fb m' H' d v → Q v H' := by
  intro m' H' v e r p
  unfold leave at h
  cases ef : frz S.length S' 8 d with
  | none => rw [ef] at h; exact h.elim
  | some w =>
    rw [ef] at h
    by_cases hc : ∀ o ∈ S'.take S.length, o.clo S.length
    · simp only [if_pos hc] at h
      obtain ⟨l, rfl, _⟩ := e.more
      rw [← r0.len] at ef hc h
      exact h m H' v (Ext.shrink e) (r.shrink hc) (frz_rep r 8 ef p)
    · simp only [if_neg hc] at h; exact h.elim
open Classical in
theorem leaveX_post {E : XK} {S S' : Store} {x : Exn} {Q : VK} (r0 : Rel K fb m S H) (h : Post K E fb (rpE K fb) m H Q (leaveX S.length x S')) : ∀ m' H' cls dx, Ext m H m' H' → Rel K fb m' S' H' → ExR K fb m' H' x cls dx → E cls dx H' := by
  intro m' H' cls dx e r p
  unfold leaveX at h
  cases ef : seqOpt (x.fs.map (frz S.length S' 8)) with
  | none => rw [ef] at h; exact h.elim
  | some w =>
    rw [ef] at h
    by_cases hc : ∀ o ∈ S'.take S.length, o.clo S.length
    · simp only [if_pos hc] at h
      obtain ⟨l, rfl, _⟩ := e.more
      rw [← r0.len] at ef hc h
      obtain ⟨p1, vs, p2, p3⟩ := p
      exact h m H' cls dx (Ext.shrink e) (r.shrink hc) ⟨p1, vs, p2.shrink, seqOpt_reps p3 ef fun x y v r' e' => frz_rep r 8 e' r'⟩
    · simp only [if_neg hc] at h; exact h.elim
theorem finish_post {E : XK} {S : Store} {drop : Bool} {o : Out} {Q : VK} (r0 : Rel K fb m S H) (h : Post K E fb (rpE K fb) m H Q (finish drop S.length o)) : PostC K (fun cls dx _ H => E cls dx H) fb m H { nx := fun _ H' => Q .non H', rt := Q } o := by
  cases o with
  | ret d S' =>
    cases drop with
    | true => exact leave_post r0 (by simpa [finish] using h)
    | false => exact fun m' H' v e r p => (show Post K E fb (rpE K fb) m H Q (.ok d S') by simpa [finish] using h) m' H' v e r p
  | nx ρ S' =>
    cases drop with
    | true => exact fun m' H' σ e r l => leave_post r0 (by simpa [finish] using h) m' H' .non e r .non
    | false => exact fun m' H' σ e r l => (show Post K E fb (rpE K fb) m H Q (.ok .non S') by simpa [finish] using h) m' H' .non e r .non
  | brk ρ S' => exact h.elim
  | cnt ρ S' => exact h.elim
  | err x ρ S' =>
    cases drop with
    | true => exact fun m' H' σ c d e r l p => leaveX_post r0 (by simpa [finish] using h) m' H' c d e r p
    | false => exact fun m' H' σ c d e r l p => (show Post K E fb (rpE K fb) m H Q (.err x S') by simpa [finish] using h) m' H' c d e r p
  | bad => exact h.elim
theorem start_lo : ∀ {ds : List D} {vs : List V} {N : List Str}, Reps K fb m H ds vs → Lo K fb m H (PyD.start N.length ds) (L2.start N vs) := by
  intro ds vs N r
  have hl := r.length
  refine ⟨by simp [PyD.start, L2.start, hl], fun i d h => ?_⟩
  unfold PyD.start at h
  rcases Nat.lt_or_ge i ds.length with w | w
  · rw [List.getElem?_append_left (by simpa using w), List.getElem?_map] at h
    obtain ⟨d', h1, h2⟩ := Option.map_eq_some_iff.mp h
    cases h2
    obtain ⟨v, h3, h4⟩ := r.get h1
    refine ⟨v, ?_, h4⟩
    unfold L2.start
    rw [List.getElem?_append_left (by simpa [← hl] using w), List.getElem?_map, h3]
    rfl
  · rw [List.getElem?_append_right (by simpa using w)] at h
    have := List.mem_of_getElem? h
    have := List.eq_of_mem_replicate this
    cases this
end
structure FnFacts (K : PySem.W.Frag) (mg : Str → Option Value) (sig : Str → Option Sig) (gB xB : Str → Bool) (f : Str) (fn : Fn) (sg : Sig) : Prop where
  ex : ∃ (params : Arguments) (body : List Stmt) (scope : Scope) (dvs : List V) (kws : List (Str × V)) (fa : Addr) (fd : FuncData) (N ps : List Str), FunD K f f params body scope dvs kws fa fd ∧ FnScope N ps scope ∧ mg f = some (.ref fa) ∧
    ps.length = fn.np ∧ N.length = fn.nl ∧ sg.np = fn.np ∧ chkCs ⟨N, scope.names, sig, gB, xB, true, false, fun _ => false⟩ fn.body body = true ∧ (sg.plain = true → Binds K fd ps []) ∧ ∀ sh ∈ sg.shapes, Bnd K fd ps sh.1 sh.2.1 sh.2.2
def XcK (K : PySem.W.Frag) (mg : Str → Option Value) (c : Str) : Prop := ∃ (C : Addr) (B newId initId : String) (bm : List Value), PySem.ExcBaseFacts B newId initId bm ∧ PySem.W.excIn K C bm newId = true ∧ mg c = some (.ref C) ∧ PySem.W.keepIn K (.ref C) = true ∧
  PySem.W.subIn K (.ref C) (.type "BaseException") = some true ∧ PySem.W.typeIn K (.ref C) = some (.type "type") ∧ clsV K c (.ref C)
structure Tab (K : PySem.W.Frag) (mg : Str → Option Value) (T : Str → Option Fn) (sig : Str → Option Sig) (gl : Str → Option D) (gB xB : Str → Bool) : Prop where
  fn : ∀ f sg, sig f = some sg → ∃ fn, T f = some fn ∧ FnFacts K mg sig gB xB f fn sg
  bn : ∀ x ∈ bNames, mg x = none
  gc : ∀ x d, gB x = true → gl x = some d → ∃ v u, mg x = some u ∧ RelV v u ∧ ∀ fb m H, Rep K fb m H d v
  xc : ∀ c, xB c = true → XcK K mg c
section
variable {P : Program} {w : World} {K : PySem.W.Frag} {mg : Str → Option Value} {base : Heap} {T : Str → Option Fn} {sig : Str → Option Sig} {gl : Str → Option D} {gB xB : Str → Bool}
theorem callM_len {raw : Bool} {d : Nat} {f : Str} {fn : Fn} (h : T f = some fn) {ds : List D} {S : Store} (hb : callM T gl d raw f ds S ≠ .bad) : ds.length = fn.np := by
  cases d with
  | zero => exact absurd rfl hb
  | succ d =>
    rw [callM] at hb
    simp only [h] at hb
    by_cases hl : ds.length = fn.np
    · exact hl
    · rw [if_neg hl] at hb; exact absurd rfl hb
theorem GG_fn (d : Nat) (raw : Bool) (f : Str) : (GG T gl d).fn raw f = callM T gl d raw f := by
  funext ds S
  cases raw <;> rfl
def Lvl (P : Program) (w : World) (K : PySem.W.Frag) (mg : Str → Option Value) (base : Heap) (T : Str → Option Fn) (sig : Str → Option Sig) (gl : Str → Option D) (d : Nat) : Prop :=
  ∀ (f : Str) (sg : Sig), sig f = some sg → ∃ (fa : Addr) (fd : FuncData) (ps : List Str), mg f = some (.ref fa) ∧ PySem.W.keepIn K (.ref fa) = true ∧ ps.length = sg.np ∧
    (∀ raw, FnOk P w K mg base (L2N.CX P w) (3 * d) fa fd ps (spF K (callM T gl d raw f) sg.np)) ∧ (sg.plain = true → Binds K fd ps []) ∧ (∀ sh ∈ sg.shapes, Bnd K fd ps sh.1 sh.2.1 sh.2.2) ∧ ∀ raw ds S, callM T gl d raw f ds S ≠ .bad → ds.length = sg.np
def TrD (P : Program) (w : World) (K : PySem.W.Frag) (mg : Str → Option Value) (base : Heap) (T : Str → Option Fn) (gl : Str → Option D) (f : Str) (cd : Value) (d : Nat) : Prop :=
  1 ≤ d ∧ TrK P w K mg base (kbG (GG T gl d)) ∧ ∃ c Pt, cd = .ref c ∧ LamX.TabB base mg c Pt ∧ (Pt, (f ++ ".<locals>.") ++ "<lambda>") ∈ TB.tabs ∧ ∀ p ∈ TB.tabs, p.1 = Pt → p.2 = (f ++ ".<locals>.") ++ "<lambda>"
theorem fn_step {d : Nat} {tr : Bool} (raw : Bool) (bn : ∀ x ∈ bNames, mg x = none) (gc : ∀ x d, gB x = true → gl x = some d → ∃ v u, mg x = some u ∧ RelV v u ∧ ∀ fb m H, Rep K fb m H d v) (xc : ∀ c, xB c = true → XcK K mg c) (ih : Lvl P w K mg base T sig gl d)
    {f : Str} {fn : Fn} {params : Arguments} {body : List Stmt} {scope : Scope} {dvs : List V} {kws : List (Str × V)} {fa : Addr} {fd : FuncData} {N ps : List Str} (hT : T f = some fn) (F : FunD K f f params body scope dvs kws fa fd) (S : FnScope N ps scope) (hp : ps.length = fn.np) (hN : N.length = fn.nl)
    (hc : chkCs ⟨N, scope.names, sig, gB, xB, true, tr, fun _ => false⟩ fn.body body = true)
    (htr : tr = true → ∀ (oc : Value) (od : Option Addr) (dV kV doc pm : Value) (an : Option Addr) (cdv ct : Value) (osl : Array (Option Value)), K.lookup fa = some ⟨oc, od, .func (PySem.W.fnOf f f params body scope dV kV doc pm an cdv ct), osl⟩ → TrD P w K mg base T gl f cdv d) : FnOk P w K mg base (L2N.CX P w) (3 * (d + 1)) fa fd ps (spF K (callM T gl (d + 1) raw f) fn.np) := by
  show FnOk P w K mg base (L2N.CX P w) ((3 * d + 2) + 1) fa fd ps _
  obtain ⟨oc, od, dV, kV, doc, pm, an, cdv, ct, osl, rfl, lk, hcd, _, _⟩ := F.ex
  refine fn_of lk hcd S (fun vs H Q E h => by rw [h.1, hp]) (fun A outer s H vs Q E hr hsp => ?_)
  obtain ⟨hl, fb, m, S0, ds, r, p, h⟩ := hsp
  have tk : L2N.Takes (cxOf (L2N.CX P w) P w K mg base N f scope fa cdv A outer s H E) (fun cls d _ H => E cls d H) := L2N.takes_of rfl rfl rfl rfl
  have st : StaS (cxOf (L2N.CX P w) P w K mg base N f scope fa cdv A outer s H E) (fun cls d _ H => E cls d H) (GG T gl d) ⟨N, scope.names, sig, gB, xB, true, tr, fun _ => false⟩ :=
    { tk := tk, N := rfl, nm := fun x kd h => .inl h, nd := S.nd, calm := fun _ => rfl, hot := fun h => (nomatch h), isx := fun h => (nomatch h), un := hr.units, un2 := by have := hr.un; show (A.deeper _).units + 65 < cLine; omega, fn := fun _ _ => rfl, bn := bn, gc := gc
      cl := fun f sg hs => by
        obtain ⟨fa, fd, ps, h1, h2, h3, h4, h5, h6, h7⟩ := ih f sg hs
        exact ⟨3 * d, hr.mono (Nat.le_add_right _ 2), fa, fd, ps, h1, h2, h3, fun raw => by rw [GG_fn]; exact h4 raw, h5, h6, fun raw => by rw [GG_fn]; exact h7 raw⟩
      xc := fun c hc => by
        obtain ⟨C, B, nw, ni, bm, F, q, gC, kC, s1, t1, cv⟩ := xc c hc
        exact ⟨C, B, nw, ni, bm, F, q, gC, kC, raises_own s1 t1, cv⟩
      tr := fun ht => by
        obtain ⟨d1, tk, c, Pt, hc, tb, hm, hu⟩ := htr ht _ _ _ _ _ _ _ _ _ _ lk
        refine ⟨3 * d, by omega, hr, tk, ⟨c, Pt, hc, tb, hm, hu⟩, fun f sg hs => ?_⟩
        obtain ⟨fa, fd, ps, h1, h2, h3, h4, h5, h6, h7⟩ := ih f sg hs
        exact ⟨fa, fd, ps, h1, h2, h3, fun raw => by rw [GG_fn]; exact h4 raw, h5, h6, fun raw => by rw [GG_fn]; exact h7 raw⟩
      po := passes_of (K := fun e s'' => L2N.CX P w outer H s E e s'') rfl
      bk := by
        show Env.blockKind _ = .function
        unfold Env.blockKind
        show (if scope.kind.isAnnotationScope then ScopeKind.function else scope.kind) = .function
        rw [S.kind]; rfl
      fk := S.kind
      ex := fun _ => rfl }
  refine ⟨_, soCs (GG T gl d) fn.body st hc, fb, m, S0, PyD.start fn.nl ds, r, ?_, ?_⟩
  · rw [← hN]; exact start_lo p
  · have h' := h
    simp only [callM, hT] at h'
    by_cases hlen : ds.length = fn.np
    · rw [if_pos hlen] at h'
      exact finish_post r h'
    · rw [if_neg hlen] at h'; exact h'.elim
theorem tab_ok (tb : Tab K mg T sig gl gB xB) : ∀ (d : Nat), Lvl P w K mg base T sig gl d := by
  intro d
  induction d with
  | zero =>
    intro f sg hs
    obtain ⟨fn, hT, ⟨params, body, scope, dvs, kws, fa, fd, N, ps, F, S, hm, hp, hN, hnp, hc, hb, hsh⟩⟩ := tb.fn f sg hs
    refine ⟨fa, fd, ps, hm, F.kp, by rw [hp, hnp], fun raw => ⟨fun vs H Q E h => by rw [h.1, hnp, hp], fun A outer s H args us vs Q E hr e0 hbt hv hsp => ?_⟩, hb, hsh, fun raw ds S h => absurd rfl h⟩
    obtain ⟨_, fb, m, S, ds, r, p, h⟩ := hsp
    exact h.elim
  | succ d ih =>
    intro f sg hs
    obtain ⟨fn, hT, ⟨params, body, scope, dvs, kws, fa, fd, N, ps, F, S, hm, hp, hN, hnp, hc, hb, hsh⟩⟩ := tb.fn f sg hs
    refine ⟨fa, fd, ps, hm, F.kp, by rw [hp, hnp], fun raw => ?_, hb, hsh, fun raw ds S h => by rw [hnp]; exact callM_len hT h⟩
    rw [hnp]
    exact fn_step raw tb.bn tb.gc tb.xc ih hT F S hp hN hc (fun h => nomatch h)
theorem law_sp {f : Str} {k : Nat} {n : Nat} (h : ∀ ns : List Int, ns.length ≤ n → (∀ z ∈ ns, Builtin.Int.intBits z ≤ 1048576) → ∃ S, callN T gl k f [.scr ns] [] = .ok (.bl true) S) (H : Hp) (a : Addr) (ns : List Int) (hl : ns.length ≤ n) (hb : ∀ z ∈ ns, Builtin.Int.intBits z ≤ 1048576) (hS : SqL K H a (ns.map V.int)) (hT : TabF TB.tabs [] [] H) :
    spF K (callM T gl k false f) 1 [.ref a] H (fun v _ => v = .bl true) fun _ _ _ => False := by
  obtain ⟨S, e⟩ := h ns hl hb
  refine ⟨rfl, [], [], [], [.scr ns], ⟨rfl, List.nodup_nil, (fun n o h => by simp at h), (fun a h => nomatch h), (fun a h => nomatch h), hT, (fun a h => nomatch h)⟩, .cons (.scr ?_) .nil, ?_⟩
  · rcases hS with h | h
    · exact .inl ⟨h, by simp, by simp⟩
    · exact .inr h
  · show Post K _ [] (rpE K []) [] H _ (callN T gl k f [.scr ns] [])
    rw [e]
    intro m' H' v _ _ r
    cases r
    rfl
theorem allc {α : Type} {P : α → Prop} {a : α} {l : List α} (h : P a) (t : ∀ p ∈ l, P p) : ∀ p ∈ a :: l, P p := List.forall_mem_cons.2 ⟨h, t⟩
theorem alln {α : Type} {P : α → Prop} : ∀ p ∈ ([] : List α), P p := fun _ h => nomatch h
theorem tab_of {sigs : List (Str × Sig)} {gls : List (Str × D)} (hsig : ∀ f, sig f = sigs.lookup f) (hfn : ∀ p ∈ sigs, ∃ fn, T p.1 = some fn ∧ FnFacts K mg sig gB xB p.1 fn p.2) (bn : ∀ x ∈ bNames, mg x = none)
    (hB : ∀ x, gB x = gls.any fun p => p.1 == x) (gc : ∀ p ∈ gls, gl p.1 = some p.2 ∧ ∃ v u, mg p.1 = some u ∧ RelV v u ∧ ∀ fb m H, Rep K fb m H p.2 v) (xc : ∀ c, xB c = true → XcK K mg c) : Tab K mg T sig gl gB xB := by
  refine ⟨fun f sg h => ?_, bn, fun x d hb hx => ?_, fun c hc => ?_⟩
  · rw [hsig] at h
    exact hfn _ (PySem.mem_of_lookup h)
  · rw [hB, List.any_eq_true] at hb
    obtain ⟨p, hp, e⟩ := hb
    have e := eq_of_beq e
    obtain ⟨h1, v, u, h2, h3, h4⟩ := gc p hp
    subst e
    rw [h1] at hx
    cases hx
    exact ⟨v, u, h2, h3, h4⟩
  · exact xc _ ‹_›
theorem xcs_of {xcs : List Str} (hB : ∀ x, xB x = xcs.contains x) (h : ∀ c ∈ xcs, XcK K mg c) : ∀ c, xB c = true → XcK K mg c := fun c hc => by
  rw [hB, List.contains_iff_mem] at hc
  exact h c hc
theorem cx_no {H : Hp} {s : Shared} {e : Value} {s' : Shared} (h : L2N.CX P w [] H s (fun _ _ _ => False) e s') : False := by
  obtain ⟨_, _, _, _, _, _, _, _, _, _, _, _, h⟩ := h
  exact h
end
end PyD

namespace PyD
open PySem
variable (g : G)
theorem whileN_mono (c : Ro → Store → R Bool) (b : Ro → Store → Out) : ∀ n m ρ S, n ≤ m → whileN c b n ρ S ≠ .bad → whileN c b m ρ S = whileN c b n ρ S := by
  intro n
  induction n with
  | zero => intro m ρ S _ h; exact absurd rfl h
  | succ n ih =>
    intro m ρ S hm h
    obtain ⟨m, rfl⟩ : ∃ q, m = q + 1 := ⟨m - 1, by omega⟩
    simp only [whileN] at h ⊢
    cases hc : c ρ S with
    | bad => simp [hc, R.th] at h
    | err x S1 => simp [R.th]
    | ok k S1 =>
      simp only [hc, R.th] at h ⊢
      cases k with
      | false => simp
      | true =>
        simp only [if_true] at h ⊢
        cases hb : b ρ S1 with
        | nx ρ1 S2 => simp only [hb] at h ⊢; exact ih m ρ1 S2 (by omega) h
        | cnt ρ1 S2 => simp only [hb] at h ⊢; exact ih m ρ1 S2 (by omega) h
        | brk ρ1 S2 => rfl
        | ret d S2 => rfl
        | err x ρ1 S2 => rfl
        | bad => rfl
theorem whileM_of (c : Ro → Store → R Bool) (b : Ro → Store → Out) (n : Nat) (ρ : Ro) (S : Store) (h : whileN c b n ρ S ≠ .bad) : whileM c b ρ S = whileN c b n ρ S := by
  have hx : ∃ n, whileN c b n ρ S ≠ .bad := ⟨n, h⟩
  unfold whileM
  rw [dif_pos hx]
  have hy := Classical.choose_spec hx
  rcases Nat.le_total n (Classical.choose hx) with hl | hl
  · exact whileN_mono c b _ _ ρ S hl h
  · exact (whileN_mono c b _ _ ρ S hl hy).symm
theorem whileM_step (c : Ro → Store → R Bool) (b : Ro → Store → Out) (ρ : Ro) (S : Store) : whileM c b ρ S = (c ρ S).th ρ fun k S1 => if k = true then match b ρ S1 with
      | .nx ρ1 S2 => whileM c b ρ1 S2
      | .cnt ρ1 S2 => whileM c b ρ1 S2
      | .brk ρ1 S2 => .nx ρ1 S2
      | o => o
    else .nx ρ S1 := by
  have key : ∀ ρ1 S2 (P : Nat → Out), (∀ n, P (n + 1) = whileN c b n ρ1 S2) → (∀ n, whileN c b (n + 1) ρ S = P (n + 1)) → whileM c b ρ S = whileM c b ρ1 S2 := by
    intro ρ1 S2 P h1 h2
    by_cases hx : ∃ n, whileN c b n ρ1 S2 ≠ .bad
    · obtain ⟨n, hn⟩ := hx
      rw [whileM_of c b n ρ1 S2 hn, ← h1, ← h2]
      exact whileM_of c b _ ρ S (by rw [h2, h1]; exact hn)
    · have hx2 : ¬∃ n, whileN c b n ρ S ≠ .bad := by
        rintro ⟨n, hn⟩
        cases n with
        | zero => exact hn rfl
        | succ n => rw [h2, h1] at hn; exact hx ⟨n, hn⟩
      unfold whileM
      rw [dif_neg hx, dif_neg hx2]
  have one : ∀ o : Out, (∀ n, whileN c b (n + 1) ρ S = o) → whileM c b ρ S = o := by
    intro o ho
    by_cases hb : o = .bad
    · subst hb
      unfold whileM
      rw [dif_neg]
      rintro ⟨n, hn⟩
      cases n with
      | zero => exact hn rfl
      | succ n => exact hn (ho n)
    · rw [whileM_of c b 1 ρ S (by rw [ho]; exact hb), ho]
  cases hc : c ρ S with
  | bad => exact one _ fun n => by simp only [whileN, hc, R.th]
  | err x S1 => exact one _ fun n => by simp only [whileN, hc, R.th]
  | ok k S1 =>
    cases k with
    | false => exact one _ fun n => by simp [whileN, hc, R.th]
    | true =>
      simp only [R.th, if_true]
      cases hb : b ρ S1 with
      | nx ρ1 S2 => exact key ρ1 S2 (fun n => whileN c b (n - 1) ρ1 S2) (fun n => rfl) fun n => by simp [whileN, hc, hb, R.th]
      | cnt ρ1 S2 => exact key ρ1 S2 (fun n => whileN c b (n - 1) ρ1 S2) (fun n => rfl) fun n => by simp [whileN, hc, hb, R.th]
      | brk ρ1 S2 => exact one _ fun n => by simp [whileN, hc, hb, R.th]
      | ret d S2 => exact one _ fun n => by simp [whileN, hc, hb, R.th]
      | err x ρ1 S2 => exact one _ fun n => by simp [whileN, hc, hb, R.th]
      | bad => exact one _ fun n => by simp [whileN, hc, hb, R.th]
end PyD

namespace PyD
open PySem
variable (S : Store)
theorem ixN_of {n : Nat} {i : Int} (h0 : 0 ≤ i) (h1 : i < n) : L2.ixN n i = some i.toNat := by unfold L2.ixN; rw [if_pos h0, if_pos h1]
theorem atI_of {xs : List D} {i : Int} (h0 : 0 ≤ i) (h1 : i < xs.length) : L2.atI xs i = xs[i.toNat]? := by unfold L2.atI; rw [ixN_of h0 h1]; rfl
theorem idx0 (x : D) (xs : List D) : idxD S (.tup (x :: xs)) (.int 0) = some x := by
  show L2.atI (x :: xs) 0 = _
  rw [atI_of (by omega) (by simp only [List.length_cons]; omega)]; rfl
theorem idx1 (x y : D) (xs : List D) : idxD S (.tup (x :: y :: xs)) (.int 1) = some y := by
  show L2.atI (x :: y :: xs) 1 = _
  rw [atI_of (by omega) (by simp only [List.length_cons]; omega)]; rfl
theorem idx2 (x y z : D) (xs : List D) : idxD S (.tup (x :: y :: z :: xs)) (.int 2) = some z := by
  show L2.atI (x :: y :: z :: xs) 2 = _
  rw [atI_of (by omega) (by simp only [List.length_cons]; omega)]; rfl
theorem idxL {n : Nat} {xs : List D} {i : Int} {d : D} (hs : S[n]? = some (.lst xs)) (h0 : 0 ≤ i) (h1 : xs[i.toNat]? = some d) : idxD S (.ref n) (.int i) = some d := by
  have h2 : i.toNat < xs.length := by
    rw [List.getElem?_eq_some_iff] at h1; exact h1.1
  simp only [idxD, lstOf, hs, Option.bind_some]
  rw [atI_of h0 (by omega)]; exact h1
theorem idxT {xs : List D} {i : Int} {d : D} (h0 : 0 ≤ i) (h1 : xs[i.toNat]? = some d) : idxD S (.tup xs) (.int i) = some d := by
  have h2 : i.toNat < xs.length := by
    rw [List.getElem?_eq_some_iff] at h1; exact h1.1
  simp only [idxD]
  rw [atI_of h0 (by omega)]; exact h1
theorem idxLs {xs : List D} {i : Int} {d : D} (h0 : 0 ≤ i) (h1 : xs[i.toNat]? = some d) : idxD S (.lst xs) (.int i) = some d := idxT (S := S) h0 h1
theorem biAbs (i : Int) : biD S .abs (.int i) = some (.int (if i < 0 then -i else i)) := rfl
theorem biLenT (xs : List D) : biD S .len (.tup xs) = some (.int xs.length) := rfl
theorem biLenL (xs : List D) : biD S .len (.lst xs) = some (.int xs.length) := rfl
theorem biTupL (xs : List D) : biD S .tuple (.lst xs) = some (.tup xs) := rfl
theorem biTupT (xs : List D) : biD S .tuple (.tup xs) = some (.tup xs) := rfl
theorem biTupR {n : Nat} {xs : List D} (hs : S[n]? = some (.lst xs)) : biD S .tuple (.ref n) = some (.tup xs) := by simp only [biD, lstOf, hs, Option.map_some]
theorem biLenR {n : Nat} {xs : List D} (hs : S[n]? = some (.lst xs)) : biD S .len (.ref n) = some (.int xs.length) := by simp only [biD, seqOf, lstOf, hs, Option.map_some]
theorem binAdd (i j : Int) : bin S .add (.int i) (.int j) = some (.int (i + j)) := rfl
theorem binSub (i j : Int) : bin S .sub (.int i) (.int j) = some (.int (i - j)) := rfl
theorem binMul {i j : Int} (h : intMulOk i j) : bin S .mul (.int i) (.int j) = some (.int (i * j)) := need_of h
theorem binDiv {i j : Int} (h : intDivOk j) : bin S .fdiv (.int i) (.int j) = some (.int (i / j)) := need_of h
theorem binMod {i j : Int} (h : 0 < j) : bin S .mod (.int i) (.int j) = some (.int (i % j)) := need_of h
theorem binCat {xs ys : List D} (h : xs.length + ys.length ≤ 100000) : bin S .add (.tup xs) (.tup ys) = some (.tup (xs ++ ys)) := need_of h
theorem log2_lt {n k : Nat} (h : n < 2 ^ k) : n.log2 < k ∨ n = 0 := by
  by_cases hn : n = 0
  · exact .inr hn
  · exact .inl ((Nat.log2_lt hn).2 h)
theorem mulOk {i j : Int} (a b : Nat) (hi : i.natAbs < 2 ^ a) (hj : j.natAbs < 2 ^ b) (hab : a + b < 1000000) : intMulOk i j := by
  unfold intMulOk
  have h1 : i.natAbs.log2 ≤ a := by
    rcases log2_lt hi with h | h
    · omega
    · rw [h]; exact Nat.zero_le _
  have h2 : j.natAbs.log2 ≤ b := by
    rcases log2_lt hj with h | h
    · omega
    · rw [h]; exact Nat.zero_le _
  omega
theorem divOk {j : Int} (b : Nat) (h0 : 0 < j) (hj : j.natAbs < 2 ^ b) (hb : b < 9000) : intDivOk j := by
  refine ⟨h0, ?_⟩
  rcases log2_lt hj with h | h
  · omega
  · omega
theorem lookup_idx {α : Type} {f : Str} {c : Str × α} : ∀ {l : List (Str × α)} {i : Nat}, (l.map (·.1)).findIdx? (· == f) = some i → l[i]? = some c → l.lookup f = some c.2
  | [], _, h, _ => by simp at h
  | (x, y) :: l, i, h, h2 => by
    rw [List.map_cons, List.findIdx?_cons] at h
    by_cases e : x == f
    · rw [if_pos e] at h
      cases h
      cases h2
      have e2 := eq_of_beq e
      have e2 : x = f := e2
      subst e2
      simp [List.lookup]
    · rw [if_neg e] at h
      cases hh : (l.map (·.1)).findIdx? (· == f) with
      | none => rw [hh] at h; cases h
      | some j =>
        rw [hh] at h
        cases h
        have e2 : (f == x) = false := by
          rw [Bool.eq_false_iff]; intro e3; exact e (by rw [eq_of_beq e3]; exact beq_self_eq_true _)
        simp only [List.lookup, e2]
        exact lookup_idx hh h2
end PyD

namespace PyD
open PySem
mutual
def D.nice : D → Bool
  | .non => true
  | .int _ => true
  | .str s => PyData.strOk s
  | .tup xs => D.nices xs
  | .lst xs => D.nices xs
  | _ => false
def D.nices : List D → Bool
  | [] => true
  | x :: xs => D.nice x && D.nices xs
end
mutual
def D.dep : D → Nat
  | .tup xs => D.deps xs + 1
  | .lst xs => D.deps xs + 1
  | _ => 0
def D.deps : List D → Nat
  | [] => 0
  | x :: xs => max x.dep (D.deps xs)
end
mutual
theorem pd_nice : ∀ x : D, x.nice = true → ∃ p, x.pd = some p ∧ p.canLay0 = true ∧ p.depth ≤ x.dep
  | .non, _ => ⟨_, rfl, rfl, Nat.le_refl _⟩
  | .int i, _ => ⟨_, rfl, rfl, by simp [PyData.depth]⟩
  | .str s, h => ⟨_, rfl, h, by simp [PyData.depth]⟩
  | .tup xs, h => by
    obtain ⟨ps, h1, h2, h3⟩ := pds_nice xs h
    exact ⟨.tuple ps, by simp only [D.pd, h1, Option.map_some], by simpa only [PyData.canLay0] using h2, by simp only [PyData.depth, D.dep]; omega⟩
  | .lst xs, h => by
    obtain ⟨ps, h1, h2, h3⟩ := pds_nice xs h
    exact ⟨.list ps, by simp only [D.pd, h1, Option.map_some], by simpa only [PyData.canLay0] using h2, by simp only [PyData.depth, D.dep]; omega⟩
theorem pds_nice : ∀ xs : List D, D.nices xs = true → ∃ ps, D.pds xs = some ps ∧ PyData.canLayAll0 ps = true ∧ PyData.depthAll ps ≤ D.deps xs
  | [], _ => ⟨[], rfl, rfl, by simp [PyData.depthAll]⟩
  | x :: xs, h => by
    rw [D.nices, Bool.and_eq_true] at h
    obtain ⟨p, h1, h2, h3⟩ := pd_nice x h.1
    obtain ⟨ps, h4, h5, h6⟩ := pds_nice xs h.2
    exact ⟨p :: ps, by simp only [D.pds, h1, h4], by simp only [PyData.canLayAll0, h2, h5, Bool.and_self], by simp only [PyData.depthAll, D.deps]; omega⟩
end
theorem map_some_inv {α β : Type} {o : Option α} {f : α → β} {b : β} (h : o.map f = some b) : ∃ a, o = some a ∧ f a = b := by
  cases o with
  | none => cases h
  | some a => exact ⟨a, rfl, by simpa using h⟩
mutual
theorem eqv_nice : ∀ (x y : D) (p q : PyData), x.nice = true → y.nice = true → x.pd = some p → y.pd = some q → (PyData.eqv p q = true ↔ x = y)
  | .non, y, p, q, hx, hy, hp, hq => by
    cases hp
    cases y with
    | non => cases hq; simp [PyData.eqv]
    | int j => cases hq; simp [PyData.eqv]
    | str j => cases hq; simp [PyData.eqv]
    | tup ys => obtain ⟨qs, _, rfl⟩ := map_some_inv hq; simp [PyData.eqv]
    | lst ys => obtain ⟨qs, _, rfl⟩ := map_some_inv hq; simp [PyData.eqv]
    | _ => cases hy
  | .int i, y, p, q, hx, hy, hp, hq => by
    cases hp
    cases y with
    | non => cases hq; simp [PyData.eqv]
    | int j => cases hq; simp [PyData.eqv]
    | str j => cases hq; simp [PyData.eqv]
    | tup ys => obtain ⟨qs, _, rfl⟩ := map_some_inv hq; simp [PyData.eqv]
    | lst ys => obtain ⟨qs, _, rfl⟩ := map_some_inv hq; simp [PyData.eqv]
    | _ => cases hy
  | .str i, y, p, q, hx, hy, hp, hq => by
    cases hp
    cases y with
    | non => cases hq; simp [PyData.eqv]
    | int j => cases hq; simp [PyData.eqv]
    | str j => cases hq; simp [PyData.eqv]
    | tup ys => obtain ⟨qs, _, rfl⟩ := map_some_inv hq; simp [PyData.eqv]
    | lst ys => obtain ⟨qs, _, rfl⟩ := map_some_inv hq; simp [PyData.eqv]
    | _ => cases hy
  | .tup xs, y, p, q, hx, hy, hp, hq => by
    obtain ⟨ps, hps, rfl⟩ := map_some_inv hp
    cases y with
    | non => cases hq; simp [PyData.eqv]
    | int j => cases hq; simp [PyData.eqv]
    | str j => cases hq; simp [PyData.eqv]
    | tup ys =>
      obtain ⟨qs, hqs, rfl⟩ := map_some_inv hq
      simp only [PyData.eqv, D.tup.injEq]
      exact eqvs_nice xs ys ps qs hx hy hps hqs
    | lst ys => obtain ⟨qs, _, rfl⟩ := map_some_inv hq; simp [PyData.eqv]
    | _ => cases hy
  | .lst xs, y, p, q, hx, hy, hp, hq => by
    obtain ⟨ps, hps, rfl⟩ := map_some_inv hp
    cases y with
    | non => cases hq; simp [PyData.eqv]
    | int j => cases hq; simp [PyData.eqv]
    | str j => cases hq; simp [PyData.eqv]
    | lst ys =>
      obtain ⟨qs, hqs, rfl⟩ := map_some_inv hq
      simp only [PyData.eqv, D.lst.injEq]
      exact eqvs_nice xs ys ps qs hx hy hps hqs
    | tup ys => obtain ⟨qs, _, rfl⟩ := map_some_inv hq; simp [PyData.eqv]
    | _ => cases hy
  | .bl b, _, _, _, hx, _, _, _ => by cases hx
  | .ref n, _, _, _, hx, _, _, _ => by cases hx
  | .fn n, _, _, _, hx, _, _, _ => by cases hx
  | .exc _ _, _, _, _, hx, _, _, _ => by cases hx
  | .scr _, _, _, _, hx, _, _, _ => by cases hx
theorem eqvs_nice : ∀ (xs ys : List D) (ps qs : List PyData), D.nices xs = true → D.nices ys = true → D.pds xs = some ps → D.pds ys = some qs → (PyData.eqvAll ps qs = true ↔ xs = ys)
  | [], ys, ps, qs, hx, hy, hp, hq => by
    cases hp
    cases ys with
    | nil => cases hq; simp [PyData.eqvAll]
    | cons y ys =>
      simp only [D.pds] at hq
      split at hq
      · cases hq; simp [PyData.eqvAll]
      · cases hq
  | x :: xs, ys, ps, qs, hx, hy, hp, hq => by
    simp only [D.pds] at hp
    split at hp
    · rename_i p ps1 h1 h2
      cases hp
      cases ys with
      | nil => cases hq; simp [PyData.eqvAll]
      | cons y ys =>
        simp only [D.pds] at hq
        split at hq
        · rename_i q qs1 h3 h4
          cases hq
          rw [D.nices, Bool.and_eq_true] at hx hy
          simp only [PyData.eqvAll, Bool.and_eq_true, List.cons.injEq, eqv_nice x y p q hx.1 hy.1 h1 h3, eqvs_nice xs ys ps1 qs1 hx.2 hy.2 h2 h4]
        · cases hq
    · cases hp
end
theorem pdS_nice (S : Store) {x : D} (h : x.nice = true) : pdS S x = x.pd := by cases x <;> first | rfl | cases h
open Classical in
theorem eqD_nice (S : Store) {x y : D} (hx : x.nice = true) (hy : y.nice = true) (dx : x.dep ≤ 64) (dy : y.dep ≤ 64) : eqD S x y = some (decide (x = y)) := by
  obtain ⟨p, h1, h2, h3⟩ := pd_nice x hx
  obtain ⟨q, h4, h5, h6⟩ := pd_nice y hy
  unfold eqD
  rw [pdS_nice S hx, pdS_nice S hy, h1, h4]
  simp only
  rw [need_of]
  · congr 1
    have := eqv_nice x y p q hx hy h1 h4
    by_cases e : x = y
    · rw [decide_eq_true e]; exact this.2 e
    · rw [decide_eq_false e]; rw [Bool.eq_false_iff]; exact fun h => e (this.1 h)
  · simp only [SeqAt.shaped, h2, h5, Bool.true_and, decide_eq_true_eq]; omega
theorem eqD_same (S : Store) {x : D} (hx : x.nice = true) (dx : x.dep ≤ 64) : eqD S x x = some true := by
  rw [eqD_nice S hx hx dx dx]; simp
theorem eqD_ne (S : Store) {x y : D} (hx : x.nice = true) (hy : y.nice = true) (dx : x.dep ≤ 64) (dy : y.dep ≤ 64) (h : x ≠ y) : eqD S x y = some false := by
  rw [eqD_nice S hx hy dx dy]; simp [h]
theorem cmpEqI (S : Store) (i j : Int) : cmp S .eq (.int i) (.int j) = some (decide (i = j)) := by
  simp only [cmp]
  rw [eqD_nice S rfl rfl (Nat.zero_le _) (Nat.zero_le _)]; simp
theorem cmpNeI (S : Store) (i j : Int) : cmp S .ne (.int i) (.int j) = some (!decide (i = j)) := by
  simp only [cmp]
  rw [eqD_nice S rfl rfl (Nat.zero_le _) (Nat.zero_le _)]; simp
theorem cmpNeSame (S : Store) {x : D} (hx : x.nice = true) (dx : x.dep ≤ 64) : cmp S .ne x x = some false := by
  simp only [cmp]
  rw [eqD_same S hx dx]; rfl
theorem cmpEqSame (S : Store) {x : D} (hx : x.nice = true) (dx : x.dep ≤ 64) : cmp S .eq x x = some true := by simp only [cmp]; exact eqD_same S hx dx
theorem cmpLt (S : Store) (i j : Int) : cmp S .lt (.int i) (.int j) = some (decide (i < j)) := rfl
theorem cmpLe (S : Store) (i j : Int) : cmp S .le (.int i) (.int j) = some (decide (i ≤ j)) := rfl
theorem cmpGt (S : Store) (i j : Int) : cmp S .gt (.int i) (.int j) = some (decide (j < i)) := rfl
theorem cmpGe (S : Store) (i j : Int) : cmp S .ge (.int i) (.int j) = some (decide (j ≤ i)) := rfl
theorem truthB (S : Store) (b : Bool) : truth S (.bl b) = some b := rfl
theorem decT {p : Prop} [Decidable p] (h : p) : decide p = true := decide_eq_true h
theorem decF {p : Prop} [Decidable p] (h : ¬p) : decide p = false := decide_eq_false h
end PyD

namespace PyD
open PySem
theorem while_go {c : Ro → Store → R Bool} {b : Ro → Store → Out} {ρ ρ1 : Ro} {S S1 S2 : Store} (hc : c ρ S = .ok true S1) (hb : b ρ S1 = .nx ρ1 S2) : whileM c b ρ S = whileM c b ρ1 S2 := by
  rw [whileM_step, hc]; simp only [R.th, if_true, hb]
theorem while_end {c : Ro → Store → R Bool} {b : Ro → Store → Out} {ρ : Ro} {S S1 : Store} (hc : c ρ S = .ok false S1) : whileM c b ρ S = .nx ρ S1 := by
  rw [whileM_step, hc]; simp only [R.th, Bool.false_eq_true, if_false]
theorem for_inv {t : It} {tg : Tg} {b : Ro → Store → Out} (Inv : List D → Ro → Store → Prop) (hs : ∀ xs ρ S, Inv xs ρ S → t.still S)
    (step : ∀ x xs ρ S, Inv (x :: xs) ρ S → ∃ ρ1 ρ2 S2, setTg tg x ρ = some ρ1 ∧ b ρ1 S = .nx ρ2 S2 ∧ Inv xs ρ2 S2) : ∀ xs ρ S, Inv xs ρ S → ∃ ρ2 S2, forM t tg b xs ρ S = .nx ρ2 S2 ∧ Inv [] ρ2 S2 := by
  intro xs
  induction xs with
  | nil => intro ρ S h; exact ⟨ρ, S, by rw [forM, if_pos (hs _ _ _ h)], h⟩
  | cons x xs ih =>
    intro ρ S h
    obtain ⟨ρ1, ρ2, S2, h1, h2, h3⟩ := step x xs ρ S h
    obtain ⟨ρ3, S3, h4, h5⟩ := ih ρ2 S2 h3
    refine ⟨ρ3, S3, ?_, h5⟩
    rw [forM, if_pos (hs _ _ _ h)]
    simp only [h1, h2, h4]
theorem comp_inv {t : It} {tg : Tg} {cond : Ro → Store → R Bool} {elt : Ro → Store → R D} {ρ : Ro} (hc : ∀ ρ S, cond ρ S = .ok true S) (Inv : List D → List D → Store → Prop) (hs : ∀ xs acc S, Inv xs acc S → t.still S ∧ xs.length + acc.length ≤ 100000)
    (step : ∀ x xs acc S, Inv (x :: xs) acc S → ∃ ρ1 y S2, setTg tg x ρ = some ρ1 ∧ elt ρ1 S = .ok y S2 ∧ Inv xs (acc ++ [y]) S2) : ∀ xs acc S, Inv xs acc S → ∃ ys S2, compLoop t tg cond elt ρ xs acc S = .ok ys S2 ∧ Inv [] ys S2 := by
  intro xs
  induction xs with
  | nil => intro acc S h; exact ⟨acc, S, by rw [compLoop, if_pos (hs _ _ _ h).1], h⟩
  | cons x xs ih =>
    intro acc S h
    obtain ⟨ρ1, y, S2, h1, h2, h3⟩ := step x xs acc S h
    obtain ⟨ys, S3, h4, h5⟩ := ih _ S2 h3
    refine ⟨ys, S3, ?_, h5⟩
    rw [compLoop, if_pos (hs _ _ _ h).1]
    simp only [h1, hc, R.bd_ok, if_true, h2]
    rw [if_pos, h4]
    have := (hs _ _ _ h).2
    simp only [List.length_cons] at this
    unfold sizeOk; omega
theorem comp_map {t : It} {tg : Tg} {cond : Ro → Store → R Bool} {elt : Ro → Store → R D} {ρ : Ro} {S : Store} (hc : ∀ ρ S, cond ρ S = .ok true S) (f : D → D) (hs : t.still S) {xs : List D} (hn : xs.length ≤ 100000)
    (step : ∀ x ∈ xs, ∃ ρ1, setTg tg x ρ = some ρ1 ∧ elt ρ1 S = .ok (f x) S) : compLoop t tg cond elt ρ xs [] S = .ok (xs.map f) S := by
  have key : ∀ (ys acc : List D), ys.length + acc.length ≤ 100000 → (∀ x ∈ ys, ∃ ρ1, setTg tg x ρ = some ρ1 ∧ elt ρ1 S = .ok (f x) S) → compLoop t tg cond elt ρ ys acc S = .ok (acc ++ ys.map f) S := by
    intro ys
    induction ys with
    | nil => intro acc _ _; rw [compLoop, if_pos hs]; simp
    | cons y ys ih =>
      intro acc hl h
      obtain ⟨ρ1, h1, h2⟩ := h y List.mem_cons_self
      rw [compLoop, if_pos hs]
      simp only [h1, hc, R.bd_ok, if_true, h2]
      rw [List.length_cons] at hl
      rw [if_pos (by unfold sizeOk; omega), ih _ (by simp; omega) fun x hx => h x (List.mem_cons_of_mem _ hx)]
      simp
  simpa using key xs [] (by simpa using hn) step
variable {g : G}
theorem l_map {own : List (Str × Nat)} {tg : Tg} {it : I} {elt : E} {ρ : Ro} {S : Store} {t : It} (f : D → D) (hI : evI g ρ it S = .ok t S) (hs : t.still S) (hn : t.items.length ≤ 100000)
    (step : ∀ x ∈ t.items, ∃ ρ1, setTg tg x (wipe ρ (own.map (·.2))) = some ρ1 ∧ evE g ρ1 elt S = .ok (f x) S) : evL g ρ (.comp own tg it .nil elt) S = .ok (t.items.map f) S := by
  rw [evL, hI, R.bd_ok]
  exact comp_map (fun _ _ => rfl) f hs hn fun x hx => by
    obtain ⟨ρ1, h1, h2⟩ := step x hx
    exact ⟨ρ1, h1, by simp only [h2, R.ne_ok]⟩
theorem l_inv {own : List (Str × Nat)} {tg : Tg} {it : I} {elt : E} {ρ : Ro} {S S1 : Store} {t : It} (Inv : List D → List D → Store → Prop) (hI : evI g ρ it S = .ok t S1) (hs : ∀ xs acc S, Inv xs acc S → t.still S ∧ xs.length + acc.length ≤ 100000)
    (step : ∀ x xs acc S, Inv (x :: xs) acc S → ∃ ρ1 y S2, setTg tg x (wipe ρ (own.map (·.2))) = some ρ1 ∧ evE g ρ1 elt S = .ok y S2 ∧ Inv xs (acc ++ [y]) S2) (h0 : Inv t.items [] S1) : ∃ ys S2, evL g ρ (.comp own tg it .nil elt) S = .ok ys S2 ∧ Inv [] ys S2 := by
  rw [evL, hI, R.bd_ok]
  exact comp_inv (fun _ _ => rfl) Inv hs (fun x xs acc S h => by
    obtain ⟨ρ1, y, S2, h1, h2, h3⟩ := step x xs acc S h
    exact ⟨ρ1, y, S2, h1, by simp only [h2, R.ne_ok], h3⟩) _ _ _ h0
theorem still_nil (xs : List D) (S : Store) : It.still ⟨xs, []⟩ S := fun p h => nomatch h
theorem f_inv {tg : Tg} {it : I} {a : Cs} {ρ : Ro} {S S1 : Store} {t : It} (Inv : List D → Ro → Store → Prop) (hI : evI g ρ it S = .ok t S1) (hs : ∀ xs ρ S, Inv xs ρ S → t.still S)
    (step : ∀ x xs ρ S, Inv (x :: xs) ρ S → ∃ ρ1 ρ2 S2, setTg tg x ρ = some ρ1 ∧ evCs g a ρ1 S = .nx ρ2 S2 ∧ Inv xs ρ2 S2) (h0 : Inv t.items ρ S1) : ∃ ρ2 S2, evC g (.fr tg it a) ρ S = .nx ρ2 S2 ∧ Inv [] ρ2 S2 := by
  rw [evC, hI]
  exact for_inv Inv hs step _ _ _ h0
theorem w_inv {c : E} {a : Cs} (Inv : Nat → Ro → Store → Prop) (step : ∀ n ρ S, Inv n ρ S → (∃ d S1, evE g ρ c S = .ok d S1 ∧ truth S1 d = some false) ∨ ∃ d S1 m ρ1 S2, evE g ρ c S = .ok d S1 ∧ truth S1 d = some true ∧ evCs g a ρ S1 = .nx ρ1 S2 ∧ m < n ∧ Inv m ρ1 S2) :
    ∀ n ρ S, Inv n ρ S → ∃ m ρ1 S1 d S2, evC g (.whl c a) ρ S = .nx ρ1 S2 ∧ Inv m ρ1 S1 ∧ evE g ρ1 c S1 = .ok d S2 ∧ truth S2 d = some false := by
  intro n
  induction n using Nat.strongRecOn with
  | _ n ih =>
    intro ρ S h
    rcases step n ρ S h with ⟨d, S1, h1, h2⟩ | ⟨d, S1, m, ρ1, S2, h1, h2, h3, h4, h5⟩
    · refine ⟨n, ρ, S, d, S1, ?_, h, h1, h2⟩
      rw [evC]
      exact while_end (by simp only [h1, R.bd_ok, h2, opt_some])
    · obtain ⟨m2, ρ2, S3, d2, S4, e1, e2, e3, e4⟩ := ih m h4 ρ1 S2 h5
      refine ⟨m2, ρ2, S3, d2, S4, ?_, e2, e3, e4⟩
      rw [evC] at e1 ⊢
      rw [while_go (by simp only [h1, R.bd_ok, h2, opt_some]) h3, e1]
theorem sz0 : PyD.sizeOk 0 = True := eq_true (by show 0 ≤ 100000; omega)
theorem sz1 : PyD.sizeOk 1 = True := eq_true (by show 1 ≤ 100000; omega)
theorem sz2 : PyD.sizeOk 2 = True := eq_true (by show 2 ≤ 100000; omega)
theorem sz3 : PyD.sizeOk 3 = True := eq_true (by show 3 ≤ 100000; omega)
theorem sz4 : PyD.sizeOk 4 = True := eq_true (by show 4 ≤ 100000; omega)
theorem sz5 : PyD.sizeOk 5 = True := eq_true (by show 5 ≤ 100000; omega)
theorem sz6 : PyD.sizeOk 6 = True := eq_true (by show 6 ≤ 100000; omega)
theorem sz7 : PyD.sizeOk 7 = True := eq_true (by show 7 ≤ 100000; omega)
theorem sz8 : PyD.sizeOk 8 = True := eq_true (by show 8 ≤ 100000; omega)
theorem comp_map2 {α : Type} {t : It} {tg : Tg} {cond : Ro → Store → R Bool} {elt : Ro → Store → R D} {ρ : Ro} {S : Store} (hc : ∀ ρ S, cond ρ S = .ok true S) (u v : α → D) (hs : t.still S) : ∀ (l : List α) (acc : List D), l.length + acc.length ≤ 100000 →
    (∀ x ∈ l, ∃ ρ1, setTg tg (u x) ρ = some ρ1 ∧ elt ρ1 S = .ok (v x) S) → compLoop t tg cond elt ρ (l.map u) acc S = .ok (acc ++ l.map v) S := by
  intro l
  induction l with
  | nil => intro acc _ _; rw [List.map_nil, compLoop, if_pos hs]; simp
  | cons y ys ih =>
    intro acc hl h
    obtain ⟨ρ1, h1, h2⟩ := h y List.mem_cons_self
    rw [List.map_cons, compLoop, if_pos hs]
    simp only [h1, hc, R.bd_ok, if_true, h2]
    rw [List.length_cons] at hl
    rw [if_pos (by show _ ≤ 100000; omega), ih _ (by simp; omega) fun x hx => h x (List.mem_cons_of_mem _ hx)]
    simp
theorem l_map2 {α : Type} {own : List (Str × Nat)} {tg : Tg} {it : I} {elt : E} {ρ : Ro} {S : Store} {src : List (Nat × List D)} (l : List α) (u v : α → D) (hI : evI g ρ it S = .ok ⟨l.map u, src⟩ S) (hs : It.still ⟨l.map u, src⟩ S) (hn : l.length ≤ 100000)
    (step : ∀ x ∈ l, ∃ ρ1, setTg tg (u x) (wipe ρ (own.map (·.2))) = some ρ1 ∧ evE g ρ1 elt S = .ok (v x) S) : evL g ρ (.comp own tg it .nil elt) S = .ok (l.map v) S := by
  rw [evL, hI, R.bd_ok]
  exact comp_map2 (fun _ _ => rfl) u v hs l [] (by simpa using hn) fun x hx => by
    obtain ⟨ρ1, h1, h2⟩ := step x hx
    exact ⟨ρ1, h1, by simp only [h2, R.ne_ok]⟩
theorem cs_nx {c : C} {cs : Cs} {ρ ρ1 : Ro} {S S1 : Store} (h : evC g c ρ S = .nx ρ1 S1) : evCs g (.cons c cs) ρ S = evCs g cs ρ1 S1 := by rw [evCs, h]; rfl
theorem cs_ret {c : C} {cs : Cs} {ρ : Ro} {S S1 : Store} {d : D} (h : evC g c ρ S = .ret d S1) : evCs g (.cons c cs) ρ S = .ret d S1 := by rw [evCs, h]; rfl
theorem idxRef (S : Store) (n : Nat) (i : Int) : idxD S (.ref n) (.int i) = (match S[n]? with
    | some (.lst xs) => L2.atI xs i
    | some (.dct ks vs) => dget ks vs (.inl i)
    | _ => none) := by
  simp only [idxD]
  cases S[n]? with
  | none => rfl
  | some o => cases o <;> rfl
theorem lstRef {S : Store} {n : Nat} {xs : List D} (h : S[n]? = some (.lst xs)) : lstOf S (.ref n) = some xs := by simp only [lstOf, h]
theorem atI0 (x : D) (xs : List D) : L2.atI (x :: xs) 0 = some x := idx0 [] x xs
theorem atI1 (x y : D) (xs : List D) : L2.atI (x :: y :: xs) 1 = some y := idx1 [] x y xs
theorem atI2 (x y z : D) (xs : List D) : L2.atI (x :: y :: z :: xs) 2 = some z := idx2 [] x y z xs
theorem atI3 (x y z u : D) (xs : List D) : L2.atI (x :: y :: z :: u :: xs) 3 = some u := by
  rw [atI_of (by omega) (by simp only [List.length_cons]; omega)]; rfl
theorem atI4 (x y z u v : D) (xs : List D) : L2.atI (x :: y :: z :: u :: v :: xs) 4 = some v := by
  rw [atI_of (by omega) (by simp only [List.length_cons]; omega)]; rfl
theorem ix51 : L2.ixN 5 1 = some 1 := rfl
theorem ix52 : L2.ixN 5 2 = some 2 := rfl
theorem ix53 : L2.ixN 5 3 = some 3 := rfl
theorem ix54 : L2.ixN 5 4 = some 4 := rfl
theorem lookup_no {α : Type} {f : Str} : ∀ {l : List (Str × α)}, (l.map (·.1)).findIdx? (· == f) = none → l.lookup f = none
  | [], _ => rfl
  | (x, y) :: l, h => by
    rw [List.map_cons, List.findIdx?_cons] at h
    by_cases e : x == f
    · rw [if_pos e] at h; cases h
    · rw [if_neg e] at h
      have e2 : (f == x) = false := by
        rw [Bool.eq_false_iff]; intro e3; exact e (by rw [eq_of_beq e3]; exact beq_self_eq_true _)
      simp only [List.lookup, e2]
      refine lookup_no ?_
      cases hh : (l.map (·.1)).findIdx? (· == f) with
      | none => rfl
      | some j => rw [hh] at h; cases h
def Clo (S : Store) : Prop := ∀ o ∈ S, o.clo S.length
theorem seqOpt_map {α β : Type} {f : α → Option β} {g : α → β} : ∀ xs : List α, (∀ x ∈ xs, f x = some (g x)) → seqOpt (xs.map f) = some (xs.map g)
  | [], _ => rfl
  | x :: xs, h => by
    rw [List.map_cons, h x List.mem_cons_self, seqOpt, seqOpt_map xs fun y hy => h y (List.mem_cons_of_mem _ hy)]; rfl
theorem nices_mem : ∀ {xs : List D}, D.nices xs = true → ∀ x ∈ xs, x.nice = true
  | x :: xs, h, y, hy => by
    rw [D.nices, Bool.and_eq_true] at h
    cases hy with
    | head => exact h.1
    | tail _ hy => exact nices_mem h.2 y hy
theorem deps_mem : ∀ {xs : List D}, ∀ x ∈ xs, x.dep ≤ D.deps xs
  | x :: xs, y, hy => by
    rw [D.deps]
    cases hy with
    | head => omega
    | tail _ hy => have := deps_mem y hy; omega
theorem frz_nice (k : Nat) (S : Store) : ∀ (m : Nat) (x : D), x.nice = true → x.dep < m → frz k S m x = some x
  | 0, _, _, h => absurd h (by omega)
  | m + 1, x, hn, hd => by
    cases x with
    | non => rfl
    | int i => rfl
    | str s => rfl
    | bl b => cases hn
    | ref n => cases hn
    | fn n => cases hn
    | exc n => cases hn
    | scr n => cases hn
    | tup xs =>
      rw [frz, seqOpt_map (g := id) xs fun x hx => frz_nice k S m x (nices_mem hn x hx) (by have := deps_mem x hx; rw [D.dep] at hd; omega)]
      simp
    | lst xs =>
      rw [frz, seqOpt_map (g := id) xs fun x hx => frz_nice k S m x (nices_mem hn x hx) (by have := deps_mem x hx; rw [D.dep] at hd; omega)]
      simp
theorem leave_ok {S X : Store} {v : D} (hn : v.nice = true) (hd : v.dep < 8) (hc : Clo S) : leave S.length v (S ++ X) = .ok v S := by
  unfold leave
  rw [frz_nice _ _ 8 v hn hd]
  rw [show (S ++ X).take S.length = S from List.take_left]
  exact if_pos hc
theorem get_last (S : Store) (o : O) (X : Store) : (S ++ o :: X)[S.length]? = some o := by simp
theorem set_last (S : Store) (o p : O) (X : Store) : (S ++ o :: X).set S.length p = S ++ p :: X := by simp
theorem nices_of {xs : List D} (h : ∀ x ∈ xs, x.nice = true) : D.nices xs = true := by
  induction xs with
  | nil => rfl
  | cons x xs ih => rw [D.nices, Bool.and_eq_true]; exact ⟨h x List.mem_cons_self, ih fun y hy => h y (List.mem_cons_of_mem _ hy)⟩
theorem deps_le {xs : List D} {n : Nat} (h : ∀ x ∈ xs, x.dep ≤ n) : D.deps xs ≤ n := by
  induction xs with
  | nil => exact Nat.zero_le _
  | cons x xs ih =>
    have h1 := h x List.mem_cons_self
    have h2 := ih fun y hy => h y (List.mem_cons_of_mem _ hy)
    rw [D.deps]; omega
theorem append_ok {S : Store} {n : Nat} {xs : List D} (y : D) (h : S[n]? = some (.lst xs)) (hl : xs.length < 100000) : listMt S n (fun xs => need (PyD.sizeOk (xs.length + 1)) (some (.non, xs ++ [y]))) = .ok .non (S.set n (.lst (xs ++ [y]))) := by
  have hz : PyD.sizeOk (xs.length + 1) := by show _ ≤ 100000; omega
  simp only [listMt, h, need_of hz]
theorem GG_call (T : Str → Option Fn) (gl : Str → Option D) (k : Nat) : (GG T gl k).call = callN T gl k := rfl
theorem GG_raw (T : Str → Option Fn) (gl : Str → Option D) (k : Nat) : (GG T gl k).raw = rawN T gl k := rfl
theorem GG_glob (T : Str → Option Fn) (gl : Str → Option D) (k : Nat) : (GG T gl k).glob = gl := rfl
theorem allInt_map (l : List Int) : allInt (l.map .int) = some l := by
  induction l with
  | nil => rfl
  | cons x l ih => show (allInt (l.map .int)).map (x :: ·) = _; rw [ih]; rfl
theorem sortLs (S : Store) (xs : List D) : sortD S (.lst xs) = sortL xs := rfl
theorem sortInts (S : Store) (l : List Int) : sortD S (.lst (l.map .int)) = some ((insSort l).map .int) := by
  rw [sortLs]
  unfold sortL
  rw [allInt_map]
theorem allRow_map (ls : List (List Int)) : allRow (ls.map fun l => .tup (l.map .int)) = some ls := by
  induction ls with
  | nil => rfl
  | cons x l ih => rw [List.map_cons, allRow, allInt_map, ih]
theorem sortRows (S : Store) (l : List Int) (ls : List (List Int)) (h1 : ls.length < 63) (h2 : 1 ≤ l.length) (h3 : oneLen l.length ls = true) : sortD S (.lst ((l :: ls).map fun l => .tup (l.map .int))) = some ((sortT (l :: ls)).map fun l => .tup (l.map .int)) := by
  rw [sortLs]
  unfold sortL
  rw [show allInt ((l :: ls).map fun l => D.tup (l.map .int)) = none from rfl, show allStr ((l :: ls).map fun l => D.tup (l.map .int)) = none from rfl, allRow_map]
  exact need_of ⟨h1, h2, h3⟩
end PyD

namespace PyD
open PySem PySem.Spec PyProof.Rows L2 L2H
theorem run_hot {CX : CXT} {P : Program} {w : World} {K : PySem.W.Frag} {mg : Str → Option Value} {base : Heap} {k : Nat} {f : Addr} {name qual : Str} {params : Arguments} {body : List Stmt} {scope : Scope} {dV kV doc pm cdv ct oc : Value} {an od : Option Addr}
    {osl : Array (Option Value)} {N ps : List Str} (lk : K.lookup f = some ⟨oc, od, .func (PySem.W.fnOf name qual params body scope dV kV doc pm an cdv ct), osl⟩) (hcd : PySem.W.codeIn K cdv qual = true) (S : FnScope N ps scope)
    {A : Around} {outer : List Env} {s : Shared} {H : Hp} {args : Args} {us : List Value} {vs : List V} {Q : VK} {E : XK} {p : Addr × Obj} (hr : RoomH (k + 1) A) (hot : Hot1 A p) (hpin : PinOk outer H s p) (e0 : Env0 P w K mg base A outer s H)
    (hb : BindsTo s (PySem.W.fnOf name qual params body scope dV kV doc pm an cdv ct) args (ps.zip us)) (r : Vals vs us) (hl : vs.length = ps.length)
    (hbody : RoomH k (A.deeper (envOfC qual scope s.heap.objs.size f cdv)) → ∃ t, PSs (cxH CX P w K mg base N qual scope f cdv A outer s H E p) body t ∧ t { nx := fun _ H' => Q .non H', rt := Q } (L2.start N vs) H) :
    codeAny (model P w) A (.call (.ref f) args) (CR CX outer P w H s Q E) s := by
  have KX : K.In s.heap := e0.mod.kin.keeps fun b o e => (e0.bs b o e).1
  have lim : s.heap.NoLimit := e0.mod.nolimit.keeps fun b o e => (e0.bs b o e).1
  have hkind : ∀ y ∈ ps.zip us, scope.names.lookup y.1 = some .local ∨ (scope.names.lookup y.1 = some .cell ∧ ((cellsFrom (s.heap.objs.size + 1) scope.names []).lookup y.1).isSome = true) := fun ⟨n, v⟩ hy => by
    rcases S.par n (List.of_mem_zip hy).1 with q | q
    · exact .inl q
    · exact .inr ⟨q, PySem.W.cellsFrom_some _ _ _ (.inl q)⟩
  refine codeAny_call_function hr.depth (KX _ _ lk) rfl S.co S.gen rfl (PySem.W.codeRec_of KX hcd) (hb _ _ _ _ ?_)
  refine wpAny_newFunctionEnv_cells S.kind hkind fun env he s1 x => ?_
  subst he
  refine ⟨lim.keeps x.toInCall.keep, codeAny_func ?_⟩
  obtain ⟨t, ht, hq⟩ := hbody (hr.deeper _)
  have I : Inv (cxH CX P w K mg base N qual scope f cdv A outer s H E p) [] (L2.start N vs) H s1 := inv_startH S hpin e0 hl r x
  refine wpAny_mono (ht.run [] s1 (L2.start N vs) H _ I hq) (fun fl s' hs => ?_) fun e s' hs => hs
  have fin : ∀ {σ' : L2.St} {H' : Hp} {v : V} {u : Value}, Inv (cxH CX P w K mg base N qual scope f cdv A outer s H E p) [] σ' H' s' → L2.RelV v u → Q v H' → CE outer P w H s Q u s' :=
    fun {σ' H' v u} J rv q => ⟨v, H', J.os, J.bare, J.base, J.hok, rv, q⟩
  cases fl with
  | ret u => obtain ⟨v, σ', H', J, rv, q⟩ := hs; exact fin J rv q
  | next => obtain ⟨σ', H', J, q⟩ := hs; exact fin (v := V.non) (u := Value.none) J rfl q
  | brk => obtain ⟨_, _, _, q⟩ := hs; exact False.elim q
  | cont => obtain ⟨_, _, _, q⟩ := hs; exact False.elim q
end PyD

namespace PyD
open PySem PySem.Spec PyProof.Rows L2 L2H
def NameOk (K : PySem.W.Frag) (mg : Str → Option Value) (c : Str) (D : Addr) (n : Str) : Prop := ∃ cv, PySem.W.kitOne K (.ref D) cv = some (subX c n) ∧ (n == ("__debug__" : Str)) = false ∧
  ((∃ C, cv = .ref C ∧ mg n = some (.ref C)) ∨ (∃ t, cv = .type t ∧ mg n = none ∧ bootBuiltins n = some (.type t) ∧ n ≠ "__name__"))
theorem kin_ok [T0 : TB] {P : Program} {w : World} {K : PySem.W.Frag} {mg : Str → Option Value} {base : Heap} {fk : Addr} {c : Str} {params : Arguments} {body : List Stmt} {scope : Scope} {dV kV doc pm cdv ct oc : Value} {an od : Option Addr} {osl : Array (Option Value)} {N : List Str} {kb : Cs} {xi : Str → Bool} {Dc : Addr}
    (lk : K.lookup fk = some ⟨oc, od, .func (PySem.W.fnOf "_law_kin" "_law_kin" params body scope dV kV doc pm an cdv ct), osl⟩) (hcd : PySem.W.codeIn K cdv "_law_kin" = true) (S : FnScope N ["_law_e"] scope) (hb : L2.Binds K (PySem.W.fnOf "_law_kin" "_law_kin" params body scope dV kV doc pm an cdv ct) ["_law_e"] [])
    (hc : chkCs ⟨N, scope.names, fun _ => none, fun _ => false, fun _ => false, false, false, xi⟩ kb body = true) (bn : ∀ x ∈ bNames, mg x = none) (hcl : clsV K c (.ref Dc)) (hx : ExcC K Dc) (hn : ∀ n, xi n = true → NameOk K mg c Dc n)
    (hev : ∀ g : G, evCs g kb (PyD.start N.length [.exc c []]) [] = .ret (.str c) []) : KinRun P w K mg base fk c := by
  intro A outer s H Q p D hr hot hpin e0 hcv hz hf ht hQ
  have hD : D = .ref Dc := by
    unfold clsV at hcv hcl
    rw [hcv] at hcl
    cases hcl; rfl
  subst hD
  have KX : K.In s.heap := e0.mod.kin.keeps fun b o e => (e0.bs b o e).1
  refine run_hot (k := 2) (vs := [V.ref p.1]) (us := [Value.ref p.1]) lk hcd S hr hot hpin e0 (hb s [.ref p.1] KX rfl) (.cons rfl .nil) rfl fun hr' => ?_
  let T1 : TB := ⟨T0.tabs, some (p.1, c)⟩
  let g : G := ⟨fun _ _ _ => .bad, fun _ _ _ => .bad, fun _ => none⟩
  have st : @StaS T1 (cxH (L2N.CX P w) P w K mg base N "_law_kin" scope fk cdv A outer s H (fun _ _ _ => False) p) (fun _ _ _ _ => False) g ⟨N, scope.names, fun _ => none, fun _ => false, fun _ => false, false, false, xi⟩ :=
    { tk := L2N.takes_of (E := fun _ _ _ => False) rfl rfl rfl rfl, N := rfl, nm := fun x kd h => .inl h, nd := S.nd, calm := fun h => (nomatch h), hot := fun _ => ⟨p, hot, List.mem_singleton_self p⟩
      isx := fun _ n h => by
        obtain ⟨cv, h1, h2, h3⟩ := hn n h
        rcases h3 with ⟨C, rfl, h4⟩ | ⟨t, rfl, h4, h5, h6⟩
        · exact ⟨p, Dc, c, .ref C, .ref C, rfl, List.mem_singleton_self p, hx, hz.zc, hf, fun u hu => hu, h1, fun q hg => pe_glob hg h4 rfl h2⟩
        · exact ⟨p, Dc, c, .ty t, .type t, rfl, List.mem_singleton_self p, hx, hz.zc, hf, fun u hu => hu, h1, fun q hg => pe_bltn hg h4 h5 rfl h6 h2⟩
      un := by have := hr'.un; show (A.deeper _).units + 64 < cLine; omega
      un2 := by have := hr'.un; show (A.deeper _).units + 65 < cLine; omega
      fn := fun _ _ => rfl, bn := bn, gc := fun x d h => (nomatch h), cl := fun f sg h => (nomatch h), xc := fun c h => (nomatch h), tr := fun h => (nomatch h)
      po := passes_of (K := fun e s'' => L2N.CX P w outer H s (fun _ _ _ => False) e s'') rfl
      bk := by
        show Env.blockKind _ = .function
        unfold Env.blockKind
        show (if scope.kind.isAnnotationScope then ScopeKind.function else scope.kind) = .function
        rw [S.kind]; rfl
      fk := S.kind
      ex := fun _ => rfl }
  refine ⟨_, @soCs T1 g kb _ _ _ st _ hc, [], [], [], PyD.start N.length [.exc c []], ⟨rfl, List.nodup_nil, (fun n o h => by simp at h), (fun a h => nomatch h), (fun a h => nomatch h), ht, (fun a h => nomatch h)⟩, @start_lo T1 _ _ _ _ _ _ _ (.cons (.hot rfl) .nil), ?_⟩
  show @PostC T1 _ _ _ _ _ _ (evCs g kb (PyD.start N.length [.exc c []]) [])
  rw [hev]
  intro m' H' v e r q
  cases q
  exact hQ m' H' e (r.tab.mv fun a _ _ _ => ⟨(fun z => nomatch z), (fun z => nomatch z), rfl⟩)
end PyD

namespace PyD
open PySem PySem.Spec PyProof.Rows L2
variable [TB]
section
variable {K : PySem.W.Frag} {x qual : Str} {params : Arguments} {body : List Stmt} {scope : Scope} {dvs : List V} {kws : List (Str × V)} {f : Addr} {fd : FuncData} {ps : List Str}
theorem bnd_T (F : FunD K x qual params body scope dvs kws f fd) (hd : dvs ≠ []) (n : Nat) (ks : List Str) (arr : List Ar) (g : List Value → List Value → List Value → List Value)
    (h : ∀ (T : Addr) (kV doc pm : Value) (an : Option Addr) (cdv ct : Value) (us its ws : List Value), us.length = n → its.length = dvs.length → ws.length = ks.length →
      ∃ k, bindArgs (PySem.W.fnOf x qual params body scope (.ref T) kV doc pm an cdv ct) ⟨us, ks.zip ws⟩ = seqItems? (.ref T) >>= k ∧ k (some its.toArray) = pure (ps.zip (g us its ws)))
    (ha : ∀ (us its ws : List Value), us.length = n → Vals dvs its → ws.length = ks.length → Paired (ArrV K us ws) arr (g us its ws)) : Bnd K fd ps n ks arr := by
  obtain ⟨oc, od, dV, kV, doc, pm, an, cdv, ct, osl, rfl, lk, hcd, hD, hK⟩ := F.ex
  rcases hD with ⟨e, _⟩ | ⟨_, T, o, its, m, rfl, lT, oT, rT⟩
  · exact absurd e hd
  · intro s us ws X l1 l2
    obtain ⟨k, e1, e2⟩ := h T kV doc pm an cdv ct us its ws l1 rT.length.symm l2
    refine ⟨g us its ws, BindsTo.of_looks fun M => ?_, ha us its ws l1 rT l2⟩
    rw [e1]
    exact looks_items X lT oT (.of_pure e2)
theorem binds_T (F : FunD K x qual params body scope dvs kws f fd) (hd : dvs ≠ [])
    (h : ∀ (T : Addr) (kV doc pm : Value) (an : Option Addr) (cdv ct : Value) (us its : List Value), us.length = ps.length → its.length = dvs.length →
      ∃ k, bindArgs (PySem.W.fnOf x qual params body scope (.ref T) kV doc pm an cdv ct) ⟨us, []⟩ = seqItems? (.ref T) >>= k ∧ k (some its.toArray) = pure (ps.zip us)) : Binds K fd ps [] := by
  obtain ⟨ds, e, b⟩ := F.binds1 (ps := ps) ps.length dvs.length hd (by omega) fun T kV doc pm an cdv ct us its l1 l2 => by
    obtain ⟨k, e1, e2⟩ := h T kV doc pm an cdv ct us its l1 l2
    exact ⟨k, e1, by rw [e2, ← l2, List.drop_length, List.append_nil]⟩
  rw [List.drop_length] at e
  cases e
  exact b
theorem bnd_D (F : FunD K x qual params body scope [] kws f fd) (hk : kws ≠ []) (n : Nat) (ks : List Str) (ms : List (Str × V)) (hms : ∀ q ∈ ms, q ∈ kws) (arr : List Ar) (g : List Value → List Value → List Value → List Value)
    (h : ∀ (D : Addr) (doc pm : Value) (an : Option Addr) (cdv ct : Value) (us mv ws : List Value), us.length = n → mv.length = ms.length → ws.length = ks.length →
      KwChain D ((ms.map (·.1)).zip mv) (bindArgs (PySem.W.fnOf x qual params body scope .none (.ref D) doc pm an cdv ct) ⟨us, ks.zip ws⟩) (ps.zip (g us mv ws)))
    (ha : ∀ (us mv ws : List Value), us.length = n → Vals (ms.map (·.2)) mv → ws.length = ks.length → Paired (ArrV K us ws) arr (g us mv ws)) : Bnd K fd ps n ks arr := by
  obtain ⟨oc, od, dV, kV, doc, pm, an, cdv, ct, osl, rfl, lk, hcd, hD, hK⟩ := F.ex
  rcases hD with ⟨_, rfl⟩ | ⟨e, _⟩
  · rcases hK with e | ⟨D, rfl, hq⟩
    · exact absurd e hk
    · obtain ⟨mv, hl, rk, hks⟩ := kwd_vals (ms := ms) fun q hm => hq q (hms q hm)
      intro s us ws X l1 l2
      exact ⟨g us mv ws, BindsTo.of_looks fun M => KwChain.looks X hks (h D doc pm an cdv ct us mv ws l1 hl l2), ha us mv ws l1 rk l2⟩
  · exact absurd rfl e
end
def kitAll (K : PySem.W.Frag) (t : Value) (l : List (Value × Bool)) : Bool := l.all fun p => match PySem.W.kitOne K t p.1 with
  | some b => b == p.2
  | none => false
theorem kitAll_at {K : PySem.W.Frag} {t : Value} {l : List (Value × Bool)} (h : kitAll K t l = true) {i : Nat} {v : Value} {b : Bool} (hi : l[i]? = some (v, b)) : PySem.W.kitOne K t v = some b := by
  have := List.all_eq_true.mp h _ (List.mem_of_getElem? hi)
  simp only at this
  split at this
  · rename_i b' e
    rw [e, eq_of_beq this]
  · cases this
end PyD

namespace CK
open PySem PyD
def m_law_kin_0 : L := (.comp [("_law_flag", 5), ("_law_name", 4)] (.many [4, 5]) (.zipl (.var 1) (.var 2)) (.cons (.var 5) .nil) (.var 4))
def c_law_kin : Fn := ⟨1, 8, false, (.cons (.set 1 (.new false (.disp (.cons (.str "BadPart") (.cons (.str "BadTurn") (.cons (.str "BadRow") (.cons (.str "BadMotion") (.cons (.str "BadAxes") (.cons (.str "BadBody") (.cons (.str "BadText") (.cons (.str "BadName") (.cons (.str "BadHelper") .nil)))))))))))) (.cons (.set 1 (.bin .add (.var 1) (.new false (.disp (.cons (.str "BadColumn") (.cons (.str "BadWorth") (.cons (.str "BadWay") (.cons (.str "BadPage") (.cons (.str "NoGauge") (.cons (.str "NoMounting") (.cons (.str "NoHelper") (.cons (.str "NoRoll") .nil)))))))))))) (.cons (.set 1 (.bin .add (.var 1) (.new false (.disp (.cons (.str "NoRow") (.cons (.str "NoColumn") (.cons (.str "Taken") (.cons (.str "Full") (.cons (.str "Nothing") (.cons (.str "Apart") (.cons (.str "Torn") (.cons (.str "Used") (.cons (.str "Unfit") (.cons (.str "Misfit") .nil)))))))))))))) (.cons (.set 2 (.new false (.disp (.cons (.isx "BadPart" (.var 0)) (.cons (.isx "BadTurn" (.var 0)) (.cons (.isx "BadRow" (.var 0)) (.cons (.isx "BadMotion" (.var 0)) .nil))))))) (.cons (.set 2 (.bin .add (.var 2) (.new false (.disp (.cons (.isx "BadAxes" (.var 0)) (.cons (.isx "BadBody" (.var 0)) (.cons (.isx "BadText" (.var 0)) .nil))))))) (.cons (.set 2 (.bin .add (.var 2) (.new false (.disp (.cons (.isx "BadName" (.var 0)) (.cons (.isx "BadHelper" (.var 0)) (.cons (.isx "BadColumn" (.var 0)) .nil))))))) (.cons (.set 2 (.bin .add (.var 2) (.new false (.disp (.cons (.isx "BadWorth" (.var 0)) (.cons (.isx "BadWay" (.var 0)) (.cons (.isx "BadPage" (.var 0)) .nil))))))) (.cons (.set 2 (.bin .add (.var 2) (.new false (.disp (.cons (.isx "NoGauge" (.var 0)) (.cons (.isx "NoMounting" (.var 0)) (.cons (.isx "NoHelper" (.var 0)) .nil))))))) (.cons (.set 2 (.bin .add (.var 2) (.new false (.disp (.cons (.isx "NoRoll" (.var 0)) (.cons (.isx "NoRow" (.var 0)) (.cons (.isx "NoColumn" (.var 0)) (.cons (.isx "Taken" (.var 0)) .nil)))))))) (.cons (.set 2 (.bin .add (.var 2) (.new false (.disp (.cons (.isx "Full" (.var 0)) (.cons (.isx "Nothing" (.var 0)) (.cons (.isx "Apart" (.var 0)) (.cons (.isx "Torn" (.var 0)) .nil)))))))) (.cons (.set 2 (.bin .add (.var 2) (.new false (.disp (.cons (.isx "Used" (.var 0)) (.cons (.isx "Unfit" (.var 0)) (.cons (.isx "Misfit" (.var 0)) .nil))))))) (.cons (.set 3 (.new false m_law_kin_0)) (.cons (.iff (.cmp .ne (.bi .len (.var 3)) (.int 1)) (.cons (.ret (.str "odd")) .nil) .nil) (.cons (.set 6 (.new false (.disp (.cons (.isx "GimbalError" (.var 0)) (.cons (.isx "ValueError" (.var 0)) .nil))))) (.cons (.set 6 (.bin .add (.var 6) (.new false (.disp (.cons (.isx "BookError" (.var 0)) (.cons (.isx "LookupError" (.var 0)) .nil)))))) (.cons (.set 7 (.cmp .lt (.me .idx (.var 1) (.cons (.idx (.var 3) (.int 0)) .nil)) (.int 13))) (.cons (.ret (.ite (.cmp .eq (.var 6) (.new false (.disp (.cons (.var 7) (.cons (.var 7) (.cons (.not (.var 7)) (.cons (.not (.var 7)) .nil))))))) (.idx (.var 3) (.int 0)) (.str "odd"))) .nil)))))))))))))))))⟩
theorem comp_pick {i j : Nat} {ρ : Ro} {cond : Ro → Store → R Bool} {elt : Ro → Store → R D} {S : Store} (hc : ∀ (n : Str) (b : Bool), cond ((ρ.set i (some (.str n))).set j (some (.bl b))) S = .ok b S) (he : ∀ (n : Str) (b : Bool), elt ((ρ.set i (some (.str n))).set j (some (.bl b))) S = .ok (.str n) S) {src : List (Nat × List D)} (hs : ∀ xs, It.still ⟨xs, src⟩ S) {all : List D} : ∀ (l : List (Str × Bool)) (acc : List D), l.length + acc.length ≤ 1000 →
    compLoop ⟨all, src⟩ (.many [i, j]) cond elt ρ (l.map fun p => .tup [.str p.1, .bl p.2]) acc S = .ok (acc ++ (l.filter (·.2)).map fun p => .str p.1) S
  | [], acc, _ => by rw [List.map_nil, compLoop, if_pos (hs _)]; simp
  | (n, b) :: l, acc, hl => by
    rw [List.length_cons] at hl
    have ht : setTg (.many [i, j]) (.tup [.str n, .bl b]) ρ = some ((ρ.set i (some (.str n))).set j (some (.bl b))) := need_of rfl
    rw [List.map_cons, compLoop, if_pos (hs _)]
    simp only [ht, hc, R.bd_ok]
    cases b with
    | false =>
      simp only [Bool.false_eq_true, if_false]
      rw [comp_pick hc he hs l acc (by omega)]
      rfl
    | true =>
      simp only [if_true, he, R.bd_ok]
      rw [if_pos (show PyD.sizeOk (acc.length + 1) by show _ ≤ 100000; omega), comp_pick hc he hs l _ (by simp; omega)]
      simp

def parNames : List Str := ["GimbalError", "ValueError", "BookError", "LookupError"]
def xi (n : Str) : Bool := (kinNames ++ parNames).contains n
theorem xi_cases {P : Str → Prop} (h : ∀ n ∈ kinNames ++ parNames, P n) : ∀ n, xi n = true → P n := fun n hn => by
  unfold xi at hn
  rw [List.contains_iff_mem] at hn
  exact h n hn
def kinAt (c : Str) : Nat := ((kinNames.map D.str).findIdx? fun z => eqF z (.str c)).getD 0
theorem kin_facts : ∀ c ∈ kinNames, ((kinNames.map fun n => (n, subX c n)).filter (·.2)) = [(c, true)] ∧ ((kinNames.map D.str).findIdx? fun z => eqF z (.str c)) = some (kinAt c) ∧ decide ((kinAt c : Int) < 13) = subX c "GimbalError" ∧ subX c "ValueError" = subX c "GimbalError" ∧ subX c "BookError" = !subX c "GimbalError" ∧ subX c "LookupError" = !subX c "GimbalError" := by decide +kernel
theorem catLL (S : Store) (xs ys : List D) (h : xs.length + ys.length ≤ 100000) : PyD.bin S .add (.lst xs) (.lst ys) = some (.lst (xs ++ ys)) := by
  show (catL S (.lst xs) (.lst ys)).map D.lst = _
  unfold catL
  simp only [lstOf]
  rw [need_of (show sizeOk (xs.length + ys.length) from h)]
  rfl
theorem eq4 (S : Store) : ∀ b : Bool, eqD S (.lst [.bl b, .bl b, .bl (!b), .bl (!b)]) (.lst [.bl b, .bl b, .bl (!b), .bl (!b)]) = some true := by
  intro b
  show need _ (some (PyData.eqv (.list [.bool b, .bool b, .bool (!b), .bool (!b)]) (.list [.bool b, .bool b, .bool (!b), .bool (!b)]))) = _
  rw [need_of (by cases b <;> decide +kernel)]
  cases b <;> rfl
theorem isxE {g : G} {ρ : Ro} {c : Str} {S : Store} (n : Str) (h : ρ.getD 0 none = some (.exc c [])) : evE g ρ (.isx n (.var 0)) S = .ok (.bl (subX c n)) S := by
  rw [evE, evE, h]; rfl
def bls (c : Str) (l : List Str) : List D := l.map fun n => .bl (subX c n)
theorem isxs {g : G} {ρ : Ro} {c : Str} {S : Store} (h : ρ.getD 0 none = some (.exc c [])) : ∀ (l : List Str), evEs g ρ (l.foldr (fun n r => .cons (.isx n (.var 0)) r) .nil) S = .ok (bls c l) S
  | [] => by rw [List.foldr_nil, evEs]; rfl
  | n :: l => by rw [List.foldr_cons, evEs, isxE n h, R.bd_ok, isxs h l]; rfl
theorem strE {g : G} {ρ : Ro} {S : Store} : ∀ (l : List Str), evEs g ρ (l.foldr (fun n r => .cons (.str n) r) .nil) S = .ok (l.map D.str) S
  | [] => by rw [List.foldr_nil, evEs]; rfl
  | n :: l => by rw [List.foldr_cons, evEs, evE, R.bd_ok, strE l]; rfl
theorem newS {g : G} {ρ : Ro} {S : Store} (l : List Str) (h : l.length ≤ 1000) : evE g ρ (.new false (.disp (l.foldr (fun n r => .cons (.str n) r) .nil))) S = .ok (.lst (l.map D.str)) S := by
  rw [evE, evL, strE, R.bd_ok, if_pos (show sizeOk (l.map D.str).length by rw [List.length_map]; show _ ≤ 100000; omega)]; rfl
theorem newB {g : G} {ρ : Ro} {c : Str} {S : Store} (hc : ρ.getD 0 none = some (.exc c [])) (l : List Str) (h : l.length ≤ 1000) : evE g ρ (.new false (.disp (l.foldr (fun n r => .cons (.isx n (.var 0)) r) .nil))) S = .ok (.lst (bls c l)) S := by
  rw [evE, evL, isxs hc, R.bd_ok, if_pos (show sizeOk (bls c l).length by unfold bls; rw [List.length_map]; show _ ≤ 100000; omega)]; rfl
theorem setS {g : G} {ρ : Ro} {S : Store} {cs : Cs} (l : List Str) (i : Nat) (h : l.length ≤ 1000) : evCs g (.cons (.set i (.new false (.disp (l.foldr (fun n r => .cons (.str n) r) .nil)))) cs) ρ S = evCs g cs (ρ.set i (some (.lst (l.map D.str)))) S :=
  cs_nx (by rw [evC, newS l h]; rfl)
theorem addS {g : G} {ρ : Ro} {S : Store} {cs : Cs} {k : List Str} (l : List Str) (i : Nat) (hi : ρ.getD i none = some (.lst (k.map D.str))) (h : l.length ≤ 1000) (hk : k.length ≤ 1000) : evCs g (.cons (.set i (.bin .add (.var i) (.new false (.disp (l.foldr (fun n r => .cons (.str n) r) .nil))))) cs) ρ S = evCs g cs (ρ.set i (some (.lst ((k ++ l).map D.str)))) S :=
  cs_nx (by rw [evC, evE, evE, hi, opt_some, R.bd_ok, newS l h, R.bd_ok, catLL _ _ _ (by simp only [List.length_map]; omega), ← List.map_append]; rfl)
theorem setB {g : G} {ρ : Ro} {c : Str} {S : Store} {cs : Cs} (hc : ρ.getD 0 none = some (.exc c [])) (l : List Str) (i : Nat) (h : l.length ≤ 1000) : evCs g (.cons (.set i (.new false (.disp (l.foldr (fun n r => .cons (.isx n (.var 0)) r) .nil)))) cs) ρ S = evCs g cs (ρ.set i (some (.lst (bls c l)))) S :=
  cs_nx (by rw [evC, newB hc l h]; rfl)
theorem addB {g : G} {ρ : Ro} {c : Str} {S : Store} {cs : Cs} {k : List Str} (hc : ρ.getD 0 none = some (.exc c [])) (l : List Str) (i : Nat) (hi : ρ.getD i none = some (.lst (bls c k))) (h : l.length ≤ 1000) (hk : k.length ≤ 1000) : evCs g (.cons (.set i (.bin .add (.var i) (.new false (.disp (l.foldr (fun n r => .cons (.isx n (.var 0)) r) .nil))))) cs) ρ S = evCs g cs (ρ.set i (some (.lst (bls c (k ++ l))))) S :=
  cs_nx (by rw [evC, evE, evE, hi, opt_some, R.bd_ok, newB hc l h, R.bd_ok, catLL _ _ _ (by unfold bls; simp only [List.length_map]; omega)]; unfold bls; rw [← List.map_append]; rfl)
theorem kin_hev (g : G) (c : Str) (hc : c ∈ kinNames) : evCs g c_law_kin.body (PyD.start 8 [.exc c []]) [] = .ret (.str c) [] := by
  obtain ⟨f1, f2, f3, f4, f5, f6⟩ := kin_facts c hc
  show evCs g _ [some (.exc c []), none, none, none, none, none, none, none] [] = _
  unfold c_law_kin
  refine (setS ["BadPart", "BadTurn", "BadRow", "BadMotion", "BadAxes", "BadBody", "BadText", "BadName", "BadHelper"] 1 (by decide)).trans ?_
  refine (addS ["BadColumn", "BadWorth", "BadWay", "BadPage", "NoGauge", "NoMounting", "NoHelper", "NoRoll"] 1 rfl (by decide) (by decide)).trans ?_
  refine (addS ["NoRow", "NoColumn", "Taken", "Full", "Nothing", "Apart", "Torn", "Used", "Unfit", "Misfit"] 1 rfl (by decide) (by decide)).trans ?_
  refine (setB (c := c) rfl ["BadPart", "BadTurn", "BadRow", "BadMotion"] 2 (by decide)).trans ?_
  refine (addB (c := c) rfl ["BadAxes", "BadBody", "BadText"] 2 rfl (by decide) (by decide)).trans ?_
  refine (addB (c := c) rfl ["BadName", "BadHelper", "BadColumn"] 2 rfl (by decide) (by decide)).trans ?_
  refine (addB (c := c) rfl ["BadWorth", "BadWay", "BadPage"] 2 rfl (by decide) (by decide)).trans ?_
  refine (addB (c := c) rfl ["NoGauge", "NoMounting", "NoHelper"] 2 rfl (by decide) (by decide)).trans ?_
  refine (addB (c := c) rfl ["NoRoll", "NoRow", "NoColumn", "Taken"] 2 rfl (by decide) (by decide)).trans ?_
  refine (addB (c := c) rfl ["Full", "Nothing", "Apart", "Torn"] 2 rfl (by decide) (by decide)).trans ?_
  refine (addB (c := c) rfl ["Used", "Unfit", "Misfit"] 2 rfl (by decide) (by decide)).trans ?_
  show evCs g _ [some (.exc c []), some (.lst (kinNames.map D.str)), some (.lst (bls c kinNames)), none, none, none, none, none] [] = _
  have hm : evL g [some (.exc c []), some (.lst (kinNames.map D.str)), some (.lst (bls c kinNames)), none, none, none, none, none] m_law_kin_0 [] = .ok [.str c] [] := by
    unfold m_law_kin_0
    have hz : zipL [] (.lst (kinNames.map D.str)) (.lst (bls c kinNames)) = .ok ⟨(kinNames.map fun n => (n, subX c n)).map fun p => .tup [.str p.1, .bl p.2], []⟩ [] := by
      unfold zipL
      rw [if_pos ⟨rfl, rfl⟩]
      rfl
    have hI : evI g [some (.exc c []), some (.lst (kinNames.map D.str)), some (.lst (bls c kinNames)), none, none, none, none, none] (.zipl (.var 1) (.var 2)) [] = .ok ⟨(kinNames.map fun n => (n, subX c n)).map fun p => .tup [.str p.1, .bl p.2], []⟩ [] := by
      simp only [evI, evE, List.getD_cons_zero, List.getD_cons_succ, opt_some, R.bd_ok]
      exact hz
    rw [evL, hI, R.bd_ok]
    rw [comp_pick (fun n b => by simp only [evE, evEs, evAnd, evOr, evL.eq_1, evL.eq_2, evL.eq_4, evL.eq_5, evL.eq_6, meT, meD, isLr, get_last, evI, evC.eq_1, evC.eq_2, evC.eq_3, evC.eq_4, evC.eq_5, evC.eq_6, evC.eq_7, evC.eq_8, evC.eq_9, evC.eq_10, evC.eq_13, evC.eq_14, evC.eq_15, evC.eq_16, evCs, GG_call, GG_raw, GG_glob, R.ne_ok, R.bd_ok, R.bd_err, R.bd_bad, opt_some, opt_none, R.th, Out.th, PyD.finish, PyD.start, List.map, List.length, List.replicate, List.getD_cons_zero, List.getD_cons_succ, List.set_cons_zero, List.set_cons_succ, List.cons_append, List.nil_append, if_true, if_false, Bool.false_eq_true, E.isNon, Option.map_some, Option.map_none, Option.bind_some, setAll, List.zip_cons_cons, List.zip_nil_left, List.foldl_cons, List.foldl_nil, truthB, cmpEqI, cmpNeI, cmpLt, cmpLe, cmpGt, cmpGe, isNon, binAdd, binSub, Bool.not_true, Bool.not_false, decide_true, decide_false, reduceCtorEq, Nat.reduceAdd, Nat.reduceSub, Nat.sub_self, Nat.sub_zero, Nat.zero_add, ofI, idx0, idx1, idx2, biAbs, biLenT, biLenL, biTupL, biTupT, sz0, sz1, sz2, sz3, sz4, sz5, sz6, sz7, sz8, wipe]) (fun n b => by simp only [evE, evEs, evAnd, evOr, evL.eq_1, evL.eq_2, evL.eq_4, evL.eq_5, evL.eq_6, meT, meD, isLr, get_last, evI, evC.eq_1, evC.eq_2, evC.eq_3, evC.eq_4, evC.eq_5, evC.eq_6, evC.eq_7, evC.eq_8, evC.eq_9, evC.eq_10, evC.eq_13, evC.eq_14, evC.eq_15, evC.eq_16, evCs, GG_call, GG_raw, GG_glob, R.ne_ok, R.bd_ok, R.bd_err, R.bd_bad, opt_some, opt_none, R.th, Out.th, PyD.finish, PyD.start, List.map, List.length, List.replicate, List.getD_cons_zero, List.getD_cons_succ, List.set_cons_zero, List.set_cons_succ, List.cons_append, List.nil_append, if_true, if_false, Bool.false_eq_true, E.isNon, Option.map_some, Option.map_none, Option.bind_some, setAll, List.zip_cons_cons, List.zip_nil_left, List.foldl_cons, List.foldl_nil, truthB, cmpEqI, cmpNeI, cmpLt, cmpLe, cmpGt, cmpGe, isNon, binAdd, binSub, Bool.not_true, Bool.not_false, decide_true, decide_false, reduceCtorEq, Nat.reduceAdd, Nat.reduceSub, Nat.sub_self, Nat.sub_zero, Nat.zero_add, ofI, idx0, idx1, idx2, biAbs, biLenT, biLenL, biTupL, biTupT, sz0, sz1, sz2, sz3, sz4, sz5, sz6, sz7, sz8, wipe]) (fun xs => still_nil xs _) _ [] (by rw [List.length_map]; decide)]
    rw [f1]; rfl
  have h1 : evCs g (.cons (.set 3 (.new false m_law_kin_0)) .nil) [some (.exc c []), some (.lst (kinNames.map D.str)), some (.lst (bls c kinNames)), none, none, none, none, none] [] = .nx [some (.exc c []), some (.lst (kinNames.map D.str)), some (.lst (bls c kinNames)), some (.lst [.str c]), none, none, none, none] [] := by
    simp only [evE, evEs, evAnd, evOr, evL.eq_1, evL.eq_2, evL.eq_4, evL.eq_5, evL.eq_6, meT, meD, isLr, get_last, evI, evC.eq_1, evC.eq_2, evC.eq_3, evC.eq_4, evC.eq_5, evC.eq_6, evC.eq_7, evC.eq_8, evC.eq_9, evC.eq_10, evC.eq_13, evC.eq_14, evC.eq_15, evC.eq_16, evCs, GG_call, GG_raw, GG_glob, R.ne_ok, R.bd_ok, R.bd_err, R.bd_bad, opt_some, opt_none, R.th, Out.th, PyD.finish, PyD.start, List.map, List.length, List.replicate, List.getD_cons_zero, List.getD_cons_succ, List.set_cons_zero, List.set_cons_succ, List.cons_append, List.nil_append, if_true, if_false, Bool.false_eq_true, E.isNon, Option.map_some, Option.map_none, Option.bind_some, setAll, List.zip_cons_cons, List.zip_nil_left, List.foldl_cons, List.foldl_nil, truthB, cmpEqI, cmpNeI, cmpLt, cmpLe, cmpGt, cmpGe, isNon, binAdd, binSub, Bool.not_true, Bool.not_false, decide_true, decide_false, reduceCtorEq, Nat.reduceAdd, Nat.reduceSub, Nat.sub_self, Nat.sub_zero, Nat.zero_add, ofI, idx0, idx1, idx2, biAbs, biLenT, biLenL, biTupL, biTupT, sz0, sz1, sz2, sz3, sz4, sz5, sz6, sz7, sz8, hm]
  have hidx : idxF (.str c) (kinNames.map D.str) = some (.int (kinAt c : Nat)) := by
    unfold idxF
    rw [if_pos (by rw [Bool.and_eq_true]; exact ⟨rfl, by decide⟩), f2]; rfl
  have hseq : seqOf [] (.lst (kinNames.map D.str)) = some (kinNames.map D.str) := rfl
  have hi0 : idxD [] (.lst [.str c]) (.int 0) = some (.str c) := idx0 [] _ _
  have hlt : PyD.cmp [] .lt (.int (kinAt c : Nat)) (.int 13) = some (subX c "GimbalError") := by rw [← f3]; rfl
  have hbase : bls c ["GimbalError", "ValueError"] ++ bls c ["BookError", "LookupError"] = [.bl (subX c "GimbalError"), .bl (subX c "GimbalError"), .bl (!subX c "GimbalError"), .bl (!subX c "GimbalError")] := by
    simp only [bls, List.map_cons, List.map_nil, List.cons_append, List.nil_append, f4, f5, f6]
  refine (cs_nx (ρ1 := [some (.exc c []), some (.lst (kinNames.map D.str)), some (.lst (bls c kinNames)), some (.lst [.str c]), none, none, none, none]) (S1 := []) (by simp only [evE, evEs, evAnd, evOr, evL.eq_1, evL.eq_2, evL.eq_4, evL.eq_5, evL.eq_6, meT, meD, isLr, get_last, evI, evC.eq_1, evC.eq_2, evC.eq_3, evC.eq_4, evC.eq_5, evC.eq_6, evC.eq_7, evC.eq_8, evC.eq_9, evC.eq_10, evC.eq_13, evC.eq_14, evC.eq_15, evC.eq_16, evCs, GG_call, GG_raw, GG_glob, R.ne_ok, R.bd_ok, R.bd_err, R.bd_bad, opt_some, opt_none, R.th, Out.th, PyD.finish, PyD.start, List.map, List.length, List.replicate, List.getD_cons_zero, List.getD_cons_succ, List.set_cons_zero, List.set_cons_succ, List.cons_append, List.nil_append, if_true, if_false, Bool.false_eq_true, E.isNon, Option.map_some, Option.map_none, Option.bind_some, setAll, List.zip_cons_cons, List.zip_nil_left, List.foldl_cons, List.foldl_nil, truthB, cmpEqI, cmpNeI, cmpLt, cmpLe, cmpGt, cmpGe, isNon, binAdd, binSub, Bool.not_true, Bool.not_false, decide_true, decide_false, reduceCtorEq, Nat.reduceAdd, Nat.reduceSub, Nat.sub_self, Nat.sub_zero, Nat.zero_add, ofI, idx0, idx1, idx2, biAbs, biLenT, biLenL, biTupL, biTupT, sz0, sz1, sz2, sz3, sz4, sz5, sz6, sz7, sz8, hm])).trans ?_
  refine (cs_nx (ρ1 := [some (.exc c []), some (.lst (kinNames.map D.str)), some (.lst (bls c kinNames)), some (.lst [.str c]), none, none, none, none]) (S1 := []) (by simp only [evE, evEs, evAnd, evOr, evL.eq_1, evL.eq_2, evL.eq_4, evL.eq_5, evL.eq_6, meT, meD, isLr, get_last, evI, evC.eq_1, evC.eq_2, evC.eq_3, evC.eq_4, evC.eq_5, evC.eq_6, evC.eq_7, evC.eq_8, evC.eq_9, evC.eq_10, evC.eq_13, evC.eq_14, evC.eq_15, evC.eq_16, evCs, GG_call, GG_raw, GG_glob, R.ne_ok, R.bd_ok, R.bd_err, R.bd_bad, opt_some, opt_none, R.th, Out.th, PyD.finish, PyD.start, List.map, List.length, List.replicate, List.getD_cons_zero, List.getD_cons_succ, List.set_cons_zero, List.set_cons_succ, List.cons_append, List.nil_append, if_true, if_false, Bool.false_eq_true, E.isNon, Option.map_some, Option.map_none, Option.bind_some, setAll, List.zip_cons_cons, List.zip_nil_left, List.foldl_cons, List.foldl_nil, truthB, cmpEqI, cmpNeI, cmpLt, cmpLe, cmpGt, cmpGe, isNon, binAdd, binSub, Bool.not_true, Bool.not_false, decide_true, decide_false, reduceCtorEq, Nat.reduceAdd, Nat.reduceSub, Nat.sub_self, Nat.sub_zero, Nat.zero_add, ofI, idx0, idx1, idx2, biAbs, biLenT, biLenL, biTupL, biTupT, sz0, sz1, sz2, sz3, sz4, sz5, sz6, sz7, sz8]; rfl)).trans ?_
  refine (setB (c := c) rfl ["GimbalError", "ValueError"] 6 (by decide)).trans ?_
  refine (addB (c := c) rfl ["BookError", "LookupError"] 6 rfl (by decide) (by decide)).trans ?_
  have e4 : bls c ((["GimbalError", "ValueError"] : List Str) ++ (["BookError", "LookupError"] : List Str)) = [.bl (subX c "GimbalError"), .bl (subX c "GimbalError"), .bl (!subX c "GimbalError"), .bl (!subX c "GimbalError")] := by rw [← hbase]; rfl
  rw [e4]
  generalize subX c "GimbalError" = b at hlt
  have heq : PyD.cmp [] .eq (.lst [.bl b, .bl b, .bl (!b), .bl (!b)]) (.lst [.bl b, .bl b, .bl (!b), .bl (!b)]) = some true := eq4 [] b
  simp only [evE, evEs, evAnd, evOr, evL.eq_1, evL.eq_2, evL.eq_4, evL.eq_5, evL.eq_6, meT, meD, isLr, get_last, evI, evC.eq_1, evC.eq_2, evC.eq_3, evC.eq_4, evC.eq_5, evC.eq_6, evC.eq_7, evC.eq_8, evC.eq_9, evC.eq_10, evC.eq_13, evC.eq_14, evC.eq_15, evC.eq_16, evCs, GG_call, GG_raw, GG_glob, R.ne_ok, R.bd_ok, R.bd_err, R.bd_bad, opt_some, opt_none, R.th, Out.th, PyD.finish, PyD.start, List.map, List.length, List.replicate, List.getD_cons_zero, List.getD_cons_succ, List.set_cons_zero, List.set_cons_succ, List.cons_append, List.nil_append, if_true, if_false, Bool.false_eq_true, E.isNon, Option.map_some, Option.map_none, Option.bind_some, setAll, List.zip_cons_cons, List.zip_nil_left, List.foldl_cons, List.foldl_nil, truthB, cmpEqI, cmpNeI, cmpLt, cmpLe, cmpGt, cmpGe, isNon, binAdd, binSub, Bool.not_true, Bool.not_false, decide_true, decide_false, reduceCtorEq, Nat.reduceAdd, Nat.reduceSub, Nat.sub_self, Nat.sub_zero, Nat.zero_add, ofI, idx0, idx1, idx2, biAbs, biLenT, biLenL, biTupL, biTupT, sz0, sz1, sz2, sz3, sz4, sz5, sz6, sz7, sz8, hseq, hidx, hi0, hlt, Option.isSome_some, heq]
end CK

namespace PyD
open PySem PySem.Spec PyProof.Rows L2
theorem nameOk_r {K : PySem.W.Frag} {mg : Str → Option Value} {c n : Str} {D A : Addr} {b : Bool} (h : PySem.W.kitOne K (.ref D) (.ref A) = some b) (hb : b = subX c n) (hd : (n == ("__debug__" : Str)) = false) (hm : mg n = some (.ref A)) : NameOk K mg c D n := ⟨_, by rw [← hb]; exact h, hd, .inl ⟨A, rfl, hm⟩⟩
theorem nameOk_t {K : PySem.W.Frag} {mg : Str → Option Value} {c n : Str} {D : Addr} {t : String} {b : Bool} (h : PySem.W.kitOne K (.ref D) (.type t) = some b) (hb : b = subX c n) (hd : (n == ("__debug__" : Str)) = false) (hm : mg n = none) (hv : bootBuiltins n = some (.type t)) (hn : n ≠ "__name__") : NameOk K mg c D n := ⟨_, by rw [← hb]; exact h, hd, .inr ⟨t, rfl, hm, hv, hn⟩⟩
theorem TabF.start {P : Addr} {q : Str} {H : Hp} (h : H P = some (.tbl #[])) : TabF [(P, q)] [] [] H := fun p hp => by
  rw [List.mem_singleton.mp hp]
  exact ⟨(fun z => nomatch z), (fun z => nomatch z), #[], h, True.intro, fun pos cv hc => nomatch (show (none : Option Value) = some cv from hc)⟩
theorem cdv_inj {oc oc' : Value} {od od' : Option Addr} {osl osl' : Array (Option Value)} {x q : Str} {pa pa' : Arguments} {b b' : List Stmt} {s s' : Scope} {dV dV' kV kV' dc dc' pm pm' cd cd' ct ct' : Value} {an an' : Option Addr}
    (h : some (⟨oc, od, .func (PySem.W.fnOf x q pa b s dV kV dc pm an cd ct), osl⟩ : Obj) = some ⟨oc', od', .func (PySem.W.fnOf x q pa' b' s' dV' kV' dc' pm' an' cd' ct'), osl'⟩) : cd' = cd := by
  cases h; rfl
def isExcD : D → Bool
  | .exc _ _ => true
  | _ => false
theorem kbG_inv {T : Str → Option Fn} {gl : Str → Option D} {d : Nat} {c : Str} (h : kbG (GG T gl d) c = true) : ∃ c2 fs, gl c = some (.exc c2 fs) := by
  unfold kbG at h
  split at h
  · rename_i c2 fs e
    exact ⟨c2, fs, e⟩
  · cases h
theorem or_noexc {l : List (Str × D)} {x c : Str} {fs : List D} {r : Option D} (h : ∀ p ∈ l, isExcD p.2 = false) (e : (l.lookup x).or r = some (.exc c fs)) : r = some (.exc c fs) := by
  cases hl : l.lookup x with
  | none => rw [hl] at e; exact e
  | some d =>
    rw [hl] at e
    cases e
    have := h _ (PySem.mem_of_lookup hl)
    cases this
end PyD

namespace CA
open PySem PyD
def c_common : Fn := ⟨2, 2, false, (.cons (.whl (.cmp .ne (.var 1) (.int 0)) (.cons (.par [0, 1] (.cons (.var 1) (.cons (.bin .mod (.var 0) (.var 1)) .nil))) .nil)) (.cons (.ret (.var 0)) .nil))⟩
def c_low : Fn := ⟨2, 3, false, (.cons (.set 2 (.call false "common" (.cons (.bi .abs (.var 0)) (.cons (.var 1) .nil)))) (.cons (.ret (.tup (.cons (.bin .fdiv (.var 0) (.var 2)) (.cons (.bin .fdiv (.var 1) (.var 2)) .nil)))) .nil))⟩
def c_is_part : Fn := ⟨1, 1, false, (.cons (.ret (.and (.cons (.cmp .eq (.bi .len (.var 0)) (.int 2)) (.cons (.cmp .gt (.idx (.var 0) (.int 1)) (.int 0)) (.cons (.cmp .eq (.call false "common" (.cons (.bi .abs (.idx (.var 0) (.int 0))) (.cons (.idx (.var 0) (.int 1)) .nil))) (.int 1)) .nil))))) .nil)⟩
def c_added : Fn := ⟨2, 2, false, (.cons (.ret (.call false "low" (.cons (.bin .add (.bin .mul (.idx (.var 0) (.int 0)) (.idx (.var 1) (.int 1))) (.bin .mul (.idx (.var 1) (.int 0)) (.idx (.var 0) (.int 1)))) (.cons (.bin .mul (.idx (.var 0) (.int 1)) (.idx (.var 1) (.int 1))) .nil)))) .nil)⟩
def c_product : Fn := ⟨2, 2, false, (.cons (.ret (.call false "low" (.cons (.bin .mul (.idx (.var 0) (.int 0)) (.idx (.var 1) (.int 0))) (.cons (.bin .mul (.idx (.var 0) (.int 1)) (.idx (.var 1) (.int 1))) .nil)))) .nil)⟩
def c_turned_about : Fn := ⟨1, 1, false, (.cons (.ret (.tup (.cons (.bin .sub (.int 0) (.idx (.var 0) (.int 0))) (.cons (.idx (.var 0) (.int 1)) .nil)))) .nil)⟩
def c_upside : Fn := ⟨1, 1, false, (.cons (.ret (.ite (.cmp .gt (.idx (.var 0) (.int 0)) (.int 0)) (.tup (.cons (.idx (.var 0) (.int 1)) (.cons (.idx (.var 0) (.int 0)) .nil))) (.tup (.cons (.bin .sub (.int 0) (.idx (.var 0) (.int 1))) (.cons (.bin .sub (.int 0) (.idx (.var 0) (.int 0))) .nil))))) .nil)⟩
def c_need_axes : Fn := ⟨1, 1, false, (.cons (.iff (.not (.chain .le .le (.int 1) (.var 0) (.glob "MOST_AXES"))) (.cons (.raise "BadAxes" .nil) .nil) .nil) .nil)⟩
def c_is_turn : Fn := ⟨1, 2, false, (.cons (.iff (.not (.chain .le .le (.int 1) (.bi .len (.var 0)) (.glob "MOST_AXES"))) (.cons (.ret (.bl false)) .nil) .nil) (.cons (.ret (.cmp .eq (.new false (.sorted (.new false (.comp [("number", 1)] (.one 1) (.seq (.var 0)) .nil (.bi .abs (.var 1)))))) (.new false (.rng (.cons (.int 1) (.cons (.bin .add (.bi .len (.var 0)) (.int 1)) .nil)))))) .nil))⟩
def c_is_row : Fn := ⟨1, 2, false, (.cons (.ret (.and (.cons (.chain .le .le (.int 1) (.bi .len (.var 0)) (.glob "MOST_AXES")) (.cons (.bi .all (.new false (.comp [("one", 1)] (.one 1) (.seq (.var 0)) .nil (.call false "is_part" (.cons (.var 1) .nil))))) .nil)))) .nil)⟩
def c_need_row : Fn := ⟨2, 2, false, (.cons (.iff (.or (.cons (.cmp .ne (.bi .len (.var 0)) (.var 1)) (.cons (.not (.call false "is_row" (.cons (.var 0) .nil))) .nil))) (.cons (.raise "BadRow" .nil) .nil) .nil) .nil)⟩
def c_row_turned : Fn := ⟨2, 5, true, (.cons (.set 2 (.new true (.disp .nil))) (.cons (.fr (.one 3) (.seq (.var 0)) (.cons (.set 4 (.idx (.var 1) (.bin .sub (.bi .abs (.var 3)) (.int 1)))) (.cons (.ex (.me .app (.var 2) (.cons (.ite (.cmp .gt (.var 3) (.int 0)) (.var 4) (.call false "turned_about" (.cons (.var 4) .nil))) .nil))) .nil))) (.cons (.ret (.bi .tuple (.var 2))) .nil)))⟩
def c_both_turns : Fn := ⟨2, 3, false, (.cons (.ret (.bi .tuple (.new false (.comp [("number", 2)] (.one 2) (.seq (.var 1)) .nil (.ite (.cmp .gt (.var 2) (.int 0)) (.idx (.var 0) (.bin .sub (.bi .abs (.var 2)) (.int 1))) (.bin .sub (.int 0) (.idx (.var 0) (.bin .sub (.bi .abs (.var 2)) (.int 1))))))))) .nil)⟩
def c_turn_back : Fn := ⟨1, 4, true, (.cons (.set 1 (.new true (.list (.var 0)))) (.cons (.fr (.many [2, 3]) (.enum (.var 0)) (.cons (.six (.var 1) (.bin .sub (.bi .abs (.var 3)) (.int 1)) (.ite (.cmp .gt (.var 3) (.int 0)) (.bin .add (.var 2) (.int 1)) (.bin .sub (.bin .sub (.int 0) (.var 2)) (.int 1)))) .nil)) (.cons (.ret (.bi .tuple (.var 1))) .nil)))⟩
def c_no_turn : Fn := ⟨1, 1, false, (.cons (.ret (.trng (.cons (.int 1) (.cons (.bin .add (.var 0) (.int 1)) .nil)))) .nil)⟩
def c_is_stretch : Fn := ⟨1, 1, false, (.cons (.ret (.and (.cons (.call false "is_part" (.cons (.var 0) .nil)) (.cons (.cmp .gt (.idx (.var 0) (.int 0)) (.int 0)) .nil)))) .nil)⟩
def c_is_motion : Fn := ⟨1, 1, false, (.cons (.iff (.or (.cons (.cmp .ne (.bi .len (.var 0)) (.int 3)) (.cons (.not (.call false "is_turn" (.cons (.idx (.var 0) (.int 0)) .nil))) (.cons (.not (.call false "is_stretch" (.cons (.idx (.var 0) (.int 1)) .nil))) .nil)))) (.cons (.ret (.bl false)) .nil) .nil) (.cons (.ret (.and (.cons (.cmp .eq (.bi .len (.idx (.var 0) (.int 2))) (.bi .len (.idx (.var 0) (.int 0)))) (.cons (.call false "is_row" (.cons (.idx (.var 0) (.int 2)) .nil)) .nil)))) .nil))⟩
def c_need_motion : Fn := ⟨1, 1, false, (.cons (.iff (.not (.call false "is_motion" (.cons (.var 0) .nil))) (.cons (.raise "BadMotion" .nil) .nil) .nil) .nil)⟩
def c_noughts : Fn := ⟨1, 1, false, (.cons (.ret (.bin .mul (.tup (.cons (.glob "ZERO") .nil)) (.var 0))) .nil)⟩
def c_no_facing : Fn := ⟨1, 1, false, (.cons (.ret (.tup (.cons (.call false "no_turn" (.cons (.var 0) .nil)) (.cons (.glob "ONE") .nil)))) .nil)⟩
def c_no_motion : Fn := ⟨1, 1, false, (.cons (.ret (.bin .add (.call false "no_facing" (.cons (.var 0) .nil)) (.tup (.cons (.call false "noughts" (.cons (.var 0) .nil)) .nil)))) .nil)⟩
def c_still : Fn := ⟨1, 1, false, (.cons (.ex (.call false "need_axes" (.cons (.var 0) .nil))) (.cons (.ret (.call false "no_motion" (.cons (.var 0) .nil))) .nil))⟩
def c_rows_added : Fn := ⟨2, 4, false, (.cons (.ret (.bi .tuple (.new false (.comp [("here", 2), ("there", 3)] (.many [2, 3]) (.zip (.var 0) (.var 1)) .nil (.call false "added" (.cons (.var 2) (.cons (.var 3) .nil))))))) .nil)⟩
def c_row_times : Fn := ⟨2, 3, false, (.cons (.ret (.bi .tuple (.new false (.comp [("one", 2)] (.one 2) (.seq (.var 0)) .nil (.call false "product" (.cons (.var 2) (.cons (.var 1) .nil))))))) .nil)⟩
def c_row_back : Fn := ⟨1, 2, false, (.cons (.ret (.bi .tuple (.new false (.comp [("one", 1)] (.one 1) (.seq (.var 0)) .nil (.call false "turned_about" (.cons (.var 1) .nil)))))) .nil)⟩
def c_face : Fn := ⟨2, 2, false, (.cons (.ret (.call false "row_times" (.cons (.call false "row_turned" (.cons (.idx (.var 0) (.int 0)) (.cons (.var 1) .nil))) (.cons (.idx (.var 0) (.int 1)) .nil)))) .nil)⟩
def c_move : Fn := ⟨2, 2, false, (.cons (.ret (.call false "rows_added" (.cons (.call false "face" (.cons (.sl (.var 0) .non (.int 2)) (.cons (.var 1) .nil))) (.cons (.idx (.var 0) (.int 2)) .nil)))) .nil)⟩
def c_faces_then : Fn := ⟨2, 2, false, (.cons (.ret (.tup (.cons (.call false "both_turns" (.cons (.idx (.var 0) (.int 0)) (.cons (.idx (.var 1) (.int 0)) .nil))) (.cons (.call false "product" (.cons (.idx (.var 0) (.int 1)) (.cons (.idx (.var 1) (.int 1)) .nil))) .nil)))) .nil)⟩
def c_face_back : Fn := ⟨1, 1, false, (.cons (.ret (.tup (.cons (.call false "turn_back" (.cons (.idx (.var 0) (.int 0)) .nil)) (.cons (.call false "upside" (.cons (.idx (.var 0) (.int 1)) .nil)) .nil)))) .nil)⟩
def c_moves_then : Fn := ⟨2, 2, false, (.cons (.ret (.bin .add (.call false "faces_then" (.cons (.sl (.var 0) .non (.int 2)) (.cons (.sl (.var 1) .non (.int 2)) .nil))) (.tup (.cons (.call false "move" (.cons (.var 1) (.cons (.idx (.var 0) (.int 2)) .nil))) .nil)))) .nil)⟩
def c_move_back : Fn := ⟨1, 2, false, (.cons (.set 1 (.call false "face_back" (.cons (.sl (.var 0) .non (.int 2)) .nil))) (.cons (.ret (.bin .add (.var 1) (.tup (.cons (.call false "row_back" (.cons (.call false "face" (.cons (.var 1) (.cons (.idx (.var 0) (.int 2)) .nil))) .nil)) .nil)))) .nil))⟩
def c_then : Fn := ⟨2, 2, false, (.cons (.ex (.call false "need_motion" (.cons (.var 0) .nil))) (.cons (.ex (.call false "need_motion" (.cons (.var 1) .nil))) (.cons (.iff (.cmp .ne (.bi .len (.idx (.var 0) (.int 0))) (.bi .len (.idx (.var 1) (.int 0)))) (.cons (.raise "BadMotion" .nil) .nil) .nil) (.cons (.ret (.call false "moves_then" (.cons (.var 0) (.cons (.var 1) .nil)))) .nil))))⟩
def c_undone : Fn := ⟨1, 1, false, (.cons (.ex (.call false "need_motion" (.cons (.var 0) .nil))) (.cons (.ret (.call false "move_back" (.cons (.var 0) .nil))) .nil))⟩
def c_facing : Fn := ⟨1, 1, false, (.cons (.ex (.call false "need_motion" (.cons (.var 0) .nil))) (.cons (.ret (.sl (.var 0) .non (.int 2))) .nil))⟩
def c_lead : Fn := ⟨2, 2, false, (.cons (.ex (.call false "need_motion" (.cons (.var 0) .nil))) (.cons (.ex (.call false "need_row" (.cons (.var 1) (.cons (.bi .len (.idx (.var 0) (.int 0))) .nil)))) (.cons (.ret (.call false "move" (.cons (.var 0) (.cons (.var 1) .nil)))) .nil)))⟩
def c_lead_gap : Fn := ⟨2, 2, false, (.cons (.ex (.call false "need_motion" (.cons (.var 0) .nil))) (.cons (.ex (.call false "need_row" (.cons (.var 1) (.cons (.bi .len (.idx (.var 0) (.int 0))) .nil)))) (.cons (.ret (.call false "face" (.cons (.sl (.var 0) .non (.int 2)) (.cons (.var 1) .nil)))) .nil)))⟩
def c_law_bag : Fn := ⟨1, 3, false, (.cons (.set 1 (.bin .add (.int 17) (.bi .len (.sl (.var 0) .non (.int 63))))) (.cons (.fr (.one 2) (.seq (.sl (.var 0) .non (.int 63))) (.cons (.set 1 (.bin .mod (.bin .add (.bin .mul (.var 1) (.int 52817)) (.var 2)) (.int 2147483563))) .nil)) (.cons (.ret (.new true (.disp (.cons (.new false (.list (.sl (.var 0) .non (.int 63)))) (.cons (.int 0) (.cons (.int 0) (.cons (.var 1) (.cons (.int 0) .nil)))))))) .nil)))⟩
def c_law_pull : Fn := ⟨2, 6, false, (.cons (.six (.var 0) (.int 4) (.bin .add (.idx (.var 0) (.int 4)) (.int 1))) (.cons (.iff (.and (.cons (.cmp .eq (.idx (.var 0) (.int 2)) (.int 0)) (.cons (.cmp .lt (.idx (.var 0) (.int 1)) (.bi .len (.idx (.var 0) (.int 0)))) .nil))) (.cons (.set 2 (.idx (.idx (.var 0) (.int 0)) (.idx (.var 0) (.int 1)))) (.cons (.six (.var 0) (.int 1) (.bin .add (.idx (.var 0) (.int 1)) (.int 1))) (.cons (.iff (.cmp .ge (.var 2) (.bin .pow (.int 10) (.int 18))) (.cons (.six (.var 0) (.int 2) (.var 2)) .nil) (.cons (.six (.var 0) (.int 3) (.bin .mod (.bin .add (.bin .add (.bin .mul (.idx (.var 0) (.int 3)) (.int 69069)) (.bin .mul (.bin .mod (.var 2) (.int 2147483629)) (.int 40503))) (.int 11)) (.int 2147483563))) .nil)) .nil))) .nil) (.cons (.iff (.cmp .gt (.idx (.var 0) (.int 2)) (.int 0)) (.cons (.set 3 (.bin .mod (.idx (.var 0) (.int 2)) (.var 1))) (.cons (.six (.var 0) (.int 2) (.bin .fdiv (.idx (.var 0) (.int 2)) (.var 1))) (.cons (.ret (.var 3)) .nil))) .nil) (.cons (.set 4 (.idx (.var 0) (.int 3))) (.cons (.set 5 (.bin .add (.bin .mul (.bin .mod (.bin .mul (.var 4) (.var 4)) (.int 2147483629)) (.int 16807)) (.bin .mul (.var 4) (.int 48271)))) (.cons (.six (.var 0) (.int 3) (.bin .mod (.bin .add (.bin .add (.var 5) (.int 40692)) (.idx (.var 0) (.int 4))) (.int 2147483563))) (.cons (.set 4 (.idx (.var 0) (.int 3))) (.cons (.ret (.bin .mod (.bin .add (.bin .add (.bin .fdiv (.var 4) (.int 89)) (.bin .mul (.bin .mod (.var 4) (.int 7919)) (.int 31))) (.bin .mul (.bin .mul (.var 4) (.idx (.var 0) (.int 4))) (.int 2147483629))) (.var 1))) .nil))))))))⟩
def c_law_turn : Fn := ⟨2, 6, true, (.cons (.set 2 (.new true (.rng (.cons (.int 1) (.cons (.bin .add (.var 1) (.int 1)) .nil))))) (.cons (.set 3 (.new true (.disp .nil))) (.cons (.fr (.one 4) (.rng (.cons (.var 1) .nil)) (.cons (.set 5 (.me .pop (.var 2) (.cons (.call false "_law_pull" (.cons (.var 0) (.cons (.bi .len (.var 2)) .nil))) .nil))) (.cons (.ex (.me .app (.var 3) (.cons (.idx (.new false (.disp (.cons (.var 5) (.cons (.bin .sub (.int 0) (.var 5)) .nil)))) (.call false "_law_pull" (.cons (.var 0) (.cons (.int 2) .nil)))) .nil))) .nil))) (.cons (.ret (.bi .tuple (.var 3))) .nil))))⟩
def c_law_gcd : Fn := ⟨2, 2, false, (.cons (.whl (.cmp .ne (.var 1) (.int 0)) (.cons (.par [0, 1] (.cons (.var 1) (.cons (.bin .mod (.var 0) (.var 1)) .nil))) .nil)) (.cons (.ret (.var 0)) .nil))⟩
def c_law_low : Fn := ⟨2, 3, false, (.cons (.set 2 (.call false "_law_gcd" (.cons (.bi .abs (.var 0)) (.cons (.var 1) .nil)))) (.cons (.ret (.tup (.cons (.bin .fdiv (.var 0) (.var 2)) (.cons (.bin .fdiv (.var 1) (.var 2)) .nil)))) .nil))⟩
def c_law_stretch : Fn := ⟨1, 2, false, (.cons (.set 1 (.bin .add (.int 1) (.call false "_law_pull" (.cons (.var 0) (.cons (.idx (.new false (.disp (.cons (.int 1) (.cons (.int 1) (.cons (.int 4) (.cons (.int 12) .nil)))))) (.call false "_law_pull" (.cons (.var 0) (.cons (.int 4) .nil)))) .nil))))) (.cons (.ret (.call false "_law_low" (.cons (.var 1) (.cons (.bin .add (.int 1) (.call false "_law_pull" (.cons (.var 0) (.cons (.idx (.new false (.disp (.cons (.int 1) (.cons (.int 1) (.cons (.int 3) .nil))))) (.call false "_law_pull" (.cons (.var 0) (.cons (.int 3) .nil)))) .nil)))) .nil)))) .nil))⟩
def c_law_small : Fn := ⟨1, 1, false, (.cons (.ret (.call false "_law_low" (.cons (.bin .sub (.call false "_law_pull" (.cons (.var 0) (.cons (.int 25) .nil))) (.int 12)) (.cons (.idx (.new false (.disp (.cons (.int 1) (.cons (.int 1) (.cons (.int 1) (.cons (.int 2) (.cons (.int 3) (.cons (.int 4) .nil)))))))) (.call false "_law_pull" (.cons (.var 0) (.cons (.int 6) .nil)))) .nil)))) .nil)⟩
def c_law_row : Fn := ⟨2, 3, false, (.cons (.ret (.bi .tuple (.new false (.comp [("_law_spot", 2)] (.one 2) (.rng (.cons (.var 1) .nil)) .nil (.call false "_law_small" (.cons (.var 0) .nil)))))) .nil)⟩
def c_law_motion : Fn := ⟨2, 6, false, (.cons (.set 2 (.call false "_law_pull" (.cons (.var 0) (.cons (.int 5) .nil)))) (.cons (.set 3 (.ite (.cmp .gt (.var 2) (.int 0)) (.call false "_law_turn" (.cons (.var 0) (.cons (.var 1) .nil))) (.trng (.cons (.int 1) (.cons (.bin .add (.var 1) (.int 1)) .nil))))) (.cons (.set 4 (.ite (.cmp .ne (.var 2) (.int 1)) (.call false "_law_stretch" (.cons (.var 0) .nil)) (.tup (.cons (.int 1) (.cons (.int 1) .nil))))) (.cons (.set 5 (.ite (.cmp .ne (.var 2) (.int 2)) (.call false "_law_row" (.cons (.var 0) (.cons (.var 1) .nil))) (.bin .mul (.tup (.cons (.tup (.cons (.int 0) (.cons (.int 1) .nil))) .nil)) (.var 1)))) (.cons (.ret (.tup (.cons (.var 3) (.cons (.var 4) (.cons (.var 5) .nil))))) .nil)))))⟩
def c_law_add : Fn := ⟨2, 2, false, (.cons (.ret (.call false "_law_low" (.cons (.bin .add (.bin .mul (.idx (.var 0) (.int 0)) (.idx (.var 1) (.int 1))) (.bin .mul (.idx (.var 1) (.int 0)) (.idx (.var 0) (.int 1)))) (.cons (.bin .mul (.idx (.var 0) (.int 1)) (.idx (.var 1) (.int 1))) .nil)))) .nil)⟩
def c_law_mul : Fn := ⟨2, 2, false, (.cons (.ret (.call false "_law_low" (.cons (.bin .mul (.idx (.var 0) (.int 0)) (.idx (.var 1) (.int 0))) (.cons (.bin .mul (.idx (.var 0) (.int 1)) (.idx (.var 1) (.int 1))) .nil)))) .nil)⟩
def c_law_square : Fn := ⟨1, 3, false, (.cons (.set 1 (.tup (.cons (.int 0) (.cons (.int 1) .nil)))) (.cons (.fr (.one 2) (.seq (.var 0)) (.cons (.set 1 (.call false "_law_add" (.cons (.var 1) (.cons (.call false "_law_mul" (.cons (.var 2) (.cons (.var 2) .nil))) .nil)))) .nil)) (.cons (.ret (.var 1)) .nil)))⟩
def tbl : List (Str × Fn) := ("common", c_common) ::
  ("low", c_low) ::
  ("is_part", c_is_part) ::
  ("added", c_added) ::
  ("product", c_product) ::
  ("turned_about", c_turned_about) ::
  ("upside", c_upside) ::
  ("need_axes", c_need_axes) ::
  ("is_turn", c_is_turn) ::
  ("is_row", c_is_row) ::
  ("need_row", c_need_row) ::
  ("row_turned", c_row_turned) ::
  ("both_turns", c_both_turns) ::
  ("turn_back", c_turn_back) ::
  ("no_turn", c_no_turn) ::
  ("is_stretch", c_is_stretch) ::
  ("is_motion", c_is_motion) ::
  ("need_motion", c_need_motion) ::
  ("noughts", c_noughts) ::
  ("no_facing", c_no_facing) ::
  ("no_motion", c_no_motion) ::
  ("still", c_still) ::
  ("rows_added", c_rows_added) ::
  ("row_times", c_row_times) ::
  ("row_back", c_row_back) ::
  ("face", c_face) ::
  ("move", c_move) ::
  ("faces_then", c_faces_then) ::
  ("face_back", c_face_back) ::
  ("moves_then", c_moves_then) ::
  ("move_back", c_move_back) ::
  ("then", c_then) ::
  ("undone", c_undone) ::
  ("facing", c_facing) ::
  ("lead", c_lead) ::
  ("lead_gap", c_lead_gap) ::
  ("_law_bag", c_law_bag) ::
  ("_law_pull", c_law_pull) ::
  ("_law_turn", c_law_turn) ::
  ("_law_gcd", c_law_gcd) ::
  ("_law_low", c_law_low) ::
  ("_law_stretch", c_law_stretch) ::
  ("_law_small", c_law_small) ::
  ("_law_row", c_law_row) ::
  ("_law_motion", c_law_motion) ::
  ("_law_add", c_law_add) ::
  ("_law_mul", c_law_mul) ::
  ("_law_square", c_law_square) :: []
def gls : List (Str × D) := ("MOST_AXES", (.int 3)) ::
  ("ONE", (.tup [(.int 1), (.int 1)])) ::
  ("ZERO", (.tup [(.int 0), (.int 1)])) :: []
structure Has (T : Str → Option Fn) (gl : Str → Option D) : Prop where
  fn : ∀ f c, tbl.lookup f = some c → T f = some c
  gc : ∀ x d, gls.lookup x = some d → gl x = some d
variable {T : Str → Option Fn} {gl : Str → Option D}
theorem look_common : tbl.lookup ("common" : Str) = some c_common := lookup_idx (i := 0) (c := ("common", c_common)) (by decide +kernel) rfl
theorem look_low : tbl.lookup ("low" : Str) = some c_low := lookup_idx (i := 1) (c := ("low", c_low)) (by decide +kernel) rfl
theorem look_is_part : tbl.lookup ("is_part" : Str) = some c_is_part := lookup_idx (i := 2) (c := ("is_part", c_is_part)) (by decide +kernel) rfl
theorem look_added : tbl.lookup ("added" : Str) = some c_added := lookup_idx (i := 3) (c := ("added", c_added)) (by decide +kernel) rfl
theorem look_product : tbl.lookup ("product" : Str) = some c_product := lookup_idx (i := 4) (c := ("product", c_product)) (by decide +kernel) rfl
theorem look_turned_about : tbl.lookup ("turned_about" : Str) = some c_turned_about := lookup_idx (i := 5) (c := ("turned_about", c_turned_about)) (by decide +kernel) rfl
theorem look_upside : tbl.lookup ("upside" : Str) = some c_upside := lookup_idx (i := 6) (c := ("upside", c_upside)) (by decide +kernel) rfl
theorem look_need_axes : tbl.lookup ("need_axes" : Str) = some c_need_axes := lookup_idx (i := 7) (c := ("need_axes", c_need_axes)) (by decide +kernel) rfl
theorem look_is_turn : tbl.lookup ("is_turn" : Str) = some c_is_turn := lookup_idx (i := 8) (c := ("is_turn", c_is_turn)) (by decide +kernel) rfl
theorem look_is_row : tbl.lookup ("is_row" : Str) = some c_is_row := lookup_idx (i := 9) (c := ("is_row", c_is_row)) (by decide +kernel) rfl
theorem look_need_row : tbl.lookup ("need_row" : Str) = some c_need_row := lookup_idx (i := 10) (c := ("need_row", c_need_row)) (by decide +kernel) rfl
theorem look_row_turned : tbl.lookup ("row_turned" : Str) = some c_row_turned := lookup_idx (i := 11) (c := ("row_turned", c_row_turned)) (by decide +kernel) rfl
theorem look_both_turns : tbl.lookup ("both_turns" : Str) = some c_both_turns := lookup_idx (i := 12) (c := ("both_turns", c_both_turns)) (by decide +kernel) rfl
theorem look_turn_back : tbl.lookup ("turn_back" : Str) = some c_turn_back := lookup_idx (i := 13) (c := ("turn_back", c_turn_back)) (by decide +kernel) rfl
theorem look_no_turn : tbl.lookup ("no_turn" : Str) = some c_no_turn := lookup_idx (i := 14) (c := ("no_turn", c_no_turn)) (by decide +kernel) rfl
theorem look_is_stretch : tbl.lookup ("is_stretch" : Str) = some c_is_stretch := lookup_idx (i := 15) (c := ("is_stretch", c_is_stretch)) (by decide +kernel) rfl
theorem look_is_motion : tbl.lookup ("is_motion" : Str) = some c_is_motion := lookup_idx (i := 16) (c := ("is_motion", c_is_motion)) (by decide +kernel) rfl
theorem look_need_motion : tbl.lookup ("need_motion" : Str) = some c_need_motion := lookup_idx (i := 17) (c := ("need_motion", c_need_motion)) (by decide +kernel) rfl
theorem look_noughts : tbl.lookup ("noughts" : Str) = some c_noughts := lookup_idx (i := 18) (c := ("noughts", c_noughts)) (by decide +kernel) rfl
theorem look_no_facing : tbl.lookup ("no_facing" : Str) = some c_no_facing := lookup_idx (i := 19) (c := ("no_facing", c_no_facing)) (by decide +kernel) rfl
theorem look_no_motion : tbl.lookup ("no_motion" : Str) = some c_no_motion := lookup_idx (i := 20) (c := ("no_motion", c_no_motion)) (by decide +kernel) rfl
theorem look_still : tbl.lookup ("still" : Str) = some c_still := lookup_idx (i := 21) (c := ("still", c_still)) (by decide +kernel) rfl
theorem look_rows_added : tbl.lookup ("rows_added" : Str) = some c_rows_added := lookup_idx (i := 22) (c := ("rows_added", c_rows_added)) (by decide +kernel) rfl
theorem look_row_times : tbl.lookup ("row_times" : Str) = some c_row_times := lookup_idx (i := 23) (c := ("row_times", c_row_times)) (by decide +kernel) rfl
theorem look_row_back : tbl.lookup ("row_back" : Str) = some c_row_back := lookup_idx (i := 24) (c := ("row_back", c_row_back)) (by decide +kernel) rfl
theorem look_face : tbl.lookup ("face" : Str) = some c_face := lookup_idx (i := 25) (c := ("face", c_face)) (by decide +kernel) rfl
theorem look_move : tbl.lookup ("move" : Str) = some c_move := lookup_idx (i := 26) (c := ("move", c_move)) (by decide +kernel) rfl
theorem look_faces_then : tbl.lookup ("faces_then" : Str) = some c_faces_then := lookup_idx (i := 27) (c := ("faces_then", c_faces_then)) (by decide +kernel) rfl
theorem look_face_back : tbl.lookup ("face_back" : Str) = some c_face_back := lookup_idx (i := 28) (c := ("face_back", c_face_back)) (by decide +kernel) rfl
theorem look_moves_then : tbl.lookup ("moves_then" : Str) = some c_moves_then := lookup_idx (i := 29) (c := ("moves_then", c_moves_then)) (by decide +kernel) rfl
theorem look_move_back : tbl.lookup ("move_back" : Str) = some c_move_back := lookup_idx (i := 30) (c := ("move_back", c_move_back)) (by decide +kernel) rfl
theorem look_then : tbl.lookup ("then" : Str) = some c_then := lookup_idx (i := 31) (c := ("then", c_then)) (by decide +kernel) rfl
theorem look_undone : tbl.lookup ("undone" : Str) = some c_undone := lookup_idx (i := 32) (c := ("undone", c_undone)) (by decide +kernel) rfl
theorem look_facing : tbl.lookup ("facing" : Str) = some c_facing := lookup_idx (i := 33) (c := ("facing", c_facing)) (by decide +kernel) rfl
theorem look_lead : tbl.lookup ("lead" : Str) = some c_lead := lookup_idx (i := 34) (c := ("lead", c_lead)) (by decide +kernel) rfl
theorem look_lead_gap : tbl.lookup ("lead_gap" : Str) = some c_lead_gap := lookup_idx (i := 35) (c := ("lead_gap", c_lead_gap)) (by decide +kernel) rfl
theorem look_law_bag : tbl.lookup ("_law_bag" : Str) = some c_law_bag := lookup_idx (i := 36) (c := ("_law_bag", c_law_bag)) (by decide +kernel) rfl
theorem look_law_pull : tbl.lookup ("_law_pull" : Str) = some c_law_pull := lookup_idx (i := 37) (c := ("_law_pull", c_law_pull)) (by decide +kernel) rfl
theorem look_law_turn : tbl.lookup ("_law_turn" : Str) = some c_law_turn := lookup_idx (i := 38) (c := ("_law_turn", c_law_turn)) (by decide +kernel) rfl
theorem look_law_gcd : tbl.lookup ("_law_gcd" : Str) = some c_law_gcd := lookup_idx (i := 39) (c := ("_law_gcd", c_law_gcd)) (by decide +kernel) rfl
theorem look_law_low : tbl.lookup ("_law_low" : Str) = some c_law_low := lookup_idx (i := 40) (c := ("_law_low", c_law_low)) (by decide +kernel) rfl
theorem look_law_stretch : tbl.lookup ("_law_stretch" : Str) = some c_law_stretch := lookup_idx (i := 41) (c := ("_law_stretch", c_law_stretch)) (by decide +kernel) rfl
theorem look_law_small : tbl.lookup ("_law_small" : Str) = some c_law_small := lookup_idx (i := 42) (c := ("_law_small", c_law_small)) (by decide +kernel) rfl
theorem look_law_row : tbl.lookup ("_law_row" : Str) = some c_law_row := lookup_idx (i := 43) (c := ("_law_row", c_law_row)) (by decide +kernel) rfl
theorem look_law_motion : tbl.lookup ("_law_motion" : Str) = some c_law_motion := lookup_idx (i := 44) (c := ("_law_motion", c_law_motion)) (by decide +kernel) rfl
theorem look_law_add : tbl.lookup ("_law_add" : Str) = some c_law_add := lookup_idx (i := 45) (c := ("_law_add", c_law_add)) (by decide +kernel) rfl
theorem look_law_mul : tbl.lookup ("_law_mul" : Str) = some c_law_mul := lookup_idx (i := 46) (c := ("_law_mul", c_law_mul)) (by decide +kernel) rfl
theorem look_law_square : tbl.lookup ("_law_square" : Str) = some c_law_square := lookup_idx (i := 47) (c := ("_law_square", c_law_square)) (by decide +kernel) rfl
theorem call_common (h : Has T gl) (k : Nat) (ds : List D) (S : Store) : callN T gl (k + 1) "common" ds S = if ds.length = c_common.np then finish c_common.drop S.length (evCs (GG T gl k) c_common.body (start c_common.nl ds) S) else .bad := by
  rw [callN_succ, h.fn "common" _ look_common]
theorem call_low (h : Has T gl) (k : Nat) (ds : List D) (S : Store) : callN T gl (k + 1) "low" ds S = if ds.length = c_low.np then finish c_low.drop S.length (evCs (GG T gl k) c_low.body (start c_low.nl ds) S) else .bad := by
  rw [callN_succ, h.fn "low" _ look_low]
theorem call_is_part (h : Has T gl) (k : Nat) (ds : List D) (S : Store) : callN T gl (k + 1) "is_part" ds S = if ds.length = c_is_part.np then finish c_is_part.drop S.length (evCs (GG T gl k) c_is_part.body (start c_is_part.nl ds) S) else .bad := by
  rw [callN_succ, h.fn "is_part" _ look_is_part]
theorem call_added (h : Has T gl) (k : Nat) (ds : List D) (S : Store) : callN T gl (k + 1) "added" ds S = if ds.length = c_added.np then finish c_added.drop S.length (evCs (GG T gl k) c_added.body (start c_added.nl ds) S) else .bad := by
  rw [callN_succ, h.fn "added" _ look_added]
theorem call_product (h : Has T gl) (k : Nat) (ds : List D) (S : Store) : callN T gl (k + 1) "product" ds S = if ds.length = c_product.np then finish c_product.drop S.length (evCs (GG T gl k) c_product.body (start c_product.nl ds) S) else .bad := by
  rw [callN_succ, h.fn "product" _ look_product]
theorem call_turned_about (h : Has T gl) (k : Nat) (ds : List D) (S : Store) : callN T gl (k + 1) "turned_about" ds S = if ds.length = c_turned_about.np then finish c_turned_about.drop S.length (evCs (GG T gl k) c_turned_about.body (start c_turned_about.nl ds) S) else .bad := by
  rw [callN_succ, h.fn "turned_about" _ look_turned_about]
theorem call_upside (h : Has T gl) (k : Nat) (ds : List D) (S : Store) : callN T gl (k + 1) "upside" ds S = if ds.length = c_upside.np then finish c_upside.drop S.length (evCs (GG T gl k) c_upside.body (start c_upside.nl ds) S) else .bad := by
  rw [callN_succ, h.fn "upside" _ look_upside]
theorem call_need_axes (h : Has T gl) (k : Nat) (ds : List D) (S : Store) : callN T gl (k + 1) "need_axes" ds S = if ds.length = c_need_axes.np then finish c_need_axes.drop S.length (evCs (GG T gl k) c_need_axes.body (start c_need_axes.nl ds) S) else .bad := by
  rw [callN_succ, h.fn "need_axes" _ look_need_axes]
theorem call_is_turn (h : Has T gl) (k : Nat) (ds : List D) (S : Store) : callN T gl (k + 1) "is_turn" ds S = if ds.length = c_is_turn.np then finish c_is_turn.drop S.length (evCs (GG T gl k) c_is_turn.body (start c_is_turn.nl ds) S) else .bad := by
  rw [callN_succ, h.fn "is_turn" _ look_is_turn]
theorem call_is_row (h : Has T gl) (k : Nat) (ds : List D) (S : Store) : callN T gl (k + 1) "is_row" ds S = if ds.length = c_is_row.np then finish c_is_row.drop S.length (evCs (GG T gl k) c_is_row.body (start c_is_row.nl ds) S) else .bad := by
  rw [callN_succ, h.fn "is_row" _ look_is_row]
theorem call_need_row (h : Has T gl) (k : Nat) (ds : List D) (S : Store) : callN T gl (k + 1) "need_row" ds S = if ds.length = c_need_row.np then finish c_need_row.drop S.length (evCs (GG T gl k) c_need_row.body (start c_need_row.nl ds) S) else .bad := by
  rw [callN_succ, h.fn "need_row" _ look_need_row]
theorem call_row_turned (h : Has T gl) (k : Nat) (ds : List D) (S : Store) : callN T gl (k + 1) "row_turned" ds S = if ds.length = c_row_turned.np then finish c_row_turned.drop S.length (evCs (GG T gl k) c_row_turned.body (start c_row_turned.nl ds) S) else .bad := by
  rw [callN_succ, h.fn "row_turned" _ look_row_turned]
theorem call_both_turns (h : Has T gl) (k : Nat) (ds : List D) (S : Store) : callN T gl (k + 1) "both_turns" ds S = if ds.length = c_both_turns.np then finish c_both_turns.drop S.length (evCs (GG T gl k) c_both_turns.body (start c_both_turns.nl ds) S) else .bad := by
  rw [callN_succ, h.fn "both_turns" _ look_both_turns]
theorem call_turn_back (h : Has T gl) (k : Nat) (ds : List D) (S : Store) : callN T gl (k + 1) "turn_back" ds S = if ds.length = c_turn_back.np then finish c_turn_back.drop S.length (evCs (GG T gl k) c_turn_back.body (start c_turn_back.nl ds) S) else .bad := by
  rw [callN_succ, h.fn "turn_back" _ look_turn_back]
theorem call_no_turn (h : Has T gl) (k : Nat) (ds : List D) (S : Store) : callN T gl (k + 1) "no_turn" ds S = if ds.length = c_no_turn.np then finish c_no_turn.drop S.length (evCs (GG T gl k) c_no_turn.body (start c_no_turn.nl ds) S) else .bad := by
  rw [callN_succ, h.fn "no_turn" _ look_no_turn]
theorem call_is_stretch (h : Has T gl) (k : Nat) (ds : List D) (S : Store) : callN T gl (k + 1) "is_stretch" ds S = if ds.length = c_is_stretch.np then finish c_is_stretch.drop S.length (evCs (GG T gl k) c_is_stretch.body (start c_is_stretch.nl ds) S) else .bad := by
  rw [callN_succ, h.fn "is_stretch" _ look_is_stretch]
theorem call_is_motion (h : Has T gl) (k : Nat) (ds : List D) (S : Store) : callN T gl (k + 1) "is_motion" ds S = if ds.length = c_is_motion.np then finish c_is_motion.drop S.length (evCs (GG T gl k) c_is_motion.body (start c_is_motion.nl ds) S) else .bad := by
  rw [callN_succ, h.fn "is_motion" _ look_is_motion]
theorem call_need_motion (h : Has T gl) (k : Nat) (ds : List D) (S : Store) : callN T gl (k + 1) "need_motion" ds S = if ds.length = c_need_motion.np then finish c_need_motion.drop S.length (evCs (GG T gl k) c_need_motion.body (start c_need_motion.nl ds) S) else .bad := by
  rw [callN_succ, h.fn "need_motion" _ look_need_motion]
theorem call_noughts (h : Has T gl) (k : Nat) (ds : List D) (S : Store) : callN T gl (k + 1) "noughts" ds S = if ds.length = c_noughts.np then finish c_noughts.drop S.length (evCs (GG T gl k) c_noughts.body (start c_noughts.nl ds) S) else .bad := by
  rw [callN_succ, h.fn "noughts" _ look_noughts]
theorem call_no_facing (h : Has T gl) (k : Nat) (ds : List D) (S : Store) : callN T gl (k + 1) "no_facing" ds S = if ds.length = c_no_facing.np then finish c_no_facing.drop S.length (evCs (GG T gl k) c_no_facing.body (start c_no_facing.nl ds) S) else .bad := by
  rw [callN_succ, h.fn "no_facing" _ look_no_facing]
theorem call_no_motion (h : Has T gl) (k : Nat) (ds : List D) (S : Store) : callN T gl (k + 1) "no_motion" ds S = if ds.length = c_no_motion.np then finish c_no_motion.drop S.length (evCs (GG T gl k) c_no_motion.body (start c_no_motion.nl ds) S) else .bad := by
  rw [callN_succ, h.fn "no_motion" _ look_no_motion]
theorem call_still (h : Has T gl) (k : Nat) (ds : List D) (S : Store) : callN T gl (k + 1) "still" ds S = if ds.length = c_still.np then finish c_still.drop S.length (evCs (GG T gl k) c_still.body (start c_still.nl ds) S) else .bad := by
  rw [callN_succ, h.fn "still" _ look_still]
theorem call_rows_added (h : Has T gl) (k : Nat) (ds : List D) (S : Store) : callN T gl (k + 1) "rows_added" ds S = if ds.length = c_rows_added.np then finish c_rows_added.drop S.length (evCs (GG T gl k) c_rows_added.body (start c_rows_added.nl ds) S) else .bad := by
  rw [callN_succ, h.fn "rows_added" _ look_rows_added]
theorem call_row_times (h : Has T gl) (k : Nat) (ds : List D) (S : Store) : callN T gl (k + 1) "row_times" ds S = if ds.length = c_row_times.np then finish c_row_times.drop S.length (evCs (GG T gl k) c_row_times.body (start c_row_times.nl ds) S) else .bad := by
  rw [callN_succ, h.fn "row_times" _ look_row_times]
theorem call_row_back (h : Has T gl) (k : Nat) (ds : List D) (S : Store) : callN T gl (k + 1) "row_back" ds S = if ds.length = c_row_back.np then finish c_row_back.drop S.length (evCs (GG T gl k) c_row_back.body (start c_row_back.nl ds) S) else .bad := by
  rw [callN_succ, h.fn "row_back" _ look_row_back]
theorem call_face (h : Has T gl) (k : Nat) (ds : List D) (S : Store) : callN T gl (k + 1) "face" ds S = if ds.length = c_face.np then finish c_face.drop S.length (evCs (GG T gl k) c_face.body (start c_face.nl ds) S) else .bad := by
  rw [callN_succ, h.fn "face" _ look_face]
theorem call_move (h : Has T gl) (k : Nat) (ds : List D) (S : Store) : callN T gl (k + 1) "move" ds S = if ds.length = c_move.np then finish c_move.drop S.length (evCs (GG T gl k) c_move.body (start c_move.nl ds) S) else .bad := by
  rw [callN_succ, h.fn "move" _ look_move]
theorem call_faces_then (h : Has T gl) (k : Nat) (ds : List D) (S : Store) : callN T gl (k + 1) "faces_then" ds S = if ds.length = c_faces_then.np then finish c_faces_then.drop S.length (evCs (GG T gl k) c_faces_then.body (start c_faces_then.nl ds) S) else .bad := by
  rw [callN_succ, h.fn "faces_then" _ look_faces_then]
theorem call_face_back (h : Has T gl) (k : Nat) (ds : List D) (S : Store) : callN T gl (k + 1) "face_back" ds S = if ds.length = c_face_back.np then finish c_face_back.drop S.length (evCs (GG T gl k) c_face_back.body (start c_face_back.nl ds) S) else .bad := by
  rw [callN_succ, h.fn "face_back" _ look_face_back]
theorem call_moves_then (h : Has T gl) (k : Nat) (ds : List D) (S : Store) : callN T gl (k + 1) "moves_then" ds S = if ds.length = c_moves_then.np then finish c_moves_then.drop S.length (evCs (GG T gl k) c_moves_then.body (start c_moves_then.nl ds) S) else .bad := by
  rw [callN_succ, h.fn "moves_then" _ look_moves_then]
theorem call_move_back (h : Has T gl) (k : Nat) (ds : List D) (S : Store) : callN T gl (k + 1) "move_back" ds S = if ds.length = c_move_back.np then finish c_move_back.drop S.length (evCs (GG T gl k) c_move_back.body (start c_move_back.nl ds) S) else .bad := by
  rw [callN_succ, h.fn "move_back" _ look_move_back]
theorem call_then (h : Has T gl) (k : Nat) (ds : List D) (S : Store) : callN T gl (k + 1) "then" ds S = if ds.length = c_then.np then finish c_then.drop S.length (evCs (GG T gl k) c_then.body (start c_then.nl ds) S) else .bad := by
  rw [callN_succ, h.fn "then" _ look_then]
theorem call_undone (h : Has T gl) (k : Nat) (ds : List D) (S : Store) : callN T gl (k + 1) "undone" ds S = if ds.length = c_undone.np then finish c_undone.drop S.length (evCs (GG T gl k) c_undone.body (start c_undone.nl ds) S) else .bad := by
  rw [callN_succ, h.fn "undone" _ look_undone]
theorem call_facing (h : Has T gl) (k : Nat) (ds : List D) (S : Store) : callN T gl (k + 1) "facing" ds S = if ds.length = c_facing.np then finish c_facing.drop S.length (evCs (GG T gl k) c_facing.body (start c_facing.nl ds) S) else .bad := by
  rw [callN_succ, h.fn "facing" _ look_facing]
theorem call_lead (h : Has T gl) (k : Nat) (ds : List D) (S : Store) : callN T gl (k + 1) "lead" ds S = if ds.length = c_lead.np then finish c_lead.drop S.length (evCs (GG T gl k) c_lead.body (start c_lead.nl ds) S) else .bad := by
  rw [callN_succ, h.fn "lead" _ look_lead]
theorem call_lead_gap (h : Has T gl) (k : Nat) (ds : List D) (S : Store) : callN T gl (k + 1) "lead_gap" ds S = if ds.length = c_lead_gap.np then finish c_lead_gap.drop S.length (evCs (GG T gl k) c_lead_gap.body (start c_lead_gap.nl ds) S) else .bad := by
  rw [callN_succ, h.fn "lead_gap" _ look_lead_gap]
theorem call_law_bag (h : Has T gl) (k : Nat) (ds : List D) (S : Store) : callN T gl (k + 1) "_law_bag" ds S = if ds.length = c_law_bag.np then finish c_law_bag.drop S.length (evCs (GG T gl k) c_law_bag.body (start c_law_bag.nl ds) S) else .bad := by
  rw [callN_succ, h.fn "_law_bag" _ look_law_bag]
theorem call_law_pull (h : Has T gl) (k : Nat) (ds : List D) (S : Store) : callN T gl (k + 1) "_law_pull" ds S = if ds.length = c_law_pull.np then finish c_law_pull.drop S.length (evCs (GG T gl k) c_law_pull.body (start c_law_pull.nl ds) S) else .bad := by
  rw [callN_succ, h.fn "_law_pull" _ look_law_pull]
theorem call_law_turn (h : Has T gl) (k : Nat) (ds : List D) (S : Store) : callN T gl (k + 1) "_law_turn" ds S = if ds.length = c_law_turn.np then finish c_law_turn.drop S.length (evCs (GG T gl k) c_law_turn.body (start c_law_turn.nl ds) S) else .bad := by
  rw [callN_succ, h.fn "_law_turn" _ look_law_turn]
theorem call_law_gcd (h : Has T gl) (k : Nat) (ds : List D) (S : Store) : callN T gl (k + 1) "_law_gcd" ds S = if ds.length = c_law_gcd.np then finish c_law_gcd.drop S.length (evCs (GG T gl k) c_law_gcd.body (start c_law_gcd.nl ds) S) else .bad := by
  rw [callN_succ, h.fn "_law_gcd" _ look_law_gcd]
theorem call_law_low (h : Has T gl) (k : Nat) (ds : List D) (S : Store) : callN T gl (k + 1) "_law_low" ds S = if ds.length = c_law_low.np then finish c_law_low.drop S.length (evCs (GG T gl k) c_law_low.body (start c_law_low.nl ds) S) else .bad := by
  rw [callN_succ, h.fn "_law_low" _ look_law_low]
theorem call_law_stretch (h : Has T gl) (k : Nat) (ds : List D) (S : Store) : callN T gl (k + 1) "_law_stretch" ds S = if ds.length = c_law_stretch.np then finish c_law_stretch.drop S.length (evCs (GG T gl k) c_law_stretch.body (start c_law_stretch.nl ds) S) else .bad := by
  rw [callN_succ, h.fn "_law_stretch" _ look_law_stretch]
theorem call_law_small (h : Has T gl) (k : Nat) (ds : List D) (S : Store) : callN T gl (k + 1) "_law_small" ds S = if ds.length = c_law_small.np then finish c_law_small.drop S.length (evCs (GG T gl k) c_law_small.body (start c_law_small.nl ds) S) else .bad := by
  rw [callN_succ, h.fn "_law_small" _ look_law_small]
theorem call_law_row (h : Has T gl) (k : Nat) (ds : List D) (S : Store) : callN T gl (k + 1) "_law_row" ds S = if ds.length = c_law_row.np then finish c_law_row.drop S.length (evCs (GG T gl k) c_law_row.body (start c_law_row.nl ds) S) else .bad := by
  rw [callN_succ, h.fn "_law_row" _ look_law_row]
theorem call_law_motion (h : Has T gl) (k : Nat) (ds : List D) (S : Store) : callN T gl (k + 1) "_law_motion" ds S = if ds.length = c_law_motion.np then finish c_law_motion.drop S.length (evCs (GG T gl k) c_law_motion.body (start c_law_motion.nl ds) S) else .bad := by
  rw [callN_succ, h.fn "_law_motion" _ look_law_motion]
theorem call_law_add (h : Has T gl) (k : Nat) (ds : List D) (S : Store) : callN T gl (k + 1) "_law_add" ds S = if ds.length = c_law_add.np then finish c_law_add.drop S.length (evCs (GG T gl k) c_law_add.body (start c_law_add.nl ds) S) else .bad := by
  rw [callN_succ, h.fn "_law_add" _ look_law_add]
theorem call_law_mul (h : Has T gl) (k : Nat) (ds : List D) (S : Store) : callN T gl (k + 1) "_law_mul" ds S = if ds.length = c_law_mul.np then finish c_law_mul.drop S.length (evCs (GG T gl k) c_law_mul.body (start c_law_mul.nl ds) S) else .bad := by
  rw [callN_succ, h.fn "_law_mul" _ look_law_mul]
theorem call_law_square (h : Has T gl) (k : Nat) (ds : List D) (S : Store) : callN T gl (k + 1) "_law_square" ds S = if ds.length = c_law_square.np then finish c_law_square.drop S.length (evCs (GG T gl k) c_law_square.body (start c_law_square.nl ds) S) else .bad := by
  rw [callN_succ, h.fn "_law_square" _ look_law_square]
theorem lgl_MOST_AXES : gls.lookup ("MOST_AXES" : Str) = some (.int 3) := lookup_idx (i := 0) (c := (("MOST_AXES" : Str), ((.int 3) : D))) (by decide +kernel) rfl
theorem lgl_ONE : gls.lookup ("ONE" : Str) = some (.tup [(.int 1), (.int 1)]) := lookup_idx (i := 1) (c := (("ONE" : Str), ((.tup [(.int 1), (.int 1)]) : D))) (by decide +kernel) rfl
theorem lgl_ZERO : gls.lookup ("ZERO" : Str) = some (.tup [(.int 0), (.int 1)]) := lookup_idx (i := 2) (c := (("ZERO" : Str), ((.tup [(.int 0), (.int 1)]) : D))) (by decide +kernel) rfl
theorem gl_MOST_AXES (h : Has T gl) : gl "MOST_AXES" = some (.int 3) := h.gc _ _ lgl_MOST_AXES
theorem gl_ONE (h : Has T gl) : gl "ONE" = some (.tup [(.int 1), (.int 1)]) := h.gc _ _ lgl_ONE
theorem gl_ZERO (h : Has T gl) : gl "ZERO" = some (.tup [(.int 0), (.int 1)]) := h.gc _ _ lgl_ZERO
end CA

namespace CA
open PySem PyD
variable {T : Str → Option Fn} {gl : Str → Option D}
theorem gcd_nat (S : Store) (g : G) : ∀ (n a : Nat), evC g (.whl (.cmp .ne (.var 1) (.int 0)) (.cons (.par [0, 1] (.cons (.var 1) (.cons (.bin .mod (.var 0) (.var 1)) .nil))) .nil)) [some (.int a), some (.int n)] S = .nx [some (.int (Nat.gcd n a : Nat)), some (.int 0)] S := by
  intro n
  induction n using Nat.strongRecOn with
  | _ n ih =>
    intro a
    rw [evC]
    by_cases hn : n = 0
    · subst hn
      rw [while_end (S1 := S)]
      · simp only [Nat.gcd_zero_left]; rfl
      · simp only [evE, evEs, evAnd, evOr, evL.eq_1, evL.eq_2, evL.eq_4, evL.eq_5, evL.eq_6, meT, meD, isLr, get_last, evI, evC.eq_1, evC.eq_2, evC.eq_3, evC.eq_4, evC.eq_5, evC.eq_6, evC.eq_7, evC.eq_8, evC.eq_9, evC.eq_10, evC.eq_13, evC.eq_14, evC.eq_15, evC.eq_16, evCs, GG_call, GG_raw, GG_glob, R.ne_ok, R.bd_ok, R.bd_err, R.bd_bad, opt_some, opt_none, R.th, Out.th, PyD.finish, PyD.start, List.map, List.length, List.replicate, List.getD_cons_zero, List.getD_cons_succ, List.set_cons_zero, List.set_cons_succ, List.cons_append, List.nil_append, if_true, if_false, Bool.false_eq_true, E.isNon, Option.map_some, Option.map_none, Option.bind_some, setAll, List.zip_cons_cons, List.zip_nil_left, List.foldl_cons, List.foldl_nil, truthB, cmpEqI, cmpNeI, cmpLt, cmpLe, cmpGt, cmpGe, isNon, binAdd, binSub, Bool.not_true, Bool.not_false, decide_true, decide_false, reduceCtorEq, Nat.reduceAdd, Nat.reduceSub, Nat.sub_self, Nat.sub_zero, Nat.zero_add, ofI, idx0, idx1, idx2, biAbs, biLenT, biLenL, biTupL, biTupT, sz0, sz1, sz2, sz3, sz4, sz5, sz6, sz7, sz8, Int.natCast_eq_zero]
    · have h0 : 0 < n := by omega
      have h1 : ¬((n : Int) = 0) := by omega
      rw [while_go (S1 := S) (S2 := S) (ρ1 := [some (.int n), some (.int (a % n : Nat))])]
      · have := ih (a % n) (Nat.mod_lt _ h0) n
        rw [evC] at this
        rw [this, Nat.gcd_rec n a]
      · simp only [evE, evEs, evAnd, evOr, evL.eq_1, evL.eq_2, evL.eq_4, evL.eq_5, evL.eq_6, meT, meD, isLr, get_last, evI, evC.eq_1, evC.eq_2, evC.eq_3, evC.eq_4, evC.eq_5, evC.eq_6, evC.eq_7, evC.eq_8, evC.eq_9, evC.eq_10, evC.eq_13, evC.eq_14, evC.eq_15, evC.eq_16, evCs, GG_call, GG_raw, GG_glob, R.ne_ok, R.bd_ok, R.bd_err, R.bd_bad, opt_some, opt_none, R.th, Out.th, PyD.finish, PyD.start, List.map, List.length, List.replicate, List.getD_cons_zero, List.getD_cons_succ, List.set_cons_zero, List.set_cons_succ, List.cons_append, List.nil_append, if_true, if_false, Bool.false_eq_true, E.isNon, Option.map_some, Option.map_none, Option.bind_some, setAll, List.zip_cons_cons, List.zip_nil_left, List.foldl_cons, List.foldl_nil, truthB, cmpEqI, cmpNeI, cmpLt, cmpLe, cmpGt, cmpGe, isNon, binAdd, binSub, Bool.not_true, Bool.not_false, decide_true, decide_false, reduceCtorEq, Nat.reduceAdd, Nat.reduceSub, Nat.sub_self, Nat.sub_zero, Nat.zero_add, ofI, idx0, idx1, idx2, biAbs, biLenT, biLenL, biTupL, biTupT, sz0, sz1, sz2, sz3, sz4, sz5, sz6, sz7, sz8, decF h1]
      · simp only [evE, evEs, evAnd, evOr, evL.eq_1, evL.eq_2, evL.eq_4, evL.eq_5, evL.eq_6, meT, meD, isLr, get_last, evI, evC.eq_1, evC.eq_2, evC.eq_3, evC.eq_4, evC.eq_5, evC.eq_6, evC.eq_7, evC.eq_8, evC.eq_9, evC.eq_10, evC.eq_13, evC.eq_14, evC.eq_15, evC.eq_16, evCs, GG_call, GG_raw, GG_glob, R.ne_ok, R.bd_ok, R.bd_err, R.bd_bad, opt_some, opt_none, R.th, Out.th, PyD.finish, PyD.start, List.map, List.length, List.replicate, List.getD_cons_zero, List.getD_cons_succ, List.set_cons_zero, List.set_cons_succ, List.cons_append, List.nil_append, if_true, if_false, Bool.false_eq_true, E.isNon, Option.map_some, Option.map_none, Option.bind_some, setAll, List.zip_cons_cons, List.zip_nil_left, List.foldl_cons, List.foldl_nil, truthB, cmpEqI, cmpNeI, cmpLt, cmpLe, cmpGt, cmpGe, isNon, binAdd, binSub, Bool.not_true, Bool.not_false, decide_true, decide_false, reduceCtorEq, Nat.reduceAdd, Nat.reduceSub, Nat.sub_self, Nat.sub_zero, Nat.zero_add, ofI, idx0, idx1, idx2, biAbs, biLenT, biLenL, biTupL, biTupT, sz0, sz1, sz2, sz3, sz4, sz5, sz6, sz7, sz8, decF h1, binMod S (i := (a : Int)) (j := (n : Int)) (by omega), Int.natCast_emod]
theorem common_sp (h : Has T gl) (S : Store) (a n k : Nat) (hk : 1 ≤ k) : callN T gl k "common" [.int a, .int n] S = .ok (.int (Nat.gcd n a : Nat)) S := by
  obtain ⟨k, rfl⟩ : ∃ q, k = q + 1 := ⟨k - 1, by omega⟩
  rw [call_common h]
  simp only [c_common, evE, evEs, evAnd, evOr, evL.eq_1, evL.eq_2, evL.eq_4, evL.eq_5, evL.eq_6, meT, meD, isLr, get_last, evI, evC.eq_1, evC.eq_2, evC.eq_3, evC.eq_4, evC.eq_5, evC.eq_6, evC.eq_7, evC.eq_8, evC.eq_9, evC.eq_10, evC.eq_13, evC.eq_14, evC.eq_15, evC.eq_16, evCs, GG_call, GG_raw, GG_glob, R.ne_ok, R.bd_ok, R.bd_err, R.bd_bad, opt_some, opt_none, R.th, Out.th, PyD.finish, PyD.start, List.map, List.length, List.replicate, List.getD_cons_zero, List.getD_cons_succ, List.set_cons_zero, List.set_cons_succ, List.cons_append, List.nil_append, if_true, if_false, Bool.false_eq_true, E.isNon, Option.map_some, Option.map_none, Option.bind_some, setAll, List.zip_cons_cons, List.zip_nil_left, List.foldl_cons, List.foldl_nil, truthB, cmpEqI, cmpNeI, cmpLt, cmpLe, cmpGt, cmpGe, isNon, binAdd, binSub, Bool.not_true, Bool.not_false, decide_true, decide_false, reduceCtorEq, Nat.reduceAdd, Nat.reduceSub, Nat.sub_self, Nat.sub_zero, Nat.zero_add, ofI, idx0, idx1, idx2, biAbs, biLenT, biLenL, biTupL, biTupT, sz0, sz1, sz2, sz3, sz4, sz5, sz6, sz7, sz8, gcd_nat]
theorem abs_nat (i : Int) : (if i < 0 then -i else i) = (i.natAbs : Int) := by split <;> omega
def pt (q : Rat) : D := .tup [.int q.num, .int q.den]
def Bd (q : Rat) (b : Nat) : Prop := q.num.natAbs < 2 ^ b ∧ q.den < 2 ^ b
theorem low_sp (h : Has T gl) (S : Store) (i : Int) (n k b : Nat) (hn : n ≠ 0) (hb : n < 2 ^ b) (hb2 : b < 9000) (hk : 2 ≤ k) : callN T gl k "low" [.int i, .int n] S = .ok (pt (Rat.normalize i n hn)) S := by
  obtain ⟨k, rfl⟩ : ∃ q, k = q + 1 := ⟨k - 1, by omega⟩
  rw [call_low h]
  have h0 : 0 < n := by omega
  have hg : 0 < Nat.gcd n i.natAbs := Nat.gcd_pos_of_pos_left _ h0
  have hle : Nat.gcd n i.natAbs ≤ n := Nat.gcd_le_left _ h0
  have hd : intDivOk ((Nat.gcd n i.natAbs : Nat) : Int) := divOk b (by omega) (by rw [Int.natAbs_natCast]; omega) hb2
  simp only [c_low, evE, evEs, evAnd, evOr, evL.eq_1, evL.eq_2, evL.eq_4, evL.eq_5, evL.eq_6, meT, meD, isLr, get_last, evI, evC.eq_1, evC.eq_2, evC.eq_3, evC.eq_4, evC.eq_5, evC.eq_6, evC.eq_7, evC.eq_8, evC.eq_9, evC.eq_10, evC.eq_13, evC.eq_14, evC.eq_15, evC.eq_16, evCs, GG_call, GG_raw, GG_glob, R.ne_ok, R.bd_ok, R.bd_err, R.bd_bad, opt_some, opt_none, R.th, Out.th, PyD.finish, PyD.start, List.map, List.length, List.replicate, List.getD_cons_zero, List.getD_cons_succ, List.set_cons_zero, List.set_cons_succ, List.cons_append, List.nil_append, if_true, if_false, Bool.false_eq_true, E.isNon, Option.map_some, Option.map_none, Option.bind_some, setAll, List.zip_cons_cons, List.zip_nil_left, List.foldl_cons, List.foldl_nil, truthB, cmpEqI, cmpNeI, cmpLt, cmpLe, cmpGt, cmpGe, isNon, binAdd, binSub, Bool.not_true, Bool.not_false, decide_true, decide_false, reduceCtorEq, Nat.reduceAdd, Nat.reduceSub, Nat.sub_self, Nat.sub_zero, Nat.zero_add, ofI, idx0, idx1, idx2, biAbs, biLenT, biLenL, biTupL, biTupT, sz0, sz1, sz2, sz3, sz4, sz5, sz6, sz7, sz8, abs_nat, common_sp h S i.natAbs n k (by omega), binDiv S hd]
  simp only [pt, Rat.normalize_eq, Nat.gcd_comm n i.natAbs, Int.natCast_ediv]
theorem norm_bd {i : Int} {n b : Nat} (hn : n ≠ 0) (h1 : i.natAbs < 2 ^ b) (h2 : n < 2 ^ b) : Bd (Rat.normalize i n hn) b := by
  rw [Rat.normalize_eq]
  refine ⟨?_, ?_⟩
  · show (i / ((i.natAbs.gcd n : Nat) : Int)).natAbs < _
    have : (i / ((i.natAbs.gcd n : Nat) : Int)).natAbs ≤ i.natAbs := by
      rw [Int.natAbs_ediv_of_dvd (Int.ofNat_dvd_left.2 (Nat.gcd_dvd_left _ _))]
      exact Nat.div_le_self _ _
    omega
  · exact Nat.lt_of_le_of_lt (Nat.div_le_self _ _) h2
theorem mul_lt {a b x y : Nat} (h1 : x < 2 ^ a) (h2 : y < 2 ^ b) : x * y < 2 ^ (a + b) := by
  rw [Nat.pow_add]
  exact Nat.mul_lt_mul'' h1 h2
theorem Bd.mono {q : Rat} {a b : Nat} (h : Bd q a) (hb : a ≤ b) : Bd q b :=
  ⟨Nat.lt_of_lt_of_le h.1 (Nat.pow_le_pow_right (by omega) hb), Nat.lt_of_lt_of_le h.2 (Nat.pow_le_pow_right (by omega) hb)⟩
theorem Bd.mul {p q : Rat} {a b : Nat} (h1 : Bd p a) (h2 : Bd q b) : Bd (p * q) (a + b) := by
  rw [Rat.mul_def]
  exact norm_bd _ (by rw [Int.natAbs_mul]; exact mul_lt h1.1 h2.1) (mul_lt h1.2 h2.2)
theorem add_num {p q : Rat} {a b : Nat} (h1 : Bd p a) (h2 : Bd q b) : (p.num * q.den + q.num * p.den).natAbs < 2 ^ (a + b + 1) := by
  have e1 : (p.num * q.den).natAbs < 2 ^ (a + b) := by rw [Int.natAbs_mul]; exact mul_lt h1.1 h2.2
  have e2 : (q.num * p.den).natAbs < 2 ^ (a + b) := by rw [Int.natAbs_mul, Nat.add_comm a b]; exact mul_lt h2.1 h1.2
  have := Int.natAbs_add_le (p.num * q.den) (q.num * p.den)
  rw [Nat.pow_succ]; omega
theorem Bd.add {p q : Rat} {a b : Nat} (h1 : Bd p a) (h2 : Bd q b) : Bd (p + q) (a + b + 1) := by
  rw [Rat.add_def]
  exact norm_bd _ (add_num h1 h2) (by have := mul_lt h1.2 h2.2; rw [Nat.pow_succ]; omega)
theorem Bd.neg {p : Rat} {a : Nat} (h1 : Bd p a) : Bd (-p) a := ⟨by rw [Rat.neg_num, Int.natAbs_neg]; exact h1.1, h1.2⟩
theorem pt_num (S : Store) (q : Rat) : idxD S (pt q) (.int 0) = some (.int q.num) := idx0 _ _ _
theorem pt_den (S : Store) (q : Rat) : idxD S (pt q) (.int 1) = some (.int q.den) := idx1 _ _ _ _
theorem mulOkN {i j : Int} {a b : Nat} (hi : i.natAbs < 2 ^ a) (hj : j.natAbs < 2 ^ b) (hab : a + b < 1000000) : intMulOk i j := mulOk a b hi hj hab
theorem added_sp (h : Has T gl) (S : Store) {p q : Rat} {a b : Nat} (hp : Bd p a) (hq : Bd q b) (hs : a + b < 8000) (k : Nat) (hk : 3 ≤ k) : callN T gl k "added" [pt p, pt q] S = .ok (pt (p + q)) S := by
  obtain ⟨k, rfl⟩ : ∃ q, k = q + 1 := ⟨k - 1, by omega⟩
  rw [call_added h]
  have e1 := binMul S (mulOk (i := p.num) (j := q.den) a b hp.1 hq.2 (by omega))
  have e2 := binMul S (mulOk (i := q.num) (j := p.den) b a hq.1 hp.2 (by omega))
  have e3 := binMul S (mulOk (i := p.den) (j := q.den) a b hp.2 hq.2 (by omega))
  have e4 := low_sp h S (p.num * q.den + q.num * p.den) (p.den * q.den) k (a + b) (Nat.mul_ne_zero p.den_nz q.den_nz) (mul_lt hp.2 hq.2) (by omega) (by omega)
  rw [Int.natCast_mul] at e4
  simp only [c_added, evE, evEs, evAnd, evOr, evL.eq_1, evL.eq_2, evL.eq_4, evL.eq_5, evL.eq_6, meT, meD, isLr, get_last, evI, evC.eq_1, evC.eq_2, evC.eq_3, evC.eq_4, evC.eq_5, evC.eq_6, evC.eq_7, evC.eq_8, evC.eq_9, evC.eq_10, evC.eq_13, evC.eq_14, evC.eq_15, evC.eq_16, evCs, GG_call, GG_raw, GG_glob, R.ne_ok, R.bd_ok, R.bd_err, R.bd_bad, opt_some, opt_none, R.th, Out.th, PyD.finish, PyD.start, List.map, List.length, List.replicate, List.getD_cons_zero, List.getD_cons_succ, List.set_cons_zero, List.set_cons_succ, List.cons_append, List.nil_append, if_true, if_false, Bool.false_eq_true, E.isNon, Option.map_some, Option.map_none, Option.bind_some, setAll, List.zip_cons_cons, List.zip_nil_left, List.foldl_cons, List.foldl_nil, truthB, cmpEqI, cmpNeI, cmpLt, cmpLe, cmpGt, cmpGe, isNon, binAdd, binSub, Bool.not_true, Bool.not_false, decide_true, decide_false, reduceCtorEq, Nat.reduceAdd, Nat.reduceSub, Nat.sub_self, Nat.sub_zero, Nat.zero_add, ofI, idx0, idx1, idx2, biAbs, biLenT, biLenL, biTupL, biTupT, sz0, sz1, sz2, sz3, sz4, sz5, sz6, sz7, sz8, pt_num, pt_den, e1, e2, e3, e4]
  rw [Rat.add_def]
theorem product_sp (h : Has T gl) (S : Store) {p q : Rat} {a b : Nat} (hp : Bd p a) (hq : Bd q b) (hs : a + b < 8000) (k : Nat) (hk : 3 ≤ k) : callN T gl k "product" [pt p, pt q] S = .ok (pt (p * q)) S := by
  obtain ⟨k, rfl⟩ : ∃ q, k = q + 1 := ⟨k - 1, by omega⟩
  rw [call_product h]
  have e1 := binMul S (mulOk (i := p.num) (j := q.num) a b hp.1 hq.1 (by omega))
  have e3 := binMul S (mulOk (i := p.den) (j := q.den) a b hp.2 hq.2 (by omega))
  have e4 := low_sp h S (p.num * q.num) (p.den * q.den) k (a + b) (Nat.mul_ne_zero p.den_nz q.den_nz) (mul_lt hp.2 hq.2) (by omega) (by omega)
  rw [Int.natCast_mul] at e4
  simp only [c_product, evE, evEs, evAnd, evOr, evL.eq_1, evL.eq_2, evL.eq_4, evL.eq_5, evL.eq_6, meT, meD, isLr, get_last, evI, evC.eq_1, evC.eq_2, evC.eq_3, evC.eq_4, evC.eq_5, evC.eq_6, evC.eq_7, evC.eq_8, evC.eq_9, evC.eq_10, evC.eq_13, evC.eq_14, evC.eq_15, evC.eq_16, evCs, GG_call, GG_raw, GG_glob, R.ne_ok, R.bd_ok, R.bd_err, R.bd_bad, opt_some, opt_none, R.th, Out.th, PyD.finish, PyD.start, List.map, List.length, List.replicate, List.getD_cons_zero, List.getD_cons_succ, List.set_cons_zero, List.set_cons_succ, List.cons_append, List.nil_append, if_true, if_false, Bool.false_eq_true, E.isNon, Option.map_some, Option.map_none, Option.bind_some, setAll, List.zip_cons_cons, List.zip_nil_left, List.foldl_cons, List.foldl_nil, truthB, cmpEqI, cmpNeI, cmpLt, cmpLe, cmpGt, cmpGe, isNon, binAdd, binSub, Bool.not_true, Bool.not_false, decide_true, decide_false, reduceCtorEq, Nat.reduceAdd, Nat.reduceSub, Nat.sub_self, Nat.sub_zero, Nat.zero_add, ofI, idx0, idx1, idx2, biAbs, biLenT, biLenL, biTupL, biTupT, sz0, sz1, sz2, sz3, sz4, sz5, sz6, sz7, sz8, pt_num, pt_den, e1, e3, e4]
  rw [Rat.mul_def]
theorem turned_about_sp (h : Has T gl) (S : Store) (p : Rat) (k : Nat) (hk : 1 ≤ k) : callN T gl k "turned_about" [pt p] S = .ok (pt (-p)) S := by
  obtain ⟨k, rfl⟩ : ∃ q, k = q + 1 := ⟨k - 1, by omega⟩
  rw [call_turned_about h]
  simp only [c_turned_about, evE, evEs, evAnd, evOr, evL.eq_1, evL.eq_2, evL.eq_4, evL.eq_5, evL.eq_6, meT, meD, isLr, get_last, evI, evC.eq_1, evC.eq_2, evC.eq_3, evC.eq_4, evC.eq_5, evC.eq_6, evC.eq_7, evC.eq_8, evC.eq_9, evC.eq_10, evC.eq_13, evC.eq_14, evC.eq_15, evC.eq_16, evCs, GG_call, GG_raw, GG_glob, R.ne_ok, R.bd_ok, R.bd_err, R.bd_bad, opt_some, opt_none, R.th, Out.th, PyD.finish, PyD.start, List.map, List.length, List.replicate, List.getD_cons_zero, List.getD_cons_succ, List.set_cons_zero, List.set_cons_succ, List.cons_append, List.nil_append, if_true, if_false, Bool.false_eq_true, E.isNon, Option.map_some, Option.map_none, Option.bind_some, setAll, List.zip_cons_cons, List.zip_nil_left, List.foldl_cons, List.foldl_nil, truthB, cmpEqI, cmpNeI, cmpLt, cmpLe, cmpGt, cmpGe, isNon, binAdd, binSub, Bool.not_true, Bool.not_false, decide_true, decide_false, reduceCtorEq, Nat.reduceAdd, Nat.reduceSub, Nat.sub_self, Nat.sub_zero, Nat.zero_add, ofI, idx0, idx1, idx2, biAbs, biLenT, biLenL, biTupL, biTupT, sz0, sz1, sz2, sz3, sz4, sz5, sz6, sz7, sz8, pt_num, pt_den]
  simp only [pt, Rat.neg_num, Rat.neg_den, Int.zero_sub]
theorem num_pos {p : Rat} (h : 0 < p) : 0 < p.num := by
  have h1 : 0 ≤ p.num := Rat.num_nonneg.2 (Rat.le_of_lt h)
  have h2 : p.num ≠ 0 := fun e => by
    rw [Rat.num_eq_zero] at e
    subst e
    exact absurd h (by decide)
  omega
theorem inv_num_den {p : Rat} (h : 0 < p.num) : (p⁻¹).num = p.den ∧ ((p⁻¹).den : Int) = p.num := by
  rw [Rat.num_inv, Rat.den_inv, Int.sign_eq_one_of_pos h, Int.one_mul, if_neg (by omega)]
  exact ⟨rfl, by omega⟩
theorem upside_sp (h : Has T gl) (S : Store) (p : Rat) (hp : 0 < p) (k : Nat) (hk : 1 ≤ k) : callN T gl k "upside" [pt p] S = .ok (pt p⁻¹) S := by
  obtain ⟨k, rfl⟩ : ∃ q, k = q + 1 := ⟨k - 1, by omega⟩
  rw [call_upside h]
  have h0 : 0 < p.num := num_pos hp
  simp only [c_upside, evE, evEs, evAnd, evOr, evL.eq_1, evL.eq_2, evL.eq_4, evL.eq_5, evL.eq_6, meT, meD, isLr, get_last, evI, evC.eq_1, evC.eq_2, evC.eq_3, evC.eq_4, evC.eq_5, evC.eq_6, evC.eq_7, evC.eq_8, evC.eq_9, evC.eq_10, evC.eq_13, evC.eq_14, evC.eq_15, evC.eq_16, evCs, GG_call, GG_raw, GG_glob, R.ne_ok, R.bd_ok, R.bd_err, R.bd_bad, opt_some, opt_none, R.th, Out.th, PyD.finish, PyD.start, List.map, List.length, List.replicate, List.getD_cons_zero, List.getD_cons_succ, List.set_cons_zero, List.set_cons_succ, List.cons_append, List.nil_append, if_true, if_false, Bool.false_eq_true, E.isNon, Option.map_some, Option.map_none, Option.bind_some, setAll, List.zip_cons_cons, List.zip_nil_left, List.foldl_cons, List.foldl_nil, truthB, cmpEqI, cmpNeI, cmpLt, cmpLe, cmpGt, cmpGe, isNon, binAdd, binSub, Bool.not_true, Bool.not_false, decide_true, decide_false, reduceCtorEq, Nat.reduceAdd, Nat.reduceSub, Nat.sub_self, Nat.sub_zero, Nat.zero_add, ofI, idx0, idx1, idx2, biAbs, biLenT, biLenL, biTupL, biTupT, sz0, sz1, sz2, sz3, sz4, sz5, sz6, sz7, sz8, pt_num, pt_den, decT h0]
  simp only [pt, (inv_num_den h0).1, (inv_num_den h0).2]
theorem Bd.inv {p : Rat} {a : Nat} (hp : 0 < p) (h1 : Bd p a) : Bd p⁻¹ a := by
  have h0 : 0 < p.num := num_pos hp
  have := inv_num_den h0
  refine ⟨?_, ?_⟩
  · rw [this.1]; exact h1.2
  · have := h1.1; omega
theorem is_part_sp (h : Has T gl) (S : Store) (p : Rat) (k : Nat) (hk : 2 ≤ k) : callN T gl k "is_part" [pt p] S = .ok (.bl true) S := by
  obtain ⟨k, rfl⟩ : ∃ q, k = q + 1 := ⟨k - 1, by omega⟩
  rw [call_is_part h]
  have h0 : (0 : Int) < p.den := by have := p.den_nz; omega
  have hl : biD S .len (pt p) = some (.int 2) := biLenT _ _
  have hg : Nat.gcd p.den p.num.natAbs = 1 := by rw [Nat.gcd_comm]; exact p.reduced
  simp only [c_is_part, evE, evEs, evAnd, evOr, evL.eq_1, evL.eq_2, evL.eq_4, evL.eq_5, evL.eq_6, meT, meD, isLr, get_last, evI, evC.eq_1, evC.eq_2, evC.eq_3, evC.eq_4, evC.eq_5, evC.eq_6, evC.eq_7, evC.eq_8, evC.eq_9, evC.eq_10, evC.eq_13, evC.eq_14, evC.eq_15, evC.eq_16, evCs, GG_call, GG_raw, GG_glob, R.ne_ok, R.bd_ok, R.bd_err, R.bd_bad, opt_some, opt_none, R.th, Out.th, PyD.finish, PyD.start, List.map, List.length, List.replicate, List.getD_cons_zero, List.getD_cons_succ, List.set_cons_zero, List.set_cons_succ, List.cons_append, List.nil_append, if_true, if_false, Bool.false_eq_true, E.isNon, Option.map_some, Option.map_none, Option.bind_some, setAll, List.zip_cons_cons, List.zip_nil_left, List.foldl_cons, List.foldl_nil, truthB, cmpEqI, cmpNeI, cmpLt, cmpLe, cmpGt, cmpGe, isNon, binAdd, binSub, Bool.not_true, Bool.not_false, decide_true, decide_false, reduceCtorEq, Nat.reduceAdd, Nat.reduceSub, Nat.sub_self, Nat.sub_zero, Nat.zero_add, ofI, idx0, idx1, idx2, biAbs, biLenT, biLenL, biTupL, biTupT, sz0, sz1, sz2, sz3, sz4, sz5, sz6, sz7, sz8, pt_num, pt_den, hl, decT h0, abs_nat, common_sp h S p.num.natAbs p.den k (by omega), hg]
  rfl
theorem is_stretch_sp (h : Has T gl) (S : Store) (p : Rat) (hp : 0 < p) (k : Nat) (hk : 3 ≤ k) : callN T gl k "is_stretch" [pt p] S = .ok (.bl true) S := by
  obtain ⟨k, rfl⟩ : ∃ q, k = q + 1 := ⟨k - 1, by omega⟩
  rw [call_is_stretch h]
  have h0 : 0 < p.num := num_pos hp
  simp only [c_is_stretch, evE, evEs, evAnd, evOr, evL.eq_1, evL.eq_2, evL.eq_4, evL.eq_5, evL.eq_6, meT, meD, isLr, get_last, evI, evC.eq_1, evC.eq_2, evC.eq_3, evC.eq_4, evC.eq_5, evC.eq_6, evC.eq_7, evC.eq_8, evC.eq_9, evC.eq_10, evC.eq_13, evC.eq_14, evC.eq_15, evC.eq_16, evCs, GG_call, GG_raw, GG_glob, R.ne_ok, R.bd_ok, R.bd_err, R.bd_bad, opt_some, opt_none, R.th, Out.th, PyD.finish, PyD.start, List.map, List.length, List.replicate, List.getD_cons_zero, List.getD_cons_succ, List.set_cons_zero, List.set_cons_succ, List.cons_append, List.nil_append, if_true, if_false, Bool.false_eq_true, E.isNon, Option.map_some, Option.map_none, Option.bind_some, setAll, List.zip_cons_cons, List.zip_nil_left, List.foldl_cons, List.foldl_nil, truthB, cmpEqI, cmpNeI, cmpLt, cmpLe, cmpGt, cmpGe, isNon, binAdd, binSub, Bool.not_true, Bool.not_false, decide_true, decide_false, reduceCtorEq, Nat.reduceAdd, Nat.reduceSub, Nat.sub_self, Nat.sub_zero, Nat.zero_add, ofI, idx0, idx1, idx2, biAbs, biLenT, biLenL, biTupL, biTupT, sz0, sz1, sz2, sz3, sz4, sz5, sz6, sz7, sz8, is_part_sp h S p k (by omega), pt_num, decT h0]
end CA

namespace CA
open PySem PyD
variable {T : Str → Option Fn} {gl : Str → Option D}
def row (l : List Rat) : D := .tup (l.map pt)
def turn (t : List Int) : D := .tup (t.map .int)
def BdR (l : List Rat) (b : Nat) : Prop := ∀ q ∈ l, Bd q b
theorem lenRow (S : Store) (l : List Rat) : biD S .len (row l) = some (.int l.length) := by rw [row, biLenT, List.length_map]
theorem lenTurn (S : Store) (l : List Int) : biD S .len (turn l) = some (.int l.length) := by rw [turn, biLenT, List.length_map]
theorem pt_nice (q : Rat) : (pt q).nice = true := rfl
theorem pt_dep (q : Rat) : (pt q).dep = 1 := rfl
theorem row_nice (l : List Rat) : (row l).nice = true := nices_of fun x hx => by
  obtain ⟨q, _, rfl⟩ := List.mem_map.1 hx; rfl
theorem row_dep (l : List Rat) : (row l).dep ≤ 2 := by
  have : D.deps (l.map pt) ≤ 1 := deps_le fun x hx => by
    obtain ⟨q, _, rfl⟩ := List.mem_map.1 hx; exact Nat.le_refl _
  show D.deps _ + 1 ≤ 2
  omega
theorem turn_nice (l : List Int) : (turn l).nice = true := nices_of fun x hx => by
  obtain ⟨q, _, rfl⟩ := List.mem_map.1 hx; rfl
theorem turn_dep (l : List Int) : (turn l).dep ≤ 1 := by
  have : D.deps (l.map D.int) ≤ 0 := deps_le fun x hx => by
    obtain ⟨q, _, rfl⟩ := List.mem_map.1 hx; exact Nat.le_refl _
  show D.deps _ + 1 ≤ 1
  omega
theorem seqRow (S : Store) (l : List Rat) : seqIt S (row l) = some ⟨l.map pt, []⟩ := rfl
theorem seqTurn (S : Store) (l : List Int) : seqIt S (turn l) = some ⟨l.map .int, []⟩ := rfl
theorem all_true {α : Type} (S : Store) (l : List α) : biD S .all (.lst (l.map fun _ => .bl true)) = some (.bl true) := by
  have : ∀ l : List α, allBl (l.map fun _ => .bl true) = some (l.map fun _ => true) := by
    intro l
    induction l with
    | nil => rfl
    | cons x l ih => simp only [List.map_cons, allBl, ih, Option.map_some]
  simp [biD, lstOf, this]
theorem chain13 {n : Nat} (h1 : 1 ≤ n) : decide ((1 : Int) ≤ n) = true := decide_eq_true (by omega)
theorem is_row_sp (h : Has T gl) (S : Store) (l : List Rat) (h1 : 1 ≤ l.length) (h3 : l.length ≤ 3) (k : Nat) (hk : 3 ≤ k) : callN T gl k "is_row" [row l] S = .ok (.bl true) S := by
  obtain ⟨k, rfl⟩ : ∃ q, k = q + 1 := ⟨k - 1, by omega⟩
  rw [call_is_row h]
  have hl : evL (GG T gl k) [some (row l), none] (.comp [("one", 1)] (.one 1) (.seq (.var 0)) .nil (.call false "is_part" (.cons (.var 1) .nil))) S = .ok ((l.map pt).map fun _ => .bl true) S := by
    refine l_map (t := ⟨l.map pt, []⟩) (fun _ => .bl true) (by simp only [evE, evEs, evAnd, evOr, evL.eq_1, evL.eq_2, evL.eq_4, evL.eq_5, evL.eq_6, meT, meD, isLr, get_last, evI, evC.eq_1, evC.eq_2, evC.eq_3, evC.eq_4, evC.eq_5, evC.eq_6, evC.eq_7, evC.eq_8, evC.eq_9, evC.eq_10, evC.eq_13, evC.eq_14, evC.eq_15, evC.eq_16, evCs, GG_call, GG_raw, GG_glob, R.ne_ok, R.bd_ok, R.bd_err, R.bd_bad, opt_some, opt_none, R.th, Out.th, PyD.finish, PyD.start, List.map, List.length, List.replicate, List.getD_cons_zero, List.getD_cons_succ, List.set_cons_zero, List.set_cons_succ, List.cons_append, List.nil_append, if_true, if_false, Bool.false_eq_true, E.isNon, Option.map_some, Option.map_none, Option.bind_some, setAll, List.zip_cons_cons, List.zip_nil_left, List.foldl_cons, List.foldl_nil, truthB, cmpEqI, cmpNeI, cmpLt, cmpLe, cmpGt, cmpGe, isNon, binAdd, binSub, Bool.not_true, Bool.not_false, decide_true, decide_false, reduceCtorEq, Nat.reduceAdd, Nat.reduceSub, Nat.sub_self, Nat.sub_zero, Nat.zero_add, ofI, idx0, idx1, idx2, biAbs, biLenT, biLenL, biTupL, biTupT, sz0, sz1, sz2, sz3, sz4, sz5, sz6, sz7, sz8, seqRow]) (still_nil _ _) (by simp only [List.length_map]; omega) fun x hx => ?_
    obtain ⟨q, _, rfl⟩ := List.mem_map.1 hx
    exact ⟨[some (row l), some (pt q)], rfl, by simp only [evE, evEs, evAnd, evOr, evL.eq_1, evL.eq_2, evL.eq_4, evL.eq_5, evL.eq_6, meT, meD, isLr, get_last, evI, evC.eq_1, evC.eq_2, evC.eq_3, evC.eq_4, evC.eq_5, evC.eq_6, evC.eq_7, evC.eq_8, evC.eq_9, evC.eq_10, evC.eq_13, evC.eq_14, evC.eq_15, evC.eq_16, evCs, GG_call, GG_raw, GG_glob, R.ne_ok, R.bd_ok, R.bd_err, R.bd_bad, opt_some, opt_none, R.th, Out.th, PyD.finish, PyD.start, List.map, List.length, List.replicate, List.getD_cons_zero, List.getD_cons_succ, List.set_cons_zero, List.set_cons_succ, List.cons_append, List.nil_append, if_true, if_false, Bool.false_eq_true, E.isNon, Option.map_some, Option.map_none, Option.bind_some, setAll, List.zip_cons_cons, List.zip_nil_left, List.foldl_cons, List.foldl_nil, truthB, cmpEqI, cmpNeI, cmpLt, cmpLe, cmpGt, cmpGe, isNon, binAdd, binSub, Bool.not_true, Bool.not_false, decide_true, decide_false, reduceCtorEq, Nat.reduceAdd, Nat.reduceSub, Nat.sub_self, Nat.sub_zero, Nat.zero_add, ofI, idx0, idx1, idx2, biAbs, biLenT, biLenL, biTupL, biTupT, sz0, sz1, sz2, sz3, sz4, sz5, sz6, sz7, sz8, is_part_sp h S q k (by omega)]⟩
  have d1 : decide ((1 : Int) ≤ l.length) = true := decide_eq_true (by omega)
  have d3 : decide ((l.length : Int) ≤ 3) = true := decide_eq_true (by omega)
  simp only [c_is_row, evE, evEs, evAnd, evOr, evL.eq_1, evL.eq_2, evL.eq_4, evL.eq_5, evL.eq_6, meT, meD, isLr, get_last, evI, evC.eq_1, evC.eq_2, evC.eq_3, evC.eq_4, evC.eq_5, evC.eq_6, evC.eq_7, evC.eq_8, evC.eq_9, evC.eq_10, evC.eq_13, evC.eq_14, evC.eq_15, evC.eq_16, evCs, GG_call, GG_raw, GG_glob, R.ne_ok, R.bd_ok, R.bd_err, R.bd_bad, opt_some, opt_none, R.th, Out.th, PyD.finish, PyD.start, List.map, List.length, List.replicate, List.getD_cons_zero, List.getD_cons_succ, List.set_cons_zero, List.set_cons_succ, List.cons_append, List.nil_append, if_true, if_false, Bool.false_eq_true, E.isNon, Option.map_some, Option.map_none, Option.bind_some, setAll, List.zip_cons_cons, List.zip_nil_left, List.foldl_cons, List.foldl_nil, truthB, cmpEqI, cmpNeI, cmpLt, cmpLe, cmpGt, cmpGe, isNon, binAdd, binSub, Bool.not_true, Bool.not_false, decide_true, decide_false, reduceCtorEq, Nat.reduceAdd, Nat.reduceSub, Nat.sub_self, Nat.sub_zero, Nat.zero_add, ofI, idx0, idx1, idx2, biAbs, biLenT, biLenL, biTupL, biTupT, sz0, sz1, sz2, sz3, sz4, sz5, sz6, sz7, sz8, lenRow, gl_MOST_AXES h, d1, d3, hl, all_true]
theorem need_row_sp (h : Has T gl) (S : Store) (l : List Rat) (h1 : 1 ≤ l.length) (h3 : l.length ≤ 3) (n : Int) (hn : n = l.length) (k : Nat) (hk : 4 ≤ k) : callN T gl k "need_row" [row l, .int n] S = .ok .non S := by
  obtain ⟨k, rfl⟩ : ∃ q, k = q + 1 := ⟨k - 1, by omega⟩
  rw [call_need_row h]
  subst hn
  simp only [c_need_row, evE, evEs, evAnd, evOr, evL.eq_1, evL.eq_2, evL.eq_4, evL.eq_5, evL.eq_6, meT, meD, isLr, get_last, evI, evC.eq_1, evC.eq_2, evC.eq_3, evC.eq_4, evC.eq_5, evC.eq_6, evC.eq_7, evC.eq_8, evC.eq_9, evC.eq_10, evC.eq_13, evC.eq_14, evC.eq_15, evC.eq_16, evCs, GG_call, GG_raw, GG_glob, R.ne_ok, R.bd_ok, R.bd_err, R.bd_bad, opt_some, opt_none, R.th, Out.th, PyD.finish, PyD.start, List.map, List.length, List.replicate, List.getD_cons_zero, List.getD_cons_succ, List.set_cons_zero, List.set_cons_succ, List.cons_append, List.nil_append, if_true, if_false, Bool.false_eq_true, E.isNon, Option.map_some, Option.map_none, Option.bind_some, setAll, List.zip_cons_cons, List.zip_nil_left, List.foldl_cons, List.foldl_nil, truthB, cmpEqI, cmpNeI, cmpLt, cmpLe, cmpGt, cmpGe, isNon, binAdd, binSub, Bool.not_true, Bool.not_false, decide_true, decide_false, reduceCtorEq, Nat.reduceAdd, Nat.reduceSub, Nat.sub_self, Nat.sub_zero, Nat.zero_add, ofI, idx0, idx1, idx2, biAbs, biLenT, biLenL, biTupL, biTupT, sz0, sz1, sz2, sz3, sz4, sz5, sz6, sz7, sz8, lenRow, is_row_sp h S l h1 h3 k (by omega)]
def sgq (x : Int) (q : Rat) : Rat := if 0 < x then q else if x < 0 then -q else 0
def sgi (x : Int) (y : Int) : Int := if 0 < x then y else if x < 0 then -y else 0
def turnR (t : List Int) (l : List Rat) : List Rat := t.map fun x => sgq x (l.getD (x.natAbs - 1) 0)
def bothT (a b : List Int) : List Int := b.map fun x => sgi x (a.getD (x.natAbs - 1) 0)
def InT (t : List Int) (n : Nat) : Prop := ∀ x ∈ t, x ≠ 0 ∧ x.natAbs ≤ n
theorem row_at (S : Store) (l : List Rat) (x : Int) (h0 : x ≠ 0) (h1 : x.natAbs ≤ l.length) : idxD S (row l) (.int ((x.natAbs : Int) - 1)) = some (pt (l.getD (x.natAbs - 1) 0)) := by
  refine idxT S (by omega) ?_
  have : (((x.natAbs : Int) - 1)).toNat = x.natAbs - 1 := by omega
  rw [this, List.getElem?_map, List.getD_eq_getElem?_getD, List.getElem?_eq_getElem (by omega)]; rfl
theorem turn_at (S : Store) (l : List Int) (x : Int) (h0 : x ≠ 0) (h1 : x.natAbs ≤ l.length) : idxD S (turn l) (.int ((x.natAbs : Int) - 1)) = some (.int (l.getD (x.natAbs - 1) 0)) := by
  refine idxT S (by omega) ?_
  have : (((x.natAbs : Int) - 1)).toNat = x.natAbs - 1 := by omega
  rw [this, List.getElem?_map, List.getD_eq_getElem?_getD, List.getElem?_eq_getElem (by omega)]; rfl
theorem row_turned_sp (h : Has T gl) (S : Store) (hS : Clo S) (t : List Int) (l : List Rat) (ht : InT t l.length) (htl : t.length ≤ 1000) (k : Nat) (hk : 2 ≤ k) : callN T gl k "row_turned" [turn t, row l] S = .ok (row (turnR t l)) S := by
  obtain ⟨k, rfl⟩ : ∃ q, k = q + 1 := ⟨k - 1, by omega⟩
  rw [call_row_turned h]
  have hf := f_inv (g := GG T gl k) (tg := .one 3) (it := .seq (.var 0)) (a := (.cons (.set 4 (.idx (.var 1) (.bin .sub (.bi .abs (.var 3)) (.int 1)))) (.cons (.ex (.app (.var 2) (.ite (.cmp .gt (.var 3) (.int 0)) (.var 4) (.call false "turned_about" (.cons (.var 4) .nil))))) .nil)))
    (ρ := [some (turn t), some (row l), some (.ref S.length), none, none]) (S := S ++ [.lst []]) (S1 := S ++ [.lst []]) (t := ⟨t.map .int, []⟩)
    (fun xs ρ S' => ∃ done rest a b, t = done ++ rest ∧ xs = rest.map .int ∧ ρ = [some (turn t), some (row l), some (.ref S.length), a, b] ∧ S' = S ++ [.lst ((turnR done l).map pt)])
    (by simp only [evE, evEs, evAnd, evOr, evL.eq_1, evL.eq_2, evL.eq_4, evL.eq_5, evL.eq_6, meT, meD, isLr, get_last, evI, evC.eq_1, evC.eq_2, evC.eq_3, evC.eq_4, evC.eq_5, evC.eq_6, evC.eq_7, evC.eq_8, evC.eq_9, evC.eq_10, evC.eq_13, evC.eq_14, evC.eq_15, evC.eq_16, evCs, GG_call, GG_raw, GG_glob, R.ne_ok, R.bd_ok, R.bd_err, R.bd_bad, opt_some, opt_none, R.th, Out.th, PyD.finish, PyD.start, List.map, List.length, List.replicate, List.getD_cons_zero, List.getD_cons_succ, List.set_cons_zero, List.set_cons_succ, List.cons_append, List.nil_append, if_true, if_false, Bool.false_eq_true, E.isNon, Option.map_some, Option.map_none, Option.bind_some, setAll, List.zip_cons_cons, List.zip_nil_left, List.foldl_cons, List.foldl_nil, truthB, cmpEqI, cmpNeI, cmpLt, cmpLe, cmpGt, cmpGe, isNon, binAdd, binSub, Bool.not_true, Bool.not_false, decide_true, decide_false, reduceCtorEq, Nat.reduceAdd, Nat.reduceSub, Nat.sub_self, Nat.sub_zero, Nat.zero_add, ofI, idx0, idx1, idx2, biAbs, biLenT, biLenL, biTupL, biTupT, sz0, sz1, sz2, sz3, sz4, sz5, sz6, sz7, sz8, seqTurn]) (fun _ _ _ _ => still_nil _ _) ?step ⟨[], t, none, none, rfl, rfl, rfl, rfl⟩
  case step =>
    rintro x xs ρ S' ⟨done, rest, a, b, e1, e2, rfl, rfl⟩
    cases rest with
    | nil => cases e2
    | cons y rest =>
      cases e2
      have hy := ht y (by rw [e1]; simp)
      have hlen : ((turnR done l).map pt).length < 100000 := by
        have : (done ++ y :: rest).length ≤ 1000 := by rw [← e1]; exact htl
        simp only [turnR, List.length_map]
        simp only [List.length_append] at this
        omega
      refine ⟨[some (turn t), some (row l), some (.ref S.length), some (.int y), b], [some (turn t), some (row l), some (.ref S.length), some (.int y), some (pt (l.getD (y.natAbs - 1) 0))], S ++ [.lst ((turnR (done ++ [y]) l).map pt)], rfl, ?_, done ++ [y], rest, _, _, by rw [e1]; simp, rfl, rfl, rfl⟩
      have ea := append_ok (S := S ++ [.lst ((turnR done l).map pt)]) (pt (sgq y (l.getD (y.natAbs - 1) 0))) (get_last S _ []) hlen
      have eo : (turnR (done ++ [y]) l).map pt = (turnR done l).map pt ++ [pt (sgq y (l.getD (y.natAbs - 1) 0))] := by simp [turnR]
      rw [eo]
      rw [set_last] at ea
      by_cases hp : 0 < y
      · have hs : sgq y (l.getD (y.natAbs - 1) 0) = l.getD (y.natAbs - 1) 0 := if_pos hp
        rw [hs] at ea ⊢
        simp only [evE, evEs, evAnd, evOr, evL.eq_1, evL.eq_2, evL.eq_4, evL.eq_5, evL.eq_6, meT, meD, isLr, get_last, evI, evC.eq_1, evC.eq_2, evC.eq_3, evC.eq_4, evC.eq_5, evC.eq_6, evC.eq_7, evC.eq_8, evC.eq_9, evC.eq_10, evC.eq_13, evC.eq_14, evC.eq_15, evC.eq_16, evCs, GG_call, GG_raw, GG_glob, R.ne_ok, R.bd_ok, R.bd_err, R.bd_bad, opt_some, opt_none, R.th, Out.th, PyD.finish, PyD.start, List.map, List.length, List.replicate, List.getD_cons_zero, List.getD_cons_succ, List.set_cons_zero, List.set_cons_succ, List.cons_append, List.nil_append, if_true, if_false, Bool.false_eq_true, E.isNon, Option.map_some, Option.map_none, Option.bind_some, setAll, List.zip_cons_cons, List.zip_nil_left, List.foldl_cons, List.foldl_nil, truthB, cmpEqI, cmpNeI, cmpLt, cmpLe, cmpGt, cmpGe, isNon, binAdd, binSub, Bool.not_true, Bool.not_false, decide_true, decide_false, reduceCtorEq, Nat.reduceAdd, Nat.reduceSub, Nat.sub_self, Nat.sub_zero, Nat.zero_add, ofI, idx0, idx1, idx2, biAbs, biLenT, biLenL, biTupL, biTupT, sz0, sz1, sz2, sz3, sz4, sz5, sz6, sz7, sz8, abs_nat, row_at _ l y hy.1 hy.2, decT hp, ea]
      · have hs : sgq y (l.getD (y.natAbs - 1) 0) = -l.getD (y.natAbs - 1) 0 := by rw [sgq, if_neg hp, if_pos (by omega)]
        rw [hs] at ea ⊢
        simp only [evE, evEs, evAnd, evOr, evL.eq_1, evL.eq_2, evL.eq_4, evL.eq_5, evL.eq_6, meT, meD, isLr, get_last, evI, evC.eq_1, evC.eq_2, evC.eq_3, evC.eq_4, evC.eq_5, evC.eq_6, evC.eq_7, evC.eq_8, evC.eq_9, evC.eq_10, evC.eq_13, evC.eq_14, evC.eq_15, evC.eq_16, evCs, GG_call, GG_raw, GG_glob, R.ne_ok, R.bd_ok, R.bd_err, R.bd_bad, opt_some, opt_none, R.th, Out.th, PyD.finish, PyD.start, List.map, List.length, List.replicate, List.getD_cons_zero, List.getD_cons_succ, List.set_cons_zero, List.set_cons_succ, List.cons_append, List.nil_append, if_true, if_false, Bool.false_eq_true, E.isNon, Option.map_some, Option.map_none, Option.bind_some, setAll, List.zip_cons_cons, List.zip_nil_left, List.foldl_cons, List.foldl_nil, truthB, cmpEqI, cmpNeI, cmpLt, cmpLe, cmpGt, cmpGe, isNon, binAdd, binSub, Bool.not_true, Bool.not_false, decide_true, decide_false, reduceCtorEq, Nat.reduceAdd, Nat.reduceSub, Nat.sub_self, Nat.sub_zero, Nat.zero_add, ofI, idx0, idx1, idx2, biAbs, biLenT, biLenL, biTupL, biTupT, sz0, sz1, sz2, sz3, sz4, sz5, sz6, sz7, sz8, abs_nat, row_at _ l y hy.1 hy.2, decF hp, turned_about_sp h _ _ k (by omega), ea]
  obtain ⟨ρ2, S2, hev, done, rest, a, b, e1, e2, rfl, rfl⟩ := hf
  have : rest = [] := by cases rest with | nil => rfl | cons y r => cases e2
  subst this
  rw [List.append_nil] at e1
  subst e1
  simp only [c_row_turned, evE, evEs, evAnd, evOr, evL.eq_1, evL.eq_2, evL.eq_4, evL.eq_5, evL.eq_6, meT, meD, isLr, get_last, evI, evC.eq_1, evC.eq_2, evC.eq_3, evC.eq_4, evC.eq_5, evC.eq_6, evC.eq_7, evC.eq_8, evC.eq_9, evC.eq_10, evC.eq_13, evC.eq_14, evC.eq_15, evC.eq_16, evCs, GG_call, GG_raw, GG_glob, R.ne_ok, R.bd_ok, R.bd_err, R.bd_bad, opt_some, opt_none, R.th, Out.th, PyD.finish, PyD.start, List.map, List.length, List.replicate, List.getD_cons_zero, List.getD_cons_succ, List.set_cons_zero, List.set_cons_succ, List.cons_append, List.nil_append, if_true, if_false, Bool.false_eq_true, E.isNon, Option.map_some, Option.map_none, Option.bind_some, setAll, List.zip_cons_cons, List.zip_nil_left, List.foldl_cons, List.foldl_nil, truthB, cmpEqI, cmpNeI, cmpLt, cmpLe, cmpGt, cmpGe, isNon, binAdd, binSub, Bool.not_true, Bool.not_false, decide_true, decide_false, reduceCtorEq, Nat.reduceAdd, Nat.reduceSub, Nat.sub_self, Nat.sub_zero, Nat.zero_add, ofI, idx0, idx1, idx2, biAbs, biLenT, biLenL, biTupL, biTupT, sz0, sz1, sz2, sz3, sz4, sz5, sz6, sz7, sz8, hev, biTupR (S ++ [.lst ((turnR t l).map pt)]) (get_last S _ [])]
  exact leave_ok (row_nice (turnR t l)) (Nat.lt_of_le_of_lt (row_dep (turnR t l)) (by omega)) hS
end CA

namespace CA
open PySem PyD
variable {T : Str → Option Fn} {gl : Str → Option D}
theorem both_turns_sp (h : Has T gl) (S : Store) (a b : List Int) (hb : InT b a.length) (hl : b.length ≤ 1000) (k : Nat) (hk : 2 ≤ k) : callN T gl k "both_turns" [turn a, turn b] S = .ok (turn (bothT a b)) S := by
  obtain ⟨k, rfl⟩ : ∃ q, k = q + 1 := ⟨k - 1, by omega⟩
  rw [call_both_turns h]
  have hc : evL (GG T gl k) [some (turn a), some (turn b), none] (.comp [("number", 2)] (.one 2) (.seq (.var 1)) .nil (.ite (.cmp .gt (.var 2) (.int 0)) (.idx (.var 0) (.bin .sub (.bi .abs (.var 2)) (.int 1))) (.bin .sub (.int 0) (.idx (.var 0) (.bin .sub (.bi .abs (.var 2)) (.int 1)))))) S = .ok (b.map fun x => .int (sgi x (a.getD (x.natAbs - 1) 0))) S := by
    refine l_map2 (src := []) b D.int _ (by simp only [evE, evEs, evAnd, evOr, evL.eq_1, evL.eq_2, evL.eq_4, evL.eq_5, evL.eq_6, meT, meD, isLr, get_last, evI, evC.eq_1, evC.eq_2, evC.eq_3, evC.eq_4, evC.eq_5, evC.eq_6, evC.eq_7, evC.eq_8, evC.eq_9, evC.eq_10, evC.eq_13, evC.eq_14, evC.eq_15, evC.eq_16, evCs, GG_call, GG_raw, GG_glob, R.ne_ok, R.bd_ok, R.bd_err, R.bd_bad, opt_some, opt_none, R.th, Out.th, PyD.finish, PyD.start, List.map, List.length, List.replicate, List.getD_cons_zero, List.getD_cons_succ, List.set_cons_zero, List.set_cons_succ, List.cons_append, List.nil_append, if_true, if_false, Bool.false_eq_true, E.isNon, Option.map_some, Option.map_none, Option.bind_some, setAll, List.zip_cons_cons, List.zip_nil_left, List.foldl_cons, List.foldl_nil, truthB, cmpEqI, cmpNeI, cmpLt, cmpLe, cmpGt, cmpGe, isNon, binAdd, binSub, Bool.not_true, Bool.not_false, decide_true, decide_false, reduceCtorEq, Nat.reduceAdd, Nat.reduceSub, Nat.sub_self, Nat.sub_zero, Nat.zero_add, ofI, idx0, idx1, idx2, biAbs, biLenT, biLenL, biTupL, biTupT, sz0, sz1, sz2, sz3, sz4, sz5, sz6, sz7, sz8, seqTurn]) (still_nil _ _) (by omega) fun x hx => ⟨[some (turn a), some (turn b), some (.int x)], rfl, ?_⟩
    have hy := hb x hx
    by_cases hp : 0 < x
    · rw [show sgi x (a.getD (x.natAbs - 1) 0) = a.getD (x.natAbs - 1) 0 from if_pos hp]
      simp only [evE, evEs, evAnd, evOr, evL.eq_1, evL.eq_2, evL.eq_4, evL.eq_5, evL.eq_6, meT, meD, isLr, get_last, evI, evC.eq_1, evC.eq_2, evC.eq_3, evC.eq_4, evC.eq_5, evC.eq_6, evC.eq_7, evC.eq_8, evC.eq_9, evC.eq_10, evC.eq_13, evC.eq_14, evC.eq_15, evC.eq_16, evCs, GG_call, GG_raw, GG_glob, R.ne_ok, R.bd_ok, R.bd_err, R.bd_bad, opt_some, opt_none, R.th, Out.th, PyD.finish, PyD.start, List.map, List.length, List.replicate, List.getD_cons_zero, List.getD_cons_succ, List.set_cons_zero, List.set_cons_succ, List.cons_append, List.nil_append, if_true, if_false, Bool.false_eq_true, E.isNon, Option.map_some, Option.map_none, Option.bind_some, setAll, List.zip_cons_cons, List.zip_nil_left, List.foldl_cons, List.foldl_nil, truthB, cmpEqI, cmpNeI, cmpLt, cmpLe, cmpGt, cmpGe, isNon, binAdd, binSub, Bool.not_true, Bool.not_false, decide_true, decide_false, reduceCtorEq, Nat.reduceAdd, Nat.reduceSub, Nat.sub_self, Nat.sub_zero, Nat.zero_add, ofI, idx0, idx1, idx2, biAbs, biLenT, biLenL, biTupL, biTupT, sz0, sz1, sz2, sz3, sz4, sz5, sz6, sz7, sz8, abs_nat, turn_at S a x hy.1 hy.2, decT hp]
    · rw [show sgi x (a.getD (x.natAbs - 1) 0) = -a.getD (x.natAbs - 1) 0 by rw [sgi, if_neg hp, if_pos (show x < 0 by omega)]]
      simp only [evE, evEs, evAnd, evOr, evL.eq_1, evL.eq_2, evL.eq_4, evL.eq_5, evL.eq_6, meT, meD, isLr, get_last, evI, evC.eq_1, evC.eq_2, evC.eq_3, evC.eq_4, evC.eq_5, evC.eq_6, evC.eq_7, evC.eq_8, evC.eq_9, evC.eq_10, evC.eq_13, evC.eq_14, evC.eq_15, evC.eq_16, evCs, GG_call, GG_raw, GG_glob, R.ne_ok, R.bd_ok, R.bd_err, R.bd_bad, opt_some, opt_none, R.th, Out.th, PyD.finish, PyD.start, List.map, List.length, List.replicate, List.getD_cons_zero, List.getD_cons_succ, List.set_cons_zero, List.set_cons_succ, List.cons_append, List.nil_append, if_true, if_false, Bool.false_eq_true, E.isNon, Option.map_some, Option.map_none, Option.bind_some, setAll, List.zip_cons_cons, List.zip_nil_left, List.foldl_cons, List.foldl_nil, truthB, cmpEqI, cmpNeI, cmpLt, cmpLe, cmpGt, cmpGe, isNon, binAdd, binSub, Bool.not_true, Bool.not_false, decide_true, decide_false, reduceCtorEq, Nat.reduceAdd, Nat.reduceSub, Nat.sub_self, Nat.sub_zero, Nat.zero_add, ofI, idx0, idx1, idx2, biAbs, biLenT, biLenL, biTupL, biTupT, sz0, sz1, sz2, sz3, sz4, sz5, sz6, sz7, sz8, abs_nat, turn_at S a x hy.1 hy.2, decF hp, Int.zero_sub]
  simp only [c_both_turns, evE, evEs, evAnd, evOr, evL.eq_1, evL.eq_2, evL.eq_4, evL.eq_5, evL.eq_6, meT, meD, isLr, get_last, evI, evC.eq_1, evC.eq_2, evC.eq_3, evC.eq_4, evC.eq_5, evC.eq_6, evC.eq_7, evC.eq_8, evC.eq_9, evC.eq_10, evC.eq_13, evC.eq_14, evC.eq_15, evC.eq_16, evCs, GG_call, GG_raw, GG_glob, R.ne_ok, R.bd_ok, R.bd_err, R.bd_bad, opt_some, opt_none, R.th, Out.th, PyD.finish, PyD.start, List.map, List.length, List.replicate, List.getD_cons_zero, List.getD_cons_succ, List.set_cons_zero, List.set_cons_succ, List.cons_append, List.nil_append, if_true, if_false, Bool.false_eq_true, E.isNon, Option.map_some, Option.map_none, Option.bind_some, setAll, List.zip_cons_cons, List.zip_nil_left, List.foldl_cons, List.foldl_nil, truthB, cmpEqI, cmpNeI, cmpLt, cmpLe, cmpGt, cmpGe, isNon, binAdd, binSub, Bool.not_true, Bool.not_false, decide_true, decide_false, reduceCtorEq, Nat.reduceAdd, Nat.reduceSub, Nat.sub_self, Nat.sub_zero, Nat.zero_add, ofI, idx0, idx1, idx2, biAbs, biLenT, biLenL, biTupL, biTupT, sz0, sz1, sz2, sz3, sz4, sz5, sz6, sz7, sz8, hc]
  simp only [turn, bothT, List.map_map]; rfl
def goB : Nat → List Int → List Int → List Int
  | _, [], f => f
  | i, x :: xs, f => goB (i + 1) xs (f.set (x.natAbs - 1) (if 0 < x then i + 1 else -i - 1))
def tback (t : List Int) : List Int := goB 0 t t
theorem turn_back_sp (h : Has T gl) (S : Store) (hS : Clo S) (t : List Int) (ht : InT t t.length) (htl : t.length ≤ 1000) (k : Nat) (hk : 1 ≤ k) : callN T gl k "turn_back" [turn t] S = .ok (turn (tback t)) S := by
  obtain ⟨k, rfl⟩ : ∃ q, k = q + 1 := ⟨k - 1, by omega⟩
  rw [call_turn_back h]
  have hf := f_inv (g := GG T gl k) (tg := .many [2, 3]) (it := .enum (.var 0)) (a := (.cons (.six (.var 1) (.bin .sub (.bi .abs (.var 3)) (.int 1)) (.ite (.cmp .gt (.var 3) (.int 0)) (.bin .add (.var 2) (.int 1)) (.bin .sub (.bin .sub (.int 0) (.var 2)) (.int 1)))) .nil))
    (ρ := [some (turn t), some (.ref S.length), none, none]) (S := S ++ [.lst (t.map .int)]) (S1 := S ++ [.lst (t.map .int)]) (t := ⟨enumAt 0 (t.map .int), []⟩)
    (fun xs ρ S' => ∃ i rest f a b, xs = enumAt i (rest.map .int) ∧ goB i rest f = tback t ∧ f.length = t.length ∧ (∀ x ∈ rest, x ∈ t) ∧ ρ = [some (turn t), some (.ref S.length), a, b] ∧ S' = S ++ [.lst (f.map .int)])
    (by simp only [evE, evEs, evAnd, evOr, evL.eq_1, evL.eq_2, evL.eq_4, evL.eq_5, evL.eq_6, meT, meD, isLr, get_last, evI, evC.eq_1, evC.eq_2, evC.eq_3, evC.eq_4, evC.eq_5, evC.eq_6, evC.eq_7, evC.eq_8, evC.eq_9, evC.eq_10, evC.eq_13, evC.eq_14, evC.eq_15, evC.eq_16, evCs, GG_call, GG_raw, GG_glob, R.ne_ok, R.bd_ok, R.bd_err, R.bd_bad, opt_some, opt_none, R.th, Out.th, PyD.finish, PyD.start, List.map, List.length, List.replicate, List.getD_cons_zero, List.getD_cons_succ, List.set_cons_zero, List.set_cons_succ, List.cons_append, List.nil_append, if_true, if_false, Bool.false_eq_true, E.isNon, Option.map_some, Option.map_none, Option.bind_some, setAll, List.zip_cons_cons, List.zip_nil_left, List.foldl_cons, List.foldl_nil, truthB, cmpEqI, cmpNeI, cmpLt, cmpLe, cmpGt, cmpGe, isNon, binAdd, binSub, Bool.not_true, Bool.not_false, decide_true, decide_false, reduceCtorEq, Nat.reduceAdd, Nat.reduceSub, Nat.sub_self, Nat.sub_zero, Nat.zero_add, ofI, idx0, idx1, idx2, biAbs, biLenT, biLenL, biTupL, biTupT, sz0, sz1, sz2, sz3, sz4, sz5, sz6, sz7, sz8, seqTurn]) (fun _ _ _ _ => still_nil _ _) ?step ⟨0, t, t, none, none, rfl, rfl, rfl, fun _ h => h, rfl, rfl⟩
  case step =>
    rintro x xs ρ S' ⟨i, rest, f, a, b, e1, e2, hl, hm, rfl, rfl⟩
    cases rest with
    | nil => cases e1
    | cons y rest =>
      cases e1
      have hy := ht y (hm y List.mem_cons_self)
      refine ⟨[some (turn t), some (.ref S.length), some (.int (i : Nat)), some (.int y)], [some (turn t), some (.ref S.length), some (.int (i : Nat)), some (.int y)], S ++ [.lst ((f.set (y.natAbs - 1) (if 0 < y then i + 1 else -i - 1)).map .int)], ?_, ?_, i + 1, rest, _, _, _, rfl, e2, by rw [List.length_set, hl], fun x hx => hm x (List.mem_cons_of_mem _ hx), rfl, rfl⟩
      · exact need_of (by rfl)
      · have hix : L2.ixN (f.map D.int).length ((y.natAbs : Int) - 1) = some (y.natAbs - 1) := by
          rw [ixN_of (by omega) (by rw [List.length_map]; omega)]; congr 1; omega
        have es : (S ++ [O.lst (f.map D.int)]).set S.length (.lst ((f.map D.int).set (y.natAbs - 1) (.int (if 0 < y then i + 1 else -i - 1)))) = S ++ [.lst ((f.set (y.natAbs - 1) (if 0 < y then i + 1 else -i - 1)).map .int)] := by rw [set_last, List.map_set]
        rw [← es]
        by_cases hp : 0 < y
        · simp only [evE, evEs, evAnd, evOr, evL.eq_1, evL.eq_2, evL.eq_4, evL.eq_5, evL.eq_6, meT, meD, isLr, get_last, evI, evC.eq_1, evC.eq_2, evC.eq_3, evC.eq_4, evC.eq_5, evC.eq_6, evC.eq_7, evC.eq_8, evC.eq_9, evC.eq_10, evC.eq_13, evC.eq_14, evC.eq_15, evC.eq_16, evCs, GG_call, GG_raw, GG_glob, R.ne_ok, R.bd_ok, R.bd_err, R.bd_bad, opt_some, opt_none, R.th, Out.th, PyD.finish, PyD.start, List.map, List.length, List.replicate, List.getD_cons_zero, List.getD_cons_succ, List.set_cons_zero, List.set_cons_succ, List.cons_append, List.nil_append, if_true, if_false, Bool.false_eq_true, E.isNon, Option.map_some, Option.map_none, Option.bind_some, setAll, List.zip_cons_cons, List.zip_nil_left, List.foldl_cons, List.foldl_nil, truthB, cmpEqI, cmpNeI, cmpLt, cmpLe, cmpGt, cmpGe, isNon, binAdd, binSub, Bool.not_true, Bool.not_false, decide_true, decide_false, reduceCtorEq, Nat.reduceAdd, Nat.reduceSub, Nat.sub_self, Nat.sub_zero, Nat.zero_add, ofI, idx0, idx1, idx2, biAbs, biLenT, biLenL, biTupL, biTupT, sz0, sz1, sz2, sz3, sz4, sz5, sz6, sz7, sz8, abs_nat, decT hp, get_last, hix, if_pos hp]
        · simp only [evE, evEs, evAnd, evOr, evL.eq_1, evL.eq_2, evL.eq_4, evL.eq_5, evL.eq_6, meT, meD, isLr, get_last, evI, evC.eq_1, evC.eq_2, evC.eq_3, evC.eq_4, evC.eq_5, evC.eq_6, evC.eq_7, evC.eq_8, evC.eq_9, evC.eq_10, evC.eq_13, evC.eq_14, evC.eq_15, evC.eq_16, evCs, GG_call, GG_raw, GG_glob, R.ne_ok, R.bd_ok, R.bd_err, R.bd_bad, opt_some, opt_none, R.th, Out.th, PyD.finish, PyD.start, List.map, List.length, List.replicate, List.getD_cons_zero, List.getD_cons_succ, List.set_cons_zero, List.set_cons_succ, List.cons_append, List.nil_append, if_true, if_false, Bool.false_eq_true, E.isNon, Option.map_some, Option.map_none, Option.bind_some, setAll, List.zip_cons_cons, List.zip_nil_left, List.foldl_cons, List.foldl_nil, truthB, cmpEqI, cmpNeI, cmpLt, cmpLe, cmpGt, cmpGe, isNon, binAdd, binSub, Bool.not_true, Bool.not_false, decide_true, decide_false, reduceCtorEq, Nat.reduceAdd, Nat.reduceSub, Nat.sub_self, Nat.sub_zero, Nat.zero_add, ofI, idx0, idx1, idx2, biAbs, biLenT, biLenL, biTupL, biTupT, sz0, sz1, sz2, sz3, sz4, sz5, sz6, sz7, sz8, abs_nat, decF hp, get_last, hix, if_neg hp, Int.zero_sub]
  obtain ⟨ρ2, S2, hev, i, rest, f, a, b, e1, e2, hl, hm, rfl, rfl⟩ := hf
  have : rest = [] := by cases rest with | nil => rfl | cons y r => cases e1
  subst this
  have e3 : f = tback t := e2
  subst e3
  have hlst : seqOf S (turn t) = some (t.map .int) := rfl
  simp only [c_turn_back, evE, evEs, evAnd, evOr, evL.eq_1, evL.eq_2, evL.eq_4, evL.eq_5, evL.eq_6, meT, meD, isLr, get_last, evI, evC.eq_1, evC.eq_2, evC.eq_3, evC.eq_4, evC.eq_5, evC.eq_6, evC.eq_7, evC.eq_8, evC.eq_9, evC.eq_10, evC.eq_13, evC.eq_14, evC.eq_15, evC.eq_16, evCs, GG_call, GG_raw, GG_glob, R.ne_ok, R.bd_ok, R.bd_err, R.bd_bad, opt_some, opt_none, R.th, Out.th, PyD.finish, PyD.start, List.map, List.length, List.replicate, List.getD_cons_zero, List.getD_cons_succ, List.set_cons_zero, List.set_cons_succ, List.cons_append, List.nil_append, if_true, if_false, Bool.false_eq_true, E.isNon, Option.map_some, Option.map_none, Option.bind_some, setAll, List.zip_cons_cons, List.zip_nil_left, List.foldl_cons, List.foldl_nil, truthB, cmpEqI, cmpNeI, cmpLt, cmpLe, cmpGt, cmpGe, isNon, binAdd, binSub, Bool.not_true, Bool.not_false, decide_true, decide_false, reduceCtorEq, Nat.reduceAdd, Nat.reduceSub, Nat.sub_self, Nat.sub_zero, Nat.zero_add, ofI, idx0, idx1, idx2, biAbs, biLenT, biLenL, biTupL, biTupT, sz0, sz1, sz2, sz3, sz4, sz5, sz6, sz7, sz8, hlst, hev, biTupR (S ++ [.lst ((tback t).map D.int)]) (get_last S _ [])]
  exact leave_ok (turn_nice (tback t)) (Nat.lt_of_le_of_lt (turn_dep (tback t)) (by omega)) hS
def sgns : List Int → List (List Int)
  | [] => [[]]
  | x :: xs => (sgns xs).flatMap fun r => [x :: r, (-x) :: r]
def allT : Nat → List (List Int)
  | 1 => sgns [1]
  | 2 => sgns [1, 2] ++ sgns [2, 1]
  | 3 => sgns [1, 2, 3] ++ sgns [1, 3, 2] ++ sgns [2, 1, 3] ++ sgns [2, 3, 1] ++ sgns [3, 1, 2] ++ sgns [3, 2, 1]
  | _ => []
def idT (n : Nat) : List Int := (List.range n).map fun k => 1 + (k : Nat)
theorem allT_n {n : Nat} {t : List Int} (h : t ∈ allT n) : n = 1 ∨ n = 2 ∨ n = 3 := by
  match n, h with
  | 1, _ => exact .inl rfl
  | 2, _ => exact .inr (.inl rfl)
  | 3, _ => exact .inr (.inr rfl)
theorem allT_len {n : Nat} {t : List Int} (h : t ∈ allT n) : t.length = n := by
  rcases allT_n h with rfl | rfl | rfl
  · revert t; decide +kernel
  · revert t; decide +kernel
  · revert t; decide +kernel
def inT (t : List Int) (n : Nat) : Bool := t.all fun x => x != 0 && decide (x.natAbs ≤ n)
theorem allT_in {n : Nat} {t : List Int} (h : t ∈ allT n) : InT t n := by
  have : inT t n = true := by
    rcases allT_n h with rfl | rfl | rfl
    · revert t; decide +kernel
    · revert t; decide +kernel
    · revert t; decide +kernel
  unfold inT at this
  rw [List.all_eq_true] at this
  intro x hx
  have := this x hx
  simp at this
  exact this
theorem allT_perm {n : Nat} {t : List Int} (h : t ∈ allT n) : ((t.map fun x => (x.natAbs : Int)).isPerm (idT n)) = true := by
  rcases allT_n h with rfl | rfl | rfl
  · revert t; decide +kernel
  · revert t; decide +kernel
  · revert t; decide +kernel
theorem allT_back {n : Nat} {t : List Int} (h : t ∈ allT n) : tback t ∈ allT n ∧ bothT t (tback t) = idT n ∧ bothT (tback t) t = idT n ∧ tback (tback t) = t := by
  rcases allT_n h with rfl | rfl | rfl
  · revert t; decide +kernel
  · revert t; decide +kernel
  · revert t; decide +kernel
theorem allT_both {n : Nat} {a b : List Int} (ha : a ∈ allT n) (hb : b ∈ allT n) : bothT a b ∈ allT n := by
  have h : ∀ n ∈ [1, 2, 3], ∀ a ∈ allT n, ∀ b ∈ allT n, bothT a b ∈ allT n := by decide +kernel
  exact h n (by rcases allT_n ha with rfl | rfl | rfl <;> decide) a ha b hb
theorem insSort_of {l m : List Int} (h : l.Perm m) (hm : m.Pairwise (· ≤ ·)) : insSort l = m := by
  unfold insSort
  have h1 : (l.mergeSort (· ≤ ·)).Perm m := (List.mergeSort_perm _ _).trans h
  have h2 : (l.mergeSort (· ≤ ·)).Pairwise (· ≤ ·) := by
    have := List.pairwise_mergeSort (le := fun a b : Int => decide (a ≤ b)) (fun a b c h1 h2 => by simp at *; omega) (fun a b => by simp; omega) l
    simpa using this
  exact h1.eq_of_pairwise (fun a b _ _ h1 h2 => Int.le_antisymm h1 h2) h2 hm
end CA

namespace CA
open PySem PyD
variable {T : Str → Option Fn} {gl : Str → Option D}
theorem idT_sorted (n : Nat) : (idT n).Pairwise (· ≤ ·) := by
  unfold idT
  rw [List.pairwise_map]
  exact (List.pairwise_lt_range).imp fun h => by omega
theorem upTo_idT (n : Nat) : PyD.upTo 1 n = (idT n).map .int := by
  unfold PyD.upTo idT
  rw [List.map_map]; rfl
theorem rng_one (n : Nat) (h : n ≤ 1000) : rngD [.int 1, .int ((n : Int) + 1)] = some (1, n) := by
  simp only [rngD]
  rw [need_of (by omega)]
  congr 2
  omega
theorem ints_nice (l : List Int) : (D.lst (l.map .int)).nice = true := nices_of fun x hx => by
  obtain ⟨q, _, rfl⟩ := List.mem_map.1 hx; rfl
theorem ints_dep (l : List Int) : (D.lst (l.map .int)).dep ≤ 64 := by
  have : D.deps (l.map D.int) ≤ 0 := deps_le fun x hx => by
    obtain ⟨q, _, rfl⟩ := List.mem_map.1 hx; exact Nat.le_refl _
  show D.deps _ + 1 ≤ 64
  omega
theorem is_turn_sp (h : Has T gl) (S : Store) {n : Nat} {t : List Int} (ht : t ∈ allT n) (k : Nat) (hk : 1 ≤ k) : callN T gl k "is_turn" [turn t] S = .ok (.bl true) S := by
  obtain ⟨k, rfl⟩ : ∃ q, k = q + 1 := ⟨k - 1, by omega⟩
  rw [call_is_turn h]
  have hl := allT_len ht
  have hn : 1 ≤ n ∧ n ≤ 3 := by rcases allT_n ht with h | h | h <;> omega
  have d1 : decide ((1 : Int) ≤ t.length) = true := decide_eq_true (by omega)
  have d3 : decide ((t.length : Int) ≤ 3) = true := decide_eq_true (by omega)
  have hc : evL (GG T gl k) [some (turn t), none] (.comp [("number", 1)] (.one 1) (.seq (.var 0)) .nil (.bi .abs (.var 1))) S = .ok (t.map fun x => .int x.natAbs) S :=
    l_map2 (src := []) t D.int _ (by simp only [evE, evEs, evAnd, evOr, evL.eq_1, evL.eq_2, evL.eq_4, evL.eq_5, evL.eq_6, meT, meD, isLr, get_last, evI, evC.eq_1, evC.eq_2, evC.eq_3, evC.eq_4, evC.eq_5, evC.eq_6, evC.eq_7, evC.eq_8, evC.eq_9, evC.eq_10, evC.eq_13, evC.eq_14, evC.eq_15, evC.eq_16, evCs, GG_call, GG_raw, GG_glob, R.ne_ok, R.bd_ok, R.bd_err, R.bd_bad, opt_some, opt_none, R.th, Out.th, PyD.finish, PyD.start, List.map, List.length, List.replicate, List.getD_cons_zero, List.getD_cons_succ, List.set_cons_zero, List.set_cons_succ, List.cons_append, List.nil_append, if_true, if_false, Bool.false_eq_true, E.isNon, Option.map_some, Option.map_none, Option.bind_some, setAll, List.zip_cons_cons, List.zip_nil_left, List.foldl_cons, List.foldl_nil, truthB, cmpEqI, cmpNeI, cmpLt, cmpLe, cmpGt, cmpGe, isNon, binAdd, binSub, Bool.not_true, Bool.not_false, decide_true, decide_false, reduceCtorEq, Nat.reduceAdd, Nat.reduceSub, Nat.sub_self, Nat.sub_zero, Nat.zero_add, ofI, idx0, idx1, idx2, biAbs, biLenT, biLenL, biTupL, biTupT, sz0, sz1, sz2, sz3, sz4, sz5, sz6, sz7, sz8, seqTurn]) (still_nil _ _) (by omega) fun x hx => ⟨[some (turn t), some (.int x)], rfl, by simp only [evE, evEs, evAnd, evOr, evL.eq_1, evL.eq_2, evL.eq_4, evL.eq_5, evL.eq_6, meT, meD, isLr, get_last, evI, evC.eq_1, evC.eq_2, evC.eq_3, evC.eq_4, evC.eq_5, evC.eq_6, evC.eq_7, evC.eq_8, evC.eq_9, evC.eq_10, evC.eq_13, evC.eq_14, evC.eq_15, evC.eq_16, evCs, GG_call, GG_raw, GG_glob, R.ne_ok, R.bd_ok, R.bd_err, R.bd_bad, opt_some, opt_none, R.th, Out.th, PyD.finish, PyD.start, List.map, List.length, List.replicate, List.getD_cons_zero, List.getD_cons_succ, List.set_cons_zero, List.set_cons_succ, List.cons_append, List.nil_append, if_true, if_false, Bool.false_eq_true, E.isNon, Option.map_some, Option.map_none, Option.bind_some, setAll, List.zip_cons_cons, List.zip_nil_left, List.foldl_cons, List.foldl_nil, truthB, cmpEqI, cmpNeI, cmpLt, cmpLe, cmpGt, cmpGe, isNon, binAdd, binSub, Bool.not_true, Bool.not_false, decide_true, decide_false, reduceCtorEq, Nat.reduceAdd, Nat.reduceSub, Nat.sub_self, Nat.sub_zero, Nat.zero_add, ofI, idx0, idx1, idx2, biAbs, biLenT, biLenL, biTupL, biTupT, sz0, sz1, sz2, sz3, sz4, sz5, sz6, sz7, sz8, abs_nat]⟩
  have hm : (t.map fun x => D.int x.natAbs) = (t.map fun x => (x.natAbs : Int)).map .int := by rw [List.map_map]; rfl
  have hi : lstOf S (.lst ((t.map fun x => (x.natAbs : Int)).map .int)) = some ((t.map fun x => (x.natAbs : Int)).map .int) := rfl
  have hp : insSort (t.map fun x => (x.natAbs : Int)) = idT n := insSort_of (List.isPerm_iff.1 (allT_perm ht)) (idT_sorted n)
  have hz : PyD.sizeOk n := by show _ ≤ 100000; omega
  have e2 : rngD [.int 1, .int ((t.length : Int) + 1)] = some (1, n) := by rw [hl]; exact rng_one n (by omega)
  simp only [c_is_turn, evE, evEs, evAnd, evOr, evL.eq_1, evL.eq_2, evL.eq_4, evL.eq_5, evL.eq_6, meT, meD, isLr, get_last, evI, evC.eq_1, evC.eq_2, evC.eq_3, evC.eq_4, evC.eq_5, evC.eq_6, evC.eq_7, evC.eq_8, evC.eq_9, evC.eq_10, evC.eq_13, evC.eq_14, evC.eq_15, evC.eq_16, evCs, GG_call, GG_raw, GG_glob, R.ne_ok, R.bd_ok, R.bd_err, R.bd_bad, opt_some, opt_none, R.th, Out.th, PyD.finish, PyD.start, List.map, List.length, List.replicate, List.getD_cons_zero, List.getD_cons_succ, List.set_cons_zero, List.set_cons_succ, List.cons_append, List.nil_append, if_true, if_false, Bool.false_eq_true, E.isNon, Option.map_some, Option.map_none, Option.bind_some, setAll, List.zip_cons_cons, List.zip_nil_left, List.foldl_cons, List.foldl_nil, truthB, cmpEqI, cmpNeI, cmpLt, cmpLe, cmpGt, cmpGe, isNon, binAdd, binSub, Bool.not_true, Bool.not_false, decide_true, decide_false, reduceCtorEq, Nat.reduceAdd, Nat.reduceSub, Nat.sub_self, Nat.sub_zero, Nat.zero_add, ofI, idx0, idx1, idx2, biAbs, biLenT, biLenL, biTupL, biTupT, sz0, sz1, sz2, sz3, sz4, sz5, sz6, sz7, sz8, lenTurn, gl_MOST_AXES h, d1, d3, hc, hm, sortInts, hp, e2, need_of hz, upTo_idT, cmpEqSame S (ints_nice _) (ints_dep _)]
def mot (t : List Int) (s : Rat) (d : List Rat) : D := .tup [turn t, pt s, row d]
def fac (t : List Int) (s : Rat) : D := .tup [turn t, pt s]
theorem mot0 (S : Store) (t s d) : idxD S (mot t s d) (.int 0) = some (turn t) := idx0 _ _ _
theorem mot1 (S : Store) (t s d) : idxD S (mot t s d) (.int 1) = some (pt s) := idx1 _ _ _ _
theorem mot2 (S : Store) (t s d) : idxD S (mot t s d) (.int 2) = some (row d) := idx2 _ _ _ _ _
theorem fac0 (S : Store) (t s) : idxD S (fac t s) (.int 0) = some (turn t) := idx0 _ _ _
theorem fac1 (S : Store) (t s) : idxD S (fac t s) (.int 1) = some (pt s) := idx1 _ _ _ _
theorem mot_sl (S : Store) (t s d) : slD S (mot t s d) none (some 2) = some (fac t s) := rfl
theorem mot_sr (S : Store) (t s d) : slD S (mot t s d) (some 2) none = some (.tup [row d]) := rfl
theorem mot_len (S : Store) (t s d) : biD S .len (mot t s d) = some (.int 3) := rfl
theorem fac_cat (S : Store) (t s d) : bin S .add (fac t s) (.tup [row d]) = some (mot t s d) := binCat S (show 2 + 1 ≤ 100000 by omega)
theorem mot_nice (t s d) : (mot t s d).nice = true := by
  have h1 := turn_nice t
  have h2 := row_nice d
  simp only [mot, D.nice, D.nices, h1, h2, pt_nice, Bool.and_self]
theorem mot_dep (t s d) : (mot t s d).dep ≤ 3 := by
  have h1 := turn_dep t
  have h2 := row_dep d
  simp only [mot, D.dep, D.deps, pt_dep] at *; omega
structure MoOk (n : Nat) (t : List Int) (s : Rat) (d : List Rat) (b : Nat) : Prop where
  ht : t ∈ allT n
  hs : 0 < s
  hd : d.length = n
  bs : Bd s b
  bd : BdR d b
theorem MoOk.mono {n t s d a b} (h : MoOk n t s d a) (hb : a ≤ b) : MoOk n t s d b := ⟨h.ht, h.hs, h.hd, h.bs.mono hb, fun q hq => (h.bd q hq).mono hb⟩
theorem MoOk.n3 {n t s d b} (m : MoOk n t s d b) : 1 ≤ n ∧ n ≤ 3 := by rcases allT_n m.ht with h | h | h <;> omega
theorem is_motion_sp (h : Has T gl) (S : Store) {n t s d b} (m : MoOk n t s d b) (k : Nat) (hk : 4 ≤ k) : callN T gl k "is_motion" [mot t s d] S = .ok (.bl true) S := by
  obtain ⟨k, rfl⟩ : ∃ q, k = q + 1 := ⟨k - 1, by omega⟩
  rw [call_is_motion h]
  have hl := allT_len m.ht
  have hn := m.n3
  have hd := m.hd
  have e : (d.length : Int) = t.length := by omega
  simp only [c_is_motion, evE, evEs, evAnd, evOr, evL.eq_1, evL.eq_2, evL.eq_4, evL.eq_5, evL.eq_6, meT, meD, isLr, get_last, evI, evC.eq_1, evC.eq_2, evC.eq_3, evC.eq_4, evC.eq_5, evC.eq_6, evC.eq_7, evC.eq_8, evC.eq_9, evC.eq_10, evC.eq_13, evC.eq_14, evC.eq_15, evC.eq_16, evCs, GG_call, GG_raw, GG_glob, R.ne_ok, R.bd_ok, R.bd_err, R.bd_bad, opt_some, opt_none, R.th, Out.th, PyD.finish, PyD.start, List.map, List.length, List.replicate, List.getD_cons_zero, List.getD_cons_succ, List.set_cons_zero, List.set_cons_succ, List.cons_append, List.nil_append, if_true, if_false, Bool.false_eq_true, E.isNon, Option.map_some, Option.map_none, Option.bind_some, setAll, List.zip_cons_cons, List.zip_nil_left, List.foldl_cons, List.foldl_nil, truthB, cmpEqI, cmpNeI, cmpLt, cmpLe, cmpGt, cmpGe, isNon, binAdd, binSub, Bool.not_true, Bool.not_false, decide_true, decide_false, reduceCtorEq, Nat.reduceAdd, Nat.reduceSub, Nat.sub_self, Nat.sub_zero, Nat.zero_add, ofI, idx0, idx1, idx2, biAbs, biLenT, biLenL, biTupL, biTupT, sz0, sz1, sz2, sz3, sz4, sz5, sz6, sz7, sz8, mot_len, mot0, mot1, mot2, is_turn_sp h S m.ht k (by omega), is_stretch_sp h S s m.hs k (by omega), is_row_sp h S d (by omega) (by omega) k (by omega), lenTurn, lenRow, decT e]
theorem need_motion_sp (h : Has T gl) (S : Store) {n t s d b} (m : MoOk n t s d b) (k : Nat) (hk : 5 ≤ k) : callN T gl k "need_motion" [mot t s d] S = .ok .non S := by
  obtain ⟨k, rfl⟩ : ∃ q, k = q + 1 := ⟨k - 1, by omega⟩
  rw [call_need_motion h]
  simp only [c_need_motion, evE, evEs, evAnd, evOr, evL.eq_1, evL.eq_2, evL.eq_4, evL.eq_5, evL.eq_6, meT, meD, isLr, get_last, evI, evC.eq_1, evC.eq_2, evC.eq_3, evC.eq_4, evC.eq_5, evC.eq_6, evC.eq_7, evC.eq_8, evC.eq_9, evC.eq_10, evC.eq_13, evC.eq_14, evC.eq_15, evC.eq_16, evCs, GG_call, GG_raw, GG_glob, R.ne_ok, R.bd_ok, R.bd_err, R.bd_bad, opt_some, opt_none, R.th, Out.th, PyD.finish, PyD.start, List.map, List.length, List.replicate, List.getD_cons_zero, List.getD_cons_succ, List.set_cons_zero, List.set_cons_succ, List.cons_append, List.nil_append, if_true, if_false, Bool.false_eq_true, E.isNon, Option.map_some, Option.map_none, Option.bind_some, setAll, List.zip_cons_cons, List.zip_nil_left, List.foldl_cons, List.foldl_nil, truthB, cmpEqI, cmpNeI, cmpLt, cmpLe, cmpGt, cmpGe, isNon, binAdd, binSub, Bool.not_true, Bool.not_false, decide_true, decide_false, reduceCtorEq, Nat.reduceAdd, Nat.reduceSub, Nat.sub_self, Nat.sub_zero, Nat.zero_add, ofI, idx0, idx1, idx2, biAbs, biLenT, biLenL, biTupL, biTupT, sz0, sz1, sz2, sz3, sz4, sz5, sz6, sz7, sz8, is_motion_sp h S m k (by omega)]
def scal (l : List Rat) (s : Rat) : List Rat := l.map (· * s)
def addR (a b : List Rat) : List Rat := (a.zip b).map fun p => p.1 + p.2
def negR (a : List Rat) : List Rat := a.map (- ·)
theorem row_times_sp (h : Has T gl) (S : Store) {l : List Rat} {s : Rat} {a b : Nat} (hl : BdR l a) (hs : Bd s b) (hab : a + b < 8000) (hn : l.length ≤ 1000) (k : Nat) (hk : 4 ≤ k) : callN T gl k "row_times" [row l, pt s] S = .ok (row (scal l s)) S := by
  obtain ⟨k, rfl⟩ : ∃ q, k = q + 1 := ⟨k - 1, by omega⟩
  rw [call_row_times h]
  have hc : evL (GG T gl k) [some (row l), some (pt s), none] (.comp [("one", 2)] (.one 2) (.seq (.var 0)) .nil (.call false "product" (.cons (.var 2) (.cons (.var 1) .nil)))) S = .ok (l.map fun q => pt (q * s)) S :=
    l_map2 (src := []) l pt _ (by simp only [evE, evEs, evAnd, evOr, evL.eq_1, evL.eq_2, evL.eq_4, evL.eq_5, evL.eq_6, meT, meD, isLr, get_last, evI, evC.eq_1, evC.eq_2, evC.eq_3, evC.eq_4, evC.eq_5, evC.eq_6, evC.eq_7, evC.eq_8, evC.eq_9, evC.eq_10, evC.eq_13, evC.eq_14, evC.eq_15, evC.eq_16, evCs, GG_call, GG_raw, GG_glob, R.ne_ok, R.bd_ok, R.bd_err, R.bd_bad, opt_some, opt_none, R.th, Out.th, PyD.finish, PyD.start, List.map, List.length, List.replicate, List.getD_cons_zero, List.getD_cons_succ, List.set_cons_zero, List.set_cons_succ, List.cons_append, List.nil_append, if_true, if_false, Bool.false_eq_true, E.isNon, Option.map_some, Option.map_none, Option.bind_some, setAll, List.zip_cons_cons, List.zip_nil_left, List.foldl_cons, List.foldl_nil, truthB, cmpEqI, cmpNeI, cmpLt, cmpLe, cmpGt, cmpGe, isNon, binAdd, binSub, Bool.not_true, Bool.not_false, decide_true, decide_false, reduceCtorEq, Nat.reduceAdd, Nat.reduceSub, Nat.sub_self, Nat.sub_zero, Nat.zero_add, ofI, idx0, idx1, idx2, biAbs, biLenT, biLenL, biTupL, biTupT, sz0, sz1, sz2, sz3, sz4, sz5, sz6, sz7, sz8, seqRow]) (still_nil _ _) (by omega) fun x hx => ⟨[some (row l), some (pt s), some (pt x)], rfl, by simp only [evE, evEs, evAnd, evOr, evL.eq_1, evL.eq_2, evL.eq_4, evL.eq_5, evL.eq_6, meT, meD, isLr, get_last, evI, evC.eq_1, evC.eq_2, evC.eq_3, evC.eq_4, evC.eq_5, evC.eq_6, evC.eq_7, evC.eq_8, evC.eq_9, evC.eq_10, evC.eq_13, evC.eq_14, evC.eq_15, evC.eq_16, evCs, GG_call, GG_raw, GG_glob, R.ne_ok, R.bd_ok, R.bd_err, R.bd_bad, opt_some, opt_none, R.th, Out.th, PyD.finish, PyD.start, List.map, List.length, List.replicate, List.getD_cons_zero, List.getD_cons_succ, List.set_cons_zero, List.set_cons_succ, List.cons_append, List.nil_append, if_true, if_false, Bool.false_eq_true, E.isNon, Option.map_some, Option.map_none, Option.bind_some, setAll, List.zip_cons_cons, List.zip_nil_left, List.foldl_cons, List.foldl_nil, truthB, cmpEqI, cmpNeI, cmpLt, cmpLe, cmpGt, cmpGe, isNon, binAdd, binSub, Bool.not_true, Bool.not_false, decide_true, decide_false, reduceCtorEq, Nat.reduceAdd, Nat.reduceSub, Nat.sub_self, Nat.sub_zero, Nat.zero_add, ofI, idx0, idx1, idx2, biAbs, biLenT, biLenL, biTupL, biTupT, sz0, sz1, sz2, sz3, sz4, sz5, sz6, sz7, sz8, product_sp h S (hl x hx) hs hab k (by omega)]⟩
  simp only [c_row_times, evE, evEs, evAnd, evOr, evL.eq_1, evL.eq_2, evL.eq_4, evL.eq_5, evL.eq_6, meT, meD, isLr, get_last, evI, evC.eq_1, evC.eq_2, evC.eq_3, evC.eq_4, evC.eq_5, evC.eq_6, evC.eq_7, evC.eq_8, evC.eq_9, evC.eq_10, evC.eq_13, evC.eq_14, evC.eq_15, evC.eq_16, evCs, GG_call, GG_raw, GG_glob, R.ne_ok, R.bd_ok, R.bd_err, R.bd_bad, opt_some, opt_none, R.th, Out.th, PyD.finish, PyD.start, List.map, List.length, List.replicate, List.getD_cons_zero, List.getD_cons_succ, List.set_cons_zero, List.set_cons_succ, List.cons_append, List.nil_append, if_true, if_false, Bool.false_eq_true, E.isNon, Option.map_some, Option.map_none, Option.bind_some, setAll, List.zip_cons_cons, List.zip_nil_left, List.foldl_cons, List.foldl_nil, truthB, cmpEqI, cmpNeI, cmpLt, cmpLe, cmpGt, cmpGe, isNon, binAdd, binSub, Bool.not_true, Bool.not_false, decide_true, decide_false, reduceCtorEq, Nat.reduceAdd, Nat.reduceSub, Nat.sub_self, Nat.sub_zero, Nat.zero_add, ofI, idx0, idx1, idx2, biAbs, biLenT, biLenL, biTupL, biTupT, sz0, sz1, sz2, sz3, sz4, sz5, sz6, sz7, sz8, hc]
  simp only [row, scal, List.map_map]; rfl
theorem row_back_sp (h : Has T gl) (S : Store) (l : List Rat) (hn : l.length ≤ 1000) (k : Nat) (hk : 2 ≤ k) : callN T gl k "row_back" [row l] S = .ok (row (negR l)) S := by
  obtain ⟨k, rfl⟩ : ∃ q, k = q + 1 := ⟨k - 1, by omega⟩
  rw [call_row_back h]
  have hc : evL (GG T gl k) [some (row l), none] (.comp [("one", 1)] (.one 1) (.seq (.var 0)) .nil (.call false "turned_about" (.cons (.var 1) .nil))) S = .ok (l.map fun q => pt (-q)) S :=
    l_map2 (src := []) l pt _ (by simp only [evE, evEs, evAnd, evOr, evL.eq_1, evL.eq_2, evL.eq_4, evL.eq_5, evL.eq_6, meT, meD, isLr, get_last, evI, evC.eq_1, evC.eq_2, evC.eq_3, evC.eq_4, evC.eq_5, evC.eq_6, evC.eq_7, evC.eq_8, evC.eq_9, evC.eq_10, evC.eq_13, evC.eq_14, evC.eq_15, evC.eq_16, evCs, GG_call, GG_raw, GG_glob, R.ne_ok, R.bd_ok, R.bd_err, R.bd_bad, opt_some, opt_none, R.th, Out.th, PyD.finish, PyD.start, List.map, List.length, List.replicate, List.getD_cons_zero, List.getD_cons_succ, List.set_cons_zero, List.set_cons_succ, List.cons_append, List.nil_append, if_true, if_false, Bool.false_eq_true, E.isNon, Option.map_some, Option.map_none, Option.bind_some, setAll, List.zip_cons_cons, List.zip_nil_left, List.foldl_cons, List.foldl_nil, truthB, cmpEqI, cmpNeI, cmpLt, cmpLe, cmpGt, cmpGe, isNon, binAdd, binSub, Bool.not_true, Bool.not_false, decide_true, decide_false, reduceCtorEq, Nat.reduceAdd, Nat.reduceSub, Nat.sub_self, Nat.sub_zero, Nat.zero_add, ofI, idx0, idx1, idx2, biAbs, biLenT, biLenL, biTupL, biTupT, sz0, sz1, sz2, sz3, sz4, sz5, sz6, sz7, sz8, seqRow]) (still_nil _ _) (by omega) fun x hx => ⟨[some (row l), some (pt x)], rfl, by simp only [evE, evEs, evAnd, evOr, evL.eq_1, evL.eq_2, evL.eq_4, evL.eq_5, evL.eq_6, meT, meD, isLr, get_last, evI, evC.eq_1, evC.eq_2, evC.eq_3, evC.eq_4, evC.eq_5, evC.eq_6, evC.eq_7, evC.eq_8, evC.eq_9, evC.eq_10, evC.eq_13, evC.eq_14, evC.eq_15, evC.eq_16, evCs, GG_call, GG_raw, GG_glob, R.ne_ok, R.bd_ok, R.bd_err, R.bd_bad, opt_some, opt_none, R.th, Out.th, PyD.finish, PyD.start, List.map, List.length, List.replicate, List.getD_cons_zero, List.getD_cons_succ, List.set_cons_zero, List.set_cons_succ, List.cons_append, List.nil_append, if_true, if_false, Bool.false_eq_true, E.isNon, Option.map_some, Option.map_none, Option.bind_some, setAll, List.zip_cons_cons, List.zip_nil_left, List.foldl_cons, List.foldl_nil, truthB, cmpEqI, cmpNeI, cmpLt, cmpLe, cmpGt, cmpGe, isNon, binAdd, binSub, Bool.not_true, Bool.not_false, decide_true, decide_false, reduceCtorEq, Nat.reduceAdd, Nat.reduceSub, Nat.sub_self, Nat.sub_zero, Nat.zero_add, ofI, idx0, idx1, idx2, biAbs, biLenT, biLenL, biTupL, biTupT, sz0, sz1, sz2, sz3, sz4, sz5, sz6, sz7, sz8, turned_about_sp h S x k (by omega)]⟩
  simp only [c_row_back, evE, evEs, evAnd, evOr, evL.eq_1, evL.eq_2, evL.eq_4, evL.eq_5, evL.eq_6, meT, meD, isLr, get_last, evI, evC.eq_1, evC.eq_2, evC.eq_3, evC.eq_4, evC.eq_5, evC.eq_6, evC.eq_7, evC.eq_8, evC.eq_9, evC.eq_10, evC.eq_13, evC.eq_14, evC.eq_15, evC.eq_16, evCs, GG_call, GG_raw, GG_glob, R.ne_ok, R.bd_ok, R.bd_err, R.bd_bad, opt_some, opt_none, R.th, Out.th, PyD.finish, PyD.start, List.map, List.length, List.replicate, List.getD_cons_zero, List.getD_cons_succ, List.set_cons_zero, List.set_cons_succ, List.cons_append, List.nil_append, if_true, if_false, Bool.false_eq_true, E.isNon, Option.map_some, Option.map_none, Option.bind_some, setAll, List.zip_cons_cons, List.zip_nil_left, List.foldl_cons, List.foldl_nil, truthB, cmpEqI, cmpNeI, cmpLt, cmpLe, cmpGt, cmpGe, isNon, binAdd, binSub, Bool.not_true, Bool.not_false, decide_true, decide_false, reduceCtorEq, Nat.reduceAdd, Nat.reduceSub, Nat.sub_self, Nat.sub_zero, Nat.zero_add, ofI, idx0, idx1, idx2, biAbs, biLenT, biLenL, biTupL, biTupT, sz0, sz1, sz2, sz3, sz4, sz5, sz6, sz7, sz8, hc]
  simp only [row, negR, List.map_map]; rfl
theorem rows_added_sp (h : Has T gl) (S : Store) {p q : List Rat} {a b : Nat} (hp : BdR p a) (hq : BdR q b) (hab : a + b < 8000) (hn : p.length ≤ 1000) (k : Nat) (hk : 4 ≤ k) : callN T gl k "rows_added" [row p, row q] S = .ok (row (addR p q)) S := by
  obtain ⟨k, rfl⟩ : ∃ q, k = q + 1 := ⟨k - 1, by omega⟩
  rw [call_rows_added h]
  have hc : evL (GG T gl k) [some (row p), some (row q), none, none] (.comp [("here", 2), ("there", 3)] (.many [2, 3]) (.zip (.var 0) (.var 1)) .nil (.call false "added" (.cons (.var 2) (.cons (.var 3) .nil)))) S = .ok ((p.zip q).map fun z => pt (z.1 + z.2)) S := by
    refine l_map2 (src := []) (p.zip q) (fun z => .tup [pt z.1, pt z.2]) _ ?_ (still_nil _ _) (by rw [List.length_zip]; omega) fun x hx => ⟨[some (row p), some (row q), some (pt x.1), some (pt x.2)], ?_, ?_⟩
    · have e1 : isTup (row p) = true := rfl
      have e2 : isTup (row q) = true := rfl
      simp only [evE, evEs, evAnd, evOr, evL.eq_1, evL.eq_2, evL.eq_4, evL.eq_5, evL.eq_6, meT, meD, isLr, get_last, evI, evC.eq_1, evC.eq_2, evC.eq_3, evC.eq_4, evC.eq_5, evC.eq_6, evC.eq_7, evC.eq_8, evC.eq_9, evC.eq_10, evC.eq_13, evC.eq_14, evC.eq_15, evC.eq_16, evCs, GG_call, GG_raw, GG_glob, R.ne_ok, R.bd_ok, R.bd_err, R.bd_bad, opt_some, opt_none, R.th, Out.th, PyD.finish, PyD.start, List.map, List.length, List.replicate, List.getD_cons_zero, List.getD_cons_succ, List.set_cons_zero, List.set_cons_succ, List.cons_append, List.nil_append, if_true, if_false, Bool.false_eq_true, E.isNon, Option.map_some, Option.map_none, Option.bind_some, setAll, List.zip_cons_cons, List.zip_nil_left, List.foldl_cons, List.foldl_nil, truthB, cmpEqI, cmpNeI, cmpLt, cmpLe, cmpGt, cmpGe, isNon, binAdd, binSub, Bool.not_true, Bool.not_false, decide_true, decide_false, reduceCtorEq, Nat.reduceAdd, Nat.reduceSub, Nat.sub_self, Nat.sub_zero, Nat.zero_add, ofI, idx0, idx1, idx2, biAbs, biLenT, biLenL, biTupL, biTupT, sz0, sz1, sz2, sz3, sz4, sz5, sz6, sz7, sz8, seqRow, e1, e2, List.append_nil]
      congr 2
      rw [List.zip_map, List.map_map]; rfl
    · exact need_of rfl
    · have hx1 := List.of_mem_zip hx
      simp only [evE, evEs, evAnd, evOr, evL.eq_1, evL.eq_2, evL.eq_4, evL.eq_5, evL.eq_6, meT, meD, isLr, get_last, evI, evC.eq_1, evC.eq_2, evC.eq_3, evC.eq_4, evC.eq_5, evC.eq_6, evC.eq_7, evC.eq_8, evC.eq_9, evC.eq_10, evC.eq_13, evC.eq_14, evC.eq_15, evC.eq_16, evCs, GG_call, GG_raw, GG_glob, R.ne_ok, R.bd_ok, R.bd_err, R.bd_bad, opt_some, opt_none, R.th, Out.th, PyD.finish, PyD.start, List.map, List.length, List.replicate, List.getD_cons_zero, List.getD_cons_succ, List.set_cons_zero, List.set_cons_succ, List.cons_append, List.nil_append, if_true, if_false, Bool.false_eq_true, E.isNon, Option.map_some, Option.map_none, Option.bind_some, setAll, List.zip_cons_cons, List.zip_nil_left, List.foldl_cons, List.foldl_nil, truthB, cmpEqI, cmpNeI, cmpLt, cmpLe, cmpGt, cmpGe, isNon, binAdd, binSub, Bool.not_true, Bool.not_false, decide_true, decide_false, reduceCtorEq, Nat.reduceAdd, Nat.reduceSub, Nat.sub_self, Nat.sub_zero, Nat.zero_add, ofI, idx0, idx1, idx2, biAbs, biLenT, biLenL, biTupL, biTupT, sz0, sz1, sz2, sz3, sz4, sz5, sz6, sz7, sz8, added_sp h S (hp _ hx1.1) (hq _ hx1.2) hab k (by omega)]
  simp only [c_rows_added, evE, evEs, evAnd, evOr, evL.eq_1, evL.eq_2, evL.eq_4, evL.eq_5, evL.eq_6, meT, meD, isLr, get_last, evI, evC.eq_1, evC.eq_2, evC.eq_3, evC.eq_4, evC.eq_5, evC.eq_6, evC.eq_7, evC.eq_8, evC.eq_9, evC.eq_10, evC.eq_13, evC.eq_14, evC.eq_15, evC.eq_16, evCs, GG_call, GG_raw, GG_glob, R.ne_ok, R.bd_ok, R.bd_err, R.bd_bad, opt_some, opt_none, R.th, Out.th, PyD.finish, PyD.start, List.map, List.length, List.replicate, List.getD_cons_zero, List.getD_cons_succ, List.set_cons_zero, List.set_cons_succ, List.cons_append, List.nil_append, if_true, if_false, Bool.false_eq_true, E.isNon, Option.map_some, Option.map_none, Option.bind_some, setAll, List.zip_cons_cons, List.zip_nil_left, List.foldl_cons, List.foldl_nil, truthB, cmpEqI, cmpNeI, cmpLt, cmpLe, cmpGt, cmpGe, isNon, binAdd, binSub, Bool.not_true, Bool.not_false, decide_true, decide_false, reduceCtorEq, Nat.reduceAdd, Nat.reduceSub, Nat.sub_self, Nat.sub_zero, Nat.zero_add, ofI, idx0, idx1, idx2, biAbs, biLenT, biLenL, biTupL, biTupT, sz0, sz1, sz2, sz3, sz4, sz5, sz6, sz7, sz8, hc]
  simp only [row, addR, List.map_map]; rfl
theorem turnR_len (t l) : (turnR t l).length = t.length := List.length_map _
theorem sgq_bd {x : Int} {q : Rat} {b : Nat} (hb : 1 ≤ b) (h : Bd q b) : Bd (sgq x q) b := by
  unfold sgq
  split
  · exact h
  · split
    · exact h.neg
    · have : 2 ^ 1 ≤ 2 ^ b := Nat.pow_le_pow_right (by omega) hb
      exact ⟨by show 0 < _; omega, by show 1 < _; omega⟩
theorem turnR_bd {t : List Int} {l : List Rat} {b : Nat} (hb : 1 ≤ b) (hl : BdR l b) : BdR (turnR t l) b := by
  intro q hq
  obtain ⟨x, _, rfl⟩ := List.mem_map.1 hq
  refine sgq_bd hb ?_
  rw [List.getD_eq_getElem?_getD]
  cases e : l[x.natAbs - 1]? with
  | none =>
    have : 2 ^ 1 ≤ 2 ^ b := Nat.pow_le_pow_right (by omega) hb
    exact ⟨by show 0 < _; omega, by show 1 < _; omega⟩
  | some q => exact hl q (List.mem_of_getElem? e)
theorem scal_bd {l s a b} (hl : BdR l a) (hs : Bd s b) : BdR (scal l s) (a + b) := by
  intro q hq
  obtain ⟨x, hx, rfl⟩ := List.mem_map.1 hq
  exact (hl x hx).mul hs
theorem addR_bd {l m a b} (hl : BdR l a) (hs : BdR m b) : BdR (addR l m) (a + b + 1) := by
  intro q hq
  obtain ⟨x, hx, rfl⟩ := List.mem_map.1 hq
  have := List.of_mem_zip hx
  exact (hl _ this.1).add (hs _ this.2)
theorem negR_bd {l a} (hl : BdR l a) : BdR (negR l) a := by
  intro q hq
  obtain ⟨x, hx, rfl⟩ := List.mem_map.1 hq
  exact (hl x hx).neg
theorem face_sp (h : Has T gl) (S : Store) (hS : Clo S) {n : Nat} {t : List Int} {s : Rat} {l : List Rat} {a b : Nat} (ht : t ∈ allT n) (hs : Bd s b) (hl : BdR l a) (hn : l.length = n) (ha : 1 ≤ a) (hab : a + b < 8000) (k : Nat) (hk : 5 ≤ k) : callN T gl k "face" [fac t s, row l] S = .ok (row (scal (turnR t l) s)) S := by
  obtain ⟨k, rfl⟩ : ∃ q, k = q + 1 := ⟨k - 1, by omega⟩
  rw [call_face h]
  have hlt := allT_len ht
  have hn3 : n ≤ 3 := by rcases allT_n ht with h | h | h <;> omega
  simp only [c_face, evE, evEs, evAnd, evOr, evL.eq_1, evL.eq_2, evL.eq_4, evL.eq_5, evL.eq_6, meT, meD, isLr, get_last, evI, evC.eq_1, evC.eq_2, evC.eq_3, evC.eq_4, evC.eq_5, evC.eq_6, evC.eq_7, evC.eq_8, evC.eq_9, evC.eq_10, evC.eq_13, evC.eq_14, evC.eq_15, evC.eq_16, evCs, GG_call, GG_raw, GG_glob, R.ne_ok, R.bd_ok, R.bd_err, R.bd_bad, opt_some, opt_none, R.th, Out.th, PyD.finish, PyD.start, List.map, List.length, List.replicate, List.getD_cons_zero, List.getD_cons_succ, List.set_cons_zero, List.set_cons_succ, List.cons_append, List.nil_append, if_true, if_false, Bool.false_eq_true, E.isNon, Option.map_some, Option.map_none, Option.bind_some, setAll, List.zip_cons_cons, List.zip_nil_left, List.foldl_cons, List.foldl_nil, truthB, cmpEqI, cmpNeI, cmpLt, cmpLe, cmpGt, cmpGe, isNon, binAdd, binSub, Bool.not_true, Bool.not_false, decide_true, decide_false, reduceCtorEq, Nat.reduceAdd, Nat.reduceSub, Nat.sub_self, Nat.sub_zero, Nat.zero_add, ofI, idx0, idx1, idx2, biAbs, biLenT, biLenL, biTupL, biTupT, sz0, sz1, sz2, sz3, sz4, sz5, sz6, sz7, sz8, fac0, fac1, row_turned_sp h S hS t l (by rw [hn]; exact allT_in ht) (by omega) k (by omega), row_times_sp h S (turnR_bd (t := t) ha hl) hs hab (by rw [turnR_len]; omega) k (by omega)]
def led (t : List Int) (s : Rat) (d l : List Rat) : List Rat := addR (scal (turnR t l) s) d
theorem led_bd {n t s d l a b} (m : MoOk n t s d b) (hl : BdR l a) (ha : 1 ≤ a) : BdR (led t s d l) (a + b + b + 1) := addR_bd (scal_bd (turnR_bd ha hl) m.bs) m.bd
theorem led_len {n t s d l b} (m : MoOk n t s d b) : (led t s d l).length = n := by
  have := allT_len m.ht
  have := m.hd
  simp only [led, addR, scal, List.length_map, List.length_zip, turnR_len]; omega
theorem move_sp (h : Has T gl) (S : Store) (hS : Clo S) {n t s d l a b} (m : MoOk n t s d b) (hl : BdR l a) (hn : l.length = n) (ha : 1 ≤ a) (hab : a + b + b < 8000) (k : Nat) (hk : 6 ≤ k) : callN T gl k "move" [mot t s d, row l] S = .ok (row (led t s d l)) S := by
  obtain ⟨k, rfl⟩ : ∃ q, k = q + 1 := ⟨k - 1, by omega⟩
  rw [call_move h]
  have := m.n3
  have := allT_len m.ht
  simp only [c_move, evE, evEs, evAnd, evOr, evL.eq_1, evL.eq_2, evL.eq_4, evL.eq_5, evL.eq_6, meT, meD, isLr, get_last, evI, evC.eq_1, evC.eq_2, evC.eq_3, evC.eq_4, evC.eq_5, evC.eq_6, evC.eq_7, evC.eq_8, evC.eq_9, evC.eq_10, evC.eq_13, evC.eq_14, evC.eq_15, evC.eq_16, evCs, GG_call, GG_raw, GG_glob, R.ne_ok, R.bd_ok, R.bd_err, R.bd_bad, opt_some, opt_none, R.th, Out.th, PyD.finish, PyD.start, List.map, List.length, List.replicate, List.getD_cons_zero, List.getD_cons_succ, List.set_cons_zero, List.set_cons_succ, List.cons_append, List.nil_append, if_true, if_false, Bool.false_eq_true, E.isNon, Option.map_some, Option.map_none, Option.bind_some, setAll, List.zip_cons_cons, List.zip_nil_left, List.foldl_cons, List.foldl_nil, truthB, cmpEqI, cmpNeI, cmpLt, cmpLe, cmpGt, cmpGe, isNon, binAdd, binSub, Bool.not_true, Bool.not_false, decide_true, decide_false, reduceCtorEq, Nat.reduceAdd, Nat.reduceSub, Nat.sub_self, Nat.sub_zero, Nat.zero_add, ofI, idx0, idx1, idx2, biAbs, biLenT, biLenL, biTupL, biTupT, sz0, sz1, sz2, sz3, sz4, sz5, sz6, sz7, sz8, mot_sl, mot2, face_sp h S hS m.ht m.bs hl hn ha (by omega) k (by omega), rows_added_sp h S (scal_bd (turnR_bd (t := t) ha hl) m.bs) m.bd (by omega) (by simp only [scal, List.length_map, turnR_len]; omega) k (by omega), led]
theorem faces_then_sp (h : Has T gl) (S : Store) {n : Nat} {t u : List Int} {s r : Rat} {a b : Nat} (ht : t ∈ allT n) (hu : u ∈ allT n) (hs : Bd s a) (hr : Bd r b) (hab : a + b < 8000) (k : Nat) (hk : 4 ≤ k) : callN T gl k "faces_then" [fac t s, fac u r] S = .ok (fac (bothT t u) (s * r)) S := by
  obtain ⟨k, rfl⟩ : ∃ q, k = q + 1 := ⟨k - 1, by omega⟩
  rw [call_faces_then h]
  have hn3 : n ≤ 3 := by rcases allT_n ht with h | h | h <;> omega
  have h1 := allT_len ht
  have h2 := allT_len hu
  simp only [c_faces_then, evE, evEs, evAnd, evOr, evL.eq_1, evL.eq_2, evL.eq_4, evL.eq_5, evL.eq_6, meT, meD, isLr, get_last, evI, evC.eq_1, evC.eq_2, evC.eq_3, evC.eq_4, evC.eq_5, evC.eq_6, evC.eq_7, evC.eq_8, evC.eq_9, evC.eq_10, evC.eq_13, evC.eq_14, evC.eq_15, evC.eq_16, evCs, GG_call, GG_raw, GG_glob, R.ne_ok, R.bd_ok, R.bd_err, R.bd_bad, opt_some, opt_none, R.th, Out.th, PyD.finish, PyD.start, List.map, List.length, List.replicate, List.getD_cons_zero, List.getD_cons_succ, List.set_cons_zero, List.set_cons_succ, List.cons_append, List.nil_append, if_true, if_false, Bool.false_eq_true, E.isNon, Option.map_some, Option.map_none, Option.bind_some, setAll, List.zip_cons_cons, List.zip_nil_left, List.foldl_cons, List.foldl_nil, truthB, cmpEqI, cmpNeI, cmpLt, cmpLe, cmpGt, cmpGe, isNon, binAdd, binSub, Bool.not_true, Bool.not_false, decide_true, decide_false, reduceCtorEq, Nat.reduceAdd, Nat.reduceSub, Nat.sub_self, Nat.sub_zero, Nat.zero_add, ofI, idx0, idx1, idx2, biAbs, biLenT, biLenL, biTupL, biTupT, sz0, sz1, sz2, sz3, sz4, sz5, sz6, sz7, sz8, fac0, fac1, both_turns_sp h S t u (by rw [h1]; exact allT_in hu) (by omega) k (by omega), product_sp h S hs hr hab k (by omega)]
  rfl
theorem face_back_sp (h : Has T gl) (S : Store) (hS : Clo S) {n : Nat} {t : List Int} {s : Rat} (ht : t ∈ allT n) (hs : 0 < s) (k : Nat) (hk : 2 ≤ k) : callN T gl k "face_back" [fac t s] S = .ok (fac (tback t) s⁻¹) S := by
  obtain ⟨k, rfl⟩ : ∃ q, k = q + 1 := ⟨k - 1, by omega⟩
  rw [call_face_back h]
  have hn3 : n ≤ 3 := by rcases allT_n ht with h | h | h <;> omega
  have h1 := allT_len ht
  simp only [c_face_back, evE, evEs, evAnd, evOr, evL.eq_1, evL.eq_2, evL.eq_4, evL.eq_5, evL.eq_6, meT, meD, isLr, get_last, evI, evC.eq_1, evC.eq_2, evC.eq_3, evC.eq_4, evC.eq_5, evC.eq_6, evC.eq_7, evC.eq_8, evC.eq_9, evC.eq_10, evC.eq_13, evC.eq_14, evC.eq_15, evC.eq_16, evCs, GG_call, GG_raw, GG_glob, R.ne_ok, R.bd_ok, R.bd_err, R.bd_bad, opt_some, opt_none, R.th, Out.th, PyD.finish, PyD.start, List.map, List.length, List.replicate, List.getD_cons_zero, List.getD_cons_succ, List.set_cons_zero, List.set_cons_succ, List.cons_append, List.nil_append, if_true, if_false, Bool.false_eq_true, E.isNon, Option.map_some, Option.map_none, Option.bind_some, setAll, List.zip_cons_cons, List.zip_nil_left, List.foldl_cons, List.foldl_nil, truthB, cmpEqI, cmpNeI, cmpLt, cmpLe, cmpGt, cmpGe, isNon, binAdd, binSub, Bool.not_true, Bool.not_false, decide_true, decide_false, reduceCtorEq, Nat.reduceAdd, Nat.reduceSub, Nat.sub_self, Nat.sub_zero, Nat.zero_add, ofI, idx0, idx1, idx2, biAbs, biLenT, biLenL, biTupL, biTupT, sz0, sz1, sz2, sz3, sz4, sz5, sz6, sz7, sz8, fac0, fac1, turn_back_sp h S hS t (by rw [h1]; exact allT_in ht) (by omega) k (by omega), upside_sp h S s hs k (by omega)]
  rfl
theorem moves_then_sp (h : Has T gl) (S : Store) (hS : Clo S) {n t s d u r e a b} (m : MoOk n t s d a) (m2 : MoOk n u r e b) (ha : 1 ≤ a) (hab : a + b + b < 8000) (k : Nat) (hk : 7 ≤ k) : callN T gl k "moves_then" [mot t s d, mot u r e] S = .ok (mot (bothT t u) (s * r) (led u r e d)) S := by
  obtain ⟨k, rfl⟩ : ∃ q, k = q + 1 := ⟨k - 1, by omega⟩
  rw [call_moves_then h]
  simp only [c_moves_then, evE, evEs, evAnd, evOr, evL.eq_1, evL.eq_2, evL.eq_4, evL.eq_5, evL.eq_6, meT, meD, isLr, get_last, evI, evC.eq_1, evC.eq_2, evC.eq_3, evC.eq_4, evC.eq_5, evC.eq_6, evC.eq_7, evC.eq_8, evC.eq_9, evC.eq_10, evC.eq_13, evC.eq_14, evC.eq_15, evC.eq_16, evCs, GG_call, GG_raw, GG_glob, R.ne_ok, R.bd_ok, R.bd_err, R.bd_bad, opt_some, opt_none, R.th, Out.th, PyD.finish, PyD.start, List.map, List.length, List.replicate, List.getD_cons_zero, List.getD_cons_succ, List.set_cons_zero, List.set_cons_succ, List.cons_append, List.nil_append, if_true, if_false, Bool.false_eq_true, E.isNon, Option.map_some, Option.map_none, Option.bind_some, setAll, List.zip_cons_cons, List.zip_nil_left, List.foldl_cons, List.foldl_nil, truthB, cmpEqI, cmpNeI, cmpLt, cmpLe, cmpGt, cmpGe, isNon, binAdd, binSub, Bool.not_true, Bool.not_false, decide_true, decide_false, reduceCtorEq, Nat.reduceAdd, Nat.reduceSub, Nat.sub_self, Nat.sub_zero, Nat.zero_add, ofI, idx0, idx1, idx2, biAbs, biLenT, biLenL, biTupL, biTupT, sz0, sz1, sz2, sz3, sz4, sz5, sz6, sz7, sz8, mot_sl, mot2, faces_then_sp h S m.ht m2.ht m.bs m2.bs (by omega) k (by omega), move_sp h S hS m2 m.bd m.hd ha hab k (by omega), fac_cat]
theorem MoOk.then {n t s d u r e a b} (m : MoOk n t s d a) (m2 : MoOk n u r e b) (ha : 1 ≤ a) : MoOk n (bothT t u) (s * r) (led u r e d) (a + b + b + 1) :=
  ⟨allT_both m.ht m2.ht, Rat.mul_pos m.hs m2.hs, led_len m2, (m.bs.mul m2.bs).mono (by omega), led_bd m2 m.bd ha⟩
def backd (t : List Int) (s : Rat) (d : List Rat) : List Rat := negR (scal (turnR (tback t) d) s⁻¹)
theorem move_back_sp (h : Has T gl) (S : Store) (hS : Clo S) {n t s d b} (m : MoOk n t s d b) (hb : 1 ≤ b) (hab : b + b < 8000) (k : Nat) (hk : 6 ≤ k) : callN T gl k "move_back" [mot t s d] S = .ok (mot (tback t) s⁻¹ (backd t s d)) S := by
  obtain ⟨k, rfl⟩ : ∃ q, k = q + 1 := ⟨k - 1, by omega⟩
  rw [call_move_back h]
  have := m.n3
  have h2 := allT_len (allT_back m.ht).1
  simp only [c_move_back, evE, evEs, evAnd, evOr, evL.eq_1, evL.eq_2, evL.eq_4, evL.eq_5, evL.eq_6, meT, meD, isLr, get_last, evI, evC.eq_1, evC.eq_2, evC.eq_3, evC.eq_4, evC.eq_5, evC.eq_6, evC.eq_7, evC.eq_8, evC.eq_9, evC.eq_10, evC.eq_13, evC.eq_14, evC.eq_15, evC.eq_16, evCs, GG_call, GG_raw, GG_glob, R.ne_ok, R.bd_ok, R.bd_err, R.bd_bad, opt_some, opt_none, R.th, Out.th, PyD.finish, PyD.start, List.map, List.length, List.replicate, List.getD_cons_zero, List.getD_cons_succ, List.set_cons_zero, List.set_cons_succ, List.cons_append, List.nil_append, if_true, if_false, Bool.false_eq_true, E.isNon, Option.map_some, Option.map_none, Option.bind_some, setAll, List.zip_cons_cons, List.zip_nil_left, List.foldl_cons, List.foldl_nil, truthB, cmpEqI, cmpNeI, cmpLt, cmpLe, cmpGt, cmpGe, isNon, binAdd, binSub, Bool.not_true, Bool.not_false, decide_true, decide_false, reduceCtorEq, Nat.reduceAdd, Nat.reduceSub, Nat.sub_self, Nat.sub_zero, Nat.zero_add, ofI, idx0, idx1, idx2, biAbs, biLenT, biLenL, biTupL, biTupT, sz0, sz1, sz2, sz3, sz4, sz5, sz6, sz7, sz8, mot_sl, mot2, face_back_sp h S hS m.ht m.hs k (by omega), face_sp h S hS (allT_back m.ht).1 (m.bs.inv m.hs) m.bd m.hd hb hab k (by omega), row_back_sp h S (scal (turnR (tback t) d) s⁻¹) (by simp only [scal, List.length_map, turnR_len]; omega) k (by omega), fac_cat, backd]
theorem MoOk.back {n t s d b} (m : MoOk n t s d b) (hb : 1 ≤ b) : MoOk n (tback t) s⁻¹ (backd t s d) (b + b) :=
  ⟨(allT_back m.ht).1, Rat.inv_pos.2 m.hs, by have := allT_len (allT_back m.ht).1; simp only [backd, negR, scal, List.length_map, turnR_len]; omega, (m.bs.inv m.hs).mono (by omega), negR_bd (scal_bd (turnR_bd hb m.bd) (m.bs.inv m.hs))⟩
theorem then_sp (h : Has T gl) (S : Store) (hS : Clo S) {n t s d u r e a b} (m : MoOk n t s d a) (m2 : MoOk n u r e b) (ha : 1 ≤ a) (hab : a + b + b < 8000) (k : Nat) (hk : 8 ≤ k) : callN T gl k "then" [mot t s d, mot u r e] S = .ok (mot (bothT t u) (s * r) (led u r e d)) S := by
  obtain ⟨k, rfl⟩ : ∃ q, k = q + 1 := ⟨k - 1, by omega⟩
  rw [call_then h]
  have e1 : (t.length : Int) = u.length := by rw [allT_len m.ht, allT_len m2.ht]
  simp only [c_then, evE, evEs, evAnd, evOr, evL.eq_1, evL.eq_2, evL.eq_4, evL.eq_5, evL.eq_6, meT, meD, isLr, get_last, evI, evC.eq_1, evC.eq_2, evC.eq_3, evC.eq_4, evC.eq_5, evC.eq_6, evC.eq_7, evC.eq_8, evC.eq_9, evC.eq_10, evC.eq_13, evC.eq_14, evC.eq_15, evC.eq_16, evCs, GG_call, GG_raw, GG_glob, R.ne_ok, R.bd_ok, R.bd_err, R.bd_bad, opt_some, opt_none, R.th, Out.th, PyD.finish, PyD.start, List.map, List.length, List.replicate, List.getD_cons_zero, List.getD_cons_succ, List.set_cons_zero, List.set_cons_succ, List.cons_append, List.nil_append, if_true, if_false, Bool.false_eq_true, E.isNon, Option.map_some, Option.map_none, Option.bind_some, setAll, List.zip_cons_cons, List.zip_nil_left, List.foldl_cons, List.foldl_nil, truthB, cmpEqI, cmpNeI, cmpLt, cmpLe, cmpGt, cmpGe, isNon, binAdd, binSub, Bool.not_true, Bool.not_false, decide_true, decide_false, reduceCtorEq, Nat.reduceAdd, Nat.reduceSub, Nat.sub_self, Nat.sub_zero, Nat.zero_add, ofI, idx0, idx1, idx2, biAbs, biLenT, biLenL, biTupL, biTupT, sz0, sz1, sz2, sz3, sz4, sz5, sz6, sz7, sz8, need_motion_sp h S m k (by omega), need_motion_sp h S m2 k (by omega), mot0, lenTurn, decT e1, moves_then_sp h S hS m m2 ha hab k (by omega)]
theorem undone_sp (h : Has T gl) (S : Store) (hS : Clo S) {n t s d b} (m : MoOk n t s d b) (hb : 1 ≤ b) (hab : b + b < 8000) (k : Nat) (hk : 7 ≤ k) : callN T gl k "undone" [mot t s d] S = .ok (mot (tback t) s⁻¹ (backd t s d)) S := by
  obtain ⟨k, rfl⟩ : ∃ q, k = q + 1 := ⟨k - 1, by omega⟩
  rw [call_undone h]
  simp only [c_undone, evE, evEs, evAnd, evOr, evL.eq_1, evL.eq_2, evL.eq_4, evL.eq_5, evL.eq_6, meT, meD, isLr, get_last, evI, evC.eq_1, evC.eq_2, evC.eq_3, evC.eq_4, evC.eq_5, evC.eq_6, evC.eq_7, evC.eq_8, evC.eq_9, evC.eq_10, evC.eq_13, evC.eq_14, evC.eq_15, evC.eq_16, evCs, GG_call, GG_raw, GG_glob, R.ne_ok, R.bd_ok, R.bd_err, R.bd_bad, opt_some, opt_none, R.th, Out.th, PyD.finish, PyD.start, List.map, List.length, List.replicate, List.getD_cons_zero, List.getD_cons_succ, List.set_cons_zero, List.set_cons_succ, List.cons_append, List.nil_append, if_true, if_false, Bool.false_eq_true, E.isNon, Option.map_some, Option.map_none, Option.bind_some, setAll, List.zip_cons_cons, List.zip_nil_left, List.foldl_cons, List.foldl_nil, truthB, cmpEqI, cmpNeI, cmpLt, cmpLe, cmpGt, cmpGe, isNon, binAdd, binSub, Bool.not_true, Bool.not_false, decide_true, decide_false, reduceCtorEq, Nat.reduceAdd, Nat.reduceSub, Nat.sub_self, Nat.sub_zero, Nat.zero_add, ofI, idx0, idx1, idx2, biAbs, biLenT, biLenL, biTupL, biTupT, sz0, sz1, sz2, sz3, sz4, sz5, sz6, sz7, sz8, need_motion_sp h S m k (by omega), move_back_sp h S hS m hb hab k (by omega)]
theorem facing_sp (h : Has T gl) (S : Store) {n t s d b} (m : MoOk n t s d b) (k : Nat) (hk : 6 ≤ k) : callN T gl k "facing" [mot t s d] S = .ok (fac t s) S := by
  obtain ⟨k, rfl⟩ : ∃ q, k = q + 1 := ⟨k - 1, by omega⟩
  rw [call_facing h]
  simp only [c_facing, evE, evEs, evAnd, evOr, evL.eq_1, evL.eq_2, evL.eq_4, evL.eq_5, evL.eq_6, meT, meD, isLr, get_last, evI, evC.eq_1, evC.eq_2, evC.eq_3, evC.eq_4, evC.eq_5, evC.eq_6, evC.eq_7, evC.eq_8, evC.eq_9, evC.eq_10, evC.eq_13, evC.eq_14, evC.eq_15, evC.eq_16, evCs, GG_call, GG_raw, GG_glob, R.ne_ok, R.bd_ok, R.bd_err, R.bd_bad, opt_some, opt_none, R.th, Out.th, PyD.finish, PyD.start, List.map, List.length, List.replicate, List.getD_cons_zero, List.getD_cons_succ, List.set_cons_zero, List.set_cons_succ, List.cons_append, List.nil_append, if_true, if_false, Bool.false_eq_true, E.isNon, Option.map_some, Option.map_none, Option.bind_some, setAll, List.zip_cons_cons, List.zip_nil_left, List.foldl_cons, List.foldl_nil, truthB, cmpEqI, cmpNeI, cmpLt, cmpLe, cmpGt, cmpGe, isNon, binAdd, binSub, Bool.not_true, Bool.not_false, decide_true, decide_false, reduceCtorEq, Nat.reduceAdd, Nat.reduceSub, Nat.sub_self, Nat.sub_zero, Nat.zero_add, ofI, idx0, idx1, idx2, biAbs, biLenT, biLenL, biTupL, biTupT, sz0, sz1, sz2, sz3, sz4, sz5, sz6, sz7, sz8, need_motion_sp h S m k (by omega), mot_sl]
theorem lead_sp (h : Has T gl) (S : Store) (hS : Clo S) {n t s d l a b} (m : MoOk n t s d b) (hl : BdR l a) (hn : l.length = n) (ha : 1 ≤ a) (hab : a + b + b < 8000) (k : Nat) (hk : 7 ≤ k) : callN T gl k "lead" [mot t s d, row l] S = .ok (row (led t s d l)) S := by
  obtain ⟨k, rfl⟩ : ∃ q, k = q + 1 := ⟨k - 1, by omega⟩
  rw [call_lead h]
  have := m.n3
  have h2 := allT_len m.ht
  simp only [c_lead, evE, evEs, evAnd, evOr, evL.eq_1, evL.eq_2, evL.eq_4, evL.eq_5, evL.eq_6, meT, meD, isLr, get_last, evI, evC.eq_1, evC.eq_2, evC.eq_3, evC.eq_4, evC.eq_5, evC.eq_6, evC.eq_7, evC.eq_8, evC.eq_9, evC.eq_10, evC.eq_13, evC.eq_14, evC.eq_15, evC.eq_16, evCs, GG_call, GG_raw, GG_glob, R.ne_ok, R.bd_ok, R.bd_err, R.bd_bad, opt_some, opt_none, R.th, Out.th, PyD.finish, PyD.start, List.map, List.length, List.replicate, List.getD_cons_zero, List.getD_cons_succ, List.set_cons_zero, List.set_cons_succ, List.cons_append, List.nil_append, if_true, if_false, Bool.false_eq_true, E.isNon, Option.map_some, Option.map_none, Option.bind_some, setAll, List.zip_cons_cons, List.zip_nil_left, List.foldl_cons, List.foldl_nil, truthB, cmpEqI, cmpNeI, cmpLt, cmpLe, cmpGt, cmpGe, isNon, binAdd, binSub, Bool.not_true, Bool.not_false, decide_true, decide_false, reduceCtorEq, Nat.reduceAdd, Nat.reduceSub, Nat.sub_self, Nat.sub_zero, Nat.zero_add, ofI, idx0, idx1, idx2, biAbs, biLenT, biLenL, biTupL, biTupT, sz0, sz1, sz2, sz3, sz4, sz5, sz6, sz7, sz8, need_motion_sp h S m k (by omega), mot0, lenTurn, need_row_sp h S l (by omega) (by omega) t.length (by omega) k (by omega), move_sp h S hS m hl hn ha hab k (by omega)]
theorem lead_gap_sp (h : Has T gl) (S : Store) (hS : Clo S) {n t s d l a b} (m : MoOk n t s d b) (hl : BdR l a) (hn : l.length = n) (ha : 1 ≤ a) (hab : a + b < 8000) (k : Nat) (hk : 6 ≤ k) : callN T gl k "lead_gap" [mot t s d, row l] S = .ok (row (scal (turnR t l) s)) S := by
  obtain ⟨k, rfl⟩ : ∃ q, k = q + 1 := ⟨k - 1, by omega⟩
  rw [call_lead_gap h]
  have := m.n3
  have h2 := allT_len m.ht
  simp only [c_lead_gap, evE, evEs, evAnd, evOr, evL.eq_1, evL.eq_2, evL.eq_4, evL.eq_5, evL.eq_6, meT, meD, isLr, get_last, evI, evC.eq_1, evC.eq_2, evC.eq_3, evC.eq_4, evC.eq_5, evC.eq_6, evC.eq_7, evC.eq_8, evC.eq_9, evC.eq_10, evC.eq_13, evC.eq_14, evC.eq_15, evC.eq_16, evCs, GG_call, GG_raw, GG_glob, R.ne_ok, R.bd_ok, R.bd_err, R.bd_bad, opt_some, opt_none, R.th, Out.th, PyD.finish, PyD.start, List.map, List.length, List.replicate, List.getD_cons_zero, List.getD_cons_succ, List.set_cons_zero, List.set_cons_succ, List.cons_append, List.nil_append, if_true, if_false, Bool.false_eq_true, E.isNon, Option.map_some, Option.map_none, Option.bind_some, setAll, List.zip_cons_cons, List.zip_nil_left, List.foldl_cons, List.foldl_nil, truthB, cmpEqI, cmpNeI, cmpLt, cmpLe, cmpGt, cmpGe, isNon, binAdd, binSub, Bool.not_true, Bool.not_false, decide_true, decide_false, reduceCtorEq, Nat.reduceAdd, Nat.reduceSub, Nat.sub_self, Nat.sub_zero, Nat.zero_add, ofI, idx0, idx1, idx2, biAbs, biLenT, biLenL, biTupL, biTupT, sz0, sz1, sz2, sz3, sz4, sz5, sz6, sz7, sz8, need_motion_sp h S m k (by omega), mot0, lenTurn, need_row_sp h S l (by omega) (by omega) t.length (by omega) k (by omega), mot_sl, face_sp h S hS m.ht m.bs hl hn ha hab k (by omega)]
def noR (n : Nat) : List Rat := List.replicate n 0
theorem noughts_sp (h : Has T gl) (S : Store) (n : Nat) (h1 : 1 ≤ n) (h3 : n ≤ 3) (k : Nat) (hk : 1 ≤ k) : callN T gl k "noughts" [.int n] S = .ok (row (noR n)) S := by
  obtain ⟨k, rfl⟩ : ∃ q, k = q + 1 := ⟨k - 1, by omega⟩
  rw [call_noughts h]
  have e : bin S .mul (.tup [.tup [.int 0, .int 1]]) (.int n) = some (row (noR n)) := by
    have : n = 1 ∨ n = 2 ∨ n = 3 := by omega
    rcases this with rfl | rfl | rfl <;> exact need_of (by simp)
  simp only [c_noughts, evE, evEs, evAnd, evOr, evL.eq_1, evL.eq_2, evL.eq_4, evL.eq_5, evL.eq_6, meT, meD, isLr, get_last, evI, evC.eq_1, evC.eq_2, evC.eq_3, evC.eq_4, evC.eq_5, evC.eq_6, evC.eq_7, evC.eq_8, evC.eq_9, evC.eq_10, evC.eq_13, evC.eq_14, evC.eq_15, evC.eq_16, evCs, GG_call, GG_raw, GG_glob, R.ne_ok, R.bd_ok, R.bd_err, R.bd_bad, opt_some, opt_none, R.th, Out.th, PyD.finish, PyD.start, List.map, List.length, List.replicate, List.getD_cons_zero, List.getD_cons_succ, List.set_cons_zero, List.set_cons_succ, List.cons_append, List.nil_append, if_true, if_false, Bool.false_eq_true, E.isNon, Option.map_some, Option.map_none, Option.bind_some, setAll, List.zip_cons_cons, List.zip_nil_left, List.foldl_cons, List.foldl_nil, truthB, cmpEqI, cmpNeI, cmpLt, cmpLe, cmpGt, cmpGe, isNon, binAdd, binSub, Bool.not_true, Bool.not_false, decide_true, decide_false, reduceCtorEq, Nat.reduceAdd, Nat.reduceSub, Nat.sub_self, Nat.sub_zero, Nat.zero_add, ofI, idx0, idx1, idx2, biAbs, biLenT, biLenL, biTupL, biTupT, sz0, sz1, sz2, sz3, sz4, sz5, sz6, sz7, sz8, gl_ZERO h, e]
theorem no_turn_sp (h : Has T gl) (S : Store) (n : Nat) (h3 : n ≤ 3) (k : Nat) (hk : 1 ≤ k) : callN T gl k "no_turn" [.int n] S = .ok (turn (idT n)) S := by
  obtain ⟨k, rfl⟩ : ∃ q, k = q + 1 := ⟨k - 1, by omega⟩
  rw [call_no_turn h]
  have hz : PyD.sizeOk n := by show _ ≤ 100000; omega
  simp only [c_no_turn, evE, evEs, evAnd, evOr, evL.eq_1, evL.eq_2, evL.eq_4, evL.eq_5, evL.eq_6, meT, meD, isLr, get_last, evI, evC.eq_1, evC.eq_2, evC.eq_3, evC.eq_4, evC.eq_5, evC.eq_6, evC.eq_7, evC.eq_8, evC.eq_9, evC.eq_10, evC.eq_13, evC.eq_14, evC.eq_15, evC.eq_16, evCs, GG_call, GG_raw, GG_glob, R.ne_ok, R.bd_ok, R.bd_err, R.bd_bad, opt_some, opt_none, R.th, Out.th, PyD.finish, PyD.start, List.map, List.length, List.replicate, List.getD_cons_zero, List.getD_cons_succ, List.set_cons_zero, List.set_cons_succ, List.cons_append, List.nil_append, if_true, if_false, Bool.false_eq_true, E.isNon, Option.map_some, Option.map_none, Option.bind_some, setAll, List.zip_cons_cons, List.zip_nil_left, List.foldl_cons, List.foldl_nil, truthB, cmpEqI, cmpNeI, cmpLt, cmpLe, cmpGt, cmpGe, isNon, binAdd, binSub, Bool.not_true, Bool.not_false, decide_true, decide_false, reduceCtorEq, Nat.reduceAdd, Nat.reduceSub, Nat.sub_self, Nat.sub_zero, Nat.zero_add, ofI, idx0, idx1, idx2, biAbs, biLenT, biLenL, biTupL, biTupT, sz0, sz1, sz2, sz3, sz4, sz5, sz6, sz7, sz8, rng_one n (by omega), need_of hz, upTo_idT]
  rfl
theorem need_axes_sp (h : Has T gl) (S : Store) (n : Nat) (h1 : 1 ≤ n) (h3 : n ≤ 3) (k : Nat) (hk : 1 ≤ k) : callN T gl k "need_axes" [.int n] S = .ok .non S := by
  obtain ⟨k, rfl⟩ : ∃ q, k = q + 1 := ⟨k - 1, by omega⟩
  rw [call_need_axes h]
  have d1 : decide ((1 : Int) ≤ n) = true := decide_eq_true (by omega)
  have d3 : decide ((n : Int) ≤ 3) = true := decide_eq_true (by omega)
  simp only [c_need_axes, evE, evEs, evAnd, evOr, evL.eq_1, evL.eq_2, evL.eq_4, evL.eq_5, evL.eq_6, meT, meD, isLr, get_last, evI, evC.eq_1, evC.eq_2, evC.eq_3, evC.eq_4, evC.eq_5, evC.eq_6, evC.eq_7, evC.eq_8, evC.eq_9, evC.eq_10, evC.eq_13, evC.eq_14, evC.eq_15, evC.eq_16, evCs, GG_call, GG_raw, GG_glob, R.ne_ok, R.bd_ok, R.bd_err, R.bd_bad, opt_some, opt_none, R.th, Out.th, PyD.finish, PyD.start, List.map, List.length, List.replicate, List.getD_cons_zero, List.getD_cons_succ, List.set_cons_zero, List.set_cons_succ, List.cons_append, List.nil_append, if_true, if_false, Bool.false_eq_true, E.isNon, Option.map_some, Option.map_none, Option.bind_some, setAll, List.zip_cons_cons, List.zip_nil_left, List.foldl_cons, List.foldl_nil, truthB, cmpEqI, cmpNeI, cmpLt, cmpLe, cmpGt, cmpGe, isNon, binAdd, binSub, Bool.not_true, Bool.not_false, decide_true, decide_false, reduceCtorEq, Nat.reduceAdd, Nat.reduceSub, Nat.sub_self, Nat.sub_zero, Nat.zero_add, ofI, idx0, idx1, idx2, biAbs, biLenT, biLenL, biTupL, biTupT, sz0, sz1, sz2, sz3, sz4, sz5, sz6, sz7, sz8, gl_MOST_AXES h, d1, d3]
theorem still_sp (h : Has T gl) (S : Store) (n : Nat) (h1 : 1 ≤ n) (h3 : n ≤ 3) (k : Nat) (hk : 4 ≤ k) : callN T gl k "still" [.int n] S = .ok (mot (idT n) 1 (noR n)) S := by
  obtain ⟨k, rfl⟩ : ∃ q, k = q + 3 := ⟨k - 3, by omega⟩
  have e : D.tup [turn (idT n), D.tup [.int 1, .int 1]] = fac (idT n) 1 := rfl
  rw [call_still h]
  simp only [c_still, evE, evEs, evAnd, evOr, evL.eq_1, evL.eq_2, evL.eq_4, evL.eq_5, evL.eq_6, meT, meD, isLr, get_last, evI, evC.eq_1, evC.eq_2, evC.eq_3, evC.eq_4, evC.eq_5, evC.eq_6, evC.eq_7, evC.eq_8, evC.eq_9, evC.eq_10, evC.eq_13, evC.eq_14, evC.eq_15, evC.eq_16, evCs, GG_call, GG_raw, GG_glob, R.ne_ok, R.bd_ok, R.bd_err, R.bd_bad, opt_some, opt_none, R.th, Out.th, PyD.finish, PyD.start, List.map, List.length, List.replicate, List.getD_cons_zero, List.getD_cons_succ, List.set_cons_zero, List.set_cons_succ, List.cons_append, List.nil_append, if_true, if_false, Bool.false_eq_true, E.isNon, Option.map_some, Option.map_none, Option.bind_some, setAll, List.zip_cons_cons, List.zip_nil_left, List.foldl_cons, List.foldl_nil, truthB, cmpEqI, cmpNeI, cmpLt, cmpLe, cmpGt, cmpGe, isNon, binAdd, binSub, Bool.not_true, Bool.not_false, decide_true, decide_false, reduceCtorEq, Nat.reduceAdd, Nat.reduceSub, Nat.sub_self, Nat.sub_zero, Nat.zero_add, ofI, idx0, idx1, idx2, biAbs, biLenT, biLenL, biTupL, biTupT, sz0, sz1, sz2, sz3, sz4, sz5, sz6, sz7, sz8, need_axes_sp h S n h1 h3 (k + 2) (by omega), call_no_motion h, c_no_motion, call_no_facing h, c_no_facing, no_turn_sp h S n h3 k (by omega), gl_ONE h, noughts_sp h S n h1 h3 (k + 1) (by omega), e, fac_cat]
end CA

namespace CA
open PySem PyD
variable {T : Str → Option Fn} {gl : Str → Option D}
def bagL (cs : List Int) (i cur salt cnt : Int) : List D := [.lst (cs.map .int), .int i, .int cur, .int salt, .int cnt]
def bagO (cs : List Int) (i cur salt cnt : Int) : O := .lst (bagL cs i cur salt cnt)
def BagAt (S : Store) (b c : Nat) : Prop := ∃ (cs : List Int) (i cur salt cnt : Int), S[b]? = some (bagO cs i cur salt cnt) ∧ 0 ≤ i ∧ 0 ≤ cur ∧ 0 ≤ salt ∧ salt < 2147483563 ∧ 0 ≤ cnt ∧ cnt ≤ c
def Fr (b : Nat) (S S' : Store) : Prop := ∃ cs i cur salt cnt, S' = S.set b (bagO cs i cur salt cnt)
theorem ints_clo (k : Nat) (cs : List Int) : clos k (cs.map .int) := by
  induction cs with
  | nil => trivial
  | cons x l ih => exact ⟨trivial, ih⟩
theorem bag_clo (k : Nat) (cs i cur salt cnt) : (bagO cs i cur salt cnt).clo k := ⟨ints_clo k cs, trivial, trivial, trivial, trivial, trivial⟩
theorem Fr.clo {b S S'} (h : Fr b S S') (hS : Clo S) : Clo S' := by
  obtain ⟨cs, i, cur, salt, cnt, rfl⟩ := h
  intro o ho
  rw [List.length_set]
  rcases List.mem_or_eq_of_mem_set ho with h | rfl
  · exact hS o h
  · exact bag_clo _ _ _ _ _ _
theorem Fr.trans {b S S' S''} (h : Fr b S S') (h2 : Fr b S' S'') : Fr b S S'' := by
  obtain ⟨cs, i, cur, salt, cnt, rfl⟩ := h
  obtain ⟨cs2, i2, cur2, salt2, cnt2, rfl⟩ := h2
  exact ⟨_, _, _, _, _, List.set_set _⟩
theorem Fr.len {b S S'} (h : Fr b S S') : S'.length = S.length := by
  obtain ⟨cs, i, cur, salt, cnt, rfl⟩ := h
  exact List.length_set
theorem BagAt.lt {S b c} (h : BagAt S b c) : b < S.length := by
  obtain ⟨cs, i, cur, salt, cnt, h, _⟩ := h
  rw [List.getElem?_eq_some_iff] at h; exact h.1
theorem BagAt.fr {S b c} (h : BagAt S b c) : Fr b S S := by
  obtain ⟨cs, i, cur, salt, cnt, h, _⟩ := h
  refine ⟨cs, i, cur, salt, cnt, ?_⟩
  rw [List.getElem?_eq_some_iff] at h
  obtain ⟨h1, h2⟩ := h
  rw [← h2, List.set_getElem_self]
theorem BagAt.mono {S b c d} (h : BagAt S b c) (hd : c ≤ d) : BagAt S b d := by
  obtain ⟨cs, i, cur, salt, cnt, h, h1, h2, h3, h4, h5, h6⟩ := h
  exact ⟨cs, i, cur, salt, cnt, h, h1, h2, h3, h4, h5, by omega⟩
theorem small_lt {i : Int} (h0 : 0 ≤ i) {n : Nat} (h : i < 2 ^ n) : i.natAbs < 2 ^ n := by
  have : ((i.natAbs : Nat) : Int) < ((2 ^ n : Nat) : Int) := by
    have e : ((2 ^ n : Nat) : Int) = (2 : Int) ^ n := by simp
    rw [e]; omega
  exact Int.ofNat_lt.1 this
theorem mulS (S : Store) {i j : Int} (hi : 0 ≤ i) (hj : 0 ≤ j) (hi2 : i < 2 ^ 200) (hj2 : j < 2 ^ 200) : bin S .mul (.int i) (.int j) = some (.int (i * j)) := binMul S (mulOk 200 200 (small_lt hi hi2) (small_lt hj hj2) (by omega))
theorem pow18 (S : Store) : bin S .pow (.int 10) (.int 18) = some (.int 1000000000000000000) := need_of (by decide)
theorem mul_lt_i {a b : Int} {x y : Int} (ha : 0 ≤ a) (hb : 0 ≤ b) (h1 : a ≤ x) (h2 : b ≤ y) : a * b ≤ x * y := Int.mul_le_mul h1 h2 hb (by omega)
theorem pull_sp (h : Has T gl) (S : Store) {b c m : Nat} (hB : BagAt S b c) (hc : c < 2 ^ 64) (h0 : 0 < m) (hm : m < 2 ^ 200) (k : Nat) (hk : 1 ≤ k) :
    ∃ (r : Nat) (S' : Store), callN T gl k "_law_pull" [.ref b, .int m] S = .ok (.int r) S' ∧ r < m ∧ BagAt S' b (c + 1) ∧ Fr b S S' := by
  obtain ⟨k, rfl⟩ : ∃ q, k = q + 1 := ⟨k - 1, by omega⟩
  rw [call_law_pull h]
  have hlt := hB.lt
  obtain ⟨cs, i, cur, salt, cnt, hb, hi, hcur, hs0, hs1, hc0, hc1⟩ := hB
  have gs : ∀ X : O, (S.set b X)[b]? = some X := fun X => List.getElem?_set_self hlt
  have mm : (0 : Int) < m := by omega
  have p1 : evC (GG T gl k) (.six (.var 0) (.int 4) (.bin .add (.idx (.var 0) (.int 4)) (.int 1))) [some (.ref b), some (.int m), none, none, none, none] S = .nx [some (.ref b), some (.int m), none, none, none, none] (S.set b (bagO cs i cur salt (cnt + 1))) := by
    simp only [evE, evEs, evAnd, evOr, evL.eq_1, evL.eq_2, evL.eq_4, evL.eq_5, evL.eq_6, meT, meD, isLr, get_last, evI, evC.eq_1, evC.eq_2, evC.eq_3, evC.eq_4, evC.eq_5, evC.eq_6, evC.eq_7, evC.eq_8, evC.eq_9, evC.eq_10, evC.eq_13, evC.eq_14, evC.eq_15, evC.eq_16, evCs, GG_call, GG_raw, GG_glob, R.ne_ok, R.bd_ok, R.bd_err, R.bd_bad, opt_some, opt_none, R.th, Out.th, PyD.finish, PyD.start, List.map, List.length, List.replicate, List.getD_cons_zero, List.getD_cons_succ, List.set_cons_zero, List.set_cons_succ, List.cons_append, List.nil_append, if_true, if_false, Bool.false_eq_true, E.isNon, Option.map_some, Option.map_none, Option.bind_some, setAll, List.zip_cons_cons, List.zip_nil_left, List.foldl_cons, List.foldl_nil, truthB, cmpEqI, cmpNeI, cmpLt, cmpLe, cmpGt, cmpGe, isNon, binAdd, binSub, Bool.not_true, Bool.not_false, decide_true, decide_false, reduceCtorEq, Nat.reduceAdd, Nat.reduceSub, Nat.sub_self, Nat.sub_zero, Nat.zero_add, ofI, idx0, idx1, idx2, biAbs, biLenT, biLenL, biTupL, biTupT, sz0, sz1, sz2, sz3, sz4, sz5, sz6, sz7, sz8, idxRef, atI0, atI1, atI2, atI3, atI4, ix51, ix52, ix53, ix54, List.set_set, lstRef hb, hb, bagO, bagL]
  have p2 : ∃ a i' cur' salt', evC (GG T gl k) (.iff (.and (.cons (.cmp .eq (.idx (.var 0) (.int 2)) (.int 0)) (.cons (.cmp .lt (.idx (.var 0) (.int 1)) (.bi .len (.idx (.var 0) (.int 0)))) .nil))) (.cons (.set 2 (.idx (.idx (.var 0) (.int 0)) (.idx (.var 0) (.int 1)))) (.cons (.six (.var 0) (.int 1) (.bin .add (.idx (.var 0) (.int 1)) (.int 1))) (.cons (.iff (.cmp .ge (.var 2) (.bin .pow (.int 10) (.int 18))) (.cons (.six (.var 0) (.int 2) (.var 2)) .nil) (.cons (.six (.var 0) (.int 3) (.bin .mod (.bin .add (.bin .add (.bin .mul (.idx (.var 0) (.int 3)) (.int 69069)) (.bin .mul (.bin .mod (.var 2) (.int 2147483629)) (.int 40503))) (.int 11)) (.int 2147483563))) .nil)) .nil))) .nil) [some (.ref b), some (.int m), none, none, none, none] (S.set b (bagO cs i cur salt (cnt + 1))) = .nx [some (.ref b), some (.int m), a, none, none, none] (S.set b (bagO cs i' cur' salt' (cnt + 1))) ∧ 0 ≤ i' ∧ 0 ≤ cur' ∧ 0 ≤ salt' ∧ salt' < 2147483563 := by
    have g1 := lstRef (gs (bagO cs i cur salt (cnt + 1)))
    by_cases c1 : cur = 0
    · by_cases c2 : i < cs.length
      · have hat : ∃ z, cs[i.toNat]? = some z := ⟨_, List.getElem?_eq_getElem (by omega)⟩
        obtain ⟨z, hz⟩ := hat
        have hix : ∀ S : Store, idxD S (.lst (cs.map .int)) (.int i) = some (.int z) := fun S => idxLs S hi (by rw [List.getElem?_map, hz]; rfl)
        have g2 := lstRef (gs (bagO cs (i + 1) cur salt (cnt + 1)))
        by_cases c3 : (1000000000000000000 : Int) ≤ z
        · refine ⟨some (.int z), i + 1, z, salt, ?_, by omega, by omega, hs0, hs1⟩
          simp only [bagO, bagL] at g1 g2
          simp only [evE, evEs, evAnd, evOr, evL.eq_1, evL.eq_2, evL.eq_4, evL.eq_5, evL.eq_6, meT, meD, isLr, get_last, evI, evC.eq_1, evC.eq_2, evC.eq_3, evC.eq_4, evC.eq_5, evC.eq_6, evC.eq_7, evC.eq_8, evC.eq_9, evC.eq_10, evC.eq_13, evC.eq_14, evC.eq_15, evC.eq_16, evCs, GG_call, GG_raw, GG_glob, R.ne_ok, R.bd_ok, R.bd_err, R.bd_bad, opt_some, opt_none, R.th, Out.th, PyD.finish, PyD.start, List.map, List.length, List.replicate, List.getD_cons_zero, List.getD_cons_succ, List.set_cons_zero, List.set_cons_succ, List.cons_append, List.nil_append, if_true, if_false, Bool.false_eq_true, E.isNon, Option.map_some, Option.map_none, Option.bind_some, setAll, List.zip_cons_cons, List.zip_nil_left, List.foldl_cons, List.foldl_nil, truthB, cmpEqI, cmpNeI, cmpLt, cmpLe, cmpGt, cmpGe, isNon, binAdd, binSub, Bool.not_true, Bool.not_false, decide_true, decide_false, reduceCtorEq, Nat.reduceAdd, Nat.reduceSub, Nat.sub_self, Nat.sub_zero, Nat.zero_add, ofI, idx0, idx1, idx2, biAbs, biLenT, biLenL, biTupL, biTupT, sz0, sz1, sz2, sz3, sz4, sz5, sz6, sz7, sz8, idxRef, atI0, atI1, atI2, atI3, atI4, ix51, ix52, ix53, ix54, List.set_set, g1, g2, gs, bagO, bagL, decT c1, List.length_map, decT c2, hix, pow18, decT c3]
        · have hmod : bin (S.set b (bagO cs (i + 1) cur salt (cnt + 1))) .mod (.int z) (.int 2147483629) = some (.int (z % 2147483629)) := binMod _ (by omega)
          refine ⟨some (.int z), i + 1, cur, (salt * 69069 + z % 2147483629 * 40503 + 11) % 2147483563, ?_, by omega, by omega, by omega, by omega⟩
          have q1 := mulS (S.set b (bagO cs (i + 1) cur salt (cnt + 1))) (i := salt) (j := 69069) hs0 (by omega) (by omega) (by omega)
          have q2 := mulS (S.set b (bagO cs (i + 1) cur salt (cnt + 1))) (i := z % 2147483629) (j := 40503) (by omega) (by omega) (by omega) (by omega)
          have q3 : bin (S.set b (bagO cs (i + 1) cur salt (cnt + 1))) .mod (.int (salt * 69069 + z % 2147483629 * 40503 + 11)) (.int 2147483563) = some (.int ((salt * 69069 + z % 2147483629 * 40503 + 11) % 2147483563)) := binMod _ (by omega)
          simp only [bagO, bagL] at g1 g2 q1 q2 q3 hmod
          simp only [evE, evEs, evAnd, evOr, evL.eq_1, evL.eq_2, evL.eq_4, evL.eq_5, evL.eq_6, meT, meD, isLr, get_last, evI, evC.eq_1, evC.eq_2, evC.eq_3, evC.eq_4, evC.eq_5, evC.eq_6, evC.eq_7, evC.eq_8, evC.eq_9, evC.eq_10, evC.eq_13, evC.eq_14, evC.eq_15, evC.eq_16, evCs, GG_call, GG_raw, GG_glob, R.ne_ok, R.bd_ok, R.bd_err, R.bd_bad, opt_some, opt_none, R.th, Out.th, PyD.finish, PyD.start, List.map, List.length, List.replicate, List.getD_cons_zero, List.getD_cons_succ, List.set_cons_zero, List.set_cons_succ, List.cons_append, List.nil_append, if_true, if_false, Bool.false_eq_true, E.isNon, Option.map_some, Option.map_none, Option.bind_some, setAll, List.zip_cons_cons, List.zip_nil_left, List.foldl_cons, List.foldl_nil, truthB, cmpEqI, cmpNeI, cmpLt, cmpLe, cmpGt, cmpGe, isNon, binAdd, binSub, Bool.not_true, Bool.not_false, decide_true, decide_false, reduceCtorEq, Nat.reduceAdd, Nat.reduceSub, Nat.sub_self, Nat.sub_zero, Nat.zero_add, ofI, idx0, idx1, idx2, biAbs, biLenT, biLenL, biTupL, biTupT, sz0, sz1, sz2, sz3, sz4, sz5, sz6, sz7, sz8, idxRef, atI0, atI1, atI2, atI3, atI4, ix51, ix52, ix53, ix54, List.set_set, g1, g2, gs, bagO, bagL, decT c1, List.length_map, decT c2, hix, pow18, decF c3, hmod, q1, q2, q3]
      · refine ⟨none, i, cur, salt, ?_, hi, hcur, hs0, hs1⟩
        simp only [bagO, bagL] at g1
        simp only [evE, evEs, evAnd, evOr, evL.eq_1, evL.eq_2, evL.eq_4, evL.eq_5, evL.eq_6, meT, meD, isLr, get_last, evI, evC.eq_1, evC.eq_2, evC.eq_3, evC.eq_4, evC.eq_5, evC.eq_6, evC.eq_7, evC.eq_8, evC.eq_9, evC.eq_10, evC.eq_13, evC.eq_14, evC.eq_15, evC.eq_16, evCs, GG_call, GG_raw, GG_glob, R.ne_ok, R.bd_ok, R.bd_err, R.bd_bad, opt_some, opt_none, R.th, Out.th, PyD.finish, PyD.start, List.map, List.length, List.replicate, List.getD_cons_zero, List.getD_cons_succ, List.set_cons_zero, List.set_cons_succ, List.cons_append, List.nil_append, if_true, if_false, Bool.false_eq_true, E.isNon, Option.map_some, Option.map_none, Option.bind_some, setAll, List.zip_cons_cons, List.zip_nil_left, List.foldl_cons, List.foldl_nil, truthB, cmpEqI, cmpNeI, cmpLt, cmpLe, cmpGt, cmpGe, isNon, binAdd, binSub, Bool.not_true, Bool.not_false, decide_true, decide_false, reduceCtorEq, Nat.reduceAdd, Nat.reduceSub, Nat.sub_self, Nat.sub_zero, Nat.zero_add, ofI, idx0, idx1, idx2, biAbs, biLenT, biLenL, biTupL, biTupT, sz0, sz1, sz2, sz3, sz4, sz5, sz6, sz7, sz8, idxRef, atI0, atI1, atI2, atI3, atI4, ix51, ix52, ix53, ix54, List.set_set, g1, gs, bagO, bagL, decT c1, List.length_map, decF c2]
    · refine ⟨none, i, cur, salt, ?_, hi, hcur, hs0, hs1⟩
      simp only [bagO, bagL] at g1
      simp only [evE, evEs, evAnd, evOr, evL.eq_1, evL.eq_2, evL.eq_4, evL.eq_5, evL.eq_6, meT, meD, isLr, get_last, evI, evC.eq_1, evC.eq_2, evC.eq_3, evC.eq_4, evC.eq_5, evC.eq_6, evC.eq_7, evC.eq_8, evC.eq_9, evC.eq_10, evC.eq_13, evC.eq_14, evC.eq_15, evC.eq_16, evCs, GG_call, GG_raw, GG_glob, R.ne_ok, R.bd_ok, R.bd_err, R.bd_bad, opt_some, opt_none, R.th, Out.th, PyD.finish, PyD.start, List.map, List.length, List.replicate, List.getD_cons_zero, List.getD_cons_succ, List.set_cons_zero, List.set_cons_succ, List.cons_append, List.nil_append, if_true, if_false, Bool.false_eq_true, E.isNon, Option.map_some, Option.map_none, Option.bind_some, setAll, List.zip_cons_cons, List.zip_nil_left, List.foldl_cons, List.foldl_nil, truthB, cmpEqI, cmpNeI, cmpLt, cmpLe, cmpGt, cmpGe, isNon, binAdd, binSub, Bool.not_true, Bool.not_false, decide_true, decide_false, reduceCtorEq, Nat.reduceAdd, Nat.reduceSub, Nat.sub_self, Nat.sub_zero, Nat.zero_add, ofI, idx0, idx1, idx2, biAbs, biLenT, biLenL, biTupL, biTupT, sz0, sz1, sz2, sz3, sz4, sz5, sz6, sz7, sz8, idxRef, atI0, atI1, atI2, atI3, atI4, ix51, ix52, ix53, ix54, List.set_set, g1, gs, bagO, bagL, decF c1]
  obtain ⟨a, i', cur', salt', p2, hi', hcur', hs0', hs1'⟩ := p2
  rw [if_pos (show [D.ref b, D.int (m : Int)].length = c_law_pull.np from rfl)]
  show ∃ r S', PyD.finish false S.length (evCs (GG T gl k) c_law_pull.body [some (.ref b), some (.int m), none, none, none, none] S) = _ ∧ _
  unfold c_law_pull
  rw [cs_nx p1, cs_nx p2]
  have g1 := lstRef (gs (bagO cs i' cur' salt' (cnt + 1)))
  by_cases c1 : 0 < cur'
  · refine ⟨(cur' % m).toNat, S.set b (bagO cs i' (cur' / m) salt' (cnt + 1)), ?_, by have := Int.emod_lt_of_pos cur' mm; have := Int.emod_nonneg cur' (show (m : Int) ≠ 0 by omega); omega, ⟨cs, i', cur' / m, salt', cnt + 1, gs _, hi', Int.ediv_nonneg hcur' (by omega), hs0', hs1', by omega, by omega⟩, ⟨_, _, _, _, _, rfl⟩⟩
    have e1 := binMod (S.set b (bagO cs i' cur' salt' (cnt + 1))) (i := cur') mm
    have e2 := binDiv (S.set b (bagO cs i' cur' salt' (cnt + 1))) (i := cur') (divOk (j := (m : Int)) 200 mm (by omega) (by omega))
    have e3 : (((cur' % m).toNat : Nat) : Int) = cur' % m := by have := Int.emod_nonneg cur' (show (m : Int) ≠ 0 by omega); omega
    rw [e3]
    simp only [bagO, bagL] at g1 e1 e2
    simp only [evE, evEs, evAnd, evOr, evL.eq_1, evL.eq_2, evL.eq_4, evL.eq_5, evL.eq_6, meT, meD, isLr, get_last, evI, evC.eq_1, evC.eq_2, evC.eq_3, evC.eq_4, evC.eq_5, evC.eq_6, evC.eq_7, evC.eq_8, evC.eq_9, evC.eq_10, evC.eq_13, evC.eq_14, evC.eq_15, evC.eq_16, evCs, GG_call, GG_raw, GG_glob, R.ne_ok, R.bd_ok, R.bd_err, R.bd_bad, opt_some, opt_none, R.th, Out.th, PyD.finish, PyD.start, List.map, List.length, List.replicate, List.getD_cons_zero, List.getD_cons_succ, List.set_cons_zero, List.set_cons_succ, List.cons_append, List.nil_append, if_true, if_false, Bool.false_eq_true, E.isNon, Option.map_some, Option.map_none, Option.bind_some, setAll, List.zip_cons_cons, List.zip_nil_left, List.foldl_cons, List.foldl_nil, truthB, cmpEqI, cmpNeI, cmpLt, cmpLe, cmpGt, cmpGe, isNon, binAdd, binSub, Bool.not_true, Bool.not_false, decide_true, decide_false, reduceCtorEq, Nat.reduceAdd, Nat.reduceSub, Nat.sub_self, Nat.sub_zero, Nat.zero_add, ofI, idx0, idx1, idx2, biAbs, biLenT, biLenL, biTupL, biTupT, sz0, sz1, sz2, sz3, sz4, sz5, sz6, sz7, sz8, idxRef, atI0, atI1, atI2, atI3, atI4, ix51, ix52, ix53, ix54, List.set_set, g1, gs, bagO, bagL, decT c1, e1, e2]
  · have b1 : salt' * salt' ≤ 2147483563 * 2147483563 := mul_lt_i hs0' hs0' (by omega) (by omega)
    have b0 : 0 ≤ salt' * salt' := Int.mul_nonneg hs0' hs0'
    let X := salt' * salt' % 2147483629 * 16807 + salt' * 48271
    let Y := (X + 40692 + (cnt + 1)) % 2147483563
    have hY0 : 0 ≤ Y := Int.emod_nonneg _ (by omega)
    have hY1 : Y < 2147483563 := Int.emod_lt_of_pos _ (by omega)
    have hYc : 0 ≤ Y * (cnt + 1) := Int.mul_nonneg hY0 (by omega)
    have hYc2 : Y * (cnt + 1) ≤ 2147483563 * (2 ^ 64 + 1) := mul_lt_i hY0 (by omega) (by omega) (by omega)
    let Z := Y / 89 + Y % 7919 * 31 + Y * (cnt + 1) * 2147483629
    refine ⟨(Z % m).toNat, S.set b (bagO cs i' cur' Y (cnt + 1)), ?_, by have := Int.emod_lt_of_pos Z mm; have := Int.emod_nonneg Z (show (m : Int) ≠ 0 by omega); omega, ⟨cs, i', cur', Y, cnt + 1, gs _, hi', hcur', hY0, hY1, by omega, by omega⟩, ⟨_, _, _, _, _, rfl⟩⟩
    have e3 : (((Z % m).toNat : Nat) : Int) = Z % m := by have := Int.emod_nonneg Z (show (m : Int) ≠ 0 by omega); omega
    rw [e3]
    have q1 := mulS (S.set b (bagO cs i' cur' salt' (cnt + 1))) (i := salt') (j := salt') hs0' hs0' (by omega) (by omega)
    have q2 : bin (S.set b (bagO cs i' cur' salt' (cnt + 1))) .mod (.int (salt' * salt')) (.int 2147483629) = some (.int (salt' * salt' % 2147483629)) := binMod _ (by omega)
    have q3 := mulS (S.set b (bagO cs i' cur' salt' (cnt + 1))) (i := salt' * salt' % 2147483629) (j := 16807) (by omega) (by omega) (by omega) (by omega)
    have q4 := mulS (S.set b (bagO cs i' cur' salt' (cnt + 1))) (i := salt') (j := 48271) hs0' (by omega) (by omega) (by omega)
    have q5 : bin (S.set b (bagO cs i' cur' salt' (cnt + 1))) .mod (.int (X + 40692 + (cnt + 1))) (.int 2147483563) = some (.int Y) := binMod _ (by omega)
    have r1 : bin (S.set b (bagO cs i' cur' Y (cnt + 1))) .fdiv (.int Y) (.int 89) = some (.int (Y / 89)) := binDiv _ (divOk 7 (by omega) (by decide) (by omega))
    have r2 : bin (S.set b (bagO cs i' cur' Y (cnt + 1))) .mod (.int Y) (.int 7919) = some (.int (Y % 7919)) := binMod _ (by omega)
    have r3 := mulS (S.set b (bagO cs i' cur' Y (cnt + 1))) (i := Y % 7919) (j := 31) (by omega) (by omega) (by omega) (by omega)
    have r4 := mulS (S.set b (bagO cs i' cur' Y (cnt + 1))) (i := Y) (j := cnt + 1) (by omega) (by omega) (by omega) (by omega)
    have r5 := mulS (S.set b (bagO cs i' cur' Y (cnt + 1))) (i := Y * (cnt + 1)) (j := 2147483629) (by omega) (by omega) (by omega) (by omega)
    have r6 := binMod (S.set b (bagO cs i' cur' Y (cnt + 1))) (i := Z) mm
    have g2 := lstRef (gs (bagO cs i' cur' Y (cnt + 1)))
    simp only [bagO, bagL] at g1 g2 q1 q2 q3 q4 q5 r1 r2 r3 r4 r5 r6
    simp only [X, Y, Z] at *
    simp only [evE, evEs, evAnd, evOr, evL.eq_1, evL.eq_2, evL.eq_4, evL.eq_5, evL.eq_6, meT, meD, isLr, get_last, evI, evC.eq_1, evC.eq_2, evC.eq_3, evC.eq_4, evC.eq_5, evC.eq_6, evC.eq_7, evC.eq_8, evC.eq_9, evC.eq_10, evC.eq_13, evC.eq_14, evC.eq_15, evC.eq_16, evCs, GG_call, GG_raw, GG_glob, R.ne_ok, R.bd_ok, R.bd_err, R.bd_bad, opt_some, opt_none, R.th, Out.th, PyD.finish, PyD.start, List.map, List.length, List.replicate, List.getD_cons_zero, List.getD_cons_succ, List.set_cons_zero, List.set_cons_succ, List.cons_append, List.nil_append, if_true, if_false, Bool.false_eq_true, E.isNon, Option.map_some, Option.map_none, Option.bind_some, setAll, List.zip_cons_cons, List.zip_nil_left, List.foldl_cons, List.foldl_nil, truthB, cmpEqI, cmpNeI, cmpLt, cmpLe, cmpGt, cmpGe, isNon, binAdd, binSub, Bool.not_true, Bool.not_false, decide_true, decide_false, reduceCtorEq, Nat.reduceAdd, Nat.reduceSub, Nat.sub_self, Nat.sub_zero, Nat.zero_add, ofI, idx0, idx1, idx2, biAbs, biLenT, biLenL, biTupL, biTupT, sz0, sz1, sz2, sz3, sz4, sz5, sz6, sz7, sz8, idxRef, atI0, atI1, atI2, atI3, atI4, ix51, ix52, ix53, ix54, List.set_set, g1, g2, gs, bagO, bagL, decF c1, q1, q2, q3, q4, q5, r1, r2, r3, r4, r5, r6]
end CA

namespace CA
open PySem PyD
variable {T : Str → Option Fn} {gl : Str → Option D}
theorem lgcd_sp (h : Has T gl) (S : Store) (a n k : Nat) (hk : 1 ≤ k) : callN T gl k "_law_gcd" [.int a, .int n] S = .ok (.int (Nat.gcd n a : Nat)) S := by
  obtain ⟨k, rfl⟩ : ∃ q, k = q + 1 := ⟨k - 1, by omega⟩
  rw [call_law_gcd h]
  simp only [c_law_gcd, evE, evEs, evAnd, evOr, evL.eq_1, evL.eq_2, evL.eq_4, evL.eq_5, evL.eq_6, meT, meD, isLr, get_last, evI, evC.eq_1, evC.eq_2, evC.eq_3, evC.eq_4, evC.eq_5, evC.eq_6, evC.eq_7, evC.eq_8, evC.eq_9, evC.eq_10, evC.eq_13, evC.eq_14, evC.eq_15, evC.eq_16, evCs, GG_call, GG_raw, GG_glob, R.ne_ok, R.bd_ok, R.bd_err, R.bd_bad, opt_some, opt_none, R.th, Out.th, PyD.finish, PyD.start, List.map, List.length, List.replicate, List.getD_cons_zero, List.getD_cons_succ, List.set_cons_zero, List.set_cons_succ, List.cons_append, List.nil_append, if_true, if_false, Bool.false_eq_true, E.isNon, Option.map_some, Option.map_none, Option.bind_some, setAll, List.zip_cons_cons, List.zip_nil_left, List.foldl_cons, List.foldl_nil, truthB, cmpEqI, cmpNeI, cmpLt, cmpLe, cmpGt, cmpGe, isNon, binAdd, binSub, Bool.not_true, Bool.not_false, decide_true, decide_false, reduceCtorEq, Nat.reduceAdd, Nat.reduceSub, Nat.sub_self, Nat.sub_zero, Nat.zero_add, ofI, idx0, idx1, idx2, biAbs, biLenT, biLenL, biTupL, biTupT, sz0, sz1, sz2, sz3, sz4, sz5, sz6, sz7, sz8, gcd_nat]
theorem llow_sp (h : Has T gl) (S : Store) (i : Int) (n k b : Nat) (hn : n ≠ 0) (hb : n < 2 ^ b) (hb2 : b < 9000) (hk : 2 ≤ k) : callN T gl k "_law_low" [.int i, .int n] S = .ok (pt (Rat.normalize i n hn)) S := by
  obtain ⟨k, rfl⟩ : ∃ q, k = q + 1 := ⟨k - 1, by omega⟩
  rw [call_law_low h]
  have h0 : 0 < n := by omega
  have hg : 0 < Nat.gcd n i.natAbs := Nat.gcd_pos_of_pos_left _ h0
  have hle : Nat.gcd n i.natAbs ≤ n := Nat.gcd_le_left _ h0
  have hd : intDivOk ((Nat.gcd n i.natAbs : Nat) : Int) := divOk b (by omega) (by rw [Int.natAbs_natCast]; omega) hb2
  simp only [c_law_low, evE, evEs, evAnd, evOr, evL.eq_1, evL.eq_2, evL.eq_4, evL.eq_5, evL.eq_6, meT, meD, isLr, get_last, evI, evC.eq_1, evC.eq_2, evC.eq_3, evC.eq_4, evC.eq_5, evC.eq_6, evC.eq_7, evC.eq_8, evC.eq_9, evC.eq_10, evC.eq_13, evC.eq_14, evC.eq_15, evC.eq_16, evCs, GG_call, GG_raw, GG_glob, R.ne_ok, R.bd_ok, R.bd_err, R.bd_bad, opt_some, opt_none, R.th, Out.th, PyD.finish, PyD.start, List.map, List.length, List.replicate, List.getD_cons_zero, List.getD_cons_succ, List.set_cons_zero, List.set_cons_succ, List.cons_append, List.nil_append, if_true, if_false, Bool.false_eq_true, E.isNon, Option.map_some, Option.map_none, Option.bind_some, setAll, List.zip_cons_cons, List.zip_nil_left, List.foldl_cons, List.foldl_nil, truthB, cmpEqI, cmpNeI, cmpLt, cmpLe, cmpGt, cmpGe, isNon, binAdd, binSub, Bool.not_true, Bool.not_false, decide_true, decide_false, reduceCtorEq, Nat.reduceAdd, Nat.reduceSub, Nat.sub_self, Nat.sub_zero, Nat.zero_add, ofI, idx0, idx1, idx2, biAbs, biLenT, biLenL, biTupL, biTupT, sz0, sz1, sz2, sz3, sz4, sz5, sz6, sz7, sz8, abs_nat, lgcd_sp h S i.natAbs n k (by omega), binDiv S hd]
  simp only [pt, Rat.normalize_eq, Nat.gcd_comm n i.natAbs, Int.natCast_ediv]
theorem ladd_sp (h : Has T gl) (S : Store) {p q : Rat} {a b : Nat} (hp : Bd p a) (hq : Bd q b) (hs : a + b < 8000) (k : Nat) (hk : 3 ≤ k) : callN T gl k "_law_add" [pt p, pt q] S = .ok (pt (p + q)) S := by
  obtain ⟨k, rfl⟩ : ∃ q, k = q + 1 := ⟨k - 1, by omega⟩
  rw [call_law_add h]
  have e1 := binMul S (mulOk (i := p.num) (j := q.den) a b hp.1 hq.2 (by omega))
  have e2 := binMul S (mulOk (i := q.num) (j := p.den) b a hq.1 hp.2 (by omega))
  have e3 := binMul S (mulOk (i := p.den) (j := q.den) a b hp.2 hq.2 (by omega))
  have e4 := llow_sp h S (p.num * q.den + q.num * p.den) (p.den * q.den) k (a + b) (Nat.mul_ne_zero p.den_nz q.den_nz) (mul_lt hp.2 hq.2) (by omega) (by omega)
  rw [Int.natCast_mul] at e4
  simp only [c_law_add, evE, evEs, evAnd, evOr, evL.eq_1, evL.eq_2, evL.eq_4, evL.eq_5, evL.eq_6, meT, meD, isLr, get_last, evI, evC.eq_1, evC.eq_2, evC.eq_3, evC.eq_4, evC.eq_5, evC.eq_6, evC.eq_7, evC.eq_8, evC.eq_9, evC.eq_10, evC.eq_13, evC.eq_14, evC.eq_15, evC.eq_16, evCs, GG_call, GG_raw, GG_glob, R.ne_ok, R.bd_ok, R.bd_err, R.bd_bad, opt_some, opt_none, R.th, Out.th, PyD.finish, PyD.start, List.map, List.length, List.replicate, List.getD_cons_zero, List.getD_cons_succ, List.set_cons_zero, List.set_cons_succ, List.cons_append, List.nil_append, if_true, if_false, Bool.false_eq_true, E.isNon, Option.map_some, Option.map_none, Option.bind_some, setAll, List.zip_cons_cons, List.zip_nil_left, List.foldl_cons, List.foldl_nil, truthB, cmpEqI, cmpNeI, cmpLt, cmpLe, cmpGt, cmpGe, isNon, binAdd, binSub, Bool.not_true, Bool.not_false, decide_true, decide_false, reduceCtorEq, Nat.reduceAdd, Nat.reduceSub, Nat.sub_self, Nat.sub_zero, Nat.zero_add, ofI, idx0, idx1, idx2, biAbs, biLenT, biLenL, biTupL, biTupT, sz0, sz1, sz2, sz3, sz4, sz5, sz6, sz7, sz8, pt_num, pt_den, e1, e2, e3, e4]
  rw [Rat.add_def]
theorem lmul_sp (h : Has T gl) (S : Store) {p q : Rat} {a b : Nat} (hp : Bd p a) (hq : Bd q b) (hs : a + b < 8000) (k : Nat) (hk : 3 ≤ k) : callN T gl k "_law_mul" [pt p, pt q] S = .ok (pt (p * q)) S := by
  obtain ⟨k, rfl⟩ : ∃ q, k = q + 1 := ⟨k - 1, by omega⟩
  rw [call_law_mul h]
  have e1 := binMul S (mulOk (i := p.num) (j := q.num) a b hp.1 hq.1 (by omega))
  have e3 := binMul S (mulOk (i := p.den) (j := q.den) a b hp.2 hq.2 (by omega))
  have e4 := llow_sp h S (p.num * q.num) (p.den * q.den) k (a + b) (Nat.mul_ne_zero p.den_nz q.den_nz) (mul_lt hp.2 hq.2) (by omega) (by omega)
  rw [Int.natCast_mul] at e4
  simp only [c_law_mul, evE, evEs, evAnd, evOr, evL.eq_1, evL.eq_2, evL.eq_4, evL.eq_5, evL.eq_6, meT, meD, isLr, get_last, evI, evC.eq_1, evC.eq_2, evC.eq_3, evC.eq_4, evC.eq_5, evC.eq_6, evC.eq_7, evC.eq_8, evC.eq_9, evC.eq_10, evC.eq_13, evC.eq_14, evC.eq_15, evC.eq_16, evCs, GG_call, GG_raw, GG_glob, R.ne_ok, R.bd_ok, R.bd_err, R.bd_bad, opt_some, opt_none, R.th, Out.th, PyD.finish, PyD.start, List.map, List.length, List.replicate, List.getD_cons_zero, List.getD_cons_succ, List.set_cons_zero, List.set_cons_succ, List.cons_append, List.nil_append, if_true, if_false, Bool.false_eq_true, E.isNon, Option.map_some, Option.map_none, Option.bind_some, setAll, List.zip_cons_cons, List.zip_nil_left, List.foldl_cons, List.foldl_nil, truthB, cmpEqI, cmpNeI, cmpLt, cmpLe, cmpGt, cmpGe, isNon, binAdd, binSub, Bool.not_true, Bool.not_false, decide_true, decide_false, reduceCtorEq, Nat.reduceAdd, Nat.reduceSub, Nat.sub_self, Nat.sub_zero, Nat.zero_add, ofI, idx0, idx1, idx2, biAbs, biLenT, biLenL, biTupL, biTupT, sz0, sz1, sz2, sz3, sz4, sz5, sz6, sz7, sz8, pt_num, pt_den, e1, e3, e4]
  rw [Rat.mul_def]
def sqR (l : List Rat) : Rat := l.foldl (fun a p => a + p * p) 0
theorem bd0 {b : Nat} (hb : 1 ≤ b) : Bd 0 b := by
  have : 2 ^ 1 ≤ 2 ^ b := Nat.pow_le_pow_right (by omega) hb
  exact ⟨by show 0 < _; omega, by show 1 < _; omega⟩
theorem lsquare_sp (h : Has T gl) (S : Store) {l : List Rat} {b : Nat} (hl : BdR l b) (hn : l.length ≤ 3) (hb : b < 500) (k : Nat) (hk : 4 ≤ k) : callN T gl k "_law_square" [row l] S = .ok (pt (sqR l)) S ∧ Bd (sqR l) (1 + 3 * (2 * b + 2)) := by
  obtain ⟨k, rfl⟩ : ∃ q, k = q + 1 := ⟨k - 1, by omega⟩
  rw [call_law_square h]
  have hf := f_inv (g := GG T gl k) (tg := .one 2) (it := .seq (.var 0)) (a := (.cons (.set 1 (.call false "_law_add" (.cons (.var 1) (.cons (.call false "_law_mul" (.cons (.var 2) (.cons (.var 2) .nil))) .nil)))) .nil))
    (ρ := [some (row l), some (pt 0), none]) (S := S) (S1 := S) (t := ⟨l.map pt, []⟩)
    (fun xs ρ S' => ∃ done rest a, l = done ++ rest ∧ xs = rest.map pt ∧ ρ = [some (row l), some (pt (sqR done)), a] ∧ S' = S ∧ Bd (sqR done) (1 + done.length * (2 * b + 2)))
    (by simp only [evE, evEs, evAnd, evOr, evL.eq_1, evL.eq_2, evL.eq_4, evL.eq_5, evL.eq_6, meT, meD, isLr, get_last, evI, evC.eq_1, evC.eq_2, evC.eq_3, evC.eq_4, evC.eq_5, evC.eq_6, evC.eq_7, evC.eq_8, evC.eq_9, evC.eq_10, evC.eq_13, evC.eq_14, evC.eq_15, evC.eq_16, evCs, GG_call, GG_raw, GG_glob, R.ne_ok, R.bd_ok, R.bd_err, R.bd_bad, opt_some, opt_none, R.th, Out.th, PyD.finish, PyD.start, List.map, List.length, List.replicate, List.getD_cons_zero, List.getD_cons_succ, List.set_cons_zero, List.set_cons_succ, List.cons_append, List.nil_append, if_true, if_false, Bool.false_eq_true, E.isNon, Option.map_some, Option.map_none, Option.bind_some, setAll, List.zip_cons_cons, List.zip_nil_left, List.foldl_cons, List.foldl_nil, truthB, cmpEqI, cmpNeI, cmpLt, cmpLe, cmpGt, cmpGe, isNon, binAdd, binSub, Bool.not_true, Bool.not_false, decide_true, decide_false, reduceCtorEq, Nat.reduceAdd, Nat.reduceSub, Nat.sub_self, Nat.sub_zero, Nat.zero_add, ofI, idx0, idx1, idx2, biAbs, biLenT, biLenL, biTupL, biTupT, sz0, sz1, sz2, sz3, sz4, sz5, sz6, sz7, sz8, seqRow]) (fun _ _ _ _ => still_nil _ _) ?step ⟨[], l, none, rfl, rfl, rfl, rfl, bd0 (by omega)⟩
  case step =>
    rintro x xs ρ S' ⟨done, rest, a, e1, e2, rfl, rfl, hd⟩
    cases rest with
    | nil => cases e2
    | cons y rest =>
      cases e2
      have hy := hl y (by rw [e1]; simp)
      have hlen : done.length + rest.length + 1 ≤ 3 := by
        have : (done ++ y :: rest).length ≤ 3 := by rw [← e1]; exact hn
        simp only [List.length_append, List.length_cons] at this; omega
      have hbb : done.length * (2 * b + 2) ≤ 3 * (2 * b + 2) := Nat.mul_le_mul_right _ (by omega)
      have es : sqR (done ++ [y]) = sqR done + y * y := by simp [sqR]
      refine ⟨[some (row l), some (pt (sqR done)), some (pt y)], [some (row l), some (pt (sqR done + y * y)), some (pt y)], S', rfl, ?_, done ++ [y], rest, _, by rw [e1]; simp, rfl, by rw [es], rfl, ?_⟩
      · simp only [evE, evEs, evAnd, evOr, evL.eq_1, evL.eq_2, evL.eq_4, evL.eq_5, evL.eq_6, meT, meD, isLr, get_last, evI, evC.eq_1, evC.eq_2, evC.eq_3, evC.eq_4, evC.eq_5, evC.eq_6, evC.eq_7, evC.eq_8, evC.eq_9, evC.eq_10, evC.eq_13, evC.eq_14, evC.eq_15, evC.eq_16, evCs, GG_call, GG_raw, GG_glob, R.ne_ok, R.bd_ok, R.bd_err, R.bd_bad, opt_some, opt_none, R.th, Out.th, PyD.finish, PyD.start, List.map, List.length, List.replicate, List.getD_cons_zero, List.getD_cons_succ, List.set_cons_zero, List.set_cons_succ, List.cons_append, List.nil_append, if_true, if_false, Bool.false_eq_true, E.isNon, Option.map_some, Option.map_none, Option.bind_some, setAll, List.zip_cons_cons, List.zip_nil_left, List.foldl_cons, List.foldl_nil, truthB, cmpEqI, cmpNeI, cmpLt, cmpLe, cmpGt, cmpGe, isNon, binAdd, binSub, Bool.not_true, Bool.not_false, decide_true, decide_false, reduceCtorEq, Nat.reduceAdd, Nat.reduceSub, Nat.sub_self, Nat.sub_zero, Nat.zero_add, ofI, idx0, idx1, idx2, biAbs, biLenT, biLenL, biTupL, biTupT, sz0, sz1, sz2, sz3, sz4, sz5, sz6, sz7, sz8, lmul_sp h S' hy hy (by omega) k (by omega), ladd_sp h S' hd (hy.mul hy) (by omega) k (by omega)]
      · rw [es]
        refine (hd.add (hy.mul hy)).mono ?_
        rw [List.length_append, Nat.add_mul]
        simp only [List.length_cons, List.length_nil]
        omega
  obtain ⟨ρ2, S2, hev, done, rest, a, e1, e2, rfl, rfl, hd⟩ := hf
  have : rest = [] := by cases rest with | nil => rfl | cons y r => cases e2
  subst this
  rw [List.append_nil] at e1
  subst e1
  have hbb : l.length * (2 * b + 2) ≤ 3 * (2 * b + 2) := Nat.mul_le_mul_right _ (by omega)
  have e0 : D.tup [.int 0, .int 1] = pt 0 := rfl
  exact ⟨by simp only [c_law_square, evE, evEs, evAnd, evOr, evL.eq_1, evL.eq_2, evL.eq_4, evL.eq_5, evL.eq_6, meT, meD, isLr, get_last, evI, evC.eq_1, evC.eq_2, evC.eq_3, evC.eq_4, evC.eq_5, evC.eq_6, evC.eq_7, evC.eq_8, evC.eq_9, evC.eq_10, evC.eq_13, evC.eq_14, evC.eq_15, evC.eq_16, evCs, GG_call, GG_raw, GG_glob, R.ne_ok, R.bd_ok, R.bd_err, R.bd_bad, opt_some, opt_none, R.th, Out.th, PyD.finish, PyD.start, List.map, List.length, List.replicate, List.getD_cons_zero, List.getD_cons_succ, List.set_cons_zero, List.set_cons_succ, List.cons_append, List.nil_append, if_true, if_false, Bool.false_eq_true, E.isNon, Option.map_some, Option.map_none, Option.bind_some, setAll, List.zip_cons_cons, List.zip_nil_left, List.foldl_cons, List.foldl_nil, truthB, cmpEqI, cmpNeI, cmpLt, cmpLe, cmpGt, cmpGe, isNon, binAdd, binSub, Bool.not_true, Bool.not_false, decide_true, decide_false, reduceCtorEq, Nat.reduceAdd, Nat.reduceSub, Nat.sub_self, Nat.sub_zero, Nat.zero_add, ofI, idx0, idx1, idx2, biAbs, biLenT, biLenL, biTupL, biTupT, sz0, sz1, sz2, sz3, sz4, sz5, sz6, sz7, sz8, e0, hev], hd.mono (by omega)⟩
theorem pos_of_num {q : Rat} (h : 0 < q.num) : 0 < q := by
  refine Rat.not_le.1 fun h1 => ?_
  have h2 : 0 ≤ -q := by grind
  have := Rat.num_nonneg.2 h2
  rw [Rat.neg_num] at this
  omega
theorem norm_pos {i : Int} {n : Nat} (hn : n ≠ 0) (hi : 0 < i) : 0 < Rat.normalize i n hn := by
  apply pos_of_num
  rw [Rat.normalize_eq]
  show 0 < i / ((i.natAbs.gcd n : Nat) : Int)
  have hd : ((i.natAbs.gcd n : Nat) : Int) ∣ i := Int.ofNat_dvd_left.2 (Nat.gcd_dvd_left _ _)
  have hg : 0 < i.natAbs.gcd n := Nat.gcd_pos_of_pos_right _ (by omega)
  exact Int.ediv_pos_of_pos_of_dvd hi (by omega) hd
theorem lsmall_sp (h : Has T gl) (S : Store) {b c : Nat} (hB : BagAt S b c) (hc : c < 2 ^ 60) (k : Nat) (hk : 3 ≤ k) :
    ∃ (q : Rat) (S' : Store), callN T gl k "_law_small" [.ref b] S = .ok (pt q) S' ∧ Bd q 5 ∧ BagAt S' b (c + 2) ∧ Fr b S S' := by
  obtain ⟨k, rfl⟩ : ∃ q, k = q + 1 := ⟨k - 1, by omega⟩
  rw [call_law_small h]
  obtain ⟨r, S1, e1, hr, hB1, f1⟩ := pull_sp h S hB (by omega) (m := 25) (by omega) (by omega) k (by omega)
  obtain ⟨r2, S2, e2, hr2, hB2, f2⟩ := pull_sp h S1 hB1 (by omega) (m := 6) (by omega) (by omega) k (by omega)
  have hd : ∃ d : Nat, ([.int 1, .int 1, .int 1, .int 2, .int 3, .int 4] : List D)[r2]? = some (.int d) ∧ 1 ≤ d ∧ d ≤ 4 := by
    have : r2 = 0 ∨ r2 = 1 ∨ r2 = 2 ∨ r2 = 3 ∨ r2 = 4 ∨ r2 = 5 := by omega
    rcases this with rfl | rfl | rfl | rfl | rfl | rfl
    · exact ⟨1, rfl, by omega, by omega⟩
    · exact ⟨1, rfl, by omega, by omega⟩
    · exact ⟨1, rfl, by omega, by omega⟩
    · exact ⟨2, rfl, by omega, by omega⟩
    · exact ⟨3, rfl, by omega, by omega⟩
    · exact ⟨4, rfl, by omega, by omega⟩
  obtain ⟨d, hd, d1, d4⟩ := hd
  have e3 : idxD S2 (.lst [.int 1, .int 1, .int 1, .int 2, .int 3, .int 4]) (.int r2) = some (.int d) := idxLs S2 (by omega) (by rw [Int.toNat_natCast]; exact hd)
  have hn : d ≠ 0 := by omega
  have e4 := llow_sp h S2 ((r : Int) - 12) d k 5 hn (by omega) (by omega) (by omega)
  simp only [Int.ofNat_eq_natCast, Int.cast_ofNat_Int] at e1 e2
  refine ⟨Rat.normalize ((r : Int) - 12) d hn, S2, by simp only [c_law_small, evE, evEs, evAnd, evOr, evL.eq_1, evL.eq_2, evL.eq_4, evL.eq_5, evL.eq_6, meT, meD, isLr, get_last, evI, evC.eq_1, evC.eq_2, evC.eq_3, evC.eq_4, evC.eq_5, evC.eq_6, evC.eq_7, evC.eq_8, evC.eq_9, evC.eq_10, evC.eq_13, evC.eq_14, evC.eq_15, evC.eq_16, evCs, GG_call, GG_raw, GG_glob, R.ne_ok, R.bd_ok, R.bd_err, R.bd_bad, opt_some, opt_none, R.th, Out.th, PyD.finish, PyD.start, List.map, List.length, List.replicate, List.getD_cons_zero, List.getD_cons_succ, List.set_cons_zero, List.set_cons_succ, List.cons_append, List.nil_append, if_true, if_false, Bool.false_eq_true, E.isNon, Option.map_some, Option.map_none, Option.bind_some, setAll, List.zip_cons_cons, List.zip_nil_left, List.foldl_cons, List.foldl_nil, truthB, cmpEqI, cmpNeI, cmpLt, cmpLe, cmpGt, cmpGe, isNon, binAdd, binSub, Bool.not_true, Bool.not_false, decide_true, decide_false, reduceCtorEq, Nat.reduceAdd, Nat.reduceSub, Nat.sub_self, Nat.sub_zero, Nat.zero_add, ofI, idx0, idx1, idx2, biAbs, biLenT, biLenL, biTupL, biTupT, sz0, sz1, sz2, sz3, sz4, sz5, sz6, sz7, sz8, e1, e2, e3, e4], norm_bd hn (by omega) (by omega), hB2, f1.trans f2⟩
theorem lrow_sp (h : Has T gl) (S : Store) {b c : Nat} (hB : BagAt S b c) (hc : c < 2 ^ 50) (m : Nat) (hm : m ≤ 3) (k : Nat) (hk : 4 ≤ k) :
    ∃ (l : List Rat) (S' : Store), callN T gl k "_law_row" [.ref b, .int m] S = .ok (row l) S' ∧ l.length = m ∧ BdR l 5 ∧ BagAt S' b (c + 6) ∧ Fr b S S' := by
  obtain ⟨k, rfl⟩ : ∃ q, k = q + 1 := ⟨k - 1, by omega⟩
  rw [call_law_row h]
  have hr : rngD [.int m] = some (0, m) := by
    simp only [rngD]
    rw [need_of (by omega)]; congr 2
  obtain ⟨ys, S2, hev, rest, l, h1, h2, h3, h4, h5, h6⟩ := l_inv (g := GG T gl k) (ρ := [some (.ref b), some (.int m), none]) (own := [("_law_spot", 2)]) (tg := .one 2) (it := .rng (.cons (.var 1) .nil)) (elt := .call false "_law_small" (.cons (.var 0) .nil)) (S := S) (S1 := S) (t := ⟨PyD.upTo 0 m, []⟩)
    (fun xs acc S' => ∃ (rest : List D) (l : List Rat), xs = rest ∧ acc = l.map pt ∧ rest.length + l.length = m ∧ BdR l 5 ∧ BagAt S' b (c + 2 * l.length) ∧ Fr b S S')
    (by simp only [evE, evEs, evAnd, evOr, evL.eq_1, evL.eq_2, evL.eq_4, evL.eq_5, evL.eq_6, meT, meD, isLr, get_last, evI, evC.eq_1, evC.eq_2, evC.eq_3, evC.eq_4, evC.eq_5, evC.eq_6, evC.eq_7, evC.eq_8, evC.eq_9, evC.eq_10, evC.eq_13, evC.eq_14, evC.eq_15, evC.eq_16, evCs, GG_call, GG_raw, GG_glob, R.ne_ok, R.bd_ok, R.bd_err, R.bd_bad, opt_some, opt_none, R.th, Out.th, PyD.finish, PyD.start, List.map, List.length, List.replicate, List.getD_cons_zero, List.getD_cons_succ, List.set_cons_zero, List.set_cons_succ, List.cons_append, List.nil_append, if_true, if_false, Bool.false_eq_true, E.isNon, Option.map_some, Option.map_none, Option.bind_some, setAll, List.zip_cons_cons, List.zip_nil_left, List.foldl_cons, List.foldl_nil, truthB, cmpEqI, cmpNeI, cmpLt, cmpLe, cmpGt, cmpGe, isNon, binAdd, binSub, Bool.not_true, Bool.not_false, decide_true, decide_false, reduceCtorEq, Nat.reduceAdd, Nat.reduceSub, Nat.sub_self, Nat.sub_zero, Nat.zero_add, ofI, idx0, idx1, idx2, biAbs, biLenT, biLenL, biTupL, biTupT, sz0, sz1, sz2, sz3, sz4, sz5, sz6, sz7, sz8, hr]) (fun xs acc S' ⟨rest, l, h1, h2, h3, _⟩ => ⟨still_nil _ _, by subst h1 h2; rw [List.length_map]; omega⟩)
    (by
      rintro x xs acc S' ⟨rest, l, h1, h2, h3, h4, h5, h6⟩
      subst h1 h2
      simp only [List.length_cons] at h3
      obtain ⟨q, S3, e1, hq, hB3, f3⟩ := lsmall_sp h S' h5 (by omega) k (by omega)
      refine ⟨[some (.ref b), some (.int m), some x], pt q, S3, rfl, by simp only [evE, evEs, evAnd, evOr, evL.eq_1, evL.eq_2, evL.eq_4, evL.eq_5, evL.eq_6, meT, meD, isLr, get_last, evI, evC.eq_1, evC.eq_2, evC.eq_3, evC.eq_4, evC.eq_5, evC.eq_6, evC.eq_7, evC.eq_8, evC.eq_9, evC.eq_10, evC.eq_13, evC.eq_14, evC.eq_15, evC.eq_16, evCs, GG_call, GG_raw, GG_glob, R.ne_ok, R.bd_ok, R.bd_err, R.bd_bad, opt_some, opt_none, R.th, Out.th, PyD.finish, PyD.start, List.map, List.length, List.replicate, List.getD_cons_zero, List.getD_cons_succ, List.set_cons_zero, List.set_cons_succ, List.cons_append, List.nil_append, if_true, if_false, Bool.false_eq_true, E.isNon, Option.map_some, Option.map_none, Option.bind_some, setAll, List.zip_cons_cons, List.zip_nil_left, List.foldl_cons, List.foldl_nil, truthB, cmpEqI, cmpNeI, cmpLt, cmpLe, cmpGt, cmpGe, isNon, binAdd, binSub, Bool.not_true, Bool.not_false, decide_true, decide_false, reduceCtorEq, Nat.reduceAdd, Nat.reduceSub, Nat.sub_self, Nat.sub_zero, Nat.zero_add, ofI, idx0, idx1, idx2, biAbs, biLenT, biLenL, biTupL, biTupT, sz0, sz1, sz2, sz3, sz4, sz5, sz6, sz7, sz8, e1], xs, l ++ [q], rfl, by simp, by simp only [List.length_append, List.length_cons, List.length_nil]; omega, ?_, ?_, h6.trans f3⟩
      · intro y hy
        rcases List.mem_append.1 hy with hy | hy
        · exact h4 y hy
        · rw [List.mem_singleton] at hy; subst hy; exact hq
      · exact hB3.mono (by simp only [List.length_append, List.length_cons, List.length_nil]; omega))
    ⟨PyD.upTo 0 m, [], rfl, rfl, by simp [PyD.upTo], fun q hq => (nomatch hq), hB, hB.fr⟩
  subst h1 h2
  simp only [List.length_nil] at h3
  refine ⟨l, S2, by simp only [c_law_row, evE, evEs, evAnd, evOr, evL.eq_1, evL.eq_2, evL.eq_4, evL.eq_5, evL.eq_6, meT, meD, isLr, get_last, evI, evC.eq_1, evC.eq_2, evC.eq_3, evC.eq_4, evC.eq_5, evC.eq_6, evC.eq_7, evC.eq_8, evC.eq_9, evC.eq_10, evC.eq_13, evC.eq_14, evC.eq_15, evC.eq_16, evCs, GG_call, GG_raw, GG_glob, R.ne_ok, R.bd_ok, R.bd_err, R.bd_bad, opt_some, opt_none, R.th, Out.th, PyD.finish, PyD.start, List.map, List.length, List.replicate, List.getD_cons_zero, List.getD_cons_succ, List.set_cons_zero, List.set_cons_succ, List.cons_append, List.nil_append, if_true, if_false, Bool.false_eq_true, E.isNon, Option.map_some, Option.map_none, Option.bind_some, setAll, List.zip_cons_cons, List.zip_nil_left, List.foldl_cons, List.foldl_nil, truthB, cmpEqI, cmpNeI, cmpLt, cmpLe, cmpGt, cmpGe, isNon, binAdd, binSub, Bool.not_true, Bool.not_false, decide_true, decide_false, reduceCtorEq, Nat.reduceAdd, Nat.reduceSub, Nat.sub_self, Nat.sub_zero, Nat.zero_add, ofI, idx0, idx1, idx2, biAbs, biLenT, biLenL, biTupL, biTupT, sz0, sz1, sz2, sz3, sz4, sz5, sz6, sz7, sz8, hev]; rfl, by omega, h4, h5.mono (by omega), h6⟩
theorem lstretch_sp (h : Has T gl) (S : Store) {b c : Nat} (hB : BagAt S b c) (hc : c < 2 ^ 50) (k : Nat) (hk : 3 ≤ k) :
    ∃ (q : Rat) (S' : Store), callN T gl k "_law_stretch" [.ref b] S = .ok (pt q) S' ∧ 0 < q ∧ Bd q 5 ∧ BagAt S' b (c + 4) ∧ Fr b S S' := by
  obtain ⟨k, rfl⟩ : ∃ q, k = q + 1 := ⟨k - 1, by omega⟩
  rw [call_law_stretch h]
  obtain ⟨r, S1, e1, hr, hB1, f1⟩ := pull_sp h S hB (by omega) (m := 4) (by omega) (by omega) k (by omega)
  have hd : ∃ d : Nat, ([.int 1, .int 1, .int 4, .int 12] : List D)[r]? = some (.int d) ∧ 1 ≤ d ∧ d ≤ 12 := by
    have : r = 0 ∨ r = 1 ∨ r = 2 ∨ r = 3 := by omega
    rcases this with rfl | rfl | rfl | rfl
    · exact ⟨1, rfl, by omega, by omega⟩
    · exact ⟨1, rfl, by omega, by omega⟩
    · exact ⟨4, rfl, by omega, by omega⟩
    · exact ⟨12, rfl, by omega, by omega⟩
  obtain ⟨d, hd, d1, d4⟩ := hd
  obtain ⟨r2, S2, e2, hr2, hB2, f2⟩ := pull_sp h S1 hB1 (by omega) (m := d) (by omega) (by omega) k (by omega)
  obtain ⟨r3, S3, e3, hr3, hB3, f3⟩ := pull_sp h S2 hB2 (by omega) (m := 3) (by omega) (by omega) k (by omega)
  have hd2 : ∃ d : Nat, ([.int 1, .int 1, .int 3] : List D)[r3]? = some (.int d) ∧ 1 ≤ d ∧ d ≤ 3 := by
    have : r3 = 0 ∨ r3 = 1 ∨ r3 = 2 := by omega
    rcases this with rfl | rfl | rfl
    · exact ⟨1, rfl, by omega, by omega⟩
    · exact ⟨1, rfl, by omega, by omega⟩
    · exact ⟨3, rfl, by omega, by omega⟩
  obtain ⟨d2, hd2, d21, d24⟩ := hd2
  obtain ⟨r4, S4, e4, hr4, hB4, f4⟩ := pull_sp h S3 hB3 (by omega) (m := d2) (by omega) (by omega) k (by omega)
  have i1 : idxD S1 (.lst [.int 1, .int 1, .int 4, .int 12]) (.int r) = some (.int d) := idxLs S1 (by omega) (by rw [Int.toNat_natCast]; exact hd)
  have i2 : idxD S3 (.lst [.int 1, .int 1, .int 3]) (.int r3) = some (.int d2) := idxLs S3 (by omega) (by rw [Int.toNat_natCast]; exact hd2)
  have hn : 1 + r4 ≠ 0 := by omega
  have e5 := llow_sp h S4 ((1 : Int) + r2) (1 + r4) k 5 hn (by omega) (by omega) (by omega)
  rw [Int.natCast_add] at e5
  simp only [Int.ofNat_eq_natCast, Int.cast_ofNat_Int] at e1 e2 e3 e4 e5
  refine ⟨Rat.normalize ((1 : Int) + r2) (1 + r4) hn, S4, by simp only [c_law_stretch, evE, evEs, evAnd, evOr, evL.eq_1, evL.eq_2, evL.eq_4, evL.eq_5, evL.eq_6, meT, meD, isLr, get_last, evI, evC.eq_1, evC.eq_2, evC.eq_3, evC.eq_4, evC.eq_5, evC.eq_6, evC.eq_7, evC.eq_8, evC.eq_9, evC.eq_10, evC.eq_13, evC.eq_14, evC.eq_15, evC.eq_16, evCs, GG_call, GG_raw, GG_glob, R.ne_ok, R.bd_ok, R.bd_err, R.bd_bad, opt_some, opt_none, R.th, Out.th, PyD.finish, PyD.start, List.map, List.length, List.replicate, List.getD_cons_zero, List.getD_cons_succ, List.set_cons_zero, List.set_cons_succ, List.cons_append, List.nil_append, if_true, if_false, Bool.false_eq_true, E.isNon, Option.map_some, Option.map_none, Option.bind_some, setAll, List.zip_cons_cons, List.zip_nil_left, List.foldl_cons, List.foldl_nil, truthB, cmpEqI, cmpNeI, cmpLt, cmpLe, cmpGt, cmpGe, isNon, binAdd, binSub, Bool.not_true, Bool.not_false, decide_true, decide_false, reduceCtorEq, Nat.reduceAdd, Nat.reduceSub, Nat.sub_self, Nat.sub_zero, Nat.zero_add, ofI, idx0, idx1, idx2, biAbs, biLenT, biLenL, biTupL, biTupT, sz0, sz1, sz2, sz3, sz4, sz5, sz6, sz7, sz8, e1, i1, e2, e3, i2, e4, e5], norm_pos hn (by omega), norm_bd hn (by omega) (by omega), hB4, f1.trans (f2.trans (f3.trans f4))⟩
end CA

namespace CA
open PySem PyD
variable {T : Str → Option Fn} {gl : Str → Option D}
theorem BagAt.app {S X : Store} {b c : Nat} (h : BagAt S b c) : BagAt (S ++ X) b c := by
  have hl := h.lt
  obtain ⟨cs, i, cur, salt, cnt, h, r⟩ := h
  exact ⟨cs, i, cur, salt, cnt, by rw [List.getElem?_append_left hl]; exact h, r⟩
theorem Fr.app {S X S2 : Store} {b c : Nat} (hb : b < S.length) (h : Fr b (S ++ X) S2) (hB : BagAt S2 b c) : ∃ S3, S2 = S3 ++ X ∧ Fr b S S3 ∧ BagAt S3 b c := by
  obtain ⟨cs, i, cur, salt, cnt, rfl⟩ := h
  have e : (S ++ X).set b (bagO cs i cur salt cnt) = S.set b (bagO cs i cur salt cnt) ++ X := List.set_append_left _ _ hb
  rw [e] at hB ⊢
  refine ⟨_, rfl, ⟨_, _, _, _, _, rfl⟩, ?_⟩
  obtain ⟨cs2, i2, cur2, salt2, cnt2, h, r⟩ := hB
  exact ⟨cs2, i2, cur2, salt2, cnt2, by rw [List.getElem?_append_left (by rw [List.length_set]; exact hb)] at h; exact h, r⟩
def st (n : Nat) : Nat → List (List Int × List Int)
  | 0 => [(idT n, [])]
  | j + 1 => (st n j).flatMap fun p => (List.range p.1.length).flatMap fun i => [(p.1.eraseIdx i, p.2 ++ [p.1.getD i 0]), (p.1.eraseIdx i, p.2 ++ [0 - p.1.getD i 0])]
theorem st_len {n : Nat} (hn : n = 1 ∨ n = 2 ∨ n = 3) : ∀ j ≤ n, ∀ p ∈ st n j, p.1.length = n - j ∧ p.2.length = j := by
  rcases hn with rfl | rfl | rfl <;> decide +kernel
theorem st_end {n : Nat} (hn : n = 1 ∨ n = 2 ∨ n = 3) : ∀ p ∈ st n n, p.2 ∈ allT n := by
  rcases hn with rfl | rfl | rfl <;> decide +kernel
theorem idT_all {n : Nat} (hn : n = 1 ∨ n = 2 ∨ n = 3) : idT n ∈ allT n := by
  rcases hn with rfl | rfl | rfl <;> decide +kernel
theorem erase_map {α β : Type} (f : α → β) : ∀ (l : List α) (r : Nat), (l.map f).eraseIdx r = (l.eraseIdx r).map f
  | [], _ => rfl
  | _ :: _, 0 => rfl
  | x :: l, r + 1 => by simp [erase_map f l r]
theorem pop_ok {S : Store} {n : Nat} {L : List Int} {r : Nat} (h : S[n]? = some (.lst (L.map .int))) (hr : r < L.length) (hl : L.length ≤ 1000) : listMt S n (fun xs => popAt xs (r : Int)) = .ok (.int (L.getD r 0)) (S.set n (.lst ((L.eraseIdx r).map .int))) := by
  have h1 : seqIndex? (r : Int) (L.map D.int).length = some r := by
    rw [List.length_map]
    unfold seqIndex?
    simp [show ¬((r : Int) < 0) by omega, hr]
  have h2 : (L.map D.int)[r]? = some (.int (L.getD r 0)) := by
    rw [List.getElem?_map, List.getD_eq_getElem?_getD, List.getElem?_eq_getElem hr]; rfl
  have h3 : (-(2 ^ 63) ≤ (r : Int) ∧ (r : Int) < 2 ^ 63) := by omega
  simp only [listMt, h, popAt, h1, h2, need_of h3]
  rw [erase_map]
theorem lturn_sp (h : Has T gl) (S : Store) (hS : Clo S) {b c : Nat} (hB : BagAt S b c) (hc : c < 2 ^ 50) (n : Nat) (hn : n = 1 ∨ n = 2 ∨ n = 3) (k : Nat) (hk : 2 ≤ k) :
    ∃ (t : List Int) (S' : Store), callN T gl k "_law_turn" [.ref b, .int n] S = .ok (turn t) S' ∧ t ∈ allT n ∧ BagAt S' b (c + 6) ∧ Fr b S S' := by
  obtain ⟨k, rfl⟩ : ∃ q, k = q + 1 := ⟨k - 1, by omega⟩
  rw [call_law_turn h]
  have hr : rngD [.int n] = some (0, n) := by
    simp only [rngD]
    rw [need_of (by omega)]; congr 2
  have hbl := hB.lt
  have hf := f_inv (g := GG T gl k) (tg := .one 4) (it := .rng (.cons (.var 1) .nil)) (a := (.cons (.set 5 (.pop (.var 2) (.call false "_law_pull" (.cons (.var 0) (.cons (.bi .len (.var 2)) .nil))))) (.cons (.ex (.app (.var 3) (.idx (.new false (.disp (.cons (.var 5) (.cons (.bin .sub (.int 0) (.var 5)) .nil)))) (.call false "_law_pull" (.cons (.var 0) (.cons (.int 2) .nil)))))) .nil)))
    (ρ := [some (.ref b), some (.int n), some (.ref S.length), some (.ref (S.length + 1)), none, none]) (S := S ++ [.lst ((idT n).map .int), .lst []]) (S1 := S ++ [.lst ((idT n).map .int), .lst []]) (t := ⟨PyD.upTo 0 n, []⟩)
    (fun xs ρ S' => ∃ j p S3 a e, xs.length + j = n ∧ p ∈ st n j ∧ ρ = [some (.ref b), some (.int n), some (.ref S.length), some (.ref (S.length + 1)), a, e] ∧ S' = S3 ++ [.lst (p.1.map .int), .lst (p.2.map .int)] ∧ Fr b S S3 ∧ BagAt S3 b (c + 2 * j))
    (by simp only [evE, evEs, evAnd, evOr, evL.eq_1, evL.eq_2, evL.eq_4, evL.eq_5, evL.eq_6, meT, meD, isLr, get_last, evI, evC.eq_1, evC.eq_2, evC.eq_3, evC.eq_4, evC.eq_5, evC.eq_6, evC.eq_7, evC.eq_8, evC.eq_9, evC.eq_10, evC.eq_13, evC.eq_14, evC.eq_15, evC.eq_16, evCs, GG_call, GG_raw, GG_glob, R.ne_ok, R.bd_ok, R.bd_err, R.bd_bad, opt_some, opt_none, R.th, Out.th, PyD.finish, PyD.start, List.map, List.length, List.replicate, List.getD_cons_zero, List.getD_cons_succ, List.set_cons_zero, List.set_cons_succ, List.cons_append, List.nil_append, if_true, if_false, Bool.false_eq_true, E.isNon, Option.map_some, Option.map_none, Option.bind_some, setAll, List.zip_cons_cons, List.zip_nil_left, List.foldl_cons, List.foldl_nil, truthB, cmpEqI, cmpNeI, cmpLt, cmpLe, cmpGt, cmpGe, isNon, binAdd, binSub, Bool.not_true, Bool.not_false, decide_true, decide_false, reduceCtorEq, Nat.reduceAdd, Nat.reduceSub, Nat.sub_self, Nat.sub_zero, Nat.zero_add, ofI, idx0, idx1, idx2, biAbs, biLenT, biLenL, biTupL, biTupT, sz0, sz1, sz2, sz3, sz4, sz5, sz6, sz7, sz8, hr]) (fun _ _ _ _ => still_nil _ _) ?step ⟨0, (idT n, []), S, none, none, by simp [PyD.upTo], List.mem_singleton.2 rfl, rfl, rfl, hB.fr, hB⟩
  case step =>
    rintro x xs ρ S' ⟨j, p, S3, a, e, hx, hp, rfl, rfl, f3, hB3⟩
    simp only [List.length_cons] at hx
    have hpl := st_len hn j (by omega) p hp
    have l3 := f3.len
    have hb3 := hB3.lt
    obtain ⟨r, S4, e1, hr1, hB4, f4⟩ := pull_sp h (S3 ++ [.lst (p.1.map .int), .lst (p.2.map .int)]) hB3.app (by omega) (m := p.1.length) (by omega) (by omega) k (by omega)
    obtain ⟨S5, rfl, f5, hB5⟩ := f4.app hb3 hB4
    have l5 := f5.len
    let q := p.1.getD r 0
    obtain ⟨r2, S6, e2, hr2, hB6, f6⟩ := pull_sp h (S5 ++ [.lst ((p.1.eraseIdx r).map .int), .lst (p.2.map .int)]) hB5.app (by omega) (m := 2) (by omega) (by omega) k (by omega)
    obtain ⟨S7, rfl, f7, hB7⟩ := f6.app hB5.lt hB6
    have l7 := f7.len
    have g1 : (S3 ++ [O.lst (p.1.map .int), .lst (p.2.map .int)])[S.length]? = some (.lst (p.1.map .int)) := by rw [← l3]; exact get_last S3 _ _
    have g2 : (S5 ++ [O.lst (p.1.map .int), .lst (p.2.map .int)])[S.length]? = some (.lst (p.1.map .int)) := by rw [← l3, ← l5]; exact get_last S5 _ _
    have e3 := pop_ok g2 hr1 (by omega)
    have e4 : (S5 ++ [O.lst (p.1.map .int), .lst (p.2.map .int)]).set S.length (.lst ((p.1.eraseIdx r).map .int)) = S5 ++ [.lst ((p.1.eraseIdx r).map .int), .lst (p.2.map .int)] := by rw [← l3, ← l5]; exact set_last _ _ _ _
    rw [e4] at e3
    have hz : ∃ z, ([.int q, .int (0 - q)] : List D)[r2]? = some (.int z) ∧ (z = q ∨ z = 0 - q) := by
      have : r2 = 0 ∨ r2 = 1 := by omega
      rcases this with rfl | rfl
      · exact ⟨q, rfl, .inl rfl⟩
      · exact ⟨0 - q, rfl, .inr rfl⟩
    obtain ⟨z, hz, hzq⟩ := hz
    have e5 : idxD (S7 ++ [.lst ((p.1.eraseIdx r).map .int), .lst (p.2.map .int)]) (.lst [.int q, .int (0 - q)]) (.int r2) = some (.int z) := idxLs _ (by omega) (by rw [Int.toNat_natCast]; exact hz)
    have g3 : (S7 ++ [O.lst ((p.1.eraseIdx r).map .int), .lst (p.2.map .int)])[S.length + 1]? = some (.lst (p.2.map .int)) := by
      rw [← l3, ← l5, ← l7, List.getElem?_append_right (by omega)]; simp
    have e6 := append_ok (.int z) g3 (by rw [List.length_map]; omega)
    have e7 : (S7 ++ [O.lst ((p.1.eraseIdx r).map .int), .lst (p.2.map .int)]).set (S.length + 1) (.lst (p.2.map .int ++ [.int z])) = S7 ++ [.lst ((p.1.eraseIdx r).map .int), .lst ((p.2 ++ [z]).map .int)] := by
      rw [← l3, ← l5, ← l7, List.set_append_right _ _ (by omega)]; simp
    rw [e7] at e6
    simp only [Int.ofNat_eq_natCast, Int.cast_ofNat_Int] at e1 e2
    refine ⟨[some (.ref b), some (.int n), some (.ref S.length), some (.ref (S.length + 1)), some x, e], [some (.ref b), some (.int n), some (.ref S.length), some (.ref (S.length + 1)), some x, some (.int q)], S7 ++ [.lst ((p.1.eraseIdx r).map .int), .lst ((p.2 ++ [z]).map .int)], rfl, ?_, j + 1, (p.1.eraseIdx r, p.2 ++ [z]), S7, _, _, by omega, ?_, rfl, rfl, f3.trans (f5.trans f7), hB7⟩
    · have g4 : (S5 ++ [O.lst ((p.1.eraseIdx r).map .int), .lst (p.2.map .int)])[S.length + 1]? = some (.lst (p.2.map .int)) := by
        rw [← l3, ← l5, List.getElem?_append_right (by omega)]; simp
      simp only [evE, evEs, evAnd, evOr, evL.eq_1, evL.eq_2, evL.eq_4, evL.eq_5, evL.eq_6, meT, meD, isLr, get_last, evI, evC.eq_1, evC.eq_2, evC.eq_3, evC.eq_4, evC.eq_5, evC.eq_6, evC.eq_7, evC.eq_8, evC.eq_9, evC.eq_10, evC.eq_13, evC.eq_14, evC.eq_15, evC.eq_16, evCs, GG_call, GG_raw, GG_glob, R.ne_ok, R.bd_ok, R.bd_err, R.bd_bad, opt_some, opt_none, R.th, Out.th, PyD.finish, PyD.start, List.map, List.length, List.replicate, List.getD_cons_zero, List.getD_cons_succ, List.set_cons_zero, List.set_cons_succ, List.cons_append, List.nil_append, if_true, if_false, Bool.false_eq_true, E.isNon, Option.map_some, Option.map_none, Option.bind_some, setAll, List.zip_cons_cons, List.zip_nil_left, List.foldl_cons, List.foldl_nil, truthB, cmpEqI, cmpNeI, cmpLt, cmpLe, cmpGt, cmpGe, isNon, binAdd, binSub, Bool.not_true, Bool.not_false, decide_true, decide_false, reduceCtorEq, Nat.reduceAdd, Nat.reduceSub, Nat.sub_self, Nat.sub_zero, Nat.zero_add, ofI, idx0, idx1, idx2, biAbs, biLenT, biLenL, biTupL, biTupT, sz0, sz1, sz2, sz3, sz4, sz5, sz6, sz7, sz8, biLenR _ g1, g1, g4, List.length_map, e1, e3, e2, q, e5, e6]
    · show _ ∈ (st n j).flatMap _
      rw [List.mem_flatMap]
      refine ⟨p, hp, ?_⟩
      rw [List.mem_flatMap]
      refine ⟨r, List.mem_range.2 hr1, ?_⟩
      rcases hzq with rfl | rfl
      · exact List.mem_cons_self
      · exact List.mem_cons_of_mem _ List.mem_cons_self
  obtain ⟨ρ2, S2, hev, j, p, S3, a, e, hx, hp, rfl, rfl, f3, hB3⟩ := hf
  simp only [List.length_nil, Nat.zero_add] at hx
  subst hx
  have l3 := f3.len
  have g3 : (S3 ++ [O.lst (p.1.map .int), .lst (p.2.map .int)])[S.length + 1]? = some (.lst (p.2.map .int)) := by
    rw [← l3, List.getElem?_append_right (by omega)]; simp
  have h3 : j ≤ 3 := by omega
  have hz : PyD.sizeOk j := by show _ ≤ 100000; omega
  refine ⟨p.2, S3, ?_, st_end hn p hp, hB3.mono (by omega), f3⟩
  have el : ∀ (X : Store) (o : O), S ++ [o] ++ [O.lst []] = S ++ [o, .lst []] := fun X o => by simp
  have el2 : ∀ o : O, (S ++ [o]).length = S.length + 1 := fun o => by simp
  simp only [c_law_turn, evE, evEs, evAnd, evOr, evL.eq_1, evL.eq_2, evL.eq_4, evL.eq_5, evL.eq_6, meT, meD, isLr, get_last, evI, evC.eq_1, evC.eq_2, evC.eq_3, evC.eq_4, evC.eq_5, evC.eq_6, evC.eq_7, evC.eq_8, evC.eq_9, evC.eq_10, evC.eq_13, evC.eq_14, evC.eq_15, evC.eq_16, evCs, GG_call, GG_raw, GG_glob, R.ne_ok, R.bd_ok, R.bd_err, R.bd_bad, opt_some, opt_none, R.th, Out.th, PyD.finish, PyD.start, List.map, List.length, List.replicate, List.getD_cons_zero, List.getD_cons_succ, List.set_cons_zero, List.set_cons_succ, List.cons_append, List.nil_append, if_true, if_false, Bool.false_eq_true, E.isNon, Option.map_some, Option.map_none, Option.bind_some, setAll, List.zip_cons_cons, List.zip_nil_left, List.foldl_cons, List.foldl_nil, truthB, cmpEqI, cmpNeI, cmpLt, cmpLe, cmpGt, cmpGe, isNon, binAdd, binSub, Bool.not_true, Bool.not_false, decide_true, decide_false, reduceCtorEq, Nat.reduceAdd, Nat.reduceSub, Nat.sub_self, Nat.sub_zero, Nat.zero_add, ofI, idx0, idx1, idx2, biAbs, biLenT, biLenL, biTupL, biTupT, sz0, sz1, sz2, sz3, sz4, sz5, sz6, sz7, sz8, rng_one j (by omega), need_of hz, upTo_idT, el S, el2, hev, biTupR _ g3]
  have := leave_ok (S := S3) (X := [O.lst (p.1.map .int), .lst (p.2.map .int)]) (turn_nice p.2) (Nat.lt_of_le_of_lt (turn_dep p.2) (by omega)) (f3.clo hS)
  rw [l3] at this
  exact this
theorem th_ite {ρ : Ro} {S S' : Store} {g : G} {c a e : E} {d : D} {p : Bool} (hc : evE g ρ c S = .ok (.bl p) S) (h1 : p = true → evE g ρ a S = .ok d S') (h2 : p = false → evE g ρ e S = .ok d S') : evE g ρ (.ite c a e) S = .ok d S' := by
  rw [evE, hc]
  cases p with
  | true => exact h1 rfl
  | false => exact h2 rfl
theorem cs_set {g : G} {i : Nat} {e : E} {ρ ρ' : Ro} {S S' : Store} {d : D} (h : evE g ρ e S = .ok d S') (hρ : ρ.set i (some d) = ρ') : evC g (.set i e) ρ S = .nx ρ' S' := by rw [evC, h, ← hρ]; rfl
theorem noR_bd (n : Nat) : BdR (noR n) 5 := fun q hq => by
  rw [List.eq_of_mem_replicate hq]; exact bd0 (by omega)
theorem lmotion_sp (h : Has T gl) (S : Store) (hS : Clo S) {b c : Nat} (hB : BagAt S b c) (hc : c < 2 ^ 40) (n : Nat) (hn : n = 1 ∨ n = 2 ∨ n = 3) (k : Nat) (hk : 5 ≤ k) :
    ∃ t s d S', callN T gl k "_law_motion" [.ref b, .int n] S = .ok (mot t s d) S' ∧ MoOk n t s d 5 ∧ BagAt S' b (c + 20) ∧ Fr b S S' := by
  obtain ⟨k, rfl⟩ : ∃ q, k = q + 1 := ⟨k - 1, by omega⟩
  rw [call_law_motion h]
  obtain ⟨r, S1, e1, hr, hB1, f1⟩ := pull_sp h S hB (by omega) (m := 5) (by omega) (by omega) k (by omega)
  have hz : PyD.sizeOk n := by show _ ≤ 100000; omega
  simp only [Int.ofNat_eq_natCast, Int.cast_ofNat_Int] at e1
  have s1 : evC (GG T gl k) (.set 2 (.call false "_law_pull" (.cons (.var 0) (.cons (.int 5) .nil)))) [some (.ref b), some (.int n), none, none, none, none] S = .nx [some (.ref b), some (.int n), some (.int r), none, none, none] S1 := by
    simp only [evE, evEs, evAnd, evOr, evL.eq_1, evL.eq_2, evL.eq_4, evL.eq_5, evL.eq_6, meT, meD, isLr, get_last, evI, evC.eq_1, evC.eq_2, evC.eq_3, evC.eq_4, evC.eq_5, evC.eq_6, evC.eq_7, evC.eq_8, evC.eq_9, evC.eq_10, evC.eq_13, evC.eq_14, evC.eq_15, evC.eq_16, evCs, GG_call, GG_raw, GG_glob, R.ne_ok, R.bd_ok, R.bd_err, R.bd_bad, opt_some, opt_none, R.th, Out.th, PyD.finish, PyD.start, List.map, List.length, List.replicate, List.getD_cons_zero, List.getD_cons_succ, List.set_cons_zero, List.set_cons_succ, List.cons_append, List.nil_append, if_true, if_false, Bool.false_eq_true, E.isNon, Option.map_some, Option.map_none, Option.bind_some, setAll, List.zip_cons_cons, List.zip_nil_left, List.foldl_cons, List.foldl_nil, truthB, cmpEqI, cmpNeI, cmpLt, cmpLe, cmpGt, cmpGe, isNon, binAdd, binSub, Bool.not_true, Bool.not_false, decide_true, decide_false, reduceCtorEq, Nat.reduceAdd, Nat.reduceSub, Nat.sub_self, Nat.sub_zero, Nat.zero_add, ofI, idx0, idx1, idx2, biAbs, biLenT, biLenL, biTupL, biTupT, sz0, sz1, sz2, sz3, sz4, sz5, sz6, sz7, sz8, e1]
  have s2 : ∃ t S2, evE (GG T gl k) [some (.ref b), some (.int n), some (.int r), none, none, none] (.ite (.cmp .gt (.var 2) (.int 0)) (.call false "_law_turn" (.cons (.var 0) (.cons (.var 1) .nil))) (.trng (.cons (.int 1) (.cons (.bin .add (.var 1) (.int 1)) .nil)))) S1 = .ok (turn t) S2 ∧ t ∈ allT n ∧ BagAt S2 b (c + 7) ∧ Fr b S S2 := by
    by_cases hp : (0 : Int) < r
    · obtain ⟨t, S2, e2, ht, hB2, f2⟩ := lturn_sp h S1 (f1.clo hS) hB1 (by omega) n hn k (by omega)
      exact ⟨t, S2, by simp only [evE, evEs, evAnd, evOr, evL.eq_1, evL.eq_2, evL.eq_4, evL.eq_5, evL.eq_6, meT, meD, isLr, get_last, evI, evC.eq_1, evC.eq_2, evC.eq_3, evC.eq_4, evC.eq_5, evC.eq_6, evC.eq_7, evC.eq_8, evC.eq_9, evC.eq_10, evC.eq_13, evC.eq_14, evC.eq_15, evC.eq_16, evCs, GG_call, GG_raw, GG_glob, R.ne_ok, R.bd_ok, R.bd_err, R.bd_bad, opt_some, opt_none, R.th, Out.th, PyD.finish, PyD.start, List.map, List.length, List.replicate, List.getD_cons_zero, List.getD_cons_succ, List.set_cons_zero, List.set_cons_succ, List.cons_append, List.nil_append, if_true, if_false, Bool.false_eq_true, E.isNon, Option.map_some, Option.map_none, Option.bind_some, setAll, List.zip_cons_cons, List.zip_nil_left, List.foldl_cons, List.foldl_nil, truthB, cmpEqI, cmpNeI, cmpLt, cmpLe, cmpGt, cmpGe, isNon, binAdd, binSub, Bool.not_true, Bool.not_false, decide_true, decide_false, reduceCtorEq, Nat.reduceAdd, Nat.reduceSub, Nat.sub_self, Nat.sub_zero, Nat.zero_add, ofI, idx0, idx1, idx2, biAbs, biLenT, biLenL, biTupL, biTupT, sz0, sz1, sz2, sz3, sz4, sz5, sz6, sz7, sz8, decT hp, e2], ht, hB2, f1.trans f2⟩
    · refine ⟨idT n, S1, ?_, idT_all hn, hB1.mono (by omega), f1⟩
      simp only [evE, evEs, evAnd, evOr, evL.eq_1, evL.eq_2, evL.eq_4, evL.eq_5, evL.eq_6, meT, meD, isLr, get_last, evI, evC.eq_1, evC.eq_2, evC.eq_3, evC.eq_4, evC.eq_5, evC.eq_6, evC.eq_7, evC.eq_8, evC.eq_9, evC.eq_10, evC.eq_13, evC.eq_14, evC.eq_15, evC.eq_16, evCs, GG_call, GG_raw, GG_glob, R.ne_ok, R.bd_ok, R.bd_err, R.bd_bad, opt_some, opt_none, R.th, Out.th, PyD.finish, PyD.start, List.map, List.length, List.replicate, List.getD_cons_zero, List.getD_cons_succ, List.set_cons_zero, List.set_cons_succ, List.cons_append, List.nil_append, if_true, if_false, Bool.false_eq_true, E.isNon, Option.map_some, Option.map_none, Option.bind_some, setAll, List.zip_cons_cons, List.zip_nil_left, List.foldl_cons, List.foldl_nil, truthB, cmpEqI, cmpNeI, cmpLt, cmpLe, cmpGt, cmpGe, isNon, binAdd, binSub, Bool.not_true, Bool.not_false, decide_true, decide_false, reduceCtorEq, Nat.reduceAdd, Nat.reduceSub, Nat.sub_self, Nat.sub_zero, Nat.zero_add, ofI, idx0, idx1, idx2, biAbs, biLenT, biLenL, biTupL, biTupT, sz0, sz1, sz2, sz3, sz4, sz5, sz6, sz7, sz8, decF hp, rng_one n (by omega), need_of hz, upTo_idT]
      rfl
  obtain ⟨t, S2, s2, ht, hB2, f2⟩ := s2
  have s3 : ∃ q S3, evE (GG T gl k) [some (.ref b), some (.int n), some (.int r), some (turn t), none, none] (.ite (.cmp .ne (.var 2) (.int 1)) (.call false "_law_stretch" (.cons (.var 0) .nil)) (.tup (.cons (.int 1) (.cons (.int 1) .nil)))) S2 = .ok (pt q) S3 ∧ 0 < q ∧ Bd q 5 ∧ BagAt S3 b (c + 11) ∧ Fr b S S3 := by
    by_cases hp : (r : Int) = 1
    · refine ⟨1, S2, ?_, by decide, ⟨by decide, by decide⟩, hB2.mono (by omega), f2⟩
      simp only [evE, evEs, evAnd, evOr, evL.eq_1, evL.eq_2, evL.eq_4, evL.eq_5, evL.eq_6, meT, meD, isLr, get_last, evI, evC.eq_1, evC.eq_2, evC.eq_3, evC.eq_4, evC.eq_5, evC.eq_6, evC.eq_7, evC.eq_8, evC.eq_9, evC.eq_10, evC.eq_13, evC.eq_14, evC.eq_15, evC.eq_16, evCs, GG_call, GG_raw, GG_glob, R.ne_ok, R.bd_ok, R.bd_err, R.bd_bad, opt_some, opt_none, R.th, Out.th, PyD.finish, PyD.start, List.map, List.length, List.replicate, List.getD_cons_zero, List.getD_cons_succ, List.set_cons_zero, List.set_cons_succ, List.cons_append, List.nil_append, if_true, if_false, Bool.false_eq_true, E.isNon, Option.map_some, Option.map_none, Option.bind_some, setAll, List.zip_cons_cons, List.zip_nil_left, List.foldl_cons, List.foldl_nil, truthB, cmpEqI, cmpNeI, cmpLt, cmpLe, cmpGt, cmpGe, isNon, binAdd, binSub, Bool.not_true, Bool.not_false, decide_true, decide_false, reduceCtorEq, Nat.reduceAdd, Nat.reduceSub, Nat.sub_self, Nat.sub_zero, Nat.zero_add, ofI, idx0, idx1, idx2, biAbs, biLenT, biLenL, biTupL, biTupT, sz0, sz1, sz2, sz3, sz4, sz5, sz6, sz7, sz8, decT hp]
      rfl
    · obtain ⟨q, S3, e3, hq, bq, hB3, f3⟩ := lstretch_sp h S2 hB2 (by omega) k (by omega)
      exact ⟨q, S3, by simp only [evE, evEs, evAnd, evOr, evL.eq_1, evL.eq_2, evL.eq_4, evL.eq_5, evL.eq_6, meT, meD, isLr, get_last, evI, evC.eq_1, evC.eq_2, evC.eq_3, evC.eq_4, evC.eq_5, evC.eq_6, evC.eq_7, evC.eq_8, evC.eq_9, evC.eq_10, evC.eq_13, evC.eq_14, evC.eq_15, evC.eq_16, evCs, GG_call, GG_raw, GG_glob, R.ne_ok, R.bd_ok, R.bd_err, R.bd_bad, opt_some, opt_none, R.th, Out.th, PyD.finish, PyD.start, List.map, List.length, List.replicate, List.getD_cons_zero, List.getD_cons_succ, List.set_cons_zero, List.set_cons_succ, List.cons_append, List.nil_append, if_true, if_false, Bool.false_eq_true, E.isNon, Option.map_some, Option.map_none, Option.bind_some, setAll, List.zip_cons_cons, List.zip_nil_left, List.foldl_cons, List.foldl_nil, truthB, cmpEqI, cmpNeI, cmpLt, cmpLe, cmpGt, cmpGe, isNon, binAdd, binSub, Bool.not_true, Bool.not_false, decide_true, decide_false, reduceCtorEq, Nat.reduceAdd, Nat.reduceSub, Nat.sub_self, Nat.sub_zero, Nat.zero_add, ofI, idx0, idx1, idx2, biAbs, biLenT, biLenL, biTupL, biTupT, sz0, sz1, sz2, sz3, sz4, sz5, sz6, sz7, sz8, decF hp, e3], hq, bq, hB3, f2.trans f3⟩
  obtain ⟨q, S3, s3, hq, bq, hB3, f3⟩ := s3
  have s4 : ∃ l S4, evE (GG T gl k) [some (.ref b), some (.int n), some (.int r), some (turn t), some (pt q), none] (.ite (.cmp .ne (.var 2) (.int 2)) (.call false "_law_row" (.cons (.var 0) (.cons (.var 1) .nil))) (.bin .mul (.tup (.cons (.tup (.cons (.int 0) (.cons (.int 1) .nil))) .nil)) (.var 1))) S3 = .ok (row l) S4 ∧ l.length = n ∧ BdR l 5 ∧ BagAt S4 b (c + 17) ∧ Fr b S S4 := by
    by_cases hp : (r : Int) = 2
    · refine ⟨noR n, S3, ?_, List.length_replicate, noR_bd n, hB3.mono (by omega), f3⟩
      have e : bin S3 .mul (.tup [.tup [.int 0, .int 1]]) (.int n) = some (row (noR n)) := by
        rcases hn with rfl | rfl | rfl <;> exact need_of (by simp)
      simp only [evE, evEs, evAnd, evOr, evL.eq_1, evL.eq_2, evL.eq_4, evL.eq_5, evL.eq_6, meT, meD, isLr, get_last, evI, evC.eq_1, evC.eq_2, evC.eq_3, evC.eq_4, evC.eq_5, evC.eq_6, evC.eq_7, evC.eq_8, evC.eq_9, evC.eq_10, evC.eq_13, evC.eq_14, evC.eq_15, evC.eq_16, evCs, GG_call, GG_raw, GG_glob, R.ne_ok, R.bd_ok, R.bd_err, R.bd_bad, opt_some, opt_none, R.th, Out.th, PyD.finish, PyD.start, List.map, List.length, List.replicate, List.getD_cons_zero, List.getD_cons_succ, List.set_cons_zero, List.set_cons_succ, List.cons_append, List.nil_append, if_true, if_false, Bool.false_eq_true, E.isNon, Option.map_some, Option.map_none, Option.bind_some, setAll, List.zip_cons_cons, List.zip_nil_left, List.foldl_cons, List.foldl_nil, truthB, cmpEqI, cmpNeI, cmpLt, cmpLe, cmpGt, cmpGe, isNon, binAdd, binSub, Bool.not_true, Bool.not_false, decide_true, decide_false, reduceCtorEq, Nat.reduceAdd, Nat.reduceSub, Nat.sub_self, Nat.sub_zero, Nat.zero_add, ofI, idx0, idx1, idx2, biAbs, biLenT, biLenL, biTupL, biTupT, sz0, sz1, sz2, sz3, sz4, sz5, sz6, sz7, sz8, decT hp, e]
    · obtain ⟨l, S4, e4, hl, bl, hB4, f4⟩ := lrow_sp h S3 hB3 (by omega) n (by omega) k (by omega)
      exact ⟨l, S4, by simp only [evE, evEs, evAnd, evOr, evL.eq_1, evL.eq_2, evL.eq_4, evL.eq_5, evL.eq_6, meT, meD, isLr, get_last, evI, evC.eq_1, evC.eq_2, evC.eq_3, evC.eq_4, evC.eq_5, evC.eq_6, evC.eq_7, evC.eq_8, evC.eq_9, evC.eq_10, evC.eq_13, evC.eq_14, evC.eq_15, evC.eq_16, evCs, GG_call, GG_raw, GG_glob, R.ne_ok, R.bd_ok, R.bd_err, R.bd_bad, opt_some, opt_none, R.th, Out.th, PyD.finish, PyD.start, List.map, List.length, List.replicate, List.getD_cons_zero, List.getD_cons_succ, List.set_cons_zero, List.set_cons_succ, List.cons_append, List.nil_append, if_true, if_false, Bool.false_eq_true, E.isNon, Option.map_some, Option.map_none, Option.bind_some, setAll, List.zip_cons_cons, List.zip_nil_left, List.foldl_cons, List.foldl_nil, truthB, cmpEqI, cmpNeI, cmpLt, cmpLe, cmpGt, cmpGe, isNon, binAdd, binSub, Bool.not_true, Bool.not_false, decide_true, decide_false, reduceCtorEq, Nat.reduceAdd, Nat.reduceSub, Nat.sub_self, Nat.sub_zero, Nat.zero_add, ofI, idx0, idx1, idx2, biAbs, biLenT, biLenL, biTupL, biTupT, sz0, sz1, sz2, sz3, sz4, sz5, sz6, sz7, sz8, decF hp, e4], hl, bl, hB4, f3.trans f4⟩
  obtain ⟨l, S4, s4, hl, bl, hB4, f4⟩ := s4
  refine ⟨t, q, l, S4, ?_, ⟨ht, hq, hl, bq, bl⟩, hB4.mono (by omega), f4⟩
  rw [if_pos (show [D.ref b, D.int (n : Int)].length = c_law_motion.np from rfl)]
  show PyD.finish false S.length (evCs (GG T gl k) c_law_motion.body [some (.ref b), some (.int n), none, none, none, none] S) = _
  unfold c_law_motion
  rw [cs_nx s1, cs_nx (cs_set (i := 3) (ρ' := [some (.ref b), some (.int n), some (.int r), some (turn t), none, none]) s2 rfl), cs_nx (cs_set (i := 4) (ρ' := [some (.ref b), some (.int n), some (.int r), some (turn t), some (pt q), none]) s3 rfl),
    cs_nx (cs_set (i := 5) (ρ' := [some (.ref b), some (.int n), some (.int r), some (turn t), some (pt q), some (row l)]) s4 rfl)]
  simp only [evE, evEs, evAnd, evOr, evL.eq_1, evL.eq_2, evL.eq_4, evL.eq_5, evL.eq_6, meT, meD, isLr, get_last, evI, evC.eq_1, evC.eq_2, evC.eq_3, evC.eq_4, evC.eq_5, evC.eq_6, evC.eq_7, evC.eq_8, evC.eq_9, evC.eq_10, evC.eq_13, evC.eq_14, evC.eq_15, evC.eq_16, evCs, GG_call, GG_raw, GG_glob, R.ne_ok, R.bd_ok, R.bd_err, R.bd_bad, opt_some, opt_none, R.th, Out.th, PyD.finish, PyD.start, List.map, List.length, List.replicate, List.getD_cons_zero, List.getD_cons_succ, List.set_cons_zero, List.set_cons_succ, List.cons_append, List.nil_append, if_true, if_false, Bool.false_eq_true, E.isNon, Option.map_some, Option.map_none, Option.bind_some, setAll, List.zip_cons_cons, List.zip_nil_left, List.foldl_cons, List.foldl_nil, truthB, cmpEqI, cmpNeI, cmpLt, cmpLe, cmpGt, cmpGe, isNon, binAdd, binSub, Bool.not_true, Bool.not_false, decide_true, decide_false, reduceCtorEq, Nat.reduceAdd, Nat.reduceSub, Nat.sub_self, Nat.sub_zero, Nat.zero_add, ofI, idx0, idx1, idx2, biAbs, biLenT, biLenL, biTupL, biTupT, sz0, sz1, sz2, sz3, sz4, sz5, sz6, sz7, sz8]
  rfl
theorem lbag_sp (h : Has T gl) (ns : List Int) (hn : ns.length ≤ 63) (k : Nat) (hk : 1 ≤ k) : ∃ S, callN T gl k "_law_bag" [.scr ns] [] = .ok (.ref 0) S ∧ S.length = 1 ∧ BagAt S 0 0 ∧ Clo S := by
  obtain ⟨k, rfl⟩ : ∃ q, k = q + 1 := ⟨k - 1, by omega⟩
  rw [call_law_bag h]
  have hsl : ∀ S, slD S (.scr ns) none (some 63) = some (.lst (ns.map .int)) := by
    intro S
    have : cut (ns.map D.int) none (some 63) = ns.map .int := by
      unfold cut
      simp only [HT.sIx, List.length_map]
      rw [List.drop_zero, if_neg (by omega), List.take_of_length_le]
      rw [List.length_map]
      simp; omega
    simp only [slD, this]
  have hf := f_inv (g := GG T gl k) (tg := .one 2) (it := .seq (.sl (.var 0) .non (.int 63))) (a := (.cons (.set 1 (.bin .mod (.bin .add (.bin .mul (.var 1) (.int 52817)) (.var 2)) (.int 2147483563))) .nil))
    (ρ := [some (.scr ns), some (.int (17 + (ns.length : Int))), none]) (S := []) (S1 := []) (t := ⟨ns.map .int, []⟩)
    (fun xs ρ S' => ∃ (rest : List Int) (v : Int) (a : Option D), xs = rest.map .int ∧ ρ = [some (.scr ns), some (.int v), a] ∧ S' = [] ∧ 0 ≤ v ∧ v < 2147483563)
    (by simp only [evE, evEs, evAnd, evOr, evL.eq_1, evL.eq_2, evL.eq_4, evL.eq_5, evL.eq_6, meT, meD, isLr, get_last, evI, evC.eq_1, evC.eq_2, evC.eq_3, evC.eq_4, evC.eq_5, evC.eq_6, evC.eq_7, evC.eq_8, evC.eq_9, evC.eq_10, evC.eq_13, evC.eq_14, evC.eq_15, evC.eq_16, evCs, GG_call, GG_raw, GG_glob, R.ne_ok, R.bd_ok, R.bd_err, R.bd_bad, opt_some, opt_none, R.th, Out.th, PyD.finish, PyD.start, List.map, List.length, List.replicate, List.getD_cons_zero, List.getD_cons_succ, List.set_cons_zero, List.set_cons_succ, List.cons_append, List.nil_append, if_true, if_false, Bool.false_eq_true, E.isNon, Option.map_some, Option.map_none, Option.bind_some, setAll, List.zip_cons_cons, List.zip_nil_left, List.foldl_cons, List.foldl_nil, truthB, cmpEqI, cmpNeI, cmpLt, cmpLe, cmpGt, cmpGe, isNon, binAdd, binSub, Bool.not_true, Bool.not_false, decide_true, decide_false, reduceCtorEq, Nat.reduceAdd, Nat.reduceSub, Nat.sub_self, Nat.sub_zero, Nat.zero_add, ofI, idx0, idx1, idx2, biAbs, biLenT, biLenL, biTupL, biTupT, sz0, sz1, sz2, sz3, sz4, sz5, sz6, sz7, sz8, hsl, seqIt]) (fun _ _ _ _ => still_nil _ _) ?step ⟨ns, _, none, rfl, rfl, rfl, by omega, by omega⟩
  case step =>
    rintro x xs ρ S' ⟨rest, v, a, e1, rfl, rfl, v0, v1⟩
    cases rest with
    | nil => cases e1
    | cons y rest =>
      cases e1
      have e3 : bin [] .mod (.int (v * 52817 + y)) (.int 2147483563) = some (.int ((v * 52817 + y) % 2147483563)) := binMod [] (by omega)
      refine ⟨[some (.scr ns), some (.int v), some (.int y)], [some (.scr ns), some (.int ((v * 52817 + y) % 2147483563)), some (.int y)], [], rfl, ?_, rest, _, _, rfl, rfl, rfl, Int.emod_nonneg _ (by omega), Int.emod_lt_of_pos _ (by omega)⟩
      simp only [evE, evEs, evAnd, evOr, evL.eq_1, evL.eq_2, evL.eq_4, evL.eq_5, evL.eq_6, meT, meD, isLr, get_last, evI, evC.eq_1, evC.eq_2, evC.eq_3, evC.eq_4, evC.eq_5, evC.eq_6, evC.eq_7, evC.eq_8, evC.eq_9, evC.eq_10, evC.eq_13, evC.eq_14, evC.eq_15, evC.eq_16, evCs, GG_call, GG_raw, GG_glob, R.ne_ok, R.bd_ok, R.bd_err, R.bd_bad, opt_some, opt_none, R.th, Out.th, PyD.finish, PyD.start, List.map, List.length, List.replicate, List.getD_cons_zero, List.getD_cons_succ, List.set_cons_zero, List.set_cons_succ, List.cons_append, List.nil_append, if_true, if_false, Bool.false_eq_true, E.isNon, Option.map_some, Option.map_none, Option.bind_some, setAll, List.zip_cons_cons, List.zip_nil_left, List.foldl_cons, List.foldl_nil, truthB, cmpEqI, cmpNeI, cmpLt, cmpLe, cmpGt, cmpGe, isNon, binAdd, binSub, Bool.not_true, Bool.not_false, decide_true, decide_false, reduceCtorEq, Nat.reduceAdd, Nat.reduceSub, Nat.sub_self, Nat.sub_zero, Nat.zero_add, ofI, idx0, idx1, idx2, biAbs, biLenT, biLenL, biTupL, biTupT, sz0, sz1, sz2, sz3, sz4, sz5, sz6, sz7, sz8, mulS [] (i := v) (j := 52817) v0 (by omega) (by omega) (by omega), e3]
  obtain ⟨ρ2, S2, hev, rest, v, a, e1, rfl, rfl, v0, v1⟩ := hf
  have hlst : seqOf [] (.lst (ns.map .int)) = some (ns.map .int) := rfl
  refine ⟨[bagO ns 0 0 v 0], ?_, rfl, ⟨ns, 0, 0, v, 0, rfl, by omega, by omega, v0, v1, by omega, by omega⟩, fun o ho => ?_⟩
  · simp only [c_law_bag, evE, evEs, evAnd, evOr, evL.eq_1, evL.eq_2, evL.eq_4, evL.eq_5, evL.eq_6, meT, meD, isLr, get_last, evI, evC.eq_1, evC.eq_2, evC.eq_3, evC.eq_4, evC.eq_5, evC.eq_6, evC.eq_7, evC.eq_8, evC.eq_9, evC.eq_10, evC.eq_13, evC.eq_14, evC.eq_15, evC.eq_16, evCs, GG_call, GG_raw, GG_glob, R.ne_ok, R.bd_ok, R.bd_err, R.bd_bad, opt_some, opt_none, R.th, Out.th, PyD.finish, PyD.start, List.map, List.length, List.replicate, List.getD_cons_zero, List.getD_cons_succ, List.set_cons_zero, List.set_cons_succ, List.cons_append, List.nil_append, if_true, if_false, Bool.false_eq_true, E.isNon, Option.map_some, Option.map_none, Option.bind_some, setAll, List.zip_cons_cons, List.zip_nil_left, List.foldl_cons, List.foldl_nil, truthB, cmpEqI, cmpNeI, cmpLt, cmpLe, cmpGt, cmpGe, isNon, binAdd, binSub, Bool.not_true, Bool.not_false, decide_true, decide_false, reduceCtorEq, Nat.reduceAdd, Nat.reduceSub, Nat.sub_self, Nat.sub_zero, Nat.zero_add, ofI, idx0, idx1, idx2, biAbs, biLenT, biLenL, biTupL, biTupT, sz0, sz1, sz2, sz3, sz4, sz5, sz6, sz7, sz8, hsl, List.length_map, hev, hlst, bagO, bagL]
  · rw [List.mem_singleton] at ho; subst ho; exact bag_clo _ _ _ _ _ _
end CA

namespace CB
open PySem PyD
def c_law_part : Fn := ⟨1, 3, false, (.cons (.set 1 (.call false "_law_pull" (.cons (.var 0) (.cons (.int 6) .nil)))) (.cons (.iff (.cmp .eq (.var 1) (.int 0)) (.cons (.ret (.tup (.cons (.bin .sub (.call false "_law_pull" (.cons (.var 0) (.cons (.int 3) .nil))) (.int 1)) (.cons (.int 1) .nil)))) .nil) .nil) (.cons (.iff (.cmp .eq (.var 1) (.int 1)) (.cons (.ret (.call false "_law_low" (.cons (.bin .sub (.call false "_law_pull" (.cons (.var 0) (.cons (.bin .pow (.int 10) (.int 29)) .nil))) (.bin .mul (.int 5) (.bin .pow (.int 10) (.int 28)))) (.cons (.bin .add (.int 1) (.call false "_law_pull" (.cons (.var 0) (.cons (.bin .pow (.int 10) (.int 29)) .nil)))) .nil)))) .nil) .nil) (.cons (.set 2 (.idx (.new false (.disp (.cons (.int 1) (.cons (.int 1) (.cons (.int 2) (.cons (.int 3) (.cons (.int 12) (.cons (.int 60) .nil)))))))) (.var 1))) (.cons (.ret (.call false "_law_low" (.cons (.bin .sub (.call false "_law_pull" (.cons (.var 0) (.cons (.int 199) .nil))) (.int 99)) (.cons (.bin .add (.int 1) (.call false "_law_pull" (.cons (.var 0) (.cons (.var 2) .nil)))) .nil)))) .nil)))))⟩
def m_law_wide_row_0 : L := (.comp [("_law_spot", 2)] (.one 2) (.rng (.cons (.var 1) .nil)) .nil (.call false "_law_part" (.cons (.var 0) .nil)))
def c_law_wide_row : Fn := ⟨2, 3, false, (.cons (.ret (.bi .tuple (.new false m_law_wide_row_0))) .nil)⟩
def m_law_same_0 : L := (.comp [("_law_a", 2), ("_law_b", 3)] (.many [2, 3]) (.zip (.var 0) (.var 1)) .nil (.call false "_law_same" (.cons (.var 2) (.cons (.var 3) .nil))))
def c_law_same : Fn := ⟨2, 4, false, (.cons (.iff (.or (.cons (.isn (.var 1)) (.cons (.isn (.var 0)) .nil))) (.cons (.ret (.and (.cons (.isn (.var 0)) (.cons (.isn (.var 1)) .nil)))) .nil) .nil) (.cons (.iff (.isa .seq (.var 1)) (.cons (.iff (.cmp .ne (.isa .list (.var 0)) (.isa .list (.var 1))) (.cons (.ret (.bl false)) .nil) .nil) (.cons (.iff (.cmp .ne (.isa .tuple (.var 0)) (.isa .tuple (.var 1))) (.cons (.ret (.bl false)) .nil) .nil) (.cons (.iff (.cmp .ne (.bi .len (.var 0)) (.bi .len (.var 1))) (.cons (.ret (.bl false)) .nil) .nil) (.cons (.ret (.bi .all (.new false m_law_same_0))) .nil)))) .nil) (.cons (.iff (.cmp .ne (.isa .bool (.var 0)) (.isa .bool (.var 1))) (.cons (.ret (.bl false)) .nil) .nil) (.cons (.iff (.cmp .ne (.isa .int (.var 0)) (.isa .int (.var 1))) (.cons (.ret (.bl false)) .nil) .nil) (.cons (.ret (.and (.cons (.cmp .eq (.isa .str (.var 0)) (.isa .str (.var 1))) (.cons (.cmp .eq (.var 0) (.var 1)) .nil)))) .nil)))))⟩
def m_law_rows_add_0 : L := (.comp [("_law_k", 2)] (.one 2) (.rng (.cons (.bi .len (.var 0)) .nil)) .nil (.call false "_law_add" (.cons (.idx (.var 0) (.var 2)) (.cons (.idx (.var 1) (.var 2)) .nil))))
def c_law_rows_add : Fn := ⟨2, 3, false, (.cons (.ret (.bi .tuple (.new false m_law_rows_add_0))) .nil)⟩
def c_law_neg : Fn := ⟨1, 1, false, (.cons (.ret (.tup (.cons (.bin .sub (.int 0) (.idx (.var 0) (.int 0))) (.cons (.idx (.var 0) (.int 1)) .nil)))) .nil)⟩
def l_law_turned_0 : Cs := (.cons (.ex (.me .app (.var 2) (.cons (.ite (.cmp .gt (.var 3) (.int 0)) (.idx (.var 1) (.bin .sub (.var 3) (.int 1))) (.call false "_law_neg" (.cons (.idx (.var 1) (.bin .sub (.bin .sub (.int 0) (.var 3)) (.int 1))) .nil))) .nil))) .nil)
def c_law_turned : Fn := ⟨2, 4, true, (.cons (.set 2 (.new true (.disp .nil))) (.cons (.fr (.one 3) (.seq (.var 0)) l_law_turned_0) (.cons (.ret (.bi .tuple (.var 2))) .nil)))⟩
def m_law_face_0 : L := (.comp [("_law_a", 2)] (.one 2) (.seq (.call false "_law_turned" (.cons (.idx (.var 0) (.int 0)) (.cons (.var 1) .nil)))) .nil (.call false "_law_mul" (.cons (.var 2) (.cons (.idx (.var 0) (.int 1)) .nil))))
def c_law_face : Fn := ⟨2, 3, false, (.cons (.ret (.bi .tuple (.new false m_law_face_0))) .nil)⟩
def c_law_move : Fn := ⟨2, 2, false, (.cons (.ret (.call false "_law_rows_add" (.cons (.call false "_law_face" (.cons (.sl (.var 0) .non (.int 2)) (.cons (.var 1) .nil))) (.cons (.idx (.var 0) (.int 2)) .nil)))) .nil)⟩
def m_law_rows_sub_0 : L := (.comp [("_law_k", 2)] (.one 2) (.rng (.cons (.bi .len (.var 0)) .nil)) .nil (.call false "_law_add" (.cons (.idx (.var 0) (.var 2)) (.cons (.call false "_law_neg" (.cons (.idx (.var 1) (.var 2)) .nil)) .nil))))
def c_law_rows_sub : Fn := ⟨2, 3, false, (.cons (.ret (.bi .tuple (.new false m_law_rows_sub_0))) .nil)⟩
def tbl : List (Str × Fn) := ("_law_part", c_law_part) ::
  ("_law_wide_row", c_law_wide_row) ::
  ("_law_same", c_law_same) ::
  ("_law_rows_add", c_law_rows_add) ::
  ("_law_neg", c_law_neg) ::
  ("_law_turned", c_law_turned) ::
  ("_law_face", c_law_face) ::
  ("_law_move", c_law_move) ::
  ("_law_rows_sub", c_law_rows_sub) :: []
def gls : List (Str × D) :=  []
structure Has (T : Str → Option Fn) (gl : Str → Option D) : Prop where
  fn : ∀ f c, tbl.lookup f = some c → T f = some c
  gc : ∀ x d, gls.lookup x = some d → gl x = some d
variable {T : Str → Option Fn} {gl : Str → Option D}
theorem look_law_part : tbl.lookup ("_law_part" : Str) = some c_law_part := lookup_idx (i := 0) (c := ("_law_part", c_law_part)) (by decide +kernel) rfl
theorem look_law_wide_row : tbl.lookup ("_law_wide_row" : Str) = some c_law_wide_row := lookup_idx (i := 1) (c := ("_law_wide_row", c_law_wide_row)) (by decide +kernel) rfl
theorem look_law_same : tbl.lookup ("_law_same" : Str) = some c_law_same := lookup_idx (i := 2) (c := ("_law_same", c_law_same)) (by decide +kernel) rfl
theorem look_law_rows_add : tbl.lookup ("_law_rows_add" : Str) = some c_law_rows_add := lookup_idx (i := 3) (c := ("_law_rows_add", c_law_rows_add)) (by decide +kernel) rfl
theorem look_law_neg : tbl.lookup ("_law_neg" : Str) = some c_law_neg := lookup_idx (i := 4) (c := ("_law_neg", c_law_neg)) (by decide +kernel) rfl
theorem look_law_turned : tbl.lookup ("_law_turned" : Str) = some c_law_turned := lookup_idx (i := 5) (c := ("_law_turned", c_law_turned)) (by decide +kernel) rfl
theorem look_law_face : tbl.lookup ("_law_face" : Str) = some c_law_face := lookup_idx (i := 6) (c := ("_law_face", c_law_face)) (by decide +kernel) rfl
theorem look_law_move : tbl.lookup ("_law_move" : Str) = some c_law_move := lookup_idx (i := 7) (c := ("_law_move", c_law_move)) (by decide +kernel) rfl
theorem look_law_rows_sub : tbl.lookup ("_law_rows_sub" : Str) = some c_law_rows_sub := lookup_idx (i := 8) (c := ("_law_rows_sub", c_law_rows_sub)) (by decide +kernel) rfl
theorem call_law_part (h : Has T gl) (k : Nat) (ds : List D) (S : Store) : callN T gl (k + 1) "_law_part" ds S = if ds.length = c_law_part.np then finish c_law_part.drop S.length (evCs (GG T gl k) c_law_part.body (start c_law_part.nl ds) S) else .bad := by
  rw [callN_succ, h.fn "_law_part" _ look_law_part]
theorem call_law_wide_row (h : Has T gl) (k : Nat) (ds : List D) (S : Store) : callN T gl (k + 1) "_law_wide_row" ds S = if ds.length = c_law_wide_row.np then finish c_law_wide_row.drop S.length (evCs (GG T gl k) c_law_wide_row.body (start c_law_wide_row.nl ds) S) else .bad := by
  rw [callN_succ, h.fn "_law_wide_row" _ look_law_wide_row]
theorem call_law_same (h : Has T gl) (k : Nat) (ds : List D) (S : Store) : callN T gl (k + 1) "_law_same" ds S = if ds.length = c_law_same.np then finish c_law_same.drop S.length (evCs (GG T gl k) c_law_same.body (start c_law_same.nl ds) S) else .bad := by
  rw [callN_succ, h.fn "_law_same" _ look_law_same]
theorem call_law_rows_add (h : Has T gl) (k : Nat) (ds : List D) (S : Store) : callN T gl (k + 1) "_law_rows_add" ds S = if ds.length = c_law_rows_add.np then finish c_law_rows_add.drop S.length (evCs (GG T gl k) c_law_rows_add.body (start c_law_rows_add.nl ds) S) else .bad := by
  rw [callN_succ, h.fn "_law_rows_add" _ look_law_rows_add]
theorem call_law_neg (h : Has T gl) (k : Nat) (ds : List D) (S : Store) : callN T gl (k + 1) "_law_neg" ds S = if ds.length = c_law_neg.np then finish c_law_neg.drop S.length (evCs (GG T gl k) c_law_neg.body (start c_law_neg.nl ds) S) else .bad := by
  rw [callN_succ, h.fn "_law_neg" _ look_law_neg]
theorem call_law_turned (h : Has T gl) (k : Nat) (ds : List D) (S : Store) : callN T gl (k + 1) "_law_turned" ds S = if ds.length = c_law_turned.np then finish c_law_turned.drop S.length (evCs (GG T gl k) c_law_turned.body (start c_law_turned.nl ds) S) else .bad := by
  rw [callN_succ, h.fn "_law_turned" _ look_law_turned]
theorem call_law_face (h : Has T gl) (k : Nat) (ds : List D) (S : Store) : callN T gl (k + 1) "_law_face" ds S = if ds.length = c_law_face.np then finish c_law_face.drop S.length (evCs (GG T gl k) c_law_face.body (start c_law_face.nl ds) S) else .bad := by
  rw [callN_succ, h.fn "_law_face" _ look_law_face]
theorem call_law_move (h : Has T gl) (k : Nat) (ds : List D) (S : Store) : callN T gl (k + 1) "_law_move" ds S = if ds.length = c_law_move.np then finish c_law_move.drop S.length (evCs (GG T gl k) c_law_move.body (start c_law_move.nl ds) S) else .bad := by
  rw [callN_succ, h.fn "_law_move" _ look_law_move]
theorem call_law_rows_sub (h : Has T gl) (k : Nat) (ds : List D) (S : Store) : callN T gl (k + 1) "_law_rows_sub" ds S = if ds.length = c_law_rows_sub.np then finish c_law_rows_sub.drop S.length (evCs (GG T gl k) c_law_rows_sub.body (start c_law_rows_sub.nl ds) S) else .bad := by
  rw [callN_succ, h.fn "_law_rows_sub" _ look_law_rows_sub]
end CB

namespace CA
open PySem PyD
theorem gm {α β : Type} (f : α → β) (z : α) (l : List α) (i : Nat) : (l.map f).getD i (f z) = f (l.getD i z) := by
  simp only [List.getD_eq_getElem?_getD, List.getElem?_map]
  cases l[i]? <;> rfl
theorem sgq_zero (q : Rat) : sgq 0 q = 0 := rfl
theorem sgq_add (x : Int) (p q : Rat) : sgq x (p + q) = sgq x p + sgq x q := by
  unfold sgq; split
  · rfl
  · split <;> grind
theorem sgq_mul (x : Int) (p q : Rat) : sgq x (p * q) = sgq x p * q := by
  unfold sgq; split
  · rfl
  · split <;> grind
theorem sgq_neg (x : Int) (p : Rat) : sgq x (-p) = -sgq x p := by
  unfold sgq; split
  · rfl
  · split <;> grind
theorem sgq_sgi (x y : Int) (q : Rat) : sgq (sgi x y) q = sgq x (sgq y q) := by
  unfold sgi
  split
  · next h => conv => rhs; rw [sgq, if_pos h]
  · next h =>
    split
    · next h2 =>
      conv => rhs; rw [sgq, if_neg h, if_pos h2]
      unfold sgq
      split
      · rw [if_neg (by omega), if_pos (by omega)]; grind
      · split
        · rw [if_pos (by omega)]
        · rw [if_neg (by omega), if_neg (by omega)]; grind
    · next h2 =>
      conv => rhs; rw [sgq, if_neg h, if_neg h2]
      rfl
theorem sgi_sgi (x y z : Int) : sgi (sgi x y) z = sgi x (sgi y z) := by
  unfold sgi
  repeat' split
  all_goals omega
theorem sgi_abs {x : Int} (h : x ≠ 0) (y : Int) : (sgi x y).natAbs = y.natAbs := by
  unfold sgi
  repeat' split
  all_goals omega
theorem turnR_at (t : List Int) (l : List Rat) (i : Nat) : (turnR t l).getD i 0 = sgq (t.getD i 0) (l.getD ((t.getD i 0).natAbs - 1) 0) :=
  gm (fun x => sgq x (l.getD (x.natAbs - 1) 0)) 0 t i
theorem both_at (a b : List Int) (i : Nat) : (bothT a b).getD i 0 = sgi (b.getD i 0) (a.getD ((b.getD i 0).natAbs - 1) 0) :=
  gm (fun x => sgi x (a.getD (x.natAbs - 1) 0)) 0 b i
theorem turn_both {n : Nat} {t u : List Int} (hu : InT u n) (l : List Rat) : turnR (bothT t u) l = turnR u (turnR t l) := by
  unfold bothT
  rw [turnR, List.map_map]
  show _ = u.map fun x => sgq x ((turnR t l).getD (x.natAbs - 1) 0)
  refine List.map_congr_left fun x hx => ?_
  rw [turnR_at]
  simp only [Function.comp]
  rw [sgq_sgi, sgi_abs (hu x hx).1]
theorem both_both {n : Nat} {a b c : List Int} (hc : InT c n) : bothT (bothT a b) c = bothT a (bothT b c) := by
  show c.map (fun x => sgi x ((bothT a b).getD (x.natAbs - 1) 0)) = (c.map fun x => sgi x (b.getD (x.natAbs - 1) 0)).map fun x => sgi x (a.getD (x.natAbs - 1) 0)
  rw [List.map_map]
  refine List.map_congr_left fun x hx => ?_
  rw [both_at]
  simp only [Function.comp]
  rw [sgi_sgi, sgi_abs (hc x hx).1]
theorem addR_at : ∀ {a b : List Rat}, a.length = b.length → ∀ i, (addR a b).getD i 0 = a.getD i 0 + b.getD i 0
  | [], [], _, i => by simp [addR]; exact (Rat.add_zero 0).symm
  | x :: a, y :: b, h, 0 => by simp [addR]
  | x :: a, y :: b, h, i + 1 => by
    have := addR_at (a := a) (b := b) (by simpa using h) i
    simpa [addR] using this
theorem turn_add (u : List Int) {a b : List Rat} (h : a.length = b.length) : turnR u (addR a b) = addR (turnR u a) (turnR u b) := by
  induction u with
  | nil => rfl
  | cons x u ih =>
    simp only [turnR, List.map_cons, addR, List.zip_cons_cons] at ih ⊢
    rw [ih]
    congr 1
    have := addR_at h (x.natAbs - 1)
    simp only [addR] at this
    rw [this, sgq_add]
theorem turn_scal (u : List Int) (a : List Rat) (s : Rat) : turnR u (scal a s) = scal (turnR u a) s := by
  show u.map (fun x => sgq x ((a.map (· * s)).getD (x.natAbs - 1) 0)) = (u.map fun x => sgq x (a.getD (x.natAbs - 1) 0)).map (· * s)
  rw [List.map_map]
  refine List.map_congr_left fun x _ => ?_
  have := gm (· * s) (0 : Rat) a (x.natAbs - 1)
  simp only [Rat.zero_mul] at this
  rw [this, sgq_mul]; rfl
theorem turn_neg (u : List Int) (a : List Rat) : turnR u (negR a) = negR (turnR u a) := by
  show u.map (fun x => sgq x ((a.map (- ·)).getD (x.natAbs - 1) 0)) = (u.map fun x => sgq x (a.getD (x.natAbs - 1) 0)).map (- ·)
  rw [List.map_map]
  refine List.map_congr_left fun x _ => ?_
  have := gm (- ·) (0 : Rat) a (x.natAbs - 1)
  simp only [Rat.neg_zero] at this
  rw [this, sgq_neg]; rfl
theorem scal_scal (a : List Rat) (s r : Rat) : scal (scal a s) r = scal a (s * r) := by
  simp only [scal, List.map_map]
  exact List.map_congr_left fun x _ => Rat.mul_assoc x s r
theorem scal_one (a : List Rat) : scal a 1 = a := by
  show a.map (· * 1) = a
  conv => rhs; rw [← List.map_id a]
  exact List.map_congr_left fun x _ => Rat.mul_one x
theorem scal_neg (a : List Rat) (s : Rat) : scal (negR a) s = negR (scal a s) := by
  simp only [scal, negR, List.map_map]
  exact List.map_congr_left fun x _ => by simp only [Function.comp]; grind
theorem neg_neg (a : List Rat) : negR (negR a) = a := by
  simp only [negR, List.map_map]
  conv => rhs; rw [← List.map_id a]
  exact List.map_congr_left fun x _ => by simp only [Function.comp, id]; grind
theorem scal_add : ∀ (a b : List Rat) (r : Rat), scal (addR a b) r = addR (scal a r) (scal b r)
  | [], _, _ => by simp [scal, addR]
  | _ :: _, [], _ => by simp [scal, addR]
  | x :: a, y :: b, r => by
    have := scal_add a b r
    simp only [scal, addR, List.map_cons, List.zip_cons_cons] at this ⊢
    rw [this, Rat.add_mul]
theorem add_assoc : ∀ a b c : List Rat, addR (addR a b) c = addR a (addR b c)
  | [], _, _ => by simp [addR]
  | _ :: _, [], _ => by simp [addR]
  | _ :: _, _ :: _, [] => by simp [addR]
  | x :: a, y :: b, z :: c => by
    have := add_assoc a b c
    simp only [addR, List.map_cons, List.zip_cons_cons] at this ⊢
    rw [this, Rat.add_assoc]
theorem add_neg : ∀ a : List Rat, addR a (negR a) = noR a.length
  | [] => rfl
  | x :: a => by
    have := add_neg a
    simp only [addR, negR, noR, List.map_cons, List.zip_cons_cons, List.length_cons, List.replicate_succ] at this ⊢
    rw [this]; congr 1; grind
theorem neg_add : ∀ a : List Rat, addR (negR a) a = noR a.length
  | [] => rfl
  | x :: a => by
    have := neg_add a
    simp only [addR, negR, noR, List.map_cons, List.zip_cons_cons, List.length_cons, List.replicate_succ] at this ⊢
    rw [this]; congr 1; grind
theorem no_add : ∀ a : List Rat, addR (noR a.length) a = a
  | [] => rfl
  | x :: a => by
    have := no_add a
    simp only [addR, noR, List.map_cons, List.zip_cons_cons, List.length_cons, List.replicate_succ] at this ⊢
    rw [this, Rat.zero_add]
theorem add_no : ∀ a : List Rat, addR a (noR a.length) = a
  | [] => rfl
  | x :: a => by
    have := add_no a
    simp only [addR, noR, List.map_cons, List.zip_cons_cons, List.length_cons, List.replicate_succ] at this ⊢
    rw [this, Rat.add_zero]
theorem turn_no (u : List Int) (n : Nat) : turnR u (noR n) = noR u.length := by
  have : ∀ i, (noR n).getD i 0 = 0 := fun i => by
    rw [List.getD_eq_getElem?_getD]
    cases h : (noR n)[i]? with
    | none => rfl
    | some q => exact List.eq_of_mem_replicate (List.mem_of_getElem? h)
  show u.map (fun x => sgq x ((noR n).getD (x.natAbs - 1) 0)) = _
  simp only [this]
  have h2 : ∀ x : Int, sgq x 0 = 0 := fun x => by unfold sgq; repeat' split <;> grind
  simp only [h2, noR, List.map_const']
theorem scal_no (n : Nat) (s : Rat) : scal (noR n) s = noR n := by
  simp only [scal, noR, List.map_replicate, Rat.zero_mul]
theorem id_turn (l : List Rat) : turnR (idT l.length) l = l := by
  unfold turnR idT
  rw [List.map_map]
  apply List.ext_getElem
  · simp
  · intro i h1 h2
    simp only [List.getElem_map, List.getElem_range, Function.comp]
    have e : (1 + (i : Int)).natAbs - 1 = i := by omega
    rw [e, sgq, if_pos (by omega), List.getD_eq_getElem?_getD, List.getElem?_eq_getElem h2]; rfl
theorem id_both {t : List Int} {n : Nat} (ht : InT t n) : bothT (idT n) t = t := by
  unfold bothT
  conv => rhs; rw [← List.map_id t]
  refine List.map_congr_left fun x hx => ?_
  have h := ht x hx
  have : (idT n).getD (x.natAbs - 1) 0 = x.natAbs := by
    unfold idT
    rw [List.getD_eq_getElem?_getD, List.getElem?_map, List.getElem?_range (by omega)]
    simp only [Option.map_some, Option.getD_some]; omega
  rw [this]
  unfold sgi
  simp only [id]
  repeat' split
  all_goals omega
theorem both_id (t : List Int) : bothT t (idT t.length) = t := by
  unfold bothT idT
  rw [List.map_map]
  apply List.ext_getElem
  · simp
  · intro i h1 h2
    simp only [List.getElem_map, List.getElem_range, Function.comp]
    have e : (1 + (i : Int)).natAbs - 1 = i := by omega
    rw [e, sgi, if_pos (by omega), List.getD_eq_getElem?_getD, List.getElem?_eq_getElem h2]; rfl
theorem led_then {n t s d u r e a b} (m : MoOk n t s d a) (m2 : MoOk n u r e b) (l : List Rat) : led (bothT t u) (s * r) (led u r e d) l = led u r e (led t s d l) := by
  unfold led
  have h1 : (scal (turnR t l) s).length = d.length := by
    have := allT_len m.ht
    have := m.hd
    simp only [scal, List.length_map, turnR_len]; omega
  rw [turn_both (allT_in m2.ht), turn_add u h1, turn_scal, scal_add, scal_scal, add_assoc]
theorem gap_then {n : Nat} {t u : List Int} (hu : u ∈ allT n) (s r : Rat) (l : List Rat) : scal (turnR (bothT t u) l) (s * r) = scal (turnR u (scal (turnR t l) s)) r := by
  rw [turn_both (allT_in hu), turn_scal, scal_scal]
theorem inv_mul {s : Rat} (h : 0 < s) : s⁻¹ * s = 1 := Rat.inv_mul_cancel s (by intro e; subst e; exact absurd h (by decide))
theorem mul_inv {s : Rat} (h : 0 < s) : s * s⁻¹ = 1 := Rat.mul_inv_cancel s (by intro e; subst e; exact absurd h (by decide))
theorem then_back {n t s d a} (m : MoOk n t s d a) : led (tback t) s⁻¹ (backd t s d) d = noR n := by
  unfold led backd
  rw [add_neg]
  congr 1
  simp only [scal, List.length_map, turnR_len]
  exact allT_len (allT_back m.ht).1
theorem turn_undo {n t a d s} (m : MoOk n t s d a) : turnR t (turnR (tback t) d) = d := by
  rw [← turn_both (t := tback t) (allT_in m.ht), (allT_back m.ht).2.2.1]
  have := id_turn d
  rw [m.hd] at this; exact this
theorem back_then {n t s d a} (m : MoOk n t s d a) : led t s d (backd t s d) = noR n := by
  unfold led backd
  rw [turn_neg, scal_neg, turn_scal, scal_scal, inv_mul m.hs, scal_one, turn_undo m, neg_add, m.hd]
theorem back_back {n t s d a} (m : MoOk n t s d a) : backd (tback t) s⁻¹ (backd t s d) = d := by
  unfold backd
  rw [(allT_back m.ht).2.2.2, turn_neg, scal_neg, neg_neg, turn_scal, scal_scal, Rat.inv_inv, inv_mul m.hs, scal_one, turn_undo m]
theorem still_led {n : Nat} {l : List Rat} (h : l.length = n) : led (idT n) 1 (noR n) l = l := by
  subst h
  unfold led
  rw [id_turn, scal_one, add_no]
theorem still_gap {n : Nat} {l : List Rat} (h : l.length = n) : scal (turnR (idT n) l) 1 = l := by
  subst h
  rw [id_turn, scal_one]
theorem still_then {n t s d a} (m : MoOk n t s d a) : led t s d (noR n) = d := by
  unfold led
  rw [turn_no, scal_no, allT_len m.ht, ← m.hd, no_add]
theorem then_rest {n t s d a} (m : MoOk n t s d a) : bothT t (idT n) = t ∧ bothT (idT n) t = t := by
  refine ⟨?_, id_both (allT_in m.ht)⟩
  have := both_id t
  rwa [allT_len m.ht] at this
theorem MoOk.still {n : Nat} (hn : n = 1 ∨ n = 2 ∨ n = 3) : MoOk n (idT n) 1 (noR n) 5 := ⟨idT_all hn, by decide, List.length_replicate, ⟨by decide, by decide⟩, noR_bd n⟩
theorem tback_both {n : Nat} {t u : List Int} (ht : t ∈ allT n) (hu : u ∈ allT n) : tback (bothT t u) = bothT (tback u) (tback t) := by
  have h1 := allT_back ht
  have h2 := allT_back hu
  have hb := allT_both ht hu
  have h3 := allT_back hb
  have hx := allT_both h2.1 h1.1
  have e1 : bothT (bothT t u) (bothT (tback u) (tback t)) = idT n := by
    rw [both_both (allT_in hx), ← both_both (a := u) (allT_in h1.1), h2.2.1, id_both (allT_in h1.1), h1.2.1]
  have e2 : bothT (tback (bothT t u)) (bothT (bothT t u) (bothT (tback u) (tback t))) = bothT (tback u) (tback t) := by
    rw [← both_both (allT_in hx), h3.2.2.1, id_both (allT_in hx)]
  rw [e1] at e2
  have := both_id (tback (bothT t u))
  rw [allT_len h3.1] at this
  rw [← this]; exact e2
theorem back_of_both {n t s d u r e a b} (m : MoOk n t s d a) (m2 : MoOk n u r e b) : backd (bothT t u) (s * r) (led u r e d) = led (tback t) s⁻¹ (backd t s d) (backd u r e) := by
  have h1 := allT_back m.ht
  have h2 := allT_back m2.ht
  unfold led backd
  have hl : (scal (turnR u d) r).length = e.length := by
    have := allT_len m2.ht
    have := m2.hd
    simp only [scal, List.length_map, turnR_len]; omega
  rw [tback_both m.ht m2.ht, turn_both (allT_in h1.1), turn_add _ hl, turn_scal, ← turn_both (t := u) (allT_in h2.1), h2.2.1]
  have hd := id_turn d
  rw [m.hd] at hd
  have hl2 : (scal d r).length = (turnR (tback u) e).length := by
    have := allT_len h2.1
    have := m.hd
    simp only [scal, List.length_map, turnR_len]; omega
  have hinv : (s * r)⁻¹ = r⁻¹ * s⁻¹ := Rat.inv_mul_rev s r
  rw [hd, turn_add _ hl2, turn_scal, scal_add, scal_scal, hinv]
  have e1 : r * (r⁻¹ * s⁻¹) = s⁻¹ := by rw [← Rat.mul_assoc, mul_inv m2.hs, Rat.one_mul]
  rw [e1, turn_neg, scal_neg, turn_scal, scal_scal]
  have hneg : ∀ x y : List Rat, negR (addR x y) = addR (negR y) (negR x) := by
    intro x
    induction x with
    | nil => intro y; cases y <;> rfl
    | cons p x ih =>
      intro y
      cases y with
      | nil => rfl
      | cons q y =>
        have := ih y
        simp only [negR, addR, List.map_cons, List.zip_cons_cons] at this ⊢
        rw [this]; congr 1; grind
  rw [hneg]
theorem sq_scal (l : List Rat) (s : Rat) : sqR (scal l s) = sqR l * (s * s) := by
  have : ∀ (l : List Rat) (a b : Rat), b = a * (s * s) → (l.map (· * s)).foldl (fun a p => a + p * p) b = l.foldl (fun a p => a + p * p) a * (s * s) := by
    intro l
    induction l with
    | nil => intro a b h; exact h
    | cons x l ih =>
      intro a b h
      exact ih _ _ (by subst h; grind)
  exact this l 0 0 (by rw [Rat.zero_mul])
theorem sq_turn {n : Nat} {t : List Int} {l : List Rat} (ht : t ∈ allT n) (hl : l.length = n) : sqR (turnR t l) = sqR l := by
  have e1 : ∀ (t : List Int), InT t n → ∀ a : Rat, (turnR t l).foldl (fun a p => a + p * p) a = (t.map fun x => (x.natAbs : Int)).foldl (fun a x => a + l.getD (x.natAbs - 1) 0 * l.getD (x.natAbs - 1) 0) a := by
    intro t
    induction t with
    | nil => intro _ a; rfl
    | cons x t ih =>
      intro h a
      have hx := h x List.mem_cons_self
      have hs : ∀ q : Rat, sgq x q * sgq x q = q * q := fun q => by
        unfold sgq
        split
        · rfl
        · rw [if_pos (by omega)]; grind
      have := ih (fun y hy => h y (List.mem_cons_of_mem _ hy)) (a + l.getD (x.natAbs - 1) 0 * l.getD (x.natAbs - 1) 0)
      simp only [turnR, List.map_cons, List.foldl_cons, hs, Int.natAbs_natCast] at this ⊢
      exact this
  have hid : idT n ∈ allT n := idT_all (allT_n ht)
  have hp := List.isPerm_iff.1 (allT_perm ht)
  have hp2 := List.isPerm_iff.1 (allT_perm hid)
  have e2 : sqR l = sqR (turnR (idT n) l) := by
    have := id_turn l
    rw [hl] at this; rw [this]
  rw [e2]
  unfold sqR
  rw [e1 t (allT_in ht), e1 (idT n) (allT_in hid)]
  refine (hp.trans hp2.symm).foldl_eq' ?_ 0
  intro x _ y _ z
  grind
end CA

namespace CB
open PySem PyD CA
variable {T : Str → Option Fn} {gl : Str → Option D}
mutual
def pln : D → Bool
  | .non => true
  | .bl _ => true
  | .int _ => true
  | .str s => PyData.strOk s
  | .tup xs => decide (xs.length ≤ 10000) && plns xs
  | .lst xs => decide (xs.length ≤ 10000) && plns xs
  | _ => false
def plns : List D → Bool
  | [] => true
  | x :: xs => pln x && plns xs
end
theorem plns_mem : ∀ {xs : List D}, plns xs = true → ∀ x ∈ xs, pln x = true
  | x :: xs, h, y, hy => by
    rw [plns, Bool.and_eq_true] at h
    cases hy with
    | head => exact h.1
    | tail _ hy => exact plns_mem h.2 y hy
theorem plns_of {xs : List D} (h : ∀ x ∈ xs, pln x = true) : plns xs = true := by
  induction xs with
  | nil => rfl
  | cons x xs ih => rw [plns, Bool.and_eq_true]; exact ⟨h x List.mem_cons_self, ih fun y hy => h y (List.mem_cons_of_mem _ hy)⟩
theorem cmpB (S : Store) (a b : Bool) : cmp S .ne (.bl a) (.bl b) = some (a != b) := by
  simp only [cmp, eqD, pdS, D.pd]
  rw [need_of ⟨by cases a <;> decide, by cases b <;> decide⟩]
  cases a <;> cases b <;> rfl
theorem cmpBe (S : Store) (a b : Bool) : cmp S .eq (.bl a) (.bl b) = some (a == b) := by
  simp only [cmp, eqD, pdS, D.pd]
  rw [need_of ⟨by cases a <;> decide, by cases b <;> decide⟩]
  cases a <;> cases b <;> rfl
theorem zip_self {α : Type} : ∀ xs : List α, xs.zip xs = xs.map fun z => (z, z)
  | [] => rfl
  | x :: xs => by rw [List.zip_cons_cons, zip_self xs]; rfl
theorem same_sp (h : Has T gl) (S : Store) : ∀ (k : Nat) (x : D), pln x = true → x.dep < k → callN T gl k "_law_same" [x, x] S = .ok (.bl true) S := by
  intro k
  induction k with
  | zero => intro x _ hd; omega
  | succ k ih =>
    intro x hp hd
    rw [call_law_same h]
    have seq : ∀ xs : List D, plns xs = true → xs.length ≤ 10000 → D.deps xs < k → ∀ y : D, isTup y = isTup y → seqIt S y = some ⟨xs, []⟩ → evL (GG T gl k) [some y, some y, none, none] m_law_same_0 S = .ok (xs.map fun _ => .bl true) S := by
      intro xs hx hn hk y _ hy
      refine l_map2 (src := []) xs (fun z => .tup [z, z]) _ ?_ (still_nil _ _) (by omega) fun z hz => ⟨[some y, some y, some z, some z], ?_, ?_⟩
      · simp only [evE, evEs, evAnd, evOr, evL.eq_1, evL.eq_2, evL.eq_4, evL.eq_5, evL.eq_6, meT, meD, isLr, get_last, evI, evC.eq_1, evC.eq_2, evC.eq_3, evC.eq_4, evC.eq_5, evC.eq_6, evC.eq_7, evC.eq_8, evC.eq_9, evC.eq_10, evC.eq_13, evC.eq_14, evC.eq_15, evC.eq_16, evCs, GG_call, GG_raw, GG_glob, R.ne_ok, R.bd_ok, R.bd_err, R.bd_bad, opt_some, opt_none, R.th, Out.th, PyD.finish, PyD.start, List.map, List.length, List.replicate, List.getD_cons_zero, List.getD_cons_succ, List.set_cons_zero, List.set_cons_succ, List.cons_append, List.nil_append, if_true, if_false, Bool.false_eq_true, E.isNon, Option.map_some, Option.map_none, Option.bind_some, setAll, List.zip_cons_cons, List.zip_nil_left, List.foldl_cons, List.foldl_nil, truthB, cmpEqI, cmpNeI, cmpLt, cmpLe, cmpGt, cmpGe, isNon, binAdd, binSub, Bool.not_true, Bool.not_false, decide_true, decide_false, reduceCtorEq, Nat.reduceAdd, Nat.reduceSub, Nat.sub_self, Nat.sub_zero, Nat.zero_add, ofI, idx0, idx1, idx2, biAbs, biLenT, biLenL, biTupL, biTupT, sz0, sz1, sz2, sz3, sz4, sz5, sz6, sz7, sz8, hy, List.append_nil]
        congr 2
        rw [zip_self, List.map_map]; rfl
      · exact need_of rfl
      · simp only [evE, evEs, evAnd, evOr, evL.eq_1, evL.eq_2, evL.eq_4, evL.eq_5, evL.eq_6, meT, meD, isLr, get_last, evI, evC.eq_1, evC.eq_2, evC.eq_3, evC.eq_4, evC.eq_5, evC.eq_6, evC.eq_7, evC.eq_8, evC.eq_9, evC.eq_10, evC.eq_13, evC.eq_14, evC.eq_15, evC.eq_16, evCs, GG_call, GG_raw, GG_glob, R.ne_ok, R.bd_ok, R.bd_err, R.bd_bad, opt_some, opt_none, R.th, Out.th, PyD.finish, PyD.start, List.map, List.length, List.replicate, List.getD_cons_zero, List.getD_cons_succ, List.set_cons_zero, List.set_cons_succ, List.cons_append, List.nil_append, if_true, if_false, Bool.false_eq_true, E.isNon, Option.map_some, Option.map_none, Option.bind_some, setAll, List.zip_cons_cons, List.zip_nil_left, List.foldl_cons, List.foldl_nil, truthB, cmpEqI, cmpNeI, cmpLt, cmpLe, cmpGt, cmpGe, isNon, binAdd, binSub, Bool.not_true, Bool.not_false, decide_true, decide_false, reduceCtorEq, Nat.reduceAdd, Nat.reduceSub, Nat.sub_self, Nat.sub_zero, Nat.zero_add, ofI, idx0, idx1, idx2, biAbs, biLenT, biLenL, biTupL, biTupT, sz0, sz1, sz2, sz3, sz4, sz5, sz6, sz7, sz8, ih z (plns_mem hx z hz) (by have := deps_mem z hz; omega)]
    cases x with
    | non => simp only [c_law_same, evE, evEs, evAnd, evOr, evL.eq_1, evL.eq_2, evL.eq_4, evL.eq_5, evL.eq_6, meT, meD, isLr, get_last, evI, evC.eq_1, evC.eq_2, evC.eq_3, evC.eq_4, evC.eq_5, evC.eq_6, evC.eq_7, evC.eq_8, evC.eq_9, evC.eq_10, evC.eq_13, evC.eq_14, evC.eq_15, evC.eq_16, evCs, GG_call, GG_raw, GG_glob, R.ne_ok, R.bd_ok, R.bd_err, R.bd_bad, opt_some, opt_none, R.th, Out.th, PyD.finish, PyD.start, List.map, List.length, List.replicate, List.getD_cons_zero, List.getD_cons_succ, List.set_cons_zero, List.set_cons_succ, List.cons_append, List.nil_append, if_true, if_false, Bool.false_eq_true, E.isNon, Option.map_some, Option.map_none, Option.bind_some, setAll, List.zip_cons_cons, List.zip_nil_left, List.foldl_cons, List.foldl_nil, truthB, cmpEqI, cmpNeI, cmpLt, cmpLe, cmpGt, cmpGe, isNon, binAdd, binSub, Bool.not_true, Bool.not_false, decide_true, decide_false, reduceCtorEq, Nat.reduceAdd, Nat.reduceSub, Nat.sub_self, Nat.sub_zero, Nat.zero_add, ofI, idx0, idx1, idx2, biAbs, biLenT, biLenL, biTupL, biTupT, sz0, sz1, sz2, sz3, sz4, sz5, sz6, sz7, sz8]
    | bl b => simp only [c_law_same, evE, evEs, evAnd, evOr, evL.eq_1, evL.eq_2, evL.eq_4, evL.eq_5, evL.eq_6, meT, meD, isLr, get_last, evI, evC.eq_1, evC.eq_2, evC.eq_3, evC.eq_4, evC.eq_5, evC.eq_6, evC.eq_7, evC.eq_8, evC.eq_9, evC.eq_10, evC.eq_13, evC.eq_14, evC.eq_15, evC.eq_16, evCs, GG_call, GG_raw, GG_glob, R.ne_ok, R.bd_ok, R.bd_err, R.bd_bad, opt_some, opt_none, R.th, Out.th, PyD.finish, PyD.start, List.map, List.length, List.replicate, List.getD_cons_zero, List.getD_cons_succ, List.set_cons_zero, List.set_cons_succ, List.cons_append, List.nil_append, if_true, if_false, Bool.false_eq_true, E.isNon, Option.map_some, Option.map_none, Option.bind_some, setAll, List.zip_cons_cons, List.zip_nil_left, List.foldl_cons, List.foldl_nil, truthB, cmpEqI, cmpNeI, cmpLt, cmpLe, cmpGt, cmpGe, isNon, binAdd, binSub, Bool.not_true, Bool.not_false, decide_true, decide_false, reduceCtorEq, Nat.reduceAdd, Nat.reduceSub, Nat.sub_self, Nat.sub_zero, Nat.zero_add, ofI, idx0, idx1, idx2, biAbs, biLenT, biLenL, biTupL, biTupT, sz0, sz1, sz2, sz3, sz4, sz5, sz6, sz7, sz8, isaD, cmpB, cmpBe, bne_self_eq_false, beq_self_eq_true]
    | int i => simp only [c_law_same, evE, evEs, evAnd, evOr, evL.eq_1, evL.eq_2, evL.eq_4, evL.eq_5, evL.eq_6, meT, meD, isLr, get_last, evI, evC.eq_1, evC.eq_2, evC.eq_3, evC.eq_4, evC.eq_5, evC.eq_6, evC.eq_7, evC.eq_8, evC.eq_9, evC.eq_10, evC.eq_13, evC.eq_14, evC.eq_15, evC.eq_16, evCs, GG_call, GG_raw, GG_glob, R.ne_ok, R.bd_ok, R.bd_err, R.bd_bad, opt_some, opt_none, R.th, Out.th, PyD.finish, PyD.start, List.map, List.length, List.replicate, List.getD_cons_zero, List.getD_cons_succ, List.set_cons_zero, List.set_cons_succ, List.cons_append, List.nil_append, if_true, if_false, Bool.false_eq_true, E.isNon, Option.map_some, Option.map_none, Option.bind_some, setAll, List.zip_cons_cons, List.zip_nil_left, List.foldl_cons, List.foldl_nil, truthB, cmpEqI, cmpNeI, cmpLt, cmpLe, cmpGt, cmpGe, isNon, binAdd, binSub, Bool.not_true, Bool.not_false, decide_true, decide_false, reduceCtorEq, Nat.reduceAdd, Nat.reduceSub, Nat.sub_self, Nat.sub_zero, Nat.zero_add, ofI, idx0, idx1, idx2, biAbs, biLenT, biLenL, biTupL, biTupT, sz0, sz1, sz2, sz3, sz4, sz5, sz6, sz7, sz8, isaD, cmpB, cmpBe, bne_self_eq_false, beq_self_eq_true]
    | str s => simp only [c_law_same, evE, evEs, evAnd, evOr, evL.eq_1, evL.eq_2, evL.eq_4, evL.eq_5, evL.eq_6, meT, meD, isLr, get_last, evI, evC.eq_1, evC.eq_2, evC.eq_3, evC.eq_4, evC.eq_5, evC.eq_6, evC.eq_7, evC.eq_8, evC.eq_9, evC.eq_10, evC.eq_13, evC.eq_14, evC.eq_15, evC.eq_16, evCs, GG_call, GG_raw, GG_glob, R.ne_ok, R.bd_ok, R.bd_err, R.bd_bad, opt_some, opt_none, R.th, Out.th, PyD.finish, PyD.start, List.map, List.length, List.replicate, List.getD_cons_zero, List.getD_cons_succ, List.set_cons_zero, List.set_cons_succ, List.cons_append, List.nil_append, if_true, if_false, Bool.false_eq_true, E.isNon, Option.map_some, Option.map_none, Option.bind_some, setAll, List.zip_cons_cons, List.zip_nil_left, List.foldl_cons, List.foldl_nil, truthB, cmpEqI, cmpNeI, cmpLt, cmpLe, cmpGt, cmpGe, isNon, binAdd, binSub, Bool.not_true, Bool.not_false, decide_true, decide_false, reduceCtorEq, Nat.reduceAdd, Nat.reduceSub, Nat.sub_self, Nat.sub_zero, Nat.zero_add, ofI, idx0, idx1, idx2, biAbs, biLenT, biLenL, biTupL, biTupT, sz0, sz1, sz2, sz3, sz4, sz5, sz6, sz7, sz8, isaD, cmpB, cmpBe, bne_self_eq_false, beq_self_eq_true, cmpEqSame S (x := .str s) hp (Nat.zero_le _)]
    | tup xs =>
      rw [pln, Bool.and_eq_true] at hp
      have hn := of_decide_eq_true hp.1
      rw [D.dep] at hd
      simp only [c_law_same, evE, evEs, evAnd, evOr, evL.eq_1, evL.eq_2, evL.eq_4, evL.eq_5, evL.eq_6, meT, meD, isLr, get_last, evI, evC.eq_1, evC.eq_2, evC.eq_3, evC.eq_4, evC.eq_5, evC.eq_6, evC.eq_7, evC.eq_8, evC.eq_9, evC.eq_10, evC.eq_13, evC.eq_14, evC.eq_15, evC.eq_16, evCs, GG_call, GG_raw, GG_glob, R.ne_ok, R.bd_ok, R.bd_err, R.bd_bad, opt_some, opt_none, R.th, Out.th, PyD.finish, PyD.start, List.map, List.length, List.replicate, List.getD_cons_zero, List.getD_cons_succ, List.set_cons_zero, List.set_cons_succ, List.cons_append, List.nil_append, if_true, if_false, Bool.false_eq_true, E.isNon, Option.map_some, Option.map_none, Option.bind_some, setAll, List.zip_cons_cons, List.zip_nil_left, List.foldl_cons, List.foldl_nil, truthB, cmpEqI, cmpNeI, cmpLt, cmpLe, cmpGt, cmpGe, isNon, binAdd, binSub, Bool.not_true, Bool.not_false, decide_true, decide_false, reduceCtorEq, Nat.reduceAdd, Nat.reduceSub, Nat.sub_self, Nat.sub_zero, Nat.zero_add, ofI, idx0, idx1, idx2, biAbs, biLenT, biLenL, biTupL, biTupT, sz0, sz1, sz2, sz3, sz4, sz5, sz6, sz7, sz8, isaD, cmpB, cmpBe, bne_self_eq_false, beq_self_eq_true, seq xs hp.2 hn (by omega) (.tup xs) rfl rfl, all_true]
    | lst xs =>
      rw [pln, Bool.and_eq_true] at hp
      have hn := of_decide_eq_true hp.1
      rw [D.dep] at hd
      simp only [c_law_same, evE, evEs, evAnd, evOr, evL.eq_1, evL.eq_2, evL.eq_4, evL.eq_5, evL.eq_6, meT, meD, isLr, get_last, evI, evC.eq_1, evC.eq_2, evC.eq_3, evC.eq_4, evC.eq_5, evC.eq_6, evC.eq_7, evC.eq_8, evC.eq_9, evC.eq_10, evC.eq_13, evC.eq_14, evC.eq_15, evC.eq_16, evCs, GG_call, GG_raw, GG_glob, R.ne_ok, R.bd_ok, R.bd_err, R.bd_bad, opt_some, opt_none, R.th, Out.th, PyD.finish, PyD.start, List.map, List.length, List.replicate, List.getD_cons_zero, List.getD_cons_succ, List.set_cons_zero, List.set_cons_succ, List.cons_append, List.nil_append, if_true, if_false, Bool.false_eq_true, E.isNon, Option.map_some, Option.map_none, Option.bind_some, setAll, List.zip_cons_cons, List.zip_nil_left, List.foldl_cons, List.foldl_nil, truthB, cmpEqI, cmpNeI, cmpLt, cmpLe, cmpGt, cmpGe, isNon, binAdd, binSub, Bool.not_true, Bool.not_false, decide_true, decide_false, reduceCtorEq, Nat.reduceAdd, Nat.reduceSub, Nat.sub_self, Nat.sub_zero, Nat.zero_add, ofI, idx0, idx1, idx2, biAbs, biLenT, biLenL, biTupL, biTupT, sz0, sz1, sz2, sz3, sz4, sz5, sz6, sz7, sz8, isaD, cmpB, cmpBe, bne_self_eq_false, beq_self_eq_true, seq xs hp.2 hn (by omega) (.lst xs) rfl rfl, all_true]
    | _ => cases hp
theorem lneg_sp (h : Has T gl) (S : Store) (p : Rat) (k : Nat) (hk : 1 ≤ k) : callN T gl k "_law_neg" [pt p] S = .ok (pt (-p)) S := by
  obtain ⟨k, rfl⟩ : ∃ q, k = q + 1 := ⟨k - 1, by omega⟩
  rw [call_law_neg h]
  simp only [c_law_neg, evE, evEs, evAnd, evOr, evL.eq_1, evL.eq_2, evL.eq_4, evL.eq_5, evL.eq_6, meT, meD, isLr, get_last, evI, evC.eq_1, evC.eq_2, evC.eq_3, evC.eq_4, evC.eq_5, evC.eq_6, evC.eq_7, evC.eq_8, evC.eq_9, evC.eq_10, evC.eq_13, evC.eq_14, evC.eq_15, evC.eq_16, evCs, GG_call, GG_raw, GG_glob, R.ne_ok, R.bd_ok, R.bd_err, R.bd_bad, opt_some, opt_none, R.th, Out.th, PyD.finish, PyD.start, List.map, List.length, List.replicate, List.getD_cons_zero, List.getD_cons_succ, List.set_cons_zero, List.set_cons_succ, List.cons_append, List.nil_append, if_true, if_false, Bool.false_eq_true, E.isNon, Option.map_some, Option.map_none, Option.bind_some, setAll, List.zip_cons_cons, List.zip_nil_left, List.foldl_cons, List.foldl_nil, truthB, cmpEqI, cmpNeI, cmpLt, cmpLe, cmpGt, cmpGe, isNon, binAdd, binSub, Bool.not_true, Bool.not_false, decide_true, decide_false, reduceCtorEq, Nat.reduceAdd, Nat.reduceSub, Nat.sub_self, Nat.sub_zero, Nat.zero_add, ofI, idx0, idx1, idx2, biAbs, biLenT, biLenL, biTupL, biTupT, sz0, sz1, sz2, sz3, sz4, sz5, sz6, sz7, sz8, pt_num, pt_den]
  simp only [pt, Rat.neg_num, Rat.neg_den, Int.zero_sub]
theorem at_pos (S : Store) (l : List Rat) (x : Int) (h0 : 0 < x) (h1 : x.natAbs ≤ l.length) : idxD S (row l) (.int (x - 1)) = some (pt (l.getD (x.natAbs - 1) 0)) := by
  have := row_at S l x (by omega) h1
  rwa [show ((x.natAbs : Int) - 1) = x - 1 by omega] at this
theorem at_neg (S : Store) (l : List Rat) (x : Int) (h0 : x < 0) (h1 : x.natAbs ≤ l.length) : idxD S (row l) (.int (0 - x - 1)) = some (pt (l.getD (x.natAbs - 1) 0)) := by
  have := row_at S l x (by omega) h1
  rwa [show ((x.natAbs : Int) - 1) = 0 - x - 1 by omega] at this
theorem lturned_sp (h : Has T gl) (S : Store) (hS : Clo S) (t : List Int) (l : List Rat) (ht : InT t l.length) (htl : t.length ≤ 1000) (k : Nat) (hk : 2 ≤ k) : callN T gl k "_law_turned" [turn t, row l] S = .ok (row (turnR t l)) S := by
  obtain ⟨k, rfl⟩ : ∃ q, k = q + 1 := ⟨k - 1, by omega⟩
  rw [call_law_turned h]
  have hf := f_inv (g := GG T gl k) (tg := .one 3) (it := .seq (.var 0)) (a := l_law_turned_0)
    (ρ := [some (turn t), some (row l), some (.ref S.length), none]) (S := S ++ [.lst []]) (S1 := S ++ [.lst []]) (t := ⟨t.map .int, []⟩)
    (fun xs ρ S' => ∃ done rest a, t = done ++ rest ∧ xs = rest.map .int ∧ ρ = [some (turn t), some (row l), some (.ref S.length), a] ∧ S' = S ++ [.lst ((turnR done l).map pt)])
    (by simp only [evE, evEs, evAnd, evOr, evL.eq_1, evL.eq_2, evL.eq_4, evL.eq_5, evL.eq_6, meT, meD, isLr, get_last, evI, evC.eq_1, evC.eq_2, evC.eq_3, evC.eq_4, evC.eq_5, evC.eq_6, evC.eq_7, evC.eq_8, evC.eq_9, evC.eq_10, evC.eq_13, evC.eq_14, evC.eq_15, evC.eq_16, evCs, GG_call, GG_raw, GG_glob, R.ne_ok, R.bd_ok, R.bd_err, R.bd_bad, opt_some, opt_none, R.th, Out.th, PyD.finish, PyD.start, List.map, List.length, List.replicate, List.getD_cons_zero, List.getD_cons_succ, List.set_cons_zero, List.set_cons_succ, List.cons_append, List.nil_append, if_true, if_false, Bool.false_eq_true, E.isNon, Option.map_some, Option.map_none, Option.bind_some, setAll, List.zip_cons_cons, List.zip_nil_left, List.foldl_cons, List.foldl_nil, truthB, cmpEqI, cmpNeI, cmpLt, cmpLe, cmpGt, cmpGe, isNon, binAdd, binSub, Bool.not_true, Bool.not_false, decide_true, decide_false, reduceCtorEq, Nat.reduceAdd, Nat.reduceSub, Nat.sub_self, Nat.sub_zero, Nat.zero_add, ofI, idx0, idx1, idx2, biAbs, biLenT, biLenL, biTupL, biTupT, sz0, sz1, sz2, sz3, sz4, sz5, sz6, sz7, sz8, seqTurn]) (fun _ _ _ _ => still_nil _ _) ?step ⟨[], t, none, rfl, rfl, rfl, rfl⟩
  case step =>
    rintro x xs ρ S' ⟨done, rest, a, e1, e2, rfl, rfl⟩
    cases rest with
    | nil => cases e2
    | cons y rest =>
      cases e2
      have hy := ht y (by rw [e1]; simp)
      have hlen : ((turnR done l).map pt).length < 100000 := by
        have : (done ++ y :: rest).length ≤ 1000 := by rw [← e1]; exact htl
        simp only [turnR, List.length_map]
        simp only [List.length_append] at this
        omega
      refine ⟨[some (turn t), some (row l), some (.ref S.length), some (.int y)], [some (turn t), some (row l), some (.ref S.length), some (.int y)], S ++ [.lst ((turnR (done ++ [y]) l).map pt)], rfl, ?_, done ++ [y], rest, _, by rw [e1]; simp, rfl, rfl, rfl⟩
      have ea := append_ok (S := S ++ [.lst ((turnR done l).map pt)]) (pt (sgq y (l.getD (y.natAbs - 1) 0))) (get_last S _ []) hlen
      have eo : (turnR (done ++ [y]) l).map pt = (turnR done l).map pt ++ [pt (sgq y (l.getD (y.natAbs - 1) 0))] := by simp [turnR]
      rw [eo]
      rw [set_last] at ea
      by_cases hp : 0 < y
      · have hs : sgq y (l.getD (y.natAbs - 1) 0) = l.getD (y.natAbs - 1) 0 := if_pos hp
        rw [hs] at ea ⊢
        simp only [l_law_turned_0, evE, evEs, evAnd, evOr, evL.eq_1, evL.eq_2, evL.eq_4, evL.eq_5, evL.eq_6, meT, meD, isLr, get_last, evI, evC.eq_1, evC.eq_2, evC.eq_3, evC.eq_4, evC.eq_5, evC.eq_6, evC.eq_7, evC.eq_8, evC.eq_9, evC.eq_10, evC.eq_13, evC.eq_14, evC.eq_15, evC.eq_16, evCs, GG_call, GG_raw, GG_glob, R.ne_ok, R.bd_ok, R.bd_err, R.bd_bad, opt_some, opt_none, R.th, Out.th, PyD.finish, PyD.start, List.map, List.length, List.replicate, List.getD_cons_zero, List.getD_cons_succ, List.set_cons_zero, List.set_cons_succ, List.cons_append, List.nil_append, if_true, if_false, Bool.false_eq_true, E.isNon, Option.map_some, Option.map_none, Option.bind_some, setAll, List.zip_cons_cons, List.zip_nil_left, List.foldl_cons, List.foldl_nil, truthB, cmpEqI, cmpNeI, cmpLt, cmpLe, cmpGt, cmpGe, isNon, binAdd, binSub, Bool.not_true, Bool.not_false, decide_true, decide_false, reduceCtorEq, Nat.reduceAdd, Nat.reduceSub, Nat.sub_self, Nat.sub_zero, Nat.zero_add, ofI, idx0, idx1, idx2, biAbs, biLenT, biLenL, biTupL, biTupT, sz0, sz1, sz2, sz3, sz4, sz5, sz6, sz7, sz8, at_pos _ l y hp hy.2, decT hp, ea]
      · have hs : sgq y (l.getD (y.natAbs - 1) 0) = -l.getD (y.natAbs - 1) 0 := by rw [sgq, if_neg hp, if_pos (by omega)]
        rw [hs] at ea ⊢
        simp only [l_law_turned_0, evE, evEs, evAnd, evOr, evL.eq_1, evL.eq_2, evL.eq_4, evL.eq_5, evL.eq_6, meT, meD, isLr, get_last, evI, evC.eq_1, evC.eq_2, evC.eq_3, evC.eq_4, evC.eq_5, evC.eq_6, evC.eq_7, evC.eq_8, evC.eq_9, evC.eq_10, evC.eq_13, evC.eq_14, evC.eq_15, evC.eq_16, evCs, GG_call, GG_raw, GG_glob, R.ne_ok, R.bd_ok, R.bd_err, R.bd_bad, opt_some, opt_none, R.th, Out.th, PyD.finish, PyD.start, List.map, List.length, List.replicate, List.getD_cons_zero, List.getD_cons_succ, List.set_cons_zero, List.set_cons_succ, List.cons_append, List.nil_append, if_true, if_false, Bool.false_eq_true, E.isNon, Option.map_some, Option.map_none, Option.bind_some, setAll, List.zip_cons_cons, List.zip_nil_left, List.foldl_cons, List.foldl_nil, truthB, cmpEqI, cmpNeI, cmpLt, cmpLe, cmpGt, cmpGe, isNon, binAdd, binSub, Bool.not_true, Bool.not_false, decide_true, decide_false, reduceCtorEq, Nat.reduceAdd, Nat.reduceSub, Nat.sub_self, Nat.sub_zero, Nat.zero_add, ofI, idx0, idx1, idx2, biAbs, biLenT, biLenL, biTupL, biTupT, sz0, sz1, sz2, sz3, sz4, sz5, sz6, sz7, sz8, at_neg _ l y (by omega) hy.2, decF hp, lneg_sp h _ _ k (by omega), ea]
  obtain ⟨ρ2, S2, hev, done, rest, a, e1, e2, rfl, rfl⟩ := hf
  have : rest = [] := by cases rest with | nil => rfl | cons y r => cases e2
  subst this
  rw [List.append_nil] at e1
  subst e1
  simp only [c_law_turned, evE, evEs, evAnd, evOr, evL.eq_1, evL.eq_2, evL.eq_4, evL.eq_5, evL.eq_6, meT, meD, isLr, get_last, evI, evC.eq_1, evC.eq_2, evC.eq_3, evC.eq_4, evC.eq_5, evC.eq_6, evC.eq_7, evC.eq_8, evC.eq_9, evC.eq_10, evC.eq_13, evC.eq_14, evC.eq_15, evC.eq_16, evCs, GG_call, GG_raw, GG_glob, R.ne_ok, R.bd_ok, R.bd_err, R.bd_bad, opt_some, opt_none, R.th, Out.th, PyD.finish, PyD.start, List.map, List.length, List.replicate, List.getD_cons_zero, List.getD_cons_succ, List.set_cons_zero, List.set_cons_succ, List.cons_append, List.nil_append, if_true, if_false, Bool.false_eq_true, E.isNon, Option.map_some, Option.map_none, Option.bind_some, setAll, List.zip_cons_cons, List.zip_nil_left, List.foldl_cons, List.foldl_nil, truthB, cmpEqI, cmpNeI, cmpLt, cmpLe, cmpGt, cmpGe, isNon, binAdd, binSub, Bool.not_true, Bool.not_false, decide_true, decide_false, reduceCtorEq, Nat.reduceAdd, Nat.reduceSub, Nat.sub_self, Nat.sub_zero, Nat.zero_add, ofI, idx0, idx1, idx2, biAbs, biLenT, biLenL, biTupL, biTupT, sz0, sz1, sz2, sz3, sz4, sz5, sz6, sz7, sz8, hev, biTupR (S ++ [.lst ((turnR t l).map pt)]) (get_last S _ [])]
  exact leave_ok (row_nice (turnR t l)) (Nat.lt_of_le_of_lt (row_dep (turnR t l)) (by omega)) hS
theorem lface_sp (h : CA.Has T gl) (h2 : Has T gl) (S : Store) (hS : Clo S) {n : Nat} {t : List Int} {s : Rat} {l : List Rat} {a b : Nat} (ht : t ∈ allT n) (hs : Bd s b) (hl : BdR l a) (hn : l.length = n) (ha : 1 ≤ a) (hab : a + b < 8000) (k : Nat) (hk : 4 ≤ k) : callN T gl k "_law_face" [fac t s, row l] S = .ok (row (scal (turnR t l) s)) S := by
  obtain ⟨k, rfl⟩ : ∃ q, k = q + 1 := ⟨k - 1, by omega⟩
  rw [call_law_face h2]
  have hlt := allT_len ht
  have hn3 : n ≤ 3 := by rcases allT_n ht with h | h | h <;> omega
  have hb := turnR_bd (t := t) ha hl
  have hc : evL (GG T gl k) [some (fac t s), some (row l), none] m_law_face_0 S = .ok ((turnR t l).map fun q => pt (q * s)) S := by
    refine l_map2 (src := []) (turnR t l) pt _ ?_ (still_nil _ _) (by rw [turnR_len]; omega) fun x hx => ⟨[some (fac t s), some (row l), some (pt x)], rfl, ?_⟩
    · simp only [evE, evEs, evAnd, evOr, evL.eq_1, evL.eq_2, evL.eq_4, evL.eq_5, evL.eq_6, meT, meD, isLr, get_last, evI, evC.eq_1, evC.eq_2, evC.eq_3, evC.eq_4, evC.eq_5, evC.eq_6, evC.eq_7, evC.eq_8, evC.eq_9, evC.eq_10, evC.eq_13, evC.eq_14, evC.eq_15, evC.eq_16, evCs, GG_call, GG_raw, GG_glob, R.ne_ok, R.bd_ok, R.bd_err, R.bd_bad, opt_some, opt_none, R.th, Out.th, PyD.finish, PyD.start, List.map, List.length, List.replicate, List.getD_cons_zero, List.getD_cons_succ, List.set_cons_zero, List.set_cons_succ, List.cons_append, List.nil_append, if_true, if_false, Bool.false_eq_true, E.isNon, Option.map_some, Option.map_none, Option.bind_some, setAll, List.zip_cons_cons, List.zip_nil_left, List.foldl_cons, List.foldl_nil, truthB, cmpEqI, cmpNeI, cmpLt, cmpLe, cmpGt, cmpGe, isNon, binAdd, binSub, Bool.not_true, Bool.not_false, decide_true, decide_false, reduceCtorEq, Nat.reduceAdd, Nat.reduceSub, Nat.sub_self, Nat.sub_zero, Nat.zero_add, ofI, idx0, idx1, idx2, biAbs, biLenT, biLenL, biTupL, biTupT, sz0, sz1, sz2, sz3, sz4, sz5, sz6, sz7, sz8, fac0, lturned_sp h2 S hS t l (by rw [hn]; exact allT_in ht) (by omega) k (by omega), seqRow]
    · simp only [evE, evEs, evAnd, evOr, evL.eq_1, evL.eq_2, evL.eq_4, evL.eq_5, evL.eq_6, meT, meD, isLr, get_last, evI, evC.eq_1, evC.eq_2, evC.eq_3, evC.eq_4, evC.eq_5, evC.eq_6, evC.eq_7, evC.eq_8, evC.eq_9, evC.eq_10, evC.eq_13, evC.eq_14, evC.eq_15, evC.eq_16, evCs, GG_call, GG_raw, GG_glob, R.ne_ok, R.bd_ok, R.bd_err, R.bd_bad, opt_some, opt_none, R.th, Out.th, PyD.finish, PyD.start, List.map, List.length, List.replicate, List.getD_cons_zero, List.getD_cons_succ, List.set_cons_zero, List.set_cons_succ, List.cons_append, List.nil_append, if_true, if_false, Bool.false_eq_true, E.isNon, Option.map_some, Option.map_none, Option.bind_some, setAll, List.zip_cons_cons, List.zip_nil_left, List.foldl_cons, List.foldl_nil, truthB, cmpEqI, cmpNeI, cmpLt, cmpLe, cmpGt, cmpGe, isNon, binAdd, binSub, Bool.not_true, Bool.not_false, decide_true, decide_false, reduceCtorEq, Nat.reduceAdd, Nat.reduceSub, Nat.sub_self, Nat.sub_zero, Nat.zero_add, ofI, idx0, idx1, idx2, biAbs, biLenT, biLenL, biTupL, biTupT, sz0, sz1, sz2, sz3, sz4, sz5, sz6, sz7, sz8, fac1, lmul_sp h S (hb x hx) hs hab k (by omega)]
  simp only [c_law_face, evE, evEs, evAnd, evOr, evL.eq_1, evL.eq_2, evL.eq_4, evL.eq_5, evL.eq_6, meT, meD, isLr, get_last, evI, evC.eq_1, evC.eq_2, evC.eq_3, evC.eq_4, evC.eq_5, evC.eq_6, evC.eq_7, evC.eq_8, evC.eq_9, evC.eq_10, evC.eq_13, evC.eq_14, evC.eq_15, evC.eq_16, evCs, GG_call, GG_raw, GG_glob, R.ne_ok, R.bd_ok, R.bd_err, R.bd_bad, opt_some, opt_none, R.th, Out.th, PyD.finish, PyD.start, List.map, List.length, List.replicate, List.getD_cons_zero, List.getD_cons_succ, List.set_cons_zero, List.set_cons_succ, List.cons_append, List.nil_append, if_true, if_false, Bool.false_eq_true, E.isNon, Option.map_some, Option.map_none, Option.bind_some, setAll, List.zip_cons_cons, List.zip_nil_left, List.foldl_cons, List.foldl_nil, truthB, cmpEqI, cmpNeI, cmpLt, cmpLe, cmpGt, cmpGe, isNon, binAdd, binSub, Bool.not_true, Bool.not_false, decide_true, decide_false, reduceCtorEq, Nat.reduceAdd, Nat.reduceSub, Nat.sub_self, Nat.sub_zero, Nat.zero_add, ofI, idx0, idx1, idx2, biAbs, biLenT, biLenL, biTupL, biTupT, sz0, sz1, sz2, sz3, sz4, sz5, sz6, sz7, sz8, hc]
  simp only [row, scal, List.map_map]; rfl
theorem row_atN (S : Store) (l : List Rat) (j : Nat) (h : j < l.length) : idxD S (row l) (.int (j : Int)) = some (pt (l.getD j 0)) := by
  refine idxT S (by omega) ?_
  rw [Int.toNat_natCast, List.getElem?_map, List.getD_eq_getElem?_getD, List.getElem?_eq_getElem h]; rfl
theorem rng0 {n : Nat} (h : n ≤ 100000) : rngD [.int (n : Int)] = some (0, n) := by
  simp only [rngD]
  rw [need_of (by omega)]; congr 2
theorem zip_get {α β γ : Type} (f : α → β → γ) (z : α) (w : β) : ∀ {l : List α} {m : List β}, l.length = m.length → (List.range l.length).map (fun j => f (l.getD j z) (m.getD j w)) = (l.zip m).map fun p => f p.1 p.2
  | [], [], _ => rfl
  | x :: l, y :: m, h => by
    rw [List.length_cons, List.range_succ_eq_map, List.map_cons, List.map_map, List.zip_cons_cons, List.map_cons, ← zip_get f z w (by simpa using h)]
    congr 1
theorem upTo0 (n : Nat) : PyD.upTo 0 n = (List.range n).map fun j => .int ((j : Nat) : Int) := by
  unfold PyD.upTo
  congr 1
  funext k
  rw [Int.zero_add]
theorem lradd_sp (h : CA.Has T gl) (h2 : Has T gl) (S : Store) {p q : List Rat} {a b : Nat} (hp : BdR p a) (hq : BdR q b) (hl : p.length = q.length) (hab : a + b < 8000) (hn : p.length ≤ 1000) (k : Nat) (hk : 4 ≤ k) : callN T gl k "_law_rows_add" [row p, row q] S = .ok (row (addR p q)) S := by
  obtain ⟨k, rfl⟩ : ∃ q, k = q + 1 := ⟨k - 1, by omega⟩
  rw [call_law_rows_add h2]
  have bd : ∀ {l : List Rat} {c j : Nat}, BdR l c → j < l.length → Bd (l.getD j 0) c := fun hb hj => hb _ (by rw [List.getD_eq_getElem?_getD, List.getElem?_eq_getElem hj]; exact List.getElem_mem hj)
  have hc : evL (GG T gl k) [some (row p), some (row q), none] m_law_rows_add_0 S = .ok ((List.range p.length).map fun j => pt (p.getD j 0 + q.getD j 0)) S := by
    refine l_map2 (src := []) (List.range p.length) (fun j => .int ((j : Nat) : Int)) _ ?_ (still_nil _ _) (by rw [List.length_range]; omega) fun j hj => ⟨[some (row p), some (row q), some (.int j)], rfl, ?_⟩
    · simp only [evE, evEs, evAnd, evOr, evL.eq_1, evL.eq_2, evL.eq_4, evL.eq_5, evL.eq_6, meT, meD, isLr, get_last, evI, evC.eq_1, evC.eq_2, evC.eq_3, evC.eq_4, evC.eq_5, evC.eq_6, evC.eq_7, evC.eq_8, evC.eq_9, evC.eq_10, evC.eq_13, evC.eq_14, evC.eq_15, evC.eq_16, evCs, GG_call, GG_raw, GG_glob, R.ne_ok, R.bd_ok, R.bd_err, R.bd_bad, opt_some, opt_none, R.th, Out.th, PyD.finish, PyD.start, List.map, List.length, List.replicate, List.getD_cons_zero, List.getD_cons_succ, List.set_cons_zero, List.set_cons_succ, List.cons_append, List.nil_append, if_true, if_false, Bool.false_eq_true, E.isNon, Option.map_some, Option.map_none, Option.bind_some, setAll, List.zip_cons_cons, List.zip_nil_left, List.foldl_cons, List.foldl_nil, truthB, cmpEqI, cmpNeI, cmpLt, cmpLe, cmpGt, cmpGe, isNon, binAdd, binSub, Bool.not_true, Bool.not_false, decide_true, decide_false, reduceCtorEq, Nat.reduceAdd, Nat.reduceSub, Nat.sub_self, Nat.sub_zero, Nat.zero_add, ofI, idx0, idx1, idx2, biAbs, biLenT, biLenL, biTupL, biTupT, sz0, sz1, sz2, sz3, sz4, sz5, sz6, sz7, sz8, lenRow, rng0 (show p.length ≤ 100000 by omega), upTo0]
    · have hj := List.mem_range.1 hj
      simp only [evE, evEs, evAnd, evOr, evL.eq_1, evL.eq_2, evL.eq_4, evL.eq_5, evL.eq_6, meT, meD, isLr, get_last, evI, evC.eq_1, evC.eq_2, evC.eq_3, evC.eq_4, evC.eq_5, evC.eq_6, evC.eq_7, evC.eq_8, evC.eq_9, evC.eq_10, evC.eq_13, evC.eq_14, evC.eq_15, evC.eq_16, evCs, GG_call, GG_raw, GG_glob, R.ne_ok, R.bd_ok, R.bd_err, R.bd_bad, opt_some, opt_none, R.th, Out.th, PyD.finish, PyD.start, List.map, List.length, List.replicate, List.getD_cons_zero, List.getD_cons_succ, List.set_cons_zero, List.set_cons_succ, List.cons_append, List.nil_append, if_true, if_false, Bool.false_eq_true, E.isNon, Option.map_some, Option.map_none, Option.bind_some, setAll, List.zip_cons_cons, List.zip_nil_left, List.foldl_cons, List.foldl_nil, truthB, cmpEqI, cmpNeI, cmpLt, cmpLe, cmpGt, cmpGe, isNon, binAdd, binSub, Bool.not_true, Bool.not_false, decide_true, decide_false, reduceCtorEq, Nat.reduceAdd, Nat.reduceSub, Nat.sub_self, Nat.sub_zero, Nat.zero_add, ofI, idx0, idx1, idx2, biAbs, biLenT, biLenL, biTupL, biTupT, sz0, sz1, sz2, sz3, sz4, sz5, sz6, sz7, sz8, row_atN S p j hj, row_atN S q j (by omega), ladd_sp h S (bd hp hj) (bd hq (j := j) (by omega)) hab k (by omega)]
  simp only [c_law_rows_add, evE, evEs, evAnd, evOr, evL.eq_1, evL.eq_2, evL.eq_4, evL.eq_5, evL.eq_6, meT, meD, isLr, get_last, evI, evC.eq_1, evC.eq_2, evC.eq_3, evC.eq_4, evC.eq_5, evC.eq_6, evC.eq_7, evC.eq_8, evC.eq_9, evC.eq_10, evC.eq_13, evC.eq_14, evC.eq_15, evC.eq_16, evCs, GG_call, GG_raw, GG_glob, R.ne_ok, R.bd_ok, R.bd_err, R.bd_bad, opt_some, opt_none, R.th, Out.th, PyD.finish, PyD.start, List.map, List.length, List.replicate, List.getD_cons_zero, List.getD_cons_succ, List.set_cons_zero, List.set_cons_succ, List.cons_append, List.nil_append, if_true, if_false, Bool.false_eq_true, E.isNon, Option.map_some, Option.map_none, Option.bind_some, setAll, List.zip_cons_cons, List.zip_nil_left, List.foldl_cons, List.foldl_nil, truthB, cmpEqI, cmpNeI, cmpLt, cmpLe, cmpGt, cmpGe, isNon, binAdd, binSub, Bool.not_true, Bool.not_false, decide_true, decide_false, reduceCtorEq, Nat.reduceAdd, Nat.reduceSub, Nat.sub_self, Nat.sub_zero, Nat.zero_add, ofI, idx0, idx1, idx2, biAbs, biLenT, biLenL, biTupL, biTupT, sz0, sz1, sz2, sz3, sz4, sz5, sz6, sz7, sz8, hc]
  rw [zip_get (fun x y => pt (x + y)) 0 0 hl]
  simp only [row, addR, List.map_map]; rfl
theorem lmove_sp (h : CA.Has T gl) (h2 : Has T gl) (S : Store) (hS : Clo S) {n t s d l a b} (m : MoOk n t s d b) (hl : BdR l a) (hn : l.length = n) (ha : 1 ≤ a) (hab : a + b + b < 8000) (k : Nat) (hk : 5 ≤ k) : callN T gl k "_law_move" [mot t s d, row l] S = .ok (row (led t s d l)) S := by
  obtain ⟨k, rfl⟩ : ∃ q, k = q + 1 := ⟨k - 1, by omega⟩
  rw [call_law_move h2]
  have n3 := m.n3
  have hlen : (scal (turnR t l) s).length = n := by simp only [scal, List.length_map, turnR_len]; exact allT_len m.ht
  simp only [c_law_move, evE, evEs, evAnd, evOr, evL.eq_1, evL.eq_2, evL.eq_4, evL.eq_5, evL.eq_6, meT, meD, isLr, get_last, evI, evC.eq_1, evC.eq_2, evC.eq_3, evC.eq_4, evC.eq_5, evC.eq_6, evC.eq_7, evC.eq_8, evC.eq_9, evC.eq_10, evC.eq_13, evC.eq_14, evC.eq_15, evC.eq_16, evCs, GG_call, GG_raw, GG_glob, R.ne_ok, R.bd_ok, R.bd_err, R.bd_bad, opt_some, opt_none, R.th, Out.th, PyD.finish, PyD.start, List.map, List.length, List.replicate, List.getD_cons_zero, List.getD_cons_succ, List.set_cons_zero, List.set_cons_succ, List.cons_append, List.nil_append, if_true, if_false, Bool.false_eq_true, E.isNon, Option.map_some, Option.map_none, Option.bind_some, setAll, List.zip_cons_cons, List.zip_nil_left, List.foldl_cons, List.foldl_nil, truthB, cmpEqI, cmpNeI, cmpLt, cmpLe, cmpGt, cmpGe, isNon, binAdd, binSub, Bool.not_true, Bool.not_false, decide_true, decide_false, reduceCtorEq, Nat.reduceAdd, Nat.reduceSub, Nat.sub_self, Nat.sub_zero, Nat.zero_add, ofI, idx0, idx1, idx2, biAbs, biLenT, biLenL, biTupL, biTupT, sz0, sz1, sz2, sz3, sz4, sz5, sz6, sz7, sz8, mot_sl, mot2, lface_sp h h2 S hS m.ht m.bs hl hn ha (by omega) k (by omega), lradd_sp h h2 S (scal_bd (turnR_bd (t := t) ha hl) m.bs) m.bd (by rw [hlen, m.hd]) (by omega) (by omega) k (by omega)]
  rfl
theorem lrsub_sp (h : CA.Has T gl) (h2 : Has T gl) (S : Store) {p q : List Rat} {a b : Nat} (hp : BdR p a) (hq : BdR q b) (hl : p.length = q.length) (hab : a + b < 8000) (hn : p.length ≤ 1000) (k : Nat) (hk : 4 ≤ k) : callN T gl k "_law_rows_sub" [row p, row q] S = .ok (row (addR p (negR q))) S := by
  obtain ⟨k, rfl⟩ : ∃ q, k = q + 1 := ⟨k - 1, by omega⟩
  rw [call_law_rows_sub h2]
  have bd : ∀ {l : List Rat} {c j : Nat}, BdR l c → j < l.length → Bd (l.getD j 0) c := fun hb hj => hb _ (by rw [List.getD_eq_getElem?_getD, List.getElem?_eq_getElem hj]; exact List.getElem_mem hj)
  have hl2 : p.length = (negR q).length := by rw [hl]; simp [negR]
  have ng : ∀ j, (negR q).getD j 0 = -(q.getD j 0) := fun j => by
    simp only [negR, List.getD_eq_getElem?_getD, List.getElem?_map]
    cases q[j]? <;> rfl
  have hc : evL (GG T gl k) [some (row p), some (row q), none] m_law_rows_sub_0 S = .ok ((List.range p.length).map fun j => pt (p.getD j 0 + (negR q).getD j 0)) S := by
    refine l_map2 (src := []) (List.range p.length) (fun j => .int ((j : Nat) : Int)) _ ?_ (still_nil _ _) (by rw [List.length_range]; omega) fun j hj => ⟨[some (row p), some (row q), some (.int j)], rfl, ?_⟩
    · simp only [evE, evEs, evAnd, evOr, evL.eq_1, evL.eq_2, evL.eq_4, evL.eq_5, evL.eq_6, meT, meD, isLr, get_last, evI, evC.eq_1, evC.eq_2, evC.eq_3, evC.eq_4, evC.eq_5, evC.eq_6, evC.eq_7, evC.eq_8, evC.eq_9, evC.eq_10, evC.eq_13, evC.eq_14, evC.eq_15, evC.eq_16, evCs, GG_call, GG_raw, GG_glob, R.ne_ok, R.bd_ok, R.bd_err, R.bd_bad, opt_some, opt_none, R.th, Out.th, PyD.finish, PyD.start, List.map, List.length, List.replicate, List.getD_cons_zero, List.getD_cons_succ, List.set_cons_zero, List.set_cons_succ, List.cons_append, List.nil_append, if_true, if_false, Bool.false_eq_true, E.isNon, Option.map_some, Option.map_none, Option.bind_some, setAll, List.zip_cons_cons, List.zip_nil_left, List.foldl_cons, List.foldl_nil, truthB, cmpEqI, cmpNeI, cmpLt, cmpLe, cmpGt, cmpGe, isNon, binAdd, binSub, Bool.not_true, Bool.not_false, decide_true, decide_false, reduceCtorEq, Nat.reduceAdd, Nat.reduceSub, Nat.sub_self, Nat.sub_zero, Nat.zero_add, ofI, idx0, idx1, idx2, biAbs, biLenT, biLenL, biTupL, biTupT, sz0, sz1, sz2, sz3, sz4, sz5, sz6, sz7, sz8, lenRow, rng0 (show p.length ≤ 100000 by omega), upTo0]
    · have hj := List.mem_range.1 hj
      rw [ng]
      simp only [evE, evEs, evAnd, evOr, evL.eq_1, evL.eq_2, evL.eq_4, evL.eq_5, evL.eq_6, meT, meD, isLr, get_last, evI, evC.eq_1, evC.eq_2, evC.eq_3, evC.eq_4, evC.eq_5, evC.eq_6, evC.eq_7, evC.eq_8, evC.eq_9, evC.eq_10, evC.eq_13, evC.eq_14, evC.eq_15, evC.eq_16, evCs, GG_call, GG_raw, GG_glob, R.ne_ok, R.bd_ok, R.bd_err, R.bd_bad, opt_some, opt_none, R.th, Out.th, PyD.finish, PyD.start, List.map, List.length, List.replicate, List.getD_cons_zero, List.getD_cons_succ, List.set_cons_zero, List.set_cons_succ, List.cons_append, List.nil_append, if_true, if_false, Bool.false_eq_true, E.isNon, Option.map_some, Option.map_none, Option.bind_some, setAll, List.zip_cons_cons, List.zip_nil_left, List.foldl_cons, List.foldl_nil, truthB, cmpEqI, cmpNeI, cmpLt, cmpLe, cmpGt, cmpGe, isNon, binAdd, binSub, Bool.not_true, Bool.not_false, decide_true, decide_false, reduceCtorEq, Nat.reduceAdd, Nat.reduceSub, Nat.sub_self, Nat.sub_zero, Nat.zero_add, ofI, idx0, idx1, idx2, biAbs, biLenT, biLenL, biTupL, biTupT, sz0, sz1, sz2, sz3, sz4, sz5, sz6, sz7, sz8, row_atN S p j hj, row_atN S q j (by omega), lneg_sp h2 S _ k (by omega), ladd_sp h S (bd hp hj) (bd hq (j := j) (by omega)).neg hab k (by omega)]
  simp only [c_law_rows_sub, evE, evEs, evAnd, evOr, evL.eq_1, evL.eq_2, evL.eq_4, evL.eq_5, evL.eq_6, meT, meD, isLr, get_last, evI, evC.eq_1, evC.eq_2, evC.eq_3, evC.eq_4, evC.eq_5, evC.eq_6, evC.eq_7, evC.eq_8, evC.eq_9, evC.eq_10, evC.eq_13, evC.eq_14, evC.eq_15, evC.eq_16, evCs, GG_call, GG_raw, GG_glob, R.ne_ok, R.bd_ok, R.bd_err, R.bd_bad, opt_some, opt_none, R.th, Out.th, PyD.finish, PyD.start, List.map, List.length, List.replicate, List.getD_cons_zero, List.getD_cons_succ, List.set_cons_zero, List.set_cons_succ, List.cons_append, List.nil_append, if_true, if_false, Bool.false_eq_true, E.isNon, Option.map_some, Option.map_none, Option.bind_some, setAll, List.zip_cons_cons, List.zip_nil_left, List.foldl_cons, List.foldl_nil, truthB, cmpEqI, cmpNeI, cmpLt, cmpLe, cmpGt, cmpGe, isNon, binAdd, binSub, Bool.not_true, Bool.not_false, decide_true, decide_false, reduceCtorEq, Nat.reduceAdd, Nat.reduceSub, Nat.sub_self, Nat.sub_zero, Nat.zero_add, ofI, idx0, idx1, idx2, biAbs, biLenT, biLenL, biTupL, biTupT, sz0, sz1, sz2, sz3, sz4, sz5, sz6, sz7, sz8, hc]
  rw [zip_get (fun x y => pt (x + y)) 0 0 hl2]
  simp only [row, addR, List.map_map]; rfl
theorem pow29 (S : Store) : bin S .pow (.int 10) (.int 29) = some (.int 100000000000000000000000000000) := need_of (by decide)
theorem pow28 (S : Store) : bin S .pow (.int 10) (.int 28) = some (.int 10000000000000000000000000000) := need_of (by decide)
theorem lpart_sp (h : CA.Has T gl) (h2 : Has T gl) (S : Store) {b c : Nat} (hB : BagAt S b c) (hc : c < 2 ^ 60) (k : Nat) (hk : 3 ≤ k) :
    ∃ (q : Rat) (S' : Store), callN T gl k "_law_part" [.ref b] S = .ok (pt q) S' ∧ Bd q 97 ∧ BagAt S' b (c + 3) ∧ Fr b S S' := by
  obtain ⟨k, rfl⟩ : ∃ q, k = q + 1 := ⟨k - 1, by omega⟩
  rw [call_law_part h2]
  obtain ⟨r, S1, e1, hr, hB1, f1⟩ := pull_sp h S hB (by omega) (m := 6) (by omega) (by omega) k (by omega)
  simp only [Int.ofNat_eq_natCast, Int.cast_ofNat_Int] at e1
  by_cases h0 : r = 0
  · subst h0
    obtain ⟨r2, S2, e2, hr2, hB2, f2⟩ := pull_sp h S1 hB1 (by omega) (m := 3) (by omega) (by omega) k (by omega)
    simp only [Int.ofNat_eq_natCast, Int.cast_ofNat_Int] at e1 e2
    refine ⟨((r2 : Int) - 1 : Int), S2, ?_, ⟨?_, ?_⟩, hB2.mono (by omega), f1.trans f2⟩
    · simp only [c_law_part, evE, evEs, evAnd, evOr, evL.eq_1, evL.eq_2, evL.eq_4, evL.eq_5, evL.eq_6, meT, meD, isLr, get_last, evI, evC.eq_1, evC.eq_2, evC.eq_3, evC.eq_4, evC.eq_5, evC.eq_6, evC.eq_7, evC.eq_8, evC.eq_9, evC.eq_10, evC.eq_13, evC.eq_14, evC.eq_15, evC.eq_16, evCs, GG_call, GG_raw, GG_glob, R.ne_ok, R.bd_ok, R.bd_err, R.bd_bad, opt_some, opt_none, R.th, Out.th, PyD.finish, PyD.start, List.map, List.length, List.replicate, List.getD_cons_zero, List.getD_cons_succ, List.set_cons_zero, List.set_cons_succ, List.cons_append, List.nil_append, if_true, if_false, Bool.false_eq_true, E.isNon, Option.map_some, Option.map_none, Option.bind_some, setAll, List.zip_cons_cons, List.zip_nil_left, List.foldl_cons, List.foldl_nil, truthB, cmpEqI, cmpNeI, cmpLt, cmpLe, cmpGt, cmpGe, isNon, binAdd, binSub, Bool.not_true, Bool.not_false, decide_true, decide_false, reduceCtorEq, Nat.reduceAdd, Nat.reduceSub, Nat.sub_self, Nat.sub_zero, Nat.zero_add, ofI, idx0, idx1, idx2, biAbs, biLenT, biLenL, biTupL, biTupT, sz0, sz1, sz2, sz3, sz4, sz5, sz6, sz7, sz8, e1, e2]; rfl
    · show ((r2 : Int) - 1).natAbs < _; omega
    · show 1 < _; omega
  have c0 : ¬((r : Int) = 0) := by omega
  by_cases h1 : r = 1
  · subst h1
    obtain ⟨r2, S2, e2, hr2, hB2, f2⟩ := pull_sp h S1 hB1 (by omega) (m := 100000000000000000000000000000) (by omega) (by omega) k (by omega)
    obtain ⟨r3, S3, e3, hr3, hB3, f3⟩ := pull_sp h S2 hB2 (by omega) (m := 100000000000000000000000000000) (by omega) (by omega) k (by omega)
    have hm : bin S2 .mul (.int 5) (.int 10000000000000000000000000000) = some (.int 50000000000000000000000000000) := mulS S2 (by omega) (by omega) (by omega) (by omega)
    have hn : 1 + r3 ≠ 0 := by omega
    have e5 := llow_sp h S3 ((r2 : Int) - 50000000000000000000000000000) (1 + r3) k 97 hn (by omega) (by omega) (by omega)
    rw [Int.natCast_add] at e5
    simp only [Int.ofNat_eq_natCast, Int.cast_ofNat_Int] at e1 e2 e3 e5
    refine ⟨Rat.normalize ((r2 : Int) - 50000000000000000000000000000) (1 + r3) hn, S3, ?_, norm_bd hn (by omega) (by omega), hB3, f1.trans (f2.trans f3)⟩
    have c00 : ¬((1 : Int) = 0) := by omega
    simp only [c_law_part, evE, evEs, evAnd, evOr, evL.eq_1, evL.eq_2, evL.eq_4, evL.eq_5, evL.eq_6, meT, meD, isLr, get_last, evI, evC.eq_1, evC.eq_2, evC.eq_3, evC.eq_4, evC.eq_5, evC.eq_6, evC.eq_7, evC.eq_8, evC.eq_9, evC.eq_10, evC.eq_13, evC.eq_14, evC.eq_15, evC.eq_16, evCs, GG_call, GG_raw, GG_glob, R.ne_ok, R.bd_ok, R.bd_err, R.bd_bad, opt_some, opt_none, R.th, Out.th, PyD.finish, PyD.start, List.map, List.length, List.replicate, List.getD_cons_zero, List.getD_cons_succ, List.set_cons_zero, List.set_cons_succ, List.cons_append, List.nil_append, if_true, if_false, Bool.false_eq_true, E.isNon, Option.map_some, Option.map_none, Option.bind_some, setAll, List.zip_cons_cons, List.zip_nil_left, List.foldl_cons, List.foldl_nil, truthB, cmpEqI, cmpNeI, cmpLt, cmpLe, cmpGt, cmpGe, isNon, binAdd, binSub, Bool.not_true, Bool.not_false, decide_true, decide_false, reduceCtorEq, Nat.reduceAdd, Nat.reduceSub, Nat.sub_self, Nat.sub_zero, Nat.zero_add, ofI, idx0, idx1, idx2, biAbs, biLenT, biLenL, biTupL, biTupT, sz0, sz1, sz2, sz3, sz4, sz5, sz6, sz7, sz8, e1, decF c00, pow29, pow28, hm, e2, e3, e5]
  have c1 : ¬((r : Int) = 1) := by omega
  have hd : ∃ d : Nat, ([.int 1, .int 1, .int 2, .int 3, .int 12, .int 60] : List D)[r]? = some (.int d) ∧ 1 ≤ d ∧ d ≤ 60 := by
    have : r = 2 ∨ r = 3 ∨ r = 4 ∨ r = 5 := by omega
    rcases this with rfl | rfl | rfl | rfl
    · exact ⟨2, rfl, by omega, by omega⟩
    · exact ⟨3, rfl, by omega, by omega⟩
    · exact ⟨12, rfl, by omega, by omega⟩
    · exact ⟨60, rfl, by omega, by omega⟩
  obtain ⟨d, hd, d1, d4⟩ := hd
  have i1 : idxD S1 (.lst [.int 1, .int 1, .int 2, .int 3, .int 12, .int 60]) (.int r) = some (.int d) := idxLs S1 (by omega) (by rw [Int.toNat_natCast]; exact hd)
  obtain ⟨r2, S2, e2, hr2, hB2, f2⟩ := pull_sp h S1 hB1 (by omega) (m := 199) (by omega) (by omega) k (by omega)
  obtain ⟨r3, S3, e3, hr3, hB3, f3⟩ := pull_sp h S2 hB2 (by omega) (m := d) (by omega) (by omega) k (by omega)
  have hn : 1 + r3 ≠ 0 := by omega
  have e5 := llow_sp h S3 ((r2 : Int) - 99) (1 + r3) k 97 hn (by omega) (by omega) (by omega)
  rw [Int.natCast_add] at e5
  simp only [Int.ofNat_eq_natCast, Int.cast_ofNat_Int] at e1 e2 e3 e5
  refine ⟨Rat.normalize ((r2 : Int) - 99) (1 + r3) hn, S3, ?_, norm_bd hn (by omega) (by omega), hB3, f1.trans (f2.trans f3)⟩
  simp only [c_law_part, evE, evEs, evAnd, evOr, evL.eq_1, evL.eq_2, evL.eq_4, evL.eq_5, evL.eq_6, meT, meD, isLr, get_last, evI, evC.eq_1, evC.eq_2, evC.eq_3, evC.eq_4, evC.eq_5, evC.eq_6, evC.eq_7, evC.eq_8, evC.eq_9, evC.eq_10, evC.eq_13, evC.eq_14, evC.eq_15, evC.eq_16, evCs, GG_call, GG_raw, GG_glob, R.ne_ok, R.bd_ok, R.bd_err, R.bd_bad, opt_some, opt_none, R.th, Out.th, PyD.finish, PyD.start, List.map, List.length, List.replicate, List.getD_cons_zero, List.getD_cons_succ, List.set_cons_zero, List.set_cons_succ, List.cons_append, List.nil_append, if_true, if_false, Bool.false_eq_true, E.isNon, Option.map_some, Option.map_none, Option.bind_some, setAll, List.zip_cons_cons, List.zip_nil_left, List.foldl_cons, List.foldl_nil, truthB, cmpEqI, cmpNeI, cmpLt, cmpLe, cmpGt, cmpGe, isNon, binAdd, binSub, Bool.not_true, Bool.not_false, decide_true, decide_false, reduceCtorEq, Nat.reduceAdd, Nat.reduceSub, Nat.sub_self, Nat.sub_zero, Nat.zero_add, ofI, idx0, idx1, idx2, biAbs, biLenT, biLenL, biTupL, biTupT, sz0, sz1, sz2, sz3, sz4, sz5, sz6, sz7, sz8, e1, decF c0, decF c1, i1, e2, e3, e5]
theorem lwide_sp (h : CA.Has T gl) (h2 : Has T gl) (S : Store) {b c : Nat} (hB : BagAt S b c) (hc : c < 2 ^ 50) (m : Nat) (hm : m ≤ 3) (k : Nat) (hk : 4 ≤ k) :
    ∃ (l : List Rat) (S' : Store), callN T gl k "_law_wide_row" [.ref b, .int m] S = .ok (row l) S' ∧ l.length = m ∧ BdR l 97 ∧ BagAt S' b (c + 9) ∧ Fr b S S' := by
  obtain ⟨k, rfl⟩ : ∃ q, k = q + 1 := ⟨k - 1, by omega⟩
  rw [call_law_wide_row h2]
  obtain ⟨ys, S2, hev, rest, l, h1, h2', h3, h4, h5, h6⟩ := l_inv (g := GG T gl k) (ρ := [some (.ref b), some (.int m), none]) (own := [("_law_spot", 2)]) (tg := .one 2) (it := .rng (.cons (.var 1) .nil)) (elt := .call false "_law_part" (.cons (.var 0) .nil)) (S := S) (S1 := S) (t := ⟨PyD.upTo 0 m, []⟩)
    (fun xs acc S' => ∃ (rest : List D) (l : List Rat), xs = rest ∧ acc = l.map pt ∧ rest.length + l.length = m ∧ BdR l 97 ∧ BagAt S' b (c + 3 * l.length) ∧ Fr b S S')
    (by simp only [evE, evEs, evAnd, evOr, evL.eq_1, evL.eq_2, evL.eq_4, evL.eq_5, evL.eq_6, meT, meD, isLr, get_last, evI, evC.eq_1, evC.eq_2, evC.eq_3, evC.eq_4, evC.eq_5, evC.eq_6, evC.eq_7, evC.eq_8, evC.eq_9, evC.eq_10, evC.eq_13, evC.eq_14, evC.eq_15, evC.eq_16, evCs, GG_call, GG_raw, GG_glob, R.ne_ok, R.bd_ok, R.bd_err, R.bd_bad, opt_some, opt_none, R.th, Out.th, PyD.finish, PyD.start, List.map, List.length, List.replicate, List.getD_cons_zero, List.getD_cons_succ, List.set_cons_zero, List.set_cons_succ, List.cons_append, List.nil_append, if_true, if_false, Bool.false_eq_true, E.isNon, Option.map_some, Option.map_none, Option.bind_some, setAll, List.zip_cons_cons, List.zip_nil_left, List.foldl_cons, List.foldl_nil, truthB, cmpEqI, cmpNeI, cmpLt, cmpLe, cmpGt, cmpGe, isNon, binAdd, binSub, Bool.not_true, Bool.not_false, decide_true, decide_false, reduceCtorEq, Nat.reduceAdd, Nat.reduceSub, Nat.sub_self, Nat.sub_zero, Nat.zero_add, ofI, idx0, idx1, idx2, biAbs, biLenT, biLenL, biTupL, biTupT, sz0, sz1, sz2, sz3, sz4, sz5, sz6, sz7, sz8, rng0 (show m ≤ 100000 by omega)]) (fun xs acc S' ⟨rest, l, h1, h2, h3, _⟩ => ⟨still_nil _ _, by subst h1 h2; rw [List.length_map]; omega⟩)
    (by
      rintro x xs acc S' ⟨rest, l, h1, h2', h3, h4, h5, h6⟩
      subst h1 h2'
      simp only [List.length_cons] at h3
      obtain ⟨q, S3, e1, hq, hB3, f3⟩ := lpart_sp h h2 S' h5 (by omega) k (by omega)
      refine ⟨[some (.ref b), some (.int m), some x], pt q, S3, rfl, by simp only [evE, evEs, evAnd, evOr, evL.eq_1, evL.eq_2, evL.eq_4, evL.eq_5, evL.eq_6, meT, meD, isLr, get_last, evI, evC.eq_1, evC.eq_2, evC.eq_3, evC.eq_4, evC.eq_5, evC.eq_6, evC.eq_7, evC.eq_8, evC.eq_9, evC.eq_10, evC.eq_13, evC.eq_14, evC.eq_15, evC.eq_16, evCs, GG_call, GG_raw, GG_glob, R.ne_ok, R.bd_ok, R.bd_err, R.bd_bad, opt_some, opt_none, R.th, Out.th, PyD.finish, PyD.start, List.map, List.length, List.replicate, List.getD_cons_zero, List.getD_cons_succ, List.set_cons_zero, List.set_cons_succ, List.cons_append, List.nil_append, if_true, if_false, Bool.false_eq_true, E.isNon, Option.map_some, Option.map_none, Option.bind_some, setAll, List.zip_cons_cons, List.zip_nil_left, List.foldl_cons, List.foldl_nil, truthB, cmpEqI, cmpNeI, cmpLt, cmpLe, cmpGt, cmpGe, isNon, binAdd, binSub, Bool.not_true, Bool.not_false, decide_true, decide_false, reduceCtorEq, Nat.reduceAdd, Nat.reduceSub, Nat.sub_self, Nat.sub_zero, Nat.zero_add, ofI, idx0, idx1, idx2, biAbs, biLenT, biLenL, biTupL, biTupT, sz0, sz1, sz2, sz3, sz4, sz5, sz6, sz7, sz8, e1], xs, l ++ [q], rfl, by simp, by simp only [List.length_append, List.length_cons, List.length_nil]; omega, ?_, ?_, h6.trans f3⟩
      · intro y hy
        rcases List.mem_append.1 hy with hy | hy
        · exact h4 y hy
        · rw [List.mem_singleton] at hy; subst hy; exact hq
      · exact hB3.mono (by simp only [List.length_append, List.length_cons, List.length_nil]; omega))
    ⟨PyD.upTo 0 m, [], rfl, rfl, by simp [PyD.upTo], fun q hq => (nomatch hq), hB, hB.fr⟩
  subst h1 h2'
  simp only [List.length_nil] at h3
  refine ⟨l, S2, by simp only [c_law_wide_row, m_law_wide_row_0, evE, evEs, evAnd, evOr, evL.eq_1, evL.eq_2, evL.eq_4, evL.eq_5, evL.eq_6, meT, meD, isLr, get_last, evI, evC.eq_1, evC.eq_2, evC.eq_3, evC.eq_4, evC.eq_5, evC.eq_6, evC.eq_7, evC.eq_8, evC.eq_9, evC.eq_10, evC.eq_13, evC.eq_14, evC.eq_15, evC.eq_16, evCs, GG_call, GG_raw, GG_glob, R.ne_ok, R.bd_ok, R.bd_err, R.bd_bad, opt_some, opt_none, R.th, Out.th, PyD.finish, PyD.start, List.map, List.length, List.replicate, List.getD_cons_zero, List.getD_cons_succ, List.set_cons_zero, List.set_cons_succ, List.cons_append, List.nil_append, if_true, if_false, Bool.false_eq_true, E.isNon, Option.map_some, Option.map_none, Option.bind_some, setAll, List.zip_cons_cons, List.zip_nil_left, List.foldl_cons, List.foldl_nil, truthB, cmpEqI, cmpNeI, cmpLt, cmpLe, cmpGt, cmpGe, isNon, binAdd, binSub, Bool.not_true, Bool.not_false, decide_true, decide_false, reduceCtorEq, Nat.reduceAdd, Nat.reduceSub, Nat.sub_self, Nat.sub_zero, Nat.zero_add, ofI, idx0, idx1, idx2, biAbs, biLenT, biLenL, biTupL, biTupT, sz0, sz1, sz2, sz3, sz4, sz5, sz6, sz7, sz8, hev]; rfl, by omega, h4, h5.mono (by omega), h6⟩
end CB

namespace CC
open PySem PyD
def m_law_turn_then_0 : L := (.comp [("_law_num", 3)] (.one 3) (.rng (.cons (.int 1) (.cons (.bin .add (.bi .len (.var 0)) (.int 1)) .nil))) .nil (.tup (.cons (.var 3) (.cons (.int 1) .nil))))
def m_law_turn_then_1 : L := (.comp [("_law_unit", 4)] (.one 4) (.seq (.var 2)) .nil (.idx (.var 4) (.int 0)))
def c_law_turn_then : Fn := ⟨2, 5, false, (.cons (.set 2 (.call false "_law_turned" (.cons (.var 1) (.cons (.call false "_law_turned" (.cons (.var 0) (.cons (.bi .tuple (.new false m_law_turn_then_0)) .nil))) .nil)))) (.cons (.ret (.bi .tuple (.new false m_law_turn_then_1))) .nil))⟩
def c_law_face_then : Fn := ⟨2, 2, false, (.cons (.ret (.tup (.cons (.call false "_law_turn_then" (.cons (.idx (.var 0) (.int 0)) (.cons (.idx (.var 1) (.int 0)) .nil))) (.cons (.call false "_law_mul" (.cons (.idx (.var 0) (.int 1)) (.cons (.idx (.var 1) (.int 1)) .nil))) .nil)))) .nil)⟩
def c_law_then : Fn := ⟨2, 2, false, (.cons (.ret (.bin .add (.call false "_law_face_then" (.cons (.sl (.var 0) .non (.int 2)) (.cons (.sl (.var 1) .non (.int 2)) .nil))) (.tup (.cons (.call false "_law_move" (.cons (.var 1) (.cons (.idx (.var 0) (.int 2)) .nil))) .nil)))) .nil)⟩
def l_law_turn_back_0 : Cs := (.cons (.ex (.me .app (.var 1) (.cons (.ite (.inn false (.var 2) (.var 0)) (.bin .add (.me .idx (.var 0) (.cons (.var 2) .nil)) (.int 1)) (.bin .sub (.bin .sub (.int 0) (.me .idx (.var 0) (.cons (.bin .sub (.int 0) (.var 2)) .nil))) (.int 1))) .nil))) .nil)
def c_law_turn_back : Fn := ⟨1, 3, true, (.cons (.set 1 (.new true (.disp .nil))) (.cons (.fr (.one 2) (.rng (.cons (.int 1) (.cons (.bin .add (.bi .len (.var 0)) (.int 1)) .nil))) l_law_turn_back_0) (.cons (.ret (.bi .tuple (.var 1))) .nil)))⟩
def c_law_inv : Fn := ⟨1, 1, false, (.cons (.ret (.ite (.cmp .gt (.idx (.var 0) (.int 0)) (.int 0)) (.tup (.cons (.idx (.var 0) (.int 1)) (.cons (.idx (.var 0) (.int 0)) .nil))) (.tup (.cons (.bin .sub (.int 0) (.idx (.var 0) (.int 1))) (.cons (.bin .sub (.int 0) (.idx (.var 0) (.int 0))) .nil))))) .nil)⟩
def c_law_face_back : Fn := ⟨1, 1, false, (.cons (.ret (.tup (.cons (.call false "_law_turn_back" (.cons (.idx (.var 0) (.int 0)) .nil)) (.cons (.call false "_law_inv" (.cons (.idx (.var 0) (.int 1)) .nil)) .nil)))) .nil)⟩
def m_law_back_0 : L := (.comp [("_law_a", 2)] (.one 2) (.seq (.call false "_law_face" (.cons (.var 1) (.cons (.idx (.var 0) (.int 2)) .nil)))) .nil (.call false "_law_neg" (.cons (.var 2) .nil)))
def c_law_back : Fn := ⟨1, 3, false, (.cons (.set 1 (.call false "_law_face_back" (.cons (.sl (.var 0) .non (.int 2)) .nil))) (.cons (.ret (.bin .add (.var 1) (.tup (.cons (.bi .tuple (.new false m_law_back_0)) .nil)))) .nil))⟩
def m_law_all_turns_0 : L := (.comp [("_law_num", 6)] (.one 6) (.seq (.var 4)) .nil (.bi .abs (.var 6)))
def l_law_all_turns_0 : Cs := (.cons (.iff (.inn true (.var 6) (.var 5)) (.cons (.set 3 (.bin .add (.var 3) (.new false (.disp (.cons (.bin .add (.var 4) (.tup (.cons (.var 6) .nil))) (.cons (.bin .add (.var 4) (.tup (.cons (.bin .sub (.int 0) (.var 6)) .nil))) .nil)))))) .nil) .nil) .nil)
def l_law_all_turns_1 : Cs := (.cons (.set 5 (.new false m_law_all_turns_0)) (.cons (.fr (.one 6) (.rng (.cons (.int 1) (.cons (.bin .add (.var 0) (.int 1)) .nil))) l_law_all_turns_0) .nil))
def l_law_all_turns_2 : Cs := (.cons (.set 3 (.new false (.disp .nil))) (.cons (.fr (.one 4) (.seq (.var 1)) l_law_all_turns_1) (.cons (.set 1 (.var 3)) .nil)))
def c_law_all_turns : Fn := ⟨1, 7, false, (.cons (.set 1 (.new false (.disp (.cons (.tup .nil) .nil)))) (.cons (.fr (.one 2) (.rng (.cons (.var 0) .nil)) l_law_all_turns_2) (.cons (.ret (.new false (.sorted (.var 1)))) .nil)))⟩
def l_law_is_part_0 : Cs := (.cons (.iff (.or (.cons (.not (.isa .int (.var 1))) (.cons (.isa .bool (.var 1)) .nil))) (.cons (.ret (.bl false)) .nil) .nil) .nil)
def c_law_is_part : Fn := ⟨1, 2, false, (.cons (.iff (.or (.cons (.not (.isa .tuple (.var 0))) (.cons (.cmp .ne (.bi .len (.var 0)) (.int 2)) .nil))) (.cons (.ret (.bl false)) .nil) .nil) (.cons (.fr (.one 1) (.seq (.var 0)) l_law_is_part_0) (.cons (.ret (.and (.cons (.cmp .gt (.idx (.var 0) (.int 1)) (.int 0)) (.cons (.cmp .eq (.call false "_law_gcd" (.cons (.bi .abs (.idx (.var 0) (.int 0))) (.cons (.idx (.var 0) (.int 1)) .nil))) (.int 1)) .nil)))) .nil)))⟩
def m_law_is_row_0 : L := (.comp [("_law_p", 2)] (.one 2) (.seq (.var 0)) .nil (.call false "_law_is_part" (.cons (.var 2) .nil)))
def c_law_is_row : Fn := ⟨2, 3, false, (.cons (.ret (.and (.cons (.isa .tuple (.var 0)) (.cons (.cmp .eq (.bi .len (.var 0)) (.var 1)) (.cons (.bi .all (.new false m_law_is_row_0)) .nil))))) .nil)⟩
def c_law_is_motion : Fn := ⟨1, 1, false, (.cons (.iff (.or (.cons (.cmp .ne (.bi .len (.var 0)) (.int 3)) (.cons (.not (.chain .le .le (.int 1) (.bi .len (.idx (.var 0) (.int 0))) (.int 3))) (.cons (.inn true (.idx (.var 0) (.int 0)) (.call false "_law_all_turns" (.cons (.bi .len (.idx (.var 0) (.int 0))) .nil))) .nil)))) (.cons (.ret (.bl false)) .nil) .nil) (.cons (.ret (.and (.cons (.call false "_law_is_part" (.cons (.idx (.var 0) (.int 1)) .nil)) (.cons (.cmp .gt (.idx (.idx (.var 0) (.int 1)) (.int 0)) (.int 0)) (.cons (.call false "_law_is_row" (.cons (.idx (.var 0) (.int 2)) (.cons (.bi .len (.idx (.var 0) (.int 0))) .nil))) .nil))))) .nil))⟩
def tbl : List (Str × Fn) := ("_law_turn_then", c_law_turn_then) ::
  ("_law_face_then", c_law_face_then) ::
  ("_law_then", c_law_then) ::
  ("_law_turn_back", c_law_turn_back) ::
  ("_law_inv", c_law_inv) ::
  ("_law_face_back", c_law_face_back) ::
  ("_law_back", c_law_back) ::
  ("_law_all_turns", c_law_all_turns) ::
  ("_law_is_part", c_law_is_part) ::
  ("_law_is_row", c_law_is_row) ::
  ("_law_is_motion", c_law_is_motion) :: []
def gls : List (Str × D) :=  []
structure Has (T : Str → Option Fn) (gl : Str → Option D) : Prop where
  fn : ∀ f c, tbl.lookup f = some c → T f = some c
  gc : ∀ x d, gls.lookup x = some d → gl x = some d
variable {T : Str → Option Fn} {gl : Str → Option D}
theorem look_law_turn_then : tbl.lookup ("_law_turn_then" : Str) = some c_law_turn_then := lookup_idx (i := 0) (c := ("_law_turn_then", c_law_turn_then)) (by decide +kernel) rfl
theorem look_law_face_then : tbl.lookup ("_law_face_then" : Str) = some c_law_face_then := lookup_idx (i := 1) (c := ("_law_face_then", c_law_face_then)) (by decide +kernel) rfl
theorem look_law_then : tbl.lookup ("_law_then" : Str) = some c_law_then := lookup_idx (i := 2) (c := ("_law_then", c_law_then)) (by decide +kernel) rfl
theorem look_law_turn_back : tbl.lookup ("_law_turn_back" : Str) = some c_law_turn_back := lookup_idx (i := 3) (c := ("_law_turn_back", c_law_turn_back)) (by decide +kernel) rfl
theorem look_law_inv : tbl.lookup ("_law_inv" : Str) = some c_law_inv := lookup_idx (i := 4) (c := ("_law_inv", c_law_inv)) (by decide +kernel) rfl
theorem look_law_face_back : tbl.lookup ("_law_face_back" : Str) = some c_law_face_back := lookup_idx (i := 5) (c := ("_law_face_back", c_law_face_back)) (by decide +kernel) rfl
theorem look_law_back : tbl.lookup ("_law_back" : Str) = some c_law_back := lookup_idx (i := 6) (c := ("_law_back", c_law_back)) (by decide +kernel) rfl
theorem look_law_all_turns : tbl.lookup ("_law_all_turns" : Str) = some c_law_all_turns := lookup_idx (i := 7) (c := ("_law_all_turns", c_law_all_turns)) (by decide +kernel) rfl
theorem look_law_is_part : tbl.lookup ("_law_is_part" : Str) = some c_law_is_part := lookup_idx (i := 8) (c := ("_law_is_part", c_law_is_part)) (by decide +kernel) rfl
theorem look_law_is_row : tbl.lookup ("_law_is_row" : Str) = some c_law_is_row := lookup_idx (i := 9) (c := ("_law_is_row", c_law_is_row)) (by decide +kernel) rfl
theorem look_law_is_motion : tbl.lookup ("_law_is_motion" : Str) = some c_law_is_motion := lookup_idx (i := 10) (c := ("_law_is_motion", c_law_is_motion)) (by decide +kernel) rfl
theorem call_law_turn_then (h : Has T gl) (k : Nat) (ds : List D) (S : Store) : callN T gl (k + 1) "_law_turn_then" ds S = if ds.length = c_law_turn_then.np then finish c_law_turn_then.drop S.length (evCs (GG T gl k) c_law_turn_then.body (start c_law_turn_then.nl ds) S) else .bad := by
  rw [callN_succ, h.fn "_law_turn_then" _ look_law_turn_then]
theorem call_law_face_then (h : Has T gl) (k : Nat) (ds : List D) (S : Store) : callN T gl (k + 1) "_law_face_then" ds S = if ds.length = c_law_face_then.np then finish c_law_face_then.drop S.length (evCs (GG T gl k) c_law_face_then.body (start c_law_face_then.nl ds) S) else .bad := by
  rw [callN_succ, h.fn "_law_face_then" _ look_law_face_then]
theorem call_law_then (h : Has T gl) (k : Nat) (ds : List D) (S : Store) : callN T gl (k + 1) "_law_then" ds S = if ds.length = c_law_then.np then finish c_law_then.drop S.length (evCs (GG T gl k) c_law_then.body (start c_law_then.nl ds) S) else .bad := by
  rw [callN_succ, h.fn "_law_then" _ look_law_then]
theorem call_law_turn_back (h : Has T gl) (k : Nat) (ds : List D) (S : Store) : callN T gl (k + 1) "_law_turn_back" ds S = if ds.length = c_law_turn_back.np then finish c_law_turn_back.drop S.length (evCs (GG T gl k) c_law_turn_back.body (start c_law_turn_back.nl ds) S) else .bad := by
  rw [callN_succ, h.fn "_law_turn_back" _ look_law_turn_back]
theorem call_law_inv (h : Has T gl) (k : Nat) (ds : List D) (S : Store) : callN T gl (k + 1) "_law_inv" ds S = if ds.length = c_law_inv.np then finish c_law_inv.drop S.length (evCs (GG T gl k) c_law_inv.body (start c_law_inv.nl ds) S) else .bad := by
  rw [callN_succ, h.fn "_law_inv" _ look_law_inv]
theorem call_law_face_back (h : Has T gl) (k : Nat) (ds : List D) (S : Store) : callN T gl (k + 1) "_law_face_back" ds S = if ds.length = c_law_face_back.np then finish c_law_face_back.drop S.length (evCs (GG T gl k) c_law_face_back.body (start c_law_face_back.nl ds) S) else .bad := by
  rw [callN_succ, h.fn "_law_face_back" _ look_law_face_back]
theorem call_law_back (h : Has T gl) (k : Nat) (ds : List D) (S : Store) : callN T gl (k + 1) "_law_back" ds S = if ds.length = c_law_back.np then finish c_law_back.drop S.length (evCs (GG T gl k) c_law_back.body (start c_law_back.nl ds) S) else .bad := by
  rw [callN_succ, h.fn "_law_back" _ look_law_back]
theorem call_law_all_turns (h : Has T gl) (k : Nat) (ds : List D) (S : Store) : callN T gl (k + 1) "_law_all_turns" ds S = if ds.length = c_law_all_turns.np then finish c_law_all_turns.drop S.length (evCs (GG T gl k) c_law_all_turns.body (start c_law_all_turns.nl ds) S) else .bad := by
  rw [callN_succ, h.fn "_law_all_turns" _ look_law_all_turns]
theorem call_law_is_part (h : Has T gl) (k : Nat) (ds : List D) (S : Store) : callN T gl (k + 1) "_law_is_part" ds S = if ds.length = c_law_is_part.np then finish c_law_is_part.drop S.length (evCs (GG T gl k) c_law_is_part.body (start c_law_is_part.nl ds) S) else .bad := by
  rw [callN_succ, h.fn "_law_is_part" _ look_law_is_part]
theorem call_law_is_row (h : Has T gl) (k : Nat) (ds : List D) (S : Store) : callN T gl (k + 1) "_law_is_row" ds S = if ds.length = c_law_is_row.np then finish c_law_is_row.drop S.length (evCs (GG T gl k) c_law_is_row.body (start c_law_is_row.nl ds) S) else .bad := by
  rw [callN_succ, h.fn "_law_is_row" _ look_law_is_row]
theorem call_law_is_motion (h : Has T gl) (k : Nat) (ds : List D) (S : Store) : callN T gl (k + 1) "_law_is_motion" ds S = if ds.length = c_law_is_motion.np then finish c_law_is_motion.drop S.length (evCs (GG T gl k) c_law_is_motion.body (start c_law_is_motion.nl ds) S) else .bad := by
  rw [callN_succ, h.fn "_law_is_motion" _ look_law_is_motion]
end CC

namespace CC
open PySem PyD CA CB
variable {T : Str → Option Fn} {gl : Str → Option D}
theorem linv_sp (h : Has T gl) (S : Store) (p : Rat) (hp : 0 < p) (k : Nat) (hk : 1 ≤ k) : callN T gl k "_law_inv" [pt p] S = .ok (pt p⁻¹) S := by
  obtain ⟨k, rfl⟩ : ∃ q, k = q + 1 := ⟨k - 1, by omega⟩
  rw [call_law_inv h]
  have h0 : 0 < p.num := num_pos hp
  simp only [c_law_inv, evE, evEs, evAnd, evOr, evL.eq_1, evL.eq_2, evL.eq_4, evL.eq_5, evL.eq_6, meT, meD, isLr, get_last, evI, evC.eq_1, evC.eq_2, evC.eq_3, evC.eq_4, evC.eq_5, evC.eq_6, evC.eq_7, evC.eq_8, evC.eq_9, evC.eq_10, evC.eq_13, evC.eq_14, evC.eq_15, evC.eq_16, evCs, GG_call, GG_raw, GG_glob, R.ne_ok, R.bd_ok, R.bd_err, R.bd_bad, opt_some, opt_none, R.th, Out.th, PyD.finish, PyD.start, List.map, List.length, List.replicate, List.getD_cons_zero, List.getD_cons_succ, List.set_cons_zero, List.set_cons_succ, List.cons_append, List.nil_append, if_true, if_false, Bool.false_eq_true, E.isNon, Option.map_some, Option.map_none, Option.bind_some, setAll, List.zip_cons_cons, List.zip_nil_left, List.foldl_cons, List.foldl_nil, truthB, cmpEqI, cmpNeI, cmpLt, cmpLe, cmpGt, cmpGe, isNon, binAdd, binSub, Bool.not_true, Bool.not_false, decide_true, decide_false, reduceCtorEq, Nat.reduceAdd, Nat.reduceSub, Nat.sub_self, Nat.sub_zero, Nat.zero_add, ofI, idx0, idx1, idx2, biAbs, biLenT, biLenL, biTupL, biTupT, sz0, sz1, sz2, sz3, sz4, sz5, sz6, sz7, sz8, pt_num, pt_den, decT h0]
  simp only [pt, (inv_num_den h0).1, (inv_num_den h0).2]
def numsR (n : Nat) : List Rat := (List.range n).map fun j => (((1 + (j : Nat) : Int)) : Rat)
theorem pt_int (i : Int) : pt (i : Rat) = .tup [.int i, .int 1] := rfl
theorem upTo1 (n : Nat) : PyD.upTo 1 n = (List.range n).map fun j => .int (1 + (j : Nat) : Int) := rfl
theorem rng1 {n : Nat} (h : n ≤ 100000) : rngD [.int 1, .int ((n : Int) + 1)] = some (1, n) := by
  simp only [rngD]
  rw [need_of (by omega)]
  congr 2
  omega
theorem numsR_at {n j : Nat} (h : j < n) : (numsR n).getD j 0 = ((1 + (j : Nat) : Int) : Rat) := by
  rw [numsR, List.getD_eq_getElem?_getD, List.getElem?_map, List.getElem?_range h]; rfl
theorem sgq_int (x i : Int) : sgq x ((i : Int) : Rat) = ((sgi x i : Int) : Rat) := by
  unfold sgq sgi
  split
  · rfl
  · split
    · exact (Rat.intCast_neg i).symm
    · rfl
theorem turn_nums {n : Nat} {a : List Int} (ha : InT a n) : turnR a (numsR n) = a.map fun y => ((y : Int) : Rat) := by
  unfold turnR
  refine List.map_congr_left fun y hy => ?_
  have := ha y hy
  rw [numsR_at (by omega), sgq_int]
  congr 1
  unfold sgi
  split
  · omega
  · rw [if_pos (by omega)]; omega
theorem both_nums {n : Nat} {a b : List Int} (ha : InT a n) : turnR b (turnR a (numsR n)) = (bothT a b).map fun y => ((y : Int) : Rat) := by
  rw [turn_nums ha]
  unfold turnR bothT
  rw [List.map_map]
  refine List.map_congr_left fun x _ => ?_
  show sgq x ((a.map fun y : Int => (y : Rat)).getD _ 0) = _
  rw [show (0 : Rat) = (((0 : Int)) : Rat) from rfl, gm (fun y : Int => (y : Rat)), sgq_int]; rfl
theorem lturn_then_sp (h2 : CB.Has T gl) (h3 : Has T gl) (S : Store) (hS : Clo S) {n : Nat} {a b : List Int} (ha : a ∈ allT n) (hb : b ∈ allT n) (k : Nat) (hk : 3 ≤ k) : callN T gl k "_law_turn_then" [turn a, turn b] S = .ok (turn (bothT a b)) S := by
  obtain ⟨k, rfl⟩ : ∃ q, k = q + 1 := ⟨k - 1, by omega⟩
  rw [call_law_turn_then h3]
  have n3 : n ≤ 3 := by rcases allT_n ha with h | h | h <;> omega
  have la := allT_len ha
  have lb := allT_len hb
  have hc : evL (GG T gl k) [some (turn a), some (turn b), none, none, none] m_law_turn_then_0 S = .ok ((List.range n).map fun j => pt ((1 + (j : Nat) : Int) : Rat)) S := by
    refine l_map2 (src := []) (List.range n) (fun j => .int (1 + (j : Nat) : Int)) _ ?_ (still_nil _ _) (by rw [List.length_range]; omega) fun j hj => ⟨[some (turn a), some (turn b), none, some (.int (1 + (j : Nat) : Int)), none], rfl, ?_⟩
    · simp only [evE, evEs, evAnd, evOr, evL.eq_1, evL.eq_2, evL.eq_4, evL.eq_5, evL.eq_6, meT, meD, isLr, get_last, evI, evC.eq_1, evC.eq_2, evC.eq_3, evC.eq_4, evC.eq_5, evC.eq_6, evC.eq_7, evC.eq_8, evC.eq_9, evC.eq_10, evC.eq_13, evC.eq_14, evC.eq_15, evC.eq_16, evCs, GG_call, GG_raw, GG_glob, R.ne_ok, R.bd_ok, R.bd_err, R.bd_bad, opt_some, opt_none, R.th, Out.th, PyD.finish, PyD.start, List.map, List.length, List.replicate, List.getD_cons_zero, List.getD_cons_succ, List.set_cons_zero, List.set_cons_succ, List.cons_append, List.nil_append, if_true, if_false, Bool.false_eq_true, E.isNon, Option.map_some, Option.map_none, Option.bind_some, setAll, List.zip_cons_cons, List.zip_nil_left, List.foldl_cons, List.foldl_nil, truthB, cmpEqI, cmpNeI, cmpLt, cmpLe, cmpGt, cmpGe, isNon, binAdd, binSub, Bool.not_true, Bool.not_false, decide_true, decide_false, reduceCtorEq, Nat.reduceAdd, Nat.reduceSub, Nat.sub_self, Nat.sub_zero, Nat.zero_add, ofI, idx0, idx1, idx2, biAbs, biLenT, biLenL, biTupL, biTupT, sz0, sz1, sz2, sz3, sz4, sz5, sz6, sz7, sz8, lenTurn, la, rng1 (show n ≤ 100000 by omega), upTo1]
    · simp only [evE, evEs, evAnd, evOr, evL.eq_1, evL.eq_2, evL.eq_4, evL.eq_5, evL.eq_6, meT, meD, isLr, get_last, evI, evC.eq_1, evC.eq_2, evC.eq_3, evC.eq_4, evC.eq_5, evC.eq_6, evC.eq_7, evC.eq_8, evC.eq_9, evC.eq_10, evC.eq_13, evC.eq_14, evC.eq_15, evC.eq_16, evCs, GG_call, GG_raw, GG_glob, R.ne_ok, R.bd_ok, R.bd_err, R.bd_bad, opt_some, opt_none, R.th, Out.th, PyD.finish, PyD.start, List.map, List.length, List.replicate, List.getD_cons_zero, List.getD_cons_succ, List.set_cons_zero, List.set_cons_succ, List.cons_append, List.nil_append, if_true, if_false, Bool.false_eq_true, E.isNon, Option.map_some, Option.map_none, Option.bind_some, setAll, List.zip_cons_cons, List.zip_nil_left, List.foldl_cons, List.foldl_nil, truthB, cmpEqI, cmpNeI, cmpLt, cmpLe, cmpGt, cmpGe, isNon, binAdd, binSub, Bool.not_true, Bool.not_false, decide_true, decide_false, reduceCtorEq, Nat.reduceAdd, Nat.reduceSub, Nat.sub_self, Nat.sub_zero, Nat.zero_add, ofI, idx0, idx1, idx2, biAbs, biLenT, biLenL, biTupL, biTupT, sz0, sz1, sz2, sz3, sz4, sz5, sz6, sz7, sz8]; rfl
  have hr : (D.tup ((List.range n).map fun j => pt ((1 + (j : Nat) : Int) : Rat))) = row (numsR n) := by rw [row, numsR, List.map_map]; rfl
  have nl : (numsR n).length = n := by simp [numsR]
  have e1 := lturned_sp h2 S hS a (numsR n) (by rw [nl]; exact allT_in ha) (by omega) k (by omega)
  have e2 := lturned_sp h2 S hS b (turnR a (numsR n)) (by rw [turnR_len, la]; exact allT_in hb) (by omega) k (by omega)
  rw [both_nums (allT_in ha)] at e2
  have hd : evL (GG T gl k) [some (turn a), some (turn b), some (row ((bothT a b).map fun y => ((y : Int) : Rat))), none, none] m_law_turn_then_1 S = .ok ((bothT a b).map .int) S := by
    refine l_map2 (src := []) (bothT a b) (fun y => pt ((y : Int) : Rat)) _ ?_ (still_nil _ _) (by simp only [bothT, List.length_map]; omega) fun y hy => ⟨[some (turn a), some (turn b), some (row ((bothT a b).map fun y => ((y : Int) : Rat))), none, some (pt ((y : Int) : Rat))], rfl, ?_⟩
    · simp only [evE, evEs, evAnd, evOr, evL.eq_1, evL.eq_2, evL.eq_4, evL.eq_5, evL.eq_6, meT, meD, isLr, get_last, evI, evC.eq_1, evC.eq_2, evC.eq_3, evC.eq_4, evC.eq_5, evC.eq_6, evC.eq_7, evC.eq_8, evC.eq_9, evC.eq_10, evC.eq_13, evC.eq_14, evC.eq_15, evC.eq_16, evCs, GG_call, GG_raw, GG_glob, R.ne_ok, R.bd_ok, R.bd_err, R.bd_bad, opt_some, opt_none, R.th, Out.th, PyD.finish, PyD.start, List.map, List.length, List.replicate, List.getD_cons_zero, List.getD_cons_succ, List.set_cons_zero, List.set_cons_succ, List.cons_append, List.nil_append, if_true, if_false, Bool.false_eq_true, E.isNon, Option.map_some, Option.map_none, Option.bind_some, setAll, List.zip_cons_cons, List.zip_nil_left, List.foldl_cons, List.foldl_nil, truthB, cmpEqI, cmpNeI, cmpLt, cmpLe, cmpGt, cmpGe, isNon, binAdd, binSub, Bool.not_true, Bool.not_false, decide_true, decide_false, reduceCtorEq, Nat.reduceAdd, Nat.reduceSub, Nat.sub_self, Nat.sub_zero, Nat.zero_add, ofI, idx0, idx1, idx2, biAbs, biLenT, biLenL, biTupL, biTupT, sz0, sz1, sz2, sz3, sz4, sz5, sz6, sz7, sz8, seqRow, List.map_map]; rfl
    · simp only [evE, evEs, evAnd, evOr, evL.eq_1, evL.eq_2, evL.eq_4, evL.eq_5, evL.eq_6, meT, meD, isLr, get_last, evI, evC.eq_1, evC.eq_2, evC.eq_3, evC.eq_4, evC.eq_5, evC.eq_6, evC.eq_7, evC.eq_8, evC.eq_9, evC.eq_10, evC.eq_13, evC.eq_14, evC.eq_15, evC.eq_16, evCs, GG_call, GG_raw, GG_glob, R.ne_ok, R.bd_ok, R.bd_err, R.bd_bad, opt_some, opt_none, R.th, Out.th, PyD.finish, PyD.start, List.map, List.length, List.replicate, List.getD_cons_zero, List.getD_cons_succ, List.set_cons_zero, List.set_cons_succ, List.cons_append, List.nil_append, if_true, if_false, Bool.false_eq_true, E.isNon, Option.map_some, Option.map_none, Option.bind_some, setAll, List.zip_cons_cons, List.zip_nil_left, List.foldl_cons, List.foldl_nil, truthB, cmpEqI, cmpNeI, cmpLt, cmpLe, cmpGt, cmpGe, isNon, binAdd, binSub, Bool.not_true, Bool.not_false, decide_true, decide_false, reduceCtorEq, Nat.reduceAdd, Nat.reduceSub, Nat.sub_self, Nat.sub_zero, Nat.zero_add, ofI, idx0, idx1, idx2, biAbs, biLenT, biLenL, biTupL, biTupT, sz0, sz1, sz2, sz3, sz4, sz5, sz6, sz7, sz8, pt_num]; rfl
  simp only [c_law_turn_then, evE, evEs, evAnd, evOr, evL.eq_1, evL.eq_2, evL.eq_4, evL.eq_5, evL.eq_6, meT, meD, isLr, get_last, evI, evC.eq_1, evC.eq_2, evC.eq_3, evC.eq_4, evC.eq_5, evC.eq_6, evC.eq_7, evC.eq_8, evC.eq_9, evC.eq_10, evC.eq_13, evC.eq_14, evC.eq_15, evC.eq_16, evCs, GG_call, GG_raw, GG_glob, R.ne_ok, R.bd_ok, R.bd_err, R.bd_bad, opt_some, opt_none, R.th, Out.th, PyD.finish, PyD.start, List.map, List.length, List.replicate, List.getD_cons_zero, List.getD_cons_succ, List.set_cons_zero, List.set_cons_succ, List.cons_append, List.nil_append, if_true, if_false, Bool.false_eq_true, E.isNon, Option.map_some, Option.map_none, Option.bind_some, setAll, List.zip_cons_cons, List.zip_nil_left, List.foldl_cons, List.foldl_nil, truthB, cmpEqI, cmpNeI, cmpLt, cmpLe, cmpGt, cmpGe, isNon, binAdd, binSub, Bool.not_true, Bool.not_false, decide_true, decide_false, reduceCtorEq, Nat.reduceAdd, Nat.reduceSub, Nat.sub_self, Nat.sub_zero, Nat.zero_add, ofI, idx0, idx1, idx2, biAbs, biLenT, biLenL, biTupL, biTupT, sz0, sz1, sz2, sz3, sz4, sz5, sz6, sz7, sz8, hc, hr, e1, e2, hd]
  rfl
theorem lface_then_sp (h : CA.Has T gl) (h2 : CB.Has T gl) (h3 : Has T gl) (S : Store) (hS : Clo S) {n : Nat} {t u : List Int} {s r : Rat} {a b : Nat} (ht : t ∈ allT n) (hu : u ∈ allT n) (hs : Bd s a) (hr : Bd r b) (hab : a + b < 8000) (k : Nat) (hk : 4 ≤ k) : callN T gl k "_law_face_then" [fac t s, fac u r] S = .ok (fac (bothT t u) (s * r)) S := by
  obtain ⟨k, rfl⟩ : ∃ q, k = q + 1 := ⟨k - 1, by omega⟩
  rw [call_law_face_then h3]
  simp only [c_law_face_then, evE, evEs, evAnd, evOr, evL.eq_1, evL.eq_2, evL.eq_4, evL.eq_5, evL.eq_6, meT, meD, isLr, get_last, evI, evC.eq_1, evC.eq_2, evC.eq_3, evC.eq_4, evC.eq_5, evC.eq_6, evC.eq_7, evC.eq_8, evC.eq_9, evC.eq_10, evC.eq_13, evC.eq_14, evC.eq_15, evC.eq_16, evCs, GG_call, GG_raw, GG_glob, R.ne_ok, R.bd_ok, R.bd_err, R.bd_bad, opt_some, opt_none, R.th, Out.th, PyD.finish, PyD.start, List.map, List.length, List.replicate, List.getD_cons_zero, List.getD_cons_succ, List.set_cons_zero, List.set_cons_succ, List.cons_append, List.nil_append, if_true, if_false, Bool.false_eq_true, E.isNon, Option.map_some, Option.map_none, Option.bind_some, setAll, List.zip_cons_cons, List.zip_nil_left, List.foldl_cons, List.foldl_nil, truthB, cmpEqI, cmpNeI, cmpLt, cmpLe, cmpGt, cmpGe, isNon, binAdd, binSub, Bool.not_true, Bool.not_false, decide_true, decide_false, reduceCtorEq, Nat.reduceAdd, Nat.reduceSub, Nat.sub_self, Nat.sub_zero, Nat.zero_add, ofI, idx0, idx1, idx2, biAbs, biLenT, biLenL, biTupL, biTupT, sz0, sz1, sz2, sz3, sz4, sz5, sz6, sz7, sz8, fac0, fac1, lturn_then_sp h2 h3 S hS ht hu k (by omega), lmul_sp h S hs hr hab k (by omega)]
  rfl
theorem lthen_sp (h : CA.Has T gl) (h2 : CB.Has T gl) (h3 : Has T gl) (S : Store) (hS : Clo S) {n t s d u r e a b} (m : MoOk n t s d a) (m2 : MoOk n u r e b) (ha : 1 ≤ a) (hab : a + b + b < 8000) (k : Nat) (hk : 6 ≤ k) : callN T gl k "_law_then" [mot t s d, mot u r e] S = .ok (mot (bothT t u) (s * r) (led u r e d)) S := by
  obtain ⟨k, rfl⟩ : ∃ q, k = q + 1 := ⟨k - 1, by omega⟩
  rw [call_law_then h3]
  simp only [c_law_then, evE, evEs, evAnd, evOr, evL.eq_1, evL.eq_2, evL.eq_4, evL.eq_5, evL.eq_6, meT, meD, isLr, get_last, evI, evC.eq_1, evC.eq_2, evC.eq_3, evC.eq_4, evC.eq_5, evC.eq_6, evC.eq_7, evC.eq_8, evC.eq_9, evC.eq_10, evC.eq_13, evC.eq_14, evC.eq_15, evC.eq_16, evCs, GG_call, GG_raw, GG_glob, R.ne_ok, R.bd_ok, R.bd_err, R.bd_bad, opt_some, opt_none, R.th, Out.th, PyD.finish, PyD.start, List.map, List.length, List.replicate, List.getD_cons_zero, List.getD_cons_succ, List.set_cons_zero, List.set_cons_succ, List.cons_append, List.nil_append, if_true, if_false, Bool.false_eq_true, E.isNon, Option.map_some, Option.map_none, Option.bind_some, setAll, List.zip_cons_cons, List.zip_nil_left, List.foldl_cons, List.foldl_nil, truthB, cmpEqI, cmpNeI, cmpLt, cmpLe, cmpGt, cmpGe, isNon, binAdd, binSub, Bool.not_true, Bool.not_false, decide_true, decide_false, reduceCtorEq, Nat.reduceAdd, Nat.reduceSub, Nat.sub_self, Nat.sub_zero, Nat.zero_add, ofI, idx0, idx1, idx2, biAbs, biLenT, biLenL, biTupL, biTupT, sz0, sz1, sz2, sz3, sz4, sz5, sz6, sz7, sz8, mot_sl, mot2, lface_then_sp h h2 h3 S hS m.ht m2.ht m.bs m2.bs (by omega) k (by omega), lmove_sp h h2 S hS m2 m.bd m.hd ha (by omega) k (by omega), fac_cat]
def idxZ (t : List Int) (x : Int) : Int := ((t.findIdx? (· == x)).getD 0 : Nat)
def lbackT (t : List Int) : List Int := (List.range t.length).map fun j => if (t.contains (1 + (j : Nat) : Int)) = true then idxZ t (1 + (j : Nat) : Int) + 1 else 0 - idxZ t (0 - (1 + (j : Nat) : Int)) - 1
theorem lbackT_eq {n : Nat} {t : List Int} (h : t ∈ allT n) : lbackT t = tback t ∧ ∀ j ∈ List.range n, t.contains (1 + (j : Nat) : Int) = true ∨ t.contains (0 - (1 + (j : Nat) : Int)) = true := by
  rcases allT_n h with rfl | rfl | rfl
  · revert t; decide +kernel
  · revert t; decide +kernel
  · revert t; decide +kernel
theorem flats (t : List Int) : (t.map D.int).all flatD = true := by
  rw [List.all_eq_true]
  intro x hx
  obtain ⟨q, _, rfl⟩ := List.mem_map.1 hx; rfl
theorem inTurn (S : Store) (x : Int) (t : List Int) : inD S (.int x) (turn t) = some (t.contains x) := by
  show (if flatD (.int x) && (t.map D.int).all flatD then some ((t.map D.int).any fun z => eqF z (.int x)) else none) = _
  rw [flats, if_pos (show (flatD (.int x) && true) = true from rfl)]
  congr 1
  rw [List.any_map]
  induction t with
  | nil => rfl
  | cons y t ih =>
    rw [List.any_cons, List.contains_cons, ih]
    congr 1
    show (y == x) = (x == y)
    exact Bool.eq_iff_iff.2 ⟨fun h => by rw [eq_of_beq h]; exact beq_self_eq_true _, fun h => by rw [eq_of_beq h]; exact beq_self_eq_true _⟩
theorem find_map (t : List Int) (x : Int) : (t.map D.int).findIdx? (fun z => eqF z (.int x)) = t.findIdx? (· == x) := by
  induction t with
  | nil => rfl
  | cons y t ih => rw [List.map_cons, List.findIdx?_cons, List.findIdx?_cons, ih]; rfl
theorem idxTurn (S : Store) (x : Int) (t : List Int) (h : t.contains x = true) : (seqOf S (turn t)).bind (idxF (.int x)) = some (.int (idxZ t x)) := by
  show idxF (.int x) (t.map D.int) = _
  unfold idxF
  rw [flats, show flatD (.int x) = true from rfl, find_map]
  simp only [Bool.and_self, if_true]
  have : ∃ j, t.findIdx? (· == x) = some j := by
    cases hf : t.findIdx? (· == x) with
    | some j => exact ⟨j, rfl⟩
    | none =>
      rw [List.findIdx?_eq_none_iff] at hf
      have := hf x (List.contains_iff_mem.1 h)
      simp at this
  obtain ⟨j, hj⟩ := this
  rw [idxZ, hj]; rfl
theorem bne_false' (b : Bool) : (b != false) = b := by cases b <;> rfl
theorem bne_true' (b : Bool) : (b != true) = !b := by cases b <;> rfl
theorem seqTurnS (S : Store) (t : List Int) : (seqOf S (turn t)).isSome = true := rfl
theorem lturn_back_sp (h3 : Has T gl) (S : Store) (hS : Clo S) {n : Nat} {t : List Int} (ht : t ∈ allT n) (k : Nat) (hk : 1 ≤ k) : callN T gl k "_law_turn_back" [turn t] S = .ok (turn (tback t)) S := by
  obtain ⟨k, rfl⟩ : ∃ q, k = q + 1 := ⟨k - 1, by omega⟩
  rw [call_law_turn_back h3]
  have n3 : n ≤ 3 := by rcases allT_n ht with h | h | h <;> omega
  have lt := allT_len ht
  have hk2 := (lbackT_eq ht).2
  let v := fun j : Nat => if (t.contains (1 + (j : Nat) : Int)) = true then idxZ t (1 + (j : Nat) : Int) + 1 else 0 - idxZ t (0 - (1 + (j : Nat) : Int)) - 1
  have hf := f_inv (g := GG T gl k) (tg := .one 2) (it := .rng (.cons (.int 1) (.cons (.bin .add (.bi .len (.var 0)) (.int 1)) .nil))) (a := l_law_turn_back_0)
    (ρ := [some (turn t), some (.ref S.length), none]) (S := S ++ [.lst []]) (S1 := S ++ [.lst []]) (t := ⟨PyD.upTo 1 n, []⟩)
    (fun xs ρ S' => ∃ (done rest : List Nat) (a : Option D), List.range n = done ++ rest ∧ xs = rest.map (fun j => .int (1 + (j : Nat) : Int)) ∧ ρ = [some (turn t), some (.ref S.length), a] ∧ S' = S ++ [.lst ((done.map v).map .int)])
    (by simp only [evE, evEs, evAnd, evOr, evL.eq_1, evL.eq_2, evL.eq_4, evL.eq_5, evL.eq_6, meT, meD, isLr, get_last, evI, evC.eq_1, evC.eq_2, evC.eq_3, evC.eq_4, evC.eq_5, evC.eq_6, evC.eq_7, evC.eq_8, evC.eq_9, evC.eq_10, evC.eq_13, evC.eq_14, evC.eq_15, evC.eq_16, evCs, GG_call, GG_raw, GG_glob, R.ne_ok, R.bd_ok, R.bd_err, R.bd_bad, opt_some, opt_none, R.th, Out.th, PyD.finish, PyD.start, List.map, List.length, List.replicate, List.getD_cons_zero, List.getD_cons_succ, List.set_cons_zero, List.set_cons_succ, List.cons_append, List.nil_append, if_true, if_false, Bool.false_eq_true, E.isNon, Option.map_some, Option.map_none, Option.bind_some, setAll, List.zip_cons_cons, List.zip_nil_left, List.foldl_cons, List.foldl_nil, truthB, cmpEqI, cmpNeI, cmpLt, cmpLe, cmpGt, cmpGe, isNon, binAdd, binSub, Bool.not_true, Bool.not_false, decide_true, decide_false, reduceCtorEq, Nat.reduceAdd, Nat.reduceSub, Nat.sub_self, Nat.sub_zero, Nat.zero_add, ofI, idx0, idx1, idx2, biAbs, biLenT, biLenL, biTupL, biTupT, sz0, sz1, sz2, sz3, sz4, sz5, sz6, sz7, sz8, lenTurn, lt, rng1 (show n ≤ 100000 by omega)]) (fun _ _ _ _ => still_nil _ _) ?step ⟨[], List.range n, none, rfl, rfl, rfl, rfl⟩
  case step =>
    rintro x xs ρ S' ⟨done, rest, a, e1, e2, rfl, rfl⟩
    cases rest with
    | nil => cases e2
    | cons y rest =>
      cases e2
      have hy : y ∈ List.range n := by rw [e1]; simp
      have hlen : ((done.map v).map D.int).length < 100000 := by
        have : (done ++ y :: rest).length ≤ 3 := by rw [← e1, List.length_range]; exact n3
        simp only [List.length_append] at this
        simp only [List.length_map]
        omega
      refine ⟨[some (turn t), some (.ref S.length), some (.int (1 + (y : Nat) : Int))], [some (turn t), some (.ref S.length), some (.int (1 + (y : Nat) : Int))], S ++ [.lst (((done ++ [y]).map v).map .int)], rfl, ?_, done ++ [y], rest, _, by rw [e1]; simp, rfl, rfl, rfl⟩
      have ea := append_ok (S := S ++ [.lst ((done.map v).map .int)]) (.int (v y)) (get_last S _ []) hlen
      have eo : ((done ++ [y]).map v).map D.int = (done.map v).map .int ++ [.int (v y)] := by simp
      rw [eo]
      rw [set_last] at ea
      by_cases hp : t.contains (1 + (y : Nat) : Int) = true
      · have hs : v y = idxZ t (1 + (y : Nat) : Int) + 1 := if_pos hp
        rw [hs] at ea ⊢
        simp only [l_law_turn_back_0, evE, evEs, evAnd, evOr, evL.eq_1, evL.eq_2, evL.eq_4, evL.eq_5, evL.eq_6, meT, meD, isLr, get_last, evI, evC.eq_1, evC.eq_2, evC.eq_3, evC.eq_4, evC.eq_5, evC.eq_6, evC.eq_7, evC.eq_8, evC.eq_9, evC.eq_10, evC.eq_13, evC.eq_14, evC.eq_15, evC.eq_16, evCs, GG_call, GG_raw, GG_glob, R.ne_ok, R.bd_ok, R.bd_err, R.bd_bad, opt_some, opt_none, R.th, Out.th, PyD.finish, PyD.start, List.map, List.length, List.replicate, List.getD_cons_zero, List.getD_cons_succ, List.set_cons_zero, List.set_cons_succ, List.cons_append, List.nil_append, if_true, if_false, Bool.false_eq_true, E.isNon, Option.map_some, Option.map_none, Option.bind_some, setAll, List.zip_cons_cons, List.zip_nil_left, List.foldl_cons, List.foldl_nil, truthB, cmpEqI, cmpNeI, cmpLt, cmpLe, cmpGt, cmpGe, isNon, binAdd, binSub, Bool.not_true, Bool.not_false, decide_true, decide_false, reduceCtorEq, Nat.reduceAdd, Nat.reduceSub, Nat.sub_self, Nat.sub_zero, Nat.zero_add, ofI, idx0, idx1, idx2, biAbs, biLenT, biLenL, biTupL, biTupT, sz0, sz1, sz2, sz3, sz4, sz5, sz6, sz7, sz8, inTurn, hp, bne_false', seqTurnS, idxTurn _ _ _ hp, ea]
      · have hp2 := (hk2 y hy).resolve_left hp
        have hs : v y = 0 - idxZ t (0 - (1 + (y : Nat) : Int)) - 1 := if_neg hp
        rw [hs] at ea ⊢
        rw [Bool.not_eq_true] at hp
        simp only [l_law_turn_back_0, evE, evEs, evAnd, evOr, evL.eq_1, evL.eq_2, evL.eq_4, evL.eq_5, evL.eq_6, meT, meD, isLr, get_last, evI, evC.eq_1, evC.eq_2, evC.eq_3, evC.eq_4, evC.eq_5, evC.eq_6, evC.eq_7, evC.eq_8, evC.eq_9, evC.eq_10, evC.eq_13, evC.eq_14, evC.eq_15, evC.eq_16, evCs, GG_call, GG_raw, GG_glob, R.ne_ok, R.bd_ok, R.bd_err, R.bd_bad, opt_some, opt_none, R.th, Out.th, PyD.finish, PyD.start, List.map, List.length, List.replicate, List.getD_cons_zero, List.getD_cons_succ, List.set_cons_zero, List.set_cons_succ, List.cons_append, List.nil_append, if_true, if_false, Bool.false_eq_true, E.isNon, Option.map_some, Option.map_none, Option.bind_some, setAll, List.zip_cons_cons, List.zip_nil_left, List.foldl_cons, List.foldl_nil, truthB, cmpEqI, cmpNeI, cmpLt, cmpLe, cmpGt, cmpGe, isNon, binAdd, binSub, Bool.not_true, Bool.not_false, decide_true, decide_false, reduceCtorEq, Nat.reduceAdd, Nat.reduceSub, Nat.sub_self, Nat.sub_zero, Nat.zero_add, ofI, idx0, idx1, idx2, biAbs, biLenT, biLenL, biTupL, biTupT, sz0, sz1, sz2, sz3, sz4, sz5, sz6, sz7, sz8, inTurn, hp, bne_false', seqTurnS, idxTurn _ _ _ hp2, ea]
  obtain ⟨ρ2, S2, hev, done, rest, a, e1, e2, rfl, rfl⟩ := hf
  have : rest = [] := by cases rest with | nil => rfl | cons y r => cases e2
  subst this
  rw [List.append_nil] at e1
  have e5 : done.map v = tback t := by rw [← e1, ← (lbackT_eq ht).1, lbackT, lt]
  rw [e5] at hev
  simp only [c_law_turn_back, evE, evEs, evAnd, evOr, evL.eq_1, evL.eq_2, evL.eq_4, evL.eq_5, evL.eq_6, meT, meD, isLr, get_last, evI, evC.eq_1, evC.eq_2, evC.eq_3, evC.eq_4, evC.eq_5, evC.eq_6, evC.eq_7, evC.eq_8, evC.eq_9, evC.eq_10, evC.eq_13, evC.eq_14, evC.eq_15, evC.eq_16, evCs, GG_call, GG_raw, GG_glob, R.ne_ok, R.bd_ok, R.bd_err, R.bd_bad, opt_some, opt_none, R.th, Out.th, PyD.finish, PyD.start, List.map, List.length, List.replicate, List.getD_cons_zero, List.getD_cons_succ, List.set_cons_zero, List.set_cons_succ, List.cons_append, List.nil_append, if_true, if_false, Bool.false_eq_true, E.isNon, Option.map_some, Option.map_none, Option.bind_some, setAll, List.zip_cons_cons, List.zip_nil_left, List.foldl_cons, List.foldl_nil, truthB, cmpEqI, cmpNeI, cmpLt, cmpLe, cmpGt, cmpGe, isNon, binAdd, binSub, Bool.not_true, Bool.not_false, decide_true, decide_false, reduceCtorEq, Nat.reduceAdd, Nat.reduceSub, Nat.sub_self, Nat.sub_zero, Nat.zero_add, ofI, idx0, idx1, idx2, biAbs, biLenT, biLenL, biTupL, biTupT, sz0, sz1, sz2, sz3, sz4, sz5, sz6, sz7, sz8, hev, biTupR (S ++ [.lst ((tback t).map .int)]) (get_last S _ [])]
  exact leave_ok (turn_nice (tback t)) (Nat.lt_of_le_of_lt (turn_dep (tback t)) (by omega)) hS
theorem lface_back_sp (h : CA.Has T gl) (h3 : Has T gl) (S : Store) (hS : Clo S) {n : Nat} {t : List Int} {s : Rat} (ht : t ∈ allT n) (hs : 0 < s) (k : Nat) (hk : 2 ≤ k) : callN T gl k "_law_face_back" [fac t s] S = .ok (fac (tback t) s⁻¹) S := by
  obtain ⟨k, rfl⟩ : ∃ q, k = q + 1 := ⟨k - 1, by omega⟩
  rw [call_law_face_back h3]
  simp only [c_law_face_back, evE, evEs, evAnd, evOr, evL.eq_1, evL.eq_2, evL.eq_4, evL.eq_5, evL.eq_6, meT, meD, isLr, get_last, evI, evC.eq_1, evC.eq_2, evC.eq_3, evC.eq_4, evC.eq_5, evC.eq_6, evC.eq_7, evC.eq_8, evC.eq_9, evC.eq_10, evC.eq_13, evC.eq_14, evC.eq_15, evC.eq_16, evCs, GG_call, GG_raw, GG_glob, R.ne_ok, R.bd_ok, R.bd_err, R.bd_bad, opt_some, opt_none, R.th, Out.th, PyD.finish, PyD.start, List.map, List.length, List.replicate, List.getD_cons_zero, List.getD_cons_succ, List.set_cons_zero, List.set_cons_succ, List.cons_append, List.nil_append, if_true, if_false, Bool.false_eq_true, E.isNon, Option.map_some, Option.map_none, Option.bind_some, setAll, List.zip_cons_cons, List.zip_nil_left, List.foldl_cons, List.foldl_nil, truthB, cmpEqI, cmpNeI, cmpLt, cmpLe, cmpGt, cmpGe, isNon, binAdd, binSub, Bool.not_true, Bool.not_false, decide_true, decide_false, reduceCtorEq, Nat.reduceAdd, Nat.reduceSub, Nat.sub_self, Nat.sub_zero, Nat.zero_add, ofI, idx0, idx1, idx2, biAbs, biLenT, biLenL, biTupL, biTupT, sz0, sz1, sz2, sz3, sz4, sz5, sz6, sz7, sz8, fac0, fac1, lturn_back_sp h3 S hS ht k (by omega), linv_sp h3 S s hs k (by omega)]
  rfl
theorem lback_sp (h : CA.Has T gl) (h2 : CB.Has T gl) (h3 : Has T gl) (S : Store) (hS : Clo S) {n t s d b} (m : MoOk n t s d b) (hb : 1 ≤ b) (hab : b + b < 8000) (k : Nat) (hk : 5 ≤ k) : callN T gl k "_law_back" [mot t s d] S = .ok (mot (tback t) s⁻¹ (backd t s d)) S := by
  obtain ⟨k, rfl⟩ : ∃ q, k = q + 1 := ⟨k - 1, by omega⟩
  rw [call_law_back h3]
  have n3 := m.n3
  have tb := (allT_back m.ht).1
  have e1 := lface_sp h h2 S hS tb (m.bs.inv m.hs) m.bd m.hd hb hab k (by omega)
  have hl : (scal (turnR (tback t) d) s⁻¹).length = n := by simp only [scal, List.length_map, turnR_len]; exact allT_len tb
  have hc : evL (GG T gl k) [some (mot t s d), some (fac (tback t) s⁻¹), none] m_law_back_0 S = .ok ((scal (turnR (tback t) d) s⁻¹).map fun q => pt (-q)) S := by
    refine l_map2 (src := []) (scal (turnR (tback t) d) s⁻¹) pt _ ?_ (still_nil _ _) (by omega) fun x hx => ⟨[some (mot t s d), some (fac (tback t) s⁻¹), some (pt x)], rfl, ?_⟩
    · simp only [evE, evEs, evAnd, evOr, evL.eq_1, evL.eq_2, evL.eq_4, evL.eq_5, evL.eq_6, meT, meD, isLr, get_last, evI, evC.eq_1, evC.eq_2, evC.eq_3, evC.eq_4, evC.eq_5, evC.eq_6, evC.eq_7, evC.eq_8, evC.eq_9, evC.eq_10, evC.eq_13, evC.eq_14, evC.eq_15, evC.eq_16, evCs, GG_call, GG_raw, GG_glob, R.ne_ok, R.bd_ok, R.bd_err, R.bd_bad, opt_some, opt_none, R.th, Out.th, PyD.finish, PyD.start, List.map, List.length, List.replicate, List.getD_cons_zero, List.getD_cons_succ, List.set_cons_zero, List.set_cons_succ, List.cons_append, List.nil_append, if_true, if_false, Bool.false_eq_true, E.isNon, Option.map_some, Option.map_none, Option.bind_some, setAll, List.zip_cons_cons, List.zip_nil_left, List.foldl_cons, List.foldl_nil, truthB, cmpEqI, cmpNeI, cmpLt, cmpLe, cmpGt, cmpGe, isNon, binAdd, binSub, Bool.not_true, Bool.not_false, decide_true, decide_false, reduceCtorEq, Nat.reduceAdd, Nat.reduceSub, Nat.sub_self, Nat.sub_zero, Nat.zero_add, ofI, idx0, idx1, idx2, biAbs, biLenT, biLenL, biTupL, biTupT, sz0, sz1, sz2, sz3, sz4, sz5, sz6, sz7, sz8, mot2, e1, seqRow]
    · simp only [evE, evEs, evAnd, evOr, evL.eq_1, evL.eq_2, evL.eq_4, evL.eq_5, evL.eq_6, meT, meD, isLr, get_last, evI, evC.eq_1, evC.eq_2, evC.eq_3, evC.eq_4, evC.eq_5, evC.eq_6, evC.eq_7, evC.eq_8, evC.eq_9, evC.eq_10, evC.eq_13, evC.eq_14, evC.eq_15, evC.eq_16, evCs, GG_call, GG_raw, GG_glob, R.ne_ok, R.bd_ok, R.bd_err, R.bd_bad, opt_some, opt_none, R.th, Out.th, PyD.finish, PyD.start, List.map, List.length, List.replicate, List.getD_cons_zero, List.getD_cons_succ, List.set_cons_zero, List.set_cons_succ, List.cons_append, List.nil_append, if_true, if_false, Bool.false_eq_true, E.isNon, Option.map_some, Option.map_none, Option.bind_some, setAll, List.zip_cons_cons, List.zip_nil_left, List.foldl_cons, List.foldl_nil, truthB, cmpEqI, cmpNeI, cmpLt, cmpLe, cmpGt, cmpGe, isNon, binAdd, binSub, Bool.not_true, Bool.not_false, decide_true, decide_false, reduceCtorEq, Nat.reduceAdd, Nat.reduceSub, Nat.sub_self, Nat.sub_zero, Nat.zero_add, ofI, idx0, idx1, idx2, biAbs, biLenT, biLenL, biTupL, biTupT, sz0, sz1, sz2, sz3, sz4, sz5, sz6, sz7, sz8, lneg_sp h2 S x k (by omega)]
  have er : D.tup ((scal (turnR (tback t) d) s⁻¹).map fun q => pt (-q)) = row (backd t s d) := by rw [row, backd, negR, List.map_map]; rfl
  simp only [c_law_back, evE, evEs, evAnd, evOr, evL.eq_1, evL.eq_2, evL.eq_4, evL.eq_5, evL.eq_6, meT, meD, isLr, get_last, evI, evC.eq_1, evC.eq_2, evC.eq_3, evC.eq_4, evC.eq_5, evC.eq_6, evC.eq_7, evC.eq_8, evC.eq_9, evC.eq_10, evC.eq_13, evC.eq_14, evC.eq_15, evC.eq_16, evCs, GG_call, GG_raw, GG_glob, R.ne_ok, R.bd_ok, R.bd_err, R.bd_bad, opt_some, opt_none, R.th, Out.th, PyD.finish, PyD.start, List.map, List.length, List.replicate, List.getD_cons_zero, List.getD_cons_succ, List.set_cons_zero, List.set_cons_succ, List.cons_append, List.nil_append, if_true, if_false, Bool.false_eq_true, E.isNon, Option.map_some, Option.map_none, Option.bind_some, setAll, List.zip_cons_cons, List.zip_nil_left, List.foldl_cons, List.foldl_nil, truthB, cmpEqI, cmpNeI, cmpLt, cmpLe, cmpGt, cmpGe, isNon, binAdd, binSub, Bool.not_true, Bool.not_false, decide_true, decide_false, reduceCtorEq, Nat.reduceAdd, Nat.reduceSub, Nat.sub_self, Nat.sub_zero, Nat.zero_add, ofI, idx0, idx1, idx2, biAbs, biLenT, biLenL, biTupL, biTupT, sz0, sz1, sz2, sz3, sz4, sz5, sz6, sz7, sz8, mot_sl, lface_back_sp h h3 S hS m.ht m.hs k (by omega), hc, er, fac_cat]
def turns (ls : List (List Int)) : D := .lst (ls.map fun l => .tup (l.map .int))
def one1 (a : List Int) (x : Int) : List (List Int) := if (a.map fun y => (y.natAbs : Int)).contains x = true then [] else [a ++ [x], a ++ [0 - x]]
def lev1 (n : Nat) (a : List Int) : List (List Int) := (List.range n).flatMap fun j => one1 a (1 + (j : Nat) : Int)
def levs (n : Nat) : Nat → List (List Int)
  | 0 => [[]]
  | j + 1 => (levs n j).flatMap (lev1 n)
theorem levs_ok {n : Nat} (hn : n = 1 ∨ n = 2 ∨ n = 3) : (∀ j < n, ((levs n j).length ≤ 100 ∧ ∀ a ∈ levs n j, a.length ≤ 10)) ∧ (levs n n).length < 64 ∧ 1 ≤ (levs n n).length ∧ oneLen n (levs n n) = true ∧ ∀ t ∈ allT n, t ∈ levs n n := by
  rcases hn with rfl | rfl | rfl <;> decide +kernel
theorem catLL (S : Store) (xs ys : List D) (h : xs.length + ys.length ≤ 100000) : bin S .add (.lst xs) (.lst ys) = some (.lst (xs ++ ys)) := by
  show (catL S (.lst xs) (.lst ys)).map D.lst = _
  unfold catL
  simp only [lstOf, need_of (show PyD.sizeOk (xs.length + ys.length) from h), Option.map_some]
theorem catTT (S : Store) (xs : List Int) (y : Int) (h : xs.length + 1 ≤ 100000) : bin S .add (turn xs) (.tup [.int y]) = some (turn (xs ++ [y])) := by
  rw [turn, binCat S (by rw [List.length_map]; exact h), turn, List.map_append]; rfl
theorem inInts (S : Store) (x : Int) (t : List Int) : inD S (.int x) (.lst (t.map .int)) = some (t.contains x) := by
  rw [← inTurn S x t]
  show (if flatD (.int x) && (t.map D.int).all flatD then _ else _) = _
  rw [flats, if_pos (show (flatD (.int x) && true) = true from rfl)]
  show _ = (if flatD (.int x) && (t.map D.int).all flatD then some ((t.map D.int).any fun z => eqF z (.int x)) else none)
  rw [flats, if_pos (show (flatD (.int x) && true) = true from rfl)]
theorem turns_cat (S : Store) (xs ys : List (List Int)) (h : xs.length + ys.length ≤ 100000) : bin S .add (turns xs) (turns ys) = some (turns (xs ++ ys)) := by
  rw [turns, turns, catLL S _ _ (by simpa using h), turns, List.map_append]
theorem one1_len (a : List Int) (x : Int) : (one1 a x).length ≤ 2 := by unfold one1; split <;> simp
theorem inner_ok {g : G} (S : Store) {n : Nat} (hn : n ≤ 3) {a : List Int} (ha : a.length ≤ 10) {L : List (List Int)} (hL : L.length ≤ 1000) (x1 x2 x6 : Option D) :
    ∃ y6, evC g (.fr (.one 6) (.rng (.cons (.int 1) (.cons (.bin .add (.var 0) (.int 1)) .nil))) l_law_all_turns_0) [some (.int n), x1, x2, some (turns L), some (turn a), some (.lst ((a.map fun y => (y.natAbs : Int)).map .int)), x6] S = .nx [some (.int n), x1, x2, some (turns (L ++ lev1 n a)), some (turn a), some (.lst ((a.map fun y => (y.natAbs : Int)).map .int)), y6] S := by
  obtain ⟨ρ2, S2, hev, done, rest, y6, e1, e2, e3, e4, e5⟩ := f_inv (g := g) (tg := .one 6) (it := .rng (.cons (.int 1) (.cons (.bin .add (.var 0) (.int 1)) .nil))) (a := l_law_all_turns_0)
    (ρ := [some (.int n), x1, x2, some (turns L), some (turn a), some (.lst ((a.map fun y => (y.natAbs : Int)).map .int)), x6]) (S := S) (S1 := S) (t := ⟨PyD.upTo 1 n, []⟩)
    (fun xs ρ S' => ∃ (done rest : List Nat) (y : Option D), List.range n = done ++ rest ∧ xs = rest.map (fun j => .int (1 + (j : Nat) : Int)) ∧ ρ = [some (.int n), x1, x2, some (turns (L ++ done.flatMap fun j => one1 a (1 + (j : Nat) : Int))), some (turn a), some (.lst ((a.map fun y => (y.natAbs : Int)).map .int)), y] ∧ S' = S ∧ (done.flatMap fun j => one1 a (1 + (j : Nat) : Int)).length ≤ 2 * done.length)
    (by simp only [evE, evEs, evAnd, evOr, evL.eq_1, evL.eq_2, evL.eq_4, evL.eq_5, evL.eq_6, meT, meD, isLr, get_last, evI, evC.eq_1, evC.eq_2, evC.eq_3, evC.eq_4, evC.eq_5, evC.eq_6, evC.eq_7, evC.eq_8, evC.eq_9, evC.eq_10, evC.eq_13, evC.eq_14, evC.eq_15, evC.eq_16, evCs, GG_call, GG_raw, GG_glob, R.ne_ok, R.bd_ok, R.bd_err, R.bd_bad, opt_some, opt_none, R.th, Out.th, PyD.finish, PyD.start, List.map, List.length, List.replicate, List.getD_cons_zero, List.getD_cons_succ, List.set_cons_zero, List.set_cons_succ, List.cons_append, List.nil_append, if_true, if_false, Bool.false_eq_true, E.isNon, Option.map_some, Option.map_none, Option.bind_some, setAll, List.zip_cons_cons, List.zip_nil_left, List.foldl_cons, List.foldl_nil, truthB, cmpEqI, cmpNeI, cmpLt, cmpLe, cmpGt, cmpGe, isNon, binAdd, binSub, Bool.not_true, Bool.not_false, decide_true, decide_false, reduceCtorEq, Nat.reduceAdd, Nat.reduceSub, Nat.sub_self, Nat.sub_zero, Nat.zero_add, ofI, idx0, idx1, idx2, biAbs, biLenT, biLenL, biTupL, biTupT, sz0, sz1, sz2, sz3, sz4, sz5, sz6, sz7, sz8, rng1 (show n ≤ 100000 by omega)]) (fun _ _ _ _ => still_nil _ _)
    (by
      rintro x xs ρ S' ⟨done, rest, b, e1, e2, rfl, rfl, hl⟩
      cases rest with
      | nil => cases e2
      | cons y rest =>
        cases e2
        have hd : done.length ≤ 3 := by
          have : (done ++ y :: rest).length ≤ 3 := by rw [← e1, List.length_range]; exact hn
          simp only [List.length_append] at this
          omega
        have ex : (done ++ [y]).flatMap (fun j => one1 a (1 + (j : Nat) : Int)) = (done.flatMap fun j => one1 a (1 + (j : Nat) : Int)) ++ one1 a (1 + (y : Nat) : Int) := by simp [List.flatMap_append]
        refine ⟨_, [some (.int n), x1, x2, some (turns (L ++ (done ++ [y]).flatMap fun j => one1 a (1 + (j : Nat) : Int))), some (turn a), some (.lst ((a.map fun y => (y.natAbs : Int)).map .int)), some (.int (1 + (y : Nat) : Int))], S', rfl, ?_, done ++ [y], rest, _, by rw [e1]; simp, rfl, rfl, rfl, ?_⟩
        · rw [ex, ← List.append_assoc]
          by_cases hp : (a.map fun y => (y.natAbs : Int)).contains (1 + (y : Nat) : Int) = true
          · rw [show one1 a (1 + (y : Nat) : Int) = [] from if_pos hp, List.append_nil]
            simp only [l_law_all_turns_0, evE, evEs, evAnd, evOr, evL.eq_1, evL.eq_2, evL.eq_4, evL.eq_5, evL.eq_6, meT, meD, isLr, get_last, evI, evC.eq_1, evC.eq_2, evC.eq_3, evC.eq_4, evC.eq_5, evC.eq_6, evC.eq_7, evC.eq_8, evC.eq_9, evC.eq_10, evC.eq_13, evC.eq_14, evC.eq_15, evC.eq_16, evCs, GG_call, GG_raw, GG_glob, R.ne_ok, R.bd_ok, R.bd_err, R.bd_bad, opt_some, opt_none, R.th, Out.th, PyD.finish, PyD.start, List.map, List.length, List.replicate, List.getD_cons_zero, List.getD_cons_succ, List.set_cons_zero, List.set_cons_succ, List.cons_append, List.nil_append, if_true, if_false, Bool.false_eq_true, E.isNon, Option.map_some, Option.map_none, Option.bind_some, setAll, List.zip_cons_cons, List.zip_nil_left, List.foldl_cons, List.foldl_nil, truthB, cmpEqI, cmpNeI, cmpLt, cmpLe, cmpGt, cmpGe, isNon, binAdd, binSub, Bool.not_true, Bool.not_false, decide_true, decide_false, reduceCtorEq, Nat.reduceAdd, Nat.reduceSub, Nat.sub_self, Nat.sub_zero, Nat.zero_add, ofI, idx0, idx1, idx2, biAbs, biLenT, biLenL, biTupL, biTupT, sz0, sz1, sz2, sz3, sz4, sz5, sz6, sz7, sz8, inInts, hp, bne_true']
          · rw [show one1 a (1 + (y : Nat) : Int) = [a ++ [(1 + (y : Nat) : Int)], a ++ [0 - (1 + (y : Nat) : Int)]] from if_neg hp]
            rw [Bool.not_eq_true] at hp
            have e6 := turns_cat S' (L ++ done.flatMap fun j => one1 a (1 + (j : Nat) : Int)) [a ++ [(1 + (y : Nat) : Int)], a ++ [0 - (1 + (y : Nat) : Int)]] (by simp only [List.length_append, List.length_cons, List.length_nil]; omega)
            have e7 : D.lst [turn (a ++ [(1 + (y : Nat) : Int)]), turn (a ++ [0 - (1 + (y : Nat) : Int)])] = turns [a ++ [(1 + (y : Nat) : Int)], a ++ [0 - (1 + (y : Nat) : Int)]] := rfl
            simp only [l_law_all_turns_0, evE, evEs, evAnd, evOr, evL.eq_1, evL.eq_2, evL.eq_4, evL.eq_5, evL.eq_6, meT, meD, isLr, get_last, evI, evC.eq_1, evC.eq_2, evC.eq_3, evC.eq_4, evC.eq_5, evC.eq_6, evC.eq_7, evC.eq_8, evC.eq_9, evC.eq_10, evC.eq_13, evC.eq_14, evC.eq_15, evC.eq_16, evCs, GG_call, GG_raw, GG_glob, R.ne_ok, R.bd_ok, R.bd_err, R.bd_bad, opt_some, opt_none, R.th, Out.th, PyD.finish, PyD.start, List.map, List.length, List.replicate, List.getD_cons_zero, List.getD_cons_succ, List.set_cons_zero, List.set_cons_succ, List.cons_append, List.nil_append, if_true, if_false, Bool.false_eq_true, E.isNon, Option.map_some, Option.map_none, Option.bind_some, setAll, List.zip_cons_cons, List.zip_nil_left, List.foldl_cons, List.foldl_nil, truthB, cmpEqI, cmpNeI, cmpLt, cmpLe, cmpGt, cmpGe, isNon, binAdd, binSub, Bool.not_true, Bool.not_false, decide_true, decide_false, reduceCtorEq, Nat.reduceAdd, Nat.reduceSub, Nat.sub_self, Nat.sub_zero, Nat.zero_add, ofI, idx0, idx1, idx2, biAbs, biLenT, biLenL, biTupL, biTupT, sz0, sz1, sz2, sz3, sz4, sz5, sz6, sz7, sz8, inInts, hp, bne_true', catTT _ a _ (show a.length + 1 ≤ 100000 by omega), e7, e6]
        · rw [ex]
          have := one1_len a (1 + (y : Nat) : Int)
          simp only [List.length_append, List.length_cons, List.length_nil]
          omega)
    ⟨[], List.range n, x6, rfl, rfl, by simp, rfl, by simp⟩
  have : rest = [] := by cases rest with | nil => rfl | cons y r => cases e2
  subst this
  rw [List.append_nil] at e1
  subst e4
  refine ⟨y6, ?_⟩
  rw [hev, e3, lev1, e1]
theorem mid_ok {g : G} (S : Store) {n : Nat} (hn : n ≤ 3) {F : List (List Int)} (hF : F.length ≤ 100) (ha : ∀ a ∈ F, a.length ≤ 10) (x2 x4 x5 x6 : Option D) :
    ∃ y4 y5 y6, evC g (.fr (.one 4) (.seq (.var 1)) l_law_all_turns_1) [some (.int n), some (turns F), x2, some (turns []), x4, x5, x6] S = .nx [some (.int n), some (turns F), x2, some (turns (F.flatMap (lev1 n))), y4, y5, y6] S := by
  have ll : ∀ a, (lev1 n a).length ≤ 6 := fun a => by
    have : ∀ l : List Nat, (l.flatMap fun j => one1 a (1 + (j : Nat) : Int)).length ≤ 2 * l.length := by
      intro l
      induction l with
      | nil => simp
      | cons x l ih =>
        have := one1_len a (1 + (x : Nat) : Int)
        simp only [List.flatMap_cons, List.length_append, List.length_cons]; omega
    have := this (List.range n)
    rw [List.length_range] at this
    unfold lev1; omega
  obtain ⟨ρ2, S2, hev, done, rest, y4, y5, y6, e1, e2, e3, e4, e5⟩ := f_inv (g := g) (tg := .one 4) (it := .seq (.var 1)) (a := l_law_all_turns_1)
    (ρ := [some (.int n), some (turns F), x2, some (turns []), x4, x5, x6]) (S := S) (S1 := S) (t := ⟨F.map fun l => .tup (l.map .int), []⟩)
    (fun xs ρ S' => ∃ (done rest : List (List Int)) (y4 y5 y6 : Option D), F = done ++ rest ∧ xs = rest.map (fun l => .tup (l.map .int)) ∧ ρ = [some (.int n), some (turns F), x2, some (turns (done.flatMap (lev1 n))), y4, y5, y6] ∧ S' = S ∧ (done.flatMap (lev1 n)).length ≤ 6 * done.length)
    (by simp only [evE, evEs, evAnd, evOr, evL.eq_1, evL.eq_2, evL.eq_4, evL.eq_5, evL.eq_6, meT, meD, isLr, get_last, evI, evC.eq_1, evC.eq_2, evC.eq_3, evC.eq_4, evC.eq_5, evC.eq_6, evC.eq_7, evC.eq_8, evC.eq_9, evC.eq_10, evC.eq_13, evC.eq_14, evC.eq_15, evC.eq_16, evCs, GG_call, GG_raw, GG_glob, R.ne_ok, R.bd_ok, R.bd_err, R.bd_bad, opt_some, opt_none, R.th, Out.th, PyD.finish, PyD.start, List.map, List.length, List.replicate, List.getD_cons_zero, List.getD_cons_succ, List.set_cons_zero, List.set_cons_succ, List.cons_append, List.nil_append, if_true, if_false, Bool.false_eq_true, E.isNon, Option.map_some, Option.map_none, Option.bind_some, setAll, List.zip_cons_cons, List.zip_nil_left, List.foldl_cons, List.foldl_nil, truthB, cmpEqI, cmpNeI, cmpLt, cmpLe, cmpGt, cmpGe, isNon, binAdd, binSub, Bool.not_true, Bool.not_false, decide_true, decide_false, reduceCtorEq, Nat.reduceAdd, Nat.reduceSub, Nat.sub_self, Nat.sub_zero, Nat.zero_add, ofI, idx0, idx1, idx2, biAbs, biLenT, biLenL, biTupL, biTupT, sz0, sz1, sz2, sz3, sz4, sz5, sz6, sz7, sz8]; rfl) (fun _ _ _ _ => still_nil _ _)
    (by
      rintro x xs ρ S' ⟨done, rest, y4, y5, y6, e1, e2, rfl, rfl, hl⟩
      cases rest with
      | nil => cases e2
      | cons a rest =>
        cases e2
        have hd : done.length ≤ 100 := by
          have : (done ++ a :: rest).length ≤ 100 := by rw [← e1]; exact hF
          simp only [List.length_append] at this
          omega
        have la := ha a (by rw [e1]; simp)
        obtain ⟨z6, hin⟩ := inner_ok (g := g) S' hn la (L := done.flatMap (lev1 n)) (by omega) (some (turns F)) x2 y6
        have hc : evL g [some (.int n), some (turns F), x2, some (turns (done.flatMap (lev1 n))), some (turn a), y5, y6] m_law_all_turns_0 S' = .ok ((a.map fun y => (y.natAbs : Int)).map .int) S' := by
          rw [List.map_map]
          refine l_map2 (src := []) a D.int _ (by simp only [evE, evEs, evAnd, evOr, evL.eq_1, evL.eq_2, evL.eq_4, evL.eq_5, evL.eq_6, meT, meD, isLr, get_last, evI, evC.eq_1, evC.eq_2, evC.eq_3, evC.eq_4, evC.eq_5, evC.eq_6, evC.eq_7, evC.eq_8, evC.eq_9, evC.eq_10, evC.eq_13, evC.eq_14, evC.eq_15, evC.eq_16, evCs, GG_call, GG_raw, GG_glob, R.ne_ok, R.bd_ok, R.bd_err, R.bd_bad, opt_some, opt_none, R.th, Out.th, PyD.finish, PyD.start, List.map, List.length, List.replicate, List.getD_cons_zero, List.getD_cons_succ, List.set_cons_zero, List.set_cons_succ, List.cons_append, List.nil_append, if_true, if_false, Bool.false_eq_true, E.isNon, Option.map_some, Option.map_none, Option.bind_some, setAll, List.zip_cons_cons, List.zip_nil_left, List.foldl_cons, List.foldl_nil, truthB, cmpEqI, cmpNeI, cmpLt, cmpLe, cmpGt, cmpGe, isNon, binAdd, binSub, Bool.not_true, Bool.not_false, decide_true, decide_false, reduceCtorEq, Nat.reduceAdd, Nat.reduceSub, Nat.sub_self, Nat.sub_zero, Nat.zero_add, ofI, idx0, idx1, idx2, biAbs, biLenT, biLenL, biTupL, biTupT, sz0, sz1, sz2, sz3, sz4, sz5, sz6, sz7, sz8, seqTurn]) (still_nil _ _) (by omega) fun z hz => ⟨[some (.int n), some (turns F), x2, some (turns (done.flatMap (lev1 n))), some (turn a), y5, some (.int z)], rfl, ?_⟩
          simp only [evE, evEs, evAnd, evOr, evL.eq_1, evL.eq_2, evL.eq_4, evL.eq_5, evL.eq_6, meT, meD, isLr, get_last, evI, evC.eq_1, evC.eq_2, evC.eq_3, evC.eq_4, evC.eq_5, evC.eq_6, evC.eq_7, evC.eq_8, evC.eq_9, evC.eq_10, evC.eq_13, evC.eq_14, evC.eq_15, evC.eq_16, evCs, GG_call, GG_raw, GG_glob, R.ne_ok, R.bd_ok, R.bd_err, R.bd_bad, opt_some, opt_none, R.th, Out.th, PyD.finish, PyD.start, List.map, List.length, List.replicate, List.getD_cons_zero, List.getD_cons_succ, List.set_cons_zero, List.set_cons_succ, List.cons_append, List.nil_append, if_true, if_false, Bool.false_eq_true, E.isNon, Option.map_some, Option.map_none, Option.bind_some, setAll, List.zip_cons_cons, List.zip_nil_left, List.foldl_cons, List.foldl_nil, truthB, cmpEqI, cmpNeI, cmpLt, cmpLe, cmpGt, cmpGe, isNon, binAdd, binSub, Bool.not_true, Bool.not_false, decide_true, decide_false, reduceCtorEq, Nat.reduceAdd, Nat.reduceSub, Nat.sub_self, Nat.sub_zero, Nat.zero_add, ofI, idx0, idx1, idx2, biAbs, biLenT, biLenL, biTupL, biTupT, sz0, sz1, sz2, sz3, sz4, sz5, sz6, sz7, sz8, abs_nat]; rfl
        refine ⟨[some (.int n), some (turns F), x2, some (turns (done.flatMap (lev1 n))), some (turn a), y5, y6], [some (.int n), some (turns F), x2, some (turns ((done ++ [a]).flatMap (lev1 n))), some (turn a), some (.lst ((a.map fun y => (y.natAbs : Int)).map .int)), z6], S', rfl, ?_, done ++ [a], rest, _, _, _, by rw [e1]; simp, rfl, rfl, rfl, ?_⟩
        · rw [show (done ++ [a]).flatMap (lev1 n) = done.flatMap (lev1 n) ++ lev1 n a by simp [List.flatMap_append]]
          simp only [l_law_all_turns_1, evE, evEs, evAnd, evOr, evL.eq_1, evL.eq_2, evL.eq_4, evL.eq_5, evL.eq_6, meT, meD, isLr, get_last, evI, evC.eq_1, evC.eq_2, evC.eq_3, evC.eq_4, evC.eq_5, evC.eq_6, evC.eq_7, evC.eq_8, evC.eq_9, evC.eq_10, evC.eq_13, evC.eq_14, evC.eq_15, evC.eq_16, evCs, GG_call, GG_raw, GG_glob, R.ne_ok, R.bd_ok, R.bd_err, R.bd_bad, opt_some, opt_none, R.th, Out.th, PyD.finish, PyD.start, List.map, List.length, List.replicate, List.getD_cons_zero, List.getD_cons_succ, List.set_cons_zero, List.set_cons_succ, List.cons_append, List.nil_append, if_true, if_false, Bool.false_eq_true, E.isNon, Option.map_some, Option.map_none, Option.bind_some, setAll, List.zip_cons_cons, List.zip_nil_left, List.foldl_cons, List.foldl_nil, truthB, cmpEqI, cmpNeI, cmpLt, cmpLe, cmpGt, cmpGe, isNon, binAdd, binSub, Bool.not_true, Bool.not_false, decide_true, decide_false, reduceCtorEq, Nat.reduceAdd, Nat.reduceSub, Nat.sub_self, Nat.sub_zero, Nat.zero_add, ofI, idx0, idx1, idx2, biAbs, biLenT, biLenL, biTupL, biTupT, sz0, sz1, sz2, sz3, sz4, sz5, sz6, sz7, sz8, hc, hin]
        · have := ll a
          simp only [List.flatMap_append, List.flatMap_cons, List.flatMap_nil, List.append_nil, List.length_append, List.length_cons, List.length_nil]
          omega)
    ⟨[], F, x4, x5, x6, rfl, rfl, rfl, rfl, by simp⟩
  have : rest = [] := by cases rest with | nil => rfl | cons y r => cases e2
  subst this
  rw [List.append_nil] at e1
  subst e4 e1
  exact ⟨y4, y5, y6, by rw [hev, e3]⟩
theorem all_turns_sp (h3 : Has T gl) (S : Store) {n : Nat} (hn : n = 1 ∨ n = 2 ∨ n = 3) (k : Nat) (hk : 1 ≤ k) : callN T gl k "_law_all_turns" [.int n] S = .ok (turns (sortT (levs n n))) S := by
  obtain ⟨k, rfl⟩ : ∃ q, k = q + 1 := ⟨k - 1, by omega⟩
  rw [call_law_all_turns h3]
  have n3 : n ≤ 3 := by omega
  obtain ⟨o1, o2, o3, o4, _⟩ := levs_ok hn
  obtain ⟨ρ2, S2, hev, j, y2, y3, y4, y5, y6, e1, e3, e4⟩ := f_inv (g := GG T gl k) (tg := .one 2) (it := .rng (.cons (.var 0) .nil)) (a := l_law_all_turns_2)
    (ρ := [some (.int n), some (turns [[]]), none, none, none, none, none]) (S := S) (S1 := S) (t := ⟨PyD.upTo 0 n, []⟩)
    (fun xs ρ S' => ∃ (j : Nat) (y2 y3 y4 y5 y6 : Option D), xs.length + j = n ∧ ρ = [some (.int n), some (turns (levs n j)), y2, y3, y4, y5, y6] ∧ S' = S)
    (by simp only [evE, evEs, evAnd, evOr, evL.eq_1, evL.eq_2, evL.eq_4, evL.eq_5, evL.eq_6, meT, meD, isLr, get_last, evI, evC.eq_1, evC.eq_2, evC.eq_3, evC.eq_4, evC.eq_5, evC.eq_6, evC.eq_7, evC.eq_8, evC.eq_9, evC.eq_10, evC.eq_13, evC.eq_14, evC.eq_15, evC.eq_16, evCs, GG_call, GG_raw, GG_glob, R.ne_ok, R.bd_ok, R.bd_err, R.bd_bad, opt_some, opt_none, R.th, Out.th, PyD.finish, PyD.start, List.map, List.length, List.replicate, List.getD_cons_zero, List.getD_cons_succ, List.set_cons_zero, List.set_cons_succ, List.cons_append, List.nil_append, if_true, if_false, Bool.false_eq_true, E.isNon, Option.map_some, Option.map_none, Option.bind_some, setAll, List.zip_cons_cons, List.zip_nil_left, List.foldl_cons, List.foldl_nil, truthB, cmpEqI, cmpNeI, cmpLt, cmpLe, cmpGt, cmpGe, isNon, binAdd, binSub, Bool.not_true, Bool.not_false, decide_true, decide_false, reduceCtorEq, Nat.reduceAdd, Nat.reduceSub, Nat.sub_self, Nat.sub_zero, Nat.zero_add, ofI, idx0, idx1, idx2, biAbs, biLenT, biLenL, biTupL, biTupT, sz0, sz1, sz2, sz3, sz4, sz5, sz6, sz7, sz8, rng0 (show n ≤ 100000 by omega)]) (fun _ _ _ _ => still_nil _ _)
    (by
      rintro x xs ρ S' ⟨j, y2, y3, y4, y5, y6, e1, rfl, rfl⟩
      rw [List.length_cons] at e1
      obtain ⟨b1, b2⟩ := o1 j (by omega)
      obtain ⟨z4, z5, z6, hm⟩ := mid_ok (g := GG T gl k) S' n3 b1 b2 (some x) y4 y5 y6
      have e0 : D.lst [] = turns [] := rfl
      refine ⟨[some (.int n), some (turns (levs n j)), some x, y3, y4, y5, y6], [some (.int n), some (turns (levs n (j + 1))), some x, some (turns (levs n (j + 1))), z4, z5, z6], S', rfl, ?_, j + 1, _, _, _, _, _, by omega, rfl, rfl⟩
      simp only [l_law_all_turns_2, evE, evEs, evAnd, evOr, evL.eq_1, evL.eq_2, evL.eq_4, evL.eq_5, evL.eq_6, meT, meD, isLr, get_last, evI, evC.eq_1, evC.eq_2, evC.eq_3, evC.eq_4, evC.eq_5, evC.eq_6, evC.eq_7, evC.eq_8, evC.eq_9, evC.eq_10, evC.eq_13, evC.eq_14, evC.eq_15, evC.eq_16, evCs, GG_call, GG_raw, GG_glob, R.ne_ok, R.bd_ok, R.bd_err, R.bd_bad, opt_some, opt_none, R.th, Out.th, PyD.finish, PyD.start, List.map, List.length, List.replicate, List.getD_cons_zero, List.getD_cons_succ, List.set_cons_zero, List.set_cons_succ, List.cons_append, List.nil_append, if_true, if_false, Bool.false_eq_true, E.isNon, Option.map_some, Option.map_none, Option.bind_some, setAll, List.zip_cons_cons, List.zip_nil_left, List.foldl_cons, List.foldl_nil, truthB, cmpEqI, cmpNeI, cmpLt, cmpLe, cmpGt, cmpGe, isNon, binAdd, binSub, Bool.not_true, Bool.not_false, decide_true, decide_false, reduceCtorEq, Nat.reduceAdd, Nat.reduceSub, Nat.sub_self, Nat.sub_zero, Nat.zero_add, ofI, idx0, idx1, idx2, biAbs, biLenT, biLenL, biTupL, biTupT, sz0, sz1, sz2, sz3, sz4, sz5, sz6, sz7, sz8, e0, hm]
      rfl)
    ⟨0, none, none, none, none, none, by simp [PyD.upTo], rfl, rfl⟩
  simp only [List.length_nil, Nat.zero_add] at e1
  subst e1 e4
  rw [e3] at hev
  have e0 : D.lst [D.tup []] = turns [[]] := rfl
  have es : ∀ S, sortD S (turns (levs j j)) = some ((sortT (levs j j)).map fun l => .tup (l.map .int)) := by
    intro S
    cases hl : levs j j with
    | nil => rw [hl] at o3; simp at o3
    | cons l ls =>
      rw [hl] at o2 o4
      rw [oneLen, List.all_cons, Bool.and_eq_true] at o4
      have e := eq_of_beq o4.1
      exact sortRows S l ls (by rw [List.length_cons] at o2; omega) (by omega) (by rw [e]; exact o4.2)
  simp only [c_law_all_turns, evE, evEs, evAnd, evOr, evL.eq_1, evL.eq_2, evL.eq_4, evL.eq_5, evL.eq_6, meT, meD, isLr, get_last, evI, evC.eq_1, evC.eq_2, evC.eq_3, evC.eq_4, evC.eq_5, evC.eq_6, evC.eq_7, evC.eq_8, evC.eq_9, evC.eq_10, evC.eq_13, evC.eq_14, evC.eq_15, evC.eq_16, evCs, GG_call, GG_raw, GG_glob, R.ne_ok, R.bd_ok, R.bd_err, R.bd_bad, opt_some, opt_none, R.th, Out.th, PyD.finish, PyD.start, List.map, List.length, List.replicate, List.getD_cons_zero, List.getD_cons_succ, List.set_cons_zero, List.set_cons_succ, List.cons_append, List.nil_append, if_true, if_false, Bool.false_eq_true, E.isNon, Option.map_some, Option.map_none, Option.bind_some, setAll, List.zip_cons_cons, List.zip_nil_left, List.foldl_cons, List.foldl_nil, truthB, cmpEqI, cmpNeI, cmpLt, cmpLe, cmpGt, cmpGe, isNon, binAdd, binSub, Bool.not_true, Bool.not_false, decide_true, decide_false, reduceCtorEq, Nat.reduceAdd, Nat.reduceSub, Nat.sub_self, Nat.sub_zero, Nat.zero_add, ofI, idx0, idx1, idx2, biAbs, biLenT, biLenL, biTupL, biTupT, sz0, sz1, sz2, sz3, sz4, sz5, sz6, sz7, sz8, e0, hev, es]
  rfl
theorem turns_pds (ls : List (List Int)) : ∃ ps, D.pds (ls.map fun l => .tup (l.map .int)) = some ps ∧ PyData.canLayAll0 ps = true ∧ PyData.depthAll ps ≤ 1 := by
  obtain ⟨ps, h1, h2, h3⟩ := pds_nice (ls.map fun l => .tup (l.map .int)) (nices_of fun x hx => by obtain ⟨l, _, rfl⟩ := List.mem_map.1 hx; exact turn_nice l)
  exact ⟨ps, h1, h2, Nat.le_trans h3 (deps_le fun x hx => by obtain ⟨l, _, rfl⟩ := List.mem_map.1 hx; exact turn_dep l)⟩
theorem turn_inj {a b : List Int} (h : turn a = turn b) : a = b := by
  have h : a.map D.int = b.map D.int := by injection h
  exact (List.map_inj_right (fun x y e => by injection e)).1 h
theorem any_turns {d : PyData} {t : List Int} (hd : (turn t).pd = some d) : ∀ {ls : List (List Int)} {ps : List PyData}, D.pds (ls.map fun l => .tup (l.map .int)) = some ps → (ps.any fun z => PyData.eqv z d) = ls.contains t
  | [], ps, h => by cases h; rfl
  | l :: ls, ps, h => by
    rw [List.map_cons, D.pds] at h
    split at h
    · rename_i p ps' h1 h2
      cases h
      rw [List.any_cons, List.contains_cons, any_turns hd h2]
      congr 1
      have := eqv_nice (turn l) (turn t) p d (turn_nice l) (turn_nice t) h1 hd
      by_cases e : t = l
      · subst e
        rw [this.2 rfl, beq_self_eq_true]
      · rw [beq_eq_false_iff_ne.2 e, Bool.eq_false_iff]
        exact fun c => e (turn_inj (this.1 c)).symm
    · cases h
theorem in_turns (S : Store) (t : List Int) (ls : List (List Int)) : inD S (turn t) (turns ls) = some (ls.contains t) := by
  obtain ⟨ps, h1, h2, h3⟩ := turns_pds ls
  obtain ⟨d, h4, h5, h6⟩ := pd_nice (turn t) (turn_nice t)
  have h7 := turn_dep t
  show (if flatD (turn t) && (ls.map fun l => D.tup (l.map .int)).all flatD then some ((ls.map fun l => D.tup (l.map .int)).any fun z => eqF z (turn t)) else match pdS S (turn t), D.pds (ls.map fun l => .tup (l.map .int)) with
    | some d, some ds => need (SeqAt.shaped d = true ∧ SeqAt.shaped (.list ds) = true) (some (ds.any fun z => PyData.eqv z d))
    | _, _ => none) = _
  rw [show flatD (turn t) = false from rfl, Bool.false_and, if_neg (by simp), show pdS S (turn t) = (turn t).pd from rfl, h1, h4]
  simp only
  rw [need_of, any_turns h4 h1]
  simp only [SeqAt.shaped, h5, PyData.canLay0, h2, Bool.true_and, decide_eq_true_eq, PyData.depth]
  exact ⟨by omega, decide_eq_true (by omega)⟩
theorem law_is_part_sp (h : CA.Has T gl) (h3 : Has T gl) (S : Store) (p : Rat) (k : Nat) (hk : 2 ≤ k) : callN T gl k "_law_is_part" [pt p] S = .ok (.bl true) S := by
  obtain ⟨k, rfl⟩ : ∃ q, k = q + 1 := ⟨k - 1, by omega⟩
  rw [call_law_is_part h3]
  have h0 : (0 : Int) < p.den := by have := p.den_nz; omega
  have hl : biD S .len (pt p) = some (.int 2) := biLenT _ _
  have hg : Nat.gcd p.den p.num.natAbs = 1 := by rw [Nat.gcd_comm]; exact p.reduced
  have hi : isaD S .tuple (pt p) = some true := rfl
  have hf : evC (GG T gl k) (.fr (.one 1) (.seq (.var 0)) l_law_is_part_0) [some (pt p), none] S = .nx [some (pt p), some (.int p.den)] S := by
    rw [evC]
    show forM ⟨[.int p.num, .int p.den], []⟩ _ _ _ _ _ = _
    rw [PyD.forM.eq_2, if_pos (still_nil _ _)]
    simp only [setTg, l_law_is_part_0, evE, evEs, evAnd, evOr, evL.eq_1, evL.eq_2, evL.eq_4, evL.eq_5, evL.eq_6, meT, meD, isLr, get_last, evI, evC.eq_1, evC.eq_2, evC.eq_3, evC.eq_4, evC.eq_5, evC.eq_6, evC.eq_7, evC.eq_8, evC.eq_9, evC.eq_10, evC.eq_13, evC.eq_14, evC.eq_15, evC.eq_16, evCs, GG_call, GG_raw, GG_glob, R.ne_ok, R.bd_ok, R.bd_err, R.bd_bad, opt_some, opt_none, R.th, Out.th, PyD.finish, PyD.start, List.map, List.length, List.replicate, List.getD_cons_zero, List.getD_cons_succ, List.set_cons_zero, List.set_cons_succ, List.cons_append, List.nil_append, if_true, if_false, Bool.false_eq_true, E.isNon, Option.map_some, Option.map_none, Option.bind_some, setAll, List.zip_cons_cons, List.zip_nil_left, List.foldl_cons, List.foldl_nil, truthB, cmpEqI, cmpNeI, cmpLt, cmpLe, cmpGt, cmpGe, isNon, binAdd, binSub, Bool.not_true, Bool.not_false, decide_true, decide_false, reduceCtorEq, Nat.reduceAdd, Nat.reduceSub, Nat.sub_self, Nat.sub_zero, Nat.zero_add, ofI, idx0, idx1, idx2, biAbs, biLenT, biLenL, biTupL, biTupT, sz0, sz1, sz2, sz3, sz4, sz5, sz6, sz7, sz8, isaD]
    rw [PyD.forM.eq_2, if_pos (still_nil _ _)]
    simp only [setTg, l_law_is_part_0, evE, evEs, evAnd, evOr, evL.eq_1, evL.eq_2, evL.eq_4, evL.eq_5, evL.eq_6, meT, meD, isLr, get_last, evI, evC.eq_1, evC.eq_2, evC.eq_3, evC.eq_4, evC.eq_5, evC.eq_6, evC.eq_7, evC.eq_8, evC.eq_9, evC.eq_10, evC.eq_13, evC.eq_14, evC.eq_15, evC.eq_16, evCs, GG_call, GG_raw, GG_glob, R.ne_ok, R.bd_ok, R.bd_err, R.bd_bad, opt_some, opt_none, R.th, Out.th, PyD.finish, PyD.start, List.map, List.length, List.replicate, List.getD_cons_zero, List.getD_cons_succ, List.set_cons_zero, List.set_cons_succ, List.cons_append, List.nil_append, if_true, if_false, Bool.false_eq_true, E.isNon, Option.map_some, Option.map_none, Option.bind_some, setAll, List.zip_cons_cons, List.zip_nil_left, List.foldl_cons, List.foldl_nil, truthB, cmpEqI, cmpNeI, cmpLt, cmpLe, cmpGt, cmpGe, isNon, binAdd, binSub, Bool.not_true, Bool.not_false, decide_true, decide_false, reduceCtorEq, Nat.reduceAdd, Nat.reduceSub, Nat.sub_self, Nat.sub_zero, Nat.zero_add, ofI, idx0, idx1, idx2, biAbs, biLenT, biLenL, biTupL, biTupT, sz0, sz1, sz2, sz3, sz4, sz5, sz6, sz7, sz8, isaD]
    rw [PyD.forM.eq_1, if_pos (still_nil _ _)]
  simp only [c_law_is_part, evE, evEs, evAnd, evOr, evL.eq_1, evL.eq_2, evL.eq_4, evL.eq_5, evL.eq_6, meT, meD, isLr, get_last, evI, evC.eq_1, evC.eq_2, evC.eq_3, evC.eq_4, evC.eq_5, evC.eq_6, evC.eq_7, evC.eq_8, evC.eq_9, evC.eq_10, evC.eq_13, evC.eq_14, evC.eq_15, evC.eq_16, evCs, GG_call, GG_raw, GG_glob, R.ne_ok, R.bd_ok, R.bd_err, R.bd_bad, opt_some, opt_none, R.th, Out.th, PyD.finish, PyD.start, List.map, List.length, List.replicate, List.getD_cons_zero, List.getD_cons_succ, List.set_cons_zero, List.set_cons_succ, List.cons_append, List.nil_append, if_true, if_false, Bool.false_eq_true, E.isNon, Option.map_some, Option.map_none, Option.bind_some, setAll, List.zip_cons_cons, List.zip_nil_left, List.foldl_cons, List.foldl_nil, truthB, cmpEqI, cmpNeI, cmpLt, cmpLe, cmpGt, cmpGe, isNon, binAdd, binSub, Bool.not_true, Bool.not_false, decide_true, decide_false, reduceCtorEq, Nat.reduceAdd, Nat.reduceSub, Nat.sub_self, Nat.sub_zero, Nat.zero_add, ofI, idx0, idx1, idx2, biAbs, biLenT, biLenL, biTupL, biTupT, sz0, sz1, sz2, sz3, sz4, sz5, sz6, sz7, sz8, hi, hl, hf, pt_num, pt_den, decT h0, abs_nat, lgcd_sp h S p.num.natAbs p.den k (by omega), hg]
  rfl
theorem law_is_row_sp (h : CA.Has T gl) (h3 : Has T gl) (S : Store) (l : List Rat) (hl : l.length ≤ 1000) (n : Nat) (hn : l.length = n) (k : Nat) (hk : 3 ≤ k) : callN T gl k "_law_is_row" [row l, .int n] S = .ok (.bl true) S := by
  obtain ⟨k, rfl⟩ : ∃ q, k = q + 1 := ⟨k - 1, by omega⟩
  rw [call_law_is_row h3]
  have hi : isaD S .tuple (row l) = some true := rfl
  have hc : evL (GG T gl k) [some (row l), some (.int n), none] m_law_is_row_0 S = .ok ((l.map pt).map fun _ => .bl true) S := by
    rw [List.map_map]
    exact l_map2 (src := []) l pt _ (by simp only [evE, evEs, evAnd, evOr, evL.eq_1, evL.eq_2, evL.eq_4, evL.eq_5, evL.eq_6, meT, meD, isLr, get_last, evI, evC.eq_1, evC.eq_2, evC.eq_3, evC.eq_4, evC.eq_5, evC.eq_6, evC.eq_7, evC.eq_8, evC.eq_9, evC.eq_10, evC.eq_13, evC.eq_14, evC.eq_15, evC.eq_16, evCs, GG_call, GG_raw, GG_glob, R.ne_ok, R.bd_ok, R.bd_err, R.bd_bad, opt_some, opt_none, R.th, Out.th, PyD.finish, PyD.start, List.map, List.length, List.replicate, List.getD_cons_zero, List.getD_cons_succ, List.set_cons_zero, List.set_cons_succ, List.cons_append, List.nil_append, if_true, if_false, Bool.false_eq_true, E.isNon, Option.map_some, Option.map_none, Option.bind_some, setAll, List.zip_cons_cons, List.zip_nil_left, List.foldl_cons, List.foldl_nil, truthB, cmpEqI, cmpNeI, cmpLt, cmpLe, cmpGt, cmpGe, isNon, binAdd, binSub, Bool.not_true, Bool.not_false, decide_true, decide_false, reduceCtorEq, Nat.reduceAdd, Nat.reduceSub, Nat.sub_self, Nat.sub_zero, Nat.zero_add, ofI, idx0, idx1, idx2, biAbs, biLenT, biLenL, biTupL, biTupT, sz0, sz1, sz2, sz3, sz4, sz5, sz6, sz7, sz8, seqRow]) (still_nil _ _) (by omega) fun x hx => ⟨[some (row l), some (.int n), some (pt x)], rfl, by simp only [evE, evEs, evAnd, evOr, evL.eq_1, evL.eq_2, evL.eq_4, evL.eq_5, evL.eq_6, meT, meD, isLr, get_last, evI, evC.eq_1, evC.eq_2, evC.eq_3, evC.eq_4, evC.eq_5, evC.eq_6, evC.eq_7, evC.eq_8, evC.eq_9, evC.eq_10, evC.eq_13, evC.eq_14, evC.eq_15, evC.eq_16, evCs, GG_call, GG_raw, GG_glob, R.ne_ok, R.bd_ok, R.bd_err, R.bd_bad, opt_some, opt_none, R.th, Out.th, PyD.finish, PyD.start, List.map, List.length, List.replicate, List.getD_cons_zero, List.getD_cons_succ, List.set_cons_zero, List.set_cons_succ, List.cons_append, List.nil_append, if_true, if_false, Bool.false_eq_true, E.isNon, Option.map_some, Option.map_none, Option.bind_some, setAll, List.zip_cons_cons, List.zip_nil_left, List.foldl_cons, List.foldl_nil, truthB, cmpEqI, cmpNeI, cmpLt, cmpLe, cmpGt, cmpGe, isNon, binAdd, binSub, Bool.not_true, Bool.not_false, decide_true, decide_false, reduceCtorEq, Nat.reduceAdd, Nat.reduceSub, Nat.sub_self, Nat.sub_zero, Nat.zero_add, ofI, idx0, idx1, idx2, biAbs, biLenT, biLenL, biTupL, biTupT, sz0, sz1, sz2, sz3, sz4, sz5, sz6, sz7, sz8, law_is_part_sp h h3 S x k (by omega)]; rfl⟩
  simp only [c_law_is_row, evE, evEs, evAnd, evOr, evL.eq_1, evL.eq_2, evL.eq_4, evL.eq_5, evL.eq_6, meT, meD, isLr, get_last, evI, evC.eq_1, evC.eq_2, evC.eq_3, evC.eq_4, evC.eq_5, evC.eq_6, evC.eq_7, evC.eq_8, evC.eq_9, evC.eq_10, evC.eq_13, evC.eq_14, evC.eq_15, evC.eq_16, evCs, GG_call, GG_raw, GG_glob, R.ne_ok, R.bd_ok, R.bd_err, R.bd_bad, opt_some, opt_none, R.th, Out.th, PyD.finish, PyD.start, List.map, List.length, List.replicate, List.getD_cons_zero, List.getD_cons_succ, List.set_cons_zero, List.set_cons_succ, List.cons_append, List.nil_append, if_true, if_false, Bool.false_eq_true, E.isNon, Option.map_some, Option.map_none, Option.bind_some, setAll, List.zip_cons_cons, List.zip_nil_left, List.foldl_cons, List.foldl_nil, truthB, cmpEqI, cmpNeI, cmpLt, cmpLe, cmpGt, cmpGe, isNon, binAdd, binSub, Bool.not_true, Bool.not_false, decide_true, decide_false, reduceCtorEq, Nat.reduceAdd, Nat.reduceSub, Nat.sub_self, Nat.sub_zero, Nat.zero_add, ofI, idx0, idx1, idx2, biAbs, biLenT, biLenL, biTupL, biTupT, sz0, sz1, sz2, sz3, sz4, sz5, sz6, sz7, sz8, hi, lenRow, hn, hc, all_true]
theorem law_is_motion_sp (h : CA.Has T gl) (h3 : Has T gl) (S : Store) {n t s d b} (m : MoOk n t s d b) (k : Nat) (hk : 4 ≤ k) : callN T gl k "_law_is_motion" [mot t s d] S = .ok (.bl true) S := by
  obtain ⟨k, rfl⟩ : ∃ q, k = q + 1 := ⟨k - 1, by omega⟩
  rw [call_law_is_motion h3]
  have n3 := m.n3
  have hn : n = 1 ∨ n = 2 ∨ n = 3 := allT_n m.ht
  have lt := allT_len m.ht
  have d1 : decide ((1 : Int) ≤ n) = true := decide_eq_true (by omega)
  have d3 : decide ((n : Int) ≤ 3) = true := decide_eq_true (by omega)
  have hin : (sortT (levs n n)).contains t = true := by
    rw [List.contains_iff_mem, sortT, (List.mergeSort_perm _ _).mem_iff]
    exact (levs_ok hn).2.2.2.2 t m.ht
  have h0 : 0 < s.num := num_pos m.hs
  simp only [c_law_is_motion, evE, evEs, evAnd, evOr, evL.eq_1, evL.eq_2, evL.eq_4, evL.eq_5, evL.eq_6, meT, meD, isLr, get_last, evI, evC.eq_1, evC.eq_2, evC.eq_3, evC.eq_4, evC.eq_5, evC.eq_6, evC.eq_7, evC.eq_8, evC.eq_9, evC.eq_10, evC.eq_13, evC.eq_14, evC.eq_15, evC.eq_16, evCs, GG_call, GG_raw, GG_glob, R.ne_ok, R.bd_ok, R.bd_err, R.bd_bad, opt_some, opt_none, R.th, Out.th, PyD.finish, PyD.start, List.map, List.length, List.replicate, List.getD_cons_zero, List.getD_cons_succ, List.set_cons_zero, List.set_cons_succ, List.cons_append, List.nil_append, if_true, if_false, Bool.false_eq_true, E.isNon, Option.map_some, Option.map_none, Option.bind_some, setAll, List.zip_cons_cons, List.zip_nil_left, List.foldl_cons, List.foldl_nil, truthB, cmpEqI, cmpNeI, cmpLt, cmpLe, cmpGt, cmpGe, isNon, binAdd, binSub, Bool.not_true, Bool.not_false, decide_true, decide_false, reduceCtorEq, Nat.reduceAdd, Nat.reduceSub, Nat.sub_self, Nat.sub_zero, Nat.zero_add, ofI, idx0, idx1, idx2, biAbs, biLenT, biLenL, biTupL, biTupT, sz0, sz1, sz2, sz3, sz4, sz5, sz6, sz7, sz8, mot_len, mot0, mot1, mot2, lenTurn, lt, d1, d3, all_turns_sp h3 S hn k (by omega), in_turns, hin, bne_true', law_is_part_sp h h3 S s k (by omega), pt_num, decT h0, law_is_row_sp h h3 S d (by rw [m.hd]; omega) n m.hd k (by omega)]
end CC

namespace CD
open PySem PyD
def c_part : Fn := ⟨2, 2, false, (.cons (.iff (.cmp .lt (.var 1) (.int 1)) (.cons (.raise "BadPart" .nil) .nil) .nil) (.cons (.ret (.call false "low" (.cons (.var 0) (.cons (.var 1) .nil)))) .nil))⟩
def c_law_of : Fn := ⟨2, 2, false, (.cons (.ret (.idx (.var 1) (.call false "_law_pull" (.cons (.var 0) (.cons (.bi .len (.var 1)) .nil))))) .nil)⟩
def c_law_far : Fn := ⟨1, 2, false, (.cons (.set 1 (.bin .sub (.call false "_law_pull" (.cons (.var 0) (.cons (.bin .pow (.int 10) (.int 30)) .nil))) (.bin .mul (.int 5) (.bin .pow (.int 10) (.int 29))))) (.cons (.ret (.call false "_law_of" (.cons (.var 0) (.cons (.new false (.disp (.cons (.bin .sub (.call false "_law_pull" (.cons (.var 0) (.cons (.int 41) .nil))) (.int 20)) (.cons (.var 1) (.cons (.bin .mul (.int 360) (.call false "_law_pull" (.cons (.var 0) (.cons (.int 99) .nil)))) .nil))))) .nil)))) .nil))⟩
def tbl : List (Str × Fn) := ("part", c_part) ::
  ("_law_of", c_law_of) ::
  ("_law_far", c_law_far) :: []
def gls : List (Str × D) :=  []
structure Has (T : Str → Option Fn) (gl : Str → Option D) : Prop where
  fn : ∀ f c, tbl.lookup f = some c → T f = some c
  gc : ∀ x d, gls.lookup x = some d → gl x = some d
variable {T : Str → Option Fn} {gl : Str → Option D}
theorem look_part : tbl.lookup ("part" : Str) = some c_part := lookup_idx (i := 0) (c := ("part", c_part)) (by decide +kernel) rfl
theorem look_law_of : tbl.lookup ("_law_of" : Str) = some c_law_of := lookup_idx (i := 1) (c := ("_law_of", c_law_of)) (by decide +kernel) rfl
theorem look_law_far : tbl.lookup ("_law_far" : Str) = some c_law_far := lookup_idx (i := 2) (c := ("_law_far", c_law_far)) (by decide +kernel) rfl
theorem call_part (h : Has T gl) (k : Nat) (ds : List D) (S : Store) : callN T gl (k + 1) "part" ds S = if ds.length = c_part.np then finish c_part.drop S.length (evCs (GG T gl k) c_part.body (start c_part.nl ds) S) else .bad := by
  rw [callN_succ, h.fn "part" _ look_part]
theorem call_law_of (h : Has T gl) (k : Nat) (ds : List D) (S : Store) : callN T gl (k + 1) "_law_of" ds S = if ds.length = c_law_of.np then finish c_law_of.drop S.length (evCs (GG T gl k) c_law_of.body (start c_law_of.nl ds) S) else .bad := by
  rw [callN_succ, h.fn "_law_of" _ look_law_of]
theorem call_law_far (h : Has T gl) (k : Nat) (ds : List D) (S : Store) : callN T gl (k + 1) "_law_far" ds S = if ds.length = c_law_far.np then finish c_law_far.drop S.length (evCs (GG T gl k) c_law_far.body (start c_law_far.nl ds) S) else .bad := by
  rw [callN_succ, h.fn "_law_far" _ look_law_far]
end CD

namespace CD
open PySem PyD CA CB
variable {T : Str → Option Fn} {gl : Str → Option D}
theorem tried_ok (kb : Str → Bool) (d : D) (S : Store) : triedR kb (.ok d S) = .ok (.tup [.str "told", d]) S := rfl
theorem tried_err {kb : Str → Bool} {c : Str} (S : Store) (h : kb c = true) : triedR kb (.err ⟨c, []⟩ S) = .ok (.tup [.str c]) S := by
  simp only [triedR, List.isEmpty_nil, h, and_self, if_true]
theorem kbG_of {gl : Str → Option D} {T : Str → Option Fn} {k : Nat} {c : Str} {fs : List D} (h : gl c = some (.exc c fs)) : kbG (GG T gl k) c = true := by
  simp only [kbG, GG_glob, h]
theorem lof_sp (h : CA.Has T gl) (h4 : Has T gl) (S : Store) {b c : Nat} (hB : BagAt S b c) (hc : c < 2 ^ 60) (xs : List D) (h0 : 0 < xs.length) (hl : xs.length ≤ 1000) (k : Nat) (hk : 2 ≤ k) :
    ∃ (d : D) (S' : Store), callN T gl k "_law_of" [.ref b, .lst xs] S = .ok d S' ∧ d ∈ xs ∧ BagAt S' b (c + 1) ∧ Fr b S S' := by
  obtain ⟨k, rfl⟩ : ∃ q, k = q + 1 := ⟨k - 1, by omega⟩
  rw [call_law_of h4]
  obtain ⟨r, S1, e1, hr, hB1, f1⟩ := pull_sp h S hB (by omega) (m := xs.length) h0 (by omega) k (by omega)
  have hi : idxD S1 (.lst xs) (.int r) = some xs[r] := idxLs S1 (by omega) (by rw [Int.toNat_natCast]; exact List.getElem?_eq_getElem hr)
  exact ⟨xs[r], S1, by simp only [c_law_of, evE, evEs, evAnd, evOr, evL.eq_1, evL.eq_2, evL.eq_4, evL.eq_5, evL.eq_6, meT, meD, isLr, get_last, evI, evC.eq_1, evC.eq_2, evC.eq_3, evC.eq_4, evC.eq_5, evC.eq_6, evC.eq_7, evC.eq_8, evC.eq_9, evC.eq_10, evC.eq_13, evC.eq_14, evC.eq_15, evC.eq_16, evCs, GG_call, GG_raw, GG_glob, R.ne_ok, R.bd_ok, R.bd_err, R.bd_bad, opt_some, opt_none, R.th, Out.th, PyD.finish, PyD.start, List.map, List.length, List.replicate, List.getD_cons_zero, List.getD_cons_succ, List.set_cons_zero, List.set_cons_succ, List.cons_append, List.nil_append, if_true, if_false, Bool.false_eq_true, E.isNon, Option.map_some, Option.map_none, Option.bind_some, setAll, List.zip_cons_cons, List.zip_nil_left, List.foldl_cons, List.foldl_nil, truthB, cmpEqI, cmpNeI, cmpLt, cmpLe, cmpGt, cmpGe, isNon, binAdd, binSub, Bool.not_true, Bool.not_false, decide_true, decide_false, reduceCtorEq, Nat.reduceAdd, Nat.reduceSub, Nat.sub_self, Nat.sub_zero, Nat.zero_add, ofI, idx0, idx1, idx2, biAbs, biLenT, biLenL, biTupL, biTupT, sz0, sz1, sz2, sz3, sz4, sz5, sz6, sz7, sz8, e1, hi], List.getElem_mem hr, hB1, f1⟩
theorem pow30 (S : Store) : bin S .pow (.int 10) (.int 30) = some (.int 1000000000000000000000000000000) := need_of (by decide)
theorem lfar_sp (h : CA.Has T gl) (h4 : Has T gl) (S : Store) {b c : Nat} (hB : BagAt S b c) (hc : c < 2 ^ 50) (k : Nat) (hk : 3 ≤ k) :
    ∃ (i : Int) (S' : Store), callN T gl k "_law_far" [.ref b] S = .ok (.int i) S' ∧ i.natAbs < 2 ^ 100 ∧ BagAt S' b (c + 4) ∧ Fr b S S' := by
  obtain ⟨k, rfl⟩ : ∃ q, k = q + 1 := ⟨k - 1, by omega⟩
  rw [call_law_far h4]
  obtain ⟨r, S1, e1, hr, hB1, f1⟩ := pull_sp h S hB (by omega) (m := 1000000000000000000000000000000) (by omega) (by omega) k (by omega)
  obtain ⟨r2, S2, e2, hr2, hB2, f2⟩ := pull_sp h S1 hB1 (by omega) (m := 41) (by omega) (by omega) k (by omega)
  obtain ⟨r3, S3, e3, hr3, hB3, f3⟩ := pull_sp h S2 hB2 (by omega) (m := 99) (by omega) (by omega) k (by omega)
  have hm : bin S1 .mul (.int 5) (.int 100000000000000000000000000000) = some (.int 500000000000000000000000000000) := mulS S1 (by omega) (by omega) (by omega) (by omega)
  have hm2 : bin S3 .mul (.int 360) (.int r3) = some (.int (360 * r3)) := mulS S3 (by omega) (by omega) (by omega) (by omega)
  obtain ⟨d, S4, e4, hd, hB4, f4⟩ := lof_sp h h4 S3 hB3 (by omega) [.int ((r2 : Int) - 20), .int ((r : Int) - 500000000000000000000000000000), .int (360 * r3)] (by simp) (by simp) k (by omega)
  simp only [Int.ofNat_eq_natCast, Int.cast_ofNat_Int] at e1 e2 e3
  have hd2 : ∃ i : Int, d = .int i ∧ i.natAbs < 2 ^ 100 := by
    simp only [List.mem_cons, List.not_mem_nil, or_false] at hd
    rcases hd with rfl | rfl | rfl
    · exact ⟨_, rfl, by omega⟩
    · exact ⟨_, rfl, by omega⟩
    · exact ⟨_, rfl, by omega⟩
  obtain ⟨i, rfl, hi⟩ := hd2
  exact ⟨i, S4, by simp only [c_law_far, evE, evEs, evAnd, evOr, evL.eq_1, evL.eq_2, evL.eq_4, evL.eq_5, evL.eq_6, meT, meD, isLr, get_last, evI, evC.eq_1, evC.eq_2, evC.eq_3, evC.eq_4, evC.eq_5, evC.eq_6, evC.eq_7, evC.eq_8, evC.eq_9, evC.eq_10, evC.eq_13, evC.eq_14, evC.eq_15, evC.eq_16, evCs, GG_call, GG_raw, GG_glob, R.ne_ok, R.bd_ok, R.bd_err, R.bd_bad, opt_some, opt_none, R.th, Out.th, PyD.finish, PyD.start, List.map, List.length, List.replicate, List.getD_cons_zero, List.getD_cons_succ, List.set_cons_zero, List.set_cons_succ, List.cons_append, List.nil_append, if_true, if_false, Bool.false_eq_true, E.isNon, Option.map_some, Option.map_none, Option.bind_some, setAll, List.zip_cons_cons, List.zip_nil_left, List.foldl_cons, List.foldl_nil, truthB, cmpEqI, cmpNeI, cmpLt, cmpLe, cmpGt, cmpGe, isNon, binAdd, binSub, Bool.not_true, Bool.not_false, decide_true, decide_false, reduceCtorEq, Nat.reduceAdd, Nat.reduceSub, Nat.sub_self, Nat.sub_zero, Nat.zero_add, ofI, idx0, idx1, idx2, biAbs, biLenT, biLenL, biTupL, biTupT, sz0, sz1, sz2, sz3, sz4, sz5, sz6, sz7, sz8, pow30, pow29, e1, hm, e2, e3, hm2, e4], hi, hB4, f1.trans (f2.trans (f3.trans f4))⟩
theorem part_sp (h : CA.Has T gl) (h4 : Has T gl) (S : Store) (i : Int) (n k b : Nat) (hn : n ≠ 0) (hb : n < 2 ^ b) (hb2 : b < 9000) (hk : 3 ≤ k) : callN T gl k "part" [.int i, .int n] S = .ok (pt (Rat.normalize i n hn)) S := by
  obtain ⟨k, rfl⟩ : ∃ q, k = q + 1 := ⟨k - 1, by omega⟩
  rw [call_part h4]
  have c1 : ¬((n : Int) < 1) := by omega
  simp only [c_part, evE, evEs, evAnd, evOr, evL.eq_1, evL.eq_2, evL.eq_4, evL.eq_5, evL.eq_6, meT, meD, isLr, get_last, evI, evC.eq_1, evC.eq_2, evC.eq_3, evC.eq_4, evC.eq_5, evC.eq_6, evC.eq_7, evC.eq_8, evC.eq_9, evC.eq_10, evC.eq_13, evC.eq_14, evC.eq_15, evC.eq_16, evCs, GG_call, GG_raw, GG_glob, R.ne_ok, R.bd_ok, R.bd_err, R.bd_bad, opt_some, opt_none, R.th, Out.th, PyD.finish, PyD.start, List.map, List.length, List.replicate, List.getD_cons_zero, List.getD_cons_succ, List.set_cons_zero, List.set_cons_succ, List.cons_append, List.nil_append, if_true, if_false, Bool.false_eq_true, E.isNon, Option.map_some, Option.map_none, Option.bind_some, setAll, List.zip_cons_cons, List.zip_nil_left, List.foldl_cons, List.foldl_nil, truthB, cmpEqI, cmpNeI, cmpLt, cmpLe, cmpGt, cmpGe, isNon, binAdd, binSub, Bool.not_true, Bool.not_false, decide_true, decide_false, reduceCtorEq, Nat.reduceAdd, Nat.reduceSub, Nat.sub_self, Nat.sub_zero, Nat.zero_add, ofI, idx0, idx1, idx2, biAbs, biLenT, biLenL, biTupL, biTupT, sz0, sz1, sz2, sz3, sz4, sz5, sz6, sz7, sz8, decF c1, low_sp h S i n k b hn hb hb2 (by omega)]
theorem part_no (h4 : Has T gl) (S : Store) (i n : Int) (k : Nat) (hn : n ≤ 0) (hk : 1 ≤ k) : callN T gl k "part" [.int i, .int n] S = .err ⟨"BadPart", []⟩ S := by
  obtain ⟨k, rfl⟩ : ∃ q, k = q + 1 := ⟨k - 1, by omega⟩
  rw [call_part h4]
  have c1 : n < 1 := by omega
  simp only [c_part, evE, evEs, evAnd, evOr, evL.eq_1, evL.eq_2, evL.eq_4, evL.eq_5, evL.eq_6, meT, meD, isLr, get_last, evI, evC.eq_1, evC.eq_2, evC.eq_3, evC.eq_4, evC.eq_5, evC.eq_6, evC.eq_7, evC.eq_8, evC.eq_9, evC.eq_10, evC.eq_13, evC.eq_14, evC.eq_15, evC.eq_16, evCs, GG_call, GG_raw, GG_glob, R.ne_ok, R.bd_ok, R.bd_err, R.bd_bad, opt_some, opt_none, R.th, Out.th, PyD.finish, PyD.start, List.map, List.length, List.replicate, List.getD_cons_zero, List.getD_cons_succ, List.set_cons_zero, List.set_cons_succ, List.cons_append, List.nil_append, if_true, if_false, Bool.false_eq_true, E.isNon, Option.map_some, Option.map_none, Option.bind_some, setAll, List.zip_cons_cons, List.zip_nil_left, List.foldl_cons, List.foldl_nil, truthB, cmpEqI, cmpNeI, cmpLt, cmpLe, cmpGt, cmpGe, isNon, binAdd, binSub, Bool.not_true, Bool.not_false, decide_true, decide_false, reduceCtorEq, Nat.reduceAdd, Nat.reduceSub, Nat.sub_self, Nat.sub_zero, Nat.zero_add, ofI, idx0, idx1, idx2, biAbs, biLenT, biLenL, biTupL, biTupT, sz0, sz1, sz2, sz3, sz4, sz5, sz6, sz7, sz8, decT c1]
def itup (l : List Int) : D := .tup (l.map .int)
def isP (l : List Int) : Bool := match l with
  | [a, b] => decide (0 < b) && decide (Nat.gcd b.natAbs a.natAbs = 1)
  | _ => false
theorem natAbs_pos {b : Int} (h : 0 < b) : ((b.natAbs : Nat) : Int) = b := by omega
theorem decCast (m : Nat) : decide ((m : Int) = 1) = decide (m = 1) := by
  by_cases h : m = 1
  · subst h; rfl
  · rw [decide_eq_false h, decide_eq_false (by omega)]
theorem is_part_gen (h : CA.Has T gl) (S : Store) (l : List Int) (hl : l.length ≤ 1000) (k : Nat) (hk : 2 ≤ k) : callN T gl k "is_part" [itup l] S = .ok (.bl (isP l)) S := by
  obtain ⟨k, rfl⟩ : ∃ q, k = q + 1 := ⟨k - 1, by omega⟩
  rw [call_is_part h]
  have hlen : biD S .len (itup l) = some (.int l.length) := by rw [itup, biLenT, List.length_map]
  by_cases h2 : l.length = 2
  · obtain ⟨a, b, rfl⟩ : ∃ a b, l = [a, b] := by
      match l, h2 with
      | [a, b], _ => exact ⟨a, b, rfl⟩
    have hlen : biD S .len (itup [a, b]) = some (.int 2) := rfl
    have i0 : idxD S (itup [a, b]) (.int 0) = some (.int a) := idx0 _ _ _
    have i1 : idxD S (itup [a, b]) (.int 1) = some (.int b) := idx1 _ _ _ _
    by_cases hb : 0 < b
    · have e := common_sp h S a.natAbs b.natAbs k (by omega)
      rw [natAbs_pos hb] at e
      simp only [c_is_part, evE, evEs, evAnd, evOr, evL.eq_1, evL.eq_2, evL.eq_4, evL.eq_5, evL.eq_6, meT, meD, isLr, get_last, evI, evC.eq_1, evC.eq_2, evC.eq_3, evC.eq_4, evC.eq_5, evC.eq_6, evC.eq_7, evC.eq_8, evC.eq_9, evC.eq_10, evC.eq_13, evC.eq_14, evC.eq_15, evC.eq_16, evCs, GG_call, GG_raw, GG_glob, R.ne_ok, R.bd_ok, R.bd_err, R.bd_bad, opt_some, opt_none, R.th, Out.th, PyD.finish, PyD.start, List.map, List.length, List.replicate, List.getD_cons_zero, List.getD_cons_succ, List.set_cons_zero, List.set_cons_succ, List.cons_append, List.nil_append, if_true, if_false, Bool.false_eq_true, E.isNon, Option.map_some, Option.map_none, Option.bind_some, setAll, List.zip_cons_cons, List.zip_nil_left, List.foldl_cons, List.foldl_nil, truthB, cmpEqI, cmpNeI, cmpLt, cmpLe, cmpGt, cmpGe, isNon, binAdd, binSub, Bool.not_true, Bool.not_false, decide_true, decide_false, reduceCtorEq, Nat.reduceAdd, Nat.reduceSub, Nat.sub_self, Nat.sub_zero, Nat.zero_add, ofI, idx0, idx1, idx2, biAbs, biLenT, biLenL, biTupL, biTupT, sz0, sz1, sz2, sz3, sz4, sz5, sz6, sz7, sz8, hlen, i0, i1, decT hb, abs_nat, e]
      simp only [isP, decT hb, decCast, Bool.true_and]
    · simp only [c_is_part, evE, evEs, evAnd, evOr, evL.eq_1, evL.eq_2, evL.eq_4, evL.eq_5, evL.eq_6, meT, meD, isLr, get_last, evI, evC.eq_1, evC.eq_2, evC.eq_3, evC.eq_4, evC.eq_5, evC.eq_6, evC.eq_7, evC.eq_8, evC.eq_9, evC.eq_10, evC.eq_13, evC.eq_14, evC.eq_15, evC.eq_16, evCs, GG_call, GG_raw, GG_glob, R.ne_ok, R.bd_ok, R.bd_err, R.bd_bad, opt_some, opt_none, R.th, Out.th, PyD.finish, PyD.start, List.map, List.length, List.replicate, List.getD_cons_zero, List.getD_cons_succ, List.set_cons_zero, List.set_cons_succ, List.cons_append, List.nil_append, if_true, if_false, Bool.false_eq_true, E.isNon, Option.map_some, Option.map_none, Option.bind_some, setAll, List.zip_cons_cons, List.zip_nil_left, List.foldl_cons, List.foldl_nil, truthB, cmpEqI, cmpNeI, cmpLt, cmpLe, cmpGt, cmpGe, isNon, binAdd, binSub, Bool.not_true, Bool.not_false, decide_true, decide_false, reduceCtorEq, Nat.reduceAdd, Nat.reduceSub, Nat.sub_self, Nat.sub_zero, Nat.zero_add, ofI, idx0, idx1, idx2, biAbs, biLenT, biLenL, biTupL, biTupT, sz0, sz1, sz2, sz3, sz4, sz5, sz6, sz7, sz8, hlen, i0, i1, decF hb]
      simp only [isP, decF hb, Bool.false_and]
  · have hc : ¬((l.length : Int) = 2) := by omega
    have hp : isP l = false := by
      unfold isP
      split
      · exact absurd rfl h2
      · rfl
    simp only [c_is_part, evE, evEs, evAnd, evOr, evL.eq_1, evL.eq_2, evL.eq_4, evL.eq_5, evL.eq_6, meT, meD, isLr, get_last, evI, evC.eq_1, evC.eq_2, evC.eq_3, evC.eq_4, evC.eq_5, evC.eq_6, evC.eq_7, evC.eq_8, evC.eq_9, evC.eq_10, evC.eq_13, evC.eq_14, evC.eq_15, evC.eq_16, evCs, GG_call, GG_raw, GG_glob, R.ne_ok, R.bd_ok, R.bd_err, R.bd_bad, opt_some, opt_none, R.th, Out.th, PyD.finish, PyD.start, List.map, List.length, List.replicate, List.getD_cons_zero, List.getD_cons_succ, List.set_cons_zero, List.set_cons_succ, List.cons_append, List.nil_append, if_true, if_false, Bool.false_eq_true, E.isNon, Option.map_some, Option.map_none, Option.bind_some, setAll, List.zip_cons_cons, List.zip_nil_left, List.foldl_cons, List.foldl_nil, truthB, cmpEqI, cmpNeI, cmpLt, cmpLe, cmpGt, cmpGe, isNon, binAdd, binSub, Bool.not_true, Bool.not_false, decide_true, decide_false, reduceCtorEq, Nat.reduceAdd, Nat.reduceSub, Nat.sub_self, Nat.sub_zero, Nat.zero_add, ofI, idx0, idx1, idx2, biAbs, biLenT, biLenL, biTupL, biTupT, sz0, sz1, sz2, sz3, sz4, sz5, sz6, sz7, sz8, hlen, decF hc, hp]
theorem walkInts {g : G} (S : Store) (x0 : Option D) : ∀ (l : List Int) (x1 : Option D), ∃ x2, forM ⟨[], []⟩ (.one 1) (fun ρ S => evCs g CC.l_law_is_part_0 ρ S) (l.map .int) [x0, x1] S = .nx [x0, x2] S := by
  intro l
  induction l with
  | nil => intro x1; exact ⟨x1, by rw [List.map_nil, PyD.forM.eq_1, if_pos (still_nil _ _)]⟩
  | cons a l ih =>
    intro x1
    obtain ⟨x2, e⟩ := ih (some (.int a))
    refine ⟨x2, ?_⟩
    rw [List.map_cons, PyD.forM.eq_2, if_pos (still_nil _ _)]
    simp only [setTg, CC.l_law_is_part_0, evE, evEs, evAnd, evOr, evL.eq_1, evL.eq_2, evL.eq_4, evL.eq_5, evL.eq_6, meT, meD, isLr, get_last, evI, evC.eq_1, evC.eq_2, evC.eq_3, evC.eq_4, evC.eq_5, evC.eq_6, evC.eq_7, evC.eq_8, evC.eq_9, evC.eq_10, evC.eq_13, evC.eq_14, evC.eq_15, evC.eq_16, evCs, GG_call, GG_raw, GG_glob, R.ne_ok, R.bd_ok, R.bd_err, R.bd_bad, opt_some, opt_none, R.th, Out.th, PyD.finish, PyD.start, List.map, List.length, List.replicate, List.getD_cons_zero, List.getD_cons_succ, List.set_cons_zero, List.set_cons_succ, List.cons_append, List.nil_append, if_true, if_false, Bool.false_eq_true, E.isNon, Option.map_some, Option.map_none, Option.bind_some, setAll, List.zip_cons_cons, List.zip_nil_left, List.foldl_cons, List.foldl_nil, truthB, cmpEqI, cmpNeI, cmpLt, cmpLe, cmpGt, cmpGe, isNon, binAdd, binSub, Bool.not_true, Bool.not_false, decide_true, decide_false, reduceCtorEq, Nat.reduceAdd, Nat.reduceSub, Nat.sub_self, Nat.sub_zero, Nat.zero_add, ofI, idx0, idx1, idx2, biAbs, biLenT, biLenL, biTupL, biTupT, sz0, sz1, sz2, sz3, sz4, sz5, sz6, sz7, sz8, isaD]
    exact e
theorem law_is_part_gen (h : CA.Has T gl) (h3 : CC.Has T gl) (S : Store) (l : List Int) (hl : l.length ≤ 1000) (k : Nat) (hk : 2 ≤ k) : callN T gl k "_law_is_part" [itup l] S = .ok (.bl (isP l)) S := by
  obtain ⟨k, rfl⟩ : ∃ q, k = q + 1 := ⟨k - 1, by omega⟩
  rw [CC.call_law_is_part h3]
  have hlen : biD S .len (itup l) = some (.int l.length) := by rw [itup, biLenT, List.length_map]
  have hi : isaD S .tuple (itup l) = some true := rfl
  by_cases h2 : l.length = 2
  · obtain ⟨a, b, rfl⟩ : ∃ a b, l = [a, b] := by
      match l, h2 with
      | [a, b], _ => exact ⟨a, b, rfl⟩
    have hlen : biD S .len (itup [a, b]) = some (.int 2) := rfl
    have i0 : idxD S (itup [a, b]) (.int 0) = some (.int a) := idx0 _ _ _
    have i1 : idxD S (itup [a, b]) (.int 1) = some (.int b) := idx1 _ _ _ _
    obtain ⟨x2, hw⟩ := walkInts (g := GG T gl k) S (some (itup [a, b])) [a, b] none
    have hf : evC (GG T gl k) (.fr (.one 1) (.seq (.var 0)) CC.l_law_is_part_0) [some (itup [a, b]), none] S = .nx [some (itup [a, b]), x2] S := by
      rw [evC]
      refine Eq.trans ?_ hw
      rfl

    by_cases hb : 0 < b
    · have e := lgcd_sp h S a.natAbs b.natAbs k (by omega)
      rw [natAbs_pos hb] at e
      simp only [CC.c_law_is_part, evE, evEs, evAnd, evOr, evL.eq_1, evL.eq_2, evL.eq_4, evL.eq_5, evL.eq_6, meT, meD, isLr, get_last, evI, evC.eq_1, evC.eq_2, evC.eq_3, evC.eq_4, evC.eq_5, evC.eq_6, evC.eq_7, evC.eq_8, evC.eq_9, evC.eq_10, evC.eq_13, evC.eq_14, evC.eq_15, evC.eq_16, evCs, GG_call, GG_raw, GG_glob, R.ne_ok, R.bd_ok, R.bd_err, R.bd_bad, opt_some, opt_none, R.th, Out.th, PyD.finish, PyD.start, List.map, List.length, List.replicate, List.getD_cons_zero, List.getD_cons_succ, List.set_cons_zero, List.set_cons_succ, List.cons_append, List.nil_append, if_true, if_false, Bool.false_eq_true, E.isNon, Option.map_some, Option.map_none, Option.bind_some, setAll, List.zip_cons_cons, List.zip_nil_left, List.foldl_cons, List.foldl_nil, truthB, cmpEqI, cmpNeI, cmpLt, cmpLe, cmpGt, cmpGe, isNon, binAdd, binSub, Bool.not_true, Bool.not_false, decide_true, decide_false, reduceCtorEq, Nat.reduceAdd, Nat.reduceSub, Nat.sub_self, Nat.sub_zero, Nat.zero_add, ofI, idx0, idx1, idx2, biAbs, biLenT, biLenL, biTupL, biTupT, sz0, sz1, sz2, sz3, sz4, sz5, sz6, sz7, sz8, hi, hlen, hf, i0, i1, decT hb, abs_nat, e]
      simp only [isP, decT hb, decCast, Bool.true_and]
    · simp only [CC.c_law_is_part, evE, evEs, evAnd, evOr, evL.eq_1, evL.eq_2, evL.eq_4, evL.eq_5, evL.eq_6, meT, meD, isLr, get_last, evI, evC.eq_1, evC.eq_2, evC.eq_3, evC.eq_4, evC.eq_5, evC.eq_6, evC.eq_7, evC.eq_8, evC.eq_9, evC.eq_10, evC.eq_13, evC.eq_14, evC.eq_15, evC.eq_16, evCs, GG_call, GG_raw, GG_glob, R.ne_ok, R.bd_ok, R.bd_err, R.bd_bad, opt_some, opt_none, R.th, Out.th, PyD.finish, PyD.start, List.map, List.length, List.replicate, List.getD_cons_zero, List.getD_cons_succ, List.set_cons_zero, List.set_cons_succ, List.cons_append, List.nil_append, if_true, if_false, Bool.false_eq_true, E.isNon, Option.map_some, Option.map_none, Option.bind_some, setAll, List.zip_cons_cons, List.zip_nil_left, List.foldl_cons, List.foldl_nil, truthB, cmpEqI, cmpNeI, cmpLt, cmpLe, cmpGt, cmpGe, isNon, binAdd, binSub, Bool.not_true, Bool.not_false, decide_true, decide_false, reduceCtorEq, Nat.reduceAdd, Nat.reduceSub, Nat.sub_self, Nat.sub_zero, Nat.zero_add, ofI, idx0, idx1, idx2, biAbs, biLenT, biLenL, biTupL, biTupT, sz0, sz1, sz2, sz3, sz4, sz5, sz6, sz7, sz8, hi, hlen, hf, i0, i1, decF hb]
      simp only [isP, decF hb, Bool.false_and]
  · have hc : ¬((l.length : Int) = 2) := by omega
    have hp : isP l = false := by
      unfold isP
      split
      · exact absurd rfl h2
      · rfl
    simp only [CC.c_law_is_part, evE, evEs, evAnd, evOr, evL.eq_1, evL.eq_2, evL.eq_4, evL.eq_5, evL.eq_6, meT, meD, isLr, get_last, evI, evC.eq_1, evC.eq_2, evC.eq_3, evC.eq_4, evC.eq_5, evC.eq_6, evC.eq_7, evC.eq_8, evC.eq_9, evC.eq_10, evC.eq_13, evC.eq_14, evC.eq_15, evC.eq_16, evCs, GG_call, GG_raw, GG_glob, R.ne_ok, R.bd_ok, R.bd_err, R.bd_bad, opt_some, opt_none, R.th, Out.th, PyD.finish, PyD.start, List.map, List.length, List.replicate, List.getD_cons_zero, List.getD_cons_succ, List.set_cons_zero, List.set_cons_succ, List.cons_append, List.nil_append, if_true, if_false, Bool.false_eq_true, E.isNon, Option.map_some, Option.map_none, Option.bind_some, setAll, List.zip_cons_cons, List.zip_nil_left, List.foldl_cons, List.foldl_nil, truthB, cmpEqI, cmpNeI, cmpLt, cmpLe, cmpGt, cmpGe, isNon, binAdd, binSub, Bool.not_true, Bool.not_false, decide_true, decide_false, reduceCtorEq, Nat.reduceAdd, Nat.reduceSub, Nat.sub_self, Nat.sub_zero, Nat.zero_add, ofI, idx0, idx1, idx2, biAbs, biLenT, biLenL, biTupL, biTupT, sz0, sz1, sz2, sz3, sz4, sz5, sz6, sz7, sz8, hi, hlen, decF hc, hp]
theorem pln_told {x : D} (hx : pln x = true) : pln (.tup [.str "told", x]) = true := by
  rw [pln, plns, plns, plns, pln, hx, show PyData.strOk "told" = true by decide +kernel]; rfl
end CD

namespace K01
open PySem PyD CA CB CC CD
def l_law_0 : Cs := (.cons (.stg [3, 4] (.tup (.cons (.call false "_law_far" (.cons (.var 1) .nil)) (.cons (.call false "_law_far" (.cons (.var 1) .nil)) .nil)))) (.cons (.set 5 (.ite (.cmp .gt (.var 4) (.int 0)) (.tup (.cons (.str "told") (.cons (.call false "_law_low" (.cons (.var 3) (.cons (.var 4) .nil))) .nil))) (.tup (.cons (.str "BadPart") .nil)))) (.cons (.iff (.not (.call false "_law_same" (.cons (.tried (.call false "part" (.cons (.var 3) (.cons (.var 4) .nil)))) (.cons (.var 5) .nil)))) (.cons (.ret (.bl false)) .nil) .nil) (.cons (.iff (.not (.call false "_law_same" (.cons (.tried (.callk false "part" .nil ["under", "number"] (.cons (.var 4) (.cons (.var 3) .nil)) [.k 1, .k 0])) (.cons (.var 5) .nil)))) (.cons (.ret (.bl false)) .nil) .nil) (.cons (.iff (.not (.call false "_law_same" (.cons (.callk false "part" (.cons (.var 3) .nil) [] .nil [.p 0, .d (.int 1)]) (.cons (.tup (.cons (.var 3) (.cons (.int 1) .nil))) .nil)))) (.cons (.ret (.bl false)) .nil) .nil) (.cons (.set 6 (.call false "_law_part" (.cons (.var 1) .nil))) (.cons (.set 7 (.bin .add (.int 1) (.call false "_law_pull" (.cons (.var 1) (.cons (.int 3) .nil))))) (.cons (.set 8 (.call false "_law_of" (.cons (.var 1) (.cons (.new false (.disp (.cons (.var 6) (.cons (.tup (.cons (.bin .mul (.idx (.var 6) (.int 0)) (.var 7)) (.cons (.bin .mul (.idx (.var 6) (.int 1)) (.var 7)) .nil))) (.cons (.tup (.cons (.idx (.var 6) (.int 0)) (.cons (.bin .sub (.int 0) (.idx (.var 6) (.int 1))) .nil))) (.cons (.sl (.var 6) .non (.int 1)) (.cons (.bin .add (.var 6) (.tup (.cons (.int 1) .nil))) (.cons (.tup .nil) (.cons (.tup (.cons (.var 3) (.cons (.var 4) .nil))) .nil))))))))) .nil)))) (.cons (.iff (.not (.call false "_law_same" (.cons (.call false "is_part" (.cons (.var 8) .nil)) (.cons (.call false "_law_is_part" (.cons (.var 8) .nil)) .nil)))) (.cons (.ret (.bl false)) .nil) .nil) .nil)))))))))
def c_law : Fn := ⟨1, 9, false, (.cons (.set 1 (.call false "_law_bag" (.cons (.var 0) .nil))) (.cons (.fr (.one 2) (.rng (.cons (.int 12) .nil)) l_law_0) (.cons (.ret (.bl true)) .nil)))⟩
def own : List (Str × Fn) := ("law", c_law) :: []
def T (f : Str) : Option Fn := (CA.tbl.lookup f).or ((CB.tbl.lookup f).or ((CC.tbl.lookup f).or ((CD.tbl.lookup f).or (own.lookup f))))
def gls0 : List (Str × D) :=  []
def kins : List (Str × D) := ("BadPart", .exc "BadPart" []) :: []
def gl (x : Str) : Option D := (CA.gls.lookup x).or ((CB.gls.lookup x).or ((CC.gls.lookup x).or ((CD.gls.lookup x).or ((gls0.lookup x).or (kins.lookup x)))))
theorem has_CA : CA.Has T gl := ⟨fun f c h => by unfold T; rw [h]; rfl, fun f c h => by unfold gl; rw [h]; rfl⟩
theorem dj_CB_CA : ∀ p ∈ CB.tbl, CA.tbl.lookup p.1 = none := by decide +kernel
theorem dg_CB_CA : ∀ p ∈ CB.gls, CA.gls.lookup p.1 = none := by decide +kernel
theorem has_CB : CB.Has T gl := ⟨fun f c h => by unfold T; rw [dj_CB_CA _ (PySem.mem_of_lookup h), h]; rfl, fun f c h => by unfold gl; rw [dg_CB_CA _ (PySem.mem_of_lookup h), h]; rfl⟩
theorem dj_CC_CA : ∀ p ∈ CC.tbl, CA.tbl.lookup p.1 = none := by decide +kernel
theorem dg_CC_CA : ∀ p ∈ CC.gls, CA.gls.lookup p.1 = none := by decide +kernel
theorem dj_CC_CB : ∀ p ∈ CC.tbl, CB.tbl.lookup p.1 = none := by decide +kernel
theorem dg_CC_CB : ∀ p ∈ CC.gls, CB.gls.lookup p.1 = none := by decide +kernel
theorem has_CC : CC.Has T gl := ⟨fun f c h => by unfold T; rw [dj_CC_CA _ (PySem.mem_of_lookup h), dj_CC_CB _ (PySem.mem_of_lookup h), h]; rfl, fun f c h => by unfold gl; rw [dg_CC_CA _ (PySem.mem_of_lookup h), dg_CC_CB _ (PySem.mem_of_lookup h), h]; rfl⟩
theorem dj_CD_CA : ∀ p ∈ CD.tbl, CA.tbl.lookup p.1 = none := by decide +kernel
theorem dg_CD_CA : ∀ p ∈ CD.gls, CA.gls.lookup p.1 = none := by decide +kernel
theorem dj_CD_CB : ∀ p ∈ CD.tbl, CB.tbl.lookup p.1 = none := by decide +kernel
theorem dg_CD_CB : ∀ p ∈ CD.gls, CB.gls.lookup p.1 = none := by decide +kernel
theorem dj_CD_CC : ∀ p ∈ CD.tbl, CC.tbl.lookup p.1 = none := by decide +kernel
theorem dg_CD_CC : ∀ p ∈ CD.gls, CC.gls.lookup p.1 = none := by decide +kernel
theorem has_CD : CD.Has T gl := ⟨fun f c h => by unfold T; rw [dj_CD_CA _ (PySem.mem_of_lookup h), dj_CD_CB _ (PySem.mem_of_lookup h), dj_CD_CC _ (PySem.mem_of_lookup h), h]; rfl, fun f c h => by unfold gl; rw [dg_CD_CA _ (PySem.mem_of_lookup h), dg_CD_CB _ (PySem.mem_of_lookup h), dg_CD_CC _ (PySem.mem_of_lookup h), h]; rfl⟩
theorem T_common : T "common" = some c_common := has_CA.fn _ _ CA.look_common
theorem T_low : T "low" = some c_low := has_CA.fn _ _ CA.look_low
theorem T_is_part : T "is_part" = some c_is_part := has_CA.fn _ _ CA.look_is_part
theorem T_part : T "part" = some c_part := has_CD.fn _ _ CD.look_part
theorem T_law_bag : T "_law_bag" = some c_law_bag := has_CA.fn _ _ CA.look_law_bag
theorem T_law_pull : T "_law_pull" = some c_law_pull := has_CA.fn _ _ CA.look_law_pull
theorem T_law_of : T "_law_of" = some c_law_of := has_CD.fn _ _ CD.look_law_of
theorem T_law_far : T "_law_far" = some c_law_far := has_CD.fn _ _ CD.look_law_far
theorem T_law_gcd : T "_law_gcd" = some c_law_gcd := has_CA.fn _ _ CA.look_law_gcd
theorem T_law_low : T "_law_low" = some c_law_low := has_CA.fn _ _ CA.look_law_low
theorem T_law_same : T "_law_same" = some c_law_same := has_CB.fn _ _ CB.look_law_same
theorem T_law_part : T "_law_part" = some c_law_part := has_CB.fn _ _ CB.look_law_part
theorem T_law_is_part : T "_law_is_part" = some c_law_is_part := has_CC.fn _ _ CC.look_law_is_part
theorem T_law : T "law" = some c_law := by
  unfold T
  rw [show CA.tbl.lookup ("law" : Str) = none from lookup_no (by decide +kernel), show CB.tbl.lookup ("law" : Str) = none from lookup_no (by decide +kernel), show CC.tbl.lookup ("law" : Str) = none from lookup_no (by decide +kernel), show CD.tbl.lookup ("law" : Str) = none from lookup_no (by decide +kernel)]
  rfl
theorem glx_BadPart : gl "BadPart" = some (.exc "BadPart" []) := by
  unfold gl
  rw [show CA.gls.lookup ("BadPart" : Str) = none from lookup_no (by decide +kernel), show CB.gls.lookup ("BadPart" : Str) = none from lookup_no (by decide +kernel), show CC.gls.lookup ("BadPart" : Str) = none from lookup_no (by decide +kernel), show CD.gls.lookup ("BadPart" : Str) = none from lookup_no (by decide +kernel), show gls0.lookup ("BadPart" : Str) = none from lookup_no (by decide +kernel)]
  rfl
theorem kb_cases {P : Str → Prop} {d : Nat} (h : ∀ c ∈ (["BadPart"] : List Str), P c) : ∀ c, kbG (GG T gl d) c = true → P c := fun c hc => by
  obtain ⟨c2, fs, e⟩ := kbG_inv hc
  have e : gl c = some (.exc c2 fs) := e
  unfold gl at e
  replace e := or_noexc (show ∀ p ∈ CA.gls, isExcD p.2 = false by decide +kernel) e
  replace e := or_noexc (show ∀ p ∈ CB.gls, isExcD p.2 = false by decide +kernel) e
  replace e := or_noexc (show ∀ p ∈ CC.gls, isExcD p.2 = false by decide +kernel) e
  replace e := or_noexc (show ∀ p ∈ CD.gls, isExcD p.2 = false by decide +kernel) e
  replace e := or_noexc (show ∀ p ∈ gls0, isExcD p.2 = false by decide +kernel) e
  exact h c (by have := List.mem_map_of_mem (f := (·.1)) (PySem.mem_of_lookup e); exact this)
end K01

namespace K01
open PySem PyD CA CB CC CD
theorem law_true : ∀ ns : List Int, ns.length ≤ 63 → (∀ z ∈ ns, Builtin.Int.intBits z ≤ 1048576) → ∃ S, callN K01.T K01.gl 60 "law" [.scr ns] [] = .ok (.bl true) S := by
  intro ns hn _
  have h := has_CA
  have h2 := has_CB
  have h3 := has_CC
  have h4 := has_CD
  have hk : kbG (GG T gl 59) "BadPart" = true := kbG_of glx_BadPart
  obtain ⟨S0, e0, l0, hB0, hS0⟩ := lbag_sp h ns hn 59 (by omega)
  have hf := f_inv (g := GG T gl 59) (tg := .one 2) (it := .rng (.cons (.int 12) .nil)) (a := l_law_0)
    (ρ := [some (.scr ns), some (.ref 0), none, none, none, none, none, none, none]) (S := S0) (S1 := S0) (t := ⟨PyD.upTo 0 12, []⟩)
    (fun xs ρ S' => ∃ j x2 x3 x4 x5 x6 x7 x8, xs.length + j = 12 ∧ ρ = [some (.scr ns), some (.ref 0), x2, x3, x4, x5, x6, x7, x8] ∧ BagAt S' 0 (100 * j) ∧ Clo S')
    (by have : rngD [.int 12] = some (0, 12) := rng0 (n := 12) (by omega)
        simp only [evE, evEs, evAnd, evOr, evL.eq_1, evL.eq_2, evL.eq_4, evL.eq_5, evL.eq_6, meT, meD, isLr, get_last, evI, evC.eq_1, evC.eq_2, evC.eq_3, evC.eq_4, evC.eq_5, evC.eq_6, evC.eq_7, evC.eq_8, evC.eq_9, evC.eq_10, evC.eq_13, evC.eq_14, evC.eq_15, evC.eq_16, evCs, GG_call, GG_raw, GG_glob, R.ne_ok, R.bd_ok, R.bd_err, R.bd_bad, opt_some, opt_none, R.th, Out.th, PyD.finish, PyD.start, List.map, List.length, List.replicate, List.getD_cons_zero, List.getD_cons_succ, List.set_cons_zero, List.set_cons_succ, List.cons_append, List.nil_append, if_true, if_false, Bool.false_eq_true, E.isNon, Option.map_some, Option.map_none, Option.bind_some, setAll, List.zip_cons_cons, List.zip_nil_left, List.foldl_cons, List.foldl_nil, truthB, cmpEqI, cmpNeI, cmpLt, cmpLe, cmpGt, cmpGe, isNon, binAdd, binSub, Bool.not_true, Bool.not_false, decide_true, decide_false, reduceCtorEq, Nat.reduceAdd, Nat.reduceSub, Nat.sub_self, Nat.sub_zero, Nat.zero_add, ofI, idx0, idx1, idx2, biAbs, biLenT, biLenL, biTupL, biTupT, sz0, sz1, sz2, sz3, sz4, sz5, sz6, sz7, sz8, this]) (fun _ _ _ _ => still_nil _ _) ?step ⟨0, none, none, none, none, none, none, none, rfl, rfl, hB0, hS0⟩
  case step =>
    rintro x xs ρ S ⟨j, x2, x3, x4, x5, x6, x7, x8, hx, rfl, hB, hS⟩
    simp only [List.length_cons] at hx
    obtain ⟨i, S1, p1, hi, hB1, f1⟩ := lfar_sp h h4 S hB (by omega) 59 (by omega)
    obtain ⟨d, S2, p2, hd, hB2, f2⟩ := lfar_sp h h4 S1 hB1 (by omega) 59 (by omega)
    have hS2 := f2.clo (f1.clo hS)
    obtain ⟨q, S3, p3, hq, hB3, f3⟩ := lpart_sp h h2 S2 hB2 (by omega) 59 (by omega)
    obtain ⟨r, S4, p4, hr, hB4, f4⟩ := pull_sp h S3 hB3 (by omega) (m := 3) (by omega) (by omega) 59 (by omega)
    simp only [Int.ofNat_eq_natCast, Int.cast_ofNat_Int] at p4
    have m1 := binMul S4 (i := q.num) (j := 1 + (r : Int)) (mulOk 97 3 hq.1 (by omega) (by omega))
    have m2 := binMul S4 (i := (q.den : Int)) (j := 1 + (r : Int)) (mulOk 97 3 (by have := hq.2; omega) (by omega) (by omega))
    have hs : slD S4 (pt q) none (some 1) = some (.tup [.int q.num]) := rfl
    have hc : bin S4 .add (pt q) (.tup [.int 1]) = some (.tup [.int q.num, .int q.den, .int 1]) := binCat S4 (show 2 + 1 ≤ 100000 by omega)
    obtain ⟨z, S5, p5, hz, hB5, f5⟩ := lof_sp h h4 S4 hB4 (by omega) [pt q, .tup [.int (q.num * (1 + (r : Int))), .int (q.den * (1 + (r : Int)))], .tup [.int q.num, .int (0 - (q.den : Int))], .tup [.int q.num], .tup [.int q.num, .int q.den, .int 1], .tup [], .tup [.int i, .int d]] (by simp) (by simp) 59 (by omega)
    have hz2 : ∃ l : List Int, z = itup l ∧ l.length ≤ 3 := by
      simp only [List.mem_cons, List.not_mem_nil, or_false] at hz
      rcases hz with rfl | rfl | rfl | rfl | rfl | rfl | rfl
      · exact ⟨[_, _], rfl, by simp⟩
      · exact ⟨[_, _], rfl, by simp⟩
      · exact ⟨[_, _], rfl, by simp⟩
      · exact ⟨[_], rfl, by simp⟩
      · exact ⟨[_, _, _], rfl, by simp⟩
      · exact ⟨[], rfl, by simp⟩
      · exact ⟨[_, _], rfl, by simp⟩
    obtain ⟨l, rfl, hl⟩ := hz2
    have hS5 := f5.clo (f4.clo (f3.clo hS2))
    have i1 := is_part_gen h S5 l (by omega) 59 (by omega)
    have i2 := law_is_part_gen h h3 S5 l (by omega) 59 (by omega)
    have s1 := same_sp h2 S5 59 (.bl (isP l)) rfl (by simp only [D.dep]; omega)
    have k1 : callN T gl 59 "part" [.int i, .int 1] S2 = .ok (.tup [.int i, .int 1]) S2 := by
      have := part_sp h h4 S2 i 1 59 5 (by omega) (by omega) (by omega) (by omega)
      rw [show ((1 : Nat) : Int) = 1 from rfl] at this
      rw [this, show Rat.normalize i 1 (by omega) = (i : Rat) from Rat.normalize_eq_mkRat _ ▸ Rat.mkRat_one i]
      rfl
    have s2 := same_sp h2 S2 59 (.tup [.int i, .int 1]) rfl (by simp only [D.dep, D.deps]; omega)
    have key : ∃ v, (∃ w, triedR (kbG (GG T gl 59)) (callN T gl 59 "part" [.int i, .int d] S2) = .ok v S2 ∧ w = v ∧ (if 0 < d then callN T gl 59 "_law_low" [.int i, .int d] S2 = (.ok ((match v with | .tup [_, y] => y | y => y)) S2) ∧ v = .tup [.str "told", (match v with | .tup [_, y] => y | y => y)] else v = .tup [.str "BadPart"])) ∧ callN T gl 59 "_law_same" [v, v] S2 = .ok (.bl true) S2 := by
      by_cases c : 0 < d
      · have e1 := part_sp h h4 S2 i d.natAbs 59 100 (by omega) hd (by omega) (by omega)
        have e2 := llow_sp h S2 i d.natAbs 59 100 (by omega) hd (by omega) (by omega)
        rw [natAbs_pos c] at e1 e2
        refine ⟨.tup [.str "told", pt (Rat.normalize i d.natAbs (by omega))], ⟨_, by rw [e1, tried_ok], rfl, ?_⟩, same_sp h2 S2 59 _ (pln_told rfl) (by simp only [D.dep, D.deps, pt_dep]; omega)⟩
        rw [if_pos c]
        exact ⟨e2, rfl⟩
      · refine ⟨.tup [.str "BadPart"], ⟨_, by rw [part_no h4 S2 i d 59 (by omega) (by omega), tried_err S2 hk], rfl, ?_⟩, same_sp h2 S2 59 _ (by decide +kernel) (by simp only [D.dep, D.deps]; omega)⟩
        rw [if_neg c]
    obtain ⟨v, ⟨w, t1, _, t2⟩, s3⟩ := key
    have due : evC (GG T gl 59) (.set 5 (.ite (.cmp .gt (.var 4) (.int 0)) (.tup (.cons (.str "told") (.cons (.call false "_law_low" (.cons (.var 3) (.cons (.var 4) .nil))) .nil))) (.tup (.cons (.str "BadPart") .nil)))) [some (.scr ns), some (.ref 0), some x, some (.int i), some (.int d), x5, x6, x7, x8] S2 = .nx [some (.scr ns), some (.ref 0), some x, some (.int i), some (.int d), some v, x6, x7, x8] S2 := by
      by_cases c : 0 < d
      · rw [if_pos c] at t2
        obtain ⟨t2, t3⟩ := t2
        simp only [evE, evEs, evAnd, evOr, evL.eq_1, evL.eq_2, evL.eq_4, evL.eq_5, evL.eq_6, meT, meD, isLr, get_last, evI, evC.eq_1, evC.eq_2, evC.eq_3, evC.eq_4, evC.eq_5, evC.eq_6, evC.eq_7, evC.eq_8, evC.eq_9, evC.eq_10, evC.eq_13, evC.eq_14, evC.eq_15, evC.eq_16, evCs, GG_call, GG_raw, GG_glob, R.ne_ok, R.bd_ok, R.bd_err, R.bd_bad, opt_some, opt_none, R.th, Out.th, PyD.finish, PyD.start, List.map, List.length, List.replicate, List.getD_cons_zero, List.getD_cons_succ, List.set_cons_zero, List.set_cons_succ, List.cons_append, List.nil_append, if_true, if_false, Bool.false_eq_true, E.isNon, Option.map_some, Option.map_none, Option.bind_some, setAll, List.zip_cons_cons, List.zip_nil_left, List.foldl_cons, List.foldl_nil, truthB, cmpEqI, cmpNeI, cmpLt, cmpLe, cmpGt, cmpGe, isNon, binAdd, binSub, Bool.not_true, Bool.not_false, decide_true, decide_false, reduceCtorEq, Nat.reduceAdd, Nat.reduceSub, Nat.sub_self, Nat.sub_zero, Nat.zero_add, ofI, idx0, idx1, idx2, biAbs, biLenT, biLenL, biTupL, biTupT, sz0, sz1, sz2, sz3, sz4, sz5, sz6, sz7, sz8, decT c, t2]
        rw [← t3]
      · rw [if_neg c] at t2
        subst t2
        simp only [evE, evEs, evAnd, evOr, evL.eq_1, evL.eq_2, evL.eq_4, evL.eq_5, evL.eq_6, meT, meD, isLr, get_last, evI, evC.eq_1, evC.eq_2, evC.eq_3, evC.eq_4, evC.eq_5, evC.eq_6, evC.eq_7, evC.eq_8, evC.eq_9, evC.eq_10, evC.eq_13, evC.eq_14, evC.eq_15, evC.eq_16, evCs, GG_call, GG_raw, GG_glob, R.ne_ok, R.bd_ok, R.bd_err, R.bd_bad, opt_some, opt_none, R.th, Out.th, PyD.finish, PyD.start, List.map, List.length, List.replicate, List.getD_cons_zero, List.getD_cons_succ, List.set_cons_zero, List.set_cons_succ, List.cons_append, List.nil_append, if_true, if_false, Bool.false_eq_true, E.isNon, Option.map_some, Option.map_none, Option.bind_some, setAll, List.zip_cons_cons, List.zip_nil_left, List.foldl_cons, List.foldl_nil, truthB, cmpEqI, cmpNeI, cmpLt, cmpLe, cmpGt, cmpGe, isNon, binAdd, binSub, Bool.not_true, Bool.not_false, decide_true, decide_false, reduceCtorEq, Nat.reduceAdd, Nat.reduceSub, Nat.sub_self, Nat.sub_zero, Nat.zero_add, ofI, idx0, idx1, idx2, biAbs, biLenT, biLenL, biTupL, biTupT, sz0, sz1, sz2, sz3, sz4, sz5, sz6, sz7, sz8, decF c]
    refine ⟨[some (.scr ns), some (.ref 0), some x, x3, x4, x5, x6, x7, x8], [some (.scr ns), some (.ref 0), some x, some (.int i), some (.int d), some v, some (pt q), some (.int (1 + r)), some (itup l)], S5, rfl, ?_, j + 1, _, _, _, _, _, _, _, by omega, rfl, hB5.mono (by omega), hS5⟩
    have b1 : evC (GG T gl 59) (.stg [3, 4] (.tup (.cons (.call false "_law_far" (.cons (.var 1) .nil)) (.cons (.call false "_law_far" (.cons (.var 1) .nil)) .nil)))) [some (.scr ns), some (.ref 0), some x, x3, x4, x5, x6, x7, x8] S = .nx [some (.scr ns), some (.ref 0), some x, some (.int i), some (.int d), x5, x6, x7, x8] S2 := by
      have hst : setTg (.many [3, 4]) (.tup [.int i, .int d]) [some (.scr ns), some (.ref 0), some x, x3, x4, x5, x6, x7, x8] = some [some (.scr ns), some (.ref 0), some x, some (.int i), some (.int d), x5, x6, x7, x8] := need_of rfl
      simp only [evE, evEs, evAnd, evOr, evL.eq_1, evL.eq_2, evL.eq_4, evL.eq_5, evL.eq_6, meT, meD, isLr, get_last, evI, evC.eq_1, evC.eq_2, evC.eq_3, evC.eq_4, evC.eq_5, evC.eq_6, evC.eq_7, evC.eq_8, evC.eq_9, evC.eq_10, evC.eq_13, evC.eq_14, evC.eq_15, evC.eq_16, evCs, GG_call, GG_raw, GG_glob, R.ne_ok, R.bd_ok, R.bd_err, R.bd_bad, opt_some, opt_none, R.th, Out.th, PyD.finish, PyD.start, List.map, List.length, List.replicate, List.getD_cons_zero, List.getD_cons_succ, List.set_cons_zero, List.set_cons_succ, List.cons_append, List.nil_append, if_true, if_false, Bool.false_eq_true, E.isNon, Option.map_some, Option.map_none, Option.bind_some, setAll, List.zip_cons_cons, List.zip_nil_left, List.foldl_cons, List.foldl_nil, truthB, cmpEqI, cmpNeI, cmpLt, cmpLe, cmpGt, cmpGe, isNon, binAdd, binSub, Bool.not_true, Bool.not_false, decide_true, decide_false, reduceCtorEq, Nat.reduceAdd, Nat.reduceSub, Nat.sub_self, Nat.sub_zero, Nat.zero_add, ofI, idx0, idx1, idx2, biAbs, biLenT, biLenL, biTupL, biTupT, sz0, sz1, sz2, sz3, sz4, sz5, sz6, sz7, sz8, evC, p1, p2, hst]
    unfold l_law_0
    rw [cs_nx b1, cs_nx due]
    simp only [evE, evEs, evAnd, evOr, evL.eq_1, evL.eq_2, evL.eq_4, evL.eq_5, evL.eq_6, meT, meD, isLr, get_last, evI, evC.eq_1, evC.eq_2, evC.eq_3, evC.eq_4, evC.eq_5, evC.eq_6, evC.eq_7, evC.eq_8, evC.eq_9, evC.eq_10, evC.eq_13, evC.eq_14, evC.eq_15, evC.eq_16, evCs, GG_call, GG_raw, GG_glob, R.ne_ok, R.bd_ok, R.bd_err, R.bd_bad, opt_some, opt_none, R.th, Out.th, PyD.finish, PyD.start, List.map, List.length, List.replicate, List.getD_cons_zero, List.getD_cons_succ, List.set_cons_zero, List.set_cons_succ, List.cons_append, List.nil_append, if_true, if_false, Bool.false_eq_true, E.isNon, Option.map_some, Option.map_none, Option.bind_some, setAll, List.zip_cons_cons, List.zip_nil_left, List.foldl_cons, List.foldl_nil, truthB, cmpEqI, cmpNeI, cmpLt, cmpLe, cmpGt, cmpGe, isNon, binAdd, binSub, Bool.not_true, Bool.not_false, decide_true, decide_false, reduceCtorEq, Nat.reduceAdd, Nat.reduceSub, Nat.sub_self, Nat.sub_zero, Nat.zero_add, ofI, idx0, idx1, idx2, biAbs, biLenT, biLenL, biTupL, biTupT, sz0, sz1, sz2, sz3, sz4, sz5, sz6, sz7, sz8, arrange, List.getElem?_cons_zero, List.getElem?_cons_succ, t1, s3, k1, s2, p3, p4, pt_num, pt_den, m1, m2, hs, hc, p5, i1, i2, s1]
  obtain ⟨ρ2, S2, hev, _⟩ := hf
  refine ⟨S2, ?_⟩
  rw [callN_succ, T_law]
  simp only [c_law, evE, evEs, evAnd, evOr, evL.eq_1, evL.eq_2, evL.eq_4, evL.eq_5, evL.eq_6, meT, meD, isLr, get_last, evI, evC.eq_1, evC.eq_2, evC.eq_3, evC.eq_4, evC.eq_5, evC.eq_6, evC.eq_7, evC.eq_8, evC.eq_9, evC.eq_10, evC.eq_13, evC.eq_14, evC.eq_15, evC.eq_16, evCs, GG_call, GG_raw, GG_glob, R.ne_ok, R.bd_ok, R.bd_err, R.bd_bad, opt_some, opt_none, R.th, Out.th, PyD.finish, PyD.start, List.map, List.length, List.replicate, List.getD_cons_zero, List.getD_cons_succ, List.set_cons_zero, List.set_cons_succ, List.cons_append, List.nil_append, if_true, if_false, Bool.false_eq_true, E.isNon, Option.map_some, Option.map_none, Option.bind_some, setAll, List.zip_cons_cons, List.zip_nil_left, List.foldl_cons, List.foldl_nil, truthB, cmpEqI, cmpNeI, cmpLt, cmpLe, cmpGt, cmpGe, isNon, binAdd, binSub, Bool.not_true, Bool.not_false, decide_true, decide_false, reduceCtorEq, Nat.reduceAdd, Nat.reduceSub, Nat.sub_self, Nat.sub_zero, Nat.zero_add, ofI, idx0, idx1, idx2, biAbs, biLenT, biLenL, biTupL, biTupT, sz0, sz1, sz2, sz3, sz4, sz5, sz6, sz7, sz8, e0, hev]
end K01

namespace K01
open PySem PySem.Spec PyProof.Rows L2 PyD CA CB CC CD
def topS (i : Nat) : Stmt := PySem.Challenge.pw_gimbalrow_k01_parts_made.main.body.getD i (.Pass ⟨0, 0, 0, 0⟩)
abbrev s_common : Stmt := topS 31
abbrev s_low : Stmt := topS 32
abbrev s_is_part : Stmt := topS 33
abbrev s_part : Stmt := topS 34
abbrev s_law_bag : Stmt := topS 36
abbrev s_law_pull : Stmt := topS 37
abbrev s_law_of : Stmt := topS 38
abbrev s_law_far : Stmt := topS 39
abbrev s_law_gcd : Stmt := topS 40
abbrev s_law_low : Stmt := topS 41
abbrev s_law_same : Stmt := topS 42
abbrev s_law_part : Stmt := topS 45
abbrev s_law_is_part : Stmt := topS 46
abbrev s_law : Stmt := topS 47
abbrev s_law_tried : Stmt := topS 44
abbrev s_law_kin : Stmt := topS 43
def sigs : List (Str × Sig) := ("common", ⟨2, true, []⟩) ::
  ("low", ⟨2, true, []⟩) ::
  ("is_part", ⟨1, true, []⟩) ::
  ("part", ⟨2, true, [(0, ["under", "number"], [.k 1, .k 0]), (1, [], [.p 0, .d (.int 1)])]⟩) ::
  ("_law_bag", ⟨1, true, []⟩) ::
  ("_law_pull", ⟨2, true, []⟩) ::
  ("_law_of", ⟨2, true, []⟩) ::
  ("_law_far", ⟨1, true, []⟩) ::
  ("_law_gcd", ⟨2, true, []⟩) ::
  ("_law_low", ⟨2, true, []⟩) ::
  ("_law_same", ⟨2, true, []⟩) ::
  ("_law_part", ⟨1, true, []⟩) ::
  ("_law_is_part", ⟨1, true, []⟩) :: []
def sig (f : Str) : Option Sig := sigs.lookup f
def gls : List (Str × D) := []
def gB (x : Str) : Bool := gls.any fun p => p.1 == x
def xcs : List Str := ["BadPart"]
def xB (x : Str) : Bool := xcs.contains x
def N_common : List Str := ["one", "other"]
theorem sc_common : FnScope N_common ["one", "other"] (defScope s_common) := ⟨rfl, rfl, rfl, by decide +kernel, rfl, by decide +kernel, by decide +kernel⟩
theorem ck_common : chkCs ⟨N_common, (defScope s_common).names, sig, gB, xB, true, false, fun _ => false⟩ c_common.body (defBody s_common) = true := by decide +kernel
def N_low : List Str := ["number", "under", "by"]
theorem sc_low : FnScope N_low ["number", "under"] (defScope s_low) := ⟨rfl, rfl, rfl, by decide +kernel, rfl, by decide +kernel, by decide +kernel⟩
theorem ck_low : chkCs ⟨N_low, (defScope s_low).names, sig, gB, xB, true, false, fun _ => false⟩ c_low.body (defBody s_low) = true := by decide +kernel
def N_is_part : List Str := ["thing"]
theorem sc_is_part : FnScope N_is_part ["thing"] (defScope s_is_part) := ⟨rfl, rfl, rfl, by decide +kernel, rfl, by decide +kernel, by decide +kernel⟩
theorem ck_is_part : chkCs ⟨N_is_part, (defScope s_is_part).names, sig, gB, xB, true, false, fun _ => false⟩ c_is_part.body (defBody s_is_part) = true := by decide +kernel
def N_part : List Str := ["number", "under"]
theorem sc_part : FnScope N_part ["number", "under"] (defScope s_part) := ⟨rfl, rfl, rfl, by decide +kernel, rfl, by decide +kernel, by decide +kernel⟩
theorem ck_part : chkCs ⟨N_part, (defScope s_part).names, sig, gB, xB, true, false, fun _ => false⟩ c_part.body (defBody s_part) = true := by decide +kernel
def N_law_bag : List Str := ["_law_script", "_law_salt", "_law_cell"]
theorem sc_law_bag : FnScope N_law_bag ["_law_script"] (defScope s_law_bag) := ⟨rfl, rfl, rfl, by decide +kernel, rfl, by decide +kernel, by decide +kernel⟩
theorem ck_law_bag : chkCs ⟨N_law_bag, (defScope s_law_bag).names, sig, gB, xB, true, false, fun _ => false⟩ c_law_bag.body (defBody s_law_bag) = true := by decide +kernel
def N_law_pull : List Str := ["_law_bag_here", "_law_many", "_law_cell", "_law_digit", "_law_s", "_law_t"]
theorem sc_law_pull : FnScope N_law_pull ["_law_bag_here", "_law_many"] (defScope s_law_pull) := ⟨rfl, rfl, rfl, by decide +kernel, rfl, by decide +kernel, by decide +kernel⟩
theorem ck_law_pull : chkCs ⟨N_law_pull, (defScope s_law_pull).names, sig, gB, xB, true, false, fun _ => false⟩ c_law_pull.body (defBody s_law_pull) = true := by decide +kernel
def N_law_of : List Str := ["_law_bag_here", "_law_some"]
theorem sc_law_of : FnScope N_law_of ["_law_bag_here", "_law_some"] (defScope s_law_of) := ⟨rfl, rfl, rfl, by decide +kernel, rfl, by decide +kernel, by decide +kernel⟩
theorem ck_law_of : chkCs ⟨N_law_of, (defScope s_law_of).names, sig, gB, xB, true, false, fun _ => false⟩ c_law_of.body (defBody s_law_of) = true := by decide +kernel
def N_law_far : List Str := ["_law_bag_here", "_law_far_here"]
theorem sc_law_far : FnScope N_law_far ["_law_bag_here"] (defScope s_law_far) := ⟨rfl, rfl, rfl, by decide +kernel, rfl, by decide +kernel, by decide +kernel⟩
theorem ck_law_far : chkCs ⟨N_law_far, (defScope s_law_far).names, sig, gB, xB, true, false, fun _ => false⟩ c_law_far.body (defBody s_law_far) = true := by decide +kernel
def N_law_gcd : List Str := ["_law_a", "_law_b"]
theorem sc_law_gcd : FnScope N_law_gcd ["_law_a", "_law_b"] (defScope s_law_gcd) := ⟨rfl, rfl, rfl, by decide +kernel, rfl, by decide +kernel, by decide +kernel⟩
theorem ck_law_gcd : chkCs ⟨N_law_gcd, (defScope s_law_gcd).names, sig, gB, xB, true, false, fun _ => false⟩ c_law_gcd.body (defBody s_law_gcd) = true := by decide +kernel
def N_law_low : List Str := ["_law_num", "_law_den", "_law_by"]
theorem sc_law_low : FnScope N_law_low ["_law_num", "_law_den"] (defScope s_law_low) := ⟨rfl, rfl, rfl, by decide +kernel, rfl, by decide +kernel, by decide +kernel⟩
theorem ck_law_low : chkCs ⟨N_law_low, (defScope s_law_low).names, sig, gB, xB, true, false, fun _ => false⟩ c_law_low.body (defBody s_law_low) = true := by decide +kernel
def N_law_same : List Str := ["_law_got", "_law_due", "_law_a", "_law_b"]
theorem sc_law_same : FnScope N_law_same ["_law_got", "_law_due"] (defScope s_law_same) := ⟨rfl, rfl, rfl, by decide +kernel, rfl, by decide +kernel, by decide +kernel⟩
theorem ck_law_same : chkCs ⟨N_law_same, (defScope s_law_same).names, sig, gB, xB, true, false, fun _ => false⟩ c_law_same.body (defBody s_law_same) = true := by decide +kernel
def N_law_part : List Str := ["_law_bag_here", "_law_kind", "_law_den"]
theorem sc_law_part : FnScope N_law_part ["_law_bag_here"] (defScope s_law_part) := ⟨rfl, rfl, rfl, by decide +kernel, rfl, by decide +kernel, by decide +kernel⟩
theorem ck_law_part : chkCs ⟨N_law_part, (defScope s_law_part).names, sig, gB, xB, true, false, fun _ => false⟩ c_law_part.body (defBody s_law_part) = true := by decide +kernel
def N_law_is_part : List Str := ["_law_thing", "_law_a"]
theorem sc_law_is_part : FnScope N_law_is_part ["_law_thing"] (defScope s_law_is_part) := ⟨rfl, rfl, rfl, by decide +kernel, rfl, by decide +kernel, by decide +kernel⟩
theorem ck_law_is_part : chkCs ⟨N_law_is_part, (defScope s_law_is_part).names, sig, gB, xB, true, false, fun _ => false⟩ c_law_is_part.body (defBody s_law_is_part) = true := by decide +kernel
def N_law : List Str := ["_law_script", "_law_bag_here", "_law_spin", "_law_num", "_law_den", "_law_due", "_law_p", "_law_by", "_law_thing"]
theorem sc_law : FnScope N_law ["_law_script"] (defScope s_law) := ⟨rfl, rfl, rfl, by decide +kernel, rfl, by decide +kernel, by decide +kernel⟩
theorem ck_law : chkCs ⟨N_law, (defScope s_law).names, sig, gB, xB, true, true, fun _ => false⟩ c_law.body (defBody s_law) = true := by decide +kernel
def N_law_kin : List Str := ["_law_e", "_law_names", "_law_flags", "_law_found", "_law_name", "_law_flag", "_law_bases", "_law_mine"]
theorem sc_law_kin : FnScope N_law_kin ["_law_e"] (defScope s_law_kin) := ⟨rfl, rfl, rfl, by decide +kernel, rfl, by decide +kernel, by decide +kernel⟩
theorem ck_law_kin : chkCs ⟨N_law_kin, (defScope s_law_kin).names, fun _ => none, fun _ => false, fun _ => false, false, false, CK.xi⟩ CK.c_law_kin.body (defBody s_law_kin) = true := by decide +kernel
theorem sc_law_tried : FnScope ["_law_act", "_law_e"] ["_law_act"] (defScope s_law_tried) := ⟨rfl, rfl, rfl, by decide +kernel, rfl, by decide +kernel, by decide +kernel⟩
theorem tb_law_tried : triedB (defBody s_law_tried) = true := by decide +kernel
theorem nm_law_tried : (defScope s_law_tried).names.lookup ("_law_act" : Str) = some .local ∧ (defScope s_law_tried).names.lookup ("_law_e" : Str) = some .local ∧ (defScope s_law_tried).names.lookup ("GimbalError" : Str) = some .globalImplicit ∧ (defScope s_law_tried).names.lookup ("BookError" : Str) = some .globalImplicit ∧ (defScope s_law_tried).names.lookup ("_law_kin" : Str) = some .globalImplicit := by decide +kernel
end K01

namespace K01
open PySem PySem.Spec PyProof.Rows L2 PyD CA CB CC CD
variable {K : PySem.W.Frag} {mg : Str → Option Value} {h : Heap}
theorem fd_common [TB] {f0 : Addr} {oc0 kV0 dc0 pm0 cd0 ct0 : Value} {od0 an0 : Option Addr} {osl0 : Array (Option Value)} (qa0 : PySem.W.nsIn K mainGlobals "common" = some (some (.ref f0))) (ql0 : K.lookup f0 = some ⟨oc0, od0, .func (PySem.W.fnOf "common" "common" (defArgs s_common) (defBody s_common) (defScope s_common) .none kV0 dc0 pm0 an0 cd0 ct0), osl0⟩) (qc0 : PySem.W.codeIn K cd0 "common" = true) (qk0 : PySem.W.keepIn K (.ref f0) = true) : FunD K "common" "common" (defArgs s_common) (defBody s_common) (defScope s_common) [] [] f0 (PySem.W.fnOf "common" "common" (defArgs s_common) (defBody s_common) (defScope s_common) .none kV0 dc0 pm0 an0 cd0 ct0) :=
  ⟨⟨_, _, _, _, _, _, _, _, _, _, rfl, ql0, qc0, .inl ⟨rfl, rfl⟩, .inl rfl⟩, qk0⟩
theorem ff_common [TB] (X : K.In h) (G : h.Ns mainGlobals mg) {f0 : Addr} {oc0 kV0 dc0 pm0 cd0 ct0 : Value} {od0 an0 : Option Addr} {osl0 : Array (Option Value)} (qa0 : PySem.W.nsIn K mainGlobals "common" = some (some (.ref f0))) (ql0 : K.lookup f0 = some ⟨oc0, od0, .func (PySem.W.fnOf "common" "common" (defArgs s_common) (defBody s_common) (defScope s_common) .none kV0 dc0 pm0 an0 cd0 ct0), osl0⟩) (qc0 : PySem.W.codeIn K cd0 "common" = true) (qk0 : PySem.W.keepIn K (.ref f0) = true) : FnFacts K mg sig gB xB "common" c_common ⟨2, true, []⟩ :=
  have FF := fd_common qa0 ql0 qc0 qk0
  ⟨defArgs s_common, defBody s_common, defScope s_common, [], [], f0, _, N_common, ["one", "other"], FF, sc_common, PySem.W.mg_of X G qa0, rfl, rfl, rfl, ck_common, fun _ => .all fun us hl => match us, hl with | [_, _], _ => rfl, alln⟩
theorem fd_low [TB] {f1 : Addr} {oc1 kV1 dc1 pm1 cd1 ct1 : Value} {od1 an1 : Option Addr} {osl1 : Array (Option Value)} (qa1 : PySem.W.nsIn K mainGlobals "low" = some (some (.ref f1))) (ql1 : K.lookup f1 = some ⟨oc1, od1, .func (PySem.W.fnOf "low" "low" (defArgs s_low) (defBody s_low) (defScope s_low) .none kV1 dc1 pm1 an1 cd1 ct1), osl1⟩) (qc1 : PySem.W.codeIn K cd1 "low" = true) (qk1 : PySem.W.keepIn K (.ref f1) = true) : FunD K "low" "low" (defArgs s_low) (defBody s_low) (defScope s_low) [] [] f1 (PySem.W.fnOf "low" "low" (defArgs s_low) (defBody s_low) (defScope s_low) .none kV1 dc1 pm1 an1 cd1 ct1) :=
  ⟨⟨_, _, _, _, _, _, _, _, _, _, rfl, ql1, qc1, .inl ⟨rfl, rfl⟩, .inl rfl⟩, qk1⟩
theorem ff_low [TB] (X : K.In h) (G : h.Ns mainGlobals mg) {f1 : Addr} {oc1 kV1 dc1 pm1 cd1 ct1 : Value} {od1 an1 : Option Addr} {osl1 : Array (Option Value)} (qa1 : PySem.W.nsIn K mainGlobals "low" = some (some (.ref f1))) (ql1 : K.lookup f1 = some ⟨oc1, od1, .func (PySem.W.fnOf "low" "low" (defArgs s_low) (defBody s_low) (defScope s_low) .none kV1 dc1 pm1 an1 cd1 ct1), osl1⟩) (qc1 : PySem.W.codeIn K cd1 "low" = true) (qk1 : PySem.W.keepIn K (.ref f1) = true) : FnFacts K mg sig gB xB "low" c_low ⟨2, true, []⟩ :=
  have FF := fd_low qa1 ql1 qc1 qk1
  ⟨defArgs s_low, defBody s_low, defScope s_low, [], [], f1, _, N_low, ["number", "under"], FF, sc_low, PySem.W.mg_of X G qa1, rfl, rfl, rfl, ck_low, fun _ => .all fun us hl => match us, hl with | [_, _], _ => rfl, alln⟩
theorem fd_is_part [TB] {f2 : Addr} {oc2 kV2 dc2 pm2 cd2 ct2 : Value} {od2 an2 : Option Addr} {osl2 : Array (Option Value)} (qa2 : PySem.W.nsIn K mainGlobals "is_part" = some (some (.ref f2))) (ql2 : K.lookup f2 = some ⟨oc2, od2, .func (PySem.W.fnOf "is_part" "is_part" (defArgs s_is_part) (defBody s_is_part) (defScope s_is_part) .none kV2 dc2 pm2 an2 cd2 ct2), osl2⟩) (qc2 : PySem.W.codeIn K cd2 "is_part" = true) (qk2 : PySem.W.keepIn K (.ref f2) = true) : FunD K "is_part" "is_part" (defArgs s_is_part) (defBody s_is_part) (defScope s_is_part) [] [] f2 (PySem.W.fnOf "is_part" "is_part" (defArgs s_is_part) (defBody s_is_part) (defScope s_is_part) .none kV2 dc2 pm2 an2 cd2 ct2) :=
  ⟨⟨_, _, _, _, _, _, _, _, _, _, rfl, ql2, qc2, .inl ⟨rfl, rfl⟩, .inl rfl⟩, qk2⟩
theorem ff_is_part [TB] (X : K.In h) (G : h.Ns mainGlobals mg) {f2 : Addr} {oc2 kV2 dc2 pm2 cd2 ct2 : Value} {od2 an2 : Option Addr} {osl2 : Array (Option Value)} (qa2 : PySem.W.nsIn K mainGlobals "is_part" = some (some (.ref f2))) (ql2 : K.lookup f2 = some ⟨oc2, od2, .func (PySem.W.fnOf "is_part" "is_part" (defArgs s_is_part) (defBody s_is_part) (defScope s_is_part) .none kV2 dc2 pm2 an2 cd2 ct2), osl2⟩) (qc2 : PySem.W.codeIn K cd2 "is_part" = true) (qk2 : PySem.W.keepIn K (.ref f2) = true) : FnFacts K mg sig gB xB "is_part" c_is_part ⟨1, true, []⟩ :=
  have FF := fd_is_part qa2 ql2 qc2 qk2
  ⟨defArgs s_is_part, defBody s_is_part, defScope s_is_part, [], [], f2, _, N_is_part, ["thing"], FF, sc_is_part, PySem.W.mg_of X G qa2, rfl, rfl, rfl, ck_is_part, fun _ => .all fun us hl => match us, hl with | [_], _ => rfl, alln⟩
theorem fd_part [TB] {f3 : Addr} {oc3 kV3 dc3 pm3 cd3 ct3 : Value} {od3 an3 : Option Addr} {osl3 : Array (Option Value)} {td3_0 : Tok} {T3 : Addr} {cT3 : Value} {dT3 : Option Addr} {nT3 : Nat} {sT3 : Array (Option Value)} (qa3 : PySem.W.nsIn K mainGlobals "part" = some (some (.ref f3))) (ql3 : K.lookup f3 = some ⟨oc3, od3, .func (PySem.W.fnOf "part" "part" (defArgs s_part) (defBody s_part) (defScope s_part) (.ref T3) kV3 dc3 pm3 an3 cd3 ct3), osl3⟩) (qt3 : K.lookup T3 = some ⟨cT3, dT3, .seq #[(.int 1 td3_0)] nT3, sT3⟩) (qc3 : PySem.W.codeIn K cd3 "part" = true) (qk3 : PySem.W.keepIn K (.ref f3) = true) : FunD K "part" "part" (defArgs s_part) (defBody s_part) (defScope s_part) [(.int 1)] [] f3 (PySem.W.fnOf "part" "part" (defArgs s_part) (defBody s_part) (defScope s_part) (.ref T3) kV3 dc3 pm3 an3 cd3 ct3) :=
  ⟨⟨_, _, _, _, _, _, _, _, _, _, rfl, ql3, qc3, .inr ⟨by simp, T3, _, [(.int 1 td3_0)], nT3, rfl, qt3, rfl, (.cons ⟨_, rfl⟩ .nil)⟩, .inl rfl⟩, qk3⟩
theorem ff_part [TB] (X : K.In h) (G : h.Ns mainGlobals mg) {f3 : Addr} {oc3 kV3 dc3 pm3 cd3 ct3 : Value} {od3 an3 : Option Addr} {osl3 : Array (Option Value)} {td3_0 : Tok} {T3 : Addr} {cT3 : Value} {dT3 : Option Addr} {nT3 : Nat} {sT3 : Array (Option Value)} (qa3 : PySem.W.nsIn K mainGlobals "part" = some (some (.ref f3))) (ql3 : K.lookup f3 = some ⟨oc3, od3, .func (PySem.W.fnOf "part" "part" (defArgs s_part) (defBody s_part) (defScope s_part) (.ref T3) kV3 dc3 pm3 an3 cd3 ct3), osl3⟩) (qt3 : K.lookup T3 = some ⟨cT3, dT3, .seq #[(.int 1 td3_0)] nT3, sT3⟩) (qc3 : PySem.W.codeIn K cd3 "part" = true) (qk3 : PySem.W.keepIn K (.ref f3) = true) : FnFacts K mg sig gB xB "part" c_part ⟨2, true, [(0, ["under", "number"], [.k 1, .k 0]), (1, [], [.p 0, .d (.int 1)])]⟩ :=
  have FF := fd_part qa3 ql3 qt3 qc3 qk3
  ⟨defArgs s_part, defBody s_part, defScope s_part, [(.int 1)], [], f3, _, N_part, ["number", "under"], FF, sc_part, PySem.W.mg_of X G qa3, rfl, rfl, rfl, ck_part, fun _ => binds_T FF (by simp) fun _ _ _ _ _ _ _ us its h1 h2 => match us, h1, its, h2 with | [_, _], _, [_], _ => ⟨_, rfl, rfl⟩, allc (bnd_T FF (by simp) 0 ["under", "number"] [.k 1, .k 0] (fun us its ws => match us, its, ws with | [], [i0], [w0, w1] => [w1, w0] | _, _, _ => []) (fun _ _ _ _ _ _ _ us its ws h1 h2 h3 => match us, h1, its, h2, ws, h3 with | [], _, [_], _, [_, _], _ => ⟨_, rfl, rfl⟩) (fun us its ws h1 h2 h3 => match us, h1, its, h2, ws, h3 with | [], _, [i0], .cons r_i0 .nil, [w0, w1], _ => (.cons rfl (.cons rfl .nil)))) (allc (bnd_T FF (by simp) 1 [] [.p 0, .d (.int 1)] (fun us its ws => match us, its, ws with | [u0], [i0], [] => [u0, i0] | _, _, _ => []) (fun _ _ _ _ _ _ _ us its ws h1 h2 h3 => match us, h1, its, h2, ws, h3 with | [_], _, [_], _, [], _ => ⟨_, rfl, rfl⟩) (fun us its ws h1 h2 h3 => match us, h1, its, h2, ws, h3 with | [u0], _, [i0], .cons r_i0 .nil, [], _ => (.cons rfl (.cons ⟨_, r_i0, fun _ _ _ => .int _⟩ .nil)))) (alln))⟩
theorem fd_law_bag [TB] {f4 : Addr} {oc4 kV4 dc4 pm4 cd4 ct4 : Value} {od4 an4 : Option Addr} {osl4 : Array (Option Value)} (qa4 : PySem.W.nsIn K mainGlobals "_law_bag" = some (some (.ref f4))) (ql4 : K.lookup f4 = some ⟨oc4, od4, .func (PySem.W.fnOf "_law_bag" "_law_bag" (defArgs s_law_bag) (defBody s_law_bag) (defScope s_law_bag) .none kV4 dc4 pm4 an4 cd4 ct4), osl4⟩) (qc4 : PySem.W.codeIn K cd4 "_law_bag" = true) (qk4 : PySem.W.keepIn K (.ref f4) = true) : FunD K "_law_bag" "_law_bag" (defArgs s_law_bag) (defBody s_law_bag) (defScope s_law_bag) [] [] f4 (PySem.W.fnOf "_law_bag" "_law_bag" (defArgs s_law_bag) (defBody s_law_bag) (defScope s_law_bag) .none kV4 dc4 pm4 an4 cd4 ct4) :=
  ⟨⟨_, _, _, _, _, _, _, _, _, _, rfl, ql4, qc4, .inl ⟨rfl, rfl⟩, .inl rfl⟩, qk4⟩
theorem ff_law_bag [TB] (X : K.In h) (G : h.Ns mainGlobals mg) {f4 : Addr} {oc4 kV4 dc4 pm4 cd4 ct4 : Value} {od4 an4 : Option Addr} {osl4 : Array (Option Value)} (qa4 : PySem.W.nsIn K mainGlobals "_law_bag" = some (some (.ref f4))) (ql4 : K.lookup f4 = some ⟨oc4, od4, .func (PySem.W.fnOf "_law_bag" "_law_bag" (defArgs s_law_bag) (defBody s_law_bag) (defScope s_law_bag) .none kV4 dc4 pm4 an4 cd4 ct4), osl4⟩) (qc4 : PySem.W.codeIn K cd4 "_law_bag" = true) (qk4 : PySem.W.keepIn K (.ref f4) = true) : FnFacts K mg sig gB xB "_law_bag" c_law_bag ⟨1, true, []⟩ :=
  have FF := fd_law_bag qa4 ql4 qc4 qk4
  ⟨defArgs s_law_bag, defBody s_law_bag, defScope s_law_bag, [], [], f4, _, N_law_bag, ["_law_script"], FF, sc_law_bag, PySem.W.mg_of X G qa4, rfl, rfl, rfl, ck_law_bag, fun _ => .all fun us hl => match us, hl with | [_], _ => rfl, alln⟩
theorem fd_law_pull [TB] {f5 : Addr} {oc5 kV5 dc5 pm5 cd5 ct5 : Value} {od5 an5 : Option Addr} {osl5 : Array (Option Value)} (qa5 : PySem.W.nsIn K mainGlobals "_law_pull" = some (some (.ref f5))) (ql5 : K.lookup f5 = some ⟨oc5, od5, .func (PySem.W.fnOf "_law_pull" "_law_pull" (defArgs s_law_pull) (defBody s_law_pull) (defScope s_law_pull) .none kV5 dc5 pm5 an5 cd5 ct5), osl5⟩) (qc5 : PySem.W.codeIn K cd5 "_law_pull" = true) (qk5 : PySem.W.keepIn K (.ref f5) = true) : FunD K "_law_pull" "_law_pull" (defArgs s_law_pull) (defBody s_law_pull) (defScope s_law_pull) [] [] f5 (PySem.W.fnOf "_law_pull" "_law_pull" (defArgs s_law_pull) (defBody s_law_pull) (defScope s_law_pull) .none kV5 dc5 pm5 an5 cd5 ct5) :=
  ⟨⟨_, _, _, _, _, _, _, _, _, _, rfl, ql5, qc5, .inl ⟨rfl, rfl⟩, .inl rfl⟩, qk5⟩
theorem ff_law_pull [TB] (X : K.In h) (G : h.Ns mainGlobals mg) {f5 : Addr} {oc5 kV5 dc5 pm5 cd5 ct5 : Value} {od5 an5 : Option Addr} {osl5 : Array (Option Value)} (qa5 : PySem.W.nsIn K mainGlobals "_law_pull" = some (some (.ref f5))) (ql5 : K.lookup f5 = some ⟨oc5, od5, .func (PySem.W.fnOf "_law_pull" "_law_pull" (defArgs s_law_pull) (defBody s_law_pull) (defScope s_law_pull) .none kV5 dc5 pm5 an5 cd5 ct5), osl5⟩) (qc5 : PySem.W.codeIn K cd5 "_law_pull" = true) (qk5 : PySem.W.keepIn K (.ref f5) = true) : FnFacts K mg sig gB xB "_law_pull" c_law_pull ⟨2, true, []⟩ :=
  have FF := fd_law_pull qa5 ql5 qc5 qk5
  ⟨defArgs s_law_pull, defBody s_law_pull, defScope s_law_pull, [], [], f5, _, N_law_pull, ["_law_bag_here", "_law_many"], FF, sc_law_pull, PySem.W.mg_of X G qa5, rfl, rfl, rfl, ck_law_pull, fun _ => .all fun us hl => match us, hl with | [_, _], _ => rfl, alln⟩
theorem fd_law_of [TB] {f6 : Addr} {oc6 kV6 dc6 pm6 cd6 ct6 : Value} {od6 an6 : Option Addr} {osl6 : Array (Option Value)} (qa6 : PySem.W.nsIn K mainGlobals "_law_of" = some (some (.ref f6))) (ql6 : K.lookup f6 = some ⟨oc6, od6, .func (PySem.W.fnOf "_law_of" "_law_of" (defArgs s_law_of) (defBody s_law_of) (defScope s_law_of) .none kV6 dc6 pm6 an6 cd6 ct6), osl6⟩) (qc6 : PySem.W.codeIn K cd6 "_law_of" = true) (qk6 : PySem.W.keepIn K (.ref f6) = true) : FunD K "_law_of" "_law_of" (defArgs s_law_of) (defBody s_law_of) (defScope s_law_of) [] [] f6 (PySem.W.fnOf "_law_of" "_law_of" (defArgs s_law_of) (defBody s_law_of) (defScope s_law_of) .none kV6 dc6 pm6 an6 cd6 ct6) :=
  ⟨⟨_, _, _, _, _, _, _, _, _, _, rfl, ql6, qc6, .inl ⟨rfl, rfl⟩, .inl rfl⟩, qk6⟩
theorem ff_law_of [TB] (X : K.In h) (G : h.Ns mainGlobals mg) {f6 : Addr} {oc6 kV6 dc6 pm6 cd6 ct6 : Value} {od6 an6 : Option Addr} {osl6 : Array (Option Value)} (qa6 : PySem.W.nsIn K mainGlobals "_law_of" = some (some (.ref f6))) (ql6 : K.lookup f6 = some ⟨oc6, od6, .func (PySem.W.fnOf "_law_of" "_law_of" (defArgs s_law_of) (defBody s_law_of) (defScope s_law_of) .none kV6 dc6 pm6 an6 cd6 ct6), osl6⟩) (qc6 : PySem.W.codeIn K cd6 "_law_of" = true) (qk6 : PySem.W.keepIn K (.ref f6) = true) : FnFacts K mg sig gB xB "_law_of" c_law_of ⟨2, true, []⟩ :=
  have FF := fd_law_of qa6 ql6 qc6 qk6
  ⟨defArgs s_law_of, defBody s_law_of, defScope s_law_of, [], [], f6, _, N_law_of, ["_law_bag_here", "_law_some"], FF, sc_law_of, PySem.W.mg_of X G qa6, rfl, rfl, rfl, ck_law_of, fun _ => .all fun us hl => match us, hl with | [_, _], _ => rfl, alln⟩
theorem fd_law_far [TB] {f7 : Addr} {oc7 kV7 dc7 pm7 cd7 ct7 : Value} {od7 an7 : Option Addr} {osl7 : Array (Option Value)} (qa7 : PySem.W.nsIn K mainGlobals "_law_far" = some (some (.ref f7))) (ql7 : K.lookup f7 = some ⟨oc7, od7, .func (PySem.W.fnOf "_law_far" "_law_far" (defArgs s_law_far) (defBody s_law_far) (defScope s_law_far) .none kV7 dc7 pm7 an7 cd7 ct7), osl7⟩) (qc7 : PySem.W.codeIn K cd7 "_law_far" = true) (qk7 : PySem.W.keepIn K (.ref f7) = true) : FunD K "_law_far" "_law_far" (defArgs s_law_far) (defBody s_law_far) (defScope s_law_far) [] [] f7 (PySem.W.fnOf "_law_far" "_law_far" (defArgs s_law_far) (defBody s_law_far) (defScope s_law_far) .none kV7 dc7 pm7 an7 cd7 ct7) :=
  ⟨⟨_, _, _, _, _, _, _, _, _, _, rfl, ql7, qc7, .inl ⟨rfl, rfl⟩, .inl rfl⟩, qk7⟩
theorem ff_law_far [TB] (X : K.In h) (G : h.Ns mainGlobals mg) {f7 : Addr} {oc7 kV7 dc7 pm7 cd7 ct7 : Value} {od7 an7 : Option Addr} {osl7 : Array (Option Value)} (qa7 : PySem.W.nsIn K mainGlobals "_law_far" = some (some (.ref f7))) (ql7 : K.lookup f7 = some ⟨oc7, od7, .func (PySem.W.fnOf "_law_far" "_law_far" (defArgs s_law_far) (defBody s_law_far) (defScope s_law_far) .none kV7 dc7 pm7 an7 cd7 ct7), osl7⟩) (qc7 : PySem.W.codeIn K cd7 "_law_far" = true) (qk7 : PySem.W.keepIn K (.ref f7) = true) : FnFacts K mg sig gB xB "_law_far" c_law_far ⟨1, true, []⟩ :=
  have FF := fd_law_far qa7 ql7 qc7 qk7
  ⟨defArgs s_law_far, defBody s_law_far, defScope s_law_far, [], [], f7, _, N_law_far, ["_law_bag_here"], FF, sc_law_far, PySem.W.mg_of X G qa7, rfl, rfl, rfl, ck_law_far, fun _ => .all fun us hl => match us, hl with | [_], _ => rfl, alln⟩
theorem fd_law_gcd [TB] {f8 : Addr} {oc8 kV8 dc8 pm8 cd8 ct8 : Value} {od8 an8 : Option Addr} {osl8 : Array (Option Value)} (qa8 : PySem.W.nsIn K mainGlobals "_law_gcd" = some (some (.ref f8))) (ql8 : K.lookup f8 = some ⟨oc8, od8, .func (PySem.W.fnOf "_law_gcd" "_law_gcd" (defArgs s_law_gcd) (defBody s_law_gcd) (defScope s_law_gcd) .none kV8 dc8 pm8 an8 cd8 ct8), osl8⟩) (qc8 : PySem.W.codeIn K cd8 "_law_gcd" = true) (qk8 : PySem.W.keepIn K (.ref f8) = true) : FunD K "_law_gcd" "_law_gcd" (defArgs s_law_gcd) (defBody s_law_gcd) (defScope s_law_gcd) [] [] f8 (PySem.W.fnOf "_law_gcd" "_law_gcd" (defArgs s_law_gcd) (defBody s_law_gcd) (defScope s_law_gcd) .none kV8 dc8 pm8 an8 cd8 ct8) :=
  ⟨⟨_, _, _, _, _, _, _, _, _, _, rfl, ql8, qc8, .inl ⟨rfl, rfl⟩, .inl rfl⟩, qk8⟩
theorem ff_law_gcd [TB] (X : K.In h) (G : h.Ns mainGlobals mg) {f8 : Addr} {oc8 kV8 dc8 pm8 cd8 ct8 : Value} {od8 an8 : Option Addr} {osl8 : Array (Option Value)} (qa8 : PySem.W.nsIn K mainGlobals "_law_gcd" = some (some (.ref f8))) (ql8 : K.lookup f8 = some ⟨oc8, od8, .func (PySem.W.fnOf "_law_gcd" "_law_gcd" (defArgs s_law_gcd) (defBody s_law_gcd) (defScope s_law_gcd) .none kV8 dc8 pm8 an8 cd8 ct8), osl8⟩) (qc8 : PySem.W.codeIn K cd8 "_law_gcd" = true) (qk8 : PySem.W.keepIn K (.ref f8) = true) : FnFacts K mg sig gB xB "_law_gcd" c_law_gcd ⟨2, true, []⟩ :=
  have FF := fd_law_gcd qa8 ql8 qc8 qk8
  ⟨defArgs s_law_gcd, defBody s_law_gcd, defScope s_law_gcd, [], [], f8, _, N_law_gcd, ["_law_a", "_law_b"], FF, sc_law_gcd, PySem.W.mg_of X G qa8, rfl, rfl, rfl, ck_law_gcd, fun _ => .all fun us hl => match us, hl with | [_, _], _ => rfl, alln⟩
theorem fd_law_low [TB] {f9 : Addr} {oc9 kV9 dc9 pm9 cd9 ct9 : Value} {od9 an9 : Option Addr} {osl9 : Array (Option Value)} (qa9 : PySem.W.nsIn K mainGlobals "_law_low" = some (some (.ref f9))) (ql9 : K.lookup f9 = some ⟨oc9, od9, .func (PySem.W.fnOf "_law_low" "_law_low" (defArgs s_law_low) (defBody s_law_low) (defScope s_law_low) .none kV9 dc9 pm9 an9 cd9 ct9), osl9⟩) (qc9 : PySem.W.codeIn K cd9 "_law_low" = true) (qk9 : PySem.W.keepIn K (.ref f9) = true) : FunD K "_law_low" "_law_low" (defArgs s_law_low) (defBody s_law_low) (defScope s_law_low) [] [] f9 (PySem.W.fnOf "_law_low" "_law_low" (defArgs s_law_low) (defBody s_law_low) (defScope s_law_low) .none kV9 dc9 pm9 an9 cd9 ct9) :=
  ⟨⟨_, _, _, _, _, _, _, _, _, _, rfl, ql9, qc9, .inl ⟨rfl, rfl⟩, .inl rfl⟩, qk9⟩
theorem ff_law_low [TB] (X : K.In h) (G : h.Ns mainGlobals mg) {f9 : Addr} {oc9 kV9 dc9 pm9 cd9 ct9 : Value} {od9 an9 : Option Addr} {osl9 : Array (Option Value)} (qa9 : PySem.W.nsIn K mainGlobals "_law_low" = some (some (.ref f9))) (ql9 : K.lookup f9 = some ⟨oc9, od9, .func (PySem.W.fnOf "_law_low" "_law_low" (defArgs s_law_low) (defBody s_law_low) (defScope s_law_low) .none kV9 dc9 pm9 an9 cd9 ct9), osl9⟩) (qc9 : PySem.W.codeIn K cd9 "_law_low" = true) (qk9 : PySem.W.keepIn K (.ref f9) = true) : FnFacts K mg sig gB xB "_law_low" c_law_low ⟨2, true, []⟩ :=
  have FF := fd_law_low qa9 ql9 qc9 qk9
  ⟨defArgs s_law_low, defBody s_law_low, defScope s_law_low, [], [], f9, _, N_law_low, ["_law_num", "_law_den"], FF, sc_law_low, PySem.W.mg_of X G qa9, rfl, rfl, rfl, ck_law_low, fun _ => .all fun us hl => match us, hl with | [_, _], _ => rfl, alln⟩
theorem fd_law_same [TB] {f10 : Addr} {oc10 kV10 dc10 pm10 cd10 ct10 : Value} {od10 an10 : Option Addr} {osl10 : Array (Option Value)} (qa10 : PySem.W.nsIn K mainGlobals "_law_same" = some (some (.ref f10))) (ql10 : K.lookup f10 = some ⟨oc10, od10, .func (PySem.W.fnOf "_law_same" "_law_same" (defArgs s_law_same) (defBody s_law_same) (defScope s_law_same) .none kV10 dc10 pm10 an10 cd10 ct10), osl10⟩) (qc10 : PySem.W.codeIn K cd10 "_law_same" = true) (qk10 : PySem.W.keepIn K (.ref f10) = true) : FunD K "_law_same" "_law_same" (defArgs s_law_same) (defBody s_law_same) (defScope s_law_same) [] [] f10 (PySem.W.fnOf "_law_same" "_law_same" (defArgs s_law_same) (defBody s_law_same) (defScope s_law_same) .none kV10 dc10 pm10 an10 cd10 ct10) :=
  ⟨⟨_, _, _, _, _, _, _, _, _, _, rfl, ql10, qc10, .inl ⟨rfl, rfl⟩, .inl rfl⟩, qk10⟩
theorem ff_law_same [TB] (X : K.In h) (G : h.Ns mainGlobals mg) {f10 : Addr} {oc10 kV10 dc10 pm10 cd10 ct10 : Value} {od10 an10 : Option Addr} {osl10 : Array (Option Value)} (qa10 : PySem.W.nsIn K mainGlobals "_law_same" = some (some (.ref f10))) (ql10 : K.lookup f10 = some ⟨oc10, od10, .func (PySem.W.fnOf "_law_same" "_law_same" (defArgs s_law_same) (defBody s_law_same) (defScope s_law_same) .none kV10 dc10 pm10 an10 cd10 ct10), osl10⟩) (qc10 : PySem.W.codeIn K cd10 "_law_same" = true) (qk10 : PySem.W.keepIn K (.ref f10) = true) : FnFacts K mg sig gB xB "_law_same" c_law_same ⟨2, true, []⟩ :=
  have FF := fd_law_same qa10 ql10 qc10 qk10
  ⟨defArgs s_law_same, defBody s_law_same, defScope s_law_same, [], [], f10, _, N_law_same, ["_law_got", "_law_due"], FF, sc_law_same, PySem.W.mg_of X G qa10, rfl, rfl, rfl, ck_law_same, fun _ => .all fun us hl => match us, hl with | [_, _], _ => rfl, alln⟩
theorem fd_law_part [TB] {f11 : Addr} {oc11 kV11 dc11 pm11 cd11 ct11 : Value} {od11 an11 : Option Addr} {osl11 : Array (Option Value)} (qa11 : PySem.W.nsIn K mainGlobals "_law_part" = some (some (.ref f11))) (ql11 : K.lookup f11 = some ⟨oc11, od11, .func (PySem.W.fnOf "_law_part" "_law_part" (defArgs s_law_part) (defBody s_law_part) (defScope s_law_part) .none kV11 dc11 pm11 an11 cd11 ct11), osl11⟩) (qc11 : PySem.W.codeIn K cd11 "_law_part" = true) (qk11 : PySem.W.keepIn K (.ref f11) = true) : FunD K "_law_part" "_law_part" (defArgs s_law_part) (defBody s_law_part) (defScope s_law_part) [] [] f11 (PySem.W.fnOf "_law_part" "_law_part" (defArgs s_law_part) (defBody s_law_part) (defScope s_law_part) .none kV11 dc11 pm11 an11 cd11 ct11) :=
  ⟨⟨_, _, _, _, _, _, _, _, _, _, rfl, ql11, qc11, .inl ⟨rfl, rfl⟩, .inl rfl⟩, qk11⟩
theorem ff_law_part [TB] (X : K.In h) (G : h.Ns mainGlobals mg) {f11 : Addr} {oc11 kV11 dc11 pm11 cd11 ct11 : Value} {od11 an11 : Option Addr} {osl11 : Array (Option Value)} (qa11 : PySem.W.nsIn K mainGlobals "_law_part" = some (some (.ref f11))) (ql11 : K.lookup f11 = some ⟨oc11, od11, .func (PySem.W.fnOf "_law_part" "_law_part" (defArgs s_law_part) (defBody s_law_part) (defScope s_law_part) .none kV11 dc11 pm11 an11 cd11 ct11), osl11⟩) (qc11 : PySem.W.codeIn K cd11 "_law_part" = true) (qk11 : PySem.W.keepIn K (.ref f11) = true) : FnFacts K mg sig gB xB "_law_part" c_law_part ⟨1, true, []⟩ :=
  have FF := fd_law_part qa11 ql11 qc11 qk11
  ⟨defArgs s_law_part, defBody s_law_part, defScope s_law_part, [], [], f11, _, N_law_part, ["_law_bag_here"], FF, sc_law_part, PySem.W.mg_of X G qa11, rfl, rfl, rfl, ck_law_part, fun _ => .all fun us hl => match us, hl with | [_], _ => rfl, alln⟩
theorem fd_law_is_part [TB] {f12 : Addr} {oc12 kV12 dc12 pm12 cd12 ct12 : Value} {od12 an12 : Option Addr} {osl12 : Array (Option Value)} (qa12 : PySem.W.nsIn K mainGlobals "_law_is_part" = some (some (.ref f12))) (ql12 : K.lookup f12 = some ⟨oc12, od12, .func (PySem.W.fnOf "_law_is_part" "_law_is_part" (defArgs s_law_is_part) (defBody s_law_is_part) (defScope s_law_is_part) .none kV12 dc12 pm12 an12 cd12 ct12), osl12⟩) (qc12 : PySem.W.codeIn K cd12 "_law_is_part" = true) (qk12 : PySem.W.keepIn K (.ref f12) = true) : FunD K "_law_is_part" "_law_is_part" (defArgs s_law_is_part) (defBody s_law_is_part) (defScope s_law_is_part) [] [] f12 (PySem.W.fnOf "_law_is_part" "_law_is_part" (defArgs s_law_is_part) (defBody s_law_is_part) (defScope s_law_is_part) .none kV12 dc12 pm12 an12 cd12 ct12) :=
  ⟨⟨_, _, _, _, _, _, _, _, _, _, rfl, ql12, qc12, .inl ⟨rfl, rfl⟩, .inl rfl⟩, qk12⟩
theorem ff_law_is_part [TB] (X : K.In h) (G : h.Ns mainGlobals mg) {f12 : Addr} {oc12 kV12 dc12 pm12 cd12 ct12 : Value} {od12 an12 : Option Addr} {osl12 : Array (Option Value)} (qa12 : PySem.W.nsIn K mainGlobals "_law_is_part" = some (some (.ref f12))) (ql12 : K.lookup f12 = some ⟨oc12, od12, .func (PySem.W.fnOf "_law_is_part" "_law_is_part" (defArgs s_law_is_part) (defBody s_law_is_part) (defScope s_law_is_part) .none kV12 dc12 pm12 an12 cd12 ct12), osl12⟩) (qc12 : PySem.W.codeIn K cd12 "_law_is_part" = true) (qk12 : PySem.W.keepIn K (.ref f12) = true) : FnFacts K mg sig gB xB "_law_is_part" c_law_is_part ⟨1, true, []⟩ :=
  have FF := fd_law_is_part qa12 ql12 qc12 qk12
  ⟨defArgs s_law_is_part, defBody s_law_is_part, defScope s_law_is_part, [], [], f12, _, N_law_is_part, ["_law_thing"], FF, sc_law_is_part, PySem.W.mg_of X G qa12, rfl, rfl, rfl, ck_law_is_part, fun _ => .all fun us hl => match us, hl with | [_], _ => rfl, alln⟩
theorem tab_mk [TB] (X : K.In h) (G : h.Ns mainGlobals mg) {f0 : Addr} {oc0 kV0 dc0 pm0 cd0 ct0 : Value} {od0 an0 : Option Addr} {osl0 : Array (Option Value)} {f1 : Addr} {oc1 kV1 dc1 pm1 cd1 ct1 : Value} {od1 an1 : Option Addr} {osl1 : Array (Option Value)} {f2 : Addr} {oc2 kV2 dc2 pm2 cd2 ct2 : Value} {od2 an2 : Option Addr} {osl2 : Array (Option Value)} {f3 : Addr} {oc3 kV3 dc3 pm3 cd3 ct3 : Value} {od3 an3 : Option Addr} {osl3 : Array (Option Value)} {td3_0 : Tok} {T3 : Addr} {cT3 : Value} {dT3 : Option Addr} {nT3 : Nat} {sT3 : Array (Option Value)} {f4 : Addr} {oc4 kV4 dc4 pm4 cd4 ct4 : Value} {od4 an4 : Option Addr} {osl4 : Array (Option Value)} {f5 : Addr} {oc5 kV5 dc5 pm5 cd5 ct5 : Value} {od5 an5 : Option Addr} {osl5 : Array (Option Value)} {f6 : Addr} {oc6 kV6 dc6 pm6 cd6 ct6 : Value} {od6 an6 : Option Addr} {osl6 : Array (Option Value)} {f7 : Addr} {oc7 kV7 dc7 pm7 cd7 ct7 : Value} {od7 an7 : Option Addr} {osl7 : Array (Option Value)} {f8 : Addr} {oc8 kV8 dc8 pm8 cd8 ct8 : Value} {od8 an8 : Option Addr} {osl8 : Array (Option Value)} {f9 : Addr} {oc9 kV9 dc9 pm9 cd9 ct9 : Value} {od9 an9 : Option Addr} {osl9 : Array (Option Value)} {f10 : Addr} {oc10 kV10 dc10 pm10 cd10 ct10 : Value} {od10 an10 : Option Addr} {osl10 : Array (Option Value)} {f11 : Addr} {oc11 kV11 dc11 pm11 cd11 ct11 : Value} {od11 an11 : Option Addr} {osl11 : Array (Option Value)} {f12 : Addr} {oc12 kV12 dc12 pm12 cd12 ct12 : Value} {od12 an12 : Option Addr} {osl12 : Array (Option Value)} {f13 : Addr} {oc13 kV13 dc13 pm13 cd13 ct13 : Value} {od13 an13 : Option Addr} {osl13 : Array (Option Value)} {f14 : Addr} {oc14 kV14 dc14 pm14 cd14 ct14 : Value} {od14 an14 : Option Addr} {osl14 : Array (Option Value)} {f15 : Addr} {oc15 kV15 dc15 pm15 cd15 ct15 : Value} {od15 an15 : Option Addr} {osl15 : Array (Option Value)} {C0 : Addr}
    (qa0 : PySem.W.nsIn K mainGlobals "common" = some (some (.ref f0)))
    (ql0 : K.lookup f0 = some ⟨oc0, od0, .func (PySem.W.fnOf "common" "common" (defArgs s_common) (defBody s_common) (defScope s_common) .none kV0 dc0 pm0 an0 cd0 ct0), osl0⟩)
    (qc0 : PySem.W.codeIn K cd0 "common" = true)
    (qk0 : PySem.W.keepIn K (.ref f0) = true)
    (qa1 : PySem.W.nsIn K mainGlobals "low" = some (some (.ref f1)))
    (ql1 : K.lookup f1 = some ⟨oc1, od1, .func (PySem.W.fnOf "low" "low" (defArgs s_low) (defBody s_low) (defScope s_low) .none kV1 dc1 pm1 an1 cd1 ct1), osl1⟩)
    (qc1 : PySem.W.codeIn K cd1 "low" = true)
    (qk1 : PySem.W.keepIn K (.ref f1) = true)
    (qa2 : PySem.W.nsIn K mainGlobals "is_part" = some (some (.ref f2)))
    (ql2 : K.lookup f2 = some ⟨oc2, od2, .func (PySem.W.fnOf "is_part" "is_part" (defArgs s_is_part) (defBody s_is_part) (defScope s_is_part) .none kV2 dc2 pm2 an2 cd2 ct2), osl2⟩)
    (qc2 : PySem.W.codeIn K cd2 "is_part" = true)
    (qk2 : PySem.W.keepIn K (.ref f2) = true)
    (qa3 : PySem.W.nsIn K mainGlobals "part" = some (some (.ref f3)))
    (ql3 : K.lookup f3 = some ⟨oc3, od3, .func (PySem.W.fnOf "part" "part" (defArgs s_part) (defBody s_part) (defScope s_part) (.ref T3) kV3 dc3 pm3 an3 cd3 ct3), osl3⟩)
    (qt3 : K.lookup T3 = some ⟨cT3, dT3, .seq #[(.int 1 td3_0)] nT3, sT3⟩)
    (qc3 : PySem.W.codeIn K cd3 "part" = true)
    (qk3 : PySem.W.keepIn K (.ref f3) = true)
    (qa4 : PySem.W.nsIn K mainGlobals "_law_bag" = some (some (.ref f4)))
    (ql4 : K.lookup f4 = some ⟨oc4, od4, .func (PySem.W.fnOf "_law_bag" "_law_bag" (defArgs s_law_bag) (defBody s_law_bag) (defScope s_law_bag) .none kV4 dc4 pm4 an4 cd4 ct4), osl4⟩)
    (qc4 : PySem.W.codeIn K cd4 "_law_bag" = true)
    (qk4 : PySem.W.keepIn K (.ref f4) = true)
    (qa5 : PySem.W.nsIn K mainGlobals "_law_pull" = some (some (.ref f5)))
    (ql5 : K.lookup f5 = some ⟨oc5, od5, .func (PySem.W.fnOf "_law_pull" "_law_pull" (defArgs s_law_pull) (defBody s_law_pull) (defScope s_law_pull) .none kV5 dc5 pm5 an5 cd5 ct5), osl5⟩)
    (qc5 : PySem.W.codeIn K cd5 "_law_pull" = true)
    (qk5 : PySem.W.keepIn K (.ref f5) = true)
    (qa6 : PySem.W.nsIn K mainGlobals "_law_of" = some (some (.ref f6)))
    (ql6 : K.lookup f6 = some ⟨oc6, od6, .func (PySem.W.fnOf "_law_of" "_law_of" (defArgs s_law_of) (defBody s_law_of) (defScope s_law_of) .none kV6 dc6 pm6 an6 cd6 ct6), osl6⟩)
    (qc6 : PySem.W.codeIn K cd6 "_law_of" = true)
    (qk6 : PySem.W.keepIn K (.ref f6) = true)
    (qa7 : PySem.W.nsIn K mainGlobals "_law_far" = some (some (.ref f7)))
    (ql7 : K.lookup f7 = some ⟨oc7, od7, .func (PySem.W.fnOf "_law_far" "_law_far" (defArgs s_law_far) (defBody s_law_far) (defScope s_law_far) .none kV7 dc7 pm7 an7 cd7 ct7), osl7⟩)
    (qc7 : PySem.W.codeIn K cd7 "_law_far" = true)
    (qk7 : PySem.W.keepIn K (.ref f7) = true)
    (qa8 : PySem.W.nsIn K mainGlobals "_law_gcd" = some (some (.ref f8)))
    (ql8 : K.lookup f8 = some ⟨oc8, od8, .func (PySem.W.fnOf "_law_gcd" "_law_gcd" (defArgs s_law_gcd) (defBody s_law_gcd) (defScope s_law_gcd) .none kV8 dc8 pm8 an8 cd8 ct8), osl8⟩)
    (qc8 : PySem.W.codeIn K cd8 "_law_gcd" = true)
    (qk8 : PySem.W.keepIn K (.ref f8) = true)
    (qa9 : PySem.W.nsIn K mainGlobals "_law_low" = some (some (.ref f9)))
    (ql9 : K.lookup f9 = some ⟨oc9, od9, .func (PySem.W.fnOf "_law_low" "_law_low" (defArgs s_law_low) (defBody s_law_low) (defScope s_law_low) .none kV9 dc9 pm9 an9 cd9 ct9), osl9⟩)
    (qc9 : PySem.W.codeIn K cd9 "_law_low" = true)
    (qk9 : PySem.W.keepIn K (.ref f9) = true)
    (qa10 : PySem.W.nsIn K mainGlobals "_law_same" = some (some (.ref f10)))
    (ql10 : K.lookup f10 = some ⟨oc10, od10, .func (PySem.W.fnOf "_law_same" "_law_same" (defArgs s_law_same) (defBody s_law_same) (defScope s_law_same) .none kV10 dc10 pm10 an10 cd10 ct10), osl10⟩)
    (qc10 : PySem.W.codeIn K cd10 "_law_same" = true)
    (qk10 : PySem.W.keepIn K (.ref f10) = true)
    (qa11 : PySem.W.nsIn K mainGlobals "_law_part" = some (some (.ref f11)))
    (ql11 : K.lookup f11 = some ⟨oc11, od11, .func (PySem.W.fnOf "_law_part" "_law_part" (defArgs s_law_part) (defBody s_law_part) (defScope s_law_part) .none kV11 dc11 pm11 an11 cd11 ct11), osl11⟩)
    (qc11 : PySem.W.codeIn K cd11 "_law_part" = true)
    (qk11 : PySem.W.keepIn K (.ref f11) = true)
    (qa12 : PySem.W.nsIn K mainGlobals "_law_is_part" = some (some (.ref f12)))
    (ql12 : K.lookup f12 = some ⟨oc12, od12, .func (PySem.W.fnOf "_law_is_part" "_law_is_part" (defArgs s_law_is_part) (defBody s_law_is_part) (defScope s_law_is_part) .none kV12 dc12 pm12 an12 cd12 ct12), osl12⟩)
    (qc12 : PySem.W.codeIn K cd12 "_law_is_part" = true)
    (qk12 : PySem.W.keepIn K (.ref f12) = true)
    (qa13 : PySem.W.nsIn K mainGlobals "law" = some (some (.ref f13)))
    (ql13 : K.lookup f13 = some ⟨oc13, od13, .func (PySem.W.fnOf "law" "law" (defArgs s_law) (defBody s_law) (defScope s_law) .none kV13 dc13 pm13 an13 cd13 ct13), osl13⟩)
    (qc13 : PySem.W.codeIn K cd13 "law" = true)
    (qk13 : PySem.W.keepIn K (.ref f13) = true)
    (qa14 : PySem.W.nsIn K mainGlobals "_law_tried" = some (some (.ref f14)))
    (ql14 : K.lookup f14 = some ⟨oc14, od14, .func (PySem.W.fnOf "_law_tried" "_law_tried" (defArgs s_law_tried) (defBody s_law_tried) (defScope s_law_tried) .none kV14 dc14 pm14 an14 cd14 ct14), osl14⟩)
    (qc14 : PySem.W.codeIn K cd14 "_law_tried" = true)
    (qk14 : PySem.W.keepIn K (.ref f14) = true)
    (qa15 : PySem.W.nsIn K mainGlobals "_law_kin" = some (some (.ref f15)))
    (ql15 : K.lookup f15 = some ⟨oc15, od15, .func (PySem.W.fnOf "_law_kin" "_law_kin" (defArgs s_law_kin) (defBody s_law_kin) (defScope s_law_kin) .none kV15 dc15 pm15 an15 cd15 ct15), osl15⟩)
    (qc15 : PySem.W.codeIn K cd15 "_law_kin" = true)
    (qk15 : PySem.W.keepIn K (.ref f15) = true)
    (qz_len : PySem.W.nsIn K mainGlobals "len" = some none)
    (qz_abs : PySem.W.nsIn K mainGlobals "abs" = some none)
    (qz_tuple : PySem.W.nsIn K mainGlobals "tuple" = some none)
    (qz_all : PySem.W.nsIn K mainGlobals "all" = some none)
    (qz_any : PySem.W.nsIn K mainGlobals "any" = some none)
    (qz_list : PySem.W.nsIn K mainGlobals "list" = some none)
    (qz_range : PySem.W.nsIn K mainGlobals "range" = some none)
    (qz_sorted : PySem.W.nsIn K mainGlobals "sorted" = some none)
    (qz_zip : PySem.W.nsIn K mainGlobals "zip" = some none)
    (qz_enumerate : PySem.W.nsIn K mainGlobals "enumerate" = some none)
    (qz_isinstance : PySem.W.nsIn K mainGlobals "isinstance" = some none)
    (qz_bool : PySem.W.nsIn K mainGlobals "bool" = some none)
    (qz_int : PySem.W.nsIn K mainGlobals "int" = some none)
    (qz_str : PySem.W.nsIn K mainGlobals "str" = some none)
    (xa0 : PySem.W.nsIn K mainGlobals "BadPart" = some (some (.ref C0)))
    (xe0 : PySem.W.excIn K C0 [.type "ValueError", .type "Exception", .type "BaseException", .type "object"] "ValueError.__new__" = true)
    (xk0 : PySem.W.keepIn K (.ref C0) = true)
    (xs0 : PySem.W.subIn K (.ref C0) (.type "BaseException") = some true)
    (xt0 : PySem.W.typeIn K (.ref C0) = some (.type "type")) : Tab K mg T sig gl gB xB :=
  tab_of (sigs := sigs) (gls := gls) (fun _ => rfl)
  (allc ⟨_, T_common, ff_common X G qa0 ql0 qc0 qk0⟩ (allc ⟨_, T_low, ff_low X G qa1 ql1 qc1 qk1⟩ (allc ⟨_, T_is_part, ff_is_part X G qa2 ql2 qc2 qk2⟩ (allc ⟨_, T_part, ff_part X G qa3 ql3 qt3 qc3 qk3⟩ (allc ⟨_, T_law_bag, ff_law_bag X G qa4 ql4 qc4 qk4⟩ (allc ⟨_, T_law_pull, ff_law_pull X G qa5 ql5 qc5 qk5⟩ (allc ⟨_, T_law_of, ff_law_of X G qa6 ql6 qc6 qk6⟩ (allc ⟨_, T_law_far, ff_law_far X G qa7 ql7 qc7 qk7⟩ (allc ⟨_, T_law_gcd, ff_law_gcd X G qa8 ql8 qc8 qk8⟩ (allc ⟨_, T_law_low, ff_law_low X G qa9 ql9 qc9 qk9⟩ (allc ⟨_, T_law_same, ff_law_same X G qa10 ql10 qc10 qk10⟩ (allc ⟨_, T_law_part, ff_law_part X G qa11 ql11 qc11 qk11⟩ (allc ⟨_, T_law_is_part, ff_law_is_part X G qa12 ql12 qc12 qk12⟩ (alln))))))))))))))
  (allc (PySem.W.mg_none_of X G qz_len) (allc (PySem.W.mg_none_of X G qz_abs) (allc (PySem.W.mg_none_of X G qz_tuple) (allc (PySem.W.mg_none_of X G qz_all) (allc (PySem.W.mg_none_of X G qz_any) (allc (PySem.W.mg_none_of X G qz_list) (allc (PySem.W.mg_none_of X G qz_range) (allc (PySem.W.mg_none_of X G qz_sorted) (allc (PySem.W.mg_none_of X G qz_zip) (allc (PySem.W.mg_none_of X G qz_enumerate) (allc (PySem.W.mg_none_of X G qz_isinstance) (allc (PySem.W.mg_none_of X G qz_bool) (allc (PySem.W.mg_none_of X G qz_int) (allc (PySem.W.mg_none_of X G qz_str) (alln)))))))))))))))
  (fun _ => rfl)
  (alln)
  (xcs_of (xcs := xcs) (fun _ => rfl) (allc ⟨C0, _, _, _, _, PySem.F.excBase_ValueError, xe0, PySem.W.mg_of X G xa0, xk0, xs0, xt0, xa0⟩ (alln)))
theorem kr_BadPart [TB] {P : Program} {w : World} {base : Heap} (X : K.In h) (G : h.Ns mainGlobals mg) {f15 : Addr} {oc15 kV15 dc15 pm15 cd15 ct15 : Value} {od15 an15 : Option Addr} {osl15 : Array (Option Value)} {A0 : Addr} {A1 : Addr} {A2 : Addr} {A3 : Addr} {A4 : Addr} {A5 : Addr} {A6 : Addr} {A7 : Addr} {A8 : Addr} {A9 : Addr} {A10 : Addr} {A11 : Addr} {A12 : Addr} {A13 : Addr} {A14 : Addr} {A15 : Addr} {A16 : Addr} {A17 : Addr} {A18 : Addr} {A19 : Addr} {A20 : Addr} {A21 : Addr} {A22 : Addr} {A23 : Addr} {A24 : Addr} {A25 : Addr} {A26 : Addr} {A27 : Addr} {A29 : Addr} (qa15 : PySem.W.nsIn K mainGlobals "_law_kin" = some (some (.ref f15))) (ql15 : K.lookup f15 = some ⟨oc15, od15, .func (PySem.W.fnOf "_law_kin" "_law_kin" (defArgs s_law_kin) (defBody s_law_kin) (defScope s_law_kin) .none kV15 dc15 pm15 an15 cd15 ct15), osl15⟩) (qc15 : PySem.W.codeIn K cd15 "_law_kin" = true) (qk15 : PySem.W.keepIn K (.ref f15) = true) (qz_len : PySem.W.nsIn K mainGlobals "len" = some none) (qz_abs : PySem.W.nsIn K mainGlobals "abs" = some none) (qz_tuple : PySem.W.nsIn K mainGlobals "tuple" = some none) (qz_all : PySem.W.nsIn K mainGlobals "all" = some none) (qz_any : PySem.W.nsIn K mainGlobals "any" = some none) (qz_list : PySem.W.nsIn K mainGlobals "list" = some none) (qz_range : PySem.W.nsIn K mainGlobals "range" = some none) (qz_sorted : PySem.W.nsIn K mainGlobals "sorted" = some none) (qz_zip : PySem.W.nsIn K mainGlobals "zip" = some none) (qz_enumerate : PySem.W.nsIn K mainGlobals "enumerate" = some none) (qz_isinstance : PySem.W.nsIn K mainGlobals "isinstance" = some none) (qz_bool : PySem.W.nsIn K mainGlobals "bool" = some none) (qz_int : PySem.W.nsIn K mainGlobals "int" = some none) (qz_str : PySem.W.nsIn K mainGlobals "str" = some none) (ka0 : PySem.W.nsIn K mainGlobals "BadPart" = some (some (.ref A0))) (ka1 : PySem.W.nsIn K mainGlobals "BadTurn" = some (some (.ref A1))) (ka2 : PySem.W.nsIn K mainGlobals "BadRow" = some (some (.ref A2))) (ka3 : PySem.W.nsIn K mainGlobals "BadMotion" = some (some (.ref A3))) (ka4 : PySem.W.nsIn K mainGlobals "BadAxes" = some (some (.ref A4))) (ka5 : PySem.W.nsIn K mainGlobals "BadBody" = some (some (.ref A5))) (ka6 : PySem.W.nsIn K mainGlobals "BadText" = some (some (.ref A6))) (ka7 : PySem.W.nsIn K mainGlobals "BadName" = some (some (.ref A7))) (ka8 : PySem.W.nsIn K mainGlobals "BadHelper" = some (some (.ref A8))) (ka9 : PySem.W.nsIn K mainGlobals "BadColumn" = some (some (.ref A9))) (ka10 : PySem.W.nsIn K mainGlobals "BadWorth" = some (some (.ref A10))) (ka11 : PySem.W.nsIn K mainGlobals "BadWay" = some (some (.ref A11))) (ka12 : PySem.W.nsIn K mainGlobals "BadPage" = some (some (.ref A12))) (ka13 : PySem.W.nsIn K mainGlobals "NoGauge" = some (some (.ref A13))) (ka14 : PySem.W.nsIn K mainGlobals "NoMounting" = some (some (.ref A14))) (ka15 : PySem.W.nsIn K mainGlobals "NoHelper" = some (some (.ref A15))) (ka16 : PySem.W.nsIn K mainGlobals "NoRoll" = some (some (.ref A16))) (ka17 : PySem.W.nsIn K mainGlobals "NoRow" = some (some (.ref A17))) (ka18 : PySem.W.nsIn K mainGlobals "NoColumn" = some (some (.ref A18))) (ka19 : PySem.W.nsIn K mainGlobals "Taken" = some (some (.ref A19))) (ka20 : PySem.W.nsIn K mainGlobals "Full" = some (some (.ref A20))) (ka21 : PySem.W.nsIn K mainGlobals "Nothing" = some (some (.ref A21))) (ka22 : PySem.W.nsIn K mainGlobals "Apart" = some (some (.ref A22))) (ka23 : PySem.W.nsIn K mainGlobals "Torn" = some (some (.ref A23))) (ka24 : PySem.W.nsIn K mainGlobals "Used" = some (some (.ref A24))) (ka25 : PySem.W.nsIn K mainGlobals "Unfit" = some (some (.ref A25))) (ka26 : PySem.W.nsIn K mainGlobals "Misfit" = some (some (.ref A26))) (ka27 : PySem.W.nsIn K mainGlobals "GimbalError" = some (some (.ref A27))) (ka28 : PySem.W.nsIn K mainGlobals "ValueError" = some none) (ka29 : PySem.W.nsIn K mainGlobals "BookError" = some (some (.ref A29))) (ka30 : PySem.W.nsIn K mainGlobals "LookupError" = some none) (kg0 : PySem.W.findIn K (.ref A0) "__getattribute__" = some (some (.builtin "BaseException.__getattribute__"))) (kk0 : PySem.W.findIn K (.ref A0) "__getattr__" = some none) (ks0 : PySem.W.subIn K (.ref A0) (.type "BaseException") = some true) (kd0 : PySem.W.hasDictIn K A0 = true) (kc0 : PySem.W.findIn K (.ref A0) "__class__" = some (some (.builtin "object.__class__"))) (km0 : PySem.W.mroIn K A0 (.type "object") = some true) (kx0 : PySem.W.exmAny K (.ref A0) [.ref A27, .ref A29] = some true) (ki0 : kitAll K (.ref A0) [(.ref A0, true), (.ref A1, false), (.ref A2, false), (.ref A3, false), (.ref A4, false), (.ref A5, false), (.ref A6, false), (.ref A7, false), (.ref A8, false), (.ref A9, false), (.ref A10, false), (.ref A11, false), (.ref A12, false), (.ref A13, false), (.ref A14, false), (.ref A15, false), (.ref A16, false), (.ref A17, false), (.ref A18, false), (.ref A19, false), (.ref A20, false), (.ref A21, false), (.ref A22, false), (.ref A23, false), (.ref A24, false), (.ref A25, false), (.ref A26, false), (.ref A27, true), (.type "ValueError", true), (.ref A29, false), (.type "LookupError", false)] = true) (kn : PySem.W.specialIn K (.builtin "object.__class__") "__get__" = some (some (.builtin "getset_descriptor.__get__"))) (kt : PySem.W.takesIn K (.builtin "object.__class__") = some true) : KinRun P w K mg base f15 "BadPart" ∧ ∀ D, clsV K "BadPart" D → PySem.W.exmAny K D [.ref A27, .ref A29] = some true := by
  refine ⟨kin_ok ql15 qc15 sc_law_kin (.all fun us hl => match us, hl with | [_], _ => rfl) ck_law_kin (allc (PySem.W.mg_none_of X G qz_len) (allc (PySem.W.mg_none_of X G qz_abs) (allc (PySem.W.mg_none_of X G qz_tuple) (allc (PySem.W.mg_none_of X G qz_all) (allc (PySem.W.mg_none_of X G qz_any) (allc (PySem.W.mg_none_of X G qz_list) (allc (PySem.W.mg_none_of X G qz_range) (allc (PySem.W.mg_none_of X G qz_sorted) (allc (PySem.W.mg_none_of X G qz_zip) (allc (PySem.W.mg_none_of X G qz_enumerate) (allc (PySem.W.mg_none_of X G qz_isinstance) (allc (PySem.W.mg_none_of X G qz_bool) (allc (PySem.W.mg_none_of X G qz_int) (allc (PySem.W.mg_none_of X G qz_str) (alln))))))))))))))) ka0 ⟨kg0, kk0, ks0, kd0, kc0, kn, kt, km0⟩ (fun n hn => ?_) (fun g => CK.kin_hev g "BadPart" (by decide)), fun D hD => ?_⟩
  · refine CK.xi_cases (P := NameOk K mg "BadPart" A0) ?_ n hn
    exact allc (nameOk_r (kitAll_at ki0 (i := 0) rfl) (by decide +kernel) (by decide) (PySem.W.mg_of X G ka0)) (allc (nameOk_r (kitAll_at ki0 (i := 1) rfl) (by decide +kernel) (by decide) (PySem.W.mg_of X G ka1)) (allc (nameOk_r (kitAll_at ki0 (i := 2) rfl) (by decide +kernel) (by decide) (PySem.W.mg_of X G ka2)) (allc (nameOk_r (kitAll_at ki0 (i := 3) rfl) (by decide +kernel) (by decide) (PySem.W.mg_of X G ka3)) (allc (nameOk_r (kitAll_at ki0 (i := 4) rfl) (by decide +kernel) (by decide) (PySem.W.mg_of X G ka4)) (allc (nameOk_r (kitAll_at ki0 (i := 5) rfl) (by decide +kernel) (by decide) (PySem.W.mg_of X G ka5)) (allc (nameOk_r (kitAll_at ki0 (i := 6) rfl) (by decide +kernel) (by decide) (PySem.W.mg_of X G ka6)) (allc (nameOk_r (kitAll_at ki0 (i := 7) rfl) (by decide +kernel) (by decide) (PySem.W.mg_of X G ka7)) (allc (nameOk_r (kitAll_at ki0 (i := 8) rfl) (by decide +kernel) (by decide) (PySem.W.mg_of X G ka8)) (allc (nameOk_r (kitAll_at ki0 (i := 9) rfl) (by decide +kernel) (by decide) (PySem.W.mg_of X G ka9)) (allc (nameOk_r (kitAll_at ki0 (i := 10) rfl) (by decide +kernel) (by decide) (PySem.W.mg_of X G ka10)) (allc (nameOk_r (kitAll_at ki0 (i := 11) rfl) (by decide +kernel) (by decide) (PySem.W.mg_of X G ka11)) (allc (nameOk_r (kitAll_at ki0 (i := 12) rfl) (by decide +kernel) (by decide) (PySem.W.mg_of X G ka12)) (allc (nameOk_r (kitAll_at ki0 (i := 13) rfl) (by decide +kernel) (by decide) (PySem.W.mg_of X G ka13)) (allc (nameOk_r (kitAll_at ki0 (i := 14) rfl) (by decide +kernel) (by decide) (PySem.W.mg_of X G ka14)) (allc (nameOk_r (kitAll_at ki0 (i := 15) rfl) (by decide +kernel) (by decide) (PySem.W.mg_of X G ka15)) (allc (nameOk_r (kitAll_at ki0 (i := 16) rfl) (by decide +kernel) (by decide) (PySem.W.mg_of X G ka16)) (allc (nameOk_r (kitAll_at ki0 (i := 17) rfl) (by decide +kernel) (by decide) (PySem.W.mg_of X G ka17)) (allc (nameOk_r (kitAll_at ki0 (i := 18) rfl) (by decide +kernel) (by decide) (PySem.W.mg_of X G ka18)) (allc (nameOk_r (kitAll_at ki0 (i := 19) rfl) (by decide +kernel) (by decide) (PySem.W.mg_of X G ka19)) (allc (nameOk_r (kitAll_at ki0 (i := 20) rfl) (by decide +kernel) (by decide) (PySem.W.mg_of X G ka20)) (allc (nameOk_r (kitAll_at ki0 (i := 21) rfl) (by decide +kernel) (by decide) (PySem.W.mg_of X G ka21)) (allc (nameOk_r (kitAll_at ki0 (i := 22) rfl) (by decide +kernel) (by decide) (PySem.W.mg_of X G ka22)) (allc (nameOk_r (kitAll_at ki0 (i := 23) rfl) (by decide +kernel) (by decide) (PySem.W.mg_of X G ka23)) (allc (nameOk_r (kitAll_at ki0 (i := 24) rfl) (by decide +kernel) (by decide) (PySem.W.mg_of X G ka24)) (allc (nameOk_r (kitAll_at ki0 (i := 25) rfl) (by decide +kernel) (by decide) (PySem.W.mg_of X G ka25)) (allc (nameOk_r (kitAll_at ki0 (i := 26) rfl) (by decide +kernel) (by decide) (PySem.W.mg_of X G ka26)) (allc (nameOk_r (kitAll_at ki0 (i := 27) rfl) (by decide +kernel) (by decide) (PySem.W.mg_of X G ka27)) (allc (nameOk_t (kitAll_at ki0 (i := 28) rfl) (by decide +kernel) (by decide) (PySem.W.mg_none_of X G ka28) rfl (by decide)) (allc (nameOk_r (kitAll_at ki0 (i := 29) rfl) (by decide +kernel) (by decide) (PySem.W.mg_of X G ka29)) (allc (nameOk_t (kitAll_at ki0 (i := 30) rfl) (by decide +kernel) (by decide) (PySem.W.mg_none_of X G ka30) rfl (by decide)) (alln)))))))))))))))))))))))))))))))
  · have e : D = .ref A0 := by
      unfold clsV at hD
      rw [ka0] at hD
      cases hD
      rfl
    rw [e]
    exact kx0
theorem trk [TB] {P : Program} {w : World} {base : Heap} (d : Nat) (X : K.In h) (G : h.Ns mainGlobals mg) {f15 : Addr} {oc15 kV15 dc15 pm15 cd15 ct15 : Value} {od15 an15 : Option Addr} {osl15 : Array (Option Value)} {f14 : Addr} {oc14 kV14 dc14 pm14 cd14 ct14 : Value} {od14 an14 : Option Addr} {osl14 : Array (Option Value)} {A0 : Addr} {A1 : Addr} {A2 : Addr} {A3 : Addr} {A4 : Addr} {A5 : Addr} {A6 : Addr} {A7 : Addr} {A8 : Addr} {A9 : Addr} {A10 : Addr} {A11 : Addr} {A12 : Addr} {A13 : Addr} {A14 : Addr} {A15 : Addr} {A16 : Addr} {A17 : Addr} {A18 : Addr} {A19 : Addr} {A20 : Addr} {A21 : Addr} {A22 : Addr} {A23 : Addr} {A24 : Addr} {A25 : Addr} {A26 : Addr} {A27 : Addr} {A29 : Addr} (qa14 : PySem.W.nsIn K mainGlobals "_law_tried" = some (some (.ref f14))) (ql14 : K.lookup f14 = some ⟨oc14, od14, .func (PySem.W.fnOf "_law_tried" "_law_tried" (defArgs s_law_tried) (defBody s_law_tried) (defScope s_law_tried) .none kV14 dc14 pm14 an14 cd14 ct14), osl14⟩) (qc14 : PySem.W.codeIn K cd14 "_law_tried" = true) (qk14 : PySem.W.keepIn K (.ref f14) = true) (qa15 : PySem.W.nsIn K mainGlobals "_law_kin" = some (some (.ref f15))) (ql15 : K.lookup f15 = some ⟨oc15, od15, .func (PySem.W.fnOf "_law_kin" "_law_kin" (defArgs s_law_kin) (defBody s_law_kin) (defScope s_law_kin) .none kV15 dc15 pm15 an15 cd15 ct15), osl15⟩) (qc15 : PySem.W.codeIn K cd15 "_law_kin" = true) (qk15 : PySem.W.keepIn K (.ref f15) = true) (qz_len : PySem.W.nsIn K mainGlobals "len" = some none) (qz_abs : PySem.W.nsIn K mainGlobals "abs" = some none) (qz_tuple : PySem.W.nsIn K mainGlobals "tuple" = some none) (qz_all : PySem.W.nsIn K mainGlobals "all" = some none) (qz_any : PySem.W.nsIn K mainGlobals "any" = some none) (qz_list : PySem.W.nsIn K mainGlobals "list" = some none) (qz_range : PySem.W.nsIn K mainGlobals "range" = some none) (qz_sorted : PySem.W.nsIn K mainGlobals "sorted" = some none) (qz_zip : PySem.W.nsIn K mainGlobals "zip" = some none) (qz_enumerate : PySem.W.nsIn K mainGlobals "enumerate" = some none) (qz_isinstance : PySem.W.nsIn K mainGlobals "isinstance" = some none) (qz_bool : PySem.W.nsIn K mainGlobals "bool" = some none) (qz_int : PySem.W.nsIn K mainGlobals "int" = some none) (qz_str : PySem.W.nsIn K mainGlobals "str" = some none) (ka0 : PySem.W.nsIn K mainGlobals "BadPart" = some (some (.ref A0))) (ka1 : PySem.W.nsIn K mainGlobals "BadTurn" = some (some (.ref A1))) (ka2 : PySem.W.nsIn K mainGlobals "BadRow" = some (some (.ref A2))) (ka3 : PySem.W.nsIn K mainGlobals "BadMotion" = some (some (.ref A3))) (ka4 : PySem.W.nsIn K mainGlobals "BadAxes" = some (some (.ref A4))) (ka5 : PySem.W.nsIn K mainGlobals "BadBody" = some (some (.ref A5))) (ka6 : PySem.W.nsIn K mainGlobals "BadText" = some (some (.ref A6))) (ka7 : PySem.W.nsIn K mainGlobals "BadName" = some (some (.ref A7))) (ka8 : PySem.W.nsIn K mainGlobals "BadHelper" = some (some (.ref A8))) (ka9 : PySem.W.nsIn K mainGlobals "BadColumn" = some (some (.ref A9))) (ka10 : PySem.W.nsIn K mainGlobals "BadWorth" = some (some (.ref A10))) (ka11 : PySem.W.nsIn K mainGlobals "BadWay" = some (some (.ref A11))) (ka12 : PySem.W.nsIn K mainGlobals "BadPage" = some (some (.ref A12))) (ka13 : PySem.W.nsIn K mainGlobals "NoGauge" = some (some (.ref A13))) (ka14 : PySem.W.nsIn K mainGlobals "NoMounting" = some (some (.ref A14))) (ka15 : PySem.W.nsIn K mainGlobals "NoHelper" = some (some (.ref A15))) (ka16 : PySem.W.nsIn K mainGlobals "NoRoll" = some (some (.ref A16))) (ka17 : PySem.W.nsIn K mainGlobals "NoRow" = some (some (.ref A17))) (ka18 : PySem.W.nsIn K mainGlobals "NoColumn" = some (some (.ref A18))) (ka19 : PySem.W.nsIn K mainGlobals "Taken" = some (some (.ref A19))) (ka20 : PySem.W.nsIn K mainGlobals "Full" = some (some (.ref A20))) (ka21 : PySem.W.nsIn K mainGlobals "Nothing" = some (some (.ref A21))) (ka22 : PySem.W.nsIn K mainGlobals "Apart" = some (some (.ref A22))) (ka23 : PySem.W.nsIn K mainGlobals "Torn" = some (some (.ref A23))) (ka24 : PySem.W.nsIn K mainGlobals "Used" = some (some (.ref A24))) (ka25 : PySem.W.nsIn K mainGlobals "Unfit" = some (some (.ref A25))) (ka26 : PySem.W.nsIn K mainGlobals "Misfit" = some (some (.ref A26))) (ka27 : PySem.W.nsIn K mainGlobals "GimbalError" = some (some (.ref A27))) (ka28 : PySem.W.nsIn K mainGlobals "ValueError" = some none) (ka29 : PySem.W.nsIn K mainGlobals "BookError" = some (some (.ref A29))) (ka30 : PySem.W.nsIn K mainGlobals "LookupError" = some none) (kg0 : PySem.W.findIn K (.ref A0) "__getattribute__" = some (some (.builtin "BaseException.__getattribute__"))) (kk0 : PySem.W.findIn K (.ref A0) "__getattr__" = some none) (ks0 : PySem.W.subIn K (.ref A0) (.type "BaseException") = some true) (kd0 : PySem.W.hasDictIn K A0 = true) (kc0 : PySem.W.findIn K (.ref A0) "__class__" = some (some (.builtin "object.__class__"))) (km0 : PySem.W.mroIn K A0 (.type "object") = some true) (kx0 : PySem.W.exmAny K (.ref A0) [.ref A27, .ref A29] = some true) (ki0 : kitAll K (.ref A0) [(.ref A0, true), (.ref A1, false), (.ref A2, false), (.ref A3, false), (.ref A4, false), (.ref A5, false), (.ref A6, false), (.ref A7, false), (.ref A8, false), (.ref A9, false), (.ref A10, false), (.ref A11, false), (.ref A12, false), (.ref A13, false), (.ref A14, false), (.ref A15, false), (.ref A16, false), (.ref A17, false), (.ref A18, false), (.ref A19, false), (.ref A20, false), (.ref A21, false), (.ref A22, false), (.ref A23, false), (.ref A24, false), (.ref A25, false), (.ref A26, false), (.ref A27, true), (.type "ValueError", true), (.ref A29, false), (.type "LookupError", false)] = true) (kn : PySem.W.specialIn K (.builtin "object.__class__") "__get__" = some (some (.builtin "getset_descriptor.__get__"))) (kt : PySem.W.takesIn K (.builtin "object.__class__") = some true) : TrK P w K mg base (kbG (GG T gl d)) :=
  ⟨f14, f15, A27, A29, _, _, _, _, _, _, _, _, _, _, _, _, _, PySem.W.mg_of X G qa14, qk14, ql14, qc14, .all fun us hl => match us, hl with | [_], _ => rfl, sc_law_tried, tb_law_tried, nm_law_tried.1, nm_law_tried.2.1, nm_law_tried.2.2.1, nm_law_tried.2.2.2.1, nm_law_tried.2.2.2.2, PySem.W.mg_of X G ka27, PySem.W.mg_of X G ka29, PySem.W.mg_of X G qa15, qk15, fun c hc => by
    refine kb_cases (P := fun c => KinRun P w K mg base f15 c ∧ ∀ D, clsV K c D → PySem.W.exmAny K D [.ref A27, .ref A29] = some true) ?_ c hc
    exact allc (kr_BadPart X G qa15 ql15 qc15 qk15 qz_len qz_abs qz_tuple qz_all qz_any qz_list qz_range qz_sorted qz_zip qz_enumerate qz_isinstance qz_bool qz_int qz_str ka0 ka1 ka2 ka3 ka4 ka5 ka6 ka7 ka8 ka9 ka10 ka11 ka12 ka13 ka14 ka15 ka16 ka17 ka18 ka19 ka20 ka21 ka22 ka23 ka24 ka25 ka26 ka27 ka28 ka29 ka30 kg0 kk0 ks0 kd0 kc0 km0 kx0 ki0 kn kt) (alln)⟩
theorem law_mk {l : PySem.W.OpenLaw} {w : World} {fa : Addr} (X : K.In h) (G : h.Ns mainGlobals mg) (hfa : mg "law" = some (.ref fa)) {f0 : Addr} {oc0 kV0 dc0 pm0 cd0 ct0 : Value} {od0 an0 : Option Addr} {osl0 : Array (Option Value)} {f1 : Addr} {oc1 kV1 dc1 pm1 cd1 ct1 : Value} {od1 an1 : Option Addr} {osl1 : Array (Option Value)} {f2 : Addr} {oc2 kV2 dc2 pm2 cd2 ct2 : Value} {od2 an2 : Option Addr} {osl2 : Array (Option Value)} {f3 : Addr} {oc3 kV3 dc3 pm3 cd3 ct3 : Value} {od3 an3 : Option Addr} {osl3 : Array (Option Value)} {td3_0 : Tok} {T3 : Addr} {cT3 : Value} {dT3 : Option Addr} {nT3 : Nat} {sT3 : Array (Option Value)} {f4 : Addr} {oc4 kV4 dc4 pm4 cd4 ct4 : Value} {od4 an4 : Option Addr} {osl4 : Array (Option Value)} {f5 : Addr} {oc5 kV5 dc5 pm5 cd5 ct5 : Value} {od5 an5 : Option Addr} {osl5 : Array (Option Value)} {f6 : Addr} {oc6 kV6 dc6 pm6 cd6 ct6 : Value} {od6 an6 : Option Addr} {osl6 : Array (Option Value)} {f7 : Addr} {oc7 kV7 dc7 pm7 cd7 ct7 : Value} {od7 an7 : Option Addr} {osl7 : Array (Option Value)} {f8 : Addr} {oc8 kV8 dc8 pm8 cd8 ct8 : Value} {od8 an8 : Option Addr} {osl8 : Array (Option Value)} {f9 : Addr} {oc9 kV9 dc9 pm9 cd9 ct9 : Value} {od9 an9 : Option Addr} {osl9 : Array (Option Value)} {f10 : Addr} {oc10 kV10 dc10 pm10 cd10 ct10 : Value} {od10 an10 : Option Addr} {osl10 : Array (Option Value)} {f11 : Addr} {oc11 kV11 dc11 pm11 cd11 ct11 : Value} {od11 an11 : Option Addr} {osl11 : Array (Option Value)} {f12 : Addr} {oc12 kV12 dc12 pm12 cd12 ct12 : Value} {od12 an12 : Option Addr} {osl12 : Array (Option Value)} {f13 : Addr} {oc13 kV13 dc13 pm13 cd13 ct13 : Value} {od13 an13 : Option Addr} {osl13 : Array (Option Value)} {f14 : Addr} {oc14 kV14 dc14 pm14 cd14 ct14 : Value} {od14 an14 : Option Addr} {osl14 : Array (Option Value)} {f15 : Addr} {oc15 kV15 dc15 pm15 cd15 ct15 : Value} {od15 an15 : Option Addr} {osl15 : Array (Option Value)} {C0 : Addr} {A0 : Addr} {A1 : Addr} {A2 : Addr} {A3 : Addr} {A4 : Addr} {A5 : Addr} {A6 : Addr} {A7 : Addr} {A8 : Addr} {A9 : Addr} {A10 : Addr} {A11 : Addr} {A12 : Addr} {A13 : Addr} {A14 : Addr} {A15 : Addr} {A16 : Addr} {A17 : Addr} {A18 : Addr} {A19 : Addr} {A20 : Addr} {A21 : Addr} {A22 : Addr} {A23 : Addr} {A24 : Addr} {A25 : Addr} {A26 : Addr} {A27 : Addr} {A29 : Addr} {Pc Pt : Addr} {oPc : Option Addr} {vPc : Array Value} {sPc : Array (Option Value)}
    (qa0 : PySem.W.nsIn K mainGlobals "common" = some (some (.ref f0)))
    (ql0 : K.lookup f0 = some ⟨oc0, od0, .func (PySem.W.fnOf "common" "common" (defArgs s_common) (defBody s_common) (defScope s_common) .none kV0 dc0 pm0 an0 cd0 ct0), osl0⟩)
    (qc0 : PySem.W.codeIn K cd0 "common" = true)
    (qk0 : PySem.W.keepIn K (.ref f0) = true)
    (qa1 : PySem.W.nsIn K mainGlobals "low" = some (some (.ref f1)))
    (ql1 : K.lookup f1 = some ⟨oc1, od1, .func (PySem.W.fnOf "low" "low" (defArgs s_low) (defBody s_low) (defScope s_low) .none kV1 dc1 pm1 an1 cd1 ct1), osl1⟩)
    (qc1 : PySem.W.codeIn K cd1 "low" = true)
    (qk1 : PySem.W.keepIn K (.ref f1) = true)
    (qa2 : PySem.W.nsIn K mainGlobals "is_part" = some (some (.ref f2)))
    (ql2 : K.lookup f2 = some ⟨oc2, od2, .func (PySem.W.fnOf "is_part" "is_part" (defArgs s_is_part) (defBody s_is_part) (defScope s_is_part) .none kV2 dc2 pm2 an2 cd2 ct2), osl2⟩)
    (qc2 : PySem.W.codeIn K cd2 "is_part" = true)
    (qk2 : PySem.W.keepIn K (.ref f2) = true)
    (qa3 : PySem.W.nsIn K mainGlobals "part" = some (some (.ref f3)))
    (ql3 : K.lookup f3 = some ⟨oc3, od3, .func (PySem.W.fnOf "part" "part" (defArgs s_part) (defBody s_part) (defScope s_part) (.ref T3) kV3 dc3 pm3 an3 cd3 ct3), osl3⟩)
    (qt3 : K.lookup T3 = some ⟨cT3, dT3, .seq #[(.int 1 td3_0)] nT3, sT3⟩)
    (qc3 : PySem.W.codeIn K cd3 "part" = true)
    (qk3 : PySem.W.keepIn K (.ref f3) = true)
    (qa4 : PySem.W.nsIn K mainGlobals "_law_bag" = some (some (.ref f4)))
    (ql4 : K.lookup f4 = some ⟨oc4, od4, .func (PySem.W.fnOf "_law_bag" "_law_bag" (defArgs s_law_bag) (defBody s_law_bag) (defScope s_law_bag) .none kV4 dc4 pm4 an4 cd4 ct4), osl4⟩)
    (qc4 : PySem.W.codeIn K cd4 "_law_bag" = true)
    (qk4 : PySem.W.keepIn K (.ref f4) = true)
    (qa5 : PySem.W.nsIn K mainGlobals "_law_pull" = some (some (.ref f5)))
    (ql5 : K.lookup f5 = some ⟨oc5, od5, .func (PySem.W.fnOf "_law_pull" "_law_pull" (defArgs s_law_pull) (defBody s_law_pull) (defScope s_law_pull) .none kV5 dc5 pm5 an5 cd5 ct5), osl5⟩)
    (qc5 : PySem.W.codeIn K cd5 "_law_pull" = true)
    (qk5 : PySem.W.keepIn K (.ref f5) = true)
    (qa6 : PySem.W.nsIn K mainGlobals "_law_of" = some (some (.ref f6)))
    (ql6 : K.lookup f6 = some ⟨oc6, od6, .func (PySem.W.fnOf "_law_of" "_law_of" (defArgs s_law_of) (defBody s_law_of) (defScope s_law_of) .none kV6 dc6 pm6 an6 cd6 ct6), osl6⟩)
    (qc6 : PySem.W.codeIn K cd6 "_law_of" = true)
    (qk6 : PySem.W.keepIn K (.ref f6) = true)
    (qa7 : PySem.W.nsIn K mainGlobals "_law_far" = some (some (.ref f7)))
    (ql7 : K.lookup f7 = some ⟨oc7, od7, .func (PySem.W.fnOf "_law_far" "_law_far" (defArgs s_law_far) (defBody s_law_far) (defScope s_law_far) .none kV7 dc7 pm7 an7 cd7 ct7), osl7⟩)
    (qc7 : PySem.W.codeIn K cd7 "_law_far" = true)
    (qk7 : PySem.W.keepIn K (.ref f7) = true)
    (qa8 : PySem.W.nsIn K mainGlobals "_law_gcd" = some (some (.ref f8)))
    (ql8 : K.lookup f8 = some ⟨oc8, od8, .func (PySem.W.fnOf "_law_gcd" "_law_gcd" (defArgs s_law_gcd) (defBody s_law_gcd) (defScope s_law_gcd) .none kV8 dc8 pm8 an8 cd8 ct8), osl8⟩)
    (qc8 : PySem.W.codeIn K cd8 "_law_gcd" = true)
    (qk8 : PySem.W.keepIn K (.ref f8) = true)
    (qa9 : PySem.W.nsIn K mainGlobals "_law_low" = some (some (.ref f9)))
    (ql9 : K.lookup f9 = some ⟨oc9, od9, .func (PySem.W.fnOf "_law_low" "_law_low" (defArgs s_law_low) (defBody s_law_low) (defScope s_law_low) .none kV9 dc9 pm9 an9 cd9 ct9), osl9⟩)
    (qc9 : PySem.W.codeIn K cd9 "_law_low" = true)
    (qk9 : PySem.W.keepIn K (.ref f9) = true)
    (qa10 : PySem.W.nsIn K mainGlobals "_law_same" = some (some (.ref f10)))
    (ql10 : K.lookup f10 = some ⟨oc10, od10, .func (PySem.W.fnOf "_law_same" "_law_same" (defArgs s_law_same) (defBody s_law_same) (defScope s_law_same) .none kV10 dc10 pm10 an10 cd10 ct10), osl10⟩)
    (qc10 : PySem.W.codeIn K cd10 "_law_same" = true)
    (qk10 : PySem.W.keepIn K (.ref f10) = true)
    (qa11 : PySem.W.nsIn K mainGlobals "_law_part" = some (some (.ref f11)))
    (ql11 : K.lookup f11 = some ⟨oc11, od11, .func (PySem.W.fnOf "_law_part" "_law_part" (defArgs s_law_part) (defBody s_law_part) (defScope s_law_part) .none kV11 dc11 pm11 an11 cd11 ct11), osl11⟩)
    (qc11 : PySem.W.codeIn K cd11 "_law_part" = true)
    (qk11 : PySem.W.keepIn K (.ref f11) = true)
    (qa12 : PySem.W.nsIn K mainGlobals "_law_is_part" = some (some (.ref f12)))
    (ql12 : K.lookup f12 = some ⟨oc12, od12, .func (PySem.W.fnOf "_law_is_part" "_law_is_part" (defArgs s_law_is_part) (defBody s_law_is_part) (defScope s_law_is_part) .none kV12 dc12 pm12 an12 cd12 ct12), osl12⟩)
    (qc12 : PySem.W.codeIn K cd12 "_law_is_part" = true)
    (qk12 : PySem.W.keepIn K (.ref f12) = true)
    (qa13 : PySem.W.nsIn K mainGlobals "law" = some (some (.ref f13)))
    (ql13 : K.lookup f13 = some ⟨oc13, od13, .func (PySem.W.fnOf "law" "law" (defArgs s_law) (defBody s_law) (defScope s_law) .none kV13 dc13 pm13 an13 cd13 ct13), osl13⟩)
    (qc13 : PySem.W.codeIn K cd13 "law" = true)
    (qk13 : PySem.W.keepIn K (.ref f13) = true)
    (qa14 : PySem.W.nsIn K mainGlobals "_law_tried" = some (some (.ref f14)))
    (ql14 : K.lookup f14 = some ⟨oc14, od14, .func (PySem.W.fnOf "_law_tried" "_law_tried" (defArgs s_law_tried) (defBody s_law_tried) (defScope s_law_tried) .none kV14 dc14 pm14 an14 cd14 ct14), osl14⟩)
    (qc14 : PySem.W.codeIn K cd14 "_law_tried" = true)
    (qk14 : PySem.W.keepIn K (.ref f14) = true)
    (qa15 : PySem.W.nsIn K mainGlobals "_law_kin" = some (some (.ref f15)))
    (ql15 : K.lookup f15 = some ⟨oc15, od15, .func (PySem.W.fnOf "_law_kin" "_law_kin" (defArgs s_law_kin) (defBody s_law_kin) (defScope s_law_kin) .none kV15 dc15 pm15 an15 cd15 ct15), osl15⟩)
    (qc15 : PySem.W.codeIn K cd15 "_law_kin" = true)
    (qk15 : PySem.W.keepIn K (.ref f15) = true)
    (qz_len : PySem.W.nsIn K mainGlobals "len" = some none)
    (qz_abs : PySem.W.nsIn K mainGlobals "abs" = some none)
    (qz_tuple : PySem.W.nsIn K mainGlobals "tuple" = some none)
    (qz_all : PySem.W.nsIn K mainGlobals "all" = some none)
    (qz_any : PySem.W.nsIn K mainGlobals "any" = some none)
    (qz_list : PySem.W.nsIn K mainGlobals "list" = some none)
    (qz_range : PySem.W.nsIn K mainGlobals "range" = some none)
    (qz_sorted : PySem.W.nsIn K mainGlobals "sorted" = some none)
    (qz_zip : PySem.W.nsIn K mainGlobals "zip" = some none)
    (qz_enumerate : PySem.W.nsIn K mainGlobals "enumerate" = some none)
    (qz_isinstance : PySem.W.nsIn K mainGlobals "isinstance" = some none)
    (qz_bool : PySem.W.nsIn K mainGlobals "bool" = some none)
    (qz_int : PySem.W.nsIn K mainGlobals "int" = some none)
    (qz_str : PySem.W.nsIn K mainGlobals "str" = some none)
    (xa0 : PySem.W.nsIn K mainGlobals "BadPart" = some (some (.ref C0)))
    (xe0 : PySem.W.excIn K C0 [.type "ValueError", .type "Exception", .type "BaseException", .type "object"] "ValueError.__new__" = true)
    (xk0 : PySem.W.keepIn K (.ref C0) = true)
    (xs0 : PySem.W.subIn K (.ref C0) (.type "BaseException") = some true)
    (xt0 : PySem.W.typeIn K (.ref C0) = some (.type "type"))
    (ka0 : PySem.W.nsIn K mainGlobals "BadPart" = some (some (.ref A0)))
    (ka1 : PySem.W.nsIn K mainGlobals "BadTurn" = some (some (.ref A1)))
    (ka2 : PySem.W.nsIn K mainGlobals "BadRow" = some (some (.ref A2)))
    (ka3 : PySem.W.nsIn K mainGlobals "BadMotion" = some (some (.ref A3)))
    (ka4 : PySem.W.nsIn K mainGlobals "BadAxes" = some (some (.ref A4)))
    (ka5 : PySem.W.nsIn K mainGlobals "BadBody" = some (some (.ref A5)))
    (ka6 : PySem.W.nsIn K mainGlobals "BadText" = some (some (.ref A6)))
    (ka7 : PySem.W.nsIn K mainGlobals "BadName" = some (some (.ref A7)))
    (ka8 : PySem.W.nsIn K mainGlobals "BadHelper" = some (some (.ref A8)))
    (ka9 : PySem.W.nsIn K mainGlobals "BadColumn" = some (some (.ref A9)))
    (ka10 : PySem.W.nsIn K mainGlobals "BadWorth" = some (some (.ref A10)))
    (ka11 : PySem.W.nsIn K mainGlobals "BadWay" = some (some (.ref A11)))
    (ka12 : PySem.W.nsIn K mainGlobals "BadPage" = some (some (.ref A12)))
    (ka13 : PySem.W.nsIn K mainGlobals "NoGauge" = some (some (.ref A13)))
    (ka14 : PySem.W.nsIn K mainGlobals "NoMounting" = some (some (.ref A14)))
    (ka15 : PySem.W.nsIn K mainGlobals "NoHelper" = some (some (.ref A15)))
    (ka16 : PySem.W.nsIn K mainGlobals "NoRoll" = some (some (.ref A16)))
    (ka17 : PySem.W.nsIn K mainGlobals "NoRow" = some (some (.ref A17)))
    (ka18 : PySem.W.nsIn K mainGlobals "NoColumn" = some (some (.ref A18)))
    (ka19 : PySem.W.nsIn K mainGlobals "Taken" = some (some (.ref A19)))
    (ka20 : PySem.W.nsIn K mainGlobals "Full" = some (some (.ref A20)))
    (ka21 : PySem.W.nsIn K mainGlobals "Nothing" = some (some (.ref A21)))
    (ka22 : PySem.W.nsIn K mainGlobals "Apart" = some (some (.ref A22)))
    (ka23 : PySem.W.nsIn K mainGlobals "Torn" = some (some (.ref A23)))
    (ka24 : PySem.W.nsIn K mainGlobals "Used" = some (some (.ref A24)))
    (ka25 : PySem.W.nsIn K mainGlobals "Unfit" = some (some (.ref A25)))
    (ka26 : PySem.W.nsIn K mainGlobals "Misfit" = some (some (.ref A26)))
    (ka27 : PySem.W.nsIn K mainGlobals "GimbalError" = some (some (.ref A27)))
    (ka28 : PySem.W.nsIn K mainGlobals "ValueError" = some none)
    (ka29 : PySem.W.nsIn K mainGlobals "BookError" = some (some (.ref A29)))
    (ka30 : PySem.W.nsIn K mainGlobals "LookupError" = some none)
    (kg0 : PySem.W.findIn K (.ref A0) "__getattribute__" = some (some (.builtin "BaseException.__getattribute__")))
    (kk0 : PySem.W.findIn K (.ref A0) "__getattr__" = some none)
    (ks0 : PySem.W.subIn K (.ref A0) (.type "BaseException") = some true)
    (kd0 : PySem.W.hasDictIn K A0 = true)
    (kc0 : PySem.W.findIn K (.ref A0) "__class__" = some (some (.builtin "object.__class__")))
    (km0 : PySem.W.mroIn K A0 (.type "object") = some true)
    (kx0 : PySem.W.exmAny K (.ref A0) [.ref A27, .ref A29] = some true)
    (ki0 : kitAll K (.ref A0) [(.ref A0, true), (.ref A1, false), (.ref A2, false), (.ref A3, false), (.ref A4, false), (.ref A5, false), (.ref A6, false), (.ref A7, false), (.ref A8, false), (.ref A9, false), (.ref A10, false), (.ref A11, false), (.ref A12, false), (.ref A13, false), (.ref A14, false), (.ref A15, false), (.ref A16, false), (.ref A17, false), (.ref A18, false), (.ref A19, false), (.ref A20, false), (.ref A21, false), (.ref A22, false), (.ref A23, false), (.ref A24, false), (.ref A25, false), (.ref A26, false), (.ref A27, true), (.type "ValueError", true), (.ref A29, false), (.type "LookupError", false)] = true)
    (kn : PySem.W.specialIn K (.builtin "object.__class__") "__get__" = some (some (.builtin "getset_descriptor.__get__")))
    (kt : PySem.W.takesIn K (.builtin "object.__class__") = some true)
    (pa : cd13 = .ref Pc)
    (pb : K.lookup Pc = some ⟨.type "code", oPc, .fields vPc, sPc⟩)
    (pc : (vPc[11]? : Option Value) = some (.ref Pt))
    (pd : PySem.W.codeHdIn K Pc Pt = true)
    (pe : K.lookup Pt = none)
    (pf : h.get? Pt = some (PySem.W.tabObj #[])) :
    LamX.LawAtS l w K (L2N.CX l.prog w) 180 63 "_law_script" mg fa h := by
  letI T0 : TB := ⟨[(Pt, ("law" ++ ".<locals>.") ++ "<lambda>")], none⟩
  have tb := tab_mk X G qa0 ql0 qc0 qk0 qa1 ql1 qc1 qk1 qa2 ql2 qc2 qk2 qa3 ql3 qt3 qc3 qk3 qa4 ql4 qc4 qk4 qa5 ql5 qc5 qk5 qa6 ql6 qc6 qk6 qa7 ql7 qc7 qk7 qa8 ql8 qc8 qk8 qa9 ql9 qc9 qk9 qa10 ql10 qc10 qk10 qa11 ql11 qc11 qk11 qa12 ql12 qc12 qk12 qa13 ql13 qc13 qk13 qa14 ql14 qc14 qk14 qa15 ql15 qc15 qk15 qz_len qz_abs qz_tuple qz_all qz_any qz_list qz_range qz_sorted qz_zip qz_enumerate qz_isinstance qz_bool qz_int qz_str xa0 xe0 xk0 xs0 xt0
  have e := hfa.symm.trans (PySem.W.mg_of X G qa13)
  cases e
  subst pa
  refine ⟨PySem.W.fnOf "law" "law" (defArgs s_law) (defBody s_law) (defScope s_law) .none kV13 dc13 pm13 an13 (.ref Pc) ct13, [(Pc, Pt)], spF K (callM T gl 60 false "law") 1, allc pf alln, allc pe alln, allc (PySem.W.codeHd_of_K X pd) alln, fun s v => .of_eq rfl, fun H a ns hl hb hH hS => law_sp law_true H a ns hl hb hS (TabF.start (hH (Pc, Pt) List.mem_cons_self)), fun base _ _ hT => ?_⟩
  refine fn_step (d := 59) (tr := true) false tb.bn tb.gc tb.xc (tab_ok tb 59) T_law ⟨⟨_, _, _, _, _, _, _, _, _, _, rfl, ql13, qc13, .inl ⟨rfl, rfl⟩, .inl rfl⟩, qk13⟩ sc_law rfl rfl ck_law fun _ oc od dV kV doc pm an cdv ct osl hk => ?_
  have e2 := ql13.symm.trans hk
  obtain rfl := cdv_inj e2
  exact ⟨by decide, trk 59 X G qa14 ql14 qc14 qk14 qa15 ql15 qc15 qk15 qz_len qz_abs qz_tuple qz_all qz_any qz_list qz_range qz_sorted qz_zip qz_enumerate qz_isinstance qz_bool qz_int qz_str ka0 ka1 ka2 ka3 ka4 ka5 ka6 ka7 ka8 ka9 ka10 ka11 ka12 ka13 ka14 ka15 ka16 ka17 ka18 ka19 ka20 ka21 ka22 ka23 ka24 ka25 ka26 ka27 ka28 ka29 ka30 kg0 kk0 ks0 kd0 kc0 km0 kx0 ki0 kn kt, Pc, Pt, rfl, hT (Pc, Pt) List.mem_cons_self, List.mem_cons_self, fun p hp _ => by rw [List.mem_singleton.mp hp]⟩
end K01

open PySem PySem.W PyProof.Rows
set_option maxHeartbeats 0 in
theorem PySem.Challenge.cw_gimbalrow_k01_parts_made_holds : PySem.Challenge.rw_gimbalrow_k01_parts_made.Holds := by
  w_on; o_law; k_head; (case hw => w_witness2)
  k_fill
  refine LamX.walk_ofTs (l := PySem.Challenge.rw_gimbalrow_k01_parts_made) (n := 63) (k := 180) (x := "_law_script") (CX := fun w => L2N.CX (PySem.Challenge.rw_gimbalrow_k01_parts_made).prog w) rfl (by decide) rfl ⟨rfl, by decide, by decide⟩ (fun w h Y => PySem.W.km_in_of Y) ?F (fun _ _ _ _ _ h => @PyD.cx_no ⟨[], none⟩ _ _ _ _ _ _ h)
  case F =>
    intro w mg fa h Y KX G hmg
    have hT8 := PySem.W.km_tabs_of Y
    refine' K01.law_mk KX G hmg ?qa0 ?ql0 ?qc0 ?qk0 ?qa1 ?ql1 ?qc1 ?qk1 ?qa2 ?ql2 ?qc2 ?qk2 ?qa3 ?ql3 ?qt3 ?qc3 ?qk3 ?qa4 ?ql4 ?qc4 ?qk4 ?qa5 ?ql5 ?qc5 ?qk5 ?qa6 ?ql6 ?qc6 ?qk6 ?qa7 ?ql7 ?qc7 ?qk7 ?qa8 ?ql8 ?qc8 ?qk8 ?qa9 ?ql9 ?qc9 ?qk9 ?qa10 ?ql10 ?qc10 ?qk10 ?qa11 ?ql11 ?qc11 ?qk11 ?qa12 ?ql12 ?qc12 ?qk12 ?qa13 ?ql13 ?qc13 ?qk13 ?qa14 ?ql14 ?qc14 ?qk14 ?qa15 ?ql15 ?qc15 ?qk15 ?qz_len ?qz_abs ?qz_tuple ?qz_all ?qz_any ?qz_list ?qz_range ?qz_sorted ?qz_zip ?qz_enumerate ?qz_isinstance ?qz_bool ?qz_int ?qz_str ?xa0 ?xe0 ?xk0 ?xs0 ?xt0 ?ka0 ?ka1 ?ka2 ?ka3 ?ka4 ?ka5 ?ka6 ?ka7 ?ka8 ?ka9 ?ka10 ?ka11 ?ka12 ?ka13 ?ka14 ?ka15 ?ka16 ?ka17 ?ka18 ?ka19 ?ka20 ?ka21 ?ka22 ?ka23 ?ka24 ?ka25 ?ka26 ?ka27 ?ka28 ?ka29 ?ka30 ?kg0 ?kk0 ?ks0 ?kd0 ?kc0 ?km0 ?kx0 ?ki0 ?kn ?kt ?pa ?pb ?pc ?pd ?pe ?pf
    (case qa0 => k_is); (case ql0 => k_is); (case qc0 => k_is); (case qk0 => k_is); (case qa1 => k_is); (case ql1 => k_is); (case qc1 => k_is); (case qk1 => k_is); (case qa2 => k_is); (case ql2 => k_is); (case qc2 => k_is); (case qk2 => k_is); (case qa3 => k_is); (case ql3 => k_is); (case qt3 => k_is); (case qc3 => k_is); (case qk3 => k_is); (case qa4 => k_is); (case ql4 => k_is); (case qc4 => k_is); (case qk4 => k_is); (case qa5 => k_is); (case ql5 => k_is); (case qc5 => k_is); (case qk5 => k_is); (case qa6 => k_is); (case ql6 => k_is); (case qc6 => k_is); (case qk6 => k_is); (case qa7 => k_is); (case ql7 => k_is); (case qc7 => k_is); (case qk7 => k_is); (case qa8 => k_is); (case ql8 => k_is); (case qc8 => k_is); (case qk8 => k_is); (case qa9 => k_is); (case ql9 => k_is); (case qc9 => k_is); (case qk9 => k_is); (case qa10 => k_is); (case ql10 => k_is); (case qc10 => k_is); (case qk10 => k_is); (case qa11 => k_is); (case ql11 => k_is); (case qc11 => k_is); (case qk11 => k_is); (case qa12 => k_is); (case ql12 => k_is); (case qc12 => k_is); (case qk12 => k_is); (case qa13 => k_is); (case ql13 => k_is); (case qc13 => k_is); (case qk13 => k_is); (case qa14 => k_is); (case ql14 => k_is); (case qc14 => k_is); (case qk14 => k_is); (case qa15 => k_is); (case ql15 => k_is); (case qc15 => k_is); (case qk15 => k_is); (case qz_len => k_is); (case qz_abs => k_is); (case qz_tuple => k_is); (case qz_all => k_is); (case qz_any => k_is); (case qz_list => k_is); (case qz_range => k_is); (case qz_sorted => k_is); (case qz_zip => k_is); (case qz_enumerate => k_is); (case qz_isinstance => k_is); (case qz_bool => k_is); (case qz_int => k_is); (case qz_str => k_is); (case xa0 => k_is); (case xe0 => k_exc); (case xk0 => k_is); (case xs0 => k_is); (case xt0 => k_is); (case ka0 => k_is); (case ka1 => k_is); (case ka2 => k_is); (case ka3 => k_is); (case ka4 => k_is); (case ka5 => k_is); (case ka6 => k_is); (case ka7 => k_is); (case ka8 => k_is); (case ka9 => k_is); (case ka10 => k_is); (case ka11 => k_is); (case ka12 => k_is); (case ka13 => k_is); (case ka14 => k_is); (case ka15 => k_is); (case ka16 => k_is); (case ka17 => k_is); (case ka18 => k_is); (case ka19 => k_is); (case ka20 => k_is); (case ka21 => k_is); (case ka22 => k_is); (case ka23 => k_is); (case ka24 => k_is); (case ka25 => k_is); (case ka26 => k_is); (case ka27 => k_is); (case ka28 => k_is); (case ka29 => k_is); (case ka30 => k_is); (case kg0 => k_is); (case kk0 => k_is); (case ks0 => k_is); (case kd0 => k_is); (case kc0 => k_is); (case km0 => k_is); (case kx0 => kernel_rfl); (case ki0 => kernel_rfl); (case kn => k_is); (case kt => k_is); (case pa => exact rfl); (case pb => k_is); (case pc => exact rfl); (case pd => kernel_rfl); (case pe => kernel_rfl); (case pf => exact hT8 _ (by k_mem))

