import PyProof.Rows.All
import Wide.All
import OpenK.AllK
import Wide.FinOn
import HandS.TupMul
import PySem.PyData
import HandS.ForSpec
import HandS.Comp
import HandS.Dict
import HandS.Lambda
import HandS.IsInst
import HandS.Conv
import HandS.Style
import HandS.Wide
import HandS.TupAny
import HandS.TupLe
import HandS.RevTup
import HandS.Zip
import KE.KDictKeyed
import KE.SortData
import KE.DataMinMax
import KE.GoesEnum
import KE.GoesMore
import KE.KDictWalk
import HandS.Defaults
import HandS.WordsExc
import KE.DataCmp
import KE.DataEq
import HandS.Deep
import KE.KeyNested
import KE.KDictCopyH
import HandS.More
import HandS.HeadEnd
import HandS.Gcd
import KE.KDictDisplayH
import HandS.ExcOwn
import HandS.ExcCtx
import HandS.Hot
import HandS.HotCalls
import HandS.ExcIs
import HandS.HeadWalk
import HandS.HeadHook2
import HandS.Head2
import HandS.Head3
import KE.KNestM
import HandS.ExcBuiltin
import PySem.Challenge.RW_highground_k91_whole_errors_of_weather
-- text TM
set_option Elab.async false
set_option linter.all false
set_option maxRecDepth 100000
set_option maxHeartbeats 4000000
/-! TM: tuple * int, of few or none. -/
namespace Mm
open PySem PySem.Spec PyProof.Rows L2
theorem tmul_same (l : Addr) (items : Array Value) (n : Nat) (dd : Option Addr) (sl : Array (Option Value)) (x : Int) (u : Tok) (c0 : (decide (x < -(2 ^ 63)) || decide (x ≥ 2 ^ 63)) = false) (c1 : (items.isEmpty || x == 1) = true) :
    Meets (Builtin.«tuple.__mul__» ⟨[.ref l, .int x u], []⟩) (fun _ R s => s.heap.get? l = some { cls := .type "tuple", dict := dd, data := .seq items n, slots := sl } ∧ R (.ok (.ret (Value.ref l))) s) :=
  .of_wp fun prog w A R s h => by
    obtain ⟨hp, g, d, tk, os⟩ := s
    obtain ⟨hl, h⟩ := h
    have f1 := AutoSeq1.idx_int
    wp_walk using wpAny_loadPart' hl
    repeat (first
      | (refine wpAny_ite_false (decide_eq_false (by rw [c0]; exact Bool.false_ne_true)) ?_; wp_walk using wpAny_loadPart' hl)
      | (refine wpAny_ite_true (decide_eq_true (by rw [c1])) ?_; wp_walk using wpAny_loadPart' hl))
    exact ⟨_, rfl, h⟩
theorem tmul_none (l : Addr) (items : Array Value) (n : Nat) (dd : Option Addr) (sl : Array (Option Value)) (x : Int) (u : Tok) (c0 : (decide (x < -(2 ^ 63)) || decide (x ≥ 2 ^ 63)) = false) (c1 : (items.isEmpty || x == 1) = false) (c2 : (decide (x ≤ 0) || items.isEmpty) = true) :
    Meets (Builtin.«tuple.__mul__» ⟨[.ref l, .int x u], []⟩) (fun _ R s => s.heap.get? l = some { cls := .type "tuple", dict := dd, data := .seq items n, slots := sl } ∧
      R (.ok (.ret (Value.ref s.heap.objs.size))) { s with heap := s.heap.push { cls := Value.type "tuple", data := Data.seq #[] }, toks := s.toks }) :=
  .of_wp fun prog w A R s h => by
    obtain ⟨hp, g, d, tk, os⟩ := s
    obtain ⟨hl, h⟩ := h
    have f1 := AutoSeq1.idx_int
    wp_walk using wpAny_loadPart' hl
    repeat (first
      | (refine wpAny_ite_false (decide_eq_false (by rw [c0]; exact Bool.false_ne_true)) ?_; wp_walk using wpAny_loadPart' hl)
      | (refine wpAny_ite_false (decide_eq_false (by rw [c1]; exact Bool.false_ne_true)) ?_; wp_walk using wpAny_loadPart' hl)
      | (refine wpAny_ite_true (decide_eq_true (by rw [c2])) ?_; wp_walk using wpAny_loadPart' hl)
      | (refine wpAny_ite_false (decide_eq_false (by decide)) ?_; wp_walk using wpAny_loadPart' hl))
    exact ⟨_, rfl, h⟩
def rRepS (K : PySem.W.Frag) : R2 := fun x y H Q => ∃ l k xs, x = .ref l ∧ y = .int k ∧ SqT K H l xs ∧ (xs = [] ∨ k = 1) ∧ -1000 ≤ k ∧ k ≤ 1000 ∧ Q (.ref l) H
def rRepZ (K : PySem.W.Frag) : R2 := fun x y H Q => ∃ l k xs, x = .ref l ∧ y = .int k ∧ SqT K H l xs ∧ xs ≠ [] ∧ -1000 ≤ k ∧ k ≤ 0 ∧ ∀ p, H p = none → Q (.ref p) (upd H p (.tup []))
section
variable {X : Cx}
theorem op_repS : OpR X (binaryOp .Mult) (rRepS X.K) := by
  intro pins s σ H x y v u Q I rx ry ⟨l, k, xs, ex, ey, hT, hk, k1, k2, q⟩
  subst ex ey; cases rx
  obtain ⟨t, rfl⟩ := ry
  obtain ⟨its, r, ⟨⟨cls, dd, data, sl⟩, ho, hc, n, hd⟩, hs⟩ := I.tuple hT
  simp only at hc hd
  subst hc hd
  have c0 : (decide (k < -(2 ^ 63)) || decide (k ≥ 2 ^ 63)) = false := by rw [decide_eq_false (by omega), decide_eq_false (by omega)]; rfl
  have c1 : (its.toArray.isEmpty || k == 1) = true := by
    rcases hk with z | z
    · subst z; cases r; rfl
    · subst z; simp
  exact wpAny_binaryOp_repeat_ref (T := "tuple") (U := "int") (by decide) ⟨_, ho, rfl⟩ (fun s' => typeIs_int s' k t) noFill_tuple_mul F.fills_int_mul F.slot_int_rmul repeat_tuple F.slot_int_index.lookup (call_meets F.slot_int_rmul (typeIs_int s k t) F.entry_int_rmul (F.args_int_rmul_2 _ _) (int_rmul_tuple k t l its.toArray n dd sl)
      ⟨ho, rfl, ⟨_, ho, rfl⟩, call_meets F.slot_tuple_mul ⟨_, ho, rfl⟩ F.entry_tuple_mul (F.args_tuple_mul_2 _ _) (tmul_same l its.toArray n dd sl k t c0 c1) ⟨ho, ⟨.ref l, H, I, rfl, q⟩⟩⟩)
theorem op_repZ : OpR X (binaryOp .Mult) (rRepZ X.K) := by
  intro pins s σ H x y v u Q I rx ry ⟨l, k, xs, ex, ey, hT, hne, k1, k2, q⟩
  subst ex ey; cases rx
  obtain ⟨t, rfl⟩ := ry
  obtain ⟨its, r, ⟨⟨cls, dd, data, sl⟩, ho, hc, n, hd⟩, hs⟩ := I.tuple hT
  simp only at hc hd
  subst hc hd
  have c0 : (decide (k < -(2 ^ 63)) || decide (k ≥ 2 ^ 63)) = false := by rw [decide_eq_false (by omega), decide_eq_false (by omega)]; rfl
  have c1 : (its.toArray.isEmpty || k == 1) = false := by
    cases r with
    | nil => exact absurd rfl hne
    | cons a b => show (false || k == 1) = false; rw [Bool.false_or]; exact beq_eq_false_iff_ne.mpr (by omega)
  have c2 : (decide (k ≤ 0) || its.toArray.isEmpty) = true := by rw [decide_eq_true k2]; rfl
  refine wpAny_binaryOp_repeat_ref (T := "tuple") (U := "int") (by decide) ⟨_, ho, rfl⟩ (fun s' => typeIs_int s' k t) noFill_tuple_mul F.fills_int_mul F.slot_int_rmul repeat_tuple F.slot_int_index.lookup (call_meets F.slot_int_rmul (typeIs_int s k t) F.entry_int_rmul (F.args_int_rmul_2 _ _) (int_rmul_tuple k t l its.toArray n dd sl)
      ⟨ho, rfl, ⟨_, ho, rfl⟩, call_meets F.slot_tuple_mul ⟨_, ho, rfl⟩ F.entry_tuple_mul (F.args_tuple_mul_2 _ _) (tmul_none l its.toArray n dd sl k t c0 c1 c2) ⟨ho, ?_⟩⟩)
  exact ⟨.ref s.heap.objs.size, _, I.laid (t' := s.toks) (o := .tup []) (fun b ob q => Heap.get?_push_of_some _ q) (Nat.le_refl _) ⟨Nat.zero_le _, [], .nil, IsTup.new _ _⟩, rfl, q _ (I.hok.fresh (Nat.le_refl _))⟩
end
end Mm
-- text M0
set_option Elab.async false
set_option linter.all false
/-! M0: deep values, cells with ownership, and the functional meaning of the small language. Pure. -/
namespace Mm
open PySem

/-- a deep value: no heap within; obj: an object that is only handed on (a def, a class) -/
inductive D where
  | non | bl (b : Bool) | int (i : Int) | str (x : Str) | tup (l : List D) | lst (l : List D) | dic (l : List (D × D)) | obj (a : Nat) | scr (l : List Int)
deriving Inhabited

mutual
def D.dep : D → Nat
  | .tup l => D.depL l + 1
  | .lst l => D.depL l + 1
  | _ => 0
def D.depL : List D → Nat
  | [] => 0
  | x :: xs => max (D.dep x) (D.depL xs)
end
mutual
/-- no dict, no object within -/
def D.pl : D → Bool
  | .non => true
  | .bl _ => true
  | .int _ => true
  | .str x => x.cps.all (· < 0x110000)
  | .tup l => D.plL l
  | .lst l => D.plL l
  | .dic _ => false
  | .obj _ => false
  | .scr _ => false
def D.plL : List D → Bool
  | [] => true
  | x :: xs => D.pl x && D.plL xs
end
/-- plain and not deep: what may be compared -/
def D.sh (d : D) : Bool := D.pl d && decide (D.dep d ≤ 7)
def b2i (b : Bool) : Int := if b then 1 else 0
mutual
/-- Python's == -/
def D.eqb : D → D → Bool
  | .non, .non => true
  | .bl a, .bl b => a == b
  | .bl a, .int j => b2i a == j
  | .int i, .bl b => i == b2i b
  | .int i, .int j => i == j
  | .str x, .str y => x == y
  | .tup xs, .tup ys => D.eqbL xs ys
  | .lst xs, .lst ys => D.eqbL xs ys
  | _, _ => false
def D.eqbL : List D → List D → Bool
  | [], [] => true
  | x :: xs, y :: ys => D.eqb x y && D.eqbL xs ys
  | _, _ => false
end
mutual
/-- place by place of one kind -/
def D.alk : D → D → Bool
  | .non, .non => true
  | .bl _, .bl _ => true
  | .int _, .int _ => true
  | .str _, .str _ => true
  | .tup xs, .tup ys => D.alkL xs ys
  | .lst xs, .lst ys => D.alkL xs ys
  | _, _ => false
def D.alkL : List D → List D → Bool
  | x :: xs, y :: ys => D.alk x y && D.alkL xs ys
  | [], _ => true
  | _ :: _, [] => true
end
def natsLt : List Nat → List Nat → Bool
  | [], _ :: _ => true
  | _, [] => false
  | x :: xs, y :: ys => if x = y then natsLt xs ys else decide (x < y)
mutual
/-- Python's <, of alike ones -/
def D.ltb : D → D → Bool
  | .bl a, .bl b => !a && b
  | .int i, .int j => decide (i < j)
  | .str x, .str y => natsLt x.cps.toList y.cps.toList
  | .tup xs, .tup ys => D.ltbL xs ys
  | .lst xs, .lst ys => D.ltbL xs ys
  | _, _ => false
def D.ltbL : List D → List D → Bool
  | [], _ :: _ => true
  | _, [] => false
  | x :: xs, y :: ys => if D.eqb x y then D.ltbL xs ys else D.ltb x y
end

/-- a cell: un: nothing known; va: a value that never changes any more; ow: an object that this name alone holds; bo: one that the caller holds;
fb: a caller's one that may change no more; lk: one that is walked -/
inductive C where
  | un | va (d : D) | ow (d : D) | bo (d : D) | fb (d : D) | lk (d : D)
deriving Inhabited
/-- an expression's result: a value, a new object that no name holds, the object at a slot -/
inductive R where
  | va (d : D) | ow (d : D) | sl (i : Nat)
deriving Inhabited
/-- an exception: its class; TooMany's limit -/
inductive Exn where
  | cls (x : Str) | lim (i : Int)
abbrev Env := List C
abbrev Out (α : Type) := Option (Except Exn α × Env)
abbrev ME := Env → Out R
abbrev MB := Env → Out Bool

def bnd {α β : Type} (x : Out α) (k : α → Env → Out β) : Out β := match x with
  | none => none
  | some (.ok a, ρ) => k a ρ
  | some (.error e, ρ) => some (.error e, ρ)
def ret {α : Type} (a : α) (ρ : Env) : Out α := some (.ok a, ρ)

def cellD : C → Option D
  | .un => none
  | .va d => some d
  | .ow d => some d
  | .bo d => some d
  | .fb d => some d
  | .lk d => some d
/-- what a result is just now -/
def deref (ρ : Env) : R → Option D
  | .va d => some d
  | .ow d => some d
  | .sl i => match ρ[i]? with
    | some c => cellD c
    | none => none
/-- a result as a value for ever -/
def frz (r : R) (ρ : Env) : Option (D × Env) := match r with
  | .va d => some (d, ρ)
  | .ow d => some (d, ρ)
  | .sl i => match ρ[i]? with
    | some (.va d) => some (d, ρ)
    | some (.fb d) => some (d, ρ)
    | some (.ow d) => some (d, ρ.set i (.va d))
    | some (.bo d) => some (d, ρ.set i (.fb d))
    | _ => none
/-! ### expressions -/
def mVar (i : Nat) : ME := fun ρ => match ρ[i]? with
  | some (.va d) => ret (.va d) ρ
  | some (.fb d) => ret (.va d) ρ
  | some (.ow _) => ret (.sl i) ρ
  | some (.bo _) => ret (.sl i) ρ
  | some (.lk _) => ret (.sl i) ρ
  | _ => none
def mK (d : D) : ME := fun ρ => ret (.va d) ρ
/-- the items of a display, the arguments of a builtin: values -/
abbrev MD := Env → Out (List D)
def mNil : MD := fun ρ => ret [] ρ
def mCons (a : ME) (b : MD) : MD := fun ρ => bnd (a ρ) fun x ρ1 => match frz x ρ1 with
  | some (d, ρ2) => bnd (b ρ2) fun ds ρ3 => ret (d :: ds) ρ3
  | none => none
/-- the largest size of lists and texts that is let -/
def big : Nat := 16777216
def mTup (a : MD) : ME := fun ρ => bnd (a ρ) fun ds ρ1 => if ds.length ≤ big then ret (.va (.tup ds)) ρ1 else none
def mLst (a : MD) : ME := fun ρ => bnd (a ρ) fun ds ρ1 => if ds.length ≤ big then ret (.ow (.lst ds)) ρ1 else none
/-- an operation on two values, one -/
abbrev F2 := D → D → Option R
abbrev F1 := D → Option R
def mOp2 (f : F2) (a b : ME) : ME := fun ρ => bnd (a ρ) fun x ρ1 => bnd (b ρ1) fun y ρ2 => match deref ρ2 x, deref ρ2 y with
  | some d, some e => match f d e with
    | some r => ret r ρ2
    | none => none
  | _, _ => none
def mOp1 (f : F1) (a : ME) : ME := fun ρ => bnd (a ρ) fun x ρ1 => match deref ρ1 x with
  | some d => match f d with
    | some r => ret r ρ1
    | none => none
  | none => none
abbrev FN := List D → Option R
/-- a call of a builtin with several arguments -/
def mOpN (f : FN) (a : MD) : ME := fun ρ => bnd (a ρ) fun ds ρ1 => match f ds with
  | some r => ret r ρ1
  | none => none
/-- values as tests -/
def mB (a : ME) : MB := fun ρ => bnd (a ρ) fun x ρ1 => match x with
  | .va (.bl b) => ret b ρ1
  | _ => none
def mAnd (a b : MB) : MB := fun ρ => bnd (a ρ) fun x ρ1 => if x = true then b ρ1 else ret false ρ1
def mOr (a b : MB) : MB := fun ρ => bnd (a ρ) fun x ρ1 => if x = true then ret true ρ1 else b ρ1
def mNot (a : MB) : MB := fun ρ => bnd (a ρ) fun x ρ1 => ret (!x) ρ1
/-- tests as values -/
def mAndV (a b : ME) : ME := fun ρ => bnd (a ρ) fun x ρ1 => match x with
  | .va (.bl true) => b ρ1
  | .va (.bl false) => ret (.va (.bl false)) ρ1
  | _ => none
def mOrV (a b : ME) : ME := fun ρ => bnd (a ρ) fun x ρ1 => match x with
  | .va (.bl true) => ret (.va (.bl true)) ρ1
  | .va (.bl false) => b ρ1
  | _ => none
def mNotV (a : ME) : ME := fun ρ => bnd (a ρ) fun x ρ1 => match x with
  | .va (.bl b) => ret (.va (.bl (!b))) ρ1
  | _ => none
def mIf (c : MB) (a b : ME) : ME := fun ρ => bnd (c ρ) fun x ρ1 => if x = true then a ρ1 else b ρ1
/-- a op b op' c -/
def mChain (f g : F2) (a b c : ME) : ME := fun ρ => bnd (a ρ) fun x ρ1 => bnd (b ρ1) fun y ρ2 => match deref ρ2 x, deref ρ2 y with
  | some d, some e => match f d e with
    | some (.va (.bl true)) => bnd (c ρ2) fun z ρ3 => match deref ρ3 y, deref ρ3 z with
      | some e', some h => match g e' h with
        | some r => ret r ρ3
        | none => none
      | _, _ => none
    | some (.va (.bl false)) => ret (.va (.bl false)) ρ2
    | _ => none
  | _, _ => none

/-! ### dicts as they are made -/
def mDict0 : ME := fun ρ => ret (.ow (.dic [])) ρ
/-! ### calls of defs -/
abbrev Fn := List C → Out R
/-- an argument: a value, or the object at a slot, lent -/
inductive Ar where
  | va (d : D) | sl (i : Nat)
abbrev ML := Env → Out (List Ar)
def mANil : ML := fun ρ => ret [] ρ
def mACons (a : ME) (b : ML) : ML := fun ρ => bnd (a ρ) fun x ρ1 => bnd (b ρ1) fun xs ρ2 => match x with
  | .va d => ret (.va d :: xs) ρ2
  | .ow d => ret (.va d :: xs) ρ2
  | .sl i => ret (.sl i :: xs) ρ2
def argC (ρ : Env) : Ar → Option C
  | .va d => some (.va d)
  | .sl i => match ρ[i]? with
    | some (.va d) => some (.va d)
    | some (.fb d) => some (.va d)
    | some (.ow d) => some (.bo d)
    | some (.bo d) => some (.bo d)
    | _ => none
def argCs (ρ : Env) : List Ar → Option (List C)
  | [] => some []
  | r :: rs => match argC ρ r, argCs ρ rs with
    | some c, some cs => some (c :: cs)
    | _, _ => none
/-- the slots that are lent -/
def lent : List Ar → List Nat
  | [] => []
  | .sl i :: rs => i :: lent rs
  | .va _ :: rs => lent rs
def nodupN : List Nat → Bool
  | [] => true
  | i :: is => !is.contains i && nodupN is
/-- the callee's last state of its parameters, back in the caller's slots -/
def back1v : C → C → Option C
  | .ow _, .bo d => some (.ow d)
  | .ow _, .fb d => some (.va d)
  | .bo _, .bo d => some (.bo d)
  | .bo _, .fb d => some (.fb d)
  | .va d, _ => some (.va d)
  | .fb d, _ => some (.fb d)
  | _, _ => none
def back1 (ρ : Env) (i : Nat) (c : C) : Option Env := match ρ[i]? with
  | some c0 => (match back1v c0 c with
    | some c2 => some (ρ.set i c2)
    | none => none)
  | none => none
def back : List Ar → List C → Env → Option Env
  | [], [], ρ => some ρ
  | .va _ :: rs, _ :: cs, ρ => back rs cs ρ
  | .sl i :: rs, c :: cs, ρ => match back1 ρ i c with
    | some ρ1 => back rs cs ρ1
    | none => none
  | _, _, _ => none
def isBo : C → Bool
  | .bo _ => true
  | _ => false
def mCall (f : Fn) (a : ML) : ME := fun ρ => bnd (a ρ) fun rs ρ1 => if nodupN (lent rs) then (match argCs ρ1 rs with
  | none => none
  | some cs => (match f cs with
      | none => none
      | some (.error e, _) => if cs.any isBo then none else some (.error e, ρ1)
      | some (.ok r, cs') => (match back rs cs' ρ1 with
        | some ρ2 => (match r with
          | .sl _ => none
          | _ => ret r ρ2)
        | none => none))) else none

/-! ### changes of objects by methods -/
def setOwn (ρ : Env) (i : Nat) (d : D) : Option Env := match ρ[i]? with
  | some (.ow _) => some (ρ.set i (.ow d))
  | some (.bo _) => some (ρ.set i (.bo d))
  | _ => none
def isOwn (ρ : Env) (i : Nat) : Option D := match ρ[i]? with
  | some (.ow d) => some d
  | some (.bo d) => some d
  | _ => none

/-! dicts: keys all tuples, or none is -/
def isTupD : D → Bool
  | .tup _ => true
  | _ => false
def isLeaf : D → Bool
  | .int _ => true
  | .str _ => true
  | _ => false
mutual
/-- it can be a key -/
def D.hb : D → Bool
  | .non => true
  | .bl _ => true
  | .int _ => true
  | .str _ => true
  | .tup l => D.hbL l
  | _ => false
def D.hbL : List D → Bool
  | [] => true
  | x :: xs => D.hb x && D.hbL xs
end
def keyOk (l : List (D × D)) (k : D) : Bool := D.sh k && D.hb k && (if isTupD k then l.all (fun p => isTupD p.1) else isLeaf k && l.all (fun p => isLeaf p.1))
def dget (l : List (D × D)) (k : D) : Option D := (l.find? fun p => D.eqb p.1 k).map (·.2)
def dput (l : List (D × D)) (k v : D) : List (D × D) := if (dget l k).isSome then l.map (fun p => if D.eqb p.1 k then (p.1, v) else p) else l ++ [(k, v)]
/-- c[k] = d -/
def putIx : D → D → D → Option D
  | .lst l, .int i, d => match (if 0 ≤ i then (if i < l.length then some i.toNat else none) else if -(l.length : Int) ≤ i then some (i + l.length).toNat else none) with
    | some j => some (.lst (l.set j d))
    | none => none
  | .dic l, k, d => if keyOk l k && decide (l.length < big) then some (.dic (dput l k d)) else none
  | _, _, _ => none
/-- a method that changes its list; its argument is frozen -/
abbrev FM := D → List D → Option (D × R)
def fAppend : FM
  | .lst l, [d] => if l.length < big then some (.lst (l ++ [d]), .va .non) else none
  | _, _ => none
def fPop : FM
  | .lst l, [] => match l[l.length - 1]? with
    | some d => some (.lst l.dropLast, .va d)
    | none => none
  | .lst l, [.int i] => if decide (-(2 ^ 63) ≤ i) && decide (i < 2 ^ 63) then (match (if 0 ≤ i then (if i < l.length then some i.toNat else none) else if -(l.length : Int) ≤ i then some (i + l.length).toNat else none) with
      | some j => (match l[j]? with
        | some d => some (.lst (l.eraseIdx j), .va d)
        | none => none)
      | none => none) else none
  | _, _ => none
def isLstO : Option D → Bool
  | some (.lst _) => true
  | _ => false
def mMeth (f : FM) (o : ME) (a : MD) : ME := fun ρ => bnd (o ρ) fun x ρ1 => if isLstO (deref ρ1 x) then bnd (a ρ1) fun ds ρ2 => (match x with
  | .sl i => (match isOwn ρ2 i with
    | some c => (match f c ds with
      | some (c', r) => (match setOwn ρ2 i c' with
        | some ρ3 => ret r ρ3
        | none => none)
      | none => none)
    | none => none)
  | _ => none) else none
/-! ### statements -/
inductive Fl where
  | nx | bk | ct | rt (r : R)
abbrev MS := Env → Out Fl
/-- the caller's, or walked: no new value comes there -/
def isPin : C → Bool
  | .bo _ => true
  | .fb _ => true
  | .lk _ => true
  | _ => false
def put1 (i : Nat) (r : R) (ρ : Env) : Option Env := match r with
  | .va d => some (ρ.set i (.va d))
  | .ow d => some (ρ.set i (.ow d))
  | .sl j => match frz (.sl j) ρ with
    | some (d, ρ1) => some (ρ1.set i (.va d))
    | none => none
/-- a value comes to a slot -/
def store (i : Nat) (r : R) (ρ : Env) : Option Env := match ρ[i]? with
  | some c => if isPin c = true then none else put1 i r ρ
  | none => none
def mSkip : MS := fun ρ => ret .nx ρ
def mSeq (a b : MS) : MS := fun ρ => bnd (a ρ) fun f ρ1 => match f with
  | .nx => b ρ1
  | f => ret f ρ1
def mSet (i : Nat) (a : ME) : MS := fun ρ => bnd (a ρ) fun r ρ1 => match store i r ρ1 with
  | some ρ2 => ret .nx ρ2
  | none => none
/-- o[k] = v -/
def mSetIx (o k v : ME) : MS := fun ρ => bnd (v ρ) fun z ρ1 => bnd (o ρ1) fun x ρ2 => bnd (k ρ2) fun y ρ3 => match frz z ρ3 with
  | some (d, ρ4) => (match x with
    | .sl i => (match deref ρ4 y with
      | some kd => (match isOwn ρ4 i with
        | some c => (match putIx c kd d with
          | some c' => (match setOwn ρ4 i c' with
            | some ρ5 => ret .nx ρ5
            | none => none)
          | none => none)
        | none => none)
      | none => none)
    | _ => none)
  | none => none
def mDrop (a : ME) : MS := fun ρ => bnd (a ρ) fun _ ρ1 => ret .nx ρ1
def mRet (a : ME) : MS := fun ρ => bnd (a ρ) fun r ρ1 => ret (.rt r) ρ1
def mRetN : MS := fun ρ => ret (.rt (.va .non)) ρ
def mBreak : MS := fun ρ => ret .bk ρ
def mIfS (c : MB) (a b : MS) : MS := fun ρ => bnd (c ρ) fun x ρ1 => if x = true then a ρ1 else b ρ1
def mStuck : MS := fun _ => none
/-- several names at once, none captured: from the right; no slot is meant any more -/
def settle (r : R) (ρ : Env) : Option (R × Env) := match r with
  | .va d => some (.va d, ρ)
  | .ow d => some (.ow d, ρ)
  | .sl i => match frz (.sl i) ρ with
    | some (d, ρ1) => some (.va d, ρ1)
    | none => none
def mSettle (a : ME) : ME := fun ρ => bnd (a ρ) fun x ρ1 => match settle x ρ1 with
  | some (y, ρ2) => ret y ρ2
  | none => none
def mPar2 (i j : Nat) (a b : ME) : MS := fun ρ => bnd (mSettle a ρ) fun x ρ1 => bnd (mSettle b ρ1) fun y ρ2 => match store j y ρ2 with
  | some ρ3 => (match store i x ρ3 with
    | some ρ4 => ret .nx ρ4
    | none => none)
  | none => none
def mPar3 (i j k : Nat) (a b c : ME) : MS := fun ρ => bnd (mSettle a ρ) fun x ρ1 => bnd (mSettle b ρ1) fun y ρ2 => bnd (mSettle c ρ2) fun z ρ3 => match store k z ρ3 with
  | some ρ4 => (match store j y ρ4 with
    | some ρ5 => (match store i x ρ5 with
      | some ρ6 => ret .nx ρ6
      | none => none)
    | none => none)
  | none => none
/-- a target: a name, a tuple of targets -/
inductive Tg where
  | nm (i : Nat) | tp (l : List Tg)
mutual
def tgt : Tg → D → Env → Option Env
  | .nm i, d, ρ => store i (.va d) ρ
  | .tp ts, .tup ds, ρ => tgts ts ds ρ
  | .tp _, _, _ => none
def tgts : List Tg → List D → Env → Option Env
  | [], [], ρ => some ρ
  | t :: ts, d :: ds, ρ => match tgt t d ρ with
    | some ρ1 => tgts ts ds ρ1
    | none => none
  | _, _, _ => none
end
mutual
/-- the slots of a target -/
def slT : Tg → List Nat
  | .nm i => [i]
  | .tp ts => slTs ts
def slTs : List Tg → List Nat
  | [] => []
  | t :: ts => slT t ++ slTs ts
end
def mUnp (ts : List Tg) (a : ME) : MS := fun ρ => bnd (a ρ) fun r ρ1 => match frz r ρ1 with
  | some (.tup ds, ρ2) => (match tgts ts ds ρ2 with
    | some ρ3 => ret .nx ρ3
    | none => none)
  | _ => none

/-! ### what is walked -/
abbrev MI := Env → Out (List D × List Nat)
/-- what is walked, and the slots that are locked meanwhile -/
def lockOf (r : R) (ρ : Env) : Option (D × List Nat) := match r with
  | .va d => some (d, [])
  | .ow d => some (d, [])
  | .sl i => match ρ[i]? with
    | some (.va d) => some (d, [])
    | some (.fb d) => some (d, [])
    | some (.lk d) => some (d, [])
    | some (.ow d) => some (d, [i])
    | some (.bo d) => some (d, [i])
    | _ => none
def lock1 (ρ : Env) (i : Nat) : Env := match ρ[i]? with
  | some (.ow d) => ρ.set i (.lk d)
  | some (.bo d) => ρ.set i (.lk d)
  | _ => ρ
def lockE : List Nat → Env → Env
  | [], ρ => ρ
  | i :: is, ρ => lockE is (lock1 ρ i)
/-- as they were in ρ1 -/
def unlockE (ρ1 : Env) : List Nat → Env → Env
  | [], ρ => ρ
  | i :: is, ρ => unlockE ρ1 is (match ρ1[i]? with
    | some c => ρ.set i c
    | none => ρ)
def itemsOf : D → Option (List D)
  | .tup l => some l
  | .lst l => some l
  | .dic l => some (l.map (·.1))
  | _ => none
def seqOf : D → Option (List D)
  | .tup l => some l
  | .lst l => some l
  | _ => none
def miSeq (a : ME) : MI := fun ρ => bnd (a ρ) fun r ρ1 => match lockOf r ρ1 with
  | some (d, u) => (match itemsOf d with
    | some l => ret (l, u) ρ1
    | none => none)
  | none => none
def rangeL (a b : Int) : List D := (List.range (b - a).toNat).map fun (k : Nat) => D.int (a + (k : Int))
def small62 (i : Int) : Bool := decide (-(2 ^ 62) ≤ i) && decide (i < 2 ^ 62)
def miRange1 (a : ME) : MI := fun ρ => bnd (a ρ) fun r ρ1 => match r with
  | .va (.int j) => if small62 j then ret (rangeL 0 j, []) ρ1 else none
  | _ => none
def miRange2 (a b : ME) : MI := fun ρ => bnd (a ρ) fun r ρ1 => bnd (b ρ1) fun q ρ2 => match r, q with
  | .va (.int i), .va (.int j) => if small62 i && small62 j then ret (rangeL i j, []) ρ2 else none
  | _, _ => none
def zipD : List D → List D → List D
  | x :: xs, y :: ys => .tup [x, y] :: zipD xs ys
  | _, _ => []
def miZip (a b : ME) : MI := fun ρ => bnd (a ρ) fun r ρ1 => bnd (b ρ1) fun q ρ2 => match lockOf r ρ2 with
  | some (d, u) => (match lockOf q ρ2 with
    | some (e, v) => (match seqOf d, seqOf e with
      | some xs, some ys => ret (zipD xs ys, u ++ v) ρ2
      | _, _ => none)
    | none => none)
  | none => none
def enumD : Nat → List D → List D
  | _, [] => []
  | k, x :: xs => .tup [.int (k : Int), x] :: enumD (k + 1) xs
def miEnum (a : ME) : MI := fun ρ => bnd (a ρ) fun r ρ1 => match lockOf r ρ1 with
  | some (d, u) => (match seqOf d with
    | some l => ret (enumD 0 l, u) ρ1
    | none => none)
  | none => none

/-! ### loops -/
def forLoop (t : Tg) (b : MS) : List D → Env → Out Fl
  | [], ρ => ret .nx ρ
  | d :: ds, ρ => match tgt t d ρ with
    | none => none
    | some ρ1 => bnd (b ρ1) fun f ρ2 => match f with
      | .nx => forLoop t b ds ρ2
      | .ct => forLoop t b ds ρ2
      | .bk => ret .nx ρ2
      | .rt r => ret (.rt r) ρ2
def unlockFl (ρ1 : Env) (u : List Nat) (x : Out Fl) : Out Fl := match x with
  | none => none
  | some (.error e, ρ) => (match u with
    | [] => some (.error e, ρ)
    | _ => none)
  | some (.ok f, ρ) => some (.ok f, unlockE ρ1 u ρ)
def mFor (i : MI) (t : Tg) (b : MS) : MS := fun ρ => bnd (i ρ) fun p ρ1 => unlockFl ρ1 p.2 (forLoop t b p.1 (lockE p.2 ρ1))
def whileL (c : MB) (b : MS) : Nat → Env → Out Fl
  | 0, _ => none
  | n + 1, ρ => bnd (c ρ) fun x ρ1 => if x = true then (bnd (b ρ1) fun f ρ2 => match f with
      | .nx => whileL c b n ρ2
      | .ct => whileL c b n ρ2
      | .bk => ret .nx ρ2
      | .rt r => ret (.rt r) ρ2) else ret .nx ρ1
def fuel : Nat := 1000000000
def mWhile (c : MB) (b : MS) : MS := whileL c b fuel

/-! ### comprehensions: own: the slots of the block's own names -/
def wipeC (ρ : Env) : List Nat → Env
  | [] => ρ
  | i :: is => (wipeC ρ is).set i .un
/-- the slots as they were ahead of the block -/
def unwipe (ρ ρ' : Env) : List Nat → Env
  | [] => ρ'
  | i :: is => match ρ[i]? with
    | some c => (unwipe ρ ρ' is).set i c
    | none => unwipe ρ ρ' is
/-- no slot of the block's is walked, or the caller's -/
def freeOwn (ρ : Env) : List Nat → Bool
  | [] => true
  | i :: is => (match ρ[i]? with
    | some .un => true
    | some (.va _) => true
    | some (.ow _) => true
    | _ => false) && freeOwn ρ is
abbrev MT := Env → Out Bool
def mYes : MT := fun ρ => ret true ρ
/-- one turn of a block: own slots empty, the target, the tests, the element -/
def compLoop (own : List Nat) (t : Tg) (c : MT) (e : ME) : List D → List D → Env → Out (List D)
  | [], acc, ρ => ret acc (wipeC ρ own)
  | d :: ds, acc, ρ => match tgt t d (wipeC ρ own) with
    | none => none
    | some ρ1 => match c ρ1 with
      | some (.ok true, ρ2) => (match e ρ2 with
        | some (.ok r, ρ3) => (match frz r ρ3 with
          | some (x, ρ4) => if acc.length < big then compLoop own t c e ds (acc ++ [x]) ρ4 else none
          | none => none)
        | _ => none)
      | some (.ok false, ρ2) => compLoop own t c e ds acc ρ2
      | _ => none
def mComp (own : List Nat) (i : MI) (t : Tg) (c : MT) (e : ME) : ME := fun ρ => bnd (i ρ) fun p ρ1 =>
  if freeOwn (lockE p.2 ρ1) own then (match compLoop own t c e p.1 [] (lockE p.2 ρ1) with
    | some (.ok l, ρ2) => ret (.ow (.lst l)) (unlockE ρ1 p.2 (unwipe (lockE p.2 ρ1) ρ2 own))
    | _ => none) else none
/-- two clauses -/
def compLoop2 (own own1 : List Nat) (t : Tg) (c : MT) (i1 : MI) (t1 : Tg) (c1 : MT) (e : ME) : List D → List D → Env → Out (List D)
  | [], acc, ρ => ret acc (wipeC ρ own)
  | d :: ds, acc, ρ => match tgt t d (wipeC ρ own) with
    | none => none
    | some ρ1 => match c ρ1 with
      | some (.ok true, ρ2) => (match i1 ρ2 with
        | some (.ok p, ρ3) => if freeOwn (lockE p.2 ρ3) own1 then (match compLoop own1 t1 c1 e p.1 acc (lockE p.2 ρ3) with
          | some (.ok acc', ρ4) => compLoop2 own own1 t c i1 t1 c1 e ds acc' (unlockE ρ3 p.2 ρ4)
          | _ => none) else none
        | _ => none)
      | some (.ok false, ρ2) => compLoop2 own own1 t c i1 t1 c1 e ds acc ρ2
      | _ => none
def mComp2 (own own1 : List Nat) (i : MI) (t : Tg) (c : MT) (i1 : MI) (t1 : Tg) (c1 : MT) (e : ME) : ME := fun ρ => bnd (i ρ) fun p ρ1 =>
  if freeOwn (lockE p.2 ρ1) own then (match compLoop2 own own1 t c i1 t1 c1 e p.1 [] (lockE p.2 ρ1) with
    | some (.ok l, ρ2) => ret (.ow (.lst l)) (unlockE ρ1 p.2 (unwipe (lockE p.2 ρ1) ρ2 own))
    | _ => none) else none

/-! ### defs: n parameters, more names -/
def resR (ρ : Env) : R → Option (R × Env)
  | .va d => some (.va d, ρ)
  | .ow d => some (.ow d, ρ)
  | .sl i => match ρ[i]? with
    | some (.va d) => some (.va d, ρ)
    | some (.fb d) => some (.va d, ρ)
    | some (.ow d) => some (.ow d, ρ)
    | some (.bo d) => some (.va d, ρ.set i (.fb d))
    | _ => none
/-- what the caller is told of a parameter -/
def bks : C → C
  | .bo d => .bo d
  | .fb d => .fb d
  | _ => .un
def mDef (n more : Nat) (b : MS) : Fn := fun cs => if cs.length = n then (match b (cs ++ List.replicate more .un) with
  | some (.ok .nx, ρ) => ret (.va .non) ((ρ.take n).map bks)
  | some (.ok (.rt r), ρ) => (match resR ρ r with
    | some (r', ρ') => ret r' ((ρ'.take n).map bks)
    | none => none)
  | some (.error e, ρ) => some (.error e, (ρ.take n).map bks)
  | _ => none) else none

/-! ### operations -/
def vInt (i : Int) : Option R := some (.va (.int i))
def vBl (b : Bool) : Option R := some (.va (.bl b))
def fAdd : F2
  | .int i, .int j => vInt (i + j)
  | .str x, .str y => if x.cps.size + y.cps.size ≤ big then some (.va (.str ⟨x.cps ++ y.cps⟩)) else none
  | .lst xs, .lst ys => if xs.length + ys.length ≤ big then some (.ow (.lst (xs ++ ys))) else none
  | .tup xs, .tup ys => if xs.length + ys.length ≤ big then some (.va (.tup (xs ++ ys))) else none
  | _, _ => none
def fSub : F2
  | .int i, .int j => vInt (i - j)
  | _, _ => none
def wide (i j : Int) : Bool := decide (i.natAbs.log2 + j.natAbs.log2 < 1000000)
def near (i : Int) : Bool := decide (-(2 ^ 64) < i) && decide (i < 2 ^ 64)
def repL (l : List D) : Nat → List D
  | 0 => []
  | n + 1 => l ++ repL l n
def fMul : F2
  | .int i, .int j => if near i || near j || wide i j then vInt (i * j) else none
  | .lst xs, .int k => if decide (-(2 ^ 63) ≤ k) && decide (k < 2 ^ 63) && decide (xs.length * k.toNat ≤ big) then some (.ow (.lst (repL xs k.toNat))) else none
  | .tup xs, .int k => if decide (-1000 ≤ k) && decide (k ≤ 1000) && decide (xs.length ≤ 1000) then some (.va (.tup (repL xs k.toNat))) else none
  | _, _ => none
def fDiv : F2
  | .int i, .int j => if decide (0 < j) && (decide (j < 1073741824) || decide (j.natAbs.log2 < 9000)) then vInt (i / j) else none
  | _, _ => none
def fMod : F2
  | .int i, .int j => if decide (0 < j) then vInt (i % j) else none
  | _, _ => none
def fPow : F2
  | .int i, .int j => if decide (0 ≤ j) && decide (j ≤ 1000000) && decide (i.natAbs < 2 ^ 64) then vInt (i ^ j.toNat) else none
  | _, _ => none
def fNeg : F1
  | .int i => vInt (-i)
  | _ => none
def fEq : F2 := fun a b => if D.sh a && D.sh b then vBl (D.eqb a b) else none
def fNe : F2 := fun a b => if D.sh a && D.sh b then vBl (!D.eqb a b) else none
def cmpOk (a b : D) : Bool := D.sh a && D.sh b && D.alk a b
def isNon : D → Bool
  | .non => true
  | _ => false
def fLt : F2 := fun a b => if cmpOk a b && !isNon a then vBl (D.ltb a b) else none
def fGt : F2 := fun a b => if cmpOk b a && !isNon a then vBl (D.ltb b a) else none
def fLe : F2 := fun a b => if cmpOk b a && !isNon a then vBl (!D.ltb b a) else none
def fGe : F2 := fun a b => if cmpOk a b && !isNon a then vBl (!D.ltb a b) else none
def hasD (l : List D) (x : D) : Bool := l.any fun y => D.eqb y x
def shL (l : List D) : Bool := l.all D.sh
def fIn : F2
  | x, .lst l => if D.sh x && shL l then vBl (hasD l x) else none
  | x, .tup l => if D.sh x && shL l then vBl (hasD l x) else none
  | x, .dic l => if keyOk l x then vBl (dget l x).isSome else none
  | _, _ => none
def fNotIn : F2
  | x, .lst l => if D.sh x && shL l then vBl (!hasD l x) else none
  | x, .tup l => if D.sh x && shL l then vBl (!hasD l x) else none
  | x, .dic l => if keyOk l x then vBl (!(dget l x).isSome) else none
  | _, _ => none
/-- is None, is True, is False -/
def fIs : F2
  | x, .non => vBl (isNon x)
  | .bl a, .bl b => vBl (decide (a = b))
  | _, _ => none
def fIsN : F2
  | x, .non => vBl (!isNon x)
  | .bl a, .bl b => vBl (!decide (a = b))
  | _, _ => none
/-- the place of an index -/
def ixD (n : Nat) (i : Int) : Option Nat := if 0 ≤ i then (if i < n then some i.toNat else none) else if -(n : Int) ≤ i then some (i + n).toNat else none
def fIx : F2
  | .lst l, .int i => match ixD l.length i with
    | some j => (l[j]?).map .va
    | none => none
  | .tup l, .int i => match ixD l.length i with
    | some j => (l[j]?).map .va
    | none => none
  | .dic l, k => if keyOk l k then (dget l k).map .va else none
  | _, _ => none
/-- where a part of a slice lies -/
def slP (n d : Nat) : Option Int → Nat
  | none => d
  | some i => if i < 0 then (i + n).toNat else min i.toNat n
def cutD (l : List D) (lo hi : Option Int) : List D := (l.drop (slP l.length 0 lo)).take (slP l.length l.length hi - slP l.length 0 lo)
def fSl (lo hi : Option Int) : F1
  | .lst l => some (.ow (.lst (cutD l lo hi)))
  | .tup l => some (.va (.tup (cutD l lo hi)))
  | _ => none
def partD : Option D → Option (Option Int)
  | none => some none
  | some (.int i) => some (some i)
  | _ => none
abbrev MO := Env → Out (Option Int)
def moN : MO := fun ρ => ret none ρ
def moS (a : ME) : MO := fun ρ => bnd (a ρ) fun r ρ1 => match r with
  | .va (.int i) => ret (some i) ρ1
  | _ => none
def mSl (a : ME) (lo hi : MO) : ME := fun ρ => bnd (a ρ) fun r ρ1 => bnd (lo ρ1) fun l ρ2 => bnd (hi ρ2) fun h ρ3 => match deref ρ3 r with
  | some d => (match fSl l h d with
    | some x => ret x ρ3
    | none => none)
  | none => none
def fRev : F1
  | .lst l => some (.ow (.lst l.reverse))
  | .tup l => some (.va (.tup l.reverse))
  | _ => none

/-! builtins -/
def fLen : FN
  | [.lst l] => vInt l.length
  | [.tup l] => vInt l.length
  | [.dic l] => if l.all (fun p => isLeaf p.1) && decide (l.length ≤ big) then vInt l.length else none
  | [.str x] => if x.cps.size ≤ big then vInt x.cps.size else none
  | _ => none
def intsOf : List D → Option (List Int)
  | [] => some []
  | .int i :: r => (intsOf r).map (i :: ·)
  | _ => none
def blsOf : List D → Option (List Bool)
  | [] => some []
  | .bl b :: r => (blsOf r).map (b :: ·)
  | _ => none
def fSum : FN
  | [.lst l] => (intsOf l).bind fun ns => vInt ns.sum
  | [.tup l] => (intsOf l).bind fun ns => vInt ns.sum
  | _ => none
def fAll : FN
  | [.lst l] => (blsOf l).bind fun bs => vBl (bs.all id)
  | _ => none
def fAny : FN
  | [.lst l] => (blsOf l).bind fun bs => vBl (bs.any id)
  | _ => none
def fAbs : FN
  | [.int i] => vInt (if i < 0 then -i else i)
  | _ => none
def fInt : FN
  | [.int i] => vInt i
  | [.bl b] => vInt (b2i b)
  | _ => none
/-- all can be compared -/
def alkAll (l : List D) : Bool := l.all fun x => l.all fun y => D.alk x y
def minD : D → List D → D := fun x xs => xs.foldl (fun a y => if D.ltb y a then y else a) x
def maxD : D → List D → D := fun x xs => xs.foldl (fun a y => if D.ltb a y then y else a) x
def fMin : FN
  | [.lst (x :: xs)] => if shL (x :: xs) && alkAll (x :: xs) && !isNon x then some (.va (minD x xs)) else none
  | [.int i, .int j] => vInt (if j < i then j else i)
  | [.int i, .int j, .int k] => vInt (if k < (if j < i then j else i) then k else if j < i then j else i)
  | _ => none
def fMax : FN
  | [.lst (x :: xs)] => if shL (x :: xs) && alkAll (x :: xs) && !isNon x then some (.va (maxD x xs)) else none
  | [.int i, .int j] => vInt (if j > i then j else i)
  | [.int i, .int j, .int k] => vInt (if k > (if j > i then j else i) then k else if j > i then j else i)
  | _ => none
/-- sorted: by insertion, stable -/
def insD (x : D) : List D → List D
  | [] => [x]
  | y :: ys => if D.ltb y x then y :: insD x ys else x :: y :: ys
def sortD : List D → List D
  | [] => []
  | x :: xs => insD x (sortD xs)
def neTup : D → Bool
  | .tup (_ :: _) => true
  | _ => false
def sortOk (l : List D) : Bool := shL l && alkAll l && (l.all neTup || l.all fun x => !isTupD x && !isNon x)
def isIntD : D → Bool
  | .int _ => true
  | _ => false
def fSorted : FN
  | [.lst l] => if sortOk l && decide (l.length ≤ big) then some (.ow (.lst (sortD l))) else none
  | [.dic l] => if (l.all fun p => isIntD p.1) && decide (l.length < 64) then some (.ow (.lst (sortD (l.map (·.1))))) else none
  | _ => none
def fTuple : FN
  | [.lst l] => some (.va (.tup l))
  | [.tup l] => some (.va (.tup l))
  | _ => none
def fList : FN
  | [.lst l] => some (.ow (.lst l))
  | [.tup l] => some (.ow (.lst l))
  | [.scr l] => if l.length ≤ big then some (.ow (.lst (l.map .int))) else none
  | _ => none
inductive Ty where
  | int | bool | tuple | str
def isTy : Ty → D → Bool
  | .int, .int _ => true
  | .int, .bl _ => true
  | .bool, .bl _ => true
  | .tuple, .tup _ => true
  | .str, .str _ => true
  | _, _ => false
def fIsi (t : Ty) : F1 := fun d => match d with
  | .obj _ => none
  | .scr _ => none
  | .dic _ => none
  | d => vBl (isTy t d)
/-- dict methods, asked -/
def fGet1 : F2
  | .dic l, k => if keyOk l k then some (.va ((dget l k).getD .non)) else none
  | _, _ => none
def mGet2 (a b c : ME) : ME := fun ρ => bnd (a ρ) fun x ρ1 => bnd (b ρ1) fun y ρ2 => bnd (c ρ2) fun z ρ3 => match deref ρ3 x, deref ρ3 y with
  | some (.dic l), some k => if keyOk l k then (match dget l k with
      | some v => ret (.va v) ρ3
      | none => ret z ρ3) else none
  | _, _ => none
end Mm
-- text M1
set_option Elab.async false
set_option linter.all false
/-! M1: more meanings. Pure. -/
namespace Mm
open PySem
/-- {k: v} -/
def mDict1 (k v : ME) : ME := fun ρ => bnd (k ρ) fun y ρ1 => bnd (v ρ1) fun z ρ2 => match y, frz z ρ2 with
  | .va kd, some (d, ρ3) => if keyOk [] kd then ret (.ow (.dic [(kd, d)])) ρ3 else none
  | _, _ => none
def fGcd : FN
  | [.int i, .int j] => vInt (Int.gcd i j)
  | _ => none
def isDicO : Option D → Bool
  | some (.dic _) => true
  | _ => false
/-- a.get(b, c) of a dict -/
def mGetD (a b c : ME) : ME := fun ρ => bnd (a ρ) fun x ρ1 => if isDicO (deref ρ1 x) = true then bnd (b ρ1) fun y ρ2 => bnd (c ρ2) fun z ρ3 => match deref ρ3 x, deref ρ3 y with
  | some (.dic l), some k => if keyOk l k = true then (match dget l k with
      | some v => ret (.va v) ρ3
      | none => ret z ρ3) else none
  | _, _ => none else none
end Mm
-- text S0
set_option Elab.async false
set_option linter.all false
set_option maxRecDepth 100000
/-! S0: what a cell, a result stands for in the abstract heap; how expressions and statements keep it. -/
namespace Mm
open PySem PySem.Spec PyProof.Rows L2
abbrev Sg := L2.St

/-- what is fixed through the whole law -/
structure Gr where
  K : PySem.W.Frag
  w : World
  mg : Str → Option Value
  T : List (Addr × Str)
  /-- what an object that is only handed on stands for -/
  ob : Nat → Addr

mutual
def toNK : D → NestedKey
  | .bl b => .num (b2i b)
  | .int i => .num i
  | .str x => .text x
  | .tup l => .tup (toNKs l)
  | _ => .none
def toNKs : List D → List NestedKey
  | [] => []
  | x :: xs => toNK x :: toNKs xs
end

/-- the object o is a dict with these keys (deep, as values) and values -/
def DictIs (w : World) (o : Obj) (kvs : List (D × V × V)) : Prop :=
  o.ExactDict ∧ ∃ es ep, o.data = .dict es ep ∧ Paired (fun (k : D × V × V) (e : DictEntry) => RelV k.2.1 e.key ∧ RelV k.2.2 e.val ∧ e.hash = (toNK k.1).hash w) kvs es.toList
def dO (w : World) (a : Addr) (o : Obj) (kvs : List (D × V × V)) : HO := .ext fun h => h.get? a = some o ∧ DictIs w o kvs ∧ (a == sysModules) = false ∧ kvs.length ≤ sizeLine
theorem dO_tup {w : World} {a : Addr} {o : Obj} {kvs : List (D × V × V)} {u : List V} : dO w a o kvs ≠ .tup u := by
  unfold dO; intro e; cases e
theorem dO_frz {w : World} {a : Addr} {o : Obj} {kvs : List (D × V × V)} {p : Obj} {q : HO} : dO w a o kvs ≠ .frz p q := by
  unfold dO; intro e; cases e
theorem dO_tbl {w : World} {a : Addr} {o : Obj} {kvs : List (D × V × V)} {ps : Array Value} : dO w a o kvs ≠ .tbl ps := by
  unfold dO; intro e; cases e
/-- a dict's keys: apart, all tuples or none -/
def KeysGood (l : List (D × D)) : Prop := (l.map fun p => toNK p.1).Nodup ∧ ((∀ p ∈ l, isTupD p.1 = true ∧ D.sh p.1 = true ∧ D.hb p.1 = true) ∨ ∀ p ∈ l, isLeaf p.1 = true)

/-- the law's script: a list that never changes -/
def ScrAt (K : PySem.W.Frag) (H : Hp) (a : Addr) (xs : List V) : Prop := SqL K H a xs ∧ ((∃ o, H a = some (.frz o (.lst xs))) ∨ ∀ H', SqL K H' a xs)
mutual
/-- the value v is the deep value, its lists and dicts within F, where nothing changes -/
inductive Dv (g : Gr) (H : Hp) (F : Addr → Prop) : D → V → Prop
  | non : Dv g H F .non .non
  | bl (b : Bool) : Dv g H F (.bl b) (.bl b)
  | int (i : Int) : Dv g H F (.int i) (.int i)
  | str (x : Str) : Dv g H F (.str x) (.str x)
  | tup {l a vs} : SqT g.K H a vs → DvL g H F l vs → Dv g H F (.tup l) (.ref a)
  | lst {l a vs} : F a → H a = some (.lst vs) → DvL g H F l vs → Dv g H F (.lst l) (.ref a)
  | dic {l a o kvs} : F a → H a = some (dO g.w a o kvs) → KeysGood l → DvK g H F l kvs → Dv g H F (.dic l) (.ref a)
  | obj (a : Nat) : Dv g H F (.obj a) (.ref (g.ob a))
  | scr {l a} : ScrAt g.K H a (l.map V.int) → Dv g H F (.scr l) (.ref a)
inductive DvL (g : Gr) (H : Hp) (F : Addr → Prop) : List D → List V → Prop
  | nil : DvL g H F [] []
  | cons {d ds v vs} : Dv g H F d v → DvL g H F ds vs → DvL g H F (d :: ds) (v :: vs)
inductive DvK (g : Gr) (H : Hp) (F : Addr → Prop) : List (D × D) → List (D × V × V) → Prop
  | nil : DvK g H F [] []
  | cons {k d l kv v kvs} : Dv g H F k kv → Dv g H F d v → DvK g H F l kvs → DvK g H F ((k, d) :: l) ((k, kv, v) :: kvs)
end
/-- the object at a, that may change, holds this -/
def Top (g : Gr) (H : Hp) (F : Addr → Prop) (a : Addr) : D → Prop
  | .lst l => ∃ vs, H a = some (.lst vs) ∧ DvL g H F l vs
  | .dic l => ∃ o kvs, H a = some (dO g.w a o kvs) ∧ KeysGood l ∧ DvK g H F l kvs
  | _ => False

/-- what never changes any more is kept -/
structure Keep (H H' : Hp) (F F' : Addr → Prop) : Prop where
  fr : ∀ a, F a → F' a
  ob : ∀ a o, F a → H a = some o → H' a = some o
  tu : ∀ a o, (∃ u, o = .tup u ∨ ∃ p q, o = .frz p q) → H a = some o → H' a = some o
theorem Keep.refl {H : Hp} {F : Addr → Prop} : Keep H H F F := ⟨fun _ h => h, fun _ _ _ h => h, fun _ _ _ h => h⟩
theorem Keep.trans {H H1 H2 : Hp} {F F1 F2 : Addr → Prop} (x : Keep H H1 F F1) (y : Keep H1 H2 F1 F2) : Keep H H2 F F2 :=
  ⟨fun a h => y.fr a (x.fr a h), fun a o f h => y.ob a o (x.fr a f) (x.ob a o f h), fun a o u h => y.tu a o u (x.tu a o u h)⟩
section
variable {g : Gr} {H H' : Hp} {F F' : Addr → Prop}
theorem SqT.kept (k : Keep H H' F F') {a : Addr} {vs : List V} (h : SqT g.K H a vs) : SqT g.K H' a vs := by
  rcases h with (h | ⟨o, h⟩) | h
  · exact .inl (.inl (k.tu _ _ ⟨_, .inl rfl⟩ h))
  · exact .inl (.inr ⟨o, k.tu _ _ ⟨[], .inr ⟨_, _, rfl⟩⟩ h⟩)
  · exact .inr h
theorem SqL.kept (k : Keep H H' F F') {a : Addr} {vs : List V} (f : F a) (h : SqL g.K H a vs) : SqL g.K H' a vs := by
  rcases h with (h | ⟨o, h⟩) | h
  · exact .inl (.inl (k.ob _ _ f h))
  · exact .inl (.inr ⟨o, k.tu _ _ ⟨[], .inr ⟨_, _, rfl⟩⟩ h⟩)
  · exact .inr h
theorem ScrAt.kept (k : Keep H H' F F') {a : Addr} {vs : List V} (h : ScrAt g.K H a vs) : ScrAt g.K H' a vs := by
  obtain ⟨_, h⟩ := h
  rcases h with ⟨o, h⟩ | h
  · have := k.tu _ _ ⟨[], .inr ⟨_, _, rfl⟩⟩ h
    exact ⟨.inl (.inr ⟨o, this⟩), .inl ⟨o, this⟩⟩
  · exact ⟨h H', .inr h⟩
theorem Dv.kept (k : Keep H H' F F') {d : D} {v : V} (h : Dv g H F d v) : Dv g H' F' d v :=
  Dv.rec (motive_1 := fun d v _ => Dv g H' F' d v) (motive_2 := fun l vs _ => DvL g H' F' l vs) (motive_3 := fun l vs _ => DvK g H' F' l vs)
    .non .bl .int .str (fun h _ t => .tup (SqT.kept k h) t) (fun f h _ t => .lst (k.fr _ f) (k.ob _ _ f h) t) (fun f h n _ t => .dic (k.fr _ f) (k.ob _ _ f h) n t) .obj (fun h => .scr (h.kept k))
    .nil (fun _ _ a b => .cons a b) .nil (fun _ _ _ a b c => .cons a b c) h
theorem DvL.kept (k : Keep H H' F F') : ∀ {d : List D} {v : List V}, DvL g H F d v → DvL g H' F' d v
  | _, _, .nil => .nil
  | _, _, .cons a b => .cons (Dv.kept k a) (DvL.kept k b)
theorem DvK.kept (k : Keep H H' F F') : ∀ {d : List (D × D)} {v : List (D × V × V)}, DvK g H F d v → DvK g H' F' d v
  | _, _, .nil => .nil
  | _, _, .cons a b c => .cons (Dv.kept k a) (Dv.kept k b) (DvK.kept k c)
theorem Top.kept (k : Keep H H' F F') {a : Addr} {d : D} (h : Top g H F a d) (e : ∀ o, H a = some o → H' a = some o) : Top g H' F' a d := by
  cases d with
  | lst l => obtain ⟨vs, h1, h2⟩ := h; exact ⟨vs, e _ h1, h2.kept k⟩
  | dic l => obtain ⟨o, kvs, h1, h2, h3⟩ := h; exact ⟨o, kvs, e _ h1, h2, h3.kept k⟩
  | _ => exact h.elim
theorem Top.there {a : Addr} {d : D} (h : Top g H F a d) : ∃ o, H a = some o ∧ (∀ u, o ≠ .tup u) ∧ (∀ p q, o ≠ .frz p q) ∧ ∀ ps, o ≠ .tbl ps := by
  cases d with
  | lst l => obtain ⟨vs, h1, _⟩ := h; exact ⟨_, h1, (fun _ e => by cases e), (fun _ _ e => by cases e), fun _ e => by cases e⟩
  | dic l => obtain ⟨o, kvs, h1, _⟩ := h; exact ⟨_, h1, fun _ => dO_tup, fun _ _ => dO_frz, fun _ => dO_tbl⟩
  | _ => exact h.elim
/-- it changes no more: a value -/
theorem Top.value {a : Addr} {d : D} (h : Top g H F a d) (f : F a) : Dv g H F d (.ref a) := by
  cases d with
  | lst l => obtain ⟨vs, h1, h2⟩ := h; exact .lst f h1 h2
  | dic l => obtain ⟨o, kvs, h1, h2, h3⟩ := h; exact .dic f h1 h2 h3
  | _ => exact h.elim
theorem DvL.length : ∀ {l : List D} {vs : List V}, DvL g H F l vs → l.length = vs.length
  | _, _, .nil => rfl
  | _, _, .cons _ t => by simp [DvL.length t]
theorem DvL.get : ∀ {l : List D} {vs : List V} {i : Nat} {d : D}, DvL g H F l vs → l[i]? = some d → ∃ v, vs[i]? = some v ∧ Dv g H F d v
  | _, _, _, _, .nil, e => by simp at e
  | _, _, 0, _, .cons r _, e => by simp at e; subst e; exact ⟨_, rfl, r⟩
  | _, _, i + 1, d, .cons _ t, e => by
    obtain ⟨u, h1, h2⟩ := DvL.get (i := i) (d := d) t (by simpa using e)
    exact ⟨u, by simpa using h1, h2⟩
theorem DvL.get' : ∀ {l : List D} {vs : List V} {i : Nat} {v : V}, DvL g H F l vs → vs[i]? = some v → ∃ d, l[i]? = some d ∧ Dv g H F d v
  | _, _, _, _, .nil, e => by simp at e
  | _, _, 0, _, .cons r _, e => by simp at e; subst e; exact ⟨_, rfl, r⟩
  | _, _, i + 1, v, .cons _ t, e => by
    obtain ⟨u, h1, h2⟩ := DvL.get' (i := i) (v := v) t (by simpa using e)
    exact ⟨u, by simpa using h1, h2⟩
theorem DvL.append : ∀ {l m : List D} {vs us : List V}, DvL g H F l vs → DvL g H F m us → DvL g H F (l ++ m) (vs ++ us)
  | _, _, _, _, .nil, s => s
  | _, _, _, _, .cons r t, s => .cons r (DvL.append t s)
theorem DvL.take : ∀ {l : List D} {vs : List V} (n : Nat), DvL g H F l vs → DvL g H F (l.take n) (vs.take n)
  | _, _, 0, _ => by simp; exact .nil
  | _, _, _ + 1, .nil => by simp; exact .nil
  | _, _, n + 1, .cons r t => .cons r (DvL.take n t)
theorem DvL.drop : ∀ {l : List D} {vs : List V} (n : Nat), DvL g H F l vs → DvL g H F (l.drop n) (vs.drop n)
  | _, _, 0, r => r
  | _, _, _ + 1, .nil => by simp; exact .nil
  | _, _, n + 1, .cons _ t => DvL.drop n t
theorem DvL.reverse {l : List D} {vs : List V} (h : DvL g H F l vs) : DvL g H F l.reverse vs.reverse := by
  induction l generalizing vs with
  | nil => cases h; exact .nil
  | cons d ds ih =>
    cases h with
    | cons r t =>
      rw [List.reverse_cons, List.reverse_cons]
      exact (ih t).append (.cons r .nil)
end

/-- an object that a slot may change -/
def Own (σ : Sg) (ρ : Env) (a : Addr) : Prop := ∃ (i : Nat) (d : D), (ρ[i]? = some (.ow d) ∨ ρ[i]? = some (.bo d)) ∧ σ[i]? = some (some (.ref a))
/-- .. or that is walked -/
def Held (σ : Sg) (ρ : Env) (a : Addr) : Prop := ∃ (i : Nat) (d : D), (ρ[i]? = some (.ow d) ∨ ρ[i]? = some (.bo d) ∨ ρ[i]? = some (.lk d)) ∧ σ[i]? = some (some (.ref a))
theorem Own.held {σ : Sg} {ρ : Env} {a : Addr} (h : Own σ ρ a) : Held σ ρ a := let ⟨i, d, e, s⟩ := h; ⟨i, d, e.elim .inl fun z => .inr (.inl z), s⟩
def isOb : C → Option D
  | .ow d => some d
  | .bo d => some d
  | .lk d => some d
  | _ => none
def isVal : C → Option D
  | .va d => some d
  | .fb d => some d
  | _ => none
/-- the slots σ over the heap H are as the cells ρ tell; F: the objects that change no more -/
structure Rel (g : Gr) (σ : Sg) (H : Hp) (F : Addr → Prop) (ρ : Env) : Prop where
  len : σ.length = ρ.length
  val : ∀ (i : Nat) (c : C) (d : D), ρ[i]? = some c → isVal c = some d → ∃ v, σ[i]? = some (some v) ∧ Dv g H F d v
  own : ∀ (i : Nat) (c : C) (d : D), ρ[i]? = some c → isOb c = some d → ∃ a, σ[i]? = some (some (V.ref a)) ∧ ¬ F a ∧ Top g H F a d
  inj : ∀ (i j : Nat) (c e : C) (d d' : D) (a : Addr), i ≠ j → ρ[i]? = some c → ρ[j]? = some e → isOb c = some d → isOb e = some d' → σ[i]? = some (some (.ref a)) → σ[j]? ≠ some (some (.ref a))
  fz : ∀ a, F a → ∃ o, H a = some o ∧ ∀ ps, o ≠ .tbl ps
  tab : LamX.Tabs g.T H
theorem Held.ob {σ : Sg} {ρ : Env} {a : Addr} (h : Held σ ρ a) : ∃ (i : Nat) (c : C) (d : D), ρ[i]? = some c ∧ isOb c = some d ∧ σ[i]? = some (some (.ref a)) := by
  obtain ⟨i, d, e, s⟩ := h
  rcases e with e | e | e <;> exact ⟨i, _, d, e, rfl, s⟩
theorem held_of {σ : Sg} {ρ : Env} {a : Addr} {i : Nat} {c : C} {d : D} (e : ρ[i]? = some c) (o : isOb c = some d) (s : σ[i]? = some (some (.ref a))) : Held σ ρ a := by
  cases c <;> simp [isOb] at o <;> subst o
  · exact ⟨i, _, .inl e, s⟩
  · exact ⟨i, _, .inr (.inl e), s⟩
  · exact ⟨i, _, .inr (.inr e), s⟩
section
variable {g : Gr} {σ σ' σ2 : Sg} {H H' H2 : Hp} {F F' F2 : Addr → Prop} {ρ ρ' ρ2 : Env} {a : Addr} {v : V} {r : R}
theorem Rel.top (x : Rel g σ H F ρ) (h : Held σ ρ a) : ¬ F a ∧ ∃ d, Top g H F a d := by
  obtain ⟨i, c, d, e, o, s⟩ := h.ob
  obtain ⟨b, s', n, t⟩ := x.own i c d e o
  rw [s] at s'; cases s'
  exact ⟨n, d, t⟩

/-- how a step goes from one state to the next -/
structure SF (σ : Sg) (ρ : Env) (H : Hp) (F : Addr → Prop) (σ' : Sg) (ρ' : Env) (H' : Hp) (F' : Addr → Prop) : Prop where
  fr : ∀ a, F a → F' a
  new : ∀ a, F' a → F a ∨ Own σ ρ a ∨ H a = none
  ob : ∀ a o, H a = some o → ¬ Own σ ρ a → (∀ ps, o ≠ .tbl ps) → H' a = some o
  there : ∀ a o, H a = some o → ∃ o', H' a = some o'
  own : ∀ a, Own σ' ρ' a → Own σ ρ a ∨ H a = none
  held : ∀ a, Held σ' ρ' a → Held σ ρ a ∨ H a = none
  bo : ∀ (i : Nat) (d : D), ρ[i]? = some (C.bo d) → (∃ d' : D, ρ'[i]? = some (C.bo d') ∨ (ρ'[i]? = some (C.fb d') ∧ ∀ a : Addr, σ[i]? = some (some (.ref a)) → F' a)) ∧ σ'[i]? = σ[i]?
  fb : ∀ (i : Nat) (d : D), ρ[i]? = some (C.fb d) → ρ'[i]? = some (.fb d) ∧ σ'[i]? = σ[i]?
  lk : ∀ (i : Nat) (d : D), ρ[i]? = some (C.lk d) → ρ'[i]? = some (.lk d) ∧ σ'[i]? = σ[i]?
  len : ρ'.length = ρ.length
theorem SF.refl : SF σ ρ H F σ ρ H F := ⟨fun _ h => h, fun _ h => .inl h, fun _ _ h _ _ => h, fun _ o h => ⟨o, h⟩, fun _ h => .inl h, fun _ h => .inl h, fun i d e => ⟨⟨d, .inl e⟩, rfl⟩, fun i d e => ⟨e, rfl⟩, fun i d e => ⟨e, rfl⟩, rfl⟩
theorem SF.none_of (x : SF σ ρ H F σ' ρ' H' F') (h : H' a = none) : H a = none := by
  cases e : H a with
  | none => rfl
  | some o => obtain ⟨o', e'⟩ := x.there a o e; rw [h] at e'; cases e'
theorem SF.trans (x : SF σ ρ H F σ' ρ' H' F') (y : SF σ' ρ' H' F' σ2 ρ2 H2 F2) : SF σ ρ H F σ2 ρ2 H2 F2 where
  fr := fun a h => y.fr a (x.fr a h)
  new := fun a h => by
    rcases y.new a h with h | h | h
    · exact x.new a h
    · exact .inr (x.own a h)
    · exact .inr (.inr (x.none_of h))
  ob := fun a o h n t => y.ob a o (x.ob a o h n t) (fun z => by
    rcases x.own a z with z | z
    · exact n z
    · rw [h] at z; cases z) t
  there := fun a o h => by
    obtain ⟨o', h'⟩ := x.there a o h
    exact y.there a o' h'
  own := fun a h => by
    rcases y.own a h with h | h
    · exact x.own a h
    · exact .inr (x.none_of h)
  held := fun a h => by
    rcases y.held a h with h | h
    · exact x.held a h
    · exact .inr (x.none_of h)
  bo := fun i d e => by
    obtain ⟨⟨d', e1⟩, s1⟩ := x.bo i d e
    rcases e1 with e1 | ⟨e1, f1⟩
    · obtain ⟨q, s2⟩ := y.bo i d' e1
      rw [s1] at q
      exact ⟨q, s2.trans s1⟩
    · obtain ⟨q, s2⟩ := y.fb i d' e1
      exact ⟨⟨d', .inr ⟨q, fun a h => y.fr a (f1 a h)⟩⟩, s2.trans s1⟩
  fb := fun i d e => by
    obtain ⟨e1, s1⟩ := x.fb i d e
    obtain ⟨e2, s2⟩ := y.fb i d e1
    exact ⟨e2, s2.trans s1⟩
  lk := fun i d e => by
    obtain ⟨e1, s1⟩ := x.lk i d e
    obtain ⟨e2, s2⟩ := y.lk i d e1
    exact ⟨e2, s2.trans s1⟩
  len := y.len.trans x.len
theorem SF.keep (R : Rel g σ H F ρ) (x : SF σ ρ H F σ' ρ' H' F') : Keep H H' F F' := by
  have nb : ∀ a o, H a = some o → ¬ F a → ((∃ u, o = HO.tup u) ∨ ∃ p q, o = .frz p q) → ¬ Own σ ρ a := fun a o h n u z => by
    obtain ⟨_, d, t⟩ := R.top z.held
    obtain ⟨o', h', h1, h2, h3⟩ := t.there
    rw [h] at h'; cases h'
    rcases u with ⟨u, e⟩ | ⟨p, q, e⟩
    · exact h1 u e
    · exact h2 p q e
  refine ⟨x.fr, fun a o f h => ?_, fun a o u h => ?_⟩
  · have no : ¬ Own σ ρ a := fun z => (R.top z.held).1 f
    obtain ⟨o', e', t⟩ := R.fz a f
    rw [h] at e'; cases e'
    exact x.ob a o h no t
  · obtain ⟨u, e | ⟨p, q, e⟩⟩ := u
    · subst e
      exact x.ob a _ h (fun z => by
        obtain ⟨_, d, t⟩ := R.top z.held
        obtain ⟨o', h', h1, h2, h3⟩ := t.there
        rw [h] at h'; cases h'
        exact h1 u rfl) nofun
    · subst e
      exact x.ob a _ h (fun z => by
        obtain ⟨_, d, t⟩ := R.top z.held
        obtain ⟨o', h', h1, h2, h3⟩ := t.there
        rw [h] at h'; cases h'
        exact h2 p q rfl) nofun

/-! ### results -/
/-- what the value v is; H₀: the heap ahead of the expression -/
def RelR (g : Gr) (σ : Sg) (H₀ : Hp) (ρ : Env) (H : Hp) (F : Addr → Prop) (v : V) : R → Prop
  | .va d => Dv g H F d v
  | .ow d => ∃ a, v = .ref a ∧ ¬ F a ∧ ¬ Held σ ρ a ∧ H₀ a = none ∧ Top g H F a d
  | .sl i => σ[i]? = some (some v)
theorem Top.notOwn (R : Rel g σ H F ρ) (h : Own σ ρ a) : ∃ o, H a = some o := let ⟨_, d, t⟩ := R.top h.held; let ⟨o, e, _⟩ := t.there; ⟨o, e⟩
/-- a result outlives further steps -/
theorem RelR.kept {H₀ : Hp} (R : Rel g σ H F ρ) (x : SF σ ρ H F σ ρ' H' F') (h : RelR g σ H₀ ρ H F v r) : RelR g σ H₀ ρ' H' F' v r := by
  cases r with
  | va d => exact Dv.kept (x.keep R) h
  | sl i => exact h
  | ow d =>
    obtain ⟨a, e, n, nh, h0, t⟩ := h
    have no : ¬ Own σ ρ a := fun z => nh z.held
    obtain ⟨o, eo, _, _, nt⟩ := t.there
    refine ⟨a, e, fun z => ?_, fun z => ?_, h0, t.kept (x.keep R) fun o' e' => ?_⟩
    · rcases x.new a z with z | z | z
      · exact n z
      · exact no z
      · rw [eo] at z; cases z
    · rcases x.held a z with z | z
      · exact nh z
      · rw [eo] at z; cases z
    · rw [eo] at e'; cases e'
      exact x.ob a o eo no nt
theorem RelR.weaken {H₀ H₁ : Hp} (w : ∀ a, H₀ a = none → H₁ a = none) (h : RelR g σ H₀ ρ H F v r) : RelR g σ H₁ ρ H F v r := by
  cases r with
  | va d => exact h
  | sl i => exact h
  | ow d => obtain ⟨a, e, n, nh, h0, t⟩ := h; exact ⟨a, e, n, nh, w a h0, t⟩

/-- a step's outcome -/
def ExR (g : Gr) (H : Hp) (e : Exn) (cls : Value) (d : Option Addr) : Prop := match e with
  | .cls x => d = none ∧ ∃ c, g.mg x = some (.ref c) ∧ cls = .ref c
  | .lim i => ∃ c a, g.mg "TooMany" = some (.ref c) ∧ cls = .ref c ∧ d = some a ∧ H a = some (.xd [("limit", .int i)])
def Runs (g : Gr) (E : XK) {α : Type} (x : Out α) (σ : Sg) (ρ : Env) (H : Hp) (F : Addr → Prop) (k : α → Env → Hp → (Addr → Prop) → Prop) : Prop :=
  ∃ (o : Except Exn α) (ρ' : Env), x = some (o, ρ') ∧ match o with
    | .ok a => ∀ H' F', Rel g σ H' F' ρ' → SF σ ρ H F σ ρ' H' F' → k a ρ' H' F'
    | .error e => ∀ cls d H' F', Rel g σ H' F' ρ' → SF σ ρ H F σ ρ' H' F' → ExR g H' e cls d → E cls d H'
theorem Runs.mono {E : XK} {α : Type} {x : Out α} {k k' : α → Env → Hp → (Addr → Prop) → Prop} (h : Runs g E x σ ρ H F k) (m : ∀ a ρ' H' F', Rel g σ H' F' ρ' → SF σ ρ H F σ ρ' H' F' → k a ρ' H' F' → k' a ρ' H' F') : Runs g E x σ ρ H F k' := by
  obtain ⟨o, ρ', e, h⟩ := h
  refine ⟨o, ρ', e, ?_⟩
  cases o with
  | ok a => exact fun H' F' r s => m a ρ' H' F' r s (h H' F' r s)
  | error z => exact h
/-- the first of two steps, from where one stands -/
theorem Runs.at {E : XK} {α β : Type} {x : Out α} {f : α → Env → Out β} {k : β → Env → Hp → (Addr → Prop) → Prop} {ρ1 : Env} {H1 : Hp} {F1 : Addr → Prop} (h : Runs g E (bnd x f) σ ρ H F k) (s : SF σ ρ H F σ ρ1 H1 F1) :
    Runs g E x σ ρ1 H1 F1 fun a ρ2 H2 F2 => SF σ ρ H F σ ρ2 H2 F2 ∧ Runs g E (f a ρ2) σ ρ H F k := by
  obtain ⟨o, ρ2, e, h⟩ := h
  match x, e with
  | some (.ok a, ρ1), e => exact ⟨.ok a, ρ1, rfl, fun H1 F1 r1 s1 => ⟨s.trans s1, o, ρ2, e, h⟩⟩
  | some (.error z, ρ1), e =>
    cases e
    exact ⟨.error z, _, rfl, fun cls d H' F' r s' => h cls d H' F' r (s.trans s')⟩
/-- the step is a plain answer -/
theorem Runs.ret {E : XK} {α : Type} {a : α} {k : α → Env → Hp → (Addr → Prop) → Prop} (h : Runs g E (ret a ρ') σ ρ H F k) (r : Rel g σ H' F' ρ') (s : SF σ ρ H F σ ρ' H' F') : k a ρ' H' F' := by
  obtain ⟨o, ρ2, e, h⟩ := h
  cases e
  exact h H' F' r s
theorem Runs.no {E : XK} {α : Type} {k : α → Env → Hp → (Addr → Prop) → Prop} (h : Runs g E none σ ρ H F k) : False := by
  obtain ⟨o, ρ2, e, _⟩ := h
  cases e
end
/-- the reading of an expression -/
def tE (g : Gr) (E : XK) (m : ME) : TE := fun σ H Q => ∃ ρ F, Rel g σ H F ρ ∧ Runs g E (m ρ) σ ρ H F fun r ρ' H' F' => ∀ v, RelR g σ H ρ' H' F' v r → Q v H'
/-- .. of a test -/
def tT (g : Gr) (E : XK) (m : MB) : TT := fun σ H Q => ∃ ρ F, Rel g σ H F ρ ∧ Runs g E (m ρ) σ ρ H F fun b _ H' _ => Q b H'
/-- .. of a display's items -/
def tD (g : Gr) (E : XK) (m : MD) : TA := fun σ H Q => ∃ ρ F, Rel g σ H F ρ ∧ Runs g E (m ρ) σ ρ H F fun ds _ H' F' => ∀ vs, DvL g H' F' ds vs → Q vs H'
theorem PE.sub {X : Cx} {e : Expr} {t t' : TE} (h : PE X e t) (s : ∀ σ H Q, t' σ H Q → t σ H Q) : PE X e t' := ⟨fun pins s' σ H Q I q => h.run pins s' σ H Q I (s σ H Q q)⟩
theorem PT.sub {X : Cx} {e : Expr} {t t' : TT} (h : PT X e t) (s : ∀ σ H Q, t' σ H Q → t σ H Q) : PT X e t' := ⟨fun pins s' σ H Q I q => h.run pins s' σ H Q I (s σ H Q q)⟩
theorem PW.sub {X : Cx} {e : Expr} {t t' : TT} (h : PW X e t) (s : ∀ σ H Q, t' σ H Q → t σ H Q) : PW X e t' := ⟨fun wh pins s' σ H Q I q => h.run wh pins s' σ H Q I (s σ H Q q)⟩
theorem PA.sub {X : Cx} {e : List Expr} {t t' : TA} (h : PA X e t) (s : ∀ σ H Q, t' σ H Q → t σ H Q) : PA X e t' := ⟨fun pos pins s' σ H Q I q => h.run pos pins s' σ H Q I (s σ H Q q)⟩
theorem PS.sub {X : Cx} {e : Stmt} {t t' : TS} (h : PS X e t) (s : ∀ σ H Q, t' σ H Q → t σ H Q) : PS X e t' := ⟨fun pins s' σ H Q I q => h.run pins s' σ H Q I (s Q σ H q)⟩
theorem PSs.sub {X : Cx} {e : List Stmt} {t t' : TS} (h : PSs X e t) (s : ∀ σ H Q, t' σ H Q → t σ H Q) : PSs X e t' := ⟨fun pins s' σ H Q I q => h.run pins s' σ H Q I (s Q σ H q)⟩
end Mm
-- text S1
set_option Elab.async false
set_option linter.all false
set_option maxRecDepth 100000
/-! S1: freezing, names, constants, displays, operators: their rules. -/
namespace Mm
open PySem PySem.Spec PyProof.Rows L2
/-- reading an object where it stands -/
inductive Seen (g : Gr) (H : Hp) (F : Addr → Prop) : D → V → Prop
  | val {d v} : Dv g H F d v → Seen g H F d v
  | top {d a} : Top g H F a d → Seen g H F d (.ref a)
section
variable {g : Gr} {σ σ0 : Sg} {H H0 : Hp} {F F0 : Addr → Prop} {ρ ρ0 ρ' : Env} {a : Addr} {v : V} {r : R} {d d' : D} {i : Nat}
def Fp (F : Addr → Prop) (a : Addr) : Addr → Prop := fun b => F b ∨ b = a
theorem keepFp : Keep H H F (Fp F a) := ⟨fun _ h => .inl h, fun _ _ _ h => h, fun _ _ _ h => h⟩
/-- a cell is set to one of the same standing, or lower -/
inductive Down : C → C → Prop
  | oo (d d' : D) : Down (.ow d) (.ow d')
  | bb (d d' : D) : Down (.bo d) (.bo d')
  | ov (d d' : D) : Down (.ow d) (.va d')
  | bf (d d' : D) : Down (.bo d) (.fb d')
theorem set_get {i j : Nat} {c e c' : C} (h : (ρ.set i c)[j]? = some e) (hi : ρ[i]? = some c') : (j = i ∧ e = c) ∨ (j ≠ i ∧ ρ[j]? = some e) := by
  by_cases hj : i = j
  · subst hj
    have hl : i < ρ.length := (List.getElem?_eq_some_iff.mp hi).1
    rw [List.getElem?_set_self hl] at h
    cases h
    exact .inl ⟨rfl, rfl⟩
  · rw [List.getElem?_set_ne hj] at h
    exact .inr ⟨fun e => hj e.symm, h⟩
theorem own_set {c c' : C} (hc : ρ[i]? = some c) (dn : Down c c') (h : Own σ (ρ.set i c') a) : Own σ ρ a := by
  obtain ⟨j, d, e, s⟩ := h
  have go : ∀ x : C, (ρ.set i c')[j]? = some x → (∃ d, x = .ow d ∨ x = .bo d) → Own σ ρ a := fun x hx ⟨d, hd⟩ => by
    rcases set_get hx hc with ⟨rfl, rfl⟩ | ⟨_, q⟩
    · cases dn with
      | oo d d' => exact ⟨j, _, .inl hc, s⟩
      | bb d d' => exact ⟨j, _, .inr hc, s⟩
      | ov d d' => rcases hd with z | z <;> cases z
      | bf d d' => rcases hd with z | z <;> cases z
    · rcases hd with rfl | rfl
      · exact ⟨j, _, .inl q, s⟩
      · exact ⟨j, _, .inr q, s⟩
  rcases e with e | e
  · exact go _ e ⟨d, .inl rfl⟩
  · exact go _ e ⟨d, .inr rfl⟩
theorem held_set {c c' : C} (hc : ρ[i]? = some c) (dn : Down c c') (h : Held σ (ρ.set i c') a) : Held σ ρ a := by
  obtain ⟨j, c1, d, e, o, s⟩ := h.ob
  rcases set_get e hc with ⟨rfl, rfl⟩ | ⟨_, q⟩
  · cases dn with
    | oo d d' => exact ⟨j, _, .inl hc, s⟩
    | bb d d' => exact ⟨j, _, .inr (.inl hc), s⟩
    | ov d d' => cases o
    | bf d d' => cases o
  · exact held_of q o s
theorem SF.setCell {c c' : C} (s : SF σ0 ρ0 H0 F0 σ ρ H F) (hc : ρ[i]? = some c) (dn : Down c c') (hf : ∀ d, c' = .fb d → ∀ a : Addr, σ[i]? = some (some (.ref a)) → F a) : SF σ0 ρ0 H0 F0 σ (ρ.set i c') H F := by
  have hl : i < ρ.length := (List.getElem?_eq_some_iff.mp hc).1
  refine ⟨s.fr, s.new, s.ob, s.there, fun a h => s.own a (own_set hc dn h), fun a h => s.held a (held_set hc dn h), fun j d e => ?_, fun j d e => ?_, fun j d e => ?_, by rw [List.length_set]; exact s.len⟩
  · obtain ⟨⟨d', q⟩, z⟩ := s.bo j d e
    refine ⟨?_, z⟩
    by_cases hj : i = j
    · subst hj
      rw [List.getElem?_set_self hl]
      rw [hc] at q
      cases dn with
      | oo d d' => rcases q with q | ⟨q, _⟩ <;> cases q
      | bb d d' => exact ⟨_, .inl rfl⟩
      | ov d d' => rcases q with q | ⟨q, _⟩ <;> cases q
      | bf d d' => exact ⟨_, .inr ⟨rfl, fun a h => hf _ rfl a (by rw [z]; exact h)⟩⟩
    · rw [List.getElem?_set_ne hj]
      exact ⟨d', q⟩
  · obtain ⟨q, z⟩ := s.fb j d e
    refine ⟨?_, z⟩
    by_cases hj : i = j
    · subst hj
      rw [hc] at q
      cases q
      cases dn
    · rw [List.getElem?_set_ne hj]
      exact q
  · obtain ⟨q, z⟩ := s.lk j d e
    refine ⟨?_, z⟩
    by_cases hj : i = j
    · subst hj
      rw [hc] at q
      cases q
      cases dn
    · rw [List.getElem?_set_ne hj]
      exact q
theorem SF.addF (s : SF σ0 ρ0 H0 F0 σ ρ H F) (h : F0 a ∨ Own σ0 ρ0 a ∨ H0 a = none) : SF σ0 ρ0 H0 F0 σ ρ H (Fp F a) :=
  ⟨fun b f => .inl (s.fr b f), fun b f => f.elim (s.new b) fun e => by rw [e]; exact h, s.ob, s.there, s.own, s.held, fun i d e => let ⟨⟨d', q⟩, z⟩ := s.bo i d e; ⟨⟨d', q.imp id fun ⟨q, f⟩ => ⟨q, fun a h => .inl (f a h)⟩⟩, z⟩, s.fb, s.lk, s.len⟩
theorem Top.fp {b : Addr} (h : Top g H F b d) : Top g H (Fp F a) b d := h.kept keepFp fun _ e => e
/-- a new object that no slot holds changes no more -/
theorem Rel.freezeT (R : Rel g σ H F ρ) (n : ¬ Held σ ρ a) (t : Top g H F a d) : Rel g σ H (Fp F a) ρ :=
  ⟨R.len, fun i c d e o => let ⟨v, s, x⟩ := R.val i c d e o; ⟨v, s, x.kept keepFp⟩, fun i c d e o => by
    obtain ⟨b, s, nf, tp⟩ := R.own i c d e o
    refine ⟨b, s, fun z => ?_, tp.fp⟩
    rcases z with z | z
    · exact nf z
    · exact n (by rw [← z]; exact held_of e o s),
   R.inj, fun b f => f.elim (R.fz b) fun e => by
    obtain ⟨o, h, _, _, h3⟩ := t.there
    rw [e]
    exact ⟨o, h, h3⟩, R.tab⟩
/-- a slot's object changes no more -/
theorem Rel.freezeS {c c' : C} (R : Rel g σ H F ρ) (hc : ρ[i]? = some c) (ho : isOb c = some d) (hv : isVal c' = some d) (hs : σ[i]? = some (some (.ref a))) : Rel g σ H (Fp F a) (ρ.set i c') := by
  obtain ⟨a', hs', nf, tp⟩ := R.own i c d hc ho
  rw [hs] at hs'; cases hs'
  refine ⟨by rw [List.length_set]; exact R.len, fun j e x q o => ?_, fun j e x q o => ?_, fun j k e f x y b ne q1 q2 o1 o2 s1 s2 => ?_, fun b f => f.elim (R.fz b) fun e => ?_, R.tab⟩
  · rcases set_get q hc with ⟨rfl, rfl⟩ | ⟨_, q⟩
    · rw [hv] at o; cases o
      exact ⟨_, hs, (tp.fp (a := a)).value (.inr rfl)⟩
    · obtain ⟨v, s, z⟩ := R.val j e x q o
      exact ⟨v, s, z.kept keepFp⟩
  · rcases set_get q hc with ⟨rfl, rfl⟩ | ⟨nj, q⟩
    · exfalso
      cases e <;> simp [isOb] at o <;> simp [isVal] at hv
    · obtain ⟨b, s, n, t⟩ := R.own j e x q o
      refine ⟨b, s, fun z => ?_, t.fp⟩
      rcases z with z | z
      · exact n z
      · subst z
        exact R.inj j i e c x d b nj q hc o ho s hs
  · rcases set_get q1 hc with ⟨rfl, rfl⟩ | ⟨n1, q1⟩
    · exfalso
      cases e <;> simp [isOb] at o1 <;> simp [isVal] at hv
    · rcases set_get q2 hc with ⟨rfl, rfl⟩ | ⟨n2, q2⟩
      · exfalso
        cases f <;> simp [isOb] at o2 <;> simp [isVal] at hv
      · exact R.inj j k e f x y b ne q1 q2 o1 o2 s1 s2
  · obtain ⟨o, h, _, _, h3⟩ := tp.there
    rw [e]
    exact ⟨o, h, h3⟩
theorem frz_ok (R : Rel g σ H F ρ) (s : SF σ0 ρ0 H0 F0 σ ρ H F) (x : RelR g σ H0 ρ H F v r) (e : frz r ρ = some (d, ρ')) :
    ∃ F', Rel g σ H F' ρ' ∧ SF σ0 ρ0 H0 F0 σ ρ' H F' ∧ Dv g H F' d v ∧ (∀ b, F b → F' b) := by
  cases r with
  | va d0 =>
    cases e
    exact ⟨F, R, s, x, fun _ h => h⟩
  | ow d0 =>
    cases e
    obtain ⟨a, rfl, n, nh, h0, t⟩ := x
    exact ⟨Fp F a, R.freezeT nh t, s.addF (.inr (.inr h0)), t.fp.value (.inr rfl), fun _ h => .inl h⟩
  | sl i =>
    have x : σ[i]? = some (some v) := x
    unfold frz at e
    cases hc : ρ[i]? with
    | none => simp [hc] at e
    | some c =>
      simp only [hc] at e
      cases c with
      | un => cases e
      | lk z => cases e
      | va z =>
        cases e
        obtain ⟨u, s1, z1⟩ := R.val i _ d hc rfl
        rw [x] at s1; cases s1
        exact ⟨F, R, s, z1, fun _ h => h⟩
      | fb z =>
        cases e
        obtain ⟨u, s1, z1⟩ := R.val i _ d hc rfl
        rw [x] at s1; cases s1
        exact ⟨F, R, s, z1, fun _ h => h⟩
      | ow z =>
        cases e
        obtain ⟨b, s1, nf, t⟩ := R.own i _ d hc rfl
        rw [x] at s1; cases s1
        exact ⟨Fp F b, R.freezeS hc rfl rfl x, (s.addF (.inr (s.own b ⟨i, _, .inl hc, x⟩))).setCell hc (.ov _ _) (by intro _ z; cases z), t.fp.value (.inr rfl), fun _ h => .inl h⟩
      | bo z =>
        cases e
        obtain ⟨b, s1, nf, t⟩ := R.own i _ d hc rfl
        rw [x] at s1; cases s1
        exact ⟨Fp F b, R.freezeS hc rfl rfl x, (s.addF (.inr (s.own b ⟨i, _, .inr hc, x⟩))).setCell hc (.bf _ _) (fun _ _ a h => by rw [x] at h; cases h; exact .inr rfl), t.fp.value (.inr rfl), fun _ h => .inl h⟩
theorem deref_ok (R : Rel g σ H F ρ) (x : RelR g σ H0 ρ H F v r) (e : deref ρ r = some d) : Seen g H F d v := by
  cases r with
  | va d0 => cases e; exact .val x
  | ow d0 =>
    cases e
    obtain ⟨a, rfl, n, nh, h0, t⟩ := x
    exact .top t
  | sl i =>
    have x : σ[i]? = some (some v) := x
    unfold deref at e
    cases hc : ρ[i]? with
    | none => simp [hc] at e
    | some c =>
      simp only [hc] at e
      cases c with
      | un => cases e
      | va z =>
        cases e
        obtain ⟨u, s1, z1⟩ := R.val i _ d hc rfl
        rw [x] at s1; cases s1
        exact .val z1
      | fb z =>
        cases e
        obtain ⟨u, s1, z1⟩ := R.val i _ d hc rfl
        rw [x] at s1; cases s1
        exact .val z1
      | ow z =>
        cases e
        obtain ⟨b, s1, nf, t⟩ := R.own i _ d hc rfl
        rw [x] at s1; cases s1
        exact .top t
      | bo z =>
        cases e
        obtain ⟨b, s1, nf, t⟩ := R.own i _ d hc rfl
        rw [x] at s1; cases s1
        exact .top t
      | lk z =>
        cases e
        obtain ⟨b, s1, nf, t⟩ := R.own i _ d hc rfl
        rw [x] at s1; cases s1
        exact .top t
theorem Seen.lst {l : List D} (h : Seen g H F (.lst l) v) : ∃ a vs, v = .ref a ∧ H a = some (.lst vs) ∧ DvL g H F l vs := by
  cases h with
  | val h => cases h with | lst f s t => exact ⟨_, _, rfl, s, t⟩
  | top h => obtain ⟨vs, h1, h2⟩ := h; exact ⟨_, _, rfl, h1, h2⟩
theorem Seen.tup {l : List D} (h : Seen g H F (.tup l) v) : ∃ a vs, v = .ref a ∧ SqT g.K H a vs ∧ DvL g H F l vs := by
  cases h with
  | val h => cases h with | tup s t => exact ⟨_, _, rfl, s, t⟩
  | top h => exact h.elim
theorem Seen.dic {l : List (D × D)} (h : Seen g H F (.dic l) v) : ∃ a o kvs, v = .ref a ∧ H a = some (dO g.w a o kvs) ∧ KeysGood l ∧ DvK g H F l kvs := by
  cases h with
  | val h => cases h with | dic f s n t => exact ⟨_, _, _, rfl, s, n, t⟩
  | top h => obtain ⟨o, kvs, h1, h2, h3⟩ := h; exact ⟨_, _, _, rfl, h1, h2, h3⟩
theorem Seen.int {j : Int} (h : Seen g H F (.int j) v) : v = .int j := by
  cases h with
  | val h => cases h; rfl
  | top h => exact h.elim
theorem Seen.bl {j : Bool} (h : Seen g H F (.bl j) v) : v = .bl j := by
  cases h with
  | val h => cases h; rfl
  | top h => exact h.elim
theorem Seen.str {j : Str} (h : Seen g H F (.str j) v) : v = .str j := by
  cases h with
  | val h => cases h; rfl
  | top h => exact h.elim
theorem Seen.non (h : Seen g H F .non v) : v = .non := by
  cases h with
  | val h => cases h; rfl
  | top h => exact h.elim

/-! ### a new object -/
theorem keepNew {p : Addr} {o : HO} (hn : H p = none) : Keep H (upd H p o) F F :=
  ⟨fun _ h => h, fun a u _ e => by rw [upd_ne (ne_of_none e hn)]; exact e, fun a u _ e => by rw [upd_ne (ne_of_none e hn)]; exact e⟩
theorem Rel.new {p : Addr} {o : HO} (R : Rel g σ H F ρ) (hn : H p = none) : Rel g σ (upd H p o) F ρ :=
  ⟨R.len, fun i c d e q => let ⟨v, s, x⟩ := R.val i c d e q; ⟨v, s, x.kept (keepNew hn)⟩, fun i c d e q => let ⟨b, s, nf, t⟩ := R.own i c d e q; ⟨b, s, nf, t.kept (keepNew hn) fun u z => by rw [upd_ne (ne_of_none z hn)]; exact z⟩,
   R.inj, fun b f => let ⟨u, e, z⟩ := R.fz b f; ⟨u, by rw [upd_ne (ne_of_none e hn)]; exact e, z⟩, R.tab.ext fun b u e => by rw [upd_ne (ne_of_none e hn)]; exact e⟩
theorem SF.new_ {p : Addr} {o : HO} (s : SF σ0 ρ0 H0 F0 σ ρ H F) (hn : H p = none) : SF σ0 ρ0 H0 F0 σ ρ (upd H p o) F :=
  ⟨s.fr, s.new, fun b u e n t => by
    have q := s.ob b u e n t
    rw [upd_ne (ne_of_none q hn)]; exact q, fun b u e => by
    obtain ⟨u', q⟩ := s.there b u e
    exact ⟨u', by rw [upd_ne (ne_of_none q hn)]; exact q⟩, s.own, s.held, s.bo, s.fb, s.lk, s.len⟩
theorem Rel.freshHeld {p : Addr} (R : Rel g σ H F ρ) (hn : H p = none) : ¬ Held σ ρ p := fun h => by
  obtain ⟨_, d, t⟩ := R.top h
  obtain ⟨o, e, _⟩ := t.there
  rw [hn] at e; cases e
theorem Rel.freshF {p : Addr} (R : Rel g σ H F ρ) (hn : H p = none) : ¬ F p := fun h => by
  obtain ⟨o, e, _⟩ := R.fz p h
  rw [hn] at e; cases e
/-- a new list as a result -/
theorem newL {p : Addr} {l : List D} {vs : List V} (R : Rel g σ H F ρ) (s : SF σ0 ρ0 H0 F0 σ ρ H F) (hn : H p = none) (t : DvL g H F l vs) : RelR g σ H0 ρ (upd H p (.lst vs)) F (.ref p) (.ow (.lst l)) :=
  ⟨p, rfl, R.freshF hn, R.freshHeld hn, s.none_of hn, vs, upd_same, t.kept (keepNew hn)⟩
theorem newT {p : Addr} {l : List D} {vs : List V} (hn : H p = none) (t : DvL g H F l vs) : Dv g (upd H p (.tup vs)) F (.tup l) (.ref p) :=
  .tup (SqT.of upd_same) (t.kept (keepNew hn))
end
end Mm
-- text S2
set_option Elab.async false
set_option linter.all false
set_option maxRecDepth 100000
/-! S2: the rules of expressions over the relation. -/
namespace Mm
open PySem PySem.Spec PyProof.Rows L2
section
variable {g : Gr} {σ σ0 : Sg} {H H' H0 : Hp} {F F0 : Addr → Prop} {ρ ρ0 ρ' : Env} {a : Addr} {v : V} {r : R} {d d' : D} {i : Nat}
/-- the heap has only grown -/
def Ext (H H' : Hp) : Prop := ∀ b o, H b = some o → H' b = some o
theorem Ext.refl : Ext H H := fun _ _ h => h
theorem Ext.upd {p : Addr} {o : HO} (hn : H p = none) : Ext H (upd H p o) := fun b u e => by rw [upd_ne (ne_of_none e hn)]; exact e
theorem Ext.trans {H2 : Hp} (a : Ext H H') (b : Ext H' H2) : Ext H H2 := fun c o h => b c o (a c o h)
theorem Ext.keep (x : Ext H H') : Keep H H' F F := ⟨fun _ h => h, fun _ o _ e => x _ o e, fun _ o _ e => x _ o e⟩
theorem Ext.none (x : Ext H H') (h : H' a = none) : H a = none := by
  cases e : H a with
  | none => rfl
  | some o => rw [x a o e] at h; cases h
theorem Rel.ext (R : Rel g σ H F ρ) (x : Ext H H') : Rel g σ H' F ρ :=
  ⟨R.len, fun i c d e q => let ⟨v, s, z⟩ := R.val i c d e q; ⟨v, s, z.kept x.keep⟩, fun i c d e q => let ⟨b, s, nf, t⟩ := R.own i c d e q; ⟨b, s, nf, t.kept x.keep (x b)⟩,
   R.inj, fun b f => let ⟨u, e, z⟩ := R.fz b f; ⟨u, x b u e, z⟩, R.tab.ext x⟩
theorem SF.ext_ (s : SF σ0 ρ0 H0 F0 σ ρ H F) (x : Ext H H') : SF σ0 ρ0 H0 F0 σ ρ H' F :=
  ⟨s.fr, s.new, fun b u e n t => x b u (s.ob b u e n t), fun b u e => let ⟨u', q⟩ := s.there b u e; ⟨u', x b u' q⟩, s.own, s.held, s.bo, s.fb, s.lk, s.len⟩
/-- the result of an operation: a value, or a new object -/
def ResN (g : Gr) (H H' : Hp) (F : Addr → Prop) (v : V) : R → Prop
  | .va d => Dv g H' F d v
  | .ow d => ∃ a, v = .ref a ∧ H a = none ∧ Top g H' F a d
  | .sl _ => False
theorem ResN.rel (R : Rel g σ H F ρ) (s : SF σ0 ρ0 H0 F0 σ ρ H F) (h : ResN g H H' F v r) : RelR g σ H0 ρ H' F v r := by
  cases r with
  | va d => exact h
  | sl i => exact h.elim
  | ow d => obtain ⟨a, e, n, t⟩ := h; exact ⟨a, e, R.freshF n, R.freshHeld n, s.none_of n, t⟩
def Wants (g : Gr) (H : Hp) (F : Addr → Prop) (r : R) (Q : VK) : Prop := ∀ v H', Ext H H' → ResN g H H' F v r → Q v H'
theorem Wants.val (w : Wants g H F (.va d) Q) (h : Dv g H F d v) : Q v H := w v H Ext.refl h
theorem Wants.valI {i : Int} (w : Wants g H F (.va (.int i)) Q) : Q (.int i) H := w _ H Ext.refl (.int i)
theorem Wants.valB {b : Bool} (w : Wants g H F (.va (.bl b)) Q) : Q (.bl b) H := w _ H Ext.refl (.bl b)
theorem Wants.newL {l : List D} {vs : List V} {p : Addr} (w : Wants g H F (.ow (.lst l)) Q) (t : DvL g H F l vs) (hn : H p = none) : Q (.ref p) (upd H p (.lst vs)) :=
  w _ _ (Ext.upd hn) ⟨p, rfl, hn, vs, upd_same, t.kept (Ext.upd hn).keep⟩
theorem Wants.newT {l : List D} {vs : List V} {p : Addr} (w : Wants g H F (.va (.tup l)) Q) (t : DvL g H F l vs) (hn : H p = none) : Q (.ref p) (upd H p (.tup vs)) :=
  w _ _ (Ext.upd hn) (Mm.newT hn t)
/-- an operation on values does what f tells -/
def Sem2 (g : Gr) (r : R2) (f : F2) : Prop := ∀ (H : Hp) (F : Addr → Prop) (x y : V) (d e : D) (o : R) (Q : VK), Seen g H F d x → Seen g H F e y → f d e = some o → Wants g H F o Q → r x y H Q
def Sem1 (g : Gr) (r : V → Hp → VK → Prop) (f : F1) : Prop := ∀ (H : Hp) (F : Addr → Prop) (x : V) (d : D) (o : R) (Q : VK), Seen g H F d x → f d = some o → Wants g H F o Q → r x H Q
def SemN (g : Gr) (r : List V → Hp → VK → Prop) (f : FN) : Prop := ∀ (H : Hp) (F : Addr → Prop) (xs : List V) (ds : List D) (o : R) (Q : VK), DvL g H F ds xs → f ds = some o → Wants g H F o Q → r xs H Q
variable {E : XK} {X : Cx} {x y : Expr} {pos : Pos} {ma mb mc : ME} {f : F2}
/-- .. and the state goes on -/
theorem Wants.go {ρ1 : Env} {Q : VK} (R : Rel g σ H F ρ) (s : SF σ0 ρ0 H0 F0 σ ρ H F) (k : ∀ H' F', Rel g σ H' F' ρ → SF σ0 ρ0 H0 F0 σ ρ H' F' → ∀ v, RelR g σ H0 ρ H' F' v r → Q v H') : Wants g H F r Q :=
  fun v H' e h => k H' F (R.ext e) (s.ext_ e) v (h.rel R s)
theorem two (ho : ∀ H F x y d e o Q, Seen g H F d x → Seen g H F e y → f d e = some o → Wants g H F o Q → (r2 : R2) x y H Q) {Q : VK} (h : tE g E (mOp2 f ma mb) σ H Q) : tOp r2 (tE g E ma) (tE g E mb) σ H Q := by
  obtain ⟨ρ, F, R, h⟩ := h
  refine ⟨ρ, F, R, (h.at SF.refl).mono fun p ρ1 H1 F1 R1 s1 h1 x rx => ⟨ρ1, F1, R1, (h1.2.at s1).mono fun q ρ2 H2 F2 R2 s2 h2 y ry => ?_⟩⟩
  replace h2 := h2.2
  have rx2 := rx.kept R1 s2
  cases e1 : deref ρ2 p with
  | none => simp only [e1] at h2; exact h2.no.elim
  | some dx =>
    cases e2 : deref ρ2 q with
    | none => simp only [e1, e2] at h2; exact h2.no.elim
    | some dy =>
      cases e3 : f dx dy with
      | none => simp only [e1, e2, e3] at h2; exact h2.no.elim
      | some o =>
        simp only [e1, e2, e3] at h2
        refine ho H2 F2 x y dx dy o Q (deref_ok R2 rx2 e1) (deref_ok R2 ry e2) e3 fun v H' ex rn => ?_
        exact h2.ret (R2.ext ex) ((s1.trans s2).ext_ ex) v (rn.rel R2 (s1.trans s2))
theorem s_bin {op : Operator} {r2 : R2} (ho : OpR X (binaryOp op) r2) (hs : Sem2 g r2 f) (ha : PE X x (tE g E ma)) (hb : PE X y (tE g E mb)) : PE X (.BinOp x op y pos) (tE g E (mOp2 f ma mb)) :=
  PE.sub (pe_op ho ha hb) fun _ _ _ h => two (fun H F x y d e o Q => hs H F x y d e o Q) h
theorem s_cmp {op : CmpOp} {r2 : R2} (ho : OpR X (compareOp op) r2) (hs : Sem2 g r2 f) (ha : PE X x (tE g E ma)) (hb : PE X y (tE g E mb)) (hm : behindInMarks op y = false) : PE X (.Compare x [op] [y] pos) (tE g E (mOp2 f ma mb)) :=
  PE.sub (pe_cmpR ho ha hb hm) fun _ _ _ h => two (fun H F x y d e o Q => hs H F x y d e o Q) h
theorem s_ix {r2 : R2} (ho : IxR X r2) (hs : Sem2 g r2 f) (ha : PE X x (tE g E ma)) (hb : PE X y (tE g E mb)) (hp : PlainIx y) : PE X (.Subscript x y pos) (tE g E (mOp2 f ma mb)) :=
  PE.sub (pe_ix ho ha hb hp) fun _ _ _ h => two (fun H F x y d e o Q => hs H F x y d e o Q) h
theorem one {f : F1} {r1 : V → Hp → VK → Prop} (ho : Sem1 g r1 f) {Q : VK} (h : tE g E (mOp1 f ma) σ H Q) : tUn r1 (tE g E ma) σ H Q := by
  obtain ⟨ρ, F, R, h⟩ := h
  refine ⟨ρ, F, R, (h.at SF.refl).mono fun p ρ1 H1 F1 R1 s1 h1 x rx => ?_⟩
  replace h1 := h1.2
  cases e1 : deref ρ1 p with
  | none => simp only [e1] at h1; exact h1.no.elim
  | some dx =>
    cases e3 : f dx with
    | none => simp only [e1, e3] at h1; exact h1.no.elim
    | some o =>
      simp only [e1, e3] at h1
      refine ho H1 F1 x dx o Q (deref_ok R1 rx e1) e3 fun v H' ex rn => ?_
      exact h1.ret (R1.ext ex) (s1.ext_ ex) v (rn.rel R1 s1)
theorem s_un {op : UnaryOp} {f : F1} {r1 : V → Hp → VK → Prop} (ho : UnR X (unaryOp op) r1) (hs : Sem1 g r1 f) (ha : PE X x (tE g E ma)) : PE X (.UnaryOp op x pos) (tE g E (mOp1 f ma)) :=
  PE.sub (pe_un ho ha) fun _ _ _ h => one hs h
/-! ### names, constants -/
theorem s_var {i : Nat} {n : Str} (hN : X.N[i]? = some n) (hv : Vis X.env.scope n) (hd : (n == ("__debug__" : Str)) = false := by decide) (hcd : (n == ("__classdict__" : Str)) = false := by decide) : PE X (.Name n pos) (tE g E (mVar i)) := by
  refine PE.sub (pe_var hN hv hd hcd) fun σ H Q h => ?_
  obtain ⟨ρ, F, R, h⟩ := h
  unfold mVar at h
  cases hc : ρ[i]? with
  | none => simp only [hc] at h; exact h.no.elim
  | some c =>
    cases c with
    | un => simp only [hc] at h; exact h.no.elim
    | va d =>
      simp only [hc] at h
      obtain ⟨v, s, z⟩ := R.val i _ d hc rfl
      exact ⟨v, s, h.ret R SF.refl v z⟩
    | fb d =>
      simp only [hc] at h
      obtain ⟨v, s, z⟩ := R.val i _ d hc rfl
      exact ⟨v, s, h.ret R SF.refl v z⟩
    | ow d =>
      simp only [hc] at h
      obtain ⟨b, s, _⟩ := R.own i _ d hc rfl
      exact ⟨_, s, h.ret R SF.refl (.ref b) s⟩
    | bo d =>
      simp only [hc] at h
      obtain ⟨b, s, _⟩ := R.own i _ d hc rfl
      exact ⟨_, s, h.ret R SF.refl (.ref b) s⟩
    | lk d =>
      simp only [hc] at h
      obtain ⟨b, s, _⟩ := R.own i _ d hc rfl
      exact ⟨_, s, h.ret R SF.refl (.ref b) s⟩
theorem s_const {e : Expr} {v : V} {d : D} (h0 : PE X e (tC v)) (hd : ∀ H F, Dv g H F d v) : PE X e (tE g E (mK d)) := by
  refine PE.sub h0 fun σ H Q h => ?_
  obtain ⟨ρ, F, R, h⟩ := h
  exact h.ret R SF.refl v (hd _ _)
theorem s_int {i : Int} {j : Nat} : PE X (.Constant (.int i) j pos) (tE g E (mK (.int i))) := s_const pe_int fun _ _ => .int i
theorem s_bl {i : Bool} {j : Nat} : PE X (.Constant (.bool i) j pos) (tE g E (mK (.bl i))) := s_const pe_bl fun _ _ => .bl i
theorem s_non {j : Nat} : PE X (.Constant .none j pos) (tE g E (mK .non)) := s_const pe_non fun _ _ => .non
theorem s_str {i : Str} {j : Nat} : PE X (.Constant (.str i) j pos) (tE g E (mK (.str i))) := s_const pe_str fun _ _ => .str i
/-- a module's constant -/
theorem s_gint {n : Str} {i : Int} (hg : Gl X n) (hm : ∃ t, X.mg n = some (.int i t)) (hd : (n == ("__debug__" : Str)) = false := by decide) : PE X (.Name n pos) (tE g E (mK (.int i))) := by
  obtain ⟨t, hm⟩ := hm
  exact s_const (pe_glob (v := .int i) hg hm ⟨t, rfl⟩ hd) fun _ _ => .int i
/-- a def, as a value -/
theorem s_gobj {n : Str} {a : Nat} (hg : Gl X n) (hm : X.mg n = some (.ref (g.ob a))) (hd : (n == ("__debug__" : Str)) = false := by decide) : PE X (.Name n pos) (tE g E (mK (.obj a))) :=
  s_const (pe_glob (v := .ref (g.ob a)) hg hm rfl hd) fun _ _ => .obj a
/-! ### displays -/
variable {es : List Expr} {md : MD}
theorem s_nil : PA X [] (tD g E mNil) := by
  refine PA.sub pa_nil fun σ H Q h => ?_
  obtain ⟨ρ, F, R, h⟩ := h
  exact h.ret R SF.refl [] .nil
theorem s_cons (ha : PE X x (tE g E ma)) (hb : PA X es (tD g E md)) (hs : starEach (x :: es) X.env = (false, eval x X.env) :: starEach es X.env := by rfl) : PA X (x :: es) (tD g E (mCons ma md)) := by
  refine PA.sub (pa_cons ha hb hs) fun σ H Q h => ?_
  obtain ⟨ρ, F, R, h⟩ := h
  refine ⟨ρ, F, R, (h.at SF.refl).mono fun p ρ1 H1 F1 R1 s1 h1 x rx => ?_⟩
  replace h1 := h1.2
  cases e1 : frz p ρ1 with
  | none => simp only [e1] at h1; exact h1.no.elim
  | some q =>
    obtain ⟨d, ρ2⟩ := q
    simp only [e1] at h1
    obtain ⟨F2, R2, s2, z2, up⟩ := frz_ok R1 s1 rx e1
    refine ⟨ρ2, F2, R2, (h1.at s2).mono fun ds ρ3 H3 F3 R3 s3 h3 vs rs => ?_⟩
    exact h3.2.ret R3 h3.1 (x :: vs) (.cons (z2.kept (s3.keep R2)) rs)
theorem s_tup {k} (h : PA X es (tD g E md)) : PE X (.Tuple es k pos) (tE g E (mTup md)) := by
  refine PE.sub (pe_tup h) fun σ H Q h => ?_
  obtain ⟨ρ, F, R, h⟩ := h
  refine ⟨ρ, F, R, (h.at SF.refl).mono fun ds ρ1 H1 F1 R1 s1 h1 vs rs => ?_⟩
  replace h1 := h1.2
  by_cases hl : ds.length ≤ big
  · rw [if_pos hl] at h1
    refine ⟨by rw [← rs.length, sizeLine_eq]; exact hl, fun p hn => ?_⟩
    exact h1.ret (R1.new hn) (s1.new_ hn) _ (newT hn rs)
  · rw [if_neg hl] at h1
    exact h1.no.elim
theorem s_lst (h : PA X es (tD g E md)) : PE X (.List es pos) (tE g E (mLst md)) := by
  refine PE.sub (pe_lst h) fun σ H Q h => ?_
  obtain ⟨ρ, F, R, h⟩ := h
  refine ⟨ρ, F, R, (h.at SF.refl).mono fun ds ρ1 H1 F1 R1 s1 h1 vs rs => ?_⟩
  replace h1 := h1.2
  by_cases hl : ds.length ≤ big
  · rw [if_pos hl] at h1
    refine ⟨by rw [← rs.length, sizeLine_eq]; exact hl, fun p hn => ?_⟩
    exact h1.ret (R1.new hn) (s1.new_ hn) _ (newL R1 s1 hn rs)
  · rw [if_neg hl] at h1
    exact h1.no.elim
/-! ### calls of builtins -/
variable {f1 : F1} {fn : FN} {r1 : V → Hp → VK → Prop} {rn : List V → Hp → VK → Prop} {n : Str} {p1 : Pos}
theorem callN_ (hs : SemN g rn fn) {Q : VK} (h : tE g E (mOpN fn md) σ H Q) : tCB rn (tD g E md) σ H Q := by
  obtain ⟨ρ, F, R, h⟩ := h
  refine ⟨ρ, F, R, (h.at SF.refl).mono fun ds ρ1 H1 F1 R1 s1 h1 vs rs => ?_⟩
  replace h1 := h1.2
  cases e3 : fn ds with
  | none => simp only [e3] at h1; exact h1.no.elim
  | some o =>
    simp only [e3] at h1
    refine hs H1 F1 vs ds o Q rs e3 fun v H' ex rr => ?_
    exact h1.ret (R1.ext ex) (s1.ext_ ex) v (rr.rel R1 s1)
/-- one argument, that is only looked at -/
theorem s_callB1 {id : String} (ht : CallR X (.builtin id) rn) (hs : Sem1 g (fun x H Q => rn [x] H Q) f1) (hg : Gl X n) (hm : X.mg n = none) (hv : bootBuiltins n = some (.builtin id)) (ha : PE X x (tE g E ma)) (hn : n ≠ "__name__" := by decide) (hdb : (n == ("__debug__" : Str)) = false := by decide)
    (he : starEach [x] X.env = (false, eval x X.env) :: starEach [] X.env := by rfl) (hpl : (backTo pos (starEach [] X.env)).any (·.1) = false := by rfl) : PE X (.Call (.Name n p1) [x] [] pos) (tE g E (mOp1 f1 ma)) :=
  PE.sub (pe_callB ht hg hm hv (pa_cons ha pa_nil he) hn hdb he hpl) fun σ H Q h => one (r1 := fun x H Q => rn [x] H Q) hs h
theorem s_callT1 {T : String} (ht : CallR X (.type T) rn) (hs : Sem1 g (fun x H Q => rn [x] H Q) f1) (hg : Gl X n) (hm : X.mg n = none) (hv : bootBuiltins n = some (.type T)) (ha : PE X x (tE g E ma)) (hn : n ≠ "__name__" := by decide) (hdb : (n == ("__debug__" : Str)) = false := by decide)
    (he : starEach [x] X.env = (false, eval x X.env) :: starEach [] X.env := by rfl) (hpl : (backTo pos (starEach [] X.env)).any (·.1) = false := by rfl) : PE X (.Call (.Name n p1) [x] [] pos) (tE g E (mOp1 f1 ma)) :=
  PE.sub (pe_callTy ht hg hm hv (pa_cons ha pa_nil he) hn hdb he hpl) fun σ H Q h => one (r1 := fun x H Q => rn [x] H Q) hs h
theorem s_callBN {id : String} (ht : CallR X (.builtin id) rn) (hs : SemN g rn fn) (hg : Gl X n) (hm : X.mg n = none) (hv : bootBuiltins n = some (.builtin id)) (ha : PA X (x :: es) (tD g E md)) (hn : n ≠ "__name__" := by decide) (hdb : (n == ("__debug__" : Str)) = false := by decide)
    (he : starEach (x :: es) X.env = (false, eval x X.env) :: starEach es X.env := by rfl) (hpl : (backTo pos (starEach es X.env)).any (·.1) = false := by rfl) : PE X (.Call (.Name n p1) (x :: es) [] pos) (tE g E (mOpN fn md)) :=
  PE.sub (pe_callB ht hg hm hv ha hn hdb he hpl) fun σ H Q h => callN_ hs h
/-! ### tests -/
variable {mt mu : MB} {rest : List Expr}
theorem testB {Q : Bool → Hp → Prop} (h : tT g E (mB ma) σ H Q) : tE g E ma σ H fun x H1 => ∃ k, x = .bl k ∧ Q k H1 := by
  obtain ⟨ρ, F, R, h⟩ := h
  refine ⟨ρ, F, R, (h.at SF.refl).mono fun p ρ1 H1 F1 R1 s1 h1 x rx => ?_⟩
  replace h1 := h1.2
  cases p with
  | va d =>
    cases d with
    | bl b =>
      have rx : Dv g H1 F1 (.bl b) x := rx
      cases rx
      exact ⟨b, rfl, h1.ret R1 s1⟩
    | _ => exact h1.no.elim
  | _ => exact h1.no.elim
/-- a value as a test: a name, a call, a subscript -/
theorem s_tst (h : PE X x (tE g E ma)) (he : ∀ whole, isTrue x X.env whole = (do let v ← whole; standAt x.pos; holding [v] (truthy v)) := by intro _; rfl) : PT X x (tT g E (mB ma)) :=
  PT.sub (pt_val h he) fun σ H Q h => testB h
theorem s_tcmp {op : CmpOp} {r2 : R2} (ho : OpR X (compareOp op) r2) (hs : Sem2 g r2 f) (ha : PE X x (tE g E ma)) (hb : PE X y (tE g E mb)) (hm : behindInMarks op y = false) : PT X (.Compare x [op] [y] pos) (tT g E (mB (mOp2 f ma mb))) :=
  PT.sub (pt_cmpR ho ha hb hm) fun σ H Q h => two (fun H F x y d e o Q => hs H F x y d e o Q) (testB h)
theorem s_not (ha : PT X x (tT g E mt)) : PT X (.UnaryOp .Not x pos) (tT g E (mNot mt)) := by
  refine PT.sub (pt_not ha) fun σ H Q h => ?_
  obtain ⟨ρ, F, R, h⟩ := h
  refine ⟨ρ, F, R, (h.at SF.refl).mono fun b ρ1 H1 F1 R1 s1 h1 => ?_⟩
  exact h1.2.ret R1 h1.1
theorem s_and1 (ha : PT X x (tT g E mt)) : PW X (.BoolOp .And [x] pos) (tT g E mt) := pw_and1 ha
theorem s_or1 (ha : PT X x (tT g E mt)) : PW X (.BoolOp .Or [x] pos) (tT g E mt) := pw_or1 ha
theorem s_and (ha : PT X x (tT g E mt)) (hb : PW X (.BoolOp .And (y :: rest) pos) (tT g E mu)) : PW X (.BoolOp .And (x :: y :: rest) pos) (tT g E (mAnd mt mu)) := by
  refine PW.sub (pw_and ha hb) fun σ H Q h => ?_
  obtain ⟨ρ, F, R, h⟩ := h
  refine ⟨ρ, F, R, (h.at SF.refl).mono fun b ρ1 H1 F1 R1 s1 h1 => ?_⟩
  obtain ⟨s, h1⟩ := h1
  cases b with
  | true =>
    simp only [if_true] at h1 ⊢
    refine ⟨ρ1, F1, R1, ?_⟩
    obtain ⟨o, ρ2, e, h⟩ := h1
    refine ⟨o, ρ2, e, ?_⟩
    cases o with
    | ok a => exact fun H' F' r q => h H' F' r (s.trans q)
    | error z => exact fun cls d H' F' r q => h cls d H' F' r (s.trans q)
  | false =>
    simp only [Bool.false_eq_true, if_false] at h1 ⊢
    exact h1.ret R1 s
theorem s_or (ha : PT X x (tT g E mt)) (hb : PW X (.BoolOp .Or (y :: rest) pos) (tT g E mu)) : PW X (.BoolOp .Or (x :: y :: rest) pos) (tT g E (mOr mt mu)) := by
  refine PW.sub (pw_or ha hb) fun σ H Q h => ?_
  obtain ⟨ρ, F, R, h⟩ := h
  refine ⟨ρ, F, R, (h.at SF.refl).mono fun b ρ1 H1 F1 R1 s1 h1 => ?_⟩
  obtain ⟨s, h1⟩ := h1
  cases b with
  | false =>
    simp only [Bool.false_eq_true, if_false] at h1 ⊢
    refine ⟨ρ1, F1, R1, ?_⟩
    obtain ⟨o, ρ2, e, h⟩ := h1
    refine ⟨o, ρ2, e, ?_⟩
    cases o with
    | ok a => exact fun H' F' r q => h H' F' r (s.trans q)
    | error z => exact fun cls d H' F' r q => h cls d H' F' r (s.trans q)
  | true =>
    simp only [if_true] at h1 ⊢
    exact h1.ret R1 s
/-- going on in one of two ways -/
theorem Runs.tail {α : Type} {z : Out α} {k : α → Env → Hp → (Addr → Prop) → Prop} {ρ1 : Env} {H1 : Hp} {F1 : Addr → Prop} (h : Runs g E z σ ρ H F k) (s : SF σ ρ H F σ ρ1 H1 F1) : Runs g E z σ ρ1 H1 F1 fun a ρ' H' F' => SF σ ρ H F σ ρ' H' F' ∧ k a ρ' H' F' := by
  obtain ⟨o, ρ2, e, h⟩ := h
  refine ⟨o, ρ2, e, ?_⟩
  cases o with
  | ok a => exact fun H' F' r q => ⟨s.trans q, h H' F' r (s.trans q)⟩
  | error z => exact fun cls d H' F' r q => h cls d H' F' r (s.trans q)
theorem tailE {ρ1 : Env} {H1 : Hp} {F1 : Addr → Prop} {Q : VK} (h : Runs g E (ma ρ1) σ ρ H F fun r ρ' H' F' => ∀ v, RelR g σ H ρ' H' F' v r → Q v H') (R1 : Rel g σ H1 F1 ρ1) (s : SF σ ρ H F σ ρ1 H1 F1) : tE g E ma σ H1 Q :=
  ⟨ρ1, F1, R1, (h.tail s).mono fun r ρ' H' F' R' s' h' v rv => h'.2 v (rv.weaken fun a n => s.none_of n)⟩
theorem s_if {z : Expr} (hc : PT X z (tT g E mt)) (ha : PE X x (tE g E ma)) (hb : PE X y (tE g E mb)) : PE X (.IfExp z x y pos) (tE g E (mIf mt ma mb)) := by
  refine PE.sub (pe_ifExp hc ha hb) fun σ H Q h => ?_
  obtain ⟨ρ, F, R, h⟩ := h
  refine ⟨ρ, F, R, (h.at SF.refl).mono fun b ρ1 H1 F1 R1 s1 h1 => ?_⟩
  obtain ⟨s, h1⟩ := h1
  cases b with
  | true => simp only [if_true] at h1 ⊢; exact tailE h1 R1 s
  | false => simp only [Bool.false_eq_true, if_false] at h1 ⊢; exact tailE h1 R1 s
/-- and, or as values -/
theorem s_vone {op : BoolOp} (h : PE X x (tE g E ma)) : PE X (.BoolOp op [x] pos) (tE g E ma) := pe_one h
theorem s_vand (ha : PE X x (tE g E ma)) (hb : PE X (.BoolOp .And (y :: rest) pos) (tE g E mb)) : PE X (.BoolOp .And (x :: y :: rest) pos) (tE g E (mAndV ma mb)) := by
  refine PE.sub (pe_and ha hb) fun σ H Q h => ?_
  obtain ⟨ρ, F, R, h⟩ := h
  refine ⟨ρ, F, R, (h.at SF.refl).mono fun p ρ1 H1 F1 R1 s1 h1 v rv => ?_⟩
  obtain ⟨s, h1⟩ := h1
  cases p with
  | va d =>
    cases d with
    | bl b =>
      have rv : Dv g H1 F1 (.bl b) v := rv
      cases rv
      refine ⟨b, rfl, ?_⟩
      cases b with
      | true => simp only [if_true]; exact tailE h1 R1 s
      | false => simp only [Bool.false_eq_true, if_false]; exact h1.ret R1 s _ (.bl false)
    | _ => exact h1.no.elim
  | _ => exact h1.no.elim
theorem s_vor (ha : PE X x (tE g E ma)) (hb : PE X (.BoolOp .Or (y :: rest) pos) (tE g E mb)) : PE X (.BoolOp .Or (x :: y :: rest) pos) (tE g E (mOrV ma mb)) := by
  refine PE.sub (pe_or ha hb) fun σ H Q h => ?_
  obtain ⟨ρ, F, R, h⟩ := h
  refine ⟨ρ, F, R, (h.at SF.refl).mono fun p ρ1 H1 F1 R1 s1 h1 v rv => ?_⟩
  obtain ⟨s, h1⟩ := h1
  cases p with
  | va d =>
    cases d with
    | bl b =>
      have rv : Dv g H1 F1 (.bl b) v := rv
      cases rv
      refine ⟨b, rfl, ?_⟩
      cases b with
      | false => simp only [Bool.false_eq_true, if_false]; exact tailE h1 R1 s
      | true => simp only [if_true]; exact h1.ret R1 s _ (.bl true)
    | _ => exact h1.no.elim
  | _ => exact h1.no.elim
theorem s_vnot (ha : PE X x (tE g E ma)) : PE X (.UnaryOp .Not x pos) (tE g E (mNotV ma)) := by
  refine PE.sub (pe_not ha) fun σ H Q h => ?_
  obtain ⟨ρ, F, R, h⟩ := h
  refine ⟨ρ, F, R, (h.at SF.refl).mono fun p ρ1 H1 F1 R1 s1 h1 v rv => ?_⟩
  obtain ⟨s, h1⟩ := h1
  cases p with
  | va d =>
    cases d with
    | bl b =>
      have rv : Dv g H1 F1 (.bl b) v := rv
      cases rv
      exact ⟨b, rfl, h1.ret R1 s _ (.bl _)⟩
    | _ => exact h1.no.elim
  | _ => exact h1.no.elim
/-- a op b op' c -/
theorem chain_ {f h2' : F2} {ra rb : R2} (hsa : Sem2 g ra f) (hsb : Sem2 g rb h2') {Q : VK} (h : tE g E (mChain f h2' ma mb mc) σ H Q) : tChain ra rb (tE g E ma) (tE g E mb) (tE g E mc) σ H Q := by
  obtain ⟨ρ, F, R, h⟩ := h
  refine ⟨ρ, F, R, (h.at SF.refl).mono fun p ρ1 H1 F1 R1 s1 h1 x rx => ⟨ρ1, F1, R1, (h1.2.at s1).mono fun q ρ2 H2 F2 R2 s2 h2 y ry => ?_⟩⟩
  have rx2 := rx.kept R1 s2
  obtain ⟨s, h2⟩ := h2
  cases e1 : deref ρ2 p with
  | none => simp only [e1] at h2; exact h2.no.elim
  | some dx =>
    cases e2 : deref ρ2 q with
    | none => simp only [e1, e2] at h2; exact h2.no.elim
    | some dy =>
      cases e3 : f dx dy with
      | none => simp only [e1, e2, e3] at h2; exact h2.no.elim
      | some o =>
        simp only [e1, e2, e3] at h2
        refine hsa H2 F2 x y dx dy o _ (deref_ok R2 rx2 e1) (deref_ok R2 ry e2) e3 fun v H' ex rn => ?_
        cases o with
        | va o =>
          cases o with
          | bl b =>
            have rn : Dv g H' F2 (.bl b) v := rn
            cases rn
            refine ⟨b, rfl, ?_⟩
            have R3 := R2.ext ex
            have s3 := s.ext_ ex
            cases b with
            | true =>
              simp only at h2
              simp only [if_true]
              refine ⟨ρ2, F2, R3, (h2.at s3).mono fun z ρ4 H4 F4 R4 s4 h4 w rw' => ?_⟩
              obtain ⟨s5, h4⟩ := h4
              have ry4 := (ry.kept (r := q) R2 ((SF.refl (σ := σ) (ρ := ρ2)).ext_ ex)).kept R3 s4
              cases e5 : deref ρ4 q with
              | none => simp only [e5] at h4; exact h4.no.elim
              | some dy' =>
                cases e6 : deref ρ4 z with
                | none => simp only [e5, e6] at h4; exact h4.no.elim
                | some dz =>
                  cases e7 : h2' dy' dz with
                  | none => simp only [e5, e6, e7] at h4; exact h4.no.elim
                  | some o' =>
                    simp only [e5, e6, e7] at h4
                    refine hsb H4 F4 y w dy' dz o' Q (deref_ok R4 ry4 e5) (deref_ok R4 rw' e6) e7 fun v' H5 ex' rn' => ?_
                    exact h4.ret (R4.ext ex') (s5.ext_ ex') v' (rn'.rel R4 s5)
            | false =>
              simp only at h2
              simp only [Bool.false_eq_true, if_false]
              exact h2.ret R3 s3 _ (.bl false)
          | _ => exact h2.no.elim
        | _ => exact h2.no.elim
end
end Mm
-- text S3
set_option Elab.async false
set_option linter.all false
set_option maxRecDepth 100000
/-! S3: statements, loops. -/
namespace Mm
open PySem PySem.Spec PyProof.Rows L2
section
variable {g : Gr} {σ σ0 σ' : Sg} {H H' H0 : Hp} {F F0 F' : Addr → Prop} {ρ ρ0 ρ' : Env} {a : Addr} {v : V} {r : R} {d d' : D} {i : Nat}
theorem get_set {α : Type} {l : List α} {i j : Nat} {x y : α} (h : (l.set i x)[j]? = some y) : (j = i ∧ y = x ∧ i < l.length) ∨ (j ≠ i ∧ l[j]? = some y) := by
  by_cases hj : i = j
  · subst hj
    by_cases hl : i < l.length
    · rw [List.getElem?_set_self hl] at h
      cases h
      exact .inl ⟨rfl, rfl, hl⟩
    · rw [List.getElem?_eq_none (by simpa using hl)] at h
      cases h
  · rw [List.getElem?_set_ne hj] at h
    exact .inr ⟨fun e => hj e.symm, h⟩
theorem SF.set1 (s : SF σ0 ρ0 H0 F0 σ ρ H F) (np : ∀ c, ρ0[i]? = some c → isPin c = false) {c' : C} {v' : Option V} (ho : ∀ a d, isOb c' = some d → v' = some (.ref a) → H0 a = none) : SF σ0 ρ0 H0 F0 (σ.set i v') (ρ.set i c') H F := by
  have key : ∀ a, Held (σ.set i v') (ρ.set i c') a → H0 a = none ∨ ∃ j, j ≠ i ∧ ∃ d, (ρ[j]? = some (.ow d) ∨ ρ[j]? = some (.bo d) ∨ ρ[j]? = some (.lk d)) ∧ σ[j]? = some (some (.ref a)) := fun a h => by
    obtain ⟨j, c, d, e, o, q⟩ := h.ob
    rcases get_set e with ⟨rfl, rfl, _⟩ | ⟨n, e⟩
    · rcases get_set q with ⟨_, q, _⟩ | ⟨n, _⟩
      · exact .inl (ho a d o q.symm)
      · exact absurd rfl n
    · rcases get_set q with ⟨z, _⟩ | ⟨_, q⟩
      · exact absurd z n
      · refine .inr ⟨j, n, d, ?_, q⟩
        cases c <;> simp [isOb] at o <;> subst o
        · exact .inl e
        · exact .inr (.inl e)
        · exact .inr (.inr e)
  refine ⟨s.fr, s.new, s.ob, s.there, fun a h => ?_, fun a h => ?_, fun j d e => ?_, fun j d e => ?_, fun j d e => ?_, by rw [List.length_set]; exact s.len⟩
  · obtain ⟨j, d, e, q⟩ := h
    have go : ∀ c, (ρ.set i c')[j]? = some c → (c = .ow d ∨ c = .bo d) → Own σ0 ρ0 a ∨ H0 a = none := fun c e hc => by
      rcases get_set e with ⟨rfl, rfl, _⟩ | ⟨n, e⟩
      · rcases get_set q with ⟨_, q, _⟩ | ⟨n, _⟩
        · refine .inr (ho a d ?_ q.symm)
          rcases hc with rfl | rfl <;> rfl
        · exact absurd rfl n
      · rcases get_set q with ⟨z, _⟩ | ⟨_, q⟩
        · exact absurd z n
        · refine s.own a ⟨j, d, ?_, q⟩
          rcases hc with rfl | rfl
          · exact .inl e
          · exact .inr e
    rcases e with e | e
    · exact go _ e (.inl rfl)
    · exact go _ e (.inr rfl)
  · rcases key a h with z | ⟨j, _, d, e, q⟩
    · exact .inr z
    · exact s.held a ⟨j, d, e, q⟩
  · have n : i ≠ j := fun z => by subst z; have := np _ e; cases this
    rw [List.getElem?_set_ne n, List.getElem?_set_ne n]
    exact s.bo j d e
  · have n : i ≠ j := fun z => by subst z; have := np _ e; cases this
    rw [List.getElem?_set_ne n, List.getElem?_set_ne n]
    exact s.fb j d e
  · have n : i ≠ j := fun z => by subst z; have := np _ e; cases this
    rw [List.getElem?_set_ne n, List.getElem?_set_ne n]
    exact s.lk j d e
theorem SF.pin0 (s : SF σ0 ρ0 H0 F0 σ ρ H F) {c : C} (h : ρ[i]? = some c) (p : isPin c = false) : ∀ c, ρ0[i]? = some c → isPin c = false := fun e h0 => by
  cases e with
  | bo d =>
    obtain ⟨⟨d', q⟩, _⟩ := s.bo i d h0
    rcases q with q | ⟨q, _⟩ <;> (rw [h] at q; cases q; cases p)
  | fb d =>
    obtain ⟨q, _⟩ := s.fb i d h0
    rw [h] at q; cases q; cases p
  | lk d =>
    obtain ⟨q, _⟩ := s.lk i d h0
    rw [h] at q; cases q; cases p
  | _ => rfl
theorem Rel.set1 (R : Rel g σ H F ρ) {c' : C} {v' : Option V} (hv : ∀ d, isVal c' = some d → ∃ v, v' = some v ∧ Dv g H F d v) (ho : ∀ d, isOb c' = some d → ∃ a, v' = some (.ref a) ∧ ¬ F a ∧ Top g H F a d ∧ ¬ Held σ ρ a) : Rel g (σ.set i v') H F (ρ.set i c') := by
  have hln : i < ρ.length ↔ i < σ.length := by rw [R.len]
  refine ⟨by rw [List.length_set, List.length_set]; exact R.len, fun j c d e o => ?_, fun j c d e o => ?_, fun j k c e x y b ne q1 q2 o1 o2 s1 => ?_, R.fz, R.tab⟩
  · rcases get_set e with ⟨rfl, rfl, hl⟩ | ⟨n, e⟩
    · obtain ⟨v, rfl, z⟩ := hv d o
      exact ⟨v, List.getElem?_set_self (hln.mp hl), z⟩
    · obtain ⟨v, s, z⟩ := R.val j c d e o
      exact ⟨v, by rw [List.getElem?_set_ne (Ne.symm n)]; exact s, z⟩
  · rcases get_set e with ⟨rfl, rfl, hl⟩ | ⟨n, e⟩
    · obtain ⟨b, rfl, z1, z2, _⟩ := ho d o
      exact ⟨b, List.getElem?_set_self (hln.mp hl), z1, z2⟩
    · obtain ⟨b, s, z⟩ := R.own j c d e o
      exact ⟨b, by rw [List.getElem?_set_ne (Ne.symm n)]; exact s, z⟩
  · intro s2
    rcases get_set q1 with ⟨rfl, rfl, hl⟩ | ⟨n1, q1'⟩
    · obtain ⟨b', rfl, _, _, nh⟩ := ho x o1
      rw [List.getElem?_set_self (hln.mp hl)] at s1
      cases s1
      rcases get_set q2 with ⟨z, _⟩ | ⟨n2, q2⟩
      · exact ne z.symm
      · rw [List.getElem?_set_ne (Ne.symm n2)] at s2
        exact nh (held_of q2 o2 s2)
    · rw [List.getElem?_set_ne (Ne.symm n1)] at s1
      rcases get_set q2 with ⟨rfl, rfl, hl⟩ | ⟨n2, q2⟩
      · obtain ⟨b', rfl, _, _, nh⟩ := ho y o2
        rw [List.getElem?_set_self (hln.mp hl)] at s2
        cases s2
        exact nh (held_of q1' o1 s1)
      · rw [List.getElem?_set_ne (Ne.symm n2)] at s2
        exact R.inj j k c e x y b ne q1' q2 o1 o2 s1 s2
/-- a value comes to a slot -/
theorem store_rel (R : Rel g σ H F ρ) (s : SF σ0 ρ0 H0 F0 σ ρ H F) (x : RelR g σ H0 ρ H F v r) (e : store i r ρ = some ρ') :
    ∃ F', Rel g (σ.set i (some v)) H F' ρ' ∧ SF σ0 ρ0 H0 F0 (σ.set i (some v)) ρ' H F' ∧ (∀ b, F b → F' b) := by
  unfold store at e
  cases hc : ρ[i]? with
  | none => rw [hc] at e; cases e
  | some c =>
    rw [hc] at e
    cases np : isPin c with
    | true => simp only [np, if_true] at e; cases e
    | false =>
      simp only [np, Bool.false_eq_true, if_false] at e
      have np0 := s.pin0 hc np
      cases r with
      | va d =>
        cases e
        exact ⟨F, R.set1 (fun d' h => ⟨v, rfl, by cases h; exact x⟩) (fun d' h => by cases h), s.set1 np0 (fun a d' h => by cases h), fun _ h => h⟩
      | ow d =>
        cases e
        obtain ⟨a, rfl, n, nh, h0, t⟩ := x
        exact ⟨F, R.set1 (fun d' h => by cases h) (fun d' h => ⟨a, rfl, n, by cases h; exact t, nh⟩), s.set1 np0 (fun b d' h e => by cases e; exact h0), fun _ h => h⟩
      | sl j =>
        unfold put1 at e
        cases ef : frz (.sl j) ρ with
        | none => simp only [ef] at e; cases e
        | some q =>
          obtain ⟨d, ρ1⟩ := q
          simp only [ef] at e
          cases e
          obtain ⟨F', R', s', z, up⟩ := frz_ok R s x ef
          exact ⟨F', R'.set1 (fun d' h => ⟨v, rfl, by cases h; exact z⟩) (fun d' h => by cases h), s'.set1 np0 (fun a d' h => by cases h), up⟩

/-! ### statements -/
def RunsS (g : Gr) (E : XK) (x : Out Fl) (σ : Sg) (ρ : Env) (H : Hp) (F : Addr → Prop) (De : Ends) : Prop :=
  ∃ (o : Except Exn Fl) (ρ' : Env), x = some (o, ρ') ∧ match o with
    | .ok .nx => ∀ σ' H' F', Rel g σ' H' F' ρ' → SF σ ρ H F σ' ρ' H' F' → De.nx σ' H'
    | .ok .bk => ∀ σ' H' F', Rel g σ' H' F' ρ' → SF σ ρ H F σ' ρ' H' F' → De.bk σ' H'
    | .ok .ct => ∀ σ' H' F', Rel g σ' H' F' ρ' → SF σ ρ H F σ' ρ' H' F' → De.ct σ' H'
    | .ok (.rt r) => ∀ σ' H' F' v, Rel g σ' H' F' ρ' → SF σ ρ H F σ' ρ' H' F' → RelR g σ' H ρ' H' F' v r → De.rt v H'
    | .error e => ∀ cls d σ' H' F', Rel g σ' H' F' ρ' → SF σ ρ H F σ' ρ' H' F' → ExR g H' e cls d → E cls d H'
def tS (g : Gr) (E : XK) (m : MS) : TS := fun De σ H => ∃ ρ F, Rel g σ H F ρ ∧ RunsS g E (m ρ) σ ρ H F De
variable {E : XK} {X : Cx} {x y : Expr} {pos : Pos} {ma mb mc : ME} {De : Ends}
theorem RunsS.no (h : RunsS g E none σ ρ H F De) : False := by
  obtain ⟨o, ρ2, e, _⟩ := h
  cases e
/-- an expression ahead of the rest of a statement -/
theorem RunsS.at {α : Type} {z : Out α} {f : α → Env → Out Fl} {ρ1 : Env} {H1 : Hp} {F1 : Addr → Prop} (h : RunsS g E (bnd z f) σ ρ H F De) (s : SF σ ρ H F σ ρ1 H1 F1) :
    Runs g E z σ ρ1 H1 F1 fun a ρ2 H2 F2 => SF σ ρ H F σ ρ2 H2 F2 ∧ RunsS g E (f a ρ2) σ ρ H F De := by
  obtain ⟨o, ρ2, e, h⟩ := h
  match z, e with
  | some (.ok a, ρ1), e => exact ⟨.ok a, ρ1, rfl, fun H1 F1 r1 s1 => ⟨s.trans s1, o, ρ2, e, h⟩⟩
  | some (.error z, ρ1), e =>
    cases e
    exact ⟨.error z, _, rfl, fun cls d H' F' r s' => h cls d σ H' F' r (s.trans s')⟩
theorem RunsS.nx (h : RunsS g E (ret .nx ρ') σ ρ H F De) (R : Rel g σ' H' F' ρ') (s : SF σ ρ H F σ' ρ' H' F') : De.nx σ' H' := by
  obtain ⟨o, ρ2, e, h⟩ := h
  cases e
  exact h _ _ _ R s
theorem RunsS.rt (h : RunsS g E (ret (.rt r) ρ') σ ρ H F De) (R : Rel g σ' H' F' ρ') (s : SF σ ρ H F σ' ρ' H' F') (x : RelR g σ' H ρ' H' F' v r) : De.rt v H' := by
  obtain ⟨o, ρ2, e, h⟩ := h
  cases e
  exact h _ _ _ _ R s x
theorem RunsS.bk (h : RunsS g E (ret .bk ρ') σ ρ H F De) (R : Rel g σ' H' F' ρ') (s : SF σ ρ H F σ' ρ' H' F') : De.bk σ' H' := by
  obtain ⟨o, ρ2, e, h⟩ := h
  cases e
  exact h _ _ _ R s
theorem RunsS.ct (h : RunsS g E (ret .ct ρ') σ ρ H F De) (R : Rel g σ' H' F' ρ') (s : SF σ ρ H F σ' ρ' H' F') : De.ct σ' H' := by
  obtain ⟨o, ρ2, e, h⟩ := h
  cases e
  exact h _ _ _ R s
/-- the run of a statement from an earlier origin, seen from where one stands -/
theorem RunsS.tail {z : Out Fl} (h : RunsS g E z σ0 ρ0 H0 F0 De) (s : SF σ0 ρ0 H0 F0 σ ρ H F) : RunsS g E z σ ρ H F De := by
  obtain ⟨o, ρ2, e, h⟩ := h
  refine ⟨o, ρ2, e, ?_⟩
  cases o with
  | error z => exact fun cls d σ' H' F' r q => h cls d σ' H' F' r (s.trans q)
  | ok f =>
    cases f with
    | rt r => exact fun σ' H' F' v R q x => h σ' H' F' v R (s.trans q) (x.weaken fun a n => s.none_of n)
    | _ => exact fun σ' H' F' R q => h σ' H' F' R (s.trans q)
theorem RunsS.mono {z : Out Fl} {De' : Ends} (h : RunsS g E z σ ρ H F De) (m1 : ∀ σ H, De.nx σ H → De'.nx σ H) (m2 : ∀ v H, De.rt v H → De'.rt v H) (m3 : ∀ σ H, De.bk σ H → De'.bk σ H) (m4 : ∀ σ H, De.ct σ H → De'.ct σ H) : RunsS g E z σ ρ H F De' := by
  obtain ⟨o, ρ2, e, h⟩ := h
  refine ⟨o, ρ2, e, ?_⟩
  cases o with
  | error z => exact h
  | ok f =>
    cases f with
    | rt r => exact fun σ' H' F' v R q x => m2 _ _ (h σ' H' F' v R q x)
    | nx => exact fun σ' H' F' R q => m1 _ _ (h σ' H' F' R q)
    | bk => exact fun σ' H' F' R q => m3 _ _ (h σ' H' F' R q)
    | ct => exact fun σ' H' F' R q => m4 _ _ (h σ' H' F' R q)
theorem s_expr (he : PE X x (tE g E ma)) (hs : swapsWith x none pos.line X.env = pure false := by rfl) : PS X (.Expr x pos) (tS g E (mDrop ma)) := by
  refine PS.sub (ps_expr he hs) fun De σ H h => ?_
  obtain ⟨ρ, F, R, h⟩ := h
  exact ⟨ρ, F, R, (h.at SF.refl).mono fun p ρ1 H1 F1 R1 s1 h1 v rv => h1.2.nx R1 h1.1⟩
theorem s_ret (he : PE X x (tE g E ma)) : PS X (.Return (some x) pos) (tS g E (mRet ma)) := by
  refine PS.sub (L2.ps_ret he) fun De σ H h => ?_
  obtain ⟨ρ, F, R, h⟩ := h
  exact ⟨ρ, F, R, (h.at SF.refl).mono fun p ρ1 H1 F1 R1 s1 h1 v rv => h1.2.rt R1 h1.1 rv⟩
theorem s_break : PS X (.Break pos) (tS g E mBreak) := by
  refine PS.sub ps_break fun De σ H h => ?_
  obtain ⟨ρ, F, R, h⟩ := h
  exact h.bk R SF.refl
theorem s_pass : PS X (.Pass pos) (tS g E mSkip) := by
  refine PS.sub ps_pass fun De σ H h => ?_
  obtain ⟨ρ, F, R, h⟩ := h
  exact h.nx R SF.refl
theorem s_stuck {st : Stmt} : PS X st (tS g E mStuck) := by
  refine PS.sub ps_never fun De σ H h => ?_
  obtain ⟨ρ, F, R, h⟩ := h
  exact h.no
theorem s_set {n : Str} {pos' : Pos} (hN : X.N.Nodup) (hi : X.N[i]? = some n) (hx : Loc X.env.scope n) (he : PE X x (tE g E ma)) (hs : swapsWith x (some (.Name n pos')) pos.line X.env = pure false := by rfl) (hf : X.fn n = true ∨ X.env.scope.names.lookup n = some .local := by first | exact .inl rfl | exact .inr rfl) :
    PS X (.Assign [.Name n pos'] x pos) (tS g E (mSet i ma)) := by
  refine PS.sub (ps_set hN hi hx he hs hf) fun De σ H h => ?_
  obtain ⟨ρ, F, R, h⟩ := h
  refine ⟨ρ, F, R, (h.at SF.refl).mono fun p ρ1 H1 F1 R1 s1 h1 v rv => ?_⟩
  obtain ⟨s, h1⟩ := h1
  show De.nx (σ.set i (some v)) H1
  cases e1 : store i p ρ1 with
  | none => simp only [e1] at h1; exact h1.no.elim
  | some ρ2 =>
    simp only [e1] at h1
    obtain ⟨F2, R2, s2, _⟩ := store_rel R1 s rv e1
    exact h1.nx R2 s2
variable {st : Stmt} {sts : List Stmt} {m1 m2 : MS} {mt : MB}
theorem s_one (h : PS X st (tS g E m1)) : PSs X [st] (tS g E m1) := pss_one h
theorem s_snil : PSs X [] (tS g E mSkip) := by
  refine PSs.sub pss_nil fun De σ H h => ?_
  obtain ⟨ρ, F, R, h⟩ := h
  exact h.nx R SF.refl
theorem s_seq (h1 : PS X st (tS g E m1)) (h2 : PSs X sts (tS g E m2)) : PSs X (st :: sts) (tS g E (mSeq m1 m2)) := by
  refine PSs.sub (pss_cons h1 h2) fun De σ H h => ?_
  obtain ⟨ρ, F, R, o, ρ2, e, h⟩ := h
  refine ⟨ρ, F, R, ?_⟩
  unfold mSeq at e
  cases hz : m1 ρ with
  | none => rw [hz] at e; cases e
  | some q =>
    obtain ⟨z, ρ1⟩ := q
    rw [hz] at e
    cases z with
    | error z =>
      simp only [bnd] at e
      cases e
      exact ⟨.error z, _, rfl, h⟩
    | ok f =>
      cases f with
      | nx =>
        simp only [bnd] at e
        exact ⟨.ok .nx, ρ1, rfl, fun σ1 H1 F1 R1 s1 => ⟨ρ1, F1, R1, RunsS.tail (ρ0 := ρ) ⟨o, ρ2, e, h⟩ s1⟩⟩
      | bk =>
        simp only [bnd] at e
        cases e
        exact ⟨.ok .bk, _, rfl, h⟩
      | ct =>
        simp only [bnd] at e
        cases e
        exact ⟨.ok .ct, _, rfl, h⟩
      | rt r =>
        simp only [bnd] at e
        cases e
        exact ⟨.ok (.rt r), _, rfl, h⟩
theorem s_ifS {c : Expr} {b1 b2 : List Stmt} (hc : PT X c (tT g E mt)) (ha : PSs X b1 (tS g E m1)) (hb : PSs X b2 (tS g E m2)) : PS X (.If c b1 b2 pos) (tS g E (mIfS mt m1 m2)) := by
  refine PS.sub (ps_if hc ha hb) fun De σ H h => ?_
  obtain ⟨ρ, F, R, h⟩ := h
  refine ⟨ρ, F, R, (h.at SF.refl).mono fun b ρ1 H1 F1 R1 s1 h1 => ?_⟩
  obtain ⟨s, h1⟩ := h1
  cases b with
  | true => simp only [if_true] at h1 ⊢; exact ⟨ρ1, F1, R1, h1.tail s⟩
  | false => simp only [Bool.false_eq_true, if_false] at h1 ⊢; exact ⟨ρ1, F1, R1, h1.tail s⟩
/-! ### targets -/
def tG (g : Gr) (t : Tg) : TG := fun v σ H Q => ∃ ρ F d ρ', Rel g σ H F ρ ∧ Dv g H F d v ∧ tgt t d ρ = some ρ' ∧ ∀ σ', Rel g σ' H F ρ' → SF σ ρ H F σ' ρ' H F → (∀ j, j ∉ slT t → σ'[j]? = σ[j]?) → Q σ' H
def tGs (g : Gr) (ts : List Tg) : TGs := fun vs σ H Q => ∃ ρ F ds ρ', Rel g σ H F ρ ∧ DvL g H F ds vs ∧ tgts ts ds ρ = some ρ' ∧ ∀ σ', Rel g σ' H F ρ' → SF σ ρ H F σ' ρ' H F → (∀ j, j ∉ slTs ts → σ'[j]? = σ[j]?) → Q σ' H
theorem PG.sub {e : Expr} {t t' : TG} (h : PG X e t) (s : ∀ v σ H Q, t' v σ H Q → t v σ H Q) : PG X e t' := ⟨fun pins s' σ H v u Q I r q => h.run pins s' σ H v u Q I r (s v σ H Q q)⟩
theorem PGs.sub {e : List Expr} {t t' : TGs} (h : PGs X e t) (s : ∀ v σ H Q, t' v σ H Q → t v σ H Q) : PGs X e t' := ⟨fun pins s' σ H v u Q I r q => h.run pins s' σ H v u Q I r (s v σ H Q q)⟩
theorem g_name {n : Str} (hN : X.N.Nodup) (hi : X.N[i]? = some n) (hx : Loc X.env.scope n) (hf : X.fn n = true ∨ X.env.scope.names.lookup n = some .local := by first | exact .inl rfl | exact .inr rfl) : PG X (.Name n pos) (tG g (.nm i)) := by
  refine PG.sub (pg_name hN hi hx hf) fun v σ H Q h => ?_
  obtain ⟨ρ, F, d, ρ', R, z, e, k⟩ := h
  have e : store i (.va d) ρ = some ρ' := by rw [← e]; simp [tgt]
  have x : RelR g σ H ρ H F v (.va d) := z
  show Q (σ.set i (some v)) H
  unfold store at e
  cases hc : ρ[i]? with
  | none => rw [hc] at e; cases e
  | some c =>
    rw [hc] at e
    cases np : isPin c with
    | true => simp only [np, if_true] at e; cases e
    | false =>
      simp only [np, Bool.false_eq_true, if_false, put1] at e
      cases e
      exact k _ (R.set1 (fun d' h => ⟨v, rfl, by cases h; exact z⟩) (fun d' h => by cases h)) (SF.refl.set1 (SF.pin0 (SF.refl (σ := σ) (H := H) (F := F)) hc np) (fun a d' h => by cases h)) (fun j hj => List.getElem?_set_ne (fun e => hj (by simp [slT, e])))
theorem gs_nil : PGs X [] (tGs g []) := by
  refine PGs.sub pgs_nil fun vs σ H Q h => ?_
  obtain ⟨ρ, F, ds, ρ', R, z, e, k⟩ := h
  cases ds with
  | nil =>
    cases z
    simp only [tgts] at e
    cases e
    exact ⟨rfl, k σ R SF.refl fun _ _ => rfl⟩
  | cons _ _ => simp [tgts] at e
theorem gs_cons {t : Tg} {ts : List Tg} {es : List Expr} (h1 : PG X x (tG g t)) (h2 : PGs X es (tGs g ts)) (hs : (assignEach (x :: es) X.env).map (·.2) = assign x X.env :: (assignEach es X.env).map (·.2) := by rfl) : PGs X (x :: es) (tGs g (t :: ts)) := by
  refine PGs.sub (pgs_cons h1 h2 hs) fun vs σ H Q h => ?_
  obtain ⟨ρ, F, ds, ρ', R, z, e, k⟩ := h
  cases ds with
  | nil => simp [tgts] at e
  | cons d ds =>
    cases z with
    | cons z zs =>
      cases e1 : tgt t d ρ with
      | none => simp [tgts, e1] at e
      | some ρ1 =>
        simp only [tgts, e1] at e
        refine ⟨_, _, rfl, ρ, F, d, ρ1, R, z, e1, fun σ1 R1 s1 n1 => ⟨ρ1, F, ds, ρ', R1, zs, e, fun σ2 R2 s2 n2 => k σ2 R2 (s1.trans s2) fun j hj => (n2 j fun h => hj (by simp [slTs, h])).trans (n1 j fun h => hj (by simp [slTs, h]))⟩⟩
theorem tgts_len {F : Addr → Prop} : ∀ {ts : List Tg} {ds : List D} {ρ ρ' : Env}, tgts ts ds ρ = some ρ' → ds.length = ts.length
  | [], [], _, _, _ => rfl
  | [], _ :: _, _, _, e => by simp [tgts] at e
  | _ :: _, [], _, _, e => by simp [tgts] at e
  | t :: ts, d :: ds, ρ, ρ', e => by
    cases e1 : tgt t d ρ with
    | none => simp [tgts, e1] at e
    | some ρ1 =>
      simp only [tgts, e1] at e
      simp [tgts_len (F := F) e]
theorem g_tup {ts : List Tg} {es : List Expr} {k : Nat} (hc : X.calm = true) (h : PGs X es (tGs g ts)) (hK : X.K = g.K) (hl : ts.length = (assignEach es X.env).length := by rfl) (hst : (assignEach es X.env).findIdx? (·.1) = none := by rfl) : PG X (.Tuple es k pos) (tG g (.tp ts)) := by
  refine PG.sub (pg_tup (n := ts.length) hc h hl.symm hst) fun v σ H Q h => ?_
  obtain ⟨ρ, F, d, ρ', R, z, e, k⟩ := h
  cases d with
  | tup ds =>
    cases z with
    | tup s zs =>
      have e : tgts ts ds ρ = some ρ' := by rw [← e]; simp [tgt]
      exact ⟨_, _, rfl, by rw [hK]; exact s, by rw [← zs.length]; exact tgts_len (F := F) e, ρ, F, ds, ρ', R, zs, e, fun σ' r q n => k σ' r q fun j hj => n j (by simpa [slT] using hj)⟩
  | _ => simp [tgt] at e
/-- a, b = a tuple -/
theorem s_unp {ts : List Tg} {es : List Expr} {k : Nat} {tpos : Pos} (he : PE X x (tE g E ma)) (hg : PG X (.Tuple es k tpos) (tG g (.tp ts))) (hs : swapsWithSole [.Tuple es k tpos] x pos.line X.env = pure false := by rfl) (hw : swappedStores [.Tuple es k tpos] x X.env = pure none := by rfl)
    (h1 : (assignEach [.Tuple es k tpos] X.env).map (·.2) = [assign (.Tuple es k tpos) X.env] := by rfl) : PS X (.Assign [.Tuple es k tpos] x pos) (tS g E (mUnp ts ma)) := by
  refine PS.sub (ps_asg he hg hs hw h1) fun De σ H h => ?_
  obtain ⟨ρ, F, R, h⟩ := h
  refine ⟨ρ, F, R, (h.at SF.refl).mono fun p ρ1 H1 F1 R1 s1 h1 v rv => ?_⟩
  obtain ⟨s, h1⟩ := h1
  cases e1 : frz p ρ1 with
  | none => simp only [e1] at h1; exact h1.no.elim
  | some q =>
    obtain ⟨d, ρ2⟩ := q
    obtain ⟨F2, R2, s2, z2, up⟩ := frz_ok R1 s rv e1
    cases d with
    | tup ds =>
      simp only [e1] at h1
      cases e2 : tgts ts ds ρ2 with
      | none => simp only [e2] at h1; exact h1.no.elim
      | some ρ3 =>
        simp only [e2] at h1
        exact ⟨ρ2, F2, _, ρ3, R2, z2, by simp [tgt, e2], fun σ' R3 s3 _ => h1.nx R3 (s2.trans s3)⟩
    | _ => simp only [e1] at h1; exact h1.no.elim
end
end Mm
-- text S4
set_option Elab.async false
set_option linter.all false
set_option maxRecDepth 100000
/-! S4: what is walked; for, while. -/
namespace Mm
open PySem PySem.Spec PyProof.Rows L2
/-- the slots u that are walked stand as they stood in σ1, ρ1 -/
structure Locked (σ1 : Sg) (ρ1 : Env) (u : List Nat) (σ2 : Sg) (ρ2 : Env) : Prop where
  lk : ∀ i ∈ u, ∀ d : D, (ρ1[i]? = some (C.ow d) ∨ ρ1[i]? = some (C.bo d)) → ρ2[i]? = some (C.lk d) ∧ σ2[i]? = σ1[i]?
  old : ∀ (i : Nat) (d : D), ρ1[i]? = some (C.lk d) → ρ2[i]? = some (C.lk d) ∧ σ2[i]? = σ1[i]?
/-- what is walked as in (σ1, ρ1, H1, F1), ρ1 with its locks, still stands -/
structure Sees (σ1 : Sg) (ρ1 : Env) (H1 : Hp) (F1 : Addr → Prop) (σ2 : Sg) (ρ2 : Env) (H2 : Hp) (F2 : Addr → Prop) : Prop where
  kp : Keep H1 H2 F1 F2
  lk : ∀ (i : Nat) (d : D), ρ1[i]? = some (C.lk d) → ρ2[i]? = some (C.lk d) ∧ σ2[i]? = σ1[i]?
  ob : ∀ (i : Nat) (d : D) (a : Addr) (o : HO), ρ1[i]? = some (C.lk d) → σ1[i]? = some (some (.ref a)) → H1 a = some o → H2 a = some o
/-- the iterator J gives the items ds, wherever what it walks stands as in (σ1, ρ1, H1, F1) -/
def ItOk (g : Gr) (σ1 : Sg) (ρ1 : Env) (H1 : Hp) (F1 : Addr → Prop) (u : List Nat) (J : It) (ds : List D) : Prop :=
  ∀ σ2 H2 F2 ρ2, Rel g σ2 H2 F2 ρ2 → Sees σ1 (lockE u ρ1) H1 F1 σ2 ρ2 H2 F2 → ∀ k : Nat,
    (∀ d, ds[k]? = some d → J.go k H2 ∧ ∀ x H3, J.yld k H2 x H3 → Ext H2 H3 ∧ Dv g H3 F2 d x) ∧ (k = ds.length → J.stop k H2)
/-- each slot of u is an object that may change -/
def AllOb (ρ1 : Env) (u : List Nat) : Prop := ∀ i ∈ u, ∃ d : D, ρ1[i]? = some (C.ow d) ∨ ρ1[i]? = some (C.bo d)
def tI (g : Gr) (E : XK) (mi : MI) : TI := fun σ H R => ∃ ρ F, Rel g σ H F ρ ∧ Runs g E (mi ρ) σ ρ H F fun p ρ' H' F' => ∀ J, AllOb ρ' p.2 → ItOk g σ ρ' H' F' p.2 J p.1 → R J H'
section
variable {g : Gr} {σ σ0 σ' σ1 σ2 : Sg} {H H' H0 H1 H2 : Hp} {F F0 F' F1 F2 : Addr → Prop} {ρ ρ0 ρ' ρ1 ρ2 : Env} {a : Addr} {v : V} {r : R} {d d' : D} {i : Nat} {E : XK} {X : Cx} {x y : Expr} {pos : Pos} {ma mb mc : ME} {De : Ends} {u : List Nat} {J : It} {ds : List D} {mi : MI}
theorem PI.sub {tg it : Expr} {t t' : TI} (h : PI X tg it t) (s : ∀ σ H Q, t' σ H Q → t σ H Q) : PI X tg it t' := ⟨fun pins s' σ H Q I q => h.run pins s' σ H Q I (s σ H Q q)⟩
/-! ### locking -/
theorem lock1_get (h : (lock1 ρ i)[j]? = some c) : ρ[j]? = some c ∨ (j = i ∧ ∃ d, c = .lk d ∧ (ρ[i]? = some (.ow d) ∨ ρ[i]? = some (.bo d))) := by
  unfold lock1 at h
  split at h
  · rename_i d e
    rcases get_set h with ⟨rfl, rfl, _⟩ | ⟨_, q⟩
    · exact .inr ⟨rfl, d, rfl, .inl e⟩
    · exact .inl q
  · rename_i d e
    rcases get_set h with ⟨rfl, rfl, _⟩ | ⟨_, q⟩
    · exact .inr ⟨rfl, d, rfl, .inr e⟩
    · exact .inl q
  · exact .inl h
theorem lock1_len : (lock1 ρ i).length = ρ.length := by
  unfold lock1
  split <;> simp
/-- a cell of a locked environment: as before, or locked -/
theorem lockE_get : ∀ {u : List Nat} {ρ : Env} {j : Nat} {c : C}, (lockE u ρ)[j]? = some c → ρ[j]? = some c ∨ (j ∈ u ∧ ∃ d, c = .lk d ∧ (ρ[j]? = some (.ow d) ∨ ρ[j]? = some (.bo d)))
  | [], _, _, _, h => .inl h
  | i :: is, ρ, j, c, h => by
    rcases lockE_get (u := is) h with h1 | ⟨hj, d, e, h1⟩
    · rcases lock1_get h1 with h2 | ⟨e2, d, e, h2⟩
      · exact .inl h2
      · subst e2
        exact .inr ⟨List.mem_cons_self, d, e, h2⟩
    · refine .inr ⟨List.mem_cons_of_mem _ hj, d, e, ?_⟩
      rcases h1 with h1 | h1
      · rcases lock1_get h1 with h2 | ⟨_, d', z, _⟩
        · exact .inl h2
        · cases z
      · rcases lock1_get h1 with h2 | ⟨_, d', z, _⟩
        · exact .inr h2
        · cases z
theorem lock1_keep {j : Nat} (h : j ≠ i) : (lock1 ρ i)[j]? = ρ[j]? := by
  unfold lock1
  split
  · exact List.getElem?_set_ne (Ne.symm h)
  · exact List.getElem?_set_ne (Ne.symm h)
  · rfl
theorem lockE_keep : ∀ {u : List Nat} {ρ : Env} {j : Nat}, j ∉ u → (lockE u ρ)[j]? = ρ[j]?
  | [], _, _, _ => rfl
  | i :: is, ρ, j, h => by
    rw [lockE, lockE_keep (fun z => h (List.mem_cons_of_mem _ z)), lock1_keep (fun z => h (by rw [z]; exact List.mem_cons_self))]
theorem lockE_len : ∀ {u : List Nat} {ρ : Env}, (lockE u ρ).length = ρ.length
  | [], _ => rfl
  | i :: is, ρ => by rw [lockE, lockE_len (u := is), lock1_len]
theorem lock1_lk {j : Nat} (h : ρ[j]? = some (.lk d)) : (lock1 ρ i)[j]? = some (.lk d) := by
  unfold lock1
  split
  · rename_i e
    rw [List.getElem?_set_ne (fun z => by subst z; rw [h] at e; cases e)]; exact h
  · rename_i e
    rw [List.getElem?_set_ne (fun z => by subst z; rw [h] at e; cases e)]; exact h
  · exact h
theorem lockE_lk : ∀ {u : List Nat} {ρ : Env} {j : Nat}, ρ[j]? = some (.lk d) → (lockE u ρ)[j]? = some (.lk d)
  | [], _, _, h => h
  | i :: is, ρ, j, h => lockE_lk (u := is) (lock1_lk h)
theorem lockE_in : ∀ {u : List Nat} {ρ : Env} {j : Nat}, j ∈ u → (ρ[j]? = some (.ow d) ∨ ρ[j]? = some (.bo d)) → (lockE u ρ)[j]? = some (.lk d)
  | i :: is, ρ, j, hj, h => by
    by_cases e : j = i
    · subst e
      refine lockE_lk (u := is) ?_
      have hl : j < ρ.length := by rcases h with h | h <;> exact (List.getElem?_eq_some_iff.mp h).1
      unfold lock1
      rcases h with h | h <;> (rw [h]; simp only; exact List.getElem?_set_self hl)
    · have hj' : j ∈ is := (List.mem_cons.mp hj).resolve_left e
      refine lockE_in (u := is) hj' ?_
      rw [lock1_keep e]
      exact h
theorem lockE_other : ∀ {u : List Nat} {ρ : Env} {j : Nat} {c : C}, (∀ d, c ≠ .ow d) → (∀ d, c ≠ .bo d) → ρ[j]? = some c → (lockE u ρ)[j]? = some c
  | [], _, _, _, _, _, h => h
  | i :: is, ρ, j, c, n1, n2, h => by
    refine lockE_other (u := is) n1 n2 ?_
    unfold lock1
    split
    · rename_i d e
      rw [List.getElem?_set_ne (fun z => by subst z; rw [h] at e; exact n1 d (Option.some.inj e))]; exact h
    · rename_i d e
      rw [List.getElem?_set_ne (fun z => by subst z; rw [h] at e; exact n2 d (Option.some.inj e))]; exact h
    · exact h
theorem Rel.locked (R : Rel g σ H F ρ) (u : List Nat) : Rel g σ H F (lockE u ρ) := by
  have key : ∀ {j : Nat} {c : C} {d : D}, (lockE u ρ)[j]? = some c → isOb c = some d → ∃ c', ρ[j]? = some c' ∧ isOb c' = some d := fun {j c d} h o => by
    rcases lockE_get h with h | ⟨_, d', z, h7⟩
    · exact ⟨c, h, o⟩
    · subst z
      rcases h7 with h7 | h7
      · exact ⟨_, h7, o⟩
      · exact ⟨_, h7, o⟩
  refine ⟨by rw [lockE_len]; exact R.len, fun j c d e o => ?_, fun j c d e o => ?_, fun j k c e x y b ne q1 q2 o1 o2 => ?_, R.fz, R.tab⟩
  · rcases lockE_get e with e | ⟨_, d', z, _⟩
    · exact R.val j c d e o
    · subst z; cases o
  · obtain ⟨c', e', o'⟩ := key e o
    exact R.own j c' d e' o'
  · obtain ⟨c', e', o'⟩ := key q1 o1
    obtain ⟨c2, e2, o2'⟩ := key q2 o2
    exact R.inj j k c' c2 x y b ne e' e2 o' o2'
theorem SF.sees (R : Rel g σ1 H1 F1 ρ1) (s : SF σ1 ρ1 H1 F1 σ2 ρ2 H2 F2) : Sees σ1 ρ1 H1 F1 σ2 ρ2 H2 F2 :=
  ⟨s.keep R, s.lk, fun i d a o e q h => s.ob a o h (fun ⟨j, d', e', q'⟩ => by
    by_cases ne : j = i
    · subst ne
      rw [e] at e'
      rcases e' with e' | e' <;> cases e'
    · rcases e' with e' | e'
      · exact R.inj j i _ _ _ _ a ne e' e rfl rfl q' q
      · exact R.inj j i _ _ _ _ a ne e' e rfl rfl q' q) fun ps z => by
    obtain ⟨b, q', _, t⟩ := R.own i _ d e rfl
    rw [q] at q'; cases q'
    obtain ⟨o', ho, _, _, nt⟩ := t.there
    rw [h] at ho; cases ho
    exact nt ps z⟩
theorem locked_self : Locked σ ρ u σ (lockE u ρ) := ⟨fun i hi d h => ⟨lockE_in hi h, rfl⟩, fun i d h => ⟨lockE_lk h, rfl⟩⟩
theorem Locked.go (l : Locked σ1 ρ1 u σ ρ) (s : SF σ ρ H F σ' ρ' H' F') : Locked σ1 ρ1 u σ' ρ' :=
  ⟨fun i hi d h => let ⟨e, q⟩ := l.lk i hi d h; let ⟨e', q'⟩ := s.lk i d e; ⟨e', q'.trans q⟩, fun i d h => let ⟨e, q⟩ := l.old i d h; let ⟨e', q'⟩ := s.lk i d e; ⟨e', q'.trans q⟩⟩
theorem own_locked (h : Own σ (lockE u ρ) a) : Own σ ρ a := by
  obtain ⟨j, d, e, s⟩ := h
  rcases e with e | e
  · rcases lockE_get e with e | ⟨_, _, z, _⟩
    · exact ⟨j, d, .inl e, s⟩
    · cases z
  · rcases lockE_get e with e | ⟨_, _, z, _⟩
    · exact ⟨j, d, .inr e, s⟩
    · cases z
theorem held_locked (h : Held σ (lockE u ρ) a) : Held σ ρ a := by
  obtain ⟨j, c, d, e, o, s⟩ := h.ob
  rcases lockE_get e with e | ⟨_, d', z, e7⟩
  · exact held_of e o s
  · subst z
    rcases e7 with e7 | e7
    · exact held_of e7 o s
    · exact held_of e7 o s
/-! ### unlocking -/
theorem unlockE_len : ∀ {u : List Nat} {ρ : Env}, (unlockE ρ1 u ρ).length = ρ.length
  | [], _ => rfl
  | i :: is, ρ => by
    rw [unlockE, unlockE_len (u := is)]
    split <;> simp
theorem unlockE_get : ∀ {u : List Nat} {ρ : Env} {j : Nat} {c : C}, (unlockE ρ1 u ρ)[j]? = some c → (j ∈ u ∧ ρ1[j]? = some c) ∨ ρ[j]? = some c
  | [], _, _, _, h => .inr h
  | i :: is, ρ, j, c, h => by
    rw [unlockE] at h
    rcases unlockE_get (u := is) h with ⟨hj, h⟩ | h
    · exact .inl ⟨List.mem_cons_of_mem _ hj, h⟩
    · split at h
      · rename_i c' e
        rcases get_set h with ⟨rfl, rfl, _⟩ | ⟨_, q⟩
        · exact .inl ⟨List.mem_cons_self, e⟩
        · exact .inr q
      · exact .inr h
theorem unlockE_keep : ∀ {u : List Nat} {ρ : Env} {j : Nat}, j ∉ u → (unlockE ρ1 u ρ)[j]? = ρ[j]?
  | [], _, _, _ => rfl
  | i :: is, ρ, j, h => by
    rw [unlockE, unlockE_keep (fun z => h (List.mem_cons_of_mem _ z))]
    split
    · rw [List.getElem?_set_ne (fun z => h (by rw [← z]; exact List.mem_cons_self))]
    · rfl
theorem unlockE_back : ∀ {u : List Nat} {ρ : Env} {j : Nat} {c : C}, j ∈ u → ρ1[j]? = some c → ρ.length = ρ1.length → (unlockE ρ1 u ρ)[j]? = some c
  | i :: is, ρ, j, c, hj, h, hl => by
    rw [unlockE]
    by_cases e : j ∈ is
    · refine unlockE_back e h ?_
      split <;> simp [hl]
    · rw [unlockE_keep e]
      have : j = i := (List.mem_cons.mp hj).resolve_right e
      subst this
      rw [h]
      have hlt : j < ρ.length := by rw [hl]; exact (List.getElem?_eq_some_iff.mp h).1
      exact List.getElem?_set_self hlt
/-- behind a loop: what was walked may change again -/
theorem unlock_rel (R1 : Rel g σ1 H1 F1 ρ1) (ao : AllOb ρ1 u) (R : Rel g σ H F ρ) (s : SF σ1 (lockE u ρ1) H1 F1 σ ρ H F) : Rel g σ H F (unlockE ρ1 u ρ) ∧ SF σ1 ρ1 H1 F1 σ (unlockE ρ1 u ρ) H F := by
  have lk : ∀ j ∈ u, ∃ d c, ρ1[j]? = some c ∧ (c = .ow d ∨ c = .bo d) ∧ ρ[j]? = some (.lk d) ∧ σ[j]? = σ1[j]? := fun j hj => by
    obtain ⟨d, e⟩ := ao j hj
    obtain ⟨e1, e2⟩ := s.lk j d (lockE_in hj e)
    rcases e with e | e
    · exact ⟨d, _, e, .inl rfl, e1, e2⟩
    · exact ⟨d, _, e, .inr rfl, e1, e2⟩
  have key : ∀ {j : Nat} {c : C}, (unlockE ρ1 u ρ)[j]? = some c → (∃ c', ρ[j]? = some c' ∧ isOb c' = isOb c ∧ isVal c' = isVal c) := fun {j c} h => by
    rcases unlockE_get h with ⟨hj, h⟩ | h
    · obtain ⟨d, c', e, o, e1, _⟩ := lk j hj
      rw [h] at e; cases e
      refine ⟨_, e1, ?_⟩
      rcases o with rfl | rfl <;> exact ⟨rfl, rfl⟩
    · exact ⟨c, h, rfl, rfl⟩
  have heldU : ∀ {a}, Held σ (unlockE ρ1 u ρ) a → Held σ ρ a := fun {a} h => by
    obtain ⟨j, c, d, e, o, q⟩ := h.ob
    obtain ⟨c', e', o', _⟩ := key e
    exact held_of e' (o'.trans o) q
  refine ⟨⟨by rw [unlockE_len]; exact R.len, fun j c d e o => ?_, fun j c d e o => ?_, fun j k c e x y b ne q1 q2 o1 o2 => ?_, R.fz, R.tab⟩, s.fr, fun b f => ?_, fun b o e n t => s.ob b o e (fun z => n (own_locked z)) t, s.there, fun b h => ?_, fun b h => ?_, fun j d e => ?_, fun j d e => ?_, fun j d e => ?_, by rw [unlockE_len, s.len, lockE_len]⟩
  · obtain ⟨c', e', _, o'⟩ := key e
    exact R.val j c' d e' (o'.trans o)
  · obtain ⟨c', e', o', _⟩ := key e
    exact R.own j c' d e' (o'.trans o)
  · obtain ⟨c', e', o', _⟩ := key q1
    obtain ⟨c2, e2, o2', _⟩ := key q2
    exact R.inj j k c' c2 x y b ne e' e2 (o'.trans o1) (o2'.trans o2)
  · rcases s.new b f with z | z | z
    · exact .inl z
    · exact .inr (.inl (own_locked z))
    · exact .inr (.inr z)
  · obtain ⟨j, d, e, q⟩ := h
    have go : ∀ c, (unlockE ρ1 u ρ)[j]? = some c → (c = .ow d ∨ c = .bo d) → Own σ1 ρ1 b ∨ H1 b = none := fun c e hc => by
      rcases unlockE_get e with ⟨hj, e⟩ | e
      · obtain ⟨d', c', e', _, _, e2⟩ := lk j hj
        rw [e2] at q
        rcases hc with rfl | rfl
        · exact .inl ⟨j, d, .inl e, q⟩
        · exact .inl ⟨j, d, .inr e, q⟩
      · have : Own σ ρ b := by
          rcases hc with rfl | rfl
          · exact ⟨j, d, .inl e, q⟩
          · exact ⟨j, d, .inr e, q⟩
        rcases s.own b this with z | z
        · exact .inl (own_locked z)
        · exact .inr z
    rcases e with e | e
    · exact go _ e (.inl rfl)
    · exact go _ e (.inr rfl)
  · rcases s.held b (heldU h) with z | z
    · exact .inl (held_locked z)
    · exact .inr z
  · by_cases hj : j ∈ u
    · obtain ⟨d', c', e', o, e1, e2⟩ := lk j hj
      have hl : ρ.length = ρ1.length := by rw [s.len, lockE_len]
      exact ⟨⟨d, .inl (unlockE_back hj e hl)⟩, e2⟩
    · rw [unlockE_keep hj]
      have q : (lockE u ρ1)[j]? = some (.bo d) := by rw [lockE_keep hj]; exact e
      exact s.bo j d q
  · have hj : j ∉ u := fun hj => by
      obtain ⟨d', q⟩ := ao j hj
      rw [e] at q
      rcases q with q | q <;> cases q
    rw [unlockE_keep hj]
    exact s.fb j d (lockE_other (by intro _ z; cases z) (by intro _ z; cases z) e)
  · have hj : j ∉ u := fun hj => by
      obtain ⟨d', q⟩ := ao j hj
      rw [e] at q
      rcases q with q | q <;> cases q
    rw [unlockE_keep hj]
    exact s.lk j d (lockE_lk e)
end
end Mm
-- text S5
set_option Elab.async false
set_option linter.all false
set_option maxRecDepth 100000
set_option maxHeartbeats 1000000
/-! S5: iterators over lists, tuples, dicts; zip, enumerate. -/
namespace Mm
open PySem PySem.Spec PyProof.Rows L2
/-! ### lists (false) and tuples (true) alike -/
def SqQ (K : PySem.W.Frag) (b : Bool) (H : Hp) (a : Addr) (xs : List V) : Prop := match b with
  | false => SqL K H a xs
  | true => SqT K H a xs
def IsSq (b : Bool) (h : Heap) (a : Addr) (its : Array Value) : Prop := match b with
  | false => h.IsList a its
  | true => h.IsTuple a its
def IsSqIt (b : Bool) (h : Heap) (it a : Addr) (i : Nat) : Prop := match b with
  | false => h.IsListIter it a i
  | true => h.IsTupleIter it a i
theorem IsSq.lt {b : Bool} {h : Heap} {a : Addr} {its : Array Value} (p : IsSq b h a its) : a < h.objs.size := by
  cases b with
  | false => obtain ⟨o, e, _⟩ := p; exact Heap.lt_size e
  | true => obtain ⟨o, e, _⟩ := p; exact Heap.lt_size e
theorem IsSq.at {b : Bool} {h h' : Heap} {a : Addr} {its : Array Value} (p : IsSq b h a its) (k : ∀ o, h.get? a = some o → h'.get? a = some o) : IsSq b h' a its := by
  cases b with
  | false => exact Heap.IsList.at p k
  | true => exact Heap.IsTuple.at p k
theorem IsSqIt.at {b : Bool} {h h' : Heap} {it a : Addr} {i : Nat} (p : IsSqIt b h it a i) (k : ∀ o, h.get? it = some o → h'.get? it = some o) : IsSqIt b h' it a i := by
  cases b with
  | false => exact Heap.IsListIter.at p k
  | true => exact Heap.IsTupleIter.at p k
theorem IsSqIt.obj {b : Bool} {h : Heap} {it a : Addr} {i : Nat} (p : IsSqIt b h it a i) : ∃ o, h.get? it = some o ∧ ∀ v, o.data ≠ .cell v := by
  cases b with
  | false => obtain ⟨o, e, c, d⟩ := p; exact ⟨o, e, fun v z => by rw [d] at z; cases z⟩
  | true => obtain ⟨o, e, c, d⟩ := p; exact ⟨o, e, fun v z => by rw [d] at z; cases z⟩
theorem IsSqIt.lt {b : Bool} {h : Heap} {it a : Addr} {i : Nat} (p : IsSqIt b h it a i) : it < h.objs.size := by
  obtain ⟨o, e, _⟩ := p.obj
  exact Heap.lt_size e
def sqIterO (b : Bool) (a : Addr) : Obj := match b with
  | false => { cls := .type "list_iterator", data := .fields #[.ref a, .int 0 0] }
  | true => { cls := .type "tuple_iterator", data := .fields #[.ref a, .int 0 0] }
theorem sqBegins (b : Bool) (a : Addr) (its : Array Value) : Begins (.ref a) (sqIterO b a) fun h => IsSq b h a its := by
  cases b with
  | false => exact begins_list a its
  | true => exact begins_tuple a its
theorem IsSqIt.start {b : Bool} {h : Heap} {it a : Addr} (e : h.get? it = some (sqIterO b a)) : IsSqIt b h it a 0 := by
  cases b with
  | false => exact ⟨_, e, rfl, rfl⟩
  | true => exact ⟨_, e, rfl, rfl⟩
theorem sqDraws {prog : Program} {w : World} {A : Around} (hh : A.handled = none) (b : Bool) (it a : Addr) (hne : a ≠ it) (items : Array Value) :
    Draws prog w A it [it, a] items.size (fun i v => items[i]? = some v) (fun i h => IsSqIt b h it a i ∧ IsSq b h a items) := by
  cases b with
  | false => exact Draws.list hh it a hne items
  | true => exact Draws.tuple hh it a hne items
section
variable {X : Cx} {pins : List (Addr × Obj)} {σ : Sg} {H : Hp} {s : Shared} {a : Addr} {xs ys : List V} {b : Bool}
theorem sqOf (I : Inv X pins σ H s) (h : SqQ X.K b H a xs) : ∃ its : List Value, Vals xs its ∧ IsSq b s.heap a its.toArray ∧ its.length = xs.length := by
  cases b with
  | false =>
    obtain ⟨its, rv, p, _⟩ := I.list h
    exact ⟨its, rv, p.isList, rv.length.symm⟩
  | true =>
    obtain ⟨its, rv, p, _⟩ := I.tuple h
    exact ⟨its, rv, p, rv.length.symm⟩
theorem sqInj (I : Inv X pins σ H s) (h : SqQ X.K b H a xs) (h' : SqQ X.K b H a ys) : xs = ys := by
  cases b with
  | false => exact I.list_inj h h'
  | true => exact I.tuple_inj h h'
end
/-! ### enumerate -/
def Iteq (K : PySem.W.Frag) (b : Bool) (a : Addr) : It :=
  ⟨fun i H => ∃ (xs : List V) (x : V), SqQ K b H a xs ∧ xs[i]? = some x, fun i H v H' => ∃ T x, v = .ref T ∧ H T = none ∧ H' = upd H T (.tup [.int (i : Nat), x]) ∧ ∀ xs, SqQ K b H a xs → xs[i]? = some x, fun i H => ∃ xs : List V, SqQ K b H a xs ∧ xs.length = i⟩
theorem turn_enumQ {P : Program} {w : World} {K : PySem.W.Frag} {elts : List Expr} {kk : Nat} {tpos : Pos} (b : Bool) (a e it : Addr) (hei : e ≠ it) (hea : e ≠ a) (hai : a ≠ it) :
    Turn P w K (.Tuple elts kk tpos) (Iteq K b a) [e, it] e (fun i h => (∃ old, IsEnum h e it ((i : Nat) : Int) old) ∧ IsSqIt b h it a i) where
  mem := by simp
  obj := fun i h st c hc => by
    obtain ⟨⟨old, he⟩, hit⟩ := st
    have e' : c = e ∨ c = it := by simpa using hc
    rcases e' with z | z
    · rw [z]; exact ⟨_, he, fun v q => nomatch q⟩
    · rw [z]; exact hit.obj
  keep := fun i h h' st k => let ⟨⟨old, he⟩, hi⟩ := st; ⟨⟨old, k e (by simp) _ he⟩, hi.at fun o q => k it (by simp) o q⟩
  item := by
    intro X hP hw hK hc i pins s σ H E I hf st hg
    subst hP hw hK
    obtain ⟨⟨old, he⟩, hit⟩ := st
    obtain ⟨xs, x, hq, hx⟩ := hg
    obtain ⟨its, rv, p, hl⟩ := sqOf I hq
    obtain ⟨u, hu, ru⟩ := rv.get hx
    have hel : e < s.heap.objs.size := Heap.lt_size he
    have hil : it < s.heap.objs.size := hit.lt
    have hlt : i < its.toArray.size := by
      have := (List.getElem?_eq_some_iff.mp hx).1
      simp; omega
    refine wpAny_pyNext_enum_itemC (sqDraws (A := X.A.in1) (show X.A.in1.handled = none from I.ok.hd hc) b it a hai its.toArray) he ⟨hit, p⟩ hlt hei (by simp [hei, hea]) fun u' h' tk hu' ho st' hT hsz hk => ?_
    have eu : u' = u := by
      have hu' : its.toArray[i]? = some u' := hu'
      have : its[i]? = some u' := by simpa using hu'
      rw [hu] at this
      exact (Option.some.inj this).symm
    subst eu
    refine ⟨_, rfl, wpAny_letOwnedTupleGo_enum (s := { s with heap := h', toks := tk + 1 }) ho fun h'' he' sb => ?_⟩
    have hT2 : h''.get? s.heap.objs.size = some { cls := .type "tuple", data := .seq #[.int i tk, u'] } := (sb.2 _ (Nat.ne_of_gt hel)).trans hT
    have new : ObjOk X.prog X.w (upd H s.heap.objs.size (.tup [.int (i : Nat), x])) h'' s.heap.objs.size (.tup [.int (i : Nat), x]) :=
      ⟨by show 2 ≤ sizeLine; decide, [.int i tk, u'], .cons ⟨_, rfl⟩ (.cons ru .nil), ⟨_, hT2, rfl, _, rfl⟩⟩
    have I1 : Inv X pins σ (upd H s.heap.objs.size (.tup [.int (i : Nat), x])) { s with heap := h'', toks := tk + 1 } :=
      I.turnedNew (ch := [e, it]) (fun c ob hb q => (sb.2 c (fun z => hb (by simp [z]))).trans (hk c ob (fun z => hb (by simp [z])) (fun z => hb (by simp [z])) q)) hf (Nat.le_refl _) new
    refine ⟨.ref s.heap.objs.size, _, I1, rfl, ⟨_, x, rfl, I.hok.fresh (Nat.le_refl _), rfl, fun ys hy => by rw [sqInj I hy hq]; exact hx⟩, ⟨⟨u', ?_⟩, st'.1.at fun o q => (sb.2 it (Ne.symm hei)).trans q⟩, fun c hb => ?_⟩
    · have e1 : ((i + 1 : Nat) : Int) = (i : Int) + 1 := by omega
      rw [e1]; exact he'
    · have hb' : c < s.heap.objs.size := by
        have e' : c = e ∨ c = it := by simpa using hb
        rcases e' with z | z
        · rw [z]; exact hel
        · rw [z]; exact hil
      rw [upd_ne (Nat.ne_of_lt hb')]
      exact (hf c hb).1
  done := by
    intro X hP hw hK hc i pins s σ H E I hf st hg
    subst hP hw hK
    obtain ⟨⟨old, he⟩, hit⟩ := st
    obtain ⟨xs, hq, hx⟩ := hg
    obtain ⟨its, rv, p, hl⟩ := sqOf I hq
    obtain ⟨f0, f1, f2, f3, f4, f5⟩ := hf e (by simp)
    have ei : i = its.toArray.size := by simp; omega
    subst ei
    exact wpAny_pyNext_enum_endD (sqDraws (A := X.A.in1) (show X.A.in1.handled = none from I.ok.hd hc) b it a hai its.toArray) he ⟨hit, p⟩ fun h' eb => ⟨rfl, I.turnedL (t' := s.toks) (ch := [e, it]) (fun c o hb q => eb c o (fun z => hb (by simp [z])) q) hf⟩
  self := fun _ _ _ _ _ st h => let ⟨⟨_, he⟩, _⟩ := st; wpAny_pyIter_enum he h
theorem meets_en1 {v : Value} {o : Obj} {H : Heap → Prop} (B : Begins v o H) :
    Meets (Builtin.«enumerate.__new__» ⟨[.type "enumerate", v], []⟩) (fun _ R s => H s.heap ∧
      R (.ok (.ret (.ref (s.heap.push o).objs.size))) { s with heap := (s.heap.push o).push { cls := .type "enumerate", data := .fields #[.none, .bool false, .ref s.heap.objs.size, rawInt 0, .none, .none] } }) :=
  .of_wp fun prog w A R s h => by
    obtain ⟨hp, g, d, tk, os⟩ := s; obtain ⟨h1, h⟩ := h
    have hsub := sub_enumerate
    have q1 : ∀ {A' : Around} {E : Value → Shared → Prop} {Q : Value → Shared → Prop}, Q (.ref hp.objs.size) ⟨hp.push o, g, d, tk, os⟩ → wpAny (model prog w) A' (pyIter v) Q E ⟨hp, g, d, tk, os⟩ :=
      fun q => B.iter prog w _ _ ⟨hp, g, d, tk, os⟩ _ h1 q
    wp_walk using q1
    refine wpAny_stack_any fun st => wpAny_pure ?_
    split
    · rename_i c _ _ _ _ _
      cases (c == Value.type "enumerate")
      · wp_walk using q1
        exact ⟨_, rfl, h⟩
      · wp_walk using q1
        exact ⟨_, rfl, h⟩
    · wp_walk using q1
      exact ⟨_, rfl, h⟩
theorem en1_begins {prog : Program} {w : World} {A : Around} {E : Value → Shared → Prop} {s : Shared} {v : Value} {o : Obj} {H : Heap → Prop} {Q : Value → Shared → Prop} (B : Begins v o H) (h1 : H s.heap)
    (h : ∀ h', IsEnum h' (s.heap.objs.size + 1) s.heap.objs.size 0 .none → h'.get? s.heap.objs.size = some o → h'.objs.size = s.heap.objs.size + 2 →
      (∀ b o, s.heap.get? b = some o → h'.get? b = some o) → Q (.ref (s.heap.objs.size + 1)) { s with heap := h' }) :
    wpAny (model prog w) A (call (.type "enumerate") [v]) Q E s := by
  refine callType_new F.called_enumerate (by decide) (F.typeCall_enumerate_1 _) (F.newCall_enumerate_1 _) (fun obj => F.args_object_init_2 obj _) F.entry_enumerate_new
    (meets_en1 B) ⟨h1, ?_⟩
  have hz : (s.heap.push o).objs.size = s.heap.objs.size + 1 := Heap.size_push ..
  show _ ∧ _
  rw [hz]
  have he : IsEnum ((s.heap.push o).push { cls := .type "enumerate", data := .fields #[.none, .bool false, .ref s.heap.objs.size, rawInt 0, .none, .none] }) (s.heap.objs.size + 1) s.heap.objs.size 0 .none := by
    have := Heap.get?_push_size (s.heap.push o) (o := { cls := .type "enumerate", data := .fields #[.none, .bool false, .ref s.heap.objs.size, rawInt 0, .none, .none] }) rfl
    rw [hz] at this; exact this
  refine ⟨⟨_, he, rfl⟩, h _ he (Heap.get?_push_of_some _ (Heap.get?_push_size _ B.free)) (by rw [Heap.size_push, hz]) fun b o x => Heap.get?_push_of_some _ (Heap.get?_push_of_some _ x)⟩
def iEnumQ (K : PySem.W.Frag) (te : TE) : TI := fun σ H R => te σ H fun x H1 => ∃ b a xs, x = .ref a ∧ SqQ K b H1 a xs ∧ R (Iteq K b a) H1
theorem pi_enumQ {X : Cx} {e : Expr} {te : TE} {p pos tpos : Pos} {elts : List Expr} {kk : Nat} (hg : Gl X "enumerate") (hm : X.mg "enumerate" = none) (ha : PE X e te) (hs : starEach [e] X.env = (false, eval e X.env) :: starEach [] X.env := by rfl) :
    PI X (.Tuple elts kk tpos) (.Call (.Name "enumerate" p) [e] [] pos) (iEnumQ X.K te) := by
  refine ⟨fun pins s σ H R I h => ?_⟩
  have h' : (tCons te tNil) σ H (fun vs H1 => match vs with
    | [x] => ∃ b a xs, x = .ref a ∧ SqQ X.K b H1 a xs ∧ R (Iteq X.K b a) H1
    | _ => False) := h
  refine Call_ (ld_blt I hg hm boot_enumerate (PyProof.Rows.callWith_type1 (thn ((pa_cons ha pa_nil hs).run pos pins s σ H _ I h') fun us s1 ⟨vs, H1, I1, r1, q1⟩ => ?_) hs rfl))
  match vs, q1 with
  | [x], ⟨b, a, xs, ex, hq, q⟩ =>
    subst ex
    cases r1 with
    | cons r rr =>
      cases rr
      cases r
      obtain ⟨its, rv, p', hl⟩ := sqOf I1 hq
      refine en1_begins (sqBegins b a its.toArray) p' fun h' he hit hsz hk => wpAny_pyIter_enum he ?_
      have I2 : Inv X pins σ H1 { s1 with heap := h' } := I1.kept (t' := s1.toks) hk
      have la : a < s1.heap.objs.size := p'.lt
      have nea : s1.heap.objs.size + 1 ≠ a := fun z => by rw [← z] at la; exact absurd la (Nat.not_lt.mpr (Nat.le_succ _))
      have nei : a ≠ s1.heap.objs.size := Nat.ne_of_lt la
      refine ⟨s1.heap.objs.size + 1, [s1.heap.objs.size + 1, s1.heap.objs.size], _, _, H1, rfl, I2, turn_enumQ b a (s1.heap.objs.size + 1) s1.heap.objs.size (Nat.succ_ne_self _) nea nei, ⟨⟨.none, he⟩, IsSqIt.start hit⟩, fun c hb => ?_, q⟩
      have e' : c = s1.heap.objs.size + 1 ∨ c = s1.heap.objs.size := by simpa using hb
      have hle : s1.heap.objs.size ≤ c := by
        rcases e' with z | z
        · rw [z]; exact Nat.le_add_right _ _
        · rw [z]; exact Nat.le_refl _
      exact I1.fpOk hle (I1.hok.fresh hle)
/-! ### zip -/
def Itzq (K : PySem.W.Frag) (b1 : Bool) (a1 : Addr) (b2 : Bool) (a2 : Addr) : It :=
  ⟨fun i H => ∃ (xs ys : List V) (x y : V), SqQ K b1 H a1 xs ∧ SqQ K b2 H a2 ys ∧ xs[i]? = some x ∧ ys[i]? = some y,
    fun i H v H' => ∃ T x y, v = .ref T ∧ H T = none ∧ H' = upd H T (.tup [x, y]) ∧ (∀ xs, SqQ K b1 H a1 xs → xs[i]? = some x) ∧ ∀ ys, SqQ K b2 H a2 ys → ys[i]? = some y,
    fun i H => ∃ xs ys : List V, SqQ K b1 H a1 xs ∧ SqQ K b2 H a2 ys ∧ min xs.length ys.length = i⟩
theorem turn_zipQ {P : Program} {w : World} {K : PySem.W.Frag} {elts : List Expr} {kk : Nat} {tpos : Pos} (b1 b2 : Bool) {a1 a2 z TI TO i1 i2 : Addr} (S : ZipSep2 z TI TO i1 i2 [i1, a1] [i2, a2]) (n1 : a1 ≠ i1) (n2 : a2 ≠ i2) :
    Turn P w K (.Tuple elts kk tpos) (Itzq K b1 a1 b2 a2) [z, TI, TO, i1, i2] z (fun i h => IsZip h z TI TO .none ∧ IsTupOf2 h TI (.ref i1) (.ref i2) ∧ (∃ x y, IsTupOf2 h TO x y) ∧ IsSqIt b1 h i1 a1 i ∧ IsSqIt b2 h i2 a2 i) where
  mem := by simp
  obj := fun i h st c hc => by
    obtain ⟨hz, hTI, ⟨x, y, hTO⟩, h1, h2⟩ := st
    have e' : c = z ∨ c = TI ∨ c = TO ∨ c = i1 ∨ c = i2 := by simpa using hc
    rcases e' with q | q | q | q | q
    · rw [q]; exact ⟨_, hz, fun v q => nomatch q⟩
    · rw [q]; exact ⟨_, hTI, fun v q => nomatch q⟩
    · rw [q]; exact ⟨_, hTO, fun v q => nomatch q⟩
    · rw [q]; exact h1.obj
    · rw [q]; exact h2.obj
  keep := fun i h h' st k => by
    obtain ⟨hz, hTI, ⟨x, y, hTO⟩, h1, h2⟩ := st
    exact ⟨k z (by simp) _ hz, k TI (by simp) _ hTI, ⟨x, y, k TO (by simp) _ hTO⟩, h1.at fun o q => k i1 (by simp) o q, h2.at fun o q => k i2 (by simp) o q⟩
  item := by
    intro X hP hw hK hc i pins s σ H E I hf st hg
    subst hP hw hK
    obtain ⟨hz, hTI, ⟨x0, y0, hTO⟩, h1, h2⟩ := st
    obtain ⟨xs, ys, x, y, hqx, hqy, hx, hy⟩ := hg
    obtain ⟨its, rv, p1, l1⟩ := sqOf I hqx
    obtain ⟨its2, rv2, p2, l2⟩ := sqOf I hqy
    obtain ⟨u, hu, ru⟩ := rv.get hx
    obtain ⟨u2, hu2, ru2⟩ := rv2.get hy
    have hzl : z < s.heap.objs.size := Heap.lt_size hz
    have hlt1 : i < its.toArray.size := by
      have := (List.getElem?_eq_some_iff.mp hx).1
      simp; omega
    have hlt2 : i < its2.toArray.size := by
      have := (List.getElem?_eq_some_iff.mp hy).1
      simp; omega
    have hh : X.A.in1.handled = none := I.ok.hd hc
    refine wpAny_pyNext_zipD2_item S (sqDraws hh b1 i1 a1 n1 its.toArray) (sqDraws hh b2 i2 a2 n2 its2.toArray) hz hTI hTO ⟨h1, p1⟩ ⟨h2, p2⟩ hlt1 hlt2 fun v1 v2 h' tk hv1 hv2 z' TO' s1' s2' hT hsz hk => ?_
    have eu : v1 = u := by
      have hv1 : its.toArray[i]? = some v1 := hv1
      have : its[i]? = some v1 := by simpa using hv1
      rw [hu] at this
      exact (Option.some.inj this).symm
    have eu2 : v2 = u2 := by
      have hv2 : its2.toArray[i]? = some v2 := hv2
      have : its2[i]? = some v2 := by simpa using hv2
      rw [hu2] at this
      exact (Option.some.inj this).symm
    subst eu eu2
    refine ⟨_, rfl, wpAny_letOwnedTupleGo_zip (s := { s with heap := h', toks := tk }) z' fun h'' z'' sb => ?_⟩
    have hT2 : h''.get? s.heap.objs.size = some { cls := .type "tuple", data := .seq #[v1, v2] } := (sb.2 _ (Nat.ne_of_gt hzl)).trans hT
    have new : ObjOk X.prog X.w (upd H s.heap.objs.size (.tup [x, y])) h'' s.heap.objs.size (.tup [x, y]) :=
      ⟨by show 2 ≤ sizeLine; decide, [v1, v2], .cons ru (.cons ru2 .nil), ⟨_, hT2, rfl, _, rfl⟩⟩
    have I1 : Inv X pins σ (upd H s.heap.objs.size (.tup [x, y])) { s with heap := h'', toks := tk } :=
      I.turnedNew (t' := tk) (ch := [z, TI, TO, i1, i2]) (fun c o hb q => (sb.2 c (fun q' => hb (by simp [q']))).trans (hk c o (fun q' => hb (by simp [q'])) (fun q' => hb (by simp [q'])) (fun q' => hb (by simp [q'])) (fun q' => hb (by simp [q'])) q)) hf (Nat.le_refl _) new
    refine ⟨.ref s.heap.objs.size, _, I1, rfl, ⟨_, x, y, rfl, I.hok.fresh (Nat.le_refl _), rfl, fun l hl => by rw [sqInj I hl hqx]; exact hx, fun l hl => by rw [sqInj I hl hqy]; exact hy⟩, ⟨z'', ?_, ⟨v1, v2, ?_⟩, ?_, ?_⟩, fun c hcm => ?_⟩
    · exact (sb.2 _ S.TIz).trans (hk _ _ S.TIz S.TITO S.TIi1 S.TIi2 hTI)
    · exact (sb.2 _ S.TOz).trans TO'
    · exact s1'.1.at fun o q => (sb.2 _ (Ne.symm S.zi1)).trans q
    · exact s2'.1.at fun o q => (sb.2 _ (Ne.symm S.zi2)).trans q
    · have hlt : c < s.heap.objs.size := by
        have e' : c = z ∨ c = TI ∨ c = TO ∨ c = i1 ∨ c = i2 := by simpa using hcm
        rcases e' with q | q | q | q | q
        · rw [q]; exact hzl
        · rw [q]; exact Heap.lt_size hTI
        · rw [q]; exact Heap.lt_size hTO
        · rw [q]; exact h1.lt
        · rw [q]; exact h2.lt
      rw [upd_ne (Nat.ne_of_lt hlt)]
      exact (hf c hcm).1
  done := by
    intro X hP hw hK hc i pins s σ H E I hf st hg
    subst hP hw hK
    obtain ⟨hz, hTI, ⟨x0, y0, hTO⟩, h1, h2⟩ := st
    obtain ⟨xs, ys, hqx, hqy, hend⟩ := hg
    obtain ⟨its, rv, p1, l1⟩ := sqOf I hqx
    obtain ⟨its2, rv2, p2, l2⟩ := sqOf I hqy
    have hh : X.A.in1.handled = none := I.ok.hd hc
    have z1 : its.toArray.size = xs.length := by simp; omega
    have z2 : its2.toArray.size = ys.length := by simp; omega
    exact wpAny_pyNext_zipD2_end S (sqDraws hh b1 i1 a1 n1 its.toArray) (sqDraws hh b2 i2 a2 n2 its2.toArray) hz hTI hTO ⟨h1, p1⟩ ⟨h2, p2⟩ (by omega) (by omega) (by omega) fun h' tk hk => ⟨rfl, I.turnedL (t' := tk) (ch := [z, TI, TO, i1, i2]) (fun c o hb q =>
      hk c o (fun q' => hb (by simp [q'])) (fun q' => hb (by simp [q'])) (fun q' => hb (by simp [q'])) (fun q' => hb (by simp [q'])) q) hf⟩
  self := fun A i s Q E st h => wpAny_pyIter_zip st.1 h
def iZipQ (K : PySem.W.Frag) (ta : TA) : TI := fun σ H R => ta σ H fun vs H1 => ∃ b1 a1 b2 a2 xs ys, vs = [.ref a1, .ref a2] ∧ SqQ K b1 H1 a1 xs ∧ SqQ K b2 H1 a2 ys ∧ R (Itzq K b1 a1 b2 a2) H1
theorem pi_zipQ {X : Cx} {e e2 : Expr} {ta : TA} {p pos tpos : Pos} {elts : List Expr} {kk : Nat} (hg : Gl X "zip") (hm : X.mg "zip" = none) (ha : PA X [e, e2] ta)
    (hs : starEach [e, e2] X.env = (false, eval e X.env) :: starEach [e2] X.env := by rfl) (hpl : (backTo pos (starEach [e2] X.env)).any (·.1) = false := by rfl) :
    PI X (.Tuple elts kk tpos) (.Call (.Name "zip" p) [e, e2] [] pos) (iZipQ X.K ta) := by
  refine ⟨fun pins s σ H R I h => ?_⟩
  refine Call_ (ld_blt I hg hm PyProof.Rows.boot_zip (PyProof.Rows.callWith_type1 (thn (ha.run pos pins s σ H _ I h) fun us s1 ⟨vs, H1, I1, r1, q1⟩ => ?_) hs hpl))
  obtain ⟨b1, a1, b2, a2, xs, ys, ex, hqx, hqy, q⟩ := q1
  subst ex
  cases r1 with
  | cons r rr =>
    cases rr with
    | cons r' rr =>
      cases rr
      cases r
      cases r'
      obtain ⟨its, rv, p1, _⟩ := sqOf I1 hqx
      obtain ⟨its2, rv2, p2, _⟩ := sqOf I1 hqy
      have la : a1 < s1.heap.objs.size := p1.lt
      have lb : a2 < s1.heap.objs.size := p2.lt
      refine zip_begins2 (sqBegins b1 a1 its.toArray) (sqBegins b2 a2 its2.toArray) p1 p2 fun h' hz hTI hTO h1 h2 hsz hk => wpAny_pyIter_zip hz ?_
      have I2 : Inv X pins σ H1 { s1 with heap := h' } := I1.kept (t' := s1.toks) hk
      have sep : ZipSep2 (s1.heap.objs.size + 4) (s1.heap.objs.size + 2) (s1.heap.objs.size + 3) s1.heap.objs.size (s1.heap.objs.size + 1) [s1.heap.objs.size, a1] [s1.heap.objs.size + 1, a2] :=
        zip_sep2 (fun c hc => by have : c = a1 := by simpa using hc
                                 rw [this]; exact la) (fun c hc => by have : c = a2 := by simpa using hc
                                                                      rw [this]; exact lb)
      refine ⟨s1.heap.objs.size + 4, [s1.heap.objs.size + 4, s1.heap.objs.size + 2, s1.heap.objs.size + 3, s1.heap.objs.size, s1.heap.objs.size + 1], _, _, H1, rfl, I2, turn_zipQ b1 b2 sep (Nat.ne_of_lt la) (Nat.ne_of_lt (Nat.lt_succ_of_lt lb)), ⟨hz, hTI, ⟨_, _, hTO⟩, IsSqIt.start h1, IsSqIt.start h2⟩, fun c hcm => ?_, q⟩
      have e' : c = s1.heap.objs.size + 4 ∨ c = s1.heap.objs.size + 2 ∨ c = s1.heap.objs.size + 3 ∨ c = s1.heap.objs.size ∨ c = s1.heap.objs.size + 1 := by simpa using hcm
      have hle : s1.heap.objs.size ≤ c := by
        rcases e' with z | z | z | z | z
        · rw [z]; exact Nat.le_add_right _ _
        · rw [z]; exact Nat.le_add_right _ _
        · rw [z]; exact Nat.le_add_right _ _
        · rw [z]; exact Nat.le_refl _
        · rw [z]; exact Nat.le_add_right _ _
      exact I1.fpOk hle (I1.hok.fresh hle)
/-! ### dicts: keys, values, pairs -/
structure DictAt (w : World) (h : Heap) (d : Addr) (o : Obj) (kvs : List (D × V × V)) (es : Array DictEntry) (ep : Nat) : Prop where
  get : h.get? d = some o
  ex : o.ExactDict
  dat : o.data = .dict es ep
  sys : (d == sysModules) = false
  len : es.size = kvs.length
  at' : ∀ (i : Nat) (k : D × V × V), kvs[i]? = some k → ∃ en, es[i]? = some en ∧ RelV k.2.1 en.key ∧ RelV k.2.2 en.val ∧ en.hash = (toNK k.1).hash w
theorem paired_at {α β : Type} {r : α → β → Prop} : ∀ {l : List α} {m : List β} {i : Nat} {x : α}, Paired r l m → l[i]? = some x → ∃ y, m[i]? = some y ∧ r x y
  | _, _, _, _, .nil, e => by simp at e
  | _, _, 0, _, .cons r _, e => by simp at e; subst e; exact ⟨_, rfl, r⟩
  | _, _, i + 1, x, .cons _ t, e => by
    obtain ⟨u, h1, h2⟩ := paired_at (i := i) (x := x) t (by simpa using e)
    exact ⟨u, by simpa using h1, h2⟩
theorem dictAt {X : Cx} {pins : List (Addr × Obj)} {σ : Sg} {H : Hp} {s : Shared} {w : World} {d : Addr} {o : Obj} {kvs : List (D × V × V)} (I : Inv X pins σ H s) (h : H d = some (dO w d o kvs)) : ∃ es ep, DictAt w s.heap d o kvs es ep := by
  obtain ⟨⟨hg, ⟨hx, es, ep, hd, pr⟩, hs, hz⟩, _, _⟩ := I.hok d _ h
  refine ⟨es, ep, hg, hx, hd, hs, ?_, fun i k e => ?_⟩
  · have : kvs.length = es.toList.length := Paired.length pr
    simpa using this.symm
  · obtain ⟨en, e1, e2, e3, e4⟩ := paired_at pr e
    exact ⟨en, by simpa using e1, e2, e3, e4⟩
theorem DictAt.raw {w : World} {h : Heap} {d : Addr} {o : Obj} {kvs : List (D × V × V)} {es : Array DictEntry} {ep : Nat} (x : DictAt w h d o kvs es ep) : Heap.DictRaw h d es ep := ⟨o, x.get, x.ex, x.dat⟩
end Mm
-- text S6
set_option Elab.async false
set_option linter.all false
set_option maxRecDepth 100000
/-! S6: what is walked; for, while. -/
namespace Mm
open PySem PySem.Spec PyProof.Rows L2
/-! ### a dict's keys -/
def Itdk (w : World) (d : Addr) (o : Obj) (kvs : List (D × V × V)) : It :=
  ⟨fun i H => H d = some (dO w d o kvs) ∧ i < kvs.length, fun i H x H' => H' = H ∧ ∃ k v, kvs[i]? = some (k, x, v), fun i H => H d = some (dO w d o kvs) ∧ kvs.length ≤ i⟩
theorem turn_dk {P : Program} {w w' : World} {K : PySem.W.Frag} {tg : Expr} {d : Addr} {o : Obj} {kvs : List (D × V × V)} {es : Array DictEntry} {ep : Nat} (it : Addr) (hod : o.data = .dict es ep) : Turn P w K tg (Itdk w' d o kvs) [it] it (fun i h => h.IsKeyIter it d i kvs.length ep) where
  mem := by simp
  obj := fun i h st b hb => by
    have e : b = it := by simpa using hb
    subst e
    obtain ⟨oi, e, c, dd⟩ := st
    exact ⟨oi, e, fun v z => by rw [dd] at z; cases z⟩
  keep := fun i h h' st k => st.at fun oi e => k it (by simp) oi e
  item := by
    intro X hP hw hK hc i pins s σ H E I hf st hg
    subst hP hw hK
    obtain ⟨hd, hi⟩ := hg
    obtain ⟨f0, f1, f2, f3, f4, f5⟩ := hf it (by simp)
    obtain ⟨es', ep', x⟩ := dictAt I hd
    obtain ⟨rfl, rfl⟩ := dict_ep hod x.dat
    obtain ⟨⟨k, kv, v⟩, hkv⟩ : ∃ p, kvs[i]? = some p := ⟨kvs[i], List.getElem?_eq_getElem hi⟩
    obtain ⟨en, hen, r1, r2, _⟩ := x.at' i _ hkv
    refine next_key_item st x.get x.dat x.len hen fun h' st' sb => ?_
    have I1 : Inv X pins σ H { s with heap := h' } := I.turned (t' := s.toks) (fun b ob hb e => (sb.2 b hb).trans e) f0 f1 f3 f4 f5
    obtain ⟨oi, e, c, dd⟩ := id st'
    exact ⟨en.key, rfl, go_of (s := { s with heap := h' }) e c dd (by decide) ⟨kv, H, I1, r1, ⟨rfl, k, v, hkv⟩, st', fun b hb => (hf b hb).1⟩⟩
  done := by
    intro X hP hw hK hc i pins s σ H E I hf st hg
    subst hP hw hK
    obtain ⟨hd, hi⟩ := hg
    obtain ⟨f0, f1, f2, f3, f4, f5⟩ := hf it (by simp)
    obtain ⟨es', ep', x⟩ := dictAt I hd
    obtain ⟨rfl, rfl⟩ := dict_ep hod x.dat
    exact next_key_end (I.ok.hd hc) st x.get x.dat x.len hi fun h' eb => ⟨rfl, I.turned (t' := s.toks) (fun b ob hb e => eb b ob hb e) f0 f1 f3 f4 f5⟩
  self := fun A i s Q E st h => by
    refine wpAny_pyIter_slot st.typeIs F.slot_dict_keyiterator_iter (wpAny_call_entry F.slot_dict_keyiterator_iter st.typeIs F.entry_dict_keyiterator_iter ?_ (F.args_dict_keyiterator_iter_1 _))
    show wpAny _ _ (PySem.ret (.ref it)) _ _ s
    exact wpAny_pure ⟨_, rfl, "dict_keyiterator", _, st.typeIs, F.slot_dict_keyiterator_next.lookup, h⟩
/-- a list, a tuple, a dict's keys -/
def iAny (K : PySem.W.Frag) (w : World) (te : TE) : TI := fun σ H R => te σ H fun x H1 => ∃ a, x = .ref a ∧ ((∃ xs, SqL K H1 a xs ∧ R (Itl K a) H1) ∨ (∃ xs, SqT K H1 a xs ∧ R (Itt K a) H1) ∨ ∃ o kvs, H1 a = some (dO w a o kvs) ∧ R (Itdk w a o kvs) H1)
theorem pi_any {X : Cx} {tg l : Expr} {tl : TE} {w : World} (hl : PE X l tl) : PI X tg l (iAny X.K w tl) := by
  refine ⟨fun pins s σ H R I h => ?_⟩
  refine thn (hl.run pins s σ H _ I h) fun v s1 ⟨x, H1, I1, r1, q1⟩ => ?_
  obtain ⟨a, e, q⟩ := q1
  subst e
  cases r1
  rcases q with ⟨xs, hq, q⟩ | ⟨xs, hq, q⟩ | ⟨o, kvs, hd, q⟩
  · obtain ⟨its, rv, p, hz⟩ := I1.list hq
    exact wpAny_pyIter_list p.isList (pi_one (tk := s1.toks) I1 _ (turn_list a _) ⟨_, Heap.get?_push_size _ rfl, rfl, rfl⟩ q)
  · obtain ⟨its, rv, p, hz⟩ := I1.tuple hq
    exact wpAny_pyIter_tuple (show s1.heap.IsTuple a its.toArray from p) (pi_one (tk := s1.toks) I1 _ (turn_tuple a _) ⟨_, Heap.get?_push_size _ rfl, rfl, rfl⟩ q)
  · obtain ⟨es, ep, x⟩ := dictAt I1 hd
    refine iter_keys x.sys x.get x.ex x.dat (pi_one (tk := s1.toks) I1 _ (turn_dk _ x.dat) ⟨_, Heap.get?_push_size _ rfl, rfl, ?_⟩ q)
    rw [x.len] <;> rfl
section
variable {g : Gr} {σ σ0 σ' σ1 σ2 : Sg} {H H' H0 H1 H2 : Hp} {F F0 F' F1 F2 : Addr → Prop} {ρ ρ0 ρ' ρ1 ρ2 : Env} {a : Addr} {v : V} {r : R} {d d' : D} {i : Nat} {E : XK} {X : Cx} {x y tg : Expr} {pos p1 : Pos} {ma mb mc : ME} {De : Ends} {u : List Nat} {J : It} {ds : List D} {mi : MI}
theorem lockOf_ok (R : Rel g σ H F ρ) (s : SF σ0 ρ0 H0 F0 σ ρ H F) (x : RelR g σ H0 ρ H F v r) (e : lockOf r ρ = some (d, u)) :
    ∃ F', Rel g σ H F' ρ ∧ SF σ0 ρ0 H0 F0 σ ρ H F' ∧ AllOb ρ u ∧ ((∀ b, F b → F' b) ∧ ∀ b, F' b → F b ∨ (∃ d, r = .ow d) ∧ v = .ref b) ∧
      ∀ σ2 H2 F2 ρ2, Rel g σ2 H2 F2 ρ2 → Sees σ (lockE u ρ) H F' σ2 ρ2 H2 F2 → Seen g H2 F2 d v ∧ ∀ l a o, d = .dic l → v = .ref a → H a = some o → H2 a = some o := by
  have dvF : ∀ {F : Addr → Prop}, Dv g H F d v → ∀ σ2 H2 F2 ρ2, Rel g σ2 H2 F2 ρ2 → Sees σ (lockE u ρ) H F σ2 ρ2 H2 F2 → Seen g H2 F2 d v ∧ ∀ l a o, d = .dic l → v = .ref a → H a = some o → H2 a = some o := fun {F} x σ2 H2 F2 ρ2 R2 k =>
    ⟨.val (Dv.kept k.kp x), fun l a o ed ev h => by
      subst ed ev
      cases x with
      | dic f _ _ _ => exact k.kp.ob a o f h⟩
  have lkF : ∀ {i : Nat}, σ[i]? = some (some v) → (lockE u ρ)[i]? = some (.lk d) → ∀ σ2 H2 F2 ρ2, Rel g σ2 H2 F2 ρ2 → Sees σ (lockE u ρ) H F σ2 ρ2 H2 F2 → Seen g H2 F2 d v ∧ ∀ l a o, d = .dic l → v = .ref a → H a = some o → H2 a = some o := fun {i} x hl σ2 H2 F2 ρ2 R2 k => by
    obtain ⟨e1, e2⟩ := k.lk i d hl
    obtain ⟨b, s1, _, t⟩ := R2.own i _ d e1 rfl
    rw [e2, x] at s1; cases s1
    exact ⟨.top t, fun l a o ed ev h => by cases ev; exact k.ob i d _ o hl x h⟩
  cases r with
  | va d0 =>
    cases e
    exact ⟨F, R, s, (by intro i hi; cases hi), ⟨fun _ h => h, fun _ h => .inl h⟩, dvF x⟩
  | ow d0 =>
    cases e
    obtain ⟨a, rfl, n, nh, h0, t⟩ := x
    exact ⟨Fp F a, R.freezeT nh t, s.addF (.inr (.inr h0)), (by intro i hi; cases hi), ⟨fun _ h => .inl h, fun b h => h.imp id fun e => ⟨⟨_, rfl⟩, by rw [e]⟩⟩, dvF (t.fp.value (.inr rfl))⟩
  | sl i =>
    have x : σ[i]? = some (some v) := x
    unfold lockOf at e
    cases hc : ρ[i]? with
    | none => simp [hc] at e
    | some c =>
      simp only [hc] at e
      cases c with
      | un => cases e
      | va z =>
        cases e
        obtain ⟨w, s1, z1⟩ := R.val i _ d hc rfl
        rw [x] at s1; cases s1
        exact ⟨F, R, s, (by intro i hi; cases hi), ⟨fun _ h => h, fun _ h => .inl h⟩, dvF z1⟩
      | fb z =>
        cases e
        obtain ⟨w, s1, z1⟩ := R.val i _ d hc rfl
        rw [x] at s1; cases s1
        exact ⟨F, R, s, (by intro i hi; cases hi), ⟨fun _ h => h, fun _ h => .inl h⟩, dvF z1⟩
      | lk z =>
        cases e
        exact ⟨F, R, s, (by intro i hi; cases hi), ⟨fun _ h => h, fun _ h => .inl h⟩, lkF x hc⟩
      | ow z =>
        cases e
        refine ⟨F, R, s, fun j hj => ?_, ⟨fun _ h => h, fun _ h => .inl h⟩, lkF x (lockE_in (by simp) (.inl hc))⟩
        have : j = i := by simpa using hj
        subst this
        exact ⟨_, .inl hc⟩
      | bo z =>
        cases e
        refine ⟨F, R, s, fun j hj => ?_, ⟨fun _ h => h, fun _ h => .inl h⟩, lkF x (lockE_in (by simp) (.inr hc))⟩
        have : j = i := by simpa using hj
        subst this
        exact ⟨_, .inr hc⟩
theorem lockE_append : ∀ {u v : List Nat} {ρ : Env}, lockE (u ++ v) ρ = lockE v (lockE u ρ)
  | [], _, _ => rfl
  | i :: is, v, ρ => by simp [lockE, lockE_append]
theorem Sees.sub {ρ1' : Env} (h : Sees σ1 ρ1 H1 F1 σ2 ρ2 H2 F2) (m : ∀ (i : Nat) (d : D), ρ1'[i]? = some (C.lk d) → ρ1[i]? = some (C.lk d)) (up : ∀ a, F a → F1 a) : Sees σ1 ρ1' H1 F σ2 ρ2 H2 F2 :=
  ⟨⟨fun a f => h.kp.fr a (up a f), fun a o f => h.kp.ob a o (up a f), h.kp.tu⟩, fun i d e => h.lk i d (m i d e), fun i d a o e => h.ob i d a o (m i d e)⟩
theorem lockE_l {v : List Nat} (h : (lockE u ρ)[i]? = some (.lk d)) : (lockE (u ++ v) ρ)[i]? = some (.lk d) := by
  rw [lockE_append]
  exact lockE_lk h
theorem lockE_r {v : List Nat} (h : (lockE v ρ)[i]? = some (.lk d)) : (lockE (u ++ v) ρ)[i]? = some (.lk d) := by
  rw [lockE_append]
  rcases lockE_get h with h | ⟨hj, d', e, h⟩
  · exact lockE_lk (lockE_lk h)
  · cases e
    by_cases hu : i ∈ u
    · exact lockE_lk (lockE_in hu h)
    · exact lockE_in hj (by rw [lockE_keep hu]; exact h)
theorem DvK.key : ∀ {l : List (D × D)} {kvs : List (D × V × V)} {i : Nat} {p : D × V × V}, DvK g H F l kvs → kvs[i]? = some p → ∃ q : D × D, l[i]? = some q ∧ p.1 = q.1 ∧ Dv g H F q.1 p.2.1 ∧ Dv g H F q.2 p.2.2
  | _, _, _, _, .nil, e => by simp at e
  | _, _, 0, _, .cons r1 r2 _, e => by simp at e; subst e; exact ⟨_, rfl, rfl, r1, r2⟩
  | _, _, i + 1, v, .cons _ _ t, e => by
    obtain ⟨u, h1, h2⟩ := DvK.key (i := i) (p := v) t (by simpa using e)
    exact ⟨u, by simpa using h1, h2⟩
theorem DvK.length : ∀ {l : List (D × D)} {kvs : List (D × V × V)}, DvK g H F l kvs → l.length = kvs.length
  | _, _, .nil => rfl
  | _, _, .cons _ _ t => by simp [DvK.length t]
theorem lockOf_deref (e : lockOf r ρ = some (d, u)) : deref ρ r = some d := by
  cases r with
  | va d0 => cases e; rfl
  | ow d0 => cases e; rfl
  | sl i =>
    unfold lockOf at e
    simp only [deref]
    cases hc : ρ[i]? with
    | none => simp [hc] at e
    | some c =>
      simp only [hc] at e ⊢
      cases c <;> cases e <;> rfl
/-- what a list, a tuple, a dict gives when walked -/
theorem s_it (hK : X.K = g.K) (ha : PE X x (tE g E ma)) : PI X tg x (tI g E (miSeq ma)) := by
  refine PI.sub (pi_any (w := g.w) ha) fun σ H R h => ?_
  obtain ⟨ρ, F, RR, h⟩ := h
  refine ⟨ρ, F, RR, (h.at SF.refl).mono fun p ρ1 H1 F1 R1 s1 h1 v rv => ?_⟩
  obtain ⟨s, h1⟩ := h1
  cases el : lockOf p ρ1 with
  | none => simp only [el] at h1; exact h1.no.elim
  | some q =>
    obtain ⟨d, u⟩ := q
    simp only [el] at h1
    obtain ⟨F2, R2, s2, ao, up, later⟩ := lockOf_ok R1 s rv el
    have now := deref_ok R1 rv (lockOf_deref el)
    cases ed : itemsOf d with
    | none => simp only [ed] at h1; exact h1.no.elim
    | some l =>
      simp only [ed] at h1
      have k := h1.ret R2 s2
      rw [hK]
      cases d with
      | tup l' =>
        cases ed
        obtain ⟨a, vs, e, sq, _⟩ := now.tup
        subst e
        refine ⟨a, rfl, .inr (.inl ⟨vs, sq, k _ ao fun σ2 H2 F3 ρ2 RR2 sf i => ?_⟩)⟩
        obtain ⟨b, us, e, sq2, t⟩ := (later σ2 H2 F3 ρ2 RR2 sf).1.tup
        cases e
        refine ⟨fun d hd => ?_, fun hi => ⟨us, sq2, by rw [hi, t.length]; exact Nat.le_refl _⟩⟩
        obtain ⟨z, hz, tz⟩ := t.get hd
        refine ⟨⟨us, z, sq2, hz⟩, fun x H3 y => ?_⟩
        obtain ⟨rfl, y⟩ := y
        have := y us sq2
        rw [hz] at this; cases this
        exact ⟨Ext.refl, tz⟩
      | lst l' =>
        cases ed
        obtain ⟨a, vs, e, sq, _⟩ := now.lst
        subst e
        refine ⟨a, rfl, .inl ⟨vs, SqL.of sq, k _ ao fun σ2 H2 F3 ρ2 RR2 sf i => ?_⟩⟩
        obtain ⟨b, us, e, sq2, t⟩ := (later σ2 H2 F3 ρ2 RR2 sf).1.lst
        cases e
        refine ⟨fun d hd => ?_, fun hi => ⟨us, SqL.of sq2, by rw [hi, t.length]; exact Nat.le_refl _⟩⟩
        obtain ⟨z, hz, tz⟩ := t.get hd
        refine ⟨⟨us, z, SqL.of sq2, hz⟩, fun x H3 y => ?_⟩
        obtain ⟨rfl, y⟩ := y
        have := y us (SqL.of sq2)
        rw [hz] at this; cases this
        exact ⟨Ext.refl, tz⟩
      | dic l' =>
        cases ed
        obtain ⟨a, o, kvs, e, sq, _, t0⟩ := now.dic
        subst e
        refine ⟨a, rfl, .inr (.inr ⟨o, kvs, sq, k _ ao fun σ2 H2 F3 ρ2 RR2 sf i => ?_⟩)⟩
        have e2 : H2 a = some (dO g.w a o kvs) := (later σ2 H2 F3 ρ2 RR2 sf).2 _ _ _ rfl rfl sq
        have t := t0.kept ((Keep.mk (F' := F2) up.1 (fun _ o _ e => e) (fun _ o _ e => e)).trans sf.kp)
        refine ⟨fun d hd => ?_, fun hi => ⟨e2, by rw [hi, List.length_map, t.length]; exact Nat.le_refl _⟩⟩
        have hl : i < l'.length := by
          have := (List.getElem?_eq_some_iff.mp hd).1
          simpa using this
        refine ⟨⟨e2, by rw [← t.length]; exact hl⟩, fun x H3 y => ?_⟩
        obtain ⟨rfl, kk, vv, y⟩ := y
        obtain ⟨q, hq, _, tz, _⟩ := t.key y
        rw [List.getElem?_map, hq] at hd
        cases hd
        exact ⟨Ext.refl, tz⟩
      | _ => cases ed
theorem rangeL_get {a b : Int} {k : Nat} (h : (rangeL a b)[k]? = some d) : d = .int (a + (k : Int)) := by
  unfold rangeL at h
  rw [List.getElem?_map] at h
  cases e : (List.range (b - a).toNat)[k]? with
  | none => rw [e] at h; cases h
  | some n =>
    rw [e] at h
    obtain ⟨hl, hn⟩ := List.getElem?_eq_some_iff.mp e
    rw [List.getElem_range] at hn
    subst hn
    exact (Option.some.inj h).symm
theorem s_range1 (hg : Gl X "range") (hm : X.mg "range" = none) (ha : PE X x (tE g E ma)) (hs : starEach [x] X.env = [(false, eval x X.env)] := by rfl) : PI X tg (.Call (.Name "range" p1) [x] [] pos) (tI g E (miRange1 ma)) := by
  refine PI.sub (pi_range1 hg hm (pa_cons ha pa_nil hs) hs) fun σ H R h => ?_
  obtain ⟨ρ, F, RR, h⟩ := h
  refine ⟨ρ, F, RR, (h.at SF.refl).mono fun p ρ1 H1 F1 R1 s1 h1 v rv => ?_⟩
  obtain ⟨s, h1⟩ := h1
  cases p with
  | va d =>
    cases d with
    | int j =>
      have rv : Dv g H1 F1 (.int j) v := rv
      cases rv
      simp only at h1
      by_cases hj : small62 j = true
      · rw [if_pos hj] at h1
        simp only [small62, Bool.and_eq_true, decide_eq_true_eq] at hj
        refine ⟨j, rfl, hj.1, hj.2, h1.ret R1 s _ (by intro i hi; cases hi) fun σ2 H2 F2 ρ2 R2 sf k => ?_⟩
        have hlen : (rangeL 0 j).length = j.toNat := by simp [rangeL]
        refine ⟨fun d hd => ?_, fun hk => Nat.le_of_eq (hk.trans hlen).symm⟩
        have hk : k < j.toNat := by rw [← hlen]; exact (List.getElem?_eq_some_iff.mp hd).1
        refine ⟨hk, fun x H3 y => ?_⟩
        obtain ⟨rfl, rfl⟩ := y
        have := rangeL_get hd
        subst this
        exact ⟨Ext.refl, .int _⟩
      · rw [if_neg hj] at h1
        exact h1.no.elim
    | _ => exact h1.no.elim
  | _ => exact h1.no.elim
theorem s_range2 (hg : Gl X "range") (hm : X.mg "range" = none) (ha : PE X x (tE g E ma)) (hb : PE X y (tE g E mb)) (hs : starEach [x, y] X.env = [(false, eval x X.env), (false, eval y X.env)] := by rfl) (hs2 : starEach [y] X.env = [(false, eval y X.env)] := by rfl) :
    PI X tg (.Call (.Name "range" p1) [x, y] [] pos) (tI g E (miRange2 ma mb)) := by
  refine PI.sub (pi_range2 hg hm (pa_cons ha (pa_cons hb pa_nil hs2) (by rw [hs, hs2])) hs hs2) fun σ H R h => ?_
  obtain ⟨ρ, F, RR, h⟩ := h
  refine ⟨ρ, F, RR, (h.at SF.refl).mono fun p ρ1 H1 F1 R1 s1 h1 v rv => ⟨ρ1, F1, R1, (h1.2.at s1).mono fun q ρ2 H2 F2 R2 s2 h2 w rw' => ?_⟩⟩
  obtain ⟨s, h2⟩ := h2
  have rv2 := rv.kept R1 s2
  cases p with
  | va d =>
    cases d with
    | int i =>
      cases q with
      | va e =>
        cases e with
        | int j =>
          have rv2 : Dv g H2 F2 (.int i) v := rv2
          cases rv2
          have rw' : Dv g H2 F2 (.int j) w := rw'
          cases rw'
          simp only at h2
          by_cases hj : (small62 i && small62 j) = true
          · rw [if_pos hj] at h2
            simp only [small62, Bool.and_eq_true, decide_eq_true_eq] at hj
            refine ⟨i, j, rfl, ⟨hj.1.1, hj.1.2, hj.2.1, hj.2.2⟩, h2.ret R2 s _ (by intro i hi; cases hi) fun σ2 H2 F2 ρ2 R2 sf k => ?_⟩
            have hlen : (rangeL i j).length = (j - i).toNat := by simp [rangeL]
            refine ⟨fun d hd => ?_, fun hk => Nat.le_of_eq (hk.trans hlen).symm⟩
            have hk : k < (j - i).toNat := by rw [← hlen]; exact (List.getElem?_eq_some_iff.mp hd).1
            refine ⟨hk, fun x H3 y => ?_⟩
            obtain ⟨rfl, rfl⟩ := y
            have := rangeL_get hd
            subst this
            exact ⟨Ext.refl, .int _⟩
          · rw [if_neg hj] at h2
            exact h2.no.elim
        | _ => exact h2.no.elim
      | _ => exact h2.no.elim
    | _ => exact h2.no.elim
  | _ => exact h2.no.elim
theorem Seen.seq {l : List D} (h : Seen g H F d v) (e : seqOf d = some l) : ∃ b a vs, v = .ref a ∧ SqQ g.K b H a vs ∧ DvL g H F l vs ∧ b = isTupD d := by
  cases d with
  | tup l' => cases e; obtain ⟨a, vs, e, sq, t⟩ := h.tup; exact ⟨true, a, vs, e, sq, t, rfl⟩
  | lst l' => cases e; obtain ⟨a, vs, e, sq, t⟩ := h.lst; exact ⟨false, a, vs, e, SqL.of sq, t, rfl⟩
  | _ => cases e
theorem enumD_get : ∀ {l : List D} {n k : Nat} {d : D}, (enumD n l)[k]? = some d → ∃ x, l[k]? = some x ∧ d = .tup [.int ((n + k : Nat) : Int), x]
  | [], n, k, d, e => by simp [enumD] at e
  | x :: xs, n, 0, d, e => by simp [enumD] at e; subst e; exact ⟨x, rfl, rfl⟩
  | x :: xs, n, k + 1, d, e => by
    obtain ⟨y, h1, h2⟩ := enumD_get (l := xs) (n := n + 1) (k := k) (d := d) (by simpa [enumD] using e)
    exact ⟨y, by simpa using h1, by rw [h2, show n + 1 + k = n + (k + 1) by omega]⟩
theorem enumD_length : ∀ {l : List D} {n : Nat}, (enumD n l).length = l.length
  | [], _ => rfl
  | x :: xs, n => by simp [enumD, enumD_length]
theorem s_enum {elts : List Expr} {kk : Nat} {tpos : Pos} (hK : X.K = g.K) (hg : Gl X "enumerate") (hm : X.mg "enumerate" = none) (ha : PE X x (tE g E ma)) (hs : starEach [x] X.env = (false, eval x X.env) :: starEach [] X.env := by rfl) : PI X (.Tuple elts kk tpos) (.Call (.Name "enumerate" p1) [x] [] pos) (tI g E (miEnum ma)) := by
  refine PI.sub (pi_enumQ hg hm ha hs) fun σ H R h => ?_
  obtain ⟨ρ, F, RR, h⟩ := h
  refine ⟨ρ, F, RR, (h.at SF.refl).mono fun p ρ1 H1 F1 R1 s1 h1 v rv => ?_⟩
  obtain ⟨s, h1⟩ := h1
  cases el : lockOf p ρ1 with
  | none => simp only [el] at h1; exact h1.no.elim
  | some q =>
    obtain ⟨d, u⟩ := q
    simp only [el] at h1
    obtain ⟨F2, R2, s2, ao, up, later⟩ := lockOf_ok R1 s rv el
    have now := deref_ok R1 rv (lockOf_deref el)
    cases ed : seqOf d with
    | none => simp only [ed] at h1; exact h1.no.elim
    | some l =>
      simp only [ed] at h1
      obtain ⟨b, a, vs, e, sq, _, eb⟩ := now.seq ed
      subst e
      rw [hK]
      refine ⟨b, a, vs, rfl, sq, h1.ret R2 s2 _ ao fun σ2 H2 F3 ρ2 RR2 sf i => ?_⟩
      obtain ⟨b', a', us, e, sq2, t, eb'⟩ := (later σ2 H2 F3 ρ2 RR2 sf).1.seq ed
      cases e
      have eb'' : b' = b := by rw [eb, eb']
      subst eb''
      refine ⟨fun d hd => ?_, fun hi => ⟨us, sq2, by rw [hi, enumD_length, t.length]⟩⟩
      obtain ⟨x, hx, rfl⟩ := enumD_get hd
      obtain ⟨z, hz, tz⟩ := t.get hx
      refine ⟨⟨us, z, sq2, hz⟩, fun x H3 y => ?_⟩
      obtain ⟨T, w, rfl, hT, rfl, y⟩ := y
      have := y us sq2
      rw [hz] at this; cases this
      refine ⟨Ext.upd hT, newT hT (.cons ?_ (.cons tz .nil))⟩
      rw [Nat.zero_add]
      exact .int _
theorem zipD_get : ∀ {l m : List D} {k : Nat} {d : D}, (zipD l m)[k]? = some d → ∃ x y, l[k]? = some x ∧ m[k]? = some y ∧ d = .tup [x, y]
  | [], m, k, d, e => by simp [zipD] at e
  | x :: xs, [], k, d, e => by simp [zipD] at e
  | x :: xs, y :: ys, 0, d, e => by simp [zipD] at e; subst e; exact ⟨x, y, rfl, rfl, rfl⟩
  | x :: xs, y :: ys, k + 1, d, e => by
    obtain ⟨a, b, h1, h2, h3⟩ := zipD_get (l := xs) (m := ys) (k := k) (d := d) (by simpa [zipD] using e)
    exact ⟨a, b, by simpa using h1, by simpa using h2, h3⟩
theorem zipD_length : ∀ {l m : List D}, (zipD l m).length = min l.length m.length
  | [], m => by simp [zipD]
  | x :: xs, [] => by simp [zipD]
  | x :: xs, y :: ys => by simp [zipD, zipD_length, Nat.succ_min_succ]
theorem s_zip {elts : List Expr} {kk : Nat} {tpos : Pos} (hK : X.K = g.K) (hg : Gl X "zip") (hm : X.mg "zip" = none) (ha : PE X x (tE g E ma)) (hb : PE X y (tE g E mb))
    (hs : starEach [x, y] X.env = (false, eval x X.env) :: starEach [y] X.env := by rfl) (hs2 : starEach [y] X.env = (false, eval y X.env) :: starEach [] X.env := by rfl) (hpl : (backTo pos (starEach [y] X.env)).any (·.1) = false := by rfl) :
    PI X (.Tuple elts kk tpos) (.Call (.Name "zip" p1) [x, y] [] pos) (tI g E (miZip ma mb)) := by
  refine PI.sub (pi_zipQ hg hm (pa_cons ha (pa_cons hb pa_nil hs2) hs) hs hpl) fun σ H R h => ?_
  obtain ⟨ρ, F, RR, h⟩ := h
  refine ⟨ρ, F, RR, (h.at SF.refl).mono fun p ρ1 H1 F1 R1 s1 h1 v rv => ⟨ρ1, F1, R1, (h1.2.at s1).mono fun q ρ2 H2 F2 R2 s2 h2 w rw' => ?_⟩⟩
  obtain ⟨s, h2⟩ := h2
  have rv2 := rv.kept R1 s2
  have rw2 := rw'.weaken (fun a n => s1.none_of n)
  cases el : lockOf p ρ2 with
  | none => simp only [el] at h2; exact h2.no.elim
  | some z =>
    obtain ⟨d, u⟩ := z
    cases el2 : lockOf q ρ2 with
    | none => simp only [el, el2] at h2; exact h2.no.elim
    | some z =>
      obtain ⟨d2, u2⟩ := z
      simp only [el, el2] at h2
      have now := deref_ok R2 rv2 (lockOf_deref el)
      have now2 := deref_ok R2 rw2 (lockOf_deref el2)
      obtain ⟨F3, R3, s3, ao, up, later⟩ := lockOf_ok R2 s rv2 el
      cases ed : seqOf d with
      | none => simp only [ed] at h2; exact h2.no.elim
      | some xs =>
        cases ed2 : seqOf d2 with
        | none => simp only [ed, ed2] at h2; exact h2.no.elim
        | some ys =>
          simp only [ed, ed2] at h2
          obtain ⟨b, a, vs, e, sq, _, eb⟩ := now.seq ed
          subst e
          obtain ⟨b2, a2, vs2, e2, sq2, _, eb2⟩ := now2.seq ed2
          subst e2
          have rw3 : RelR g σ H1 ρ2 H2 F3 (.ref a2) q := by
            cases q with
            | va d => exact Dv.kept ⟨up.1, fun _ _ _ h => h, fun _ _ _ h => h⟩ rw'
            | sl i => exact rw'
            | ow d =>
              obtain ⟨a', e', n, nh, h0, t⟩ := rw'
              cases e'
              refine ⟨_, rfl, fun f => ?_, nh, h0, t.kept ⟨up.1, fun _ _ _ h => h, fun _ _ _ h => h⟩ fun _ h => h⟩
              rcases up.2 _ f with f | ⟨⟨d', ed'⟩, f⟩
              · exact n f
              · cases f
                subst ed'
                obtain ⟨_, e', _, _, _, t'⟩ := rv
                cases e'
                obtain ⟨o, eo, _⟩ := t'.there
                rw [h0] at eo; cases eo
          obtain ⟨F4, R4, s4, ao2, up2, later2⟩ := lockOf_ok R3 s3 (rw3.weaken (fun a n => s1.none_of n)) el2
          rw [hK]
          refine ⟨b, a, b2, a2, vs, vs2, rfl, sq, sq2, h2.ret R4 s4 _ (fun i hi => (List.mem_append.mp hi).elim (ao i) (ao2 i)) fun σ2 H3 F5 ρ3 RR2 sf i => ?_⟩
          obtain ⟨b', a', us, e, sq3, t, eb'⟩ := (later σ2 H3 F5 ρ3 RR2 (sf.sub (fun _ _ h => lockE_l h) up2.1)).1.seq ed
          cases e
          have eb'' : b' = b := by rw [eb, eb']
          subst eb''
          obtain ⟨b2', a2', us2, e, sq4, t2, eb2'⟩ := (later2 σ2 H3 F5 ρ3 RR2 (sf.sub (fun _ _ h => lockE_r h) fun _ h => h)).1.seq ed2
          cases e
          have eb2'' : b2' = b2 := by rw [eb2, eb2']
          subst eb2''
          refine ⟨fun d hd => ?_, fun hi => ⟨us, us2, sq3, sq4, by rw [hi, zipD_length, t.length, t2.length]⟩⟩
          obtain ⟨x, y, hx, hy, rfl⟩ := zipD_get hd
          obtain ⟨z, hz, tz⟩ := t.get hx
          obtain ⟨z2, hz2, tz2⟩ := t2.get hy
          refine ⟨⟨us, us2, z, z2, sq3, sq4, hz, hz2⟩, fun x H3 y => ?_⟩
          obtain ⟨T, w, w2, rfl, hT, rfl, y, y2⟩ := y
          have := y us sq3
          rw [hz] at this; cases this
          have := y2 us2 sq4
          rw [hz2] at this; cases this
          exact ⟨Ext.upd hT, newT hT (.cons tz (.cons tz2 .nil))⟩
/-! ### for, while -/
theorem unlock_relR (R1 : Rel g σ1 H1 F1 ρ1) (ao : AllOb ρ1 u) (s : SF σ1 (lockE u ρ1) H1 F1 σ ρ H F) (s0 : SF σ0 ρ0 H0 F0 σ1 ρ1 H1 F1) (x : RelR g σ H1 ρ H F v r) : RelR g σ H0 (unlockE ρ1 u ρ) H F v r := by
  cases r with
  | va d => exact x
  | sl i => exact x
  | ow d =>
    obtain ⟨a, e, n, nh, h0, t⟩ := x
    refine ⟨a, e, n, fun z => nh ?_, s0.none_of h0, t⟩
    obtain ⟨j, c, d, e, o, q⟩ := z.ob
    rcases unlockE_get e with ⟨hj, h⟩ | h
    · obtain ⟨d', e2⟩ := ao j hj
      obtain ⟨e3, e4⟩ := s.lk j d' (lockE_in hj e2)
      exact held_of e3 rfl q
    · exact held_of h o q
theorem s_for {t : Tg} {mb : MS} {body : List Stmt} (hp : PassesOwn (model X.prog X.w) X.A X.env X.xe) (hc : X.calm = true) (hi : PI X tg x (tI g E mi)) (hg : PG X tg (tG g t)) (hb : PSs X body (tS g E mb))
    (hs : ∀ y, foldedSetIterable x X.env y = pure y := by intro _; rfl) : PS X (.For tg x body [] pos) (tS g E (mFor mi t mb)) := by
  refine PS.sub (ps_for hp hc hi hg hb hs) fun De σ H h => ?_
  obtain ⟨ρ, F, R, h⟩ := h
  refine ⟨ρ, F, R, (h.at SF.refl).mono fun p ρ1 H1 F1 R1 s1 h1 J ao ok => ?_⟩
  obtain ⟨s, h1⟩ := h1
  obtain ⟨ds, u⟩ := p
  simp only at h1 ao ok
  have R1' := R1.locked u
  have L : RunsS g E (forLoop t mb ds (lockE u ρ1)) σ (lockE u ρ1) H1 F1 De := by
    obtain ⟨o, ρ2, e, h1⟩ := h1
    cases ez : forLoop t mb ds (lockE u ρ1) with
    | none => rw [ez] at e; cases e
    | some z =>
      obtain ⟨z, ρ3⟩ := z
      rw [ez] at e
      cases z with
      | error z =>
        cases u with
        | nil =>
          cases e
          exact ⟨.error z, _, rfl, fun cls d σ' H' F' r q => h1 cls d σ' H' F' r (s.trans q)⟩
        | cons _ _ => cases e
      | ok f =>
        cases e
        cases f with
        | nx => exact ⟨.ok .nx, _, rfl, fun σ' H' F' r q => let ⟨a, b⟩ := unlock_rel R1 ao r q; h1 σ' H' F' a (s.trans b)⟩
        | bk => exact ⟨.ok .bk, _, rfl, fun σ' H' F' r q => let ⟨a, b⟩ := unlock_rel R1 ao r q; h1 σ' H' F' a (s.trans b)⟩
        | ct => exact ⟨.ok .ct, _, rfl, fun σ' H' F' r q => let ⟨a, b⟩ := unlock_rel R1 ao r q; h1 σ' H' F' a (s.trans b)⟩
        | rt r => exact ⟨.ok (.rt r), _, rfl, fun σ' H' F' v r q x => let ⟨a, b⟩ := unlock_rel R1 ao r q; h1 σ' H' F' v a (s.trans b) (unlock_relR R1 ao q s x)⟩
  let Iv : Nat → Sg → Hp → Prop := fun i σ' H' => ∃ ρ' F', i ≤ ds.length ∧ Rel g σ' H' F' ρ' ∧ SF σ (lockE u ρ1) H1 F1 σ' ρ' H' F' ∧ RunsS g E (forLoop t mb (ds.drop i) ρ') σ (lockE u ρ1) H1 F1 De
  refine ⟨fun i m σ' H' => m = ds.length - i ∧ Iv i σ' H', ⟨_, rfl, lockE u ρ1, F1, Nat.zero_le _, R1', SF.refl, L⟩, ?_⟩
  rintro i m σ' H' ⟨rfl, ρ', F', il, R', s', r'⟩
  have key := ok σ' H' F' ρ' R' (s'.sees R1') i
  by_cases hl : i < ds.length
  · right
    have hd : ds[i]? = some ds[i] := List.getElem?_eq_getElem hl
    obtain ⟨go, yl⟩ := key.1 _ hd
    rw [List.drop_eq_getElem_cons hl] at r'
    simp only [forLoop] at r'
    refine ⟨go, Iv (i + 1), fun σ2 H2 iv => ⟨_, by omega, rfl, iv⟩, fun x H2 y => ?_⟩
    obtain ⟨ex, dv⟩ := yl x H2 y
    cases et : tgt t ds[i] ρ' with
    | none => rw [et] at r'; exact r'.no.elim
    | some ρ2 =>
      rw [et] at r'
      simp only at r'
      refine ⟨ρ', F', _, ρ2, R'.ext ex, dv, et, fun σ2 R2 s2 _ => ⟨ρ2, F', R2, ?_⟩⟩
      have st := (s'.ext_ ex).trans s2
      obtain ⟨o, ρ3, e, r'⟩ := r'
      cases eb : mb ρ2 with
      | none => rw [eb] at e; cases e
      | some z =>
        obtain ⟨z, ρ4⟩ := z
        rw [eb] at e
        cases z with
        | error z =>
          cases e
          exact ⟨.error z, _, rfl, fun cls d σ' H' F' r q => r' cls d σ' H' F' r (st.trans q)⟩
        | ok f =>
          cases f with
          | nx => exact ⟨.ok .nx, _, rfl, fun σ5 H5 F5 r q => ⟨ρ4, F5, by omega, r, st.trans q, o, ρ3, e, r'⟩⟩
          | ct => exact ⟨.ok .ct, _, rfl, fun σ5 H5 F5 r q => ⟨ρ4, F5, by omega, r, st.trans q, o, ρ3, e, r'⟩⟩
          | bk =>
            cases e
            exact ⟨.ok .bk, _, rfl, fun σ5 H5 F5 r q => r' σ5 H5 F5 r (st.trans q)⟩
          | rt r =>
            cases e
            exact ⟨.ok (.rt r), _, rfl, fun σ5 H5 F5 v r q x => r' σ5 H5 F5 v r (st.trans q) (x.weaken fun a n => st.none_of n)⟩
  · left
    have hi : i = ds.length := by omega
    refine ⟨key.2 hi, ?_⟩
    rw [List.drop_eq_nil_of_le (by omega)] at r'
    exact r'.nx R' s'
theorem s_while {c : Expr} {mt : MB} {mb : MS} {body : List Stmt} (hp : PassesOwn (model X.prog X.w) X.A X.env X.xe) (hc : PT X c (tT g E mt)) (hb : PSs X body (tS g E mb)) : PS X (.While c body [] pos) (tS g E (mWhile mt mb)) := by
  refine PS.sub (ps_while hp hc hb) fun De σ H h => ?_
  obtain ⟨ρ, F, R, h⟩ := h
  refine ⟨fun n σ' H' => ∃ ρ' F', Rel g σ' H' F' ρ' ∧ SF σ ρ H F σ' ρ' H' F' ∧ RunsS g E (whileL mt mb n ρ') σ ρ H F De, ⟨fuel, ρ, F, R, SF.refl, h⟩, ?_⟩
  rintro n σ' H' ⟨ρ', F', R', s', r'⟩
  cases n with
  | zero => exact r'.no.elim
  | succ n =>
    simp only [whileL] at r'
    refine ⟨ρ', F', R', ?_⟩
    have r2 := r'
    obtain ⟨o, ρ2, e, r'⟩ := r'
    cases et : mt ρ' with
    | none => rw [et] at e; cases e
    | some z =>
      obtain ⟨z, ρ3⟩ := z
      rw [et] at e
      cases z with
      | error z =>
        cases e
        exact ⟨.error z, _, rfl, fun cls d H' F' r q => r' cls d σ' H' F' r (s'.trans q)⟩
      | ok b =>
        refine ⟨.ok b, ρ3, rfl, fun H3 F3 R3 q => ?_⟩
        have st := s'.trans q
        cases b with
        | false =>
          simp only [bnd, Bool.false_eq_true, if_false] at e ⊢
          cases e
          exact r' _ _ _ R3 st
        | true =>
          simp only [bnd, if_true] at e ⊢
          refine ⟨fun σ5 H5 => ∃ ρ5 F5, Rel g σ5 H5 F5 ρ5 ∧ SF σ ρ H F σ5 ρ5 H5 F5 ∧ RunsS g E (whileL mt mb n ρ5) σ ρ H F De, fun σ5 H5 w => ⟨n, Nat.lt_succ_self n, w⟩, ρ3, F3, R3, ?_⟩
          cases eb : mb ρ3 with
          | none => rw [eb] at e; cases e
          | some z =>
            obtain ⟨z, ρ4⟩ := z
            rw [eb] at e
            cases z with
            | error z =>
              cases e
              exact ⟨.error z, _, rfl, fun cls d σ' H' F' r q => r' cls d σ' H' F' r (st.trans q)⟩
            | ok f =>
              cases f with
              | nx => exact ⟨.ok .nx, _, rfl, fun σ5 H5 F5 r q => ⟨ρ4, F5, r, st.trans q, o, ρ2, e, r'⟩⟩
              | ct => exact ⟨.ok .ct, _, rfl, fun σ5 H5 F5 r q => ⟨ρ4, F5, r, st.trans q, o, ρ2, e, r'⟩⟩
              | bk =>
                cases e
                exact ⟨.ok .bk, _, rfl, fun σ5 H5 F5 r q => r' σ5 H5 F5 r (st.trans q)⟩
              | rt r =>
                cases e
                exact ⟨.ok (.rt r), _, rfl, fun σ5 H5 F5 v r q x => r' σ5 H5 F5 v r (st.trans q) (x.weaken fun a n => st.none_of n)⟩
end
end Mm
-- text S7
set_option Elab.async false
set_option linter.all false
set_option maxRecDepth 100000
/-! S7: comprehensions. -/
namespace Mm
open PySem PySem.Spec PyProof.Rows L2
section
variable {g : Gr} {σ σ0 σ' σ1 σ2 : Sg} {H H' H0 H1 H2 : Hp} {F F0 F' F1 F2 : Addr → Prop} {ρ ρ0 ρ' ρ1 ρ2 : Env} {a D' : Addr} {v : V} {r : R} {d d' : D} {i : Nat} {E : XK} {X : Cx} {x y tg : Expr} {pos p1 : Pos} {ma mb mc me : ME} {De : Ends} {u is : List Nat} {J : It} {ds : List D} {mi : MI}
/-! ### wiping slots -/
theorem wipeC_len : ∀ {is : List Nat}, (wipeC ρ is).length = ρ.length
  | [] => rfl
  | i :: is => by rw [wipeC, List.length_set, wipeC_len]
theorem wipeC_get {j : Nat} {c : C} : ∀ {is : List Nat}, (wipeC ρ is)[j]? = some c → (j ∈ is ∧ c = .un) ∨ (j ∉ is ∧ ρ[j]? = some c)
  | [], h => .inr ⟨by simp, h⟩
  | i :: is, h => by
    rw [wipeC] at h
    rcases get_set h with ⟨e, e2, _⟩ | ⟨n, h⟩
    · exact .inl ⟨by simp [e], e2⟩
    · rcases wipeC_get h with ⟨a, b⟩ | ⟨a, b⟩
      · exact .inl ⟨by simp [a], b⟩
      · exact .inr ⟨by simp [a, n], b⟩
theorem wipeC_out {j : Nat} : ∀ {is : List Nat}, j ∉ is → (wipeC ρ is)[j]? = ρ[j]?
  | [], _ => rfl
  | i :: is, h => by
    rw [wipeC, List.getElem?_set_ne (fun e => h (by simp [e]))]
    exact wipeC_out fun z => h (by simp [z])
theorem wipeC_in {j : Nat} : ∀ {is : List Nat}, j ∈ is → j < ρ.length → (wipeC ρ is)[j]? = some .un
  | i :: is, h, hl => by
    rw [wipeC]
    by_cases e : i = j
    · subst e
      exact List.getElem?_set_self (by rw [wipeC_len]; exact hl)
    · rw [List.getElem?_set_ne e]
      exact wipeC_in ((List.mem_cons.mp h).resolve_left fun z => e z.symm) hl
theorem Rel.wipe (R : Rel g σ H F ρ) (is : List Nat) : Rel g (wipe σ is) H F (wipeC ρ is) := by
  have key : ∀ {j : Nat} {c : C}, (wipeC ρ is)[j]? = some c → c ≠ .un → ρ[j]? = some c ∧ (L2.wipe σ is)[j]? = σ[j]? := fun {j c} h n => by
    rcases wipeC_get h with ⟨_, e⟩ | ⟨hj, h⟩
    · exact absurd e n
    · exact ⟨h, wipe_out hj⟩
  refine ⟨by rw [wipe_length, wipeC_len]; exact R.len, fun j c d e o => ?_, fun j c d e o => ?_, fun j k c e x y b ne q1 q2 o1 o2 s1 => ?_, R.fz, R.tab⟩
  · obtain ⟨e, q⟩ := key e (by rintro rfl; cases o)
    rw [q]; exact R.val j c d e o
  · obtain ⟨e, q⟩ := key e (by rintro rfl; cases o)
    rw [q]; exact R.own j c d e o
  · obtain ⟨e1, t1⟩ := key q1 (by rintro rfl; cases o1)
    obtain ⟨e2, t2⟩ := key q2 (by rintro rfl; cases o2)
    rw [t1] at s1
    rw [t2]
    exact R.inj j k c e x y b ne e1 e2 o1 o2 s1
theorem own_wipe (h : Own (wipe σ is) (wipeC ρ is) a) : Own σ ρ a := by
  obtain ⟨j, d, e, s⟩ := h
  have go : ∀ c, (wipeC ρ is)[j]? = some c → c ≠ .un → ρ[j]? = some c ∧ σ[j]? = some (some (.ref a)) := fun c h n => by
    rcases wipeC_get h with ⟨_, e⟩ | ⟨hj, h⟩
    · exact absurd e n
    · exact ⟨h, by rw [← s, wipe_out hj]⟩
  rcases e with e | e
  · obtain ⟨e, s⟩ := go _ e nofun; exact ⟨j, d, .inl e, s⟩
  · obtain ⟨e, s⟩ := go _ e nofun; exact ⟨j, d, .inr e, s⟩
theorem held_wipe (h : Held (wipe σ is) (wipeC ρ is) a) : Held σ ρ a := by
  obtain ⟨j, c, d, e, o, s⟩ := h.ob
  rcases wipeC_get e with ⟨_, e⟩ | ⟨hj, e⟩
  · subst e; cases o
  · exact held_of e o (by rw [← s, wipe_out hj])
theorem SF.wipe (s : SF σ0 ρ0 H0 F0 σ ρ H F) (np : ∀ i ∈ is, ∀ c, ρ0[i]? = some c → isPin c = false) : SF σ0 ρ0 H0 F0 (wipe σ is) (wipeC ρ is) H F := by
  have out : ∀ {j : Nat} {c : C}, ρ0[j]? = some c → isPin c = true → j ∉ is := fun {j c} e p hj => by rw [np j hj c e] at p; cases p
  refine ⟨s.fr, s.new, s.ob, s.there, fun a h => s.own a (own_wipe h), fun a h => s.held a (held_wipe h), fun j d e => ?_, fun j d e => ?_, fun j d e => ?_, by rw [wipeC_len]; exact s.len⟩
  · have n := out e rfl
    rw [wipeC_out n, wipe_out n]; exact s.bo j d e
  · have n := out e rfl
    rw [wipeC_out n, wipe_out n]; exact s.fb j d e
  · have n := out e rfl
    rw [wipeC_out n, wipe_out n]; exact s.lk j d e
theorem wipe_ext {τ : Sg} (hl : τ.length = σ.length) (h : ∀ j, j ∉ is → τ[j]? = σ[j]?) : wipe τ is = wipe σ is := by
  apply List.ext_getElem?
  intro j
  by_cases hj : j ∈ is
  · have go : ∀ {τ : Sg}, (L2.wipe τ is)[j]? = if j < τ.length then some none else none := fun {τ} => by
      clear h hl
      induction is with
      | nil => simp at hj
      | cons i is ih =>
        unfold L2.wipe
        by_cases e : i = j
        · subst e
          by_cases hl : i < τ.length
          · rw [List.getElem?_set_self (by rw [wipe_length]; exact hl), if_pos hl]
          · rw [List.getElem?_eq_none (by rw [List.length_set, wipe_length]; omega), if_neg hl]
        · rw [List.getElem?_set_ne e]
          exact ih ((List.mem_cons.mp hj).resolve_left fun z => e z.symm)
    rw [go, go, hl]
  · rw [wipe_out hj, wipe_out hj, h j hj]
theorem freeOwn_get : ∀ {is : List Nat}, freeOwn ρ is = true → ∀ j ∈ is, ∃ c, ρ[j]? = some c ∧ isPin c = false
  | i :: is, h, j, hj => by
    rw [freeOwn, Bool.and_eq_true] at h
    rcases List.mem_cons.mp hj with e | hj
    · subst e
      have h1 := h.1
      cases hc : ρ[j]? with
      | none => rw [hc] at h1; cases h1
      | some c =>
        rw [hc] at h1
        cases c with
        | un => exact ⟨_, rfl, rfl⟩
        | va d => exact ⟨_, rfl, rfl⟩
        | ow d => exact ⟨_, rfl, rfl⟩
        | _ => cases h1
    · exact freeOwn_get h.2 j hj
theorem freeOwn_np (h : freeOwn ρ is = true) : ∀ i ∈ is, ∀ c, ρ[i]? = some c → isPin c = false := fun i hi c e => by
  obtain ⟨c', e', p⟩ := freeOwn_get h i hi
  rw [e] at e'; cases e'; exact p
theorem unwipe_get {j : Nat} {c : C} : ∀ {is : List Nat}, (∀ i ∈ is, ∃ c, ρ[i]? = some c) → (unwipe ρ ρ' is)[j]? = some c → (j ∈ is ∧ ρ[j]? = some c) ∨ (j ∉ is ∧ ρ'[j]? = some c)
  | [], _, h => .inr ⟨by simp, h⟩
  | i :: is, ex, h => by
    rw [unwipe] at h
    obtain ⟨c', e⟩ := ex i (by simp)
    rw [e] at h
    simp only at h
    rcases get_set h with ⟨e1, e2, _⟩ | ⟨n, h⟩
    · subst e1 e2
      exact .inl ⟨by simp, e⟩
    · rcases unwipe_get (fun k hk => ex k (List.mem_cons_of_mem _ hk)) h with ⟨a, b⟩ | ⟨a, b⟩
      · exact .inl ⟨by simp [a], b⟩
      · exact .inr ⟨by simp [a, n], b⟩
theorem unwipe_len : ∀ {is : List Nat}, (unwipe ρ ρ' is).length = ρ'.length
  | [] => rfl
  | i :: is => by
    rw [unwipe]
    split
    · rw [List.length_set, unwipe_len]
    · exact unwipe_len
theorem unwipe_out {j : Nat} : ∀ {is : List Nat}, j ∉ is → (unwipe ρ ρ' is)[j]? = ρ'[j]?
  | [], _ => rfl
  | i :: is, h => by
    rw [unwipe]
    split
    · rw [List.getElem?_set_ne (fun e => h (by simp [e]))]
      exact unwipe_out fun z => h (by simp [z])
    · exact unwipe_out fun z => h (by simp [z])
/-- behind a block -/
theorem unwipe_rel (R1 : Rel g σ H1 F1 ρ1) (fo : freeOwn ρ1 is = true) (R : Rel g (wipe σ is) H F ρ) (s : SF (wipe σ is) (wipeC ρ1 is) H1 F1 (wipe σ is) ρ H F) (kp : Keep H1 H F1 F) :
    Rel g σ H F (unwipe ρ1 ρ is) ∧ SF σ ρ1 H1 F1 σ (unwipe ρ1 ρ is) H F := by
  have ex : ∀ i ∈ is, ∃ c, ρ1[i]? = some c := fun i hi => let ⟨c, e, _⟩ := freeOwn_get fo i hi; ⟨c, e⟩
  have np := freeOwn_np fo
  have ug := fun {j : Nat} {c : C} (h : (unwipe ρ1 ρ is)[j]? = some c) => unwipe_get (ρ := ρ1) (ρ' := ρ) (is := is) ex h
  -- an own slot's object is nothing to the block
  have mine : ∀ {j : Nat} {c : C} {d : D} {a : Addr}, j ∈ is → ρ1[j]? = some c → isOb c = some d → σ[j]? = some (some (.ref a)) → ¬ Held (wipe σ is) (wipeC ρ1 is) a := fun {j c d a} hj e o q h => by
    obtain ⟨k, c', d', e', o', q'⟩ := h.ob
    rcases wipeC_get e' with ⟨_, z⟩ | ⟨hk, e'⟩
    · subst z; cases o'
    · rw [wipe_out hk] at q'
      exact R1.inj j k c c' d d' a (fun z => hk (z ▸ hj)) e e' o o' q q'
  have topMine : ∀ {j : Nat} {c : C} {d : D}, j ∈ is → ρ1[j]? = some c → isOb c = some d → ∃ a, σ[j]? = some (some (.ref a)) ∧ ¬ F a ∧ Top g H F a d ∧ ¬ Held (wipe σ is) ρ a := fun {j c d} hj e o => by
    obtain ⟨a, q, nf, t⟩ := R1.own j c d e o
    have nh := mine hj e o q
    obtain ⟨ob, eo, _, _, nt⟩ := t.there
    refine ⟨a, q, fun f => ?_, t.kept kp fun o' e' => ?_, fun h => ?_⟩
    · rcases s.new a f with z | z | z
      · exact nf z
      · exact nh z.held
      · rw [eo] at z; cases z
    · rw [eo] at e'; cases e'
      exact s.ob a _ eo (fun z => nh z.held) nt
    · rcases s.held a h with z | z
      · exact nh z
      · rw [eo] at z; cases z
  have ownU : ∀ {a}, Own σ (unwipe ρ1 ρ is) a → Own σ ρ1 a ∨ Own (wipe σ is) ρ a := fun {a} h => by
    obtain ⟨j, d, e, q⟩ := h
    have go : ∀ c, (unwipe ρ1 ρ is)[j]? = some c → (c = .ow d ∨ c = .bo d) → Own σ ρ1 a ∨ Own (L2.wipe σ is) ρ a := fun c e hc => by
      rcases ug e with ⟨_, e⟩ | ⟨hj, e⟩
      · rcases hc with rfl | rfl
        · exact .inl ⟨j, d, .inl e, q⟩
        · exact .inl ⟨j, d, .inr e, q⟩
      · rw [← wipe_out hj] at q
        rcases hc with rfl | rfl
        · exact .inr ⟨j, d, .inl e, q⟩
        · exact .inr ⟨j, d, .inr e, q⟩
    rcases e with e | e
    · exact go _ e (.inl rfl)
    · exact go _ e (.inr rfl)
  have heldU : ∀ {a}, Held σ (unwipe ρ1 ρ is) a → Held σ ρ1 a ∨ Held (wipe σ is) ρ a := fun {a} h => by
    obtain ⟨j, c, d, e, o, q⟩ := h.ob
    rcases ug e with ⟨_, e⟩ | ⟨hj, e⟩
    · exact .inl (held_of e o q)
    · exact .inr (held_of e o (by rw [wipe_out hj]; exact q))
  have wl : σ.length = ρ.length := by have := R.len; rw [wipe_length] at this; exact this
  refine ⟨⟨by rw [unwipe_len]; exact wl, fun j c d e o => ?_, fun j c d e o => ?_, fun j k c e x y b ne q1 q2 o1 o2 s1 s2 => ?_, R.fz, R.tab⟩, ⟨s.fr, fun a f => ?_, fun a o e n t => s.ob a o e (fun z => n (own_wipe z)) t, s.there, fun a h => ?_, fun a h => ?_, fun j d e => ?_, fun j d e => ?_, fun j d e => ?_, by rw [unwipe_len, s.len, wipeC_len]⟩⟩
  · rcases ug e with ⟨_, e⟩ | ⟨hj, e⟩
    · obtain ⟨v, q, z⟩ := R1.val j c d e o
      exact ⟨v, q, z.kept kp⟩
    · obtain ⟨v, q, z⟩ := R.val j c d e o
      exact ⟨v, by rw [← wipe_out hj]; exact q, z⟩
  · rcases ug e with ⟨hj, e⟩ | ⟨hj, e⟩
    · obtain ⟨a, q, n, t, _⟩ := topMine hj e o
      exact ⟨a, q, n, t⟩
    · obtain ⟨a, q, n, t⟩ := R.own j c d e o
      exact ⟨a, by rw [← wipe_out hj]; exact q, n, t⟩
  · rcases ug q1 with ⟨h1, e1⟩ | ⟨h1, e1⟩ <;> rcases ug q2 with ⟨h2, e2⟩ | ⟨h2, e2⟩
    · exact R1.inj j k c e x y b ne e1 e2 o1 o2 s1 s2
    · obtain ⟨a, q, _, _, nh⟩ := topMine h1 e1 o1
      rw [s1] at q; cases q
      exact nh (held_of e2 o2 (by rw [wipe_out h2]; exact s2))
    · obtain ⟨a, q, _, _, nh⟩ := topMine h2 e2 o2
      rw [s2] at q; cases q
      exact nh (held_of e1 o1 (by rw [wipe_out h1]; exact s1))
    · exact R.inj j k c e x y b ne e1 e2 o1 o2 (by rw [wipe_out h1]; exact s1) (by rw [wipe_out h2]; exact s2)
  · rcases s.new a f with z | z | z
    · exact .inl z
    · exact .inr (.inl (own_wipe z))
    · exact .inr (.inr z)
  · rcases ownU h with z | z
    · exact .inl z
    · exact (s.own a z).imp own_wipe id
  · rcases heldU h with z | z
    · exact .inl z
    · exact (s.held a z).imp held_wipe id
  · have hj : j ∉ is := fun hj => by have := np j hj _ e; cases this
    have q := s.bo j d (by rw [wipeC_out hj]; exact e)
    rw [unwipe_out hj]
    rw [wipe_out hj] at q
    exact ⟨q.1, rfl⟩
  · have hj : j ∉ is := fun hj => by have := np j hj _ e; cases this
    have q := s.fb j d (by rw [wipeC_out hj]; exact e)
    rw [unwipe_out hj]
    exact ⟨q.1, rfl⟩
  · have hj : j ∉ is := fun hj => by have := np j hj _ e; cases this
    have q := s.lk j d (by rw [wipeC_out hj]; exact e)
    rw [unwipe_out hj]
    exact ⟨q.1, rfl⟩
/-! ### the new list -/
theorem keepD {o : HO} {vs : List V} (n : ¬ F D') (e : H D' = some (.lst vs)) : Keep H (upd H D' o) F F :=
  ⟨fun _ h => h, fun a u f h => by rw [upd_ne (fun z => n (by rw [← z]; exact f))]; exact h, fun a u t h => by
    rw [upd_ne (fun z => ?_)]
    · exact h
    · subst z
      rw [e] at h; cases h
      obtain ⟨u, z | ⟨p, q, z⟩⟩ := t <;> cases z⟩
theorem tabs_upd {T : List (Addr × Str)} {o o' : HO} (h : H a = some o) (n1 : ∀ ps, o ≠ .tbl ps) (n2 : ∀ c q, o ≠ LamX.CodeO c q) (t : LamX.Tabs T H) : LamX.Tabs T (upd H a o') := fun p hp => by
  obtain ⟨ps, h1, h2, h3⟩ := t p hp
  refine ⟨ps, ?_, h2, fun pos cv hc => ?_⟩
  · rw [upd_ne (fun z => ?_)]
    · exact h1
    · rw [← z, h1] at h; cases h; exact n1 _ rfl
  · obtain ⟨c, e1, e2⟩ := h3 pos cv hc
    refine ⟨c, e1, ?_⟩
    rw [upd_ne (fun z => ?_)]
    · exact e2
    · rw [← z, e2] at h; cases h; exact n2 _ _ rfl
theorem Rel.updD {vs ws : List V} (R : Rel g σ H F ρ) (n : ¬ F D') (nh : ¬ Held σ ρ D') (e : H D' = some (.lst vs)) : Rel g σ (upd H D' (.lst ws)) F ρ := by
  have k := keepD (o := .lst ws) n e
  refine ⟨R.len, fun j c d q o => let ⟨v, s, z⟩ := R.val j c d q o; ⟨v, s, z.kept k⟩, fun j c d q o => ?_, R.inj, fun a f => ?_, ?_⟩
  · obtain ⟨b, s, nf, t⟩ := R.own j c d q o
    refine ⟨b, s, nf, t.kept k fun o' z => ?_⟩
    rw [upd_ne (fun w => nh (by rw [← w]; exact held_of q o s))]; exact z
  · obtain ⟨o, z, t⟩ := R.fz a f
    exact ⟨o, k.ob a o f z, t⟩
  · exact tabs_upd e nofun (fun c q => by unfold LamX.CodeO; nofun) R.tab
theorem SF.updD {o : HO} (s : SF σ0 ρ0 H0 F0 σ ρ H F) (h0 : H0 D' = none) : SF σ0 ρ0 H0 F0 σ ρ (upd H D' o) F :=
  ⟨s.fr, s.new, fun b u e n t => by rw [upd_ne (fun z => by rw [z, h0] at e; cases e)]; exact s.ob b u e n t, fun b u e => by
    obtain ⟨u', q⟩ := s.there b u e
    exact ⟨u', by rw [upd_ne (fun z => by rw [z, h0] at e; cases e)]; exact q⟩, s.own, s.held, s.bo, s.fb, s.lk, s.len⟩
/-- the list D' is nobody's -/
structure Mine (g : Gr) (σ : Sg) (ρ : Env) (H : Hp) (F : Addr → Prop) (D' : Addr) (acc : List D) : Prop where
  nf : ¬ F D'
  nh : ¬ Held σ ρ D'
  at' : ∃ vs, H D' = some (.lst vs) ∧ DvL g H F acc vs
theorem Mine.go {acc : List D} (m : Mine g σ ρ H F D' acc) (R : Rel g σ H F ρ) (s : SF σ ρ H F σ' ρ' H' F') : Mine g σ' ρ' H' F' D' acc := by
  obtain ⟨vs, e, t⟩ := m.at'
  refine ⟨fun f => ?_, fun h => ?_, vs, s.ob _ _ e (fun z => m.nh z.held) nofun, t.kept (s.keep R)⟩
  · rcases s.new _ f with z | z | z
    · exact m.nf z
    · exact m.nh z.held
    · rw [e] at z; cases z
  · rcases s.held _ h with z | z
    · exact m.nh z
    · rw [e] at z; cases z
theorem Mine.app {acc : List D} (m : Mine g σ ρ H F D' acc) (z : Dv g H F d v) : ∃ vs, H D' = some (.lst vs) ∧ vs.length = acc.length ∧ Mine g σ ρ (upd H D' (.lst (vs ++ [v]))) F D' (acc ++ [d]) := by
  obtain ⟨vs, e, t⟩ := m.at'
  have k := keepD (o := .lst (vs ++ [v])) m.nf e
  exact ⟨vs, e, t.length.symm, m.nf, m.nh, _, upd_same, (t.append (.cons z .nil)).kept k⟩
theorem Mine.wipe {acc : List D} (m : Mine g σ ρ H F D' acc) : Mine g (wipe σ is) (wipeC ρ is) H F D' acc := ⟨m.nf, fun h => m.nh (held_wipe h), m.at'⟩
theorem tgt_in {own : List Nat} {t : Tg} (h : (slT t).all own.contains = true) : ∀ j, j ∉ own → j ∉ slT t := fun j hj z => by
  rw [List.all_eq_true] at h
  exact hj (by simpa using h j z)
/-- the turns of a block's (last) clause. A: where it starts, but for the new list -/
theorem comp_core {t : Tg} {c : MT} {own : List Nat} {acc l : List D} {ρs ρe : Env} {accs : List V} (R : Rel g σ H1 F1 ρ1) (hD : H1 D' = none) (fo : freeOwn ρ1 own = true)
    (it : ∀ σ2 H2 F2 ρ2, Rel g σ2 H2 F2 ρ2 → Sees σ ρ1 H1 F1 σ2 ρ2 H2 F2 → ∀ k : Nat, (∀ d, ds[k]? = some d → J.go k H2 ∧ ∀ x H3, J.yld k H2 x H3 → Ext H2 H3 ∧ Dv g H3 F2 d x) ∧ (k = ds.length → J.stop k H2))
    (ha : DvL g H1 F1 acc accs) (hs : ρs = ρ1) (hr : compLoop own t c me ds acc ρs = some (.ok l, ρe)) (ht : (slT t).all own.contains = true) :
    ∃ W : Nat → Nat → Hp → Prop, (∃ m, W 0 m (upd H1 D' (.lst accs))) ∧ ∀ i m H, W i m H →
      (J.stop i H ∧ ∃ F, Rel g (wipe σ own) H F ρe ∧ SF σ ρ1 H1 F1 (wipe σ own) ρe H F ∧ SF (wipe σ own) (wipeC ρ1 own) H1 F1 (wipe σ own) ρe H F ∧ Keep H1 H F1 F ∧ Mine g (wipe σ own) ρe H F D' l) ∨
      (J.go i H ∧ ∃ Nx : Hp → Prop, (∀ H', Nx H' → ∃ m', m' < m ∧ W (i + 1) m' H') ∧ ∀ x H', J.yld i H x H' → tG g t x (wipe σ own) H' fun σ2 H2 => wipe σ2 own = wipe σ own ∧ tT g E0 c σ2 H2 fun b H3 =>
        if b = true then tE g E0 me σ2 H3 fun y H4 => ∃ acc, H4 D' = some (.lst acc) ∧ acc.length < sizeLine ∧ Nx (upd H4 D' (.lst (acc ++ [y]))) else Nx H3) := by
  subst hs
  have np := freeOwn_np fo
  have RB := R.wipe own
  have np' : ∀ i ∈ own, ∀ c, (wipeC ρs own)[i]? = some c → isPin c = false := fun i hi c e => by
    rcases wipeC_get e with ⟨_, z⟩ | ⟨z, _⟩
    · subst z; rfl
    · exact absurd hi z
  have sAB : SF σ ρs H1 F1 (wipe σ own) (wipeC ρs own) H1 F1 := SF.refl.wipe np
  let Iv : Nat → Hp → Prop := fun i H => ∃ ρ F acc, i ≤ ds.length ∧ compLoop own t c me (ds.drop i) acc ρ = some (.ok l, ρe) ∧ Rel g (wipe σ own) H F (wipeC ρ own) ∧
    SF (wipe σ own) (wipeC ρs own) H1 F1 (wipe σ own) (wipeC ρ own) H F ∧ Mine g (wipe σ own) (wipeC ρ own) H F D' acc
  refine ⟨fun i m H => m = ds.length - i ∧ Iv i H, ⟨_, rfl, ρs, F1, acc, Nat.zero_le _, hr, RB.new hD, SF.refl.new_ hD, RB.freshF hD, RB.freshHeld hD, _, upd_same, ha.kept (keepNew hD)⟩, ?_⟩
  rintro i m H ⟨rfl, ρ, F, acc, il, run, R', s', mine⟩
  have kp : Keep H1 H F1 F := s'.keep RB
  have sA := sAB.trans s'
  have key := it _ H F _ R' (sA.sees R) i
  by_cases hl : i < ds.length
  · right
    have hd : ds[i]? = some ds[i] := List.getElem?_eq_getElem hl
    obtain ⟨go, yl⟩ := key.1 _ hd
    rw [List.drop_eq_getElem_cons hl] at run
    simp only [compLoop] at run
    refine ⟨go, Iv (i + 1), fun H2 iv => ⟨_, by omega, rfl, iv⟩, fun x H2 y => ?_⟩
    obtain ⟨ex, dv⟩ := yl x H2 y
    cases et : tgt t ds[i] (wipeC ρ own) with
    | none => rw [et] at run; cases run
    | some ρ2 =>
      rw [et] at run
      simp only at run
      refine ⟨wipeC ρ own, F, _, ρ2, R'.ext ex, dv, et, fun σ2 R2 s2 n2 => ⟨?_, ρ2, F, R2, ?_⟩⟩
      · have wl : σ2.length = (wipe σ own).length := by
          have := s2.len
          rw [R2.len, this, R'.len]
        rw [wipe_ext (σ := wipe σ own) wl fun j hj => n2 j (tgt_in ht j hj)]
        refine wipe_ext (wipe_length _ _) fun j hj => wipe_out hj
      · have we : wipe σ2 own = wipe σ own := by
          have wl : σ2.length = (wipe σ own).length := by
            have := s2.len
            rw [R2.len, this, R'.len]
          rw [wipe_ext (σ := wipe σ own) wl fun j hj => n2 j (tgt_in ht j hj)]
          exact wipe_ext (wipe_length _ _) fun j hj => wipe_out hj
        have mine2 : Mine g σ2 ρ2 H2 F D' acc := (mine.go R' (SF.refl.ext_ ex)).go (R'.ext ex) s2
        have st : SF (wipe σ own) (wipeC ρs own) H1 F1 σ2 ρ2 H2 F := (s'.ext_ ex).trans s2
        cases ec : c ρ2 with
        | none => rw [ec] at run; cases run
        | some z =>
          obtain ⟨z, ρ3⟩ := z
          rw [ec] at run
          cases z with
          | error z => cases run
          | ok b =>
            refine ⟨.ok b, ρ3, rfl, fun H3 F3 R3 s3 => ?_⟩
            have mine3 := mine2.go R2 s3
            have st3 := st.trans s3
            cases b with
            | false =>
              simp only [Bool.false_eq_true, if_false]
              refine ⟨ρ3, F3, acc, by omega, run, ?_, ?_, ?_⟩
              · rw [← we]; exact R3.wipe own
              · have := st3.wipe (is := own) np'
                rw [we] at this; exact this
              · rw [← we]; exact mine3.wipe
            | true =>
              simp only [if_true]
              simp only at run
              refine ⟨ρ3, F3, R3, ?_⟩
              cases ee : me ρ3 with
              | none => rw [ee] at run; cases run
              | some z =>
                obtain ⟨z, ρ4⟩ := z
                rw [ee] at run
                cases z with
                | error z => cases run
                | ok r =>
                  simp only at run
                  cases ef : frz r ρ4 with
                  | none => rw [ef] at run; cases run
                  | some q =>
                    obtain ⟨x', ρ5⟩ := q
                    rw [ef] at run
                    simp only at run
                    by_cases hb : acc.length < big
                    · rw [if_pos hb] at run
                      refine ⟨.ok r, ρ4, rfl, fun H4 F4 R4 s4 y ry => ?_⟩
                      obtain ⟨F5, R5, s5, z5, up⟩ := frz_ok R4 s4 ry ef
                      have mine5 := mine3.go R3 s5
                      obtain ⟨vs, e1, e2, m5⟩ := mine5.app z5
                      refine ⟨vs, e1, by rw [e2, sizeLine_eq]; exact hb, ρ5, F5, _, by omega, run, ?_, ?_, ?_⟩
                      · rw [← we]; exact (R5.updD mine5.nf mine5.nh e1).wipe own
                      · have := ((st3.trans s5).updD (o := .lst (vs ++ [y])) hD).wipe (is := own) np'
                        rw [we] at this; exact this
                      · rw [← we]; exact m5.wipe
                    · rw [if_neg hb] at run; cases run
  · left
    have hi : i = ds.length := by omega
    refine ⟨key.2 hi, F, ?_⟩
    rw [List.drop_eq_nil_of_le (by omega)] at run
    simp only [compLoop, Mm.ret] at run
    cases run
    exact ⟨R', sA, s', kp, mine⟩
end
end Mm
-- text S8
set_option Elab.async false
set_option linter.all false
set_option maxRecDepth 100000
/-! S8: the rules of list comprehensions. -/
namespace Mm
open PySem PySem.Spec PyProof.Rows L2
section
variable {g : Gr} {σ σ0 σ' σ1 σ2 : Sg} {H H' H0 H1 H2 : Hp} {F F0 F' F1 F2 : Addr → Prop} {ρ ρ0 ρ' ρ1 ρ2 : Env} {a D' : Addr} {v : V} {r : R} {d d' : D} {i : Nat} {E : XK} {X : Cx} {x y tg : Expr} {pos p1 : Pos} {ma mb mc me : ME} {De : Ends} {u is : List Nat} {J : It} {ds : List D} {mi mi1 : MI}
theorem held_unlock (ao : AllOb ρ1 u) (s : SF σ1 (lockE u ρ1) H1 F1 σ ρ H F) (h : Held σ (unlockE ρ1 u ρ) a) : Held σ ρ a := by
  obtain ⟨j, c, d, e, o, q⟩ := h.ob
  rcases unlockE_get e with ⟨hj, h⟩ | h
  · obtain ⟨d', e2⟩ := ao j hj
    obtain ⟨e3, e4⟩ := s.lk j d' (lockE_in hj e2)
    exact held_of e3 rfl q
  · exact held_of h o q
theorem held_unwipe (fo : freeOwn ρ1 is = true) (h : Held σ (unwipe ρ1 ρ is) a) : Held σ ρ1 a ∨ Held (wipe σ is) ρ a := by
  have ex : ∀ i ∈ is, ∃ c, ρ1[i]? = some c := fun i hi => let ⟨c, e, _⟩ := freeOwn_get fo i hi; ⟨c, e⟩
  obtain ⟨j, c, d, e, o, q⟩ := h.ob
  rcases unwipe_get ex e with ⟨_, e⟩ | ⟨hj, e⟩
  · exact .inl (held_of e o q)
  · exact .inr (held_of e o (by rw [wipe_out hj]; exact q))
/-- behind a comprehension, its list the result -/
theorem comp_end {l : List D} {ρe : Env} {own : List Nat} (s : SF σ ρ H F σ ρ1 H1 F1) (R1 : Rel g σ H1 F1 ρ1) (ao : AllOb ρ1 u) (hD : H1 D' = none) (fo : freeOwn (lockE u ρ1) own = true) (R2 : Rel g (wipe σ own) H2 F2 ρe)
    (sB : SF (wipe σ own) (wipeC (lockE u ρ1) own) H1 F1 (wipe σ own) ρe H2 F2) (kp : Keep H1 H2 F1 F2) (m : Mine g (wipe σ own) ρe H2 F2 D' l) :
    Rel g σ H2 F2 (unlockE ρ1 u (unwipe (lockE u ρ1) ρe own)) ∧ SF σ ρ H F σ (unlockE ρ1 u (unwipe (lockE u ρ1) ρe own)) H2 F2 ∧
      RelR g σ H (unlockE ρ1 u (unwipe (lockE u ρ1) ρe own)) H2 F2 (.ref D') (.ow (.lst l)) := by
  have RL := R1.locked u
  obtain ⟨RU, sU⟩ := unwipe_rel RL fo R2 sB kp
  obtain ⟨RV, sV⟩ := unlock_rel R1 ao RU sU
  refine ⟨RV, s.trans sV, D', rfl, m.nf, fun h => ?_, s.none_of hD, m.at'⟩
  rcases held_unwipe fo (held_unlock ao sU h) with z | z
  · exact RL.freshHeld hD z
  · exact m.nh z
theorem lcE {t : Tg} {c : MT} {own : List Nat} {Q : VK} (ht : (slT t).all own.contains = true) (h : tE g E (mComp own mi t c me) σ H Q) : tLc (tI g E mi) (tG g t) (tT g E0 c) (tE g E0 me) own σ H Q := by
  obtain ⟨ρ, F, R, h⟩ := h
  refine ⟨ρ, F, R, (h.at SF.refl).mono fun p ρ1 H1 F1 R1 s1 h1 J ao ok D' hD => ?_⟩
  obtain ⟨s, h1⟩ := h1
  cases fo : freeOwn (lockE p.2 ρ1) own with
  | false => rw [fo] at h1; exact h1.no.elim
  | true =>
    rw [fo] at h1
    simp only [if_true] at h1
    cases er : compLoop own t c me p.1 [] (lockE p.2 ρ1) with
    | none => rw [er] at h1; exact h1.no.elim
    | some z =>
      obtain ⟨z, ρe⟩ := z
      rw [er] at h1
      cases z with
      | error z => exact h1.no.elim
      | ok l =>
        simp only at h1
        obtain ⟨W, w0, turn⟩ := comp_core (J := J) (ds := p.1) (me := me) (R1.locked p.2) hD fo (fun σ2 H2 F2 ρ2 R2 sf k => ok σ2 H2 F2 ρ2 R2 sf k) .nil rfl er ht
        refine ⟨W, w0, fun i m H w => (turn i m H w).imp (fun ⟨st, F2, R2, sA, sB, kp, m⟩ => ⟨st, ?_⟩) id⟩
        obtain ⟨a, b, c⟩ := comp_end s R1 ao hD fo R2 sB kp m
        exact h1.ret a b _ c
theorem pts_ (h : ifs = [] ∧ c = mYes ∨ ∃ e, ifs = [e] ∧ PT X e (tT g E c)) : PTs X ifs (tT g E c) := by
  rcases h with ⟨rfl, rfl⟩ | ⟨e, rfl, h⟩
  · refine ⟨fun pins s σ H Q I q => pts_nil.run pins s σ H Q I ?_⟩
    obtain ⟨ρ, F, R, h⟩ := q
    exact h.ret R SF.refl
  · exact pts_one h
theorem pts0 : PTs X [] (tT g E mYes) := pts_ (.inl ⟨rfl, rfl⟩)
theorem pts1 {c : MT} (h : PT X x (tT g E c)) : PTs X [x] (tT g E c) := pts_ (.inr ⟨x, rfl, h⟩)
abbrev Blk (X : Cx) (scope : Scope) (T : Cx → Prop) : Prop := ∀ (s : Shared) (H : Hp) (C : Addr) (cl : List (Str × Addr)) (fp : List Addr), T (X.blk s H scope (compEnvC scope cl C X.env) fp)
theorem s_lc {elt iter : Expr} {ifs : List Expr} {scope : Scope} {own : List (Str × Nat)} {t : Tg} {c : MT} (hc : X.calm = true) (hN : X.N.Nodup) (hi : PI X tg iter (tI g E mi)) (ok : BlkOk X.N X.env.scope scope own)
    (hg : Blk X scope fun Y => PG Y tg (tG g t)) (ht : Blk X scope fun Y => PTs Y ifs (tT g E0 c)) (he : Blk X scope fun Y => PE Y elt (tE g E0 me)) (hs : ∀ x, foldedSetIterable iter X.env x = pure x := by intro _; rfl) (hsub : (slT t).all (own.map (·.2)).contains = true := by decide) :
    PE X (.ListComp elt [⟨tg, iter, ifs, 0⟩] scope pos) (tE g E (mComp (own.map (·.2)) mi t c me)) :=
  PE.sub (pe_lc hc hN hi ok hg ht he hs) fun _ _ _ h => lcE hsub h
/-- an expression's reading ahead of a name's store -/
theorem set_of {i : Nat} (h : tS g E (mSet i ma) De σ H) : tE g E ma σ H fun x H1 => gName i x σ H1 De.nx := by
  obtain ⟨ρ, F, R, h⟩ := h
  refine ⟨ρ, F, R, (h.at SF.refl).mono fun p ρ1 H1 F1 R1 s1 h1 v rv => ?_⟩
  obtain ⟨s, h1⟩ := h1
  show De.nx (σ.set i (some v)) H1
  cases e1 : store i p ρ1 with
  | none => simp only [e1] at h1; exact h1.no.elim
  | some ρ2 =>
    simp only [e1] at h1
    obtain ⟨F2, R2, s2, _⟩ := store_rel R1 s rv e1
    exact h1.nx R2 s2
theorem s_setLc {i : Nat} {n : Str} {py spos : Pos} {elt iter : Expr} {ifs : List Expr} {scope : Scope} {own : List (Str × Nat)} {t : Tg} {c : MT} (hc : X.calm = true) (hN : X.N.Nodup) (hy : X.N[i]? = some n) (hyl : X.env.scope.names.lookup n = some .local)
    (hsw : swapsWith (.ListComp elt [⟨tg, iter, ifs, 0⟩] scope pos) (some (.Name n py)) spos.line X.env = pure true) (hi : PI X tg iter (tI g E mi)) (ok : BlkOk X.N X.env.scope scope own)
    (hg : Blk X scope fun Y => PG Y tg (tG g t)) (ht : Blk X scope fun Y => PTs Y ifs (tT g E0 c)) (he : Blk X scope fun Y => PE Y elt (tE g E0 me)) (hs : ∀ x, foldedSetIterable iter X.env x = pure x := by intro _; rfl) (hsub : (slT t).all (own.map (·.2)).contains = true := by decide) :
    PS X (.Assign [.Name n py] (.ListComp elt [⟨tg, iter, ifs, 0⟩] scope pos) spos) (tS g E (mSet i (mComp (own.map (·.2)) mi t c me))) :=
  PS.sub (ps_setLc hc hN hy hyl hsw hi ok hg ht he hs) fun _ _ _ h => lcE hsub (set_of h)
/-! ### two clauses -/
def del (H : Hp) (a : Addr) : Hp := fun b => if b = a then none else H b
theorem del_ne {b : Addr} (h : b ≠ a) : del H a b = H b := by unfold del; rw [if_neg h]
theorem del_same : del H a a = none := by unfold del; rw [if_pos rfl]
theorem upd_del {o : HO} (h : H a = some o) : upd (del H a) a o = H := by
  funext b
  by_cases e : b = a
  · subst e; rw [upd_same, h]
  · rw [upd_ne e, del_ne e]
theorem Mine.del {acc : List D} (m : Mine g σ ρ H F D' acc) (R : Rel g σ H F ρ) : Rel g σ (del H D') F ρ := by
  obtain ⟨vs, e, t⟩ := m.at'
  have k : Keep H (Mm.del H D') F F := ⟨fun _ h => h, fun a o f h => by rw [del_ne (fun z => m.nf (by rw [← z]; exact f))]; exact h, fun a o t h => by
    rw [del_ne (fun z => ?_)]
    · exact h
    · subst z
      rw [e] at h; cases h
      obtain ⟨u, z | ⟨p, q, z⟩⟩ := t <;> cases z⟩
  refine ⟨R.len, fun j c d q o => let ⟨v, s, z⟩ := R.val j c d q o; ⟨v, s, z.kept k⟩, fun j c d q o => ?_, R.inj, fun a f => ?_, fun p hp => ?_⟩
  · obtain ⟨b, s, nf, t⟩ := R.own j c d q o
    refine ⟨b, s, nf, t.kept k fun o' z => ?_⟩
    rw [del_ne (fun w => m.nh (by rw [← w]; exact held_of q o s))]; exact z
  · obtain ⟨o, z, t⟩ := R.fz a f
    exact ⟨o, k.ob a o f z, t⟩
  · obtain ⟨ps, h1, h2, h3⟩ := R.tab p hp
    refine ⟨ps, ?_, h2, fun pos cv hc => ?_⟩
    · rw [del_ne (fun z => ?_)]
      · exact h1
      · rw [z, e] at h1; cases h1
    · obtain ⟨c, e1, e2⟩ := h3 pos cv hc
      refine ⟨c, e1, ?_⟩
      rw [del_ne (fun z => ?_)]
      · exact e2
      · rw [z, e] at e2
        unfold LamX.CodeO at e2
        cases e2
theorem SF.del (s : SF σ0 ρ0 H0 F0 σ ρ H F) (h0 : H0 D' = none) : SF σ0 ρ0 H0 F0 σ ρ (del H D') F :=
  ⟨s.fr, s.new, fun b u e n t => by rw [del_ne (fun z => by rw [z, h0] at e; cases e)]; exact s.ob b u e n t, fun b u e => by
    obtain ⟨u', q⟩ := s.there b u e
    exact ⟨u', by rw [del_ne (fun z => by rw [z, h0] at e; cases e)]; exact q⟩, s.own, s.held, s.bo, s.fb, s.lk, s.len⟩
theorem Sees.undel {acc : List D} (m : Mine g σ ρ H F D' acc) (s : Sees σ (lockE u ρ) (del H D') F σ2 ρ2 H2 F2) : Sees σ (lockE u ρ) H F σ2 ρ2 H2 F2 := by
  obtain ⟨vs, e, t⟩ := m.at'
  refine ⟨⟨s.kp.fr, fun a o f h => s.kp.ob a o f ?_, fun a o t h => s.kp.tu a o t ?_⟩, s.lk, fun i d a o e1 q h => s.ob i d a o e1 q ?_⟩
  · rw [del_ne (fun z => m.nf (by rw [← z]; exact f))]; exact h
  · rw [del_ne (fun z => ?_)]
    · exact h
    · subst z
      rw [e] at h; cases h
      obtain ⟨u, z | ⟨p, q, z⟩⟩ := t <;> cases z
  · rw [del_ne (fun z => m.nh (held_locked (u := u) (by rw [← z]; exact held_of e1 rfl q)))]; exact h
theorem lc2E {t t1 : Tg} {c c1 : MT} {own own1 : List Nat} {Q : VK} (ht : (slT t).all own.contains = true) (ht1 : (slT t1).all own1.contains = true) (hsub : own1.all own.contains = true) (h : tE g E (mComp2 own own1 mi t c mi1 t1 c1 me) σ H Q) :
    tLc2 (tI g E mi) (tG g t) (tT g E0 c) (tI g E0 mi1) (tG g t1) (tT g E0 c1) (tE g E0 me) own own1 σ H Q := by
  obtain ⟨ρ, F, R, h⟩ := h
  refine ⟨ρ, F, R, (h.at SF.refl).mono fun p ρ1 H1 F1 R1 s1 h1 J ao ok D' hD => ?_⟩
  obtain ⟨s, h1⟩ := h1
  cases fo : freeOwn (lockE p.2 ρ1) own with
  | false => rw [fo] at h1; exact h1.no.elim
  | true =>
    rw [fo] at h1
    simp only [if_true] at h1
    cases er : compLoop2 own own1 t c mi1 t1 c1 me p.1 [] (lockE p.2 ρ1) with
    | none => rw [er] at h1; exact h1.no.elim
    | some z =>
      obtain ⟨z, ρe⟩ := z
      rw [er] at h1
      cases z with
      | error z => exact h1.no.elim
      | ok l =>
        simp only at h1
        obtain ⟨ds, u⟩ := p
        simp only at h1 er fo ao ok
        have RA := R1.locked u
        have np := freeOwn_np fo
        have RB := RA.wipe own
        have np' : ∀ i ∈ own, ∀ c, (wipeC (lockE u ρ1) own)[i]? = some c → isPin c = false := fun i hi c e => by
          rcases wipeC_get e with ⟨_, z⟩ | ⟨z, _⟩
          · subst z; rfl
          · exact absurd hi z
        have sAB : SF σ (lockE u ρ1) H1 F1 (wipe σ own) (wipeC (lockE u ρ1) own) H1 F1 := SF.refl.wipe np
        let Iv : Nat → Hp → Prop := fun i H => ∃ ρ F acc, i ≤ ds.length ∧ compLoop2 own own1 t c mi1 t1 c1 me (ds.drop i) acc ρ = some (.ok l, ρe) ∧ Rel g (wipe σ own) H F (wipeC ρ own) ∧
          SF (wipe σ own) (wipeC (lockE u ρ1) own) H1 F1 (wipe σ own) (wipeC ρ own) H F ∧ Mine g (wipe σ own) (wipeC ρ own) H F D' acc
        refine ⟨fun i m H => m = ds.length - i ∧ Iv i H, ⟨_, rfl, lockE u ρ1, F1, [], Nat.zero_le _, er, RB.new hD, SF.refl.new_ hD, RB.freshF hD, RB.freshHeld hD, _, upd_same, .nil⟩, ?_⟩
        rintro i m H ⟨rfl, ρ, F, acc, il, run, R', s', mine⟩
        have kp : Keep H1 H F1 F := s'.keep RB
        have sA := sAB.trans s'
        have key := ok _ H F _ R' (sA.sees RA) i
        by_cases hl : i < ds.length
        · right
          have hd : ds[i]? = some ds[i] := List.getElem?_eq_getElem hl
          obtain ⟨go, yl⟩ := key.1 _ hd
          rw [List.drop_eq_getElem_cons hl] at run
          simp only [compLoop2] at run
          refine ⟨go, Iv (i + 1), fun H2 iv => ⟨_, by omega, rfl, iv⟩, fun x H2 y => ?_⟩
          obtain ⟨ex, dv⟩ := yl x H2 y
          cases et : tgt t ds[i] (wipeC ρ own) with
          | none => rw [et] at run; cases run
          | some ρ2 =>
            rw [et] at run
            simp only at run
            have wl : ∀ {σ2 : Sg}, Rel g σ2 H2 F ρ2 → SF (wipe σ own) (wipeC ρ own) H2 F σ2 ρ2 H2 F → (∀ j, j ∉ slT t → σ2[j]? = (wipe σ own)[j]?) → wipe σ2 own = wipe σ own := fun {σ2} R2 s2 n2 => by
              have wl : σ2.length = (wipe σ own).length := by
                have := s2.len
                rw [R2.len, this, R'.len]
              rw [wipe_ext (σ := wipe σ own) wl fun j hj => n2 j (tgt_in ht j hj)]
              exact wipe_ext (wipe_length _ _) fun j hj => wipe_out hj
            refine ⟨wipeC ρ own, F, _, ρ2, R'.ext ex, dv, et, fun σ2 R2 s2 n2 => ⟨wl R2 s2 n2, ρ2, F, R2, ?_⟩⟩
            have we := wl R2 s2 n2
            have mine2 : Mine g σ2 ρ2 H2 F D' acc := (mine.go R' (SF.refl.ext_ ex)).go (R'.ext ex) s2
            have st : SF (wipe σ own) (wipeC (lockE u ρ1) own) H1 F1 σ2 ρ2 H2 F := (s'.ext_ ex).trans s2
            cases ec : c ρ2 with
            | none => rw [ec] at run; cases run
            | some z =>
              obtain ⟨z, ρ3⟩ := z
              rw [ec] at run
              cases z with
              | error z => cases run
              | ok b =>
                refine ⟨.ok b, ρ3, rfl, fun H3 F3 R3 s3 => ?_⟩
                have mine3 := mine2.go R2 s3
                have st3 := st.trans s3
                cases b with
                | false =>
                  simp only [Bool.false_eq_true, if_false]
                  refine ⟨ρ3, F3, acc, by omega, run, ?_, ?_, ?_⟩
                  · rw [← we]; exact R3.wipe own
                  · have := st3.wipe (is := own) np'
                    rw [we] at this; exact this
                  · rw [← we]; exact mine3.wipe
                | true =>
                  simp only [if_true]
                  simp only at run
                  refine ⟨ρ3, F3, R3, ?_⟩
                  cases ei : mi1 ρ3 with
                  | none => rw [ei] at run; cases run
                  | some z =>
                    obtain ⟨z, ρ4⟩ := z
                    rw [ei] at run
                    cases z with
                    | error z => cases run
                    | ok p =>
                      obtain ⟨es, u1⟩ := p
                      simp only at run
                      cases fo1 : freeOwn (lockE u1 ρ4) own1 with
                      | false => rw [fo1] at run; cases run
                      | true =>
                        rw [fo1] at run
                        simp only [if_true] at run
                        cases er1 : compLoop own1 t1 c1 me es acc (lockE u1 ρ4) with
                        | none => rw [er1] at run; cases run
                        | some z =>
                          obtain ⟨z, ρ5⟩ := z
                          rw [er1] at run
                          cases z with
                          | error z => cases run
                          | ok acc' =>
                            simp only at run
                            refine ⟨.ok (es, u1), ρ4, rfl, fun H4 F4 R4 s4 J1 ao1 ok1 => ?_⟩
                            have mine4 := mine3.go R3 s4
                            have st4 := st3.trans s4
                            obtain ⟨vs, ev, tv⟩ := mine4.at'
                            have R4d := mine4.del R4
                            have tvd : DvL g (Mm.del H4 D') F4 acc vs := tv.kept ⟨fun _ h => h, fun a o f h => by rw [del_ne (fun z => mine4.nf (by rw [← z]; exact f))]; exact h, fun a o t h => by
                              rw [del_ne (fun z => ?_)]
                              · exact h
                              · subst z
                                rw [ev] at h; cases h
                                obtain ⟨u, z | ⟨p, q, z⟩⟩ := t <;> cases z⟩
                            obtain ⟨W, w0, turn⟩ := comp_core (J := J1) (ds := es) (me := me) (D' := D') (accs := vs) (R4d.locked u1) del_same fo1 (fun σ2 H2 F2 ρ2 R2 sf k => ok1 σ2 H2 F2 ρ2 R2 (Sees.undel mine4 sf) k) tvd rfl er1 ht1
                            rw [upd_del ev] at w0
                            refine ⟨W, w0, fun i m H w => (turn i m H w).imp (fun ⟨stp, F5, R5, sA5, sB5, kp5, m5⟩ => ⟨stp, ?_⟩) id⟩
                            have w12 : wipe (wipe σ2 own1) own = wipe σ own := by
                              rw [← we]
                              refine wipe_ext (wipe_length _ _) fun j hj => wipe_out fun z => hj ?_
                              rw [List.all_eq_true] at hsub
                              simpa using hsub j z
                            obtain ⟨RV, sV⟩ := unlock_rel R4d ao1 R5 sA5
                            refine ⟨unlockE ρ4 u1 ρ5, F5, acc', by omega, run, ?_, ?_, ?_⟩
                            · rw [← w12]; exact RV.wipe own
                            · have := ((st4.del hD).trans sV).wipe (is := own) np'
                              rw [w12] at this; exact this
                            · have m6 : Mine g (wipe σ2 own1) (unlockE ρ4 u1 ρ5) H F5 D' acc' := ⟨m5.nf, fun h => m5.nh (held_unlock ao1 sA5 h), m5.at'⟩
                              rw [← w12]; exact m6.wipe
        · left
          have hi : i = ds.length := by omega
          rw [List.drop_eq_nil_of_le (by omega)] at run
          simp only [compLoop2, Mm.ret] at run
          cases run
          obtain ⟨a, b, c⟩ := comp_end s R1 ao hD fo R' s' kp mine
          exact ⟨key.2 hi, h1.ret a b _ c⟩
theorem s_lc2 {elt iter tg1 iter1 : Expr} {ifs ifs1 : List Expr} {scope : Scope} {own : List (Str × Nat)} {own1 : List Nat} {t t1 : Tg} {c c1 : MT} (hc : X.calm = true) (hN : X.N.Nodup) (hi : PI X tg iter (tI g E mi)) (ok : BlkOk X.N X.env.scope scope own)
    (hg : Blk X scope fun Y => PG Y tg (tG g t)) (ht : Blk X scope fun Y => PTs Y ifs (tT g E0 c)) (hi1 : Blk X scope fun Y => PI Y tg1 iter1 (tI g E0 mi1)) (hg1 : Blk X scope fun Y => PG Y tg1 (tG g t1)) (ht1 : Blk X scope fun Y => PTs Y ifs1 (tT g E0 c1))
    (he : Blk X scope fun Y => PE Y elt (tE g E0 me)) (hs : ∀ x, foldedSetIterable iter X.env x = pure x := by intro _; rfl) (hs1 : ∀ env x, foldedSetIterable iter1 env x = pure x := by intro _ _; rfl)
    (hsub : (slT t).all (own.map (·.2)).contains = true := by decide) (hsub1 : (slT t1).all own1.contains = true := by decide) (hsub2 : own1.all (own.map (·.2)).contains = true := by decide) :
    PE X (.ListComp elt [⟨tg, iter, ifs, 0⟩, ⟨tg1, iter1, ifs1, 0⟩] scope pos) (tE g E (mComp2 (own.map (·.2)) own1 mi t c mi1 t1 c1 me)) :=
  PE.sub (pe_lc2 (vs1 := own1) hc hN hi ok (fun i h => by rw [List.all_eq_true] at hsub2; simpa using hsub2 i h) hg ht hi1 hg1 ht1 he hs hs1) fun _ _ _ h => lc2E hsub hsub1 hsub2 h
theorem s_setLc2 {i : Nat} {n : Str} {py spos : Pos} {elt iter tg1 iter1 : Expr} {ifs ifs1 : List Expr} {scope : Scope} {own : List (Str × Nat)} {own1 : List Nat} {t t1 : Tg} {c c1 : MT} (hc : X.calm = true) (hN : X.N.Nodup) (hy : X.N[i]? = some n) (hyl : X.env.scope.names.lookup n = some .local)
    (hsw : swapsWith (.ListComp elt [⟨tg, iter, ifs, 0⟩, ⟨tg1, iter1, ifs1, 0⟩] scope pos) (some (.Name n py)) spos.line X.env = pure true) (hi : PI X tg iter (tI g E mi)) (ok : BlkOk X.N X.env.scope scope own)
    (hg : Blk X scope fun Y => PG Y tg (tG g t)) (ht : Blk X scope fun Y => PTs Y ifs (tT g E0 c)) (hi1 : Blk X scope fun Y => PI Y tg1 iter1 (tI g E0 mi1)) (hg1 : Blk X scope fun Y => PG Y tg1 (tG g t1)) (ht1 : Blk X scope fun Y => PTs Y ifs1 (tT g E0 c1))
    (he : Blk X scope fun Y => PE Y elt (tE g E0 me)) (hs : ∀ x, foldedSetIterable iter X.env x = pure x := by intro _; rfl) (hs1 : ∀ env x, foldedSetIterable iter1 env x = pure x := by intro _ _; rfl)
    (hsub : (slT t).all (own.map (·.2)).contains = true := by decide) (hsub1 : (slT t1).all own1.contains = true := by decide) (hsub2 : own1.all (own.map (·.2)).contains = true := by decide) :
    PS X (.Assign [.Name n py] (.ListComp elt [⟨tg, iter, ifs, 0⟩, ⟨tg1, iter1, ifs1, 0⟩] scope pos) spos) (tS g E (mSet i (mComp2 (own.map (·.2)) own1 mi t c mi1 t1 c1 me))) :=
  PS.sub (ps_setLc2 (vs1 := own1) hc hN hy hyl hsw hi ok (fun i h => by rw [List.all_eq_true] at hsub2; simpa using hsub2 i h) hg ht hi1 hg1 ht1 he hs hs1) fun _ _ _ h => lc2E hsub hsub1 hsub2 (set_of h)
end
end Mm
-- text S9
set_option Elab.async false
set_option linter.all false
set_option maxRecDepth 100000
/-! S9: own defs: their promise, their calls. -/
namespace Mm
open PySem PySem.Spec PyProof.Rows L2
/-- an argument stands for the value -/
def RelA (g : Gr) (σ : Sg) (H : Hp) (F : Addr → Prop) : Ar → V → Prop
  | .va d, v => Dv g H F d v
  | .sl i, v => σ[i]? = some (some v)
inductive RelAs (g : Gr) (σ : Sg) (H : Hp) (F : Addr → Prop) : List Ar → List V → Prop
  | nil : RelAs g σ H F [] []
  | cons {r v rs vs} : RelA g σ H F r v → RelAs g σ H F rs vs → RelAs g σ H F (r :: rs) (v :: vs)
def tL (g : Gr) (E : XK) (m : ML) : TA := fun σ H Q => ∃ ρ F, Rel g σ H F ρ ∧ Runs g E (m ρ) σ ρ H F fun rs ρ' H' F' => ∀ vs, RelAs g σ H' F' rs vs → Q vs H'
/-- the promise of a def whose meaning is m -/
def spM (g : Gr) (m : Fn) : Sp := fun vs H Q E => ∃ cs F, Rel g (vs.map some) H F cs ∧ (∀ c ∈ cs, (∃ d, c = .va d) ∨ ∃ d, c = .bo d) ∧ ∃ (o : Except Exn R) (cs' : Env), m cs = some (o, cs') ∧ match o with
  | .ok r => ∀ σ' H' F' v, Rel g σ' H' F' cs' → SF (vs.map some) cs H F σ' cs' H' F' → RelR g σ' H cs' H' F' v r → Q v H'
  | .error e => ∀ cls d σ' H' F', Rel g σ' H' F' cs' → SF (vs.map some) cs H F σ' cs' H' F' → ExR g H' e cls d → E cls d H'
section
variable {g : Gr} {σ σ0 σ' σ1 σ2 : Sg} {H H' H0 H1 H2 : Hp} {F F0 F' F1 F2 : Addr → Prop} {ρ ρ0 ρ' ρ1 ρ2 : Env} {a D' : Addr} {v : V} {r : R} {d d' : D} {i n : Nat} {E : XK} {X : Cx} {x y tg : Expr} {pos p1 : Pos} {ma mb mc me : ME} {De : Ends} {u is : List Nat} {mB' : MS} {m : Fn}
/-! ### the body -/
theorem app_get {α : Type} {l m : List α} {j : Nat} {x : α} (h : (l ++ m)[j]? = some x) : l[j]? = some x ∨ (l.length ≤ j ∧ m[j - l.length]? = some x) := by
  by_cases hj : j < l.length
  · rw [List.getElem?_append_left hj] at h; exact .inl h
  · rw [List.getElem?_append_right (by omega)] at h; exact .inr ⟨by omega, h⟩
theorem rep_get {α : Type} {k j : Nat} {x y : α} (h : (List.replicate k x)[j]? = some y) : y = x := by
  obtain ⟨hl, e⟩ := List.getElem?_eq_some_iff.mp h
  rw [List.getElem_replicate] at e
  exact e.symm
theorem Rel.more (R : Rel g σ H F ρ) (k : Nat) : Rel g (σ ++ List.replicate k none) H F (ρ ++ List.replicate k .un) := by
  have key : ∀ {j : Nat} {c : C}, (ρ ++ List.replicate k C.un)[j]? = some c → c ≠ .un → ρ[j]? = some c ∧ (σ ++ List.replicate k none)[j]? = σ[j]? := fun {j c} h n => by
    rcases app_get h with h | ⟨_, h⟩
    · have : j < σ.length := by rw [R.len]; exact (List.getElem?_eq_some_iff.mp h).1
      exact ⟨h, List.getElem?_append_left this⟩
    · exact absurd (rep_get h) n
  refine ⟨by simp [R.len], fun j c d e o => ?_, fun j c d e o => ?_, fun j k c e x y b ne q1 q2 o1 o2 s1 => ?_, R.fz, R.tab⟩
  · obtain ⟨e, q⟩ := key e (by rintro rfl; cases o)
    rw [q]; exact R.val j c d e o
  · obtain ⟨e, q⟩ := key e (by rintro rfl; cases o)
    rw [q]; exact R.own j c d e o
  · obtain ⟨e1, t1⟩ := key q1 (by rintro rfl; cases o1)
    obtain ⟨e2, t2⟩ := key q2 (by rintro rfl; cases o2)
    rw [t1] at s1
    rw [t2]
    exact R.inj j _ c e x y b ne e1 e2 o1 o2 s1
theorem own_more (hl : σ.length = ρ.length) {k : Nat} (h : Own (σ ++ List.replicate k none) (ρ ++ List.replicate k .un) a) : Own σ ρ a := by
  obtain ⟨j, d, e, q⟩ := h
  have go : ∀ c, (ρ ++ List.replicate k C.un)[j]? = some c → c ≠ .un → ρ[j]? = some c ∧ σ[j]? = some (some (.ref a)) := fun c h n => by
    rcases app_get h with h | ⟨_, h⟩
    · have : j < σ.length := by rw [hl]; exact (List.getElem?_eq_some_iff.mp h).1
      exact ⟨h, by rw [← q]; exact (List.getElem?_append_left this).symm⟩
    · exact absurd (rep_get h) n
  rcases e with e | e
  · obtain ⟨e, q⟩ := go _ e nofun; exact ⟨j, d, .inl e, q⟩
  · obtain ⟨e, q⟩ := go _ e nofun; exact ⟨j, d, .inr e, q⟩
theorem held_more (hl : σ.length = ρ.length) {k : Nat} (h : Held (σ ++ List.replicate k none) (ρ ++ List.replicate k .un) a) : Held σ ρ a := by
  obtain ⟨j, c, d, e, o, q⟩ := h.ob
  rcases app_get e with h | ⟨_, h⟩
  · have : j < σ.length := by rw [hl]; exact (List.getElem?_eq_some_iff.mp h).1
    exact held_of h o (by rw [← q]; exact (List.getElem?_append_left this).symm)
  · rw [rep_get h] at o; cases o
theorem bks_get {j : Nat} {c : C} (h : ((ρ.take n).map bks)[j]? = some c) : c = .un ∨ (∃ d, (c = .bo d ∨ c = .fb d) ∧ ρ[j]? = some c ∧ j < n) := by
  rw [List.getElem?_map, List.getElem?_take] at h
  split at h
  · rename_i hj
    cases e : ρ[j]? with
    | none => rw [e] at h; cases h
    | some c0 =>
      rw [e] at h
      have h : bks c0 = c := Option.some.inj h
      subst h
      cases c0 with
      | bo d => exact .inr ⟨d, .inl rfl, rfl, hj⟩
      | fb d => exact .inr ⟨d, .inr rfl, rfl, hj⟩
      | _ => exact .inl rfl
  · cases h
theorem take_get {α : Type} {l : List α} {j : Nat} (h : j < n) : (l.take n)[j]? = l[j]? := by rw [List.getElem?_take, if_pos h]
theorem Rel.bks (R : Rel g σ H F ρ) (n : Nat) : Rel g (σ.take n) H F ((ρ.take n).map bks) := by
  refine ⟨by simp [R.len], fun j c d e o => ?_, fun j c d e o => ?_, fun j k c e x y b ne q1 q2 o1 o2 s1 => ?_, R.fz, R.tab⟩
  · rcases bks_get e with rfl | ⟨d', _, e, hj⟩
    · cases o
    · rw [take_get hj]; exact R.val j c d e o
  · rcases bks_get e with rfl | ⟨d', _, e, hj⟩
    · cases o
    · rw [take_get hj]; exact R.own j c d e o
  · rcases bks_get q1 with rfl | ⟨d', _, q1, hj⟩
    · cases o1
    · rcases bks_get q2 with rfl | ⟨d', _, q2, hk⟩
      · cases o2
      · rw [take_get hj] at s1
        rw [take_get hk]
        exact R.inj j k c e x y b ne q1 q2 o1 o2 s1
theorem own_bks (h : Own (σ.take n) ((ρ.take n).map bks) a) : Own σ ρ a := by
  obtain ⟨j, d, e, q⟩ := h
  have go : ∀ c, ((ρ.take n).map bks)[j]? = some c → c ≠ .un → ρ[j]? = some c ∧ σ[j]? = some (some (.ref a)) := fun c h n => by
    rcases bks_get h with h | ⟨_, _, h, hj⟩
    · exact absurd h n
    · exact ⟨h, by rw [← q, take_get hj]⟩
  rcases e with e | e
  · obtain ⟨e, q⟩ := go _ e nofun; exact ⟨j, d, .inl e, q⟩
  · obtain ⟨e, q⟩ := go _ e nofun; exact ⟨j, d, .inr e, q⟩
theorem held_bks (h : Held (σ.take n) ((ρ.take n).map bks) a) : ∃ (j : Nat) (d : D), ρ[j]? = some (.bo d) ∧ σ[j]? = some (some (.ref a)) := by
  obtain ⟨j, c, d, e, o, q⟩ := h.ob
  rcases bks_get e with rfl | ⟨d', hc, e, hj⟩
  · cases o
  · rw [take_get hj] at q
    rcases hc with rfl | rfl
    · exact ⟨j, d', e, q⟩
    · cases o
/-- from the body's run to the call's -/
theorem SF.bks {σs : Sg} {cs : Env} {k : Nat} (hl : σs.length = cs.length) (hn : cs.length = n) (nl : ∀ (j : Nat) (d : D), cs[j]? ≠ some (.lk d)) (s : SF (σs ++ List.replicate k none) (cs ++ List.replicate k .un) H F σ ρ H' F') : SF σs cs H F (σ.take n) ((ρ.take n).map bks) H' F' := by
  have pin : ∀ {j : Nat} {c : C}, cs[j]? = some c → (cs ++ List.replicate k C.un)[j]? = some c ∧ (σs ++ List.replicate k none)[j]? = σs[j]? ∧ j < n := fun {j c} e => by
    have hj := (List.getElem?_eq_some_iff.mp e).1
    exact ⟨by rw [List.getElem?_append_left hj]; exact e, List.getElem?_append_left (by omega), by omega⟩
  have fin : ∀ {j : Nat} {c : C}, ρ[j]? = some c → j < n → ((ρ.take n).map Mm.bks)[j]? = some (Mm.bks c) := fun {j c} e hj => by
    rw [List.getElem?_map, take_get hj, e]; rfl
  refine ⟨s.fr, fun a f => (s.new a f).imp id fun z => z.imp (own_more hl) id, fun a o e nn t => s.ob a o e (fun z => nn (own_more hl z)) t, s.there, fun a h => (s.own a (own_bks h)).imp (own_more hl) id, fun a h => ?_, fun j d e => ?_, fun j d e => ?_, fun j d e => ?_, ?_⟩
  · obtain ⟨j, d, e, q⟩ := held_bks h
    exact (s.held a (held_of e rfl q)).imp (held_more hl) id
  · obtain ⟨e1, e2, hj⟩ := pin e
    obtain ⟨⟨d', q⟩, z⟩ := s.bo j d e1
    rw [take_get hj, z, e2]
    refine ⟨⟨d', ?_⟩, rfl⟩
    rcases q with q | ⟨q, f⟩
    · exact .inl (fin q hj)
    · exact .inr ⟨fin q hj, fun a h => f a (by rw [e2]; exact h)⟩
  · obtain ⟨e1, e2, hj⟩ := pin e
    obtain ⟨q, z⟩ := s.fb j d e1
    rw [take_get hj, z, e2]
    exact ⟨fin q hj, rfl⟩
  · exact absurd e (nl j d)
  · have := s.len
    simp at this
    simp [this, hn]
/-- a def's result leaves it -/
theorem resR_ok {σs : Sg} {cs : Env} {k : Nat} {r' : R} (R : Rel g σ H' F' ρ) (hl : σs.length = cs.length) (Rs : Rel g σs H F cs) (nl : ∀ c ∈ cs, (∃ d, c = C.va d) ∨ ∃ d, c = C.bo d)
    (s : SF (σs ++ List.replicate k none) (cs ++ List.replicate k .un) H F σ ρ H' F') (x : RelR g σ H ρ H' F' v r) (e : resR ρ r = some (r', ρ')) :
    ∃ F2, Rel g σ H' F2 ρ' ∧ SF (σs ++ List.replicate k none) (cs ++ List.replicate k .un) H F σ ρ' H' F2 ∧ (∀ n, RelR g (σ.take n) H ((ρ'.take n).map bks) H' F2 v r') := by
  -- an object that this frame alone holds is none of the caller's
  have fresh : ∀ {j : Nat} {d : D} {a : Addr}, ρ[j]? = some (.ow d) → σ[j]? = some (some (.ref a)) → H a = none ∧ ∀ (k : Nat) (d : D), ρ[k]? = some (.bo d) → σ[k]? ≠ some (some (.ref a)) := fun {j d a} e q => by
    refine ⟨?_, fun k d' e' q' => R.inj j k _ _ _ _ a (fun z => by subst z; rw [e] at e'; cases e') e e' rfl rfl q q'⟩
    rcases s.held a (held_of e rfl q) with h | h
    · exfalso
      have h := held_more hl h
      obtain ⟨m, c, d', e', o, q'⟩ := h.ob
      have hm := (List.getElem?_eq_some_iff.mp e').1
      obtain ⟨c1, rfl⟩ : ∃ d, c = .bo d := by
        rcases nl c (List.mem_of_getElem? e') with ⟨d, rfl⟩ | ⟨d, rfl⟩
        · cases o
        · exact ⟨d, rfl⟩
      obtain ⟨⟨d2, e2⟩, z⟩ := s.bo m c1 (by rw [List.getElem?_append_left hm]; exact e')
      rw [List.getElem?_append_left (by omega), q'] at z
      rcases e2 with e2 | e2
      · exact R.inj j m _ _ _ _ a (fun w => by subst w; rw [e] at e2; cases e2) e e2 rfl rfl q z
      · obtain ⟨a', q3, nf, t⟩ := R.own j _ d e rfl
        rw [q] at q3; cases q3
        exact nf (e2.2 a (by rw [List.getElem?_append_left (by omega)]; exact q'))
    · exact h
  cases r with
  | va d =>
    cases e
    exact ⟨F', R, s, fun n => x⟩
  | ow d =>
    cases e
    obtain ⟨a, e, nf, nh, h0, t⟩ := x
    exact ⟨F', R, s, fun n => ⟨a, e, nf, fun z => nh (by obtain ⟨j, d, e, q⟩ := held_bks z; exact held_of e rfl q), h0, t⟩⟩
  | sl i =>
    have x : σ[i]? = some (some v) := x
    unfold resR at e
    cases hc : ρ[i]? with
    | none => simp [hc] at e
    | some c =>
      simp only [hc] at e
      cases c with
      | un => cases e
      | lk d => cases e
      | va d =>
        cases e
        obtain ⟨w, s1, z1⟩ := R.val i _ d hc rfl
        rw [x] at s1; cases s1
        exact ⟨F', R, s, fun n => z1⟩
      | fb d =>
        cases e
        obtain ⟨w, s1, z1⟩ := R.val i _ d hc rfl
        rw [x] at s1; cases s1
        exact ⟨F', R, s, fun n => z1⟩
      | ow d =>
        cases e
        obtain ⟨b, s1, nf, t⟩ := R.own i _ d hc rfl
        rw [x] at s1; cases s1
        obtain ⟨f1, f2⟩ := fresh hc x
        exact ⟨F', R, s, fun n => ⟨b, rfl, nf, fun z => by obtain ⟨j, d, e, q⟩ := held_bks z; exact f2 j d e q, f1, t⟩⟩
      | bo d =>
        have ef : frz (.sl i) ρ = some (d, ρ.set i (.fb d)) := by unfold frz; simp only [hc]
        cases e
        obtain ⟨F2, R2, s2, dv, up⟩ := frz_ok (r := .sl i) R s x ef
        exact ⟨F2, R2, s2, fun n => dv⟩
theorem start_eq {N : List Str} {vs : List V} {k : Nat} (h : N.length = vs.length + k) : L2.start N vs = vs.map some ++ List.replicate k none := by
  unfold L2.start
  rw [h, Nat.add_sub_cancel_left]
/-- a body's run is the promise -/
theorem spM_body {N : List Str} {vs : List V} {Q : VK} {k : Nat} (hN : N.length = n + k) (h : spM g (mDef n k mB') vs H Q E) : tS g E mB' { nx := fun _ H' => Q .non H', rt := Q } (L2.start N vs) H := by
  obtain ⟨cs, F, R, hcs, o, cs', e, h⟩ := h
  have hl : cs.length = vs.length := by rw [← R.len, List.length_map]
  unfold mDef at e
  by_cases hn : cs.length = n
  · rw [if_pos hn] at e
    have hst := start_eq (N := N) (vs := vs) (k := k) (by rw [hN, ← hn, hl])
    rw [hst]
    have nl : ∀ (j : Nat) (d : D), cs[j]? ≠ some (.lk d) := fun j d e => by
      rcases hcs _ (List.mem_of_getElem? e) with ⟨d, z⟩ | ⟨d, z⟩ <;> cases z
    refine ⟨_, F, R.more k, ?_⟩
    cases eb : mB' (cs ++ List.replicate k .un) with
    | none => rw [eb] at e; cases e
    | some z =>
      obtain ⟨z, ρ⟩ := z
      rw [eb] at e
      cases z with
      | error z =>
        cases e
        exact ⟨.error z, ρ, rfl, fun cls d σ' H' F' R' s' => h cls d _ H' F' (R'.bks n) (s'.bks R.len hn nl)⟩
      | ok f =>
        cases f with
        | nx =>
          cases e
          exact ⟨.ok .nx, ρ, rfl, fun σ' H' F' R' s' => h _ H' F' .non (R'.bks n) (s'.bks R.len hn nl) .non⟩
        | bk => cases e
        | ct => cases e
        | rt r =>
          simp only at e
          refine ⟨.ok (.rt r), ρ, rfl, fun σ' H' F' v R' s' x => ?_⟩
          cases er : resR ρ r with
          | none => rw [er] at e; cases e
          | some q =>
            obtain ⟨r', ρ'⟩ := q
            rw [er] at e
            cases e
            obtain ⟨F2, R2, s2, x2⟩ := resR_ok R' R.len R hcs s' x er
            exact h _ H' F2 v (R2.bks n) (s2.bks R.len hn nl) (x2 n)
  · rw [if_neg hn] at e; cases e
theorem spM_len {vs : List V} {Q : VK} {k : Nat} (h : spM g (mDef n k mB') vs H Q E) : vs.length = n := by
  obtain ⟨cs, F, R, hcs, o, cs', e, h⟩ := h
  have hl : cs.length = vs.length := by rw [← R.len, List.length_map]
  unfold mDef at e
  by_cases hn : cs.length = n
  · rw [← hl]; exact hn
  · rw [if_neg hn] at e; cases e
end
/-- .. of a def that raises nothing -/
def spM0 (g : Gr) (m : Fn) : Sp := fun vs H Q _ => spM g m vs H Q E0
/-- a def that raises nothing keeps its promise -/
theorem fnOk {P : Program} {w : World} {K : PySem.W.Frag} {mg : Str → Option Value} {base : Heap} {x qual : Str} {params : Arguments} {body : List Stmt} {scope : Scope} {f : Addr} {fd : FuncData} {N ps : List Str} {k n more : Nat} {g : Gr} {mb : MS}
    (Fd : FunD K x qual params body scope [] [] f fd) (S : FnScope N ps scope) (hn : ps.length = n) (hN : N.length = n + more)
    (hb : ∀ (cdv : Value) (A : Around) (outer : List PySem.Env) (s : Shared) (H : Hp) (E : XK), Room k (A.deeper (envOfC qual scope s.heap.objs.size f cdv)) → PSs (cxOf L2.CX0 P w K mg base N qual scope f cdv A outer s H E).nox body (tS g E0 mb)) :
    FnOk P w K mg base L2.CX0 (k + 1) f fd ps (spM0 g (mDef n more mb)) :=
  Fd.ok S (fun vs H Q E h => by rw [hn]; exact spM_len h) fun cdv A outer s H vs Q E hr h => ⟨_, PSs.nox (hb cdv A outer s H E hr), spM_body hN h⟩
end Mm
-- text S10
set_option Elab.async false
set_option linter.all false
set_option maxRecDepth 100000
/-! S10: calls of own defs. -/
namespace Mm
open PySem PySem.Spec PyProof.Rows L2
section
variable {g : Gr} {σ σ0 σ' σ1 σ2 : Sg} {H H' H0 H1 H2 : Hp} {F F0 F' F1 F2 : Addr → Prop} {ρ ρ0 ρ' ρ1 ρ2 : Env} {a D' : Addr} {v : V} {r : R} {d d' : D} {i n : Nat} {E : XK} {X : Cx} {x y tg : Expr} {pos p1 : Pos} {ma mb mc me : ME} {De : Ends} {u is : List Nat} {mB' : MS} {m : Fn} {es : List Expr} {ml : ML} {rs : List Ar} {cs : Env} {vs : List V}
theorem s_anil : PA X [] (tL g E mANil) := by
  refine PA.sub pa_nil fun σ H Q h => ?_
  obtain ⟨ρ, F, R, h⟩ := h
  exact h.ret R SF.refl [] .nil
theorem RelA.kept {r : Ar} (k : Keep H H' F F') (h : RelA g σ H F r v) : RelA g σ H' F' r v := by
  cases r with
  | va d => exact Dv.kept k h
  | sl i => exact h
theorem RelAs.kept (k : Keep H H' F F') (h : RelAs g σ H F rs vs) : RelAs g σ H' F' rs vs := by
  induction h with
  | nil => exact .nil
  | cons a _ ih => exact .cons (a.kept k) ih
theorem s_acons (ha : PE X x (tE g E ma)) (hb : PA X es (tL g E ml)) (hs : starEach (x :: es) X.env = (false, eval x X.env) :: starEach es X.env := by rfl) : PA X (x :: es) (tL g E (mACons ma ml)) := by
  refine PA.sub (pa_cons ha hb hs) fun σ H Q h => ?_
  obtain ⟨ρ, F, R, h⟩ := h
  refine ⟨ρ, F, R, (h.at SF.refl).mono fun p ρ1 H1 F1 R1 s1 h1 v rv => ⟨ρ1, F1, R1, (h1.2.at s1).mono fun rs ρ2 H2 F2 R2 s2 h2 vs rr => ?_⟩⟩
  obtain ⟨s, h2⟩ := h2
  have rv2 := rv.kept R1 s2
  cases p with
  | va d => exact h2.ret R2 s _ (.cons rv2 rr)
  | sl i => exact h2.ret R2 s _ (.cons rv2 rr)
  | ow d =>
    obtain ⟨a, rfl, n, nh, h0, t⟩ := rv2
    exact h2.ret (R2.freezeT nh t) (s.addF (.inr (.inr h0))) _ (.cons (t.fp.value (.inr rfl)) (rr.kept keepFp))
/-! ### what is lent -/
theorem mem_lent : ∀ {rs : List Ar}, i ∈ lent rs ↔ ∃ k : Nat, rs[k]? = some (.sl i)
  | [] => by simp [lent]
  | .va d :: rs => by
    rw [lent, mem_lent (rs := rs)]
    constructor
    · rintro ⟨k, h⟩; exact ⟨k + 1, by simpa using h⟩
    · rintro ⟨k, h⟩
      cases k with
      | zero => simp at h
      | succ k => exact ⟨k, by simpa using h⟩
  | .sl j :: rs => by
    rw [lent, List.mem_cons, mem_lent (rs := rs)]
    constructor
    · rintro (rfl | ⟨k, h⟩)
      · exact ⟨0, rfl⟩
      · exact ⟨k + 1, by simpa using h⟩
    · rintro ⟨k, h⟩
      cases k with
      | zero => simp at h; exact .inl h.symm
      | succ k => exact .inr ⟨k, by simpa using h⟩
theorem lent_inj : ∀ {rs : List Ar} {k l : Nat}, nodupN (lent rs) = true → rs[k]? = some (.sl i) → rs[l]? = some (.sl i) → k = l
  | [], k, l, _, h, _ => by simp at h
  | .va d :: rs, k, l, nd, h1, h2 => by
    cases k with
    | zero => simp at h1
    | succ k =>
      cases l with
      | zero => simp at h2
      | succ l => exact congrArg Nat.succ (lent_inj (rs := rs) (k := k) (l := l) nd (by simpa using h1) (by simpa using h2))
  | .sl j :: rs, k, l, nd, h1, h2 => by
    rw [lent, nodupN, Bool.and_eq_true] at nd
    have nj : ∀ k : Nat, rs[k]? ≠ some (.sl j) := fun k h => by
      have : j ∈ lent rs := mem_lent.mpr ⟨k, h⟩
      have h1 := nd.1
      simp at h1
      exact h1 this
    cases k with
    | zero =>
      simp at h1; subst h1
      cases l with
      | zero => rfl
      | succ l => exact absurd (by simpa using h2) (nj l)
    | succ k =>
      cases l with
      | zero =>
        simp at h2; subst h2
        exact absurd (by simpa using h1) (nj k)
      | succ l => exact congrArg Nat.succ (lent_inj (rs := rs) (k := k) (l := l) nd.2 (by simpa using h1) (by simpa using h2))
theorem argCs_get : ∀ {rs : List Ar} {cs : Env}, argCs ρ rs = some cs → rs.length = cs.length ∧ ∀ (k : Nat) (r : Ar), rs[k]? = some r → ∃ c, cs[k]? = some c ∧ argC ρ r = some c
  | [], cs, e => by
    cases e
    exact ⟨rfl, fun k r h => by simp at h⟩
  | r :: rs, cs, e => by
    rw [argCs] at e
    cases e1 : argC ρ r with
    | none => rw [e1] at e; simp at e
    | some c =>
      cases e2 : argCs ρ rs with
      | none => rw [e1, e2] at e; simp at e
      | some cs' =>
        rw [e1, e2] at e
        cases e
        obtain ⟨hl, h⟩ := argCs_get e2
        refine ⟨by simp [hl], fun k r' h' => ?_⟩
        cases k with
        | zero => simp at h'; subst h'; exact ⟨c, rfl, e1⟩
        | succ k => exact h k r' (by simpa using h')
theorem back_get : ∀ {rs : List Ar} {cs : Env} {ρ ρ2 : Env}, nodupN (lent rs) = true → back rs cs ρ = some ρ2 → ρ2.length = ρ.length ∧ ∀ i, (i ∉ lent rs → ρ2[i]? = ρ[i]?) ∧
      ∀ k : Nat, rs[k]? = some (.sl i) → ∃ c c0 c2, cs[k]? = some c ∧ ρ[i]? = some c0 ∧ back1v c0 c = some c2 ∧ ρ2[i]? = some c2
  | [], [], ρ, ρ2, _, e => by
    cases e
    exact ⟨rfl, fun i => ⟨fun _ => rfl, fun k h => by simp at h⟩⟩
  | [], _ :: _, ρ, ρ2, _, e => by cases e
  | .va d :: rs, [], ρ, ρ2, _, e => by cases e
  | .sl d :: rs, [], ρ, ρ2, _, e => by cases e
  | .va d :: rs, c :: cs, ρ, ρ2, nd, e => by
    obtain ⟨hl, h⟩ := back_get (rs := rs) (cs := cs) nd e
    refine ⟨hl, fun i => ⟨(h i).1, fun k hk => ?_⟩⟩
    cases k with
    | zero => simp at hk
    | succ k => simpa using (h i).2 k (by simpa using hk)
  | .sl j :: rs, c :: cs, ρ, ρ2, nd, e => by
    rw [lent, nodupN, Bool.and_eq_true] at nd
    have nj : j ∉ lent rs := by simpa using nd.1
    rw [back] at e
    unfold back1 at e
    cases e0 : ρ[j]? with
    | none => rw [e0] at e; cases e
    | some c0 =>
      rw [e0] at e
      simp only at e
      cases e1 : back1v c0 c with
      | none => rw [e1] at e; cases e
      | some c2 =>
        rw [e1] at e
        simp only at e
        have hj : j < ρ.length := (List.getElem?_eq_some_iff.mp e0).1
        obtain ⟨hl, h⟩ := back_get (rs := rs) (cs := cs) nd.2 e
        refine ⟨by rw [hl, List.length_set], fun i => ⟨fun hi => ?_, fun k hk => ?_⟩⟩
        · rw [lent, List.mem_cons, not_or] at hi
          rw [(h i).1 hi.2, List.getElem?_set_ne (Ne.symm hi.1)]
        · cases k with
          | zero =>
            simp at hk; subst hk
            exact ⟨c, c0, c2, rfl, e0, e1, by rw [(h j).1 nj, List.getElem?_set_self hj]⟩
          | succ k =>
            have hk' : rs[k]? = some (.sl i) := by simpa using hk
            have hij : i ≠ j := fun z => nj (mem_lent.mpr ⟨k, by rw [← z]; exact hk'⟩)
            obtain ⟨c', c0', c2', a1, a2, a3, a4⟩ := (h i).2 k hk'
            rw [List.getElem?_set_ne (Ne.symm hij)] at a2
            exact ⟨c', c0', c2', by simpa using a1, a2, a3, a4⟩
theorem relAs_get : ∀ {rs : List Ar} {vs : List V}, RelAs g σ H F rs vs → rs.length = vs.length ∧ ∀ (k : Nat) (r : Ar), rs[k]? = some r → ∃ v, vs[k]? = some v ∧ RelA g σ H F r v
  | _, _, .nil => ⟨rfl, fun k r h => by simp at h⟩
  | _, _, .cons a t => by
    obtain ⟨hl, h⟩ := relAs_get t
    refine ⟨by simp [hl], fun k r e => ?_⟩
    cases k with
    | zero => simp at e; subst e; exact ⟨_, rfl, a⟩
    | succ k => simpa using h k r (by simpa using e)
/-- the callee's view of its parameters -/
structure Args (g : Gr) (σ : Sg) (ρ : Env) (H : Hp) (F : Addr → Prop) (rs : List Ar) (vs : List V) (cs : Env) : Prop where
  rel : Rel g (vs.map some) H F cs
  isA : ∀ c ∈ cs, (∃ d, c = C.va d) ∨ ∃ d, c = C.bo d
  /-- a lent object is the slot's -/
  bo : ∀ (k : Nat) (d : D), cs[k]? = some (.bo d) → ∃ i c, rs[k]? = some (.sl i) ∧ ρ[i]? = some c ∧ (c = .ow d ∨ c = .bo d) ∧ ∀ a, (vs.map some)[k]? = some (some (.ref a)) ↔ σ[i]? = some (some (.ref a))
theorem args_ok (R : Rel g σ H F ρ) (ra : RelAs g σ H F rs vs) (nd : nodupN (lent rs) = true) (e : argCs ρ rs = some cs) : Args g σ ρ H F rs vs cs := by
  obtain ⟨l1, h1⟩ := relAs_get ra
  obtain ⟨l2, h2⟩ := argCs_get e
  -- place by place
  have at' : ∀ {k : Nat} {c : C}, cs[k]? = some c → ∃ r v, rs[k]? = some r ∧ (vs.map some)[k]? = some (some v) ∧ RelA g σ H F r v ∧ argC ρ r = some c := fun {k c} hc => by
    have hk : k < rs.length := by rw [l2]; exact (List.getElem?_eq_some_iff.mp hc).1
    have hr : rs[k]? = some rs[k] := List.getElem?_eq_getElem hk
    obtain ⟨c', e1, e2⟩ := h2 k _ hr
    rw [hc] at e1; cases e1
    obtain ⟨v, e3, e4⟩ := h1 k _ hr
    exact ⟨_, v, hr, by rw [List.getElem?_map, e3]; rfl, e4, e2⟩
  have kind : ∀ {k : Nat} {c : C}, cs[k]? = some c → (∃ d v, c = .va d ∧ (vs.map some)[k]? = some (some v) ∧ Dv g H F d v) ∨ ∃ d i c0 a, c = .bo d ∧ rs[k]? = some (.sl i) ∧ ρ[i]? = some c0 ∧ (c0 = .ow d ∨ c0 = .bo d) ∧ isOb c0 = some d ∧ (vs.map some)[k]? = some (some (.ref a)) ∧ σ[i]? = some (some (.ref a)) ∧ ¬ F a ∧ Top g H F a d := fun {k c} hc => by
    obtain ⟨r, v, hr, hv, ra, ea⟩ := at' hc
    cases r with
    | va d => cases ea; exact .inl ⟨d, v, rfl, hv, ra⟩
    | sl i =>
      have ra : σ[i]? = some (some v) := ra
      unfold argC at ea
      cases e0 : ρ[i]? with
      | none => simp [e0] at ea
      | some c0 =>
        simp only [e0] at ea
        cases c0 with
        | un => cases ea
        | lk d => cases ea
        | va d =>
          cases ea
          obtain ⟨w, s1, z⟩ := R.val i _ d e0 rfl
          rw [ra] at s1; cases s1
          exact .inl ⟨d, _, rfl, hv, z⟩
        | fb d =>
          cases ea
          obtain ⟨w, s1, z⟩ := R.val i _ d e0 rfl
          rw [ra] at s1; cases s1
          exact .inl ⟨d, _, rfl, hv, z⟩
        | ow d =>
          cases ea
          obtain ⟨b, s1, nf, t⟩ := R.own i _ d e0 rfl
          rw [ra] at s1; cases s1
          exact .inr ⟨d, i, _, b, rfl, hr, e0, .inl rfl, rfl, hv, ra, nf, t⟩
        | bo d =>
          cases ea
          obtain ⟨b, s1, nf, t⟩ := R.own i _ d e0 rfl
          rw [ra] at s1; cases s1
          exact .inr ⟨d, i, _, b, rfl, hr, e0, .inr rfl, rfl, hv, ra, nf, t⟩
  refine ⟨⟨by rw [List.length_map, ← l1, l2], fun k c d hc o => ?_, fun k c d hc o => ?_, fun j k c e x y b ne q1 q2 o1 o2 s1 => ?_, R.fz, R.tab⟩, fun c hc => ?_, fun k d hc => ?_⟩
  · rcases kind hc with ⟨d', v, rfl, hv, z⟩ | ⟨d', i, c0, a, rfl, _⟩
    · cases o; exact ⟨v, hv, z⟩
    · cases o
  · rcases kind hc with ⟨d', v, rfl, hv, z⟩ | ⟨d', i, c0, a, rfl, _, _, _, _, hv, _, nf, t⟩
    · cases o
    · cases o; exact ⟨a, hv, nf, t⟩
  · rcases kind q1 with ⟨d', v, rfl, hv, z⟩ | ⟨d', i, c0, a, rfl, r1, e1, _, b1, v1, t1, _⟩
    · cases o1
    · rcases kind q2 with ⟨d'', v, rfl, hv, z⟩ | ⟨d'', i', c0', a', rfl, r2, e2, _, b2, v2, t2, _⟩
      · cases o2
      · rw [v1] at s1; cases s1
        intro s2
        rw [v2] at s2; cases s2
        have : i ≠ i' := fun z => by subst z; exact ne (lent_inj nd r1 r2)
        exact R.inj i i' c0 c0' _ _ _ this e1 e2 b1 b2 t1 t2
  · obtain ⟨k, hk⟩ := List.getElem?_of_mem hc
    rcases kind hk with ⟨d', v, h, _⟩ | ⟨d', i, c0, a, h, _⟩
    · exact .inl ⟨d', h⟩
    · exact .inr ⟨d', h⟩
  · rcases kind hc with ⟨d', v, h, _⟩ | ⟨d', i, c0, a, h, r1, e1, hc0, b1, v1, t1, _⟩
    · cases h
    · cases h
      exact ⟨i, c0, r1, e1, hc0, fun b => by rw [v1, t1]⟩
theorem Args.own (A : Args g σ ρ H F rs vs cs) (h : Own (vs.map some) cs a) : Own σ ρ a ∧ ∃ i, i ∈ lent rs ∧ σ[i]? = some (some (.ref a)) := by
  obtain ⟨k, d, e, q⟩ := h
  have e : cs[k]? = some (.bo d) := by
    rcases e with e | e
    · rcases A.isA _ (List.mem_of_getElem? e) with ⟨d, z⟩ | ⟨d, z⟩ <;> cases z
    · exact e
  obtain ⟨i, c, r1, e1, hc, hv⟩ := A.bo k d e
  have q' := (hv a).mp q
  refine ⟨?_, i, mem_lent.mpr ⟨k, r1⟩, q'⟩
  rcases hc with rfl | rfl
  · exact ⟨i, d, .inl e1, q'⟩
  · exact ⟨i, d, .inr e1, q'⟩
theorem back1v_ob {c0 c c2 : C} (h : back1v c0 c = some c2) (o : isOb c2 = some d) : ∃ d0, (c0 = .ow d0 ∧ c2 = .ow d ∨ c0 = .bo d0 ∧ c2 = .bo d) ∧ c = .bo d := by
  cases c0 <;> cases c <;> simp [back1v] at h <;> subst h <;> simp [isOb] at o <;> subst o
  · exact ⟨_, .inl ⟨rfl, rfl⟩, rfl⟩
  · exact ⟨_, .inr ⟨rfl, rfl⟩, rfl⟩
/-- behind a call -/
theorem back_ok {cs' : Env} {σ' : Sg} (R : Rel g σ H F ρ) (A : Args g σ ρ H F rs vs cs) (nd : nodupN (lent rs) = true) (ec : argCs ρ rs = some cs) (R' : Rel g σ' H' F' cs') (s : SF (vs.map some) cs H F σ' cs' H' F') (e : back rs cs' ρ = some ρ2) :
    Rel g σ H' F' ρ2 ∧ SF σ ρ H F σ ρ2 H' F' ∧ ∀ a, Held σ ρ2 a → Held σ ρ a := by
  obtain ⟨hl, hb⟩ := back_get nd e
  obtain ⟨_, hcs⟩ := argCs_get ec
  have kp : Keep H H' F F' := s.keep A.rel
  -- what a slot not lent holds is not the callee's
  have notC : ∀ {j : Nat} {c : C} {d : D} {a : Addr}, j ∉ lent rs → ρ[j]? = some c → isOb c = some d → σ[j]? = some (some (.ref a)) → ¬ Own (vs.map some) cs a := fun {j c d a} nj e o q h => by
    obtain ⟨k, d', e', q'⟩ := h
    have e' : cs[k]? = some (.bo d') := by
      rcases e' with e' | e'
      · rcases A.isA _ (List.mem_of_getElem? e') with ⟨d, z⟩ | ⟨d, z⟩ <;> cases z
      · exact e'
    obtain ⟨i, c1, r1, e1, hc1, hv⟩ := A.bo k d' e'
    have o1 : isOb c1 = some d' := by rcases hc1 with rfl | rfl <;> rfl
    exact R.inj j i c c1 d d' a (fun z => nj (by rw [z]; exact mem_lent.mpr ⟨k, r1⟩)) e e1 o o1 q ((hv a).mp q')
  -- a lent slot behind the call
  have lentC : ∀ {j : Nat} {c2 : C}, j ∈ lent rs → ρ2[j]? = some c2 → ∃ (k : Nat) (c c0 : C), rs[k]? = some (Ar.sl j) ∧ cs'[k]? = some c ∧ ρ[j]? = some c0 ∧ back1v c0 c = some c2 := fun {j c2} hj e2 => by
    obtain ⟨k, hk⟩ := mem_lent.mp hj
    obtain ⟨c, c0, c2', a1, a2, a3, a4⟩ := (hb j).2 k hk
    rw [e2] at a4; cases a4
    exact ⟨k, c, c0, hk, a1, a2, a3⟩
  -- the callee's slot of a lent own object
  have slotC : ∀ {j k : Nat} {d : D} {c0 : C}, rs[k]? = some (.sl j) → ρ[j]? = some c0 → (c0 = .ow d ∨ c0 = .bo d) → cs[k]? = some (.bo d) ∧ (∀ a, (vs.map some)[k]? = some (some (.ref a)) ↔ σ[j]? = some (some (.ref a))) ∧ σ'[k]? = (vs.map some)[k]? ∧
      ∃ d', cs'[k]? = some (.bo d') ∨ (cs'[k]? = some (.fb d') ∧ ∀ a : Addr, (vs.map some)[k]? = some (some (.ref a)) → F' a) := fun {j k d c0} hk e0 hc => by
    obtain ⟨c, e1, e2⟩ := hcs k _ hk
    unfold argC at e2
    simp only [e0] at e2
    have : c = .bo d := by rcases hc with rfl | rfl <;> simp at e2 <;> exact e2.symm
    subst this
    obtain ⟨i, c1, r1, e3, hc1, hv⟩ := A.bo k d e1
    rw [hk] at r1; cases r1
    obtain ⟨q, z⟩ := s.bo k d e1
    exact ⟨e1, hv, z, q⟩
  have ownBack : ∀ {a}, Own σ ρ2 a → Own σ ρ a := fun {a} h => by
    obtain ⟨j, d, e, q⟩ := h
    have go : ∀ c, ρ2[j]? = some c → (c = .ow d ∨ c = .bo d) → Own σ ρ a := fun c e hc => by
      by_cases hj : j ∈ lent rs
      · obtain ⟨k, c', c0, hk, a1, a2, a3⟩ := lentC hj e
        have o : isOb c = some d := by rcases hc with rfl | rfl <;> rfl
        obtain ⟨d0, hd, _⟩ := back1v_ob a3 o
        rcases hd with ⟨rfl, _⟩ | ⟨rfl, _⟩
        · exact ⟨j, d0, .inl a2, q⟩
        · exact ⟨j, d0, .inr a2, q⟩
      · rw [(hb j).1 hj] at e
        rcases hc with rfl | rfl
        · exact ⟨j, d, .inl e, q⟩
        · exact ⟨j, d, .inr e, q⟩
    rcases e with e | e
    · exact go _ e (.inl rfl)
    · exact go _ e (.inr rfl)
  have heldBack : ∀ {a}, Held σ ρ2 a → Held σ ρ a := fun {a} h => by
    obtain ⟨j, c, d, e, o, q⟩ := h.ob
    by_cases hj : j ∈ lent rs
    · obtain ⟨k, c', c0, hk, a1, a2, a3⟩ := lentC hj e
      obtain ⟨d0, hd, _⟩ := back1v_ob a3 o
      rcases hd with ⟨rfl, _⟩ | ⟨rfl, _⟩
      · exact held_of a2 rfl q
      · exact held_of a2 rfl q
    · rw [(hb j).1 hj] at e
      exact held_of e o q
  refine ⟨⟨by rw [hl]; exact R.len, fun j c d e o => ?_, fun j c d e o => ?_, fun j k c e x y b ne q1 q2 o1 o2 s1 => ?_, R'.fz, R'.tab⟩, ⟨s.fr, fun a f => (s.new a f).imp id fun z => z.imp (fun z => (A.own z).1) id, fun a o e n t => s.ob a o e (fun z => n (A.own z).1) t, s.there, fun a h => .inl (ownBack h), fun a h => .inl (heldBack h), fun j d e => ⟨?_, rfl⟩, fun j d e => ⟨?_, rfl⟩, fun j d e => ⟨?_, rfl⟩, hl⟩, fun a h => heldBack h⟩
  · by_cases hj : j ∈ lent rs
    · obtain ⟨k, c', c0, hk, a1, a2, a3⟩ := lentC hj e
      have go : ∀ d0, (c0 = .ow d0 ∨ c0 = .bo d0) → c' = .fb d → ∃ v, σ[j]? = some (some v) ∧ Dv g H' F' d v := fun d0 h0 hc' => by
        subst hc'
        obtain ⟨_, hv, hz, _⟩ := slotC hk a2 h0
        obtain ⟨v, q, z⟩ := R'.val k _ d a1 rfl
        rw [hz] at q
        obtain ⟨b, sb, _⟩ := R.own j c0 d0 a2 (by rcases h0 with rfl | rfl <;> rfl)
        have q' := (hv b).mpr sb
        rw [q] at q'; cases q'
        exact ⟨_, sb, z⟩
      cases c0 with
      | va d0 =>
        simp [back1v] at a3; subst a3; cases o
        obtain ⟨v, q, z⟩ := R.val j _ d a2 rfl
        exact ⟨v, q, z.kept kp⟩
      | fb d0 =>
        simp [back1v] at a3; subst a3; cases o
        obtain ⟨v, q, z⟩ := R.val j _ d a2 rfl
        exact ⟨v, q, z.kept kp⟩
      | ow d0 => cases c' <;> simp [back1v] at a3 <;> subst a3 <;> cases o; exact go d0 (.inl rfl) rfl
      | bo d0 => cases c' <;> simp [back1v] at a3 <;> subst a3 <;> cases o; exact go d0 (.inr rfl) rfl
      | un => simp [back1v] at a3
      | lk _ => simp [back1v] at a3
    · rw [(hb j).1 hj] at e
      obtain ⟨v, q, z⟩ := R.val j c d e o
      exact ⟨v, q, z.kept kp⟩
  · by_cases hj : j ∈ lent rs
    · obtain ⟨k, c', c0, hk, a1, a2, a3⟩ := lentC hj e
      obtain ⟨d0, hd, hc'⟩ := back1v_ob a3 o
      have h0 : c0 = .ow d0 ∨ c0 = .bo d0 := by
        rcases hd with ⟨h, _⟩ | ⟨h, _⟩
        · exact .inl h
        · exact .inr h
      subst hc'
      obtain ⟨_, hv, hz, _⟩ := slotC hk a2 h0
      obtain ⟨b, q, nf, t⟩ := R'.own k _ d a1 rfl
      rw [hz] at q
      exact ⟨b, (hv b).mp q, nf, t⟩
    · rw [(hb j).1 hj] at e
      obtain ⟨b, q, nf, t⟩ := R.own j c d e o
      obtain ⟨ob, eo, _, _, nt⟩ := t.there
      have nc := notC hj e o q
      refine ⟨b, q, fun f => ?_, t.kept kp fun o' e' => ?_⟩
      · rcases s.new b f with z | z | z
        · exact nf z
        · exact nc z
        · rw [eo] at z; cases z
      · rw [eo] at e'; cases e'
        exact s.ob b _ eo nc nt
  · have old : ∀ {j : Nat} {c : C} {d : D}, ρ2[j]? = some c → isOb c = some d → ∃ c0 d0, ρ[j]? = some c0 ∧ isOb c0 = some d0 := fun {j c d} e o => by
      by_cases hj : j ∈ lent rs
      · obtain ⟨k, c', c0, hk, a1, a2, a3⟩ := lentC hj e
        obtain ⟨d0, hd, _⟩ := back1v_ob a3 o
        rcases hd with ⟨rfl, _⟩ | ⟨rfl, _⟩
        · exact ⟨_, d0, a2, rfl⟩
        · exact ⟨_, d0, a2, rfl⟩
      · rw [(hb j).1 hj] at e
        exact ⟨_, d, e, o⟩
    obtain ⟨c0, d0, e1, o1'⟩ := old q1 o1
    obtain ⟨c1, d1, e2, o2'⟩ := old q2 o2
    exact R.inj j k c0 c1 d0 d1 b ne e1 e2 o1' o2' s1
  · by_cases hj : j ∈ lent rs
    · obtain ⟨k, hk⟩ := mem_lent.mp hj
      obtain ⟨c, c0, c2, a1, a2, a3, a4⟩ := (hb j).2 k hk
      rw [e] at a2; cases a2
      obtain ⟨_, hv, hz, d', q⟩ := slotC hk e (.inr rfl)
      rcases q with q | ⟨q, f⟩
      · rw [a1] at q; cases q
        simp [back1v] at a3; subst a3
        exact ⟨_, .inl a4⟩
      · rw [a1] at q; cases q
        simp [back1v] at a3; subst a3
        exact ⟨_, .inr ⟨a4, fun a h => f a ((hv a).mpr h)⟩⟩
    · rw [(hb j).1 hj]; exact ⟨d, .inl e⟩
  · by_cases hj : j ∈ lent rs
    · obtain ⟨k, hk⟩ := mem_lent.mp hj
      obtain ⟨c, c0, c2, a1, a2, a3, a4⟩ := (hb j).2 k hk
      rw [e] at a2; cases a2
      simp [back1v] at a3; subst a3
      exact a4
    · rw [(hb j).1 hj]; exact e
  · by_cases hj : j ∈ lent rs
    · obtain ⟨k, hk⟩ := mem_lent.mp hj
      obtain ⟨c, c0, c2, a1, a2, a3, a4⟩ := (hb j).2 k hk
      rw [e] at a2; cases a2
      simp [back1v] at a3
    · rw [(hb j).1 hj]; exact e
theorem callT {Q : VK} (h : tE g E (mCall m ml) σ H Q) : tL g E ml σ H fun vs H1 => spM g m vs H1 Q E := by
  obtain ⟨ρ, F, R, h⟩ := h
  refine ⟨ρ, F, R, (h.at SF.refl).mono fun rs ρ1 H1 F1 R1 s1 h1 vs ra => ?_⟩
  obtain ⟨s, h1⟩ := h1
  cases nd : nodupN (lent rs) with
  | false => rw [nd] at h1; exact h1.no.elim
  | true =>
    rw [nd] at h1
    simp only [if_true] at h1
    cases ec : argCs ρ1 rs with
    | none => rw [ec] at h1; exact h1.no.elim
    | some cs =>
      rw [ec] at h1
      simp only at h1
      have A := args_ok R1 ra nd ec
      cases em : m cs with
      | none => rw [em] at h1; exact h1.no.elim
      | some z =>
        obtain ⟨z, cs'⟩ := z
        rw [em] at h1
        cases z with
        | error z =>
          simp only at h1
          refine ⟨cs, F1, A.rel, A.isA, .error z, cs', em, fun cls d σ' H' F' R' s' ex => ?_⟩
          cases hb : cs.any isBo with
          | true => rw [hb] at h1; exact h1.no.elim
          | false =>
            rw [hb] at h1
            simp only [Bool.false_eq_true, if_false] at h1
            obtain ⟨o, ρ3, e, h1⟩ := h1
            cases e
            have no : ∀ a, ¬ Own (vs.map some) cs a := fun a ⟨k, d, e, _⟩ => by
              rw [List.any_eq_false] at hb
              rcases e with e | e
              · rcases A.isA _ (List.mem_of_getElem? e) with ⟨d, z⟩ | ⟨d, z⟩ <;> cases z
              · exact hb _ (List.mem_of_getElem? e) rfl
            have kp : Keep H1 H' F1 F' := s'.keep A.rel
            refine h1 cls d H' F' ⟨R1.len, fun j c d e o => let ⟨v, q, z⟩ := R1.val j c d e o; ⟨v, q, z.kept kp⟩, fun j c d e o => ?_, R1.inj, R'.fz, R'.tab⟩ (s.trans ⟨s'.fr, fun a f => (s'.new a f).imp id fun z => z.elim (fun z => absurd z (no a)) .inr, fun a o e n t => s'.ob a o e (no a) t, s'.there, fun a h => .inl h, fun a h => .inl h, fun j d e => ⟨⟨d, .inl e⟩, rfl⟩, fun j d e => ⟨e, rfl⟩, fun j d e => ⟨e, rfl⟩, rfl⟩) ex
            obtain ⟨b, q, nf, t⟩ := R1.own j c d e o
            obtain ⟨ob, eo, _, _, nt⟩ := t.there
            refine ⟨b, q, fun f => ?_, t.kept kp fun o' e' => ?_⟩
            · rcases s'.new b f with z | z | z
              · exact nf z
              · exact no b z
              · rw [eo] at z; cases z
            · rw [eo] at e'; cases e'
              exact s'.ob b _ eo (no b) nt
        | ok r =>
          simp only at h1
          refine ⟨cs, F1, A.rel, A.isA, .ok r, cs', em, fun σ' H' F' v R' s' x => ?_⟩
          cases eb : back rs cs' ρ1 with
          | none => rw [eb] at h1; exact h1.no.elim
          | some ρ2 =>
            rw [eb] at h1
            simp only at h1
            obtain ⟨R2, s2, hbk⟩ := back_ok R1 A nd ec R' s' eb
            cases r with
            | sl i => exact h1.no.elim
            | va d => exact h1.ret R2 (s.trans s2) v x
            | ow d =>
              obtain ⟨b, e, nf, nh, h0, t⟩ := x
              refine h1.ret R2 (s.trans s2) v ⟨b, e, nf, fun z => ?_, s.none_of h0, t⟩
              obtain ⟨_, d', t'⟩ := R1.top (hbk b z)
              obtain ⟨o, eo, _⟩ := t'.there
              rw [h0] at eo; cases eo
variable {CX : CXT} {k : Nat} {f : Addr} {fd : FuncData} {ps : List Str} {n' : Str}
theorem s_call0 (Fo : FnOk X.prog X.w X.K X.mg X.base CX k f fd ps (spM0 g m)) (hr : Room k X.A) (hg : Gl X n') (hm : X.mg n' = some (.ref f)) (hk : PySem.W.keepIn X.K (.ref f) = true) (hb : Binds X.K fd ps []) (hx : Passes CX X E0)
    (ha : PA X (x :: es) (tL g E0 ml)) (hdb : (n' == ("__debug__" : Str)) = false := by decide) (he : starEach (x :: es) X.env = (false, eval x X.env) :: starEach es X.env := by rfl) (hpl : (backTo pos (starEach es X.env)).any (·.1) = false := by rfl) :
    PE X (.Call (.Name n' p1) (x :: es) [] pos) (tE g E0 (mCall m ml)) :=
  PE.sub (pe_call (E := E0) (dvs := []) Fo hr hg hm hk hb .nil hx ha hdb he hpl) fun σ H Q h => by
    obtain ⟨ρ, F, R, h⟩ := callT h
    exact ⟨ρ, F, R, h.mono fun rs ρ' H' F' _ _ q vs ra => by show spM0 g m (vs ++ []) H' Q E0; rw [List.append_nil]; exact q vs ra⟩
theorem s_call00 (Fo : FnOk X.prog X.w X.K X.mg X.base CX k f fd ps (spM0 g m)) (hr : Room k X.A) (hg : Gl X n') (hm : X.mg n' = some (.ref f)) (hk : PySem.W.keepIn X.K (.ref f) = true) (hb : Binds X.K fd ps []) (hx : Passes CX X E0)
    (hdb : (n' == ("__debug__" : Str)) = false := by decide) :
    PE X (.Call (.Name n' p1) [] [] pos) (tE g E0 (mCall m mANil)) :=
  PE.sub (pe_call0 (E := E0) (dvs := []) Fo hr hg hm hk hb .nil hx hdb) fun σ H Q h => by
    obtain ⟨ρ, F, R, h⟩ := callT h
    have := h.ret R SF.refl [] .nil
    exact this
end
end Mm
-- text S11
set_option Elab.async false
set_option linter.all false
set_option maxRecDepth 100000
/-! S11: what operators do. -/
namespace Mm
open PySem PySem.Spec PyProof.Rows L2
/-! ### deep values as data -/
mutual
def toP : D → PyData
  | .non => .none
  | .bl b => .bool b
  | .int i => .int i
  | .str x => .str x
  | .tup l => .tuple (toPs l)
  | .lst l => .list (toPs l)
  | .dic _ => .dict []
  | .obj _ => .dict []
  | .scr _ => .dict []
def toPs : List D → List PyData
  | [] => []
  | x :: xs => toP x :: toPs xs
end
mutual
theorem eqb_eqv : ∀ a b : D, D.eqb a b = PyData.eqv (toP a) (toP b)
  | .tup xs, b => by cases b <;> simp [D.eqb, PyData.eqv, toP, eqbL_eqv xs]
  | .lst xs, b => by cases b <;> simp [D.eqb, PyData.eqv, toP, eqbL_eqv xs]
  | .non, b => by cases b <;> simp [D.eqb, PyData.eqv, toP]
  | .bl _, b => by cases b <;> simp [D.eqb, PyData.eqv, toP, b2i]
  | .int _, b => by cases b <;> simp [D.eqb, PyData.eqv, toP, b2i]
  | .str _, b => by cases b <;> simp [D.eqb, PyData.eqv, toP]
  | .dic _, b => by cases b <;> simp [D.eqb, PyData.eqv, toP]
  | .obj _, b => by cases b <;> simp [D.eqb, PyData.eqv, toP]
  | .scr _, b => by cases b <;> simp [D.eqb, PyData.eqv, toP]
theorem eqbL_eqv : ∀ a b : List D, D.eqbL a b = PyData.eqvAll (toPs a) (toPs b)
  | [], [] => by simp [D.eqbL, PyData.eqvAll, toPs]
  | [], _ :: _ => by simp [D.eqbL, PyData.eqvAll, toPs]
  | _ :: _, [] => by simp [D.eqbL, PyData.eqvAll, toPs]
  | x :: xs, y :: ys => by simp [D.eqbL, PyData.eqvAll, toPs, eqb_eqv x y, eqbL_eqv xs ys]
end
mutual
theorem alk_alike : ∀ a b : D, D.alk a b = PySem.W.alike (toP a) (toP b)
  | .tup xs, b => by cases b <;> simp [D.alk, PySem.W.alike, toP, alkL_alike xs]
  | .lst xs, b => by cases b <;> simp [D.alk, PySem.W.alike, toP, alkL_alike xs]
  | .non, b => by cases b <;> simp [D.alk, PySem.W.alike, toP]
  | .bl _, b => by cases b <;> simp [D.alk, PySem.W.alike, toP]
  | .int _, b => by cases b <;> simp [D.alk, PySem.W.alike, toP]
  | .str _, b => by cases b <;> simp [D.alk, PySem.W.alike, toP]
  | .dic _, b => by cases b <;> simp [D.alk, PySem.W.alike, toP]
  | .obj _, b => by cases b <;> simp [D.alk, PySem.W.alike, toP]
  | .scr _, b => by cases b <;> simp [D.alk, PySem.W.alike, toP]
theorem alkL_alike : ∀ a b : List D, D.alkL a b = PySem.W.alikeAll (toPs a) (toPs b)
  | [], [] => by simp [D.alkL, PySem.W.alikeAll, toPs]
  | [], _ :: _ => by simp [D.alkL, PySem.W.alikeAll, toPs]
  | _ :: _, [] => by simp [D.alkL, PySem.W.alikeAll, toPs]
  | x :: xs, y :: ys => by simp [D.alkL, PySem.W.alikeAll, toPs, alk_alike x y, alkL_alike xs ys]
end
mutual
theorem pl_lay : ∀ a : D, D.pl a = true → (toP a).canLay0 = true ∧ (toP a).depth = D.dep a ∧ (toP a).plain = true
  | .tup xs, h => by
    obtain ⟨a, b, c⟩ := plL_lay xs (by simpa [D.pl] using h)
    exact ⟨by simpa [toP, PyData.canLay0] using a, by simp [toP, PyData.depth, D.dep, b], by simpa [toP, PyData.plain] using c⟩
  | .lst xs, h => by
    obtain ⟨a, b, c⟩ := plL_lay xs (by simpa [D.pl] using h)
    exact ⟨by simpa [toP, PyData.canLay0] using a, by simp [toP, PyData.depth, D.dep, b], by simpa [toP, PyData.plain] using c⟩
  | .non, _ => by simp [toP, PyData.canLay0, PyData.depth, D.dep, PyData.plain]
  | .bl _, _ => by simp [toP, PyData.canLay0, PyData.depth, D.dep, PyData.plain]
  | .int _, _ => by simp [toP, PyData.canLay0, PyData.depth, D.dep, PyData.plain]
  | .str x, h => by
    refine ⟨?_, by simp [toP, PyData.depth, D.dep], by simp [toP, PyData.plain]⟩
    simp only [toP, PyData.canLay0]
    simpa [D.pl, PyData.strOk] using h
  | .dic _, h => by simp [D.pl] at h
  | .obj _, h => by simp [D.pl] at h
  | .scr _, h => by simp [D.pl] at h
theorem plL_lay : ∀ a : List D, D.plL a = true → PyData.canLayAll0 (toPs a) = true ∧ PyData.depthAll (toPs a) = D.depL a ∧ PyData.plainAll (toPs a) = true
  | [], _ => by simp [toPs, PyData.canLayAll0, PyData.depthAll, D.depL, PyData.plainAll]
  | x :: xs, h => by
    simp only [D.plL, Bool.and_eq_true] at h
    obtain ⟨a1, b1, c1⟩ := pl_lay x h.1
    obtain ⟨a2, b2, c2⟩ := plL_lay xs h.2
    simp [toPs, PyData.canLayAll0, PyData.depthAll, D.depL, PyData.plainAll, a1, a2, b1, b2, c1, c2]
end
theorem natsLt_iff : ∀ a b : List Nat, natsLt a b = decide (a < b)
  | [], [] => by simp [natsLt]
  | [], _ :: _ => by simp [natsLt]
  | _ :: _, [] => by simp [natsLt]
  | x :: xs, y :: ys => by
    rw [natsLt, natsLt_iff xs ys]
    by_cases h : x = y
    · subst h
      rw [if_pos rfl]
      simp [List.cons_lt_cons_iff]
    · rw [if_neg h]
      simp [List.cons_lt_cons_iff, h]
mutual
theorem ltb_data : ∀ a b : D, D.alk a b = true → D.ltb a b = PySem.W.dataLt (toP a) (toP b)
  | .bl a, b, h => by
    cases b with
    | bl c =>
      simp only [toP, D.ltb]
      rw [PySem.W.dataLt_bool]
      cases a <;> cases c <;> decide
    | _ => simp [D.alk] at h
  | .int a, b, h => by
    cases b with
    | int c => simp only [toP, D.ltb]; rw [PySem.W.dataLt_int]
    | _ => simp [D.alk] at h
  | .str a, b, h => by
    cases b with
    | str c => simp only [toP, D.ltb]; rw [PySem.W.dataLt_str, natsLt_iff]
    | _ => simp [D.alk] at h
  | .tup xs, b, h => by
    cases b with
    | tup ys => simp only [toP, D.ltb]; rw [PySem.W.dataLt_tuple, ltbL_data xs ys (by simpa [D.alk] using h)]
    | _ => simp [D.alk] at h
  | .lst xs, b, h => by
    cases b with
    | lst ys => simp only [toP, D.ltb]; rw [PySem.W.dataLt_list, ltbL_data xs ys (by simpa [D.alk] using h)]
    | _ => simp [D.alk] at h
  | .non, b, h => by
    cases b with
    | non => decide
    | _ => simp [D.alk] at h
  | .dic _, b, h => by cases b <;> simp [D.alk] at h
  | .obj _, b, h => by cases b <;> simp [D.alk] at h
  | .scr _, b, h => by cases b <;> simp [D.alk] at h
theorem ltbL_data : ∀ xs ys : List D, D.alkL xs ys = true → D.ltbL xs ys = PyProof.Rows.lexLt itemOrd (PySem.W.keyToksAll (toPs xs)) (PySem.W.keyToksAll (toPs ys))
  | [], [], _ => by decide
  | [], y :: ys, _ => by
    simp only [D.ltbL, toPs, PySem.W.toks_all_cons]
    rw [show PySem.W.keyToksAll [] = [Sum.inl 0] from by rw [PySem.W.keyToksAll], PySem.W.lex_atom (by decide), PySem.W.lex_one]
    decide
  | x :: xs, [], _ => by
    simp only [D.ltbL, toPs, PySem.W.toks_all_cons]
    rw [show PySem.W.keyToksAll [] = [Sum.inl 0] from by rw [PySem.W.keyToksAll], PySem.W.lex_atom (by decide), PySem.W.lex_one]
    decide
  | x :: xs, y :: ys, h => by
    simp only [D.alkL, Bool.and_eq_true] at h
    simp only [D.ltbL, toPs]
    have ha : PySem.W.alike (toP x) (toP y) = true := by rw [← alk_alike]; exact h.1
    cases e : D.eqb x y with
    | true =>
      rw [PySem.W.dataLt_all_yes ha (by rw [← eqb_eqv]; exact e), ← ltbL_data xs ys h.2]
      simp
    | false =>
      rw [PySem.W.dataLt_all_no ha (by rw [← eqb_eqv]; exact e), ← ltb_data x y h.1]
      simp
end
/-! ### what is read as data -/
section
variable {g : Gr} {σ σ0 σ' σ1 σ2 : Sg} {H H' H0 H1 H2 : Hp} {F F0 F' : Addr → Prop} {ρ ρ0 ρ' ρ1 ρ2 : Env} {a : Addr} {v : V} {r : R} {d d' : D} {i n : Nat} {E : XK} {X : Cx} {x y : V}
theorem Dv.pl_dp (h : Dv g H F d v) : D.pl d = true → Dp g.K H v (toP d) :=
  Dv.rec (motive_1 := fun d v _ => D.pl d = true → Dp g.K H v (toP d)) (motive_2 := fun l vs _ => D.plL l = true → DpAll g.K H vs (toPs l)) (motive_3 := fun _ _ _ => True)
    (fun _ => .non) (fun b _ => .bl b) (fun i _ => .int i) (fun x _ => .str x) (fun h _ t p => .tup h (t (by simpa [D.pl] using p))) (fun f h _ t p => .lst (SqL.of h) (t (by simpa [D.pl] using p)))
    (fun _ _ _ _ _ p => by simp [D.pl] at p) (fun _ p => by simp [D.pl] at p) (fun _ p => by simp [D.pl] at p)
    (fun _ => .nil) (fun _ _ a b p => by
      simp only [D.plL, Bool.and_eq_true] at p
      exact .cons (a p.1) (b p.2)) True.intro (fun _ _ _ _ _ _ => True.intro) h
theorem DvL.pl_dp : ∀ {l : List D} {vs : List V}, DvL g H F l vs → D.plL l = true → DpAll g.K H vs (toPs l)
  | _, _, .nil, _ => .nil
  | _, _, .cons a b, p => by
    simp only [D.plL, Bool.and_eq_true] at p
    exact .cons (a.pl_dp p.1) (b.pl_dp p.2)
theorem Seen.dp (h : Seen g H F d v) (p : D.pl d = true) : Dp g.K H v (toP d) := by
  cases h with
  | val h => exact h.pl_dp p
  | top h =>
    cases d with
    | lst l =>
      obtain ⟨vs, h1, h2⟩ := h
      exact .lst (SqL.of h1) (h2.pl_dp (by simpa [D.pl] using p))
    | dic l => simp [D.pl] at p
    | _ => exact h.elim
/-- what is the same through the whole law, also where an exception is handled -/
structure Okh (g : Gr) (X : Cx) : Prop where
  K : X.K = g.K
  w : X.w = g.w
  mg : X.mg = g.mg
  u : X.A.units + 200 < cLine
  nd : X.N.Nodup
  pass : PassesOwn (model X.prog X.w) X.A X.env X.xe
/-- .. where none is -/
structure Okk (g : Gr) (X : Cx) : Prop extends Okh g X where
  calm : X.calm = true
/-- f told over deep values -/
def rM (g : Gr) (f : F2) : R2 := fun x y H Q => ∃ (F : Addr → Prop) (d e : D) (o : R), Seen g H F d x ∧ Seen g H F e y ∧ f d e = some o ∧ Wants g H F o Q
def rM1 (g : Gr) (f : F1) : V → Hp → VK → Prop := fun x H Q => ∃ (F : Addr → Prop) (d : D) (o : R), Seen g H F d x ∧ f d = some o ∧ Wants g H F o Q
def rMN (g : Gr) (f : FN) : List V → Hp → VK → Prop := fun xs H Q => ∃ (F : Addr → Prop) (ds : List D) (o : R), DvL g H F ds xs ∧ f ds = some o ∧ Wants g H F o Q
theorem sem2 (g : Gr) (f : F2) : Sem2 g (rM g f) f := fun H F x y d e o Q hx hy e h => ⟨F, d, _, o, hx, hy, e, h⟩
theorem sem1 (g : Gr) (f : F1) : Sem1 g (rM1 g f) f := fun H F x d o Q hx e h => ⟨F, d, o, hx, e, h⟩
theorem semN (g : Gr) (f : FN) : SemN g (rMN g f) f := fun H F xs ds o Q hx e h => ⟨F, ds, o, hx, e, h⟩
theorem OpR.imp {f : Value → Value → Sem Value} {r r' : R2} (h : OpR X f r) (m : ∀ x y H Q, r' x y H Q → r x y H Q) : OpR X f r' := fun pins s σ H x y v u Q I rx ry q => h pins s σ H x y v u Q I rx ry (m x y H Q q)
theorem UnR.imp {f : Value → Sem Value} {r r' : V → Hp → VK → Prop} (h : UnR X f r) (m : ∀ x H Q, r' x H Q → r x H Q) : UnR X f r' := fun pins s σ H x v Q I rx q => h pins s σ H x v Q I rx (m x H Q q)
theorem CallR.imp {f : Value} {r r' : List V → Hp → VK → Prop} (h : CallR X f r) (m : ∀ x H Q, r' x H Q → r x H Q) : CallR X f r' := fun pins s σ H x v Q I rx q => h pins s σ H x v Q I rx (m x H Q q)
theorem o_addH (k : Okh g X) : OpR X (binaryOp .Add) (rM g fAdd) := by
  refine OpR.imp (((op_add.or op_add_str).or op_cat).or op_catA) fun x y H Q h => ?_
  obtain ⟨F, d, e, o, hx, hy, ef, w⟩ := h
  cases d with
  | int i =>
    cases e with
    | int j => cases ef; rw [hx.int, hy.int]; exact .inl (.inl (.inl ⟨i, j, rfl, rfl, w.valI⟩))
    | _ => cases ef
  | str i =>
    cases e with
    | str j =>
      simp only [fAdd] at ef
      split at ef
      · rename_i hl
        cases ef; rw [hx.str, hy.str]
        exact .inl (.inl (.inr ⟨i, j, rfl, rfl, by rw [sizeLine_eq]; exact hl, w.val (.str _)⟩))
      · cases ef
    | _ => cases ef
  | lst l =>
    cases e with
    | lst m =>
      simp only [fAdd] at ef
      split at ef
      · rename_i hl
        cases ef
        obtain ⟨a, vs, rfl, h1, t1⟩ := hx.lst
        obtain ⟨b, us, rfl, h2, t2⟩ := hy.lst
        exact .inl (.inr ⟨a, b, vs, us, rfl, rfl, h1, h2, by rw [← t1.length, ← t2.length, sizeLine_eq]; exact hl, fun p hn => w.newL (t1.append t2) hn⟩)
      · cases ef
    | _ => cases ef
  | tup l =>
    cases e with
    | tup m =>
      simp only [fAdd] at ef
      split at ef
      · rename_i hl
        cases ef
        obtain ⟨a, vs, rfl, h1, t1⟩ := hx.tup
        obtain ⟨b, us, rfl, h2, t2⟩ := hy.tup
        rw [← k.K] at h1 h2
        refine .inr ⟨a, b, vs, us, rfl, rfl, h1, h2, by rw [← t1.length, ← t2.length, sizeLine_eq]; exact hl, fun z => ?_, fun _ z => ?_, fun _ _ p hn => w.newT (t1.append t2) hn⟩
        · subst z
          cases l with
          | nil => exact w.val (.tup (by rw [← k.K]; exact h2) t2)
          | cons _ _ => cases t1
        · subst z
          cases m with
          | nil => rw [List.append_nil] at w; exact w.val (.tup (by rw [← k.K]; exact h1) t1)
          | cons _ _ => cases t2
      · cases ef
    | _ => cases ef
  | _ => cases ef
theorem o_add (k : Okk g X) : OpR X (binaryOp .Add) (rM g fAdd) := o_addH k.toOkh
end
end Mm
-- text S12
set_option Elab.async false
set_option linter.all false
set_option maxRecDepth 100000
/-! S12: operators, comparisons. -/
namespace Mm
open PySem PySem.Spec PyProof.Rows L2
section
variable {g : Gr} {σ σ0 σ' σ1 σ2 : Sg} {H H' H0 H1 H2 : Hp} {F F0 F' : Addr → Prop} {ρ ρ0 ρ' ρ1 ρ2 : Env} {a : Addr} {v : V} {r : R} {d d' : D} {i n : Nat} {E : XK} {X : Cx} {x y : V}
theorem o_sub (k : Okk g X) : OpR X (binaryOp .Sub) (rM g fSub) := by
  refine OpR.imp op_sub fun x y H Q h => ?_
  obtain ⟨F, d, e, o, hx, hy, ef, w⟩ := h
  cases d with
  | int i =>
    cases e with
    | int j => cases ef; rw [hx.int, hy.int]; exact ⟨i, j, rfl, rfl, w.valI⟩
    | _ => cases ef
  | _ => cases ef
theorem DvL.rep {l : List D} {vs : List V} (t : DvL g H F l vs) : ∀ m : Nat, DvL g H F (repL l m) (List.replicate m vs).flatten
  | 0 => .nil
  | m + 1 => by
    rw [repL, List.replicate_succ, List.flatten_cons]
    exact t.append (DvL.rep t m)
theorem o_mul (k : Okk g X) : OpR X (binaryOp .Mult) (rM g fMul) := by
  refine OpR.imp (((((op_mul.or op_mulW).or op_rep).or op_repT).or op_repS).or op_repZ) fun x y H Q h => ?_
  obtain ⟨F, d, e, o, hx, hy, ef, w⟩ := h
  cases d with
  | int i =>
    cases e with
    | int j =>
      simp only [fMul] at ef
      split at ef
      · rename_i hc
        cases ef; rw [hx.int, hy.int]
        simp only [near, wide, Bool.or_eq_true, Bool.and_eq_true, decide_eq_true_eq] at hc
        rcases hc with hc | hc
        · exact .inl (.inl (.inl (.inl (.inl ⟨i, j, rfl, rfl, hc, w.valI⟩))))
        · exact .inl (.inl (.inl (.inl (.inr ⟨i, j, rfl, rfl, hc, w.valI⟩))))
      · cases ef
    | _ => cases ef
  | lst l =>
    cases e with
    | int j =>
      simp only [fMul] at ef
      split at ef
      · rename_i hc
        cases ef
        simp only [Bool.and_eq_true, decide_eq_true_eq] at hc
        obtain ⟨a, vs, rfl, h1, t1⟩ := hx.lst
        rw [hy.int]
        exact .inl (.inl (.inl (.inr ⟨a, j, vs, rfl, rfl, h1, hc.1.1, hc.1.2, by rw [← t1.length, sizeLine_eq]; exact hc.2, fun p hn => w.newL (t1.rep _) hn⟩)))
      · cases ef
    | _ => cases ef
  | tup l =>
    cases e with
    | int j =>
      simp only [fMul] at ef
      split at ef
      · rename_i hc
        cases ef
        simp only [Bool.and_eq_true, decide_eq_true_eq] at hc
        obtain ⟨a, vs, rfl, h1, t1⟩ := hx.tup
        have h1' := h1
        rw [← k.K] at h1
        rw [hy.int]
        by_cases h2 : 2 ≤ j ∧ vs ≠ []
        · exact .inl (.inl (.inr ⟨a, j, vs, rfl, rfl, h1, h2.2, h2.1, hc.1.2, by rw [← t1.length]; exact hc.2, fun p hn => w.newT (t1.rep _) hn⟩))
        · by_cases h3 : vs = [] ∨ j = 1
          · refine .inl (.inr ⟨a, j, vs, rfl, rfl, h1, h3, hc.1.1, hc.1.2, ?_⟩)
            have e : repL l j.toNat = l := by
              rcases h3 with z | z
              · subst z; cases t1
                generalize j.toNat = n
                induction n with
                | zero => rfl
                | succ n ih => rw [repL, ih]; rfl
              · subst z; show l ++ [] = l; simp
            rw [e] at w
            exact w.val (.tup h1' t1)
          · have n2 : ¬ 2 ≤ j := fun z => h2 ⟨z, fun e => h3 (.inl e)⟩
            have n1 : j ≠ 1 := fun z => h3 (.inr z)
            have hz : j ≤ 0 := by omega
            refine .inr ⟨a, j, vs, rfl, rfl, h1, fun z => h3 (.inl z), hc.1.1, hz, fun p hn => ?_⟩
            rw [show j.toNat = 0 from by omega] at w
            exact w.newT .nil hn
      · cases ef
    | _ => cases ef
  | _ => cases ef
theorem o_div (k : Okk g X) : OpR X (binaryOp .FloorDiv) (rM g fDiv) := by
  refine OpR.imp (op_fdiv.or op_fdivW) fun x y H Q h => ?_
  obtain ⟨F, d, e, o, hx, hy, ef, w⟩ := h
  cases d with
  | int i =>
    cases e with
    | int j =>
      simp only [fDiv] at ef
      split at ef
      · rename_i hc
        cases ef; rw [hx.int, hy.int]
        simp only [Bool.and_eq_true, Bool.or_eq_true, decide_eq_true_eq] at hc
        rcases hc with ⟨h0, hc | hc⟩
        · exact .inl ⟨i, j, rfl, rfl, ⟨h0, hc⟩, w.valI⟩
        · exact .inr ⟨i, j, rfl, rfl, ⟨h0, hc⟩, w.valI⟩
      · cases ef
    | _ => cases ef
  | _ => cases ef
theorem o_mod (k : Okk g X) : OpR X (binaryOp .Mod) (rM g fMod) := by
  refine OpR.imp op_mod fun x y H Q h => ?_
  obtain ⟨F, d, e, o, hx, hy, ef, w⟩ := h
  cases d with
  | int i =>
    cases e with
    | int j =>
      simp only [fMod] at ef
      split at ef
      · rename_i hc
        cases ef; rw [hx.int, hy.int]
        exact ⟨i, j, rfl, rfl, by simpa using hc, w.valI⟩
      · cases ef
    | _ => cases ef
  | _ => cases ef
theorem o_pow (k : Okk g X) : OpR X (binaryOp .Pow) (rM g fPow) := by
  refine OpR.imp op_pow fun x y H Q h => ?_
  obtain ⟨F, d, e, o, hx, hy, ef, w⟩ := h
  cases d with
  | int i =>
    cases e with
    | int j =>
      simp only [fPow] at ef
      split at ef
      · rename_i hc
        cases ef; rw [hx.int, hy.int]
        simp only [Bool.and_eq_true, decide_eq_true_eq] at hc
        exact ⟨i, j, rfl, rfl, ⟨hc.1.1, hc.1.2, hc.2⟩, w.valI⟩
      · cases ef
    | _ => cases ef
  | _ => cases ef
theorem o_neg (k : Okk g X) : UnR X (unaryOp .USub) (rM1 g fNeg) := by
  refine UnR.imp un_neg fun x H Q h => ?_
  obtain ⟨F, d, o, hx, ef, w⟩ := h
  cases d with
  | int i => cases ef; rw [hx.int]; exact ⟨i, rfl, w.valI⟩
  | _ => cases ef
theorem sh_shaped (h : D.sh d = true) : SeqAt.shaped (toP d) = true ∧ (toP d).depth ≤ 7 ∧ (toP d).plain = true := by
  unfold D.sh at h
  simp only [Bool.and_eq_true, decide_eq_true_eq] at h
  obtain ⟨a, b, c⟩ := pl_lay d h.1
  refine ⟨?_, by omega, c⟩
  unfold SeqAt.shaped
  simp only [Bool.and_eq_true, decide_eq_true_eq]
  exact ⟨a, by omega⟩
theorem sh_pl (h : D.sh d = true) : D.pl d = true := by
  unfold D.sh at h
  simp only [Bool.and_eq_true] at h
  exact h.1
theorem o_eqH (k : Okh g X) : OpR X (compareOp .Eq) (rM g fEq) := by
  refine OpR.imp (op_eqD (by have := k.u; omega)) fun x y H Q h => ?_
  obtain ⟨F, d, e, o, hx, hy, ef, w⟩ := h
  unfold fEq at ef
  split at ef
  · rename_i hc
    cases ef
    rw [Bool.and_eq_true] at hc
    rw [eqb_eqv] at w
    rw [k.K]
    exact ⟨toP d, toP e, hx.dp (sh_pl hc.1), hy.dp (sh_pl hc.2), (sh_shaped hc.1).1, (sh_shaped hc.2).1, w.valB⟩
  · cases ef
theorem o_ne (k : Okk g X) : OpR X (compareOp .NotEq) (rM g fNe) := by
  refine OpR.imp (op_neD (by have := k.u; omega)) fun x y H Q h => ?_
  obtain ⟨F, d, e, o, hx, hy, ef, w⟩ := h
  unfold fNe at ef
  split at ef
  · rename_i hc
    cases ef
    rw [Bool.and_eq_true] at hc
    rw [eqb_eqv] at w
    rw [k.K]
    exact ⟨toP d, toP e, hx.dp (sh_pl hc.1), hy.dp (sh_pl hc.2), (sh_shaped hc.1).1, (sh_shaped hc.2).1, w.valB⟩
  · cases ef
theorem ne_non (h : isNon d = false) : toP d ≠ .none := by
  cases d <;> simp [toP]
  cases h
theorem o_lt (k : Okk g X) : OpR X (compareOp .Lt) (rM g fLt) := by
  intro pins s σ H x y v u Q I rx ry h
  obtain ⟨F, d, e, o, hx, hy, ef, w⟩ := h
  unfold fLt cmpOk at ef
  split at ef
  · rename_i hc
    cases ef
    simp only [Bool.and_eq_true, Bool.not_eq_true'] at hc
    obtain ⟨⟨⟨s1, s2⟩, al⟩, nn⟩ := hc
    rw [ltb_data d e al] at w
    obtain ⟨as, r1⟩ := Dp.reads I (toP d) x v (by rw [k.K]; exact hx.dp (sh_pl s1)) rx
    obtain ⟨bs, r2⟩ := Dp.reads I (toP e) y u (by rw [k.K]; exact hy.dp (sh_pl s2)) ry
    have dp := (sh_shaped s1).2.1
    have hu := k.u
    have al' : PySem.W.alike (toP d) (toP e) = true := by rw [← alk_alike]; exact al
    exact PySem.W.lt_data r1 r2 al' (ne_non nn) (by omega) ⟨.bl _, H, I, rfl, w.valB⟩
  · cases ef
theorem o_gt (k : Okk g X) : OpR X (compareOp .Gt) (rM g fGt) := by
  intro pins s σ H x y v u Q I rx ry h
  obtain ⟨F, d, e, o, hx, hy, ef, w⟩ := h
  unfold fGt cmpOk at ef
  split at ef
  · rename_i hc
    cases ef
    simp only [Bool.and_eq_true, Bool.not_eq_true'] at hc
    obtain ⟨⟨⟨s1, s2⟩, al⟩, nn⟩ := hc
    rw [ltb_data e d al] at w
    obtain ⟨as, r1⟩ := Dp.reads I (toP d) x v (by rw [k.K]; exact hx.dp (sh_pl s2)) rx
    obtain ⟨bs, r2⟩ := Dp.reads I (toP e) y u (by rw [k.K]; exact hy.dp (sh_pl s1)) ry
    have dp := (sh_shaped s2).2.1
    have hu := k.u
    have al' : PySem.W.alike (toP d) (toP e) = true := by rw [PySem.W.alike_comm, ← alk_alike]; exact al
    exact PySem.W.gt_data r1 r2 al' (ne_non nn) (by omega) ⟨.bl _, H, I, rfl, w.valB⟩
  · cases ef
theorem o_le (k : Okk g X) : OpR X (compareOp .LtE) (rM g fLe) := by
  intro pins s σ H x y v u Q I rx ry h
  obtain ⟨F, d, e, o, hx, hy, ef, w⟩ := h
  unfold fLe cmpOk at ef
  split at ef
  · rename_i hc
    cases ef
    simp only [Bool.and_eq_true, Bool.not_eq_true'] at hc
    obtain ⟨⟨⟨s1, s2⟩, al⟩, nn⟩ := hc
    rw [ltb_data e d al] at w
    obtain ⟨as, r1⟩ := Dp.reads I (toP d) x v (by rw [k.K]; exact hx.dp (sh_pl s2)) rx
    obtain ⟨bs, r2⟩ := Dp.reads I (toP e) y u (by rw [k.K]; exact hy.dp (sh_pl s1)) ry
    have dp := (sh_shaped s2).2.1
    have hu := k.u
    have al' : PySem.W.alike (toP d) (toP e) = true := by rw [PySem.W.alike_comm, ← alk_alike]; exact al
    exact PySem.W.le_data r1 r2 al' (ne_non nn) (by omega) ⟨.bl _, H, I, rfl, w.valB⟩
  · cases ef
theorem o_ge (k : Okk g X) : OpR X (compareOp .GtE) (rM g fGe) := by
  intro pins s σ H x y v u Q I rx ry h
  obtain ⟨F, d, e, o, hx, hy, ef, w⟩ := h
  unfold fGe cmpOk at ef
  split at ef
  · rename_i hc
    cases ef
    simp only [Bool.and_eq_true, Bool.not_eq_true'] at hc
    obtain ⟨⟨⟨s1, s2⟩, al⟩, nn⟩ := hc
    rw [ltb_data d e al] at w
    obtain ⟨as, r1⟩ := Dp.reads I (toP d) x v (by rw [k.K]; exact hx.dp (sh_pl s1)) rx
    obtain ⟨bs, r2⟩ := Dp.reads I (toP e) y u (by rw [k.K]; exact hy.dp (sh_pl s2)) ry
    have dp := (sh_shaped s1).2.1
    have hu := k.u
    have al' : PySem.W.alike (toP d) (toP e) = true := by rw [← alk_alike]; exact al
    exact PySem.W.ge_data r1 r2 al' (ne_non nn) (by omega) ⟨.bl _, H, I, rfl, w.valB⟩
  · cases ef
theorem o_is (k : Okk g X) : OpR X (compareOp .Is) (rM g fIs) := by
  refine OpR.imp (op_isN.or op_is_bl) fun x y H Q h => ?_
  obtain ⟨F, d, e, o, hx, hy, ef, w⟩ := h
  cases e with
  | non =>
    refine .inl ⟨hy.non, ?_⟩
    have e2 : isNon d = decide (x = .non) := by
      cases hx with
      | val hx => cases hx <;> simp [isNon]
      | top hx => cases d <;> first | exact hx.elim | simp [isNon]
    have : o = .va (.bl (isNon d)) := by cases d <;> simp [fIs, vBl] at ef <;> rw [← ef]
    subst this
    rw [e2] at w
    exact w.valB
  | bl b =>
    cases d with
    | bl a => cases ef; exact .inr ⟨a, b, hx.bl, hy.bl, w.valB⟩
    | _ => cases ef
  | _ => cases d <;> cases ef
theorem o_isn (k : Okk g X) : OpR X (compareOp .IsNot) (rM g fIsN) := by
  refine OpR.imp (op_notN.or op_isnot_bl) fun x y H Q h => ?_
  obtain ⟨F, d, e, o, hx, hy, ef, w⟩ := h
  cases e with
  | non =>
    refine .inl ⟨hy.non, ?_⟩
    have e2 : isNon d = decide (x = .non) := by
      cases hx with
      | val hx => cases hx <;> simp [isNon]
      | top hx => cases d <;> first | exact hx.elim | simp [isNon]
    have : o = .va (.bl (!isNon d)) := by cases d <;> simp [fIsN, vBl] at ef <;> rw [← ef]
    subst this
    rw [e2] at w
    exact w.valB
  | bl b =>
    cases d with
    | bl a => cases ef; exact .inr ⟨a, b, hx.bl, hy.bl, w.valB⟩
    | _ => cases ef
  | _ => cases d <;> cases ef
theorem shL_lay : ∀ {l : List D}, shL l = true → D.plL l = true ∧ PyData.plainAll (toPs l) = true ∧ PyData.depthAll (toPs l) ≤ 7
  | [], _ => by simp [toPs, PyData.plainAll, PyData.depthAll, D.plL]
  | x :: xs, h => by
    simp only [shL, List.all_cons, Bool.and_eq_true] at h
    obtain ⟨a, b, c⟩ := shL_lay (l := xs) (by simpa [shL] using h.2)
    obtain ⟨a1, b1, c1⟩ := sh_shaped h.1
    simp only [toPs, PyData.plainAll, PyData.depthAll, D.plL, a, b, c1, sh_pl h.1, Bool.and_self, true_and]
    omega
theorem any_hasD (x : D) : ∀ l : List D, ((toPs l).any fun y => PyData.eqv y (toP x)) = hasD l x
  | [] => rfl
  | y :: ys => by
    have ih := any_hasD x ys
    unfold hasD at ih ⊢
    simp only [toPs, List.any_cons, ih, eqb_eqv]
theorem Seen.dpS {l : List D} (h : Seen g H F d v) (e : d = .lst l ∨ d = .tup l) (p : D.plL l = true) : Dp g.K H v (toP d) := by
  refine h.dp ?_
  rcases e with rfl | rfl <;> simpa [D.pl] using p
theorem inS (k : Okk g X) {b : Bool} {pins : List (Addr × Obj)} {s : Shared} {l : List D} {v u : Value} {Q : VK} {c : D} (I : Inv X pins σ H s) (rx : RelV x v) (ry : RelV y u) (hx : Seen g H F d x) (hy : Seen g H F c y) (ec : c = .lst l ∨ c = .tup l) (h1 : D.sh d = true) (h2 : shL l = true)
    (w : Wants g H F (.va (.bl (if b then !hasD l d else hasD l d))) Q) : wpAny (model X.prog X.w) X.A (compareOp (if b then .NotIn else .In) v u) (EP X pins σ Q) X.xe s := by
  obtain ⟨p, pa, dl⟩ := shL_lay h2
  obtain ⟨a1, b1, c1⟩ := sh_shaped h1
  have hu := k.u
  obtain ⟨as, r1⟩ := Dp.reads I (toP d) x v (by rw [k.K]; exact hx.dp (sh_pl h1)) rx
  obtain ⟨bs, r2⟩ := Dp.reads I (toP c) y u (by rw [k.K]; exact hy.dpS ec p) ry
  have hm : X.A.units + 1 + min (PyData.depthAll (toPs l)) (toP d).depth < cLine := by omega
  rcases ec with rfl | rfl <;> simp only [toP] at r2 <;> cases b
  · exact SeqAt.in_list_data r2 r1 pa c1 hm ⟨.bl _, H, I, by rw [any_hasD]; rfl, w.valB⟩
  · exact SeqAt.notIn_list_data r2 r1 pa c1 hm ⟨.bl _, H, I, by rw [any_hasD]; rfl, w.valB⟩
  · exact SeqAt.in_tuple_data r2 r1 pa c1 hm ⟨.bl _, H, I, by rw [any_hasD]; rfl, w.valB⟩
  · exact SeqAt.notIn_tuple_data r2 r1 pa c1 hm ⟨.bl _, H, I, by rw [any_hasD]; rfl, w.valB⟩
theorem o_eq (k : Okk g X) : OpR X (compareOp .Eq) (rM g fEq) := o_eqH k.toOkh
end
end Mm
-- text S13
set_option Elab.async false
set_option linter.all false
set_option maxRecDepth 100000
/-! S13: dicts. -/
namespace Mm
open PySem PySem.Spec PyProof.Rows L2
/-! ### keys -/
mutual
theorem eqb_nk : ∀ a b : D, D.hb a = true → D.hb b = true → D.eqb a b = decide (toNK a = toNK b)
  | .tup xs, b, ha, hb => by
    cases b <;> simp [D.hb] at hb <;> simp [D.eqb, toNK]
    rename_i ys
    rw [eqbL_nk xs ys (by simpa [D.hb] using ha) hb]
  | .non, b, _, hb => by cases b <;> simp [D.hb] at hb <;> simp [D.eqb, toNK]
  | .bl p, .bl q, _, _ => by cases p <;> cases q <;> decide
  | .bl p, .int q, _, _ => by simp [D.eqb, toNK, b2i]; rfl
  | .bl _, .non, _, _ => by simp [D.eqb, toNK]
  | .bl _, .str _, _, _ => by simp [D.eqb, toNK]
  | .bl _, .tup _, _, _ => by simp [D.eqb, toNK]
  | .bl _, .lst _, _, hb => by simp [D.hb] at hb
  | .bl _, .dic _, _, hb => by simp [D.hb] at hb
  | .bl _, .obj _, _, hb => by simp [D.hb] at hb
  | .bl _, .scr _, _, hb => by simp [D.hb] at hb
  | .int _, b, _, hb => by cases b <;> simp [D.hb] at hb <;> simp [D.eqb, toNK, b2i] <;> rfl
  | .str _, b, _, hb => by cases b <;> simp [D.hb] at hb <;> simp [D.eqb, toNK] <;> rfl
  | .lst _, _, ha, _ => by simp [D.hb] at ha
  | .dic _, _, ha, _ => by simp [D.hb] at ha
  | .obj _, _, ha, _ => by simp [D.hb] at ha
  | .scr _, _, ha, _ => by simp [D.hb] at ha
theorem eqbL_nk : ∀ a b : List D, D.hbL a = true → D.hbL b = true → D.eqbL a b = decide (toNKs a = toNKs b)
  | [], [], _, _ => by simp [D.eqbL, toNKs]
  | [], _ :: _, _, _ => by simp [D.eqbL, toNKs]
  | _ :: _, [], _, _ => by simp [D.eqbL, toNKs]
  | x :: xs, y :: ys, ha, hb => by
    simp only [D.hbL, Bool.and_eq_true] at ha hb
    simp only [D.eqbL, toNKs, eqb_nk x y ha.1 hb.1, eqbL_nk xs ys ha.2 hb.2]
    simp
end
theorem leaf_hb {d : D} (h : isLeaf d = true) : D.hb d = true := by cases d <;> simp [isLeaf] at h <;> simp [D.hb]
def leafKey : D → L2.Key
  | .int i => .inl i
  | .str x => .inr x
  | _ => .inl 0
/-- the dict l with its entries xs, the keys as kf tells them -/
inductive VR (g : Gr) (H : Hp) (F : Addr → Prop) {κ β : Type} (kf : D → κ) (rb : V → V → β → Prop) : List (D × D) → List (D × V × V) → List (κ × β) → Prop
  | nil : VR g H F kf rb [] [] []
  | cons {k d kv v b l kvs xs} : Dv g H F k kv → Dv g H F d v → rb kv v b → VR g H F kf rb l kvs xs → VR g H F kf rb ((k, d) :: l) ((k, kv, v) :: kvs) ((kf k, b) :: xs)
section
variable {g : Gr} {σ σ0 σ' σ1 σ2 : Sg} {H H' H0 H1 H2 : Hp} {F F0 F' : Addr → Prop} {ρ ρ0 ρ' ρ1 ρ2 : Env} {a : Addr} {v : V} {r : R} {d d' k : D} {i n : Nat} {E : XK} {X : Cx} {x y : V} {κ β : Type} {kf : D → κ} {rb : V → V → β → Prop} {l : List (D × D)} {kvs : List (D × V × V)} {xs : List (κ × β)} {b : β}
theorem VR.dvk (h : VR g H F kf rb l kvs xs) : DvK g H F l kvs := by
  induction h with
  | nil => exact .nil
  | cons a b _ _ ih => exact .cons a b ih
theorem VR.keys (h : VR g H F kf rb l kvs xs) : xs.map (·.1) = l.map fun p => kf p.1 := by
  induction h with
  | nil => rfl
  | cons a b _ _ ih => simp [ih]
theorem VR.length (h : VR g H F kf rb l kvs xs) : xs.length = l.length ∧ kvs.length = l.length := by
  induction h with
  | nil => exact ⟨rfl, rfl⟩
  | cons a b _ _ ih => simp [ih.1, ih.2]
/-- what stands under a key -/
def findK [DecidableEq κ] (xs : List (κ × β)) (k : κ) : Option β := (xs.find? fun x => decide (x.1 = k)).map (·.2)
theorem VR.find [DecidableEq κ] (h : VR g H F kf rb l kvs xs) (eq : ∀ p ∈ l, D.eqb p.1 k = decide (kf p.1 = kf k)) :
    (dget l k = none → findK xs (kf k) = none) ∧ ∀ d, dget l k = some d → ∃ kv v b, findK xs (kf k) = some b ∧ rb kv v b ∧ Dv g H F d v := by
  induction h with
  | nil => exact ⟨fun _ => rfl, fun d e => by simp [dget] at e⟩
  | @cons k' d' kv v b l kvs xs h1 h2 h3 t ih =>
    have ih := ih fun p hp => eq p (List.mem_cons_of_mem _ hp)
    have e0 := eq (k', d') List.mem_cons_self
    simp only at e0
    by_cases hk : kf k' = kf k
    · have e1 : D.eqb k' k = true := by rw [e0]; simpa using hk
      have f1 : findK ((kf k', b) :: xs) (kf k) = some b := by simp [findK, List.find?_cons, hk]
      have g1 : dget ((k', d') :: l) k = some d' := by simp [dget, List.find?_cons, e1]
      rw [f1, g1]
      exact ⟨nofun, fun d e => by cases e; exact ⟨kv, v, b, rfl, h3, h2⟩⟩
    · have e1 : D.eqb k' k = false := by rw [e0]; simpa using hk
      have f1 : findK ((kf k', b) :: xs) (kf k) = findK xs (kf k) := by simp [findK, List.find?_cons, hk]
      have g1 : dget ((k', d') :: l) k = dget l k := by simp [dget, List.find?_cons, e1]
      rw [f1, g1]
      exact ih
theorem VR.snoc (h : VR g H F kf rb l kvs xs) {kv : V} (hk : Dv g H F k kv) (hd : Dv g H F d v) (hb : rb kv v b) : VR g H F kf rb (l ++ [(k, d)]) (kvs ++ [(k, kv, v)]) (xs ++ [(kf k, b)]) := by
  induction h with
  | nil => exact .cons hk hd hb .nil
  | cons h1 h2 h3 t ih => exact .cons h1 h2 h3 ih
theorem VR.repl [DecidableEq κ] {up : β → β} (h : VR g H F kf rb l kvs xs) (eq : ∀ p ∈ l, D.eqb p.1 k = decide (kf p.1 = kf k)) (hd : Dv g H F d v) (hu : ∀ kv w b, rb kv w b → rb kv v (up b)) :
    ∃ kvs', VR g H F kf rb (l.map fun p => if D.eqb p.1 k then (p.1, d) else p) kvs' (xs.map fun x => if x.1 = kf k then (x.1, up x.2) else x) := by
  induction h with
  | nil => exact ⟨[], .nil⟩
  | @cons k' d' kv v' b l kvs xs h1 h2 h3 t ih =>
    obtain ⟨kvs', ih⟩ := ih fun p hp => eq p (List.mem_cons_of_mem _ hp)
    have e0 := eq (k', d') List.mem_cons_self
    simp only at e0
    by_cases hk : kf k' = kf k
    · have e1 : D.eqb k' k = true := by rw [e0]; simpa using hk
      refine ⟨(k', kv, v) :: kvs', ?_⟩
      simp only [List.map_cons, e1, if_true, hk]
      rw [← hk] at ih ⊢
      exact .cons h1 hd (hu _ _ _ h3) ih
    · have e1 : D.eqb k' k = false := by rw [e0]; simpa using hk
      refine ⟨(k', kv, v') :: kvs', ?_⟩
      simp only [List.map_cons, e1, Bool.false_eq_true, if_false, hk]
      exact .cons h1 h2 h3 ih
/-! ### ints and texts as keys -/
abbrev LeafR : V → V → Value → Prop := fun _ v u => RelV v u
theorem dv_leaf (h : Dv g H F k x) (lf : isLeaf k = true) : x = kV (leafKey k) := by
  cases k <;> simp [isLeaf] at lf <;> cases h <;> rfl
theorem leaf_hash {w : World} (lf : isLeaf k = true) : (toNK k).hash w = keyH w (leafKey k) := by
  cases k <;> simp [isLeaf] at lf <;> simp [toNK, leafKey, keyH, NestedKey.hash]
theorem leaf_eq {k' : D} (h : isLeaf k = true) (h' : isLeaf k' = true) : D.eqb k k' = decide (leafKey k = leafKey k') := by
  cases k <;> simp [isLeaf] at h <;> cases k' <;> simp [isLeaf] at h' <;> simp [D.eqb, leafKey] <;> rfl
theorem leaf_inj {k' : D} (h : isLeaf k = true) (h' : isLeaf k' = true) (e : leafKey k = leafKey k') : toNK k = toNK k' := by
  cases k <;> simp [isLeaf] at h <;> cases k' <;> simp [isLeaf] at h' <;> simp [leafKey] at e <;> simp [toNK, e]
theorem kV_keyIs {P : Program} {w : World} {k : L2.Key} {u : Value} (r : RelV (kV k) u) : (mixKind P w).is k u = true := kV_is r
theorem leafGo {P : Program} {w : World} : ∀ {l : List (D × D)} {kvs : List (D × V × V)}, DvK g H F l kvs → ∀ (es : List DictEntry), (∀ p ∈ l, isLeaf p.1 = true) → es.length = kvs.length →
      (∀ (i : Nat) (k : D × V × V), kvs[i]? = some k → ∃ en, es[i]? = some en ∧ RelV k.2.1 en.key ∧ RelV k.2.2 en.val ∧ en.hash = (toNK k.1).hash w) →
      ∃ vs : List (L2.Key × Value), Pairs (mixKind P w) es vs ∧ VR g H F leafKey LeafR l kvs vs ∧ ∀ e ∈ es, ∃ k, (mixKind P w).is k e.key = true ∧ e.hash = (mixKind P w).hash k
  | _, _, .nil, es, _, hl, _ => by
    cases es with
    | nil => exact ⟨[], .nil, .nil, by simp⟩
    | cons _ _ => simp at hl
  | _, _, .cons (k := k) (d := d) (kv := kv) h1 h2 t, es, lf, hl, at' => by
    cases es with
    | nil => simp at hl
    | cons e es =>
      obtain ⟨vs, p1, p2, p3⟩ := leafGo (P := P) (w := w) t es (fun p hp => lf p (List.mem_cons_of_mem _ hp)) (by simpa using hl) fun i k hk => by simpa using at' (i + 1) k (by simpa using hk)
      obtain ⟨en, e0, r1, r2, r3⟩ := at' 0 _ rfl
      simp at e0
      subst e0
      have lk : isLeaf k = true := lf (k, d) List.mem_cons_self
      have ek := dv_leaf h1 lk
      simp only at r1 r2 r3
      rw [ek] at r1
      rw [leaf_hash lk] at r3
      refine ⟨(leafKey k, e.val) :: vs, .cons (kV_is r1) rfl p1, .cons h1 h2 r2 p2, fun e' he' => ?_⟩
      rcases List.mem_cons.mp he' with rfl | he'
      · exact ⟨_, kV_is r1, r3⟩
      · exact p3 e' he'
/-- the entries of a dict of leaves -/
theorem leafView {P : Program} {w : World} {h : Heap} {o : Obj} {es : Array DictEntry} {ep : Nat} (D0 : DictAt w h a o kvs es ep) (t : DvK g H F l kvs) (lf : ∀ p ∈ l, isLeaf p.1 = true) (nd : (l.map fun p => toNK p.1).Nodup) :
    ∃ vs : List (L2.Key × Value), h.DictOf (mixKind P w) a vs ∧ VR g H F leafKey LeafR l kvs vs := by
  obtain ⟨vs, p1, p2, p3⟩ := leafGo (P := P) (w := w) t es.toList lf (by rw [← D0.len, Array.length_toList]) fun i k hk => by
    obtain ⟨en, e1, r⟩ := D0.at' i k hk
    exact ⟨en, by rw [Array.getElem?_toList]; exact e1, r⟩
  refine ⟨vs, ⟨o, es, ep, D0.get, D0.ex, D0.dat, fun e he => p3 e (by simpa using he), p1, ?_⟩, p2⟩
  rw [p2.keys]
  have : ∀ l : List (D × D), (∀ p ∈ l, isLeaf p.1 = true) → (l.map fun p => toNK p.1).Nodup → (l.map fun p => leafKey p.1).Nodup := fun l => by
    induction l with
    | nil => intros; simp
    | cons p l ih =>
      intro lf nd
      rw [List.map_cons, List.nodup_cons] at nd ⊢
      refine ⟨fun hm => nd.1 ?_, ih (fun p hp => lf p (List.mem_cons_of_mem _ hp)) nd.2⟩
      obtain ⟨q, hq, e⟩ := List.mem_map.mp hm
      exact List.mem_map.mpr ⟨q, hq, leaf_inj (lf q (List.mem_cons_of_mem _ hq)) (lf p List.mem_cons_self) e⟩
  exact this l lf nd
/-- a dict of leaves, as it stands -/
theorem leafIs {P : Program} {w : World} {h : Heap} {vs : List (L2.Key × Value)} (dd : h.DictOf (mixKind P w) a vs) (t : VR g H F leafKey LeafR l kvs vs) (lf : ∀ p ∈ l, isLeaf p.1 = true) :
    ∃ o, h.get? a = some o ∧ DictIs w o kvs := by
  obtain ⟨o, es, ep, ho, hx, hd, hk, hp, _⟩ := dd
  refine ⟨o, ho, hx, es, ep, hd, ?_⟩
  have go : ∀ (es : List DictEntry) (l : List (D × D)) (kvs : List (D × V × V)) (vs : List (L2.Key × Value)), VR g H F leafKey LeafR l kvs vs → (∀ p ∈ l, isLeaf p.1 = true) → Pairs (mixKind P w) es vs → (∀ e ∈ es, ∃ k, (mixKind P w).is k e.key = true ∧ e.hash = (mixKind P w).hash k) →
      Paired (fun (k : D × V × V) (e : DictEntry) => RelV k.2.1 e.key ∧ RelV k.2.2 e.val ∧ e.hash = (toNK k.1).hash w) kvs es := by
    intro es l kvs vs t
    induction t generalizing es with
    | nil =>
      intro _ hp _
      cases hp
      exact .nil
    | @cons k d kv v b l kvs xs h1 h2 h3 t ih =>
      intro lf hp hk
      cases hp with
      | @cons e _ es _ q1 q2 q3 =>
        have lk : isLeaf k = true := lf (k, d) List.mem_cons_self
        obtain ⟨k', i1, i2⟩ := hk e List.mem_cons_self
        have := (mixKind P w).inj _ _ _ i1 q1
        subst this
        refine .cons ⟨?_, ?_, ?_⟩ (ih es (fun p hp => lf p (List.mem_cons_of_mem _ hp)) q3 fun e he => hk e (List.mem_cons_of_mem _ he))
        · show RelV kv e.key
          rw [dv_leaf h1 lk]
          exact relV_key q1
        · show RelV v e.val
          rw [q2]; exact h3
        · show e.hash = (toNK k).hash w
          rw [leaf_hash lk]; exact i2
  exact go es.toList l kvs vs t lf hp fun e he => hk e (by simpa using he)
/-! ### tuples as keys -/
abbrev TupR : V → V → Addr × Value → Prop := fun kv v p => kv = .ref p.1 ∧ RelV v p.2
theorem nested_of {pins : List (Addr × Obj)} {s : Shared} {u : Value} (hK : X.K = g.K) (I : Inv X pins σ H s) (h : Dv g H F k x) (rx : RelV x u) (hb : D.hb k = true) : NestedIs s.heap (toNK k) u :=
  Dv.rec (motive_1 := fun k x _ => ∀ u, RelV x u → D.hb k = true → NestedIs s.heap (toNK k) u) (motive_2 := fun l vs _ => ∀ us, Vals vs us → D.hbL l = true → NestedAll s.heap (toNKs l) us) (motive_3 := fun _ _ _ => True)
    (fun u r _ => by cases r; exact .none) (fun b u r _ => by cases r; exact .bool rfl) (fun i u r _ => by obtain ⟨t, rfl⟩ := r; exact .int i t) (fun x u r _ => by obtain ⟨t, rfl⟩ := r; exact .text x t)
    (fun {l a vs} sq _ ih u r hb => by
      cases r
      obtain ⟨its, rv, ⟨o, e, c, n, hd⟩, _⟩ := I.tuple (by rw [hK]; exact sq)
      exact .tup e c hd (by simpa using ih its rv (by simpa [D.hb] using hb)))
    (fun _ _ _ _ u _ hb => by simp [D.hb] at hb) (fun _ _ _ _ _ u _ hb => by simp [D.hb] at hb) (fun _ u _ hb => by simp [D.hb] at hb) (fun _ u _ hb => by simp [D.hb] at hb)
    (fun us r _ => by cases r; exact .nil) (fun _ _ a b us r hb => by
      cases r with
      | cons r1 r2 =>
        simp only [D.hbL, Bool.and_eq_true] at hb
        exact .cons (a _ r1 hb.1) (b _ r2 hb.2)) True.intro (fun _ _ _ _ _ _ => True.intro) h u rx hb
mutual
theorem nk_depth : ∀ k : D, D.hb k = true → (toNK k).depth = D.dep k
  | .tup l, h => by simp [toNK, NestedKey.depth, D.dep, nks_depth l (by simpa [D.hb] using h)]
  | .non, _ => by simp [toNK, NestedKey.depth, D.dep]
  | .bl _, _ => by simp [toNK, NestedKey.depth, D.dep]
  | .int _, _ => by simp [toNK, NestedKey.depth, D.dep]
  | .str _, _ => by simp [toNK, NestedKey.depth, D.dep]
  | .lst _, h => by simp [D.hb] at h
  | .dic _, h => by simp [D.hb] at h
  | .obj _, h => by simp [D.hb] at h
  | .scr _, h => by simp [D.hb] at h
theorem nks_depth : ∀ l : List D, D.hbL l = true → NestedKey.depthAll (toNKs l) = D.depL l
  | [], _ => by simp [toNKs, NestedKey.depthAll, D.depL]
  | x :: xs, h => by
    simp only [D.hbL, Bool.and_eq_true] at h
    simp [toNKs, NestedKey.depthAll, D.depL, nk_depth x h.1, nks_depth xs h.2]
end
theorem sh_depth (h : D.sh k = true) (hb : D.hb k = true) : (toNK k).depth ≤ 8 := by
  rw [nk_depth k hb]
  unfold D.sh at h
  simp only [Bool.and_eq_true, decide_eq_true_eq] at h
  omega
theorem tup_ref (h : Dv g H F k x) (t : isTupD k = true) : ∃ q, x = .ref q := by
  cases k <;> simp [isTupD] at t <;> cases h
  exact ⟨_, rfl⟩
theorem tupGo {pins : List (Addr × Obj)} {s : Shared} (hK : X.K = g.K) (I : Inv X pins σ H s) {w : World} : ∀ {l : List (D × D)} {kvs : List (D × V × V)}, DvK g H F l kvs → ∀ (es : List DictEntry), (∀ p ∈ l, isTupD p.1 = true ∧ D.sh p.1 = true ∧ D.hb p.1 = true) → es.length = kvs.length →
      (∀ (i : Nat) (k : D × V × V), kvs[i]? = some k → ∃ en, es[i]? = some en ∧ RelV k.2.1 en.key ∧ RelV k.2.2 en.val ∧ en.hash = (toNK k.1).hash w) →
      ∃ xs : List (NestedKey × Addr × Value), es = xs.map (entryOfKey (nestedKind X.prog w)) ∧ VR g H F toNK TupR l kvs xs ∧ ∀ p ∈ xs, (nestedKind X.prog w).is s.heap p.1 p.2.1
  | _, _, .nil, es, _, hl, _ => by
    cases es with
    | nil => exact ⟨[], rfl, .nil, by simp⟩
    | cons _ _ => simp at hl
  | _, _, .cons (k := k) (d := d) (kv := kv) h1 h2 t, es, lf, hl, at' => by
    cases es with
    | nil => simp at hl
    | cons e es =>
      obtain ⟨xs, p1, p2, p3⟩ := tupGo hK I (w := w) t es (fun p hp => lf p (List.mem_cons_of_mem _ hp)) (by simpa using hl) fun i k hk => by simpa using at' (i + 1) k (by simpa using hk)
      obtain ⟨en, e0, r1, r2, r3⟩ := at' 0 _ rfl
      simp at e0
      subst e0
      obtain ⟨l1, l2, l3⟩ := lf (k, d) List.mem_cons_self
      obtain ⟨q, rfl⟩ := tup_ref h1 l1
      simp only at r1 r2 r3
      have ek : e.key = .ref q := by cases e; exact r1
      refine ⟨(toNK k, q, e.val) :: xs, ?_, .cons h1 h2 ⟨rfl, r2⟩ p2, fun e' he' => ?_⟩
      · rw [List.map_cons, ← p1]
        congr 1
        cases e
        simp only at ek r3
        simp only [entryOfKey, DictEntry.mk.injEq]
        exact ⟨r3, ek, trivial⟩
      · rcases List.mem_cons.mp he' with rfl | he'
        · exact ⟨nested_of hK I h1 (u := .ref q) rfl l3, sh_depth l2 l3⟩
        · exact p3 e' he'
theorem tupView {pins : List (Addr × Obj)} {s : Shared} {w : World} {o : Obj} {es : Array DictEntry} {ep : Nat} (hK : X.K = g.K) (I : Inv X pins σ H s) (D0 : DictAt w s.heap a o kvs es ep) (t : DvK g H F l kvs) (lf : ∀ p ∈ l, isTupD p.1 = true ∧ D.sh p.1 = true ∧ D.hb p.1 = true)
    (nd : (l.map fun p => toNK p.1).Nodup) : ∃ xs : List (NestedKey × Addr × Value), s.heap.DictOfH (nestedKind X.prog w) a xs ∧ VR g H F toNK TupR l kvs xs := by
  obtain ⟨xs, p1, p2, p3⟩ := tupGo hK I (w := w) t es.toList lf (by rw [← D0.len, Array.length_toList]) fun i k hk => by
    obtain ⟨en, e1, r⟩ := D0.at' i k hk
    exact ⟨en, by rw [Array.getElem?_toList]; exact e1, r⟩
  refine ⟨xs, ⟨o, es, ep, D0.get, D0.ex, D0.dat, p1, p3, ?_⟩, p2⟩
  rw [p2.keys]; exact nd
theorem tupIs {P : Program} {w : World} {h : Heap} {xs : List (NestedKey × Addr × Value)} (dd : h.DictOfH (nestedKind P w) a xs) (t : VR g H F toNK TupR l kvs xs) : ∃ o, h.get? a = some o ∧ DictIs w o kvs := by
  obtain ⟨o, es, ep, ho, hx, hd, hp, c1, c2⟩ := dd
  refine ⟨o, ho, hx, es, ep, hd, ?_⟩
  rw [hp]
  clear hp c1 c2
  induction t with
  | nil => exact .nil
  | cons h1 h2 h3 t ih => exact .cons ⟨by rw [h3.1]; rfl, h3.2, rfl⟩ ih
/-! ### the two kinds together -/
/-- the dict's shape ahead of an operation with the key k -/
theorem keyOk_cases (h : keyOk l k = true) (kg : KeysGood l) : D.sh k = true ∧ D.hb k = true ∧ ((isLeaf k = true ∧ ∀ p ∈ l, isLeaf p.1 = true) ∨ (isTupD k = true ∧ ∀ p ∈ l, isTupD p.1 = true ∧ D.sh p.1 = true ∧ D.hb p.1 = true)) := by
  unfold keyOk at h
  simp only [Bool.and_eq_true] at h
  refine ⟨h.1.1, h.1.2, ?_⟩
  have h2 := h.2
  split at h2
  · rename_i ht
    refine .inr ⟨ht, ?_⟩
    rw [List.all_eq_true] at h2
    rcases kg.2 with kg | kg
    · exact kg
    · intro p hp
      have a1 := h2 p hp
      have a2 := kg p hp
      cases e : p.1 <;> simp [e, isTupD, isLeaf] at a1 a2
  · simp only [Bool.and_eq_true, List.all_eq_true] at h2
    exact .inl ⟨h2.1, h2.2⟩
theorem valueAt_findK {vs : List (L2.Key × Value)} {k : L2.Key} : valueAt vs k = findK vs k := rfl
theorem atKey_findK {vs : List (NestedKey × Addr × Value)} {k : NestedKey} : atKey vs k = findK vs k := rfl
theorem in1_room {A : Around} (h : A.units + 200 < cLine) {P : Program} {w : World} : (nestedKind P w).room A.in1 := by
  show A.units + 1 + 8 < cLine
  omega
/-- y in d, y not in d -/
theorem in_dict (ok : Okk g X) {ng : Bool} {pins : List (Addr × Obj)} {s : Shared} {o : Obj} {u : Value} {Q : VK} (I : Inv X pins σ H s) (hd : H a = some (dO g.w a o kvs)) (kg : KeysGood l) (t : DvK g H F l kvs) (hx : Dv g H F k x) (rx : RelV x u) (hk : keyOk l k = true)
    (q : Q (.bl (if ng then !(dget l k).isSome else (dget l k).isSome)) H) : wpAny (model X.prog X.w) X.A (compareOp (if ng then .NotIn else .In) u (.ref a)) (EP X pins σ Q) X.xe s := by
  obtain ⟨es, ep, D0⟩ := dictAt I hd
  obtain ⟨k1, k2, kc⟩ := keyOk_cases hk kg
  rcases kc with ⟨lk, lf⟩ | ⟨lk, lf⟩
  · obtain ⟨vs, dd, vr⟩ := leafView (P := X.prog) D0 t lf kg.1
    obtain ⟨f0, f1⟩ := vr.find (k := k) fun p hp => leaf_eq (lf p hp) lk
    have e : (valueAt vs (leafKey k)).isSome = (dget l k).isSome := by
      rw [valueAt_findK]
      cases e : dget l k with
      | none => rw [f0 e]; rfl
      | some d => obtain ⟨_, _, b, e2, _⟩ := f1 d e; rw [e2]; rfl
    rw [dv_leaf hx lk] at rx
    rw [ok.w]
    cases ng with
    | false => exact wpAny_in_of (kV_is rx) D0.sys dd.mapOf ⟨.bl _, H, I.tok _, by rw [e]; rfl, q⟩
    | true => exact wpAny_notIn_of (kV_is rx) D0.sys dd.mapOf ⟨.bl _, H, I.tok _, by rw [e]; rfl, q⟩
  · obtain ⟨xs, dd, vr⟩ := tupView ok.K I D0 t lf kg.1
    obtain ⟨f0, f1⟩ := vr.find (k := k) fun p hp => eqb_nk _ _ (lf p hp).2.2 k2
    have e : (atKey xs (toNK k)).isSome = (dget l k).isSome := by
      rw [atKey_findK]
      cases e : dget l k with
      | none => rw [f0 e]; rfl
      | some d => obtain ⟨_, _, b, e2, _⟩ := f1 d e; rw [e2]; rfl
    obtain ⟨qa, rfl⟩ := tup_ref hx lk
    cases rx
    rw [ok.w]
    have ki : (nestedKind X.prog g.w).is s.heap (toNK k) qa := ⟨nested_of ok.K I hx (u := .ref qa) rfl k2, sh_depth k1 k2⟩
    cases ng with
    | false => exact wpAny_in_heap (in1_room ok.u) ki D0.sys dd ⟨.bl _, H, I.tok _, by rw [e]; rfl, q⟩
    | true => exact wpAny_notIn_heap (in1_room ok.u) ki D0.sys dd ⟨.bl _, H, I.tok _, by rw [e]; rfl, q⟩
/-- d[y] -/
theorem get_dict (ok : Okh g X) {pins : List (Addr × Obj)} {s : Shared} {o : Obj} {u : Value} {Q : VK} (I : Inv X pins σ H s) (hd : H a = some (dO g.w a o kvs)) (kg : KeysGood l) (t : DvK g H F l kvs) (hx : Dv g H F k x) (rx : RelV x u) (hk : keyOk l k = true)
    (e : dget l k = some d) (q : ∀ v, Dv g H F d v → Q v H) : wpAny (model X.prog X.w) X.A (getItem (.ref a) u) (EP X pins σ Q) X.xe s := by
  obtain ⟨es, ep, D0⟩ := dictAt I hd
  obtain ⟨k1, k2, kc⟩ := keyOk_cases hk kg
  rcases kc with ⟨lk, lf⟩ | ⟨lk, lf⟩
  · obtain ⟨vs, dd, vr⟩ := leafView (P := X.prog) D0 t lf kg.1
    obtain ⟨f0, f1⟩ := vr.find (k := k) fun p hp => leaf_eq (lf p hp) lk
    obtain ⟨_, v, b, e2, rb, dv⟩ := f1 d e
    rw [dv_leaf hx lk] at rx
    rw [ok.w]
    exact wpAny_getItem_of (kV_is rx) dd.mapOf (by rw [valueAt_findK]; exact e2) ⟨v, H, I.tok _, rb, q v dv⟩
  · obtain ⟨xs, dd, vr⟩ := tupView ok.K I D0 t lf kg.1
    obtain ⟨f0, f1⟩ := vr.find (k := k) fun p hp => eqb_nk _ _ (lf p hp).2.2 k2
    obtain ⟨_, v, b, e2, rb, dv⟩ := f1 d e
    obtain ⟨qa, rfl⟩ := tup_ref hx lk
    cases rx
    rw [ok.w]
    have ki : (nestedKind X.prog g.w).is s.heap (toNK k) qa := ⟨nested_of ok.K I hx (u := .ref qa) rfl k2, sh_depth k1 k2⟩
    exact wpAny_getItem_heap (in1_room ok.u) ki dd (by rw [atKey_findK]; exact e2) ⟨v, H, I.tok _, rb.2, q v dv⟩
end
end Mm
-- text S14
set_option Elab.async false
set_option linter.all false
set_option maxRecDepth 100000
/-! S14: subscripts, slices, plain builtins. -/
namespace Mm
open PySem PySem.Spec PyProof.Rows L2
section
variable {g : Gr} {σ σ0 σ' σ1 σ2 : Sg} {H H' H0 H1 H2 : Hp} {F F0 F' : Addr → Prop} {ρ ρ0 ρ' ρ1 ρ2 : Env} {a : Addr} {v : V} {r : R} {d d' k : D} {i n : Nat} {E : XK} {X : Cx} {x y : V} {l : List (D × D)} {kvs : List (D × V × V)}
/-- a key, as it is just now -/
theorem Seen.key (h : Seen g H F d x) (hb : D.hb d = true) : Dv g H F d x := by
  cases h with
  | val h => exact h
  | top h => cases d <;> first | exact h.elim | simp [D.hb] at hb
theorem keyOk_hb (h : keyOk l k = true) : D.hb k = true := by
  unfold keyOk at h
  simp only [Bool.and_eq_true] at h
  exact h.1.2
theorem o_in (ok : Okk g X) : OpR X (compareOp .In) (rM g fIn) := by
  intro pins s σ H x y v u Q I rx ry h
  obtain ⟨F, d, e, o, hx, hy, ef, w⟩ := h
  cases e with
  | lst l =>
    simp only [fIn] at ef
    split at ef
    · rename_i hc
      cases ef
      rw [Bool.and_eq_true] at hc
      exact inS (b := false) ok I rx ry hx hy (.inl rfl) hc.1 hc.2 w
    · cases ef
  | tup l =>
    simp only [fIn] at ef
    split at ef
    · rename_i hc
      cases ef
      rw [Bool.and_eq_true] at hc
      exact inS (b := false) ok I rx ry hx hy (.inr rfl) hc.1 hc.2 w
    · cases ef
  | dic l =>
    simp only [fIn] at ef
    split at ef
    · rename_i hc
      cases ef
      obtain ⟨a, ob, kvs, rfl, h1, kg, t⟩ := hy.dic
      cases ry
      exact in_dict (ng := false) ok I h1 kg t (hx.key (keyOk_hb hc)) rx hc w.valB
    · cases ef
  | _ => cases ef
theorem o_nin (ok : Okk g X) : OpR X (compareOp .NotIn) (rM g fNotIn) := by
  intro pins s σ H x y v u Q I rx ry h
  obtain ⟨F, d, e, o, hx, hy, ef, w⟩ := h
  cases e with
  | lst l =>
    simp only [fNotIn] at ef
    split at ef
    · rename_i hc
      cases ef
      rw [Bool.and_eq_true] at hc
      exact inS (b := true) ok I rx ry hx hy (.inl rfl) hc.1 hc.2 w
    · cases ef
  | tup l =>
    simp only [fNotIn] at ef
    split at ef
    · rename_i hc
      cases ef
      rw [Bool.and_eq_true] at hc
      exact inS (b := true) ok I rx ry hx hy (.inr rfl) hc.1 hc.2 w
    · cases ef
  | dic l =>
    simp only [fNotIn] at ef
    split at ef
    · rename_i hc
      cases ef
      obtain ⟨a, ob, kvs, rfl, h1, kg, t⟩ := hy.dic
      cases ry
      exact in_dict (ng := true) ok I h1 kg t (hx.key (keyOk_hb hc)) rx hc w.valB
    · cases ef
  | _ => cases ef
theorem atI_of {l : List D} {vs : List V} {j : Int} {m : Nat} (t : DvL g H F l vs) (e : ixD l.length j = some m) (hd : l[m]? = some d) : ∃ v, atI vs j = some v ∧ Dv g H F d v := by
  obtain ⟨v, hv, dv⟩ := t.get hd
  refine ⟨v, ?_, dv⟩
  unfold atI
  rw [← t.length]
  have : ixN l.length j = ixD l.length j := rfl
  rw [this, e]
  exact hv
/-- as subscriptTail_builtinR, its end told as it comes -/
theorem thn_sub {value slice : Expr} {pins : List (Addr × Obj)} {s : Shared} {o u : Value} {T id : String} {Q : Value → Shared → Prop} (hT : s.TypeIs o T)
    (hl : typeLookup (.type T) "__getitem__" = pure (some (.builtin id))) (hs : subscripted slice false o u = operate [o, u] (getItem o u)) (h : wpAny (model X.prog X.w) X.A (getItem o u) Q X.xe s) :
    wpAny (model X.prog X.w) X.A (subscriptTail value slice o u) Q X.xe s := by
  unfold subscriptTail
  refine wpAny_bind ?_
  rw [getitemInPython_of_ne hT.not_modules]
  refine wpAny_bind (wpAny_specialOf hT hl ?_)
  have fin : wpAny (model X.prog X.w) X.A (subscripted slice false o u) (fun r s₃ => wpAny (model X.prog X.w) X.A (letTemporaryGo value o r >>= fun _ => pure r) Q X.xe s₃) X.xe s := by
    rw [hs]
    exact wpAny_operating (wpAny_mono h (fun r s₃ h₃ => wpAny_bind (wpAny_letTemporaryGo (wpAny_pure h₃))) fun _ _ x => x)
  first
    | exact wpAny_pure (wpAny_bind fin)
    | exact wpAny_bind (wpAny_pure (wpAny_bind fin))
    | exact wpAny_bind fin
theorem o_ixH (ok : Okh g X) : IxR X (rM g fIx) := by
  intro value slice pins s σ H x y v u Q I rx ry h hs
  obtain ⟨F, d, e, o, hx, hy, ef, w⟩ := h
  cases d with
  | lst l =>
    cases e with
    | int j =>
      simp only [fIx] at ef
      split at ef
      · rename_i m hm
        rw [Option.map_eq_some_iff] at ef
        obtain ⟨d, hd, rfl⟩ := ef
        obtain ⟨a, vs, rfl, h1, t⟩ := hx.lst
        rw [hy.int] at ry
        obtain ⟨z, hz, dz⟩ := atI_of t hm hd
        exact ix_list value slice pins s σ H _ _ v u Q I rx ry ⟨a, vs, j, z, rfl, rfl, SqL.of h1, hz, w.val dz⟩ hs
      · cases ef
    | _ => cases ef
  | tup l =>
    cases e with
    | int j =>
      simp only [fIx] at ef
      split at ef
      · rename_i m hm
        rw [Option.map_eq_some_iff] at ef
        obtain ⟨d, hd, rfl⟩ := ef
        obtain ⟨a, vs, rfl, h1, t⟩ := hx.tup
        rw [hy.int] at ry
        obtain ⟨z, hz, dz⟩ := atI_of t hm hd
        exact ix_tup value slice pins s σ H _ _ v u Q I rx ry ⟨a, vs, j, z, rfl, rfl, by rw [ok.K]; exact h1, hz, w.val dz⟩ hs
      · cases ef
    | _ => cases ef
  | dic l =>
    simp only [fIx] at ef
    split at ef
    · rename_i hc
      rw [Option.map_eq_some_iff] at ef
      obtain ⟨d, hd, rfl⟩ := ef
      obtain ⟨a, ob, kvs, rfl, h1, kg, t⟩ := hx.dic
      cases rx
      obtain ⟨es, ep, D0⟩ := dictAt I h1
      have hT : s.TypeIs (.ref a) "dict" := ⟨ob, D0.get, D0.ex.1⟩
      refine thn_sub (pins := pins) hT slot_dict_getitem.lookup hs ?_
      exact get_dict ok I h1 kg t (hy.key (keyOk_hb hc)) ry hc hd fun v dv => w.val dv
    · cases ef
  | _ => cases ef
/-! ### slices -/
def tO (g : Gr) (E : XK) (m : MO) : TO := fun σ H Q => ∃ ρ F, Rel g σ H F ρ ∧ Runs g E (m ρ) σ ρ H F fun o _ H' _ => Q o H'
theorem PO.sub {e : Option Expr} {t t' : TO} (h : PO X e t) (s : ∀ σ H Q, t' σ H Q → t σ H Q) : PO X e t' := ⟨fun pins s' σ H Q I q => h.run pins s' σ H Q I (s σ H Q q)⟩
theorem s_pon : PO X none (tO g E moN) := by
  refine PO.sub po_none fun σ H Q h => ?_
  obtain ⟨ρ, F, R, h⟩ := h
  exact h.ret R SF.refl
theorem s_pos {e : Expr} {ma : ME} (h : PE X e (tE g E ma)) : PO X (some e) (tO g E (moS ma)) := by
  refine PO.sub (po_some h) fun σ H Q h => ?_
  obtain ⟨ρ, F, R, h⟩ := h
  refine ⟨ρ, F, R, (h.at SF.refl).mono fun p ρ1 H1 F1 R1 s1 h1 v rv => ?_⟩
  obtain ⟨s, h1⟩ := h1
  cases p with
  | va d =>
    cases d with
    | int j =>
      have rv : Dv g H1 F1 (.int j) v := rv
      cases rv
      exact ⟨j, rfl, h1.ret R1 s⟩
    | _ => exact h1.no.elim
  | _ => exact h1.no.elim
theorem cut_dv {l : List D} {vs : List V} (t : DvL g H F l vs) (lo hi : Option Int) : DvL g H F (cutD l lo hi) (cutV vs lo hi) := by
  have e : ∀ n d o, slP n d o = HT.sIx n d o := fun n d o => by cases o <;> rfl
  unfold cutD cutV
  rw [e, e, t.length]
  exact (t.drop _).take _
theorem s_sl {b : Expr} {lo hi : Option Expr} {p1 p2 : Pos} {ma : ME} {ml mh : MO} (ok : Okk g X) (ha : PE X b (tE g E ma)) (hl : PO X lo (tO g E ml)) (hh : PO X hi (tO g E mh)) : PE X (.Subscript b (.Slice lo hi none p1) p2) (tE g E (mSl ma ml mh)) := by
  refine PE.sub (pe_slice (sl_list.or sl_tupA) ha hl hh) fun σ H Q h => ?_
  obtain ⟨ρ, F, R, h⟩ := h
  refine ⟨ρ, F, R, (h.at SF.refl).mono fun p ρ1 H1 F1 R1 s1 h1 x rx => ⟨ρ1, F1, R1, (h1.2.at s1).mono fun l ρ2 H2 F2 R2 s2 h2 => ⟨ρ2, F2, R2, (h2.2.at h2.1).mono fun u ρ3 H3 F3 R3 s3 h3 => ?_⟩⟩⟩
  obtain ⟨s, h3⟩ := h3
  have rx3 := (rx.kept R1 s2).kept R2 s3
  cases e1 : deref ρ3 p with
  | none => simp only [e1] at h3; exact h3.no.elim
  | some d =>
    cases e2 : fSl l u d with
    | none => simp only [e1, e2] at h3; exact h3.no.elim
    | some o =>
      simp only [e1, e2] at h3
      have w : Wants g H3 F3 o Q := fun v H' ex rn => h3.ret (R3.ext ex) (s.ext_ ex) v (rn.rel R3 s)
      have sn := deref_ok R3 rx3 e1
      cases d with
      | lst m =>
        cases e2
        obtain ⟨a, vs, rfl, h1, t⟩ := sn.lst
        exact .inl ⟨a, vs, rfl, SqL.of h1, fun p hn => w.newL (cut_dv t l u) hn⟩
      | tup m =>
        cases e2
        obtain ⟨a, vs, rfl, h1, t⟩ := sn.tup
        refine .inr ⟨a, vs, rfl, by rw [ok.K]; exact h1, fun hc => ?_, fun _ p hn => w.newT (cut_dv t l u) hn⟩
        have e : cutD m l u = m := by
          have e : ∀ n d o, slP n d o = HT.sIx n d o := fun n d o => by cases o <;> rfl
          unfold cutD
          rw [e, e, t.length, hc.1, hc.2]
          simp [← t.length]
        rw [e] at w
        exact w.val (.tup h1 t)
      | _ => cases e2
/-! ### builtins of one argument that is only looked at -/
theorem CallR.one1 {fv : Value} {r : List V → Hp → VK → Prop} {f : F1} (h : CallR X fv r) (m : ∀ x H Q, rM1 g f x H Q → r [x] H Q) : CallR X fv (fun xs H Q => ∃ x, xs = [x] ∧ rM1 g f x H Q) :=
  CallR.imp h fun xs H Q ⟨x, e, q⟩ => by rw [e]; exact m x H Q q
theorem sem1x (g : Gr) (f : F1) : Sem1 g (fun x H Q => (fun xs H Q => ∃ x, xs = [x] ∧ rM1 g f x H Q) [x] H Q) f := fun H F x d o Q hx e h => ⟨x, rfl, F, d, o, hx, e, h⟩
theorem toints {l : List D} {ns : List Int} {vs : List V} (t : DvL g H F l vs) (e : intsOf l = some ns) : vs = ns.map V.int := by
  induction l generalizing ns vs with
  | nil => cases t; cases e; rfl
  | cons d l ih =>
    cases t with
    | cons t1 t2 =>
      cases d <;> simp [intsOf] at e
      obtain ⟨ms, e1, rfl⟩ := e
      cases t1
      rw [ih t2 e1]; rfl
theorem tobls {l : List D} {ns : List Bool} {vs : List V} (t : DvL g H F l vs) (e : blsOf l = some ns) : vs = ns.map V.bl := by
  induction l generalizing ns vs with
  | nil => cases t; cases e; rfl
  | cons d l ih =>
    cases t with
    | cons t1 t2 =>
      cases d <;> simp [blsOf] at e
      obtain ⟨ms, e1, rfl⟩ := e
      cases t1
      rw [ih t2 e1]; rfl
def gLen : F1 := fun d => fLen [d]
def gSum : F1 := fun d => fSum [d]
def gAll : F1 := fun d => fAll [d]
def gAny : F1 := fun d => fAny [d]
def gAbs : F1 := fun d => fAbs [d]
def gInt : F1 := fun d => fInt [d]
def gTuple : F1 := fun d => fTuple [d]
theorem c_lenH (ok : Okh g X) : CallR X (.builtin "len") (fun xs H Q => ∃ x, xs = [x] ∧ rM1 g gLen x H Q) := by
  intro pins s σ H xs us Q I r h
  obtain ⟨x, rfl, F, d, o, hx, ef, w⟩ := h
  cases d with
  | lst l =>
    cases ef
    obtain ⟨a, vs, rfl, h1, t⟩ := hx.lst
    exact call_len pins s σ H _ us Q I r ⟨_, vs.length, rfl, .inl ⟨vs, SqL.of h1, rfl⟩, by rw [← t.length]; exact w.valI⟩
  | tup l =>
    cases ef
    obtain ⟨a, vs, rfl, h1, t⟩ := hx.tup
    exact call_len pins s σ H _ us Q I r ⟨_, vs.length, rfl, .inr ⟨vs, by rw [ok.K]; exact h1, rfl⟩, by rw [← t.length]; exact w.valI⟩
  | str z =>
    simp only [gLen, fLen] at ef
    split at ef
    · rename_i hc
      cases ef
      rw [hx.str] at r
      exact call_len pins s σ H _ us Q I r ⟨_, z.cps.size, rfl, ⟨by rw [sizeLine_eq]; exact hc, rfl⟩, w.valI⟩
    · cases ef
  | dic l =>
    simp only [gLen, fLen] at ef
    split at ef
    · rename_i hc
      cases ef
      simp only [Bool.and_eq_true, List.all_eq_true, decide_eq_true_eq] at hc
      obtain ⟨a, ob, kvs, rfl, h1, kg, t⟩ := hx.dic
      obtain ⟨us', rfl⟩ : ∃ u, us = [u] := by cases r with | cons r1 r2 => cases r2; exact ⟨_, rfl⟩
      cases r with
      | cons r1 r2 =>
        cases r1
        obtain ⟨es, ep, D0⟩ := dictAt I h1
        obtain ⟨vs, dd, vr⟩ := leafView (P := X.prog) D0 t hc.1 kg.1
        rw [ok.w]
        have hl := vr.length.1
        have hb : (vs.length : Int) < 2 ^ 63 := by have := hc.2; unfold big at this; omega
        exact call_len_dict D0.sys dd hb ⟨.int l.length, H, I.tok _, ⟨_, by rw [hl]⟩, w.valI⟩
    · cases ef
  | _ => cases ef
theorem sum_tup {prog : Program} {w : World} {A : Around} {E : Value → Shared → Prop} {s : Shared} {t : Addr} {its : List Value} {ns : List Int} {Q : Value → Shared → Prop} (hh : A.handled = none) (hl : s.heap.IsTuple t its.toArray) (hi : IntsAre its ns)
    (h : ∀ h' tk t', (∀ b o, s.heap.get? b = some o → h'.get? b = some o) → Q (.int ns.sum t') { s with heap := h', toks := tk }) : wpAny (model prog w) A (call (.builtin "sum") [.ref t]) Q E s := by
  obtain ⟨xs, e⟩ := hi.allInts.items
  have hn : numsOf (intItems xs).toList = ns := by rw [← e]; exact hi.numsOf
  rw [nums_intItems] at hn
  rw [e] at hl
  refine PySem.W.ktm_sumG hh hl fun h' tk t' hk => ?_
  have := h h' tk t' hk
  rw [preSum_eq, List.take_of_length_le (by simp), hn]
  exact this
theorem c_sum (ok : Okk g X) : CallR X (.builtin "sum") (fun xs H Q => ∃ x, xs = [x] ∧ rM1 g gSum x H Q) := by
  intro pins s σ H xs us Q I r h
  obtain ⟨x, rfl, F, d, o, hx, ef, w⟩ := h
  cases d with
  | lst l =>
    simp only [gSum, fSum] at ef
    obtain ⟨ns, e1, e2⟩ := Option.bind_eq_some_iff.mp ef
    cases e2
    obtain ⟨a, vs, rfl, h1, t⟩ := hx.lst
    rw [toints t e1] at h1
    exact cr_sum ok.calm pins s σ H _ us Q I r ⟨a, ns, rfl, SqL.of h1, w.valI⟩
  | tup l =>
    simp only [gSum, fSum] at ef
    obtain ⟨ns, e1, e2⟩ := Option.bind_eq_some_iff.mp ef
    cases e2
    obtain ⟨a, vs, rfl, h1, t⟩ := hx.tup
    rw [toints t e1, ← ok.K] at h1
    obtain ⟨its, rv, ht, _⟩ := I.tuple h1
    rw [Vals.ref1 r]
    exact sum_tup (I.ok.hd ok.calm) ht rv.ints fun h' tk t' hk => ⟨.int _, H, I.kept hk, ⟨_, rfl⟩, w.valI⟩
  | _ => cases ef
theorem c_all (ok : Okk g X) : CallR X (.builtin "all") (fun xs H Q => ∃ x, xs = [x] ∧ rM1 g gAll x H Q) := by
  refine CallR.one1 (cr_all ok.calm) fun x H Q h => ?_
  obtain ⟨F, d, o, hx, ef, w⟩ := h
  cases d with
  | lst l =>
    simp only [gAll, fAll] at ef
    obtain ⟨ns, e1, e2⟩ := Option.bind_eq_some_iff.mp ef
    cases e2
    obtain ⟨a, vs, rfl, h1, t⟩ := hx.lst
    rw [tobls t e1] at h1
    exact ⟨a, ns, rfl, SqL.of h1, w.valB⟩
  | _ => cases ef
theorem c_any (ok : Okk g X) : CallR X (.builtin "any") (fun xs H Q => ∃ x, xs = [x] ∧ rM1 g gAny x H Q) := by
  refine CallR.one1 (cr_any ok.calm) fun x H Q h => ?_
  obtain ⟨F, d, o, hx, ef, w⟩ := h
  cases d with
  | lst l =>
    simp only [gAny, fAny] at ef
    obtain ⟨ns, e1, e2⟩ := Option.bind_eq_some_iff.mp ef
    cases e2
    obtain ⟨a, vs, rfl, h1, t⟩ := hx.lst
    rw [tobls t e1] at h1
    exact ⟨a, ns, rfl, SqL.of h1, w.valB⟩
  | _ => cases ef
theorem c_abs (ok : Okk g X) : CallR X (.builtin "abs") (fun xs H Q => ∃ x, xs = [x] ∧ rM1 g gAbs x H Q) := by
  refine CallR.one1 call_abs fun x H Q h => ?_
  obtain ⟨F, d, o, hx, ef, w⟩ := h
  cases d with
  | int i => cases ef; rw [hx.int]; exact ⟨i, rfl, w.valI⟩
  | _ => cases ef
theorem c_int (ok : Okk g X) : CallR X (.type "int") (fun xs H Q => ∃ x, xs = [x] ∧ rM1 g gInt x H Q) := by
  refine CallR.one1 call_int1 fun x H Q h => ?_
  obtain ⟨F, d, o, hx, ef, w⟩ := h
  cases d with
  | int i => cases ef; rw [hx.int]; exact .inl ⟨i, rfl, w.valI⟩
  | bl b => cases ef; rw [hx.bl]; exact .inr ⟨b, rfl, w.valI⟩
  | _ => cases ef
theorem c_tuple (ok : Okk g X) : CallR X (.type "tuple") (fun xs H Q => ∃ x, xs = [x] ∧ rM1 g gTuple x H Q) := by
  refine CallR.one1 call_tuple_of fun x H Q h => ?_
  obtain ⟨F, d, o, hx, ef, w⟩ := h
  cases d with
  | lst l =>
    cases ef
    obtain ⟨a, vs, rfl, h1, t⟩ := hx.lst
    exact ⟨a, vs, rfl, .inl ⟨SqL.of h1, fun p hn => w.newT t hn⟩⟩
  | tup l =>
    cases ef
    obtain ⟨a, vs, rfl, h1, t⟩ := hx.tup
    exact ⟨a, vs, rfl, .inr ⟨by rw [ok.K]; exact h1, w.val (.tup h1 t)⟩⟩
  | _ => cases ef
/-! ### isinstance -/
def tyStr : Ty → String
  | .int => "int"
  | .bool => "bool"
  | .tuple => "tuple"
  | .str => "str"
theorem seen_ty (h : Seen g H F d x) (t : Ty) (o : R) (e : fIsi t d = some o) : ∃ T b, TyX g.K H x (.type T) ∧ kitB T (tyStr t) = some b ∧ o = .va (.bl b) := by
  have go : ∀ T : String, TyX g.K H x (.type T) → (kitB T (tyStr t) = some (isTy t d)) → fIsi t d = vBl (isTy t d) → ∃ T b, TyX g.K H x (.type T) ∧ kitB T (tyStr t) = some b ∧ o = .va (.bl b) := fun T h1 h2 h3 => by
    rw [h3] at e; cases e
    exact ⟨T, _, h1, h2, rfl⟩
  cases d with
  | non => rw [h.non] at *; exact go "NoneType" (.base .non) (by cases t <;> simp only [isTy, tyStr] <;> decide +kernel) rfl
  | bl b => rw [h.bl] at *; exact go "bool" (.base (.bl b)) (by cases t <;> simp only [isTy, tyStr] <;> decide +kernel) rfl
  | int b => rw [h.int] at *; exact go "int" (.base (.int b)) (by cases t <;> simp only [isTy, tyStr] <;> decide +kernel) rfl
  | str b => rw [h.str] at *; exact go "str" (.base (.str b)) (by cases t <;> simp only [isTy, tyStr] <;> decide +kernel) rfl
  | lst l =>
    obtain ⟨a, vs, rfl, h1, _⟩ := h.lst
    exact go "list" (.base (.lst h1)) (by cases t <;> simp only [isTy, tyStr] <;> decide +kernel) rfl
  | tup l =>
    obtain ⟨a, vs, rfl, h1, _⟩ := h.tup
    refine go "tuple" ?_ (by cases t <;> simp only [isTy, tyStr] <;> decide +kernel) rfl
    rcases h1 with (h1 | ⟨o, h1⟩) | ⟨o, its, n, hk, hc, _⟩
    · exact .base (.tup h1)
    · exact .fTuple h1
    · exact .kTuple hk hc
  | _ => cases e
theorem s_isi {e : Expr} {ma : ME} {n : Str} {t : Ty} {p1 p2 pos : Pos} (ok : Okk g X) (hg : Gl X "isinstance") (hm : X.mg "isinstance" = none) (hgt : Gl X n) (hmt : X.mg n = none) (hv : bootBuiltins n = some (.type (tyStr t))) (hn : n ≠ "__name__") (hd : (n == ("__debug__" : Str)) = false)
    (ha : PE X e (tE g E ma)) (hs : starEach [e, .Name n p2] X.env = (false, eval e X.env) :: starEach [.Name n p2] X.env := by rfl) (hs2 : starEach [.Name n p2] X.env = (false, eval (.Name n p2) X.env) :: starEach [] X.env := by rfl)
    (hpl : (backTo pos (starEach [.Name n p2] X.env)).any (·.1) = false := by rfl) : PE X (.Call (.Name "isinstance" p1) [e, .Name n p2] [] pos) (tE g E (mOp1 (fIsi t) ma)) := by
  refine PE.sub (pe_callB call_isi hg hm PyProof.Rows.boot_isinstance (pa_cons ha (pa_cons (pe_bltn (v := .ty (tyStr t)) hgt hmt hv rfl hn hd) pa_nil hs2) hs) (by decide) (by decide) hs hpl) fun σ H Q h => ?_
  have := one (r1 := rM1 g (fIsi t)) (sem1 g (fIsi t)) h
  obtain ⟨ρ, F, R, h⟩ := h
  refine ⟨ρ, F, R, (h.at SF.refl).mono fun p ρ1 H1 F1 R1 s1 h1 x rx => ?_⟩
  obtain ⟨s, h1⟩ := h1
  cases e1 : deref ρ1 p with
  | none => simp only [e1] at h1; exact h1.no.elim
  | some dx =>
    cases e3 : fIsi t dx with
    | none => simp only [e1, e3] at h1; exact h1.no.elim
    | some o =>
      simp only [e1, e3] at h1
      obtain ⟨T, b, ty, kb, rfl⟩ := seen_ty (deref_ok R1 rx e1) t o e3
      exact ⟨x, .ty (tyStr t), .type T, .type (tyStr t), b, rfl, .ty _, by rw [ok.K]; exact ty, by rw [ok.K]; exact kit_ty kb, h1.ret R1 s _ (.bl b)⟩
theorem o_ix (ok : Okk g X) : IxR X (rM g fIx) := o_ixH ok.toOkh
theorem c_len (ok : Okk g X) : CallR X (.builtin "len") (fun xs H Q => ∃ x, xs = [x] ∧ rM1 g gLen x H Q) := c_lenH ok.toOkh
end
end Mm
-- text S15
set_option Elab.async false
set_option linter.all false
set_option maxRecDepth 100000
set_option maxHeartbeats 1000000
/-! S15: what changes objects; several names at once. -/
namespace Mm
open PySem PySem.Spec PyProof.Rows L2
section
variable {g : Gr} {σ σ0 σ' σ1 σ2 : Sg} {H H' H0 H1 H2 : Hp} {F F0 F' F1 F2 : Addr → Prop} {ρ ρ0 ρ' ρ1 ρ2 : Env} {a : Addr} {v : V} {r : R} {d d' k c c' : D} {i j n : Nat} {E : XK} {X : Cx} {x y o e : Expr} {l : List (D × D)} {kvs : List (D × V × V)} {De : Ends} {ma mb mc : ME} {pos p1 p2 : Pos}
theorem keepU {u : HO} (n : ¬ F a) (h : H a = some u) (nt : ∀ z, u ≠ .tup z) (nf : ∀ p q, u ≠ .frz p q) {o' : HO} : Keep H (upd H a o') F F :=
  ⟨fun _ h => h, fun b w f e => by rw [upd_ne (fun z => n (by rw [← z]; exact f))]; exact e, fun b w t e => by
    rw [upd_ne (fun z => ?_)]
    · exact e
    · subst z
      rw [h] at e; cases e
      obtain ⟨z, e | ⟨p, q, e⟩⟩ := t
      · exact nt z e
      · exact nf p q e⟩
/-- the object of a slot is changed -/
theorem Rel.chg {c0 c1 : C} {o' : HO} (R : Rel g σ H F ρ) (hc : ρ[i]? = some c0) (h0 : (c0 = .ow d ∧ c1 = .ow d') ∨ (c0 = .bo d ∧ c1 = .bo d')) (hs : σ[i]? = some (some (.ref a))) (t : Top g (upd H a o') F a d') (no : ∀ u c q, H a = some u → u ≠ LamX.CodeO c q) :
    Rel g σ (upd H a o') F (ρ.set i c1) ∧ SF σ ρ H F σ (ρ.set i c1) (upd H a o') F := by
  have o0 : isOb c0 = some d := by rcases h0 with ⟨rfl, _⟩ | ⟨rfl, _⟩ <;> rfl
  have o1 : isOb c1 = some d' := by rcases h0 with ⟨_, rfl⟩ | ⟨_, rfl⟩ <;> rfl
  obtain ⟨a', hs', nf, t0⟩ := R.own i c0 d hc o0
  rw [hs] at hs'; cases hs'
  obtain ⟨u, hu, u1, u2, u3⟩ := t0.there
  have k : Keep H (upd H a o') F F := keepU nf hu u1 u2
  have ow : Own σ ρ a := by
    rcases h0 with ⟨rfl, _⟩ | ⟨rfl, _⟩
    · exact ⟨i, d, .inl hc, hs⟩
    · exact ⟨i, d, .inr hc, hs⟩
  have dn : Down c0 c1 := by
    rcases h0 with ⟨rfl, rfl⟩ | ⟨rfl, rfl⟩
    · exact .oo _ _
    · exact .bb _ _
  refine ⟨⟨by rw [List.length_set]; exact R.len, fun j c e q p => ?_, fun j c e q p => ?_, fun j m c e x y b ne q1 q2 p1 p2 s1 => ?_, fun b f => ?_, tabs_upd hu u3 (fun c q => no u c q hu) R.tab⟩, ?_⟩
  · rcases set_get q hc with ⟨rfl, rfl⟩ | ⟨_, q⟩
    · cases c <;> simp [isVal] at p <;> simp [isOb] at o1
    · obtain ⟨w, s, z⟩ := R.val j c e q p
      exact ⟨w, s, z.kept k⟩
  · rcases set_get q hc with ⟨rfl, rfl⟩ | ⟨nj, q⟩
    · rw [o1] at p; cases p
      exact ⟨a, hs, nf, t⟩
    · obtain ⟨b, s, n, z⟩ := R.own j c e q p
      refine ⟨b, s, n, z.kept k fun w hw => ?_⟩
      rw [upd_ne (fun z => R.inj j i c c0 e d a nj q hc p o0 (by rw [← z]; exact s) hs)]
      exact hw
  · have old : ∀ {j : Nat} {c : C} {z : D}, (ρ.set i c1)[j]? = some c → isOb c = some z → ∃ c' z', ρ[j]? = some c' ∧ isOb c' = some z' := fun {j c z} e o => by
      rcases set_get e hc with ⟨rfl, rfl⟩ | ⟨_, e⟩
      · exact ⟨c0, d, hc, o0⟩
      · exact ⟨c, z, e, o⟩
    obtain ⟨c2, z2, e2, q2'⟩ := old q1 p1
    obtain ⟨c3, z3, e3, q3'⟩ := old q2 p2
    exact R.inj j m c2 c3 z2 z3 b ne e2 e3 q2' q3' s1
  · obtain ⟨w, hw, z⟩ := R.fz b f
    exact ⟨w, k.ob b w f hw, z⟩
  · have s1 : SF σ ρ H F σ ρ (upd H a o') F := ⟨fun _ h => h, fun _ h => .inl h, fun b w e n t => by rw [upd_ne (fun z => n (by rw [z]; exact ow))]; exact e, fun b w e => by
      by_cases z : b = a
      · subst z; exact ⟨_, upd_same⟩
      · exact ⟨w, by rw [upd_ne z]; exact e⟩, fun _ h => .inl h, fun _ h => .inl h, fun i d e => ⟨⟨d, .inl e⟩, rfl⟩, fun i d e => ⟨e, rfl⟩, fun i d e => ⟨e, rfl⟩, rfl⟩
    exact s1.setCell hc dn (fun z e => by rcases h0 with ⟨_, h⟩ | ⟨_, h⟩ <;> rw [h] at e <;> cases e)
theorem isOwn_get (h : isOwn ρ i = some d) : ρ[i]? = some (.ow d) ∨ ρ[i]? = some (.bo d) := by
  unfold isOwn at h
  split at h
  · rename_i e; cases h; exact .inl e
  · rename_i e; cases h; exact .inr e
  · cases h
/-- .. from the slot's place -/
theorem Rel.chg' {o' : HO} (R : Rel g σ H F ρ) (h1 : isOwn ρ i = some d) (h2 : setOwn ρ i d' = some ρ') (hs : σ[i]? = some (some (.ref a))) (t : Top g (upd H a o') F a d') (no : ∀ u c q, H a = some u → u ≠ LamX.CodeO c q) :
    Rel g σ (upd H a o') F ρ' ∧ SF σ ρ H F σ ρ' (upd H a o') F := by
  unfold setOwn at h2
  rcases isOwn_get h1 with e | e
  · rw [e] at h2; cases h2
    exact R.chg e (.inl ⟨rfl, rfl⟩) hs t no
  · rw [e] at h2; cases h2
    exact R.chg e (.inr ⟨rfl, rfl⟩) hs t no
/-! ### o[k] = v -/
def rSetM (g : Gr) : TSet := fun o i v H Q => ∃ (F : Addr → Prop) (a : Addr) (c k d c' : D), o = .ref a ∧ ¬ F a ∧ Top g H F a c ∧ Seen g H F k i ∧ Dv g H F d v ∧ putIx c k d = some c' ∧
  ∀ o', Top g (upd H a o') F a c' → (∀ u c q, H a = some u → u ≠ LamX.CodeO c q) → Q (upd H a o')
theorem DvL.set {l : List D} {vs : List V} (t : DvL g H F l vs) (z : Dv g H F d v) : ∀ n : Nat, DvL g H F (l.set n d) (vs.set n v) := by
  intro n
  induction l generalizing vs n with
  | nil => cases t; exact .nil
  | cons x xs ih =>
    cases t with
    | cons r s =>
      cases n with
      | zero => exact .cons z s
      | succ n => exact .cons r (ih s n)
theorem not_code {pins : List (Addr × Obj)} {s : Shared} {o : Obj} (I : Inv X pins σ H s) (h : H a = some (dO g.w a o kvs)) : ∀ u c q, H a = some u → u ≠ LamX.CodeO c q := fun u c q e z => by
  subst z
  obtain ⟨es, ep, D0⟩ := dictAt I h
  rw [h] at e
  have e : dO g.w a o kvs = LamX.CodeO c q := Option.some.inj e
  have p2 : ∀ h' : Heap, (h'.get? a = some o ∧ DictIs g.w o kvs ∧ (a == sysModules) = false ∧ kvs.length ≤ sizeLine) = (∃ (oc : Obj) (vs : Array Value) (t : Tok), h'.get? c = some oc ∧ oc.data = .fields vs ∧ vs[1]? = some (.str q t)) := fun h' => by
    unfold dO LamX.CodeO at e
    have e := HO.ext.inj e
    exact congrFun e h'
  obtain ⟨⟨l1, l2, l3, l4⟩, _, _⟩ := I.hok a _ h
  by_cases hc : a = c
  · have q2 : _ := (p2 s.heap).mp ⟨l1, l2, l3, l4⟩
    obtain ⟨oc, vs, t, h1, h2, _⟩ := q2
    rw [← hc, l1] at h1; cases h1
    obtain ⟨_, es, ep, hd, _⟩ := l2
    rw [hd] at h2; cases h2
  · obtain ⟨G', g1, g2⟩ := restrict s.heap fun b => decide (b ≠ c)
    have q2 := (p2 G').mp ⟨(g1 a (decide_eq_true hc)).trans l1, l2, l3, l4⟩
    obtain ⟨oc, vs, t, h1, _⟩ := q2
    rw [g2 c (by simp)] at h1; cases h1
theorem keys_put {l : List (D × D)} (kg : KeysGood l) (hk : keyOk l k = true) (v : D) : KeysGood (dput l k v) := by
  obtain ⟨k1, k2, kc⟩ := keyOk_cases hk kg
  have hb : ∀ p ∈ l, D.hb p.1 = true := fun p hp => by
    rcases kc with ⟨_, lf⟩ | ⟨_, lf⟩
    · exact leaf_hb (lf p hp)
    · exact (lf p hp).2.2
  unfold dput
  split
  · have e : ∀ l : List (D × D), (l.map fun p => if D.eqb p.1 k = true then (p.1, v) else p).map (fun p => p.1) = l.map (fun p => p.1) := fun l => by
      induction l with
      | nil => rfl
      | cons p l ih =>
        simp only [List.map_cons, ih]
        congr 1
        split <;> rfl
    have mem : ∀ p ∈ l.map (fun p => if D.eqb p.1 k = true then (p.1, v) else p), ∃ q ∈ l, p.1 = q.1 := fun p hp => by
      obtain ⟨q, hq, rfl⟩ := List.mem_map.mp hp
      refine ⟨q, hq, ?_⟩
      split <;> rfl
    refine ⟨?_, ?_⟩
    · have := kg.1
      have e2 : (l.map fun p => if D.eqb p.1 k = true then (p.1, v) else p).map (fun p => toNK p.1) = l.map (fun p => toNK p.1) := by
        have := congrArg (List.map toNK) (e l)
        simpa [List.map_map, Function.comp_def] using this
      rw [e2]; exact this
    · rcases kg.2 with kg | kg
      · refine .inl fun p hp => ?_
        obtain ⟨q, hq, e⟩ := mem p hp
        rw [e]; exact kg q hq
      · refine .inr fun p hp => ?_
        obtain ⟨q, hq, e⟩ := mem p hp
        rw [e]; exact kg q hq
  · rename_i hn
    have nn : ∀ p ∈ l, toNK p.1 ≠ toNK k := fun p hp e => by
      have : D.eqb p.1 k = true := by rw [eqb_nk _ _ (hb p hp) k2]; exact decide_eq_true e
      apply hn
      unfold dget
      rw [Option.isSome_map, List.find?_isSome]
      exact ⟨p, hp, this⟩
    refine ⟨?_, ?_⟩
    · rw [List.map_append, List.nodup_append]
      refine ⟨kg.1, by simp, fun a ha b hb e => ?_⟩
      obtain ⟨p, hp, rfl⟩ := List.mem_map.mp ha
      simp at hb
      exact nn p hp (e.trans hb)
    · rcases kc with ⟨lk, lf⟩ | ⟨lk, lf⟩
      · refine .inr fun p hp => ?_
        rcases List.mem_append.mp hp with hp | hp
        · exact lf p hp
        · simp at hp; rw [hp]; exact lk
      · refine .inl fun p hp => ?_
        rcases List.mem_append.mp hp with hp | hp
        · exact lf p hp
        · simp at hp; rw [hp]; exact ⟨lk, k1, k2⟩
theorem dput_len {l : List (D × D)} {v : D} : (dput l k v).length ≤ l.length + 1 := by
  unfold dput
  split <;> simp
/-- the dict's new object -/
theorem VR.put {κ β : Type} [DecidableEq κ] {kf : D → κ} {rb : V → V → β → Prop} {xs : List (κ × β)} {b : β} {up : β → β} {kv : V} (h : VR g H F kf rb l kvs xs) (eq : ∀ p ∈ l, D.eqb p.1 k = decide (kf p.1 = kf k)) (hk : Dv g H F k kv) (hd : Dv g H F d v) (hb : rb kv v b) (hu : ∀ kv w b, rb kv w b → rb kv v (up b)) :
    ∃ kvs', VR g H F kf rb (dput l k d) kvs' (if (findK xs (kf k)).isSome then xs.map (fun x => if x.1 = kf k then (x.1, up x.2) else x) else xs ++ [(kf k, b)]) := by
  obtain ⟨f0, f1⟩ := h.find eq
  unfold dput
  cases e : dget l k with
  | none =>
    rw [f0 e]
    exact ⟨_, h.snoc hk hd hb⟩
  | some z =>
    obtain ⟨_, _, b', e2, _⟩ := f1 z e
    rw [e2]
    exact h.repl eq hd hu
theorem set_m (ok : Okk g X) : PSet X (rSetM g) := by
  intro pins s σ H o i v ov iv u Q I ro ri rv h
  obtain ⟨F, a, c, k, d, c', rfl, nf, t, hk, hd, ep, q⟩ := h
  cases ro
  cases c with
  | lst l =>
    cases k with
    | int j =>
      simp only [putIx] at ep
      split at ep
      · rename_i m hm
        cases ep
        obtain ⟨vs, h1, t1⟩ := t
        have ei := hk.int
        subst ei
        have nc : ∀ u c q, H a = some u → u ≠ LamX.CodeO c q := fun u c q e z => by
          rw [h1] at e; cases e
          unfold LamX.CodeO at z; cases z
        have hm' : ixN vs.length j = some m := by rw [← t1.length]; exact hm
        have q2 := q (.lst (vs.set m v)) ⟨_, upd_same, (t1.set hd m).kept (keepU nf h1 (fun _ z => by cases z) (fun _ _ z => by cases z))⟩ nc
        exact set_list pins s σ H (.ref a) (.int j) v (.ref a) iv u Q I rfl ri rv ⟨a, vs, j, m, rfl, rfl, h1, hm', q2⟩
      · cases ep
    | _ => cases ep
  | dic l =>
    simp only [putIx] at ep
    split at ep
    · rename_i hc
      cases ep
      simp only [Bool.and_eq_true, decide_eq_true_eq] at hc
      obtain ⟨ob, kvs, h1, kg, t1⟩ := t
      have hk := hk.key (keyOk_hb hc.1)
      obtain ⟨es, ep, D0⟩ := dictAt I h1
      obtain ⟨k1, k2, kc⟩ := keyOk_cases hc.1 kg
      have nc := not_code I h1
      have hz : (dput l k d).length ≤ sizeLine := by have := dput_len (l := l) (k := k) (v := d); rw [sizeLine_eq]; have := hc.2; unfold big at this; omega
      -- the end, of both kinds
      have fin : ∀ {h' : Heap} {tk : Nat} {o' : Obj} {kvs' : List (D × V × V)}, Heap.SameBut a s.heap h' → h'.get? a = some o' → DictIs g.w o' kvs' → DvK g H F (dput l k d) kvs' → ∃ H', Inv X pins σ H' { s with heap := h', toks := tk } ∧ Q H' := fun {h' tk o' kvs'} sb ho hi tv => by
        refine ⟨upd H a (dO g.w a o' kvs'), d_write I (by rw [h1]; exact True.intro) sb ⟨o', ho⟩ ⟨⟨ho, hi, D0.sys, by rw [← DvK.length tv]; exact hz⟩, ⟨o', ho⟩, fun h1 h2 ⟨p1, p2⟩ k => ⟨k _ p1, p2⟩⟩, q _ ⟨o', kvs', upd_same, keys_put kg hc.1 d, tv.kept (keepU nf h1 (fun _ => dO_tup) (fun _ _ => dO_frz))⟩ nc⟩
      rcases kc with ⟨lk, lf⟩ | ⟨lk, lf⟩
      · obtain ⟨vs, dd, vr⟩ := leafView (P := X.prog) D0 t1 lf kg.1
        obtain ⟨kvs', vr'⟩ := vr.put (k := k) (d := d) (b := u) (up := fun _ => u) (fun p hp => leaf_eq (lf p hp) lk) hk hd rv (fun _ _ _ _ => rv)
        rw [dv_leaf hk lk] at ri
        have hl : vs.length ≤ sizeLine := by rw [vr.length.1, sizeLine_eq]; have := hc.2; unfold big at this; omega
        rw [ok.w]
        refine wpAny_setItem_pairs (hsz := hl) (kV_is ri) dd fun h' dd' hs => ?_
        have e : stored vs (leafKey k) u = (if (findK vs (leafKey k)).isSome then vs.map (fun x => if x.1 = leafKey k then (x.1, u) else x) else vs ++ [(leafKey k, u)]) := by
          unfold stored
          have : (vs.any fun kv => decide (kv.1 = leafKey k)) = (findK vs (leafKey k)).isSome := by
            unfold findK
            rw [Option.isSome_map, Bool.eq_iff_iff, List.find?_isSome, List.any_eq_true]
          rw [this]
        rw [e] at dd'
        obtain ⟨o', ho, hi⟩ := leafIs dd' vr' (by
          have := keys_put kg hc.1 d
          intro p hp
          rcases this.2 with z | z
          · have := (z p hp).1
            unfold dput at hp
            split at hp
            · obtain ⟨q, hq, rfl⟩ := List.mem_map.mp hp
              have := lf q hq
              split <;> exact this
            · rcases List.mem_append.mp hp with hp | hp
              · exact lf p hp
              · simp at hp; rw [hp]; exact lk
          · exact z p hp)
        exact fin (tk := s.toks + 1) hs ho hi vr'.dvk
      · obtain ⟨xs, dd, vr⟩ := tupView ok.K I D0 t1 lf kg.1
        obtain ⟨qa, rfl⟩ := tup_ref hk lk
        cases ri
        obtain ⟨kvs', vr'⟩ := vr.put (k := k) (d := d) (b := (qa, u)) (up := fun p => (p.1, u)) (fun p hp => eqb_nk _ _ (lf p hp).2.2 k2) hk hd ⟨rfl, rv⟩ (fun _ _ _ z => ⟨z.1, rv⟩)
        have ki : (nestedKind X.prog g.w).is s.heap (toNK k) qa := ⟨nested_of ok.K I hk (u := .ref qa) rfl k2, sh_depth k1 k2⟩
        have hl : xs.length ≤ sizeLine := by rw [vr.length.1, sizeLine_eq]; have := hc.2; unfold big at this; omega
        rw [ok.w]
        refine wpAny_setItem_heap (hsz := hl) (in1_room ok.u) ki dd fun h' dd' hs => ?_
        have e : storedH xs (toNK k) qa u = (if (findK xs (toNK k)).isSome then xs.map (fun x => if x.1 = toNK k then (x.1, (x.2.1, u)) else x) else xs ++ [(toNK k, (qa, u))]) := by
          unfold storedH
          rw [atKey_findK]
          rfl
        rw [e] at dd'
        obtain ⟨o', ho, hi⟩ := tupIs dd' vr'
        have := fin (tk := s.toks + (nestedKind X.prog g.w).draws (toNK k)) hs ho hi vr'.dvk
        exact this
    · cases ep
  | _ => cases ep
end
end Mm
-- text S16
set_option Elab.async false
set_option linter.all false
set_option maxRecDepth 100000
set_option maxHeartbeats 1000000
/-! S16: statements that change objects; pairs. -/
namespace Mm
open PySem PySem.Spec PyProof.Rows L2
section
variable {g : Gr} {σ σ0 σ' σ1 σ2 : Sg} {H H' H0 H1 H2 : Hp} {F F0 F' F1 F2 : Addr → Prop} {ρ ρ0 ρ' ρ1 ρ2 : Env} {a : Addr} {v : V} {r : R} {d d' k c c' : D} {i j n : Nat} {E : XK} {X : Cx} {x y o e b : Expr} {l : List (D × D)} {kvs : List (D × V × V)} {De : Ends} {ma mb mc mo mk mv : ME} {pos p1 p2 p3 : Pos} {md : MD} {es : List Expr}
theorem s_setix (ok : Okk g X) (hv : PE X e (tE g E mv)) (ho : PE X o (tE g E mo)) (hk : PE X x (tE g E mk)) (hs : swapsWithSole [.Subscript o x p1] e pos.line X.env = pure false := by rfl) (hw : swappedStores [.Subscript o x p1] e X.env = pure none := by rfl)
    (h1 : (assignEach [.Subscript o x p1] X.env).map (·.2) = [assign (.Subscript o x p1) X.env] := by rfl)
    (ha : ∀ v, assign (.Subscript o x p1) X.env v = (do
      let ov ← holding [v] (eval o X.env)
      let iv ← holding [v, ov] (eval x X.env)
      standAt p1
      holding [v, ov, iv] (setItem ov iv v)
      release [v, ov, iv] []) := by intro _; rfl) : PS X (.Assign [.Subscript o x p1] e pos) (tS g E (mSetIx mo mk mv)) := by
  refine PS.sub (ps_asg hv (pg_sub ho hk (set_m ok) ha) hs hw h1) fun De σ H h => ?_
  obtain ⟨ρ, F, R, h⟩ := h
  refine ⟨ρ, F, R, (h.at SF.refl).mono fun z ρ1 H1 F1 R1 s1 h1 v rv => ⟨ρ1, F1, R1, (h1.2.at h1.1).mono fun x ρ2 H2 F2 R2 s2 h2 o ro => ⟨ρ2, F2, R2, (h2.2.at h2.1).mono fun y ρ3 H3 F3 R3 s3 h3 i ri => ?_⟩⟩⟩
  obtain ⟨s, h3⟩ := h3
  have rv3 := (rv.kept R1 s2).kept R2 s3
  cases ez : frz z ρ3 with
  | none => simp only [ez] at h3; exact h3.no.elim
  | some q =>
    obtain ⟨d, ρ4⟩ := q
    simp only [ez] at h3
    obtain ⟨F4, R4, s4, dv, up⟩ := frz_ok R3 s rv3 ez
    cases x with
    | sl m =>
      simp only at h3
      cases ey : deref ρ4 y with
      | none => simp only [ey] at h3; exact h3.no.elim
      | some kd =>
        simp only [ey] at h3
        cases ei : isOwn ρ4 m with
        | none => simp only [ei] at h3; exact h3.no.elim
        | some c =>
          simp only [ei] at h3
          cases ep : putIx c kd d with
          | none => simp only [ep] at h3; exact h3.no.elim
          | some c' =>
            simp only [ep] at h3
            cases eo : setOwn ρ4 m c' with
            | none => simp only [eo] at h3; exact h3.no.elim
            | some ρ5 =>
              simp only [eo] at h3
              have ro : σ[m]? = some (some o) := ro
              obtain ⟨b, sb, nf, t⟩ : ∃ b, σ[m]? = some (some (V.ref b)) ∧ ¬ F4 b ∧ Top g H3 F4 b c := by
                rcases isOwn_get ei with e | e
                · exact R4.own m _ c e rfl
                · exact R4.own m _ c e rfl
              rw [ro] at sb; cases sb
              -- the key, behind the freezing of the value
              have sk : Seen g H3 F4 kd i := by
                have kp : Keep H3 H3 F3 F4 := ⟨up, fun _ _ _ h => h, fun _ _ _ h => h⟩
                cases y with
                | va d => cases ey; exact .val (Dv.kept kp ri)
                | sl q => exact deref_ok R4 (H0 := H2) (r := .sl q) ri ey
                | ow d =>
                  cases ey
                  obtain ⟨b', rfl, _, _, _, tk⟩ := ri
                  exfalso
                  cases kd with
                  | lst _ =>
                    cases c with
                    | lst _ => simp [putIx] at ep
                    | dic l =>
                      simp only [putIx] at ep
                      split at ep
                      · rename_i hc
                        simp only [Bool.and_eq_true] at hc
                        have := keyOk_hb hc.1
                        simp [D.hb] at this
                      · cases ep
                    | _ => simp [putIx] at ep
                  | dic _ =>
                    cases c with
                    | lst _ => simp [putIx] at ep
                    | dic l =>
                      simp only [putIx] at ep
                      split at ep
                      · rename_i hc
                        simp only [Bool.and_eq_true] at hc
                        have := keyOk_hb hc.1
                        simp [D.hb] at this
                      · cases ep
                    | _ => simp [putIx] at ep
                  | _ => exact tk.elim
              refine ⟨F4, b, c, kd, d, c', rfl, nf, t, sk, dv, ep, fun o' t' no => ?_⟩
              obtain ⟨R5, s5⟩ := R4.chg' ei eo ro t' no
              exact h3.nx R5 (s4.trans s5)
    | _ => exact h3.no.elim
/-! ### methods of lists -/
def rMeth (g : Gr) (f : FM) : V → List V → Hp → VK → Prop := fun x xs H Q => ∃ (F : Addr → Prop) (a : Addr) (c c' : D) (ds : List D) (r : R), x = .ref a ∧ ¬ F a ∧ Top g H F a c ∧ DvL g H F ds xs ∧ f c ds = some (c', r) ∧
  ∀ o' v, Top g (upd H a o') F a c' → (∀ u c q, H a = some u → u ≠ LamX.CodeO c q) → (∃ d, r = .va d ∧ Dv g (upd H a o') F d v) → Q v (upd H a o')
theorem lst_nc {vs : List V} (h : H a = some (.lst vs)) : ∀ u c q, H a = some u → u ≠ LamX.CodeO c q := fun u c q e z => by
  rw [h] at e; cases e
  unfold LamX.CodeO at z; cases z
theorem DvL.dropLast {l : List D} {vs : List V} (t : DvL g H F l vs) : DvL g H F l.dropLast vs.dropLast := by
  rw [List.dropLast_eq_take, List.dropLast_eq_take, t.length]
  exact t.take _
theorem DvL.eraseIdx {l : List D} {vs : List V} (t : DvL g H F l vs) : ∀ n : Nat, DvL g H F (l.eraseIdx n) (vs.eraseIdx n) := by
  intro n
  rw [List.eraseIdx_eq_take_drop_succ, List.eraseIdx_eq_take_drop_succ]
  exact (t.take _).append (t.drop _)
theorem m_append (ok : Okk g X) : MtR X "list.append" (rMeth g fAppend) := by
  intro pins s σ H x xs v us Q I rx rv h
  obtain ⟨F, a, c, c', ds, r, rfl, nf, t, td, ef, q⟩ := h
  cases c with
  | lst l =>
    match ds, td with
    | [d], .cons (v := y) td .nil =>
      simp only [fAppend] at ef
      split at ef
      · rename_i hc
        cases ef
        obtain ⟨vs, h1, t1⟩ := t
        have k : Keep H (upd H a (.lst (vs ++ [y]))) F F := keepU nf h1 (fun _ z => by cases z) (fun _ _ z => by cases z)
        exact mt_append pins s σ H _ _ v us Q I rx rv ⟨a, vs, _, rfl, rfl, h1, by rw [← t1.length, sizeLine_eq]; exact hc, q _ _ ⟨_, upd_same, (t1.append (.cons td .nil)).kept k⟩ (lst_nc h1) ⟨.non, rfl, .non⟩⟩
      · cases ef
    | [], _ => simp [fAppend] at ef
    | _ :: _ :: _, _ => simp [fAppend] at ef
  | _ => simp [fAppend] at ef
theorem m_pop (ok : Okk g X) : MtR X "list.pop" (rMeth g fPop) := by
  intro pins s σ H x xs v us Q I rx rv h
  obtain ⟨F, a, c, c', ds, r, rfl, nf, t, td, ef, q⟩ := h
  cases c with
  | lst l =>
    obtain ⟨vs, h1, t1⟩ := t
    match ds, td with
    | [], .nil =>
      simp only [fPop] at ef
      split at ef
      · rename_i d hd
        cases ef
        obtain ⟨w, hw, dw⟩ := t1.get hd
        rw [t1.length] at hw
        have k : Keep H (upd H a (.lst vs.dropLast)) F F := keepU nf h1 (fun _ z => by cases z) (fun _ _ z => by cases z)
        exact mt_pop pins s σ H _ _ v us Q I rx rv ⟨a, vs, w, rfl, rfl, h1, hw, q _ _ ⟨_, upd_same, t1.dropLast.kept k⟩ (lst_nc h1) ⟨d, rfl, dw.kept k⟩⟩
      · cases ef
    | [.int j], .cons td .nil =>
      cases td
      simp only [fPop] at ef
      split at ef
      · rename_i hb
        simp only [Bool.and_eq_true, decide_eq_true_eq] at hb
        split at ef
        · rename_i m hm
          split at ef
          · rename_i d hd
            cases ef
            obtain ⟨w, hw, dw⟩ := t1.get hd
            have hm' : ixN vs.length j = some m := by rw [← t1.length]; exact hm
            have k : Keep H (upd H a (.lst (vs.eraseIdx m))) F F := keepU nf h1 (fun _ z => by cases z) (fun _ _ z => by cases z)
            exact mt_popAt pins s σ H _ _ v us Q I rx rv ⟨a, vs, j, m, w, rfl, rfl, h1, hb.1, hb.2, (ixN_seq hm').1, hw, q _ _ ⟨_, upd_same, (t1.eraseIdx m).kept k⟩ (lst_nc h1) ⟨d, rfl, dw.kept k⟩⟩
          · cases ef
        · cases ef
      · cases ef
    | .non :: _, _ => simp [fPop] at ef
    | .bl _ :: _, _ => simp [fPop] at ef
    | .str _ :: _, _ => simp [fPop] at ef
    | .tup _ :: _, _ => simp [fPop] at ef
    | .lst _ :: _, _ => simp [fPop] at ef
    | .dic _ :: _, _ => simp [fPop] at ef
    | .obj _ :: _, _ => simp [fPop] at ef
    | .scr _ :: _, _ => simp [fPop] at ef
    | .int _ :: _ :: _, _ => simp [fPop] at ef
  | _ => simp [fPop] at ef
theorem methT {f : FM} (ok : Okk g X) (hf : ∀ c ds c' r, f c ds = some (c', r) → ∃ d, r = .va d) {Q : VK} (h : tE g E (mMeth f mo md) σ H Q) : tBM X.K "list" (rMeth g f) (tE g E mo) (tD g E md) σ H Q := by
  obtain ⟨ρ, F, R, h⟩ := h
  refine ⟨ρ, F, R, (h.at SF.refl).mono fun x ρ1 H1 F1 R1 s1 h1 o ro => ?_⟩
  obtain ⟨s, h1⟩ := h1
  cases el : isLstO (deref ρ1 x) with
  | false => simp only [el] at h1; exact h1.no.elim
  | true =>
    simp only [el, if_true] at h1
    refine ⟨?_, ρ1, F1, R1, (h1.at s).mono fun ds ρ2 H2 F2 R2 s2 h2 vs rs => ?_⟩
    · cases ed : deref ρ1 x with
      | none => rw [ed] at el; cases el
      | some c =>
        rw [ed] at el
        cases c with
        | lst l =>
          obtain ⟨a, us, rfl, h3, _⟩ := (deref_ok R1 ro ed).lst
          exact .inl ⟨rfl, us, SqL.of h3⟩
        | _ => cases el
    · obtain ⟨s', h2⟩ := h2
      cases x with
      | sl m =>
        simp only at h2
        cases ei : isOwn ρ2 m with
        | none => simp only [ei] at h2; exact h2.no.elim
        | some c =>
          simp only [ei] at h2
          cases ep : f c ds with
          | none => simp only [ep] at h2; exact h2.no.elim
          | some q =>
            obtain ⟨c', r⟩ := q
            simp only [ep] at h2
            cases eo : setOwn ρ2 m c' with
            | none => simp only [eo] at h2; exact h2.no.elim
            | some ρ5 =>
              simp only [eo] at h2
              have ro : σ[m]? = some (some o) := ro
              obtain ⟨b, sb, nf, t⟩ : ∃ b, σ[m]? = some (some (V.ref b)) ∧ ¬ F2 b ∧ Top g H2 F2 b c := by
                rcases isOwn_get ei with e | e
                · exact R2.own m _ c e rfl
                · exact R2.own m _ c e rfl
              rw [ro] at sb; cases sb
              refine ⟨F2, b, c, c', ds, r, rfl, nf, t, rs, ep, fun o' v t' no ⟨d, er, dv⟩ => ?_⟩
              subst er
              obtain ⟨R5, s5⟩ := R2.chg' ei eo ro t' no
              exact h2.ret R5 (s'.trans s5) v dv
      | _ => exact h2.no.elim
theorem append_va : ∀ c ds c' r, fAppend c ds = some (c', r) → ∃ d, r = .va d := fun c ds c' r h => by
  unfold fAppend at h
  split at h
  · split at h <;> cases h
    exact ⟨_, rfl⟩
  · cases h
theorem pop_va : ∀ c ds c' r, fPop c ds = some (c', r) → ∃ d, r = .va d := fun c ds c' r h => by
  unfold fPop at h
  split at h
  · split at h <;> cases h
    exact ⟨_, rfl⟩
  · split at h
    · split at h
      · split at h <;> cases h
        exact ⟨_, rfl⟩
      · cases h
    · cases h
  · cases h
theorem s_append (ok : Okk g X) (ho : PE X o (tE g E mo)) (ha : PA X [x] (tD g E md)) (hbase : attributeBase o "append" X.env (eval o X.env) = eval o X.env := by rfl)
    (hfew : ((backTo p2 (starEach [x] X.env)).all (fun x => !x.1) && (backToKw p2 (keywordEach [] X.env)).all (fun x => x.1.isSome) && decide ([x].length + ([] : List Keyword).length + (if ([] : List Keyword).isEmpty then 0 else 1) < 30)) = true := by rfl)
    (hline : (p1.endLine == p2.line) = true := by rfl) (hs : starEach [x] X.env = (false, eval x X.env) :: starEach [] X.env := by rfl) (hplain : (backTo p2 (starEach [] X.env)).any (·.1) = false := by rfl) :
    PE X (.Call (.Attribute o "append" p1) [x] [] p2) (tE g E (mMeth fAppend mo md)) :=
  PE.sub (pe_bm PySem.F.plainAttrs_list PySem.F.slot_list_append PySem.F.type_list_append (m_append ok) ho ha hbase hfew hline hs hplain) fun _ _ _ h => methT ok append_va h
theorem s_pop1 (ok : Okk g X) (ho : PE X o (tE g E mo)) (ha : PA X [x] (tD g E md)) (hbase : attributeBase o "pop" X.env (eval o X.env) = eval o X.env := by rfl)
    (hfew : ((backTo p2 (starEach [x] X.env)).all (fun x => !x.1) && (backToKw p2 (keywordEach [] X.env)).all (fun x => x.1.isSome) && decide ([x].length + ([] : List Keyword).length + (if ([] : List Keyword).isEmpty then 0 else 1) < 30)) = true := by rfl)
    (hline : (p1.endLine == p2.line) = true := by rfl) (hs : starEach [x] X.env = (false, eval x X.env) :: starEach [] X.env := by rfl) (hplain : (backTo p2 (starEach [] X.env)).any (·.1) = false := by rfl) :
    PE X (.Call (.Attribute o "pop" p1) [x] [] p2) (tE g E (mMeth fPop mo md)) :=
  PE.sub (pe_bm PySem.F.plainAttrs_list PySem.F.slot_list_pop PySem.F.type_list_pop (m_pop ok) ho ha hbase hfew hline hs hplain) fun _ _ _ h => methT ok pop_va h
/-! ### several names at once -/
theorem settle_ok {y : R} (R : Rel g σ H F ρ) (s : SF σ0 ρ0 H0 F0 σ ρ H F) (x : RelR g σ H0 ρ H F v r) (e : settle r ρ = some (y, ρ')) :
    ∃ F', Rel g σ H F' ρ' ∧ SF σ0 ρ0 H0 F0 σ ρ' H F' ∧ RelR g σ H0 ρ' H F' v y ∧ (∀ i, y ≠ .sl i) := by
  cases r with
  | va d => cases e; exact ⟨F, R, s, x, nofun⟩
  | ow d => cases e; exact ⟨F, R, s, x, nofun⟩
  | sl i =>
    unfold settle at e
    simp only at e
    cases ef : frz (.sl i) ρ with
    | none => rw [ef] at e; cases e
    | some q =>
      obtain ⟨d, ρ1⟩ := q
      rw [ef] at e; cases e
      obtain ⟨F', R', s', dv, _⟩ := frz_ok R s x ef
      exact ⟨F', R', s', dv, nofun⟩
/-- x behind the store of y -/
theorem RelR.over {y : R} {v w : V} (R : Rel g σ H F ρ) (x : RelR g σ H0 ρ H F v r) (hr : ∀ i, r ≠ .sl i) (y0 : (∃ d, r = .ow d) → ∀ d, y = .ow d → ∃ b, w = .ref b ∧ v ≠ .ref b) (up : ∀ b, F b → F' b) (ey : store j y ρ = some ρ') (hy : ∀ i, y ≠ .sl i)
    (fe : F' = F) : RelR g (σ.set j (some w)) H0 ρ' H F' v r := by
  subst fe
  cases r with
  | sl i => exact absurd rfl (hr i)
  | va d => exact x
  | ow d =>
    obtain ⟨a, rfl, n, nh, h0, t⟩ := x
    refine ⟨a, rfl, n, fun h => nh ?_, h0, t⟩
    obtain ⟨m, c, d', e, o, q⟩ := h.ob
    unfold store at ey
    cases hc : ρ[j]? with
    | none => rw [hc] at ey; cases ey
    | some c0 =>
      rw [hc] at ey
      cases np : isPin c0 with
      | true => simp only [np, if_true] at ey; cases ey
      | false =>
        simp only [np, Bool.false_eq_true, if_false] at ey
        cases y with
        | sl i => exact absurd rfl (hy i)
        | va d2 =>
          cases ey
          rcases get_set e with ⟨rfl, rfl, _⟩ | ⟨nm, e⟩
          · cases o
          · rw [List.getElem?_set_ne (Ne.symm nm)] at q
            exact held_of e o q
        | ow d2 =>
          cases ey
          rcases get_set e with ⟨rfl, rfl, hl⟩ | ⟨nm, e⟩
          · obtain ⟨b, rfl, nb⟩ := y0 ⟨_, rfl⟩ d2 rfl
            rw [List.getElem?_set_self (by rw [R.len]; exact hl)] at q
            cases q
            exact absurd rfl nb
          · rw [List.getElem?_set_ne (Ne.symm nm)] at q
            exact held_of e o q
theorem store_F {y : R} (R : Rel g σ H F ρ) (s : SF σ0 ρ0 H0 F0 σ ρ H F) (x : RelR g σ H0 ρ H F v y) (e : store i y ρ = some ρ') (hy : ∀ i, y ≠ .sl i) : Rel g (σ.set i (some v)) H F ρ' ∧ SF σ0 ρ0 H0 F0 (σ.set i (some v)) ρ' H F := by
  unfold store at e
  cases hc : ρ[i]? with
  | none => rw [hc] at e; cases e
  | some c =>
    rw [hc] at e
    cases np : isPin c with
    | true => simp only [np, if_true] at e; cases e
    | false =>
      simp only [np, Bool.false_eq_true, if_false] at e
      have np0 := s.pin0 hc np
      cases y with
      | va d =>
        cases e
        exact ⟨R.set1 (fun d' h => ⟨v, rfl, by cases h; exact x⟩) (fun d' h => by cases h), s.set1 np0 (fun a d' h => by cases h)⟩
      | ow d =>
        cases e
        obtain ⟨a, rfl, n, nh, h0, t⟩ := x
        exact ⟨R.set1 (fun d' h => by cases h) (fun d' h => ⟨a, rfl, n, by cases h; exact t, nh⟩), s.set1 np0 (fun b d' h e => by cases e; exact h0)⟩
      | sl j => exact absurd rfl (hy j)
/-- a, b settled, then stored -/
theorem par2T {i j : Nat} (hij : i ≠ j) (h : tS g E (mPar2 i j ma mb) De σ H) : tCons (tE g E ma) (tCons (tE g E mb) tNil) σ H fun vs H1 => ∃ v w, vs = [v, w] ∧ ∀ H2, Ext H1 H2 → De.nx ((σ.set i (some v)).set j (some w)) H2 := by
  obtain ⟨ρ, F, R, h⟩ := h
  unfold mPar2 mSettle at h
  -- the two results, settled
  obtain ⟨o, ρz, e, h⟩ := h
  cases ea : ma ρ with
  | none => rw [ea] at e; cases e
  | some q =>
    obtain ⟨q, ρ1⟩ := q
    rw [ea] at e
    cases q with
    | error z =>
      cases e
      exact ⟨ρ, F, R, .error z, _, ea, fun cls d H' F' R' s' => h cls d σ H' F' R' s'⟩
    | ok p =>
      refine ⟨ρ, F, R, .ok p, ρ1, ea, fun H1 F1 R1 s1 v rv => ?_⟩
      simp only [bnd] at e
      cases es : settle p ρ1 with
      | none => rw [es] at e; cases e
      | some q =>
        obtain ⟨x', ρ2⟩ := q
        rw [es] at e
        simp only [Mm.ret] at e
        obtain ⟨F2, R2, s2, x2, nx⟩ := settle_ok R1 s1 rv es
        cases eb : mb ρ2 with
        | none => rw [eb] at e; cases e
        | some q =>
          obtain ⟨q, ρ3⟩ := q
          rw [eb] at e
          cases q with
          | error z =>
            cases e
            exact ⟨ρ2, F2, R2, .error z, _, eb, fun cls d H' F' R' s' => h cls d σ H' F' R' (s2.trans s')⟩
          | ok p2 =>
            refine ⟨ρ2, F2, R2, .ok p2, ρ3, eb, fun H3 F3 R3 s3 w rw' => ?_⟩
            simp only at e
            cases es2 : settle p2 ρ3 with
            | none => rw [es2] at e; cases e
            | some q =>
              obtain ⟨y', ρ4⟩ := q
              rw [es2] at e
              simp only at e
              obtain ⟨F4, R4, s4, y4, ny⟩ := settle_ok R3 s3 rw' es2
              have x4 := x2.kept R2 s4
              cases e1 : store j y' ρ4 with
              | none => rw [e1] at e; cases e
              | some ρ5 =>
                rw [e1] at e
                simp only at e
                cases e2 : store i x' ρ5 with
                | none => rw [e2] at e; cases e
                | some ρ6 =>
                  rw [e2] at e
                  cases e
                  refine ⟨v, w, rfl, fun H5 ex => ?_⟩
                  -- apart: w's object came behind v's
                  have ap : (∃ d, x' = .ow d) → ∀ d, y' = .ow d → ∃ b, w = .ref b ∧ v ≠ .ref b := fun ⟨d', ex'⟩ d ed => by
                    subst ed ex'
                    obtain ⟨b, rfl, _, _, hb0, _⟩ := y4
                    refine ⟨b, rfl, fun ev => ?_⟩
                    subst ev
                    obtain ⟨b', e', _, _, _, t⟩ := x2
                    cases e'
                    obtain ⟨o, eo, _⟩ := t.there
                    rw [hb0] at eo; cases eo
                  have y4' := y4.weaken fun a n => s2.none_of n
                  obtain ⟨R5, s5⟩ := store_F R4 (s2.trans s4) y4' e1 ny
                  have x5 := RelR.over (F' := F4) R4 x4 nx ap (fun _ h => h) e1 ny rfl
                  obtain ⟨R6, s6⟩ := store_F R5 s5 x5 e2 nx
                  rw [List.set_comm _ _ hij]
                  exact h _ H5 F4 (R6.ext ex) (s6.ext_ ex)
theorem s_par2 {i j : Nat} {x y : Str} {a b : Expr} {px py pt pos : Pos} {kt k2 pt2} (ok : Okk g X) (hi : X.N[i]? = some x) (hj : X.N[j]? = some y) (hij : i ≠ j)
    (hx : X.env.scope.names.lookup x = some .local) (hy : X.env.scope.names.lookup y = some .local) (ha : PE X a (tE g E ma)) (hb : PE X b (tE g E mb))
    (hw : swappedStores [.Tuple [.Name x px, .Name y py] kt pt] (.Tuple [a, b] k2 pt2) X.env = pure (some [x, y]))
    (hs : swapsWithSole [.Tuple [.Name x px, .Name y py] kt pt] (.Tuple [a, b] k2 pt2) pos.line X.env = pure false := by rfl)
    (hs1 : starEach (a :: [b]) X.env = (false, eval a X.env) :: starEach [b] X.env := by rfl) (hs2 : starEach [b] X.env = (false, eval b X.env) :: starEach [] X.env := by rfl) :
    PS X (.Assign [.Tuple [.Name x px, .Name y py] kt pt] (.Tuple [a, b] k2 pt2) pos) (tS g E (mPar2 i j ma mb)) := by
  refine PS.sub (ps_par ok.calm ok.nd hi hj hij hx hy (pa_cons ha (pa_cons hb pa_nil hs2) hs1) hw hs) fun De σ H h => ?_
  obtain ⟨ρ, F, R, h⟩ := par2T hij h
  refine ⟨ρ, F, R, h.mono fun _ _ _ _ _ _ q v rv => ?_⟩
  obtain ⟨ρ, F, R, h⟩ := q v rv
  refine ⟨ρ, F, R, h.mono fun _ _ _ _ _ _ q w rw' => ?_⟩
  obtain ⟨v', w', e, q⟩ := q w rw'
  exact ⟨v', w', e, q _ Ext.refl⟩
/-- .. by way of the pair itself (a name that is captured) -/
theorem s_par2t {i j : Nat} {x y : Str} {a b : Expr} {px py pt pos : Pos} {kt k2 pt2} (ok : Okk g X) (hi : X.N[i]? = some x) (hj : X.N[j]? = some y) (hij : i ≠ j)
    (hx : Loc X.env.scope x) (hy : Loc X.env.scope y) (fx : X.fn x = true ∨ X.env.scope.names.lookup x = some .local) (fy : X.fn y = true ∨ X.env.scope.names.lookup y = some .local) (ha : PE X a (tE g E ma)) (hb : PE X b (tE g E mb))
    (hs : swapsWithSole [.Tuple [.Name x px, .Name y py] kt pt] (.Tuple [a, b] k2 pt2) pos.line X.env = pure false := by rfl) (hw : swappedStores [.Tuple [.Name x px, .Name y py] kt pt] (.Tuple [a, b] k2 pt2) X.env = pure none := by rfl)
    (h1 : (assignEach [.Tuple [.Name x px, .Name y py] kt pt] X.env).map (·.2) = [assign (.Tuple [.Name x px, .Name y py] kt pt) X.env] := by rfl)
    (hs1 : starEach (a :: [b]) X.env = (false, eval a X.env) :: starEach [b] X.env := by rfl) (hs2 : starEach [b] X.env = (false, eval b X.env) :: starEach [] X.env := by rfl)
    (h2 : (assignEach [.Name x px, .Name y py] X.env).map (·.2) = assign (.Name x px) X.env :: (assignEach [.Name y py] X.env).map (·.2) := by rfl) (h3 : (assignEach [.Name y py] X.env).map (·.2) = assign (.Name y py) X.env :: (assignEach [] X.env).map (·.2) := by rfl)
    (h4 : (assignEach [.Name x px, .Name y py] X.env).length = 2 := by rfl) (h5 : (assignEach [.Name x px, .Name y py] X.env).findIdx? (·.1) = none := by rfl) :
    PS X (.Assign [.Tuple [.Name x px, .Name y py] kt pt] (.Tuple [a, b] k2 pt2) pos) (tS g E (mPar2 i j ma mb)) := by
  refine PS.sub (ps_asg (pe_tup (pa_cons ha (pa_cons hb pa_nil hs2) hs1)) (pg_tup (n := 2) ok.calm (pgs_cons (pg_name ok.nd hi hx fx) (pgs_cons (pg_name ok.nd hj hy fy) pgs_nil h3) h2) h4 h5) hs hw h1) fun De σ H h => ?_
  obtain ⟨ρ, F, R, h⟩ := par2T hij h
  refine ⟨ρ, F, R, h.mono fun _ _ _ _ _ _ q v rv => ?_⟩
  obtain ⟨ρ, F, R, h⟩ := q v rv
  refine ⟨ρ, F, R, h.mono fun _ _ H' _ _ _ q w rw' => ?_⟩
  obtain ⟨v', w', e, q⟩ := q w rw'
  cases e
  exact ⟨by show 2 ≤ sizeLine; rw [sizeLine_eq]; decide, fun p hn => ⟨p, [v, w], rfl, SqT.of upd_same, rfl, v, [w], rfl, w, [], rfl, rfl, q _ (Ext.upd hn)⟩⟩
end
end Mm
-- text S17
set_option Elab.async false
set_option linter.all false
set_option maxRecDepth 100000
set_option maxHeartbeats 1000000
/-! S17: sorted, min, max. -/
namespace Mm
open PySem PySem.Spec PyProof.Rows L2
/-! ### sorting by insertion -/
def insG {α : Type} (lt : α → α → Bool) (x : α) : List α → List α
  | [] => [x]
  | y :: ys => if lt y x then y :: insG lt x ys else x :: y :: ys
def sortG {α : Type} (lt : α → α → Bool) : List α → List α
  | [] => []
  | x :: xs => insG lt x (sortG lt xs)
theorem insD_G (x : D) : ∀ l, insD x l = insG D.ltb x l
  | [] => rfl
  | y :: ys => by rw [insD, insG, insD_G x ys]
theorem sortD_G : ∀ l, sortD l = sortG D.ltb l
  | [] => rfl
  | x :: xs => by rw [sortD, sortG, sortD_G xs, insD_G]
section
variable {α : Type} {lt lt' : α → α → Bool}
theorem insG_perm (x : α) : ∀ l, (insG lt x l).Perm (x :: l)
  | [] => List.Perm.refl _
  | y :: ys => by
    rw [insG]
    split
    · exact ((insG_perm x ys).cons y).trans (List.Perm.swap x y ys)
    · exact List.Perm.refl _
theorem sortG_perm : ∀ l : List α, (sortG lt l).Perm l
  | [] => List.Perm.refl _
  | x :: xs => (insG_perm x _).trans ((sortG_perm xs).cons x)
theorem insG_congr (x : α) : ∀ l : List α, (∀ y ∈ l, lt y x = lt' y x) → insG lt x l = insG lt' x l
  | [], _ => rfl
  | y :: ys, h => by rw [insG, insG, h y (by simp), insG_congr x ys fun z hz => h z (by simp [hz])]
theorem sortG_congr : ∀ l : List α, (∀ x ∈ l, ∀ y ∈ l, lt x y = lt' x y) → sortG lt l = sortG lt' l
  | [], _ => rfl
  | x :: xs, h => by
    rw [sortG, sortG, sortG_congr xs fun a ha b hb => h a (by simp [ha]) b (by simp [hb])]
    exact insG_congr x _ fun y hy => h y (by simp [(sortG_perm xs).mem_iff.mp hy]) x (by simp)
theorem insG_sorted (asy : ∀ a b, lt a b = true → lt b a = false) (tr : ∀ a b c, lt b a = false → lt c b = false → lt c a = false) (x : α) : ∀ l : List α, l.Pairwise (fun a b => lt b a = false) → (insG lt x l).Pairwise fun a b => lt b a = false
  | [], _ => by simp [insG]
  | y :: ys, h => by
    rw [List.pairwise_cons] at h
    rw [insG]
    split
    · rename_i c
      rw [List.pairwise_cons]
      refine ⟨fun z hz => ?_, insG_sorted asy tr x ys h.2⟩
      rcases List.mem_cons.mp ((insG_perm x ys).mem_iff.mp hz) with rfl | hz
      · exact asy _ _ c
      · exact h.1 z hz
    · rename_i c
      have c : lt y x = false := by simpa using c
      rw [List.pairwise_cons, List.pairwise_cons]
      refine ⟨fun z hz => ?_, h⟩
      rcases List.mem_cons.mp hz with rfl | hz
      · exact c
      · exact tr _ _ _ c (h.1 z hz)
theorem sortG_sorted (asy : ∀ a b, lt a b = true → lt b a = false) (tr : ∀ a b c, lt b a = false → lt c b = false → lt c a = false) : ∀ l : List α, (sortG lt l).Pairwise fun a b => lt b a = false
  | [] => by simp [sortG]
  | x :: xs => insG_sorted asy tr x _ (sortG_sorted asy tr xs)
end
mutual
theorem eqb_alk_eq : ∀ a b : D, D.eqb a b = true → D.alk a b = true → a = b
  | .tup xs, .tup ys, h, k => by rw [eqbL_alk_eq xs ys (by simpa [D.eqb] using h) (by simpa [D.alk] using k)]
  | .lst xs, .lst ys, h, k => by rw [eqbL_alk_eq xs ys (by simpa [D.eqb] using h) (by simpa [D.alk] using k)]
  | .non, .non, _, _ => rfl
  | .bl a, .bl b, h, _ => by simp [D.eqb] at h; rw [h]
  | .int a, .int b, h, _ => by simp [D.eqb] at h; rw [h]
  | .str a, .str b, h, _ => by simp [D.eqb] at h; rw [h]
  | .tup _, .non, h, _ => by simp [D.eqb] at h
  | .tup _, .bl _, h, _ => by simp [D.eqb] at h
  | .tup _, .int _, h, _ => by simp [D.eqb] at h
  | .tup _, .str _, h, _ => by simp [D.eqb] at h
  | .tup _, .lst _, h, _ => by simp [D.eqb] at h
  | .tup _, .dic _, h, _ => by simp [D.eqb] at h
  | .tup _, .obj _, h, _ => by simp [D.eqb] at h
  | .tup _, .scr _, h, _ => by simp [D.eqb] at h
  | .lst _, .non, h, _ => by simp [D.eqb] at h
  | .lst _, .bl _, h, _ => by simp [D.eqb] at h
  | .lst _, .int _, h, _ => by simp [D.eqb] at h
  | .lst _, .str _, h, _ => by simp [D.eqb] at h
  | .lst _, .tup _, h, _ => by simp [D.eqb] at h
  | .lst _, .dic _, h, _ => by simp [D.eqb] at h
  | .lst _, .obj _, h, _ => by simp [D.eqb] at h
  | .lst _, .scr _, h, _ => by simp [D.eqb] at h
  | .non, .bl _, h, _ => by simp [D.eqb] at h
  | .non, .int _, h, _ => by simp [D.eqb] at h
  | .non, .str _, h, _ => by simp [D.eqb] at h
  | .non, .tup _, h, _ => by simp [D.eqb] at h
  | .non, .lst _, h, _ => by simp [D.eqb] at h
  | .non, .dic _, h, _ => by simp [D.eqb] at h
  | .non, .obj _, h, _ => by simp [D.eqb] at h
  | .non, .scr _, h, _ => by simp [D.eqb] at h
  | .bl _, .non, _, k => by simp [D.alk] at k
  | .bl _, .int _, _, k => by simp [D.alk] at k
  | .bl _, .str _, _, k => by simp [D.alk] at k
  | .bl _, .tup _, _, k => by simp [D.alk] at k
  | .bl _, .lst _, _, k => by simp [D.alk] at k
  | .bl _, .dic _, _, k => by simp [D.alk] at k
  | .bl _, .obj _, _, k => by simp [D.alk] at k
  | .bl _, .scr _, _, k => by simp [D.alk] at k
  | .int _, .non, _, k => by simp [D.alk] at k
  | .int _, .bl _, _, k => by simp [D.alk] at k
  | .int _, .str _, _, k => by simp [D.alk] at k
  | .int _, .tup _, _, k => by simp [D.alk] at k
  | .int _, .lst _, _, k => by simp [D.alk] at k
  | .int _, .dic _, _, k => by simp [D.alk] at k
  | .int _, .obj _, _, k => by simp [D.alk] at k
  | .int _, .scr _, _, k => by simp [D.alk] at k
  | .str _, .non, _, k => by simp [D.alk] at k
  | .str _, .int _, _, k => by simp [D.alk] at k
  | .str _, .bl _, _, k => by simp [D.alk] at k
  | .str _, .tup _, _, k => by simp [D.alk] at k
  | .str _, .lst _, _, k => by simp [D.alk] at k
  | .str _, .dic _, _, k => by simp [D.alk] at k
  | .str _, .obj _, _, k => by simp [D.alk] at k
  | .str _, .scr _, _, k => by simp [D.alk] at k
  | .dic _, _, h, _ => by simp [D.eqb] at h
  | .obj _, _, h, _ => by simp [D.eqb] at h
  | .scr _, _, h, _ => by simp [D.eqb] at h
theorem eqbL_alk_eq : ∀ a b : List D, D.eqbL a b = true → D.alkL a b = true → a = b
  | [], [], _, _ => rfl
  | [], _ :: _, h, _ => by simp [D.eqbL] at h
  | _ :: _, [], h, _ => by simp [D.eqbL] at h
  | x :: xs, y :: ys, h, k => by
    simp only [D.eqbL, D.alkL, Bool.and_eq_true] at h k
    rw [eqb_alk_eq x y h.1 k.1, eqbL_alk_eq xs ys h.2 k.2]
end
def ltP (a b : D) : Bool := PySem.W.dataLt (toP a) (toP b)
theorem ltP_asy (a b : D) (h : ltP a b = true) : ltP b a = false := by
  cases e : ltP b a with
  | false => rfl
  | true =>
    have := lex_trans (O := itemOrd) _ _ _ h e
    rw [lex_irrefl] at this; cases this
theorem ltP_tr (a b c : D) (h1 : ltP b a = false) (h2 : ltP c b = false) : ltP c a = false := by
  cases e : ltP c a with
  | false => rfl
  | true =>
    rcases lex_negTrans (O := itemOrd) _ (PySem.W.keyToks (toP b)) _ e with z | z
    · rw [show PyProof.Rows.lexLt itemOrd (PySem.W.keyToks (toP c)) (PySem.W.keyToks (toP b)) = ltP c b from rfl, h2] at z; cases z
    · rw [show PyProof.Rows.lexLt itemOrd (PySem.W.keyToks (toP b)) (PySem.W.keyToks (toP a)) = ltP b a from rfl, h1] at z; cases z
theorem ltP_anti {a b : D} (k : D.alk a b = true) (h1 : ltP a b = false) (h2 : ltP b a = false) : a = b := by
  have e : PySem.W.keyToks (toP a) = PySem.W.keyToks (toP b) := lex_total (O := itemOrd) _ _ h1 h2
  refine eqb_alk_eq a b ?_ k
  rw [eqb_eqv]
  cases q : PyData.eqv (toP a) (toP b) with
  | true => rfl
  | false =>
    have := (PySem.W.toks_eqv (toP a) (toP b) (by rw [← alk_alike]; exact k)).2 q [] [Sum.inl 0]
    rw [e, PySem.W.lex_pre, lex_irrefl] at this
    cases this
theorem sort_eq {l : List D} (al : ∀ x ∈ l, ∀ y ∈ l, D.alk x y = true) : l.mergeSort (PySem.W.dataLe false toP) = sortD l := by
  rw [sortD_G, sortG_congr (lt := D.ltb) (lt' := ltP) l fun x hx y hy => ltb_data x y (al x hx y hy)]
  have pm := List.mergeSort_perm l (PySem.W.dataLe false toP)
  have pg := sortG_perm (lt := ltP) l
  have e : PySem.W.dataLe false toP = fun a b => !ltP b a := by rw [PySem.W.dataLe_eq]; rfl
  refine List.Perm.eq_of_pairwise (le := fun a b => ltP b a = false) (fun a b ha hb h1 h2 => ?_) ?_ (sortG_sorted ltP_asy ltP_tr l) (pm.trans pg.symm)
  · exact ltP_anti (al _ (pm.mem_iff.mp ha) _ (pg.mem_iff.mp hb)) h2 h1
  · have := List.pairwise_mergeSort (le := PySem.W.dataLe false toP) (fun a b c h1 h2 => by
      rw [e] at h1 h2 ⊢
      simp only [Bool.not_eq_true'] at h1 h2 ⊢
      exact ltP_tr _ _ _ h1 h2) (fun a b => by
      rw [e]
      cases q : ltP b a with
      | false => simp [q]
      | true => simp [ltP_asy _ _ q]) l
    refine this.imp fun h => ?_
    rw [e] at h
    simpa using h
section
variable {g : Gr} {σ : Sg} {H H' : Hp} {F F' : Addr → Prop} {a : Addr} {v : V} {d k : D} {E : XK} {X : Cx} {x y : V}
theorem alkAll_of {l : List D} (h : alkAll l = true) : ∀ x ∈ l, ∀ y ∈ l, D.alk x y = true := fun x hx y hy => by
  unfold alkAll at h
  rw [List.all_eq_true] at h
  have := h x hx
  rw [List.all_eq_true] at this
  exact this y hy
/-- values that stand for deep ones -/
def EachV (g : Gr) (H : Hp) (F : Addr → Prop) (u : Value) (d : D) : Prop := ∃ x, RelV x u ∧ Dv g H F d x
theorem each_of {l : List D} {vs : List V} (t : DvL g H F l vs) {us : List Value} (r : Vals vs us) : PySem.W.EachIs (EachV g H F) us l := by
  induction l generalizing vs us with
  | nil => cases t; cases r; exact .nil
  | cons d l ih =>
    cases t with
    | cons t1 t2 =>
      cases r with
      | cons r1 r2 => exact .cons ⟨_, r1, t1⟩ (ih t2 r2)
theorem each_back {us : List Value} {l : List D} (h : PySem.W.EachIs (EachV g H F) us l) : ∃ vs, Vals vs us ∧ DvL g H F l vs := by
  induction h with
  | nil => exact ⟨[], .nil, .nil⟩
  | cons a _ ih =>
    obtain ⟨x, r, t⟩ := a
    obtain ⟨vs, rs, ts⟩ := ih
    exact ⟨x :: vs, .cons r rs, .cons t ts⟩
theorem each_reads {pins : List (Addr × Obj)} {s : Shared} (ok : Okk g X) (I : Inv X pins σ H s) {us : List Value} {l : List D} (h : PySem.W.EachIs (EachV g H F) us l) (sh : shL l = true) : PySem.W.EachIs (fun u d => ∃ as, Reads s.heap u (toP d) as) us l := by
  induction h with
  | nil => exact .nil
  | cons a t ih =>
    simp only [shL, List.all_cons, Bool.and_eq_true] at sh
    obtain ⟨x, r, t⟩ := a
    exact .cons (Dp.reads I _ _ _ (by rw [ok.K]; exact t.pl_dp (sh_pl sh.1)) r) (ih (by simpa [shL] using sh.2))
theorem sorted_fin {pins : List (Addr × Obj)} {s : Shared} (I : Inv X pins σ H s) {us out : List Value} {l : List D} {Q : VK} (e : PySem.W.EachIs (EachV g H F) out (sortD l)) (hl : l.length ≤ big) (w : Wants g H F (.ow (.lst (sortD l))) Q) :
    EP X pins σ Q (.ref (s.heap.objs.size + 1)) { s with heap := PyProof.Rows.sortedAll s.heap us out.toArray } := by
  obtain ⟨vs, r, t⟩ := each_back e
  obtain ⟨ep, he'⟩ := PyProof.Rows.sortedAll_at s.heap us out.toArray
  have hlen : vs.length ≤ sizeLine := by
    rw [← t.length, sortD_G, (sortG_perm l).length_eq, sizeLine_eq]; exact hl
  exact ⟨.ref _, upd H (s.heap.objs.size + 1) (.lst vs), I.laid (t' := s.toks) (fun _ _ => PyProof.Rows.sortedAll_old) (Nat.le_succ _) ⟨hlen, out, ep, r, by simpa using he'⟩, rfl, w.newL t (I.hok.fresh (Nat.le_succ _))⟩
theorem sortable_of {l : List D} (h : (l.all neTup || l.all fun x => !isTupD x && !isNon x) = true) : PySem.W.Sortable (l.map toP) := by
  rw [Bool.or_eq_true, List.all_eq_true, List.all_eq_true] at h
  rcases h with h | h
  · refine .inl fun d hd => ?_
    obtain ⟨z, hz, rfl⟩ := List.mem_map.mp hd
    have := h z hz
    cases z <;> simp [neTup] at this
    rename_i l'
    cases l' with
    | nil => simp [neTup] at this
    | cons x r => exact ⟨toP x, toPs r, by simp [toP, toPs]⟩
  · refine .inr fun d hd => ?_
    obtain ⟨z, hz, rfl⟩ := List.mem_map.mp hd
    have := h z hz
    simp only [Bool.and_eq_true, Bool.not_eq_true'] at this
    refine ⟨ne_non this.2, fun xs e => ?_⟩
    cases z <;> simp [toP] at e <;> simp [isTupD] at this
theorem allAlike_of {l : List D} (h : ∀ x ∈ l, ∀ y ∈ l, D.alk x y = true) : PySem.W.AllAlike (l.map toP) := fun d hd d' hd' => by
  obtain ⟨x, hx, rfl⟩ := List.mem_map.mp hd
  obtain ⟨y, hy, rfl⟩ := List.mem_map.mp hd'
  rw [← alk_alike]; exact h x hx y hy
def gSorted : F1 := fun d => fSorted [d]
/-- a dict of leaves as HandS tells it, for one step that only looks at it -/
theorem as_dK {α : Type} {pins : List (Addr × Obj)} {s : Shared} {o : Obj} {l : List (D × D)} {kvs : List (D × V × V)} {t : Sem Value} {Q : VK} (ok : Okk g X) (I : Inv X pins σ H s) (hd : H a = some (dO g.w a o kvs)) (kg : KeysGood l) (tv : DvK g H F l kvs) (lf : ∀ p ∈ l, isLeaf p.1 = true)
    (h : ∀ ks : List (L2.Key × V), ks.map (·.1) = l.map (fun p => leafKey p.1) → Inv X pins σ (upd H a (.frz o (.dK ks))) s →
      wpAny (model X.prog X.w) X.A t (EP X pins σ fun v H' => H' a = some (.frz o (.dK ks)) ∧ Q v (upd H' a (dO g.w a o kvs))) X.xe s) : wpAny (model X.prog X.w) X.A t (EP X pins σ Q) X.xe s := by
  obtain ⟨es, ep, D0⟩ := dictAt I hd
  obtain ⟨vs, dd, vr⟩ := leafView (P := X.prog) D0 tv lf kg.1
  have mk : ∃ ks : List (L2.Key × V), KV ks vs ∧ ks.map (·.1) = l.map (fun p => leafKey p.1) := by
    clear dd tv hd kg lf D0 h
    induction vr with
    | nil => exact ⟨[], .nil, rfl⟩
    | @cons k d kv v b l kvs xs h1 h2 h3 t ih =>
      obtain ⟨ks, r, e⟩ := ih
      exact ⟨(leafKey k, v) :: ks, .cons ⟨rfl, h3⟩ r, by simp [e]⟩
  obtain ⟨ks, rel, eks⟩ := mk
  obtain ⟨_, _, _, hz⟩ : s.heap.get? a = some o ∧ DictIs g.w o kvs ∧ (a == sysModules) = false ∧ kvs.length ≤ sizeLine := (I.hok a _ hd).1
  have hl : ks.length ≤ sizeLine := by
    have := congrArg List.length eks
    simp at this
    rw [this, vr.length.2.symm]; exact hz
  have dd' : s.heap.DictOf (mixKind X.prog X.w) a vs := by rw [ok.w]; exact dd
  have I1 : Inv X pins σ (upd H a (.frz o (.dK ks))) s :=
    I.write (x := a) (e := a) (t' := s.toks) (h' := s.heap) (by rw [hd]; exact True.intro) (.inl rfl) (fun b v _ q => q) ⟨o, D0.get⟩ ⟨D0.get, hl, D0.sys, vs, rel, dd'⟩
  refine thn (h ks eks I1) fun u s' ⟨v, H', I2, r, e, q⟩ => ?_
  have nf := I.nofrz hd (by exact True.intro)
  have I3 := I2.unlock e nf
  have hg : s'.heap.get? a = some o := (I2.hok a _ e).1
  have I4 : Inv X pins σ (upd (upd H' a (.dK ks)) a (dO g.w a o kvs)) s' :=
    I3.write (x := a) (e := a) (t' := s'.toks) (h' := s'.heap) (by rw [upd_same]; exact True.intro) (.inl rfl) (fun b v _ q => q) ⟨o, hg⟩ ⟨⟨hg, (I.hok a _ hd).1.2⟩, ⟨o, hg⟩, fun h1 h2 ⟨p1, p2⟩ k => ⟨k _ p1, p2⟩⟩
  rw [upd_upd] at I4
  exact ⟨v, _, I4, r, q⟩
theorem shL_dep {l : List D} (h : shL l = true) : ∀ d ∈ l, (toP d).depth ≤ 7 := fun d hd => by
  unfold shL at h
  rw [List.all_eq_true] at h
  exact (sh_shaped (h d hd)).2.1
theorem c_sorted (ok : Okk g X) : CallR X (.builtin "sorted") (fun xs H Q => ∃ x, xs = [x] ∧ rM1 g gSorted x H Q) := by
  intro pins s σ H xs us Q I r h
  obtain ⟨x, rfl, F, d, o, hx, ef, w⟩ := h
  have hu := ok.u
  cases d with
  | lst l =>
    simp only [gSorted, fSorted] at ef
    split at ef
    · rename_i hc
      cases ef
      simp only [sortOk, Bool.and_eq_true, decide_eq_true_eq] at hc
      obtain ⟨⟨⟨sh, al⟩, so⟩, hl⟩ := hc
      obtain ⟨a, vs, rfl, h1, t⟩ := hx.lst
      obtain ⟨its, rv, p, _⟩ := I.list (SqL.of h1)
      rw [Vals.ref1 r]
      have ea := each_of t rv
      have al := alkAll_of al
      refine PySem.W.sorted_data (enc := toP) (bs := l) p.isList ea (each_reads ok I ea sh) (allAlike_of al) (sortable_of so) (by rw [sizeLine_eq]; exact hl) (fun b hb => by have := shL_dep sh b hb; omega) fun out _ eo => ?_
      rw [sort_eq al] at eo
      exact sorted_fin I eo hl w
    · cases ef
  | dic l =>
    simp only [gSorted, fSorted] at ef
    split at ef
    · rename_i hc
      cases ef
      simp only [Bool.and_eq_true, List.all_eq_true, decide_eq_true_eq] at hc
      obtain ⟨hi, hl⟩ := hc
      obtain ⟨a, ob, kvs, rfl, h1, kg, t⟩ := hx.dic
      have lf : ∀ p ∈ l, isLeaf p.1 = true := fun p hp => by
        have := hi p hp
        cases e : p.1 <;> simp [e, isIntD] at this <;> simp [isLeaf]
      obtain ⟨us', rfl⟩ : ∃ u, us = [u] := by cases r with | cons r1 r2 => cases r2; exact ⟨_, rfl⟩
      refine as_dK (α := Value) ok I h1 kg t lf fun ks eks I1 => ?_
      obtain ⟨ns, e1, e2⟩ : ∃ ns : List Int, (l.map (·.1)) = ns.map D.int ∧ l.map (fun p => leafKey p.1) = ns.map Sum.inl := by
        clear kg t lf w hx h1 eks I1 hl
        induction l with
        | nil => exact ⟨[], rfl, rfl⟩
        | cons p l ih =>
          obtain ⟨ns, a1, a2⟩ := ih fun p hp => hi p (List.mem_cons_of_mem _ hp)
          have := hi p List.mem_cons_self
          cases e : p.1 <;> simp [e, isIntD] at this
          rename_i i
          exact ⟨i :: ns, by simp [a1, e], by rw [List.map_cons, a2, e]; rfl⟩
      have hn : ns.length = l.length := by have := congrArg List.length e1; simpa using this.symm
      refine call_sortedDI ok.calm pins s σ _ _ _ _ I1 r ⟨a, ks, ns, rfl, .inr ⟨ob, upd_same⟩, eks.trans e2, by omega, fun ys p pm so hp => ?_⟩
      have hpa : p ≠ a := fun z => by rw [z, upd_same] at hp; cases hp
      have hp0 : H p = none := by rw [upd_ne hpa] at hp; exact hp
      refine ⟨by rw [upd_ne (Ne.symm hpa)]; exact upd_same, ?_⟩
      have eh : upd (upd (upd H a (.frz ob (.dK ks))) p (.lst (ys.map V.int))) a (dO g.w a ob kvs) = upd H p (.lst (ys.map V.int)) := by
        funext b
        by_cases hb : b = a
        · subst hb; rw [upd_same, upd_ne (Ne.symm hpa), h1]
        · rw [upd_ne hb]
          by_cases hb2 : b = p
          · subst hb2; rw [upd_same, upd_same]
          · rw [upd_ne hb2, upd_ne hb2, upd_ne hb]
      rw [eh]
      have es : sortD (l.map (·.1)) = ys.map D.int := by
        rw [e1, sortD_G]
        refine List.Perm.eq_of_pairwise (le := fun a b => ltP b a = false) (fun a b ha hb h1 h2 => ?_) ?_ ?_ ((sortG_perm _).trans (pm.map D.int).symm)
        · obtain ⟨i, _, rfl⟩ := List.mem_map.mp ((sortG_perm _).mem_iff.mp ha)
          obtain ⟨j, _, rfl⟩ := List.mem_map.mp hb
          exact ltP_anti (by simp [D.alk]) h2 h1
        · rw [sortG_congr (lt := D.ltb) (lt' := ltP) _ fun x hx y hy => ?_]
          · exact sortG_sorted ltP_asy ltP_tr _
          · obtain ⟨i, _, rfl⟩ := List.mem_map.mp hx
            obtain ⟨j, _, rfl⟩ := List.mem_map.mp hy
            exact ltb_data _ _ (by simp [D.alk])
        · rw [List.pairwise_map]
          refine so.imp fun {i j} h => ?_
          rw [show ltP (.int j) (.int i) = D.ltb (.int j) (.int i) from (ltb_data _ _ (by simp [D.alk])).symm]
          simp [D.ltb]; omega
      rw [es] at w
      exact w.newL (vs := ys.map V.int) (by
        clear so pm eh es w
        induction ys with
        | nil => exact .nil
        | cons y ys ih => exact .cons (.int y) ih) hp0
    · cases ef
  | _ => cases ef
theorem minD_map (x : D) : ∀ xs : List D, (∀ y ∈ x :: xs, ∀ z ∈ x :: xs, D.alk y z = true) → toP (minD x xs) = PySem.W.minD (toP x) (xs.map toP) ∧ minD x xs ∈ x :: xs := by
  intro xs
  induction xs generalizing x with
  | nil => intro _; exact ⟨rfl, by simp [minD]⟩
  | cons y ys ih =>
    intro al
    have e0 : D.ltb y x = PySem.W.dataLt (toP y) (toP x) := ltb_data _ _ (al _ (by simp) _ (by simp))
    unfold minD PySem.W.minD
    simp only [List.foldl_cons, List.map_cons, ← e0]
    cases D.ltb y x with
    | true =>
      obtain ⟨h1, h2⟩ := ih y fun a ha b hb => al a (by simp at ha ⊢; exact .inr ha) b (by simp at hb ⊢; exact .inr hb)
      unfold minD PySem.W.minD at h1
      unfold minD at h2
      simp only [if_true]
      exact ⟨h1, List.mem_cons_of_mem _ h2⟩
    | false =>
      obtain ⟨h1, h2⟩ := ih x fun a ha b hb => al a (by simp at ha ⊢; exact ha.imp id .inr) b (by simp at hb ⊢; exact hb.imp id .inr)
      unfold minD PySem.W.minD at h1
      unfold minD at h2
      simp only [Bool.false_eq_true, if_false]
      refine ⟨h1, ?_⟩
      rcases List.mem_cons.mp h2 with h2 | h2
      · rw [h2]; exact List.mem_cons_self
      · exact List.mem_cons_of_mem _ (List.mem_cons_of_mem _ h2)
def gMin : F1 := fun d => fMin [d]
theorem c_min (ok : Okk g X) : CallR X (.builtin "min") (fun xs H Q => ∃ x, xs = [x] ∧ rM1 g gMin x H Q) := by
  intro pins s σ H xs us Q I r h
  obtain ⟨x, rfl, F, d, o, hx, ef, w⟩ := h
  have hu := ok.u
  cases d with
  | lst l =>
    cases l with
    | nil => simp [gMin, fMin] at ef
    | cons d l =>
      simp only [gMin, fMin] at ef
      split at ef
      · rename_i hc
        cases ef
        simp only [Bool.and_eq_true, Bool.not_eq_true'] at hc
        obtain ⟨⟨sh, al⟩, nn⟩ := hc
        obtain ⟨a, vs, rfl, h1, t⟩ := hx.lst
        obtain ⟨its, rv, p, _⟩ := I.list (SqL.of h1)
        rw [Vals.ref1 r]
        have ea := each_of t rv
        have er := each_reads ok I ea sh
        have al := alkAll_of al
        obtain ⟨as, ra⟩ := PySem.W.each_readsAll toP er
        obtain ⟨m1, m2⟩ := minD_map d l al
        have hd : PyData.depthAll ((d :: l).map toP) ≤ 7 := by
          have := (shL_lay sh).2.2
          have e : ∀ l : List D, l.map toP = toPs l := fun l => by
            induction l with
            | nil => rfl
            | cons x xs ih => simp [toPs, ih]
          rw [e]; exact this
        refine PySem.W.min_list_data (x := toP d) (xs := l.map toP) (I.ok.hd ok.calm) p.isList (by simpa using ra) ⟨fun x hx y hy => allAlike_of al x (by simpa using hx) y (by simpa using hy), fun x hx e => ?_⟩ (Nat.lt_of_le_of_lt (Nat.add_le_add_left hd _) (by omega)) fun i u h' tk bs hu' rd kp => ?_
        · have hx : x ∈ (d :: l).map toP := by simpa using hx
          obtain ⟨y, hy, rfl⟩ := List.mem_map.mp hx
          have := al d (by simp) y hy
          cases y <;> simp [toP] at e
          cases d <;> simp [D.alk] at this
          simp [isNon] at nn
        · have I1 : Inv X pins σ H { s with heap := h', toks := tk } := I.kept kp
          -- the item at i
          have at' : ∀ {us : List Value} {l : List D} {i : Nat} {u : Value}, PySem.W.EachIs (EachV g H F) us l → us[i]? = some u → ∃ z, z ∈ l ∧ EachV g H F u z := fun {us l i u} h => by
            induction h generalizing i with
            | nil => intro e; simp at e
            | cons a t ih =>
              intro e
              cases i with
              | zero => simp at e; subst e; exact ⟨_, List.mem_cons_self, a⟩
              | succ i => obtain ⟨z, hz, q⟩ := ih (by simpa using e); exact ⟨z, List.mem_cons_of_mem _ hz, q⟩
          obtain ⟨z, hz, xz, rz, dz⟩ := at' ea (by simpa using hu')
          have shz : D.sh z = true := by
            unfold shL at sh
            rw [List.all_eq_true] at sh
            exact sh z hz
          obtain ⟨as2, r2⟩ := Dp.reads I1 (toP z) xz u (by rw [ok.K]; exact dz.pl_dp (sh_pl shz)) rz
          rw [← m1] at rd
          have az := al z hz _ m2
          have eq := PySem.W.alike_unique _ _ _ _ _ (by rw [← alk_alike]; exact az) r2 rd
          have : z = minD d l := by
            refine eqb_alk_eq z _ ?_ az
            rw [eqb_eqv, ← eq]
            exact PySem.W.eqv_refl_alike _ (by rw [← alk_alike]; exact al z hz z hz)
          subst this
          exact ⟨xz, H, I1, rz, w.val dz⟩
      · cases ef
  | _ => simp [gMin, fMin] at ef
theorem c_min2 (ok : Okk g X) : CallR X (.builtin "min") (fun xs H Q => ∃ x y, xs = [x, y] ∧ rMN g fMin [x, y] H Q) := by
  refine CallR.imp (call_min2 ok.calm) fun xs H Q h => ?_
  obtain ⟨x, y, rfl, F, ds, o, t, ef, w⟩ := h
  match ds, t with
  | [d, e], .cons t1 (.cons t2 .nil) =>
    cases d with
    | int i =>
      cases e with
      | int j =>
        cases ef
        cases t1
        cases t2
        exact ⟨i, j, rfl, w.valI⟩
      | _ => simp [fMin] at ef
    | _ => simp [fMin] at ef
theorem maxD_map (x : D) : ∀ xs : List D, (∀ y ∈ x :: xs, ∀ z ∈ x :: xs, D.alk y z = true) → toP (maxD x xs) = PySem.W.maxD (toP x) (xs.map toP) ∧ maxD x xs ∈ x :: xs := by
  intro xs
  induction xs generalizing x with
  | nil => intro _; exact ⟨rfl, by simp [maxD]⟩
  | cons y ys ih =>
    intro al
    have e0 : D.ltb x y = PySem.W.dataLt (toP x) (toP y) := ltb_data _ _ (al _ (by simp) _ (by simp))
    unfold maxD PySem.W.maxD
    simp only [List.foldl_cons, List.map_cons, ← e0]
    cases D.ltb x y with
    | true =>
      obtain ⟨h1, h2⟩ := ih y fun a ha b hb => al a (by simp at ha ⊢; exact .inr ha) b (by simp at hb ⊢; exact .inr hb)
      unfold maxD PySem.W.maxD at h1
      unfold maxD at h2
      simp only [if_true]
      exact ⟨h1, List.mem_cons_of_mem _ h2⟩
    | false =>
      obtain ⟨h1, h2⟩ := ih x fun a ha b hb => al a (by simp at ha ⊢; exact ha.imp id .inr) b (by simp at hb ⊢; exact hb.imp id .inr)
      unfold maxD PySem.W.maxD at h1
      unfold maxD at h2
      simp only [Bool.false_eq_true, if_false]
      refine ⟨h1, ?_⟩
      rcases List.mem_cons.mp h2 with h2 | h2
      · rw [h2]; exact List.mem_cons_self
      · exact List.mem_cons_of_mem _ (List.mem_cons_of_mem _ h2)
def gMax : F1 := fun d => fMax [d]
theorem c_max (ok : Okk g X) : CallR X (.builtin "max") (fun xs H Q => ∃ x, xs = [x] ∧ rM1 g gMax x H Q) := by
  intro pins s σ H xs us Q I r h
  obtain ⟨x, rfl, F, d, o, hx, ef, w⟩ := h
  have hu := ok.u
  cases d with
  | lst l =>
    cases l with
    | nil => simp [gMax, fMax] at ef
    | cons d l =>
      simp only [gMax, fMax] at ef
      split at ef
      · rename_i hc
        cases ef
        simp only [Bool.and_eq_true, Bool.not_eq_true'] at hc
        obtain ⟨⟨sh, al⟩, nn⟩ := hc
        obtain ⟨a, vs, rfl, h1, t⟩ := hx.lst
        obtain ⟨its, rv, p, _⟩ := I.list (SqL.of h1)
        rw [Vals.ref1 r]
        have ea := each_of t rv
        have er := each_reads ok I ea sh
        have al := alkAll_of al
        obtain ⟨as, ra⟩ := PySem.W.each_readsAll toP er
        obtain ⟨m1, m2⟩ := maxD_map d l al
        have hd : PyData.depthAll ((d :: l).map toP) ≤ 7 := by
          have := (shL_lay sh).2.2
          have e : ∀ l : List D, l.map toP = toPs l := fun l => by
            induction l with
            | nil => rfl
            | cons x xs ih => simp [toPs, ih]
          rw [e]; exact this
        refine PySem.W.max_list_data (x := toP d) (xs := l.map toP) (I.ok.hd ok.calm) p.isList (by simpa using ra) ⟨fun x hx y hy => allAlike_of al x (by simpa using hx) y (by simpa using hy), fun x hx e => ?_⟩ (Nat.lt_of_le_of_lt (Nat.add_le_add_left hd _) (by omega)) fun i u h' tk bs hu' rd kp => ?_
        · have hx : x ∈ (d :: l).map toP := by simpa using hx
          obtain ⟨y, hy, rfl⟩ := List.mem_map.mp hx
          have := al d (by simp) y hy
          cases y <;> simp [toP] at e
          cases d <;> simp [D.alk] at this
          simp [isNon] at nn
        · have I1 : Inv X pins σ H { s with heap := h', toks := tk } := I.kept kp
          -- the item at i
          have at' : ∀ {us : List Value} {l : List D} {i : Nat} {u : Value}, PySem.W.EachIs (EachV g H F) us l → us[i]? = some u → ∃ z, z ∈ l ∧ EachV g H F u z := fun {us l i u} h => by
            induction h generalizing i with
            | nil => intro e; simp at e
            | cons a t ih =>
              intro e
              cases i with
              | zero => simp at e; subst e; exact ⟨_, List.mem_cons_self, a⟩
              | succ i => obtain ⟨z, hz, q⟩ := ih (by simpa using e); exact ⟨z, List.mem_cons_of_mem _ hz, q⟩
          obtain ⟨z, hz, xz, rz, dz⟩ := at' ea (by simpa using hu')
          have shz : D.sh z = true := by
            unfold shL at sh
            rw [List.all_eq_true] at sh
            exact sh z hz
          obtain ⟨as2, r2⟩ := Dp.reads I1 (toP z) xz u (by rw [ok.K]; exact dz.pl_dp (sh_pl shz)) rz
          rw [← m1] at rd
          have az := al z hz _ m2
          have eq := PySem.W.alike_unique _ _ _ _ _ (by rw [← alk_alike]; exact az) r2 rd
          have : z = maxD d l := by
            refine eqb_alk_eq z _ ?_ az
            rw [eqb_eqv, ← eq]
            exact PySem.W.eqv_refl_alike _ (by rw [← alk_alike]; exact al z hz z hz)
          subst this
          exact ⟨xz, H, I1, rz, w.val dz⟩
      · cases ef
  | _ => simp [gMax, fMax] at ef
theorem c_max2 (ok : Okk g X) : CallR X (.builtin "max") (fun xs H Q => ∃ x y, xs = [x, y] ∧ rMN g fMax [x, y] H Q) := by
  refine CallR.imp (call_max2 ok.calm) fun xs H Q h => ?_
  obtain ⟨x, y, rfl, F, ds, o, t, ef, w⟩ := h
  match ds, t with
  | [d, e], .cons t1 (.cons t2 .nil) =>
    cases d with
    | int i =>
      cases e with
      | int j =>
        cases ef
        cases t1
        cases t2
        exact ⟨i, j, rfl, w.valI⟩
      | _ => simp [fMax] at ef
    | _ => simp [fMax] at ef
end
end Mm
-- text S18
set_option Elab.async false
set_option linter.all false
set_option maxRecDepth 100000
set_option maxHeartbeats 1000000
/-! S18: promises that know that no repr is under way; their calls; the law itself. -/
namespace Mm
open PySem PySem.Spec PyProof.Rows L2
/-- a def's promise where no repr is under way -/
structure FnG (P : Program) (w : World) (K : PySem.W.Frag) (mg : Str → Option Value) (base : Heap) (C : CXT) (k : Nat) (f : Addr) (fd : FuncData) (ps : List Str) (sp : Sp) : Prop where
  many : ∀ vs H Q E, sp vs H Q E → vs.length = ps.length
  goes : ∀ (B : Around) (up : List PySem.Env) (t : Shared) (H : Hp) (gv : PySem.Args) (us : List Value) (vs : List V) (Q : VK) (E : XK), B.guards = some [] → Room k B → Env0 P w K mg base B up t H → BindsTo t fd gv (ps.zip us) → Vals vs us → sp vs H Q E →
    codeAny (model P w) B (.call (.ref f) gv) (CR C up P w H t Q E) t
theorem FnG.mono {P : Program} {w : World} {K : PySem.W.Frag} {mg : Str → Option Value} {base : Heap} {C : CXT} {j k : Nat} {f : Addr} {fd : FuncData} {ps : List Str} {sp : Sp} (G : FnG P w K mg base C j f fd ps sp) (h : j ≤ k) : FnG P w K mg base C k f fd ps sp :=
  ⟨G.many, fun B up t H gv us vs Q E g r => G.goes B up t H gv us vs Q E g (r.mono h)⟩
/-- a def of the text keeps such a promise -/
theorem fnG_of {C : CXT} {P : Program} {w : World} {K : PySem.W.Frag} {mg : Str → Option Value} {base : Heap} {x qual : Str} {params : Arguments} {body : List Stmt} {scope : Scope} {f : Addr} {fd : FuncData} {N ps : List Str} {k : Nat} {sp : Sp}
    (T : FunD K x qual params body scope [] [] f fd) (S : FnScope N ps scope) (hm : ∀ vs H Q E, sp vs H Q E → vs.length = ps.length)
    (hb : ∀ (cd : Value) (B : Around) (up : List PySem.Env) (t : Shared) (H : Hp) (vs : List V) (Q : VK) (E : XK), B.guards = some [] → Room k (B.deeper (envOfC qual scope t.heap.objs.size f cd)) → sp vs H Q E →
      ∃ r, PSs (cxOf C P w K mg base N qual scope f cd B up t H E) body r ∧ r { nx := fun _ H' => Q .non H', rt := Q } (L2.start N vs) H) : FnG P w K mg base C (k + 1) f fd ps sp := by
  obtain ⟨oc, od, dV, kV, doc, pm, an, cd, ct, osl, rfl, look, code, _, _⟩ := T.ex
  refine ⟨hm, fun B up t H gv us vs Q E gd room e0 bind rv asked => ?_⟩
  have old : ∀ b o, base.get? b = some o → t.heap.get? b = some o := fun b o e => (e0.bs b o e).1
  have KH : K.In t.heap := e0.mod.kin.keeps old
  have kinds : ∀ y ∈ ps.zip us, scope.names.lookup y.1 = some .local ∨ (scope.names.lookup y.1 = some .cell ∧ ((cellsFrom (t.heap.objs.size + 1) scope.names []).lookup y.1).isSome = true) := by
    rintro ⟨n, v⟩ hy
    exact (S.par n (List.of_mem_zip hy).1).imp id fun q => ⟨q, PySem.W.cellsFrom_some _ _ _ (.inl q)⟩
  refine codeAny_call_function room.depth (KH _ _ look) rfl S.co S.gen rfl (PySem.W.codeRec_of KH code) (bind _ _ _ _ (wpAny_newFunctionEnv_cells S.kind kinds fun env he t1 inC => ?_))
  subst he
  refine ⟨(e0.mod.nolimit.keeps old).keeps inC.toInCall.keep, codeAny_func ?_⟩
  obtain ⟨r, hr, asks⟩ := hb cd B up t H vs Q E gd (room.deeper _) asked
  have I0 : Inv (cxOf C P w K mg base N qual scope f cd B up t H E) [] (L2.start N vs) H t1 := inv_start S room.hd e0 (hm _ _ _ _ asked) rv inC
  refine wpAny_mono (hr.run [] t1 _ H _ I0 asks) (fun fl t2 h2 => ?_) fun _ _ z => z
  match fl, h2 with
  | .ret u, ⟨v, _, H', J, ru, q⟩ => exact ⟨v, H', J.os, J.bare, J.base, J.hok, ru, q⟩
  | .next, ⟨_, H', J, q⟩ => exact ⟨V.non, H', J.os, J.bare, J.base, J.hok, rfl, q⟩
  | .brk, ⟨_, _, _, q⟩ => exact q.elim
  | .cont, ⟨_, _, _, q⟩ => exact q.elim
section
variable {g : Gr} {E : XK} {X : Cx} {x : Expr} {pos p1 : Pos} {m : Fn} {es : List Expr} {ml : ML} {C : CXT} {k : Nat} {f : Addr} {fd : FuncData} {ps : List Str} {n' : Str}
theorem goG {pins : List (Addr × Obj)} {σ : Sg} {H : Hp} {t : Shared} {Q : VK} {us : List Value} {vs : List V} {sp : Sp} (G : FnG X.prog X.w X.K X.mg X.base C k f fd ps sp) (gd : X.A.guards = some []) (room : Room k X.A) (hb : Binds X.K fd ps []) (hx : Passes C X E)
    (I : Inv X pins σ H t) (rv : Vals vs us) (asked : sp vs H Q E) : wpAny (model X.prog X.w) X.A (call (.ref f) us) (EP X pins σ Q) X.xe t := by
  have n1 : (us ++ []).length = ps.length := by rw [List.append_nil, ← rv.length]; exact G.many _ _ _ _ asked
  have bd := hb t us I.kIn n1
  rw [List.append_nil] at bd
  refine wpAny_call (codeAny_mono (G.goes X.A X.stack t H _ us vs Q E gd room I.env0 bd rv asked) fun r t2 h2 => ?_)
  match r, h2 with
  | .error e, h2 => exact hx pins σ H t e t2 I h2
  | .ok (.ret u), h2 => exact I.after h2
  | .ok .next, h2 => exact h2.elim
  | .ok .brk, h2 => exact h2.elim
  | .ok .cont, h2 => exact h2.elim
theorem s_callG (Fo : FnG X.prog X.w X.K X.mg X.base C k f fd ps (spM0 g m)) (gd : X.A.guards = some []) (hr : Room k X.A) (hg : Gl X n') (hm : X.mg n' = some (.ref f)) (hk : PySem.W.keepIn X.K (.ref f) = true) (hb : Binds X.K fd ps []) (hx : Passes C X E0)
    (ha : PA X (x :: es) (tL g E0 ml)) (hdb : (n' == ("__debug__" : Str)) = false := by decide) (he : starEach (x :: es) X.env = (false, eval x X.env) :: starEach es X.env := by rfl) (hpl : (backTo pos (starEach es X.env)).any (·.1) = false := by rfl) :
    PE X (.Call (.Name n' p1) (x :: es) [] pos) (tE g E0 (mCall m ml)) := by
  refine ⟨fun pins t σ H Q I h => wpAny_Call_Name_kw (ld_glob I hg hm ?_ hdb)⟩
  refine PySem.W.callWith_K (h₀ := X.base) I.ok.mod.kin hk (thn (ha.run pos pins t σ H _ I (callT h)) fun us t1 ⟨vs, H1, I1, rv, q⟩ => ⟨I1.kIn, goG Fo gd hr hb hx I1 rv q⟩) he hpl
theorem s_callG0 (Fo : FnG X.prog X.w X.K X.mg X.base C k f fd ps (spM0 g m)) (gd : X.A.guards = some []) (hr : Room k X.A) (hg : Gl X n') (hm : X.mg n' = some (.ref f)) (hk : PySem.W.keepIn X.K (.ref f) = true) (hb : Binds X.K fd ps []) (hx : Passes C X E0)
    (hdb : (n' == ("__debug__" : Str)) = false := by decide) : PE X (.Call (.Name n' p1) [] [] pos) (tE g E0 (mCall m mANil)) := by
  refine ⟨fun pins t σ H Q I h => wpAny_Call_Name_kw (ld_glob I hg hm (PySem.W.callWith_K0 I.kIn hk ?_) hdb)⟩
  obtain ⟨ρ, F, R, h⟩ := callT h
  exact goG Fo gd hr hb hx I .nil (h.ret R SF.refl [] .nil)
end
/-- the context of a def's body that raises nothing -/
abbrev cx0 (P : Program) (w : World) (K : PySem.W.Frag) (mg : Str → Option Value) (base : Heap) (N : List Str) (qual : Str) (scope : Scope) (f : Addr) (cd : Value) (B : Around) (up : List PySem.Env) (t : Shared) (H : Hp) (E : XK) : Cx := (cxOf L2.CX0 P w K mg base N qual scope f cd B up t H E).nox
/-- a def that raises nothing -/
theorem fnG0 {P : Program} {base : Heap} {x qual : Str} {params : Arguments} {body : List Stmt} {scope : Scope} {f : Addr} {fd : FuncData} {N ps : List Str} {k n more : Nat} {g : Gr} {mb : MS}
    (T : FunD g.K x qual params body scope [] [] f fd) (S : FnScope N ps scope) (hn : ps.length = n) (hN : N.length = n + more)
    (hb : ∀ (cd : Value) (B : Around) (up : List PySem.Env) (t : Shared) (H : Hp) (E : XK), (cx0 P g.w g.K g.mg base N qual scope f cd B up t H E).A.guards = some [] → Okk g (cx0 P g.w g.K g.mg base N qual scope f cd B up t H E) → Room k (cx0 P g.w g.K g.mg base N qual scope f cd B up t H E).A →
      PSs (cx0 P g.w g.K g.mg base N qual scope f cd B up t H E) body (tS g E0 mb)) :
    FnG P g.w g.K g.mg base L2.CX0 (k + 1) f fd ps (spM0 g (mDef n more mb)) := by
  refine fnG_of T S (fun vs H Q E h => by rw [hn]; exact spM_len h) fun cd B up t H vs Q E gd room h => ⟨_, PSs.nox (hb cd B up t H E gd ⟨⟨rfl, rfl, rfl, by have := room.un; show (B.deeper _).units + 200 < cLine; omega, S.nd, PassesOwn.never⟩, rfl⟩ room), spM_body hN h⟩
/-! ### the law -/
theorem lawG {P : Program} {w : World} {K : PySem.W.Frag} {mg mb : Str → Option Value} {C : CXT} {k : Nat} {fa a : Addr} {fd : FuncData} {x : Str} {sp : Sp} {t : Shared} {vs : List Value} {ns : List Int}
    (KH : K.In t.heap) (hm : t.heap.Ns mainGlobals mg) (hb : t.heap.Ns builtinsNs mb) (hbb : ∀ x : Str, x ≠ "__name__" → mb x = bootBuiltins x) (lim : t.heap.NoLimit) (hg : t.gens = #[])
    (ha : t.heap.get? a = some { cls := .type "list", data := .seq vs.toArray }) (hi : IntsAre vs ns) (hl : ns.length ≤ sizeLine) (room : Room k callerA)
    (G : ∀ base : Heap, K.In base → base.Ns mainGlobals mg → FnG P w K mg base C k fa fd [x] sp) (bind : ∀ (s : Shared) (u : Value), BindsTo s fd ⟨[u], []⟩ [(x, u)])
    (hsp : ∀ H : Hp, Only H → SqL K H a (ns.map V.int) → sp [.ref a] H (fun v _ => v = .bl true) fun _ _ _ => False) (hC : ∀ H e s', C [] H t (fun _ _ _ => False) e s' → False) :
    codeAny (model P w) callerA (.call (.ref fa) ⟨[.ref a], []⟩) (fun r s' => r = .ok (.ret (.bool true)) ∧ OldK t.heap s'.heap ∧ s'.os = t.os ∧ AllBare s'.gens) t := by
  have rv := vals_ints hi
  -- the abstract heap tells the script at most
  suffices core : ∀ H : Hp, Only H → SqL K H a (ns.map V.int) → HOk P w H t.heap → (∀ b, H b ≠ none → b = a ∧ K.lookup a = none) →
      codeAny (model P w) callerA (.call (.ref fa) ⟨[.ref a], []⟩) (fun r s' => r = .ok (.ret (.bool true)) ∧ OldK t.heap s'.heap ∧ s'.os = t.os ∧ AllBare s'.gens) t by
    cases hk : K.lookup a with
    | some o =>
      have e := KH a o hk
      rw [ha] at e; cases e
      have tr : SqL K (fun _ => none) a (ns.map V.int) := .inr ⟨_, vs.toArray, _, hk, rfl, rfl, rfl, by rw [List.size_toArray, hi.length]; exact hl, by simpa using rv⟩
      exact core (fun _ => none) (fun _ => .inl rfl) tr (fun b u z => by cases z) fun b z => (z rfl).elim
    | none =>
      obtain ⟨Hs, yes, no⟩ : ∃ Hs : Hp, (∀ b, b = a → Hs b = some (.frz { cls := .type "list", data := .seq vs.toArray } (.lst (ns.map V.int)))) ∧ ∀ b, b ≠ a → Hs b = none :=
        ⟨fun b => if b = a then some (.frz { cls := .type "list", data := .seq vs.toArray } (.lst (ns.map V.int))) else none, fun b e => if_pos e, fun b e => if_neg e⟩
      refine core Hs (fun b => ?_) (.inl (.inr ⟨_, yes a rfl⟩)) (fun b u z => ?_) fun b z => ?_
      · by_cases e : b = a
        · exact .inr ⟨_, _, yes b e⟩
        · exact .inl (no b e)
      · by_cases e : b = a
        · rw [yes b e] at z; cases z
          rw [e]
          exact ⟨ha, by rw [List.length_map]; exact hl, vs, 0, rv, ha⟩
        · rw [no b e] at z; cases z
      · by_cases e : b = a
        · exact ⟨e, hk⟩
        · exact absurd (no b e) z
  intro H only tr ok mine
  have at' : ∀ {b : Addr} {o : Obj}, t.heap.get? b = some o → H b = none → (hidT t.heap H).get? b = some o := fun e n => hidT_get e n
  have free : ∀ {b : Addr}, (b = a → K.lookup a = none → False) → H b = none := fun {b} h => by
    cases q : H b with
    | none => rfl
    | some u => exact (h (mine b (by rw [q]; simp)).1 (mine b (by rw [q]; simp)).2).elim
  have ns1 : ∀ {b : Addr} {m : Str → Option Value}, t.heap.Ns b m → (hidT t.heap H).Ns b m := fun {b m} ⟨o, es, ep, e, d, r⟩ => ⟨o, es, ep, at' e (free fun z _ => by
    rw [z, ha] at e; cases e
    cases (show Data.seq vs.toArray _ = Data.dict es ep from d)), d, r⟩
  have kb : K.In (hidT t.heap H) := fun b o e => at' (KH b o e) (free fun z n => by rw [z, n] at e; cases e)
  have md : Mod K mg (hidT t.heap H) := ⟨kb, ns1 hm, ⟨mb, ns1 hb, hbb⟩, let ⟨mc, p, q⟩ := lim; ⟨mc, ns1 p, q⟩⟩
  have env : Env0 P w K mg (hidT t.heap H) callerA [] t H := ⟨rfl, md, fun b o e => of_hidT e, Nat.le_of_eq (hidT_size _ _), trivial, (fun b hb => by cases (show b ∈ ([] : List Addr) from hb)), ok, .of_eq hg⟩
  refine codeAny_mono ((G _ kb (ns1 hm)).goes callerA [] t H _ [.ref a] [.ref a] _ _ rfl room env (bind t (.ref a)) (.cons rfl .nil) (hsp H only tr)) fun r s' h => ?_
  match r, h with
  | .error e, h => exact (hC H e s' h).elim
  | .ok .next, h => exact h.elim
  | .ok .brk, h => exact h.elim
  | .ok .cont, h => exact h.elim
  | .ok (.ret u), ⟨v, H', os, bare, un, ok', ru, q⟩ =>
    obtain rfl : v = .bl true := q
    obtain rfl : u = Value.bool true := ru
    refine ⟨rfl, OldK.of_keep fun b o e => ?_, os, bare⟩
    cases q : H b with
    | none => exact un.keep b o e q (fun z => by cases (show b ∈ ([] : List Addr) from z)) (by simp)
    | some w2 =>
      rcases only b with z | ⟨ob, xs, z⟩
      · rw [q] at z; cases z
      · have e1 := (ok b _ z).1
        rw [e] at e1; cases e1
        exact (ok' b _ (un.frzs b o _ z)).1
theorem walkG {l : PySem.W.OpenLaw} {n k : Nat} {q : Program} {loose : List Str} {XP : (Str → Option Value) → Heap → Prop} {YP : World → Heap → Prop} {d : DefRec} {C : CXT} {x : Str} (hn : l.most = some n) (hn2 : n ≤ sizeLine) (hdf : d.params.defaults = []) (room : Room k callerA)
    (T : ∀ (w : World) (mg : Str → Option Value) (fa : Addr) (h : Heap), YP w h → h.Ns mainGlobals mg → mg d.name = some (.ref fa) → ∃ (K : PySem.W.Frag) (fd : FuncData) (sp : Sp), K.In h ∧ (∀ (s : Shared) (u : Value), BindsTo s fd ⟨[u], []⟩ [(x, u)]) ∧
      (∀ (H : Hp) (a : Addr) (ns : List Int), ns.length ≤ n → Only H → SqL K H a (ns.map V.int) → sp [.ref a] H (fun v _ => v = .bl true) fun _ _ _ => False) ∧ ∀ base : Heap, K.In base → base.Ns mainGlobals mg → FnG l.prog w K mg base C k fa fd [x] sp)
    (hC : ∀ (H : Hp) (s : Shared) (e : Value) (s' : Shared), C [] H s (fun _ _ _ => False) e s' → False) : PySem.W.WalkO q loose XP YP l.row.toRowW d [] (fun f vs => PySem.call f vs) := by
  refine Att.attach_call hn hdf fun w s₀ t mg mb fa o pm cd doc a vs ns G Y ho hd hcd hmg hobj hints hlen hg => ?_
  obtain ⟨K, fd, sp, KH, hb, hsp, hF⟩ := T w mg fa _ Y G.T.g hmg
  exact lawG KH G.T.g G.T.b G.T.builtins G.T.nolimit hg hobj hints (Nat.le_trans hlen hn2) room hF hb (fun H hO hS => hsp H a ns hlen hO hS) fun H e s' => hC H t e s'
/-- the script at the law -/
theorem sp_law {g : Gr} {m : Fn} {H : Hp} {a : Addr} {ns : List Int} {cs' : Env} (ho : Only H) (hs : SqL g.K H a (ns.map V.int)) (hT : g.T = []) (hr : m [.va (.scr ns)] = some (.ok (.va (.bl true)), cs')) : spM0 g m [.ref a] H (fun v _ => v = .bl true) fun _ _ _ => False := by
  have sc : ScrAt g.K H a (ns.map V.int) := by
    refine ⟨hs, ?_⟩
    rcases hs with (h | h) | h
    · rcases ho a with z | ⟨o, xs, z⟩
      · rw [h] at z; cases z
      · rw [h] at z; cases z
    · exact .inl h
    · exact .inr fun H' => .inr h
  refine ⟨[.va (.scr ns)], fun _ => False, ⟨rfl, fun i c d e o => ?_, fun i c d e o => ?_, fun i j c e x y b ne q1 q2 o1 => ?_, fun _ h => h.elim, fun p hp => by rw [hT] at hp; cases hp⟩, fun c hc => ?_, .ok (.va (.bl true)), cs', hr, fun σ' H' F' v R s x => by
    have x : Dv g H' F' (.bl true) v := x
    cases x; rfl⟩
  · cases i with
    | zero => simp at e; subst e; cases o; exact ⟨_, rfl, .scr sc⟩
    | succ i => simp at e
  · cases i with
    | zero => simp at e; subst e; cases o
    | succ i => simp at e
  · cases i with
    | zero => simp at q1; subst q1; cases o1
    | succ i => simp at q1
  · simp at hc
    exact .inl ⟨_, hc⟩
end Mm
-- text S19
set_option Elab.async false
set_option linter.all false
set_option maxRecDepth 100000
set_option maxHeartbeats 1000000
/-! S19: short forms for printed derivations; a def that others call. -/
namespace Mm
open PySem PySem.Spec PyProof.Rows L2
section
variable {g : Gr} {E : XK} {X : Cx} {x y z : Expr} {pos p1 p2 : Pos} {m : Fn} {es : List Expr} {ml : ML} {md : MD} {ma mb mc : ME} {mt mu : MB} {k : Nat} {n : Str} {f h2' : F2}
theorem Okk.blk (ok : Okk g X) {s : Shared} {H : Hp} {scope : Scope} {ce : PySem.Env} {fp : List Addr} : Okk g (X.blk s H scope ce fp) := ⟨⟨ok.K, ok.w, ok.mg, ok.u, ok.nd, PassesOwn.never⟩, ok.calm⟩
theorem sv (i : Nat) {x : Str} {pos : Pos} (hN : X.N[i]? = some x := by rfl) (hv : Vis X.env.scope x := by first | exact Or.inl rfl | exact Or.inr (Or.inl rfl) | exact Or.inr (Or.inr rfl)) (hd : (x == ("__debug__" : Str)) = false := by decide)
    (hcd : (x == ("__classdict__" : Str)) = false := by decide) : PE X (.Name x pos) (tE g E (mVar i)) := s_var hN hv hd hcd
/-- a def as others call it -/
structure Has (P : Program) (base : Heap) (g : Gr) (k : Nat) (n : Str) (m : Fn) : Prop where
  ex : ∃ (f : Addr) (fd : FuncData) (ps : List Str), FnG P g.w g.K g.mg base L2.CX0 k f fd ps (spM0 g m) ∧ g.mg n = some (.ref f) ∧ PySem.W.keepIn g.K (.ref f) = true ∧ Binds g.K fd ps []
theorem Has.mono {P : Program} {base : Heap} {j : Nat} (h : Has P base g j n m) (l : j ≤ k) : Has P base g k n m := let ⟨f, fd, ps, a, b⟩ := h.ex; ⟨f, fd, ps, a.mono l, b⟩
theorem s_fn (ok : Okk g X) (gd : X.A.guards = some []) (hr : Room k X.A) (h : Has X.prog X.base g k n m) (ha : PA X (x :: es) (tL g E0 ml)) (hg : Gl X n := by rfl) (hdb : (n == ("__debug__" : Str)) = false := by decide)
    (he : starEach (x :: es) X.env = (false, eval x X.env) :: starEach es X.env := by rfl) (hpl : (backTo pos (starEach es X.env)).any (·.1) = false := by rfl) : PE X (.Call (.Name n p1) (x :: es) [] pos) (tE g E0 (mCall m ml)) := by
  obtain ⟨f, fd, ps, a, b, c, d⟩ := h.ex
  exact s_callG (C := L2.CX0) (by rw [ok.K, ok.w, ok.mg]; exact a) gd hr hg (by rw [ok.mg]; exact b) (by rw [ok.K]; exact c) (by rw [ok.K]; exact d) L2.pass0 ha hdb he hpl
theorem s_fn0 (ok : Okk g X) (gd : X.A.guards = some []) (hr : Room k X.A) (h : Has X.prog X.base g k n m) (hg : Gl X n := by rfl) (hdb : (n == ("__debug__" : Str)) = false := by decide) : PE X (.Call (.Name n p1) [] [] pos) (tE g E0 (mCall m mANil)) := by
  obtain ⟨f, fd, ps, a, b, c, d⟩ := h.ex
  exact s_callG0 (C := L2.CX0) (by rw [ok.K, ok.w, ok.mg]; exact a) gd hr hg (by rw [ok.mg]; exact b) (by rw [ok.K]; exact c) (by rw [ok.K]; exact d) L2.pass0 hdb
/-! operators -/
theorem q_bin {op : Operator} (ho : OpR X (binaryOp op) (rM g f)) (ha : PE X x (tE g E ma)) (hb : PE X y (tE g E mb)) : PE X (.BinOp x op y pos) (tE g E (mOp2 f ma mb)) := s_bin ho (sem2 g f) ha hb
theorem q_cmp {op : CmpOp} (ho : OpR X (compareOp op) (rM g f)) (ha : PE X x (tE g E ma)) (hb : PE X y (tE g E mb)) (hm : behindInMarks op y = false := by rfl) : PE X (.Compare x [op] [y] pos) (tE g E (mOp2 f ma mb)) := s_cmp ho (sem2 g f) ha hb hm
theorem q_tcmp {op : CmpOp} (ho : OpR X (compareOp op) (rM g f)) (ha : PE X x (tE g E ma)) (hb : PE X y (tE g E mb)) (hm : behindInMarks op y = false := by rfl) : PT X (.Compare x [op] [y] pos) (tT g E (mB (mOp2 f ma mb))) := s_tcmp ho (sem2 g f) ha hb hm
theorem q_chain {op op' : CmpOp} (ho : OpR X (compareOp op) (rM g f)) (ho' : OpR X (compareOp op') (rM g h2')) (ha : PE X x (tE g E ma)) (hb : PE X y (tE g E mb)) (hc : PE X z (tE g E mc)) (hm : lastMarks [op, op'] [y, z] = false := by with_unfolding_all rfl) :
    PE X (.Compare x [op, op'] [y, z] pos) (tE g E (mChain f h2' ma mb mc)) := PE.sub (pe_chain ho ho' ha hb hc hm) fun _ _ _ h => chain_ (sem2 g f) (sem2 g h2') h
theorem q_tchain {op op' : CmpOp} (ho : OpR X (compareOp op) (rM g f)) (ho' : OpR X (compareOp op') (rM g h2')) (ha : PE X x (tE g E ma)) (hb : PE X y (tE g E mb)) (hc : PE X z (tE g E mc)) (hm : lastMarks [op, op'] [y, z] = false := by with_unfolding_all rfl) :
    PT X (.Compare x [op, op'] [y, z] pos) (tT g E (mB (mChain f h2' ma mb mc))) := PT.sub (pt_chain ho ho' ha hb hc hm) fun _ _ _ h => chain_ (sem2 g f) (sem2 g h2') (testB h)
theorem q_neg (ok : Okk g X) (ha : PE X x (tE g E ma)) : PE X (.UnaryOp .USub x pos) (tE g E (mOp1 fNeg ma)) := s_un (o_neg ok) (sem1 g fNeg) ha
theorem q_ix (ok : Okk g X) (ha : PE X x (tE g E ma)) (hb : PE X y (tE g E mb)) (hp : PlainIx y := by intro _ _; rfl) : PE X (.Subscript x y pos) (tE g E (mOp2 fIx ma mb)) := s_ix (o_ix ok) (sem2 g fIx) ha hb hp
theorem q_pw (h : PW X x (tT g E mt)) : PT X x (tT g E mt) := h.pt
/-! builtins -/
variable {f1 : F1}
theorem q_b1 {id : String} (hc : CallR X (.builtin id) (fun xs H Q => ∃ x, xs = [x] ∧ rM1 g f1 x H Q)) (hm : X.mg n = none) (hv : bootBuiltins n = some (.builtin id)) (ha : PE X x (tE g E ma)) (hg : Gl X n := by rfl) (hn : n ≠ "__name__" := by decide) (hdb : (n == ("__debug__" : Str)) = false := by decide)
    (he : starEach [x] X.env = (false, eval x X.env) :: starEach [] X.env := by rfl) (hpl : (backTo pos (starEach [] X.env)).any (·.1) = false := by rfl) : PE X (.Call (.Name n p1) [x] [] pos) (tE g E (mOp1 f1 ma)) := s_callB1 hc (sem1x g f1) hg hm hv ha hn hdb he hpl
theorem q_t1 {T : String} (hc : CallR X (.type T) (fun xs H Q => ∃ x, xs = [x] ∧ rM1 g f1 x H Q)) (hm : X.mg n = none) (hv : bootBuiltins n = some (.type T)) (ha : PE X x (tE g E ma)) (hg : Gl X n := by rfl) (hn : n ≠ "__name__" := by decide) (hdb : (n == ("__debug__" : Str)) = false := by decide)
    (he : starEach [x] X.env = (false, eval x X.env) :: starEach [] X.env := by rfl) (hpl : (backTo pos (starEach [] X.env)).any (·.1) = false := by rfl) : PE X (.Call (.Name n p1) [x] [] pos) (tE g E (mOp1 f1 ma)) := s_callT1 hc (sem1x g f1) hg hm hv ha hn hdb he hpl
theorem semN2 (g : Gr) (f : FN) (hl : ∀ ds o, f ds = some o → ds.length = 2) : SemN g (fun xs H Q => ∃ x y, xs = [x, y] ∧ rMN g f [x, y] H Q) f := fun H F xs ds o Q t e w => by
  have := hl ds o e
  match xs, ds, t with
  | [x, y], [d, d'], t => exact ⟨x, y, rfl, F, _, o, t, e, w⟩
  | [], [], _ => simp at this
  | [_], [_], _ => simp at this
  | _ :: _ :: _ :: _, _ :: _ :: _ :: _, _ => simp at this
def fMin2 : FN
  | [.int i, .int j] => vInt (if j < i then j else i)
  | _ => none
def fMax2 : FN
  | [.int i, .int j] => vInt (if j > i then j else i)
  | _ => none
theorem c_min2' (ok : Okk g X) : CallR X (.builtin "min") (fun xs H Q => ∃ x y, xs = [x, y] ∧ rMN g fMin2 [x, y] H Q) := CallR.imp (c_min2 ok) fun xs H Q ⟨x, y, e, F, ds, o, t, ef, w⟩ => ⟨x, y, e, F, ds, o, t, (by
  unfold fMin2 at ef
  split at ef
  · exact ef
  · cases ef), w⟩
theorem c_max2' (ok : Okk g X) : CallR X (.builtin "max") (fun xs H Q => ∃ x y, xs = [x, y] ∧ rMN g fMax2 [x, y] H Q) := CallR.imp (c_max2 ok) fun xs H Q ⟨x, y, e, F, ds, o, t, ef, w⟩ => ⟨x, y, e, F, ds, o, t, (by
  unfold fMax2 at ef
  split at ef
  · exact ef
  · cases ef), w⟩
theorem fMin2_len : ∀ ds o, fMin2 ds = some o → ds.length = 2 := fun ds o h => by
  unfold fMin2 at h
  split at h
  · rfl
  · cases h
theorem fMax2_len : ∀ ds o, fMax2 ds = some o → ds.length = 2 := fun ds o h => by
  unfold fMax2 at h
  split at h
  · rfl
  · cases h
theorem q_min2 (ok : Okk g X) (hm : X.mg "min" = none) (ha : PA X [x, y] (tD g E md)) (hg : Gl X "min" := by rfl) (he : starEach [x, y] X.env = (false, eval x X.env) :: starEach [y] X.env := by rfl) (hpl : (backTo pos (starEach [y] X.env)).any (·.1) = false := by rfl) :
    PE X (.Call (.Name "min" p1) [x, y] [] pos) (tE g E (mOpN fMin2 md)) := s_callBN (c_min2' ok) (semN2 g fMin2 fMin2_len) hg hm PyProof.Rows.boot_min ha (by decide) (by decide) he hpl
theorem q_max2 (ok : Okk g X) (hm : X.mg "max" = none) (ha : PA X [x, y] (tD g E md)) (hg : Gl X "max" := by rfl) (he : starEach [x, y] X.env = (false, eval x X.env) :: starEach [y] X.env := by rfl) (hpl : (backTo pos (starEach [y] X.env)).any (·.1) = false := by rfl) :
    PE X (.Call (.Name "max" p1) [x, y] [] pos) (tE g E (mOpN fMax2 md)) := s_callBN (c_max2' ok) (semN2 g fMax2 fMax2_len) hg hm PyProof.Rows.boot_max ha (by decide) (by decide) he hpl
/-! list() -/
def gList : F1 := fun d => fList [d]
theorem dvl_ints {H : Hp} {F : Addr → Prop} : ∀ l : List Int, DvL g H F (l.map .int) (l.map V.int)
  | [] => .nil
  | _ :: l => .cons (.int _) (dvl_ints l)
theorem c_list (ok : Okk g X) : CallR X (.type "list") (fun xs H Q => ∃ x, xs = [x] ∧ rM1 g gList x H Q) := by
  refine CallR.one1 call_list_of fun x H Q h => ?_
  obtain ⟨F, d, o, hx, ef, w⟩ := h
  cases d with
  | lst l =>
    cases ef
    obtain ⟨a, vs, rfl, h1, t⟩ := hx.lst
    exact ⟨a, vs, rfl, .inl (SqL.of h1), fun p hn => w.newL t hn⟩
  | tup l =>
    cases ef
    obtain ⟨a, vs, rfl, h1, t⟩ := hx.tup
    exact ⟨a, vs, rfl, .inr (by rw [ok.K]; exact h1), fun p hn => w.newL t hn⟩
  | scr l =>
    simp only [gList, fList] at ef
    split at ef
    · cases ef
      have hx : ∃ a, x = .ref a ∧ SqL g.K H a (l.map V.int) := by
        cases hx with
        | val h => cases h with | scr h => exact ⟨_, rfl, h.1⟩
        | top h => exact h.elim
      obtain ⟨a, rfl, h1⟩ := hx
      exact ⟨a, _, rfl, .inl (by rw [ok.K]; exact h1), fun p hn => w.newL (dvl_ints l) hn⟩
    · cases ef
  | _ => cases ef
end
end Mm
-- text S20
set_option Elab.async false
set_option linter.all false
set_option maxRecDepth 100000
set_option maxHeartbeats 1000000
/-! S20: dict displays, pop(), gcd. -/
namespace Mm
open PySem PySem.Spec PyProof.Rows L2
section
variable {g : Gr} {σ : Sg} {H : Hp} {F : Addr → Prop} {E : XK} {X : Cx} {x y o : Expr} {pos p1 p2 : Pos} {es : List Expr} {md : MD} {ma mb mc mo : ME} {n : Str}
theorem new_dO {P : Program} {w : World} {h : Heap} (hb : sysModules < h.objs.size) : ObjOk P w (upd H h.objs.size (dO w h.objs.size { cls := .type "dict", data := .dict #[] } [])) (h.push { cls := .type "dict", data := .dict #[] }) h.objs.size (dO w h.objs.size { cls := .type "dict", data := .dict #[] } []) :=
  ⟨⟨Heap.get?_push_size _ rfl, ⟨⟨rfl, rfl, rfl⟩, #[], 0, rfl, .nil⟩, beq_eq_false_iff_ne.mpr (Ne.symm (Nat.ne_of_lt hb)), Nat.zero_le _⟩, ⟨_, Heap.get?_push_size _ rfl⟩, fun h1 h2 ⟨q1, q2⟩ k => ⟨k _ q1, q2⟩⟩
theorem keys_nil : KeysGood [] := ⟨List.nodup_nil, .inl fun p hp => by simp at hp⟩
theorem s_dict0 (ok : Okk g X) : PE X (.Dict [] [] pos) (tE g E mDict0) := by
  refine ⟨fun pins s σ H Q I h => ?_⟩
  obtain ⟨ρ, F, R, h⟩ := h
  have hn := I.hok.fresh (Nat.le_refl s.heap.objs.size)
  refine wpAny_Dict_empty ⟨.ref s.heap.objs.size, _, I.laid (a := s.heap.objs.size) (o := dO X.w s.heap.objs.size { cls := .type "dict", data := .dict #[] } []) (t' := s.toks) (fun _ _ q => Heap.get?_push_of_some _ q) (Nat.le_refl _) (new_dO I.big), rfl, ?_⟩
  rw [ok.w]
  exact h.ret (R.new hn) (SF.refl.new_ hn) _ ⟨_, rfl, R.freshF hn, R.freshHeld hn, hn, _, [], upd_same, keys_nil, .nil⟩
theorem s_gcd (ok : Okk g X) (hm : X.mg n = some (.builtin "math.gcd")) (ha : PA X (x :: es) (tD g E md)) (hg : Gl X n := by rfl) (hdb : (n == ("__debug__" : Str)) = false := by decide)
    (he : starEach (x :: es) X.env = (false, eval x X.env) :: starEach es X.env := by rfl) (hpl : (backTo pos (starEach es X.env)).any (·.1) = false := by rfl) : PE X (.Call (.Name n p1) (x :: es) [] pos) (tE g E (mOpN fGcd md)) :=
  PE.sub (pe_callBfun cr_gcd hg hm ha hdb he hpl) fun σ H Q h => callN_ (fun H F xs ds o Q t e w => by
    match ds, t with
    | [.int i, .int j], .cons (.int _) (.cons (.int _) .nil) =>
      cases e
      exact ⟨i, j, rfl, w.valI⟩) h
theorem s_pop0 (ok : Okk g X) (ho : PE X o (tE g E mo)) (hbase : attributeBase o "pop" X.env (eval o X.env) = eval o X.env := by rfl) (hline : (p1.endLine == p2.line) = true := by rfl) :
    PE X (.Call (.Attribute o "pop" p1) [] [] p2) (tE g E (mMeth fPop mo mNil)) :=
  PE.sub (pe_bm0 PySem.F.plainAttrs_list PySem.F.slot_list_pop PySem.F.type_list_pop (m_pop ok) ho hbase hline) fun σ H Q h => by
    obtain ⟨ρ, F, R, h⟩ := methT ok pop_va h
    refine ⟨ρ, F, R, h.mono fun r ρ1 H1 F1 R1 s1 h1 v rv => ?_⟩
    obtain ⟨ty, ρ2, F2, R2, h2⟩ := h1 v rv
    exact ⟨ty, h2.ret R2 SF.refl [] .nil⟩
end
end Mm
-- text S21
set_option Elab.async false
set_option linter.all false
set_option maxRecDepth 100000
set_option maxHeartbeats 1000000
/-! S21: a dict's store by itself; {k: v}. -/
namespace Mm
open PySem PySem.Spec PyProof.Rows L2
section
variable {g : Gr} {σ : Sg} {H : Hp} {F : Addr → Prop} {E : XK} {X : Cx} {x y o : Expr} {pos p1 p2 : Pos} {es : List Expr} {md : MD} {ma mb mc mo mk mv : ME} {n : Str}
/-- a dict's store -/
theorem dset (ok : Okk g X) {A : Around} {E : Value → Shared → Prop} {pins : List (Addr × Obj)} {s : Shared} {a : Addr} {k d : D} {l : List (D × D)} {ob : Obj} {kvs : List (D × V × V)} {i v : V} {iv u : Value} {Q : Unit → Shared → Prop} (hu : (nestedKind X.prog g.w).room A) (I : Inv X pins σ H s) (nf : ¬ F a) (h1 : H a = some (dO g.w a ob kvs)) (kg : KeysGood l) (t1 : DvK g H F l kvs)
    (hk : Dv g H F k i) (hd : Dv g H F d v) (ri : RelV i iv) (rv : RelV v u) (hc : keyOk l k = true ∧ l.length < big)
    (q : ∀ o' s', Inv X pins σ (upd H a o') s' → Top g (upd H a o') F a (.dic (dput l k d)) → (∀ u c q, H a = some u → u ≠ LamX.CodeO c q) → Q () s') : wpAny (model X.prog X.w) A (dictSet a iv u) Q E s := by
  obtain ⟨es, ep, D0⟩ := dictAt I h1
  obtain ⟨k1, k2, kc⟩ := keyOk_cases hc.1 kg
  have nc := not_code I h1
  have hz : (dput l k d).length ≤ sizeLine := by have := dput_len (l := l) (k := k) (v := d); rw [sizeLine_eq]; have := hc.2; unfold big at this; omega
  -- the end, of both kinds
  have fin : ∀ {h' : Heap} {tk : Nat} {o' : Obj} {kvs' : List (D × V × V)}, Heap.SameBut a s.heap h' → h'.get? a = some o' → DictIs g.w o' kvs' → DvK g H F (dput l k d) kvs' → Q () { s with heap := h', toks := tk } := fun {h' tk o' kvs'} sb ho hi tv => by
    refine q (dO g.w a o' kvs') _ (d_write I (by rw [h1]; exact True.intro) sb ⟨o', ho⟩ ⟨⟨ho, hi, D0.sys, by rw [← DvK.length tv]; exact hz⟩, ⟨o', ho⟩, fun h1 h2 ⟨p1, p2⟩ k => ⟨k _ p1, p2⟩⟩) ⟨o', kvs', upd_same, keys_put kg hc.1 d, tv.kept (keepU nf h1 (fun _ => dO_tup) (fun _ _ => dO_frz))⟩ nc
  rcases kc with ⟨lk, lf⟩ | ⟨lk, lf⟩
  · obtain ⟨vs, dd, vr⟩ := leafView (P := X.prog) D0 t1 lf kg.1
    obtain ⟨kvs', vr'⟩ := vr.put (k := k) (d := d) (b := u) (up := fun _ => u) (fun p hp => leaf_eq (lf p hp) lk) hk hd rv (fun _ _ _ _ => rv)
    rw [dv_leaf hk lk] at ri
    have hl : vs.length ≤ sizeLine := by rw [vr.length.1, sizeLine_eq]; have := hc.2; unfold big at this; omega
    rw [ok.w]
    refine wpAny_dictSet_pairs (hsz := hl) (kV_is ri) dd fun h' dd' hs => ?_
    have e : stored vs (leafKey k) u = (if (findK vs (leafKey k)).isSome then vs.map (fun x => if x.1 = leafKey k then (x.1, u) else x) else vs ++ [(leafKey k, u)]) := by
      unfold stored
      have : (vs.any fun kv => decide (kv.1 = leafKey k)) = (findK vs (leafKey k)).isSome := by
        unfold findK
        rw [Option.isSome_map, Bool.eq_iff_iff, List.find?_isSome, List.any_eq_true]
      rw [this]
    rw [e] at dd'
    obtain ⟨o', ho, hi⟩ := leafIs dd' vr' (by
      have := keys_put kg hc.1 d
      intro p hp
      rcases this.2 with z | z
      · have := (z p hp).1
        unfold dput at hp
        split at hp
        · obtain ⟨q, hq, rfl⟩ := List.mem_map.mp hp
          have := lf q hq
          split <;> exact this
        · rcases List.mem_append.mp hp with hp | hp
          · exact lf p hp
          · simp at hp; rw [hp]; exact lk
      · exact z p hp)
    exact fin (tk := s.toks + 1) hs ho hi vr'.dvk
  · obtain ⟨xs, dd, vr⟩ := tupView ok.K I D0 t1 lf kg.1
    obtain ⟨qa, rfl⟩ := tup_ref hk lk
    cases ri
    obtain ⟨kvs', vr'⟩ := vr.put (k := k) (d := d) (b := (qa, u)) (up := fun p => (p.1, u)) (fun p hp => eqb_nk _ _ (lf p hp).2.2 k2) hk hd ⟨rfl, rv⟩ (fun _ _ _ z => ⟨z.1, rv⟩)
    have ki : (nestedKind X.prog g.w).is s.heap (toNK k) qa := ⟨nested_of ok.K I hk (u := .ref qa) rfl k2, sh_depth k1 k2⟩
    have hl : xs.length ≤ sizeLine := by rw [vr.length.1, sizeLine_eq]; have := hc.2; unfold big at this; omega
    rw [ok.w]
    refine wpAny_dictSet_heap (hsz := hl) hu ki dd fun h' dd' hs => ?_
    have e : storedH xs (toNK k) qa u = (if (findK xs (toNK k)).isSome then xs.map (fun x => if x.1 = toNK k then (x.1, (x.2.1, u)) else x) else xs ++ [(toNK k, (qa, u))]) := by
      unfold storedH
      rw [atKey_findK]
      rfl
    rw [e] at dd'
    obtain ⟨o', ho, hi⟩ := tupIs dd' vr'
    have := fin (tk := s.toks + (nestedKind X.prog g.w).draws (toNK k)) hs ho hi vr'.dvk
    exact this
theorem Rel.side {ρ : Env} {a : Addr} {u o' : HO} (R : Rel g σ H F ρ) (nf : ¬ F a) (nh : ¬ Held σ ρ a) (hu : H a = some u) (u1 : ∀ z, u ≠ .tup z) (u2 : ∀ p q, u ≠ .frz p q) (u3 : ∀ p, u ≠ .tbl p) (no : ∀ u c q, H a = some u → u ≠ LamX.CodeO c q) : Rel g σ (upd H a o') F ρ := by
  have k : Keep H (upd H a o') F F := keepU nf hu u1 u2
  refine ⟨R.len, fun i c d e q => let ⟨v, s, x⟩ := R.val i c d e q; ⟨v, s, x.kept k⟩, fun i c d e q => ?_, R.inj, fun b f => ?_, tabs_upd hu u3 (fun c q => no u c q hu) R.tab⟩
  · obtain ⟨b, s, n, t⟩ := R.own i c d e q
    have ne : b ≠ a := fun z => nh (held_of e q (by rw [← z]; exact s))
    exact ⟨b, s, n, t.kept k fun o e => by rw [upd_ne ne]; exact e⟩
  · obtain ⟨o, e, t⟩ := R.fz b f
    exact ⟨o, by rw [upd_ne (fun z => nf (by rw [← z]; exact f))]; exact e, t⟩
theorem SF.side {σ' : Sg} {ρ ρ' : Env} {H' : Hp} {F' : Addr → Prop} {a : Addr} {o' : HO} (s : SF σ ρ H F σ' ρ' H' F') (hn : H a = none) : SF σ ρ H F σ' ρ' (upd H' a o') F' :=
  ⟨s.fr, s.new, fun b o e n t => by rw [upd_ne (ne_of_none e hn)]; exact s.ob b o e n t, fun b o e => by rw [upd_ne (ne_of_none e hn)]; exact s.there b o e, s.own, s.held, s.bo, s.fb, s.lk, s.len⟩
/-- an object of ours that no slot holds stays -/
theorem SF.aside {σ' : Sg} {ρ ρ' : Env} {H' : Hp} {F' : Addr → Prop} {a : Addr} {u : HO} (s : SF σ ρ H F σ' ρ' H' F') (nf : ¬ F a) (nh : ¬ Held σ ρ a) (hu : H a = some u) (u3 : ∀ p, u ≠ .tbl p) : ¬ F' a ∧ ¬ Held σ' ρ' a ∧ H' a = some u := by
  refine ⟨fun f => ?_, fun h => ?_, s.ob a u hu (fun z => nh z.held) u3⟩
  · rcases s.new a f with z | z | z
    · exact nf z
    · exact nh z.held
    · rw [hu] at z; cases z
  · rcases s.held a h with z | z
    · exact nh z
    · rw [hu] at z; cases z
theorem s_dict1 (ok : Okk g X) (hk : PE X x (tE g E mk)) (hv : PE X y (tE g E mv)) : PE X (.Dict [some x] [y] pos) (tE g E (mDict1 mk mv)) := by
  refine ⟨fun pins s σ H Q I h => ?_⟩
  obtain ⟨ρ, F, R, h⟩ := h
  have hn := I.hok.fresh (Nat.le_refl s.heap.objs.size)
  have e0 : (evalEachOpt [some x] X.env).zip ((evalEach [y] X.env).map fun v => do let x ← v; standAt pos; pure x) = [(eval x X.env, do let v ← eval y X.env; standAt pos; pure v)].map fun p => (some p.1, p.2) := rfl
  rw [arm_eval_Dict, e0, dictDisplay_pairs _ (by simp) (by simp)]
  refine wpAny_bind (wpAny_standAt (wpAny_bind ?_))
  unfold subDict
  refine wpAny_bind (wpAny_alloc (wpAny_bind (wpAny_holding ?_)))
  rw [if_pos (by simp)]
  have I0 : Inv X pins σ (upd H s.heap.objs.size (dO X.w s.heap.objs.size { cls := .type "dict", data := .dict #[] } [])) { s with heap := s.heap.push { cls := .type "dict", data := .dict #[] } } :=
    I.laid (a := s.heap.objs.size) (o := dO X.w s.heap.objs.size { cls := .type "dict", data := .dict #[] } []) (t' := s.toks) (fun _ _ q => Heap.get?_push_of_some _ q) (Nat.le_refl _) (new_dO I.big)
  rw [ok.w] at I0
  have R0 : Rel g σ (upd H s.heap.objs.size (dO g.w s.heap.objs.size { cls := .type "dict", data := .dict #[] } [])) F ρ := R.new hn
  have s0 : SF σ ρ H F σ ρ (upd H s.heap.objs.size (dO g.w s.heap.objs.size { cls := .type "dict", data := .dict #[] } [])) F := SF.refl.new_ hn
  have hd0 : upd H s.heap.objs.size (dO g.w s.heap.objs.size { cls := .type "dict", data := .dict #[] } []) s.heap.objs.size = some (dO g.w s.heap.objs.size { cls := .type "dict", data := .dict #[] } []) := upd_same
  have h0 := h.at s0
  refine wpAny_bind (evalPairs_cons (thn (hk.run pins _ σ _ (fun v H1 => ∃ p ρ1 F1, Rel g σ H1 F1 ρ1 ∧ SF σ ρ (upd H s.heap.objs.size (dO g.w s.heap.objs.size { cls := .type "dict", data := .dict #[] } [])) F σ ρ1 H1 F1 ∧ SF σ ρ H F σ ρ1 H1 F1 ∧
    RelR g σ (upd H s.heap.objs.size (dO g.w s.heap.objs.size { cls := .type "dict", data := .dict #[] } [])) ρ1 H1 F1 v p ∧ Runs g E (bnd (mv ρ1) fun z ρ2 => match p, frz z ρ2 with
          | .va kd, some (d, ρ3) => if keyOk [] kd = true then ret (Mm.R.ow (D.dic [(kd, d)])) ρ3 else none
          | x, x_1 => none) σ ρ H F fun r ρ' H' F' => ∀ (v : V), RelR g σ H ρ' H' F' v r → Q v H') I0 ⟨ρ, F, R0, h0.mono fun p ρ1 H1 F1 R1 s1 h1 v rv => ⟨p, ρ1, F1, R1, s1, h1.1, rv, h1.2⟩⟩) fun kv s1 ⟨v, H1, I1, rk, p, ρ1, F1, R1, a1, b1, rv, h1⟩ => ?_))
  refine wpAny_bind (thn (hv.run pins _ σ _ (fun w H2 => ∃ z ρ2 F2, Rel g σ H2 F2 ρ2 ∧ SF σ ρ1 H1 F1 σ ρ2 H2 F2 ∧ SF σ ρ H F σ ρ2 H2 F2 ∧ RelR g σ H1 ρ2 H2 F2 w z ∧ Runs g E (match p, frz z ρ2 with
          | .va kd, some (d, ρ3) => if keyOk [] kd = true then ret (Mm.R.ow (D.dic [(kd, d)])) ρ3 else none
          | x, x_1 => none) σ ρ H F fun r ρ' H' F' => ∀ (v : V), RelR g σ H ρ' H' F' v r → Q v H') I1 ⟨ρ1, F1, R1, (h1.at b1).mono fun z ρ2 H2 F2 R2 s2 h2 w rw' => ⟨z, ρ2, F2, R2, s2, h2.1, rw', h2.2⟩⟩) fun wv s2 ⟨w, H2, I2, rwv, z, ρ2, F2, R2, a2, b2, rw2, h2⟩ => ?_)
  refine wpAny_bind (wpAny_standAt (wpAny_pure (evalPairs_nil (wpAny_holding ?_))))
  cases p with
  | va kd =>
    cases ef : frz z ρ2 with
    | none => simp only [ef] at h2; exact h2.no.elim
    | some q =>
      obtain ⟨d, ρ3⟩ := q
      simp only [ef] at h2
      split at h2
      · rename_i hc
        have c2 := a1.trans a2
        obtain ⟨F3, R3, s3, z3, up⟩ := frz_ok R2 c2 (rw2.weaken fun a n => a1.none_of n) ef
        obtain ⟨nf, nh, hd2⟩ := s3.aside (R.freshF hn) (R.freshHeld hn) hd0 (fun _ => dO_tbl)
        have hkd : Dv g H2 F3 kd v := by
          have rv : Dv g H1 F1 kd v := rv
          have k2 := a2.keep R1
          exact (rv.kept k2).kept ⟨up, fun _ _ _ e => e, fun _ _ _ e => e⟩
        simp only [List.forIn_cons, List.forIn_nil]
        refine wpAny_bind (wpAny_bind (wpAny_bind (dset ok (show X.A.units + 8 < cLine by have := ok.u; omega) I2 nf hd2 keys_nil .nil hkd z3 rk rwv ⟨hc, by decide⟩ fun o' s' I' t' nc => wpAny_pure ?_)))
        refine wpAny_pure (wpAny_pure (wpAny_pure (wpAny_pure ?_)))
        exact ⟨.ref s.heap.objs.size, _, I', rfl, h2.ret (R3.side nf nh hd2 (fun _ => dO_tup) (fun _ _ => dO_frz) (fun _ => dO_tbl) nc) ((s0.trans s3).side hn) _ ⟨_, rfl, nf, nh, hn, t'⟩⟩
      · exact h2.no.elim
  | _ => exact h2.no.elim
end
end Mm
-- text S22
set_option Elab.async false
set_option linter.all false
set_option maxRecDepth 100000
set_option maxHeartbeats 1000000
/-! S22: d.get(k, x). -/
namespace Mm
open PySem PySem.Spec PyProof.Rows L2
section
variable {g : Gr} {σ : Sg} {H : Hp} {F : Addr → Prop} {E : XK} {X : Cx} {x y z o : Expr} {pos p1 p2 : Pos} {ma mb mc : ME} {a : Addr} {l : List (D × D)} {kvs : List (D × V × V)} {k : D}
theorem get2_dict (ok : Okk g X) {pins : List (Addr × Obj)} {s : Shared} {o : Obj} {x w : V} {u r : Value} {Q : VK} (I : Inv X pins σ H s) (hd : H a = some (dO g.w a o kvs)) (kg : KeysGood l) (t : DvK g H F l kvs) (hx : Dv g H F k x) (rx : RelV x u) (rw' : RelV w r) (hk : keyOk l k = true)
    (q1 : ∀ d v, dget l k = some d → Dv g H F d v → Q v H) (q2 : dget l k = none → Q w H) : wpAny (model X.prog X.w) X.A (call (.builtin "dict.get") [.ref a, u, r]) (EP X pins σ Q) X.xe s := by
  obtain ⟨es, ep, D0⟩ := dictAt I hd
  obtain ⟨k1, k2, kc⟩ := keyOk_cases hk kg
  rcases kc with ⟨lk, lf⟩ | ⟨lk, lf⟩
  · obtain ⟨vs, dd, vr⟩ := leafView (P := X.prog) D0 t lf kg.1
    obtain ⟨f0, f1⟩ := vr.find (k := k) fun p hp => leaf_eq (lf p hp) lk
    rw [dv_leaf hx lk] at rx
    rw [ok.w]
    refine call_meetsIn PySem.F.slot_dict_get dd.typeIs PySem.F.entry_dict_get (PySem.F.args_dict_get_3 _ _ _) (meets_dict_get_default (mixKind X.prog g.w) a (kV_is rx) D0.sys r) ⟨_, dd.mapOf, ?_⟩
    rw [valueAt_findK]
    cases e : dget l k with
    | none => rw [f0 e]; exact ⟨w, H, I.tok _, rw', q2 e⟩
    | some d =>
      obtain ⟨_, v, b, e2, rb, dv⟩ := f1 d e
      rw [e2]; exact ⟨v, H, I.tok _, rb, q1 d v e dv⟩
  · obtain ⟨xs, dd, vr⟩ := tupView ok.K I D0 t lf kg.1
    obtain ⟨f0, f1⟩ := vr.find (k := k) fun p hp => eqb_nk _ _ (lf p hp).2.2 k2
    obtain ⟨qa, rfl⟩ := tup_ref hx lk
    cases rx
    rw [ok.w]
    have ki : (nestedKind X.prog g.w).is s.heap (toNK k) qa := ⟨nested_of ok.K I hx (u := .ref qa) rfl k2, sh_depth k1 k2⟩
    refine call_meetsIn PySem.F.slot_dict_get dd.typeIs PySem.F.entry_dict_get (PySem.F.args_dict_get_3 _ _ _) (meetsH_dict_get_default (nestedKind X.prog g.w) a qa D0.sys r) ⟨in1_room ok.u, _, xs, ki, dd, ?_⟩
    rw [atKey_findK]
    cases e : dget l k with
    | none => rw [f0 e]; exact ⟨w, H, I.tok _, rw', q2 e⟩
    | some d =>
      obtain ⟨_, v, b, e2, rb, dv⟩ := f1 d e
      rw [e2]; exact ⟨v, H, I.tok _, rb.2, q1 d v e dv⟩
theorem s_get2 (ok : Okk g X) (ha : PE X x (tE g E ma)) (hb : PE X y (tE g E mb)) (hc : PE X z (tE g E mc)) (hbase : attributeBase x "get" X.env (eval x X.env) = eval x X.env := by rfl)
    (hfew : ((backTo p2 (starEach [y, z] X.env)).all (fun x => !x.1) && (backToKw p2 (keywordEach [] X.env)).all (fun x => x.1.isSome) && decide (([y, z] : List Expr).length + ([] : List Keyword).length + (if ([] : List Keyword).isEmpty then 0 else 1) < 30)) = true := by rfl)
    (hline : (p1.endLine == p2.line) = true := by rfl) (htr : backTo p2 (starEach [y, z] X.env) = [(false, eval y X.env), (false, eval z X.env)] := by rfl) : PE X (.Call (.Attribute x "get" p1) [y, z] [] p2) (tE g E (mGetD ma mb mc)) := by
  refine ⟨fun pins s σ H Q I h => ?_⟩
  obtain ⟨ρ, F, R, h⟩ := h
  refine wpAny_Call_method hbase hfew hline PySem.F.plainAttrs_dict PySem.F.slot_dict_get PySem.F.type_dict_get (thn (ha.run pins s σ H (fun v H1 => ∃ a p ρ1 F1, v = .ref a ∧ (∃ ob kvs, H1 a = some (dO g.w a ob kvs)) ∧ Rel g σ H1 F1 ρ1 ∧ SF σ ρ H F σ ρ1 H1 F1 ∧ RelR g σ H ρ1 H1 F1 v p ∧
    Runs g E (bnd (mb ρ1) fun y ρ2 => bnd (mc ρ2) fun z ρ3 => match deref ρ3 p, deref ρ3 y with
      | some (.dic l), some k => if keyOk l k = true then (match dget l k with
          | some v => ret (.va v) ρ3
          | none => ret z ρ3) else none
      | _, _ => none) σ ρ H F fun r ρ' H' F' => ∀ v, RelR g σ H ρ' H' F' v r → Q v H') I ⟨ρ, F, R, (h.at SF.refl).mono fun p ρ1 H1 F1 R1 s1 h1 v rv => ?_⟩) fun u s1 ⟨v, H1, I1, ru, a, p, ρ1, F1, ev, ⟨ob, kvs, hd⟩, R1, b1, rp, h1⟩ => ?_)
  · obtain ⟨t1, h1⟩ := h1
    split at h1
    · rename_i hi
      cases e1 : deref ρ1 p with
      | none => rw [e1] at hi; cases hi
      | some d1 =>
        rw [e1] at hi
        cases d1 with
        | dic l =>
          obtain ⟨a, ob, kvs, rfl, hd, _, _⟩ := (deref_ok R1 rv e1).dic
          exact ⟨a, p, ρ1, F1, rfl, ⟨ob, kvs, hd⟩, R1, t1, rv, h1⟩
        | _ => cases hi
    · exact h1.no.elim
  subst ev
  obtain rfl : u = Value.ref a := ru
  obtain ⟨es, ep, D0⟩ := dictAt I1 hd
  refine ⟨⟨ob, D0.get, D0.ex.1⟩, fun b q => by cases q; exact ⟨ob, D0.get, D0.ex.2.1⟩, ?_⟩
  rw [htr]
  refine Calls.callWith_builtin rfl (Calls.evalArgs_plain (Calls.spliced_cons (thn (hb.run pins s1 σ H1 (fun v H2 => ∃ q ρ2 F2, Rel g σ H2 F2 ρ2 ∧ SF σ ρ1 H1 F1 σ ρ2 H2 F2 ∧ SF σ ρ H F σ ρ2 H2 F2 ∧ RelR g σ H1 ρ2 H2 F2 v q ∧
    Runs g E (bnd (mc ρ2) fun z ρ3 => match deref ρ3 p, deref ρ3 q with
      | some (.dic l), some k => if keyOk l k = true then (match dget l k with
          | some v => ret (.va v) ρ3
          | none => ret z ρ3) else none
      | _, _ => none) σ ρ H F fun r ρ' H' F' => ∀ v, RelR g σ H ρ' H' F' v r → Q v H') I1 ⟨ρ1, F1, R1, (h1.at b1).mono fun q ρ2 H2 F2 R2 s2 h2 w rw' => ⟨q, ρ2, F2, R2, s2, h2.1, rw', h2.2⟩⟩) fun iv s2 ⟨y, H2, I2, ry, q, ρ2, F2, R2, a2, b2, rq, h2⟩ => ?_)))
  refine Calls.spliced_cons (thn (hc.run pins s2 σ H2 _ I2 ⟨ρ2, F2, R2, (h2.at b2).mono fun z ρ3 H3 F3 R3 s3 h3 w rz => (show ∃ z ρ3 F3, Rel g σ H3 F3 ρ3 ∧ SF σ ρ2 H2 F2 σ ρ3 H3 F3 ∧ SF σ ρ H F σ ρ3 H3 F3 ∧ RelR g σ H2 ρ3 H3 F3 w z ∧
    Runs g E (match deref ρ3 p, deref ρ3 q with
      | some (.dic l), some k => if keyOk l k = true then (match dget l k with
          | some v => ret (.va v) ρ3
          | none => ret z ρ3) else none
      | _, _ => none) σ ρ H F (fun r ρ' H' F' => ∀ v, RelR g σ H ρ' H' F' v r → Q v H') from ⟨z, ρ3, F3, R3, s3, h3.1, rz, h3.2⟩)⟩) fun fv s3 ⟨w, H3, I3, rwv, z, ρ3, F3, R3, a3, b3, rz, h3⟩ => Calls.spliced_nil ?_)
  have rp3 := (rp.kept R1 a2).kept R2 a3
  have rq3 := rq.kept R2 a3
  cases e1 : deref ρ3 p with
  | none => simp only [e1] at h3; exact h3.no.elim
  | some dx =>
    cases dx with
    | dic l =>
      cases e2 : deref ρ3 q with
      | none => simp only [e1, e2] at h3; exact h3.no.elim
      | some kd =>
        simp only [e1, e2] at h3
        split at h3
        · rename_i hk
          obtain ⟨a', ob', kvs', ea, hd', kg, t'⟩ := (deref_ok R3 rp3 e1).dic
          cases ea
          refine get2_dict ok I3 hd' kg t' ((deref_ok R3 rq3 e2).key (keyOk_hb hk)) ry rwv hk (fun d v e dv => ?_) fun e => ?_
          · simp only [e] at h3
            exact h3.ret R3 b3 v dv
          · simp only [e] at h3
            exact h3.ret R3 b3 w (rz.weaken fun a n => b2.none_of n)
        · exact h3.no.elim
    | _ => simp only [e1] at h3; exact h3.no.elim
end
end Mm
-- text S23
set_option Elab.async false
set_option linter.all false
set_option maxRecDepth 100000
set_option maxHeartbeats 1000000
/-! S23: raise; calls of defs that raise. -/
namespace Mm
open PySem PySem.Spec PyProof.Rows L2
/-- raise x(text): the class alone tells -/
def mRaise (x : Str) : MS := fun ρ => some (.error (.cls x), ρ)
section
variable {g : Gr} {σ : Sg} {H : Hp} {F : Addr → Prop} {E : XK} {X : Cx} {e : Expr} {pos : Pos} {x : Str} {C : Addr}
theorem s_raise (ok : Okk g X) (tk : L2N.Takes X (fun cls d _ H => E cls d H)) (he : L2N.PMk X e (fun _ H Q => Q (.ref C) none H)) (hC : g.mg x = some (.ref C)) : PS X (.Raise (some e) none pos) (tS g E (mRaise x)) := by
  refine PS.sub (L2N.ps_raise ok.calm tk he) fun De σ H h => ?_
  obtain ⟨ρ, F, R, o, ρ', e, h⟩ := h
  cases e
  exact h (.ref C) none σ H F R SF.refl ⟨rfl, C, hC, rfl⟩
end
end Mm
-- text S24
set_option Elab.async false
set_option linter.all false
set_option maxRecDepth 100000
set_option maxHeartbeats 1000000
/-! S24: defs that may raise: promises, calls. -/
namespace Mm
open PySem PySem.Spec PyProof.Rows L2
section
variable {g : Gr} {E : XK} {X : Cx} {x y z : Expr} {pos p1 p2 : Pos} {m : Fn} {es : List Expr} {ml : ML} {k : Nat} {n : Str}
/-- a def as others call it; it may raise -/
structure HasX (P : Program) (base : Heap) (g : Gr) (k : Nat) (n : Str) (m : Fn) : Prop where
  ex : ∃ (f : Addr) (fd : FuncData) (ps : List Str), FnOk P g.w g.K g.mg base (L2N.CX P g.w) k f fd ps (spM g m) ∧ g.mg n = some (.ref f) ∧ PySem.W.keepIn g.K (.ref f) = true ∧ Binds g.K fd ps []
theorem HasX.mono {P : Program} {base : Heap} {j : Nat} (h : HasX P base g j n m) (l : j ≤ k) : HasX P base g k n m := let ⟨f, fd, ps, a, b⟩ := h.ex; ⟨f, fd, ps, a.mono l, b⟩
theorem passes_takes (tk : L2N.Takes X (fun cls d _ H => E cls d H)) : Passes (L2N.CX X.prog X.w) X E := fun _ _ _ _ _ _ I c => tk _ _ (L2N.XE.of_call I (fun _ _ _ h => h) c)
theorem s_fx (ok : Okk g X) (ps' : Passes (L2N.CX X.prog X.w) X E) (hr : Room k X.A) (h : HasX X.prog X.base g k n m) (ha : PA X (x :: es) (tL g E ml)) (hg : Gl X n := by rfl) (hdb : (n == ("__debug__" : Str)) = false := by decide)
    (he : starEach (x :: es) X.env = (false, eval x X.env) :: starEach es X.env := by rfl) (hpl : (backTo pos (starEach es X.env)).any (·.1) = false := by rfl) : PE X (.Call (.Name n p1) (x :: es) [] pos) (tE g E (mCall m ml)) := by
  obtain ⟨f, fd, ps, a, b, c, d⟩ := h.ex
  have a' : FnOk X.prog X.w X.K X.mg X.base (L2N.CX X.prog X.w) k f fd ps (spM g m) := by rw [ok.K, ok.w, ok.mg]; exact a
  refine PE.sub (pe_call (E := E) (dvs := []) a' hr hg (by rw [ok.mg]; exact b) (by rw [ok.K]; exact c) (by rw [ok.K]; exact d) .nil ps' ha hdb he hpl) fun σ H Q h => ?_
  obtain ⟨ρ, F, R, h⟩ := callT h
  exact ⟨ρ, F, R, h.mono fun rs ρ' H' F' _ _ q vs ra => by show spM g m (vs ++ []) H' Q E; rw [List.append_nil]; exact q vs ra⟩
end
/-- the context of a def's body that may raise -/
abbrev cxX (P : Program) (w : World) (K : PySem.W.Frag) (mg : Str → Option Value) (base : Heap) (N : List Str) (qual : Str) (scope : Scope) (f : Addr) (cd : Value) (B : Around) (up : List PySem.Env) (t : Shared) (H : Hp) (E : XK) : Cx := cxOf (L2N.CX P w) P w K mg base N qual scope f cd B up t H E
theorem fnOkX {P : Program} {base : Heap} {x qual : Str} {params : Arguments} {body : List Stmt} {scope : Scope} {f : Addr} {fd : FuncData} {N ps : List Str} {k n more : Nat} {g : Gr} {mb : MS}
    (Fd : FunD g.K x qual params body scope [] [] f fd) (S : FnScope N ps scope) (hn : ps.length = n) (hN : N.length = n + more)
    (hb : ∀ (cd : Value) (B : Around) (up : List PySem.Env) (t : Shared) (H : Hp) (E : XK), Okk g (cxX P g.w g.K g.mg base N qual scope f cd B up t H E) → Room k (cxX P g.w g.K g.mg base N qual scope f cd B up t H E).A → L2N.Takes (cxX P g.w g.K g.mg base N qual scope f cd B up t H E) (fun cls d _ H => E cls d H) →
      PSs (cxX P g.w g.K g.mg base N qual scope f cd B up t H E) body (tS g E mb)) :
    FnOk P g.w g.K g.mg base (L2N.CX P g.w) (k + 1) f fd ps (spM g (mDef n more mb)) :=
  Fd.ok S (fun vs H Q E h => by rw [hn]; exact spM_len h) fun cd B up t H vs Q E room h => ⟨_, hb cd B up t H E ⟨⟨rfl, rfl, rfl, by have := room.un; show (B.deeper _).units + 200 < cLine; omega, S.nd, passes_of rfl⟩, rfl⟩ room (L2N.takes_of rfl rfl rfl rfl), spM_body hN h⟩
theorem passes0 {P : Program} {w : World} {X : Cx} : Passes (L2N.CX P w) X E0 := fun _ _ _ _ _ _ _ c => by
  obtain ⟨_, _, _, _, _, _, _, _, _, _, _, _, z⟩ := c
  exact z.elim
end Mm
-- text S25
set_option Elab.async false
set_option linter.all false
set_option maxRecDepth 100000
set_option maxHeartbeats 1000000
/-! S25: the text's exception classes without own __init__. -/
namespace Mm
open PySem PySem.Spec PyProof.Rows L2
/-- n names an exception class of the text (over ValueError, no __init__) at C -/
structure ExcN (g : Gr) (n : Str) (C : Addr) : Prop where
  gC : g.mg n = some (.ref C)
  kC : PySem.W.keepIn g.K (.ref C) = true
  ex : PySem.W.excIn g.K C [.type "ValueError", .type "Exception", .type "BaseException", .type "object"] "ValueError.__new__" = true
  sub : PySem.W.subIn g.K (.ref C) (.type "BaseException") = some true
  ty : PySem.W.typeIn g.K (.ref C) = some (.type "type")
theorem s_raiseN {g : Gr} {E : XK} {X : Cx} {n m : Str} {j : Nat} {C : Addr} {p p2 pos pos' : Pos} (ok : Okk g X) (tk : L2N.Takes X (fun cls d _ H => E cls d H)) (h : ExcN g n C) (hg : Gl X n := by rfl) (hdb : (n == ("__debug__" : Str)) = false := by decide) :
    PS X (.Raise (some (.Call (.Name n p) [.Constant (.str m) j p2] [] pos)) none pos') (tS g E (mRaise n)) :=
  s_raise ok tk (L2N.pmk_own PySem.F.excBase_ValueError (by rw [ok.K]; exact h.ex) (by rw [ok.mg]; exact h.gC) (by rw [ok.K]; exact h.kC) (raises_own (by rw [ok.K]; exact h.sub) (by rw [ok.K]; exact h.ty)) hg hdb) h.gC
end Mm
-- text H0
set_option Elab.async false
set_option linter.all false
set_option maxRecDepth 100000
set_option maxHeartbeats 2000000
/-! H0: walking and unpacking where an exception is handled. -/
namespace Mm
open PySem PySem.Spec PyProof.Rows L2 HotX
section
variable {prog : Program} {w : World} {A : Around} {E : Value → Shared → Prop} {s : Shared} {x1 it t : Addr} {i : Nat} {items : Array Value} {Q : Option Value → Shared → Prop}
/-- StopIteration, raised while x1 is handled -/
theorem stopH {α : Type} {Qa : α → Shared → Prop} (hot : HotAt A x1 s.heap) (h : ∀ h' e, (∀ b o, s.heap.get? b = some o → h'.get? b = some o) → (∃ o, h'.get? e = some o ∧ o.cls = .type "StopIteration") → E (.ref e) { s with heap := h' }) :
    wpAny (model prog w) A (newExc (.type "StopIteration") [] >>= fun e => (raiseNew e : Sem α)) Qa E s := by
  obtain ⟨hh, o1, v1, g1, d1, c1⟩ := hot
  refine wpAny_bind ?_
  simp only [newExc, newTuple]
  refine wpAny_bind (wpAny_newObj_type ?_ (by size_fits))
  refine wpAny_bind (m := firstArgMember _ _) (wpAny_of_eq (a := Value.none) (by first | rfl | (simp only [firstArgMember]; rfl)) ?_); refine wpAny_newObj_type ?_ (by size_fits)
  have lt := Heap.lt_size (Heap.get?_push_of_some (h := s.heap) { cls := Value.type "tuple", data := Data.seq ([] : List Value).toArray } g1)
  refine raiseNew_hot ⟨hh, o1, v1, Heap.get?_push_of_some _ (Heap.get?_push_of_some _ g1), d1, c1⟩ (Nat.ne_of_lt (Heap.lt_size (Heap.get?_push_of_some _ g1))) (Heap.get?_push_size _ rfl) rfl (by first | (simp; done) | (simp; omega)) ?_
  refine h _ _ (fun b o e => ?_) ⟨_, Heap.get?_update_self _ (Heap.get?_push_size _ rfl) rfl, rfl⟩
  rw [Heap.get?_update_other _ _ (Nat.ne_of_gt (Heap.lt_size (Heap.get?_push_of_some _ e)))]; exact Heap.get?_push_of_some _ (Heap.get?_push_of_some _ e)
theorem nextTH (hot : HotAt A x1 s.heap) (hit : s.heap.IsTupleIter it t i) (ht : s.heap.IsTuple t items) (hx : items[i]? = none) (hQ : ∀ h', Heap.ExtBut it s.heap h' → Q none { s with heap := h' }) : wpAny (model prog w) A (pyNext (.ref it)) Q E s := by
  obtain ⟨o, ho, hc, hd⟩ := id hit
  obtain ⟨ol, hol, _, nl, hdl⟩ := ht
  obtain ⟨hh, o1, v1, g1, d1, c1⟩ := hot
  have ne : it ≠ x1 := fun z => by subst z; rw [ho] at g1; cases g1; rw [hd] at d1; cases d1; simp at c1
  unfold pyNext
  refine wpAny_bind (wpAny_attempt (wpAny_callSpecial?_slot (name := Str.ofString "__next__") hit.typeIs F.slot_tuple_iterator_next (wpAny_call_entry F.slot_tuple_iterator_next hit.typeIs F.entry_tuple_iterator_next ?_ (F.args_tuple_iterator_next_1 _))))
  show wpAny _ _ (field (.ref it) 0 >>= _) _ _ s; refine wpAny_bind (wpAny_field ho hd (x := .ref t) rfl ?_)
  show wpAny _ _ (if (Value.ref t == Value.none) = true then _ else _) _ _ s; rw [if_neg (show ¬ ((Value.ref t == Value.none) = true) from Bool.false_ne_true)]
  show wpAny _ _ (field (.ref it) 1 >>= _) _ _ s; refine wpAny_bind (wpAny_field ho hd (x := .int i 0) rfl ?_)
  show wpAny _ _ (seqItems? (.ref t) >>= _) _ _ s; refine wpAny_bind (wpAny_seqItems hol hdl ?_)
  simp only [Int.toNat_natCast, hx]
  refine wpAny_bind (wpAny_rule (wpAny_bind (wpAny_setField ho hd (by simp) ?_)))
  refine stopH (x1 := x1) ⟨hh, o1, v1, (Heap.get?_update_other _ _ ne).trans g1, d1, c1⟩ fun h' e k hs => ?_
  refine wpAny_bind (wpAny_isInstance (T := "StopIteration") (b := true) hs isSubtype_stop (wpAny_pure (hQ _ fun b u hb z => k b u ?_)))
  exact (Heap.get?_update_other _ _ (Ne.symm hb)).trans z
theorem nextLH (hot : HotAt A x1 s.heap) (hit : s.heap.IsListIter it t i) (ht : s.heap.IsList t items) (hx : items[i]? = none) (hQ : ∀ h', Heap.ExtBut it s.heap h' → Q none { s with heap := h' }) : wpAny (model prog w) A (pyNext (.ref it)) Q E s := by
  obtain ⟨o, ho, hc, hd⟩ := id hit
  obtain ⟨ol, hol, _, nl, hdl⟩ := ht
  obtain ⟨hh, o1, v1, g1, d1, c1⟩ := hot
  have ne : it ≠ x1 := fun z => by subst z; rw [ho] at g1; cases g1; rw [hd] at d1; cases d1; simp at c1
  unfold pyNext
  refine wpAny_bind (wpAny_attempt (wpAny_callSpecial?_slot (name := Str.ofString "__next__") hit.typeIs slot_listiter_next (wpAny_call_entry slot_listiter_next hit.typeIs entry_listiter_next ?_ (args_listiter_next _))))
  show wpAny _ _ (field (.ref it) 0 >>= _) _ _ s; refine wpAny_bind (wpAny_field ho hd (x := .ref t) rfl ?_)
  show wpAny _ _ (if (Value.ref t == Value.none) = true then _ else _) _ _ s; rw [if_neg (show ¬ ((Value.ref t == Value.none) = true) from Bool.false_ne_true)]
  show wpAny _ _ (field (.ref it) 1 >>= _) _ _ s; refine wpAny_bind (wpAny_field ho hd (x := .int i 0) rfl ?_)
  show wpAny _ _ (seqItems? (.ref t) >>= _) _ _ s; refine wpAny_bind (wpAny_seqItems hol hdl ?_)
  simp only [Int.toNat_natCast, hx]
  refine wpAny_bind (wpAny_rule (wpAny_bind (wpAny_setField ho hd (by simp) ?_)))
  refine stopH (x1 := x1) ⟨hh, o1, v1, (Heap.get?_update_other _ _ ne).trans g1, d1, c1⟩ fun h' e k hs => ?_
  refine wpAny_bind (wpAny_isInstance (T := "StopIteration") (b := true) hs isSubtype_stop (wpAny_pure (hQ _ fun b u hb z => k b u ?_)))
  exact (Heap.get?_update_other _ _ (Ne.symm hb)).trans z
/-- a, b = a tuple -/
theorem unpH {targets : List (Bool × (Value → Sem Unit))} {Qu : Unit → Shared → Prop} (hot : HotAt A x1 s.heap) (ht : s.heap.IsTuple t items) (hn : targets.length = items.size) (hst : targets.findIdx? (·.1) = none)
    (h : ∀ h', Heap.ExtBut s.heap.objs.size s.heap h' → wpAny (model prog w) A (assignInOrder (targets.map (·.2)) items.toList) Qu E { s with heap := h' }) : wpAny (model prog w) A (unpack (.ref t) targets) Qu E s := by
  have lt : t ≠ s.heap.objs.size := let ⟨_, ho, _⟩ := ht; Nat.ne_of_lt (Heap.lt_size ho)
  obtain ⟨hh, o1, v1, g1, d1, c1⟩ := hot
  have lt1 : x1 ≠ s.heap.objs.size := Nat.ne_of_lt (Heap.lt_size g1)
  unfold unpack; rw [hn, hst]
  refine wpAny_bind (wpAny_holding ?_)
  unfold unpackItems notIterableAtAll
  refine wpAny_bind (wpAny_bind (wpAny_specialOf ht.typeIs F.slot_tuple_iter.lookup (wpAny_pure ?_)))
  simp only [Bool.false_eq_true, if_false]
  refine wpAny_bind (wpAny_holding (wpAny_pyIter_tuple ht ?_))
  refine wpAny_bind (wpAny_holding (wpAny_draw_tuple lt items.size 0 _ _ ⟨_, Heap.get?_push_size _ rfl, rfl, rfl⟩ (ht.push _) (by omega) fun h1 it1 sb1 => ?_))
  rw [show List.take items.size (List.drop 0 items.toList) = items.toList from by rw [List.drop_zero]; exact List.take_of_length_le (by simp), if_neg (by simp)]
  refine wpAny_bind (wpAny_holding (nextTH (x1 := x1) ⟨hh, o1, v1, sb1.extBut x1 o1 lt1 (Heap.get?_push_of_some _ g1), d1, c1⟩ it1 ((ht.push _).extBut sb1.extBut lt) (by simp) fun h2 e2 => ?_))
  simp only [Option.isSome_none, Bool.false_eq_true, if_false]
  exact wpAny_pure (h h2 fun b o hb e => e2 b o hb (sb1.extBut b o hb (Heap.get?_push_of_some _ e)))
end
end Mm
-- text H1
set_option Elab.async false
set_option linter.all false
set_option maxRecDepth 100000
set_option maxHeartbeats 2000000
/-! H1: comprehensions where an exception is handled. -/
namespace Mm
open PySem PySem.Spec PyProof.Rows L2 HotX
/-- in each state of the context an exception is handled whose own context is None -/
def HotI (X : Cx) : Prop := ∀ (pins : List (Addr × Obj)) (σ : L2.St) (H : Hp) (s : Shared), Inv X pins σ H s → ∃ x1, HotAt X.A x1 s.heap
theorem hotI_of {X : Cx} (c : L2H.HotC X) : HotI X := fun _ _ _ _ I => c.at I
theorem hot_blk {X : Cx} {pins : List (Addr × Obj)} {σ : L2.St} {H : Hp} {s : Shared} {scope : Scope} {ce : PySem.Env} {fp : List Addr} (c : L2H.HotC X) (I : Inv X pins σ H s) (hf : ∀ b ∈ fp, FpOk X pins H b) : HotI (X.blk s H scope ce fp) := by
  obtain ⟨p, ⟨hh, v1, e1, c1⟩, hp⟩ := c
  obtain ⟨g, n, nl, nf, nc⟩ := I.pin p (List.mem_append_left _ hp)
  intro pins' σ' H' s' J
  refine ⟨p.1, hh, p.2, v1, J.base.keep p.1 p.2 g n (fun z => ?_) fun z => ?_, e1, c1⟩
  · rcases List.mem_cons.mp (I.stkSub _ z) with z | z
    · exact nl z
    · exact nf z
  · exact (hf _ z).2.2.2.2.2 p (List.mem_append_left _ hp) rfl
/-- what a walked thing does there -/
structure TurnH (P : Program) (w : World) (K : PySem.W.Frag) (tg : Expr) (J : It) (fp : List Addr) (it : Addr) (tn : Nat → Heap → Prop) : Prop where
  nx : ∀ (X : Cx), X.prog = P → X.w = w → X.K = K → ∀ (i : Nat) (pins : List (Addr × Obj)) (s : Shared) (σ : L2.St) (H : Hp) (E : Value → Shared → Prop), Inv X pins σ H s → (∀ b ∈ fp, FpOk X pins H b) → tn i s.heap → J.go i H →
    wpAny (model P w) X.A (pyNext (.ref it)) (fun r s1 => ∃ u, r = some u ∧ wpAny (model P w) X.A (letOwnedTupleGo tg (.ref it) u) (fun _ s2 => ∃ x H', Inv X pins σ H' s2 ∧ RelV x u ∧ J.yld i H x H' ∧ tn (i + 1) s2.heap ∧ ∀ b ∈ fp, H' b = none) E s1) E s
  en : ∀ (X : Cx), X.prog = P → X.w = w → X.K = K → HotI X → ∀ (i : Nat) (pins : List (Addr × Obj)) (s : Shared) (σ : L2.St) (H : Hp) (E : Value → Shared → Prop), Inv X pins σ H s → (∀ b ∈ fp, FpOk X pins H b) → tn i s.heap → J.stop i H →
    wpAny (model P w) X.A (pyNext (.ref it)) (fun r s1 => r = none ∧ Inv X pins σ H s1) E s
theorem turnH_list {P : Program} {w : World} {K : PySem.W.Frag} {tg : Expr} (a it : Addr) : TurnH P w K tg (Itl K a) [it] it (fun i h => h.IsListIter it a i) where
  nx := fun X hP hw hK i pins s σ H E I hf st ⟨xs, x, hq, hx⟩ => by
    subst hP hw hK
    obtain ⟨its, rv, p, hz⟩ := I.list hq
    obtain ⟨u, hu, ru⟩ := rv.get hx
    obtain ⟨f0, f1, f2, f3, f4, f5⟩ := hf it (by simp)
    refine wpAny_pyNext_list_item st p.isList (x := u) (by simpa using hu) fun h' st' sb => ?_
    obtain ⟨o, e, c, d⟩ := id st'
    exact ⟨u, rfl, go_of (s := { s with heap := h' }) e c d (by decide) ⟨x, H, I.turned (t' := s.toks) (fun b o hb e => (sb.2 b hb).trans e) f0 f1 f3 f4 f5, ru, ⟨rfl, fun ys hy => by rw [I.list_inj hy hq]; exact hx⟩, st', fun b hb => (hf b hb).1⟩⟩
  en := fun X hP hw hK hot i pins s σ H E I hf st ⟨xs, hq, hx⟩ => by
    subst hP hw hK
    obtain ⟨its, rv, p, hz⟩ := I.list hq
    obtain ⟨f0, f1, f2, f3, f4, f5⟩ := hf it (by simp)
    obtain ⟨x1, h1⟩ := hot _ _ _ _ I
    have hl := rv.length
    exact nextLH h1 st p.isList (by simp; omega) fun h' eb => ⟨rfl, I.turned (t' := s.toks) (fun b o hb e => eb b o hb e) f0 f1 f3 f4 f5⟩
theorem turnH_tuple {P : Program} {w : World} {K : PySem.W.Frag} {tg : Expr} (a it : Addr) : TurnH P w K tg (Itt K a) [it] it (fun i h => h.IsTupleIter it a i) where
  nx := fun X hP hw hK i pins s σ H E I hf st ⟨xs, x, hq, hx⟩ => by
    subst hP hw hK
    obtain ⟨its, rv, p, hz⟩ := I.tuple hq
    obtain ⟨u, hu, ru⟩ := rv.get hx
    obtain ⟨f0, f1, f2, f3, f4, f5⟩ := hf it (by simp)
    refine wpAny_pyNext_tuple_item st (show s.heap.IsTuple a its.toArray from p) (x := u) (by simpa using hu) fun h' st' sb => ?_
    obtain ⟨o, e, c, d⟩ := id st'
    exact ⟨u, rfl, go_of (s := { s with heap := h' }) e c d (by decide) ⟨x, H, I.turned (t' := s.toks) (fun b o hb e => (sb.2 b hb).trans e) f0 f1 f3 f4 f5, ru, ⟨rfl, fun ys hy => by rw [I.tuple_inj hy hq]; exact hx⟩, st', fun b hb => (hf b hb).1⟩⟩
  en := fun X hP hw hK hot i pins s σ H E I hf st ⟨xs, hq, hx⟩ => by
    subst hP hw hK
    obtain ⟨its, rv, p, hz⟩ := I.tuple hq
    obtain ⟨f0, f1, f2, f3, f4, f5⟩ := hf it (by simp)
    obtain ⟨x1, h1⟩ := hot _ _ _ _ I
    have hl := rv.length
    exact nextTH h1 st (show s.heap.IsTuple a its.toArray from p) (by simp; omega) fun h' eb => ⟨rfl, I.turned (t' := s.toks) (fun b o hb e => eb b o hb e) f0 f1 f3 f4 f5⟩
/-- an iterator has come -/
def PIEH (X : Cx) (pins : List (Addr × Obj)) (σ : L2.St) (tg : Expr) (R : It → Hp → Prop) (itv : Value) (s2 : Shared) : Prop :=
  ∃ (it : Addr) (fp : List Addr) (tn : Nat → Heap → Prop) (J : It) (H' : Hp), itv = .ref it ∧ Inv X pins σ H' s2 ∧ Turn X.prog X.w X.K tg J fp it tn ∧ TurnH X.prog X.w X.K tg J fp it tn ∧ tn 0 s2.heap ∧ (∀ b ∈ fp, FpOk X pins H' b) ∧ R J H'
structure PIH (X : Cx) (tg iter : Expr) (wi : TI) : Prop where
  run : ∀ (pins : List (Addr × Obj)) (s : Shared) (σ : L2.St) (H : Hp) (R : It → Hp → Prop), Inv X pins σ H s → wi σ H R → wpAny (model X.prog X.w) X.A (eval iter X.env) (fun v s1 => wpAny (model X.prog X.w) X.A (pyIter v) (PIEH X pins σ tg R) X.xe s1) X.xe s
theorem PIH.sub {X : Cx} {tg it : Expr} {t t' : TI} (h : PIH X tg it t) (s : ∀ σ H Q, t' σ H Q → t σ H Q) : PIH X tg it t' := ⟨fun pins s' σ H Q I q => h.run pins s' σ H Q I (s σ H Q q)⟩
/-- a list or a tuple -/
def iLT (K : PySem.W.Frag) (tl : TE) : TI := fun σ H R => tl σ H fun x H1 => ∃ a, x = .ref a ∧ ((∃ xs, SqL K H1 a xs ∧ R (Itl K a) H1) ∨ ∃ xs, SqT K H1 a xs ∧ R (Itt K a) H1)
theorem pih_one {X : Cx} {pins : List (Addr × Obj)} {σ : L2.St} {H : Hp} {s : Shared} {tg : Expr} {J : It} {R : It → Hp → Prop} {tk : Nat} {tn : Nat → Heap → Prop} (I : Inv X pins σ H s) (o : Obj) (T : Turn X.prog X.w X.K tg J [s.heap.objs.size] s.heap.objs.size tn) (T2 : TurnH X.prog X.w X.K tg J [s.heap.objs.size] s.heap.objs.size tn)
    (st : tn 0 (s.heap.push o)) (q : R J H) : PIEH X pins σ tg R (.ref s.heap.objs.size) { s with heap := s.heap.push o, toks := tk } := by
  refine ⟨_, [s.heap.objs.size], tn, J, H, rfl, I.kept (t' := tk) fun b u e => Heap.get?_push_of_some _ e, T, T2, st, fun b hb => ?_, q⟩
  have e : b = s.heap.objs.size := by simpa using hb
  rw [e]; exact I.fpOk (Nat.le_refl _) (I.hok.fresh (Nat.le_refl _))
theorem pih_any {X : Cx} {tg l : Expr} {tl : TE} (hl : PE X l tl) : PIH X tg l (iLT X.K tl) := by
  refine ⟨fun pins s σ H R I h => thn (hl.run pins s σ H _ I h) fun v s1 ⟨x, H1, I1, r1, a, e, q⟩ => ?_⟩
  subst e; cases r1
  rcases q with ⟨xs, hq, q⟩ | ⟨xs, hq, q⟩
  · obtain ⟨its, rv, p, hz⟩ := I1.list hq
    exact wpAny_pyIter_list p.isList (pih_one (tk := s1.toks) I1 _ (turn_list a _) (turnH_list a _) ⟨_, Heap.get?_push_size _ rfl, rfl, rfl⟩ q)
  · obtain ⟨its, rv, p, hz⟩ := I1.tuple hq
    exact wpAny_pyIter_tuple (show s1.heap.IsTuple a its.toArray from p) (pih_one (tk := s1.toks) I1 _ (turn_tuple a _) (turnH_tuple a _) ⟨_, Heap.get?_push_size _ rfl, rfl, rfl⟩ q)
section
variable {X : Cx} {pins : List (Addr × Obj)} {σ : L2.St} {H : Hp} {s : Shared}
/-- a, b = a tuple -/
theorem pg_tupH {es : List Expr} {k : Nat} {t : TGs} {n : Nat} {pos : Pos} (hc : HotI X) (h : PGs X es t) (hn : (assignEach es X.env).length = n := by rfl) (hst : (assignEach es X.env).findIdx? (·.1) = none := by rfl) : PG X (.Tuple es k pos) (gTup X.K n t) := by
  refine ⟨fun pins s σ H v u Q I r ⟨a, xs, e1, hq, hl, hw⟩ => ?_⟩
  subst e1; cases r
  obtain ⟨its, rv, ht, hz⟩ := I.tuple hq
  obtain ⟨x1, h1⟩ := hc _ _ _ _ I
  rw [assign_Tuple]
  refine wpAny_bind (wpAny_standAt (unpH h1 (show s.heap.IsTuple a its.toArray from ht) (by simp [hn, ← hl, rv.length]) hst fun h' hx => ?_))
  exact h.run pins _ σ H xs _ Q (I.kept (t' := s.toks) fun b o e => hx b o (Nat.ne_of_lt (Heap.lt_size e)) e) (by simpa using rv) hw
abbrev BlkP (X : Cx) (scope : Scope) (T : Cx → Prop) : Prop := ∀ (s : Shared) (H : Hp) (C : Addr) (cl : List (Str × Addr)) (fp : List Addr), HotI (X.blk s H scope (compEnvC scope cl C X.env) fp) → T (X.blk s H scope (compEnvC scope cl C X.env) fp)
/-- [elt for tg in iter if ..] where an exception is handled -/
theorem lcH_core {use : Option (Value → Sem Unit)} {Qf : Value → Shared → Prop} {Q : VK} {pos' : Pos} {elt tg iter : Expr} {ifs : List Expr} {scope : Scope} {own : List (Str × Nat)} {pos : Pos} {wi : TI} {g : TG} {tt : TT} {te : TE} (hc : L2H.HotC X) (hN : X.N.Nodup) (I : Inv X pins σ H s) (hi : PIH X tg iter wi) (ok : BlkOk X.N X.env.scope scope own)
    (hg : BlkP X scope fun Y => PG Y tg g) (ht : BlkP X scope fun Y => PTs Y ifs tt) (he : BlkP X scope fun Y => PE Y elt te) (hs : ∀ x, foldedSetIterable iter X.env x = pure x) (h : tLc wi g tt te (own.map (·.2)) σ H Q)
    (hend : ∀ D C s' m H', Inv X pins σ H' s' → Q (.ref D) H' → s'.heap.Ns C m → FpOk X pins H' C → compPost (model X.prog X.w) X.A X.xe use Qf (.ref D) C (.ok .next) s') :
    wpAny (model X.prog X.w) X.A (comprehension (.ListComp elt [⟨tg, iter, ifs, 0⟩] scope pos) scope X.env pos' (newList []) false (eval iter X.env) use) Qf X.xe s := by
  refine wpAny_comprehension_free (use := use) rfl hs (closure_ok fun y hy e => (ok.free y hy e).elim (fun k => I.ok.has _ (.inl k)) fun k => I.ok.has _ (.inr k)) ok.kind (fun y hy e => by rw [ok.uniq y hy, e]) ?_
  refine thn (hi.run pins s σ H _ I h) fun xv s1 hx => thn hx fun itv s2 ⟨it, fp, tn, J, H2, e, I2, T, T2, st2, f2, q⟩ => ?_
  subst e
  refine wpAny_newObj_type (newEnv_comp ?_) (by show 0 ≤ sizeLine; decide)
  have hDn : H2 s2.heap.objs.size = none := I2.hok.fresh (Nat.le_refl _)
  obtain ⟨W, ⟨m0, w0⟩, turn⟩ := q _ hDn
  have I3 : Inv X pins σ (upd H2 s2.heap.objs.size (.lst [])) { s2 with heap := s2.heap.push { cls := .type "list", data := .seq ([] : List Value).toArray } } :=
    I2.laid (t' := s2.toks) (fun b o e => Heap.get?_push_of_some _ e) (Nat.le_refl _) ⟨Nat.zero_le _, [], 0, .nil, Heap.get?_push_size _ rfl⟩
  have hlt : ∀ b ∈ fp, b < s2.heap.objs.size := fun b hb => let ⟨o, e, _⟩ := T.obj _ _ st2 b hb; Heap.lt_size e
  generalize hH3 : upd H2 s2.heap.objs.size (.lst []) = H3 at I3 w0 turn
  have f3 : ∀ b ∈ fp, FpOk X pins H3 b := fun b hb => ⟨by rw [← hH3, upd_ne (Nat.ne_of_lt (hlt b hb))]; exact (f2 b hb).1, (f2 b hb).2⟩
  have st3 : tn 0 (s2.heap.push { cls := .type "list", data := .seq ([] : List Value).toArray }) := T.keep _ _ _ st2 fun b _ o e => Heap.get?_push_of_some _ e
  generalize hs3 : ({ s2 with heap := s2.heap.push { cls := .type "list", data := .seq ([] : List Value).toArray } } : Shared) = s3 at I3
  have eh : s2.heap.push { cls := .type "list", data := .seq ([] : List Value).toArray } = s3.heap := by rw [← hs3]
  rw [eh] at st3
  generalize hD : s2.heap.objs.size = D at hDn w0 turn hH3 hlt
  have lt3 : ∀ b ∈ fp, b < s3.heap.objs.size := fun b hb => by rw [← eh, Heap.size_push, hD]; exact Nat.lt_succ_of_lt (hlt b hb)
  have I4 := block_start I3 ok hN fun b hb => ⟨f3 b hb, lt3 b hb⟩
  have hot := hot_blk (scope := scope) (ce := compEnvC scope (cellsFrom (s3.heap.objs.size + 1) scope.names (cloFrom X.env.cells scope.names [])) s3.heap.objs.size X.env) hc I3 f3
  have pg := hg s3 H3 s3.heap.objs.size (cellsFrom (s3.heap.objs.size + 1) scope.names (cloFrom X.env.cells scope.names [])) fp hot
  have pt := ht s3 H3 s3.heap.objs.size (cellsFrom (s3.heap.objs.size + 1) scope.names (cloFrom X.env.cells scope.names [])) fp hot
  have pe := he s3 H3 s3.heap.objs.size (cellsFrom (s3.heap.objs.size + 1) scope.names (cloFrom X.env.cells scope.names [])) fp hot
  have goal : codeAny (model X.prog X.w) X.A (.compStart (.ListComp elt [⟨tg, iter, ifs, 0⟩] scope pos) 0 (.ref it) (.ref D) (compEnvC scope (cellsFrom (s3.heap.objs.size + 1) scope.names (cloFrom X.env.cells scope.names [])) s3.heap.objs.size X.env)) (compPost (model X.prog X.w) X.A X.xe use Qf (.ref D) s3.heap.objs.size) { s3 with heap := pushCells (s3.heap.push { cls := .type "dict", data := .dict #[] }) scope.names } := by
    have n3 : ∀ b ∈ fp, H3 b = none := fun b hb => (f3 b hb).1
    generalize hce : compEnvC scope (cellsFrom (s3.heap.objs.size + 1) scope.names (cloFrom X.env.cells scope.names [])) s3.heap.objs.size X.env = ce at I4 pg pt pe hot ⊢
    have cL : ce.locals = s3.heap.objs.size := by subst hce; rfl
    have st4 : tn 0 (pushCells (s3.heap.push { cls := .type "dict", data := .dict #[] }) scope.names) := T.keep _ _ _ st3 fun b _ o e => pushCells_keeps _ _ _ _ (Heap.get?_push_of_some _ e)
    have fpB : ∀ {σ' : L2.St} {H' : Hp} {s' : Shared}, Inv (X.blk s3 H3 scope ce fp) [] σ' H' s' → (∀ b ∈ fp, H' b = none) → ∀ b ∈ fp, FpOk (X.blk s3 H3 scope ce fp) [] H' b := fun {σ' H' s'} I' hn b hb =>
      ⟨hn b hb, (I'.ok.exf b hb).1, I'.ok.exfs b hb, .inl hb, fun x c e => (I'.ok.exf b hb).2 x c e, fun p hp => by cases (show p ∈ ([] : List (Addr × Obj)) from hp)⟩
    have loop : codeAny (model X.prog X.w) X.A (.compLoop (.ListComp elt [⟨tg, iter, ifs, 0⟩] scope pos) 0 (.ref it) (.ref D) ce) (compPost (model X.prog X.w) X.A X.xe use Qf (.ref D) s3.heap.objs.size) { s3 with heap := pushCells (s3.heap.push { cls := .type "dict", data := .dict #[] }) scope.names } := by
      refine compLoop_any (fun n s' => ∃ i H', Inv (X.blk s3 H3 scope ce fp) [] (wipe σ (own.map (·.2))) H' s' ∧ tn i s'.heap ∧ (∀ b ∈ fp, H' b = none) ∧ W i n H') ?_ m0 ⟨0, H3, I4, st4, n3, w0⟩
      rintro n s5 ⟨i, H5, I5, st5, n5, w5⟩
      rcases turn i n H5 w5 with ⟨stop, qq⟩ | ⟨go, Nx, hNx, step⟩
      · refine thnF (T2.en (X.blk s3 H3 scope ce fp) rfl rfl rfl hot i [] s5 _ H5 (fun _ _ => False) I5 (fpB I5 n5) st5 stop) fun r s6 ⟨hr, I6⟩ => ?_
        subst hr
        have I7 : Inv X pins σ H5 s6 := I3.call' (ch := fp) I6.os I6.base I6.hok I6.bare fun b hb => let z := (f3 b hb).2; ⟨z.2.2.1, z.1, z.2.2.2.1, z.2.2.2.2⟩
        have nC : H5 s3.heap.objs.size = none := by rw [← cL]; exact I6.free
        obtain ⟨m, hn, _⟩ := I6.loc
        have hn : s6.heap.Ns s3.heap.objs.size m := by rw [← cL]; exact hn
        exact hend D s3.heap.objs.size s6 m H5 I7 qq hn (I3.fpOk (Nat.le_refl _) nC)
      · refine thnF (T2.nx (X.blk s3 H3 scope ce fp) rfl rfl rfl i [] s5 _ H5 (fun _ _ => False) I5 (fpB I5 n5) st5 go) fun r s6 ⟨u, hr, h6⟩ => ?_
        subst hr
        refine thnF h6 fun _ s7 ⟨x, H7, I7, r7, y7, st7, n7⟩ => ?_
        refine thnF (pg.run _ s7 _ H7 x u _ (I7.pinned (fpB I7 n7) (T.obj _ _ st7)) r7 (step x H7 y7)) fun _ s8 ⟨σ8, H8, I8, hw8, q8⟩ => thnF (pt.run _ s8 σ8 H8 _ I8 q8) fun b s9 ⟨H9, I9, q9⟩ => ?_
        have fin : ∀ {s' : Shared} {H' : Hp}, Inv (X.blk s3 H3 scope ce fp) ([] ++ pinsAt fp s7.heap) σ8 H' s' → Nx H' → ∃ m, m < n ∧ ∃ i H', Inv (X.blk s3 H3 scope ce fp) [] (wipe σ (own.map (·.2))) H' s' ∧ tn i s'.heap ∧ (∀ b ∈ fp, H' b = none) ∧ W i m H' := fun {s' H'} I' nx => by
          obtain ⟨m', hm, w'⟩ := hNx H' nx
          have pin' : ∀ b ∈ fp, ∀ o, s7.heap.get? b = some o → s'.heap.get? b = some o ∧ H' b = none := fun b hb o e => let z := I'.pin (b, o) (List.mem_append_right _ (List.mem_append_right _ (mem_pinsAt hb e))); ⟨z.1, z.2.1⟩
          refine ⟨m', hm, i + 1, H', (I'.unpinned (pins := [])).weak (by rw [← hw8, wipe_length]) (fun j v e => by rw [← hw8] at e; exact (wipe_some e).1), T.keep _ _ _ st7 fun b hb o e => (pin' b hb o e).1, fun b hb => ?_, w'⟩
          obtain ⟨o, e, _⟩ := T.obj _ _ st7 b hb
          exact (pin' b hb o e).2
        cases b with
        | false => simp only [Bool.false_eq_true, if_false] at q9 ⊢; exact fin I9 q9
        | true =>
          simp only [if_true] at q9 ⊢
          refine thnF (pe.run _ s9 σ8 H9 _ I9 q9) fun z s10 ⟨yv, H10, I10, r10, acc, hD10, hz10, nx⟩ => app_ok (X := X.blk s3 H3 scope ce fp) I10 hD10 hz10 r10 fun s11 I11 => fin I11 nx
    exact codeAny_compStart_list loop (T.self X.A 0 _ _ _ st4 loop)
  exact goal
theorem lcH {elt tg iter : Expr} {ifs : List Expr} {scope : Scope} {own : List (Str × Nat)} {pos : Pos} {wi : TI} {g : TG} {tt : TT} {te : TE} (hc : L2H.HotC X) (hN : X.N.Nodup) (hi : PIH X tg iter wi) (ok : BlkOk X.N X.env.scope scope own)
    (hg : BlkP X scope fun Y => PG Y tg g) (ht : BlkP X scope fun Y => PTs Y ifs tt) (he : BlkP X scope fun Y => PE Y elt te) (hs : ∀ x, foldedSetIterable iter X.env x = pure x := by intro _; rfl) :
    PE X (.ListComp elt [⟨tg, iter, ifs, 0⟩] scope pos) (tLc wi g tt te (own.map (·.2))) := by
  refine ⟨fun pins s σ H Q I h => ?_⟩
  rw [eval_ListComp]
  refine lcH_core hc hN I hi ok hg ht he hs h fun D C s' m H' I' q hn ⟨g0, g1, g2, g3, g4, g5⟩ => ⟨m, hn, fun h'' sb => ⟨.ref D, H', I'.turned (t' := s'.toks) (fun b o hb e => (sb.2 b hb).trans e) g0 g1 g3 g4 g5, rfl, q⟩⟩
/-- .. stored on one line -/
theorem setLcH {i : Nat} {y : Str} {py spos : Pos} {elt tg iter : Expr} {ifs : List Expr} {scope : Scope} {own : List (Str × Nat)} {pos : Pos} {wi : TI} {g : TG} {tt : TT} {te : TE} (hc : L2H.HotC X) (hN : X.N.Nodup) (hy : X.N[i]? = some y) (hyl : X.env.scope.names.lookup y = some .local)
    (hsw : swapsWith (.ListComp elt [⟨tg, iter, ifs, 0⟩] scope pos) (some (.Name y py)) spos.line X.env = pure true) (hi : PIH X tg iter wi) (ok : BlkOk X.N X.env.scope scope own)
    (hg : BlkP X scope fun Y => PG Y tg g) (ht : BlkP X scope fun Y => PTs Y ifs tt) (he : BlkP X scope fun Y => PE Y elt te) (hs : ∀ x, foldedSetIterable iter X.env x = pure x := by intro _; rfl) :
    PS X (.Assign [.Name y py] (.ListComp elt [⟨tg, iter, ifs, 0⟩] scope pos) spos) (tAsg (tLc wi g tt te (own.map (·.2))) (gName i)) := by
  refine ⟨fun pins s σ H D I h => ?_⟩
  rw [exec_Assign_Name_used _ _ _ _ hsw]
  have h : tLc wi g tt te (own.map (·.2)) σ H (fun x H1 => gName i x σ H1 D.nx) := h
  refine wpAny_bind (wpAny_standAt (wpAny_bind (wpAny_bind (thn (lcH_core (use := some (assign (.Name y py) X.env)) (pos' := firstIterPos [⟨tg, iter, ifs, 0⟩] pos) (Qf := fun _ s' => SP X pins D .next s') hc hN I hi ok hg ht he hs h fun L C s' m H' I' q hn ⟨f0, f1, f2, f3, f4, f5⟩ => ?_) fun _ s' hq => wpAny_pure (wpAny_pure hq)))))
  show wpAny _ _ (assign (.Name y py) X.env (.ref L)) _ _ _
  refine wpAny_assign_Name (store_ok2 (v := V.ref L) I' hN hy (.inl hyl) rfl (fun s2 I2 ⟨a, sb, ha⟩ => ?_) (.inr hyl))
  have haC : C ≠ a := ha.elim (fun z => by rw [z]; exact f1) fun z e => f4 y a z e.symm
  exact ⟨m, hn.sameBut sb haC, fun h3 sb3 => ⟨_, H', I2.turned (t' := s2.toks) (fun b o hb e => (sb3.2 b hb).trans e) f0 f1 f3 f4 f5, q⟩⟩
end
end Mm
-- text S26
set_option Elab.async false
set_option linter.all false
set_option maxRecDepth 100000
set_option maxHeartbeats 1000000
/-! S26: comprehensions, unpacking, isinstance of the error, in an except suite. -/
namespace Mm
open PySem PySem.Spec PyProof.Rows L2
/-- a list or a tuple, walked -/
def miSeqH (a : ME) : MI := fun ρ => bnd (a ρ) fun r ρ1 => match lockOf r ρ1 with
  | some (d, u) => (match seqOf d with
    | some l => ret (l, u) ρ1
    | none => none)
  | none => none
/-- isinstance(error, C): the error is the object 0, the answer b -/
def mIsE (i : Nat) (b : Bool) : ME := fun ρ => match ρ[i]? with
  | some (.va (.obj 0)) => ret (.va (.bl b)) ρ
  | _ => none
section
variable {g : Gr} {σ σ0 σ' σ1 σ2 : Sg} {H H' H0 H1 H2 : Hp} {F F0 F' F1 F2 : Addr → Prop} {ρ ρ0 ρ' ρ1 ρ2 : Env} {a : Addr} {v : V} {r : R} {d d' : D} {i : Nat} {E : XK} {X : Cx} {x y tg : Expr} {pos p1 : Pos} {ma mb mc me : ME} {De : Ends} {u : List Nat} {J : It} {ds : List D} {mi : MI}
theorem s_itH (hK : X.K = g.K) (ha : PE X x (tE g E ma)) : PIH X tg x (tI g E (miSeqH ma)) := by
  refine PIH.sub (pih_any ha) fun σ H R h => ?_
  obtain ⟨ρ, F, RR, h⟩ := h
  refine ⟨ρ, F, RR, (h.at SF.refl).mono fun p ρ1 H1 F1 R1 s1 h1 v rv => ?_⟩
  obtain ⟨s, h1⟩ := h1
  cases el : lockOf p ρ1 with
  | none => simp only [el] at h1; exact h1.no.elim
  | some q =>
    obtain ⟨d, u⟩ := q
    simp only [el] at h1
    obtain ⟨F2, R2, s2, ao, up, later⟩ := lockOf_ok R1 s rv el
    have now := deref_ok R1 rv (lockOf_deref el)
    cases ed : seqOf d with
    | none => simp only [ed] at h1; exact h1.no.elim
    | some l =>
      simp only [ed] at h1
      have k := h1.ret R2 s2
      rw [hK]
      cases d with
      | tup l' =>
        cases ed
        obtain ⟨a, vs, e, sq, _⟩ := now.tup
        subst e
        refine ⟨a, rfl, .inr ⟨vs, sq, k _ ao fun σ2 H2 F3 ρ2 RR2 sf i => ?_⟩⟩
        obtain ⟨b, us, e, sq2, t⟩ := (later σ2 H2 F3 ρ2 RR2 sf).1.tup
        cases e
        refine ⟨fun d hd => ?_, fun hi => ⟨us, sq2, by rw [hi, t.length]; exact Nat.le_refl _⟩⟩
        obtain ⟨z, hz, tz⟩ := t.get hd
        refine ⟨⟨us, z, sq2, hz⟩, fun x H3 y => ?_⟩
        obtain ⟨rfl, y⟩ := y
        have := y us sq2
        rw [hz] at this; cases this
        exact ⟨Ext.refl, tz⟩
      | lst l' =>
        cases ed
        obtain ⟨a, vs, e, sq, _⟩ := now.lst
        subst e
        refine ⟨a, rfl, .inl ⟨vs, SqL.of sq, k _ ao fun σ2 H2 F3 ρ2 RR2 sf i => ?_⟩⟩
        obtain ⟨b, us, e, sq2, t⟩ := (later σ2 H2 F3 ρ2 RR2 sf).1.lst
        cases e
        refine ⟨fun d hd => ?_, fun hi => ⟨us, SqL.of sq2, by rw [hi, t.length]; exact Nat.le_refl _⟩⟩
        obtain ⟨z, hz, tz⟩ := t.get hd
        refine ⟨⟨us, z, SqL.of sq2, hz⟩, fun x H3 y => ?_⟩
        obtain ⟨rfl, y⟩ := y
        have := y us (SqL.of sq2)
        rw [hz] at this; cases this
        exact ⟨Ext.refl, tz⟩
      | _ => cases ed
theorem g_tupH {ts : List Tg} {es : List Expr} {k : Nat} (hc : HotI X) (h : PGs X es (tGs g ts)) (hK : X.K = g.K) (hl : ts.length = (assignEach es X.env).length := by rfl) (hst : (assignEach es X.env).findIdx? (·.1) = none := by rfl) : PG X (.Tuple es k pos) (tG g (.tp ts)) := by
  refine PG.sub (pg_tupH (n := ts.length) hc h hl.symm hst) fun v σ H Q h => ?_
  obtain ⟨ρ, F, d, ρ', R, z, e, k⟩ := h
  cases d with
  | tup ds =>
    cases z with
    | tup s zs =>
      have e : tgts ts ds ρ = some ρ' := by rw [← e]; simp [tgt]
      exact ⟨_, _, rfl, by rw [hK]; exact s, by rw [← zs.length]; exact tgts_len (F := F) e, ρ, F, ds, ρ', R, zs, e, fun σ' r q n => k σ' r q fun j hj => n j (by simpa [slT] using hj)⟩
  | _ => simp [tgt] at e
theorem s_lcH {elt iter : Expr} {ifs : List Expr} {scope : Scope} {own : List (Str × Nat)} {t : Tg} {c : MT} (hc : L2H.HotC X) (hN : X.N.Nodup) (hi : PIH X tg iter (tI g E mi)) (ok : BlkOk X.N X.env.scope scope own)
    (hg : BlkP X scope fun Y => PG Y tg (tG g t)) (ht : BlkP X scope fun Y => PTs Y ifs (tT g E0 c)) (he : BlkP X scope fun Y => PE Y elt (tE g E0 me)) (hs : ∀ x, foldedSetIterable iter X.env x = pure x := by intro _; rfl) (hsub : (slT t).all (own.map (·.2)).contains = true := by decide) :
    PE X (.ListComp elt [⟨tg, iter, ifs, 0⟩] scope pos) (tE g E (mComp (own.map (·.2)) mi t c me)) :=
  PE.sub (lcH hc hN hi ok hg ht he hs) fun _ _ _ h => lcE hsub h
theorem s_setLcH {n : Str} {py spos : Pos} {elt iter : Expr} {ifs : List Expr} {scope : Scope} {own : List (Str × Nat)} {t : Tg} {c : MT} (hc : L2H.HotC X) (hN : X.N.Nodup) (hy : X.N[i]? = some n) (hyl : X.env.scope.names.lookup n = some .local)
    (hsw : swapsWith (.ListComp elt [⟨tg, iter, ifs, 0⟩] scope pos) (some (.Name n py)) spos.line X.env = pure true) (hi : PIH X tg iter (tI g E mi)) (ok : BlkOk X.N X.env.scope scope own)
    (hg : BlkP X scope fun Y => PG Y tg (tG g t)) (ht : BlkP X scope fun Y => PTs Y ifs (tT g E0 c)) (he : BlkP X scope fun Y => PE Y elt (tE g E0 me)) (hs : ∀ x, foldedSetIterable iter X.env x = pure x := by intro _; rfl) (hsub : (slT t).all (own.map (·.2)).contains = true := by decide) :
    PS X (.Assign [.Name n py] (.ListComp elt [⟨tg, iter, ifs, 0⟩] scope pos) spos) (tS g E (mSet i (mComp (own.map (·.2)) mi t c me))) :=
  PS.sub (setLcH hc hN hy hyl hsw hi ok hg ht he hs) fun _ _ _ h => lcE hsub (set_of h)
/-- isinstance(error, C) -/
theorem s_isE {D : Addr} {oe : Obj} {pn : List (Addr × Obj)} {n m : Str} {cv : Value} {c : V} {b : Bool} {p2 : Pos} (Cx' : ExcC X.K D) (hz : Zc (.ref D) none oe) (hf : ∃ vs, oe.data = .fields vs) (hN : X.N[i]? = some n) (hv : Vis X.env.scope n) (hd : (n == ("__debug__" : Str)) = false) (hcd : (n == ("__classdict__" : Str)) = false)
    (hgi : Gl X "isinstance") (hmi : X.mg "isinstance" = none) (hc : PE (X.suite a ((a, oe) :: pn)) (.Name m p2) (fun _ H Q => Q c H)) (hcv : ∀ u, RelV c u → u = cv) (hk : PySem.W.kitOne X.K (.ref D) cv = some b) (hob : g.ob 0 = a) {p3 : Pos} :
    PE (X.suite a ((a, oe) :: pn)) (.Call (.Name "isinstance" p1) [.Name n p3, .Name m p2] [] pos) (tE g E (mIsE i b)) := by
  have hx : PE (X.suite a ((a, oe) :: pn)) (.Name n p3) (tVar i) := pe_var hN hv hd hcd
  refine PE.sub (pe_callB (call_isE Cx' hz hf) hgi hmi PyProof.Rows.boot_isinstance (pa_cons hx (pa_cons hc pa_nil rfl) rfl) (by decide) (by decide) rfl rfl) fun σ H Q h => ?_
  obtain ⟨ρ, F, R, h⟩ := h
  unfold mIsE at h
  cases e1 : ρ[i]? with
  | none => simp only [e1] at h; exact h.no.elim
  | some cc =>
    cases cc with
    | va dd =>
      cases dd with
      | obj c' =>
        cases c' with
        | zero =>
          simp only [e1] at h
          obtain ⟨v, s1, z⟩ := R.val i _ _ e1 rfl
          cases z
          rw [hob] at s1
          exact ⟨_, s1, ⟨c, cv, b, rfl, hcv, hk, h.ret R SF.refl _ (.bl b)⟩⟩
        | succ _ => simp only [e1] at h; exact h.no.elim
      | _ => simp only [e1] at h; exact h.no.elim
    | _ => simp only [e1] at h; exact h.no.elim
end
end Mm
-- text S27
set_option Elab.async false
set_option linter.all false
set_option maxRecDepth 100000
set_option maxHeartbeats 2000000
/-! S27: a lambda handed to the def that tells an error's word. -/
namespace Mm
open PySem PySem.Spec PyProof.Rows L2
/-- the heap grows; the tables of code objects may be written -/
structure Grow (g : Gr) (H H1 : Hp) : Prop where
  kp : ∀ b o, H b = some o → (∀ ps, o ≠ .tbl ps) → H1 b = some o
  th : ∀ b o, H b = some o → ∃ o', H1 b = some o'
  tb : LamX.Tabs g.T H1
section
variable {g : Gr} {σ σ0 σ' : Sg} {H H' H0 H1 H2 : Hp} {F F0 F' : Addr → Prop} {ρ ρ0 ρ' ρ1 : Env} {a c P : Addr} {v : V} {r : R} {d : D} {i : Nat} {E : XK} {X : Cx} {s : Shared} {pins : List (Addr × Obj)}
theorem Grow.keep (R : Rel g σ H F ρ) (k : Grow g H H1) : Keep H H1 F F :=
  ⟨fun _ h => h, fun a o f h => let ⟨_, e, t⟩ := R.fz a f; k.kp a o h (by rw [h] at e; cases e; exact t), fun a o u h => k.kp a o h (by obtain ⟨u, rfl | ⟨p, q, rfl⟩⟩ := u <;> intro _ e <;> cases e)⟩
theorem Rel.grow (R : Rel g σ H F ρ) (k : Grow g H H1) : Rel g σ H1 F ρ :=
  ⟨R.len, fun i c d e o => let ⟨v, q, z⟩ := R.val i c d e o; ⟨v, q, z.kept (k.keep R)⟩, fun i c d e o => let ⟨b, q, nf, t⟩ := R.own i c d e o; ⟨b, q, nf, t.kept (k.keep R) fun u z => let ⟨_, e, _, _, n⟩ := t.there; k.kp b u z (by rw [z] at e; cases e; exact n)⟩,
   R.inj, fun b f => let ⟨u, e, t⟩ := R.fz b f; ⟨u, k.kp b u e t, t⟩, k.tb⟩
theorem SF.grow (s : SF σ0 ρ0 H0 F0 σ ρ H F) (k : Grow g H H1) : SF σ0 ρ0 H0 F0 σ ρ H1 F :=
  ⟨s.fr, s.new, fun a o e n t => k.kp a o (s.ob a o e n t) t, fun a o e => let ⟨o', e'⟩ := s.there a o e; k.th a o' e', s.own, s.held, s.bo, s.fb, s.lk, s.len⟩
theorem Grow.trans (x : Grow g H H1) (y : Grow g H1 H2) : Grow g H H2 := ⟨fun b o e n => y.kp b o (x.kp b o e n) n, fun b o e => let ⟨o', e'⟩ := x.th b o e; y.th b o' e', y.tb⟩
/-- a step of a def's own slots, none of which holds an object of its own -/
theorem Grow.of_sf (R' : Rel g σ' H1 F' ρ') (s : SF σ ρ H F σ' ρ' H1 F') (n : ∀ a, ¬ Own σ ρ a) : Grow g H H1 := ⟨fun b o e t => s.ob b o e (n b) t, s.there, R'.tab⟩
/-- a lambda is made -/
theorem lamMk {params : Arguments} {body : Expr} {scope : Scope} {pos : Pos} {E : Value → Shared → Prop} {Q : Value → Shared → Prop} (I : Inv X pins σ H s) (TB : LamX.TabB X.base X.mg c P) (hcode : X.env.code = .ref c)
    (hm : (P, X.env.qual ++ "<lambda>") ∈ g.T) (hu : ∀ p ∈ g.T, p.1 = P → p.2 = X.env.qual ++ "<lambda>") (hT : LamX.Tabs g.T H) (hdef : defaultsOf params X.env = ([], [])) (hfree : ∀ y ∈ scope.names, y.2 = .free → ∃ c, X.env.cells.lookup y.1 = some c)
    (k : ∀ (f c' : Addr) (pm ctv : Value) (H1 : Hp) (s' : Shared), Inv X pins σ H1 s' → Grow g H H1 → s'.heap.get? f = some (PySem.W.kla_obj "<lambda>" (X.env.qual ++ "<lambda>") params body scope (cloFrom X.env.cells scope.names []) pm c' ctv) → H1 f = none → f ∉ frs X.stack → H1 c' = some (LamX.CodeO c' (X.env.qual ++ "<lambda>")) → Q (.ref f) s') :
    wpAny (model X.prog X.w) X.A (eval (.Lambda params body scope pos) X.env) Q E s := by
  obtain ⟨ps, hP, ht, am⟩ := hT _ hm
  have bP : s.heap.BuiltinsAt X.mg P := TB.bm.keeps I.bk
  have hP' : s.heap.get? P = some { cls := .none, data := .fields ps } := I.hok P _ hP
  have off : ∀ f, s.heap.objs.size ≤ f → f ∉ frs X.stack := fun f hf z => (List.mem_cons.mp (I.stkSub _ z)).elim (fun e => absurd (Nat.lt_of_lt_of_le I.lt hf) (by rw [e]; exact Nat.lt_irrefl _)) fun e => I.nofs hf e
  refine PySem.W.kla_eval hdef ?_
  cases hc : codeAmong pos ps.toList with
  | some cv =>
    obtain ⟨c', rfl, hco⟩ := am pos cv hc
    refine PySem.W.kla_makeFunctionHit (mg := X.mg) (c := c) (P := P) (ps := ps) (closure_ok hfree) I.ok.glob (I.mod.glob.keeps I.bk) hcode (TB.code.keeps I.bk) hP' ht hc bP fun ctv h' tk hx hsz => ?_
    exact k _ c' _ ctv H _ (I.kept fun b o e => Heap.get?_push_of_some _ (hx b o e)) ⟨fun _ _ h _ => h, fun _ o h => ⟨o, h⟩, hT⟩ (Heap.get?_push_size _ rfl) (I.hok.fresh hsz) (off _ hsz) hco
  | none =>
    refine PySem.W.kla_makeFunction (mg := X.mg) (c := c) (P := P) (ps := ps) (closure_ok hfree) I.ok.glob (I.mod.glob.keeps I.bk) hcode (TB.code.keeps I.bk) hP' ht hc TB.gP bP fun c' ctv h' tk hx hge hlt ⟨c2, oc, us, t, e2, hoc, hd, hv⟩ htb => ?_
    cases e2
    have hsz : s.heap.objs.size ≤ h'.objs.size := Nat.le_trans hge (Nat.le_of_lt hlt)
    have nC : H c' = none := I.hok.fresh hge
    have PC : P ≠ c' := ne_of_none hP nC
    have J := LamX.inv_table (t' := tk) (more := #[rawInt pos.line, rawInt pos.col, .ref c']) (h' := h'.push (PySem.W.kla_obj "<lambda>" (X.env.qual ++ "<lambda>") params body scope (cloFrom X.env.cells scope.names []) ((X.mg "__name__").getD .none) c' ctv)) I hP
      (fun b o hb e => Heap.get?_push_of_some _ (hx b o hb e)) (Heap.get?_push_of_some _ htb) hge ⟨oc, us, t, Heap.get?_push_of_some _ hoc, hd, hv⟩
    have gk : ∀ b o, H b = some o → (∀ q, o ≠ .tbl q) → (upd (upd H P (.tbl (ps ++ #[rawInt pos.line, rawInt pos.col, .ref c']))) c' (LamX.CodeO c' (X.env.qual ++ "<lambda>"))) b = some o := fun b o e n => by
      have nb : b ≠ P := fun z => by subst z; rw [hP] at e; cases e; exact n _ rfl
      rw [upd_ne (ne_of_none e nC), upd_ne nb]; exact e
    refine k _ c' _ ctv _ _ J ⟨gk, fun b o e => ?_, fun p hp => ?_⟩ (Heap.get?_push_size _ rfl) ?_ (off _ hsz) upd_same
    · by_cases hb : b = P
      · exact ⟨_, by rw [hb, upd_ne PC, upd_same]⟩
      · exact ⟨o, by rw [upd_ne (ne_of_none e nC), upd_ne hb]; exact e⟩
    · by_cases hb : p.1 = P
      · rw [hu p hp hb, hb]
        refine ⟨_, by rw [upd_ne PC, upd_same], ?_, fun p' cv hcv => ?_⟩
        · simp only [Array.toList_append]; exact PySem.TriplesOk_snoc _ _ _ _ ht
        · simp only [Array.toList_append] at hcv
          rcases LamX.among_app _ ht hcv with z | z
          · obtain ⟨c0, e1, e2⟩ := am p' cv z
            exact ⟨c0, e1, gk _ _ e2 LamX.codeO_ne⟩
          · exact ⟨c', z, upd_same⟩
      · obtain ⟨qs, a1, a2, a3⟩ := hT p hp
        refine ⟨qs, by rw [upd_ne (ne_of_none a1 nC), upd_ne hb]; exact a1, a2, fun p' cv hcv => ?_⟩
        obtain ⟨c0, e1, e2⟩ := a3 p' cv hcv
        exact ⟨c0, e1, gk _ _ e2 LamX.codeO_ne⟩
    · rw [upd_ne (Nat.ne_of_gt hlt), upd_ne (Nat.ne_of_gt (Nat.lt_of_lt_of_le (Heap.lt_size hP') hsz))]
      exact I.hok.fresh hsz
/-! ### what the lambda does, called in the def that got it -/
/-- the context of the lambda's body -/
abbrev lamN (X : Cx) (A : Around) (outer : List PySem.Env) (s : Shared) (H : Hp) (E : XK) (scope : Scope) (f c' : Addr) : Cx :=
  (LamX.lamCx X A outer s H E scope f c').tr [] fun e s' => wpAny (model X.prog X.w) (A.deeper (LamX.lamEnv X scope s.heap.objs.size f c')) (leaving (LamX.lamEnv X scope s.heap.objs.size f c') e) (fun _ s'' => L2N.CX X.prog X.w outer H s E e s'') (fun e' s'' => L2N.CX X.prog X.w outer H s E e' s'') s'
theorem lam_act {CXg : CXT} {Eg : XK} {Ng : List Str} {qg : Str} {sg : Scope} {gf f c' : Addr} {cdg pm ctv : Value} {params : Arguments} {body : Expr} {scope : Scope} {k : Nat} {x : Str} {pn : List (Addr × Obj)} {xe : Value → Shared → Prop} {W : WX} {E : XK} {tb : TE} {p1 p2 : Pos}
    (I : Inv X pins σ H s) (L : LamX.LamS X.env.scope scope) (hf : s.heap.get? f = some (PySem.W.kla_obj "<lambda>" (X.env.qual ++ "<lambda>") params body scope (cloFrom X.env.cells scope.names []) pm c' ctv)) (hfn : H f = none) (hfr : f ∉ frs X.stack)
    (hbind : bindArgs (PySem.W.kla_fn "<lambda>" (X.env.qual ++ "<lambda>") params body scope (cloFrom X.env.cells scope.names []) pm (.ref c') ctv) ⟨[], []⟩ = pure [])
    (tk : L2N.Takes ((cxOf CXg X.prog X.w X.K X.mg X.base Ng qg sg gf cdg X.A X.stack s H Eg).tr pn xe) W) (hW : ∀ cls d σ' H', E cls d H' → W cls d σ' H') (hr : Room (k + 1) (X.A.deeper (envOfC qg sg s.heap.objs.size gf cdg)))
    (hbody : ∀ (A : Around) (outer : List PySem.Env) (s : Shared) (H : Hp), Room k (A.deeper (LamX.lamEnv X scope s.heap.objs.size f c')) → PE (lamN X A outer s H E scope f c') body tb)
    (hN : Ng[0]? = some x) (hv : Vis sg x) (hd : (x == ("__debug__" : Str)) = false := by decide) (hcd : (x == ("__classdict__" : Str)) = false := by decide) :
    PE ((cxOf CXg X.prog X.w X.K X.mg X.base Ng qg sg gf cdg X.A X.stack s H Eg).tr pn xe) (.Call (.Name x p1) [] [] p2)
      (fun σZ HZ Q => σZ[0]? = some (some (.ref f)) ∧ HZ c' = some (LamX.CodeO c' (X.env.qual ++ "<lambda>")) ∧ tb σ HZ Q) := by
  refine ⟨fun pinsZ sZ σZ HZ Q IZ ⟨hs, hc, ht⟩ => wpAny_Call_Name_kw (thn ((pe_var (pos := p1) (i := 0) hN hv hd hcd).run pinsZ sZ σZ HZ (fun v H1 => v = .ref f ∧ H1 = HZ) IZ ⟨.ref f, hs, rfl, rfl⟩) fun u s1 ⟨v, H1, I1, r1, ev, eH⟩ => ?_)⟩
  subst ev eH
  obtain rfl : u = Value.ref f := r1
  have hf1 := I1.base.keep f _ hf hfn hfr (fun z => nomatch (show f ∈ ([] : List Addr) from z))
  refine PySem.W.callWith_F0 ⟨_, _, _, _, hf1⟩ ?_
  obtain ⟨⟨oc, us, t, hoc, hdc, hvc⟩, _, _⟩ := I1.hok c' _ hc
  have hx : Passes (L2N.CX X.prog X.w) ((cxOf CXg X.prog X.w X.K X.mg X.base Ng qg sg gf cdg X.A X.stack s H Eg).tr pn xe) E := L2N.passes_call tk hW
  refine wpAny_call (codeAny_mono (R := CR (L2N.CX X.prog X.w) (envOfC qg sg s.heap.objs.size gf cdg :: X.stack) X.prog X.w H1 s1 Q E) (PySem.W.kla_callFunE hr.depth hf1 rfl L.co L.gen rfl ⟨c', oc, us, t, rfl, hoc, hdc, hvc⟩ ?_) fun r s' hq => ?_)
  · rw [show ([] : List Value) ++ [] = [] from rfl, hbind]
    refine wpAny_pure (wpAny_newFunctionEnv (fun y hy => (L.own y hy).2) (fun y hy => by cases hy) (fun h1 hns hsb => ⟨I1.nolimit.fresh _ hsb, ?_⟩) L.kind)
    show codeAny _ _ (.expr body (LamX.lamEnv X scope s1.heap.objs.size f c')) _ _
    have kp : ∀ b o, s1.heap.get? b = some o → h1.get? b = some o := fun b o e => hsb.extBut b o (Nat.ne_of_lt (Heap.lt_size e)) (Heap.get?_push_of_some _ e)
    have J := LamX.lam_start2 (E := E) (f := f) (c' := c') (tk := s1.toks + ([] : List (Str × Value)).length) I L I1.env0 hr.hd I1.base hns kp
    refine PySem.W.kla_codeExpr (wpAny_mono ((hbody _ _ s1 H1 (hr.deeper _)).run [] _ _ H1 Q (J.toTry _) ht) (fun v s' ⟨w', H', J', rv, q⟩ => ⟨w', H', J'.os, J'.bare, J'.base, J'.hok, rv, q⟩) fun e s' hq => hq)
  · match r, hq with
    | .error e, hq => exact hx pinsZ σZ H1 s1 e s' I1 hq
    | .ok (.ret u), hq => exact I1.after hq
    | .ok .next, hq => exact hq.elim
    | .ok .brk, hq => exact hq.elim
    | .ok .cont, hq => exact hq.elim
end
end Mm
-- text S28
set_option Elab.async false
set_option linter.all false
set_option maxRecDepth 100000
set_option maxHeartbeats 2000000
/-! S28: try with clauses that name the error. -/
namespace Mm
open PySem PySem.Spec PyProof.Rows L2
abbrev Suite := Addr → Value → Option Addr → TS
/-- the ends of a suite: the error's name goes -/
def unE (i : Nat) (D : Ends) : Ends := { nx := fun σ' H' => D.nx (σ'.set i none) H', rt := D.rt, bk := fun σ' H' => D.bk (σ'.set i none) H', ct := fun σ' H' => D.ct (σ'.set i none) H' }
/-- what the clauses wish of an exception of the body, one after the other; none is let out -/
def wTry (K : PySem.W.Frag) (i n : Nat) (D : Ends) : List (Value × Suite) → WX
  | [] => fun _ _ _ _ => False
  | (c, ts) :: r => fun cls d σ H => ∃ b, PySem.W.exmOne K cls c = some b ∧ (b = true → ∀ a, H a = none → σ.length = n → ts a cls d (unE i D) (σ.set i (some (.ref a))) H) ∧ (b = false → wTry K i n D r cls d σ H)
inductive HdsW (X : Cx) (n : Str) : List ExceptHandler → List (Value × Suite) → Prop
  | nil : HdsW X n [] []
  | cons {x : Str} {c : Value} {ts : Suite} {b₀ : Stmt} {suite : List Stmt} {np pos' : Pos} {hds : List ExceptHandler} {l : List (Value × Suite)} (hc : Names X x c)
      (hsu : ∀ (a : Addr) (oe : Obj) (cls : Value) (d : Option Addr) (pn : List (Addr × Obj)), L2N.Zn cls d oe → (∃ vs, oe.data = .fields vs) → L2H.HotC (X.suite a ((a, oe) :: pn)) → PSs (X.suite a ((a, oe) :: pn)) (b₀ :: suite) (ts a cls d)) (r : HdsW X n hds l) :
      HdsW X n (.ExceptHandler (some (.Name x np)) (some n) (b₀ :: suite) pos' :: hds) ((c, ts) :: l)
theorem hot_suite {X : Cx} {a : Addr} {oe : Obj} {cls : Value} {d : Option Addr} {pn : List (Addr × Obj)} (hz : L2N.Zn cls d oe) (hf : ∃ vs, oe.data = .fields vs) : L2H.HotC (X.suite a ((a, oe) :: pn)) :=
  let ⟨vs, e⟩ := hf
  ⟨(a, oe), ⟨rfl, vs, e, hz.2.2 vs e⟩, List.mem_cons_self⟩
section
variable {X : Cx} {n : Str} {i : Nat} {body : List Stmt} {h₀ : ExceptHandler} {hds : List ExceptHandler} {l : List (Value × Suite)} {pos : Pos} {tb : WX → TS}
theorem ps_tryW (hs : X.stack = X.env :: X.outer) (hf : X.env.frame = some X.env.locals) (hN : X.N.Nodup) (hi : X.N[i]? = some n) (hln : X.env.kindOf n = some .local)
    (hb : ∀ (W : WX) (pn : List (Addr × Obj)) (xe : Value → Shared → Prop), L2N.Takes (X.tr pn xe) W → PassesOwn (model X.prog X.w) X.A X.env xe → PSs (X.tr pn xe) body (tb W)) (hh : HdsW X n (h₀ :: hds) l) :
    PS X (.Try body (h₀ :: hds) [] [] pos) (fun D σ H => tb (wTry X.K i X.N.length D l) D σ H) := by
  refine ⟨fun pins s σ H D I h => wpAny_Try_except ?_⟩
  have ok := I.ok
  have fr : X.A.frames = some (X.env :: X.outer) := by rw [ok.frames, hs]
  refine wpAny_mono ((hb (wTry X.K i X.N.length D l) (X.pn ++ pins) (fun e s1 => wpAny (model X.prog X.w) X.A (noteFrame e X.env) (fun _ s2 => wpAny (model X.prog X.w) X.A (setFlight e none) (fun _ s3 => wpAny (model X.prog X.w) X.A (handleBy e X.env (h₀ :: hds)) (SP X pins D) X.xe s3) X.xe s2) X.xe s1)
    (fun u s' ⟨a, B, sI, pins', σ', H', cls, d, eu, J', nb, up, sky, na, os, ag, w⟩ => ?_) PassesOwn.looking).run [] s σ H D (I.toTry _) h) (fun f s1 hsp => ?_) fun e s1 he => he
  · subst eu
    have J : Inv X pins σ' H' sI := J'.ofTry ok
    show wpAny (model X.prog X.w) X.A (noteFrame (.ref a) X.env) _ _ _
    refine L2N.Sky.land L2N.Zn.steady fr hf (show L2.Sky B (X.env :: X.outer) a (L2N.Zn cls d) X.env.locals s'.heap by rw [← hs]; exact sky) fun h3 fl3 up3 => ?_
    have J3 : Inv X pins σ' H' { s' with heap := h3 } := J.landed nb fl3.1 (up.trans up3) os ag
    obtain ⟨oe3, vs3, he3, hz3, hd3⟩ := fl3.there
    have nfr : a ∉ frs (X.env :: X.outer) := fun hm => by
      obtain ⟨_, o', e', hnf⟩ := fl3.2.2.1.mem hm
      rw [he3] at e'; cases e'; exact hnf _ hd3
    have nL : a ≠ X.env.locals := fun z => nfr (List.mem_filterMap.mpr ⟨X.env, List.mem_cons_self, by rw [hf, z]⟩)
    have nF : a ∉ X.fs := fun hm => let ⟨e, he, q⟩ := List.mem_filterMap.mp hm; nfr (List.mem_filterMap.mpr ⟨e, List.mem_cons_of_mem _ he, q⟩)
    have S3 := J3.suite he3 hd3 na nL nF
    have go : ∀ {hds' : List ExceptHandler} {l' : List (Value × Suite)}, HdsW X n hds' l' → wTry X.K i X.N.length D l' cls d σ' H' → wpAny (model X.prog X.w) X.A (handleBy (.ref a) X.env hds') (SP X pins D) X.xe { s' with heap := h3 } := fun {hds' l'} hk => by
      induction hk with
      | nil => exact fun w => w.elim
      | @cons x c ts b₀ suite np pos' hds2 l2 hc hsu r ih =>
        rintro ⟨b, hb1, hyes, hno⟩
        refine wpAny_handleBy_cons (codeAny_handlers_test ?_) (by intro q; cases q)
        have LM := PySem.W.exm_one (M := model X.prog X.w) J3.kIn (fun A Q E s k q => wpAny_typeOf_ref (k _ _ he3) (by rw [hz3.1]; exact q)) hb1
        have test : ∀ {Q E : Value → Shared → Prop}, Q c { s' with heap := h3 } → wpAny (model X.prog X.w) (X.A.mark (some (.ref a))) (eval (.Name x np) X.env) Q E { s' with heap := h3 } := fun {Q E} q => by
          obtain ⟨hg, hdbg, hm | ⟨hm, hv, hnn⟩⟩ := hc
          · exact ld_glob (X := X.suite a ((a, oe3) :: (X.pn ++ pins))) S3 hg hm q hdbg
          · exact ld_blt (X := X.suite a ((a, oe3) :: (X.pn ++ pins))) S3 hg hm hv q hnn hdbg
        refine test (LM.here ?_)
        cases b with
        | false => show wpAny _ X.A (handleBy (.ref a) X.env hds2) _ _ _; exact ih (hno rfl)
        | true =>
          refine codeAny_handlers_suite_as (HandSPX.lands_againZ fl3 fun h4 fl4 up4 => ?_)
          have J4 : Inv X pins σ' H' { s' with heap := h4 } := J.landed nb fl4.1 ((up.trans up3).trans up4) os ag
          obtain ⟨oe4, vs4, he4, hz4, hd4⟩ := fl4.there
          refine store_ok (X := X.suite a ((a, oe4) :: (X.pn ++ pins))) (v := .ref a) (J4.suite he4 hd4 na nL nF) hN hi (.inl hln) rfl (fun s5 S5 => ?_) (.inr hln)
          have last : ∀ {σ6 : L2.St} {H6 : Hp} {s6 : Shared} {Q : Shared → Prop}, Inv (X.suite a ((a, oe4) :: (X.pn ++ pins))) [] σ6 H6 s6 → (∀ s7, Inv X pins (σ6.set i none) H6 s7 → Q s7) → wpAny (model X.prog X.w) X.A (do bindName X.env n .none; unbindBehindTheSuite X.env n pos') (fun _ s7 => Q s7) X.xe s6 :=
            fun {σ6 H6 s6 Q} S6 hq => gone_ok (S6.unsuite ok) hN hi hln hq
          refine wpAny_mono ((hsu a oe4 cls d (X.pn ++ pins) hz4 ⟨_, hd4⟩ (hot_suite hz4 ⟨_, hd4⟩)).run [] s5 _ H' _ S5 (hyes rfl a na J.len)) (fun f s6 hsp => ?_) fun _ _ z => z.elim
          cases f with
          | next => obtain ⟨σ6, H6, S6, q6⟩ := hsp; exact last S6 fun s7 J7 => ⟨_, _, J7, q6⟩
          | brk => obtain ⟨σ6, H6, S6, q6⟩ := hsp; exact last S6 fun s7 J7 => ⟨_, _, J7, q6⟩
          | cont => obtain ⟨σ6, H6, S6, q6⟩ := hsp; exact last S6 fun s7 J7 => ⟨_, _, J7, q6⟩
          | ret u => obtain ⟨v6, σ6, H6, S6, r6, q6⟩ := hsp; exact last S6 fun s7 J7 => ⟨_, _, _, J7, r6, q6⟩
    exact go hh w
  · cases f with
    | next => obtain ⟨σ', H', J', q⟩ := hsp; exact wpAny_execs_nil ⟨σ', H', J'.ofTry ok, q⟩
    | brk => obtain ⟨σ', H', J', q⟩ := hsp; exact ⟨σ', H', J'.ofTry ok, q⟩
    | cont => obtain ⟨σ', H', J', q⟩ := hsp; exact ⟨σ', H', J'.ofTry ok, q⟩
    | ret u => obtain ⟨v, σ', H', J', r, q⟩ := hsp; exact ⟨v, σ', H', J'.ofTry ok, r, q⟩
end
end Mm
-- text S29
set_option Elab.async false
set_option linter.all false
set_option maxRecDepth 100000
set_option maxHeartbeats 2000000
/-! S29: w(lambda: ..), w a def that tells the word of an error. -/
namespace Mm
open PySem PySem.Spec PyProof.Rows L2
/-- the word of what e raises, or "" -/
def mWord (W : Exn → Option Str) (e : ME) : ME := fun ρ => match e ρ with
  | some (.ok _, ρ1) => ret (.va (.str "")) ρ1
  | some (.error x, ρ1) => (match W x with
    | some w => ret (.va (.str w)) ρ1
    | none => none)
  | none => none
section
variable {g : Gr} {σ σ' : Sg} {H H' : Hp} {F F' : Addr → Prop} {ρ ρ' ρ1 : Env} {c P : Addr} {i : Nat} {E : XK} {X : Cx}
/-- the ground of the word's def: its clauses l, what they wish -/
structure WordD (g : Gr) (P : Program) (base : Heap) (nm a n : Str) (Ng : List Str) (i : Nat) (W : Exn → Option Str) (gf : Addr) (fd : FuncData) (pg : Arguments) (sg : Scope) (p1 p2 p3 p4 p5 p6 : Pos) (h₀ : ExceptHandler) (hds : List ExceptHandler) (j : Nat) : Prop where
  T : FunD g.K nm nm pg [.Try [.Expr (.Call (.Name a p1) [] [] p2) p3] (h₀ :: hds) [] [] p4, .Return (some (.Constant (.str "") j p5)) p6] sg [] [] gf fd
  S : FnScope Ng [a] sg
  hm : g.mg nm = some (.ref gf)
  hb : Binds g.K fd [a] []
  h0 : Ng[0]? = some a
  hv : Vis sg a
  hi : Ng[i]? = some n
  hl : sg.names.lookup n = some .local
  ad : (a == ("__debug__" : Str)) = false
  ac : (a == ("__classdict__" : Str)) = false
  hh : ∃ l : List (Value × Suite), (∀ (cdv : Value) (A : Around) (outer : List PySem.Env) (s : Shared) (H : Hp), Room 1 (A.deeper (envOfC nm sg s.heap.objs.size gf cdv)) → HdsW (cxOf L2.CX0 P g.w g.K g.mg base Ng nm sg gf cdv A outer s H E0).nox n (h₀ :: hds) l) ∧
    ∀ (x : Exn) (w : Str) (cls : Value) (d : Option Addr) (σ' : Sg) (H' : Hp) (D : Ends), W x = some w → ExR g H' x cls d → LamX.Tabs g.T H' → (∀ H'', Grow g H' H'' → D.rt (.str w) H'') → wTry g.K i Ng.length D l cls d σ' H'
theorem s_word {k : Nat} {nm a n : Str} {Ng : List Str} {W : Exn → Option Str} {gf : Addr} {fd : FuncData} {pg : Arguments} {sg : Scope} {p1 p2 p3 p4 p5 p6 p lpos pos : Pos} {h₀ : ExceptHandler} {hds : List ExceptHandler} {j : Nat} {params : Arguments} {body : Expr} {scope : Scope} {m : ME}
    (ok : Okk g X) (hr : Room (k + 3) X.A) (wd : WordD g X.prog X.base nm a n Ng i W gf fd pg sg p1 p2 p3 p4 p5 p6 h₀ hds j)
    (TB : LamX.TabB X.base X.mg c P) (hcode : X.env.code = .ref c) (hmT : (P, X.env.qual ++ "<lambda>") ∈ g.T) (hu : ∀ p ∈ g.T, p.1 = P → p.2 = X.env.qual ++ "<lambda>")
    (hbody : ∀ (A : Around) (outer : List PySem.Env) (s : Shared) (H : Hp) (E : XK) (f c' : Addr), Okk g (lamN X A outer s H E scope f c') → Room (k + 1) (lamN X A outer s H E scope f c').A → L2N.Takes (lamN X A outer s H E scope f c') (fun cls d _ H => E cls d H) → PE (lamN X A outer s H E scope f c') body (tE g E m))
    (L : LamX.LamS X.env.scope scope := by exact LamX.lamS_by (by kernel_rfl)) (hdef : defaultsOf params X.env = ([], []) := by rfl)
    (hbind : ∀ (q : Str) (cl : List (Str × Addr)) (pm cv ctv : Value), bindArgs (PySem.W.kla_fn "<lambda>" q params body scope cl pm cv ctv) ⟨[], []⟩ = pure [] := by intro _ _ _ _ _; rfl)
    (hg : Gl X nm := by rfl) (hdb : (nm == ("__debug__" : Str)) = false := by decide) :
    PE X (.Call (.Name nm p) [.Lambda params body scope lpos] [] pos) (tE g E (mWord W m)) := by
  obtain ⟨T, Sg, hm, hb, h0, hv, hi, hln, had, hac, l, hh, hw⟩ := wd
  refine ⟨fun pins s σ H Q I ⟨ρ, F, R, h⟩ => wpAny_Call_Name_kw (ld_glob I hg (by rw [ok.mg]; exact hm) ?_ hdb)⟩
  obtain ⟨oc, od, dV, kV, doc, pm, an, cd, ct, osl, rfl, look, code, _, _⟩ := T.ex
  refine PySem.W.callWith_K (h₀ := X.base) I.ok.mod.kin (by rw [ok.K]; exact T.kp) ?_ (by rfl) (by rfl)
  show wpAny _ _ (spliced ((false, eval (.Lambda params body scope lpos) X.env) :: backTo pos (starEach [] X.env))) _ _ s
  refine Calls.spliced_cons (lamMk I TB hcode hmT hu R.tab hdef (L.has I.ok) fun f c' pm' ctv H1 s1 I1 gr hf hfn hfr hco => Calls.spliced_nil ⟨I1.kIn, ?_⟩)
  have R1 := R.grow gr
  have s01 : SF σ ρ H F σ ρ H1 F := SF.refl.grow gr
  refine wpAny_call (codeAny_mono (R := CR L2.CX0 X.stack X.prog X.w H1 s1 Q E0) ?_ fun r s2 hq => ?_)
  · refine LamX.run_ofS (N := Ng) (ps := [a]) (us := [.ref f]) (vs := [.ref f]) (by rw [ok.K]; exact look) (by rw [ok.K]; exact code) Sg (k := k + 2) hr I1.env0 ((by rw [ok.K]; exact hb : Binds X.K _ [a] []) s1 [.ref f] I1.kIn rfl) (.cons rfl .nil) rfl fun hr' => ?_
    have hds' := hh cd X.A X.stack s1 H1 (hr'.mono (by omega))
    rw [← ok.K, ← ok.w, ← ok.mg] at hds'
    refine ⟨_, PSs.nox (pss_cons (ps_tryW (i := i) (tb := fun W' D σZ HZ => ∃ Ech : XK, (∀ cls d σ' H', Ech cls d H' → W' cls d σ' H') ∧ σZ[0]? = some (some (.ref f)) ∧ HZ c' = some (LamX.CodeO c' (X.env.qual ++ "<lambda>")) ∧ tE g Ech m σ HZ fun _ H' => D.nx σZ H') rfl rfl Sg.nd hi hln
      (fun W' pn xe tk _ => ?_) hds') (pss_one (ps_ret pe_str))), ?_⟩
    · refine ⟨fun pinsZ sZ σZ HZ D IZ ⟨Ech, hW, h1, h2, h3⟩ => ?_⟩
      have act := lam_act (CXg := L2.CX0) (Eg := E0) (k := k + 1) (E := Ech) (xe := xe) (pn := pn) (W := W') (p1 := p1) (p2 := p2) (tb := tE g Ech m) I1 L hf hfn hfr (hbind _ _ _ _ _) tk hW hr' (fun A outer s H hr2 => hbody A outer s H Ech f c' ⟨⟨ok.K, ok.w, ok.mg, ?_, ok.nd, passes_of rfl⟩, rfl⟩ hr2 (L2N.takes_of rfl rfl rfl rfl)) h0 hv had hac
      · exact (pss_one (ps_expr (pos := p3) act)).run pinsZ sZ σZ HZ D IZ ⟨h1, h2, h3⟩
      · have := hr2.un
        show (A.deeper _).units + 200 < cLine
        omega
    · -- what is asked of it
      obtain ⟨o, ρ', eo, h⟩ := h
      unfold mWord at eo
      cases em : m ρ with
      | none => rw [em] at eo; cases eo
      | some z =>
        obtain ⟨z, ρ1⟩ := z
        rw [em] at eo
        cases z with
        | ok r =>
          obtain ⟨rfl, rfl⟩ : o = .ok (.va (.str "")) ∧ ρ' = ρ1 := by cases eo; exact ⟨rfl, rfl⟩
          refine ⟨E0, fun _ _ _ _ z => z.elim, rfl, hco, ρ, F, R1, .ok r, _, em, fun H' F' R' s' v rv => ?_⟩
          exact h H' F' R' (s01.trans s') _ (.str "")
        | error x =>
          simp only at eo
          cases ew : W x with
          | none => rw [ew] at eo; cases eo
          | some w =>
            rw [ew] at eo
            obtain ⟨rfl, rfl⟩ : o = .ok (.va (.str w)) ∧ ρ' = ρ1 := by cases eo; exact ⟨rfl, rfl⟩
            refine ⟨fun cls d H' => ∃ F', Rel g σ H' F' ρ' ∧ SF σ ρ H1 F σ ρ' H' F' ∧ ExR g H' x cls d, fun cls d σ' H' ⟨F', R', s', ex⟩ => ?_, rfl, hco, ρ, F, R1, .error x, _, em, fun cls d H' F' R' s' ex => ⟨F', R', s', ex⟩⟩
            show wTry X.K i Ng.length _ l cls d σ' H'
            rw [ok.K]
            refine hw x w cls d σ' H' _ ew ex R'.tab fun H'' gr'' => ?_
            exact h H'' F' (R'.grow gr'') ((s01.trans s').grow gr'') _ (.str w)
  · match r, hq with
    | .error e, hq => exact (show False from hq).elim
    | .ok (.ret u), hq => exact I1.after hq
    | .ok .next, hq => exact hq.elim
    | .ok .brk, hq => exact hq.elim
    | .ok .cont, hq => exact hq.elim
end
end Mm
-- text S30
set_option Elab.async false
set_option linter.all false
set_option maxRecDepth 100000
set_option maxHeartbeats 2000000
/-! S30: defs that make lambdas; the Hook with their tables; the end. -/
namespace Mm
open PySem PySem.Spec PyProof.Rows L2
/-- a def's word, its ground hidden -/
def WordX (g : Gr) (P : Program) (base : Heap) (nm : Str) (W : Exn → Option Str) : Prop :=
  ∃ a n Ng i gf fd pg sg p1 p2 p3 p4 p5 p6 h₀ hds j, WordD g P base nm a n Ng i W gf fd pg sg p1 p2 p3 p4 p5 p6 h₀ hds j
section
variable {g : Gr} {E : XK} {X : Cx} {c P : Addr}
theorem s_wordX {k : Nat} {nm : Str} {W : Exn → Option Str} {p lpos pos : Pos} {params : Arguments} {body : Expr} {scope : Scope} {m : ME}
    (ok : Okk g X) (hr : Room (k + 3) X.A) (wd : WordX g X.prog X.base nm W)
    (TB : LamX.TabB X.base X.mg c P) (hcode : X.env.code = .ref c) (hmT : (P, X.env.qual ++ "<lambda>") ∈ g.T) (hu : ∀ p ∈ g.T, p.1 = P → p.2 = X.env.qual ++ "<lambda>")
    (hbody : ∀ (A : Around) (outer : List PySem.Env) (s : Shared) (H : Hp) (E : XK) (f c' : Addr), Okk g (lamN X A outer s H E scope f c') → Room (k + 1) (lamN X A outer s H E scope f c').A → L2N.Takes (lamN X A outer s H E scope f c') (fun cls d _ H => E cls d H) → PE (lamN X A outer s H E scope f c') body (tE g E m))
    (L : LamX.LamS X.env.scope scope := by exact LamX.lamS_by (by kernel_rfl)) (hdef : defaultsOf params X.env = ([], []) := by rfl)
    (hbind : ∀ (q : Str) (cl : List (Str × Addr)) (pm cv ctv : Value), bindArgs (PySem.W.kla_fn "<lambda>" q params body scope cl pm cv ctv) ⟨[], []⟩ = pure [] := by intro _ _ _ _ _; rfl)
    (hg : Gl X nm := by rfl) (hdb : (nm == ("__debug__" : Str)) = false := by decide) :
    PE X (.Call (.Name nm p) [.Lambda params body scope lpos] [] pos) (tE g E (mWord W m)) := by
  obtain ⟨a, n, Ng, i, gf, fd, pg, sg, p1, p2, p3, p4, p5, p6, h₀, hds, j, wd⟩ := wd
  exact s_word ok hr wd TB hcode hmT hu hbody L hdef hbind hg hdb
end
/-- the def at fd makes lambdas: its code object, its table -/
structure LamD (g : Gr) (base : Heap) (q : Str) (fd : FuncData) : Prop where
  ex : ∃ c P, fd.code = .ref c ∧ LamX.TabB base g.mg c P ∧ (P, q) ∈ g.T ∧ ∀ p ∈ g.T, p.1 = P → p.2 = q
theorem fnOkL {P : Program} {base : Heap} {x qual q : Str} {params : Arguments} {body : List Stmt} {scope : Scope} {f : Addr} {fd : FuncData} {N ps : List Str} {k n more : Nat} {g : Gr} {mb : MS}
    (Fd : FunD g.K x qual params body scope [] [] f fd) (S : FnScope N ps scope) (hn : ps.length = n) (hN : N.length = n + more) (lm : LamD g base q fd)
    (hb : ∀ (c T : Addr), LamX.TabB base g.mg c T → (T, q) ∈ g.T → (∀ p ∈ g.T, p.1 = T → p.2 = q) → ∀ (B : Around) (up : List PySem.Env) (t : Shared) (H : Hp) (E : XK), Okk g (cxX P g.w g.K g.mg base N qual scope f (.ref c) B up t H E) → Room k (cxX P g.w g.K g.mg base N qual scope f (.ref c) B up t H E).A → L2N.Takes (cxX P g.w g.K g.mg base N qual scope f (.ref c) B up t H E) (fun cls d _ H => E cls d H) →
      PSs (cxX P g.w g.K g.mg base N qual scope f (.ref c) B up t H E) body (tS g E mb)) :
    FnOk P g.w g.K g.mg base (L2N.CX P g.w) (k + 1) f fd ps (spM g (mDef n more mb)) := by
  obtain ⟨c, T, ec, TB, hm, hu⟩ := lm.ex
  obtain ⟨oc, od, dV, kV, doc, pm, an, cdv, ct, osl, rfl, lk, hcd, _, _⟩ := Fd.ex
  obtain rfl : cdv = .ref c := ec
  exact fn_of lk hcd S (fun vs H Q E h => by rw [hn]; exact spM_len h) fun B up t H vs Q E room h =>
    ⟨_, hb c T TB hm hu B up t H E ⟨⟨rfl, rfl, rfl, by have := room.un; show (B.deeper _).units + 200 < cLine; omega, S.nd, passes_of rfl⟩, rfl⟩ room (L2N.takes_of rfl rfl rfl rfl), spM_body hN h⟩
/-! ### the Hook -/
abbrev TK : Type := He.AlD × (Bool × List (Option Obj))
/-- xs: the defs that make lambdas; ex: further facts -/
def tabsK (K : PySem.W.Frag) (xs : List Str) : List (Addr × Addr) := xs.filterMap (PySem.W.tabIn K)
def fragT (n : Nat) (xs : List Str) (gt : Addr → Option Obj) : PySem.W.Frag × List (Addr × Addr) :=
  match He.asD gt n with
  | as => (match tabsK (He.frG gt as) xs with
    | cs => (He.frG gt (as.filter fun a => !(cs.map (·.2)).contains a), cs))
def okT (K : PySem.W.Frag) (cs : List (Addr × Addr)) (xs : List Str) (ex : PySem.W.Frag → Bool) : Bool :=
  decide (xs.map (PySem.W.tabIn K) = cs.map some) && (cs.all (fun p => PySem.W.codeHdIn K p.1 p.2) && (cs.all (fun p => (K.lookup p.2).isNone) && (decide ((cs.map (·.2)).Nodup) && ex K)))
def obsT (n : Nat) (fa : List He.Fa) (fn : List He.DefD) (xs : List Str) (ex : PySem.W.Frag → Bool) (gt : Addr → Option Obj) : TK :=
  match fragT n xs gt with
  | (K, cs) => (He.obsD fa fn K, okT K cs xs ex, cs.map fun p => gt p.2)
def valT (fn : List He.DefD) (xs : List Str) : TK := (He.valD fn, true, xs.map fun _ => some (PySem.W.tabObj #[]))
def SaysT (fa : List He.Fa) (fn : List He.DefD) (xs : List Str) (ex : PySem.W.Frag → Bool) (h : Heap) : Prop :=
  ∃ (K : PySem.W.Frag) (cs : List (Addr × Addr)), K.In h ∧ He.SaysD fa fn K ∧ okT K cs xs ex = true ∧ ∀ p ∈ cs, h.get? p.2 = some (PySem.W.tabObj #[])
def hookT (n : Nat) (fa : List He.Fa) (fn : List He.DefD) (xs : List Str) (ex : PySem.W.Frag → Bool) : PySem.W.Hook where
  α := TK
  obs := fun s => obsT n fa fn xs ex s.heap.get?
  val := fun _ => valT fn xs
  says := fun _ h => SaysT fa fn xs ex h
  of := fun _ s e => by
    unfold obsT fragT at e
    simp only [valT, Prod.mk.injEq] at e
    obtain ⟨e1, e2, e3⟩ := e
    refine ⟨_, _, He.frG_in, e1, e2, fun p hp => ?_⟩
    have : s.heap.get? p.2 ∈ xs.map fun _ => some (PySem.W.tabObj #[]) := by rw [← e3]; exact List.mem_map.mpr ⟨p, hp, rfl⟩
    obtain ⟨_, _, q⟩ := List.mem_map.mp this
    exact q.symm
  keeps := fun _ _ _ ⟨K, cs, hK, c, o, t⟩ k => ⟨K, cs, PySem.W.Frag.In.keeps hK k, c, o, fun p hp => k _ _ (t p hp)⟩
theorem obsT_eq {n : Nat} {fa : List He.Fa} {fn : List He.DefD} {xs : List Str} {ex : PySem.W.Frag → Bool} {gt : Addr → Option Obj} {s : Shared} (h : ∀ a, gt a = s.heap.get? a) : obsT n fa fn xs ex gt = (hookT n fa fn xs ex).obs s := by
  rw [show gt = s.heap.get? from funext h]; rfl
/-- the tables, by the names of their lambdas -/
def tabT (cs : List (Addr × Addr)) (xs : List Str) : List (Addr × Str) := (cs.zip xs).map fun p => (p.1.2, p.2 ++ ".<locals>." ++ "<lambda>")
structure OkT (K : PySem.W.Frag) (cs : List (Addr × Addr)) (xs : List Str) (ex : PySem.W.Frag → Bool) : Prop where
  tb : xs.map (PySem.W.tabIn K) = cs.map some
  cd : ∀ p ∈ cs, PySem.W.codeHdIn K p.1 p.2 = true
  nl : ∀ p ∈ cs, K.lookup p.2 = none
  nd : (cs.map (·.2)).Nodup
  ex : ex K = true
theorem okT_ok {K : PySem.W.Frag} {cs : List (Addr × Addr)} {xs : List Str} {ex : PySem.W.Frag → Bool} (h : okT K cs xs ex = true) : OkT K cs xs ex := by
  unfold okT at h
  simp only [Bool.and_eq_true, decide_eq_true_eq, List.all_eq_true, Option.isNone_iff_eq_none] at h
  obtain ⟨h1, h2, h3, h4, h5⟩ := h
  exact ⟨h1, h2, h3, h4, h5⟩
/-- the i-th of the defs that make lambdas -/
theorem OkT.lam {K : PySem.W.Frag} {cs : List (Addr × Addr)} {xs : List Str} {ex : PySem.W.Frag → Bool} {g : Gr} {base : Heap} {params : Arguments} {body : List Stmt} {scope : Scope} {x : Str} {fd : FuncData} (o : OkT K cs xs ex) (hK : g.K = K) (hT : g.T = tabT cs xs) (tb : ∀ p ∈ cs, LamX.TabB base g.mg p.1 p.2)
    {f : Addr} (F : FunD K x x params body scope [] [] f fd) (i : Nat) (hx : xs[i]? = some x) (hf : PySem.W.nsIn K mainGlobals x = some (some (.ref f))) : LamD g base (x ++ ".<locals>." ++ "<lambda>") fd := by
  have e := congrArg (fun l => l[i]?) o.tb
  simp only [List.getElem?_map, hx, Option.map_some] at e
  cases ec : cs[i]? with
  | none => rw [ec] at e; cases e
  | some p =>
    rw [ec] at e
    have e : PySem.W.tabIn K x = some p := Option.some.inj e
    obtain ⟨oc, od, dV, kV, doc, pm, an, cdv, ct, osl, rfl, lk, hcd, _, _⟩ := F.ex
    have mem : p ∈ cs := List.mem_of_getElem? ec
    unfold PySem.W.tabIn at e
    rw [hf] at e
    simp only [lk] at e
    have code : cdv = .ref p.1 := by
      cases cdv with
      | ref c =>
        simp only [PySem.W.fnOf] at e
        split at e
        · split at e
          · cases e; rfl
          · cases e
        · cases e
      | _ => simp [PySem.W.fnOf] at e
    have mT : (p.2, x ++ ".<locals>." ++ "<lambda>") ∈ g.T := by
      rw [hT]; unfold tabT
      refine List.mem_map.mpr ⟨(p, x), ?_, rfl⟩
      refine List.mem_of_getElem? (i := i) ?_
      rw [List.getElem?_zip_eq_some]
      exact ⟨ec, hx⟩
    refine ⟨p.1, p.2, code, tb p mem, mT, fun q hq eq => ?_⟩
    rw [hT] at hq; unfold tabT at hq
    obtain ⟨⟨p', x'⟩, hz, rfl⟩ := List.mem_map.mp hq
    obtain ⟨j, hj⟩ := List.getElem?_of_mem hz
    obtain ⟨j1, j2⟩ := List.getElem?_zip_eq_some.mp hj
    have ej : j = i := by
      have a1 : (cs.map (·.2))[j]? = some p.2 := by rw [List.getElem?_map, j1]; exact congrArg some eq
      have a2 : (cs.map (·.2))[i]? = some p.2 := by rw [List.getElem?_map, ec]; rfl
      obtain ⟨l1, b1⟩ := List.getElem?_eq_some_iff.mp a1
      obtain ⟨l2, b2⟩ := List.getElem?_eq_some_iff.mp a2
      exact (List.getElem_inj o.nd).mp (b1.trans b2.symm)
    subst ej
    rw [hx] at j2; cases j2
    rfl
/-! ### the end -/
/-- the script at the law -/
theorem sp_lawT {g : Gr} {m : Fn} {H : Hp} {a : Addr} {ns : List Int} (hs : SqL g.K H a (ns.map V.int)) (hT : LamX.Tabs g.T H) (hr : ∀ x, (x = D.scr ns ∨ x = D.lst (ns.map D.int)) → ∃ cs', m [.va x] = some (.ok (.va (.bl true)), cs')) :
    spM g m [.ref a] H (fun v _ => v = .bl true) fun _ _ _ => False := by
  obtain ⟨x, F, hx, dv, fz⟩ : ∃ (x : D) (F : Addr → Prop), (x = D.scr ns ∨ x = D.lst (ns.map D.int)) ∧ Dv g H F x (.ref a) ∧ ∀ b, F b → ∃ o, H b = some o ∧ ∀ ps, o ≠ .tbl ps := by
    rcases hs with (h | h) | h
    · exact ⟨_, fun b => b = a, .inr rfl, .lst rfl h (dvl_ints ns), fun b e => ⟨.lst (ns.map V.int), (show b = a from e) ▸ h, fun _ z => by cases z⟩⟩
    · exact ⟨_, fun _ => False, .inl rfl, .scr ⟨.inl (.inr h), .inl h⟩, fun _ z => z.elim⟩
    · exact ⟨_, fun _ => False, .inl rfl, .scr ⟨.inr h, .inr fun H' => .inr h⟩, fun _ z => z.elim⟩
  obtain ⟨cs', em⟩ := hr x hx
  refine ⟨[.va x], F, ⟨rfl, fun i c d e o => ?_, fun i c d e o => ?_, fun i j c e x y b ne q1 q2 o1 => ?_, fz, hT⟩, fun c hc => ?_, .ok (.va (.bl true)), cs', em, fun σ' H' F' v R s x => by
    have x : Dv g H' F' (.bl true) v := x
    cases x; rfl⟩
  · cases i with
    | zero => simp at e; subst e; cases o; exact ⟨_, rfl, dv⟩
    | succ i => simp at e
  · cases i with
    | zero => simp at e; subst e; cases o
    | succ i => simp at e
  · cases i with
    | zero => simp at q1; subst q1; cases o1
    | succ i => simp at q1
  · simp at hc
    exact .inl ⟨_, hc⟩
theorem tabs_nil {cs : List (Addr × Addr)} {xs : List Str} {H : Hp} (h : ∀ p ∈ cs, H p.2 = some (.tbl #[])) : LamX.Tabs (tabT cs xs) H := fun q hq => by
  unfold tabT at hq
  obtain ⟨p, hz, rfl⟩ := List.mem_map.mp hq
  exact .nil (h p.1 (List.of_mem_zip hz).1)
theorem cxN_false {P : Program} {w : World} {H : Hp} {s : Shared} {e : Value} {s' : Shared} (h : L2N.CX P w [] H s (fun _ _ _ => False) e s') : False := by
  obtain ⟨_, _, _, _, _, _, _, _, _, _, _, _, z⟩ := h
  exact z
end Mm
-- text S31
set_option Elab.async false
set_option linter.all false
set_option maxRecDepth 100000
set_option maxHeartbeats 1000000
/-! S31: o[k], p[l] = a, b. -/
namespace Mm
open PySem PySem.Spec PyProof.Rows L2
def mPut (o k : ME) (d : D) : Env → Out Unit := fun ρ => bnd (o ρ) fun x ρ1 => bnd (k ρ1) fun y ρ2 => match x with
  | .sl i => (match deref ρ2 y with
    | some kd => (match isOwn ρ2 i with
      | some c => (match putIx c kd d with
        | some c' => (match setOwn ρ2 i c' with
          | some ρ3 => ret () ρ3
          | none => none)
        | none => none)
      | none => none)
    | none => none)
  | _ => none
/-- the pair first, then the stores from the left -/
def mSwap (o k p l a b : ME) : MS := fun ρ => bnd (mTup (mCons a (mCons b mNil)) ρ) fun r ρ1 => match r with
  | .va (.tup [d, e]) => bnd (mPut o k d ρ1) fun _ ρ2 => bnd (mPut p l e ρ2) fun _ ρ3 => ret .nx ρ3
  | _ => none
section
variable {g : Gr} {σ σ0 σ' σ1 σ2 : Sg} {H H' H0 H1 H2 : Hp} {F F0 F' F1 F2 : Addr → Prop} {ρ ρ0 ρ' ρ1 ρ2 : Env} {a : Addr} {v : V} {r : R} {d d' k c c' : D} {i j n : Nat} {E : XK} {X : Cx} {x y o e b : Expr} {De : Ends} {ma mb mc mo mk mv mp ml : ME} {pos p1 p2 p3 : Pos} {md : MD} {es : List Expr}
/-- a store's reading -/
def gPut (g : Gr) (E : XK) (mo mk : ME) : TG := fun v σ H Q => ∃ ρ F d, Rel g σ H F ρ ∧ Dv g H F d v ∧ Runs g E (mPut mo mk d ρ) σ ρ H F fun _ _ H' _ => Q σ H'
theorem g_ix (ok : Okk g X) (ho : PE X o (tE g E mo)) (hk : PE X x (tE g E mk)) (ha : ∀ v, assign (.Subscript o x p1) X.env v = (do
      let ov ← holding [v] (eval o X.env)
      let iv ← holding [v, ov] (eval x X.env)
      standAt p1
      holding [v, ov, iv] (setItem ov iv v)
      release [v, ov, iv] []) := by intro _; rfl) : PG X (.Subscript o x p1) (gPut g E mo mk) := by
  refine PG.sub (pg_sub ho hk (set_m ok) ha) fun v σ H Q h => ?_
  obtain ⟨ρ, F, d, R, dv0, h⟩ := h
  refine ⟨ρ, F, R, (h.at SF.refl).mono fun x ρ2 H2 F2 R2 s2 h2 o ro => ⟨ρ2, F2, R2, (h2.2.at h2.1).mono fun y ρ3 H3 F3 R3 s3 h3 i ri => ?_⟩⟩
  obtain ⟨s, h3⟩ := h3
  have dv : Dv g H3 F3 d v := (dv0.kept (h2.1.keep R)).kept (s3.keep R2)
  cases x with
  | sl m =>
    simp only at h3
    cases ey : deref ρ3 y with
    | none => simp only [ey] at h3; exact h3.no.elim
    | some kd =>
      simp only [ey] at h3
      cases ei : isOwn ρ3 m with
      | none => simp only [ei] at h3; exact h3.no.elim
      | some c =>
        simp only [ei] at h3
        cases ep : putIx c kd d with
        | none => simp only [ep] at h3; exact h3.no.elim
        | some c' =>
          simp only [ep] at h3
          cases eo : setOwn ρ3 m c' with
          | none => simp only [eo] at h3; exact h3.no.elim
          | some ρ5 =>
            simp only [eo] at h3
            have ro : σ[m]? = some (some o) := ro
            obtain ⟨b, sb, nf, t⟩ : ∃ b, σ[m]? = some (some (V.ref b)) ∧ ¬ F3 b ∧ Top g H3 F3 b c := by
              rcases isOwn_get ei with e | e
              · exact R3.own m _ c e rfl
              · exact R3.own m _ c e rfl
            rw [ro] at sb; cases sb
            have sk : Seen g H3 F3 kd i := deref_ok R3 ri ey
            refine ⟨F3, b, c, kd, d, c', rfl, nf, t, sk, dv, ep, fun o' t' no => ?_⟩
            obtain ⟨R5, s5⟩ := R3.chg' ei eo ro t' no
            exact h3.ret R5 (s.trans s5)
  | _ => exact h3.no.elim
theorem s_swap {p q : Expr} {kt k2 : Nat} {pt pt2 : Pos} {e1 e2 : Expr} (ok : Okk g X) (h1 : PG X p (gPut g E mo mk)) (h2 : PG X q (gPut g E mp ml)) (he : PE X (.Tuple [e1, e2] k2 pt2) (tE g E (mTup (mCons ma (mCons mb mNil)))))
    (hs : swapsWithSole [.Tuple [p, q] kt pt] (.Tuple [e1, e2] k2 pt2) pos.line X.env = pure false := by rfl) (hw : swappedStores [.Tuple [p, q] kt pt] (.Tuple [e1, e2] k2 pt2) X.env = pure none := by rfl)
    (g1 : (assignEach [.Tuple [p, q] kt pt] X.env).map (·.2) = [assign (.Tuple [p, q] kt pt) X.env] := by rfl)
    (g2 : (assignEach [p, q] X.env).map (·.2) = assign p X.env :: (assignEach [q] X.env).map (·.2) := by rfl) (g3 : (assignEach [q] X.env).map (·.2) = assign q X.env :: (assignEach [] X.env).map (·.2) := by rfl)
    (g4 : (assignEach [p, q] X.env).length = 2 := by rfl) (g5 : (assignEach [p, q] X.env).findIdx? (·.1) = none := by rfl) :
    PS X (.Assign [.Tuple [p, q] kt pt] (.Tuple [e1, e2] k2 pt2) pos) (tS g E (mSwap mo mk mp ml ma mb)) := by
  refine PS.sub (ps_asg he (pg_tup (n := 2) ok.calm (pgs_cons h1 (pgs_cons h2 pgs_nil g3) g2) g4 g5) hs hw g1) fun De σ H h => ?_
  obtain ⟨ρ, F, R, h⟩ := h
  refine ⟨ρ, F, R, (h.at SF.refl).mono fun r ρ1 H1 F1 R1 s1 h1 v rv => ?_⟩
  obtain ⟨s, h1⟩ := h1
  match r, h1, rv with
  | .va (.tup [d, e]), h1, rv =>
    have rv : Dv g H1 F1 (.tup [d, e]) v := rv
    cases rv with
    | tup sq t =>
      cases t with
      | cons d1 t =>
        cases t with
        | cons d2 t =>
          cases t
          refine ⟨_, _, rfl, by rw [ok.K]; exact sq, rfl, _, _, rfl, ρ1, F1, d, R1, d1, (h1.at s).mono fun _ ρ2 H2 F2 R2 s2 h2 => ⟨_, _, rfl, ρ2, F2, e, R2, d2.kept (s2.keep R1), (h2.2.at h2.1).mono fun _ ρ3 H3 F3 R3 s3 h3 => ⟨rfl, h3.2.nx R3 h3.1⟩⟩⟩
  | .va .non, h1, _ => exact h1.no.elim
  | .va (.bl _), h1, _ => exact h1.no.elim
  | .va (.int _), h1, _ => exact h1.no.elim
  | .va (.str _), h1, _ => exact h1.no.elim
  | .va (.tup []), h1, _ => exact h1.no.elim
  | .va (.tup [_]), h1, _ => exact h1.no.elim
  | .va (.tup (_ :: _ :: _ :: _)), h1, _ => exact h1.no.elim
  | .va (.lst _), h1, _ => exact h1.no.elim
  | .va (.dic _), h1, _ => exact h1.no.elim
  | .va (.obj _), h1, _ => exact h1.no.elim
  | .va (.scr _), h1, _ => exact h1.no.elim
  | .ow _, h1, _ => exact h1.no.elim
  | .sl _, h1, _ => exact h1.no.elim
end
end Mm
-- text S33
set_option Elab.async false
set_option linter.all false
set_option maxRecDepth 100000
set_option maxHeartbeats 1000000
/-! S33: tuple(range(..)), list(range(..)). -/
namespace Mm
open PySem PySem.Spec PyProof.Rows L2
def mTupI (i : MI) : ME := fun ρ => bnd (i ρ) fun p ρ1 => match p.2 with
  | [] => if p.1.length ≤ big then ret (.va (.tup p.1)) ρ1 else none
  | _ => none
def mLstI (i : MI) : ME := fun ρ => bnd (i ρ) fun p ρ1 => match p.2 with
  | [] => if p.1.length ≤ big then ret (.ow (.lst p.1)) ρ1 else none
  | _ => none
section
variable {g : Gr} {σ : Sg} {H : Hp} {F : Addr → Prop} {ρ : Env} {E : XK} {X : Cx} {x y : Expr} {ma mb : ME} {pos p1 p2 p3 : Pos}
theorem dvl_rg {H : Hp} {F : Addr → Prop} (a b : Int) : DvL g H F (rangeL a b) (rgV a b) := by
  unfold rangeL rgV
  generalize List.range (b - a).toNat = l
  induction l with
  | nil => exact .nil
  | cons i l ih => exact .cons (.int _) ih
theorem rg_ok {a b : Int} (ha : small62 a = true) (hb : small62 b = true) (hl : (rangeL a b).length ≤ big) : RgOk a b := by
  unfold small62 at ha hb
  simp only [Bool.and_eq_true, decide_eq_true_eq] at ha hb
  refine ⟨ha.1, ha.2, hb.1, hb.2, ?_⟩
  unfold rangeL big at hl
  simp at hl
  omega
theorem bnd_assoc {α β γ : Type} (x : Out α) (f : α → Env → Out β) (k : β → Env → Out γ) : bnd (bnd x f) k = bnd x fun a ρ => bnd (f a ρ) k := by
  cases x with
  | none => rfl
  | some z => obtain ⟨z, ρ⟩ := z; cases z <;> rfl
/-- the end of both kinds -/
theorem rgE {f : List D → R} {a b : Int} {ρ1 : Env} {k : R → Env → Hp → (Addr → Prop) → Prop} (h : Runs g E (bnd (if (small62 a && small62 b) = true then ret (rangeL a b, ([] : List Nat)) ρ1 else none) fun p ρ1 => match p.2 with
    | [] => if p.1.length ≤ big then ret (f p.1) ρ1 else none
    | _ => none) σ ρ H F k) : RgOk a b ∧ Runs g E (ret (f (rangeL a b)) ρ1) σ ρ H F k := by
  split at h
  · rename_i hs
    simp only [Bool.and_eq_true] at hs
    simp only [bnd, ret] at h
    split at h
    · rename_i hl
      exact ⟨rg_ok hs.1 hs.2 hl, h⟩
    · exact h.no.elim
  · exact h.no.elim
theorem rgI1 {f : List D → R} {Q : VK} (h : Runs g E (bnd (miRange1 ma ρ) fun p ρ1 => match p.2 with
    | [] => if p.1.length ≤ big then ret (f p.1) ρ1 else none
    | _ => none) σ ρ H F fun r ρ' H' F' => ∀ v, RelR g σ H ρ' H' F' v r → Q v H') (R : Rel g σ H F ρ) :
    tRg1 (tE g E ma) σ H fun a b H1 => RgOk a b ∧ ∃ ρ1 F1, Rel g σ H1 F1 ρ1 ∧ SF σ ρ H F σ ρ1 H1 F1 ∧ Runs g E (ret (f (rangeL a b)) ρ1) σ ρ H F fun r ρ' H' F' => ∀ v, RelR g σ H ρ' H' F' v r → Q v H' := by
  unfold miRange1 at h
  rw [bnd_assoc] at h
  refine ⟨ρ, F, R, (h.at SF.refl).mono fun r ρ1 H1 F1 R1 s1 h1 v rv => ?_⟩
  obtain ⟨s, h1⟩ := h1
  match r, h1, rv with
  | .va (.int j), h1, rv =>
    cases (show Dv g H1 F1 (.int j) v from rv)
    have := rgE (a := 0) (b := j) (f := f) (by rw [show small62 0 = true from by decide, Bool.true_and]; exact h1)
    exact ⟨j, rfl, this.1, ρ1, F1, R1, s, this.2⟩
  | .va .non, h1, _ => exact h1.no.elim
  | .va (.bl _), h1, _ => exact h1.no.elim
  | .va (.str _), h1, _ => exact h1.no.elim
  | .va (.tup _), h1, _ => exact h1.no.elim
  | .va (.lst _), h1, _ => exact h1.no.elim
  | .va (.dic _), h1, _ => exact h1.no.elim
  | .va (.obj _), h1, _ => exact h1.no.elim
  | .va (.scr _), h1, _ => exact h1.no.elim
  | .ow _, h1, _ => exact h1.no.elim
  | .sl _, h1, _ => exact h1.no.elim
theorem rgI2 {f : List D → R} {Q : VK} (h : Runs g E (bnd (miRange2 ma mb ρ) fun p ρ1 => match p.2 with
    | [] => if p.1.length ≤ big then ret (f p.1) ρ1 else none
    | _ => none) σ ρ H F fun r ρ' H' F' => ∀ v, RelR g σ H ρ' H' F' v r → Q v H') (R : Rel g σ H F ρ) :
    tRg2 (tE g E ma) (tE g E mb) σ H fun a b H1 => RgOk a b ∧ ∃ ρ1 F1, Rel g σ H1 F1 ρ1 ∧ SF σ ρ H F σ ρ1 H1 F1 ∧ Runs g E (ret (f (rangeL a b)) ρ1) σ ρ H F fun r ρ' H' F' => ∀ v, RelR g σ H ρ' H' F' v r → Q v H' := by
  unfold miRange2 at h
  rw [bnd_assoc] at h
  refine ⟨ρ, F, R, (h.at SF.refl).mono fun r ρ1 H1 F1 R1 s1 h1 v rv => ?_⟩
  obtain ⟨s, h1⟩ := h1
  rw [bnd_assoc] at h1
  refine ⟨ρ1, F1, R1, (h1.at s).mono fun q ρ2 H2 F2 R2 s2 h2 w rw' => ?_⟩
  obtain ⟨s', h2⟩ := h2
  have rv2 := rv.kept R1 s2
  have bad : ∀ {α β : Type} {kk : α → Env → Out β} {K : β → Env → Hp → (Addr → Prop) → Prop}, Runs g E (bnd (none : Out α) kk) σ ρ H F K → False := fun h => h.no
  match r, q, h2, rv2, rw' with
  | .va (.int i), .va (.int j), h2, rv2, rw' =>
    cases (show Dv g H2 F2 (.int i) v from rv2)
    cases (show Dv g H2 F2 (.int j) w from rw')
    have := rgE (a := i) (b := j) (f := f) h2
    exact ⟨i, j, rfl, rfl, this.1, ρ2, F2, R2, s', this.2⟩
  | .va (.int _), .va .non, h2, _, _ => exact (bad h2).elim
  | .va (.int _), .va (.bl _), h2, _, _ => exact (bad h2).elim
  | .va (.int _), .va (.str _), h2, _, _ => exact (bad h2).elim
  | .va (.int _), .va (.tup _), h2, _, _ => exact (bad h2).elim
  | .va (.int _), .va (.lst _), h2, _, _ => exact (bad h2).elim
  | .va (.int _), .va (.dic _), h2, _, _ => exact (bad h2).elim
  | .va (.int _), .va (.obj _), h2, _, _ => exact (bad h2).elim
  | .va (.int _), .va (.scr _), h2, _, _ => exact (bad h2).elim
  | .va (.int _), .ow _, h2, _, _ => exact (bad h2).elim
  | .va (.int _), .sl _, h2, _, _ => exact (bad h2).elim
  | .va .non, _, h2, _, _ => exact (bad h2).elim
  | .va (.bl _), _, h2, _, _ => exact (bad h2).elim
  | .va (.str _), _, h2, _, _ => exact (bad h2).elim
  | .va (.tup _), _, h2, _, _ => exact (bad h2).elim
  | .va (.lst _), _, h2, _, _ => exact (bad h2).elim
  | .va (.dic _), _, h2, _, _ => exact (bad h2).elim
  | .va (.obj _), _, h2, _, _ => exact (bad h2).elim
  | .va (.scr _), _, h2, _, _ => exact (bad h2).elim
  | .ow _, _, h2, _, _ => exact (bad h2).elim
  | .sl _, _, h2, _, _ => exact (bad h2).elim
theorem s_tupRg1 (ok : Okk g X) (hm : X.mg "tuple" = none) (hr : X.mg "range" = none) (ha : PE X x (tE g E ma)) (hg : Gl X "tuple" := by rfl) (hgr : Gl X "range" := by rfl)
    (na : starEach [x] X.env = (false, eval x X.env) :: starEach [] X.env := by rfl) (na2 : starEach [.Call (.Name "range" p1) [x] [] p2] X.env = (false, eval (.Call (.Name "range" p1) [x] [] p2) X.env) :: starEach [] X.env := by rfl) :
    PE X (.Call (.Name "tuple" p3) [.Call (.Name "range" p1) [x] [] p2] [] pos) (tE g E (mTupI (miRange1 ma))) := by
  refine PE.sub (pe_tupRg ok.calm hg hm (prg_1 hgr hr ha na) na2) fun σ H Q h => ?_
  obtain ⟨ρ, F, R, h⟩ := h
  have mono : ∀ {t t' : Int → Int → Hp → Prop}, (∀ a b H, t a b H → t' a b H) → tRg1 (tE g E ma) σ H t → tRg1 (tE g E ma) σ H t' := fun m ⟨ρ, F, R, h⟩ => ⟨ρ, F, R, h.mono fun _ _ _ _ _ _ q v rv => let ⟨j, e, z⟩ := q v rv; ⟨j, e, m _ _ _ z⟩⟩
  exact mono (fun a b H1 ⟨k, ρ1, F1, R1, s, h1⟩ => ⟨k, fun q hn => h1.ret (R1.new hn) (s.new_ hn) _ (newT hn (dvl_rg _ _))⟩) (rgI1 (f := fun l => .va (.tup l)) h R)
theorem s_tupRg2 (ok : Okk g X) (hm : X.mg "tuple" = none) (hr : X.mg "range" = none) (ha : PE X x (tE g E ma)) (hb : PE X y (tE g E mb)) (hg : Gl X "tuple" := by rfl) (hgr : Gl X "range" := by rfl)
    (na : starEach [x, y] X.env = (false, eval x X.env) :: starEach [y] X.env := by rfl) (nb : starEach [y] X.env = (false, eval y X.env) :: starEach [] X.env := by rfl) (hp : (backTo p2 (starEach [y] X.env)).any (·.1) = false := by rfl) (na2 : starEach [.Call (.Name "range" p1) [x, y] [] p2] X.env = (false, eval (.Call (.Name "range" p1) [x, y] [] p2) X.env) :: starEach [] X.env := by rfl) :
    PE X (.Call (.Name "tuple" p3) [.Call (.Name "range" p1) [x, y] [] p2] [] pos) (tE g E (mTupI (miRange2 ma mb))) := by
  refine PE.sub (pe_tupRg ok.calm hg hm (prg_2 hgr hr ha hb na nb hp) na2) fun σ H Q h => ?_
  obtain ⟨ρ, F, R, h⟩ := h
  have mono : ∀ {t t' : Int → Int → Hp → Prop}, (∀ a b H, t a b H → t' a b H) → tRg2 (tE g E ma) (tE g E mb) σ H t → tRg2 (tE g E ma) (tE g E mb) σ H t' := fun m ⟨ρ, F, R, h⟩ => ⟨ρ, F, R, h.mono fun _ _ _ _ _ _ q v rv => let ⟨ρ, F, R, h⟩ := q v rv; ⟨ρ, F, R, h.mono fun _ _ _ _ _ _ q w rw2 => let ⟨i, j, e, e2, z⟩ := q w rw2; ⟨i, j, e, e2, m _ _ _ z⟩⟩⟩
  exact mono (fun a b H1 ⟨k, ρ1, F1, R1, s, h1⟩ => ⟨k, fun q hn => h1.ret (R1.new hn) (s.new_ hn) _ (newT hn (dvl_rg _ _))⟩) (rgI2 (f := fun l => .va (.tup l)) h R)
theorem s_lstRg1 (ok : Okk g X) (hm : X.mg "list" = none) (hr : X.mg "range" = none) (ha : PE X x (tE g E ma)) (hg : Gl X "list" := by rfl) (hgr : Gl X "range" := by rfl)
    (na : starEach [x] X.env = (false, eval x X.env) :: starEach [] X.env := by rfl) (na2 : starEach [.Call (.Name "range" p1) [x] [] p2] X.env = (false, eval (.Call (.Name "range" p1) [x] [] p2) X.env) :: starEach [] X.env := by rfl) :
    PE X (.Call (.Name "list" p3) [.Call (.Name "range" p1) [x] [] p2] [] pos) (tE g E (mLstI (miRange1 ma))) := by
  refine PE.sub (pe_listRg ok.calm hg hm (prg_1 hgr hr ha na) na2) fun σ H Q h => ?_
  obtain ⟨ρ, F, R, h⟩ := h
  have mono : ∀ {t t' : Int → Int → Hp → Prop}, (∀ a b H, t a b H → t' a b H) → tRg1 (tE g E ma) σ H t → tRg1 (tE g E ma) σ H t' := fun m ⟨ρ, F, R, h⟩ => ⟨ρ, F, R, h.mono fun _ _ _ _ _ _ q v rv => let ⟨j, e, z⟩ := q v rv; ⟨j, e, m _ _ _ z⟩⟩
  exact mono (fun a b H1 ⟨k, ρ1, F1, R1, s, h1⟩ => ⟨k, fun q hn => h1.ret (R1.new hn) (s.new_ hn) _ (newL R1 s hn (dvl_rg _ _))⟩) (rgI1 (f := fun l => .ow (.lst l)) h R)
theorem s_lstRg2 (ok : Okk g X) (hm : X.mg "list" = none) (hr : X.mg "range" = none) (ha : PE X x (tE g E ma)) (hb : PE X y (tE g E mb)) (hg : Gl X "list" := by rfl) (hgr : Gl X "range" := by rfl)
    (na : starEach [x, y] X.env = (false, eval x X.env) :: starEach [y] X.env := by rfl) (nb : starEach [y] X.env = (false, eval y X.env) :: starEach [] X.env := by rfl) (hp : (backTo p2 (starEach [y] X.env)).any (·.1) = false := by rfl) (na2 : starEach [.Call (.Name "range" p1) [x, y] [] p2] X.env = (false, eval (.Call (.Name "range" p1) [x, y] [] p2) X.env) :: starEach [] X.env := by rfl) :
    PE X (.Call (.Name "list" p3) [.Call (.Name "range" p1) [x, y] [] p2] [] pos) (tE g E (mLstI (miRange2 ma mb))) := by
  refine PE.sub (pe_listRg ok.calm hg hm (prg_2 hgr hr ha hb na nb hp) na2) fun σ H Q h => ?_
  obtain ⟨ρ, F, R, h⟩ := h
  have mono : ∀ {t t' : Int → Int → Hp → Prop}, (∀ a b H, t a b H → t' a b H) → tRg2 (tE g E ma) (tE g E mb) σ H t → tRg2 (tE g E ma) (tE g E mb) σ H t' := fun m ⟨ρ, F, R, h⟩ => ⟨ρ, F, R, h.mono fun _ _ _ _ _ _ q v rv => let ⟨ρ, F, R, h⟩ := q v rv; ⟨ρ, F, R, h.mono fun _ _ _ _ _ _ q w rw2 => let ⟨i, j, e, e2, z⟩ := q w rw2; ⟨i, j, e, e2, m _ _ _ z⟩⟩⟩
  exact mono (fun a b H1 ⟨k, ρ1, F1, R1, s, h1⟩ => ⟨k, fun q hn => h1.ret (R1.new hn) (s.new_ hn) _ (newL R1 s hn (dvl_rg _ _))⟩) (rgI2 (f := fun l => .ow (.lst l)) h R)
end
end Mm
-- text S32
set_option Elab.async false
set_option linter.all false
set_option maxRecDepth 100000
set_option maxHeartbeats 1000000
/-! S32: what a clause's suite tells. -/
namespace Mm
open PySem PySem.Spec PyProof.Rows L2
section
variable {g : Gr} {σ σ' : Sg} {H H' : Hp} {F F' : Addr → Prop} {ρ ρ' : Env} {a : Addr} {i n : Nat} {E : XK} {X : Cx} {x y : Expr} {pos : Pos} {ma mb : ME} {De : Ends}
theorem Okh.blk (ok : Okh g X) {s : Shared} {H : Hp} {scope : Scope} {ce : PySem.Env} {fp : List Addr} : Okh g (X.blk s H scope ce fp) := ⟨ok.K, ok.w, ok.mg, ok.u, ok.nd, PassesOwn.never⟩
theorem q_ixH (ok : Okh g X) (ha : PE X x (tE g E ma)) (hb : PE X y (tE g E mb)) (hp : PlainIx y := by intro _ _; rfl) : PE X (.Subscript x y pos) (tE g E (mOp2 fIx ma mb)) := s_ix (o_ixH ok) (sem2 g fIx) ha hb hp
theorem pss_ex {α : Type} {p : α → Prop} {t : α → TS} {b : List Stmt} (h : ∀ x, p x → PSs X b (t x)) : PSs X b (fun D σ H => ∃ x, p x ∧ t x D σ H) := ⟨fun pins s σ H D I ⟨x, px, q⟩ => (h x px).run pins s σ H D I q⟩
theorem okh_suite {c : Addr} {P : Program} {base : Heap} {N : List Str} {q : Str} {sc : Scope} {f : Addr} {cd : Value} {A : Around} {up : List PySem.Env} {t : Shared} {pn : List (Addr × Obj)} (room : Room n (A.deeper (envOfC q sc t.heap.objs.size f cd))) (nd : N.Nodup) :
    Okh { g with ob := fun _ => c } ((cxOf L2.CX0 P g.w g.K g.mg base N q sc f cd A up t H E0).nox.suite a pn) :=
  ⟨rfl, rfl, rfl, by have := room.un; show (A.deeper (envOfC q sc t.heap.objs.size f cd)).units + 200 < cLine; omega, nd, PassesOwn.never⟩
/-- the ground of a suite: the object 0 is the error -/
def Gr.er (g : Gr) (a : Addr) : Gr := { g with ob := fun _ => a }
theorem Grow.er {g : Gr} {a : Addr} {H H' : Hp} (h : Grow (g.er a) H H') : Grow g H H' := ⟨h.kp, h.th, h.tb⟩
/-- the slots at a clause's suite: nothing but the error is known -/
def suE (n i : Nat) : Env := (List.replicate n C.un).set i (.va (.obj 0))
theorem suE_get {j : Nat} {c : C} (h : (suE n i)[j]? = some c) : (j = i ∧ c = .va (.obj 0)) ∨ c = .un := by
  unfold suE at h
  by_cases e : i = j
  · subst e
    by_cases hl : i < n
    · rw [List.getElem?_set_self (by simpa using hl)] at h; exact .inl ⟨rfl, (Option.some.inj h).symm⟩
    · rw [List.getElem?_eq_none (by simpa using hl)] at h; cases h
  · rw [List.getElem?_set_ne e] at h
    exact .inr (rep_get h)
theorem suite_runs {m : MS} {w : Str} (hob : g.ob 0 = a) (hi : i < n) (hl : σ.length = n) (T : LamX.Tabs g.T H) (em : m (suE n i) = some (.ok (.rt (.va (.str w))), ρ')) (k : ∀ H'', Grow g H H'' → De.rt (.str w) H'') : tS g E0 m (unE i De) (σ.set i (some (.ref a))) H := by
  have no : ∀ {j : Nat} {c : C} {d : D}, (suE n i)[j]? = some c → isOb c ≠ some d := fun h o => by
    rcases suE_get h with ⟨_, rfl⟩ | rfl <;> cases o
  refine ⟨suE n i, fun _ => False, ⟨by simp [suE, hl], fun j c d e o => ?_, fun j c d e o => (no e o).elim, fun j l c e x y b ne q1 q2 o1 => (no q1 o1).elim, fun _ z => z.elim, T⟩, _, ρ', em, fun σ' H' F' v R s rv => ?_⟩
  · rcases suE_get e with ⟨rfl, rfl⟩ | rfl
    · cases o
      exact ⟨.ref (g.ob 0), by rw [hob]; exact List.getElem?_set_self (by omega), .obj 0⟩
    · cases o
  · have rv : Dv g H' F' (.str w) v := rv
    cases rv
    refine k _ (.of_sf R s fun b ⟨j, d, e, _⟩ => ?_)
    rcases e with e | e
    · exact no e rfl
    · exact no e rfl
end
/-- the word that a suite gives back -/
def wordOut : Out Fl → Option Str
  | some (.ok (.rt (.va (.str w))), _) => some w
  | _ => none
theorem wordOut_ok {x : Out Fl} {w : Str} (h : wordOut x = some w) : ∃ ρ', x = some (.ok (.rt (.va (.str w))), ρ') := by
  unfold wordOut at h
  split at h
  · cases h; exact ⟨_, rfl⟩
  · cases h
/-- the classes of the text's errors, by their addresses -/
structure Wf (g : Gr) (ad : Str → Addr) (L : Str) (cs : List Str) : Prop where
  gm : ∀ c ∈ L :: cs, g.mg c = some (.ref (ad c))
  ec : ∀ c ∈ cs, ExcC g.K (ad c)
  ex : ∀ c ∈ cs, PySem.W.exmOne g.K (.ref (ad c)) (.ref (ad L)) = some true
  kv : ∀ c ∈ cs, PySem.W.kitOne g.K (.ref (ad c)) (.type "ValueError") = some true
  kt : ∀ c ∈ cs, ∀ c' ∈ cs, PySem.W.kitOne g.K (.ref (ad c)) (.ref (ad c')) = some (decide (c = c'))
def excCB (K : PySem.W.Frag) (D : Addr) : Bool :=
  decide (PySem.W.findIn K (.ref D) "__getattribute__" = some (some (.builtin "BaseException.__getattribute__"))) && (decide (PySem.W.findIn K (.ref D) "__getattr__" = some none) && (decide (PySem.W.subIn K (.ref D) (.type "BaseException") = some true) && (PySem.W.hasDictIn K D && (decide (PySem.W.findIn K (.ref D) "__class__" = some (some (.builtin "object.__class__"))) &&
    (decide (PySem.W.specialIn K (.builtin "object.__class__") "__get__" = some (some (.builtin "getset_descriptor.__get__"))) && (decide (PySem.W.takesIn K (.builtin "object.__class__") = some true) && decide (PySem.W.mroIn K D (.type "object") = some true)))))))
theorem excCB_ok {K : PySem.W.Frag} {D : Addr} (h : excCB K D = true) : ExcC K D := by
  unfold excCB at h
  simp only [Bool.and_eq_true, decide_eq_true_eq] at h
  obtain ⟨h1, h2, h3, h4, h5, h6, h7, h8⟩ := h
  exact ⟨h1, h2, h3, h4, h5, h6, h7, h8⟩
/-- all this, as one look -/
def wfB (K : PySem.W.Frag) (L : Str) (cs : List Str) : Bool :=
  cs.all (fun c => excCB K (He.ga K c) && (decide (PySem.W.exmOne K (.ref (He.ga K c)) (.ref (He.ga K L)) = some true) && decide (PySem.W.kitOne K (.ref (He.ga K c)) (.type "ValueError") = some true))) &&
    (cs.all (fun c => cs.all fun c' => decide (PySem.W.kitOne K (.ref (He.ga K c)) (.ref (He.ga K c')) = some (decide (c = c')))) && (L :: cs).all fun c => (He.Fa.glo c).ok K)
theorem wfB_ok {g : Gr} {h : Heap} {L : Str} {cs : List Str} (X : g.K.In h) (G : h.Ns mainGlobals g.mg) (w : wfB g.K L cs = true) : Wf g (He.ga g.K) L cs := by
  unfold wfB at w
  simp only [Bool.and_eq_true, List.all_eq_true, decide_eq_true_eq] at w
  obtain ⟨h1, h2, h3⟩ := w
  exact ⟨fun c hc => He.glo_ok X G (h3 c hc), fun c hc => excCB_ok (h1 c hc).1, fun c hc => (h1 c hc).2.1, fun c hc => (h1 c hc).2.2, h2⟩
end Mm
-- text P0
set_option Elab.async false
set_option linter.all false
set_option maxRecDepth 100000
set_option maxHeartbeats 4000000
/-! P0: plain: the cup of draws. -/
namespace Mm
open PySem
def bCup (A B C D E : Int) : MS :=
  (mSeq (mSet 1 (mOp1 gAbs (mOp2 fIx (mOp2 fAdd (mOp1 gList (mVar 0)) (mLst (mCons (mK (.int 0)) mNil))) (mK (.int 0)))))
  (mRet (mLst (mCons (mIf (mB (mOp2 fGe (mVar 1) (mOp2 fPow (mK (.int 10)) (mK (.int 18))))) (mOp2 fDiv (mVar 1) (mK (.int A))) (mK (.int 0))) (mCons (mOp2 fAdd (mOp2 fMod (mOp1 gInt (mOp2 fAdd (mOp2 fMul (mVar 1) (mK (.int B))) (mK (.int C)))) (mK (.int D))) (mK (.int E))) mNil)))))
def bRoll (F G H I J L : Int) : MS :=
  (mSeq (mIfS (mB (mOp2 fGt (mOp2 fIx (mVar 0) (mK (.int 0))) (mK (.int 0)))) (mSeq (mSet 2 (mOp2 fMod (mOp1 gInt (mOp2 fIx (mVar 0) (mK (.int 0)))) (mVar 1)))
  (mSeq (mSetIx (mVar 0) (mK (.int 0)) (mOp2 fDiv (mOp2 fIx (mVar 0) (mK (.int 0))) (mVar 1)))
  (mRet (mVar 2)))) mSkip)
  (mSeq (mSetIx (mVar 0) (mK (.int 1)) (mOp2 fMod (mOp1 gInt (mOp2 fAdd (mOp2 fMul (mOp2 fIx (mVar 0) (mK (.int 1))) (mK (.int F))) (mK (.int G)))) (mK (.int H))))
  (mSeq (mSet 3 (mOp2 fMod (mOp1 gInt (mOp2 fMul (mOp2 fIx (mVar 0) (mK (.int 1))) (mOp2 fAdd (mOp2 fIx (mVar 0) (mK (.int 1))) (mK (.int I))))) (mK (.int J))))
  (mRet (mOp2 fMod (mOp1 gInt (mOp2 fDiv (mVar 3) (mK (.int L)))) (mVar 1))))))
/-- the cup: two ints -/
def cupD (a b : Int) : D := .lst [.int a, .int b]
theorem roll_ok {F G H I J L a b n : Int} (hF : near F = true) (hH : 0 < H ∧ H < 2 ^ 63) (hJ : 0 < J) (hL : 0 < L ∧ L < 1073741824) (hn : 0 < n ∧ n < 1073741824) :
    ∃ r a' b', 0 ≤ r ∧ r < n ∧ mDef 2 2 (bRoll F G H I J L) [.bo (cupD a b), .va (.int n)] = some (.ok (.va (.int r)), [.bo (cupD a' b'), .un]) := by
  have hn' : decide (0 < n) = true ∧ decide (n < 1073741824) = true := by simp [hn.1, hn.2]
  by_cases ha : 0 < a
  · refine ⟨a % n, a / n, b, Int.emod_nonneg _ (by omega), Int.emod_lt_of_pos _ hn.1, ?_⟩
    simp [mDef, bRoll, cupD, mSeq, mIfS, mB, mOp2, mOp1, mVar, mK, mSet, mSetIx, mRet, bnd, ret, deref, cellD, fGt, cmpOk, D.sh, D.pl, D.dep, D.alk, D.ltb, isNon, fIx, ixD, vBl, vInt, fMod, fDiv, gInt, fInt, store, put1, isPin, frz, isOwn, setOwn, putIx, resR, bks, ha, hn.1, hn.2]
  · have nb : near ((b * F + G) % H) = true := by
      have h1 := Int.emod_nonneg (b * F + G) (show H ≠ 0 by omega)
      have h2 := Int.emod_lt_of_pos (b * F + G) hH.1
      unfold near
      simp
      omega
    refine ⟨((((b * F + G) % H) * ((b * F + G) % H + I)) % J / L) % n, a, (b * F + G) % H, Int.emod_nonneg _ (by omega), Int.emod_lt_of_pos _ hn.1, ?_⟩
    simp [mDef, bRoll, cupD, mSeq, mIfS, mB, mOp2, mOp1, mVar, mK, mSet, mSetIx, mRet, mSkip, bnd, ret, deref, cellD, fGt, fMul, fAdd, cmpOk, D.sh, D.pl, D.dep, D.alk, D.ltb, isNon, fIx, ixD, vBl, vInt, fMod, fDiv, gInt, fInt, store, put1, isPin, frz, isOwn, setOwn, putIx, resR, bks, ha, hn.1, hn.2, hF, hH.1, hJ, hL.1, hL.2, nb]
theorem cup_ok {A B C D' E : Int} {x : D} {ns : List Int} (hx : x = .scr ns ∨ x = .lst (ns.map .int)) (hl : ns.length ≤ 63) (hA : 0 < A ∧ A < 1073741824) (hB : near B = true) (hD : 0 < D') :
    ∃ a b, mDef 1 1 (bCup A B C D' E) [.va x] = some (.ok (.ow (cupD a b)), [.un]) := by
  have e1 : gList x = some (.ow (.lst (ns.map .int))) := by
    rcases hx with rfl | rfl
    · simp only [gList, fList]; rw [if_pos (by unfold big; omega)]
    · rfl
  have sz : (ns.map D.int).length + 1 ≤ 16777216 := by simp; omega
  obtain ⟨c, rest, hc⟩ : ∃ (c : Int) (rest : List D), ns.map D.int ++ [D.int 0] = .int c :: rest := by cases ns <;> simp
  have e3 : fAdd (.lst (ns.map .int)) (.lst [.int 0]) = some (.ow (.lst (.int c :: rest))) := by
    simp only [fAdd]
    rw [if_pos (by simp [big]; omega), hc]
  have e4 : ∀ i j : Int, fAdd (.int i) (.int j) = vInt (i + j) := fun _ _ => rfl
  have e5 : fIx (.lst (.int c :: rest)) (.int 0) = some (.va (.int c)) := by simp [fIx, ixD]
  obtain ⟨m, e2⟩ : ∃ m : Int, gAbs (.int c) = some (.va (.int m)) := ⟨_, rfl⟩
  by_cases hge : (1000000000000000000 : Int) ≤ m
  · refine ⟨m / A, (m * B + C) % D' + E, ?_⟩
    have h2 : ¬ m < 1000000000000000000 := by omega
    simp [mDef, bCup, cupD, mSeq, mIf, mB, mOp2, mOp1, mVar, mK, mSet, mRet, mCons, mNil, mLst, bnd, ret, deref, cellD, fGe, fMul, fPow, cmpOk, D.sh, D.pl, D.dep, D.alk, D.ltb, isNon, vBl, vInt, fMod, fDiv, gInt, fInt, store, put1, isPin, frz, resR, bks, e1, e2, hB, hD, hA.1, hA.2, big, e3, e4, e5, hge, h2]
  · refine ⟨0, (m * B + C) % D' + E, ?_⟩
    have h2 : m < 1000000000000000000 := by omega
    simp [mDef, bCup, cupD, mSeq, mIf, mB, mOp2, mOp1, mVar, mK, mSet, mRet, mCons, mNil, mLst, bnd, ret, deref, cellD, fGe, fMul, fPow, cmpOk, D.sh, D.pl, D.dep, D.alk, D.ltb, isNon, vBl, vInt, fMod, fDiv, gInt, fInt, store, put1, isPin, frz, resR, bks, e1, e2, hB, hD, hA.1, hA.2, big, e3, e4, e5, hge, h2]
/-- a roll in a def that got the cup -/
theorem call_roll {m : Fn} {a b n r a' b' : Int} {tl : Env} (h : m [.bo (cupD a b), .va (.int n)] = some (.ok (.va (.int r)), [.bo (cupD a' b'), .un])) :
    mCall m (mACons (mVar 0) (mACons (mK (.int n)) mANil)) (.bo (cupD a b) :: tl) = some (.ok (.va (.int r)), .bo (cupD a' b') :: tl) := by
  simp [mCall, mACons, mVar, mK, mANil, bnd, ret, lent, nodupN, argCs, argC, h, back, back1, back1v]
/-- how a def ends: it tells true, the cup stands at its first place -/
def tells : Out Fl → Option C
  | some (.ok (.rt (.va (.bl true))), c :: _) => some c
  | _ => none
theorem tells_ok {x : Out Fl} {c : C} (h : tells x = some c) : ∃ ρ, x = some (.ok (.rt (.va (.bl true))), c :: ρ) := by
  unfold tells at h
  split at h
  · cases h; exact ⟨_, rfl⟩
  · cases h
/-- a def of the cup alone: a roll first, then t -/
theorem def_cup {m : Nat} {t : MS} {a b a' b' : Int} {s : MS} {ρ : Env} (hs : s (.bo (cupD a b) :: List.replicate m .un) = some (.ok .nx, ρ)) (ht : tells (t ρ) = some (.bo (cupD a' b'))) :
    mDef 1 m (mSeq s t) [.bo (cupD a b)] = some (.ok (.va (.bl true)), [.bo (cupD a' b')]) := by
  obtain ⟨ρ', e⟩ := tells_ok ht
  simp [mDef, mSeq, hs, bnd, ret, e, resR, bks]
/-- the law: a cup, then tests of it -/
theorem law_two {x : D} {m1 m2 mc : Fn} {a b a1 b1 a2 b2 : Int} {cs : Env} (hc : mc [.va x] = some (.ok (.ow (cupD a b)), cs)) (hcl : back [.va x] cs [.va x, .un] = some [.va x, .un]) (h1 : m1 [.bo (cupD a b)] = some (.ok (.va (.bl true)), [.bo (cupD a1 b1)])) (h2 : m2 [.bo (cupD a1 b1)] = some (.ok (.va (.bl true)), [.bo (cupD a2 b2)])) :
    mDef 1 1 (mSeq (mSet 1 (mCall mc (mACons (mVar 0) mANil))) (mRet (mAndV (mCall m1 (mACons (mVar 1) mANil)) (mCall m2 (mACons (mVar 1) mANil))))) [.va x] = some (.ok (.va (.bl true)), [.un]) := by
  simp [mDef, mSeq, mSet, mRet, mAndV, mCall, mACons, mVar, mANil, bnd, ret, lent, nodupN, argCs, argC, hc, hcl, store, put1, isPin, h1, h2, back, back1, back1v, resR, bks]
end Mm
-- text G91
set_option Elab.async false
set_option linter.all false
set_option maxRecDepth 100000
set_option maxHeartbeats 4000000
namespace Mm.L91
section
open PySem PySem.Spec PyProof.Rows L2
def top (i : Nat) : Stmt := PySem.Challenge.pw_highground_k91_whole_errors_of_weather.main.body.getD i (.Pass ⟨0, 0, 0, 0⟩)
def cls_word : List Str := ["InvalidNumber", "InvalidWeather"]
/-- what the names of the text mean -/
structure Fx (g : Gr) : Prop where
  n_ValueError : g.mg "ValueError" = none
  n_abs : g.mg "abs" = none
  n_all : g.mg "all" = none
  n_any : g.mg "any" = none
  n_bool : g.mg "bool" = none
  n_enumerate : g.mg "enumerate" = none
  n_int : g.mg "int" = none
  n_isinstance : g.mg "isinstance" = none
  n_len : g.mg "len" = none
  n_list : g.mg "list" = none
  n_min : g.mg "min" = none
  n_range : g.mg "range" = none
  n_sorted : g.mg "sorted" = none
  n_sum : g.mg "sum" = none
  n_tuple : g.mg "tuple" = none
  n_zip : g.mg "zip" = none
  gcd : g.mg "gcd" = some (.builtin "math.gcd")
  e_InvalidNumber : ∃ C, ExcN g "InvalidNumber" C
  e_InvalidWeather : ∃ C, ExcN g "InvalidWeather" C
  i_DAYS : ∃ t, g.mg "DAYS" = some (.int 30 t)
  i_ROW : ∃ t, g.mg "ROW" = some (.int 30 t)
  i_SIGNS : ∃ t, g.mg "SIGNS" = some (.int 4 t)
  i_SORTS : ∃ t, g.mg "SORTS" = some (.int 4 t)
  i_WHOLE : ∃ t, g.mg "WHOLE" = some (.int 12 t)
  wf : ∃ ad, Wf g ad "LandError" cls_word
/-! _law_word -/
abbrev st__law_word : Stmt := top 56
theorem sc__law_word : FnScope ["call", "error", "words", "one", "is_so"] ["call"] (defScope st__law_word) := ⟨rfl, rfl, rfl, by decide +kernel, rfl, by decide +kernel, by decide +kernel⟩
def su_word (n : Str) : MS :=
  (mSeq (mSet 2 (mComp [3, 4] (miSeqH (mTup (mCons (mTup (mCons (mK (.str "number")) (mCons (mIsE 1 (decide (n = "InvalidNumber"))) mNil))) (mCons (mTup (mCons (mK (.str "weather")) (mCons (mIsE 1 (decide (n = "InvalidWeather"))) mNil))) mNil)))) (.tp [(.nm 3), (.nm 4)]) (mB (mVar 4)) (mVar 3)))
  (mRet (mIf (mAnd (mB (mOp2 fEq (mOp1 gLen (mVar 2)) (mK (.int 1)))) (mB (mIsE 1 true))) (mOp2 fIx (mVar 2) (mK (.int 0))) (mK (.str "odd")))))
def W_word : Exn → Option Str
  | .cls n => if n = "InvalidNumber" then some "number" else if n = "InvalidWeather" then some "weather" else none
  | .lim _ => none
theorem em_word : ∀ n ∈ cls_word, wordOut (su_word n (suE 5 1)) = W_word (.cls n) := by decide +kernel
theorem w_word {P : Program} {base : Heap} {g : Gr} {gf : Addr} {fd : FuncData} (T : FunD g.K "_law_word" "_law_word" (defArgs st__law_word) (defBody st__law_word) (defScope st__law_word) [] [] gf fd) (hm : g.mg "_law_word" = some (.ref gf)) (x : Fx g) : WordX g P base "_law_word" W_word := by
  obtain ⟨ad, wf⟩ := x.wf
  refine ⟨"call", "error", ["call", "error", "words", "one", "is_so"], 1, gf, fd, _, _, _, _, _, _, _, _, _, _, _, ⟨T, sc__law_word, hm, T.bindsN (fun _ _ _ _ _ _ us hl => match us, hl with | [_], _ => rfl), rfl, Or.inl rfl, rfl, rfl, by decide, by decide, [(.ref (ad "LandError"), fun a cls d D σ H => ∃ n, (n ∈ cls_word ∧ cls = .ref (ad n) ∧ d = none) ∧ tS (g.er a) E0 (su_word n) D σ H)], ?_, ?_⟩⟩
  · intro cdv A outer s H room
    refine .cons ⟨rfl, by decide, .inl (wf.gm "LandError" (by decide))⟩ (fun a oe cls d pn hz hf hotC => pss_ex fun n ⟨hn, ec, ed⟩ => ?_) .nil
    subst ec ed
    have ok : Okh (g.er a) _ := okh_suite (c := a) (g := g) (P := P) (base := base) (q := "_law_word") (sc := defScope st__law_word) (f := gf) (cd := cdv) (A := A) (up := outer) (t := s) (H := H) (a := a) (pn := (a, oe) :: pn) room sc__law_word.nd
    exact (s_seq (s_setLcH (i := 2) hotC ok.nd rfl rfl (L2.sw_true rfl rfl rfl (by decide +kernel)) (s_itH ok.K (s_tup (s_cons (s_tup (s_cons s_str (s_cons (s_isE (g := g.er a) (a := a) (X := (cxOf L2.CX0 P g.w g.K g.mg base ["call", "error", "words", "one", "is_so"] "_law_word" (defScope st__law_word) gf cdv A outer s H E0).nox) (i := 1) (wf.ec n hn) hz.zc hf (by rfl) (Or.inl (by rfl)) (by decide) (by decide) (by rfl) (by exact x.n_isinstance) (pe_glob (v := .ref (ad "InvalidNumber")) (by rfl) (wf.gm "InvalidNumber" (by decide)) rfl) (fun u e => e) (wf.kt n hn "InvalidNumber" (by decide)) rfl) s_nil))) (s_cons (s_tup (s_cons s_str (s_cons (s_isE (g := g.er a) (a := a) (X := (cxOf L2.CX0 P g.w g.K g.mg base ["call", "error", "words", "one", "is_so"] "_law_word" (defScope st__law_word) gf cdv A outer s H E0).nox) (i := 1) (wf.ec n hn) hz.zc hf (by rfl) (Or.inl (by rfl)) (by decide) (by decide) (by rfl) (by exact x.n_isinstance) (pe_glob (v := .ref (ad "InvalidWeather")) (by rfl) (wf.gm "InvalidWeather" (by decide)) rfl) (fun u e => e) (wf.kt n hn "InvalidWeather" (by decide)) rfl) s_nil))) s_nil)))) (own := [("one", 3), ("is_so", 4)]) (L2.blkOk_by (own := [("one", 3), ("is_so", 4)]) (N := ["call", "error", "words", "one", "is_so"]) (sc := (defScope st__law_word)) (by decide +kernel)) (fun _ _ _ _ _ hot => (g_tupH hot (gs_cons (g_name (ok.blk).nd (i := 3) rfl (Or.inl rfl)) (gs_cons (g_name (ok.blk).nd (i := 4) rfl (Or.inl rfl)) gs_nil)) (ok.blk).K)) (fun _ _ _ _ _ hot => (pts1 (s_tst (sv 4)))) (fun _ _ _ _ _ hot => (sv 3)))
  (s_one (s_ret (s_if (q_pw (s_and (q_tcmp (o_eqH ok) (q_b1 (c_lenH ok) (by exact x.n_len) boot_len (sv 2)) s_int) (s_and1 (s_tst (s_isE (g := g.er a) (a := a) (X := (cxOf L2.CX0 P g.w g.K g.mg base ["call", "error", "words", "one", "is_so"] "_law_word" (defScope st__law_word) gf cdv A outer s H E0).nox) (i := 1) (wf.ec n hn) hz.zc hf (by rfl) (Or.inl (by rfl)) (by decide) (by decide) (by rfl) (by exact x.n_isinstance) (pe_bltn (v := .ty "ValueError") (by rfl) (by exact x.n_ValueError) boot_ValueError rfl) (fun u e => e) (wf.kv n hn) rfl))))) (q_ixH ok (sv 2) s_int) s_str))))
  · intro y w cls d σ' H' D hW ex T0 k
    cases y with
    | lim i => cases hW
    | cls n =>
      obtain ⟨ed, c, hc, ec⟩ := ex
      have hn : n ∈ cls_word := by
        simp only [W_word] at hW
        simp only [cls_word, List.mem_cons, List.not_mem_nil, or_false]
        revert hW; repeat (split; · intro _; simp_all)
        intro hW; cases hW
      have e : c = ad n := by have := wf.gm n (.tail _ hn); rw [hc] at this; cases this; rfl
      subst e
      refine ⟨true, by rw [ec]; exact wf.ex n hn, fun _ a na hl => ⟨n, ⟨hn, ec, ed⟩, ?_⟩, fun z => by cases z⟩
      obtain ⟨ρ', em⟩ := wordOut_ok ((em_word n hn).trans hW)
      exact suite_runs (g := g.er a) rfl (by decide) hl T0 em fun H'' gr => k H'' gr.er
/-! is_whole -/
abbrev st_is_whole : Stmt := top 6
def b_is_whole : MS :=
  (mRet (mAndV (mOp1 (fIsi .int) (mVar 0)) (mAndV (mNotV (mOp1 (fIsi .bool) (mVar 0))) (mChain fLe fLe (mVar 1) (mVar 0) (mVar 2)))))
def m_is_whole : Fn := mDef 3 0 b_is_whole
theorem sc_is_whole : FnScope ["value", "low", "high"] ["value", "low", "high"] (defScope st_is_whole) := ⟨rfl, rfl, rfl, by decide +kernel, rfl, by decide +kernel, by decide +kernel⟩
theorem d_is_whole {P : Program} {base : Heap} {g : Gr} {k : Nat} {f : Addr} {fd : FuncData} (T : FunD g.K "is_whole" "is_whole" (defArgs st_is_whole) (defBody st_is_whole) (defScope st_is_whole) [] [] f fd) (gf : g.mg "is_whole" = some (.ref f)) (x : Fx g)  : HasX P base g (k + 1) "is_whole" m_is_whole :=
  ⟨f, fd, ["value", "low", "high"], fnOkX T sc_is_whole rfl rfl (fun cd B up t H E ok hr tk => (s_one (s_ret (s_vand (s_isi (t := .int) ok rfl (by exact x.n_isinstance) rfl (by exact x.n_int) boot_int (by decide) (by decide) (sv 0)) (s_vand (s_vnot (s_isi (t := .bool) ok rfl (by exact x.n_isinstance) rfl (by exact x.n_bool) boot_bool (by decide) (by decide) (sv 0))) (s_vone (q_chain (o_le ok) (o_le ok) (sv 1) (sv 0) (sv 2)))))))), gf, T.kp, T.bindsN fun _ _ _ _ _ _ us hl => match us, hl with | [_, _, _], _ => rfl⟩
/-! is_tuple_of -/
abbrev st_is_tuple_of : Stmt := top 7
def b_is_tuple_of : MS :=
  (mRet (mAndV (mOp1 (fIsi .tuple) (mVar 0)) (mChain fLe fLe (mVar 1) (mOp1 gLen (mVar 0)) (mVar 2))))
def m_is_tuple_of : Fn := mDef 3 0 b_is_tuple_of
theorem sc_is_tuple_of : FnScope ["value", "low", "high"] ["value", "low", "high"] (defScope st_is_tuple_of) := ⟨rfl, rfl, rfl, by decide +kernel, rfl, by decide +kernel, by decide +kernel⟩
theorem d_is_tuple_of {P : Program} {base : Heap} {g : Gr} {k : Nat} {f : Addr} {fd : FuncData} (T : FunD g.K "is_tuple_of" "is_tuple_of" (defArgs st_is_tuple_of) (defBody st_is_tuple_of) (defScope st_is_tuple_of) [] [] f fd) (gf : g.mg "is_tuple_of" = some (.ref f)) (x : Fx g)  : HasX P base g (k + 1) "is_tuple_of" m_is_tuple_of :=
  ⟨f, fd, ["value", "low", "high"], fnOkX T sc_is_tuple_of rfl rfl (fun cd B up t H E ok hr tk => (s_one (s_ret (s_vand (s_isi (t := .tuple) ok rfl (by exact x.n_isinstance) rfl (by exact x.n_tuple) boot_tuple (by decide) (by decide) (sv 0)) (s_vone (q_chain (o_le ok) (o_le ok) (sv 1) (q_b1 (c_len ok) (by exact x.n_len) boot_len (sv 0)) (sv 2))))))), gf, T.kp, T.bindsN fun _ _ _ _ _ _ us hl => match us, hl with | [_, _, _], _ => rfl⟩
/-! is_rising -/
abbrev st_is_rising : Stmt := top 8
def b_is_rising : MS :=
  (mRet (mOp1 gAll (mComp [1, 2] (miZip (mVar 0) (mSl (mVar 0) (moS (mK (.int 1))) moN)) (.tp [(.nm 1), (.nm 2)]) mYes (mOp2 fLt (mVar 1) (mVar 2)))))
def m_is_rising : Fn := mDef 1 2 b_is_rising
theorem sc_is_rising : FnScope ["value", "one", "other"] ["value"] (defScope st_is_rising) := ⟨rfl, rfl, rfl, by decide +kernel, rfl, by decide +kernel, by decide +kernel⟩
theorem d_is_rising {P : Program} {base : Heap} {g : Gr} {k : Nat} {f : Addr} {fd : FuncData} (T : FunD g.K "is_rising" "is_rising" (defArgs st_is_rising) (defBody st_is_rising) (defScope st_is_rising) [] [] f fd) (gf : g.mg "is_rising" = some (.ref f)) (x : Fx g)  : HasX P base g (k + 1) "is_rising" m_is_rising :=
  ⟨f, fd, ["value"], fnOkX T sc_is_rising rfl rfl (fun cd B up t H E ok hr tk => (s_one (s_ret (q_b1 (c_all ok) (by exact x.n_all) boot_all (s_lc ok.calm ok.nd (s_zip ok.K rfl (by exact x.n_zip) (sv 0) (s_sl ok (sv 0) (s_pos s_int) s_pon)) (own := [("one", 1), ("other", 2)]) (L2.blkOk_by (own := [("one", 1), ("other", 2)]) (N := ["value", "one", "other"]) (sc := (defScope st_is_rising)) (by decide +kernel)) (fun _ _ _ _ _ => (g_tup (ok.blk).calm (gs_cons (g_name (ok.blk).nd (i := 1) rfl (Or.inl rfl)) (gs_cons (g_name (ok.blk).nd (i := 2) rfl (Or.inl rfl)) gs_nil)) (ok.blk).K)) (fun _ _ _ _ _ => pts0) (fun _ _ _ _ _ => (q_cmp (o_lt (ok.blk)) (sv 1) (sv 2)))))))), gf, T.kp, T.bindsN fun _ _ _ _ _ _ us hl => match us, hl with | [_], _ => rfl⟩
/-! fits_some -/
abbrev st_fits_some : Stmt := top 9
def b_fits_some : MS :=
  (mRet (mAndV (mCall m_is_tuple_of (mACons (mVar 1) (mACons (mK (.int 0)) (mACons (mVar 0) mANil)))) (mAndV (mOp1 gAll (mComp [2] (miSeq (mVar 1)) (.nm 2) mYes (mCall m_is_whole (mACons (mVar 2) (mACons (mK (.int 0)) (mACons (mOp2 fSub (mVar 0) (mK (.int 1))) mANil)))))) (mCall m_is_rising (mACons (mVar 1) mANil)))))
def m_fits_some : Fn := mDef 2 1 b_fits_some
theorem sc_fits_some : FnScope ["many", "value", "one"] ["many", "value"] (defScope st_fits_some) := ⟨rfl, rfl, rfl, by decide +kernel, rfl, by decide +kernel, by decide +kernel⟩
theorem d_fits_some {P : Program} {base : Heap} {g : Gr} {k : Nat} {f : Addr} {fd : FuncData} (T : FunD g.K "fits_some" "fits_some" (defArgs st_fits_some) (defBody st_fits_some) (defScope st_fits_some) [] [] f fd) (gf : g.mg "fits_some" = some (.ref f)) (x : Fx g) (h_is_tuple_of : HasX P base g k "is_tuple_of" m_is_tuple_of) (h_is_whole : HasX P base g k "is_whole" m_is_whole) (h_is_rising : HasX P base g k "is_rising" m_is_rising) : HasX P base g (k + 1) "fits_some" m_fits_some :=
  ⟨f, fd, ["many", "value"], fnOkX T sc_fits_some rfl rfl (fun cd B up t H E ok hr tk => (s_one (s_ret (s_vand (s_fx ok (passes_takes tk) hr h_is_tuple_of (s_acons (sv 1) (s_acons s_int (s_acons (sv 0) s_anil)))) (s_vand (q_b1 (c_all ok) (by exact x.n_all) boot_all (s_lc ok.calm ok.nd (s_it ok.K (sv 1)) (own := [("one", 2)]) (L2.blkOk_by (own := [("one", 2)]) (N := ["many", "value", "one"]) (sc := (defScope st_fits_some)) (by decide +kernel)) (fun _ _ _ _ _ => (g_name (ok.blk).nd (i := 2) rfl (Or.inl rfl))) (fun _ _ _ _ _ => pts0) (fun _ _ _ _ _ => (s_fx (ok.blk) passes0 hr h_is_whole (s_acons (sv 2) (s_acons s_int (s_acons (q_bin (o_sub (ok.blk)) (sv 0) s_int) s_anil))))))) (s_vone (s_fx ok (passes_takes tk) hr h_is_rising (s_acons (sv 1) s_anil)))))))), gf, T.kp, T.bindsN fun _ _ _ _ _ _ us hl => match us, hl with | [_, _], _ => rfl⟩
/-! fits_parts -/
abbrev st_fits_parts : Stmt := top 16
def b_fits_parts : MS :=
  (mRet (mAndV (mCall m_is_tuple_of (mACons (mVar 1) (mACons (mVar 0) (mACons (mVar 0) mANil)))) (mAndV (mOp1 gAll (mComp [2] (miSeq (mVar 1)) (.nm 2) mYes (mCall m_is_whole (mACons (mVar 2) (mACons (mK (.int 0)) (mACons (mK (.int 12)) mANil)))))) (mOp2 fEq (mOp1 gSum (mVar 1)) (mK (.int 12))))))
def m_fits_parts : Fn := mDef 2 1 b_fits_parts
theorem sc_fits_parts : FnScope ["many", "value", "one"] ["many", "value"] (defScope st_fits_parts) := ⟨rfl, rfl, rfl, by decide +kernel, rfl, by decide +kernel, by decide +kernel⟩
theorem d_fits_parts {P : Program} {base : Heap} {g : Gr} {k : Nat} {f : Addr} {fd : FuncData} (T : FunD g.K "fits_parts" "fits_parts" (defArgs st_fits_parts) (defBody st_fits_parts) (defScope st_fits_parts) [] [] f fd) (gf : g.mg "fits_parts" = some (.ref f)) (x : Fx g) (h_is_tuple_of : HasX P base g k "is_tuple_of" m_is_tuple_of) (h_is_whole : HasX P base g k "is_whole" m_is_whole) : HasX P base g (k + 1) "fits_parts" m_fits_parts :=
  ⟨f, fd, ["many", "value"], fnOkX T sc_fits_parts rfl rfl (fun cd B up t H E ok hr tk => (s_one (s_ret (s_vand (s_fx ok (passes_takes tk) hr h_is_tuple_of (s_acons (sv 1) (s_acons (sv 0) (s_acons (sv 0) s_anil)))) (s_vand (q_b1 (c_all ok) (by exact x.n_all) boot_all (s_lc ok.calm ok.nd (s_it ok.K (sv 1)) (own := [("one", 2)]) (L2.blkOk_by (own := [("one", 2)]) (N := ["many", "value", "one"]) (sc := (defScope st_fits_parts)) (by decide +kernel)) (fun _ _ _ _ _ => (g_name (ok.blk).nd (i := 2) rfl (Or.inl rfl))) (fun _ _ _ _ _ => pts0) (fun _ _ _ _ _ => (s_fx (ok.blk) passes0 hr h_is_whole (s_acons (sv 2) (s_acons s_int (s_acons (s_gint rfl x.i_WHOLE) s_anil))))))) (s_vone (q_cmp (o_eq ok) (q_b1 (c_sum ok) (by exact x.n_sum) boot_sum (sv 1)) (s_gint rfl x.i_WHOLE)))))))), gf, T.kp, T.bindsN fun _ _ _ _ _ _ us hl => match us, hl with | [_, _], _ => rfl⟩
/-! fits_weather -/
abbrev st_fits_weather : Stmt := top 17
def b_fits_weather : MS :=
  (mSeq (mIfS (mNot (mB (mCall m_is_tuple_of (mACons (mVar 0) (mACons (mK (.int 1)) (mACons (mK (.int 4)) mANil)))))) (mRet (mK (.bl false))) mSkip)
  (mRet (mOp1 gAll (mComp [1] (miSeq (mVar 0)) (.nm 1) mYes (mCall m_fits_parts (mACons (mOp1 gLen (mVar 0)) (mACons (mVar 1) mANil)))))))
def m_fits_weather : Fn := mDef 1 1 b_fits_weather
theorem sc_fits_weather : FnScope ["value", "row"] ["value"] (defScope st_fits_weather) := ⟨rfl, rfl, rfl, by decide +kernel, rfl, by decide +kernel, by decide +kernel⟩
theorem d_fits_weather {P : Program} {base : Heap} {g : Gr} {k : Nat} {f : Addr} {fd : FuncData} (T : FunD g.K "fits_weather" "fits_weather" (defArgs st_fits_weather) (defBody st_fits_weather) (defScope st_fits_weather) [] [] f fd) (gf : g.mg "fits_weather" = some (.ref f)) (x : Fx g) (h_is_tuple_of : HasX P base g k "is_tuple_of" m_is_tuple_of) (h_fits_parts : HasX P base g k "fits_parts" m_fits_parts) : HasX P base g (k + 1) "fits_weather" m_fits_weather :=
  ⟨f, fd, ["value"], fnOkX T sc_fits_weather rfl rfl (fun cd B up t H E ok hr tk => (s_seq (s_ifS (s_not (s_tst (s_fx ok (passes_takes tk) hr h_is_tuple_of (s_acons (sv 0) (s_acons s_int (s_acons (s_gint rfl x.i_SORTS) s_anil)))))) (s_one (s_ret s_bl)) s_snil)
  (s_one (s_ret (q_b1 (c_all ok) (by exact x.n_all) boot_all (s_lc ok.calm ok.nd (s_it ok.K (sv 0)) (own := [("row", 1)]) (L2.blkOk_by (own := [("row", 1)]) (N := ["value", "row"]) (sc := (defScope st_fits_weather)) (by decide +kernel)) (fun _ _ _ _ _ => (g_name (ok.blk).nd (i := 1) rfl (Or.inl rfl))) (fun _ _ _ _ _ => pts0) (fun _ _ _ _ _ => (s_fx (ok.blk) passes0 hr h_fits_parts (s_acons (q_b1 (c_len (ok.blk)) (by exact x.n_len) boot_len (sv 0)) (s_acons (sv 1) s_anil)))))))))), gf, T.kp, T.bindsN fun _ _ _ _ _ _ us hl => match us, hl with | [_], _ => rfl⟩
/-! need_weather -/
abbrev st_need_weather : Stmt := top 18
def b_need_weather : MS :=
  (mIfS (mNot (mB (mCall m_fits_weather (mACons (mVar 0) mANil)))) (mRaise "InvalidWeather") mSkip)
def m_need_weather : Fn := mDef 1 0 b_need_weather
theorem sc_need_weather : FnScope ["weather"] ["weather"] (defScope st_need_weather) := ⟨rfl, rfl, rfl, by decide +kernel, rfl, by decide +kernel, by decide +kernel⟩
theorem d_need_weather {P : Program} {base : Heap} {g : Gr} {k : Nat} {f : Addr} {fd : FuncData} (T : FunD g.K "need_weather" "need_weather" (defArgs st_need_weather) (defBody st_need_weather) (defScope st_need_weather) [] [] f fd) (gf : g.mg "need_weather" = some (.ref f)) (x : Fx g) (h_fits_weather : HasX P base g k "fits_weather" m_fits_weather) : HasX P base g (k + 1) "need_weather" m_need_weather :=
  ⟨f, fd, ["weather"], fnOkX T sc_need_weather rfl rfl (fun cd B up t H E ok hr tk => (s_one (s_ifS (s_not (s_tst (s_fx ok (passes_takes tk) hr h_fits_weather (s_acons (sv 0) s_anil)))) (s_one (s_raiseN ok tk x.e_InvalidWeather.choose_spec)) s_snil))), gf, T.kp, T.bindsN fun _ _ _ _ _ _ us hl => match us, hl with | [_], _ => rfl⟩
/-! need_sort -/
abbrev st_need_sort : Stmt := top 19
def b_need_sort : MS :=
  (mIfS (mNot (mB (mCall m_is_whole (mACons (mVar 1) (mACons (mK (.int 0)) (mACons (mOp2 fSub (mOp1 gLen (mVar 0)) (mK (.int 1))) mANil)))))) (mRaise "InvalidNumber") mSkip)
def m_need_sort : Fn := mDef 2 0 b_need_sort
theorem sc_need_sort : FnScope ["weather", "sort"] ["weather", "sort"] (defScope st_need_sort) := ⟨rfl, rfl, rfl, by decide +kernel, rfl, by decide +kernel, by decide +kernel⟩
theorem d_need_sort {P : Program} {base : Heap} {g : Gr} {k : Nat} {f : Addr} {fd : FuncData} (T : FunD g.K "need_sort" "need_sort" (defArgs st_need_sort) (defBody st_need_sort) (defScope st_need_sort) [] [] f fd) (gf : g.mg "need_sort" = some (.ref f)) (x : Fx g) (h_is_whole : HasX P base g k "is_whole" m_is_whole) : HasX P base g (k + 1) "need_sort" m_need_sort :=
  ⟨f, fd, ["weather", "sort"], fnOkX T sc_need_sort rfl rfl (fun cd B up t H E ok hr tk => (s_one (s_ifS (s_not (s_tst (s_fx ok (passes_takes tk) hr h_is_whole (s_acons (sv 1) (s_acons s_int (s_acons (q_bin (o_sub ok) (q_b1 (c_len ok) (by exact x.n_len) boot_len (sv 0)) s_int) s_anil)))))) (s_one (s_raiseN ok tk x.e_InvalidNumber.choose_spec)) s_snil))), gf, T.kp, T.bindsN fun _ _ _ _ _ _ us hl => match us, hl with | [_, _], _ => rfl⟩
/-! need_days -/
abbrev st_need_days : Stmt := top 20
def b_need_days : MS :=
  (mIfS (mNot (mB (mCall m_is_whole (mACons (mVar 0) (mACons (mK (.int 0)) (mACons (mK (.int 30)) mANil)))))) (mRaise "InvalidNumber") mSkip)
def m_need_days : Fn := mDef 1 0 b_need_days
theorem sc_need_days : FnScope ["days"] ["days"] (defScope st_need_days) := ⟨rfl, rfl, rfl, by decide +kernel, rfl, by decide +kernel, by decide +kernel⟩
theorem d_need_days {P : Program} {base : Heap} {g : Gr} {k : Nat} {f : Addr} {fd : FuncData} (T : FunD g.K "need_days" "need_days" (defArgs st_need_days) (defBody st_need_days) (defScope st_need_days) [] [] f fd) (gf : g.mg "need_days" = some (.ref f)) (x : Fx g) (h_is_whole : HasX P base g k "is_whole" m_is_whole) : HasX P base g (k + 1) "need_days" m_need_days :=
  ⟨f, fd, ["days"], fnOkX T sc_need_days rfl rfl (fun cd B up t H E ok hr tk => (s_one (s_ifS (s_not (s_tst (s_fx ok (passes_takes tk) hr h_is_whole (s_acons (sv 0) (s_acons s_int (s_acons (s_gint rfl x.i_DAYS) s_anil)))))) (s_one (s_raiseN ok tk x.e_InvalidNumber.choose_spec)) s_snil))), gf, T.kp, T.bindsN fun _ _ _ _ _ _ us hl => match us, hl with | [_], _ => rfl⟩
/-! fits_row -/
abbrev st_fits_row : Stmt := top 21
def b_fits_row : MS :=
  (mRet (mAndV (mCall m_is_tuple_of (mACons (mVar 1) (mACons (mK (.int 0)) (mACons (mK (.int 30)) mANil)))) (mOp1 gAll (mComp [2] (miSeq (mVar 1)) (.nm 2) mYes (mCall m_is_whole (mACons (mVar 2) (mACons (mK (.int 0)) (mACons (mOp2 fSub (mVar 0) (mK (.int 1))) mANil))))))))
def m_fits_row : Fn := mDef 2 1 b_fits_row
theorem sc_fits_row : FnScope ["many", "value", "one"] ["many", "value"] (defScope st_fits_row) := ⟨rfl, rfl, rfl, by decide +kernel, rfl, by decide +kernel, by decide +kernel⟩
theorem d_fits_row {P : Program} {base : Heap} {g : Gr} {k : Nat} {f : Addr} {fd : FuncData} (T : FunD g.K "fits_row" "fits_row" (defArgs st_fits_row) (defBody st_fits_row) (defScope st_fits_row) [] [] f fd) (gf : g.mg "fits_row" = some (.ref f)) (x : Fx g) (h_is_tuple_of : HasX P base g k "is_tuple_of" m_is_tuple_of) (h_is_whole : HasX P base g k "is_whole" m_is_whole) : HasX P base g (k + 1) "fits_row" m_fits_row :=
  ⟨f, fd, ["many", "value"], fnOkX T sc_fits_row rfl rfl (fun cd B up t H E ok hr tk => (s_one (s_ret (s_vand (s_fx ok (passes_takes tk) hr h_is_tuple_of (s_acons (sv 1) (s_acons s_int (s_acons (s_gint rfl x.i_ROW) s_anil)))) (s_vone (q_b1 (c_all ok) (by exact x.n_all) boot_all (s_lc ok.calm ok.nd (s_it ok.K (sv 1)) (own := [("one", 2)]) (L2.blkOk_by (own := [("one", 2)]) (N := ["many", "value", "one"]) (sc := (defScope st_fits_row)) (by decide +kernel)) (fun _ _ _ _ _ => (g_name (ok.blk).nd (i := 2) rfl (Or.inl rfl))) (fun _ _ _ _ _ => pts0) (fun _ _ _ _ _ => (s_fx (ok.blk) passes0 hr h_is_whole (s_acons (sv 2) (s_acons s_int (s_acons (q_bin (o_sub (ok.blk)) (sv 0) s_int) s_anil)))))))))))), gf, T.kp, T.bindsN fun _ _ _ _ _ _ us hl => match us, hl with | [_, _], _ => rfl⟩
/-! need_row -/
abbrev st_need_row : Stmt := top 22
def b_need_row : MS :=
  (mIfS (mNot (mB (mCall m_fits_row (mACons (mOp1 gLen (mVar 0)) (mACons (mVar 1) mANil))))) (mRaise "InvalidWeather") mSkip)
def m_need_row : Fn := mDef 2 0 b_need_row
theorem sc_need_row : FnScope ["weather", "row"] ["weather", "row"] (defScope st_need_row) := ⟨rfl, rfl, rfl, by decide +kernel, rfl, by decide +kernel, by decide +kernel⟩
theorem d_need_row {P : Program} {base : Heap} {g : Gr} {k : Nat} {f : Addr} {fd : FuncData} (T : FunD g.K "need_row" "need_row" (defArgs st_need_row) (defBody st_need_row) (defScope st_need_row) [] [] f fd) (gf : g.mg "need_row" = some (.ref f)) (x : Fx g) (h_fits_row : HasX P base g k "fits_row" m_fits_row) : HasX P base g (k + 1) "need_row" m_need_row :=
  ⟨f, fd, ["weather", "row"], fnOkX T sc_need_row rfl rfl (fun cd B up t H E ok hr tk => (s_one (s_ifS (s_not (s_tst (s_fx ok (passes_takes tk) hr h_fits_row (s_acons (q_b1 (c_len ok) (by exact x.n_len) boot_len (sv 0)) (s_acons (sv 1) s_anil))))) (s_one (s_raiseN ok tk x.e_InvalidWeather.choose_spec)) s_snil))), gf, T.kp, T.bindsN fun _ _ _ _ _ _ us hl => match us, hl with | [_, _], _ => rfl⟩
/-! need_fine -/
abbrev st_need_fine : Stmt := top 23
def b_need_fine : MS :=
  (mIfS (mNot (mB (mCall m_fits_some (mACons (mOp1 gLen (mVar 0)) (mACons (mVar 1) mANil))))) (mRaise "InvalidWeather") mSkip)
def m_need_fine : Fn := mDef 2 0 b_need_fine
theorem sc_need_fine : FnScope ["weather", "fine"] ["weather", "fine"] (defScope st_need_fine) := ⟨rfl, rfl, rfl, by decide +kernel, rfl, by decide +kernel, by decide +kernel⟩
theorem d_need_fine {P : Program} {base : Heap} {g : Gr} {k : Nat} {f : Addr} {fd : FuncData} (T : FunD g.K "need_fine" "need_fine" (defArgs st_need_fine) (defBody st_need_fine) (defScope st_need_fine) [] [] f fd) (gf : g.mg "need_fine" = some (.ref f)) (x : Fx g) (h_fits_some : HasX P base g k "fits_some" m_fits_some) : HasX P base g (k + 1) "need_fine" m_need_fine :=
  ⟨f, fd, ["weather", "fine"], fnOkX T sc_need_fine rfl rfl (fun cd B up t H E ok hr tk => (s_one (s_ifS (s_not (s_tst (s_fx ok (passes_takes tk) hr h_fits_some (s_acons (q_b1 (c_len ok) (by exact x.n_len) boot_len (sv 0)) (s_acons (sv 1) s_anil))))) (s_one (s_raiseN ok tk x.e_InvalidWeather.choose_spec)) s_snil))), gf, T.kp, T.bindsN fun _ _ _ _ _ _ us hl => match us, hl with | [_, _], _ => rfl⟩
/-! power -/
abbrev st_power : Stmt := top 24
def b_power : MS :=
  (mSeq (mSet 2 (mK (.int 1)))
  (mSeq (mFor (miRange1 (mVar 1)) (.nm 3) (mSet 2 (mOp2 fMul (mVar 2) (mVar 0))))
  (mRet (mVar 2))))
def m_power : Fn := mDef 2 2 b_power
theorem sc_power : FnScope ["number", "many", "found", "turn"] ["number", "many"] (defScope st_power) := ⟨rfl, rfl, rfl, by decide +kernel, rfl, by decide +kernel, by decide +kernel⟩
theorem d_power {P : Program} {base : Heap} {g : Gr} {k : Nat} {f : Addr} {fd : FuncData} (T : FunD g.K "power" "power" (defArgs st_power) (defBody st_power) (defScope st_power) [] [] f fd) (gf : g.mg "power" = some (.ref f)) (x : Fx g)  : HasX P base g (k + 1) "power" m_power :=
  ⟨f, fd, ["number", "many"], fnOkX T sc_power rfl rfl (fun cd B up t H E ok hr tk => (s_seq (s_set ok.nd (i := 2) rfl (Or.inl rfl) s_int)
  (s_seq (s_for ok.pass ok.calm (s_range1 rfl (by exact x.n_range) (sv 1)) (g_name ok.nd (i := 3) rfl (Or.inl rfl)) (s_one (s_set ok.nd (i := 2) rfl (Or.inl rfl) (q_bin (o_mul ok) (sv 2) (sv 0)))))
  (s_one (s_ret (sv 2)))))), gf, T.kp, T.bindsN fun _ _ _ _ _ _ us hl => match us, hl with | [_, _], _ => rfl⟩
/-! cut -/
abbrev st_cut : Stmt := top 25
def b_cut : MS :=
  (mSeq (mSet 2 (mOpN fGcd (mCons (mVar 0) (mCons (mVar 1) mNil))))
  (mRet (mTup (mCons (mOp2 fDiv (mVar 0) (mVar 2)) (mCons (mOp2 fDiv (mVar 1) (mVar 2)) mNil)))))
def m_cut : Fn := mDef 2 1 b_cut
theorem sc_cut : FnScope ["ways", "whole", "share"] ["ways", "whole"] (defScope st_cut) := ⟨rfl, rfl, rfl, by decide +kernel, rfl, by decide +kernel, by decide +kernel⟩
theorem d_cut {P : Program} {base : Heap} {g : Gr} {k : Nat} {f : Addr} {fd : FuncData} (T : FunD g.K "cut" "cut" (defArgs st_cut) (defBody st_cut) (defScope st_cut) [] [] f fd) (gf : g.mg "cut" = some (.ref f)) (x : Fx g)  : HasX P base g (k + 1) "cut" m_cut :=
  ⟨f, fd, ["ways", "whole"], fnOkX T sc_cut rfl rfl (fun cd B up t H E ok hr tk => (s_seq (s_set ok.nd (i := 2) rfl (Or.inl rfl) (s_gcd ok x.gcd (s_cons (sv 0) (s_cons (sv 1) s_nil))))
  (s_one (s_ret (s_tup (s_cons (q_bin (o_div ok) (sv 0) (sv 2)) (s_cons (q_bin (o_div ok) (sv 1) (sv 2)) s_nil))))))), gf, T.kp, T.bindsN fun _ _ _ _ _ _ us hl => match us, hl with | [_, _], _ => rfl⟩
/-! added -/
abbrev st_added : Stmt := top 26
def b_added : MS :=
  (mRet (mCall m_cut (mACons (mOp2 fAdd (mOp2 fMul (mOp2 fIx (mVar 0) (mK (.int 0))) (mOp2 fIx (mVar 1) (mK (.int 1)))) (mOp2 fMul (mOp2 fIx (mVar 1) (mK (.int 0))) (mOp2 fIx (mVar 0) (mK (.int 1))))) (mACons (mOp2 fMul (mOp2 fIx (mVar 0) (mK (.int 1))) (mOp2 fIx (mVar 1) (mK (.int 1)))) mANil))))
def m_added : Fn := mDef 2 0 b_added
theorem sc_added : FnScope ["one", "other"] ["one", "other"] (defScope st_added) := ⟨rfl, rfl, rfl, by decide +kernel, rfl, by decide +kernel, by decide +kernel⟩
theorem d_added {P : Program} {base : Heap} {g : Gr} {k : Nat} {f : Addr} {fd : FuncData} (T : FunD g.K "added" "added" (defArgs st_added) (defBody st_added) (defScope st_added) [] [] f fd) (gf : g.mg "added" = some (.ref f)) (x : Fx g) (h_cut : HasX P base g k "cut" m_cut) : HasX P base g (k + 1) "added" m_added :=
  ⟨f, fd, ["one", "other"], fnOkX T sc_added rfl rfl (fun cd B up t H E ok hr tk => (s_one (s_ret (s_fx ok (passes_takes tk) hr h_cut (s_acons (q_bin (o_add ok) (q_bin (o_mul ok) (q_ix ok (sv 0) s_int) (q_ix ok (sv 1) s_int)) (q_bin (o_mul ok) (q_ix ok (sv 1) s_int) (q_ix ok (sv 0) s_int))) (s_acons (q_bin (o_mul ok) (q_ix ok (sv 0) s_int) (q_ix ok (sv 1) s_int)) s_anil)))))), gf, T.kp, T.bindsN fun _ _ _ _ _ _ us hl => match us, hl with | [_, _], _ => rfl⟩
/-! times -/
abbrev st_times : Stmt := top 27
def b_times : MS :=
  (mRet (mCall m_cut (mACons (mOp2 fMul (mOp2 fIx (mVar 0) (mK (.int 0))) (mOp2 fIx (mVar 1) (mK (.int 0)))) (mACons (mOp2 fMul (mOp2 fIx (mVar 0) (mK (.int 1))) (mOp2 fIx (mVar 1) (mK (.int 1)))) mANil))))
def m_times : Fn := mDef 2 0 b_times
theorem sc_times : FnScope ["one", "other"] ["one", "other"] (defScope st_times) := ⟨rfl, rfl, rfl, by decide +kernel, rfl, by decide +kernel, by decide +kernel⟩
theorem d_times {P : Program} {base : Heap} {g : Gr} {k : Nat} {f : Addr} {fd : FuncData} (T : FunD g.K "times" "times" (defArgs st_times) (defBody st_times) (defScope st_times) [] [] f fd) (gf : g.mg "times" = some (.ref f)) (x : Fx g) (h_cut : HasX P base g k "cut" m_cut) : HasX P base g (k + 1) "times" m_times :=
  ⟨f, fd, ["one", "other"], fnOkX T sc_times rfl rfl (fun cd B up t H E ok hr tk => (s_one (s_ret (s_fx ok (passes_takes tk) hr h_cut (s_acons (q_bin (o_mul ok) (q_ix ok (sv 0) s_int) (q_ix ok (sv 1) s_int)) (s_acons (q_bin (o_mul ok) (q_ix ok (sv 0) s_int) (q_ix ok (sv 1) s_int)) s_anil)))))), gf, T.kp, T.bindsN fun _ _ _ _ _ _ us hl => match us, hl with | [_, _], _ => rfl⟩
/-! parted -/
abbrev st_parted : Stmt := top 28
def b_parted : MS :=
  (mRet (mIf (mB (mOp2 fGt (mOp2 fIx (mVar 1) (mK (.int 0))) (mK (.int 0)))) (mCall m_cut (mACons (mOp2 fMul (mOp2 fIx (mVar 0) (mK (.int 0))) (mOp2 fIx (mVar 1) (mK (.int 1)))) (mACons (mOp2 fMul (mOp2 fIx (mVar 0) (mK (.int 1))) (mOp2 fIx (mVar 1) (mK (.int 0)))) mANil))) (mCall m_cut (mACons (mOp2 fMul (mOp1 fNeg (mOp2 fIx (mVar 0) (mK (.int 0)))) (mOp2 fIx (mVar 1) (mK (.int 1)))) (mACons (mOp2 fMul (mOp1 fNeg (mOp2 fIx (mVar 0) (mK (.int 1)))) (mOp2 fIx (mVar 1) (mK (.int 0)))) mANil)))))
def m_parted : Fn := mDef 2 0 b_parted
theorem sc_parted : FnScope ["one", "other"] ["one", "other"] (defScope st_parted) := ⟨rfl, rfl, rfl, by decide +kernel, rfl, by decide +kernel, by decide +kernel⟩
theorem d_parted {P : Program} {base : Heap} {g : Gr} {k : Nat} {f : Addr} {fd : FuncData} (T : FunD g.K "parted" "parted" (defArgs st_parted) (defBody st_parted) (defScope st_parted) [] [] f fd) (gf : g.mg "parted" = some (.ref f)) (x : Fx g) (h_cut : HasX P base g k "cut" m_cut) : HasX P base g (k + 1) "parted" m_parted :=
  ⟨f, fd, ["one", "other"], fnOkX T sc_parted rfl rfl (fun cd B up t H E ok hr tk => (s_one (s_ret (s_if (q_tcmp (o_gt ok) (q_ix ok (sv 1) s_int) s_int) (s_fx ok (passes_takes tk) hr h_cut (s_acons (q_bin (o_mul ok) (q_ix ok (sv 0) s_int) (q_ix ok (sv 1) s_int)) (s_acons (q_bin (o_mul ok) (q_ix ok (sv 0) s_int) (q_ix ok (sv 1) s_int)) s_anil))) (s_fx ok (passes_takes tk) hr h_cut (s_acons (q_bin (o_mul ok) (q_neg ok (q_ix ok (sv 0) s_int)) (q_ix ok (sv 1) s_int)) (s_acons (q_bin (o_mul ok) (q_neg ok (q_ix ok (sv 0) s_int)) (q_ix ok (sv 1) s_int)) s_anil))))))), gf, T.kp, T.bindsN fun _ _ _ _ _ _ us hl => match us, hl with | [_, _], _ => rfl⟩
/-! next_days -/
abbrev st_next_days : Stmt := top 29
def b_next_days : MS :=
  (mRet (mComp [2] (miRange1 (mOp1 gLen (mVar 0))) (.nm 2) mYes (mOp1 gSum (mComp [3] (miRange1 (mOp1 gLen (mVar 0))) (.nm 3) mYes (mOp2 fMul (mOp2 fIx (mVar 1) (mVar 3)) (mOp2 fIx (mOp2 fIx (mVar 0) (mVar 3)) (mVar 2)))))))
def m_next_days : Fn := mDef 2 2 b_next_days
theorem sc_next_days : FnScope ["weather", "line", "other", "one"] ["weather", "line"] (defScope st_next_days) := ⟨rfl, rfl, rfl, by decide +kernel, rfl, by decide +kernel, by decide +kernel⟩
theorem d_next_days {P : Program} {base : Heap} {g : Gr} {k : Nat} {f : Addr} {fd : FuncData} (T : FunD g.K "next_days" "next_days" (defArgs st_next_days) (defBody st_next_days) (defScope st_next_days) [] [] f fd) (gf : g.mg "next_days" = some (.ref f)) (x : Fx g)  : HasX P base g (k + 1) "next_days" m_next_days :=
  ⟨f, fd, ["weather", "line"], fnOkX T sc_next_days rfl rfl (fun cd B up t H E ok hr tk => (s_one (s_ret (s_lc ok.calm ok.nd (s_range1 rfl (by exact x.n_range) (q_b1 (c_len ok) (by exact x.n_len) boot_len (sv 0))) (own := [("other", 2)]) (L2.blkOk_by (own := [("other", 2)]) (N := ["weather", "line", "other", "one"]) (sc := (defScope st_next_days)) (by decide +kernel)) (fun _ _ _ _ _ => (g_name (ok.blk).nd (i := 2) rfl (Or.inr rfl))) (fun _ _ _ _ _ => pts0) (fun _ _ _ _ _ => (q_b1 (c_sum (ok.blk)) (by exact x.n_sum) boot_sum (s_lc (ok.blk).calm (ok.blk).nd (s_range1 rfl (by exact x.n_range) (q_b1 (c_len (ok.blk)) (by exact x.n_len) boot_len (sv 0))) (own := [("one", 3)]) (L2.blkOk_by (own := [("one", 3)]) (by kernel_rfl)) (fun _ _ _ _ _ => (g_name (ok.blk.blk).nd (i := 3) rfl (Or.inl rfl))) (fun _ _ _ _ _ => pts0) (fun _ _ _ _ _ => (q_bin (o_mul (ok.blk.blk)) (q_ix (ok.blk.blk) (sv 1) (sv 3)) (q_ix (ok.blk.blk) (q_ix (ok.blk.blk) (sv 0) (sv 3)) (sv 2))))))))))), gf, T.kp, T.bindsN fun _ _ _ _ _ _ us hl => match us, hl with | [_, _], _ => rfl⟩
/-! line_behind -/
abbrev st_line_behind : Stmt := top 30
def b_line_behind : MS :=
  (mSeq (mSet 3 (mComp [5] (miRange1 (mOp1 gLen (mVar 0))) (.nm 5) mYes (mOp1 gInt (mOp2 fEq (mVar 5) (mVar 1)))))
  (mSeq (mFor (miRange1 (mVar 2)) (.nm 4) (mSet 3 (mCall m_next_days (mACons (mVar 0) (mACons (mVar 3) mANil)))))
  (mRet (mVar 3))))
def m_line_behind : Fn := mDef 3 3 b_line_behind
theorem sc_line_behind : FnScope ["weather", "today", "days", "line", "turn", "sort"] ["weather", "today", "days"] (defScope st_line_behind) := ⟨rfl, rfl, rfl, by decide +kernel, rfl, by decide +kernel, by decide +kernel⟩
theorem d_line_behind {P : Program} {base : Heap} {g : Gr} {k : Nat} {f : Addr} {fd : FuncData} (T : FunD g.K "line_behind" "line_behind" (defArgs st_line_behind) (defBody st_line_behind) (defScope st_line_behind) [] [] f fd) (gf : g.mg "line_behind" = some (.ref f)) (x : Fx g) (h_next_days : HasX P base g k "next_days" m_next_days) : HasX P base g (k + 1) "line_behind" m_line_behind :=
  ⟨f, fd, ["weather", "today", "days"], fnOkX T sc_line_behind rfl rfl (fun cd B up t H E ok hr tk => (s_seq (s_setLc (i := 3) ok.calm ok.nd rfl rfl (L2.sw_true rfl rfl rfl (by decide +kernel)) (s_range1 rfl (by exact x.n_range) (q_b1 (c_len ok) (by exact x.n_len) boot_len (sv 0))) (own := [("sort", 5)]) (L2.blkOk_by (own := [("sort", 5)]) (N := ["weather", "today", "days", "line", "turn", "sort"]) (sc := (defScope st_line_behind)) (by decide +kernel)) (fun _ _ _ _ _ => (g_name (ok.blk).nd (i := 5) rfl (Or.inl rfl))) (fun _ _ _ _ _ => pts0) (fun _ _ _ _ _ => (q_t1 (c_int (ok.blk)) (by exact x.n_int) boot_int (q_cmp (o_eq (ok.blk)) (sv 5) (sv 1)))))
  (s_seq (s_for ok.pass ok.calm (s_range1 rfl (by exact x.n_range) (sv 2)) (g_name ok.nd (i := 4) rfl (Or.inl rfl)) (s_one (s_set ok.nd (i := 3) rfl (Or.inl rfl) (s_fx ok (passes_takes tk) hr h_next_days (s_acons (sv 0) (s_acons (sv 3) s_anil))))))
  (s_one (s_ret (sv 3)))))), gf, T.kp, T.bindsN fun _ _ _ _ _ _ us hl => match us, hl with | [_, _, _], _ => rfl⟩
/-! ways_of -/
abbrev st_ways_of : Stmt := top 31
def b_ways_of : MS :=
  (mSeq (mPar2 3 4 (mK (.int 1)) (mVar 1))
  (mSeq (mFor (miSeq (mVar 2)) (.nm 5) (mPar2 3 4 (mOp2 fMul (mVar 3) (mOp2 fIx (mOp2 fIx (mVar 0) (mVar 4)) (mVar 5))) (mVar 5)))
  (mRet (mVar 3))))
def m_ways_of : Fn := mDef 3 3 b_ways_of
theorem sc_ways_of : FnScope ["weather", "today", "row", "found", "here", "sort"] ["weather", "today", "row"] (defScope st_ways_of) := ⟨rfl, rfl, rfl, by decide +kernel, rfl, by decide +kernel, by decide +kernel⟩
theorem d_ways_of {P : Program} {base : Heap} {g : Gr} {k : Nat} {f : Addr} {fd : FuncData} (T : FunD g.K "ways_of" "ways_of" (defArgs st_ways_of) (defBody st_ways_of) (defScope st_ways_of) [] [] f fd) (gf : g.mg "ways_of" = some (.ref f)) (x : Fx g)  : HasX P base g (k + 1) "ways_of" m_ways_of :=
  ⟨f, fd, ["weather", "today", "row"], fnOkX T sc_ways_of rfl rfl (fun cd B up t H E ok hr tk => (s_seq (s_par2 ok (i := 3) (j := 4) rfl rfl (by decide) rfl rfl s_int (sv 1) (by rfl))
  (s_seq (s_for ok.pass ok.calm (s_it ok.K (sv 2)) (g_name ok.nd (i := 5) rfl (Or.inl rfl)) (s_one (s_par2 ok (i := 3) (j := 4) rfl rfl (by decide) rfl rfl (q_bin (o_mul ok) (sv 3) (q_ix ok (q_ix ok (sv 0) (sv 4)) (sv 5))) (sv 5) (by rfl))))
  (s_one (s_ret (sv 3)))))), gf, T.kp, T.bindsN fun _ _ _ _ _ _ us hl => match us, hl with | [_, _, _], _ => rfl⟩
/-! first_step -/
abbrev st_first_step : Stmt := top 33
def b_first_step : MS :=
  (mSeq (mSet 3 (mComp [4] (miRange1 (mOp1 gLen (mVar 0))) (.nm 4) mYes (mTup (mCons (mOp2 fMul (mOp2 fIx (mOp2 fIx (mVar 0) (mVar 1)) (mVar 4)) (mOp2 fIx (mOp2 fIx (mVar 2) (mVar 4)) (mK (.int 0)))) (mCons (mOp2 fAdd (mTup (mCons (mVar 4) mNil)) (mOp2 fIx (mOp2 fIx (mVar 2) (mVar 4)) (mK (.int 1)))) mNil)))))
  (mRet (mOp1 gMin (mVar 3))))
def m_first_step : Fn := mDef 3 2 b_first_step
theorem sc_first_step : FnScope ["weather", "sort", "best", "rows", "other"] ["weather", "sort", "best"] (defScope st_first_step) := ⟨rfl, rfl, rfl, by decide +kernel, rfl, by decide +kernel, by decide +kernel⟩
theorem d_first_step {P : Program} {base : Heap} {g : Gr} {k : Nat} {f : Addr} {fd : FuncData} (T : FunD g.K "first_step" "first_step" (defArgs st_first_step) (defBody st_first_step) (defScope st_first_step) [] [] f fd) (gf : g.mg "first_step" = some (.ref f)) (x : Fx g)  : HasX P base g (k + 1) "first_step" m_first_step :=
  ⟨f, fd, ["weather", "sort", "best"], fnOkX T sc_first_step rfl rfl (fun cd B up t H E ok hr tk => (s_seq (s_setLc (i := 3) ok.calm ok.nd rfl rfl (L2.sw_true rfl rfl rfl (by decide +kernel)) (s_range1 rfl (by exact x.n_range) (q_b1 (c_len ok) (by exact x.n_len) boot_len (sv 0))) (own := [("other", 4)]) (L2.blkOk_by (own := [("other", 4)]) (N := ["weather", "sort", "best", "rows", "other"]) (sc := (defScope st_first_step)) (by decide +kernel)) (fun _ _ _ _ _ => (g_name (ok.blk).nd (i := 4) rfl (Or.inl rfl))) (fun _ _ _ _ _ => pts0) (fun _ _ _ _ _ => (s_tup (s_cons (q_bin (o_mul (ok.blk)) (q_ix (ok.blk) (q_ix (ok.blk) (sv 0) (sv 1)) (sv 4)) (q_ix (ok.blk) (q_ix (ok.blk) (sv 2) (sv 4)) s_int)) (s_cons (q_bin (o_add (ok.blk)) (s_tup (s_cons (sv 4) s_nil)) (q_ix (ok.blk) (q_ix (ok.blk) (sv 2) (sv 4)) s_int)) s_nil)))))
  (s_one (s_ret (q_b1 (c_min ok) (by exact x.n_min) boot_min (sv 3)))))), gf, T.kp, T.bindsN fun _ _ _ _ _ _ us hl => match us, hl with | [_, _, _], _ => rfl⟩
/-! likeliest_in -/
abbrev st_likeliest_in : Stmt := top 32
def b_likeliest_in : MS :=
  (mSeq (mSet 3 (mComp [5] (miSeq (mVar 0)) (.nm 5) mYes (mTup (mCons (mOp1 fNeg (mK (.int 1))) (mCons (mTup mNil) mNil)))))
  (mSeq (mFor (miRange1 (mVar 2)) (.nm 4) (mSet 3 (mComp [5] (miRange1 (mOp1 gLen (mVar 0))) (.nm 5) mYes (mCall m_first_step (mACons (mVar 0) (mACons (mVar 5) (mACons (mVar 3) mANil)))))))
  (mRet (mOp2 fIx (mVar 3) (mVar 1)))))
def m_likeliest_in : Fn := mDef 3 3 b_likeliest_in
theorem sc_likeliest_in : FnScope ["weather", "today", "days", "best", "turn", "sort"] ["weather", "today", "days"] (defScope st_likeliest_in) := ⟨rfl, rfl, rfl, by decide +kernel, rfl, by decide +kernel, by decide +kernel⟩
theorem d_likeliest_in {P : Program} {base : Heap} {g : Gr} {k : Nat} {f : Addr} {fd : FuncData} (T : FunD g.K "likeliest_in" "likeliest_in" (defArgs st_likeliest_in) (defBody st_likeliest_in) (defScope st_likeliest_in) [] [] f fd) (gf : g.mg "likeliest_in" = some (.ref f)) (x : Fx g) (h_first_step : HasX P base g k "first_step" m_first_step) : HasX P base g (k + 1) "likeliest_in" m_likeliest_in :=
  ⟨f, fd, ["weather", "today", "days"], fnOkX T sc_likeliest_in rfl rfl (fun cd B up t H E ok hr tk => (s_seq (s_set ok.nd (i := 3) rfl (Or.inr rfl) (s_lc ok.calm ok.nd (s_it ok.K (sv 0)) (own := [("sort", 5)]) (L2.blkOk_by (own := [("sort", 5)]) (N := ["weather", "today", "days", "best", "turn", "sort"]) (sc := (defScope st_likeliest_in)) (by decide +kernel)) (fun _ _ _ _ _ => (g_name (ok.blk).nd (i := 5) rfl (Or.inl rfl))) (fun _ _ _ _ _ => pts0) (fun _ _ _ _ _ => (s_tup (s_cons (q_neg (ok.blk) s_int) (s_cons (s_tup s_nil) s_nil))))))
  (s_seq (s_for ok.pass ok.calm (s_range1 rfl (by exact x.n_range) (sv 2)) (g_name ok.nd (i := 4) rfl (Or.inl rfl)) (s_one (s_set ok.nd (i := 3) rfl (Or.inr rfl) (s_lc ok.calm ok.nd (s_range1 rfl (by exact x.n_range) (q_b1 (c_len ok) (by exact x.n_len) boot_len (sv 0))) (own := [("sort", 5)]) (L2.blkOk_by (own := [("sort", 5)]) (N := ["weather", "today", "days", "best", "turn", "sort"]) (sc := (defScope st_likeliest_in)) (by decide +kernel)) (fun _ _ _ _ _ => (g_name (ok.blk).nd (i := 5) rfl (Or.inl rfl))) (fun _ _ _ _ _ => pts0) (fun _ _ _ _ _ => (s_fx (ok.blk) passes0 hr h_first_step (s_acons (sv 0) (s_acons (sv 5) (s_acons (sv 3) s_anil)))))))))
  (s_one (s_ret (q_ix ok (sv 3) (sv 1))))))), gf, T.kp, T.bindsN fun _ _ _ _ _ _ us hl => match us, hl with | [_, _, _], _ => rfl⟩
/-! windows_in -/
abbrev st_windows_in : Stmt := top 34
def b_windows_in : MS :=
  (mSeq (mPar2 5 6 (mDict1 (mTup (mCons (mVar 1) (mCons (mK (.int 0)) mNil))) (mK (.int 1))) (mK (.int 0)))
  (mSeq (mFor (miRange1 (mVar 2)) (.nm 7) (mSeq (mPar2 8 6 mDict0 (mOp2 fMul (mVar 6) (mK (.int 12))))
  (mSeq (mFor (miSeq (mVar 5)) (.tp [(.nm 9), (.nm 10)]) (mFor (miRange1 (mOp1 gLen (mVar 0))) (.nm 11) (mSeq (mSet 12 (mIf (mB (mOp2 fIn (mVar 11) (mVar 3))) (mOp2 fAdd (mVar 10) (mK (.int 1))) (mK (.int 0))))
  (mSeq (mSet 13 (mOp2 fMul (mOp2 fIx (mVar 5) (mTup (mCons (mVar 9) (mCons (mVar 10) mNil)))) (mOp2 fIx (mOp2 fIx (mVar 0) (mVar 9)) (mVar 11))))
  (mIfS (mB (mOp2 fEq (mVar 12) (mVar 4))) (mSet 6 (mOp2 fAdd (mVar 6) (mVar 13))) (mSetIx (mVar 8) (mTup (mCons (mVar 11) (mCons (mVar 12) mNil))) (mOp2 fAdd (mGetD (mVar 8) (mTup (mCons (mVar 11) (mCons (mVar 12) mNil))) (mK (.int 0))) (mVar 13))))))))
  (mSet 5 (mVar 8)))))
  (mRet (mVar 6))))
def m_windows_in : Fn := mDef 5 9 b_windows_in
theorem sc_windows_in : FnScope ["weather", "today", "days", "fine", "length", "line", "done", "turn", "later", "here", "run", "sort", "more", "ways"] ["weather", "today", "days", "fine", "length"] (defScope st_windows_in) := ⟨rfl, rfl, rfl, by decide +kernel, rfl, by decide +kernel, by decide +kernel⟩
theorem d_windows_in {P : Program} {base : Heap} {g : Gr} {k : Nat} {f : Addr} {fd : FuncData} (T : FunD g.K "windows_in" "windows_in" (defArgs st_windows_in) (defBody st_windows_in) (defScope st_windows_in) [] [] f fd) (gf : g.mg "windows_in" = some (.ref f)) (x : Fx g)  : HasX P base g (k + 1) "windows_in" m_windows_in :=
  ⟨f, fd, ["weather", "today", "days", "fine", "length"], fnOkX T sc_windows_in rfl rfl (fun cd B up t H E ok hr tk => (s_seq (s_par2 ok (i := 5) (j := 6) rfl rfl (by decide) rfl rfl (s_dict1 ok (s_tup (s_cons (sv 1) (s_cons s_int s_nil))) s_int) s_int (by rfl))
  (s_seq (s_for ok.pass ok.calm (s_range1 rfl (by exact x.n_range) (sv 2)) (g_name ok.nd (i := 7) rfl (Or.inl rfl)) (s_seq (s_par2 ok (i := 8) (j := 6) rfl rfl (by decide) rfl rfl (s_dict0 ok) (q_bin (o_mul ok) (sv 6) (s_gint rfl x.i_WHOLE)) (by rfl))
  (s_seq (s_for ok.pass ok.calm (s_it ok.K (sv 5)) (g_tup ok.calm (gs_cons (g_name ok.nd (i := 9) rfl (Or.inl rfl)) (gs_cons (g_name ok.nd (i := 10) rfl (Or.inl rfl)) gs_nil)) ok.K) (s_one (s_for ok.pass ok.calm (s_range1 rfl (by exact x.n_range) (q_b1 (c_len ok) (by exact x.n_len) boot_len (sv 0))) (g_name ok.nd (i := 11) rfl (Or.inl rfl)) (s_seq (s_set ok.nd (i := 12) rfl (Or.inl rfl) (s_if (q_tcmp (o_in ok) (sv 11) (sv 3)) (q_bin (o_add ok) (sv 10) s_int) s_int))
  (s_seq (s_set ok.nd (i := 13) rfl (Or.inl rfl) (q_bin (o_mul ok) (q_ix ok (sv 5) (s_tup (s_cons (sv 9) (s_cons (sv 10) s_nil)))) (q_ix ok (q_ix ok (sv 0) (sv 9)) (sv 11))))
  (s_one (s_ifS (q_tcmp (o_eq ok) (sv 12) (sv 4)) (s_one (s_set ok.nd (i := 6) rfl (Or.inl rfl) (q_bin (o_add ok) (sv 6) (sv 13)))) (s_one (s_setix ok (q_bin (o_add ok) (s_get2 ok (sv 8) (s_tup (s_cons (sv 11) (s_cons (sv 12) s_nil))) s_int) (sv 13)) (sv 8) (s_tup (s_cons (sv 11) (s_cons (sv 12) s_nil))))))))))))
  (s_one (s_set ok.nd (i := 5) rfl (Or.inl rfl) (sv 8))))))
  (s_one (s_ret (sv 6)))))), gf, T.kp, T.bindsN fun _ _ _ _ _ _ us hl => match us, hl with | [_, _, _, _, _], _ => rfl⟩
/-! reach_of -/
abbrev st_reach_of : Stmt := top 35
def b_reach_of : MS :=
  (mSeq (mPar2 2 3 (mDict1 (mVar 1) (mK (.bl true))) (mLst (mCons (mVar 1) mNil)))
  (mSeq (mWhile (mB (mOp2 fNe (mVar 3) (mLst mNil))) (mSeq (mSet 4 (mMeth fPop (mVar 3) mNil))
  (mFor (miRange1 (mOp1 gLen (mVar 0))) (.nm 5) (mIfS (mAnd (mB (mOp2 fGt (mOp2 fIx (mOp2 fIx (mVar 0) (mVar 4)) (mVar 5)) (mK (.int 0)))) (mB (mOp2 fNotIn (mVar 5) (mVar 2)))) (mSeq (mSetIx (mVar 2) (mVar 5) (mK (.bl true)))
  (mDrop (mMeth fAppend (mVar 3) (mCons (mVar 5) mNil)))) mSkip))))
  (mRet (mOp1 gSorted (mVar 2)))))
def m_reach_of : Fn := mDef 2 4 b_reach_of
theorem sc_reach_of : FnScope ["weather", "today", "found", "line", "here", "sort"] ["weather", "today"] (defScope st_reach_of) := ⟨rfl, rfl, rfl, by decide +kernel, rfl, by decide +kernel, by decide +kernel⟩
theorem d_reach_of {P : Program} {base : Heap} {g : Gr} {k : Nat} {f : Addr} {fd : FuncData} (T : FunD g.K "reach_of" "reach_of" (defArgs st_reach_of) (defBody st_reach_of) (defScope st_reach_of) [] [] f fd) (gf : g.mg "reach_of" = some (.ref f)) (x : Fx g)  : HasX P base g (k + 1) "reach_of" m_reach_of :=
  ⟨f, fd, ["weather", "today"], fnOkX T sc_reach_of rfl rfl (fun cd B up t H E ok hr tk => (s_seq (s_par2 ok (i := 2) (j := 3) rfl rfl (by decide) rfl rfl (s_dict1 ok (sv 1) s_bl) (s_lst (s_cons (sv 1) s_nil)) (by rfl))
  (s_seq (s_while ok.pass (q_tcmp (o_ne ok) (sv 3) (s_lst s_nil)) (s_seq (s_set ok.nd (i := 4) rfl (Or.inl rfl) (s_pop0 ok (sv 3)))
  (s_one (s_for ok.pass ok.calm (s_range1 rfl (by exact x.n_range) (q_b1 (c_len ok) (by exact x.n_len) boot_len (sv 0))) (g_name ok.nd (i := 5) rfl (Or.inl rfl)) (s_one (s_ifS (q_pw (s_and (q_tcmp (o_gt ok) (q_ix ok (q_ix ok (sv 0) (sv 4)) (sv 5)) s_int) (s_and1 (q_tcmp (o_nin ok) (sv 5) (sv 2))))) (s_seq (s_setix ok s_bl (sv 2) (sv 5))
  (s_one (s_expr (s_append ok (sv 3) (s_cons (sv 5) s_nil))))) s_snil))))))
  (s_one (s_ret (q_b1 (c_sorted ok) (by exact x.n_sorted) boot_sorted (sv 2))))))), gf, T.kp, T.bindsN fun _ _ _ _ _ _ us hl => match us, hl with | [_, _], _ => rfl⟩
/-! solved -/
abbrev st_solved : Stmt := top 36
def b_solved : MS :=
  (mSeq (mSet 2 (mComp [7, 8] (miZip (mVar 0) (mVar 1)) (.tp [(.nm 7), (.nm 8)]) mYes (mOp2 fAdd (mVar 7) (mLst (mCons (mVar 8) mNil)))))
  (mSeq (mFor (miRange1 (mOp1 gLen (mVar 2))) (.nm 3) (mSeq (mSet 4 (mComp [5] (miRange2 (mVar 3) (mOp1 gLen (mVar 2))) (.nm 5) (mB (mOp2 fNe (mOp2 fIx (mOp2 fIx (mOp2 fIx (mVar 2) (mVar 5)) (mVar 3)) (mK (.int 0))) (mK (.int 0)))) (mVar 5)))
  (mSeq (mIfS (mB (mOp2 fEq (mVar 4) (mLst mNil))) (mRet (mK .non)) mSkip)
  (mSeq (mSwap (mVar 2) (mVar 3) (mVar 2) (mOp2 fIx (mVar 4) (mK (.int 0))) (mOp2 fIx (mVar 2) (mOp2 fIx (mVar 4) (mK (.int 0)))) (mOp2 fIx (mVar 2) (mVar 3)))
  (mSeq (mSetIx (mVar 2) (mVar 3) (mComp [9] (miSeq (mOp2 fIx (mVar 2) (mVar 3))) (.nm 9) mYes (mCall m_parted (mACons (mVar 9) (mACons (mOp2 fIx (mOp2 fIx (mVar 2) (mVar 3)) (mVar 3)) mANil)))))
  (mFor (miRange1 (mOp1 gLen (mVar 2))) (.nm 5) (mIfS (mB (mOp2 fNe (mVar 5) (mVar 3))) (mSeq (mSet 6 (mTup (mCons (mOp1 fNeg (mOp2 fIx (mOp2 fIx (mOp2 fIx (mVar 2) (mVar 5)) (mVar 3)) (mK (.int 0)))) (mCons (mOp2 fIx (mOp2 fIx (mOp2 fIx (mVar 2) (mVar 5)) (mVar 3)) (mK (.int 1))) mNil))))
  (mSetIx (mVar 2) (mVar 5) (mComp [9, 10] (miZip (mOp2 fIx (mVar 2) (mVar 5)) (mOp2 fIx (mVar 2) (mVar 3))) (.tp [(.nm 9), (.nm 10)]) mYes (mCall m_added (mACons (mVar 9) (mACons (mCall m_times (mACons (mVar 6) (mACons (mVar 10) mANil))) mANil)))))) mSkip)))))))
  (mRet (mComp [7] (miSeq (mVar 2)) (.nm 7) mYes (mOp2 fIx (mVar 7) (mOp1 fNeg (mK (.int 1))))))))
def m_solved : Fn := mDef 2 9 b_solved
theorem sc_solved : FnScope ["rows", "sides", "table", "at", "good", "by", "share", "row", "side", "one", "two"] ["rows", "sides"] (defScope st_solved) := ⟨rfl, rfl, rfl, by decide +kernel, rfl, by decide +kernel, by decide +kernel⟩
theorem d_solved {P : Program} {base : Heap} {g : Gr} {k : Nat} {f : Addr} {fd : FuncData} (T : FunD g.K "solved" "solved" (defArgs st_solved) (defBody st_solved) (defScope st_solved) [] [] f fd) (gf : g.mg "solved" = some (.ref f)) (x : Fx g) (h_parted : HasX P base g k "parted" m_parted) (h_added : HasX P base g k "added" m_added) (h_times : HasX P base g k "times" m_times) : HasX P base g (k + 1) "solved" m_solved :=
  ⟨f, fd, ["rows", "sides"], fnOkX T sc_solved rfl rfl (fun cd B up t H E ok hr tk => (s_seq (s_set ok.nd (i := 2) rfl (Or.inr rfl) (s_lc ok.calm ok.nd (s_zip ok.K rfl (by exact x.n_zip) (sv 0) (sv 1)) (own := [("row", 7), ("side", 8)]) (L2.blkOk_by (own := [("row", 7), ("side", 8)]) (N := ["rows", "sides", "table", "at", "good", "by", "share", "row", "side", "one", "two"]) (sc := (defScope st_solved)) (by decide +kernel)) (fun _ _ _ _ _ => (g_tup (ok.blk).calm (gs_cons (g_name (ok.blk).nd (i := 7) rfl (Or.inl rfl)) (gs_cons (g_name (ok.blk).nd (i := 8) rfl (Or.inl rfl)) gs_nil)) (ok.blk).K)) (fun _ _ _ _ _ => pts0) (fun _ _ _ _ _ => (q_bin (o_add (ok.blk)) (sv 7) (s_lst (s_cons (sv 8) s_nil))))))
  (s_seq (s_for ok.pass ok.calm (s_range1 rfl (by exact x.n_range) (q_b1 (c_len ok) (by exact x.n_len) boot_len (sv 2))) (g_name ok.nd (i := 3) rfl (Or.inr rfl)) (s_seq (s_setLc (i := 4) ok.calm ok.nd rfl rfl (L2.sw_true rfl rfl rfl (by decide +kernel)) (s_range2 rfl (by exact x.n_range) (sv 3) (q_b1 (c_len ok) (by exact x.n_len) boot_len (sv 2))) (own := [("by", 5)]) (L2.blkOk_by (own := [("by", 5)]) (N := ["rows", "sides", "table", "at", "good", "by", "share", "row", "side", "one", "two"]) (sc := (defScope st_solved)) (by decide +kernel)) (fun _ _ _ _ _ => (g_name (ok.blk).nd (i := 5) rfl (Or.inl rfl))) (fun _ _ _ _ _ => (pts1 (q_tcmp (o_ne (ok.blk)) (q_ix (ok.blk) (q_ix (ok.blk) (q_ix (ok.blk) (sv 2) (sv 5)) (sv 3)) s_int) s_int))) (fun _ _ _ _ _ => (sv 5)))
  (s_seq (s_ifS (q_tcmp (o_eq ok) (sv 4) (s_lst s_nil)) (s_one (s_ret s_non)) s_snil)
  (s_seq (s_swap ok (g_ix ok (sv 2) (sv 3)) (g_ix ok (sv 2) (q_ix ok (sv 4) s_int)) (s_tup (s_cons (q_ix ok (sv 2) (q_ix ok (sv 4) s_int)) (s_cons (q_ix ok (sv 2) (sv 3)) s_nil))))
  (s_seq (s_setix ok (s_lc ok.calm ok.nd (s_it ok.K (q_ix ok (sv 2) (sv 3))) (own := [("one", 9)]) (L2.blkOk_by (own := [("one", 9)]) (N := ["rows", "sides", "table", "at", "good", "by", "share", "row", "side", "one", "two"]) (sc := (defScope st_solved)) (by decide +kernel)) (fun _ _ _ _ _ => (g_name (ok.blk).nd (i := 9) rfl (Or.inl rfl))) (fun _ _ _ _ _ => pts0) (fun _ _ _ _ _ => (s_fx (ok.blk) passes0 hr h_parted (s_acons (sv 9) (s_acons (q_ix (ok.blk) (q_ix (ok.blk) (sv 2) (sv 3)) (sv 3)) s_anil))))) (sv 2) (sv 3))
  (s_one (s_for ok.pass ok.calm (s_range1 rfl (by exact x.n_range) (q_b1 (c_len ok) (by exact x.n_len) boot_len (sv 2))) (g_name ok.nd (i := 5) rfl (Or.inl rfl)) (s_one (s_ifS (q_tcmp (o_ne ok) (sv 5) (sv 3)) (s_seq (s_set ok.nd (i := 6) rfl (Or.inr rfl) (s_tup (s_cons (q_neg ok (q_ix ok (q_ix ok (q_ix ok (sv 2) (sv 5)) (sv 3)) s_int)) (s_cons (q_ix ok (q_ix ok (q_ix ok (sv 2) (sv 5)) (sv 3)) s_int) s_nil))))
  (s_one (s_setix ok (s_lc ok.calm ok.nd (s_zip ok.K rfl (by exact x.n_zip) (q_ix ok (sv 2) (sv 5)) (q_ix ok (sv 2) (sv 3))) (own := [("one", 9), ("two", 10)]) (L2.blkOk_by (own := [("one", 9), ("two", 10)]) (N := ["rows", "sides", "table", "at", "good", "by", "share", "row", "side", "one", "two"]) (sc := (defScope st_solved)) (by decide +kernel)) (fun _ _ _ _ _ => (g_tup (ok.blk).calm (gs_cons (g_name (ok.blk).nd (i := 9) rfl (Or.inl rfl)) (gs_cons (g_name (ok.blk).nd (i := 10) rfl (Or.inl rfl)) gs_nil)) (ok.blk).K)) (fun _ _ _ _ _ => pts0) (fun _ _ _ _ _ => (s_fx (ok.blk) passes0 hr h_added (s_acons (sv 9) (s_acons (s_fx (ok.blk) passes0 hr h_times (s_acons (sv 6) (s_acons (sv 10) s_anil))) s_anil))))) (sv 2) (sv 5)))) s_snil)))))))))
  (s_one (s_ret (s_lc ok.calm ok.nd (s_it ok.K (sv 2)) (own := [("row", 7)]) (L2.blkOk_by (own := [("row", 7)]) (N := ["rows", "sides", "table", "at", "good", "by", "share", "row", "side", "one", "two"]) (sc := (defScope st_solved)) (by decide +kernel)) (fun _ _ _ _ _ => (g_name (ok.blk).nd (i := 7) rfl (Or.inl rfl))) (fun _ _ _ _ _ => pts0) (fun _ _ _ _ _ => (q_ix (ok.blk) (sv 7) (q_neg (ok.blk) s_int))))))))), gf, T.kp, T.bindsN fun _ _ _ _ _ _ us hl => match us, hl with | [_, _], _ => rfl⟩
/-! closed_sorts -/
abbrev st_closed_sorts : Stmt := top 37
def b_closed_sorts : MS :=
  (mSeq (mSet 1 (mLst mNil))
  (mSeq (mFor (miRange1 (mOp1 gLen (mVar 0))) (.nm 2) (mSeq (mSet 3 (mCall m_reach_of (mACons (mVar 0) (mACons (mVar 2) mANil))))
  (mIfS (mAnd (mB (mOp1 gAll (mComp [4] (miSeq (mVar 3)) (.nm 4) mYes (mOp2 fEq (mCall m_reach_of (mACons (mVar 0) (mACons (mVar 4) mANil))) (mVar 3))))) (mB (mOp2 fNotIn (mVar 3) (mVar 1)))) (mDrop (mMeth fAppend (mVar 1) (mCons (mVar 3) mNil))) mSkip)))
  (mRet (mVar 1))))
def m_closed_sorts : Fn := mDef 1 4 b_closed_sorts
theorem sc_closed_sorts : FnScope ["weather", "found", "sort", "lot", "other"] ["weather"] (defScope st_closed_sorts) := ⟨rfl, rfl, rfl, by decide +kernel, rfl, by decide +kernel, by decide +kernel⟩
theorem d_closed_sorts {P : Program} {base : Heap} {g : Gr} {k : Nat} {f : Addr} {fd : FuncData} (T : FunD g.K "closed_sorts" "closed_sorts" (defArgs st_closed_sorts) (defBody st_closed_sorts) (defScope st_closed_sorts) [] [] f fd) (gf : g.mg "closed_sorts" = some (.ref f)) (x : Fx g) (h_reach_of : HasX P base g k "reach_of" m_reach_of) : HasX P base g (k + 1) "closed_sorts" m_closed_sorts :=
  ⟨f, fd, ["weather"], fnOkX T sc_closed_sorts rfl rfl (fun cd B up t H E ok hr tk => (s_seq (s_set ok.nd (i := 1) rfl (Or.inl rfl) (s_lst s_nil))
  (s_seq (s_for ok.pass ok.calm (s_range1 rfl (by exact x.n_range) (q_b1 (c_len ok) (by exact x.n_len) boot_len (sv 0))) (g_name ok.nd (i := 2) rfl (Or.inl rfl)) (s_seq (s_set ok.nd (i := 3) rfl (Or.inr rfl) (s_fx ok (passes_takes tk) hr h_reach_of (s_acons (sv 0) (s_acons (sv 2) s_anil))))
  (s_one (s_ifS (q_pw (s_and (s_tst (q_b1 (c_all ok) (by exact x.n_all) boot_all (s_lc ok.calm ok.nd (s_it ok.K (sv 3)) (own := [("other", 4)]) (L2.blkOk_by (own := [("other", 4)]) (N := ["weather", "found", "sort", "lot", "other"]) (sc := (defScope st_closed_sorts)) (by decide +kernel)) (fun _ _ _ _ _ => (g_name (ok.blk).nd (i := 4) rfl (Or.inl rfl))) (fun _ _ _ _ _ => pts0) (fun _ _ _ _ _ => (q_cmp (o_eq (ok.blk)) (s_fx (ok.blk) passes0 hr h_reach_of (s_acons (sv 0) (s_acons (sv 4) s_anil))) (sv 3)))))) (s_and1 (q_tcmp (o_nin ok) (sv 3) (sv 1))))) (s_one (s_expr (s_append ok (sv 1) (s_cons (sv 3) s_nil)))) s_snil))))
  (s_one (s_ret (sv 1)))))), gf, T.kp, T.bindsN fun _ _ _ _ _ _ us hl => match us, hl with | [_], _ => rfl⟩
/-! is_weather -/
abbrev st_is_weather : Stmt := top 38
def b_is_weather : MS :=
  (mRet (mCall m_fits_weather (mACons (mVar 0) mANil)))
def m_is_weather : Fn := mDef 1 0 b_is_weather
theorem sc_is_weather : FnScope ["value"] ["value"] (defScope st_is_weather) := ⟨rfl, rfl, rfl, by decide +kernel, rfl, by decide +kernel, by decide +kernel⟩
theorem d_is_weather {P : Program} {base : Heap} {g : Gr} {k : Nat} {f : Addr} {fd : FuncData} (T : FunD g.K "is_weather" "is_weather" (defArgs st_is_weather) (defBody st_is_weather) (defScope st_is_weather) [] [] f fd) (gf : g.mg "is_weather" = some (.ref f)) (x : Fx g) (h_fits_weather : HasX P base g k "fits_weather" m_fits_weather) : HasX P base g (k + 1) "is_weather" m_is_weather :=
  ⟨f, fd, ["value"], fnOkX T sc_is_weather rfl rfl (fun cd B up t H E ok hr tk => (s_one (s_ret (s_fx ok (passes_takes tk) hr h_fits_weather (s_acons (sv 0) s_anil))))), gf, T.kp, T.bindsN fun _ _ _ _ _ _ us hl => match us, hl with | [_], _ => rfl⟩
/-! chance_at -/
abbrev st_chance_at : Stmt := top 39
def b_chance_at : MS :=
  (mSeq (mDrop (mCall m_need_weather (mACons (mVar 0) mANil)))
  (mSeq (mDrop (mCall m_need_sort (mACons (mVar 0) (mACons (mVar 1) mANil))))
  (mSeq (mDrop (mCall m_need_days (mACons (mVar 2) mANil)))
  (mSeq (mDrop (mCall m_need_sort (mACons (mVar 0) (mACons (mVar 3) mANil))))
  (mRet (mCall m_cut (mACons (mOp2 fIx (mCall m_line_behind (mACons (mVar 0) (mACons (mVar 1) (mACons (mVar 2) mANil)))) (mVar 3)) (mACons (mCall m_power (mACons (mK (.int 12)) (mACons (mVar 2) mANil))) mANil))))))))
def m_chance_at : Fn := mDef 4 0 b_chance_at
theorem sc_chance_at : FnScope ["weather", "today", "days", "sort"] ["weather", "today", "days", "sort"] (defScope st_chance_at) := ⟨rfl, rfl, rfl, by decide +kernel, rfl, by decide +kernel, by decide +kernel⟩
theorem d_chance_at {P : Program} {base : Heap} {g : Gr} {k : Nat} {f : Addr} {fd : FuncData} (T : FunD g.K "chance_at" "chance_at" (defArgs st_chance_at) (defBody st_chance_at) (defScope st_chance_at) [] [] f fd) (gf : g.mg "chance_at" = some (.ref f)) (x : Fx g) (h_need_weather : HasX P base g k "need_weather" m_need_weather) (h_need_sort : HasX P base g k "need_sort" m_need_sort) (h_need_days : HasX P base g k "need_days" m_need_days) (h_cut : HasX P base g k "cut" m_cut) (h_line_behind : HasX P base g k "line_behind" m_line_behind) (h_power : HasX P base g k "power" m_power) : HasX P base g (k + 1) "chance_at" m_chance_at :=
  ⟨f, fd, ["weather", "today", "days", "sort"], fnOkX T sc_chance_at rfl rfl (fun cd B up t H E ok hr tk => (s_seq (s_expr (s_fx ok (passes_takes tk) hr h_need_weather (s_acons (sv 0) s_anil)))
  (s_seq (s_expr (s_fx ok (passes_takes tk) hr h_need_sort (s_acons (sv 0) (s_acons (sv 1) s_anil))))
  (s_seq (s_expr (s_fx ok (passes_takes tk) hr h_need_days (s_acons (sv 2) s_anil)))
  (s_seq (s_expr (s_fx ok (passes_takes tk) hr h_need_sort (s_acons (sv 0) (s_acons (sv 3) s_anil))))
  (s_one (s_ret (s_fx ok (passes_takes tk) hr h_cut (s_acons (q_ix ok (s_fx ok (passes_takes tk) hr h_line_behind (s_acons (sv 0) (s_acons (sv 1) (s_acons (sv 2) s_anil)))) (sv 3)) (s_acons (s_fx ok (passes_takes tk) hr h_power (s_acons (s_gint rfl x.i_WHOLE) (s_acons (sv 2) s_anil))) s_anil)))))))))), gf, T.kp, T.bindsN fun _ _ _ _ _ _ us hl => match us, hl with | [_, _, _, _], _ => rfl⟩
/-! row_chance -/
abbrev st_row_chance : Stmt := top 40
def b_row_chance : MS :=
  (mSeq (mDrop (mCall m_need_weather (mACons (mVar 0) mANil)))
  (mSeq (mDrop (mCall m_need_sort (mACons (mVar 0) (mACons (mVar 1) mANil))))
  (mSeq (mDrop (mCall m_need_row (mACons (mVar 0) (mACons (mVar 2) mANil))))
  (mRet (mCall m_cut (mACons (mCall m_ways_of (mACons (mVar 0) (mACons (mVar 1) (mACons (mVar 2) mANil)))) (mACons (mCall m_power (mACons (mK (.int 12)) (mACons (mOp1 gLen (mVar 2)) mANil))) mANil)))))))
def m_row_chance : Fn := mDef 3 0 b_row_chance
theorem sc_row_chance : FnScope ["weather", "today", "row"] ["weather", "today", "row"] (defScope st_row_chance) := ⟨rfl, rfl, rfl, by decide +kernel, rfl, by decide +kernel, by decide +kernel⟩
theorem d_row_chance {P : Program} {base : Heap} {g : Gr} {k : Nat} {f : Addr} {fd : FuncData} (T : FunD g.K "row_chance" "row_chance" (defArgs st_row_chance) (defBody st_row_chance) (defScope st_row_chance) [] [] f fd) (gf : g.mg "row_chance" = some (.ref f)) (x : Fx g) (h_need_weather : HasX P base g k "need_weather" m_need_weather) (h_need_sort : HasX P base g k "need_sort" m_need_sort) (h_need_row : HasX P base g k "need_row" m_need_row) (h_cut : HasX P base g k "cut" m_cut) (h_ways_of : HasX P base g k "ways_of" m_ways_of) (h_power : HasX P base g k "power" m_power) : HasX P base g (k + 1) "row_chance" m_row_chance :=
  ⟨f, fd, ["weather", "today", "row"], fnOkX T sc_row_chance rfl rfl (fun cd B up t H E ok hr tk => (s_seq (s_expr (s_fx ok (passes_takes tk) hr h_need_weather (s_acons (sv 0) s_anil)))
  (s_seq (s_expr (s_fx ok (passes_takes tk) hr h_need_sort (s_acons (sv 0) (s_acons (sv 1) s_anil))))
  (s_seq (s_expr (s_fx ok (passes_takes tk) hr h_need_row (s_acons (sv 0) (s_acons (sv 2) s_anil))))
  (s_one (s_ret (s_fx ok (passes_takes tk) hr h_cut (s_acons (s_fx ok (passes_takes tk) hr h_ways_of (s_acons (sv 0) (s_acons (sv 1) (s_acons (sv 2) s_anil)))) (s_acons (s_fx ok (passes_takes tk) hr h_power (s_acons (s_gint rfl x.i_WHOLE) (s_acons (q_b1 (c_len ok) (by exact x.n_len) boot_len (sv 2)) s_anil))) s_anil))))))))), gf, T.kp, T.bindsN fun _ _ _ _ _ _ us hl => match us, hl with | [_, _, _], _ => rfl⟩
/-! likeliest -/
abbrev st_likeliest : Stmt := top 41
def b_likeliest : MS :=
  (mSeq (mDrop (mCall m_need_weather (mACons (mVar 0) mANil)))
  (mSeq (mDrop (mCall m_need_sort (mACons (mVar 0) (mACons (mVar 1) mANil))))
  (mSeq (mDrop (mCall m_need_days (mACons (mVar 2) mANil)))
  (mSeq (mSet 3 (mCall m_likeliest_in (mACons (mVar 0) (mACons (mVar 1) (mACons (mVar 2) mANil)))))
  (mRet (mTup (mCons (mCall m_cut (mACons (mOp1 fNeg (mOp2 fIx (mVar 3) (mK (.int 0)))) (mACons (mCall m_power (mACons (mK (.int 12)) (mACons (mVar 2) mANil))) mANil))) (mCons (mOp2 fIx (mVar 3) (mK (.int 1))) mNil))))))))
def m_likeliest : Fn := mDef 3 1 b_likeliest
theorem sc_likeliest : FnScope ["weather", "today", "days", "found"] ["weather", "today", "days"] (defScope st_likeliest) := ⟨rfl, rfl, rfl, by decide +kernel, rfl, by decide +kernel, by decide +kernel⟩
theorem d_likeliest {P : Program} {base : Heap} {g : Gr} {k : Nat} {f : Addr} {fd : FuncData} (T : FunD g.K "likeliest" "likeliest" (defArgs st_likeliest) (defBody st_likeliest) (defScope st_likeliest) [] [] f fd) (gf : g.mg "likeliest" = some (.ref f)) (x : Fx g) (h_need_weather : HasX P base g k "need_weather" m_need_weather) (h_need_sort : HasX P base g k "need_sort" m_need_sort) (h_need_days : HasX P base g k "need_days" m_need_days) (h_likeliest_in : HasX P base g k "likeliest_in" m_likeliest_in) (h_cut : HasX P base g k "cut" m_cut) (h_power : HasX P base g k "power" m_power) : HasX P base g (k + 1) "likeliest" m_likeliest :=
  ⟨f, fd, ["weather", "today", "days"], fnOkX T sc_likeliest rfl rfl (fun cd B up t H E ok hr tk => (s_seq (s_expr (s_fx ok (passes_takes tk) hr h_need_weather (s_acons (sv 0) s_anil)))
  (s_seq (s_expr (s_fx ok (passes_takes tk) hr h_need_sort (s_acons (sv 0) (s_acons (sv 1) s_anil))))
  (s_seq (s_expr (s_fx ok (passes_takes tk) hr h_need_days (s_acons (sv 2) s_anil)))
  (s_seq (s_set ok.nd (i := 3) rfl (Or.inl rfl) (s_fx ok (passes_takes tk) hr h_likeliest_in (s_acons (sv 0) (s_acons (sv 1) (s_acons (sv 2) s_anil)))))
  (s_one (s_ret (s_tup (s_cons (s_fx ok (passes_takes tk) hr h_cut (s_acons (q_neg ok (q_ix ok (sv 3) s_int)) (s_acons (s_fx ok (passes_takes tk) hr h_power (s_acons (s_gint rfl x.i_WHOLE) (s_acons (sv 2) s_anil))) s_anil))) (s_cons (q_ix ok (sv 3) s_int) s_nil)))))))))), gf, T.kp, T.bindsN fun _ _ _ _ _ _ us hl => match us, hl with | [_, _, _], _ => rfl⟩
/-! can_come -/
abbrev st_can_come : Stmt := top 42
def b_can_come : MS :=
  (mSeq (mDrop (mCall m_need_weather (mACons (mVar 0) mANil)))
  (mSeq (mDrop (mCall m_need_sort (mACons (mVar 0) (mACons (mVar 1) mANil))))
  (mRet (mOp1 gTuple (mCall m_reach_of (mACons (mVar 0) (mACons (mVar 1) mANil)))))))
def m_can_come : Fn := mDef 2 0 b_can_come
theorem sc_can_come : FnScope ["weather", "today"] ["weather", "today"] (defScope st_can_come) := ⟨rfl, rfl, rfl, by decide +kernel, rfl, by decide +kernel, by decide +kernel⟩
theorem d_can_come {P : Program} {base : Heap} {g : Gr} {k : Nat} {f : Addr} {fd : FuncData} (T : FunD g.K "can_come" "can_come" (defArgs st_can_come) (defBody st_can_come) (defScope st_can_come) [] [] f fd) (gf : g.mg "can_come" = some (.ref f)) (x : Fx g) (h_need_weather : HasX P base g k "need_weather" m_need_weather) (h_need_sort : HasX P base g k "need_sort" m_need_sort) (h_reach_of : HasX P base g k "reach_of" m_reach_of) : HasX P base g (k + 1) "can_come" m_can_come :=
  ⟨f, fd, ["weather", "today"], fnOkX T sc_can_come rfl rfl (fun cd B up t H E ok hr tk => (s_seq (s_expr (s_fx ok (passes_takes tk) hr h_need_weather (s_acons (sv 0) s_anil)))
  (s_seq (s_expr (s_fx ok (passes_takes tk) hr h_need_sort (s_acons (sv 0) (s_acons (sv 1) s_anil))))
  (s_one (s_ret (q_t1 (c_tuple ok) (by exact x.n_tuple) boot_tuple (s_fx ok (passes_takes tk) hr h_reach_of (s_acons (sv 0) (s_acons (sv 1) s_anil))))))))), gf, T.kp, T.bindsN fun _ _ _ _ _ _ us hl => match us, hl with | [_, _], _ => rfl⟩
/-! need_length -/
abbrev st_need_length : Stmt := top 44
def b_need_length : MS :=
  (mIfS (mNot (mB (mCall m_is_whole (mACons (mVar 0) (mACons (mK (.int 1)) (mACons (mK (.int 6)) mANil)))))) (mRaise "InvalidNumber") mSkip)
def m_need_length : Fn := mDef 1 0 b_need_length
theorem sc_need_length : FnScope ["length"] ["length"] (defScope st_need_length) := ⟨rfl, rfl, rfl, by decide +kernel, rfl, by decide +kernel, by decide +kernel⟩
theorem d_need_length {P : Program} {base : Heap} {g : Gr} {k : Nat} {f : Addr} {fd : FuncData} (T : FunD g.K "need_length" "need_length" (defArgs st_need_length) (defBody st_need_length) (defScope st_need_length) [] [] f fd) (gf : g.mg "need_length" = some (.ref f)) (x : Fx g) (h_is_whole : HasX P base g k "is_whole" m_is_whole) : HasX P base g (k + 1) "need_length" m_need_length :=
  ⟨f, fd, ["length"], fnOkX T sc_need_length rfl rfl (fun cd B up t H E ok hr tk => (s_one (s_ifS (s_not (s_tst (s_fx ok (passes_takes tk) hr h_is_whole (s_acons (sv 0) (s_acons s_int (s_acons s_int s_anil)))))) (s_one (s_raiseN ok tk x.e_InvalidNumber.choose_spec)) s_snil))), gf, T.kp, T.bindsN fun _ _ _ _ _ _ us hl => match us, hl with | [_], _ => rfl⟩
/-! window_chance -/
abbrev st_window_chance : Stmt := top 43
def b_window_chance : MS :=
  (mSeq (mDrop (mCall m_need_weather (mACons (mVar 0) mANil)))
  (mSeq (mDrop (mCall m_need_sort (mACons (mVar 0) (mACons (mVar 1) mANil))))
  (mSeq (mDrop (mCall m_need_days (mACons (mVar 2) mANil)))
  (mSeq (mDrop (mCall m_need_fine (mACons (mVar 0) (mACons (mVar 3) mANil))))
  (mSeq (mDrop (mCall m_need_length (mACons (mVar 4) mANil)))
  (mRet (mCall m_cut (mACons (mCall m_windows_in (mACons (mVar 0) (mACons (mVar 1) (mACons (mVar 2) (mACons (mVar 3) (mACons (mVar 4) mANil)))))) (mACons (mCall m_power (mACons (mK (.int 12)) (mACons (mVar 2) mANil))) mANil)))))))))
def m_window_chance : Fn := mDef 5 0 b_window_chance
theorem sc_window_chance : FnScope ["weather", "today", "days", "fine", "length"] ["weather", "today", "days", "fine", "length"] (defScope st_window_chance) := ⟨rfl, rfl, rfl, by decide +kernel, rfl, by decide +kernel, by decide +kernel⟩
theorem d_window_chance {P : Program} {base : Heap} {g : Gr} {k : Nat} {f : Addr} {fd : FuncData} (T : FunD g.K "window_chance" "window_chance" (defArgs st_window_chance) (defBody st_window_chance) (defScope st_window_chance) [] [] f fd) (gf : g.mg "window_chance" = some (.ref f)) (x : Fx g) (h_need_weather : HasX P base g k "need_weather" m_need_weather) (h_need_sort : HasX P base g k "need_sort" m_need_sort) (h_need_days : HasX P base g k "need_days" m_need_days) (h_need_fine : HasX P base g k "need_fine" m_need_fine) (h_need_length : HasX P base g k "need_length" m_need_length) (h_cut : HasX P base g k "cut" m_cut) (h_windows_in : HasX P base g k "windows_in" m_windows_in) (h_power : HasX P base g k "power" m_power) : HasX P base g (k + 1) "window_chance" m_window_chance :=
  ⟨f, fd, ["weather", "today", "days", "fine", "length"], fnOkX T sc_window_chance rfl rfl (fun cd B up t H E ok hr tk => (s_seq (s_expr (s_fx ok (passes_takes tk) hr h_need_weather (s_acons (sv 0) s_anil)))
  (s_seq (s_expr (s_fx ok (passes_takes tk) hr h_need_sort (s_acons (sv 0) (s_acons (sv 1) s_anil))))
  (s_seq (s_expr (s_fx ok (passes_takes tk) hr h_need_days (s_acons (sv 2) s_anil)))
  (s_seq (s_expr (s_fx ok (passes_takes tk) hr h_need_fine (s_acons (sv 0) (s_acons (sv 3) s_anil))))
  (s_seq (s_expr (s_fx ok (passes_takes tk) hr h_need_length (s_acons (sv 4) s_anil)))
  (s_one (s_ret (s_fx ok (passes_takes tk) hr h_cut (s_acons (s_fx ok (passes_takes tk) hr h_windows_in (s_acons (sv 0) (s_acons (sv 1) (s_acons (sv 2) (s_acons (sv 3) (s_acons (sv 4) s_anil)))))) (s_acons (s_fx ok (passes_takes tk) hr h_power (s_acons (s_gint rfl x.i_WHOLE) (s_acons (sv 2) s_anil))) s_anil))))))))))), gf, T.kp, T.bindsN fun _ _ _ _ _ _ us hl => match us, hl with | [_, _, _, _, _], _ => rfl⟩
/-! next_state -/
abbrev st_next_state : Stmt := top 46
def b_next_state : MS :=
  (mRet (mTup (mCons (mVar 2) (mCons (mIf (mB (mOp2 fIn (mVar 2) (mVar 0))) (mOp2 fAdd (mOp2 fIx (mVar 1) (mK (.int 1))) (mK (.int 1))) (mK (.int 0))) mNil))))
def m_next_state : Fn := mDef 3 0 b_next_state
theorem sc_next_state : FnScope ["fine", "state", "sort"] ["fine", "state", "sort"] (defScope st_next_state) := ⟨rfl, rfl, rfl, by decide +kernel, rfl, by decide +kernel, by decide +kernel⟩
theorem d_next_state {P : Program} {base : Heap} {g : Gr} {k : Nat} {f : Addr} {fd : FuncData} (T : FunD g.K "next_state" "next_state" (defArgs st_next_state) (defBody st_next_state) (defScope st_next_state) [] [] f fd) (gf : g.mg "next_state" = some (.ref f)) (x : Fx g)  : HasX P base g (k + 1) "next_state" m_next_state :=
  ⟨f, fd, ["fine", "state", "sort"], fnOkX T sc_next_state rfl rfl (fun cd B up t H E ok hr tk => (s_one (s_ret (s_tup (s_cons (sv 2) (s_cons (s_if (q_tcmp (o_in ok) (sv 2) (sv 0)) (q_bin (o_add ok) (q_ix ok (sv 1) s_int) s_int) s_int) s_nil)))))), gf, T.kp, T.bindsN fun _ _ _ _ _ _ us hl => match us, hl with | [_, _, _], _ => rfl⟩
/-! states_of -/
abbrev st_states_of : Stmt := top 48
def b_states_of : MS :=
  (mSeq (mPar2 4 5 (mLst (mCons (mTup (mCons (mVar 1) (mCons (mK (.int 0)) mNil))) mNil)) (mLst (mCons (mTup (mCons (mVar 1) (mCons (mK (.int 0)) mNil))) mNil)))
  (mSeq (mWhile (mB (mOp2 fNe (mVar 5) (mLst mNil))) (mSeq (mSet 6 (mMeth fPop (mVar 5) mNil))
  (mFor (miRange1 (mOp1 gLen (mVar 0))) (.nm 7) (mSeq (mSet 8 (mCall m_next_state (mACons (mVar 2) (mACons (mVar 6) (mACons (mVar 7) mANil)))))
  (mIfS (mAnd (mB (mOp2 fGt (mOp2 fIx (mOp2 fIx (mVar 0) (mOp2 fIx (mVar 6) (mK (.int 0)))) (mVar 7)) (mK (.int 0)))) (mAnd (mB (mOp2 fLt (mOp2 fIx (mVar 8) (mK (.int 1))) (mVar 3))) (mB (mOp2 fNotIn (mVar 8) (mVar 4))))) (mSeq (mDrop (mMeth fAppend (mVar 4) (mCons (mVar 8) mNil)))
  (mDrop (mMeth fAppend (mVar 5) (mCons (mVar 8) mNil)))) mSkip)))))
  (mRet (mVar 4))))
def m_states_of : Fn := mDef 4 5 b_states_of
theorem sc_states_of : FnScope ["weather", "today", "fine", "length", "found", "line", "here", "sort", "there"] ["weather", "today", "fine", "length"] (defScope st_states_of) := ⟨rfl, rfl, rfl, by decide +kernel, rfl, by decide +kernel, by decide +kernel⟩
theorem d_states_of {P : Program} {base : Heap} {g : Gr} {k : Nat} {f : Addr} {fd : FuncData} (T : FunD g.K "states_of" "states_of" (defArgs st_states_of) (defBody st_states_of) (defScope st_states_of) [] [] f fd) (gf : g.mg "states_of" = some (.ref f)) (x : Fx g) (h_next_state : HasX P base g k "next_state" m_next_state) : HasX P base g (k + 1) "states_of" m_states_of :=
  ⟨f, fd, ["weather", "today", "fine", "length"], fnOkX T sc_states_of rfl rfl (fun cd B up t H E ok hr tk => (s_seq (s_par2 ok (i := 4) (j := 5) rfl rfl (by decide) rfl rfl (s_lst (s_cons (s_tup (s_cons (sv 1) (s_cons s_int s_nil))) s_nil)) (s_lst (s_cons (s_tup (s_cons (sv 1) (s_cons s_int s_nil))) s_nil)) (by rfl))
  (s_seq (s_while ok.pass (q_tcmp (o_ne ok) (sv 5) (s_lst s_nil)) (s_seq (s_set ok.nd (i := 6) rfl (Or.inl rfl) (s_pop0 ok (sv 5)))
  (s_one (s_for ok.pass ok.calm (s_range1 rfl (by exact x.n_range) (q_b1 (c_len ok) (by exact x.n_len) boot_len (sv 0))) (g_name ok.nd (i := 7) rfl (Or.inl rfl)) (s_seq (s_set ok.nd (i := 8) rfl (Or.inl rfl) (s_fx ok (passes_takes tk) hr h_next_state (s_acons (sv 2) (s_acons (sv 6) (s_acons (sv 7) s_anil)))))
  (s_one (s_ifS (q_pw (s_and (q_tcmp (o_gt ok) (q_ix ok (q_ix ok (sv 0) (q_ix ok (sv 6) s_int)) (sv 7)) s_int) (s_and (q_tcmp (o_lt ok) (q_ix ok (sv 8) s_int) (sv 3)) (s_and1 (q_tcmp (o_nin ok) (sv 8) (sv 4)))))) (s_seq (s_expr (s_append ok (sv 4) (s_cons (sv 8) s_nil)))
  (s_one (s_expr (s_append ok (sv 5) (s_cons (sv 8) s_nil))))) s_snil)))))))
  (s_one (s_ret (sv 4)))))), gf, T.kp, T.bindsN fun _ _ _ _ _ _ us hl => match us, hl with | [_, _, _, _], _ => rfl⟩
/-! ends_from -/
abbrev st_ends_from : Stmt := top 49
def b_ends_from : MS :=
  (mSeq (mPar2 4 5 (mDict1 (mVar 3) (mK (.bl true))) (mLst (mCons (mVar 3) mNil)))
  (mSeq (mWhile (mB (mOp2 fNe (mVar 5) (mLst mNil))) (mSeq (mSet 6 (mMeth fPop (mVar 5) mNil))
  (mFor (miRange1 (mOp1 gLen (mVar 0))) (.nm 7) (mSeq (mSet 8 (mCall m_next_state (mACons (mVar 1) (mACons (mVar 6) (mACons (mVar 7) mANil)))))
  (mSeq (mIfS (mAnd (mB (mOp2 fGt (mOp2 fIx (mOp2 fIx (mVar 0) (mOp2 fIx (mVar 6) (mK (.int 0)))) (mVar 7)) (mK (.int 0)))) (mB (mOp2 fEq (mOp2 fIx (mVar 8) (mK (.int 1))) (mVar 2)))) (mRet (mK (.bl true))) mSkip)
  (mIfS (mAnd (mB (mOp2 fGt (mOp2 fIx (mOp2 fIx (mVar 0) (mOp2 fIx (mVar 6) (mK (.int 0)))) (mVar 7)) (mK (.int 0)))) (mB (mOp2 fNotIn (mVar 8) (mVar 4)))) (mSeq (mSetIx (mVar 4) (mVar 8) (mK (.bl true)))
  (mDrop (mMeth fAppend (mVar 5) (mCons (mVar 8) mNil)))) mSkip))))))
  (mRet (mK (.bl false)))))
def m_ends_from : Fn := mDef 4 5 b_ends_from
theorem sc_ends_from : FnScope ["weather", "fine", "length", "state", "found", "line", "here", "sort", "there"] ["weather", "fine", "length", "state"] (defScope st_ends_from) := ⟨rfl, rfl, rfl, by decide +kernel, rfl, by decide +kernel, by decide +kernel⟩
theorem d_ends_from {P : Program} {base : Heap} {g : Gr} {k : Nat} {f : Addr} {fd : FuncData} (T : FunD g.K "ends_from" "ends_from" (defArgs st_ends_from) (defBody st_ends_from) (defScope st_ends_from) [] [] f fd) (gf : g.mg "ends_from" = some (.ref f)) (x : Fx g) (h_next_state : HasX P base g k "next_state" m_next_state) : HasX P base g (k + 1) "ends_from" m_ends_from :=
  ⟨f, fd, ["weather", "fine", "length", "state"], fnOkX T sc_ends_from rfl rfl (fun cd B up t H E ok hr tk => (s_seq (s_par2 ok (i := 4) (j := 5) rfl rfl (by decide) rfl rfl (s_dict1 ok (sv 3) s_bl) (s_lst (s_cons (sv 3) s_nil)) (by rfl))
  (s_seq (s_while ok.pass (q_tcmp (o_ne ok) (sv 5) (s_lst s_nil)) (s_seq (s_set ok.nd (i := 6) rfl (Or.inl rfl) (s_pop0 ok (sv 5)))
  (s_one (s_for ok.pass ok.calm (s_range1 rfl (by exact x.n_range) (q_b1 (c_len ok) (by exact x.n_len) boot_len (sv 0))) (g_name ok.nd (i := 7) rfl (Or.inl rfl)) (s_seq (s_set ok.nd (i := 8) rfl (Or.inl rfl) (s_fx ok (passes_takes tk) hr h_next_state (s_acons (sv 1) (s_acons (sv 6) (s_acons (sv 7) s_anil)))))
  (s_seq (s_ifS (q_pw (s_and (q_tcmp (o_gt ok) (q_ix ok (q_ix ok (sv 0) (q_ix ok (sv 6) s_int)) (sv 7)) s_int) (s_and1 (q_tcmp (o_eq ok) (q_ix ok (sv 8) s_int) (sv 2))))) (s_one (s_ret s_bl)) s_snil)
  (s_one (s_ifS (q_pw (s_and (q_tcmp (o_gt ok) (q_ix ok (q_ix ok (sv 0) (q_ix ok (sv 6) s_int)) (sv 7)) s_int) (s_and1 (q_tcmp (o_nin ok) (sv 8) (sv 4))))) (s_seq (s_setix ok s_bl (sv 4) (sv 8))
  (s_one (s_expr (s_append ok (sv 5) (s_cons (sv 8) s_nil))))) s_snil))))))))
  (s_one (s_ret s_bl))))), gf, T.kp, T.bindsN fun _ _ _ _ _ _ us hl => match us, hl with | [_, _, _, _], _ => rfl⟩
/-! ways_to -/
abbrev st_ways_to : Stmt := top 47
def b_ways_to : MS :=
  (mSeq (mSet 4 (mOp2 fIx (mVar 3) (mK (.int 0))))
  (mRet (mIf (mB (mOp2 fEq (mCall m_next_state (mACons (mVar 1) (mACons (mVar 2) (mACons (mVar 4) mANil)))) (mVar 3))) (mOp2 fIx (mOp2 fIx (mVar 0) (mOp2 fIx (mVar 2) (mK (.int 0)))) (mVar 4)) (mK (.int 0)))))
def m_ways_to : Fn := mDef 4 1 b_ways_to
theorem sc_ways_to : FnScope ["weather", "fine", "one", "other", "sort"] ["weather", "fine", "one", "other"] (defScope st_ways_to) := ⟨rfl, rfl, rfl, by decide +kernel, rfl, by decide +kernel, by decide +kernel⟩
theorem d_ways_to {P : Program} {base : Heap} {g : Gr} {k : Nat} {f : Addr} {fd : FuncData} (T : FunD g.K "ways_to" "ways_to" (defArgs st_ways_to) (defBody st_ways_to) (defScope st_ways_to) [] [] f fd) (gf : g.mg "ways_to" = some (.ref f)) (x : Fx g) (h_next_state : HasX P base g k "next_state" m_next_state) : HasX P base g (k + 1) "ways_to" m_ways_to :=
  ⟨f, fd, ["weather", "fine", "one", "other"], fnOkX T sc_ways_to rfl rfl (fun cd B up t H E ok hr tk => (s_seq (s_set ok.nd (i := 4) rfl (Or.inl rfl) (q_ix ok (sv 3) s_int))
  (s_one (s_ret (s_if (q_tcmp (o_eq ok) (s_fx ok (passes_takes tk) hr h_next_state (s_acons (sv 1) (s_acons (sv 2) (s_acons (sv 4) s_anil)))) (sv 3)) (q_ix ok (q_ix ok (sv 0) (q_ix ok (sv 2) s_int)) (sv 4)) s_int))))), gf, T.kp, T.bindsN fun _ _ _ _ _ _ us hl => match us, hl with | [_, _, _, _], _ => rfl⟩
/-! mean_wait -/
abbrev st_mean_wait : Stmt := top 45
def b_mean_wait : MS :=
  (mSeq (mDrop (mCall m_need_weather (mACons (mVar 0) mANil)))
  (mSeq (mDrop (mCall m_need_sort (mACons (mVar 0) (mACons (mVar 1) mANil))))
  (mSeq (mDrop (mCall m_need_fine (mACons (mVar 0) (mACons (mVar 2) mANil))))
  (mSeq (mDrop (mCall m_need_length (mACons (mVar 3) mANil)))
  (mSeq (mSet 4 (mCall m_states_of (mACons (mVar 0) (mACons (mVar 1) (mACons (mVar 2) (mACons (mVar 3) mANil))))))
  (mSeq (mIfS (mB (mOp1 gAny (mComp [7] (miSeq (mVar 4)) (.nm 7) mYes (mNotV (mCall m_ends_from (mACons (mVar 0) (mACons (mVar 2) (mACons (mVar 3) (mACons (mVar 7) mANil))))))))) (mRet (mK .non)) mSkip)
  (mSeq (mSet 5 (mLst mNil))
  (mSeq (mFor (miSeq (mVar 4)) (.nm 6) (mDrop (mMeth fAppend (mVar 5) (mCons (mComp [8] (miSeq (mVar 4)) (.nm 8) mYes (mCall m_cut (mACons (mOp2 fSub (mOp2 fMul (mOp1 gInt (mOp2 fEq (mVar 6) (mVar 8))) (mK (.int 12))) (mCall m_ways_to (mACons (mVar 0) (mACons (mVar 2) (mACons (mVar 6) (mACons (mVar 8) mANil)))))) (mACons (mK (.int 12)) mANil)))) mNil))))
  (mRet (mOp2 fIx (mCall m_solved (mACons (mVar 5) (mACons (mComp [7] (miSeq (mVar 4)) (.nm 7) mYes (mTup (mCons (mK (.int 1)) (mCons (mK (.int 1)) mNil)))) mANil))) (mK (.int 0))))))))))))
def m_mean_wait : Fn := mDef 4 5 b_mean_wait
theorem sc_mean_wait : FnScope ["weather", "today", "fine", "length", "states", "rows", "one", "state", "other"] ["weather", "today", "fine", "length"] (defScope st_mean_wait) := ⟨rfl, rfl, rfl, by decide +kernel, rfl, by decide +kernel, by decide +kernel⟩
theorem d_mean_wait {P : Program} {base : Heap} {g : Gr} {k : Nat} {f : Addr} {fd : FuncData} (T : FunD g.K "mean_wait" "mean_wait" (defArgs st_mean_wait) (defBody st_mean_wait) (defScope st_mean_wait) [] [] f fd) (gf : g.mg "mean_wait" = some (.ref f)) (x : Fx g) (h_need_weather : HasX P base g k "need_weather" m_need_weather) (h_need_sort : HasX P base g k "need_sort" m_need_sort) (h_need_fine : HasX P base g k "need_fine" m_need_fine) (h_need_length : HasX P base g k "need_length" m_need_length) (h_states_of : HasX P base g k "states_of" m_states_of) (h_ends_from : HasX P base g k "ends_from" m_ends_from) (h_cut : HasX P base g k "cut" m_cut) (h_ways_to : HasX P base g k "ways_to" m_ways_to) (h_solved : HasX P base g k "solved" m_solved) : HasX P base g (k + 1) "mean_wait" m_mean_wait :=
  ⟨f, fd, ["weather", "today", "fine", "length"], fnOkX T sc_mean_wait rfl rfl (fun cd B up t H E ok hr tk => (s_seq (s_expr (s_fx ok (passes_takes tk) hr h_need_weather (s_acons (sv 0) s_anil)))
  (s_seq (s_expr (s_fx ok (passes_takes tk) hr h_need_sort (s_acons (sv 0) (s_acons (sv 1) s_anil))))
  (s_seq (s_expr (s_fx ok (passes_takes tk) hr h_need_fine (s_acons (sv 0) (s_acons (sv 2) s_anil))))
  (s_seq (s_expr (s_fx ok (passes_takes tk) hr h_need_length (s_acons (sv 3) s_anil)))
  (s_seq (s_set ok.nd (i := 4) rfl (Or.inl rfl) (s_fx ok (passes_takes tk) hr h_states_of (s_acons (sv 0) (s_acons (sv 1) (s_acons (sv 2) (s_acons (sv 3) s_anil))))))
  (s_seq (s_ifS (s_tst (q_b1 (c_any ok) (by exact x.n_any) boot_any (s_lc ok.calm ok.nd (s_it ok.K (sv 4)) (own := [("state", 7)]) (L2.blkOk_by (own := [("state", 7)]) (N := ["weather", "today", "fine", "length", "states", "rows", "one", "state", "other"]) (sc := (defScope st_mean_wait)) (by decide +kernel)) (fun _ _ _ _ _ => (g_name (ok.blk).nd (i := 7) rfl (Or.inl rfl))) (fun _ _ _ _ _ => pts0) (fun _ _ _ _ _ => (s_vnot (s_fx (ok.blk) passes0 hr h_ends_from (s_acons (sv 0) (s_acons (sv 2) (s_acons (sv 3) (s_acons (sv 7) s_anil)))))))))) (s_one (s_ret s_non)) s_snil)
  (s_seq (s_set ok.nd (i := 5) rfl (Or.inl rfl) (s_lst s_nil))
  (s_seq (s_for ok.pass ok.calm (s_it ok.K (sv 4)) (g_name ok.nd (i := 6) rfl (Or.inr rfl)) (s_one (s_expr (s_append ok (sv 5) (s_cons (s_lc ok.calm ok.nd (s_it ok.K (sv 4)) (own := [("other", 8)]) (L2.blkOk_by (own := [("other", 8)]) (N := ["weather", "today", "fine", "length", "states", "rows", "one", "state", "other"]) (sc := (defScope st_mean_wait)) (by decide +kernel)) (fun _ _ _ _ _ => (g_name (ok.blk).nd (i := 8) rfl (Or.inl rfl))) (fun _ _ _ _ _ => pts0) (fun _ _ _ _ _ => (s_fx (ok.blk) passes0 hr h_cut (s_acons (q_bin (o_sub (ok.blk)) (q_bin (o_mul (ok.blk)) (q_t1 (c_int (ok.blk)) (by exact x.n_int) boot_int (q_cmp (o_eq (ok.blk)) (sv 6) (sv 8))) (s_gint rfl x.i_WHOLE)) (s_fx (ok.blk) passes0 hr h_ways_to (s_acons (sv 0) (s_acons (sv 2) (s_acons (sv 6) (s_acons (sv 8) s_anil)))))) (s_acons (s_gint rfl x.i_WHOLE) s_anil))))) s_nil)))))
  (s_one (s_ret (q_ix ok (s_fx ok (passes_takes tk) hr h_solved (s_acons (sv 5) (s_acons (s_lc ok.calm ok.nd (s_it ok.K (sv 4)) (own := [("state", 7)]) (L2.blkOk_by (own := [("state", 7)]) (N := ["weather", "today", "fine", "length", "states", "rows", "one", "state", "other"]) (sc := (defScope st_mean_wait)) (by decide +kernel)) (fun _ _ _ _ _ => (g_name (ok.blk).nd (i := 7) rfl (Or.inl rfl))) (fun _ _ _ _ _ => pts0) (fun _ _ _ _ _ => (s_tup (s_cons s_int (s_cons s_int s_nil))))) s_anil))) s_int)))))))))))), gf, T.kp, T.bindsN fun _ _ _ _ _ _ us hl => match us, hl with | [_, _, _, _], _ => rfl⟩
/-! lasting -/
abbrev st_lasting : Stmt := top 50
def b_lasting : MS :=
  (mSeq (mDrop (mCall m_need_weather (mACons (mVar 0) mANil)))
  (mSeq (mSet 1 (mOp1 gLen (mVar 0)))
  (mSeq (mIfS (mB (mOp2 fGt (mOp1 gLen (mCall m_closed_sorts (mACons (mVar 0) mANil))) (mK (.int 1)))) (mRet (mK .non)) mSkip)
  (mSeq (mSet 2 (mLst mNil))
  (mSeq (mFor (miRange1 (mOp2 fSub (mVar 1) (mK (.int 1)))) (.nm 3) (mDrop (mMeth fAppend (mVar 2) (mCons (mComp [4] (miRange1 (mVar 1)) (.nm 4) mYes (mCall m_cut (mACons (mOp2 fSub (mOp2 fIx (mOp2 fIx (mVar 0) (mVar 4)) (mVar 3)) (mOp2 fMul (mOp1 gInt (mOp2 fEq (mVar 4) (mVar 3))) (mK (.int 12)))) (mACons (mK (.int 12)) mANil)))) mNil))))
  (mSeq (mDrop (mMeth fAppend (mVar 2) (mCons (mOp2 fMul (mLst (mCons (mTup (mCons (mK (.int 1)) (mCons (mK (.int 1)) mNil))) mNil)) (mVar 1)) mNil)))
  (mRet (mOp1 gTuple (mCall m_solved (mACons (mVar 2) (mACons (mOp2 fAdd (mOp2 fMul (mLst (mCons (mTup (mCons (mK (.int 0)) (mCons (mK (.int 1)) mNil))) mNil)) (mOp2 fSub (mVar 1) (mK (.int 1)))) (mLst (mCons (mTup (mCons (mK (.int 1)) (mCons (mK (.int 1)) mNil))) mNil))) mANil)))))))))))
def m_lasting : Fn := mDef 1 4 b_lasting
theorem sc_lasting : FnScope ["weather", "many", "rows", "other", "one"] ["weather"] (defScope st_lasting) := ⟨rfl, rfl, rfl, by decide +kernel, rfl, by decide +kernel, by decide +kernel⟩
theorem d_lasting {P : Program} {base : Heap} {g : Gr} {k : Nat} {f : Addr} {fd : FuncData} (T : FunD g.K "lasting" "lasting" (defArgs st_lasting) (defBody st_lasting) (defScope st_lasting) [] [] f fd) (gf : g.mg "lasting" = some (.ref f)) (x : Fx g) (h_need_weather : HasX P base g k "need_weather" m_need_weather) (h_closed_sorts : HasX P base g k "closed_sorts" m_closed_sorts) (h_cut : HasX P base g k "cut" m_cut) (h_solved : HasX P base g k "solved" m_solved) : HasX P base g (k + 1) "lasting" m_lasting :=
  ⟨f, fd, ["weather"], fnOkX T sc_lasting rfl rfl (fun cd B up t H E ok hr tk => (s_seq (s_expr (s_fx ok (passes_takes tk) hr h_need_weather (s_acons (sv 0) s_anil)))
  (s_seq (s_set ok.nd (i := 1) rfl (Or.inl rfl) (q_b1 (c_len ok) (by exact x.n_len) boot_len (sv 0)))
  (s_seq (s_ifS (q_tcmp (o_gt ok) (q_b1 (c_len ok) (by exact x.n_len) boot_len (s_fx ok (passes_takes tk) hr h_closed_sorts (s_acons (sv 0) s_anil))) s_int) (s_one (s_ret s_non)) s_snil)
  (s_seq (s_set ok.nd (i := 2) rfl (Or.inl rfl) (s_lst s_nil))
  (s_seq (s_for ok.pass ok.calm (s_range1 rfl (by exact x.n_range) (q_bin (o_sub ok) (sv 1) s_int)) (g_name ok.nd (i := 3) rfl (Or.inr rfl)) (s_one (s_expr (s_append ok (sv 2) (s_cons (s_lc ok.calm ok.nd (s_range1 rfl (by exact x.n_range) (sv 1)) (own := [("one", 4)]) (L2.blkOk_by (own := [("one", 4)]) (N := ["weather", "many", "rows", "other", "one"]) (sc := (defScope st_lasting)) (by decide +kernel)) (fun _ _ _ _ _ => (g_name (ok.blk).nd (i := 4) rfl (Or.inl rfl))) (fun _ _ _ _ _ => pts0) (fun _ _ _ _ _ => (s_fx (ok.blk) passes0 hr h_cut (s_acons (q_bin (o_sub (ok.blk)) (q_ix (ok.blk) (q_ix (ok.blk) (sv 0) (sv 4)) (sv 3)) (q_bin (o_mul (ok.blk)) (q_t1 (c_int (ok.blk)) (by exact x.n_int) boot_int (q_cmp (o_eq (ok.blk)) (sv 4) (sv 3))) (s_gint rfl x.i_WHOLE))) (s_acons (s_gint rfl x.i_WHOLE) s_anil))))) s_nil)))))
  (s_seq (s_expr (s_append ok (sv 2) (s_cons (q_bin (o_mul ok) (s_lst (s_cons (s_tup (s_cons s_int (s_cons s_int s_nil))) s_nil)) (sv 1)) s_nil)))
  (s_one (s_ret (q_t1 (c_tuple ok) (by exact x.n_tuple) boot_tuple (s_fx ok (passes_takes tk) hr h_solved (s_acons (sv 2) (s_acons (q_bin (o_add ok) (q_bin (o_mul ok) (s_lst (s_cons (s_tup (s_cons s_int (s_cons s_int s_nil))) s_nil)) (q_bin (o_sub ok) (sv 1) s_int)) (s_lst (s_cons (s_tup (s_cons s_int (s_cons s_int s_nil))) s_nil))) s_anil))))))))))))), gf, T.kp, T.bindsN fun _ _ _ _ _ _ us hl => match us, hl with | [_], _ => rfl⟩
/-! fits_signs -/
abbrev st_fits_signs : Stmt := top 51
def b_fits_signs : MS :=
  (mSeq (mIfS (mOr (mNot (mB (mCall m_is_tuple_of (mACons (mVar 1) (mACons (mOp1 gLen (mVar 0)) (mACons (mOp1 gLen (mVar 0)) mANil)))))) (mNot (mB (mCall m_is_tuple_of (mACons (mOp2 fIx (mVar 1) (mK (.int 0))) (mACons (mK (.int 1)) (mACons (mK (.int 4)) mANil))))))) (mRet (mK (.bl false))) mSkip)
  (mRet (mOp1 gAll (mComp [2] (miSeq (mVar 1)) (.nm 2) mYes (mCall m_fits_parts (mACons (mOp1 gLen (mOp2 fIx (mVar 1) (mK (.int 0)))) (mACons (mVar 2) mANil)))))))
def m_fits_signs : Fn := mDef 2 1 b_fits_signs
theorem sc_fits_signs : FnScope ["weather", "value", "row"] ["weather", "value"] (defScope st_fits_signs) := ⟨rfl, rfl, rfl, by decide +kernel, rfl, by decide +kernel, by decide +kernel⟩
theorem d_fits_signs {P : Program} {base : Heap} {g : Gr} {k : Nat} {f : Addr} {fd : FuncData} (T : FunD g.K "fits_signs" "fits_signs" (defArgs st_fits_signs) (defBody st_fits_signs) (defScope st_fits_signs) [] [] f fd) (gf : g.mg "fits_signs" = some (.ref f)) (x : Fx g) (h_is_tuple_of : HasX P base g k "is_tuple_of" m_is_tuple_of) (h_fits_parts : HasX P base g k "fits_parts" m_fits_parts) : HasX P base g (k + 1) "fits_signs" m_fits_signs :=
  ⟨f, fd, ["weather", "value"], fnOkX T sc_fits_signs rfl rfl (fun cd B up t H E ok hr tk => (s_seq (s_ifS (q_pw (s_or (s_not (s_tst (s_fx ok (passes_takes tk) hr h_is_tuple_of (s_acons (sv 1) (s_acons (q_b1 (c_len ok) (by exact x.n_len) boot_len (sv 0)) (s_acons (q_b1 (c_len ok) (by exact x.n_len) boot_len (sv 0)) s_anil)))))) (s_or1 (s_not (s_tst (s_fx ok (passes_takes tk) hr h_is_tuple_of (s_acons (q_ix ok (sv 1) s_int) (s_acons s_int (s_acons (s_gint rfl x.i_SIGNS) s_anil))))))))) (s_one (s_ret s_bl)) s_snil)
  (s_one (s_ret (q_b1 (c_all ok) (by exact x.n_all) boot_all (s_lc ok.calm ok.nd (s_it ok.K (sv 1)) (own := [("row", 2)]) (L2.blkOk_by (own := [("row", 2)]) (N := ["weather", "value", "row"]) (sc := (defScope st_fits_signs)) (by decide +kernel)) (fun _ _ _ _ _ => (g_name (ok.blk).nd (i := 2) rfl (Or.inl rfl))) (fun _ _ _ _ _ => pts0) (fun _ _ _ _ _ => (s_fx (ok.blk) passes0 hr h_fits_parts (s_acons (q_b1 (c_len (ok.blk)) (by exact x.n_len) boot_len (q_ix (ok.blk) (sv 1) s_int)) (s_acons (sv 2) s_anil)))))))))), gf, T.kp, T.bindsN fun _ _ _ _ _ _ us hl => match us, hl with | [_, _], _ => rfl⟩
/-! told_by -/
abbrev st_told_by : Stmt := top 52
def b_told_by : MS :=
  (mSeq (mDrop (mCall m_need_weather (mACons (mVar 0) mANil)))
  (mSeq (mDrop (mCall m_need_sort (mACons (mVar 0) (mACons (mVar 1) mANil))))
  (mSeq (mIfS (mNot (mB (mCall m_fits_signs (mACons (mVar 0) (mACons (mVar 2) mANil))))) (mRaise "InvalidWeather") mSkip)
  (mSeq (mIfS (mNot (mB (mCall m_fits_row (mACons (mOp1 gLen (mOp2 fIx (mVar 2) (mK (.int 0)))) (mACons (mVar 3) mANil))))) (mRaise "InvalidWeather") mSkip)
  (mSeq (mSet 4 (mCall m_line_behind (mACons (mVar 0) (mACons (mVar 1) (mACons (mK (.int 0)) mANil)))))
  (mSeq (mFor (miSeq (mVar 3)) (.nm 5) (mSet 4 (mComp [6, 7] (miEnum (mCall m_next_days (mACons (mVar 0) (mACons (mVar 4) mANil)))) (.tp [(.nm 6), (.nm 7)]) mYes (mOp2 fMul (mVar 7) (mOp2 fIx (mOp2 fIx (mVar 2) (mVar 6)) (mVar 5))))))
  (mRet (mIf (mB (mOp2 fGt (mOp1 gSum (mVar 4)) (mK (.int 0)))) (mOp1 gTuple (mComp [7] (miSeq (mVar 4)) (.nm 7) mYes (mCall m_cut (mACons (mVar 7) (mACons (mOp1 gSum (mVar 4)) mANil))))) (mK .non)))))))))
def m_told_by : Fn := mDef 4 4 b_told_by
theorem sc_told_by : FnScope ["weather", "today", "signs", "seen", "line", "sign", "sort", "ways"] ["weather", "today", "signs", "seen"] (defScope st_told_by) := ⟨rfl, rfl, rfl, by decide +kernel, rfl, by decide +kernel, by decide +kernel⟩
theorem d_told_by {P : Program} {base : Heap} {g : Gr} {k : Nat} {f : Addr} {fd : FuncData} (T : FunD g.K "told_by" "told_by" (defArgs st_told_by) (defBody st_told_by) (defScope st_told_by) [] [] f fd) (gf : g.mg "told_by" = some (.ref f)) (x : Fx g) (h_need_weather : HasX P base g k "need_weather" m_need_weather) (h_need_sort : HasX P base g k "need_sort" m_need_sort) (h_fits_signs : HasX P base g k "fits_signs" m_fits_signs) (h_fits_row : HasX P base g k "fits_row" m_fits_row) (h_line_behind : HasX P base g k "line_behind" m_line_behind) (h_next_days : HasX P base g k "next_days" m_next_days) (h_cut : HasX P base g k "cut" m_cut) : HasX P base g (k + 1) "told_by" m_told_by :=
  ⟨f, fd, ["weather", "today", "signs", "seen"], fnOkX T sc_told_by rfl rfl (fun cd B up t H E ok hr tk => (s_seq (s_expr (s_fx ok (passes_takes tk) hr h_need_weather (s_acons (sv 0) s_anil)))
  (s_seq (s_expr (s_fx ok (passes_takes tk) hr h_need_sort (s_acons (sv 0) (s_acons (sv 1) s_anil))))
  (s_seq (s_ifS (s_not (s_tst (s_fx ok (passes_takes tk) hr h_fits_signs (s_acons (sv 0) (s_acons (sv 2) s_anil))))) (s_one (s_raiseN ok tk x.e_InvalidWeather.choose_spec)) s_snil)
  (s_seq (s_ifS (s_not (s_tst (s_fx ok (passes_takes tk) hr h_fits_row (s_acons (q_b1 (c_len ok) (by exact x.n_len) boot_len (q_ix ok (sv 2) s_int)) (s_acons (sv 3) s_anil))))) (s_one (s_raiseN ok tk x.e_InvalidWeather.choose_spec)) s_snil)
  (s_seq (s_set ok.nd (i := 4) rfl (Or.inr rfl) (s_fx ok (passes_takes tk) hr h_line_behind (s_acons (sv 0) (s_acons (sv 1) (s_acons s_int s_anil)))))
  (s_seq (s_for ok.pass ok.calm (s_it ok.K (sv 3)) (g_name ok.nd (i := 5) rfl (Or.inr rfl)) (s_one (s_set ok.nd (i := 4) rfl (Or.inr rfl) (s_lc ok.calm ok.nd (s_enum ok.K rfl (by exact x.n_enumerate) (s_fx ok (passes_takes tk) hr h_next_days (s_acons (sv 0) (s_acons (sv 4) s_anil)))) (own := [("sort", 6), ("ways", 7)]) (L2.blkOk_by (own := [("sort", 6), ("ways", 7)]) (N := ["weather", "today", "signs", "seen", "line", "sign", "sort", "ways"]) (sc := (defScope st_told_by)) (by decide +kernel)) (fun _ _ _ _ _ => (g_tup (ok.blk).calm (gs_cons (g_name (ok.blk).nd (i := 6) rfl (Or.inl rfl)) (gs_cons (g_name (ok.blk).nd (i := 7) rfl (Or.inl rfl)) gs_nil)) (ok.blk).K)) (fun _ _ _ _ _ => pts0) (fun _ _ _ _ _ => (q_bin (o_mul (ok.blk)) (sv 7) (q_ix (ok.blk) (q_ix (ok.blk) (sv 2) (sv 6)) (sv 5))))))))
  (s_one (s_ret (s_if (q_tcmp (o_gt ok) (q_b1 (c_sum ok) (by exact x.n_sum) boot_sum (sv 4)) s_int) (q_t1 (c_tuple ok) (by exact x.n_tuple) boot_tuple (s_lc ok.calm ok.nd (s_it ok.K (sv 4)) (own := [("ways", 7)]) (L2.blkOk_by (own := [("ways", 7)]) (N := ["weather", "today", "signs", "seen", "line", "sign", "sort", "ways"]) (sc := (defScope st_told_by)) (by decide +kernel)) (fun _ _ _ _ _ => (g_name (ok.blk).nd (i := 7) rfl (Or.inl rfl))) (fun _ _ _ _ _ => pts0) (fun _ _ _ _ _ => (s_fx (ok.blk) passes0 hr h_cut (s_acons (sv 7) (s_acons (q_b1 (c_sum (ok.blk)) (by exact x.n_sum) boot_sum (sv 4)) s_anil)))))) s_non)))))))))), gf, T.kp, T.bindsN fun _ _ _ _ _ _ us hl => match us, hl with | [_, _, _, _], _ => rfl⟩
/-! _law_cup -/
abbrev st__law_cup : Stmt := top 54
def b__law_cup : MS :=
  (mSeq (mSet 1 (mOp1 gAbs (mOp2 fIx (mOp2 fAdd (mOp1 gList (mVar 0)) (mLst (mCons (mK (.int 0)) mNil))) (mK (.int 0)))))
  (mRet (mLst (mCons (mIf (mB (mOp2 fGe (mVar 1) (mOp2 fPow (mK (.int 10)) (mK (.int 18))))) (mOp2 fDiv (mVar 1) (mK (.int 107))) (mK (.int 0))) (mCons (mOp2 fAdd (mOp2 fMod (mOp1 gInt (mOp2 fAdd (mOp2 fMul (mVar 1) (mK (.int 353))) (mK (.int 4079)))) (mK (.int 2077503199))) (mK (.int 193))) mNil)))))
def m__law_cup : Fn := mDef 1 1 b__law_cup
theorem sc__law_cup : FnScope ["script", "cell"] ["script"] (defScope st__law_cup) := ⟨rfl, rfl, rfl, by decide +kernel, rfl, by decide +kernel, by decide +kernel⟩
theorem d__law_cup {P : Program} {base : Heap} {g : Gr} {k : Nat} {f : Addr} {fd : FuncData} (T : FunD g.K "_law_cup" "_law_cup" (defArgs st__law_cup) (defBody st__law_cup) (defScope st__law_cup) [] [] f fd) (gf : g.mg "_law_cup" = some (.ref f)) (x : Fx g)  : HasX P base g (k + 1) "_law_cup" m__law_cup :=
  ⟨f, fd, ["script"], fnOkX T sc__law_cup rfl rfl (fun cd B up t H E ok hr tk => (s_seq (s_set ok.nd (i := 1) rfl (Or.inl rfl) (q_b1 (c_abs ok) (by exact x.n_abs) boot_abs (q_ix ok (q_bin (o_add ok) (q_t1 (c_list ok) (by exact x.n_list) boot_list (sv 0)) (s_lst (s_cons s_int s_nil))) s_int)))
  (s_one (s_ret (s_lst (s_cons (s_if (q_tcmp (o_ge ok) (sv 1) (q_bin (o_pow ok) s_int s_int)) (q_bin (o_div ok) (sv 1) s_int) s_int) (s_cons (q_bin (o_add ok) (q_bin (o_mod ok) (q_t1 (c_int ok) (by exact x.n_int) boot_int (q_bin (o_add ok) (q_bin (o_mul ok) (sv 1) s_int) s_int)) s_int) s_int) s_nil))))))), gf, T.kp, T.bindsN fun _ _ _ _ _ _ us hl => match us, hl with | [_], _ => rfl⟩
/-! _law_roll -/
abbrev st__law_roll : Stmt := top 55
def t__law_roll : MS :=
  (mSeq (mSetIx (mVar 0) (mK (.int 1)) (mOp2 fMod (mOp1 gInt (mOp2 fAdd (mOp2 fMul (mOp2 fIx (mVar 0) (mK (.int 1))) (mK (.int 30971))) (mK (.int 7937)))) (mK (.int 2147483399))))
  (mSeq (mSet 3 (mOp2 fMod (mOp1 gInt (mOp2 fMul (mOp2 fIx (mVar 0) (mK (.int 1))) (mOp2 fAdd (mOp2 fIx (mVar 0) (mK (.int 1))) (mK (.int 269))))) (mK (.int 2147483563))))
  (mRet (mOp2 fMod (mOp1 gInt (mOp2 fDiv (mVar 3) (mK (.int 857)))) (mVar 1)))))
def b__law_roll : MS :=
  (mSeq (mIfS (mB (mOp2 fGt (mOp2 fIx (mVar 0) (mK (.int 0))) (mK (.int 0)))) (mSeq (mSet 2 (mOp2 fMod (mOp1 gInt (mOp2 fIx (mVar 0) (mK (.int 0)))) (mVar 1)))
  (mSeq (mSetIx (mVar 0) (mK (.int 0)) (mOp2 fDiv (mOp2 fIx (mVar 0) (mK (.int 0))) (mVar 1)))
  (mRet (mVar 2)))) mSkip) t__law_roll)
def m__law_roll : Fn := mDef 2 2 b__law_roll
theorem sc__law_roll : FnScope ["cup", "many", "found", "deep"] ["cup", "many"] (defScope st__law_roll) := ⟨rfl, rfl, rfl, by decide +kernel, rfl, by decide +kernel, by decide +kernel⟩
theorem d__law_roll {P : Program} {base : Heap} {g : Gr} {k : Nat} {f : Addr} {fd : FuncData} (T : FunD g.K "_law_roll" "_law_roll" (defArgs st__law_roll) (defBody st__law_roll) (defScope st__law_roll) [] [] f fd) (gf : g.mg "_law_roll" = some (.ref f)) (x : Fx g)  : HasX P base g (k + 1) "_law_roll" m__law_roll :=
  ⟨f, fd, ["cup", "many"], fnOkX T sc__law_roll rfl rfl (fun cd B up t H E ok hr tk => (s_seq (s_ifS (q_tcmp (o_gt ok) (q_ix ok (sv 0) s_int) s_int) (s_seq (s_set ok.nd (i := 2) rfl (Or.inl rfl) (q_bin (o_mod ok) (q_t1 (c_int ok) (by exact x.n_int) boot_int (q_ix ok (sv 0) s_int)) (sv 1)))
  (s_seq (s_setix ok (q_bin (o_div ok) (q_ix ok (sv 0) s_int) (sv 1)) (sv 0) s_int)
  (s_one (s_ret (sv 2))))) s_snil)
  (s_seq (s_setix ok (q_bin (o_mod ok) (q_t1 (c_int ok) (by exact x.n_int) boot_int (q_bin (o_add ok) (q_bin (o_mul ok) (q_ix ok (sv 0) s_int) s_int) s_int)) s_int) (sv 0) s_int)
  (s_seq (s_set ok.nd (i := 3) rfl (Or.inl rfl) (q_bin (o_mod ok) (q_t1 (c_int ok) (by exact x.n_int) boot_int (q_bin (o_mul ok) (q_ix ok (sv 0) s_int) (q_bin (o_add ok) (q_ix ok (sv 0) s_int) s_int))) s_int))
  (s_one (s_ret (q_bin (o_mod ok) (q_t1 (c_int ok) (by exact x.n_int) boot_int (q_bin (o_div ok) (sv 3) s_int)) (sv 1)))))))), gf, T.kp, T.bindsN fun _ _ _ _ _ _ us hl => match us, hl with | [_, _], _ => rfl⟩
/-! _law_words -/
abbrev st__law_words : Stmt := top 57
def t__law_words : MS :=
  (mSeq (mDrop (mMeth fAppend (mVar 5) (mCons (mWord W_word (mCall m_likeliest (mACons (mVar 0) (mACons (mVar 1) (mACons (mVar 2) mANil))))) mNil)))
  (mSeq (mDrop (mMeth fAppend (mVar 5) (mCons (mWord W_word (mCall m_window_chance (mACons (mVar 0) (mACons (mVar 1) (mACons (mVar 2) (mACons (mVar 3) (mACons (mVar 4) mANil))))))) mNil)))
  (mRet (mOp2 fAdd (mVar 5) (mLst (mCons (mWord W_word (mCall m_mean_wait (mACons (mVar 0) (mACons (mVar 1) (mACons (mVar 3) (mACons (mVar 4) mANil)))))) mNil))))))
def b__law_words : MS :=
  (mSeq (mSet 5 (mLst (mCons (mWord W_word (mCall m_can_come (mACons (mVar 0) (mACons (mVar 1) mANil)))) mNil))) t__law_words)
def m__law_words : Fn := mDef 5 1 b__law_words
theorem sc__law_words : FnScope ["weather", "today", "days", "fine", "length", "words"] ["weather", "today", "days", "fine", "length"] (defScope st__law_words) := ⟨rfl, rfl, rfl, by decide +kernel, rfl, by decide +kernel, by decide +kernel⟩
theorem d__law_words {P : Program} {base : Heap} {g : Gr} {k : Nat} {f : Addr} {fd : FuncData} (T : FunD g.K "_law_words" "_law_words" (defArgs st__law_words) (defBody st__law_words) (defScope st__law_words) [] [] f fd) (gf : g.mg "_law_words" = some (.ref f)) (x : Fx g) (lm : LamD g base ("_law_words" ++ ".<locals>." ++ "<lambda>") fd) (wd : WordX g P base "_law_word" W_word) (h_can_come : HasX P base g k "can_come" m_can_come) (h_likeliest : HasX P base g k "likeliest" m_likeliest) (h_window_chance : HasX P base g k "window_chance" m_window_chance) (h_mean_wait : HasX P base g k "mean_wait" m_mean_wait) : HasX P base g (k + 6) "_law_words" m__law_words :=
  ⟨f, fd, ["weather", "today", "days", "fine", "length"], fnOkL T sc__law_words rfl rfl lm (fun c Tb TB hmT hu B up t H E ok hr tk => (s_seq (s_set ok.nd (i := 5) rfl (Or.inl rfl) (s_lst (s_cons (s_wordX (k := k + 2) ok hr wd TB rfl hmT hu (fun A outer s H E f c' ok hr tk => (s_fx ok (passes_takes tk) hr (h_can_come.mono (by omega)) (s_acons (sv 0) (s_acons (sv 1) s_anil))))) s_nil)))
  (s_seq (s_expr (s_append ok (sv 5) (s_cons (s_wordX (k := k + 2) ok hr wd TB rfl hmT hu (fun A outer s H E f c' ok hr tk => (s_fx ok (passes_takes tk) hr (h_likeliest.mono (by omega)) (s_acons (sv 0) (s_acons (sv 1) (s_acons (sv 2) s_anil)))))) s_nil)))
  (s_seq (s_expr (s_append ok (sv 5) (s_cons (s_wordX (k := k + 2) ok hr wd TB rfl hmT hu (fun A outer s H E f c' ok hr tk => (s_fx ok (passes_takes tk) hr (h_window_chance.mono (by omega)) (s_acons (sv 0) (s_acons (sv 1) (s_acons (sv 2) (s_acons (sv 3) (s_acons (sv 4) s_anil)))))))) s_nil)))
  (s_one (s_ret (q_bin (o_add ok) (sv 5) (s_lst (s_cons (s_wordX (k := k + 2) ok hr wd TB rfl hmT hu (fun A outer s H E f c' ok hr tk => (s_fx ok (passes_takes tk) hr (h_mean_wait.mono (by omega)) (s_acons (sv 0) (s_acons (sv 1) (s_acons (sv 3) (s_acons (sv 4) s_anil))))))) s_nil))))))))), gf, T.kp, T.bindsN fun _ _ _ _ _ _ us hl => match us, hl with | [_, _, _, _, _], _ => rfl⟩
/-! _law_days_right -/
abbrev st__law_days_right : Stmt := top 58
def t__law_days_right : MS :=
  (mSeq (mSet 2 (mOp2 fMul (mTup (mCons (mOp2 fAdd (mTup (mCons (mK (.int 12)) mNil)) (mOp2 fMul (mTup (mCons (mK (.int 0)) mNil)) (mOp2 fSub (mVar 1) (mK (.int 1))))) mNil)) (mVar 1)))
  (mSeq (mFor (miSeq (mTup (mCons (mK .non) (mCons (mTup mNil) (mCons (mOp1 gList (mVar 2)) (mCons (mTup (mCons (mTup (mCons (mK (.int 11)) mNil)) mNil)) (mCons (mTup (mCons (mTup (mCons (mK (.int 12)) (mCons (mK (.int 0)) mNil))) mNil)) (mCons (mTup (mCons (mTup (mCons (mK (.bl true)) mNil)) mNil)) (mCons (mTup (mCons (mTup (mCons (mK (.int 12)) (mCons (mK (.int 0)) mNil))) (mCons (mTup (mCons (mK (.int 13)) (mCons (mOp1 fNeg (mK (.int 1))) mNil))) mNil))) (mCons (mOp2 fMul (mTup (mCons (mTup (mCons (mK (.int 12)) (mCons (mK (.int 0)) (mCons (mK (.int 0)) (mCons (mK (.int 0)) (mCons (mK (.int 0)) mNil)))))) mNil)) (mK (.int 5))) (mCons (mK (.int 5)) mNil))))))))))) (.nm 3) (mSeq (mSet 4 (mLst (mCons (mWord W_word (mCall m_lasting (mACons (mVar 3) mANil))) mNil)))
  (mSeq (mDrop (mMeth fAppend (mVar 4) (mCons (mWord W_word (mCall m_chance_at (mACons (mVar 3) (mACons (mK .non) (mACons (mK .non) (mACons (mK .non) mANil)))))) mNil)))
  (mSeq (mDrop (mMeth fAppend (mVar 4) (mCons (mWord W_word (mCall m_row_chance (mACons (mVar 3) (mACons (mK .non) (mACons (mK .non) mANil))))) mNil)))
  (mSeq (mDrop (mMeth fAppend (mVar 4) (mCons (mWord W_word (mCall m_told_by (mACons (mVar 3) (mACons (mK .non) (mACons (mK .non) (mACons (mK .non) mANil)))))) mNil)))
  (mIfS (mOr (mB (mOp2 fNe (mOp2 fAdd (mVar 4) (mCall m__law_words (mACons (mVar 3) (mACons (mK .non) (mACons (mK .non) (mACons (mK .non) (mACons (mK .non) mANil))))))) (mOp2 fMul (mLst (mCons (mK (.str "weather")) mNil)) (mK (.int 8))))) (mB (mOp2 fIsN (mCall m_is_weather (mACons (mVar 3) mANil)) (mK (.bl false))))) (mRet (mK (.bl false))) mSkip))))))
  (mSeq (mFor (miSeq (mTup (mCons (mK .non) (mCons (mOp1 fNeg (mK (.int 1))) (mCons (mVar 1) (mCons (mK (.bl true)) (mCons (mK (.str "0")) (mCons (mTup (mCons (mK (.int 0)) mNil)) mNil)))))))) (.nm 3) (mSeq (mSet 4 (mLst (mCons (mWord W_word (mCall m_chance_at (mACons (mVar 2) (mACons (mVar 3) (mACons (mK .non) (mACons (mK .non) mANil)))))) mNil)))
  (mSeq (mDrop (mMeth fAppend (mVar 4) (mCons (mWord W_word (mCall m_row_chance (mACons (mVar 2) (mACons (mVar 3) (mACons (mK .non) mANil))))) mNil)))
  (mSeq (mDrop (mMeth fAppend (mVar 4) (mCons (mWord W_word (mCall m_told_by (mACons (mVar 2) (mACons (mVar 3) (mACons (mK .non) (mACons (mK .non) mANil)))))) mNil)))
  (mSeq (mDrop (mMeth fAppend (mVar 4) (mCons (mWord W_word (mCall m_chance_at (mACons (mVar 2) (mACons (mK (.int 0)) (mACons (mK (.int 1)) (mACons (mVar 3) mANil)))))) mNil)))
  (mIfS (mB (mOp2 fNe (mOp2 fAdd (mVar 4) (mCall m__law_words (mACons (mVar 2) (mACons (mVar 3) (mACons (mK .non) (mACons (mK .non) (mACons (mK .non) mANil))))))) (mOp2 fMul (mLst (mCons (mK (.str "number")) mNil)) (mK (.int 8))))) (mRet (mK (.bl false))) mSkip))))))
  (mSeq (mFor (miSeq (mTup (mCons (mK .non) (mCons (mOp1 fNeg (mK (.int 1))) (mCons (mK (.int 31)) (mCons (mK (.bl true)) (mCons (mK (.str "3")) mNil))))))) (.nm 3) (mSeq (mSet 4 (mLst (mCons (mWord W_word (mCall m_chance_at (mACons (mVar 2) (mACons (mK (.int 0)) (mACons (mVar 3) (mACons (mK .non) mANil)))))) mNil)))
  (mIfS (mB (mOp2 fNe (mOp2 fAdd (mVar 4) (mCall m__law_words (mACons (mVar 2) (mACons (mK (.int 0)) (mACons (mVar 3) (mACons (mK .non) (mACons (mK .non) mANil))))))) (mLst (mCons (mK (.str "number")) (mCons (mK (.str "")) (mCons (mK (.str "number")) (mCons (mK (.str "number")) (mCons (mK (.str "weather")) mNil)))))))) (mRet (mK (.bl false))) mSkip)))
  (mSeq (mFor (miSeq (mTup (mCons (mK .non) (mCons (mLst (mCons (mK (.int 0)) mNil)) (mCons (mTup (mCons (mVar 1) mNil)) (mCons (mTup (mCons (mOp1 fNeg (mK (.int 1))) mNil)) (mCons (mTup (mCons (mK (.bl true)) mNil)) (mCons (mTup (mCons (mK (.str "0")) mNil)) (mCons (mTup (mCons (mK (.int 0)) (mCons (mK (.int 0)) mNil))) (mCons (mTup (mCons (mK (.int 1)) (mCons (mK (.int 0)) mNil))) (mCons (mK (.int 0)) mNil))))))))))) (.nm 3) (mIfS (mB (mOp2 fNe (mCall m__law_words (mACons (mVar 2) (mACons (mK (.int 0)) (mACons (mK (.int 30)) (mACons (mVar 3) (mACons (mK .non) mANil)))))) (mLst (mCons (mK (.str "")) (mCons (mK (.str "")) (mCons (mK (.str "weather")) (mCons (mK (.str "weather")) mNil))))))) (mRet (mK (.bl false))) mSkip))
  (mSeq (mFor (miSeq (mTup (mCons (mK .non) (mCons (mK (.int 0)) (mCons (mK (.int 7)) (mCons (mK (.bl true)) (mCons (mK (.str "1")) mNil))))))) (.nm 3) (mIfS (mB (mOp2 fNe (mCall m__law_words (mACons (mVar 2) (mACons (mK (.int 0)) (mACons (mK (.int 30)) (mACons (mTup (mCons (mK (.int 0)) mNil)) (mACons (mVar 3) mANil)))))) (mLst (mCons (mK (.str "")) (mCons (mK (.str "")) (mCons (mK (.str "number")) (mCons (mK (.str "number")) mNil))))))) (mRet (mK (.bl false))) mSkip))
  (mRet (mOp2 fEq (mCall m__law_words (mACons (mVar 2) (mACons (mOp2 fSub (mVar 1) (mK (.int 1))) (mACons (mK (.int 30)) (mACons (mTupI (miRange1 (mVar 1))) (mACons (mK (.int 6)) mANil)))))) (mOp2 fMul (mLst (mCons (mK (.str "")) mNil)) (mK (.int 4)))))))))))
def b__law_days_right : MS :=
  (mSeq (mSet 1 (mOp2 fAdd (mK (.int 1)) (mCall m__law_roll (mACons (mVar 0) (mACons (mK (.int 4)) mANil))))) t__law_days_right)
def m__law_days_right : Fn := mDef 1 4 b__law_days_right
theorem sc__law_days_right : FnScope ["cup", "many", "weather", "odd", "words"] ["cup"] (defScope st__law_days_right) := ⟨rfl, rfl, rfl, by decide +kernel, rfl, by decide +kernel, by decide +kernel⟩
theorem d__law_days_right {P : Program} {base : Heap} {g : Gr} {k : Nat} {f : Addr} {fd : FuncData} (T : FunD g.K "_law_days_right" "_law_days_right" (defArgs st__law_days_right) (defBody st__law_days_right) (defScope st__law_days_right) [] [] f fd) (gf : g.mg "_law_days_right" = some (.ref f)) (x : Fx g) (lm : LamD g base ("_law_days_right" ++ ".<locals>." ++ "<lambda>") fd) (wd : WordX g P base "_law_word" W_word) (h__law_roll : HasX P base g k "_law_roll" m__law_roll) (h_lasting : HasX P base g k "lasting" m_lasting) (h_chance_at : HasX P base g k "chance_at" m_chance_at) (h_row_chance : HasX P base g k "row_chance" m_row_chance) (h_told_by : HasX P base g k "told_by" m_told_by) (h__law_words : HasX P base g k "_law_words" m__law_words) (h_is_weather : HasX P base g k "is_weather" m_is_weather) : HasX P base g (k + 6) "_law_days_right" m__law_days_right :=
  ⟨f, fd, ["cup"], fnOkL T sc__law_days_right rfl rfl lm (fun c Tb TB hmT hu B up t H E ok hr tk => (s_seq (s_set ok.nd (i := 1) rfl (Or.inl rfl) (q_bin (o_add ok) s_int (s_fx ok (passes_takes tk) hr (h__law_roll.mono (by omega)) (s_acons (sv 0) (s_acons s_int s_anil)))))
  (s_seq (s_set ok.nd (i := 2) rfl (Or.inr rfl) (q_bin (o_mul ok) (s_tup (s_cons (q_bin (o_add ok) (s_tup (s_cons s_int s_nil)) (q_bin (o_mul ok) (s_tup (s_cons s_int s_nil)) (q_bin (o_sub ok) (sv 1) s_int))) s_nil)) (sv 1)))
  (s_seq (s_for ok.pass ok.calm (s_it ok.K (s_tup (s_cons s_non (s_cons (s_tup s_nil) (s_cons (q_t1 (c_list ok) (by exact x.n_list) boot_list (sv 2)) (s_cons (s_tup (s_cons (s_tup (s_cons s_int s_nil)) s_nil)) (s_cons (s_tup (s_cons (s_tup (s_cons s_int (s_cons s_int s_nil))) s_nil)) (s_cons (s_tup (s_cons (s_tup (s_cons s_bl s_nil)) s_nil)) (s_cons (s_tup (s_cons (s_tup (s_cons s_int (s_cons s_int s_nil))) (s_cons (s_tup (s_cons s_int (s_cons (q_neg ok s_int) s_nil))) s_nil))) (s_cons (q_bin (o_mul ok) (s_tup (s_cons (s_tup (s_cons s_int (s_cons s_int (s_cons s_int (s_cons s_int (s_cons s_int s_nil)))))) s_nil)) s_int) (s_cons s_int s_nil))))))))))) (g_name ok.nd (i := 3) rfl (Or.inr rfl)) (s_seq (s_set ok.nd (i := 4) rfl (Or.inl rfl) (s_lst (s_cons (s_wordX (k := k + 2) ok hr wd TB rfl hmT hu (fun A outer s H E f c' ok hr tk => (s_fx ok (passes_takes tk) hr (h_lasting.mono (by omega)) (s_acons (sv 3) s_anil)))) s_nil)))
  (s_seq (s_expr (s_append ok (sv 4) (s_cons (s_wordX (k := k + 2) ok hr wd TB rfl hmT hu (fun A outer s H E f c' ok hr tk => (s_fx ok (passes_takes tk) hr (h_chance_at.mono (by omega)) (s_acons (sv 3) (s_acons s_non (s_acons s_non (s_acons s_non s_anil))))))) s_nil)))
  (s_seq (s_expr (s_append ok (sv 4) (s_cons (s_wordX (k := k + 2) ok hr wd TB rfl hmT hu (fun A outer s H E f c' ok hr tk => (s_fx ok (passes_takes tk) hr (h_row_chance.mono (by omega)) (s_acons (sv 3) (s_acons s_non (s_acons s_non s_anil)))))) s_nil)))
  (s_seq (s_expr (s_append ok (sv 4) (s_cons (s_wordX (k := k + 2) ok hr wd TB rfl hmT hu (fun A outer s H E f c' ok hr tk => (s_fx ok (passes_takes tk) hr (h_told_by.mono (by omega)) (s_acons (sv 3) (s_acons s_non (s_acons s_non (s_acons s_non s_anil))))))) s_nil)))
  (s_one (s_ifS (q_pw (s_or (q_tcmp (o_ne ok) (q_bin (o_add ok) (sv 4) (s_fx ok (passes_takes tk) hr (h__law_words.mono (by omega)) (s_acons (sv 3) (s_acons s_non (s_acons s_non (s_acons s_non (s_acons s_non s_anil))))))) (q_bin (o_mul ok) (s_lst (s_cons s_str s_nil)) s_int)) (s_or1 (q_tcmp (o_isn ok) (s_fx ok (passes_takes tk) hr (h_is_weather.mono (by omega)) (s_acons (sv 3) s_anil)) s_bl)))) (s_one (s_ret s_bl)) s_snil)))))))
  (s_seq (s_for ok.pass ok.calm (s_it ok.K (s_tup (s_cons s_non (s_cons (q_neg ok s_int) (s_cons (sv 1) (s_cons s_bl (s_cons s_str (s_cons (s_tup (s_cons s_int s_nil)) s_nil)))))))) (g_name ok.nd (i := 3) rfl (Or.inr rfl)) (s_seq (s_set ok.nd (i := 4) rfl (Or.inl rfl) (s_lst (s_cons (s_wordX (k := k + 2) ok hr wd TB rfl hmT hu (fun A outer s H E f c' ok hr tk => (s_fx ok (passes_takes tk) hr (h_chance_at.mono (by omega)) (s_acons (sv 2) (s_acons (sv 3) (s_acons s_non (s_acons s_non s_anil))))))) s_nil)))
  (s_seq (s_expr (s_append ok (sv 4) (s_cons (s_wordX (k := k + 2) ok hr wd TB rfl hmT hu (fun A outer s H E f c' ok hr tk => (s_fx ok (passes_takes tk) hr (h_row_chance.mono (by omega)) (s_acons (sv 2) (s_acons (sv 3) (s_acons s_non s_anil)))))) s_nil)))
  (s_seq (s_expr (s_append ok (sv 4) (s_cons (s_wordX (k := k + 2) ok hr wd TB rfl hmT hu (fun A outer s H E f c' ok hr tk => (s_fx ok (passes_takes tk) hr (h_told_by.mono (by omega)) (s_acons (sv 2) (s_acons (sv 3) (s_acons s_non (s_acons s_non s_anil))))))) s_nil)))
  (s_seq (s_expr (s_append ok (sv 4) (s_cons (s_wordX (k := k + 2) ok hr wd TB rfl hmT hu (fun A outer s H E f c' ok hr tk => (s_fx ok (passes_takes tk) hr (h_chance_at.mono (by omega)) (s_acons (sv 2) (s_acons s_int (s_acons s_int (s_acons (sv 3) s_anil))))))) s_nil)))
  (s_one (s_ifS (q_tcmp (o_ne ok) (q_bin (o_add ok) (sv 4) (s_fx ok (passes_takes tk) hr (h__law_words.mono (by omega)) (s_acons (sv 2) (s_acons (sv 3) (s_acons s_non (s_acons s_non (s_acons s_non s_anil))))))) (q_bin (o_mul ok) (s_lst (s_cons s_str s_nil)) s_int)) (s_one (s_ret s_bl)) s_snil)))))))
  (s_seq (s_for ok.pass ok.calm (s_it ok.K (s_tup (s_cons s_non (s_cons (q_neg ok s_int) (s_cons s_int (s_cons s_bl (s_cons s_str s_nil))))))) (g_name ok.nd (i := 3) rfl (Or.inr rfl)) (s_seq (s_set ok.nd (i := 4) rfl (Or.inl rfl) (s_lst (s_cons (s_wordX (k := k + 2) ok hr wd TB rfl hmT hu (fun A outer s H E f c' ok hr tk => (s_fx ok (passes_takes tk) hr (h_chance_at.mono (by omega)) (s_acons (sv 2) (s_acons s_int (s_acons (sv 3) (s_acons s_non s_anil))))))) s_nil)))
  (s_one (s_ifS (q_tcmp (o_ne ok) (q_bin (o_add ok) (sv 4) (s_fx ok (passes_takes tk) hr (h__law_words.mono (by omega)) (s_acons (sv 2) (s_acons s_int (s_acons (sv 3) (s_acons s_non (s_acons s_non s_anil))))))) (s_lst (s_cons s_str (s_cons s_str (s_cons s_str (s_cons s_str (s_cons s_str s_nil))))))) (s_one (s_ret s_bl)) s_snil))))
  (s_seq (s_for ok.pass ok.calm (s_it ok.K (s_tup (s_cons s_non (s_cons (s_lst (s_cons s_int s_nil)) (s_cons (s_tup (s_cons (sv 1) s_nil)) (s_cons (s_tup (s_cons (q_neg ok s_int) s_nil)) (s_cons (s_tup (s_cons s_bl s_nil)) (s_cons (s_tup (s_cons s_str s_nil)) (s_cons (s_tup (s_cons s_int (s_cons s_int s_nil))) (s_cons (s_tup (s_cons s_int (s_cons s_int s_nil))) (s_cons s_int s_nil))))))))))) (g_name ok.nd (i := 3) rfl (Or.inr rfl)) (s_one (s_ifS (q_tcmp (o_ne ok) (s_fx ok (passes_takes tk) hr (h__law_words.mono (by omega)) (s_acons (sv 2) (s_acons s_int (s_acons s_int (s_acons (sv 3) (s_acons s_non s_anil)))))) (s_lst (s_cons s_str (s_cons s_str (s_cons s_str (s_cons s_str s_nil)))))) (s_one (s_ret s_bl)) s_snil)))
  (s_seq (s_for ok.pass ok.calm (s_it ok.K (s_tup (s_cons s_non (s_cons s_int (s_cons s_int (s_cons s_bl (s_cons s_str s_nil))))))) (g_name ok.nd (i := 3) rfl (Or.inr rfl)) (s_one (s_ifS (q_tcmp (o_ne ok) (s_fx ok (passes_takes tk) hr (h__law_words.mono (by omega)) (s_acons (sv 2) (s_acons s_int (s_acons s_int (s_acons (s_tup (s_cons s_int s_nil)) (s_acons (sv 3) s_anil)))))) (s_lst (s_cons s_str (s_cons s_str (s_cons s_str (s_cons s_str s_nil)))))) (s_one (s_ret s_bl)) s_snil)))
  (s_one (s_ret (q_cmp (o_eq ok) (s_fx ok (passes_takes tk) hr (h__law_words.mono (by omega)) (s_acons (sv 2) (s_acons (q_bin (o_sub ok) (sv 1) s_int) (s_acons s_int (s_acons (s_tupRg1 ok (by exact x.n_tuple) (by exact x.n_range) (sv 1)) (s_acons s_int s_anil)))))) (q_bin (o_mul ok) (s_lst (s_cons s_str s_nil)) s_int)))))))))))), gf, T.kp, T.bindsN fun _ _ _ _ _ _ us hl => match us, hl with | [_], _ => rfl⟩
/-! _law_rows_right -/
abbrev st__law_rows_right : Stmt := top 59
def t__law_rows_right : MS :=
  (mSeq (mSet 2 (mOp2 fMul (mTup (mCons (mOp2 fAdd (mTup (mCons (mK (.int 12)) mNil)) (mOp2 fMul (mTup (mCons (mK (.int 0)) mNil)) (mOp2 fSub (mVar 1) (mK (.int 1))))) mNil)) (mVar 1)))
  (mSeq (mFor (miSeq (mTup (mCons (mK .non) (mCons (mLst (mCons (mK (.int 0)) mNil)) (mCons (mTup (mCons (mVar 1) mNil)) (mCons (mTup (mCons (mOp1 fNeg (mK (.int 1))) mNil)) (mCons (mTup (mCons (mK (.bl true)) mNil)) (mCons (mTup (mCons (mK (.str "0")) mNil)) (mCons (mTup (mCons (mK .non) mNil)) (mCons (mOp2 fMul (mTup (mCons (mK (.int 0)) mNil)) (mK (.int 31))) (mCons (mK (.int 0)) mNil))))))))))) (.nm 3) (mIfS (mB (mOp2 fNe (mWord W_word (mCall m_row_chance (mACons (mVar 2) (mACons (mK (.int 0)) (mACons (mVar 3) mANil))))) (mK (.str "weather")))) (mRet (mK (.bl false))) mSkip))
  (mSeq (mSet 4 (mOp2 fMul (mTup (mCons (mTup (mCons (mK (.int 5)) (mCons (mK (.int 7)) mNil))) mNil)) (mVar 1)))
  (mSeq (mSet 5 (mLst (mCons (mK .non) (mCons (mTup mNil) (mCons (mOp1 gList (mVar 4)) (mCons (mSl (mVar 4) (moS (mK (.int 1))) moN) (mCons (mOp2 fAdd (mVar 4) (mSl (mVar 4) moN (moS (mK (.int 1))))) (mCons (mOp2 fMul (mTup (mCons (mTup mNil) mNil)) (mVar 1)) (mCons (mOp2 fMul (mTup (mCons (mTup (mCons (mK (.int 12)) (mCons (mK (.int 0)) (mCons (mK (.int 0)) (mCons (mK (.int 0)) (mCons (mK (.int 0)) mNil)))))) mNil)) (mVar 1)) (mCons (mOp2 fMul (mTup (mCons (mTup (mCons (mK (.int 5)) (mCons (mK (.int 6)) mNil))) mNil)) (mVar 1)) (mCons (mOp2 fMul (mTup (mCons (mTup (mCons (mK (.int 13)) (mCons (mOp1 fNeg (mK (.int 1))) mNil))) mNil)) (mVar 1)) (mCons (mOp2 fMul (mTup (mCons (mTup (mCons (mK (.int 11)) (mCons (mK (.bl true)) mNil))) mNil)) (mVar 1)) (mCons (mOp2 fMul (mTup (mCons (mLst (mCons (mK (.int 5)) (mCons (mK (.int 7)) mNil))) mNil)) (mVar 1)) (mCons (mK (.int 5)) mNil))))))))))))))
  (mSeq (mIfS (mB (mOp2 fGt (mVar 1) (mK (.int 1)))) (mDrop (mMeth fAppend (mVar 5) (mCons (mOp2 fAdd (mTup (mCons (mTup (mCons (mK (.int 12)) mNil)) mNil)) (mSl (mVar 4) (moS (mK (.int 1))) moN)) mNil))) mSkip)
  (mSeq (mFor (miSeq (mVar 5)) (.nm 3) (mIfS (mB (mOp2 fNe (mWord W_word (mCall m_told_by (mACons (mVar 2) (mACons (mK (.int 0)) (mACons (mVar 3) (mACons (mK .non) mANil)))))) (mK (.str "weather")))) (mRet (mK (.bl false))) mSkip))
  (mSeq (mFor (miSeq (mTup (mCons (mK .non) (mCons (mLst (mCons (mK (.int 0)) mNil)) (mCons (mTup (mCons (mK (.int 2)) mNil)) (mCons (mTup (mCons (mOp1 fNeg (mK (.int 1))) mNil)) (mCons (mTup (mCons (mK (.bl true)) mNil)) (mCons (mTup (mCons (mK (.str "0")) mNil)) (mCons (mOp2 fMul (mTup (mCons (mK (.int 0)) mNil)) (mK (.int 31))) (mCons (mK (.int 0)) mNil)))))))))) (.nm 3) (mIfS (mB (mOp2 fNe (mWord W_word (mCall m_told_by (mACons (mVar 2) (mACons (mK (.int 0)) (mACons (mVar 4) (mACons (mVar 3) mANil)))))) (mK (.str "weather")))) (mRet (mK (.bl false))) mSkip))
  (mSeq (mSet 6 (mLst (mCons (mWord W_word (mCall m_row_chance (mACons (mVar 2) (mACons (mK (.int 0)) (mACons (mOp2 fMul (mTup (mCons (mK (.int 0)) mNil)) (mK (.int 30))) mANil))))) mNil)))
  (mSeq (mDrop (mMeth fAppend (mVar 6) (mCons (mWord W_word (mCall m_told_by (mACons (mVar 2) (mACons (mK (.int 0)) (mACons (mVar 4) (mACons (mOp2 fMul (mTup (mCons (mK (.int 0)) (mCons (mK (.int 1)) mNil))) (mK (.int 15))) mANil)))))) mNil)))
  (mRet (mOp2 fEq (mOp2 fAdd (mVar 6) (mLst (mCons (mWord W_word (mCall m_told_by (mACons (mVar 2) (mACons (mK (.int 0)) (mACons (mOp2 fMul (mTup (mCons (mTup (mCons (mK (.int 3)) (mCons (mK (.int 3)) (mCons (mK (.int 3)) (mCons (mK (.int 3)) mNil))))) mNil)) (mVar 1)) (mACons (mTup (mCons (mK (.int 3)) mNil)) mANil)))))) mNil))) (mOp2 fMul (mLst (mCons (mK (.str "")) mNil)) (mK (.int 3))))))))))))))
def b__law_rows_right : MS :=
  (mSeq (mSet 1 (mOp2 fAdd (mK (.int 1)) (mCall m__law_roll (mACons (mVar 0) (mACons (mK (.int 4)) mANil))))) t__law_rows_right)
def m__law_rows_right : Fn := mDef 1 6 b__law_rows_right
theorem sc__law_rows_right : FnScope ["cup", "many", "weather", "odd", "good", "odds", "words"] ["cup"] (defScope st__law_rows_right) := ⟨rfl, rfl, rfl, by decide +kernel, rfl, by decide +kernel, by decide +kernel⟩
theorem d__law_rows_right {P : Program} {base : Heap} {g : Gr} {k : Nat} {f : Addr} {fd : FuncData} (T : FunD g.K "_law_rows_right" "_law_rows_right" (defArgs st__law_rows_right) (defBody st__law_rows_right) (defScope st__law_rows_right) [] [] f fd) (gf : g.mg "_law_rows_right" = some (.ref f)) (x : Fx g) (lm : LamD g base ("_law_rows_right" ++ ".<locals>." ++ "<lambda>") fd) (wd : WordX g P base "_law_word" W_word) (h__law_roll : HasX P base g k "_law_roll" m__law_roll) (h_row_chance : HasX P base g k "row_chance" m_row_chance) (h_told_by : HasX P base g k "told_by" m_told_by) : HasX P base g (k + 6) "_law_rows_right" m__law_rows_right :=
  ⟨f, fd, ["cup"], fnOkL T sc__law_rows_right rfl rfl lm (fun c Tb TB hmT hu B up t H E ok hr tk => (s_seq (s_set ok.nd (i := 1) rfl (Or.inr rfl) (q_bin (o_add ok) s_int (s_fx ok (passes_takes tk) hr (h__law_roll.mono (by omega)) (s_acons (sv 0) (s_acons s_int s_anil)))))
  (s_seq (s_set ok.nd (i := 2) rfl (Or.inr rfl) (q_bin (o_mul ok) (s_tup (s_cons (q_bin (o_add ok) (s_tup (s_cons s_int s_nil)) (q_bin (o_mul ok) (s_tup (s_cons s_int s_nil)) (q_bin (o_sub ok) (sv 1) s_int))) s_nil)) (sv 1)))
  (s_seq (s_for ok.pass ok.calm (s_it ok.K (s_tup (s_cons s_non (s_cons (s_lst (s_cons s_int s_nil)) (s_cons (s_tup (s_cons (sv 1) s_nil)) (s_cons (s_tup (s_cons (q_neg ok s_int) s_nil)) (s_cons (s_tup (s_cons s_bl s_nil)) (s_cons (s_tup (s_cons s_str s_nil)) (s_cons (s_tup (s_cons s_non s_nil)) (s_cons (q_bin (o_mul ok) (s_tup (s_cons s_int s_nil)) s_int) (s_cons s_int s_nil))))))))))) (g_name ok.nd (i := 3) rfl (Or.inr rfl)) (s_one (s_ifS (q_tcmp (o_ne ok) (s_wordX (k := k + 2) ok hr wd TB rfl hmT hu (fun A outer s H E f c' ok hr tk => (s_fx ok (passes_takes tk) hr (h_row_chance.mono (by omega)) (s_acons (sv 2) (s_acons s_int (s_acons (sv 3) s_anil)))))) s_str) (s_one (s_ret s_bl)) s_snil)))
  (s_seq (s_set ok.nd (i := 4) rfl (Or.inr rfl) (q_bin (o_mul ok) (s_tup (s_cons (s_tup (s_cons s_int (s_cons s_int s_nil))) s_nil)) (sv 1)))
  (s_seq (s_set ok.nd (i := 5) rfl (Or.inl rfl) (s_lst (s_cons s_non (s_cons (s_tup s_nil) (s_cons (q_t1 (c_list ok) (by exact x.n_list) boot_list (sv 4)) (s_cons (s_sl ok (sv 4) (s_pos s_int) s_pon) (s_cons (q_bin (o_add ok) (sv 4) (s_sl ok (sv 4) s_pon (s_pos s_int))) (s_cons (q_bin (o_mul ok) (s_tup (s_cons (s_tup s_nil) s_nil)) (sv 1)) (s_cons (q_bin (o_mul ok) (s_tup (s_cons (s_tup (s_cons s_int (s_cons s_int (s_cons s_int (s_cons s_int (s_cons s_int s_nil)))))) s_nil)) (sv 1)) (s_cons (q_bin (o_mul ok) (s_tup (s_cons (s_tup (s_cons s_int (s_cons s_int s_nil))) s_nil)) (sv 1)) (s_cons (q_bin (o_mul ok) (s_tup (s_cons (s_tup (s_cons s_int (s_cons (q_neg ok s_int) s_nil))) s_nil)) (sv 1)) (s_cons (q_bin (o_mul ok) (s_tup (s_cons (s_tup (s_cons s_int (s_cons s_bl s_nil))) s_nil)) (sv 1)) (s_cons (q_bin (o_mul ok) (s_tup (s_cons (s_lst (s_cons s_int (s_cons s_int s_nil))) s_nil)) (sv 1)) (s_cons s_int s_nil))))))))))))))
  (s_seq (s_ifS (q_tcmp (o_gt ok) (sv 1) s_int) (s_one (s_expr (s_append ok (sv 5) (s_cons (q_bin (o_add ok) (s_tup (s_cons (s_tup (s_cons s_int s_nil)) s_nil)) (s_sl ok (sv 4) (s_pos s_int) s_pon)) s_nil)))) s_snil)
  (s_seq (s_for ok.pass ok.calm (s_it ok.K (sv 5)) (g_name ok.nd (i := 3) rfl (Or.inr rfl)) (s_one (s_ifS (q_tcmp (o_ne ok) (s_wordX (k := k + 2) ok hr wd TB rfl hmT hu (fun A outer s H E f c' ok hr tk => (s_fx ok (passes_takes tk) hr (h_told_by.mono (by omega)) (s_acons (sv 2) (s_acons s_int (s_acons (sv 3) (s_acons s_non s_anil))))))) s_str) (s_one (s_ret s_bl)) s_snil)))
  (s_seq (s_for ok.pass ok.calm (s_it ok.K (s_tup (s_cons s_non (s_cons (s_lst (s_cons s_int s_nil)) (s_cons (s_tup (s_cons s_int s_nil)) (s_cons (s_tup (s_cons (q_neg ok s_int) s_nil)) (s_cons (s_tup (s_cons s_bl s_nil)) (s_cons (s_tup (s_cons s_str s_nil)) (s_cons (q_bin (o_mul ok) (s_tup (s_cons s_int s_nil)) s_int) (s_cons s_int s_nil)))))))))) (g_name ok.nd (i := 3) rfl (Or.inr rfl)) (s_one (s_ifS (q_tcmp (o_ne ok) (s_wordX (k := k + 2) ok hr wd TB rfl hmT hu (fun A outer s H E f c' ok hr tk => (s_fx ok (passes_takes tk) hr (h_told_by.mono (by omega)) (s_acons (sv 2) (s_acons s_int (s_acons (sv 4) (s_acons (sv 3) s_anil))))))) s_str) (s_one (s_ret s_bl)) s_snil)))
  (s_seq (s_set ok.nd (i := 6) rfl (Or.inl rfl) (s_lst (s_cons (s_wordX (k := k + 2) ok hr wd TB rfl hmT hu (fun A outer s H E f c' ok hr tk => (s_fx ok (passes_takes tk) hr (h_row_chance.mono (by omega)) (s_acons (sv 2) (s_acons s_int (s_acons (q_bin (o_mul ok) (s_tup (s_cons s_int s_nil)) s_int) s_anil)))))) s_nil)))
  (s_seq (s_expr (s_append ok (sv 6) (s_cons (s_wordX (k := k + 2) ok hr wd TB rfl hmT hu (fun A outer s H E f c' ok hr tk => (s_fx ok (passes_takes tk) hr (h_told_by.mono (by omega)) (s_acons (sv 2) (s_acons s_int (s_acons (sv 4) (s_acons (q_bin (o_mul ok) (s_tup (s_cons s_int (s_cons s_int s_nil))) s_int) s_anil))))))) s_nil)))
  (s_one (s_ret (q_cmp (o_eq ok) (q_bin (o_add ok) (sv 6) (s_lst (s_cons (s_wordX (k := k + 2) ok hr wd TB rfl hmT hu (fun A outer s H E f c' ok hr tk => (s_fx ok (passes_takes tk) hr (h_told_by.mono (by omega)) (s_acons (sv 2) (s_acons s_int (s_acons (q_bin (o_mul ok) (s_tup (s_cons (s_tup (s_cons s_int (s_cons s_int (s_cons s_int (s_cons s_int s_nil))))) s_nil)) (sv 1)) (s_acons (s_tup (s_cons s_int s_nil)) s_anil))))))) s_nil))) (q_bin (o_mul ok) (s_lst (s_cons s_str s_nil)) s_int))))))))))))))), gf, T.kp, T.bindsN fun _ _ _ _ _ _ us hl => match us, hl with | [_], _ => rfl⟩
/-! law -/
abbrev st_law : Stmt := top 60
def b_law : MS :=
  (mSeq (mSet 1 (mCall m__law_cup (mACons (mVar 0) mANil)))
  (mRet (mAndV (mCall m__law_days_right (mACons (mVar 1) mANil)) (mCall m__law_rows_right (mACons (mVar 1) mANil)))))
def m_law : Fn := mDef 1 1 b_law
theorem sc_law : FnScope ["script", "cup"] ["script"] (defScope st_law) := ⟨rfl, rfl, rfl, by decide +kernel, rfl, by decide +kernel, by decide +kernel⟩
theorem k_law {P : Program} {base : Heap} {g : Gr} {k : Nat} {f : Addr} {fd : FuncData} (T : FunD g.K "law" "law" (defArgs st_law) (defBody st_law) (defScope st_law) [] [] f fd) (x : Fx g) (h__law_cup : HasX P base g k "_law_cup" m__law_cup) (h__law_days_right : HasX P base g k "_law_days_right" m__law_days_right) (h__law_rows_right : HasX P base g k "_law_rows_right" m__law_rows_right) : FnOk P g.w g.K g.mg base (L2N.CX P g.w) (k + 1) f fd ["script"] (spM g m_law) :=
  fnOkX T sc_law rfl rfl (fun cd B up t H E ok hr tk => (s_seq (s_set ok.nd (i := 1) rfl (Or.inl rfl) (s_fx ok (passes_takes tk) hr h__law_cup (s_acons (sv 0) s_anil)))
  (s_one (s_ret (s_vand (s_fx ok (passes_takes tk) hr h__law_days_right (s_acons (sv 1) s_anil)) (s_vone (s_fx ok (passes_takes tk) hr h__law_rows_right (s_acons (sv 1) s_anil))))))))
end
end Mm.L91
-- text Fin91
set_option Elab.async false
set_option linter.all false
set_option maxRecDepth 100000
set_option maxHeartbeats 0
namespace Mm.L91
section
open PySem PySem.Spec PyProof.Rows L2
def dd_is_whole : He.DefD := ⟨("is_whole", none), "is_whole", "is_whole", defArgs st_is_whole, defBody st_is_whole, defScope st_is_whole, [], []⟩
def dd_is_tuple_of : He.DefD := ⟨("is_tuple_of", none), "is_tuple_of", "is_tuple_of", defArgs st_is_tuple_of, defBody st_is_tuple_of, defScope st_is_tuple_of, [], []⟩
def dd_is_rising : He.DefD := ⟨("is_rising", none), "is_rising", "is_rising", defArgs st_is_rising, defBody st_is_rising, defScope st_is_rising, [], []⟩
def dd_fits_some : He.DefD := ⟨("fits_some", none), "fits_some", "fits_some", defArgs st_fits_some, defBody st_fits_some, defScope st_fits_some, [], []⟩
def dd_fits_parts : He.DefD := ⟨("fits_parts", none), "fits_parts", "fits_parts", defArgs st_fits_parts, defBody st_fits_parts, defScope st_fits_parts, [], []⟩
def dd_fits_weather : He.DefD := ⟨("fits_weather", none), "fits_weather", "fits_weather", defArgs st_fits_weather, defBody st_fits_weather, defScope st_fits_weather, [], []⟩
def dd_need_weather : He.DefD := ⟨("need_weather", none), "need_weather", "need_weather", defArgs st_need_weather, defBody st_need_weather, defScope st_need_weather, [], []⟩
def dd_need_sort : He.DefD := ⟨("need_sort", none), "need_sort", "need_sort", defArgs st_need_sort, defBody st_need_sort, defScope st_need_sort, [], []⟩
def dd_need_days : He.DefD := ⟨("need_days", none), "need_days", "need_days", defArgs st_need_days, defBody st_need_days, defScope st_need_days, [], []⟩
def dd_fits_row : He.DefD := ⟨("fits_row", none), "fits_row", "fits_row", defArgs st_fits_row, defBody st_fits_row, defScope st_fits_row, [], []⟩
def dd_need_row : He.DefD := ⟨("need_row", none), "need_row", "need_row", defArgs st_need_row, defBody st_need_row, defScope st_need_row, [], []⟩
def dd_need_fine : He.DefD := ⟨("need_fine", none), "need_fine", "need_fine", defArgs st_need_fine, defBody st_need_fine, defScope st_need_fine, [], []⟩
def dd_power : He.DefD := ⟨("power", none), "power", "power", defArgs st_power, defBody st_power, defScope st_power, [], []⟩
def dd_cut : He.DefD := ⟨("cut", none), "cut", "cut", defArgs st_cut, defBody st_cut, defScope st_cut, [], []⟩
def dd_added : He.DefD := ⟨("added", none), "added", "added", defArgs st_added, defBody st_added, defScope st_added, [], []⟩
def dd_times : He.DefD := ⟨("times", none), "times", "times", defArgs st_times, defBody st_times, defScope st_times, [], []⟩
def dd_parted : He.DefD := ⟨("parted", none), "parted", "parted", defArgs st_parted, defBody st_parted, defScope st_parted, [], []⟩
def dd_next_days : He.DefD := ⟨("next_days", none), "next_days", "next_days", defArgs st_next_days, defBody st_next_days, defScope st_next_days, [], []⟩
def dd_line_behind : He.DefD := ⟨("line_behind", none), "line_behind", "line_behind", defArgs st_line_behind, defBody st_line_behind, defScope st_line_behind, [], []⟩
def dd_ways_of : He.DefD := ⟨("ways_of", none), "ways_of", "ways_of", defArgs st_ways_of, defBody st_ways_of, defScope st_ways_of, [], []⟩
def dd_first_step : He.DefD := ⟨("first_step", none), "first_step", "first_step", defArgs st_first_step, defBody st_first_step, defScope st_first_step, [], []⟩
def dd_likeliest_in : He.DefD := ⟨("likeliest_in", none), "likeliest_in", "likeliest_in", defArgs st_likeliest_in, defBody st_likeliest_in, defScope st_likeliest_in, [], []⟩
def dd_windows_in : He.DefD := ⟨("windows_in", none), "windows_in", "windows_in", defArgs st_windows_in, defBody st_windows_in, defScope st_windows_in, [], []⟩
def dd_reach_of : He.DefD := ⟨("reach_of", none), "reach_of", "reach_of", defArgs st_reach_of, defBody st_reach_of, defScope st_reach_of, [], []⟩
def dd_solved : He.DefD := ⟨("solved", none), "solved", "solved", defArgs st_solved, defBody st_solved, defScope st_solved, [], []⟩
def dd_closed_sorts : He.DefD := ⟨("closed_sorts", none), "closed_sorts", "closed_sorts", defArgs st_closed_sorts, defBody st_closed_sorts, defScope st_closed_sorts, [], []⟩
def dd_is_weather : He.DefD := ⟨("is_weather", none), "is_weather", "is_weather", defArgs st_is_weather, defBody st_is_weather, defScope st_is_weather, [], []⟩
def dd_chance_at : He.DefD := ⟨("chance_at", none), "chance_at", "chance_at", defArgs st_chance_at, defBody st_chance_at, defScope st_chance_at, [], []⟩
def dd_row_chance : He.DefD := ⟨("row_chance", none), "row_chance", "row_chance", defArgs st_row_chance, defBody st_row_chance, defScope st_row_chance, [], []⟩
def dd_likeliest : He.DefD := ⟨("likeliest", none), "likeliest", "likeliest", defArgs st_likeliest, defBody st_likeliest, defScope st_likeliest, [], []⟩
def dd_can_come : He.DefD := ⟨("can_come", none), "can_come", "can_come", defArgs st_can_come, defBody st_can_come, defScope st_can_come, [], []⟩
def dd_need_length : He.DefD := ⟨("need_length", none), "need_length", "need_length", defArgs st_need_length, defBody st_need_length, defScope st_need_length, [], []⟩
def dd_window_chance : He.DefD := ⟨("window_chance", none), "window_chance", "window_chance", defArgs st_window_chance, defBody st_window_chance, defScope st_window_chance, [], []⟩
def dd_next_state : He.DefD := ⟨("next_state", none), "next_state", "next_state", defArgs st_next_state, defBody st_next_state, defScope st_next_state, [], []⟩
def dd_states_of : He.DefD := ⟨("states_of", none), "states_of", "states_of", defArgs st_states_of, defBody st_states_of, defScope st_states_of, [], []⟩
def dd_ends_from : He.DefD := ⟨("ends_from", none), "ends_from", "ends_from", defArgs st_ends_from, defBody st_ends_from, defScope st_ends_from, [], []⟩
def dd_ways_to : He.DefD := ⟨("ways_to", none), "ways_to", "ways_to", defArgs st_ways_to, defBody st_ways_to, defScope st_ways_to, [], []⟩
def dd_mean_wait : He.DefD := ⟨("mean_wait", none), "mean_wait", "mean_wait", defArgs st_mean_wait, defBody st_mean_wait, defScope st_mean_wait, [], []⟩
def dd_lasting : He.DefD := ⟨("lasting", none), "lasting", "lasting", defArgs st_lasting, defBody st_lasting, defScope st_lasting, [], []⟩
def dd_fits_signs : He.DefD := ⟨("fits_signs", none), "fits_signs", "fits_signs", defArgs st_fits_signs, defBody st_fits_signs, defScope st_fits_signs, [], []⟩
def dd_told_by : He.DefD := ⟨("told_by", none), "told_by", "told_by", defArgs st_told_by, defBody st_told_by, defScope st_told_by, [], []⟩
def dd__law_cup : He.DefD := ⟨("_law_cup", none), "_law_cup", "_law_cup", defArgs st__law_cup, defBody st__law_cup, defScope st__law_cup, [], []⟩
def dd__law_roll : He.DefD := ⟨("_law_roll", none), "_law_roll", "_law_roll", defArgs st__law_roll, defBody st__law_roll, defScope st__law_roll, [], []⟩
def dd__law_words : He.DefD := ⟨("_law_words", none), "_law_words", "_law_words", defArgs st__law_words, defBody st__law_words, defScope st__law_words, [], []⟩
def dd__law_days_right : He.DefD := ⟨("_law_days_right", none), "_law_days_right", "_law_days_right", defArgs st__law_days_right, defBody st__law_days_right, defScope st__law_days_right, [], []⟩
def dd__law_rows_right : He.DefD := ⟨("_law_rows_right", none), "_law_rows_right", "_law_rows_right", defArgs st__law_rows_right, defBody st__law_rows_right, defScope st__law_rows_right, [], []⟩
def dd_law : He.DefD := ⟨("law", none), "law", "law", defArgs st_law, defBody st_law, defScope st_law, [], []⟩
def dd__law_word : He.DefD := ⟨("_law_word", none), "_law_word", "_law_word", defArgs st__law_word, defBody st__law_word, defScope st__law_word, [], []⟩
def fn_ : List He.DefD := ([dd_is_whole, dd_is_tuple_of, dd_is_rising, dd_fits_some, dd_fits_parts, dd_fits_weather, dd_need_weather, dd_need_sort, dd_need_days, dd_fits_row, dd_need_row, dd_need_fine, dd_power, dd_cut, dd_added, dd_times, dd_parted, dd_next_days, dd_line_behind, dd_ways_of, dd_first_step, dd_likeliest_in, dd_windows_in, dd_reach_of, dd_solved, dd_closed_sorts, dd_is_weather, dd_chance_at, dd_row_chance, dd_likeliest] : List He.DefD) ++ ([dd_can_come, dd_need_length, dd_window_chance, dd_next_state, dd_states_of, dd_ends_from, dd_ways_to, dd_mean_wait, dd_lasting, dd_fits_signs, dd_told_by, dd__law_cup, dd__law_roll, dd__law_words, dd__law_days_right, dd__law_rows_right, dd_law, dd__law_word] : List He.DefD)
def fa_ : List He.Fa := ([.free "ValueError", .free "abs", .free "all", .free "any", .free "bool", .free "enumerate", .free "int", .free "isinstance", .free "len", .free "list", .free "min", .free "range", .free "sorted", .free "sum", .free "tuple", .free "zip", .int "DAYS" 30, .int "ROW" 30, .int "SIGNS" 4, .int "SORTS" 4, .int "WHOLE" 12, .glo "is_whole", .glo "is_tuple_of", .glo "is_rising", .glo "fits_some", .glo "fits_parts", .glo "fits_weather", .glo "need_weather", .glo "need_sort", .glo "need_days"] : List He.Fa) ++ ([.glo "fits_row", .glo "need_row", .glo "need_fine", .glo "power", .glo "cut", .glo "added", .glo "times", .glo "parted", .glo "next_days", .glo "line_behind", .glo "ways_of", .glo "first_step", .glo "likeliest_in", .glo "windows_in", .glo "reach_of", .glo "solved", .glo "closed_sorts", .glo "is_weather", .glo "chance_at", .glo "row_chance", .glo "likeliest", .glo "can_come", .glo "need_length", .glo "window_chance", .glo "next_state", .glo "states_of", .glo "ends_from", .glo "ways_to", .glo "mean_wait", .glo "lasting"] : List He.Fa) ++ ([.glo "fits_signs", .glo "told_by", .glo "_law_cup", .glo "_law_roll", .glo "_law_words", .glo "_law_days_right", .glo "_law_rows_right", .glo "law", .glo "_law_word", .exc "InvalidNumber", .exc "InvalidWeather", .glo "InvalidNumber", .glo "InvalidWeather"] : List He.Fa)
def xs_ : List Str := ["_law_words", "_law_days_right", "_law_rows_right"]
def ex_ (K : PySem.W.Frag) : Bool := (wfB K "LandError" cls_word) && (decide (PySem.W.nsIn K mainGlobals "gcd" = some (some (.builtin "math.gcd"))))
abbrev R_ : PySem.W.OpenRow := PySem.W.OpenLaw.row PySem.Challenge.rw_highground_k91_whole_errors_of_weather
abbrev hk_ : PySem.W.Hook := hookT 2 fa_ fn_ xs_ ex_
def ob_ (s : PySem.W.SharedT) : TK := obsT 2 fa_ fn_ xs_ ex_ (HandSHeadRun.getT s)
theorem ob_eq (s : PySem.W.SharedT) : ob_ s = hk_.obs s.abs := obsT_eq (HandSHeadRun.getT_eq s)
def names_ : List Str := (["__name__", "LandError", "InvalidNumber", "InvalidWeather", "is_whole", "is_tuple_of", "is_rising", "fits_some", "SORTS", "WHOLE", "DAYS", "ROW", "SIGNS", "fits_parts", "fits_weather", "need_weather", "need_sort", "need_days", "fits_row", "need_row", "need_fine", "power", "cut", "added", "times", "parted", "next_days", "line_behind", "ways_of", "likeliest_in"] : List Str) ++ (["first_step", "windows_in", "reach_of", "solved", "closed_sorts", "is_weather", "chance_at", "row_chance", "likeliest", "can_come", "window_chance", "need_length", "mean_wait", "next_state", "ways_to", "states_of", "ends_from", "lasting", "fits_signs", "told_by", "_law_cup", "_law_roll", "_law_word", "_law_words", "_law_days_right", "_law_rows_right"] : List Str)
theorem run_ (w : World) : HandSHeadRun.RunEqI R_ (PySem.W.view R_.prog [0, 60]) hk_ ob_ 20000 names_ w := by
  unfold HandSHeadRun.RunEqI
  kernel_rfl
theorem fx_ {h : Heap} {g : Gr} (X : g.K.In h) (G : h.Ns mainGlobals g.mg) (c : He.SaysD fa_ fn_ g.K) (e : ex_ g.K = true) : Fx g := by
  have e := e; unfold ex_ at e; simp only [Bool.and_eq_true, decide_eq_true_eq] at e
  exact ⟨He.free_ok X G (c.fact 0 (f := .free "ValueError") rfl),
    He.free_ok X G (c.fact 1 (f := .free "abs") rfl),
    He.free_ok X G (c.fact 2 (f := .free "all") rfl),
    He.free_ok X G (c.fact 3 (f := .free "any") rfl),
    He.free_ok X G (c.fact 4 (f := .free "bool") rfl),
    He.free_ok X G (c.fact 5 (f := .free "enumerate") rfl),
    He.free_ok X G (c.fact 6 (f := .free "int") rfl),
    He.free_ok X G (c.fact 7 (f := .free "isinstance") rfl),
    He.free_ok X G (c.fact 8 (f := .free "len") rfl),
    He.free_ok X G (c.fact 9 (f := .free "list") rfl),
    He.free_ok X G (c.fact 10 (f := .free "min") rfl),
    He.free_ok X G (c.fact 11 (f := .free "range") rfl),
    He.free_ok X G (c.fact 12 (f := .free "sorted") rfl),
    He.free_ok X G (c.fact 13 (f := .free "sum") rfl),
    He.free_ok X G (c.fact 14 (f := .free "tuple") rfl),
    He.free_ok X G (c.fact 15 (f := .free "zip") rfl),
    PySem.W.mg_of X G e.2,
    (let z := He.exc_ok (c.fact 69 (f := .exc "InvalidNumber") rfl); ⟨_, ⟨He.glo_ok X G (c.fact 71 (f := .glo "InvalidNumber") rfl), z.2.1, z.1, z.2.2.1, z.2.2.2⟩⟩),
    (let z := He.exc_ok (c.fact 70 (f := .exc "InvalidWeather") rfl); ⟨_, ⟨He.glo_ok X G (c.fact 72 (f := .glo "InvalidWeather") rfl), z.2.1, z.1, z.2.2.1, z.2.2.2⟩⟩),
    He.int_ok X G (c.fact 16 (f := .int "DAYS" 30) rfl),
    He.int_ok X G (c.fact 17 (f := .int "ROW" 30) rfl),
    He.int_ok X G (c.fact 18 (f := .int "SIGNS" 4) rfl),
    He.int_ok X G (c.fact 19 (f := .int "SORTS" 4) rfl),
    He.int_ok X G (c.fact 20 (f := .int "WHOLE" 12) rfl),
    ⟨_, wfB_ok X G e.1⟩⟩
theorem facts_ {P : Program} {h : Heap} {g : Gr} {cs : List (Addr × Addr)} {fa : Addr} (X : g.K.In h) (G : h.Ns mainGlobals g.mg) (c : He.SaysD fa_ fn_ g.K) (e : OkT g.K cs xs_ ex_) (hT : g.T = tabT cs xs_) (hfa : g.mg "law" = some (.ref fa)) :
    ∃ fd : FuncData, (∀ (s : Shared) (v : Value), BindsTo s fd ⟨[v], []⟩ [("script", v)]) ∧ ∀ base : Heap, (∀ p ∈ cs, LamX.TabB base g.mg p.1 p.2) → FnOk P g.w g.K g.mg base (L2N.CX P g.w) 18 fa fd ["script"] (spM g m_law) := by
  have x := fx_ X G c e.ex
  obtain ⟨fd_is_whole, F_is_whole⟩ := c.def_ 0 (d := dd_is_whole) rfl
  have g_is_whole : g.mg "is_whole" = some (.ref (He.ga g.K "is_whole")) := He.glo_ok X G (c.fact 21 (f := .glo "is_whole") rfl)
  obtain ⟨fd_is_tuple_of, F_is_tuple_of⟩ := c.def_ 1 (d := dd_is_tuple_of) rfl
  have g_is_tuple_of : g.mg "is_tuple_of" = some (.ref (He.ga g.K "is_tuple_of")) := He.glo_ok X G (c.fact 22 (f := .glo "is_tuple_of") rfl)
  obtain ⟨fd_is_rising, F_is_rising⟩ := c.def_ 2 (d := dd_is_rising) rfl
  have g_is_rising : g.mg "is_rising" = some (.ref (He.ga g.K "is_rising")) := He.glo_ok X G (c.fact 23 (f := .glo "is_rising") rfl)
  obtain ⟨fd_fits_some, F_fits_some⟩ := c.def_ 3 (d := dd_fits_some) rfl
  have g_fits_some : g.mg "fits_some" = some (.ref (He.ga g.K "fits_some")) := He.glo_ok X G (c.fact 24 (f := .glo "fits_some") rfl)
  obtain ⟨fd_fits_parts, F_fits_parts⟩ := c.def_ 4 (d := dd_fits_parts) rfl
  have g_fits_parts : g.mg "fits_parts" = some (.ref (He.ga g.K "fits_parts")) := He.glo_ok X G (c.fact 25 (f := .glo "fits_parts") rfl)
  obtain ⟨fd_fits_weather, F_fits_weather⟩ := c.def_ 5 (d := dd_fits_weather) rfl
  have g_fits_weather : g.mg "fits_weather" = some (.ref (He.ga g.K "fits_weather")) := He.glo_ok X G (c.fact 26 (f := .glo "fits_weather") rfl)
  obtain ⟨fd_need_weather, F_need_weather⟩ := c.def_ 6 (d := dd_need_weather) rfl
  have g_need_weather : g.mg "need_weather" = some (.ref (He.ga g.K "need_weather")) := He.glo_ok X G (c.fact 27 (f := .glo "need_weather") rfl)
  obtain ⟨fd_need_sort, F_need_sort⟩ := c.def_ 7 (d := dd_need_sort) rfl
  have g_need_sort : g.mg "need_sort" = some (.ref (He.ga g.K "need_sort")) := He.glo_ok X G (c.fact 28 (f := .glo "need_sort") rfl)
  obtain ⟨fd_need_days, F_need_days⟩ := c.def_ 8 (d := dd_need_days) rfl
  have g_need_days : g.mg "need_days" = some (.ref (He.ga g.K "need_days")) := He.glo_ok X G (c.fact 29 (f := .glo "need_days") rfl)
  obtain ⟨fd_fits_row, F_fits_row⟩ := c.def_ 9 (d := dd_fits_row) rfl
  have g_fits_row : g.mg "fits_row" = some (.ref (He.ga g.K "fits_row")) := He.glo_ok X G (c.fact 30 (f := .glo "fits_row") rfl)
  obtain ⟨fd_need_row, F_need_row⟩ := c.def_ 10 (d := dd_need_row) rfl
  have g_need_row : g.mg "need_row" = some (.ref (He.ga g.K "need_row")) := He.glo_ok X G (c.fact 31 (f := .glo "need_row") rfl)
  obtain ⟨fd_need_fine, F_need_fine⟩ := c.def_ 11 (d := dd_need_fine) rfl
  have g_need_fine : g.mg "need_fine" = some (.ref (He.ga g.K "need_fine")) := He.glo_ok X G (c.fact 32 (f := .glo "need_fine") rfl)
  obtain ⟨fd_power, F_power⟩ := c.def_ 12 (d := dd_power) rfl
  have g_power : g.mg "power" = some (.ref (He.ga g.K "power")) := He.glo_ok X G (c.fact 33 (f := .glo "power") rfl)
  obtain ⟨fd_cut, F_cut⟩ := c.def_ 13 (d := dd_cut) rfl
  have g_cut : g.mg "cut" = some (.ref (He.ga g.K "cut")) := He.glo_ok X G (c.fact 34 (f := .glo "cut") rfl)
  obtain ⟨fd_added, F_added⟩ := c.def_ 14 (d := dd_added) rfl
  have g_added : g.mg "added" = some (.ref (He.ga g.K "added")) := He.glo_ok X G (c.fact 35 (f := .glo "added") rfl)
  obtain ⟨fd_times, F_times⟩ := c.def_ 15 (d := dd_times) rfl
  have g_times : g.mg "times" = some (.ref (He.ga g.K "times")) := He.glo_ok X G (c.fact 36 (f := .glo "times") rfl)
  obtain ⟨fd_parted, F_parted⟩ := c.def_ 16 (d := dd_parted) rfl
  have g_parted : g.mg "parted" = some (.ref (He.ga g.K "parted")) := He.glo_ok X G (c.fact 37 (f := .glo "parted") rfl)
  obtain ⟨fd_next_days, F_next_days⟩ := c.def_ 17 (d := dd_next_days) rfl
  have g_next_days : g.mg "next_days" = some (.ref (He.ga g.K "next_days")) := He.glo_ok X G (c.fact 38 (f := .glo "next_days") rfl)
  obtain ⟨fd_line_behind, F_line_behind⟩ := c.def_ 18 (d := dd_line_behind) rfl
  have g_line_behind : g.mg "line_behind" = some (.ref (He.ga g.K "line_behind")) := He.glo_ok X G (c.fact 39 (f := .glo "line_behind") rfl)
  obtain ⟨fd_ways_of, F_ways_of⟩ := c.def_ 19 (d := dd_ways_of) rfl
  have g_ways_of : g.mg "ways_of" = some (.ref (He.ga g.K "ways_of")) := He.glo_ok X G (c.fact 40 (f := .glo "ways_of") rfl)
  obtain ⟨fd_first_step, F_first_step⟩ := c.def_ 20 (d := dd_first_step) rfl
  have g_first_step : g.mg "first_step" = some (.ref (He.ga g.K "first_step")) := He.glo_ok X G (c.fact 41 (f := .glo "first_step") rfl)
  obtain ⟨fd_likeliest_in, F_likeliest_in⟩ := c.def_ 21 (d := dd_likeliest_in) rfl
  have g_likeliest_in : g.mg "likeliest_in" = some (.ref (He.ga g.K "likeliest_in")) := He.glo_ok X G (c.fact 42 (f := .glo "likeliest_in") rfl)
  obtain ⟨fd_windows_in, F_windows_in⟩ := c.def_ 22 (d := dd_windows_in) rfl
  have g_windows_in : g.mg "windows_in" = some (.ref (He.ga g.K "windows_in")) := He.glo_ok X G (c.fact 43 (f := .glo "windows_in") rfl)
  obtain ⟨fd_reach_of, F_reach_of⟩ := c.def_ 23 (d := dd_reach_of) rfl
  have g_reach_of : g.mg "reach_of" = some (.ref (He.ga g.K "reach_of")) := He.glo_ok X G (c.fact 44 (f := .glo "reach_of") rfl)
  obtain ⟨fd_solved, F_solved⟩ := c.def_ 24 (d := dd_solved) rfl
  have g_solved : g.mg "solved" = some (.ref (He.ga g.K "solved")) := He.glo_ok X G (c.fact 45 (f := .glo "solved") rfl)
  obtain ⟨fd_closed_sorts, F_closed_sorts⟩ := c.def_ 25 (d := dd_closed_sorts) rfl
  have g_closed_sorts : g.mg "closed_sorts" = some (.ref (He.ga g.K "closed_sorts")) := He.glo_ok X G (c.fact 46 (f := .glo "closed_sorts") rfl)
  obtain ⟨fd_is_weather, F_is_weather⟩ := c.def_ 26 (d := dd_is_weather) rfl
  have g_is_weather : g.mg "is_weather" = some (.ref (He.ga g.K "is_weather")) := He.glo_ok X G (c.fact 47 (f := .glo "is_weather") rfl)
  obtain ⟨fd_chance_at, F_chance_at⟩ := c.def_ 27 (d := dd_chance_at) rfl
  have g_chance_at : g.mg "chance_at" = some (.ref (He.ga g.K "chance_at")) := He.glo_ok X G (c.fact 48 (f := .glo "chance_at") rfl)
  obtain ⟨fd_row_chance, F_row_chance⟩ := c.def_ 28 (d := dd_row_chance) rfl
  have g_row_chance : g.mg "row_chance" = some (.ref (He.ga g.K "row_chance")) := He.glo_ok X G (c.fact 49 (f := .glo "row_chance") rfl)
  obtain ⟨fd_likeliest, F_likeliest⟩ := c.def_ 29 (d := dd_likeliest) rfl
  have g_likeliest : g.mg "likeliest" = some (.ref (He.ga g.K "likeliest")) := He.glo_ok X G (c.fact 50 (f := .glo "likeliest") rfl)
  obtain ⟨fd_can_come, F_can_come⟩ := c.def_ 30 (d := dd_can_come) rfl
  have g_can_come : g.mg "can_come" = some (.ref (He.ga g.K "can_come")) := He.glo_ok X G (c.fact 51 (f := .glo "can_come") rfl)
  obtain ⟨fd_need_length, F_need_length⟩ := c.def_ 31 (d := dd_need_length) rfl
  have g_need_length : g.mg "need_length" = some (.ref (He.ga g.K "need_length")) := He.glo_ok X G (c.fact 52 (f := .glo "need_length") rfl)
  obtain ⟨fd_window_chance, F_window_chance⟩ := c.def_ 32 (d := dd_window_chance) rfl
  have g_window_chance : g.mg "window_chance" = some (.ref (He.ga g.K "window_chance")) := He.glo_ok X G (c.fact 53 (f := .glo "window_chance") rfl)
  obtain ⟨fd_next_state, F_next_state⟩ := c.def_ 33 (d := dd_next_state) rfl
  have g_next_state : g.mg "next_state" = some (.ref (He.ga g.K "next_state")) := He.glo_ok X G (c.fact 54 (f := .glo "next_state") rfl)
  obtain ⟨fd_states_of, F_states_of⟩ := c.def_ 34 (d := dd_states_of) rfl
  have g_states_of : g.mg "states_of" = some (.ref (He.ga g.K "states_of")) := He.glo_ok X G (c.fact 55 (f := .glo "states_of") rfl)
  obtain ⟨fd_ends_from, F_ends_from⟩ := c.def_ 35 (d := dd_ends_from) rfl
  have g_ends_from : g.mg "ends_from" = some (.ref (He.ga g.K "ends_from")) := He.glo_ok X G (c.fact 56 (f := .glo "ends_from") rfl)
  obtain ⟨fd_ways_to, F_ways_to⟩ := c.def_ 36 (d := dd_ways_to) rfl
  have g_ways_to : g.mg "ways_to" = some (.ref (He.ga g.K "ways_to")) := He.glo_ok X G (c.fact 57 (f := .glo "ways_to") rfl)
  obtain ⟨fd_mean_wait, F_mean_wait⟩ := c.def_ 37 (d := dd_mean_wait) rfl
  have g_mean_wait : g.mg "mean_wait" = some (.ref (He.ga g.K "mean_wait")) := He.glo_ok X G (c.fact 58 (f := .glo "mean_wait") rfl)
  obtain ⟨fd_lasting, F_lasting⟩ := c.def_ 38 (d := dd_lasting) rfl
  have g_lasting : g.mg "lasting" = some (.ref (He.ga g.K "lasting")) := He.glo_ok X G (c.fact 59 (f := .glo "lasting") rfl)
  obtain ⟨fd_fits_signs, F_fits_signs⟩ := c.def_ 39 (d := dd_fits_signs) rfl
  have g_fits_signs : g.mg "fits_signs" = some (.ref (He.ga g.K "fits_signs")) := He.glo_ok X G (c.fact 60 (f := .glo "fits_signs") rfl)
  obtain ⟨fd_told_by, F_told_by⟩ := c.def_ 40 (d := dd_told_by) rfl
  have g_told_by : g.mg "told_by" = some (.ref (He.ga g.K "told_by")) := He.glo_ok X G (c.fact 61 (f := .glo "told_by") rfl)
  obtain ⟨fd__law_cup, F__law_cup⟩ := c.def_ 41 (d := dd__law_cup) rfl
  have g__law_cup : g.mg "_law_cup" = some (.ref (He.ga g.K "_law_cup")) := He.glo_ok X G (c.fact 62 (f := .glo "_law_cup") rfl)
  obtain ⟨fd__law_roll, F__law_roll⟩ := c.def_ 42 (d := dd__law_roll) rfl
  have g__law_roll : g.mg "_law_roll" = some (.ref (He.ga g.K "_law_roll")) := He.glo_ok X G (c.fact 63 (f := .glo "_law_roll") rfl)
  obtain ⟨fd__law_words, F__law_words⟩ := c.def_ 43 (d := dd__law_words) rfl
  have g__law_words : g.mg "_law_words" = some (.ref (He.ga g.K "_law_words")) := He.glo_ok X G (c.fact 64 (f := .glo "_law_words") rfl)
  obtain ⟨fd__law_days_right, F__law_days_right⟩ := c.def_ 44 (d := dd__law_days_right) rfl
  have g__law_days_right : g.mg "_law_days_right" = some (.ref (He.ga g.K "_law_days_right")) := He.glo_ok X G (c.fact 65 (f := .glo "_law_days_right") rfl)
  obtain ⟨fd__law_rows_right, F__law_rows_right⟩ := c.def_ 45 (d := dd__law_rows_right) rfl
  have g__law_rows_right : g.mg "_law_rows_right" = some (.ref (He.ga g.K "_law_rows_right")) := He.glo_ok X G (c.fact 66 (f := .glo "_law_rows_right") rfl)
  obtain ⟨fd_law, F_law⟩ := c.def_ 46 (d := dd_law) rfl
  have g_law : g.mg "law" = some (.ref (He.ga g.K "law")) := He.glo_ok X G (c.fact 67 (f := .glo "law") rfl)
  obtain ⟨fd__law_word, F__law_word⟩ := c.def_ 47 (d := dd__law_word) rfl
  have g__law_word : g.mg "_law_word" = some (.ref (He.ga g.K "_law_word")) := He.glo_ok X G (c.fact 68 (f := .glo "_law_word") rfl)
  have e0 := hfa.symm.trans g_law; cases e0
  refine ⟨fd_law, fun s v => (FunD.bindsA (ps := ["script"]) F_law fun _ _ _ _ _ _ us hl => match us, hl with | [_], _ => rfl) s [v] rfl, fun base tb => ?_⟩
  have wd := w_word (P := P) (base := base) F__law_word g__law_word x
  have h_is_whole : HasX P base g 1 "is_whole" m_is_whole := d_is_whole (k := 0) F_is_whole g_is_whole x 
  have h_is_tuple_of : HasX P base g 1 "is_tuple_of" m_is_tuple_of := d_is_tuple_of (k := 0) F_is_tuple_of g_is_tuple_of x 
  have h_is_rising : HasX P base g 1 "is_rising" m_is_rising := d_is_rising (k := 0) F_is_rising g_is_rising x 
  have h_fits_some : HasX P base g 2 "fits_some" m_fits_some := d_fits_some (k := 1) F_fits_some g_fits_some x (h_is_tuple_of.mono (by decide)) (h_is_whole.mono (by decide)) (h_is_rising.mono (by decide))
  have h_fits_parts : HasX P base g 2 "fits_parts" m_fits_parts := d_fits_parts (k := 1) F_fits_parts g_fits_parts x (h_is_tuple_of.mono (by decide)) (h_is_whole.mono (by decide))
  have h_fits_weather : HasX P base g 3 "fits_weather" m_fits_weather := d_fits_weather (k := 2) F_fits_weather g_fits_weather x (h_is_tuple_of.mono (by decide)) (h_fits_parts.mono (by decide))
  have h_need_weather : HasX P base g 4 "need_weather" m_need_weather := d_need_weather (k := 3) F_need_weather g_need_weather x (h_fits_weather.mono (by decide))
  have h_need_sort : HasX P base g 2 "need_sort" m_need_sort := d_need_sort (k := 1) F_need_sort g_need_sort x (h_is_whole.mono (by decide))
  have h_need_days : HasX P base g 2 "need_days" m_need_days := d_need_days (k := 1) F_need_days g_need_days x (h_is_whole.mono (by decide))
  have h_fits_row : HasX P base g 2 "fits_row" m_fits_row := d_fits_row (k := 1) F_fits_row g_fits_row x (h_is_tuple_of.mono (by decide)) (h_is_whole.mono (by decide))
  have h_need_row : HasX P base g 3 "need_row" m_need_row := d_need_row (k := 2) F_need_row g_need_row x (h_fits_row.mono (by decide))
  have h_need_fine : HasX P base g 3 "need_fine" m_need_fine := d_need_fine (k := 2) F_need_fine g_need_fine x (h_fits_some.mono (by decide))
  have h_power : HasX P base g 1 "power" m_power := d_power (k := 0) F_power g_power x 
  have h_cut : HasX P base g 1 "cut" m_cut := d_cut (k := 0) F_cut g_cut x 
  have h_added : HasX P base g 2 "added" m_added := d_added (k := 1) F_added g_added x (h_cut.mono (by decide))
  have h_times : HasX P base g 2 "times" m_times := d_times (k := 1) F_times g_times x (h_cut.mono (by decide))
  have h_parted : HasX P base g 2 "parted" m_parted := d_parted (k := 1) F_parted g_parted x (h_cut.mono (by decide))
  have h_next_days : HasX P base g 1 "next_days" m_next_days := d_next_days (k := 0) F_next_days g_next_days x 
  have h_line_behind : HasX P base g 2 "line_behind" m_line_behind := d_line_behind (k := 1) F_line_behind g_line_behind x (h_next_days.mono (by decide))
  have h_ways_of : HasX P base g 1 "ways_of" m_ways_of := d_ways_of (k := 0) F_ways_of g_ways_of x 
  have h_first_step : HasX P base g 1 "first_step" m_first_step := d_first_step (k := 0) F_first_step g_first_step x 
  have h_likeliest_in : HasX P base g 2 "likeliest_in" m_likeliest_in := d_likeliest_in (k := 1) F_likeliest_in g_likeliest_in x (h_first_step.mono (by decide))
  have h_windows_in : HasX P base g 1 "windows_in" m_windows_in := d_windows_in (k := 0) F_windows_in g_windows_in x 
  have h_reach_of : HasX P base g 1 "reach_of" m_reach_of := d_reach_of (k := 0) F_reach_of g_reach_of x 
  have h_solved : HasX P base g 3 "solved" m_solved := d_solved (k := 2) F_solved g_solved x (h_parted.mono (by decide)) (h_added.mono (by decide)) (h_times.mono (by decide))
  have h_closed_sorts : HasX P base g 2 "closed_sorts" m_closed_sorts := d_closed_sorts (k := 1) F_closed_sorts g_closed_sorts x (h_reach_of.mono (by decide))
  have h_is_weather : HasX P base g 4 "is_weather" m_is_weather := d_is_weather (k := 3) F_is_weather g_is_weather x (h_fits_weather.mono (by decide))
  have h_chance_at : HasX P base g 5 "chance_at" m_chance_at := d_chance_at (k := 4) F_chance_at g_chance_at x (h_need_weather.mono (by decide)) (h_need_sort.mono (by decide)) (h_need_days.mono (by decide)) (h_cut.mono (by decide)) (h_line_behind.mono (by decide)) (h_power.mono (by decide))
  have h_row_chance : HasX P base g 5 "row_chance" m_row_chance := d_row_chance (k := 4) F_row_chance g_row_chance x (h_need_weather.mono (by decide)) (h_need_sort.mono (by decide)) (h_need_row.mono (by decide)) (h_cut.mono (by decide)) (h_ways_of.mono (by decide)) (h_power.mono (by decide))
  have h_likeliest : HasX P base g 5 "likeliest" m_likeliest := d_likeliest (k := 4) F_likeliest g_likeliest x (h_need_weather.mono (by decide)) (h_need_sort.mono (by decide)) (h_need_days.mono (by decide)) (h_likeliest_in.mono (by decide)) (h_cut.mono (by decide)) (h_power.mono (by decide))
  have h_can_come : HasX P base g 5 "can_come" m_can_come := d_can_come (k := 4) F_can_come g_can_come x (h_need_weather.mono (by decide)) (h_need_sort.mono (by decide)) (h_reach_of.mono (by decide))
  have h_need_length : HasX P base g 2 "need_length" m_need_length := d_need_length (k := 1) F_need_length g_need_length x (h_is_whole.mono (by decide))
  have h_window_chance : HasX P base g 5 "window_chance" m_window_chance := d_window_chance (k := 4) F_window_chance g_window_chance x (h_need_weather.mono (by decide)) (h_need_sort.mono (by decide)) (h_need_days.mono (by decide)) (h_need_fine.mono (by decide)) (h_need_length.mono (by decide)) (h_cut.mono (by decide)) (h_windows_in.mono (by decide)) (h_power.mono (by decide))
  have h_next_state : HasX P base g 1 "next_state" m_next_state := d_next_state (k := 0) F_next_state g_next_state x 
  have h_states_of : HasX P base g 2 "states_of" m_states_of := d_states_of (k := 1) F_states_of g_states_of x (h_next_state.mono (by decide))
  have h_ends_from : HasX P base g 2 "ends_from" m_ends_from := d_ends_from (k := 1) F_ends_from g_ends_from x (h_next_state.mono (by decide))
  have h_ways_to : HasX P base g 2 "ways_to" m_ways_to := d_ways_to (k := 1) F_ways_to g_ways_to x (h_next_state.mono (by decide))
  have h_mean_wait : HasX P base g 5 "mean_wait" m_mean_wait := d_mean_wait (k := 4) F_mean_wait g_mean_wait x (h_need_weather.mono (by decide)) (h_need_sort.mono (by decide)) (h_need_fine.mono (by decide)) (h_need_length.mono (by decide)) (h_states_of.mono (by decide)) (h_ends_from.mono (by decide)) (h_cut.mono (by decide)) (h_ways_to.mono (by decide)) (h_solved.mono (by decide))
  have h_lasting : HasX P base g 5 "lasting" m_lasting := d_lasting (k := 4) F_lasting g_lasting x (h_need_weather.mono (by decide)) (h_closed_sorts.mono (by decide)) (h_cut.mono (by decide)) (h_solved.mono (by decide))
  have h_fits_signs : HasX P base g 3 "fits_signs" m_fits_signs := d_fits_signs (k := 2) F_fits_signs g_fits_signs x (h_is_tuple_of.mono (by decide)) (h_fits_parts.mono (by decide))
  have h_told_by : HasX P base g 5 "told_by" m_told_by := d_told_by (k := 4) F_told_by g_told_by x (h_need_weather.mono (by decide)) (h_need_sort.mono (by decide)) (h_fits_signs.mono (by decide)) (h_fits_row.mono (by decide)) (h_line_behind.mono (by decide)) (h_next_days.mono (by decide)) (h_cut.mono (by decide))
  have h__law_cup : HasX P base g 1 "_law_cup" m__law_cup := d__law_cup (k := 0) F__law_cup g__law_cup x 
  have h__law_roll : HasX P base g 1 "_law_roll" m__law_roll := d__law_roll (k := 0) F__law_roll g__law_roll x 
  have h__law_words : HasX P base g 11 "_law_words" m__law_words := d__law_words (k := 5) F__law_words g__law_words x (e.lam rfl hT tb F__law_words 0 rfl (He.eqO_ok (c.fact 64 (f := .glo "_law_words") rfl))) wd (h_can_come.mono (by decide)) (h_likeliest.mono (by decide)) (h_window_chance.mono (by decide)) (h_mean_wait.mono (by decide))
  have h__law_days_right : HasX P base g 17 "_law_days_right" m__law_days_right := d__law_days_right (k := 11) F__law_days_right g__law_days_right x (e.lam rfl hT tb F__law_days_right 1 rfl (He.eqO_ok (c.fact 65 (f := .glo "_law_days_right") rfl))) wd (h__law_roll.mono (by decide)) (h_lasting.mono (by decide)) (h_chance_at.mono (by decide)) (h_row_chance.mono (by decide)) (h_told_by.mono (by decide)) (h__law_words.mono (by decide)) (h_is_weather.mono (by decide))
  have h__law_rows_right : HasX P base g 11 "_law_rows_right" m__law_rows_right := d__law_rows_right (k := 5) F__law_rows_right g__law_rows_right x (e.lam rfl hT tb F__law_rows_right 2 rfl (He.eqO_ok (c.fact 66 (f := .glo "_law_rows_right") rfl))) wd (h__law_roll.mono (by decide)) (h_row_chance.mono (by decide)) (h_told_by.mono (by decide))
  exact k_law (k := 17) F_law x (h__law_cup.mono (by decide)) (h__law_days_right.mono (by decide)) (h__law_rows_right.mono (by decide))
theorem law_holds (hl : ∀ ns : List Int, ns.length ≤ 63 → ∀ x, (x = D.scr ns ∨ x = D.lst (ns.map D.int)) → ∃ cs', m_law [.va x] = some (.ok (.va (.bl true)), cs')) : PySem.Challenge.rw_highground_k91_whole_errors_of_weather.Holds := by
  w_on; o_law
  refine HandSHeadRun.head_imp (r := PySem.W.OpenLaw.row PySem.Challenge.rw_highground_k91_whole_errors_of_weather) (q := PySem.W.view (PySem.W.OpenLaw.row PySem.Challenge.rw_highground_k91_whole_errors_of_weather).prog [0, 60]) (H := hk_) (ob := ob_) (M := 20000) (loose := names_) (d := HandSHeadRun.topDef (PySem.W.OpenLaw.row PySem.Challenge.rw_highground_k91_whole_errors_of_weather).prog 60) (kwd := []) ob_eq
    run_ (by kernel_rfl) (by kernel_rfl) (by kernel_rfl) (by rfl) (by first | assumption | decide +kernel) (by decide +kernel) ⟨rfl, rfl, rfl, rfl, rfl, by decide +kernel⟩ ?hw ?hc
  case hw => w_witness2
  case hc =>
    refine LamX.walk_ofTsE (l := PySem.Challenge.rw_highground_k91_whole_errors_of_weather) (n := 63) (k := 18) (x := "script") (CX := fun w => L2N.CX (PySem.Challenge.rw_highground_k91_whole_errors_of_weather).prog w) rfl (by decide) (by kernel_rfl) ⟨rfl, by decide, by decide⟩ ?F (fun _ _ _ _ _ z => cxN_false z)
    intro w mg fa h Y G hmg0
    obtain ⟨K, cs, KX, c, ok, ht⟩ := Y
    have ok := okT_ok ok
    have hmg : mg ("law" : PySem.Str) = some (.ref fa) := by
      have e : (HandSHeadRun.topDef (PySem.W.OpenLaw.row PySem.Challenge.rw_highground_k91_whole_errors_of_weather).prog 60).name = ("law" : PySem.Str) := by kernel_rfl
      rw [← e]
      exact hmg0
    obtain ⟨fd, hb, hF⟩ := facts_ (P := (PySem.Challenge.rw_highground_k91_whole_errors_of_weather).prog) (g := ⟨K, w, mg, tabT cs xs_, fun _ => 0⟩) KX G c ok rfl hmg
    exact ⟨K, KX, fd, cs, _, ht, ok.nl, fun p hp => PySem.W.codeHd_of_K KX (ok.cd p hp), hb, fun H a ns hl1 _ hH hS => sp_lawT (g := ⟨K, w, mg, tabT cs xs_, fun _ => 0⟩) hS (tabs_nil hH) (hl ns hl1), fun base _ _ tb => hF base tb⟩
end
end Mm.L91
-- text L91
set_option Elab.async false
set_option linter.all false
set_option maxRecDepth 100000
set_option maxHeartbeats 0
namespace Mm.L91
open PySem
theorem roll91 (a b : Int) : ∃ r a' b', (r = 0 ∨ r = 1 ∨ r = 2 ∨ r = 3) ∧ m__law_roll [.bo (cupD a b), .va (.int 4)] = some (.ok (.va (.int r)), [.bo (cupD a' b'), .un]) := by
  obtain ⟨r, a', b', h0, h1, h⟩ := roll_ok (F := 30971) (G := 7937) (H := 2147483399) (I := 269) (J := 2147483563) (L := 857) (a := a) (b := b) (n := 4) (by decide) (by decide) (by decide) (by decide) (by decide)
  exact ⟨r, a', b', by omega, h⟩
/-- 1 + a roll, stored -/
theorem many91 {a b r a' b' : Int} {tl : Env} (h : m__law_roll [.bo (cupD a b), .va (.int 4)] = some (.ok (.va (.int r)), [.bo (cupD a' b'), .un])) :
    mSet 1 (mOp2 fAdd (mK (.int 1)) (mCall m__law_roll (mACons (mVar 0) (mACons (mK (.int 4)) mANil)))) (.bo (cupD a b) :: .un :: tl) = some (.ok .nx, .bo (cupD a' b') :: .va (.int (1 + r)) :: tl) := by
  have e := call_roll (tl := .un :: tl) h
  simp [mSet, mOp2, mK, bnd, ret] at e ⊢
  simp [e, deref, fAdd, vInt, store, put1, isPin]
theorem days91_0 (a b : Int) : tells (t__law_days_right [.bo (cupD a b), .va (.int 1), .un, .un, .un]) = some (.bo (cupD a b)) := by kernel_rfl
theorem days91_1 (a b : Int) : tells (t__law_days_right [.bo (cupD a b), .va (.int 2), .un, .un, .un]) = some (.bo (cupD a b)) := by kernel_rfl
theorem days91_2 (a b : Int) : tells (t__law_days_right [.bo (cupD a b), .va (.int 3), .un, .un, .un]) = some (.bo (cupD a b)) := by kernel_rfl
theorem days91_3 (a b : Int) : tells (t__law_days_right [.bo (cupD a b), .va (.int 4), .un, .un, .un]) = some (.bo (cupD a b)) := by kernel_rfl
theorem days91 (a b r : Int) (hr : r = 0 ∨ r = 1 ∨ r = 2 ∨ r = 3) : tells (t__law_days_right [.bo (cupD a b), .va (.int (1 + r)), .un, .un, .un]) = some (.bo (cupD a b)) := by
  rcases hr with rfl | rfl | rfl | rfl
  · exact days91_0 a b
  · exact days91_1 a b
  · exact days91_2 a b
  · exact days91_3 a b
theorem rows91_0 (a b : Int) : tells (t__law_rows_right [.bo (cupD a b), .va (.int 1), .un, .un, .un, .un, .un]) = some (.bo (cupD a b)) := by kernel_rfl
theorem rows91_1 (a b : Int) : tells (t__law_rows_right [.bo (cupD a b), .va (.int 2), .un, .un, .un, .un, .un]) = some (.bo (cupD a b)) := by kernel_rfl
theorem rows91_2 (a b : Int) : tells (t__law_rows_right [.bo (cupD a b), .va (.int 3), .un, .un, .un, .un, .un]) = some (.bo (cupD a b)) := by kernel_rfl
theorem rows91_3 (a b : Int) : tells (t__law_rows_right [.bo (cupD a b), .va (.int 4), .un, .un, .un, .un, .un]) = some (.bo (cupD a b)) := by kernel_rfl
theorem rows91 (a b r : Int) (hr : r = 0 ∨ r = 1 ∨ r = 2 ∨ r = 3) : tells (t__law_rows_right [.bo (cupD a b), .va (.int (1 + r)), .un, .un, .un, .un, .un]) = some (.bo (cupD a b)) := by
  rcases hr with rfl | rfl | rfl | rfl
  · exact rows91_0 a b
  · exact rows91_1 a b
  · exact rows91_2 a b
  · exact rows91_3 a b
theorem days_ok (a b : Int) : ∃ a' b', m__law_days_right [.bo (cupD a b)] = some (.ok (.va (.bl true)), [.bo (cupD a' b')]) := by
  obtain ⟨r, a', b', hr, hc⟩ := roll91 a b
  exact ⟨a', b', def_cup (m := 4) (many91 hc) (days91 a' b' r hr)⟩
theorem rows_ok (a b : Int) : ∃ a' b', m__law_rows_right [.bo (cupD a b)] = some (.ok (.va (.bl true)), [.bo (cupD a' b')]) := by
  obtain ⟨r, a', b', hr, hc⟩ := roll91 a b
  exact ⟨a', b', def_cup (m := 6) (many91 hc) (rows91 a' b' r hr)⟩
theorem plain91 (ns : List Int) (hl : ns.length ≤ 63) (x : D) (hx : x = D.scr ns ∨ x = D.lst (ns.map D.int)) : ∃ cs', m_law [.va x] = some (.ok (.va (.bl true)), cs') := by
  obtain ⟨a, b, hc⟩ := cup_ok (A := 107) (B := 353) (C := 4079) (D' := 2077503199) (E := 193) hx hl (by decide) (by decide) (by decide)
  obtain ⟨a1, b1, h1⟩ := days_ok a b
  obtain ⟨a2, b2, h2⟩ := rows_ok a1 b1
  exact ⟨_, law_two (mc := m__law_cup) hc rfl h1 h2⟩
end Mm.L91
theorem PySem.Challenge.cw_highground_k91_whole_errors_of_weather_holds : PySem.Challenge.rw_highground_k91_whole_errors_of_weather.Holds := by
  exact Mm.L91.law_holds Mm.L91.plain91
