import PyProof.Rows.All
import Wide.All
import OpenK.AllK
import Wide.FinOn
import PyProof.Rules2
import PyProof.AssignAttr
import PyProof.FactsAll.tuple_2
import PyProof.TupleIter
import PyProof.SliceSyntax
import PyProof.ForAny
import PyProof.CompUse
import PyProof.WalksMore
import PyProof.ListMulRoad
import PyProof.Rows.TupAssign
import PyProof.Rows.LoopUnroll
import PyProof.Rows.SeqSlice
import PyProof.Rows.ListMulArg
import PyProof.Rows.TupMore
import PyProof.RulesFinally
import PyProof.Rows.TupDisplay
import PyProof.Rows.ListUnroll
import KE.BitLaws
import OpenK.KLine
import KE.KPop
import KE.KListMore
import KE.KDeep
import KE.KDictOf
import KE.KEqSeq
import KE.KEqDict
import KE.KSliceW
import KE.KPairComp
import PySem.Challenge.RW_nn0348_01
set_option Elab.async false
set_option maxRecDepth 100000
set_option autoImplicit false
set_option backward.match.sparseCases false
set_option genSizeOf false
set_option genInjectivity false
namespace Mine
open PySem PySem.W PyProof.Rows PySem.Calls PySem.Spec
section
/-! small laws of numbers, used often -/
theorem ble_of {c d : Nat} (h : Nat.ble c d = true) : c ≤ d := Nat.le_of_ble_eq_true h
theorem ql {b c q : Nat} (h : Nat.ble b c = true) : b ≤ q + c := Nat.le_trans (ble_of h) (Nat.le_add_left c q)
theorem lt2 {c d n : Nat} (hn : d ≤ n) (h : Nat.ble c d = true) : c ≤ n := Nat.le_trans (ble_of h) hn
theorem le_lit {x c d : Nat} (hx : x ≤ c) (h : Nat.ble c d = true) : x ≤ d := Nat.le_trans hx (ble_of h)
theorem far {a b c q : Nat} (hq : a + b ≤ q) (h : Nat.ble c b = true) : q = q - c + c := by
  have := ble_of h; omega
theorem nx {a b c q : Nat} (h : a + 1 + b ≤ q + (c + 1)) : a + b ≤ q + c := by omega
theorem sw (a b : Nat) : a + 1 + b = a + (b + 1) := by omega
theorem sw1 {a b c : Nat} (h : a + (b + 1) ≤ c) : a + 1 + b ≤ c := by omega
theorem sw2 {a b c : Nat} (h : c ≤ a + 1 + b) : c ≤ a + (b + 1) := by omega
theorem su1 {a b c d : Nat} (h : a + b ≤ c) (e : Nat.ble c d = true) : a ≤ d := by
  have := ble_of e; omega
theorem su2 {a b c d : Nat} (h : a + (b + 1) ≤ c) (e : Nat.ble c d = true) : b ≤ d := by
  have := ble_of e; omega
theorem ad1 {x c d e : Nat} (h : x ≤ c) (h' : Nat.ble (c + e) d = true) : x + e ≤ d := by
  have := ble_of h'; omega
theorem ad2 {x c d e : Nat} (h : x ≤ c) (h' : Nat.ble (e + c) d = true) : e + x ≤ d := by
  have := ble_of h'; omega
theorem ad3 {x y c d e : Nat} (h : y ≤ x + 1) (hx : x ≤ c) (h' : Nat.ble (c + 1 + e) d = true) : y + e ≤ d := by
  have := ble_of h'; omega
theorem mu0 {a c d n : Nat} (h : a + c ≤ n) (e : Nat.ble d c = true) : d ≤ n := by
  have := ble_of e; omega
theorem mu1 {m c d n : Nat} (h : 2 * m + c ≤ n) (e : Nat.ble d c = true) : 2 * m + d ≤ n := by
  have := ble_of e; omega
theorem mu2 {m m2 c d n : Nat} (h : 2 * m + c ≤ n) (hm : m2 ≤ m) (e : Nat.ble d c = true) : 2 * m2 + d ≤ n := by
  have := ble_of e; omega
theorem mu3 {m c d a n : Nat} (hm : m ≤ a) (hn : d ≤ n) (e : Nat.ble (2 * a + c) d = true) : 2 * m + c ≤ n := by
  have := ble_of e; omega
theorem mu4 {m c d n : Nat} (h : 2 * (m + 1) + c ≤ n) (e : Nat.ble d (c + 2) = true) : 2 * m + d ≤ n := by
  have := ble_of e; omega
theorem mu5 {m c d n : Nat} (h : 2 * (m + 1) + c ≤ n) (e : Nat.ble d (c + 2) = true) : d ≤ n := by
  have := ble_of e; omega
theorem ne2 {a j r : Nat} (h : a ≤ j) (h' : r < a) : ¬ j = r := by omega
theorem ne3 {a j r : Nat} (h : a ≤ j) (h' : r < a) : ¬ r = j := by omega
theorem ne4 {a b j r : Nat} (h' : r < a) (h1 : a ≤ b) (h : b ≤ j) : ¬ j = r := by omega
theorem ne5 {a r : Nat} (h' : r < a) : ¬ a + 1 = r := by omega
theorem qs2 {q : Int} (h : 0 ≤ q) (h' : q < (2 : Nat)) : q = 0 ∨ q = 1 := by omega
theorem qs3 {q : Int} (h : 0 ≤ q) (h' : q < (3 : Nat)) : q = 0 ∨ q = 1 ∨ q = 2 := by omega
theorem qs4 {q : Int} (h : 0 ≤ q) (h' : q < (4 : Nat)) : q = 0 ∨ q = 1 ∨ q = 2 ∨ q = 3 := by omega
theorem ilt {q : Int} {a : Nat} {b : Int} (h' : q < (a : Nat)) (e : decide ((a : Int) ≤ b + 1) = true) : q ≤ b := by
  have := of_decide_eq_true e; omega
theorem sm1 {x a b : Int} (h : a ≤ x ∧ x ≤ b) (e : decide (-1000 ≤ a ∧ b ≤ 1000) = true) : x.natAbs < 2 ^ 64 := by
  have := of_decide_eq_true e; omega
theorem sm2 {x a b : Int} (h : a ≤ x) (h' : x ≤ b) (e : decide (-1000 ≤ a ∧ b ≤ 1000) = true) : x.natAbs < 2 ^ 64 := by
  have := of_decide_eq_true e; omega
theorem in1 {x a b c d : Int} (h : a ≤ x ∧ x ≤ b) (e : decide (c ≤ a ∧ b ≤ d) = true) : c ≤ x ∧ x ≤ d := by
  have := of_decide_eq_true e; omega
theorem in2 {x q a b c d : Int} {k : Nat} (h : a ≤ x ∧ x ≤ b) (h0 : 0 ≤ q) (h1 : q < (k : Nat)) (e : decide (c ≤ a ∧ b + k ≤ d + 1) = true) : c ≤ x + q ∧ x + q ≤ d := by
  have := of_decide_eq_true e; omega
theorem in3 {q c d e0 : Int} {k : Nat} (h0 : 0 ≤ q) (h1 : q < (k : Nat)) (e : decide (c ≤ -e0 ∧ (k : Int) ≤ d + e0 + 1) = true) : c ≤ q - e0 ∧ q - e0 ≤ d := by
  have := of_decide_eq_true e; omega
theorem mn1 {x c d e : Nat} (h : x ≤ c) (e' : Nat.ble e d = true) : min e x ≤ d := by
  have := ble_of e'; omega
theorem iq1 (v a b : Int) : v + (a + b) = v + b + a := by omega
theorem sa1 {a b c d : Nat} (h : a + (b + 1) ≤ c) (h' : d ≤ a + 1) : d + b ≤ c := by omega
theorem sa2 {a b d e : Nat} (h' : d ≤ a + 1) (h : e ≤ d + b) : e ≤ a + (b + 1) := by omega
theorem lt_sub {a i : Nat} (h : i < a) : a + 1 - (i + 1) < a + 1 - i := by omega
end
local macro_rules
  | `(tactic| omega) => `(tactic| first
    | decide
    | exact ql rfl
    | exact nx (by assumption)
    | exact lt2 (by assumption) (by exact rfl)
    | exact le_lit (by assumption) (by exact rfl)
    | exact far (by assumption) (by exact rfl)
    | exact Nat.le_trans (by assumption) (by assumption)
    | exact sw _ _
    | exact (sw _ _).symm
    | exact sw1 (by assumption)
    | exact sw2 (by assumption)
    | exact mu0 (by assumption) (by exact rfl)
    | exact mu5 (by assumption) (by exact rfl)
    | exact mu1 (by assumption) (by exact rfl)
    | exact mu2 (by assumption) (by assumption) (by exact rfl)
    | exact mu4 (by assumption) (by exact rfl)
    | exact mu3 (by assumption) (by assumption) (by exact rfl)
    | exact su1 (by assumption) (by exact rfl)
    | exact su2 (by assumption) (by exact rfl)
    | exact ad1 (by assumption) (by exact rfl)
    | exact ad2 (by assumption) (by exact rfl)
    | exact ad3 (by assumption) (by assumption) (by exact rfl)
    | exact Nat.ne_of_gt (by assumption)
    | exact Nat.ne_of_lt (by assumption)
    | exact ne2 (by assumption) (by assumption)
    | exact ne3 (by assumption) (by assumption)
    | exact ne4 (by assumption) (by assumption) (by assumption)
    | exact ne5 (by assumption)
    | exact qs2 (by assumption) (by assumption)
    | exact qs3 (by assumption) (by assumption)
    | exact qs4 (by assumption) (by assumption)
    | exact sm1 (by assumption) (by exact rfl)
    | exact sm2 (by assumption) (by assumption) (by exact rfl)
    | exact in1 (by assumption) (by exact rfl)
    | exact in2 (by assumption) (by assumption) (by assumption) (by exact rfl)
    | exact in3 (by assumption) (by assumption) (by exact rfl)
    | exact mn1 (by assumption) (by exact rfl)
    | exact ilt (by assumption) (by exact rfl)
    | exact iq1 _ _ _
    | omega (config := {}))
section
/-! A small machine over plain data: what the law's functions compute, without the interpreter's heap. -/
noncomputable abbrev Txt := List Nat
noncomputable def sT (x : Str) : Txt := x.cps.toList
noncomputable def tS (t : Txt) : Str := ⟨t.toArray⟩
noncomputable def bsel {α : Type} (b : Bool) (x y : α) : α := match b with | true => x | false => y
theorem bsel_inv {α : Type} {b : Bool} {x y : Option α} {c : α} (h : bsel b x y = some c) : (b = true ∧ x = some c) ∨ y = some c := by
  cases b with
  | true => exact .inl ⟨rfl, h⟩
  | false => exact .inr h
theorem and_of {a b : Bool} (h : (a && b) = true) : a = true ∧ b = true := by
  cases a with
  | true => exact ⟨rfl, h⟩
  | false => cases h
theorem or_of {a b : Bool} (h : (a || b) = true) : a = true ∨ b = true := by
  cases a with
  | true => exact .inl rfl
  | false => exact .inr h
noncomputable def isNil {α : Type} : List α → Bool
  | [] => true
  | _ :: _ => false
noncomputable def teq : Txt → Txt → Bool
  | [], l => isNil l
  | a :: as, l => (match l with | [] => false | b :: bs => Nat.beq a b && teq as bs)

inductive PV where
  | none
  | bool (b : Bool)
  | int (i : Int)
  | str (s : Txt)
  | tup (ds : List PV)
  | lst (ds : List PV)
  | rng (n : Int)
  | obj (k : Nat)
  | val (v : Value)
  deriving Inhabited

inductive PO where
  | list (ds : List PV)
  | dict (es : List (Txt × PV))
  | inst (C : Addr) (es : List (Txt × PV))
  deriving Inhabited

noncomputable abbrev Loc := List (Txt × PV)
noncomputable abbrev Sto := List PO
noncomputable abbrev Kont := PV → Sto → Prop

noncomputable def lk (x : Txt) : Loc → Option PV
  | [] => .none
  | (y, d) :: r => bsel (teq x y) (some d) (lk x r)
noncomputable def stL (x : Txt) (d : PV) : Loc → Loc
  | [] => [(x, d)]
  | (y, e) :: r => bsel (teq x y) ((y, d) :: r) ((y, e) :: stL x d r)
noncomputable def rmL (x : Txt) : Loc → Loc
  | [] => []
  | (y, e) :: r => bsel (teq x y) r ((y, e) :: rmL x r)
noncomputable def stAll : List Txt → List PV → Loc → Option Loc
  | [], ds, l => bsel (isNil ds) (some l) .none
  | x :: xs, ds, l => (match ds with | [] => .none | d :: ds => stAll xs ds (stL x d l))
noncomputable def sget : Sto → Nat → Option PO
  | [], _ => .none
  | o :: _, 0 => some o
  | _ :: r, n + 1 => sget r n
noncomputable def sset : Sto → Nat → PO → Sto
  | [], _, _ => []
  | _ :: r, 0, o => o :: r
  | p :: r, n + 1, o => p :: sset r n o

inductive BI where
  | len | max | str | tuple | dict | range
  deriving DecidableEq, Inhabited

inductive CE where
  | loc (x : Txt)
  | val (d : PV)
  | tup (es : List CE)
  | lis (es : List CE)
  | dic (es : List (Txt × CE))
  | bin (op : Operator) (a b : CE)
  | cmp (op : CmpOp) (a b : CE)
  | and (es : List CE)
  | or (es : List CE)
  | not (e : CE)
  | neg (e : CE)
  | ite (c a b : CE)
  | sub (a i : CE)
  | slc (a : CE) (lo hi : Option Int)
  | att (a : CE) (x : Txt)
  | call (f : CE) (es : List CE)
  | bi (b : BI) (es : List CE)
  | met (o : CE) (x : Txt) (es : List CE)
  | comp (e : CE) (xs : List Txt) (one : Bool) (it : CE) (fs : List Txt)
  deriving Inhabited

inductive CS where
  | ret (e : CE)
  | asn (x : Txt) (e : CE)
  | asnT (xs : List Txt) (e : CE)
  | asn2 (x y : Txt) (e : CE)
  | asub (o i e : CE)
  | aatt (o : CE) (x : Txt) (e : CE)
  | expr (e : CE)
  | ife (c : CE) (a b : List CS)
  | whl (c : CE) (b : List CS)
  | fors (xs : List Txt) (one : Bool) (it : CE) (b : List CS)
  | cont
  | pass
  | tryf (b f : List CS)
  | stop
  deriving Inhabited

inductive Fl where
  | nxt | ret (d : PV) | cnt | brk
  deriving Inhabited
/-- goes on to the next statement? -/
noncomputable def Fl.isN : Fl → Bool
  | .nxt => true
  | _ => false
/-- behind a loop's body -/
noncomputable def Fl.cas (f : Fl) (go out : Prop) (back : PV → Prop) : Prop :=
  match f with
  | .nxt => go
  | .cnt => go
  | .brk => out
  | .ret d => back d

noncomputable def one? {α : Type} : List α → Option α
  | [] => .none
  | a :: r => (match r with | [] => some a | _ :: _ => .none)
theorem one_inv {α : Type} {l : List α} {a : α} (h : one? l = some a) : l = [a] := by
  cases l with
  | nil => cases h
  | cons b r => cases r with
    | nil => cases h; rfl
    | cons => cases h
/-- how compiled parts join -/
noncomputable def o2 {α β γ : Type} (f : α → β → γ) (a : Option α) (b : Option β) : Option γ := match a with
  | some a => (match b with | some b => some (f a b) | .none => .none)
  | .none => .none
noncomputable def gd {α : Type} (b : Bool) (x : Option α) : Option α := match b with | true => x | false => .none
noncomputable def ob {α β : Type} (x : Option α) (f : α → Option β) : Option β := match x with | some a => f a | .none => .none
noncomputable def o1 {α β : Type} (f : α → β) (x : Option α) : Option β := match x with | some a => some (f a) | .none => .none
theorem o2_inv {α β γ : Type} {f : α → β → γ} {a : Option α} {b : Option β} {c : γ} (h : o2 f a b = some c) : ∃ x y, a = some x ∧ b = some y ∧ c = f x y := by
  cases a with
  | none => cases h
  | some a => cases b with
    | none => cases h
    | some b => cases h; exact ⟨_, _, rfl, rfl, rfl⟩
theorem gd_inv {α : Type} {b : Bool} {x : Option α} {c : α} (h : gd b x = some c) : b = true ∧ x = some c := by
  cases b with
  | true => exact ⟨rfl, h⟩
  | false => cases h
theorem ob_inv {α β : Type} {x : Option α} {f : α → Option β} {c : β} (h : ob x f = some c) : ∃ a, x = some a ∧ f a = some c := by
  cases x with
  | none => cases h
  | some a => exact ⟨a, rfl, h⟩
theorem o1_inv {α β : Type} {x : Option α} {f : α → β} {c : β} (h : o1 f x = some c) : ∃ a, x = some a ∧ c = f a := by
  cases x with
  | none => cases h
  | some a => cases h; exact ⟨a, rfl, rfl⟩
/-! ## what each operation does -/
section
noncomputable def pidx (n : Int) (len : Nat) : Option Nat :=
  match n with
  | .ofNat m => match Nat.blt m len with | true => some m | false => .none
  | .negSucc m => match Nat.blt m len with | true => some (len - (m + 1)) | false => .none

/-- the items of a sequence -/
noncomputable def lstO : PO → Option (List PV)
  | .list ds => some ds
  | _ => .none
noncomputable def seqOf (d : PV) (σ : Sto) : Option (List PV) :=
  match d with
  | .tup ds => some ds
  | .lst ds => some ds
  | .obj k => ob (sget σ k) lstO
  | _ => .none

noncomputable abbrev small (a : Int) : Prop := a.natAbs < 2 ^ 64

noncomputable def onI (d : PV) (f : Int → Prop) : Prop := match d with
  | .int a => f a
  | _ => False
noncomputable def onS (d : PV) (f : Txt → Prop) : Prop := match d with
  | .str a => f a
  | _ => False
noncomputable def onT (d : PV) (f : List PV → Prop) : Prop := match d with
  | .tup a => f a
  | _ => False
noncomputable def onO (d : PV) (f : Nat → Prop) : Prop := match d with
  | .obj a => f a
  | _ => False
theorem onI_inv {d : PV} {f : Int → Prop} (h : onI d f) : ∃ a, d = .int a ∧ f a := by
  cases d <;> first | exact ⟨_, rfl, h⟩ | exact h.elim
theorem onS_inv {d : PV} {f : Txt → Prop} (h : onS d f) : ∃ a, d = .str a ∧ f a := by
  cases d <;> first | exact ⟨_, rfl, h⟩ | exact h.elim
theorem onT_inv {d : PV} {f : List PV → Prop} (h : onT d f) : ∃ a, d = .tup a ∧ f a := by
  cases d <;> first | exact ⟨_, rfl, h⟩ | exact h.elim
theorem onO_inv {d : PV} {f : Nat → Prop} (h : onO d f) : ∃ a, d = .obj a ∧ f a := by
  cases d <;> first | exact ⟨_, rfl, h⟩ | exact h.elim
noncomputable def int2 (d e : PV) (f : Int → Int → Prop) : Prop := onI d fun a => onI e fun b => f a b
theorem int2_inv {d e : PV} {f : Int → Int → Prop} (h : int2 d e f) : ∃ a b, d = .int a ∧ e = .int b ∧ f a b := by
  obtain ⟨a, h1, h⟩ := onI_inv h
  obtain ⟨b, h2, h⟩ := onI_inv h
  exact ⟨a, b, h1, h2, h⟩
noncomputable def addP (d e : PV) (σ : Sto) (k : Kont) : Prop :=
  match d with
  | .int a => onI e fun b => k (.int (a + b)) σ
  | .str a => onS e fun b => (a ++ b).length ≤ 1000 ∧ k (.str (a ++ b)) σ
  | .tup a => onT e fun b => (a ++ b).length ≤ 1000 ∧ k (.tup (a ++ b)) σ
  | _ => False
noncomputable def mulP (d e : PV) (σ : Sto) (k : Kont) : Prop :=
  match d with
  | .int a => onI e fun b => small a ∧ small b ∧ k (.int (a * b)) σ
  | .tup l => (match l with
    | [] => False
    | x :: a => onI e fun n => 0 ≤ n ∧ n ≤ 100 ∧ (x :: a).length ≤ 100 ∧ k (.tup (List.replicate n.toNat (x :: a)).flatten) σ)
  | _ => False
noncomputable def binP (op : Operator) (d e : PV) (σ : Sto) (k : Kont) : Prop :=
  match op with
  | .Add => addP d e σ k
  | .Sub => int2 d e fun a b => k (.int (a - b)) σ
  | .Mult => mulP d e σ k
  | .Mod => int2 d e fun a b => b ≠ 0 ∧ k (.int (a.fmod b)) σ
  | .FloorDiv => int2 d e fun a b => b ≠ 0 ∧ b.natAbs < 1073741824 ∧ k (.int (a.fdiv b)) σ
  | .Pow => int2 d e fun a b => 0 ≤ b ∧ b ≤ 1000 ∧ small a ∧ k (.int (a ^ b.toNat)) σ
  | .LShift => int2 d e fun a b => 0 ≤ b ∧ b ≤ 1000 ∧ small a ∧ k (.int (a * 2 ^ b.toNat)) σ
  | .RShift => int2 d e fun a b => 0 ≤ b ∧ k (.int (a.fdiv (2 ^ b.toNat))) σ
  | .BitAnd => int2 d e fun a b => k (.int (Builtin.bitAnd a b)) σ
  | .BitOr => int2 d e fun a b => k (.int (Builtin.bitOr a b)) σ
  | .BitXor => int2 d e fun a b => k (.int (Builtin.bitXor a b)) σ
  | _ => False

/-- is it None, and can that be told? -/
noncomputable def isNone : PV → Option Bool
  | .none => some true
  | .bool _ => some false
  | .int _ => some false
  | .str _ => some false
  | .tup _ => some false
  | .lst _ => some false
  | .obj _ => some false
  | .rng _ => .none
  | .val _ => .none

/-- is the text among these texts? -/
noncomputable def strD : PV → Option Txt
  | .str s => some s
  | _ => .none
noncomputable def pin (a : Txt) : List PV → Option Bool
  | [] => some false
  | d :: r => ob (strD d) fun b => o1 (fun y => teq b a || y) (pin a r)

mutual
/-- plain data as the library's own -/
noncomputable def toPy : PV → Option PyData
  | .none => some .none
  | .bool b => some (.bool b)
  | .int i => some (.int i)
  | .str s => some (.str (tS s))
  | .tup ds => (toPys ds).map .tuple
  | .lst ds => (toPys ds).map .list
  | _ => Option.none
noncomputable def toPys : List PV → Option (List PyData)
  | [] => some []
  | d :: r => o2 List.cons (toPy d) (toPys r)
end
noncomputable def dat2 (x y : Option PyData) (k : PyData → PyData → Prop) : Prop :=
  match x with
  | some p => (match y with
    | some q => SeqAt.shaped p = true ∧ SeqAt.shaped q = true ∧ k p q
    | .none => False)
  | .none => False
theorem dat2_inv {x y : Option PyData} {k : PyData → PyData → Prop} (h : dat2 x y k) : ∃ p q, x = some p ∧ y = some q ∧ SeqAt.shaped p = true ∧ SeqAt.shaped q = true ∧ k p q := by
  cases x with
  | none => exact h.elim
  | some p => cases y with
    | none => exact h.elim
    | some q => exact ⟨p, q, rfl, rfl, h⟩
noncomputable def eqO (x y : Option PO) (k : Bool → Prop) : Prop :=
  match x with
  | some (.dict es) => (match y with
    | some (.dict fs) => es = fs ∧ (∀ p ∈ es, ∃ q, toPy p.2 = some q ∧ SeqAt.shaped q = true) ∧ k true
    | _ => False)
  | some (.list as) => (match y with
    | some (.list bs) => dat2 ((toPys as).map .list) ((toPys bs).map .list) fun p q => k (PyData.eqv p q)
    | _ => False)
  | _ => False
theorem eqO_inv {x y : Option PO} {k : Bool → Prop} (h : eqO x y k) : (∃ es, x = some (.dict es) ∧ y = some (.dict es) ∧ (∀ p ∈ es, ∃ q, toPy p.2 = some q ∧ SeqAt.shaped q = true) ∧ k true) ∨
    (∃ as bs, x = some (.list as) ∧ y = some (.list bs) ∧ dat2 ((toPys as).map .list) ((toPys bs).map .list) fun p q => k (PyData.eqv p q)) := by
  cases x with
  | none => exact h.elim
  | some x => cases x with
    | inst => exact h.elim
    | dict es => cases y with
      | none => exact h.elim
      | some y => cases y with
        | dict => obtain ⟨rfl, h⟩ := h; exact .inl ⟨_, rfl, rfl, h⟩
        | _ => exact h.elim
    | list as => cases y with
      | none => exact h.elim
      | some y => cases y with
        | list => exact .inr ⟨_, _, rfl, rfl, h⟩
        | _ => exact h.elim
noncomputable def neO (x y : Option PO) (k : Bool → Prop) : Prop :=
  match x with
  | some (.list l) => (match y with
    | some (.list r) => (match r with
      | [] => (∀ d ∈ l, ∃ i, d = .int i) ∧ k (!l.isEmpty)
      | _ :: _ => False)
    | _ => False)
  | _ => False
theorem neO_inv {x y : Option PO} {k : Bool → Prop} (h : neO x y k) : ∃ l, x = some (.list l) ∧ y = some (.list []) ∧ (∀ d ∈ l, ∃ i, d = .int i) ∧ k (!l.isEmpty) := by
  cases x with
  | none => exact h.elim
  | some x => cases x with
    | list l => cases y with
      | none => exact h.elim
      | some y => cases y with
        | list r => cases r with
          | nil => exact ⟨_, rfl, rfl, h⟩
          | cons => exact h.elim
        | _ => exact h.elim
    | _ => exact h.elim
noncomputable def onR (x : Option Bool) (k : Bool → Prop) : Prop := match x with | some r => k r | .none => False
theorem onR_inv {x : Option Bool} {k : Bool → Prop} (h : onR x k) : ∃ r, x = some r ∧ k r := by
  cases x with
  | none => exact h.elim
  | some r => exact ⟨r, rfl, h⟩
noncomputable def inO (x : Option PO) (d : PV) (k : Bool → Prop) : Prop :=
  match x with
  | some (.list ds) => dat2 ((toPys ds).map .list) (toPy d) fun xs p => match xs with | .list xs => k (xs.any fun y => PyData.eqv y p) | _ => False
  | some (.dict es) => onS d fun a => k (lk a es).isSome
  | _ => False
theorem inO_inv {x : Option PO} {d : PV} {k : Bool → Prop} (h : inO x d k) : (∃ ds xs p, x = some (.list ds) ∧ toPys ds = some xs ∧ toPy d = some p ∧ SeqAt.shaped (.list xs) = true ∧ SeqAt.shaped p = true ∧ k (xs.any fun y => PyData.eqv y p)) ∨
    (∃ es a, x = some (.dict es) ∧ d = .str a ∧ k (lk a es).isSome) := by
  cases x with
  | none => exact h.elim
  | some x => cases x with
    | inst => exact h.elim
    | list ds =>
      obtain ⟨p, q, h1, h2, h3, h4, h5⟩ := dat2_inv h
      cases e : toPys ds with
      | none => rw [e] at h1; cases h1
      | some xs => rw [e] at h1; cases h1; exact .inl ⟨ds, xs, q, rfl, e, h2, h3, h4, h5⟩
    | dict es => obtain ⟨a, h1, h2⟩ := onS_inv h; exact .inr ⟨es, a, rfl, h1, h2⟩
noncomputable def ninO (x : Option PO) (a : Txt) (k : Bool → Prop) : Prop :=
  match x with
  | some (.dict es) => k (!(lk a es).isSome)
  | _ => False
theorem ninO_inv {x : Option PO} {a : Txt} {k : Bool → Prop} (h : ninO x a k) : ∃ es, x = some (.dict es) ∧ k (!(lk a es).isSome) := by
  cases x with
  | none => exact h.elim
  | some x => cases x with
    | dict es => exact ⟨es, rfl, h⟩
    | _ => exact h.elim
noncomputable def isNP (d e : PV) (k : Bool → Prop) : Prop := match e with
  | .none => onR (isNone d) k
  | _ => False
theorem isNP_inv {d e : PV} {k : Bool → Prop} (h : isNP d e k) : e = .none ∧ ∃ r, isNone d = some r ∧ k r := by
  cases e <;> first | exact ⟨rfl, onR_inv h⟩ | exact h.elim
noncomputable def eqP (d e : PV) (σ : Sto) (k : Bool → Prop) : Prop :=
  match d with
  | .int a => onI e fun b => k (decide (a = b))
  | .str a => onS e fun b => k (teq a b)
  | .tup a => onT e fun b => dat2 (toPy (.tup a)) (toPy (.tup b)) fun p q => k (PyData.eqv p q)
  | .obj n => onO e fun m => eqO (sget σ n) (sget σ m) k
  | _ => False
noncomputable def neP (d e : PV) (σ : Sto) (k : Bool → Prop) : Prop :=
  match d with
  | .int a => onI e fun b => k (!decide (a = b))
  | .str a => onS e fun b => k (!teq a b)
  | .obj n => onO e fun m => neO (sget σ n) (sget σ m) k
  | _ => False
noncomputable def inP (d e : PV) (σ : Sto) (k : Bool → Prop) : Prop :=
  match e with
  | .tup b => onS d fun a => onR (pin a b) k
  | .obj n => inO (sget σ n) d k
  | _ => False
noncomputable def cmpP (op : CmpOp) (d e : PV) (σ : Sto) (k : Bool → Prop) : Prop :=
  match op with
  | .Eq => eqP d e σ k
  | .NotEq => neP d e σ k
  | .Lt => int2 d e fun a b => k (decide (a < b))
  | .LtE => int2 d e fun a b => k (decide (a ≤ b))
  | .Gt => int2 d e fun a b => k (decide (b < a))
  | .GtE => int2 d e fun a b => k (decide (b ≤ a))
  | .Is => isNP d e k
  | .IsNot => isNP d e fun r => k (!r)
  | .In => inP d e σ k
  | .NotIn => onS d fun a => onO e fun n => ninO (sget σ n) a k

noncomputable def on1 (ds : List PV) (f : PV → Prop) : Prop := match ds with
  | [] => False
  | d :: r => (match r with | [] => f d | _ :: _ => False)
theorem on1_inv {ds : List PV} {f : PV → Prop} (h : on1 ds f) : ∃ d, ds = [d] ∧ f d := by
  cases ds with
  | nil => exact h.elim
  | cons d r => cases r with
    | nil => exact ⟨d, rfl, h⟩
    | cons => exact h.elim
noncomputable def on2 (ds : List PV) (f : PV → PV → Prop) : Prop := match ds with
  | [] => False
  | d :: r => on1 r (f d)
theorem on2_inv {ds : List PV} {f : PV → PV → Prop} (h : on2 ds f) : ∃ d e, ds = [d, e] ∧ f d e := by
  cases ds with
  | nil => exact h.elim
  | cons d r => obtain ⟨e, rfl, h⟩ := on1_inv h; exact ⟨d, e, rfl, h⟩
noncomputable def onQ (x : Option (List PV)) (f : List PV → Prop) : Prop := match x with | some l => f l | .none => False
theorem onQ_inv {x : Option (List PV)} {f : List PV → Prop} (h : onQ x f) : ∃ l, x = some l ∧ f l := by
  cases x with
  | none => exact h.elim
  | some r => exact ⟨r, rfl, h⟩
noncomputable def onD (x : Option PO) (f : List (Txt × PV) → Prop) : Prop := match x with
  | some (.dict es) => f es
  | _ => False
theorem onD_inv {x : Option PO} {f : List (Txt × PV) → Prop} (h : onD x f) : ∃ es, x = some (.dict es) ∧ f es := by
  cases x with
  | none => exact h.elim
  | some x => cases x with
    | dict es => exact ⟨es, rfl, h⟩
    | _ => exact h.elim
noncomputable def onL (x : Option PO) (f : List PV → Prop) : Prop := match x with
  | some (.list l) => f l
  | _ => False
theorem onL_inv {x : Option PO} {f : List PV → Prop} (h : onL x f) : ∃ l, x = some (.list l) ∧ f l := by
  cases x with
  | none => exact h.elim
  | some x => cases x with
    | list l => exact ⟨l, rfl, h⟩
    | _ => exact h.elim
noncomputable def onV (x : Option PV) (f : PV → Prop) : Prop := match x with | some d => f d | .none => False
theorem onV_inv {x : Option PV} {f : PV → Prop} (h : onV x f) : ∃ d, x = some d ∧ f d := by
  cases x with
  | none => exact h.elim
  | some r => exact ⟨r, rfl, h⟩
noncomputable def onSome {α : Type} (x : Option α) (f : α → Prop) : Prop := match x with | some a => f a | .none => False
theorem onSome_inv {α : Type} {x : Option α} {f : α → Prop} (h : onSome x f) : ∃ a, x = some a ∧ f a := by
  cases x with
  | none => exact h.elim
  | some r => exact ⟨r, rfl, h⟩
noncomputable def onIn (x : Option PO) (f : Addr → List (Txt × PV) → Prop) : Prop := match x with
  | some (.inst C es) => f C es
  | _ => False
theorem onIn_inv {x : Option PO} {f : Addr → List (Txt × PV) → Prop} (h : onIn x f) : ∃ C es, x = some (.inst C es) ∧ f C es := by
  cases x with
  | none => exact h.elim
  | some x => cases x with
    | inst C es => exact ⟨C, es, rfl, h⟩
    | _ => exact h.elim
noncomputable def itemP (d i : PV) (σ : Sto) (k : Kont) : Prop :=
  match i with
  | .int n => onQ (seqOf d σ) fun ds => onSome (pidx n ds.length) fun j => onV ds[j]? fun e => ds.length ≤ 100000 ∧ k e σ
  | .str s => onO d fun n => onD (sget σ n) fun es => onV (lk s es) fun e => k e σ
  | _ => False
noncomputable def biP (b : BI) (ds : List PV) (σ : Sto) (k : Kont) : Prop :=
  match b with
  | .len => on1 ds fun d => onQ (seqOf d σ) fun l => l.length ≤ 1000 ∧ k (.int l.length) σ
  | .max => on2 ds fun d e => int2 d e fun a b => k (.int (match decide (a < b) with | true => b | false => a)) σ
  | .str => on1 ds fun d => onI d fun a => small a ∧ k (.str (sT (Str.ofString (toString a)))) σ
  | .tuple => on1 ds fun d => onQ (seqOf d σ) fun l => l.length ≤ 1000 ∧ k (.tup l) σ
  | .dict => on1 ds fun d => onO d fun n => onD (sget σ n) fun es => k (.obj σ.length) (σ ++ [.dict es])
  | .range => on1 ds fun d => onI d fun n => small n ∧ k (.rng n) σ

noncomputable def txt (s : String) : Txt := sT (Str.ofString s)
noncomputable def tAppend : Txt := [97, 112, 112, 101, 110, 100]
noncomputable def tPop : Txt := [112, 111, 112]
noncomputable def tReverse : Txt := [114, 101, 118, 101, 114, 115, 101]
noncomputable def tGet : Txt := [103, 101, 116]

/-- the last item -/
noncomputable def plast : List PV → Option (List PV × PV)
  | [] => .none
  | d :: r => match plast r with
    | some (p, e) => some (d :: p, e)
    | .none => some ([], d)

/-- the defs and classes of the text that the machine may go into: the call itself; methods; attributes -/
structure Ops where
  CL : Addr → List PV → Sto → Kont → Prop
  MT : List (Addr × Txt × Addr)
  AT : List (Addr × Txt)
  SC : Option (Addr × List PV)
noncomputable def lkM (C : Addr) (x : Txt) : List (Addr × Txt × Addr) → Option Addr
  | [] => .none
  | (D, y, f) :: r => bsel (Nat.beq C D && teq x y) (some f) (lkM C x r)
noncomputable def lkA (C : Addr) (x : Txt) : List (Addr × Txt) → Bool
  | [] => false
  | (D, y) :: r => (Nat.beq C D && teq x y) || lkA C x r
noncomputable def PV.isVal : PV → Bool
  | .val _ => true
  | _ => false

variable (O : Ops)

noncomputable def onTT (b : Bool) (p : Prop) : Prop := match b with | true => p | false => False
theorem onTT_inv {b : Bool} {p : Prop} (h : onTT b p) : b = true ∧ p := by
  cases b with
  | true => exact ⟨rfl, h⟩
  | false => exact h.elim
noncomputable def onP (x : Option (List PV × PV)) (f : List PV × PV → Prop) : Prop := match x with | some l => f l | .none => False
theorem onP_inv {x : Option (List PV × PV)} {f : List PV × PV → Prop} (h : onP x f) : ∃ l, x = some l ∧ f l := by
  cases x with
  | none => exact h.elim
  | some r => exact ⟨r, rfl, h⟩
noncomputable def popL (n : Nat) (l : List PV) (σ : Sto) (k : Kont) : Prop := onP (plast l) fun p => l.length ≤ 1000 ∧ k p.2 (sset σ n (.list p.1))
noncomputable def revL (n : Nat) (x : Txt) (l : List PV) (σ : Sto) (k : Kont) : Prop := onTT (teq x tReverse) (l.length ≤ 100000 ∧ k .none (sset σ n (.list l.reverse)))
noncomputable def metLb (n : Nat) (x : Txt) (l : List PV) (ds : List PV) (σ : Sto) (k : Kont) : Prop :=
  match ds with
  | [] => (match teq x tPop with | true => popL n l σ k | false => revL n x l σ k)
  | d :: r => onTT (isNil r) (onTT (teq x tAppend) (l.length ≤ 100000 ∧ k .none (sset σ n (.list (l ++ [d])))))
noncomputable def metL (n : Nat) (x : Txt) (ds : List PV) (σ : Sto) (k : Kont) : Prop := onL (sget σ n) fun l => metLb n x l ds σ k
noncomputable def orN (x : Option PV) : PV := match x with | some e => e | .none => .none
noncomputable def popD (n : Nat) (x : Txt) (s : Txt) (es : List (Txt × PV)) (σ : Sto) (k : Kont) : Prop := onTT (teq x tPop) (onV (lk s es) fun e => k e (sset σ n (.dict (rmL s es))))
noncomputable def metDs (n : Nat) (x : Txt) (es : List (Txt × PV)) (s : Txt) (σ : Sto) (k : Kont) : Prop :=
  match teq x tGet with | true => k (orN (lk s es)) σ | false => popD n x s es σ k
noncomputable def metDb (n : Nat) (x : Txt) (es : List (Txt × PV)) (ds : List PV) (σ : Sto) (k : Kont) : Prop := on1 ds fun d => onS d fun s => metDs n x es s σ k
noncomputable def metD (n : Nat) (x : Txt) (ds : List PV) (σ : Sto) (k : Kont) : Prop := onD (sget σ n) fun es => metDb n x es ds σ k
/-- a list's method, a dict's method -/
noncomputable def lmOK (x : Txt) : Bool := match teq x tAppend with | true => true | false => match teq x tPop with | true => true | false => teq x tReverse
noncomputable def dmOK (x : Txt) : Bool := match teq x tGet with | true => true | false => teq x tPop
/-- which one: a def with the object ahead; a list's; a dict's -/
inductive MK where
  | fn (f : Addr) | lst | dic
noncomputable def MK.go (m : MK) (f : Addr → Prop) (l d : Prop) : Prop := match m with
  | .fn a => f a
  | .lst => l
  | .dic => d
noncomputable def mkO (n : Nat) (x : Txt) : PO → Option (Nat × MK)
  | .inst C es => gd (!(lk x es).isSome) (o1 (fun f => (n, .fn f)) (lkM C x O.MT))
  | .list _ => gd (lmOK x) (some (n, .lst))
  | .dict _ => gd (dmOK x) (some (n, .dic))
noncomputable def mkOf (d : PV) (x : Txt) (σ : Sto) : Option (Nat × MK) :=
  match d with
  | .obj n => ob (sget σ n) (mkO O n x)
  | _ => .none
noncomputable def onM (x : Option (Nat × MK)) (f : Nat × MK → Prop) : Prop := match x with | some l => f l | .none => False
theorem onM_inv {x : Option (Nat × MK)} {f : Nat × MK → Prop} (h : onM x f) : ∃ l, x = some l ∧ f l := by
  cases x with
  | none => exact h.elim
  | some r => exact ⟨r, rfl, h⟩
noncomputable def putAll : List (Txt × PV) → List (Txt × PV) → List (Txt × PV)
  | acc, [] => acc
  | acc, (x, d) :: r => putAll (stL x d acc) r

noncomputable def callP (d : PV) (ds : List PV) (σ : Sto) (k : Kont) : Prop :=
  match d with
  | .val (.ref f) => O.CL f ds σ k
  | _ => False

noncomputable def onN (x : Option Int) (f : Nat → Prop) : Prop := match x with
  | .none => False
  | some i => (match i with | .ofNat a => f a | .negSucc _ => False)
theorem onN_inv {x : Option Int} {f : Nat → Prop} (h : onN x f) : ∃ a, x = some (.ofNat a) ∧ f a := by
  cases x with
  | none => exact h.elim
  | some i => cases i with
    | ofNat a => exact ⟨a, rfl, h⟩
    | negSucc => exact h.elim
noncomputable def noP (x : Option Int) (p : Prop) : Prop := match x with | .none => p | some _ => False
theorem noP_inv {x : Option Int} {p : Prop} (h : noP x p) : x = none ∧ p := by
  cases x with
  | none => exact ⟨rfl, h⟩
  | some => exact h.elim
noncomputable def onC (x : Option (Addr × List PV)) (f : Addr × List PV → Prop) : Prop := match x with | some l => f l | .none => False
theorem onC_inv {x : Option (Addr × List PV)} {f : Addr × List PV → Prop} (h : onC x f) : ∃ l, x = some l ∧ f l := by
  cases x with
  | none => exact h.elim
  | some r => exact ⟨r, rfl, h⟩
noncomputable def slcP (d : PV) (lo hi : Option Int) (σ : Sto) (k : Kont) : Prop :=
  match d with
  | .tup ds => onN lo fun a => (match hi with
    | .none => 1 ≤ a ∧ a ≤ ds.length ∧ ds.length ≤ 1000 ∧ k (.tup (ds.drop a)) σ
    | some i => onN (some i) fun b => a ≤ b ∧ b < ds.length ∧ ds.length ≤ 1000 ∧ k (.tup ((ds.take b).drop a)) σ)
  | .obj n => noP lo (onN hi fun b => onL (sget σ n) fun l => l.length ≤ 100000 ∧ k (.obj σ.length) (σ ++ [.list (l.take b)]))
  | .val v => (match v with
    | .ref a => noP lo (onN hi fun b => onC O.SC fun x => a = x.1 ∧ x.2.length ≤ 100000 ∧ k (.obj σ.length) (σ ++ [.list (x.2.take b)]))
    | _ => False)
  | _ => False

noncomputable def attP (d : PV) (x : Txt) (σ : Sto) (k : Kont) : Prop :=
  onO d fun n => onIn (sget σ n) fun C es => onTT (lkA C x O.AT) (onV (lk x es) fun e => onTT (!e.isVal) (k e σ))

noncomputable def bindT (xs : List Txt) (one : Bool) (d : PV) (ρ : Loc) (k : Loc → Prop) : Prop :=
  match one with
  | true => onSome (one? xs) fun x => k (stL x d ρ)
  | false => onT d fun ds => onSome (stAll xs ds ρ) k

/-- a list of the program's own that is looped over stands as it stood -/
noncomputable def srcOk (src : Option Nat) (all : List PV) (σ : Sto) : Prop :=
  match src with
  | .none => True
  | some j => sget σ j = some (.list all)

noncomputable def kpO (x : Txt) (o : Option PV) (l : Loc) : Loc := match o with | some d => (x, d) :: l | .none => l
/-- the names that a comprehension sees of the frame around it -/
noncomputable def keepL (fs : List Txt) (ρ : Loc) : Loc :=
  match fs with
  | [] => []
  | x :: r => kpO x (lk x ρ) (keepL r ρ)

noncomputable def allIn (fs : List Txt) (ρ : Loc) : Bool :=
  match fs with
  | [] => true
  | x :: r => (lk x ρ).isSome && allIn r ρ

/-! ## what comes next: each names its own next but once -/
noncomputable def seqK (f : Loc → Sto → (Fl → Loc → Sto → Prop) → Prop) (k : Fl → Loc → Sto → Prop) : Fl → Loc → Sto → Prop := fun fl ρ σ => match fl.isN with | true => f ρ σ k | false => k fl ρ σ
noncomputable def iteK {α : Type} (ρ : Loc) (f g : Loc → Sto → α → Prop) (k : α) : Bool → Sto → Prop := fun r σ => match r with | true => f ρ σ k | false => g ρ σ k
noncomputable def lpK (f : Loc → Sto → (Fl → Loc → Sto → Prop) → Prop) (k : Fl → Loc → Sto → Prop) : Fl → Loc → Sto → Prop := fun fl ρ σ => fl.cas (f ρ σ k) (k .nxt ρ σ) (fun d => k (.ret d) ρ σ)
noncomputable def whK (ρ : Loc) (f g : Loc → Sto → (Fl → Loc → Sto → Prop) → Prop) (k : Fl → Loc → Sto → Prop) : Bool → Sto → Prop := fun r σ => match r with | true => f ρ σ (lpK g k) | false => k .nxt ρ σ
noncomputable def andB (ρ : Loc) (f : Loc → Sto → (Bool → Sto → Prop) → Prop) (k : Bool → Sto → Prop) : Bool → Sto → Prop := fun b σ => match b with | true => f ρ σ k | false => k false σ
noncomputable def orB (ρ : Loc) (f : Loc → Sto → (Bool → Sto → Prop) → Prop) (k : Bool → Sto → Prop) : Bool → Sto → Prop := fun b σ => match b with | true => k true σ | false => f ρ σ k
noncomputable def andV (ρ : Loc) (f : Loc → Sto → Kont → Prop) (k : Kont) : Kont := fun d σ => match d with | .bool true => f ρ σ k | .bool false => k (.bool false) σ | _ => False
noncomputable def orV (ρ : Loc) (f : Loc → Sto → Kont → Prop) (k : Kont) : Kont := fun d σ => match d with | .bool true => k (.bool true) σ | .bool false => f ρ σ k | _ => False
noncomputable def finK (f : Loc → Sto → (Fl → Loc → Sto → Prop) → Prop) (k : Fl → Loc → Sto → Prop) : Fl → Loc → Sto → Prop := fun fl ρ σ => f ρ σ fun fl' ρ σ => (match fl'.isN with | true => k fl ρ σ | false => False)
/-- over what a loop goes -/
noncomputable def srcP (d : PV) (σ : Sto) (f : Option Nat → List PV → List PV → Prop) : Prop := match d with
  | .rng m => -1000 ≤ m ∧ m ≤ 1000 ∧ f .none [] ((List.range m.toNat).map fun (i : Nat) => PV.int (i : Int))
  | .obj j => onL (sget σ j) fun l => l.length ≤ 1000 ∧ f (some j) l l
  | .tup l => l.length ≤ 1000 ∧ f .none [] l
  | .lst l => l.length ≤ 1000 ∧ f .none [] l
  | _ => False
noncomputable def itK (f : Option Nat → List PV → List PV → Loc → Sto → (Fl → Loc → Sto → Prop) → Prop) (ρ : Loc) (k : Fl → Loc → Sto → Prop) : Kont := fun d σ => srcP d σ fun src all l => f src all l ρ σ k
noncomputable def newL (k : Kont) : List PV → Sto → Prop := fun ds σ => k (.obj σ.length) (σ ++ [.list ds])
noncomputable def itM (f : Option Nat → List PV → List PV → Loc → Sto → (List PV → Sto → Prop) → Prop) (ρ : Loc) (k : List PV → Sto → Prop) : Kont := fun d σ => srcP d σ fun src all l => f src all l ρ σ k
noncomputable def onB (d : PV) (f : Bool → Prop) : Prop := match d with
  | .bool b => f b
  | _ => False
theorem onB_inv {d : PV} {f : Bool → Prop} (h : onB d f) : ∃ b, d = .bool b ∧ f b := by
  cases d <;> first | exact ⟨_, rfl, h⟩ | exact h.elim
mutual
noncomputable def evC : Nat → CE → Loc → Sto → Kont → Prop
  | 0, _, _, _, _ => False
  | n + 1, e, ρ, σ, k => match e with
    | .loc x => onV (lk x ρ) fun d => k d σ
    | .val d => k d σ
    | .tup es => evL n es ρ σ fun ds σ => ds.length ≤ 1000 ∧ k (.tup ds) σ
    | .lis es => evL n es ρ σ fun ds σ => ds.length ≤ 1000 ∧ k (.obj σ.length) (σ ++ [.list ds])
    | .dic es => evD n es ρ σ fun ds σ => ds.length ≤ 15 ∧ k (.obj σ.length) (σ ++ [.dict (putAll [] ds)])
    | .bin op a b => evC n a ρ σ fun d σ => evC n b ρ σ fun e σ => binP op d e σ k
    | .cmp op a b => evC n a ρ σ fun d σ => evC n b ρ σ fun e σ => cmpP op d e σ fun r => k (.bool r) σ
    | .and es => evA n es ρ σ k
    | .or es => evO n es ρ σ k
    | .not e => evC n e ρ σ fun d σ => onB d fun b => k (.bool (!b)) σ
    | .neg e => evC n e ρ σ fun d σ => onI d fun a => k (.int (-a)) σ
    | .ite c a b => tsC n c ρ σ (iteK ρ (evC n a) (evC n b) k)
    | .sub a i => evC n a ρ σ fun d σ => evC n i ρ σ fun e σ => itemP d e σ k
    | .slc a lo hi => evC n a ρ σ fun d σ => slcP O d lo hi σ k
    | .att a x => evC n a ρ σ fun d σ => attP O d x σ k
    | .call f es => evC n f ρ σ fun d σ => evL n es ρ σ fun ds σ => callP O d ds σ k
    | .bi b es => evL n es ρ σ fun ds σ => biP b ds σ k
    | .met o x es => evC n o ρ σ fun d σ => onM (mkOf O d x σ) fun j => j.2.go (fun f => evL n es ρ σ fun ds σ => O.CL f (.obj j.1 :: ds) σ k) (evL n es ρ σ fun ds σ => metL j.1 x ds σ k) (evL n es ρ σ fun ds σ => metD j.1 x ds σ k)
    | .comp e xs one it fs => onTT (allIn fs ρ) (evC n it ρ σ (itM (evM n e xs one) (keepL fs ρ) (newL k)))
noncomputable def evL : Nat → List CE → Loc → Sto → (List PV → Sto → Prop) → Prop
  | 0, _, _, _, _ => False
  | n + 1, es, ρ, σ, k => match es with
    | [] => k [] σ
    | e :: r => evC n e ρ σ fun d σ => evL n r ρ σ fun ds σ => k (d :: ds) σ
noncomputable def evD : Nat → List (Txt × CE) → Loc → Sto → (List (Txt × PV) → Sto → Prop) → Prop
  | 0, _, _, _, _ => False
  | n + 1, es, ρ, σ, k => match es with
    | [] => k [] σ
    | (x, e) :: r => evC n e ρ σ fun d σ => evD n r ρ σ fun ds σ => k ((x, d) :: ds) σ
noncomputable def evA : Nat → List CE → Loc → Sto → Kont → Prop
  | 0, _, _, _, _ => False
  | n + 1, es, ρ, σ, k => match es with
    | [] => False
    | [e] => evC n e ρ σ k
    | e :: r => evC n e ρ σ (andV ρ (evA n r) k)
noncomputable def evO : Nat → List CE → Loc → Sto → Kont → Prop
  | 0, _, _, _, _ => False
  | n + 1, es, ρ, σ, k => match es with
    | [] => False
    | [e] => evC n e ρ σ k
    | e :: r => evC n e ρ σ (orV ρ (evO n r) k)
noncomputable def evM : Nat → CE → List Txt → Bool → Option Nat → List PV → List PV → Loc → Sto → (List PV → Sto → Prop) → Prop
  | 0, _, _, _, _, _, _, _, _, _ => False
  | n + 1, e, xs, one, src, all, l, ρ, σ, k => match l with
    | [] => k [] σ
    | d :: r => bindT xs one d ρ fun ρ' => evC n e ρ' σ fun v σ => srcOk src all σ ∧ evM n e xs one src all r ρ σ fun vs σ => k (v :: vs) σ
noncomputable def tsC : Nat → CE → Loc → Sto → (Bool → Sto → Prop) → Prop
  | 0, _, _, _, _ => False
  | n + 1, e, ρ, σ, k => match e with
    | .and es => tsA n es ρ σ k
    | .or es => tsO n es ρ σ k
    | .not e => tsC n e ρ σ fun b σ => k (!b) σ
    | .ite c a b => tsC n c ρ σ (iteK ρ (tsC n a) (tsC n b) k)
    | e => evC n e ρ σ fun d σ => onB d fun b => k b σ
noncomputable def tsA : Nat → List CE → Loc → Sto → (Bool → Sto → Prop) → Prop
  | 0, _, _, _, _ => False
  | n + 1, es, ρ, σ, k => match es with
    | [] => k true σ
    | e :: r => tsC n e ρ σ (andB ρ (tsA n r) k)
noncomputable def tsO : Nat → List CE → Loc → Sto → (Bool → Sto → Prop) → Prop
  | 0, _, _, _, _ => False
  | n + 1, es, ρ, σ, k => match es with
    | [] => k false σ
    | e :: r => tsC n e ρ σ (orB ρ (tsO n r) k)
end

noncomputable def setP (d i v : PV) (σ : Sto) (k : Sto → Prop) : Prop :=
  onO d fun n => onS i fun s => onD (sget σ n) fun es => es.length + 1 ≤ 1000 ∧ k (sset σ n (.dict (stL s v es)))
noncomputable def satP (d : PV) (x : Txt) (v : PV) (σ : Sto) (k : Sto → Prop) : Prop :=
  onO d fun n => onIn (sget σ n) fun C es => onTT (lkA C x O.AT) (es.length + 1 ≤ 1000 ∧ k (sset σ n (.inst C (stL x v es))))

noncomputable abbrev KontS := Fl → Loc → Sto → Prop

mutual
noncomputable def exC : Nat → CS → Loc → Sto → KontS → Prop
  | 0, _, _, _, _ => False
  | n + 1, c, ρ, σ, k => match c with
    | .ret e => evC O n e ρ σ fun d σ => k (.ret d) ρ σ
    | .asn x e => evC O n e ρ σ fun d σ => k .nxt (stL x d ρ) σ
    | .asnT xs e => evC O n e ρ σ fun d σ => bindT xs false d ρ fun ρ => k .nxt ρ σ
    | .asn2 x y e => evC O n e ρ σ fun d σ => onT d fun ds => on2 ds fun d e => k .nxt (stL x d (stL y e ρ)) σ
    | .asub o i e => evC O n e ρ σ fun v σ => evC O n o ρ σ fun d σ => evC O n i ρ σ fun j σ => setP d j v σ fun σ => k .nxt ρ σ
    | .aatt o x e => evC O n e ρ σ fun v σ => evC O n o ρ σ fun d σ => satP O d x v σ fun σ => k .nxt ρ σ
    | .expr e => evC O n e ρ σ fun _ σ => k .nxt ρ σ
    | .ife c a b => tsC O n c ρ σ (iteK ρ (exB n a) (exB n b) k)
    | .whl c b => whC n c b ρ σ k
    | .fors xs one it b => evC O n it ρ σ (itK (frC n xs one b) ρ k)
    | .cont => k .cnt ρ σ
    | .pass => k .nxt ρ σ
    | .tryf b f => exB n b ρ σ (finK (exB n f) k)
    | .stop => False
noncomputable def exB : Nat → List CS → Loc → Sto → KontS → Prop
  | 0, _, _, _, _ => False
  | n + 1, cs, ρ, σ, k => match cs with
    | [] => k .nxt ρ σ
    | c :: r => exC n c ρ σ (seqK (exB n r) k)
noncomputable def whC : Nat → CE → List CS → Loc → Sto → KontS → Prop
  | 0, _, _, _, _, _ => False
  | n + 1, c, b, ρ, σ, k => tsC O n c ρ σ (whK ρ (exB n b) (whC n c b) k)
noncomputable def frC : Nat → List Txt → Bool → List CS → Option Nat → List PV → List PV → Loc → Sto → KontS → Prop
  | 0, _, _, _, _, _, _, _, _, _ => False
  | n + 1, xs, one, b, src, all, l, ρ, σ, k => match l with
    | [] => k .nxt ρ σ
    | d :: r => bindT xs one d ρ fun ρ => exB n b ρ σ (lpK (fun ρ σ k => srcOk src all σ ∧ frC n xs one b src all r ρ σ k) k)
end
end

/-! ## from the syntax to the machine's own code -/
section
noncomputable abbrev Kinds := List (Txt × NameKind)
noncomputable def ksOf (s : Scope) : Kinds := s.names.map fun p => (sT p.1, p.2)

noncomputable def lkK (x : Txt) : List (Txt × NameKind) → Option NameKind
  | [] => .none
  | (y, d) :: r => bsel (teq x y) (some d) (lkK x r)
noncomputable def lkG (x : Txt) : List (Txt × CE) → Option CE
  | [] => .none
  | (y, d) :: r => bsel (teq x y) (some d) (lkG x r)

noncomputable def tDebug : Txt := [95, 95, 100, 101, 98, 117, 103, 95, 95]
noncomputable def constC : Const → Option CE
  | .none => some (.val .none)
  | .bool b => some (.val (.bool b))
  | .int i => some (.val (.int i))
  | .str s => some (.val (.str (sT s)))
  | _ => .none
noncomputable def intK : Const → Option (Option Int)
  | .int i => some (some i)
  | _ => .none
noncomputable def intE : Expr → Option (Option Int)
  | .Constant c _ _ => intK c
  | _ => .none
noncomputable def intOf? : Option Expr → Option (Option Int)
  | .none => some .none
  | some e => intE e
noncomputable def biT (n : String) : Option BI := match decide (n = "str") with | true => some .str | false => match decide (n = "tuple") with | true => some .tuple | false => match decide (n = "dict") with | true => some .dict | false => match decide (n = "range") with | true => some .range | false => .none
noncomputable def biN (n : String) : Option BI := match decide (n = "len") with | true => some .len | false => match decide (n = "max") with | true => some .max | false => .none
noncomputable def biW : Value → Option BI
  | .builtin n => biN n
  | .type n => biT n
  | _ => .none
noncomputable def biD : PV → Option BI
  | .val v => biW v
  | _ => .none
noncomputable def biOf? : CE → Option BI
  | .val d => biD d
  | _ => .none
noncomputable def callC (f : CE) (as : List CE) : CE := match biOf? f with | some b => .bi b as | .none => .call f as
noncomputable def strK : Const → Option Txt
  | .str s => some (sT s)
  | _ => .none
noncomputable def strE : Expr → Option Txt
  | .Constant c _ _ => strK c
  | _ => .none
noncomputable def strKey? : Option Expr → Option Txt
  | .none => .none
  | some e => strE e
noncomputable def isKd (k : NameKind) (o : Option NameKind) : Bool := match o with | some q => decide (q = k) | .none => false
/-- the names of a target, each a local -/
noncomputable def locN (ks : Kinds) (x : Str) : Option Txt := gd (isKd .local (lkK (sT x) ks)) (some (sT x))
noncomputable def nameE (ks : Kinds) : Expr → Option Txt
  | .Name x _ => locN ks x
  | _ => .none
noncomputable def namesT (ks : Kinds) : List Expr → Option (List Txt)
  | [] => some []
  | e :: r => o2 List.cons (nameE ks e) (namesT ks r)
/-- a loop's or a comprehension's target -/
noncomputable def tgtC (ks : Kinds) : Expr → Option (List Txt × Bool)
  | .Name x _ => o1 (fun x => ([x], true)) (locN ks x)
  | .Tuple ts _ _ => o1 (fun xs => (xs, false)) (namesT ks ts)
  | _ => .none
noncomputable def frO (x : Txt) (k : NameKind) (l : List Txt) : List Txt := match k with | .free => x :: l | _ => l
/-- the free names of a comprehension's block -/
noncomputable def freesOf : Kinds → List Txt
  | [] => []
  | (x, k) :: r => frO x k (freesOf r)

/-- no `super()` -/
noncomputable def notSuper : Expr → Bool
  | .Call (.Name _ _) [] [] _ => false
  | _ => true
noncomputable def notSet : Expr → Bool
  | .Set .. => false
  | _ => true
noncomputable def kOK (k : NameKind) (o : Option NameKind) : Bool := match k with
  | .cell => false
  | .local => isKd .local o
  | .free => isKd .free o
  | _ => true
/-- a block's names: no cells of its own, each local named once -/
noncomputable def compNames (all : Kinds) : Kinds → Bool
  | [] => true
  | (x, k) :: r => kOK k (lkK x all) && compNames all r
/-- the free names are cells around -/
noncomputable def freesIn (ks : Kinds) : List Txt → Bool
  | [] => true
  | x :: r => isKd .cell (lkK x ks) && freesIn ks r
noncomputable def isFun : ScopeKind → Bool
  | .function => true
  | _ => false
noncomputable def compOK (ks : Kinds) (sc : Scope) (it : Expr) : Bool :=
  isFun sc.kind && (notSet it && (compNames (ksOf sc) (ksOf sc) && freesIn ks (freesOf (ksOf sc))))
noncomputable def few (n : Nat) : Bool := Nat.blt n 29

variable (gt : List (Txt × CE))

noncomputable def isStar : Expr → Bool
  | .Starred .. => true
  | _ => false
noncomputable def two? {α : Type} : List α → Option (α × α)
  | [] => .none
  | a :: r => o1 (Prod.mk a) (one? r)
theorem two_inv {α : Type} {l : List α} {a : α × α} (h : two? l = some a) : l = [a.1, a.2] := by
  cases l with
  | nil => cases h
  | cons b r =>
    obtain ⟨c, h1, rfl⟩ := o1_inv h
    rw [one_inv h1]
noncomputable def oe {α β : Type} (x : Option α) (f : α → β) (g : β) : β := match x with | some a => f a | .none => g
theorem oe_inv {α β : Type} {x : Option α} {f : α → Option β} {g : Option β} {c : β} (h : oe x f g = some c) : (∃ a, x = some a ∧ f a = some c) ∨ (x = none ∧ g = some c) := by
  cases x with
  | none => exact .inr ⟨rfl, h⟩
  | some a => exact .inl ⟨a, rfl, h⟩
theorem nil_of {α : Type} {l : List α} (h : isNil l = true) : l = [] := by
  cases l with
  | nil => rfl
  | cons => cases h
theorem not_tt {b : Bool} (h : (!b) = true) : b = false := by
  cases b with
  | false => rfl
  | true => cases h
noncomputable def attr? : Expr → Option (Expr × Str × Pos)
  | .Attribute o x p => some (o, x, p)
  | _ => .none
noncomputable def slice? : Expr → Option (Option Expr × Option Expr × Option Expr)
  | .Slice a b c _ => some (a, b, c)
  | _ => .none
noncomputable def isNone' {α : Type} : Option α → Bool
  | .none => true
  | some _ => false
noncomputable def boolC : BoolOp → List CE → CE
  | .And => .and
  | .Or => .or
noncomputable def unC : UnaryOp → Option (CE → CE)
  | .Not => some .not
  | .USub => some .neg
  | _ => .none
noncomputable def isZ : Int → Bool
  | .ofNat n => (match n with | 0 => true | _ + 1 => false)
  | .negSucc _ => false
noncomputable def nameC (gt : List (Txt × CE)) (x : Txt) : NameKind → Option CE
  | .local => some (.loc x)
  | .cell => some (.loc x)
  | .free => some (.loc x)
  | .globalImplicit => lkG x gt
  | _ => .none
mutual
noncomputable def cE : Kinds → Nat → Expr → Option CE
  | _, 0, _ => .none
  | ks, n + 1, e => match e with
    | .Constant c _ _ => constC c
    | .Name x _ => gd (!teq (sT x) tDebug) (ob (lkK (sT x) ks) (nameC gt (sT x)))
    | .BoolOp op es _ => gd (!isNil es) (o1 (boolC op) (cEs ks n es))
    | .BinOp l op r _ => o2 (.bin op) (cE ks n l) (cE ks n r)
    | .UnaryOp op x _ => ob (unC op) fun f => o1 f (cE ks n x)
    | .IfExp t b o _ => ob (cE ks n t) fun t => o2 (.ite t) (cE ks n b) (cE ks n o)
    | .Tuple es _ _ => o1 .tup (cEs ks n es)
    | .List es _ => o1 .lis (cEs ks n es)
    | .Dict ks' vs _ => gd (Nat.ble ks'.length 15) (o1 .dic (cDs ks n ks' vs))
    | .Compare l ops rs _ => ob (one? ops) fun op => ob (one? rs) fun r => gd (notSet r) (o2 (.cmp op) (cE ks n l) (cE ks n r))
    | .Subscript v i _ => oe (slice? i) (fun t => gd (isNone' t.2.2) (ob (intOf? t.1) fun lo => ob (intOf? t.2.1) fun hi => o1 (fun a => .slc a lo hi) (cE ks n v))) (o2 .sub (cE ks n v) (cE ks n i))
    | .Call f as kws p => gd (isNil kws) (oe (attr? f) (fun t => gd (notSuper t.1) (gd (Nat.beq t.2.2.endLine p.line) (gd (few as.length) (o2 (fun o as => .met o (sT t.2.1) as) (cE ks n t.1) (cEs ks n as))))) (o2 callC (cE ks n f) (cEs ks n as)))
    | .Attribute v x _ => gd (notSuper v) (o1 (fun a => .att a (sT x)) (cE ks n v))
    | .ListComp e gs sc _ => ob (one? gs) fun g => gd (isNil g.ifs) (gd (isZ g.is_async) (gd (compOK ks sc g.iter) (ob (tgtC (ksOf sc) g.target) fun x => o2 (fun it e => .comp e x.1 x.2 it (freesOf (ksOf sc))) (cE ks n g.iter) (cE (ksOf sc) n e))))
    | _ => .none
noncomputable def cEs : Kinds → Nat → List Expr → Option (List CE)
  | _, 0, _ => .none
  | ks, n + 1, es => match es with
    | [] => some []
    | e :: r => gd (!isStar e) (o2 List.cons (cE ks n e) (cEs ks n r))
noncomputable def cDs : Kinds → Nat → List (Option Expr) → List Expr → Option (List (Txt × CE))
  | _, 0, _, _ => .none
  | ks, n + 1, l, vs => match l with
    | [] => (match vs with | [] => some [] | _ :: _ => .none)
    | k :: l => (match vs with | [] => .none | v :: vs => ob (strKey? k) fun k => o2 (fun v r => (k, v) :: r) (cE ks n v) (cDs ks n l vs))
end

noncomputable def notTup : Expr → Bool
  | .Tuple .. => false
  | _ => true
noncomputable def swapFree : Expr → Bool
  | .ListComp .. => false
  | .SetComp .. => false
  | .DictComp .. => false
  | _ => true

/-- how a statement's parts join -/
noncomputable def sob {α : Type} (x : Option α) (f : α → CS) : CS := match x with | some a => f a | .none => .stop
noncomputable def sgd (b : Bool) (c : CS) : CS := match b with | true => c | false => .stop
noncomputable def nmP? : Expr → Option (Str × Pos)
  | .Name x p => some (x, p)
  | _ => .none
noncomputable def isCall : Expr → Bool
  | .Call .. => true
  | _ => false
noncomputable def tupE? : Expr → Option (List Expr)
  | .Tuple es _ _ => some es
  | _ => .none
noncomputable def swap2 (ks : Kinds) (a b : Str × Pos) (f v : Expr) (c : Option CE) : CS :=
  sgd (Nat.beq a.2.line b.2.line) (sgd (!teq (sT a.1) (sT b.1)) (sob (locN ks a.1) fun x => sob (locN ks b.1) fun y => sgd (isCall f) (sgd (!isStar v) (sob c fun c => .asn2 x y c))))
variable (ks : Kinds)
noncomputable def tupA (ts : List Expr) (e : Expr) (cE : Expr → Option CE) : CS :=
  match notTup e with
    | true => sob (namesT ks ts) fun xs => sob (cE e) fun c => .asnT xs c
    | false => sob (two? ts) fun t => sob (nmP? t.1) fun a => sob (nmP? t.2) fun b => sob (tupE? e) fun es => sob (two? es) fun w => swap2 ks a b w.1 w.2 (cE e)
noncomputable def asnE (t : Expr) (e : Expr) (cE : Expr → Option CE) : CS :=
  match t with
  | .Name x _ => sob (locN ks x) fun x => sob (cE e) fun c => .asn x c
  | .Tuple ts _ _ => tupA ks ts e cE
  | .Subscript o i _ => sgd (swapFree e) (sob (cE o) fun o => sob (cE i) fun i => sob (cE e) fun c => .asub o i c)
  | .Attribute o x _ => sgd (swapFree e) (sob (cE o) fun o => sob (cE e) fun c => .aatt o (sT x) c)
  | _ => .stop
mutual
noncomputable def cS : Nat → Stmt → CS
  | 0, _ => .stop
  | n + 1, s => match s with
    | .Return v _ => (match v with | some e => sob (cE gt ks n e) .ret | .none => .ret (.val .none))
    | .Assign ts e _ => sob (one? ts) fun t => asnE ks t e (cE gt ks n)
    | .Expr e _ => sgd (swapFree e) (sob (cE gt ks n e) .expr)
    | .If t a b _ => sob (cE gt ks n t) fun t => .ife t (cB n a) (cB n b)
    | .While t b o _ => sgd (isNil o) (sob (cE gt ks n t) fun t => .whl t (cB n b))
    | .For t it b o _ => sgd (isNil o) (sgd (notSet it) (sob (tgtC ks t) fun x => sob (cE gt ks n it) fun it => .fors x.1 x.2 it (cB n b)))
    | .Continue _ => .cont
    | .Pass _ => .pass
    | .Try b hs o f _ => sgd (isNil hs) (sgd (isNil o) (sgd (!isNil f) (.tryf (cB n b) (cB n f))))
    | _ => .stop
noncomputable def cB : Nat → List Stmt → List CS
  | 0, _ => [.stop]
  | n + 1, l => match l with
    | [] => []
    | s :: r => cS n s :: cB n r
end
end
end
section
theorem sT_tS (t : Txt) : sT (tS t) = t := rfl
theorem tS_sT (x : Str) : tS (sT x) = x := rfl
theorem sT_inj {x y : Str} (h : sT x = sT y) : x = y := by rw [← tS_sT x, ← tS_sT y, h]
theorem teq_iff {a : Txt} : ∀ {b : Txt}, teq a b = true ↔ a = b := by
  induction a with
  | nil =>
    intro b
    cases b with
    | nil => exact ⟨fun _ => rfl, fun _ => rfl⟩
    | cons => exact ⟨nofun, nofun⟩
  | cons x a ih =>
    intro b
    cases b with
    | nil => exact ⟨nofun, nofun⟩
    | cons y b =>
      show (Nat.beq x y && teq a b) = true ↔ _
      rw [Bool.and_eq_true, ih, Nat.beq_eq, List.cons.injEq]
theorem teq_self (a : Txt) : teq a a = true := teq_iff.mpr rfl
theorem teq_ne {a b : Txt} (h : a ≠ b) : teq a b = false := by
  cases q : teq a b with
  | false => rfl
  | true => exact absurd (teq_iff.mp q) h
theorem teq_str (x y : Str) : teq (sT x) (sT y) = (x == y) := by
  cases q : teq (sT x) (sT y) with
  | true => have := sT_inj (teq_iff.mp q); subst this; simp
  | false =>
    have : x ≠ y := fun e => by rw [e, teq_self] at q; cases q
    simp [this]

theorem lk_cons (x y : Txt) (d : PV) (r : Loc) : lk x ((y, d) :: r) = if x = y then some d else lk x r := by
  show bsel (teq x y) (some d) (lk x r) = _
  by_cases h : x = y
  · rw [teq_iff.mpr h, if_pos h]; rfl
  · rw [teq_ne h, if_neg h]; rfl
theorem stL_cons (x y : Txt) (d e : PV) (r : Loc) : stL x d ((y, e) :: r) = if x = y then (y, d) :: r else (y, e) :: stL x d r := by
  show bsel (teq x y) _ _ = _
  by_cases h : x = y
  · rw [teq_iff.mpr h, if_pos h]; rfl
  · rw [teq_ne h, if_neg h]; rfl
theorem rmL_cons (x y : Txt) (e : PV) (r : Loc) : rmL x ((y, e) :: r) = if x = y then r else (y, e) :: rmL x r := by
  show bsel (teq x y) _ _ = _
  by_cases h : x = y
  · rw [teq_iff.mpr h, if_pos h]; rfl
  · rw [teq_ne h, if_neg h]; rfl
theorem lk_stL (x y : Txt) (d : PV) (r : Loc) : lk y (stL x d r) = if y = x then some d else lk y r := by
  induction r with
  | nil => show lk y [(x, d)] = _; rw [lk_cons]
  | cons p r ih =>
    obtain ⟨z, e⟩ := p
    rw [stL_cons, lk_cons]
    by_cases h : x = z
    · subst h
      rw [if_pos rfl, lk_cons]
      by_cases h1 : y = x
      · rw [if_pos h1, if_pos h1]
      · rw [if_neg h1, if_neg h1, if_neg h1]
    · rw [if_neg h, lk_cons, ih]
      by_cases h1 : y = z
      · rw [if_pos h1, if_pos h1, if_neg]; rintro rfl; exact h h1
      · rw [if_neg h1, if_neg h1]

/-! ## how values and objects of the heap bear the machine's data -/
noncomputable abbrev Cells := List (Addr × Obj)
noncomputable abbrev tupOf (its : Array Value) (n : Nat) : Obj := { cls := .type "tuple", data := .seq its n }
noncomputable abbrev rangeOf (n : Int) (t u v : Tok) : Obj := { cls := .type "range", data := .fields #[.int 0 t, .int n u, .int 1 v] }

mutual
inductive VR (as : List Addr) (fz : Cells) : Value → PV → Prop
  | none : VR as fz .none .none
  | bool (b : Bool) : VR as fz (.bool b) (.bool b)
  | int (i : Int) (t : Tok) : VR as fz (.int i t) (.int i)
  | str (x : Str) (t : Tok) : VR as fz (.str x t) (.str (sT x))
  | tup {a : Addr} {vs : List Value} {n : Nat} {ds : List PV} : (a, tupOf vs.toArray n) ∈ fz → VRs as fz vs ds → VR as fz (.ref a) (.tup ds)
  | lst {a : Addr} {vs : List Value} {n : Nat} {ds : List PV} : (a, listOf vs.toArray n) ∈ fz → VRs as fz vs ds → VR as fz (.ref a) (.lst ds)
  | rng {a : Addr} {n : Int} {t u v : Tok} : (a, rangeOf n t u v) ∈ fz → VR as fz (.ref a) (.rng n)
  | obj {a : Addr} {k : Nat} : as[k]? = some a → VR as fz (.ref a) (.obj k)
  | val (v : Value) : VR as fz v (.val v)
inductive VRs (as : List Addr) (fz : Cells) : List Value → List PV → Prop
  | nil : VRs as fz [] []
  | cons {v : Value} {vs : List Value} {d : PV} {ds : List PV} : VR as fz v d → VRs as fz vs ds → VRs as fz (v :: vs) (d :: ds)
end

/-- more addresses, more frozen objects -/
structure Ext (as : List Addr) (fz : Cells) (as' : List Addr) (fz' : Cells) : Prop where
  a : ∀ (k : Nat) (x : Addr), as[k]? = some x → as'[k]? = some x
  f : ∀ p ∈ fz, p ∈ fz'
theorem Ext.refl (as : List Addr) (fz : Cells) : Ext as fz as fz := ⟨fun _ _ h => h, fun _ h => h⟩
theorem Ext.trans {as bs cs : List Addr} {fz gz hz : Cells} (x : Ext as fz bs gz) (y : Ext bs gz cs hz) : Ext as fz cs hz :=
  ⟨fun k a h => y.a k a (x.a k a h), fun p h => y.f p (x.f p h)⟩
theorem Ext.cons (as : List Addr) (fz : Cells) (p : Addr × Obj) : Ext as fz as (p :: fz) := ⟨fun _ _ h => h, fun _ h => .tail _ h⟩

theorem VR.mono {as as' : List Addr} {fz fz' : Cells} (x : Ext as fz as' fz') {v : Value} {d : PV} (h : VR as fz v d) : VR as' fz' v d :=
  VR.rec (motive_1 := fun v d _ => VR as' fz' v d) (motive_2 := fun vs ds _ => VRs as' fz' vs ds) .none .bool .int .str (fun h _ r => .tup (x.f _ h) r) (fun h _ r => .lst (x.f _ h) r) (fun h => .rng (x.f _ h)) (fun h => .obj (x.a _ _ h)) .val .nil (fun _ _ h r => .cons h r) h
theorem VRs.ind {as : List Addr} {fz : Cells} {P : List Value → List PV → Prop} (h0 : P [] []) (h1 : ∀ {v : Value} {vs : List Value} {d : PV} {ds : List PV}, VR as fz v d → VRs as fz vs ds → P vs ds → P (v :: vs) (d :: ds)) {vs : List Value} {ds : List PV} (h : VRs as fz vs ds) : P vs ds :=
  VRs.rec (motive_1 := fun _ _ _ => True) (motive_2 := fun vs ds _ => P vs ds) trivial (fun _ => trivial) (fun _ _ => trivial) (fun _ _ => trivial) (fun _ _ _ => trivial) (fun _ _ _ => trivial) (fun _ => trivial) (fun _ => trivial) (fun _ => trivial) h0 (fun h r _ ih => h1 h r ih) h
theorem VRs.mono {as as' : List Addr} {fz fz' : Cells} (x : Ext as fz as' fz') {vs : List Value} {ds : List PV} (h : VRs as fz vs ds) : VRs as' fz' vs ds := VRs.ind .nil (fun h _ r => .cons (h.mono x) r) h
theorem VRs.length {as : List Addr} {fz : Cells} {vs : List Value} {ds : List PV} (h : VRs as fz vs ds) : vs.length = ds.length := VRs.ind (P := fun vs ds => vs.length = ds.length) rfl (fun _ _ ih => congrArg Nat.succ ih) h
theorem VRs.append {as : List Addr} {fz : Cells} {vs : List Value} {ds : List PV} {ws : List Value} {es : List PV} (h : VRs as fz vs ds) (y : VRs as fz ws es) : VRs as fz (vs ++ ws) (ds ++ es) := VRs.ind (P := fun vs ds => VRs as fz (vs ++ ws) (ds ++ es)) y (fun h _ ih => .cons h ih) h
theorem VRs.get {as : List Addr} {fz : Cells} {vs : List Value} {ds : List PV} (h : VRs as fz vs ds) : ∀ {k : Nat} {d : PV}, ds[k]? = some d → ∃ v, vs[k]? = some v ∧ VR as fz v d := by
  refine VRs.ind (P := fun vs ds => ∀ {k : Nat} {d : PV}, ds[k]? = some d → ∃ v, vs[k]? = some v ∧ VR as fz v d) (fun e => nomatch e) (fun h _ ih k d e => ?_) h
  cases k with
  | zero => cases e; exact ⟨_, rfl, h⟩
  | succ k => exact ih e
theorem VRs.drop {as : List Addr} {fz : Cells} : ∀ (k : Nat) {vs : List Value} {ds : List PV}, VRs as fz vs ds → VRs as fz (vs.drop k) (ds.drop k) := by
  intro k
  induction k with
  | zero => exact fun h => h
  | succ k ih =>
    intro vs ds h
    cases h with
    | nil => exact .nil
    | cons _ r => exact ih r
theorem VRs.take {as : List Addr} {fz : Cells} : ∀ (k : Nat) {vs : List Value} {ds : List PV}, VRs as fz vs ds → VRs as fz (vs.take k) (ds.take k) := by
  intro k
  induction k with
  | zero => exact fun _ => .nil
  | succ k ih =>
    intro vs ds h
    cases h with
    | nil => exact .nil
    | cons h r => exact .cons h (ih r)
theorem VRs.reverse {as : List Addr} {fz : Cells} {vs : List Value} {ds : List PV} (h : VRs as fz vs ds) : VRs as fz vs.reverse ds.reverse :=
  VRs.ind (P := fun vs ds => VRs as fz vs.reverse ds.reverse) .nil (fun h _ r => by rw [List.reverse_cons, List.reverse_cons]; exact r.append (.cons h .nil)) h
theorem VRs.rep {as : List Addr} {fz : Cells} {vs : List Value} {ds : List PV} (h : VRs as fz vs ds) : ∀ n : Nat, VRs as fz (List.replicate n vs).flatten (List.replicate n ds).flatten
  | 0 => .nil
  | n + 1 => by rw [List.replicate_succ, List.replicate_succ, List.flatten_cons, List.flatten_cons]; exact h.append (h.rep n)

/-- an object's own names -/
inductive ER (P : Params) (as : List Addr) (fz : Cells) : List DictEntry → List (Txt × PV) → Prop
  | nil : ER P as fz [] []
  | cons {x : Str} {t : Tok} {v : Value} {d : PV} {es : List DictEntry} {ds : List (Txt × PV)} : VR as fz v d → ER P as fz es ds →
      ER P as fz (⟨PyData.keyHash P x, .str x t, v⟩ :: es) ((sT x, d) :: ds)
theorem ER.mono {P : Params} {as as' : List Addr} {fz fz' : Cells} (x : Ext as fz as' fz') {es : List DictEntry} {ds : List (Txt × PV)} (h : ER P as fz es ds) : ER P as' fz' es ds := by
  induction h with
  | nil => exact .nil
  | cons h _ ih => exact .cons (h.mono x) ih
/-- a dict's pairs under str keys -/
inductive KVR (as : List Addr) (fz : Cells) : List (Str × Value) → List (Txt × PV) → Prop
  | nil : KVR as fz [] []
  | cons {x : Str} {v : Value} {d : PV} {es : List (Str × Value)} {ds : List (Txt × PV)} : VR as fz v d → KVR as fz es ds → KVR as fz ((x, v) :: es) ((sT x, d) :: ds)
theorem KVR.mono {as as' : List Addr} {fz fz' : Cells} (x : Ext as fz as' fz') {es : List (Str × Value)} {ds : List (Txt × PV)} (h : KVR as fz es ds) : KVR as' fz' es ds := by
  induction h with
  | nil => exact .nil
  | cons h _ ih => exact .cons (h.mono x) ih
theorem KVR.len {as : List Addr} {fz : Cells} {es : List (Str × Value)} {ds : List (Txt × PV)} (h : KVR as fz es ds) : es.length = ds.length := by
  induction h with
  | nil => rfl
  | cons _ _ ih => exact congrArg Nat.succ ih
theorem sT_eq_iff {x y : Str} : sT x = sT y ↔ x = y := ⟨sT_inj, fun h => by rw [h]⟩
theorem KVR.at {as : List Addr} {fz : Cells} {k : Str} {es : List (Str × Value)} {ds : List (Txt × PV)} (h : KVR as fz es ds) :
    (∀ d, lk (sT k) ds = some d → ∃ v, valueAt es k = some v ∧ VR as fz v d) ∧ (lk (sT k) ds = none → valueAt es k = none) := by
  induction h with
  | nil => exact ⟨nofun, fun _ => rfl⟩
  | @cons x v d es ds h r ih =>
    obtain ⟨i1, i2⟩ := ih
    have e (es : List (Str × Value)) : valueAt ((x, v) :: es) k = if x = k then some v else valueAt es k := by
      unfold valueAt
      rw [List.find?_cons]
      by_cases q : x = k
      · simp [q]
      · simp [q]
    rw [e, lk_cons]
    by_cases q : x = k
    · subst q
      simp only [if_true]
      exact ⟨fun d' h' => ⟨v, rfl, by cases h'; exact h⟩, fun h' => by cases h'⟩
    · have q' : ¬ sT k = sT x := fun h' => q (sT_inj h').symm
      rw [if_neg q, if_neg q']
      exact ⟨i1, i2⟩
theorem stored_cons (x : Str) (v : Value) (es : List (Str × Value)) (k : Str) (u : Value) (hn : x ∉ es.map (·.1)) : stored ((x, v) :: es) k u = if x = k then (x, u) :: es else (x, v) :: stored es k u := by
  unfold stored
  by_cases q : x = k
  · subst q
    simp only [List.any_cons, decide_true, Bool.true_or, if_true, List.map_cons]
    rw [map_store_of_not_mem es x u hn]
  · simp only [List.any_cons, decide_eq_false q, Bool.false_or, if_neg q, List.map_cons]
    split <;> simp
theorem KVR.put {as : List Addr} {fz : Cells} {k : Str} {u : Value} {c : PV} (hu : VR as fz u c) {es : List (Str × Value)} {ds : List (Txt × PV)} (h : KVR as fz es ds) (hn : (es.map (·.1)).Nodup) : KVR as fz (stored es k u) (stL (sT k) c ds) := by
  induction h with
  | nil => show KVR as fz ([] ++ [(k, u)]) [(sT k, c)]; exact .cons hu .nil
  | @cons x v d es ds h r ih =>
    rw [List.map_cons, List.nodup_cons] at hn
    rw [stored_cons x v _ k u hn.1]
    rw [stL_cons]
    by_cases q : x = k
    · subst q; rw [if_pos rfl, if_pos rfl]; exact .cons hu r
    · rw [if_neg q, if_neg (fun h' => q (sT_inj h').symm)]; exact .cons h (ih hn.2)
theorem KVR.del {as : List Addr} {fz : Cells} {k : Str} {es : List (Str × Value)} {ds : List (Txt × PV)} (h : KVR as fz es ds) (hn : (es.map (·.1)).Nodup) : KVR as fz (without es k) (rmL (sT k) ds) := by
  induction h with
  | nil => exact .nil
  | @cons x v d es ds h r ih =>
    rw [List.map_cons, List.nodup_cons] at hn
    unfold without
    rw [List.filter_cons, rmL_cons]
    by_cases q : x = k
    · subst q
      rw [if_pos rfl]
      simp only [ne_eq, not_true_eq_false, decide_false, Bool.false_eq_true, if_false]
      have := without_of_not_mem es x hn.1
      unfold without at this
      rw [this]; exact r
    · rw [if_neg (fun h' => q (sT_inj h').symm)]
      simp only [ne_eq, q, not_false_eq_true, decide_true, if_true]
      exact .cons h (ih hn.2)

/-- an object that may change: its cells -/
inductive OR (prog : Program) (w : World) (as : List Addr) (fz : Cells) : PO → Cells → Addr → Prop
  | list {a : Addr} {vs : List Value} {n : Nat} {ds : List PV} : VRs as fz vs ds → OR prog w as fz (.list ds) [(a, listOf vs.toArray n)] a
  | dict {a : Addr} {o : Obj} {kvs : List (Str × Value)} {ds : List (Txt × PV)} : o.IsDictOf (strKind prog w) kvs → KVR as fz kvs ds → (a == sysModules) = false → ds.length ≤ 1000 → OR prog w as fz (.dict ds) [(a, o)] a
  | inst {C x dx : Addr} {es : List DictEntry} {n : Nat} {ds : List (Txt × PV)} : ER w.params as fz es ds → x ≠ dx → OR prog w as fz (.inst C ds) [(x, instObj C dx), (dx, dictOf es n)] x
theorem OR.mono {prog : Program} {w : World} {as as' : List Addr} {fz fz' : Cells} {o : PO} {c : Cells} {a : Addr} (x : Ext as fz as' fz') (h : OR prog w as fz o c a) : OR prog w as' fz' o c a := by
  cases h with
  | list h => exact .list (h.mono x)
  | dict h n l z => exact .dict h (n.mono x) l z
  | inst h n => exact .inst (h.mono x) n

/-- all the objects that may change, in their order -/
inductive MR (prog : Program) (w : World) (as : List Addr) (fz : Cells) : List Cells → List Addr → Sto → Prop
  | nil : MR prog w as fz [] [] []
  | cons {o : PO} {c : Cells} {a : Addr} {mus : List Cells} {bs : List Addr} {σ : Sto} : OR prog w as fz o c a → MR prog w as fz mus bs σ → MR prog w as fz (c :: mus) (a :: bs) (o :: σ)
theorem MR.mono {prog : Program} {w : World} {as as' : List Addr} {fz fz' : Cells} (x : Ext as fz as' fz') {mus : List Cells} {bs : List Addr} {σ : Sto} (h : MR prog w as fz mus bs σ) : MR prog w as' fz' mus bs σ := by
  induction h with
  | nil => exact .nil
  | cons h _ ih => exact .cons (h.mono x) ih
theorem MR.len {prog : Program} {w : World} {as : List Addr} {fz : Cells} {mus : List Cells} {bs : List Addr} {σ : Sto} (h : MR prog w as fz mus bs σ) : bs.length = σ.length ∧ mus.length = σ.length := by
  induction h with
  | nil => exact ⟨rfl, rfl⟩
  | cons _ _ ih => exact ⟨congrArg Nat.succ ih.1, congrArg Nat.succ ih.2⟩
theorem MR.snoc {prog : Program} {w : World} {as : List Addr} {fz : Cells} {o : PO} {c : Cells} {a : Addr} (h : OR prog w as fz o c a) {mus : List Cells} {bs : List Addr} {σ : Sto} (r : MR prog w as fz mus bs σ) : MR prog w as fz (mus ++ [c]) (bs ++ [a]) (σ ++ [o]) := by
  induction r with
  | nil => exact .cons h .nil
  | cons h' _ ih => exact .cons h' ih
theorem MR.take {prog : Program} {w : World} {as : List Addr} {fz : Cells} : ∀ (k : Nat) {mus : List Cells} {bs : List Addr} {σ : Sto}, MR prog w as fz mus bs σ → MR prog w as fz (mus.take k) (bs.take k) (σ.take k) := by
  intro k
  induction k with
  | zero => exact fun _ => .nil
  | succ k ih =>
    intro mus bs σ h
    cases h with
    | nil => exact .nil
    | cons h r => exact .cons h (ih r)
/-- one object of them, and what stands about it -/
theorem MR.split {prog : Program} {w : World} {as : List Addr} {fz : Cells} {mus : List Cells} {bs : List Addr} {σ : Sto} (r : MR prog w as fz mus bs σ) : ∀ {k : Nat} {o : PO}, sget σ k = some o →
    ∃ pre c post a, mus = pre ++ c :: post ∧ bs[k]? = some a ∧ OR prog w as fz o c a ∧ ∀ o' c', OR prog w as fz o' c' a → MR prog w as fz (pre ++ c' :: post) bs (sset σ k o') := by
  induction r with
  | nil => intro k o e; cases k <;> cases e
  | @cons _ c _ mus _ _ h r ih =>
    intro k o e
    cases k with
    | zero => cases e; exact ⟨[], _, mus, _, rfl, rfl, h, fun o' c' h' => .cons h' r⟩
    | succ k =>
      obtain ⟨pre, c', post, a, e1, e2, h1, h2⟩ := ih (k := k) (o := o) e
      exact ⟨c :: pre, c', post, a, congrArg (List.cons c) e1, e2, h1, fun o' c' h' => .cons h (h2 o' c' h')⟩

/-- the changing ones lie apart, and apart from the frozen ones -/
structure Sep (mus : List Cells) (fz hid : Cells) : Prop where
  nd : (mus.flatten.map (·.1)).Nodup
  off : ∀ p ∈ mus.flatten, ∀ q ∈ fz ++ hid, p.1 ≠ q.1
  hh : (∀ p ∈ fz, ∀ q ∈ hid, p.1 ≠ q.1) ∧ (hid.map (·.1)).Nodup
theorem fresh_hh {fz hid : Cells} {a : Addr} {o : Obj} (D : (∀ p ∈ fz, ∀ q ∈ hid, p.1 ≠ q.1) ∧ (hid.map (·.1)).Nodup) (h : ∀ q ∈ hid, q.1 ≠ a) : (∀ p ∈ (a, o) :: fz, ∀ q ∈ hid, p.1 ≠ q.1) ∧ (hid.map (·.1)).Nodup := by
  refine ⟨fun p hp q hq => ?_, D.2⟩
  rcases List.mem_cons.mp hp with rfl | hp
  · exact fun e => h q hq e.symm
  · exact D.1 p hp q hq

/-- the object is a block's names -/
noncomputable def ObjNs (o : Obj) (m : Str → Option Value) : Prop := ∃ es ep, o.data = .dict es ep ∧ StrKeys es ∧ ∀ name, nsFind es name = m name
/-- the names that a block sees: the frame's own (at L), a cell's, or those of a block within the frame -/
noncomputable def FRl (hid : Cells) (L : Addr) (env : Env) (as : List Addr) (fz : Cells) (m : Str → Option Value) (ρ : Loc) : Prop :=
  ∀ (x : Str) (d : PV), lk (sT x) ρ = some d → ∃ v, VR as fz v d ∧
    ((env.kindOf x = some .local ∧ ((env.locals = L ∧ m x = some v) ∨ ∃ o mc, (env.locals, o) ∈ hid ∧ ObjNs o mc ∧ mc x = some v)) ∨
     (env.kindOf x = some .cell ∧ ∃ c o, env.cells.lookup x = some c ∧ (c, o) ∈ fz ∧ o.data = .cell (some v)))
theorem FRl.mono {hid : Cells} {L : Addr} {env : Env} {as as' : List Addr} {fz fz' : Cells} {m : Str → Option Value} {ρ : Loc} (x : Ext as fz as' fz') (h : FRl hid L env as fz m ρ) : FRl hid L env as' fz' m ρ := by
  intro y d e
  obtain ⟨v, hv, h'⟩ := h y d e
  refine ⟨v, hv.mono x, ?_⟩
  rcases h' with ⟨k, h | ⟨o, mc, h1, h2⟩⟩ | ⟨k, c, o, h1, h2, h3⟩
  · exact .inl ⟨k, .inl h⟩
  · exact .inl ⟨k, .inr ⟨o, mc, h1, h2⟩⟩
  · exact .inr ⟨k, c, o, h1, x.f _ h2, h3⟩

structure Cx where
  prog : Program
  w : World
  K : Frag
  p : Program
  loose : List Str
  mean : ExcName → Option Value
  mg : Str → Option Value
  mb : Str → Option Value
  s₀ : Shared
  scr : Option (Addr × List PV)
  /-- what a loop holds while its body runs -/
  hid : Cells
  /-- what else is kept meanwhile of the frame's own names -/
  kp : List Addr → Cells → (Str → Option Value) → Prop
  kpm : ∀ as fz as' fz' m, Ext as fz as' fz' → kp as fz m → kp as' fz' m
noncomputable def FRx (C : Cx) (L : Addr) (env : Env) (as : List Addr) (fz : Cells) (m : Str → Option Value) (ρ : Loc) : Prop := FRl C.hid L env as fz m ρ ∧ C.kp as fz m
theorem FRx.mono {C : Cx} {L : Addr} {env : Env} {as as' : List Addr} {fz fz' : Cells} {m : Str → Option Value} {ρ : Loc} (x : Ext as fz as' fz') (h : FRx C L env as fz m ρ) : FRx C L env as' fz' m ρ :=
  ⟨h.1.mono x, C.kpm _ _ _ _ _ x h.2⟩

/-- where a frame stands -/
structure FrOK (C : Cx) (N : Nat) (A A₀ : Around) (base h₀ : Heap) (outer : List Env) (fenv : Env) (L : Addr) : Prop where
  B : Below A₀ base outer h₀
  X : C.K.In h₀
  T : Top C.p C.loose C.mean C.mg C.mb h₀
  hA : A.frames = some (fenv :: outer)
  hf : fenv.frame = some L
  hfun : fenv.scope.kind = .function
  hh : A.handled = none
  depth : A.depth + N < recursionLimit
  units : A.units + 16 * N + 128 < cLine
  scr : ∀ a ds, C.scr = some (a, ds) → ∃ vs : List Value, h₀.IsList a vs.toArray ∧ VRs [] [] vs ds
/-- the block that an expression stands in -/
structure EvOK (env : Env) : Prop where
  kind : env.scope.kind = .function
  gl : env.globals = mainGlobals
  bu : env.builtins = builtinsNs

/-- the state, as the machine sees it -/
structure St (C : Cx) (h₀ : Heap) (L : Addr) (env : Env) (as : List Addr) (fz : Cells) (ρ : Loc) (σ : Sto) (s : Shared) : Prop where
  same : s.gens = C.s₀.gens ∧ s.drawn = C.s₀.drawn ∧ s.os = C.s₀.os ∧ (env.locals = L ∨ ∃ o, (env.locals, o) ∈ C.hid)
  ex : ∃ m mus, Fr h₀ L s.heap m ∧ News h₀ L s.heap (mus.flatten ++ (fz ++ C.hid)) ∧ MR C.prog C.w as fz mus as σ ∧ Sep mus fz C.hid ∧ FRx C L env as fz m ρ

section
variable {C : Cx} {h₀ : Heap} {L : Addr} {env : Env} {as : List Addr} {fz : Cells} {ρ : Loc} {σ : Sto} {s : Shared}
theorem St.toks (S : St C h₀ L env as fz ρ σ s) (t : Nat) : St C h₀ L env as fz ρ σ { s with toks := t } := ⟨S.same, S.ex⟩
theorem St.fr (S : St C h₀ L env as fz ρ σ s) : ∃ m, Fr h₀ L s.heap m := by
  obtain ⟨m, _, F, _⟩ := S.ex
  exact ⟨m, F⟩
theorem St.newsFz (S : St C h₀ L env as fz ρ σ s) : News h₀ L s.heap fz := by
  obtain ⟨_, _, _, N, _⟩ := S.ex
  exact fun p hp => N p (List.mem_append_right _ (List.mem_append_left _ hp))
theorem St.isTup {a : Addr} {vs : Array Value} {n : Nat} (S : St C h₀ L env as fz ρ σ s) (h : (a, tupOf vs n) ∈ fz) : IsTup s.heap a vs := S.newsFz.isTup h
theorem St.isList {a : Addr} {vs : Array Value} {n : Nat} (S : St C h₀ L env as fz ρ σ s) (h : (a, listOf vs n) ∈ fz) : s.heap.IsList a vs := ⟨_, (S.newsFz _ h).1, rfl, n, rfl⟩

/-- a new object that will not change -/
theorem St.froze {o : Obj} (S : St C h₀ L env as fz ρ σ s) (hfree : o.isFreed = false := by rfl) :
    St C h₀ L env as ((s.heap.objs.size, o) :: fz) ρ σ { s with heap := s.heap.push o } := by
  obtain ⟨m, mus, F, N, R, D, G⟩ := S.ex
  have N' := News.push F N o hfree
  have x := Ext.cons as fz (s.heap.objs.size, o)
  refine ⟨S.same, m, mus, F.push o, fun p hp => N' p ?_, R.mono x, ⟨D.nd, fun p hp q hq => ?_, fresh_hh D.hh fun q hq => Nat.ne_of_lt (Heap.lt_size (N q (List.mem_append_right _ (List.mem_append_right _ hq))).1)⟩, G.mono x⟩
  · simp only [List.mem_append, List.mem_cons] at hp ⊢
    rcases hp with h | (h | h) | h
    · exact .inr (.inl h)
    · exact .inl h
    · exact .inr (.inr (.inl h))
    · exact .inr (.inr (.inr h))
  · rcases List.mem_cons.mp hq with rfl | hq
    · exact Nat.ne_of_lt (Heap.lt_size (N p (List.mem_append_left _ hp)).1)
    · exact D.off p hp q hq

/-- a new object that may change -/
theorem St.made {o : Obj} {po : PO} (S : St C h₀ L env as fz ρ σ s) (h : OR C.prog C.w (as ++ [s.heap.objs.size]) fz po [(s.heap.objs.size, o)] s.heap.objs.size) (hfree : o.isFreed = false := by rfl) :
    Ext as fz (as ++ [s.heap.objs.size]) fz ∧ St C h₀ L env (as ++ [s.heap.objs.size]) fz ρ (σ ++ [po]) { s with heap := s.heap.push o } := by
  obtain ⟨m, mus, F, N, R, D, G⟩ := S.ex
  have N' := News.push F N o hfree
  have x : Ext as fz (as ++ [s.heap.objs.size]) fz := ⟨fun k a e => by rw [List.getElem?_append_left (List.getElem?_eq_some_iff.mp e).1]; exact e, fun _ h => h⟩
  refine ⟨x, S.same, m, mus ++ [[(s.heap.objs.size, o)]], F.push o, fun p hp => N' p ?_, (R.mono x).snoc h, ⟨?_, ?_, D.hh⟩, G.mono x⟩
  · simp only [List.flatten_append, List.flatten_cons, List.flatten_nil, List.append_nil, List.mem_append, List.mem_cons, List.not_mem_nil, or_false] at hp ⊢
    rcases hp with (h | h) | h
    · exact .inr (.inl h)
    · exact .inl h
    · exact .inr (.inr h)
  · simp only [List.flatten_append, List.flatten_cons, List.flatten_nil, List.append_nil, List.map_append, List.map_cons, List.map_nil]
    refine List.nodup_append.mpr ⟨D.nd, by simp, ?_⟩
    intro a ha b hb e
    rw [List.mem_singleton] at hb
    subst hb; subst e
    obtain ⟨p, hp, e⟩ := List.mem_map.mp ha
    exact absurd (Heap.lt_size (N p (List.mem_append_left _ hp)).1) (by rw [e]; exact Nat.lt_irrefl _)
  · intro p hp q hq
    simp only [List.flatten_append, List.flatten_cons, List.flatten_nil, List.append_nil, List.mem_append, List.mem_cons, List.not_mem_nil, or_false] at hp
    rcases hp with hp | rfl
    · exact D.off p hp q hq
    · exact (Nat.ne_of_lt (Heap.lt_size (N q (List.mem_append_right _ hq)).1)).symm
end

section
variable {C : Cx} {h₀ : Heap} {L : Addr} {env : Env} {as : List Addr} {fz : Cells} {ρ : Loc} {σ : Sto} {s : Shared}
/-- one of the objects that may change, and its change -/
theorem St.one {k : Nat} {po : PO} (S : St C h₀ L env as fz ρ σ s) (e : sget σ k = some po) :
    ∃ a c, as[k]? = some a ∧ OR C.prog C.w as fz po c a ∧ (∀ p ∈ c, s.heap.get? p.1 = some p.2) ∧
      ∀ pre d o post, c = pre ++ (d, o) :: post → (∀ p ∈ pre, p.1 ≠ d) → (∀ p ∈ post, p.1 ≠ d) → ∀ h' o' po' tk, Heap.SameBut d s.heap h' → h'.get? d = some o' → OR C.prog C.w as fz po' (pre ++ (d, o') :: post) a →
        St C h₀ L env as fz ρ (sset σ k po') { s with heap := h', toks := tk } := by
  obtain ⟨m, mus, F, N, R, D, G⟩ := S.ex
  obtain ⟨pre, c, post, a, rfl, ha, ho, up⟩ := R.split e
  have hc : ∀ p ∈ c, p ∈ (pre ++ c :: post).flatten ++ (fz ++ C.hid) := fun p hp => by
    simp only [List.flatten_append, List.flatten_cons, List.mem_append]
    exact .inl (.inr (.inl hp))
  refine ⟨a, c, ha, ho, fun p hp => (N p (hc p hp)).1, ?_⟩
  rintro pre' d o post' rfl n1 n2 h' o' po' tk hs hd ho'
  have hmem := N (d, o) (hc _ (List.mem_append_right _ (.head _)))
  have hL : L ≠ d := fun q => hmem.2.1 q.symm
  have nd := D.nd
  have off : ∀ p ∈ pre.flatten ++ post.flatten, p.1 ≠ d := by
    intro p hp q
    simp only [List.flatten_append, List.flatten_cons, List.map_append, List.map_cons] at nd
    have e1 : d ∈ pre'.map (·.1) ++ d :: post'.map (·.1) := by simp
    rcases List.mem_append.mp hp with hp | hp
    · exact (List.nodup_append.mp nd).2.2 p.1 (List.mem_map_of_mem hp) d (List.mem_append_left _ e1) q
    · exact (List.nodup_append.mp (List.nodup_append.mp nd).2.1).2.2 d e1 p.1 (List.mem_map_of_mem hp) q.symm
  refine ⟨S.same, m, pre ++ (pre' ++ (d, o') :: post') :: post, ⟨F.ns.sameBut hs hL, fun b ob e => (hs.2 b (fun q => ?_)).trans (F.keep b ob e), F.above⟩, ?_, up _ _ ho', ⟨?_, ?_, D.hh⟩, G⟩
  · rw [q, hmem.2.2] at e; cases e
  · intro p hp
    have same : p.1 ≠ d → p ∈ (pre ++ (pre' ++ (d, o) :: post') :: post).flatten ++ (fz ++ C.hid) → h'.get? p.1 = some p.2 ∧ p.1 ≠ L ∧ h₀.get? p.1 = none := fun hne hin => ⟨(hs.2 _ hne).trans (N p hin).1, (N p hin).2⟩
    simp only [List.flatten_append, List.flatten_cons, List.mem_append, List.mem_cons] at hp
    rcases hp with (hp | (hp | rfl | hp) | hp) | hp
    · exact same (off p (List.mem_append_left _ hp)) (by simp only [List.flatten_append, List.flatten_cons, List.mem_append]; exact .inl (.inl hp))
    · exact same (n1 p hp) (by simp only [List.flatten_append, List.flatten_cons, List.mem_append]; exact .inl (.inr (.inl (.inl hp))))
    · exact ⟨hd, hmem.2⟩
    · exact same (n2 p hp) (by simp only [List.flatten_append, List.flatten_cons, List.mem_append, List.mem_cons]; exact .inl (.inr (.inl (.inr (.inr hp)))))
    · exact same (off p (List.mem_append_right _ hp)) (by simp only [List.flatten_append, List.flatten_cons, List.mem_append]; exact .inl (.inr (.inr hp)))
    · exact same (fun q => D.off (d, o) (by simp only [List.flatten_append, List.flatten_cons, List.mem_append, List.mem_cons]; exact .inr (.inl (.inr (.inl trivial)))) p (List.mem_append.mpr hp) q.symm) (List.mem_append_right _ (List.mem_append.mpr hp))
  · simpa [List.flatten_append, List.map_append] using nd
  · intro p hp q hq
    simp only [List.flatten_append, List.flatten_cons, List.mem_append, List.mem_cons] at hp
    have off' : ∀ r, r.1 = p.1 → r ∈ (pre ++ (pre' ++ (d, o) :: post') :: post).flatten → p.1 ≠ q.1 := fun r e hr => e ▸ D.off r hr q hq
    rcases hp with hp | (hp | rfl | hp) | hp
    · exact off' p rfl (by simp only [List.flatten_append, List.flatten_cons, List.mem_append]; exact .inl hp)
    · exact off' p rfl (by simp only [List.flatten_append, List.flatten_cons, List.mem_append]; exact .inr (.inl (.inl hp)))
    · exact off' (d, o) rfl (by simp only [List.flatten_append, List.flatten_cons, List.mem_append, List.mem_cons]; exact .inr (.inl (.inr (.inl trivial))))
    · exact off' p rfl (by simp only [List.flatten_append, List.flatten_cons, List.mem_append, List.mem_cons]; exact .inr (.inl (.inr (.inr hp))))
    · exact off' p rfl (by simp only [List.flatten_append, List.flatten_cons, List.mem_append]; exact .inr (.inr hp))
end

/-- what is done with what comes back -/
noncomputable def RetOK (C : Cx) (h₀ : Heap) (L : Addr) (env : Env) (as : List Addr) (fz : Cells) (ρ : Loc) (k : Kont) (Q : Value → Shared → Prop) : Prop :=
  ∀ v d as' fz' σ' s', k d σ' → Ext as fz as' fz' → St C h₀ L env as' fz' ρ σ' s' → VR as' fz' v d → Q v s'
noncomputable def RetsOK (C : Cx) (h₀ : Heap) (L : Addr) (env : Env) (as : List Addr) (fz : Cells) (ρ : Loc) (k : List PV → Sto → Prop) (Q : List Value → Shared → Prop) : Prop :=
  ∀ vs ds as' fz' σ' s', k ds σ' → Ext as fz as' fz' → St C h₀ L env as' fz' ρ σ' s' → VRs as' fz' vs ds → Q vs s'
noncomputable def RetBOK (C : Cx) (h₀ : Heap) (L : Addr) (env : Env) (as : List Addr) (fz : Cells) (ρ : Loc) (k : Bool → Sto → Prop) (Q : Bool → Shared → Prop) : Prop :=
  ∀ b as' fz' σ' s', k b σ' → Ext as fz as' fz' → St C h₀ L env as' fz' ρ σ' s' → Q b s'
section
variable {C : Cx} {h₀ : Heap} {L : Addr} {env : Env} {as as' : List Addr} {fz fz' : Cells} {ρ : Loc}
theorem RetOK.ext {k : Kont} {Q : Value → Shared → Prop} (h : RetOK C h₀ L env as fz ρ k Q) (x : Ext as fz as' fz') : RetOK C h₀ L env as' fz' ρ k Q :=
  fun v d bs gz σ' s' hk y S R => h v d bs gz σ' s' hk (x.trans y) S R
theorem RetsOK.ext {k : List PV → Sto → Prop} {Q : List Value → Shared → Prop} (h : RetsOK C h₀ L env as fz ρ k Q) (x : Ext as fz as' fz') : RetsOK C h₀ L env as' fz' ρ k Q :=
  fun v d bs gz σ' s' hk y S R => h v d bs gz σ' s' hk (x.trans y) S R
theorem RetBOK.ext {k : Bool → Sto → Prop} {Q : Bool → Shared → Prop} (h : RetBOK C h₀ L env as fz ρ k Q) (x : Ext as fz as' fz') : RetBOK C h₀ L env as' fz' ρ k Q :=
  fun b bs gz σ' s' hk y S => h b bs gz σ' s' hk (x.trans y) S
theorem RetOK.now {k : Kont} {Q : Value → Shared → Prop} {σ : Sto} {s : Shared} {v : Value} {d : PV} (h : RetOK C h₀ L env as fz ρ k Q) (hk : k d σ) (S : St C h₀ L env as fz ρ σ s) (R : VR as fz v d) : Q v s :=
  h v d as fz σ s hk (Ext.refl _ _) S R
end
end
section
open PySem PySem.W PyProof.Rows PySem.Calls PySem.Spec PySem.Builtin

theorem noFill_tuple_mul : fillsNumberSlot (.type "tuple") "mul" = pure false :=
  PySem.fillsNumberSlot_seq (id := "tuple.__mul__") (r := some (.builtin "tuple.__rmul__")) F.slot_tuple_mul.lookup (by decide +kernel) F.slot_tuple_rmul.lookup (by decide +kernel)
theorem repeat_tuple : seqRepeat? (.type "tuple") = pure (some (.builtin "tuple.__mul__")) := by
  unfold seqRepeat?
  rw [PySem.seqSlot_of (T := "tuple") (name := "__mul__") (id := "tuple.__mul__") F.slot_tuple_mul.lookup (by decide +kernel), PySem.seqSlot_of (T := "tuple") (name := "__rmul__") (id := "tuple.__rmul__") F.slot_tuple_rmul.lookup (by decide +kernel)]
  rfl
theorem int_rmul_tuple (a : Int) (t : Tok) (l : Addr) (items : Array Value) (n : Nat) (d : Option Addr) (sl : Array (Option Value)) :
    Meets (Builtin.«int.__rmul__» ⟨[.int a t, .ref l], []⟩) (fun _ R s => s.heap.get? l = some { cls := .type "tuple", dict := d, data := .seq items n, slots := sl } ∧ R (.ok (.ret Value.notImplemented)) s) :=
  .of_wp fun prog w A R s h => by obtain ⟨hp, g, d, tk, os⟩ := s; obtain ⟨hl, h⟩ := h; wp_walk; exact ⟨_, rfl, h⟩

section
variable {prog : Program} {w : World} {A : Around} {E : Value → Shared → Prop} {s : Shared}
theorem tup_exact {t : Addr} {items : Array Value} {Q : Bool → Shared → Prop} (ht : IsTup s.heap t items) (h : Q true s) : wpAny (model prog w) A (Builtin.Tuple.tupleIsExact (.ref t)) Q E s := by
  unfold Builtin.Tuple.tupleIsExact
  exact wpAny_bind (wpAny_typeOf ht.typeIs (wpAny_pure h))
theorem tup_new {xs : Array Value} {Q : Value → Shared → Prop} (hz : xs.size ≤ sizeLine) (h : Q (.ref s.heap.objs.size) { s with heap := s.heap.push { cls := .type "tuple", data := .seq xs } }) : wpAny (model prog w) A (Builtin.Tuple.tupleExact xs) Q E s := by
  first
    | exact wpAny_newObj_type h hz
    | exact wpAny_newObj_type (wpAny_pure h) hz
theorem tuple_mul {t : Addr} {vs : List Value} {x : Int} {u : Tok} {Q : Value → Shared → Prop} (ht : IsTup s.heap t vs.toArray) (hne : vs ≠ []) (h0 : 0 ≤ x) (h1 : x ≤ 100) (h2 : vs.length ≤ 100)
    (same : x = 1 → Q (.ref t) s) (new : x ≠ 1 → Q (.ref s.heap.objs.size) { s with heap := s.heap.push { cls := .type "tuple", data := .seq (List.replicate x.toNat vs).flatten.toArray } }) :
    wpAny (model prog w) A (binaryOp .Mult (.ref t) (.int x u)) Q E s := by
  obtain ⟨⟨cls, d, data, sl⟩, ho, hcl, k, hd⟩ := id ht
  simp only at hcl hd
  subst hcl hd
  refine wpAny_binaryOp_repeat_ref (T := "tuple") (U := "int") (by decide) ⟨_, ho, rfl⟩ (fun s' => typeIs_int s' x u) noFill_tuple_mul F.fills_int_mul F.slot_int_rmul repeat_tuple F.slot_int_index.lookup
    (call_meets F.slot_int_rmul (typeIs_int s x u) F.entry_int_rmul (F.args_int_rmul_2 _ _) (int_rmul_tuple x u t vs.toArray k d sl)
      ⟨ho, rfl, ⟨_, ho, rfl⟩, ?_⟩)
  refine wpAny_call_entry F.slot_tuple_mul ⟨_, ho, rfl⟩ F.entry_tuple_mul ?_ (F.args_tuple_mul_2 _ _)
  show wpAny _ _ (asIndex (.int x u) >>= _) _ _ s
  refine wpAny_bind (wpAny_pure ?_)
  have hf : ((vs.toArray.isEmpty || x == 1) : Bool) = decide (x = 1) := by
    have : vs.toArray.isEmpty = false := by cases vs <;> first | exact absurd rfl hne | rfl
    rw [this, Bool.false_or]
    exact Bool.beq_eq_decide_eq x 1
  rw [if_neg (by simp; omega)]
  refine wpAny_bind (tupleItemsOf_ ht ?_)
  simp only [hf]
  by_cases hx : x = 1
  · rw [if_pos (by simpa using hx)]
    refine wpAny_bind (tup_exact ht ?_)
    simp only [if_true]
    exact wpAny_bind (wpAny_rule (wpAny_pure ⟨_, rfl, same hx⟩))
  · rw [if_neg (by simpa using hx)]
    have hem : vs.toArray.isEmpty = false := by cases vs <;> first | exact absurd rfl hne | rfl
    have new' := new hx
    by_cases h00 : x ≤ 0
    · rw [if_pos (by simp [h00])]
      have e : x.toNat = 0 := by omega
      rw [e, List.replicate_zero] at new'
      exact wpAny_bind (tup_new (Nat.zero_le _) (wpAny_pure ⟨_, rfl, new'⟩))
    · rw [if_neg (by rw [hem]; simp; omega)]
      have hp : (vs.toArray.size : Int) * x ≤ 10000 := by
        have a1 : (vs.toArray.size : Int) ≤ 100 := by rw [List.size_toArray]; omega
        calc (vs.toArray.size : Int) * x ≤ 100 * x := Int.mul_le_mul_of_nonneg_right a1 h0
          _ ≤ 10000 := by omega
      rw [if_neg (by omega), if_neg (by unfold Tuple.tupleTooMany; rw [sizeLine_eq, decide_eq_true_eq]; omega)]
      have hfl : List.foldl (fun x1 x2 => x1 ++ x2) #[] (List.replicate x.toNat vs.toArray) = (List.replicate x.toNat vs).flatten.toArray := by
        have := listMul_foldl_if vs.toArray x.toNat
        rw [hem] at this
        simpa using this
      rw [hfl]
      refine wpAny_bind (tup_new ?_ (wpAny_pure ⟨_, rfl, new'⟩))
      have hl : (List.replicate x.toNat vs).flatten.length ≤ 10000 := by
        rw [lm_len_rep_flat]
        have : x.toNat ≤ 100 := by omega
        calc x.toNat * vs.length ≤ 100 * 100 := Nat.mul_le_mul this h2
          _ = 10000 := rfl
      rw [List.size_toArray, sizeLine_eq]; omega
end
end
section
noncomputable abbrev noE : Value → Shared → Prop := fun _ _ => False

section
variable {C : Cx} {N : Nat} {A A₀ : Around} {base h₀ : Heap} {outer : List Env} {fenv env : Env} {L : Addr} {as : List Addr} {fz : Cells} {ρ : Loc} {σ : Sto} {s : Shared}

theorem newF (S : St C h₀ L env as fz ρ σ s) {m : Str → Option Value} {mus : List Cells} {h' : Heap} {tk : Nat} {a : Addr} {o : Obj} (F : Fr h₀ L h' m) (N : News h₀ L h' ((a, o) :: (mus.flatten ++ (fz ++ C.hid))))
    (R : MR C.prog C.w as fz mus as σ) (D : Sep mus fz C.hid) (G : FRx C L env as fz m ρ) (fresh : ∀ p ∈ mus.flatten ++ (fz ++ C.hid), p.1 ≠ a) : St C h₀ L env as ((a, o) :: fz) ρ σ { s with heap := h', toks := tk } := by
  have x := Ext.cons as fz (a, o)
  refine ⟨S.same, m, mus, F, fun p hp => N p ?_, R.mono x, ⟨D.nd, fun p hp q hq => ?_, fresh_hh D.hh fun q hq => fresh q (List.mem_append_right _ (List.mem_append_right _ hq))⟩, G.mono x⟩
  · simp only [List.mem_append, List.mem_cons] at hp ⊢
    rcases hp with h | (h | h) | h
    · exact .inr (.inl h)
    · exact .inl h
    · exact .inr (.inr (.inl h))
    · exact .inr (.inr (.inr h))
  · rcases List.mem_cons.mp hq with rfl | hq
    · exact fresh p (List.mem_append_left _ hp)
    · exact D.off p hp q hq
theorem sameHeap (S : St C h₀ L env as fz ρ σ s) {h' : Heap} {m : Str → Option Value} {mus : List Cells} {tk : Nat} (F : Fr h₀ L h' m) (N : News h₀ L h' (mus.flatten ++ (fz ++ C.hid)))
    (R : MR C.prog C.w as fz mus as σ) (D : Sep mus fz C.hid) (G : FRx C L env as fz m ρ) : St C h₀ L env as fz ρ σ { s with heap := h', toks := tk } := ⟨S.same, m, mus, F, N, R, D, G⟩

/-! ## names and constants -/
theorem tDebug_eq : tDebug = sT (Str.ofString "__debug__") := by decide +kernel
theorem not_debug {x : Str} (h : teq (sT x) tDebug = false) : (x == ("__debug__" : Str)) = false := by
  rw [tDebug_eq, teq_str] at h; exact h

theorem e_loc {x : Str} {pos : Pos} {d : PV} {k : Kont} {Q : Value → Shared → Prop} (V : EvOK env) (hd : teq (sT x) tDebug = false) (h : lk (sT x) ρ = some d) (hk : k d σ) (S : St C h₀ L env as fz ρ σ s)
    (ret : RetOK C h₀ L env as fz ρ k Q) : wpAny (model C.prog C.w) A (eval (.Name x pos) env) Q noE s := by
  obtain ⟨m, mus, F, N, R, D, G⟩ := S.ex
  obtain ⟨v, hv, h'⟩ := G.1 x d h
  refine wpAny_Name ?_ (not_debug hd)
  have fin : Q v s := ret.now hk S hv
  rcases h' with ⟨kd, ⟨hl, hm⟩ | ⟨o, mc, hmem, ⟨es, ep, hdat, hk1, hk2⟩, hm⟩⟩ | ⟨kd, c, o, hc, hmem, hdat⟩
  · exact wpAny_loadName_local V.kind kd (hl ▸ F.ns) hm fin
  · exact wpAny_loadName_local V.kind kd ⟨o, es, ep, (N _ (List.mem_append_right _ (List.mem_append_right _ hmem))).1, hdat, hk1, hk2⟩ hm fin
  · exact wpAny_loadName_cell V.kind kd hc ⟨o, (N _ (List.mem_append_right _ (List.mem_append_left _ hmem))).1, hdat⟩ fin

/-- a global name stands for this -/
noncomputable def GOK (K : Frag) (x : Txt) (c : CE) : Prop :=
  ∃ d v, c = .val d ∧ (d = .val v ∨ ∃ i t, v = .int i t ∧ d = .int i) ∧
    (nsIn K mainGlobals (tS x) = some (some v) ∨ (nsIn K mainGlobals (tS x) = some none ∧ bootBuiltins (tS x) = some v ∧ tS x ≠ "__name__"))
noncomputable def GTab (K : Frag) (gt : List (Txt × CE)) : Prop := ∀ x c, lkG x gt = some c → GOK K x c

theorem e_glob {x : Str} {pos : Pos} {c : CE} {d : PV} {k : Kont} {Q : Value → Shared → Prop} (F : FrOK C N A A₀ base h₀ outer fenv L) (V : EvOK env) (hd : teq (sT x) tDebug = false) (hx : env.kindOf x = some .globalImplicit)
    (G : GOK C.K (sT x) c) (hc : c = .val d) (hk : k d σ) (S : St C h₀ L env as fz ρ σ s) (ret : RetOK C h₀ L env as fz ρ k Q) : wpAny (model C.prog C.w) A (eval (.Name x pos) env) Q noE s := by
  obtain ⟨d', v, hc', hv, h⟩ := G
  subst hc
  cases hc'
  obtain ⟨m, Fm⟩ := S.fr
  have T := topRead_of F.T
  have R : VR as fz v d := by
    rcases hv with rfl | ⟨i, t, rfl, rfl⟩
    · exact .val v
    · exact .int i t
  have fin : Q v s := ret.now hk S R
  rw [tS_sT] at h
  rcases h with h | ⟨h1, h2, h3⟩
  · exact Name_function_global V.kind hx (loadGlobal_global (by rw [V.gl]; exact T.g.keeps Fm.keep) (mg_of F.X T.g h) fin) (not_debug hd)
  · exact Name_function_global V.kind hx (loadGlobal_builtin (by rw [V.gl]; exact T.g.keeps Fm.keep) (mg_none_of F.X T.g h1) (by rw [V.bu]; exact T.b.keeps Fm.keep) ((T.builtins x h3).trans h2) fin) (not_debug hd)

theorem e_const {c : Const} {kk : Nat} {pos : Pos} {ce : CE} {d : PV} {k : Kont} {Q : Value → Shared → Prop} (hc : constC c = some ce) (he : ce = .val d) (hk : k d σ) (S : St C h₀ L env as fz ρ σ s)
    (ret : RetOK C h₀ L env as fz ρ k Q) : wpAny (model C.prog C.w) A (eval (.Constant c kk pos) env) Q noE s := by
  subst he
  cases c with
  | none => cases hc; exact Constant_none (ret.now hk S .none)
  | bool b => cases hc; exact Constant_bool (ret.now hk S (.bool b))
  | int i => cases hc; exact wpAny_Constant_int (ret.now hk (S.toks _) (.int i _))
  | str x => cases hc; exact Constant_str (ret.now hk (S.toks _) (.str x _))
  | _ => cases hc

/-! ## operators -/
theorem sT_append (x y : Str) : sT (x ++ y) = sT x ++ sT y := by
  show (x.cps ++ y.cps).toList = _
  rw [Array.toList_append]; rfl

theorem VR.int_inv {v : Value} {i : Int} (h : VR as fz v (.int i)) : ∃ t, v = .int i t := by cases h; exact ⟨_, rfl⟩
theorem VR.bool_inv {v : Value} {b : Bool} (h : VR as fz v (.bool b)) : v = .bool b := by cases h; rfl
theorem VR.str_inv {v : Value} {x : Txt} (h : VR as fz v (.str x)) : ∃ y t, v = .str y t ∧ x = sT y := by cases h; exact ⟨_, _, rfl, rfl⟩
theorem VR.none_inv {v : Value} (h : VR as fz v .none) : v = .none := by cases h; rfl
theorem VR.tup_inv {v : Value} {ds : List PV} (h : VR as fz v (.tup ds)) : ∃ a vs n, v = .ref a ∧ (a, tupOf vs.toArray n) ∈ fz ∧ VRs as fz vs ds := by cases h with | tup h r => exact ⟨_, _, _, rfl, h, r⟩
theorem VR.obj_inv {v : Value} {n : Nat} (h : VR as fz v (.obj n)) : ∃ a, v = .ref a ∧ as[n]? = some a := by cases h with | obj h => exact ⟨_, rfl, h⟩

theorem fresh_size {mus : List Cells} {gz : Cells} {h : Heap} (N : News h₀ L h (mus.flatten ++ gz)) : ∀ p ∈ mus.flatten ++ gz, p.1 ≠ h.objs.size := fun p hp => Nat.ne_of_lt (Heap.lt_size (N p hp).1)

theorem r_newTuple {vs : List Value} {ds : List PV} {k : Kont} {Q : Value → Shared → Prop} (S : St C h₀ L env as fz ρ σ s) (R : VRs as fz vs ds) (hz : ds.length ≤ 100000) (hk : k (.tup ds) σ) (ret : RetOK C h₀ L env as fz ρ k Q) :
    wpAny (model C.prog C.w) A (newTuple vs) Q noE s := by
  obtain ⟨m, mus, F, N', R', D, G⟩ := S.ex
  have x := Ext.cons as fz (s.heap.objs.size, tupOf vs.toArray 0)
  exact newTuple_N F N' (fun h' F' N'' => ret _ _ _ _ _ _ hk x (newF S (tk := s.toks) F' N'' R' D G (fresh_size N')) (.tup (.head _) (R.mono x))) (by rw [R.length, sizeLine_eq]; omega)
theorem r_newList {vs : List Value} {ds : List PV} {k : Kont} {Q : Value → Shared → Prop} (S : St C h₀ L env as fz ρ σ s) (R : VRs as fz vs ds) (hz : ds.length ≤ 100000) (hk : k (.obj σ.length) (σ ++ [.list ds])) (ret : RetOK C h₀ L env as fz ρ k Q) :
    wpAny (model C.prog C.w) A (newList vs) Q noE s := by
  obtain ⟨m, mus, F, N', R', D, G⟩ := S.ex
  have hl := R'.len.1
  have x : Ext as fz (as ++ [s.heap.objs.size]) fz := ⟨fun k a e => by rw [List.getElem?_append_left (List.getElem?_eq_some_iff.mp e).1]; exact e, fun _ h => h⟩
  refine newList_N F N' (fun h' F' N'' => ?_) (by rw [R.length, sizeLine_eq]; omega)
  refine ret _ _ _ _ _ _ hk x ⟨S.same, m, mus ++ [[(s.heap.objs.size, listOf vs.toArray 0)]], F', fun p hp => N'' p ?_, (R'.mono x).snoc (.list (R.mono x)), ⟨?_, ?_, D.hh⟩, G.mono x⟩ (.obj (by rw [← hl]; simp))
  · simp only [List.flatten_append, List.flatten_cons, List.flatten_nil, List.append_nil, List.mem_append, List.mem_cons, List.not_mem_nil, or_false] at hp ⊢
    rcases hp with (h | h) | h
    · exact .inr (.inl h)
    · exact .inl h
    · exact .inr (.inr h)
  · simp only [List.flatten_append, List.flatten_cons, List.flatten_nil, List.append_nil, List.map_append, List.map_cons, List.map_nil]
    refine List.nodup_append.mpr ⟨D.nd, by simp, ?_⟩
    intro a ha b hb e
    rw [List.mem_singleton] at hb
    subst hb; subst e
    obtain ⟨p, hp, e⟩ := List.mem_map.mp ha
    exact fresh_size N' p (List.mem_append_left _ hp) e
  · intro p hp q hq
    simp only [List.flatten_append, List.flatten_cons, List.flatten_nil, List.append_nil, List.mem_append, List.mem_cons, List.not_mem_nil, or_false] at hp
    rcases hp with hp | rfl
    · exact D.off p hp q hq
    · exact (Nat.ne_of_lt (Heap.lt_size (N' q (List.mem_append_right _ hq)).1)).symm

theorem bits_small {a : Int} (h : small a) : Builtin.Int.intBits a ≤ 64 := by
  unfold Builtin.Int.intBits
  by_cases h0 : (a == 0) = true
  · rw [if_pos h0]; omega
  · rw [if_neg h0]
    have h1 : a.natAbs ≠ 0 := by simpa using h0
    have := (Nat.log2_lt h1).mpr h
    omega

theorem s_bin {op : Operator} {d e : PV} {v u : Value} {k : Kont} {Q : Value → Shared → Prop} (h : binP op d e σ k) (S : St C h₀ L env as fz ρ σ s) (hv : VR as fz v d) (hu : VR as fz u e)
    (ret : RetOK C h₀ L env as fz ρ k Q) : wpAny (model C.prog C.w) A (binaryOp op v u) Q noE s := by
  cases op with
  | Add =>
    cases d with
    | int a =>
      obtain ⟨b, rfl, h⟩ := onI_inv h
      obtain ⟨t, rfl⟩ := hv.int_inv; obtain ⟨t', rfl⟩ := hu.int_inv
      exact PyProof.Rows.add_int (ret.now h (S.toks _) (.int _ _))
    | str a =>
      obtain ⟨b, rfl, hz, hk⟩ := onS_inv h
      obtain ⟨x, t, rfl, rfl⟩ := hv.str_inv; obtain ⟨y, t', rfl, rfl⟩ := hu.str_inv
      rw [← sT_append] at hk
      refine PyProof.Rows.add_str (fun t₁ tk => ret.now hk (S.toks _) (.str _ _)) ?_
      rw [List.length_append] at hz
      have e1 : x.length = (sT x).length := by unfold Str.length sT; rw [Array.length_toList]
      have e2 : y.length = (sT y).length := by unfold Str.length sT; rw [Array.length_toList]
      rw [e1, e2, sizeLine_eq]; exact Nat.le_trans hz (Nat.le_of_ble_eq_true rfl)
    | tup a =>
      obtain ⟨b, rfl, hz, hk⟩ := onT_inv h
      obtain ⟨a, vs, n, rfl, ha, ra⟩ := hv.tup_inv; obtain ⟨b, us, n', rfl, hb, rb⟩ := hu.tup_inv
      obtain ⟨m, mus, F, N', R', D, G⟩ := S.ex
      refine add_tuples F N' (S.isTup ha) (S.isTup hb) (fun e => ?_) (fun _ e => ?_) (fun _ _ h' F' N'' => ?_) ?_
      · subst e; cases ra; exact ret.now hk S hu
      · subst e; cases rb; rw [List.append_nil] at hk; exact ret.now hk S hv
      · have x := Ext.cons as fz (s.heap.objs.size, tupOf (vs ++ us).toArray 0)
        exact ret _ _ _ _ _ _ hk x (newF S (tk := s.toks) F' N'' R' D G (fresh_size N')) (.tup (.head _) ((ra.append rb).mono x))
      · rw [ra.length, rb.length, sizeLine_eq]; rw [List.length_append] at hz; exact Nat.le_trans hz (Nat.le_of_ble_eq_true rfl)
    | _ => exact h.elim
  | Sub => obtain ⟨a, b, rfl, rfl, h⟩ := int2_inv h; obtain ⟨t, rfl⟩ := hv.int_inv; obtain ⟨t', rfl⟩ := hu.int_inv
           exact PyProof.Rows.sub_int' (ret.now h (S.toks _) (.int _ _))
  | Mult =>
    cases d with
    | int a =>
      obtain ⟨b, rfl, h1, h2, hk⟩ := onI_inv h
      obtain ⟨t, rfl⟩ := hv.int_inv; obtain ⟨t', rfl⟩ := hu.int_inv
      exact PyProof.Rows.mul_int (ret.now hk (S.toks _) (.int _ _)) (IntMulOk.of_left (bits_small h1))
    | tup l =>
      cases l with
      | nil => exact h.elim
      | cons x l =>
        obtain ⟨nn, rfl, h1, h2, h3, hk⟩ := onI_inv h
        obtain ⟨a, vs, n, rfl, ha, ra⟩ := hv.tup_inv; obtain ⟨t', rfl⟩ := hu.int_inv
        refine tuple_mul (S.isTup ha) (fun e => by subst e; cases ra) h1 h2 (by rw [ra.length]; exact h3) (fun e => ?_) fun _ => ?_
        · subst e
          have e2 : ∀ l : List PV, (List.replicate (Int.toNat 1) l).flatten = l := fun l => by simp
          rw [e2] at hk
          exact ret.now hk S hv
        · have S2 := S.froze (o := tupOf (List.replicate nn.toNat vs).flatten.toArray 0) rfl
          exact ret _ _ _ _ _ _ hk (Ext.cons _ _ _) S2 (.tup (.head _) ((ra.rep _).mono (Ext.cons _ _ _)))
    | _ => exact h.elim
  | Mod => obtain ⟨a, b, rfl, rfl, h⟩ := int2_inv h; obtain ⟨t, rfl⟩ := hv.int_inv; obtain ⟨t', rfl⟩ := hu.int_inv
           exact PyProof.Rows.mod_int' h.1 (ret.now h.2 (S.toks _) (.int _ _))
  | FloorDiv => obtain ⟨a, b, rfl, rfl, h⟩ := int2_inv h; obtain ⟨t, rfl⟩ := hv.int_inv; obtain ⟨t', rfl⟩ := hu.int_inv
                exact PyProof.Rows.floordiv_int h.1 (ret.now h.2.2 (S.toks _) (.int _ _)) (.inl (PyProof.noPylong_small h.2.1))
  | Pow => obtain ⟨a, b, rfl, rfl, h⟩ := int2_inv h; obtain ⟨t, rfl⟩ := hv.int_inv; obtain ⟨t', rfl⟩ := hu.int_inv
           exact PyProof.Rows.pow_int_small h.1 (by have := h.2.1; omega) h.2.2.1 (ret.now h.2.2.2 (S.toks _) (.int _ _))
  | LShift => obtain ⟨a, b, rfl, rfl, h⟩ := int2_inv h; obtain ⟨t, rfl⟩ := hv.int_inv; obtain ⟨t', rfl⟩ := hu.int_inv
              exact PyProof.Rows.lshift_int_small h.1 (by have := h.2.1; omega) h.2.2.1 (ret.now h.2.2.2 (S.toks _) (.int _ _))
  | RShift => obtain ⟨a, b, rfl, rfl, h⟩ := int2_inv h; obtain ⟨t, rfl⟩ := hv.int_inv; obtain ⟨t', rfl⟩ := hu.int_inv
              exact PyProof.Rows.rshift_int h.1 (ret.now h.2 (S.toks _) (.int _ _))
  | BitAnd => obtain ⟨a, b, rfl, rfl, h⟩ := int2_inv h; obtain ⟨t, rfl⟩ := hv.int_inv; obtain ⟨t', rfl⟩ := hu.int_inv
              exact PyProof.Rows.and_int (ret.now h (S.toks _) (.int _ _))
  | BitOr => obtain ⟨a, b, rfl, rfl, h⟩ := int2_inv h; obtain ⟨t, rfl⟩ := hv.int_inv; obtain ⟨t', rfl⟩ := hu.int_inv
             exact PyProof.Rows.or_int (ret.now h (S.toks _) (.int _ _))
  | BitXor => obtain ⟨a, b, rfl, rfl, h⟩ := int2_inv h; obtain ⟨t, rfl⟩ := hv.int_inv; obtain ⟨t', rfl⟩ := hu.int_inv
              exact PyProof.Rows.xor_int (ret.now h (S.toks _) (.int _ _))
  | _ => exact h.elim

/-! ## comparisons -/
theorem VRs.reads {h : Heap} (N : ∀ p ∈ fz, h.get? p.1 = some p.2) {vs : List Value} {ds : List PV} (r : VRs as fz vs ds) : ∀ {ps : List PyData}, toPys ds = some ps → ∃ bs, ReadsAll h vs ps bs := by
  refine VRs.rec (motive_1 := fun v d _ => ∀ {p : PyData}, toPy d = some p → ∃ bs, Reads h v p bs) (motive_2 := fun vs ds _ => ∀ {ps : List PyData}, toPys ds = some ps → ∃ bs, ReadsAll h vs ps bs) ?_ ?_ ?_ ?_ ?_ ?_ ?_ ?_ ?_ ?_ ?_ r
  · intro p e; cases e; exact ⟨_, .none⟩
  · intro b p e; cases e; exact ⟨_, .bool b⟩
  · intro i t p e; cases e; exact ⟨_, .int i t⟩
  · intro x t p e
    have e : some (PyData.str (tS (sT x))) = some p := e
    rw [tS_sT] at e; cases e; exact ⟨_, .str x t⟩
  · intro a vs n ds hm r ih p e
    obtain ⟨q, e1, rfl⟩ := Option.map_eq_some_iff.mp e
    obtain ⟨bs, hb⟩ := ih e1
    exact ⟨_, .tuple (N _ hm) rfl rfl hb⟩
  · intro a vs n ds hm r ih p e
    obtain ⟨q, e1, rfl⟩ := Option.map_eq_some_iff.mp e
    obtain ⟨bs, hb⟩ := ih e1
    exact ⟨_, .list (N _ hm) rfl rfl hb⟩
  · intro a n t u v _ p e; cases e
  · intro a k _ p e; cases e
  · intro v p e; cases e
  · intro ps e; cases e; exact ⟨_, .nil⟩
  · intro v vs d ds hv r ih1 ih2 ps e
    obtain ⟨p, q, e1, e2, rfl⟩ := o2_inv e
    obtain ⟨b1, h1⟩ := ih1 e1
    obtain ⟨b2, h2⟩ := ih2 e2
    exact ⟨_, .cons h1 h2⟩
theorem VR.reads {h : Heap} (N : ∀ p ∈ fz, h.get? p.1 = some p.2) {v : Value} {d : PV} {p : PyData} (r : VR as fz v d) (e : toPy d = some p) : ∃ bs, Reads h v p bs := by
  have e2 : toPys [d] = some [p] := by show o2 List.cons (toPy d) (some []) = _; rw [e]; rfl
  obtain ⟨bs, hb⟩ := VRs.reads N (.cons r .nil) e2
  cases hb with
  | cons h1 _ => exact ⟨_, h1⟩
theorem St.atFz (S : St C h₀ L env as fz ρ σ s) : ∀ p ∈ fz, s.heap.get? p.1 = some p.2 := fun p hp => (S.newsFz p hp).1
theorem s_reads {n : Nat} {ds : List PV} {v : Value} {p : PyData} (S : St C h₀ L env as fz ρ σ s) (hv : VR as fz v (.obj n)) (hs : sget σ n = some (.list ds)) (e : (toPys ds).map .list = some p) : ∃ bs, Reads s.heap v p bs := by
  obtain ⟨x, rfl, hk⟩ := hv.obj_inv
  obtain ⟨q, e1, rfl⟩ := Option.map_eq_some_iff.mp e
  obtain ⟨a, c, ha, ho, hc, _⟩ := S.one hs
  rw [hk] at ha; cases ha
  cases ho with
  | list r =>
    obtain ⟨bs, hb⟩ := VRs.reads S.atFz r e1
    exact ⟨_, .list (hc _ (.head _)) rfl rfl hb⟩

/-- a list of the program's own, as it stands -/
theorem s_list {n : Nat} {v : Value} {ds : List PV} (S : St C h₀ L env as fz ρ σ s) (hv : VR as fz v (.obj n)) (e : sget σ n = some (.list ds)) : ∃ a vs k, v = .ref a ∧ s.heap.get? a = some (listOf vs.toArray k) ∧ VRs as fz vs ds := by
  obtain ⟨a, rfl, hk⟩ := hv.obj_inv
  obtain ⟨a', c, ha, ho, hc, _⟩ := S.one e
  rw [hk] at ha; cases ha
  cases ho with
  | list r => exact ⟨a, _, _, rfl, hc _ (.head _), r⟩
theorem s_dict {n : Nat} {v : Value} {ds : List (Txt × PV)} (S : St C h₀ L env as fz ρ σ s) (hv : VR as fz v (.obj n)) (e : sget σ n = some (.dict ds)) :
    ∃ a kvs, v = .ref a ∧ s.heap.DictOf (strKind C.prog C.w) a kvs ∧ KVR as fz kvs ds ∧ (a == sysModules) = false := by
  obtain ⟨a, rfl, hk⟩ := hv.obj_inv
  obtain ⟨a', c, ha, ho, hc, _⟩ := S.one e
  rw [hk] at ha; cases ha
  cases ho with
  | dict h r l z => exact ⟨a, _, rfl, Heap.dictOf_iff.mpr ⟨_, hc _ (.head _), h⟩, r, l⟩

theorem isList_at {h : Heap} {a : Addr} {vs : Array Value} {k : Nat} (e : h.get? a = some (listOf vs k)) : h.IsList a vs := ⟨_, e, rfl, k, rfl⟩
theorem ints_of {vs : List Value} {ds : List PV} (r : VRs as fz vs ds) (h : ∀ d ∈ ds, ∃ i, d = PV.int i) : ∃ ns, IntsAre vs ns ∧ ns.length = ds.length := by
  induction ds generalizing vs with
  | nil => cases r; exact ⟨[], .nil, rfl⟩
  | cons d ds ih =>
    cases r with
    | cons hv r =>
      obtain ⟨i, rfl⟩ := h d (.head _)
      obtain ⟨t, rfl⟩ := hv.int_inv
      obtain ⟨ns, hn, hl⟩ := ih r fun e he => h e (.tail _ he)
      exact ⟨i :: ns, .cons i t hn, by simp [hl]⟩
theorem ne_none_of {v : Value} {d : PV} {r : Bool} (hv : VR as fz v d) (h : isNone d = some r) : (v == .none) = r := by
  cases hv <;> simp only [isNone, Option.some.injEq, reduceCtorEq] at h <;> subst h <;> rfl


theorem pin_strs {a : Str} {vs : List Value} {ds : List PV} (rr : VRs as fz vs ds) : ∀ {r : Bool}, pin (sT a) ds = some r → ∃ ys, StrsAre vs ys ∧ ys.any (· == a) = r := by
  refine VRs.ind (P := fun vs ds => ∀ {r : Bool}, pin (sT a) ds = some r → ∃ ys, StrsAre vs ys ∧ ys.any (· == a) = r) (fun e => ?_) (fun {v vs d ds} hv rr ih r e => ?_) rr
  · cases e; exact ⟨[], .nil, rfl⟩
  · obtain ⟨b, e1, e⟩ := ob_inv e
    obtain ⟨y, hy, rfl⟩ := o1_inv e
    obtain ⟨ys, h1, h2⟩ := ih hy
    cases hv with
    | str x t => cases e1; exact ⟨x :: ys, .cons x t h1, by rw [List.any_cons, h2, teq_str]⟩
    | _ => cases e1

/-- two dicts of the same data -/
theorem KVR.keys {kvs : List (Str × Value)} {es : List (Txt × PV)} (r : KVR as fz kvs es) : ∀ p ∈ es, ∃ y ∈ kvs.map (·.1), sT y = p.1 := by
  induction r with
  | nil => intro p hp; cases hp
  | cons h r ih =>
    intro p hp
    rcases List.mem_cons.mp hp with rfl | hp
    · exact ⟨_, .head _, rfl⟩
    · obtain ⟨y, hy, e⟩ := ih p hp; exact ⟨y, .tail _ hy, e⟩
theorem KVR.lk_nodup {kvs : List (Str × Value)} {es : List (Txt × PV)} (r : KVR as fz kvs es) (hn : (kvs.map (·.1)).Nodup) : ∀ p ∈ es, lk p.1 es = some p.2 := by
  induction r with
  | nil => intro p hp; cases hp
  | cons h r ih =>
    intro p hp
    rw [List.map_cons, List.nodup_cons] at hn
    rw [lk_cons]
    rcases List.mem_cons.mp hp with rfl | hp
    · rw [if_pos rfl]
    · obtain ⟨y, hy, e⟩ := r.keys p hp
      rw [if_neg (fun q => hn.1 (by rw [← e] at q; exact sT_inj q ▸ hy)), ih hn.2 p hp]
theorem keq_suffix (S : St C h₀ L env as fz ρ σ s) {lvs : List (Str × Value)} {es : List (Txt × PV)} (rb : KVR as fz lvs es) (hu : A.in1.units + 64 < cLine) {kvs : List (Str × Value)} {ds : List (Txt × PV)} (r : KVR as fz kvs ds) (hp : ∀ p ∈ ds, lk p.1 es = some p.2 ∧ ∃ q, toPy p.2 = some q ∧ SeqAt.shaped q = true) : KeqHits A.in1 s lvs kvs true := by
  induction r with
  | nil => exact .nil
  | @cons x v d _ _ h r ih =>
    obtain ⟨hl, q, hq, hs⟩ := hp _ (.head _)
    obtain ⟨y, hy, ry⟩ := (rb.at (k := x)).1 d hl
    obtain ⟨b1, r1⟩ := VR.reads S.atFz h hq
    obtain ⟨b2, r2⟩ := VR.reads S.atFz ry hq
    have e := keq_at (A := A) r1 r2 hs hs hu
    rw [SeqAt.eqv_refl q (SeqAt.canLay_of_shaped hs)] at e
    exact .hit (b := true) (e := true) hy e (ih fun p h => hp p (.tail _ h))
theorem keq_same (S : St C h₀ L env as fz ρ σ s) {kvs lvs : List (Str × Value)} {es : List (Txt × PV)} (ra : KVR as fz kvs es) (rb : KVR as fz lvs es) (na : (kvs.map (·.1)).Nodup) (hp : ∀ p ∈ es, ∃ q, toPy p.2 = some q ∧ SeqAt.shaped q = true)
    (hu : A.in1.units + 64 < cLine) : KeqHits A.in1 s lvs kvs true :=
  keq_suffix S rb hu ra fun p h => ⟨ra.lk_nodup na p h, hp p h⟩

theorem KVR.isSome {kvs : List (Str × Value)} {es : List (Txt × PV)} (r : KVR as fz kvs es) {x : Str} : (valueAt kvs x).isSome = (lk (sT x) es).isSome := by
  obtain ⟨i1, i2⟩ := r.at (k := x)
  cases q : lk (sT x) es with
  | none => rw [i2 q]; rfl
  | some d => obtain ⟨v, hv, _⟩ := i1 d q; rw [hv]; rfl
theorem s_cmp {op : CmpOp} {d e : PV} {v u : Value} {k : Bool → Prop} {Q : Value → Shared → Prop} (F : FrOK C N A A₀ base h₀ outer fenv L) (h : cmpP op d e σ k) (S : St C h₀ L env as fz ρ σ s)
    (hv : VR as fz v d) (hu : VR as fz u e) (ret : ∀ b tk, k b → Q (.bool b) { s with toks := tk }) : wpAny (model C.prog C.w) A (compareOp op v u) Q noE s := by
  have un := F.units
  have room : A.units + 1 + 64 < cLine := by omega
  cases op with
  | Eq =>
    cases d with
    | int a =>
      obtain ⟨b, rfl, h⟩ := onI_inv h
      obtain ⟨t, rfl⟩ := hv.int_inv; obtain ⟨t', rfl⟩ := hu.int_inv
      exact PyProof.Rows.eq_int (ret _ s.toks h)
    | str a =>
      obtain ⟨b, rfl, hk⟩ := onS_inv h
      obtain ⟨x, t, rfl, rfl⟩ := hv.str_inv; obtain ⟨y, t', rfl, rfl⟩ := hu.str_inv
      rw [teq_str] at hk
      exact PyProof.Rows.eq_str (ret _ s.toks hk)
    | tup a =>
      obtain ⟨b, rfl, h⟩ := onT_inv h
      obtain ⟨p, q, e1, e2, h1, h2, hk⟩ := dat2_inv h
      obtain ⟨b1, r1⟩ := VR.reads S.atFz hv e1
      obtain ⟨b2, r2⟩ := VR.reads S.atFz hu e2
      exact eq_dataH r1 r2 h1 h2 (by omega) (ret _ s.toks hk)
    | obj n =>
      obtain ⟨m, rfl, h⟩ := onO_inv h
      rcases eqO_inv h with ⟨es, e1, e2, hp, hk⟩ | ⟨as', bs', e1, e2, h⟩
      · obtain ⟨a, kvs, rfl, ha, ra, la⟩ := s_dict S hv e1
        obtain ⟨b, lvs, rfl, hb, rb, lb⟩ := s_dict S hu e2
        obtain ⟨_, _, _, _, _, _, _, _, na⟩ := id ha
        refine keq_eq la lb ha hb (by omega) (fun _ => keq_same S ra rb na hp room) ?_
        have el : kvs.length = lvs.length := by rw [ra.len, rb.len]
        rw [el, beq_self_eq_true]
        exact ret _ s.toks hk
      · obtain ⟨p, q, e3, e4, h1, h2, hk⟩ := dat2_inv h
        obtain ⟨b1, r1⟩ := s_reads S hv e1 e3
        obtain ⟨b2, r2⟩ := s_reads S hu e2 e4
        exact eq_dataH r1 r2 h1 h2 (by omega) (ret _ s.toks hk)
    | _ => exact h.elim
  | NotEq =>
    cases d with
    | int a =>
      obtain ⟨b, rfl, h⟩ := onI_inv h
      obtain ⟨t, rfl⟩ := hv.int_inv; obtain ⟨t', rfl⟩ := hu.int_inv
      exact PyProof.Rows.ne_int (ret _ s.toks h)
    | str a =>
      obtain ⟨b, rfl, hk⟩ := onS_inv h
      obtain ⟨x, t, rfl, rfl⟩ := hv.str_inv; obtain ⟨y, t', rfl, rfl⟩ := hu.str_inv
      rw [teq_str] at hk
      exact PyProof.Rows.ne_str (ret _ s.toks hk)
    | obj n =>
      obtain ⟨m, rfl, h⟩ := onO_inv h
      obtain ⟨l, e1, e2, h1, hk⟩ := neO_inv h
      obtain ⟨a, vs, n1, rfl, ha, ra⟩ := s_list S hv e1
      obtain ⟨b, us, n2, rfl, hb, rb⟩ := s_list S hu e2
      cases rb
      obtain ⟨ns, hn, hl⟩ := ints_of ra h1
      refine ke_ne_ints (isList_at ha) (isList_at hb) hn .nil (by omega) (ret _ s.toks ?_)
      have : (!l.isEmpty) = !decide (ns = []) := by
        cases l with
        | nil => cases List.length_eq_zero_iff.mp hl; rfl
        | cons _ _ => cases ns with
          | nil => cases hl
          | cons => rfl
      rw [← this]; exact hk
    | _ => exact h.elim
  | Lt => obtain ⟨a, b, rfl, rfl, h⟩ := int2_inv h; obtain ⟨t, rfl⟩ := hv.int_inv; obtain ⟨t', rfl⟩ := hu.int_inv
          exact PyProof.Rows.lt_int (ret _ s.toks h)
  | LtE => obtain ⟨a, b, rfl, rfl, h⟩ := int2_inv h; obtain ⟨t, rfl⟩ := hv.int_inv; obtain ⟨t', rfl⟩ := hu.int_inv
           exact PyProof.Rows.le_int (ret _ s.toks h)
  | Gt => obtain ⟨a, b, rfl, rfl, h⟩ := int2_inv h; obtain ⟨t, rfl⟩ := hv.int_inv; obtain ⟨t', rfl⟩ := hu.int_inv
          exact PyProof.Rows.gt_int (ret _ s.toks h)
  | GtE => obtain ⟨a, b, rfl, rfl, h⟩ := int2_inv h; obtain ⟨t, rfl⟩ := hv.int_inv; obtain ⟨t', rfl⟩ := hu.int_inv
           exact PyProof.Rows.ge_int (ret _ s.toks h)
  | Is =>
    obtain ⟨rfl, r, hr, h⟩ := isNP_inv h
    cases hu.none_inv
    exact is_none_gen (by rw [ne_none_of hv hr]; exact ret _ s.toks h)
  | IsNot =>
    obtain ⟨rfl, r, hr, h⟩ := isNP_inv h
    cases hu.none_inv
    exact isnot_none_gen (by rw [ne_none_of hv hr]; exact ret _ s.toks h)
  | In =>
    cases e with
    | tup b =>
      obtain ⟨a, rfl, h⟩ := onS_inv h
      obtain ⟨r, hr, hk⟩ := onR_inv h
      obtain ⟨x, t, rfl, rfl⟩ := hv.str_inv
      obtain ⟨a, vs, n, rfl, ha, ra⟩ := hu.tup_inv
      obtain ⟨ys, h1, h2⟩ := pin_strs ra hr
      exact in_tuple_strs (S.isTup ha) h1 (by rw [h2]; exact ret _ s.toks hk)
    | obj n =>
      rcases inO_inv h with ⟨ds, xs, p, e1, e2, e3, h1, h2, hk⟩ | ⟨es, a, e1, rfl, hk⟩
      · obtain ⟨b1, r1⟩ := s_reads S hu (p := .list xs) e1 (by rw [e2]; rfl)
        obtain ⟨b2, r2⟩ := VR.reads S.atFz hv e3
        exact SeqAt.in_list_reads r1 r2 (SeqAt.canLay_of_shaped h1) (SeqAt.canLay_of_shaped h2) (room_in_shaped h2 (by omega)) (ret _ s.toks hk)
      · obtain ⟨x, t, rfl, rfl⟩ := hv.str_inv
        obtain ⟨a, kvs, rfl, ho, r, lo⟩ := s_dict S hu e1
        refine wpAny_in_of (strKind_is C.prog C.w x t) lo ho.mapOf (ret _ _ ?_)
        rw [r.isSome]; exact hk
    | _ => exact h.elim
  | NotIn =>
    obtain ⟨a, rfl, h⟩ := onS_inv h
    obtain ⟨n, rfl, h⟩ := onO_inv h
    obtain ⟨es, e1, hk⟩ := ninO_inv h
    obtain ⟨x, t, rfl, rfl⟩ := hv.str_inv
    obtain ⟨a, kvs, rfl, ho, r, lo⟩ := s_dict S hu e1
    refine wpAny_notIn_of (strKind_is C.prog C.w x t) lo ho.mapOf (ret _ _ ?_)
    rw [r.isSome]; exact hk

/-! ## items, slices, attributes -/
theorem seqIdx_pos {n : Nat} {len : Nat} (h : n < len) : seqIndex? (n : Int) len = some n := by
  unfold seqIndex?
  have h1 : ¬ ((n : Int) < 0) := by omega
  simp only [h1, if_false]
  have h2 : (decide ((0 : Int) ≤ (n : Int)) && decide ((n : Int) < (len : Int))) = true := by simp; omega
  rw [if_pos h2]; simp
theorem pidx_spec {n : Int} {len j : Nat} (h : pidx n len = some j) (hl : len ≤ 100000) : seqIndex? n len = some j ∧ -(2 ^ 63) ≤ n ∧ n < 2 ^ 63 ∧ j < len := by
  cases n with
  | ofNat m =>
    simp only [pidx] at h
    cases q : Nat.blt m len with
    | false => rw [q] at h; cases h
    | true =>
      rw [q] at h
      have hj := Option.some.inj h
      subst hj
      have q' : m < len := by simpa using q
      exact ⟨seqIdx_pos q', by show -(2 ^ 63) ≤ (m : Int); omega, by show (m : Int) < 2 ^ 63; omega, q'⟩
  | negSucc m =>
    simp only [pidx] at h
    cases q : Nat.blt m len with
    | false => rw [q] at h; cases h
    | true =>
      rw [q] at h
      have hj := Option.some.inj h
      subst hj
      have q' : m < len := by simpa using q
      have hneg : Int.negSucc m < 0 := Int.negSucc_lt_zero m
      have e : Int.negSucc m + (len : Int) = ((len - (m + 1) : Nat) : Int) := by omega
      refine ⟨?_, by omega, by omega, by omega⟩
      unfold seqIndex?
      simp only [hneg, if_true, e]
      have h2 : (decide ((0 : Int) ≤ ((len - (m + 1) : Nat) : Int)) && decide (((len - (m + 1) : Nat) : Int) < (len : Int))) = true := by
        simp only [Bool.and_eq_true, decide_eq_true_eq]; omega
      rw [if_pos h2]; simp
end
end
section
theorem upd_of {d : Addr} {o o' : Obj} : ∀ {p1 p2 : Cells}, (∀ p ∈ p1, p.1 ≠ d) → (∀ p ∈ p2, p.1 ≠ d) → Upd d o o' (p1 ++ (d, o) :: p2) (p1 ++ (d, o') :: p2)
  | [], _, _, h => .head h
  | _ :: _, _, h1, h2 => .tail (h1 _ (.head _)) (upd_of (fun p hp => h1 p (.tail _ hp)) h2)

section
variable {C : Cx} {N : Nat} {A A₀ : Around} {base h₀ : Heap} {outer : List Env} {fenv env : Env} {L : Addr} {as : List Addr} {fz : Cells} {ρ : Loc} {σ : Sto} {s : Shared}

/-- one of the objects that may change, by the ledger -/
theorem St.led {k : Nat} {po : PO} (S : St C h₀ L env as fz ρ σ s) (e : sget σ k = some po) :
    ∃ m a c, Fr h₀ L s.heap m ∧ as[k]? = some a ∧ OR C.prog C.w as fz po c a ∧
      ∀ pre d o post, c = pre ++ (d, o) :: post → (∀ p ∈ pre, p.1 ≠ d) → (∀ p ∈ post, p.1 ≠ d) →
        ∃ p1 p2, News h₀ L s.heap (p1 ++ (d, o) :: p2) ∧ (∀ p ∈ c, p ∈ p1 ++ (d, o) :: p2) ∧ (∀ p ∈ p1, p.1 ≠ d) ∧ (∀ p ∈ p2, p.1 ≠ d) ∧
          ∀ h' o' po' tk, Fr h₀ L h' m → News h₀ L h' (p1 ++ (d, o') :: p2) → OR C.prog C.w as fz po' (pre ++ (d, o') :: post) a → St C h₀ L env as fz ρ (sset σ k po') { s with heap := h', toks := tk } := by
  obtain ⟨m, mus, F, N, R, D, G⟩ := S.ex
  obtain ⟨pre, c, post, a, rfl, ha, ho, up⟩ := R.split e
  refine ⟨m, a, c, F, ha, ho, ?_⟩
  rintro pre' d o post' rfl n1 n2
  have nd := D.nd
  have off : ∀ p ∈ pre.flatten ++ post.flatten, p.1 ≠ d := by
    intro p hp q
    simp only [List.flatten_append, List.flatten_cons, List.map_append, List.map_cons] at nd
    have e1 : d ∈ pre'.map (·.1) ++ d :: post'.map (·.1) := by simp
    rcases List.mem_append.mp hp with hp | hp
    · exact (List.nodup_append.mp nd).2.2 p.1 (List.mem_map_of_mem hp) d (List.mem_append_left _ e1) q
    · exact (List.nodup_append.mp (List.nodup_append.mp nd).2.1).2.2 d e1 p.1 (List.mem_map_of_mem hp) q.symm
  have eq (o' : Obj) : (pre ++ (pre' ++ (d, o') :: post') :: post).flatten ++ (fz ++ C.hid) = (pre.flatten ++ pre') ++ (d, o') :: (post' ++ post.flatten ++ (fz ++ C.hid)) := by
    simp [List.flatten_append]
  rw [eq] at N
  refine ⟨pre.flatten ++ pre', post' ++ post.flatten ++ (fz ++ C.hid), N, fun p hp => ?_, fun p hp => ?_, fun p hp => ?_, fun h' o' po' tk F' N' ho' => ?_⟩
  · simp only [List.mem_append, List.mem_cons] at hp ⊢
    rcases hp with hp | hp | hp
    · exact .inl (.inr hp)
    · exact .inr (.inl hp)
    · exact .inr (.inr (.inl (.inl hp)))
  · rcases List.mem_append.mp hp with hp | hp
    · exact off p (List.mem_append_left _ hp)
    · exact n1 p hp
  · rcases List.mem_append.mp hp with hp | hp
    · rcases List.mem_append.mp hp with hp | hp
      · exact n2 p hp
      · exact off p (List.mem_append_right _ hp)
    · exact fun q => D.off (d, o) (by simp only [List.flatten_append, List.flatten_cons, List.mem_append, List.mem_cons]; exact .inr (.inl (.inr (.inl trivial)))) p hp q.symm
  · refine ⟨S.same, m, pre ++ (pre' ++ (d, o') :: post') :: post, F', by rw [eq]; exact N', up _ _ ho', ⟨by simpa [List.flatten_append, List.map_append] using nd, ?_, D.hh⟩, G⟩
    intro p hp q hq
    have off' : ∀ r, r.1 = p.1 → r ∈ (pre ++ (pre' ++ (d, o) :: post') :: post).flatten → p.1 ≠ q.1 := fun r e hr => e ▸ D.off r hr q hq
    simp only [List.flatten_append, List.flatten_cons, List.mem_append, List.mem_cons] at hp
    rcases hp with hp | (hp | rfl | hp) | hp
    · exact off' p rfl (by simp only [List.flatten_append, List.flatten_cons, List.mem_append]; exact .inl hp)
    · exact off' p rfl (by simp only [List.flatten_append, List.flatten_cons, List.mem_append]; exact .inr (.inl (.inl hp)))
    · exact off' (d, o) rfl (by simp only [List.flatten_append, List.flatten_cons, List.mem_append, List.mem_cons]; exact .inr (.inl (.inr (.inl trivial))))
    · exact off' p rfl (by simp only [List.flatten_append, List.flatten_cons, List.mem_append, List.mem_cons]; exact .inr (.inl (.inr (.inr hp))))
    · exact off' p rfl (by simp only [List.flatten_append, List.flatten_cons, List.mem_append]; exact .inr (.inr hp))

theorem sub_plain {slice : Expr} {o i : Value} (hns : ∀ a b c p, slice ≠ .Slice a b c p) : subscripted slice false o i = operate [o, i] (getItem o i) := by
  cases slice <;> first | rfl | exact absurd rfl (hns _ _ _ _)

theorem seq_item {value slice : Expr} {d e : PV} {v : Value} {n : Int} {t : Tok} {ds : List PV} {j : Nat} {k : Kont} {Q : Value → Shared → Prop} (hns : ∀ a b c p, slice ≠ .Slice a b c p) (S : St C h₀ L env as fz ρ σ s) (hv : VR as fz v d)
    (hs : seqOf d σ = some ds) (hl : ds.length ≤ 100000) (hj : pidx n ds.length = some j) (he : ds[j]? = some e) (hk : k e σ) (ret : RetOK C h₀ L env as fz ρ k Q) : wpAny (model C.prog C.w) A (subscriptTail value slice v (.int n t)) Q noE s := by
  obtain ⟨j1, j2, j3, j4⟩ := pidx_spec hj hl
  have lists : ∀ a (vs : List Value) c, s.heap.get? a = some (listOf vs.toArray c) → VRs as fz vs ds → wpAny (model C.prog C.w) A (subscriptTail value slice (.ref a) (.int n t)) Q noE s := by
    intro a vs c ha r
    obtain ⟨u, hu, ru⟩ := r.get he
    by_cases h0 : n < 0
    · exact kde_neg (isList_at ha) h0 j2 (by rw [r.length]; exact j1) hu (ret.now hk S ru) (sub_plain hns)
    · have hn : n.toNat = j := by
        unfold seqIndex? at j1
        simp only [h0, if_false] at j1
        split at j1
        · exact Option.some.inj j1
        · cases j1
      exact tail_any (isList_at ha).typeIs slot_list_getitem.lookup (wpAny_getItem_list (isList_at ha) (by omega) j3 (by rw [hn]; simpa using hu) (ret.now hk S ru)) (sub_plain hns)
  cases hv with
  | tup ha r =>
    cases hs
    obtain ⟨u, hu, ru⟩ := r.get he
    exact item_tupleT (S.isTup ha) j2 j3 (by rw [r.length]; exact j1) hu (ret.now hk S ru) (sub_plain hns)
  | lst ha r =>
    cases hs
    exact lists _ _ _ (S.atFz _ ha) r
  | obj hk' =>
    obtain ⟨o, e1, e0⟩ := ob_inv hs
    cases o with
    | list ds' =>
      cases e0
      obtain ⟨a, vs, c, e2, ha, r⟩ := s_list S (.obj hk') e1
      cases e2
      exact lists _ _ _ ha r
    | _ => cases e0
  | _ => cases hs

theorem s_item {value slice : Expr} {d e : PV} {v u : Value} {k : Kont} {Q : Value → Shared → Prop} (hns : ∀ a b c p, slice ≠ .Slice a b c p) (h : itemP d e σ k) (S : St C h₀ L env as fz ρ σ s) (hv : VR as fz v d) (hu : VR as fz u e)
    (ret : RetOK C h₀ L env as fz ρ k Q) : wpAny (model C.prog C.w) A (subscriptTail value slice v u) Q noE s := by
  cases e with
  | int n =>
    obtain ⟨t, rfl⟩ := hu.int_inv
    obtain ⟨ds, hs, h⟩ := onQ_inv h
    obtain ⟨j, hj, h⟩ := onSome_inv h
    obtain ⟨e, he, hz, hk⟩ := onV_inv h
    exact seq_item hns S hv hs hz hj he hk ret
  | str sx =>
    obtain ⟨x, t, rfl, rfl⟩ := hu.str_inv
    obtain ⟨n, rfl, h⟩ := onO_inv h
    obtain ⟨es, e1, h⟩ := onD_inv h
    obtain ⟨d', he, h⟩ := onV_inv h
    obtain ⟨a, kvs, rfl, ho, r, lo⟩ := s_dict S hv e1
    obtain ⟨u, hu', ru⟩ := (r.at (k := x)).1 d' he
    exact tail_any ho.typeIs slot_dict_getitem.lookup (wpAny_getItem_of (strKind_is C.prog C.w x t) ho.mapOf hu' (ret.now h (S.toks _) ru)) (sub_plain hns)
  | _ => exact h.elim

/-! ## attributes -/
noncomputable def noGetOK (K : Frag) (C : Addr) (x : Str) : Prop := plainGet K C x = true ∧ hasDictIn K C = true ∧ ∃ attr, findIn K (.ref C) x = some attr ∧ noGet K attr = true
noncomputable def setsOK (K : Frag) (C : Addr) (x : Str) : Prop := findIn K (.ref C) "__setattr__" = some (some (.builtin "object.__setattr__")) ∧ plainOver K C = true ∧ takerIn K C x = some none ∧ hasDictIn K C = true
noncomputable def ATOK (K : Frag) (l : List (Addr × Txt)) : Prop := ∀ C x, lkA C x l = true → noGetOK K C (tS x) ∧ setsOK K C (tS x)

theorem key_isStr (x y : Str) (t : Tok) : (Value.str x t).isStr y = (x == y) := rfl
theorem ER.at {P : Params} {x : Str} {es : List DictEntry} {ds : List (Txt × PV)} (r : ER P as fz es ds) :
    (∀ d, lk (sT x) ds = some d → ∃ v, getL x es = some (some v) ∧ VR as fz v d) ∧ (getL x es).isSome = true ∧ (es.any (·.refKey)) = false := by
  induction r with
  | nil => exact ⟨nofun, rfl, rfl⟩
  | @cons y t v d es _ h r ih =>
    obtain ⟨i1, i2, i3⟩ := ih
    have hr : (DictEntry.refKey ⟨PyData.keyHash P y, .str y t, v⟩ || es.any (·.refKey)) = false := by rw [i3]; rfl
    have e : getL x (⟨PyData.keyHash P y, .str y t, v⟩ :: es) = if y = x then some (some v) else getL x es := by
      unfold getL
      rw [List.find?_cons]
      by_cases q : y = x
      · subst q; simp [key_isStr]
      · simp only [key_isStr, beq_eq_false_iff_ne.mpr q, if_neg q, List.any_cons]
        cases hf : es.find? (·.key.isStr x) with
        | some e => rfl
        | none => simp only [i3] at hr ⊢; rw [hr]
    refine ⟨fun d' hd => ?_, ?_, by rw [List.any_cons]; exact hr⟩
    · rw [lk_cons] at hd
      rw [e]
      by_cases q : y = x
      · subst q; rw [if_pos rfl] at hd ⊢; cases hd; exact ⟨v, rfl, h⟩
      · rw [if_neg q]; rw [if_neg (fun h' => q (sT_inj h').symm)] at hd; exact i1 d' hd
    · rw [e]; split
      · rfl
      · exact i2
theorem VR.handed {v : Value} {d : PV} (h : VR as fz v d) (hd : d.isVal = false) : handedIn v = true := by
  cases h <;> first | rfl | cases hd

theorem s_att {O : Ops} {d : PV} {v : Value} {x : Str} {k : Kont} {b : Bool} {Q : Value → Shared → Prop} (F : FrOK C N A A₀ base h₀ outer fenv L) (AT : ATOK C.K O.AT) (h : attP O d (sT x) σ k) (S : St C h₀ L env as fz ρ σ s) (hv : VR as fz v d)
    (ret : RetOK C h₀ L env as fz ρ k Q) : wpAny (model C.prog C.w) A (getAttr v x b) Q noE s := by
  obtain ⟨n, rfl, h⟩ := onO_inv h
  obtain ⟨Cc, es, e1, h⟩ := onIn_inv h
  obtain ⟨hA, h⟩ := onTT_inv h
  obtain ⟨e, he, h⟩ := onV_inv h
  obtain ⟨hval, hk⟩ := onTT_inv h
  obtain ⟨a, rfl, hk'⟩ := hv.obj_inv
  obtain ⟨⟨g1, g2, attr, g3, g4⟩, _⟩ := AT _ _ hA
  obtain ⟨a', c, ha, ho, hc, _⟩ := S.one e1
  rw [hk'] at ha; cases ha
  obtain ⟨m, Fm⟩ := S.fr
  cases ho with
  | inst r _ =>
    obtain ⟨u, hu, ru⟩ := (r.at (x := x)).1 e he
    exact get_own Fm F.X (ox := instObj Cc _) ⟨hc _ (.head _), rfl, rfl, hc _ (.tail _ (.head _))⟩ g1 g2 g3 g4 hu (ru.handed (not_tt hval)) (ret.now hk (S.toks _) ru)
end
end
section
section
variable {C : Cx} {N : Nat} {A A₀ : Around} {base h₀ : Heap} {outer : List Env} {fenv env : Env} {L : Addr} {as : List Addr} {fz : Cells} {ρ : Loc} {σ : Sto} {s : Shared}

theorem keys_nodup {o : Obj} {kvs : List (Str × Value)} (h : o.IsDictOf (strKind C.prog C.w) kvs) : (kvs.map (·.1)).Nodup := by
  obtain ⟨_, _, _, _, _, _, n⟩ := h
  exact n
theorem stL_len {x : Txt} {d : PV} (l : Loc) : (stL x d l).length ≤ l.length + 1 := by
  induction l with
  | nil => exact Nat.le_refl _
  | cons p r ih =>
    show (bsel (teq x p.1) ((p.1, d) :: r) ((p.1, p.2) :: stL x d r)).length ≤ _
    cases teq x p.1 with
    | true => exact Nat.le_succ _
    | false => exact Nat.succ_le_succ ih
theorem rmL_len {x : Txt} (l : Loc) : (rmL x l).length ≤ l.length := by
  induction l with
  | nil => exact Nat.le_refl _
  | cons p r ih =>
    show (bsel (teq x p.1) r ((p.1, p.2) :: rmL x r)).length ≤ _
    cases teq x p.1 with
    | true => exact Nat.le_succ _
    | false => exact Nat.succ_le_succ ih

/-- a dict's own store -/
theorem s_set {d i c : PV} {v j u : Value} {k : Sto → Prop} {Q : Unit → Shared → Prop} (h : setP d i c σ k) (S : St C h₀ L env as fz ρ σ s) (hv : VR as fz v d) (hj : VR as fz j i) (hu : VR as fz u c)
    (ret : ∀ σ' h' tk, k σ' → St C h₀ L env as fz ρ σ' { s with heap := h', toks := tk } → Q () { s with heap := h', toks := tk }) : wpAny (model C.prog C.w) A (setItem v j u) Q noE s := by
  obtain ⟨n, rfl, h⟩ := onO_inv h
  obtain ⟨sx, rfl, h⟩ := onS_inv h
  obtain ⟨es, e1, hz, hk⟩ := onD_inv h
  obtain ⟨x, t, rfl, rfl⟩ := hj.str_inv
  obtain ⟨a, rfl, hk'⟩ := hv.obj_inv
  obtain ⟨a', cc, ha, ho, hc, up⟩ := S.one e1
  rw [hk'] at ha; cases ha
  cases ho with
  | dict hd r lo hl =>
    have nd := keys_nodup hd
    have D := Heap.dictOf_iff.mpr ⟨_, hc _ (.head _), hd⟩
    refine wpAny_setItem_pairs (strKind_is C.prog C.w x t) D (fun h' D' hs => ?_) (by rw [r.len, sizeLine_eq]; omega)
    obtain ⟨o', ho', hd'⟩ := Heap.dictOf_iff.mp D'
    exact ret _ h' _ hk (up [] a _ [] rfl (fun _ h => nomatch h) (fun _ h => nomatch h) h' o' _ _ hs ho' (.dict hd' (r.put hu nd) lo (Nat.le_trans (stL_len es) hz)))

/-! ## methods of lists and dicts -/
theorem plast_cons {d : PV} {r p : List PV} {e : PV} (h : plast (d :: r) = some (p, e)) : (∃ p', plast r = some (p', e) ∧ p = d :: p') ∨ (r = [] ∧ p = [] ∧ e = d) := by
  unfold plast at h
  cases q : plast r with
  | some x => rw [q] at h; cases h; exact .inl ⟨_, rfl, rfl⟩
  | none =>
    rw [q] at h; cases h
    cases r with
    | nil => exact .inr ⟨rfl, rfl, rfl⟩
    | cons c r =>
      unfold plast at q
      cases q2 : plast r with
      | some x => rw [q2] at q; cases q
      | none => rw [q2] at q; cases q
theorem kl_last_of {vs : List Value} {l : List PV} (r : VRs as fz vs l) : ∀ {p : List PV} {e : PV}, plast l = some (p, e) → ∃ ps y, kl_last vs = some (ps, y) ∧ VRs as fz ps p ∧ VR as fz y e := by
  refine VRs.ind (P := fun vs l => ∀ {p : List PV} {e : PV}, plast l = some (p, e) → ∃ ps y, kl_last vs = some (ps, y) ∧ VRs as fz ps p ∧ VR as fz y e) (fun h => nomatch h) (fun {v vs d ds} hv hr ih p e h => ?_) r
  rcases plast_cons h with ⟨p', hp, rfl⟩ | ⟨rfl, rfl, rfl⟩
  · obtain ⟨ps, y, h1, h2, h3⟩ := ih hp
    refine ⟨v :: ps, y, ?_, .cons hv h2, h3⟩
    cases vs with
    | nil => cases h1
    | cons w ws => show (match kl_last (w :: ws) with | some (p, y) => some (v :: p, y) | none => some ([], v)) = _; rw [h1]
  · cases hr; exact ⟨[], v, rfl, .nil, hv⟩

/-- what a method's name finds on a list -/
noncomputable def listId (x : Txt) : Option String :=
  match teq x tAppend with
  | true => some "list.append"
  | false => match teq x tPop with
    | true => some "list.pop"
    | false => match teq x tReverse with
      | true => some "list.reverse"
      | false => none
noncomputable def dictId (x : Txt) : Option String :=
  match teq x tGet with
  | true => some "dict.get"
  | false => match teq x tPop with
    | true => some "dict.pop"
    | false => none
theorem tAppend_eq : tAppend = sT (Str.ofString "append") := by decide +kernel
theorem tPop_eq : tPop = sT (Str.ofString "pop") := by decide +kernel
theorem tReverse_eq : tReverse = sT (Str.ofString "reverse") := by decide +kernel
theorem tGet_eq : tGet = sT (Str.ofString "get") := by decide +kernel

theorem m_list {x : Str} {id : String} {a : Addr} {its : Array Value} {n : Nat} {pl : Sem Bool} {Q : Value × List Value → Shared → Prop} (hx : listId (sT x) = some id) (ha : s.heap.get? a = some (listOf its n)) (h : Q (.builtin id, [.ref a]) s) :
    wpAny (model C.prog C.w) A (getMethod (.ref a) x pl) Q noE s := by
  have go {nm : Str} {id : String} (slot : Slot "list" nm id) (hty : typeOf (.builtin id) = pure (.type "method_descriptor")) (h : Q (.builtin id, [.ref a]) s) : wpAny (model C.prog C.w) A (getMethod (.ref a) nm pl) Q noE s :=
    getMethod_builtin ⟨_, ha, rfl⟩ PySem.F.plainAttrs_list slot hty (fun a' e => by cases e; exact ⟨_, ha, rfl⟩) h
  unfold listId at hx
  split at hx
  · rename_i q
    rw [tAppend_eq] at q
    have := sT_inj (teq_iff.mp q); subst this
    cases hx
    exact go PySem.F.slot_list_append PySem.F.type_list_append h
  · split at hx
    · rename_i q
      rw [tPop_eq] at q
      have := sT_inj (teq_iff.mp q); subst this
      cases hx
      exact go PySem.F.slot_list_pop PySem.F.type_list_pop h
    · split at hx
      · rename_i q
        rw [tReverse_eq] at q
        have := sT_inj (teq_iff.mp q); subst this
        cases hx
        exact go PySem.F.slot_list_reverse PySem.F.type_list_reverse h
      · cases hx
theorem m_dict {x : Str} {id : String} {a : Addr} {kvs : List (Str × Value)} {pl : Sem Bool} {Q : Value × List Value → Shared → Prop} (hx : dictId (sT x) = some id) (ha : s.heap.DictOf (strKind C.prog C.w) a kvs) (h : Q (.builtin id, [.ref a]) s) :
    wpAny (model C.prog C.w) A (getMethod (.ref a) x pl) Q noE s := by
  have hd : ∀ b, Value.ref a = .ref b → ∃ o, s.heap.get? b = some o ∧ o.dict = none := fun b e => by
    cases e
    obtain ⟨o, _, _, ho, hc, _⟩ := ha
    exact ⟨o, ho, hc.2.1⟩
  unfold dictId at hx
  split at hx
  · rename_i q
    rw [tGet_eq] at q
    have := sT_inj (teq_iff.mp q); subst this
    cases hx
    exact getMethod_builtin ha.typeIs PySem.F.plainAttrs_dict PySem.F.slot_dict_get PySem.F.type_dict_get hd h
  · split at hx
    · rename_i q
      rw [tPop_eq] at q
      have := sT_inj (teq_iff.mp q); subst this
      cases hx
      exact getMethod_builtin ha.typeIs PySem.F.plainAttrs_dict PySem.F.slot_dict_pop PySem.F.type_dict_pop hd h
    · cases hx

/-- the call of a list's method -/
theorem c_list {x : Txt} {id : String} {n : Nat} {l ds : List PV} {v : Value} {us : List Value} {k : Kont} {Q : Value → Shared → Prop} (S : St C h₀ L env as fz ρ σ s) (hv : VR as fz v (.obj n)) (e1 : sget σ n = some (.list l)) (hx : listId x = some id)
    (h : metLb n x l ds σ k) (hu : VRs as fz us ds)
    (ret : RetOK C h₀ L env as fz ρ k Q) : wpAny (model C.prog C.w) A (call (.builtin id) (v :: us)) Q noE s := by
  obtain ⟨a, rfl, hk'⟩ := hv.obj_inv
  obtain ⟨m, a', c, F, ha, ho, led⟩ := S.led e1
  rw [hk'] at ha; cases ha
  cases ho with
  | list r =>
    obtain ⟨p1, p2, N', _, n1, n2, up⟩ := led [] a _ [] rfl (fun _ h => nomatch h) (fun _ h => nomatch h)
    cases hu with
    | nil =>
      unfold metLb at h
      cases q : teq x tPop with
      | true =>
        rw [q] at h
        obtain ⟨⟨p, e⟩, hp, hz, hk⟩ := onP_inv h
        have q0 : teq x tAppend = false := by
          have := teq_iff.mp q; subst this; decide +kernel
        have : id = "list.pop" := by unfold listId at hx; rw [q0, q] at hx; exact (Option.some.inj hx).symm
        subst this
        obtain ⟨ps, y, h1, h2, h3⟩ := kl_last_of r hp
        refine kl_pop F N' h1 (upd_of n1 n2) (by show List.length _ ≤ _; rw [r.length, sizeLine_eq]; omega) (fun h' F' N'' => ?_)
        exact ret _ _ _ _ _ _ hk (Ext.refl _ _) (up h' _ _ s.toks F' N'' (.list h2)) h3
      | false =>
        rw [q] at h
        obtain ⟨q1, hz, hk⟩ := onTT_inv h
        have q0 : teq x tAppend = false := by
          have := teq_iff.mp q1; subst this; decide +kernel
        have : id = "list.reverse" := by unfold listId at hx; rw [q0, q, q1] at hx; exact (Option.some.inj hx).symm
        subst this
        refine kl_reverse F N' rfl (upd_of n1 n2) (by show List.length _ ≤ _; rw [r.length, sizeLine_eq]; omega) (fun h' F' N'' => ?_)
        exact ret _ _ _ _ _ _ hk (Ext.refl _ _) (up h' _ _ s.toks F' N'' (.list r.reverse)) .none
    | cons hd hu =>
      obtain ⟨hn, h⟩ := onTT_inv h
      cases nil_of hn
      cases hu
      obtain ⟨q, hz, hk⟩ := onTT_inv h
      have : id = "list.append" := by unfold listId at hx; rw [q] at hx; exact (Option.some.inj hx).symm
      subst this
      refine append_K F N' (upd_of n1 n2) (fun h' F' N'' => ?_) (by rw [List.size_toArray, r.length, sizeLine_eq]; omega)
      refine ret _ _ _ _ _ _ hk (Ext.refl _ _) (up h' _ _ s.toks F' N'' ?_) .none
      rw [List.push_toArray]
      exact .list (r.append (.cons hd .nil))
theorem c_dict {x : Txt} {id : String} {n : Nat} {l : List (Txt × PV)} {ds : List PV} {v : Value} {us : List Value} {k : Kont} {Q : Value → Shared → Prop} (S : St C h₀ L env as fz ρ σ s) (hv : VR as fz v (.obj n)) (e1 : sget σ n = some (.dict l)) (hx : dictId x = some id)
    (h : metDb n x l ds σ k) (hu : VRs as fz us ds)
    (ret : RetOK C h₀ L env as fz ρ k Q) : wpAny (model C.prog C.w) A (call (.builtin id) (v :: us)) Q noE s := by
  obtain ⟨a, rfl, hk'⟩ := hv.obj_inv
  obtain ⟨a', c, ha, ho, hc, up⟩ := S.one e1
  rw [hk'] at ha; cases ha
  cases ho with
  | dict hd r lo hl =>
    have nd := keys_nodup hd
    have D := Heap.dictOf_iff.mpr ⟨_, hc _ (.head _), hd⟩
    obtain ⟨d, rfl, h⟩ := on1_inv h
    obtain ⟨sx, rfl, h⟩ := onS_inv h
    cases hu with
    | cons hd' hu =>
    cases hu
    cases hd' with
    | str y t =>
    obtain ⟨i1, i2⟩ := r.at (k := y)
    have h : metDs n x l (sT y) σ k := h
    unfold metDs at h
    cases q : teq x tGet with
    | true =>
      rw [q] at h
      have h : k (orN (lk (sT y) l)) σ := h
      have : id = "dict.get" := by unfold dictId at hx; rw [q] at hx; exact (Option.some.inj hx).symm
      subst this
      refine call_meetsIn PySem.F.slot_dict_get D.typeIs PySem.F.entry_dict_get (PySem.F.args_dict_get_2 _ _) (meets_dict_get (strKind C.prog C.w) a (strKind_is C.prog C.w y t) lo) ⟨_, D.mapOf, ?_⟩
      cases q' : lk (sT y) l with
      | none => rw [q'] at h; rw [i2 q']; exact ret.now h (S.toks _) .none
      | some d => rw [q'] at h; obtain ⟨u, hu, ru⟩ := i1 d q'; rw [hu]; exact ret.now h (S.toks _) ru
    | false =>
      rw [q] at h
      obtain ⟨q2, h⟩ := onTT_inv h
      obtain ⟨e, he, h⟩ := onV_inv h
      have : id = "dict.pop" := by unfold dictId at hx; rw [q, q2] at hx; exact (Option.some.inj hx).symm
      subst this
      obtain ⟨u, hu, ru⟩ := i1 e he
      refine call_meetsIn PySem.F.slot_dict_pop D.typeIs PySem.F.entry_dict_pop (PySem.F.args_dict_pop_2 _ _) (meets_dict_pop_there (strKind C.prog C.w) a (strKind_is C.prog C.w y t) [] (.inl rfl) rfl) ⟨_, u, D, (by rw [r.len, sizeLine_eq]; omega), hu, fun h' hmm hs => ?_⟩
      obtain ⟨o', ho', hd''⟩ := Heap.dictOf_iff.mp hmm
      exact ret _ _ _ _ _ _ h (Ext.refl _ _) (up [] a _ [] rfl (fun _ h => nomatch h) (fun _ h => nomatch h) h' o' _ _ hs ho' (.dict hd'' (r.del nd) lo (Nat.le_trans (rmL_len l) hl))) ru
end
end
section
noncomputable def biV : BI → Value
  | .len => .builtin "len"
  | .max => .builtin "max"
  | .str => .type "str"
  | .tuple => .type "tuple"
  | .dict => .type "dict"
  | .range => .type "range"

section
variable {C : Cx} {N : Nat} {A A₀ : Around} {base h₀ : Heap} {outer : List Env} {fenv env : Env} {L : Addr} {as : List Addr} {fz : Cells} {ρ : Loc} {σ : Sto} {s : Shared}

/-- a sequence, as it stands -/
theorem s_seq {d : PV} {v : Value} {l : List PV} (S : St C h₀ L env as fz ρ σ s) (hv : VR as fz v d) (h : seqOf d σ = some l) :
    ∃ a vs, v = .ref a ∧ VRs as fz vs l ∧ ((IsTup s.heap a vs.toArray ∧ d = .tup l) ∨ s.heap.IsList a vs.toArray) := by
  cases hv with
  | tup ha r => cases h; exact ⟨_, _, rfl, r, .inl ⟨S.isTup ha, rfl⟩⟩
  | lst ha r => cases h; exact ⟨_, _, rfl, r, .inr (S.isList ha)⟩
  | obj hk' =>
    obtain ⟨o, e1, e0⟩ := ob_inv h
    cases o with
    | list ds' =>
      cases e0
      obtain ⟨a, vs, c, e2, ha, r⟩ := s_list S (.obj hk') e1
      cases e2
      exact ⟨_, _, rfl, r, .inr (isList_at ha)⟩
    | _ => cases e0
  | _ => cases h

theorem log2_small {a : Int} (h : small a) : a.natAbs.log2 < 1920 := by
  by_cases h1 : a.natAbs = 0
  · rw [h1]; decide
  · exact Nat.lt_trans ((Nat.log2_lt h1).mpr h) (by decide)

theorem s_bi {b : BI} {ds : List PV} {vs : List Value} {k : Kont} {Q : Value → Shared → Prop} (F : FrOK C N A A₀ base h₀ outer fenv L) (h : biP b ds σ k) (S : St C h₀ L env as fz ρ σ s) (hv : VRs as fz vs ds) (ret : RetOK C h₀ L env as fz ρ k Q) :
    wpAny (model C.prog C.w) A (call (biV b) vs) Q noE s := by
  cases b with
  | len =>
    obtain ⟨d, rfl, h⟩ := on1_inv h
    obtain ⟨l, hl, hz, hk⟩ := onQ_inv h
    cases hv with
    | cons hv hr =>
    cases hr
    obtain ⟨a, us, rfl, r, ha⟩ := s_seq S hv hl
    have e : (us.toArray.size : Nat) = l.length := by rw [List.size_toArray, r.length]
    have hz' : (us.toArray.size : Int) < 2 ^ 63 := by rw [e]; exact Int.lt_of_le_of_lt (Int.ofNat_le.mpr hz) (by decide)
    rcases ha with ⟨ha, _⟩ | ha
    · exact len_tuple ha hz' (by rw [e]; exact ret.now hk ((S.toks _)) (.int _ _))
    · exact Calls.call_len_list ha hz' (by rw [e]; exact ret.now hk (S.toks _) (.int _ _))
  | max =>
    obtain ⟨d, e, rfl, h⟩ := on2_inv h
    obtain ⟨a, b, rfl, rfl, h⟩ := int2_inv h
    cases hv with
    | cons hv hr =>
    cases hr with
    | cons hw hr =>
    cases hr
    obtain ⟨t, rfl⟩ := hv.int_inv; obtain ⟨u, rfl⟩ := hw.int_inv
    obtain ⟨m, mus, Fm, N', R, D, G⟩ := S.ex
    refine max_two_N F.hh Fm N' fun h' tk F' N'' => ret.now ?_ (sameHeap S F' N'' R D G) (.int _ _)
    have : (if b > a then b else a) = (match decide (a < b) with | true => b | false => a) := by
      by_cases c : a < b
      · rw [if_pos c, decide_eq_true c]
      · rw [if_neg c, decide_eq_false c]
    rw [this]; exact h
  | str =>
    obtain ⟨d, rfl, h⟩ := on1_inv h
    obtain ⟨a, rfl, hz, hk⟩ := onI_inv h
    cases hv with
    | cons hv hr =>
    cases hr
    obtain ⟨t, rfl⟩ := hv.int_inv
    exact PySem.P.str_of_int (log2_small hz) (ret.now hk (S.toks _) (.str _ _))
  | tuple =>
    obtain ⟨d, rfl, h⟩ := on1_inv h
    obtain ⟨l, hl, hz, hk⟩ := onQ_inv h
    cases hv with
    | cons hv hr =>
    cases hr
    obtain ⟨a, us, rfl, r, ha⟩ := s_seq S hv hl
    rcases ha with ⟨ha, rfl⟩ | ha
    · exact call_tuple_tup ha (ret.now hk S hv)
    · obtain ⟨m, mus, Fm, N', R, D, G⟩ := S.ex
      refine kde_tupleOf Fm N' ha (by rw [List.size_toArray, r.length]; exact Nat.le_trans hz (by decide)) rfl fun D' h' F' N'' lt => ?_
      have x := Ext.cons as fz (D', tupOf us.toArray 0)
      exact ret _ _ _ _ _ _ hk x (newF S (tk := s.toks) F' N'' R D G (fun p hp => Nat.ne_of_lt (lt p hp))) (.tup (.head _) (r.mono x))
  | dict =>
    obtain ⟨d, rfl, h⟩ := on1_inv h
    obtain ⟨n, rfl, h⟩ := onO_inv h
    obtain ⟨es, e1, h⟩ := onD_inv h
    cases hv with
    | cons hv hr =>
    cases hr
    obtain ⟨a, rfl, hk'⟩ := hv.obj_inv
    obtain ⟨a', c, ha, ho, hc, up⟩ := S.one e1
    rw [hk'] at ha; cases ha
    cases ho with
    | dict hd r lo hl =>
      have D₁ := Heap.dictOf_iff.mpr ⟨_, hc _ (.head _), hd⟩
      refine kt_call_dict lo D₁ (by rw [r.len, sizeLine_eq]; omega) fun h' D' hs => ?_
      obtain ⟨o', ho', hd'⟩ := Heap.dictOf_iff.mp D'
      obtain ⟨m, mus, Fm, N', R, D, G⟩ := S.ex
      have hlen := R.len.1
      have x : Ext as fz (as ++ [s.heap.objs.size]) fz := ⟨fun k a e => by rw [List.getElem?_append_left (List.getElem?_eq_some_iff.mp e).1]; exact e, fun _ h => h⟩
      have low : sysModules < h₀.objs.size := modules_low (topRead_of F.T).nolimit
      have F' : Fr h₀ L h' m := (Fm.push _).change hs (Ne.symm (Nat.ne_of_lt Fm.ns.lt)) (next_is_new Fm)
      have N₂ : ∀ p ∈ mus.flatten ++ (fz ++ C.hid), h'.get? p.1 = some p.2 ∧ p.1 ≠ L ∧ h₀.get? p.1 = none := fun p hp =>
        ⟨(hs.2 _ (Nat.ne_of_lt (Heap.lt_size (N' p hp).1))).trans (Heap.get?_push_of_some _ (N' p hp).1), (N' p hp).2⟩
      refine ret _ _ _ _ _ _ h x ⟨S.same, m, mus ++ [[(s.heap.objs.size, o')]], F', fun p hp => ?_, (R.mono x).snoc (.dict hd' (r.mono x) (Fr.notModules Fm low) hl), ⟨?_, ?_, D.hh⟩, G.mono x⟩ (.obj (by rw [← hlen]; simp))
      · simp only [List.flatten_append, List.flatten_cons, List.flatten_nil, List.append_nil, List.mem_append, List.mem_cons, List.not_mem_nil, or_false] at hp
        rcases hp with (hp | rfl) | hp
        · exact N₂ p (List.mem_append_left _ hp)
        · exact ⟨ho', Ne.symm (Nat.ne_of_lt Fm.ns.lt), next_is_new Fm⟩
        · exact N₂ p (List.mem_append_right _ (List.mem_append.mpr hp))
      · simp only [List.flatten_append, List.flatten_cons, List.flatten_nil, List.append_nil, List.map_append, List.map_cons, List.map_nil]
        refine List.nodup_append.mpr ⟨D.nd, by simp, ?_⟩
        intro a ha b hb e
        rw [List.mem_singleton] at hb
        subst hb; subst e
        obtain ⟨p, hp, e⟩ := List.mem_map.mp ha
        exact fresh_size N' p (List.mem_append_left _ hp) e
      · intro p hp q hq
        simp only [List.flatten_append, List.flatten_cons, List.flatten_nil, List.append_nil, List.mem_append, List.mem_cons, List.not_mem_nil, or_false] at hp
        rcases hp with hp | rfl
        · exact D.off p hp q hq
        · exact (Nat.ne_of_lt (Heap.lt_size (N' q (List.mem_append_right _ hq)).1)).symm
  | range =>
    obtain ⟨d, rfl, h⟩ := on1_inv h
    obtain ⟨nn, rfl, hz, hk⟩ := onI_inv h
    cases hv with
    | cons hv hr =>
    cases hr
    obtain ⟨t, rfl⟩ := hv.int_inv
    refine call_range_1 ?_
    have S' := S.froze (o := rangeOf nn s.toks t (s.toks + 1)) rfl
    exact ret _ _ _ _ _ _ hk (Ext.cons _ _ _) (S'.toks _) (.rng (.head _))

/-! ## an attribute's store -/
theorem ER.len {P : Params} {es : List DictEntry} {ds : List (Txt × PV)} (h : ER P as fz es ds) : es.length = ds.length := by
  induction h with
  | nil => rfl
  | cons _ _ ih => exact congrArg Nat.succ ih
theorem putL_len {x : Str} {hsh : Int} {key v : Value} : ∀ es : List DictEntry, (putL x hsh key v es).length ≤ es.length + 1
  | [] => Nat.le_refl _
  | e :: r => by unfold putL; split; exact Nat.le_succ _; exact Nat.succ_le_succ (putL_len r)
theorem ER.put {P : Params} {x : Str} {t : Tok} {v : Value} {d : PV} (hv : VR as fz v d) {es : List DictEntry} {ds : List (Txt × PV)} (r : ER P as fz es ds) : ER P as fz (putL x (PyData.keyHash P x) (.str x t) v es) (stL (sT x) d ds) := by
  induction r with
  | nil => exact .cons hv .nil
  | @cons y u _ _ _ _ h r ih =>
    rw [stL_cons]
    unfold putL
    by_cases q : y = x
    · subst q
      rw [if_pos rfl]
      simp only [key_isStr, beq_self_eq_true, if_true]
      exact .cons hv r
    · rw [if_neg (fun h' => q (sT_inj h').symm)]
      simp only [key_isStr, beq_eq_false_iff_ne.mpr q, Bool.false_eq_true, if_false]
      exact .cons h ih

theorem s_sat {O : Ops} {d c : PV} {v u : Value} {x : Str} {k : Sto → Prop} {Q : Unit → Shared → Prop} (F : FrOK C N A A₀ base h₀ outer fenv L) (AT : ATOK C.K O.AT) (h : satP O d (sT x) c σ k) (S : St C h₀ L env as fz ρ σ s) (hv : VR as fz v d) (hu : VR as fz u c)
    (ret : ∀ σ' h' tk, k σ' → St C h₀ L env as fz ρ σ' { s with heap := h', toks := tk } → Q () { s with heap := h', toks := tk }) : wpAny (model C.prog C.w) A (setAttr v x u) Q noE s := by
  obtain ⟨n, rfl, h⟩ := onO_inv h
  obtain ⟨Cc, es, e1, h⟩ := onIn_inv h
  obtain ⟨hA, hz, hk⟩ := onTT_inv h
  obtain ⟨a, rfl, hk'⟩ := hv.obj_inv
  obtain ⟨_, g1, g2, g3, g4⟩ := AT _ _ hA
  obtain ⟨m, a', c', Fm, ha, ho, led⟩ := S.led e1
  rw [hk'] at ha; cases ha
  cases ho with
  | inst r hne =>
    rename_i dx des n
    obtain ⟨p1, p2, N', mem, n1, n2, up⟩ := led [(a, instObj Cc dx)] dx (dictOf des n) [] rfl (fun p hp => by rw [List.mem_singleton.mp hp]; exact hne) (fun _ h => nomatch h)
    have i2 := (r.at (x := x)).2.1
    refine set_dict Fm F.X N' (ox := instObj Cc dx) (es := des) (n := n) ⟨(N' _ (mem _ (.head _))).1, rfl, rfl, (N' _ (mem _ (.tail _ (.head _)))).1⟩ rfl g1 g2 g3 g4 i2 rfl (upd_of n1 n2) ?_ fun h' F' N'' => ?_
    · have := putL_len (x := x) (hsh := PyData.keyHash C.w.params x) (key := .str x (s.toks + 1)) (v := u) des
      rw [r.len] at this
      exact Nat.le_trans this hz
    · exact ret _ _ _ hk (up h' _ _ _ F' N'' (.inst (r.put hu) hne))
end
end
section
open PySem PySem.W PyProof.Rows PySem.Calls PySem.Spec PySem.Builtin

section
variable {C : Cx} {N : Nat} {A A₀ : Around} {base h₀ : Heap} {outer : List Env} {fenv env : Env} {L : Addr} {as : List Addr} {fz : Cells} {ρ : Loc} {σ : Sto} {s : Shared}

theorem intE_inv {e : Expr} {r : Option Int} (h : intE e = some r) : ∃ i k p, e = .Constant (.int i) k p ∧ r = some i := by
  cases e with
  | Constant c k p => cases c <;> first | (cases h; exact ⟨_, _, _, rfl, rfl⟩) | cases h
  | _ => cases h
theorem e_part {l : Option Expr} {lo : Option Int} {P : Value → Shared → Prop} (h : intOf? l = some lo) (hp : ∀ vl tk, IsPart vl lo → P vl { s with toks := tk }) : wpAny (model C.prog C.w) A (evalPart l env) P noE s := by
  cases l with
  | none => cases h; exact wpAny_pure (hp .none s.toks .none)
  | some e =>
    obtain ⟨i, kk, pos, rfl, rfl⟩ := intE_inv h
    exact wpAny_Constant_int (k := kk) (pos := pos) (hp (.int i s.toks) (s.toks + 1) (.int _ _))

theorem adjust_run (a b n : Nat) (ha : a ≤ b) (hb : b ≤ n) : Builtin.Slice.sliceAdjust (some (a : Int)) (some (b : Int)) 1 (n : Int) = ((a : Int), (b : Int)) := by
  unfold Builtin.Slice.sliceAdjust
  have h1 : ¬ ((1 : Int) < 0) := by omega
  have h2 : ¬ ((a : Int) < 0) := by omega
  have h3 : ¬ ((b : Int) < 0) := by omega
  simp only [h1, h2, h3, if_false]
  congr 1 <;> omega
theorem places_run (a b : Nat) (ha : a ≤ b) : Builtin.Slice.slicePlaces (a : Int) (b : Int) 1 = b - a := by
  unfold Builtin.Slice.slicePlaces
  have h1 : (1 : Int) > 0 := by omega
  simp only [h1, if_true, Int.ediv_one]
  split <;> omega
theorem sliceApplied_run {prog : Program} {w : World} {E : Value → Shared → Prop} {sl : Addr} {a b n : Nat} {u u' : Tok} {Q : Int × Int × Nat → Shared → Prop} (hs : s.heap.IsSliceOf sl (.int a u) (.int b u') .none) (ha : a ≤ b) (hb : b ≤ n) (h : Q ((a : Int), 1, b - a) s) :
    wpAny (model prog w) A (Builtin.Slice.sliceApplied (.ref sl) (pure (n : Int))) Q E s := by
  obtain ⟨os, hos, hcs, hds⟩ := id hs
  unfold Builtin.Slice.sliceApplied Builtin.Slice.sliceFields
  refine wpAny_bind (wpAny_bind (wpAny_field hos hds (x := .int a u) rfl (wpAny_bind (wpAny_field hos hds (x := .int b u') rfl (wpAny_bind (wpAny_field hos hds (x := .none) rfl (wpAny_pure ?_)))))))
  refine wpAny_bind (slicePart_none ?_)
  show wpAny _ _ (if ((1 : Int) == 0) = true then _ else _) _ _ s
  rw [if_neg (by decide)]
  refine wpAny_bind (slicePart_int (wpAny_bind (slicePart_int (wpAny_bind (wpAny_pure ?_)))))
  show wpAny _ _ (match Builtin.Slice.sliceAdjust (some (a : Int)) (some (b : Int)) 1 (n : Int) with | (lo, hi) => pure (lo, (1 : Int), Builtin.Slice.slicePlaces lo hi 1)) _ _ s
  rw [adjust_run a b n ha hb]
  show wpAny _ _ (pure ((a : Int), (1 : Int), Builtin.Slice.slicePlaces (a : Int) (b : Int) 1)) _ _ s
  rw [places_run a b ha]
  exact wpAny_pure h
theorem pick_ab (xs : Array Value) (a b : Nat) : ((List.range (b - a)).filterMap fun (k : Nat) => xs[((a : Int) + (k : Int) * 1).toNat]?).toArray = ((xs.toList.take b).drop a).toArray := by
  have e : (fun (k : Nat) => xs[((a : Int) + (k : Int) * 1).toNat]?) = fun k => xs[a + k]? := by
    funext k
    have : ((a : Int) + (k : Int) * 1).toNat = a + k := by omega
    rw [this]
  rw [e]
  have := pick_run xs a (b - a)
  rw [List.filterMap_map] at this
  have e2 : ((fun x => xs[x]?) ∘ fun x => a + x) = fun k => xs[a + k]? := rfl
  rw [e2] at this
  rw [this, List.drop_take]
theorem getItem_tuple_run {prog : Program} {w : World} {E : Value → Shared → Prop} {t sl : Addr} {items : Array Value} {a b : Nat} {u u' : Tok} {Q : Value → Shared → Prop} (ht : IsTup s.heap t items) (hs : s.heap.IsSliceOf sl (.int a u) (.int b u') .none) (ha : a ≤ b) (hb : b < items.size)
    (h : Q (.ref s.heap.objs.size) { s with heap := s.heap.push { cls := .type "tuple", data := .seq ((items.toList.take b).drop a).toArray } })
    (hsz : items.size ≤ sizeLine) : wpAny (model prog w) A (getItem (.ref t) (.ref sl)) Q E s := by
  have hdrop : sizeOk (.seq ((items.toList.take b).drop a).toArray) := by
    show ((items.toList.take b).drop a).toArray.size ≤ sizeLine
    rw [List.size_toArray, List.length_drop, List.length_take, Array.length_toList]
    omega
  obtain ⟨os, hos, hcs, hds⟩ := id hs
  have hTs : s.TypeIs (.ref sl) "slice" := ⟨os, hos, hcs⟩
  unfold getItem
  try with_reducible refine wpAny_holding ?_
  first | refine wpAny_bind (wpAny_pure ?_) | skip
  refine wpAny_bind (wpAny_sequenceKey ht.typeIs (by decide) ?_)
  refine wpAny_bind (wpAny_callSpecial?_slot (name := Str.ofString "__getitem__") ht.typeIs slot_tuple_getitem
    (wpAny_call_entry slot_tuple_getitem ht.typeIs entry_tuple_getitem ?_ (args_tuple_getitem _ _)))
  show wpAny _ _ (Builtin.Tuple.tupleItemsOf (.ref t) >>= _) _ _ s
  refine wpAny_bind (tupleItemsOf_ ht ?_)
  refine wpAny_bind (wpAny_typeOf hTs ?_)
  rw [if_pos (by decide)]
  refine wpAny_bind (sliceApplied_run hs ha (Nat.le_of_lt hb) ?_)
  have hno : ¬ (((a : Int) == 0 && (1 : Int) == 1 && (b - a) == items.size) = true) := by
    have : (b - a == items.size) = false := by rw [beq_eq_false_iff_ne]; omega
    rw [this]; simp
  show wpAny _ _ (if ((a : Int) == 0 && (1 : Int) == 1 && (b - a) == items.size) = true then _ else _) _ _ s
  rw [if_neg hno, pick_ab items a b]
  first
    | exact wpAny_bind (m := Builtin.Tuple.tupleExact _) (wpAny_newObj_type (wpAny_pure ⟨_, rfl, wpAny_pure h⟩) hdrop)
    | exact wpAny_bind (m := Builtin.Tuple.tupleExact _) (wpAny_newObj_type (wpAny_bind (wpAny_pure (wpAny_pure ⟨_, rfl, wpAny_pure h⟩))) hdrop)
    | exact wpAny_bind (wpAny_bind (m := Builtin.Tuple.tupleExact _) (wpAny_newObj_type (wpAny_pure (wpAny_pure ⟨_, rfl, wpAny_pure h⟩)) hdrop))
    | exact wpAny_bind (wpAny_bind (m := Builtin.Tuple.tupleExact _) (wpAny_newObj_type (wpAny_pure ⟨_, rfl, wpAny_pure h⟩) hdrop))

theorem part_none {v : Value} (h : IsPart v none) : v = .none := by cases h; rfl
theorem part_int {v : Value} {i : Int} (h : IsPart v (some i)) : ∃ t, v = .int i t := by cases h; exact ⟨_, rfl⟩
theorem pick_to (vs : List Value) (b : Nat) : slicePick vs.toArray none (some (b : Int)) none = (vs.take b).toArray := by
  rw [kms_pick_eq]
  unfold kms_pick kms_lo kms_hi
  have : ¬ ((b : Int) < 0) := by omega
  simp only [this, if_false, List.drop_zero, Int.toNat_natCast, Nat.sub_zero, kmk_take_min]

noncomputable abbrev sliceOf (l u : Value) : Obj := { cls := .type "slice", data := .fields #[l, u, .none] }

theorem s_slc {O : Ops} {d : PV} {v value : Expr} {o : Value} {lo hi : Option Int} {l u : Option Expr} {p : Pos} {k : Kont} {Q : Value → Shared → Prop} (F : FrOK C N A A₀ base h₀ outer fenv L) (SC : O.SC = C.scr)
    (hl : intOf? l = some lo) (hu : intOf? u = some hi) (h : slcP O d lo hi σ k) (S : St C h₀ L env as fz ρ σ s) (hv : VR as fz o d) (ret : RetOK C h₀ L env as fz ρ k Q) :
    wpAny (model C.prog C.w) A (eval (.Slice l u none p) env) (fun i s₂ => wpAny (model C.prog C.w) A (subscriptTail value (.Slice l u none p) o i) Q noE s₂) noE s := by
  refine wpAny_Slice (e_part hl fun vl t1 pl => e_part hu fun vu t2 pu => ?_)
  rw [evalPart_none]
  refine wpAny_pure ?_
  have S1 := (S.toks t2).froze (o := sliceOf vl vu) rfl
  have x1 : Ext as fz as ((s.heap.objs.size, sliceOf vl vu) :: fz) := Ext.cons _ _ _
  have isS : (s.heap.push (sliceOf vl vu)).IsSliceOf s.heap.objs.size vl vu .none := Heap.IsSliceOf.new _ _ _ _
  have lists : ∀ a (vs : List Value) (ds : List PV) (b : Nat), lo = none → hi = some (b : Int) → (s.heap.push (sliceOf vl vu)).IsList a vs.toArray → VRs as fz vs ds → ds.length ≤ 100000 → k (.obj σ.length) (σ ++ [.list (ds.take b)]) →
      wpAny (model C.prog C.w) A (subscriptTail value (.Slice l u none p) (.ref a) (.ref s.heap.objs.size)) Q noE { s with heap := s.heap.push (sliceOf vl vu), toks := t2 } := by
    intro a vs ds b h1 h2 ha r hz hk
    subst h1; subst h2
    refine tail_any (ops := [.ref s.heap.objs.size, .ref a]) (Heap.IsList.typeIs (s := { s with heap := s.heap.push (sliceOf vl vu), toks := t2 }) ha) list_getitem_lookup
      (wpAny_getItem_list_slice (s := { s with heap := s.heap.push (sliceOf vl vu), toks := t2 }) ha isS pl pu .none (by simp) ?_ (by rw [List.size_toArray, r.length, sizeLine_eq]; omega)) rfl
    rw [pick_to]
    obtain ⟨x2, S2⟩ := S1.made (o := listOf (vs.take b).toArray 0) (po := .list (ds.take b)) (.list ((r.take b).mono (Ext.trans x1 ⟨fun k a e => by rw [List.getElem?_append_left (List.getElem?_eq_some_iff.mp e).1]; exact e, fun _ h => h⟩))) rfl
    obtain ⟨m, mus, _, _, R, _, _⟩ := S.ex
    exact ret _ _ _ _ _ _ hk (x1.trans x2) S2 (.obj (by rw [← R.len.1]; simp))
  cases d with
  | tup ds =>
    obtain ⟨q, rfl, hq⟩ := onN_inv h
    obtain ⟨a, vs, n, rfl, ha, r⟩ := hv.tup_inv
    have ht : IsTup (s.heap.push (sliceOf vl vu)) a vs.toArray := (S.isTup ha).keeps fun _ _ e => Heap.get?_push_of_some _ e
    obtain ⟨t, rfl⟩ := part_int pl
    have hsz : ds.length ≤ 1000 → vs.toArray.size ≤ sizeLine := fun h3 => by rw [List.size_toArray, r.length, sizeLine_eq]; exact Nat.le_trans h3 (by decide)
    cases hi with
    | none =>
      obtain ⟨h1, h2, h3, hk⟩ := hq
      cases part_none pu
      refine tail_any (ops := [.ref s.heap.objs.size, .ref a]) (IsTup.typeIs (s := { s with heap := s.heap.push (sliceOf _ _), toks := t2 }) ht) slot_tuple_getitem.lookup
        (getItem_tuple_from (s := { s with heap := s.heap.push (sliceOf _ _), toks := t2 }) ht isS h1 (by rw [List.size_toArray, r.length]; exact h2) ?_ (hsz h3)) rfl
      have S2 := S1.froze (o := tupOf (vs.drop q).toArray 0) rfl
      exact ret _ _ _ _ _ _ hk (x1.trans (Ext.cons _ _ _)) S2 (.tup (.head _) ((r.drop q).mono (x1.trans (Ext.cons _ _ _))))
    | some i =>
      obtain ⟨q', e, h1, h2, h3, hk⟩ := onN_inv hq
      cases e
      obtain ⟨t', rfl⟩ := part_int pu
      refine tail_any (ops := [.ref s.heap.objs.size, .ref a]) (IsTup.typeIs (s := { s with heap := s.heap.push (sliceOf _ _), toks := t2 }) ht) slot_tuple_getitem.lookup
        (getItem_tuple_run (s := { s with heap := s.heap.push (sliceOf _ _), toks := t2 }) ht isS h1 (by rw [List.size_toArray, r.length]; exact h2) ?_ (hsz h3)) rfl
      have S2 := S1.froze (o := tupOf ((vs.take q').drop q).toArray 0) rfl
      exact ret _ _ _ _ _ _ hk (x1.trans (Ext.cons _ _ _)) S2 (.tup (.head _) (((r.take q').drop q).mono (x1.trans (Ext.cons _ _ _))))
  | obj n =>
    obtain ⟨rfl, h1⟩ := noP_inv h
    obtain ⟨b, rfl, h2⟩ := onN_inv h1
    obtain ⟨ds, e1, hz, hk⟩ := onL_inv h2
    obtain ⟨a, vs, c, rfl, ha, r⟩ := s_list S hv e1
    exact lists a vs ds b rfl rfl ((isList_at ha).push _) r hz hk
  | val v =>
    cases v with
    | ref a =>
      obtain ⟨rfl, h1⟩ := noP_inv h
      obtain ⟨b, rfl, h2⟩ := onN_inv h1
      obtain ⟨x, e1, h0, hz, hk⟩ := onC_inv h2
      cases hv with
      | val =>
        obtain ⟨vs, hl', r⟩ := F.scr a x.2 (by rw [← SC, e1, h0])
        obtain ⟨m, Fm⟩ := S.fr
        obtain ⟨o, ho, hc, n', hd⟩ := hl'
        have : s.heap.IsList a vs.toArray := ⟨o, Fm.keep _ _ ho, hc, n', hd⟩
        exact lists a vs x.2 b rfl rfl (this.push _) (r.mono ⟨fun _ _ e => by simp at e, fun _ e => absurd e (List.not_mem_nil)⟩) hz hk
    | _ => exact h.elim
  | _ => exact h.elim
end
end
section
/-- where an expression stands -/
noncomputable def InE (C : Cx) (N : Nat) (A : Around) (h₀ : Heap) (env : Env) (L : Addr) : Prop := ∃ A₀ base outer fenv, FrOK C N A A₀ base h₀ outer fenv L ∧ EvOK env

/-- a call of the text's own def with this data: what it comes to -/
noncomputable def CallOK (C : Cx) (N : Nat) (f : Addr) (ds : List PV) (σ : Sto) (k : Kont) : Prop := keepIn C.K (.ref f) = true ∧
  ∀ (A : Around) (h₀ : Heap) (env : Env) (L : Addr) (as : List Addr) (fz : Cells) (ρ : Loc) (s : Shared) (vs : List Value) (Q : Value → Shared → Prop), InE C N A h₀ env L →
    St C h₀ L env as fz ρ σ s → VRs as fz vs ds → RetOK C h₀ L env as fz ρ k Q → wpAny (model C.prog C.w) A (call (.ref f) vs) Q noE s

structure OKs (C : Cx) (N : Nat) (gt : List (Txt × CE)) (O : Ops) : Prop where
  gt : GTab C.K gt
  att : ATOK C.K O.AT
  sc : O.SC = C.scr
  mt : ∀ D x f, lkM D x O.MT = some f → plainGet C.K D (tS x) = true ∧ findIn C.K (.ref D) (tS x) = some (some (.ref f)) ∧ isFn C.K (.ref f) = true ∧ keepIn C.K (.ref f) = true
  cl : ∀ hid kp kpm f ds σ k, O.CL f ds σ k → CallOK { C with hid := hid, kp := kp, kpm := kpm } N f ds σ k

/-- the kinds of the names, as the block has them -/
noncomputable def KsOK (ks : Kinds) (env : Env) : Prop := ∀ (x : Str) (kd : NameKind), lkK (sT x) ks = some kd → kd ≠ .free → env.kindOf x = some kd

variable (O : Ops) (gt : List (Txt × CE)) (N : Nat)

/-- what is to be shown of expressions, up to so much fuel -/
noncomputable def GE (n : Nat) : Prop := ∀ (C : Cx), OKs C N gt O → ∀ (ks : Kinds) (m : Nat) (e : Expr) (ce : CE), cE gt ks m e = some ce →
  ∀ (A : Around) (h₀ : Heap) (env : Env) (L : Addr) (as : List Addr) (fz : Cells) (ρ : Loc) (σ : Sto) (s : Shared) (k : Kont) (Q : Value → Shared → Prop),
    InE C N A h₀ env L → KsOK ks env → evC O n ce ρ σ k → St C h₀ L env as fz ρ σ s → RetOK C h₀ L env as fz ρ k Q → wpAny (model C.prog C.w) A (eval e env) Q noE s
noncomputable def GL (n : Nat) : Prop := ∀ (C : Cx), OKs C N gt O → ∀ (ks : Kinds) (m : Nat) (es : List Expr) (ces : List CE), cEs gt ks m es = some ces →
  ∀ (A : Around) (h₀ : Heap) (env : Env) (L : Addr) (as : List Addr) (fz : Cells) (ρ : Loc) (σ : Sto) (s : Shared) (k : List PV → Sto → Prop) (pos : Pos) (Q : List Value → Shared → Prop),
    InE C N A h₀ env L → KsOK ks env → evL O n ces ρ σ k → St C h₀ L env as fz ρ σ s → RetsOK C h₀ L env as fz ρ k Q → wpAny (model C.prog C.w) A (spliced (backTo pos (starEach es env))) Q noE s
noncomputable def GT (n : Nat) : Prop := ∀ (C : Cx), OKs C N gt O → ∀ (ks : Kinds) (m : Nat) (e : Expr) (ce : CE), cE gt ks m e = some ce →
  ∀ (A : Around) (h₀ : Heap) (env : Env) (L : Addr) (as : List Addr) (fz : Cells) (ρ : Loc) (σ : Sto) (s : Shared) (k : Bool → Sto → Prop) (Q : Bool → Shared → Prop),
    InE C N A h₀ env L → KsOK ks env → tsC O n ce ρ σ k → St C h₀ L env as fz ρ σ s → RetBOK C h₀ L env as fz ρ k Q → wpAny (model C.prog C.w) A (isTrue e env (eval e env)) Q noE s

section
variable {O : Ops} {gt : List (Txt × CE)} {N : Nat}
variable {C : Cx} {A : Around} {h₀ : Heap} {env : Env} {L : Addr} {as : List Addr} {fz : Cells} {ρ : Loc} {σ : Sto} {s : Shared}

/-! ## names of a scope -/
theorem lkK_of : ∀ {names : List (Str × NameKind)} {x : Str}, lkK (sT x) (names.map fun (p : Str × NameKind) => (sT p.1, p.2)) = names.lookup x
  | [], _ => rfl
  | (y, k) :: r, x => by
    rw [List.map_cons]
    show bsel (teq (sT x) (sT y)) (some k) (lkK (sT x) (r.map fun (p : Str × NameKind) => (sT p.1, p.2))) = _
    rw [teq_str, List.lookup_cons, lkK_of]
    cases x == y <;> rfl
theorem kind_of {x : Str} {kd : NameKind} (h : lkK (sT x) (ksOf env.scope) = some kd) : env.kindOf x = some kd := lkK_of.symm.trans h

theorem ksOK_of : KsOK (ksOf env.scope) env := fun _ _ h _ => kind_of h
theorem few_of {n : Nat} (h : few n = true) : n < 29 := by unfold few at h; simpa using h

/-! ## arguments -/
theorem star_cons {e : Expr} {r : List Expr} (h : ∀ v p, e ≠ .Starred v p) : starEach (e :: r) env = (false, eval e env) :: starEach r env := by
  cases e <;> first | rfl | exact absurd rfl (h _ _)
theorem cEs_cons {ks : Kinds} {m : Nat} {e : Expr} {r : List Expr} {ces : List CE} (h : cEs gt ks m (e :: r) = some ces) :
    ∃ m' ce cr, m = m' + 1 ∧ (∀ v p, e ≠ .Starred v p) ∧ cE gt ks m' e = some ce ∧ cEs gt ks m' r = some cr ∧ ces = ce :: cr := by
  cases m with
  | zero => cases h
  | succ m =>
    obtain ⟨hs, h⟩ := gd_inv h
    obtain ⟨a, b, h1, h2, rfl⟩ := o2_inv h
    exact ⟨m, a, b, rfl, (fun v p q => by subst q; cases hs), h1, h2, rfl⟩
theorem cEs_nil {ks : Kinds} {m : Nat} {ces : List CE} (h : cEs gt ks m [] = some ces) : ces = [] := by
  cases m with
  | zero => cases h
  | succ m => cases h; rfl
theorem cEs_plain {ks : Kinds} {pos : Pos} : ∀ {es : List Expr} {m : Nat} {ces : List CE}, cEs gt ks m es = some ces → (backTo pos (starEach es env)).any (·.1) = false ∧ ces.length = es.length
  | [], _, _, h => by rw [cEs_nil h]; exact ⟨rfl, rfl⟩
  | e :: r, m, ces, h => by
    obtain ⟨m', ce, cr, rfl, h1, _, h2, rfl⟩ := cEs_cons h
    rw [star_cons h1]
    obtain ⟨a, b⟩ := cEs_plain (es := r) (pos := pos) h2
    exact ⟨by show (false || (backTo pos (starEach r env)).any (·.1)) = false; rw [a]; rfl, by simp [b]⟩

theorem InE.In (F : InE C N A h₀ env L) (S : St C h₀ L env as fz ρ σ s) : C.K.In s.heap := by
  obtain ⟨_, _, _, _, F, _⟩ := F
  obtain ⟨m, Fm⟩ := S.fr
  exact F.X.keeps Fm.keep

/-- the call itself, with the arguments' trees -/
noncomputable def KeeperOK (M : Model) (f : Value) (h : Heap) : Prop := ∃ k, (k = Keeper.frame ∨ k = Keeper.machine ∨ k = Keeper.boundFrame) ∧ Looks M h (keeperOf f) k
theorem r_callWith {f : Value} {first : List Value} {ks : Kinds} {m : Nat} {es : List Expr} {ces : List CE} {pos : Pos} {Q : Value → Shared → Prop} (hc : cEs gt ks m es = some ces)
    (h0 : es = [] → KeeperOK (model C.prog C.w) f s.heap ∧ wpAny (model C.prog C.w) A (call f first) Q noE s)
    (h : wpAny (model C.prog C.w) A (spliced (backTo pos (starEach es env))) (fun vs s₁ => KeeperOK (model C.prog C.w) f s₁.heap ∧ wpAny (model C.prog C.w) A (call f (first ++ vs)) Q noE s₁) noE s) :
    wpAny (model C.prog C.w) A (callWith pos f first (backTo pos (starEach es env)) []) Q noE s := by
  have pl := (cEs_plain (env := env) (pos := pos) hc).1
  cases es with
  | nil => exact callWith_of (P := KeeperOK (model C.prog C.w) f) rfl (fun _ h => h) (evalArgs_nil3 (by rw [List.append_nil]; exact h0 rfl))
  | cons e r =>
    obtain ⟨m', ce, cr, rfl, h1, _, h2, rfl⟩ := cEs_cons hc
    rw [star_cons h1] at h pl ⊢
    exact callWith_of (P := KeeperOK (model C.prog C.w) f) (by rw [pl]; rfl) (fun _ h => h) (evalArgs_plain h)
theorem keeper_fn {f : Addr} {h : Heap} (hk : keepIn C.K (.ref f) = true) (X : C.K.In h) : KeeperOK (model C.prog C.w) (.ref f) h := keeps_K hk h X
theorem keeper_machine {f : Value} {h : Heap} (hf : ∀ a, f ≠ .ref a) : KeeperOK (model C.prog C.w) f h := by
  refine ⟨.machine, .inr (.inl rfl), ?_⟩
  unfold keeperOf
  cases f <;> first | exact absurd rfl (hf _) | exact Looks.of_pure rfl

theorem attributeBase_of {o : Expr} {x : Str} {whole : Sem Value} (h : notSuper o = true) : attributeBase o x env whole = whole := by
  cases o with
  | Call f as kw p => cases f with
    | Name => cases as with
      | nil => cases kw with
        | nil => cases h
        | cons => rfl
      | cons => rfl
    | _ => rfl
  | _ => rfl
theorem r_method {o : Expr} {x : Str} {ap pos : Pos} {es : List Expr} {ks : Kinds} {m : Nat} {ces : List CE} {Q : Value → Shared → Prop} (hs : notSuper o = true) (hl : Nat.beq ap.endLine pos.line = true) (hn : few es.length = true)
    (hc : cEs gt ks m es = some ces)
    (h : wpAny (model C.prog C.w) A (eval o env) (fun ov s₁ => ∀ pl, wpAny (model C.prog C.w) A (getMethod ov x pl) (fun fx s₂ => wpAny (model C.prog C.w) A (callWith pos fx.1 fx.2 (backTo pos (starEach es env)) []) Q noE s₂) noE s₁) noE s) :
    wpAny (model C.prog C.w) A (eval (.Call (.Attribute o x ap) es [] pos) env) Q noE s := by
  have pl := (cEs_plain (env := env) (pos := pos) hc).1
  have hform : methodCallForm (es.length + ([] : List Keyword).length) (backTo pos (starEach es env)) (backToKw pos (keywordEach [] env)) = true := by
    unfold methodCallForm
    have h1 : (backTo pos (starEach es env)).all (fun x => !x.1) = true := by
      rw [List.all_eq_not_any_not]
      simp only [Bool.not_not]
      rw [pl]; rfl
    have h2 := few_of hn
    rw [h1]
    have h3 : (backToKw pos (keywordEach [] env)).all (fun x => x.1.isSome) = true := rfl
    have h4 : (backToKw pos (keywordEach [] env)).isEmpty = true := rfl
    rw [h3, h4]
    simp; omega
  have hline : (ap.endLine == pos.line) = true := by
    have := Nat.eq_of_beq_eq_true hl
    rw [this]; simp
  have hpos : methodCallPos true o env ap pos = pure pos := by unfold methodCallPos; simp [hline]
  rw [arm_eval_Call, attributeBase_of hs]
  refine wpAny_bind (wpAny_mono h (fun ov s₁ h₁ => ?_) fun _ _ e => e)
  refine wpAny_bind (wpAny_standAt ?_)
  unfold methodCall
  rw [hform]
  refine wpAny_bind (wpAny_holding (wpAny_mono (h₁ _) (fun fx s₂ h₂ => ?_) fun _ _ e => e))
  exact wpAny_bind (wpAny_of_eq hpos h₂)

theorem r_call {f : Expr} {es : List Expr} {pos : Pos} {Q : Value → Shared → Prop} (hf : ∀ o x p, f ≠ .Attribute o x p)
    (h : wpAny (model C.prog C.w) A (eval f env) (fun fv s₁ => wpAny (model C.prog C.w) A (callWith pos fv [] (backTo pos (starEach es env)) []) Q noE s₁) noE s) :
    wpAny (model C.prog C.w) A (eval (.Call f es [] pos) env) Q noE s := by
  have he : eval (.Call f es [] pos) env = (do callWith pos (← eval f env) [] (backTo pos (starEach es env)) (backToKw pos (keywordEach [] env))) := by
    cases f <;> first | rfl | exact absurd rfl (hf _ _ _)
  rw [he]; exact wpAny_bind h

theorem behind_of {op : CmpOp} {r : Expr} (h : notSet r = true) : behindInMarks op r = false := by
  cases r <;> first | rfl | cases h

theorem ER.miss {P : Params} {x : Str} {es : List DictEntry} {ds : List (Txt × PV)} (r : ER P as fz es ds) (e : lk (sT x) ds = none) : getL x es = some none := by
  induction r with
  | nil => rfl
  | @cons y t v d es _ h r ih =>
    rw [lk_cons] at e
    by_cases q : y = x
    · rw [if_pos (by rw [q])] at e; cases e
    · rw [if_neg (fun h' => q (sT_inj h').symm)] at e
      have i := ih e
      unfold getL at i ⊢
      rw [List.find?_cons]
      simp only [key_isStr, beq_eq_false_iff_ne.mpr q, List.any_cons]
      exact i
theorem lm_id {x : Txt} (h : lmOK x = true) : ∃ id, listId x = some id := by
  unfold lmOK at h; unfold listId
  cases h1 : teq x tAppend with
  | true => exact ⟨_, rfl⟩
  | false => cases h2 : teq x tPop with
    | true => exact ⟨_, rfl⟩
    | false => cases h3 : teq x tReverse with
      | true => exact ⟨_, rfl⟩
      | false => rw [h1, h2, h3] at h; exact absurd h Bool.false_ne_true
theorem dm_id {x : Txt} (h : dmOK x = true) : ∃ id, dictId x = some id := by
  unfold dmOK at h; unfold dictId
  cases h1 : teq x tGet with
  | true => exact ⟨_, rfl⟩
  | false => cases h2 : teq x tPop with
    | true => exact ⟨_, rfl⟩
    | false => rw [h1, h2] at h; exact absurd h Bool.false_ne_true
theorem biOf_val {fc : CE} {b : BI} (h : biOf? fc = some b) : fc = .val (.val (biV b)) := by
  cases fc with
  | val d => cases d with
    | val v => cases v with
      | builtin n =>
        have h : biN n = some b := h
        unfold biN at h
        cases h1 : decide (n = "len") with
        | true => rw [h1] at h; cases h; rw [of_decide_eq_true h1]; rfl
        | false =>
          rw [h1] at h
          cases h2 : decide (n = "max") with
          | true => rw [h2] at h; cases h; rw [of_decide_eq_true h2]; rfl
          | false => rw [h2] at h; cases h
      | type n =>
        have h : biT n = some b := h
        unfold biT at h
        cases h1 : decide (n = "str") with
        | true => rw [h1] at h; cases h; rw [of_decide_eq_true h1]; rfl
        | false =>
          rw [h1] at h
          cases h2 : decide (n = "tuple") with
          | true => rw [h2] at h; cases h; rw [of_decide_eq_true h2]; rfl
          | false =>
            rw [h2] at h
            cases h3 : decide (n = "dict") with
            | true => rw [h3] at h; cases h; rw [of_decide_eq_true h3]; rfl
            | false =>
              rw [h3] at h
              cases h4 : decide (n = "range") with
              | true => rw [h4] at h; cases h; rw [of_decide_eq_true h4]; rfl
              | false => rw [h4] at h; cases h
      | _ => cases h
    | _ => cases h
  | _ => cases h
theorem biV_ref (b : BI) : ∀ a, biV b ≠ .ref a := by intro a; cases b <;> simp [biV]
end
end
section
section
variable {C : Cx} {A : Around} {h₀ : Heap} {env : Env} {L : Addr} {as : List Addr} {fz : Cells} {ρ : Loc} {σ : Sto} {s : Shared} {N : Nat}

theorem St.locLt (S : St C h₀ L env as fz ρ σ s) : env.locals < s.heap.objs.size := by
  obtain ⟨m, mus, F, N, R, D, G⟩ := S.ex
  rcases S.same.2.2.2 with e | ⟨o, ho⟩
  · rw [e]; exact F.ns.lt
  · exact Heap.lt_size (N _ (List.mem_append_right _ (List.mem_append_right _ ho))).1

theorem FRl.hid {hid hid' : Cells} {m : Str → Option Value} (h : ∀ o, (env.locals, o) ∈ hid → (env.locals, o) ∈ hid') (G : FRl hid L env as fz m ρ) : FRl hid' L env as fz m ρ := by
  intro y d e
  obtain ⟨v, hv, h'⟩ := G y d e
  refine ⟨v, hv, ?_⟩
  rcases h' with ⟨k, h1 | ⟨o, mc, h1, h2⟩⟩ | h1
  · exact .inl ⟨k, .inl h1⟩
  · exact .inl ⟨k, .inr ⟨o, mc, h o h1, h2⟩⟩
  · exact .inr h1

theorem FRx.hid {hid' : Cells} {m : Str → Option Value} (h : ∀ o, (env.locals, o) ∈ C.hid → (env.locals, o) ∈ hid') (G : FRx C L env as fz m ρ) : FRx { C with hid := hid' } L env as fz m ρ := ⟨G.1.hid h, G.2⟩
/-- a new object that a loop holds -/
theorem St.hide (S : St C h₀ L env as fz ρ σ s) (o : Obj) (hfree : o.isFreed = false := by rfl) :
    St { C with hid := (s.heap.objs.size, o) :: C.hid } h₀ L env as fz ρ σ { s with heap := s.heap.push o } ∧ env.locals ≠ s.heap.objs.size := by
  have hl := S.locLt
  obtain ⟨m, mus, F, N, R, D, G⟩ := S.ex
  have N' := News.push F N o hfree
  refine ⟨⟨⟨S.same.1, S.same.2.1, S.same.2.2.1, S.same.2.2.2.imp id fun ⟨o', h⟩ => ⟨o', .tail _ h⟩⟩, m, mus, F.push o, fun p hp => N' p ?_, R, ⟨D.nd, fun p hp q hq => ?_, fun p hp q hq => ?_, ?_⟩, G.hid fun o h => .tail _ h⟩, Nat.ne_of_lt hl⟩
  · simp only [List.mem_append, List.mem_cons] at hp ⊢
    rcases hp with h | h | h | h
    · exact .inr (.inl h)
    · exact .inr (.inr (.inl h))
    · exact .inl h
    · exact .inr (.inr (.inr h))
  · simp only [List.mem_append, List.mem_cons] at hq
    rcases hq with hq | rfl | hq
    · exact D.off p hp q (List.mem_append_left _ hq)
    · exact Nat.ne_of_lt (Heap.lt_size (N p (List.mem_append_left _ hp)).1)
    · exact D.off p hp q (List.mem_append_right _ hq)
  · rcases List.mem_cons.mp hq with rfl | hq
    · exact Nat.ne_of_lt (Heap.lt_size (N p (List.mem_append_right _ (List.mem_append_left _ hp))).1)
    · exact D.hh.1 p hp q hq
  · rw [List.map_cons, List.nodup_cons]
    refine ⟨fun h => ?_, D.hh.2⟩
    obtain ⟨q, hq, e⟩ := List.mem_map.mp h
    exact absurd (Heap.lt_size (N q (List.mem_append_right _ (List.mem_append_right _ hq))).1) (by rw [e]; exact Nat.lt_irrefl _)

/-- what stands beside the object held, when that alone has changed -/
theorem St.beside {D : Addr} {o : Obj} {h' : Heap} (S : St { C with hid := (D, o) :: C.hid } h₀ L env as fz ρ σ s) (hne : env.locals ≠ D) (up : ∀ b ob, b ≠ D → s.heap.get? b = some ob → h'.get? b = some ob) :
    (s.heap.get? D = some o ∧ D ≠ L ∧ h₀.get? D = none) ∧ (s.gens = C.s₀.gens ∧ s.drawn = C.s₀.drawn ∧ s.os = C.s₀.os ∧ (env.locals = L ∨ ∃ o, (env.locals, o) ∈ C.hid)) ∧
      ∃ m mus, Fr h₀ L h' m ∧ News h₀ L h' (mus.flatten ++ (fz ++ C.hid)) ∧ MR C.prog C.w as fz mus as σ ∧ Sep mus fz C.hid ∧ FRx C L env as fz m ρ ∧ (∀ p ∈ mus.flatten ++ (fz ++ C.hid), p.1 ≠ D) := by
  obtain ⟨m, mus, F, N, R, Dd, G⟩ := S.ex
  have hD := N (D, o) (List.mem_append_right _ (List.mem_append_right _ (.head _)))
  have off : ∀ p ∈ mus.flatten ++ (fz ++ C.hid), p.1 ≠ D := by
    intro p hp
    rcases List.mem_append.mp hp with hp | hp
    · exact Dd.off p hp (D, o) (List.mem_append_right _ (.head _))
    · rcases List.mem_append.mp hp with hp | hp
      · exact Dd.hh.1 p hp (D, o) (.head _)
      · have := Dd.hh.2
        rw [List.map_cons, List.nodup_cons] at this
        exact fun e => this.1 (List.mem_map.mpr ⟨p, hp, e⟩)
  have keepHid : ∀ o', (env.locals, o') ∈ (D, o) :: C.hid → (env.locals, o') ∈ C.hid := fun o' h => by
    rcases List.mem_cons.mp h with h | h
    · cases h; exact absurd rfl hne
    · exact h
  refine ⟨hD, ⟨S.same.1, S.same.2.1, S.same.2.2.1, S.same.2.2.2.imp id fun ⟨o', h⟩ => ⟨o', keepHid o' h⟩⟩, m, mus, ⟨F.ns.at' fun ob e => up L ob hD.2.1.symm e, fun b ob e => up b ob (fun q => by rw [q, hD.2.2] at e; cases e) (F.keep b ob e), F.above⟩, fun p hp => ?_, R,
    ⟨Dd.nd, fun p hp q hq => Dd.off p hp q ?_, fun p hp q hq => Dd.hh.1 p hp q (.tail _ hq), ?_⟩, FRx.hid (C := { C with hid := (D, o) :: C.hid }) keepHid G, off⟩
  · have : p ∈ mus.flatten ++ (fz ++ (D, o) :: C.hid) := by
      simp only [List.mem_append, List.mem_cons] at hp ⊢
      rcases hp with h | h | h
      · exact .inl h
      · exact .inr (.inl h)
      · exact .inr (.inr (.inr h))
    exact ⟨up _ _ (off p hp) (N p this).1, (N p this).2⟩
  · rcases List.mem_append.mp hq with hq | hq
    · exact List.mem_append_left _ hq
    · exact List.mem_append_right _ (.tail _ hq)
  · have := Dd.hh.2
    rw [List.map_cons, List.nodup_cons] at this
    exact this.2

/-- it is let go -/
theorem St.unhide {D : Addr} {o : Obj} {h' : Heap} {tk : Nat} (S : St { C with hid := (D, o) :: C.hid } h₀ L env as fz ρ σ s) (hne : env.locals ≠ D) (up : ∀ b ob, b ≠ D → s.heap.get? b = some ob → h'.get? b = some ob) :
    St C h₀ L env as fz ρ σ { s with heap := h', toks := tk } := by
  obtain ⟨_, same, m, mus, F, N, R, Dd, G, _⟩ := S.beside hne up
  exact ⟨same, m, mus, F, N, R, Dd, G⟩
/-- it has changed -/
theorem St.rehide {D : Addr} {o o' : Obj} {h' : Heap} {tk : Nat} (S : St { C with hid := (D, o) :: C.hid } h₀ L env as fz ρ σ s) (hne : env.locals ≠ D) (up : ∀ b ob, b ≠ D → s.heap.get? b = some ob → h'.get? b = some ob) (hd : h'.get? D = some o') :
    St { C with hid := (D, o') :: C.hid } h₀ L env as fz ρ σ { s with heap := h', toks := tk } := by
  obtain ⟨hD, same, m, mus, F, N, R, Dd, G, off⟩ := S.beside hne up
  refine ⟨⟨same.1, same.2.1, same.2.2.1, same.2.2.2.imp id fun ⟨o', h⟩ => ⟨o', .tail _ h⟩⟩, m, mus, F, fun p hp => ?_, R, ⟨Dd.nd, fun p hp q hq => ?_, fun p hp q hq => ?_, ?_⟩, G.hid fun o h => .tail _ h⟩
  · simp only [List.mem_append, List.mem_cons] at hp
    rcases hp with h | h | rfl | h
    · exact N p (List.mem_append_left _ h)
    · exact N p (List.mem_append_right _ (List.mem_append_left _ h))
    · exact ⟨hd, hD.2⟩
    · exact N p (List.mem_append_right _ (List.mem_append_right _ h))
  · simp only [List.mem_append, List.mem_cons] at hq
    rcases hq with hq | rfl | hq
    · exact Dd.off p hp q (List.mem_append_left _ hq)
    · exact off p (List.mem_append_left _ hp)
    · exact Dd.off p hp q (List.mem_append_right _ hq)
  · rcases List.mem_cons.mp hq with rfl | hq
    · exact off p (List.mem_append_right _ (List.mem_append_left _ hp))
    · exact Dd.hh.1 p hp q hq
  · rw [List.map_cons, List.nodup_cons]
    refine ⟨fun h => ?_, Dd.hh.2⟩
    obtain ⟨q, hq, e⟩ := List.mem_map.mp h
    exact off q (List.mem_append_right _ (List.mem_append_right _ hq)) e
/-- it joins the objects that may change -/
theorem St.adopt {D : Addr} {o o' : Obj} {po : PO} {h' : Heap} {tk : Nat} (S : St { C with hid := (D, o) :: C.hid } h₀ L env as fz ρ σ s) (hne : env.locals ≠ D) (up : ∀ b ob, b ≠ D → s.heap.get? b = some ob → h'.get? b = some ob) (hd : h'.get? D = some o')
    (ho : OR C.prog C.w (as ++ [D]) fz po [(D, o')] D) :
    Ext as fz (as ++ [D]) fz ∧ VR (as ++ [D]) fz (.ref D) (.obj σ.length) ∧ St C h₀ L env (as ++ [D]) fz ρ (σ ++ [po]) { s with heap := h', toks := tk } := by
  obtain ⟨hD, same, m, mus, F, N, R, Dd, G, off⟩ := S.beside hne up
  have x : Ext as fz (as ++ [D]) fz := ⟨fun k a e => by rw [List.getElem?_append_left (List.getElem?_eq_some_iff.mp e).1]; exact e, fun _ h => h⟩
  refine ⟨x, .obj (by rw [← R.len.1]; simp), same, m, mus ++ [[(D, o')]], F, fun p hp => ?_, (R.mono x).snoc ho, ⟨?_, fun p hp q hq => ?_, Dd.hh⟩, G.mono x⟩
  · simp only [List.flatten_append, List.flatten_cons, List.flatten_nil, List.append_nil, List.mem_append, List.mem_cons, List.not_mem_nil, or_false] at hp
    rcases hp with (h | rfl) | h
    · exact N p (List.mem_append_left _ h)
    · exact ⟨hd, hD.2⟩
    · exact N p (List.mem_append_right _ (List.mem_append.mpr h))
  · simp only [List.flatten_append, List.flatten_cons, List.flatten_nil, List.append_nil, List.map_append, List.map_cons, List.map_nil]
    refine List.nodup_append.mpr ⟨Dd.nd, by simp, ?_⟩
    intro a ha b hb e
    rw [List.mem_singleton] at hb
    subst hb; subst e
    obtain ⟨p, hp, e⟩ := List.mem_map.mp ha
    exact off p (List.mem_append_left _ hp) e
  · simp only [List.flatten_append, List.flatten_cons, List.flatten_nil, List.append_nil, List.mem_append, List.mem_cons, List.not_mem_nil, or_false] at hp
    rcases hp with hp | rfl
    · exact Dd.off p hp q hq
    · exact (off q (List.mem_append_right _ hq)).symm

/-! ## a loop's hold changes nothing else -/
theorem FrOK.hid {A₀ : Around} {base : Heap} {outer : List Env} {fenv : Env} {hid : Cells} (F : FrOK C N A A₀ base h₀ outer fenv L) : FrOK { C with hid := hid } N A A₀ base h₀ outer fenv L :=
  ⟨F.B, F.X, F.T, F.hA, F.hf, F.hfun, F.hh, F.depth, F.units, F.scr⟩
theorem InE.hid {hid : Cells} (F : InE C N A h₀ env L) : InE { C with hid := hid } N A h₀ env L := let ⟨a, b, c, d, F, V⟩ := F; ⟨a, b, c, d, F.hid, V⟩
theorem OKs.hid {gt : List (Txt × CE)} {O : Ops} {hid : Cells} (H : OKs C N gt O) : OKs { C with hid := hid } N gt O := ⟨H.gt, H.att, H.sc, H.mt, H.cl⟩
theorem InE.low (F : InE C N A h₀ env L) : sysModules < h₀.objs.size := by
  obtain ⟨_, _, _, _, F, _⟩ := F
  exact modules_low (topRead_of F.T).nolimit
theorem InE.handled (F : InE C N A h₀ env L) : A.handled = none := by
  obtain ⟨_, _, _, _, F, _⟩ := F
  exact F.hh
end
end
section
variable (O : Ops) (gt : List (Txt × CE)) (N : Nat)
noncomputable def GEat (n : Nat) (e : Expr) : Prop := ∀ (C : Cx), OKs C N gt O → ∀ (ks : Kinds) (m : Nat) (ce : CE), cE gt ks m e = some ce →
  ∀ (A : Around) (h₀ : Heap) (env : Env) (L : Addr) (as : List Addr) (fz : Cells) (ρ : Loc) (σ : Sto) (s : Shared) (k : Kont) (Q : Value → Shared → Prop),
    InE C N A h₀ env L → KsOK ks env → evC O n ce ρ σ k → St C h₀ L env as fz ρ σ s → RetOK C h₀ L env as fz ρ k Q → wpAny (model C.prog C.w) A (eval e env) Q noE s
noncomputable def GA (n : Nat) : Prop := ∀ (C : Cx), OKs C N gt O → ∀ (ks : Kinds) (m : Nat) (es : List Expr) (ces : List CE), cEs gt ks m es = some ces →
  ∀ (A : Around) (h₀ : Heap) (env : Env) (L : Addr) (as : List Addr) (fz : Cells) (ρ : Loc) (σ : Sto) (s : Shared) (k : Kont) (pos : Pos) (Q : Value → Shared → Prop),
    InE C N A h₀ env L → KsOK ks env → evA O n ces ρ σ k → St C h₀ L env as fz ρ σ s → RetOK C h₀ L env as fz ρ k Q → wpAny (model C.prog C.w) A (eval (.BoolOp .And es pos) env) Q noE s
noncomputable def GO (n : Nat) : Prop := ∀ (C : Cx), OKs C N gt O → ∀ (ks : Kinds) (m : Nat) (es : List Expr) (ces : List CE), cEs gt ks m es = some ces →
  ∀ (A : Around) (h₀ : Heap) (env : Env) (L : Addr) (as : List Addr) (fz : Cells) (ρ : Loc) (σ : Sto) (s : Shared) (k : Kont) (pos : Pos) (Q : Value → Shared → Prop),
    InE C N A h₀ env L → KsOK ks env → evO O n ces ρ σ k → St C h₀ L env as fz ρ σ s → RetOK C h₀ L env as fz ρ k Q → wpAny (model C.prog C.w) A (eval (.BoolOp .Or es pos) env) Q noE s
noncomputable def GTA (n : Nat) : Prop := ∀ (C : Cx), OKs C N gt O → ∀ (ks : Kinds) (m : Nat) (es : List Expr) (ces : List CE), cEs gt ks m es = some ces →
  ∀ (A : Around) (h₀ : Heap) (env : Env) (L : Addr) (as : List Addr) (fz : Cells) (ρ : Loc) (σ : Sto) (s : Shared) (k : Bool → Sto → Prop) (pos : Pos) (wh : Sem Value) (Q : Bool → Shared → Prop),
    InE C N A h₀ env L → KsOK ks env → tsA O n ces ρ σ k → St C h₀ L env as fz ρ σ s → RetBOK C h₀ L env as fz ρ k Q → wpAny (model C.prog C.w) A (isTrue (.BoolOp .And es pos) env wh) Q noE s
noncomputable def GTO (n : Nat) : Prop := ∀ (C : Cx), OKs C N gt O → ∀ (ks : Kinds) (m : Nat) (es : List Expr) (ces : List CE), cEs gt ks m es = some ces →
  ∀ (A : Around) (h₀ : Heap) (env : Env) (L : Addr) (as : List Addr) (fz : Cells) (ρ : Loc) (σ : Sto) (s : Shared) (k : Bool → Sto → Prop) (pos : Pos) (wh : Sem Value) (Q : Bool → Shared → Prop),
    InE C N A h₀ env L → KsOK ks env → tsO O n ces ρ σ k → St C h₀ L env as fz ρ σ s → RetBOK C h₀ L env as fz ρ k Q → wpAny (model C.prog C.w) A (isTrue (.BoolOp .Or es pos) env wh) Q noE s
/-- a display's pairs: the keys' values, the pairs -/
inductive PairsR (as : List Addr) (fz : Cells) : List (Value × Value) → List (Txt × PV) → Prop
  | nil : PairsR as fz [] []
  | cons {x : Str} {t : Tok} {v : Value} {d : PV} {vs : List (Value × Value)} {ds : List (Txt × PV)} : VR as fz v d → PairsR as fz vs ds → PairsR as fz ((.str x t, v) :: vs) ((sT x, d) :: ds)
noncomputable def GD (n : Nat) : Prop := ∀ (C : Cx), OKs C N gt O → ∀ (ks : Kinds) (m : Nat) (keys : List (Option Expr)) (vs : List Expr) (ces : List (Txt × CE)), cDs gt ks m keys vs = some ces →
  ∀ (A : Around) (h₀ : Heap) (env : Env) (L : Addr) (as : List Addr) (fz : Cells) (ρ : Loc) (σ : Sto) (s : Shared) (k : List (Txt × PV) → Sto → Prop) (pos : Pos) (Q : List (Value × Value) → Shared → Prop),
    InE C N A h₀ env L → KsOK ks env → evD O n ces ρ σ k → St C h₀ L env as fz ρ σ s →
    (∀ ps ds as' fz' σ' s', k ds σ' → Ext as fz as' fz' → St C h₀ L env as' fz' ρ σ' s' → PairsR as' fz' ps ds → Q ps s') → wpAny (model C.prog C.w) A (evalPairs (pairTrees keys vs env pos)) Q noE s

section
variable {O : Ops} {gt : List (Txt × CE)} {N : Nat}
theorem constC_val {c : Const} {ce : CE} (h : constC c = some ce) : ∃ d, ce = .val d := by
  cases c <;> first | (cases h; exact ⟨_, rfl⟩) | cases h

theorem step_L {n : Nat} (hE : GE O gt N n) (hL : GL O gt N n) : GL O gt N (n + 1) := by
  intro C H ks m es ces hc A h₀ env L as fz ρ σ s k pos Q F hks h S ret
  cases es with
  | nil =>
    cases cEs_nil hc
    exact spliced_nil (ret _ _ _ _ _ _ h (Ext.refl _ _) S .nil)
  | cons e r =>
    obtain ⟨m', ce, cr, rfl, h1, h2, h3, rfl⟩ := cEs_cons hc
    rw [star_cons h1]
    refine spliced_cons (hE C H ks m' e ce h2 A h₀ env L as fz ρ σ s _ _ F hks h S ?_)
    intro v d as1 fz1 σ1 s1 k1 x1 S1 R1
    refine hL C H ks m' r cr h3 A h₀ env L as1 fz1 ρ σ1 s1 _ pos _ F hks k1 S1 ?_
    intro vs ds as2 fz2 σ2 s2 k2 x2 S2 R2
    exact ret _ _ _ _ _ _ k2 (x1.trans x2) S2 (.cons (R1.mono x2) R2)
theorem step_A {n : Nat} (hE : GE O gt N n) (hA : GA O gt N n) : GA O gt N (n + 1) := by
  intro C H ks m es ces hc A h₀ env L as fz ρ σ s k pos Q F hks h S ret
  cases es with
  | nil => cases cEs_nil hc; exact h.elim
  | cons e r =>
    obtain ⟨m', ce, cr, rfl, h1, h2, h3, rfl⟩ := cEs_cons hc
    cases r with
    | nil =>
      cases cEs_nil h3
      exact BoolOp_one (hE C H ks m' e ce h2 A h₀ env L as fz ρ σ s _ _ F hks h S ret)
    | cons e2 r =>
      obtain ⟨m2, ce2, cr2, rfl, _, _, _, rfl⟩ := cEs_cons h3
      refine BoolOp_and (hE C H ks _ e ce h2 A h₀ env L as fz ρ σ s _ _ F hks h S ?_)
      intro v d as1 fz1 σ1 s1 k1 x1 S1 R1
      cases d with
      | bool b =>
        cases R1.bool_inv
        cases b with
        | true => exact wpAny_truthy_bool (hA C H ks _ _ _ h3 A h₀ env L as1 fz1 ρ σ1 s1 _ pos _ F hks k1 S1 (ret.ext x1))
        | false => exact wpAny_truthy_bool (ret _ _ _ _ _ _ k1 x1 S1 R1)
      | _ => exact k1.elim
theorem step_O {n : Nat} (hE : GE O gt N n) (hO : GO O gt N n) : GO O gt N (n + 1) := by
  intro C H ks m es ces hc A h₀ env L as fz ρ σ s k pos Q F hks h S ret
  cases es with
  | nil => cases cEs_nil hc; exact h.elim
  | cons e r =>
    obtain ⟨m', ce, cr, rfl, h1, h2, h3, rfl⟩ := cEs_cons hc
    cases r with
    | nil =>
      cases cEs_nil h3
      exact BoolOp_one (hE C H ks m' e ce h2 A h₀ env L as fz ρ σ s _ _ F hks h S ret)
    | cons e2 r =>
      obtain ⟨m2, ce2, cr2, rfl, _, _, _, rfl⟩ := cEs_cons h3
      refine BoolOp_or (hE C H ks _ e ce h2 A h₀ env L as fz ρ σ s _ _ F hks h S ?_)
      intro v d as1 fz1 σ1 s1 k1 x1 S1 R1
      cases d with
      | bool b =>
        cases R1.bool_inv
        cases b with
        | true => exact wpAny_truthy_bool (ret _ _ _ _ _ _ k1 x1 S1 R1)
        | false => exact wpAny_truthy_bool (hO C H ks _ _ _ h3 A h₀ env L as1 fz1 ρ σ1 s1 _ pos _ F hks k1 S1 (ret.ext x1))
      | _ => exact k1.elim
theorem step_TA {n : Nat} (hT : GT O gt N n) (hA : GTA O gt N n) : GTA O gt N (n + 1) := by
  intro C H ks m es ces hc A h₀ env L as fz ρ σ s k pos wh Q F hks h S ret
  cases es with
  | nil => cases cEs_nil hc; exact isTrue_and_nil (ret _ _ _ _ _ h (Ext.refl _ _) S)
  | cons e r =>
    obtain ⟨m', ce, cr, rfl, h1, h2, h3, rfl⟩ := cEs_cons hc
    refine isTrue_and (hT C H ks m' e ce h2 A h₀ env L as fz ρ σ s _ _ F hks h S ?_)
    intro b as1 fz1 σ1 s1 k1 x1 S1
    cases b with
    | true => exact hA C H ks m' r cr h3 A h₀ env L as1 fz1 ρ σ1 s1 _ pos wh _ F hks k1 S1 (ret.ext x1)
    | false => exact ret _ _ _ _ _ k1 x1 S1
theorem step_TO {n : Nat} (hT : GT O gt N n) (hA : GTO O gt N n) : GTO O gt N (n + 1) := by
  intro C H ks m es ces hc A h₀ env L as fz ρ σ s k pos wh Q F hks h S ret
  cases es with
  | nil => cases cEs_nil hc; exact isTrue_or_nil (ret _ _ _ _ _ h (Ext.refl _ _) S)
  | cons e r =>
    obtain ⟨m', ce, cr, rfl, h1, h2, h3, rfl⟩ := cEs_cons hc
    refine isTrue_or (hT C H ks m' e ce h2 A h₀ env L as fz ρ σ s _ _ F hks h S ?_)
    intro b as1 fz1 σ1 s1 k1 x1 S1
    cases b with
    | false => exact hA C H ks m' r cr h3 A h₀ env L as1 fz1 ρ σ1 s1 _ pos wh _ F hks k1 S1 (ret.ext x1)
    | true => exact ret _ _ _ _ _ k1 x1 S1
theorem strKey_of {k : Option Expr} {x : Txt} (h : strKey? k = some x) : ∃ y kk p, k = some (.Constant (.str y) kk p) ∧ x = sT y := by
  cases k with
  | none => cases h
  | some e => cases e with
    | Constant c kk p => cases c <;> first | (cases h; exact ⟨_, _, _, rfl, rfl⟩) | cases h
    | _ => cases h
theorem cDs_cons {ks : Kinds} {m : Nat} {k : Option Expr} {l : List (Option Expr)} {v : Expr} {vs : List Expr} {ces : List (Txt × CE)} (h : cDs gt ks m (k :: l) (v :: vs) = some ces) :
    ∃ m' y kk p ce cr, m = m' + 1 ∧ k = some (.Constant (.str y) kk p) ∧ cE gt ks m' v = some ce ∧ cDs gt ks m' l vs = some cr ∧ ces = (sT y, ce) :: cr := by
  cases m with
  | zero => cases h
  | succ m =>
    obtain ⟨a, h1, h⟩ := ob_inv h
    obtain ⟨b, c, h2, h3, rfl⟩ := o2_inv h
    obtain ⟨y, kk, p, rfl, rfl⟩ := strKey_of h1
    exact ⟨m, y, kk, p, b, c, rfl, rfl, h2, h3, rfl⟩
theorem cDs_shape {ks : Kinds} : ∀ {m : Nat} {l : List (Option Expr)} {vs : List Expr} {ces : List (Txt × CE)}, cDs gt ks m l vs = some ces → l.all (·.isSome) = true ∧ l.length = vs.length ∧ ces.length = l.length
  | 0, _, _, _, h => by cases h
  | m + 1, [], [], ces, h => by cases h; exact ⟨rfl, rfl, rfl⟩
  | m + 1, [], _ :: _, ces, h => by cases h
  | m + 1, _ :: _, [], ces, h => by cases h
  | m + 1, k :: l, v :: vs, ces, h => by
    obtain ⟨m', y, kk, p, ce, cr, e, rfl, _, h2, rfl⟩ := cDs_cons h
    obtain ⟨i1, i2, i3⟩ := cDs_shape h2
    exact ⟨by simpa using i1, by simp [i2], by simp [i3]⟩
theorem step_D {n : Nat} (hE : GE O gt N n) (hD : GD O gt N n) : GD O gt N (n + 1) := by
  intro C H ks m keys vs ces hc A h₀ env L as fz ρ σ s k pos Q F hks h S ret
  cases keys with
  | nil =>
    cases vs with
    | nil =>
      cases m with
      | zero => cases hc
      | succ m =>
        cases hc
        exact evalPairs_nil (ret _ _ _ _ _ _ h (Ext.refl _ _) S .nil)
    | cons v vs => have := (cDs_shape hc).2.1; simp at this
  | cons key keys =>
    cases vs with
    | nil => have := (cDs_shape hc).2.1; simp at this
    | cons v vs =>
      obtain ⟨m', y, kk, p, ce, cr, rfl, rfl, h2, h3, rfl⟩ := cDs_cons hc
      refine evalPairs_cons (Constant_str (wpAny_bind (wpAny_mono (hE C H ks m' v ce h2 A h₀ env L as fz ρ σ _ _ _ F hks h (S.toks _) ?_) (fun x s1 hx => wpAny_bind (wpAny_standAt (wpAny_pure hx))) fun _ _ e => e)))
      intro v' d as1 fz1 σ1 s1 k1 x1 S1 R1
      refine hD C H ks m' keys vs cr h3 A h₀ env L as1 fz1 ρ σ1 s1 _ pos _ F hks k1 S1 ?_
      intro ps ds as2 fz2 σ2 s2 k2 x2 S2 R2
      exact ret _ _ _ _ _ _ k2 (x1.trans x2) S2 (.cons (R1.mono x2) R2)
end
end
section
section
variable {O : Ops} {gt : List (Txt × CE)} {N : Nat}

theorem PairsR.len {as : List Addr} {fz : Cells} {ps : List (Value × Value)} {ds : List (Txt × PV)} (h : PairsR as fz ps ds) : ps.length = ds.length := by
  induction h with
  | nil => rfl
  | cons _ _ ih => simp [ih]
theorem PairsR.mono {as as' : List Addr} {fz fz' : Cells} (x : Ext as fz as' fz') {ps : List (Value × Value)} {ds : List (Txt × PV)} (h : PairsR as fz ps ds) : PairsR as' fz' ps ds := by
  induction h with
  | nil => exact .nil
  | cons h _ ih => exact .cons (h.mono x) ih

/-- a display's stores, on an object held -/
theorem r_storeAll {C : Cx} {A : Around} {h₀ : Heap} {env : Env} {L : Addr} {as : List Addr} {fz : Cells} {ρ : Loc} {σ : Sto} {D : Addr} {Q : PUnit → Shared → Prop} (hne : env.locals ≠ D) {ps : List (Value × Value)} {ds : List (Txt × PV)} (R : PairsR as fz ps ds) : ∀ (acc : List (Txt × PV)) (kvs : List (Str × Value)) (s : Shared) (o : Obj),
    KVR as fz kvs acc → o.IsDictOf (strKind C.prog C.w) kvs → kvs.length + ps.length ≤ 500 → St { C with hid := (D, o) :: C.hid } h₀ L env as fz ρ σ s →
    (∀ s' o' kvs', St { C with hid := (D, o') :: C.hid } h₀ L env as fz ρ σ s' → o'.IsDictOf (strKind C.prog C.w) kvs' → KVR as fz kvs' (putAll acc ds) → kvs'.length ≤ kvs.length + ps.length → Q PUnit.unit s') → wpAny (model C.prog C.w) A (storeAll D ps) Q noE s := by
  induction R with
  | nil => exact fun acc kvs s o r hd _ S h => wpAny_pure (h s o kvs S hd r (Nat.le_refl _))
  | @cons x t v d ps ds hv hr ih =>
    intro acc kvs s o r hd hz S h
    have hD : s.heap.get? D = some o := (S.beside hne (h' := s.heap) fun _ _ _ e => e).1.1
    have nd : (kvs.map (·.1)).Nodup := keys_nodup hd
    rw [List.length_cons] at hz
    unfold storeAll
    rw [List.forIn_cons]
    refine wpAny_bind (wpAny_bind (wpAny_dictSet_pairs (hsz := by rw [sizeLine_eq]; omega) (strKind_is C.prog C.w x t) (Heap.dictOf_iff.mpr ⟨o, hD, hd⟩) fun h' hm hs => ?_))
    refine wpAny_pure ?_
    obtain ⟨o', ho', hd'⟩ := Heap.dictOf_iff.mp hm
    have S' := S.rehide (tk := s.toks + 1) hne (fun b ob hb e => hs.extBut b ob hb e) ho'
    have hl : (stored kvs x v).length ≤ kvs.length + 1 := by unfold stored; split <;> simp
    refine ih (stL (sT x) d acc) (stored kvs x v) _ o' (r.put hv nd) hd' (sa1 hz hl) S' fun s' o'' kvs' S'' hd'' r'' hl'' => h s' o'' kvs' S'' hd'' r'' (by rw [List.length_cons]; exact sa2 hl hl'')

/-- the values as tests -/
theorem r_plainTest {n : Nat} {C : Cx} {ks : Kinds} {m : Nat} {e : Expr} {ce : CE} {A : Around} {h₀ : Heap} {env : Env} {L : Addr} {as : List Addr} {fz : Cells} {ρ : Loc} {σ : Sto} {s : Shared} {k : Bool → Sto → Prop} {Q : Bool → Shared → Prop}
    (hE : GE O gt N n) (H : OKs C N gt O) (hc : cE gt ks m e = some ce) (F : InE C N A h₀ env L) (hks : KsOK ks env) (h : evC O n ce ρ σ fun d σ => onB d fun b => k b σ) (S : St C h₀ L env as fz ρ σ s) (ret : RetBOK C h₀ L env as fz ρ k Q)
    (he : isTrue e env (eval e env) = (do let v ← eval e env; standAt e.pos; holding [v] (truthy v))) : wpAny (model C.prog C.w) A (isTrue e env (eval e env)) Q noE s := by
  refine isTrue_plain (hE C H ks m e ce hc A h₀ env L as fz ρ σ s _ _ F hks h S ?_) he
  intro v d as1 fz1 σ1 s1 k1 x1 S1 R1
  obtain ⟨b, rfl, hk⟩ := onB_inv k1
  cases R1.bool_inv
  exact wpAny_truthy_bool (ret _ _ _ _ _ hk x1 S1)

theorem cE_bool {ks : Kinds} {m : Nat} {op : BoolOp} {es : List Expr} {p : Pos} {ce : CE} (h : cE gt ks m (.BoolOp op es p) = some ce) : ∃ m' ces, cEs gt ks m' es = some ces ∧ ce = boolC op ces := by
  cases m with
  | zero => cases h
  | succ m =>
    obtain ⟨_, h⟩ := gd_inv h
    obtain ⟨ces, h1, h2⟩ := o1_inv h
    exact ⟨m, ces, h1, h2⟩
theorem cE_un {ks : Kinds} {m : Nat} {op : UnaryOp} {x : Expr} {p : Pos} {ce : CE} (h : cE gt ks m (.UnaryOp op x p) = some ce) : ∃ m' f c, unC op = some f ∧ cE gt ks m' x = some c ∧ ce = f c := by
  cases m with
  | zero => cases h
  | succ m =>
    obtain ⟨f, h0, h⟩ := ob_inv h
    obtain ⟨c, h1, h2⟩ := o1_inv h
    exact ⟨m, f, c, h0, h1, h2⟩
theorem cE_ite {ks : Kinds} {m : Nat} {a b c : Expr} {p : Pos} {ce : CE} (h : cE gt ks m (.IfExp a b c p) = some ce) : ∃ m' x y z, cE gt ks m' a = some x ∧ cE gt ks m' b = some y ∧ cE gt ks m' c = some z ∧ ce = .ite x y z := by
  cases m with
  | zero => cases h
  | succ m =>
    obtain ⟨x, h1, h⟩ := ob_inv h
    obtain ⟨y, z, h2, h3, h4⟩ := o2_inv h
    exact ⟨m, x, y, z, h1, h2, h3, h4⟩
theorem cE_cmp {ks : Kinds} {m : Nat} {l : Expr} {ops : List CmpOp} {rs : List Expr} {p : Pos} {ce : CE} (h : cE gt ks m (.Compare l ops rs p) = some ce) :
    ∃ m' op r a b, ops = [op] ∧ rs = [r] ∧ notSet r = true ∧ cE gt ks m' l = some a ∧ cE gt ks m' r = some b ∧ ce = .cmp op a b := by
  cases m with
  | zero => cases h
  | succ m =>
    obtain ⟨op, h1, h⟩ := ob_inv h
    obtain ⟨r, h2, h⟩ := ob_inv h
    obtain ⟨h3, h⟩ := gd_inv h
    obtain ⟨a, b, h4, h5, h6⟩ := o2_inv h
    exact ⟨m, op, r, a, b, one_inv h1, one_inv h2, h3, h4, h5, h6⟩
theorem isZ_of {i : Int} (h : isZ i = true) : i = 0 := by
  cases i with
  | ofNat n => cases n with
    | zero => rfl
    | succ => cases h
  | negSucc => cases h
theorem attr_some {f o : Expr} {x : Str} {p : Pos} (h : attr? f = some (o, x, p)) : f = .Attribute o x p := by
  cases f <;> first | (cases h; rfl) | cases h
theorem slice_some {i : Expr} {a b c : Option Expr} (h : slice? i = some (a, b, c)) : ∃ p, i = .Slice a b c p := by
  cases i <;> first | (cases h; exact ⟨_, rfl⟩) | cases h
theorem attr_none {f : Expr} (h : attr? f = none) : ∀ o x p, f ≠ .Attribute o x p := by
  intro o x p q; subst q; cases h
theorem slice_none {f : Expr} (h : slice? f = none) : ∀ a b c p, f ≠ .Slice a b c p := by
  intro a b c p q; subst q; cases h
theorem none_of {α : Type} {x : Option α} (h : isNone' x = true) : x = none := by
  cases x with
  | none => rfl
  | some => cases h
/-- what a compiled expression of another kind is not -/
noncomputable def CE.plain : CE → Bool
  | .and _ => false
  | .or _ => false
  | .not _ => false
  | .ite _ _ _ => false
  | _ => true
noncomputable def testKind : Expr → Bool
  | .BoolOp .. => false
  | .UnaryOp .Not _ _ => false
  | .IfExp .. => false
  | .Compare .. => false
  | _ => true
theorem tsC_plain {n : Nat} {ce : CE} {ρ : Loc} {σ : Sto} {k : Bool → Sto → Prop} (hp : ce.plain = true) (h : tsC O (n + 1) ce ρ σ k) : evC O n ce ρ σ fun d σ => onB d fun b => k b σ := by
  cases ce <;> first | exact h | cases hp
theorem isTrue_kind {e : Expr} {env : Env} {w : Sem Value} (h : testKind e = true) : isTrue e env w = (do let v ← w; standAt e.pos; holding [v] (truthy v)) := by
  cases e with
  | UnaryOp op => cases op <;> first | rfl | cases h
  | _ => first | rfl | cases h
end
end
section
section
variable {O : Ops} {gt : List (Txt × CE)} {N : Nat}

theorem mkOf_inv {d : PV} {x : Txt} {σ : Sto} {r : Nat × MK} (h : mkOf O d x σ = some r) : ∃ j, d = .obj j ∧
    ((∃ D es f, sget σ j = some (.inst D es) ∧ lk x es = none ∧ lkM D x O.MT = some f ∧ r = (j, .fn f)) ∨
     (∃ l, sget σ j = some (.list l) ∧ lmOK x = true ∧ r = (j, .lst)) ∨ (∃ l, sget σ j = some (.dict l) ∧ dmOK x = true ∧ r = (j, .dic))) := by
  cases d with
  | obj j =>
    obtain ⟨o, h1, h2⟩ := ob_inv h
    refine ⟨j, rfl, ?_⟩
    cases o with
    | inst D es =>
      obtain ⟨h3, h4⟩ := gd_inv h2
      obtain ⟨f, h5, h6⟩ := o1_inv h4
      refine .inl ⟨D, es, f, h1, ?_, h5, h6⟩
      cases e : lk x es with
      | none => rfl
      | some => rw [e] at h3; cases h3
    | list l =>
      obtain ⟨h3, h4⟩ := gd_inv h2
      cases h4
      exact .inr (.inl ⟨l, h1, h3, rfl⟩)
    | dict l =>
      obtain ⟨h3, h4⟩ := gd_inv h2
      cases h4
      exact .inr (.inr ⟨l, h1, h3, rfl⟩)
  | _ => cases h
theorem callP_inv {d : PV} {ds : List PV} {σ : Sto} {k : Kont} (h : callP O d ds σ k) : ∃ f, d = .val (.ref f) ∧ O.CL f ds σ k := by
  cases d with
  | val v => cases v with
    | ref f => exact ⟨f, rfl, h⟩
    | _ => exact h.elim
  | _ => exact h.elim
theorem cE_name {ks : Kinds} {m : Nat} {x : Str} {p : Pos} {ce : CE} (h : cE gt ks (m + 1) (.Name x p) = some ce) :
    teq (sT x) tDebug = false ∧ ∃ kd, lkK (sT x) ks = some kd ∧ nameC gt (sT x) kd = some ce := by
  obtain ⟨h1, h2⟩ := gd_inv h
  exact ⟨not_tt h1, ob_inv h2⟩
theorem cE_call {ks : Kinds} {m : Nat} {f : Expr} {as : List Expr} {kws : List Keyword} {p : Pos} {ce : CE} (h : cE gt ks (m + 1) (.Call f as kws p) = some ce) : kws = [] ∧
    ((∃ o x ap co cas, f = .Attribute o x ap ∧ notSuper o = true ∧ Nat.beq ap.endLine p.line = true ∧ few as.length = true ∧ cE gt ks m o = some co ∧ cEs gt ks m as = some cas ∧ ce = .met co (sT x) cas) ∨
     ((∀ o x q, f ≠ .Attribute o x q) ∧ ∃ cf cas, cE gt ks m f = some cf ∧ cEs gt ks m as = some cas ∧ ce = callC cf cas)) := by
  obtain ⟨h1, h⟩ := gd_inv h
  refine ⟨nil_of h1, ?_⟩
  rcases oe_inv h with ⟨⟨o, x, ap⟩, h2, h⟩ | ⟨h2, h⟩
  · obtain ⟨h3, h⟩ := gd_inv h
    obtain ⟨h4, h⟩ := gd_inv h
    obtain ⟨h5, h⟩ := gd_inv h
    obtain ⟨co, cas, h6, h7, h8⟩ := o2_inv h
    exact .inl ⟨o, x, ap, co, cas, attr_some h2, h3, h4, h5, h6, h7, h8⟩
  · exact .inr ⟨attr_none h2, o2_inv h⟩
theorem cE_sub {ks : Kinds} {m : Nat} {v i : Expr} {p : Pos} {ce : CE} (h : cE gt ks (m + 1) (.Subscript v i p) = some ce) :
    (∃ a b q lo hi cv, i = .Slice a b none q ∧ intOf? a = some lo ∧ intOf? b = some hi ∧ cE gt ks m v = some cv ∧ ce = .slc cv lo hi) ∨
     ((∀ a b c q, i ≠ .Slice a b c q) ∧ ∃ cv ci, cE gt ks m v = some cv ∧ cE gt ks m i = some ci ∧ ce = .sub cv ci) := by
  rcases oe_inv h with ⟨⟨a, b, c⟩, h2, h⟩ | ⟨h2, h⟩
  · obtain ⟨q, rfl⟩ := slice_some h2
    obtain ⟨h3, h⟩ := gd_inv h
    cases none_of h3
    obtain ⟨lo, h4, h⟩ := ob_inv h
    obtain ⟨hi, h5, h⟩ := ob_inv h
    obtain ⟨cv, h6, h7⟩ := o1_inv h
    exact .inl ⟨a, b, q, lo, hi, cv, rfl, h4, h5, h6, h7⟩
  · exact .inr ⟨slice_none h2, o2_inv h⟩
theorem noargs {n m : Nat} {ks : Kinds} {as : List Expr} {cas : List CE} (h2 : cEs gt ks m as = some cas) {ρ : Loc} {σ : Sto} {k' : List PV → Sto → Prop} (e : as = []) (h : evL O n cas ρ σ k') : k' [] σ := by
  subst e
  cases cEs_nil h2
  cases n with
  | zero => exact h.elim
  | succ n' => exact h

section
variable {n m : Nat} {C : Cx} {ks : Kinds} {A : Around} {h₀ : Heap} {env : Env} {L : Addr} {as : List Addr} {fz : Cells} {ρ : Loc} {σ : Sto} {s : Shared} {k : Kont} {Q : Value → Shared → Prop}
theorem step_dict (hD : GD O gt N n) (H : OKs C N gt O) {keys : List (Option Expr)} {vals : List Expr} {pp : Pos} {ces : List (Txt × CE)} (hkl : Nat.ble keys.length 15 = true) (h1 : cDs gt ks m keys vals = some ces)
    (F : InE C N A h₀ env L) (hks : KsOK ks env) (h : evC O (n + 1) (.dic ces) ρ σ k) (S : St C h₀ L env as fz ρ σ s) (ret : RetOK C h₀ L env as fz ρ k Q) : wpAny (model C.prog C.w) A (eval (.Dict keys vals pp) env) Q noE s := by
  have hlen : keys.length ≤ 15 := Nat.le_of_ble_eq_true hkl
  obtain ⟨c1, c2, c3⟩ := cDs_shape h1
  have dnew : ({ cls := .type "dict", data := .dict #[] } : Obj).IsDictOf (strKind C.prog C.w) [] := by
    obtain ⟨o, ho, hd⟩ := Heap.dictOf_iff.mp (Heap.DictOf.new (knd := strKind C.prog C.w) s.heap)
    rw [Heap.get?_push_size _ rfl] at ho
    cases ho; exact hd
  have nsm : ∀ {s1 : Shared} {as1 : List Addr} {fz1 : Cells} {σ1 : Sto} {o : Obj}, St { C with hid := (s.heap.objs.size, o) :: C.hid } h₀ L env as1 fz1 ρ σ1 s1 → (s.heap.objs.size == sysModules) = false := by
    intro s1 as1 fz1 σ1 o S1
    obtain ⟨m, Fm⟩ := S.fr
    exact Fr.notModules Fm F.low
  obtain ⟨S0, hne⟩ := S.hide { cls := .type "dict", data := .dict #[] }
  cases keys with
  | nil =>
    cases vals with
    | cons => simp at c2
    | nil =>
      have hc2 : ces = [] := List.length_eq_zero_iff.mp c3
      subst hc2
      refine wpAny_Dict_empty ?_
      cases n with
      | zero => exact h.elim
      | succ n' =>
      obtain ⟨x, R, S'⟩ := S0.adopt (tk := s.toks) (po := .dict []) hne (fun _ _ _ e => e) (Heap.get?_push_size _ rfl) (.dict dnew .nil (nsm S0) (Nat.zero_le _))
      exact ret _ _ _ _ _ _ h.2 x S' R
  | cons key keys =>
    have hcase : (key :: keys) ≠ [] := by simp
    generalize key :: keys = kk at *
    refine wpAny_Dict_any c1 c2 hcase hlen ?_
    refine hD { C with hid := (s.heap.objs.size, { cls := .type "dict", data := .dict #[] }) :: C.hid } H.hid ks m _ _ _ h1 A h₀ env L as fz ρ σ _ _ _ _ F.hid hks h S0 ?_
    intro ps ds as1 fz1 σ1 s1 k1 x1 S1 R1
    refine r_storeAll hne R1 [] [] s1 _ .nil dnew (by rw [R1.len, List.length_nil]; have := k1.1; omega) S1 ?_
    intro s' o' kvs' S' hd' r' hl'
    have hD' : s'.heap.get? s.heap.objs.size = some o' := (S'.beside hne (h' := s'.heap) fun _ _ _ e => e).1.1
    have hlen' : (putAll [] ds).length ≤ 1000 := by rw [← r'.len]; rw [R1.len, List.length_nil] at hl'; have := k1.1; omega
    have x2 : Ext as1 fz1 (as1 ++ [s.heap.objs.size]) fz1 := ⟨fun k a e => by rw [List.getElem?_append_left (List.getElem?_eq_some_iff.mp e).1]; exact e, fun _ h => h⟩
    obtain ⟨x, R, S2⟩ := S'.adopt (tk := s'.toks) (po := .dict (putAll [] ds)) hne (fun _ _ _ e => e) hD' (.dict hd' (r'.mono x2) (nsm S0) hlen')
    exact ret _ _ _ _ _ _ k1.2 (x1.trans x) S2 R

theorem step_met (hE : GE O gt N n) (hL : GL O gt N n) (H : OKs C N gt O) {o : Expr} {x : Str} {ap pp : Pos} {as' : List Expr} {co : CE} {cas : List CE} (hns : notSuper o = true) (hln : Nat.beq ap.endLine pp.line = true) (hfw : few as'.length = true)
    (h1 : cE gt ks m o = some co) (h2 : cEs gt ks m as' = some cas) (F : InE C N A h₀ env L) (hks : KsOK ks env) (h : evC O (n + 1) (.met co (sT x) cas) ρ σ k) (S : St C h₀ L env as fz ρ σ s) (ret : RetOK C h₀ L env as fz ρ k Q) :
    wpAny (model C.prog C.w) A (eval (.Call (.Attribute o x ap) as' [] pp) env) Q noE s := by
  obtain ⟨A₀, base, outer, fenv, FF, V⟩ := id F
  refine r_method hns hln hfw h2 (hE C H ks m _ _ h1 A h₀ env L as fz ρ σ s _ _ F hks h S ?_)
  intro v d as1 fz1 σ1 s1 k1 x1 S1 R1 pl
  obtain ⟨⟨j, mk⟩, hmk, hk1⟩ := onM_inv k1
  obtain ⟨j', rfl, ⟨Cc, es, f', e1, hlk, hf, q⟩ | ⟨l, e1, hlm, q⟩ | ⟨l, e1, hlm, q⟩⟩ := mkOf_inv hmk
  · cases q
    obtain ⟨a, rfl, hk'⟩ := R1.obj_inv
    obtain ⟨g1, g2, g3, g4⟩ := H.mt _ _ _ hf
    rw [tS_sT] at g1 g2
    obtain ⟨a', c, ha, ho, hc', _⟩ := S1.one e1
    rw [hk'] at ha; cases ha
    obtain ⟨mm, Fm⟩ := S1.fr
    cases ho with
    | inst r _ =>
      refine method_inst (ox := instObj Cc _) Fm FF.X ⟨hc' _ (.head _), rfl, rfl, hc' _ (.tail _ (.head _))⟩ g1 g2 g3 (r.miss hlk) ?_
      refine r_callWith h2 (fun e => ⟨keeper_fn g4 (F.In S1), ?_⟩) (hL C H ks m _ _ h2 A h₀ env L as1 fz1 ρ σ1 s1 _ _ _ F hks hk1 S1 ?_)
      · exact (H.cl C.hid C.kp C.kpm _ _ _ _ (noargs h2 e hk1)).2 A h₀ env L as1 fz1 ρ s1 _ _ F S1 (.cons R1 .nil) (ret.ext x1)
      · intro vs ds as2 fz2 σ2 s2 k2 x2 S2 R2
        exact ⟨keeper_fn g4 (F.In S2), (H.cl C.hid C.kp C.kpm _ _ _ _ k2).2 A h₀ env L as2 fz2 ρ s2 _ _ F S2 (.cons (R1.mono x2) R2) (ret.ext (x1.trans x2))⟩
  · cases q
    obtain ⟨id, hid⟩ := lm_id hlm
    obtain ⟨a, vs', cc, rfl, ha, _⟩ := s_list S1 R1 e1
    refine m_list hid ha ?_
    have go : ∀ {as2 fz2 σ2 s2 us ds}, metL j x.cps.toList ds σ2 k → Ext as1 fz1 as2 fz2 → St C h₀ L env as2 fz2 ρ σ2 s2 → VRs as2 fz2 us ds → wpAny (model C.prog C.w) A (call (.builtin id) (.ref a :: us)) Q noE s2 := by
      intro as2 fz2 σ2 s2 us ds k2 x2 S2 R2
      obtain ⟨l2, e2, k2⟩ := onL_inv k2
      exact c_list S2 (R1.mono x2) e2 hid k2 R2 (ret.ext (x1.trans x2))
    refine r_callWith h2 (fun e => ⟨keeper_machine nofun, ?_⟩) (hL C H ks m _ _ h2 A h₀ env L as1 fz1 ρ σ1 s1 _ _ _ F hks hk1 S1 ?_)
    · exact go (noargs h2 e hk1) (Ext.refl _ _) S1 .nil
    · intro vs ds as2 fz2 σ2 s2 k2 x2 S2 R2
      exact ⟨keeper_machine nofun, go k2 x2 S2 R2⟩
  · cases q
    obtain ⟨id, hid⟩ := dm_id hlm
    obtain ⟨a, kvs, rfl, ha, _, _⟩ := s_dict S1 R1 e1
    refine m_dict hid ha ?_
    have go : ∀ {as2 fz2 σ2 s2 us ds}, metD j x.cps.toList ds σ2 k → Ext as1 fz1 as2 fz2 → St C h₀ L env as2 fz2 ρ σ2 s2 → VRs as2 fz2 us ds → wpAny (model C.prog C.w) A (call (.builtin id) (.ref a :: us)) Q noE s2 := by
      intro as2 fz2 σ2 s2 us ds k2 x2 S2 R2
      obtain ⟨l2, e2, k2⟩ := onD_inv k2
      exact c_dict S2 (R1.mono x2) e2 hid k2 R2 (ret.ext (x1.trans x2))
    refine r_callWith h2 (fun e => ⟨keeper_machine nofun, ?_⟩) (hL C H ks m _ _ h2 A h₀ env L as1 fz1 ρ σ1 s1 _ _ _ F hks hk1 S1 ?_)
    · exact go (noargs h2 e hk1) (Ext.refl _ _) S1 .nil
    · intro vs ds as2 fz2 σ2 s2 k2 x2 S2 R2
      exact ⟨keeper_machine nofun, go k2 x2 S2 R2⟩

theorem step_call (hE : ∀ j, j ≤ n → GE O gt N j) (hL : GL O gt N n) (H : OKs C N gt O) {f : Expr} {pp : Pos} {as' : List Expr} {cf : CE} {cas : List CE} (hna : ∀ o x p, f ≠ .Attribute o x p)
    (h1 : cE gt ks m f = some cf) (h2 : cEs gt ks m as' = some cas) (F : InE C N A h₀ env L) (hks : KsOK ks env) (h : evC O (n + 1) (callC cf cas) ρ σ k) (S : St C h₀ L env as fz ρ σ s) (ret : RetOK C h₀ L env as fz ρ k Q) :
    wpAny (model C.prog C.w) A (eval (.Call f as' [] pp) env) Q noE s := by
  obtain ⟨A₀, base, outer, fenv, FF, V⟩ := id F
  unfold callC at h
  cases hb : biOf? cf with
  | some b =>
    rw [hb] at h
    cases biOf_val hb
    cases n with
    | zero => exact h.elim
    | succ n' =>
    refine r_call hna (hE (n' + 1) (Nat.le_refl _) C H ks m _ _ h1 A h₀ env L as fz ρ σ s (fun d σ => d = .val (biV b) ∧ evL O (n' + 1) cas ρ σ fun ds σ => biP b ds σ k) _ F hks ⟨rfl, h⟩ S ?_)
    rintro v d as1 fz1 σ1 s1 ⟨rfl, k1⟩ x1 S1 R1
    have hv : v = biV b := by cases R1; rfl
    subst hv
    refine r_callWith h2 (fun e => ⟨keeper_machine (biV_ref b), ?_⟩) (hL C H ks m _ _ h2 A h₀ env L as1 fz1 ρ σ1 s1 _ _ _ F hks k1 S1 ?_)
    · exact s_bi FF (noargs h2 e k1) S1 .nil (ret.ext x1)
    · intro vs ds as2 fz2 σ2 s2 k2 x2 S2 R2
      exact ⟨keeper_machine (biV_ref b), s_bi FF k2 S2 R2 (ret.ext (x1.trans x2))⟩
  | none =>
    rw [hb] at h
    refine r_call hna (hE n (Nat.le_refl _) C H ks m _ _ h1 A h₀ env L as fz ρ σ s _ _ F hks h S ?_)
    intro v d as1 fz1 σ1 s1 k1 x1 S1 R1
    have cut : ∀ {as2 fz2 σ2 s2 us ds}, callP O d ds σ2 k → Ext as1 fz1 as2 fz2 → St C h₀ L env as2 fz2 ρ σ2 s2 → VRs as2 fz2 us ds → KeeperOK (model C.prog C.w) v s2.heap ∧ wpAny (model C.prog C.w) A (call v us) Q noE s2 := by
      intro as2 fz2 σ2 s2 us ds k2 x2 S2 R2
      obtain ⟨f', rfl, hk2⟩ := callP_inv k2
      have hv : v = .ref f' := by cases R1; rfl
      subst hv
      have g := H.cl C.hid C.kp C.kpm _ _ _ _ hk2
      exact ⟨keeper_fn g.1 (F.In S2), g.2 A h₀ env L as2 fz2 ρ s2 _ _ F S2 R2 (ret.ext (x1.trans x2))⟩
    refine r_callWith h2 (fun e => cut (noargs h2 e k1) (Ext.refl _ _) S1 .nil) (hL C H ks m _ _ h2 A h₀ env L as1 fz1 ρ σ1 s1 _ _ _ F hks k1 S1 ?_)
    intro vs ds as2 fz2 σ2 s2 k2 x2 S2 R2
    exact cut k2 x2 S2 R2
end

theorem step_E {n : Nat} (hE : ∀ j, j ≤ n → GE O gt N j) (hL : ∀ j, j ≤ n → GL O gt N j) (hA : GA O gt N n) (hO : GO O gt N n) (hD : GD O gt N n) (hT : GT O gt N n)
    (hC : ∀ elt gens sc pos, GEat O gt N (n + 1) (.ListComp elt gens sc pos)) : GE O gt N (n + 1) := by
  intro C H ks m e ce hc A h₀ env L as fz ρ σ s k Q F hks h S ret
  cases m with
  | zero => cases hc
  | succ m =>
  have hEn := hE n (Nat.le_refl _)
  have hLn := hL n (Nat.le_refl _)
  obtain ⟨A₀, base, outer, fenv, FF, V⟩ := id F
  cases e with
  | Constant c a p =>
    have hc : constC c = some ce := hc
    obtain ⟨d, rfl⟩ := constC_val hc
    exact e_const hc rfl h S ret
  | Name x p =>
    obtain ⟨hdb, kd, hkk, hcn⟩ := cE_name hc
    have loc : evC O (n + 1) (.loc (sT x)) ρ σ k → wpAny (model C.prog C.w) A (eval (.Name x p) env) Q noE s := by
      intro h
      obtain ⟨d, hd, hk⟩ := onV_inv h
      exact e_loc V hdb hd hk S ret
    cases kd with
    | «local» => cases hcn; exact loc h
    | cell => cases hcn; exact loc h
    | free => cases hcn; exact loc h
    | globalImplicit =>
      have g := H.gt _ _ hcn
      obtain ⟨d, v, rfl, _⟩ := id g
      exact e_glob FF V hdb (hks _ _ hkk nofun) g rfl h S ret
    | _ => cases hcn
  | BoolOp op es p =>
    obtain ⟨m', ces, h1, rfl⟩ := cE_bool hc
    cases op with
    | And => exact hA C H ks m' _ ces h1 A h₀ env L as fz ρ σ s _ _ _ F hks h S ret
    | Or => exact hO C H ks m' _ ces h1 A h₀ env L as fz ρ σ s _ _ _ F hks h S ret
  | BinOp l op r p =>
    obtain ⟨ca, cb, h1, h2, rfl⟩ := o2_inv hc
    refine wpAny_BinOp (hEn C H ks m _ _ h1 A h₀ env L as fz ρ σ s _ _ F hks h S ?_)
    intro v d as1 fz1 σ1 s1 k1 x1 S1 R1
    refine hEn C H ks m _ _ h2 A h₀ env L as1 fz1 ρ σ1 s1 _ _ F hks k1 S1 ?_
    intro u e as2 fz2 σ2 s2 k2 x2 S2 R2
    exact s_bin k2 S2 (R1.mono x2) R2 (ret.ext (x1.trans x2))
  | UnaryOp op x p =>
    obtain ⟨m', f, c, h0, h1, rfl⟩ := cE_un hc
    cases op with
    | Not =>
      cases h0
      refine UnaryOp_ (hEn C H ks m' _ _ h1 A h₀ env L as fz ρ σ s _ _ F hks h S ?_)
      intro v d as1 fz1 σ1 s1 k1 x1 S1 R1
      obtain ⟨b, rfl, hk⟩ := onB_inv k1
      cases R1.bool_inv
      exact not_of (wpAny_truthy_bool (ret _ _ _ _ _ _ hk x1 S1 (.bool _)))
    | USub =>
      cases h0
      refine UnaryOp_ (hEn C H ks m' _ _ h1 A h₀ env L as fz ρ σ s _ _ F hks h S ?_)
      intro v d as1 fz1 σ1 s1 k1 x1 S1 R1
      obtain ⟨b, rfl, hk⟩ := onI_inv k1
      obtain ⟨t, rfl⟩ := R1.int_inv
      exact PyProof.Rows.neg_int (ret _ _ _ _ _ _ hk x1 (S1.toks _) (.int _ _))
    | _ => cases h0
  | IfExp a b c p =>
    obtain ⟨m', x, y, z, h1, h2, h3, rfl⟩ := cE_ite hc
    refine IfExp_ (hT C H ks m' _ _ h1 A h₀ env L as fz ρ σ s _ _ F hks h S ?_)
    intro b as1 fz1 σ1 s1 k1 x1 S1
    cases b with
    | true => exact hEn C H ks m' _ _ h2 A h₀ env L as1 fz1 ρ σ1 s1 _ _ F hks k1 S1 (ret.ext x1)
    | false => exact hEn C H ks m' _ _ h3 A h₀ env L as1 fz1 ρ σ1 s1 _ _ F hks k1 S1 (ret.ext x1)
  | Tuple es a p =>
    obtain ⟨ces, h1, rfl⟩ := o1_inv hc
    refine Tuple_ (hLn C H ks m _ _ h1 A h₀ env L as fz ρ σ s _ _ _ F hks h S ?_)
    intro vs ds as1 fz1 σ1 s1 k1 x1 S1 R1
    exact r_newTuple S1 R1 (Nat.le_trans k1.1 (Nat.le_of_ble_eq_true rfl)) k1.2 (ret.ext x1)
  | List es p =>
    obtain ⟨ces, h1, rfl⟩ := o1_inv hc
    refine List_ (hLn C H ks m _ _ h1 A h₀ env L as fz ρ σ s _ _ _ F hks h S ?_)
    intro vs ds as1 fz1 σ1 s1 k1 x1 S1 R1
    exact r_newList S1 R1 (Nat.le_trans k1.1 (Nat.le_of_ble_eq_true rfl)) k1.2 (ret.ext x1)
  | Dict keys vals p =>
    obtain ⟨h1, h2⟩ := gd_inv hc
    obtain ⟨ces, h3, rfl⟩ := o1_inv h2
    exact step_dict hD H h1 h3 F hks h S ret
  | Compare l ops rs p =>
    obtain ⟨m', op, r, ca, cb, rfl, rfl, hns, h1, h2, rfl⟩ := cE_cmp hc
    refine wpAny_Compare1 (hEn C H ks m' _ _ h1 A h₀ env L as fz ρ σ s _ _ F hks h S ?_) (behind_of hns)
    intro v d as1 fz1 σ1 s1 k1 x1 S1 R1
    refine hEn C H ks m' _ _ h2 A h₀ env L as1 fz1 ρ σ1 s1 _ _ F hks k1 S1 ?_
    intro u e as2 fz2 σ2 s2 k2 x2 S2 R2
    exact s_cmp FF k2 S2 (R1.mono x2) R2 fun b tk hb => ret _ _ _ _ _ _ hb (x1.trans x2) (S2.toks tk) (.bool b)
  | Subscript v i p =>
    rcases cE_sub hc with ⟨a, b, q, lo, hi, cv, rfl, h1, h2, h3, rfl⟩ | ⟨hns, cv, ci, h1, h2, rfl⟩
    · refine Subscript_ (hEn C H ks m _ _ h3 A h₀ env L as fz ρ σ s _ _ F hks h S ?_)
      intro v d as1 fz1 σ1 s1 k1 x1 S1 R1
      exact s_slc (v := .Constant .none 0 p) FF H.sc h1 h2 k1 S1 R1 (ret.ext x1)
    · refine Subscript_ (hEn C H ks m _ _ h1 A h₀ env L as fz ρ σ s _ _ F hks h S ?_)
      intro v d as1 fz1 σ1 s1 k1 x1 S1 R1
      refine hEn C H ks m _ _ h2 A h₀ env L as1 fz1 ρ σ1 s1 _ _ F hks k1 S1 ?_
      intro u e as2 fz2 σ2 s2 k2 x2 S2 R2
      exact s_item hns k2 S2 (R1.mono x2) R2 (ret.ext (x1.trans x2))
  | Call f as' kws p =>
    obtain ⟨rfl, ⟨o, x, ap, co, cas, rfl, hns, hln, hfw, h1, h2, rfl⟩ | ⟨hna, cf, cas, h1, h2, rfl⟩⟩ := cE_call hc
    · exact step_met hEn hLn H hns hln hfw h1 h2 F hks h S ret
    · exact step_call hE hLn H hna h1 h2 F hks h S ret
  | Attribute v x p =>
    obtain ⟨hns, h0⟩ := gd_inv hc
    obtain ⟨ca, h1, rfl⟩ := o1_inv h0
    refine Attribute_any_ (hEn C H ks m _ _ h1 A h₀ env L as fz ρ σ s _ _ F hks h S ?_) (by rw [arm_eval_Attribute, attributeBase_of hns])
    intro v d as1 fz1 σ1 s1 k1 x1 S1 R1
    exact s_att FF H.att k1 S1 R1 (ret.ext x1)
  | ListComp e gs sc p => exact hC _ _ _ _ C H ks (m + 1) ce hc A h₀ env L as fz ρ σ s k Q F hks h S ret
  | _ => cases hc
end
end
section
/-! ## the target of a binding -/
noncomputable def TgtOK (ks : Kinds) (target : Expr) (xs : List Txt) (one : Bool) : Prop :=
  (one = true ∧ ∃ x p, target = .Name x p ∧ lkK (sT x) ks = some .local ∧ xs = [sT x]) ∨ (one = false ∧ ∃ ts kk p, target = .Tuple ts kk p ∧ namesT ks ts = some xs)

section
variable {C : Cx} {A : Around} {h₀ : Heap} {env : Env} {L : Addr} {as : List Addr} {fz : Cells} {ρ : Loc} {σ : Sto} {s : Shared} {N : Nat}

/-- what stands while names are bound -/
structure Binds (C : Cx) (A : Around) (env : Env) (as : List Addr) (fz : Cells) (Inv : Loc → Shared → Prop) : Prop where
  store : ∀ (x : Str) (v : Value) (d : PV) (ρ : Loc) (s : Shared) (Q : Unit → Shared → Prop), env.kindOf x = some .local → VR as fz v d → Inv ρ s → (∀ s', Inv (stL (sT x) d ρ) s' → Q () s') → wpAny (model C.prog C.w) A (storeName env x v) Q noE s
  grow : ∀ (ρ : Loc) (s : Shared) (h' : Heap), (∀ b ob, s.heap.get? b = some ob → h'.get? b = some ob) → Inv ρ s → Inv ρ { s with heap := h' }
  cells : ∀ (ρ : Loc) (s : Shared), Inv ρ s → ∀ p ∈ fz, s.heap.get? p.1 = some p.2

theorem isKd_of {k : NameKind} {o : Option NameKind} (h : isKd k o = true) : o = some k := by
  cases o with
  | none => cases h
  | some q => rw [of_decide_eq_true h]
theorem locN_inv {ks : Kinds} {x : Str} {t : Txt} (h : locN ks x = some t) : lkK (sT x) ks = some .local ∧ t = sT x := by
  obtain ⟨h1, h2⟩ := gd_inv h
  cases h2
  exact ⟨isKd_of h1, rfl⟩
theorem nameE_inv {ks : Kinds} {e : Expr} {t : Txt} (h : nameE ks e = some t) : ∃ x p, e = .Name x p ∧ lkK (sT x) ks = some .local ∧ t = sT x := by
  cases e with
  | Name x p => obtain ⟨h1, h2⟩ := locN_inv h; exact ⟨x, p, rfl, h1, h2⟩
  | _ => cases h
theorem tgtC_inv {ks : Kinds} {e : Expr} {t : List Txt × Bool} (h : tgtC ks e = some t) : TgtOK ks e t.1 t.2 := by
  cases e with
  | Name x p =>
    obtain ⟨y, h1, rfl⟩ := o1_inv h
    obtain ⟨h2, rfl⟩ := locN_inv h1
    exact .inl ⟨rfl, x, p, rfl, h2, rfl⟩
  | Tuple ts k p =>
    obtain ⟨xs, h1, rfl⟩ := o1_inv h
    exact .inr ⟨rfl, ts, k, p, rfl, h1⟩
  | _ => cases h
theorem namesT_cons {ks : Kinds} {t : Expr} {r : List Expr} {xs : List Txt} (h : namesT ks (t :: r) = some xs) : ∃ x p ys, t = .Name x p ∧ lkK (sT x) ks = some .local ∧ namesT ks r = some ys ∧ xs = sT x :: ys := by
  obtain ⟨x, ys, h1, h2, rfl⟩ := o2_inv h
  obtain ⟨y, p, rfl, h3, rfl⟩ := nameE_inv h1
  exact ⟨y, p, ys, rfl, h3, h2, rfl⟩
theorem stAll_nil {ds : List PV} {ρ ρ' : Loc} (h : stAll [] ds ρ = some ρ') : ds = [] ∧ ρ' = ρ := by
  cases ds with
  | nil => cases h; exact ⟨rfl, rfl⟩
  | cons => cases h
theorem stAll_cons {x : Txt} {xs : List Txt} {ds : List PV} {ρ ρ' : Loc} (h : stAll (x :: xs) ds ρ = some ρ') : ∃ d ds', ds = d :: ds' ∧ stAll xs ds' (stL x d ρ) = some ρ' := by
  cases ds with
  | nil => cases h
  | cons d ds => exact ⟨d, ds, rfl, h⟩
theorem stAll_len {xs : List Txt} : ∀ {ds : List PV} {ρ ρ' : Loc}, stAll xs ds ρ = some ρ' → xs.length = ds.length := by
  induction xs with
  | nil => intro ds ρ ρ' h; rw [(stAll_nil h).1]; rfl
  | cons x xs ih =>
    intro ds ρ ρ' h
    obtain ⟨d, ds', rfl, h⟩ := stAll_cons h
    exact congrArg Nat.succ (ih h)
theorem each_names {ks : Kinds} {ts : List Expr} : ∀ {xs : List Txt}, namesT ks ts = some xs → (assignEach ts env).length = xs.length ∧ (assignEach ts env).findIdx? (·.1) = none := by
  induction ts with
  | nil => intro xs h; cases h; exact ⟨rfl, rfl⟩
  | cons t r ih =>
    intro xs h
    obtain ⟨x, p, ys, rfl, _, h2, rfl⟩ := namesT_cons h
    obtain ⟨i1, i2⟩ := ih h2
    refine ⟨by show (assignEach r env).length + 1 = _; rw [i1]; rfl, ?_⟩
    show List.findIdx? (·.1) ((false, assign (.Name x p) env) :: assignEach r env) = none
    rw [List.findIdx?_cons, i2]; rfl
theorem r_names {Inv : Loc → Shared → Prop} {Q : Unit → Shared → Prop} (B : Binds C A env as fz Inv) {ks : Kinds} (hks : KsOK ks env) {ts : List Expr} : ∀ {xs : List Txt} {vs : List Value} {ds : List PV} {ρ ρ' : Loc} {s : Shared}, namesT ks ts = some xs → VRs as fz vs ds → stAll xs ds ρ = some ρ' → Inv ρ s →
    (∀ s', Inv ρ' s' → Q () s') → wpAny (model C.prog C.w) A (assignInOrder ((assignEach ts env).map (·.2)) vs) Q noE s := by
  induction ts with
  | nil =>
    intro xs vs ds ρ ρ' s h hv hs I ret
    cases h
    obtain ⟨rfl, rfl⟩ := stAll_nil hs
    cases hv
    exact wpAny_pure (ret s I)
  | cons t r ih =>
    intro xs vs ds ρ ρ' s h hv hs I ret
    obtain ⟨x, p, ys, rfl, hk, h2, rfl⟩ := namesT_cons h
    obtain ⟨d, ds', rfl, hs'⟩ := stAll_cons hs
    cases hv with
    | cons hv hr =>
      refine assignInOrder_cons (wpAny_assign_Name (B.store x _ _ ρ s _ (hks _ _ hk nofun) hv I fun s' I' => ?_))
      exact ih h2 hr hs' I' ret
theorem r_bind {Inv : Loc → Shared → Prop} {Q : Unit → Shared → Prop} (B : Binds C A env as fz Inv) {ks : Kinds} (hks : KsOK ks env) (hh : A.handled = none) {target : Expr} {xs : List Txt} {one : Bool} {v : Value} {d : PV} {k : Loc → Prop} (T : TgtOK ks target xs one)
    (h : bindT xs one d ρ k) (hv : VR as fz v d) (I : Inv ρ s) (ret : ∀ ρ' s', k ρ' → Inv ρ' s' → Q () s') : wpAny (model C.prog C.w) A (assign target env v) Q noE s := by
  rcases T with ⟨rfl, x, p, rfl, hk, rfl⟩ | ⟨rfl, ts, kk, p, rfl, hn⟩
  · exact wpAny_assign_Name (B.store x v d ρ s _ (hks _ _ hk nofun) hv I fun s' I' => ret _ _ h I')
  · obtain ⟨ds, rfl, h⟩ := onT_inv h
    obtain ⟨ρ', hst, hk⟩ := onSome_inv h
    obtain ⟨a, vs, n, rfl, ha, r⟩ := hv.tup_inv
    obtain ⟨e1, e2⟩ := each_names (env := env) hn
    refine wpAny_assign_Tuple hh (items := vs.toArray) ⟨_, B.cells _ _ I _ ha, rfl, n, rfl⟩ (by rw [e1, List.size_toArray, r.length, stAll_len hst]) e2 fun h' hx => ?_
    have I' := B.grow ρ s h' (fun b ob e => hx b ob (Nat.ne_of_lt (Heap.lt_size e)) e) I
    exact r_names B hks hn r hst I' fun s' I'' => ret _ _ hk I''

/-- more objects, the old ones as they were -/
theorem St.grow {h' : Heap} (S : St C h₀ L env as fz ρ σ s) (up : ∀ b ob, s.heap.get? b = some ob → h'.get? b = some ob) : St C h₀ L env as fz ρ σ { s with heap := h' } := by
  obtain ⟨m, mus, F, N, R, D, G⟩ := S.ex
  exact ⟨S.same, m, mus, ⟨F.ns.at' fun o e => up _ o e, fun b o e => up b o (F.keep b o e), F.above⟩, fun p hp => ⟨up _ _ (N p hp).1, (N p hp).2⟩, R, D, G⟩

/-- the frame's own names -/
theorem binds_frame (hL : env.locals = L) (hkind : env.scope.kind = .function) (hkp : ∀ as fz m m', C.kp as fz m → C.kp as fz m') : Binds C A env as fz (fun ρ s => St C h₀ L env as fz ρ σ s) where
  store := by
    intro x v d ρ s Q hk hv S ret
    obtain ⟨m, mus, F, N, R, D, G⟩ := S.ex
    subst hL
    refine wpAny_storeName_local hk F.ns (fun h' hn hs => ?_) (by rw [hkind]; rfl)
    refine ret _ ⟨S.same, _, mus, F.set hn hs, fun p hp => ?_, R, D, fun y e hy => ?_, hkp _ _ _ _ G.2⟩
    · exact ⟨(hs.2 _ (N p hp).2.1).trans (N p hp).1, (N p hp).2⟩
    · rw [lk_stL] at hy
      by_cases q : y = x
      · subst q
        rw [if_pos rfl] at hy
        cases hy
        exact ⟨v, hv, .inl ⟨hk, .inl ⟨rfl, by simp⟩⟩⟩
      · rw [if_neg (fun h => q (sT_inj h))] at hy
        obtain ⟨u, hu, h'⟩ := G.1 y e hy
        refine ⟨u, hu, ?_⟩
        rcases h' with ⟨kd, ⟨hl, hm⟩ | h1⟩ | h1
        · exact .inl ⟨kd, .inl ⟨hl, by simp [q, hm]⟩⟩
        · exact .inl ⟨kd, .inr h1⟩
        · exact .inr h1
  grow := fun _ _ _ up S => S.grow up
  cells := fun _ _ S => S.atFz

/-- a block's names within the frame -/
theorem binds_block {H : Cells} {P : Addr} (hL : env.locals = P) (hkind : env.scope.kind = .function) : Binds C A env as fz (fun ρ s => ∃ oC mc, ObjNs oC mc ∧ (∀ x d, lk (sT x) ρ = some d → env.kindOf x ≠ some .local ∨ ∃ v, VR as fz v d ∧ mc x = some v) ∧ St { C with hid := (P, oC) :: H } h₀ L env as fz ρ σ s) where
  store := by
    rintro x v d ρ s Q hk hv ⟨oC, mc, hoc, hmc, S⟩ ret
    subst hL
    obtain ⟨m, mus, F, N, R, D, G⟩ := S.ex
    have hC := N (env.locals, oC) (List.mem_append_right _ (List.mem_append_right _ (.head _)))
    have hns : s.heap.Ns env.locals mc := by obtain ⟨es, ep, h1, h2, h3⟩ := hoc; exact ⟨oC, es, ep, hC.1, h1, h2, h3⟩
    refine wpAny_storeName_local hk hns (fun h' hn hs => ?_) (by rw [hkind]; rfl)
    obtain ⟨oC', es', ep', ho', h1, h2, h3⟩ := id hn
    have hoc' : ObjNs oC' (fun y => if y = x then some v else mc y) := ⟨es', ep', h1, h2, h3⟩
    have off : ∀ p ∈ mus.flatten ++ (fz ++ H), p.1 ≠ env.locals := by
      intro p hp
      rcases List.mem_append.mp hp with hp | hp
      · exact D.off p hp _ (List.mem_append_right _ (.head _))
      · rcases List.mem_append.mp hp with hp | hp
        · exact D.hh.1 p hp _ (.head _)
        · have := D.hh.2
          rw [List.map_cons, List.nodup_cons] at this
          exact fun e => this.1 (List.mem_map.mpr ⟨p, hp, e⟩)
    refine ret _ ⟨oC', _, hoc', fun y e hy => ?_, ⟨⟨S.same.1, S.same.2.1, S.same.2.2.1, .inr ⟨oC', .head _⟩⟩, m, mus, F.change hs hC.2.1 hC.2.2, fun p hp => ?_, R, ⟨D.nd, fun p hp q hq => ?_, fun p hp q hq => ?_, ?_⟩, fun y e hy => ?_, G.2⟩⟩
    · rw [lk_stL] at hy
      by_cases q : y = x
      · subst q; rw [if_pos rfl] at hy; cases hy; exact .inr ⟨v, hv, by simp⟩
      · rw [if_neg (fun h => q (sT_inj h))] at hy
        rcases hmc y e hy with h | ⟨u, hu, hm⟩
        · exact .inl h
        · exact .inr ⟨u, hu, by simp [q, hm]⟩
    · have other : p ∈ mus.flatten ++ (fz ++ H) → h'.get? p.1 = some p.2 ∧ p.1 ≠ L ∧ h₀.get? p.1 = none := fun hp' => by
        have : p ∈ mus.flatten ++ (fz ++ (env.locals, oC) :: H) := by
          simp only [List.mem_append, List.mem_cons] at hp' ⊢
          rcases hp' with h | h | h
          · exact .inl h
          · exact .inr (.inl h)
          · exact .inr (.inr (.inr h))
        exact ⟨(hs.2 _ (off p hp')).trans (N p this).1, (N p this).2⟩
      simp only [List.mem_append, List.mem_cons] at hp
      rcases hp with h | h | rfl | h
      · exact other (List.mem_append_left _ h)
      · exact other (List.mem_append_right _ (List.mem_append_left _ h))
      · exact ⟨ho', hC.2⟩
      · exact other (List.mem_append_right _ (List.mem_append_right _ h))
    · simp only [List.mem_append, List.mem_cons] at hq
      rcases hq with hq | rfl | hq
      · exact D.off p hp q (List.mem_append_left _ hq)
      · exact off p (List.mem_append_left _ hp)
      · exact D.off p hp q (List.mem_append_right _ (.tail _ hq))
    · rcases List.mem_cons.mp hq with rfl | hq
      · exact off p (List.mem_append_right _ (List.mem_append_left _ hp))
      · exact D.hh.1 p hp q (.tail _ hq)
    · have := D.hh.2
      rw [List.map_cons, List.nodup_cons] at this ⊢
      exact this
    · rw [lk_stL] at hy
      by_cases q : y = x
      · subst q
        rw [if_pos rfl] at hy
        cases hy
        exact ⟨v, hv, .inl ⟨hk, .inr ⟨oC', _, .head _, hoc', by simp⟩⟩⟩
      · rw [if_neg (fun h => q (sT_inj h))] at hy
        obtain ⟨u, hu, h'⟩ := G.1 y e hy
        rcases h' with ⟨kd, _⟩ | h1
        · rcases hmc y e hy with h | ⟨u, hu, hm⟩
          · exact absurd kd h
          · exact ⟨u, hu, .inl ⟨kd, .inr ⟨oC', _, .head _, hoc', by simp [q, hm]⟩⟩⟩
        · exact ⟨u, hu, .inr h1⟩
  grow := fun _ _ _ up ⟨oC, mc, h1, h2, S⟩ => ⟨oC, mc, h1, h2, S.grow up⟩
  cells := fun _ _ ⟨_, _, _, _, S⟩ => S.atFz
end
end
section
noncomputable def rngL (m : Int) : List PV := (List.range m.toNat).map fun (i : Nat) => PV.int (i : Int)

/-- an iterator that stands at the i-th of these items -/
inductive ItOb (as : List Addr) (fz : Cells) : Option Nat → List PV → Nat → Obj → Prop
  | tup {ax : Addr} {vs : List Value} {n : Nat} {ds : List PV} {i : Nat} {o : Obj} : (ax, tupOf vs.toArray n) ∈ fz → VRs as fz vs ds → o.cls = .type "tuple_iterator" → o.data = .fields #[.ref ax, .int i 0] → ItOb as fz none ds i o
  | lst {ax : Addr} {vs : List Value} {n : Nat} {ds : List PV} {i : Nat} {o : Obj} : (ax, listOf vs.toArray n) ∈ fz → VRs as fz vs ds → o.cls = .type "list_iterator" → o.data = .fields #[.ref ax, .int i 0] → ItOb as fz none ds i o
  | obj {ax : Addr} {j : Nat} {ds : List PV} {i : Nat} {o : Obj} : as[j]? = some ax → o.cls = .type "list_iterator" → o.data = .fields #[.ref ax, .int i 0] → ItOb as fz (some j) ds i o
  | rng {m : Nat} {i : Nat} {o : Obj} : o = { cls := .type "range_iterator", dict := none, data := .fields #[rawInt ((0 : Int) + ((i : Nat) : Int) * 1), rawInt ((m : Int) - (i : Nat)), rawInt 1], slots := #[] } → ItOb as fz none (rngL m) i o
theorem ItOb.mono {as as' : List Addr} {fz fz' : Cells} {src : Option Nat} {all : List PV} {i : Nat} {o : Obj} (x : Ext as fz as' fz') (h : ItOb as fz src all i o) : ItOb as' fz' src all i o := by
  cases h with
  | tup h r c d => exact .tup (x.f _ h) (r.mono x) c d
  | lst h r c d => exact .lst (x.f _ h) (r.mono x) c d
  | obj h c d => exact .obj (x.a _ _ h) c d
  | rng h => exact .rng h

section
variable {C : Cx} {A : Around} {h₀ : Heap} {env : Env} {L : Addr} {as : List Addr} {fz : Cells} {ρ : Loc} {σ : Sto} {s : Shared} {N : Nat}

/-- the source of a loop: the object looked at, its items -/
noncomputable def srcOf (d : PV) (σ : Sto) : Option (Option Nat × List PV) :=
  match d with
  | .rng m => some (none, rngL m)
  | .obj j => ob (sget σ j) fun o => o1 (Prod.mk (some j)) (lstO o)
  | .tup l => some (none, l)
  | .lst l => some (none, l)
  | _ => none

theorem range_size (n : Int) : Builtin.Range.rangeSize 0 n 1 = ((n.toNat : Nat) : Int) := by
  unfold Builtin.Range.rangeSize
  have : (1 : Int) > 0 := by decide
  simp only [this, if_true, Int.ediv_one]
  split <;> omega

theorem r_iter {v : Value} {d : PV} {src : Option Nat} {all : List PV} {Q : Value → Shared → Prop} (S : St C h₀ L env as fz ρ σ s) (hv : VR as fz v d) (hs : srcOf d σ = some (src, all)) (hz : ∀ m, d = .rng m → -1000 ≤ m ∧ m ≤ 1000)
    (ret : ∀ o, ItOb as fz src all 0 o → o.isFreed = false → Q (.ref s.heap.objs.size) { s with heap := s.heap.push o }) : wpAny (model C.prog C.w) A (pyIter v) Q noE s := by
  cases hv with
  | rng ha =>
    cases hs
    rename_i a n t u w
    obtain ⟨z1, z2⟩ := hz n rfl
    have f1 : ∀ x : Int, -(2 ^ 63) ≤ x → x < 2 ^ 63 → Builtin.Range.rangeFitsLong x = true := by
      intro x h1 h2
      unfold Builtin.Range.rangeFitsLong
      simp only [Bool.and_eq_true, decide_eq_true_eq]
      exact ⟨h1, h2⟩
    have hsmall : Builtin.Range.small 0 n 1 = true := by
      unfold Builtin.Range.small
      rw [range_size]
      simp only [Bool.and_eq_true]
      have e1 := f1 0 (by decide) (by decide)
      have e2 := f1 n (by omega) (by omega)
      have e3 := f1 1 (by decide) (by decide)
      have e4 := f1 (n.toNat : Int) (by omega) (by omega)
      refine ⟨⟨⟨⟨e1, e2⟩, e3⟩, e4⟩, ?_⟩
      rw [Bool.or_eq_true]
      right
      simp only [show (1 : Int) > 0 by decide, if_true]
      exact f1 _ (by omega) (by omega)
    refine wpAny_pyIter_range (S.atFz _ ha) hsmall (ret _ ?_ rfl)
    refine ItOb.rng (m := n.toNat) ?_
    rw [range_size]
    simp
  | obj hk =>
    rename_i a j
    obtain ⟨o, e1, h2⟩ := ob_inv hs
    obtain ⟨l, h3, h4⟩ := o1_inv h2
    cases h4
    cases o with
    | list l' =>
      cases h3
      obtain ⟨a', vs, c, e2, ha, r⟩ := s_list S (.obj hk) e1
      cases e2
      exact wpAny_pyIter_list (isList_at ha) (ret _ (.obj hk rfl rfl) rfl)
    | _ => cases h3
  | tup ha r =>
    cases hs
    exact wpAny_pyIter_tuple (S.isTup ha) (ret _ (.tup ha r rfl rfl) rfl)
  | lst ha r =>
    cases hs
    exact wpAny_pyIter_list (S.isList ha) (ret _ (.lst ha r rfl rfl) rfl)
  | _ => cases hs
theorem srcP_inv {d : PV} {f : Option Nat → List PV → List PV → Prop} (h : srcP d σ f) : ∃ src all al, srcOf d σ = some (src, all) ∧ (∀ m, d = .rng m → -1000 ≤ m ∧ m ≤ 1000) ∧ all.length ≤ 1000 ∧ srcOk src all σ ∧ (src = none ∨ al = all) ∧ f src al all := by
  cases d with
  | rng mm =>
    refine ⟨none, rngL mm, [], rfl, fun m' e => (by cases e; exact ⟨h.1, h.2.1⟩), ?_, trivial, .inl rfl, h.2.2⟩
    have := h.2.1
    unfold rngL
    rw [List.length_map, List.length_range]; omega
  | obj j =>
    obtain ⟨l, e1, h1, h2⟩ := onL_inv h
    exact ⟨some j, l, l, by show ob (sget σ j) _ = _; rw [e1]; rfl, nofun, h1, e1, .inr rfl, h2⟩
  | tup l => exact ⟨none, l, [], rfl, nofun, h.1, trivial, .inl rfl, h.2⟩
  | lst l => exact ⟨none, l, [], rfl, nofun, h.1, trivial, .inl rfl, h.2⟩
  | _ => exact h.elim

/-- one more item -/
theorem r_next {I : Addr} {o : Obj} {src : Option Nat} {all : List PV} {i : Nat} {e : PV} {Q : Option Value → Shared → Prop} {E : Value → Shared → Prop} (hh : A.handled = none) (hne : env.locals ≠ I) (hI : ItOb as fz src all i o) (hsrc : srcOk src all σ) (S : St { C with hid := (I, o) :: C.hid } h₀ L env as fz ρ σ s)
    (he : all[i]? = some e) (ret : ∀ v o' s', VR as fz v e → ItOb as fz src all (i + 1) o' → St { C with hid := (I, o') :: C.hid } h₀ L env as fz ρ σ s' →
      (∀ (target : Expr) (Q' : Unit → Shared → Prop) (E' : Value → Shared → Prop), Q' () s' → wpAny (model C.prog C.w) A (letOwnedTupleGo target (.ref I) v) Q' E' s') → Q (some v) s') :
    wpAny (model C.prog C.w) A (pyNext (.ref I)) Q E s := by
  have hget := (S.beside hne (h' := s.heap) fun _ _ _ e => e).1.1
  have lists : ∀ (ax : Addr) (vs : List Value), o.cls = .type "list_iterator" → o.data = .fields #[.ref ax, .int i 0] → s.heap.IsList ax vs.toArray → VRs as fz vs all →
      (∀ o', o'.cls = .type "list_iterator" → o'.data = .fields #[.ref ax, .int (i + 1 : Nat) 0] → ItOb as fz src all (i + 1) o') → wpAny (model C.prog C.w) A (pyNext (.ref I)) Q E s := by
    intro ax vs hc hd hl r mk
    obtain ⟨v, hv, rv⟩ := r.get he
    have hax : ax ≠ I := by
      rintro rfl
      obtain ⟨o2, h1, h2, _⟩ := hl
      rw [hget] at h1; cases h1
      rw [hc] at h2; simp at h2
    refine (Walks.list hh I ax hax vs.toArray).item i s Q E ?_ ⟨⟨o, hget, hc, hd⟩, hl⟩ fun v' h' tk hP hst hk => ?_
    · rw [List.size_toArray]; exact (List.getElem?_eq_some_iff.mp hv).1
    · have hv' : v' = v := by simp at hP; rw [hv] at hP; exact (Option.some.inj hP).symm
      subst hv'
      obtain ⟨⟨o', ho', hc', hd'⟩, _⟩ := hst
      exact ret _ o' _ rv (mk o' hc' hd') (S.rehide (tk := tk) hne (fun b ob hb e => hk b ob (by simpa using hb) e) ho') fun target Q' E' hq => letGo_listiter ⟨o', ho', hc', hd'⟩ hq
  cases hI with
  | tup ha r hc hd =>
    rename_i ax vs n
    obtain ⟨v, hv, rv⟩ := r.get he
    have ht : s.heap.IsTuple ax vs.toArray := S.isTup ha
    have hax : ax ≠ I := by
      rintro rfl
      obtain ⟨o2, h1, h2, _⟩ := ht
      rw [hget] at h1; cases h1
      rw [hc] at h2; simp at h2
    refine (Walks.tuple hh I ax hax vs.toArray).item i s Q E ?_ ⟨⟨o, hget, hc, hd⟩, ht⟩ fun v' h' tk hP hst hk => ?_
    · rw [List.size_toArray]; exact (List.getElem?_eq_some_iff.mp hv).1
    · have hv' : v' = v := by simp at hP; rw [hv] at hP; exact (Option.some.inj hP).symm
      subst hv'
      obtain ⟨⟨o', ho', hc', hd'⟩, _⟩ := hst
      exact ret _ o' _ rv (.tup ha r hc' hd') (S.rehide (tk := tk) hne (fun b ob hb e => hk b ob (by simpa using hb) e) ho') fun target Q' E' hq => letGo_tupleiter ⟨o', ho', hc', hd'⟩ hq
  | lst ha r hc hd => exact lists _ _ hc hd (S.isList ha) r fun o' h1 h2 => .lst ha r h1 h2
  | obj hk hc hd =>
    have hne' : s.heap.get? I = some o := hget
    obtain ⟨a', vs, c, e2, ha, r⟩ := s_list S (.obj hk) hsrc
    cases e2
    exact lists _ _ hc hd (isList_at ha) r fun o' h1 h2 => .obj hk h1 h2
  | rng ho =>
    rename_i m
    subst ho
    have him : i < m := by
      have := (List.getElem?_eq_some_iff.mp he).1
      simpa [rngL] using this
    have hev : e = .int (i : Int) := by
      have : (rngL (m : Int))[i]? = some (.int (i : Int)) := by simp [rngL, him]
      rw [this] at he; exact (Option.some.inj he).symm
    subst hev
    refine (Walks.range hh I 0 1 m).item i s Q E him hget fun v' h' tk hP hst hk => ?_
    obtain ⟨t, rfl⟩ := hP
    have e1 : (0 : Int) + (i : Int) * 1 = (i : Int) := by omega
    have S' := S.rehide (tk := tk) hne (fun b ob hb e => hk b ob (by simpa using hb) e) hst
    refine ret _ _ _ (by rw [e1]; exact .int _ t) (.rng rfl) S' fun target Q' E' hq => ?_
    unfold letOwnedTupleGo
    cases target <;> exact wpAny_pure hq

/-- no more items -/
theorem r_done {I : Addr} {o : Obj} {src : Option Nat} {all : List PV} {i : Nat} {Q : Option Value → Shared → Prop} {E : Value → Shared → Prop} (hh : A.handled = none) (hne : env.locals ≠ I) (hI : ItOb as fz src all i o) (hsrc : srcOk src all σ) (S : St { C with hid := (I, o) :: C.hid } h₀ L env as fz ρ σ s)
    (he : i = all.length) (ret : ∀ s', St C h₀ L env as fz ρ σ s' → Q none s') :
    wpAny (model C.prog C.w) A (pyNext (.ref I)) Q E s := by
  have hget := (S.beside hne (h' := s.heap) fun _ _ _ e => e).1.1
  subst he
  have lists : ∀ (ax : Addr) (vs : List Value), o.cls = .type "list_iterator" → o.data = .fields #[.ref ax, .int all.length 0] → s.heap.IsList ax vs.toArray → VRs as fz vs all → wpAny (model C.prog C.w) A (pyNext (.ref I)) Q E s := by
    intro ax vs hc hd hl r
    have hax : ax ≠ I := by
      rintro rfl
      obtain ⟨o2, h1, h2, _⟩ := hl
      rw [hget] at h1; cases h1
      rw [hc] at h2; simp at h2
    refine (Walks.list hh I ax hax vs.toArray).done s Q E ?_ fun h' tk hk => ?_
    · rw [List.size_toArray, r.length]; exact ⟨⟨o, hget, hc, hd⟩, hl⟩
    · exact ret _ (S.unhide (tk := tk) hne fun b ob hb e => hk b ob (by simpa using hb) e)
  cases hI with
  | tup ha r hc hd =>
    rename_i ax vs n
    have ht : s.heap.IsTuple ax vs.toArray := S.isTup ha
    have hax : ax ≠ I := by
      rintro rfl
      obtain ⟨o2, h1, h2, _⟩ := ht
      rw [hget] at h1; cases h1
      rw [hc] at h2; simp at h2
    refine (Walks.tuple hh I ax hax vs.toArray).done s Q E ?_ fun h' tk hk => ?_
    · rw [List.size_toArray, r.length]; exact ⟨⟨o, hget, hc, hd⟩, ht⟩
    · exact ret _ (S.unhide (tk := tk) hne fun b ob hb e => hk b ob (by simpa using hb) e)
  | lst ha r hc hd => exact lists _ _ hc hd (S.isList ha) r
  | obj hk hc hd =>
    obtain ⟨a', vs, c, e2, ha, r⟩ := s_list S (.obj hk) hsrc
    cases e2
    exact lists _ _ hc hd (isList_at ha) r
  | rng ho =>
    rename_i m
    have hm : (rngL (m : Int)).length = m := by simp [rngL]
    rw [hm] at ho
    subst ho
    refine (Walks.range hh I 0 1 m).done s Q E hget fun h' tk hk => ?_
    exact ret _ (S.unhide (tk := tk) hne fun b ob hb e => hk b ob (by simpa using hb) e)
end
end
section
section
variable {C : Cx} {A : Around} {h₀ : Heap} {env : Env} {L : Addr} {as : List Addr} {fz : Cells} {ρ : Loc} {σ : Sto} {s : Shared} {N : Nat}

theorem St.perm {H H' : Cells} (p : H.Perm H') (S : St { C with hid := H } h₀ L env as fz ρ σ s) : St { C with hid := H' } h₀ L env as fz ρ σ s := by
  obtain ⟨m, mus, F, N, R, D, G⟩ := S.ex
  have sub : ∀ q, q ∈ H' → q ∈ H := fun q hq => p.mem_iff.mpr hq
  have sub' : ∀ q, q ∈ fz ++ H' → q ∈ fz ++ H := fun q hq => by
    rcases List.mem_append.mp hq with hq | hq
    · exact List.mem_append_left _ hq
    · exact List.mem_append_right _ (sub q hq)
  refine ⟨⟨S.same.1, S.same.2.1, S.same.2.2.1, S.same.2.2.2.imp id fun ⟨o, h⟩ => ⟨o, p.mem_iff.mp h⟩⟩, m, mus, F, fun q hq => N q ?_, R, ⟨D.nd, fun a ha q hq => D.off a ha q (sub' q hq), fun a ha q hq => D.hh.1 a ha q (sub q hq), ?_⟩, FRx.hid (C := { C with hid := H }) (fun o h => p.mem_iff.mp h) G⟩
  · rcases List.mem_append.mp hq with hq | hq
    · exact List.mem_append_left _ hq
    · exact List.mem_append_right _ (sub' q hq)
  · exact (p.map _).nodup_iff.mp D.hh.2

/-! ## the cells that a block closes over -/
noncomputable def closL (env : Env) : List (Str × NameKind) → List (Str × Addr) → List (Str × Addr)
  | [], cs => cs
  | (x, k) :: r, cs => if k == .free then (match env.cells.lookup x with | some c => closL env r ((x, c) :: cs) | none => closL env r cs) else closL env r cs
theorem closL_fold {f : Str × NameKind → List (Str × Addr) → Sem (ForInStep (List (Str × Addr)))}
    (hf : ∀ x k cs, f (x, k) cs = (if (k == NameKind.free) = true then do let a ← cellOf env x; pure (.yield ((x, a) :: cs)) else pure (.yield cs))) :
    ∀ (l : List (Str × NameKind)) (cs : List (Str × Addr)), (∀ x k, (x, k) ∈ l → k = .free → ∃ c, env.cells.lookup x = some c) → forIn l cs f = pure (closL env l cs)
  | [], cs, _ => by rw [List.forIn_nil]; rfl
  | (x, k) :: r, cs, h => by
    rw [List.forIn_cons, hf]
    unfold closL
    have hr : ∀ x k, (x, k) ∈ r → k = .free → ∃ c, env.cells.lookup x = some c := fun x k hm => h x k (.tail _ hm)
    cases hk : (k == NameKind.free) with
    | true =>
      obtain ⟨c, hc⟩ := h x k (.head _) (by simpa using hk)
      simp only [if_true, hc]
      unfold cellOf
      rw [hc]
      simp only [pure_bind]
      exact closL_fold hf r _ hr
    | false =>
      simp only [Bool.false_eq_true, if_false, pure_bind]
      exact closL_fold hf r _ hr
theorem closure_of {sc : Scope} (h : ∀ x k, (x, k) ∈ sc.names → k = .free → ∃ c, env.cells.lookup x = some c) : closureFor sc env = pure (closL env sc.names []) := by
  unfold closureFor
  dsimp only
  rw [closL_fold (fun x k cs => ?_) sc.names [] h]
  · simp
  · rfl
theorem closL_mem : ∀ (l : List (Str × NameKind)) (cs : List (Str × Addr)), (∀ p ∈ cs, env.cells.lookup p.1 = some p.2) → ∀ p ∈ closL env l cs, env.cells.lookup p.1 = some p.2
  | [], cs, h, p, hp => h p hp
  | (x, k) :: r, cs, h, p, hp => by
    unfold closL at hp
    split at hp
    · split at hp
      · rename_i c hc
        refine closL_mem r _ (fun q hq => ?_) p hp
        rcases List.mem_cons.mp hq with rfl | hq
        · exact hc
        · exact h q hq
      · exact closL_mem r cs h p hp
    · exact closL_mem r cs h p hp
theorem closL_has : ∀ (l : List (Str × NameKind)) (cs : List (Str × Addr)) {x : Str} {c : Addr}, ((x, NameKind.free) ∈ l ∧ env.cells.lookup x = some c) ∨ (∃ c', (x, c') ∈ cs) → ∃ c', (x, c') ∈ closL env l cs
  | [], cs, x, c, h => by
    rcases h with ⟨h, _⟩ | h
    · cases h
    · exact h
  | (y, k) :: r, cs, x, c, h => by
    unfold closL
    split
    · rename_i hk
      split
      · rename_i c' hc'
        refine closL_has r _ (c := c) ?_
        rcases h with ⟨h, e⟩ | ⟨c2, h⟩
        · rcases List.mem_cons.mp h with h | h
          · cases h; exact .inr ⟨c', .head _⟩
          · exact .inl ⟨h, e⟩
        · exact .inr ⟨c2, .tail _ h⟩
      · rename_i hc'
        refine closL_has r _ (c := c) ?_
        rcases h with ⟨h, e⟩ | h
        · rcases List.mem_cons.mp h with h | h
          · cases h; rw [hc'] at e; cases e
          · exact .inl ⟨h, e⟩
        · exact .inr h
    · rename_i hk
      refine closL_has r _ (c := c) ?_
      rcases h with ⟨h, e⟩ | h
      · rcases List.mem_cons.mp h with h | h
        · cases h; simp at hk
        · exact .inl ⟨h, e⟩
      · exact .inr h
theorem lookup_of_all {l : List (Str × Addr)} {x : Str} {c : Addr} (hall : ∀ p ∈ l, p.1 = x → p.2 = c) (h : ∃ c', (x, c') ∈ l) : l.lookup x = some c := by
  induction l with
  | nil => obtain ⟨_, h⟩ := h; cases h
  | cons p r ih =>
    obtain ⟨y, d⟩ := p
    rw [List.lookup_cons]
    cases q : x == y with
    | true => simp only; exact congrArg some (hall (y, d) (.head _) (eq_of_beq q).symm)
    | false =>
      simp only
      refine ih (fun p hp => hall p (.tail _ hp)) ?_
      obtain ⟨c', h⟩ := h
      rcases List.mem_cons.mp h with h | h
      · cases h; simp at q
      · exact ⟨c', h⟩
theorem closL_lookup {l : List (Str × NameKind)} {x : Str} {c : Addr} (hm : (x, NameKind.free) ∈ l) (hc : env.cells.lookup x = some c) : (closL env l []).lookup x = some c := by
  refine lookup_of_all (fun p hp e => ?_) (closL_has l [] (.inl ⟨hm, hc⟩))
  have := closL_mem l [] (fun _ h => nomatch h) p hp
  rw [e, hc] at this
  exact (Option.some.inj this).symm

/-! ## the block's names -/
theorem isFun_of {k : ScopeKind} (h : isFun k = true) : k = .function := by cases k <;> first | rfl | cases h
theorem kOK_of {k : NameKind} {o : Option NameKind} (h : kOK k o = true) : k ≠ .cell ∧ (k = .local → o = some .local) ∧ (k = .free → o = some .free) := by
  cases k with
  | cell => cases h
  | «local» => exact ⟨nofun, fun _ => isKd_of h, nofun⟩
  | free => exact ⟨nofun, nofun, fun _ => isKd_of h⟩
  | _ => exact ⟨nofun, nofun, nofun⟩
theorem names_of {l all : List (Str × NameKind)} (h : compNames (all.map fun (p : Str × NameKind) => (sT p.1, p.2)) (l.map fun (p : Str × NameKind) => (sT p.1, p.2)) = true) : ∀ y ∈ l, y.2 ≠ .cell ∧ (y.2 = .local → all.lookup y.1 = some .local) ∧ (y.2 = .free → all.lookup y.1 = some .free) := by
  induction l with
  | nil => intro y hy; cases hy
  | cons p r ih =>
    intro y hy
    obtain ⟨h1, h2⟩ := and_of h
    rcases List.mem_cons.mp hy with rfl | hy
    · rw [lkK_of] at h1; exact kOK_of h1
    · exact ih h2 y hy
theorem frO_mem {x t : Txt} {k : NameKind} {l : List Txt} : t ∈ frO x k l ↔ (k = .free ∧ t = x) ∨ t ∈ l := by
  cases k with
  | free => show t ∈ x :: l ↔ _; rw [List.mem_cons]; exact or_congr ⟨fun h => ⟨rfl, h⟩, fun h => h.2⟩ Iff.rfl
  | _ => exact ⟨.inr, fun h => h.elim nofun id⟩
theorem frees_mem {l : List (Str × NameKind)} {x : Str} (h : (x, NameKind.free) ∈ l) : sT x ∈ freesOf (l.map fun (p : Str × NameKind) => (sT p.1, p.2)) := by
  induction l with
  | nil => cases h
  | cons p r ih =>
    refine frO_mem.mpr ?_
    rcases List.mem_cons.mp h with h | h
    · cases h; exact .inl ⟨rfl, rfl⟩
    · exact .inr (ih h)
theorem mem_frees {l : List (Str × NameKind)} {t : Txt} (h : t ∈ freesOf (l.map fun (p : Str × NameKind) => (sT p.1, p.2))) : ∃ x, t = sT x ∧ (x, NameKind.free) ∈ l := by
  induction l with
  | nil => cases h
  | cons p r ih =>
    rcases frO_mem.mp h with ⟨h1, h2⟩ | h
    · obtain ⟨y, k⟩ := p
      cases h1
      exact ⟨y, h2, .head _⟩
    · obtain ⟨x, e, hm⟩ := ih h; exact ⟨x, e, .tail _ hm⟩
theorem freesIn_of {ks : Kinds} {fs : List Txt} (h : freesIn ks fs = true) : ∀ t ∈ fs, lkK t ks = some .cell := by
  induction fs with
  | nil => intro t ht; cases ht
  | cons x r ih =>
    intro t ht
    obtain ⟨h1, h2⟩ := and_of h
    rcases List.mem_cons.mp ht with rfl | ht
    · exact isKd_of h1
    · exact ih h2 t ht
theorem allIn_of {fs : List Txt} {ρ : Loc} (h : allIn fs ρ = true) : ∀ t ∈ fs, ∃ d, lk t ρ = some d := by
  induction fs with
  | nil => intro t ht; cases ht
  | cons x r ih =>
    intro t ht
    obtain ⟨h1, h2⟩ := and_of h
    rcases List.mem_cons.mp ht with rfl | ht
    · exact Option.isSome_iff_exists.mp h1
    · exact ih h2 t ht
theorem keepL_of {t : Txt} {d : PV} {fs : List Txt} {ρ : Loc} (h : lk t (keepL fs ρ) = some d) : t ∈ fs ∧ lk t ρ = some d := by
  induction fs with
  | nil => cases h
  | cons x r ih =>
    have h : lk t (kpO x (lk x ρ) (keepL r ρ)) = some d := h
    cases q : lk x ρ with
    | none => rw [q] at h; obtain ⟨a, b⟩ := ih h; exact ⟨.tail _ a, b⟩
    | some e =>
      rw [q] at h
      have h : lk t ((x, e) :: keepL r ρ) = some d := h
      rw [lk_cons] at h
      by_cases e' : t = x
      · subst e'; rw [if_pos rfl] at h; cases h; exact ⟨.head _, q⟩
      · rw [if_neg e'] at h; obtain ⟨a, b⟩ := ih h; exact ⟨.tail _ a, b⟩
theorem relabel_of {names : List (Str × NameKind)} {x : Str} {kd : NameKind} (h : names.lookup x = some kd) (hk : kd ≠ .free) :
    (names.map fun (n, k) => if (k == NameKind.free && env.scope.kind == .function && env.kindOf n == some .cell) then (n, NameKind.cell) else (n, k)).lookup x = some kd := by
  induction names with
  | nil => simp at h
  | cons p r ih =>
    obtain ⟨n, k⟩ := p
    rw [List.map_cons]
    dsimp only
    cases q : x == n with
    | true =>
      simp only [List.lookup_cons, q, Option.some.injEq] at h
      subst h
      have : (k == NameKind.free) = false := by simpa using hk
      simp [this, List.lookup_cons, q]
    | false =>
      simp only [List.lookup_cons, q] at h
      by_cases hc : (k == NameKind.free && env.scope.kind == .function && env.kindOf n == some .cell) = true
      · rw [if_pos hc]; simp only [List.lookup_cons, q]; exact ih h
      · rw [if_neg hc]; simp only [List.lookup_cons, q]; exact ih h
theorem relabel_free {names : List (Str × NameKind)} {x : Str} (hf : env.scope.kind = .function) (hx : env.kindOf x = some .cell) (h : names.lookup x = some .free) :
    (names.map fun (n, k) => if (k == NameKind.free && env.scope.kind == .function && env.kindOf n == some .cell) then (n, NameKind.cell) else (n, k)).lookup x = some .cell := by
  induction names with
  | nil => simp at h
  | cons p r ih =>
    obtain ⟨n, k⟩ := p
    rw [List.map_cons]
    dsimp only
    cases q : x == n with
    | true =>
      simp only [List.lookup_cons, q, Option.some.injEq] at h
      subst h
      have e := eq_of_beq q
      subst e
      simp [hf, hx, List.lookup_cons]
    | false =>
      simp only [List.lookup_cons, q] at h
      by_cases hc : (k == NameKind.free && env.scope.kind == .function && env.kindOf n == some .cell) = true
      · rw [if_pos hc]; simp only [List.lookup_cons, q]; exact ih h
      · rw [if_neg hc]; simp only [List.lookup_cons, q]; exact ih h

theorem not_set {it : Expr} (h : notSet it = true) (x : Value) : foldedSetIterable it env x = pure x := by
  cases it <;> first | rfl | cases h
end
end
section
section
variable {C : Cx} {A : Around} {h₀ : Heap} {env : Env} {L : Addr} {as : List Addr} {fz : Cells} {ρ : Loc} {σ : Sto} {s : Shared} {N : Nat} {O : Ops} {gt : List (Txt × CE)}

theorem cE_comp {ks : Kinds} {m : Nat} {elt : Expr} {gens : List Comprehension} {sc : Scope} {pos : Pos} {ce : CE} (h : cE gt ks m (.ListComp elt gens sc pos) = some ce) :
    ∃ m' target it xs one cit celt, gens = [⟨target, it, [], 0⟩] ∧ compOK ks sc it = true ∧ TgtOK (ksOf sc) target xs one ∧ cE gt ks m' it = some cit ∧ cE gt (ksOf sc) m' elt = some celt ∧ ce = .comp celt xs one cit (freesOf (ksOf sc)) := by
  cases m with
  | zero => cases h
  | succ m =>
    obtain ⟨g, h1, h⟩ := ob_inv h
    obtain ⟨h2, h⟩ := gd_inv h
    obtain ⟨h3, h⟩ := gd_inv h
    obtain ⟨h4, h⟩ := gd_inv h
    obtain ⟨x, h5, h⟩ := ob_inv h
    obtain ⟨cit, celt, h6, h7, h8⟩ := o2_inv h
    obtain ⟨t, it, ifs, a⟩ := g
    cases nil_of h2
    cases isZ_of h3
    exact ⟨m, t, it, x.1, x.2, cit, celt, one_inv h1, h4, tgtC_inv h5, h6, h7, h8⟩

theorem r_self {I : Addr} {o : Obj} {src : Option Nat} {all : List PV} {i : Nat} {Q : Value → Shared → Prop} {E : Value → Shared → Prop} (hI : ItOb as fz src all i o) (hget : s.heap.get? I = some o) (h : Q (.ref I) s) : wpAny (model C.prog C.w) A (pyIter (.ref I)) Q E s := by
  cases hI with
  | tup _ _ hc hd => exact wpAny_pyIter_tupleiter ⟨o, hget, hc, hd⟩ h
  | lst _ _ hc hd => exact wpAny_pyIter_listiter ⟨o, hget, hc, hd⟩ h
  | obj _ hc hd => exact wpAny_pyIter_listiter ⟨o, hget, hc, hd⟩ h
  | rng ho => subst ho; exact wpAny_pyIter_rangeiter hget h

/-- what a block keeps of the frame around it -/
noncomputable def KP (C : Cx) (L : Addr) (env : Env) (ρ : Loc) (as : List Addr) (fz : Cells) (m : Str → Option Value) : Prop := FRx C L env as fz m ρ
theorem KPm (C : Cx) (L : Addr) (env : Env) (ρ : Loc) : ∀ as fz as' fz' m, Ext as fz as' fz' → KP C L env ρ as fz m → KP C L env ρ as' fz' m := fun _ _ _ _ _ x h => FRx.mono x h
noncomputable abbrev Cin (C : Cx) (L : Addr) (env : Env) (ρ : Loc) (H : Cells) : Cx := { C with hid := H, kp := KP C L env ρ, kpm := KPm C L env ρ }

theorem OKs.inn {H : Cells} (K : OKs C N gt O) : OKs (Cin C L env ρ H) N gt O := ⟨K.gt, K.att, K.sc, K.mt, K.cl⟩
theorem FrOK.inn {A₀ : Around} {base : Heap} {outer : List Env} {fenv : Env} {H : Cells} (F : FrOK C N A A₀ base h₀ outer fenv L) : FrOK (Cin C L env ρ H) N A A₀ base h₀ outer fenv L :=
  ⟨F.B, F.X, F.T, F.hA, F.hf, F.hfun, F.hh, F.depth, F.units, F.scr⟩

theorem St.block {H : Cells} {cenv : Env} {fs : List Txt} {P : Addr} {oC : Obj} (S : St { C with hid := H } h₀ L env as fz ρ σ s) (hP : (P, oC) ∈ H) (hc : cenv.locals = P) (off : ∀ o, (env.locals, o) ∈ H → (env.locals, o) ∈ C.hid)
    (hfs : ∀ x, sT x ∈ fs → env.kindOf x = some .cell ∧ cenv.kindOf x = some .cell ∧ ∀ c, env.cells.lookup x = some c → cenv.cells.lookup x = some c) : St (Cin C L env ρ H) h₀ L cenv as fz (keepL fs ρ) σ s := by
  obtain ⟨m, mus, F, N, R, D, G⟩ := S.ex
  refine ⟨⟨S.same.1, S.same.2.1, S.same.2.2.1, .inr ⟨oC, hc ▸ hP⟩⟩, m, mus, F, N, R, D, fun x d e => ?_, FRx.hid (C := { C with hid := H }) off G⟩
  obtain ⟨h1, h2⟩ := keepL_of e
  obtain ⟨k1, k2, k3⟩ := hfs x h1
  obtain ⟨v, hv, h'⟩ := G.1 x d h2
  refine ⟨v, hv, ?_⟩
  rcases h' with ⟨kd, _⟩ | ⟨kd, c, o, hc, hm, hd⟩
  · rw [k1] at kd; cases kd
  · exact .inr ⟨k2, c, o, k3 c hc, hm, hd⟩
theorem St.unblock {H : Cells} {cenv : Env} {ρ' : Loc} (S : St (Cin C L env ρ H) h₀ L cenv as fz ρ' σ s) (lo : env.locals = L ∨ ∃ o, (env.locals, o) ∈ C.hid) (sub : ∀ o, (env.locals, o) ∈ C.hid → (env.locals, o) ∈ H) : St { C with hid := H } h₀ L env as fz ρ σ s := by
  obtain ⟨m, mus, F, N, R, D, G⟩ := S.ex
  exact ⟨⟨S.same.1, S.same.2.1, S.same.2.2.1, lo.imp id fun ⟨o, h⟩ => ⟨o, sub o h⟩⟩, m, mus, F, N, R, D, FRx.hid (C := C) sub G.2⟩

theorem evM_c {n : Nat} {e : CE} {xs : List Txt} {one : Bool} {src : Option Nat} {all r : List PV} {d : PV} {k : List PV → Sto → Prop} (h : evM O (n + 1) e xs one src all (d :: r) ρ σ k) :
    bindT xs one d ρ fun ρ' => evC O n e ρ' σ fun v σ => srcOk src all σ ∧ evM O n e xs one src all r ρ σ fun vs σ => k (v :: vs) σ := h
/-- where a comprehension's loop stands -/
inductive CpAt (O : Ops) (C : Cx) (h₀ : Heap) (L : Addr) (env : Env) (ρ ρk : Loc) (n : Nat) (celt : CE) (xs : List Txt) (one : Bool) (src : Option Nat) (al all : List PV) (Kf : List PV → Sto → Prop) (I P D : Addr) (as1 : List Addr) (fz1 : Cells) : Nat → Shared → Prop
  | mk {i j : Nat} {oI oC : Obj} {mc : Str → Option Value} {ys : List Value} {ds : List PV} {as' : List Addr} {fz' : Cells} {σ' : Sto} {s' : Shared} : i ≤ all.length → j ≤ n → ItOb as' fz' src all i oI → srcOk src all σ' → ys.length = i → VRs as' fz' ys ds → Ext as1 fz1 as' fz' → ObjNs oC mc →
      evM O j celt xs one src al (all.drop i) ρk σ' (fun ds2 σ => Kf (ds ++ ds2) σ) → St { C with hid := (I, oI) :: (P, oC) :: (D, LCg.lst ys) :: C.hid } h₀ L env as' fz' ρ σ' s' →
      CpAt O C h₀ L env ρ ρk n celt xs one src al all Kf I P D as1 fz1 (all.length + 1 - i) s'

theorem comp_core {n : Nat} (hE : ∀ j, j ≤ n → GE O gt N j) (use : Option (Value → Sem Unit)) (elt : Expr) (gens : List Comprehension) (sc : Scope) (pos pos' : Pos) (C : Cx) (K : OKs C N gt O) (ks : Kinds) (m : Nat) (ce : CE) (hc : cE gt ks m (.ListComp elt gens sc pos) = some ce)
    (A : Around) (h₀ : Heap) (env : Env) (L : Addr) (as : List Addr) (fz : Cells) (ρ : Loc) (σ : Sto) (s : Shared) (k : Kont) (Q : Value → Shared → Prop) (F : InE C N A h₀ env L) (hks : KsOK ks env) (h : evC O (n + 1) ce ρ σ k) (S : St C h₀ L env as fz ρ σ s)
    (fin : ∀ (P D : Addr) (oC : Obj) (mc : Str → Option Value) (as2 : List Addr) (fz2 : Cells) (σ2 : Sto) (s2 : Shared) (d : PV), k d σ2 → Ext as fz as2 fz2 → St { C with hid := (P, oC) :: C.hid } h₀ L env as2 fz2 ρ σ2 s2 → VR as2 fz2 (.ref D) d → ObjNs oC mc → env.locals ≠ P →
      compPost (model C.prog C.w) A noE use Q (.ref D) P (.ok .next) s2) :
    wpAny (model C.prog C.w) A (comprehension (.ListComp elt gens sc pos) sc env pos' (newList []) (firstAsync gens) (firstIter gens env) use) Q noE s := by
  obtain ⟨m, target, it, xs, one, cit, celt, rfl, hco, hT, h1, h2, rfl⟩ := cE_comp hc
  obtain ⟨A₀, base, outer, fenv, FF, V⟩ := id F
  -- the block
  obtain ⟨hfun, hco⟩ := and_of hco
  obtain ⟨hns, hco⟩ := and_of hco
  obtain ⟨hcn, hco⟩ := and_of hco
  have hkind := isFun_of hfun
  have hnm := names_of (l := sc.names) (all := sc.names) hcn
  have hfin := freesIn_of hco
  obtain ⟨hall, h⟩ := onTT_inv h
  have hin := allIn_of hall
  have hcell : ∀ y ∈ sc.names, y.2 ≠ .cell := fun y hy => (hnm y hy).1
  have hnames : ∀ y ∈ sc.names, y.2 = .local → sc.names.lookup y.1 = some .local := fun y hy => (hnm y hy).2.1
  have hfree : ∀ x, sT x ∈ freesOf (ksOf sc) → env.kindOf x = some .cell ∧ ∃ c, env.cells.lookup x = some c := by
    intro x hx
    have k1 : env.kindOf x = some .cell := hks x _ (hfin _ hx) (by simp)
    obtain ⟨d, hd⟩ := hin _ hx
    obtain ⟨mm, mus, _, _, _, _, G⟩ := S.ex
    obtain ⟨v, _, h'⟩ := G.1 x d hd
    rcases h' with ⟨kd, _⟩ | ⟨_, c, _, hc, _⟩
    · rw [k1] at kd; cases kd
    · exact ⟨k1, c, hc⟩
  have hclos : closureFor sc env = pure (closL env sc.names []) := closure_of fun x kk hm e => by
    subst e
    exact (hfree x (frees_mem hm)).2
  refine wpAny_comprehension_free (use := use) (cl := closL env sc.names []) rfl (not_set hns) hclos hkind hnames ?_
  refine hE n (Nat.le_refl _) C K ks m it cit h1 A h₀ env L as fz ρ σ s _ _ F hks h S ?_
  intro v d as1 fz1 σ1 s1 k1 x1 S1 R1
  -- the source
  obtain ⟨src, all, al, hso, hrb, hlen, hsk, hal, hev⟩ := srcP_inv k1
  clear k1
  refine r_iter S1 R1 hso hrb fun o hI hfr => ?_
  obtain ⟨SI, nI⟩ := S1.hide o hfr
  obtain ⟨SD, nD⟩ := SI.hide (listOf #[] 0)
  obtain ⟨SP, nP⟩ := SD.hide { cls := .type "dict", data := .dict #[] }
  refine wpAny_newObj_type (wpAny_newFunctionEnv hcell (by intro y hy; simp at hy) (fun h₁ hns₁ hsb₁ => ?_) hkind)
  obtain ⟨oC, es, ep, hoC, hd1, hd2, hd3⟩ := id hns₁
  have hob : ObjNs oC (fun x => ([] : List (Str × Value)).reverse.lookup x) := ⟨es, ep, hd1, hd2, hd3⟩
  have S3 := SP.rehide (tk := s1.toks) nP (fun b ob hb e => hsb₁.extBut b ob hb e) hoC
  dsimp only at S3 nI nD nP ⊢
  generalize hI' : s1.heap.objs.size = I at S3 nI nD nP ⊢
  generalize hD' : (s1.heap.push o).objs.size = D at S3 nD nP ⊢
  generalize hP' : ((s1.heap.push o).push (listOf #[] 0)).objs.size = P at S3 nP hoC ⊢
  have S4 : St { C with hid := (I, o) :: (P, oC) :: (D, LCg.lst []) :: C.hid } h₀ L env as1 fz1 ρ σ1 { s1 with heap := h₁ } := by
    refine S3.perm ?_
    show List.Perm ((P, oC) :: (D, LCg.lst []) :: (I, o) :: C.hid) ((I, o) :: (P, oC) :: (D, LCg.lst []) :: C.hid)
    exact ((List.Perm.swap (I, o) (D, LCg.lst []) C.hid).cons (P, oC)).trans (List.Perm.swap (I, o) (P, oC) _)
  have hlo : env.locals = L ∨ ∃ o, (env.locals, o) ∈ C.hid := S1.same.2.2.2
  have hoff : ∀ {oC' oI' : Obj} {oD' : Obj} (o' : Obj), (env.locals, o') ∈ (P, oC') :: (I, oI') :: (D, oD') :: C.hid → (env.locals, o') ∈ C.hid := by
    intro oC' oI' oD' o' h
    rcases List.mem_cons.mp h with h | h
    · cases h; exact absurd rfl nP
    · rcases List.mem_cons.mp h with h | h
      · cases h; exact absurd rfl nI
      · rcases List.mem_cons.mp h with h | h
        · cases h; exact absurd rfl nD
        · exact h
  -- the block's env
  let cenv := compEnvC sc (closL env sc.names []) P env
  have ceK : KsOK (ksOf sc) cenv := fun x kd h1 h2 => relabel_of (lkK_of.symm.trans h1) h2
  have ceV : EvOK cenv := ⟨hkind, V.gl, V.bu⟩
  have ceF : ∀ H, InE (Cin C L env ρ H) N A h₀ cenv L := fun H => ⟨A₀, base, outer, fenv, FF.inn, ceV⟩
  have cefs : ∀ x, sT x ∈ freesOf (ksOf sc) → env.kindOf x = some .cell ∧ cenv.kindOf x = some .cell ∧ ∀ c, env.cells.lookup x = some c → cenv.cells.lookup x = some c := by
    intro x hx
    obtain ⟨h1, c, hc⟩ := hfree x hx
    obtain ⟨y, e, hm⟩ := mem_frees hx
    cases sT_inj e
    refine ⟨h1, ?_, fun c' hc' => closL_lookup hm hc'⟩
    have hx' : sc.names.lookup x = some .free := (hnm _ hm).2.2 rfl
    exact relabel_free V.kind h1 hx'
  -- the loop
  obtain ⟨Kf, hKf⟩ : ∃ Kf : List PV → Sto → Prop, Kf = fun ds σ => k (.obj σ.length) (σ ++ [.list ds]) := ⟨_, rfl⟩
  have hev : evM O n celt xs one src al all (keepL (freesOf (ksOf sc)) ρ) σ1 Kf := hKf ▸ hev
  have loop : ∀ s₃ : Shared, s₃ = { s1 with heap := h₁ } → codeAny (model C.prog C.w) A (.compLoop (.ListComp elt [⟨target, it, [], 0⟩] sc pos) 0 (.ref I) (.ref D) cenv) (compPost (model C.prog C.w) A noE use Q (.ref D) P) s₃ := by
    rintro s₃ rfl
    refine kcp_loop (CpAt O C h₀ L env ρ (keepL (freesOf (ksOf sc)) ρ) n celt xs one src al all Kf I P D as1 fz1) ?_ (all.length + 1)
      (.mk (i := 0) (Nat.zero_le _) (Nat.le_refl n) hI hsk rfl .nil (Ext.refl _ _) hob hev S4)
    intro kk s' hat
    obtain @⟨i, j, oI, oC', mc, ys, ds, as', fz', σ', _, hi, hj, hI', hsk', hyl, hys, x', hob', hev', S'⟩ := hat
    by_cases hlt : i < all.length
    · have he : all[i]? = some all[i] := List.getElem?_eq_getElem hlt
      refine r_next (C := { C with hid := (P, oC') :: (D, LCg.lst ys) :: C.hid }) F.handled nI hI' hsk' S' he ?_
      intro v oI2 s2 hv hI2 S2 hgo
      dsimp only
      refine hgo _ _ _ ?_
      rw [List.drop_eq_getElem_cons hlt] at hev'
      cases j with
      | zero => exact hev'.elim
      | succ j =>
      -- into the block
      have S3' : St { C with hid := (P, oC') :: (I, oI2) :: (D, LCg.lst ys) :: C.hid } h₀ L env as' fz' ρ σ' s2 := S2.perm (List.Perm.swap (P, oC') (I, oI2) _)
      have S4' : St (Cin C L env ρ ((P, oC') :: (I, oI2) :: (D, LCg.lst ys) :: C.hid)) h₀ L cenv as' fz' (keepL (freesOf (ksOf sc)) ρ) σ' s2 := S3'.block (.head _) rfl hoff cefs
      have B := binds_block (C := Cin C L env ρ []) (A := A) (h₀ := h₀) (env := cenv) (L := L) (as := as') (fz := fz') (σ := σ') (H := (I, oI2) :: (D, LCg.lst ys) :: C.hid) (P := P) rfl hkind
      refine wpAny_mono (r_bind B ceK F.handled hT (evM_c hev') hv ⟨oC', mc, hob', fun x d hx => .inl ?_, S4'⟩ ?_) (fun _ _ h => h) (fun _ _ e => e.elim)
      · have := (cefs x (keepL_of hx).1).2.1
        rw [this]; simp
      · rintro ρ' s3 hk3 ⟨oC2, mc2, hob2, _, S5⟩
        refine wpAny_mono (hE j (Nat.le_of_succ_le hj) (Cin C L env ρ ((P, oC2) :: (I, oI2) :: (D, LCg.lst ys) :: C.hid)) K.inn (ksOf sc) m elt celt h2 A h₀ cenv L as' fz' ρ' σ' s3 _ _ (ceF _) ceK hk3 S5 ?_) (fun _ _ h => h) (fun _ _ e => e.elim)
        intro xv dv as2 fz2 σ2 s4 k4 x4 S6 R4
        obtain ⟨hsk4, hev4⟩ := k4
        have S7 : St { C with hid := (P, oC2) :: (I, oI2) :: (D, LCg.lst ys) :: C.hid } h₀ L env as2 fz2 ρ σ2 s4 := S6.unblock hlo fun o h => .tail _ (.tail _ (.tail _ h))
        have S8 : St { C with hid := (D, LCg.lst ys) :: (P, oC2) :: (I, oI2) :: C.hid } h₀ L env as2 fz2 ρ σ2 s4 := by
          refine S7.perm ?_
          exact ((List.Perm.swap (D, LCg.lst ys) (I, oI2) C.hid).cons (P, oC2)).trans (List.Perm.swap (D, LCg.lst ys) (P, oC2) _)
        have zD : s4.heap.get? D = some (LCg.lst ys) := (St.beside (C := { C with hid := (P, oC2) :: (I, oI2) :: C.hid }) S8 nD (h' := s4.heap) fun _ _ _ e => e).1.1
        refine append_at (hsz := by show ys.toArray.size ≤ sizeLine; rw [List.size_toArray, hyl, sizeLine_eq]; omega) zD fun h₆ hs₆ hD₆ => ?_
        have S9 := St.rehide (C := { C with hid := (P, oC2) :: (I, oI2) :: C.hid }) (tk := s4.toks) S8 nD (fun b ob hb e => hs₆.extBut b ob hb e) (hD₆.trans (congrArg some (LCg.lst_snoc ys xv)))
        refine ⟨all.length + 1 - (i + 1), lt_sub hlt, .mk (i := i + 1) hlt (Nat.le_of_succ_le hj) (hI2.mono x4) ?_ (by rw [List.length_append, List.length_singleton, hyl]) ((hys.mono x4).append (.cons R4 .nil)) (x'.trans x4) hob2 ?_ (S9.perm ?_)⟩
        · rcases hal with rfl | rfl
          · trivial
          · exact hsk4
        · have e : (fun (vs : List PV) (σ : Sto) => Kf (ds ++ dv :: vs) σ) = fun ds2 σ => Kf ((ds ++ [dv]) ++ ds2) σ := by funext vs σ; simp
          rw [← e]; exact hev4
        · exact (List.Perm.swap (P, oC2) (D, LCg.lst (ys ++ [xv])) _).trans (((List.Perm.swap (I, oI2) (D, LCg.lst (ys ++ [xv])) C.hid).cons (P, oC2)).trans (List.Perm.swap (I, oI2) (P, oC2) _))
    · have hin : i = all.length := Nat.le_antisymm hi (Nat.not_lt.mp hlt)
      refine r_done (C := { C with hid := (P, oC') :: (D, LCg.lst ys) :: C.hid }) F.handled nI hI' hsk' S' hin ?_
      intro s2 S2
      have hnil : all.drop i = [] := List.drop_eq_nil_of_le (Nat.le_of_eq hin.symm)
      rw [hnil] at hev'
      cases j with
      | zero => exact hev'.elim
      | succ j =>
      have hev' : Kf (ds ++ []) σ' := hev'
      rw [List.append_nil] at hev'
      have S3' : St { C with hid := (D, LCg.lst ys) :: (P, oC') :: C.hid } h₀ L env as' fz' ρ σ' s2 := S2.perm (List.Perm.swap (D, LCg.lst ys) (P, oC') _)
      have hDg : s2.heap.get? D = some (LCg.lst ys) := (St.beside (C := { C with hid := (P, oC') :: C.hid }) S3' nD (h' := s2.heap) fun _ _ _ e => e).1.1
      have x2 : Ext as' fz' (as' ++ [D]) fz' := ⟨fun k a e => by rw [List.getElem?_append_left (List.getElem?_eq_some_iff.mp e).1]; exact e, fun _ h => h⟩
      obtain ⟨x3, R3, S6⟩ := St.adopt (C := { C with hid := (P, oC') :: C.hid }) (tk := s2.toks) (po := .list ds) S3' nD (fun _ _ _ e => e) hDg (.list (hys.mono x2))
      rw [hKf] at hev'
      exact fin P D oC' mc _ _ _ _ _ hev' ((x1.trans x').trans x3) S6 R3 hob' nP
  have hget : h₁.get? I = some o := (St.beside (C := { C with hid := (P, oC) :: (D, LCg.lst []) :: C.hid }) S4 nI (h' := h₁) fun _ _ _ e => e).1.1
  exact codeAny_compStart_list (loop _ rfl) (r_self (C := C) hI hget (loop _ rfl))
theorem step_C {n : Nat} (hE : ∀ j, j ≤ n → GE O gt N j) (elt : Expr) (gens : List Comprehension) (sc : Scope) (pos : Pos) : GEat O gt N (n + 1) (.ListComp elt gens sc pos) := by
  intro C K ks m ce hc A h₀ env L as fz ρ σ s k Q F hks h S ret
  rw [eval_ListComp]
  refine comp_core hE none elt gens sc pos _ C K ks m ce hc A h₀ env L as fz ρ σ s k Q F hks h S ?_
  intro P D oC mc as2 fz2 σ2 s2 d hk x S2 R hob nP
  have hP : s2.heap.get? P = some oC := (St.beside S2 nP (h' := s2.heap) fun _ _ _ e => e).1.1
  obtain ⟨es, ep, e1, e2, e3⟩ := id hob
  exact ⟨mc, ⟨oC, es, ep, hP, e1, e2, e3⟩, fun h' hs' => ret _ _ _ _ _ _ hk x (St.unhide (tk := s2.toks) S2 nP fun b ob hb e => hs'.extBut b ob hb e) R⟩
end
end
section
section
variable {O : Ops} {gt : List (Txt × CE)} {N : Nat}
theorem constC_plain {c : Const} {ce : CE} (h : constC c = some ce) : ce.plain = true := by obtain ⟨d, rfl⟩ := constC_val h; rfl
theorem cE_plain {K : Frag} (G : GTab K gt) {ks : Kinds} {m : Nat} {e : Expr} {ce : CE} (h : cE gt ks m e = some ce) (ht : testKind e = true) : ce.plain = true := by
  cases m with
  | zero => cases h
  | succ m =>
    cases e with
    | Constant => exact constC_plain h
    | Name x p =>
      obtain ⟨_, h⟩ := gd_inv h
      obtain ⟨kd, _, h⟩ := ob_inv h
      cases kd with
      | globalImplicit => obtain ⟨d, v, rfl, _⟩ := G _ _ h; rfl
      | globalExplicit => cases h
      | _ => cases h; rfl
    | BinOp => obtain ⟨_, _, _, _, rfl⟩ := o2_inv h; rfl
    | UnaryOp op => cases op with
      | Not => cases ht
      | USub => obtain ⟨_, f, c, h0, _, rfl⟩ := cE_un (m := m + 1) h; cases h0; rfl
      | _ => cases h
    | Tuple => obtain ⟨_, _, rfl⟩ := o1_inv h; rfl
    | List => obtain ⟨_, _, rfl⟩ := o1_inv h; rfl
    | Dict => obtain ⟨_, _, rfl⟩ := o1_inv (gd_inv h).2; rfl
    | Subscript =>
      rcases oe_inv h with ⟨t, _, h⟩ | ⟨_, h⟩
      · obtain ⟨_, _, h⟩ := ob_inv (gd_inv h).2
        obtain ⟨_, _, h⟩ := ob_inv h
        obtain ⟨_, _, rfl⟩ := o1_inv h; rfl
      · obtain ⟨_, _, _, _, rfl⟩ := o2_inv h; rfl
    | Call =>
      rcases oe_inv (gd_inv h).2 with ⟨t, _, h⟩ | ⟨_, h⟩
      · obtain ⟨_, _, _, _, rfl⟩ := o2_inv (gd_inv (gd_inv (gd_inv h).2).2).2; rfl
      · obtain ⟨f, _, _, _, rfl⟩ := o2_inv h
        unfold callC
        cases biOf? f <;> rfl
    | Attribute => obtain ⟨_, _, rfl⟩ := o1_inv (gd_inv h).2; rfl
    | ListComp =>
      obtain ⟨m', _, _, _, _, _, _, _, _, _, _, _, rfl⟩ := cE_comp (m := m + 1) h; rfl
    | BoolOp => cases ht
    | IfExp => cases ht
    | Compare => cases ht
    | _ => cases h

theorem step_T {n : Nat} (hE : ∀ j, j ≤ n → GE O gt N j) (hT : GT O gt N n) (hA : GTA O gt N n) (hO : GTO O gt N n) : GT O gt N (n + 1) := by
  intro C H ks m e ce hc A h₀ env L as fz ρ σ s k Q F hks h S ret
  have hEn := hE n (Nat.le_refl _)
  have plain : testKind e = true → wpAny (model C.prog C.w) A (isTrue e env (eval e env)) Q noE s := fun ht =>
    r_plainTest hEn H hc F hks (tsC_plain (cE_plain H.gt hc ht) h) S ret (isTrue_kind ht)
  cases e with
  | BoolOp op es p =>
    cases op with
    | And =>
      obtain ⟨m', ces, h1, rfl⟩ := cE_bool hc
      exact hA C H ks m' es ces h1 A h₀ env L as fz ρ σ s _ p _ _ F hks h S ret
    | Or =>
      obtain ⟨m', ces, h1, rfl⟩ := cE_bool hc
      exact hO C H ks m' es ces h1 A h₀ env L as fz ρ σ s _ p _ _ F hks h S ret
  | UnaryOp op x p =>
    cases op with
    | Not =>
      obtain ⟨m', f, c, h0, h1, rfl⟩ := cE_un hc
      cases h0
      refine isTrue_not (hT C H ks m' x c h1 A h₀ env L as fz ρ σ s _ _ F hks h S ?_)
      intro b as1 fz1 σ1 s1 k1 x1 S1
      exact ret _ _ _ _ _ k1 x1 S1
    | _ => exact plain rfl
  | IfExp a b c p =>
    obtain ⟨m', x, y, z, h1, h2, h3, rfl⟩ := cE_ite hc
    refine isTrue_IfExp (hT C H ks m' _ _ h1 A h₀ env L as fz ρ σ s _ _ F hks h S ?_)
    intro b as1 fz1 σ1 s1 k1 x1 S1
    cases b with
    | true => exact hT C H ks m' _ _ h2 A h₀ env L as1 fz1 ρ σ1 s1 _ _ F hks k1 S1 (ret.ext x1)
    | false => exact hT C H ks m' _ _ h3 A h₀ env L as1 fz1 ρ σ1 s1 _ _ F hks k1 S1 (ret.ext x1)
  | Compare l ops rs p =>
    obtain ⟨m', op, r, a, b, rfl, rfl, hns, h1, h2, rfl⟩ := cE_cmp hc
    cases n with
    | zero => exact h.elim
    | succ n' =>
    obtain ⟨A₀, base, outer, fenv, FF, V⟩ := id F
    have hE' := hE n' (Nat.le_succ _)
    refine wpAny_isTrue_Compare1 (hE' C H ks m' _ _ h1 A h₀ env L as fz ρ σ s _ _ F hks h S ?_) (behind_of hns)
    intro v d as1 fz1 σ1 s1 k1 x1 S1 R1
    refine hE' C H ks m' _ _ h2 A h₀ env L as1 fz1 ρ σ1 s1 _ _ F hks k1 S1 ?_
    intro u e as2 fz2 σ2 s2 k2 x2 S2 R2
    exact s_cmp FF k2 S2 (R1.mono x2) R2 fun b tk hb => wpAny_truthy_bool (ret _ _ _ _ _ hb (x1.trans x2) (S2.toks tk))
  | _ => exact plain rfl

theorem all_E : ∀ n, (∀ j, j ≤ n → GE O gt N j) ∧ (∀ j, j ≤ n → GL O gt N j) ∧ GA O gt N n ∧ GO O gt N n ∧ GD O gt N n ∧ GT O gt N n ∧ GTA O gt N n ∧ GTO O gt N n
  | 0 => by
    refine ⟨?_, ?_, ?_, ?_, ?_, ?_, ?_, ?_⟩
    · intro j hj; cases Nat.le_zero.mp hj; intro C _ ks m e ce _ A h₀ env L as fz ρ σ s k Q _ _ h; exact h.elim
    · intro j hj; cases Nat.le_zero.mp hj; intro C _ ks m e ce _ A h₀ env L as fz ρ σ s k pos Q _ _ h; exact h.elim
    · intro C _ ks m e ce _ A h₀ env L as fz ρ σ s k pos Q _ _ h; exact h.elim
    · intro C _ ks m e ce _ A h₀ env L as fz ρ σ s k pos Q _ _ h; exact h.elim
    · intro C _ ks m e vs ce _ A h₀ env L as fz ρ σ s k pos Q _ _ h; exact h.elim
    · intro C _ ks m e ce _ A h₀ env L as fz ρ σ s k Q _ _ h; exact h.elim
    · intro C _ ks m e ce _ A h₀ env L as fz ρ σ s k pos wh Q _ _ h; exact h.elim
    · intro C _ ks m e ce _ A h₀ env L as fz ρ σ s k pos wh Q _ _ h; exact h.elim
  | n + 1 => by
    obtain ⟨hE, hL, hA, hO, hD, hT, hTA, hTO⟩ := all_E n
    have e := step_E hE hL hA hO hD hT (step_C hE)
    have l := step_L (hE n (Nat.le_refl _)) (hL n (Nat.le_refl _))
    refine ⟨fun j hj => ?_, fun j hj => ?_, step_A (hE n (Nat.le_refl _)) hA, step_O (hE n (Nat.le_refl _)) hO, step_D (hE n (Nat.le_refl _)) hD, step_T hE hT hTA hTO, step_TA hT hTA, step_TO hT hTO⟩
    · rcases Nat.lt_or_eq_of_le hj with h | h
      · exact hE j (Nat.le_of_lt_succ h)
      · subst h; exact e
    · rcases Nat.lt_or_eq_of_le hj with h | h
      · exact hL j (Nat.le_of_lt_succ h)
      · subst h; exact l
theorem ok_E (n : Nat) : GE O gt N n := (all_E n).1 n (Nat.le_refl _)
theorem ok_T (n : Nat) : GT O gt N n := (all_E n).2.2.2.2.2.1
end
end
section
inductive FlR (as : List Addr) (fz : Cells) : Fl → Flow → Prop
  | nxt : FlR as fz .nxt .next
  | ret {d : PV} {v : Value} : VR as fz v d → FlR as fz (.ret d) (.ret v)
  | cnt : FlR as fz .cnt .cont
  | brk : FlR as fz .brk .brk
theorem FlR.mono {as as' : List Addr} {fz fz' : Cells} (x : Ext as fz as' fz') {fl : Fl} {f : Flow} (h : FlR as fz fl f) : FlR as' fz' fl f := by
  cases h with
  | nxt => exact .nxt
  | ret h => exact .ret (h.mono x)
  | cnt => exact .cnt
  | brk => exact .brk

noncomputable def RetS (C : Cx) (h₀ : Heap) (L : Addr) (env : Env) (as : List Addr) (fz : Cells) (k : KontS) (Q : Flow → Shared → Prop) : Prop :=
  ∀ fl fv as' fz' ρ' σ' s', k fl ρ' σ' → Ext as fz as' fz' → St C h₀ L env as' fz' ρ' σ' s' → FlR as' fz' fl fv → Q fv s'
theorem RetS.ext {C : Cx} {h₀ : Heap} {L : Addr} {env : Env} {as as' : List Addr} {fz fz' : Cells} {k : KontS} {Q : Flow → Shared → Prop} (h : RetS C h₀ L env as fz k Q) (x : Ext as fz as' fz') : RetS C h₀ L env as' fz' k Q :=
  fun fl fv bs gz ρ' σ' s' hk y S R => h fl fv bs gz ρ' σ' s' hk (x.trans y) S R

/-- the frame itself -/
structure InS (C : Cx) (N : Nat) (A : Around) (h₀ : Heap) (env : Env) (L : Addr) : Prop where
  e : InE C N A h₀ env L
  loc : env.locals = L
  kp : ∀ as fz m m', C.kp as fz m → C.kp as fz m'
theorem InS.hid {C : Cx} {N : Nat} {A : Around} {h₀ : Heap} {env : Env} {L : Addr} {hid : Cells} (F : InS C N A h₀ env L) : InS { C with hid := hid } N A h₀ env L := ⟨F.e.hid, F.loc, F.kp⟩

variable (O : Ops) (gt : List (Txt × CE)) (N : Nat)
noncomputable def GS (n : Nat) : Prop := ∀ (C : Cx), OKs C N gt O → ∀ (ks : Kinds) (m : Nat) (st : Stmt),
  ∀ (A : Around) (h₀ : Heap) (env : Env) (L : Addr) (as : List Addr) (fz : Cells) (ρ : Loc) (σ : Sto) (s : Shared) (k : KontS) (Q : Flow → Shared → Prop),
    InS C N A h₀ env L → KsOK ks env → exC O n (cS gt ks m st) ρ σ k → St C h₀ L env as fz ρ σ s → RetS C h₀ L env as fz k Q → wpAny (model C.prog C.w) A (exec st env) Q noE s
noncomputable def GB (n : Nat) : Prop := ∀ (C : Cx), OKs C N gt O → ∀ (ks : Kinds) (m : Nat) (l : List Stmt),
  ∀ (A : Around) (h₀ : Heap) (env : Env) (L : Addr) (as : List Addr) (fz : Cells) (ρ : Loc) (σ : Sto) (s : Shared) (k : KontS) (Q : Flow → Shared → Prop),
    InS C N A h₀ env L → KsOK ks env → exB O n (cB gt ks m l) ρ σ k → St C h₀ L env as fz ρ σ s → RetS C h₀ L env as fz k Q → wpAny (model C.prog C.w) A (execs l env) Q noE s

section
variable {O : Ops} {gt : List (Txt × CE)} {N : Nat}

theorem swap_free {e : Expr} {t : Option Expr} {line : Nat} {env : Env} (h : swapFree e = true) : swapsWith e t line env = pure false := by
  cases e <;> first | rfl | cases h
theorem swap_other {e t : Expr} {line : Nat} {env : Env} (h : ∀ x p, t ≠ .Name x p) : swapsWith e (some t) line env = pure false := by
  cases e with
  | ListComp => cases t with
    | Name x p => exact absurd rfl (h x p)
    | _ => rfl
  | SetComp => cases t with
    | Name x p => exact absurd rfl (h x p)
    | _ => rfl
  | DictComp => cases t with
    | Name x p => exact absurd rfl (h x p)
    | _ => rfl
  | _ => rfl
theorem swap_comp {elt : Expr} {gens : List Comprehension} {sc : Scope} {p : Pos} {x : Str} {px : Pos} {line : Nat} {env : Env} : ∃ b, swapsWith (.ListComp elt gens sc p) (some (.Name x px)) line env = pure b := ⟨_, rfl⟩
theorem cE_swap {ks : Kinds} {m : Nat} {e : Expr} {c : CE} (h : cE gt ks m e = some c) : swapFree e = true ∨ ∃ elt gens sc p, e = .ListComp elt gens sc p := by
  cases e with
  | ListComp elt gens sc p => exact .inr ⟨_, _, _, _, rfl⟩
  | SetComp => cases m <;> cases h
  | DictComp => cases m <;> cases h
  | _ => exact .inl rfl

theorem step_B {n : Nat} (hS : GS O gt N n) (hB : GB O gt N n) : GB O gt N (n + 1) := by
  intro C K ks m l A h₀ env L as fz ρ σ s k Q F hks h S ret
  cases m with
  | zero =>
    cases n with
    | zero => exact h.elim
    | succ n => exact h.elim
  | succ m =>
    cases l with
    | nil =>
      exact wpAny_execs_nil (ret _ _ _ _ _ _ _ h (Ext.refl _ _) S .nxt)
    | cons st r =>
      refine wpAny_execs_cons (hS C K ks m st A h₀ env L as fz ρ σ s _ _ F hks h S ?_)
      intro fl fv as' fz' ρ' σ' s' hk x S' R
      cases R with
      | nxt => exact hB C K ks m r A h₀ env L as' fz' ρ' σ' s' _ _ F hks hk S' (ret.ext x)
      | ret hv => exact ret _ _ _ _ _ _ _ hk x S' (.ret hv)
      | cnt => exact ret _ _ _ _ _ _ _ hk x S' .cnt
      | brk => exact ret _ _ _ _ _ _ _ hk x S' .brk

theorem r_while {n : Nat} (hB : ∀ j, j ≤ n → GB O gt N j) {C : Cx} (K : OKs C N gt O) {ks : Kinds} {m : Nat} {t : Expr} {ct : CE} {b : List Stmt} {pos : Pos} (hc : cE gt ks m t = some ct) {A : Around} {h₀ : Heap} {env : Env} {L : Addr} {as : List Addr} {fz : Cells} {ρ : Loc} {σ : Sto} {s : Shared} {k : KontS} {Q : Flow → Shared → Prop}
    (F : InS C N A h₀ env L) (hks : KsOK ks env) (h : whC O (n + 1) ct (cB gt ks m b) ρ σ k) (S : St C h₀ L env as fz ρ σ s) (ret : RetS C h₀ L env as fz k Q) : wpAny (model C.prog C.w) A (exec (.While t b [] pos) env) Q noE s := by
  refine wpAny_While (codeAny_whileLoop (fun kk s' => ∃ as' fz' ρ' σ', kk ≤ n + 1 ∧ whC O kk ct (cB gt ks m b) ρ' σ' k ∧ Ext as fz as' fz' ∧ St C h₀ L env as' fz' ρ' σ' s') ?_ (n + 1) ⟨as, fz, ρ, σ, Nat.le_refl _, h, Ext.refl _ _, S⟩)
  rintro kk s' ⟨as', fz', ρ', σ', hkk, hw, x', S'⟩
  cases kk with
  | zero => exact hw.elim
  | succ j =>
    refine wpAny_mono (ok_T (O := O) (gt := gt) (N := N) j C K ks m t ct hc A h₀ env L as' fz' ρ' σ' s' _ _ F.e hks hw S' ?_) (fun _ _ h => h) (fun _ _ e => e.elim)
    intro bb as2 fz2 σ2 s2 k2 x2 S2
    cases bb with
    | false =>
      simp only [Bool.false_eq_true, if_false]
      exact wpAny_execs_nil (ret _ _ _ _ _ _ _ k2 (x'.trans x2) S2 .nxt)
    | true =>
      simp only [if_true]
      refine wpAny_mono (hB j (Nat.le_of_succ_le_succ hkk) C K ks m b A h₀ env L as2 fz2 ρ' σ2 s2 _ _ F hks k2 S2 ?_) (fun _ _ h => h) (fun _ _ e => e.elim)
      intro fl fv as3 fz3 ρ3 σ3 s3 k3 x3 S3 R3
      have x13 := (x'.trans x2).trans x3
      cases R3 with
      | nxt => exact ⟨j, Nat.lt_succ_self _, as3, fz3, ρ3, σ3, Nat.le_of_succ_le hkk, k3, x13, S3⟩
      | cnt => exact ⟨j, Nat.lt_succ_self _, as3, fz3, ρ3, σ3, Nat.le_of_succ_le hkk, k3, x13, S3⟩
      | brk => exact ret _ _ _ _ _ _ _ k3 x13 S3 .nxt
      | ret hv => exact ret _ _ _ _ _ _ _ k3 x13 S3 (.ret hv)

theorem InE.kind {C : Cx} {A : Around} {h₀ : Heap} {env : Env} {L : Addr} (F : InE C N A h₀ env L) : env.scope.kind = .function := by
  obtain ⟨_, _, _, _, _, V⟩ := F
  exact V.kind

theorem frC_c {n : Nat} {xs : List Txt} {one : Bool} {b : List CS} {src : Option Nat} {all r : List PV} {d : PV} {ρ : Loc} {σ : Sto} {k : KontS} (h : frC O (n + 1) xs one b src all (d :: r) ρ σ k) :
    bindT xs one d ρ fun ρ => exB O n b ρ σ (lpK (fun ρ σ k => srcOk src all σ ∧ frC O n xs one b src all r ρ σ k) k) := h
inductive FrAt (O : Ops) (C : Cx) (h₀ : Heap) (L : Addr) (env : Env) (n : Nat) (xs : List Txt) (one : Bool) (b : List CS) (src : Option Nat) (al all : List PV) (k : KontS) (I : Addr) (as1 : List Addr) (fz1 : Cells) : Nat → Shared → Prop
  | mk {i j : Nat} {oI : Obj} {as' : List Addr} {fz' : Cells} {ρ' : Loc} {σ' : Sto} {s' : Shared} : i ≤ all.length → j ≤ n → ItOb as' fz' src all i oI → srcOk src all σ' → Ext as1 fz1 as' fz' → frC O j xs one b src al (all.drop i) ρ' σ' k → St { C with hid := (I, oI) :: C.hid } h₀ L env as' fz' ρ' σ' s' →
      FrAt O C h₀ L env n xs one b src al all k I as1 fz1 (all.length + 1 - i) s'

theorem r_for {n : Nat} (hB : ∀ j, j ≤ n → GB O gt N j) {C : Cx} (K : OKs C N gt O) {ks : Kinds} {m : Nat} {target it : Expr} {xs : List Txt} {one : Bool} {cit : CE} {b : List Stmt} {pos : Pos} (hns : notSet it = true) (hT : TgtOK ks target xs one) (hc : cE gt ks m it = some cit) {A : Around} {h₀ : Heap} {env : Env} {L : Addr} {as : List Addr} {fz : Cells} {ρ : Loc} {σ : Sto} {s : Shared} {k : KontS} {Q : Flow → Shared → Prop}
    (F : InS C N A h₀ env L) (hks : KsOK ks env) (h : exC O (n + 1) (.fors xs one cit (cB gt ks m b)) ρ σ k) (S : St C h₀ L env as fz ρ σ s) (ret : RetS C h₀ L env as fz k Q) : wpAny (model C.prog C.w) A (exec (.For target it b [] pos) env) Q noE s := by
  refine wpAny_For ?_ (not_set hns)
  refine ok_E (O := O) (gt := gt) (N := N) n C K ks m it cit hc A h₀ env L as fz ρ σ s _ _ F.e hks h S ?_
  intro v d as1 fz1 σ1 s1 k1 x1 S1 R1
  obtain ⟨src, all, al, hso, hrb, hlen, hsk, hal, hev⟩ := srcP_inv k1
  clear k1
  refine r_iter S1 R1 hso hrb fun o hI hfr => ?_
  obtain ⟨SI, nI⟩ := S1.hide o hfr
  generalize hI' : s1.heap.objs.size = I at SI nI ⊢
  refine codeAny_forLoop_any (FrAt O C h₀ L env n xs one (cB gt ks m b) src al all k I as1 fz1) ?_ (all.length + 1)
    (.mk (i := 0) (Nat.zero_le _) (Nat.le_refl n) hI hsk (Ext.refl _ _) hev SI)
  intro kk s' hat
  obtain @⟨i, j, oI, as', fz', ρ', σ', _, hi, hj, hI', hsk', x', hev', S'⟩ := hat
  by_cases hlt : i < all.length
  · have he : all[i]? = some all[i] := List.getElem?_eq_getElem hlt
    refine r_next F.e.handled nI hI' hsk' S' he ?_
    intro v oI2 s2 hv hI2 S2 hgo
    dsimp only
    refine hgo _ _ _ ?_
    rw [List.drop_eq_getElem_cons hlt] at hev'
    cases j with
    | zero => exact hev'.elim
    | succ j =>
    have B := binds_frame (C := { C with hid := (I, oI2) :: C.hid }) (A := A) (h₀ := h₀) (env := env) (L := L) (as := as') (fz := fz') (σ := σ') F.loc F.e.kind F.kp
    refine wpAny_mono (r_bind B hks F.e.handled hT (frC_c hev') hv S2 ?_) (fun _ _ h => h) (fun _ _ e => e.elim)
    intro ρ2 s3 hk3 S3
    refine wpAny_mono (hB j (Nat.le_of_succ_le hj) { C with hid := (I, oI2) :: C.hid } K.hid ks m b A h₀ env L as' fz' ρ2 σ' s3 _ _ F.hid hks hk3 S3 ?_) (fun _ _ h => h) (fun _ _ e => e.elim)
    intro fl fv as3 fz3 ρ3 σ3 s4 k4 x4 S4 R4
    have go : (srcOk src al σ3 ∧ frC O j xs one (cB gt ks m b) src al (all.drop (i + 1)) ρ3 σ3 k) → ∃ mm, mm < all.length + 1 - i ∧ FrAt O C h₀ L env n xs one (cB gt ks m b) src al all k I as1 fz1 mm s4 := by
      rintro ⟨h1, h2⟩
      refine ⟨all.length + 1 - (i + 1), lt_sub hlt, .mk (i := i + 1) hlt (Nat.le_of_succ_le hj) (hI2.mono x4) ?_ (x'.trans x4) h2 S4⟩
      rcases hal with rfl | rfl
      · trivial
      · exact h1
    have out : St C h₀ L env as3 fz3 ρ3 σ3 s4 := S4.unhide (tk := s4.toks) nI fun _ _ _ e => e
    cases R4 with
    | nxt => exact go k4
    | cnt => exact go k4
    | brk => exact ret _ _ _ _ _ _ _ k4 ((x1.trans x').trans x4) out .nxt
    | ret hv => exact ret _ _ _ _ _ _ _ k4 ((x1.trans x').trans x4) out (.ret hv)
  · have hin : i = all.length := Nat.le_antisymm hi (Nat.not_lt.mp hlt)
    refine r_done F.e.handled nI hI' hsk' S' hin ?_
    intro s2 S2
    have hnil : all.drop i = [] := List.drop_eq_nil_of_le (Nat.le_of_eq hin.symm)
    rw [hnil] at hev'
    cases j with
    | zero => exact hev'.elim
    | succ j =>
    exact wpAny_execs_nil (ret _ _ _ _ _ _ _ hev' (x1.trans x') S2 .nxt)
end
end
section
section
variable {O : Ops} {gt : List (Txt × CE)} {N : Nat}

theorem not_inter {env : Env} (h : env.scope.kind = .function) : interactive env = false := by unfold interactive; rw [h]; rfl
theorem swapped_none {ts : List Expr} {k : Nat} {tp : Pos} {e : Expr} {env : Env} (h : notTup e = true) : swappedStores [.Tuple ts k tp] e env = pure none := by
  cases e <;> first | rfl | cases h
theorem swapped_two {a b : Str} {pa pb tp p1 p2 : Pos} {k kk : Nat} {f v : Expr} {as' : List Expr} {kw : List Keyword} {env : Env} (hf : env.scope.kind = .function) (hl : Nat.beq pa.line pb.line = true) (hab : teq (sT a) (sT b) = false) (ha : env.kindOf a = some .local) (hb : env.kindOf b = some .local) (hv : isStar v = false) :
    swappedStores [.Tuple [.Name a pa, .Name b pb] k tp] (.Tuple [.Call f as' kw p1, v] kk p2) env = pure (some [a, b]) := by
  have hbk : env.blockKind = .function := by unfold Env.blockKind; rw [hf]; rfl
  have hl' : pb.line = pa.line := (Nat.eq_of_beq_eq_true hl).symm
  have hne : (a == b) = false := by rw [← teq_str]; exact hab
  have hne' : (b == a) = false := by
    rw [beq_eq_false_iff_ne] at hne ⊢
    exact fun e => hne e.symm
  have hs : (([.Call f as' kw p1, v] : List Expr).any fun | .Starred .. => true | _ => false) = false := by
    cases v <;> first | rfl | cases hv
  have hfs : ([.Call f as' kw p1, v] : List Expr).all (foldedForSure 8) = false := rfl
  have hca : ([.Call f as' kw p1, v] : List Expr).all (constantsAlone 8) = false := rfl
  have hed : ([a, b] : List Str).eraseDups = [a, b] := by
    simp [List.eraseDups_cons, hne']
  have e1 : (Expr.Name a pa).pos.line = pa.line := rfl
  unfold swappedStores
  simp only [hbk, hfs, hca, ha, hb, hl', List.filterMap_cons, List.filterMap_nil]
  cases v <;> first | (cases hv; done) | simp [hed, e1]

theorem swap_sole {ts : List Expr} {k : Nat} {p : Pos} {e : Expr} {line : Nat} {env : Env} : swapsWithSole [.Tuple ts k p] e line env = pure false := by
  show swapsWith e (some (.Tuple ts k p)) line env = pure false
  exact swap_other (by intro _ _ q; cases q)

theorem exC_sob {α : Type} {x : Option α} {f : α → CS} {n : Nat} {ρ : Loc} {σ : Sto} {k : KontS} (h : exC O n (sob x f) ρ σ k) : ∃ a, x = some a ∧ exC O n (f a) ρ σ k := by
  cases x with
  | none => cases n <;> exact h.elim
  | some a => exact ⟨a, rfl, h⟩
theorem exC_sgd {b : Bool} {c : CS} {n : Nat} {ρ : Loc} {σ : Sto} {k : KontS} (h : exC O n (sgd b c) ρ σ k) : b = true ∧ exC O n c ρ σ k := by
  cases b with
  | false => cases n <;> exact h.elim
  | true => exact ⟨rfl, h⟩
theorem exC_stop {n : Nat} {ρ : Loc} {σ : Sto} {k : KontS} (h : exC O n .stop ρ σ k) : False := by
  cases n <;> exact h
theorem nmP_some {e : Expr} {a : Str × Pos} (h : nmP? e = some a) : e = .Name a.1 a.2 := by
  cases e <;> first | (cases h; rfl) | cases h
theorem tupE_some {e : Expr} {es : List Expr} (h : tupE? e = some es) : ∃ k p, e = .Tuple es k p := by
  cases e <;> first | (cases h; exact ⟨_, _, rfl⟩) | cases h
theorem isCall_some {e : Expr} (h : isCall e = true) : ∃ f as kw p, e = .Call f as kw p := by
  cases e <;> first | exact ⟨_, _, _, _, rfl⟩ | cases h
theorem locN_kind {ks : Kinds} {env : Env} (hks : KsOK ks env) {x : Str} {t : Txt} (h : locN ks x = some t) : t = sT x ∧ env.kindOf x = some .local := by
  obtain ⟨h1, rfl⟩ := locN_inv h
  exact ⟨rfl, hks _ _ h1 nofun⟩

section
variable {n m : Nat} {C : Cx} {ks : Kinds} {A : Around} {h₀ : Heap} {env : Env} {L : Addr} {as : List Addr} {fz : Cells} {ρ : Loc} {σ : Sto} {s : Shared} {k : KontS} {Q : Flow → Shared → Prop}

theorem ev_E (K : OKs C N gt O) (F : InS C N A h₀ env L) (hks : KsOK ks env) {e : Expr} {c : CE} (hc : cE gt ks m e = some c) {kv : Kont} {Qv : Value → Shared → Prop} (h : evC O n c ρ σ kv) (S : St C h₀ L env as fz ρ σ s) (ret : RetOK C h₀ L env as fz ρ kv Qv) :
    wpAny (model C.prog C.w) A (eval e env) Qv noE s := ok_E (O := O) (gt := gt) (N := N) n C K ks m e c hc A h₀ env L as fz ρ σ s kv Qv F.e hks h S ret

theorem a_name (K : OKs C N gt O) (F : InS C N A h₀ env L) (hks : KsOK ks env) {x : Str} {px pp : Pos} {e : Expr} {c : CE} (hk : env.kindOf x = some .local) (hc : cE gt ks m e = some c) (h : exC O (n + 1) (.asn (sT x) c) ρ σ k)
    (S : St C h₀ L env as fz ρ σ s) (ret : RetS C h₀ L env as fz k Q) : wpAny (model C.prog C.w) A (exec (.Assign [.Name x px] e pp) env) Q noE s := by
  have plain : swapsWith e (some (.Name x px)) pp.line env = pure false → wpAny (model C.prog C.w) A (exec (.Assign [.Name x px] e pp) env) Q noE s := by
    intro hsw
    refine wpAny_Assign_Name (ev_E K F hks hc h S ?_) hsw
    intro v d as1 fz1 σ1 s1 k1 x1 S1 R1
    exact (binds_frame F.loc F.e.kind F.kp).store x v d ρ s1 _ hk R1 S1 fun s' S' => ret _ _ _ _ _ _ _ k1 x1 S' .nxt
  rcases cE_swap hc with hf | ⟨elt, gens, sc, p, rfl⟩
  · exact plain (swap_free hf)
  · obtain ⟨b, hb⟩ := swap_comp (elt := elt) (gens := gens) (sc := sc) (p := p) (x := x) (px := px) (line := pp.line) (env := env)
    cases b with
    | false => exact plain hb
    | true =>
      cases n with
      | zero => exact h.elim
      | succ n' =>
      rw [exec_Assign_Name_used _ _ _ _ hb]
      refine wpAny_bind (wpAny_standAt (wpAny_bind ?_))
      show wpAny _ A (do let _ ← comprehension (.ListComp elt gens sc p) sc env (firstIterPos gens p) (newList []) (firstAsync gens) (firstIter gens env) (some (assign (.Name x px) env))) _ _ s
      refine wpAny_bind (wpAny_mono (comp_core (n := n') (fun j _ => ok_E j) (some (assign (.Name x px) env)) elt gens sc p _ C K ks m c hc A h₀ env L as fz ρ σ s _ (fun _ s' => Q .next s') F.e hks h S ?_) (fun _ s' hq => wpAny_pure (wpAny_pure hq)) fun _ _ e => e)
      intro P D oC mc as2 fz2 σ2 s2 d hk2 x2 S2 R2 hob nP
      have B2 := binds_frame (C := { C with hid := (P, oC) :: C.hid }) (A := A) (h₀ := h₀) (env := env) (L := L) (as := as2) (fz := fz2) (σ := σ2) F.loc F.e.kind F.kp
      refine wpAny_assign_Name (B2.store x (.ref D) d ρ s2 _ hk R2 S2 fun s3 S3 => ?_)
      have hP : s3.heap.get? P = some oC := (St.beside S3 nP (h' := s3.heap) fun _ _ _ e => e).1.1
      obtain ⟨es, ep, e1, e2, e3⟩ := id hob
      exact ⟨mc, ⟨oC, es, ep, hP, e1, e2, e3⟩, fun h' hs' => ret _ _ _ _ _ _ _ hk2 x2 (St.unhide (tk := s3.toks) S3 nP fun b ob hb e => hs'.extBut b ob hb e) .nxt⟩

theorem a_swap (K : OKs C N gt O) (F : InS C N A h₀ env L) (hks : KsOK ks env) {a b : Str} {pa pb tp p1 p2 pp : Pos} {kk kk' : Nat} {f v : Expr} {as' : List Expr} {kw : List Keyword} {c : CE} (hl : Nat.beq pa.line pb.line = true) (hab : teq (sT a) (sT b) = false)
    (ha : env.kindOf a = some .local) (hb : env.kindOf b = some .local) (hst : isStar v = false) (hc : cE gt ks m (.Tuple [.Call f as' kw p1, v] kk' p2) = some c) (h : exC O (n + 1) (.asn2 (sT a) (sT b) c) ρ σ k)
    (S : St C h₀ L env as fz ρ σ s) (ret : RetS C h₀ L env as fz k Q) : wpAny (model C.prog C.w) A (exec (.Assign [.Tuple [.Name a pa, .Name b pb] kk tp] (.Tuple [.Call f as' kw p1, v] kk' p2) pp) env) Q noE s := by
  refine Assign_Tuple_swapped (names := [a, b]) (ev_E K F hks hc h S ?_) swap_sole (swapped_two F.e.kind hl hab ha hb hst)
  intro v d as1 fz1 σ1 s1 k1 x1 S1 R1
  obtain ⟨ds, rfl, k1⟩ := onT_inv k1
  obtain ⟨d1, d2, rfl, k1⟩ := on2_inv k1
  obtain ⟨T, vs, nn, rfl, hT, r⟩ := R1.tup_inv
  cases r with
  | cons h1 r =>
    cases r with
    | cons h2 r =>
      cases r
      rename_i v1 v2
      refine unpackItems_tuple F.e.handled (items := [v1, v2].toArray) ⟨_, S1.atFz _ hT, rfl, nn, rfl⟩ fun h' hx => ?_
      have S2 := S1.grow (h' := h') fun b ob e => hx b ob (Nat.ne_of_lt (Heap.lt_size e)) e
      have B := binds_frame (C := C) (A := A) (h₀ := h₀) (env := env) (L := L) (as := as1) (fz := fz1) (σ := σ1) F.loc F.e.kind F.kp
      show wpAny _ _ (assignInOrder [bindName env b, bindName env a] [v2, v1]) _ _ _
      refine assignInOrder_cons (bindName_ (B.store b v2 d2 ρ _ _ hb h2 S2 fun s3 S3 => ?_))
      refine assignInOrder_cons (bindName_ (B.store a v1 d1 _ _ _ ha h1 S3 fun s4 S4 => ?_))
      exact wpAny_pure (ret _ _ _ _ _ _ _ k1 x1 S4 .nxt)

theorem a_asn (K : OKs C N gt O) (F : InS C N A h₀ env L) (hks : KsOK ks env) {t e : Expr} {pp : Pos} (h : exC O (n + 1) (asnE ks t e (cE gt ks m)) ρ σ k)
    (S : St C h₀ L env as fz ρ σ s) (ret : RetS C h₀ L env as fz k Q) : wpAny (model C.prog C.w) A (exec (.Assign [t] e pp) env) Q noE s := by
  cases t with
  | Name x px =>
    obtain ⟨x', hx, h⟩ := exC_sob h
    obtain ⟨c, hc, h⟩ := exC_sob h
    obtain ⟨rfl, hk⟩ := locN_kind hks hx
    exact a_name K F hks hk hc h S ret
  | Tuple ts kk tp =>
    have h : exC O (n + 1) (tupA ks ts e (cE gt ks m)) ρ σ k := h
    unfold tupA at h
    cases hnt : notTup e with
    | true =>
      rw [hnt] at h
      obtain ⟨xs, hn, h⟩ := exC_sob h
      obtain ⟨c, hc, h⟩ := exC_sob h
      refine Assign_Tuple (ev_E K F hks hc h S ?_) swap_sole (swapped_none hnt)
      intro v d as1 fz1 σ1 s1 k1 x1 S1 R1
      refine r_bind (binds_frame F.loc F.e.kind F.kp) hks F.e.handled (.inr ⟨rfl, ts, kk, tp, rfl, hn⟩) k1 R1 S1 ?_
      intro ρ' s2 k2 S2
      exact ret _ _ _ _ _ _ _ k2 x1 S2 .nxt
    | false =>
      rw [hnt] at h
      obtain ⟨t, ht, h⟩ := exC_sob h
      obtain ⟨a, ha, h⟩ := exC_sob h
      obtain ⟨b, hb, h⟩ := exC_sob h
      obtain ⟨es, hes, h⟩ := exC_sob h
      obtain ⟨w, hw, h⟩ := exC_sob h
      obtain ⟨hl, h⟩ := exC_sgd h
      obtain ⟨hab, h⟩ := exC_sgd h
      obtain ⟨x, hx, h⟩ := exC_sob h
      obtain ⟨y, hy, h⟩ := exC_sob h
      obtain ⟨hf, h⟩ := exC_sgd h
      obtain ⟨hst, h⟩ := exC_sgd h
      obtain ⟨c, hc, hz⟩ := exC_sob h
      obtain ⟨t1, t2⟩ := t
      obtain ⟨w1, w2⟩ := w
      obtain ⟨a, pa⟩ := a
      obtain ⟨b, pb⟩ := b
      cases two_inv ht
      cases two_inv hw
      cases nmP_some ha
      cases nmP_some hb
      obtain ⟨kk', p2, rfl⟩ := tupE_some hes
      obtain ⟨f, as', kw, p1, rfl⟩ := isCall_some hf
      obtain ⟨rfl, hka⟩ := locN_kind hks hx
      obtain ⟨rfl, hkb⟩ := locN_kind hks hy
      exact a_swap K F hks hl (not_tt hab) hka hkb (not_tt hst) hc hz S ret
  | Subscript o i p =>
    obtain ⟨hf, h⟩ := exC_sgd h
    obtain ⟨co, h1, h⟩ := exC_sob h
    obtain ⟨ci, h2, h⟩ := exC_sob h
    obtain ⟨ce, h3, h⟩ := exC_sob h
    refine wpAny_Assign_Subscript (ev_E K F hks h3 h S ?_) (swap_free hf)
    intro v d as1 fz1 σ1 s1 k1 x1 S1 R1
    refine ev_E K F hks h1 k1 S1 ?_
    intro v2 d2 as2 fz2 σ2 s2 k2 x2 S2 R2
    refine ev_E K F hks h2 k2 S2 ?_
    intro v3 d3 as3 fz3 σ3 s3 k3 x3 S3 R3
    exact s_set k3 S3 (R2.mono x3) R3 (R1.mono (x2.trans x3)) fun σ' h' tk k4 S4 => ret _ _ _ _ _ _ _ k4 ((x1.trans x2).trans x3) S4 .nxt
  | Attribute o x p =>
    obtain ⟨hf, h⟩ := exC_sgd h
    obtain ⟨co, h1, h⟩ := exC_sob h
    obtain ⟨ce, h3, h⟩ := exC_sob h
    obtain ⟨A₀, base, outer, fenv, FF, V⟩ := id F.e
    refine plainObj_wpAny_Assign_Attribute (ev_E K F hks h3 h S ?_) (swap_free hf)
    intro v d as1 fz1 σ1 s1 k1 x1 S1 R1
    refine ev_E K F hks h1 k1 S1 ?_
    intro v2 d2 as2 fz2 σ2 s2 k2 x2 S2 R2
    exact s_sat FF K.att k2 S2 R2 (R1.mono x2) fun σ' h' tk k4 S4 => ret _ _ _ _ _ _ _ k4 (x1.trans x2) S4 .nxt
  | _ => exact (exC_stop h).elim

theorem a_try (hB : GB O gt N n) (K : OKs C N gt O) (F : InS C N A h₀ env L) (hks : KsOK ks env) {b : List Stmt} {f0 : Stmt} {fs : List Stmt} {pp : Pos} (h : exC O (n + 1) (.tryf (cB gt ks m b) (cB gt ks m (f0 :: fs))) ρ σ k)
    (S : St C h₀ L env as fz ρ σ s) (ret : RetS C h₀ L env as fz k Q) : wpAny (model C.prog C.w) A (exec (.Try b [] [] (f0 :: fs) pp) env) Q noE s := by
  refine wpAny_Try_finally (wpAny_mono (hB C K ks m b A h₀ env L as fz ρ σ s _ _ F hks h S ?_) (fun _ _ h => h) fun _ _ e => e.elim)
  intro fl fv as1 fz1 ρ1 σ1 s1 k1 x1 S1 R1
  have fin : FinallyPlain C.prog C.w A noE env (f0 :: fs) Q fv s1 := by
    refine wpAny_mono (hB C K ks m _ A h₀ env L as1 fz1 ρ1 σ1 s1 _ _ F hks k1 S1 ?_) (fun _ _ h => h) (fun _ _ e => e.elim)
    intro fl2 fv2 as2 fz2 ρ2 σ2 s2 k2 x2 S2 R2
    cases R2 with
    | nxt => exact ret _ _ _ _ _ _ _ k2 (x1.trans x2) S2 (R1.mono x2)
    | ret => exact k2.elim
    | cnt => exact k2.elim
    | brk => exact k2.elim
  cases R1 with
  | nxt => exact wpAny_execs_nil fin
  | ret hv => exact fin
  | cnt => exact fin
  | brk => exact fin
end

theorem step_S {n : Nat} (hB : ∀ j, j ≤ n → GB O gt N j) : GS O gt N (n + 1) := by
  intro C K ks m st A h₀ env L as fz ρ σ s k Q F hks h S ret
  cases m with
  | zero => exact (exC_stop h).elim
  | succ m =>
  cases st with
  | Return v p => cases v with
    | none =>
      cases n with
      | zero => exact h.elim
      | succ n => exact wpAny_Return_none (ret _ _ _ _ _ _ _ h (Ext.refl _ _) S (.ret .none))
    | some e =>
      obtain ⟨c, hc, h⟩ := exC_sob h
      refine wpAny_Return_some (ev_E K F hks hc h S ?_)
      intro v d as1 fz1 σ1 s1 k1 x1 S1 R1
      exact ret _ _ _ _ _ _ _ k1 x1 S1 (.ret R1)
  | Assign ts e p =>
    obtain ⟨t, ht, h⟩ := exC_sob h
    cases one_inv ht
    exact a_asn K F hks h S ret
  | Expr e p =>
    obtain ⟨hf, h⟩ := exC_sgd h
    obtain ⟨c, hc, h⟩ := exC_sob h
    rw [exec_Expr env e p (not_inter F.e.kind) (swap_free hf)]
    refine wpAny_bind (wpAny_standAt (wpAny_bind (ev_E K F hks hc h S ?_)))
    intro v d as1 fz1 σ1 s1 k1 x1 S1 R1
    exact wpAny_dropValue (ret _ _ _ _ _ _ _ k1 x1 S1 .nxt)
  | If t a b p =>
    obtain ⟨ct, hc, h⟩ := exC_sob h
    refine wpAny_If (ok_T (O := O) (gt := gt) (N := N) n C K ks m t ct hc A h₀ env L as fz ρ σ s _ _ F.e hks h S ?_)
    intro bb as1 fz1 σ1 s1 k1 x1 S1
    cases bb with
    | true => exact hB n (Nat.le_refl _) C K ks m a A h₀ env L as1 fz1 ρ σ1 s1 _ _ F hks k1 S1 (ret.ext x1)
    | false => exact hB n (Nat.le_refl _) C K ks m b A h₀ env L as1 fz1 ρ σ1 s1 _ _ F hks k1 S1 (ret.ext x1)
  | While t b o p =>
    obtain ⟨ho, h⟩ := exC_sgd h
    obtain ⟨ct, hc, hz⟩ := exC_sob h
    cases nil_of ho
    cases n with
    | zero => exact hz.elim
    | succ n' => exact r_while (n := n') (fun j hj => hB j (Nat.le_succ_of_le hj)) K hc F hks hz S ret
  | For t it b o p =>
    obtain ⟨ho, h⟩ := exC_sgd h
    obtain ⟨hns, h⟩ := exC_sgd h
    obtain ⟨x, hx, h⟩ := exC_sob h
    obtain ⟨cit, hc, hz⟩ := exC_sob h
    cases nil_of ho
    exact r_for hB K hns (tgtC_inv hx) hc F hks hz S ret
  | Continue p => exact wpAny_Continue (ret _ _ _ _ _ _ _ h (Ext.refl _ _) S .cnt)
  | Pass p => exact wpAny_Pass (ret _ _ _ _ _ _ _ h (Ext.refl _ _) S .nxt)
  | Try b hs o f p =>
    obtain ⟨hh, h⟩ := exC_sgd h
    obtain ⟨ho, h⟩ := exC_sgd h
    obtain ⟨hf, hz⟩ := exC_sgd h
    cases nil_of hh
    cases nil_of ho
    cases f with
    | nil => cases hf
    | cons f0 fs => exact a_try (hB n (Nat.le_refl _)) K F hks hz S ret
  | _ => exact (exC_stop h).elim
end
end
section
section
variable {O : Ops} {gt : List (Txt × CE)} {N : Nat}
theorem all_B : ∀ n, (∀ j, j ≤ n → GB O gt N j) ∧ GS O gt N n
  | 0 => ⟨fun j hj => by cases Nat.le_zero.mp hj; intro C _ ks m l A h₀ env L as fz ρ σ s k Q _ _ h; exact h.elim, by intro C _ ks m st A h₀ env L as fz ρ σ s k Q _ _ h; exact h.elim⟩
  | n + 1 => by
    obtain ⟨hB, hS⟩ := all_B n
    refine ⟨fun j hj => ?_, step_S hB⟩
    rcases Nat.lt_or_eq_of_le hj with h | h
    · exact hB j (Nat.le_of_lt_succ h)
    · subst h; exact step_B hS (hB n (Nat.le_refl _))
theorem ok_B (n : Nat) : GB O gt N n := (all_B n).1 n (Nat.le_refl _)
end

/-! ## defs of the text -/
structure FnT where
  ps : List Txt
  dfl : List PV
  b : List CS

noncomputable def zipL : List Txt → List PV → Option Loc
  | [], ds => (match ds with | [] => some [] | _ :: _ => .none)
  | x :: xs, ds => (match ds with | [] => .none | d :: ds => o1 (List.cons (x, d)) (zipL xs ds))
noncomputable def fillL (x : FnT) (ds : List PV) : Option Loc :=
  oe (zipL x.ps ds) some (zipL x.ps (ds ++ x.dfl))
noncomputable def retK (k : Kont) (fl : Fl) (σ : Sto) : Prop :=
  match fl with
  | .ret d => k d σ
  | .nxt => k .none σ
  | _ => False

noncomputable def scOK (scope : Scope) (names : List Str) : Bool :=
  !scope.isCoroutine && !scope.isGenerator && isFun scope.kind && (names.all fun y => scope.names.lookup y == some .local || scope.names.lookup y == some .cell) &&
    decide names.Nodup && decide ((cellsFrom 0 scope.names []).map (·.1)).Nodup

noncomputable def FnOK (K : Frag) (gt : List (Txt × CE)) (f : Addr) (x : FnT) : Prop :=
  ∃ (oc : Value) (od : Option Addr) (osl : Array (Option Value)) (name qual : Str) (params : Arguments) (body : List Stmt) (scope : Scope) (dV kV doc pm cdv ct : Value) (an : Option Addr) (names : List Str) (dvs : List Value) (m : Nat),
    K.lookup f = some ⟨oc, od, .func (fnOf name qual params body scope dV kV doc pm an cdv ct), osl⟩ ∧ codeIn K cdv qual = true ∧ names.map sT = x.ps ∧ VRs [] [] dvs x.dfl ∧
    cB gt (ksOf scope) m body = x.b ∧ scOK scope names = true ∧
    ∀ (s : Shared) (vs : List Value), K.In s.heap → (vs.length = names.length → BindsTo s (fnOf name qual params body scope dV kV doc pm an cdv ct) ⟨vs, []⟩ (names.zip vs)) ∧
      (vs.length + dvs.length = names.length → dvs ≠ [] → BindsTo s (fnOf name qual params body scope dV kV doc pm an cdv ct) ⟨vs, []⟩ (names.zip (vs ++ dvs)))

theorem zipL_nil {ds : List PV} {ρ : Loc} (h : zipL [] ds = some ρ) : ds = [] ∧ ρ = [] := by
  cases ds with
  | nil => cases h; exact ⟨rfl, rfl⟩
  | cons => cases h
theorem zipL_cons {x : Txt} {xs : List Txt} {ds : List PV} {ρ : Loc} (h : zipL (x :: xs) ds = some ρ) : ∃ d ds' r, ds = d :: ds' ∧ zipL xs ds' = some r ∧ ρ = (x, d) :: r := by
  cases ds with
  | nil => cases h
  | cons d ds => obtain ⟨r, h1, h2⟩ := o1_inv h; exact ⟨d, ds, r, rfl, h1, h2⟩
theorem zipL_len {xs : List Txt} : ∀ {ds : List PV} {ρ : Loc}, zipL xs ds = some ρ → xs.length = ds.length := by
  induction xs with
  | nil => intro ds ρ h; rw [(zipL_nil h).1]; rfl
  | cons x xs ih =>
    intro ds ρ h
    obtain ⟨d, ds', r, rfl, h1, _⟩ := zipL_cons h
    exact congrArg Nat.succ (ih h1)
/-- the first names, as the machine sees them -/
theorem zipL_lk {as : List Addr} {fz : Cells} {names : List Str} : ∀ {vs : List Value} {ds : List PV} {ρ : Loc}, zipL (names.map sT) ds = some ρ → VRs as fz vs ds → names.Nodup → ∀ {x : Str} {d : PV}, lk (sT x) ρ = some d →
    ∃ v, (x, v) ∈ names.zip vs ∧ VR as fz v d := by
  induction names with
  | nil =>
    intro vs ds ρ h _ _ x d e
    cases (zipL_nil h).2; cases e
  | cons y names ih =>
    intro vs ds ρ h r hn x d e
    obtain ⟨d', ds', ρ', rfl, q, rfl⟩ := zipL_cons h
    cases r with
    | @cons v _ _ _ hv hr =>
    rw [lk_cons] at e
    by_cases hx : x = y
    · subst hx
      rw [if_pos rfl] at e; cases e
      exact ⟨v, .head _, hv⟩
    · rw [if_neg (fun h' => hx (sT_inj h'))] at e
      obtain ⟨u, hm, hu⟩ := ih q hr (List.nodup_cons.mp hn).2 e
      exact ⟨u, .tail _ hm, hu⟩

theorem mem_zip_name {names : List Str} {vs : List Value} {x : Str} {v : Value} (h : (x, v) ∈ names.zip vs) : x ∈ names := (List.of_mem_zip h).1
theorem bindL_other {kd : Str → Option NameKind} {x : Str} : ∀ {binds : List (Str × Value)} {m : Str → Option Value}, (∀ p ∈ binds, p.1 ≠ x) → bindL kd binds m x = m x
  | [], m, _ => rfl
  | (n, v) :: r, m, h => by
    unfold bindL
    rw [bindL_other fun p hp => h p (.tail _ hp)]
    split
    · have := h (n, v) (.head _)
      simp [this.symm]
    · rfl
theorem bindC_other {kd : Str → Option NameKind} {x : Str} : ∀ {binds : List (Str × Value)} {m : Str → Option Value}, (∀ p ∈ binds, p.1 ≠ x) → bindC kd binds m x = m x
  | [], m, _ => rfl
  | (n, v) :: r, m, h => by
    unfold bindC
    rw [bindC_other fun p hp => h p (.tail _ hp)]
    split
    · rfl
    · have := h (n, v) (.head _)
      simp [this.symm]
theorem bind_at {kd : Str → Option NameKind} {x : Str} {v : Value} : ∀ {names : List Str} {vs : List Value} {m m' : Str → Option Value}, names.Nodup → (x, v) ∈ names.zip vs →
    (kd x = some .local → bindL kd (names.zip vs) m x = some v) ∧ (kd x ≠ some .local → bindC kd (names.zip vs) m' x = some v)
  | [], _, _, _, _, h => by simp at h
  | _ :: _, [], _, _, _, h => by simp at h
  | y :: names, u :: vs, m, m', hn, h => by
    rw [List.nodup_cons] at hn
    rw [List.zip_cons_cons] at h ⊢
    rcases List.mem_cons.mp h with h | h
    · cases h
      have no : ∀ p ∈ names.zip vs, p.1 ≠ x := fun p hp e => hn.1 (e ▸ (List.of_mem_zip (a := p.1) (b := p.2) hp).1)
      refine ⟨fun k => ?_, fun k => ?_⟩
      · unfold bindL; rw [bindL_other no, if_pos k]; simp
      · unfold bindC; rw [bindC_other no, if_neg k]; simp
    · unfold bindL bindC
      exact bind_at hn.2 h

theorem cellsFrom_ge : ∀ (l : List (Str × NameKind)) (n : Nat) (acc : List (Str × Addr)) (b : Nat), b ≤ n → (∀ p ∈ acc, b ≤ p.2) → ∀ p ∈ cellsFrom n l acc, b ≤ p.2
  | [], _, _, _, _, h, p, hp => h p hp
  | (x, k) :: r, n, acc, b, hb, h, p, hp => by
    unfold cellsFrom at hp
    split at hp
    · refine cellsFrom_ge r (n + 1) _ b (Nat.le_succ_of_le hb) (fun q hq => ?_) p hp
      rcases List.mem_cons.mp hq with rfl | hq
      · exact hb
      · exact h q hq
    · exact cellsFrom_ge r n acc b hb h p hp
theorem cellsAre_mem {cm : Str → Option Value} {cs : List (Str × Addr)} {cells : List (Addr × Obj)} (r : CellsAre cm cs cells) : (∀ p ∈ cells, ∃ x, (x, p.1) ∈ cs) ∧ ∀ x c, (x, c) ∈ cs → ∃ o, (c, o) ∈ cells ∧ o.data = .cell (cm x) := by
  induction r with
  | nil => exact ⟨(fun p hp => nomatch hp), (fun x c h => nomatch h)⟩
  | @cons n c o _ _ hd r ih =>
    obtain ⟨h1, h2⟩ := ih
    refine ⟨fun p hp => ?_, fun x c' h => ?_⟩
    · rcases List.mem_cons.mp hp with rfl | hp
      · exact ⟨n, .head _⟩
      · obtain ⟨x, hx⟩ := h1 p hp; exact ⟨x, .tail _ hx⟩
    · rcases List.mem_cons.mp h with h | h
      · cases h; exact ⟨o, .head _, hd⟩
      · obtain ⟨o', h3, h4⟩ := h2 x c' h; exact ⟨o', .tail _ h3, h4⟩
end
section
section
variable {O : Ops} {gt : List (Txt × CE)} {N n : Nat} {C : Cx} {A A₀ : Around} {base h₀ : Heap} {outer : List Env} {fenv env : Env} {L : Addr} {as : List Addr} {fz : Cells} {ρ : Loc} {σ : Sto} {s : Shared}

theorem scOK_of {scope : Scope} {names : List Str} (h : scOK scope names = true) : scope.isCoroutine = false ∧ scope.isGenerator = false ∧ scope.kind = .function ∧
    (∀ y ∈ names, scope.names.lookup y = some .local ∨ scope.names.lookup y = some .cell) ∧ names.Nodup ∧ ((cellsFrom 0 scope.names []).map (·.1)).Nodup := by
  unfold scOK at h
  simp only [Bool.and_eq_true, Bool.not_eq_true', List.all_eq_true, Bool.or_eq_true, beq_iff_eq, decide_eq_true_eq] at h
  obtain ⟨⟨⟨⟨⟨a, b⟩, c⟩, d⟩, e⟩, f⟩ := h
  exact ⟨a, b, isFun_of c, d, e, f⟩

/-- the state at a def's entry -/
theorem St.enter {qual : Str} {scope : Scope} {g : Heap} {L' : Addr} {h₁ : Heap} {tk : Nat} {cells : List (Addr × Obj)} {f : Addr} {cdv : Value} {names : List Str} {vs : List Value} {ds : List PV} {ρ0 : Loc} {mus : List Cells}
    (S : St C h₀ L env as fz ρ σ s) (hn : names.Nodup) (hkk : ∀ y ∈ names, scope.names.lookup y = some .local ∨ scope.names.lookup y = some .cell) (hz : zipL (names.map sT) ds = some ρ0) (r : VRs as fz vs ds)
    (R : MR C.prog C.w as fz mus as σ) (D : Sep mus fz C.hid)
    (F' : Fr g L' h₁ (bindL (envOfC qual scope L' f cdv).kindOf (names.zip vs) fun _ => none)) (N' : News g L' h₁ (cells ++ (mus.flatten ++ (fz ++ C.hid))))
    (Y : CellsAre (bindC (envOfC qual scope L' f cdv).kindOf (names.zip vs) fun _ => none) (cellsFrom (L' + 1) scope.names []) cells) (l : ∀ p ∈ mus.flatten ++ (fz ++ C.hid), p.1 < L') :
    St { C with kp := fun _ _ _ => True, kpm := fun _ _ _ _ _ _ _ => trivial } g L' (envOfC qual scope L' f cdv) as (cells ++ fz) ρ0 σ { s with heap := h₁, toks := tk } := by
  have x : Ext as fz as (cells ++ fz) := ⟨fun _ _ h => h, fun _ h => List.mem_append_right _ h⟩
  obtain ⟨y1, y2⟩ := cellsAre_mem Y
  have ge : ∀ p ∈ cells, L' < p.1 := fun p hp => by
    obtain ⟨z, hz⟩ := y1 p hp
    exact cellsFrom_ge scope.names (L' + 1) [] (L' + 1) (Nat.le_refl _) (fun _ h => nomatch h) _ hz
  have ap : ∀ p ∈ cells, ∀ q ∈ mus.flatten ++ (fz ++ C.hid), q.1 ≠ p.1 := fun p hp q hq e => Nat.lt_irrefl _ (Nat.lt_trans (l q hq) (e ▸ ge p hp))
  refine ⟨⟨S.same.1, S.same.2.1, S.same.2.2.1, .inl rfl⟩, _, mus, F', fun p hp => N' p ?_, R.mono x, ⟨D.nd, fun p hp q hq => ?_, fun p hp q hq => ?_, D.hh.2⟩, fun y d e => ?_, trivial⟩
  · simp only [List.mem_append] at hp ⊢
    rcases hp with h | (h | h) | h
    · exact .inr (.inl h)
    · exact .inl h
    · exact .inr (.inr (.inl h))
    · exact .inr (.inr (.inr h))
  · simp only [List.mem_append] at hq
    rcases hq with (hq | hq) | hq
    · exact ap q hq p (List.mem_append_left _ hp)
    · exact D.off p hp q (List.mem_append_left _ hq)
    · exact D.off p hp q (List.mem_append_right _ hq)
  · rcases List.mem_append.mp hp with hp | hp
    · exact (ap p hp q (List.mem_append_right _ (List.mem_append_right _ hq))).symm
    · exact D.hh.1 p hp q hq
  · obtain ⟨v, hm, hv⟩ := zipL_lk hz r hn e
    refine ⟨v, hv.mono x, ?_⟩
    have ba := bind_at (kd := (envOfC qual scope L' f cdv).kindOf) (m := fun _ => none) (m' := fun _ => none) hn hm
    rcases hkk y (mem_zip_name hm) with k | k
    · exact .inl ⟨k, .inl ⟨rfl, ba.1 k⟩⟩
    · have k' : (envOfC qual scope L' f cdv).kindOf y = some .cell := k
      have hb := ba.2 (by rw [k']; simp)
      have hs := cellsFrom_some (x := y) scope.names (L' + 1) [] (.inl k)
      obtain ⟨c, hc⟩ := Option.isSome_iff_exists.mp hs
      have hmem : (y, c) ∈ cellsFrom (L' + 1) scope.names [] := mem_of_lookup hc
      obtain ⟨o, ho, hd⟩ := y2 y c hmem
      exact .inr ⟨k', c, o, hc, List.mem_append_left _ ho, by rw [hd, hb]⟩

theorem enter_fn {f : Addr} {x : FnT} {vs : List Value} {ds : List PV} {ρ0 : Loc} {k : Kont} {R : Result → Shared → Prop} (X : FnOK C.K gt f x) (HO : ∀ kp kpm, OKs { C with kp := kp, kpm := kpm } N gt O)
    (F : FrOK C (N + 1) A A₀ base h₀ outer fenv L) (S : St C h₀ L env as fz ρ σ s) (r : VRs as fz vs ds) (hz : fillL x ds = some ρ0) (h : exB O n x.b ρ0 σ fun fl _ σ => retK k fl σ)
    (ret : ∀ v d as' fz' σ' s', k d σ' → Ext as fz as' fz' → St C h₀ L env as' fz' ρ σ' s' → VR as' fz' v d → R (.ok (.ret v)) s') : codeAny (model C.prog C.w) A (.call (.ref f) ⟨vs, []⟩) R s := by
  obtain ⟨oc, od, osl, name, qual, params, body, scope, dV, kV, doc, pm, cdv, ct, an, names, dvs, mm, ho, hcd, hps, hdv, hb, hsc, hbd⟩ := X
  obtain ⟨s1, s2, s3, s4, s5, s6⟩ := scOK_of hsc
  obtain ⟨m, mus, Fm, Nm, Rm, Dm, Gm⟩ := id S.ex
  have XK : C.K.In s.heap := F.X.keeps Fm.keep
  have hfull : ∃ us, BindsTo s (fnOf name qual params body scope dV kV doc pm an cdv ct) ⟨vs, []⟩ (names.zip us) ∧ ∃ es, VRs as fz us es ∧ zipL (names.map sT) es = some ρ0 := by
    unfold fillL at hz
    rw [← hps] at hz
    rcases oe_inv hz with ⟨r', q, hz⟩ | ⟨q, hz⟩
    · cases hz
      refine ⟨vs, (hbd s vs XK).1 ?_, ds, r, q⟩
      have := zipL_len q
      rw [List.length_map] at this
      rw [r.length, this]
    · have hl := zipL_len hz
      rw [List.length_map, List.length_append] at hl
      have hne : dvs ≠ [] := by
        intro e; subst e
        have q2 : x.dfl = [] := List.length_eq_zero_iff.mp hdv.length.symm
        rw [q2, List.append_nil, q] at hz
        cases hz
      refine ⟨vs ++ dvs, (hbd s vs XK).2 ?_ hne, ds ++ x.dfl, r.append (hdv.mono ⟨fun _ _ e => by simp at e, fun _ e => absurd e (List.not_mem_nil)⟩), hz⟩
      rw [r.length, hdv.length]; exact hl.symm
  obtain ⟨us, hbind, es, ru, hzu⟩ := hfull
  have hkind : ((names.zip us).all fun y => scope.names.lookup y.1 == some .local || scope.names.lookup y.1 == some .cell) = true := by
    rw [List.all_eq_true]
    intro y hy
    rcases s4 y.1 (List.of_mem_zip (a := y.1) (b := y.2) hy).1 with e | e
    · simp [e]
    · simp [e]
  refine code_defC (h₀ := h₀) (L := L) (m := m) (news := mus.flatten ++ (fz ++ C.hid)) (A₀ := A₀) (base := base) (outer := outer) (env := fenv) F.B Fm F.X Nm F.T F.hA F.hf F.hfun ho hcd (Nat.lt_of_le_of_lt (Nat.le_add_right _ _) F.depth) hbind hkind s6 ?_ s1 s2 s3
  intro g L' h₁ tk cells FG F' N' Y B' X' T' l
  have S' := S.enter (tk := tk) s5 s4 hzu ru Rm Dm F' N' Y l
  have x0 : Ext as fz as (cells ++ fz) := ⟨fun _ _ h => h, fun _ h => List.mem_append_right _ h⟩
  have FI : InS { C with kp := fun _ _ _ => True, kpm := fun _ _ _ _ _ _ _ => trivial } N (A.deeper (envOfC qual scope L' f cdv)) g (envOfC qual scope L' f cdv) L' := by
    refine ⟨⟨A, base, fenv :: outer, envOfC qual scope L' f cdv, ⟨B', X', T', Around.frames_deeper F.hA, rfl, s3, F.hh, ?_, ?_, fun a ds e => let ⟨vs', ⟨o, ho, hc, n', hd⟩, r⟩ := F.scr a ds e; ⟨vs', ⟨o, FG.keep _ _ ho, hc, n', hd⟩, r⟩⟩, ⟨s3, rfl, rfl⟩⟩, rfl, fun _ _ _ _ h => h⟩
    · have := F.depth
      show A.depth + 1 + N < recursionLimit
      omega
    · have := F.units
      show A.units + 3 + 16 * N + 128 < cLine
      omega
  refine wpAny_mono (ok_B (O := O) (gt := gt) (N := N) n _ (HO (fun _ _ _ => True) (fun _ _ _ _ _ _ _ => trivial)) (ksOf scope) mm body _ g (envOfC qual scope L' f cdv) L' as (cells ++ fz) ρ0 σ _ (fun fl _ σ => retK k fl σ) _ FI (ksOK_of (env := envOfC qual scope L' f cdv)) (hb ▸ h) S' ?_) (fun _ _ h => h) (fun _ _ e => e.elim)
  intro fl fv as' fz' ρ' σ' s' hk x' S2 R2
  obtain ⟨m2, mus2, F2, N2, Rm2, D2, _⟩ := id S2.ex
  have x := x0.trans x'
  have fin : ∀ v d, k d σ' → VR as' fz' v d → LeaveK h₀ L m g R v s' := fun v d hk hv =>
    leaveK_ F2 N2 fun F3 N3 => ret v d as' fz' σ' s' hk x ⟨⟨S2.same.1, S2.same.2.1, S2.same.2.2.1, S.same.2.2.2⟩, m, mus2, F3, N3, Rm2, D2, FRx.mono x Gm⟩ hv
  cases R2 with
  | nxt => exact fin .none .none hk .none
  | ret hv => exact fin _ _ hk hv
  | cnt => exact hk.elim
  | brk => exact hk.elim

theorem FrOK.less {M : Nat} (F : FrOK C N A A₀ base h₀ outer fenv L) (h : M ≤ N) : FrOK C M A A₀ base h₀ outer fenv L :=
  ⟨F.B, F.X, F.T, F.hA, F.hf, F.hfun, F.hh, by have := F.depth; omega, by have := F.units; omega, F.scr⟩

theorem enter_cls {D fI : Addr} {x : FnT} {vs : List Value} {ds : List PV} {ρ0 : Loc} {k : Kont} {Q : Value → Shared → Prop} (X : FnOK C.K gt fI x) (hm : makesIn C.K D = true) (hi : findIn C.K (.ref D) "__init__" = some (some (.ref fI))) (hf : isFn C.K (.ref fI) = true)
    (HO : ∀ kp kpm, OKs { C with kp := kp, kpm := kpm } N gt O)
    (F : FrOK C (N + 2) A A₀ base h₀ outer fenv L) (S : St C h₀ L env as fz ρ σ s) (r : VRs as fz vs ds) (hz : fillL x (.obj σ.length :: ds) = some ρ0)
    (h : exB O n x.b ρ0 (σ ++ [.inst D []]) fun fl _ σ' => retK (fun d σ'' => match d with | .none => k (.obj σ.length) σ'' | _ => False) fl σ')
    (ret : RetOK C h₀ L env as fz ρ k Q) : wpAny (model C.prog C.w) A (call (.ref D) vs) Q noE s := by
  obtain ⟨m, mus, Fm, Nm, Rm, Dm, Gm⟩ := id S.ex
  refine call_cls Fm F.X Nm hm hi hf ?_
  intro xa dx h' F' N' l1 l2
  have x1 : Ext as fz (as ++ [xa]) fz := ⟨fun k a e => by rw [List.getElem?_append_left (List.getElem?_eq_some_iff.mp e).1]; exact e, fun _ h => h⟩
  have S1 : St C h₀ L env (as ++ [xa]) fz ρ (σ ++ [.inst D []]) { s with heap := h' } := by
    refine ⟨S.same, m, mus ++ [[(xa, instObj D dx), (dx, dictOf [] 0)]], F', fun p hp => N' p ?_, (Rm.mono x1).snoc (.inst .nil (Nat.ne_of_gt l2)), ⟨?_, fun p hp q hq => ?_, Dm.hh⟩, FRx.mono x1 Gm⟩
    · simp only [List.flatten_append, List.flatten_cons, List.flatten_nil, List.append_nil, List.mem_append, List.mem_cons, List.not_mem_nil, or_false] at hp ⊢
      rcases hp with (h | h | h) | h
      · exact .inr (.inr (.inl h))
      · exact .inl h
      · exact .inr (.inl h)
      · exact .inr (.inr (.inr h))
    · simp only [List.flatten_append, List.flatten_cons, List.flatten_nil, List.append_nil, List.map_append, List.map_cons, List.map_nil]
      refine List.nodup_append.mpr ⟨Dm.nd, by simp; exact Nat.ne_of_gt l2, ?_⟩
      intro a ha b hb e
      obtain ⟨p, hp, e'⟩ := List.mem_map.mp ha
      have lt := l1 p (List.mem_append_left _ hp)
      simp only [List.mem_cons, List.not_mem_nil, or_false] at hb
      rcases hb with rfl | rfl
      · exact absurd (Nat.lt_trans lt l2) (by rw [e', e]; exact Nat.lt_irrefl _)
      · exact absurd lt (by rw [e', e]; exact Nat.lt_irrefl _)
    · simp only [List.flatten_append, List.flatten_cons, List.flatten_nil, List.append_nil, List.mem_append, List.mem_cons, List.not_mem_nil, or_false] at hp
      rcases hp with hp | rfl | rfl
      · exact Dm.off p hp q hq
      · exact Nat.ne_of_gt (Nat.lt_trans (l1 q (List.mem_append_right _ (List.mem_append.mpr (List.mem_append.mp hq)))) l2)
      · exact Nat.ne_of_gt (l1 q (List.mem_append_right _ (List.mem_append.mpr (List.mem_append.mp hq))))
  have hself : VR (as ++ [xa]) fz (.ref xa) (.obj σ.length) := .obj (by rw [← Rm.len.1]; simp)
  have FU : FrOK C (N + 1) (A.under (.builtin "type.__call__" ⟨.ref D :: vs, []⟩)) A₀ base h₀ outer fenv L := by
    refine ⟨F.B, F.X, F.T, F.hA, F.hf, F.hfun, F.hh, ?_, ?_, F.scr⟩
    · have := F.depth
      show A.depth + 1 + (N + 1) < recursionLimit
      omega
    · have := F.units
      show A.units + _ + 16 * (N + 1) + 128 < cLine
      have e : (Code.builtin "type.__call__" ⟨.ref D :: vs, []⟩).cUnits ≤ 16 := Nat.le_of_ble_eq_true rfl
      omega
  refine enter_fn (k := fun d σ'' => match d with | .none => k (.obj σ.length) σ'' | _ => False) X HO FU S1 (.cons hself (r.mono x1)) hz h ?_
  intro v d as' fz' σ' s' hk x' S' hv
  cases hv with
  | none => exact ⟨rfl, ret _ _ _ _ _ _ hk (x1.trans x') S' (hself.mono x')⟩
  | _ => exact hk.elim
end
end
section
inductive TE where
  | fn (x : FnT)
  | cls (f : Addr) (x : FnT)
noncomputable def lkT (f : Addr) : List (Addr × TE) → Option TE
  | [] => .none
  | (g, e) :: r => bsel (Nat.beq f g) (some e) (lkT f r)
/-- the text's defs and classes; a class's defs; fields -/
structure Tab where
  T : List (Addr × TE)
  MT : List (Addr × Txt × Addr)
  AT : List (Addr × Txt)
  SC : Option (Addr × List PV)
/-- a call, to so many calls' depth -/
noncomputable def CLn (B : Tab) : Nat → Addr → List PV → Sto → Kont → Prop
  | 0, _, _, _, _ => False
  | n + 1, f, ds, σ, k => onSome (lkT f B.T) fun e => match e with
    | .fn x => onSome (fillL x ds) fun ρ => exB ⟨CLn B n, B.MT, B.AT, B.SC⟩ 400 x.b ρ σ fun fl _ σ => retK k fl σ
    | .cls _ x => onSome (fillL x (.obj σ.length :: ds)) fun ρ => exB ⟨CLn B n, B.MT, B.AT, B.SC⟩ 400 x.b ρ (σ ++ [.inst f []]) fun fl _ σ' => retK (fun d σ'' => match d with | .none => k (.obj σ.length) σ'' | _ => False) fl σ'
noncomputable def opsN (B : Tab) (n : Nat) : Ops := ⟨CLn B n, B.MT, B.AT, B.SC⟩

theorem CLn_fnI {B : Tab} {n : Nat} {f : Addr} {x : FnT} {ds : List PV} {σ : Sto} {k : Kont} {ρ : Loc} (hx : lkT f B.T = some (.fn x)) (hz : fillL x ds = some ρ) (h : exB ⟨CLn B n, B.MT, B.AT, B.SC⟩ 400 x.b ρ σ fun fl _ σ => retK k fl σ) : CLn B (n + 1) f ds σ k := by
  show onSome (lkT f B.T) _
  rw [hx]
  show onSome (fillL x ds) _
  rw [hz]; exact h
structure TabOK (K : Frag) (gt : List (Txt × CE)) (B : Tab) : Prop where
  gtb : GTab K gt
  att : ATOK K B.AT
  mt : ∀ D x f, lkM D x B.MT = some f → plainGet K D (tS x) = true ∧ findIn K (.ref D) (tS x) = some (some (.ref f)) ∧ isFn K (.ref f) = true ∧ keepIn K (.ref f) = true
  fn : ∀ f x, lkT f B.T = some (.fn x) → FnOK K gt f x ∧ keepIn K (.ref f) = true
  cls : ∀ D f x, lkT D B.T = some (.cls f x) → FnOK K gt f x ∧ makesIn K D = true ∧ findIn K (.ref D) "__init__" = some (some (.ref f)) ∧ isFn K (.ref f) = true ∧ keepIn K (.ref D) = true

theorem oks {gt : List (Txt × CE)} {B : Tab} : ∀ (n : Nat) (C : Cx), TabOK C.K gt B → B.SC = C.scr → OKs C (2 * n) gt (opsN B n)
  | 0, C, H, hsc => ⟨H.gtb, H.att, hsc, H.mt, fun _ _ _ _ _ _ _ h => h.elim⟩
  | n + 1, C, H, hsc => by
    refine ⟨H.gtb, H.att, hsc, H.mt, fun hid kp kpm f ds σ k h => ?_⟩
    have HO : ∀ kp kpm, OKs { C with hid := hid, kp := kp, kpm := kpm } (2 * n) gt (opsN B n) := fun kp kpm => oks n { C with hid := hid, kp := kp, kpm := kpm } H hsc
    have h : CLn B (n + 1) f ds σ k := h
    obtain ⟨e, hx, h⟩ := onSome_inv h
    cases e with
    | fn x =>
      obtain ⟨X, hk⟩ := H.fn f x hx
      obtain ⟨ρ0, hz, h⟩ := onSome_inv h
      refine ⟨hk, fun A h₀ env L as fz ρ s vs Q F S r ret => ?_⟩
      obtain ⟨A₀, base, outer, fenv, FF, V⟩ := F
      refine wpAny_call (enter_fn (N := 2 * n) (C := { C with hid := hid, kp := kp, kpm := kpm }) (O := opsN B n) (k := k) X (fun kp' kpm' => HO kp' kpm') (FF.less (by omega)) S r hz h ?_)
      intro v d as' fz' σ' s' hk x' S' hv
      exact ret _ _ _ _ _ _ hk x' S' hv
    | cls fI x =>
      obtain ⟨X, hm, hi, hf, hk⟩ := H.cls f fI x hx
      obtain ⟨ρ0, hz, h⟩ := onSome_inv h
      refine ⟨hk, fun A h₀ env L as fz ρ s vs Q F S r ret => ?_⟩
      obtain ⟨A₀, base, outer, fenv, FF, V⟩ := F
      exact enter_cls (N := 2 * n) (C := { C with hid := hid, kp := kp, kpm := kpm }) (O := opsN B n) (k := k) X hm hi hf (fun kp' kpm' => HO kp' kpm') (FF.less (by omega)) S r hz h ret
end
section
open PySem PyProof.Rows
noncomputable abbrev M : Int := 4294967295
theorem and_M (x : Int) : Builtin.bitAnd x 4294967295 = x % 4294967296 := by
  by_cases hx : 0 ≤ x
  · rw [bitAnd_pp hx (by decide)]
    have h : x.toNat &&& (4294967295 : Int).toNat = x.toNat % 4294967296 := Nat.and_two_pow_sub_one_eq_mod x.toNat 32
    rw [h]
    omega
  · rw [bitAnd_np hx (by decide)]
    have h : (4294967295 : Int).toNat &&& (Builtin.bitNot x).toNat = (Builtin.bitNot x).toNat % 4294967296 := by
      rw [Nat.and_comm]
      exact Nat.and_two_pow_sub_one_eq_mod (Builtin.bitNot x).toNat 32
    rw [h]
    unfold Builtin.bitNot
    omega
theorem orI_of (x y : Int) : Builtin.bitOr x y = x + y - Builtin.bitAnd x y := by have := bitOr_and x y; omega
theorem or_zero (x : Int) : Builtin.bitOr x 0 = x := by rw [orI_of, bitAnd_zero]; omega
theorem zero_or (x : Int) : Builtin.bitOr 0 x = x := by rw [orI_of, bitAnd_comm, bitAnd_zero]; omega
theorem or_MM : Builtin.bitOr 4294967295 4294967295 = 4294967295 := by rw [orI_of, bitAnd_self]; omega
theorem xor_zero' (x : Int) : Builtin.bitXor 0 x = x := by rw [bitXor_and, bitAnd_comm, bitAnd_zero]; omega
theorem xa : ∀ (n x y : Nat), x < 2 ^ n → y < 2 ^ n → (x ^^^ y) + 2 * (x &&& y) = x + y
  | 0, x, y, hx, hy => by
    have : x = 0 := by omega
    have : y = 0 := by omega
    subst x; subst y; rfl
  | n + 1, x, y, hx, hy => by
    have ih := xa n (x / 2) (y / 2) (by omega) (by omega)
    have a1 : (x ^^^ y) / 2 = x / 2 ^^^ y / 2 := Nat.xor_div_two
    have a2 : (x &&& y) / 2 = x / 2 &&& y / 2 := Nat.and_div_two
    have b1 : (x ^^^ y) % 2 = x % 2 ^^^ y % 2 := by have := @Nat.xor_mod_two_pow x y 1; simpa using this
    have b2 : (x &&& y) % 2 = x % 2 &&& y % 2 := by have := @Nat.and_mod_two_pow x y 1; simpa using this
    have c : (x % 2 ^^^ y % 2) + 2 * (x % 2 &&& y % 2) = x % 2 + y % 2 := by
      rcases Nat.mod_two_eq_zero_or_one x with h | h <;> rcases Nat.mod_two_eq_zero_or_one y with h' | h' <;> rw [h, h'] <;> rfl
    omega
theorem xor_range {x y : Int} (hx : 0 ≤ x) (hx2 : x < 4294967296) (hy : 0 ≤ y) (hy2 : y < 4294967296) : 0 ≤ Builtin.bitXor x y ∧ Builtin.bitXor x y < 4294967296 ∧ (Builtin.bitXor x y = 0 ↔ x = y) := by
  have e : Builtin.bitXor x y = ((x.toNat ^^^ y.toNat : Nat) : Int) := by
    rw [bitXor_and, bitAnd_pp hx hy]
    have h := xa 32 x.toNat y.toNat (by omega) (by omega)
    omega
  rw [e]
  have lt : x.toNat ^^^ y.toNat < 2 ^ 32 := Nat.xor_lt_two_pow (by omega) (by omega)
  refine ⟨by omega, by omega, ?_⟩
  constructor
  · intro h
    have h0 : x.toNat ^^^ y.toNat = 0 := by omega
    have h1 := xa 32 x.toNat y.toNat (by omega) (by omega)
    have h2 : x.toNat &&& y.toNat ≤ x.toNat := Nat.and_le_left
    have h3 : x.toNat &&& y.toNat ≤ y.toNat := Nat.and_le_right
    omega
  · rintro rfl
    simp
end
section
set_option maxHeartbeats 0
noncomputable def gtab : List (Txt × CE) := [
  ([109, 97, 115, 107], .val (.val (.ref 73))),
  ([118, 101, 99], .val (.val (.ref 81))),
  ([97, 108, 108, 95, 120], .val (.val (.ref 95))),
  ([102, 114, 111, 109, 95, 105, 110, 116], .val (.val (.ref 109))),
  ([105, 115, 95, 107, 110, 111, 119, 110], .val (.val (.ref 116))),
  ([116, 111, 95, 105, 110, 116], .val (.val (.ref 123))),
  ([99, 111, 100, 101], .val (.val (.ref 130))),
  ([101, 120, 116, 101, 110, 100], .val (.val (.ref 158))),
  ([116, 114, 117, 116, 104], .val (.val (.ref 172))),
  ([83, 116, 111, 114, 101], .val (.val (.ref 210))),
  ([67, 111, 110, 116, 101, 120, 116], .val (.val (.ref 253))),
  ([97, 100, 100], .val (.val (.ref 264))),
  ([111, 114, 100, 101, 114, 101, 100], .val (.val (.ref 348))),
  ([108, 101, 115, 115], .val (.val (.ref 355))),
  ([108, 101, 115, 115, 95, 101, 113, 117, 97, 108], .val (.val (.ref 362))),
  ([103, 114, 101, 97, 116, 101, 114], .val (.val (.ref 369))),
  ([103, 114, 101, 97, 116, 101, 114, 95, 101, 113, 117, 97, 108], .val (.val (.ref 376))),
  ([111, 110, 101, 95, 98, 105, 116], .val (.val (.ref 383))),
  ([98, 105, 116, 95, 110, 111, 116], .val (.val (.ref 390))),
  ([101, 113, 117, 97, 108], .val (.val (.ref 488))),
  ([110, 111, 116, 95, 101, 113, 117, 97, 108], .val (.val (.ref 495))),
  ([97, 114, 105, 116, 104, 109, 101, 116, 105, 99], .val (.val (.ref 537))),
  ([99, 111, 109, 112, 97, 114, 105, 115, 111, 110], .val (.val (.ref 544))),
  ([98, 105, 116, 119, 105, 115, 101], .val (.val (.ref 551))),
  ([98, 105, 110, 97, 114, 121], .val (.val (.ref 558))),
  ([101, 118, 97, 108, 117, 97, 116, 101], .val (.val (.ref 605))),
  ([99, 104, 105, 108, 100, 114, 101, 110], .val (.val (.ref 735))),
  ([102, 111, 108, 100, 115], .val (.val (.ref 850))),
  ([102, 111, 108, 100, 101, 100], .val (.val (.ref 857))),
  ([105, 115, 95, 99, 111, 110, 116, 101, 120, 116, 95, 111, 112, 101, 114, 97, 116, 111, 114], .val (.val (.ref 892))),
  ([105, 115, 95, 115, 104, 105, 102, 116], .val (.val (.ref 899))),
  ([119, 105, 100, 101, 110], .val (.val (.ref 906))),
  ([110, 117, 109, 98, 101, 114, 95, 118, 97, 108, 117, 101], .val (.val (.ref 913))),
  ([108, 97, 115, 116, 95, 115, 101, 108, 101, 99, 116], .val (.val (.ref 822))),
  ([101, 110, 116, 114, 121, 95, 111, 102], .val (.val (.ref 934))),
  ([105, 115, 95, 109, 101, 109, 111, 114, 121], .val (.val (.ref 829))),
  ([115, 104, 97, 112, 101], .val (.val (.ref 836))),
  ([114, 101, 97, 100, 95, 101, 110, 116, 114, 121], .val (.val (.ref 843))),
  ([110, 97, 109, 101, 100, 95, 116, 121, 112, 101], .val (.val (.ref 962))),
  ([110, 97, 109, 101, 100, 95, 118, 97, 108, 117, 101], .val (.val (.ref 969))),
  ([98, 111, 116, 104, 95, 116, 121, 112, 101, 115], .val (.val (.ref 1032))),
  ([101, 120, 112, 114, 95, 116, 121, 112, 101], .val (.val (.ref 1039))),
  ([98, 105, 110, 97, 114, 121, 95, 118, 97, 108, 117, 101], .val (.val (.ref 1053))),
  ([98, 117, 105, 108, 100], .val (.val (.ref 1060))),
  ([115, 101, 108, 102, 95, 100, 101, 116, 101, 114, 109, 105, 110, 101, 100], .val (.val (.ref 1067))),
  ([99, 111, 110, 115, 116, 97, 110, 116, 95, 118, 101, 99], .val (.val (.ref 1081))),
  ([99, 111, 110, 115, 116, 97, 110, 116], .val (.val (.ref 1088))),
  ([119, 104, 111, 108, 101], .val (.val (.ref 1095))),
  ([77, 79, 83, 84, 95, 84, 85, 82, 78, 83], .val (.int 256)),
  ([98, 108, 111, 99, 107, 95, 108, 97, 98, 101, 108], .val (.val (.ref 1102))),
  ([98, 114, 97, 110, 99, 104, 95, 114, 111, 119, 115], .val (.val (.ref 1109))),
  ([99, 111, 109, 109, 111, 110, 95, 116, 121, 112, 101], .val (.val (.ref 1116))),
  ([99, 97, 115, 101, 95, 98, 114, 97, 110, 99, 104], .val (.val (.ref 1123))),
  ([108, 111, 111, 112, 95, 118, 97, 108, 117, 101, 115], .val (.val (.ref 1130))),
  ([108, 111, 111, 112, 95, 114, 111, 119, 115], .val (.val (.ref 1137))),
  ([103, 101, 110, 101, 114, 97, 116, 101, 95, 99, 104, 111, 105, 99, 101], .val (.val (.ref 1145))),
  ([68, 101, 115, 105, 103, 110], .val (.val (.ref 1204))),
  ([83, 99, 111, 112, 101], .val (.val (.ref 1281))),
  ([95, 108, 97, 119, 95, 114, 111, 119], .val (.val (.ref 1292))),
  ([95, 108, 97, 119, 95, 110, 101, 120, 116], .val (.val (.ref 1299))),
  ([95, 108, 97, 119, 95, 110, 117, 109, 98, 101, 114], .val (.val (.ref 1306))),
  ([95, 108, 97, 119, 95, 97, 109, 111, 117, 110, 116], .val (.val (.ref 1314))),
  ([95, 108, 97, 119, 95, 116, 101, 115, 116], .val (.val (.ref 1321))),
  ([95, 108, 97, 119, 95, 98, 114, 97, 110, 99, 104], .val (.val (.ref 1328))),
  ([95, 108, 97, 119, 95, 99, 104, 111, 105, 99, 101], .val (.val (.ref 1333))),
  ([95, 108, 97, 119, 95, 108, 111, 111, 112], .val (.val (.ref 1340))),
  ([115, 117, 98], .val (.val (.ref 271))),
  ([109, 117, 108], .val (.val (.ref 278))),
  ([100, 105, 118], .val (.val (.ref 299))),
  ([109, 111, 100], .val (.val (.ref 306))),
  ([115, 104, 105, 102, 116, 95, 108, 101, 102, 116], .val (.val (.ref 327))),
  ([115, 104, 105, 102, 116, 95, 114, 105, 103, 104, 116], .val (.val (.ref 334))),
  ([115, 104, 105, 102, 116, 95, 97, 114, 105, 116, 104], .val (.val (.ref 341))),
  ([98, 105, 116, 95, 97, 110, 100], .val (.val (.ref 397))),
  ([98, 105, 116, 95, 111, 114], .val (.val (.ref 404))),
  ([98, 105, 116, 95, 120, 111, 114], .val (.val (.ref 411))),
  ([98, 105, 116, 95, 120, 110, 111, 114], .val (.val (.ref 418))),
  ([108, 111, 103, 105, 99, 95, 97, 110, 100], .val (.val (.ref 474))),
  ([108, 111, 103, 105, 99, 95, 111, 114], .val (.val (.ref 481))),
  ([99, 97, 115, 101, 95, 101, 113, 117, 97, 108], .val (.val (.ref 502))),
  ([99, 97, 115, 101, 95, 110, 111, 116, 95, 101, 113, 117, 97, 108], .val (.val (.ref 509))),
  ([117, 110, 97, 114, 121], .val (.val (.ref 530))),
  ([115, 108, 105, 99, 101, 95, 118, 101, 99], .val (.val (.ref 137))),
  ([112, 105, 99, 107, 101, 100], .val (.val (.ref 579))),
  ([109, 101, 109, 111, 114, 121, 95, 119, 111, 114, 100], .val (.val (.ref 572))),
  ([99, 111, 110, 100, 105, 116, 105, 111, 110, 97, 108], .val (.val (.ref 586))),
  ([99, 111, 110, 99, 97, 116], .val (.val (.ref 151))),
  ([112, 111, 119, 101, 114], .val (.val (.ref 320))),
  ([115, 121, 115, 116, 101, 109, 95, 118, 97, 108, 117, 101, 95, 101, 118, 97, 108, 117, 97, 116, 101], .val (.val (.ref 600))),
  ([99, 104, 101, 99, 107, 101, 100, 95, 119, 105, 100, 116, 104], .val (.val (.ref 864))),
  ([117, 110, 97, 114, 121, 95, 118, 97, 108, 117, 101], .val (.val (.ref 1046))),
  ([116, 101, 120, 116, 95, 118, 101, 99], .val (.val (.ref 878))),
  ([106, 111, 105, 110, 101, 100, 95, 118, 97, 108, 117, 101], .val (.val (.ref 1025))),
  ([99, 97, 108, 108, 95, 118, 97, 108, 117, 101], .val (.val (.ref 983))),
  ([115, 121, 115, 116, 101, 109, 95, 118, 97, 108, 117, 101, 95, 101, 108, 97, 98, 101, 120, 112, 114], .val (.val (.ref 997))),
  ([106, 111, 105, 110, 101, 100, 95, 119, 105, 100, 116, 104], .val (.val (.ref 1018))),
  ([102, 117, 110, 99, 116, 105, 111, 110, 95, 111, 102], .val (.val (.ref 976))),
  ([115, 121, 115, 116, 101, 109, 95, 116, 121, 112, 101], .val (.val (.ref 990))),
  ([105, 115, 95, 99, 111, 110, 115, 116, 97, 110, 116], .val (.val (.ref 920))),
  ([70, 117, 110, 99, 116, 105, 111, 110, 67, 111, 110, 116, 101, 120, 116], .val (.val (.ref 677))),
  ([98, 97, 115, 101, 95, 101, 110, 116, 114, 121], .val (.val (.ref 941))),
  ([115, 101, 108, 101, 99, 116, 95, 119, 105, 100, 116, 104], .val (.val (.ref 948))),
  ([115, 101, 108, 101, 99, 116, 95, 119, 104, 101, 114, 101], .val (.val (.ref 955))),
  ([115, 101, 108, 101, 99, 116, 101, 100], .val (.val (.ref 871))),
  ([105, 110, 110, 101, 114, 95, 106, 111, 105, 110], .val (.val (.ref 885))),
  ([68, 101, 115, 105, 103, 110, 69, 114, 114, 111, 114], .val (.val (.ref 52))),
  ([108, 101, 110], .val (.val (.builtin "len"))),
  ([109, 97, 120], .val (.val (.builtin "max"))),
  ([115, 116, 114], .val (.val (.type "str"))),
  ([116, 117, 112, 108, 101], .val (.val (.type "tuple"))),
  ([100, 105, 99, 116], .val (.val (.type "dict"))),
  ([114, 97, 110, 103, 101], .val (.val (.type "range")))]

noncomputable def bodyAt (i : Nat) : List Stmt := match PySem.Challenge.pw_nn0348_01.main.body[i]? with
  | some s => [s]
  | _ => []
noncomputable def methAt (i j : Nat) : List Stmt := match PySem.Challenge.pw_nn0348_01.main.body[i]? with
  | some (.ClassDef _ _ _ b ..) => (match b[j]? with | some s => [s] | _ => [])
  | _ => []
noncomputable def fdName : List Stmt → Str
  | [.FunctionDef name ..] => name
  | _ => default
noncomputable def fdArgs : List Stmt → Arguments
  | [.FunctionDef _ args ..] => args
  | _ => default
noncomputable def fdBody : List Stmt → List Stmt
  | [.FunctionDef _ _ body ..] => body
  | _ => []
noncomputable def fdScope : List Stmt → Scope
  | [.FunctionDef _ _ _ _ _ _ scope ..] => scope
  | _ => default
noncomputable def psOf (l : List Stmt) : List Txt := (fdArgs l).args.map fun a => sT a.arg
noncomputable def cdOf (l : List Stmt) : List CS := cB gtab (ksOf (fdScope l)) 60 (fdBody l)

noncomputable def p73S : {b // psOf (bodyAt 6) = b} := by
  refine ⟨?b, ?h⟩
  case h => conv => lhs; reduce
noncomputable def b73S : {b // cdOf (bodyAt 6) = b} := by
  refine ⟨?b, ?h⟩
  case h => conv => lhs; reduce
/-- mask -/
noncomputable def x73 : FnT := ⟨p73S.1, [], b73S.1⟩
noncomputable def p81S : {b // psOf (bodyAt 7) = b} := by
  refine ⟨?b, ?h⟩
  case h => conv => lhs; reduce
noncomputable def b81S : {b // cdOf (bodyAt 7) = b} := by
  refine ⟨?b, ?h⟩
  case h => conv => lhs; reduce
/-- vec -/
noncomputable def x81 : FnT := ⟨p81S.1, [.int 0], b81S.1⟩
noncomputable def p95S : {b // psOf (bodyAt 9) = b} := by
  refine ⟨?b, ?h⟩
  case h => conv => lhs; reduce
noncomputable def b95S : {b // cdOf (bodyAt 9) = b} := by
  refine ⟨?b, ?h⟩
  case h => conv => lhs; reduce
/-- all_x -/
noncomputable def x95 : FnT := ⟨p95S.1, [], b95S.1⟩
noncomputable def p109S : {b // psOf (bodyAt 11) = b} := by
  refine ⟨?b, ?h⟩
  case h => conv => lhs; reduce
noncomputable def b109S : {b // cdOf (bodyAt 11) = b} := by
  refine ⟨?b, ?h⟩
  case h => conv => lhs; reduce
/-- from_int -/
noncomputable def x109 : FnT := ⟨p109S.1, [], b109S.1⟩
noncomputable def p116S : {b // psOf (bodyAt 12) = b} := by
  refine ⟨?b, ?h⟩
  case h => conv => lhs; reduce
noncomputable def b116S : {b // cdOf (bodyAt 12) = b} := by
  refine ⟨?b, ?h⟩
  case h => conv => lhs; reduce
/-- is_known -/
noncomputable def x116 : FnT := ⟨p116S.1, [], b116S.1⟩
noncomputable def p123S : {b // psOf (bodyAt 13) = b} := by
  refine ⟨?b, ?h⟩
  case h => conv => lhs; reduce
noncomputable def b123S : {b // cdOf (bodyAt 13) = b} := by
  refine ⟨?b, ?h⟩
  case h => conv => lhs; reduce
/-- to_int -/
noncomputable def x123 : FnT := ⟨p123S.1, [], b123S.1⟩
noncomputable def p130S : {b // psOf (bodyAt 14) = b} := by
  refine ⟨?b, ?h⟩
  case h => conv => lhs; reduce
noncomputable def b130S : {b // cdOf (bodyAt 14) = b} := by
  refine ⟨?b, ?h⟩
  case h => conv => lhs; reduce
/-- code -/
noncomputable def x130 : FnT := ⟨p130S.1, [], b130S.1⟩
noncomputable def p158S : {b // psOf (bodyAt 18) = b} := by
  refine ⟨?b, ?h⟩
  case h => conv => lhs; reduce
noncomputable def b158S : {b // cdOf (bodyAt 18) = b} := by
  refine ⟨?b, ?h⟩
  case h => conv => lhs; reduce
/-- extend -/
noncomputable def x158 : FnT := ⟨p158S.1, [], b158S.1⟩
noncomputable def p172S : {b // psOf (bodyAt 20) = b} := by
  refine ⟨?b, ?h⟩
  case h => conv => lhs; reduce
noncomputable def b172S : {b // cdOf (bodyAt 20) = b} := by
  refine ⟨?b, ?h⟩
  case h => conv => lhs; reduce
/-- truth -/
noncomputable def x172 : FnT := ⟨p172S.1, [], b172S.1⟩
noncomputable def p264S : {b // psOf (bodyAt 25) = b} := by
  refine ⟨?b, ?h⟩
  case h => conv => lhs; reduce
noncomputable def b264S : {b // cdOf (bodyAt 25) = b} := by
  refine ⟨?b, ?h⟩
  case h => conv => lhs; reduce
/-- add -/
noncomputable def x264 : FnT := ⟨p264S.1, [], b264S.1⟩
noncomputable def p348S : {b // psOf (bodyAt 37) = b} := by
  refine ⟨?b, ?h⟩
  case h => conv => lhs; reduce
noncomputable def b348S : {b // cdOf (bodyAt 37) = b} := by
  refine ⟨?b, ?h⟩
  case h => conv => lhs; reduce
/-- ordered -/
noncomputable def x348 : FnT := ⟨p348S.1, [], b348S.1⟩
noncomputable def p355S : {b // psOf (bodyAt 38) = b} := by
  refine ⟨?b, ?h⟩
  case h => conv => lhs; reduce
noncomputable def b355S : {b // cdOf (bodyAt 38) = b} := by
  refine ⟨?b, ?h⟩
  case h => conv => lhs; reduce
/-- less -/
noncomputable def x355 : FnT := ⟨p355S.1, [], b355S.1⟩
noncomputable def p362S : {b // psOf (bodyAt 39) = b} := by
  refine ⟨?b, ?h⟩
  case h => conv => lhs; reduce
noncomputable def b362S : {b // cdOf (bodyAt 39) = b} := by
  refine ⟨?b, ?h⟩
  case h => conv => lhs; reduce
/-- less_equal -/
noncomputable def x362 : FnT := ⟨p362S.1, [], b362S.1⟩
noncomputable def p369S : {b // psOf (bodyAt 40) = b} := by
  refine ⟨?b, ?h⟩
  case h => conv => lhs; reduce
noncomputable def b369S : {b // cdOf (bodyAt 40) = b} := by
  refine ⟨?b, ?h⟩
  case h => conv => lhs; reduce
/-- greater -/
noncomputable def x369 : FnT := ⟨p369S.1, [], b369S.1⟩
noncomputable def p376S : {b // psOf (bodyAt 41) = b} := by
  refine ⟨?b, ?h⟩
  case h => conv => lhs; reduce
noncomputable def b376S : {b // cdOf (bodyAt 41) = b} := by
  refine ⟨?b, ?h⟩
  case h => conv => lhs; reduce
/-- greater_equal -/
noncomputable def x376 : FnT := ⟨p376S.1, [], b376S.1⟩
noncomputable def p383S : {b // psOf (bodyAt 43) = b} := by
  refine ⟨?b, ?h⟩
  case h => conv => lhs; reduce
noncomputable def b383S : {b // cdOf (bodyAt 43) = b} := by
  refine ⟨?b, ?h⟩
  case h => conv => lhs; reduce
/-- one_bit -/
noncomputable def x383 : FnT := ⟨p383S.1, [], b383S.1⟩
noncomputable def p390S : {b // psOf (bodyAt 44) = b} := by
  refine ⟨?b, ?h⟩
  case h => conv => lhs; reduce
noncomputable def b390S : {b // cdOf (bodyAt 44) = b} := by
  refine ⟨?b, ?h⟩
  case h => conv => lhs; reduce
/-- bit_not -/
noncomputable def x390 : FnT := ⟨p390S.1, [], b390S.1⟩
noncomputable def p488S : {b // psOf (bodyAt 58) = b} := by
  refine ⟨?b, ?h⟩
  case h => conv => lhs; reduce
noncomputable def b488S : {b // cdOf (bodyAt 58) = b} := by
  refine ⟨?b, ?h⟩
  case h => conv => lhs; reduce
/-- equal -/
noncomputable def x488 : FnT := ⟨p488S.1, [], b488S.1⟩
noncomputable def p495S : {b // psOf (bodyAt 59) = b} := by
  refine ⟨?b, ?h⟩
  case h => conv => lhs; reduce
noncomputable def b495S : {b // cdOf (bodyAt 59) = b} := by
  refine ⟨?b, ?h⟩
  case h => conv => lhs; reduce
/-- not_equal -/
noncomputable def x495 : FnT := ⟨p495S.1, [], b495S.1⟩
noncomputable def p537S : {b // psOf (bodyAt 66) = b} := by
  refine ⟨?b, ?h⟩
  case h => conv => lhs; reduce
noncomputable def b537S : {b // cdOf (bodyAt 66) = b} := by
  refine ⟨?b, ?h⟩
  case h => conv => lhs; reduce
/-- arithmetic -/
noncomputable def x537 : FnT := ⟨p537S.1, [], b537S.1⟩
noncomputable def p544S : {b // psOf (bodyAt 67) = b} := by
  refine ⟨?b, ?h⟩
  case h => conv => lhs; reduce
noncomputable def b544S : {b // cdOf (bodyAt 67) = b} := by
  refine ⟨?b, ?h⟩
  case h => conv => lhs; reduce
/-- comparison -/
noncomputable def x544 : FnT := ⟨p544S.1, [], b544S.1⟩
noncomputable def p558S : {b // psOf (bodyAt 69) = b} := by
  refine ⟨?b, ?h⟩
  case h => conv => lhs; reduce
noncomputable def b558S : {b // cdOf (bodyAt 69) = b} := by
  refine ⟨?b, ?h⟩
  case h => conv => lhs; reduce
/-- binary -/
noncomputable def x558 : FnT := ⟨p558S.1, [], b558S.1⟩
noncomputable def p605S : {b // psOf (bodyAt 77) = b} := by
  refine ⟨?b, ?h⟩
  case h => conv => lhs; reduce
noncomputable def b605S : {b // cdOf (bodyAt 77) = b} := by
  refine ⟨?b, ?h⟩
  case h => conv => lhs; reduce
/-- evaluate -/
noncomputable def x605 : FnT := ⟨p605S.1, [], b605S.1⟩
noncomputable def p735S : {b // psOf (bodyAt 93) = b} := by
  refine ⟨?b, ?h⟩
  case h => conv => lhs; reduce
noncomputable def b735S : {b // cdOf (bodyAt 93) = b} := by
  refine ⟨?b, ?h⟩
  case h => conv => lhs; reduce
/-- children -/
noncomputable def x735 : FnT := ⟨p735S.1, [], b735S.1⟩
noncomputable def p822S : {b // psOf (bodyAt 108) = b} := by
  refine ⟨?b, ?h⟩
  case h => conv => lhs; reduce
noncomputable def b822S : {b // cdOf (bodyAt 108) = b} := by
  refine ⟨?b, ?h⟩
  case h => conv => lhs; reduce
/-- last_select -/
noncomputable def x822 : FnT := ⟨p822S.1, [], b822S.1⟩
noncomputable def p829S : {b // psOf (bodyAt 109) = b} := by
  refine ⟨?b, ?h⟩
  case h => conv => lhs; reduce
noncomputable def b829S : {b // cdOf (bodyAt 109) = b} := by
  refine ⟨?b, ?h⟩
  case h => conv => lhs; reduce
/-- is_memory -/
noncomputable def x829 : FnT := ⟨p829S.1, [], b829S.1⟩
noncomputable def p836S : {b // psOf (bodyAt 110) = b} := by
  refine ⟨?b, ?h⟩
  case h => conv => lhs; reduce
noncomputable def b836S : {b // cdOf (bodyAt 110) = b} := by
  refine ⟨?b, ?h⟩
  case h => conv => lhs; reduce
/-- shape -/
noncomputable def x836 : FnT := ⟨p836S.1, [], b836S.1⟩
noncomputable def p843S : {b // psOf (bodyAt 111) = b} := by
  refine ⟨?b, ?h⟩
  case h => conv => lhs; reduce
noncomputable def b843S : {b // cdOf (bodyAt 111) = b} := by
  refine ⟨?b, ?h⟩
  case h => conv => lhs; reduce
/-- read_entry -/
noncomputable def x843 : FnT := ⟨p843S.1, [], b843S.1⟩
noncomputable def p850S : {b // psOf (bodyAt 112) = b} := by
  refine ⟨?b, ?h⟩
  case h => conv => lhs; reduce
noncomputable def b850S : {b // cdOf (bodyAt 112) = b} := by
  refine ⟨?b, ?h⟩
  case h => conv => lhs; reduce
/-- folds -/
noncomputable def x850 : FnT := ⟨p850S.1, [], b850S.1⟩
noncomputable def p857S : {b // psOf (bodyAt 113) = b} := by
  refine ⟨?b, ?h⟩
  case h => conv => lhs; reduce
noncomputable def b857S : {b // cdOf (bodyAt 113) = b} := by
  refine ⟨?b, ?h⟩
  case h => conv => lhs; reduce
/-- folded -/
noncomputable def x857 : FnT := ⟨p857S.1, [], b857S.1⟩
noncomputable def p892S : {b // psOf (bodyAt 118) = b} := by
  refine ⟨?b, ?h⟩
  case h => conv => lhs; reduce
noncomputable def b892S : {b // cdOf (bodyAt 118) = b} := by
  refine ⟨?b, ?h⟩
  case h => conv => lhs; reduce
/-- is_context_operator -/
noncomputable def x892 : FnT := ⟨p892S.1, [], b892S.1⟩
noncomputable def p899S : {b // psOf (bodyAt 119) = b} := by
  refine ⟨?b, ?h⟩
  case h => conv => lhs; reduce
noncomputable def b899S : {b // cdOf (bodyAt 119) = b} := by
  refine ⟨?b, ?h⟩
  case h => conv => lhs; reduce
/-- is_shift -/
noncomputable def x899 : FnT := ⟨p899S.1, [], b899S.1⟩
noncomputable def p906S : {b // psOf (bodyAt 120) = b} := by
  refine ⟨?b, ?h⟩
  case h => conv => lhs; reduce
noncomputable def b906S : {b // cdOf (bodyAt 120) = b} := by
  refine ⟨?b, ?h⟩
  case h => conv => lhs; reduce
/-- widen -/
noncomputable def x906 : FnT := ⟨p906S.1, [], b906S.1⟩
noncomputable def p913S : {b // psOf (bodyAt 121) = b} := by
  refine ⟨?b, ?h⟩
  case h => conv => lhs; reduce
noncomputable def b913S : {b // cdOf (bodyAt 121) = b} := by
  refine ⟨?b, ?h⟩
  case h => conv => lhs; reduce
/-- number_value -/
noncomputable def x913 : FnT := ⟨p913S.1, [], b913S.1⟩
noncomputable def p934S : {b // psOf (bodyAt 125) = b} := by
  refine ⟨?b, ?h⟩
  case h => conv => lhs; reduce
noncomputable def b934S : {b // cdOf (bodyAt 125) = b} := by
  refine ⟨?b, ?h⟩
  case h => conv => lhs; reduce
/-- entry_of -/
noncomputable def x934 : FnT := ⟨p934S.1, [], b934S.1⟩
noncomputable def p962S : {b // psOf (bodyAt 129) = b} := by
  refine ⟨?b, ?h⟩
  case h => conv => lhs; reduce
noncomputable def b962S : {b // cdOf (bodyAt 129) = b} := by
  refine ⟨?b, ?h⟩
  case h => conv => lhs; reduce
/-- named_type -/
noncomputable def x962 : FnT := ⟨p962S.1, [], b962S.1⟩
noncomputable def p969S : {b // psOf (bodyAt 130) = b} := by
  refine ⟨?b, ?h⟩
  case h => conv => lhs; reduce
noncomputable def b969S : {b // cdOf (bodyAt 130) = b} := by
  refine ⟨?b, ?h⟩
  case h => conv => lhs; reduce
/-- named_value -/
noncomputable def x969 : FnT := ⟨p969S.1, [], b969S.1⟩
noncomputable def p1032S : {b // psOf (bodyAt 140) = b} := by
  refine ⟨?b, ?h⟩
  case h => conv => lhs; reduce
noncomputable def b1032S : {b // cdOf (bodyAt 140) = b} := by
  refine ⟨?b, ?h⟩
  case h => conv => lhs; reduce
/-- both_types -/
noncomputable def x1032 : FnT := ⟨p1032S.1, [], b1032S.1⟩
noncomputable def p1039S : {b // psOf (bodyAt 141) = b} := by
  refine ⟨?b, ?h⟩
  case h => conv => lhs; reduce
noncomputable def b1039S : {b // cdOf (bodyAt 141) = b} := by
  refine ⟨?b, ?h⟩
  case h => conv => lhs; reduce
/-- expr_type -/
noncomputable def x1039 : FnT := ⟨p1039S.1, [], b1039S.1⟩
noncomputable def p1053S : {b // psOf (bodyAt 143) = b} := by
  refine ⟨?b, ?h⟩
  case h => conv => lhs; reduce
noncomputable def b1053S : {b // cdOf (bodyAt 143) = b} := by
  refine ⟨?b, ?h⟩
  case h => conv => lhs; reduce
/-- binary_value -/
noncomputable def x1053 : FnT := ⟨p1053S.1, [], b1053S.1⟩
noncomputable def p1060S : {b // psOf (bodyAt 144) = b} := by
  refine ⟨?b, ?h⟩
  case h => conv => lhs; reduce
noncomputable def b1060S : {b // cdOf (bodyAt 144) = b} := by
  refine ⟨?b, ?h⟩
  case h => conv => lhs; reduce
/-- build -/
noncomputable def x1060 : FnT := ⟨p1060S.1, [], b1060S.1⟩
noncomputable def p1067S : {b // psOf (bodyAt 145) = b} := by
  refine ⟨?b, ?h⟩
  case h => conv => lhs; reduce
noncomputable def b1067S : {b // cdOf (bodyAt 145) = b} := by
  refine ⟨?b, ?h⟩
  case h => conv => lhs; reduce
/-- self_determined -/
noncomputable def x1067 : FnT := ⟨p1067S.1, [], b1067S.1⟩
noncomputable def p1081S : {b // psOf (bodyAt 147) = b} := by
  refine ⟨?b, ?h⟩
  case h => conv => lhs; reduce
noncomputable def b1081S : {b // cdOf (bodyAt 147) = b} := by
  refine ⟨?b, ?h⟩
  case h => conv => lhs; reduce
/-- constant_vec -/
noncomputable def x1081 : FnT := ⟨p1081S.1, [], b1081S.1⟩
noncomputable def p1088S : {b // psOf (bodyAt 148) = b} := by
  refine ⟨?b, ?h⟩
  case h => conv => lhs; reduce
noncomputable def b1088S : {b // cdOf (bodyAt 148) = b} := by
  refine ⟨?b, ?h⟩
  case h => conv => lhs; reduce
/-- constant -/
noncomputable def x1088 : FnT := ⟨p1088S.1, [], b1088S.1⟩
noncomputable def p1095S : {b // psOf (bodyAt 149) = b} := by
  refine ⟨?b, ?h⟩
  case h => conv => lhs; reduce
noncomputable def b1095S : {b // cdOf (bodyAt 149) = b} := by
  refine ⟨?b, ?h⟩
  case h => conv => lhs; reduce
/-- whole -/
noncomputable def x1095 : FnT := ⟨p1095S.1, [], b1095S.1⟩
noncomputable def p1102S : {b // psOf (bodyAt 152) = b} := by
  refine ⟨?b, ?h⟩
  case h => conv => lhs; reduce
noncomputable def b1102S : {b // cdOf (bodyAt 152) = b} := by
  refine ⟨?b, ?h⟩
  case h => conv => lhs; reduce
/-- block_label -/
noncomputable def x1102 : FnT := ⟨p1102S.1, [], b1102S.1⟩
noncomputable def p1109S : {b // psOf (bodyAt 153) = b} := by
  refine ⟨?b, ?h⟩
  case h => conv => lhs; reduce
noncomputable def b1109S : {b // cdOf (bodyAt 153) = b} := by
  refine ⟨?b, ?h⟩
  case h => conv => lhs; reduce
/-- branch_rows -/
noncomputable def x1109 : FnT := ⟨p1109S.1, [], b1109S.1⟩
noncomputable def p1116S : {b // psOf (bodyAt 154) = b} := by
  refine ⟨?b, ?h⟩
  case h => conv => lhs; reduce
noncomputable def b1116S : {b // cdOf (bodyAt 154) = b} := by
  refine ⟨?b, ?h⟩
  case h => conv => lhs; reduce
/-- common_type -/
noncomputable def x1116 : FnT := ⟨p1116S.1, [], b1116S.1⟩
noncomputable def p1123S : {b // psOf (bodyAt 155) = b} := by
  refine ⟨?b, ?h⟩
  case h => conv => lhs; reduce
noncomputable def b1123S : {b // cdOf (bodyAt 155) = b} := by
  refine ⟨?b, ?h⟩
  case h => conv => lhs; reduce
/-- case_branch -/
noncomputable def x1123 : FnT := ⟨p1123S.1, [], b1123S.1⟩
noncomputable def p1130S : {b // psOf (bodyAt 156) = b} := by
  refine ⟨?b, ?h⟩
  case h => conv => lhs; reduce
noncomputable def b1130S : {b // cdOf (bodyAt 156) = b} := by
  refine ⟨?b, ?h⟩
  case h => conv => lhs; reduce
/-- loop_values -/
noncomputable def x1130 : FnT := ⟨p1130S.1, [], b1130S.1⟩
noncomputable def p1137S : {b // psOf (bodyAt 157) = b} := by
  refine ⟨?b, ?h⟩
  case h => conv => lhs; reduce
noncomputable def b1137S : {b // cdOf (bodyAt 157) = b} := by
  refine ⟨?b, ?h⟩
  case h => conv => lhs; reduce
/-- loop_rows -/
noncomputable def x1137 : FnT := ⟨p1137S.1, [], b1137S.1⟩
noncomputable def p1145S : {b // psOf (bodyAt 158) = b} := by
  refine ⟨?b, ?h⟩
  case h => conv => lhs; reduce
noncomputable def b1145S : {b // cdOf (bodyAt 158) = b} := by
  refine ⟨?b, ?h⟩
  case h => conv => lhs; reduce
/-- generate_choice -/
noncomputable def x1145 : FnT := ⟨p1145S.1, [.int 1], b1145S.1⟩
noncomputable def p1292S : {b // psOf (bodyAt 164) = b} := by
  refine ⟨?b, ?h⟩
  case h => conv => lhs; reduce
noncomputable def b1292S : {b // cdOf (bodyAt 164) = b} := by
  refine ⟨?b, ?h⟩
  case h => conv => lhs; reduce
/-- _law_row -/
noncomputable def x1292 : FnT := ⟨p1292S.1, [], b1292S.1⟩
noncomputable def p1299S : {b // psOf (bodyAt 165) = b} := by
  refine ⟨?b, ?h⟩
  case h => conv => lhs; reduce
noncomputable def b1299S : {b // cdOf (bodyAt 165) = b} := by
  refine ⟨?b, ?h⟩
  case h => conv => lhs; reduce
/-- _law_next -/
noncomputable def x1299 : FnT := ⟨p1299S.1, [], b1299S.1⟩
noncomputable def p1306S : {b // psOf (bodyAt 166) = b} := by
  refine ⟨?b, ?h⟩
  case h => conv => lhs; reduce
noncomputable def b1306S : {b // cdOf (bodyAt 166) = b} := by
  refine ⟨?b, ?h⟩
  case h => conv => lhs; reduce
/-- _law_number -/
noncomputable def x1306 : FnT := ⟨p1306S.1, [], b1306S.1⟩
noncomputable def p1314S : {b // psOf (bodyAt 167) = b} := by
  refine ⟨?b, ?h⟩
  case h => conv => lhs; reduce
noncomputable def b1314S : {b // cdOf (bodyAt 167) = b} := by
  refine ⟨?b, ?h⟩
  case h => conv => lhs; reduce
/-- _law_amount -/
noncomputable def x1314 : FnT := ⟨p1314S.1, [.int 2], b1314S.1⟩
noncomputable def p1321S : {b // psOf (bodyAt 168) = b} := by
  refine ⟨?b, ?h⟩
  case h => conv => lhs; reduce
noncomputable def b1321S : {b // cdOf (bodyAt 168) = b} := by
  refine ⟨?b, ?h⟩
  case h => conv => lhs; reduce
/-- _law_test -/
noncomputable def x1321 : FnT := ⟨p1321S.1, [], b1321S.1⟩
noncomputable def p1328S : {b // psOf (bodyAt 169) = b} := by
  refine ⟨?b, ?h⟩
  case h => conv => lhs; reduce
noncomputable def b1328S : {b // cdOf (bodyAt 169) = b} := by
  refine ⟨?b, ?h⟩
  case h => conv => lhs; reduce
/-- _law_branch -/
noncomputable def x1328 : FnT := ⟨p1328S.1, [], b1328S.1⟩
noncomputable def p1333S : {b // psOf (bodyAt 170) = b} := by
  refine ⟨?b, ?h⟩
  case h => conv => lhs; reduce
noncomputable def b1333S : {b // cdOf (bodyAt 170) = b} := by
  refine ⟨?b, ?h⟩
  case h => conv => lhs; reduce
/-- _law_choice -/
noncomputable def x1333 : FnT := ⟨p1333S.1, [], b1333S.1⟩
noncomputable def p1340S : {b // psOf (bodyAt 171) = b} := by
  refine ⟨?b, ?h⟩
  case h => conv => lhs; reduce
noncomputable def b1340S : {b // cdOf (bodyAt 171) = b} := by
  refine ⟨?b, ?h⟩
  case h => conv => lhs; reduce
/-- _law_loop -/
noncomputable def x1340 : FnT := ⟨p1340S.1, [], b1340S.1⟩
noncomputable def p1345S : {b // psOf (bodyAt 172) = b} := by
  refine ⟨?b, ?h⟩
  case h => conv => lhs; reduce
noncomputable def b1345S : {b // cdOf (bodyAt 172) = b} := by
  refine ⟨?b, ?h⟩
  case h => conv => lhs; reduce
/-- law -/
noncomputable def x1345 : FnT := ⟨p1345S.1, [], b1345S.1⟩
noncomputable def p186S : {b // psOf (methAt 22 0) = b} := by
  refine ⟨?b, ?h⟩
  case h => conv => lhs; reduce
noncomputable def b186S : {b // cdOf (methAt 22 0) = b} := by
  refine ⟨?b, ?h⟩
  case h => conv => lhs; reduce
/-- Store___init__ -/
noncomputable def x186 : FnT := ⟨p186S.1, [], b186S.1⟩
noncomputable def p229S : {b // psOf (methAt 23 0) = b} := by
  refine ⟨?b, ?h⟩
  case h => conv => lhs; reduce
noncomputable def b229S : {b // cdOf (methAt 23 0) = b} := by
  refine ⟨?b, ?h⟩
  case h => conv => lhs; reduce
/-- Context___init__ -/
noncomputable def x229 : FnT := ⟨p229S.1, [.int 0], b229S.1⟩
noncomputable def p1159S : {b // psOf (methAt 160 0) = b} := by
  refine ⟨?b, ?h⟩
  case h => conv => lhs; reduce
noncomputable def b1159S : {b // cdOf (methAt 160 0) = b} := by
  refine ⟨?b, ?h⟩
  case h => conv => lhs; reduce
/-- Design___init__ -/
noncomputable def x1159 : FnT := ⟨p1159S.1, [], b1159S.1⟩
noncomputable def p1173S : {b // psOf (methAt 160 2) = b} := by
  refine ⟨?b, ?h⟩
  case h => conv => lhs; reduce
noncomputable def b1173S : {b // cdOf (methAt 160 2) = b} := by
  refine ⟨?b, ?h⟩
  case h => conv => lhs; reduce
/-- Design_add_scope -/
noncomputable def x1173 : FnT := ⟨p1173S.1, [], b1173S.1⟩
noncomputable def p1222S : {b // psOf (methAt 162 0) = b} := by
  refine ⟨?b, ?h⟩
  case h => conv => lhs; reduce
noncomputable def b1222S : {b // cdOf (methAt 162 0) = b} := by
  refine ⟨?b, ?h⟩
  case h => conv => lhs; reduce
/-- Scope___init__ -/
noncomputable def x1222 : FnT := ⟨p1222S.1, [], b1222S.1⟩
noncomputable def p1236S : {b // psOf (methAt 162 2) = b} := by
  refine ⟨?b, ?h⟩
  case h => conv => lhs; reduce
noncomputable def b1236S : {b // cdOf (methAt 162 2) = b} := by
  refine ⟨?b, ?h⟩
  case h => conv => lhs; reduce
/-- Scope_declare -/
noncomputable def x1236 : FnT := ⟨p1236S.1, [], b1236S.1⟩
noncomputable def p1250S : {b // psOf (methAt 162 4) = b} := by
  refine ⟨?b, ?h⟩
  case h => conv => lhs; reduce
noncomputable def b1250S : {b // cdOf (methAt 162 4) = b} := by
  refine ⟨?b, ?h⟩
  case h => conv => lhs; reduce
/-- Scope_lookup -/
noncomputable def x1250 : FnT := ⟨p1250S.1, [], b1250S.1⟩
noncomputable def tabT : List (Addr × TE) := [(73, .fn x73),
  (81, .fn x81),
  (95, .fn x95),
  (109, .fn x109),
  (116, .fn x116),
  (123, .fn x123),
  (130, .fn x130),
  (158, .fn x158),
  (172, .fn x172),
  (264, .fn x264),
  (348, .fn x348),
  (355, .fn x355),
  (362, .fn x362),
  (369, .fn x369),
  (376, .fn x376),
  (383, .fn x383),
  (390, .fn x390),
  (488, .fn x488),
  (495, .fn x495),
  (537, .fn x537),
  (544, .fn x544),
  (558, .fn x558),
  (605, .fn x605),
  (735, .fn x735),
  (822, .fn x822),
  (829, .fn x829),
  (836, .fn x836),
  (843, .fn x843),
  (850, .fn x850),
  (857, .fn x857),
  (892, .fn x892),
  (899, .fn x899),
  (906, .fn x906),
  (913, .fn x913),
  (934, .fn x934),
  (962, .fn x962),
  (969, .fn x969),
  (1032, .fn x1032),
  (1039, .fn x1039),
  (1053, .fn x1053),
  (1060, .fn x1060),
  (1067, .fn x1067),
  (1081, .fn x1081),
  (1088, .fn x1088),
  (1095, .fn x1095),
  (1102, .fn x1102),
  (1109, .fn x1109),
  (1116, .fn x1116),
  (1123, .fn x1123),
  (1130, .fn x1130),
  (1137, .fn x1137),
  (1145, .fn x1145),
  (1292, .fn x1292),
  (1299, .fn x1299),
  (1306, .fn x1306),
  (1314, .fn x1314),
  (1321, .fn x1321),
  (1328, .fn x1328),
  (1333, .fn x1333),
  (1340, .fn x1340),
  (186, .fn x186),
  (229, .fn x229),
  (1159, .fn x1159),
  (1173, .fn x1173),
  (1222, .fn x1222),
  (1236, .fn x1236),
  (1250, .fn x1250),
  (210, .cls 186 x186),
  (253, .cls 229 x229),
  (1204, .cls 1159 x1159),
  (1281, .cls 1222 x1222)]
noncomputable def tabM : List (Addr × Txt × Addr) := [(1204, [97, 100, 100, 95, 115, 99, 111, 112, 101], 1173), (1281, [100, 101, 99, 108, 97, 114, 101], 1236), (1281, [108, 111, 111, 107, 117, 112], 1250)]
noncomputable def tabA : List (Addr × Txt) := [(210, [115, 105, 103, 110, 97, 108, 115]),
  (210, [118, 97, 108, 117, 101, 115]),
  (210, [109, 101, 109, 111, 114, 105, 101, 115]),
  (210, [114, 97, 110, 100, 111, 109, 95, 115, 101, 101, 100]),
  (253, [115, 116, 111, 114, 101]),
  (253, [102, 114, 97, 109, 101]),
  (253, [110, 111, 119]),
  (1204, [115, 105, 103, 110, 97, 108, 115]),
  (1204, [97, 115, 115, 105, 103, 110, 115]),
  (1204, [103, 97, 116, 101, 115]),
  (1204, [117, 100, 112, 115]),
  (1204, [112, 114, 111, 99, 101, 115, 115, 101, 115]),
  (1204, [114, 111, 117, 116, 105, 110, 101, 115]),
  (1204, [115, 99, 111, 112, 101, 115]),
  (1204, [116, 111, 112, 115]),
  (1204, [112, 111, 114, 116, 115]),
  (1204, [109, 97, 107, 101, 114]),
  (1204, [98, 121, 95, 112, 97, 116, 104]),
  (1281, [100, 101, 115, 105, 103, 110]),
  (1281, [110, 97, 109, 101]),
  (1281, [112, 97, 114, 101, 110, 116]),
  (1281, [107, 105, 110, 100]),
  (1281, [112, 97, 116, 104]),
  (1281, [110, 101, 116, 116, 121, 112, 101]),
  (1281, [109, 111, 100, 117, 108, 101, 95, 110, 97, 109, 101]),
  (1281, [101, 110, 116, 114, 105, 101, 115]),
  (1281, [110, 117, 109, 98, 101, 114])]
noncomputable def tab (sc : Option (Addr × List PV)) : Tab := ⟨tabT, tabM, tabA, sc⟩
end
section
set_option maxHeartbeats 0
set_option linter.unusedVariables false
/-- a def's object, as the text's own def makes it -/
noncomputable def fnO (l : List Stmt) (qual : Str) (dV kV doc pm cd ct : Value) : Obj := ⟨.type "function", none, .func (fnOf (fdName l) qual (fdArgs l) (fdBody l) (fdScope l) dV kV doc pm none cd ct), #[]⟩
noncomputable def o3 (P : Params) : Obj := ⟨(.type "dict"), none, .dict [⟨PyData.keyHash P (Str.ofString "__name__"), .str (Str.ofString "__name__") 165, (.str (Str.ofString "law_nn0348_01") 2059)⟩, ⟨PyData.keyHash P (Str.ofString "__doc__"), .str (Str.ofString "__doc__") 166, .none⟩, ⟨PyData.keyHash P (Str.ofString "__package__"), .str (Str.ofString "__package__") 167, .none⟩, ⟨PyData.keyHash P (Str.ofString "__loader__"), .str (Str.ofString "__loader__") 168, (.builtin "__main__.__loader__#opaque")⟩, ⟨PyData.keyHash P (Str.ofString "__spec__"), .str (Str.ofString "__spec__") 169, .none⟩, ⟨PyData.keyHash P (Str.ofString "__annotations__"), .str (Str.ofString "__annotations__") 170, (.ref 6)⟩, ⟨PyData.keyHash P (Str.ofString "__builtins__"), .str (Str.ofString "__builtins__") 171, (.ref 4)⟩, ⟨PyData.keyHash P (Str.ofString "__file__"), .str (Str.ofString "__file__") 173, (.str (Str.ofString "/claim/cut.py") 172)⟩, ⟨PyData.keyHash P (Str.ofString "__cached__"), .str (Str.ofString "__cached__") 174, .none⟩, ⟨PyData.keyHash P (Str.ofString "_wall"), .str (Str.ofString "_wall") 193, (.ref 21)⟩, ⟨PyData.keyHash P (Str.ofString "GateloomError"), .str (Str.ofString "GateloomError") 231, (.ref 39)⟩, ⟨PyData.keyHash P (Str.ofString "DesignError"), .str (Str.ofString "DesignError") 247, (.ref 52)⟩, ⟨PyData.keyHash P (Str.ofString "LimitReached"), .str (Str.ofString "LimitReached") 263, (.ref 64)⟩, ⟨PyData.keyHash P (Str.ofString "mask"), .str (Str.ofString "mask") 272, (.ref 73)⟩, ⟨PyData.keyHash P (Str.ofString "vec"), .str (Str.ofString "vec") 283, (.ref 81)⟩, ⟨PyData.keyHash P (Str.ofString "zeros"), .str (Str.ofString "zeros") 290, (.ref 88)⟩, ⟨PyData.keyHash P (Str.ofString "all_x"), .str (Str.ofString "all_x") 298, (.ref 95)⟩, ⟨PyData.keyHash P (Str.ofString "all_z"), .str (Str.ofString "all_z") 305, (.ref 102)⟩, ⟨PyData.keyHash P (Str.ofString "from_int"), .str (Str.ofString "from_int") 313, (.ref 109)⟩, ⟨PyData.keyHash P (Str.ofString "is_known"), .str (Str.ofString "is_known") 320, (.ref 116)⟩, ⟨PyData.keyHash P (Str.ofString "to_int"), .str (Str.ofString "to_int") 331, (.ref 123)⟩, ⟨PyData.keyHash P (Str.ofString "code"), .str (Str.ofString "code") 339, (.ref 130)⟩, ⟨PyData.keyHash P (Str.ofString "slice_vec"), .str (Str.ofString "slice_vec") 355, (.ref 137)⟩, ⟨PyData.keyHash P (Str.ofString "put_slice"), .str (Str.ofString "put_slice") 371, (.ref 144)⟩, ⟨PyData.keyHash P (Str.ofString "concat"), .str (Str.ofString "concat") 382, (.ref 151)⟩, ⟨PyData.keyHash P (Str.ofString "extend"), .str (Str.ofString "extend") 395, (.ref 158)⟩, ⟨PyData.keyHash P (Str.ofString "z_to_x"), .str (Str.ofString "z_to_x") 402, (.ref 165)⟩, ⟨PyData.keyHash P (Str.ofString "truth"), .str (Str.ofString "truth") 409, (.ref 172)⟩, ⟨PyData.keyHash P (Str.ofString "Store"), .str (Str.ofString "Store") 477, (.ref 210)⟩, ⟨PyData.keyHash P (Str.ofString "Context"), .str (Str.ofString "Context") 536, (.ref 253)⟩, ⟨PyData.keyHash P (Str.ofString "add"), .str (Str.ofString "add") 546, (.ref 264)⟩, ⟨PyData.keyHash P (Str.ofString "sub"), .str (Str.ofString "sub") 554, (.ref 271)⟩, ⟨PyData.keyHash P (Str.ofString "mul"), .str (Str.ofString "mul") 562, (.ref 278)⟩, ⟨PyData.keyHash P (Str.ofString "neg"), .str (Str.ofString "neg") 569, (.ref 285)⟩, ⟨PyData.keyHash P (Str.ofString "quotient"), .str (Str.ofString "quotient") 578, (.ref 292)⟩, ⟨PyData.keyHash P (Str.ofString "div"), .str (Str.ofString "div") 589, (.ref 299)⟩, ⟨PyData.keyHash P (Str.ofString "mod"), .str (Str.ofString "mod") 600, (.ref 306)⟩, ⟨PyData.keyHash P (Str.ofString "raise_whole"), .str (Str.ofString "raise_whole") 613, (.ref 313)⟩, ⟨PyData.keyHash P (Str.ofString "power"), .str (Str.ofString "power") 626, (.ref 320)⟩, ⟨PyData.keyHash P (Str.ofString "shift_left"), .str (Str.ofString "shift_left") 636, (.ref 327)⟩, ⟨PyData.keyHash P (Str.ofString "shift_right"), .str (Str.ofString "shift_right") 645, (.ref 334)⟩, ⟨PyData.keyHash P (Str.ofString "shift_arith"), .str (Str.ofString "shift_arith") 660, (.ref 341)⟩, ⟨PyData.keyHash P (Str.ofString "ordered"), .str (Str.ofString "ordered") 671, (.ref 348)⟩, ⟨PyData.keyHash P (Str.ofString "less"), .str (Str.ofString "less") 681, (.ref 355)⟩, ⟨PyData.keyHash P (Str.ofString "less_equal"), .str (Str.ofString "less_equal") 691, (.ref 362)⟩, ⟨PyData.keyHash P (Str.ofString "greater"), .str (Str.ofString "greater") 700, (.ref 369)⟩, ⟨PyData.keyHash P (Str.ofString "greater_equal"), .str (Str.ofString "greater_equal") 709, (.ref 376)⟩, ⟨PyData.keyHash P (Str.ofString "one_bit"), .str (Str.ofString "one_bit") 718, (.ref 383)⟩, ⟨PyData.keyHash P (Str.ofString "bit_not"), .str (Str.ofString "bit_not") 728, (.ref 390)⟩, ⟨PyData.keyHash P (Str.ofString "bit_and"), .str (Str.ofString "bit_and") 742, (.ref 397)⟩, ⟨PyData.keyHash P (Str.ofString "bit_or"), .str (Str.ofString "bit_or") 757, (.ref 404)⟩, ⟨PyData.keyHash P (Str.ofString "bit_xor"), .str (Str.ofString "bit_xor") 766, (.ref 411)⟩, ⟨PyData.keyHash P (Str.ofString "bit_xnor"), .str (Str.ofString "bit_xnor") 774, (.ref 418)⟩, ⟨PyData.keyHash P (Str.ofString "reduce_and"), .str (Str.ofString "reduce_and") 784, (.ref 425)⟩, ⟨PyData.keyHash P (Str.ofString "reduce_nand"), .str (Str.ofString "reduce_nand") 791, (.ref 432)⟩, ⟨PyData.keyHash P (Str.ofString "reduce_or"), .str (Str.ofString "reduce_or") 798, (.ref 439)⟩, ⟨PyData.keyHash P (Str.ofString "reduce_nor"), .str (Str.ofString "reduce_nor") 805, (.ref 446)⟩, ⟨PyData.keyHash P (Str.ofString "reduce_xor"), .str (Str.ofString "reduce_xor") 814, (.ref 453)⟩, ⟨PyData.keyHash P (Str.ofString "reduce_xnor"), .str (Str.ofString "reduce_xnor") 821, (.ref 460)⟩, ⟨PyData.keyHash P (Str.ofString "logic_not"), .str (Str.ofString "logic_not") 828, (.ref 467)⟩, ⟨PyData.keyHash P (Str.ofString "logic_and"), .str (Str.ofString "logic_and") 836, (.ref 474)⟩, ⟨PyData.keyHash P (Str.ofString "logic_or"), .str (Str.ofString "logic_or") 844, (.ref 481)⟩, ⟨PyData.keyHash P (Str.ofString "equal"), .str (Str.ofString "equal") 853, (.ref 488)⟩, ⟨PyData.keyHash P (Str.ofString "not_equal"), .str (Str.ofString "not_equal") 861, (.ref 495)⟩, ⟨PyData.keyHash P (Str.ofString "case_equal"), .str (Str.ofString "case_equal") 869, (.ref 502)⟩, ⟨PyData.keyHash P (Str.ofString "case_not_equal"), .str (Str.ofString "case_not_equal") 877, (.ref 509)⟩, ⟨PyData.keyHash P (Str.ofString "matches"), .str (Str.ofString "matches") 888, (.ref 516)⟩, ⟨PyData.keyHash P (Str.ofString "choose"), .str (Str.ofString "choose") 901, (.ref 523)⟩, ⟨PyData.keyHash P (Str.ofString "unary"), .str (Str.ofString "unary") 911, (.ref 530)⟩, ⟨PyData.keyHash P (Str.ofString "arithmetic"), .str (Str.ofString "arithmetic") 921, (.ref 537)⟩, ⟨PyData.keyHash P (Str.ofString "comparison"), .str (Str.ofString "comparison") 931, (.ref 544)⟩, ⟨PyData.keyHash P (Str.ofString "bitwise"), .str (Str.ofString "bitwise") 940, (.ref 551)⟩, ⟨PyData.keyHash P (Str.ofString "binary"), .str (Str.ofString "binary") 951, (.ref 558)⟩, ⟨PyData.keyHash P (Str.ofString "whole_of"), .str (Str.ofString "whole_of") 960, (.ref 565)⟩, ⟨PyData.keyHash P (Str.ofString "memory_word"), .str (Str.ofString "memory_word") 970, (.ref 572)⟩, ⟨PyData.keyHash P (Str.ofString "picked"), .str (Str.ofString "picked") 980, (.ref 579)⟩, ⟨PyData.keyHash P (Str.ofString "conditional"), .str (Str.ofString "conditional") 990, (.ref 586)⟩, ⟨PyData.keyHash P (Str.ofString "bits_needed"), .str (Str.ofString "bits_needed") 998, (.ref 593)⟩, ⟨PyData.keyHash P (Str.ofString "system_value"), .str (Str.ofString "system_value") 1009, (.ref 997)⟩, ⟨PyData.keyHash P (Str.ofString "system_value_evaluate"), .str (Str.ofString "system_value_evaluate") 1010, (.ref 600)⟩, ⟨PyData.keyHash P (Str.ofString "evaluate"), .str (Str.ofString "evaluate") 1016, (.ref 605)⟩, ⟨PyData.keyHash P (Str.ofString "locate"), .str (Str.ofString "locate") 1025, (.ref 612)⟩, ⟨PyData.keyHash P (Str.ofString "holder_width"), .str (Str.ofString "holder_width") 1033, (.ref 619)⟩, ⟨PyData.keyHash P (Str.ofString "resolve_target"), .str (Str.ofString "resolve_target") 1052, (.ref 626)⟩, ⟨PyData.keyHash P (Str.ofString "store_rows"), .str (Str.ofString "store_rows") 1069, (.ref 633)⟩, ⟨PyData.keyHash P (Str.ofString "DEPTH_LIMIT"), .str (Str.ofString "DEPTH_LIMIT") 1073, (.int (24) 1072)⟩, ⟨PyData.keyHash P (Str.ofString "FunctionContext"), .str (Str.ofString "FunctionContext") 1140, (.ref 677)⟩, ⟨PyData.keyHash P (Str.ofString "run_block"), .str (Str.ofString "run_block") 1150, (.ref 686)⟩, ⟨PyData.keyHash P (Str.ofString "run_set"), .str (Str.ofString "run_set") 1160, (.ref 693)⟩, ⟨PyData.keyHash P (Str.ofString "run_case"), .str (Str.ofString "run_case") 1173, (.ref 700)⟩, ⟨PyData.keyHash P (Str.ofString "run_while"), .str (Str.ofString "run_while") 1184, (.ref 707)⟩, ⟨PyData.keyHash P (Str.ofString "run_repeat"), .str (Str.ofString "run_repeat") 1194, (.ref 714)⟩, ⟨PyData.keyHash P (Str.ofString "run_for"), .str (Str.ofString "run_for") 1202, (.ref 721)⟩, ⟨PyData.keyHash P (Str.ofString "run_statement"), .str (Str.ofString "run_statement") 1211, (.ref 728)⟩, ⟨PyData.keyHash P (Str.ofString "children"), .str (Str.ofString "children") 1221, (.ref 735)⟩, ⟨PyData.keyHash P (Str.ofString "subexpressions"), .str (Str.ofString "subexpressions") 1232, (.ref 742)⟩, ⟨PyData.keyHash P (Str.ofString "expr_reads"), .str (Str.ofString "expr_reads") 1241, (.ref 749)⟩, ⟨PyData.keyHash P (Str.ofString "expr_calls"), .str (Str.ofString "expr_calls") 1250, (.ref 756)⟩, ⟨PyData.keyHash P (Str.ofString "target_indexes"), .str (Str.ofString "target_indexes") 1259, (.ref 763)⟩, ⟨PyData.keyHash P (Str.ofString "target_writes"), .str (Str.ofString "target_writes") 1268, (.ref 770)⟩, ⟨PyData.keyHash P (Str.ofString "stmt_parts"), .str (Str.ofString "stmt_parts") 1274, (.ref 775)⟩, ⟨PyData.keyHash P (Str.ofString "substatements"), .str (Str.ofString "substatements") 1285, (.ref 782)⟩, ⟨PyData.keyHash P (Str.ofString "stmt_targets"), .str (Str.ofString "stmt_targets") 1291, (.ref 787)⟩, ⟨PyData.keyHash P (Str.ofString "stmt_exprs"), .str (Str.ofString "stmt_exprs") 1303, (.ref 794)⟩, ⟨PyData.keyHash P (Str.ofString "stmt_reads"), .str (Str.ofString "stmt_reads") 1314, (.ref 801)⟩, ⟨PyData.keyHash P (Str.ofString "stmt_writes"), .str (Str.ofString "stmt_writes") 1325, (.ref 808)⟩, ⟨PyData.keyHash P (Str.ofString "stmt_calls"), .str (Str.ofString "stmt_calls") 1336, (.ref 815)⟩, ⟨PyData.keyHash P (Str.ofString "MAX_WIDTH"), .str (Str.ofString "MAX_WIDTH") 1340, (.int (65536) 1339)⟩, ⟨PyData.keyHash P (Str.ofString "last_select"), .str (Str.ofString "last_select") 1349, (.ref 822)⟩, ⟨PyData.keyHash P (Str.ofString "is_memory"), .str (Str.ofString "is_memory") 1357, (.ref 829)⟩, ⟨PyData.keyHash P (Str.ofString "shape"), .str (Str.ofString "shape") 1367, (.ref 836)⟩, ⟨PyData.keyHash P (Str.ofString "read_entry"), .str (Str.ofString "read_entry") 1377, (.ref 843)⟩, ⟨PyData.keyHash P (Str.ofString "folds"), .str (Str.ofString "folds") 1384, (.ref 850)⟩, ⟨PyData.keyHash P (Str.ofString "folded"), .str (Str.ofString "folded") 1392, (.ref 857)⟩, ⟨PyData.keyHash P (Str.ofString "checked_width"), .str (Str.ofString "checked_width") 1400, (.ref 864)⟩, ⟨PyData.keyHash P (Str.ofString "selected"), .str (Str.ofString "selected") 1409, (.ref 871)⟩, ⟨PyData.keyHash P (Str.ofString "text_vec"), .str (Str.ofString "text_vec") 1418, (.ref 878)⟩, ⟨PyData.keyHash P (Str.ofString "inner_join"), .str (Str.ofString "inner_join") 1425, (.ref 885)⟩, ⟨PyData.keyHash P (Str.ofString "is_context_operator"), .str (Str.ofString "is_context_operator") 1432, (.ref 892)⟩, ⟨PyData.keyHash P (Str.ofString "is_shift"), .str (Str.ofString "is_shift") 1439, (.ref 899)⟩, ⟨PyData.keyHash P (Str.ofString "widen"), .str (Str.ofString "widen") 1448, (.ref 906)⟩, ⟨PyData.keyHash P (Str.ofString "number_value"), .str (Str.ofString "number_value") 1459, (.ref 913)⟩, ⟨PyData.keyHash P (Str.ofString "is_constant"), .str (Str.ofString "is_constant") 1472, (.ref 920)⟩, ⟨PyData.keyHash P (Str.ofString "path_names"), .str (Str.ofString "path_names") 1485, (.ref 927)⟩, ⟨PyData.keyHash P (Str.ofString "entry_of"), .str (Str.ofString "entry_of") 1494, (.ref 934)⟩, ⟨PyData.keyHash P (Str.ofString "base_entry"), .str (Str.ofString "base_entry") 1504, (.ref 941)⟩, ⟨PyData.keyHash P (Str.ofString "select_width"), .str (Str.ofString "select_width") 1512, (.ref 948)⟩, ⟨PyData.keyHash P (Str.ofString "select_where"), .str (Str.ofString "select_where") 1530, (.ref 955)⟩, ⟨PyData.keyHash P (Str.ofString "named_type"), .str (Str.ofString "named_type") 1540, (.ref 962)⟩, ⟨PyData.keyHash P (Str.ofString "named_value"), .str (Str.ofString "named_value") 1553, (.ref 969)⟩, ⟨PyData.keyHash P (Str.ofString "function_of"), .str (Str.ofString "function_of") 1563, (.ref 976)⟩, ⟨PyData.keyHash P (Str.ofString "call_value"), .str (Str.ofString "call_value") 1575, (.ref 983)⟩, ⟨PyData.keyHash P (Str.ofString "system_type"), .str (Str.ofString "system_type") 1585, (.ref 990)⟩, ⟨PyData.keyHash P (Str.ofString "system_value_elabexpr"), .str (Str.ofString "system_value_elabexpr") 1597, (.ref 997)⟩, ⟨PyData.keyHash P (Str.ofString "joined_parts"), .str (Str.ofString "joined_parts") 1607, (.ref 1004)⟩, ⟨PyData.keyHash P (Str.ofString "copies"), .str (Str.ofString "copies") 1616, (.ref 1011)⟩, ⟨PyData.keyHash P (Str.ofString "joined_width"), .str (Str.ofString "joined_width") 1626, (.ref 1018)⟩, ⟨PyData.keyHash P (Str.ofString "joined_value"), .str (Str.ofString "joined_value") 1637, (.ref 1025)⟩, ⟨PyData.keyHash P (Str.ofString "both_types"), .str (Str.ofString "both_types") 1648, (.ref 1032)⟩, ⟨PyData.keyHash P (Str.ofString "expr_type"), .str (Str.ofString "expr_type") 1658, (.ref 1039)⟩, ⟨PyData.keyHash P (Str.ofString "unary_value"), .str (Str.ofString "unary_value") 1669, (.ref 1046)⟩, ⟨PyData.keyHash P (Str.ofString "binary_value"), .str (Str.ofString "binary_value") 1685, (.ref 1053)⟩, ⟨PyData.keyHash P (Str.ofString "build"), .str (Str.ofString "build") 1699, (.ref 1060)⟩, ⟨PyData.keyHash P (Str.ofString "self_determined"), .str (Str.ofString "self_determined") 1709, (.ref 1067)⟩, ⟨PyData.keyHash P (Str.ofString "sized"), .str (Str.ofString "sized") 1720, (.ref 1074)⟩, ⟨PyData.keyHash P (Str.ofString "constant_vec"), .str (Str.ofString "constant_vec") 1730, (.ref 1081)⟩, ⟨PyData.keyHash P (Str.ofString "constant"), .str (Str.ofString "constant") 1740, (.ref 1088)⟩, ⟨PyData.keyHash P (Str.ofString "whole"), .str (Str.ofString "whole") 1751, (.ref 1095)⟩, ⟨PyData.keyHash P (Str.ofString "MOST_TURNS"), .str (Str.ofString "MOST_TURNS") 1755, (.int (256) 1754)⟩, ⟨PyData.keyHash P (Str.ofString "block_label"), .str (Str.ofString "block_label") 1763, (.ref 1102)⟩, ⟨PyData.keyHash P (Str.ofString "branch_rows"), .str (Str.ofString "branch_rows") 1772, (.ref 1109)⟩, ⟨PyData.keyHash P (Str.ofString "common_type"), .str (Str.ofString "common_type") 1783, (.ref 1116)⟩, ⟨PyData.keyHash P (Str.ofString "case_branch"), .str (Str.ofString "case_branch") 1802, (.ref 1123)⟩, ⟨PyData.keyHash P (Str.ofString "loop_values"), .str (Str.ofString "loop_values") 1814, (.ref 1130)⟩, ⟨PyData.keyHash P (Str.ofString "loop_rows"), .str (Str.ofString "loop_rows") 1827, (.ref 1137)⟩, ⟨PyData.keyHash P (Str.ofString "generate_choice"), .str (Str.ofString "generate_choice") 1838, (.ref 1145)⟩, ⟨PyData.keyHash P (Str.ofString "Design"), .str (Str.ofString "Design") 1939, (.ref 1204)⟩, ⟨PyData.keyHash P (Str.ofString "Scope"), .str (Str.ofString "Scope") 2058, (.ref 1281)⟩, ⟨PyData.keyHash P (Str.ofString "_law_row"), .str (Str.ofString "_law_row") 2071, (.ref 1292)⟩, ⟨PyData.keyHash P (Str.ofString "_law_next"), .str (Str.ofString "_law_next") 2078, (.ref 1299)⟩, ⟨PyData.keyHash P (Str.ofString "_law_number"), .str (Str.ofString "_law_number") 2085, (.ref 1306)⟩, ⟨PyData.keyHash P (Str.ofString "_law_amount"), .str (Str.ofString "_law_amount") 2100, (.ref 1314)⟩, ⟨PyData.keyHash P (Str.ofString "_law_test"), .str (Str.ofString "_law_test") 2113, (.ref 1321)⟩, ⟨PyData.keyHash P (Str.ofString "_law_branch"), .str (Str.ofString "_law_branch") 2127, (.ref 1328)⟩, ⟨PyData.keyHash P (Str.ofString "_law_choice"), .str (Str.ofString "_law_choice") 2133, (.ref 1333)⟩, ⟨PyData.keyHash P (Str.ofString "_law_loop"), .str (Str.ofString "_law_loop") 2156, (.ref 1340)⟩, ⟨PyData.keyHash P (Str.ofString "law"), .str (Str.ofString "law") 2162, (.ref 1345)⟩].toArray 167, #[]⟩
noncomputable def o72 (P : Params) : Obj := ⟨(.type "code"), none, .fields [(.str (Str.ofString "mask") 266), (.str (Str.ofString "mask") 267), (.str (Str.ofString "/claim/cut.py") 268), (.int (16) 0), (.int (1) 0), (.int (0) 0), (.int (0) 0), (.int (3) 0), (.ref 67), (.bool true), (.int (181) 0), (.ref 68), .none, (.ref 69), (.ref 70), (.ref 71), (.int (270) 0), (.int (16) 0), (.str (Str.ofString "/claim/cut.py") 271)].toArray, #[]⟩
noncomputable def o73 (P : Params) : Obj := fnO (bodyAt 6) (Str.ofString "mask") .none .none .none (.str (Str.ofString "gateloom.vec") 264) (.ref 72) .none
noncomputable def o74 (P : Params) : Obj := ⟨(.type "tuple"), none, .seq [(.int (0) 273)].toArray 0, #[]⟩
noncomputable def o80 (P : Params) : Obj := ⟨(.type "code"), none, .fields [(.str (Str.ofString "vec") 274), (.str (Str.ofString "vec") 275), (.str (Str.ofString "/claim/cut.py") 276), (.int (18) 0), (.int (3) 0), (.int (0) 0), (.int (0) 0), (.int (3) 0), (.ref 75), (.bool true), (.int (181) 0), (.ref 76), .none, (.ref 77), (.ref 78), (.ref 79), (.int (281) 0), (.int (18) 0), (.str (Str.ofString "/claim/cut.py") 282)].toArray, #[]⟩
noncomputable def o81 (P : Params) : Obj := fnO (bodyAt 7) (Str.ofString "vec") (.ref 74) .none .none (.str (Str.ofString "gateloom.vec") 264) (.ref 80) .none
noncomputable def o94 (P : Params) : Obj := ⟨(.type "code"), none, .fields [(.str (Str.ofString "all_x") 291), (.str (Str.ofString "all_x") 292), (.str (Str.ofString "/claim/cut.py") 293), (.int (23) 0), (.int (1) 0), (.int (0) 0), (.int (0) 0), (.int (3) 0), (.ref 89), (.bool true), (.int (181) 0), (.ref 90), .none, (.ref 91), (.ref 92), (.ref 93), (.int (296) 0), (.int (23) 0), (.str (Str.ofString "/claim/cut.py") 297)].toArray, #[]⟩
noncomputable def o95 (P : Params) : Obj := fnO (bodyAt 9) (Str.ofString "all_x") .none .none .none (.str (Str.ofString "gateloom.vec") 264) (.ref 94) .none
noncomputable def o108 (P : Params) : Obj := ⟨(.type "code"), none, .fields [(.str (Str.ofString "from_int") 306), (.str (Str.ofString "from_int") 307), (.str (Str.ofString "/claim/cut.py") 308), (.int (28) 0), (.int (2) 0), (.int (0) 0), (.int (0) 0), (.int (3) 0), (.ref 103), (.bool true), (.int (181) 0), (.ref 104), .none, (.ref 105), (.ref 106), (.ref 107), (.int (311) 0), (.int (28) 0), (.str (Str.ofString "/claim/cut.py") 312)].toArray, #[]⟩
noncomputable def o109 (P : Params) : Obj := fnO (bodyAt 11) (Str.ofString "from_int") .none .none .none (.str (Str.ofString "gateloom.vec") 264) (.ref 108) .none
noncomputable def o115 (P : Params) : Obj := ⟨(.type "code"), none, .fields [(.str (Str.ofString "is_known") 314), (.str (Str.ofString "is_known") 315), (.str (Str.ofString "/claim/cut.py") 316), (.int (30) 0), (.int (1) 0), (.int (0) 0), (.int (0) 0), (.int (3) 0), (.ref 110), (.bool true), (.int (181) 0), (.ref 111), .none, (.ref 112), (.ref 113), (.ref 114), (.int (318) 0), (.int (30) 0), (.str (Str.ofString "/claim/cut.py") 319)].toArray, #[]⟩
noncomputable def o116 (P : Params) : Obj := fnO (bodyAt 12) (Str.ofString "is_known") .none .none .none (.str (Str.ofString "gateloom.vec") 264) (.ref 115) .none
noncomputable def o122 (P : Params) : Obj := ⟨(.type "code"), none, .fields [(.str (Str.ofString "to_int") 321), (.str (Str.ofString "to_int") 322), (.str (Str.ofString "/claim/cut.py") 323), (.int (32) 0), (.int (2) 0), (.int (0) 0), (.int (0) 0), (.int (3) 0), (.ref 117), (.bool true), (.int (181) 0), (.ref 118), .none, (.ref 119), (.ref 120), (.ref 121), (.int (329) 0), (.int (32) 0), (.str (Str.ofString "/claim/cut.py") 330)].toArray, #[]⟩
noncomputable def o123 (P : Params) : Obj := fnO (bodyAt 13) (Str.ofString "to_int") .none .none .none (.str (Str.ofString "gateloom.vec") 264) (.ref 122) .none
noncomputable def o129 (P : Params) : Obj := ⟨(.type "code"), none, .fields [(.str (Str.ofString "code") 332), (.str (Str.ofString "code") 333), (.str (Str.ofString "/claim/cut.py") 334), (.int (39) 0), (.int (2) 0), (.int (0) 0), (.int (0) 0), (.int (3) 0), (.ref 124), (.bool true), (.int (181) 0), (.ref 125), .none, (.ref 126), (.ref 127), (.ref 128), (.int (337) 0), (.int (39) 0), (.str (Str.ofString "/claim/cut.py") 338)].toArray, #[]⟩
noncomputable def o130 (P : Params) : Obj := fnO (bodyAt 14) (Str.ofString "code") .none .none .none (.str (Str.ofString "gateloom.vec") 264) (.ref 129) .none
noncomputable def o157 (P : Params) : Obj := ⟨(.type "code"), none, .fields [(.str (Str.ofString "extend") 383), (.str (Str.ofString "extend") 384), (.str (Str.ofString "/claim/cut.py") 385), (.int (72) 0), (.int (3) 0), (.int (0) 0), (.int (0) 0), (.int (3) 0), (.ref 152), (.bool true), (.int (181) 0), (.ref 153), .none, (.ref 154), (.ref 155), (.ref 156), (.int (393) 0), (.int (72) 0), (.str (Str.ofString "/claim/cut.py") 394)].toArray, #[]⟩
noncomputable def o158 (P : Params) : Obj := fnO (bodyAt 18) (Str.ofString "extend") .none .none .none (.str (Str.ofString "gateloom.vec") 264) (.ref 157) .none
noncomputable def o171 (P : Params) : Obj := ⟨(.type "code"), none, .fields [(.str (Str.ofString "truth") 403), (.str (Str.ofString "truth") 404), (.str (Str.ofString "/claim/cut.py") 405), (.int (84) 0), (.int (1) 0), (.int (0) 0), (.int (0) 0), (.int (3) 0), (.ref 166), (.bool true), (.int (181) 0), (.ref 167), .none, (.ref 168), (.ref 169), (.ref 170), (.int (407) 0), (.int (84) 0), (.str (Str.ofString "/claim/cut.py") 408)].toArray, #[]⟩
noncomputable def o172 (P : Params) : Obj := fnO (bodyAt 20) (Str.ofString "truth") .none .none .none (.str (Str.ofString "gateloom.vec") 264) (.ref 171) .none
noncomputable def o185 (P : Params) : Obj := ⟨(.type "code"), none, .fields [(.str (Str.ofString "__init__") 424), (.str (Str.ofString "Store.__init__") 425), (.str (Str.ofString "/claim/cut.py") 426), (.int (93) 0), (.int (2) 0), (.int (0) 0), (.int (0) 0), (.int (3) 0), (.ref 180), (.bool true), (.int (181) 0), (.ref 181), .none, (.ref 182), (.ref 183), (.ref 184), (.int (429) 0), (.int (93) 0), (.str (Str.ofString "/claim/cut.py") 430)].toArray, #[]⟩
noncomputable def o186 (P : Params) : Obj := fnO (methAt 22 0) (Str.ofString "Store.__init__") .none .none .none (.str (Str.ofString "gateloom.store") 410) (.ref 185) .none
noncomputable def o209 (P : Params) : Obj := ⟨(.type "dict"), none, .dict [⟨PyData.keyHash P (Str.ofString "__module__"), .str (Str.ofString "__module__") 419, (.str (Str.ofString "gateloom.store") 410)⟩, ⟨PyData.keyHash P (Str.ofString "__firstlineno__"), .str (Str.ofString "__firstlineno__") 423, (.int (91) 422)⟩, ⟨PyData.keyHash P (Str.ofString "__init__"), .str (Str.ofString "__init__") 431, (.ref 186)⟩, ⟨PyData.keyHash P (Str.ofString "get"), .str (Str.ofString "get") 441, (.ref 193)⟩, ⟨PyData.keyHash P (Str.ofString "word"), .str (Str.ofString "word") 452, (.ref 200)⟩, ⟨PyData.keyHash P (Str.ofString "set_bits"), .str (Str.ofString "set_bits") 465, (.ref 207)⟩, ⟨PyData.keyHash P (Str.ofString "__static_attributes__"), .str (Str.ofString "__static_attributes__") 470, (.ref 208)⟩, ⟨PyData.keyHash P (Str.ofString "__dict__"), .str (Str.ofString "__dict__") 472, (.ref 211)⟩, ⟨PyData.keyHash P (Str.ofString "__weakref__"), .str (Str.ofString "__weakref__") 474, (.ref 212)⟩, ⟨PyData.keyHash P (Str.ofString "__doc__"), .str (Str.ofString "__doc__") 475, .none⟩].toArray 4, #[]⟩
noncomputable def o210 (P : Params) : Obj := ⟨(.type "type"), none, .cls ⟨(Str.ofString "Store"), [(.type "object")], [(.ref 210), (.type "object")], 209, (Str.ofString "Store"), true, [], [], false, none, false⟩, [none, none, some (.str (Str.ofString "Store") 412), some (.str (Str.ofString "Store") 420), some (.builtin "object.__new__"), some (.bool true)].toArray⟩
noncomputable def o222 (P : Params) : Obj := ⟨(.type "tuple"), none, .seq [(.int (0) 490)].toArray 0, #[]⟩
noncomputable def o228 (P : Params) : Obj := ⟨(.type "code"), none, .fields [(.str (Str.ofString "__init__") 491), (.str (Str.ofString "Context.__init__") 492), (.str (Str.ofString "/claim/cut.py") 493), (.int (136) 0), (.int (4) 0), (.int (0) 0), (.int (0) 0), (.int (3) 0), (.ref 223), (.bool true), (.int (181) 0), (.ref 224), .none, (.ref 225), (.ref 226), (.ref 227), (.int (498) 0), (.int (136) 0), (.str (Str.ofString "/claim/cut.py") 499)].toArray, #[]⟩
noncomputable def o229 (P : Params) : Obj := fnO (methAt 23 0) (Str.ofString "Context.__init__") (.ref 222) .none .none (.str (Str.ofString "gateloom.store") 410) (.ref 228) .none
noncomputable def o252 (P : Params) : Obj := ⟨(.type "dict"), none, .dict [⟨PyData.keyHash P (Str.ofString "__module__"), .str (Str.ofString "__module__") 485, (.str (Str.ofString "gateloom.store") 410)⟩, ⟨PyData.keyHash P (Str.ofString "__firstlineno__"), .str (Str.ofString "__firstlineno__") 489, (.int (134) 488)⟩, ⟨PyData.keyHash P (Str.ofString "__init__"), .str (Str.ofString "__init__") 500, (.ref 229)⟩, ⟨PyData.keyHash P (Str.ofString "call"), .str (Str.ofString "call") 509, (.ref 236)⟩, ⟨PyData.keyHash P (Str.ofString "next_random"), .str (Str.ofString "next_random") 517, (.ref 243)⟩, ⟨PyData.keyHash P (Str.ofString "time_vec"), .str (Str.ofString "time_vec") 525, (.ref 250)⟩, ⟨PyData.keyHash P (Str.ofString "__static_attributes__"), .str (Str.ofString "__static_attributes__") 529, (.ref 251)⟩, ⟨PyData.keyHash P (Str.ofString "__dict__"), .str (Str.ofString "__dict__") 531, (.ref 254)⟩, ⟨PyData.keyHash P (Str.ofString "__weakref__"), .str (Str.ofString "__weakref__") 533, (.ref 255)⟩, ⟨PyData.keyHash P (Str.ofString "__doc__"), .str (Str.ofString "__doc__") 534, .none⟩].toArray 4, #[]⟩
noncomputable def o253 (P : Params) : Obj := ⟨(.type "type"), none, .cls ⟨(Str.ofString "Context"), [(.type "object")], [(.ref 253), (.type "object")], 252, (Str.ofString "Context"), true, [], [(.ref 677)], false, none, false⟩, [none, none, some (.str (Str.ofString "Context") 478), some (.str (Str.ofString "Context") 486), some (.builtin "object.__new__"), some (.bool true)].toArray⟩
noncomputable def o263 (P : Params) : Obj := ⟨(.type "code"), none, .fields [(.str (Str.ofString "add") 539), (.str (Str.ofString "add") 540), (.str (Str.ofString "/claim/cut.py") 541), (.int (154) 0), (.int (2) 0), (.int (0) 0), (.int (0) 0), (.int (3) 0), (.ref 258), (.bool true), (.int (181) 0), (.ref 259), .none, (.ref 260), (.ref 261), (.ref 262), (.int (544) 0), (.int (154) 0), (.str (Str.ofString "/claim/cut.py") 545)].toArray, #[]⟩
noncomputable def o264 (P : Params) : Obj := fnO (bodyAt 25) (Str.ofString "add") .none .none .none (.str (Str.ofString "gateloom.vecarith") 537) (.ref 263) .none
noncomputable def o347 (P : Params) : Obj := ⟨(.type "code"), none, .fields [(.str (Str.ofString "ordered") 661), (.str (Str.ofString "ordered") 662), (.str (Str.ofString "/claim/cut.py") 663), (.int (238) 0), (.int (3) 0), (.int (0) 0), (.int (0) 0), (.int (3) 0), (.ref 342), (.bool true), (.int (181) 0), (.ref 343), .none, (.ref 344), (.ref 345), (.ref 346), (.int (669) 0), (.int (238) 0), (.str (Str.ofString "/claim/cut.py") 670)].toArray, #[]⟩
noncomputable def o348 (P : Params) : Obj := fnO (bodyAt 37) (Str.ofString "ordered") .none .none .none (.str (Str.ofString "gateloom.vecarith") 537) (.ref 347) .none
noncomputable def o354 (P : Params) : Obj := ⟨(.type "code"), none, .fields [(.str (Str.ofString "less") 672), (.str (Str.ofString "less") 673), (.str (Str.ofString "/claim/cut.py") 674), (.int (246) 0), (.int (3) 0), (.int (0) 0), (.int (0) 0), (.int (3) 0), (.ref 349), (.bool true), (.int (181) 0), (.ref 350), .none, (.ref 351), (.ref 352), (.ref 353), (.int (679) 0), (.int (246) 0), (.str (Str.ofString "/claim/cut.py") 680)].toArray, #[]⟩
noncomputable def o355 (P : Params) : Obj := fnO (bodyAt 38) (Str.ofString "less") .none .none .none (.str (Str.ofString "gateloom.vecarith") 537) (.ref 354) .none
noncomputable def o361 (P : Params) : Obj := ⟨(.type "code"), none, .fields [(.str (Str.ofString "less_equal") 682), (.str (Str.ofString "less_equal") 683), (.str (Str.ofString "/claim/cut.py") 684), (.int (251) 0), (.int (3) 0), (.int (0) 0), (.int (0) 0), (.int (3) 0), (.ref 356), (.bool true), (.int (181) 0), (.ref 357), .none, (.ref 358), (.ref 359), (.ref 360), (.int (689) 0), (.int (251) 0), (.str (Str.ofString "/claim/cut.py") 690)].toArray, #[]⟩
noncomputable def o362 (P : Params) : Obj := fnO (bodyAt 39) (Str.ofString "less_equal") .none .none .none (.str (Str.ofString "gateloom.vecarith") 537) (.ref 361) .none
noncomputable def o368 (P : Params) : Obj := ⟨(.type "code"), none, .fields [(.str (Str.ofString "greater") 692), (.str (Str.ofString "greater") 693), (.str (Str.ofString "/claim/cut.py") 694), (.int (256) 0), (.int (3) 0), (.int (0) 0), (.int (0) 0), (.int (3) 0), (.ref 363), (.bool true), (.int (181) 0), (.ref 364), .none, (.ref 365), (.ref 366), (.ref 367), (.int (698) 0), (.int (256) 0), (.str (Str.ofString "/claim/cut.py") 699)].toArray, #[]⟩
noncomputable def o369 (P : Params) : Obj := fnO (bodyAt 40) (Str.ofString "greater") .none .none .none (.str (Str.ofString "gateloom.vecarith") 537) (.ref 368) .none
noncomputable def o375 (P : Params) : Obj := ⟨(.type "code"), none, .fields [(.str (Str.ofString "greater_equal") 701), (.str (Str.ofString "greater_equal") 702), (.str (Str.ofString "/claim/cut.py") 703), (.int (258) 0), (.int (3) 0), (.int (0) 0), (.int (0) 0), (.int (3) 0), (.ref 370), (.bool true), (.int (181) 0), (.ref 371), .none, (.ref 372), (.ref 373), (.ref 374), (.int (707) 0), (.int (258) 0), (.str (Str.ofString "/claim/cut.py") 708)].toArray, #[]⟩
noncomputable def o376 (P : Params) : Obj := fnO (bodyAt 41) (Str.ofString "greater_equal") .none .none .none (.str (Str.ofString "gateloom.vecarith") 537) (.ref 375) .none
noncomputable def o382 (P : Params) : Obj := ⟨(.type "code"), none, .fields [(.str (Str.ofString "one_bit") 712), (.str (Str.ofString "one_bit") 713), (.str (Str.ofString "/claim/cut.py") 714), (.int (261) 0), (.int (1) 0), (.int (0) 0), (.int (0) 0), (.int (3) 0), (.ref 377), (.bool true), (.int (181) 0), (.ref 378), .none, (.ref 379), (.ref 380), (.ref 381), (.int (716) 0), (.int (261) 0), (.str (Str.ofString "/claim/cut.py") 717)].toArray, #[]⟩
noncomputable def o383 (P : Params) : Obj := fnO (bodyAt 43) (Str.ofString "one_bit") .none .none .none (.str (Str.ofString "gateloom.vecops") 710) (.ref 382) .none
noncomputable def o389 (P : Params) : Obj := ⟨(.type "code"), none, .fields [(.str (Str.ofString "bit_not") 719), (.str (Str.ofString "bit_not") 720), (.str (Str.ofString "/claim/cut.py") 721), (.int (263) 0), (.int (1) 0), (.int (0) 0), (.int (0) 0), (.int (3) 0), (.ref 384), (.bool true), (.int (181) 0), (.ref 385), .none, (.ref 386), (.ref 387), (.ref 388), (.int (726) 0), (.int (263) 0), (.str (Str.ofString "/claim/cut.py") 727)].toArray, #[]⟩
noncomputable def o390 (P : Params) : Obj := fnO (bodyAt 44) (Str.ofString "bit_not") .none .none .none (.str (Str.ofString "gateloom.vecops") 710) (.ref 389) .none
noncomputable def o487 (P : Params) : Obj := ⟨(.type "code"), none, .fields [(.str (Str.ofString "equal") 845), (.str (Str.ofString "equal") 846), (.str (Str.ofString "/claim/cut.py") 847), (.int (310) 0), (.int (2) 0), (.int (0) 0), (.int (0) 0), (.int (3) 0), (.ref 482), (.bool true), (.int (181) 0), (.ref 483), .none, (.ref 484), (.ref 485), (.ref 486), (.int (851) 0), (.int (310) 0), (.str (Str.ofString "/claim/cut.py") 852)].toArray, #[]⟩
noncomputable def o488 (P : Params) : Obj := fnO (bodyAt 58) (Str.ofString "equal") .none .none .none (.str (Str.ofString "gateloom.vecops") 710) (.ref 487) .none
noncomputable def o494 (P : Params) : Obj := ⟨(.type "code"), none, .fields [(.str (Str.ofString "not_equal") 854), (.str (Str.ofString "not_equal") 855), (.str (Str.ofString "/claim/cut.py") 856), (.int (315) 0), (.int (2) 0), (.int (0) 0), (.int (0) 0), (.int (3) 0), (.ref 489), (.bool true), (.int (181) 0), (.ref 490), .none, (.ref 491), (.ref 492), (.ref 493), (.int (859) 0), (.int (315) 0), (.str (Str.ofString "/claim/cut.py") 860)].toArray, #[]⟩
noncomputable def o495 (P : Params) : Obj := fnO (bodyAt 59) (Str.ofString "not_equal") .none .none .none (.str (Str.ofString "gateloom.vecops") 710) (.ref 494) .none
noncomputable def o536 (P : Params) : Obj := ⟨(.type "code"), none, .fields [(.str (Str.ofString "arithmetic") 912), (.str (Str.ofString "arithmetic") 913), (.str (Str.ofString "/claim/cut.py") 914), (.int (360) 0), (.int (4) 0), (.int (0) 0), (.int (0) 0), (.int (3) 0), (.ref 531), (.bool true), (.int (181) 0), (.ref 532), .none, (.ref 533), (.ref 534), (.ref 535), (.int (919) 0), (.int (360) 0), (.str (Str.ofString "/claim/cut.py") 920)].toArray, #[]⟩
noncomputable def o537 (P : Params) : Obj := fnO (bodyAt 66) (Str.ofString "arithmetic") .none .none .none (.str (Str.ofString "gateloom.evaluate") 902) (.ref 536) .none
noncomputable def o543 (P : Params) : Obj := ⟨(.type "code"), none, .fields [(.str (Str.ofString "comparison") 922), (.str (Str.ofString "comparison") 923), (.str (Str.ofString "/claim/cut.py") 924), (.int (378) 0), (.int (4) 0), (.int (0) 0), (.int (0) 0), (.int (3) 0), (.ref 538), (.bool true), (.int (181) 0), (.ref 539), .none, (.ref 540), (.ref 541), (.ref 542), (.int (929) 0), (.int (378) 0), (.str (Str.ofString "/claim/cut.py") 930)].toArray, #[]⟩
noncomputable def o544 (P : Params) : Obj := fnO (bodyAt 67) (Str.ofString "comparison") .none .none .none (.str (Str.ofString "gateloom.evaluate") 902) (.ref 543) .none
noncomputable def o557 (P : Params) : Obj := ⟨(.type "code"), none, .fields [(.str (Str.ofString "binary") 941), (.str (Str.ofString "binary") 942), (.str (Str.ofString "/claim/cut.py") 943), (.int (410) 0), (.int (4) 0), (.int (0) 0), (.int (0) 0), (.int (3) 0), (.ref 552), (.bool true), (.int (181) 0), (.ref 553), .none, (.ref 554), (.ref 555), (.ref 556), (.int (949) 0), (.int (410) 0), (.str (Str.ofString "/claim/cut.py") 950)].toArray, #[]⟩
noncomputable def o558 (P : Params) : Obj := fnO (bodyAt 69) (Str.ofString "binary") .none .none .none (.str (Str.ofString "gateloom.evaluate") 902) (.ref 557) .none
noncomputable def o604 (P : Params) : Obj := ⟨(.type "code"), none, .fields [(.str (Str.ofString "evaluate") 1011), (.str (Str.ofString "evaluate") 1012), (.str (Str.ofString "/claim/cut.py") 1013), (.int (462) 0), (.int (2) 0), (.int (0) 0), (.int (0) 0), (.int (3) 0), (.ref 601), (.bool true), (.int (181) 0), (.ref 602), .none, .none, .none, (.ref 603), (.int (1014) 0), (.int (462) 0), (.str (Str.ofString "/claim/cut.py") 1015)].toArray, #[]⟩
noncomputable def o605 (P : Params) : Obj := fnO (bodyAt 77) (Str.ofString "evaluate") .none .none .none (.str (Str.ofString "gateloom.evaluate") 902) (.ref 604) .none
noncomputable def o734 (P : Params) : Obj := ⟨(.type "code"), none, .fields [(.str (Str.ofString "children") 1214), (.str (Str.ofString "children") 1215), (.str (Str.ofString "/claim/cut.py") 1216), (.int (653) 0), (.int (1) 0), (.int (0) 0), (.int (0) 0), (.int (3) 0), (.ref 729), (.bool true), (.int (181) 0), (.ref 730), .none, (.ref 731), (.ref 732), (.ref 733), (.int (1219) 0), (.int (653) 0), (.str (Str.ofString "/claim/cut.py") 1220)].toArray, #[]⟩
noncomputable def o735 (P : Params) : Obj := fnO (bodyAt 93) (Str.ofString "children") .none .none .none (.str (Str.ofString "gateloom.walks") 1212) (.ref 734) .none
noncomputable def o821 (P : Params) : Obj := ⟨(.type "code"), none, .fields [(.str (Str.ofString "last_select") 1341), (.str (Str.ofString "last_select") 1342), (.str (Str.ofString "/claim/cut.py") 1343), (.int (792) 0), (.int (1) 0), (.int (0) 0), (.int (0) 0), (.int (3) 0), (.ref 816), (.bool true), (.int (181) 0), (.ref 817), .none, (.ref 818), (.ref 819), (.ref 820), (.int (1347) 0), (.int (792) 0), (.str (Str.ofString "/claim/cut.py") 1348)].toArray, #[]⟩
noncomputable def o822 (P : Params) : Obj := fnO (bodyAt 108) (Str.ofString "last_select") .none .none .none (.str (Str.ofString "gateloom.elabparts") 1337) (.ref 821) .none
noncomputable def o828 (P : Params) : Obj := ⟨(.type "code"), none, .fields [(.str (Str.ofString "is_memory") 1350), (.str (Str.ofString "is_memory") 1351), (.str (Str.ofString "/claim/cut.py") 1352), (.int (797) 0), (.int (2) 0), (.int (0) 0), (.int (0) 0), (.int (3) 0), (.ref 823), (.bool true), (.int (181) 0), (.ref 824), .none, (.ref 825), (.ref 826), (.ref 827), (.int (1355) 0), (.int (797) 0), (.str (Str.ofString "/claim/cut.py") 1356)].toArray, #[]⟩
noncomputable def o829 (P : Params) : Obj := fnO (bodyAt 109) (Str.ofString "is_memory") .none .none .none (.str (Str.ofString "gateloom.elabparts") 1337) (.ref 828) .none
noncomputable def o835 (P : Params) : Obj := ⟨(.type "code"), none, .fields [(.str (Str.ofString "shape") 1358), (.str (Str.ofString "shape") 1359), (.str (Str.ofString "/claim/cut.py") 1360), (.int (799) 0), (.int (3) 0), (.int (0) 0), (.int (0) 0), (.int (3) 0), (.ref 830), (.bool true), (.int (181) 0), (.ref 831), .none, (.ref 832), (.ref 833), (.ref 834), (.int (1365) 0), (.int (799) 0), (.str (Str.ofString "/claim/cut.py") 1366)].toArray, #[]⟩
noncomputable def o836 (P : Params) : Obj := fnO (bodyAt 110) (Str.ofString "shape") .none .none .none (.str (Str.ofString "gateloom.elabparts") 1337) (.ref 835) .none
noncomputable def o842 (P : Params) : Obj := ⟨(.type "code"), none, .fields [(.str (Str.ofString "read_entry") 1368), (.str (Str.ofString "read_entry") 1369), (.str (Str.ofString "/claim/cut.py") 1370), (.int (812) 0), (.int (3) 0), (.int (0) 0), (.int (0) 0), (.int (3) 0), (.ref 837), (.bool true), (.int (181) 0), (.ref 838), .none, (.ref 839), (.ref 840), (.ref 841), (.int (1375) 0), (.int (812) 0), (.str (Str.ofString "/claim/cut.py") 1376)].toArray, #[]⟩
noncomputable def o843 (P : Params) : Obj := fnO (bodyAt 111) (Str.ofString "read_entry") .none .none .none (.str (Str.ofString "gateloom.elabparts") 1337) (.ref 842) .none
noncomputable def o849 (P : Params) : Obj := ⟨(.type "code"), none, .fields [(.str (Str.ofString "folds") 1378), (.str (Str.ofString "folds") 1379), (.str (Str.ofString "/claim/cut.py") 1380), (.int (823) 0), (.int (1) 0), (.int (0) 0), (.int (0) 0), (.int (3) 0), (.ref 844), (.bool true), (.int (181) 0), (.ref 845), .none, (.ref 846), (.ref 847), (.ref 848), (.int (1382) 0), (.int (823) 0), (.str (Str.ofString "/claim/cut.py") 1383)].toArray, #[]⟩
noncomputable def o850 (P : Params) : Obj := fnO (bodyAt 112) (Str.ofString "folds") .none .none .none (.str (Str.ofString "gateloom.elabparts") 1337) (.ref 849) .none
noncomputable def o856 (P : Params) : Obj := ⟨(.type "code"), none, .fields [(.str (Str.ofString "folded") 1385), (.str (Str.ofString "folded") 1386), (.str (Str.ofString "/claim/cut.py") 1387), (.int (827) 0), (.int (1) 0), (.int (0) 0), (.int (0) 0), (.int (3) 0), (.ref 851), (.bool true), (.int (181) 0), (.ref 852), .none, (.ref 853), (.ref 854), (.ref 855), (.int (1390) 0), (.int (827) 0), (.str (Str.ofString "/claim/cut.py") 1391)].toArray, #[]⟩
noncomputable def o857 (P : Params) : Obj := fnO (bodyAt 113) (Str.ofString "folded") .none .none .none (.str (Str.ofString "gateloom.elabparts") 1337) (.ref 856) .none
noncomputable def o891 (P : Params) : Obj := ⟨(.type "code"), none, .fields [(.str (Str.ofString "is_context_operator") 1426), (.str (Str.ofString "is_context_operator") 1427), (.str (Str.ofString "/claim/cut.py") 1428), (.int (851) 0), (.int (1) 0), (.int (0) 0), (.int (0) 0), (.int (3) 0), (.ref 886), (.bool true), (.int (181) 0), (.ref 887), .none, (.ref 888), (.ref 889), (.ref 890), (.int (1430) 0), (.int (851) 0), (.str (Str.ofString "/claim/cut.py") 1431)].toArray, #[]⟩
noncomputable def o892 (P : Params) : Obj := fnO (bodyAt 118) (Str.ofString "is_context_operator") .none .none .none (.str (Str.ofString "gateloom.elabparts") 1337) (.ref 891) .none
noncomputable def o898 (P : Params) : Obj := ⟨(.type "code"), none, .fields [(.str (Str.ofString "is_shift") 1433), (.str (Str.ofString "is_shift") 1434), (.str (Str.ofString "/claim/cut.py") 1435), (.int (853) 0), (.int (1) 0), (.int (0) 0), (.int (0) 0), (.int (3) 0), (.ref 893), (.bool true), (.int (181) 0), (.ref 894), .none, (.ref 895), (.ref 896), (.ref 897), (.int (1437) 0), (.int (853) 0), (.str (Str.ofString "/claim/cut.py") 1438)].toArray, #[]⟩
noncomputable def o899 (P : Params) : Obj := fnO (bodyAt 119) (Str.ofString "is_shift") .none .none .none (.str (Str.ofString "gateloom.elabparts") 1337) (.ref 898) .none
noncomputable def o905 (P : Params) : Obj := ⟨(.type "code"), none, .fields [(.str (Str.ofString "widen") 1440), (.str (Str.ofString "widen") 1441), (.str (Str.ofString "/claim/cut.py") 1442), (.int (855) 0), (.int (3) 0), (.int (0) 0), (.int (0) 0), (.int (3) 0), (.ref 900), (.bool true), (.int (181) 0), (.ref 901), .none, (.ref 902), (.ref 903), (.ref 904), (.int (1446) 0), (.int (855) 0), (.str (Str.ofString "/claim/cut.py") 1447)].toArray, #[]⟩
noncomputable def o906 (P : Params) : Obj := fnO (bodyAt 120) (Str.ofString "widen") .none .none .none (.str (Str.ofString "gateloom.elabparts") 1337) (.ref 905) .none
noncomputable def o912 (P : Params) : Obj := ⟨(.type "code"), none, .fields [(.str (Str.ofString "number_value") 1449), (.str (Str.ofString "number_value") 1450), (.str (Str.ofString "/claim/cut.py") 1451), (.int (859) 0), (.int (3) 0), (.int (0) 0), (.int (0) 0), (.int (3) 0), (.ref 907), (.bool true), (.int (181) 0), (.ref 908), .none, (.ref 909), (.ref 910), (.ref 911), (.int (1457) 0), (.int (859) 0), (.str (Str.ofString "/claim/cut.py") 1458)].toArray, #[]⟩
noncomputable def o913 (P : Params) : Obj := fnO (bodyAt 121) (Str.ofString "number_value") .none .none .none (.str (Str.ofString "gateloom.elabparts") 1337) (.ref 912) .none
noncomputable def o933 (P : Params) : Obj := ⟨(.type "code"), none, .fields [(.str (Str.ofString "entry_of") 1486), (.str (Str.ofString "entry_of") 1487), (.str (Str.ofString "/claim/cut.py") 1488), (.int (888) 0), (.int (2) 0), (.int (0) 0), (.int (0) 0), (.int (3) 0), (.ref 928), (.bool true), (.int (181) 0), (.ref 929), .none, (.ref 930), (.ref 931), (.ref 932), (.int (1492) 0), (.int (888) 0), (.str (Str.ofString "/claim/cut.py") 1493)].toArray, #[]⟩
noncomputable def o934 (P : Params) : Obj := fnO (bodyAt 125) (Str.ofString "entry_of") .none .none .none (.str (Str.ofString "gateloom.elabexpr") 1473) (.ref 933) .none
noncomputable def o961 (P : Params) : Obj := ⟨(.type "code"), none, .fields [(.str (Str.ofString "named_type") 1531), (.str (Str.ofString "named_type") 1532), (.str (Str.ofString "/claim/cut.py") 1533), (.int (933) 0), (.int (2) 0), (.int (0) 0), (.int (0) 0), (.int (3) 0), (.ref 956), (.bool true), (.int (181) 0), (.ref 957), .none, (.ref 958), (.ref 959), (.ref 960), (.int (1538) 0), (.int (933) 0), (.str (Str.ofString "/claim/cut.py") 1539)].toArray, #[]⟩
noncomputable def o962 (P : Params) : Obj := fnO (bodyAt 129) (Str.ofString "named_type") .none .none .none (.str (Str.ofString "gateloom.elabexpr") 1473) (.ref 961) .none
noncomputable def o968 (P : Params) : Obj := ⟨(.type "code"), none, .fields [(.str (Str.ofString "named_value") 1541), (.str (Str.ofString "named_value") 1542), (.str (Str.ofString "/claim/cut.py") 1543), (.int (946) 0), (.int (2) 0), (.int (0) 0), (.int (0) 0), (.int (3) 0), (.ref 963), (.bool true), (.int (181) 0), (.ref 964), .none, (.ref 965), (.ref 966), (.ref 967), (.int (1551) 0), (.int (946) 0), (.str (Str.ofString "/claim/cut.py") 1552)].toArray, #[]⟩
noncomputable def o969 (P : Params) : Obj := fnO (bodyAt 130) (Str.ofString "named_value") .none .none .none (.str (Str.ofString "gateloom.elabexpr") 1473) (.ref 968) .none
noncomputable def o1031 (P : Params) : Obj := ⟨(.type "code"), none, .fields [(.str (Str.ofString "both_types") 1638), (.str (Str.ofString "both_types") 1639), (.str (Str.ofString "/claim/cut.py") 1640), (.int (1042) 0), (.int (3) 0), (.int (0) 0), (.int (0) 0), (.int (3) 0), (.ref 1026), (.bool true), (.int (181) 0), (.ref 1027), .none, (.ref 1028), (.ref 1029), (.ref 1030), (.int (1646) 0), (.int (1042) 0), (.str (Str.ofString "/claim/cut.py") 1647)].toArray, #[]⟩
noncomputable def o1032 (P : Params) : Obj := fnO (bodyAt 140) (Str.ofString "both_types") .none .none .none (.str (Str.ofString "gateloom.elabexpr") 1473) (.ref 1031) .none
noncomputable def o1038 (P : Params) : Obj := ⟨(.type "code"), none, .fields [(.str (Str.ofString "expr_type") 1649), (.str (Str.ofString "expr_type") 1650), (.str (Str.ofString "/claim/cut.py") 1651), (.int (1046) 0), (.int (2) 0), (.int (0) 0), (.int (0) 0), (.int (3) 0), (.ref 1033), (.bool true), (.int (181) 0), (.ref 1034), .none, (.ref 1035), (.ref 1036), (.ref 1037), (.int (1656) 0), (.int (1046) 0), (.str (Str.ofString "/claim/cut.py") 1657)].toArray, #[]⟩
noncomputable def o1039 (P : Params) : Obj := fnO (bodyAt 141) (Str.ofString "expr_type") .none .none .none (.str (Str.ofString "gateloom.elabexpr") 1473) (.ref 1038) .none
noncomputable def o1052 (P : Params) : Obj := ⟨(.type "code"), none, .fields [(.str (Str.ofString "binary_value") 1670), (.str (Str.ofString "binary_value") 1671), (.str (Str.ofString "/claim/cut.py") 1672), (.int (1081) 0), (.int (4) 0), (.int (0) 0), (.int (0) 0), (.int (3) 0), (.ref 1047), (.bool true), (.int (181) 0), (.ref 1048), .none, (.ref 1049), (.ref 1050), (.ref 1051), (.int (1683) 0), (.int (1081) 0), (.str (Str.ofString "/claim/cut.py") 1684)].toArray, #[]⟩
noncomputable def o1053 (P : Params) : Obj := fnO (bodyAt 143) (Str.ofString "binary_value") .none .none .none (.str (Str.ofString "gateloom.elabexpr") 1473) (.ref 1052) .none
noncomputable def o1059 (P : Params) : Obj := ⟨(.type "code"), none, .fields [(.str (Str.ofString "build") 1686), (.str (Str.ofString "build") 1687), (.str (Str.ofString "/claim/cut.py") 1688), (.int (1100) 0), (.int (4) 0), (.int (0) 0), (.int (0) 0), (.int (3) 0), (.ref 1054), (.bool true), (.int (181) 0), (.ref 1055), .none, (.ref 1056), (.ref 1057), (.ref 1058), (.int (1697) 0), (.int (1100) 0), (.str (Str.ofString "/claim/cut.py") 1698)].toArray, #[]⟩
noncomputable def o1060 (P : Params) : Obj := fnO (bodyAt 144) (Str.ofString "build") .none .none .none (.str (Str.ofString "gateloom.elabexpr") 1473) (.ref 1059) .none
noncomputable def o1066 (P : Params) : Obj := ⟨(.type "code"), none, .fields [(.str (Str.ofString "self_determined") 1700), (.str (Str.ofString "self_determined") 1701), (.str (Str.ofString "/claim/cut.py") 1702), (.int (1123) 0), (.int (2) 0), (.int (0) 0), (.int (0) 0), (.int (3) 0), (.ref 1061), (.bool true), (.int (181) 0), (.ref 1062), .none, (.ref 1063), (.ref 1064), (.ref 1065), (.int (1707) 0), (.int (1123) 0), (.str (Str.ofString "/claim/cut.py") 1708)].toArray, #[]⟩
noncomputable def o1067 (P : Params) : Obj := fnO (bodyAt 145) (Str.ofString "self_determined") .none .none .none (.str (Str.ofString "gateloom.elabexpr") 1473) (.ref 1066) .none
noncomputable def o1080 (P : Params) : Obj := ⟨(.type "code"), none, .fields [(.str (Str.ofString "constant_vec") 1721), (.str (Str.ofString "constant_vec") 1722), (.str (Str.ofString "/claim/cut.py") 1723), (.int (1129) 0), (.int (3) 0), (.int (0) 0), (.int (0) 0), (.int (3) 0), (.ref 1075), (.bool true), (.int (181) 0), (.ref 1076), .none, (.ref 1077), (.ref 1078), (.ref 1079), (.int (1728) 0), (.int (1129) 0), (.str (Str.ofString "/claim/cut.py") 1729)].toArray, #[]⟩
noncomputable def o1081 (P : Params) : Obj := fnO (bodyAt 147) (Str.ofString "constant_vec") .none .none .none (.str (Str.ofString "gateloom.elabexpr") 1473) (.ref 1080) .none
noncomputable def o1087 (P : Params) : Obj := ⟨(.type "code"), none, .fields [(.str (Str.ofString "constant") 1731), (.str (Str.ofString "constant") 1732), (.str (Str.ofString "/claim/cut.py") 1733), (.int (1136) 0), (.int (2) 0), (.int (0) 0), (.int (0) 0), (.int (3) 0), (.ref 1082), (.bool true), (.int (181) 0), (.ref 1083), .none, (.ref 1084), (.ref 1085), (.ref 1086), (.int (1738) 0), (.int (1136) 0), (.str (Str.ofString "/claim/cut.py") 1739)].toArray, #[]⟩
noncomputable def o1088 (P : Params) : Obj := fnO (bodyAt 148) (Str.ofString "constant") .none .none .none (.str (Str.ofString "gateloom.elabexpr") 1473) (.ref 1087) .none
noncomputable def o1094 (P : Params) : Obj := ⟨(.type "code"), none, .fields [(.str (Str.ofString "whole") 1741), (.str (Str.ofString "whole") 1742), (.str (Str.ofString "/claim/cut.py") 1743), (.int (1139) 0), (.int (2) 0), (.int (0) 0), (.int (0) 0), (.int (3) 0), (.ref 1089), (.bool true), (.int (181) 0), (.ref 1090), .none, (.ref 1091), (.ref 1092), (.ref 1093), (.int (1749) 0), (.int (1139) 0), (.str (Str.ofString "/claim/cut.py") 1750)].toArray, #[]⟩
noncomputable def o1095 (P : Params) : Obj := fnO (bodyAt 149) (Str.ofString "whole") .none .none .none (.str (Str.ofString "gateloom.elabexpr") 1473) (.ref 1094) .none
noncomputable def o1101 (P : Params) : Obj := ⟨(.type "code"), none, .fields [(.str (Str.ofString "block_label") 1756), (.str (Str.ofString "block_label") 1757), (.str (Str.ofString "/claim/cut.py") 1758), (.int (1147) 0), (.int (2) 0), (.int (0) 0), (.int (0) 0), (.int (3) 0), (.ref 1096), (.bool true), (.int (181) 0), (.ref 1097), .none, (.ref 1098), (.ref 1099), (.ref 1100), (.int (1761) 0), (.int (1147) 0), (.str (Str.ofString "/claim/cut.py") 1762)].toArray, #[]⟩
noncomputable def o1102 (P : Params) : Obj := fnO (bodyAt 152) (Str.ofString "block_label") .none .none .none (.str (Str.ofString "gateloom.elabgen") 1752) (.ref 1101) .none
noncomputable def o1108 (P : Params) : Obj := ⟨(.type "code"), none, .fields [(.str (Str.ofString "branch_rows") 1764), (.str (Str.ofString "branch_rows") 1765), (.str (Str.ofString "/claim/cut.py") 1766), (.int (1151) 0), (.int (3) 0), (.int (0) 0), (.int (0) 0), (.int (3) 0), (.ref 1103), (.bool true), (.int (181) 0), (.ref 1104), .none, (.ref 1105), (.ref 1106), (.ref 1107), (.int (1770) 0), (.int (1151) 0), (.str (Str.ofString "/claim/cut.py") 1771)].toArray, #[]⟩
noncomputable def o1109 (P : Params) : Obj := fnO (bodyAt 153) (Str.ofString "branch_rows") .none .none .none (.str (Str.ofString "gateloom.elabgen") 1752) (.ref 1108) .none
noncomputable def o1115 (P : Params) : Obj := ⟨(.type "code"), none, .fields [(.str (Str.ofString "common_type") 1773), (.str (Str.ofString "common_type") 1774), (.str (Str.ofString "/claim/cut.py") 1775), (.int (1159) 0), (.int (1) 0), (.int (0) 0), (.int (0) 0), (.int (3) 0), (.ref 1110), (.bool true), (.int (181) 0), (.ref 1111), .none, (.ref 1112), (.ref 1113), (.ref 1114), (.int (1781) 0), (.int (1159) 0), (.str (Str.ofString "/claim/cut.py") 1782)].toArray, #[]⟩
noncomputable def o1116 (P : Params) : Obj := fnO (bodyAt 154) (Str.ofString "common_type") .none .none .none (.str (Str.ofString "gateloom.elabgen") 1752) (.ref 1115) .none
noncomputable def o1122 (P : Params) : Obj := ⟨(.type "code"), none, .fields [(.str (Str.ofString "case_branch") 1784), (.str (Str.ofString "case_branch") 1785), (.str (Str.ofString "/claim/cut.py") 1786), (.int (1166) 0), (.int (2) 0), (.int (0) 0), (.int (0) 0), (.int (3) 0), (.ref 1117), (.bool true), (.int (181) 0), (.ref 1118), .none, (.ref 1119), (.ref 1120), (.ref 1121), (.int (1800) 0), (.int (1166) 0), (.str (Str.ofString "/claim/cut.py") 1801)].toArray, #[]⟩
noncomputable def o1123 (P : Params) : Obj := fnO (bodyAt 155) (Str.ofString "case_branch") .none .none .none (.str (Str.ofString "gateloom.elabgen") 1752) (.ref 1122) .none
noncomputable def o1129 (P : Params) : Obj := ⟨(.type "code"), none, .fields [(.str (Str.ofString "loop_values") 1803), (.str (Str.ofString "loop_values") 1804), (.str (Str.ofString "/claim/cut.py") 1805), (.int (1184) 0), (.int (2) 0), (.int (0) 0), (.int (0) 0), (.int (3) 0), (.ref 1124), (.bool true), (.int (181) 0), (.ref 1125), .none, (.ref 1126), (.ref 1127), (.ref 1128), (.int (1812) 0), (.int (1184) 0), (.str (Str.ofString "/claim/cut.py") 1813)].toArray, #[]⟩
noncomputable def o1130 (P : Params) : Obj := fnO (bodyAt 156) (Str.ofString "loop_values") .none .none .none (.str (Str.ofString "gateloom.elabgen") 1752) (.ref 1129) .none
noncomputable def o1136 (P : Params) : Obj := ⟨(.type "code"), none, .fields [(.str (Str.ofString "loop_rows") 1815), (.str (Str.ofString "loop_rows") 1816), (.str (Str.ofString "/claim/cut.py") 1817), (.int (1203) 0), (.int (3) 0), (.int (0) 0), (.int (0) 0), (.int (3) 0), (.ref 1131), (.bool true), (.int (181) 0), (.ref 1132), .none, (.ref 1133), (.ref 1134), (.ref 1135), (.int (1825) 0), (.int (1203) 0), (.str (Str.ofString "/claim/cut.py") 1826)].toArray, #[]⟩
noncomputable def o1137 (P : Params) : Obj := fnO (bodyAt 157) (Str.ofString "loop_rows") .none .none .none (.str (Str.ofString "gateloom.elabgen") 1752) (.ref 1136) .none
noncomputable def o1138 (P : Params) : Obj := ⟨(.type "tuple"), none, .seq [(.int (1) 1828)].toArray 0, #[]⟩
noncomputable def o1144 (P : Params) : Obj := ⟨(.type "code"), none, .fields [(.str (Str.ofString "generate_choice") 1829), (.str (Str.ofString "generate_choice") 1830), (.str (Str.ofString "/claim/cut.py") 1831), (.int (1210) 0), (.int (3) 0), (.int (0) 0), (.int (0) 0), (.int (3) 0), (.ref 1139), (.bool true), (.int (181) 0), (.ref 1140), .none, (.ref 1141), (.ref 1142), (.ref 1143), (.int (1836) 0), (.int (1210) 0), (.str (Str.ofString "/claim/cut.py") 1837)].toArray, #[]⟩
noncomputable def o1145 (P : Params) : Obj := fnO (bodyAt 158) (Str.ofString "generate_choice") (.ref 1138) .none .none (.str (Str.ofString "gateloom.elabgen") 1752) (.ref 1144) .none
noncomputable def o1158 (P : Params) : Obj := ⟨(.type "code"), none, .fields [(.str (Str.ofString "__init__") 1853), (.str (Str.ofString "Design.__init__") 1854), (.str (Str.ofString "/claim/cut.py") 1855), (.int (1224) 0), (.int (1) 0), (.int (0) 0), (.int (0) 0), (.int (3) 0), (.ref 1153), (.bool true), (.int (181) 0), (.ref 1154), .none, (.ref 1155), (.ref 1156), (.ref 1157), (.int (1857) 0), (.int (1224) 0), (.str (Str.ofString "/claim/cut.py") 1858)].toArray, #[]⟩
noncomputable def o1159 (P : Params) : Obj := fnO (methAt 160 0) (Str.ofString "Design.__init__") .none .none .none (.str (Str.ofString "gateloom.design") 1839) (.ref 1158) .none
noncomputable def o1172 (P : Params) : Obj := ⟨(.type "code"), none, .fields [(.str (Str.ofString "add_scope") 1874), (.str (Str.ofString "Design.add_scope") 1875), (.str (Str.ofString "/claim/cut.py") 1876), (.int (1240) 0), (.int (2) 0), (.int (0) 0), (.int (0) 0), (.int (3) 0), (.ref 1167), (.bool true), (.int (181) 0), (.ref 1168), .none, (.ref 1169), (.ref 1170), (.ref 1171), (.int (1879) 0), (.int (1240) 0), (.str (Str.ofString "/claim/cut.py") 1880)].toArray, #[]⟩
noncomputable def o1173 (P : Params) : Obj := fnO (methAt 160 2) (Str.ofString "Design.add_scope") .none .none .none (.str (Str.ofString "gateloom.design") 1839) (.ref 1172) .none
noncomputable def o1203 (P : Params) : Obj := ⟨(.type "dict"), none, .dict [⟨PyData.keyHash P (Str.ofString "__module__"), .str (Str.ofString "__module__") 1848, (.str (Str.ofString "gateloom.design") 1839)⟩, ⟨PyData.keyHash P (Str.ofString "__firstlineno__"), .str (Str.ofString "__firstlineno__") 1852, (.int (1222) 1851)⟩, ⟨PyData.keyHash P (Str.ofString "__init__"), .str (Str.ofString "__init__") 1859, (.ref 1159)⟩, ⟨PyData.keyHash P (Str.ofString "add_signal"), .str (Str.ofString "add_signal") 1873, (.ref 1166)⟩, ⟨PyData.keyHash P (Str.ofString "add_scope"), .str (Str.ofString "add_scope") 1881, (.ref 1173)⟩, ⟨PyData.keyHash P (Str.ofString "add_routine"), .str (Str.ofString "add_routine") 1892, (.ref 1180)⟩, ⟨PyData.keyHash P (Str.ofString "add_process"), .str (Str.ofString "add_process") 1903, (.ref 1187)⟩, ⟨PyData.keyHash P (Str.ofString "find"), .str (Str.ofString "find") 1911, (.ref 1194)⟩, ⟨PyData.keyHash P (Str.ofString "routine"), .str (Str.ofString "routine") 1920, (.ref 1201)⟩, ⟨PyData.keyHash P (Str.ofString "__static_attributes__"), .str (Str.ofString "__static_attributes__") 1932, (.ref 1202)⟩, ⟨PyData.keyHash P (Str.ofString "__dict__"), .str (Str.ofString "__dict__") 1934, (.ref 1205)⟩, ⟨PyData.keyHash P (Str.ofString "__weakref__"), .str (Str.ofString "__weakref__") 1936, (.ref 1206)⟩, ⟨PyData.keyHash P (Str.ofString "__doc__"), .str (Str.ofString "__doc__") 1937, .none⟩].toArray 4, #[]⟩
noncomputable def o1204 (P : Params) : Obj := ⟨(.type "type"), none, .cls ⟨(Str.ofString "Design"), [(.type "object")], [(.ref 1204), (.type "object")], 1203, (Str.ofString "Design"), true, [], [], false, none, false⟩, [none, none, some (.str (Str.ofString "Design") 1841), some (.str (Str.ofString "Design") 1849), some (.builtin "object.__new__"), some (.bool true)].toArray⟩
noncomputable def o1221 (P : Params) : Obj := ⟨(.type "code"), none, .fields [(.str (Str.ofString "__init__") 1954), (.str (Str.ofString "Scope.__init__") 1955), (.str (Str.ofString "/claim/cut.py") 1956), (.int (1263) 0), (.int (5) 0), (.int (0) 0), (.int (0) 0), (.int (3) 0), (.ref 1216), (.bool true), (.int (181) 0), (.ref 1217), .none, (.ref 1218), (.ref 1219), (.ref 1220), (.int (1962) 0), (.int (1263) 0), (.str (Str.ofString "/claim/cut.py") 1963)].toArray, #[]⟩
noncomputable def o1222 (P : Params) : Obj := fnO (methAt 162 0) (Str.ofString "Scope.__init__") .none .none .none (.str (Str.ofString "gateloom.scopes") 1940) (.ref 1221) .none
noncomputable def o1235 (P : Params) : Obj := ⟨(.type "code"), none, .fields [(.str (Str.ofString "declare") 1976), (.str (Str.ofString "Scope.declare") 1977), (.str (Str.ofString "/claim/cut.py") 1978), (.int (1282) 0), (.int (4) 0), (.int (0) 0), (.int (0) 0), (.int (3) 0), (.ref 1230), (.bool true), (.int (181) 0), (.ref 1231), .none, (.ref 1232), (.ref 1233), (.ref 1234), (.int (1983) 0), (.int (1282) 0), (.str (Str.ofString "/claim/cut.py") 1984)].toArray, #[]⟩
noncomputable def o1236 (P : Params) : Obj := fnO (methAt 162 2) (Str.ofString "Scope.declare") .none .none .none (.str (Str.ofString "gateloom.scopes") 1940) (.ref 1235) .none
noncomputable def o1249 (P : Params) : Obj := ⟨(.type "code"), none, .fields [(.str (Str.ofString "lookup") 1993), (.str (Str.ofString "Scope.lookup") 1994), (.str (Str.ofString "/claim/cut.py") 1995), (.int (1290) 0), (.int (2) 0), (.int (0) 0), (.int (0) 0), (.int (3) 0), (.ref 1244), (.bool true), (.int (181) 0), (.ref 1245), .none, (.ref 1246), (.ref 1247), (.ref 1248), (.int (1999) 0), (.int (1290) 0), (.str (Str.ofString "/claim/cut.py") 2000)].toArray, #[]⟩
noncomputable def o1250 (P : Params) : Obj := fnO (methAt 162 4) (Str.ofString "Scope.lookup") .none .none .none (.str (Str.ofString "gateloom.scopes") 1940) (.ref 1249) .none
noncomputable def o1280 (P : Params) : Obj := ⟨(.type "dict"), none, .dict [⟨PyData.keyHash P (Str.ofString "__module__"), .str (Str.ofString "__module__") 1949, (.str (Str.ofString "gateloom.scopes") 1940)⟩, ⟨PyData.keyHash P (Str.ofString "__firstlineno__"), .str (Str.ofString "__firstlineno__") 1953, (.int (1261) 1952)⟩, ⟨PyData.keyHash P (Str.ofString "__init__"), .str (Str.ofString "__init__") 1964, (.ref 1222)⟩, ⟨PyData.keyHash P (Str.ofString "child"), .str (Str.ofString "child") 1975, (.ref 1229)⟩, ⟨PyData.keyHash P (Str.ofString "declare"), .str (Str.ofString "declare") 1985, (.ref 1236)⟩, ⟨PyData.keyHash P (Str.ofString "module_scope"), .str (Str.ofString "module_scope") 1992, (.ref 1243)⟩, ⟨PyData.keyHash P (Str.ofString "lookup"), .str (Str.ofString "lookup") 2001, (.ref 1250)⟩, ⟨PyData.keyHash P (Str.ofString "lookup_routine"), .str (Str.ofString "lookup_routine") 2011, (.ref 1257)⟩, ⟨PyData.keyHash P (Str.ofString "descend"), .str (Str.ofString "descend") 2022, (.ref 1264)⟩, ⟨PyData.keyHash P (Str.ofString "resolve"), .str (Str.ofString "resolve") 2033, (.ref 1271)⟩, ⟨PyData.keyHash P (Str.ofString "answers_to"), .str (Str.ofString "answers_to") 2041, (.ref 1278)⟩, ⟨PyData.keyHash P (Str.ofString "__static_attributes__"), .str (Str.ofString "__static_attributes__") 2051, (.ref 1279)⟩, ⟨PyData.keyHash P (Str.ofString "__dict__"), .str (Str.ofString "__dict__") 2053, (.ref 1282)⟩, ⟨PyData.keyHash P (Str.ofString "__weakref__"), .str (Str.ofString "__weakref__") 2055, (.ref 1283)⟩, ⟨PyData.keyHash P (Str.ofString "__doc__"), .str (Str.ofString "__doc__") 2056, .none⟩].toArray 4, #[]⟩
noncomputable def o1281 (P : Params) : Obj := ⟨(.type "type"), none, .cls ⟨(Str.ofString "Scope"), [(.type "object")], [(.ref 1281), (.type "object")], 1280, (Str.ofString "Scope"), true, [], [], false, none, false⟩, [none, none, some (.str (Str.ofString "Scope") 1942), some (.str (Str.ofString "Scope") 1950), some (.builtin "object.__new__"), some (.bool true)].toArray⟩
noncomputable def o1291 (P : Params) : Obj := ⟨(.type "code"), none, .fields [(.str (Str.ofString "_law_row") 2061), (.str (Str.ofString "_law_row") 2062), (.str (Str.ofString "/claim/cut.py") 2063), (.int (1337) 0), (.int (1) 0), (.int (0) 0), (.int (0) 0), (.int (3) 0), (.ref 1286), (.bool true), (.int (181) 0), (.ref 1287), .none, (.ref 1288), (.ref 1289), (.ref 1290), (.int (2069) 0), (.int (1337) 0), (.str (Str.ofString "/claim/cut.py") 2070)].toArray, #[]⟩
noncomputable def o1292 (P : Params) : Obj := fnO (bodyAt 164) (Str.ofString "_law_row") .none .none .none (.str (Str.ofString "law_nn0348_01") 2059) (.ref 1291) .none
noncomputable def o1298 (P : Params) : Obj := ⟨(.type "code"), none, .fields [(.str (Str.ofString "_law_next") 2072), (.str (Str.ofString "_law_next") 2073), (.str (Str.ofString "/claim/cut.py") 2074), (.int (1350) 0), (.int (1) 0), (.int (0) 0), (.int (0) 0), (.int (3) 0), (.ref 1293), (.bool true), (.int (181) 0), (.ref 1294), .none, (.ref 1295), (.ref 1296), (.ref 1297), (.int (2076) 0), (.int (1350) 0), (.str (Str.ofString "/claim/cut.py") 2077)].toArray, #[]⟩
noncomputable def o1299 (P : Params) : Obj := fnO (bodyAt 165) (Str.ofString "_law_next") .none .none .none (.str (Str.ofString "law_nn0348_01") 2059) (.ref 1298) .none
noncomputable def o1305 (P : Params) : Obj := ⟨(.type "code"), none, .fields [(.str (Str.ofString "_law_number") 2079), (.str (Str.ofString "_law_number") 2080), (.str (Str.ofString "/claim/cut.py") 2081), (.int (1352) 0), (.int (1) 0), (.int (0) 0), (.int (0) 0), (.int (3) 0), (.ref 1300), (.bool true), (.int (181) 0), (.ref 1301), .none, (.ref 1302), (.ref 1303), (.ref 1304), (.int (2083) 0), (.int (1352) 0), (.str (Str.ofString "/claim/cut.py") 2084)].toArray, #[]⟩
noncomputable def o1306 (P : Params) : Obj := fnO (bodyAt 166) (Str.ofString "_law_number") .none .none .none (.str (Str.ofString "law_nn0348_01") 2059) (.ref 1305) .none
noncomputable def o1307 (P : Params) : Obj := ⟨(.type "tuple"), none, .seq [(.int (2) 2086)].toArray 0, #[]⟩
noncomputable def o1313 (P : Params) : Obj := ⟨(.type "code"), none, .fields [(.str (Str.ofString "_law_amount") 2087), (.str (Str.ofString "_law_amount") 2088), (.str (Str.ofString "/claim/cut.py") 2089), (.int (1354) 0), (.int (3) 0), (.int (0) 0), (.int (0) 0), (.int (3) 0), (.ref 1308), (.bool true), (.int (181) 0), (.ref 1309), .none, (.ref 1310), (.ref 1311), (.ref 1312), (.int (2098) 0), (.int (1354) 0), (.str (Str.ofString "/claim/cut.py") 2099)].toArray, #[]⟩
noncomputable def o1314 (P : Params) : Obj := fnO (bodyAt 167) (Str.ofString "_law_amount") (.ref 1307) .none .none (.str (Str.ofString "law_nn0348_01") 2059) (.ref 1313) .none
noncomputable def o1320 (P : Params) : Obj := ⟨(.type "code"), none, .fields [(.str (Str.ofString "_law_test") 2101), (.str (Str.ofString "_law_test") 2102), (.str (Str.ofString "/claim/cut.py") 2103), (.int (1367) 0), (.int (2) 0), (.int (0) 0), (.int (0) 0), (.int (3) 0), (.ref 1315), (.bool true), (.int (181) 0), (.ref 1316), .none, (.ref 1317), (.ref 1318), (.ref 1319), (.int (2111) 0), (.int (1367) 0), (.str (Str.ofString "/claim/cut.py") 2112)].toArray, #[]⟩
noncomputable def o1321 (P : Params) : Obj := fnO (bodyAt 168) (Str.ofString "_law_test") .none .none .none (.str (Str.ofString "law_nn0348_01") 2059) (.ref 1320) .none
noncomputable def o1327 (P : Params) : Obj := ⟨(.type "code"), none, .fields [(.str (Str.ofString "_law_branch") 2114), (.str (Str.ofString "_law_branch") 2115), (.str (Str.ofString "/claim/cut.py") 2116), (.int (1374) 0), (.int (4) 0), (.int (0) 0), (.int (0) 0), (.int (3) 0), (.ref 1322), (.bool true), (.int (181) 0), (.ref 1323), .none, (.ref 1324), (.ref 1325), (.ref 1326), (.int (2125) 0), (.int (1374) 0), (.str (Str.ofString "/claim/cut.py") 2126)].toArray, #[]⟩
noncomputable def o1328 (P : Params) : Obj := fnO (bodyAt 169) (Str.ofString "_law_branch") .none .none .none (.str (Str.ofString "law_nn0348_01") 2059) (.ref 1327) .none
noncomputable def o1332 (P : Params) : Obj := ⟨(.type "code"), none, .fields [(.str (Str.ofString "_law_choice") 2128), (.str (Str.ofString "_law_choice") 2129), (.str (Str.ofString "/claim/cut.py") 2130), (.int (1386) 0), (.int (4) 0), (.int (0) 0), (.int (0) 0), (.int (3) 0), (.ref 1329), (.bool true), (.int (181) 0), (.ref 1330), .none, .none, .none, (.ref 1331), (.int (2131) 0), (.int (1386) 0), (.str (Str.ofString "/claim/cut.py") 2132)].toArray, #[]⟩
noncomputable def o1333 (P : Params) : Obj := fnO (bodyAt 170) (Str.ofString "_law_choice") .none .none .none (.str (Str.ofString "law_nn0348_01") 2059) (.ref 1332) .none
noncomputable def o1339 (P : Params) : Obj := ⟨(.type "code"), none, .fields [(.str (Str.ofString "_law_loop") 2134), (.str (Str.ofString "_law_loop") 2135), (.str (Str.ofString "/claim/cut.py") 2136), (.int (1408) 0), (.int (3) 0), (.int (0) 0), (.int (0) 0), (.int (3) 0), (.ref 1334), (.bool true), (.int (181) 0), (.ref 1335), .none, (.ref 1336), (.ref 1337), (.ref 1338), (.int (2154) 0), (.int (1408) 0), (.str (Str.ofString "/claim/cut.py") 2155)].toArray, #[]⟩
noncomputable def o1340 (P : Params) : Obj := fnO (bodyAt 171) (Str.ofString "_law_loop") .none .none .none (.str (Str.ofString "law_nn0348_01") 2059) (.ref 1339) .none
noncomputable def KM (P : Params) : Frag := [(3, o3 P),
  (72, o72 P),
  (73, o73 P),
  (74, o74 P),
  (80, o80 P),
  (81, o81 P),
  (94, o94 P),
  (95, o95 P),
  (108, o108 P),
  (109, o109 P),
  (115, o115 P),
  (116, o116 P),
  (122, o122 P),
  (123, o123 P),
  (129, o129 P),
  (130, o130 P),
  (157, o157 P),
  (158, o158 P),
  (171, o171 P),
  (172, o172 P),
  (185, o185 P),
  (186, o186 P),
  (209, o209 P),
  (210, o210 P),
  (222, o222 P),
  (228, o228 P),
  (229, o229 P),
  (252, o252 P),
  (253, o253 P),
  (263, o263 P),
  (264, o264 P),
  (347, o347 P),
  (348, o348 P),
  (354, o354 P),
  (355, o355 P),
  (361, o361 P),
  (362, o362 P),
  (368, o368 P),
  (369, o369 P),
  (375, o375 P),
  (376, o376 P),
  (382, o382 P),
  (383, o383 P),
  (389, o389 P),
  (390, o390 P),
  (487, o487 P),
  (488, o488 P),
  (494, o494 P),
  (495, o495 P),
  (536, o536 P),
  (537, o537 P),
  (543, o543 P),
  (544, o544 P),
  (557, o557 P),
  (558, o558 P),
  (604, o604 P),
  (605, o605 P),
  (734, o734 P),
  (735, o735 P),
  (821, o821 P),
  (822, o822 P),
  (828, o828 P),
  (829, o829 P),
  (835, o835 P),
  (836, o836 P),
  (842, o842 P),
  (843, o843 P),
  (849, o849 P),
  (850, o850 P),
  (856, o856 P),
  (857, o857 P),
  (891, o891 P),
  (892, o892 P),
  (898, o898 P),
  (899, o899 P),
  (905, o905 P),
  (906, o906 P),
  (912, o912 P),
  (913, o913 P),
  (933, o933 P),
  (934, o934 P),
  (961, o961 P),
  (962, o962 P),
  (968, o968 P),
  (969, o969 P),
  (1031, o1031 P),
  (1032, o1032 P),
  (1038, o1038 P),
  (1039, o1039 P),
  (1052, o1052 P),
  (1053, o1053 P),
  (1059, o1059 P),
  (1060, o1060 P),
  (1066, o1066 P),
  (1067, o1067 P),
  (1080, o1080 P),
  (1081, o1081 P),
  (1087, o1087 P),
  (1088, o1088 P),
  (1094, o1094 P),
  (1095, o1095 P),
  (1101, o1101 P),
  (1102, o1102 P),
  (1108, o1108 P),
  (1109, o1109 P),
  (1115, o1115 P),
  (1116, o1116 P),
  (1122, o1122 P),
  (1123, o1123 P),
  (1129, o1129 P),
  (1130, o1130 P),
  (1136, o1136 P),
  (1137, o1137 P),
  (1138, o1138 P),
  (1144, o1144 P),
  (1145, o1145 P),
  (1158, o1158 P),
  (1159, o1159 P),
  (1172, o1172 P),
  (1173, o1173 P),
  (1203, o1203 P),
  (1204, o1204 P),
  (1221, o1221 P),
  (1222, o1222 P),
  (1235, o1235 P),
  (1236, o1236 P),
  (1249, o1249 P),
  (1250, o1250 P),
  (1280, o1280 P),
  (1281, o1281 P),
  (1291, o1291 P),
  (1292, o1292 P),
  (1298, o1298 P),
  (1299, o1299 P),
  (1305, o1305 P),
  (1306, o1306 P),
  (1307, o1307 P),
  (1313, o1313 P),
  (1314, o1314 P),
  (1320, o1320 P),
  (1321, o1321 P),
  (1327, o1327 P),
  (1328, o1328 P),
  (1332, o1332 P),
  (1333, o1333 P),
  (1339, o1339 P),
  (1340, o1340 P)]
noncomputable def asM : List Addr := [3, 72, 73, 74, 80, 81, 94, 95, 108, 109, 115, 116, 122, 123, 129, 130, 157, 158, 171, 172, 185, 186, 209, 210, 222, 228, 229, 252, 253, 263, 264, 347, 348, 354, 355, 361, 362, 368, 369, 375, 376, 382, 383, 389, 390, 487, 488, 494, 495, 536, 537, 543, 544, 557, 558, 604, 605, 734, 735, 821, 822, 828, 829, 835, 836, 842, 843, 849, 850, 856, 857, 891, 892, 898, 899, 905, 906, 912, 913, 933, 934, 961, 962, 968, 969, 1031, 1032, 1038, 1039, 1052, 1053, 1059, 1060, 1066, 1067, 1080, 1081, 1087, 1088, 1094, 1095, 1101, 1102, 1108, 1109, 1115, 1116, 1122, 1123, 1129, 1130, 1136, 1137, 1138, 1144, 1145, 1158, 1159, 1172, 1173, 1203, 1204, 1221, 1222, 1235, 1236, 1249, 1250, 1280, 1281, 1291, 1292, 1298, 1299, 1305, 1306, 1307, 1313, 1314, 1320, 1321, 1327, 1328, 1332, 1333, 1339, 1340]
end
section
open PySem PySem.W PyProof.Rows
/-- a small view: law's own def -/
noncomputable def qM : Program := view PySem.Challenge.pw_nn0348_01 [172]
noncomputable def looseM : List Str := (PySem.Challenge.pw_nn0348_01.main.body.flatMap fun s => match s with
  | .FunctionDef n .. => [n]
  | .ClassDef n .. => [n]
  | .Assign [.Name n _] _ _ => [n]
  | _ => []).filter fun n => !(n == Str.ofString "law") && !(n == Str.ofString "__name__")
end
section
theorem pred {c n : Nat} (h : c + 1 ≤ n) : ∃ m, n = m + 1 ∧ c ≤ m := ⟨n - 1, by omega, by omega⟩
/-- a vector of 32 places: what stands for an int or for an unknown -/
noncomputable def vA : Option Int → Int
  | some i => i % 4294967296
  | none => 4294967295
noncomputable def vB : Option Int → Int
  | some _ => 0
  | none => 4294967295
noncomputable def vv (v : Option Int) : PV := .tup [.int 32, .int (vA v), .int (vB v)]
/-- a truth of one place: unknown, or a bool -/
noncomputable def tA : Option Bool → Int
  | some true => 1
  | some false => 0
  | none => 1
noncomputable def tB : Option Bool → Int
  | some _ => 0
  | none => 1
noncomputable def tt (v : Option Bool) : PV := .tup [.int 1, .int (tA v), .int (tB v)]
noncomputable def kst (v : PV) : PV := match v with
  | .tup l => .tup (.str [99, 111, 110, 115, 116] :: l)
  | _ => .none

variable {sc : Option (Addr × List PV)} {n : Nat} {σ : Sto} {k : Kont}
theorem CLn_fn {f : Addr} {x : FnT} {ds : List PV} {ρ : Loc} (hx : lkT f tabT = some (.fn x)) (hz : fillL x ds = some ρ) (h : exB ⟨CLn (tab sc) n, tabM, tabA, sc⟩ 400 x.b ρ σ fun fl _ σ => retK k fl σ) : CLn (tab sc) (n + 1) f ds σ k := CLn_fnI (B := tab sc) hx hz h
theorem c_mask32 (hn : 1 ≤ n) (h : k (.int 4294967295) σ) : CLn (tab sc) n 73 [.int 32] σ k := by
  obtain ⟨n, rfl, hq⟩ := pred hn
  replace hn := hq
  clear hq
  conv => whnf
  repeat (refine ⟨by first | exact True.intro | decide | exact Nat.le_of_ble_eq_true rfl, ?_⟩; conv => whnf)
  exact h
theorem c_mask1 (hn : 1 ≤ n) (h : k (.int 1) σ) : CLn (tab sc) n 73 [.int 1] σ k := by
  obtain ⟨n, rfl, hq⟩ := pred hn
  replace hn := hq
  clear hq
  conv => whnf
  repeat (refine ⟨by first | exact True.intro | decide | exact Nat.le_of_ble_eq_true rfl, ?_⟩; conv => whnf)
  exact h
theorem c_vec {a b : Int} (hn : 2 ≤ n) (h : k (.tup [.int 32, .int (a % 4294967296), .int (b % 4294967296)]) σ) : CLn (tab sc) n 81 [.int 32, .int a, .int b] σ k := by
  obtain ⟨n, rfl, hq⟩ := pred hn
  replace hn := hq
  clear hq
  conv => whnf
  repeat (refine ⟨by first | exact True.intro | decide | exact Nat.le_of_ble_eq_true rfl, ?_⟩; conv => whnf)
  refine c_mask32 (by omega) ?_
  conv => whnf
  repeat (refine ⟨by first | exact True.intro | decide | exact Nat.le_of_ble_eq_true rfl, ?_⟩; conv => whnf)
  rw [and_M, and_M]
  exact h
theorem c_all_x (hn : 2 ≤ n) (h : k (vv none) σ) : CLn (tab sc) n 95 [.int 32] σ k := by
  obtain ⟨n, rfl, hq⟩ := pred hn
  replace hn := hq
  clear hq
  conv => whnf
  repeat (refine ⟨by first | exact True.intro | decide | exact Nat.le_of_ble_eq_true rfl, ?_⟩; conv => whnf)
  refine c_mask32 (by omega) ?_
  conv => whnf
  repeat (refine ⟨by first | exact True.intro | decide | exact Nat.le_of_ble_eq_true rfl, ?_⟩; conv => whnf)
  exact h
theorem c_all_x1 (hn : 2 ≤ n) (h : k (tt none) σ) : CLn (tab sc) n 95 [.int 1] σ k := by
  obtain ⟨n, rfl, hq⟩ := pred hn
  replace hn := hq
  clear hq
  conv => whnf
  repeat (refine ⟨by first | exact True.intro | decide | exact Nat.le_of_ble_eq_true rfl, ?_⟩; conv => whnf)
  refine c_mask1 (by omega) ?_
  conv => whnf
  repeat (refine ⟨by first | exact True.intro | decide | exact Nat.le_of_ble_eq_true rfl, ?_⟩; conv => whnf)
  exact h
theorem c_from_int {a : Int} (hn : 2 ≤ n) (h : k (vv (some a)) σ) : CLn (tab sc) n 109 [.int 32, .int a] σ k := by
  obtain ⟨n, rfl, hq⟩ := pred hn
  replace hn := hq
  clear hq
  conv => whnf
  repeat (refine ⟨by first | exact True.intro | decide | exact Nat.le_of_ble_eq_true rfl, ?_⟩; conv => whnf)
  refine c_mask32 (by omega) ?_
  conv => whnf
  repeat (refine ⟨by first | exact True.intro | decide | exact Nat.le_of_ble_eq_true rfl, ?_⟩; conv => whnf)
  rw [and_M]
  exact h
theorem c_is_known {v : Option Int} (hn : 1 ≤ n) (h : k (.bool v.isSome) σ) : CLn (tab sc) n 116 [vv v] σ k := by
  obtain ⟨n, rfl, hq⟩ := pred hn
  replace hn := hq
  clear hq
  conv => whnf
  repeat (refine ⟨by first | exact True.intro | decide | exact Nat.le_of_ble_eq_true rfl, ?_⟩; conv => whnf)
  cases v <;> exact h
noncomputable def ov : Option Int → PV
  | some i => .int i
  | none => .none
/-- no more than 32 bits with their sign -/
noncomputable def Sm (v : Option Int) : Prop := ∀ i, v = some i → -2147483648 ≤ i ∧ i < 2147483648
theorem c_to_int {v : Option Int} (hv : Sm v) (hn : 1 ≤ n) (h : k (ov v) σ) : CLn (tab sc) n 123 [vv v, .bool true] σ k := by
  cases v with
  | none =>
    obtain ⟨n, rfl, hq⟩ := pred hn
    replace hn := hq
    clear hq
    conv => whnf
    repeat (refine ⟨by first | exact True.intro | decide | exact Nat.le_of_ble_eq_true rfl, ?_⟩; conv => whnf)
    exact h
  | some i =>
    obtain ⟨h1, h2⟩ := hv i rfl
    obtain ⟨n, rfl, hq⟩ := pred hn
    replace hn := hq
    clear hq
    conv => whnf
    repeat (refine ⟨by first | exact True.intro | decide | exact Nat.le_of_ble_eq_true rfl, ?_⟩; conv => whnf)
    split
    · rename_i q
      have q' : (i % 4294967296).fdiv 2147483648 = 1 := of_decide_eq_true q
      rw [Int.fdiv_eq_ediv_of_nonneg _ (by decide)] at q'
      conv => whnf
      repeat (refine ⟨by first | exact True.intro | decide | exact Nat.le_of_ble_eq_true rfl, ?_⟩; conv => whnf)
      have e : i % 4294967296 - 4294967296 = i := by omega
      show k (.int (i % 4294967296 - 4294967296)) σ
      rw [e]; exact h
    · rename_i q
      have q' : ¬ (i % 4294967296).fdiv 2147483648 = 1 := of_decide_eq_false q
      rw [Int.fdiv_eq_ediv_of_nonneg _ (by decide)] at q'
      conv => whnf
      repeat (refine ⟨by first | exact True.intro | decide | exact Nat.le_of_ble_eq_true rfl, ?_⟩; conv => whnf)
      have e : i % 4294967296 = i := by omega
      show k (.int (i % 4294967296)) σ
      rw [e]; exact h
noncomputable def sgn : Option Int → Option Int → PV
  | some a, some b => .int (if a = b then 0 else if a < b then -1 else 1)
  | _, _ => .none
theorem c_ordered {u v : Option Int} (hu : Sm u) (hv : Sm v) (hn : 2 ≤ n) (h : k (sgn u v) σ) : CLn (tab sc) n 348 [vv u, vv v, .bool true] σ k := by
  obtain ⟨n, rfl, hq⟩ := pred hn
  replace hn := hq
  clear hq
  conv => whnf
  repeat (refine ⟨by first | exact True.intro | decide | exact Nat.le_of_ble_eq_true rfl, ?_⟩; conv => whnf)
  refine c_to_int hu (by omega) ?_
  conv => whnf
  repeat (refine ⟨by first | exact True.intro | decide | exact Nat.le_of_ble_eq_true rfl, ?_⟩; conv => whnf)
  refine c_to_int hv (by omega) ?_
  conv => whnf
  repeat (refine ⟨by first | exact True.intro | decide | exact Nat.le_of_ble_eq_true rfl, ?_⟩; conv => whnf)
  cases u with
  | none =>
    conv => whnf
    repeat (refine ⟨by first | exact True.intro | decide | exact Nat.le_of_ble_eq_true rfl, ?_⟩; conv => whnf)
    exact h
  | some a =>
    cases v with
    | none =>
      conv => whnf
      repeat (refine ⟨by first | exact True.intro | decide | exact Nat.le_of_ble_eq_true rfl, ?_⟩; conv => whnf)
      exact h
    | some b =>
      conv => whnf
      repeat (refine ⟨by first | exact True.intro | decide | exact Nat.le_of_ble_eq_true rfl, ?_⟩; conv => whnf)
      split
      · rename_i q
        have q' : a = b := of_decide_eq_true q
        conv => whnf
        repeat (refine ⟨by first | exact True.intro | decide | exact Nat.le_of_ble_eq_true rfl, ?_⟩; conv => whnf)
        simp only [sgn, q', if_true] at h
        exact h
      · rename_i q
        have q' : ¬ a = b := of_decide_eq_false q
        conv => whnf
        repeat (refine ⟨by first | exact True.intro | decide | exact Nat.le_of_ble_eq_true rfl, ?_⟩; conv => whnf)
        split
        · rename_i q2
          have q2' : a < b := of_decide_eq_true q2
          conv => whnf
          repeat (refine ⟨by first | exact True.intro | decide | exact Nat.le_of_ble_eq_true rfl, ?_⟩; conv => whnf)
          simp only [sgn, q', q2', if_true, if_false] at h
          exact h
        · rename_i q2
          have q2' : ¬ a < b := of_decide_eq_false q2
          conv => whnf
          repeat (refine ⟨by first | exact True.intro | decide | exact Nat.le_of_ble_eq_true rfl, ?_⟩; conv => whnf)
          simp only [sgn, q', q2', if_false] at h
          exact h
noncomputable def cmpO (f : Int → Int → Bool) : Option Int → Option Int → Option Bool
  | some a, some b => some (f a b)
  | _, _ => none
theorem c_less {u v : Option Int} (hu : Sm u) (hv : Sm v) (hn : 3 ≤ n) (h : k (tt (cmpO (fun a b => decide (a < b)) u v)) σ) : CLn (tab sc) n 355 [vv u, vv v, .bool true] σ k := by
  obtain ⟨n, rfl, hq⟩ := pred hn
  replace hn := hq
  clear hq
  conv => whnf
  repeat (refine ⟨by first | exact True.intro | decide | exact Nat.le_of_ble_eq_true rfl, ?_⟩; conv => whnf)
  refine c_ordered hu hv (by omega) ?_
  conv => whnf
  repeat (refine ⟨by first | exact True.intro | decide | exact Nat.le_of_ble_eq_true rfl, ?_⟩; conv => whnf)
  cases u with
  | none =>
    conv => whnf
    repeat (refine ⟨by first | exact True.intro | decide | exact Nat.le_of_ble_eq_true rfl, ?_⟩; conv => whnf)
    refine c_all_x1 (by omega) ?_
    conv => whnf
    repeat (refine ⟨by first | exact True.intro | decide | exact Nat.le_of_ble_eq_true rfl, ?_⟩; conv => whnf)
    exact h
  | some a =>
    cases v with
    | none =>
      conv => whnf
      repeat (refine ⟨by first | exact True.intro | decide | exact Nat.le_of_ble_eq_true rfl, ?_⟩; conv => whnf)
      refine c_all_x1 (by omega) ?_
      conv => whnf
      repeat (refine ⟨by first | exact True.intro | decide | exact Nat.le_of_ble_eq_true rfl, ?_⟩; conv => whnf)
      exact h
    | some b =>
      conv => whnf
      repeat (refine ⟨by first | exact True.intro | decide | exact Nat.le_of_ble_eq_true rfl, ?_⟩; conv => whnf)
      split
      · rename_i q
        have q' := of_decide_eq_true q
        conv => whnf
        repeat (refine ⟨by first | exact True.intro | decide | exact Nat.le_of_ble_eq_true rfl, ?_⟩; conv => whnf)
        have e : a < b := by
          have q2 : (if a = b then 0 else if a < b then -1 else 1) < (0 : Int) := q'
          split at q2
          · omega
          · split at q2 <;> omega
        simp only [cmpO, e, decide_true] at h
        exact h
      · rename_i q
        have q' := of_decide_eq_false q
        conv => whnf
        repeat (refine ⟨by first | exact True.intro | decide | exact Nat.le_of_ble_eq_true rfl, ?_⟩; conv => whnf)
        have e : ¬ a < b := by
          have q2 : ¬ (if a = b then 0 else if a < b then -1 else 1) < (0 : Int) := q'
          split at q2
          · omega
          · split at q2 <;> omega
        simp only [cmpO, e, decide_false] at h
        exact h
theorem c_less_equal {u v : Option Int} (hu : Sm u) (hv : Sm v) (hn : 3 ≤ n) (h : k (tt (cmpO (fun a b => decide (a ≤ b)) u v)) σ) : CLn (tab sc) n 362 [vv u, vv v, .bool true] σ k := by
  obtain ⟨n, rfl, hq⟩ := pred hn
  replace hn := hq
  clear hq
  conv => whnf
  repeat (refine ⟨by first | exact True.intro | decide | exact Nat.le_of_ble_eq_true rfl, ?_⟩; conv => whnf)
  refine c_ordered hu hv (by omega) ?_
  conv => whnf
  repeat (refine ⟨by first | exact True.intro | decide | exact Nat.le_of_ble_eq_true rfl, ?_⟩; conv => whnf)
  cases u with
  | none =>
    conv => whnf
    repeat (refine ⟨by first | exact True.intro | decide | exact Nat.le_of_ble_eq_true rfl, ?_⟩; conv => whnf)
    refine c_all_x1 (by omega) ?_
    conv => whnf
    repeat (refine ⟨by first | exact True.intro | decide | exact Nat.le_of_ble_eq_true rfl, ?_⟩; conv => whnf)
    exact h
  | some a =>
    cases v with
    | none =>
      conv => whnf
      repeat (refine ⟨by first | exact True.intro | decide | exact Nat.le_of_ble_eq_true rfl, ?_⟩; conv => whnf)
      refine c_all_x1 (by omega) ?_
      conv => whnf
      repeat (refine ⟨by first | exact True.intro | decide | exact Nat.le_of_ble_eq_true rfl, ?_⟩; conv => whnf)
      exact h
    | some b =>
      conv => whnf
      repeat (refine ⟨by first | exact True.intro | decide | exact Nat.le_of_ble_eq_true rfl, ?_⟩; conv => whnf)
      split
      · rename_i q
        have q' := of_decide_eq_true q
        conv => whnf
        repeat (refine ⟨by first | exact True.intro | decide | exact Nat.le_of_ble_eq_true rfl, ?_⟩; conv => whnf)
        have e : a ≤ b := by
          have q2 : (if a = b then 0 else if a < b then -1 else 1) ≤ (0 : Int) := q'
          split at q2
          · omega
          · split at q2 <;> omega
        simp only [cmpO, e, decide_true] at h
        exact h
      · rename_i q
        have q' := of_decide_eq_false q
        conv => whnf
        repeat (refine ⟨by first | exact True.intro | decide | exact Nat.le_of_ble_eq_true rfl, ?_⟩; conv => whnf)
        have e : ¬ a ≤ b := by
          have q2 : ¬ (if a = b then 0 else if a < b then -1 else 1) ≤ (0 : Int) := q'
          split at q2
          · omega
          · split at q2 <;> omega
        simp only [cmpO, e, decide_false] at h
        exact h
theorem c_greater {u v : Option Int} (hu : Sm u) (hv : Sm v) (hn : 4 ≤ n) (h : k (tt (cmpO (fun a b => decide (b < a)) u v)) σ) : CLn (tab sc) n 369 [vv u, vv v, .bool true] σ k := by
  obtain ⟨n, rfl, hq⟩ := pred hn
  replace hn := hq
  clear hq
  conv => whnf
  repeat (refine ⟨by first | exact True.intro | decide | exact Nat.le_of_ble_eq_true rfl, ?_⟩; conv => whnf)
  refine c_less hv hu (by omega) ?_
  conv => whnf
  repeat (refine ⟨by first | exact True.intro | decide | exact Nat.le_of_ble_eq_true rfl, ?_⟩; conv => whnf)
  cases u <;> cases v <;> exact h
theorem c_greater_equal {u v : Option Int} (hu : Sm u) (hv : Sm v) (hn : 4 ≤ n) (h : k (tt (cmpO (fun a b => decide (b ≤ a)) u v)) σ) : CLn (tab sc) n 376 [vv u, vv v, .bool true] σ k := by
  obtain ⟨n, rfl, hq⟩ := pred hn
  replace hn := hq
  clear hq
  conv => whnf
  repeat (refine ⟨by first | exact True.intro | decide | exact Nat.le_of_ble_eq_true rfl, ?_⟩; conv => whnf)
  refine c_less_equal hv hu (by omega) ?_
  conv => whnf
  repeat (refine ⟨by first | exact True.intro | decide | exact Nat.le_of_ble_eq_true rfl, ?_⟩; conv => whnf)
  cases u <;> cases v <;> exact h
theorem c_one_bit0 (hn : 1 ≤ n) (h : k (tt (some false)) σ) : CLn (tab sc) n 383 [.int 0] σ k := by
  obtain ⟨n, rfl, hq⟩ := pred hn
  replace hn := hq
  clear hq
  conv => whnf
  repeat (refine ⟨by first | exact True.intro | decide | exact Nat.le_of_ble_eq_true rfl, ?_⟩; conv => whnf)
  exact h
theorem c_one_bit1 (hn : 1 ≤ n) (h : k (tt (some true)) σ) : CLn (tab sc) n 383 [.int 1] σ k := by
  obtain ⟨n, rfl, hq⟩ := pred hn
  replace hn := hq
  clear hq
  conv => whnf
  repeat (refine ⟨by first | exact True.intro | decide | exact Nat.le_of_ble_eq_true rfl, ?_⟩; conv => whnf)
  exact h
theorem c_one_bit3 (hn : 1 ≤ n) (h : k (tt none) σ) : CLn (tab sc) n 383 [.int 3] σ k := by
  obtain ⟨n, rfl, hq⟩ := pred hn
  replace hn := hq
  clear hq
  conv => whnf
  repeat (refine ⟨by first | exact True.intro | decide | exact Nat.le_of_ble_eq_true rfl, ?_⟩; conv => whnf)
  exact h
theorem c_bit_not {v : Option Bool} (hn : 2 ≤ n) (h : k (tt (v.map (!·))) σ) : CLn (tab sc) n 390 [tt v] σ k := by
  cases v with
  | none =>
    obtain ⟨n, rfl, hq⟩ := pred hn
    replace hn := hq
    clear hq
    conv => whnf
    repeat (refine ⟨by first | exact True.intro | decide | exact Nat.le_of_ble_eq_true rfl, ?_⟩; conv => whnf)
    refine c_mask1 (by omega) ?_
    conv => whnf
    repeat (refine ⟨by first | exact True.intro | decide | exact Nat.le_of_ble_eq_true rfl, ?_⟩; conv => whnf)
    exact h
  | some b =>
    cases b with
    | true =>
      obtain ⟨n, rfl, hq⟩ := pred hn
      replace hn := hq
      clear hq
      conv => whnf
      repeat (refine ⟨by first | exact True.intro | decide | exact Nat.le_of_ble_eq_true rfl, ?_⟩; conv => whnf)
      refine c_mask1 (by omega) ?_
      conv => whnf
      repeat (refine ⟨by first | exact True.intro | decide | exact Nat.le_of_ble_eq_true rfl, ?_⟩; conv => whnf)
      exact h
    | false =>
      obtain ⟨n, rfl, hq⟩ := pred hn
      replace hn := hq
      clear hq
      conv => whnf
      repeat (refine ⟨by first | exact True.intro | decide | exact Nat.le_of_ble_eq_true rfl, ?_⟩; conv => whnf)
      refine c_mask1 (by omega) ?_
      conv => whnf
      repeat (refine ⟨by first | exact True.intro | decide | exact Nat.le_of_ble_eq_true rfl, ?_⟩; conv => whnf)
      exact h
theorem c_truth {v : Option Bool} (hn : 2 ≤ n) (h : k (.int (match v with | some true => 1 | some false => 0 | none => 3)) σ) : CLn (tab sc) n 172 [tt v] σ k := by
  cases v with
  | none =>
    obtain ⟨n, rfl, hq⟩ := pred hn
    replace hn := hq
    clear hq
    conv => whnf
    repeat (refine ⟨by first | exact True.intro | decide | exact Nat.le_of_ble_eq_true rfl, ?_⟩; conv => whnf)
    refine c_mask1 (by omega) ?_
    conv => whnf
    repeat (refine ⟨by first | exact True.intro | decide | exact Nat.le_of_ble_eq_true rfl, ?_⟩; conv => whnf)
    exact h
  | some b =>
    cases b with
    | true =>
      obtain ⟨n, rfl, hq⟩ := pred hn
      replace hn := hq
      clear hq
      conv => whnf
      repeat (refine ⟨by first | exact True.intro | decide | exact Nat.le_of_ble_eq_true rfl, ?_⟩; conv => whnf)
      refine c_mask1 (by omega) ?_
      conv => whnf
      repeat (refine ⟨by first | exact True.intro | decide | exact Nat.le_of_ble_eq_true rfl, ?_⟩; conv => whnf)
      exact h
    | false =>
      obtain ⟨n, rfl, hq⟩ := pred hn
      replace hn := hq
      clear hq
      conv => whnf
      repeat (refine ⟨by first | exact True.intro | decide | exact Nat.le_of_ble_eq_true rfl, ?_⟩; conv => whnf)
      refine c_mask1 (by omega) ?_
      conv => whnf
      repeat (refine ⟨by first | exact True.intro | decide | exact Nat.le_of_ble_eq_true rfl, ?_⟩; conv => whnf)
      exact h
noncomputable def addO : Option Int → Option Int → Option Int
  | some a, some b => some (a + b)
  | _, _ => none
theorem c_add {u v : Option Int} (hn : 3 ≤ n) (h : k (vv (addO u v)) σ) : CLn (tab sc) n 264 [vv u, vv v] σ k := by
  obtain ⟨n, rfl, hq⟩ := pred hn
  replace hn := hq
  clear hq
  conv => whnf
  repeat (refine ⟨by first | exact True.intro | decide | exact Nat.le_of_ble_eq_true rfl, ?_⟩; conv => whnf)
  refine c_is_known (by omega) ?_
  conv => whnf
  repeat (refine ⟨by first | exact True.intro | decide | exact Nat.le_of_ble_eq_true rfl, ?_⟩; conv => whnf)
  cases u with
  | none =>
    conv => whnf
    repeat (refine ⟨by first | exact True.intro | decide | exact Nat.le_of_ble_eq_true rfl, ?_⟩; conv => whnf)
    refine c_all_x (by omega) ?_
    conv => whnf
    repeat (refine ⟨by first | exact True.intro | decide | exact Nat.le_of_ble_eq_true rfl, ?_⟩; conv => whnf)
    exact h
  | some a =>
    conv => whnf
    repeat (refine ⟨by first | exact True.intro | decide | exact Nat.le_of_ble_eq_true rfl, ?_⟩; conv => whnf)
    refine c_is_known (by omega) ?_
    conv => whnf
    repeat (refine ⟨by first | exact True.intro | decide | exact Nat.le_of_ble_eq_true rfl, ?_⟩; conv => whnf)
    cases v with
    | none =>
      conv => whnf
      repeat (refine ⟨by first | exact True.intro | decide | exact Nat.le_of_ble_eq_true rfl, ?_⟩; conv => whnf)
      refine c_all_x (by omega) ?_
      conv => whnf
      repeat (refine ⟨by first | exact True.intro | decide | exact Nat.le_of_ble_eq_true rfl, ?_⟩; conv => whnf)
      exact h
    | some b =>
      conv => whnf
      repeat (refine ⟨by first | exact True.intro | decide | exact Nat.le_of_ble_eq_true rfl, ?_⟩; conv => whnf)
      refine c_from_int (by omega) ?_
      conv => whnf
      repeat (refine ⟨by first | exact True.intro | decide | exact Nat.le_of_ble_eq_true rfl, ?_⟩; conv => whnf)
      have e : (a % 4294967296 + b % 4294967296) % 4294967296 = (a + b) % 4294967296 := by omega
      show k (.tup [.int 32, .int ((a % 4294967296 + b % 4294967296) % 4294967296), .int 0]) σ
      rw [e]; exact h
theorem eq_cond {u v : Option Int} (hu : Sm u) (hv : Sm v) : (Builtin.bitAnd (Builtin.bitXor (vA u) (vA v)) (Builtin.bitXor (Builtin.bitOr (vB u) (vB v)) 4294967295) = 0 ↔ cmpO (fun a b => decide (a = b)) u v ≠ some false) ∧
    (Builtin.bitOr (vB u) (vB v) = 0 ↔ cmpO (fun a b => decide (a = b)) u v ≠ none) := by
  cases u with
  | none =>
    cases v with
    | none => simp only [vA, vB, cmpO, or_MM, bitXor_self, bitAnd_zero]; simp
    | some b => simp only [vA, vB, cmpO, or_zero, bitXor_self, bitAnd_zero]; simp
  | some a =>
    cases v with
    | none => simp only [vA, vB, cmpO, zero_or, bitXor_self, bitAnd_zero]; simp
    | some b =>
      obtain ⟨a1, a2⟩ := hu a rfl
      obtain ⟨b1, b2⟩ := hv b rfl
      obtain ⟨x1, x2, x3⟩ := xor_range (x := a % 4294967296) (y := b % 4294967296) (by omega) (by omega) (by omega) (by omega)
      simp only [vA, vB, cmpO, or_zero, xor_zero', and_M]
      refine ⟨?_, by simp⟩
      have : Builtin.bitXor (a % 4294967296) (b % 4294967296) % 4294967296 = Builtin.bitXor (a % 4294967296) (b % 4294967296) := by omega
      rw [this, x3]
      by_cases e : a = b
      · simp [e]
      · simp [e]; omega
theorem c_equal {u v : Option Int} (hu : Sm u) (hv : Sm v) (hn : 2 ≤ n) (h : k (tt (cmpO (fun a b => decide (a = b)) u v)) σ) : CLn (tab sc) n 488 [vv u, vv v] σ k := by
  obtain ⟨e1, e2⟩ := eq_cond hu hv
  obtain ⟨n, rfl, hq⟩ := pred hn
  replace hn := hq
  clear hq
  conv => whnf
  repeat (refine ⟨by first | exact True.intro | decide | exact Nat.le_of_ble_eq_true rfl, ?_⟩; conv => whnf)
  refine c_mask32 (by omega) ?_
  conv => whnf
  repeat (refine ⟨by first | exact True.intro | decide | exact Nat.le_of_ble_eq_true rfl, ?_⟩; conv => whnf)
  generalize cmpO (fun a b => decide (a = b)) u v = c at h e1 e2
  split
  · rename_i q
    have q' : ¬ Builtin.bitAnd (Builtin.bitXor (vA u) (vA v)) (Builtin.bitXor (Builtin.bitOr (vB u) (vB v)) 4294967295) = 0 := by
      have := congrArg not q
      simp only [Bool.not_not, Bool.not_true] at this
      exact of_decide_eq_false this
    rw [e1] at q'
    conv => whnf
    repeat (refine ⟨by first | exact True.intro | decide | exact Nat.le_of_ble_eq_true rfl, ?_⟩; conv => whnf)
    refine c_one_bit0 (by omega) ?_
    conv => whnf
    repeat (refine ⟨by first | exact True.intro | decide | exact Nat.le_of_ble_eq_true rfl, ?_⟩; conv => whnf)
    have : c = some false := by simpa using q'
    subst this; exact h
  · rename_i q
    have q' : Builtin.bitAnd (Builtin.bitXor (vA u) (vA v)) (Builtin.bitXor (Builtin.bitOr (vB u) (vB v)) 4294967295) = 0 := by
      have := congrArg not q
      simp only [Bool.not_not, Bool.not_false] at this
      exact of_decide_eq_true this
    rw [e1] at q'
    conv => whnf
    repeat (refine ⟨by first | exact True.intro | decide | exact Nat.le_of_ble_eq_true rfl, ?_⟩; conv => whnf)
    split
    · rename_i q2
      have q2' : Builtin.bitOr (vB u) (vB v) = 0 := of_decide_eq_true q2
      rw [e2] at q2'
      conv => whnf
      repeat (refine ⟨by first | exact True.intro | decide | exact Nat.le_of_ble_eq_true rfl, ?_⟩; conv => whnf)
      refine c_one_bit1 (by omega) ?_
      conv => whnf
      repeat (refine ⟨by first | exact True.intro | decide | exact Nat.le_of_ble_eq_true rfl, ?_⟩; conv => whnf)
      cases c with
      | none => exact absurd rfl q2'
      | some b => cases b with
        | true => exact h
        | false => exact absurd rfl q'
    · rename_i q2
      have q2' : ¬ Builtin.bitOr (vB u) (vB v) = 0 := of_decide_eq_false q2
      rw [e2] at q2'
      conv => whnf
      repeat (refine ⟨by first | exact True.intro | decide | exact Nat.le_of_ble_eq_true rfl, ?_⟩; conv => whnf)
      refine c_one_bit3 (by omega) ?_
      conv => whnf
      repeat (refine ⟨by first | exact True.intro | decide | exact Nat.le_of_ble_eq_true rfl, ?_⟩; conv => whnf)
      cases c with
      | none => exact h
      | some b => exact absurd (by simp) q2'
theorem c_not_equal {u v : Option Int} (hu : Sm u) (hv : Sm v) (hn : 3 ≤ n) (h : k (tt (cmpO (fun a b => !decide (a = b)) u v)) σ) : CLn (tab sc) n 495 [vv u, vv v] σ k := by
  obtain ⟨n, rfl, hq⟩ := pred hn
  replace hn := hq
  clear hq
  conv => whnf
  repeat (refine ⟨by first | exact True.intro | decide | exact Nat.le_of_ble_eq_true rfl, ?_⟩; conv => whnf)
  refine c_equal hu hv (by omega) ?_
  conv => whnf
  repeat (refine ⟨by first | exact True.intro | decide | exact Nat.le_of_ble_eq_true rfl, ?_⟩; conv => whnf)
  refine c_bit_not (by omega) ?_
  conv => whnf
  repeat (refine ⟨by first | exact True.intro | decide | exact Nat.le_of_ble_eq_true rfl, ?_⟩; conv => whnf)
  cases u <;> cases v <;> exact h
/-- the ops that the law writes -/
inductive Op where
  | lt | gt | ge | eq | ne
noncomputable def Op.s : Op → Txt
  | .lt => [60]
  | .gt => [62]
  | .ge => [62, 61]
  | .eq => [61, 61]
  | .ne => [33, 61]
noncomputable def Op.f : Op → Int → Int → Bool
  | .lt => fun a b => decide (a < b)
  | .gt => fun a b => decide (b < a)
  | .ge => fun a b => decide (b ≤ a)
  | .eq => fun a b => decide (a = b)
  | .ne => fun a b => !decide (a = b)
theorem c_arith_plus {u v : Option Int} (hn : 4 ≤ n) (h : k (vv (addO u v)) σ) : CLn (tab sc) n 537 [.str [43], vv u, vv v, .bool true] σ k := by
  obtain ⟨n, rfl, hq⟩ := pred hn
  replace hn := hq
  clear hq
  conv => whnf
  repeat (refine ⟨by first | exact True.intro | decide | exact Nat.le_of_ble_eq_true rfl, ?_⟩; conv => whnf)
  refine c_add (by omega) ?_
  conv => whnf
  repeat (refine ⟨by first | exact True.intro | decide | exact Nat.le_of_ble_eq_true rfl, ?_⟩; conv => whnf)
  exact h
theorem c_arith_none {o : Op} {u v : Option Int} (hn : 1 ≤ n) (h : k .none σ) : CLn (tab sc) n 537 [.str o.s, vv u, vv v, .bool true] σ k := by
  cases o <;>
  · obtain ⟨n, rfl, hq⟩ := pred hn
    replace hn := hq
    clear hq
    conv => whnf
    repeat (refine ⟨by first | exact True.intro | decide | exact Nat.le_of_ble_eq_true rfl, ?_⟩; conv => whnf)
    exact h
theorem c_comparison {o : Op} {u v : Option Int} (hu : Sm u) (hv : Sm v) (hn : 5 ≤ n) (h : k (tt (cmpO o.f u v)) σ) : CLn (tab sc) n 544 [.str o.s, vv u, vv v, .bool true] σ k := by
  cases o with
  | lt =>
    obtain ⟨n, rfl, hq⟩ := pred hn
    replace hn := hq
    clear hq
    conv => whnf
    repeat (refine ⟨by first | exact True.intro | decide | exact Nat.le_of_ble_eq_true rfl, ?_⟩; conv => whnf)
    refine c_less hu hv (by omega) ?_
    conv => whnf
    repeat (refine ⟨by first | exact True.intro | decide | exact Nat.le_of_ble_eq_true rfl, ?_⟩; conv => whnf)
    exact h
  | gt =>
    obtain ⟨n, rfl, hq⟩ := pred hn
    replace hn := hq
    clear hq
    conv => whnf
    repeat (refine ⟨by first | exact True.intro | decide | exact Nat.le_of_ble_eq_true rfl, ?_⟩; conv => whnf)
    refine c_greater hu hv (by omega) ?_
    conv => whnf
    repeat (refine ⟨by first | exact True.intro | decide | exact Nat.le_of_ble_eq_true rfl, ?_⟩; conv => whnf)
    exact h
  | ge =>
    obtain ⟨n, rfl, hq⟩ := pred hn
    replace hn := hq
    clear hq
    conv => whnf
    repeat (refine ⟨by first | exact True.intro | decide | exact Nat.le_of_ble_eq_true rfl, ?_⟩; conv => whnf)
    refine c_greater_equal hu hv (by omega) ?_
    conv => whnf
    repeat (refine ⟨by first | exact True.intro | decide | exact Nat.le_of_ble_eq_true rfl, ?_⟩; conv => whnf)
    exact h
  | eq =>
    obtain ⟨n, rfl, hq⟩ := pred hn
    replace hn := hq
    clear hq
    conv => whnf
    repeat (refine ⟨by first | exact True.intro | decide | exact Nat.le_of_ble_eq_true rfl, ?_⟩; conv => whnf)
    refine c_equal hu hv (by omega) ?_
    conv => whnf
    repeat (refine ⟨by first | exact True.intro | decide | exact Nat.le_of_ble_eq_true rfl, ?_⟩; conv => whnf)
    exact h
  | ne =>
    obtain ⟨n, rfl, hq⟩ := pred hn
    replace hn := hq
    clear hq
    conv => whnf
    repeat (refine ⟨by first | exact True.intro | decide | exact Nat.le_of_ble_eq_true rfl, ?_⟩; conv => whnf)
    refine c_not_equal hu hv (by omega) ?_
    conv => whnf
    repeat (refine ⟨by first | exact True.intro | decide | exact Nat.le_of_ble_eq_true rfl, ?_⟩; conv => whnf)
    exact h
theorem c_binary_plus {u v : Option Int} (hn : 5 ≤ n) (h : k (vv (addO u v)) σ) : CLn (tab sc) n 558 [.str [43], vv u, vv v, .bool true] σ k := by
  obtain ⟨n, rfl, hq⟩ := pred hn
  replace hn := hq
  clear hq
  conv => whnf
  repeat (refine ⟨by first | exact True.intro | decide | exact Nat.le_of_ble_eq_true rfl, ?_⟩; conv => whnf)
  refine c_arith_plus (by omega) ?_
  conv => whnf
  repeat (refine ⟨by first | exact True.intro | decide | exact Nat.le_of_ble_eq_true rfl, ?_⟩; conv => whnf)
  exact h
theorem c_binary_cmp {o : Op} {u v : Option Int} (hu : Sm u) (hv : Sm v) (hn : 6 ≤ n) (h : k (tt (cmpO o.f u v)) σ) : CLn (tab sc) n 558 [.str o.s, vv u, vv v, .bool true] σ k := by
  obtain ⟨n, rfl, hq⟩ := pred hn
  replace hn := hq
  clear hq
  conv => whnf
  repeat (refine ⟨by first | exact True.intro | decide | exact Nat.le_of_ble_eq_true rfl, ?_⟩; conv => whnf)
  refine c_arith_none (by omega) ?_
  conv => whnf
  repeat (refine ⟨by first | exact True.intro | decide | exact Nat.le_of_ble_eq_true rfl, ?_⟩; conv => whnf)
  refine c_comparison hu hv (by omega) ?_
  conv => whnf
  repeat (refine ⟨by first | exact True.intro | decide | exact Nat.le_of_ble_eq_true rfl, ?_⟩; conv => whnf)
  exact h
theorem c_extend {v : Option Int} {g : PV} (hn : 3 ≤ n) (h : k (vv v) σ) : CLn (tab sc) n 158 [vv v, .int 32, g] σ k := by
  obtain ⟨n, rfl, hq⟩ := pred hn
  replace hn := hq
  clear hq
  conv => whnf
  repeat (refine ⟨by first | exact True.intro | decide | exact Nat.le_of_ble_eq_true rfl, ?_⟩; conv => whnf)
  refine c_vec (by omega) ?_
  conv => whnf
  repeat (refine ⟨by first | exact True.intro | decide | exact Nat.le_of_ble_eq_true rfl, ?_⟩; conv => whnf)
  cases v with
  | none => exact h
  | some i =>
    have e : i % 4294967296 % 4294967296 = i % 4294967296 := by omega
    show k (.tup [.int 32, .int (i % 4294967296 % 4294967296), .int 0]) σ
    rw [e]; exact h
end
section
set_option linter.unusedSimpArgs false
/-! ## the store -/
theorem sgetA : ∀ (σ l : Sto) (i : Nat), sget (σ ++ l) (σ.length + i) = sget l i
  | [], l, i => by simp
  | o :: σ, l, i => by
    have : (o :: σ).length + i = (σ.length + i) + 1 := by simp; omega
    rw [this]
    exact sgetA σ l i
theorem sgetA0 (σ l : Sto) : sget (σ ++ l) σ.length = sget l 0 := sgetA σ l 0
theorem ssetA (o' : PO) : ∀ (σ l : Sto) (i : Nat), sset (σ ++ l) (σ.length + i) o' = σ ++ sset l i o'
  | [], l, i => by simp
  | o :: σ, l, i => by
    have : (o :: σ).length + i = (σ.length + i) + 1 := by simp; omega
    rw [this]
    show o :: sset (σ ++ l) (σ.length + i) o' = _
    rw [ssetA o' σ l i]; rfl
theorem ssetA0 (o' : PO) (σ l : Sto) : sset (σ ++ l) σ.length o' = σ ++ sset l 0 o' := ssetA o' σ l 0
theorem sget_lt {σ : Sto} : ∀ {j : Nat} {o : PO}, sget σ j = some o → j < σ.length := by
  induction σ with
  | nil => intro j o h; cases h
  | cons p σ ih =>
    intro j o h
    cases j with
    | zero => exact Nat.succ_pos _
    | succ j => exact Nat.succ_lt_succ (ih h)
theorem sget_app {σ : Sto} : ∀ {j : Nat} {o : PO} (l : Sto), sget σ j = some o → sget (σ ++ l) j = some o := by
  induction σ with
  | nil => intro j o l h; cases h
  | cons p σ ih =>
    intro j o l h
    cases j with
    | zero => exact h
    | succ j => exact ih l h
theorem sget_set_self {σ : Sto} : ∀ {j : Nat} {o o' : PO}, sget σ j = some o → sget (sset σ j o') j = some o' := by
  induction σ with
  | nil => intro j o o' h; cases h
  | cons p σ ih =>
    intro j o o' h
    cases j with
    | zero => rfl
    | succ j => exact ih h
theorem sget_set_ne {σ : Sto} : ∀ {i j : Nat} {o' : PO}, i ≠ j → sget (sset σ j o') i = sget σ i := by
  induction σ with
  | nil => intro i j o' h; rfl
  | cons p σ ih =>
    intro i j o' h
    cases j with
    | zero => cases i with
      | zero => exact absurd rfl h
      | succ i => rfl
    | succ j => cases i with
      | zero => rfl
      | succ i => exact ih fun e => h (congrArg Nat.succ e)
theorem sset_len {σ : Sto} : ∀ {j : Nat} {o' : PO}, (sset σ j o').length = σ.length := by
  induction σ with
  | nil => intro j o'; rfl
  | cons p σ ih =>
    intro j o'
    cases j with
    | zero => rfl
    | succ j => exact congrArg Nat.succ ih
/-- nothing that was there has changed -/
noncomputable def Le (σ σ' : Sto) : Prop := ∀ j o, sget σ j = some o → sget σ' j = some o
theorem Le.refl (σ : Sto) : Le σ σ := fun _ _ h => h
theorem Le.trans {a b c : Sto} (x : Le a b) (y : Le b c) : Le a c := fun j o h => y j o (x j o h)
theorem Le.app (σ l : Sto) : Le σ (σ ++ l) := fun _ _ h => sget_app l h
theorem Le.app' {σ τ : Sto} (l : Sto) (h : Le σ τ) : Le σ (τ ++ l) := h.trans (Le.app τ l)

theorem mk_lst {O : Ops} {n : Nat} {x : Txt} {σ : Sto} {l : List PV} (h : sget σ n = some (.list l)) (hx : lmOK x = true) : mkOf O (.obj n) x σ = some (n, .lst) := by
  show ob (sget σ n) (mkO O n x) = _
  rw [h]; show gd (lmOK x) _ = _; rw [hx]; rfl
theorem mk_dic {O : Ops} {n : Nat} {x : Txt} {σ : Sto} {l : List (Txt × PV)} (h : sget σ n = some (.dict l)) (hx : dmOK x = true) : mkOf O (.obj n) x σ = some (n, .dic) := by
  show ob (sget σ n) (mkO O n x) = _
  rw [h]; show gd (dmOK x) _ = _; rw [hx]; rfl
theorem mk_fn {O : Ops} {n : Nat} {x : Txt} {σ : Sto} {C f : Addr} {es : List (Txt × PV)} (h : sget σ n = some (.inst C es)) (hx : lk x es = none) (hf : lkM C x O.MT = some f) : mkOf O (.obj n) x σ = some (n, .fn f) := by
  show ob (sget σ n) (mkO O n x) = _
  rw [h]; show gd (!(lk x es).isSome) (o1 _ (lkM C x O.MT)) = _; rw [hx, hf]; rfl
theorem seq_obj {n : Nat} {σ : Sto} {l : List PV} (h : sget σ n = some (.list l)) : seqOf (.obj n) σ = some l := by
  show ob (sget σ n) lstO = _
  rw [h]; rfl
variable {sc : Option (Addr × List PV)} {n : Nat} {σ : Sto} {k : Kont}
theorem c_store {x : PV} (hn : 2 ≤ n) (h : ∀ j σ', Le σ σ' → k (.obj j) σ') : CLn (tab sc) n 210 [x] σ k := by
  obtain ⟨n, rfl, hq⟩ := pred hn
  replace hn := hq
  clear hq
  conv => whnf
  repeat (refine ⟨by first | exact True.intro | decide | exact Nat.le_of_ble_eq_true rfl, ?_⟩; conv => whnf)
  repeat (simp only [sgetA0, ssetA0, sgetA, ssetA, List.length_append, List.length_cons, List.length_nil, List.append_assoc, List.cons_append, List.nil_append, Nat.zero_add, sset_len, sset]; (conv => whnf); repeat (refine ⟨by first | exact True.intro | decide | exact Nat.le_of_ble_eq_true rfl, ?_⟩; conv => whnf))
  exact h _ _ (Le.app _ _)
theorem c_context {x y : PV} (hn : 2 ≤ n) (h : ∀ j σ', Le σ σ' → k (.obj j) σ') : CLn (tab sc) n 253 [x, y] σ k := by
  obtain ⟨n, rfl, hq⟩ := pred hn
  replace hn := hq
  clear hq
  conv => whnf
  repeat (refine ⟨by first | exact True.intro | decide | exact Nat.le_of_ble_eq_true rfl, ?_⟩; conv => whnf)
  repeat (simp only [sgetA0, ssetA0, sgetA, ssetA, List.length_append, List.length_cons, List.length_nil, List.append_assoc, List.cons_append, List.nil_append, Nat.zero_add, sset_len, sset]; (conv => whnf); repeat (refine ⟨by first | exact True.intro | decide | exact Nat.le_of_ble_eq_true rfl, ?_⟩; conv => whnf))
  exact h _ _ (Le.app _ _)
noncomputable def tScopes : Txt := [115, 99, 111, 112, 101, 115]
noncomputable def tEntries : Txt := [101, 110, 116, 114, 105, 101, 115]
set_option maxHeartbeats 2000000 in
theorem c_design (hn : 2 ≤ n) (h : ∀ j js es σ', Le σ σ' → σ.length ≤ j → σ.length ≤ js → j ≠ js → sget σ' j = some (.inst 1204 es) → lk tScopes es = some (.obj js) → lk [97, 100, 100, 95, 115, 99, 111, 112, 101] es = none → sget σ' js = some (.list []) → k (.obj j) σ') : CLn (tab sc) n 1204 [] σ k := by
  obtain ⟨n, rfl, hq⟩ := pred hn
  replace hn := hq
  clear hq
  conv => whnf
  repeat (refine ⟨by first | exact True.intro | decide | exact Nat.le_of_ble_eq_true rfl, ?_⟩; conv => whnf)
  repeat (simp only [sgetA0, ssetA0, sgetA, ssetA, List.length_append, List.length_cons, List.length_nil, List.append_assoc, List.cons_append, List.nil_append, Nat.zero_add, sset_len, sset]; (conv => whnf); repeat (refine ⟨by first | exact True.intro | decide | exact Nat.le_of_ble_eq_true rfl, ?_⟩; conv => whnf))
  refine h σ.length (σ.length + 7) _ _ (Le.app _ _) (by omega) (by omega) (by omega) (by rw [sgetA0]; rfl) ?_ ?_ (by rw [sgetA]; rfl)
  · exact rfl
  · exact rfl
theorem c_add_scope {j js : Nat} {es : List (Txt × PV)} {p : PV} (hj : sget σ j = some (.inst 1204 es)) (hs : lk tScopes es = some (.obj js)) (hl : sget σ js = some (.list [])) (hn : 1 ≤ n)
    (h : ∀ σ', sget σ' js = some (.list [p]) → (∀ i, i ≠ js → sget σ' i = sget σ i) → k (.int 0) σ') : CLn (tab sc) n 1173 [.obj j, p] σ k := by
  have hne : j ≠ js := fun e => by rw [e, hl] at hj; cases hj
  have hg : ∀ σ' : Sto, (∀ i, i ≠ js → sget σ' i = sget σ i) → sget σ' j = some (.inst 1204 es) := fun σ' h => by rw [h j hne]; exact hj
  obtain ⟨n, rfl, hq⟩ := pred hn
  replace hn := hq
  clear hq
  conv => whnf
  repeat (refine ⟨by first | exact True.intro | decide | exact Nat.le_of_ble_eq_true rfl, ?_⟩; conv => whnf)
  rw [hj]
  conv => whnf
  repeat (refine ⟨by first | exact True.intro | decide | exact Nat.le_of_ble_eq_true rfl, ?_⟩; conv => whnf)
  rw [show lk [115, 99, 111, 112, 101, 115] es = some (.obj js) from hs]
  conv => whnf
  repeat (refine ⟨by first | exact True.intro | decide | exact Nat.le_of_ble_eq_true rfl, ?_⟩; conv => whnf)
  rw [mk_lst hl rfl]
  conv => whnf
  repeat (refine ⟨by first | exact True.intro | decide | exact Nat.le_of_ble_eq_true rfl, ?_⟩; conv => whnf)
  rw [hl]
  conv => whnf
  repeat (refine ⟨by first | exact True.intro | decide | exact Nat.le_of_ble_eq_true rfl, ?_⟩; conv => whnf)
  have e1 : sget (sset σ js (.list ([] ++ [p]))) js = some (.list [p]) := sget_set_self hl
  have e2 : ∀ i, i ≠ js → sget (sset σ js (.list ([] ++ [p]))) i = sget σ i := fun i hi => sget_set_ne hi
  generalize sset σ js (.list ([] ++ [p])) = σ1 at e1 e2 ⊢
  rw [hg σ1 e2]
  conv => whnf
  repeat (refine ⟨by first | exact True.intro | decide | exact Nat.le_of_ble_eq_true rfl, ?_⟩; conv => whnf)
  rw [show lk [115, 99, 111, 112, 101, 115] es = some (.obj js) from hs]
  conv => whnf
  repeat (refine ⟨by first | exact True.intro | decide | exact Nat.le_of_ble_eq_true rfl, ?_⟩; conv => whnf)
  rw [seq_obj e1]
  conv => whnf
  repeat (refine ⟨by first | exact True.intro | decide | exact Nat.le_of_ble_eq_true rfl, ?_⟩; conv => whnf)
  exact h σ1 e1 e2
set_option maxHeartbeats 2000000 in
theorem c_scope {d js : Nat} {es : List (Txt × PV)} {nm kd : Txt} (hj : sget σ d = some (.inst 1204 es)) (hs : lk tScopes es = some (.obj js)) (hm : lk [97, 100, 100, 95, 115, 99, 111, 112, 101] es = none) (hl : sget σ js = some (.list [])) (hn : 3 ≤ n)
    (h : ∀ j je fs σ', σ.length ≤ j → σ.length ≤ je → j ≠ je → sget σ' j = some (.inst 1281 fs) → lk tEntries fs = some (.obj je) → lk [108, 111, 111, 107, 117, 112] fs = none → lk [100, 101, 99, 108, 97, 114, 101] fs = none → sget σ' je = some (.dict []) → (∀ i o, i ≠ js → sget σ i = some o → sget σ' i = some o) → k (.obj j) σ') :
    CLn (tab sc) n 1281 [.obj d, .str nm, .none, .str kd] σ k := by
  have hlt := sget_lt hl
  obtain ⟨n, rfl, hq⟩ := pred hn
  replace hn := hq
  clear hq
  conv => whnf
  repeat (refine ⟨by first | exact True.intro | decide | exact Nat.le_of_ble_eq_true rfl, ?_⟩; conv => whnf)
  repeat (simp only [sgetA0, ssetA0, sgetA, ssetA, List.length_append, List.length_cons, List.length_nil, List.append_assoc, List.cons_append, List.nil_append, Nat.zero_add, sset_len, sset]; (conv => whnf); repeat (refine ⟨by first | exact True.intro | decide | exact Nat.le_of_ble_eq_true rfl, ?_⟩; conv => whnf))
  rw [mk_fn (sget_app _ hj) hm rfl]
  conv => whnf
  repeat (refine ⟨by first | exact True.intro | decide | exact Nat.le_of_ble_eq_true rfl, ?_⟩; conv => whnf)
  repeat (simp only [sgetA0, ssetA0, sgetA, ssetA, List.length_append, List.length_cons, List.length_nil, List.append_assoc, List.cons_append, List.nil_append, Nat.zero_add, sset_len, sset]; (conv => whnf); repeat (refine ⟨by first | exact True.intro | decide | exact Nat.le_of_ble_eq_true rfl, ?_⟩; conv => whnf))
  refine c_add_scope (sget_app _ hj) hs (sget_app _ hl) (by omega) ?_
  intro σ1 e1 e2
  have a1 := e2 σ.length (by omega)
  rw [sgetA0] at a1
  have a2 := e2 (σ.length + 1) (by omega)
  rw [sgetA] at a2
  have a3 : ∀ i o, i ≠ js → sget σ i = some o → sget σ1 i = some o := fun i o hi h => (e2 i hi).trans (sget_app _ h)
  clear e2
  conv => whnf
  repeat (refine ⟨by first | exact True.intro | decide | exact Nat.le_of_ble_eq_true rfl, ?_⟩; conv => whnf)
  rw [a1]
  conv => whnf
  repeat (refine ⟨by first | exact True.intro | decide | exact Nat.le_of_ble_eq_true rfl, ?_⟩; conv => whnf)
  refine h σ.length (σ.length + 1) _ _ (by omega) (by omega) (by omega) (sget_set_self a1) rfl rfl rfl ?_ ?_
  · rw [sget_set_ne (i := σ.length + 1) (j := σ.length) (by omega), a2]; rfl
  · intro i o hi ho
    have := sget_lt ho
    rw [sget_set_ne (i := i) (j := σ.length) (by omega)]
    exact a3 i o hi ho
/-! ## expressions -/
/-- the tree of a whole number -/
noncomputable def numE (i : Int) : PV := .tup [.str [110, 117, 109], .int 0, .tup [.int 32, .int (i % 4294967296), .int 0], .bool true, .bool false]
noncomputable def idE (x : Txt) : PV := .tup [.str [105, 100], .int 0, .str x]
noncomputable def binE (op : Txt) (a b : PV) : PV := .tup [.str [98, 105, 110], .int 0, .str op, a, b]
/-- an entry of a scope: what it is worth -/
inductive Ent : PV → Option Int → Prop
  | par (v : Option Int) : Ent (.tup [.str [112, 97, 114, 97, 109], vv v, .bool true]) v
  | gen (i : Int) : Ent (.tup [.str [103, 101, 110, 118, 97, 114], .int i]) (some i)
/-- an expression of the law's, its height, what it is worth among these entries -/
inductive Ex (es : List (Txt × PV)) : Nat → PV → Option Int → Prop
  | num (i : Int) (h : -1000 ≤ i ∧ i ≤ 1000) : Ex es 0 (numE i) (some i)
  | id {x : Txt} {e : PV} {v : Option Int} (hx : lk x es = some e) (he : Ent e v) (h : ∀ i, v = some i → -1000 ≤ i ∧ i ≤ 1000) : Ex es 0 (idE x) v
  | plus {m : Nat} {d e : PV} {i j : Int} : Ex es m d (some i) → Ex es 0 e (some j) → -1000 ≤ i + j ∧ i + j ≤ 1000 → Ex es (m + 1) (binE [43] d e) (some (i + j))
theorem Ex.small {es : List (Txt × PV)} {m : Nat} {d : PV} {v : Option Int} (h : Ex es m d v) : Sm v := by
  intro i e
  cases h with
  | num j h => cases e; omega
  | id _ _ h => have := h i e; omega
  | plus _ _ h => cases e; omega
/-- a scope at s, its entries at t -/
noncomputable def ScOK (σ : Sto) (s t : Nat) (es : List (Txt × PV)) : Prop := (∃ fs, sget σ s = some (.inst 1281 fs) ∧ lk tEntries fs = some (.obj t) ∧ lk [108, 111, 111, 107, 117, 112] fs = none ∧ lk [100, 101, 99, 108, 97, 114, 101] fs = none) ∧ sget σ t = some (.dict es)
theorem ScOK.le {σ σ' : Sto} {s t : Nat} {es : List (Txt × PV)} (h : ScOK σ s t es) (l : Le σ σ') : ScOK σ' s t es := by
  obtain ⟨⟨fs, a, b, c, c2⟩, d⟩ := h
  exact ⟨⟨fs, l _ _ a, b, c, c2⟩, l _ _ d⟩
theorem c_number_value {i : Int} (hn : 4 ≤ n) (h : k (kst (vv (some i))) σ) : CLn (tab sc) n 913 [numE i, .int 32, .bool true] σ k := by
  obtain ⟨n, rfl, hq⟩ := pred hn
  replace hn := hq
  clear hq
  conv => whnf
  repeat (refine ⟨by first | exact True.intro | decide | exact Nat.le_of_ble_eq_true rfl, ?_⟩; conv => whnf)
  refine c_extend (v := some i) (by omega) ?_
  conv => whnf
  repeat (refine ⟨by first | exact True.intro | decide | exact Nat.le_of_ble_eq_true rfl, ?_⟩; conv => whnf)
  exact h
theorem c_lookup {s t : Nat} {es : List (Txt × PV)} {x : Txt} {e : PV} (H : ScOK σ s t es) (hx : lk x es = some e) (hn : 1 ≤ n) (h : k e σ) : CLn (tab sc) n 1250 [.obj s, .str x] σ k := by
  obtain ⟨⟨fs, a, b, c, c2⟩, d⟩ := H
  obtain ⟨n, rfl, hq⟩ := pred hn
  replace hn := hq
  clear hq
  conv => whnf
  repeat (refine ⟨by first | exact True.intro | decide | exact Nat.le_of_ble_eq_true rfl, ?_⟩; conv => whnf)
  rw [a]
  conv => whnf
  repeat (refine ⟨by first | exact True.intro | decide | exact Nat.le_of_ble_eq_true rfl, ?_⟩; conv => whnf)
  rw [show lk [101, 110, 116, 114, 105, 101, 115] fs = some (.obj t) from b]
  conv => whnf
  repeat (refine ⟨by first | exact True.intro | decide | exact Nat.le_of_ble_eq_true rfl, ?_⟩; conv => whnf)
  rw [d]
  conv => whnf
  repeat (refine ⟨by first | exact True.intro | decide | exact Nat.le_of_ble_eq_true rfl, ?_⟩; conv => whnf)
  rw [hx]
  conv => whnf
  repeat (refine ⟨by first | exact True.intro | decide | exact Nat.le_of_ble_eq_true rfl, ?_⟩; conv => whnf)
  rw [a]
  conv => whnf
  repeat (refine ⟨by first | exact True.intro | decide | exact Nat.le_of_ble_eq_true rfl, ?_⟩; conv => whnf)
  rw [show lk [101, 110, 116, 114, 105, 101, 115] fs = some (.obj t) from b]
  conv => whnf
  repeat (refine ⟨by first | exact True.intro | decide | exact Nat.le_of_ble_eq_true rfl, ?_⟩; conv => whnf)
  rw [d]
  conv => whnf
  repeat (refine ⟨by first | exact True.intro | decide | exact Nat.le_of_ble_eq_true rfl, ?_⟩; conv => whnf)
  rw [hx]
  conv => whnf
  repeat (refine ⟨by first | exact True.intro | decide | exact Nat.le_of_ble_eq_true rfl, ?_⟩; conv => whnf)
  exact h
end
section
set_option linter.unusedSimpArgs false
variable {sc : Option (Addr × List PV)} {n : Nat} {σ : Sto} {k : Kont} {s t : Nat} {es : List (Txt × PV)}

theorem c_last_select {x : Txt} (hn : 1 ≤ n) (h : k (idE x) σ) : CLn (tab sc) n 822 [idE x] σ k := by
  obtain ⟨n, rfl, hq⟩ := pred hn
  replace hn := hq
  clear hq
  conv => whnf
  repeat (refine ⟨by first | exact True.intro | decide | exact Nat.le_of_ble_eq_true rfl, ?_⟩; conv => whnf)
  exact h
theorem c_entry_of {x : Txt} {e : PV} {v : Option Int} (H : ScOK σ s t es) (hx : lk x es = some e) (he : Ent e v) (hn : 2 ≤ n) (h : k e σ) : CLn (tab sc) n 934 [.obj s, idE x] σ k := by
  obtain ⟨n, rfl, hq⟩ := pred hn
  replace hn := hq
  clear hq
  conv => whnf
  repeat (refine ⟨by first | exact True.intro | decide | exact Nat.le_of_ble_eq_true rfl, ?_⟩; conv => whnf)
  rw [mk_fn H.1.choose_spec.1 H.1.choose_spec.2.2.1 rfl]
  conv => whnf
  repeat (refine ⟨by first | exact True.intro | decide | exact Nat.le_of_ble_eq_true rfl, ?_⟩; conv => whnf)
  refine c_lookup H hx (by omega) ?_
  conv => whnf
  repeat (refine ⟨by first | exact True.intro | decide | exact Nat.le_of_ble_eq_true rfl, ?_⟩; conv => whnf)
  cases he <;>
  · conv => whnf
    repeat (refine ⟨by first | exact True.intro | decide | exact Nat.le_of_ble_eq_true rfl, ?_⟩; conv => whnf)
    exact h
theorem c_is_memory {S e : PV} {v : Option Int} (he : Ent e v) (hn : 1 ≤ n) (h : k (.bool false) σ) : CLn (tab sc) n 829 [S, e] σ k := by
  cases he <;>
  · obtain ⟨n, rfl, hq⟩ := pred hn
    replace hn := hq
    clear hq
    conv => whnf
    repeat (refine ⟨by first | exact True.intro | decide | exact Nat.le_of_ble_eq_true rfl, ?_⟩; conv => whnf)
    exact h
noncomputable def shp : PV := .tup [.int 32, .bool true, .int 31, .int 0, .bool false]
theorem c_shape {S e a : PV} {v : Option Int} (he : Ent e v) (hn : 1 ≤ n) (h : k shp σ) : CLn (tab sc) n 836 [S, e, a] σ k := by
  cases he <;>
  · obtain ⟨n, rfl, hq⟩ := pred hn
    replace hn := hq
    clear hq
    conv => whnf
    repeat (refine ⟨by first | exact True.intro | decide | exact Nat.le_of_ble_eq_true rfl, ?_⟩; conv => whnf)
    exact h
theorem c_read_entry {S e : PV} {v : Option Int} (he : Ent e v) (hn : 3 ≤ n) (h : k (kst (vv v)) σ) : CLn (tab sc) n 843 [S, e, .none] σ k := by
  cases he with
  | par v =>
    obtain ⟨n, rfl, hq⟩ := pred hn
    replace hn := hq
    clear hq
    conv => whnf
    repeat (refine ⟨by first | exact True.intro | decide | exact Nat.le_of_ble_eq_true rfl, ?_⟩; conv => whnf)
    exact h
  | gen i =>
    obtain ⟨n, rfl, hq⟩ := pred hn
    replace hn := hq
    clear hq
    conv => whnf
    repeat (refine ⟨by first | exact True.intro | decide | exact Nat.le_of_ble_eq_true rfl, ?_⟩; conv => whnf)
    refine c_from_int (by omega) ?_
    conv => whnf
    repeat (refine ⟨by first | exact True.intro | decide | exact Nat.le_of_ble_eq_true rfl, ?_⟩; conv => whnf)
    exact h
noncomputable def typ : PV := .tup [.int 32, .bool true]
theorem c_named_type {x : Txt} {e : PV} {v : Option Int} (H : ScOK σ s t es) (hx : lk x es = some e) (he : Ent e v) (hn : 3 ≤ n) (h : k typ σ) : CLn (tab sc) n 962 [.obj s, idE x] σ k := by
  obtain ⟨n, rfl, hq⟩ := pred hn
  replace hn := hq
  clear hq
  conv => whnf
  repeat (refine ⟨by first | exact True.intro | decide | exact Nat.le_of_ble_eq_true rfl, ?_⟩; conv => whnf)
  refine c_last_select (by omega) ?_
  conv => whnf
  repeat (refine ⟨by first | exact True.intro | decide | exact Nat.le_of_ble_eq_true rfl, ?_⟩; conv => whnf)
  refine c_entry_of H hx he (by omega) ?_
  conv => whnf
  repeat (refine ⟨by first | exact True.intro | decide | exact Nat.le_of_ble_eq_true rfl, ?_⟩; conv => whnf)
  refine c_is_memory he (by omega) ?_
  conv => whnf
  repeat (refine ⟨by first | exact True.intro | decide | exact Nat.le_of_ble_eq_true rfl, ?_⟩; conv => whnf)
  refine c_shape he (by omega) ?_
  conv => whnf
  repeat (refine ⟨by first | exact True.intro | decide | exact Nat.le_of_ble_eq_true rfl, ?_⟩; conv => whnf)
  exact h
theorem c_named_value {x : Txt} {e : PV} {v : Option Int} (H : ScOK σ s t es) (hx : lk x es = some e) (he : Ent e v) (hn : 4 ≤ n) (h : k (kst (vv v)) σ) : CLn (tab sc) n 969 [.obj s, idE x] σ k := by
  obtain ⟨n, rfl, hq⟩ := pred hn
  replace hn := hq
  clear hq
  conv => whnf
  repeat (refine ⟨by first | exact True.intro | decide | exact Nat.le_of_ble_eq_true rfl, ?_⟩; conv => whnf)
  refine c_last_select (by omega) ?_
  conv => whnf
  repeat (refine ⟨by first | exact True.intro | decide | exact Nat.le_of_ble_eq_true rfl, ?_⟩; conv => whnf)
  refine c_entry_of H hx he (by omega) ?_
  conv => whnf
  repeat (refine ⟨by first | exact True.intro | decide | exact Nat.le_of_ble_eq_true rfl, ?_⟩; conv => whnf)
  refine c_is_memory he (by omega) ?_
  conv => whnf
  repeat (refine ⟨by first | exact True.intro | decide | exact Nat.le_of_ble_eq_true rfl, ?_⟩; conv => whnf)
  refine c_shape he (by omega) ?_
  conv => whnf
  repeat (refine ⟨by first | exact True.intro | decide | exact Nat.le_of_ble_eq_true rfl, ?_⟩; conv => whnf)
  refine c_read_entry he (by omega) ?_
  conv => whnf
  repeat (refine ⟨by first | exact True.intro | decide | exact Nat.le_of_ble_eq_true rfl, ?_⟩; conv => whnf)
  exact h
theorem c_is_ctx_plus (hn : 1 ≤ n) (h : k (.bool true) σ) : CLn (tab sc) n 892 [.str [43]] σ k := by
  obtain ⟨n, rfl, hq⟩ := pred hn
  replace hn := hq
  clear hq
  conv => whnf
  repeat (refine ⟨by first | exact True.intro | decide | exact Nat.le_of_ble_eq_true rfl, ?_⟩; conv => whnf)
  exact h
theorem c_is_ctx {o : Op} (hn : 1 ≤ n) (h : k (.bool false) σ) : CLn (tab sc) n 892 [.str o.s] σ k := by
  cases o <;>
  · obtain ⟨n, rfl, hq⟩ := pred hn
    replace hn := hq
    clear hq
    conv => whnf
    repeat (refine ⟨by first | exact True.intro | decide | exact Nat.le_of_ble_eq_true rfl, ?_⟩; conv => whnf)
    exact h
theorem c_is_shift {o : Op} (hn : 1 ≤ n) (h : k (.bool false) σ) : CLn (tab sc) n 899 [.str o.s] σ k := by
  cases o <;>
  · obtain ⟨n, rfl, hq⟩ := pred hn
    replace hn := hq
    clear hq
    conv => whnf
    repeat (refine ⟨by first | exact True.intro | decide | exact Nat.le_of_ble_eq_true rfl, ?_⟩; conv => whnf)
    exact h
theorem c_both_types {S a b : PV} (ha : ∀ k : Kont, k typ σ → CLn (tab sc) n 1039 [S, a] σ k) (hb : ∀ k : Kont, k typ σ → CLn (tab sc) n 1039 [S, b] σ k) (h : k typ σ) : CLn (tab sc) (n + 1) 1032 [S, a, b] σ k := by
  conv => whnf
  repeat (refine ⟨by first | exact True.intro | decide | exact Nat.le_of_ble_eq_true rfl, ?_⟩; conv => whnf)
  refine ha _ ?_
  conv => whnf
  repeat (refine ⟨by first | exact True.intro | decide | exact Nat.le_of_ble_eq_true rfl, ?_⟩; conv => whnf)
  refine hb _ ?_
  conv => whnf
  repeat (refine ⟨by first | exact True.intro | decide | exact Nat.le_of_ble_eq_true rfl, ?_⟩; conv => whnf)
  exact h
theorem c_expr_type {m : Nat} {d : PV} {v : Option Int} (H : ScOK σ s t es) (E : Ex es m d v) : ∀ {n : Nat} {k : Kont}, 2 * m + 4 ≤ n → k typ σ → CLn (tab sc) n 1039 [.obj s, d] σ k := by
  induction E with
  | num i hi =>
    intro n k hn h
    obtain ⟨n, rfl, hq⟩ := pred hn
    replace hn := hq
    clear hq
    conv => whnf
    repeat (refine ⟨by first | exact True.intro | decide | exact Nat.le_of_ble_eq_true rfl, ?_⟩; conv => whnf)
    exact h
  | id hx he hv =>
    intro n k hn h
    obtain ⟨n, rfl, hq⟩ := pred hn
    replace hn := hq
    clear hq
    conv => whnf
    repeat (refine ⟨by first | exact True.intro | decide | exact Nat.le_of_ble_eq_true rfl, ?_⟩; conv => whnf)
    refine c_named_type H hx he (by omega) ?_
    conv => whnf
    repeat (refine ⟨by first | exact True.intro | decide | exact Nat.le_of_ble_eq_true rfl, ?_⟩; conv => whnf)
    exact h
  | @plus m d e i j E1 E2 hb ih1 ih2 =>
    intro n k hn h
    obtain ⟨n, rfl, hq⟩ := pred hn
    replace hn := hq
    clear hq
    conv => whnf
    repeat (refine ⟨by first | exact True.intro | decide | exact Nat.le_of_ble_eq_true rfl, ?_⟩; conv => whnf)
    refine c_is_ctx_plus (by omega) ?_
    conv => whnf
    repeat (refine ⟨by first | exact True.intro | decide | exact Nat.le_of_ble_eq_true rfl, ?_⟩; conv => whnf)
    obtain ⟨n, rfl, hn2⟩ := pred (show (2 * m + 4) + 1 ≤ n by omega)
    refine c_both_types (fun k h => ih1 (by omega) h) (fun k h => ih2 (by omega) h) ?_
    conv => whnf
    repeat (refine ⟨by first | exact True.intro | decide | exact Nat.le_of_ble_eq_true rfl, ?_⟩; conv => whnf)
    exact h
/-! ## folding -/
theorem c_folds_bin {w op a b g : PV} (hn : 1 ≤ n) (h : k (.bool true) σ) : CLn (tab sc) n 850 [.tup [.str [98, 105, 110], w, op, a, b, g]] σ k := by
  obtain ⟨n, rfl, hq⟩ := pred hn
  replace hn := hq
  clear hq
  conv => whnf
  repeat (refine ⟨by first | exact True.intro | decide | exact Nat.le_of_ble_eq_true rfl, ?_⟩; conv => whnf)
  exact h
theorem c_children_bin {w op a b g : PV} (hn : 1 ≤ n) (h : k (.tup [a, b]) σ) : CLn (tab sc) n 735 [.tup [.str [98, 105, 110], w, op, a, b, g]] σ k := by
  obtain ⟨n, rfl, hq⟩ := pred hn
  replace hn := hq
  clear hq
  conv => whnf
  repeat (refine ⟨by first | exact True.intro | decide | exact Nat.le_of_ble_eq_true rfl, ?_⟩; conv => whnf)
  exact h
theorem c_eval_const {a b c x : PV} (hn : 1 ≤ n) (h : k (.tup [a, b, c]) σ) : CLn (tab sc) n 605 [.tup [.str [99, 111, 110, 115, 116], a, b, c], x] σ k := by
  obtain ⟨n, rfl, hq⟩ := pred hn
  replace hn := hq
  clear hq
  conv => whnf
  repeat (refine ⟨by first | exact True.intro | decide | exact Nat.le_of_ble_eq_true rfl, ?_⟩; conv => whnf)
  exact h
theorem c_eval_plus {w x : PV} {u v : Option Int} (hn : 6 ≤ n) (h : k (vv (addO u v)) σ) :
    CLn (tab sc) n 605 [.tup [.str [98, 105, 110], w, .str [43], kst (vv u), kst (vv v), .bool true], x] σ k := by
  obtain ⟨n, rfl, hq⟩ := pred hn
  replace hn := hq
  clear hq
  conv => whnf
  repeat (refine ⟨by first | exact True.intro | decide | exact Nat.le_of_ble_eq_true rfl, ?_⟩; conv => whnf)
  refine c_eval_const (by omega) ?_
  conv => whnf
  repeat (refine ⟨by first | exact True.intro | decide | exact Nat.le_of_ble_eq_true rfl, ?_⟩; conv => whnf)
  refine c_eval_const (by omega) ?_
  conv => whnf
  repeat (refine ⟨by first | exact True.intro | decide | exact Nat.le_of_ble_eq_true rfl, ?_⟩; conv => whnf)
  refine c_binary_plus (by omega) ?_
  conv => whnf
  repeat (refine ⟨by first | exact True.intro | decide | exact Nat.le_of_ble_eq_true rfl, ?_⟩; conv => whnf)
  exact h
theorem c_eval_cmp {o : Op} {w x : PV} {u v : Option Int} (hu : Sm u) (hv : Sm v) (hn : 7 ≤ n) (h : k (tt (cmpO o.f u v)) σ) :
    CLn (tab sc) n 605 [.tup [.str [98, 105, 110], w, .str o.s, kst (vv u), kst (vv v), .bool true], x] σ k := by
  obtain ⟨n, rfl, hq⟩ := pred hn
  replace hn := hq
  clear hq
  conv => whnf
  repeat (refine ⟨by first | exact True.intro | decide | exact Nat.le_of_ble_eq_true rfl, ?_⟩; conv => whnf)
  refine c_eval_const (by omega) ?_
  conv => whnf
  repeat (refine ⟨by first | exact True.intro | decide | exact Nat.le_of_ble_eq_true rfl, ?_⟩; conv => whnf)
  refine c_eval_const (by omega) ?_
  conv => whnf
  repeat (refine ⟨by first | exact True.intro | decide | exact Nat.le_of_ble_eq_true rfl, ?_⟩; conv => whnf)
  refine c_binary_cmp hu hv (by omega) ?_
  conv => whnf
  repeat (refine ⟨by first | exact True.intro | decide | exact Nat.le_of_ble_eq_true rfl, ?_⟩; conv => whnf)
  exact h
theorem c_folded_plus {w : PV} {u v : Option Int} (hn : 8 ≤ n) (h : ∀ σ', Le σ σ' → k (kst (vv (addO u v))) σ') :
    CLn (tab sc) n 857 [.tup [.str [98, 105, 110], w, .str [43], kst (vv u), kst (vv v), .bool true]] σ k := by
  obtain ⟨n, rfl, hq⟩ := pred hn
  replace hn := hq
  clear hq
  conv => whnf
  repeat (refine ⟨by first | exact True.intro | decide | exact Nat.le_of_ble_eq_true rfl, ?_⟩; conv => whnf)
  refine c_folds_bin (by omega) ?_
  conv => whnf
  repeat (refine ⟨by first | exact True.intro | decide | exact Nat.le_of_ble_eq_true rfl, ?_⟩; conv => whnf)
  refine c_children_bin (by omega) ?_
  conv => whnf
  repeat (refine ⟨by first | exact True.intro | decide | exact Nat.le_of_ble_eq_true rfl, ?_⟩; conv => whnf)
  refine c_store (by omega) ?_
  intro j1 σ1 l1
  conv => whnf
  repeat (refine ⟨by first | exact True.intro | decide | exact Nat.le_of_ble_eq_true rfl, ?_⟩; conv => whnf)
  refine c_context (by omega) ?_
  intro j2 σ2 l2
  conv => whnf
  repeat (refine ⟨by first | exact True.intro | decide | exact Nat.le_of_ble_eq_true rfl, ?_⟩; conv => whnf)
  refine c_eval_plus (by omega) ?_
  conv => whnf
  repeat (refine ⟨by first | exact True.intro | decide | exact Nat.le_of_ble_eq_true rfl, ?_⟩; conv => whnf)
  exact h _ (((Le.app _ _).trans l1).trans ((Le.app _ _).trans l2))
theorem c_folded_cmp {o : Op} {w : PV} {u v : Option Int} (hu : Sm u) (hv : Sm v) (hn : 9 ≤ n) (h : ∀ σ', Le σ σ' → k (kst (tt (cmpO o.f u v))) σ') :
    CLn (tab sc) n 857 [.tup [.str [98, 105, 110], w, .str o.s, kst (vv u), kst (vv v), .bool true]] σ k := by
  obtain ⟨n, rfl, hq⟩ := pred hn
  replace hn := hq
  clear hq
  conv => whnf
  repeat (refine ⟨by first | exact True.intro | decide | exact Nat.le_of_ble_eq_true rfl, ?_⟩; conv => whnf)
  refine c_folds_bin (by omega) ?_
  conv => whnf
  repeat (refine ⟨by first | exact True.intro | decide | exact Nat.le_of_ble_eq_true rfl, ?_⟩; conv => whnf)
  refine c_children_bin (by omega) ?_
  conv => whnf
  repeat (refine ⟨by first | exact True.intro | decide | exact Nat.le_of_ble_eq_true rfl, ?_⟩; conv => whnf)
  refine c_store (by omega) ?_
  intro j1 σ1 l1
  conv => whnf
  repeat (refine ⟨by first | exact True.intro | decide | exact Nat.le_of_ble_eq_true rfl, ?_⟩; conv => whnf)
  refine c_context (by omega) ?_
  intro j2 σ2 l2
  conv => whnf
  repeat (refine ⟨by first | exact True.intro | decide | exact Nat.le_of_ble_eq_true rfl, ?_⟩; conv => whnf)
  refine c_eval_cmp hu hv (by omega) ?_
  conv => whnf
  repeat (refine ⟨by first | exact True.intro | decide | exact Nat.le_of_ble_eq_true rfl, ?_⟩; conv => whnf)
  exact h _ (((Le.app _ _).trans l1).trans ((Le.app _ _).trans l2))
theorem c_widen32 {v : Option Int} {g : PV} (hn : 1 ≤ n) (h : k (kst (vv v)) σ) : CLn (tab sc) n 906 [kst (vv v), .int 32, g] σ k := by
  obtain ⟨n, rfl, hq⟩ := pred hn
  replace hn := hq
  clear hq
  conv => whnf
  repeat (refine ⟨by first | exact True.intro | decide | exact Nat.le_of_ble_eq_true rfl, ?_⟩; conv => whnf)
  exact h
theorem c_widen1 {v : Option Bool} {g : PV} (hn : 1 ≤ n) (h : k (kst (tt v)) σ) : CLn (tab sc) n 906 [kst (tt v), .int 1, g] σ k := by
  obtain ⟨n, rfl, hq⟩ := pred hn
  replace hn := hq
  clear hq
  conv => whnf
  repeat (refine ⟨by first | exact True.intro | decide | exact Nat.le_of_ble_eq_true rfl, ?_⟩; conv => whnf)
  exact h
/-- what build says of an expression -/
noncomputable def Bld (sc : Option (Addr × List PV)) (s t : Nat) (es : List (Txt × PV)) (n : Nat) (d : PV) (v : Option Int) : Prop := ∀ (σ : Sto) (k : Kont), ScOK σ s t es → (∀ σ', Le σ σ' → k (kst (vv v)) σ') → CLn (tab sc) n 1060 [.obj s, d, .int 32, .bool true] σ k
theorem c_bv_plus {d e : PV} {u v : Option Int} (ha : Bld sc s t es n d u) (hb : Bld sc s t es n e v) (H : ScOK σ s t es) (hn : 8 ≤ n) (h : ∀ σ', Le σ σ' → k (kst (vv (addO u v))) σ') :
    CLn (tab sc) (n + 1) 1053 [.obj s, binE [43] d e, .int 32, .bool true] σ k := by
  conv => whnf
  repeat (refine ⟨by first | exact True.intro | decide | exact Nat.le_of_ble_eq_true rfl, ?_⟩; conv => whnf)
  refine c_is_ctx_plus (by omega) ?_
  conv => whnf
  repeat (refine ⟨by first | exact True.intro | decide | exact Nat.le_of_ble_eq_true rfl, ?_⟩; conv => whnf)
  refine ha _ _ H ?_
  intro σ1 l1
  conv => whnf
  repeat (refine ⟨by first | exact True.intro | decide | exact Nat.le_of_ble_eq_true rfl, ?_⟩; conv => whnf)
  refine hb _ _ (H.le l1) ?_
  intro σ2 l2
  conv => whnf
  repeat (refine ⟨by first | exact True.intro | decide | exact Nat.le_of_ble_eq_true rfl, ?_⟩; conv => whnf)
  refine c_folded_plus (by omega) ?_
  intro σ3 l3
  conv => whnf
  repeat (refine ⟨by first | exact True.intro | decide | exact Nat.le_of_ble_eq_true rfl, ?_⟩; conv => whnf)
  exact h _ ((l1.trans l2).trans l3)
theorem c_build {m : Nat} {d : PV} {v : Option Int} (E : Ex es m d v) : ∀ {n : Nat}, 2 * m + 10 ≤ n → Bld sc s t es n d v := by
  induction E with
  | num i hi =>
    intro n hn σ k H h
    obtain ⟨n, rfl, hq⟩ := pred hn
    replace hn := hq
    clear hq
    conv => whnf
    repeat (refine ⟨by first | exact True.intro | decide | exact Nat.le_of_ble_eq_true rfl, ?_⟩; conv => whnf)
    refine c_number_value (by omega) ?_
    conv => whnf
    repeat (refine ⟨by first | exact True.intro | decide | exact Nat.le_of_ble_eq_true rfl, ?_⟩; conv => whnf)
    exact h _ (Le.refl _)
  | id hx he hv =>
    intro n hn σ k H h
    obtain ⟨n, rfl, hq⟩ := pred hn
    replace hn := hq
    clear hq
    conv => whnf
    repeat (refine ⟨by first | exact True.intro | decide | exact Nat.le_of_ble_eq_true rfl, ?_⟩; conv => whnf)
    refine c_named_value H hx he (by omega) ?_
    conv => whnf
    repeat (refine ⟨by first | exact True.intro | decide | exact Nat.le_of_ble_eq_true rfl, ?_⟩; conv => whnf)
    refine c_widen32 (by omega) ?_
    conv => whnf
    repeat (refine ⟨by first | exact True.intro | decide | exact Nat.le_of_ble_eq_true rfl, ?_⟩; conv => whnf)
    exact h _ (Le.refl _)
  | @plus m d e i j E1 E2 hb ih1 ih2 =>
    intro n hn σ k H h
    obtain ⟨n, rfl, hq⟩ := pred hn
    replace hn := hq
    clear hq
    conv => whnf
    repeat (refine ⟨by first | exact True.intro | decide | exact Nat.le_of_ble_eq_true rfl, ?_⟩; conv => whnf)
    obtain ⟨n, rfl, hn2⟩ := pred (show (2 * m + 10) + 1 ≤ n by omega)
    refine c_bv_plus (ih1 (by omega)) (ih2 (by omega)) H (by omega) ?_
    intro σ1 l1
    conv => whnf
    repeat (refine ⟨by first | exact True.intro | decide | exact Nat.le_of_ble_eq_true rfl, ?_⟩; conv => whnf)
    exact h _ l1
theorem c_self {m : Nat} {d : PV} {v : Option Int} (E : Ex es m d v) (H : ScOK σ s t es) (hn : 2 * m + 11 ≤ n) (h : ∀ σ', Le σ σ' → k (.tup [kst (vv v), .bool true]) σ') : CLn (tab sc) n 1067 [.obj s, d] σ k := by
  obtain ⟨n, rfl, hq⟩ := pred hn
  replace hn := hq
  clear hq
  conv => whnf
  repeat (refine ⟨by first | exact True.intro | decide | exact Nat.le_of_ble_eq_true rfl, ?_⟩; conv => whnf)
  refine c_expr_type H E (by omega) ?_
  conv => whnf
  repeat (refine ⟨by first | exact True.intro | decide | exact Nat.le_of_ble_eq_true rfl, ?_⟩; conv => whnf)
  refine c_build E (by omega) _ _ H ?_
  intro σ1 l1
  conv => whnf
  repeat (refine ⟨by first | exact True.intro | decide | exact Nat.le_of_ble_eq_true rfl, ?_⟩; conv => whnf)
  exact h _ l1
theorem c_kvec {v : Option Int} {S a : PV} (hn : 1 ≤ n) (h : k (vv v) σ) : CLn (tab sc) n 1081 [S, kst (vv v), a] σ k := by
  obtain ⟨n, rfl, hq⟩ := pred hn
  replace hn := hq
  clear hq
  conv => whnf
  repeat (refine ⟨by first | exact True.intro | decide | exact Nat.le_of_ble_eq_true rfl, ?_⟩; conv => whnf)
  exact h
theorem c_kvec1 {v : Option Bool} {S a : PV} (hn : 1 ≤ n) (h : k (tt v) σ) : CLn (tab sc) n 1081 [S, kst (tt v), a] σ k := by
  obtain ⟨n, rfl, hq⟩ := pred hn
  replace hn := hq
  clear hq
  conv => whnf
  repeat (refine ⟨by first | exact True.intro | decide | exact Nat.le_of_ble_eq_true rfl, ?_⟩; conv => whnf)
  exact h
theorem ex_at {m : Nat} {d : PV} {v : Option Int} (E : Ex es m d v) : ∃ a l, d = .tup (a :: .int 0 :: l) ∧ l.length ≤ 3 := by
  cases E with
  | num i hi => exact ⟨_, _, rfl, by simp⟩
  | id => exact ⟨_, _, rfl, by simp⟩
  | plus => exact ⟨_, _, rfl, by simp⟩
theorem c_constant {m : Nat} {d : PV} {v : Option Int} (E : Ex es m d v) (H : ScOK σ s t es) (hn : 2 * m + 12 ≤ n) (h : ∀ σ', Le σ σ' → k (.tup [vv v, .bool true]) σ') : CLn (tab sc) n 1088 [.obj s, d] σ k := by
  obtain ⟨n, rfl, hq⟩ := pred hn
  replace hn := hq
  clear hq
  conv => whnf
  repeat (refine ⟨by first | exact True.intro | decide | exact Nat.le_of_ble_eq_true rfl, ?_⟩; conv => whnf)
  refine c_self E H (by omega) ?_
  intro σ1 l1
  conv => whnf
  repeat (refine ⟨by first | exact True.intro | decide | exact Nat.le_of_ble_eq_true rfl, ?_⟩; conv => whnf)
  obtain ⟨a, l, rfl, hl⟩ := ex_at E
  conv => whnf
  repeat (refine ⟨by first | exact True.intro | decide | exact Nat.le_of_ble_eq_true rfl, ?_⟩; conv => whnf)
  refine ⟨by simp; omega, ?_⟩
  conv => whnf
  repeat (refine ⟨by first | exact True.intro | decide | exact Nat.le_of_ble_eq_true rfl, ?_⟩; conv => whnf)
  refine c_kvec (by omega) ?_
  conv => whnf
  repeat (refine ⟨by first | exact True.intro | decide | exact Nat.le_of_ble_eq_true rfl, ?_⟩; conv => whnf)
  exact h _ l1
theorem c_whole {m : Nat} {d : PV} {i : Int} (E : Ex es m d (some i)) (H : ScOK σ s t es) (hn : 2 * m + 13 ≤ n) (h : ∀ σ', Le σ σ' → k (.int i) σ') : CLn (tab sc) n 1095 [.obj s, d] σ k := by
  obtain ⟨n, rfl, hq⟩ := pred hn
  replace hn := hq
  clear hq
  conv => whnf
  repeat (refine ⟨by first | exact True.intro | decide | exact Nat.le_of_ble_eq_true rfl, ?_⟩; conv => whnf)
  refine c_constant E H (by omega) ?_
  intro σ1 l1
  conv => whnf
  repeat (refine ⟨by first | exact True.intro | decide | exact Nat.le_of_ble_eq_true rfl, ?_⟩; conv => whnf)
  refine c_to_int E.small (by omega) ?_
  conv => whnf
  repeat (refine ⟨by first | exact True.intro | decide | exact Nat.le_of_ble_eq_true rfl, ?_⟩; conv => whnf)
  exact h _ l1
theorem c_type_cmp {o : Op} {S a b : PV} (hn : 2 ≤ n) (h : k (.tup [.int 1, .bool false]) σ) : CLn (tab sc) n 1039 [S, binE o.s a b] σ k := by
  obtain ⟨n, rfl, hq⟩ := pred hn
  replace hn := hq
  clear hq
  conv => whnf
  repeat (refine ⟨by first | exact True.intro | decide | exact Nat.le_of_ble_eq_true rfl, ?_⟩; conv => whnf)
  refine c_is_ctx (by omega) ?_
  conv => whnf
  repeat (refine ⟨by first | exact True.intro | decide | exact Nat.le_of_ble_eq_true rfl, ?_⟩; conv => whnf)
  refine c_is_shift (by omega) ?_
  conv => whnf
  repeat (refine ⟨by first | exact True.intro | decide | exact Nat.le_of_ble_eq_true rfl, ?_⟩; conv => whnf)
  exact h
theorem c_both {m1 m2 m : Nat} {d1 d2 : PV} {u v : Option Int} (E1 : Ex es m1 d1 u) (E2 : Ex es m2 d2 v) (h1 : m1 ≤ m) (h2 : m2 ≤ m) (H : ScOK σ s t es) (hn : 2 * m + 5 ≤ n) (h : k typ σ) : CLn (tab sc) n 1032 [.obj s, d1, d2] σ k := by
  obtain ⟨n, rfl, hn2⟩ := pred (show (2 * m + 4) + 1 ≤ n by omega)
  exact c_both_types (fun k h => c_expr_type H E1 (by omega) h) (fun k h => c_expr_type H E2 (by omega) h) h
theorem c_bv_cmp {o : Op} {m1 m2 m : Nat} {d1 d2 : PV} {u v : Option Int} (E1 : Ex es m1 d1 u) (E2 : Ex es m2 d2 v) (h1 : m1 ≤ m) (h2 : m2 ≤ m) (H : ScOK σ s t es) (hn : 2 * m + 11 ≤ n) (h : ∀ σ', Le σ σ' → k (kst (tt (cmpO o.f u v))) σ') :
    CLn (tab sc) n 1053 [.obj s, binE o.s d1 d2, .int 1, .bool false] σ k := by
  obtain ⟨n, rfl, hq⟩ := pred hn
  replace hn := hq
  clear hq
  conv => whnf
  repeat (refine ⟨by first | exact True.intro | decide | exact Nat.le_of_ble_eq_true rfl, ?_⟩; conv => whnf)
  refine c_is_ctx (by omega) ?_
  conv => whnf
  repeat (refine ⟨by first | exact True.intro | decide | exact Nat.le_of_ble_eq_true rfl, ?_⟩; conv => whnf)
  refine c_is_shift (by omega) ?_
  conv => whnf
  repeat (refine ⟨by first | exact True.intro | decide | exact Nat.le_of_ble_eq_true rfl, ?_⟩; conv => whnf)
  cases o <;>
  · conv => whnf
    repeat (refine ⟨by first | exact True.intro | decide | exact Nat.le_of_ble_eq_true rfl, ?_⟩; conv => whnf)
    refine c_both E1 E2 h1 h2 H (by omega) ?_
    conv => whnf
    repeat (refine ⟨by first | exact True.intro | decide | exact Nat.le_of_ble_eq_true rfl, ?_⟩; conv => whnf)
    refine c_build E1 (by omega) _ _ H ?_
    intro σ1 l1
    conv => whnf
    repeat (refine ⟨by first | exact True.intro | decide | exact Nat.le_of_ble_eq_true rfl, ?_⟩; conv => whnf)
    refine c_build E2 (by omega) _ _ (H.le l1) ?_
    intro σ2 l2
    conv => whnf
    repeat (refine ⟨by first | exact True.intro | decide | exact Nat.le_of_ble_eq_true rfl, ?_⟩; conv => whnf)
    refine c_folded_cmp E1.small E2.small (by omega) ?_
    intro σ3 l3
    conv => whnf
    repeat (refine ⟨by first | exact True.intro | decide | exact Nat.le_of_ble_eq_true rfl, ?_⟩; conv => whnf)
    refine c_widen1 (by omega) ?_
    conv => whnf
    repeat (refine ⟨by first | exact True.intro | decide | exact Nat.le_of_ble_eq_true rfl, ?_⟩; conv => whnf)
    exact h _ ((l1.trans l2).trans l3)
theorem c_build_cmp {o : Op} {m1 m2 m : Nat} {d1 d2 : PV} {u v : Option Int} (E1 : Ex es m1 d1 u) (E2 : Ex es m2 d2 v) (h1 : m1 ≤ m) (h2 : m2 ≤ m) (H : ScOK σ s t es) (hn : 2 * m + 12 ≤ n) (h : ∀ σ', Le σ σ' → k (kst (tt (cmpO o.f u v))) σ') :
    CLn (tab sc) n 1060 [.obj s, binE o.s d1 d2, .int 1, .bool false] σ k := by
  obtain ⟨n, rfl, hq⟩ := pred hn
  replace hn := hq
  clear hq
  conv => whnf
  repeat (refine ⟨by first | exact True.intro | decide | exact Nat.le_of_ble_eq_true rfl, ?_⟩; conv => whnf)
  refine c_bv_cmp E1 E2 h1 h2 H (by omega) ?_
  intro σ1 l1
  conv => whnf
  repeat (refine ⟨by first | exact True.intro | decide | exact Nat.le_of_ble_eq_true rfl, ?_⟩; conv => whnf)
  exact h _ l1
theorem c_self_cmp {o : Op} {m1 m2 m : Nat} {d1 d2 : PV} {u v : Option Int} (E1 : Ex es m1 d1 u) (E2 : Ex es m2 d2 v) (h1 : m1 ≤ m) (h2 : m2 ≤ m) (H : ScOK σ s t es) (hn : 2 * m + 13 ≤ n) (h : ∀ σ', Le σ σ' → k (.tup [kst (tt (cmpO o.f u v)), .bool false]) σ') :
    CLn (tab sc) n 1067 [.obj s, binE o.s d1 d2] σ k := by
  obtain ⟨n, rfl, hq⟩ := pred hn
  replace hn := hq
  clear hq
  conv => whnf
  repeat (refine ⟨by first | exact True.intro | decide | exact Nat.le_of_ble_eq_true rfl, ?_⟩; conv => whnf)
  refine c_type_cmp (by omega) ?_
  conv => whnf
  repeat (refine ⟨by first | exact True.intro | decide | exact Nat.le_of_ble_eq_true rfl, ?_⟩; conv => whnf)
  refine c_build_cmp E1 E2 h1 h2 H (by omega) ?_
  intro σ1 l1
  conv => whnf
  repeat (refine ⟨by first | exact True.intro | decide | exact Nat.le_of_ble_eq_true rfl, ?_⟩; conv => whnf)
  exact h _ l1
theorem c_test {o : Op} {m1 m2 m : Nat} {d1 d2 : PV} {u v : Option Int} (E1 : Ex es m1 d1 u) (E2 : Ex es m2 d2 v) (h1 : m1 ≤ m) (h2 : m2 ≤ m) (H : ScOK σ s t es) (hn : 2 * m + 14 ≤ n) (h : ∀ σ', Le σ σ' → k (.tup [tt (cmpO o.f u v), .bool false]) σ') :
    CLn (tab sc) n 1088 [.obj s, binE o.s d1 d2] σ k := by
  obtain ⟨n, rfl, hq⟩ := pred hn
  replace hn := hq
  clear hq
  conv => whnf
  repeat (refine ⟨by first | exact True.intro | decide | exact Nat.le_of_ble_eq_true rfl, ?_⟩; conv => whnf)
  refine c_self_cmp E1 E2 h1 h2 H (by omega) ?_
  intro σ1 l1
  conv => whnf
  repeat (refine ⟨by first | exact True.intro | decide | exact Nat.le_of_ble_eq_true rfl, ?_⟩; conv => whnf)
  refine c_kvec1 (by omega) ?_
  conv => whnf
  repeat (refine ⟨by first | exact True.intro | decide | exact Nat.le_of_ble_eq_true rfl, ?_⟩; conv => whnf)
  exact h _ l1
end
section
set_option linter.unusedSimpArgs false
variable {sc : Option (Addr × List PV)} {n : Nat} {σ : Sto} {k : Kont} {s t : Nat} {es : List (Txt × PV)}

/-- a loop's body -/
noncomputable def forB : CS → List CS
  | .fors _ _ _ b => b
  | .whl _ b => b
  | .tryf b _ => b
  | _ => []
noncomputable def nthS (l : List CS) (i : Nat) : CS := match l[i]? with | some c => c | none => .stop
noncomputable def cst (v : Option Int) : PV := .tup [vv v, .bool true]
/-! ## labels of blocks -/
noncomputable def nT (i : Int) : Txt := sT (Str.ofString (toString i))
theorem nT_len (i : Int) (h : -200 ≤ i ∧ i ≤ 200) : (nT i).length ≤ 10 := by
  have key : ∀ j : Fin 401, (nT ((j.val : Int) - 200)).length ≤ 10 := by decide +kernel
  have := key ⟨(i + 200).toNat, by omega⟩
  have e : (((i + 200).toNat : Int) - 200) = i := by omega
  simpa only [e] using this
noncomputable def genblk : Txt := [103, 101, 110, 98, 108, 107]
noncomputable def labT (num : Int) : PV → Txt
  | .str l => l
  | _ => genblk ++ nT num
/-- a block's label, or none -/
noncomputable def LabOK (l : PV) : Prop := l = .none ∨ l = .str [111, 110, 101] ∨ l = .str [116, 119, 111]
theorem c_block_label {a b l r : PV} {num : Int} (hl : LabOK l) (h1 : -200 ≤ num ∧ num ≤ 200) (hn : 1 ≤ n) (h : k (.str (labT num l)) σ) : CLn (tab sc) n 1102 [.tup [a, b, l, r], .int num] σ k := by
  rcases hl with rfl | rfl | rfl
  · obtain ⟨n, rfl, hq⟩ := pred hn
    replace hn := hq
    clear hq
    conv => whnf
    repeat (refine ⟨by first | exact True.intro | decide | exact Nat.le_of_ble_eq_true rfl, ?_⟩; conv => whnf)
    refine ⟨by show num.natAbs < 2 ^ 64; omega, ?_⟩
    conv => whnf
    repeat (refine ⟨by first | exact True.intro | decide | exact Nat.le_of_ble_eq_true rfl, ?_⟩; conv => whnf)
    have := nT_len num h1
    refine ⟨by rw [List.length_append]; show 6 + (nT num).length ≤ 1000; omega, ?_⟩
    conv => whnf
    repeat (refine ⟨by first | exact True.intro | decide | exact Nat.le_of_ble_eq_true rfl, ?_⟩; conv => whnf)
    exact h
  · obtain ⟨n, rfl, hq⟩ := pred hn
    replace hn := hq
    clear hq
    conv => whnf
    repeat (refine ⟨by first | exact True.intro | decide | exact Nat.le_of_ble_eq_true rfl, ?_⟩; conv => whnf)
    exact h
  · obtain ⟨n, rfl, hq⟩ := pred hn
    replace hn := hq
    clear hq
    conv => whnf
    repeat (refine ⟨by first | exact True.intro | decide | exact Nat.le_of_ble_eq_true rfl, ?_⟩; conv => whnf)
    exact h
/-! ## a case's common type -/
noncomputable abbrev ctB : List CS := forB (nthS b1116S.1 2)
theorem ct_loop {O : Ops} {all : List PV} {jc : Nat} (hs : sget σ jc = some (.list all)) {c : PV} {K : KontS} (hK : ∀ a b, K .nxt [([99, 111, 110, 115, 116, 97, 110, 116, 115], c), ([119, 105, 100, 116, 104], .int 32), ([115, 105, 103, 110, 101, 100], .bool true), ([118, 101, 99], a), ([105, 115, 95, 115, 105, 103, 110, 101, 100], b)] σ) :
    ∀ (l : List (Option Int)) (q : Nat) (a b : PV), l.length + 30 ≤ q → frC O q [[118, 101, 99], [105, 115, 95, 115, 105, 103, 110, 101, 100]] false ctB (some jc) all (l.map cst) [([99, 111, 110, 115, 116, 97, 110, 116, 115], c), ([119, 105, 100, 116, 104], .int 32), ([115, 105, 103, 110, 101, 100], .bool true), ([118, 101, 99], a), ([105, 115, 95, 115, 105, 103, 110, 101, 100], b)] σ K
  | [], q, a, b, hq => by
    obtain ⟨q, rfl⟩ : ∃ q', q = q' + 21 := ⟨q - 21, by omega⟩
    conv => whnf
    repeat (refine ⟨by first | exact True.intro | decide | exact Nat.le_of_ble_eq_true rfl, ?_⟩; conv => whnf)
    exact hK a b
  | v :: l, q, a, b, hq => by
    obtain ⟨q, rfl⟩ : ∃ q', q = q' + 21 := ⟨q - 21, by omega⟩
    conv => whnf
    repeat (refine ⟨by first | exact True.intro | decide | exact Nat.le_of_ble_eq_true rfl, ?_⟩; conv => whnf)
    refine ⟨hs, ?_⟩
    rw [List.length_cons] at hq
    exact ct_loop hs hK l _ _ _ (by omega)
theorem c_common_type {jc : Nat} {v : Option Int} {l : List (Option Int)} (hs : sget σ jc = some (.list ((v :: l).map cst))) (hl : l.length ≤ 50) (hn : 1 ≤ n) (h : k (.tup [.int 32, .bool true]) σ) : CLn (tab sc) n 1116 [.obj jc] σ k := by
  obtain ⟨n, rfl, hq⟩ := pred hn
  replace hn := hq
  clear hq
  conv => whnf
  repeat (refine ⟨by first | exact True.intro | decide | exact Nat.le_of_ble_eq_true rfl, ?_⟩; conv => whnf)
  rw [hs]
  conv => whnf
  repeat (refine ⟨by first | exact True.intro | decide | exact Nat.le_of_ble_eq_true rfl, ?_⟩; conv => whnf)
  refine ⟨by simp; omega, ?_⟩
  conv => whnf
  repeat (refine ⟨by first | exact True.intro | decide | exact Nat.le_of_ble_eq_true rfl, ?_⟩; conv => whnf)
  refine ⟨hs, ?_⟩
  refine ct_loop hs ?_ l _ _ _ (Nat.le_trans (m := 90) (by omega) (by decide))
  intro a b
  conv => whnf
  repeat (refine ⟨by first | exact True.intro | decide | exact Nat.le_of_ble_eq_true rfl, ?_⟩; conv => whnf)
  exact h
/-! ## the case's rows -/
structure Row where
  labs : Option (List (PV × Option Int))
  item : PV
  blks : List PV
noncomputable def Row.pv (r : Row) : PV := .tup [match r.labs with | some l => .tup (l.map (·.1)) | none => .none, r.item]
/-- the labels with the branch that each stands for -/
noncomputable def flat : List Row → List (Option Int × PV)
  | [] => []
  | r :: rs => (match r.labs with | some l => l.map fun p => (p.2, r.item) | none => []) ++ flat rs
noncomputable def dfl (d : PV) : List Row → PV
  | [] => d
  | r :: rs => dfl (match r.labs with | some _ => d | none => r.item) rs
noncomputable def Am (es : List (Txt × PV)) (d : PV) (v : Option Int) : Prop := ∃ m, m ≤ 2 ∧ Ex es m d v
noncomputable def RowOK (es : List (Txt × PV)) (r : Row) : Prop := ∀ l, r.labs = some l → l.length ≤ 2 ∧ ∀ p ∈ l, Am es p.1 p.2
noncomputable def rowP (p : Option Int × PV) : PV := .tup [vv p.1, p.2]
noncomputable abbrev cbO : List CS := forB (nthS b1123S.1 4)
noncomputable abbrev cbI : List CS := forB (nthS cbO 1)
noncomputable abbrev nScope : Txt := [115, 99, 111, 112, 101]
noncomputable abbrev nBranch : Txt := [98, 114, 97, 110, 99, 104]
noncomputable abbrev nConst : Txt := [99, 111, 110, 115, 116, 97, 110, 116, 115]
noncomputable abbrev nRows : Txt := [114, 111, 119, 115]
noncomputable abbrev nLabel : Txt := [108, 97, 98, 101, 108]
noncomputable abbrev nDefault : Txt := [100, 101, 102, 97, 117, 108, 116]
theorem lk_eq (x : Txt) (d : PV) (ρ : Loc) : lk x (stL x d ρ) = some d := by rw [lk_stL, if_pos rfl]
theorem lk_ne {x y : Txt} (h : teq x y = false) (d : PV) (ρ : Loc) : lk x (stL y d ρ) = lk x ρ := by
  rw [lk_stL, if_neg]
  intro e; rw [e, teq_self] at h; cases h
theorem app_step {k : Sto → Prop} {σ : Sto} {j : Nat} {l : List PV} {d : PV} (h : sget σ j = some (.list l)) (hk : ∀ σ', sget σ' j = some (.list (l ++ [d])) → (∀ i, i ≠ j → sget σ' i = sget σ i) → k σ') : k (sset σ j (.list (l ++ [d]))) :=
  hk _ (sget_set_self h) fun _ hi => sget_set_ne hi
theorem pidx_last (l : List PV) (x : PV) : pidx (-Int.ofNat 1) (l ++ [x]).length = some l.length := by
  show pidx (Int.negSucc 0) _ = _
  have : Nat.blt 0 (l.length + 1) = true := by simp [Nat.blt]
  simp [pidx, this]
theorem get_last (l : List PV) (x : PV) : (l ++ [x])[l.length]? = some x := by simp
/-- what the walk over the labels keeps -/
structure CbI (es : List (Txt × PV)) (s t jc jr : Nat) (σ0 : Sto) (ρ : Loc) (σ : Sto) (cs : List (Option Int)) (rs : List (Option Int × PV)) : Prop where
  sc : ScOK σ s t es
  ls : lk nScope ρ = some (.obj s)
  lc : lk nConst ρ = some (.obj jc)
  lr : lk nRows ρ = some (.obj jr)
  hc : sget σ jc = some (.list (cs.map cst))
  hr : sget σ jr = some (.list (rs.map rowP))
  le : Le σ0 σ
theorem cb_inner {jc jr : Nat} {σ0 : Sto} {br : PV} {K : KontS} (hj : jc ≠ jr) (h0 : σ0.length ≤ jc ∧ σ0.length ≤ jr) (hst : s < σ0.length ∧ t < σ0.length) (hn : 16 ≤ n) :
    ∀ (l : List (PV × Option Int)) (q : Nat) (ρ : Loc) (σ : Sto) (cs : List (Option Int)) (rs : List (Option Int × PV)), (∀ p ∈ l, Am es p.1 p.2) → l.length + 60 ≤ q → cs.length + l.length ≤ 50 → rs.length + l.length ≤ 50 → CbI es s t jc jr σ0 ρ σ cs rs → lk nBranch ρ = some br →
      (∀ ρ' σ', CbI es s t jc jr σ0 ρ' σ' (cs ++ l.map (·.2)) (rs ++ l.map fun p => (p.2, br)) → lk nBranch ρ' = some br → (∀ x, teq nLabel x = false → lk x ρ' = lk x ρ) → K .nxt ρ' σ') →
      frC (opsN (tab sc) n) q [nLabel] true cbI none [] (l.map (·.1)) ρ σ K
  | [], q, ρ, σ, cs, rs, hl, hq, hcs, hrs, I, hb, hK => by
    obtain ⟨q, rfl⟩ : ∃ q', q = q' + 41 := ⟨q - 41, by omega⟩
    conv => whnf
    repeat (refine ⟨by first | exact True.intro | decide | exact Nat.le_of_ble_eq_true rfl, ?_⟩; conv => whnf)
    exact hK ρ σ (by simpa using I) hb fun _ _ => rfl
  | (d, v) :: l, q, ρ, σ, cs, rs, hl, hq, hcs, hrs, I, hb, hK => by
    obtain ⟨q, rfl⟩ : ∃ q', q = q' + 41 := ⟨q - 41, by omega⟩
    obtain ⟨m, hm, E⟩ := hl (d, v) (.head _)
    rw [List.length_cons] at hq hcs hrs
    conv => whnf
    repeat (refine ⟨by first | exact True.intro | decide | exact Nat.le_of_ble_eq_true rfl, ?_⟩; conv => whnf)
    have g1 : lk nLabel (stL nLabel d ρ) = some d := lk_eq _ _ _
    have gS : lk nScope (stL nLabel d ρ) = some (.obj s) := (lk_ne rfl _ _).trans I.ls
    have gC : lk nConst (stL nLabel d ρ) = some (.obj jc) := (lk_ne rfl _ _).trans I.lc
    have gR : lk nRows (stL nLabel d ρ) = some (.obj jr) := (lk_ne rfl _ _).trans I.lr
    have gB : lk nBranch (stL nLabel d ρ) = some br := (lk_ne rfl _ _).trans hb
    have gN : ∀ x, teq nLabel x = false → lk x (stL nLabel d ρ) = lk x ρ := fun x hx => lk_ne (by cases q : teq x nLabel with | false => rfl | true => rw [teq_iff.mp q, teq_self] at hx; cases hx) _ _
    change match lk nConst (stL nLabel d ρ) with | some d => _ | none => _
    generalize stL nLabel d ρ = ρ1 at g1 gS gC gR gB gN ⊢
    rw [gC]
    conv => whnf
    repeat (refine ⟨by first | exact True.intro | decide | exact Nat.le_of_ble_eq_true rfl, ?_⟩; conv => whnf)
    rw [mk_lst I.hc rfl]
    conv => whnf
    repeat (refine ⟨by first | exact True.intro | decide | exact Nat.le_of_ble_eq_true rfl, ?_⟩; conv => whnf)
    rw [gS]
    conv => whnf
    repeat (refine ⟨by first | exact True.intro | decide | exact Nat.le_of_ble_eq_true rfl, ?_⟩; conv => whnf)
    rw [g1]
    conv => whnf
    repeat (refine ⟨by first | exact True.intro | decide | exact Nat.le_of_ble_eq_true rfl, ?_⟩; conv => whnf)
    refine c_constant E I.sc (by omega) ?_
    intro σ1 l1
    conv => whnf
    repeat (refine ⟨by first | exact True.intro | decide | exact Nat.le_of_ble_eq_true rfl, ?_⟩; conv => whnf)
    rw [l1 _ _ I.hc]
    conv => whnf
    repeat (refine ⟨by first | exact True.intro | decide | exact Nat.le_of_ble_eq_true rfl, ?_⟩; conv => whnf)
    refine ⟨by simp; omega, ?_⟩
    refine app_step (l1 _ _ I.hc) ?_
    intro σ2 e1 e2
    have hr2 : sget σ2 jr = some (.list (rs.map rowP)) := (e2 jr hj.symm).trans (l1 _ _ I.hr)
    conv => whnf
    repeat (refine ⟨by first | exact True.intro | decide | exact Nat.le_of_ble_eq_true rfl, ?_⟩; conv => whnf)
    rw [gR]
    conv => whnf
    repeat (refine ⟨by first | exact True.intro | decide | exact Nat.le_of_ble_eq_true rfl, ?_⟩; conv => whnf)
    rw [mk_lst hr2 rfl]
    conv => whnf
    repeat (refine ⟨by first | exact True.intro | decide | exact Nat.le_of_ble_eq_true rfl, ?_⟩; conv => whnf)
    rw [gC]
    conv => whnf
    repeat (refine ⟨by first | exact True.intro | decide | exact Nat.le_of_ble_eq_true rfl, ?_⟩; conv => whnf)
    rw [seq_obj e1]
    conv => whnf
    repeat (refine ⟨by first | exact True.intro | decide | exact Nat.le_of_ble_eq_true rfl, ?_⟩; conv => whnf)
    rw [pidx_last]
    conv => whnf
    repeat (refine ⟨by first | exact True.intro | decide | exact Nat.le_of_ble_eq_true rfl, ?_⟩; conv => whnf)
    rw [get_last]
    conv => whnf
    repeat (refine ⟨by first | exact True.intro | decide | exact Nat.le_of_ble_eq_true rfl, ?_⟩; conv => whnf)
    refine ⟨by simp; omega, ?_⟩
    conv => whnf
    repeat (refine ⟨by first | exact True.intro | decide | exact Nat.le_of_ble_eq_true rfl, ?_⟩; conv => whnf)
    rw [gB]
    conv => whnf
    repeat (refine ⟨by first | exact True.intro | decide | exact Nat.le_of_ble_eq_true rfl, ?_⟩; conv => whnf)
    rw [hr2]
    conv => whnf
    repeat (refine ⟨by first | exact True.intro | decide | exact Nat.le_of_ble_eq_true rfl, ?_⟩; conv => whnf)
    refine ⟨by simp; omega, ?_⟩
    refine app_step hr2 ?_
    intro σ3 f1 f2
    have I' : CbI es s t jc jr σ0 ρ1 σ3 (cs ++ [v]) (rs ++ [(v, br)]) := by
      have keep : ∀ i o, i < σ0.length → sget σ i = some o → sget σ3 i = some o := fun i o hi ho => by
        rw [f2 i (by omega), e2 i (by omega)]; exact l1 _ _ ho
      refine ⟨?_, gS, gC, gR, ?_, by simpa [rowP] using f1, fun j o ho => keep j o (sget_lt ho) (I.le j o ho)⟩
      · obtain ⟨⟨fs, a, b, c, c2⟩, d⟩ := I.sc
        exact ⟨⟨fs, keep _ _ hst.1 a, b, c, c2⟩, keep _ _ hst.2 d⟩
      · rw [f2 jc hj, e1]; simp [cst]
    conv => whnf
    repeat (refine ⟨by first | exact True.intro | decide | exact Nat.le_of_ble_eq_true rfl, ?_⟩; conv => whnf)
    refine cb_inner hj h0 hst hn l (q + 40) ρ1 σ3 (cs ++ [v]) (rs ++ [(v, br)]) (fun p hp => hl p (.tail _ hp)) (by omega) (by simp; omega) (by simp; omega) I' gB ?_
    intro ρ' σ' I2 hb2 hg
    exact hK ρ' σ' (by simpa using I2) hb2 fun x hx => (hg x hx).trans (gN x hx)
/-- what the walk over the rows keeps -/
theorem CbI.loc {jc jr : Nat} {σ0 σ : Sto} {ρ ρ' : Loc} {cs : List (Option Int)} {rs : List (Option Int × PV)} (I : CbI es s t jc jr σ0 ρ σ cs rs) (h1 : lk nScope ρ' = lk nScope ρ) (h2 : lk nConst ρ' = lk nConst ρ) (h3 : lk nRows ρ' = lk nRows ρ) : CbI es s t jc jr σ0 ρ' σ cs rs :=
  ⟨I.sc, h1.trans I.ls, h2.trans I.lc, h3.trans I.lr, I.hc, I.hr, I.le⟩
noncomputable abbrev nLabels : Txt := [108, 97, 98, 101, 108, 115]
noncomputable abbrev nSubj : Txt := [115, 117, 98, 106, 101, 99, 116]
theorem cb_outer {jc jr : Nat} {σ0 : Sto} {K : KontS} (hj : jc ≠ jr) (h0 : σ0.length ≤ jc ∧ σ0.length ≤ jr) (hst : s < σ0.length ∧ t < σ0.length) (hn : 16 ≤ n) :
    ∀ (l : List Row) (q : Nat) (ρ : Loc) (σ : Sto) (cs : List (Option Int)) (rs : List (Option Int × PV)) (df sj : PV), (∀ r ∈ l, RowOK es r) → l.length + 100 ≤ q → cs.length + 2 * l.length ≤ 20 → rs.length + 2 * l.length ≤ 20 → CbI es s t jc jr σ0 ρ σ cs rs → lk nDefault ρ = some df → lk nSubj ρ = some sj →
      (∀ ρ' σ', CbI es s t jc jr σ0 ρ' σ' (cs ++ (flat l).map (·.1)) (rs ++ flat l) → lk nDefault ρ' = some (dfl df l) → lk nSubj ρ' = some sj → K .nxt ρ' σ') →
      frC (opsN (tab sc) n) q [nLabels, nBranch] false cbO none [] (l.map Row.pv) ρ σ K
  | [], q, ρ, σ, cs, rs, df, sj, hl, hq, hcs, hrs, I, hd, hs, hK => by
    obtain ⟨q, rfl⟩ : ∃ q', q = q' + 71 := ⟨q - 71, by omega⟩
    conv => whnf
    repeat (refine ⟨by first | exact True.intro | decide | exact Nat.le_of_ble_eq_true rfl, ?_⟩; conv => whnf)
    exact hK ρ σ (by simpa [flat] using I) hd hs
  | ⟨none, item, bl⟩ :: l, q, ρ, σ, cs, rs, df, sj, hl, hq, hcs, hrs, I, hd, hs, hK => by
    obtain ⟨q, rfl⟩ : ∃ q', q = q' + 71 := ⟨q - 71, by omega⟩
    rw [List.length_cons] at hq hcs hrs
    conv => whnf
    repeat (refine ⟨by first | exact True.intro | decide | exact Nat.le_of_ble_eq_true rfl, ?_⟩; conv => whnf)
    change match lk nLabels (stL nBranch item (stL nLabels .none ρ)) with | some d => _ | none => _
    have g1 : lk nLabels (stL nBranch item (stL nLabels .none ρ)) = some .none := (lk_ne rfl _ _).trans (lk_eq _ _ _)
    have gB : lk nBranch (stL nBranch item (stL nLabels .none ρ)) = some item := lk_eq _ _ _
    have gN : ∀ x, teq x nBranch = false → teq x nLabels = false → lk x (stL nBranch item (stL nLabels .none ρ)) = lk x ρ := fun x h1 h2 => (lk_ne h1 _ _).trans (lk_ne h2 _ _)
    generalize stL nBranch item (stL nLabels .none ρ) = ρ1 at g1 gB gN ⊢
    rw [g1]
    conv => whnf
    repeat (refine ⟨by first | exact True.intro | decide | exact Nat.le_of_ble_eq_true rfl, ?_⟩; conv => whnf)
    rw [gB]
    conv => whnf
    repeat (refine ⟨by first | exact True.intro | decide | exact Nat.le_of_ble_eq_true rfl, ?_⟩; conv => whnf)
    have I' : CbI es s t jc jr σ0 (stL nDefault item ρ1) σ cs rs := I.loc ((lk_ne rfl _ _).trans (gN _ rfl rfl)) ((lk_ne rfl _ _).trans (gN _ rfl rfl)) ((lk_ne rfl _ _).trans (gN _ rfl rfl))
    refine cb_outer hj h0 hst hn l (q + 70) (stL nDefault item ρ1) σ cs rs item sj (fun r hr => hl r (.tail _ hr)) (by omega) (by omega) (by omega) I' (lk_eq _ _ _) ((lk_ne rfl _ _).trans ((gN _ rfl rfl).trans hs)) ?_
    intro ρ' σ' I2 hd2 hs2
    exact hK ρ' σ' I2 hd2 hs2
  | ⟨some ls, item, bl⟩ :: l, q, ρ, σ, cs, rs, df, sj, hl, hq, hcs, hrs, I, hd, hs, hK => by
    obtain ⟨q, rfl⟩ : ∃ q', q = q' + 71 := ⟨q - 71, by omega⟩
    obtain ⟨hls, hlx⟩ := hl _ (.head _) ls rfl
    rw [List.length_cons] at hq hcs hrs
    conv => whnf
    repeat (refine ⟨by first | exact True.intro | decide | exact Nat.le_of_ble_eq_true rfl, ?_⟩; conv => whnf)
    change match lk nLabels (stL nBranch item (stL nLabels (.tup (ls.map (·.1))) ρ)) with | some d => _ | none => _
    have g1 : lk nLabels (stL nBranch item (stL nLabels (.tup (ls.map (·.1))) ρ)) = some (.tup (ls.map (·.1))) := (lk_ne rfl _ _).trans (lk_eq _ _ _)
    have gB : lk nBranch (stL nBranch item (stL nLabels (.tup (ls.map (·.1))) ρ)) = some item := lk_eq _ _ _
    have gN : ∀ x, teq x nBranch = false → teq x nLabels = false → lk x (stL nBranch item (stL nLabels (.tup (ls.map (·.1))) ρ)) = lk x ρ := fun x h1 h2 => (lk_ne h1 _ _).trans (lk_ne h2 _ _)
    generalize stL nBranch item (stL nLabels (.tup (ls.map (·.1))) ρ) = ρ1 at g1 gB gN ⊢
    rw [g1]
    conv => whnf
    repeat (refine ⟨by first | exact True.intro | decide | exact Nat.le_of_ble_eq_true rfl, ?_⟩; conv => whnf)
    rw [g1]
    conv => whnf
    repeat (refine ⟨by first | exact True.intro | decide | exact Nat.le_of_ble_eq_true rfl, ?_⟩; conv => whnf)
    refine ⟨by simp; omega, ?_⟩
    have I' : CbI es s t jc jr σ0 ρ1 σ cs rs := I.loc (gN _ rfl rfl) (gN _ rfl rfl) (gN _ rfl rfl)
    refine cb_inner hj h0 hst hn ls (q + 67) ρ1 σ cs rs hlx (by omega) (by omega) (by omega) I' gB ?_
    intro ρ2 σ2 I2 hb2 hg2
    conv => whnf
    repeat (refine ⟨by first | exact True.intro | decide | exact Nat.le_of_ble_eq_true rfl, ?_⟩; conv => whnf)
    refine cb_outer hj h0 hst hn l (q + 70) ρ2 σ2 _ _ df sj (fun r hr => hl r (.tail _ hr)) (by omega) (by simp; omega) (by simp; omega) I2 ((hg2 _ rfl).trans ((gN _ rfl rfl).trans hd)) ((hg2 _ rfl).trans ((gN _ rfl rfl).trans hs)) ?_
    intro ρ' σ' I3 hd3 hs3
    refine hK ρ' σ' ?_ hd3 hs3
    have e1 : cs ++ ls.map (·.2) ++ (flat l).map (·.1) = cs ++ (flat (⟨some ls, item, bl⟩ :: l)).map (·.1) := by simp [flat, Function.comp_def]
    have e2 : rs ++ (ls.map fun p => (p.2, item)) ++ flat l = rs ++ flat (⟨some ls, item, bl⟩ :: l) := by simp [flat]
    rw [← e1, ← e2]; exact I3
theorem vv_inj {a b : Option Int} (ha : Sm a) (hb : Sm b) : (vA a = vA b ∧ vB a = vB b) ↔ a = b := by
  cases a with
  | none => cases b with
    | none => simp
    | some y => simp [vA, vB]
  | some x => cases b with
    | none => simp [vA, vB]
    | some y =>
      have := ha x rfl
      have := hb y rfl
      simp [vA, vB]; omega
theorem eqv_vv {a b : Option Int} (ha : Sm a) (hb : Sm b) : PyData.eqv (.tuple [.int 32, .int (vA a), .int (vB a)]) (.tuple [.int 32, .int (vA b), .int (vB b)]) = decide (a = b) := by
  have := vv_inj ha hb
  simp [PyData.eqv, PyData.eqvAll, ← this]
  rw [Bool.eq_iff_iff]; simp
theorem shaped_vv (a : Option Int) : SeqAt.shaped (.tuple [.int 32, .int (vA a), .int (vB a)]) = true := by
  simp [SeqAt.shaped, PyData.canLay0, PyData.canLayAll0, PyData.depth, PyData.depthAll]
noncomputable def hit (f : Option Int) : List (Option Int × PV) → Option PV
  | [] => none
  | p :: l => if p.1 = f then some p.2 else hit f l
noncomputable abbrev cbF : List CS := forB (nthS b1123S.1 7)
noncomputable abbrev nVec : Txt := [118, 101, 99]
noncomputable abbrev nWidth : Txt := [119, 105, 100, 116, 104]
noncomputable abbrev nSigned : Txt := [115, 105, 103, 110, 101, 100]
noncomputable abbrev nValue : Txt := [118, 97, 108, 117, 101]
theorem fin_loop {jr : Nat} {all : List PV} {f : Option Int} {df : PV} {K : KontS} (hs : sget σ jr = some (.list all)) (hf : Sm f) (hn : 16 ≤ n) :
    ∀ (l : List (Option Int × PV)) (q : Nat) (ρ : Loc), (∀ p ∈ l, Sm p.1) → l.length + 50 ≤ q → lk nWidth ρ = some (.int 32) → lk nSigned ρ = some (.bool true) → lk nValue ρ = some (vv f) → lk nDefault ρ = some df →
      (∀ ρ' b, hit f l = some b → K (.ret b) ρ' σ) → (∀ ρ', hit f l = none → lk nDefault ρ' = some df → K .nxt ρ' σ) →
      frC (opsN (tab sc) n) q [nVec, nBranch] false cbF (some jr) all (l.map rowP) ρ σ K
  | [], q, ρ, hl, hq, h1, h2, h3, h4, k1, k2 => by
    obtain ⟨q, rfl⟩ : ∃ q', q = q' + 41 := ⟨q - 41, by omega⟩
    conv => whnf
    repeat (refine ⟨by first | exact True.intro | decide | exact Nat.le_of_ble_eq_true rfl, ?_⟩; conv => whnf)
    exact k2 ρ rfl h4
  | (v, b) :: l, q, ρ, hl, hq, h1, h2, h3, h4, k1, k2 => by
    obtain ⟨q, rfl⟩ : ∃ q', q = q' + 41 := ⟨q - 41, by omega⟩
    rw [List.length_cons] at hq
    have hv : Sm v := hl (v, b) (.head _)
    conv => whnf
    repeat (refine ⟨by first | exact True.intro | decide | exact Nat.le_of_ble_eq_true rfl, ?_⟩; conv => whnf)
    change match lk nVec (stL nBranch b (stL nVec (vv v) ρ)) with | some d => _ | none => _
    have g1 : lk nVec (stL nBranch b (stL nVec (vv v) ρ)) = some (vv v) := (lk_ne rfl _ _).trans (lk_eq _ _ _)
    have gB : lk nBranch (stL nBranch b (stL nVec (vv v) ρ)) = some b := lk_eq _ _ _
    have gW : lk nWidth (stL nBranch b (stL nVec (vv v) ρ)) = some (.int 32) := (lk_ne rfl _ _).trans ((lk_ne rfl _ _).trans h1)
    have gS : lk nSigned (stL nBranch b (stL nVec (vv v) ρ)) = some (.bool true) := (lk_ne rfl _ _).trans ((lk_ne rfl _ _).trans h2)
    have gV : lk nValue (stL nBranch b (stL nVec (vv v) ρ)) = some (vv f) := (lk_ne rfl _ _).trans ((lk_ne rfl _ _).trans h3)
    have gD : lk nDefault (stL nBranch b (stL nVec (vv v) ρ)) = some df := (lk_ne rfl _ _).trans ((lk_ne rfl _ _).trans h4)
    generalize stL nBranch b (stL nVec (vv v) ρ) = ρ1 at g1 gB gW gS gV gD ⊢
    rw [g1]
    conv => whnf
    repeat (refine ⟨by first | exact True.intro | decide | exact Nat.le_of_ble_eq_true rfl, ?_⟩; conv => whnf)
    rw [gW]
    conv => whnf
    repeat (refine ⟨by first | exact True.intro | decide | exact Nat.le_of_ble_eq_true rfl, ?_⟩; conv => whnf)
    rw [gS]
    conv => whnf
    repeat (refine ⟨by first | exact True.intro | decide | exact Nat.le_of_ble_eq_true rfl, ?_⟩; conv => whnf)
    refine c_extend (by omega) ?_
    conv => whnf
    repeat (refine ⟨by first | exact True.intro | decide | exact Nat.le_of_ble_eq_true rfl, ?_⟩; conv => whnf)
    rw [gV]
    conv => whnf
    repeat (refine ⟨by first | exact True.intro | decide | exact Nat.le_of_ble_eq_true rfl, ?_⟩; conv => whnf)
    refine ⟨shaped_vv _, shaped_vv _, ?_⟩
    dsimp only
    rw [eqv_vv hv hf]
    conv => whnf
    repeat (refine ⟨by first | exact True.intro | decide | exact Nat.le_of_ble_eq_true rfl, ?_⟩; conv => whnf)
    split
    · rename_i q1
      have q1' : v = f := of_decide_eq_true q1
      conv => whnf
      repeat (refine ⟨by first | exact True.intro | decide | exact Nat.le_of_ble_eq_true rfl, ?_⟩; conv => whnf)
      rw [gB]
      conv => whnf
      repeat (refine ⟨by first | exact True.intro | decide | exact Nat.le_of_ble_eq_true rfl, ?_⟩; conv => whnf)
      exact k1 ρ1 b (by simp [hit, q1'])
    · rename_i q1
      have q1' : ¬ v = f := of_decide_eq_false q1
      conv => whnf
      repeat (refine ⟨by first | exact True.intro | decide | exact Nat.le_of_ble_eq_true rfl, ?_⟩; conv => whnf)
      refine ⟨hs, ?_⟩
      refine fin_loop hs hf hn l (q + 40) ρ1 (fun p hp => hl p (.tail _ hp)) (by omega) gW gS gV gD ?_ ?_
      · intro ρ' b' hb'
        exact k1 ρ' b' (by simp [hit, q1', hb'])
      · intro ρ' hb' hd'
        exact k2 ρ' (by simp [hit, q1', hb']) hd'
end
section
set_option linter.unusedSimpArgs false
variable {sc : Option (Addr × List PV)} {n : Nat} {σ : Sto} {k : Kont} {s t : Nat} {es : List (Txt × PV)}
noncomputable def pick (f : Option Int) (l : List Row) : PV := match hit f (flat l) with | some b => b | none => dfl .none l
theorem c_case {a b : PV} {d : PV} {f : Option Int} {l : List Row} (E : Am es d f) (hl : ∀ r ∈ l, RowOK es r) (hz : l.length ≤ 4) (H : ScOK σ s t es) (hn : 18 ≤ n) (h : ∀ σ', Le σ σ' → k (pick f l) σ') :
    CLn (tab sc) n 1123 [.obj s, .tup [a, b, d, .tup (l.map Row.pv)]] σ k := by
  obtain ⟨m, hm, E⟩ := E
  obtain ⟨n, rfl, hq⟩ := pred hn
  replace hn := hq
  clear hq
  refine CLn_fn rfl rfl ?_
  conv => whnf
  repeat (refine ⟨by first | exact True.intro | decide | exact Nat.le_of_ble_eq_true rfl, ?_⟩; conv => whnf)
  refine c_constant E H (by omega) ?_
  intro σ1 l1
  conv => whnf
  repeat (refine ⟨by first | exact True.intro | decide | exact Nat.le_of_ble_eq_true rfl, ?_⟩; conv => whnf)
  refine ⟨by simp; omega, ?_⟩
  have hlen : (flat l).length ≤ 2 * l.length := by
    clear hz h
    induction l with
    | nil => simp [flat]
    | cons r l ih =>
      have := ih fun r hr => hl r (.tail _ hr)
      cases hr : r.labs with
      | none => simp [flat, hr]; omega
      | some ls =>
        have := (hl r (.head _) ls hr).1
        simp [flat, hr]; omega
  have hsm : ∀ p ∈ flat l, Sm p.1 := by
    clear hz h hlen
    induction l with
    | nil => simp [flat]
    | cons r l ih =>
      intro p hp
      cases hr : r.labs with
      | none =>
        simp only [flat, hr, List.nil_append] at hp
        exact ih (fun r hr => hl r (.tail _ hr)) p hp
      | some ls =>
        simp only [flat, hr, List.mem_append, List.mem_map] at hp
        rcases hp with ⟨q, hq, rfl⟩ | hp
        · obtain ⟨_, _, E⟩ := (hl r (.head _) ls hr).2 q hq
          exact E.small
        · exact ih (fun r hr => hl r (.tail _ hr)) p hp
  refine cb_outer (σ0 := σ1) (jc := (σ1 ++ [PO.list []]).length) (jr := σ1.length) (cs := [f]) (rs := []) (df := .none) (sj := cst f) (by simp) (by simp) ⟨sget_lt (l1 _ _ H.1.choose_spec.1), sget_lt (l1 _ _ H.2)⟩ (by omega) l _ _ _ hl (Nat.le_trans (m := 110) (by omega) (by decide)) (by simp; omega) (by simp; omega) ?_ rfl rfl ?_
  · refine ⟨(H.le l1).le ((Le.app _ _).trans (Le.app _ _)), rfl, rfl, rfl, ?_, ?_, (Le.app _ _).trans (Le.app _ _)⟩
    · rw [sgetA0]; rfl
    · exact sget_app _ (by rw [sgetA0]; rfl)
  intro ρ' σ' I2 hd2 hs2
  have l2 : Le σ σ' := l1.trans I2.le
  conv => whnf
  repeat (refine ⟨by first | exact True.intro | decide | exact Nat.le_of_ble_eq_true rfl, ?_⟩; conv => whnf)
  rw [I2.lc]
  conv => whnf
  repeat (refine ⟨by first | exact True.intro | decide | exact Nat.le_of_ble_eq_true rfl, ?_⟩; conv => whnf)
  have hc2 : sget σ' (σ1 ++ [PO.list []]).length = some (.list ((f :: (flat l).map Prod.fst).map cst)) := I2.hc
  refine c_common_type hc2 (by simp; omega) (by omega) ?_
  conv => whnf
  repeat (refine ⟨by first | exact True.intro | decide | exact Nat.le_of_ble_eq_true rfl, ?_⟩; conv => whnf)
  rw [lk_ne (x := nSubj) (y := nSigned) rfl, lk_ne (x := nSubj) (y := nWidth) rfl, hs2]
  conv => whnf
  repeat (refine ⟨by first | exact True.intro | decide | exact Nat.le_of_ble_eq_true rfl, ?_⟩; conv => whnf)
  rw [lk_ne (x := nWidth) (y := nSigned) rfl, lk_eq]
  conv => whnf
  repeat (refine ⟨by first | exact True.intro | decide | exact Nat.le_of_ble_eq_true rfl, ?_⟩; conv => whnf)
  rw [lk_eq]
  conv => whnf
  repeat (refine ⟨by first | exact True.intro | decide | exact Nat.le_of_ble_eq_true rfl, ?_⟩; conv => whnf)
  refine c_extend (by omega) ?_
  conv => whnf
  repeat (refine ⟨by first | exact True.intro | decide | exact Nat.le_of_ble_eq_true rfl, ?_⟩; conv => whnf)
  have gW : lk nWidth (stL nValue (vv f) (stL nSigned (.bool true) (stL nWidth (.int 32) ρ'))) = some (.int 32) := (lk_ne rfl _ _).trans ((lk_ne rfl _ _).trans (lk_eq _ _ _))
  have gS : lk nSigned (stL nValue (vv f) (stL nSigned (.bool true) (stL nWidth (.int 32) ρ'))) = some (.bool true) := (lk_ne rfl _ _).trans (lk_eq _ _ _)
  have gV : lk nValue (stL nValue (vv f) (stL nSigned (.bool true) (stL nWidth (.int 32) ρ'))) = some (vv f) := lk_eq _ _ _
  have gN : ∀ x, teq x nValue = false → teq x nSigned = false → teq x nWidth = false → lk x (stL nValue (vv f) (stL nSigned (.bool true) (stL nWidth (.int 32) ρ'))) = lk x ρ' := fun x h1 h2 h3 => (lk_ne h1 _ _).trans ((lk_ne h2 _ _).trans (lk_ne h3 _ _))
  have gR := (gN nRows rfl rfl rfl).trans I2.lr
  have gD := (gN nDefault rfl rfl rfl).trans hd2
  change match lk nRows (stL nValue (vv f) (stL nSigned (.bool true) (stL nWidth (.int 32) ρ'))) with | some d => _ | none => _
  generalize stL nValue (vv f) (stL nSigned (.bool true) (stL nWidth (.int 32) ρ')) = ρ3 at gW gS gV gR gD ⊢
  rw [gR]
  conv => whnf
  repeat (refine ⟨by first | exact True.intro | decide | exact Nat.le_of_ble_eq_true rfl, ?_⟩; conv => whnf)
  rw [I2.hr]
  conv => whnf
  repeat (refine ⟨by first | exact True.intro | decide | exact Nat.le_of_ble_eq_true rfl, ?_⟩; conv => whnf)
  refine ⟨by simp; omega, ?_⟩
  refine fin_loop (f := f) (df := dfl .none l) I2.hr E.small (by omega) (flat l) _ ρ3 hsm (Nat.le_trans (m := 110) (by omega) (by decide)) gW gS gV gD ?_ ?_
  · intro ρ4 b' hb'
    conv => whnf
    repeat (refine ⟨by first | exact True.intro | decide | exact Nat.le_of_ble_eq_true rfl, ?_⟩; conv => whnf)
    have : pick f l = b' := by simp [pick, hb']
    rw [← this]
    exact h _ l2
  · intro ρ4 hb' hd4
    conv => whnf
    repeat (refine ⟨by first | exact True.intro | decide | exact Nat.le_of_ble_eq_true rfl, ?_⟩; conv => whnf)
    rw [hd4]
    conv => whnf
    repeat (refine ⟨by first | exact True.intro | decide | exact Nat.le_of_ble_eq_true rfl, ?_⟩; conv => whnf)
    have : pick f l = dfl .none l := by simp [pick, hb']
    rw [← this]
    exact h _ l2
end
section
set_option linter.unusedSimpArgs false
variable {sc : Option (Addr × List PV)} {n : Nat} {σ : Sto} {k : Kont} {s t : Nat} {es : List (Txt × PV)} {num : Int}
noncomputable def hits (f : Option Int) (r : Row) : Bool := match r.labs with | some l => l.any fun p => decide (p.2 = f) | none => false
noncomputable def ups (r : Row) (d : Option Row) : Option Row := match r.labs with | some _ => d | none => some r
noncomputable def hitR (f : Option Int) : List Row → Option Row
  | [] => none
  | r :: rs => if hits f r = true then some r else hitR f rs
noncomputable def dflR (d : Option Row) : List Row → Option Row
  | [] => d
  | r :: rs => dflR (ups r d) rs
noncomputable def pickR (f : Option Int) (l : List Row) : Option Row := match hitR f l with | some r => some r | none => dflR none l
noncomputable def itemOf : Option Row → PV
  | some r => r.item
  | none => .none
noncomputable def blksOf : Option Row → List PV
  | some r => r.blks
  | none => []
theorem hit_app (f : Option Int) : ∀ (a b : List (Option Int × PV)), hit f (a ++ b) = match hit f a with | some x => some x | none => hit f b
  | [], b => rfl
  | p :: a, b => by
    simp only [List.cons_append, hit]
    split
    · rfl
    · exact hit_app f a b
theorem hit_map (f : Option Int) (it : PV) : ∀ l : List (PV × Option Int), hit f (l.map fun p => (p.2, it)) = if (l.any fun p => decide (p.2 = f)) = true then some it else none
  | [] => rfl
  | p :: l => by
    simp only [List.map_cons, hit, List.any_cons]
    by_cases h : p.2 = f
    · simp [h]
    · simp only [h, if_false, decide_false, Bool.false_or]
      exact hit_map f it l
theorem hit_flat (f : Option Int) : ∀ l : List Row, hit f (flat l) = (hitR f l).map (·.item)
  | [] => rfl
  | r :: l => by
    unfold flat hitR hits
    rw [hit_app, hit_flat f l]
    cases r.labs with
    | none => simp [hit]
    | some ls =>
      simp only [hit_map]
      split <;> simp_all
theorem dfl_eq : ∀ (l : List Row) (d : Option Row), dfl (itemOf d) l = itemOf (dflR d l)
  | [], _ => rfl
  | r :: l, d => by
    unfold dfl dflR ups
    cases r.labs with
    | none => exact dfl_eq l (some r)
    | some _ => exact dfl_eq l d
theorem pick_eq (f : Option Int) (l : List Row) : pick f l = itemOf (pickR f l) := by
  unfold pick pickR
  rw [hit_flat]
  cases hitR f l with
  | none => exact dfl_eq l none
  | some r => rfl
theorem hitR_mem {f : Option Int} {r : Row} : ∀ {l : List Row}, hitR f l = some r → r ∈ l
  | [], h => by cases h
  | x :: l, h => by
    unfold hitR at h
    by_cases q : hits f x = true
    · rw [if_pos q] at h; cases h; exact .head _
    · rw [if_neg q] at h; exact .tail _ (hitR_mem h)
theorem dflR_mem {r : Row} : ∀ {l : List Row} {d : Option Row}, dflR d l = some r → r ∈ l ∨ d = some r
  | [], d, h => .inr h
  | x :: l, d, h => by
    unfold dflR ups at h
    cases hx : x.labs with
    | none =>
      rw [hx] at h
      rcases dflR_mem h with h | h
      · exact .inl (.tail _ h)
      · cases h; exact .inl (.head _)
    | some _ =>
      rw [hx] at h
      rcases dflR_mem h with h | h
      · exact .inl (.tail _ h)
      · exact .inr h
theorem pickR_mem {f : Option Int} {l : List Row} {r : Row} (h : pickR f l = some r) : r ∈ l := by
  unfold pickR at h
  split at h
  · rename_i q; cases h; exact hitR_mem q
  · rcases dflR_mem h with h | h
    · exact h
    · cases h
noncomputable def tBlock : Txt := [103, 101, 110, 98, 108, 111, 99, 107]
noncomputable def tInitial : Txt := [105, 110, 105, 116, 105, 97, 108]
noncomputable def tIf : Txt := [103, 101, 110, 105, 102]
noncomputable def tCase : Txt := [103, 101, 110, 99, 97, 115, 101]
noncomputable def row (l : Txt) (names items : List PV) : PV := .tup [.str l, .tup names, .tup items]
/-- a block's items -/
noncomputable def ItemsOK (l : List PV) : Prop := l.length ≤ 1000 ∧ ∀ x ∈ l, ∃ i : Int, x = .tup [.str tInitial, .int i, .none]
/-- a generate construct, and the blocks that are due of it -/
inductive Br (es : List (Txt × PV)) (num : Int) : Nat → PV → List PV → Prop
  | none {m : Nat} : Br es num m .none []
  | blk {m : Nat} {l : PV} {items : List PV} : LabOK l → ItemsOK items → Br es num m (.tup [.str tBlock, .int 0, l, .tup items]) [row (labT num l) [] items]
  | one {m : Nat} {x : Int} : Br es num m (.tup [.str tInitial, .int x, .none]) [row (labT num .none) [] [.tup [.str tInitial, .int x, .none]]]
  | ife {m : Nat} {o : Op} {d1 d2 : PV} {u v : Option Int} {one two : PV} {b1 b2 : List PV} : Am es d1 u → Am es d2 v → Br es num m one b1 → Br es num m two b2 →
      Br es num (m + 1) (.tup [.str tIf, .int 0, binE o.s d1 d2, one, two]) (if cmpO o.f u v = some true then b1 else b2)
  | cas {m : Nat} {d : PV} {f : Option Int} {rows : List Row} : Am es d f → rows.length ≤ 4 → (∀ r ∈ rows, RowOK es r) → (∀ r ∈ rows, Br es num m r.item r.blks) →
      Br es num (m + 1) (.tup [.str tCase, .int 0, d, .tup (rows.map Row.pv)]) (blksOf (pickR f rows))
noncomputable def IsCh (item : PV) : Prop := (∃ a b c d, item = .tup [.str tIf, a, b, c, d]) ∨ ∃ a b c, item = .tup [.str tCase, a, b, c]
noncomputable def BrC (sc : Option (Addr × List PV)) (s t : Nat) (es : List (Txt × PV)) (num : Int) (n : Nat) (item : PV) (b : List PV) : Prop := ∀ (σ : Sto) (k : Kont), ScOK σ s t es → (∀ j σ', Le σ σ' → sget σ' j = some (.list b) → k (.obj j) σ') → CLn (tab sc) n 1109 [.obj s, item, .int num] σ k
theorem c_gen {m : Nat} {item : PV} {b : List PV} (h1 : -200 ≤ num ∧ num ≤ 200) (B : Br es num (m + 1) item b) (hk : IsCh item) (hn : 20 ≤ n) (ih : ∀ item b, Br es num m item b → BrC sc s t es num n item b) (H : ScOK σ s t es)
    (h : ∀ j σ', Le σ σ' → sget σ' j = some (.list b) → k (.obj j) σ') : CLn (tab sc) (n + 1) 1145 [.obj s, item, .int num] σ k := by
  cases B with
  | none => rcases hk with ⟨_, _, _, _, e⟩ | ⟨_, _, _, e⟩ <;> cases e
  | blk => rcases hk with ⟨_, _, _, _, e⟩ | ⟨_, _, _, e⟩ <;> cases e
  | one => rcases hk with ⟨_, _, _, _, e⟩ | ⟨_, _, _, e⟩ <;> cases e
  | @ife _ o d1 d2 u v one two b1 b2 E1 E2 B1 B2 =>
    obtain ⟨m1, hm1, E1⟩ := E1
    obtain ⟨m2, hm2, E2⟩ := E2
    refine CLn_fn rfl rfl ?_
    conv => whnf
    repeat (refine ⟨by first | exact True.intro | decide | exact Nat.le_of_ble_eq_true rfl, ?_⟩; conv => whnf)
    refine c_test (m := 2) E1 E2 hm1 hm2 H (by omega) ?_
    intro σ1 l1
    conv => whnf
    repeat (refine ⟨by first | exact True.intro | decide | exact Nat.le_of_ble_eq_true rfl, ?_⟩; conv => whnf)
    refine c_truth (by omega) ?_
    conv => whnf
    repeat (refine ⟨by first | exact True.intro | decide | exact Nat.le_of_ble_eq_true rfl, ?_⟩; conv => whnf)
    generalize cmpO o.f u v = q at h
    cases q with
    | none =>
      conv => whnf
      repeat (refine ⟨by first | exact True.intro | decide | exact Nat.le_of_ble_eq_true rfl, ?_⟩; conv => whnf)
      refine ih _ _ B2 _ _ (H.le l1) ?_
      intro j σ2 l2 hj
      conv => whnf
      repeat (refine ⟨by first | exact True.intro | decide | exact Nat.le_of_ble_eq_true rfl, ?_⟩; conv => whnf)
      exact h _ _ (l1.trans l2) hj
    | some q =>
      cases q with
      | true =>
        conv => whnf
        repeat (refine ⟨by first | exact True.intro | decide | exact Nat.le_of_ble_eq_true rfl, ?_⟩; conv => whnf)
        refine ih _ _ B1 _ _ (H.le l1) ?_
        intro j σ2 l2 hj
        conv => whnf
        repeat (refine ⟨by first | exact True.intro | decide | exact Nat.le_of_ble_eq_true rfl, ?_⟩; conv => whnf)
        exact h _ _ (l1.trans l2) hj
      | false =>
        conv => whnf
        repeat (refine ⟨by first | exact True.intro | decide | exact Nat.le_of_ble_eq_true rfl, ?_⟩; conv => whnf)
        refine ih _ _ B2 _ _ (H.le l1) ?_
        intro j σ2 l2 hj
        conv => whnf
        repeat (refine ⟨by first | exact True.intro | decide | exact Nat.le_of_ble_eq_true rfl, ?_⟩; conv => whnf)
        exact h _ _ (l1.trans l2) hj
  | @cas _ d f rows E hz hr B =>
    refine CLn_fn rfl rfl ?_
    conv => whnf
    repeat (refine ⟨by first | exact True.intro | decide | exact Nat.le_of_ble_eq_true rfl, ?_⟩; conv => whnf)
    refine c_case E hr hz H (by omega) ?_
    intro σ1 l1
    conv => whnf
    repeat (refine ⟨by first | exact True.intro | decide | exact Nat.le_of_ble_eq_true rfl, ?_⟩; conv => whnf)
    rw [pick_eq]
    refine ih _ (blksOf (pickR f rows)) ?_ _ _ (H.le l1) ?_
    · cases hp : pickR f rows with
      | none => exact .none
      | some r => exact B r (pickR_mem hp)
    intro j σ2 l2 hj
    conv => whnf
    repeat (refine ⟨by first | exact True.intro | decide | exact Nat.le_of_ble_eq_true rfl, ?_⟩; conv => whnf)
    exact h _ _ (l1.trans l2) hj
theorem c_br0 (h1 : -200 ≤ num ∧ num ≤ 200) {m : Nat} {item : PV} {b : List PV} (B : Br es num m item b) (hk : ¬ IsCh item) (hn : 2 ≤ n) : BrC sc s t es num n item b := by
  intro σ k H h
  cases B with
  | none =>
    obtain ⟨n, rfl, hq⟩ := pred hn
    replace hn := hq
    clear hq
    conv => whnf
    repeat (refine ⟨by first | exact True.intro | decide | exact Nat.le_of_ble_eq_true rfl, ?_⟩; conv => whnf)
    refine h _ _ (Le.app _ _) ?_
    rw [sgetA0]; rfl
  | blk hl =>
    obtain ⟨n, rfl, hq⟩ := pred hn
    replace hn := hq
    clear hq
    conv => whnf
    repeat (refine ⟨by first | exact True.intro | decide | exact Nat.le_of_ble_eq_true rfl, ?_⟩; conv => whnf)
    refine c_block_label hl h1 (by omega) ?_
    conv => whnf
    repeat (refine ⟨by first | exact True.intro | decide | exact Nat.le_of_ble_eq_true rfl, ?_⟩; conv => whnf)
    refine h _ _ (Le.app _ _) ?_
    rw [sgetA0]; rfl
  | one =>
    obtain ⟨n, rfl, hq⟩ := pred hn
    replace hn := hq
    clear hq
    conv => whnf
    repeat (refine ⟨by first | exact True.intro | decide | exact Nat.le_of_ble_eq_true rfl, ?_⟩; conv => whnf)
    refine ⟨by show num.natAbs < 2 ^ 64; omega, ?_⟩
    conv => whnf
    repeat (refine ⟨by first | exact True.intro | decide | exact Nat.le_of_ble_eq_true rfl, ?_⟩; conv => whnf)
    have := nT_len num h1
    refine ⟨by rw [List.length_append]; show 6 + (nT num).length ≤ 1000; omega, ?_⟩
    conv => whnf
    repeat (refine ⟨by first | exact True.intro | decide | exact Nat.le_of_ble_eq_true rfl, ?_⟩; conv => whnf)
    refine h _ _ (Le.app _ _) ?_
    rw [sgetA0]; rfl
  | ife => exact absurd (.inl ⟨_, _, _, _, rfl⟩) hk
  | cas => exact absurd (.inr ⟨_, _, _, rfl⟩) hk
theorem c_br (h1 : -200 ≤ num ∧ num ≤ 200) : ∀ (m n : Nat) (item : PV) (b : List PV), Br es num m item b → 2 * m + 22 ≤ n → BrC sc s t es num n item b := by
  intro m
  induction m with
  | zero =>
    intro n item b B hn
    exact c_br0 h1 B (by rintro (⟨_, _, _, _, rfl⟩ | ⟨_, _, _, rfl⟩) <;> cases B) (by omega)
  | succ m ih =>
    intro n item b B hn
    by_cases hk : IsCh item
    · intro σ k H h
      obtain ⟨n, rfl, hn1⟩ := pred (show (2 * m + 23) + 1 ≤ n by omega)
      obtain ⟨n, rfl, hn2⟩ := pred (show (2 * m + 22) + 1 ≤ n by omega)
      have g := fun {σ : Sto} {k : Kont} => c_gen (sc := sc) (σ := σ) (k := k) h1 B hk (show 20 ≤ n by omega) (fun item b B => ih n item b B hn2)
      have e : ∀ K : Kont, (∀ j σ', Le σ σ' → sget σ' j = some (.list b) → K (.obj j) σ') → CLn (tab sc) (n + 1) 1145 [.obj s, item, .int num] σ K := fun K hK => g H hK
      clear g
      generalize n + 1 = n' at e ⊢
      rcases hk with ⟨_, _, _, _, rfl⟩ | ⟨_, _, _, rfl⟩
      · refine CLn_fn rfl rfl ?_
        conv => whnf
        repeat (refine ⟨by first | exact True.intro | decide | exact Nat.le_of_ble_eq_true rfl, ?_⟩; conv => whnf)
        refine e _ ?_
        intro j σ' l hj
        conv => whnf
        repeat (refine ⟨by first | exact True.intro | decide | exact Nat.le_of_ble_eq_true rfl, ?_⟩; conv => whnf)
        exact h _ _ l hj
      · refine CLn_fn rfl rfl ?_
        conv => whnf
        repeat (refine ⟨by first | exact True.intro | decide | exact Nat.le_of_ble_eq_true rfl, ?_⟩; conv => whnf)
        refine e _ ?_
        intro j σ' l hj
        conv => whnf
        repeat (refine ⟨by first | exact True.intro | decide | exact Nat.le_of_ble_eq_true rfl, ?_⟩; conv => whnf)
        exact h _ _ l hj
    · exact c_br0 h1 B hk (by omega)
end
section
set_option linter.unusedSimpArgs false
variable {sc : Option (Addr × List PV)} {n : Nat} {σ : Sto} {k : Kont} {s t : Nat} {es : List (Txt × PV)} {num : Int}
theorem stL_stL (x : Txt) (d e : PV) (r : Loc) : stL x d (stL x e r) = stL x d r := by
  induction r with
  | nil => show stL x d [(x, e)] = _; rw [stL_cons, if_pos rfl]; rfl
  | cons p r ih =>
    obtain ⟨y, f⟩ := p
    rw [stL_cons x y e, stL_cons x y d]
    by_cases q : x = y
    · rw [if_pos q, if_pos q, stL_cons, if_pos q]
    · rw [if_neg q, if_neg q, stL_cons, if_neg q, ih]
theorem stL_back (x : Txt) (d e : PV) (r : Loc) (h : lk x r = some d) : stL x d (stL x e r) = r := by
  induction r with
  | nil => cases h
  | cons p r ih =>
    obtain ⟨y, f⟩ := p
    rw [lk_cons] at h
    rw [stL_cons x y e]
    by_cases q : x = y
    · rw [if_pos q] at h ⊢; cases h; rw [stL_cons, if_pos q]
    · rw [if_neg q] at h ⊢; rw [stL_cons, if_neg q, ih h]
theorem rmL_back (x : Txt) (e : PV) (r : Loc) (h : lk x r = none) : rmL x (stL x e r) = r := by
  induction r with
  | nil => show rmL x [(x, e)] = _; rw [rmL_cons, if_pos rfl]
  | cons p r ih =>
    obtain ⟨y, f⟩ := p
    rw [lk_cons] at h
    rw [stL_cons x y e]
    by_cases q : x = y
    · rw [if_pos q] at h; cases h
    · rw [if_neg q] at h ⊢; rw [rmL_cons, if_neg q, ih h]
/-- but at t, nothing that was there has changed -/
noncomputable def Lt (t : Nat) (σ σ' : Sto) : Prop := ∀ j o, j ≠ t → sget σ j = some o → sget σ' j = some o
theorem Lt.le {t : Nat} {σ σ' : Sto} (h : Le σ σ') : Lt t σ σ' := fun j o _ e => h j o e
theorem Lt.trans {t : Nat} {a b c : Sto} (x : Lt t a b) (y : Lt t b c) : Lt t a c := fun j o h e => y j o h (x j o h e)
theorem set_step {k : Sto → Prop} {σ : Sto} {j : Nat} {o o' : PO} (h : sget σ j = some o) (hk : ∀ σ', sget σ' j = some o' → Lt j σ σ' → k σ') : k (sset σ j o') :=
  hk _ (sget_set_self h) fun i o hi e => (sget_set_ne hi).trans e
noncomputable def tI : Txt := [105]
noncomputable def gen (i : Int) : PV := .tup [.str [103, 101, 110, 118, 97, 114], .int i]
noncomputable abbrev lvT : List CS := forB (nthS b1130S.1 4)
noncomputable abbrev lvW : List CS := forB (nthS lvT 1)
noncomputable abbrev lvC : CE := match nthS lvT 1 with | .whl c _ => c | _ => .val .none
noncomputable abbrev nItem : Txt := [105, 116, 101, 109]
noncomputable abbrev nName : Txt := [110, 97, 109, 101]
noncomputable abbrev nHidden : Txt := [104, 105, 100, 100, 101, 110]
noncomputable abbrev nValues : Txt := [118, 97, 108, 117, 101, 115]
/-- what the loop's walk keeps -/
structure LvI (es : List (Txt × PV)) (s t jv : Nat) (it hd : PV) (σ0 : Sto) (ρ : Loc) (σ : Sto) (v : Int) (vs : List Int) : Prop where
  sc : ScOK σ s t (stL tI (gen v) es)
  ls : lk nScope ρ = some (.obj s)
  li : lk nItem ρ = some it
  ln : lk nName ρ = some (.str tI)
  lh : lk nHidden ρ = some hd
  lv : lk nValues ρ = some (.obj jv)
  lx : lk nValue ρ = some (.int v)
  hv : sget σ jv = some (.list (vs.map PV.int))
  le : Lt t σ0 σ
noncomputable def forItem (b test on blk : PV) : PV := .tup [.str [103, 101, 110, 102, 111, 114], .int 0, .str tI, b, test, on, blk]
theorem LvI.mono {jv : Nat} {it hd : PV} {σ0 σ σ' : Sto} {ρ : Loc} {v : Int} {vs : List Int} (I : LvI es s t jv it hd σ0 ρ σ v vs) (l : Le σ σ') : LvI es s t jv it hd σ0 ρ σ' v vs :=
  ⟨I.sc.le l, I.ls, I.li, I.ln, I.lh, I.lv, I.lx, l _ _ I.hv, I.le.trans (.le l)⟩
theorem lv_loop {jv : Nat} {b blk hd : PV} {o : Op} {en st : Int} {σ0 : Sto} {K : KontS} (hz : es.length ≤ 10) (hst : -1000 ≤ st ∧ st ≤ 1000) (hen : -1000 ≤ en ∧ en ≤ 1000) (hjt : jv ≠ t) (hsj : s ≠ jv) (hstt : s ≠ t) (h0 : σ0.length ≤ jv) (ht0 : t < σ0.length) (hs0 : s < σ0.length) (hn : 18 ≤ n) :
    ∀ (m q : Nat) (ρ : Loc) (σ : Sto) (v : Int) (vs : List Int), (∀ j : Nat, j ≤ m → -1000 ≤ v + st * j ∧ v + st * j ≤ 1000) → (∀ j : Nat, j < m → o.f (v + st * j) en = true) → o.f (v + st * m) en = false → m + 60 ≤ q → vs.length + m ≤ 50 →
      LvI es s t jv (forItem b (binE o.s (idE tI) (numE en)) (binE [43] (idE tI) (numE st)) blk) hd σ0 ρ σ v vs →
      (∀ ρ' σ' v', LvI es s t jv (forItem b (binE o.s (idE tI) (numE en)) (binE [43] (idE tI) (numE st)) blk) hd σ0 ρ' σ' v' (vs ++ (List.range m).map fun j => v + st * (j : Nat)) → K .nxt ρ' σ') →
      whC (opsN (tab sc) n) q lvC lvW ρ σ K := by
  intro m
  induction m with
  | zero =>
    intro q ρ σ v vs hb ht hf hq hl I hK
    obtain ⟨q, rfl⟩ : ∃ q', q = q' + 41 := ⟨q - 41, by omega⟩
    have b0 := hb 0 (Nat.le_refl _)
    have e0 : v + st * ((0 : Nat) : Int) = v := by simp
    rw [e0] at b0 hf
    conv => whnf
    repeat (refine ⟨by first | exact True.intro | decide | exact Nat.le_of_ble_eq_true rfl, ?_⟩; conv => whnf)
    rw [I.ls]
    conv => whnf
    repeat (refine ⟨by first | exact True.intro | decide | exact Nat.le_of_ble_eq_true rfl, ?_⟩; conv => whnf)
    rw [I.li]
    conv => whnf
    repeat (refine ⟨by first | exact True.intro | decide | exact Nat.le_of_ble_eq_true rfl, ?_⟩; conv => whnf)
    refine c_test (m := 0) (o := o) (.id (lk_eq tI (gen v) es) (.gen v) (by rintro i ⟨⟩; exact b0)) (.num en hen) (Nat.le_refl _) (Nat.le_refl _) I.sc (by omega) ?_
    intro σ1 l1
    conv => whnf
    repeat (refine ⟨by first | exact True.intro | decide | exact Nat.le_of_ble_eq_true rfl, ?_⟩; conv => whnf)
    refine c_truth (by omega) ?_
    conv => whnf
    repeat (refine ⟨by first | exact True.intro | decide | exact Nat.le_of_ble_eq_true rfl, ?_⟩; conv => whnf)
    simp only [cmpO, hf]
    conv => whnf
    repeat (refine ⟨by first | exact True.intro | decide | exact Nat.le_of_ble_eq_true rfl, ?_⟩; conv => whnf)
    have := hK ρ σ1 v (by simpa using I.mono l1)
    exact this
  | succ m ih =>
    intro q ρ σ v vs hb ht hf hq hl I hK
    obtain ⟨q, rfl⟩ : ∃ q', q = q' + 41 := ⟨q - 41, by omega⟩
    have b0 := hb 0 (Nat.zero_le _)
    have b1 := hb 1 (by omega)
    have t0 := ht 0 (by omega)
    have e0 : v + st * ((0 : Nat) : Int) = v := by simp
    have e1 : v + st * ((1 : Nat) : Int) = v + st := by simp
    rw [e0] at b0 t0
    rw [e1] at b1
    conv => whnf
    repeat (refine ⟨by first | exact True.intro | decide | exact Nat.le_of_ble_eq_true rfl, ?_⟩; conv => whnf)
    rw [I.ls]
    conv => whnf
    repeat (refine ⟨by first | exact True.intro | decide | exact Nat.le_of_ble_eq_true rfl, ?_⟩; conv => whnf)
    rw [I.li]
    conv => whnf
    repeat (refine ⟨by first | exact True.intro | decide | exact Nat.le_of_ble_eq_true rfl, ?_⟩; conv => whnf)
    refine c_test (m := 0) (o := o) (.id (lk_eq tI (gen v) es) (.gen v) (by rintro i ⟨⟩; exact b0)) (.num en hen) (Nat.le_refl _) (Nat.le_refl _) I.sc (by omega) ?_
    intro σ1 l1
    conv => whnf
    repeat (refine ⟨by first | exact True.intro | decide | exact Nat.le_of_ble_eq_true rfl, ?_⟩; conv => whnf)
    refine c_truth (by omega) ?_
    conv => whnf
    repeat (refine ⟨by first | exact True.intro | decide | exact Nat.le_of_ble_eq_true rfl, ?_⟩; conv => whnf)
    simp only [cmpO, t0]
    conv => whnf
    repeat (refine ⟨by first | exact True.intro | decide | exact Nat.le_of_ble_eq_true rfl, ?_⟩; conv => whnf)
    rw [I.lv]
    conv => whnf
    repeat (refine ⟨by first | exact True.intro | decide | exact Nat.le_of_ble_eq_true rfl, ?_⟩; conv => whnf)
    rw [seq_obj (l1 _ _ I.hv)]
    conv => whnf
    repeat (refine ⟨by first | exact True.intro | decide | exact Nat.le_of_ble_eq_true rfl, ?_⟩; conv => whnf)
    refine ⟨by simp; omega, ?_⟩
    conv => whnf
    repeat (refine ⟨by first | exact True.intro | decide | exact Nat.le_of_ble_eq_true rfl, ?_⟩; conv => whnf)
    split
    · rename_i q1
      have q2 := of_decide_eq_true q1
      exfalso
      simp at q2; omega
    have hv1 := l1 _ _ I.hv
    conv => whnf
    repeat (refine ⟨by first | exact True.intro | decide | exact Nat.le_of_ble_eq_true rfl, ?_⟩; conv => whnf)
    rw [I.lv]
    conv => whnf
    repeat (refine ⟨by first | exact True.intro | decide | exact Nat.le_of_ble_eq_true rfl, ?_⟩; conv => whnf)
    rw [mk_lst hv1 rfl]
    conv => whnf
    repeat (refine ⟨by first | exact True.intro | decide | exact Nat.le_of_ble_eq_true rfl, ?_⟩; conv => whnf)
    rw [I.lx]
    conv => whnf
    repeat (refine ⟨by first | exact True.intro | decide | exact Nat.le_of_ble_eq_true rfl, ?_⟩; conv => whnf)
    rw [hv1]
    conv => whnf
    repeat (refine ⟨by first | exact True.intro | decide | exact Nat.le_of_ble_eq_true rfl, ?_⟩; conv => whnf)
    refine ⟨by simp; omega, ?_⟩
    refine app_step hv1 ?_
    intro σ2 e1 e2
    have Sc2 : ScOK σ2 s t (stL tI (gen v) es) := by
      obtain ⟨⟨fs, a, b, c, c2⟩, d⟩ := I.sc.le l1
      exact ⟨⟨fs, (e2 _ hsj).trans a, b, c, c2⟩, (e2 _ (Ne.symm hjt)).trans d⟩
    conv => whnf
    repeat (refine ⟨by first | exact True.intro | decide | exact Nat.le_of_ble_eq_true rfl, ?_⟩; conv => whnf)
    rw [I.ls]
    conv => whnf
    repeat (refine ⟨by first | exact True.intro | decide | exact Nat.le_of_ble_eq_true rfl, ?_⟩; conv => whnf)
    rw [I.li]
    conv => whnf
    repeat (refine ⟨by first | exact True.intro | decide | exact Nat.le_of_ble_eq_true rfl, ?_⟩; conv => whnf)
    refine c_whole (m := 1) (.plus (.id (lk_eq tI (gen v) es) (.gen v) (by rintro i ⟨⟩; exact b0)) (.num st hst) b1) Sc2 (by omega) ?_
    intro σ3 l3
    obtain ⟨⟨fs, a3, b3, c3, c4⟩, d3⟩ := Sc2.le l3
    conv => whnf
    repeat (refine ⟨by first | exact True.intro | decide | exact Nat.le_of_ble_eq_true rfl, ?_⟩; conv => whnf)
    change match lk nValue (stL nValue (.int (v + st)) ρ) with | some d => _ | none => _
    have gV : lk nValue (stL nValue (.int (v + st)) ρ) = some (.int (v + st)) := lk_eq _ _ _
    have gN : ∀ x, teq x nValue = false → lk x (stL nValue (.int (v + st)) ρ) = lk x ρ := fun x h => lk_ne h _ _
    have gS := (gN nScope rfl).trans I.ls
    have gI := (gN nItem rfl).trans I.li
    have gM := (gN nName rfl).trans I.ln
    have gH := (gN nHidden rfl).trans I.lh
    have gL := (gN nValues rfl).trans I.lv
    generalize stL nValue (.int (v + st)) ρ = ρ1 at gV gS gI gM gH gL ⊢
    clear gN
    rw [gV]
    conv => whnf
    repeat (refine ⟨by first | exact True.intro | decide | exact Nat.le_of_ble_eq_true rfl, ?_⟩; conv => whnf)
    rw [gS]
    conv => whnf
    repeat (refine ⟨by first | exact True.intro | decide | exact Nat.le_of_ble_eq_true rfl, ?_⟩; conv => whnf)
    rw [a3]
    conv => whnf
    repeat (refine ⟨by first | exact True.intro | decide | exact Nat.le_of_ble_eq_true rfl, ?_⟩; conv => whnf)
    rw [show lk [101, 110, 116, 114, 105, 101, 115] fs = some (.obj t) from b3]
    conv => whnf
    repeat (refine ⟨by first | exact True.intro | decide | exact Nat.le_of_ble_eq_true rfl, ?_⟩; conv => whnf)
    rw [gM]
    conv => whnf
    repeat (refine ⟨by first | exact True.intro | decide | exact Nat.le_of_ble_eq_true rfl, ?_⟩; conv => whnf)
    rw [d3]
    conv => whnf
    repeat (refine ⟨by first | exact True.intro | decide | exact Nat.le_of_ble_eq_true rfl, ?_⟩; conv => whnf)
    have hz2 : (stL tI (gen v) es).length ≤ es.length + 1 := stL_len _
    refine ⟨by omega, ?_⟩
    refine set_step d3 ?_
    intro σ4 f1 f2
    have I' : LvI es s t jv (forItem b (binE o.s (idE tI) (numE en)) (binE [43] (idE tI) (numE st)) blk) hd σ0 ρ1 σ4 (v + st) (vs ++ [v]) := by
      refine ⟨⟨⟨fs, f2 _ _ hstt a3, b3, c3, c4⟩, ?_⟩, gS, gI, gM, gH, gL, gV, f2 _ _ hjt (l3 _ _ (by rw [e1]; simp)), ?_⟩
      · rw [f1]
        show some (PO.dict (stL tI (gen (v + st)) (stL tI (gen v) es))) = _
        rw [stL_stL]
      · intro j o hj ho
        have hlt := sget_lt ho
        exact f2 _ _ hj (l3 _ _ ((e2 j (by omega)).trans (l1 _ _ (I.le _ _ hj ho))))
    refine ih (q + 40) ρ1 σ4 (v + st) (vs ++ [v]) ?_ ?_ ?_ (by omega) (by simp; omega) I' ?_
    · intro j hj
      have := hb (j + 1) (by omega)
      have e : v + st * ((j + 1 : Nat) : Int) = v + st + st * (j : Int) := by rw [Int.natCast_add, Int.mul_add]; simp; omega
      rw [e] at this; exact this
    · intro j hj
      have := ht (j + 1) (by omega)
      have e : v + st * ((j + 1 : Nat) : Int) = v + st + st * (j : Int) := by rw [Int.natCast_add, Int.mul_add]; simp; omega
      rw [e] at this; exact this
    · have e : v + st * ((m + 1 : Nat) : Int) = v + st + st * (m : Int) := by rw [Int.natCast_add, Int.mul_add]; simp; omega
      rw [e] at hf; exact hf
    · intro ρ' σ' v' I2
      refine hK ρ' σ' v' ?_
      have e : vs ++ [v] ++ (List.range m).map (fun j => v + st + st * (j : Nat)) = vs ++ (List.range (m + 1)).map fun j => v + st * (j : Nat) := by
        rw [List.range_succ_eq_map, List.map_cons, List.map_map, List.append_assoc]
        congr 1
        simp only [List.singleton_append]
        congr 1
        · simp
        · refine List.map_congr_left fun j _ => ?_
          simp only [Function.comp_def]
          rw [Nat.succ_eq_add_one, Int.natCast_add, Int.mul_add]; simp; omega
      rw [← e]; exact I2
end
section
set_option linter.unusedSimpArgs false
set_option linter.unusedVariables false
variable {sc : Option (Addr × List PV)} {n : Nat} {σ : Sto} {k : Kont} {s t : Nat} {es : List (Txt × PV)} {num : Int}
noncomputable def hidOf (es : List (Txt × PV)) : PV := match lk tI es with | some e => e | none => .none
noncomputable abbrev lvF : List CS := match nthS b1130S.1 4 with | .tryf _ f => f | _ => []
theorem c_loop_values {b blk : PV} {o : Op} {first en st : Int} {many : Nat} (hes : ∀ e, lk tI es = some e → ∃ l, e = .tup l) (hz : es.length ≤ 10) (E : Am es b (some first)) (hst : -1000 ≤ st ∧ st ≤ 1000) (hen : -1000 ≤ en ∧ en ≤ 1000) (hm : many ≤ 20)
    (hb : ∀ j : Nat, j ≤ many → -1000 ≤ first + st * j ∧ first + st * j ≤ 1000) (ht : ∀ j : Nat, j < many → o.f (first + st * j) en = true) (hf : o.f (first + st * many) en = false) (H : ScOK σ s t es) (hn : 20 ≤ n)
    (h : ∀ j σ', σ.length ≤ j → Le σ σ' → sget σ' j = some (.list ((List.range many).map fun i => .int (first + st * (i : Nat)))) → k (.obj j) σ') :
    CLn (tab sc) n 1130 [.obj s, forItem b (binE o.s (idE tI) (numE en)) (binE [43] (idE tI) (numE st)) blk] σ k := by
  obtain ⟨m, hmm, E⟩ := E
  have hst2 : s ≠ t := by
    rintro rfl
    obtain ⟨⟨fs, a, _⟩, d⟩ := H
    rw [a] at d; cases d
  have hs0 : s < σ.length := sget_lt H.1.choose_spec.1
  have ht0 : t < σ.length := sget_lt H.2
  obtain ⟨⟨fs, a, b1, c, c2⟩, d⟩ := id H
  obtain ⟨n, rfl, hq⟩ := pred hn
  replace hn := hq
  clear hq
  refine CLn_fn rfl rfl ?_
  conv => whnf
  repeat (refine ⟨by first | exact True.intro | decide | exact Nat.le_of_ble_eq_true rfl, ?_⟩; conv => whnf)
  rw [a]
  conv => whnf
  repeat (refine ⟨by first | exact True.intro | decide | exact Nat.le_of_ble_eq_true rfl, ?_⟩; conv => whnf)
  rw [show lk [101, 110, 116, 114, 105, 101, 115] fs = some (.obj t) from b1]
  conv => whnf
  repeat (refine ⟨by first | exact True.intro | decide | exact Nat.le_of_ble_eq_true rfl, ?_⟩; conv => whnf)
  rw [mk_dic d rfl]
  conv => whnf
  repeat (refine ⟨by first | exact True.intro | decide | exact Nat.le_of_ble_eq_true rfl, ?_⟩; conv => whnf)
  rw [d]
  conv => whnf
  repeat (refine ⟨by first | exact True.intro | decide | exact Nat.le_of_ble_eq_true rfl, ?_⟩; conv => whnf)
  refine c_whole E (H.le (Le.app _ _)) (by omega) ?_
  intro σ1 l1
  have l01 : Le σ σ1 := (Le.app _ _).trans l1
  have hv1 : sget σ1 σ.length = some (.list []) := l1 _ _ (by rw [sgetA0]; rfl)
  obtain ⟨⟨fs1, a1, b11, c1, c21⟩, d1⟩ := H.le l01
  conv => whnf
  repeat (refine ⟨by first | exact True.intro | decide | exact Nat.le_of_ble_eq_true rfl, ?_⟩; conv => whnf)
  rw [a1]
  conv => whnf
  repeat (refine ⟨by first | exact True.intro | decide | exact Nat.le_of_ble_eq_true rfl, ?_⟩; conv => whnf)
  rw [show lk [101, 110, 116, 114, 105, 101, 115] fs1 = some (.obj t) from b11]
  conv => whnf
  repeat (refine ⟨by first | exact True.intro | decide | exact Nat.le_of_ble_eq_true rfl, ?_⟩; conv => whnf)
  rw [d1]
  conv => whnf
  repeat (refine ⟨by first | exact True.intro | decide | exact Nat.le_of_ble_eq_true rfl, ?_⟩; conv => whnf)
  refine ⟨by omega, ?_⟩
  refine set_step d1 ?_
  intro σ2 f1 f2
  have I0 : LvI es s t σ.length (forItem b (binE o.s (idE tI) (numE en)) (binE [43] (idE tI) (numE st)) blk) (hidOf es) σ (stL nValue (.int first) (stL nValues (.obj σ.length) (stL nHidden (hidOf es) (stL nName (.str tI) [(nScope, .obj s), (nItem, forItem b (binE o.s (idE tI) (numE en)) (binE [43] (idE tI) (numE st)) blk)])))) σ2 first [] :=
    ⟨⟨⟨fs1, f2 _ _ hst2 a1, b11, c1, c21⟩, f1⟩, rfl, rfl, rfl, rfl, rfl, rfl, f2 _ _ (Nat.ne_of_gt ht0) hv1, (Lt.le l01).trans f2⟩
  show whC (opsN (tab sc) n) 391 lvC lvW (stL nValue (.int first) (stL nValues (.obj σ.length) (stL nHidden (hidOf es) (stL nName (.str tI) [(nScope, .obj s), (nItem, forItem b (binE o.s (idE tI) (numE en)) (binE [43] (idE tI) (numE st)) blk)])))) σ2 (seqK (exB (opsN (tab sc) n) 392 []) _)
  refine lv_loop hz hst hen (Nat.ne_of_gt ht0) (Nat.ne_of_lt hs0) hst2 (Nat.le_refl _) ht0 hs0 (by omega) many 391 _ σ2 first [] hb ht hf (by omega) (by simp; omega) I0 ?_
  intro ρ' σ' v' I
  obtain ⟨⟨fs2, a2, b2, c2', c22⟩, d2⟩ := I.sc
  have hv2 := I.hv
  have fin : ∀ σ3, sget σ3 t = some (.dict es) → Lt t σ' σ3 → k (.obj σ.length) σ3 := by
    intro σ3 g1 g2
    refine h _ _ (Nat.le_refl _) (fun j o ho => ?_) (g2 _ _ (Nat.ne_of_gt ht0) (by rw [hv2]; simp [Function.comp_def]))
    by_cases hj : j = t
    · subst hj; rw [d] at ho; cases ho; exact g1
    · exact g2 _ _ hj (I.le _ _ hj ho)
  cases hq : lk tI es with
  | none =>
    have hh : lk nHidden ρ' = some .none := by rw [I.lh, hidOf, hq]
    conv => whnf
    repeat (refine ⟨by first | exact True.intro | decide | exact Nat.le_of_ble_eq_true rfl, ?_⟩; conv => whnf)
    rw [hh]
    conv => whnf
    repeat (refine ⟨by first | exact True.intro | decide | exact Nat.le_of_ble_eq_true rfl, ?_⟩; conv => whnf)
    rw [I.ls]
    conv => whnf
    repeat (refine ⟨by first | exact True.intro | decide | exact Nat.le_of_ble_eq_true rfl, ?_⟩; conv => whnf)
    rw [a2]
    conv => whnf
    repeat (refine ⟨by first | exact True.intro | decide | exact Nat.le_of_ble_eq_true rfl, ?_⟩; conv => whnf)
    rw [show lk [101, 110, 116, 114, 105, 101, 115] fs2 = some (.obj t) from b2]
    conv => whnf
    repeat (refine ⟨by first | exact True.intro | decide | exact Nat.le_of_ble_eq_true rfl, ?_⟩; conv => whnf)
    rw [mk_dic d2 rfl]
    conv => whnf
    repeat (refine ⟨by first | exact True.intro | decide | exact Nat.le_of_ble_eq_true rfl, ?_⟩; conv => whnf)
    rw [I.ln]
    conv => whnf
    repeat (refine ⟨by first | exact True.intro | decide | exact Nat.le_of_ble_eq_true rfl, ?_⟩; conv => whnf)
    rw [d2]
    conv => whnf
    repeat (refine ⟨by first | exact True.intro | decide | exact Nat.le_of_ble_eq_true rfl, ?_⟩; conv => whnf)
    rw [lk_eq]
    conv => whnf
    repeat (refine ⟨by first | exact True.intro | decide | exact Nat.le_of_ble_eq_true rfl, ?_⟩; conv => whnf)
    rw [I.lv, rmL_back tI (gen v') es hq]
    have g1 : sget (sset σ' t (.dict es)) t = some (.dict es) := sget_set_self d2
    have g2 : Lt t σ' (sset σ' t (.dict es)) := fun i o hi e => (sget_set_ne hi).trans e
    conv => whnf
    repeat (refine ⟨by first | exact True.intro | decide | exact Nat.le_of_ble_eq_true rfl, ?_⟩; conv => whnf)
    exact fin _ g1 g2
  | some e =>
    obtain ⟨l, rfl⟩ := hes e hq
    have hh : lk nHidden ρ' = some (.tup l) := by rw [I.lh, hidOf, hq]
    conv => whnf
    repeat (refine ⟨by first | exact True.intro | decide | exact Nat.le_of_ble_eq_true rfl, ?_⟩; conv => whnf)
    rw [hh]
    conv => whnf
    repeat (refine ⟨by first | exact True.intro | decide | exact Nat.le_of_ble_eq_true rfl, ?_⟩; conv => whnf)
    rw [hh]
    conv => whnf
    repeat (refine ⟨by first | exact True.intro | decide | exact Nat.le_of_ble_eq_true rfl, ?_⟩; conv => whnf)
    rw [I.ls]
    conv => whnf
    repeat (refine ⟨by first | exact True.intro | decide | exact Nat.le_of_ble_eq_true rfl, ?_⟩; conv => whnf)
    rw [a2]
    conv => whnf
    repeat (refine ⟨by first | exact True.intro | decide | exact Nat.le_of_ble_eq_true rfl, ?_⟩; conv => whnf)
    rw [show lk [101, 110, 116, 114, 105, 101, 115] fs2 = some (.obj t) from b2]
    conv => whnf
    repeat (refine ⟨by first | exact True.intro | decide | exact Nat.le_of_ble_eq_true rfl, ?_⟩; conv => whnf)
    rw [I.ln]
    conv => whnf
    repeat (refine ⟨by first | exact True.intro | decide | exact Nat.le_of_ble_eq_true rfl, ?_⟩; conv => whnf)
    rw [d2]
    conv => whnf
    repeat (refine ⟨by first | exact True.intro | decide | exact Nat.le_of_ble_eq_true rfl, ?_⟩; conv => whnf)
    have hz2 : (stL tI (gen v') es).length ≤ es.length + 1 := stL_len _
    refine ⟨by omega, ?_⟩
    rw [stL_back tI (.tup l) (gen v') es hq]
    have g1 : sget (sset σ' t (.dict es)) t = some (.dict es) := sget_set_self d2
    have g2 : Lt t σ' (sset σ' t (.dict es)) := fun i o hi e => (sget_set_ne hi).trans e
    conv => whnf
    repeat (refine ⟨by first | exact True.intro | decide | exact Nat.le_of_ble_eq_true rfl, ?_⟩; conv => whnf)
    rw [I.lv]
    conv => whnf
    repeat (refine ⟨by first | exact True.intro | decide | exact Nat.le_of_ble_eq_true rfl, ?_⟩; conv => whnf)
    exact fin _ g1 g2
/-! ## the loop's rows -/
noncomputable def loopRow (lab : Txt) (items : List PV) (v : Int) : PV := row (lab ++ [91] ++ nT v ++ [93]) [.tup [.str tI, .int v]] items
noncomputable abbrev lrB : List CS := forB (nthS b1137S.1 3)
theorem lr_loop {jv jr : Nat} {all : List PV} {it nb a1 a2 : PV} {lab : Txt} {items : List PV} {K : KontS} {σ0 : Sto} (hit : ∃ b test on blk, it = forItem b test on blk) (hlab : lab.length ≤ 20) (hne : jv ≠ jr) (h0 : σ0.length ≤ jr) :
    ∀ (l : List Int) (q : Nat) (ρ : Loc) (σ : Sto) (done : List PV), (∀ d : PV, stL nValue d ρ = [(nScope, a1), (nItem, it), ([110, 117, 109, 98, 101, 114], nb), ([98, 108, 111, 99, 107], .tup [.str tBlock, .int 0, a2, .tup items]), (nLabel, .str lab), (nRows, .obj jr), (nValue, d)]) → lk nRows ρ = some (.obj jr) → (∀ v ∈ l, -200 ≤ v ∧ v ≤ 200) → l.length + 60 ≤ q → done.length + l.length ≤ 50 → Le σ0 σ → sget σ jv = some (.list all) → sget σ jr = some (.list done) →
      (∀ ρ' σ', lk nRows ρ' = some (.obj jr) → Le σ0 σ' → sget σ' jr = some (.list (done ++ l.map (loopRow lab items))) → K .nxt ρ' σ') →
      frC (opsN (tab sc) n) q [nValue] true lrB (some jv) all (l.map PV.int) ρ σ K
  | [], q, ρ, σ, done, hρ, hρr, hl, hq, hz, le, h1, h2, hK => by
    obtain ⟨q, rfl⟩ : ∃ q', q = q' + 41 := ⟨q - 41, by omega⟩
    conv => whnf
    repeat (refine ⟨by first | exact True.intro | decide | exact Nat.le_of_ble_eq_true rfl, ?_⟩; conv => whnf)
    exact hK ρ σ hρr le (by simpa using h2)
  | v :: l, q, ρ, σ, done, hρ, hρr, hl, hq, hz, le, h1, h2, hK => by
    obtain ⟨q, rfl⟩ : ∃ q', q = q' + 41 := ⟨q - 41, by omega⟩
    rw [List.length_cons] at hq hz
    obtain ⟨b, test, on, blk, rfl⟩ := hit
    have hv := hl v (.head _)
    have hlen := nT_len v hv
    conv => whnf
    repeat (refine ⟨by first | exact True.intro | decide | exact Nat.le_of_ble_eq_true rfl, ?_⟩; conv => whnf)
    rw [hρ]
    conv => whnf
    repeat (refine ⟨by first | exact True.intro | decide | exact Nat.le_of_ble_eq_true rfl, ?_⟩; conv => whnf)
    rw [mk_lst h2 rfl]
    conv => whnf
    repeat (refine ⟨by first | exact True.intro | decide | exact Nat.le_of_ble_eq_true rfl, ?_⟩; conv => whnf)
    refine ⟨by rw [List.length_append, List.length_singleton]; omega, ?_⟩
    conv => whnf
    repeat (refine ⟨by first | exact True.intro | decide | exact Nat.le_of_ble_eq_true rfl, ?_⟩; conv => whnf)
    refine ⟨by show v.natAbs < 2 ^ 64; omega, ?_⟩
    conv => whnf
    repeat (refine ⟨by first | exact True.intro | decide | exact Nat.le_of_ble_eq_true rfl, ?_⟩; conv => whnf)
    refine ⟨by rw [List.length_append, List.length_append, List.length_singleton]; show lab.length + 1 + (nT v).length ≤ 1000; omega, ?_⟩
    conv => whnf
    repeat (refine ⟨by first | exact True.intro | decide | exact Nat.le_of_ble_eq_true rfl, ?_⟩; conv => whnf)
    refine ⟨by rw [List.length_append, List.length_append, List.length_append, List.length_singleton, List.length_singleton]; show lab.length + 1 + (nT v).length + 1 ≤ 1000; omega, ?_⟩
    conv => whnf
    repeat (refine ⟨by first | exact True.intro | decide | exact Nat.le_of_ble_eq_true rfl, ?_⟩; conv => whnf)
    rw [h2]
    conv => whnf
    repeat (refine ⟨by first | exact True.intro | decide | exact Nat.le_of_ble_eq_true rfl, ?_⟩; conv => whnf)
    refine ⟨by omega, ?_⟩
    refine app_step h2 ?_
    intro σ1 e1 e2
    conv => whnf
    repeat (refine ⟨by first | exact True.intro | decide | exact Nat.le_of_ble_eq_true rfl, ?_⟩; conv => whnf)
    refine ⟨(e2 jv hne).trans h1, ?_⟩
    refine lr_loop ⟨b, test, on, blk, rfl⟩ hlab hne h0 l (q + 40) _ σ1 _ (fun d => rfl) rfl (fun v hv => hl v (.tail _ hv)) (by omega) ?_ (fun j o ho => (e2 j (by have := sget_lt ho; omega)).trans (le j o ho)) ((e2 jv hne).trans h1) e1 ?_
    · rw [List.length_append, List.length_singleton]; omega
    · intro ρ' σ' r' l' g
      refine hK ρ' σ' r' l' ?_
      rw [g]
      simp [loopRow, row, nT]
theorem c_loop_rows {b l : PV} {items : List PV} {o : Op} {first en st : Int} {many : Nat} (hl : LabOK l) (h1 : -200 ≤ num ∧ num ≤ 200) (hes : ∀ e, lk tI es = some e → ∃ l, e = .tup l) (hz : es.length ≤ 10) (E : Am es b (some first)) (hst : -1000 ≤ st ∧ st ≤ 1000) (hen : -1000 ≤ en ∧ en ≤ 1000) (hm : many ≤ 20)
    (hb : ∀ j : Nat, j ≤ many → -200 ≤ first + st * j ∧ first + st * j ≤ 200) (ht : ∀ j : Nat, j < many → o.f (first + st * j) en = true) (hf : o.f (first + st * many) en = false) (H : ScOK σ s t es) (hn : 22 ≤ n)
    (h : ∀ j σ', Le σ σ' → sget σ' j = some (.list (((List.range many).map fun i => first + st * (i : Nat)).map (loopRow (labT num l) items))) → k (.obj j) σ') :
    CLn (tab sc) n 1137 [.obj s, forItem b (binE o.s (idE tI) (numE en)) (binE [43] (idE tI) (numE st)) (.tup [.str tBlock, .int 0, l, .tup items]), .int num] σ k := by
  have hlab : (labT num l).length ≤ 20 := by
    have := nT_len num h1
    rcases hl with rfl | rfl | rfl
    · show (genblk ++ nT num).length ≤ 20
      rw [List.length_append]; show 6 + _ ≤ 20; omega
    · show 3 ≤ 20; omega
    · show 3 ≤ 20; omega
  obtain ⟨n, rfl, hq⟩ := pred hn
  replace hn := hq
  clear hq
  refine CLn_fn rfl rfl ?_
  conv => whnf
  repeat (refine ⟨by first | exact True.intro | decide | exact Nat.le_of_ble_eq_true rfl, ?_⟩; conv => whnf)
  refine c_block_label hl h1 (by omega) ?_
  conv => whnf
  repeat (refine ⟨by first | exact True.intro | decide | exact Nat.le_of_ble_eq_true rfl, ?_⟩; conv => whnf)
  refine c_loop_values hes hz E hst hen hm (fun j hj => by have := hb j hj; omega) ht hf (H.le (Le.app _ _)) (by omega) ?_
  intro jv σ1 hjv l1 hv
  have hr : sget σ1 σ.length = some (.list []) := l1 _ _ (by rw [sgetA0]; rfl)
  conv => whnf
  repeat (refine ⟨by first | exact True.intro | decide | exact Nat.le_of_ble_eq_true rfl, ?_⟩; conv => whnf)
  rw [hv]
  conv => whnf
  repeat (refine ⟨by first | exact True.intro | decide | exact Nat.le_of_ble_eq_true rfl, ?_⟩; conv => whnf)
  refine ⟨by simp; omega, ?_⟩
  have hmap : (List.range many).map (fun i => PV.int (first + st * (i : Nat))) = ((List.range many).map fun i => first + st * (i : Nat)).map PV.int := by rw [List.map_map]; rfl
  have hne : jv ≠ σ.length := by
    simp at hjv; omega
  rw [hmap]
  refine lr_loop (σ0 := σ) ⟨_, _, _, _, rfl⟩ hlab hne (Nat.le_refl _) _ _ _ σ1 [] (fun d => rfl) rfl ?_ (Nat.le_trans (m := 110) (by simp; omega) (by decide)) (by simp; omega) ((Le.app _ _).trans l1) (hv.trans (by rw [hmap])) hr ?_
  · intro v hv
    obtain ⟨j, hj, rfl⟩ := List.mem_map.mp hv
    exact hb j (Nat.le_of_lt (List.mem_range.mp hj))
  · intro ρ' σ' r' l' g
    conv => whnf
    repeat (refine ⟨by first | exact True.intro | decide | exact Nat.le_of_ble_eq_true rfl, ?_⟩; conv => whnf)
    rw [r']
    conv => whnf
    repeat (refine ⟨by first | exact True.intro | decide | exact Nat.le_of_ble_eq_true rfl, ?_⟩; conv => whnf)
    exact h _ _ l' (by simpa using g)
/-! ## the whole -/
theorem c_choice (h1 : -200 ≤ num ∧ num ≤ 200) {m : Nat} {item : PV} {b : List PV} (B : Br es num (m + 1) item b) (hk : IsCh item) (hn : 2 * m + 23 ≤ n) (H : ScOK σ s t es) (h : ∀ j σ', Le σ σ' → sget σ' j = some (.list b) → k (.obj j) σ') :
    CLn (tab sc) n 1145 [.obj s, item, .int num] σ k := by
  obtain ⟨n, rfl, hn⟩ := pred hn
  exact c_gen h1 B hk (by omega) (fun item b B => c_br h1 m n item b B (by omega)) H h
theorem c_for {b l : PV} {items : List PV} {o : Op} {first en st : Int} {many : Nat} (hl : LabOK l) (h1 : -200 ≤ num ∧ num ≤ 200) (hes : ∀ e, lk tI es = some e → ∃ l, e = .tup l) (hz : es.length ≤ 10) (E : Am es b (some first)) (hst : -1000 ≤ st ∧ st ≤ 1000) (hen : -1000 ≤ en ∧ en ≤ 1000) (hm : many ≤ 20)
    (hb : ∀ j : Nat, j ≤ many → -200 ≤ first + st * j ∧ first + st * j ≤ 200) (ht : ∀ j : Nat, j < many → o.f (first + st * j) en = true) (hf : o.f (first + st * many) en = false) (H : ScOK σ s t es) (hn : 23 ≤ n)
    (h : ∀ j σ', Le σ σ' → sget σ' j = some (.list (((List.range many).map fun i => first + st * (i : Nat)).map (loopRow (labT num l) items))) → k (.obj j) σ') :
    CLn (tab sc) n 1145 [.obj s, forItem b (binE o.s (idE tI) (numE en)) (binE [43] (idE tI) (numE st)) (.tup [.str tBlock, .int 0, l, .tup items]), .int num] σ k := by
  obtain ⟨n, rfl, hq⟩ := pred hn
  replace hn := hq
  clear hq
  refine CLn_fn rfl rfl ?_
  conv => whnf
  repeat (refine ⟨by first | exact True.intro | decide | exact Nat.le_of_ble_eq_true rfl, ?_⟩; conv => whnf)
  refine c_loop_rows hl h1 hes hz E hst hen hm hb ht hf H (by omega) ?_
  intro j σ' l' hj
  conv => whnf
  repeat (refine ⟨by first | exact True.intro | decide | exact Nat.le_of_ble_eq_true rfl, ?_⟩; conv => whnf)
  exact h _ _ l' hj
end
section
set_option linter.unusedSimpArgs false
set_option linter.unusedVariables false
variable {sc : Option (Addr × List PV)} {n : Nat} {σ : Sto} {k : Kont} {es : List (Txt × PV)} {num : Int} {r : Nat}
/-- the figures that are left -/
noncomputable def IsRow (r : Nat) (σ : Sto) : Prop := ∃ l : List Int, sget σ r = some (.list (l.map PV.int)) ∧ l.length ≤ 1000
theorem IsRow.le {r : Nat} {σ σ' : Sto} (h : IsRow r σ) (l : Le σ σ') : IsRow r σ' := let ⟨x, a, b⟩ := h; ⟨x, l _ _ a, b⟩
theorem plast_map : ∀ (x : Int) (l : List Int), ∃ (p : List Int) (e : Int), plast ((x :: l).map PV.int) = some (p.map PV.int, .int e) ∧ p.length = l.length
  | x, [] => ⟨[], x, rfl, rfl⟩
  | x, y :: l => by
    obtain ⟨p, e, h, hl⟩ := plast_map y l
    refine ⟨x :: p, e, ?_, by simp [hl]⟩
    rw [List.map_cons]
    unfold plast
    rw [h]; rfl
theorem c_next (hr : IsRow r σ) (hn : 1 ≤ n) (h : ∀ i σ', Lt r σ σ' → IsRow r σ' → k (.int i) σ') : CLn (tab sc) n 1299 [.obj r] σ k := by
  obtain ⟨l, hl, hz⟩ := hr
  obtain ⟨n, rfl, hq⟩ := pred hn
  replace hn := hq
  clear hq
  refine CLn_fn rfl rfl ?_
  conv => whnf
  repeat (refine ⟨by first | exact True.intro | decide | exact Nat.le_of_ble_eq_true rfl, ?_⟩; conv => whnf)
  rw [sget_app _ hl, sgetA0]
  conv => whnf
  repeat (refine ⟨by first | exact True.intro | decide | exact Nat.le_of_ble_eq_true rfl, ?_⟩; conv => whnf)
  refine ⟨by intro d hd; obtain ⟨i, _, rfl⟩ := List.mem_map.mp hd; exact ⟨i, rfl⟩, ?_⟩
  cases l with
  | nil =>
    conv => whnf
    repeat (refine ⟨by first | exact True.intro | decide | exact Nat.le_of_ble_eq_true rfl, ?_⟩; conv => whnf)
    exact h _ _ (.le (Le.app _ _)) ⟨[], sget_app _ hl, by simp⟩
  | cons x l =>
    obtain ⟨p, e, hp, hpl⟩ := plast_map x l
    conv => whnf
    repeat (refine ⟨by first | exact True.intro | decide | exact Nat.le_of_ble_eq_true rfl, ?_⟩; conv => whnf)
    rw [mk_lst (sget_app _ hl) rfl]
    conv => whnf
    repeat (refine ⟨by first | exact True.intro | decide | exact Nat.le_of_ble_eq_true rfl, ?_⟩; conv => whnf)
    rw [sget_app _ hl]
    conv => whnf
    repeat (refine ⟨by first | exact True.intro | decide | exact Nat.le_of_ble_eq_true rfl, ?_⟩; conv => whnf)
    rw [hp]
    conv => whnf
    repeat (refine ⟨by first | exact True.intro | decide | exact Nat.le_of_ble_eq_true rfl, ?_⟩; conv => whnf)
    refine ⟨by simpa using hz, ?_⟩
    refine set_step (sget_app _ hl) ?_
    intro σ' f1 f2
    conv => whnf
    repeat (refine ⟨by first | exact True.intro | decide | exact Nat.le_of_ble_eq_true rfl, ?_⟩; conv => whnf)
    exact h _ _ ((Lt.le (Le.app _ _)).trans f2) ⟨p, f1, by simp at hz; omega⟩
theorem fm (x : Int) {b : Int} (h : 0 < b) : x.fmod b = x % b := Int.fmod_eq_emod_of_nonneg _ (Int.le_of_lt h)
theorem fm_lt (x : Int) (b : Nat) (h : 0 < b) : 0 ≤ x.fmod (Int.ofNat b) ∧ x.fmod (Int.ofNat b) < b := by
  show 0 ≤ x.fmod (b : Int) ∧ x.fmod (b : Int) < b
  rw [Int.fmod_eq_emod_of_nonneg _ (Int.natCast_nonneg b)]
  exact ⟨Int.emod_nonneg _ (by simp; omega), Int.emod_lt_of_pos _ (by simpa using h)⟩
theorem c_number {i : Int} (hn : 1 ≤ n) (h : k (numE i) σ) : CLn (tab sc) n 1306 [.int i] σ k := by
  obtain ⟨n, rfl, hq⟩ := pred hn
  replace hn := hq
  clear hq
  refine CLn_fn rfl rfl ?_
  conv => whnf
  repeat (refine ⟨by first | exact True.intro | decide | exact Nat.le_of_ble_eq_true rfl, ?_⟩; conv => whnf)
  show k (.tup [.str [110, 117, 109], .int 0, .tup [.int 32, .int (i.fmod 4294967296), .int 0], .bool true, .bool false]) σ
  rw [fm i (by decide)]
  exact h
noncomputable abbrev tN : Txt := [110]
noncomputable abbrev tK : Txt := [107]
/-- what the names are worth -/
structure Val (es : List (Txt × PV)) (tv : Nat) (vn vk : Option Int) (σ : Sto) : Prop where
  d : sget σ tv = some (.dict [(tN, ov vn), (tK, ov vk)])
  n : ∃ e, lk tN es = some e ∧ Ent e vn
  k : ∃ e, lk tK es = some e ∧ Ent e vk
  bn : ∀ i, vn = some i → -3 ≤ i ∧ i ≤ 4
  bk : ∀ i, vk = some i → -3 ≤ i ∧ i ≤ 4
theorem Val.lt {tv : Nat} {vn vk : Option Int} {σ' : Sto} (V : Val es tv vn vk σ) (h : tv ≠ r) (l : Lt r σ σ') : Val es tv vn vk σ' := ⟨l _ _ h V.d, V.n, V.k, V.bn, V.bk⟩
/-- an amount of the law's -/
noncomputable def AmB (es : List (Txt × PV)) (deep : Nat) (d : PV) (v : Option Int) : Prop := ∃ m, m ≤ deep ∧ Ex es m d v ∧ ∀ i, v = some i → -3 ≤ i ∧ i ≤ 4 + 3 * deep
theorem AmB.am {d : PV} {v : Option Int} (h : AmB es 2 d v) : Am es d v := let ⟨m, a, b, _⟩ := h; ⟨m, a, b⟩
theorem c_amount0 {tv : Nat} {vn vk : Option Int} (hne : tv ≠ r) (hn : 3 ≤ n) (R : IsRow r σ) (V : Val es tv vn vk σ) (h : ∀ d v σ', Lt r σ σ' → IsRow r σ' → AmB es 0 d v → k (.tup [d, ov v]) σ') : CLn (tab sc) n 1314 [.obj r, .obj tv, .int 0] σ k := by
  obtain ⟨n, rfl, hq⟩ := pred hn
  replace hn := hq
  clear hq
  refine CLn_fn rfl rfl ?_
  conv => whnf
  repeat (refine ⟨by first | exact True.intro | decide | exact Nat.le_of_ble_eq_true rfl, ?_⟩; conv => whnf)
  refine c_next R (by omega) ?_
  intro x σ1 l1 R1
  conv => whnf
  repeat (refine ⟨by first | exact True.intro | decide | exact Nat.le_of_ble_eq_true rfl, ?_⟩; conv => whnf)
  obtain ⟨q1, q2⟩ := fm_lt x 3 (by decide)
  generalize x.fmod (Int.ofNat 3) = q at q1 q2 ⊢
  rcases (show q = 0 ∨ q = 1 ∨ q = 2 by omega) with rfl | rfl | rfl
  · conv => whnf
    repeat (refine ⟨by first | exact True.intro | decide | exact Nat.le_of_ble_eq_true rfl, ?_⟩; conv => whnf)
    refine c_next R1 (by omega) ?_
    intro y σ2 l2 R2
    conv => whnf
    repeat (refine ⟨by first | exact True.intro | decide | exact Nat.le_of_ble_eq_true rfl, ?_⟩; conv => whnf)
    obtain ⟨p1, p2⟩ := fm_lt y 8 (by decide)
    refine c_number (by omega) ?_
    conv => whnf
    repeat (refine ⟨by first | exact True.intro | decide | exact Nat.le_of_ble_eq_true rfl, ?_⟩; conv => whnf)
    generalize y.fmod (Int.ofNat 8) = q at p1 p2 ⊢
    exact h _ (some (q - 3)) _ (l1.trans l2) R2 ⟨0, by omega, .num (q - 3) (by omega), by rintro i ⟨⟩; omega⟩
  · conv => whnf
    repeat (refine ⟨by first | exact True.intro | decide | exact Nat.le_of_ble_eq_true rfl, ?_⟩; conv => whnf)
    rw [seq_obj (l := [.str [110], .str [107]]) (by rw [sgetA0]; rfl)]
    conv => whnf
    repeat (refine ⟨by first | exact True.intro | decide | exact Nat.le_of_ble_eq_true rfl, ?_⟩; conv => whnf)
    have V1 := (V.lt hne l1).lt hne (.le (t := r) (Le.app σ1 [PO.list [.str [110], .str [107]]]))
    change match sget (σ1 ++ [PO.list [.str [110], .str [107]]]) tv with | some (.dict es) => _ | _ => _
    rw [V1.d]
    conv => whnf
    repeat (refine ⟨by first | exact True.intro | decide | exact Nat.le_of_ble_eq_true rfl, ?_⟩; conv => whnf)
    obtain ⟨e, he1, he2⟩ := V.n
    exact h _ vn _ (l1.trans (.le (Le.app _ _))) (R1.le (Le.app _ _)) ⟨0, by omega, .id he1 he2 (fun i hi => by have := V.bn i hi; omega), fun i hi => by have := V.bn i hi; omega⟩
  · conv => whnf
    repeat (refine ⟨by first | exact True.intro | decide | exact Nat.le_of_ble_eq_true rfl, ?_⟩; conv => whnf)
    rw [seq_obj (l := [.str [110], .str [107]]) (by rw [sgetA0]; rfl)]
    conv => whnf
    repeat (refine ⟨by first | exact True.intro | decide | exact Nat.le_of_ble_eq_true rfl, ?_⟩; conv => whnf)
    have V1 := (V.lt hne l1).lt hne (.le (t := r) (Le.app σ1 [PO.list [.str [110], .str [107]]]))
    change match sget (σ1 ++ [PO.list [.str [110], .str [107]]]) tv with | some (.dict es) => _ | _ => _
    rw [V1.d]
    conv => whnf
    repeat (refine ⟨by first | exact True.intro | decide | exact Nat.le_of_ble_eq_true rfl, ?_⟩; conv => whnf)
    obtain ⟨e, he1, he2⟩ := V.k
    exact h _ vk _ (l1.trans (.le (Le.app _ _))) (R1.le (Le.app _ _)) ⟨0, by omega, .id he1 he2 (fun i hi => by have := V.bk i hi; omega), fun i hi => by have := V.bk i hi; omega⟩
theorem c_amount1 {tv : Nat} {vn vk : Option Int} (hne : tv ≠ r) (hn : 4 ≤ n) (R : IsRow r σ) (V : Val es tv vn vk σ) (h : ∀ d v σ', Lt r σ σ' → IsRow r σ' → AmB es 1 d v → k (.tup [d, ov v]) σ') : CLn (tab sc) n 1314 [.obj r, .obj tv, .int 1] σ k := by
  obtain ⟨n, rfl, hq⟩ := pred hn
  replace hn := hq
  clear hq
  refine CLn_fn rfl rfl ?_
  conv => whnf
  repeat (refine ⟨by first | exact True.intro | decide | exact Nat.le_of_ble_eq_true rfl, ?_⟩; conv => whnf)
  refine c_next R (by omega) ?_
  intro x σ1 l1 R1
  conv => whnf
  repeat (refine ⟨by first | exact True.intro | decide | exact Nat.le_of_ble_eq_true rfl, ?_⟩; conv => whnf)
  obtain ⟨q1, q2⟩ := fm_lt x 4 (by decide)
  generalize x.fmod (Int.ofNat 4) = q at q1 q2 ⊢
  rcases (show q = 0 ∨ q = 1 ∨ q = 2 ∨ q = 3 by omega) with rfl | rfl | rfl | rfl
  · conv => whnf
    repeat (refine ⟨by first | exact True.intro | decide | exact Nat.le_of_ble_eq_true rfl, ?_⟩; conv => whnf)
    refine c_next R1 (by omega) ?_
    intro y σ2 l2 R2
    conv => whnf
    repeat (refine ⟨by first | exact True.intro | decide | exact Nat.le_of_ble_eq_true rfl, ?_⟩; conv => whnf)
    obtain ⟨p1, p2⟩ := fm_lt y 8 (by decide)
    refine c_number (by omega) ?_
    conv => whnf
    repeat (refine ⟨by first | exact True.intro | decide | exact Nat.le_of_ble_eq_true rfl, ?_⟩; conv => whnf)
    generalize y.fmod (Int.ofNat 8) = q at p1 p2 ⊢
    exact h _ (some (q - 3)) _ (l1.trans l2) R2 ⟨0, by omega, .num (q - 3) (by omega), by rintro i ⟨⟩; omega⟩
  · conv => whnf
    repeat (refine ⟨by first | exact True.intro | decide | exact Nat.le_of_ble_eq_true rfl, ?_⟩; conv => whnf)
    rw [seq_obj (l := [.str [110], .str [107]]) (by rw [sgetA0]; rfl)]
    conv => whnf
    repeat (refine ⟨by first | exact True.intro | decide | exact Nat.le_of_ble_eq_true rfl, ?_⟩; conv => whnf)
    have V1 := (V.lt hne l1).lt hne (.le (t := r) (Le.app σ1 [PO.list [.str [110], .str [107]]]))
    change match sget (σ1 ++ [PO.list [.str [110], .str [107]]]) tv with | some (.dict es) => _ | _ => _
    rw [V1.d]
    conv => whnf
    repeat (refine ⟨by first | exact True.intro | decide | exact Nat.le_of_ble_eq_true rfl, ?_⟩; conv => whnf)
    obtain ⟨e, he1, he2⟩ := V.n
    exact h _ vn _ (l1.trans (.le (Le.app _ _))) (R1.le (Le.app _ _)) ⟨0, by omega, .id he1 he2 (fun i hi => by have := V.bn i hi; omega), fun i hi => by have := V.bn i hi; omega⟩
  · conv => whnf
    repeat (refine ⟨by first | exact True.intro | decide | exact Nat.le_of_ble_eq_true rfl, ?_⟩; conv => whnf)
    rw [seq_obj (l := [.str [110], .str [107]]) (by rw [sgetA0]; rfl)]
    conv => whnf
    repeat (refine ⟨by first | exact True.intro | decide | exact Nat.le_of_ble_eq_true rfl, ?_⟩; conv => whnf)
    have V1 := (V.lt hne l1).lt hne (.le (t := r) (Le.app σ1 [PO.list [.str [110], .str [107]]]))
    change match sget (σ1 ++ [PO.list [.str [110], .str [107]]]) tv with | some (.dict es) => _ | _ => _
    rw [V1.d]
    conv => whnf
    repeat (refine ⟨by first | exact True.intro | decide | exact Nat.le_of_ble_eq_true rfl, ?_⟩; conv => whnf)
    obtain ⟨e, he1, he2⟩ := V.k
    exact h _ vk _ (l1.trans (.le (Le.app _ _))) (R1.le (Le.app _ _)) ⟨0, by omega, .id he1 he2 (fun i hi => by have := V.bk i hi; omega), fun i hi => by have := V.bk i hi; omega⟩
  · conv => whnf
    repeat (refine ⟨by first | exact True.intro | decide | exact Nat.le_of_ble_eq_true rfl, ?_⟩; conv => whnf)
    refine c_amount0 hne (by omega) R1 (V.lt hne l1) ?_
    intro d v σ2 l2 R2 A
    conv => whnf
    repeat (refine ⟨by first | exact True.intro | decide | exact Nat.le_of_ble_eq_true rfl, ?_⟩; conv => whnf)
    refine c_next R2 (by omega) ?_
    intro y σ3 l3 R3
    conv => whnf
    repeat (refine ⟨by first | exact True.intro | decide | exact Nat.le_of_ble_eq_true rfl, ?_⟩; conv => whnf)
    obtain ⟨p1, p2⟩ := fm_lt y 4 (by decide)
    obtain ⟨m, hm, E, hb⟩ := A
    cases v with
    | none =>
      conv => whnf
      repeat (refine ⟨by first | exact True.intro | decide | exact Nat.le_of_ble_eq_true rfl, ?_⟩; conv => whnf)
      exact h _ none _ ((l1.trans l2).trans l3) R3 ⟨m, by omega, E, by rintro i ⟨⟩⟩
    | some i =>
      have hb := hb i rfl
      conv => whnf
      repeat (refine ⟨by first | exact True.intro | decide | exact Nat.le_of_ble_eq_true rfl, ?_⟩; conv => whnf)
      refine c_number (by omega) ?_
      conv => whnf
      repeat (refine ⟨by first | exact True.intro | decide | exact Nat.le_of_ble_eq_true rfl, ?_⟩; conv => whnf)
      generalize y.fmod (Int.ofNat 4) = q at p1 p2 ⊢
      exact h _ (some (i + q)) _ ((l1.trans l2).trans l3) R3 ⟨m + 1, by omega, .plus E (.num q (by omega)) (by omega), by rintro j ⟨⟩; omega⟩
theorem c_amount2 {tv : Nat} {vn vk : Option Int} (hne : tv ≠ r) (hn : 5 ≤ n) (R : IsRow r σ) (V : Val es tv vn vk σ) (h : ∀ d v σ', Lt r σ σ' → IsRow r σ' → AmB es 2 d v → k (.tup [d, ov v]) σ') : CLn (tab sc) n 1314 [.obj r, .obj tv, .int 2] σ k := by
  obtain ⟨n, rfl, hq⟩ := pred hn
  replace hn := hq
  clear hq
  refine CLn_fn rfl rfl ?_
  conv => whnf
  repeat (refine ⟨by first | exact True.intro | decide | exact Nat.le_of_ble_eq_true rfl, ?_⟩; conv => whnf)
  refine c_next R (by omega) ?_
  intro x σ1 l1 R1
  conv => whnf
  repeat (refine ⟨by first | exact True.intro | decide | exact Nat.le_of_ble_eq_true rfl, ?_⟩; conv => whnf)
  obtain ⟨q1, q2⟩ := fm_lt x 4 (by decide)
  generalize x.fmod (Int.ofNat 4) = q at q1 q2 ⊢
  rcases (show q = 0 ∨ q = 1 ∨ q = 2 ∨ q = 3 by omega) with rfl | rfl | rfl | rfl
  · conv => whnf
    repeat (refine ⟨by first | exact True.intro | decide | exact Nat.le_of_ble_eq_true rfl, ?_⟩; conv => whnf)
    refine c_next R1 (by omega) ?_
    intro y σ2 l2 R2
    conv => whnf
    repeat (refine ⟨by first | exact True.intro | decide | exact Nat.le_of_ble_eq_true rfl, ?_⟩; conv => whnf)
    obtain ⟨p1, p2⟩ := fm_lt y 8 (by decide)
    refine c_number (by omega) ?_
    conv => whnf
    repeat (refine ⟨by first | exact True.intro | decide | exact Nat.le_of_ble_eq_true rfl, ?_⟩; conv => whnf)
    generalize y.fmod (Int.ofNat 8) = q at p1 p2 ⊢
    exact h _ (some (q - 3)) _ (l1.trans l2) R2 ⟨0, by omega, .num (q - 3) (by omega), by rintro i ⟨⟩; omega⟩
  · conv => whnf
    repeat (refine ⟨by first | exact True.intro | decide | exact Nat.le_of_ble_eq_true rfl, ?_⟩; conv => whnf)
    rw [seq_obj (l := [.str [110], .str [107]]) (by rw [sgetA0]; rfl)]
    conv => whnf
    repeat (refine ⟨by first | exact True.intro | decide | exact Nat.le_of_ble_eq_true rfl, ?_⟩; conv => whnf)
    have V1 := (V.lt hne l1).lt hne (.le (t := r) (Le.app σ1 [PO.list [.str [110], .str [107]]]))
    change match sget (σ1 ++ [PO.list [.str [110], .str [107]]]) tv with | some (.dict es) => _ | _ => _
    rw [V1.d]
    conv => whnf
    repeat (refine ⟨by first | exact True.intro | decide | exact Nat.le_of_ble_eq_true rfl, ?_⟩; conv => whnf)
    obtain ⟨e, he1, he2⟩ := V.n
    exact h _ vn _ (l1.trans (.le (Le.app _ _))) (R1.le (Le.app _ _)) ⟨0, by omega, .id he1 he2 (fun i hi => by have := V.bn i hi; omega), fun i hi => by have := V.bn i hi; omega⟩
  · conv => whnf
    repeat (refine ⟨by first | exact True.intro | decide | exact Nat.le_of_ble_eq_true rfl, ?_⟩; conv => whnf)
    rw [seq_obj (l := [.str [110], .str [107]]) (by rw [sgetA0]; rfl)]
    conv => whnf
    repeat (refine ⟨by first | exact True.intro | decide | exact Nat.le_of_ble_eq_true rfl, ?_⟩; conv => whnf)
    have V1 := (V.lt hne l1).lt hne (.le (t := r) (Le.app σ1 [PO.list [.str [110], .str [107]]]))
    change match sget (σ1 ++ [PO.list [.str [110], .str [107]]]) tv with | some (.dict es) => _ | _ => _
    rw [V1.d]
    conv => whnf
    repeat (refine ⟨by first | exact True.intro | decide | exact Nat.le_of_ble_eq_true rfl, ?_⟩; conv => whnf)
    obtain ⟨e, he1, he2⟩ := V.k
    exact h _ vk _ (l1.trans (.le (Le.app _ _))) (R1.le (Le.app _ _)) ⟨0, by omega, .id he1 he2 (fun i hi => by have := V.bk i hi; omega), fun i hi => by have := V.bk i hi; omega⟩
  · conv => whnf
    repeat (refine ⟨by first | exact True.intro | decide | exact Nat.le_of_ble_eq_true rfl, ?_⟩; conv => whnf)
    refine c_amount1 hne (by omega) R1 (V.lt hne l1) ?_
    intro d v σ2 l2 R2 A
    conv => whnf
    repeat (refine ⟨by first | exact True.intro | decide | exact Nat.le_of_ble_eq_true rfl, ?_⟩; conv => whnf)
    refine c_next R2 (by omega) ?_
    intro y σ3 l3 R3
    conv => whnf
    repeat (refine ⟨by first | exact True.intro | decide | exact Nat.le_of_ble_eq_true rfl, ?_⟩; conv => whnf)
    obtain ⟨p1, p2⟩ := fm_lt y 4 (by decide)
    obtain ⟨m, hm, E, hb⟩ := A
    cases v with
    | none =>
      conv => whnf
      repeat (refine ⟨by first | exact True.intro | decide | exact Nat.le_of_ble_eq_true rfl, ?_⟩; conv => whnf)
      exact h _ none _ ((l1.trans l2).trans l3) R3 ⟨m, by omega, E, by rintro i ⟨⟩⟩
    | some i =>
      have hb := hb i rfl
      conv => whnf
      repeat (refine ⟨by first | exact True.intro | decide | exact Nat.le_of_ble_eq_true rfl, ?_⟩; conv => whnf)
      refine c_number (by omega) ?_
      conv => whnf
      repeat (refine ⟨by first | exact True.intro | decide | exact Nat.le_of_ble_eq_true rfl, ?_⟩; conv => whnf)
      generalize y.fmod (Int.ofNat 4) = q at p1 p2 ⊢
      exact h _ (some (i + q)) _ ((l1.trans l2).trans l3) R3 ⟨m + 1, by omega, .plus E (.num q (by omega)) (by omega), by rintro j ⟨⟩; omega⟩
end
section
set_option linter.unusedSimpArgs false
set_option linter.unusedVariables false
variable {sc : Option (Addr × List PV)} {n : Nat} {σ : Sto} {k : Kont} {es : List (Txt × PV)} {num : Int} {r tv : Nat} {vn vk : Option Int}
theorem c_amountD (hne : tv ≠ r) (hn : 5 ≤ n) (R : IsRow r σ) (V : Val es tv vn vk σ) (h : ∀ d v σ', Lt r σ σ' → IsRow r σ' → AmB es 2 d v → k (.tup [d, ov v]) σ') : CLn (tab sc) n 1314 [.obj r, .obj tv] σ k := by
  have := c_amount2 (sc := sc) (k := k) hne hn R V h
  obtain ⟨n, rfl, hn⟩ := pred hn
  simp only [CLn] at this ⊢
  exact this
noncomputable def TsB (es : List (Txt × PV)) (d : PV) (b : Bool) : Prop := ∃ o d1 d2 u v, AmB es 2 d1 u ∧ AmB es 2 d2 v ∧ d = binE (Op.s o) d1 d2 ∧ b = decide (cmpO o.f u v = some true)
theorem c_ltest (hne : tv ≠ r) (hn : 6 ≤ n) (R : IsRow r σ) (V : Val es tv vn vk σ) (h : ∀ d b σ', Lt r σ σ' → IsRow r σ' → TsB es d b → k (.tup [d, .bool b]) σ') : CLn (tab sc) n 1321 [.obj r, .obj tv] σ k := by
  obtain ⟨n, rfl, hq⟩ := pred hn
  replace hn := hq
  clear hq
  refine CLn_fn rfl rfl ?_
  conv => whnf
  repeat (refine ⟨by first | exact True.intro | decide | exact Nat.le_of_ble_eq_true rfl, ?_⟩; conv => whnf)
  refine c_amountD hne (by omega) R V ?_
  intro d1 u σ1 l1 R1 A1
  conv => whnf
  repeat (refine ⟨by first | exact True.intro | decide | exact Nat.le_of_ble_eq_true rfl, ?_⟩; conv => whnf)
  refine c_amountD hne (by omega) R1 (V.lt hne l1) ?_
  intro d2 v σ2 l2 R2 A2
  conv => whnf
  repeat (refine ⟨by first | exact True.intro | decide | exact Nat.le_of_ble_eq_true rfl, ?_⟩; conv => whnf)
  refine c_next (R2.le (Le.app _ _)) (by omega) ?_
  intro x σ3 l3 R3
  have hl : sget σ3 σ2.length = some (.list [.str [60], .str [61, 61], .str [62, 61], .str [33, 61]]) := l3 _ _ (by have := sget_lt R2.choose_spec.1; omega) (by rw [sgetA0]; rfl)
  have lt : Lt r σ σ3 := ((l1.trans l2).trans (.le (Le.app _ _))).trans l3
  conv => whnf
  repeat (refine ⟨by first | exact True.intro | decide | exact Nat.le_of_ble_eq_true rfl, ?_⟩; conv => whnf)
  obtain ⟨q1, q2⟩ := fm_lt x 4 (by decide)
  rw [seq_obj hl]
  generalize x.fmod (Int.ofNat 4) = q at q1 q2 ⊢
  rcases (show q = 0 ∨ q = 1 ∨ q = 2 ∨ q = 3 by omega) with rfl | rfl | rfl | rfl
  · cases u with
    | none =>
      conv => whnf
      repeat (refine ⟨by first | exact True.intro | decide | exact Nat.le_of_ble_eq_true rfl, ?_⟩; conv => whnf)
      exact h _ false _ lt R3 ⟨.lt, _, _, _, _, A1, A2, rfl, by cases v <;> rfl⟩
    | some a =>
      cases v with
      | none =>
        conv => whnf
        repeat (refine ⟨by first | exact True.intro | decide | exact Nat.le_of_ble_eq_true rfl, ?_⟩; conv => whnf)
        exact h _ false _ lt R3 ⟨.lt, _, _, _, _, A1, A2, rfl, rfl⟩
      | some b =>
        conv => whnf
        repeat (refine ⟨by first | exact True.intro | decide | exact Nat.le_of_ble_eq_true rfl, ?_⟩; conv => whnf)
        rw [sgetA0]
        conv => whnf
        repeat (refine ⟨by first | exact True.intro | decide | exact Nat.le_of_ble_eq_true rfl, ?_⟩; conv => whnf)
        exact h _ _ _ (lt.trans (.le (Le.app _ _))) (R3.le (Le.app _ _)) ⟨.lt, _, _, _, _, A1, A2, rfl, by simp [cmpO, Op.f]⟩
  · cases u with
    | none =>
      conv => whnf
      repeat (refine ⟨by first | exact True.intro | decide | exact Nat.le_of_ble_eq_true rfl, ?_⟩; conv => whnf)
      exact h _ false _ lt R3 ⟨.eq, _, _, _, _, A1, A2, rfl, by cases v <;> rfl⟩
    | some a =>
      cases v with
      | none =>
        conv => whnf
        repeat (refine ⟨by first | exact True.intro | decide | exact Nat.le_of_ble_eq_true rfl, ?_⟩; conv => whnf)
        exact h _ false _ lt R3 ⟨.eq, _, _, _, _, A1, A2, rfl, rfl⟩
      | some b =>
        conv => whnf
        repeat (refine ⟨by first | exact True.intro | decide | exact Nat.le_of_ble_eq_true rfl, ?_⟩; conv => whnf)
        rw [sgetA0]
        conv => whnf
        repeat (refine ⟨by first | exact True.intro | decide | exact Nat.le_of_ble_eq_true rfl, ?_⟩; conv => whnf)
        exact h _ _ _ (lt.trans (.le (Le.app _ _))) (R3.le (Le.app _ _)) ⟨.eq, _, _, _, _, A1, A2, rfl, by simp [cmpO, Op.f]⟩
  · cases u with
    | none =>
      conv => whnf
      repeat (refine ⟨by first | exact True.intro | decide | exact Nat.le_of_ble_eq_true rfl, ?_⟩; conv => whnf)
      exact h _ false _ lt R3 ⟨.ge, _, _, _, _, A1, A2, rfl, by cases v <;> rfl⟩
    | some a =>
      cases v with
      | none =>
        conv => whnf
        repeat (refine ⟨by first | exact True.intro | decide | exact Nat.le_of_ble_eq_true rfl, ?_⟩; conv => whnf)
        exact h _ false _ lt R3 ⟨.ge, _, _, _, _, A1, A2, rfl, rfl⟩
      | some b =>
        conv => whnf
        repeat (refine ⟨by first | exact True.intro | decide | exact Nat.le_of_ble_eq_true rfl, ?_⟩; conv => whnf)
        rw [sgetA0]
        conv => whnf
        repeat (refine ⟨by first | exact True.intro | decide | exact Nat.le_of_ble_eq_true rfl, ?_⟩; conv => whnf)
        exact h _ _ _ (lt.trans (.le (Le.app _ _))) (R3.le (Le.app _ _)) ⟨.ge, _, _, _, _, A1, A2, rfl, by simp [cmpO, Op.f]⟩
  · cases u with
    | none =>
      conv => whnf
      repeat (refine ⟨by first | exact True.intro | decide | exact Nat.le_of_ble_eq_true rfl, ?_⟩; conv => whnf)
      exact h _ false _ lt R3 ⟨.ne, _, _, _, _, A1, A2, rfl, by cases v <;> rfl⟩
    | some a =>
      cases v with
      | none =>
        conv => whnf
        repeat (refine ⟨by first | exact True.intro | decide | exact Nat.le_of_ble_eq_true rfl, ?_⟩; conv => whnf)
        exact h _ false _ lt R3 ⟨.ne, _, _, _, _, A1, A2, rfl, rfl⟩
      | some b =>
        conv => whnf
        repeat (refine ⟨by first | exact True.intro | decide | exact Nat.le_of_ble_eq_true rfl, ?_⟩; conv => whnf)
        rw [sgetA0]
        conv => whnf
        repeat (refine ⟨by first | exact True.intro | decide | exact Nat.le_of_ble_eq_true rfl, ?_⟩; conv => whnf)
        exact h _ _ _ (lt.trans (.le (Le.app _ _))) (R3.le (Le.app _ _)) ⟨.ne, _, _, _, _, A1, A2, rfl, by simp [cmpO, Op.f]⟩
end
section
set_option linter.unusedSimpArgs false
set_option linter.unusedVariables false
variable {sc : Option (Addr × List PV)} {n : Nat} {σ : Sto} {k : Kont} {es : List (Txt × PV)} {num : Int} {r tv : Nat} {vn vk : Option Int}
/-- what a branch of the law's comes to -/
noncomputable def LBr (es : List (Txt × PV)) (num : Int) (r : Nat) (d : Nat) (σ : Sto) (k : Kont) : Prop := ∀ item j b σ', Lt r σ σ' → IsRow r σ' → σ.length ≤ j → sget σ' j = some (.list b) → Br es num d item b → k (.tup [item, .obj j]) σ'
theorem Lt.len {r : Nat} {σ σ' : Sto} (h : Lt r σ σ') (R : IsRow r σ') : σ.length ≤ σ'.length := by
  rcases Nat.lt_or_ge σ'.length σ.length with g | g
  · have hr := sget_lt R.choose_spec.1
    have : ∃ o, sget σ σ'.length = some o := by
      clear h R hr
      revert g
      generalize σ'.length = i
      induction σ generalizing i with
      | nil => intro g; simp at g
      | cons a σ ih =>
        intro g
        cases i with
        | zero => exact ⟨a, rfl⟩
        | succ i => exact ih i (by simpa using g)
    obtain ⟨o, ho⟩ := this
    have := sget_lt (h _ _ (by omega) ho)
    omega
  · exact g
theorem items_rep (x : Int) (m : Nat) (hm : m ≤ 10) : ItemsOK (List.replicate m [PV.tup [.str tInitial, .int x, .none]]).flatten := by
  refine ⟨by rw [lm_len_rep_flat]; simp; omega, fun y hy => ?_⟩
  rw [List.mem_flatten] at hy
  obtain ⟨l, hl, hy⟩ := hy
  rw [List.mem_replicate] at hl
  rw [hl.2] at hy
  exact ⟨x, List.mem_singleton.mp hy⟩
noncomputable abbrev brK : List CS := b1328S.1.drop 1
/-- a single item, a block, nothing -/
theorem lb_tail (h1 : -200 ≤ num ∧ num ≤ 200) {d : Nat} {q dp : Int} (hq : q = 0 ∨ q = 1 ∨ q = 2) (hn : 1 ≤ n) (R : IsRow r σ) (h : LBr es num r d σ k) :
    exB (opsN (tab sc) n) 399 brK [([114, 111, 119], .obj r), ([118, 97, 108, 117, 101, 115], .obj tv), ([100, 101, 101, 112], .int dp), ([110, 117, 109, 98, 101, 114], .int num), ([107, 105, 110, 100], .int q)] σ fun fl _ σ => retK k fl σ := by
  rcases hq with rfl | rfl | rfl
  · conv => whnf
    repeat (refine ⟨by first | exact True.intro | decide | exact Nat.le_of_ble_eq_true rfl, ?_⟩; conv => whnf)
    refine c_next (R.le (Le.app _ _)) (by omega) ?_
    intro x σ1 l1 R1
    conv => whnf
    repeat (refine ⟨by first | exact True.intro | decide | exact Nat.le_of_ble_eq_true rfl, ?_⟩; conv => whnf)
    have hl : sget σ1 σ.length = some (.list [.none, .str [111, 110, 101], .str [116, 119, 111]]) := l1 _ _ (by have := sget_lt R.choose_spec.1; omega) (by rw [sgetA0]; rfl)
    obtain ⟨q1, q2⟩ := fm_lt x 3 (by decide)
    rw [seq_obj hl]
    generalize x.fmod (Int.ofNat 3) = q at q1 q2 ⊢
    rcases (show q = 0 ∨ q = 1 ∨ q = 2 by omega) with rfl | rfl | rfl
    · conv => whnf
      repeat (refine ⟨by first | exact True.intro | decide | exact Nat.le_of_ble_eq_true rfl, ?_⟩; conv => whnf)
      refine c_next R1 (by omega) ?_
      intro y σ2 l2 R2
      conv => whnf
      repeat (refine ⟨by first | exact True.intro | decide | exact Nat.le_of_ble_eq_true rfl, ?_⟩; conv => whnf)
      refine c_next R2 (by omega) ?_
      intro z σ3 l3 R3
      conv => whnf
      repeat (refine ⟨by first | exact True.intro | decide | exact Nat.le_of_ble_eq_true rfl, ?_⟩; conv => whnf)
      obtain ⟨p1, p2⟩ := fm_lt z 3 (by decide)
      generalize z.fmod (Int.ofNat 3) = p at p1 p2 ⊢
      refine ⟨p1, by omega, Nat.le_of_ble_eq_true rfl, ?_⟩
      conv => whnf
      repeat (refine ⟨by first | exact True.intro | decide | exact Nat.le_of_ble_eq_true rfl, ?_⟩; conv => whnf)
      have hI := items_rep y p.toNat (by omega)
      have lt : Lt r σ σ3 := (((Lt.le (Le.app _ _)).trans l1).trans l2).trans l3
      refine ⟨by show num.natAbs < 2 ^ 64; omega, ?_⟩
      conv => whnf
      repeat (refine ⟨by first | exact True.intro | decide | exact Nat.le_of_ble_eq_true rfl, ?_⟩; conv => whnf)
      have := nT_len num h1
      refine ⟨by rw [List.length_append]; show 6 + (nT num).length ≤ 1000; omega, ?_⟩
      conv => whnf
      repeat (refine ⟨by first | exact True.intro | decide | exact Nat.le_of_ble_eq_true rfl, ?_⟩; conv => whnf)
      refine h _ _ _ _ (lt.trans (.le (Le.app _ _))) (R3.le (Le.app _ _)) (lt.len R3) (by rw [sgetA0]; rfl) (.blk (.inl rfl) hI)
    · conv => whnf
      repeat (refine ⟨by first | exact True.intro | decide | exact Nat.le_of_ble_eq_true rfl, ?_⟩; conv => whnf)
      refine c_next R1 (by omega) ?_
      intro y σ2 l2 R2
      conv => whnf
      repeat (refine ⟨by first | exact True.intro | decide | exact Nat.le_of_ble_eq_true rfl, ?_⟩; conv => whnf)
      refine c_next R2 (by omega) ?_
      intro z σ3 l3 R3
      conv => whnf
      repeat (refine ⟨by first | exact True.intro | decide | exact Nat.le_of_ble_eq_true rfl, ?_⟩; conv => whnf)
      obtain ⟨p1, p2⟩ := fm_lt z 3 (by decide)
      generalize z.fmod (Int.ofNat 3) = p at p1 p2 ⊢
      refine ⟨p1, by omega, Nat.le_of_ble_eq_true rfl, ?_⟩
      conv => whnf
      repeat (refine ⟨by first | exact True.intro | decide | exact Nat.le_of_ble_eq_true rfl, ?_⟩; conv => whnf)
      have hI := items_rep y p.toNat (by omega)
      have lt : Lt r σ σ3 := (((Lt.le (Le.app _ _)).trans l1).trans l2).trans l3
      refine h _ _ _ _ (lt.trans (.le (Le.app _ _))) (R3.le (Le.app _ _)) (lt.len R3) (by rw [sgetA0]; rfl) (.blk (.inr (.inl rfl)) hI)
    · conv => whnf
      repeat (refine ⟨by first | exact True.intro | decide | exact Nat.le_of_ble_eq_true rfl, ?_⟩; conv => whnf)
      refine c_next R1 (by omega) ?_
      intro y σ2 l2 R2
      conv => whnf
      repeat (refine ⟨by first | exact True.intro | decide | exact Nat.le_of_ble_eq_true rfl, ?_⟩; conv => whnf)
      refine c_next R2 (by omega) ?_
      intro z σ3 l3 R3
      conv => whnf
      repeat (refine ⟨by first | exact True.intro | decide | exact Nat.le_of_ble_eq_true rfl, ?_⟩; conv => whnf)
      obtain ⟨p1, p2⟩ := fm_lt z 3 (by decide)
      generalize z.fmod (Int.ofNat 3) = p at p1 p2 ⊢
      refine ⟨p1, by omega, Nat.le_of_ble_eq_true rfl, ?_⟩
      conv => whnf
      repeat (refine ⟨by first | exact True.intro | decide | exact Nat.le_of_ble_eq_true rfl, ?_⟩; conv => whnf)
      have hI := items_rep y p.toNat (by omega)
      have lt : Lt r σ σ3 := (((Lt.le (Le.app _ _)).trans l1).trans l2).trans l3
      refine h _ _ _ _ (lt.trans (.le (Le.app _ _))) (R3.le (Le.app _ _)) (lt.len R3) (by rw [sgetA0]; rfl) (.blk (.inr (.inr rfl)) hI)
  · conv => whnf
    repeat (refine ⟨by first | exact True.intro | decide | exact Nat.le_of_ble_eq_true rfl, ?_⟩; conv => whnf)
    refine c_next R (by omega) ?_
    intro x σ1 l1 R1
    conv => whnf
    repeat (refine ⟨by first | exact True.intro | decide | exact Nat.le_of_ble_eq_true rfl, ?_⟩; conv => whnf)
    refine ⟨by show num.natAbs < 2 ^ 64; omega, ?_⟩
    conv => whnf
    repeat (refine ⟨by first | exact True.intro | decide | exact Nat.le_of_ble_eq_true rfl, ?_⟩; conv => whnf)
    have := nT_len num h1
    refine ⟨by rw [List.length_append]; show 6 + (nT num).length ≤ 1000; omega, ?_⟩
    conv => whnf
    repeat (refine ⟨by first | exact True.intro | decide | exact Nat.le_of_ble_eq_true rfl, ?_⟩; conv => whnf)
    exact h _ _ _ _ (l1.trans (.le (Le.app _ _))) (R1.le (Le.app _ _)) (l1.len R1) (by rw [sgetA0]; rfl) .one
  · conv => whnf
    repeat (refine ⟨by first | exact True.intro | decide | exact Nat.le_of_ble_eq_true rfl, ?_⟩; conv => whnf)
    exact h _ _ _ _ (.le (Le.app _ _)) (R.le (Le.app _ _)) (Nat.le_refl _) (by rw [sgetA0]; rfl) .none
end
section
set_option linter.unusedSimpArgs false
set_option linter.unusedVariables false
variable {sc : Option (Addr × List PV)} {n : Nat} {σ : Sto} {k : Kont} {es : List (Txt × PV)} {num : Int} {r tv : Nat} {vn vk : Option Int}
noncomputable abbrev nRow : Txt := [114, 111, 119]
noncomputable abbrev nDeep : Txt := [100, 101, 101, 112]
noncomputable abbrev nNumber : Txt := [110, 117, 109, 98, 101, 114]
noncomputable abbrev nFigure : Txt := [102, 105, 103, 117, 114, 101]
noncomputable abbrev nDue : Txt := [100, 117, 101]
noncomputable abbrev nOther : Txt := [111, 116, 104, 101, 114]
noncomputable abbrev nUsual : Txt := [117, 115, 117, 97, 108]
noncomputable abbrev nAsked : Txt := [97, 115, 107, 101, 100]
noncomputable abbrev nTurn : Txt := [116, 117, 114, 110]
noncomputable abbrev nBlocks : Txt := [98, 108, 111, 99, 107, 115]
noncomputable abbrev nStep : Txt := [115, 116, 101, 112]
noncomputable abbrev chB : List CS := forB (nthS b1333S.1 6)
noncomputable abbrev chL : CE := match nthS chB 0 with | .asn _ (.comp e _ _ _ _) => e | _ => .val .none
noncomputable abbrev chC0 : CE := .sub (.loc nLabel) (.val (.int (Int.ofNat 0)))
noncomputable abbrev chC1 : CE := .sub (.loc nLabel) (.val (.int (Int.ofNat 1)))
noncomputable def pairP (p : PV × Option Int) : PV := .tup [p.1, ov p.2]
/-- the labels that are drawn -/
theorem lab_comp (hne : tv ≠ r) (hn : 5 ≤ n) {K : List PV → Sto → Prop} : ∀ (l : List PV) (q : Nat) (σ : Sto), l.length + 40 ≤ q → IsRow r σ → Val es tv vn vk σ →
    (∀ (ls : List (PV × Option Int)) σ', ls.length = l.length → (∀ p ∈ ls, AmB es 2 p.1 p.2) → Lt r σ σ' → IsRow r σ' → K (ls.map pairP) σ') →
    evM (opsN (tab sc) n) q chL [nStep] true none [] l [(nRow, .obj r), (nValues, .obj tv)] σ K
  | [], q, σ, hq, R, V, hK => by
    obtain ⟨q, rfl⟩ : ∃ q', q = q' + 31 := ⟨q - 31, by omega⟩
    conv => whnf
    repeat (refine ⟨by first | exact True.intro | decide | exact Nat.le_of_ble_eq_true rfl, ?_⟩; conv => whnf)
    exact hK [] σ rfl (fun _ h => nomatch h) (.le (Le.refl _)) R
  | d :: l, q, σ, hq, R, V, hK => by
    obtain ⟨q, rfl⟩ : ∃ q', q = q' + 31 := ⟨q - 31, by omega⟩
    rw [List.length_cons] at hq
    conv => whnf
    repeat (refine ⟨by first | exact True.intro | decide | exact Nat.le_of_ble_eq_true rfl, ?_⟩; conv => whnf)
    refine c_amountD hne hn R V ?_
    intro e v σ1 l1 R1 A
    refine ⟨True.intro, ?_⟩
    refine lab_comp hne hn l (q + 30) σ1 (by omega) R1 (V.lt hne l1) ?_
    intro ls σ2 hl hA l2 R2
    refine hK ((e, v) :: ls) σ2 (by simp [hl]) ?_ (l1.trans l2) R2
    intro p hp
    rcases List.mem_cons.mp hp with rfl | hp
    · exact A
    · exact hA p hp
theorem comp0 {O : Ops} {j : Nat} {all : List PV} (hs : sget σ j = some (.list all)) {K : List PV → Sto → Prop} : ∀ (ls : List (PV × Option Int)) (q : Nat), ls.length + 40 ≤ q → K (ls.map (·.1)) σ → evM O q chC0 [nLabel] true (some j) all (ls.map pairP) [] σ K
  | [], q, hq, hK => by
    obtain ⟨q, rfl⟩ : ∃ q', q = q' + 31 := ⟨q - 31, by omega⟩
    conv => whnf
    repeat (refine ⟨by first | exact True.intro | decide | exact Nat.le_of_ble_eq_true rfl, ?_⟩; conv => whnf)
    exact hK
  | p :: l, q, hq, hK => by
    obtain ⟨q, rfl⟩ : ∃ q', q = q' + 31 := ⟨q - 31, by omega⟩
    rw [List.length_cons] at hq
    conv => whnf
    repeat (refine ⟨by first | exact True.intro | decide | exact Nat.le_of_ble_eq_true rfl, ?_⟩; conv => whnf)
    refine ⟨hs, ?_⟩
    exact comp0 hs (K := fun vs σ => K (p.1 :: vs) σ) l (q + 30) (by omega) hK
theorem comp1 {O : Ops} {j : Nat} {all : List PV} (hs : sget σ j = some (.list all)) {K : List PV → Sto → Prop} : ∀ (ls : List (PV × Option Int)) (q : Nat), ls.length + 40 ≤ q → K (ls.map fun p => ov p.2) σ → evM O q chC1 [nLabel] true (some j) all (ls.map pairP) [] σ K
  | [], q, hq, hK => by
    obtain ⟨q, rfl⟩ : ∃ q', q = q' + 31 := ⟨q - 31, by omega⟩
    conv => whnf
    repeat (refine ⟨by first | exact True.intro | decide | exact Nat.le_of_ble_eq_true rfl, ?_⟩; conv => whnf)
    exact hK
  | p :: l, q, hq, hK => by
    obtain ⟨q, rfl⟩ : ∃ q', q = q' + 31 := ⟨q - 31, by omega⟩
    rw [List.length_cons] at hq
    conv => whnf
    repeat (refine ⟨by first | exact True.intro | decide | exact Nat.le_of_ble_eq_true rfl, ?_⟩; conv => whnf)
    refine ⟨hs, ?_⟩
    exact comp1 hs (K := fun vs σ => K (ov p.2 :: vs) σ) l (q + 30) (by omega) hK
/-! ## a figure among figures -/
noncomputable def pyO : Option Int → PyData
  | some i => .int i
  | none => .none
theorem toPy_ov (v : Option Int) : toPy (ov v) = some (pyO v) := by cases v <;> rfl
theorem toPys_ov : ∀ l : List (Option Int), toPys (l.map ov) = some (l.map pyO)
  | [] => rfl
  | v :: l => by show o2 List.cons (toPy (ov v)) (toPys (l.map ov)) = _; rw [toPy_ov, toPys_ov l]; rfl
theorem toPys_ov2 (ls : List (PV × Option Int)) : toPys (ls.map fun p => ov p.2) = some ((ls.map fun p => p.2).map pyO) := by
  rw [← toPys_ov, List.map_map]; rfl
theorem eqv_ov (a b : Option Int) : PyData.eqv (pyO a) (pyO b) = decide (a = b) := by
  cases a <;> cases b <;> simp [pyO, PyData.eqv]
  rw [Bool.eq_iff_iff]; simp
theorem shaped_ov (v : Option Int) : SeqAt.shaped (pyO v) = true := by cases v <;> simp [SeqAt.shaped, pyO, PyData.canLay0, PyData.depth]
theorem lay_ovs : ∀ l : List (Option Int), PyData.canLayAll0 (l.map pyO) = true ∧ PyData.depthAll (l.map pyO) ≤ 1
  | [] => by simp [PyData.canLayAll0, PyData.depthAll]
  | v :: l => by
    obtain ⟨a, b⟩ := lay_ovs l
    cases v <;> simp [PyData.canLayAll0, PyData.depthAll, pyO, PyData.canLay0, PyData.depth, a] <;> omega
theorem shaped_ovs (l : List (Option Int)) : SeqAt.shaped (.list (l.map pyO)) = true := by
  obtain ⟨a, b⟩ := lay_ovs l
  simp [SeqAt.shaped, PyData.canLay0, PyData.depth, a]; omega
theorem any_ov (f : Option Int) (l : List (PV × Option Int)) : ((l.map fun p => p.2).map pyO).any (fun y => PyData.eqv y (pyO f)) = l.any fun p => decide (p.2 = f) := by
  induction l with
  | nil => rfl
  | cons p l ih => simp only [List.map_cons, List.any_cons, eqv_ov, ih]
theorem hitR_snoc (f : Option Int) (q : Row) : ∀ l : List Row, hitR f (l ++ [q]) = match hitR f l with | some x => some x | none => if hits f q = true then some q else none
  | [] => by simp [hitR]
  | x :: l => by
    simp only [List.cons_append, hitR]
    by_cases h : hits f x = true
    · simp [h]
    · simp only [h, if_false]
      exact hitR_snoc f q l
theorem dflR_snoc (q : Row) : ∀ (l : List Row) (d : Option Row), dflR d (l ++ [q]) = ups q (dflR d l)
  | [], d => rfl
  | x :: l, d => dflR_snoc q l _
end
section
set_option linter.unusedSimpArgs false
set_option linter.unusedVariables false
variable {sc : Option (Addr × List PV)} {n : Nat} {σ : Sto} {k : Kont} {es : List (Txt × PV)} {num : Int} {r tv : Nat} {vn vk : Option Int}
/-- what is known of a branch of the law's at this depth -/
noncomputable def BrH (sc : Option (Addr × List PV)) (es : List (Txt × PV)) (num : Int) (r tv : Nat) (vn vk : Option Int) (d : Nat) (dp : Int) (n : Nat) : Prop := ∀ (σ : Sto) (k : Kont), IsRow r σ → Val es tv vn vk σ → LBr es num r d σ k → CLn (tab sc) n 1328 [.obj r, .obj tv, .int dp, .int num] σ k
/-- what the walk over the turns keeps: of the frame -/
structure ChF (r tv jr : Nat) (dp num us : Int) (fg : Option Int) (asked : PV) (ρ : Loc) : Prop where
  row : lk nRow ρ = some (.obj r)
  val : lk nValues ρ = some (.obj tv)
  deep : lk nDeep ρ = some (.int dp)
  num : lk nNumber ρ = some (.int num)
  fig : lk nFigure ρ = some (ov fg)
  rows : lk nRows ρ = some (.obj jr)
  us : lk nUsual ρ = some (.int us)
  ask : lk nAsked ρ = some asked
structure ChS (es : List (Txt × PV)) (num : Int) (r tv jr : Nat) (vn vk fg : Option Int) (d : Nat) (σ0 σ : Sto) (due oth : PV) (done : List Row) : Prop where
  row : IsRow r σ
  val : Val es tv vn vk σ
  hr : sget σ jr = some (.list (done.map Row.pv))
  ok : ∀ q ∈ done, RowOK es q ∧ Br es num d q.item q.blks
  due : match hitR fg done with
    | none => due = .none
    | some q => ∃ j, due = .obj j ∧ sget σ j = some (.list q.blks) ∧ j ≠ r ∧ j ≠ jr ∧ σ0.length ≤ j
  oth : ∃ j, oth = .obj j ∧ sget σ j = some (.list (blksOf (dflR none done))) ∧ j ≠ r ∧ j ≠ jr ∧ σ0.length ≤ j
  lt : Lt r σ0 σ
theorem ChF.bind {jr : Nat} {dp us : Int} {fg : Option Int} {asked : PV} {ρ : Loc} (F : ChF r tv jr dp num us fg asked ρ) (ρ' : Loc) (h : ∀ x, x ∈ [nRow, nValues, nDeep, nNumber, nFigure, nRows, nUsual, nAsked] → lk x ρ' = lk x ρ) : ChF r tv jr dp num us fg asked ρ' :=
  ⟨(h _ (by decide)).trans F.row, (h _ (by decide)).trans F.val, (h _ (by decide)).trans F.deep, (h _ (by decide)).trans F.num, (h _ (by decide)).trans F.fig, (h _ (by decide)).trans F.rows, (h _ (by decide)).trans F.us, (h _ (by decide)).trans F.ask⟩
/-- one step of the store -/
theorem ChS.step {jr : Nat} {fg : Option Int} {d : Nat} {σ0 σ σ' : Sto} {due oth : PV} {done : List Row} (I : ChS es num r tv jr vn vk fg d σ0 σ due oth done) (hjr : jr ≠ r) (hne : tv ≠ r) (l : Lt r σ σ') (R : IsRow r σ') : ChS es num r tv jr vn vk fg d σ0 σ' due oth done := by
  refine ⟨R, I.val.lt hne l, l _ _ hjr I.hr, I.ok, ?_, ?_, I.lt.trans l⟩
  · have := I.due
    revert this
    cases hitR fg done with
    | none => exact id
    | some q => rintro ⟨j, a, b, c, e, f⟩; exact ⟨j, a, l _ _ c b, c, e, f⟩
  · obtain ⟨j, a, b, c, e, f⟩ := I.oth
    exact ⟨j, a, l _ _ c b, c, e, f⟩
theorem keep_of {x y : Txt} {ρ : Loc} {a b : PV} (h1 : lk x ρ = some a) (h2 : lk y ρ = some b) : allIn [x, y] ρ = true ∧ keepL [x, y] ρ = [(x, a), (y, b)] := by
  refine ⟨?_, ?_⟩
  · show ((lk x ρ).isSome && ((lk y ρ).isSome && true)) = true
    rw [h1, h2]; rfl
  · show kpO x (lk x ρ) (kpO y (lk y ρ) []) = _
    rw [h1, h2]; rfl
theorem turns {jr d : Nat} {dp us : Int} {fg : Option Int} {asked : PV} {σ0 : Sto} {K : KontS} (hne : tv ≠ r) (hjr : jr ≠ r) (hj0 : σ0.length ≤ jr) (htv : tv < σ0.length) (hr0 : r < σ0.length) (hn : 5 ≤ n) (HB : BrH sc es num r tv vn vk d dp n) :
    ∀ (l : List Int) (q : Nat) (ρ : Loc) (σ : Sto) (due oth : PV) (done : List Row), l.length + 150 ≤ q → done.length + l.length ≤ 10 → ChF r tv jr dp num us fg asked ρ → ChS es num r tv jr vn vk fg d σ0 σ due oth done → lk nDue ρ = some due → lk nOther ρ = some oth →
      (∀ ρ' σ' due' oth' done', done'.length = done.length + l.length → ChF r tv jr dp num us fg asked ρ' → ChS es num r tv jr vn vk fg d σ0 σ' due' oth' done' → lk nDue ρ' = some due' → lk nOther ρ' = some oth' → K .nxt ρ' σ') →
      frC (opsN (tab sc) n) q [nTurn] true chB none [] (l.map PV.int) ρ σ K
  | [], q, ρ, σ, due, oth, done, hq, hz, F, I, h1, h2, hK => by
    obtain ⟨q, rfl⟩ : ∃ q', q = q' + 131 := ⟨q - 131, by omega⟩
    conv => whnf
    repeat (refine ⟨by first | exact True.intro | decide | exact Nat.le_of_ble_eq_true rfl, ?_⟩; conv => whnf)
    exact hK ρ σ due oth done rfl F I h1 h2
  | x :: l, q, ρ, σ, due, oth, done, hq, hz, F, I, h1, h2, hK => by
    obtain ⟨q, rfl⟩ : ∃ q', q = q' + 131 := ⟨q - 131, by omega⟩
    rw [List.length_cons] at hq hz
    conv => whnf
    repeat (refine ⟨by first | exact True.intro | decide | exact Nat.le_of_ble_eq_true rfl, ?_⟩; conv => whnf)
    have F1 : ChF r tv jr dp num us fg asked (stL nTurn (.int x) ρ) := F.bind _ (fun y hy => lk_ne (by revert y; decide) _ _)
    have gT : lk nTurn (stL nTurn (.int x) ρ) = some (.int x) := lk_eq _ _ _
    have gD : lk nDue (stL nTurn (.int x) ρ) = some due := (lk_ne rfl _ _).trans h1
    have gO : lk nOther (stL nTurn (.int x) ρ) = some oth := (lk_ne rfl _ _).trans h2
    obtain ⟨ka, kb⟩ := keep_of F1.row F1.val
    change onTT (allIn [nRow, nValues] (stL nTurn (.int x) ρ)) _
    generalize stL nTurn (.int x) ρ = ρ1 at F1 gT gD gO ka kb ⊢
    rw [ka]
    conv => whnf
    repeat (refine ⟨by first | exact True.intro | decide | exact Nat.le_of_ble_eq_true rfl, ?_⟩; conv => whnf)
    rw [F1.row]
    conv => whnf
    repeat (refine ⟨by first | exact True.intro | decide | exact Nat.le_of_ble_eq_true rfl, ?_⟩; conv => whnf)
    refine c_next I.row (by omega) ?_
    intro y σ1 l1 R1
    conv => whnf
    repeat (refine ⟨by first | exact True.intro | decide | exact Nat.le_of_ble_eq_true rfl, ?_⟩; conv => whnf)
    obtain ⟨p1, p2⟩ := fm_lt y 2 (by decide)
    generalize y.fmod (Int.ofNat 2) = p at p1 p2 ⊢
    have hp : small (Int.ofNat 1 + p) ∧ -1000 ≤ Int.ofNat 1 + p ∧ Int.ofNat 1 + p ≤ 1000 ∧ (Int.ofNat 1 + p).toNat ≤ 2 := by
      refine ⟨?_, ?_, ?_, ?_⟩ <;> (show _; simp only [Int.ofNat_eq_natCast]; omega)
    generalize Int.ofNat 1 + p = p at hp ⊢
    obtain ⟨hp0, hp1, hp2, hp3⟩ := hp
    refine ⟨hp0, ?_⟩
    refine And.intro hp1 (And.intro hp2 ?_)
    rw [show keepL [[114, 111, 119], [118, 97, 108, 117, 101, 115]] ρ1 = _ from kb]
    refine lab_comp hne (by omega) _ _ σ1 (Nat.le_trans (m := 50) (by simp; omega) (by omega)) R1 (I.val.lt hne l1) ?_
    intro ls σ2 hls hA l2 R2
    have hls2 : ls.length ≤ 2 := by rw [hls]; simpa using hp3
    conv => whnf
    repeat (refine ⟨by first | exact True.intro | decide | exact Nat.le_of_ble_eq_true rfl, ?_⟩; conv => whnf)
    have lt3 : Lt r σ (σ2 ++ [PO.list (ls.map pairP)]) := (l1.trans l2).trans (.le (Le.app _ _))
    have I3 := I.step hjr hne lt3 (R2.le (Le.app _ _))
    have hL3 : sget (σ2 ++ [PO.list (ls.map pairP)]) σ2.length = some (.list (ls.map pairP)) := by rw [sgetA0]; rfl
    have hlen3 : σ0.length ≤ (σ2 ++ [PO.list (ls.map pairP)]).length := I3.lt.len I3.row
    have hLr : σ2.length ≠ r := by have := (I.lt.trans (l1.trans l2)).len R2; omega
    have hLj : σ2.length ≠ jr := by have := sget_lt ((l1.trans l2) _ _ hjr I.hr); omega
    change match lk nRow (stL nLabels (.obj σ2.length) ρ1) with | some d => _ | none => _
    have F2 : ChF r tv jr dp num us fg asked (stL nLabels (.obj σ2.length) ρ1) := F1.bind _ (fun y hy => lk_ne (by revert y; decide) _ _)
    have gT2 : lk nTurn (stL nLabels (.obj σ2.length) ρ1) = some (.int x) := (lk_ne rfl _ _).trans gT
    have gD2 : lk nDue (stL nLabels (.obj σ2.length) ρ1) = some due := (lk_ne rfl _ _).trans gD
    have gO2 : lk nOther (stL nLabels (.obj σ2.length) ρ1) = some oth := (lk_ne rfl _ _).trans gO
    have gL2 : lk nLabels (stL nLabels (.obj σ2.length) ρ1) = some (.obj σ2.length) := lk_eq _ _ _
    generalize stL nLabels (.obj σ2.length) ρ1 = ρ2 at F2 gT2 gD2 gO2 gL2 ⊢
    generalize σ2 ++ [PO.list (ls.map pairP)] = σ3 at lt3 I3 hL3 hlen3 ⊢
    rw [F2.row]
    conv => whnf
    repeat (refine ⟨by first | exact True.intro | decide | exact Nat.le_of_ble_eq_true rfl, ?_⟩; conv => whnf)
    rw [F2.val]
    conv => whnf
    repeat (refine ⟨by first | exact True.intro | decide | exact Nat.le_of_ble_eq_true rfl, ?_⟩; conv => whnf)
    rw [F2.deep]
    conv => whnf
    repeat (refine ⟨by first | exact True.intro | decide | exact Nat.le_of_ble_eq_true rfl, ?_⟩; conv => whnf)
    rw [F2.num]
    conv => whnf
    repeat (refine ⟨by first | exact True.intro | decide | exact Nat.le_of_ble_eq_true rfl, ?_⟩; conv => whnf)
    refine HB _ _ I3.row I3.val ?_
    intro item j b σ4 l4 R4 hj hb B
    have I4 := I3.step hjr hne l4 R4
    have hL4 := l4 _ _ hLr hL3
    have hjr4 : j ≠ jr := by have := sget_lt I3.hr; omega
    have hjr5 : j ≠ r := by have := sget_lt I3.row.choose_spec.1; omega
    conv => whnf
    repeat (refine ⟨by first | exact True.intro | decide | exact Nat.le_of_ble_eq_true rfl, ?_⟩; conv => whnf)
    change match lk nTurn (stL nBlocks (.obj j) (stL nItem item ρ2)) with | some d => _ | none => _
    have F3 : ChF r tv jr dp num us fg asked (stL nBlocks (.obj j) (stL nItem item ρ2)) := F2.bind _ (fun y hy => (lk_ne (by revert y; decide) _ _).trans (lk_ne (by revert y; decide) _ _))
    have gT3 : lk nTurn (stL nBlocks (.obj j) (stL nItem item ρ2)) = some (.int x) := (lk_ne rfl _ _).trans ((lk_ne rfl _ _).trans gT2)
    have gD3 : lk nDue (stL nBlocks (.obj j) (stL nItem item ρ2)) = some due := (lk_ne rfl _ _).trans ((lk_ne rfl _ _).trans gD2)
    have gO3 : lk nOther (stL nBlocks (.obj j) (stL nItem item ρ2)) = some oth := (lk_ne rfl _ _).trans ((lk_ne rfl _ _).trans gO2)
    have gL3 : lk nLabels (stL nBlocks (.obj j) (stL nItem item ρ2)) = some (.obj σ2.length) := (lk_ne rfl _ _).trans ((lk_ne rfl _ _).trans gL2)
    have gI3 : lk nItem (stL nBlocks (.obj j) (stL nItem item ρ2)) = some item := (lk_ne rfl _ _).trans (lk_eq _ _ _)
    have gB3 : lk nBlocks (stL nBlocks (.obj j) (stL nItem item ρ2)) = some (.obj j) := lk_eq _ _ _
    generalize stL nBlocks (.obj j) (stL nItem item ρ2) = ρ3 at F3 gT3 gD3 gO3 gL3 gI3 gB3 ⊢
    clear F1 F2 gT gD gO gT2 gD2 gO2 gL2 ka kb
    rw [gT3]
    conv => whnf
    repeat (refine ⟨by first | exact True.intro | decide | exact Nat.le_of_ble_eq_true rfl, ?_⟩; conv => whnf)
    rw [F3.us]
    conv => whnf
    repeat (refine ⟨by first | exact True.intro | decide | exact Nat.le_of_ble_eq_true rfl, ?_⟩; conv => whnf)
    split
    · rename_i c
      conv => whnf
      repeat (refine ⟨by first | exact True.intro | decide | exact Nat.le_of_ble_eq_true rfl, ?_⟩; conv => whnf)
      rw [F3.rows]
      conv => whnf
      repeat (refine ⟨by first | exact True.intro | decide | exact Nat.le_of_ble_eq_true rfl, ?_⟩; conv => whnf)
      rw [mk_lst I4.hr rfl]
      conv => whnf
      repeat (refine ⟨by first | exact True.intro | decide | exact Nat.le_of_ble_eq_true rfl, ?_⟩; conv => whnf)
      rw [gI3]
      conv => whnf
      repeat (refine ⟨by first | exact True.intro | decide | exact Nat.le_of_ble_eq_true rfl, ?_⟩; conv => whnf)
      rw [I4.hr]
      conv => whnf
      repeat (refine ⟨by first | exact True.intro | decide | exact Nat.le_of_ble_eq_true rfl, ?_⟩; conv => whnf)
      refine ⟨by simp; omega, ?_⟩
      refine app_step I4.hr ?_
      intro σ5 e1 e2
      conv => whnf
      repeat (refine ⟨by first | exact True.intro | decide | exact Nat.le_of_ble_eq_true rfl, ?_⟩; conv => whnf)
      rw [gB3]
      conv => whnf
      repeat (refine ⟨by first | exact True.intro | decide | exact Nat.le_of_ble_eq_true rfl, ?_⟩; conv => whnf)
      have keep : Lt jr σ4 σ5 := fun i o hi ho => (e2 i hi).trans ho
      have I5 : ChS es num r tv jr vn vk fg d σ0 σ5 due (.obj j) (done ++ [⟨none, item, b⟩]) := by
        obtain ⟨lr, hr1, hr2⟩ := I4.row
        refine ⟨⟨lr, keep _ _ (Ne.symm hjr) hr1, hr2⟩, ⟨keep _ _ (by omega) I4.val.d, I4.val.n, I4.val.k, I4.val.bn, I4.val.bk⟩, by rw [e1]; simp [Row.pv], ?_, ?_, ?_, ?_⟩
        · intro q hq
          rcases List.mem_append.mp hq with hq | hq
          · exact I4.ok q hq
          · cases List.mem_singleton.mp hq
            exact ⟨(fun l hl => by cases hl), B⟩
        · have := I4.due
          rw [hitR_snoc]
          revert this
          cases hitR fg done with
          | none => intro e; simpa [hits] using e
          | some q => rintro ⟨j', a, b, c, e, f⟩; exact ⟨j', a, keep _ _ e b, c, e, f⟩
        · rw [dflR_snoc]
          exact ⟨j, rfl, keep _ _ hjr4 hb, hjr5, hjr4, by omega⟩
        · exact fun i o hi ho => keep _ _ (by have := sget_lt ho; omega) (I4.lt _ _ hi ho)
      refine turns hne hjr hj0 htv hr0 hn HB l (q + 130) (stL nOther (.obj j) ρ3) σ5 due (.obj j) (done ++ [⟨none, item, b⟩]) (by omega) (by rw [List.length_append, List.length_singleton]; omega) (F3.bind _ (fun y hy => lk_ne (by revert y; decide) _ _)) I5 ((lk_ne rfl _ _).trans gD3) (lk_eq _ _ _) ?_
      intro ρ' σ' due' oth' done' hd' F' I' g1 g2
      exact hK ρ' σ' due' oth' done' (by rw [hd']; simp; omega) F' I' g1 g2
    · rename_i c
      conv => whnf
      repeat (refine ⟨by first | exact True.intro | decide | exact Nat.le_of_ble_eq_true rfl, ?_⟩; conv => whnf)
      rw [F3.rows]
      conv => whnf
      repeat (refine ⟨by first | exact True.intro | decide | exact Nat.le_of_ble_eq_true rfl, ?_⟩; conv => whnf)
      rw [mk_lst I4.hr rfl]
      conv => whnf
      repeat (refine ⟨by first | exact True.intro | decide | exact Nat.le_of_ble_eq_true rfl, ?_⟩; conv => whnf)
      rw [gL3]
      conv => whnf
      repeat (refine ⟨by first | exact True.intro | decide | exact Nat.le_of_ble_eq_true rfl, ?_⟩; conv => whnf)
      rw [hL4]
      conv => whnf
      repeat (refine ⟨by first | exact True.intro | decide | exact Nat.le_of_ble_eq_true rfl, ?_⟩; conv => whnf)
      refine ⟨by simp; omega, ?_⟩
      refine comp0 hL4 ls _ (Nat.le_trans (m := 50) (by omega) (by omega)) ?_
      conv => whnf
      repeat (refine ⟨by first | exact True.intro | decide | exact Nat.le_of_ble_eq_true rfl, ?_⟩; conv => whnf)
      rw [seq_obj (l := ls.map (·.1)) (by rw [sgetA0]; rfl)]
      conv => whnf
      repeat (refine ⟨by first | exact True.intro | decide | exact Nat.le_of_ble_eq_true rfl, ?_⟩; conv => whnf)
      refine ⟨by simp; omega, ?_⟩
      conv => whnf
      repeat (refine ⟨by first | exact True.intro | decide | exact Nat.le_of_ble_eq_true rfl, ?_⟩; conv => whnf)
      rw [gI3]
      conv => whnf
      repeat (refine ⟨by first | exact True.intro | decide | exact Nat.le_of_ble_eq_true rfl, ?_⟩; conv => whnf)
      rw [sget_app _ I4.hr]
      conv => whnf
      repeat (refine ⟨by first | exact True.intro | decide | exact Nat.le_of_ble_eq_true rfl, ?_⟩; conv => whnf)
      refine ⟨by simp; omega, ?_⟩
      refine app_step (sget_app _ I4.hr) ?_
      intro σ5 e1 e2
      have keep : Lt jr σ4 σ5 := fun i o hi ho => (e2 i hi).trans (sget_app _ ho)
      have hL5 := keep _ _ hLj hL4
      have RO : RowOK es ⟨some ls, item, b⟩ := fun l hl => by
        cases hl
        exact ⟨hls2, fun p hp => (hA p hp).am⟩
      have base : ∀ due', (match hitR fg (done ++ [⟨some ls, item, b⟩]) with | none => due' = .none | some q => ∃ j, due' = .obj j ∧ sget σ5 j = some (.list q.blks) ∧ j ≠ r ∧ j ≠ jr ∧ σ0.length ≤ j) → ChS es num r tv jr vn vk fg d σ0 σ5 due' oth (done ++ [⟨some ls, item, b⟩]) := by
        intro due' hdue
        obtain ⟨lr, hr1, hr2⟩ := I4.row
        refine ⟨⟨lr, keep _ _ (Ne.symm hjr) hr1, hr2⟩, ⟨keep _ _ (by omega) I4.val.d, I4.val.n, I4.val.k, I4.val.bn, I4.val.bk⟩, by rw [e1]; simp [Row.pv], ?_, hdue, ?_, ?_⟩
        · intro q hq
          rcases List.mem_append.mp hq with hq | hq
          · exact I4.ok q hq
          · cases List.mem_singleton.mp hq
            exact ⟨RO, B⟩
        · rw [dflR_snoc]
          obtain ⟨j', a, b, c, e, f⟩ := I4.oth
          exact ⟨j', a, keep _ _ e b, c, e, f⟩
        · exact fun i o hi ho => keep _ _ (by have := sget_lt ho; omega) (I4.lt _ _ hi ho)
      have du := I4.due
      conv => whnf
      repeat (refine ⟨by first | exact True.intro | decide | exact Nat.le_of_ble_eq_true rfl, ?_⟩; conv => whnf)
      rw [gD3]
      conv => whnf
      repeat (refine ⟨by first | exact True.intro | decide | exact Nat.le_of_ble_eq_true rfl, ?_⟩; conv => whnf)
      cases hq : hitR fg done with
      | none =>
        rw [hq] at du
        have du : due = .none := du
        subst du
        conv => whnf
        repeat (refine ⟨by first | exact True.intro | decide | exact Nat.le_of_ble_eq_true rfl, ?_⟩; conv => whnf)
        rw [F3.fig]
        conv => whnf
        repeat (refine ⟨by first | exact True.intro | decide | exact Nat.le_of_ble_eq_true rfl, ?_⟩; conv => whnf)
        rw [gL3]
        conv => whnf
        repeat (refine ⟨by first | exact True.intro | decide | exact Nat.le_of_ble_eq_true rfl, ?_⟩; conv => whnf)
        rw [hL5]
        conv => whnf
        repeat (refine ⟨by first | exact True.intro | decide | exact Nat.le_of_ble_eq_true rfl, ?_⟩; conv => whnf)
        refine ⟨by simp; omega, ?_⟩
        refine comp1 hL5 ls _ (Nat.le_trans (m := 50) (by omega) (by omega)) ?_
        cases fg with
        | none =>
            conv => whnf
            repeat (refine ⟨by first | exact True.intro | decide | exact Nat.le_of_ble_eq_true rfl, ?_⟩; conv => whnf)
            rw [sgetA0]
            conv => whnf
            repeat (refine ⟨by first | exact True.intro | decide | exact Nat.le_of_ble_eq_true rfl, ?_⟩; conv => whnf)
            rw [toPys_ov2]
            conv => whnf
            repeat (refine ⟨by first | exact True.intro | decide | exact Nat.le_of_ble_eq_true rfl, ?_⟩; conv => whnf)
            refine ⟨shaped_ovs _, shaped_ov none, ?_⟩
            dsimp only
            rw [show ∀ l, (List.any l fun y => PyData.eqv y PyData.none) = List.any l fun y => PyData.eqv y (pyO none) from fun _ => rfl, any_ov]
            have lt6 : Lt r σ5 (σ5 ++ [PO.list (ls.map fun p => ov p.2)]) := .le (Le.app _ _)
            have hh : hits none ⟨some ls, item, b⟩ = ls.any fun p => decide (p.2 = none) := rfl
            generalize (ls.any fun p => decide (p.2 = none)) = g at hh ⊢
            cases g with
            | true =>
              conv => whnf
              repeat (refine ⟨by first | exact True.intro | decide | exact Nat.le_of_ble_eq_true rfl, ?_⟩; conv => whnf)
              rw [gB3]
              conv => whnf
              repeat (refine ⟨by first | exact True.intro | decide | exact Nat.le_of_ble_eq_true rfl, ?_⟩; conv => whnf)
              have hdue : (match hitR none (done ++ [⟨some ls, item, b⟩]) with | none => PV.obj j = .none | some q => ∃ j', PV.obj j = .obj j' ∧ sget σ5 j' = some (.list q.blks) ∧ j' ≠ r ∧ j' ≠ jr ∧ σ0.length ≤ j') := by
                rw [hitR_snoc, hq, hh]
                exact ⟨j, rfl, keep _ _ hjr4 hb, hjr5, hjr4, by omega⟩
              have I6 := (base _ hdue).step hjr hne lt6 ((base _ hdue).row.le (Le.app _ _))
              refine turns hne hjr hj0 htv hr0 hn HB l (q + 130) (stL nDue (.obj j) ρ3) _ (.obj j) oth _ (by omega) (by rw [List.length_append, List.length_singleton]; omega) (F3.bind _ (fun y hy => lk_ne (by revert y; decide) _ _)) I6 (lk_eq _ _ _) ((lk_ne rfl _ _).trans gO3) ?_
              intro ρ' σ' due' oth' done' hd' F' I' g1 g2
              exact hK ρ' σ' due' oth' done' (by rw [hd']; simp; omega) F' I' g1 g2
            | false =>
              conv => whnf
              repeat (refine ⟨by first | exact True.intro | decide | exact Nat.le_of_ble_eq_true rfl, ?_⟩; conv => whnf)
              have hdue : (match hitR none (done ++ [⟨some ls, item, b⟩]) with | none => PV.none = .none | some q => ∃ j', PV.none = .obj j' ∧ sget σ5 j' = some (.list q.blks) ∧ j' ≠ r ∧ j' ≠ jr ∧ σ0.length ≤ j') := by
                rw [hitR_snoc, hq, hh]
                rfl
              have I6 := (base _ hdue).step hjr hne lt6 ((base _ hdue).row.le (Le.app _ _))
              refine turns hne hjr hj0 htv hr0 hn HB l (q + 130) ρ3 _ .none oth _ (by omega) (by rw [List.length_append, List.length_singleton]; omega) F3 I6 gD3 gO3 ?_
              intro ρ' σ' due' oth' done' hd' F' I' g1 g2
              exact hK ρ' σ' due' oth' done' (by rw [hd']; simp; omega) F' I' g1 g2
        | some f =>
            conv => whnf
            repeat (refine ⟨by first | exact True.intro | decide | exact Nat.le_of_ble_eq_true rfl, ?_⟩; conv => whnf)
            rw [sgetA0]
            conv => whnf
            repeat (refine ⟨by first | exact True.intro | decide | exact Nat.le_of_ble_eq_true rfl, ?_⟩; conv => whnf)
            rw [toPys_ov2]
            conv => whnf
            repeat (refine ⟨by first | exact True.intro | decide | exact Nat.le_of_ble_eq_true rfl, ?_⟩; conv => whnf)
            refine ⟨shaped_ovs _, shaped_ov (some f), ?_⟩
            dsimp only
            rw [show ∀ l, (List.any l fun y => PyData.eqv y (PyData.int f)) = List.any l fun y => PyData.eqv y (pyO (some f)) from fun _ => rfl, any_ov]
            have lt6 : Lt r σ5 (σ5 ++ [PO.list (ls.map fun p => ov p.2)]) := .le (Le.app _ _)
            have hh : hits (some f) ⟨some ls, item, b⟩ = ls.any fun p => decide (p.2 = (some f)) := rfl
            generalize (ls.any fun p => decide (p.2 = (some f))) = g at hh ⊢
            cases g with
            | true =>
              conv => whnf
              repeat (refine ⟨by first | exact True.intro | decide | exact Nat.le_of_ble_eq_true rfl, ?_⟩; conv => whnf)
              rw [gB3]
              conv => whnf
              repeat (refine ⟨by first | exact True.intro | decide | exact Nat.le_of_ble_eq_true rfl, ?_⟩; conv => whnf)
              have hdue : (match hitR (some f) (done ++ [⟨some ls, item, b⟩]) with | none => PV.obj j = .none | some q => ∃ j', PV.obj j = .obj j' ∧ sget σ5 j' = some (.list q.blks) ∧ j' ≠ r ∧ j' ≠ jr ∧ σ0.length ≤ j') := by
                rw [hitR_snoc, hq, hh]
                exact ⟨j, rfl, keep _ _ hjr4 hb, hjr5, hjr4, by omega⟩
              have I6 := (base _ hdue).step hjr hne lt6 ((base _ hdue).row.le (Le.app _ _))
              refine turns hne hjr hj0 htv hr0 hn HB l (q + 130) (stL nDue (.obj j) ρ3) _ (.obj j) oth _ (by omega) (by rw [List.length_append, List.length_singleton]; omega) (F3.bind _ (fun y hy => lk_ne (by revert y; decide) _ _)) I6 (lk_eq _ _ _) ((lk_ne rfl _ _).trans gO3) ?_
              intro ρ' σ' due' oth' done' hd' F' I' g1 g2
              exact hK ρ' σ' due' oth' done' (by rw [hd']; simp; omega) F' I' g1 g2
            | false =>
              conv => whnf
              repeat (refine ⟨by first | exact True.intro | decide | exact Nat.le_of_ble_eq_true rfl, ?_⟩; conv => whnf)
              have hdue : (match hitR (some f) (done ++ [⟨some ls, item, b⟩]) with | none => PV.none = .none | some q => ∃ j', PV.none = .obj j' ∧ sget σ5 j' = some (.list q.blks) ∧ j' ≠ r ∧ j' ≠ jr ∧ σ0.length ≤ j') := by
                rw [hitR_snoc, hq, hh]
                rfl
              have I6 := (base _ hdue).step hjr hne lt6 ((base _ hdue).row.le (Le.app _ _))
              refine turns hne hjr hj0 htv hr0 hn HB l (q + 130) ρ3 _ .none oth _ (by omega) (by rw [List.length_append, List.length_singleton]; omega) F3 I6 gD3 gO3 ?_
              intro ρ' σ' due' oth' done' hd' F' I' g1 g2
              exact hK ρ' σ' due' oth' done' (by rw [hd']; simp; omega) F' I' g1 g2
      | some q' =>
        rw [hq] at du
        obtain ⟨j', rfl, du1, du2, du3, du4⟩ := du
        conv => whnf
        repeat (refine ⟨by first | exact True.intro | decide | exact Nat.le_of_ble_eq_true rfl, ?_⟩; conv => whnf)
        have hdue : (match hitR fg (done ++ [⟨some ls, item, b⟩]) with | none => PV.obj j' = .none | some q => ∃ j, PV.obj j' = .obj j ∧ sget σ5 j = some (.list q.blks) ∧ j ≠ r ∧ j ≠ jr ∧ σ0.length ≤ j) := by
          rw [hitR_snoc, hq]
          exact ⟨j', rfl, keep _ _ du3 du1, du2, du3, du4⟩
        refine turns hne hjr hj0 htv hr0 hn HB l (q + 130) ρ3 _ (.obj j') oth _ (by omega) (by rw [List.length_append, List.length_singleton]; omega) F3 (base _ hdue) gD3 gO3 ?_
        intro ρ' σ' due' oth' done' hd' F' I' g1 g2
        exact hK ρ' σ' due' oth' done' (by rw [hd']; simp; omega) F' I' g1 g2
end
section
set_option linter.unusedSimpArgs false
set_option linter.unusedVariables false
variable {sc : Option (Addr × List PV)} {n : Nat} {σ : Sto} {k : Kont} {es : List (Txt × PV)} {num : Int} {r tv : Nat} {vn vk : Option Int}
noncomputable def LCh (es : List (Txt × PV)) (num : Int) (r : Nat) (d : Nat) (σ : Sto) (k : Kont) : Prop := ∀ item j b σ', Lt r σ σ' → IsRow r σ' → σ.length ≤ j → sget σ' j = some (.list b) → Br es num (d + 1) item b → IsCh item → k (.tup [item, .obj j]) σ'
theorem c_lchoice {d : Nat} {dp : Int} (hne : tv ≠ r) (HB : BrH sc es num r tv vn vk d dp n) (hn : 6 ≤ n) (R : IsRow r σ) (V : Val es tv vn vk σ) (h : LCh es num r d σ k) : CLn (tab sc) (n + 1) 1333 [.obj r, .obj tv, .int dp, .int num] σ k := by
  have hr0 := sget_lt R.choose_spec.1
  refine CLn_fn rfl rfl ?_
  conv => whnf
  repeat (refine ⟨by first | exact True.intro | decide | exact Nat.le_of_ble_eq_true rfl, ?_⟩; conv => whnf)
  refine c_next R (by omega) ?_
  intro x σ1 l1 R1
  have V1 := V.lt hne l1
  conv => whnf
  repeat (refine ⟨by first | exact True.intro | decide | exact Nat.le_of_ble_eq_true rfl, ?_⟩; conv => whnf)
  obtain ⟨q1, q2⟩ := fm_lt x 2 (by decide)
  generalize x.fmod (Int.ofNat 2) = q at q1 q2 ⊢
  rcases (show q = 0 ∨ q = 1 by omega) with rfl | rfl
  · conv => whnf
    repeat (refine ⟨by first | exact True.intro | decide | exact Nat.le_of_ble_eq_true rfl, ?_⟩; conv => whnf)
    refine c_ltest hne (by omega) R1 V1 ?_
    intro t g σ2 l2 R2 T
    have V2 := V1.lt hne l2
    conv => whnf
    repeat (refine ⟨by first | exact True.intro | decide | exact Nat.le_of_ble_eq_true rfl, ?_⟩; conv => whnf)
    refine HB _ _ R2 V2 ?_
    intro one j1 b1 σ3 l3 R3 hj1 hb1 B1
    have V3 := V2.lt hne l3
    conv => whnf
    repeat (refine ⟨by first | exact True.intro | decide | exact Nat.le_of_ble_eq_true rfl, ?_⟩; conv => whnf)
    refine HB _ _ R3 V3 ?_
    intro two j2 b2 σ4 l4 R4 hj2 hb2 B2
    obtain ⟨o, d1, d2, u, v, A1, A2, rfl, hg⟩ := T
    have Bb := Br.ife (num := num) (o := o) A1.am A2.am B1 B2
    have e12 := l1.trans l2
    have z1 := e12.len R2
    have z2 := (e12.trans l3).len R3
    cases g with
    | true =>
      conv => whnf
      repeat (refine ⟨by first | exact True.intro | decide | exact Nat.le_of_ble_eq_true rfl, ?_⟩; conv => whnf)
      have hg' : cmpO o.f u v = some true := of_decide_eq_true hg.symm
      rw [if_pos hg'] at Bb
      exact h _ _ b1 _ ((e12.trans l3).trans l4) R4 (by omega) (l4 _ _ (by omega) hb1) Bb (.inl ⟨_, _, _, _, rfl⟩)
    | false =>
      conv => whnf
      repeat (refine ⟨by first | exact True.intro | decide | exact Nat.le_of_ble_eq_true rfl, ?_⟩; conv => whnf)
      have hg' : ¬ cmpO o.f u v = some true := of_decide_eq_false hg.symm
      rw [if_neg hg'] at Bb
      exact h _ _ b2 _ ((e12.trans l3).trans l4) R4 (by omega) hb2 Bb (.inl ⟨_, _, _, _, rfl⟩)
  · conv => whnf
    repeat (refine ⟨by first | exact True.intro | decide | exact Nat.le_of_ble_eq_true rfl, ?_⟩; conv => whnf)
    refine c_amountD hne (by omega) R1 V1 ?_
    intro asked fg σ2 l2 R2 A
    have V2 := V1.lt hne l2
    have e12 := l1.trans l2
    have z1 := e12.len R2
    have hr2 := sget_lt R2.choose_spec.1
    have htv2 := sget_lt V2.d
    conv => whnf
    repeat (refine ⟨by first | exact True.intro | decide | exact Nat.le_of_ble_eq_true rfl, ?_⟩; conv => whnf)
    refine c_next ((R2.le (Le.app _ _)).le (Le.app _ _)) (by omega) ?_
    intro y σ3 l3 R3
    conv => whnf
    repeat (refine ⟨by first | exact True.intro | decide | exact Nat.le_of_ble_eq_true rfl, ?_⟩; conv => whnf)
    refine c_next R3 (by omega) ?_
    intro z σ4 l4 R4
    have l34 := l3.trans l4
    have g1 : sget σ4 σ2.length = some (.list []) := l34 _ _ (by omega) (sget_app _ (by rw [sgetA0]; rfl))
    have g2 : sget σ4 (σ2 ++ [PO.list []]).length = some (.list []) := l34 _ _ (by simp; omega) (by rw [sgetA0]; rfl)
    have lt24 : Lt r σ2 σ4 := ((Lt.le (Le.app _ _)).trans (.le (Le.app _ _))).trans l34
    have V4 := V2.lt hne lt24
    conv => whnf
    repeat (refine ⟨by first | exact True.intro | decide | exact Nat.le_of_ble_eq_true rfl, ?_⟩; conv => whnf)
    obtain ⟨p1, p2⟩ := fm_lt z 4 (by decide)
    generalize z.fmod (Int.ofNat 4) = p at p1 p2 ⊢
    refine ⟨by show p.natAbs < 2 ^ 64; omega, ?_⟩
    conv => whnf
    repeat (refine ⟨by first | exact True.intro | decide | exact Nat.le_of_ble_eq_true rfl, ?_⟩; conv => whnf)
    refine ⟨by show -1000 ≤ p; omega, by show p ≤ 1000; omega, ?_⟩
    rw [show (List.range p.toNat).map (fun (i : Nat) => PV.int (i : Int)) = ((List.range p.toNat).map fun (i : Nat) => (i : Int)).map PV.int from by rw [List.map_map]; rfl]
    refine turns (d := d) (dp := dp) (fg := fg) (asked := asked) (us := y.fmod 5) (jr := σ2.length) (σ0 := σ2) hne (by omega) (Nat.le_refl _) htv2 hr2 (by omega) HB _ _ _ σ4 .none (.obj (σ2 ++ [PO.list []]).length) [] (Nat.le_trans (m := 160) (by simp; omega) (by decide)) (by simp; omega) ⟨rfl, rfl, rfl, rfl, rfl, rfl, rfl, rfl⟩ ⟨R4, V4, g1, (fun _ h => nomatch h), rfl, ⟨_, rfl, g2, by simp; omega, by simp, by simp⟩, lt24⟩ rfl rfl ?_
    intro ρ' σ5 due oth done hlen F I hd ho
    have hdl : done.length ≤ 4 := by rw [hlen]; simp; omega
    obtain ⟨jo, rfl, o1, o2, o3, o4⟩ := I.oth
    have Bb := Br.cas (es := es) (num := num) (m := d) A.am hdl (fun q hq => (I.ok q hq).1) (fun q hq => (I.ok q hq).2)
    conv => whnf
    repeat (refine ⟨by first | exact True.intro | decide | exact Nat.le_of_ble_eq_true rfl, ?_⟩; conv => whnf)
    rw [F.ask]
    conv => whnf
    repeat (refine ⟨by first | exact True.intro | decide | exact Nat.le_of_ble_eq_true rfl, ?_⟩; conv => whnf)
    rw [F.rows]
    conv => whnf
    repeat (refine ⟨by first | exact True.intro | decide | exact Nat.le_of_ble_eq_true rfl, ?_⟩; conv => whnf)
    rw [seq_obj I.hr]
    conv => whnf
    repeat (refine ⟨by first | exact True.intro | decide | exact Nat.le_of_ble_eq_true rfl, ?_⟩; conv => whnf)
    refine ⟨by simp; omega, ?_⟩
    conv => whnf
    repeat (refine ⟨by first | exact True.intro | decide | exact Nat.le_of_ble_eq_true rfl, ?_⟩; conv => whnf)
    rw [hd]
    conv => whnf
    repeat (refine ⟨by first | exact True.intro | decide | exact Nat.le_of_ble_eq_true rfl, ?_⟩; conv => whnf)
    have du := I.due
    cases hq : hitR fg done with
    | none =>
      rw [hq] at du
      have du : due = .none := du
      subst du
      conv => whnf
      repeat (refine ⟨by first | exact True.intro | decide | exact Nat.le_of_ble_eq_true rfl, ?_⟩; conv => whnf)
      rw [ho]
      conv => whnf
      repeat (refine ⟨by first | exact True.intro | decide | exact Nat.le_of_ble_eq_true rfl, ?_⟩; conv => whnf)
      exact h _ _ _ _ (e12.trans I.lt) I.row (by omega) (by rw [o1]; simp [pickR, hq]) Bb (.inr ⟨_, _, _, rfl⟩)
    | some q' =>
      rw [hq] at du
      obtain ⟨j', rfl, du1, du2, du3, du4⟩ := du
      conv => whnf
      repeat (refine ⟨by first | exact True.intro | decide | exact Nat.le_of_ble_eq_true rfl, ?_⟩; conv => whnf)
      rw [hd]
      conv => whnf
      repeat (refine ⟨by first | exact True.intro | decide | exact Nat.le_of_ble_eq_true rfl, ?_⟩; conv => whnf)
      exact h _ _ _ _ (e12.trans I.lt) I.row (by omega) (by rw [du1]; simp [pickR, hq, blksOf]) Bb (.inr ⟨_, _, _, rfl⟩)
end
section
set_option linter.unusedSimpArgs false
set_option linter.unusedVariables false
variable {sc : Option (Addr × List PV)} {n : Nat} {σ : Sto} {k : Kont} {es : List (Txt × PV)} {num : Int} {r tv : Nat} {vn vk : Option Int}
theorem lb_choice {d : Nat} {q dp : Int} (hq : q = 3 ∨ q = 4) (hc : CLn (tab sc) n 1333 [.obj r, .obj tv, .int (dp - 1), .int num] σ k) :
    exB (opsN (tab sc) n) 399 brK [([114, 111, 119], .obj r), ([118, 97, 108, 117, 101, 115], .obj tv), ([100, 101, 101, 112], .int dp), ([110, 117, 109, 98, 101, 114], .int num), ([107, 105, 110, 100], .int q)] σ fun fl _ σ => retK k fl σ := by
  rcases hq with rfl | rfl
  · conv => whnf
    repeat (refine ⟨by first | exact True.intro | decide | exact Nat.le_of_ble_eq_true rfl, ?_⟩; conv => whnf)
    exact hc
  · conv => whnf
    repeat (refine ⟨by first | exact True.intro | decide | exact Nat.le_of_ble_eq_true rfl, ?_⟩; conv => whnf)
    exact hc
theorem c_lbr0 (h1 : -200 ≤ num ∧ num ≤ 200) (hn : 2 ≤ n) : BrH sc es num r tv vn vk 0 0 n := by
  intro σ k R V h
  obtain ⟨n, rfl, hq⟩ := pred hn
  refine CLn_fn rfl rfl ?_
  conv => whnf
  refine c_next R (by omega) ?_
  intro x σ1 l1 R1
  conv => whnf
  obtain ⟨q1, q2⟩ := fm_lt x 3 (by decide)
  refine ⟨by decide, ?_⟩
  show exB (opsN (tab sc) n) 399 brK [([114, 111, 119], .obj r), ([118, 97, 108, 117, 101, 115], .obj tv), ([100, 101, 101, 112], .int 0), ([110, 117, 109, 98, 101, 114], .int num), ([107, 105, 110, 100], .int (x.fmod (Int.ofNat 3)))] σ1 fun fl _ σ => retK k fl σ
  generalize x.fmod (Int.ofNat 3) = q at q1 q2 ⊢
  refine lb_tail (es := es) h1 (d := 0) (by omega) (by omega) R1 ?_
  intro item j b σ' l R' hj hb B
  exact h _ _ _ _ (l1.trans l) R' (by have := l1.len R1; omega) hb B
theorem c_lbrS {d : Nat} {dp : Int} (hdp : dp = 1 ∨ dp = 2) (h1 : -200 ≤ num ∧ num ≤ 200) (hne : tv ≠ r) (hn : 8 ≤ n) (HC : ∀ (n : Nat) (σ : Sto) (k : Kont), 7 + 2 * d ≤ n → IsRow r σ → Val es tv vn vk σ → LCh es num r d σ k → CLn (tab sc) n 1333 [.obj r, .obj tv, .int (dp - 1), .int num] σ k) (hn2 : 8 + 2 * d ≤ n) :
    BrH sc es num r tv vn vk (d + 1) dp n := by
  intro σ k R V h
  obtain ⟨n, rfl, hq⟩ := pred hn
  have fin : ∀ (x : Int) (σ1 : Sto), Lt r σ σ1 → IsRow r σ1 → exB (opsN (tab sc) n) 399 brK [([114, 111, 119], .obj r), ([118, 97, 108, 117, 101, 115], .obj tv), ([100, 101, 101, 112], .int dp), ([110, 117, 109, 98, 101, 114], .int num), ([107, 105, 110, 100], .int (x.fmod (Int.ofNat 5)))] σ1 fun fl _ σ => retK k fl σ := by
    intro x σ1 l1 R1
    obtain ⟨q1, q2⟩ := fm_lt x 5 (by decide)
    have z := l1.len R1
    generalize x.fmod (Int.ofNat 5) = q at q1 q2 ⊢
    rcases (show (q = 0 ∨ q = 1 ∨ q = 2) ∨ (q = 3 ∨ q = 4) by omega) with hq' | hq'
    · refine lb_tail (es := es) h1 (d := d + 1) hq' (by omega) R1 ?_
      intro item j b σ' l R' hj hb B
      exact h _ _ _ _ (l1.trans l) R' (by omega) hb B
    · refine lb_choice (d := d) hq' ?_
      refine HC n σ1 k (by omega) R1 (V.lt hne l1) ?_
      intro item j b σ' l R' hj hb B _
      exact h _ _ _ _ (l1.trans l) R' (by omega) hb B
  rcases hdp with rfl | rfl
  · refine CLn_fn rfl rfl ?_
    conv => whnf
    refine c_next R (by omega) ?_
    intro x σ1 l1 R1
    conv => whnf
    refine ⟨by decide, ?_⟩
    exact fin x σ1 l1 R1
  · refine CLn_fn rfl rfl ?_
    conv => whnf
    refine c_next R (by omega) ?_
    intro x σ1 l1 R1
    conv => whnf
    refine ⟨by decide, ?_⟩
    exact fin x σ1 l1 R1
theorem c_lch0 (h1 : -200 ≤ num ∧ num ≤ 200) (hne : tv ≠ r) (hn : 7 ≤ n) (R : IsRow r σ) (V : Val es tv vn vk σ) (h : LCh es num r 0 σ k) : CLn (tab sc) n 1333 [.obj r, .obj tv, .int 0, .int num] σ k := by
  obtain ⟨n, rfl, hn⟩ := pred hn
  exact c_lchoice hne (c_lbr0 h1 (by omega)) (by omega) R V h
theorem c_lbr1 (h1 : -200 ≤ num ∧ num ≤ 200) (hne : tv ≠ r) (hn : 8 ≤ n) : BrH sc es num r tv vn vk 1 1 n :=
  c_lbrS (d := 0) (.inl rfl) h1 hne hn (fun n σ k hn R V h => c_lch0 h1 hne (by omega) R V h) (by omega)
theorem c_lch1 (h1 : -200 ≤ num ∧ num ≤ 200) (hne : tv ≠ r) (hn : 9 ≤ n) (R : IsRow r σ) (V : Val es tv vn vk σ) (h : LCh es num r 1 σ k) : CLn (tab sc) n 1333 [.obj r, .obj tv, .int 1, .int num] σ k := by
  obtain ⟨n, rfl, hn⟩ := pred hn
  exact c_lchoice hne (c_lbr1 h1 hne (by omega)) (by omega) R V h
theorem c_lbr2 (h1 : -200 ≤ num ∧ num ≤ 200) (hne : tv ≠ r) (hn : 10 ≤ n) : BrH sc es num r tv vn vk 2 2 n :=
  c_lbrS (d := 1) (.inr rfl) h1 hne (by omega) (fun n σ k hn R V h => c_lch1 h1 hne (by omega) R V h) (by omega)
theorem c_lch2 (h1 : -200 ≤ num ∧ num ≤ 200) (hne : tv ≠ r) (hn : 11 ≤ n) (R : IsRow r σ) (V : Val es tv vn vk σ) (h : LCh es num r 2 σ k) : CLn (tab sc) n 1333 [.obj r, .obj tv, .int 2, .int num] σ k := by
  obtain ⟨n, rfl, hn⟩ := pred hn
  exact c_lchoice hne (c_lbr2 h1 hne (by omega)) (by omega) R V h
end
section
set_option linter.unusedSimpArgs false
set_option linter.unusedVariables false
variable {sc : Option (Addr × List PV)} {n : Nat} {σ : Sto} {k : Kont} {es : List (Txt × PV)} {num : Int} {r tv : Nat} {vn vk : Option Int}
noncomputable abbrev nBegin : Txt := [98, 101, 103, 105, 110]
noncomputable abbrev nFirst : Txt := [102, 105, 114, 115, 116]
noncomputable abbrev nMany : Txt := [109, 97, 110, 121]
noncomputable abbrev nStepW : Txt := [115, 116, 101, 112]
noncomputable abbrev nOp : Txt := [111, 112]
noncomputable abbrev nEnd : Txt := [101, 110, 100]
noncomputable abbrev nItems : Txt := [105, 116, 101, 109, 115]
noncomputable abbrev llB : List CS := forB (nthS b1340S.1 10)
theorem bl_loop {O : Ops} {jb : Nat} {lab : Txt} {f st : Int} {items : List PV} {ρ0 : Loc} {K : KontS} {σ0 : Sto} (h1 : lk nName ρ0 = some (.str lab)) (h2 : lk nFirst ρ0 = some (.int f)) (h3 : lk nStepW ρ0 = some (.int st)) (h4 : lk nItems ρ0 = some (.tup items)) (h5 : lk nBlocks ρ0 = some (.obj jb)) (hlab : lab.length ≤ 20) (hst : -3 ≤ st ∧ st ≤ 3) (h0 : σ0.length ≤ jb) :
    ∀ (l : List Nat) (q : Nat) (ρ : Loc) (σ : Sto) (done : List PV), (∀ v ∈ l, v ≤ 20 ∧ -200 ≤ f + st * v ∧ f + st * v ≤ 200) → l.length + 60 ≤ q → done.length + l.length ≤ 50 → Le σ0 σ → sget σ jb = some (.list done) → (∀ x, teq x nTurn = false → teq x nFigure = false → lk x ρ = lk x ρ0) →
      (∀ ρ' σ', (∀ x, teq x nTurn = false → teq x nFigure = false → lk x ρ' = lk x ρ0) → Le σ0 σ' → sget σ' jb = some (.list (done ++ (l.map fun j => f + st * (j : Nat)).map (loopRow lab items))) → K .nxt ρ' σ') →
      frC O q [nTurn] true llB none [] (l.map fun (i : Nat) => PV.int (i : Int)) ρ σ K
  | [], q, ρ, σ, done, hl, hq, hz, le, hj, hρ, hK => by
    obtain ⟨q, rfl⟩ : ∃ q', q = q' + 41 := ⟨q - 41, by omega⟩
    conv => whnf
    repeat (refine ⟨by first | exact True.intro | decide | exact Nat.le_of_ble_eq_true rfl, ?_⟩; conv => whnf)
    exact hK ρ σ hρ le (by simpa using hj)
  | v :: l, q, ρ, σ, done, hl, hq, hz, le, hj, hρ, hK => by
    obtain ⟨q, rfl⟩ : ∃ q', q = q' + 41 := ⟨q - 41, by omega⟩
    rw [List.length_cons] at hq hz
    obtain ⟨v0, v1, v2⟩ := hl v (.head _)
    conv => whnf
    repeat (refine ⟨by first | exact True.intro | decide | exact Nat.le_of_ble_eq_true rfl, ?_⟩; conv => whnf)
    have gT : lk nTurn (stL nTurn (.int (v : Int)) ρ) = some (.int v) := lk_eq _ _ _
    have gN : ∀ x, teq x nTurn = false → teq x nFigure = false → lk x (stL nTurn (.int (v : Int)) ρ) = lk x ρ0 := fun x a b => (lk_ne a _ _).trans (hρ x a b)
    change match lk nFirst (stL nTurn (.int (v : Int)) ρ) with | some d => _ | none => _
    generalize stL nTurn (.int (v : Int)) ρ = ρ1 at gT gN ⊢
    rw [gN nFirst rfl rfl, h2]
    conv => whnf
    repeat (refine ⟨by first | exact True.intro | decide | exact Nat.le_of_ble_eq_true rfl, ?_⟩; conv => whnf)
    rw [show lk [115, 116, 101, 112] ρ1 = some (.int st) from (gN nStepW rfl rfl).trans h3]
    conv => whnf
    repeat (refine ⟨by first | exact True.intro | decide | exact Nat.le_of_ble_eq_true rfl, ?_⟩; conv => whnf)
    rw [gT]
    conv => whnf
    repeat (refine ⟨by first | exact True.intro | decide | exact Nat.le_of_ble_eq_true rfl, ?_⟩; conv => whnf)
    refine ⟨by show st.natAbs < 2 ^ 64; omega, by show ((v : Int)).natAbs < 2 ^ 64; omega, ?_⟩
    conv => whnf
    repeat (refine ⟨by first | exact True.intro | decide | exact Nat.le_of_ble_eq_true rfl, ?_⟩; conv => whnf)
    change match lk nBlocks (stL nFigure (.int (f + st * v)) ρ1) with | some d => _ | none => _
    have gF : lk nFigure (stL nFigure (.int (f + st * v)) ρ1) = some (.int (f + st * v)) := lk_eq _ _ _
    have gM : ∀ x, teq x nTurn = false → teq x nFigure = false → lk x (stL nFigure (.int (f + st * v)) ρ1) = lk x ρ0 := fun x a b => (lk_ne b _ _).trans (gN x a b)
    generalize hfig : f + st * (v : Int) = fig at gF gM v1 v2 ⊢
    generalize stL nFigure (.int fig) ρ1 = ρ2 at gF gM ⊢
    rw [gM nBlocks rfl rfl, h5]
    conv => whnf
    repeat (refine ⟨by first | exact True.intro | decide | exact Nat.le_of_ble_eq_true rfl, ?_⟩; conv => whnf)
    rw [mk_lst hj rfl]
    conv => whnf
    repeat (refine ⟨by first | exact True.intro | decide | exact Nat.le_of_ble_eq_true rfl, ?_⟩; conv => whnf)
    rw [show lk [110, 97, 109, 101] ρ2 = some (.str lab) from (gM nName rfl rfl).trans h1]
    conv => whnf
    repeat (refine ⟨by first | exact True.intro | decide | exact Nat.le_of_ble_eq_true rfl, ?_⟩; conv => whnf)
    have hlen := nT_len fig ⟨v1, v2⟩
    refine ⟨by rw [List.length_append, List.length_singleton]; omega, ?_⟩
    conv => whnf
    repeat (refine ⟨by first | exact True.intro | decide | exact Nat.le_of_ble_eq_true rfl, ?_⟩; conv => whnf)
    rw [gF]
    conv => whnf
    repeat (refine ⟨by first | exact True.intro | decide | exact Nat.le_of_ble_eq_true rfl, ?_⟩; conv => whnf)
    refine ⟨by show fig.natAbs < 2 ^ 64; omega, ?_⟩
    conv => whnf
    repeat (refine ⟨by first | exact True.intro | decide | exact Nat.le_of_ble_eq_true rfl, ?_⟩; conv => whnf)
    refine ⟨by rw [List.length_append, List.length_append, List.length_singleton]; show lab.length + 1 + (nT fig).length ≤ 1000; omega, ?_⟩
    conv => whnf
    repeat (refine ⟨by first | exact True.intro | decide | exact Nat.le_of_ble_eq_true rfl, ?_⟩; conv => whnf)
    refine ⟨by rw [List.length_append, List.length_append, List.length_append, List.length_singleton, List.length_singleton]; show lab.length + 1 + (nT fig).length + 1 ≤ 1000; omega, ?_⟩
    conv => whnf
    repeat (refine ⟨by first | exact True.intro | decide | exact Nat.le_of_ble_eq_true rfl, ?_⟩; conv => whnf)
    rw [gF]
    conv => whnf
    repeat (refine ⟨by first | exact True.intro | decide | exact Nat.le_of_ble_eq_true rfl, ?_⟩; conv => whnf)
    rw [show lk [105, 116, 101, 109, 115] ρ2 = some (.tup items) from (gM nItems rfl rfl).trans h4]
    conv => whnf
    repeat (refine ⟨by first | exact True.intro | decide | exact Nat.le_of_ble_eq_true rfl, ?_⟩; conv => whnf)
    rw [hj]
    conv => whnf
    repeat (refine ⟨by first | exact True.intro | decide | exact Nat.le_of_ble_eq_true rfl, ?_⟩; conv => whnf)
    refine ⟨by omega, ?_⟩
    refine app_step hj ?_
    intro σ1 e1 e2
    conv => whnf
    repeat (refine ⟨by first | exact True.intro | decide | exact Nat.le_of_ble_eq_true rfl, ?_⟩; conv => whnf)
    refine bl_loop h1 h2 h3 h4 h5 hlab hst h0 l (q + 40) ρ2 σ1 _ (fun v hv => hl v (.tail _ hv)) (by omega) (by rw [List.length_append, List.length_singleton]; omega) (fun j o ho => (e2 j (by have := sget_lt ho; omega)).trans (le j o ho)) e1 gM ?_
    intro ρ' σ' g le' hj'
    refine hK ρ' σ' g le' ?_
    rw [hj']
    simp [loopRow, row, nT, hfig]
    rfl
/-- a loop of the law's, and the blocks that are due of it -/
noncomputable def LP (es : List (Txt × PV)) (num : Int) (item : PV) (b : List PV) : Prop := ∃ (bg l : PV) (items : List PV) (o : Op) (first en st : Int) (many : Nat), LabOK l ∧ ItemsOK items ∧ Am es bg (some first) ∧ (-1000 ≤ st ∧ st ≤ 1000) ∧ (-1000 ≤ en ∧ en ≤ 1000) ∧ many ≤ 20 ∧
  (∀ j : Nat, j ≤ many → -200 ≤ first + st * j ∧ first + st * j ≤ 200) ∧ (∀ j : Nat, j < many → o.f (first + st * j) en = true) ∧ o.f (first + st * many) en = false ∧
  item = forItem bg (binE o.s (idE tI) (numE en)) (binE [43] (idE tI) (numE st)) (.tup [.str tBlock, .int 0, l, .tup items]) ∧ b = ((List.range many).map fun i => first + st * (i : Nat)).map (loopRow (labT num l) items)
noncomputable def LLp (es : List (Txt × PV)) (num : Int) (r : Nat) (σ : Sto) (k : Kont) : Prop := ∀ item j b σ', Lt r σ σ' → IsRow r σ' → σ.length ≤ j → sget σ' j = some (.list b) → LP es num item b → k (.tup [item, .obj j]) σ'
theorem ll_tail2 {bg l : PV} {o : Op} {f en st m : Int} {items : List PV} (hne : tv ≠ r) (h1 : -200 ≤ num ∧ num ≤ 200) (hn : 2 ≤ n) (A : Am es bg (some f)) (hf : -3 ≤ f ∧ f ≤ 10) (hm : 0 ≤ m ∧ m < 13) (hst : -3 ≤ st ∧ st ≤ 2) (hen : -1000 ≤ en ∧ en ≤ 1000) (ht : ∀ j : Nat, (j : Int) < m → o.f (f + st * j) en = true) (hff : o.f (f + st * m) en = false) (hl : LabOK l) (hI : ItemsOK items) (R : IsRow r σ) (h : LLp es num r σ k) :
    exB (opsN (tab sc) n) 391 (b1340S.1.drop 9) [(nRow, .obj r), (nValues, .obj tv), (nNumber, .int num), (nBegin, bg), (nFirst, .int f), (nMany, .int m), (nStepW, .int st), (nOp, .str o.s), (nEnd, .int en), (nLabel, l), (nItems, .tup items), (nName, .str (labT num l))] σ fun fl _ σ => retK k fl σ := by
  have hlab : (labT num l).length ≤ 20 := by
    have := nT_len num h1
    rcases hl with rfl | rfl | rfl
    · show (genblk ++ nT num).length ≤ 20
      rw [List.length_append]; show 6 + _ ≤ 20; omega
    · show 3 ≤ 20; omega
    · show 3 ≤ 20; omega
  have hb : ∀ j : Nat, (j : Int) ≤ m → -200 ≤ f + st * j ∧ f + st * j ≤ 200 := by
    intro j hj
    have a1 : st * j ≤ 2 * (j : Int) := Int.mul_le_mul_of_nonneg_right hst.2 (by omega)
    have a2 : -3 * (j : Int) ≤ st * j := Int.mul_le_mul_of_nonneg_right hst.1 (by omega)
    omega
  conv => whnf
  repeat (refine ⟨by first | exact True.intro | decide | exact Nat.le_of_ble_eq_true rfl, ?_⟩; conv => whnf)
  refine ⟨by show m.natAbs < 2 ^ 64; omega, ?_⟩
  conv => whnf
  repeat (refine ⟨by first | exact True.intro | decide | exact Nat.le_of_ble_eq_true rfl, ?_⟩; conv => whnf)
  refine ⟨by show -1000 ≤ m; omega, by show m ≤ 1000; omega, ?_⟩
  refine bl_loop (σ0 := σ) (jb := σ.length) (lab := labT num l) (f := f) (st := st) (items := items) rfl rfl rfl rfl rfl hlab ⟨by omega, by omega⟩ (Nat.le_refl _) _ _ _ _ [] ?_ (Nat.le_trans (m := 80) (by simp; omega) (by decide)) (by simp; omega) (Le.app _ _) (by rw [sgetA0]; rfl) (fun _ _ _ => rfl) ?_
  · intro v hv
    have := List.mem_range.mp hv
    exact ⟨by omega, hb v (by omega)⟩
  intro ρ' σ' g le' hj'
  have gO : lk nOp ρ' = some (.str o.s) := g nOp rfl rfl
  have gE : lk nEnd ρ' = some (.int en) := g nEnd rfl rfl
  have gS : lk nStepW ρ' = some (.int st) := g nStepW rfl rfl
  have gB : lk nBegin ρ' = some bg := g nBegin rfl rfl
  have gL : lk nLabel ρ' = some l := g nLabel rfl rfl
  have gI : lk nItems ρ' = some (.tup items) := g nItems rfl rfl
  have gK : lk nBlocks ρ' = some (.obj σ.length) := g nBlocks rfl rfl
  clear g
  conv => whnf
  repeat (refine ⟨by first | exact True.intro | decide | exact Nat.le_of_ble_eq_true rfl, ?_⟩; conv => whnf)
  rw [gO]
  conv => whnf
  repeat (refine ⟨by first | exact True.intro | decide | exact Nat.le_of_ble_eq_true rfl, ?_⟩; conv => whnf)
  rw [gE]
  conv => whnf
  repeat (refine ⟨by first | exact True.intro | decide | exact Nat.le_of_ble_eq_true rfl, ?_⟩; conv => whnf)
  refine c_number (by omega) ?_
  conv => whnf
  repeat (refine ⟨by first | exact True.intro | decide | exact Nat.le_of_ble_eq_true rfl, ?_⟩; conv => whnf)
  rw [lk_ne (x := nStepW) (y := [116, 101, 115, 116]) rfl, gS]
  conv => whnf
  repeat (refine ⟨by first | exact True.intro | decide | exact Nat.le_of_ble_eq_true rfl, ?_⟩; conv => whnf)
  refine c_number (by omega) ?_
  conv => whnf
  repeat (refine ⟨by first | exact True.intro | decide | exact Nat.le_of_ble_eq_true rfl, ?_⟩; conv => whnf)
  rw [lk_ne (x := nBegin) (y := [111, 110, 119, 97, 114, 100]) rfl, lk_ne (x := nBegin) (y := [116, 101, 115, 116]) rfl, gB]
  conv => whnf
  repeat (refine ⟨by first | exact True.intro | decide | exact Nat.le_of_ble_eq_true rfl, ?_⟩; conv => whnf)
  rw [lk_ne (x := [116, 101, 115, 116]) (y := [111, 110, 119, 97, 114, 100]) rfl, lk_eq]
  conv => whnf
  repeat (refine ⟨by first | exact True.intro | decide | exact Nat.le_of_ble_eq_true rfl, ?_⟩; conv => whnf)
  rw [lk_eq]
  conv => whnf
  repeat (refine ⟨by first | exact True.intro | decide | exact Nat.le_of_ble_eq_true rfl, ?_⟩; conv => whnf)
  rw [lk_ne (x := nLabel) (y := [111, 110, 119, 97, 114, 100]) rfl, lk_ne (x := nLabel) (y := [116, 101, 115, 116]) rfl, gL]
  conv => whnf
  repeat (refine ⟨by first | exact True.intro | decide | exact Nat.le_of_ble_eq_true rfl, ?_⟩; conv => whnf)
  rw [lk_ne (x := nItems) (y := [111, 110, 119, 97, 114, 100]) rfl, lk_ne (x := nItems) (y := [116, 101, 115, 116]) rfl, gI]
  conv => whnf
  repeat (refine ⟨by first | exact True.intro | decide | exact Nat.le_of_ble_eq_true rfl, ?_⟩; conv => whnf)
  rw [lk_ne (x := nBlocks) (y := [111, 110, 119, 97, 114, 100]) rfl, lk_ne (x := nBlocks) (y := [116, 101, 115, 116]) rfl, gK]
  conv => whnf
  repeat (refine ⟨by first | exact True.intro | decide | exact Nat.le_of_ble_eq_true rfl, ?_⟩; conv => whnf)
  have hmn : ((m.toNat : Nat) : Int) = m := Int.toNat_of_nonneg hm.1
  refine h _ _ _ _ (.le le') (R.le le') (Nat.le_refl _) hj' ⟨bg, l, items, o, f, en, st, m.toNat, hl, hI, A, by omega, hen, by omega, fun j hj => hb j (by omega), fun j hj => ht j (by omega), by rw [hmn]; exact hff, rfl, by simp⟩
theorem ll_tail {bg : PV} {o : Op} {f en st m : Int} (hne : tv ≠ r) (h1 : -200 ≤ num ∧ num ≤ 200) (hn : 2 ≤ n) (A : Am es bg (some f)) (hf : -3 ≤ f ∧ f ≤ 10) (hm : 0 ≤ m ∧ m < 13) (hst : -3 ≤ st ∧ st ≤ 2) (hen : -1000 ≤ en ∧ en ≤ 1000) (ht : ∀ j : Nat, (j : Int) < m → o.f (f + st * j) en = true) (hff : o.f (f + st * m) en = false) (R : IsRow r σ) (h : LLp es num r σ k) :
    exB (opsN (tab sc) n) 394 (b1340S.1.drop 6) [(nRow, .obj r), (nValues, .obj tv), (nNumber, .int num), (nBegin, bg), (nFirst, .int f), (nMany, .int m), (nStepW, .int st), (nOp, .str o.s), (nEnd, .int en)] σ fun fl _ σ => retK k fl σ := by
  conv => whnf
  repeat (refine ⟨by first | exact True.intro | decide | exact Nat.le_of_ble_eq_true rfl, ?_⟩; conv => whnf)
  refine c_next (R.le (Le.app _ _)) (by omega) ?_
  intro x σ1 l1 R1
  conv => whnf
  repeat (refine ⟨by first | exact True.intro | decide | exact Nat.le_of_ble_eq_true rfl, ?_⟩; conv => whnf)
  have hL : sget σ1 σ.length = some (.list [.none, .str [111, 110, 101], .str [116, 119, 111]]) := l1 _ _ (by have := sget_lt R.choose_spec.1; omega) (by rw [sgetA0]; rfl)
  obtain ⟨q1, q2⟩ := fm_lt x 3 (by decide)
  rw [seq_obj hL]
  generalize x.fmod (Int.ofNat 3) = q at q1 q2 ⊢
  rcases (show q = 0 ∨ q = 1 ∨ q = 2 by omega) with rfl | rfl | rfl
  · conv => whnf
    repeat (refine ⟨by first | exact True.intro | decide | exact Nat.le_of_ble_eq_true rfl, ?_⟩; conv => whnf)
    refine c_next R1 (by omega) ?_
    intro y σ2 l2 R2
    conv => whnf
    repeat (refine ⟨by first | exact True.intro | decide | exact Nat.le_of_ble_eq_true rfl, ?_⟩; conv => whnf)
    refine ⟨by show num.natAbs < 2 ^ 64; omega, ?_⟩
    conv => whnf
    repeat (refine ⟨by first | exact True.intro | decide | exact Nat.le_of_ble_eq_true rfl, ?_⟩; conv => whnf)
    have := nT_len num h1
    refine ⟨by rw [List.length_append]; show 6 + (nT num).length ≤ 1000; omega, ?_⟩
    have lt : Lt r σ σ2 := ((Lt.le (Le.app _ _)).trans l1).trans l2
    refine ll_tail2 hne h1 hn A hf hm hst hen ht hff (l := .none) (.inl rfl) (items := [.tup [.str tInitial, .int y, .none]]) ⟨by simp, fun x hx => ⟨y, List.mem_singleton.mp hx⟩⟩ R2 ?_
    intro item j b σ' l R' hj hb B
    exact h _ _ _ _ (lt.trans l) R' (by have := lt.len R2; omega) hb B
  · conv => whnf
    repeat (refine ⟨by first | exact True.intro | decide | exact Nat.le_of_ble_eq_true rfl, ?_⟩; conv => whnf)
    refine c_next R1 (by omega) ?_
    intro y σ2 l2 R2
    conv => whnf
    repeat (refine ⟨by first | exact True.intro | decide | exact Nat.le_of_ble_eq_true rfl, ?_⟩; conv => whnf)
    have lt : Lt r σ σ2 := ((Lt.le (Le.app _ _)).trans l1).trans l2
    have T : exB (opsN (tab sc) n) 391 (b1340S.1.drop 9) [(nRow, .obj r), (nValues, .obj tv), (nNumber, .int num), (nBegin, bg), (nFirst, .int f), (nMany, .int m), (nStepW, .int st), (nOp, .str o.s), (nEnd, .int en), (nLabel, .str [111, 110, 101]), (nItems, .tup [.tup [.str tInitial, .int y, .none]]), (nName, .str (labT num (.str [111, 110, 101])))] σ2 (fun fl _ σ => retK k fl σ) := by
      refine ll_tail2 hne h1 hn A hf hm hst hen ht hff (l := .str [111, 110, 101]) (.inr (.inl rfl)) (items := [.tup [.str tInitial, .int y, .none]]) ⟨by simp, fun x hx => ⟨y, List.mem_singleton.mp hx⟩⟩ R2 ?_
      intro item j b σ' l R' hj hb B
      exact h _ _ _ _ (lt.trans l) R' (by have := lt.len R2; omega) hb B
    exact And.right T
  · conv => whnf
    repeat (refine ⟨by first | exact True.intro | decide | exact Nat.le_of_ble_eq_true rfl, ?_⟩; conv => whnf)
    refine c_next R1 (by omega) ?_
    intro y σ2 l2 R2
    conv => whnf
    repeat (refine ⟨by first | exact True.intro | decide | exact Nat.le_of_ble_eq_true rfl, ?_⟩; conv => whnf)
    have lt : Lt r σ σ2 := ((Lt.le (Le.app _ _)).trans l1).trans l2
    have T : exB (opsN (tab sc) n) 391 (b1340S.1.drop 9) [(nRow, .obj r), (nValues, .obj tv), (nNumber, .int num), (nBegin, bg), (nFirst, .int f), (nMany, .int m), (nStepW, .int st), (nOp, .str o.s), (nEnd, .int en), (nLabel, .str [116, 119, 111]), (nItems, .tup [.tup [.str tInitial, .int y, .none]]), (nName, .str (labT num (.str [116, 119, 111])))] σ2 (fun fl _ σ => retK k fl σ) := by
      refine ll_tail2 hne h1 hn A hf hm hst hen ht hff (l := .str [116, 119, 111]) (.inr (.inr rfl)) (items := [.tup [.str tInitial, .int y, .none]]) ⟨by simp, fun x hx => ⟨y, List.mem_singleton.mp hx⟩⟩ R2 ?_
      intro item j b σ' l R' hj hb B
      exact h _ _ _ _ (lt.trans l) R' (by have := lt.len R2; omega) hb B
    exact And.right T
theorem ll_mid {bg : PV} {f : Int} (hne : tv ≠ r) (h1 : -200 ≤ num ∧ num ≤ 200) (hn : 2 ≤ n) (A : Am es bg (some f)) (hf : -3 ≤ f ∧ f ≤ 10) (R : IsRow r σ) (h : LLp es num r σ k) :
    exB (opsN (tab sc) n) 398 (b1340S.1.drop 2) [(nRow, .obj r), (nValues, .obj tv), (nNumber, .int num), (nBegin, bg), (nFirst, .int f)] σ fun fl _ σ => retK k fl σ := by
  conv => whnf
  repeat (refine ⟨by first | exact True.intro | decide | exact Nat.le_of_ble_eq_true rfl, ?_⟩; conv => whnf)
  refine c_next R (by omega) ?_
  intro x σ1 l1 R1
  conv => whnf
  repeat (refine ⟨by first | exact True.intro | decide | exact Nat.le_of_ble_eq_true rfl, ?_⟩; conv => whnf)
  obtain ⟨m1, m2⟩ := fm_lt x 13 (by decide)
  generalize x.fmod (Int.ofNat 13) = m at m1 m2 ⊢
  refine c_next (R1.le (Le.app _ _)) (by omega) ?_
  intro y σ2 l2 R2
  have hL : sget σ2 σ1.length = some (.list [.int 1, .int 2, .int (-1), .int (-3)]) := l2 _ _ (by have := sget_lt R1.choose_spec.1; omega) (by rw [sgetA0]; rfl)
  have lt := (l1.trans (.le (Le.app _ _))).trans l2
  have z := lt.len R2
  have h' : LLp es num r σ2 k := fun item j b σ' l R' hj hb B => h _ _ _ _ (lt.trans l) R' (by omega) hb B
  conv => whnf
  repeat (refine ⟨by first | exact True.intro | decide | exact Nat.le_of_ble_eq_true rfl, ?_⟩; conv => whnf)
  rw [seq_obj hL]
  obtain ⟨q1, q2⟩ := fm_lt y 4 (by decide)
  generalize y.fmod (Int.ofNat 4) = q at q1 q2 ⊢
  rcases (show q = 0 ∨ q = 1 ∨ q = 2 ∨ q = 3 by omega) with rfl | rfl | rfl | rfl
  · conv => whnf
    repeat (refine ⟨by first | exact True.intro | decide | exact Nat.le_of_ble_eq_true rfl, ?_⟩; conv => whnf)
    refine ⟨by show m.natAbs < 2 ^ 64; omega, ?_⟩
    conv => whnf
    repeat (refine ⟨by first | exact True.intro | decide | exact Nat.le_of_ble_eq_true rfl, ?_⟩; conv => whnf)
    have T := ll_tail (sc := sc) (tv := tv) (o := .lt) (st := 1) (en := f + 1 * m - 0) hne h1 hn A hf ⟨m1, m2⟩ (by omega) (by omega) (by intro j hj; show decide (f + 1 * (j : Int) < f + 1 * m - 0) = true; exact decide_eq_true (by omega)) (by show decide (f + 1 * m < f + 1 * m - 0) = false; exact decide_eq_false (by omega)) R2 h'
    exact And.right T
  · conv => whnf
    repeat (refine ⟨by first | exact True.intro | decide | exact Nat.le_of_ble_eq_true rfl, ?_⟩; conv => whnf)
    refine ⟨by show m.natAbs < 2 ^ 64; omega, ?_⟩
    conv => whnf
    repeat (refine ⟨by first | exact True.intro | decide | exact Nat.le_of_ble_eq_true rfl, ?_⟩; conv => whnf)
    split
    · rename_i c
      have c' : 0 < m := of_decide_eq_true c
      conv => whnf
      repeat (refine ⟨by first | exact True.intro | decide | exact Nat.le_of_ble_eq_true rfl, ?_⟩; conv => whnf)
      refine c_next R2 (by omega) ?_
      intro z σ3 l3 R3
      have zz := l3.len R3
      conv => whnf
      repeat (refine ⟨by first | exact True.intro | decide | exact Nat.le_of_ble_eq_true rfl, ?_⟩; conv => whnf)
      obtain ⟨p1, p2⟩ := fm_lt z 2 (by decide)
      have T := ll_tail (sc := sc) (tv := tv) (o := .lt) (st := 2) (en := f + 2 * m - z.fmod (Int.ofNat 2)) hne h1 hn A hf ⟨m1, m2⟩ (by omega) (by omega) (by intro j hj; show decide (f + 2 * (j : Int) < f + 2 * m - z.fmod (Int.ofNat 2)) = true; exact decide_eq_true (by omega)) (by show decide (f + 2 * m < f + 2 * m - z.fmod (Int.ofNat 2)) = false; exact decide_eq_false (by omega)) R3 (fun item j b σ' l R' hj hb B => h' _ _ _ _ (l3.trans l) R' (by omega) hb B)
      exact And.right T
    · rename_i c
      have c' : ¬ 0 < m := of_decide_eq_false c
      conv => whnf
      repeat (refine ⟨by first | exact True.intro | decide | exact Nat.le_of_ble_eq_true rfl, ?_⟩; conv => whnf)
      have T := ll_tail (sc := sc) (tv := tv) (o := .lt) (st := 2) (en := f + 2 * m - 0) hne h1 hn A hf ⟨m1, m2⟩ (by omega) (by omega) (by intro j hj; show decide (f + 2 * (j : Int) < f + 2 * m - 0) = true; exact decide_eq_true (by omega)) (by show decide (f + 2 * m < f + 2 * m - 0) = false; exact decide_eq_false (by omega)) R2 h'
      exact And.right T
  · conv => whnf
    repeat (refine ⟨by first | exact True.intro | decide | exact Nat.le_of_ble_eq_true rfl, ?_⟩; conv => whnf)
    refine ⟨by show m.natAbs < 2 ^ 64; omega, ?_⟩
    conv => whnf
    repeat (refine ⟨by first | exact True.intro | decide | exact Nat.le_of_ble_eq_true rfl, ?_⟩; conv => whnf)
    have T := ll_tail (sc := sc) (tv := tv) (o := .gt) (st := (-1)) (en := f + (-1) * m - 0) hne h1 hn A hf ⟨m1, m2⟩ (by omega) (by omega) (by intro j hj; show decide (f + (-1) * m - 0 < f + (-1) * (j : Int)) = true; exact decide_eq_true (by omega)) (by show decide (f + (-1) * m - 0 < f + (-1) * m) = false; exact decide_eq_false (by omega)) R2 h'
    exact And.right T
  · conv => whnf
    repeat (refine ⟨by first | exact True.intro | decide | exact Nat.le_of_ble_eq_true rfl, ?_⟩; conv => whnf)
    refine ⟨by show m.natAbs < 2 ^ 64; omega, ?_⟩
    conv => whnf
    repeat (refine ⟨by first | exact True.intro | decide | exact Nat.le_of_ble_eq_true rfl, ?_⟩; conv => whnf)
    have T := ll_tail (sc := sc) (tv := tv) (o := .gt) (st := (-3)) (en := f + (-3) * m - 0) hne h1 hn A hf ⟨m1, m2⟩ (by omega) (by omega) (by intro j hj; show decide (f + (-3) * m - 0 < f + (-3) * (j : Int)) = true; exact decide_eq_true (by omega)) (by show decide (f + (-3) * m - 0 < f + (-3) * m) = false; exact decide_eq_false (by omega)) R2 h'
    exact And.right T
theorem c_lloop (hne : tv ≠ r) (h1 : -200 ≤ num ∧ num ≤ 200) (hn : 6 ≤ n) (R : IsRow r σ) (V : Val es tv vn vk σ) (h : LLp es num r σ k) : CLn (tab sc) n 1340 [.obj r, .obj tv, .int num] σ k := by
  obtain ⟨n, rfl, hq⟩ := pred hn
  replace hn := hq
  clear hq
  refine CLn_fn rfl rfl ?_
  conv => whnf
  repeat (refine ⟨by first | exact True.intro | decide | exact Nat.le_of_ble_eq_true rfl, ?_⟩; conv => whnf)
  refine c_amountD hne (by omega) R V ?_
  intro d v σ1 l1 R1 A
  have z := l1.len R1
  have h' : LLp es num r σ1 k := fun item j b σ' l R' hj hb B => h _ _ _ _ (l1.trans l) R' (by omega) hb B
  cases v with
  | none =>
    conv => whnf
    repeat (refine ⟨by first | exact True.intro | decide | exact Nat.le_of_ble_eq_true rfl, ?_⟩; conv => whnf)
    refine c_number (by omega) ?_
    conv => whnf
    repeat (refine ⟨by first | exact True.intro | decide | exact Nat.le_of_ble_eq_true rfl, ?_⟩; conv => whnf)
    have T := ll_mid (sc := sc) (n := n) (tv := tv) (bg := numE 2) (f := 2) hne h1 (by omega) ⟨0, by omega, .num 2 (by omega)⟩ (by omega) R1 h'
    exact T
  | some f =>
    have hb := A.choose_spec.2.2 f rfl
    conv => whnf
    repeat (refine ⟨by first | exact True.intro | decide | exact Nat.le_of_ble_eq_true rfl, ?_⟩; conv => whnf)
    have T := ll_mid (sc := sc) (n := n) (tv := tv) (bg := d) (f := f) hne h1 (by omega) A.am (by omega) R1 h'
    exact T
end
section
set_option linter.unusedSimpArgs false
set_option linter.unusedVariables false
variable {a : Addr} {nums : List Int} {n : Nat} {σ : Sto} {k : Kont}
noncomputable abbrev rwB : List CS := forB (nthS b1292S.1 1)
noncomputable abbrev rwI : List CS := forB (nthS rwB 3)
noncomputable abbrev nCell : Txt := [99, 101, 108, 108]
theorem row_inner {O : Ops} {jr : Nat} {K : KontS} : ∀ (l : List PV) (q : Nat) (ρ : Loc) (σ : Sto) (m : Int) (done : List Int), l.length + 60 ≤ q → done.length + l.length ≤ 2000 → lk nRow ρ = some (.obj jr) → lk nNumber ρ = some (.int m) → sget σ jr = some (.list (done.map PV.int)) →
    (∀ ρ' σ' (done' : List Int), lk nRow ρ' = some (.obj jr) → sget σ' jr = some (.list (done'.map PV.int)) → done'.length ≤ done.length + l.length → (∀ i, i ≠ jr → sget σ' i = sget σ i) → K .nxt ρ' σ') →
    frC O q [nTurn] true rwI none [] l ρ σ K
  | [], q, ρ, σ, m, done, hq, hz, h1, h2, h3, hK => by
    obtain ⟨q, rfl⟩ : ∃ q', q = q' + 41 := ⟨q - 41, by omega⟩
    conv => whnf
    repeat (refine ⟨by first | exact True.intro | decide | exact Nat.le_of_ble_eq_true rfl, ?_⟩; conv => whnf)
    exact hK ρ σ done h1 h3 (by simp) fun _ _ => rfl
  | d :: l, q, ρ, σ, m, done, hq, hz, h1, h2, h3, hK => by
    obtain ⟨q, rfl⟩ : ∃ q', q = q' + 41 := ⟨q - 41, by omega⟩
    rw [List.length_cons] at hq hz
    conv => whnf
    repeat (refine ⟨by first | exact True.intro | decide | exact Nat.le_of_ble_eq_true rfl, ?_⟩; conv => whnf)
    change match lk nNumber (stL nTurn d ρ) with | some d => _ | none => _
    have g1 : lk nRow (stL nTurn d ρ) = some (.obj jr) := (lk_ne rfl _ _).trans h1
    have g2 : lk nNumber (stL nTurn d ρ) = some (.int m) := (lk_ne rfl _ _).trans h2
    generalize stL nTurn d ρ = ρ1 at g1 g2 ⊢
    rw [g2]
    conv => whnf
    repeat (refine ⟨by first | exact True.intro | decide | exact Nat.le_of_ble_eq_true rfl, ?_⟩; conv => whnf)
    split
    · conv => whnf
      repeat (refine ⟨by first | exact True.intro | decide | exact Nat.le_of_ble_eq_true rfl, ?_⟩; conv => whnf)
      rw [g1]
      conv => whnf
      repeat (refine ⟨by first | exact True.intro | decide | exact Nat.le_of_ble_eq_true rfl, ?_⟩; conv => whnf)
      rw [mk_lst h3 rfl]
      conv => whnf
      repeat (refine ⟨by first | exact True.intro | decide | exact Nat.le_of_ble_eq_true rfl, ?_⟩; conv => whnf)
      rw [g2]
      conv => whnf
      repeat (refine ⟨by first | exact True.intro | decide | exact Nat.le_of_ble_eq_true rfl, ?_⟩; conv => whnf)
      rw [h3]
      conv => whnf
      repeat (refine ⟨by first | exact True.intro | decide | exact Nat.le_of_ble_eq_true rfl, ?_⟩; conv => whnf)
      refine ⟨by simp; omega, ?_⟩
      refine app_step h3 ?_
      intro σ1 e1 e2
      conv => whnf
      repeat (refine ⟨by first | exact True.intro | decide | exact Nat.le_of_ble_eq_true rfl, ?_⟩; conv => whnf)
      rw [g2]
      conv => whnf
      repeat (refine ⟨by first | exact True.intro | decide | exact Nat.le_of_ble_eq_true rfl, ?_⟩; conv => whnf)
      refine row_inner l (q + 40) (stL nNumber (.int (m.fdiv 1024)) ρ1) σ1 (m.fdiv 1024) (done ++ [m.fmod 1024]) (by omega) (by rw [List.length_append, List.length_singleton]; omega) ((lk_ne rfl _ _).trans g1) (lk_eq _ _ _) (by rw [e1]; simp) ?_
      intro ρ' σ' done' f1 f2 f3 f4
      exact hK ρ' σ' done' f1 f2 (by rw [List.length_append, List.length_singleton] at f3; rw [List.length_cons]; omega) fun i hi => (f4 i hi).trans (e2 i hi)
    · conv => whnf
      repeat (refine ⟨by first | exact True.intro | decide | exact Nat.le_of_ble_eq_true rfl, ?_⟩; conv => whnf)
      refine row_inner l (q + 40) ρ1 σ m done (by omega) (by omega) g1 g2 h3 ?_
      intro ρ' σ' done' f1 f2 f3 f4
      exact hK ρ' σ' done' f1 f2 (by rw [List.length_cons]; omega) f4
theorem row_outer {O : Ops} {jr jc : Nat} {all : List PV} {K : KontS} (hne : jc ≠ jr) : ∀ (l : List Int) (q : Nat) (ρ : Loc) (σ : Sto) (done : List Int), l.length + 150 ≤ q → done.length + 31 * l.length ≤ 1500 → lk nRow ρ = some (.obj jr) → sget σ jr = some (.list (done.map PV.int)) → sget σ jc = some (.list all) →
    (∀ ρ' σ' (done' : List Int), lk nRow ρ' = some (.obj jr) → sget σ' jr = some (.list (done'.map PV.int)) → done'.length ≤ 1500 → (∀ i, i ≠ jr → sget σ' i = sget σ i) → K .nxt ρ' σ') →
    frC O q [nCell] true rwB (some jc) all (l.map PV.int) ρ σ K
  | [], q, ρ, σ, done, hq, hz, h1, h3, hc, hK => by
    obtain ⟨q, rfl⟩ : ∃ q', q = q' + 131 := ⟨q - 131, by omega⟩
    conv => whnf
    repeat (refine ⟨by first | exact True.intro | decide | exact Nat.le_of_ble_eq_true rfl, ?_⟩; conv => whnf)
    exact hK ρ σ done h1 h3 (by simpa using hz) fun _ _ => rfl
  | c :: l, q, ρ, σ, done, hq, hz, h1, h3, hc, hK => by
    obtain ⟨q, rfl⟩ : ∃ q', q = q' + 131 := ⟨q - 131, by omega⟩
    rw [List.length_cons] at hq hz
    conv => whnf
    repeat (refine ⟨by first | exact True.intro | decide | exact Nat.le_of_ble_eq_true rfl, ?_⟩; conv => whnf)
    change match lk nCell (stL nCell (.int c) ρ) with | some d => _ | none => _
    have g1 : lk nRow (stL nCell (.int c) ρ) = some (.obj jr) := (lk_ne rfl _ _).trans h1
    have g2 : lk nCell (stL nCell (.int c) ρ) = some (.int c) := lk_eq _ _ _
    generalize stL nCell (.int c) ρ = ρ1 at g1 g2 ⊢
    rw [g2]
    conv => whnf
    repeat (refine ⟨by first | exact True.intro | decide | exact Nat.le_of_ble_eq_true rfl, ?_⟩; conv => whnf)
    have tail2 : ∀ (ρ : Loc) (σ1 : Sto) (m : Int) (dn : List Int), lk nRow ρ = some (.obj jr) → lk nNumber ρ = some (.int m) → sget σ1 jr = some (.list (dn.map PV.int)) → (∀ i, i ≠ jr → sget σ1 i = sget σ i) → dn.length = done.length + 1 →
        exB O (q + 127) (rwB.drop 3) ρ σ1 (lpK (fun ρ σ k => srcOk (some jc) all σ ∧ frC O (q + 130) [nCell] true rwB (some jc) all (l.map PV.int) ρ σ k) K) := by
      intro ρ σ1 m dn e1 e2 e3 e4 e5
      conv => whnf
      refine ⟨by decide, ?_⟩
      refine And.intro (by decide) (And.intro (by decide) ?_)
      refine row_inner _ _ ρ σ1 m dn (Nat.le_trans (m := 100) (by simp) (by omega)) (by simp; omega) e1 e2 e3 ?_
      intro ρ' σ' done' f1 f2 f3 f4
      have f3' : done'.length ≤ done.length + 31 := by simp at f3; omega
      conv => whnf
      repeat (refine ⟨by first | exact True.intro | decide | exact Nat.le_of_ble_eq_true rfl, ?_⟩; conv => whnf)
      refine ⟨(f4 jc hne).trans ((e4 jc hne).trans hc), ?_⟩
      refine row_outer hne l (q + 130) ρ' σ' done' (by omega) (by omega) f1 f2 ((f4 jc hne).trans ((e4 jc hne).trans hc)) ?_
      intro ρ2 σ2 done2 g1 g2 g3 g4
      exact hK ρ2 σ2 done2 g1 g2 g3 fun i hi => (g4 i hi).trans ((f4 i hi).trans (e4 i hi))
    have tail : ∀ m : Int, exB O (q + 129) (rwB.drop 1) (stL nNumber (.int m) ρ1) σ (lpK (fun ρ σ k => srcOk (some jc) all σ ∧ frC O (q + 130) [nCell] true rwB (some jc) all (l.map PV.int) ρ σ k) K) := by
      intro m
      have g3 : lk nRow (stL nNumber (.int m) ρ1) = some (.obj jr) := (lk_ne rfl _ _).trans g1
      have g4 : lk nNumber (stL nNumber (.int m) ρ1) = some (.int m) := lk_eq _ _ _
      generalize stL nNumber (.int m) ρ1 = ρ2 at g3 g4 ⊢
      conv => whnf
      repeat (refine ⟨by first | exact True.intro | decide | exact Nat.le_of_ble_eq_true rfl, ?_⟩; conv => whnf)
      rw [show lk [114, 111, 119] ρ2 = some (.obj jr) from g3]
      conv => whnf
      repeat (refine ⟨by first | exact True.intro | decide | exact Nat.le_of_ble_eq_true rfl, ?_⟩; conv => whnf)
      rw [mk_lst h3 rfl]
      conv => whnf
      repeat (refine ⟨by first | exact True.intro | decide | exact Nat.le_of_ble_eq_true rfl, ?_⟩; conv => whnf)
      rw [show lk [110, 117, 109, 98, 101, 114] ρ2 = some (.int m) from g4]
      conv => whnf
      repeat (refine ⟨by first | exact True.intro | decide | exact Nat.le_of_ble_eq_true rfl, ?_⟩; conv => whnf)
      rw [h3]
      conv => whnf
      repeat (refine ⟨by first | exact True.intro | decide | exact Nat.le_of_ble_eq_true rfl, ?_⟩; conv => whnf)
      refine ⟨by simp; omega, ?_⟩
      refine app_step h3 ?_
      intro σ1 e1 e2
      have T := tail2 (stL nNumber (.int (m.fdiv 1024)) ρ2) σ1 (m.fdiv 1024) (done ++ [m.fmod 1024]) ((lk_ne rfl _ _).trans g3) (lk_eq _ _ _) (by rw [e1]; simp) e2 (by simp)
      conv => whnf
      rw [show lk [110, 117, 109, 98, 101, 114] ρ2 = some (.int m) from g4]
      conv => whnf
      refine ⟨by decide, by decide, ?_⟩
      exact T
    split
    · conv => whnf
      rw [g2]
      exact tail c
    · conv => whnf
      rw [g2]
      exact tail (7 - c)
theorem c_row {a : Addr} {nums : List Int} (hz : nums.length ≤ 100) (hn : 1 ≤ n) (h : ∀ j σ', Le σ σ' → σ.length ≤ j → IsRow j σ' → k (.obj j) σ') : CLn (tab (some (a, nums.map PV.int))) n 1292 [.val (.ref a)] σ k := by
  obtain ⟨n, rfl, hq⟩ := pred hn
  replace hn := hq
  clear hq
  refine CLn_fn rfl rfl ?_
  conv => whnf
  repeat (refine ⟨by first | exact True.intro | decide | exact Nat.le_of_ble_eq_true rfl, ?_⟩; conv => whnf)
  refine ⟨rfl, by simp; omega, ?_⟩
  conv => whnf
  repeat (refine ⟨by first | exact True.intro | decide | exact Nat.le_of_ble_eq_true rfl, ?_⟩; conv => whnf)
  rw [sgetA0]
  conv => whnf
  repeat (refine ⟨by first | exact True.intro | decide | exact Nat.le_of_ble_eq_true rfl, ?_⟩; conv => whnf)
  refine ⟨by simp; omega, ?_⟩
  rw [← List.map_take]
  refine row_outer (jr := σ.length) (by simp) (nums.take 40) _ _ _ [] (Nat.le_trans (m := 200) (by simp; omega) (by decide)) (by simp; omega) rfl (sget_app _ (by rw [sgetA0]; rfl)) (by rw [sgetA0]; simp [List.map_take, sget]) ?_
  intro ρ' σ' done g1 g2 g3 g4
  have le : Le σ σ' := fun j o ho => by
    have := sget_lt ho
    rw [g4 j (by omega)]
    exact sget_app _ (sget_app _ ho)
  conv => whnf
  repeat (refine ⟨by first | exact True.intro | decide | exact Nat.le_of_ble_eq_true rfl, ?_⟩; conv => whnf)
  rw [g1]
  conv => whnf
  repeat (refine ⟨by first | exact True.intro | decide | exact Nat.le_of_ble_eq_true rfl, ?_⟩; conv => whnf)
  rw [g2]
  conv => whnf
  repeat (refine ⟨by first | exact True.intro | decide | exact Nat.le_of_ble_eq_true rfl, ?_⟩; conv => whnf)
  refine ⟨by simp; omega, ?_⟩
  conv => whnf
  repeat (refine ⟨by first | exact True.intro | decide | exact Nat.le_of_ble_eq_true rfl, ?_⟩; conv => whnf)
  rw [lk_eq]
  conv => whnf
  repeat (refine ⟨by first | exact True.intro | decide | exact Nat.le_of_ble_eq_true rfl, ?_⟩; conv => whnf)
  have e1 : sget (σ' ++ [PO.list ((done.map PV.int).take 160)]) σ'.length = some (.list ((done.map PV.int).take 160)) := by rw [sgetA0]; rfl
  rw [mk_lst e1 rfl]
  conv => whnf
  repeat (refine ⟨by first | exact True.intro | decide | exact Nat.le_of_ble_eq_true rfl, ?_⟩; conv => whnf)
  rw [e1]
  conv => whnf
  repeat (refine ⟨by first | exact True.intro | decide | exact Nat.le_of_ble_eq_true rfl, ?_⟩; conv => whnf)
  refine ⟨by simp; omega, ?_⟩
  refine set_step e1 ?_
  intro σ2 f1 f2
  conv => whnf
  repeat (refine ⟨by first | exact True.intro | decide | exact Nat.le_of_ble_eq_true rfl, ?_⟩; conv => whnf)
  rw [lk_eq]
  conv => whnf
  repeat (refine ⟨by first | exact True.intro | decide | exact Nat.le_of_ble_eq_true rfl, ?_⟩; conv => whnf)
  have hlt : σ.length ≤ σ'.length := by have := sget_lt g2; omega
  refine h _ _ (fun j o ho => f2 _ _ (by have := sget_lt ho; omega) (sget_app _ (le j o ho))) hlt ⟨(done.take 160).reverse, by rw [f1, ← List.map_take, ← List.map_reverse], by simp; omega⟩
end
section
set_option linter.unusedSimpArgs false
set_option linter.unusedVariables false
variable {sc : Option (Addr × List PV)} {n : Nat} {σ : Sto} {k : Kont} {es : List (Txt × PV)} {s t r tv : Nat}
theorem ScOK.lt {σ' : Sto} (H : ScOK σ s t es) (hs : s ≠ r) (ht : t ≠ r) (l : Lt r σ σ') : ScOK σ' s t es := by
  obtain ⟨⟨fs, a, b, c, c2⟩, d⟩ := H
  exact ⟨⟨fs, l _ _ hs a, b, c, c2⟩, l _ _ ht d⟩
theorem ScOK.ne (H : ScOK σ s t es) : s ≠ t := by
  rintro rfl
  obtain ⟨⟨fs, a, _⟩, d⟩ := H
  rw [a] at d; cases d
theorem c_declare {x : Txt} {e at' : PV} (H : ScOK σ s t es) (hx : lk x es = none) (hz : es.length ≤ 100) (hn : 1 ≤ n) (h : ∀ σ', ScOK σ' s t (stL x e es) → Lt t σ σ' → k .none σ') : CLn (tab sc) n 1236 [.obj s, .str x, e, at'] σ k := by
  have hst := H.ne
  obtain ⟨⟨fs, a, b, c, c2⟩, d⟩ := id H
  obtain ⟨n, rfl, hq⟩ := pred hn
  replace hn := hq
  clear hq
  refine CLn_fn rfl rfl ?_
  conv => whnf
  repeat (refine ⟨by first | exact True.intro | decide | exact Nat.le_of_ble_eq_true rfl, ?_⟩; conv => whnf)
  rw [a]
  conv => whnf
  repeat (refine ⟨by first | exact True.intro | decide | exact Nat.le_of_ble_eq_true rfl, ?_⟩; conv => whnf)
  rw [show lk [101, 110, 116, 114, 105, 101, 115] fs = some (.obj t) from b]
  conv => whnf
  repeat (refine ⟨by first | exact True.intro | decide | exact Nat.le_of_ble_eq_true rfl, ?_⟩; conv => whnf)
  rw [d]
  conv => whnf
  repeat (refine ⟨by first | exact True.intro | decide | exact Nat.le_of_ble_eq_true rfl, ?_⟩; conv => whnf)
  rw [hx]
  conv => whnf
  repeat (refine ⟨by first | exact True.intro | decide | exact Nat.le_of_ble_eq_true rfl, ?_⟩; conv => whnf)
  rw [a]
  conv => whnf
  repeat (refine ⟨by first | exact True.intro | decide | exact Nat.le_of_ble_eq_true rfl, ?_⟩; conv => whnf)
  rw [show lk [101, 110, 116, 114, 105, 101, 115] fs = some (.obj t) from b]
  conv => whnf
  repeat (refine ⟨by first | exact True.intro | decide | exact Nat.le_of_ble_eq_true rfl, ?_⟩; conv => whnf)
  rw [d]
  conv => whnf
  repeat (refine ⟨by first | exact True.intro | decide | exact Nat.le_of_ble_eq_true rfl, ?_⟩; conv => whnf)
  refine ⟨by omega, ?_⟩
  refine set_step d ?_
  intro σ' f1 f2
  conv => whnf
  repeat (refine ⟨by first | exact True.intro | decide | exact Nat.le_of_ble_eq_true rfl, ?_⟩; conv => whnf)
  exact h _ ⟨⟨fs, f2 _ _ hst a, b, c, c2⟩, f1⟩ f2
noncomputable def parE (v : Option Int) : PV := .tup [.str [112, 97, 114, 97, 109], vv v, .bool true]
noncomputable abbrev nmB : List CS := forB (nthS b1345S.1 4)
noncomputable abbrev nScript : Txt := [115, 99, 114, 105, 112, 116]
noncomputable abbrev nBits : Txt := [98, 105, 116, 115]
noncomputable abbrev nDesign : Txt := [100, 101, 115, 105, 103, 110]
/-- one name's turn -/
theorem nm_step {x : Txt} {ds : List (Txt × PV)} {ρ : Loc} {q : Nat} {K : KontS} (hn : 3 ≤ n) (g1 : lk nRow ρ = some (.obj r)) (g2 : lk nValues ρ = some (.obj tv)) (g3 : lk nScope ρ = some (.obj s)) (g4 : lk nName ρ = some (.str x))
    (h1 : r ≠ tv) (h2 : r ≠ t) (h3 : tv ≠ t) (h4 : s ≠ r) (h5 : s ≠ tv) (R : IsRow r σ) (H : ScOK σ s t es) (hv : sget σ tv = some (.dict ds)) (hx : lk x es = none) (hz : es.length ≤ 100) (hz2 : ds.length ≤ 100)
    (hK : ∀ ρ' σ' v, (∀ i, v = some i → -3 ≤ i ∧ i ≤ 4) → (∀ y, teq y [98, 105, 116, 115] = false → lk y ρ' = lk y ρ) → IsRow r σ' → ScOK σ' s t (stL x (parE v) es) → sget σ' tv = some (.dict (stL x (ov v) ds)) → (∀ j o, j ≠ r → j ≠ t → j ≠ tv → sget σ j = some o → sget σ' j = some o) → K .nxt ρ' σ') :
    exB (opsN (tab sc) n) (q + 60) nmB ρ σ K := by
  have hst := H.ne
  conv => whnf
  repeat (refine ⟨by first | exact True.intro | decide | exact Nat.le_of_ble_eq_true rfl, ?_⟩; conv => whnf)
  rw [g1]
  conv => whnf
  repeat (refine ⟨by first | exact True.intro | decide | exact Nat.le_of_ble_eq_true rfl, ?_⟩; conv => whnf)
  refine c_next R (by omega) ?_
  intro y σ1 l1 R1
  have H1 := H.lt h4 (Ne.symm h2) l1
  have hv1 := l1 _ _ (Ne.symm h1) hv
  conv => whnf
  repeat (refine ⟨by first | exact True.intro | decide | exact Nat.le_of_ble_eq_true rfl, ?_⟩; conv => whnf)
  obtain ⟨p1, p2⟩ := fm_lt y 8 (by decide)
  generalize hp : y.fmod (Int.ofNat 8) = p at p1 p2 ⊢
  rw [g2]
  conv => whnf
  repeat (refine ⟨by first | exact True.intro | decide | exact Nat.le_of_ble_eq_true rfl, ?_⟩; conv => whnf)
  rw [g4]
  conv => whnf
  repeat (refine ⟨by first | exact True.intro | decide | exact Nat.le_of_ble_eq_true rfl, ?_⟩; conv => whnf)
  rw [hv1]
  conv => whnf
  repeat (refine ⟨by first | exact True.intro | decide | exact Nat.le_of_ble_eq_true rfl, ?_⟩; conv => whnf)
  refine ⟨by omega, ?_⟩
  refine set_step hv1 ?_
  intro σ2 e1 e2
  have H2 := H1.lt h5 (Ne.symm h3) e2
  have R2 : IsRow r σ2 := let ⟨l, a, b⟩ := R1; ⟨l, e2 _ _ h1 a, b⟩
  conv => whnf
  repeat (refine ⟨by first | exact True.intro | decide | exact Nat.le_of_ble_eq_true rfl, ?_⟩; conv => whnf)
  rw [g2]
  conv => whnf
  repeat (refine ⟨by first | exact True.intro | decide | exact Nat.le_of_ble_eq_true rfl, ?_⟩; conv => whnf)
  rw [g4]
  conv => whnf
  repeat (refine ⟨by first | exact True.intro | decide | exact Nat.le_of_ble_eq_true rfl, ?_⟩; conv => whnf)
  rw [e1]
  conv => whnf
  repeat (refine ⟨by first | exact True.intro | decide | exact Nat.le_of_ble_eq_true rfl, ?_⟩; conv => whnf)
  rw [lk_eq]
  conv => whnf
  repeat (refine ⟨by first | exact True.intro | decide | exact Nat.le_of_ble_eq_true rfl, ?_⟩; conv => whnf)
  have eb : PV.tup [PV.int (Int.ofNat 32), PV.int ((p - Int.ofNat 3).fmod (Int.ofNat 2 ^ (Int.ofNat 32).toNat)), PV.int (Int.ofNat 0)] = vv (some (p - 3)) := by
    show PV.tup [.int 32, .int ((p - 3).fmod 4294967296), .int 0] = _
    simp only [vv, vA, vB]; rw [fm _ (by decide)]
  rw [eb]
  have m1 : lk nBits (stL nBits (vv (some (p - 3))) ρ) = some (vv (some (p - 3))) := lk_eq _ _ _
  have mN : ∀ y, teq y nBits = false → lk y (stL nBits (vv (some (p - 3))) ρ) = lk y ρ := fun y h => lk_ne h _ _
  generalize stL nBits (vv (some (p - 3))) ρ = ρ1 at m1 mN ⊢
  rw [(mN nRow rfl).trans g1]
  conv => whnf
  repeat (refine ⟨by first | exact True.intro | decide | exact Nat.le_of_ble_eq_true rfl, ?_⟩; conv => whnf)
  refine c_next R2 (by omega) ?_
  intro z σ3 l3 R3
  have H3 := H2.lt h4 (Ne.symm h2) l3
  have e3 := l3 _ _ (Ne.symm h1) e1
  have keep3 : ∀ j o, j ≠ r → j ≠ t → j ≠ tv → sget σ j = some o → sget σ3 j = some o := fun j o a b c e => l3 _ _ a (e2 _ _ c (l1 _ _ a e))
  -- what is left of the turn
  have fin : ∀ (ρ2 : Loc) (σ4 : Sto) (v : Option Int), (∀ i, v = some i → -3 ≤ i ∧ i ≤ 4) → lk nBits ρ2 = some (vv v) → (∀ y, teq y nBits = false → lk y ρ2 = lk y ρ) → IsRow r σ4 → ScOK σ4 s t es → sget σ4 tv = some (.dict (stL x (ov v) ds)) → (∀ j o, j ≠ r → j ≠ t → j ≠ tv → sget σ j = some o → sget σ4 j = some o) →
      exB (opsN (tab sc) n) (q + 57) (nmB.drop 3) ρ2 σ4 K := by
    intro ρ2 σ4 v b1 b2 b3 b4 b5 b6 b7
    conv => whnf
    repeat (refine ⟨by first | exact True.intro | decide | exact Nat.le_of_ble_eq_true rfl, ?_⟩; conv => whnf)
    rw [(b3 nScope rfl).trans g3]
    conv => whnf
    repeat (refine ⟨by first | exact True.intro | decide | exact Nat.le_of_ble_eq_true rfl, ?_⟩; conv => whnf)
    rw [mk_fn b5.1.choose_spec.1 b5.1.choose_spec.2.2.2 rfl]
    conv => whnf
    repeat (refine ⟨by first | exact True.intro | decide | exact Nat.le_of_ble_eq_true rfl, ?_⟩; conv => whnf)
    rw [(b3 nName rfl).trans g4]
    conv => whnf
    repeat (refine ⟨by first | exact True.intro | decide | exact Nat.le_of_ble_eq_true rfl, ?_⟩; conv => whnf)
    rw [b2]
    conv => whnf
    repeat (refine ⟨by first | exact True.intro | decide | exact Nat.le_of_ble_eq_true rfl, ?_⟩; conv => whnf)
    refine c_declare b5 hx hz (by omega) ?_
    intro σ5 c1 c2
    conv => whnf
    repeat (refine ⟨by first | exact True.intro | decide | exact Nat.le_of_ble_eq_true rfl, ?_⟩; conv => whnf)
    refine hK ρ2 σ5 v b1 b3 (let ⟨l, a, b⟩ := b4; ⟨l, c2 _ _ h2 a, b⟩) c1 (c2 _ _ h3 b6) fun j o a b c e => c2 _ _ b (b7 j o a b c e)
  conv => whnf
  repeat (refine ⟨by first | exact True.intro | decide | exact Nat.le_of_ble_eq_true rfl, ?_⟩; conv => whnf)
  split
  · rename_i c
    conv => whnf
    repeat (refine ⟨by first | exact True.intro | decide | exact Nat.le_of_ble_eq_true rfl, ?_⟩; conv => whnf)
    rw [(mN nValues rfl).trans g2]
    conv => whnf
    repeat (refine ⟨by first | exact True.intro | decide | exact Nat.le_of_ble_eq_true rfl, ?_⟩; conv => whnf)
    rw [(mN nName rfl).trans g4]
    conv => whnf
    repeat (refine ⟨by first | exact True.intro | decide | exact Nat.le_of_ble_eq_true rfl, ?_⟩; conv => whnf)
    rw [e3]
    conv => whnf
    repeat (refine ⟨by first | exact True.intro | decide | exact Nat.le_of_ble_eq_true rfl, ?_⟩; conv => whnf)
    have hz3 : (stL x (PV.int (p - 3)) ds).length ≤ ds.length + 1 := stL_len _
    refine ⟨by show (stL x (PV.int (p - 3)) ds).length + 1 ≤ 1000; omega, ?_⟩
    refine set_step e3 ?_
    intro σ4 f1 f2
    have T := fin (stL nBits (vv none) ρ1) σ4 none (by rintro i ⟨⟩) (lk_eq _ _ _) (fun y h => (lk_ne h _ _).trans (mN y h)) (let ⟨l, a, b⟩ := R3; ⟨l, f2 _ _ h1 a, b⟩) (H3.lt h5 (Ne.symm h3) f2) (by rw [f1]; show some (PO.dict (stL x PV.none (stL x (PV.int (p - 3)) ds))) = _; rw [stL_stL]; rfl) (fun j o a b c e => f2 _ _ c (keep3 j o a b c e))
    conv => whnf
    repeat (refine And.intro (by decide) ?_)
    exact T
  · rename_i c
    exact fin ρ1 σ3 (some (p - 3)) (by rintro i ⟨⟩; omega) m1 mN R3 H3 e3 keep3
end
section
set_option linter.unusedSimpArgs false
set_option linter.unusedVariables false
variable {sc : Option (Addr × List PV)} {n : Nat} {σ : Sto} {k : Kont} {es : List (Txt × PV)} {s t r tv : Nat} {num : Int}
/-! ## blocks as plain data -/
noncomputable def TxtOK (t : Txt) : Prop := ∀ c ∈ t, c < 0x110000
theorem strOk_of {t : Txt} (h : TxtOK t) : PyData.strOk (tS t) = true := by
  unfold PyData.strOk tS
  simpa [TxtOK] using h
theorem TxtOK.app {a b : Txt} (h : TxtOK a) (g : TxtOK b) : TxtOK (a ++ b) := fun c hc => (List.mem_append.mp hc).elim (h c) (g c)
theorem nT_ok (i : Int) (h : -200 ≤ i ∧ i ≤ 200) : TxtOK (nT i) := by
  have key : ∀ j : Fin 401, (nT ((j.val : Int) - 200)).all (fun c => decide (c < 0x110000)) = true := by decide +kernel
  have := key ⟨(i + 200).toNat, by omega⟩
  have e : (((i + 200).toNat : Int) - 200) = i := by omega
  simp only [e] at this
  exact fun c hc => of_decide_eq_true (List.all_eq_true.mp this c hc)
theorem lab_ok {l : PV} (hl : LabOK l) (h : -200 ≤ num ∧ num ≤ 200) : TxtOK (labT num l) := by
  rcases hl with rfl | rfl | rfl
  · exact TxtOK.app (by show TxtOK [103, 101, 110, 98, 108, 107]; unfold TxtOK; decide) (nT_ok num h)
  · show TxtOK [111, 110, 101]; unfold TxtOK; decide
  · show TxtOK [116, 119, 111]; unfold TxtOK; decide
structure BlkOK (x : PV) : Prop where
  ex : ∃ l names items, x = row l names items ∧ TxtOK l ∧ (names = [] ∨ ∃ v : Int, names = [.tup [.str tI, .int v]]) ∧ ItemsOK items
noncomputable def WfB (b : List PV) : Prop := (∀ x ∈ b, BlkOK x) ∧ b.length ≤ 100
theorem Br.wf {m : Nat} {item : PV} {b : List PV} (h1 : -200 ≤ num ∧ num ≤ 200) (B : Br es num m item b) : WfB b := by
  induction B with
  | none => exact ⟨fun _ h => (nomatch h), by simp⟩
  | blk hl hi => exact ⟨fun x hx => by cases List.mem_singleton.mp hx; exact ⟨_, _, _, rfl, lab_ok hl h1, .inl rfl, hi⟩, by simp⟩
  | one => exact ⟨fun x hx => by cases List.mem_singleton.mp hx; exact ⟨_, _, _, rfl, lab_ok (.inl rfl) h1, .inl rfl, by simp, fun y hy => ⟨_, List.mem_singleton.mp hy⟩⟩, by simp⟩
  | ife _ _ _ _ ih1 ih2 => split; exact ih1; exact ih2
  | @cas m d f rows _ _ _ _ ih =>
    cases h : pickR f rows with
    | none => exact ⟨fun _ h => (nomatch h), by simp [blksOf]⟩
    | some q => exact ih q (pickR_mem h)
theorem LP.wf {item : PV} {b : List PV} (h1 : -200 ≤ num ∧ num ≤ 200) (B : LP es num item b) : WfB b := by
  obtain ⟨bg, l, items, o, first, en, st, many, hl, hI, _, _, _, hm, hb, _, _, _, rfl⟩ := B
  refine ⟨fun x hx => ?_, by simp; omega⟩
  obtain ⟨v, hv, rfl⟩ := List.mem_map.mp hx
  obtain ⟨j, hj, rfl⟩ := List.mem_map.mp hv
  have := hb j (Nat.le_of_lt (List.mem_range.mp hj))
  refine ⟨_, _, _, rfl, ((((lab_ok hl h1).app ?_).app (nT_ok _ this)).app ?_), .inr ⟨_, rfl⟩, hI⟩
  · unfold TxtOK; decide
  · unfold TxtOK; decide
/-- as the library's own data -/
theorem toPys_of {l : List PV} {d : Nat} (h : ∀ x ∈ l, ∃ p, toPy x = some p ∧ p.canLay0 = true ∧ p.depth ≤ d) : ∃ ps, toPys l = some ps ∧ PyData.canLayAll0 ps = true ∧ PyData.depthAll ps ≤ d := by
  induction l with
  | nil => exact ⟨[], rfl, rfl, Nat.zero_le _⟩
  | cons x l ih =>
    obtain ⟨p, h1, h2, h3⟩ := h x (.head _)
    obtain ⟨ps, g1, g2, g3⟩ := ih fun y hy => h y (.tail _ hy)
    refine ⟨p :: ps, (by show o2 List.cons (toPy x) (toPys l) = _; rw [h1, g1]; rfl), (by show (p.canLay0 && PyData.canLayAll0 ps) = true; rw [h2, g2]; rfl), ?_⟩
    simp only [PyData.depthAll]
    omega
theorem item_py (i : Int) : ∃ p, toPy (.tup [.str tInitial, .int i, .none]) = some p ∧ p.canLay0 = true ∧ p.depth ≤ 5 := by
  refine ⟨.tuple [.str (tS tInitial), .int i, .none], rfl, ?_, ?_⟩
  · simp [PyData.canLay0, PyData.canLayAll0]; exact strOk_of (by unfold TxtOK; decide)
  · simp [PyData.depth, PyData.depthAll]
theorem BlkOK.py {x : PV} (h : BlkOK x) : ∃ p, toPy x = some p ∧ p.canLay0 = true ∧ p.depth ≤ 20 := by
  obtain ⟨l, names, items, rfl, hl, hn, hi⟩ := h.ex
  obtain ⟨ps, g1, g2, g3⟩ := toPys_of (l := items) (d := 5) fun y hy => by
    obtain ⟨i, rfl⟩ := hi.2 y hy
    exact item_py i
  have hnn : ∃ qs, toPys names = some qs ∧ PyData.canLayAll0 qs = true ∧ PyData.depthAll qs ≤ 5 := by
    refine toPys_of fun y hy => ?_
    rcases hn with rfl | ⟨v, rfl⟩
    · cases hy
    · cases List.mem_singleton.mp hy
      refine ⟨.tuple [.str (tS tI), .int v], rfl, ?_, ?_⟩
      · simp [PyData.canLay0, PyData.canLayAll0]; exact strOk_of (by unfold TxtOK; decide)
      · simp [PyData.depth, PyData.depthAll]
  obtain ⟨qs, q1, q2, q3⟩ := hnn
  refine ⟨.tuple [.str (tS l), .tuple qs, .tuple ps], (by show Option.map PyData.tuple (o2 List.cons (some (.str (tS l))) (o2 List.cons (Option.map PyData.tuple (toPys names)) (o2 List.cons (Option.map PyData.tuple (toPys items)) (some [])))) = _; rw [g1, q1]; rfl), ?_, ?_⟩
  · simp [PyData.canLay0, PyData.canLayAll0, g2, q2]; exact strOk_of hl
  · simp only [PyData.depth, PyData.depthAll]; omega
theorem WfB.py {b : List PV} (h : WfB b) : ∃ p, toPys b = some p ∧ SeqAt.shaped (.list p) = true := by
  obtain ⟨ps, g1, g2, g3⟩ := toPys_of (l := b) (d := 20) fun y hy => (h.1 y hy).py
  refine ⟨ps, g1, ?_⟩
  simp [SeqAt.shaped, PyData.canLay0, g2, PyData.depth]; omega
/-! ## the told blocks -/
noncomputable abbrev tdE : CE := match nthS b1345S.1 9 with | .asn _ (.comp e _ _ _ _) => e | _ => .val .none
noncomputable abbrev nNames : Txt := [110, 97, 109, 101, 115]
theorem told_comp {O : Ops} {j : Nat} {all : List PV} (hs : sget σ j = some (.list all)) {K : List PV → Sto → Prop} : ∀ (l : List PV) (q : Nat), (∀ x ∈ l, BlkOK x) → l.length + 60 ≤ q → K l σ → evM O q tdE [nLabel, nNames, nItems] false (some j) all l [] σ K
  | [], q, hb, hq, hK => by
    obtain ⟨q, rfl⟩ : ∃ q', q = q' + 31 := ⟨q - 31, by omega⟩
    conv => whnf
    repeat (refine ⟨by first | exact True.intro | decide | exact Nat.le_of_ble_eq_true rfl, ?_⟩; conv => whnf)
    exact hK
  | x :: l, q, hb, hq, hK => by
    obtain ⟨q, rfl⟩ : ∃ q', q = q' + 31 := ⟨q - 31, by omega⟩
    rw [List.length_cons] at hq
    obtain ⟨lb, names, items, rfl, hl, hn, hi⟩ := (hb _ (.head _)).ex
    have hnl : names.length ≤ 1000 := by rcases hn with rfl | ⟨v, rfl⟩ <;> simp
    conv => whnf
    repeat (refine ⟨by first | exact True.intro | decide | exact Nat.le_of_ble_eq_true rfl, ?_⟩; conv => whnf)
    refine ⟨hnl, ?_⟩
    conv => whnf
    repeat (refine ⟨by first | exact True.intro | decide | exact Nat.le_of_ble_eq_true rfl, ?_⟩; conv => whnf)
    refine ⟨hi.1, ?_⟩
    conv => whnf
    repeat (refine ⟨by first | exact True.intro | decide | exact Nat.le_of_ble_eq_true rfl, ?_⟩; conv => whnf)
    refine ⟨hs, ?_⟩
    exact told_comp hs (K := fun vs σ => K (row lb names items :: vs) σ) l (q + 30) (fun y hy => hb y (.tail _ hy)) (by omega) hK
end
section
set_option linter.unusedSimpArgs false
set_option linter.unusedVariables false
/-- the scope's names, as the law lays them -/
structure EsOK (es : List (Txt × PV)) : Prop where
  py : ∀ p ∈ es, ∃ q, toPy p.2 = some q ∧ SeqAt.shaped q = true
  len : es.length ≤ 10
  hi : ∀ e, lk tI es = some e → ∃ l, e = .tup l
noncomputable abbrev nHeld : Txt := [104, 101, 108, 100]
noncomputable abbrev nTold : Txt := [116, 111, 108, 100]
/-- the blocks told, and those due -/
theorem law_end {sc : Option (Addr × List PV)} {n : Nat} {K : KontS} {es : List (Txt × PV)} {s t hd jd : Nat} {num : Int} {ρ : Loc} {σ : Sto} {item : PV} {b : List PV} (hK : ∀ ρ σ, K (.ret (.bool true)) ρ σ)
    (g2 : lk nScope ρ = some (.obj s)) (g4 : lk nHeld ρ = some (.obj hd)) (g5 : lk nNumber ρ = some (.int num)) (g6 : lk nItem ρ = some item) (g7 : lk nDue ρ = some (.obj jd))
    (H : ScOK σ s t es) (E : EsOK es) (hh : sget σ hd = some (.dict es)) (hb : sget σ jd = some (.list b)) (W : WfB b)
    (call : ∀ k : Kont, (∀ j σ', Le σ σ' → sget σ' j = some (.list b) → k (.obj j) σ') → CLn (tab sc) n 1145 [.obj s, item, .int num] σ k) :
    exB (opsN (tab sc) n) 391 (b1345S.1.drop 9) ρ σ K := by
  obtain ⟨p, p1, p2⟩ := W.py
  conv => whnf
  repeat (refine ⟨by first | exact True.intro | decide | exact Nat.le_of_ble_eq_true rfl, ?_⟩; conv => whnf)
  rw [g2]
  conv => whnf
  repeat (refine ⟨by first | exact True.intro | decide | exact Nat.le_of_ble_eq_true rfl, ?_⟩; conv => whnf)
  rw [g6]
  conv => whnf
  repeat (refine ⟨by first | exact True.intro | decide | exact Nat.le_of_ble_eq_true rfl, ?_⟩; conv => whnf)
  rw [g5]
  conv => whnf
  repeat (refine ⟨by first | exact True.intro | decide | exact Nat.le_of_ble_eq_true rfl, ?_⟩; conv => whnf)
  refine call _ ?_
  intro j σ1 l1 hj
  conv => whnf
  repeat (refine ⟨by first | exact True.intro | decide | exact Nat.le_of_ble_eq_true rfl, ?_⟩; conv => whnf)
  rw [hj]
  conv => whnf
  repeat (refine ⟨by first | exact True.intro | decide | exact Nat.le_of_ble_eq_true rfl, ?_⟩; conv => whnf)
  refine ⟨by have := W.2; omega, ?_⟩
  refine told_comp hj b _ W.1 (Nat.le_trans (m := 200) (by have := W.2; omega) (by decide)) ?_
  conv => whnf
  repeat (refine ⟨by first | exact True.intro | decide | exact Nat.le_of_ble_eq_true rfl, ?_⟩; conv => whnf)
  have T1 : sget (σ1 ++ [PO.list b]) σ1.length = some (.list b) := by rw [sgetA0]; rfl
  have T2 := sget_app [PO.list b] (l1 _ _ hb)
  have T3 := sget_app [PO.list b] (l1 _ _ hh)
  obtain ⟨⟨fs, a1, a2, a3, a4⟩, a5⟩ := (H.le l1).le (Le.app _ [PO.list b])
  rw [lk_eq]
  conv => whnf
  repeat (refine ⟨by first | exact True.intro | decide | exact Nat.le_of_ble_eq_true rfl, ?_⟩; conv => whnf)
  rw [lk_ne (x := nDue) (y := nTold) rfl, g7]
  conv => whnf
  repeat (refine ⟨by first | exact True.intro | decide | exact Nat.le_of_ble_eq_true rfl, ?_⟩; conv => whnf)
  rw [T1, T2]
  conv => whnf
  repeat (refine ⟨by first | exact True.intro | decide | exact Nat.le_of_ble_eq_true rfl, ?_⟩; conv => whnf)
  rw [p1]
  conv => whnf
  repeat (refine ⟨by first | exact True.intro | decide | exact Nat.le_of_ble_eq_true rfl, ?_⟩; conv => whnf)
  refine ⟨p2, p2, ?_⟩
  dsimp only
  rw [SeqAt.eqv_refl _ (SeqAt.canLay_of_shaped p2)]
  conv => whnf
  repeat (refine ⟨by first | exact True.intro | decide | exact Nat.le_of_ble_eq_true rfl, ?_⟩; conv => whnf)
  rw [lk_ne (x := nScope) (y := nTold) rfl, g2]
  conv => whnf
  repeat (refine ⟨by first | exact True.intro | decide | exact Nat.le_of_ble_eq_true rfl, ?_⟩; conv => whnf)
  rw [a1]
  conv => whnf
  repeat (refine ⟨by first | exact True.intro | decide | exact Nat.le_of_ble_eq_true rfl, ?_⟩; conv => whnf)
  rw [show lk [101, 110, 116, 114, 105, 101, 115] fs = some (.obj t) from a2]
  conv => whnf
  repeat (refine ⟨by first | exact True.intro | decide | exact Nat.le_of_ble_eq_true rfl, ?_⟩; conv => whnf)
  rw [lk_ne (x := nHeld) (y := nTold) rfl, g4]
  conv => whnf
  repeat (refine ⟨by first | exact True.intro | decide | exact Nat.le_of_ble_eq_true rfl, ?_⟩; conv => whnf)
  rw [a5, T3]
  conv => whnf
  repeat (refine ⟨by first | exact True.intro | decide | exact Nat.le_of_ble_eq_true rfl, ?_⟩; conv => whnf)
  refine ⟨rfl, E.py, ?_⟩
  conv => whnf
  repeat (refine ⟨by first | exact True.intro | decide | exact Nat.le_of_ble_eq_true rfl, ?_⟩; conv => whnf)
  exact hK _ _
/-- the construct, drawn and asked -/
theorem law_tail {sc : Option (Addr × List PV)} {n : Nat} {K : KontS} {es : List (Txt × PV)} {s t r tv : Nat} {vn vk : Option Int} {ρ : Loc} {σ : Sto} (hn : 30 ≤ n) (hK : ∀ ρ σ, K (.ret (.bool true)) ρ σ)
    (g1 : lk nRow ρ = some (.obj r)) (g2 : lk nScope ρ = some (.obj s)) (g3 : lk nValues ρ = some (.obj tv)) (hs : s ≠ r) (ht : t ≠ r) (hv : tv ≠ r) (R : IsRow r σ) (H : ScOK σ s t es) (V : Val es tv vn vk σ) (E : EsOK es) :
    exB (opsN (tab sc) n) 394 (b1345S.1.drop 6) ρ σ K := by
  obtain ⟨⟨fs, a1, a2, a3, a4⟩, a5⟩ := id H
  conv => whnf
  repeat (refine ⟨by first | exact True.intro | decide | exact Nat.le_of_ble_eq_true rfl, ?_⟩; conv => whnf)
  rw [g2]
  conv => whnf
  repeat (refine ⟨by first | exact True.intro | decide | exact Nat.le_of_ble_eq_true rfl, ?_⟩; conv => whnf)
  rw [a1]
  conv => whnf
  repeat (refine ⟨by first | exact True.intro | decide | exact Nat.le_of_ble_eq_true rfl, ?_⟩; conv => whnf)
  rw [show lk [101, 110, 116, 114, 105, 101, 115] fs = some (.obj t) from a2]
  conv => whnf
  repeat (refine ⟨by first | exact True.intro | decide | exact Nat.le_of_ble_eq_true rfl, ?_⟩; conv => whnf)
  rw [a5]
  conv => whnf
  repeat (refine ⟨by first | exact True.intro | decide | exact Nat.le_of_ble_eq_true rfl, ?_⟩; conv => whnf)
  have hh : sget (σ ++ [PO.dict es]) σ.length = some (.dict es) := by rw [sgetA0]; rfl
  have R0 := R.le (Le.app _ [PO.dict es])
  have H0 := H.le (Le.app _ [PO.dict es])
  have V0 := V.lt hv (.le (t := r) (Le.app σ [PO.dict es]))
  have hlr : σ.length ≠ r := by have := sget_lt R.choose_spec.1; omega
  rw [lk_ne (x := nRow) (y := nHeld) rfl, g1]
  conv => whnf
  repeat (refine ⟨by first | exact True.intro | decide | exact Nat.le_of_ble_eq_true rfl, ?_⟩; conv => whnf)
  refine c_next R0 (by omega) ?_
  intro x σ1 l1 R1
  conv => whnf
  repeat (refine ⟨by first | exact True.intro | decide | exact Nat.le_of_ble_eq_true rfl, ?_⟩; conv => whnf)
  obtain ⟨p1, p2⟩ := fm_lt x 3 (by decide)
  have hnum : -200 ≤ Int.ofNat 1 + x.fmod (Int.ofNat 3) ∧ Int.ofNat 1 + x.fmod (Int.ofNat 3) ≤ 200 := by simp only [Int.ofNat_eq_natCast] at *; omega
  generalize Int.ofNat 1 + x.fmod (Int.ofNat 3) = num at hnum ⊢
  have H1 := H0.lt hs ht l1
  have V1 := V0.lt hv l1
  have hh1 := l1 _ _ hlr hh
  change match lk nRow (stL nNumber (.int num) (stL nHeld (.obj σ.length) ρ)) with | some d => _ | none => _
  have m1 : lk nRow (stL nNumber (.int num) (stL nHeld (.obj σ.length) ρ)) = some (.obj r) := (lk_ne rfl _ _).trans ((lk_ne rfl _ _).trans g1)
  have m2 : lk nScope (stL nNumber (.int num) (stL nHeld (.obj σ.length) ρ)) = some (.obj s) := (lk_ne rfl _ _).trans ((lk_ne rfl _ _).trans g2)
  have m3 : lk nValues (stL nNumber (.int num) (stL nHeld (.obj σ.length) ρ)) = some (.obj tv) := (lk_ne rfl _ _).trans ((lk_ne rfl _ _).trans g3)
  have m4 : lk nHeld (stL nNumber (.int num) (stL nHeld (.obj σ.length) ρ)) = some (.obj σ.length) := (lk_ne rfl _ _).trans (lk_eq _ _ _)
  have m5 : lk nNumber (stL nNumber (.int num) (stL nHeld (.obj σ.length) ρ)) = some (.int num) := lk_eq _ _ _
  generalize stL nNumber (.int num) (stL nHeld (.obj σ.length) ρ) = ρ1 at m1 m2 m3 m4 m5 ⊢
  rw [m1]
  conv => whnf
  repeat (refine ⟨by first | exact True.intro | decide | exact Nat.le_of_ble_eq_true rfl, ?_⟩; conv => whnf)
  refine c_next R1 (by omega) ?_
  intro y σ2 l2 R2
  have H2 := H1.lt hs ht l2
  have V2 := V1.lt hv l2
  have hh2 := l2 _ _ hlr hh1
  have close : ∀ (item : PV) (j : Nat) (b : List PV) (σ' : Sto), Lt r σ2 σ' → IsRow r σ' → sget σ' j = some (.list b) → WfB b → (∀ (σ3 : Sto) (k : Kont), ScOK σ3 s t es → (∀ j σ', Le σ3 σ' → sget σ' j = some (.list b) → k (.obj j) σ') → CLn (tab sc) n 1145 [.obj s, item, .int num] σ3 k) →
      exB (opsN (tab sc) n) 391 (b1345S.1.drop 9) (stL nDue (.obj j) (stL nItem item ρ1)) σ' K := by
    intro item j b σ' l R' hj W call
    have H' := H2.lt hs ht l
    exact law_end hK ((lk_ne rfl _ _).trans ((lk_ne rfl _ _).trans m2)) ((lk_ne rfl _ _).trans ((lk_ne rfl _ _).trans m4)) ((lk_ne rfl _ _).trans ((lk_ne rfl _ _).trans m5)) ((lk_ne rfl _ _).trans (lk_eq _ _ _)) (lk_eq _ _ _) H' E (l _ _ hlr hh2) hj W (fun k h => call σ' k H' h)
  conv => whnf
  repeat (refine ⟨by first | exact True.intro | decide | exact Nat.le_of_ble_eq_true rfl, ?_⟩; conv => whnf)
  split
  · conv => whnf
    repeat (refine ⟨by first | exact True.intro | decide | exact Nat.le_of_ble_eq_true rfl, ?_⟩; conv => whnf)
    rw [m1]
    conv => whnf
    repeat (refine ⟨by first | exact True.intro | decide | exact Nat.le_of_ble_eq_true rfl, ?_⟩; conv => whnf)
    rw [m3]
    conv => whnf
    repeat (refine ⟨by first | exact True.intro | decide | exact Nat.le_of_ble_eq_true rfl, ?_⟩; conv => whnf)
    rw [m5]
    conv => whnf
    repeat (refine ⟨by first | exact True.intro | decide | exact Nat.le_of_ble_eq_true rfl, ?_⟩; conv => whnf)
    refine c_lloop hv hnum (by omega) R2 V2 ?_
    intro item j b σ' l R' _ hj B
    have W := B.wf hnum
    refine close item j b σ' l R' hj W ?_
    intro σ3 k H3 h
    obtain ⟨bg, l, items, o, first, en, st, many, q1, q2, q3, q4, q5, q6, q7, q8, q9, rfl, rfl⟩ := B
    exact c_for q1 hnum E.hi E.len q3 q4 q5 q6 q7 q8 q9 H3 (by omega) h
  · conv => whnf
    repeat (refine ⟨by first | exact True.intro | decide | exact Nat.le_of_ble_eq_true rfl, ?_⟩; conv => whnf)
    rw [m1]
    conv => whnf
    repeat (refine ⟨by first | exact True.intro | decide | exact Nat.le_of_ble_eq_true rfl, ?_⟩; conv => whnf)
    rw [m3]
    conv => whnf
    repeat (refine ⟨by first | exact True.intro | decide | exact Nat.le_of_ble_eq_true rfl, ?_⟩; conv => whnf)
    rw [m5]
    conv => whnf
    repeat (refine ⟨by first | exact True.intro | decide | exact Nat.le_of_ble_eq_true rfl, ?_⟩; conv => whnf)
    refine c_lch2 hnum hv (by omega) R2 V2 ?_
    intro item j b σ' l R' _ hj B hi
    refine close item j b σ' l R' hj (B.wf hnum) ?_
    intro σ3 k H3 h
    exact c_choice hnum B hi (by omega) H3 h
theorem par_py (v : Option Int) : ∃ q, toPy (parE v) = some q ∧ SeqAt.shaped q = true := by
  refine ⟨.tuple [.str (tS [112, 97, 114, 97, 109]), .tuple [.int 32, .int (vA v), .int (vB v)], .bool true], rfl, ?_⟩
  simp [SeqAt.shaped, PyData.canLay0, PyData.canLayAll0, PyData.depth, PyData.depthAll]
  exact strOk_of (by unfold TxtOK; decide)
theorem gen_py : ∃ q, toPy (.tup [.str [103, 101, 110, 118, 97, 114], .int 77]) = some q ∧ SeqAt.shaped q = true := by
  refine ⟨.tuple [.str (tS [103, 101, 110, 118, 97, 114]), .int 77], rfl, ?_⟩
  simp [SeqAt.shaped, PyData.canLay0, PyData.canLayAll0, PyData.depth, PyData.depthAll]
  exact strOk_of (by unfold TxtOK; decide)
/-- the law's body: it comes to True -/
theorem law_runs {a : Addr} {nums : List Int} {n : Nat} {K : KontS} (hz : nums.length ≤ 100) (hn : 30 ≤ n) (hK : ∀ ρ σ, K (.ret (.bool true)) ρ σ) :
    exB (opsN (tab (some (a, nums.map PV.int))) n) 400 b1345S.1 [(nScript, .val (.ref a))] [] K := by
  conv => whnf
  repeat (refine ⟨by first | exact True.intro | decide | exact Nat.le_of_ble_eq_true rfl, ?_⟩; conv => whnf)
  refine c_row hz (by omega) ?_
  intro r σ1 l1 _ R1
  conv => whnf
  repeat (refine ⟨by first | exact True.intro | decide | exact Nat.le_of_ble_eq_true rfl, ?_⟩; conv => whnf)
  refine c_design (by omega) ?_
  intro d js ds σ2 l2 hd hjs hne hd1 hd2 hd3 hd4
  conv => whnf
  repeat (refine ⟨by first | exact True.intro | decide | exact Nat.le_of_ble_eq_true rfl, ?_⟩; conv => whnf)
  have hr2 := sget_lt R1.choose_spec.1
  refine c_scope hd1 hd2 hd3 hd4 (by omega) ?_
  intro s t fs σ3 hs ht hst hs1 hs2 hs3 hs4 hs5 keep3
  have H3 : ScOK σ3 s t [] := ⟨⟨fs, hs1, hs2, hs3, hs4⟩, hs5⟩
  have R3 : IsRow r σ3 := by
    obtain ⟨l, h1, h2⟩ := R1
    exact ⟨l, keep3 _ _ (by omega) (l2 _ _ h1), h2⟩
  have z3 : s < σ3.length := sget_lt hs1
  have z3' : t < σ3.length := sget_lt hs5
  have z2 : σ1.length ≤ σ2.length := by have := sget_lt (l2 _ _ R1.choose_spec.1); have := sget_lt hd1; omega
  conv => whnf
  repeat (refine ⟨by first | exact True.intro | decide | exact Nat.le_of_ble_eq_true rfl, ?_⟩; conv => whnf)
  have n4 : sget (σ3 ++ [PO.dict []] ++ [PO.list [.str [110], .str [107]]]) (σ3 ++ [PO.dict []]).length = some (.list [.str [110], .str [107]]) := by rw [sgetA0]; rfl
  have v4 : sget (σ3 ++ [PO.dict []] ++ [PO.list [.str [110], .str [107]]]) σ3.length = some (.dict []) := sget_app _ (by rw [sgetA0]; rfl)
  have H4 := (H3.le (Le.app _ [PO.dict []])).le (Le.app _ [PO.list [.str [110], .str [107]]])
  have R4 := (R3.le (Le.app _ [PO.dict []])).le (Le.app _ [PO.list [.str [110], .str [107]]])
  have jl : (σ3 ++ [PO.dict []]).length = σ3.length + 1 := by simp
  have hlt : r < σ3.length := sget_lt R3.choose_spec.1
  simp only [show putAll [] [] = ([] : List (Txt × PV)) from rfl]
  change match sget (σ3 ++ [PO.dict []] ++ [PO.list [.str [110], .str [107]]]) (σ3 ++ [PO.dict []]).length with | some (PO.list l) => _ | _ => _
  rw [n4]
  conv => whnf
  refine And.intro (by decide) ?_
  show exB (opsN _ n) (333 + 60) nmB (stL nName (.str [110]) [(nScript, .val (.ref a)), (nRow, .obj r), (nDesign, .obj d), (nScope, .obj s), (nValues, .obj σ3.length)]) (σ3 ++ [PO.dict []] ++ [PO.list [.str [110], .str [107]]]) (lpK _ _)
  rw [jl] at n4 ⊢
  generalize σ3 ++ [PO.dict []] ++ [PO.list [.str [110], .str [107]]] = σ4 at n4 v4 H4 R4 ⊢
  refine nm_step (r := r) (tv := σ3.length) (s := s) (t := t) (x := [110]) (ds := []) (es := []) (by omega) rfl rfl rfl rfl (by omega) (by omega) (by omega) (by omega) (by omega) R4 H4 v4 rfl (by simp) (by simp) ?_
  intro ρ5 σ5 vn bn g5 R5 H5 v5 keep5
  have n5 := keep5 _ _ (by omega) (by omega) (by omega) n4
  refine And.intro n5 ?_
  show exB (opsN _ n) (332 + 60) nmB (stL nName (.str [107]) ρ5) σ5 (lpK _ _)
  have e1 : lk nRow (stL nName (.str [107]) ρ5) = some (.obj r) := (lk_ne rfl _ _).trans (g5 nRow rfl)
  have e2 : lk nValues (stL nName (.str [107]) ρ5) = some (.obj σ3.length) := (lk_ne rfl _ _).trans (g5 nValues rfl)
  have e3 : lk nScope (stL nName (.str [107]) ρ5) = some (.obj s) := (lk_ne rfl _ _).trans (g5 nScope rfl)
  refine nm_step (r := r) (tv := σ3.length) (s := s) (t := t) (x := [107]) (by omega) e1 e2 e3 (lk_eq _ _ _) (by omega) (by omega) (by omega) (by omega) (by omega) R5 H5 v5 rfl (Nat.le_of_ble_eq_true rfl) (Nat.le_of_ble_eq_true rfl) ?_
  intro ρ6 σ6 vk bk g6 R6 H6 v6 keep6
  have n6 := keep6 _ _ (by omega) (by omega) (by omega) n5
  refine And.intro n6 ?_
  have r6 := (g6 nRow rfl).trans e1
  have s6 := (g6 nScope rfl).trans e3
  have w6 := (g6 nValues rfl).trans e2
  clear g6 g5 keep5 keep6 e1 e2 e3
  conv => whnf
  repeat (refine ⟨by first | exact True.intro | decide | exact Nat.le_of_ble_eq_true rfl, ?_⟩; conv => whnf)
  rw [r6]
  conv => whnf
  repeat (refine ⟨by first | exact True.intro | decide | exact Nat.le_of_ble_eq_true rfl, ?_⟩; conv => whnf)
  refine c_next R6 (by omega) ?_
  intro y σ7 l7 R7
  conv => whnf
  repeat (refine ⟨by first | exact True.intro | decide | exact Nat.le_of_ble_eq_true rfl, ?_⟩; conv => whnf)
  have v7 := l7 _ _ (by omega) v6
  have H7 := H6.lt (r := r) (by omega) (by omega) l7
  split
  · conv => whnf
    repeat (refine ⟨by first | exact True.intro | decide | exact Nat.le_of_ble_eq_true rfl, ?_⟩; conv => whnf)
    rw [s6]
    conv => whnf
    repeat (refine ⟨by first | exact True.intro | decide | exact Nat.le_of_ble_eq_true rfl, ?_⟩; conv => whnf)
    rw [mk_fn H7.1.choose_spec.1 H7.1.choose_spec.2.2.2 rfl]
    conv => whnf
    repeat (refine ⟨by first | exact True.intro | decide | exact Nat.le_of_ble_eq_true rfl, ?_⟩; conv => whnf)
    refine c_declare H7 rfl (Nat.le_of_ble_eq_true rfl) (by omega) ?_
    intro σ8 H8 l8
    have T := law_tail (sc := some (a, nums.map PV.int)) (ρ := ρ6) (σ := σ8) (vn := vn) (vk := vk) (K := K) hn hK r6 s6 w6 (by omega) (by omega) (by omega) (let ⟨l, a, b⟩ := R7; ⟨l, l8 _ _ (by omega) a, b⟩) H8 ⟨l8 _ _ (by omega) v7, ⟨_, rfl, .par vn⟩, ⟨_, rfl, .par vk⟩, bn, bk⟩
      ⟨(by
        intro p hp
        change p ∈ [([110], parE vn), ([107], parE vk), ([105], .tup [.str [103, 101, 110, 118, 97, 114], .int 77])] at hp
        simp only [List.mem_cons, List.not_mem_nil, or_false] at hp
        rcases hp with rfl | rfl | rfl
        · exact par_py vn
        · exact par_py vk
        · exact gen_py), Nat.le_of_ble_eq_true rfl, (by rintro e ⟨⟩; exact ⟨_, rfl⟩)⟩
    exact T
  · have T := law_tail (sc := some (a, nums.map PV.int)) (ρ := ρ6) (σ := σ7) (vn := vn) (vk := vk) (K := K) hn hK r6 s6 w6 (by omega) (by omega) (by omega) R7 H7 ⟨v7, ⟨_, rfl, .par vn⟩, ⟨_, rfl, .par vk⟩, bn, bk⟩
      ⟨(by
        intro p hp
        change p ∈ [([110], parE vn), ([107], parE vk)] at hp
        simp only [List.mem_cons, List.not_mem_nil, or_false] at hp
        rcases hp with rfl | rfl
        · exact par_py vn
        · exact par_py vk), Nat.le_of_ble_eq_true rfl, (by rintro e ⟨⟩)⟩
    exact T
end
section
set_option linter.unusedVariables false
set_option maxHeartbeats 0
theorem len0 {vs : List Value} (h : vs.length = 0) : vs = [] := List.length_eq_zero_iff.mp h
theorem lenS {vs : List Value} {n : Nat} (h : vs.length = n + 1) : ∃ v r, vs = v :: r ∧ r.length = n := by
  cases vs with
  | nil => cases h
  | cons v r => exact ⟨v, r, rfl, Nat.succ.inj h⟩
theorem len1 {vs : List Value} (h : vs.length = 1) : ∃ v0, vs = [v0] := let ⟨v, r, e, h⟩ := lenS h; ⟨v, by rw [e, len0 h]⟩
theorem len2 {vs : List Value} (h : vs.length = 2) : ∃ v0 v1, vs = [v0, v1] := let ⟨v, r, e, h⟩ := lenS h; let ⟨a, e2⟩ := len1 h; ⟨v, a, by rw [e, e2]⟩
theorem len3 {vs : List Value} (h : vs.length = 3) : ∃ v0 v1 v2, vs = [v0, v1, v2] := let ⟨v, r, e, h⟩ := lenS h; let ⟨a, b, e2⟩ := len2 h; ⟨v, a, b, by rw [e, e2]⟩
theorem len4 {vs : List Value} (h : vs.length = 4) : ∃ v0 v1 v2 v3, vs = [v0, v1, v2, v3] := let ⟨v, r, e, h⟩ := lenS h; let ⟨a, b, c, e2⟩ := len3 h; ⟨v, a, b, c, by rw [e, e2]⟩
theorem len5 {vs : List Value} (h : vs.length = 5) : ∃ v0 v1 v2 v3 v4, vs = [v0, v1, v2, v3, v4] := let ⟨v, r, e, h⟩ := lenS h; let ⟨a, b, c, d, e2⟩ := len4 h; ⟨v, a, b, c, d, by rw [e, e2]⟩
theorem len6 {vs : List Value} (h : vs.length = 6) : ∃ v0 v1 v2 v3 v4 v5, vs = [v0, v1, v2, v3, v4, v5] := let ⟨v, r, e, h⟩ := lenS h; let ⟨a, b, c, d, x, e2⟩ := len5 h; ⟨v, a, b, c, d, x, by rw [e, e2]⟩
theorem len7 {vs : List Value} (h : vs.length = 7) : ∃ v0 v1 v2 v3 v4 v5 v6, vs = [v0, v1, v2, v3, v4, v5, v6] := let ⟨v, r, e, h⟩ := lenS h; let ⟨a, b, c, d, x, y, e2⟩ := len6 h; ⟨v, a, b, c, d, x, y, by rw [e, e2]⟩

theorem fnOK_of {K : Frag} {f : Addr} {l : List Stmt} {qual : Str} {dV kV doc pm cd ct : Value} {x : FnT} {names : List Str} {dvs : List Value} (ho : K.lookup f = some (fnO l qual dV kV doc pm cd ct)) (hcd : codeIn K cd qual = true) (hn : names.map sT = x.ps) (hdv : VRs [] [] dvs x.dfl) (hb : cdOf l = x.b) (hsc : scOK (fdScope l) names = true)
    (hbd : ∀ (s : Shared) (vs : List Value), K.In s.heap → (vs.length = names.length → BindsTo s (fnOf (fdName l) qual (fdArgs l) (fdBody l) (fdScope l) dV kV doc pm none cd ct) ⟨vs, []⟩ (names.zip vs)) ∧
      (vs.length + dvs.length = names.length → dvs ≠ [] → BindsTo s (fnOf (fdName l) qual (fdArgs l) (fdBody l) (fdScope l) dV kV doc pm none cd ct) ⟨vs, []⟩ (names.zip (vs ++ dvs)))) : FnOK K gtab f x :=
  ⟨_, _, _, fdName l, qual, fdArgs l, fdBody l, fdScope l, dV, kV, doc, pm, cd, ct, none, names, dvs, 60, ho, hcd, hn, hdv, hb, hsc, hbd⟩
theorem f73 (P : Params) : FnOK (KM P) gtab 73 x73 := by
  refine fnOK_of (l := (bodyAt 6)) (qual := (Str.ofString "mask")) (dV := .none) (kV := .none) (doc := .none) (pm := (.str (Str.ofString "gateloom.vec") 264)) (cd := (.ref 72)) (ct := .none) (names := [Str.ofString "w"]) (dvs := []) (by kernel_rfl) (by kernel_rfl) (by kernel_rfl) .nil b73S.2 (by kernel_rfl) (fun s vs X => ⟨fun h => ?_, fun _ h => absurd rfl h⟩)
  obtain ⟨v0, rfl⟩ := len1 (vs := vs) (h); exact BindsTo.of_eq (by kernel_rfl)
theorem f81 (P : Params) : FnOK (KM P) gtab 81 x81 := by
  refine fnOK_of (l := (bodyAt 7)) (qual := (Str.ofString "vec")) (dV := (.ref 74)) (kV := .none) (doc := .none) (pm := (.str (Str.ofString "gateloom.vec") 264)) (cd := (.ref 80)) (ct := .none) (names := [Str.ofString "w", Str.ofString "a", Str.ofString "b"]) (dvs := [(.int (0) 273)]) (by kernel_rfl) (by kernel_rfl) (by kernel_rfl) (.cons (.int _ _) .nil) b81S.2 (by kernel_rfl) (fun s vs X => ⟨fun h => ?_, fun h _ => ?_⟩)
  · obtain ⟨v0, v1, v2, rfl⟩ := len3 (vs := vs) (h); exact binds_K X (T := 74) (o := o74 P) rfl (by kernel_rfl) rfl rfl (by kernel_rfl)
  · obtain ⟨v0, v1, rfl⟩ := len2 (vs := vs) (Nat.succ.inj h); exact binds_K X (T := 74) (o := o74 P) rfl (by kernel_rfl) rfl rfl (by kernel_rfl)
theorem f95 (P : Params) : FnOK (KM P) gtab 95 x95 := by
  refine fnOK_of (l := (bodyAt 9)) (qual := (Str.ofString "all_x")) (dV := .none) (kV := .none) (doc := .none) (pm := (.str (Str.ofString "gateloom.vec") 264)) (cd := (.ref 94)) (ct := .none) (names := [Str.ofString "w"]) (dvs := []) (by kernel_rfl) (by kernel_rfl) (by kernel_rfl) .nil b95S.2 (by kernel_rfl) (fun s vs X => ⟨fun h => ?_, fun _ h => absurd rfl h⟩)
  obtain ⟨v0, rfl⟩ := len1 (vs := vs) (h); exact BindsTo.of_eq (by kernel_rfl)
theorem f109 (P : Params) : FnOK (KM P) gtab 109 x109 := by
  refine fnOK_of (l := (bodyAt 11)) (qual := (Str.ofString "from_int")) (dV := .none) (kV := .none) (doc := .none) (pm := (.str (Str.ofString "gateloom.vec") 264)) (cd := (.ref 108)) (ct := .none) (names := [Str.ofString "w", Str.ofString "n"]) (dvs := []) (by kernel_rfl) (by kernel_rfl) (by kernel_rfl) .nil b109S.2 (by kernel_rfl) (fun s vs X => ⟨fun h => ?_, fun _ h => absurd rfl h⟩)
  obtain ⟨v0, v1, rfl⟩ := len2 (vs := vs) (h); exact BindsTo.of_eq (by kernel_rfl)
theorem f116 (P : Params) : FnOK (KM P) gtab 116 x116 := by
  refine fnOK_of (l := (bodyAt 12)) (qual := (Str.ofString "is_known")) (dV := .none) (kV := .none) (doc := .none) (pm := (.str (Str.ofString "gateloom.vec") 264)) (cd := (.ref 115)) (ct := .none) (names := [Str.ofString "v"]) (dvs := []) (by kernel_rfl) (by kernel_rfl) (by kernel_rfl) .nil b116S.2 (by kernel_rfl) (fun s vs X => ⟨fun h => ?_, fun _ h => absurd rfl h⟩)
  obtain ⟨v0, rfl⟩ := len1 (vs := vs) (h); exact BindsTo.of_eq (by kernel_rfl)
theorem f123 (P : Params) : FnOK (KM P) gtab 123 x123 := by
  refine fnOK_of (l := (bodyAt 13)) (qual := (Str.ofString "to_int")) (dV := .none) (kV := .none) (doc := .none) (pm := (.str (Str.ofString "gateloom.vec") 264)) (cd := (.ref 122)) (ct := .none) (names := [Str.ofString "v", Str.ofString "signed"]) (dvs := []) (by kernel_rfl) (by kernel_rfl) (by kernel_rfl) .nil b123S.2 (by kernel_rfl) (fun s vs X => ⟨fun h => ?_, fun _ h => absurd rfl h⟩)
  obtain ⟨v0, v1, rfl⟩ := len2 (vs := vs) (h); exact BindsTo.of_eq (by kernel_rfl)
theorem f130 (P : Params) : FnOK (KM P) gtab 130 x130 := by
  refine fnOK_of (l := (bodyAt 14)) (qual := (Str.ofString "code")) (dV := .none) (kV := .none) (doc := .none) (pm := (.str (Str.ofString "gateloom.vec") 264)) (cd := (.ref 129)) (ct := .none) (names := [Str.ofString "v", Str.ofString "i"]) (dvs := []) (by kernel_rfl) (by kernel_rfl) (by kernel_rfl) .nil b130S.2 (by kernel_rfl) (fun s vs X => ⟨fun h => ?_, fun _ h => absurd rfl h⟩)
  obtain ⟨v0, v1, rfl⟩ := len2 (vs := vs) (h); exact BindsTo.of_eq (by kernel_rfl)
theorem f158 (P : Params) : FnOK (KM P) gtab 158 x158 := by
  refine fnOK_of (l := (bodyAt 18)) (qual := (Str.ofString "extend")) (dV := .none) (kV := .none) (doc := .none) (pm := (.str (Str.ofString "gateloom.vec") 264)) (cd := (.ref 157)) (ct := .none) (names := [Str.ofString "v", Str.ofString "w", Str.ofString "signed"]) (dvs := []) (by kernel_rfl) (by kernel_rfl) (by kernel_rfl) .nil b158S.2 (by kernel_rfl) (fun s vs X => ⟨fun h => ?_, fun _ h => absurd rfl h⟩)
  obtain ⟨v0, v1, v2, rfl⟩ := len3 (vs := vs) (h); exact BindsTo.of_eq (by kernel_rfl)
theorem f172 (P : Params) : FnOK (KM P) gtab 172 x172 := by
  refine fnOK_of (l := (bodyAt 20)) (qual := (Str.ofString "truth")) (dV := .none) (kV := .none) (doc := .none) (pm := (.str (Str.ofString "gateloom.vec") 264)) (cd := (.ref 171)) (ct := .none) (names := [Str.ofString "v"]) (dvs := []) (by kernel_rfl) (by kernel_rfl) (by kernel_rfl) .nil b172S.2 (by kernel_rfl) (fun s vs X => ⟨fun h => ?_, fun _ h => absurd rfl h⟩)
  obtain ⟨v0, rfl⟩ := len1 (vs := vs) (h); exact BindsTo.of_eq (by kernel_rfl)
theorem f264 (P : Params) : FnOK (KM P) gtab 264 x264 := by
  refine fnOK_of (l := (bodyAt 25)) (qual := (Str.ofString "add")) (dV := .none) (kV := .none) (doc := .none) (pm := (.str (Str.ofString "gateloom.vecarith") 537)) (cd := (.ref 263)) (ct := .none) (names := [Str.ofString "u", Str.ofString "v"]) (dvs := []) (by kernel_rfl) (by kernel_rfl) (by kernel_rfl) .nil b264S.2 (by kernel_rfl) (fun s vs X => ⟨fun h => ?_, fun _ h => absurd rfl h⟩)
  obtain ⟨v0, v1, rfl⟩ := len2 (vs := vs) (h); exact BindsTo.of_eq (by kernel_rfl)
theorem f348 (P : Params) : FnOK (KM P) gtab 348 x348 := by
  refine fnOK_of (l := (bodyAt 37)) (qual := (Str.ofString "ordered")) (dV := .none) (kV := .none) (doc := .none) (pm := (.str (Str.ofString "gateloom.vecarith") 537)) (cd := (.ref 347)) (ct := .none) (names := [Str.ofString "u", Str.ofString "v", Str.ofString "signed"]) (dvs := []) (by kernel_rfl) (by kernel_rfl) (by kernel_rfl) .nil b348S.2 (by kernel_rfl) (fun s vs X => ⟨fun h => ?_, fun _ h => absurd rfl h⟩)
  obtain ⟨v0, v1, v2, rfl⟩ := len3 (vs := vs) (h); exact BindsTo.of_eq (by kernel_rfl)
theorem f355 (P : Params) : FnOK (KM P) gtab 355 x355 := by
  refine fnOK_of (l := (bodyAt 38)) (qual := (Str.ofString "less")) (dV := .none) (kV := .none) (doc := .none) (pm := (.str (Str.ofString "gateloom.vecarith") 537)) (cd := (.ref 354)) (ct := .none) (names := [Str.ofString "u", Str.ofString "v", Str.ofString "signed"]) (dvs := []) (by kernel_rfl) (by kernel_rfl) (by kernel_rfl) .nil b355S.2 (by kernel_rfl) (fun s vs X => ⟨fun h => ?_, fun _ h => absurd rfl h⟩)
  obtain ⟨v0, v1, v2, rfl⟩ := len3 (vs := vs) (h); exact BindsTo.of_eq (by kernel_rfl)
theorem f362 (P : Params) : FnOK (KM P) gtab 362 x362 := by
  refine fnOK_of (l := (bodyAt 39)) (qual := (Str.ofString "less_equal")) (dV := .none) (kV := .none) (doc := .none) (pm := (.str (Str.ofString "gateloom.vecarith") 537)) (cd := (.ref 361)) (ct := .none) (names := [Str.ofString "u", Str.ofString "v", Str.ofString "signed"]) (dvs := []) (by kernel_rfl) (by kernel_rfl) (by kernel_rfl) .nil b362S.2 (by kernel_rfl) (fun s vs X => ⟨fun h => ?_, fun _ h => absurd rfl h⟩)
  obtain ⟨v0, v1, v2, rfl⟩ := len3 (vs := vs) (h); exact BindsTo.of_eq (by kernel_rfl)
theorem f369 (P : Params) : FnOK (KM P) gtab 369 x369 := by
  refine fnOK_of (l := (bodyAt 40)) (qual := (Str.ofString "greater")) (dV := .none) (kV := .none) (doc := .none) (pm := (.str (Str.ofString "gateloom.vecarith") 537)) (cd := (.ref 368)) (ct := .none) (names := [Str.ofString "u", Str.ofString "v", Str.ofString "signed"]) (dvs := []) (by kernel_rfl) (by kernel_rfl) (by kernel_rfl) .nil b369S.2 (by kernel_rfl) (fun s vs X => ⟨fun h => ?_, fun _ h => absurd rfl h⟩)
  obtain ⟨v0, v1, v2, rfl⟩ := len3 (vs := vs) (h); exact BindsTo.of_eq (by kernel_rfl)
theorem f376 (P : Params) : FnOK (KM P) gtab 376 x376 := by
  refine fnOK_of (l := (bodyAt 41)) (qual := (Str.ofString "greater_equal")) (dV := .none) (kV := .none) (doc := .none) (pm := (.str (Str.ofString "gateloom.vecarith") 537)) (cd := (.ref 375)) (ct := .none) (names := [Str.ofString "u", Str.ofString "v", Str.ofString "signed"]) (dvs := []) (by kernel_rfl) (by kernel_rfl) (by kernel_rfl) .nil b376S.2 (by kernel_rfl) (fun s vs X => ⟨fun h => ?_, fun _ h => absurd rfl h⟩)
  obtain ⟨v0, v1, v2, rfl⟩ := len3 (vs := vs) (h); exact BindsTo.of_eq (by kernel_rfl)
theorem f383 (P : Params) : FnOK (KM P) gtab 383 x383 := by
  refine fnOK_of (l := (bodyAt 43)) (qual := (Str.ofString "one_bit")) (dV := .none) (kV := .none) (doc := .none) (pm := (.str (Str.ofString "gateloom.vecops") 710)) (cd := (.ref 382)) (ct := .none) (names := [Str.ofString "c"]) (dvs := []) (by kernel_rfl) (by kernel_rfl) (by kernel_rfl) .nil b383S.2 (by kernel_rfl) (fun s vs X => ⟨fun h => ?_, fun _ h => absurd rfl h⟩)
  obtain ⟨v0, rfl⟩ := len1 (vs := vs) (h); exact BindsTo.of_eq (by kernel_rfl)
theorem f390 (P : Params) : FnOK (KM P) gtab 390 x390 := by
  refine fnOK_of (l := (bodyAt 44)) (qual := (Str.ofString "bit_not")) (dV := .none) (kV := .none) (doc := .none) (pm := (.str (Str.ofString "gateloom.vecops") 710)) (cd := (.ref 389)) (ct := .none) (names := [Str.ofString "v"]) (dvs := []) (by kernel_rfl) (by kernel_rfl) (by kernel_rfl) .nil b390S.2 (by kernel_rfl) (fun s vs X => ⟨fun h => ?_, fun _ h => absurd rfl h⟩)
  obtain ⟨v0, rfl⟩ := len1 (vs := vs) (h); exact BindsTo.of_eq (by kernel_rfl)
theorem f488 (P : Params) : FnOK (KM P) gtab 488 x488 := by
  refine fnOK_of (l := (bodyAt 58)) (qual := (Str.ofString "equal")) (dV := .none) (kV := .none) (doc := .none) (pm := (.str (Str.ofString "gateloom.vecops") 710)) (cd := (.ref 487)) (ct := .none) (names := [Str.ofString "u", Str.ofString "v"]) (dvs := []) (by kernel_rfl) (by kernel_rfl) (by kernel_rfl) .nil b488S.2 (by kernel_rfl) (fun s vs X => ⟨fun h => ?_, fun _ h => absurd rfl h⟩)
  obtain ⟨v0, v1, rfl⟩ := len2 (vs := vs) (h); exact BindsTo.of_eq (by kernel_rfl)
theorem f495 (P : Params) : FnOK (KM P) gtab 495 x495 := by
  refine fnOK_of (l := (bodyAt 59)) (qual := (Str.ofString "not_equal")) (dV := .none) (kV := .none) (doc := .none) (pm := (.str (Str.ofString "gateloom.vecops") 710)) (cd := (.ref 494)) (ct := .none) (names := [Str.ofString "u", Str.ofString "v"]) (dvs := []) (by kernel_rfl) (by kernel_rfl) (by kernel_rfl) .nil b495S.2 (by kernel_rfl) (fun s vs X => ⟨fun h => ?_, fun _ h => absurd rfl h⟩)
  obtain ⟨v0, v1, rfl⟩ := len2 (vs := vs) (h); exact BindsTo.of_eq (by kernel_rfl)
theorem f537 (P : Params) : FnOK (KM P) gtab 537 x537 := by
  refine fnOK_of (l := (bodyAt 66)) (qual := (Str.ofString "arithmetic")) (dV := .none) (kV := .none) (doc := .none) (pm := (.str (Str.ofString "gateloom.evaluate") 902)) (cd := (.ref 536)) (ct := .none) (names := [Str.ofString "op", Str.ofString "u", Str.ofString "v", Str.ofString "signed"]) (dvs := []) (by kernel_rfl) (by kernel_rfl) (by kernel_rfl) .nil b537S.2 (by kernel_rfl) (fun s vs X => ⟨fun h => ?_, fun _ h => absurd rfl h⟩)
  obtain ⟨v0, v1, v2, v3, rfl⟩ := len4 (vs := vs) (h); exact BindsTo.of_eq (by kernel_rfl)
theorem f544 (P : Params) : FnOK (KM P) gtab 544 x544 := by
  refine fnOK_of (l := (bodyAt 67)) (qual := (Str.ofString "comparison")) (dV := .none) (kV := .none) (doc := .none) (pm := (.str (Str.ofString "gateloom.evaluate") 902)) (cd := (.ref 543)) (ct := .none) (names := [Str.ofString "op", Str.ofString "u", Str.ofString "v", Str.ofString "signed"]) (dvs := []) (by kernel_rfl) (by kernel_rfl) (by kernel_rfl) .nil b544S.2 (by kernel_rfl) (fun s vs X => ⟨fun h => ?_, fun _ h => absurd rfl h⟩)
  obtain ⟨v0, v1, v2, v3, rfl⟩ := len4 (vs := vs) (h); exact BindsTo.of_eq (by kernel_rfl)
theorem f558 (P : Params) : FnOK (KM P) gtab 558 x558 := by
  refine fnOK_of (l := (bodyAt 69)) (qual := (Str.ofString "binary")) (dV := .none) (kV := .none) (doc := .none) (pm := (.str (Str.ofString "gateloom.evaluate") 902)) (cd := (.ref 557)) (ct := .none) (names := [Str.ofString "op", Str.ofString "u", Str.ofString "v", Str.ofString "signed"]) (dvs := []) (by kernel_rfl) (by kernel_rfl) (by kernel_rfl) .nil b558S.2 (by kernel_rfl) (fun s vs X => ⟨fun h => ?_, fun _ h => absurd rfl h⟩)
  obtain ⟨v0, v1, v2, v3, rfl⟩ := len4 (vs := vs) (h); exact BindsTo.of_eq (by kernel_rfl)
theorem f605 (P : Params) : FnOK (KM P) gtab 605 x605 := by
  refine fnOK_of (l := (bodyAt 77)) (qual := (Str.ofString "evaluate")) (dV := .none) (kV := .none) (doc := .none) (pm := (.str (Str.ofString "gateloom.evaluate") 902)) (cd := (.ref 604)) (ct := .none) (names := [Str.ofString "e", Str.ofString "ctx"]) (dvs := []) (by kernel_rfl) (by kernel_rfl) (by kernel_rfl) .nil b605S.2 (by kernel_rfl) (fun s vs X => ⟨fun h => ?_, fun _ h => absurd rfl h⟩)
  obtain ⟨v0, v1, rfl⟩ := len2 (vs := vs) (h); exact BindsTo.of_eq (by kernel_rfl)
theorem f735 (P : Params) : FnOK (KM P) gtab 735 x735 := by
  refine fnOK_of (l := (bodyAt 93)) (qual := (Str.ofString "children")) (dV := .none) (kV := .none) (doc := .none) (pm := (.str (Str.ofString "gateloom.walks") 1212)) (cd := (.ref 734)) (ct := .none) (names := [Str.ofString "e"]) (dvs := []) (by kernel_rfl) (by kernel_rfl) (by kernel_rfl) .nil b735S.2 (by kernel_rfl) (fun s vs X => ⟨fun h => ?_, fun _ h => absurd rfl h⟩)
  obtain ⟨v0, rfl⟩ := len1 (vs := vs) (h); exact BindsTo.of_eq (by kernel_rfl)
theorem f822 (P : Params) : FnOK (KM P) gtab 822 x822 := by
  refine fnOK_of (l := (bodyAt 108)) (qual := (Str.ofString "last_select")) (dV := .none) (kV := .none) (doc := .none) (pm := (.str (Str.ofString "gateloom.elabparts") 1337)) (cd := (.ref 821)) (ct := .none) (names := [Str.ofString "e"]) (dvs := []) (by kernel_rfl) (by kernel_rfl) (by kernel_rfl) .nil b822S.2 (by kernel_rfl) (fun s vs X => ⟨fun h => ?_, fun _ h => absurd rfl h⟩)
  obtain ⟨v0, rfl⟩ := len1 (vs := vs) (h); exact BindsTo.of_eq (by kernel_rfl)
theorem f829 (P : Params) : FnOK (KM P) gtab 829 x829 := by
  refine fnOK_of (l := (bodyAt 109)) (qual := (Str.ofString "is_memory")) (dV := .none) (kV := .none) (doc := .none) (pm := (.str (Str.ofString "gateloom.elabparts") 1337)) (cd := (.ref 828)) (ct := .none) (names := [Str.ofString "scope", Str.ofString "entry"]) (dvs := []) (by kernel_rfl) (by kernel_rfl) (by kernel_rfl) .nil b829S.2 (by kernel_rfl) (fun s vs X => ⟨fun h => ?_, fun _ h => absurd rfl h⟩)
  obtain ⟨v0, v1, rfl⟩ := len2 (vs := vs) (h); exact BindsTo.of_eq (by kernel_rfl)
theorem f836 (P : Params) : FnOK (KM P) gtab 836 x836 := by
  refine fnOK_of (l := (bodyAt 110)) (qual := (Str.ofString "shape")) (dV := .none) (kV := .none) (doc := .none) (pm := (.str (Str.ofString "gateloom.elabparts") 1337)) (cd := (.ref 835)) (ct := .none) (names := [Str.ofString "scope", Str.ofString "entry", Str.ofString "at"]) (dvs := []) (by kernel_rfl) (by kernel_rfl) (by kernel_rfl) .nil b836S.2 (by kernel_rfl) (fun s vs X => ⟨fun h => ?_, fun _ h => absurd rfl h⟩)
  obtain ⟨v0, v1, v2, rfl⟩ := len3 (vs := vs) (h); exact BindsTo.of_eq (by kernel_rfl)
theorem f843 (P : Params) : FnOK (KM P) gtab 843 x843 := by
  refine fnOK_of (l := (bodyAt 111)) (qual := (Str.ofString "read_entry")) (dV := .none) (kV := .none) (doc := .none) (pm := (.str (Str.ofString "gateloom.elabparts") 1337)) (cd := (.ref 842)) (ct := .none) (names := [Str.ofString "scope", Str.ofString "entry", Str.ofString "word"]) (dvs := []) (by kernel_rfl) (by kernel_rfl) (by kernel_rfl) .nil b843S.2 (by kernel_rfl) (fun s vs X => ⟨fun h => ?_, fun _ h => absurd rfl h⟩)
  obtain ⟨v0, v1, v2, rfl⟩ := len3 (vs := vs) (h); exact BindsTo.of_eq (by kernel_rfl)
theorem f850 (P : Params) : FnOK (KM P) gtab 850 x850 := by
  refine fnOK_of (l := (bodyAt 112)) (qual := (Str.ofString "folds")) (dV := .none) (kV := .none) (doc := .none) (pm := (.str (Str.ofString "gateloom.elabparts") 1337)) (cd := (.ref 849)) (ct := .none) (names := [Str.ofString "e"]) (dvs := []) (by kernel_rfl) (by kernel_rfl) (by kernel_rfl) .nil b850S.2 (by kernel_rfl) (fun s vs X => ⟨fun h => ?_, fun _ h => absurd rfl h⟩)
  obtain ⟨v0, rfl⟩ := len1 (vs := vs) (h); exact BindsTo.of_eq (by kernel_rfl)
theorem f857 (P : Params) : FnOK (KM P) gtab 857 x857 := by
  refine fnOK_of (l := (bodyAt 113)) (qual := (Str.ofString "folded")) (dV := .none) (kV := .none) (doc := .none) (pm := (.str (Str.ofString "gateloom.elabparts") 1337)) (cd := (.ref 856)) (ct := .none) (names := [Str.ofString "e"]) (dvs := []) (by kernel_rfl) (by kernel_rfl) (by kernel_rfl) .nil b857S.2 (by kernel_rfl) (fun s vs X => ⟨fun h => ?_, fun _ h => absurd rfl h⟩)
  obtain ⟨v0, rfl⟩ := len1 (vs := vs) (h); exact BindsTo.of_eq (by kernel_rfl)
theorem f892 (P : Params) : FnOK (KM P) gtab 892 x892 := by
  refine fnOK_of (l := (bodyAt 118)) (qual := (Str.ofString "is_context_operator")) (dV := .none) (kV := .none) (doc := .none) (pm := (.str (Str.ofString "gateloom.elabparts") 1337)) (cd := (.ref 891)) (ct := .none) (names := [Str.ofString "op"]) (dvs := []) (by kernel_rfl) (by kernel_rfl) (by kernel_rfl) .nil b892S.2 (by kernel_rfl) (fun s vs X => ⟨fun h => ?_, fun _ h => absurd rfl h⟩)
  obtain ⟨v0, rfl⟩ := len1 (vs := vs) (h); exact BindsTo.of_eq (by kernel_rfl)
theorem f899 (P : Params) : FnOK (KM P) gtab 899 x899 := by
  refine fnOK_of (l := (bodyAt 119)) (qual := (Str.ofString "is_shift")) (dV := .none) (kV := .none) (doc := .none) (pm := (.str (Str.ofString "gateloom.elabparts") 1337)) (cd := (.ref 898)) (ct := .none) (names := [Str.ofString "op"]) (dvs := []) (by kernel_rfl) (by kernel_rfl) (by kernel_rfl) .nil b899S.2 (by kernel_rfl) (fun s vs X => ⟨fun h => ?_, fun _ h => absurd rfl h⟩)
  obtain ⟨v0, rfl⟩ := len1 (vs := vs) (h); exact BindsTo.of_eq (by kernel_rfl)
theorem f906 (P : Params) : FnOK (KM P) gtab 906 x906 := by
  refine fnOK_of (l := (bodyAt 120)) (qual := (Str.ofString "widen")) (dV := .none) (kV := .none) (doc := .none) (pm := (.str (Str.ofString "gateloom.elabparts") 1337)) (cd := (.ref 905)) (ct := .none) (names := [Str.ofString "value", Str.ofString "w", Str.ofString "signed"]) (dvs := []) (by kernel_rfl) (by kernel_rfl) (by kernel_rfl) .nil b906S.2 (by kernel_rfl) (fun s vs X => ⟨fun h => ?_, fun _ h => absurd rfl h⟩)
  obtain ⟨v0, v1, v2, rfl⟩ := len3 (vs := vs) (h); exact BindsTo.of_eq (by kernel_rfl)
theorem f913 (P : Params) : FnOK (KM P) gtab 913 x913 := by
  refine fnOK_of (l := (bodyAt 121)) (qual := (Str.ofString "number_value")) (dV := .none) (kV := .none) (doc := .none) (pm := (.str (Str.ofString "gateloom.elabparts") 1337)) (cd := (.ref 912)) (ct := .none) (names := [Str.ofString "e", Str.ofString "w", Str.ofString "signed"]) (dvs := []) (by kernel_rfl) (by kernel_rfl) (by kernel_rfl) .nil b913S.2 (by kernel_rfl) (fun s vs X => ⟨fun h => ?_, fun _ h => absurd rfl h⟩)
  obtain ⟨v0, v1, v2, rfl⟩ := len3 (vs := vs) (h); exact BindsTo.of_eq (by kernel_rfl)
theorem f934 (P : Params) : FnOK (KM P) gtab 934 x934 := by
  refine fnOK_of (l := (bodyAt 125)) (qual := (Str.ofString "entry_of")) (dV := .none) (kV := .none) (doc := .none) (pm := (.str (Str.ofString "gateloom.elabexpr") 1473)) (cd := (.ref 933)) (ct := .none) (names := [Str.ofString "scope", Str.ofString "e"]) (dvs := []) (by kernel_rfl) (by kernel_rfl) (by kernel_rfl) .nil b934S.2 (by kernel_rfl) (fun s vs X => ⟨fun h => ?_, fun _ h => absurd rfl h⟩)
  obtain ⟨v0, v1, rfl⟩ := len2 (vs := vs) (h); exact BindsTo.of_eq (by kernel_rfl)
theorem f962 (P : Params) : FnOK (KM P) gtab 962 x962 := by
  refine fnOK_of (l := (bodyAt 129)) (qual := (Str.ofString "named_type")) (dV := .none) (kV := .none) (doc := .none) (pm := (.str (Str.ofString "gateloom.elabexpr") 1473)) (cd := (.ref 961)) (ct := .none) (names := [Str.ofString "scope", Str.ofString "e"]) (dvs := []) (by kernel_rfl) (by kernel_rfl) (by kernel_rfl) .nil b962S.2 (by kernel_rfl) (fun s vs X => ⟨fun h => ?_, fun _ h => absurd rfl h⟩)
  obtain ⟨v0, v1, rfl⟩ := len2 (vs := vs) (h); exact BindsTo.of_eq (by kernel_rfl)
theorem f969 (P : Params) : FnOK (KM P) gtab 969 x969 := by
  refine fnOK_of (l := (bodyAt 130)) (qual := (Str.ofString "named_value")) (dV := .none) (kV := .none) (doc := .none) (pm := (.str (Str.ofString "gateloom.elabexpr") 1473)) (cd := (.ref 968)) (ct := .none) (names := [Str.ofString "scope", Str.ofString "e"]) (dvs := []) (by kernel_rfl) (by kernel_rfl) (by kernel_rfl) .nil b969S.2 (by kernel_rfl) (fun s vs X => ⟨fun h => ?_, fun _ h => absurd rfl h⟩)
  obtain ⟨v0, v1, rfl⟩ := len2 (vs := vs) (h); exact BindsTo.of_eq (by kernel_rfl)
theorem f1032 (P : Params) : FnOK (KM P) gtab 1032 x1032 := by
  refine fnOK_of (l := (bodyAt 140)) (qual := (Str.ofString "both_types")) (dV := .none) (kV := .none) (doc := .none) (pm := (.str (Str.ofString "gateloom.elabexpr") 1473)) (cd := (.ref 1031)) (ct := .none) (names := [Str.ofString "scope", Str.ofString "left", Str.ofString "right"]) (dvs := []) (by kernel_rfl) (by kernel_rfl) (by kernel_rfl) .nil b1032S.2 (by kernel_rfl) (fun s vs X => ⟨fun h => ?_, fun _ h => absurd rfl h⟩)
  obtain ⟨v0, v1, v2, rfl⟩ := len3 (vs := vs) (h); exact BindsTo.of_eq (by kernel_rfl)
theorem f1039 (P : Params) : FnOK (KM P) gtab 1039 x1039 := by
  refine fnOK_of (l := (bodyAt 141)) (qual := (Str.ofString "expr_type")) (dV := .none) (kV := .none) (doc := .none) (pm := (.str (Str.ofString "gateloom.elabexpr") 1473)) (cd := (.ref 1038)) (ct := .none) (names := [Str.ofString "scope", Str.ofString "e"]) (dvs := []) (by kernel_rfl) (by kernel_rfl) (by kernel_rfl) .nil b1039S.2 (by kernel_rfl) (fun s vs X => ⟨fun h => ?_, fun _ h => absurd rfl h⟩)
  obtain ⟨v0, v1, rfl⟩ := len2 (vs := vs) (h); exact BindsTo.of_eq (by kernel_rfl)
theorem f1053 (P : Params) : FnOK (KM P) gtab 1053 x1053 := by
  refine fnOK_of (l := (bodyAt 143)) (qual := (Str.ofString "binary_value")) (dV := .none) (kV := .none) (doc := .none) (pm := (.str (Str.ofString "gateloom.elabexpr") 1473)) (cd := (.ref 1052)) (ct := .none) (names := [Str.ofString "scope", Str.ofString "e", Str.ofString "w", Str.ofString "signed"]) (dvs := []) (by kernel_rfl) (by kernel_rfl) (by kernel_rfl) .nil b1053S.2 (by kernel_rfl) (fun s vs X => ⟨fun h => ?_, fun _ h => absurd rfl h⟩)
  obtain ⟨v0, v1, v2, v3, rfl⟩ := len4 (vs := vs) (h); exact BindsTo.of_eq (by kernel_rfl)
theorem f1060 (P : Params) : FnOK (KM P) gtab 1060 x1060 := by
  refine fnOK_of (l := (bodyAt 144)) (qual := (Str.ofString "build")) (dV := .none) (kV := .none) (doc := .none) (pm := (.str (Str.ofString "gateloom.elabexpr") 1473)) (cd := (.ref 1059)) (ct := .none) (names := [Str.ofString "scope", Str.ofString "e", Str.ofString "w", Str.ofString "signed"]) (dvs := []) (by kernel_rfl) (by kernel_rfl) (by kernel_rfl) .nil b1060S.2 (by kernel_rfl) (fun s vs X => ⟨fun h => ?_, fun _ h => absurd rfl h⟩)
  obtain ⟨v0, v1, v2, v3, rfl⟩ := len4 (vs := vs) (h); exact BindsTo.of_eq (by kernel_rfl)
theorem f1067 (P : Params) : FnOK (KM P) gtab 1067 x1067 := by
  refine fnOK_of (l := (bodyAt 145)) (qual := (Str.ofString "self_determined")) (dV := .none) (kV := .none) (doc := .none) (pm := (.str (Str.ofString "gateloom.elabexpr") 1473)) (cd := (.ref 1066)) (ct := .none) (names := [Str.ofString "scope", Str.ofString "e"]) (dvs := []) (by kernel_rfl) (by kernel_rfl) (by kernel_rfl) .nil b1067S.2 (by kernel_rfl) (fun s vs X => ⟨fun h => ?_, fun _ h => absurd rfl h⟩)
  obtain ⟨v0, v1, rfl⟩ := len2 (vs := vs) (h); exact BindsTo.of_eq (by kernel_rfl)
theorem f1081 (P : Params) : FnOK (KM P) gtab 1081 x1081 := by
  refine fnOK_of (l := (bodyAt 147)) (qual := (Str.ofString "constant_vec")) (dV := .none) (kV := .none) (doc := .none) (pm := (.str (Str.ofString "gateloom.elabexpr") 1473)) (cd := (.ref 1080)) (ct := .none) (names := [Str.ofString "scope", Str.ofString "value", Str.ofString "at"]) (dvs := []) (by kernel_rfl) (by kernel_rfl) (by kernel_rfl) .nil b1081S.2 (by kernel_rfl) (fun s vs X => ⟨fun h => ?_, fun _ h => absurd rfl h⟩)
  obtain ⟨v0, v1, v2, rfl⟩ := len3 (vs := vs) (h); exact BindsTo.of_eq (by kernel_rfl)
theorem f1088 (P : Params) : FnOK (KM P) gtab 1088 x1088 := by
  refine fnOK_of (l := (bodyAt 148)) (qual := (Str.ofString "constant")) (dV := .none) (kV := .none) (doc := .none) (pm := (.str (Str.ofString "gateloom.elabexpr") 1473)) (cd := (.ref 1087)) (ct := .none) (names := [Str.ofString "scope", Str.ofString "e"]) (dvs := []) (by kernel_rfl) (by kernel_rfl) (by kernel_rfl) .nil b1088S.2 (by kernel_rfl) (fun s vs X => ⟨fun h => ?_, fun _ h => absurd rfl h⟩)
  obtain ⟨v0, v1, rfl⟩ := len2 (vs := vs) (h); exact BindsTo.of_eq (by kernel_rfl)
theorem f1095 (P : Params) : FnOK (KM P) gtab 1095 x1095 := by
  refine fnOK_of (l := (bodyAt 149)) (qual := (Str.ofString "whole")) (dV := .none) (kV := .none) (doc := .none) (pm := (.str (Str.ofString "gateloom.elabexpr") 1473)) (cd := (.ref 1094)) (ct := .none) (names := [Str.ofString "scope", Str.ofString "e"]) (dvs := []) (by kernel_rfl) (by kernel_rfl) (by kernel_rfl) .nil b1095S.2 (by kernel_rfl) (fun s vs X => ⟨fun h => ?_, fun _ h => absurd rfl h⟩)
  obtain ⟨v0, v1, rfl⟩ := len2 (vs := vs) (h); exact BindsTo.of_eq (by kernel_rfl)
theorem f1102 (P : Params) : FnOK (KM P) gtab 1102 x1102 := by
  refine fnOK_of (l := (bodyAt 152)) (qual := (Str.ofString "block_label")) (dV := .none) (kV := .none) (doc := .none) (pm := (.str (Str.ofString "gateloom.elabgen") 1752)) (cd := (.ref 1101)) (ct := .none) (names := [Str.ofString "block", Str.ofString "number"]) (dvs := []) (by kernel_rfl) (by kernel_rfl) (by kernel_rfl) .nil b1102S.2 (by kernel_rfl) (fun s vs X => ⟨fun h => ?_, fun _ h => absurd rfl h⟩)
  obtain ⟨v0, v1, rfl⟩ := len2 (vs := vs) (h); exact BindsTo.of_eq (by kernel_rfl)
theorem f1109 (P : Params) : FnOK (KM P) gtab 1109 x1109 := by
  refine fnOK_of (l := (bodyAt 153)) (qual := (Str.ofString "branch_rows")) (dV := .none) (kV := .none) (doc := .none) (pm := (.str (Str.ofString "gateloom.elabgen") 1752)) (cd := (.ref 1108)) (ct := .none) (names := [Str.ofString "scope", Str.ofString "item", Str.ofString "number"]) (dvs := []) (by kernel_rfl) (by kernel_rfl) (by kernel_rfl) .nil b1109S.2 (by kernel_rfl) (fun s vs X => ⟨fun h => ?_, fun _ h => absurd rfl h⟩)
  obtain ⟨v0, v1, v2, rfl⟩ := len3 (vs := vs) (h); exact BindsTo.of_eq (by kernel_rfl)
theorem f1116 (P : Params) : FnOK (KM P) gtab 1116 x1116 := by
  refine fnOK_of (l := (bodyAt 154)) (qual := (Str.ofString "common_type")) (dV := .none) (kV := .none) (doc := .none) (pm := (.str (Str.ofString "gateloom.elabgen") 1752)) (cd := (.ref 1115)) (ct := .none) (names := [Str.ofString "constants"]) (dvs := []) (by kernel_rfl) (by kernel_rfl) (by kernel_rfl) .nil b1116S.2 (by kernel_rfl) (fun s vs X => ⟨fun h => ?_, fun _ h => absurd rfl h⟩)
  obtain ⟨v0, rfl⟩ := len1 (vs := vs) (h); exact BindsTo.of_eq (by kernel_rfl)
theorem f1123 (P : Params) : FnOK (KM P) gtab 1123 x1123 := by
  refine fnOK_of (l := (bodyAt 155)) (qual := (Str.ofString "case_branch")) (dV := .none) (kV := .none) (doc := .none) (pm := (.str (Str.ofString "gateloom.elabgen") 1752)) (cd := (.ref 1122)) (ct := .none) (names := [Str.ofString "scope", Str.ofString "item"]) (dvs := []) (by kernel_rfl) (by kernel_rfl) (by kernel_rfl) .nil b1123S.2 (by kernel_rfl) (fun s vs X => ⟨fun h => ?_, fun _ h => absurd rfl h⟩)
  obtain ⟨v0, v1, rfl⟩ := len2 (vs := vs) (h); exact BindsTo.of_eq (by kernel_rfl)
theorem f1130 (P : Params) : FnOK (KM P) gtab 1130 x1130 := by
  refine fnOK_of (l := (bodyAt 156)) (qual := (Str.ofString "loop_values")) (dV := .none) (kV := .none) (doc := .none) (pm := (.str (Str.ofString "gateloom.elabgen") 1752)) (cd := (.ref 1129)) (ct := .none) (names := [Str.ofString "scope", Str.ofString "item"]) (dvs := []) (by kernel_rfl) (by kernel_rfl) (by kernel_rfl) .nil b1130S.2 (by kernel_rfl) (fun s vs X => ⟨fun h => ?_, fun _ h => absurd rfl h⟩)
  obtain ⟨v0, v1, rfl⟩ := len2 (vs := vs) (h); exact BindsTo.of_eq (by kernel_rfl)
theorem f1137 (P : Params) : FnOK (KM P) gtab 1137 x1137 := by
  refine fnOK_of (l := (bodyAt 157)) (qual := (Str.ofString "loop_rows")) (dV := .none) (kV := .none) (doc := .none) (pm := (.str (Str.ofString "gateloom.elabgen") 1752)) (cd := (.ref 1136)) (ct := .none) (names := [Str.ofString "scope", Str.ofString "item", Str.ofString "number"]) (dvs := []) (by kernel_rfl) (by kernel_rfl) (by kernel_rfl) .nil b1137S.2 (by kernel_rfl) (fun s vs X => ⟨fun h => ?_, fun _ h => absurd rfl h⟩)
  obtain ⟨v0, v1, v2, rfl⟩ := len3 (vs := vs) (h); exact BindsTo.of_eq (by kernel_rfl)
theorem f1145 (P : Params) : FnOK (KM P) gtab 1145 x1145 := by
  refine fnOK_of (l := (bodyAt 158)) (qual := (Str.ofString "generate_choice")) (dV := (.ref 1138)) (kV := .none) (doc := .none) (pm := (.str (Str.ofString "gateloom.elabgen") 1752)) (cd := (.ref 1144)) (ct := .none) (names := [Str.ofString "scope", Str.ofString "item", Str.ofString "number"]) (dvs := [(.int (1) 1828)]) (by kernel_rfl) (by kernel_rfl) (by kernel_rfl) (.cons (.int _ _) .nil) b1145S.2 (by kernel_rfl) (fun s vs X => ⟨fun h => ?_, fun h _ => ?_⟩)
  · obtain ⟨v0, v1, v2, rfl⟩ := len3 (vs := vs) (h); exact binds_K X (T := 1138) (o := o1138 P) rfl (by kernel_rfl) rfl rfl (by kernel_rfl)
  · obtain ⟨v0, v1, rfl⟩ := len2 (vs := vs) (Nat.succ.inj h); exact binds_K X (T := 1138) (o := o1138 P) rfl (by kernel_rfl) rfl rfl (by kernel_rfl)
theorem f1292 (P : Params) : FnOK (KM P) gtab 1292 x1292 := by
  refine fnOK_of (l := (bodyAt 164)) (qual := (Str.ofString "_law_row")) (dV := .none) (kV := .none) (doc := .none) (pm := (.str (Str.ofString "law_nn0348_01") 2059)) (cd := (.ref 1291)) (ct := .none) (names := [Str.ofString "script"]) (dvs := []) (by kernel_rfl) (by kernel_rfl) (by kernel_rfl) .nil b1292S.2 (by kernel_rfl) (fun s vs X => ⟨fun h => ?_, fun _ h => absurd rfl h⟩)
  obtain ⟨v0, rfl⟩ := len1 (vs := vs) (h); exact BindsTo.of_eq (by kernel_rfl)
theorem f1299 (P : Params) : FnOK (KM P) gtab 1299 x1299 := by
  refine fnOK_of (l := (bodyAt 165)) (qual := (Str.ofString "_law_next")) (dV := .none) (kV := .none) (doc := .none) (pm := (.str (Str.ofString "law_nn0348_01") 2059)) (cd := (.ref 1298)) (ct := .none) (names := [Str.ofString "row"]) (dvs := []) (by kernel_rfl) (by kernel_rfl) (by kernel_rfl) .nil b1299S.2 (by kernel_rfl) (fun s vs X => ⟨fun h => ?_, fun _ h => absurd rfl h⟩)
  obtain ⟨v0, rfl⟩ := len1 (vs := vs) (h); exact BindsTo.of_eq (by kernel_rfl)
theorem f1306 (P : Params) : FnOK (KM P) gtab 1306 x1306 := by
  refine fnOK_of (l := (bodyAt 166)) (qual := (Str.ofString "_law_number")) (dV := .none) (kV := .none) (doc := .none) (pm := (.str (Str.ofString "law_nn0348_01") 2059)) (cd := (.ref 1305)) (ct := .none) (names := [Str.ofString "figure"]) (dvs := []) (by kernel_rfl) (by kernel_rfl) (by kernel_rfl) .nil b1306S.2 (by kernel_rfl) (fun s vs X => ⟨fun h => ?_, fun _ h => absurd rfl h⟩)
  obtain ⟨v0, rfl⟩ := len1 (vs := vs) (h); exact BindsTo.of_eq (by kernel_rfl)
theorem f1314 (P : Params) : FnOK (KM P) gtab 1314 x1314 := by
  refine fnOK_of (l := (bodyAt 167)) (qual := (Str.ofString "_law_amount")) (dV := (.ref 1307)) (kV := .none) (doc := .none) (pm := (.str (Str.ofString "law_nn0348_01") 2059)) (cd := (.ref 1313)) (ct := .none) (names := [Str.ofString "row", Str.ofString "values", Str.ofString "deep"]) (dvs := [(.int (2) 2086)]) (by kernel_rfl) (by kernel_rfl) (by kernel_rfl) (.cons (.int _ _) .nil) b1314S.2 (by kernel_rfl) (fun s vs X => ⟨fun h => ?_, fun h _ => ?_⟩)
  · obtain ⟨v0, v1, v2, rfl⟩ := len3 (vs := vs) (h); exact binds_K X (T := 1307) (o := o1307 P) rfl (by kernel_rfl) rfl rfl (by kernel_rfl)
  · obtain ⟨v0, v1, rfl⟩ := len2 (vs := vs) (Nat.succ.inj h); exact binds_K X (T := 1307) (o := o1307 P) rfl (by kernel_rfl) rfl rfl (by kernel_rfl)
theorem f1321 (P : Params) : FnOK (KM P) gtab 1321 x1321 := by
  refine fnOK_of (l := (bodyAt 168)) (qual := (Str.ofString "_law_test")) (dV := .none) (kV := .none) (doc := .none) (pm := (.str (Str.ofString "law_nn0348_01") 2059)) (cd := (.ref 1320)) (ct := .none) (names := [Str.ofString "row", Str.ofString "values"]) (dvs := []) (by kernel_rfl) (by kernel_rfl) (by kernel_rfl) .nil b1321S.2 (by kernel_rfl) (fun s vs X => ⟨fun h => ?_, fun _ h => absurd rfl h⟩)
  obtain ⟨v0, v1, rfl⟩ := len2 (vs := vs) (h); exact BindsTo.of_eq (by kernel_rfl)
theorem f1328 (P : Params) : FnOK (KM P) gtab 1328 x1328 := by
  refine fnOK_of (l := (bodyAt 169)) (qual := (Str.ofString "_law_branch")) (dV := .none) (kV := .none) (doc := .none) (pm := (.str (Str.ofString "law_nn0348_01") 2059)) (cd := (.ref 1327)) (ct := .none) (names := [Str.ofString "row", Str.ofString "values", Str.ofString "deep", Str.ofString "number"]) (dvs := []) (by kernel_rfl) (by kernel_rfl) (by kernel_rfl) .nil b1328S.2 (by kernel_rfl) (fun s vs X => ⟨fun h => ?_, fun _ h => absurd rfl h⟩)
  obtain ⟨v0, v1, v2, v3, rfl⟩ := len4 (vs := vs) (h); exact BindsTo.of_eq (by kernel_rfl)
theorem f1333 (P : Params) : FnOK (KM P) gtab 1333 x1333 := by
  refine fnOK_of (l := (bodyAt 170)) (qual := (Str.ofString "_law_choice")) (dV := .none) (kV := .none) (doc := .none) (pm := (.str (Str.ofString "law_nn0348_01") 2059)) (cd := (.ref 1332)) (ct := .none) (names := [Str.ofString "row", Str.ofString "values", Str.ofString "deep", Str.ofString "number"]) (dvs := []) (by kernel_rfl) (by kernel_rfl) (by kernel_rfl) .nil b1333S.2 (by kernel_rfl) (fun s vs X => ⟨fun h => ?_, fun _ h => absurd rfl h⟩)
  obtain ⟨v0, v1, v2, v3, rfl⟩ := len4 (vs := vs) (h); exact BindsTo.of_eq (by kernel_rfl)
theorem f1340 (P : Params) : FnOK (KM P) gtab 1340 x1340 := by
  refine fnOK_of (l := (bodyAt 171)) (qual := (Str.ofString "_law_loop")) (dV := .none) (kV := .none) (doc := .none) (pm := (.str (Str.ofString "law_nn0348_01") 2059)) (cd := (.ref 1339)) (ct := .none) (names := [Str.ofString "row", Str.ofString "values", Str.ofString "number"]) (dvs := []) (by kernel_rfl) (by kernel_rfl) (by kernel_rfl) .nil b1340S.2 (by kernel_rfl) (fun s vs X => ⟨fun h => ?_, fun _ h => absurd rfl h⟩)
  obtain ⟨v0, v1, v2, rfl⟩ := len3 (vs := vs) (h); exact BindsTo.of_eq (by kernel_rfl)
theorem f186 (P : Params) : FnOK (KM P) gtab 186 x186 := by
  refine fnOK_of (l := (methAt 22 0)) (qual := (Str.ofString "Store.__init__")) (dV := .none) (kV := .none) (doc := .none) (pm := (.str (Str.ofString "gateloom.store") 410)) (cd := (.ref 185)) (ct := .none) (names := [Str.ofString "self", Str.ofString "signals"]) (dvs := []) (by kernel_rfl) (by kernel_rfl) (by kernel_rfl) .nil b186S.2 (by kernel_rfl) (fun s vs X => ⟨fun h => ?_, fun _ h => absurd rfl h⟩)
  obtain ⟨v0, v1, rfl⟩ := len2 (vs := vs) (h); exact BindsTo.of_eq (by kernel_rfl)
theorem f229 (P : Params) : FnOK (KM P) gtab 229 x229 := by
  refine fnOK_of (l := (methAt 23 0)) (qual := (Str.ofString "Context.__init__")) (dV := (.ref 222)) (kV := .none) (doc := .none) (pm := (.str (Str.ofString "gateloom.store") 410)) (cd := (.ref 228)) (ct := .none) (names := [Str.ofString "self", Str.ofString "store", Str.ofString "frame", Str.ofString "now"]) (dvs := [(.int (0) 490)]) (by kernel_rfl) (by kernel_rfl) (by kernel_rfl) (.cons (.int _ _) .nil) b229S.2 (by kernel_rfl) (fun s vs X => ⟨fun h => ?_, fun h _ => ?_⟩)
  · obtain ⟨v0, v1, v2, v3, rfl⟩ := len4 (vs := vs) (h); exact binds_K X (T := 222) (o := o222 P) rfl (by kernel_rfl) rfl rfl (by kernel_rfl)
  · obtain ⟨v0, v1, v2, rfl⟩ := len3 (vs := vs) (Nat.succ.inj h); exact binds_K X (T := 222) (o := o222 P) rfl (by kernel_rfl) rfl rfl (by kernel_rfl)
theorem f1159 (P : Params) : FnOK (KM P) gtab 1159 x1159 := by
  refine fnOK_of (l := (methAt 160 0)) (qual := (Str.ofString "Design.__init__")) (dV := .none) (kV := .none) (doc := .none) (pm := (.str (Str.ofString "gateloom.design") 1839)) (cd := (.ref 1158)) (ct := .none) (names := [Str.ofString "self"]) (dvs := []) (by kernel_rfl) (by kernel_rfl) (by kernel_rfl) .nil b1159S.2 (by kernel_rfl) (fun s vs X => ⟨fun h => ?_, fun _ h => absurd rfl h⟩)
  obtain ⟨v0, rfl⟩ := len1 (vs := vs) (h); exact BindsTo.of_eq (by kernel_rfl)
theorem f1173 (P : Params) : FnOK (KM P) gtab 1173 x1173 := by
  refine fnOK_of (l := (methAt 160 2)) (qual := (Str.ofString "Design.add_scope")) (dV := .none) (kV := .none) (doc := .none) (pm := (.str (Str.ofString "gateloom.design") 1839)) (cd := (.ref 1172)) (ct := .none) (names := [Str.ofString "self", Str.ofString "path"]) (dvs := []) (by kernel_rfl) (by kernel_rfl) (by kernel_rfl) .nil b1173S.2 (by kernel_rfl) (fun s vs X => ⟨fun h => ?_, fun _ h => absurd rfl h⟩)
  obtain ⟨v0, v1, rfl⟩ := len2 (vs := vs) (h); exact BindsTo.of_eq (by kernel_rfl)
theorem f1222 (P : Params) : FnOK (KM P) gtab 1222 x1222 := by
  refine fnOK_of (l := (methAt 162 0)) (qual := (Str.ofString "Scope.__init__")) (dV := .none) (kV := .none) (doc := .none) (pm := (.str (Str.ofString "gateloom.scopes") 1940)) (cd := (.ref 1221)) (ct := .none) (names := [Str.ofString "self", Str.ofString "design", Str.ofString "name", Str.ofString "parent", Str.ofString "kind"]) (dvs := []) (by kernel_rfl) (by kernel_rfl) (by kernel_rfl) .nil b1222S.2 (by kernel_rfl) (fun s vs X => ⟨fun h => ?_, fun _ h => absurd rfl h⟩)
  obtain ⟨v0, v1, v2, v3, v4, rfl⟩ := len5 (vs := vs) (h); exact BindsTo.of_eq (by kernel_rfl)
theorem f1236 (P : Params) : FnOK (KM P) gtab 1236 x1236 := by
  refine fnOK_of (l := (methAt 162 2)) (qual := (Str.ofString "Scope.declare")) (dV := .none) (kV := .none) (doc := .none) (pm := (.str (Str.ofString "gateloom.scopes") 1940)) (cd := (.ref 1235)) (ct := .none) (names := [Str.ofString "self", Str.ofString "name", Str.ofString "entry", Str.ofString "at"]) (dvs := []) (by kernel_rfl) (by kernel_rfl) (by kernel_rfl) .nil b1236S.2 (by kernel_rfl) (fun s vs X => ⟨fun h => ?_, fun _ h => absurd rfl h⟩)
  obtain ⟨v0, v1, v2, v3, rfl⟩ := len4 (vs := vs) (h); exact BindsTo.of_eq (by kernel_rfl)
theorem f1250 (P : Params) : FnOK (KM P) gtab 1250 x1250 := by
  refine fnOK_of (l := (methAt 162 4)) (qual := (Str.ofString "Scope.lookup")) (dV := .none) (kV := .none) (doc := .none) (pm := (.str (Str.ofString "gateloom.scopes") 1940)) (cd := (.ref 1249)) (ct := .none) (names := [Str.ofString "self", Str.ofString "name"]) (dvs := []) (by kernel_rfl) (by kernel_rfl) (by kernel_rfl) .nil b1250S.2 (by kernel_rfl) (fun s vs X => ⟨fun h => ?_, fun _ h => absurd rfl h⟩)
  obtain ⟨v0, v1, rfl⟩ := len2 (vs := vs) (h); exact BindsTo.of_eq (by kernel_rfl)
end
section
set_option linter.unusedVariables false
set_option maxHeartbeats 0
theorem teq_eq {a b : Txt} (h : teq a b = true) : a = b := teq_iff.mp h
noncomputable def GAll (K : Frag) : List (Txt × CE) → Prop
  | [] => True
  | p :: r => GOK K p.1 p.2 ∧ GAll K r
theorem GAll.ok {K : Frag} {l : List (Txt × CE)} : GAll K l → GTab K l := by
  induction l with
  | nil => intro _ x c h; cases h
  | cons p r ih =>
    intro H x c h
    obtain ⟨y, d⟩ := p
    rcases bsel_inv h with ⟨q, h⟩ | h
    · cases h; rw [teq_eq q]; exact H.1
    · exact ih H.2 x c h
theorem g_ns {K : Frag} {x : Txt} {v : Value} (h : nsIn K mainGlobals (tS x) = some (some v)) : GOK K x (.val (.val v)) := ⟨_, v, rfl, .inl rfl, .inl h⟩
theorem g_int {K : Frag} {x : Txt} {i : Int} {t : Tok} (h : nsIn K mainGlobals (tS x) = some (some (.int i t))) : GOK K x (.val (.int i)) := ⟨_, _, rfl, .inr ⟨i, t, rfl, rfl⟩, .inl h⟩
theorem g_bi {K : Frag} {x : Txt} {v : Value} (h : nsIn K mainGlobals (tS x) = some none) (h1 : bootBuiltins (tS x) = some v) (h2 : (tS x == ("__name__" : Str)) = false) : GOK K x (.val (.val v)) :=
  ⟨_, v, rfl, .inl rfl, .inr ⟨h, h1, fun e => by rw [e] at h2; simp at h2⟩⟩
noncomputable def AAll (K : Frag) : List (Addr × Txt) → Prop
  | [] => True
  | p :: r => (noGetOK K p.1 (tS p.2) ∧ setsOK K p.1 (tS p.2)) ∧ AAll K r
theorem AAll.ok {K : Frag} {l : List (Addr × Txt)} : AAll K l → ATOK K l := by
  induction l with
  | nil => intro _ C x h; cases h
  | cons p r ih =>
    intro H C x h
    obtain ⟨D, y⟩ := p
    rcases or_of h with h | h
    · obtain ⟨q1, q2⟩ := and_of h
      rw [Nat.eq_of_beq_eq_true q1, teq_eq q2]; exact H.1
    · exact ih H.2 C x h
noncomputable def MAll (K : Frag) : List (Addr × Txt × Addr) → Prop
  | [] => True
  | p :: r => (plainGet K p.1 (tS p.2.1) = true ∧ findIn K (.ref p.1) (tS p.2.1) = some (some (.ref p.2.2)) ∧ isFn K (.ref p.2.2) = true ∧ keepIn K (.ref p.2.2) = true) ∧ MAll K r
theorem MAll.ok {K : Frag} {l : List (Addr × Txt × Addr)} : MAll K l → ∀ D x f, lkM D x l = some f → plainGet K D (tS x) = true ∧ findIn K (.ref D) (tS x) = some (some (.ref f)) ∧ isFn K (.ref f) = true ∧ keepIn K (.ref f) = true := by
  induction l with
  | nil => intro _ D x f h; cases h
  | cons p r ih =>
    intro H D x f h
    obtain ⟨D', y, f'⟩ := p
    rcases bsel_inv h with ⟨q, h⟩ | h
    · obtain ⟨q1, q2⟩ := and_of q
      cases h
      rw [Nat.eq_of_beq_eq_true q1, teq_eq q2]; exact H.1
    · exact ih H.2 D x f h
noncomputable def TOK (K : Frag) (gt : List (Txt × CE)) (D : Addr) : TE → Prop
  | .fn x => FnOK K gt D x ∧ keepIn K (.ref D) = true
  | .cls f x => FnOK K gt f x ∧ makesIn K D = true ∧ findIn K (.ref D) "__init__" = some (some (.ref f)) ∧ isFn K (.ref f) = true ∧ keepIn K (.ref D) = true
noncomputable def TAll (K : Frag) (gt : List (Txt × CE)) : List (Addr × TE) → Prop
  | [] => True
  | p :: r => TOK K gt p.1 p.2 ∧ TAll K gt r
theorem TAll.ok {K : Frag} {gt : List (Txt × CE)} {l : List (Addr × TE)} : TAll K gt l → ∀ f e, lkT f l = some e → TOK K gt f e := by
  induction l with
  | nil => intro _ f e h; cases h
  | cons p r ih =>
    intro H f e h
    obtain ⟨g, d⟩ := p
    rcases bsel_inv h with ⟨q, h⟩ | h
    · cases h
      rw [Nat.eq_of_beq_eq_true q]; exact H.1
    · exact ih H.2 f e h
theorem ng_of {K : Frag} {C : Addr} {x : Txt} (h1 : plainGet K C (tS x) = true) (h2 : hasDictIn K C = true) (h3 : findIn K (.ref C) (tS x) = some none) (h4 : findIn K (.ref C) "__setattr__" = some (some (.builtin "object.__setattr__")))
    (h5 : plainOver K C = true) (h6 : takerIn K C (tS x) = some none) : noGetOK K C (tS x) ∧ setsOK K C (tS x) := ⟨⟨h1, h2, .none, h3, rfl⟩, h4, h5, h6, h2⟩
theorem g0 (P : Params) : GOK (KM P) [109, 97, 115, 107] (.val (.val (.ref 73))) := g_ns (by kernel_rfl)
theorem g1 (P : Params) : GOK (KM P) [118, 101, 99] (.val (.val (.ref 81))) := g_ns (by kernel_rfl)
theorem g2 (P : Params) : GOK (KM P) [97, 108, 108, 95, 120] (.val (.val (.ref 95))) := g_ns (by kernel_rfl)
theorem g3 (P : Params) : GOK (KM P) [102, 114, 111, 109, 95, 105, 110, 116] (.val (.val (.ref 109))) := g_ns (by kernel_rfl)
theorem g4 (P : Params) : GOK (KM P) [105, 115, 95, 107, 110, 111, 119, 110] (.val (.val (.ref 116))) := g_ns (by kernel_rfl)
theorem g5 (P : Params) : GOK (KM P) [116, 111, 95, 105, 110, 116] (.val (.val (.ref 123))) := g_ns (by kernel_rfl)
theorem g6 (P : Params) : GOK (KM P) [99, 111, 100, 101] (.val (.val (.ref 130))) := g_ns (by kernel_rfl)
theorem g7 (P : Params) : GOK (KM P) [101, 120, 116, 101, 110, 100] (.val (.val (.ref 158))) := g_ns (by kernel_rfl)
theorem g8 (P : Params) : GOK (KM P) [116, 114, 117, 116, 104] (.val (.val (.ref 172))) := g_ns (by kernel_rfl)
theorem g9 (P : Params) : GOK (KM P) [83, 116, 111, 114, 101] (.val (.val (.ref 210))) := g_ns (by kernel_rfl)
theorem g10 (P : Params) : GOK (KM P) [67, 111, 110, 116, 101, 120, 116] (.val (.val (.ref 253))) := g_ns (by kernel_rfl)
theorem g11 (P : Params) : GOK (KM P) [97, 100, 100] (.val (.val (.ref 264))) := g_ns (by kernel_rfl)
theorem g12 (P : Params) : GOK (KM P) [111, 114, 100, 101, 114, 101, 100] (.val (.val (.ref 348))) := g_ns (by kernel_rfl)
theorem g13 (P : Params) : GOK (KM P) [108, 101, 115, 115] (.val (.val (.ref 355))) := g_ns (by kernel_rfl)
theorem g14 (P : Params) : GOK (KM P) [108, 101, 115, 115, 95, 101, 113, 117, 97, 108] (.val (.val (.ref 362))) := g_ns (by kernel_rfl)
theorem g15 (P : Params) : GOK (KM P) [103, 114, 101, 97, 116, 101, 114] (.val (.val (.ref 369))) := g_ns (by kernel_rfl)
theorem g16 (P : Params) : GOK (KM P) [103, 114, 101, 97, 116, 101, 114, 95, 101, 113, 117, 97, 108] (.val (.val (.ref 376))) := g_ns (by kernel_rfl)
theorem g17 (P : Params) : GOK (KM P) [111, 110, 101, 95, 98, 105, 116] (.val (.val (.ref 383))) := g_ns (by kernel_rfl)
theorem g18 (P : Params) : GOK (KM P) [98, 105, 116, 95, 110, 111, 116] (.val (.val (.ref 390))) := g_ns (by kernel_rfl)
theorem g19 (P : Params) : GOK (KM P) [101, 113, 117, 97, 108] (.val (.val (.ref 488))) := g_ns (by kernel_rfl)
theorem g20 (P : Params) : GOK (KM P) [110, 111, 116, 95, 101, 113, 117, 97, 108] (.val (.val (.ref 495))) := g_ns (by kernel_rfl)
theorem g21 (P : Params) : GOK (KM P) [97, 114, 105, 116, 104, 109, 101, 116, 105, 99] (.val (.val (.ref 537))) := g_ns (by kernel_rfl)
theorem g22 (P : Params) : GOK (KM P) [99, 111, 109, 112, 97, 114, 105, 115, 111, 110] (.val (.val (.ref 544))) := g_ns (by kernel_rfl)
theorem g23 (P : Params) : GOK (KM P) [98, 105, 116, 119, 105, 115, 101] (.val (.val (.ref 551))) := g_ns (by kernel_rfl)
theorem g24 (P : Params) : GOK (KM P) [98, 105, 110, 97, 114, 121] (.val (.val (.ref 558))) := g_ns (by kernel_rfl)
theorem g25 (P : Params) : GOK (KM P) [101, 118, 97, 108, 117, 97, 116, 101] (.val (.val (.ref 605))) := g_ns (by kernel_rfl)
theorem g26 (P : Params) : GOK (KM P) [99, 104, 105, 108, 100, 114, 101, 110] (.val (.val (.ref 735))) := g_ns (by kernel_rfl)
theorem g27 (P : Params) : GOK (KM P) [102, 111, 108, 100, 115] (.val (.val (.ref 850))) := g_ns (by kernel_rfl)
theorem g28 (P : Params) : GOK (KM P) [102, 111, 108, 100, 101, 100] (.val (.val (.ref 857))) := g_ns (by kernel_rfl)
theorem g29 (P : Params) : GOK (KM P) [105, 115, 95, 99, 111, 110, 116, 101, 120, 116, 95, 111, 112, 101, 114, 97, 116, 111, 114] (.val (.val (.ref 892))) := g_ns (by kernel_rfl)
theorem g30 (P : Params) : GOK (KM P) [105, 115, 95, 115, 104, 105, 102, 116] (.val (.val (.ref 899))) := g_ns (by kernel_rfl)
theorem g31 (P : Params) : GOK (KM P) [119, 105, 100, 101, 110] (.val (.val (.ref 906))) := g_ns (by kernel_rfl)
theorem g32 (P : Params) : GOK (KM P) [110, 117, 109, 98, 101, 114, 95, 118, 97, 108, 117, 101] (.val (.val (.ref 913))) := g_ns (by kernel_rfl)
theorem g33 (P : Params) : GOK (KM P) [108, 97, 115, 116, 95, 115, 101, 108, 101, 99, 116] (.val (.val (.ref 822))) := g_ns (by kernel_rfl)
theorem g34 (P : Params) : GOK (KM P) [101, 110, 116, 114, 121, 95, 111, 102] (.val (.val (.ref 934))) := g_ns (by kernel_rfl)
theorem g35 (P : Params) : GOK (KM P) [105, 115, 95, 109, 101, 109, 111, 114, 121] (.val (.val (.ref 829))) := g_ns (by kernel_rfl)
theorem g36 (P : Params) : GOK (KM P) [115, 104, 97, 112, 101] (.val (.val (.ref 836))) := g_ns (by kernel_rfl)
theorem g37 (P : Params) : GOK (KM P) [114, 101, 97, 100, 95, 101, 110, 116, 114, 121] (.val (.val (.ref 843))) := g_ns (by kernel_rfl)
theorem g38 (P : Params) : GOK (KM P) [110, 97, 109, 101, 100, 95, 116, 121, 112, 101] (.val (.val (.ref 962))) := g_ns (by kernel_rfl)
theorem g39 (P : Params) : GOK (KM P) [110, 97, 109, 101, 100, 95, 118, 97, 108, 117, 101] (.val (.val (.ref 969))) := g_ns (by kernel_rfl)
theorem g40 (P : Params) : GOK (KM P) [98, 111, 116, 104, 95, 116, 121, 112, 101, 115] (.val (.val (.ref 1032))) := g_ns (by kernel_rfl)
theorem g41 (P : Params) : GOK (KM P) [101, 120, 112, 114, 95, 116, 121, 112, 101] (.val (.val (.ref 1039))) := g_ns (by kernel_rfl)
theorem g42 (P : Params) : GOK (KM P) [98, 105, 110, 97, 114, 121, 95, 118, 97, 108, 117, 101] (.val (.val (.ref 1053))) := g_ns (by kernel_rfl)
theorem g43 (P : Params) : GOK (KM P) [98, 117, 105, 108, 100] (.val (.val (.ref 1060))) := g_ns (by kernel_rfl)
theorem g44 (P : Params) : GOK (KM P) [115, 101, 108, 102, 95, 100, 101, 116, 101, 114, 109, 105, 110, 101, 100] (.val (.val (.ref 1067))) := g_ns (by kernel_rfl)
theorem g45 (P : Params) : GOK (KM P) [99, 111, 110, 115, 116, 97, 110, 116, 95, 118, 101, 99] (.val (.val (.ref 1081))) := g_ns (by kernel_rfl)
theorem g46 (P : Params) : GOK (KM P) [99, 111, 110, 115, 116, 97, 110, 116] (.val (.val (.ref 1088))) := g_ns (by kernel_rfl)
theorem g47 (P : Params) : GOK (KM P) [119, 104, 111, 108, 101] (.val (.val (.ref 1095))) := g_ns (by kernel_rfl)
theorem g48 (P : Params) : GOK (KM P) [77, 79, 83, 84, 95, 84, 85, 82, 78, 83] (.val (.int 256)) := g_int (t := 1754) (by kernel_rfl)
theorem g49 (P : Params) : GOK (KM P) [98, 108, 111, 99, 107, 95, 108, 97, 98, 101, 108] (.val (.val (.ref 1102))) := g_ns (by kernel_rfl)
theorem g50 (P : Params) : GOK (KM P) [98, 114, 97, 110, 99, 104, 95, 114, 111, 119, 115] (.val (.val (.ref 1109))) := g_ns (by kernel_rfl)
theorem g51 (P : Params) : GOK (KM P) [99, 111, 109, 109, 111, 110, 95, 116, 121, 112, 101] (.val (.val (.ref 1116))) := g_ns (by kernel_rfl)
theorem g52 (P : Params) : GOK (KM P) [99, 97, 115, 101, 95, 98, 114, 97, 110, 99, 104] (.val (.val (.ref 1123))) := g_ns (by kernel_rfl)
theorem g53 (P : Params) : GOK (KM P) [108, 111, 111, 112, 95, 118, 97, 108, 117, 101, 115] (.val (.val (.ref 1130))) := g_ns (by kernel_rfl)
theorem g54 (P : Params) : GOK (KM P) [108, 111, 111, 112, 95, 114, 111, 119, 115] (.val (.val (.ref 1137))) := g_ns (by kernel_rfl)
theorem g55 (P : Params) : GOK (KM P) [103, 101, 110, 101, 114, 97, 116, 101, 95, 99, 104, 111, 105, 99, 101] (.val (.val (.ref 1145))) := g_ns (by kernel_rfl)
theorem g56 (P : Params) : GOK (KM P) [68, 101, 115, 105, 103, 110] (.val (.val (.ref 1204))) := g_ns (by kernel_rfl)
theorem g57 (P : Params) : GOK (KM P) [83, 99, 111, 112, 101] (.val (.val (.ref 1281))) := g_ns (by kernel_rfl)
theorem g58 (P : Params) : GOK (KM P) [95, 108, 97, 119, 95, 114, 111, 119] (.val (.val (.ref 1292))) := g_ns (by kernel_rfl)
theorem g59 (P : Params) : GOK (KM P) [95, 108, 97, 119, 95, 110, 101, 120, 116] (.val (.val (.ref 1299))) := g_ns (by kernel_rfl)
theorem g60 (P : Params) : GOK (KM P) [95, 108, 97, 119, 95, 110, 117, 109, 98, 101, 114] (.val (.val (.ref 1306))) := g_ns (by kernel_rfl)
theorem g61 (P : Params) : GOK (KM P) [95, 108, 97, 119, 95, 97, 109, 111, 117, 110, 116] (.val (.val (.ref 1314))) := g_ns (by kernel_rfl)
theorem g62 (P : Params) : GOK (KM P) [95, 108, 97, 119, 95, 116, 101, 115, 116] (.val (.val (.ref 1321))) := g_ns (by kernel_rfl)
theorem g63 (P : Params) : GOK (KM P) [95, 108, 97, 119, 95, 98, 114, 97, 110, 99, 104] (.val (.val (.ref 1328))) := g_ns (by kernel_rfl)
theorem g64 (P : Params) : GOK (KM P) [95, 108, 97, 119, 95, 99, 104, 111, 105, 99, 101] (.val (.val (.ref 1333))) := g_ns (by kernel_rfl)
theorem g65 (P : Params) : GOK (KM P) [95, 108, 97, 119, 95, 108, 111, 111, 112] (.val (.val (.ref 1340))) := g_ns (by kernel_rfl)
theorem g66 (P : Params) : GOK (KM P) [115, 117, 98] (.val (.val (.ref 271))) := g_ns (by kernel_rfl)
theorem g67 (P : Params) : GOK (KM P) [109, 117, 108] (.val (.val (.ref 278))) := g_ns (by kernel_rfl)
theorem g68 (P : Params) : GOK (KM P) [100, 105, 118] (.val (.val (.ref 299))) := g_ns (by kernel_rfl)
theorem g69 (P : Params) : GOK (KM P) [109, 111, 100] (.val (.val (.ref 306))) := g_ns (by kernel_rfl)
theorem g70 (P : Params) : GOK (KM P) [115, 104, 105, 102, 116, 95, 108, 101, 102, 116] (.val (.val (.ref 327))) := g_ns (by kernel_rfl)
theorem g71 (P : Params) : GOK (KM P) [115, 104, 105, 102, 116, 95, 114, 105, 103, 104, 116] (.val (.val (.ref 334))) := g_ns (by kernel_rfl)
theorem g72 (P : Params) : GOK (KM P) [115, 104, 105, 102, 116, 95, 97, 114, 105, 116, 104] (.val (.val (.ref 341))) := g_ns (by kernel_rfl)
theorem g73 (P : Params) : GOK (KM P) [98, 105, 116, 95, 97, 110, 100] (.val (.val (.ref 397))) := g_ns (by kernel_rfl)
theorem g74 (P : Params) : GOK (KM P) [98, 105, 116, 95, 111, 114] (.val (.val (.ref 404))) := g_ns (by kernel_rfl)
theorem g75 (P : Params) : GOK (KM P) [98, 105, 116, 95, 120, 111, 114] (.val (.val (.ref 411))) := g_ns (by kernel_rfl)
theorem g76 (P : Params) : GOK (KM P) [98, 105, 116, 95, 120, 110, 111, 114] (.val (.val (.ref 418))) := g_ns (by kernel_rfl)
theorem g77 (P : Params) : GOK (KM P) [108, 111, 103, 105, 99, 95, 97, 110, 100] (.val (.val (.ref 474))) := g_ns (by kernel_rfl)
theorem g78 (P : Params) : GOK (KM P) [108, 111, 103, 105, 99, 95, 111, 114] (.val (.val (.ref 481))) := g_ns (by kernel_rfl)
theorem g79 (P : Params) : GOK (KM P) [99, 97, 115, 101, 95, 101, 113, 117, 97, 108] (.val (.val (.ref 502))) := g_ns (by kernel_rfl)
theorem g80 (P : Params) : GOK (KM P) [99, 97, 115, 101, 95, 110, 111, 116, 95, 101, 113, 117, 97, 108] (.val (.val (.ref 509))) := g_ns (by kernel_rfl)
theorem g81 (P : Params) : GOK (KM P) [117, 110, 97, 114, 121] (.val (.val (.ref 530))) := g_ns (by kernel_rfl)
theorem g82 (P : Params) : GOK (KM P) [115, 108, 105, 99, 101, 95, 118, 101, 99] (.val (.val (.ref 137))) := g_ns (by kernel_rfl)
theorem g83 (P : Params) : GOK (KM P) [112, 105, 99, 107, 101, 100] (.val (.val (.ref 579))) := g_ns (by kernel_rfl)
theorem g84 (P : Params) : GOK (KM P) [109, 101, 109, 111, 114, 121, 95, 119, 111, 114, 100] (.val (.val (.ref 572))) := g_ns (by kernel_rfl)
theorem g85 (P : Params) : GOK (KM P) [99, 111, 110, 100, 105, 116, 105, 111, 110, 97, 108] (.val (.val (.ref 586))) := g_ns (by kernel_rfl)
theorem g86 (P : Params) : GOK (KM P) [99, 111, 110, 99, 97, 116] (.val (.val (.ref 151))) := g_ns (by kernel_rfl)
theorem g87 (P : Params) : GOK (KM P) [112, 111, 119, 101, 114] (.val (.val (.ref 320))) := g_ns (by kernel_rfl)
theorem g88 (P : Params) : GOK (KM P) [115, 121, 115, 116, 101, 109, 95, 118, 97, 108, 117, 101, 95, 101, 118, 97, 108, 117, 97, 116, 101] (.val (.val (.ref 600))) := g_ns (by kernel_rfl)
theorem g89 (P : Params) : GOK (KM P) [99, 104, 101, 99, 107, 101, 100, 95, 119, 105, 100, 116, 104] (.val (.val (.ref 864))) := g_ns (by kernel_rfl)
theorem g90 (P : Params) : GOK (KM P) [117, 110, 97, 114, 121, 95, 118, 97, 108, 117, 101] (.val (.val (.ref 1046))) := g_ns (by kernel_rfl)
theorem g91 (P : Params) : GOK (KM P) [116, 101, 120, 116, 95, 118, 101, 99] (.val (.val (.ref 878))) := g_ns (by kernel_rfl)
theorem g92 (P : Params) : GOK (KM P) [106, 111, 105, 110, 101, 100, 95, 118, 97, 108, 117, 101] (.val (.val (.ref 1025))) := g_ns (by kernel_rfl)
theorem g93 (P : Params) : GOK (KM P) [99, 97, 108, 108, 95, 118, 97, 108, 117, 101] (.val (.val (.ref 983))) := g_ns (by kernel_rfl)
theorem g94 (P : Params) : GOK (KM P) [115, 121, 115, 116, 101, 109, 95, 118, 97, 108, 117, 101, 95, 101, 108, 97, 98, 101, 120, 112, 114] (.val (.val (.ref 997))) := g_ns (by kernel_rfl)
theorem g95 (P : Params) : GOK (KM P) [106, 111, 105, 110, 101, 100, 95, 119, 105, 100, 116, 104] (.val (.val (.ref 1018))) := g_ns (by kernel_rfl)
theorem g96 (P : Params) : GOK (KM P) [102, 117, 110, 99, 116, 105, 111, 110, 95, 111, 102] (.val (.val (.ref 976))) := g_ns (by kernel_rfl)
theorem g97 (P : Params) : GOK (KM P) [115, 121, 115, 116, 101, 109, 95, 116, 121, 112, 101] (.val (.val (.ref 990))) := g_ns (by kernel_rfl)
theorem g98 (P : Params) : GOK (KM P) [105, 115, 95, 99, 111, 110, 115, 116, 97, 110, 116] (.val (.val (.ref 920))) := g_ns (by kernel_rfl)
theorem g99 (P : Params) : GOK (KM P) [70, 117, 110, 99, 116, 105, 111, 110, 67, 111, 110, 116, 101, 120, 116] (.val (.val (.ref 677))) := g_ns (by kernel_rfl)
theorem g100 (P : Params) : GOK (KM P) [98, 97, 115, 101, 95, 101, 110, 116, 114, 121] (.val (.val (.ref 941))) := g_ns (by kernel_rfl)
theorem g101 (P : Params) : GOK (KM P) [115, 101, 108, 101, 99, 116, 95, 119, 105, 100, 116, 104] (.val (.val (.ref 948))) := g_ns (by kernel_rfl)
theorem g102 (P : Params) : GOK (KM P) [115, 101, 108, 101, 99, 116, 95, 119, 104, 101, 114, 101] (.val (.val (.ref 955))) := g_ns (by kernel_rfl)
theorem g103 (P : Params) : GOK (KM P) [115, 101, 108, 101, 99, 116, 101, 100] (.val (.val (.ref 871))) := g_ns (by kernel_rfl)
theorem g104 (P : Params) : GOK (KM P) [105, 110, 110, 101, 114, 95, 106, 111, 105, 110] (.val (.val (.ref 885))) := g_ns (by kernel_rfl)
theorem g105 (P : Params) : GOK (KM P) [68, 101, 115, 105, 103, 110, 69, 114, 114, 111, 114] (.val (.val (.ref 52))) := g_ns (by kernel_rfl)
theorem g106 (P : Params) : GOK (KM P) [108, 101, 110] (.val (.val (.builtin "len"))) := g_bi (by kernel_rfl) (by kernel_rfl) (by kernel_rfl)
theorem g107 (P : Params) : GOK (KM P) [109, 97, 120] (.val (.val (.builtin "max"))) := g_bi (by kernel_rfl) (by kernel_rfl) (by kernel_rfl)
theorem g108 (P : Params) : GOK (KM P) [115, 116, 114] (.val (.val (.type "str"))) := g_bi (by kernel_rfl) (by kernel_rfl) (by kernel_rfl)
theorem g109 (P : Params) : GOK (KM P) [116, 117, 112, 108, 101] (.val (.val (.type "tuple"))) := g_bi (by kernel_rfl) (by kernel_rfl) (by kernel_rfl)
theorem g110 (P : Params) : GOK (KM P) [100, 105, 99, 116] (.val (.val (.type "dict"))) := g_bi (by kernel_rfl) (by kernel_rfl) (by kernel_rfl)
theorem g111 (P : Params) : GOK (KM P) [114, 97, 110, 103, 101] (.val (.val (.type "range"))) := g_bi (by kernel_rfl) (by kernel_rfl) (by kernel_rfl)
theorem gAll (P : Params) : GTab (KM P) gtab := GAll.ok (l := gtab) ⟨g0 P, g1 P, g2 P, g3 P, g4 P, g5 P, g6 P, g7 P, g8 P, g9 P, g10 P, g11 P, g12 P, g13 P, g14 P, g15 P, g16 P, g17 P, g18 P, g19 P, g20 P, g21 P, g22 P, g23 P, g24 P, g25 P, g26 P, g27 P, g28 P, g29 P, g30 P, g31 P, g32 P, g33 P, g34 P, g35 P, g36 P, g37 P, g38 P, g39 P, g40 P, g41 P, g42 P, g43 P, g44 P, g45 P, g46 P, g47 P, g48 P, g49 P, g50 P, g51 P, g52 P, g53 P, g54 P, g55 P, g56 P, g57 P, g58 P, g59 P, g60 P, g61 P, g62 P, g63 P, g64 P, g65 P, g66 P, g67 P, g68 P, g69 P, g70 P, g71 P, g72 P, g73 P, g74 P, g75 P, g76 P, g77 P, g78 P, g79 P, g80 P, g81 P, g82 P, g83 P, g84 P, g85 P, g86 P, g87 P, g88 P, g89 P, g90 P, g91 P, g92 P, g93 P, g94 P, g95 P, g96 P, g97 P, g98 P, g99 P, g100 P, g101 P, g102 P, g103 P, g104 P, g105 P, g106 P, g107 P, g108 P, g109 P, g110 P, g111 P, trivial⟩
theorem a0 (P : Params) : noGetOK (KM P) 210 (tS [115, 105, 103, 110, 97, 108, 115]) ∧ setsOK (KM P) 210 (tS [115, 105, 103, 110, 97, 108, 115]) := ng_of (by kernel_rfl) (by kernel_rfl) (by kernel_rfl) (by kernel_rfl) (by kernel_rfl) (by kernel_rfl)
theorem a1 (P : Params) : noGetOK (KM P) 210 (tS [118, 97, 108, 117, 101, 115]) ∧ setsOK (KM P) 210 (tS [118, 97, 108, 117, 101, 115]) := ng_of (by kernel_rfl) (by kernel_rfl) (by kernel_rfl) (by kernel_rfl) (by kernel_rfl) (by kernel_rfl)
theorem a2 (P : Params) : noGetOK (KM P) 210 (tS [109, 101, 109, 111, 114, 105, 101, 115]) ∧ setsOK (KM P) 210 (tS [109, 101, 109, 111, 114, 105, 101, 115]) := ng_of (by kernel_rfl) (by kernel_rfl) (by kernel_rfl) (by kernel_rfl) (by kernel_rfl) (by kernel_rfl)
theorem a3 (P : Params) : noGetOK (KM P) 210 (tS [114, 97, 110, 100, 111, 109, 95, 115, 101, 101, 100]) ∧ setsOK (KM P) 210 (tS [114, 97, 110, 100, 111, 109, 95, 115, 101, 101, 100]) := ng_of (by kernel_rfl) (by kernel_rfl) (by kernel_rfl) (by kernel_rfl) (by kernel_rfl) (by kernel_rfl)
theorem a4 (P : Params) : noGetOK (KM P) 253 (tS [115, 116, 111, 114, 101]) ∧ setsOK (KM P) 253 (tS [115, 116, 111, 114, 101]) := ng_of (by kernel_rfl) (by kernel_rfl) (by kernel_rfl) (by kernel_rfl) (by kernel_rfl) (by kernel_rfl)
theorem a5 (P : Params) : noGetOK (KM P) 253 (tS [102, 114, 97, 109, 101]) ∧ setsOK (KM P) 253 (tS [102, 114, 97, 109, 101]) := ng_of (by kernel_rfl) (by kernel_rfl) (by kernel_rfl) (by kernel_rfl) (by kernel_rfl) (by kernel_rfl)
theorem a6 (P : Params) : noGetOK (KM P) 253 (tS [110, 111, 119]) ∧ setsOK (KM P) 253 (tS [110, 111, 119]) := ng_of (by kernel_rfl) (by kernel_rfl) (by kernel_rfl) (by kernel_rfl) (by kernel_rfl) (by kernel_rfl)
theorem a7 (P : Params) : noGetOK (KM P) 1204 (tS [115, 105, 103, 110, 97, 108, 115]) ∧ setsOK (KM P) 1204 (tS [115, 105, 103, 110, 97, 108, 115]) := ng_of (by kernel_rfl) (by kernel_rfl) (by kernel_rfl) (by kernel_rfl) (by kernel_rfl) (by kernel_rfl)
theorem a8 (P : Params) : noGetOK (KM P) 1204 (tS [97, 115, 115, 105, 103, 110, 115]) ∧ setsOK (KM P) 1204 (tS [97, 115, 115, 105, 103, 110, 115]) := ng_of (by kernel_rfl) (by kernel_rfl) (by kernel_rfl) (by kernel_rfl) (by kernel_rfl) (by kernel_rfl)
theorem a9 (P : Params) : noGetOK (KM P) 1204 (tS [103, 97, 116, 101, 115]) ∧ setsOK (KM P) 1204 (tS [103, 97, 116, 101, 115]) := ng_of (by kernel_rfl) (by kernel_rfl) (by kernel_rfl) (by kernel_rfl) (by kernel_rfl) (by kernel_rfl)
theorem a10 (P : Params) : noGetOK (KM P) 1204 (tS [117, 100, 112, 115]) ∧ setsOK (KM P) 1204 (tS [117, 100, 112, 115]) := ng_of (by kernel_rfl) (by kernel_rfl) (by kernel_rfl) (by kernel_rfl) (by kernel_rfl) (by kernel_rfl)
theorem a11 (P : Params) : noGetOK (KM P) 1204 (tS [112, 114, 111, 99, 101, 115, 115, 101, 115]) ∧ setsOK (KM P) 1204 (tS [112, 114, 111, 99, 101, 115, 115, 101, 115]) := ng_of (by kernel_rfl) (by kernel_rfl) (by kernel_rfl) (by kernel_rfl) (by kernel_rfl) (by kernel_rfl)
theorem a12 (P : Params) : noGetOK (KM P) 1204 (tS [114, 111, 117, 116, 105, 110, 101, 115]) ∧ setsOK (KM P) 1204 (tS [114, 111, 117, 116, 105, 110, 101, 115]) := ng_of (by kernel_rfl) (by kernel_rfl) (by kernel_rfl) (by kernel_rfl) (by kernel_rfl) (by kernel_rfl)
theorem a13 (P : Params) : noGetOK (KM P) 1204 (tS [115, 99, 111, 112, 101, 115]) ∧ setsOK (KM P) 1204 (tS [115, 99, 111, 112, 101, 115]) := ng_of (by kernel_rfl) (by kernel_rfl) (by kernel_rfl) (by kernel_rfl) (by kernel_rfl) (by kernel_rfl)
theorem a14 (P : Params) : noGetOK (KM P) 1204 (tS [116, 111, 112, 115]) ∧ setsOK (KM P) 1204 (tS [116, 111, 112, 115]) := ng_of (by kernel_rfl) (by kernel_rfl) (by kernel_rfl) (by kernel_rfl) (by kernel_rfl) (by kernel_rfl)
theorem a15 (P : Params) : noGetOK (KM P) 1204 (tS [112, 111, 114, 116, 115]) ∧ setsOK (KM P) 1204 (tS [112, 111, 114, 116, 115]) := ng_of (by kernel_rfl) (by kernel_rfl) (by kernel_rfl) (by kernel_rfl) (by kernel_rfl) (by kernel_rfl)
theorem a16 (P : Params) : noGetOK (KM P) 1204 (tS [109, 97, 107, 101, 114]) ∧ setsOK (KM P) 1204 (tS [109, 97, 107, 101, 114]) := ng_of (by kernel_rfl) (by kernel_rfl) (by kernel_rfl) (by kernel_rfl) (by kernel_rfl) (by kernel_rfl)
theorem a17 (P : Params) : noGetOK (KM P) 1204 (tS [98, 121, 95, 112, 97, 116, 104]) ∧ setsOK (KM P) 1204 (tS [98, 121, 95, 112, 97, 116, 104]) := ng_of (by kernel_rfl) (by kernel_rfl) (by kernel_rfl) (by kernel_rfl) (by kernel_rfl) (by kernel_rfl)
theorem a18 (P : Params) : noGetOK (KM P) 1281 (tS [100, 101, 115, 105, 103, 110]) ∧ setsOK (KM P) 1281 (tS [100, 101, 115, 105, 103, 110]) := ng_of (by kernel_rfl) (by kernel_rfl) (by kernel_rfl) (by kernel_rfl) (by kernel_rfl) (by kernel_rfl)
theorem a19 (P : Params) : noGetOK (KM P) 1281 (tS [110, 97, 109, 101]) ∧ setsOK (KM P) 1281 (tS [110, 97, 109, 101]) := ng_of (by kernel_rfl) (by kernel_rfl) (by kernel_rfl) (by kernel_rfl) (by kernel_rfl) (by kernel_rfl)
theorem a20 (P : Params) : noGetOK (KM P) 1281 (tS [112, 97, 114, 101, 110, 116]) ∧ setsOK (KM P) 1281 (tS [112, 97, 114, 101, 110, 116]) := ng_of (by kernel_rfl) (by kernel_rfl) (by kernel_rfl) (by kernel_rfl) (by kernel_rfl) (by kernel_rfl)
theorem a21 (P : Params) : noGetOK (KM P) 1281 (tS [107, 105, 110, 100]) ∧ setsOK (KM P) 1281 (tS [107, 105, 110, 100]) := ng_of (by kernel_rfl) (by kernel_rfl) (by kernel_rfl) (by kernel_rfl) (by kernel_rfl) (by kernel_rfl)
theorem a22 (P : Params) : noGetOK (KM P) 1281 (tS [112, 97, 116, 104]) ∧ setsOK (KM P) 1281 (tS [112, 97, 116, 104]) := ng_of (by kernel_rfl) (by kernel_rfl) (by kernel_rfl) (by kernel_rfl) (by kernel_rfl) (by kernel_rfl)
theorem a23 (P : Params) : noGetOK (KM P) 1281 (tS [110, 101, 116, 116, 121, 112, 101]) ∧ setsOK (KM P) 1281 (tS [110, 101, 116, 116, 121, 112, 101]) := ng_of (by kernel_rfl) (by kernel_rfl) (by kernel_rfl) (by kernel_rfl) (by kernel_rfl) (by kernel_rfl)
theorem a24 (P : Params) : noGetOK (KM P) 1281 (tS [109, 111, 100, 117, 108, 101, 95, 110, 97, 109, 101]) ∧ setsOK (KM P) 1281 (tS [109, 111, 100, 117, 108, 101, 95, 110, 97, 109, 101]) := ng_of (by kernel_rfl) (by kernel_rfl) (by kernel_rfl) (by kernel_rfl) (by kernel_rfl) (by kernel_rfl)
theorem a25 (P : Params) : noGetOK (KM P) 1281 (tS [101, 110, 116, 114, 105, 101, 115]) ∧ setsOK (KM P) 1281 (tS [101, 110, 116, 114, 105, 101, 115]) := ng_of (by kernel_rfl) (by kernel_rfl) (by kernel_rfl) (by kernel_rfl) (by kernel_rfl) (by kernel_rfl)
theorem a26 (P : Params) : noGetOK (KM P) 1281 (tS [110, 117, 109, 98, 101, 114]) ∧ setsOK (KM P) 1281 (tS [110, 117, 109, 98, 101, 114]) := ng_of (by kernel_rfl) (by kernel_rfl) (by kernel_rfl) (by kernel_rfl) (by kernel_rfl) (by kernel_rfl)
theorem aAll (P : Params) : ATOK (KM P) tabA := AAll.ok (l := tabA) ⟨a0 P, a1 P, a2 P, a3 P, a4 P, a5 P, a6 P, a7 P, a8 P, a9 P, a10 P, a11 P, a12 P, a13 P, a14 P, a15 P, a16 P, a17 P, a18 P, a19 P, a20 P, a21 P, a22 P, a23 P, a24 P, a25 P, a26 P, trivial⟩
theorem mAll (P : Params) : MAll (KM P) tabM := ⟨⟨(by kernel_rfl), (by kernel_rfl), (by kernel_rfl), (by kernel_rfl)⟩, ⟨(by kernel_rfl), (by kernel_rfl), (by kernel_rfl), (by kernel_rfl)⟩, ⟨(by kernel_rfl), (by kernel_rfl), (by kernel_rfl), (by kernel_rfl)⟩, trivial⟩
theorem t73 (P : Params) : TOK (KM P) gtab 73 (.fn x73) := ⟨f73 P, by kernel_rfl⟩
theorem t81 (P : Params) : TOK (KM P) gtab 81 (.fn x81) := ⟨f81 P, by kernel_rfl⟩
theorem t95 (P : Params) : TOK (KM P) gtab 95 (.fn x95) := ⟨f95 P, by kernel_rfl⟩
theorem t109 (P : Params) : TOK (KM P) gtab 109 (.fn x109) := ⟨f109 P, by kernel_rfl⟩
theorem t116 (P : Params) : TOK (KM P) gtab 116 (.fn x116) := ⟨f116 P, by kernel_rfl⟩
theorem t123 (P : Params) : TOK (KM P) gtab 123 (.fn x123) := ⟨f123 P, by kernel_rfl⟩
theorem t130 (P : Params) : TOK (KM P) gtab 130 (.fn x130) := ⟨f130 P, by kernel_rfl⟩
theorem t158 (P : Params) : TOK (KM P) gtab 158 (.fn x158) := ⟨f158 P, by kernel_rfl⟩
theorem t172 (P : Params) : TOK (KM P) gtab 172 (.fn x172) := ⟨f172 P, by kernel_rfl⟩
theorem t264 (P : Params) : TOK (KM P) gtab 264 (.fn x264) := ⟨f264 P, by kernel_rfl⟩
theorem t348 (P : Params) : TOK (KM P) gtab 348 (.fn x348) := ⟨f348 P, by kernel_rfl⟩
theorem t355 (P : Params) : TOK (KM P) gtab 355 (.fn x355) := ⟨f355 P, by kernel_rfl⟩
theorem t362 (P : Params) : TOK (KM P) gtab 362 (.fn x362) := ⟨f362 P, by kernel_rfl⟩
theorem t369 (P : Params) : TOK (KM P) gtab 369 (.fn x369) := ⟨f369 P, by kernel_rfl⟩
theorem t376 (P : Params) : TOK (KM P) gtab 376 (.fn x376) := ⟨f376 P, by kernel_rfl⟩
theorem t383 (P : Params) : TOK (KM P) gtab 383 (.fn x383) := ⟨f383 P, by kernel_rfl⟩
theorem t390 (P : Params) : TOK (KM P) gtab 390 (.fn x390) := ⟨f390 P, by kernel_rfl⟩
theorem t488 (P : Params) : TOK (KM P) gtab 488 (.fn x488) := ⟨f488 P, by kernel_rfl⟩
theorem t495 (P : Params) : TOK (KM P) gtab 495 (.fn x495) := ⟨f495 P, by kernel_rfl⟩
theorem t537 (P : Params) : TOK (KM P) gtab 537 (.fn x537) := ⟨f537 P, by kernel_rfl⟩
theorem t544 (P : Params) : TOK (KM P) gtab 544 (.fn x544) := ⟨f544 P, by kernel_rfl⟩
theorem t558 (P : Params) : TOK (KM P) gtab 558 (.fn x558) := ⟨f558 P, by kernel_rfl⟩
theorem t605 (P : Params) : TOK (KM P) gtab 605 (.fn x605) := ⟨f605 P, by kernel_rfl⟩
theorem t735 (P : Params) : TOK (KM P) gtab 735 (.fn x735) := ⟨f735 P, by kernel_rfl⟩
theorem t822 (P : Params) : TOK (KM P) gtab 822 (.fn x822) := ⟨f822 P, by kernel_rfl⟩
theorem t829 (P : Params) : TOK (KM P) gtab 829 (.fn x829) := ⟨f829 P, by kernel_rfl⟩
theorem t836 (P : Params) : TOK (KM P) gtab 836 (.fn x836) := ⟨f836 P, by kernel_rfl⟩
theorem t843 (P : Params) : TOK (KM P) gtab 843 (.fn x843) := ⟨f843 P, by kernel_rfl⟩
theorem t850 (P : Params) : TOK (KM P) gtab 850 (.fn x850) := ⟨f850 P, by kernel_rfl⟩
theorem t857 (P : Params) : TOK (KM P) gtab 857 (.fn x857) := ⟨f857 P, by kernel_rfl⟩
theorem t892 (P : Params) : TOK (KM P) gtab 892 (.fn x892) := ⟨f892 P, by kernel_rfl⟩
theorem t899 (P : Params) : TOK (KM P) gtab 899 (.fn x899) := ⟨f899 P, by kernel_rfl⟩
theorem t906 (P : Params) : TOK (KM P) gtab 906 (.fn x906) := ⟨f906 P, by kernel_rfl⟩
theorem t913 (P : Params) : TOK (KM P) gtab 913 (.fn x913) := ⟨f913 P, by kernel_rfl⟩
theorem t934 (P : Params) : TOK (KM P) gtab 934 (.fn x934) := ⟨f934 P, by kernel_rfl⟩
theorem t962 (P : Params) : TOK (KM P) gtab 962 (.fn x962) := ⟨f962 P, by kernel_rfl⟩
theorem t969 (P : Params) : TOK (KM P) gtab 969 (.fn x969) := ⟨f969 P, by kernel_rfl⟩
theorem t1032 (P : Params) : TOK (KM P) gtab 1032 (.fn x1032) := ⟨f1032 P, by kernel_rfl⟩
theorem t1039 (P : Params) : TOK (KM P) gtab 1039 (.fn x1039) := ⟨f1039 P, by kernel_rfl⟩
theorem t1053 (P : Params) : TOK (KM P) gtab 1053 (.fn x1053) := ⟨f1053 P, by kernel_rfl⟩
theorem t1060 (P : Params) : TOK (KM P) gtab 1060 (.fn x1060) := ⟨f1060 P, by kernel_rfl⟩
theorem t1067 (P : Params) : TOK (KM P) gtab 1067 (.fn x1067) := ⟨f1067 P, by kernel_rfl⟩
theorem t1081 (P : Params) : TOK (KM P) gtab 1081 (.fn x1081) := ⟨f1081 P, by kernel_rfl⟩
theorem t1088 (P : Params) : TOK (KM P) gtab 1088 (.fn x1088) := ⟨f1088 P, by kernel_rfl⟩
theorem t1095 (P : Params) : TOK (KM P) gtab 1095 (.fn x1095) := ⟨f1095 P, by kernel_rfl⟩
theorem t1102 (P : Params) : TOK (KM P) gtab 1102 (.fn x1102) := ⟨f1102 P, by kernel_rfl⟩
theorem t1109 (P : Params) : TOK (KM P) gtab 1109 (.fn x1109) := ⟨f1109 P, by kernel_rfl⟩
theorem t1116 (P : Params) : TOK (KM P) gtab 1116 (.fn x1116) := ⟨f1116 P, by kernel_rfl⟩
theorem t1123 (P : Params) : TOK (KM P) gtab 1123 (.fn x1123) := ⟨f1123 P, by kernel_rfl⟩
theorem t1130 (P : Params) : TOK (KM P) gtab 1130 (.fn x1130) := ⟨f1130 P, by kernel_rfl⟩
theorem t1137 (P : Params) : TOK (KM P) gtab 1137 (.fn x1137) := ⟨f1137 P, by kernel_rfl⟩
theorem t1145 (P : Params) : TOK (KM P) gtab 1145 (.fn x1145) := ⟨f1145 P, by kernel_rfl⟩
theorem t1292 (P : Params) : TOK (KM P) gtab 1292 (.fn x1292) := ⟨f1292 P, by kernel_rfl⟩
theorem t1299 (P : Params) : TOK (KM P) gtab 1299 (.fn x1299) := ⟨f1299 P, by kernel_rfl⟩
theorem t1306 (P : Params) : TOK (KM P) gtab 1306 (.fn x1306) := ⟨f1306 P, by kernel_rfl⟩
theorem t1314 (P : Params) : TOK (KM P) gtab 1314 (.fn x1314) := ⟨f1314 P, by kernel_rfl⟩
theorem t1321 (P : Params) : TOK (KM P) gtab 1321 (.fn x1321) := ⟨f1321 P, by kernel_rfl⟩
theorem t1328 (P : Params) : TOK (KM P) gtab 1328 (.fn x1328) := ⟨f1328 P, by kernel_rfl⟩
theorem t1333 (P : Params) : TOK (KM P) gtab 1333 (.fn x1333) := ⟨f1333 P, by kernel_rfl⟩
theorem t1340 (P : Params) : TOK (KM P) gtab 1340 (.fn x1340) := ⟨f1340 P, by kernel_rfl⟩
theorem t186 (P : Params) : TOK (KM P) gtab 186 (.fn x186) := ⟨f186 P, by kernel_rfl⟩
theorem t229 (P : Params) : TOK (KM P) gtab 229 (.fn x229) := ⟨f229 P, by kernel_rfl⟩
theorem t1159 (P : Params) : TOK (KM P) gtab 1159 (.fn x1159) := ⟨f1159 P, by kernel_rfl⟩
theorem t1173 (P : Params) : TOK (KM P) gtab 1173 (.fn x1173) := ⟨f1173 P, by kernel_rfl⟩
theorem t1222 (P : Params) : TOK (KM P) gtab 1222 (.fn x1222) := ⟨f1222 P, by kernel_rfl⟩
theorem t1236 (P : Params) : TOK (KM P) gtab 1236 (.fn x1236) := ⟨f1236 P, by kernel_rfl⟩
theorem t1250 (P : Params) : TOK (KM P) gtab 1250 (.fn x1250) := ⟨f1250 P, by kernel_rfl⟩
theorem t210 (P : Params) : TOK (KM P) gtab 210 (.cls 186 x186) := ⟨f186 P, (by kernel_rfl), (by kernel_rfl), (by kernel_rfl), (by kernel_rfl)⟩
theorem t253 (P : Params) : TOK (KM P) gtab 253 (.cls 229 x229) := ⟨f229 P, (by kernel_rfl), (by kernel_rfl), (by kernel_rfl), (by kernel_rfl)⟩
theorem t1204 (P : Params) : TOK (KM P) gtab 1204 (.cls 1159 x1159) := ⟨f1159 P, (by kernel_rfl), (by kernel_rfl), (by kernel_rfl), (by kernel_rfl)⟩
theorem t1281 (P : Params) : TOK (KM P) gtab 1281 (.cls 1222 x1222) := ⟨f1222 P, (by kernel_rfl), (by kernel_rfl), (by kernel_rfl), (by kernel_rfl)⟩
theorem tAll (P : Params) : TAll (KM P) gtab tabT := ⟨t73 P, t81 P, t95 P, t109 P, t116 P, t123 P, t130 P, t158 P, t172 P, t264 P, t348 P, t355 P, t362 P, t369 P, t376 P, t383 P, t390 P, t488 P, t495 P, t537 P, t544 P, t558 P, t605 P, t735 P, t822 P, t829 P, t836 P, t843 P, t850 P, t857 P, t892 P, t899 P, t906 P, t913 P, t934 P, t962 P, t969 P, t1032 P, t1039 P, t1053 P, t1060 P, t1067 P, t1081 P, t1088 P, t1095 P, t1102 P, t1109 P, t1116 P, t1123 P, t1130 P, t1137 P, t1145 P, t1292 P, t1299 P, t1306 P, t1314 P, t1321 P, t1328 P, t1333 P, t1340 P, t186 P, t229 P, t1159 P, t1173 P, t1222 P, t1236 P, t1250 P, t210 P, t253 P, t1204 P, t1281 P, trivial⟩
theorem tabOK (P : Params) (sc : Option (Addr × List PV)) : TabOK (KM P) gtab (tab sc) :=
  ⟨gAll P, aAll P, (mAll P).ok, fun f x h => (tAll P).ok f _ h, fun D f x h => (tAll P).ok D _ h⟩
end
section
set_option linter.unusedVariables false
set_option maxHeartbeats 0

noncomputable abbrev lawB : List Stmt := bodyAt 172
noncomputable def fdPos : List Stmt → Pos
  | [.FunctionDef _ _ _ _ _ _ _ _ _ pos] => pos
  | _ => default
theorem def_law : defOf qM PySem.Challenge.rw_nn0348_01.row.name = some (⟨fdName lawB, fdArgs lawB, fdBody lawB, fdScope lawB, fdPos lawB⟩, []) := by kernel_rfl

theorem ints_vrs : ∀ {vs : List Value} {ns : List Int}, IntsAre vs ns → VRs [] [] vs (ns.map PV.int)
  | _, _, .nil => .nil
  | _, _, .cons n t h => .cons (.int n t) (ints_vrs h)
theorem no_cells {l : List (Str × NameKind)} (h : (l.all fun x => match x.2 with | .cell => false | _ => true) = true) : ∀ x ∈ l, x.2 ≠ .cell := by
  intro x hx e
  have := List.all_eq_true.mp h x hx
  rw [e] at this
  cases this
noncomputable def trueK : KontS := fun fl _ _ => fl = .ret (.bool true)

theorem law_walk (d : DefRec) (kwd : List (Str × Expr)) (hdef : defOf qM PySem.Challenge.rw_nn0348_01.row.name = some (d, kwd)) :
    WalkO qM looseM (fun _ _ => True) (fun w h => (KM w.params).In h) PySem.Challenge.rw_nn0348_01.row.toRowW d kwd (fun f vs => PySem.call f vs) := by
  have e := Option.some.inj (hdef.symm.trans def_law)
  obtain ⟨rfl, rfl⟩ : d = _ ∧ kwd = _ := ⟨congrArg Prod.fst e, congrArg Prod.snd e⟩
  clear e hdef
  intro w s₀ s₁ mg mb G KX fa o pm cd doc dV kV ho hd hcd hD hmg hg args vals as hpre hlay hrd hwl hlo
  refine Ground.open G ?_
  intro T B D TE TW
  clear B D TE TW
  wrow_args hpre hlay hrd hwl hlo
  rename_i nums _ _ _ _ _ _ _ l vs _ hL _ _ _ hI _ hlen _
  have hz : nums.length ≤ 100 := by omega
  have he := Dflts.none hD (by kernel_rfl); subst he; have he := Dflts.noKw hD; subst he
  refine enter_call ?_
  refine codeAny_mono ?_ (fun _ _ g => GoodW.toG g)
  refine call_plain (binds := [(Str.ofString "script", .ref l)]) (by decide) ho hd (Top.nolimit T) hcd (by kernel_rfl) (locs (by kernel_rfl)) (fun h₁ F => ?_) (by kernel_rfl) (by kernel_rfl) (by kernel_rfl) (no_cells (by kernel_rfl))
  let env : Env := envOf (fdName lawB) (fdScope lawB) s₁.heap.objs.size fa cd
  let C : Cx := { prog := PySem.Challenge.rw_nn0348_01.row.prog, w := w, K := KM w.params, p := qM, loose := looseW qM looseM, mean := ExcName.means s₀.heap, mg := mg, mb := mb, s₀ := s₁, scr := some (l, nums.map PV.int), hid := [], kp := fun _ _ _ => True, kpm := fun _ _ _ _ _ _ _ => trivial }
  have FI : InS C 60 (callerA.deeper env) s₁.heap env s₁.heap.objs.size := by
    refine ⟨⟨callerA, s₁.heap, [], env, ⟨below_caller _, KX, T, rfl, rfl, by kernel_rfl, rfl, (show callerA.depth + 1 + 60 < recursionLimit by decide), (show callerA.units + 3 + 16 * 60 + 128 < cLine by decide), ?_⟩, ⟨by kernel_rfl, rfl, rfl⟩⟩, rfl, fun _ _ _ _ h => h⟩
    intro a ds e
    cases e
    exact ⟨vs, hL, ints_vrs hI⟩
  have S : St C s₁.heap s₁.heap.objs.size env [] [] [(nScript, .val (.ref l))] [] { s₁ with heap := h₁, toks := s₁.toks + 1 } := by
    refine ⟨⟨rfl, rfl, rfl, .inl rfl⟩, _, [], F, News.nil, .nil, ⟨List.nodup_nil, (fun _ hp => nomatch hp), (fun _ hp => nomatch hp), List.nodup_nil⟩, fun x d e => ?_, trivial⟩
    rcases bsel_inv e with ⟨q, e⟩ | e
    · cases e
      have hx : x = Str.ofString "script" := sT_inj (teq_eq q)
      subst hx
      exact ⟨_, .val _, .inl ⟨by kernel_rfl, .inl ⟨rfl, by kernel_rfl⟩⟩⟩
    · cases e
  refine wpAny_mono (ok_B (O := opsN (tab C.scr) 30) (gt := gtab) (N := 60) 400 C (oks 30 C (tabOK w.params C.scr) rfl) (ksOf (fdScope lawB)) 60 (fdBody lawB) _ s₁.heap env s₁.heap.objs.size [] [] _ [] _ trueK _ FI (ksOK_of (env := env)) ((show cB gtab (ksOf (fdScope lawB)) 60 (fdBody lawB) = _ from b1345S.2) ▸ law_runs hz (Nat.le_refl _) fun _ _ => rfl) S ?_) (fun _ _ h => h) (fun _ _ e => e.elim)
  intro fl fv as' fz' ρ' σ' s' hk x' S2 R2
  obtain ⟨m2, mus2, F2, N2, _⟩ := id S2.ex
  have hfl : fl = .ret (.bool true) := hk
  subst hfl
  cases R2 with
  | ret hv =>
    cases hv
    exact goodW_bool F2 (S2.same.1.trans hg) (raisesW_false (by wrow_none_raised)) (by wrow_post) S2.same.2.2.1
end
section
set_option linter.unusedVariables false
set_option maxHeartbeats 0
/-- where the top stands between two statements -/
structure TopAt where
  n : Nat
  toks : Nat
  k : Nat
  nm : Str
  nt : Nat
  late : Bool
  tab : Nat
  c253 : Bool
  subs : Bool
noncomputable def ents (P : Params) : List DictEntry := match (o3 P).data with | .dict es _ => es.toList | _ => []
noncomputable def updAt (v : Value) : Nat → List DictEntry → List DictEntry
  | 0, e :: r => { e with val := v } :: r
  | n + 1, e :: r => e :: updAt v n r
  | _, [] => []
noncomputable def o3At (P : Params) (g : TopAt) : Obj := ⟨.type "dict", none, .dict (updAt (.str g.nm g.nt) 0 ((match g.late with | true => ents P | false => updAt (.ref 600) 78 (ents P)).take g.k)).toArray g.k, #[]⟩
noncomputable def codesT : List (Nat × Nat) := [(1, 20), (5, 27), (11, 48), (13, 60), (16, 72), (18, 80), (21, 87), (23, 94), (26, 101), (28, 108), (30, 115), (32, 122), (39, 129), (41, 136), (52, 143), (63, 150), (72, 157), (82, 164), (84, 171), (91, 178), (134, 220), (154, 263), (158, 270), (162, 277), (166, 284), (170, 291), (175, 298), (181, 305), (187, 312), (198, 319), (213, 326), (221, 333), (228, 340), (238, 347), (246, 354), (251, 361), (256, 368), (258, 375), (261, 382), (263, 389), (266, 396), (271, 403), (277, 410), (280, 417), (282, 424), (287, 431), (289, 438), (291, 445), (293, 452), (302, 459), (304, 466), (306, 473), (308, 480), (310, 487), (315, 494), (317, 501), (319, 508), (321, 515), (329, 522), (340, 529), (360, 536), (378, 543), (396, 550), (410, 557), (419, 564), (421, 571), (429, 578), (435, 585), (443, 592), (448, 599), (462, 604), (493, 611), (500, 618), (504, 625), (523, 632), (535, 639), (578, 685), (586, 692), (593, 699), (604, 706), (612, 713), (623, 720), (626, 727), (653, 734), (672, 741), (681, 748), (687, 755), (693, 762), (701, 769), (707, 774), (725, 781), (736, 786), (742, 793), (767, 800), (774, 807), (781, 814), (792, 821), (797, 828), (799, 835), (812, 842), (823, 849), (827, 856), (834, 863), (840, 870), (844, 877), (849, 884), (851, 891), (853, 898), (855, 905), (859, 912), (863, 919), (881, 926), (888, 933), (895, 940), (905, 947), (911, 954), (933, 961), (946, 968), (965, 975), (977, 982), (985, 989), (1003, 996), (1012, 1003), (1022, 1010), (1027, 1017), (1034, 1024), (1042, 1031), (1046, 1038), (1074, 1045), (1081, 1052), (1100, 1059), (1123, 1066), (1126, 1073), (1129, 1080), (1136, 1087), (1139, 1094), (1147, 1101), (1151, 1108), (1159, 1115), (1166, 1122), (1184, 1129), (1203, 1136), (1210, 1144), (1222, 1151), (1261, 1214), (1337, 1291), (1350, 1298), (1352, 1305), (1354, 1313), (1367, 1320), (1374, 1327), (1386, 1332), (1408, 1339), (1426, 1344)]
noncomputable def o12At (g : TopAt) : Obj := ⟨.none, none, .fields ((codesT.take g.tab).flatMap fun x => [.int x.1 0, .int 0 0, .ref x.2]).toArray, #[]⟩
noncomputable def subsO (P : Params) : Obj := ⟨.none, none, .dict #[⟨PyData.keyHash P (Str.ofString "type.__subclasses__.Exception.0"), .str (Str.ofString "type.__subclasses__.Exception.0") 228, .int 39 0⟩, ⟨PyData.keyHash P (Str.ofString "type.__subclasses__.Exception.n"), .str (Str.ofString "type.__subclasses__.Exception.n") 229, .int 1 0⟩] 2, #[]⟩
noncomputable def lowO (P : Params) (g : TopAt) : Nat → Obj
  | 0 => boot_o_0 P
  | 1 => boot_o_1 P
  | 2 => match g.subs with | true => subsO P | false => boot_o_2 P
  | 3 => o3At P g
  | 4 => boot_o_4 P
  | 5 => boot_o_5 P
  | 6 => boot_o_6 P
  | 7 => boot_o_7 P
  | 8 => boot_o_8 P
  | 9 => boot_o_9 P
  | 10 => boot_o_10 P
  | 11 => ⟨.type "tuple", none, .seq #[] 0, #[]⟩
  | 12 => o12At g
  | 13 => ⟨.type "code", none, .fields #[.str (Str.ofString "<module>") 182, .str (Str.ofString "<module>") 183, .str (Str.ofString "/claim/cut.py") 184, .int 1 0, .int 0 0, .int 0 0, .int 0 0, .int 0 0, .ref 11, .bool false, .int 181 0, .ref 12, .none, .none, .none, .none, .int 185 0, .int 1 0, .str (Str.ofString "/claim/cut.py") 186], #[]⟩
  | _ => { cls := .type "frame", dict := none, slots := #[some (.ref 13), some (.ref 3), some (.ref 3), none, some (.str (Str.ofString "__main__") 164), none, some (.ref 0)] }
noncomputable def o1342 (P : Params) : Obj := ⟨.none, none, .fields #[], #[]⟩
noncomputable def o1344 (P : Params) : Obj := ⟨.type "code", none, .fields #[.str (Str.ofString "law") 2157, .str (Str.ofString "law") 2158, .str (Str.ofString "/claim/cut.py") 2159, .int 1426 0, .int 1 0, .int 0 0, .int 0 0, .int 3 0, .ref 1341, .bool true, .int 181 0, .ref 1342, .none, .none, .none, .ref 1343, .int 2160 0, .int 1426 0, .str (Str.ofString "/claim/cut.py") 2161], #[]⟩
noncomputable def o1345 (P : Params) : Obj := fnO (bodyAt 172) (Str.ofString "law") .none .none .none (.str (Str.ofString "law_nn0348_01") 2059) (.ref 1344) .none
noncomputable def kn (P : Params) (g : TopAt) (i : Nat) : Option Obj := (match Nat.blt i 905 with | true => (match Nat.blt i 369 with | true => (match Nat.blt i 172 with | true => (match Nat.blt i 115 with | true => (match Nat.blt i 81 with | true => (match Nat.blt i 74 with | true => (match Nat.blt i 73 with | true => (match Nat.beq i 72 with | true => some (o72 P) | false => .none) | false => (match Nat.beq i 73 with | true => some (o73 P) | false => .none)) | false => (match Nat.blt i 80 with | true => (match Nat.beq i 74 with | true => some (o74 P) | false => .none) | false => (match Nat.beq i 80 with | true => some (o80 P) | false => .none))) | false => (match Nat.blt i 95 with | true => (match Nat.blt i 94 with | true => (match Nat.beq i 81 with | true => some (o81 P) | false => .none) | false => (match Nat.beq i 94 with | true => some (o94 P) | false => .none)) | false => (match Nat.blt i 108 with | true => (match Nat.beq i 95 with | true => some (o95 P) | false => .none) | false => (match Nat.blt i 109 with | true => (match Nat.beq i 108 with | true => some (o108 P) | false => .none) | false => (match Nat.beq i 109 with | true => some (o109 P) | false => .none))))) | false => (match Nat.blt i 129 with | true => (match Nat.blt i 122 with | true => (match Nat.blt i 116 with | true => (match Nat.beq i 115 with | true => some (o115 P) | false => .none) | false => (match Nat.beq i 116 with | true => some (o116 P) | false => .none)) | false => (match Nat.blt i 123 with | true => (match Nat.beq i 122 with | true => some (o122 P) | false => .none) | false => (match Nat.beq i 123 with | true => some (o123 P) | false => .none))) | false => (match Nat.blt i 157 with | true => (match Nat.blt i 130 with | true => (match Nat.beq i 129 with | true => some (o129 P) | false => .none) | false => (match Nat.beq i 130 with | true => some (o130 P) | false => .none)) | false => (match Nat.blt i 158 with | true => (match Nat.beq i 157 with | true => some (o157 P) | false => .none) | false => (match Nat.blt i 171 with | true => (match Nat.beq i 158 with | true => some (o158 P) | false => .none) | false => (match Nat.beq i 171 with | true => some (o171 P) | false => .none)))))) | false => (match Nat.blt i 253 with | true => (match Nat.blt i 210 with | true => (match Nat.blt i 186 with | true => (match Nat.blt i 185 with | true => (match Nat.beq i 172 with | true => some (o172 P) | false => .none) | false => (match Nat.beq i 185 with | true => some (o185 P) | false => .none)) | false => (match Nat.blt i 209 with | true => (match Nat.beq i 186 with | true => some (o186 P) | false => .none) | false => (match Nat.beq i 209 with | true => some (o209 P) | false => .none))) | false => (match Nat.blt i 228 with | true => (match Nat.blt i 222 with | true => (match Nat.beq i 210 with | true => some (o210 P) | false => .none) | false => (match Nat.beq i 222 with | true => some (o222 P) | false => .none)) | false => (match Nat.blt i 229 with | true => (match Nat.beq i 228 with | true => some (o228 P) | false => .none) | false => (match Nat.blt i 252 with | true => (match Nat.beq i 229 with | true => some (o229 P) | false => .none) | false => (match Nat.beq i 252 with | true => some (o252 P) | false => .none))))) | false => (match Nat.blt i 354 with | true => (match Nat.blt i 264 with | true => (match Nat.blt i 263 with | true => (match Nat.beq i 253 with | true => some ((match g.c253 with | true => o253 P | false => { o253 P with data := match (o253 P).data with | .cls c => .cls { c with subclasses := [] } | d => d })) | false => .none) | false => (match Nat.beq i 263 with | true => some (o263 P) | false => .none)) | false => (match Nat.blt i 347 with | true => (match Nat.beq i 264 with | true => some (o264 P) | false => .none) | false => (match Nat.blt i 348 with | true => (match Nat.beq i 347 with | true => some (o347 P) | false => .none) | false => (match Nat.beq i 348 with | true => some (o348 P) | false => .none)))) | false => (match Nat.blt i 361 with | true => (match Nat.blt i 355 with | true => (match Nat.beq i 354 with | true => some (o354 P) | false => .none) | false => (match Nat.beq i 355 with | true => some (o355 P) | false => .none)) | false => (match Nat.blt i 362 with | true => (match Nat.beq i 361 with | true => some (o361 P) | false => .none) | false => (match Nat.blt i 368 with | true => (match Nat.beq i 362 with | true => some (o362 P) | false => .none) | false => (match Nat.beq i 368 with | true => some (o368 P) | false => .none))))))) | false => (match Nat.blt i 605 with | true => (match Nat.blt i 494 with | true => (match Nat.blt i 383 with | true => (match Nat.blt i 376 with | true => (match Nat.blt i 375 with | true => (match Nat.beq i 369 with | true => some (o369 P) | false => .none) | false => (match Nat.beq i 375 with | true => some (o375 P) | false => .none)) | false => (match Nat.blt i 382 with | true => (match Nat.beq i 376 with | true => some (o376 P) | false => .none) | false => (match Nat.beq i 382 with | true => some (o382 P) | false => .none))) | false => (match Nat.blt i 390 with | true => (match Nat.blt i 389 with | true => (match Nat.beq i 383 with | true => some (o383 P) | false => .none) | false => (match Nat.beq i 389 with | true => some (o389 P) | false => .none)) | false => (match Nat.blt i 487 with | true => (match Nat.beq i 390 with | true => some (o390 P) | false => .none) | false => (match Nat.blt i 488 with | true => (match Nat.beq i 487 with | true => some (o487 P) | false => .none) | false => (match Nat.beq i 488 with | true => some (o488 P) | false => .none))))) | false => (match Nat.blt i 543 with | true => (match Nat.blt i 536 with | true => (match Nat.blt i 495 with | true => (match Nat.beq i 494 with | true => some (o494 P) | false => .none) | false => (match Nat.beq i 495 with | true => some (o495 P) | false => .none)) | false => (match Nat.blt i 537 with | true => (match Nat.beq i 536 with | true => some (o536 P) | false => .none) | false => (match Nat.beq i 537 with | true => some (o537 P) | false => .none))) | false => (match Nat.blt i 557 with | true => (match Nat.blt i 544 with | true => (match Nat.beq i 543 with | true => some (o543 P) | false => .none) | false => (match Nat.beq i 544 with | true => some (o544 P) | false => .none)) | false => (match Nat.blt i 558 with | true => (match Nat.beq i 557 with | true => some (o557 P) | false => .none) | false => (match Nat.blt i 604 with | true => (match Nat.beq i 558 with | true => some (o558 P) | false => .none) | false => (match Nat.beq i 604 with | true => some (o604 P) | false => .none)))))) | false => (match Nat.blt i 842 with | true => (match Nat.blt i 822 with | true => (match Nat.blt i 735 with | true => (match Nat.blt i 734 with | true => (match Nat.beq i 605 with | true => some (o605 P) | false => .none) | false => (match Nat.beq i 734 with | true => some (o734 P) | false => .none)) | false => (match Nat.blt i 821 with | true => (match Nat.beq i 735 with | true => some (o735 P) | false => .none) | false => (match Nat.beq i 821 with | true => some (o821 P) | false => .none))) | false => (match Nat.blt i 829 with | true => (match Nat.blt i 828 with | true => (match Nat.beq i 822 with | true => some (o822 P) | false => .none) | false => (match Nat.beq i 828 with | true => some (o828 P) | false => .none)) | false => (match Nat.blt i 835 with | true => (match Nat.beq i 829 with | true => some (o829 P) | false => .none) | false => (match Nat.blt i 836 with | true => (match Nat.beq i 835 with | true => some (o835 P) | false => .none) | false => (match Nat.beq i 836 with | true => some (o836 P) | false => .none))))) | false => (match Nat.blt i 857 with | true => (match Nat.blt i 849 with | true => (match Nat.blt i 843 with | true => (match Nat.beq i 842 with | true => some (o842 P) | false => .none) | false => (match Nat.beq i 843 with | true => some (o843 P) | false => .none)) | false => (match Nat.blt i 850 with | true => (match Nat.beq i 849 with | true => some (o849 P) | false => .none) | false => (match Nat.blt i 856 with | true => (match Nat.beq i 850 with | true => some (o850 P) | false => .none) | false => (match Nat.beq i 856 with | true => some (o856 P) | false => .none)))) | false => (match Nat.blt i 892 with | true => (match Nat.blt i 891 with | true => (match Nat.beq i 857 with | true => some (o857 P) | false => .none) | false => (match Nat.beq i 891 with | true => some (o891 P) | false => .none)) | false => (match Nat.blt i 898 with | true => (match Nat.beq i 892 with | true => some (o892 P) | false => .none) | false => (match Nat.blt i 899 with | true => (match Nat.beq i 898 with | true => some (o898 P) | false => .none) | false => (match Nat.beq i 899 with | true => some (o899 P) | false => .none)))))))) | false => (match Nat.blt i 1137 with | true => (match Nat.blt i 1066 with | true => (match Nat.blt i 969 with | true => (match Nat.blt i 933 with | true => (match Nat.blt i 912 with | true => (match Nat.blt i 906 with | true => (match Nat.beq i 905 with | true => some (o905 P) | false => .none) | false => (match Nat.beq i 906 with | true => some (o906 P) | false => .none)) | false => (match Nat.blt i 913 with | true => (match Nat.beq i 912 with | true => some (o912 P) | false => .none) | false => (match Nat.beq i 913 with | true => some (o913 P) | false => .none))) | false => (match Nat.blt i 961 with | true => (match Nat.blt i 934 with | true => (match Nat.beq i 933 with | true => some (o933 P) | false => .none) | false => (match Nat.beq i 934 with | true => some (o934 P) | false => .none)) | false => (match Nat.blt i 962 with | true => (match Nat.beq i 961 with | true => some (o961 P) | false => .none) | false => (match Nat.blt i 968 with | true => (match Nat.beq i 962 with | true => some (o962 P) | false => .none) | false => (match Nat.beq i 968 with | true => some (o968 P) | false => .none))))) | false => (match Nat.blt i 1039 with | true => (match Nat.blt i 1032 with | true => (match Nat.blt i 1031 with | true => (match Nat.beq i 969 with | true => some (o969 P) | false => .none) | false => (match Nat.beq i 1031 with | true => some (o1031 P) | false => .none)) | false => (match Nat.blt i 1038 with | true => (match Nat.beq i 1032 with | true => some (o1032 P) | false => .none) | false => (match Nat.beq i 1038 with | true => some (o1038 P) | false => .none))) | false => (match Nat.blt i 1053 with | true => (match Nat.blt i 1052 with | true => (match Nat.beq i 1039 with | true => some (o1039 P) | false => .none) | false => (match Nat.beq i 1052 with | true => some (o1052 P) | false => .none)) | false => (match Nat.blt i 1059 with | true => (match Nat.beq i 1053 with | true => some (o1053 P) | false => .none) | false => (match Nat.blt i 1060 with | true => (match Nat.beq i 1059 with | true => some (o1059 P) | false => .none) | false => (match Nat.beq i 1060 with | true => some (o1060 P) | false => .none)))))) | false => (match Nat.blt i 1102 with | true => (match Nat.blt i 1087 with | true => (match Nat.blt i 1080 with | true => (match Nat.blt i 1067 with | true => (match Nat.beq i 1066 with | true => some (o1066 P) | false => .none) | false => (match Nat.beq i 1067 with | true => some (o1067 P) | false => .none)) | false => (match Nat.blt i 1081 with | true => (match Nat.beq i 1080 with | true => some (o1080 P) | false => .none) | false => (match Nat.beq i 1081 with | true => some (o1081 P) | false => .none))) | false => (match Nat.blt i 1094 with | true => (match Nat.blt i 1088 with | true => (match Nat.beq i 1087 with | true => some (o1087 P) | false => .none) | false => (match Nat.beq i 1088 with | true => some (o1088 P) | false => .none)) | false => (match Nat.blt i 1095 with | true => (match Nat.beq i 1094 with | true => some (o1094 P) | false => .none) | false => (match Nat.blt i 1101 with | true => (match Nat.beq i 1095 with | true => some (o1095 P) | false => .none) | false => (match Nat.beq i 1101 with | true => some (o1101 P) | false => .none))))) | false => (match Nat.blt i 1122 with | true => (match Nat.blt i 1109 with | true => (match Nat.blt i 1108 with | true => (match Nat.beq i 1102 with | true => some (o1102 P) | false => .none) | false => (match Nat.beq i 1108 with | true => some (o1108 P) | false => .none)) | false => (match Nat.blt i 1115 with | true => (match Nat.beq i 1109 with | true => some (o1109 P) | false => .none) | false => (match Nat.blt i 1116 with | true => (match Nat.beq i 1115 with | true => some (o1115 P) | false => .none) | false => (match Nat.beq i 1116 with | true => some (o1116 P) | false => .none)))) | false => (match Nat.blt i 1129 with | true => (match Nat.blt i 1123 with | true => (match Nat.beq i 1122 with | true => some (o1122 P) | false => .none) | false => (match Nat.beq i 1123 with | true => some (o1123 P) | false => .none)) | false => (match Nat.blt i 1130 with | true => (match Nat.beq i 1129 with | true => some (o1129 P) | false => .none) | false => (match Nat.blt i 1136 with | true => (match Nat.beq i 1130 with | true => some (o1130 P) | false => .none) | false => (match Nat.beq i 1136 with | true => some (o1136 P) | false => .none))))))) | false => (match Nat.blt i 1292 with | true => (match Nat.blt i 1204 with | true => (match Nat.blt i 1158 with | true => (match Nat.blt i 1144 with | true => (match Nat.blt i 1138 with | true => (match Nat.beq i 1137 with | true => some (o1137 P) | false => .none) | false => (match Nat.beq i 1138 with | true => some (o1138 P) | false => .none)) | false => (match Nat.blt i 1145 with | true => (match Nat.beq i 1144 with | true => some (o1144 P) | false => .none) | false => (match Nat.beq i 1145 with | true => some (o1145 P) | false => .none))) | false => (match Nat.blt i 1172 with | true => (match Nat.blt i 1159 with | true => (match Nat.beq i 1158 with | true => some (o1158 P) | false => .none) | false => (match Nat.beq i 1159 with | true => some (o1159 P) | false => .none)) | false => (match Nat.blt i 1173 with | true => (match Nat.beq i 1172 with | true => some (o1172 P) | false => .none) | false => (match Nat.blt i 1203 with | true => (match Nat.beq i 1173 with | true => some (o1173 P) | false => .none) | false => (match Nat.beq i 1203 with | true => some (o1203 P) | false => .none))))) | false => (match Nat.blt i 1249 with | true => (match Nat.blt i 1222 with | true => (match Nat.blt i 1221 with | true => (match Nat.beq i 1204 with | true => some (o1204 P) | false => .none) | false => (match Nat.beq i 1221 with | true => some (o1221 P) | false => .none)) | false => (match Nat.blt i 1235 with | true => (match Nat.beq i 1222 with | true => some (o1222 P) | false => .none) | false => (match Nat.blt i 1236 with | true => (match Nat.beq i 1235 with | true => some (o1235 P) | false => .none) | false => (match Nat.beq i 1236 with | true => some (o1236 P) | false => .none)))) | false => (match Nat.blt i 1280 with | true => (match Nat.blt i 1250 with | true => (match Nat.beq i 1249 with | true => some (o1249 P) | false => .none) | false => (match Nat.beq i 1250 with | true => some (o1250 P) | false => .none)) | false => (match Nat.blt i 1281 with | true => (match Nat.beq i 1280 with | true => some (o1280 P) | false => .none) | false => (match Nat.blt i 1291 with | true => (match Nat.beq i 1281 with | true => some (o1281 P) | false => .none) | false => (match Nat.beq i 1291 with | true => some (o1291 P) | false => .none)))))) | false => (match Nat.blt i 1321 with | true => (match Nat.blt i 1306 with | true => (match Nat.blt i 1299 with | true => (match Nat.blt i 1298 with | true => (match Nat.beq i 1292 with | true => some (o1292 P) | false => .none) | false => (match Nat.beq i 1298 with | true => some (o1298 P) | false => .none)) | false => (match Nat.blt i 1305 with | true => (match Nat.beq i 1299 with | true => some (o1299 P) | false => .none) | false => (match Nat.beq i 1305 with | true => some (o1305 P) | false => .none))) | false => (match Nat.blt i 1313 with | true => (match Nat.blt i 1307 with | true => (match Nat.beq i 1306 with | true => some (o1306 P) | false => .none) | false => (match Nat.beq i 1307 with | true => some (o1307 P) | false => .none)) | false => (match Nat.blt i 1314 with | true => (match Nat.beq i 1313 with | true => some (o1313 P) | false => .none) | false => (match Nat.blt i 1320 with | true => (match Nat.beq i 1314 with | true => some (o1314 P) | false => .none) | false => (match Nat.beq i 1320 with | true => some (o1320 P) | false => .none))))) | false => (match Nat.blt i 1339 with | true => (match Nat.blt i 1328 with | true => (match Nat.blt i 1327 with | true => (match Nat.beq i 1321 with | true => some (o1321 P) | false => .none) | false => (match Nat.beq i 1327 with | true => some (o1327 P) | false => .none)) | false => (match Nat.blt i 1332 with | true => (match Nat.beq i 1328 with | true => some (o1328 P) | false => .none) | false => (match Nat.blt i 1333 with | true => (match Nat.beq i 1332 with | true => some (o1332 P) | false => .none) | false => (match Nat.beq i 1333 with | true => some (o1333 P) | false => .none)))) | false => (match Nat.blt i 1342 with | true => (match Nat.blt i 1340 with | true => (match Nat.beq i 1339 with | true => some (o1339 P) | false => .none) | false => (match Nat.beq i 1340 with | true => some (o1340 P) | false => .none)) | false => (match Nat.blt i 1344 with | true => (match Nat.beq i 1342 with | true => some (o1342 P) | false => .none) | false => (match Nat.blt i 1345 with | true => (match Nat.beq i 1344 with | true => some (o1344 P) | false => .none) | false => (match Nat.beq i 1345 with | true => some (o1345 P) | false => .none)))))))))
noncomputable def leafO (P : Params) (g : TopAt) (f : Nat → Obj) (i : Nat) : Obj := match Nat.blt i 15 with
  | true => lowO P g i
  | false => match kn P g i with | some o => o | .none => f i
noncomputable def mkT (P : Params) (g : TopAt) (f : Nat → Obj) : Nat → Nat → Nat → BT
  | 0, _, _ => .nil
  | m + 1, a, b => match Nat.blt b g.n with
    | true => .node (leafO P g f b) (mkT P g f m (2 * a) (a + b)) (mkT P g f m (2 * a) (2 * a + b))
    | false => .nil
noncomputable def St3 (P : Params) (g : TopAt) (f : Nat → Obj) (os : OsState) : SharedT := ⟨mkT P g f 12 1 0, g.n, {}, #[], {}, g.toks, os⟩
noncomputable abbrev pwM : Program := PySem.Challenge.pw_nn0348_01
noncomputable def envM : Env := { scope := pwM.main.scope, locals := mainNs, globals := mainNs, cells := [], code := .ref 13, frame := some 14 }
noncomputable def codeM : Code := .body (behindTheImports pwM) envM
noncomputable def stsM (a n : Nat) : List Stmt := (pwM.main.body.drop a).take n
noncomputable def outT (r : Option (Flow × SharedT × Code × Pos)) (i : Nat) : Obj := match r with | some x => (x.2.1.tree.get i).getD default | .none => default
noncomputable def runM (w : World) (n : Nat) (s : SharedT) (a k : Nat) (q : Pos) : Option (Flow × SharedT × Code × Pos) := segRunT treeTable pwM w 11 (some (.ref 6)) 1 n s (piecesOf (stsM a k) envM codeM q [topFrame ⟨0, 0, 0, 0⟩])
noncomputable def PieceOK (g g' : TopAt) (n a k : Nat) (q q' : Pos) : Prop := ∀ (w : World) (os : OsState) (f : Nat → Obj), ∃ f', runM w n (St3 w.params g f os) a k q = some (.next, St3 w.params g' f' os, codeM, q')
noncomputable def gs0 : TopAt := ⟨15, 187, 9, Str.ofString "__main__", 164, false, 0, false, false⟩
noncomputable def gs6 : TopAt := ⟨67, 266, 13, Str.ofString "gateloom.vec", 264, false, 4, false, true⟩
noncomputable def gs18 : TopAt := ⟨152, 383, 25, Str.ofString "gateloom.vec", 264, false, 16, false, true⟩
noncomputable def gs22 : TopAt := ⟨173, 412, 28, Str.ofString "gateloom.store", 410, false, 19, false, true⟩
noncomputable def gs23 : TopAt := ⟨215, 478, 29, Str.ofString "gateloom.store", 410, false, 20, false, true⟩
noncomputable def gs27 : TopAt := ⟨272, 555, 32, Str.ofString "gateloom.vecarith", 537, false, 23, false, true⟩
noncomputable def gs39 : TopAt := ⟨356, 682, 44, Str.ofString "gateloom.vecarith", 537, false, 35, false, true⟩
noncomputable def gs52 : TopAt := ⟨440, 799, 56, Str.ofString "gateloom.vecops", 710, false, 47, false, true⟩
noncomputable def gs65 : TopAt := ⟨524, 904, 68, Str.ofString "gateloom.evaluate", 902, false, 59, false, true⟩
noncomputable def gs78 : TopAt := ⟨606, 1017, 81, Str.ofString "gateloom.evaluate", 902, false, 71, false, true⟩
noncomputable def gs84 : TopAt := ⟨634, 1074, 86, Str.ofString "gateloom.funcs", 1070, false, 75, false, true⟩
noncomputable def gs85 : TopAt := ⟨680, 1141, 87, Str.ofString "gateloom.funcs", 1070, false, 76, true, true⟩
noncomputable def gs98 : TopAt := ⟨764, 1260, 99, Str.ofString "gateloom.walks", 1212, false, 88, true, true⟩
noncomputable def gs112 : TopAt := ⟨844, 1378, 112, Str.ofString "gateloom.elabparts", 1337, false, 100, true, true⟩
noncomputable def gs125 : TopAt := ⟨928, 1486, 124, Str.ofString "gateloom.elabexpr", 1473, false, 112, true, true⟩
noncomputable def gs137 : TopAt := ⟨1005, 1608, 135, Str.ofString "gateloom.elabexpr", 1473, true, 123, true, true⟩
noncomputable def gs149 : TopAt := ⟨1089, 1741, 147, Str.ofString "gateloom.elabexpr", 1473, true, 135, true, true⟩
noncomputable def gs160 : TopAt := ⟨1146, 1841, 156, Str.ofString "gateloom.design", 1839, true, 143, true, true⟩
noncomputable def gs161 : TopAt := ⟨1209, 1940, 157, Str.ofString "gateloom.design", 1839, true, 144, true, true⟩
noncomputable def gs162 : TopAt := ⟨1209, 1942, 157, Str.ofString "gateloom.scopes", 1940, true, 144, true, true⟩
noncomputable def gs163 : TopAt := ⟨1286, 2059, 158, Str.ofString "gateloom.scopes", 1940, true, 145, true, true⟩
noncomputable def gs173 : TopAt := ⟨1346, 2163, 167, Str.ofString "law_nn0348_01", 2059, true, 154, true, true⟩
end
section
set_option maxHeartbeats 0
theorem pc0 : PieceOK gs0 gs6 714 0 6 ⟨0, 0, 0, 0⟩ ⟨15, 0, 15, 8⟩ := fun w os f => ⟨outT (runM w 714 (St3 w.params gs0 f os) 0 6 ⟨0, 0, 0, 0⟩), by kernel_rfl⟩
theorem pc1 : PieceOK gs6 gs18 383 6 12 ⟨15, 0, 15, 8⟩ ⟨63, 0, 71, 20⟩ := fun w os f => ⟨outT (runM w 383 (St3 w.params gs6 f os) 6 12 ⟨15, 0, 15, 8⟩), by kernel_rfl⟩
theorem pc2 : PieceOK gs18 gs22 103 18 4 ⟨63, 0, 71, 20⟩ ⟨90, 0, 90, 8⟩ := fun w os f => ⟨outT (runM w 103 (St3 w.params gs18 f os) 18 4 ⟨63, 0, 71, 20⟩), by kernel_rfl⟩
theorem pc3 : PieceOK gs22 gs23 332 22 1 ⟨90, 0, 90, 8⟩ ⟨91, 0, 133, 19⟩ := fun w os f => ⟨outT (runM w 332 (St3 w.params gs22 f os) 22 1 ⟨90, 0, 90, 8⟩), by kernel_rfl⟩
theorem pc4 : PieceOK gs23 gs27 395 23 4 ⟨91, 0, 133, 19⟩ ⟨158, 0, 161, 38⟩ := fun w os f => ⟨outT (runM w 395 (St3 w.params gs23 f os) 23 4 ⟨91, 0, 133, 19⟩), by kernel_rfl⟩
theorem pc5 : PieceOK gs27 gs39 392 27 12 ⟨158, 0, 161, 38⟩ ⟨246, 0, 250, 39⟩ := fun w os f => ⟨outT (runM w 392 (St3 w.params gs27 f os) 27 12 ⟨158, 0, 161, 38⟩), by kernel_rfl⟩
theorem pc6 : PieceOK gs39 gs52 389 39 13 ⟨246, 0, 250, 39⟩ ⟨289, 0, 290, 28⟩ := fun w os f => ⟨outT (runM w 389 (St3 w.params gs39 f os) 39 13 ⟨246, 0, 250, 39⟩), by kernel_rfl⟩
theorem pc7 : PieceOK gs52 gs65 377 52 13 ⟨289, 0, 290, 28⟩ ⟨339, 0, 339, 8⟩ := fun w os f => ⟨outT (runM w 377 (St3 w.params gs52 f os) 52 13 ⟨289, 0, 290, 28⟩), by kernel_rfl⟩
theorem pc8 : PieceOK gs65 gs78 385 65 13 ⟨339, 0, 339, 8⟩ ⟨462, 0, 492, 52⟩ := fun w os f => ⟨outT (runM w 385 (St3 w.params gs65 f os) 65 13 ⟨339, 0, 339, 8⟩), by kernel_rfl⟩
theorem pc9 : PieceOK gs78 gs84 160 78 6 ⟨462, 0, 492, 52⟩ ⟨534, 0, 534, 11⟩ := fun w os f => ⟨outT (runM w 160 (St3 w.params gs78 f os) 78 6 ⟨462, 0, 492, 52⟩), by kernel_rfl⟩
theorem pc10 : PieceOK gs84 gs85 383 84 1 ⟨534, 0, 534, 11⟩ ⟨535, 0, 577, 44⟩ := fun w os f => ⟨outT (runM w 383 (St3 w.params gs84 f os) 84 1 ⟨534, 0, 534, 11⟩), by kernel_rfl⟩
theorem pc11 : PieceOK gs85 gs98 391 85 13 ⟨535, 0, 577, 44⟩ ⟨693, 0, 700, 16⟩ := fun w os f => ⟨outT (runM w 391 (St3 w.params gs85 f os) 85 13 ⟨535, 0, 577, 44⟩), by kernel_rfl⟩
theorem pc12 : PieceOK gs98 gs112 393 98 14 ⟨693, 0, 700, 16⟩ ⟨812, 0, 822, 46⟩ := fun w os f => ⟨outT (runM w 393 (St3 w.params gs98 f os) 98 14 ⟨693, 0, 700, 16⟩), by kernel_rfl⟩
theorem pc13 : PieceOK gs112 gs125 380 112 13 ⟨812, 0, 822, 46⟩ ⟨881, 0, 887, 16⟩ := fun w os f => ⟨outT (runM w 380 (St3 w.params gs112 f os) 112 13 ⟨812, 0, 822, 46⟩), by kernel_rfl⟩
theorem pc14 : PieceOK gs125 gs137 374 125 12 ⟨881, 0, 887, 16⟩ ⟨1012, 0, 1021, 16⟩ := fun w os f => ⟨outT (runM w 374 (St3 w.params gs125 f os) 125 12 ⟨881, 0, 887, 16⟩), by kernel_rfl⟩
theorem pc15 : PieceOK gs137 gs149 398 137 12 ⟨1012, 0, 1021, 16⟩ ⟨1136, 0, 1138, 53⟩ := fun w os f => ⟨outT (runM w 398 (St3 w.params gs137 f os) 137 12 ⟨1012, 0, 1021, 16⟩), by kernel_rfl⟩
theorem pc16 : PieceOK gs149 gs160 299 149 11 ⟨1136, 0, 1138, 53⟩ ⟨1221, 0, 1221, 8⟩ := fun w os f => ⟨outT (runM w 299 (St3 w.params gs149 f os) 149 11 ⟨1136, 0, 1138, 53⟩), by kernel_rfl⟩
theorem pc17 : PieceOK gs160 gs161 437 160 1 ⟨1221, 0, 1221, 8⟩ ⟨1222, 0, 1259, 22⟩ := fun w os f => ⟨outT (runM w 437 (St3 w.params gs160 f os) 160 1 ⟨1221, 0, 1221, 8⟩), by kernel_rfl⟩
theorem pc18 : PieceOK gs161 gs162 10 161 1 ⟨1222, 0, 1259, 22⟩ ⟨1260, 0, 1260, 8⟩ := fun w os f => ⟨outT (runM w 10 (St3 w.params gs161 f os) 161 1 ⟨1222, 0, 1259, 22⟩), by kernel_rfl⟩
theorem pc19 : PieceOK gs162 gs163 503 162 1 ⟨1260, 0, 1260, 8⟩ ⟨1261, 0, 1335, 88⟩ := fun w os f => ⟨outT (runM w 503 (St3 w.params gs162 f os) 162 1 ⟨1260, 0, 1260, 8⟩), by kernel_rfl⟩
theorem pc20 : PieceOK gs163 gs173 307 163 10 ⟨1261, 0, 1335, 88⟩ ⟨1426, 0, 1447, 48⟩ := fun w os f => ⟨outT (runM w 307 (St3 w.params gs163 f os) 163 10 ⟨1261, 0, 1335, 88⟩), by kernel_rfl⟩
end
section
set_option maxHeartbeats 0
noncomputable def Go (a : Nat) (g : TopAt) (q : Pos) (N : Nat) : Prop := ∀ (w : World) (os : OsState) (f : Nat → Obj), ∃ f', topRun treeTable pwM w 11 (some (.ref 6)) N (St3 w.params g f os).abs (restOf (pwM.main.body.drop a) envM codeM q [topFrame ⟨0, 0, 0, 0⟩]) = some (St3 w.params gs173 f' os).abs
theorem Go.step {g g' : TopAt} {n a k N : Nat} {q q' : Pos} (h : PieceOK g g' n a k q q') (r : Go (a + k) g' q' N) : Go a g q (n + N) := by
  intro w os f
  obtain ⟨f1, h1⟩ := h w os f
  obtain ⟨f2, h2⟩ := r w os f1
  refine ⟨f2, ?_⟩
  have e : pwM.main.body.drop a = stsM a k ++ pwM.main.body.drop (a + k) := by
    unfold stsM
    rw [← List.drop_drop, List.take_append_drop]
  rw [e]
  exact piece_app (segRun_of h1) h2
theorem go_end (q : Pos) : Go 173 gs173 q 2 := fun w os f => ⟨f, by kernel_rfl⟩
end
section
set_option maxHeartbeats 0
noncomputable abbrev f0M : Nat → Obj := fun _ => default
noncomputable abbrev p0M : Pos := ⟨0, 0, 0, 0⟩
theorem preM (w : World) (os : OsState) : topGo treeTable pwM w 11 (some (.ref 6)) 12 ⟨boot_heap w.params, Array.mk [], boot_drawn, boot_toks, os⟩ (topStub pwM) = some ((St3 w.params gs0 f0M os).abs, ⟨denote treeTable codeM, codeM, p0M, [topFrame p0M]⟩) := by kernel_rfl
theorem blockM (w : World) (os : OsState) : segRun treeTable pwM w 11 (some (.ref 6)) 1 1 (St3 w.params gs0 f0M os).abs (blockOf (behindTheImports pwM) envM codeM p0M [topFrame p0M]) = some (.next, (St3 w.params gs0 f0M os).abs, codeM, p0M) := by kernel_rfl
theorem bodyM : behindTheImports pwM = pwM.main.body.drop 0 := by kernel_rfl
theorem topM {N : Nat} (h : Go 0 gs0 p0M N) (w : World) (os : OsState) : ∃ f, topRun treeTable pwM w 11 (some (.ref 6)) (12 + (1 + N)) ⟨boot_heap w.params, Array.mk [], boot_drawn, boot_toks, os⟩ (topStub pwM) = some (St3 w.params gs173 f os).abs := by
  obtain ⟨f, hf⟩ := h w os f0M
  refine ⟨f, go_top (preM w os) (piece_block (blockM w os) ?_)⟩
  rw [bodyM]
  exact hf
theorem size1 (w : World) : ((boot_heap w.params).isNs mainGlobals && (Array.mk ([] : List GenState)).size == 0, (boot_heap w.params).objs.size, (boot_heap w.params).nsMap mainGlobals "__annotations__") = (true, 11, some (.ref 6)) := by kernel_rfl
end
section
set_option maxHeartbeats 0
theorem look1 (P : Params) (os : OsState) (f : Nat → Obj) : staticsOk (importedModules pwM.main.body) (boot_heap P) (St3 P gs173 f os).abs.heap = true := by kernel_rfl
theorem look2 (P : Params) (os : OsState) (f : Nat → Obj) : namesBound pwM (St3 P gs173 f os).abs.heap = true := by kernel_rfl
theorem look3 (P : Params) (os : OsState) (f : Nat → Obj) : gensDone (St3 P gs173 f os).abs = true := by kernel_rfl
theorem look4 (P : Params) (os : OsState) (f : Nat → Obj) : laidKept (boot_heap P) (St3 P gs173 f os).abs.heap = true := by kernel_rfl
theorem look6 (P : Params) (os : OsState) (f : Nat → Obj) : asM.map (St3 P gs173 f os).abs.heap.get? = (KM P).map fun p => some p.2 := by kernel_rfl
end
section
set_option maxHeartbeats 0
section
variable (P : Params) (os : OsState) (f : Nat → Obj)
noncomputable abbrev sF := (St3 P gs173 f os).abs
theorem l1 : seen ((recsOf qM).map (·.name)) (ownsOf qM) [] { (sF P os f) with gens := #[] } = expectedOf qM := by kernel_rfl
theorem l2 : (sF P os f).heap.bltView = bltViewBooted := by kernel_rfl
theorem l3 : (sF P os f).heap.keysOk (looseW qM looseM) ((recsOf qM).map (·.name)) ((litsOf qM).map (·.1)) ((clssOf qM (looseW qM looseM)).map (·.name)) = true := by kernel_rfl
theorem l4 : (sF P os f).heap.accountedOkI (importedModules pwM.main.body) = true := by kernel_rfl
theorem l5 : (sF P os f).heap.isNs mainGlobals = true := by kernel_rfl
theorem l6 : (sF P os f).heap.isNs builtinsNs = true := by kernel_rfl
theorem l7 : tablesOk qM (sF P os f).heap = true := by kernel_rfl
theorem l8 : tabsOk qM (sF P os f) = true := by kernel_rfl
theorem l9 : pinSeenD qM (drecsOf qM) (sF P os f) = pinGoodD (drecsOf qM) := by kernel_rfl
theorem l10 : plainSeenE qM (looseW qM looseM) (sF P os f) = plainGoodE qM (looseW qM looseM) := by kernel_rfl
theorem l11 : plainSeenD qM looseM (sF P os f) = plainGoodD qM looseM := by kernel_rfl
theorem l12 : wideSeen qM (sF P os f) = wideGood qM := by kernel_rfl
theorem l13 : clsSeenW qM looseM (sF P os f) = clsGoodW qM looseM := by kernel_rfl
theorem looksB : openSeen qM looseM (importedModules pwM.main.body) (fun _ => true) true (sF P os f) = openGood qM looseM := by
  unfold openSeen openGood
  rw [l1 P os f, l2 P os f, l3 P os f, l4 P os f, l5 P os f, l6 P os f, l7 P os f, l8 P os f, l9 P os f, l10 P os f, l11 P os f, l12 P os f, l13 P os f]
  rfl
theorem looksA : (staticsOk (importedModules pwM.main.body) (boot_heap P) (sF P os f).heap && namesBound pwM (sF P os f).heap && gensDone (sF P os f) && laidKept (boot_heap P) (sF P os f).heap) = true := by
  rw [look1 P os f, look2 P os f, look3 P os f, look4 P os f]; rfl
end
end
section
/-- the head's look, from a run whose end is told by what it satisfies -/
theorem left_of {p q : Program} {loose : List Str} {Xt : Shared → Bool} {α : Type} {Yf : Shared → α} {Ya : World → α} {N : Nat} {H₀ : Params → Heap} {gs₀ : Array GenState} {d₀ : Drawn} {k₀ m₀ : Nat} {ann : Option Value} {S : World → OsState → Shared → Prop}
    (opn : ∀ w : World, (fencedOpening treeTable p w N).map (fun s => (s.heap, s.gens, s.drawn, s.toks)) = some (H₀ w.params, gs₀, d₀, k₀))
    (size : ∀ w : World, ((H₀ w.params).isNs mainGlobals && gs₀.size == 0, (H₀ w.params).objs.size, (H₀ w.params).nsMap mainGlobals "__annotations__") = (true, m₀, ann))
    (run : ∀ (w : World) (os : OsState), ∃ s, S w os s ∧ topRun treeTable p w m₀ ann N ⟨H₀ w.params, gs₀, d₀, k₀, os⟩ (topStub p) = some s)
    (looksA : ∀ w os s, S w os s → (staticsOk (importedModules p.main.body) (H₀ w.params) s.heap && namesBound p s.heap && gensDone s && laidKept (H₀ w.params) s.heap) = true)
    (looksB : ∀ w os s, S w os s → openSeen q loose (importedModules p.main.body) Xt true s = openGood q loose)
    (looksC : ∀ w os s, S w os s → Yf s = Ya w) : LeftO p q loose Xt Yf Ya N := fun w => by
  obtain ⟨⟨h, gs, d, k, os⟩, e, e'⟩ := Option.map_eq_some_iff.mp (opn w)
  obtain ⟨rfl, rfl, rfl, rfl⟩ : h = H₀ w.params ∧ gs = gs₀ ∧ d = d₀ ∧ k = k₀ := by simpa using e'
  obtain ⟨z1, z2, z3⟩ : _ ∧ _ ∧ _ := by simpa only [Prod.mk.injEq] using size w
  obtain ⟨s, hs, r⟩ := run w os
  have l1 := looksA w os s hs
  have t : topFrom treeTable p w N ⟨H₀ w.params, gs, d, k, os⟩ = some s := by
    unfold topFrom
    dsimp only
    rw [z1, z2, z3, r]
    show (match staticsOk (importedModules p.main.body) (H₀ w.params) s.heap && namesBound p s.heap && gensDone s && laidKept (H₀ w.params) s.heap with | true => _ | false => _) = _
    rw [l1]
  unfold openEnds
  rw [e]
  show (topFrom treeTable p w N _).map _ = _
  rw [t]
  exact congrArg some (Prod.ext (looksB w os s hs) (looksC w os s hs))
end
section
set_option maxHeartbeats 0
theorem goAll : Go 0 gs0 p0M (714 + (383 + (103 + (332 + (395 + (392 + (389 + (377 + (385 + (160 + (383 + (391 + (393 + (380 + (374 + (398 + (299 + (437 + (10 + (503 + (307 + 2))))))))))))))))))))) := (Go.step pc0 (Go.step pc1 (Go.step pc2 (Go.step pc3 (Go.step pc4 (Go.step pc5 (Go.step pc6 (Go.step pc7 (Go.step pc8 (Go.step pc9 (Go.step pc10 (Go.step pc11 (Go.step pc12 (Go.step pc13 (Go.step pc14 (Go.step pc15 (Go.step pc16 (Go.step pc17 (Go.step pc18 (Go.step pc19 (Go.step pc20 (go_end _))))))))))))))))))))))
noncomputable abbrev NM : Nat := 12 + (1 + (714 + (383 + (103 + (332 + (395 + (392 + (389 + (377 + (385 + (160 + (383 + (391 + (393 + (380 + (374 + (398 + (299 + (437 + (10 + (503 + (307 + 2))))))))))))))))))))))
theorem opensM : opening pwM = plainProg pwM.main.scope.names := by kernel_rfl
theorem fenceM (s : Shared) : fenceModules? pwM s = some s := by kernel_rfl
theorem nmM : Nat.ble 600 NM = true := by kernel_rfl
noncomputable def SM (w : World) (os : OsState) (s : Shared) : Prop := ∃ f, s = sF w.params os f
theorem runM2 (w : World) (os : OsState) : ∃ s, SM w os s ∧ topRun treeTable pwM w 11 (some (.ref 6)) NM ⟨boot_heap w.params, Array.mk [], boot_drawn, boot_toks, os⟩ (topStub pwM) = some s := by
  obtain ⟨f, r⟩ := topM goAll w os
  exact ⟨_, ⟨f, rfl⟩, r⟩
theorem seesA (w : World) (os : OsState) (s : Shared) (h : SM w os s) : (staticsOk (importedModules pwM.main.body) (boot_heap w.params) s.heap && namesBound pwM s.heap && gensDone s && laidKept (boot_heap w.params) s.heap) = true := by
  obtain ⟨f, rfl⟩ := h; exact looksA w.params os f
theorem seesB (w : World) (os : OsState) (s : Shared) (h : SM w os s) : openSeen qM looseM (importedModules pwM.main.body) (fun _ => true) true s = openGood qM looseM := by
  obtain ⟨f, rfl⟩ := h; exact looksB w.params os f
theorem seesC (w : World) (os : OsState) (s : Shared) (h : SM w os s) : asM.map s.heap.get? = (KM w.params).map fun p => some p.2 := by
  obtain ⟨f, rfl⟩ := h; exact look6 w.params os f
theorem leftM : LeftO pwM qM looseM (fun _ => true) (fun s => asM.map s.heap.get?) (fun w => (KM w.params).map fun p => some p.2) NM :=
  left_of (S := SM) (boot_open opensM nmM fenceM) size1 runM2 seesA seesB seesC
end
section
open PySem PySem.W PyProof.Rows PySem.Calls PySem.Spec PySem.TablesWhole
set_option maxHeartbeats 0
theorem wss_app {fr : Scope} {cx : TablesWhole.Ctx} {sc : Scope} {l r : List Stmt} (h1 : wSs holds fr cx sc l = true) (h : wSs holds fr cx sc r = true) : wSs holds fr cx sc (l ++ r) = true := by
  induction l with
  | nil => exact h
  | cons s l ih =>
    have h1' : (wS holds fr cx sc s && wSs holds fr cx sc l) = true := h1
    obtain ⟨a, b⟩ := Bool.and_eq_true_iff.mp h1'
    show (wS holds fr cx sc s && wSs holds fr cx sc (l ++ r)) = true
    rw [a, ih b]; rfl
theorem wsg_app {fr : Scope} {cx : TablesWhole.Ctx} {sc : Scope} {l r : List Stmt} (h1 : wSs gather fr cx sc l = []) (h : wSs gather fr cx sc r = []) : wSs gather fr cx sc (l ++ r) = [] := by
  induction l with
  | nil => exact h
  | cons s l ih =>
    have h1' : wS gather fr cx sc s ++ wSs gather fr cx sc l = [] := h1
    obtain ⟨a, b⟩ := List.append_eq_nil_iff.mp h1'
    show wS gather fr cx sc s ++ wSs gather fr cx sc (l ++ r) = []
    rw [a, ih b]; rfl
noncomputable abbrev mdM : Module := PySem.Challenge.pw_nn0348_01.main
noncomputable def partM (a n : Nat) : List Stmt := (mdM.body.drop a).take n
noncomputable def cxM (told : List Str) : TablesWhole.Ctx := ⟨mdM.scope, [], told, [], none⟩
theorem gt0 : wSs gather mdM.scope (cxM []) mdM.scope (partM 0 40) = [] := by kernel_rfl
theorem gt1 : wSs gather mdM.scope (cxM []) mdM.scope (partM 40 40) = [] := by kernel_rfl
theorem gt2 : wSs gather mdM.scope (cxM []) mdM.scope (partM 80 40) = [] := by kernel_rfl
theorem gt3 : wSs gather mdM.scope (cxM []) mdM.scope (partM 120 30) = [] := by kernel_rfl
theorem gt4 : wSs gather mdM.scope (cxM []) mdM.scope (partM 150 30) = [] := by kernel_rfl
theorem wh0 : wSs holds mdM.scope (cxM []) mdM.scope (partM 0 40) = true := by kernel_rfl
theorem wh1 : wSs holds mdM.scope (cxM []) mdM.scope (partM 40 40) = true := by kernel_rfl
theorem wh2 : wSs holds mdM.scope (cxM []) mdM.scope (partM 80 40) = true := by kernel_rfl
theorem wh3 : wSs holds mdM.scope (cxM []) mdM.scope (partM 120 30) = true := by kernel_rfl
theorem wh4 : wSs holds mdM.scope (cxM []) mdM.scope (partM 150 30) = true := by kernel_rfl
theorem cutB (a n : Nat) : mdM.body.drop a = partM a n ++ mdM.body.drop (a + n) := by
  unfold partM
  rw [← List.drop_drop, List.take_append_drop]
theorem stepG (a n : Nat) (h1 : wSs gather mdM.scope (cxM []) mdM.scope (partM a n) = []) (h2 : wSs gather mdM.scope (cxM []) mdM.scope (mdM.body.drop (a + n)) = []) : wSs gather mdM.scope (cxM []) mdM.scope (mdM.body.drop a) = [] := by
  rw [cutB a n]; exact wsg_app h1 h2
theorem stepH (a n : Nat) (h1 : wSs holds mdM.scope (cxM []) mdM.scope (partM a n) = true) (h2 : wSs holds mdM.scope (cxM []) mdM.scope (mdM.body.drop (a + n)) = true) : wSs holds mdM.scope (cxM []) mdM.scope (mdM.body.drop a) = true := by
  rw [cutB a n]; exact wss_app h1 h2
theorem gtL : wSs gather mdM.scope (cxM []) mdM.scope (mdM.body.drop 180) = [] := by kernel_rfl
theorem whL : wSs holds mdM.scope (cxM []) mdM.scope (mdM.body.drop 180) = true := by kernel_rfl
theorem toldE : wSs gather mdM.scope (cxM []) mdM.scope mdM.body = [] := stepG 0 40 gt0 (stepG 40 40 gt1 (stepG 80 40 gt2 (stepG 120 30 gt3 (stepG 150 30 gt4 gtL))))
theorem holdE : wSs holds mdM.scope (cxM []) mdM.scope mdM.body = true := stepH 0 40 wh0 (stepH 40 40 wh1 (stepH 80 40 wh2 (stepH 120 30 wh3 (stepH 150 30 wh4 whL))))
theorem twiceM : noTwice mdM.scope = true := by kernel_rfl
theorem whole_of {m : Module} (h1 : wSs gather m.scope ⟨m.scope, [], [], [], none⟩ m.scope m.body = []) (h2 : wSs holds m.scope ⟨m.scope, [], [], [], none⟩ m.scope m.body = true) (h3 : noTwice m.scope = true) : wModule holds m = true := by
  unfold wModule
  dsimp only
  rw [h1]
  show (true && (noTwice m.scope && (wSs holds m.scope ⟨m.scope, [], [], [], none⟩ m.scope m.body && true))) = true
  rw [h2, h3]; rfl
theorem whole_prog {p : Program} (h : wModule holds p.main = true) (a : p.modules = []) (b : p.parses = []) (c : p.harvested = []) : p.tablesWhole = true := by
  show (wModule holds p.main && (Alg.all holds (p.modules.map fun (_, _, m) => wModule holds m) && (Alg.all holds (p.parses.map (wParse holds)) && (Alg.all holds (p.harvested.map (wParse holds)) && true)))) = true
  rw [h, a, b, c]; rfl
theorem wholeM : PySem.Challenge.pw_nn0348_01.tablesWhole = true := whole_prog (whole_of toldE holdE twiceM) rfl rfl rfl
end
section
open PySem PySem.W PyProof.Rows PySem.Calls PySem.Spec PySem.TablesWhole
set_option maxHeartbeats 0
/-- an answer that is the answers of the parts, joined -/
structure Joins (A : Alg Bool) : Prop where
  both : ∀ a b, A.both a b = (a && b)
  unit : A.unit = true
  enter : ∀ sc, A.enter sc = true
  check : ∀ w sc n ok, A.check w sc n ok = true
theorem wsj_app {A : Alg Bool} (J : Joins A) {fr : Scope} {cx : TablesWhole.Ctx} {sc : Scope} {l r : List Stmt} (h1 : wSs A fr cx sc l = true) (h : wSs A fr cx sc r = true) : wSs A fr cx sc (l ++ r) = true := by
  induction l with
  | nil => exact h
  | cons s l ih =>
    have h1' : A.both (wS A fr cx sc s) (wSs A fr cx sc l) = true := h1
    rw [J.both] at h1'
    obtain ⟨a, b⟩ := Bool.and_eq_true_iff.mp h1'
    show A.both (wS A fr cx sc s) (wSs A fr cx sc (l ++ r)) = true
    rw [J.both, a, ih b]; rfl
theorem wmj_of {A : Alg Bool} (J : Joins A) {m : Module} (h1 : wSs gather m.scope ⟨m.scope, [], [], [], none⟩ m.scope m.body = []) (h2 : wSs A m.scope ⟨m.scope, [], [], [], none⟩ m.scope m.body = true) : wModule A m = true := by
  unfold wModule
  dsimp only
  rw [h1]
  show A.both (A.enter m.scope) (A.both (A.check _ m.scope _ (noTwice m.scope)) (A.both (wSs A m.scope ⟨m.scope, [], [], [], none⟩ m.scope m.body) A.unit)) = true
  rw [J.both, J.both, J.both, J.enter, J.check, J.unit, h2]; rfl
noncomputable def resP (p : Program) : {A : Alg Bool // namesResolve p = wModule A p.main} := ⟨_, rfl⟩
noncomputable def meetP (p : Program) (ok : Scope → Str → Bool) : {A : Alg Bool // ∀ body, namesMeet p body ok = wModule A { p.main with body := body }} := ⟨_, fun _ => rfl⟩
theorem resJ (p : Program) : Joins (resP p).1 := ⟨fun _ _ => rfl, rfl, fun _ => rfl, fun _ _ _ _ => rfl⟩
theorem meetJ (p : Program) (ok : Scope → Str → Bool) : Joins (meetP p ok).1 := ⟨fun _ _ => rfl, rfl, fun _ => rfl, fun _ _ _ _ => rfl⟩
theorem res_of {p : Program} (h1 : wSs gather p.main.scope ⟨p.main.scope, [], [], [], none⟩ p.main.scope p.main.body = []) (h2 : wSs (resP p).1 p.main.scope ⟨p.main.scope, [], [], [], none⟩ p.main.scope p.main.body = true) : namesResolve p = true :=
  (resP p).2.trans (wmj_of (resJ p) h1 h2)
theorem meet_of {p : Program} {ok : Scope → Str → Bool} {body : List Stmt} (h1 : wSs gather p.main.scope ⟨p.main.scope, [], [], [], none⟩ p.main.scope body = []) (h2 : wSs (meetP p ok).1 p.main.scope ⟨p.main.scope, [], [], [], none⟩ p.main.scope body = true) : namesMeet p body ok = true :=
  ((meetP p ok).2 body).trans (wmj_of (meetJ p ok) (m := { p.main with body := body }) h1 h2)
noncomputable def readP (p : Program) (n : Str) : {ok : Scope → Str → Bool // ∀ body, readsOut p body n = !namesMeet p body ok} := ⟨_, fun _ => rfl⟩
theorem read_of {p : Program} {body : List Stmt} {n : Str} (h : namesMeet p body (readP p n).1 = true) : readsOut p body n = false := by
  rw [(readP p n).2 body, h]; rfl
theorem none_read {f : Str → Bool} {a b c : Str} (h1 : f a = false) (h2 : f b = false) (h3 : f c = false) : [a, b, c].filter f = [] := by
  rw [List.filter_cons_of_neg (by rw [h1]; exact Bool.false_ne_true), List.filter_cons_of_neg (by rw [h2]; exact Bool.false_ne_true), List.filter_cons_of_neg (by rw [h3]; exact Bool.false_ne_true)]; rfl
theorem road_app {k : Look} {l r : List Stmt} (h1 : noRoadLSs k l = true) (h : noRoadLSs k r = true) : noRoadLSs k (l ++ r) = true := by
  induction l with
  | nil => exact h
  | cons s l ih =>
    have h1' : (noRoadLS k s && noRoadLSs k l) = true := h1
    obtain ⟨a, b⟩ := Bool.and_eq_true_iff.mp h1'
    show (noRoadLS k s && noRoadLSs k (l ++ r)) = true
    rw [a, ih b]; rfl
theorem looks_of {p : Program} (h1 : sreFenced p.main = true) (h2 : ((moduleNames p.main.body).isEmpty || lookedIntoSs (moduleNames p.main.body) p.main.body) = true)
    (h3 : namesResolve p = true) (h4 : p.boundNames.all (fun n => !worldNames.contains n) = true)
    {s : Bool} {b : List Str} (hs : (!(importedModules p.main.body).all cThrough.contains) = s) (hb : (["vars", "dir", "locals"] : List Str).filter (readsOut p p.main.body) = b) (h5 : noRoadLSs { strict := s, foot := none, bare := b } p.main.body = true)
    (h6 : (namesMeet p p.main.body fun _ n => attrL n) = true) : looksOpen p = true := by
  unfold looksOpen
  rw [h1, h2, h3, h4, hs, hb, h5, h6]; rfl
theorem part_of {l : OpenLaw} (h : looksOpen l.prog = true) (h2 : l.pre.litsOk = true) : l.row.partSaid = true := by
  show (looksOpen l.prog && true && true && true && true && true && true && true && l.pre.litsOk && true && true && true && true && true) = true
  rw [h, h2]; rfl
theorem row_of {l : OpenLaw} (h : l.row.partSaid = true) (h2 : l.prog.boundNames.contains l.name = true) (h3 : (!startupNames.contains l.name) = true) : l.row.wellSaid = true := by
  show (l.row.partSaid && l.prog.boundNames.contains l.name && !startupNames.contains l.name) = true
  rw [h, h2, h3]; rfl
theorem law_of {l : OpenLaw} (ws1 : l.row.wellSaid = true)
  (ws2 : decide (l.foot ≤ (behindTheImports l.prog).length) = true) 
  (ws3 : l.footing.all footLine = true) 
  (ws4 : noClassBlock l.prog l.footing = true) 
  (ws5 : l.most.all (fun n => decide (63 ≤ n)) = true) 
  (ws6 : l.bound.all (fun n => decide (2 ^ 63 ≤ n)) = true) 
  (ws7 : noRoadLSs { strict := true, foot := some l.bound', writes := l.writes, may := l.may } l.footing = true) 
  (ws8 : defStands l.about l.above = true) 
  (ws9 : l.namesIt = true) 
  (ws10 : (["type", "isinstance", "issubclass", "getattr", "hasattr"] : List Str).all (fun n => l.about != [n]) = true) 
  (ws11 : l.bound'.all (fun n => !builtinNamed n || l.about == [n] || !l.reads n) = true) 
  (ws12 : (!l.writes || (l.prog.main.body.flatMap importedNames).all fun n => !l.reads n) = true) 
  (ws13 : ((l.prog.main.body.flatMap importedNames).all (fun n => !l.reads n || (drawsOf n l.prog.main.body).all fun mn => mn.2 != ("attrgetter" : Str) && mn.2 != ("methodcaller" : Str))) = true) 
  (ws14 : namesMeet l.prog l.footing (fun sc n => (!(["type", "isinstance", "issubclass", "getattr", "hasattr"] : List Str).contains n || sc.names.lookup n == some .globalImplicit) &&
    (l.may != some n || sc.kind == .module || sc.names.lookup n == some .globalImplicit)) = true) 
  (ws15 : l.own.contains l.name = true) 
  (ws16 : (l.own.eraseDups.length == l.own.length) = true) 
  (ws17 : l.own.all (fun n => !builtinNamed n) = true) 
  (ws18 : namesMeet l.prog l.above (fun _ n => !l.own.contains n) = true) 
  (ws19 : (namesMeet l.prog l.footing fun sc n => sc.kind == .module || sc.names.lookup n != some .globalExplicit) = true) : l.wellSaid = true := by
  unfold OpenLaw.wellSaid
  rw [ws1, ws2, ws3, ws4, ws5, ws6, ws7, ws8, ws9, ws10, ws11, ws12, ws13, ws14, ws15, ws16, ws17, ws18, ws19]
  rfl
noncomputable abbrev lM : OpenLaw := PySem.Challenge.rw_nn0348_01
noncomputable abbrev pM : Program := PySem.Challenge.pw_nn0348_01
theorem lo1 : sreFenced pM.main = true := by kernel_rfl
theorem lo2 : ((moduleNames pM.main.body).isEmpty || lookedIntoSs (moduleNames pM.main.body) pM.main.body) = true := by kernel_rfl
theorem stepJ {A : Alg Bool} (J : Joins A) (a n : Nat) (h1 : wSs A mdM.scope (cxM []) mdM.scope (partM a n) = true) (h2 : wSs A mdM.scope (cxM []) mdM.scope (mdM.body.drop (a + n)) = true) : wSs A mdM.scope (cxM []) mdM.scope (mdM.body.drop a) = true := by
  rw [cutB a n]; exact wsj_app J h1 h2
theorem stepR {k : Look} (a n : Nat) (h1 : noRoadLSs k (partM a n) = true) (h2 : noRoadLSs k (mdM.body.drop (a + n)) = true) : noRoadLSs k (mdM.body.drop a) = true := by
  rw [cutB a n]; exact road_app h1 h2
theorem rs0 : wSs (resP pM).1 mdM.scope (cxM []) mdM.scope (partM 0 40) = true := by kernel_rfl
theorem rs1 : wSs (resP pM).1 mdM.scope (cxM []) mdM.scope (partM 40 40) = true := by kernel_rfl
theorem rs2 : wSs (resP pM).1 mdM.scope (cxM []) mdM.scope (partM 80 40) = true := by kernel_rfl
theorem rs3 : wSs (resP pM).1 mdM.scope (cxM []) mdM.scope (partM 120 30) = true := by kernel_rfl
theorem rs4 : wSs (resP pM).1 mdM.scope (cxM []) mdM.scope (partM 150 30) = true := by kernel_rfl
theorem rs5 : wSs (resP pM).1 mdM.scope (cxM []) mdM.scope (mdM.body.drop 180) = true := by kernel_rfl
theorem lo3 : namesResolve pM = true := res_of toldE (stepJ (resJ pM) 0 40 rs0 (stepJ (resJ pM) 40 40 rs1 (stepJ (resJ pM) 80 40 rs2 (stepJ (resJ pM) 120 30 rs3 (stepJ (resJ pM) 150 30 rs4 rs5)))))
theorem lo4 : pM.boundNames.all (fun n => !worldNames.contains n) = true := by kernel_rfl
noncomputable abbrev okRead (n : Str) : Scope → Str → Bool := (readP pM n).1
theorem rv0 : wSs (meetP pM (okRead "vars")).1 mdM.scope (cxM []) mdM.scope (partM 0 40) = true := by kernel_rfl
theorem rv1 : wSs (meetP pM (okRead "vars")).1 mdM.scope (cxM []) mdM.scope (partM 40 40) = true := by kernel_rfl
theorem rv2 : wSs (meetP pM (okRead "vars")).1 mdM.scope (cxM []) mdM.scope (partM 80 40) = true := by kernel_rfl
theorem rv3 : wSs (meetP pM (okRead "vars")).1 mdM.scope (cxM []) mdM.scope (partM 120 30) = true := by kernel_rfl
theorem rv4 : wSs (meetP pM (okRead "vars")).1 mdM.scope (cxM []) mdM.scope (partM 150 30) = true := by kernel_rfl
theorem rv5 : wSs (meetP pM (okRead "vars")).1 mdM.scope (cxM []) mdM.scope (mdM.body.drop 180) = true := by kernel_rfl
theorem rvM : readsOut pM pM.main.body "vars" = false := read_of (meet_of toldE (stepJ (meetJ pM (okRead "vars")) 0 40 rv0 (stepJ (meetJ pM (okRead "vars")) 40 40 rv1 (stepJ (meetJ pM (okRead "vars")) 80 40 rv2 (stepJ (meetJ pM (okRead "vars")) 120 30 rv3 (stepJ (meetJ pM (okRead "vars")) 150 30 rv4 rv5))))))
theorem rd0 : wSs (meetP pM (okRead "dir")).1 mdM.scope (cxM []) mdM.scope (partM 0 40) = true := by kernel_rfl
theorem rd1 : wSs (meetP pM (okRead "dir")).1 mdM.scope (cxM []) mdM.scope (partM 40 40) = true := by kernel_rfl
theorem rd2 : wSs (meetP pM (okRead "dir")).1 mdM.scope (cxM []) mdM.scope (partM 80 40) = true := by kernel_rfl
theorem rd3 : wSs (meetP pM (okRead "dir")).1 mdM.scope (cxM []) mdM.scope (partM 120 30) = true := by kernel_rfl
theorem rd4 : wSs (meetP pM (okRead "dir")).1 mdM.scope (cxM []) mdM.scope (partM 150 30) = true := by kernel_rfl
theorem rd5 : wSs (meetP pM (okRead "dir")).1 mdM.scope (cxM []) mdM.scope (mdM.body.drop 180) = true := by kernel_rfl
theorem rdM : readsOut pM pM.main.body "dir" = false := read_of (meet_of toldE (stepJ (meetJ pM (okRead "dir")) 0 40 rd0 (stepJ (meetJ pM (okRead "dir")) 40 40 rd1 (stepJ (meetJ pM (okRead "dir")) 80 40 rd2 (stepJ (meetJ pM (okRead "dir")) 120 30 rd3 (stepJ (meetJ pM (okRead "dir")) 150 30 rd4 rd5))))))
theorem rl0 : wSs (meetP pM (okRead "locals")).1 mdM.scope (cxM []) mdM.scope (partM 0 40) = true := by kernel_rfl
theorem rl1 : wSs (meetP pM (okRead "locals")).1 mdM.scope (cxM []) mdM.scope (partM 40 40) = true := by kernel_rfl
theorem rl2 : wSs (meetP pM (okRead "locals")).1 mdM.scope (cxM []) mdM.scope (partM 80 40) = true := by kernel_rfl
theorem rl3 : wSs (meetP pM (okRead "locals")).1 mdM.scope (cxM []) mdM.scope (partM 120 30) = true := by kernel_rfl
theorem rl4 : wSs (meetP pM (okRead "locals")).1 mdM.scope (cxM []) mdM.scope (partM 150 30) = true := by kernel_rfl
theorem rl5 : wSs (meetP pM (okRead "locals")).1 mdM.scope (cxM []) mdM.scope (mdM.body.drop 180) = true := by kernel_rfl
theorem rlM : readsOut pM pM.main.body "locals" = false := read_of (meet_of toldE (stepJ (meetJ pM (okRead "locals")) 0 40 rl0 (stepJ (meetJ pM (okRead "locals")) 40 40 rl1 (stepJ (meetJ pM (okRead "locals")) 80 40 rl2 (stepJ (meetJ pM (okRead "locals")) 120 30 rl3 (stepJ (meetJ pM (okRead "locals")) 150 30 rl4 rl5))))))
theorem bareL : (["vars", "dir", "locals"] : List Str).filter (readsOut pM pM.main.body) = [] := none_read rvM rdM rlM
theorem strictL : (!(importedModules pM.main.body).all cThrough.contains) = false := by kernel_rfl
noncomputable abbrev lkM5 : Look := { strict := false, foot := none, bare := [] }
theorem nr0 : noRoadLSs lkM5 (partM 0 40) = true := by kernel_rfl
theorem nr1 : noRoadLSs lkM5 (partM 40 40) = true := by kernel_rfl
theorem nr2 : noRoadLSs lkM5 (partM 80 40) = true := by kernel_rfl
theorem nr3 : noRoadLSs lkM5 (partM 120 30) = true := by kernel_rfl
theorem nr4 : noRoadLSs lkM5 (partM 150 30) = true := by kernel_rfl
theorem nr5 : noRoadLSs lkM5 (mdM.body.drop 180) = true := by kernel_rfl
theorem lo5 : noRoadLSs lkM5 pM.main.body = true := stepR 0 40 nr0 (stepR 40 40 nr1 (stepR 80 40 nr2 (stepR 120 30 nr3 (stepR 150 30 nr4 nr5))))
theorem at0 : wSs (meetP pM fun _ n => attrL n).1 mdM.scope (cxM []) mdM.scope (partM 0 40) = true := by kernel_rfl
theorem at1 : wSs (meetP pM fun _ n => attrL n).1 mdM.scope (cxM []) mdM.scope (partM 40 40) = true := by kernel_rfl
theorem at2 : wSs (meetP pM fun _ n => attrL n).1 mdM.scope (cxM []) mdM.scope (partM 80 40) = true := by kernel_rfl
theorem at3 : wSs (meetP pM fun _ n => attrL n).1 mdM.scope (cxM []) mdM.scope (partM 120 30) = true := by kernel_rfl
theorem at4 : wSs (meetP pM fun _ n => attrL n).1 mdM.scope (cxM []) mdM.scope (partM 150 30) = true := by kernel_rfl
theorem at5 : wSs (meetP pM fun _ n => attrL n).1 mdM.scope (cxM []) mdM.scope (mdM.body.drop 180) = true := by kernel_rfl
theorem lo6 : (namesMeet pM pM.main.body fun _ n => attrL n) = true := meet_of toldE (stepJ (meetJ pM fun _ n => attrL n) 0 40 at0 (stepJ (meetJ pM fun _ n => attrL n) 40 40 at1 (stepJ (meetJ pM fun _ n => attrL n) 80 40 at2 (stepJ (meetJ pM fun _ n => attrL n) 120 30 at3 (stepJ (meetJ pM fun _ n => attrL n) 150 30 at4 at5)))))
theorem loM : looksOpen pM = true := looks_of lo1 lo2 lo3 lo4 strictL bareL lo5 lo6
theorem part1 : lM.row.partSaid = true := part_of (l := lM) loM (by kernel_rfl)
theorem ws1 : lM.row.wellSaid = true := row_of part1 (by kernel_rfl) (by kernel_rfl)
theorem ws2 : decide (lM.foot ≤ (behindTheImports lM.prog).length) = true := by kernel_rfl
theorem ws3 : lM.footing.all footLine = true := by kernel_rfl
theorem ws4 : noClassBlock lM.prog lM.footing = true := by kernel_rfl
theorem ws5 : lM.most.all (fun n => decide (63 ≤ n)) = true := by kernel_rfl
theorem ws6 : lM.bound.all (fun n => decide (2 ^ 63 ≤ n)) = true := by kernel_rfl
theorem ws7 : noRoadLSs { strict := true, foot := some lM.bound', writes := lM.writes, may := lM.may } lM.footing = true := by kernel_rfl
theorem ws8 : defStands lM.about lM.above = true := by kernel_rfl
theorem ws9 : lM.namesIt = true := by kernel_rfl
theorem ws10 : (["type", "isinstance", "issubclass", "getattr", "hasattr"] : List Str).all (fun n => lM.about != [n]) = true := by kernel_rfl
theorem ws11 : lM.bound'.all (fun n => !builtinNamed n || lM.about == [n] || !lM.reads n) = true := by kernel_rfl
theorem ws12 : (!lM.writes || (lM.prog.main.body.flatMap importedNames).all fun n => !lM.reads n) = true := by kernel_rfl
theorem ws13 : ((lM.prog.main.body.flatMap importedNames).all (fun n => !lM.reads n || (drawsOf n lM.prog.main.body).all fun mn => mn.2 != ("attrgetter" : Str) && mn.2 != ("methodcaller" : Str))) = true := by kernel_rfl
theorem ws14 : namesMeet lM.prog lM.footing (fun sc n => (!(["type", "isinstance", "issubclass", "getattr", "hasattr"] : List Str).contains n || sc.names.lookup n == some .globalImplicit) &&
    (lM.may != some n || sc.kind == .module || sc.names.lookup n == some .globalImplicit)) = true := by kernel_rfl
theorem ws15 : lM.own.contains lM.name = true := by kernel_rfl
theorem ws16 : (lM.own.eraseDups.length == lM.own.length) = true := by kernel_rfl
theorem ws17 : lM.own.all (fun n => !builtinNamed n) = true := by kernel_rfl
theorem ws18 : namesMeet lM.prog lM.above (fun _ n => !lM.own.contains n) = true := by kernel_rfl
theorem ws19 : (namesMeet lM.prog lM.footing fun sc n => sc.kind == .module || sc.names.lookup n != some .globalExplicit) = true := by kernel_rfl
theorem well : lM.wellSaid = true := law_of ws1 ws2 ws3 ws4 ws5 ws6 ws7 ws8 ws9 ws10 ws11 ws12 ws13 ws14 ws15 ws16 ws17 ws18 ws19
end
section
set_option maxHeartbeats 0
noncomputable abbrev rM : OpenRow := PySem.Challenge.rw_nn0348_01.row
noncomputable abbrev dM : DefRec := ⟨fdName lawB, fdArgs lawB, fdBody lawB, fdScope lawB, fdPos lawB⟩
theorem hpM : rM.prog.theDef rM.name = some (dM.params, dM.body, dM.scope) := by kernel_rfl
theorem hkM : kwWritten? dM.params.kwonlyargs dM.params.kw_defaults = some [] := by kernel_rfl
theorem okM : (chainsOk qM && opensWell rM.prog && (frees rM.toRowW && rM.within.isEmpty)) = true := by kernel_rfl
theorem bareM : rM.prog.bare := ⟨by kernel_rfl, by kernel_rfl, by kernel_rfl, by kernel_rfl, by kernel_rfl, wholeM⟩
theorem promM : rM.toRowW.promised := ⟨[.list []], by kernel_rfl, by kernel_rfl⟩
theorem asE (P : Params) : asM = (KM P).map (·.1) := by kernel_rfl
theorem leftR : LeftO rM.prog qM looseM (fun _ => true) (fun (s : Shared) => asM.map s.heap.get?) (fun (w : World) => (KM w.params).map fun (p : Addr × Obj) => some p.2) NM := leftM
theorem head : PySem.Challenge.rw_nn0348_01.Holds :=
  holds_law well fun said => PySem.W.holds_open (r := rM) (XP := fun _ _ => True) (YP := fun w h => (KM w.params).In h) (d := dM) (kwd := [])
    leftR (InK.of asE) InK.keeps (fun _ _ => trivial) (fun _ _ _ _ _ => trivial) def_law hpM hkM (fun _ _ => recFacts_nil rfl) rfl said okM bareM promM (law_walk dM [] def_law)
end
end Mine
set_option maxHeartbeats 8000000 in
theorem PySem.Challenge.cw_nn0348_01_holds : PySem.Challenge.rw_nn0348_01.Holds := by
  exact Mine.head
