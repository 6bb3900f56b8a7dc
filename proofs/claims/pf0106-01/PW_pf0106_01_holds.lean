import PyProof.Rows.All
import OpenK.KLine
import KE.KItem
import KE.KSlice
import KE.KPop
import Lean
import PySem.Challenge.RW_pf0106_01
set_option Elab.async false
set_option autoImplicit false
set_option linter.all false
set_option compiler.extract_closed false
set_option genInjectivity false
set_option genSizeOf false
set_option maxRecDepth 100000
namespace Mine
section
open Lean
def stN (k:String) (l:List Syntax):Syntax:=.node .none k.toName l.toArray
def stP (k:String) (l:List Syntax):Syntax:=stN ("Lean.Parser." ++ k) l
def stQ (l:List Syntax):Syntax:=stP "Tactic.tacticSeq" [stP "Tactic.tacticSeq1Indented" [stN "null" (l.intersperse (mkAtom ";"))]]
def stA (a:Syntax):Syntax:=stN "group" [mkAtom "|",stQ [a]]
def stH (d:Char) (w:String):Syntax:=
  if d == '`' then mkIdent w.toName
  else if d == '^' then mkAtom w
  else if d == '?' then stP "Term.syntheticHole" [mkAtom "?",mkAtom "_"]
  else stN "PyProof.Rows.tacticWalk_at_" [mkAtom "",stN "str" [mkAtom w.quote]]
def stK (d:Char) (w:String) (a:List Syntax):Syntax:=
  if d == ';' then stP "Tactic.paren" [mkAtom "(",stQ a,mkAtom ")"]
  else if d == '|' then stP "Tactic.first" [mkAtom "first",stN "null" (a.map stA)]
  else if d == '~' then stQ a
  else if d == '!' then .node .none ``Parser.Tactic.«tactic_<;>_» #[a.head!,mkAtom "",a.getLast!]
  else if d == '#' then stP "Term.paren" [stP "Term.hygienicLParen" [mkAtom "(",stN "hygieneInfo" [mkIdent .anonymous]],a.head!,mkAtom ")"]
  else if w == "" then stN "null" a else if w == "str" then stN w a else stP w a
def stx (p:List Syntax) (s:List Char × List Syntax) (c:Char):List Char × List Syntax:=
  let w:=s.1
  let st:=s.2
  if "`^?@".contains c then ([],stH c (String.ofList w.reverse) :: st)
  else if "$;|~#!/".contains c then
    let n:=w.head!.toNat - 48
    if c == '$' then ([],p.getD n .missing :: st) else ([],stK c (String.ofList w.tail.reverse) (st.take n).reverse :: st.drop n)
  else (if c == ' ' then w else c :: w,st)
def st (p:List Syntax) (s:String):Syntax:=(s.toList.foldl (stx p) ([],[])).2.head!
end
theorem genE {α : Type} (a:α) {G:Prop} (k:∀ x,a = x → G):G:=k a rfl
section
variable {a b c d k l p q r s n m:Nat} {z:Int}
theorem qa (h:b ≤ c) (h':a ≤ b):a ≤ c:=Nat.le_trans h' h
theorem qb (h:b ≤ c) (h':a < b):a < c:=Nat.lt_of_lt_of_le h' h
theorem qc (h:b < c) (h':a ≤ b):a < c:=Nat.lt_of_le_of_lt h' h
theorem q1 (e:a = b) (h:b ≤ c):a ≤ c:=e ▸ h
theorem q2 (e:b = a) (h:b ≤ c):a ≤ c:=e ▸ h
theorem q3 (e:a = b) (h:b < c):a < c:=e ▸ h
theorem q4 (e:b = a) (h:b < c):a < c:=e ▸ h
theorem q5 (h:a < b) (k:b ≤ a):False:=Nat.not_le_of_lt h k
theorem q6 (e:b = c) (h:a ≤ b):a ≤ c:=e ▸ h
theorem q7 (e:b = c) (h:a < b):a < c:=e ▸ h
theorem q8 (e:c = b) (h:a ≤ b):a ≤ c:=e ▸ h
theorem q9 (e:c = b) (h:a < b):a < c:=e ▸ h
theorem f1 (h:c < 2):1 - (1 - c) = c:=Nat.sub_sub_self (Nat.le_of_lt_succ h)
theorem f2:∀ s,s < 2 → ∀ c,c < 2 → ¬ s = c → s = 1 - c:=by decide
theorem f3 (n:¬ s = c) (h:c < 2) (h':s < 2):s = 1 - c:=f2 s h' c h n
theorem f4 (n:¬ s = c) (h:c < 2) (h':s < 2):1 - s = c:=f3 n h h' ▸ f1 h
theorem f5 (e:s = 1 - c) (h:c < 2):c = 1 - s:=e ▸ (f1 h).symm
theorem f6 (e:s = 1 - c) (h:c < 2):1 - s = c:=(f5 e h).symm
theorem f7 (h:c < 2) (h':s < 2):s = c ∨ s = 1 - c:=if e:s = c then .inl e else .inr (f3 e h h')
theorem f8:1 - c < 2:=Nat.lt_succ_of_le (Nat.sub_le 1 c)
theorem f9:∀ {s:Nat},¬ 1 - s = s
  | 0,e => nomatch e
  | s + 1,e => absurd ((Nat.succ_sub_succ 0 s).symm.trans e) (by rw [Nat.zero_sub]; exact fun h => nomatch h)
theorem g1 (e:s = 1 - c):¬ s = c:=e ▸ f9
theorem g2:∀ c,c < 2 → ¬ c = 0 → 1 - c = 0:=by decide
theorem g3 (n:¬ c = 0) (h:c < 2):1 - c = 0:=g2 c h n
theorem g4 (h:b ≤ a):(a:Int) - b = ((a - b:Nat):Int):=(Int.ofNat_sub h).symm
theorem g5 (h:c < 2):1 - (c:Int) = ((1 - c:Nat):Int):=g4 (Nat.le_of_lt_succ h)
theorem g6 (h:c < 2):1 - ((1 - c:Nat):Int) = (c:Int):=(g5 (f8 (c:=c))).trans (congrArg _ (f1 h))
theorem g7 (e:p + q = r):(r:Int) - q = ((r - q:Nat):Int):=g4 (e ▸ Nat.le_add_left q p)
theorem g8 (n:¬ a = 0):(a:Int) - 1 = ((a - 1:Nat):Int):=g4 (Nat.pos_of_ne_zero n)
theorem g9 (h:0 ≤ z):z = (z.toNat:Int):=(Int.toNat_of_nonneg h).symm
theorem k1 (h:p < l):l - p = l - (p + 1) + 1:=(Nat.succ_pred_eq_of_pos (Nat.sub_pos_of_lt h)).symm
theorem k2 (h:p + 1 ≤ l):l - p = l - (p + 1) + 1:=k1 h
theorem k3 (e:p + q = r):r - q = p:=Nat.sub_eq_of_eq_add e.symm
theorem k4:l - (l - 1) ≤ 1:=Nat.sub_le_of_le_add (Nat.add_comm 1 _ ▸ Nat.le_succ_of_pred_le (Nat.le_refl _))
theorem k5 (h:0 < l):l - 1 + 1 = l:=Nat.sub_add_cancel h
theorem k6 (e:l - 1 + 1 = l):l - 1 < l:=Nat.lt_of_succ_le (Nat.le_of_eq e)
theorem k7 (h:l ≤ 3):l - (p + 1) ≤ 2:=Nat.le_trans (Nat.sub_le_sub_left (Nat.le_add_left 1 p) l) (Nat.pred_le_pred h)
theorem k8 (h:n ≤ a) (h':a < n + l):a - n < l:=Nat.sub_lt_left_of_lt_add h h'
theorem k9:n + 1 * a - n = a:=by rw [Nat.one_mul,Nat.add_sub_cancel_left]
theorem l1 (h:a < c):a - b < c:=Nat.lt_of_le_of_lt (Nat.sub_le a b) h
theorem l2 (h:4 * a < k):k - 4 * a - 1 + (4 * a + 1) = k:=by rw [Nat.sub_sub]; exact Nat.sub_add_cancel h
theorem l3 (h:4 * a < k):k = k - 4 * a - 1 + 1 + 4 * a:=by rw [Nat.add_assoc,Nat.add_comm 1]; exact (l2 h).symm
theorem l4 (h:k ≤ n):k - p - 1 ≤ n:=Nat.le_trans (Nat.sub_le ..) (Nat.le_trans (Nat.sub_le ..) h)
theorem l5 (h:k ≤ n + 1):k - p - 1 ≤ n:=Nat.pred_le_pred (Nat.le_trans (Nat.sub_le ..) h)
theorem l6 (h:l + k ≤ n) (h':p < k):l + 1 + (k - p - 1) ≤ n:=by rw [Nat.add_assoc,Nat.add_comm 1,Nat.sub_add_cancel (Nat.sub_pos_of_lt h')]; exact Nat.le_trans (Nat.add_le_add_left (Nat.sub_le k p) l) h
theorem l7 (h:l + k ≤ n):l + (k - p - 1) ≤ n:=Nat.le_trans (Nat.add_le_add_left (l4 (Nat.le_refl k)) l) h
theorem l8 (h:2 ≤ l):l = l - 2 + 2:=(Nat.sub_add_cancel h).symm
theorem l9 (h:l + (k + 1) ≤ n):l + k ≤ n:=Nat.le_of_succ_le h
theorem p1 (h:l + (k + 1) ≤ n):l + 1 + k ≤ n:=by rw [Nat.add_assoc,Nat.add_comm 1]; exact h
theorem p2 (h:n ≤ l + (k + 1)):n ≤ l + 1 + k:=by rw [Nat.add_assoc,Nat.add_comm 1]; exact h
theorem p3 (h:a + 1 ≤ c) (h':b ≤ 1):a + b ≤ c:=Nat.le_trans (Nat.add_le_add_left h' a) h
theorem p4 (h:a + 12 ≤ c) (h':b ≤ 12):a + b ≤ c:=Nat.le_trans (Nat.add_le_add_left h' a) h
theorem p5 (h:l % 2 = 1) (h':p < l) (e:p % 2 = 0):(l - (p + 1)) % 2 = 0:=by omega
theorem p6 (h:l % 2 = 1) (h':p < l) (e:¬ p % 2 = 0):¬ (l - (p + 1)) % 2 = 0:=by omega
theorem p7 (h:l % 2 = 1):0 < l:=Nat.pos_of_ne_zero fun e => by rw [e] at h; cases h
theorem p8 (h:¬ (a:Nat) = b):¬ (a:Int) = b:=fun e => h (Int.ofNat.inj e)
theorem p9 (h:¬ a < b):¬ (a:Int) < b:=fun e => h (Int.ofNat_lt.mp e)
theorem r1 (n:¬ a = 0):0 < (a:Int):=Int.ofNat_lt.mpr (Nat.pos_of_ne_zero n)
theorem r2 (h:(a:Int) + 1 ≤ b):a < b:=Int.ofNat_lt.mp h
theorem r3 (h:¬ a ≤ b):(b:Int) < a:=Int.ofNat_lt.mpr (Nat.lt_of_not_le h)
theorem r4 (e:a = b) (n:¬ b = 0):¬ a = 0:=e ▸ n
theorem r5 (h:0 ≤ z):-2 ^ 63 ≤ z:=Int.le_trans (by decide) h
theorem r6 (h:0 ≤ z ∧ z ≤ 1000000):-2 ^ 63 ≤ z:=r5 h.1
theorem r7 (h:0 ≤ z ∧ z ≤ 1000000):z < 2 ^ 63:=Int.lt_of_le_of_lt h.2 (by decide)
theorem r8 (h:a < l) (h':l ≤ c):(a:Int) ≤ c:=Int.ofNat_le.mpr (Nat.le_trans (Nat.le_of_lt h) h')
theorem r9 (e:a = b) (h:b ≤ c) (h':c ≤ d):a ≤ d:=e ▸ Nat.le_trans h h'
theorem s1 (e:b = a) (h:b ≤ c) (h':c ≤ d):a ≤ d:=e ▸ Nat.le_trans h h'
theorem s2 (e:a = b) (h:a < c):b < c:=e ▸ h
theorem s3 (h:a < b) (h':b ≤ c) (h'':c ≤ d):a < d:=Nat.lt_of_lt_of_le h (Nat.le_trans h' h'')
end
end Mine
open Lean Mine in
local macro_rules (kind:=Lean.Parser.Tactic.omega) | s => do
    if s[1][0].getNumArgs != 0 then Macro.throwUnsupported
    let mut l:=[st [] "assumption^Tactic.assumption1/"]
    for n in ("Nat.le_trans Nat.lt_of_lt_of_le Nat.lt_of_le_of_lt Nat.lt_trans Nat.le_of_lt Nat.le_of_lt_succ Nat.lt_succ_of_le Nat.lt_succ_of_lt Nat.le_succ_of_le Nat.succ_le_of_lt Nat.succ_pos Nat.pos_of_ne_zero Nat.le_of_not_lt Nat.lt_of_not_le Nat.ne_of_lt Nat.ne_of_gt Nat.sub_le Nat.sub_add_cancel Nat.add_sub_cancel Nat.add_sub_cancel_left Nat.add_sub_of_le Nat.le_add_right Nat.le_add_left Nat.le_of_eq Nat.le_refl Int.ofNat_le.mpr Int.ofNat_lt.mpr Nat.succ_le_succ Nat.succ_lt_succ Nat.pred_le_pred Mine.qa Mine.qb Mine.qc Mine.q1 Mine.q2 Mine.q3 Mine.q4 Mine.q5 Mine.q6 Mine.q7 Mine.q8 Mine.q9 Mine.f1 Mine.f3 Mine.f4 Mine.f5 Mine.f6 Mine.f7 Mine.f8 Mine.f9 Mine.g1 Mine.g3 Mine.g4 Mine.g5 Mine.g6 Mine.g7 Mine.g8 Mine.g9 Mine.k1 Mine.k2 Mine.k3 Mine.k4 Mine.k5 Mine.k6 Mine.k7 Mine.k8 Mine.k9 Mine.l1 Mine.l2 Mine.l3 Mine.l4 Mine.l5 Mine.l6 Mine.l7 Mine.l8 Mine.l9 Mine.p1 Mine.p2 Mine.p3 Mine.p4 Mine.p5 Mine.p6 Mine.p7 Mine.p8 Mine.p9 Mine.r1 Mine.r2 Mine.r3 Mine.r4 Mine.r5 Mine.r6 Mine.r7 Mine.r8 Mine.r9 Mine.s1 Mine.s3".splitOn " ") do
      l:=l ++ [st [mkIdent n.toName] "apply^0$Tactic.apply2/assumption^Tactic.assumption1/decide^0/Tactic.optConfig1/Tactic.decide2/2|2!"]
    return st [stP "Tactic.first" [mkAtom "first",stN "null" (l.map stA)]] "with_reducible^0$1~Tactic.withReducible2/lia^0/Tactic.optConfig1/Tactic.lia2/omega^(^config`:=^{^0/0/Term.structInstFields1/0/Term.optEllipsis1/0/}^Term.structInst6/)^Tactic.valConfigItem5/Tactic.configItem1/1/Tactic.optConfig1/Tactic.omega2/3|"
namespace Mine
noncomputable section
section
open PySem
inductive V where
 | none | bool (b:Bool) | int (i:Int) | str (s:Str) | ref (id:Nat)
 | tup (l:List Int) | tup2 (l:List (List Int)) | tupS (l:List Str)
 | range (a b st:Int)
 deriving DecidableEq,Inhabited
inductive MO where
 | list (vs:List V) | inst (c:Str) (as:List (Str × V)) | dict (es:List (Str × V))
 deriving DecidableEq,Inhabited
abbrev H:=List MO
abbrev Fm:=Nat → Option V
abbrev Ex:=Fm → H → Option (V × H)
abbrev Tx:=Fm → H → Option (Bool × H)
inductive Fl where
 | next | ret (v:V)
abbrev Sx:=Fm → H → Option (Fl × Fm × H)
abbrev G:=Str → List V → H → Option (V × H)
abbrev aK:=List (Str × NameKind)
noncomputable def upd (f:Fm) (i:Nat) (v:V):Fm:=fun j => if j = i then some v else f j
noncomputable def small (i:Int):Bool:=i.natAbs < 18446744073709551616
noncomputable def eW (x:Str):List (Str × V) → Option V
 | [] => none
 | (y,v) :: r => if y = x then some v else eW x r
noncomputable def gV (x:Str) (v:V):List (Str × V) → List (Str × V)
 | [] => [(x,v)]
 | (y,w) :: r => if y = x then (y,v) :: r else (y,w) :: gV x v r
noncomputable def aQ:Operator → Int → Int → Option Int
 | .Add,a,b => some (a + b)
 | .Sub,a,b => some (a - b)
 | .Mult,a,b => if small a && small b then some (a * b) else none
 | .FloorDiv,a,b => if b ≠ 0 ∧ b.natAbs < 1073741824 then some (a.fdiv b) else none
 | .Mod,a,b => if b ≠ 0 then some (a.fmod b) else none
 | .LShift,a,b => if 0 ≤ b ∧ b ≤ 1000 ∧ small a then some (a * 2 ^ b.toNat) else none
 | .RShift,a,b => if 0 ≤ b then some (a.fdiv (2 ^ b.toNat)) else none
 | .BitOr,a,b => some (Builtin.bitOr a b)
 | .BitXor,a,b => some (Builtin.bitXor a b)
 | .BitAnd,a,b => some (Builtin.bitAnd a b)
 | _,_,_ => none
noncomputable def D3 (a b:Option MO) (h:H):Option (V × H):=match a with
 | some (.list x) => (match b with
  | some (.list y) => if x.length + y.length ≤ 1000 then some (.ref h.length,h ++ [.list (x ++ y)]) else none
  | _ => none)
 | _ => none
noncomputable def sB (op:Operator) (a b:V) (h:H):Option (V × H):=match a with
 | .int x => (match b with
  | .int y => (aQ op x y).map fun z => (.int z,h)
  | _ => none)
 | .ref i => (match b with
  | .ref j => (match op with
   | .Add => D3 h[i]? h[j]? h
   | _ => none)
  | _ => none)
 | _ => none
noncomputable def Dk:V → Option V
 | .int x => some (.bool (x == 0))
 | .bool b => some (.bool !b)
 | _ => none
noncomputable def EO (f:Int → Int):V → Option V
 | .int x => some (.int (f x))
 | _ => none
noncomputable def Ds (op:UnaryOp) (a:V):Option V:=match op with
 | .USub => EO (fun x => -x) a
 | .Invert => EO (fun x => -x - 1) a
 | .Not => Dk a
 | _ => none
noncomputable def dw:V → Option Bool
 | .bool b => some b
 | .int i => some (i != 0)
 | .none => some false
 | _ => none
noncomputable def mP (f:V → V → Option Bool):List V → List V → Option Bool
 | a :: x,b :: y => (f a b).bind fun r => (mP f x y).map fun t => r && t
 | _,_ => some true
noncomputable def EQ (f:V → V → Option Bool) (a b:Option MO):Option Bool:=match a with
 | some (.list x) => (match b with
  | some (.list y) => if x.length ≠ y.length then some false else mP f x y
  | _ => none)
 | _ => none
noncomputable def GV (f:V → V → Option Bool) (h:H) (a b:V):Option Bool:=match a with
 | .none => (match b with | .none => some true | _ => none)
 | .bool x => (match b with | .bool y => some (x == y) | _ => none)
 | .int x => (match b with | .int y => some (x == y) | _ => none)
 | .str x => (match b with | .str y => some (x == y) | _ => none)
 | .tup x => (match b with | .tup y => some (x == y) | _ => none)
 | .ref i => (match b with | .ref j => EQ f h[i]? h[j]? | _ => none)
 | _ => none
noncomputable def mR:Nat → H → V → V → Option Bool
 | 0,_,_,_ => none
 | n + 1,h,a,b => GV (mR n h) h a b
noncomputable def cZ:List V → Option (List Int)
 | [] => some []
 | .int i :: r => (cZ r).map (i :: ·)
 | _ => none
noncomputable def oo:List V → Option (List (List Int))
 | [] => some []
 | .tup i :: r => (oo r).map (i :: ·)
 | _ => none
noncomputable def qN:List V → Option (List Str)
 | [] => some []
 | .str i :: r => (qN r).map (i :: ·)
 | _ => none
noncomputable def xX (f:Int → Int → Bool) (a b:V):Option Bool:=match a with
 | .int x => (match b with | .int y => some (f x y) | _ => none)
 | _ => none
noncomputable def GA (f:Bool → Bool) (a b:V):Option Bool:=match b with | .none => some (f (a == .none)) | _ => none
noncomputable def vU (a b:V) (h:H):Option Bool:=match a with
 | .int x => (match b with
  | .ref i => (match h[i]? with
   | some (.list l) => (cZ l).map fun ns => !ns.contains x
   | _ => none)
  | _ => none)
 | _ => none
noncomputable def bI (op:CmpOp) (a b:V) (h:H):Option Bool:=match op with
 | .Eq => mR 4 h a b
 | .NotEq => (mR 4 h a b).map (!·)
 | .Lt => xX (fun x y => decide (x < y)) a b
 | .LtE => xX (fun x y => decide (x ≤ y)) a b
 | .Gt => xX (fun x y => decide (y < x)) a b
 | .GtE => xX (fun x y => decide (y ≤ x)) a b
 | .Is => GA id a b
 | .IsNot => GA (!·) a b
 | .NotIn => vU a b h
 | _ => none
noncomputable def pw {α : Type} (f:α → V) (l:List α) (i:V):Option V:=match i with
 | .int k => if 0 ≤ k ∧ k ≤ 1000000 then (l[k.toNat]?).map f else none
 | _ => none
noncomputable def tW (m:Option MO) (i:V):Option V:=match m with
 | some (.list vs) => (match i with
  | .int k => if 0 ≤ k ∧ k ≤ 1000000 then vs[k.toNat]? else none
  | _ => none)
 | some (.dict es) => (match i with
  | .str x => eW x es
  | _ => none)
 | _ => none
noncomputable def aO (o i:V) (h:H):Option V:=match o with
 | .ref a => tW h[a]? i
 | .tup l => pw .int l i
 | .tup2 l => pw .tup l i
 | .tupS l => pw .str l i
 | _ => none
noncomputable def cy (o i v:V) (h:H):Option H:=match o,i with
 | .ref a,.int k => match h[a]? with
  | some (.list vs) => if 0 ≤ k ∧ k ≤ 1000000 ∧ k < vs.length then some (h.set a (.list (vs.set k.toNat v))) else none
  | _ => none
 | .ref a,.str x => match h[a]? with
  | some (.dict es) => if (eW x es).isSome ∧ es.length ≤ 1000 then some (h.set a (.dict (gV x v es))) else none
  | _ => none
 | _,_ => none
noncomputable def dj (x:Str):Bool:=(["files","ranks","size","full","has_double","has_castling","file_masks","rank_masks","rays","king","knight","pawn","castles","rights_lost",
 "geo","zob","board","kinds","sides","side","rights","ep","half","key","history","moves","plies","proofs","disproofs","children","pieces"]:List Str).contains x
noncomputable def aB (o:V) (x:Str) (h:H):Option V:=match o with
 | .ref a => match h[a]? with
  | some (.inst _ as) => eW x as
  | _ => none
 | _ => none
noncomputable def bj (o:V) (x:Str) (v:V) (h:H):Option H:=match o with
 | .ref a => match h[a]? with
  | some (.inst c as) => if dj x = true ∧ as.length ≤ 100 then some (h.set a (.inst c (gV x v as))) else none
  | _ => none
 | _ => none
noncomputable def fR (o:V) (lo hi:Option Int) (h:H):Option (V × H):=match o with
 | .ref a => match h[a]? with
  | some (.list vs) => if 1000000 < vs.length then none else match lo,hi with
   | none,none => some (.ref h.length,h ++ [.list vs])
   | none,some k => if 0 ≤ k then some (.ref h.length,h ++ [.list (vs.take k.toNat)]) else none
   | some k,none => if k < 0 then some (.ref h.length,h ++ [.list (vs.drop (vs.length - (-k).toNat))]) else none
   | _,_ => none
  | _ => none
 | _ => none
noncomputable def fZ (a b st:Int):Nat:=(Builtin.Range.rangeSize a b st).toNat
noncomputable def gQ (a b st:Int):List V:=(List.range (fZ a b st)).map fun (i:Nat) => V.int (a + (i:Int) * st)
noncomputable def az (v:V) (h:H):Option (List V):=match v with
 | .range a b st => if a.natAbs ≤ 1000000 ∧ b.natAbs ≤ 1000000 ∧ (st = 1 ∨ st = -1 ∨ st = 2) then some (gQ a b st) else none
 | .ref i => match h[i]? with
  | some (.list vs) => some vs
  | _ => none
 | _ => none
noncomputable def stays (v:V) (h h':H):Bool:=match v with
 | .ref i => decide (h'[i]? = h[i]?)
 | _ => true
noncomputable def dK:Ex:=fun _ _ => none
noncomputable def ac (v:V):Ex:=fun _ h => some (v,h)
noncomputable def aa (i:Nat):Ex:=fun f h => (f i).map fun v => (v,h)
noncomputable def ao (op:Operator) (a b:Ex):Ex:=fun f h => (a f h).bind fun r => (b f r.2).bind fun q => sB op r.1 q.1 q.2
noncomputable def yf (a b:Ex):Ex:=fun f h => (a f h).bind fun r => (b f r.2).bind fun q => match q.1 with
 | .int y => if -1000 ≤ y ∧ y ≤ 1000 then some (.ref q.2.length,q.2 ++ [.list (List.replicate y.toNat r.1)]) else none
 | _ => none
noncomputable def i0 (op:UnaryOp) (a:Ex):Ex:=fun f h => (a f h).bind fun r => (Ds op r.1).map fun v => (v,r.2)
noncomputable def cG (op:CmpOp) (a b:Ex):Ex:=fun f h => (a f h).bind fun r => (b f r.2).bind fun q => (bI op r.1 q.1 q.2).map fun t => (.bool t,q.2)
noncomputable def bb:List Ex → Fm → H → Option (List V × H)
 | [],_,h => some ([],h)
 | e :: r,f,h => (e f h).bind fun p => (bb r f p.2).bind fun q => some (p.1 :: q.1,q.2)
noncomputable def af (g:G) (x:Str) (as:List Ex):Ex:=fun f h => (bb as f h).bind fun p => g x p.1 p.2
noncomputable def fD (c name:Str):Option Str:=
 if c = "ProofTree" then (if name = "add" then some "ProofTree.add" else if name = "settle" then some "ProofTree.settle" else none) else none
noncomputable def gv (name:Str) (id:Nat) (as:List V) (h:H):Option (V × H):=match h[id]?,as with
 | some (.list vs),[v] => if name = "append" ∧ vs.length ≤ 1000 then some (.none,h.set id (.list (vs ++ [v]))) else none
 | some (.list vs),[] => if name = "pop" then match vs.getLast? with
   | some v => if vs.length ≤ 1000000 then some (v,h.set id (.list vs.dropLast)) else none
   | none => none
  else none
 | _,_ => none
noncomputable def aZ (g:G) (o:Ex) (name:Str) (as:List Ex):Ex:=fun f h => (o f h).bind fun r => match r.1 with
 | .ref id => match r.2[id]? with
  | some (.list _) => (bb as f r.2).bind fun q => gv name id q.1 q.2
  | some (.inst c at') => match eW name at' with
   | none => match fD c name with
    | some k => (bb as f r.2).bind fun q => g k (.ref id :: q.1) q.2
    | none => none
   | some _ => none
  | _ => none
 | _ => none
noncomputable def ai (o:Ex) (x:Str):Ex:=fun f h => (o f h).bind fun r => (aB r.1 x r.2).map fun v => (v,r.2)
noncomputable def av (o i:Ex):Ex:=fun f h => (o f h).bind fun r => (i f r.2).bind fun q => (aO r.1 q.1 q.2).map fun v => (v,q.2)
noncomputable def c5 (o:Ex) (lo hi:Option Int):Ex:=fun f h => (o f h).bind fun r => fR r.1 lo hi r.2
noncomputable def aP (es:List Ex):Ex:=fun f h => (bb es f h).bind fun p => some (.ref p.2.length,p.2 ++ [.list p.1])
noncomputable def ud (vs:List V):Option V:=match cZ vs with
 | some l => some (.tup l)
 | none => match oo vs with
  | some l => some (.tup2 l)
  | none => match qN vs with
   | some l => some (.tupS l)
   | none => none
noncomputable def dM (es:List Ex):Ex:=fun f h => (bb es f h).bind fun p => (ud p.1).map fun v => (v,p.2)
noncomputable def ET (t:Tx) (a b:Ex):Ex:=fun f h => (t f h).bind fun r => if r.1 then a f r.2 else b f r.2
noncomputable def cf (op:BoolOp):List Ex → Ex
 | [] => dK
 | [x] => x
 | x :: y :: r => fun f h => (x f h).bind fun p => (dw p.1).bind fun t => match op,t with
  | .And,false => some p
  | .Or,true => some p
  | _,_ => cf op (y :: r) f p.2
noncomputable def dE (chk:H → Bool) (f':V → Fm) (ifs:Fm → H → Option (Bool × H)) (elt:Ex):List V → H → Option (List V × H)
 | [],h => some ([],h)
 | v :: r,h => (ifs (f' v) h).bind fun t => if chk t.2 then
   (if t.1 then (elt (f' v) t.2).bind fun q => if chk q.2 then (dE chk f' ifs elt r q.2).bind fun z => some (q.1 :: z.1,z.2) else none
    else dE chk f' ifs elt r t.2) else none
noncomputable def dz (x:Nat) (cm:Nat → Option Nat) (it:Ex) (ifs:Tx) (elt:Ex):Ex:=fun f h => (it f h).bind fun r => (az r.1 r.2).bind fun items =>
 if items.length ≤ 1000 then
 (dE (fun h' => stays r.1 r.2 h') (fun v j => if j = x then some v else (cm j).bind f) ifs elt items r.2).bind fun q => some (.ref q.2.length,q.2 ++ [.list q.1])
 else none
noncomputable def EU:Tx:=fun _ _ => none
noncomputable def aX (e:Ex):Tx:=fun f h => (e f h).bind fun r => (dw r.1).map fun b => (b,r.2)
noncomputable def fO (t:Tx):Tx:=fun f h => (t f h).map fun r => (!r.1,r.2)
noncomputable def ax (op:CmpOp) (a b:Ex):Tx:=fun f h => (a f h).bind fun r => (b f r.2).bind fun q => (bI op r.1 q.1 q.2).map fun t => (t,q.2)
noncomputable def cI (op:BoolOp):List Tx → Tx
 | [],_,h => some (op matches .And,h)
 | t :: r,f,h => (t f h).bind fun p => match op,p.1 with
  | .And,false => some (false,p.2)
  | .Or,true => some (true,p.2)
  | _,_ => cI op r f p.2
noncomputable def cb:List Tx → Tx
 | [],_,h => some (true,h)
 | t :: r,f,h => (t f h).bind fun p => if p.1 then cb r f p.2 else some (false,p.2)
noncomputable def iZ:Sx:=fun _ _ => none
noncomputable def zE:Sx:=fun f h => some (.next,f,h)
noncomputable def aj (i:Nat) (e:Ex):Sx:=fun f h => (e f h).bind fun r => some (.next,upd f i r.1,r.2)
noncomputable def dT:List Nat → List Int → Fm → Fm
 | i :: is,x :: xs,f => dT is xs (upd f i (.int x))
 | _,_,f => f
noncomputable def bz (is:List Nat) (e:Ex):Sx:=fun f h => (e f h).bind fun r => match r.1 with
 | .tup l => if l.length = is.length then some (.next,dT is l f,r.2) else none
 | _ => none
noncomputable def a8 (o:Ex) (x:Str) (e:Ex):Sx:=fun f h => (e f h).bind fun r => (o f r.2).bind fun q => (bj q.1 x r.1 q.2).map fun h' => (.next,f,h')
noncomputable def bB (o i:Ex) (e:Ex):Sx:=fun f h => (e f h).bind fun r => (o f r.2).bind fun q => (i f q.2).bind fun k => (cy q.1 k.1 r.1 k.2).map fun h' => (.next,f,h')
noncomputable def aF (i:Nat) (op:Operator) (e:Ex):Sx:=fun f h => (f i).bind fun old => (e f h).bind fun r => match old,r.1 with
 | .int a,.int b => (aQ op a b).map fun z => (.next,upd f i (.int z),r.2)
 | _,_ => none
noncomputable def bh (o:Ex) (x:Str) (op:Operator) (e:Ex):Sx:=fun f h => (o f h).bind fun r => (aB r.1 x r.2).bind fun old => (e f r.2).bind fun q => match old,q.1 with
 | .int a,.int b => (aQ op a b).bind fun z => (bj r.1 x (.int z) q.2).map fun h' => (.next,f,h')
 | _,_ => none
noncomputable def co (o i:Ex) (op:Operator) (e:Ex):Sx:=fun f h => (o f h).bind fun r => (i f r.2).bind fun k => (aO r.1 k.1 k.2).bind fun old => (e f k.2).bind fun q => match old,q.1 with
 | .int a,.int b => (aQ op a b).bind fun z => (cy r.1 k.1 (.int z) q.2).map fun h' => (.next,f,h')
 | _,_ => none
noncomputable def qp:V → Bool
 | .none => false
 | .bool _ => false
 | .int _ => false
 | .str _ => false
 | _ => true
noncomputable def au (e:Ex):Sx:=fun f h => (e f h).bind fun r => if qp r.1 then none else some (.next,f,r.2)
noncomputable def aw (e:Ex):Sx:=fun f h => (e f h).map fun r => (.ret r.1,f,r.2)
noncomputable def xi:Sx:=fun f h => some (.ret .none,f,h)
noncomputable def ag:List Sx → Sx
 | [],f,h => some (.next,f,h)
 | s :: r,f,h => (s f h).bind fun q => match q.1 with
  | .next => ag r q.2.1 q.2.2
  | .ret v => some (.ret v,q.2.1,q.2.2)
noncomputable def aU (t:Tx) (a b:Sx):Sx:=fun f h => (t f h).bind fun r => if r.1 then a f r.2 else b f r.2
noncomputable def bM (t:Tx) (b:Sx):Nat → Sx
 | 0,_,_ => none
 | n + 1,f,h => (t f h).bind fun r => if r.1 then (b f r.2).bind fun q => match q.1 with
   | .next => bM t b n q.2.1 q.2.2
   | .ret v => some (.ret v,q.2.1,q.2.2)
  else some (.next,f,r.2)
noncomputable def bQ (chk:H → Bool) (x:Nat) (b:Sx):List V → Sx
 | [],f,h => some (.next,f,h)
 | v :: r,f,h => (b (upd f x v) h).bind fun q => match q.1 with
  | .next => if chk q.2.2 then bQ chk x b r q.2.1 q.2.2 else none
  | .ret w => some (.ret w,q.2.1,q.2.2)
noncomputable def bF (x:Nat) (it:Ex) (b:Sx):Sx:=fun f h => (it f h).bind fun r => (az r.1 r.2).bind fun items => bQ (fun h' => stays r.1 r.2 h') x b items f r.2
noncomputable def gP:List (Str × V):=[(Str.ofString "WHITE",V.int 0),(Str.ofString "BLACK",V.int 1),(Str.ofString "NO_KIND",V.int 0),(Str.ofString "PAWN",V.int 1),(Str.ofString "KNIGHT",V.int 2),(Str.ofString "BISHOP",V.int 3),(Str.ofString "ROOK",V.int 4),(Str.ofString "QUEEN",V.int 5),(Str.ofString "KING",V.int 6),
 (Str.ofString "EMPTY",V.int 0),(Str.ofString "NORMAL",V.int 0),(Str.ofString "PROMOTION",V.int 1),(Str.ofString "EN_PASSANT",V.int 2),(Str.ofString "CASTLING",V.int 3),(Str.ofString "NO_MOVE",V.int 0),
 (Str.ofString "STEP_FILES",V.tup [0,1,0,-1,1,1,-1,-1]),(Str.ofString "STEP_RANKS",V.tup [1,0,-1,0,1,-1,-1,1]),
 (Str.ofString "MAY",V.int 0),(Str.ofString "NO_WING",V.int 1),(Str.ofString "RIGHT_LOST",V.int 2),(Str.ofString "NOT_FREE",V.int 3),(Str.ofString "IN_CHECK",V.int 4),(Str.ofString "PASSES_ATTACK",V.int 5),(Str.ofString "GOAL_ATTACKED",V.int 6),
 (Str.ofString "CAPTURES",V.int 0),(Str.ofString "QUIETS",V.int 1),(Str.ofString "NON_EVASIONS",V.int 2),(Str.ofString "EVASIONS",V.int 3),
 (Str.ofString "PROOF_INFINITE",V.int 1073741824),(Str.ofString "PROVED",V.int 1),(Str.ofString "DISPROVED",V.int (-1)),(Str.ofString "UNKNOWN",V.int 0),
 (Str.ofString "ONGOING",V.int 0),(Str.ofString "CHECKMATE",V.int 1),(Str.ofString "STALEMATE",V.int 2),(Str.ofString "FIFTY",V.int 3),(Str.ofString "REPETITION",V.int 4),(Str.ofString "MATERIAL",V.int 5),(Str.ofString "FIFTY_PLIES",V.int 100)]
noncomputable def aJ (ns:aK) (x:Str):Option (Nat × NameKind):=(ns.zipIdx.find? fun p => p.1.1 == x).map fun p => (p.2,p.1.2)
noncomputable def cq (ns:aK) (x:Str):Option Nat:=match aJ ns x with
 | some (i,.local) => some i
 | some (i,.cell) => some i
 | some (i,.free) => some i
 | _ => none
noncomputable def gw (ns:aK) (x:Str):Bool:=match aJ ns x with
 | some (_,.globalImplicit) => true
 | _ => false
noncomputable def wU (ns:aK) (x:Str):Ex:=match cq ns x with
 | some i => aa i
 | none => if gw ns x then (match gP.lookup x with | some v => ac v | none => dK) else dK
noncomputable def si:Const → Option V
 | .none => some .none
 | .bool b => some (.bool b)
 | .int i => some (.int i)
 | .str s => some (.str s)
 | _ => none
noncomputable def wn:Const → Option Int
 | .int i => some i
 | _ => none
noncomputable def Fq:Expr → Option Int
 | .Constant c _ _ => wn c
 | _ => none
noncomputable def jW:Expr → Option Int
 | .Constant c _ _ => wn c
 | .UnaryOp op e _ => (match op with | .USub => (Fq e).map (-·) | _ => none)
 | _ => none
noncomputable def fz (ns cs:aK) (j:Nat):Option Nat:=match cs[j]? with
 | some (y,.free) => cq ns y
 | _ => none
noncomputable def eB:PySem.Expr → Bool
 | .Call _ _ _ _ => false
 | _ => true
noncomputable def Az (h:H):List V → Option (V × H)
 | [.int b] => some (.range 0 b 1,h)
 | [.int a,.int b] => some (.range a b 1,h)
 | [.int a,.int b,.int st] => if st = -1 ∨ st = 2 then some (.range a b st,h) else none
 | _ => none
noncomputable def one (f:V → Option V) (h:H):List V → Option (V × H)
 | [a] => (f a).map fun v => (v,h)
 | _ => none
noncomputable def Bq (h:H):V → Option V
 | .ref i => (match h[i]? with | some (.list vs) => if vs.length ≤ 1000000 then some (.int vs.length) else none | _ => none)
 | _ => none
noncomputable def bJ (x:Str) (as:List V) (h:H):Option (V × H):=
 if x = "range" then Az h as
 else if x = "len" then one (Bq h) h as
 else if x = "abs" then one (EO fun i => i.natAbs) h as
 else none
noncomputable def mE (x:Str):Bool:=x.cps.toList.contains 46
noncomputable def Ek (ns:aK) (x:Str):Bool:=match aJ ns x with
 | some (_,.cell) => true
 | some (_,.free) => true
 | _ => false
noncomputable def qe (ns:aK) (x:Str):Bool:=match aJ ns x with
 | some (_,.local) => true
 | _ => false
noncomputable def we (ns:aK) (x:Str):Bool:=match aJ ns x with
 | some (_,.cell) => true
 | _ => false
noncomputable def v8 (ns:aK) (sc:Scope) (x:Str):Bool:=decide (sc.kind = .function) &&
 ((qe sc.names x && (sc.names.filter fun p => p.2 == .cell) == []) || (we sc.names x && (sc.names.filter fun p => p.2 == .cell) == [(x,.cell)])) &&
 sc.names.all fun p => (decide (p.2 ≠ .free) || (Ek ns p.1 && p.1 != x)) && (decide (p.2 ≠ .local) || sc.names.lookup p.1 == some .local)
noncomputable def F8 (de:Expr → Ex) (op:Operator) (r:Expr):Expr → Ex
 | .List xs p => (match xs,op with
  | [x],.Mult => yf (de x) (de r)
  | xs,op => ao op (de (.List xs p)) (de r))
 | l => ao op (de l) (de r)
noncomputable def FB (de:Expr → Ex) (l:Expr):List CmpOp → List Expr → Ex
 | [op],[r] => if behindInMarks op r then dK else cG op (de l) (de r)
 | _,_ => dK
noncomputable def C6 (de:Expr → Ex) (l:Expr):List CmpOp → List Expr → Tx
 | [op],[r] => if behindInMarks op r then EU else ax op (de l) (de r)
 | _,_ => EU
noncomputable def CK (g:G) (ns:aK) (de:Expr → Ex) (as:List Expr) (p:Pos):Expr → Ex
 | .Attribute o x ap => if eB o && (ap.endLine == p.line) && decide (as.length < 29) then aZ g (de o) x (as.map de) else dK
 | .Name x _ => if gw ns x && decide (as.length < 29) && decide (x ≠ "__debug__") && !mE x then af g x (as.map de) else dK
 | _ => dK
noncomputable def Ai (e:Ex):Option Expr → Option Expr → Ex
 | none,none => c5 e none none
 | none,some k => (match jW k with | some k => c5 e none (some k) | none => dK)
 | some k,none => (match jW k with | some k => c5 e (some k) none | none => dK)
 | some _,some _ => dK
noncomputable def Fa (de:Expr → Ex) (o:Expr):Expr → Ex
 | .Slice lo hi st _ => (match st with | none => Ai (de o) lo hi | some _ => dK)
 | i => av (de o) (de i)
noncomputable def Fv (f:Str → Expr → List Expr → Ex):List Comprehension → Ex
 | [] => dK
 | c :: r => (match r with
  | [] => (match c.target with
   | .Name x _ => if c.is_async = 0 then f x c.iter c.ifs else dK
   | _ => dK)
  | _ => dK)
noncomputable def FD (ns:aK) (de:Expr → Ex) (q:(aK → Expr → Ex) × (aK → Expr → Tx)) (elt:Expr) (sc:Scope) (x:Str) (iter:Expr) (ifs:List Expr):Ex:=
 if !v8 ns sc x then dK else (match cq sc.names x with
  | some i => dz i (fz ns sc.names) (de iter) (cb (ifs.map (q.2 sc.names))) (q.1 sc.names elt)
  | none => dK)
noncomputable def dX:Nat → G → (aK → Expr → Ex) × (aK → Expr → Tx)
 | 0,_ => (fun _ _ => dK,fun _ _ => EU)
 | d + 1,g =>
  let de:=(dX d g).1
  let dt:=(dX d g).2
  (fun ns e => match e with
   | .Constant c _ _ => (match si c with | some v => ac v | none => dK)
   | .Name x _ => if x = "__debug__" ∨ x = "__classdict__" then dK else wU ns x
   | .BinOp l op r _ => F8 (de ns) op r l
   | .UnaryOp op x _ => i0 op (de ns x)
   | .Compare l ops rs _ => FB (de ns) l ops rs
   | .BoolOp op vs _ => cf op (vs.map (de ns))
   | .IfExp t a b _ => ET (dt ns t) (de ns a) (de ns b)
   | .Call fn as kw p => (match kw with | [] => CK g ns (de ns) as p fn | _ => dK)
   | .Attribute o x _ => if eB o then ai (de ns o) x else dK
   | .Subscript o i _ => Fa (de ns) o i
   | .List es _ => if 1000 < es.length then dK else aP (es.map (de ns))
   | .Tuple es _ _ => if 1000 < es.length then dK else dM (es.map (de ns))
   | .ListComp elt gs sc _ => Fv (FD ns (de ns) (dX d bJ) elt sc) gs
   | _ => dK,
   fun ns e => match e with
   | .UnaryOp op x p => (match op with | .Not => fO (dt ns x) | _ => aX (de ns (.UnaryOp op x p)))
   | .BoolOp op vs _ => cI op (vs.map (dt ns))
   | .Compare l ops rs _ => C6 (de ns) l ops rs
   | .IfExp _ _ _ _ => EU
   | e => aX (de ns e))
noncomputable def fC (ns:aK) (x:Str):Option Nat:=match aJ ns x with
 | some (i,.local) => some i
 | some (i,.cell) => some i
 | _ => none
noncomputable def qz (ns:aK) (x:Str) (l:Nat):PySem.Expr → Bool
 | .ListComp _ _ sc p => qe ns x && (l == p.line) && !(sc.names.any fun (n,k) => n == x && (k == .local || k == .cell))
 | .SetComp _ _ _ _ => false
 | .DictComp _ _ _ _ _ => false
 | _ => true
noncomputable def vT:PySem.Expr → Bool
 | .Tuple _ _ _ => false
 | _ => true
noncomputable def eD (ns:aK):List Expr → Option (List Nat)
 | [] => some []
 | .Name x _ :: r => (fC ns x).bind fun i => (eD ns r).map (i :: ·)
 | _ => none
noncomputable def El (e:Expr):Bool:=match e with
 | .Constant _ _ _ => false
 | .Name _ _ => false
 | .ListComp _ _ _ _ => false
 | .SetComp _ _ _ _ => false
 | .DictComp _ _ _ _ _ => false
 | _ => true
noncomputable def Fy (ns:aK) (de:Expr → Ex) (e:Expr):Expr → Sx
 | .Name x px => if !qz ns x px.line e then iZ else (match fC ns x with | some i => aj i (de e) | none => iZ)
 | .Tuple ts _ _ => if !vT e then iZ else (match eD ns ts with | some is => bz is (de e) | none => iZ)
 | .Attribute o x _ => a8 (de o) x (de e)
 | .Subscript o i _ => bB (de o) (de i) (de e)
 | _ => iZ
noncomputable def FP (ns:aK) (de:Expr → Ex) (op:Operator) (e:Expr):Expr → Sx
 | .Name x _ => if x = "__classdict__" then iZ else (match fC ns x with | some i => aF i op (de e) | none => iZ)
 | .Attribute o x _ => bh (de o) x op (de e)
 | .Subscript o i _ => co (de o) (de i) op (de e)
 | _ => iZ
noncomputable def FA (ns:aK) (it:Ex) (b:Sx):Expr → Sx
 | .Name x _ => (match fC ns x with | some i => bF i it b | none => iZ)
 | _ => iZ
noncomputable def dS (g:G) (n:Nat) (ns:aK):Nat → Stmt → Sx
 | 0,_ => iZ
 | d + 1,s =>
  let de:=(dX d g).1 ns
  let dt:=(dX d g).2 ns
  let ds:=dS g n ns d
  match s with
  | .Pass _ => zE
  | .Expr e _ => if El e then au (de e) else iZ
  | .Return v _ => (match v with | some e => aw (de e) | none => xi)
  | .Assign ts e _ => (match ts with | [t] => Fy ns de e t | _ => iZ)
  | .AugAssign t op e _ => FP ns de op e t
  | .If t a b _ => aU (dt t) (ag (a.map ds)) (ag (b.map ds))
  | .While t b el _ => (match el with | [] => bM (dt t) (ag (b.map ds)) n | _ => iZ)
  | .For t it b el _ => (match el with | [] => FA ns (de it) (ag (b.map ds)) t | _ => iZ)
  | _ => iZ
structure Fn where
 params:List Str
 names:aK
 body:List Stmt
inductive AT where
 | fn (f:Fn) | cls (c:Str)
noncomputable def z9 (args:Arguments) (sc:Scope) (body:List Stmt):Fn:=⟨args.args.map (·.arg),sc.names,body⟩
noncomputable def vV (c:Str):List Stmt → List (Str × AT)
 | [] => []
 | .FunctionDef name args body _ _ _ sc _ _ _ :: r => (c ++ name,.fn (z9 args sc body)) :: vV c r
 | _ :: r => vV c r
noncomputable def jK:List (Str × AT) → List Stmt → List (Str × AT)
 | acc,[] => acc
 | acc,.FunctionDef name args body _ _ _ sc _ _ _ :: r => jK ((name,.fn (z9 args sc body)) :: acc) r
 | acc,.ClassDef name [] _ body _ _ _ _ _ _ _ :: r => jK ((name,.cls name) :: (vV (name ++ ".") body ++ acc)) r
 | acc,.Assign [.Name a _] (.Name m _) _ :: r => (match acc.lookup m with | some d => jK ((a,d) :: acc) r | none => jK acc r)
 | acc,_ :: r => jK acc r
noncomputable def mX (ns:aK):List Str → List V → Fm → Option Fm
 | [],[],f => some f
 | x :: xs,v :: vs,f => (cq ns x).bind fun i => mX ns xs vs (upd f i v)
 | _,_,_ => none
noncomputable def CL (g:G) (n:Nat) (f:Fn) (as:List V) (h:H):Option (V × H):=
 (mX f.names f.params as fun _ => none).bind fun fm => (ag (f.body.map (dS g n f.names 30)) fm h).map fun q => (match q.1 with | .ret v => v | .next => .none,q.2.2)
noncomputable def run (P:List (Str × AT)):Nat → G
 | 0 => fun _ _ _ => none
 | n + 1 => fun x as h => match P.lookup x with
  | some (.fn f) => CL (run P n) n f as h
  | some (.cls c) => (run P n (c ++ ".__init__") (.ref h.length :: as) (h ++ [.inst c []])).bind fun q => if q.1 = .none then some (.ref h.length,q.2) else none
  | none => bJ x as h
noncomputable def ah:List (Str × AT):=jK [] PySem.Challenge.pw_pf0106_01.main.body
inductive B1 {α β : Type} (o:Option α) (f:α → Option β) (r:β):Prop
 | mk (a:α) (h:o = some a) (k:f a = some r)
inductive B2 {α β γ : Type} (o:Option (α × β)) (f:α × β → Option γ) (r:γ):Prop
 | mk (a:α) (b:β) (h:o = some (a,b)) (k:f (a,b) = some r)
inductive M1 {α β : Type} (o:Option α) (f:α → β) (r:β):Prop
 | mk (a:α) (h:o = some a) (k:f a = r)
theorem bnd1 {α β : Type} {o:Option α} {f:α → Option β} {r:β} (h:o.bind f = some r):B1 o f r:=by
 cases o with
 | none => cases h
 | some a => exact ⟨a,rfl,h⟩
theorem bnd2 {α β γ : Type} {o:Option (α × β)} {f:α × β → Option γ} {r:γ} (h:o.bind f = some r):B2 o f r:=by
 cases o with
 | none => cases h
 | some a => exact ⟨a.1,a.2,rfl,h⟩
theorem mpd {α β : Type} {o:Option α} {f:α → β} {r:β} (h:o.map f = some r):M1 o f r:=by
 cases o with
 | none => cases h
 | some a => exact ⟨a,rfl,Option.some.inj h⟩
@[elab_as_elim] theorem rwL.{u} {α : Sort u} {a b:α} {motive:α → Prop} (h:a = b) (k:motive b):motive a:=h ▸ k
@[elab_as_elim] theorem rwR.{u} {α : Sort u} {a b:α} {motive:α → Prop} (h:a = b) (k:motive a):motive b:=h ▸ k
theorem Ix {P:Prop} (h:(P → False) → False):P:=Classical.byContradiction h
theorem some1e {α : Type} {a b:α} {P:Prop} (h:some a = some b) (k:b = a → P):P:=k (Option.some.inj h).symm
theorem pair2e {α β : Type} {a c:α} {b d:β} {P:Prop} (h:(a,b) = (c,d)) (k:c = a → b = d → P):P:=k (congrArg Prod.fst h).symm (congrArg Prod.snd h)
theorem some2e {α β : Type} {a c:α} {b d:β} {P:Prop} (h:some (a,b) = some (c,d)) (k:c = a → b = d → P):P:=pair2e (Option.some.inj h) k
theorem some3e {α β γ : Type} {a c:α} {b d:β} {x y:γ} {P:Prop} (h:some (a,b,x) = some (c,d,y)) (k:c = a → b = d → x = y → P):P:=pair2e (Option.some.inj h) fun p q => pair2e q fun q r => k p q.symm r
theorem ex0_3 {A B C P:Prop} (h:A ∧ B ∧ C) (k:A → B → C → P):P:=by
 rcases h with ⟨a,b,c⟩
 exact k a b c
theorem ex1_2 {X:Type} {A B:X → Prop} {P:Prop} (h:∃ x,A x ∧ B x) (k:∀ x,A x → B x → P):P:=by
 rcases h with ⟨x,a,b⟩
 exact k x a b
theorem ex2_1 {X Y:Type} {A:X → Y → Prop} {P:Prop} (h:∃ x y,A x y) (k:∀ x y,A x y → P):P:=by
 rcases h with ⟨x,y,a⟩
 exact k x y a
theorem ex0_4 {A B C D P:Prop} (h:A ∧ B ∧ C ∧ D) (k:A → B → C → D → P):P:=by
 rcases h with ⟨a,b,c,d⟩
 exact k a b c d
theorem ex1_3 {X:Type} {A B C:X → Prop} {P:Prop} (h:∃ x,A x ∧ B x ∧ C x) (k:∀ x,A x → B x → C x → P):P:=by
 rcases h with ⟨x,a,b,c⟩
 exact k x a b c
theorem ex2_2 {X Y:Type} {A B:X → Y → Prop} {P:Prop} (h:∃ x y,A x y ∧ B x y) (k:∀ x y,A x y → B x y → P):P:=by
 rcases h with ⟨x,y,a,b⟩
 exact k x y a b
theorem ex3_1 {X Y Z:Type} {A:X → Y → Z → Prop} {P:Prop} (h:∃ x y z,A x y z) (k:∀ x y z,A x y z → P):P:=by
 rcases h with ⟨x,y,z,a⟩
 exact k x y z a
theorem ex0_5 {A B C D E P:Prop} (h:A ∧ B ∧ C ∧ D ∧ E) (k:A → B → C → D → E → P):P:=by
 rcases h with ⟨a,b,c,d,e⟩
 exact k a b c d e
theorem ex1_4 {X:Type} {A B C D:X → Prop} {P:Prop} (h:∃ x,A x ∧ B x ∧ C x ∧ D x) (k:∀ x,A x → B x → C x → D x → P):P:=by
 rcases h with ⟨x,a,b,c,d⟩
 exact k x a b c d
theorem ex2_3 {X Y:Type} {A B C:X → Y → Prop} {P:Prop} (h:∃ x y,A x y ∧ B x y ∧ C x y) (k:∀ x y,A x y → B x y → C x y → P):P:=by
 rcases h with ⟨x,y,a,b,c⟩
 exact k x y a b c
theorem ex3_2 {X Y Z:Type} {A B:X → Y → Z → Prop} {P:Prop} (h:∃ x y z,A x y z ∧ B x y z) (k:∀ x y z,A x y z → B x y z → P):P:=by
 rcases h with ⟨x,y,z,a,b⟩
 exact k x y z a b
theorem ex4_1 {X Y Z W:Type} {A:X → Y → Z → W → Prop} {P:Prop} (h:∃ x y z w,A x y z w) (k:∀ x y z w,A x y z w → P):P:=by
 rcases h with ⟨x,y,z,w,a⟩
 exact k x y z w a
theorem ex0_6 {A B C D E F P:Prop} (h:A ∧ B ∧ C ∧ D ∧ E ∧ F) (k:A → B → C → D → E → F → P):P:=by
 rcases h with ⟨a,b,c,d,e,f⟩
 exact k a b c d e f
theorem ex1_5 {X:Type} {A B C D E:X → Prop} {P:Prop} (h:∃ x,A x ∧ B x ∧ C x ∧ D x ∧ E x) (k:∀ x,A x → B x → C x → D x → E x → P):P:=by
 rcases h with ⟨x,a,b,c,d,e⟩
 exact k x a b c d e
theorem ex2_4 {X Y:Type} {A B C D:X → Y → Prop} {P:Prop} (h:∃ x y,A x y ∧ B x y ∧ C x y ∧ D x y) (k:∀ x y,A x y → B x y → C x y → D x y → P):P:=by
 rcases h with ⟨x,y,a,b,c,d⟩
 exact k x y a b c d
theorem ex3_3 {X Y Z:Type} {A B C:X → Y → Z → Prop} {P:Prop} (h:∃ x y z,A x y z ∧ B x y z ∧ C x y z) (k:∀ x y z,A x y z → B x y z → C x y z → P):P:=by
 rcases h with ⟨x,y,z,a,b,c⟩
 exact k x y z a b c
theorem ex4_2 {X Y Z W:Type} {A B:X → Y → Z → W → Prop} {P:Prop} (h:∃ x y z w,A x y z w ∧ B x y z w) (k:∀ x y z w,A x y z w → B x y z w → P):P:=by
 rcases h with ⟨x,y,z,w,a,b⟩
 exact k x y z w a b
theorem ex5_1 {X Y Z W U:Type} {A:X → Y → Z → W → U → Prop} {P:Prop} (h:∃ x y z w u,A x y z w u) (k:∀ x y z w u,A x y z w u → P):P:=by
 rcases h with ⟨x,y,z,w,u,a⟩
 exact k x y z w u a
theorem ex0_7 {A B C D E F G P:Prop} (h:A ∧ B ∧ C ∧ D ∧ E ∧ F ∧ G) (k:A → B → C → D → E → F → G → P):P:=by
 rcases h with ⟨a,b,c,d,e,f,g⟩
 exact k a b c d e f g
theorem ex1_6 {X:Type} {A B C D E F:X → Prop} {P:Prop} (h:∃ x,A x ∧ B x ∧ C x ∧ D x ∧ E x ∧ F x) (k:∀ x,A x → B x → C x → D x → E x → F x → P):P:=by
 rcases h with ⟨x,a,b,c,d,e,f⟩
 exact k x a b c d e f
theorem ex2_5 {X Y:Type} {A B C D E:X → Y → Prop} {P:Prop} (h:∃ x y,A x y ∧ B x y ∧ C x y ∧ D x y ∧ E x y) (k:∀ x y,A x y → B x y → C x y → D x y → E x y → P):P:=by
 rcases h with ⟨x,y,a,b,c,d,e⟩
 exact k x y a b c d e
theorem ex3_4 {X Y Z:Type} {A B C D:X → Y → Z → Prop} {P:Prop} (h:∃ x y z,A x y z ∧ B x y z ∧ C x y z ∧ D x y z) (k:∀ x y z,A x y z → B x y z → C x y z → D x y z → P):P:=by
 rcases h with ⟨x,y,z,a,b,c,d⟩
 exact k x y z a b c d
theorem ex1_7 {X:Type} {A B C D E F G:X → Prop} {P:Prop} (h:∃ x,A x ∧ B x ∧ C x ∧ D x ∧ E x ∧ F x ∧ G x) (k:∀ x,A x → B x → C x → D x → E x → F x → G x → P):P:=by
 rcases h with ⟨x,a,b,c,d,e,f,g⟩
 exact k x a b c d e f g
theorem ex2_6 {X Y:Type} {A B C D E F:X → Y → Prop} {P:Prop} (h:∃ x y,A x y ∧ B x y ∧ C x y ∧ D x y ∧ E x y ∧ F x y) (k:∀ x y,A x y → B x y → C x y → D x y → E x y → F x y → P):P:=by
 rcases h with ⟨x,y,a,b,c,d,e,f⟩
 exact k x y a b c d e f
theorem ex3_5 {X Y Z:Type} {A B C D E:X → Y → Z → Prop} {P:Prop} (h:∃ x y z,A x y z ∧ B x y z ∧ C x y z ∧ D x y z ∧ E x y z) (k:∀ x y z,A x y z → B x y z → C x y z → D x y z → E x y z → P):P:=by
 rcases h with ⟨x,y,z,a,b,c,d,e⟩
 exact k x y z a b c d e
theorem ex4_4 {X Y Z W:Type} {A B C D:X → Y → Z → W → Prop} {P:Prop} (h:∃ x y z w,A x y z w ∧ B x y z w ∧ C x y z w ∧ D x y z w) (k:∀ x y z w,A x y z w → B x y z w → C x y z w → D x y z w → P):P:=by
 rcases h with ⟨x,y,z,w,a,b,c,d⟩
 exact k x y z w a b c d
theorem ex2_7 {X Y:Type} {A B C D E F G:X → Y → Prop} {P:Prop} (h:∃ x y,A x y ∧ B x y ∧ C x y ∧ D x y ∧ E x y ∧ F x y ∧ G x y) (k:∀ x y,A x y → B x y → C x y → D x y → E x y → F x y → G x y → P):P:=by
 rcases h with ⟨x,y,a,b,c,d,e,f,g⟩
 exact k x y a b c d e f g
theorem ex3_6 {X Y Z:Type} {A B C D E F:X → Y → Z → Prop} {P:Prop} (h:∃ x y z,A x y z ∧ B x y z ∧ C x y z ∧ D x y z ∧ E x y z ∧ F x y z) (k:∀ x y z,A x y z → B x y z → C x y z → D x y z → E x y z → F x y z → P):P:=by
 rcases h with ⟨x,y,z,a,b,c,d,e,f⟩
 exact k x y z a b c d e f
theorem ex4_6 {X Y Z W:Type} {A B C D E F:X → Y → Z → W → Prop} {P:Prop} (h:∃ x y z w,A x y z w ∧ B x y z w ∧ C x y z w ∧ D x y z w ∧ E x y z w ∧ F x y z w) (k:∀ x y z w,A x y z w → B x y z w → C x y z w → D x y z w → E x y z w → F x y z w → P):P:=by
 rcases h with ⟨x,y,z,w,a,b,c,d,e,f⟩
 exact k x y z w a b c d e f
theorem ex5_5 {X Y Z W U:Type} {A B C D E:X → Y → Z → W → U → Prop} {P:Prop} (h:∃ x y z w u,A x y z w u ∧ B x y z w u ∧ C x y z w u ∧ D x y z w u ∧ E x y z w u) (k:∀ x y z w u,A x y z w u → B x y z w u → C x y z w u → D x y z w u → E x y z w u → P):P:=by
 rcases h with ⟨x,y,z,w,u,a,b,c,d,e⟩
 exact k x y z w u a b c d e
theorem CO {X:Type} {p:X → Prop} (k:∀ G:Prop,(∀ x,p x → G) → G):∃ x,p x:=k _ fun x h => ⟨x,h⟩
theorem FW {X Y:Type} {p:X → Y → Prop} (k:∀ G:Prop,(∀ x y,p x y → G) → G):∃ x y,p x y:=k _ fun x y h => ⟨x,y,h⟩
theorem E4 {X Y Z W U:Type} {p:X → Y → Z → W → U → Prop} (k:∀ G:Prop,(∀ x y z w u,p x y z w u → G) → G):∃ x y z w u,p x y z w u:=k _ fun x y z w u h => ⟨x,y,z,w,u,h⟩
theorem iteE {α : Type} {c:Prop} [Decidable c] {a b r:α} {P:Prop} (h:(if c then a else b) = r) (k:c → a = r → P) (k':¬ c → b = r → P):P:=
 if q:c then k q ((if_pos q).symm.trans h) else k' q ((if_neg q).symm.trans h)
end
end
end Mine
open Lean Mine in
local macro_rules (kind:=Lean.Parser.Tactic.rwSeq) | s => do
    if s[1][0].getNumArgs + s[3].getNumArgs != 0 then Macro.throwUnsupported
    let mut a:=st [] "skip^Tactic.skip1/"
    for r in s[2][1].getSepArgs do
      a:=st [a,r,r[1],mkIdent (if r[0].getNumArgs == 0 then `Mine.rwL else `Mine.rwR)] "0$refine^3$2$1#..^Term.ellipsis1/1/Term.app2/1#?2/Term.app2/Tactic.refine2/rewrite^0/Tactic.optConfig1/[^1$1/]^Tactic.rwRuleSeq3/0/Tactic.rewriteSeq4/2|2;"
    return st [a] "0$with_reducible^try^rfl^Tactic.tacticRfl1/1~Tactic.tacticTry_2/1~Tactic.withReducible2/2;"
open Lean Mine in
local macro_rules (kind:=Lean.Parser.Tactic.obtain) | s => do
    let pm:=s[1][0]
    let e:=s[3][1][0]
    if s[2].getNumArgs != 0 || e.isMissing || pm[0].getSepArgs.size != 1 || !pm[0][0].isOfKind ``Parser.Tactic.rcasesPat.tuple then Macro.throwUnsupported
    if e[0].isIdent && [`bnd1,`bnd2,`mpd].contains e[0].getId && e[1][0].isIdent then
      return st [e[1][0],e,pm] "replace^0$Term.letId1/0/0/:=^1$Term.letIdDecl5/Term.letDecl1/Tactic.replace2/rcases^0/0$Tactic.elimTarget2/1/with^2$0/Tactic.rcasesPatLo2/2/Tactic.rcases3/2;"
    let els:=pm[0][0][1].getSepArgs
    let n:=els.size
    if n < 3 || n > 10 then Macro.throwUnsupported
    let mut ids:=[]
    let mut post:=[]
    for i in [0:n] do
      let m:=els[i]![0]
      let o:=m[0][0]
      if m[0].getNumArgs == 1 && o.isOfKind ``Parser.Tactic.rcasesPat.one && els[i]![1].isNone && o[0].getId != `rfl then ids:=ids ++ [o[0]]
      else
        let x:=mkIdent (Name.mkSimple s!"xq{i}")
        ids:=ids ++ [x.raw]
        post:=post ++ [st [x,m] "rcases^0/0$Tactic.elimTarget2/1/with^1$0/Tactic.rcasesPatLo2/2/Tactic.rcases3/"]
    let its:=.node .none `null ids.toArray
    let mut r:=st [pm,e] "rcases^0/1$Tactic.elimTarget2/1/with^0$0/Tactic.rcasesPatLo2/2/Tactic.rcases3/"
    for k in [0:min n 6] do
      let mut a:=st [e,its,mkIdent (`Mine ++ Name.mkSimple s!"ex{k}_{n - k}")] "refine^2$0$1#?2/Term.app2/Tactic.refine2/try^clear^0$1/Tactic.clear2/1~Tactic.tacticTry_2/intro^1$Tactic.intro2/3;"
      for q in post do a:=st [a,q] "0$1$2;"
      r:=st [a,r] "0$1$2|"
    return r
open Lean Mine in
local macro_rules (kind:=Lean.Parser.Tactic.cases) | s => do
    let x:=s[1][0][1]
    if s[1].getNumArgs + s[1][0][0].getNumArgs + s[2].getNumArgs != 1 || !x.isIdent then Macro.throwUnsupported
    let r:=[x,s[3]]
    if s[3].getNumArgs == 1 then
      let mut r:=st r "cases^0/0$1#Tactic.elimTarget2/1/0/1$Tactic.cases4/"
      for n in ["Nat.casesAuxOn","Mine.Fl.casesOn","Mine.MO.casesOn","Mine.V.casesOn","PySem.Stmt.casesOn","PySem.Expr.casesOn","List.casesOn","Bool.casesOn","Option.casesOn"] do
        r:=st [x,s[3],mkIdent n.toName,r] "induction^0/0$Tactic.elimTarget2/1/using^2$2/0/1$Tactic.induction5/3$2|"
      return r
    let mut r:=st r "exfalso^Tactic.tacticExfalso1/injection^0$0/Tactic.injection3/done^Tactic.done1/3;cases^0/0$1#Tactic.elimTarget2/1/0/0/Tactic.cases4/2|"
    for (n,k) in [("Mine.pair2e",2),("Mine.some3e",3),("Mine.some2e",2),("Mine.some1e",1)] do
      let mut w:=st [x,mkIdent n.toName] "refine^1$0$?2/Term.app2/Tactic.refine2/clear^0$1/Tactic.clear2/2;"
      for _ in [0:k] do w:=st [w] "0$intro^e`1/Tactic.intro2/subst^e`1/Tactic.subst2/3;"
      r:=st [w,r] "0$1$2|"
    return r
open Lean Mine in
local macro_rules (kind:=Lean.Parser.Tactic.split) | s => do
    let x:=s[2][0][1][0][0]
    if s[1].getNumArgs != 0 || !x.isIdent then Macro.throwUnsupported
    return st [x] "refine^Mine.iteE`0$??3/Term.app2/Tactic.refine2/clear^0$1/Tactic.clear2/intro^_^Term.hole1/0$2/Tactic.intro2/2;2!split^0/at^0$1#1/Tactic.locationHyp1/Tactic.location2/1/Tactic.split3/2|"
open Lean Mine in
local macro_rules (kind:=Lean.Parser.Tactic.generalize) | s => do
    let g:=s[1][0]
    let l:=s[2][0][1]
    if s[1].getNumArgs != 1 || s[2].getNumArgs == 1 && !l.isOfKind ``Parser.Tactic.locationHyp then Macro.throwUnsupported
    let h:=if g[0].getNumArgs == 0 then (mkIdent `eg).raw else g[0][0]
    let z:=st [g[1],g[3],h,mkIdent `Mine.genE,mkIdent `Mine.rwL] "refine^3$0$1#?2/Term.app2/Tactic.refine2/intro^1$2$2/Tactic.intro2/2;"
    let y:=st [g[1],g[3],h,mkIdent `Mine.genE,mkIdent `Mine.rwL] "refine^4$2$?2/Term.app2/Tactic.refine2/"
    if s[2].getNumArgs == 0 then return st [z,y] "0$1$2;"
    return st [.node .none `null (l[0].getArgs.filter (·.isIdent)),z,y] "1$revert^0$Tactic.revert2/2$intro^0$Tactic.intro2/4;"
namespace Mine
noncomputable section
section
open PySem PySem.W PySem.Calls PyProof.Rows
abbrev ay:=List (Addr × Obj)
abbrev b9:=List (Addr × Option Addr)
inductive All2 {α β : Type} (R:α → β → Prop):List α → List β → Prop
 | nil:All2 R [] []
 | cons {a b l r}:R a b → All2 R l r → All2 R (a :: l) (b :: r)
theorem All2.l1 {α β : Type} {R:α → β → Prop} {l:List α} {b:β} (h:All2 R l [b]):∃ a,l = [a] ∧ R a b:=by
 cases h with | cons h1 h2 => cases h2; exact ⟨_,rfl,h1⟩
theorem All2.l2 {α β : Type} {R:α → β → Prop} {l:List α} {b c:β} (h:All2 R l [b,c]):∃ a d,l = [a,d] ∧ R a b ∧ R d c:=by
 cases h with | cons h1 h2 => obtain ⟨d,rfl,h3⟩:=h2.l1; exact ⟨_,d,rfl,h1,h3⟩
theorem All2.l3 {α β : Type} {R:α → β → Prop} {l:List α} {b c x:β} (h:All2 R l [b,c,x]):∃ a d e,l = [a,d,e] ∧ R a b ∧ R d c ∧ R e x:=by
 cases h with | cons h1 h2 => obtain ⟨d,e,rfl,h3⟩:=h2.l2; exact ⟨_,d,e,rfl,h1,h3⟩
theorem All2.length {α β : Type} {R:α → β → Prop} {l:List α} {r:List β} (h:All2 R l r):l.length = r.length:=by
 induction h with
 | nil => rfl
 | cons _ _ ih => simp [ih]
theorem All2.get {α β : Type} {R:α → β → Prop} {l:List α} {r:List β} (h:All2 R l r) {i:Nat} {b:β} (e:r[i]? = some b):∃ a,l[i]? = some a ∧ R a b:=by
 induction h generalizing i with
 | nil => simp at e
 | cons x _ ih =>
  cases i with
  | zero => simp at e; subst e; exact ⟨_,rfl,x⟩
  | succ i => simp at e; obtain ⟨a,ha,hr⟩:=ih e; exact ⟨a,by simpa using ha,hr⟩
theorem All2.mono {α β : Type} {R S:α → β → Prop} {l:List α} {r:List β} (h:All2 R l r) (k:∀ a b,R a b → S a b):All2 S l r:=by
 induction h with
 | nil => exact .nil
 | cons x _ ih => exact .cons (k _ _ x) ih
theorem All2.append {α β : Type} {R:α → β → Prop} {l l':List α} {r r':List β} (h:All2 R l r) (h':All2 R l' r'):All2 R (l ++ l') (r ++ r'):=by
 induction h with
 | nil => exact h'
 | cons x _ ih => exact .cons x ih
theorem All2.take {α β : Type} {R:α → β → Prop} {l:List α} {r:List β} (h:All2 R l r) (n:Nat):All2 R (l.take n) (r.take n):=by
 induction h generalizing n with
 | nil => simp; exact .nil
 | cons x _ ih => cases n with
  | zero => simp; exact .nil
  | succ n => simp; exact .cons x (ih n)
theorem All2.drop {α β : Type} {R:α → β → Prop} {l:List α} {r:List β} (h:All2 R l r) (n:Nat):All2 R (l.drop n) (r.drop n):=by
 induction h generalizing n with
 | nil => simp; exact .nil
 | cons x t ih => cases n with
  | zero => simp; exact .cons x t
  | succ n => simp; exact ih n
theorem All2.set {α β : Type} {R:α → β → Prop} {l:List α} {r:List β} (h:All2 R l r) {i:Nat} {a:α} {b:β} (x:R a b):All2 R (l.set i a) (r.set i b):=by
 induction h generalizing i with
 | nil => exact .nil
 | cons y t ih => cases i with
  | zero => exact .cons x t
  | succ i => exact .cons y ih
theorem All2.replicate {α β : Type} {R:α → β → Prop} {a:α} {b:β} (x:R a b) (n:Nat):All2 R (List.replicate n a) (List.replicate n b):=by
 induction n with
 | zero => exact .nil
 | succ n ih => exact .cons x ih
noncomputable abbrev sL (vs:List Value):Obj:={ cls:=.type "tuple",data:=.seq vs.toArray }
noncomputable abbrev DC (vs:List Value):Obj:={ cls:=.type "range",data:=.fields vs.toArray }
noncomputable def bG (o:Obj):Prop:=(∃ vs,o = sL vs) ∨ ∃ vs,o = DC vs
theorem bZ {o:Obj} (h:o.cls ≠ .type "tuple") (h':o.cls ≠ .type "range"):¬ bG o:=fun f => by
 rcases f with ⟨vs,rfl⟩ | ⟨vs,rfl⟩
 ·exact h rfl
 ·exact h' rfl
theorem fH {o:Obj} {w:Option Value} (h:o.data = .cell w):¬ bG o:=fun f => by
 rcases f with ⟨vs,rfl⟩ | ⟨vs,rfl⟩ <;> cases h
noncomputable def AtK (K:Frag) (news:ay) (a:Addr) (o:Obj):Prop:=(a,o) ∈ news ∨ K.lookup a = some o
noncomputable def uK (v:Value) (i:Int):Prop:=∃ t,v = .int i t
noncomputable def GO (v:Value) (s:Str):Prop:=∃ t,v = .str s t
noncomputable def TupI (K:Frag) (news:ay) (v:Value) (l:List Int):Prop:=∃ a vs,v = .ref a ∧ AtK K news a (sL vs) ∧ All2 uK vs l
noncomputable def VR (K:Frag) (news:ay) (ρ : b9) (v:Value):V → Prop
 | .none => v = .none
 | .bool b => v = .bool b
 | .int i => uK v i
 | .str s => GO v s
 | .ref id => ∃ a d,v = .ref a ∧ ρ[id]? = some (a,d)
 | .tup l => TupI K news v l
 | .tup2 ls => ∃ a vs,v = .ref a ∧ AtK K news a (sL vs) ∧ All2 (TupI K news) vs ls
 | .tupS ss => ∃ a vs,v = .ref a ∧ AtK K news a (sL vs) ∧ All2 GO vs ss
 | .range a b st => ∃ r t u x,v = .ref r ∧ (r,DC [.int a t,.int b u,.int st x]) ∈ news
noncomputable def ER (w:World) (K:Frag) (news:ay) (ρ : b9) (e:DictEntry) (p:Str × V):Prop:=(∃ t,e.key = .str p.1 t) ∧ e.hash = PyData.keyHash w.params p.1 ∧ VR K news ρ e.val p.2
noncomputable def kZ (ob:Obj) (vs:List Value):Prop:=∃ n,ob = { cls:=.type "list",data:=.seq vs.toArray n }
structure wu (prog:Program) (w:World) (ob:Obj) (kvs:List (Str × Value)):Prop where
 shape:ob.cls = .type "dict"
 at_:∀ h a,h.get? a = some ob → Heap.DictOf (strKind prog w) h a kvs
noncomputable def PR (K:Frag) (news:ay) (ρ : b9) (p:Str × Value) (q:Str × V):Prop:=p.1 = q.1 ∧ VR K news ρ p.2 q.2
inductive MI (w:World) (cl:Str → Option Addr) (K:Frag) (news:ay) (ρ : b9) (p:Addr × Option Addr) (c:Str) (as:List (Str × V)):Prop
 | mk (C d:Addr) (es':List DictEntry) (n:Nat) (m1:p.2 = some d) (m2:cl c = some C) (m3:(p.1,instObj C d) ∈ news) (m4:(d,dictOf es' n) ∈ news) (m5:All2 (ER w K news ρ) es' as) (m6:∀ p ∈ as,dj p.1 = true)
noncomputable def MR (prog:Program) (w:World) (cl:Str → Option Addr) (K:Frag) (news:ay) (ρ : b9) (p:Addr × Option Addr):MO → Prop
 | .list vs => p.2 = none ∧ ∃ ob vs',(p.1,ob) ∈ news ∧ kZ ob vs' ∧ All2 (VR K news ρ) vs' vs
 | .dict es => p.2 = none ∧ ∃ ob kvs,(p.1,ob) ∈ news ∧ wu prog w ob kvs ∧ All2 (PR K news ρ) kvs es
 | .inst c as => MI w cl K news ρ p c as
noncomputable def eL (p:Addr × Option Addr):List Addr:=p.1 :: p.2.toList
noncomputable def aY (ρ : b9):List Addr:=ρ.flatMap eL
structure Rel (prog:Program) (w:World) (cl:Str → Option Addr) (K:Frag) (news:ay) (ρ : b9) (h:H):Prop where
 nd:(news.map (·.1)).Nodup
 fl:(aY ρ).Nodup
 len:ρ.length = h.length
 obj:∀ (i:Nat) p o,ρ[i]? = some p → h[i]? = some o → MR prog w cl K news ρ p o
structure Ext (own:List Addr) (ρ ρ':b9) (news news':ay):Prop where
 pre:∃ τ,ρ' = ρ ++ τ
 frz:∀ p ∈ news,bG p.2 → p ∈ news'
 keep:∀ p ∈ news,p.1 ∉ aY ρ → p.1 ∉ own → p ∈ news'
 fresh:∀ a ∈ aY ρ',a ∈ aY ρ ∨ a ∉ news.map (·.1)
 adrs:∀ a ∈ news.map (·.1),a ∈ news'.map (·.1)
theorem Ext.refl (own:List Addr) (ρ : b9) (news:ay):Ext own ρ ρ news news:=⟨⟨[],by simp⟩,fun _ h _ => h,fun _ h _ _ => h,fun _ h => .inl h,fun _ h => h⟩
theorem ez (ρ τ : b9):aY (ρ ++ τ) = aY ρ ++ aY τ:=by simp [aY]
theorem Ext.idx {own:List Addr} {ρ ρ':b9} {news news':ay} (x:Ext own ρ ρ' news news') {i:Nat} {p} (e:ρ[i]? = some p):ρ'[i]? = some p:=by
 obtain ⟨τ,rfl⟩:=x.pre
 rw [List.getElem?_append_left (List.getElem?_eq_some_iff.mp e).1]; exact e
theorem Ext.trans {own:List Addr} {ρ ρ' ρ'':b9} {n n' n'':ay} (x:Ext own ρ ρ' n n') (y:Ext own ρ' ρ'' n' n''):Ext own ρ ρ'' n n'':=by
 refine ⟨?_,fun p hp hf => y.frz p (x.frz p hp hf) hf,fun p hp h1 h2 => y.keep p (x.keep p hp h1 h2) (fun h3 => ?_) h2,fun a ha => ?_,fun a ha => y.adrs a (x.adrs a ha)⟩
 ·obtain ⟨τ,rfl⟩:=x.pre; obtain ⟨σ,rfl⟩:=y.pre; exact ⟨τ ++ σ,by simp⟩
 ·rcases x.fresh _ h3 with h | h
  ·exact h1 h
  ·exact h (List.mem_map_of_mem hp)
 ·rcases y.fresh a ha with h | h
  ·exact x.fresh a h
  ·exact .inr fun q => h (x.adrs a q)
theorem Ext.mono {own own':List Addr} {ρ ρ':b9} {n n':ay} (x:Ext own ρ ρ' n n') (h:∀ a ∈ own,a ∈ own'):Ext own' ρ ρ' n n':=
 ⟨x.pre,x.frz,fun p hp h1 h2 => x.keep p hp h1 fun q => h2 (h _ q),x.fresh,x.adrs⟩
theorem ij {news:ay} (nd:(news.map (·.1)).Nodup) {a:Addr} {o o':Obj} (h:(a,o) ∈ news) (h':(a,o') ∈ news):o = o':=by
 induction news with
 | nil => cases h
 | cons p r ih =>
  haveI nd':p.1 ∉ r.map (·.1) ∧ (r.map (·.1)).Nodup:=List.nodup_cons.mp nd
  rcases List.mem_cons.mp h with e | h1
  ·rcases List.mem_cons.mp h' with e' | h2
   ·exact (Prod.mk.inj (e.trans e'.symm)).2
   ·exact absurd (show p.1 ∈ r.map (·.1) from by rw [← e]; exact List.mem_map_of_mem (f:=(·.1)) h2) nd'.1
  ·rcases List.mem_cons.mp h' with e' | h2
   ·exact absurd (show p.1 ∈ r.map (·.1) from by rw [← e']; exact List.mem_map_of_mem (f:=(·.1)) h1) nd'.1
   ·exact ih nd'.2 h1 h2
theorem AtK.ext {K:Frag} {news news':ay} {a:Addr} {vs:List Value} (h:AtK K news a (sL vs)) (k:∀ p ∈ news,bG p.2 → p ∈ news'):AtK K news' a (sL vs):=
 h.imp (fun h => k _ h (.inl ⟨_,rfl⟩)) id
theorem TupI.ext {K:Frag} {news news':ay} {v:Value} {l:List Int} (h:TupI K news v l) (k:∀ p ∈ news,bG p.2 → p ∈ news'):TupI K news' v l:=
 let ⟨a,vs,e,h1,h2⟩:=h; ⟨a,vs,e,h1.ext k,h2⟩
theorem VR.ext {own:List Addr} {K:Frag} {news news':ay} {ρ ρ':b9} (x:Ext own ρ ρ' news news') {v:Value} {y:V} (h:VR K news ρ v y):VR K news' ρ' v y:=by
 cases y with
 | none | bool | int | str => exact h
 | ref id => obtain ⟨a,d,e,h⟩:=h; exact ⟨a,d,e,x.idx h⟩
 | tup l => exact TupI.ext h x.frz
 | tup2 ls => obtain ⟨a,vs,e,h1,h2⟩:=h; exact ⟨a,vs,e,h1.ext x.frz,h2.mono fun _ _ z => z.ext x.frz⟩
 | tupS ls => obtain ⟨a,vs,e,h1,h2⟩:=h; exact ⟨a,vs,e,h1.ext x.frz,h2⟩
 | range a b st => obtain ⟨r,t,u,x',e,h⟩:=h; exact ⟨r,t,u,x',e,x.frz _ h (.inr ⟨_,rfl⟩)⟩
theorem VR.ext2 {own:List Addr} {K:Frag} {news news':ay} {ρ ρ':b9} (x:Ext own ρ ρ' news news') {vs:List Value} {ys:List V} (h:All2 (VR K news ρ) vs ys):All2 (VR K news' ρ') vs ys:=h.mono fun _ _ z => z.ext x
theorem ER.ext {own:List Addr} {w:World} {K:Frag} {news news':ay} {ρ ρ':b9} (x:Ext own ρ ρ' news news') {e:DictEntry} {p:Str × V} (h:ER w K news ρ e p):ER w K news' ρ' e p:=⟨h.1,h.2.1,h.2.2.ext x⟩
section
variable {prog:Program} {w:World} {cl:Str → Option Addr} {K:Frag} {news:ay} {ρ : b9} {h:H}
theorem lI {ob:Obj} {vs:List Value} (h:kZ ob vs):¬ bG ob:=by
 obtain ⟨n,rfl⟩:=h
 exact bZ (by simp) (by simp)
theorem lN {ob:Obj} {g:List (Str × Value)} (h:wu prog w ob g):¬ bG ob:=bZ (by rw [h.shape]; simp) (by rw [h.shape]; simp)
theorem MR.adrs {p:Addr × Option Addr} {o:MO} (m:MR prog w cl K news ρ p o):∀ a ∈ eL p,∃ ob,(a,ob) ∈ news ∧ ¬ bG ob:=by
 obtain ⟨pa,pd⟩:=p
 cases o with
 | list vs => obtain ⟨e,ob,vs',hm,hl,_⟩:=m; dsimp only at e; subst e; intro a ha; simp [eL] at ha; subst ha; exact ⟨_,hm,lI hl⟩
 | dict es => obtain ⟨e,ob,f,hm,hl,_⟩:=m; dsimp only at e; subst e; intro a ha; simp [eL] at ha; subst ha; exact ⟨_,hm,lN hl⟩
 | inst c as =>
  obtain ⟨C,d,es',n,e,_,h1,h2,_,_⟩:=m; dsimp only at e; subst e; intro a ha; simp [eL] at ha
  rcases ha with rfl | rfl
  ·exact ⟨_,h1,bZ (by simp [instObj]) (by simp [instObj])⟩
  ·exact ⟨_,h2,bZ (by simp) (by simp)⟩
theorem Rel.inNews (R:Rel prog w cl K news ρ h) {a:Addr} (ha:a ∈ aY ρ):∃ ob,(a,ob) ∈ news ∧ ¬ bG ob:=by
 obtain ⟨p,hp,ha⟩:=List.mem_flatMap.mp ha
 obtain ⟨i,hi,rfl⟩:=List.getElem_of_mem hp
 haveI hh:i < h.length:=by rw [← R.len]; exact hi
 exact (R.obj i _ h[i] (by simp [hi]) (by simp [hh])).adrs a ha
noncomputable def repl (D:Addr) (o':Obj) (news:ay):ay:=news.map fun p => if p.1 = D then (D,o') else p
theorem fY (D:Addr) (o':Obj) (news:ay):(repl D o' news).map (·.1) = news.map (·.1):=by
 unfold repl; rw [List.map_map]; apply List.map_congr_left; intro p _; simp only [Function.comp]; split <;> simp_all
theorem bT {D:Addr} {o':Obj} {news:ay} {p:Addr × Obj} (hp:p ∈ news) (hne:p.1 ≠ D):p ∈ repl D o' news:=
 List.mem_map.mpr ⟨p,hp,by rw [if_neg hne]⟩
theorem dv {D:Addr} {o o':Obj} {news:ay} (hp:(D,o) ∈ news):(D,o') ∈ repl D o' news:=List.mem_map.mpr ⟨_,hp,by simp⟩
theorem Cw {D:Addr} {o':Obj} {news:ay} (h:∀ p ∈ news,p.1 ≠ D):repl D o' news = news:=by
 unfold repl; conv => rhs; rw [← List.map_id news]
 apply List.map_congr_left; intro p hp; simp [h p hp]
theorem yU {D:Addr} {o o':Obj} {news:ay} (nd:(news.map (·.1)).Nodup) (hp:(D,o) ∈ news):Upd D o o' news (repl D o' news):=by
 induction news with
 | nil => cases hp
 | cons p r ih =>
  simp only [List.map_cons,List.nodup_cons] at nd
  rcases List.mem_cons.mp hp with rfl | hp
  ·haveI hr:∀ p ∈ r,p.1 ≠ D:=fun p hp e => nd.1 (e ▸ List.mem_map_of_mem (f:=(·.1)) hp)
   haveI:repl D o' ((D,o) :: r) = (D,o') :: r:=by show (_ :: repl D o' r) = _; rw [Cw hr]; simp
   rw [this]; exact .head hr
  ·haveI hne:p.1 ≠ D:=fun e => nd.1 (e ▸ List.mem_map_of_mem (f:=(·.1)) hp)
   haveI:repl D o' (p :: r) = p :: repl D o' r:=by show ((if p.1 = D then (D,o') else p) :: repl D o' r) = _; rw [if_neg hne]
   rw [this]; exact .tail hne (ih nd.2 hp)
theorem Ext.repl {own:List Addr} (R:Rel prog w cl K news ρ h) {D:Addr} (hD:D ∈ aY ρ) (o':Obj):Ext own ρ ρ news (repl D o' news):=by
 refine ⟨⟨[],by simp⟩,fun p hp hf => bT hp fun e => ?_,fun p hp h1 _ => bT hp fun e => h1 (e ▸ hD),fun a ha => .inl ha,fun a ha => by rw [fY]; exact ha⟩
 obtain ⟨ob,hob,hnf⟩:=R.inNews hD
 rw [← e] at hob
 exact hnf (ij R.nd hob hp ▸ hf)
theorem dB {i:Nat} {p:Addr × Option Addr} (e:ρ[i]? = some p) {a:Addr} (ha:a ∈ eL p):a ∈ aY ρ:=
 List.mem_flatMap.mpr ⟨p,List.mem_of_getElem? e,ha⟩
theorem tG (fl:(aY ρ).Nodup):∀ {i j:Nat} {p q:Addr × Option Addr},ρ[i]? = some p → ρ[j]? = some q → ∀ {a:Addr},a ∈ eL p → a ∈ eL q → i = j:=by
 induction ρ with
 | nil => intro i j p q e; simp at e
 | cons r t ih =>
  intro i j p q e e' a ha hb
  have fl':(eL r ++ aY t).Nodup:=fl
  rw [List.nodup_append] at fl'
  cases i with
  | zero =>
   cases j with
   | zero => rfl
   | succ j => simp at e e'; subst e; exact absurd rfl (fl'.2.2 a ha a (dB e' hb))
  | succ i =>
   cases j with
   | zero => simp at e e'; subst e'; exact absurd rfl (fl'.2.2 a hb a (dB e ha))
   | succ j => simp at e e'; rw [ih fl'.2.1 e e' ha hb]
theorem xO (fl:(aY ρ).Nodup):∀ {i:Nat} {p:Addr × Option Addr},ρ[i]? = some p → (eL p).Nodup:=by
 induction ρ with
 | nil => intro i p e; simp at e
 | cons r t ih =>
  intro i p e
  haveI fl':(eL r ++ aY t).Nodup:=fl
  rw [List.nodup_append] at fl'
  cases i with
  | zero => simp at e; subst e; exact fl'.1
  | succ i => simp at e; exact ih fl'.2.1 e
theorem Rel.upd (R:Rel prog w cl K news ρ h) {i:Nat} {p:Addr × Option Addr} {o':MO} {D:Addr} {ob':Obj} (e:ρ[i]? = some p) (hD:D ∈ eL p)
  (hm:MR prog w cl K (repl D ob' news) ρ p o'):Rel prog w cl K (repl D ob' news) ρ (h.set i o'):=by
 haveI x:Ext [] ρ ρ news (repl D ob' news):=Ext.repl R (dB e hD) ob'
 refine ⟨by rw [fY]; exact R.nd,R.fl,by rw [List.length_set]; exact R.len,fun j q o hq ho => ?_⟩
 by_cases hij:i = j
 ·subst hij
  rw [e] at hq; cases hq
  have hl:i < h.length:=by rw [← R.len]; exact (List.getElem?_eq_some_iff.mp e).1
  rw [List.getElem?_set_self hl] at ho; cases ho
  exact hm
 ·rw [List.getElem?_set_ne hij] at ho
  haveI m:=R.obj j q o hq ho
  have hq':∀ a ∈ eL q,a ≠ D:=fun a ha ea => hij (tG R.fl e hq hD (ea ▸ ha))
  cases o with
  | list vs => obtain ⟨e1,ob,vs',h1,hl,h2⟩:=m; exact ⟨e1,ob,vs',bT h1 (hq' _ (by simp [eL])),hl,VR.ext2 x h2⟩
  | dict es => obtain ⟨e1,ob,f,h1,hl,h2⟩:=m; exact ⟨e1,ob,f,bT h1 (hq' _ (by simp [eL])),hl,h2.mono fun _ _ z => ⟨z.1,z.2.ext x⟩⟩
  | inst c as => obtain ⟨C,d,es',n,e1,e2,h1,h2,h3,h4⟩:=m; exact ⟨C,d,es',n,e1,e2,bT h1 (hq' _ (by simp [eL])),bT h2 (hq' _ (by simp [eL,e1])),h3.mono fun _ _ z => z.ext x,h4⟩
theorem Ext.more {own:List Addr} {extra:ay} (hf:∀ a ∈ extra.map (·.1),a ∉ news.map (·.1)) (τ : b9) (ht:∀ a ∈ aY τ,a ∈ extra.map (·.1)):Ext own ρ (ρ ++ τ) news (extra ++ news):=
 ⟨⟨τ,rfl⟩,fun p hp _ => List.mem_append_right _ hp,fun p hp _ _ => List.mem_append_right _ hp,fun a ha => by
  rw [ez] at ha
  rcases List.mem_append.mp ha with h | h
  ·exact .inl h
  ·exact .inr (hf a (ht a h)),fun a ha => by rw [List.map_append]; exact List.mem_append_right _ ha⟩
theorem Rel.more (R:Rel prog w cl K news ρ h) {extra:ay} (nd:(extra.map (·.1)).Nodup) (hf:∀ a ∈ extra.map (·.1),a ∉ news.map (·.1)) (τ : b9) (os:H) (ht:∀ a ∈ aY τ,a ∈ extra.map (·.1))
  (hn:(aY τ).Nodup) (hl:τ.length = os.length) (hm:∀ (i:Nat) p o,τ[i]? = some p → os[i]? = some o → MR prog w cl K (extra ++ news) (ρ ++ τ) p o):Rel prog w cl K (extra ++ news) (ρ ++ τ) (h ++ os):=by
 haveI x:Ext [] ρ (ρ ++ τ) news (extra ++ news):=Ext.more hf τ ht
 refine ⟨?_,?_,by rw [List.length_append,List.length_append,R.len,hl],fun i p o hp ho => ?_⟩
 ·rw [List.map_append,List.nodup_append]
  exact ⟨nd,R.nd,fun a ha b hb e => hf a ha (e ▸ hb)⟩
 ·rw [ez,List.nodup_append]
  refine ⟨R.fl,hn,fun a ha b hb e => ?_⟩
  obtain ⟨ob,h1,_⟩:=R.inNews ha
  exact hf b (ht b hb) (e ▸ List.mem_map_of_mem (f:=(·.1)) h1)
 ·by_cases hi:i < ρ.length
  ·rw [List.getElem?_append_left hi] at hp
   rw [List.getElem?_append_left (by rw [← R.len]; exact hi)] at ho
   haveI m:=R.obj i p o hp ho
   cases o with
   | list vs => obtain ⟨e1,ob,vs',h1,hl,h2⟩:=m; exact ⟨e1,ob,vs',List.mem_append_right _ h1,hl,VR.ext2 x h2⟩
   | dict es => obtain ⟨e1,ob,f,h1,hl,h2⟩:=m; exact ⟨e1,ob,f,List.mem_append_right _ h1,hl,h2.mono fun _ _ z => ⟨z.1,z.2.ext x⟩⟩
   | inst c as => obtain ⟨C,d,es',n,e1,e2,h1,h2,h3,h4⟩:=m; exact ⟨C,d,es',n,e1,e2,List.mem_append_right _ h1,List.mem_append_right _ h2,h3.mono fun _ _ z => z.ext x,h4⟩
  ·haveI hi':ρ.length ≤ i:=Nat.le_of_not_lt hi
   rw [List.getElem?_append_right hi'] at hp
   rw [List.getElem?_append_right (by rw [← R.len]; exact hi'),← R.len] at ho
   exact hm _ p o hp ho
end
end
section
open PySem PySem.W PySem.Calls PyProof.Rows
structure Base (K:Frag) (h₀ : Heap):Prop where
 X:K.In h₀
 g:∃ mg,h₀.Ns mainGlobals mg
 b:∃ mb,h₀.Ns builtinsNs mb ∧ ∀ x:Str,x ≠ "__name__" → mb x = bootBuiltins x
 nolimit:h₀.NoLimit
section
variable {h₀ h h':Heap} {L:Addr} {m:Str → Option Value} {news:ay} {prog:Program} {w:World} {cl:Str → Option Addr} {K:Frag} {ρ ρ':b9} {own:List Addr}
theorem d6 {D:Addr} {o o':Obj} (F:Fr h₀ L h m) (N:News h₀ L h news) (hD:(D,o) ∈ news) (hs:Heap.SameBut D h h') (ho:h'.get? D = some o') :
  Fr h₀ L h' m ∧ News h₀ L h' (repl D o' news):=by
 haveI nD:=N _ hD
 refine ⟨F.change hs nD.2.1 nD.2.2,fun p hp => ?_⟩
 obtain ⟨q,hq,rfl⟩:=List.mem_map.mp hp
 split
 ·exact ⟨ho,nD.2⟩
 ·rename_i hne; exact ⟨(hs.2 _ hne).trans (N q hq).1,(N q hq).2⟩
inductive Hn (K:Frag) (news:ay) (ρ : b9) (env:Env) (m:Str → Option Value) (x:Str) (v:V):Prop
 | mk (a:env.kindOf x = some .local) (v':Value) (b:m x = some v') (c:VR K news ρ v' v)
inductive AI (K:Frag) (news:ay) (ρ : b9) (env:Env) (x:Str) (v:V):Prop
 | mk (a:env.kindOf x = some .cell ∨ env.kindOf x = some .free) (c:Addr) (o:Obj) (v':Value) (h1:env.cells.lookup x = some c) (h2:(c,o) ∈ news) (h3:o.data = .cell (some v')) (h4:VR K news ρ v' v) (h5:c ∉ aY ρ)
noncomputable def FRel (K:Frag) (news:ay) (ρ : b9) (ns:aK) (env:Env) (m:Str → Option Value) (f:Fm):Prop:=
 ∀ x i k v,aJ ns x = some (i,k) → f i = some v → match k with
  | .local => Hn K news ρ env m x v
  | .cell | .free => AI K news ρ env x v
  | _ => True
structure jh (ns:aK) (env:Env) (L:Addr):Prop where
 kind:env.scope.kind = .function
 locals:env.locals = L
 globals:env.globals = mainGlobals
 builtins:env.builtins = builtinsNs
 glob:∀ x i,aJ ns x = some (i,.globalImplicit) → env.kindOf x = some .globalImplicit
 cells:∀ x i k,aJ ns x = some (i,k) → (k = .cell ∨ k = .free) → (env.kindOf x = some .cell ∨ env.kindOf x = some .free) ∧ ∃ c,env.cells.lookup x = some c
 loc:∀ x i,aJ ns x = some (i,.local) → env.kindOf x = some .local
 cellK:∀ x i,aJ ns x = some (i,.cell) → env.kindOf x = some .cell
theorem FRel.ext {ns:aK} {env:Env} {f:Fm} {news':ay} (x:Ext [] ρ ρ' news news') (h:FRel K news ρ ns env m f):FRel K news' ρ' ns env m f:=by
 intro y i k v hk hv
 haveI z:=h y i k v hk hv
 cases k with
 | «local» => obtain ⟨z1,v',a,b⟩:=z; exact ⟨z1,v',a,b.ext x⟩
 | cell | free =>
  obtain ⟨z1,c,o,v',a,b,d,e,g⟩:=z
  exact ⟨z1,c,o,v',a,x.keep _ b g (by simp),d,e.ext x,fun q => by
   rcases x.fresh _ q with r | r
   ·exact g r
   ·exact r (List.mem_map_of_mem (f:=(·.1)) b)⟩
 | _ => trivial
end
section
variable (prog:Program) (w:World) (cl:Str → Option Addr) (K:Frag) (h₀ : Heap) (L:Addr)
inductive EP (m:Str → Option Value) (news:ay) (ρ : b9) (v:V) (H':H) (s:Shared) (v':Value) (s':Shared):Prop
 | mk (h':Heap) (tk':Tok) (news':ay) (ρ':b9) (e:s' = { s with heap:=h',toks:=tk' }) (F:Fr h₀ L h' m) (N:News h₀ L h' news') (R:Rel prog w cl K news' ρ' H') (x:Ext [] ρ ρ' news news') (hv:VR K news' ρ' v' v)
noncomputable def SE (A:Around) (ns:aK) (env:Env) (c:Ex) (t:Sem Value):Prop:=
 ∀ (E:Value → Shared → Prop) (s:Shared) (m:Str → Option Value) (news:ay) (ρ : b9) (f:Fm) (Hh:H) (v:V) (H':H),
  Fr h₀ L s.heap m → News h₀ L s.heap news → Rel prog w cl K news ρ Hh → FRel K news ρ ns env m f → c f Hh = some (v,H') → wpAny (model prog w) A t (EP prog w cl K h₀ L m news ρ v H' s) E s
inductive TP (m:Str → Option Value) (news:ay) (ρ : b9) (b:Bool) (H':H) (s:Shared) (b':Bool) (s':Shared):Prop
 | mk (h':Heap) (tk':Tok) (news':ay) (ρ':b9) (e:s' = { s with heap:=h',toks:=tk' }) (F:Fr h₀ L h' m) (N:News h₀ L h' news') (R:Rel prog w cl K news' ρ' H') (x:Ext [] ρ ρ' news news') (hv:b' = b)
noncomputable def ST (A:Around) (ns:aK) (env:Env) (c:Tx) (t:Sem Bool):Prop:=
 ∀ (E:Value → Shared → Prop) (s:Shared) (m:Str → Option Value) (news:ay) (ρ : b9) (f:Fm) (Hh:H) (v:Bool) (H':H),
  Fr h₀ L s.heap m → News h₀ L s.heap news → Rel prog w cl K news ρ Hh → FRel K news ρ ns env m f → c f Hh = some (v,H') → wpAny (model prog w) A t (TP prog w cl K h₀ L m news ρ v H' s) E s
inductive AP (m:Str → Option Value) (news:ay) (ρ : b9) (vs:List V) (H':H) (s:Shared) (vs':List Value) (s':Shared):Prop
 | mk (h':Heap) (tk':Tok) (news':ay) (ρ':b9) (e:s' = { s with heap:=h',toks:=tk' }) (F:Fr h₀ L h' m) (N:News h₀ L h' news') (R:Rel prog w cl K news' ρ' H') (x:Ext [] ρ ρ' news news') (hv:All2 (VR K news' ρ') vs' vs)
end
section
variable {prog:Program} {w:World} {cl:Str → Option Addr} {K:Frag} {h₀ : Heap} {L:Addr} {m:Str → Option Value} {news news₁ : ay} {ρ ρ₁ : b9} {s s₁ : Shared} {A:Around} {E:Value → Shared → Prop} {Hh H':H}
theorem Bc {α β : Type} {P:α → β → Prop} {G:Prop} (k:∀ W:α → β → Prop,(∀ a b,P a b → W a b) → (∀ a b,W a b → P a b) → G):G:=k P (fun _ _ h => h) fun _ _ h => h
theorem Bn {α : Type} {t:Sem α} {Q:α → Shared → Prop} (k:∀ Q':α → Shared → Prop,(∀ a b,Q a b → Q' a b) → wpAny (model prog w) A t Q' E s):wpAny (model prog w) A t Q E s:=k Q fun _ _ h => h
theorem EP.now {v:V} {v':Value} {tk:Tok} (F:Fr h₀ L s.heap m) (N:News h₀ L s.heap news) (R:Rel prog w cl K news ρ Hh) (hv:VR K news ρ v' v):EP prog w cl K h₀ L m news ρ v Hh s v' { s with toks:=tk }:=
 ⟨s.heap,tk,news,ρ,rfl,F,N,R,.refl _ _ _,hv⟩
theorem EP.here {v:V} {v':Value} (F:Fr h₀ L s.heap m) (N:News h₀ L s.heap news) (R:Rel prog w cl K news ρ Hh) (hv:VR K news ρ v' v):EP prog w cl K h₀ L m news ρ v Hh s v' s:=
 ⟨s.heap,s.toks,news,ρ,rfl,F,N,R,.refl _ _ _,hv⟩
theorem EP.after {v:V} {v':Value} {s':Shared} {h₁ : Heap} {tk₁ : Tok} (e:s₁ = { s with heap:=h₁,toks:=tk₁ }) (x:Ext [] ρ ρ₁ news news₁) (p:EP prog w cl K h₀ L m news₁ ρ₁ v H' s₁ v' s'):EP prog w cl K h₀ L m news ρ v H' s v' s':=by
 obtain ⟨h',tk',news',ρ',rfl,F,N,R,y,hv⟩:=p
 subst e
 exact ⟨h',tk',news',ρ',rfl,F,N,R,x.trans y,hv⟩
theorem bH {i:Int} (h:small i = true):i.natAbs < 2 ^ 64:=by simpa [small] using h
theorem vc {op:Operator} {a b c:Int} {t u:Tok} {Q:Value → Shared → Prop} (e:aQ op a b = some c) (h:∀ tk,Q (.int c tk) { s with toks:=s.toks + 1 }) :
  wpAny (model prog w) A (binaryOp op (.int a t) (.int b u)) Q E s:=by
 cases op with
 | Add => cases e; exact PyProof.Rows.add_int (h _)
 | Sub => cases e; exact PyProof.Rows.sub_int (h _)
 | Mult =>
  split at e
  ·rename_i hc; cases e
   have hc:=Bool.and_eq_true_iff.mp hc
   exact PyProof.Rows.mul_int (h _) (by haveI:=bH hc.1; haveI:=bH hc.2; mul_fits)
  ·cases e
 | FloorDiv =>
  split at e
  ·rename_i hc; cases e
   exact PyProof.Rows.floordiv_int hc.1 (h _) (Or.inl (PyProof.noPylong_small hc.2))
  ·cases e
 | Mod =>
  split at e
  ·rename_i hc; cases e; exact PyProof.Rows.mod_int' hc (h _)
  ·cases e
 | LShift =>
  split at e
  ·rename_i hc; cases e; exact PyProof.Rows.lshift_int_small hc.1 (by omega) (bH hc.2.2) (h _)
  ·cases e
 | RShift =>
  split at e
  ·rename_i hc; cases e; exact PyProof.Rows.rshift_int hc (h _)
  ·cases e
 | BitOr => cases e; exact PyProof.Rows.or_int (h _)
 | BitXor => cases e; exact PyProof.Rows.xor_int (h _)
 | BitAnd => cases e; exact PyProof.Rows.and_int (h _)
 | _ => cases e
theorem iX {op:Operator} {a b c:Int} {t u:Tok} {Q:Value → Shared → Prop} (e:aQ op a b = some c) (h:∀ tk,Q (.int c tk) { s with toks:=s.toks + 1 }) :
  wpAny (model prog w) A (inplaceOp op (.int a t) (.int b u)) Q E s:=by
 cases op with
 | Add => cases e; exact PyProof.Rows.iadd_int (h _)
 | Sub => cases e; exact PyProof.Rows.isub_int (h _)
 | Mult =>
  split at e
  ·rename_i hc; cases e
   have hc:=Bool.and_eq_true_iff.mp hc
   exact PyProof.Rows.imul_int (h _) (by haveI:=bH hc.1; haveI:=bH hc.2; mul_fits)
  ·cases e
 | FloorDiv =>
  split at e
  ·rename_i hc; cases e
   exact PyProof.Rows.ifloordiv_int hc.1 (h _) (Or.inl (PyProof.noPylong_small hc.2))
  ·cases e
 | Mod =>
  split at e
  ·rename_i hc; cases e; exact PyProof.Rows.imod_int hc (h _)
  ·cases e
 | LShift =>
  split at e
  ·rename_i hc; cases e; exact PyProof.Rows.ilshift_int_small hc.1 (by omega) (bH hc.2.2) (h _)
  ·cases e
 | RShift =>
  split at e
  ·rename_i hc; cases e; exact PyProof.Rows.irshift_int hc (h _)
  ·cases e
 | BitOr => cases e; exact PyProof.Rows.ior_int (h _)
 | BitXor => cases e; exact PyProof.Rows.ixor_int (h _)
 | BitAnd => cases e; exact PyProof.Rows.iand_int (h _)
 | _ => cases e
end
end
section
open PySem PySem.W PySem.Calls PyProof.Rows PySem.SeqAt
section
variable {prog:Program} {w:World} {cl:Str → Option Addr} {K:Frag} {h₀ : Heap} {L:Addr} {m:Str → Option Value} {news news₁ : ay} {ρ ρ₁ : b9} {s s₁ : Shared} {A:Around} {E:Value → Shared → Prop} {Hh H':H}
theorem bv {ob:Obj} {vs:List Value} {a:Addr} (N:News h₀ L s.heap news) (hm:(a,ob) ∈ news) (hl:kZ ob vs):s.heap.IsList a vs.toArray:=by
 obtain ⟨n,rfl⟩:=hl; exact ⟨_,(N _ hm).1,rfl,n,rfl⟩
theorem du {vs:List Value} {a:Addr} (X:K.In s.heap) (N:News h₀ L s.heap news) (h:AtK K news a (sL vs)):s.heap.IsTuple a vs.toArray:=by
 rcases h with h | h
 ·exact ⟨_,(N _ h).1,rfl,0,rfl⟩
 ·exact ⟨_,X _ _ h,rfl,0,rfl⟩
theorem Rel.list (R:Rel prog w cl K news ρ Hh) {i:Nat} {vs:List V} (e:Hh[i]? = some (.list vs)) {a:Addr} {d:Option Addr} (ha:ρ[i]? = some (a,d)) :
  ∃ ob vs',(a,ob) ∈ news ∧ kZ ob vs' ∧ All2 (VR K news ρ) vs' vs ∧ a ∈ aY ρ ∧ d = none:=by
 obtain ⟨e1,ob,vs',h1,h2,h3⟩:=R.obj i _ _ ha e
 exact ⟨ob,vs',h1,h2,h3,dB ha (by simp [eL]),e1⟩
theorem cz {v:Value} {y:V} {b:Bool} {Q:Bool → Shared → Prop} (hv:VR K news ρ v y) (e:dw y = some b) (h:Q b s):wpAny (model prog w) A (truthy v) Q E s:=by
 cases y with
 | none => cases hv; cases e; exact PyProof.Rows.truthy_none h
 | bool c => cases hv; cases e; exact wpAny_truthy_bool h
 | int i => obtain ⟨t,rfl⟩:=hv; cases e; exact PySem.P.truthy_int h
 | _ => cases e
theorem gr {n:Nat} {e:Nat → Bool}:(List.range (n + 1)).all e = (e 0 && (List.range n).all fun j => e (j + 1)):=by
 rw [List.range_succ_eq_map,List.all_cons,List.all_map]; rfl
theorem sK:∀ (n:Nat) (h:H) (x:V) (b:Bool),mR n h x x = some b → b = true
 | 0,_,_,_,e => nomatch e
 | n + 1,h,x,b,e => by
  have bq:∀ {α : Type} [BEq α] [LawfulBEq α] (a:α),some (a == a) = some b → b = true:=fun a e => (Option.some.inj e).symm.trans (beq_self_eq_true a)
  cases x with
  | none => exact (Option.some.inj e).symm
  | bool x => exact bq x e
  | int x => exact bq x e
  | str x => exact bq x e
  | tup x => exact bq x e
  | ref i =>
   have go:∀ (l:List V) (b:Bool),mP (mR n h) l l = some b → b = true:=by
    intro l
    induction l with
    | nil => intro b e; cases e; rfl
    | cons a l ih =>
     intro b e
     obtain ⟨r,hr,e⟩:=bnd1 e
     obtain ⟨t,ht,rfl⟩:=mpd e
     rw [sK n h a r hr,ih t ht]; rfl
   replace e:EQ (mR n h) h[i]? h[i]? = some b:=e
   generalize h[i]? = o at e
   cases o with
   | none => cases e
   | some o =>
    cases o with
    | list x => exact go x b ((if_neg (fun q => q rfl)).symm.trans e)
    | inst => cases e
    | dict => cases e
  | tup2 => cases e
  | tupS => cases e
  | range => cases e
theorem xR {vs us:List Value} {l r:List Int} (h1:All2 uK vs l) (h2:All2 uK us r) (A:Around) (s:Shared) :
  ∀ j (x:j < vs.toArray.size) (y:j < us.toArray.size),EqAt A s vs.toArray[j] us.toArray[j] ((l[j]?.getD 0) == (r[j]?.getD 0)):=by
 intro j x y
 have x':j < l.length:=by rw [← h1.length]; simpa using x
 have y':j < r.length:=by rw [← h2.length]; simpa using y
 obtain ⟨a,ha,ta,ea⟩:=h1.get (i:=j) (b:=l[j]) (by simp [x'])
 obtain ⟨c,hc,tc,ec⟩:=h2.get (i:=j) (b:=r[j]) (by simp [y'])
 haveI e1:vs.toArray[j] = .int l[j] ta:=by
  have:=List.getElem?_eq_some_iff.mp ha; obtain ⟨_,q⟩:=this; simp [q,ea]
 haveI e2:us.toArray[j] = .int r[j] tc:=by
  haveI:=List.getElem?_eq_some_iff.mp hc; obtain ⟨_,q⟩:=this; simp [q,ec]
 rw [e1,e2]
 simp [x',y']
 exact EqAt.int_int _ _ _ _
theorem tw:∀ (l r:List Int),((List.range (min l.length r.length)).all (fun j => (l[j]?.getD 0) == (r[j]?.getD 0)) && l.length == r.length) = (l == r)
 | [],[] => rfl
 | [],b :: r => by simp
 | a :: l,[] => by simp
 | a :: l,b :: r => by
  haveI ih:=tw l r
  rw [List.length_cons,List.length_cons,Nat.succ_min_succ,gr]
  simp only [List.getElem?_cons_zero,Option.getD_some,List.getElem?_cons_succ]
  rw [Bool.and_assoc]
  haveI:(l.length + 1 == r.length + 1) = (l.length == r.length):=by simp
  rw [this,ih]; rfl
theorem AR {vs:List Value} {p:List Int} (h:All2 uK vs p):∀ {q:List Int},All2 uK vs q → p = q:=by
 induction h with
 | nil => intro q h; cases h; rfl
 | cons x _ ih => intro q h; cases h with | cons y t => obtain ⟨_,e⟩:=x; obtain ⟨_,e'⟩:=y; rw [e] at e'; cases e'; rw [ih t]
theorem mD:∀ (n:Nat) (x y:V) (v u:Value) (b:Bool) (A:Around),A.units + n < cLine → K.In s.heap → News h₀ L s.heap news → Rel prog w cl K news ρ Hh → VR K news ρ v x → VR K news ρ u y → mR n Hh x y = some b →
  RcAt A s v u b ∧ RcNeAt A s v u (!b) ∧ EqAt A s v u b
 | 0,_,_,_,_,_,_,_,_,_,_,_,_,e => nomatch e
 | n + 1,x,y,v,u,b,A,hu,X,N,R,hv,hw,e => by
  have hu1:A.in1.units + n < cLine:=by show A.units + 1 + n < cLine; omega
  have hu0:A.units < cLine:=by omega
  replace e:GV (mR n Hh) Hh x y = some b:=e
  unfold GV at e
  split at e <;> (try (cases e; done)) <;> split at e <;> try (cases e; done)
  ·cases hv; cases hw; cases e; exact ⟨.none_none,.none_none,.same _⟩
  ·cases hv; cases hw; cases e; exact ⟨.bool_bool _ _,.bool_bool _ _,.bool_bool _ _⟩
  ·obtain ⟨t,rfl⟩:=hv; obtain ⟨t',rfl⟩:=hw; cases e; exact ⟨.int_int _ _ _ _,.int_int _ _ _ _,.int_int _ _ _ _⟩
  ·obtain ⟨t,rfl⟩:=hv; obtain ⟨t',rfl⟩:=hw; cases e; exact ⟨.str_str _ _ _ _,.str_str _ _ _ _,.str_str _ _ _ _⟩
  ·rename_i l _ r
   obtain ⟨a,vs,rfl,h1,h2⟩:=hv; obtain ⟨c,us,rfl,h3,h4⟩:=hw
   cases e
   have ta:=du X N h1
   have tc:=du X N h3
   have q:=xR h2 h4 A.in1 s
   have sz:((List.range (min vs.toArray.size us.toArray.size)).all (fun j => (l[j]?.getD 0) == (r[j]?.getD 0)) && vs.toArray.size == us.toArray.size) = (l == r):=by
    rw [← tw l r]; simp [h2.length,h4.length]
   have r1:RcAt A s (.ref a) (.ref c) (l == r):=sz ▸ RcAt.tuples ta tc hu0 q
   refine ⟨r1,?_,?_⟩
   ·have:=RcNeAt.tuples ta tc hu0 q
    rw [sz] at this; exact this
   ·by_cases hac:a = c
    ·subst hac
     obtain ⟨oa,ha,_,na,da⟩:=ta
     obtain ⟨oc,hc,_,nc,dc⟩:=tc
     rw [ha] at hc; cases hc
     rw [da] at dc; cases dc
     have:l = r:=by
      exact AR h2 (by simpa using h4)
     subst this; rw [beq_self_eq_true]; exact .same _
    ·exact .of_refs hac r1
  ·rename_i i _ j
   obtain ⟨a,d,rfl,ha⟩:=hv; obtain ⟨c,d',rfl,hc⟩:=hw
   unfold EQ at e
   split at e <;> try (cases e; done)
   rename_i lx hx
   split at e <;> try (cases e; done)
   ·rename_i ly hy
    obtain ⟨ob,vs,m1,m2,m3,m4,m5⟩:=R.list hx ha
    obtain ⟨oc,us,k1,k2,k3,k4,k5⟩:=R.list hy hc
    have ia:=bv N m1 m2
    have ic:=bv N k1 k2
    have key:RcAt A s (.ref a) (.ref c) b ∧ RcNeAt A s (.ref a) (.ref c) (!b):=by
     split at e
     ·rename_i hlen
      cases e
      have hne:(vs.toArray.size != us.toArray.size) = true:=by simp [m3.length,k3.length]; exact hlen
      exact ⟨.lists_lengths ia ic hne hu0,.lists_lengths ia ic hne hu0⟩
     ·rename_i hlen
      have hlen:lx.length = ly.length:=by simpa using hlen
      have hsz:vs.toArray.size = us.toArray.size:=by simp [m3.length,k3.length,hlen]
      have main:∀ (lx ly:List V) (vs us:List Value) (b:Bool),lx.length = ly.length → All2 (VR K news ρ) vs lx → All2 (VR K news ρ) us ly → mP (mR n Hh) lx ly = some b →
        ∃ e:Nat → Bool,(List.range lx.length).all e = b ∧ ∀ j x y,vs[j]? = some x → us[j]? = some y → EqAt A.in1 s x y (e j):=by
       intro lx
       induction lx with
       | nil => intro ly vs us b hl h1 h2 e; cases h1; cases ly with
        | cons => cases hl
        | nil => cases e; exact ⟨fun _ => true,rfl,fun j x y hx => by cases hx⟩
       | cons p lx ih =>
        intro ly vs us b hl h1 h2 e
        cases ly with
        | nil => simp at hl
        | cons q ly =>
         cases h1 with
         | cons hp h1 =>
          cases h2 with
          | cons hq h2 =>
           obtain ⟨r,hr,e⟩:=bnd1 e
           obtain ⟨t,ht,rfl⟩:=mpd e
           obtain ⟨ef,e1,e2⟩:=ih ly _ _ t (by simpa using hl) h1 h2 ht
           refine ⟨fun j => match j with | 0 => r | j + 1 => ef j,?_,?_⟩
           ·rw [List.length_cons,gr]; simp only [e1]
           ·intro j x y hx hy
            cases j with
            | zero => simp at hx hy; subst hx hy; exact (mD n _ _ _ _ _ A.in1 hu1 X N R hp hq hr).2.2
            | succ j => exact e2 j x y (by simpa using hx) (by simpa using hy)
      obtain ⟨ef,e1,e2⟩:=main lx ly vs us b hlen m3 k3 e
      have q:∀ j (h1:j < vs.toArray.size) (h2:j < us.toArray.size),EqAt A.in1 s vs.toArray[j] us.toArray[j] (ef j):=fun j h1 h2 => e2 j _ _ (by simp at h1; simp [h1]) (by simp at h2; simp [h2])
      have e1':(List.range vs.toArray.size).all ef = b:=by rw [← e1]; simp [m3.length]
      exact ⟨e1' ▸ RcAt.lists ia ic hsz hu0 q,e1' ▸ RcNeAt.lists ia ic hsz hu0 q⟩
    refine ⟨key.1,key.2,?_⟩
    by_cases hac:a = c
    ·subst hac
     have hij:i = j:=tG R.fl ha hc (a:=a) (by simp [eL]) (by simp [eL])
     subst hij
     have:b = true:=by
      rw [hx] at hy; cases hy
      exact sK (n + 1) Hh (.ref i) b (by show EQ (mR n Hh) Hh[i]? Hh[i]? = _; rw [hx]; exact e)
     subst this; exact .same _
    ·exact .of_refs hac key.1
end
end
section
open PySem PySem.W PySem.Calls PyProof.Rows PySem.SeqAt
structure rz (K:Frag) (C:Addr) (x:Str):Prop where
 get:plainGet K C x = true
 dict:hasDictIn K C = true
 attr:∃ a,findIn K (.ref C) x = some a ∧ noGet K a = true
 taker:takerIn K C x = some none
 setter:findIn K (.ref C) "__setattr__" = some (some (.builtin "object.__setattr__"))
 over:plainOver K C = true
section
variable {prog:Program} {w:World} {cl:Str → Option Addr} {K:Frag} {h₀ : Heap} {L:Addr} {m:Str → Option Value} {news news₁ : ay} {ρ ρ₁ : b9} {s s₁ : Shared} {A:Around} {E:Value → Shared → Prop} {Hh H':H}
theorem As {vs:List Value} {ns:List Int} (x:Int) (h:All2 uK vs ns):vs.any (fun y => match y with | .int k _ => k == x | _ => false) = ns.contains x:=by
 induction h with
 | nil => rfl
 | cons h _ ih =>
  obtain ⟨t,rfl⟩:=h
  rw [List.any_cons,ih,List.contains_cons]
  congr 1
  exact BEq.comm
theorem tF {K:Frag} {news:ay} {ρ : b9}:∀ {l:List V} {ns:List Int},cZ l = some ns → ∀ {vs:List Value},All2 (VR K news ρ) vs l → All2 uK vs ns:=by
 intro l
 induction l with
 | nil => intro ns e vs h; cases h; cases e; exact .nil
 | cons a l ih =>
  intro ns e vs h
  cases a with
  | int i => obtain ⟨q,hq,rfl⟩:=mpd e; cases h with | cons h1 h2 => exact .cons h1 (ih hq h2)
  | _ => cases e
theorem qr {K:Frag} {news:ay} {ρ : b9} {k:Str} {x:V} {kvs:List (Str × Value)} {es:List (Str × V)} (h:All2 (PR K news ρ) kvs es) (e:eW k es = some x):∃ v,valueAt kvs k = some v ∧ VR K news ρ v x:=by
 induction h with
 | nil => cases e
 | @cons p q l r hp _ ih =>
  obtain ⟨y,v⟩:=q
  obtain ⟨y',v'⟩:=p
  obtain ⟨h1,h2⟩:=hp
  dsimp only at h1 h2; subst h1
  unfold eW at e
  unfold valueAt
  rw [List.find?_cons]
  split at e
  ·rename_i hy; subst hy; cases e; exact ⟨v',by simp,h2⟩
  ·rename_i hy
   obtain ⟨v,a,b⟩:=ih e
   refine ⟨v,?_,b⟩
   simp only [decide_eq_false hy]; exact a
theorem je {f:Int → Int → Bool} {x y:V} {b:Bool} (e:xX f x y = some b):∃ i j,x = .int i ∧ y = .int j ∧ f i j = b:=by
 unfold xX at e
 split at e <;> try (cases e; done)
 split at e <;> try (cases e; done)
 exact ⟨_,_,rfl,rfl,Option.some.inj e⟩
theorem wQ {f:Bool → Bool} {x y:V} {v u:Value} {b:Bool} (hv:VR K news ρ v x) (hw:VR K news ρ u y) (e:GA f x y = some b):u = .none ∧ plainIs v .none = true ∧ f (v == .none) = b:=by
 unfold GA at e
 split at e <;> cases e
 cases hw
 refine ⟨rfl,?_⟩
 cases x with
 | none => cases hv; exact ⟨rfl,rfl⟩
 | bool => cases hv; exact ⟨rfl,rfl⟩
 | int => obtain ⟨t,rfl⟩:=hv; exact ⟨rfl,rfl⟩
 | str => obtain ⟨t,rfl⟩:=hv; exact ⟨rfl,rfl⟩
 | ref => obtain ⟨a,d,rfl,_⟩:=hv; exact ⟨rfl,rfl⟩
 | tup => obtain ⟨a,d,rfl,_⟩:=hv; exact ⟨rfl,rfl⟩
 | tup2 => obtain ⟨a,d,rfl,_⟩:=hv; exact ⟨rfl,rfl⟩
 | tupS => obtain ⟨a,d,rfl,_⟩:=hv; exact ⟨rfl,rfl⟩
 | range => obtain ⟨a,_,_,_,rfl,_⟩:=hv; exact ⟨rfl,rfl⟩
theorem pR {op:CmpOp} {x y:V} {v u:Value} {b:Bool} {Q:Value → Shared → Prop} (hu:A.units + 10 < cLine) (X:K.In s.heap) (N:News h₀ L s.heap news) (R:Rel prog w cl K news ρ Hh) (hv:VR K news ρ v x) (hw:VR K news ρ u y)
  (e:bI op x y Hh = some b) (h:Q (.bool b) s):wpAny (model prog w) A (compareOp op v u) Q E s:=by
 cases op with
 | Eq => exact cmp_ofEq ((mD 4 _ _ _ _ _ A (by omega) X N R hv hw e).1 prog w E Q h)
 | NotEq =>
  obtain ⟨c,hc,rfl⟩:=mpd e
  exact cmp_ofNotEq ((mD 4 _ _ _ _ _ A (by omega) X N R hv hw hc).2.1 prog w E Q h)
 | Lt => obtain ⟨i,j,rfl,rfl,rfl⟩:=je e; obtain ⟨t,rfl⟩:=hv; obtain ⟨t',rfl⟩:=hw; exact PyProof.Rows.lt_int h
 | LtE => obtain ⟨i,j,rfl,rfl,rfl⟩:=je e; obtain ⟨t,rfl⟩:=hv; obtain ⟨t',rfl⟩:=hw; exact PyProof.Rows.le_int h
 | Gt => obtain ⟨i,j,rfl,rfl,rfl⟩:=je e; obtain ⟨t,rfl⟩:=hv; obtain ⟨t',rfl⟩:=hw; exact PyProof.Rows.gt_int h
 | GtE => obtain ⟨i,j,rfl,rfl,rfl⟩:=je e; obtain ⟨t,rfl⟩:=hv; obtain ⟨t',rfl⟩:=hw; exact PyProof.Rows.ge_int h
 | Is => obtain ⟨rfl,h1,rfl⟩:=wQ hv hw e; exact wpAny_is_plain h1 h
 | IsNot => obtain ⟨rfl,h1,rfl⟩:=wQ hv hw e; exact wpAny_isNot_plain h1 h
 | NotIn =>
  replace e:vU x y Hh = some b:=e
  unfold vU at e
  split at e <;> try (cases e; done)
  split at e <;> try (cases e; done)
  rename_i x _ i
  split at e <;> try (cases e; done)
  rename_i l hl
  obtain ⟨t,rfl⟩:=hv; obtain ⟨a,d,rfl,ha⟩:=hw
  obtain ⟨ns,hns,rfl⟩:=mpd e
  obtain ⟨ob,vs,m1,m2,m3,m4,m5⟩:=R.list hl ha
  have hi:=tF hns m3
  refine notIn_listAt (fun y => match y with | .int k _ => k == x | _ => false) (bv N m1 m2) (fun y hy => ?_) ?_
  ·have hy:y ∈ vs:=by simpa using hy
   obtain ⟨j,hj,rfl⟩:=List.getElem_of_mem hy
   have hj':j < ns.length:=by rw [← hi.length]; exact hj
   obtain ⟨a',ha',tk,ea⟩:=hi.get (i:=j) (b:=ns[j]) (by simp [hj'])
   have:vs[j] = .int ns[j] tk:=by rw [List.getElem?_eq_getElem hj] at ha'; rw [← ea]; exact Option.some.inj ha'
   rw [this]; exact EqAt.int_int _ _ _ _
  ·have:vs.toArray.any (fun y => match y with | .int k _ => k == x | _ => false) = ns.contains x:=by rw [List.any_toArray]; exact As x hi
   rw [this]; exact h
 | In => cases e
noncomputable def gu:PySem.Expr → Bool
 | .Slice .. => false
 | _ => true
theorem eZ {slice:PySem.Expr} (h:gu slice = true) (o i:Value):subscripted slice false o i = operate [o,i] (getItem o i):=by
 cases slice <;> first | rfl | cases h
theorem dF {k:Int} {n:Nat} (h0:0 ≤ k) (h:k.toNat < n):seqIndex? k n = some k.toNat:=by
 unfold seqIndex?
 haveI h1:¬ k < 0:=by omega
 simp only [h1,if_false]
 rw [if_pos (by simp; omega)]
theorem yP {l:List Int} {k:Int} {v:Value} {u:Tok} {slice value:PySem.Expr} {i:Int} {Q:Value → Shared → Prop} (X:K.In s.heap) (N:News h₀ L s.heap news) (hv:TupI K news v l) (h0:0 ≤ k) (h1:k ≤ 1000000) (hi:l[k.toNat]? = some i)
  (hs:gu slice = true) (h:∀ t,Q (.int i t) s):wpAny (model prog w) A (subscriptTail value slice v (.int k u)) Q E s:=by
 obtain ⟨a,vs,rfl,h1',h2⟩:=hv
 obtain ⟨x,hx,t,rfl⟩:=h2.get hi
 refine item_tupleT (du X N h1') (by omega) (by omega) (dF h0 ?_) hx (h t) (eZ hs _ _)
 exact (List.getElem?_eq_some_iff.mp hx).1
theorem qP {o i x:V} {vo vi:Value} {slice value:PySem.Expr} {Q:Value → Shared → Prop} (X:K.In s.heap) (F:Fr h₀ L s.heap m) (N:News h₀ L s.heap news) (R:Rel prog w cl K news ρ Hh) (ho:VR K news ρ vo o) (hi:VR K news ρ vi i)
  (e:aO o i Hh = some x) (hs:gu slice = true) (h:∀ v tk,VR K news ρ v x → Q v { s with toks:=tk }):wpAny (model prog w) A (subscriptTail value slice vo vi) Q E s:=by
 unfold aO at e
 split at e
 ·unfold tW at e
  obtain ⟨a,d,rfl,ha⟩:=ho
  split at e
  ·rename_i vs hl
   split at e <;> try (cases e; done)
   obtain ⟨t,rfl⟩:=hi
   split at e
   ·rename_i hk
    obtain ⟨ob,us,m1,m2,m3,_,_⟩:=R.list hl ha
    obtain ⟨v,hv,hr⟩:=m3.get e
    exact tail_any (bv N m1 m2).typeIs slot_list_getitem.lookup (wpAny_getItem_list (bv N m1 m2) hk.1 (by omega) (by simpa using hv) (h v s.toks hr)) (eZ hs _ _)
   ·cases e
  ·rename_i es hl
   split at e <;> try (cases e; done)
   obtain ⟨t,rfl⟩:=hi
   obtain ⟨_,ob,kvs,m1,m2,m3⟩:=R.obj _ _ _ ha hl
   haveI hd:=m2.at_ s.heap a (N _ m1).1
   haveI hm:=hd.mapOf
   obtain ⟨v,hv,hr⟩:=qr m3 e
   exact tail_any hm.typeIs slot_dict_getitem.lookup (wpAny_getItem_of (strKind_is prog w _ t) hm hv (h v _ hr)) (eZ hs _ _)
  ·cases e
 ·unfold pw at e
  split at e <;> try (cases e; done)
  obtain ⟨t,rfl⟩:=hi
  split at e
  ·rename_i hk; obtain ⟨j,hj,rfl⟩:=mpd e
   exact yP X N ho hk.1 hk.2 hj hs fun t => h _ s.toks ⟨t,rfl⟩
  ·cases e
 ·unfold pw at e
  split at e <;> try (cases e; done)
  obtain ⟨a,vs,rfl,h1,h2⟩:=ho; obtain ⟨t,rfl⟩:=hi
  split at e
  ·rename_i hk; obtain ⟨j,hj,rfl⟩:=mpd e
   obtain ⟨y,hy,hr⟩:=h2.get hj
   exact item_tupleT (du X N h1) (by omega) (by omega) (dF hk.1 (List.getElem?_eq_some_iff.mp hy).1) hy (h y s.toks hr) (eZ hs _ _)
  ·cases e
 ·unfold pw at e
  split at e <;> try (cases e; done)
  obtain ⟨a,vs,rfl,h1,h2⟩:=ho; obtain ⟨t,rfl⟩:=hi
  split at e
  ·rename_i hk; obtain ⟨j,hj,rfl⟩:=mpd e
   obtain ⟨y,hy,hr⟩:=h2.get hj
   exact item_tupleT (du X N h1) (by omega) (by omega) (dF hk.1 (List.getElem?_eq_some_iff.mp hy).1) hy (h y s.toks hr) (eZ hs _ _)
  ·cases e
 ·cases e
end
end
section
open PySem PySem.W PySem.Calls PyProof.Rows PySem.SeqAt
inductive UP (prog:Program) (w:World) (cl:Str → Option Addr) (K:Frag) (h₀ : Heap) (L:Addr) (m:Str → Option Value) (news:ay) (ρ : b9) (H':H) (s s':Shared):Prop
 | mk (h':Heap) (tk':Tok) (news':ay) (e:s' = { s with heap:=h',toks:=tk' }) (F:Fr h₀ L h' m) (N:News h₀ L h' news') (R:Rel prog w cl K news' ρ H') (x:Ext [] ρ ρ news news')
section
variable {prog:Program} {w:World} {cl:Str → Option Addr} {K:Frag} {h₀ : Heap} {L:Addr} {m:Str → Option Value} {news news₁ : ay} {ρ ρ₁ : b9} {s s₁ : Shared} {A:Around} {E:Value → Shared → Prop} {Hh H':H}
theorem a9 {vs':List Value} {vs:List V} {l:Addr} {h':Heap} {tk:Tok} {ob:Obj} (R:Rel prog w cl K news ρ Hh) (F':Fr h₀ L h' m) (N':News h₀ L h' ((l,ob) :: news)) (hf:∀ p ∈ news,p.1 ≠ l) (hl:kZ ob vs') (hv:All2 (VR K news ρ) vs' vs) :
  EP prog w cl K h₀ L m news ρ (.ref Hh.length) (Hh ++ [.list vs]) s (.ref l) { s with heap:=h',toks:=tk }:=by
 have hfr:∀ a ∈ [(l,ob)].map (·.1),a ∉ news.map (·.1):=fun a ha q => by
  simp at ha; subst ha
  obtain ⟨p,hp,e⟩:=List.mem_map.mp q
  exact hf p hp e
 have x:Ext [] ρ (ρ ++ [(l,none)]) news ([(l,ob)] ++ news):=Ext.more hfr [(l,none)] (by simp [aY,eL])
 refine ⟨h',tk,[(l,ob)] ++ news,ρ ++ [(l,none)],rfl,F',N',R.more (by simp) hfr [(l,none)] [.list vs] (by simp [aY,eL]) (by simp [aY,eL]) rfl ?_,x,?_⟩
 ·intro i p o hp ho
  cases i with
  | zero => simp at hp ho; subst hp ho; exact ⟨rfl,ob,vs',by simp,hl,VR.ext2 x hv⟩
  | succ i => simp at hp
 ·exact ⟨l,none,rfl,by rw [← R.len]; simp⟩
theorem dC {p:Addr × Obj} (N:News h₀ L s.heap news) (hp:p ∈ news):p.1 ≠ s.heap.objs.size:=Nat.ne_of_lt (Heap.lt_size (N p hp).1)
theorem jc (vs:List Value) (n:Nat):kZ { cls:=.type "list",data:=.seq vs.toArray n } vs:=⟨n,rfl⟩
theorem nF {i:Nat} {a:Addr} {d:Option Addr} {ob ob':Obj} {vs':List Value} {vs:List V} {h':Heap} {tk:Tok} (F:Fr h₀ L s.heap m) (N:News h₀ L s.heap news) (R:Rel prog w cl K news ρ Hh) (hi:ρ[i]? = some (a,d)) (hd:d = none) (hm:(a,ob) ∈ news)
  (hs:Heap.SameBut a s.heap h') (ho:h'.get? a = some ob') (hl:kZ ob' vs') (hv:All2 (VR K news ρ) vs' vs):UP prog w cl K h₀ L m news ρ (Hh.set i (.list vs)) s { s with heap:=h',toks:=tk }:=by
 obtain ⟨F',N'⟩:=d6 F N hm hs ho
 haveI x:Ext [] ρ ρ news (repl a ob' news):=Ext.repl R (dB hi (by simp [eL])) ob'
 exact ⟨h',tk,_,rfl,F',N',R.upd hi (by simp [eL]) ⟨hd,ob',vs',dv hm,hl,VR.ext2 x hv⟩,x⟩
theorem uS {kvs:List (Str × Value)} {es:List (Str × V)} {k:Str} {v:Value} {x:V} (h:All2 (PR K news ρ) kvs es) (nd:(kvs.map (·.1)).Nodup) (e:(eW k es).isSome = true) (hv:VR K news ρ v x) :
  All2 (PR K news ρ) (stored kvs k v) (gV k x es):=by
 haveI key:∀ {kvs:List (Str × Value)} {es:List (Str × V)},All2 (PR K news ρ) kvs es → (kvs.map (·.1)).Nodup → (eW k es).isSome = true →
   kvs.any (fun kv => kv.1 = k) = true ∧ All2 (PR K news ρ) (kvs.map (fun kv => if kv.1 = k then (kv.1,v) else kv)) (gV k x es):=by
  intro kvs es h
  induction h with
  | nil => intro _ e; cases e
  | @cons p q l r hp ht ih =>
   intro nd e
   obtain ⟨y,u⟩:=q
   obtain ⟨y',u'⟩:=p
   obtain ⟨h1,h2⟩:=hp
   dsimp only at h1 h2; subst h1
   have nd':=List.nodup_cons.mp nd
   unfold eW at e
   unfold gV
   by_cases hy:y' = k
   ·subst hy
    refine ⟨by simp,?_⟩
    simp only [List.map_cons,if_true]
    refine .cons ⟨rfl,hv⟩ ?_
    haveI:l.map (fun kv => if kv.1 = y' then (kv.1,v) else kv) = l:=by
     conv => rhs; rw [← List.map_id l]
     apply List.map_congr_left
     intro p hp
     rw [if_neg (fun (e:p.1 = y') => nd'.1 (by rw [← e]; exact List.mem_map_of_mem (f:=(·.1)) hp))]; rfl
    rw [this]; exact ht
   ·rw [if_neg hy] at e
    obtain ⟨i1,i2⟩:=ih nd'.2 e
    refine ⟨by simp only [List.any_cons,i1,Bool.or_true],?_⟩
    simp only [List.map_cons,if_neg hy]
    exact .cons ⟨rfl,h2⟩ i2
 obtain ⟨k1,k2⟩:=key h nd e
 unfold stored
 rw [if_pos k1]; exact k2
theorem i3 {o i v:V} {vo vi vv:Value} (F:Fr h₀ L s.heap m) (N:News h₀ L s.heap news) (R:Rel prog w cl K news ρ Hh) (ho:VR K news ρ vo o) (hi:VR K news ρ vi i) (hv:VR K news ρ vv v)
  (e:cy o i v Hh = some H'):wpAny (model prog w) A (setItem vo vi vv) (fun _ s' => UP prog w cl K h₀ L m news ρ H' s s') E s:=by
 unfold cy at e
 split at e
 ·obtain ⟨a,d,rfl,ha⟩:=ho; obtain ⟨t,rfl⟩:=hi
  split at e
  ·rename_i vs hl
   split at e
   ·rename_i hk
    cases e
    obtain ⟨ob,us,m1,m2,m3,_,m5⟩:=R.list hl ha
    obtain ⟨n,rfl⟩:=m2
    refine ki_setAt (N _ m1).1 hk.1 (by omega) (by simp [m3.length]; exact hk.2.2) ?_
    refine nF (tk:=s.toks) F N R ha m5 m1 (Heap.SameBut.update ..) (PySem.IsL.update (N _ m1).1 _) (vs':=us.set _ vv) ⟨n,?_⟩ (m3.set hv)
    simp
   ·cases e
  ·cases e
 ·obtain ⟨a,d,rfl,ha⟩:=ho; obtain ⟨t,rfl⟩:=hi
  split at e
  ·rename_i es hl
   split at e
   ·rename_i hk
    cases e
    obtain ⟨md,ob,kvs,m1,m2,m3⟩:=R.obj _ _ _ ha hl
    have hd:=m2.at_ s.heap a (N _ m1).1
    haveI nd:(kvs.map (·.1)).Nodup:=by obtain ⟨_,_,_,_,_,_,_,_,h⟩:=hd; exact h
    refine wpAny_setItem_pairs (strKind_is prog w _ t) hd (fun h' hd' hs => ?_) (by haveI:=m3.length; rw [sizeLine_eq]; omega)
    obtain ⟨ob',es',ep,h1,h2,h3,h4,h5,h6⟩:=hd'
    obtain ⟨F',N'⟩:=d6 F N m1 hs h1
    have x:Ext [] ρ ρ news (repl a ob' news):=Ext.repl R (dB ha (by simp [eL])) ob'
    exact ⟨h',_,_,rfl,F',N',R.upd ha (by simp [eL]) ⟨md,ob',_,dv m1,⟨h2.1,fun g b hg => ⟨ob',es',ep,hg,h2,h3,h4,h5,h6⟩⟩,(uS m3 nd hk.1 hv).mono fun _ _ z => ⟨z.1,z.2.ext x⟩⟩,x⟩
   ·cases e
  ·cases e
 ·cases e
theorem kH {w:World} {e:DictEntry} {p:Str × V} (h:ER w K news ρ e p) (x:Str):e.key.isStr x = (p.1 == x):=by
 obtain ⟨t,ht⟩:=h.1
 rw [ht]; rfl
theorem BK {es:List DictEntry} {as:List (Str × V)} {x:Str} {v:V} (h:All2 (ER w K news ρ) es as) (e:eW x as = some v):∃ v',getL x es = some (some v') ∧ VR K news ρ v' v:=by
 induction h with
 | nil => cases e
 | @cons d q l r hp _ ih =>
  obtain ⟨y,u⟩:=q
  unfold eW at e
  haveI hk:=kH hp x
  by_cases hy:y = x
  ·subst hy
   simp only [if_true] at e; cases e
   refine ⟨d.val,?_,hp.2.2⟩
   unfold getL
   simp [List.find?_cons,hk]
  ·rw [if_neg hy] at e
   obtain ⟨v',a,b⟩:=ih e
   refine ⟨v',?_,b⟩
   haveI hk':d.key.isStr x = false:=by rw [hk]; simp [hy]
   obtain ⟨t,ht⟩:=hp.1
   haveI hr:d.refKey = false:=by simp [DictEntry.refKey,ht]
   unfold getL at a ⊢
   simp only [List.find?_cons,hk',List.any_cons,hr,Bool.false_or]
   exact a
theorem yc {es:List DictEntry} {as:List (Str × V)} (x:Str) (h:All2 (ER w K news ρ) es as):(getL x es).isSome = true:=by
 haveI:es.any (·.refKey) = false:=by
  induction h with
  | nil => rfl
  | cons hp _ ih => obtain ⟨t,ht⟩:=hp.1; rw [List.any_cons,ih]; simp [DictEntry.refKey,ht]
 unfold getL
 split
 ·rfl
 ·rw [this]; rfl
theorem zM {es:List DictEntry} {as:List (Str × V)} {x:Str} {v:Value} {y:V} {tk:Tok} (h:All2 (ER w K news ρ) es as) (hv:VR K news ρ v y) :
  All2 (ER w K news ρ) (putL x (PyData.keyHash w.params x) (.str x tk) v es) (gV x y as):=by
 induction h with
 | nil => exact .cons ⟨⟨tk,rfl⟩,rfl,hv⟩ .nil
 | @cons d q l r hp ht ih =>
  obtain ⟨z,u⟩:=q
  haveI hk:=kH hp x
  unfold putL gV
  by_cases hz:z = x
  ·subst hz
   rw [if_pos (by rw [hk]; simp),if_pos rfl]
   exact .cons ⟨hp.1,hp.2.1,hv⟩ ht
  ·rw [if_neg (by rw [hk]; simp [hz]),if_neg hz]
   exact .cons hp ih
theorem te (x:Str) (v:V):∀ as:List (Str × V),(gV x v as).length ≤ as.length + 1
 | [] => by simp [gV]
 | (y,u) :: r => by
  unfold gV
  split
  ·simp
  ·haveI:=te x v r; simp; omega
theorem Bo {x:Str} {v:V} {as:List (Str × V)} (hx:dj x = true) (h:∀ p ∈ as,dj p.1 = true):∀ p ∈ gV x v as,dj p.1 = true:=by
 induction as with
 | nil => intro p hp; simp [gV] at hp; subst hp; exact hx
 | cons q r ih =>
  obtain ⟨y,u⟩:=q
  intro p hp
  unfold gV at hp
  split at hp
  ·rcases List.mem_cons.mp hp with rfl | hp
   ·exact h (y,u) (by simp)
   ·exact h p (by simp [hp])
  ·rcases List.mem_cons.mp hp with rfl | hp
   ·exact h _ (by simp)
   ·exact ih (fun p hp => h p (by simp [hp])) p hp
theorem AZ {x:Str} {v:V} {as:List (Str × V)} (h:∀ p ∈ as,dj p.1 = true) (e:eW x as = some v):dj x = true:=by
 induction as with
 | nil => cases e
 | cons q r ih =>
  obtain ⟨y,u⟩:=q
  unfold eW at e
  split at e
  ·rename_i hy; subst hy; exact h (y,u) (by simp)
  ·exact ih (fun p hp => h p (by simp [hp])) e
theorem yd {v:Value} {y:V} (h:VR K news ρ v y):handedIn v = true:=by
 cases y with
 | none => cases h; rfl
 | bool => cases h; rfl
 | int => obtain ⟨t,rfl⟩:=h; rfl
 | str => obtain ⟨t,rfl⟩:=h; rfl
 | ref => obtain ⟨a,d,rfl,_⟩:=h; rfl
 | tup => obtain ⟨a,d,rfl,_⟩:=h; rfl
 | tup2 => obtain ⟨a,d,rfl,_⟩:=h; rfl
 | tupS => obtain ⟨a,d,rfl,_⟩:=h; rfl
 | range => obtain ⟨a,_,_,_,rfl,_⟩:=h; rfl
theorem ig {o y:V} {vo:Value} {x:Str} {expr:Bool} {Q:Value → Shared → Prop} (hA:∀ c C x,cl c = some C → dj x = true → rz K C x) (X:K.In h₀) (F:Fr h₀ L s.heap m) (N:News h₀ L s.heap news) (R:Rel prog w cl K news ρ Hh)
  (ho:VR K news ρ vo o) (e:aB o x Hh = some y) (h:∀ v tk,VR K news ρ v y → Q v { s with toks:=tk }):wpAny (model prog w) A (getAttr vo x expr) Q E s:=by
 unfold aB at e
 split at e
 ·obtain ⟨a,d,rfl,ha⟩:=ho
  split at e
  ·rename_i c as hl
   obtain ⟨C,dx,es,n,m1,m2,m3,m4,m5,m6⟩:=R.obj _ _ _ ha hl
   dsimp only at m1; subst m1
   have ok:=hA c C x m2 (AZ m6 e)
   obtain ⟨at',k1,k2⟩:=ok.attr
   obtain ⟨v,hv,hr⟩:=BK m5 e
   exact get_own F X (InstAt.of_news N m3 m4) ok.get ok.dict k1 k2 hv (yd hr) (h v _ hr)
  ·cases e
 ·cases e
theorem hJ {o y:V} {vo v:Value} {x:Str} (hA:∀ c C x,cl c = some C → dj x = true → rz K C x) (X:K.In h₀) (F:Fr h₀ L s.heap m) (N:News h₀ L s.heap news) (R:Rel prog w cl K news ρ Hh)
  (ho:VR K news ρ vo o) (hv:VR K news ρ v y) (e:bj o x y Hh = some H'):wpAny (model prog w) A (setAttr vo x v) (fun _ s' => UP prog w cl K h₀ L m news ρ H' s s') E s:=by
 unfold bj at e
 split at e
 ·obtain ⟨a,d,rfl,ha⟩:=ho
  split at e
  ·rename_i c as hl
   split at e
   ·rename_i hk
    cases e
    obtain ⟨C,dx,es,n,m1,m2,m3,m4,m5,m6⟩:=R.obj _ _ _ ha hl
    dsimp only at m1; subst m1
    have ok:=hA c C x m2 hk.1
    haveI hall:=zM (x:=x) (tk:=s.toks + 1) m5 hv
    refine set_dict F X N (InstAt.of_news N m3 m4) rfl ok.setter ok.over ok.taker ok.dict (yc x m5) rfl (yU R.nd m4) ?_ fun h' F' N' => ?_
    ·rw [hall.length]; haveI:=te x y as; omega
    ·haveI x':Ext [] ρ ρ news (repl dx _ news):=Ext.repl R (dB ha (by simp [eL])) (dictOf (putL x (PyData.keyHash w.params x) (Value.str x (s.toks + 1)) v es) (putN x es n))
     refine ⟨h',_,_,rfl,F',N',R.upd ha (by simp [eL]) ⟨C,dx,_,_,rfl,m2,bT m3 (fun e => ?_),dv m4,hall.mono fun _ _ z => z.ext x',Bo hk.1 m6⟩,x'⟩
     haveI hnd:(eL (a,some dx)).Nodup:=xO R.fl ha
     dsimp only at e
     simp [eL,e] at hnd
   ·cases e
  ·cases e
 ·cases e
end
end
section
open PySem PySem.W PySem.Calls PyProof.Rows
structure GQ (K:Frag):Prop where
 const:∀ x v,gP.lookup x = some v → ∃ v',nsIn K mainGlobals x = some (some v') ∧ VR K [] [] v' v
section
variable {prog:Program} {w:World} {cl:Str → Option Addr} {K:Frag} {h₀ : Heap} {L:Addr} {m:Str → Option Value} {news news₁ : ay} {ρ ρ₁ : b9} {s s₁ : Shared} {A:Around} {E:Value → Shared → Prop} {Hh H':H} {ns:aK} {env:Env}
theorem VR.top {v:Value} {y:V} (h:VR K [] [] v y):VR K news ρ v y:=
 VR.ext (own:=[]) (ρ:=[]) (news:=[]) ⟨⟨ρ,rfl⟩,fun _ h => (nomatch h),fun _ h => (nomatch h),fun a _ => Or.inr (by simp),fun _ h => (nomatch h)⟩ h
theorem SE.no {t:Sem Value}:SE prog w cl K h₀ L A ns env dK t:=fun _ _ _ _ _ _ _ _ _ _ _ _ _ hc => by cases hc
theorem ST.no {t:Sem Bool}:ST prog w cl K h₀ L A ns env EU t:=fun _ _ _ _ _ _ _ _ _ _ _ _ _ hc => by cases hc
theorem SE.step {c:Ex} {t:Sem Value} {Q:Value → Shared → Prop} {f:Fm} {v:V} (h:SE prog w cl K h₀ L A ns env c t) (F:Fr h₀ L s.heap m) (N:News h₀ L s.heap news) (R:Rel prog w cl K news ρ Hh) (FR:FRel K news ρ ns env m f) (hc:c f Hh = some (v,H'))
  (k:∀ v' h' tk' news' ρ',Fr h₀ L h' m → News h₀ L h' news' → Rel prog w cl K news' ρ' H' → Ext [] ρ ρ' news news' → VR K news' ρ' v' v → FRel K news' ρ' ns env m f → Q v' { s with heap:=h',toks:=tk' }):wpAny (model prog w) A t Q E s:=
 wpAny_mono (h E s m news ρ f Hh v H' F N R FR hc) (fun v' s' ⟨h',tk',news',ρ',e,F',N',R',x,hv⟩ => by subst e; exact k v' h' tk' news' ρ' F' N' R' x hv (FR.ext x)) fun _ _ x => x
theorem ST.step {c:Tx} {t:Sem Bool} {Q:Bool → Shared → Prop} {f:Fm} {v:Bool} (h:ST prog w cl K h₀ L A ns env c t) (F:Fr h₀ L s.heap m) (N:News h₀ L s.heap news) (R:Rel prog w cl K news ρ Hh) (FR:FRel K news ρ ns env m f) (hc:c f Hh = some (v,H'))
  (k:∀ h' tk' news' ρ',Fr h₀ L h' m → News h₀ L h' news' → Rel prog w cl K news' ρ' H' → Ext [] ρ ρ' news news' → FRel K news' ρ' ns env m f → Q v { s with heap:=h',toks:=tk' }):wpAny (model prog w) A t Q E s:=
 wpAny_mono (h E s m news ρ f Hh v H' F N R FR hc) (fun v' s' ⟨h',tk',news',ρ',e,F',N',R',x,hv⟩ => by subst e; subst hv; exact k h' tk' news' ρ' F' N' R' x (FR.ext x)) fun _ _ x => x
theorem EP.ofs {v:V} {v':Value} {h':Heap} {tk:Tok} {news':ay} {ρ':b9} (F:Fr h₀ L h' m) (N:News h₀ L h' news') (R:Rel prog w cl K news' ρ' H') (x:Ext [] ρ ρ' news news') (hv:VR K news' ρ' v' v) :
  EP prog w cl K h₀ L m news ρ v H' s v' { s with heap:=h',toks:=tk }:=⟨h',tk,news',ρ',rfl,F,N,R,x,hv⟩
theorem TP.ofs {v:Bool} {h':Heap} {tk:Tok} {news':ay} {ρ':b9} (F:Fr h₀ L h' m) (N:News h₀ L h' news') (R:Rel prog w cl K news' ρ' H') (x:Ext [] ρ ρ' news news') :
  TP prog w cl K h₀ L m news ρ v H' s v { s with heap:=h',toks:=tk }:=⟨h',tk,news',ρ',rfl,F,N,R,x,rfl⟩
theorem EP.aft {v:V} {v':Value} {s':Shared} {h₁ : Heap} {tk₁ : Tok} (x:Ext [] ρ ρ₁ news news₁) (p:EP prog w cl K h₀ L m news₁ ρ₁ v H' { s with heap:=h₁,toks:=tk₁ } v' s'):EP prog w cl K h₀ L m news ρ v H' s v' s':=EP.after rfl x p
theorem Aj {c:Const} {k} {pos} {v:V} (e:si c = some v):SE prog w cl K h₀ L A ns env (ac v) (eval (.Constant c k pos) env):=by
 intro E s m news ρ f Hh v' H' F N R FR hc
 cases hc
 unfold si at e
 split at e <;> cases e
 ·exact wpAny_Constant_none (EP.here F N R rfl)
 ·exact wpAny_Constant_bool (EP.here F N R rfl)
 ·exact wpAny_Constant_int (EP.now F N R ⟨_,rfl⟩)
 ·exact wpAny_Constant_str (EP.now F N R ⟨_,rfl⟩)
theorem cA {x:Str} {i:Nat} (h:cq ns x = some i):∃ k,aJ ns x = some (i,k) ∧ (k = .local ∨ k = .cell ∨ k = .free):=by
 unfold cq at h
 cases hk:aJ ns x with
 | none => rw [hk] at h; cases h
 | some p =>
  obtain ⟨j,k⟩:=p
  rw [hk] at h
  cases k <;> first | (cases h; exact ⟨_,rfl,by simp⟩) | cases h
theorem fW {x:Str} (h:gw ns x = true):∃ i,aJ ns x = some (i,.globalImplicit):=by
 unfold gw at h
 cases hk:aJ ns x with
 | none => rw [hk] at h; cases h
 | some p =>
  obtain ⟨j,k⟩:=p
  rw [hk] at h
  cases k <;> first | exact ⟨j,rfl⟩ | cases h
theorem By {x:Str} {pos} (ok:jh ns env L) (G:GQ K) (B:Base K h₀) (hx:¬ (x = "__debug__" ∨ x = "__classdict__")):SE prog w cl K h₀ L A ns env (wU ns x) (eval (.Name x pos) env):=by
 intro E s m news ρ f Hh v H' F N R FR hc
 have hd:(x == ("__debug__" : Str)) = false:=by rw [beq_eq_false_iff_ne]; exact fun e => hx (.inl e)
 haveI hn:(x == ("__classdict__" : Str)) = false:=by rw [beq_eq_false_iff_ne]; exact fun e => hx (.inr e)
 unfold wU at hc
 cases hi:cq ns x with
 | some i =>
  rw [hi] at hc
  obtain ⟨y,hy,e⟩:=mpd hc
  cases e
  haveI cellCase:∀ k,aJ ns x = some (i,k) → (k = .cell ∨ k = .free) → wpAny (model prog w) A (eval (.Name x pos) env) (EP prog w cl K h₀ L m news ρ v Hh s) E s:=fun k hk hcf => by
   haveI z:=FR x _ _ _ hk hy
   have z:AI K news ρ env x v:=by
    rcases hcf with rfl | rfl <;> exact z
   obtain ⟨hl,c,o,v',hc,hm,ho,hv,_⟩:=z
   rcases hl with hl | hl
   ·exact wpAny_Name (wpAny_loadName_cell ok.kind hl hc ⟨o,N.get hm,ho⟩ (EP.here F N R hv)) hd
   ·exact wpAny_Name (wpAny_loadName_free ok.kind hl hc ⟨o,N.get hm,ho⟩ (EP.here F N R hv) hn) hd
  obtain ⟨k,hk,hkk⟩:=cA hi
  rcases hkk with rfl | hkk
  ·obtain ⟨hl,v',hm,hv⟩:=FR x _ _ _ hk hy
   exact wpAny_Name (wpAny_loadName_local ok.kind hl (by rw [ok.locals]; exact F.ns) hm (EP.here F N R hv)) hd
  ·exact cellCase k hk hkk
 | none =>
  rw [hi] at hc
  cases hg:gw ns x with
  | false => rw [hg] at hc; cases hc
  | true =>
   rw [hg] at hc
   cases hy:gP.lookup x with
   | none => rw [hy] at hc; cases hc
   | some y =>
    rw [hy] at hc
    cases hc
    obtain ⟨v',h1,h2⟩:=G.const _ _ hy
    obtain ⟨j,hk⟩:=fW hg
    obtain ⟨mg,hmg⟩:=B.g
    exact Name_function_global ok.kind (ok.glob _ _ hk) (loadGlobal_global (by rw [ok.globals]; exact hmg.keeps F.keep) (mg_of (B.X.keeps F.keep) (hmg.keeps F.keep) h1) (EP.here F N R h2.top)) hd
theorem tS {op:Operator} {x y z:V} {v u:Value} (F:Fr h₀ L s.heap m) (N:News h₀ L s.heap news) (R:Rel prog w cl K news ρ Hh) (hv:VR K news ρ v x) (hu:VR K news ρ u y) (e:sB op x y Hh = some (z,H')) :
  wpAny (model prog w) A (binaryOp op v u) (EP prog w cl K h₀ L m news ρ z H' s) E s:=by
 unfold sB at e
 split at e <;> try (cases e; done)
 ·split at e <;> try (cases e; done)
  obtain ⟨t,rfl⟩:=hv; obtain ⟨t',rfl⟩:=hu
  obtain ⟨c,hc,e⟩:=mpd e
  cases e
  exact vc hc fun tk => EP.now F N R ⟨_,rfl⟩
 ·split at e <;> try (cases e; done)
  split at e <;> try (cases e; done)
  unfold D3 at e
  split at e <;> try (cases e; done)
  rename_i x h1
  split at e <;> try (cases e; done)
  rename_i y h2
  split at e <;> try (cases e; done)
  rename_i hz; cases e
  obtain ⟨a,d,rfl,ha⟩:=hv; obtain ⟨b,d',rfl,hb⟩:=hu
  obtain ⟨ob,vs,hm,hl,hvs,_⟩:=R.list h1 ha
  obtain ⟨ob',vs',hm',hl',hvs',_⟩:=R.list h2 hb
  refine add_arrays F N (bv N hm hl) (bv N hm' hl') (fun h' F' N' => ?_) (by haveI:=hvs.length; haveI:=hvs'.length; simp [sizeLine]; omega)
  exact a9 (tk:=s.toks) R F' N' (fun p hp => dC N hp) (by simpa using jc (vs ++ vs') 0) (hvs.append hvs')
theorem EF {op:Operator} {a b:Ex} {l r:PySem.Expr} {pos} (ha:SE prog w cl K h₀ L A ns env a (eval l env)) (hb:SE prog w cl K h₀ L A ns env b (eval r env)):SE prog w cl K h₀ L A ns env (ao op a b) (eval (.BinOp l op r pos) env):=by
 intro E s m news ρ f Hh v H' F N R FR hc
 obtain ⟨x,H1,hx,hc⟩:=bnd2 hc
 obtain ⟨y,H2,hy,hc⟩:=bnd2 hc
 refine wpAny_BinOp (ha.step F N R FR hx fun v₁ h₁ t₁ n₁ ρ₁ F1 N1 R1 x1 hv1 FR1 => ?_)
 refine hb.step F1 N1 R1 FR1 hy fun v₂ h₂ t₂ n₂ ρ₂ F2 N2 R2 x2 hv2 FR2 => ?_
 exact wpAny_mono (tS (s:={ s with heap:=h₂,toks:=t₂ }) F2 N2 R2 (hv1.ext x2) hv2 hc) (fun _ _ p => EP.aft (x1.trans x2) p) fun _ _ x => x
theorem vZ {op:UnaryOp} {x z:V} {v:Value} (F:Fr h₀ L s.heap m) (N:News h₀ L s.heap news) (R:Rel prog w cl K news ρ Hh) (hv:VR K news ρ v x) (e:Ds op x = some z) :
  wpAny (model prog w) A (unaryOp op v) (EP prog w cl K h₀ L m news ρ z Hh s) E s:=by
 have un:∀ {f:Int → Int},EO f x = some z → ∃ i t,x = .int i ∧ v = .int i t ∧ z = .int (f i):=fun {f} e => by
  unfold EO at e
  split at e <;> cases e
  obtain ⟨t,rfl⟩:=hv
  exact ⟨_,t,rfl,rfl,rfl⟩
 cases op with
 | USub => obtain ⟨i,t,rfl,rfl,rfl⟩:=un e; exact PyProof.Rows.neg_int (EP.now F N R ⟨_,rfl⟩)
 | Invert => obtain ⟨i,t,rfl,rfl,rfl⟩:=un e; exact PyProof.Rows.invert_int (EP.now F N R ⟨s.toks,rfl⟩)
 | Not =>
  replace e:Dk x = some z:=e
  unfold Dk at e
  split at e <;> cases e
  ·rename_i i
   refine not_of (cz (y:=.int i) hv rfl ?_)
   haveI:(!(i != 0)) = (i == 0):=by cases h:(i == 0) <;> simp_all [bne]
   exact EP.here F N R (by show Value.bool _ = Value.bool _; rw [← this])
  ·rename_i b
   exact not_of (cz (y:=.bool b) hv rfl (EP.here F N R rfl))
 | _ => cases e
theorem E3 {op:UnaryOp} {a:Ex} {l:PySem.Expr} {pos} (ha:SE prog w cl K h₀ L A ns env a (eval l env)):SE prog w cl K h₀ L A ns env (i0 op a) (eval (.UnaryOp op l pos) env):=by
 intro E s m news ρ f Hh v H' F N R FR hc
 obtain ⟨x,H1,hx,hc⟩:=bnd2 hc
 obtain ⟨z,hz,e⟩:=mpd hc
 cases e
 refine UnaryOp_ (ha.step F N R FR hx fun v₁ h₁ t₁ n₁ ρ₁ F1 N1 R1 x1 hv1 FR1 => ?_)
 exact wpAny_mono (vZ (s:={ s with heap:=h₁,toks:=t₁ }) F1 N1 R1 hv1 hz) (fun _ _ p => EP.aft x1 p) fun _ _ x => x
theorem Di {op:CmpOp} {a b:Ex} {l r:PySem.Expr} {pos} (hm:behindInMarks op r = false) (hu:A.units + 10 < cLine) (X:K.In h₀) (ha:SE prog w cl K h₀ L A ns env a (eval l env)) (hb:SE prog w cl K h₀ L A ns env b (eval r env)):SE prog w cl K h₀ L A ns env (cG op a b) (eval (.Compare l [op] [r] pos) env):=by
 intro E s m news ρ f Hh v H' F N R FR hc
 obtain ⟨x,H1,hx,hc⟩:=bnd2 hc
 obtain ⟨y,H2,hy,hc⟩:=bnd2 hc
 obtain ⟨z,hz,e⟩:=mpd hc
 cases e
 refine wpAny_Compare1 (ha.step F N R FR hx fun v₁ h₁ t₁ n₁ ρ₁ F1 N1 R1 x1 hv1 FR1 => ?_) hm
 refine hb.step F1 N1 R1 FR1 hy fun v₂ h₂ t₂ n₂ ρ₂ F2 N2 R2 x2 hv2 FR2 => ?_
 exact pR (s:={ s with heap:=h₂,toks:=t₂ }) hu (X.keeps F2.keep) N2 R2 (hv1.ext x2) hv2 hz (EP.ofs F2 N2 R2 (x1.trans x2) rfl)
theorem Es {op:CmpOp} {a b:Ex} {l r:PySem.Expr} {pos} {t:Sem Value} (hm:behindInMarks op r = false) (hu:A.units + 10 < cLine) (X:K.In h₀) (ha:SE prog w cl K h₀ L A ns env a (eval l env)) (hb:SE prog w cl K h₀ L A ns env b (eval r env)):ST prog w cl K h₀ L A ns env (ax op a b) (isTrue (.Compare l [op] [r] pos) env t):=by
 intro E s m news ρ f Hh v H' F N R FR hc
 obtain ⟨x,H1,hx,hc⟩:=bnd2 hc
 obtain ⟨y,H2,hy,hc⟩:=bnd2 hc
 obtain ⟨z,hz,e⟩:=mpd hc
 cases e
 refine wpAny_isTrue_Compare1 (ha.step F N R FR hx fun v₁ h₁ t₁ n₁ ρ₁ F1 N1 R1 x1 hv1 FR1 => ?_) hm
 refine hb.step F1 N1 R1 FR1 hy fun v₂ h₂ t₂ n₂ ρ₂ F2 N2 R2 x2 hv2 FR2 => ?_
 refine pR (s:={ s with heap:=h₂,toks:=t₂ }) hu (X.keeps F2.keep) N2 R2 (hv1.ext x2) hv2 hz ?_
 exact cz (ρ:=ρ₂) (news:=n₂) (K:=K) (y:=.bool v) rfl rfl (TP.ofs F2 N2 R2 (x1.trans x2))
theorem Gh {c:Tx} {a b:Ex} {t l r:PySem.Expr} {pos} (ht:ST prog w cl K h₀ L A ns env c (isTrue t env (eval t env))) (ha:SE prog w cl K h₀ L A ns env a (eval l env)) (hb:SE prog w cl K h₀ L A ns env b (eval r env)):SE prog w cl K h₀ L A ns env (ET c a b) (eval (.IfExp t l r pos) env):=by
 intro E s m news ρ f Hh v H' F N R FR hc
 obtain ⟨x,H1,hx,hc⟩:=bnd2 hc
 refine IfExp_ (ht.step F N R FR hx fun h₁ t₁ n₁ ρ₁ F1 N1 R1 x1 FR1 => ?_)
 cases x
 ·exact hb.step (s:={ s with heap:=h₁,toks:=t₁ }) F1 N1 R1 FR1 hc fun v₂ h₂ t₂ n₂ ρ₂ F2 N2 R2 x2 hv2 FR2 => EP.ofs F2 N2 R2 (x1.trans x2) hv2
 ·exact ha.step (s:={ s with heap:=h₁,toks:=t₁ }) F1 N1 R1 FR1 hc fun v₂ h₂ t₂ n₂ ρ₂ F2 N2 R2 x2 hv2 FR2 => EP.ofs F2 N2 R2 (x1.trans x2) hv2
theorem wr {op:BoolOp} {de:PySem.Expr → Ex} {pos}:∀ {vs:List PySem.Expr},(∀ e ∈ vs,SE prog w cl K h₀ L A ns env (de e) (eval e env)) → SE prog w cl K h₀ L A ns env (cf op (vs.map de)) (eval (.BoolOp op vs pos) env)
 | [],_ => SE.no
 | [x],h => fun E s m news ρ f Hh v H' F N R FR hc => BoolOp_one (h x (.head _) E s m news ρ f Hh v H' F N R FR hc)
 | x :: y :: r,h => by
  intro E s m news ρ f Hh v H' F N R FR hc
  haveI ih:=wr (op:=op) (pos:=pos) (vs:=y :: r) fun e he => h e (.tail _ he)
  obtain ⟨z,H1,hx,hc⟩:=bnd2 hc
  obtain ⟨t,ht,hc⟩:=bnd1 hc
  cases op with
  | And =>
   refine BoolOp_and ((h x (.head _)).step F N R FR hx fun v₁ h₁ t₁ n₁ ρ₁ F1 N1 R1 x1 hv1 FR1 => ?_)
   refine cz hv1 ht ?_
   cases t
   ·cases hc; exact EP.ofs F1 N1 R1 x1 hv1
   ·exact ih.step (s:={ s with heap:=h₁,toks:=t₁ }) F1 N1 R1 FR1 hc fun v₂ h₂ t₂ n₂ ρ₂ F2 N2 R2 x2 hv2 FR2 => EP.ofs F2 N2 R2 (x1.trans x2) hv2
  | Or =>
   refine BoolOp_or ((h x (.head _)).step F N R FR hx fun v₁ h₁ t₁ n₁ ρ₁ F1 N1 R1 x1 hv1 FR1 => ?_)
   refine cz hv1 ht ?_
   cases t
   ·exact ih.step (s:={ s with heap:=h₁,toks:=t₁ }) F1 N1 R1 FR1 hc fun v₂ h₂ t₂ n₂ ρ₂ F2 N2 R2 x2 hv2 FR2 => EP.ofs F2 N2 R2 (x1.trans x2) hv2
   ·cases hc; exact EP.ofs F1 N1 R1 x1 hv1
theorem EE {c:Tx} {e:PySem.Expr} {pos} {t:Sem Value} (h:ST prog w cl K h₀ L A ns env c (isTrue e env (eval e env))):ST prog w cl K h₀ L A ns env (fO c) (isTrue (.UnaryOp .Not e pos) env t):=by
 intro E s m news ρ f Hh v H' F N R FR hc
 obtain ⟨⟨x,H1⟩,hx,e⟩:=Option.map_eq_some_iff.mp hc
 cases e
 exact wpAny_isTrue_Not (h.step F N R FR hx fun h₁ t₁ n₁ ρ₁ F1 N1 R1 x1 FR1 => TP.ofs F1 N1 R1 x1)
theorem zv {op:BoolOp} {dt:PySem.Expr → Tx}:∀ {vs:List PySem.Expr},(∀ e ∈ vs,ST prog w cl K h₀ L A ns env (dt e) (isTrue e env (eval e env))) → ST prog w cl K h₀ L A ns env (cI op (vs.map dt)) (allTrue op vs env)
 | [],_ => by
  intro E s m news ρ f Hh v H' F N R FR hc
  cases hc
  cases op
  ·exact wpAny_allTrue_And_nil (TP.ofs F N R (.refl _ _ _))
  ·exact wpAny_allTrue_Or_nil (TP.ofs F N R (.refl _ _ _))
 | x :: r,h => by
  intro E s m news ρ f Hh v H' F N R FR hc
  haveI ih:=zv (op:=op) (vs:=r) fun e he => h e (.tail _ he)
  obtain ⟨z,H1,hx,hc⟩:=bnd2 hc
  cases op with
  | And =>
   refine wpAny_allTrue_And_cons ((h x (.head _)).step F N R FR hx fun h₁ t₁ n₁ ρ₁ F1 N1 R1 x1 FR1 => ?_)
   cases z
   ·cases hc; exact TP.ofs F1 N1 R1 x1
   ·exact ih.step (s:={ s with heap:=h₁,toks:=t₁ }) F1 N1 R1 FR1 hc fun h₂ t₂ n₂ ρ₂ F2 N2 R2 x2 FR2 => TP.ofs F2 N2 R2 (x1.trans x2)
  | Or =>
   refine wpAny_allTrue_Or_cons ((h x (.head _)).step F N R FR hx fun h₁ t₁ n₁ ρ₁ F1 N1 R1 x1 FR1 => ?_)
   cases z
   ·exact ih.step (s:={ s with heap:=h₁,toks:=t₁ }) F1 N1 R1 FR1 hc fun h₂ t₂ n₂ ρ₂ F2 N2 R2 x2 FR2 => TP.ofs F2 N2 R2 (x1.trans x2)
   ·cases hc; exact TP.ofs F1 N1 R1 x1
theorem yK {a:Ex} {e:PySem.Expr} {t:Sem Value} (ha:SE prog w cl K h₀ L A ns env a t) (he:isTrue e env t = (do let v ← t; standAt e.pos; holding [v] (truthy v))):ST prog w cl K h₀ L A ns env (aX a) (isTrue e env t):=by
 intro E s m news ρ f Hh v H' F N R FR hc
 obtain ⟨x,H1,hx,hc⟩:=bnd2 hc
 obtain ⟨z,hz,e⟩:=mpd hc
 cases e
 exact wpAny_isTrue_value (ha.step F N R FR hx fun v₁ h₁ t₁ n₁ ρ₁ F1 N1 R1 x1 hv1 FR1 => cz hv1 hz (TP.ofs F1 N1 R1 x1)) he
theorem cT {e:PySem.Expr} {rest:List PySem.Expr} (h:∀ x p,e ≠ .Starred x p):starEach (e :: rest) env = (false,eval e env) :: starEach rest env:=by
 cases e <;> first | rfl | exact absurd rfl (h _ _)
noncomputable def SA (prog:Program) (w:World) (cl:Str → Option Addr) (K:Frag) (h₀ : Heap) (L:Addr) (A:Around) (ns:aK) (env:Env) (cs:List Ex) (t:Sem (List Value)):Prop:=
 ∀ (E:Value → Shared → Prop) (s:Shared) (m:Str → Option Value) (news:ay) (ρ : b9) (f:Fm) (Hh:H) (vs:List V) (H':H),
  Fr h₀ L s.heap m → News h₀ L s.heap news → Rel prog w cl K news ρ Hh → FRel K news ρ ns env m f → bb cs f Hh = some (vs,H') → wpAny (model prog w) A t (AP prog w cl K h₀ L m news ρ vs H' s) E s
theorem vh {de:PySem.Expr → Ex} {pos} (hs:∀ x p,de (.Starred x p) = dK):∀ {es:List PySem.Expr},(∀ e ∈ es,SE prog w cl K h₀ L A ns env (de e) (eval e env)) → SA prog w cl K h₀ L A ns env (es.map de) (spliced (backTo pos (starEach es env)))
 | [],_ => fun E s m news ρ f Hh vs H' F N R FR hc => by
  cases hc
  exact wpAny_items_nil ⟨s.heap,s.toks,news,ρ,rfl,F,N,R,.refl _ _ _,.nil⟩
 | x :: r,h => fun E s m news ρ f Hh vs H' F N R FR hc => by
  haveI ih:=vh (pos:=pos) hs (es:=r) fun e he => h e (.tail _ he)
  obtain ⟨z,H1,hx,hc⟩:=bnd2 hc
  obtain ⟨zs,H2,hy,hc⟩:=bnd2 hc
  cases hc
  refine wpAny_items_cons ((h x (.head _)).step F N R FR hx fun v₁ h₁ t₁ n₁ ρ₁ F1 N1 R1 x1 hv1 FR1 => ?_) (cT fun y p e => by subst e; rw [hs] at hx; cases hx)
  refine wpAny_mono (ih E _ m n₁ ρ₁ f H1 zs _ F1 N1 R1 FR1 hy) (fun vs' s' ⟨h',tk',n',ρ',e,F',N',R',x',hv'⟩ => ?_) fun _ _ x => x
  exact ⟨h',tk',n',ρ',e,F',N',R',x1.trans x',.cons (hv1.ext x') hv'⟩
theorem SA.step {cs:List Ex} {t:Sem (List Value)} {Q:List Value → Shared → Prop} {f:Fm} {vs:List V} (h:SA prog w cl K h₀ L A ns env cs t) (F:Fr h₀ L s.heap m) (N:News h₀ L s.heap news) (R:Rel prog w cl K news ρ Hh) (FR:FRel K news ρ ns env m f) (hc:bb cs f Hh = some (vs,H'))
  (k:∀ vs' h' tk' news' ρ',Fr h₀ L h' m → News h₀ L h' news' → Rel prog w cl K news' ρ' H' → Ext [] ρ ρ' news news' → All2 (VR K news' ρ') vs' vs → FRel K news' ρ' ns env m f → Q vs' { s with heap:=h',toks:=tk' }):wpAny (model prog w) A t Q E s:=
 wpAny_mono (h E s m news ρ f Hh vs H' F N R FR hc) (fun v' s' ⟨h',tk',news',ρ',e,F',N',R',x,hv⟩ => by subst e; exact k v' h' tk' news' ρ' F' N' R' x hv (FR.ext x)) fun _ _ x => x
end
theorem kj:∀ {cs:List Ex} {f:Fm} {Hh Hf:H} {vs:List V},bb cs f Hh = some (vs,Hf) → vs.length = cs.length
 | [],_,_,_,_,h => by cases h; rfl
 | _ :: _,_,_,_,_,h => by
  obtain ⟨z,H1,hx,hc⟩:=bnd2 h
  obtain ⟨zs,H2,hy,hc⟩:=bnd2 hc
  cases hc
  simp [kj hy]
end
section
open PySem PySem.W PySem.Calls PyProof.Rows
section
variable {prog:Program} {w:World} {cl:Str → Option Addr} {K:Frag} {h₀ : Heap} {L:Addr} {m:Str → Option Value} {news news₁ : ay} {ρ ρ₁ : b9} {s s₁ : Shared} {A:Around} {E:Value → Shared → Prop} {Hh H':H} {ns:aK} {env:Env}
noncomputable def lS (cl:Str → Option Addr) (K:Frag):Prop:=∀ c C x,cl c = some C → dj x = true → rz K C x
theorem oq {o:PySem.Expr} {attr:Str} {t:Sem Value} (h:eB o = true):attributeBase o attr env t = t:=by
 cases o <;> first | rfl | cases h
theorem Cr {a:Ex} {o:PySem.Expr} {x:Str} {pos} (hn:eB o = true) (hA:lS cl K) (X:K.In h₀) (ha:SE prog w cl K h₀ L A ns env a (eval o env)):SE prog w cl K h₀ L A ns env (ai a x) (eval (.Attribute o x pos) env):=by
 intro E s m news ρ f Hh v H' F N R FR hc
 obtain ⟨y,H1,hx,hc⟩:=bnd2 hc
 obtain ⟨z,hz,e⟩:=mpd hc
 cases e
 refine Attribute_any_ (ha.step F N R FR hx fun v₁ h₁ t₁ n₁ ρ₁ F1 N1 R1 x1 hv1 FR1 => ?_) (by rw [arm_eval_Attribute,oq hn])
 exact ig (s:={ s with heap:=h₁,toks:=t₁ }) hA X F1 N1 R1 hv1 hz fun v₂ tk hv2 => EP.ofs F1 N1 R1 x1 hv2
theorem Dd {a b:Ex} {o i:PySem.Expr} {pos} (hs:gu i = true) (X:K.In h₀) (ha:SE prog w cl K h₀ L A ns env a (eval o env)) (hb:SE prog w cl K h₀ L A ns env b (eval i env)):SE prog w cl K h₀ L A ns env (av a b) (eval (.Subscript o i pos) env):=by
 intro E s m news ρ f Hh v H' F N R FR hc
 obtain ⟨x,H1,hx,hc⟩:=bnd2 hc
 obtain ⟨y,H2,hy,hc⟩:=bnd2 hc
 obtain ⟨z,hz,e⟩:=mpd hc
 cases e
 refine Subscript_ (ha.step F N R FR hx fun v₁ h₁ t₁ n₁ ρ₁ F1 N1 R1 x1 hv1 FR1 => ?_)
 refine hb.step F1 N1 R1 FR1 hy fun v₂ h₂ t₂ n₂ ρ₂ F2 N2 R2 x2 hv2 FR2 => ?_
 exact qP (s:={ s with heap:=h₂,toks:=t₂ }) (X.keeps F2.keep) F2 N2 R2 (hv1.ext x2) hv2 hz hs fun v₃ tk hv3 => EP.ofs F2 N2 R2 (x1.trans x2) hv3
theorem pF {lo hi:Option PySem.Expr} {p} (o i:Value):subscripted (.Slice lo hi none p) false o i = operate [i,o] (getItem o i):=rfl
noncomputable def rD (x:Option PySem.Expr) (k:Option Int):Prop:=match x with
 | none => k = none
 | some e => ∃ i,jW e = some i ∧ k = some i
theorem ju {x:Option PySem.Expr} {k:Option Int} {Q:Value → Shared → Prop} (h:rD x k) (hQ:∀ v tk,IsPart v k → Q v { s with toks:=tk }):wpAny (model prog w) A (evalPart x env) Q E s:=by
 cases x with
 | none => cases h; exact wpAny_pure (hQ .none s.toks .none)
 | some e =>
  obtain ⟨i,hi,rfl⟩:=h
  rw [evalPart_some]
  haveI kI:∀ {c:Const} {j:Int},wn c = some j → c = .int j:=fun {c j} h => by cases c <;> cases h; rfl
  unfold jW at hi
  split at hi <;> try (cases hi; done)
  ·cases kI hi; exact wpAny_Constant_int (hQ _ _ (.int _ _))
  ·split at hi <;> try (cases hi; done)
   obtain ⟨j,hj,rfl⟩:=mpd hi
   unfold Fq at hj
   split at hj <;> try (cases hj; done)
   cases kI hj
   refine UnaryOp_ (wpAny_Constant_int ?_)
   exact PyProof.Rows.neg_int (hQ _ _ (.int _ _))
theorem GN (k n:Nat):min (k:Int) n = ((min k n:Nat):Int):=
 (Nat.le_total k n).elim (fun h => by rw [Nat.min_eq_left h,Int.min_eq_left (Int.ofNat_le.mpr h)]) (fun h => by rw [Nat.min_eq_right h,Int.min_eq_right (Int.ofNat_le.mpr h)])
theorem wT {vs:List Value} {l l':List V} {R:Value → V → Prop} {lo hi:Option Int} (h:All2 R vs l)
  (e:(match lo,hi with | none,none => some l | none,some k => if 0 ≤ k then some (l.take k.toNat) else none | some k,none => if k < 0 then some (l.drop (l.length - (-k).toNat)) else none | _,_ => none) = some l') :
  ∃ us,slicePick vs.toArray lo hi none = us.toArray ∧ All2 R us l':=by
 cases lo with
 | none =>
  cases hi with
  | none => cases e; exact ⟨vs,slicePick_all _,h⟩
  | some y =>
   dsimp only at e
   split at e
   ·rename_i h0; cases e
    haveI eb:sliceBounds none (some y) none vs.toArray.size = (((0:Nat):Int),((min y.toNat vs.toArray.size:Nat):Int),1):=by
     simp only [sliceBounds,Option.getD_none,show (1:Int) > 0 by decide,if_true,if_neg (show ¬ (y < 0) by omega)]
     obtain ⟨k,rfl⟩:=Int.eq_ofNat_of_zero_le h0
     exact congrArg (fun z => ((0:Int),z,(1:Int))) ((Int.max_eq_right (Int.le_min.mpr ⟨h0,Int.natCast_nonneg _⟩)).trans (GN ..))
    refine ⟨vs.take y.toNat,?_,h.take _⟩
    rw [kmk_pick_nat _ eb]
    simp only [List.drop_zero,Nat.sub_zero,List.size_toArray,kmk_take_min]
   ·cases e
 | some x =>
  cases hi with
  | some y => cases e
  | none =>
   dsimp only at e
   split at e
   ·rename_i h0; cases e
    haveI eb:sliceBounds (some x) none none vs.toArray.size = (((vs.toArray.size - (-x).toNat:Nat):Int),((vs.toArray.size:Nat):Int),1):=by
     simp only [sliceBounds,Option.getD_none,show (1:Int) > 0 by decide,if_true,if_pos h0]
     haveI e1:x + (vs.toArray.size:Int) = (vs.toArray.size:Int) - ((-x).toNat:Int):=by rw [Int.toNat_of_nonneg (Int.neg_nonneg_of_nonpos (Int.le_of_lt h0)),Int.sub_neg,Int.add_comm]
     refine congrArg (fun z => (z,((vs.toArray.size:Nat):Int),(1:Int))) ?_
     rw [e1,Int.min_eq_left (Int.sub_le_self _ (Int.natCast_nonneg _)),Int.max_comm,← Int.toNat_eq_max,Int.toNat_sub]
    refine ⟨vs.drop (vs.length - (-x).toNat),?_,?_⟩
    ·rw [kmk_pick_nat _ eb]
     congr 1
     rw [List.size_toArray,List.take_of_length_le (by rw [List.length_drop]; simp)]
    ·rw [h.length]; exact h.drop _
   ·cases e
theorem tK {o v:V} {lo hi:Option Int} (e:fR o lo hi Hh = some (v,H')):∃ i vs l',o = .ref i ∧ Hh[i]? = some (.list vs) ∧ vs.length ≤ 1000000 ∧
  (match lo,hi with | none,none => some vs | none,some k => if 0 ≤ k then some (vs.take k.toNat) else none | some k,none => if k < 0 then some (vs.drop (vs.length - (-k).toNat)) else none | _,_ => none) = some l' ∧ v = .ref Hh.length ∧ H' = Hh ++ [.list l']:=by
 unfold fR at e
 split at e
 ·rename_i i
  split at e
  ·rename_i vs hi'
   split at e
   ·cases e
   ·rename_i hz
    haveI hz:vs.length ≤ 1000000:=by omega
    cases lo with
    | none =>
     cases hi with
     | none => cases e; exact ⟨_,_,_,rfl,hi',hz,rfl,rfl,rfl⟩
     | some y =>
      dsimp only at e ⊢
      split at e
      ·rename_i h0; cases e; exact ⟨_,_,_,rfl,hi',hz,by rw [if_pos h0],rfl,rfl⟩
      ·cases e
    | some x =>
     cases hi with
     | some y => cases e
     | none =>
      dsimp only at e ⊢
      split at e
      ·rename_i h0; cases e; exact ⟨_,_,_,rfl,hi',hz,by rw [if_pos h0],rfl,rfl⟩
      ·cases e
  ·cases e
 ·cases e
theorem nN {a:Ex} {o:PySem.Expr} {lo hi:Option PySem.Expr} {kl kh:Option Int} {p pos} (hl:rD lo kl) (hh:rD hi kh) (ha:SE prog w cl K h₀ L A ns env a (eval o env)) :
  SE prog w cl K h₀ L A ns env (c5 a kl kh) (eval (.Subscript o (.Slice lo hi none p) pos) env):=by
 intro E s m news ρ f Hh v H' F N R FR hc
 obtain ⟨x,H1,hx,hc⟩:=bnd2 hc
 obtain ⟨i,vs,l',rfl,hi,hz,he,rfl,rfl⟩:=tK hc
 refine Subscript_ (ha.step F N R FR hx fun v₁ h₁ t₁ n₁ ρ₁ F1 N1 R1 x1 hv1 FR1 => ?_)
 obtain ⟨b,d,rfl,hb⟩:=hv1
 obtain ⟨ob,us,m1,m2,m3,_,_⟩:=R1.list hi hb
 obtain ⟨zs,hp,hzs⟩:=wT m3 he
 haveI hlist:=bv (s:={ s with heap:=h₁,toks:=t₁ }) N1 m1 m2
 refine wpAny_Slice (ju hl fun vl t₂ pl => ju hh fun vu t₃ pu => wpAny_pure ?_)
 refine tail_any (Heap.IsList.typeIs (s:={ s with heap:=h₁.push { cls:=.type "slice",data:=.fields #[vl,vu,.none] },toks:=t₃ }) (hlist.push _)) list_getitem_lookup
  (wpAny_getItem_list_slice (hlist.push _) (Heap.IsSliceOf.new ..) pl pu .none (by simp) ?_ (by haveI:=m3.length; simp only [List.size_toArray,sizeLine_eq]; omega)) (pF _ _)
 haveI N2:=News.push (F1.push { cls:=.type "slice",data:=.fields #[vl,vu,.none] }) (N1.grown fun _ _ e => Heap.get?_push_of_some _ e) { cls:=.type "list",data:=.seq (slicePick us.toArray kl kh none) }
 rw [hp] at N2 ⊢
 exact EP.aft x1 (a9 (tk:=t₃) R1 ((F1.push _).push _) N2 (fun p hp' e => by
  haveI:=Heap.lt_size (N1 p hp').1
  rw [e] at this
  simp only [Heap.size_push] at this
  exact absurd (Nat.lt_trans (Nat.lt_succ_self _) this) (Nat.lt_irrefl _)) (jc zs 0) hzs)
theorem A9 {cs:List Ex} {es:List PySem.Expr} {pos} (hz:es.length ≤ 1000) (hl:cs.length = es.length) (ha:SA prog w cl K h₀ L A ns env cs (spliced (backTo pos (starEach es env)))):SE prog w cl K h₀ L A ns env (aP cs) (eval (.List es pos) env):=by
 intro E s m news ρ f Hh v H' F N R FR hc
 obtain ⟨vs,H1,hx,hc⟩:=bnd2 hc
 cases hc
 rw [arm_eval_List]
 refine wpAny_bind (wpAny_standAt (wpAny_bind (ha.step F N R FR hx fun vs' h₁ t₁ n₁ ρ₁ F1 N1 R1 x1 hv1 FR1 => ?_)))
 refine newList_K (s:={ s with heap:=h₁,toks:=t₁ }) F1 N1 (fun l h' F2 N2 hlt => ?_) (by haveI:=hv1.length; haveI:=kj hx; rw [sizeLine_eq]; omega)
 exact EP.aft x1 (a9 (tk:=t₁) R1 F2 N2 (fun p hp => Nat.ne_of_lt (hlt p hp)) (jc vs' 0) hv1)
theorem cP {l:Addr} {ob:Obj} {h':Heap} (R:Rel prog w cl K news ρ Hh) (N':News h₀ L h' ((l,ob) :: news)) (hf:∀ p ∈ news,p.1 ≠ l):Rel prog w cl K ((l,ob) :: news) ρ Hh ∧ Ext [] ρ ρ news ((l,ob) :: news):=by
 haveI hf':∀ a ∈ ([(l,ob)]:ay).map (·.1),a ∉ news.map (·.1):=by
  intro a ha q
  simp at ha; subst ha
  obtain ⟨p,hp,e⟩:=List.mem_map.mp q
  exact hf p hp e
 haveI r:=R.more (extra:=[(l,ob)]) (by simp) hf' [] [] (by simp [aY]) (by simp [aY]) rfl (by simp)
 haveI x:=Ext.more (own:=[]) (ρ:=ρ) hf' [] (by simp [aY])
 simp at r x
 exact ⟨r,x⟩
theorem pz:∀ {l:List V} {nss:List (List Int)},oo l = some nss → ∀ {vs:List Value},All2 (VR K news ρ) vs l → All2 (TupI K news) vs nss
 | [],_,e,_,h => by cases e; cases h; exact .nil
 | .tup i :: r,_,e,_,h => by
  obtain ⟨z,hz,rfl⟩:=mpd e
  cases h with
  | cons a b => exact .cons a (pz hz b)
theorem tn:∀ {l:List V} {ss:List Str},qN l = some ss → ∀ {vs:List Value},All2 (VR K news ρ) vs l → All2 GO vs ss
 | [],_,e,_,h => by cases e; cases h; exact .nil
 | .str i :: r,_,e,_,h => by
  obtain ⟨z,hz,rfl⟩:=mpd e
  cases h with
  | cons a b => exact .cons a (tn hz b)
theorem zO {l:Addr} {vs:List Value} {xs:List V} {v:V} (h:All2 (VR K news ρ) vs xs) (hm:(l,sL vs) ∈ news) (e:ud xs = some v):VR K news ρ (.ref l) v:=by
 unfold ud at e
 split at e
 ·rename_i q; cases e; exact ⟨l,vs,rfl,.inl hm,tF q h⟩
 ·split at e
  ·rename_i q; cases e; exact ⟨l,vs,rfl,.inl hm,pz q h⟩
  ·split at e
   ·rename_i q; cases e; exact ⟨l,vs,rfl,.inl hm,tn q h⟩
   ·cases e
theorem Ea {cs:List Ex} {es:List PySem.Expr} {k pos} (hz:es.length ≤ 1000) (hl:cs.length = es.length) (ha:SA prog w cl K h₀ L A ns env cs (spliced (backTo pos (starEach es env)))):SE prog w cl K h₀ L A ns env (dM cs) (eval (.Tuple es k pos) env):=by
 intro E s m news ρ f Hh v H' F N R FR hc
 obtain ⟨vs,H1,hx,hc⟩:=bnd2 hc
 obtain ⟨z,hz',e⟩:=mpd hc
 cases e
 rw [arm_eval_Tuple]
 refine wpAny_bind (wpAny_standAt (wpAny_bind (ha.step F N R FR hx fun vs' h₁ t₁ n₁ ρ₁ F1 N1 R1 x1 hv1 FR1 => ?_)))
 refine newTuple_N (s:={ s with heap:=h₁,toks:=t₁ }) F1 N1 (fun h' F2 N2 => ?_) (by haveI:=hv1.length; haveI:=kj hx; rw [sizeLine_eq]; omega)
 obtain ⟨R2,x2⟩:=cP R1 N2 (fun p hp => dC (s:={ s with heap:=h₁,toks:=t₁ }) N1 hp)
 exact EP.ofs F2 N2 R2 (x1.trans x2) (zO (VR.ext2 x2 hv1) (.head _) hz')
theorem xE (v:Value):∀ n:Nat,List.foldl (fun x1 x2 => x1 ++ x2) #[] (List.replicate n (#[v]:Array Value)) = (List.replicate n v).toArray:=by
 intro n
 haveI:∀ (n:Nat) (a:Array Value),List.foldl (fun x1 x2 => x1 ++ x2) a (List.replicate n (#[v]:Array Value)) = a ++ (List.replicate n v).toArray:=by
  intro n
  induction n with
  | zero => intro a; simp
  | succ n ih => intro a; rw [List.replicate_succ,List.foldl_cons,ih,List.replicate_succ]; apply Array.toList_inj.mp; simp
 rw [this]; simp
theorem EA {a b:Ex} {x r:PySem.Expr} {p pos} (hx':∀ y q,x ≠ .Starred y q) (ha:SE prog w cl K h₀ L A ns env a (eval x env)) (hb:SE prog w cl K h₀ L A ns env b (eval r env)):SE prog w cl K h₀ L A ns env (yf a b) (eval (.BinOp (.List [x] p) .Mult r pos) env):=by
 intro E s m news ρ f Hh v H' F N R FR hc
 obtain ⟨z,H1,hx,hc⟩:=bnd2 hc
 obtain ⟨y,H2,hy,hc⟩:=bnd2 hc
 dsimp only at hc
 split at hc
 ·rename_i k
  split at hc
  ·rename_i hk
   cases hc
   refine wpAny_BinOp ?_
   rw [arm_eval_List]
   refine wpAny_bind (wpAny_standAt (wpAny_bind (wpAny_items_cons (ha.step F N R FR hx fun v₁ h₁ t₁ n₁ ρ₁ F1 N1 R1 x1 hv1 FR1 => wpAny_items_nil ?_) (cT hx'))))
   refine newList_K (s:={ s with heap:=h₁,toks:=t₁ }) F1 N1 (fun l h' F2 N2 hlt => ?_) (by rw [sizeLine_eq]; simp)
   obtain ⟨R2,x2⟩:=cP R1 N2 (fun p hp => Nat.ne_of_lt (hlt p hp))
   refine hb.step (s:={ s with heap:=h',toks:=t₁ }) F2 N2 R2 (FR1.ext x2) hy fun v₃ h₃ t₃ n₃ ρ₃ F3 N3 R3 x3 hv3 FR3 => ?_
   obtain ⟨u,rfl⟩:=hv3
   haveI hl:l ∉ aY ρ₁:=fun q => by
    obtain ⟨ob,h1,_⟩:=R1.inNews q
    exact absurd (hlt _ h1) (Nat.lt_irrefl _)
   haveI hm:=x3.keep _ (.head _) hl (by simp)
   refine mul_list (s:={ s with heap:=h₃,toks:=t₃ }) F3 N3 (N3 _ hm).1 (by omega) (by omega) (by simp; omega) fun h₄ F4 N4 => ?_
   haveI e:(if (#[v₁]:Array Value).isEmpty = true then 0 else k.toNat) = k.toNat:=by simp
   rw [e,xE] at N4
   exact EP.aft ((x1.trans x2).trans x3) (a9 (tk:=t₃) R3 F4 N4 (fun p hp => dC (s:={ s with heap:=h₃,toks:=t₃ }) N3 hp) (jc _ 0) (.replicate ((hv1.ext x2).ext x3) _))
  ·cases hc
 ·cases hc
end
end
section
open PySem PySem.W PySem.Calls PyProof.Rows
noncomputable def CW (K:Frag) (fv:Value):Prop:=∀ (M:Model) (h:Heap),K.In h → ∃ k,(k = Keeper.frame ∨ k = Keeper.machine ∨ k = Keeper.boundFrame) ∧ Looks M h (keeperOf fv) k
theorem CW.of_keep {K:Frag} {fv:Value} (h:keepIn K fv = true):CW K fv:=fun _ g X => keeps_K h g X
theorem CW.builtin {K:Frag} {id:String}:CW K (.builtin id):=fun _ _ _ => ⟨.machine,.inr (.inl rfl),.now⟩
theorem CW.type {K:Frag} {id:String}:CW K (.type id):=fun _ _ _ => ⟨.machine,.inr (.inl rfl),.now⟩
noncomputable def FL (K:Frag) (x:Str) (fv:Value):Prop:=nsIn K mainGlobals x = some (some fv) ∨ (nsIn K mainGlobals x = some none ∧ bootBuiltins x = some fv ∧ x ≠ "__name__")
structure FU (K:Frag) (cl:Str → Option Addr) (fval:Str → Option Value):Prop where
 found:∀ x fv,fval x = some fv → mE x = false → FL K x fv
 keep:∀ x fv,fval x = some fv → CW K fv
 bRange:fval "range" = some (.type "range")
 bLen:fval "len" = some (.builtin "len")
 bAbs:fval "abs" = some (.builtin "abs")
 meth:∀ c name k C,fD c name = some k → cl c = some C → ∃ f,fval k = some (.ref f) ∧ plainGet K C name = true ∧ findIn K (.ref C) name = some (some (.ref f)) ∧ isFn K (.ref f) = true
noncomputable def GS (prog:Program) (w:World) (cl:Str → Option Addr) (K:Frag) (fval:Str → Option Value) (g:G) (A:Around) (h₀ : Heap) (L:Addr):Prop:=
 ∀ x vs Hh v H',g x vs Hh = some (v,H') → ∃ fv,fval x = some fv ∧ ∀ (E:Value → Shared → Prop) (s:Shared) m news ρ vs',Fr h₀ L s.heap m → News h₀ L s.heap news → Rel prog w cl K news ρ Hh → All2 (VR K news ρ) vs' vs →
  wpAny (model prog w) A (call fv vs') (EP prog w cl K h₀ L m news ρ v H' s) E s
section
variable {prog:Program} {w:World} {cl:Str → Option Addr} {K:Frag} {fval:Str → Option Value} {h₀ : Heap} {L:Addr} {m:Str → Option Value} {news news₁ : ay} {ρ ρ₁ : b9} {s s₁ : Shared} {A:Around} {E:Value → Shared → Prop} {Hh H':H} {ns:aK} {env:Env} {g:G}
noncomputable def dR (es:List PySem.Expr):Prop:=∀ e ∈ es,∀ x p,e ≠ .Starred x p
theorem kJ {de:PySem.Expr → Ex} (hs:∀ x p,de (.Starred x p) = dK):∀ {es:List PySem.Expr} {f:Fm} {H1:H} {r},bb (es.map de) f H1 = some r → dR es
 | [],_,_,_,_ => fun _ h => nomatch h
 | e :: es,f,H1,r,h => by
  obtain ⟨z,H2,hx,hc⟩:=bnd2 h
  obtain ⟨q,hy,_⟩:=bnd1 hc
  haveI ih:=kJ hs hy
  intro e' he'
  rcases List.mem_cons.mp he' with rfl | he'
  ·intro x p q; subst q; rw [hs] at hx; cases hx
  ·exact ih e' he'
theorem fB {pos:Pos}:∀ {es:List PySem.Expr},dR es → (backTo pos (starEach es env)).any (·.1) = false
 | [],_ => rfl
 | e :: es,h => by
  rw [cT (h e (.head _))]
  show (false || (backTo pos (starEach es env)).any (·.1)) = false
  rw [fB fun x hx => h x (.tail _ hx)]; rfl
theorem lg {pos:Pos}:∀ {es:List PySem.Expr},dR es → (backTo pos (starEach es env)).all (!·.1) = true
 | [],_ => rfl
 | e :: es,h => by
  rw [cT (h e (.head _))]
  show (!false && (backTo pos (starEach es env)).all (!·.1)) = true
  rw [lg fun x hx => h x (.tail _ hx)]; rfl
theorem c7 {fv:Value} {first:List Value} {es:List PySem.Expr} {cs:List Ex} {f:Fm} {vs:List V} {pos:Pos} {Q:Value → Shared → Prop} (cw:CW K fv) (X:K.In h₀) (hn:dR es) (hlen:cs.length = es.length)
  (ha:SA prog w cl K h₀ L A ns env cs (spliced (backTo pos (starEach es env)))) (F:Fr h₀ L s.heap m) (N:News h₀ L s.heap news) (R:Rel prog w cl K news ρ Hh) (FR:FRel K news ρ ns env m f) (hc:bb cs f Hh = some (vs,H'))
  (k:∀ vs' h' tk' news' ρ',Fr h₀ L h' m → News h₀ L h' news' → Rel prog w cl K news' ρ' H' → Ext [] ρ ρ' news news' → All2 (VR K news' ρ') vs' vs → wpAny (model prog w) A (call fv (first ++ vs')) Q E { s with heap:=h',toks:=tk' }) :
  wpAny (model prog w) A (callWith pos fv first (backTo pos (starEach es env)) (backToKw pos (keywordEach [] env))) Q E s:=by
 show wpAny (model prog w) A (callWith pos fv first (backTo pos (starEach es env)) []) Q E s
 refine callWith_of (P:=fun h => K.In h) (by rw [fB hn]; rfl) (fun h X => cw _ h X) ?_
 cases es with
 | nil =>
  cases cs with
  | cons => cases hlen
  | nil =>
   cases hc
   exact evalArgs_nil3 ⟨X.keeps F.keep,k [] s.heap s.toks news ρ F N R (.refl _ _ _) .nil⟩
 | cons e es =>
  have st:=cT (env:=env) (rest:=es) (hn e (.head _))
  rw [st] at ha ⊢
  exact evalArgs_plain (ha.step F N R FR hc fun vs' h' tk' n' ρ' F' N' R' x' hv' _ => ⟨X.keeps F'.keep,k vs' h' tk' n' ρ' F' N' R' x' hv'⟩)
theorem B5 {x:Str} {np pos:Pos} {es:List PySem.Expr} {cs:List Ex} (ok:jh ns env L) (B:Base K h₀) (I:FU K cl fval) (G:GS prog w cl K fval g A h₀ L) (hg:gw ns x = true) (hx:x ≠ "__debug__") (hd:mE x = false)
  (hlen:cs.length = es.length) (hn:∀ f Hh r,bb cs f Hh = some r → dR es) (ha:SA prog w cl K h₀ L A ns env cs (spliced (backTo pos (starEach es env)))) :
  SE prog w cl K h₀ L A ns env (af g x cs) (eval (.Call (.Name x np) es [] pos) env):=by
 intro E s m news ρ f Hh v H' F N R FR hc
 obtain ⟨vs,H1,h1,h2⟩:=bnd2 hc
 obtain ⟨fv,hf,run⟩:=G _ _ _ _ _ h2
 obtain ⟨j,hk⟩:=fW hg
 obtain ⟨mg,hmg⟩:=B.g
 obtain ⟨mb,hmb,hbb⟩:=B.b
 have mgF:=hmg.keeps F.keep
 haveI mbF:=hmb.keeps F.keep
 have go:wpAny (model prog w) A (callWith pos fv [] (backTo pos (starEach es env)) (backToKw pos (keywordEach [] env))) (EP prog w cl K h₀ L m news ρ v H' s) E s:=
  c7 (I.keep _ _ hf) B.X (hn _ _ _ h1) hlen ha F N R FR h1 fun vs' h' tk' n' ρ' F' N' R' x' hv' =>
   wpAny_mono (run E { s with heap:=h',toks:=tk' } m n' ρ' vs' F' N' R' hv') (fun _ _ p => EP.aft x' p) fun _ _ e => e
 refine wpAny_Call_ofName (Name_function_global ok.kind (ok.glob _ _ hk) ?_ (by rw [beq_eq_false_iff_ne]; exact hx))
 rcases I.found _ _ hf hd with q | ⟨q1,q2,q3⟩
 ·exact loadGlobal_global (by rw [ok.globals]; exact mgF) (mg_of (B.X.keeps F.keep) mgF q) go
 ·exact loadGlobal_builtin (by rw [ok.globals]; exact mgF) (mg_none_of (B.X.keeps F.keep) mgF q1) (by rw [ok.builtins]; exact mbF) ((hbb x q3).trans q2) go
theorem jw {o:PySem.Expr} {name:Str} {apos pos:Pos} {es:List PySem.Expr} {Q:Value → Shared → Prop} (hn:eB o = true) (hl:(apos.endLine == pos.line) = true) (hz:es.length < 29) (hs:dR es)
  (h:wpAny (model prog w) A (eval o env) (fun ov s₁ => ∀ pl,wpAny (model prog w) A (getMethod ov name pl) (fun fx s₂ => wpAny (model prog w) A (callWith pos fx.1 fx.2 (backTo pos (starEach es env)) (backToKw pos (keywordEach [] env))) Q E s₂) E s₁) E s) :
  wpAny (model prog w) A (eval (.Call (.Attribute o name apos) es [] pos) env) Q E s:=by
 rw [arm_eval_Call,oq hn]
 refine wpAny_bind (wpAny_mono h (fun ov s₁ h₁ => wpAny_bind (wpAny_standAt ?_)) fun _ _ e => e)
 haveI few:methodCallForm (es.length + ([]:List Keyword).length) (backTo pos (starEach es env)) (backToKw pos (keywordEach [] env)) = true:=by
  unfold methodCallForm
  rw [lg hs]
  rw [show backToKw pos (keywordEach [] env) = [] from rfl]
  simp
  omega
 unfold methodCall calleeOf methodCallPos
 rw [few,hl]
 refine wpAny_bind (wpAny_holding (wpAny_mono (h₁ _) (fun fx s₂ h₂ => ?_) fun _ _ e => e))
 exact wpAny_bind (wpAny_pure h₂)
theorem xH {es:List DictEntry} {as:List (Str × V)} {x:Str} (h:All2 (ER w K news ρ) es as) (e:eW x as = none):getL x es = some none:=by
 haveI hf:es.find? (·.key.isStr x) = none:=by
  induction h with
  | nil => rfl
  | @cons d q l r hp _ ih =>
   obtain ⟨y,u⟩:=q
   unfold eW at e
   haveI hk:=kH hp x
   by_cases hy:y = x
   ·rw [if_pos hy] at e; cases e
   ·rw [if_neg hy] at e
    haveI hk':d.key.isStr x = false:=by rw [hk]; simp [hy]
    rw [List.find?_cons,hk']
    exact ih e
 haveI:es.any (·.refKey) = false:=by
  clear hf e
  induction h with
  | nil => rfl
  | cons hp _ ih => obtain ⟨t,ht⟩:=hp.1; rw [List.any_cons,ih]; simp [DictEntry.refKey,ht]
 unfold getL
 rw [hf]
 simp [this]
theorem wk {i:Nat} {a:Addr} {d:Option Addr} {vs:List V} {x:V} {v:Value} (F:Fr h₀ L s.heap m) (N:News h₀ L s.heap news) (R:Rel prog w cl K news ρ Hh) (hi:ρ[i]? = some (a,d)) (hl:Hh[i]? = some (.list vs)) (hz:vs.length ≤ 1000) (hv:VR K news ρ v x) :
  wpAny (model prog w) A (call (.builtin "list.append") [.ref a,v]) (EP prog w cl K h₀ L m news ρ .none (Hh.set i (.list (vs ++ [x]))) s) E s:=by
 obtain ⟨ob,us,m1,m2,m3,m4,m5⟩:=R.list hl hi
 obtain ⟨n,rfl⟩:=m2
 refine append_at (N _ m1).1 (fun h' hs ho => ?_) (by haveI:=m3.length; simp only [List.size_toArray,sizeLine_eq]; omega)
 obtain ⟨h'',tk,n',e,F',N',R',x'⟩:=nF (tk:=s.toks) F N R hi m5 m1 hs ho (vs':=us ++ [v]) ⟨n + 1,by simp⟩ (m3.append (.cons hv .nil))
 exact ⟨h'',tk,n',ρ,e,F',N',R',x',rfl⟩
theorem Cu {i:Nat} {a:Addr} {d:Option Addr} {vs:List V} {x:V} (F:Fr h₀ L s.heap m) (N:News h₀ L s.heap news) (R:Rel prog w cl K news ρ Hh) (hi:ρ[i]? = some (a,d)) (hl:Hh[i]? = some (.list vs)) (hz:vs.length ≤ 1000000) (hv:vs.getLast? = some x) :
  wpAny (model prog w) A (call (.builtin "list.pop") [.ref a]) (EP prog w cl K h₀ L m news ρ x (Hh.set i (.list vs.dropLast)) s) E s:=by
 obtain ⟨ob,us,m1,m2,m3,m4,m5⟩:=R.list hl hi
 obtain ⟨n,rfl⟩:=m2
 haveI hx:vs[vs.length - 1]? = some x:=by rw [← List.getLast?_eq_getElem?]; exact hv
 obtain ⟨v,hv',hr⟩:=m3.get hx
 haveI hy:us.toArray[us.toArray.size - 1]? = some v:=by simp only [List.size_toArray,List.getElem?_toArray]; rw [m3.length]; exact hv'
 refine call_meets PySem.F.slot_list_pop ⟨_,(N _ m1).1,rfl⟩ PySem.F.entry_list_pop (PySem.F.args_list_pop_1 _) (PySem.MeetsSeq.list_pop_last a us.toArray n v hy (by haveI:=m3.length; simp only [List.size_toArray,sizeLine_eq]; omega)) ⟨(N _ m1).1,?_⟩
 haveI hd:All2 (VR K news ρ) us.dropLast vs.dropLast:=by rw [List.dropLast_eq_take,List.dropLast_eq_take,m3.length]; exact m3.take _
 haveI he:us.toArray.eraseIdxIfInBounds (us.toArray.size - 1) = us.dropLast.toArray:=by
  apply Array.toList_inj.mp
  haveI:us.toArray.size - 1 < us.toArray.size:=by
   haveI h0:us.length ≠ 0:=by intro h0; rw [List.length_eq_zero_iff.mp h0] at hy; simp at hy
   simp; omega
  unfold Array.eraseIdxIfInBounds
  rw [dif_pos this,Array.toList_eraseIdx]
  simp [List.dropLast_eq_take,List.eraseIdx_eq_take_drop_succ]
  omega
 haveI hu:=PySem.IsL.update (N _ m1).1 (fun a => a.eraseIdxIfInBounds (us.toArray.size - 1))
 rw [he] at hu
 obtain ⟨h'',tk,n',e,F',N',R',x'⟩:=nF (tk:=s.toks) F N R hi m5 m1 (Heap.SameBut.update ..) hu (vs':=us.dropLast) ⟨_,rfl⟩ hd
 exact ⟨h'',tk,n',ρ,e,F',N',R',x',hr.ext x'⟩
inductive FI (g:G) (a:Ex) (name:Str) (cs:List Ex) (f:Fm) (Hh:H) (v:V) (H':H):Prop
 | app (id:Nat) (H1:H) (vs ws:List V) (z:V) (H2:H) (hy:a f Hh = some (.ref id,H1)) (hid:H1[id]? = some (.list vs)) (hq:bb cs f H1 = some ([z],H2)) (hw:H2[id]? = some (.list ws)) (e:name = "append") (hz:ws.length ≤ 1000) (ev:v = .none) (eh:H' = H2.set id (.list (ws ++ [z])))
 | pop (id:Nat) (H1:H) (vs ws:List V) (H2:H) (hy:a f Hh = some (.ref id,H1)) (hid:H1[id]? = some (.list vs)) (hq:bb cs f H1 = some ([],H2)) (hw:H2[id]? = some (.list ws)) (e:name = "pop") (hg:ws.getLast? = some v) (hz:ws.length ≤ 1000000) (eh:H' = H2.set id (.list ws.dropLast))
 | ins (id:Nat) (H1:H) (c:Str) (at':List (Str × V)) (k:Str) (as:List V) (H2:H) (hy:a f Hh = some (.ref id,H1)) (hid:H1[id]? = some (.inst c at')) (hat:eW name at' = none) (hk:fD c name = some k) (hq:bb cs f H1 = some (as,H2)) (hg:g k (.ref id :: as) H2 = some (v,H'))
theorem xQ {a:Ex} {name:Str} {cs:List Ex} {f:Fm} {v:V} (hc:aZ g a name cs f Hh = some (v,H')):FI g a name cs f Hh v H':=by
 obtain ⟨y,H1,hy,hc⟩:=bnd2 hc
 cases y with
 | ref id =>
  dsimp only at hc
  cases hid:H1[id]? with
  | none => rw [hid] at hc; cases hc
  | some ob =>
   rw [hid] at hc
   cases ob with
   | dict => cases hc
   | list vs =>
    obtain ⟨q,H2,hq,hc⟩:=bnd2 hc
    dsimp only at hc
    cases hw:H2[id]? with
    | none => unfold gv at hc; rw [hw] at hc; cases hc
    | some ob =>
     cases ob with
     | dict => unfold gv at hc; rw [hw] at hc; cases hc
     | inst => unfold gv at hc; rw [hw] at hc; cases hc
     | list ws =>
      cases q with
      | nil =>
       have hc:(if name = "pop" then (match ws.getLast? with | some v => if ws.length ≤ 1000000 then some (v,H2.set id (.list ws.dropLast)) else none | none => none) else none) = some (v,H'):=by unfold gv at hc; rw [hw] at hc; exact hc
       split at hc
       ·rename_i hn
        cases hg:ws.getLast? with
        | none => rw [hg] at hc; cases hc
        | some z =>
         rw [hg] at hc
         dsimp only at hc
         split at hc
         ·rename_i hz; cases hc; exact .pop _ _ _ _ _ hy hid hq hw hn hg hz rfl
         ·cases hc
       ·cases hc
      | cons z q =>
       cases q with
       | nil =>
        have hc:(if name = "append" ∧ ws.length ≤ 1000 then some (V.none,H2.set id (.list (ws ++ [z]))) else none) = some (v,H'):=by unfold gv at hc; rw [hw] at hc; exact hc
        split at hc
        ·rename_i hn; cases hc; exact .app _ _ _ _ _ _ hy hid hq hw hn.1 hn.2 rfl rfl
        ·cases hc
       | cons => unfold gv at hc; rw [hw] at hc; cases hc
   | inst c at' =>
    dsimp only at hc
    cases hat:eW name at' with
    | some _ => rw [hat] at hc; cases hc
    | none =>
     rw [hat] at hc
     dsimp only at hc
     cases hk:fD c name with
     | none => rw [hk] at hc; cases hc
     | some k =>
      rw [hk] at hc
      obtain ⟨q,H2,hq,hc⟩:=bnd2 hc
      exact .ins _ _ _ _ _ _ _ hy hid hat hk hq hc
 | _ => cases hc
theorem BC {o:PySem.Expr} {name:Str} {apos pos:Pos} {a:Ex} {es:List PySem.Expr} {cs:List Ex} (B:Base K h₀) (I:FU K cl fval) (G:GS prog w cl K fval g A h₀ L) (hno:eB o = true) (hl:(apos.endLine == pos.line) = true) (hz:es.length < 29)
  (hlen:cs.length = es.length) (hn:∀ f Hh r,bb cs f Hh = some r → dR es) (ho:SE prog w cl K h₀ L A ns env a (eval o env)) (ha:SA prog w cl K h₀ L A ns env cs (spliced (backTo pos (starEach es env)))) :
  SE prog w cl K h₀ L A ns env (aZ g a name cs) (eval (.Call (.Attribute o name apos) es [] pos) env):=by
 intro E s m news ρ f Hh v H' F N R FR hc
 have hc:=xQ hc
 refine Bn fun Q hQ => ?_
 cases hc with
 | app id H1 vs ws z H2 hy hid hq hw e hz1 ev eh =>
  subst e ev eh
  refine jw hno hl hz (hn _ _ _ hq) (ho.step F N R FR hy fun v₁ h₁ t₁ n₁ ρ₁ F1 N1 R1 x1 hv1 FR1 pl => ?_)
  obtain ⟨b,d,rfl,hb⟩:=hv1
  obtain ⟨ob,us,m1,⟨nn,rfl⟩,_⟩:=R1.list hid hb
  refine getMethod_append_N (s:={ s with heap:=h₁,toks:=t₁ }) N1 m1 ?_
  refine c7 (first:=[.ref b]) CW.builtin B.X (hn _ _ _ hq) hlen ha F1 N1 R1 FR1 hq fun vs' h' tk' n' ρ' F' N' R' x' hv' => ?_
  obtain ⟨v1,rfl,hr⟩:=hv'.l1
  exact wpAny_mono (wk (s:={ s with heap:=h',toks:=tk' }) F' N' R' (x'.idx hb) hw hz1 hr) (fun _ _ p => hQ _ _ (EP.aft (x1.trans x') p)) fun _ _ e => e
 | pop id H1 vs ws H2 hy hid hq hw e hg hz1 eh =>
  subst e eh
  refine jw hno hl hz (hn _ _ _ hq) (ho.step F N R FR hy fun v₁ h₁ t₁ n₁ ρ₁ F1 N1 R1 x1 hv1 FR1 pl => ?_)
  obtain ⟨b,d,rfl,hb⟩:=hv1
  obtain ⟨ob,us,m1,⟨nn,rfl⟩,_⟩:=R1.list hid hb
  refine kl_method (s:={ s with heap:=h₁,toks:=t₁ }) N1 m1 PySem.F.slot_list_pop PySem.F.type_list_pop ?_
  refine c7 (first:=[.ref b]) CW.builtin B.X (hn _ _ _ hq) hlen ha F1 N1 R1 FR1 hq fun vs' h' tk' n' ρ' F' N' R' x' hv' => ?_
  cases hv'
  exact wpAny_mono (Cu (s:={ s with heap:=h',toks:=tk' }) F' N' R' (x'.idx hb) hw hz1 hg) (fun _ _ p => hQ _ _ (EP.aft (x1.trans x') p)) fun _ _ e => e
 | ins id H1 c at' k as H2 hy hid hat hk hq hg =>
  refine jw hno hl hz (hn _ _ _ hq) (ho.step F N R FR hy fun v₁ h₁ t₁ n₁ ρ₁ F1 N1 R1 x1 hv1 FR1 pl => ?_)
  obtain ⟨b,d,rfl,hb⟩:=hv1
  obtain ⟨C,dx,es',n,m1,m2,m3,m4,m5,m6⟩:=R1.obj _ _ _ hb hid
  dsimp only at m1; subst m1
  obtain ⟨fa,f1,f2,f3,f4⟩:=I.meth c name k C hk m2
  refine method_inst (s:={ s with heap:=h₁,toks:=t₁ }) F1 B.X (InstAt.of_news N1 m3 m4) f2 f3 f4 (xH m5 hat) ?_
  refine c7 (first:=[.ref b]) (I.keep _ _ f1) B.X (hn _ _ _ hq) hlen ha F1 N1 R1 FR1 hq fun vs' h' tk' n' ρ' F' N' R' x' hv' => ?_
  obtain ⟨fv,hfv,run⟩:=G _ _ _ _ _ hg
  rw [f1] at hfv; cases hfv
  exact wpAny_mono (run E { s with heap:=h',toks:=tk' } m n' ρ' (.ref b :: vs') F' N' R' (.cons ⟨b,some dx,rfl,x'.idx hb⟩ hv')) (fun _ _ p => hQ _ _ (EP.aft (x1.trans x') p)) fun _ _ e => e
end
end
section
open PySem PySem.W PySem.Calls PyProof.Rows
section
variable {prog:Program} {w:World} {cl:Str → Option Addr} {K:Frag} {h₀ : Heap} {L:Addr} {m:Str → Option Value} {news news':ay} {ρ ρ':b9} {s s₁ : Shared} {A:Around} {E:Value → Shared → Prop} {Hh H':H} {ns:aK} {env:Env}
theorem VR.stay {τ : b9} (k:∀ p ∈ news,bG p.2 → p ∈ news') {v:Value} {y:V} (h:VR K news ρ v y):VR K news' (ρ ++ τ) v y:=by
 cases y with
 | none | bool | int | str => exact h
 | ref id => obtain ⟨a,d,e,h⟩:=h; exact ⟨a,d,e,by rw [List.getElem?_append_left (List.getElem?_eq_some_iff.mp h).1]; exact h⟩
 | tup l => exact TupI.ext h k
 | tup2 ls => obtain ⟨a,vs,e,h1,h2⟩:=h; exact ⟨a,vs,e,h1.ext k,h2.mono fun _ _ z => z.ext k⟩
 | tupS ls => obtain ⟨a,vs,e,h1,h2⟩:=h; exact ⟨a,vs,e,h1.ext k,h2⟩
 | range a b st => obtain ⟨r,t,u,x',e,h⟩:=h; exact ⟨r,t,u,x',e,k _ h (.inr ⟨_,rfl⟩)⟩
theorem MR.stay {τ : b9} {p:Addr × Option Addr} {o:MO} (k:∀ p ∈ news,bG p.2 → p ∈ news') (ka:∀ a ∈ eL p,∀ o,(a,o) ∈ news → (a,o) ∈ news') (h:MR prog w cl K news ρ p o):MR prog w cl K news' (ρ ++ τ) p o:=by
 cases o with
 | list vs => obtain ⟨e1,ob,vs',h1,hl,h2⟩:=h; exact ⟨e1,ob,vs',ka _ (by simp [eL]) _ h1,hl,h2.mono fun _ _ z => z.stay k⟩
 | dict es => obtain ⟨e1,ob,f,h1,hl,h2⟩:=h; exact ⟨e1,ob,f,ka _ (by simp [eL]) _ h1,hl,h2.mono fun _ _ z => ⟨z.1,z.2.stay k⟩⟩
 | inst c as => obtain ⟨C,d,es',n,e1,e2,h1,h2,h3,h4⟩:=h; exact ⟨C,d,es',n,e1,e2,ka _ (by simp [eL]) _ h1,ka _ (by simp [eL,e1]) _ h2,h3.mono fun _ _ z => ⟨z.1,z.2.1,z.2.2.stay k⟩,h4⟩
theorem Rel.stay (R:Rel prog w cl K news ρ Hh) (nd:(news'.map (·.1)).Nodup) (k:∀ p ∈ news,bG p.2 → p ∈ news') (ka:∀ a ∈ aY ρ,∀ o,(a,o) ∈ news → (a,o) ∈ news'):Rel prog w cl K news' ρ Hh:=by
 refine ⟨nd,R.fl,R.len,fun i p o hp ho => ?_⟩
 haveI:=(R.obj i p o hp ho).stay (τ:=[]) k fun a ha o h => ka a (dB hp ha) o h
 simpa using this
theorem Rel.side {I:Addr} {ob ob':Obj} (R:Rel prog w cl K news ρ Hh) (hI:I ∉ aY ρ) (hm:(I,ob) ∈ news) (nf:¬ bG ob):Rel prog w cl K (repl I ob' news) ρ Hh:=
 R.stay (by rw [fY]; exact R.nd) (fun p hp hf => bT hp fun e => nf (by obtain ⟨a,o⟩:=p; dsimp only at e; subst e; rw [ij R.nd hm hp]; exact hf)) fun a ha o h => bT h fun e => hI (by dsimp only at e; exact e ▸ ha)
theorem Ext.side {I:Addr} {ob ob':Obj} {own:List Addr} (R:Rel prog w cl K news ρ Hh) (hm:(I,ob) ∈ news) (nf:¬ bG ob) (ho:I ∈ own):Ext own ρ ρ news (Mine.repl I ob' news):=
 ⟨⟨[],by simp⟩,fun p hp hf => bT hp fun e => nf (by obtain ⟨a,o⟩:=p; dsimp only at e; subst e; rw [ij R.nd hm hp]; exact hf),fun p hp _ h => bT hp fun e => h (e ▸ ho),fun a ha => .inl ha,fun a ha => by rw [fY]; exact ha⟩
noncomputable def db (I:Addr) (news:ay):ay:=news.filter fun p => decide (p.1 ≠ I)
theorem bf {I:Addr} {p:Addr × Obj}:p ∈ db I news ↔ p ∈ news ∧ p.1 ≠ I:=by simp [db]
theorem Rel.dropI {I:Addr} {ob:Obj} (R:Rel prog w cl K news ρ Hh) (hI:I ∉ aY ρ) (hm:(I,ob) ∈ news) (nf:¬ bG ob):Rel prog w cl K (db I news) ρ Hh:=
 R.stay (List.Nodup.sublist (List.Sublist.map _ List.filter_sublist) R.nd) (fun p hp hf => bf.mpr ⟨hp,fun e => nf (by obtain ⟨a,o⟩:=p; dsimp only at e; subst e; rw [ij R.nd hm hp]; exact hf)⟩) fun a ha o h => bf.mpr ⟨h,fun e => hI (by dsimp only at e; exact e ▸ ha)⟩
theorem yn {I:Addr} {h h':Heap} (N:News h₀ L h news) (k:∀ b o,b ≠ I → h.get? b = some o → h'.get? b = some o):News h₀ L h' (db I news):=fun p hp => by
 obtain ⟨a,b⟩:=bf.mp hp
 exact ⟨k _ _ b (N p a).1,(N p a).2⟩
theorem Ext.rest {own:List Addr} {extra news'':ay} (x:Ext own ρ ρ' (extra ++ news) news') (hf:∀ p ∈ news,p.1 ∉ own) (k:∀ p ∈ news',p.1 ∉ own → p ∈ news'') (ka:∀ a ∈ news'.map (·.1),a ∉ own → a ∈ news''.map (·.1)):Ext [] ρ ρ' news news'':=
 ⟨x.pre,fun p hp hz => k p (x.frz p (List.mem_append_right _ hp) hz) (hf p hp),fun p hp h1 _ => k p (x.keep p (List.mem_append_right _ hp) h1 (hf p hp)) (hf p hp),
  fun a ha => (x.fresh a ha).imp id fun h q => h (by rw [List.map_append]; exact List.mem_append_right _ q),
  fun a ha => ka a (x.adrs a (by rw [List.map_append]; exact List.mem_append_right _ ha)) (by obtain ⟨p,hp,rfl⟩:=List.mem_map.mp ha; exact hf p hp)⟩
theorem FRel.own {own:List Addr} {f:Fm} (x:Ext own ρ ρ' news news') (h:FRel K news ρ ns env m f) (hc:∀ a ∈ own,∀ o,(a,o) ∈ news → ∀ v,o.data ≠ .cell v):FRel K news' ρ' ns env m f:=by
 intro y i k v hk hv
 haveI z:=h y i k v hk hv
 cases k with
 | «local» => obtain ⟨z1,v',a,b⟩:=z; exact ⟨z1,v',a,b.ext x⟩
 | cell | free =>
  obtain ⟨z1,c,o,v',a,b,d,e,g⟩:=z
  exact ⟨z1,c,o,v',a,x.keep _ b g (fun q => hc c q o b _ d),d,e.ext x,fun q => by
   rcases x.fresh _ q with r | r
   ·exact g r
   ·exact r (List.mem_map_of_mem (f:=(·.1)) b)⟩
 | _ => trivial
theorem Rel.adopt {D:Addr} {ob:Obj} {vs':List Value} {vs:List V} (R:Rel prog w cl K news ρ Hh) (hm:(D,ob) ∈ news) (hD:D ∉ aY ρ) (hl:kZ ob vs') (hv:All2 (VR K news ρ) vs' vs):Rel prog w cl K news (ρ ++ [(D,none)]) (Hh ++ [.list vs]):=by
 refine ⟨R.nd,?_,by simp [R.len],fun i p o hp ho => ?_⟩
 ·rw [ez,List.nodup_append]
  refine ⟨R.fl,by simp [aY,eL],fun a ha b hb e => ?_⟩
  simp [aY,eL] at hb
  subst hb; subst e; exact hD ha
 ·by_cases hi:i < ρ.length
  ·rw [List.getElem?_append_left hi] at hp
   rw [List.getElem?_append_left (by rw [← R.len]; exact hi)] at ho
   exact (R.obj i p o hp ho).stay (fun _ h _ => h) fun _ _ _ h => h
  ·have hi':ρ.length ≤ i:=Nat.le_of_not_lt hi
   rw [List.getElem?_append_right hi'] at hp
   rw [List.getElem?_append_right (by rw [← R.len]; exact hi'),← R.len] at ho
   cases hj:i - ρ.length with
   | zero =>
    rw [hj] at hp ho
    simp at hp ho
    subst hp; subst ho
    exact ⟨rfl,ob,vs',hm,hl,hv.mono fun _ _ z => z.stay fun _ h _ => h⟩
   | succ j => rw [hj] at hp; simp at hp
theorem Ext.adopt {own:List Addr} {ρ₀ : b9} {n₀ : ay} {D:Addr} (x:Ext own ρ₀ ρ n₀ news) (hD:D ∉ n₀.map (·.1)):Ext own ρ₀ (ρ ++ [(D,none)]) n₀ news:=
 ⟨by obtain ⟨τ,rfl⟩:=x.pre; exact ⟨τ ++ [(D,none)],by simp⟩,x.frz,x.keep,fun a ha => by
  rw [ez] at ha
  rcases List.mem_append.mp ha with h | h
  ·exact x.fresh a h
  ·simp [aY,eL] at h; subst h; exact .inr hD,x.adrs⟩
noncomputable def ItAt (news:ay) (ρ : b9) (I:Addr) (k:Nat):V → Prop
 | .ref id => ∃ l ob,ρ[id]? = some (l,none) ∧ (I,ob) ∈ news ∧ ob.cls = .type "list_iterator" ∧ ob.data = .fields #[.ref l,.int k 0]
 | .range a b st => (I,{ cls:=.type "range_iterator",data:=.fields #[rawInt (a + k * st),rawInt (Builtin.Range.rangeSize a b st - k),rawInt st] }) ∈ news
 | _ => False
theorem ItAt.entry {I:Addr} {k:Nat} {src:V} (h:ItAt news ρ I k src):∃ ob,(I,ob) ∈ news ∧ ¬ bG ob ∧ ∀ v,ob.data ≠ .cell v:=by
 cases src with
 | ref id => obtain ⟨l,ob,_,h1,h2,h3⟩:=h; exact ⟨ob,h1,bZ (by rw [h2]; simp) (by rw [h2]; simp),fun v e => by rw [h3] at e; cases e⟩
 | range a b st => exact ⟨_,h,bZ (by simp) (by simp),fun v e => by cases e⟩
 | _ => exact h.elim
theorem ItAt.keep {own:List Addr} {I:Addr} {k:Nat} {src:V} (x:Ext own ρ ρ' news news') (hI:I ∉ aY ρ) (ho:I ∉ own) (h:ItAt news ρ I k src):ItAt news' ρ' I k src:=by
 cases src with
 | ref id => obtain ⟨l,ob,h0,h1,h2,h3⟩:=h; exact ⟨l,ob,x.idx h0,x.keep _ h1 hI ho,h2,h3⟩
 | range a b st => exact x.keep _ h hI ho
 | _ => exact h.elim
theorem rf {i:Int} (h:i.natAbs ≤ 3000000):Builtin.Range.rangeFitsLong i = true:=by
 unfold Builtin.Range.rangeFitsLong
 rw [decide_eq_true (show -(2 ^ 63) ≤ i by omega),decide_eq_true (show i < 2 ^ 63 by omega)]; rfl
theorem EB {a b:Int} {n m k:Nat} (ha:a.natAbs ≤ n) (hb:b.natAbs ≤ m) (h:n + m ≤ k):(a + b).natAbs ≤ k:=
 Nat.le_trans (Int.natAbs_add_le a b) (Nat.le_trans (Nat.add_le_add ha hb) h)
theorem Ct {a b:Int} {n m k:Nat} (ha:a.natAbs ≤ n) (hb:b.natAbs ≤ m) (h:n + m ≤ k):(a - b).natAbs ≤ k:=
 Nat.le_trans (Int.natAbs_sub_le a b) (Nat.le_trans (Nat.add_le_add ha hb) h)
theorem HO {x d:Int} {p:Prop} [Decidable p] (hx:x.natAbs ≤ 2000001):(if p then x / d + 1 else 0:Int).natAbs ≤ 3000000:=by
 by_cases hp:p
 ·rw [if_pos hp]; exact EB (m:=1) (Nat.le_trans (Int.natAbs_ediv_le_natAbs x d) hx) (by decide) (by decide)
 ·rw [if_neg hp]; decide
theorem sJ {a b st:Int} (ha:a.natAbs ≤ 1000000) (hb:b.natAbs ≤ 1000000) (hs:st = 1 ∨ st = -1 ∨ st = 2):Builtin.Range.small a b st = true:=by
 have hz:(Builtin.Range.rangeSize a b st).natAbs ≤ 3000000:=by
  unfold Builtin.Range.rangeSize
  split
  ·exact HO (Ct (m:=1) (Ct hb ha (Nat.le_refl _)) (by decide) (by decide))
  ·exact HO (Ct (m:=1) (Ct ha hb (Nat.le_refl _)) (by decide) (by decide))
 have h1:st.natAbs ≤ 2 ∧ (st - 1).natAbs ≤ 2 ∧ (st + 1).natAbs ≤ 3:=by rcases hs with rfl | rfl | rfl <;> decide
 have w:∀ {i n},Int.natAbs i ≤ n → n ≤ 3000000 → Builtin.Range.rangeFitsLong i = true:=fun h k => rf (Nat.le_trans h k)
 unfold Builtin.Range.small
 rw [w ha (by decide),w hb (by decide),w h1.1 (by decide),rf hz]
 by_cases hc:st > 0
 ·rw [if_pos hc,rf (EB hb h1.2.1 (by decide)),Bool.or_true]; rfl
 ·rw [if_neg hc,rf (EB hb h1.2.2 (by decide)),Bool.or_true]; rfl
theorem iM {src:V} {v:Value} {items:List V} {Q:Value → Shared → Prop} (F:Fr h₀ L s.heap m) (N:News h₀ L s.heap news) (R:Rel prog w cl K news ρ Hh) (hv:VR K news ρ v src) (e:az src Hh = some items)
  (k:∀ I ob h',Fr h₀ L h' m → News h₀ L h' ((I,ob) :: news) → (∀ p ∈ news,p.1 ≠ I) → ItAt ((I,ob) :: news) ρ I 0 src → Q (.ref I) { s with heap:=h' }):wpAny (model prog w) A (pyIter v) Q E s:=by
 unfold az at e
 split at e
 ·split at e
  ·rename_i hc
   obtain ⟨r,t,u,x,rfl,hm⟩:=hv
   refine wpAny_pyIter_range (N _ hm).1 (sJ hc.1 hc.2.1 hc.2.2) ?_
   refine k s.heap.objs.size _ _ (F.push _) (N.push F _) (fun p hp => dC N hp) ?_
   simp [ItAt]
  ·cases e
 ·split at e
  ·rename_i i _ hl
   obtain ⟨a,d,rfl,ha⟩:=hv
   obtain ⟨ob,us,m1,m2,m3,m4,m5⟩:=R.list hl ha
   subst m5
   refine wpAny_pyIter_list (bv N m1 m2) ?_
   exact k s.heap.objs.size _ _ (F.push _) (N.push F _) (fun p hp => dC N hp) ⟨a,_,ha,.head _,rfl,rfl⟩
  ·cases e
 ·cases e
theorem jZ {src x:V} {I:Addr} {i:Nat} {items:List V} {Q:Option Value → Shared → Prop} (F:Fr h₀ L s.heap m) (N:News h₀ L s.heap news) (R:Rel prog w cl K news ρ Hh) (it:ItAt news ρ I i src) (hI:I ∉ aY ρ) (e:az src Hh = some items) (hx:items[i]? = some x)
  (k:∀ v h' tk ob',Fr h₀ L h' m → News h₀ L h' (repl I ob' news) → Rel prog w cl K (repl I ob' news) ρ Hh → Ext [I] ρ ρ news (repl I ob' news) → ItAt (repl I ob' news) ρ I (i + 1) src → VR K (repl I ob' news) ρ v x → Q (some v) { s with heap:=h',toks:=tk }) :
  wpAny (model prog w) A (pyNext (.ref I)) Q E s:=by
 unfold az at e
 split at e
 ·rename_i a b st
  split at e
  ·rename_i hc
   cases e
   have it:(I,_) ∈ news:=it
   have hi:i < fZ a b st:=by
    haveI:=(List.getElem?_eq_some_iff.mp hx).1
    simpa [gQ] using this
   haveI hxv:x = .int (a + i * st):=by
    simp [gQ,List.getElem?_map,List.getElem?_range hi] at hx
    exact hx.symm
   subst hxv
   refine wpAny_pyNext_range_item (N _ it).1 (by unfold fZ at hi; omega) fun h' hit hs => ?_
   have nf:¬ bG ({ cls:=.type "range_iterator",data:=.fields #[rawInt (a + i * st),rawInt (Builtin.Range.rangeSize a b st - i),rawInt st] }:Obj):=bZ (by simp) (by simp)
   obtain ⟨F',N'⟩:=d6 F N it hs hit
   refine k _ h' _ _ F' N' (R.side hI it nf) (Ext.side R it nf (by simp)) ?_ ⟨_,rfl⟩
   haveI:=dv (o':={ cls:=.type "range_iterator",data:=.fields #[rawInt (a + i * st + st),rawInt (Builtin.Range.rangeSize a b st - i - 1),rawInt st] }) it
   show _ ∈ _
   haveI e1:a + ((i + 1:Nat):Int) * st = a + i * st + st:=by show a + ((i:Int) + 1) * st = _; rw [Int.add_mul,Int.one_mul]; omega
   haveI e2:Builtin.Range.rangeSize a b st - ((i + 1:Nat):Int) = Builtin.Range.rangeSize a b st - i - 1:=by omega
   rw [e1,e2]; exact this
  ·cases e
 ·split at e
  ·rename_i id vs hl
   cases e
   obtain ⟨l,ob,h0,h1,h2,h3⟩:=it
   obtain ⟨ob2,us,m1,m2,m3,m4,_⟩:=R.list hl h0
   obtain ⟨v,hv,hr⟩:=m3.get hx
   have nf:¬ bG ob:=bZ (by rw [h2]; simp) (by rw [h2]; simp)
   refine wpAny_pyNext_list_item (l:=l) (i:=i) ⟨ob,(N _ h1).1,h2,h3⟩ (bv N m1 m2) (by simpa using hv) fun h' hit hs => ?_
   obtain ⟨ob',ho',hc',hd'⟩:=hit
   obtain ⟨F',N'⟩:=d6 F N h1 hs ho'
   have x:=Ext.side (own:=[I]) (ob':=ob') R h1 nf (by simp)
   exact k v h' s.toks ob' F' N' (R.side hI h1 nf) x ⟨l,ob',h0,dv h1,hc',hd'⟩ (hr.ext x)
  ·cases e
 ·cases e
theorem sw {src:V} {I:Addr} {i:Nat} {items:List V} {Q:Option Value → Shared → Prop} (hh:A.handled = none) (F:Fr h₀ L s.heap m) (N:News h₀ L s.heap news) (R:Rel prog w cl K news ρ Hh) (it:ItAt news ρ I i src) (hI:I ∉ aY ρ) (e:az src Hh = some items) (hx:items[i]? = none)
  (k:∀ h',Fr h₀ L h' m → News h₀ L h' (db I news) → Rel prog w cl K (db I news) ρ Hh → Q none { s with heap:=h' }) :
  wpAny (model prog w) A (pyNext (.ref I)) Q E s:=by
 obtain ⟨ob,hm,nf,_⟩:=it.entry
 have fin:∀ h',Heap.ExtBut I s.heap h' → Q none { s with heap:=h' }:=fun h' hs => by
  refine k h' ⟨?_,?_,F.above⟩ (yn N fun b o hb e => hs b o hb e) (R.dropI hI hm nf)
  ·obtain ⟨oL,es,ep,hL,hr⟩:=F.ns
   exact ⟨oL,es,ep,hs _ _ (Ne.symm (N _ hm).2.1) hL,hr⟩
  ·intro b o e'
   refine hs b o (fun q => ?_) (F.keep b o e')
   rw [q,(N _ hm).2.2] at e'; cases e'
 unfold az at e
 split at e
 ·rename_i a b st
  split at e
  ·rename_i hc
   cases e
   have it:(I,_) ∈ news:=it
   haveI hi:fZ a b st ≤ i:=by
    haveI:=List.getElem?_eq_none_iff.mp hx
    simpa [gQ] using this
   exact wpAny_pyNext_range_end hh (N _ it).1 (by unfold fZ at hi; omega) fin
  ·cases e
 ·split at e
  ·rename_i id vs hl
   cases e
   obtain ⟨l,ob,h0,h1,h2,h3⟩:=it
   obtain ⟨ob2,us,m1,m2,m3,m4,_⟩:=R.list hl h0
   refine wpAny_pyNext_list_end hh (l:=l) (i:=i) ⟨ob,(N _ h1).1,h2,h3⟩ (bv N m1 m2) ?_ fin
   simp only [List.getElem?_toArray]
   rw [List.getElem?_eq_none_iff] at hx ⊢
   rw [m3.length]; exact hx
  ·cases e
 ·cases e
end
end
section
open PySem PySem.W PySem.Calls PyProof.Rows
theorem An {ns:aK} {x:Str}:∀ (k:Nat) {i:Nat} {y:Str} {q:NameKind},((ns.zipIdx k).find? fun p => p.1.1 == x) = some ((y,q),i) → y = x ∧ ns.lookup x = some q ∧ k ≤ i ∧ ns[i - k]? = some (x,q):=by
 induction ns with
 | nil => intro k i y q h; simp at h
 | cons p r ih =>
  intro k i y q h
  obtain ⟨z,c⟩:=p
  rw [List.zipIdx_cons,List.find?_cons] at h
  by_cases hz:z = x
  ·subst hz
   simp at h
   obtain ⟨⟨rfl,rfl⟩,rfl⟩:=h
   simp [List.lookup_cons]
  ·haveI hb:(z == x) = false:=by simpa using hz
   rw [hb] at h
   obtain ⟨h1,h2,h3,h4⟩:=ih (k + 1) h
   haveI hb':(x == z) = false:=by simpa using fun e => hz e.symm
   refine ⟨h1,by rw [List.lookup_cons,hb']; exact h2,by omega,?_⟩
   haveI:i - k = (i - (k + 1)) + 1:=by omega
   rw [this]; simpa using h4
theorem aE {ns:aK} {x:Str} {i:Nat} {k:NameKind} (h:aJ ns x = some (i,k)):ns.lookup x = some k ∧ ns[i]? = some (x,k):=by
 unfold aJ at h
 obtain ⟨⟨⟨y,q⟩,j⟩,hf,e⟩:=Option.map_eq_some_iff.mp h
 cases e
 obtain ⟨_,h2,_,h4⟩:=An 0 hf
 exact ⟨h2,by simpa using h4⟩
theorem yk {ns:aK} {x:Str} (h:Ek ns x = true):∃ i k,aJ ns x = some (i,k) ∧ (k = .cell ∨ k = .free):=by
 unfold Ek at h
 cases hk:aJ ns x with
 | none => rw [hk] at h; cases h
 | some p =>
  obtain ⟨j,k⟩:=p
  rw [hk] at h
  cases k <;> first | exact ⟨j,_,rfl,.inl rfl⟩ | exact ⟨j,_,rfl,.inr rfl⟩ | cases h
theorem n9 {ns:aK} {x:Str} (h:qe ns x = true):∃ i,aJ ns x = some (i,.local):=by
 unfold qe at h
 cases hk:aJ ns x with
 | none => rw [hk] at h; cases h
 | some p =>
  obtain ⟨j,k⟩:=p
  rw [hk] at h
  cases k <;> first | exact ⟨j,rfl⟩ | cases h
noncomputable def dZ (env:Env):aK → List (Str × Addr) → List (Str × Addr)
 | [],acc => acc
 | (y,k) :: r,acc => if k == .free then dZ env r ((y,(env.cells.lookup y).getD 0) :: acc) else dZ env r acc
theorem iF {env:Env}:∀ (ns:aK) (acc:List (Str × Addr)),(∀ y,(y,NameKind.free) ∈ ns → ∃ c,env.cells.lookup y = some c) →
  (forIn ns acc (fun x r => match x with | (name,kind) => if (kind == NameKind.free) = true then cellOf env name >>= fun c => pure (ForInStep.yield ((name,c) :: r)) else pure (ForInStep.yield r)):Sem (List (Str × Addr))) = pure (dZ env ns acc)
 | [],_,_ => rfl
 | (y,k) :: r,acc,h => by
  rw [List.forIn_cons]
  unfold dZ
  by_cases hk:(k == .free) = true
  ·haveI hk':k = .free:=by simpa using hk
   obtain ⟨c,hc⟩:=h y (by rw [← hk']; exact .head _)
   simp only [hk,if_true]
   haveI:cellOf env y = pure c:=by unfold cellOf; rw [hc]
   rw [this,hc]
   exact iF r _ fun z hz => h z (.tail _ hz)
  ·simp only [hk,if_false]
   exact iF r _ fun z hz => h z (.tail _ hz)
theorem wJ {env:Env} {sc:Scope} (h:∀ y,(y,NameKind.free) ∈ sc.names → ∃ c,env.cells.lookup y = some c):closureFor sc env = pure (dZ env sc.names []):=by
 unfold closureFor
 haveI:=iF sc.names [] h
 show (forIn sc.names _ _ >>= _:Sem (List (Str × Addr))) = _
 refine Eq.trans (congrArg (· >>= _) ?_) (rfl:(pure (dZ env sc.names []) >>= fun c => (pure c:Sem (List (Str × Addr)))) = _)
 rw [← this]
theorem dO {env:Env} {y:Str}:∀ (ns:aK) (acc:List (Str × Addr)),(∀ y,(y,NameKind.free) ∈ ns → ∃ c,env.cells.lookup y = some c) → ((y,NameKind.free) ∈ ns ∨ acc.lookup y = env.cells.lookup y) → (dZ env ns acc).lookup y = env.cells.lookup y
 | [],_,_,h => h.elim (fun h => nomatch h) id
 | (z,k) :: r,acc,hc,h => by
  unfold dZ
  by_cases hk:(k == .free) = true
  ·haveI hk':k = .free:=by simpa using hk
   rw [if_pos hk]
   refine dO r _ (fun z hz => hc z (.tail _ hz)) ?_
   by_cases hz:y = z
   ·subst hz
    obtain ⟨c,he⟩:=hc y (by rw [← hk']; exact .head _)
    exact .inr (by simp [List.lookup_cons,he])
   ·rcases h with h | h
    ·rcases List.mem_cons.mp h with e | h
     ·exact absurd (Prod.mk.inj e).1 hz
     ·exact .inl h
    ·haveI hb:(y == z) = false:=by simpa using hz
     exact .inr (by rw [List.lookup_cons,hb]; exact h)
  ·rw [if_neg hk]
   refine dO r _ (fun z hz => hc z (.tail _ hz)) ?_
   rcases h with h | h
   ·rcases List.mem_cons.mp h with e | h
    ·exact absurd (by rw [← (Prod.mk.inj e).2]; rfl) hk
    ·exact .inl h
   ·exact .inr h
theorem gx {env:Env} {x:Str}:∀ {names:aK} {k:NameKind},names.lookup x = some k →
  (names.map fun (n,k) => if (k == NameKind.free && env.scope.kind == .function && env.kindOf n == some .cell) then (n,NameKind.cell) else (n,k)).lookup x = some (if (k == NameKind.free && env.scope.kind == .function && env.kindOf x == some .cell) then .cell else k)
 | [],_,h => by simp at h
 | (n,k') :: r,k,h => by
  haveI ih:=@gx env x r k
  show List.lookup x ((if (k' == NameKind.free && env.scope.kind == .function && env.kindOf n == some .cell) = true then (n,NameKind.cell) else (n,k')) :: _) = _
  cases hx:x == n with
  | true =>
   simp only [List.lookup_cons,hx] at h
   cases h
   haveI hx':x = n:=by simpa using hx
   subst hx'
   split <;> simp [List.lookup_cons, *]
  | false =>
   simp only [List.lookup_cons,hx] at h
   by_cases hc:(k' == NameKind.free && env.scope.kind == .function && env.kindOf n == some .cell) = true
   ·rw [if_pos hc]; simp only [List.lookup_cons,hx]; exact ih h
   ·rw [if_neg hc]; simp only [List.lookup_cons,hx]; exact ih h
section
variable {prog:Program} {w:World} {cl:Str → Option Addr} {K:Frag} {h₀ : Heap} {L:Addr} {m:Str → Option Value} {news news':ay} {ρ ρ':b9} {s s₁ : Shared} {A:Around} {E:Value → Shared → Prop} {Hh H':H} {ns:aK} {env:Env}
theorem tq {ns:aK} {x:Str} (h:we ns x = true):∃ i,aJ ns x = some (i,.cell):=by
 unfold we at h
 cases hk:aJ ns x with
 | none => rw [hk] at h; cases h
 | some p =>
  obtain ⟨j,k⟩:=p
  rw [hk] at h
  cases k <;> first | exact ⟨j,rfl⟩ | cases h
theorem iR:∀ {names:aK} {n:Nat} {acc:List (Str × Addr)} {h:Heap},(names.filter fun p => p.2 == .cell) = [] → cellsFrom n names acc = acc ∧ pushCells h names = h
 | [],_,_,_,_ => ⟨rfl,rfl⟩
 | (y,k) :: r,n,acc,h,e => by
  rw [List.filter_cons] at e
  by_cases hk:(k == NameKind.cell) = true
  ·rw [if_pos hk] at e; cases e
  ·rw [if_neg hk] at e
   unfold cellsFrom pushCells
   rw [if_neg hk,if_neg hk]
   exact iR e
theorem gM:∀ {names:aK} {x:Str} {n:Nat} {acc:List (Str × Addr)} {h:Heap},(names.filter fun p => p.2 == .cell) = [(x,NameKind.cell)] → cellsFrom n names acc = (x,n) :: acc ∧ pushCells h names = h.push { cls:=.type "cell",data:=.cell none }
 | [],_,_,_,_,e => by cases e
 | (y,k) :: r,x,n,acc,h,e => by
  rw [List.filter_cons] at e
  unfold cellsFrom pushCells
  by_cases hk:(k == NameKind.cell) = true
  ·rw [if_pos hk] at e
   obtain ⟨e1,e2⟩:=List.cons.inj e
   cases e1
   rw [if_pos hk,if_pos hk]
   exact iR e2
  ·rw [if_neg hk] at e
   rw [if_neg hk,if_neg hk]
   exact gM e
noncomputable abbrev cC (sc:Scope) (C:Addr) (env:Env):Env:=compEnvC sc (cellsFrom (C + 1) sc.names (dZ env sc.names [])) C env
structure CompOk (ns:aK) (sc:Scope) (x:Str):Prop where
 kind:sc.kind = .function
 var:(∃ i,aJ sc.names x = some (i,.local) ∧ (sc.names.filter fun p => p.2 == .cell) = []) ∨ (∃ i,aJ sc.names x = some (i,.cell) ∧ (sc.names.filter fun p => p.2 == .cell) = [(x,.cell)])
 free:∀ p ∈ sc.names,p.2 = .free → p.1 ≠ x ∧ ∃ i k,aJ ns p.1 = some (i,k) ∧ (k = .cell ∨ k = .free)
 locs:∀ p ∈ sc.names,p.2 = .local → sc.names.lookup p.1 = some .local
theorem pN {sc:Scope} {x:Str} (h:v8 ns sc x = true):CompOk ns sc x:=by
 unfold v8 at h
 simp only [Bool.and_eq_true,decide_eq_true_eq,List.all_eq_true,Bool.or_eq_true,beq_iff_eq,bne_iff_ne] at h
 obtain ⟨⟨h1,h2⟩,h4⟩:=h
 refine ⟨h1,h2.imp (fun q => ?_) (fun q => ?_),fun p hp e => ?_,fun p hp e => (h4 p hp).2.resolve_left fun q => q e⟩
 ·obtain ⟨i,hi⟩:=n9 q.1; exact ⟨i,hi,q.2⟩
 ·obtain ⟨i,hi⟩:=tq q.1; exact ⟨i,hi,q.2⟩
 ·haveI:=(h4 p hp).1.resolve_left fun q => q e
  exact ⟨this.2,yk this.1⟩
theorem CompOk.cells {sc:Scope} {x:Str} (c:CompOk ns sc x) (ok:jh ns env L):∀ y,(y,NameKind.free) ∈ sc.names → (env.kindOf y = some .cell ∨ env.kindOf y = some .free) ∧ ∃ a,env.cells.lookup y = some a:=fun y hy => by
 obtain ⟨_,i,k,h1,h2⟩:=c.free _ hy rfl
 exact ok.cells y i k h1 h2
theorem CompOk.cellx {sc:Scope} {x:Str} (c:CompOk ns sc x):∀ p ∈ sc.names,p.2 = .cell → p.1 = x ∧ ∃ i,aJ sc.names x = some (i,.cell):=fun p hp e => by
 have hm:p ∈ sc.names.filter fun p => p.2 == .cell:=List.mem_filter.mpr ⟨hp,by simp [e]⟩
 rcases c.var with ⟨i,_,q⟩ | ⟨i,h1,q⟩
 ·rw [q] at hm; cases hm
 ·rw [q] at hm
  have:p = (x,NameKind.cell):=by simpa using hm
  exact ⟨by rw [this],i,h1⟩
theorem pU {sc:Scope} {x y:Str} {C:Addr} (c:CompOk ns sc x) (hy:y ≠ x):(cC sc C env).cells.lookup y = (dZ env sc.names []).lookup y:=by
 show (cellsFrom (C + 1) sc.names (dZ env sc.names [])).lookup y = _
 rcases c.var with ⟨_,_,q⟩ | ⟨_,_,q⟩
 ·rw [(iR (h:=default) q).1]
 ·rw [(gM (h:=default) q).1,List.lookup_cons]
  haveI:(y == x) = false:=by simpa using hy
  rw [this]
theorem iu {sc:Scope} {x:Str} {C:Addr} {i:Nat} (c:CompOk ns sc x) (hx:aJ sc.names x = some (i,.cell)):(cC sc C env).cells.lookup x = some (C + 1):=by
 show (cellsFrom (C + 1) sc.names (dZ env sc.names [])).lookup x = _
 rcases c.var with ⟨_,h,_⟩ | ⟨_,_,q⟩
 ·rw [hx] at h; cases h
 ·rw [(gM (h:=default) q).1,List.lookup_cons]
  simp
theorem cQ {sc:Scope} {C:Addr} {x:Str} {k:NameKind} (hf:env.scope.kind = .function) (h:sc.names.lookup x = some k):(cC sc C env).kindOf x = some (if (k == NameKind.free && env.kindOf x == some .cell) then .cell else k):=by
 haveI:=gx (env:=env) h
 rw [hf] at this
 refine Eq.trans ?_ (this.trans (by simp))
 show List.lookup x (List.map _ sc.names) = _
 rw [hf]
theorem lX {sc:Scope} {x:Str} {C:Addr} (c:CompOk ns sc x) (ok:jh ns env L):jh sc.names (cC sc C env) C:=by
 have hf:=ok.kind
 refine ⟨c.kind,rfl,ok.globals,ok.builtins,fun y i h => ?_,fun y i k h hk => ?_,fun y i h => ?_,fun y i h => ?_⟩
 ·rw [cQ hf (aE h).1]; rfl
 ·have hm:=List.mem_of_getElem? (aE h).2
  rcases hk with rfl | rfl
  ·obtain ⟨e,i',hx⟩:=c.cellx _ hm rfl
   have e:y = x:=e
   subst e
   exact ⟨.inl (by rw [cQ hf (aE h).1]; rfl),C + 1,iu c hx⟩
  ·obtain ⟨a,b⟩:=c.cells ok _ hm
   refine ⟨?_,?_⟩
   ·rw [cQ hf (aE h).1]
    by_cases hc:(env.kindOf y == some .cell) = true <;> simp [hc]
   ·rw [pU c (c.free _ hm rfl).1,dO sc.names [] (fun y hy => (c.cells ok y hy).2) (.inl hm)]
    exact b
 ·rw [cQ hf (aE h).1]; rfl
 ·rw [cQ hf (aE h).1]; rfl
noncomputable def kF (sc:Scope) (ns:aK) (i:Nat) (f:Fm) (v:V):Fm:=fun j => if j = i then some v else (fz ns sc.names j).bind f
theorem qo {sc:Scope} {x:Str} {C:Addr} {i:Nat} {m':Str → Option Value} {f:Fm} {v:V} {v':Value} (c:CompOk ns sc x) (ok:jh ns env L) (FR:FRel K news ρ ns env m f)
  (hx:(aJ sc.names x = some (i,.local) ∧ m' x = some v') ∨ (aJ sc.names x = some (i,.cell) ∧ ∃ o,(C + 1,o) ∈ news ∧ o.data = .cell (some v') ∧ C + 1 ∉ aY ρ)) (hv:VR K news ρ v' v) :
  FRel K news ρ sc.names (cC sc C env) m' (kF sc ns i f v):=by
 haveI hf:=ok.kind
 haveI hxi:∃ kx,aJ sc.names x = some (i,kx):=by rcases hx with ⟨h,_⟩ | ⟨h,_⟩ <;> exact ⟨_,h⟩
 obtain ⟨kx,hkx⟩:=hxi
 intro y j k u hy hu
 have fy:=aE hy
 unfold kF at hu
 haveI atX:j = i → y = x ∧ k = kx:=fun e => by
  subst e
  exact Prod.mk.inj (Option.some.inj (fy.2.symm.trans (aE hkx).2))
 cases k with
 | «local» =>
  haveI hkind:(cC sc C env).kindOf y = some .local:=by rw [cQ hf fy.1]; rfl
  by_cases hj:j = i
  ·rw [if_pos hj] at hu; cases hu
   obtain ⟨e1,e2⟩:=atX hj
   subst e1; subst e2
   rcases hx with ⟨_,hm⟩ | ⟨h,_⟩
   ·exact ⟨hkind,v',hm,hv⟩
   ·rw [hkx] at h; cases h
  ·rw [if_neg hj] at hu
   unfold fz at hu
   rw [fy.2] at hu
   cases hu
 | cell =>
  haveI hkind:(cC sc C env).kindOf y = some .cell:=by rw [cQ hf fy.1]; rfl
  by_cases hj:j = i
  ·rw [if_pos hj] at hu; cases hu
   obtain ⟨e1,e2⟩:=atX hj
   subst e1; subst e2
   rcases hx with ⟨h,_⟩ | ⟨h,o,h1,h2,h3⟩
   ·rw [hkx] at h; cases h
   ·exact ⟨.inl hkind,C + 1,o,v',iu c h,h1,h2,hv,h3⟩
  ·rw [if_neg hj] at hu
   unfold fz at hu
   rw [fy.2] at hu
   cases hu
 | free =>
  haveI hmem:=List.mem_of_getElem? fy.2
  obtain ⟨hyx,i2,k2,h1,h2⟩:=c.free _ hmem rfl
  haveI hj:j ≠ i:=fun e => hyx (atX e).1
  rw [if_neg hj] at hu
  unfold fz at hu
  rw [fy.2] at hu
  obtain ⟨q,hq,hu⟩:=bnd1 hu
  obtain ⟨k3,h3,h4⟩:=cA hq
  rw [h1] at h3; cases h3
  haveI z:=FR y _ _ _ h1 hu
  haveI z:AI K news ρ env y u:=by
   rcases h2 with rfl | rfl <;> exact z
  obtain ⟨_,cc,o,v2,z1,z2,z3,z4,z5⟩:=z
  refine ⟨?_,cc,o,v2,?_,z2,z3,z4,z5⟩
  ·rw [cQ hf fy.1]
   by_cases hc:(env.kindOf y == some .cell) = true <;> simp [hc]
  ·rw [pU c hyx,dO sc.names [] (fun y hy => (c.cells ok y hy).2) (.inl hmem)]
   exact z1
 | _ => trivial
theorem DA (F:Fr h₀ L s.heap m) (N:News h₀ L s.heap news):h₀.StaysIn (hideAll s.heap (news.map (·.1))) ∧
  ∀ {h':Heap} {L':Addr} {m':Str → Option Value} {news':ay},Fr (hideAll s.heap (news.map (·.1))) L' h' m' → News (hideAll s.heap (news.map (·.1))) L' h' news' → Fr h₀ L h' m ∧ News h₀ L h' news':=by
 haveI nm:∀ b o,h₀.get? b = some o → b ∉ news.map (·.1):=fun b o e q => by
  obtain ⟨p,hp,rfl⟩:=List.mem_map.mp q
  rw [(N p hp).2.2] at e; cases e
 have st:h₀.StaysIn (hideAll s.heap (news.map (·.1))):=fun b o e => hideAll_get _ (F.keep b o e) (nm b o e)
 obtain ⟨oL,es,ep,hL,hLd,hLk,hLf⟩:=F.ns
 haveI nL:L ∉ news.map (·.1):=fun q => by
  obtain ⟨p,hp,e⟩:=List.mem_map.mp q
  exact (N p hp).2.1 e
 have hLg:=hideAll_get (news.map (·.1)) hL nL
 refine ⟨st,fun {h' L' m' news'} F' N' => ⟨⟨⟨oL,es,ep,F'.keep L oL hLg,hLd,hLk,hLf⟩,fun b o e => F'.keep b o (st b o e),F.above⟩,fun p hp => ⟨(N' p hp).1,fun q => ?_,?_⟩⟩⟩
 ·have:=(N' p hp).2.2; rw [q,hLg] at this; cases this
 ·cases q:h₀.get? p.1 with
  | none => rfl
  | some o => have:=(N' p hp).2.2; rw [st _ _ q] at this; cases this
theorem Base.keeps {g:Heap} (B:Base K h₀) (st:h₀.StaysIn g):Base K g:=
 ⟨B.X.keeps st,let ⟨mg,h⟩:=B.g; ⟨mg,h.keeps st⟩,let ⟨mb,h,q⟩:=B.b; ⟨mb,h.keeps st,q⟩,B.nolimit.keeps st⟩
end
end
section
open PySem PySem.W PySem.Calls PyProof.Rows
section
variable {prog:Program} {w:World} {cl:Str → Option Addr} {K:Frag} {h₀ g:Heap} {L C:Addr} {m:Str → Option Value} {news news':ay} {ρ ρ':b9} {s s₁ : Shared} {A:Around} {E:Value → Shared → Prop} {Hh H':H} {ns:aK} {env:Env}
theorem kS {cenv:Env}:∀ (ifs:List PySem.Expr) {Q:Bool → Shared → Prop},Q false s →
  wpAny (model prog w) A (forIn ifs false fun c r => if r = true then do let ok ← isTrue c cenv (eval c cenv); pure (ForInStep.yield ok) else pure (ForInStep.yield r)) Q E s
 | [],_,h => wpAny_pure h
 | c :: r,Q,h => by
  rw [List.forIn_cons]
  simp only [Bool.false_eq_true,if_false]
  exact wpAny_bind (wpAny_pure (kS r h))
theorem pQ {ct:PySem.Expr → Tx}:∀ {ifs:List PySem.Expr},(∀ c ∈ ifs,ST prog w cl K h₀ L A ns env (ct c) (isTrue c env (eval c env))) →
  ST prog w cl K h₀ L A ns env (cb (ifs.map ct)) (forIn ifs true fun c r => if r = true then do let ok ← isTrue c env (eval c env); pure (ForInStep.yield ok) else pure (ForInStep.yield r))
 | [],_ => by
  intro E s m news ρ f Hh v H' F N R FR hc
  cases hc
  exact wpAny_pure (TP.ofs F N R (.refl _ _ _))
 | x :: r,h => by
  intro E s m news ρ f Hh v H' F N R FR hc
  haveI ih:=pQ (ifs:=r) fun e he => h e (.tail _ he)
  obtain ⟨z,H1,hx,hc⟩:=bnd2 hc
  rw [List.forIn_cons]
  simp only [if_true]
  refine wpAny_bind (wpAny_bind ((h x (.head _)).step F N R FR hx fun h₁ t₁ n₁ ρ₁ F1 N1 R1 x1 FR1 => wpAny_pure ?_))
  cases z
  ·cases hc; exact kS r (TP.ofs F1 N1 R1 x1)
  ·exact ih.step (s:={ s with heap:=h₁,toks:=t₁ }) F1 N1 R1 FR1 hc fun h₂ t₂ n₂ ρ₂ F2 N2 R2 x2 FR2 => TP.ofs F2 N2 R2 (x1.trans x2)
theorem gf {src:V} {H1 H2:H} (h:stays src H1 H2 = true):az src H2 = az src H1:=by
 cases src with
 | ref i =>
  haveI:H2[i]? = H1[i]?:=by simpa [stays] using h
  simp only [az,this]
 | _ => rfl
theorem iE (src:V) (H1:H):stays src H1 H1 = true:=by cases src <;> simp [stays]
theorem cF {own:List Addr} {ρ₀ : b9} {n₀ : ay} {a:Addr} (x:Ext own ρ₀ ρ n₀ news) (h:a ∉ aY ρ₀) (hm:a ∈ n₀.map (·.1)):a ∉ aY ρ:=fun q => (x.fresh a q).elim h fun r => r hm
theorem Ext.lower {o:List Addr} {extra:ay} (x:Ext o ρ ρ' (extra ++ news) news'):Ext o ρ ρ' news news':=
 ⟨x.pre,fun p hp hf => x.frz p (List.mem_append_right _ hp) hf,fun p hp h1 h2 => x.keep p (List.mem_append_right _ hp) h1 h2,
  fun a ha => (x.fresh a ha).imp id fun h q => h (by rw [List.map_append]; exact List.mem_append_right _ q),fun a ha => x.adrs a (by rw [List.map_append]; exact List.mem_append_right _ ha)⟩
theorem xY {x:Str} {sc:Scope} {f:Fm} {i:Nat} {v:Value} {y:V} {Q:Unit → Shared → Prop} (c:CompOk ns sc x) (ok:jh ns env L) (hi:cq sc.names x = some i) (F:Fr g C s.heap m) (N:News g C s.heap news) (R:Rel prog w cl K news ρ Hh)
  (hcv:aJ sc.names x = some (i,.cell) → ∃ o w,(C + 1,o) ∈ news ∧ o.data = .cell w ∧ C + 1 ∉ aY ρ) (hfo:∀ n',Ext [C + 1] ρ ρ news n' → ∃ mo,FRel K n' ρ ns env mo f) (hv:VR K news ρ v y)
  (k:∀ h' tk' n' m',Fr g C h' m' → News g C h' n' → Rel prog w cl K n' ρ Hh → Ext [C + 1] ρ ρ news n' → (aJ sc.names x = some (i,.cell) → ∃ o w,(C + 1,o) ∈ n' ∧ o.data = .cell w) → FRel K n' ρ sc.names (cC sc C env) m' (kF sc ns i f y) → Q () { s with heap:=h',toks:=tk' }) :
  wpAny (model prog w) A (storeName (cC sc C env) x v) Q E s:=by
 have cok:jh sc.names (cC sc C env) C:=lX c ok
 rcases c.var with ⟨i',hi',_⟩ | ⟨i',hi',_⟩
 ·obtain ⟨k',hk',_⟩:=cA hi
  rw [hi'] at hk'; cases hk'
  refine wpAny_storeName_local (cok.loc _ _ hi') F.ns (fun h3 hn3 hs3 => ?_) (by rw [cok.kind]; rfl)
  obtain ⟨mo,FRo⟩:=hfo news (.refl _ _ _)
  exact k h3 _ news _ (F.set hn3 hs3) (N.set hs3) R (.refl _ _ _) (fun h => by rw [hi'] at h; cases h) (qo (m':=fun z => if z = x then some v else m z) c ok FRo (.inl ⟨hi',by simp⟩) hv)
 ·obtain ⟨k',hk',_⟩:=cA hi
  rw [hi'] at hk'; cases hk'
  obtain ⟨o,w0,h1,h2,h3⟩:=hcv hi'
  refine wpAny_storeName_cell cok.kind (cok.cellK _ _ hi') (iu c hi') ⟨o,(N _ h1).1,h2⟩ fun h' hcell hs => ?_
  obtain ⟨o',ho',hd'⟩:=hcell
  obtain ⟨F',N'⟩:=d6 F N h1 hs ho'
  have nf:=fH h2
  have xt:Ext [C + 1] ρ ρ news (repl (C + 1) o' news):=Ext.side R h1 nf (by simp)
  obtain ⟨mo,FRo⟩:=hfo _ xt
  exact k h' s.toks _ m F' N' (R.side h3 h1 nf) xt (fun _ => ⟨o',_,dv h1,hd'⟩) (qo (m':=m) c ok FRo (.inr ⟨hi',o',dv h1,hd',h3⟩) (hv.ext xt))
inductive Iu (prog:Program) (w:World) (cl:Str → Option Addr) (K:Frag) (g:Heap) (C:Addr) (sc:Scope) (ns:aK) (ifs:List PySem.Expr) (ct:PySem.Expr → Tx) (ce:Ex) (x:Str) (i:Nat) (f:Fm) (I D:Addr) (ρ₀ : b9) (n₀ : ay) (src:V) (items zt:List V) (H₀ Hf:H) (s₀ : Shared) (n:Nat) (st:Shared):Prop
 | mk (pre rest dn zs:List V) (H1:H) (h:Heap) (tk:Tok) (n1:ay) (ρ1:b9) (m1:Str → Option Value) (us:List Value) (nn:Nat) (e:st = { s₀ with heap:=h,toks:=tk }) (e2:rest.length = n) (e3:items = pre ++ rest) (F:Fr g C h m1) (N:News g C h n1) (R:Rel prog w cl K n1 ρ1 H1) (xt:Ext [D,I,C + 1] ρ₀ ρ1 n₀ n1) (it:ItAt n1 ρ1 I pre.length src)
   (hD:(D,({ cls:=.type "list",data:=.seq us.toArray nn }:Obj)) ∈ n1) (hus:All2 (VR K n1 ρ1) us dn) (hdl:dn.length ≤ pre.length) (hst:stays src H₀ H1 = true) (hcv:aJ sc.names x = some (i,.cell) → ∃ o w,(C + 1,o) ∈ n1 ∧ o.data = .cell w) (hC:aJ sc.names x = some (i,.cell) → C + 1 ∉ aY ρ1) (ev:dE (stays src H₀) (kF sc ns i f) (cb (ifs.map ct)) ce rest H1 = some (zs,Hf)) (hz:dn ++ zs = zt)
theorem yy {elt iter:PySem.Expr} {x:Str} {px pos:Pos} {ifs:List PySem.Expr} {sc:Scope} {I D:Addr} {ct:PySem.Expr → Tx} {ce:Ex} {src:V} {items zt:List V} {f:Fm} {i:Nat} {Rz:Result → Shared → Prop} {s₀ : Shared} {nO extra n₀ : ay} {ρ₀ : b9} {H₀ Hf:H}
  (hh:A.handled = none) (c:CompOk ns sc x) (ok:jh ns env L) (hi:cq sc.names x = some i)
  (hifs:∀ q ∈ ifs,ST prog w cl K g C A sc.names (cC sc C env) (ct q) (isTrue q (cC sc C env) (eval q (cC sc C env))))
  (helt:SE prog w cl K g C A sc.names (cC sc C env) ce (eval elt (cC sc C env)))
  (hn0:n₀ = extra ++ nO) (FR:FRel K nO ρ₀ ns env m f) (hout:∀ a ∈ [D,I,C + 1],a ∉ nO.map (·.1)) (hD:D ∈ n₀.map (·.1)) (hI:I ∈ n₀.map (·.1)) (hD':D ∉ aY ρ₀) (hI':I ∉ aY ρ₀) (hDI:D ≠ I) (hDC:D ≠ C + 1) (hIC:I ≠ C + 1)
  (hCf:aJ sc.names x = some (i,.cell) → C + 1 ∉ aY ρ₀) (hcv:aJ sc.names x = some (i,.cell) → ∃ o w,(C + 1,o) ∈ n₀ ∧ o.data = .cell w)
  (his:az src H₀ = some items) (hlen:items.length ≤ 1000)
  (fin:∀ h tk n ρ m' us nn,Fr g C h m' → News g C h (db I n) → Rel prog w cl K (db I n) ρ Hf → Ext [D,I,C + 1] ρ₀ ρ n₀ n → (D,({ cls:=.type "list",data:=.seq us.toArray nn }:Obj)) ∈ db I n → All2 (VR K (db I n) ρ) us zt → Rz (.ok .next) { s₀ with heap:=h,toks:=tk })
  {h:Heap} {tk:Tok} {m1:Str → Option Value} {nn:Nat} (F:Fr g C h m1) (N:News g C h n₀) (R:Rel prog w cl K n₀ ρ₀ H₀) (it:ItAt n₀ ρ₀ I 0 src) (hDm:(D,({ cls:=.type "list",data:=.seq #[] nn }:Obj)) ∈ n₀)
  (ev:dE (stays src H₀) (kF sc ns i f) (cb (ifs.map ct)) ce items H₀ = some (zt,Hf)) :
  codeAny (model prog w) A (.compLoop (.ListComp elt [⟨.Name x px,iter,ifs,0⟩] sc pos) 0 (.ref I) (.ref D) (cC sc C env)) Rz { s₀ with heap:=h,toks:=tk }:=by
 haveI hf:=ok.kind
 haveI cok:jh sc.names (cC sc C env) C:=lX c ok
 refine Bc (P:=Iu prog w cl K g C sc ns ifs ct ce x i f I D ρ₀ n₀ src items zt H₀ Hf s₀) fun W mk un => ?_
 refine codeAny_compLoop_tests W ?_ items.length (mk _ _ ⟨[],items,[],zt,H₀,h,tk,n₀,ρ₀,m1,[],nn,rfl,rfl,rfl,F,N,R,.refl _ _ _,it,hDm,.nil,Nat.le_refl _,iE _ _,hcv,hCf,ev,rfl⟩) (fun _ => rfl)
 clear F N R it hDm ev m1 tk
 intro n s1 hW
 obtain ⟨pre,rest,dn,zs,H1,h,tk,n1,ρ1,m1,us,nn,rfl,rfl,hitems,F,N,R,xt,it,hDm,hus,hdl,hst,hcv1,hC1,ev,hz⟩:=un _ _ hW
 clear hW
 have hD1:D ∉ aY ρ1:=cF xt hD' hD
 have hI1:I ∉ aY ρ1:=cF xt hI' hI
 have hit:az src H1 = some items:=(gf hst).trans his
 haveI frel:∀ {ρ2:b9} {n2:ay},Ext [D,I,C + 1] ρ₀ ρ2 n₀ n2 → FRel K n2 ρ2 ns env m f:=fun {ρ2 n2} x2 => by
  rw [hn0] at x2
  exact FR.own x2.lower fun a ha o ho => absurd (List.mem_map_of_mem (f:=(·.1)) ho) (hout a ha)
 cases rest with
 | nil =>
  have e:(zs,Hf) = ([],H1):=(Option.some.inj ev).symm
  obtain ⟨rfl,rfl⟩:=Prod.mk.inj e
  refine sw (s:={ s₀ with heap:=h,toks:=tk }) hh F N R it hI1 hit (by rw [hitems]; simp) fun h' F' N' R' => ?_
  rw [List.append_nil] at hz; subst hz
  obtain ⟨ob,hob,nfob,_⟩:=it.entry
  refine fin h' tk n1 ρ1 m1 us nn F' N' R' xt (bf.mpr ⟨hDm,hDI⟩) (hus.mono fun _ _ z => ?_)
  haveI:=z.stay (τ:=[]) (news':=db I n1) fun p hp hz => bf.mpr ⟨hp,fun e => nfob (by obtain ⟨a,o⟩:=p; dsimp only at e; subst e; rw [ij R.nd hob hp]; exact hz)⟩
  simpa using this
 | cons v rest =>
  haveI hx:items[pre.length]? = some v:=by rw [hitems]; simp
  refine jZ (s:={ s₀ with heap:=h,toks:=tk }) F N R it hI1 hit hx fun v' h2 tk2 ob' F2 N2 R2 x2 it2 hv2 => ?_
  obtain ⟨t,H2,ht,ev⟩:=bnd2 ev
  have x2':Ext [D,I,C + 1] ρ₀ ρ1 n₀ (repl I ob' n1):=xt.trans (x2.mono (by simp))
  refine wpAny_assign_Name (xY (s:={ s₀ with heap:=h2,toks:=tk2 }) c ok hi F2 N2 R2 (fun hk => ?_) (fun n' xn => ⟨m,frel (x2'.trans (xn.mono (by simp)))⟩) hv2 fun h3 tk3 n3 m3 F3 N3 R3 x3 hcv3 FR3 => ?_)
  ·obtain ⟨o,w',q1,q2⟩:=hcv1 hk
   exact ⟨o,w',bT q1 (Ne.symm hIC),q2,hC1 hk⟩
  haveI x3':Ext [D,I,C + 1] ρ₀ ρ1 n₀ n3:=x2'.trans (x3.mono (by simp))
  haveI hDm3:(D,({ cls:=.type "list",data:=.seq us.toArray nn }:Obj)) ∈ n3:=x3.keep _ (bT hDm hDI) hD1 (by simpa using hDC)
  haveI it3:=it2.keep x3 hI1 (by simpa using hIC)
  refine (pQ hifs).step (s:={ s₀ with heap:=h3,toks:=tk3 }) F3 N3 R3 FR3 ht fun h4 tk4 n4 ρ4 F4 N4 R4 x4 FR4 => ?_
  have hDm4:(D,({ cls:=.type "list",data:=.seq us.toArray nn }:Obj)) ∈ n4:=x4.keep _ hDm3 hD1 (by simp)
  have it4:=it3.keep x4 hI1 (by simp)
  have hus4:=VR.ext2 x4 (VR.ext2 x3 (VR.ext2 x2 hus))
  have x4':=x3'.trans (x4.mono (own':=[D,I,C + 1]) (by simp))
  have hcv4:aJ sc.names x = some (i,.cell) → ∃ o w,(C + 1,o) ∈ n4 ∧ o.data = .cell w:=fun hk => by
   obtain ⟨o,w',q1,q2⟩:=hcv3 hk
   exact ⟨o,w',x4.keep _ q1 (hC1 hk) (by simp),q2⟩
  have hC4:aJ sc.names x = some (i,.cell) → C + 1 ∉ aY ρ4:=fun hk q => by
   obtain ⟨o,w',q1,q2⟩:=hcv3 hk
   exact (x4.fresh _ q).elim (hC1 hk) fun r => r (List.mem_map_of_mem (f:=(·.1)) q1)
  dsimp only at ev
  split at ev
  ·rename_i hchk
   cases t with
   | false =>
    simp only [Bool.false_eq_true,if_false] at ev ⊢
    refine ⟨rest.length,by simp,mk _ _ ⟨pre ++ [v],rest,dn,zs,H2,h4,tk4,n4,ρ4,_,us,nn,rfl,rfl,by simp [hitems],F4,N4,R4,x4',by simpa using it4,hDm4,hus4,by simp; omega,hchk,hcv4,hC4,ev,hz⟩⟩
   | true =>
    simp only [if_true] at ev ⊢
    obtain ⟨q,H3,hq,ev⟩:=bnd2 ev
    refine helt.step (s:={ s₀ with heap:=h4,toks:=tk4 }) F4 N4 R4 FR4 hq fun y h5 tk5 n5 ρ5 F5 N5 R5 x5 hy5 FR5 => ?_
    dsimp only at ev
    split at ev
    ·rename_i hchk2
     obtain ⟨zs',Hz,hgo,e⟩:=bnd2 ev
     cases e
     have x5':=x4'.trans (x5.mono (own':=[D,I,C + 1]) (by simp))
     haveI hD5:D ∉ aY ρ5:=cF x5' hD' hD
     haveI hI5:I ∉ aY ρ5:=cF x5' hI' hI
     haveI hD4:D ∉ aY ρ4:=cF x4' hD' hD
     haveI hI4:I ∉ aY ρ4:=cF x4' hI' hI
     have hDm5:=x5.keep _ hDm4 hD4 (by simp)
     haveI it5:=it4.keep x5 hI4 (by simp)
     have nf:¬ bG ({ cls:=.type "list",data:=.seq us.toArray nn }:Obj):=bZ (by simp) (by simp)
     haveI hcv5:aJ sc.names x = some (i,.cell) → ∃ o w,(C + 1,o) ∈ repl D { cls:=.type "list",data:=.seq (us.toArray.push y) (nn + 1) } n5 ∧ o.data = .cell w:=fun hk => by
      obtain ⟨o,w',q1,q2⟩:=hcv4 hk
      exact ⟨o,w',bT (x5.keep _ q1 (hC4 hk) (by simp)) (Ne.symm hDC),q2⟩
     haveI hC5:aJ sc.names x = some (i,.cell) → C + 1 ∉ aY ρ5:=fun hk q => by
      obtain ⟨o,w',q1,q2⟩:=hcv4 hk
      exact (x5.fresh _ q).elim (hC4 hk) fun r => r (List.mem_map_of_mem (f:=(·.1)) q1)
     refine append_at (s:={ s₀ with heap:=h5,toks:=tk5 }) (N5 _ hDm5).1 (fun h6 hs6 ho6 => ?_) (by
      haveI:=hus.length
      haveI:pre.length ≤ items.length:=by rw [hitems]; simp
      simp only [List.size_toArray,sizeLine_eq]; omega)
     obtain ⟨F6,N6⟩:=d6 F5 N5 hDm5 hs6 ho6
     have x6:=Ext.side (own:=[D]) (ob':={ cls:=.type "list",data:=.seq (us.toArray.push y) (nn + 1) }) R5 hDm5 nf (by simp)
     refine ⟨rest.length,by simp,mk _ _ ⟨pre ++ [v],rest,dn ++ [q],zs',H3,h6,tk5,_,ρ5,_,us ++ [y],nn + 1,rfl,rfl,by simp [hitems],F6,N6,R5.side hD5 hDm5 nf,x5'.trans (x6.mono (by simp)),
      by simpa using it5.keep x6 hI5 (by simpa using Ne.symm hDI),by simpa using dv (o':={ cls:=.type "list",data:=.seq (us.toArray.push y) (nn + 1) }) hDm5,(VR.ext2 x6 (VR.ext2 x5 hus4)).append (.cons (hy5.ext x6) .nil),by simp; omega,hchk2,hcv5,hC5,hgo,by rw [List.append_assoc]; exact hz⟩⟩
    ·cases ev
  ·cases ev
theorem rO {M:Model} {sc:Scope} {clo:List (Str × Addr)} {Q:Env → Shared → Prop}
  (hQ:Q (newEnv sc s.heap.objs.size env.globals (cellsFrom (s.heap.objs.size + 1) sc.names clo) env.qual none .none (some env) builtinsNs) { s with heap:=pushCells (s.heap.push { cls:=.type "dict",data:=.dict #[] }) sc.names }) :
  wpAny M A (newFunctionEnv sc env.globals clo [] env.qual none .none (some env)) Q E s:=by
 simp only [newFunctionEnv,Option.isSome_some,if_true]
 refine wpAny_bind (wpAny_alloc ?_)
 refine wpAny_bind (wpAny_layCells _ (fun name kind cells => by cases hkc:kind == NameKind.cell <;> simp [hkc]) _ _ _ _ ?_)
 rw [show ({ s with heap:=s.heap.push { cls:=.type "dict",data:=.dict #[] } }:Shared).heap.objs.size = s.heap.objs.size + 1 from Heap.size_push ..]
 exact wpAny_bind (wpAny_pure (wpAny_pure hQ))
theorem pI {elt iter:PySem.Expr} {x:Str} {px pos:Pos} {ifs:List PySem.Expr} {sc:Scope} {ct:PySem.Expr → Tx} {ce:Ex} {src:V} {vi:Value} {items zt:List V} {f:Fm} {i:Nat} {RR:Value → Addr → Result → Shared → Prop} {Hf:H}
  (hh:A.handled = none) (c:CompOk ns sc x) (ok:jh ns env L) (B:Base K h₀) (hi:cq sc.names x = some i)
  (ih:∀ (g:Heap) (C:Addr),Base K g → (∀ q ∈ ifs,ST prog w cl K g C A sc.names (cC sc C env) (ct q) (isTrue q (cC sc C env) (eval q (cC sc C env)))) ∧ SE prog w cl K g C A sc.names (cC sc C env) ce (eval elt (cC sc C env)))
  (F:Fr h₀ L s.heap m) (N:News h₀ L s.heap news) (R:Rel prog w cl K news ρ Hh) (FR:FRel K news ρ ns env m f) (hv:VR K news ρ vi src) (his:az src Hh = some items) (hlen:items.length ≤ 1000)
  (ev:dE (stays src Hh) (kF sc ns i f) (cb (ifs.map ct)) ce items Hh = some (zt,Hf))
  (hRR:∀ D C h' tk n' ρ' m',Fr h₀ L h' m → News h₀ L h' n' → Rel prog w cl K n' ρ' (Hf ++ [.list zt]) → Ext [] ρ ρ' news n' → VR K n' ρ' (.ref D) (.ref Hf.length) → h'.Ns C m' → C ≠ L → h₀.get? C = none → (∀ p ∈ n',p.1 ≠ C) → RR (.ref D) C (.ok .next) { s with heap:=h',toks:=tk }) :
  wpAny (model prog w) A (pyIter vi) (fun it s₂ => wpAny (model prog w) A (newList []) (fun acc s₃ => wpAny (model prog w) A (newFunctionEnv sc env.globals (dZ env sc.names []) [] env.qual none .none (some env)) (fun cenv s₄ =>
   codeAny (model prog w) A (.compStart (.ListComp elt [⟨.Name x px,iter,ifs,0⟩] sc pos) 0 it acc { cenv with scope:=relabel sc env }) (RR acc cenv.locals) s₄) E s₃) E s₂) E s:=by
 refine iM F N R hv his fun I ob h1 F1 N1 hfI it => ?_
 obtain ⟨ob1,hob1,nf1,nc1⟩:=it.entry
 obtain ⟨R1,x1⟩:=cP R N1 hfI
 refine newList_K (s:={ s with heap:=h1 }) F1 N1 (fun D h2 F2 N2 hlt => ?_) (by rw [sizeLine_eq]; simp)
 have hfD:∀ p ∈ (I,ob) :: news,p.1 ≠ D:=fun p hp => Nat.ne_of_lt (hlt p hp)
 obtain ⟨R2,x2⟩:=cP R1 N2 hfD
 refine rO (s:={ s with heap:=h2 }) ?_
 dsimp only
 generalize hh3:pushCells (h2.push { cls:=.type "dict",data:=.dict #[] }) sc.names = h3
 have old1:∀ b o,(h2.push { cls:=.type "dict",data:=.dict #[] }).get? b = some o → h3.get? b = some o:=fun b o e => hh3 ▸ pushCells_keeps _ _ _ _ e
 have old:∀ b o,h2.get? b = some o → h3.get? b = some o:=fun b o e => old1 b o (Heap.get?_push_of_some _ e)
 haveI hns:h3.Ns h2.objs.size (fun _ => none):=(Heap.Ns.new h2 (.type "dict")).keeps old1
 have lt2:∀ p ∈ (D,listOf ([]:List Value).toArray 0) :: (I,ob) :: news,p.1 < h2.objs.size:=fun p hp => Heap.lt_size (N2 p hp).1
 haveI hec:∃ ec:ay,(∀ p ∈ ec,p.1 = h2.objs.size + 1 ∧ h3.get? p.1 = some p.2) ∧ (ec.map (·.1)).Nodup ∧ (aJ sc.names x = some (i,.cell) → ∃ o w,(h2.objs.size + 1,o) ∈ ec ∧ o.data = .cell w):=by
  rcases c.var with ⟨i',hi',q⟩ | ⟨i',hi',q⟩
  ·exact ⟨[],(by intro p hp; cases hp),by simp,fun h => by obtain ⟨k',hk',_⟩:=cA hi; rw [hi'] at hk'; cases hk'; rw [hi'] at h; cases h⟩
  ·refine ⟨[(h2.objs.size + 1,{ cls:=.type "cell",data:=.cell none })],fun p hp => ?_,by simp,fun _ => ⟨_,none,.head _,rfl⟩⟩
   have hp:p = (h2.objs.size + 1,{ cls:=.type "cell",data:=.cell none }):=List.mem_singleton.mp hp
   subst hp
   refine ⟨rfl,?_⟩
   rw [← hh3,(gM (n:=0) (acc:=[]) q).2]
   have:=Heap.get?_push_size (h2.push { cls:=.type "dict",data:=.dict #[] }) (o:={ cls:=.type "cell",data:=.cell none }) rfl
   rw [Heap.size_push] at this
   exact this
 obtain ⟨ec,hec1,hec2,hec3⟩:=hec
 obtain ⟨st,back⟩:=DA (s:={ s with heap:=h2 }) F2 N2
 generalize hg:hideAll ({ s with heap:=h2 }:Shared).heap (((D,listOf ([]:List Value).toArray 0) :: (I,ob) :: news).map (·.1)) = g at st back
 haveI gsz:g.objs.size = h2.objs.size:=by rw [← hg]; exact hideAll_size _ _
 have gof:∀ {b o},g.get? b = some o → h2.get? b = some o:=fun {b o} e => of_hideAll _ (hg ▸ e)
 haveI gnone:∀ b,h2.objs.size ≤ b → g.get? b = none:=fun b hb => by
  cases q:g.get? b with
  | none => rfl
  | some o => exact absurd (Nat.lt_of_lt_of_le (Heap.lt_size (gof q)) hb) (Nat.lt_irrefl _)
 haveI F3:Fr g h2.objs.size h3 (fun _ => none):=⟨hns,fun b o e => old b o (gof e),Nat.le_of_eq gsz⟩
 have N3:News g h2.objs.size h3 (ec ++ ((D,listOf ([]:List Value).toArray 0) :: (I,ob) :: news)):=fun p hp => by
  rcases List.mem_append.mp hp with hp | hp
  ·obtain ⟨e1,e2⟩:=hec1 p hp
   exact ⟨e2,by rw [e1]; exact Nat.ne_of_gt (Nat.lt_succ_self _),gnone _ (by rw [e1]; exact Nat.le_succ _)⟩
  ·exact ⟨old _ _ (N2 p hp).1,Nat.ne_of_lt (lt2 p hp),by rw [← hg]; exact hideAll_none _ (List.mem_map_of_mem hp)⟩
 have hfec:∀ a ∈ ec.map (·.1),a ∉ ((D,listOf ([]:List Value).toArray 0) :: (I,ob) :: news).map (·.1):=fun a ha q => by
  obtain ⟨p,hp,rfl⟩:=List.mem_map.mp ha
  obtain ⟨p',hp',e⟩:=List.mem_map.mp q
  have h1:=lt2 p' hp'
  rw [e,(hec1 p hp).1] at h1
  exact absurd (Nat.lt_trans (Nat.lt_succ_self _) h1) (Nat.lt_irrefl _)
 have R3:=R2.more (extra:=ec) hec2 hfec [] [] (by simp [aY]) (by simp [aY]) rfl (by simp)
 have x3:=Ext.more (own:=[]) (ρ:=ρ) hfec [] (by simp [aY])
 rw [List.append_nil,List.append_nil] at R3
 rw [List.append_nil] at x3
 have hIflat:I ∉ aY ρ:=fun q => by
  obtain ⟨o,ho,_⟩:=R.inNews q
  exact hfI _ ho rfl
 have hDflat:D ∉ aY ρ:=fun q => by
  obtain ⟨o,ho,_⟩:=R.inNews q
  exact hfD _ (.tail _ ho) rfl
 haveI hDI:D ≠ I:=fun e => hfD _ (.head _) e.symm
 haveI hDlt:D < h2.objs.size:=lt2 _ (.head _)
 haveI hIlt:I < h2.objs.size:=lt2 _ (.tail _ (.head _))
 have hCn:∀ p ∈ news,p.1 ≠ h2.objs.size + 1:=fun p hp e => by
  have:=lt2 p (.tail _ (.tail _ hp))
  rw [e] at this
  exact absurd (Nat.lt_trans (Nat.lt_succ_self _) this) (Nat.lt_irrefl _)
 haveI hDnews:D ∉ news.map (·.1):=fun q => by
  obtain ⟨p,hp,e⟩:=List.mem_map.mp q
  exact hfD p (.tail _ hp) e
 have hout:∀ a ∈ [D,I,h2.objs.size + 1],a ∉ news.map (·.1):=fun a ha q => by
  obtain ⟨p,hp,e⟩:=List.mem_map.mp q
  simp only [List.mem_cons,List.not_mem_nil,or_false] at ha
  rcases ha with rfl | rfl | rfl
  ·exact hfD p (.tail _ hp) e
  ·exact hfI p hp e
  ·exact hCn p hp e
 have ⟨hifs,helt⟩:=ih g h2.objs.size (B.keeps st)
 have goal:codeAny (model prog w) A (.compLoop (.ListComp elt [⟨.Name x px,iter,ifs,0⟩] sc pos) 0 (.ref I) (.ref D) (cC sc h2.objs.size env)) (RR (.ref D) h2.objs.size) { s with heap:=h3 }:=by
  refine yy (s₀:=s) (H₀:=Hh) (src:=src) (items:=items) (zt:=zt) (Hf:=Hf) (nn:=0) (nO:=news) (extra:=ec ++ [(D,listOf ([]:List Value).toArray 0),(I,ob)]) (n₀:=ec ++ ((D,listOf ([]:List Value).toArray 0) :: (I,ob) :: news)) hh c ok hi hifs helt (by simp) FR hout (by simp) (by simp) hDflat hIflat hDI (Nat.ne_of_lt (Nat.lt_succ_of_lt hDlt)) (Nat.ne_of_lt (Nat.lt_succ_of_lt hIlt)) (fun _ q => ?_) (fun hk => ?_) his hlen (fun h4 tk n ρ' m' us nn F4 N4 R4 x4 hD4 hus4 => ?_) F3 N3 R3
   ((it.keep x2 hIflat (by simp)).keep x3 hIflat (by simp)) (by simp) ev
  ·obtain ⟨o,ho,_⟩:=R.inNews q
   exact hCn _ ho rfl
  ·obtain ⟨o,w',q1,q2⟩:=hec3 hk
   exact ⟨o,w',List.mem_append_left _ q1,q2⟩
  ·obtain ⟨F5,N5⟩:=back F4 N4
   haveI hDn:D ∉ aY ρ':=cF x4 hDflat (by simp)
   haveI R5:=R4.adopt hD4 hDn ⟨nn,rfl⟩ hus4
   haveI hfI':∀ p ∈ news,p.1 ≠ I:=hfI
   haveI x5:Ext [] ρ ρ' news (db I n):=by
    have x4':Ext [D,I,h2.objs.size + 1] ρ ρ' ((ec ++ [(D,listOf ([]:List Value).toArray 0),(I,ob)]) ++ news) n:=by simpa using x4
    refine ⟨x4'.pre,fun p hp hz => bf.mpr ⟨x4'.frz p (List.mem_append_right _ hp) hz,hfI p hp⟩,fun p hp h1 _ => bf.mpr ⟨x4'.keep p (List.mem_append_right _ hp) h1 (fun q => hout _ q (List.mem_map_of_mem hp)),hfI p hp⟩,
     fun a ha => (x4'.fresh a ha).imp id fun h q => h (by rw [List.map_append]; exact List.mem_append_right _ q),fun a ha => ?_⟩
    obtain ⟨p,hp,rfl⟩:=List.mem_map.mp ha
    obtain ⟨q,hq,e⟩:=List.mem_map.mp (x4'.adrs p.1 (by rw [List.map_append]; exact List.mem_append_right _ ha))
    exact List.mem_map.mpr ⟨q,bf.mpr ⟨hq,fun e' => hfI p hp (e.symm.trans e')⟩,e⟩
   refine hRR D h2.objs.size h4 tk (db I n) (ρ' ++ [(D,none)]) m' F5 N5 R5 (x5.adopt hDnews) ⟨D,none,rfl,by rw [← R4.len]; simp⟩ F4.ns (fun e => ?_) ?_ fun p hp => (N4 p hp).2.1
   ·obtain ⟨oL,es,ep,hL,_⟩:=F2.ns
    have:=Heap.lt_size hL
    rw [← e] at this
    exact absurd this (Nat.lt_irrefl _)
   ·cases q:h₀.get? h2.objs.size with
    | none => rfl
    | some o => exact absurd (Heap.lt_size (F2.keep _ _ q)) (Nat.lt_irrefl _)
 refine codeAny_compStart_list goal ?_
 cases src with
 | ref id =>
  obtain ⟨l,ob2,_,k1,k2,k3⟩:=(it.keep x2 hIflat (by simp)).keep x3 hIflat (by simp)
  exact wpAny_pyIter_listiter ⟨ob2,(N3 _ k1).1,k2,k3⟩ goal
 | range a b st =>
  haveI k1:=(it.keep x2 hIflat (by simp)).keep x3 hIflat (by simp)
  exact wpAny_pyIter_rangeiter (N3 _ k1).1 goal
 | _ => cases his
theorem mh {e:PySem.Expr} (h:∀ a b c,e ≠ .Set a b c) (x:Value):foldedSetIterable e env x = pure x:=by
 cases e <;> first | rfl | exact absurd rfl (h _ _ _)
theorem CB {elt iter:PySem.Expr} {x:Str} {px pos:Pos} {ifs:List PySem.Expr} {sc:Scope} {ct:PySem.Expr → Tx} {ce ci:Ex} {i:Nat}
  (hh:A.handled = none) (c:CompOk ns sc x) (ok:jh ns env L) (B:Base K h₀) (hi:cq sc.names x = some i) (hset:∀ a b c,iter ≠ .Set a b c)
  (hit:SE prog w cl K h₀ L A ns env ci (eval iter env))
  (ih:∀ (g:Heap) (C:Addr),Base K g → (∀ q ∈ ifs,ST prog w cl K g C A sc.names (cC sc C env) (ct q) (isTrue q (cC sc C env) (eval q (cC sc C env)))) ∧ SE prog w cl K g C A sc.names (cC sc C env) ce (eval elt (cC sc C env))) :
  SE prog w cl K h₀ L A ns env (dz i (fz ns sc.names) ci (cb (ifs.map ct)) ce) (eval (.ListComp elt [⟨.Name x px,iter,ifs,0⟩] sc pos) env):=by
 intro E s m news ρ f Hh v H' F N R FR hc
 obtain ⟨src,H1,h1,hc⟩:=bnd2 hc
 obtain ⟨items,h2,hc⟩:=bnd1 hc
 split at hc
 ·rename_i hlen
  obtain ⟨zt,Hf,h3,hc⟩:=bnd2 hc
  cases hc
  rw [arm_eval_ListComp]
  refine wpAny_comprehension_free (use:=none) (cl:=dZ env sc.names []) rfl (mh hset) (wJ fun y hy => (c.cells ok y hy).2) c.kind (fun p hp e => c.locs p hp e) ?_
  refine hit.step F N R FR h1 fun v₁ h₁ t₁ n₁ ρ₁ F1 N1 R1 x1 hv1 FR1 => ?_
  refine pI (s:={ s with heap:=h₁,toks:=t₁ }) (RR:=fun acc C => compPost (model prog w) A E none (EP prog w cl K h₀ L m news ρ (.ref Hf.length) (Hf ++ [.list zt]) s) acc C) hh c ok B hi ih F1 N1 R1 FR1 hv1 h2 hlen h3 fun D C h' tk n' ρ' m' F2 N2 R2 x2 hv2 hn hCL hC0 hCn => ?_
  refine ⟨m',hn,fun h'' hs => ?_⟩
  exact EP.ofs (F2.change hs hCL hC0) (fun p hp => ⟨(hs.2 _ (hCn p hp)).trans (N2 p hp).1,(N2 p hp).2⟩) R2 (x1.trans x2) hv2
 ·cases hc
end
end
section
open PySem PySem.W PySem.Calls PyProof.Rows
section
variable {prog:Program} {w:World} {cl:Str → Option Addr} {K:Frag} {fval:Str → Option Value} {h₀ : Heap} {L:Addr} {m:Str → Option Value} {news news':ay} {ρ ρ':b9} {s s₁ : Shared} {A:Around} {E:Value → Shared → Prop} {Hh H':H} {ns:aK} {env:Env} {g:G}
theorem kP {a b st:Int} {t u x:Tok} {tk:Tok} {h':Heap} {r:Addr} (F':Fr h₀ L h' m) (N':News h₀ L h' ((r,DC [.int a t,.int b u,.int st x]) :: news)) (R:Rel prog w cl K news ρ Hh) (hf:∀ p ∈ news,p.1 ≠ r) :
  EP prog w cl K h₀ L m news ρ (.range a b st) Hh s (.ref r) { s with heap:=h',toks:=tk }:=by
 obtain ⟨R',x'⟩:=cP R N' hf
 exact EP.ofs F' N' R' x' ⟨r,t,u,x,rfl,.head _⟩
theorem D4 {h':Heap} {o:Obj} (F:Fr h₀ L s.heap m) (N:News h₀ L s.heap news) (N':News h₀ L h' news) (hr:h'.get? s.heap.objs.size = some o):News h₀ L h' ((s.heap.objs.size,o) :: news):=by
 intro p hp
 rcases List.mem_cons.mp hp with rfl | hp
 ·refine ⟨hr,fun q => ?_,?_⟩
  ·obtain ⟨oL,es,ep,hL,_⟩:=F.ns
   haveI:=Heap.lt_size hL
   dsimp only at q
   rw [← q] at this; exact absurd this (Nat.lt_irrefl _)
  ·cases q:h₀.get? s.heap.objs.size with
   | none => rfl
   | some o => exact absurd (Heap.lt_size (F.keep _ _ q)) (Nat.lt_irrefl _)
 ·exact N' p hp
theorem iy (I:FU K cl fval):GS prog w cl K fval bJ A h₀ L:=by
 intro x vs Hh v H' e
 unfold bJ at e
 split at e
 ·rename_i hx; subst hx
  refine ⟨_,I.bRange,fun E s m news ρ vs' F N R hv => ?_⟩
  unfold Az at e
  split at e <;> try (cases e; done)
  ·cases e
   obtain ⟨v1,rfl,t,rfl⟩:=hv.l1
   exact call_range_1 (kP (F.push _) (N.push F _) R fun p hp => dC N hp)
  ·cases e
   obtain ⟨v1,v2,rfl,⟨t,rfl⟩,u,rfl⟩:=hv.l2
   exact call_range_2 (kP (F.push _) (N.push F _) R fun p hp => dC N hp)
  ·split at e <;> try (cases e; done)
   rename_i hst
   cases e
   obtain ⟨v1,v2,v3,rfl,⟨t,rfl⟩,⟨u,rfl⟩,x,rfl⟩:=hv.l3
   refine range3_rows F N (by omega) (fun h' tk t₁ u₁ v₁ hr F' N' hk => ?_) (Or.inl (PyProof.noPylong_small (by omega)))
   refine kP (t:=t₁) (u:=u₁) (x:=v₁) F' ?_ R fun p hp => dC N hp
   exact D4 F N N' hr
 ·have one1:∀ {f:V → Option V} {vs':List Value} {news:ay} {ρ : b9},one f Hh vs = some (v,H') → All2 (VR K news ρ) vs' vs → ∃ a a',vs' = [a'] ∧ VR K news ρ a' a ∧ f a = some v ∧ H' = Hh:=fun {f vs' news ρ} e hv => by
   unfold one at e
   split at e <;> try (cases e; done)
   obtain ⟨z,hz,e⟩:=mpd e
   cases e
   obtain ⟨v1,rfl,h1⟩:=hv.l1
   exact ⟨_,_,rfl,h1,hz,rfl⟩
  split at e
  ·rename_i hx; subst hx
   refine ⟨_,I.bLen,fun E s m news ρ vs' F N R hv => ?_⟩
   obtain ⟨a,a',rfl,ha,hz,rfl⟩:=one1 e hv
   unfold Bq at hz
   split at hz <;> try (cases hz; done)
   split at hz <;> try (cases hz; done)
   rename_i us hl
   split at hz <;> try (cases hz; done)
   cases hz
   obtain ⟨a,d,rfl,ha⟩:=ha
   obtain ⟨ob,us',m1,m2,m3,_,_⟩:=R.list hl ha
   refine PyProof.Rows.len_list (bv N m1 m2) (by haveI:=m3.length; simp; omega) ?_
   exact EP.now F N R ⟨s.toks + 1,by rw [← m3.length]; simp⟩
  ·split at e
   ·rename_i hx; subst hx
    refine ⟨_,I.bAbs,fun E s m news ρ vs' F N R hv => ?_⟩
    obtain ⟨a,a',rfl,ha,hz,rfl⟩:=one1 e hv
    unfold EO at hz
    split at hz <;> cases hz
    obtain ⟨t,rfl⟩:=ha
    refine call_abs_int fun u tk => EP.now F N R ⟨u,?_⟩
    congr 1; dsimp only; split <;> omega
   ·cases e
structure Gl (K:Frag) (cl:Str → Option Addr) (fval:Str → Option Value):Prop where
 glo:GQ K
 attrs:lS cl K
 fns:FU K cl fval
theorem v4 {f:Str → PySem.Expr → List PySem.Expr → Ex} {elt:PySem.Expr} {sc:Scope} {p:Pos} (h:∀ x y iter ifs,SE prog w cl K h₀ L A ns env (f x iter ifs) (eval (.ListComp elt [⟨.Name x y,iter,ifs,0⟩] sc p) env)) :
  ∀ gs,SE prog w cl K h₀ L A ns env (Fv f gs) (eval (.ListComp elt gs sc p) env)
 | [] => SE.no
 | _ :: _ :: _ => SE.no
 | [⟨t,iter,ifs,k⟩] => by
  cases t with
  | Name x y =>
   show SE prog w cl K h₀ L A ns env (if k = 0 then f x iter ifs else dK) _
   split
   ·rename_i hk; subst hk; exact h x y iter ifs
   ·exact SE.no
  | _ => exact SE.no
theorem d5 (Z:Gl K cl fval) (hh:A.handled = none) (hu:A.units + 10 < cLine):∀ (d:Nat) {g:G} {h₀ : Heap} {L:Addr} {env:Env} {ns:aK},Base K h₀ → jh ns env L → GS prog w cl K fval g A h₀ L →
  (∀ e,SE prog w cl K h₀ L A ns env ((dX d g).1 ns e) (eval e env)) ∧ (∀ e,ST prog w cl K h₀ L A ns env ((dX d g).2 ns e) (isTrue e env (eval e env)))
 | 0,_,_,_,_,_,_,_,_ => ⟨fun _ => SE.no,fun _ => ST.no⟩
 | d + 1,g,h₀,L,env,ns,B,ok,G => by
  obtain ⟨ihe,iht⟩:=d5 Z hh hu d B ok G
  have hs:∀ x p,(dX d g).1 ns (.Starred x p) = dK:=fun x p => by cases d <;> rfl
  haveI hset:∀ a b c,(dX d g).1 ns (.Set a b c) = dK:=fun a b c => by cases d <;> rfl
  haveI hslice:∀ a b c p,(dX d g).1 ns (.Slice a b c p) = dK:=fun a b c p => by cases d <;> rfl
  have hsa:∀ {pos:Pos} (es:List PySem.Expr),SA prog w cl K h₀ L A ns env (es.map ((dX d g).1 ns)) (spliced (backTo pos (starEach es env))):=fun es => vh hs fun e _ => ihe e
  have hnst:∀ (es:List PySem.Expr) f Hh r,bb (es.map ((dX d g).1 ns)) f Hh = some r → dR es:=fun es f Hh r h => kJ hs h
  haveI hno:∀ {e c},c = dK → SE prog w cl K h₀ L A ns env c (eval e env):=fun q => q ▸ SE.no
  haveI hcmp:∀ l ops rs p,SE prog w cl K h₀ L A ns env (FB ((dX d g).1 ns) l ops rs) (eval (.Compare l ops rs p) env)
   | l,[op],[r],p => by
    show SE prog w cl K h₀ L A ns env (if behindInMarks op r then dK else cG op ((dX d g).1 ns l) ((dX d g).1 ns r)) _
    split
    ·exact SE.no
    ·rename_i hb; exact Di (by simpa using hb) hu B.X (ihe _) (ihe _)
   | _,[],_,_ => SE.no
   | _,_ :: _ :: _,_,_ => SE.no
   | _,[_],[],_ => SE.no
   | _,[_],_ :: _ :: _,_ => SE.no
  haveI first:∀ e,SE prog w cl K h₀ L A ns env ((dX (d + 1) g).1 ns e) (eval e env):=fun e => by
   cases e with
   | Constant c k p =>
    haveI q:(dX (d + 1) g).1 ns (.Constant c k p) = (match si c with | some v => ac v | none => dK):=rfl
    rw [q]
    split
    ·rename_i hc; exact Aj hc
    ·exact SE.no
   | Name x p =>
    have q:(dX (d + 1) g).1 ns (.Name x p) = if x = "__debug__" ∨ x = "__classdict__" then dK else wU ns x:=rfl
    rw [q]
    split
    ·exact SE.no
    ·rename_i hx; exact By ok Z.glo B hx
   | BinOp l op r p =>
    have hb:SE prog w cl K h₀ L A ns env (ao op ((dX d g).1 ns l) ((dX d g).1 ns r)) (eval (.BinOp l op r p) env):=EF (ihe _) (ihe _)
    show SE prog w cl K h₀ L A ns env (F8 ((dX d g).1 ns) op r l) _
    cases l with
    | List xs q =>
     cases xs with
     | nil => exact hb
     | cons x ys =>
      cases ys with
      | cons => exact hb
      | nil =>
       cases op with
       | Mult =>
        intro E s m news ρ f Hh v H' F N R FR hc
        refine EA (fun y q e => ?_) (ihe _) (ihe _) E s m news ρ f Hh v H' F N R FR hc
        subst e
        obtain ⟨z,hz,_⟩:=bnd1 hc
        rw [hs] at hz; cases hz
       | _ => exact hb
    | _ => exact hb
   | UnaryOp op x p => exact E3 (ihe _)
   | Compare l ops rs p => exact hcmp l ops rs p
   | BoolOp op vs p => exact wr fun e _ => ihe e
   | IfExp t a b p => exact Gh (iht _) (ihe _) (ihe _)
   | Call fn as kw p =>
    cases kw with
    | cons => exact SE.no
    | nil =>
     show SE prog w cl K h₀ L A ns env (CK g ns ((dX d g).1 ns) as p fn) _
     cases fn with
     | Attribute o x ap =>
      show SE prog w cl K h₀ L A ns env (if eB o && (ap.endLine == p.line) && decide (as.length < 29) then aZ g ((dX d g).1 ns o) x (as.map ((dX d g).1 ns)) else dK) _
      split
      ·rename_i hb
       simp only [Bool.and_eq_true,decide_eq_true_eq] at hb
       exact BC B Z.fns G hb.1.1 hb.1.2 hb.2 (List.length_map ..) (hnst _) (ihe _) (hsa _)
      ·exact SE.no
     | Name x xp =>
      show SE prog w cl K h₀ L A ns env (if gw ns x && decide (as.length < 29) && decide (x ≠ "__debug__") && !mE x then af g x (as.map ((dX d g).1 ns)) else dK) _
      split
      ·rename_i hb
       simp only [Bool.and_eq_true,decide_eq_true_eq,Bool.not_eq_true'] at hb
       exact B5 ok B Z.fns G hb.1.1.1 hb.1.2 hb.2 (List.length_map ..) (hnst _) (hsa _)
      ·exact SE.no
     | _ => exact SE.no
   | Attribute o x p =>
    have q:(dX (d + 1) g).1 ns (.Attribute o x p) = if eB o then ai ((dX d g).1 ns o) x else dK:=rfl
    rw [q]
    split
    ·rename_i hb; exact Cr hb Z.attrs B.X (ihe _)
    ·exact SE.no
   | Subscript o i p =>
    show SE prog w cl K h₀ L A ns env (Fa ((dX d g).1 ns) o i) _
    cases i with
    | Slice lo hi st q =>
     cases st with
     | some => exact SE.no
     | none =>
      show SE prog w cl K h₀ L A ns env (Ai ((dX d g).1 ns o) lo hi) _
      cases lo with
      | none =>
       cases hi with
       | none => exact nN rfl rfl (ihe _)
       | some k =>
        show SE prog w cl K h₀ L A ns env (match jW k with | some k => c5 ((dX d g).1 ns o) none (some k) | none => dK) _
        split
        ·rename_i hk; exact nN rfl ⟨_,hk,rfl⟩ (ihe _)
        ·exact SE.no
      | some k =>
       cases hi with
       | none =>
        show SE prog w cl K h₀ L A ns env (match jW k with | some k => c5 ((dX d g).1 ns o) (some k) none | none => dK) _
        split
        ·rename_i hk; exact nN ⟨_,hk,rfl⟩ rfl (ihe _)
        ·exact SE.no
       | some => exact SE.no
    | _ => exact Dd rfl B.X (ihe _) (ihe _)
   | List es p =>
    haveI q:(dX (d + 1) g).1 ns (.List es p) = if 1000 < es.length then dK else aP (es.map ((dX d g).1 ns)):=rfl
    rw [q]
    split
    ·exact SE.no
    ·rename_i hz; exact A9 (by omega) (List.length_map ..) (hsa _)
   | Tuple es p k =>
    have q:(dX (d + 1) g).1 ns (.Tuple es p k) = if 1000 < es.length then dK else dM (es.map ((dX d g).1 ns)):=rfl
    rw [q]
    split
    ·exact SE.no
    ·rename_i hz; exact Ea (by omega) (List.length_map ..) (hsa _)
   | ListComp elt gs sc p =>
    refine v4 (f:=FD ns ((dX d g).1 ns) (dX d bJ) elt sc) (fun x y iter ifs => ?_) gs
    unfold FD
    split
    ·exact SE.no
    ·rename_i hb
     have c:=pN (by simpa using hb)
     split
     ·rename_i i hi
      intro E s m news ρ f Hh v H' F N R FR hc
      refine CB hh c ok B hi (fun a b c e => ?_) (ihe _) (fun g' C B' => ?_) E s m news ρ f Hh v H' F N R FR hc
      ·subst e
       obtain ⟨z,hz,_⟩:=bnd1 hc
       rw [hset] at hz; cases hz
      ·obtain ⟨ie,it⟩:=d5 Z hh hu d (g:=bJ) B' (lX (C:=C) c ok) (iy Z.fns)
       exact ⟨fun q _ => it q,ie _⟩
     ·exact SE.no
   | _ => exact SE.no
  refine ⟨first,fun e => ?_⟩
  cases e with
  | UnaryOp op x p =>
   cases op with
   | Not => exact EE (iht _)
   | _ => exact yK (ihe _) rfl
  | BoolOp op vs p =>
   intro E s m news ρ f Hh v H' F N R FR hc
   exact wpAny_isTrue_BoolOp (zv (fun e _ => iht e) E s m news ρ f Hh v H' F N R FR hc)
  | Compare l ops rs p =>
   show ST prog w cl K h₀ L A ns env (C6 ((dX d g).1 ns) l ops rs) _
   match ops,rs with
   | [op],[r] =>
    show ST prog w cl K h₀ L A ns env (if behindInMarks op r then EU else ax op ((dX d g).1 ns l) ((dX d g).1 ns r)) _
    split
    ·exact ST.no
    ·rename_i hb; exact Es (by simpa using hb) hu B.X (ihe _) (ihe _)
   | [],_ => exact ST.no
   | _ :: _ :: _,_ => exact ST.no
   | [_],[] => exact ST.no
   | [_],_ :: _ :: _ => exact ST.no
  | IfExp => exact ST.no
  | _ => exact yK (ihe _) rfl
end
end
section
open PySem PySem.W PySem.Calls PyProof.Rows
noncomputable def own (env:Env):List Addr:=env.cells.map (·.2)
structure fg (env:Env):Prop where
 n1:(env.cells.map (·.1)).Nodup
 n2:(env.cells.map (·.2)).Nodup
noncomputable def CellI (news:ay) (ρ : b9) (env:Env):Prop:=∀ p ∈ env.cells,∃ o w,(p.2,o) ∈ news ∧ o.data = .cell w ∧ p.2 ∉ aY ρ
theorem bg {α : Type}:∀ {l:List (Str × α)} {x:Str} {c:α},l.lookup x = some c → (x,c) ∈ l
 | [],_,_,h => by simp at h
 | (y,d) :: r,x,c,h => by
  rw [List.lookup_cons] at h
  by_cases hy:(x == y) = true
  ·rw [hy] at h; cases h; rw [show x = y by simpa using hy]; exact .head _
  ·haveI hy':(x == y) = false:=by simpa using hy
   rw [hy'] at h; exact .tail _ (bg h)
theorem pD {α β : Type}:∀ {l:List (α × β)},(l.map (·.2)).Nodup → ∀ {p q:α × β},p ∈ l → q ∈ l → p.2 = q.2 → p = q
 | [],_,_,_,h,_,_ => nomatch h
 | r :: l,nd,p,q,hp,hq,e => by
  haveI nd':r.2 ∉ l.map (·.2) ∧ (l.map (·.2)).Nodup:=List.nodup_cons.mp nd
  rcases List.mem_cons.mp hp with e1 | h1
  ·rcases List.mem_cons.mp hq with e2 | h2
   ·exact e1.trans e2.symm
   ·exact absurd (by rw [← e1,e]; exact List.mem_map_of_mem (f:=(·.2)) h2) nd'.1
  ·rcases List.mem_cons.mp hq with e2 | h2
   ·exact absurd (by rw [← e2,← e]; exact List.mem_map_of_mem (f:=(·.2)) h1) nd'.1
   ·exact pD nd'.2 h1 h2 e
section
variable {prog:Program} {w:World} {cl:Str → Option Addr} {K:Frag} {fval:Str → Option Value} {h₀ : Heap} {L:Addr} {m:Str → Option Value} {news news':ay} {ρ ρ':b9} {s s₁ : Shared} {A:Around} {E:Value → Shared → Prop} {Hh H':H} {ns:aK} {env:Env} {g:G}
theorem CellI.own {o:List Addr} (c:CellI news ρ env) (x:Ext o ρ ρ' news news') (h:∀ p ∈ env.cells,p.2 ∉ o):CellI news' ρ' env:=fun p hp => by
 obtain ⟨ob,w,a,b,d⟩:=c p hp
 exact ⟨ob,w,x.keep _ a d (h p hp),b,fun q => (x.fresh _ q).elim d fun r => r (List.mem_map_of_mem (f:=(·.1)) a)⟩
theorem CellI.ext (c:CellI news ρ env) (x:Ext [] ρ ρ' news news'):CellI news' ρ' env:=c.own x fun _ _ h => nomatch h
noncomputable def Hr (K:Frag) (news:ay) (ρ : b9) (flow:Flow):Fl → Prop
 | .next => flow = .next
 | .ret v => ∃ v',flow = .ret v' ∧ VR K news ρ v' v
inductive SP (prog:Program) (w:World) (cl:Str → Option Addr) (K:Frag) (h₀ : Heap) (L:Addr) (ns:aK) (env:Env) (news:ay) (ρ : b9) (fl:Fl) (f':Fm) (H':H) (s:Shared) (flow:Flow) (s':Shared):Prop
 | mk (h':Heap) (tk':Tok) (news':ay) (ρ':b9) (m':Str → Option Value) (e:s' = { s with heap:=h',toks:=tk' }) (F:Fr h₀ L h' m') (N:News h₀ L h' news') (R:Rel prog w cl K news' ρ' H') (x:Ext (own env) ρ ρ' news news') (FR:FRel K news' ρ' ns env m' f') (CI:CellI news' ρ' env) (hf:Hr K news' ρ' flow fl)
noncomputable def SS (prog:Program) (w:World) (cl:Str → Option Addr) (K:Frag) (h₀ : Heap) (L:Addr) (A:Around) (ns:aK) (env:Env) (c:Sx) (t:Sem Flow):Prop:=
 ∀ (E:Value → Shared → Prop) (s:Shared) (m:Str → Option Value) (news:ay) (ρ : b9) (f:Fm) (Hh:H) (fl:Fl) (f':Fm) (H':H),
  Fr h₀ L s.heap m → News h₀ L s.heap news → Rel prog w cl K news ρ Hh → FRel K news ρ ns env m f → CellI news ρ env → c f Hh = some (fl,f',H') → wpAny (model prog w) A t (SP prog w cl K h₀ L ns env news ρ fl f' H' s) E s
theorem SS.no {t:Sem Flow}:SS prog w cl K h₀ L A ns env iZ t:=fun _ _ _ _ _ _ _ _ _ _ _ _ _ _ _ hc => by cases hc
theorem SS.step {c:Sx} {t:Sem Flow} {Q:Flow → Shared → Prop} {f f':Fm} {fl:Fl} (h:SS prog w cl K h₀ L A ns env c t) (F:Fr h₀ L s.heap m) (N:News h₀ L s.heap news) (R:Rel prog w cl K news ρ Hh) (FR:FRel K news ρ ns env m f) (CI:CellI news ρ env) (hc:c f Hh = some (fl,f',H'))
  (k:∀ flow h' tk' news' ρ' m',Fr h₀ L h' m' → News h₀ L h' news' → Rel prog w cl K news' ρ' H' → Ext (own env) ρ ρ' news news' → FRel K news' ρ' ns env m' f' → CellI news' ρ' env → Hr K news' ρ' flow fl → Q flow { s with heap:=h',toks:=tk' }):wpAny (model prog w) A t Q E s:=
 wpAny_mono (h E s m news ρ f Hh fl f' H' F N R FR CI hc) (fun flow s' ⟨h',tk',news',ρ',m',e,F',N',R',x,FR',CI',hf⟩ => by subst e; exact k flow h' tk' news' ρ' m' F' N' R' x FR' CI' hf) fun _ _ x => x
theorem SP.ofs {fl:Fl} {f':Fm} {flow:Flow} {h':Heap} {tk:Tok} {m':Str → Option Value} (F:Fr h₀ L h' m') (N:News h₀ L h' news') (R:Rel prog w cl K news' ρ' H') (x:Ext (own env) ρ ρ' news news') (FR:FRel K news' ρ' ns env m' f') (CI:CellI news' ρ' env) (hf:Hr K news' ρ' flow fl) :
  SP prog w cl K h₀ L ns env news ρ fl f' H' s flow { s with heap:=h',toks:=tk }:=⟨h',tk,news',ρ',m',rfl,F,N,R,x,FR,CI,hf⟩
theorem SP.aft {fl:Fl} {f':Fm} {flow:Flow} {h₁ : Heap} {tk₁ : Tok} {s':Shared} (x:Ext (own env) ρ ρ' news news') (p:SP prog w cl K h₀ L ns env news' ρ' fl f' H' { s with heap:=h₁,toks:=tk₁ } flow s'):SP prog w cl K h₀ L ns env news ρ fl f' H' s flow s':=by
 obtain ⟨h',tk',n',ρ'',m',e,F',N',R',x',FR',CI',hf⟩:=p
 exact ⟨h',tk',n',ρ'',m',e,F',N',R',x.trans x',FR',CI',hf⟩
theorem Ext.up (x:Ext [] ρ ρ' news news'):Ext (Mine.own env) ρ ρ' news news':=x.mono fun _ h => nomatch h
theorem pZ {x:Str} {i:Nat} (h:fC ns x = some i):aJ ns x = some (i,.local) ∨ aJ ns x = some (i,.cell):=by
 unfold fC at h
 cases hk:aJ ns x with
 | none => rw [hk] at h; cases h
 | some p =>
  obtain ⟨j,k⟩:=p
  rw [hk] at h
  cases k <;> first | (cases h; exact .inl rfl) | (cases h; exact .inr rfl) | cases h
theorem iw {x y:Str} {i:Nat} {k k':NameKind} (h:aJ ns x = some (i,k)) (h':aJ ns y = some (i,k')):x = y ∧ k = k':=by
 haveI:=(aE h).2.symm.trans (aE h').2
 exact Prod.mk.inj (Option.some.inj this)
theorem cL {x:Str} {i:Nat} {v:Value} {y:V} {f:Fm} {Q:Unit → Shared → Prop} (ok:jh ns env L) (cs:fg env) (hi:fC ns x = some i) (F:Fr h₀ L s.heap m) (N:News h₀ L s.heap news) (R:Rel prog w cl K news ρ Hh) (FR:FRel K news ρ ns env m f) (CI:CellI news ρ env) (hv:VR K news ρ v y)
  (k:∀ h' tk' news' m',Fr h₀ L h' m' → News h₀ L h' news' → Rel prog w cl K news' ρ Hh → Ext (own env) ρ ρ news news' → FRel K news' ρ ns env m' (upd f i y) → CellI news' ρ env → (∃ b,(b = L ∨ b ∈ own env) ∧ Heap.SameBut b s.heap h' ∧ ∀ p ∈ news',p.1 ∈ news.map (·.1)) → Q () { s with heap:=h',toks:=tk' }) :
  wpAny (model prog w) A (storeName env x v) Q E s:=by
 rcases pZ hi with hx | hx
 ·refine wpAny_storeName_local (m:=m) (ok.loc _ _ hx) (by rw [ok.locals]; exact F.ns) (fun h' hn hs => ?_) (by rw [ok.kind]; rfl)
  rw [ok.locals] at hn hs
  refine k h' _ news _ (F.set hn hs) (N.set hs) R (.refl _ _ _) (fun z j kz u hz hu => ?_) CI ⟨L,.inl rfl,hs,fun p hp => List.mem_map_of_mem hp⟩
  unfold upd at hu
  by_cases hj:j = i
  ·subst hj
   rw [if_pos rfl] at hu; cases hu
   obtain ⟨rfl,rfl⟩:=iw hz hx
   exact ⟨ok.loc _ _ hz,v,by simp,hv⟩
  ·rw [if_neg hj] at hu
   haveI q:=FR z j kz u hz hu
   cases kz with
   | «local» =>
    obtain ⟨a,v',b,c⟩:=q
    refine ⟨a,v',?_,c⟩
    haveI:z ≠ x:=fun e => by subst e; rw [hx] at hz; cases hz; exact hj rfl
    simp only [this,if_false]; exact b
   | _ => exact q
 ·obtain ⟨_,c,hc⟩:=ok.cells _ _ _ hx (.inl rfl)
  have hcm:=bg hc
  obtain ⟨o,w0,h1,h2,h3⟩:=CI _ hcm
  refine wpAny_storeName_cell ok.kind (ok.cellK _ _ hx) hc ⟨o,(N _ h1).1,h2⟩ fun h' hcell hs => ?_
  obtain ⟨o',ho',hd'⟩:=hcell
  obtain ⟨F',N'⟩:=d6 F N h1 hs ho'
  haveI nf:¬ bG o:=fH h2
  have xt:Ext (own env) ρ ρ news (repl c o' news):=Ext.side R h1 nf (List.mem_map_of_mem (f:=(·.2)) hcm)
  refine k h' s.toks _ m F' N' (R.side h3 h1 nf) xt (fun z j kz u hz hu => ?_) (fun p hp => ?_) ⟨c,.inr (List.mem_map_of_mem (f:=(·.2)) hcm),hs,fun p hp => by rw [← fY c o' news]; exact List.mem_map_of_mem hp⟩
  ·unfold upd at hu
   by_cases hj:j = i
   ·subst hj
    rw [if_pos rfl] at hu; cases hu
    obtain ⟨rfl,rfl⟩:=iw hz hx
    exact ⟨.inl (ok.cellK _ _ hz),c,o',v,hc,dv h1,hd',hv.ext xt,h3⟩
   ·rw [if_neg hj] at hu
    haveI q:=FR z j kz u hz hu
    haveI move:AI K news ρ env z u → AI K (repl c o' news) ρ env z u:=by
     rintro ⟨a,c2,o2,v2,b1,b2,b3,b4,b5⟩
     refine ⟨a,c2,o2,v2,b1,bT b2 fun e => ?_,b3,b4.ext xt,b5⟩
     haveI:=pD cs.n2 (bg b1) hcm e
     haveI hzx:z = x:=(Prod.mk.inj this).1
     subst hzx; rw [hx] at hz; cases hz; exact hj rfl
    cases kz with
    | «local» => obtain ⟨a,v',b,d⟩:=q; exact ⟨a,v',b,d.ext xt⟩
    | cell => exact move q
    | free => exact move q
    | _ => trivial
  ·obtain ⟨ob,w2,a,b,d⟩:=CI p hp
   by_cases e:p.2 = c
   ·rw [e]; exact ⟨o',_,dv h1,hd',h3⟩
   ·exact ⟨ob,w2,bT a e,b,d⟩
end
end
section
open PySem PySem.W PySem.Calls PyProof.Rows
section
variable {prog:Program} {w:World} {cl:Str → Option Addr} {K:Frag} {fval:Str → Option Value} {h₀ : Heap} {L:Addr} {m:Str → Option Value} {news news':ay} {ρ ρ':b9} {s s₁ : Shared} {A:Around} {E:Value → Shared → Prop} {Hh H':H} {ns:aK} {env:Env} {g:G}
theorem yw {x:Str} {i:Nat} {y:V} {f:Fm} {Q:Value → Shared → Prop} (ok:jh ns env L) (hi:fC ns x = some i) (F:Fr h₀ L s.heap m) (N:News h₀ L s.heap news) (FR:FRel K news ρ ns env m f) (hy:f i = some y)
  (k:∀ v,VR K news ρ v y → Q v s):wpAny (model prog w) A (loadName env x) Q E s:=by
 rcases pZ hi with hx | hx
 ·obtain ⟨hl,v',hm,hv⟩:=FR x _ _ _ hx hy
  exact wpAny_loadName_local ok.kind hl (by rw [ok.locals]; exact F.ns) hm (k _ hv)
 ·obtain ⟨_,c,o,v',hc,hm,ho,hv,_⟩:=FR x _ _ _ hx hy
  exact wpAny_loadName_cell ok.kind (ok.cellK _ _ hx) hc ⟨o,N.get hm,ho⟩ (k _ hv)
noncomputable def qU:PySem.Expr → Bool
 | .ListComp _ _ _ _ => false
 | .SetComp _ _ _ _ => false
 | .DictComp _ _ _ _ _ => false
 | _ => true
theorem lj {e:PySem.Expr} {t:Option PySem.Expr} {l:Nat} (h:qU e = true):swapsWith e t l env = pure false:=by
 cases e <;> first | rfl | cases h
theorem yh {e:PySem.Expr} (h:El e = true):qU e = true:=by
 cases e <;> first | rfl | cases h
theorem yu {e:PySem.Expr} {x:Str} {l:Nat} (h:qU e = false) (c:qz ns x l e = true):∃ elt gs sc p,e = .ListComp elt gs sc p:=by
 cases e <;> first | exact ⟨_,_,_,_,rfl⟩ | (cases h; done) | (cases c; done)
theorem xy {x:Str} {i:Nat} {px pos} {e:PySem.Expr} {a:Ex} (ok:jh ns env L) (cs:fg env) (hi:fC ns x = some i) (hs:swapsWith e (some (.Name x px)) pos.line env = pure false) (ha:SE prog w cl K h₀ L A ns env a (eval e env)) :
  SS prog w cl K h₀ L A ns env (aj i a) (exec (.Assign [.Name x px] e pos) env):=by
 intro E s m news ρ f Hh fl f' H' F N R FR CI hc
 obtain ⟨y,H1,hy,hc⟩:=bnd2 hc
 cases hc
 refine wpAny_Assign_Name (ha.step F N R FR hy fun v₁ h₁ t₁ n₁ ρ₁ F1 N1 R1 x1 hv1 FR1 => ?_) hs
 exact cL (s:={ s with heap:=h₁,toks:=t₁ }) ok cs hi F1 N1 R1 FR1 (CI.ext x1) hv1 fun h₂ t₂ n₂ m₂ F2 N2 R2 x2 FR2 CI2 _ => SP.ofs F2 N2 R2 (x1.up.trans x2) FR2 CI2 rfl
theorem mB {elt iter:PySem.Expr} {x y:Str} {px py pos spos:Pos} {ifs:List PySem.Expr} {sc:Scope} {ct:PySem.Expr → Tx} {ce ci:Ex} {i j:Nat}
  (hh:A.handled = none) (c:CompOk ns sc x) (ok:jh ns env L) (cs:fg env) (B:Base K h₀) (hi:cq sc.names x = some i) (hset:∀ a b c,iter ≠ .Set a b c)
  (hj:fC ns y = some j) (hl:qe ns y = true) (hline:(py.line == pos.line) = true) (hnot:(sc.names.any fun (n,k) => n == y && (k == .local || k == .cell)) = false)
  (hit:SE prog w cl K h₀ L A ns env ci (eval iter env))
  (ih:∀ (g:Heap) (C:Addr),Base K g → (∀ q ∈ ifs,ST prog w cl K g C A sc.names (cC sc C env) (ct q) (isTrue q (cC sc C env) (eval q (cC sc C env)))) ∧ SE prog w cl K g C A sc.names (cC sc C env) ce (eval elt (cC sc C env))) :
  SS prog w cl K h₀ L A ns env (aj j (dz i (fz ns sc.names) ci (cb (ifs.map ct)) ce)) (exec (.Assign [.Name y py] (.ListComp elt [⟨.Name x px,iter,ifs,0⟩] sc pos) spos) env):=by
 intro E s m news ρ f Hh fl f' H' F N R FR CI hc
 obtain ⟨vv,HH,hc0,hcc⟩:=bnd2 hc
 cases hcc
 obtain ⟨src,H1,h1,hc⟩:=bnd2 hc0
 obtain ⟨items,h2,hc⟩:=bnd1 hc
 obtain ⟨j',hj'⟩:=n9 hl
 split at hc
 ·rename_i hlen
  obtain ⟨zt,Hf,h3,hc⟩:=bnd2 hc
  cases hc
  haveI hsw:swapsWith (.ListComp elt [⟨.Name x px,iter,ifs,0⟩] sc pos) (some (.Name y py)) spos.line env = pure true:=by
   show (pure (env.blockKind == .function && env.kindOf y == some .local && py.line == pos.line && !(sc.names.any fun (n,k) => n == y && (k == .local || k == .cell))):Sem Bool) = _
   rw [ok.loc _ _ hj',hline,hnot]
   haveI:env.blockKind = .function:=by unfold Env.blockKind; rw [ok.kind]; rfl
   rw [this]; rfl
  rw [exec_Assign_Name_used _ _ _ _ hsw]
  refine wpAny_bind (wpAny_standAt (wpAny_bind ?_))
  show wpAny _ A (do let _ ← comprehension (.ListComp elt [⟨.Name x px,iter,ifs,0⟩] sc pos) sc env _ (newList []) false (eval iter env) (some (assign (.Name y py) env))) _ _ s
  refine wpAny_bind (wpAny_mono (Q:=fun _ s' => SP prog w cl K h₀ L ns env news ρ .next (upd f j (.ref Hf.length)) (Hf ++ [.list zt]) s .next s') (wpAny_comprehension_free (use:=some (assign (.Name y py) env)) (cl:=dZ env sc.names []) rfl (mh hset) (wJ fun y hy => (c.cells ok y hy).2) c.kind (fun p hp e => c.locs p hp e)
   (hit.step F N R FR h1 fun v₁ h₁ t₁ n₁ ρ₁ F1 N1 R1 x1 hv1 FR1 => ?_)) (fun _ s' hq => wpAny_pure (wpAny_pure hq)) fun _ _ e => e)
  refine pI (s:={ s with heap:=h₁,toks:=t₁ }) (RR:=fun acc C => compPost (model prog w) A E (some (assign (.Name y py) env)) (fun _ s' => SP prog w cl K h₀ L ns env news ρ .next (upd f j (.ref Hf.length)) (Hf ++ [.list zt]) s .next s') acc C) hh c ok B hi ih F1 N1 R1 FR1 hv1 h2 hlen h3 fun D C h' tk n' ρ' m' F2 N2 R2 x2 hv2 hn hCL hC0 hCn => ?_
  show wpAny _ A (assign (.Name y py) env (.ref D)) _ _ _
  haveI CI2:=(CI.ext x1).ext x2
  refine wpAny_assign_Name (cL (s:={ s with heap:=h',toks:=tk }) ok cs hj F2 N2 R2 (FR1.ext x2) CI2 hv2 fun h₃ t₃ n₃ m₃ F3 N3 R3 x3 FR3 CI3 hb => ?_)
  obtain ⟨b,hb,hs3,hn3⟩:=hb
  haveI hCb:C ≠ b:=fun e => by
   rcases hb with hb | hb
   ·exact hCL (e.trans hb)
   ·obtain ⟨p,hp,hpe⟩:=List.mem_map.mp hb
    obtain ⟨o,w',q1,_⟩:=CI2 p hp
    exact hCn _ q1 (hpe.trans e.symm)
  refine ⟨m',hn.sameBut hs3 hCb,fun h'' hs => ?_⟩
  haveI hCn3:∀ p ∈ n₃,p.1 ≠ C:=fun p hp e => by
   obtain ⟨q,hq,hqe⟩:=List.mem_map.mp (hn3 p hp)
   exact hCn q hq (hqe.trans e)
  exact SP.ofs (F3.change hs hCL hC0) (fun p hp => ⟨(hs.2 _ (hCn3 p hp)).trans (N3 p hp).1,(N3 p hp).2⟩) R3 ((x1.trans x2).up.trans x3) FR3 CI3 rfl
 ·cases hc
theorem pV {o e:PySem.Expr} {x:Str} {p} {l:Nat}:swapsWithSole [.Attribute o x p] e l env = pure false:=by cases e <;> rfl
theorem jB {o e:PySem.Expr} {x:Str} {p}:swappedStores [.Attribute o x p] e env = pure none:=by cases e <;> rfl
theorem vB {o e:PySem.Expr} {x:Str} {p pos} {a b:Ex} (hA:lS cl K) (B:Base K h₀) (ha:SE prog w cl K h₀ L A ns env a (eval e env)) (hb:SE prog w cl K h₀ L A ns env b (eval o env)) :
  SS prog w cl K h₀ L A ns env (a8 b x a) (exec (.Assign [.Attribute o x p] e pos) env):=by
 intro E s m news ρ f Hh fl f' H' F N R FR CI hc
 obtain ⟨y,H1,hy,hc⟩:=bnd2 hc
 obtain ⟨z,H2,hz,hc⟩:=bnd2 hc
 obtain ⟨H3,h3,e⟩:=mpd hc
 cases e
 refine wpAny_Assign_stores (ha.step F N R FR hy fun v₁ h₁ t₁ n₁ ρ₁ F1 N1 R1 x1 hv1 FR1 => ?_) pV jB
 show wpAny _ A (assign (.Attribute o x p) env v₁) _ _ _
 rw [arm_assign_Attribute]
 refine wpAny_bind (wpAny_holding (hb.step (s:={ s with heap:=h₁,toks:=t₁ }) F1 N1 R1 FR1 hz fun v₂ h₂ t₂ n₂ ρ₂ F2 N2 R2 x2 hv2 FR2 => ?_))
 refine wpAny_bind (wpAny_standAt (wpAny_bind (wpAny_holding (wpAny_mono (hJ (s:={ s with heap:=h₂,toks:=t₂ }) hA B.X F2 N2 R2 hv2 (hv1.ext x2) h3) (fun _ s' p => ?_) fun _ _ e => e))))
 obtain ⟨h',tk',n',rfl,F3,N3,R3,x3⟩:=p
 exact wpAny_release (SP.ofs F3 N3 R3 ((x1.trans x2).trans x3).up (FR2.ext x3) (((CI.ext x1).ext x2).ext x3) rfl)
theorem xz {o i e:PySem.Expr} {p pos} {a b c:Ex} (ha:SE prog w cl K h₀ L A ns env a (eval e env)) (hb:SE prog w cl K h₀ L A ns env b (eval o env)) (hi:SE prog w cl K h₀ L A ns env c (eval i env)) :
  SS prog w cl K h₀ L A ns env (bB b c a) (exec (.Assign [.Subscript o i p] e pos) env):=by
 intro E s m news ρ f Hh fl f' H' F N R FR CI hc
 obtain ⟨y,H1,hy,hc⟩:=bnd2 hc
 obtain ⟨z,H2,hz,hc⟩:=bnd2 hc
 obtain ⟨u,H3,hu,hc⟩:=bnd2 hc
 obtain ⟨H4,h3,e⟩:=mpd hc
 cases e
 refine wpAny_Assign_Subscript (ha.step F N R FR hy fun v₁ h₁ t₁ n₁ ρ₁ F1 N1 R1 x1 hv1 FR1 => ?_) (by cases e <;> rfl)
 refine hb.step (s:={ s with heap:=h₁,toks:=t₁ }) F1 N1 R1 FR1 hz fun v₂ h₂ t₂ n₂ ρ₂ F2 N2 R2 x2 hv2 FR2 => ?_
 refine hi.step (s:={ s with heap:=h₂,toks:=t₂ }) F2 N2 R2 FR2 hu fun v₃ h₃ t₃ n₃ ρ₃ F3 N3 R3 x3 hv3 FR3 => ?_
 refine wpAny_mono (i3 (s:={ s with heap:=h₃,toks:=t₃ }) F3 N3 R3 (hv2.ext x3) hv3 ((hv1.ext x2).ext x3) h3) (fun _ s' p => ?_) fun _ _ e => e
 obtain ⟨h',tk',n',rfl,F4,N4,R4,x4⟩:=p
 exact SP.ofs F4 N4 R4 (((x1.trans x2).trans x3).trans x4).up (FR3.ext x4) ((((CI.ext x1).ext x2).ext x3).ext x4) rfl
theorem vx {x:Str} {i:Nat} {px pos} {op:Operator} {e:PySem.Expr} {a:Ex} (ok:jh ns env L) (cs:fg env) (hi:fC ns x = some i) (ha:SE prog w cl K h₀ L A ns env a (eval e env)) :
  SS prog w cl K h₀ L A ns env (aF i op a) (exec (.AugAssign (.Name x px) op e pos) env):=by
 intro E s m news ρ f Hh fl f' H' F N R FR CI hc
 obtain ⟨old,ho,hc⟩:=bnd1 hc
 obtain ⟨y,H1,hy,hc⟩:=bnd2 hc
 dsimp only at hc
 split at hc
 ·obtain ⟨z,hz,e⟩:=mpd hc
  cases e
  refine wpAny_AugAssign_Name (yw ok hi F N FR ho fun v hv => ?_)
  refine ha.step F N R FR hy fun v₁ h₁ t₁ n₁ ρ₁ F1 N1 R1 x1 hv1 FR1 => ?_
  obtain ⟨t,rfl⟩:=hv
  obtain ⟨u,rfl⟩:=hv1
  refine iX hz fun tk => ?_
  exact cL (s:={ s with heap:=h₁,toks:=t₁ + 1 }) ok cs hi F1 N1 R1 FR1 (CI.ext x1) (y:=.int z) ⟨_,rfl⟩ fun h₂ t₂ n₂ m₂ F2 N2 R2 x2 FR2 CI2 _ => SP.ofs F2 N2 R2 (x1.up.trans x2) FR2 CI2 rfl
 ·cases hc
theorem vG {o e:PySem.Expr} {x:Str} {p pos} {op:Operator} {a b:Ex} (hA:lS cl K) (B:Base K h₀) (ha:SE prog w cl K h₀ L A ns env a (eval e env)) (hb:SE prog w cl K h₀ L A ns env b (eval o env)) :
  SS prog w cl K h₀ L A ns env (bh b x op a) (exec (.AugAssign (.Attribute o x p) op e pos) env):=by
 intro E s m news ρ f Hh fl f' H' F N R FR CI hc
 obtain ⟨y,H1,hy,hc⟩:=bnd2 hc
 obtain ⟨old,ho,hc⟩:=bnd1 hc
 obtain ⟨z,H2,hz,hc⟩:=bnd2 hc
 dsimp only at hc
 split at hc
 ·obtain ⟨q,hq,hc⟩:=bnd1 hc
  obtain ⟨H3,h3,e⟩:=mpd hc
  cases e
  refine wpAny_AugAssign_AttributeAny (hb.step F N R FR hy fun v₁ h₁ t₁ n₁ ρ₁ F1 N1 R1 x1 hv1 FR1 => ?_)
  refine ig (s:={ s with heap:=h₁,toks:=t₁ }) hA B.X F1 N1 R1 hv1 ho fun v₂ t₂ hv2 => ?_
  refine ha.step (s:={ s with heap:=h₁,toks:=t₂ }) F1 N1 R1 FR1 hz fun v₃ h₃ t₃ n₃ ρ₃ F3 N3 R3 x3 hv3 FR3 => ?_
  obtain ⟨t,rfl⟩:=hv2
  obtain ⟨u,rfl⟩:=hv3
  refine iX hq fun tk => ?_
  refine wpAny_mono (hJ (s:={ s with heap:=h₃,toks:=t₃ + 1 }) hA B.X F3 N3 R3 (hv1.ext x3) (y:=.int q) ⟨_,rfl⟩ h3) (fun _ s' p => ?_) fun _ _ e => e
  obtain ⟨h',tk',n',rfl,F4,N4,R4,x4⟩:=p
  exact SP.ofs F4 N4 R4 ((x1.trans x3).trans x4).up (FR3.ext x4) (((CI.ext x1).ext x3).ext x4) rfl
 ·cases hc
theorem oJ {id:Nat} {i x:V} {vo vi:Value} {Q:Value → Shared → Prop} (N:News h₀ L s.heap news) (R:Rel prog w cl K news ρ Hh) (ho:VR K news ρ vo (.ref id)) (hi:VR K news ρ vi i)
  (e:aO (.ref id) i Hh = some x) (h:∀ v tk,VR K news ρ v x → Q v { s with toks:=tk }):wpAny (model prog w) A (getItem vo vi) Q E s:=by
 obtain ⟨a,d,rfl,ha⟩:=ho
 replace e:tW Hh[id]? i = some x:=e
 unfold tW at e
 split at e <;> try (cases e; done)
 ·rename_i vs hl
  split at e <;> try (cases e; done)
  ·obtain ⟨t,rfl⟩:=hi
   split at e
   ·rename_i hk
    obtain ⟨ob,us,m1,m2,m3,_,_⟩:=R.list hl ha
    obtain ⟨v,hv,hr⟩:=m3.get e
    exact wpAny_getItem_list (bv N m1 m2) hk.1 (by omega) (by simpa using hv) (h v s.toks hr)
   ·cases e
 ·rename_i es hl
  split at e <;> try (cases e; done)
  ·obtain ⟨t,rfl⟩:=hi
   obtain ⟨_,ob,kvs,m1,m2,m3⟩:=R.obj _ _ _ ha hl
   haveI hd:=m2.at_ s.heap a (N _ m1).1
   obtain ⟨v,hv,hr⟩:=qr m3 e
   exact wpAny_getItem_of (strKind_is prog w _ t) hd.mapOf hv (h v _ hr)
theorem xP {o i e:PySem.Expr} {p pos} {op:Operator} {a b c:Ex} (hns:gu i = true) (ha:SE prog w cl K h₀ L A ns env a (eval e env)) (hb:SE prog w cl K h₀ L A ns env b (eval o env)) (hi:SE prog w cl K h₀ L A ns env c (eval i env)) :
  SS prog w cl K h₀ L A ns env (co b c op a) (exec (.AugAssign (.Subscript o i p) op e pos) env):=by
 intro E s m news ρ f Hh fl f' H' F N R FR CI hc
 obtain ⟨y,H1,hy,hc⟩:=bnd2 hc
 obtain ⟨k,H2,hk,hc⟩:=bnd2 hc
 obtain ⟨old,ho,hc⟩:=bnd1 hc
 obtain ⟨z,H3,hz,hc⟩:=bnd2 hc
 dsimp only at hc ho
 split at hc
 ·obtain ⟨q,hq,hc⟩:=bnd1 hc
  obtain ⟨H4,h4,e⟩:=mpd hc
  cases e
  refine wpAny_AugAssign_SubscriptAny (hb.step F N R FR hy fun v₁ h₁ t₁ n₁ ρ₁ F1 N1 R1 x1 hv1 FR1 => ?_) (by intro ov iv new; cases i <;> first | rfl | cases hns)
  refine hi.step (s:={ s with heap:=h₁,toks:=t₁ }) F1 N1 R1 FR1 hk fun v₂ h₂ t₂ n₂ ρ₂ F2 N2 R2 x2 hv2 FR2 => ?_
  haveI hid:∃ id,y = .ref id:=by
   unfold cy at h4
   cases y <;> first | exact ⟨_,rfl⟩ | cases h4
  obtain ⟨id,rfl⟩:=hid
  refine oJ (s:={ s with heap:=h₂,toks:=t₂ }) N2 R2 (hv1.ext x2) hv2 ho fun v₃ t₃ hv3 => ?_
  refine ha.step (s:={ s with heap:=h₂,toks:=t₃ }) F2 N2 R2 FR2 hz fun v₄ h₄ t₄ n₄ ρ₄ F4 N4 R4 x4 hv4 FR4 => ?_
  obtain ⟨t,rfl⟩:=hv3
  obtain ⟨u,rfl⟩:=hv4
  refine iX hq fun tk => ?_
  refine wpAny_mono (i3 (s:={ s with heap:=h₄,toks:=t₄ + 1 }) F4 N4 R4 ((hv1.ext x2).ext x4) (hv2.ext x4) (v:=.int q) ⟨_,rfl⟩ h4) (fun _ s' p => ?_) fun _ _ e => e
  obtain ⟨h',tk',n',rfl,F5,N5,R5,x5⟩:=p
  exact SP.ofs F5 N5 R5 (((x1.trans x2).trans x4).trans x5).up (FR4.ext x5) ((((CI.ext x1).ext x2).ext x4).ext x5) rfl
 ·cases hc
theorem CF {e:PySem.Expr} {pos} {a:Ex} (ok:jh ns env L) (hs:swapsWith e none pos.line env = pure false) (ha:SE prog w cl K h₀ L A ns env a (eval e env)):SS prog w cl K h₀ L A ns env (au a) (exec (.Expr e pos) env):=by
 intro E s m news ρ f Hh fl f' H' F N R FR CI hc
 obtain ⟨y,H1,hy,hc⟩:=bnd2 hc
 dsimp only at hc
 split at hc
 ·cases hc
 ·rename_i hr
  cases hc
  refine wpAny_Expr (ha.step F N R FR hy fun v₁ h₁ t₁ n₁ ρ₁ F1 N1 R1 x1 hv1 FR1 => ?_) (by unfold interactive; rw [ok.kind]; rfl) hs
  have fin:SP prog w cl K h₀ L ns env news ρ .next f _ s .next { s with heap:=h₁,toks:=t₁ }:=SP.ofs F1 N1 R1 x1.up FR1 (CI.ext x1) rfl
  cases y with
  | none => cases hv1; exact fin
  | bool b => cases hv1; exact fin
  | int b => obtain ⟨t,rfl⟩:=hv1; exact fin
  | str b => obtain ⟨t,rfl⟩:=hv1; exact fin
  | _ => exact absurd rfl hr
theorem Dc {e:PySem.Expr} {pos} {a:Ex} (ha:SE prog w cl K h₀ L A ns env a (eval e env)):SS prog w cl K h₀ L A ns env (aw a) (exec (.Return (some e) pos) env):=by
 intro E s m news ρ f Hh fl f' H' F N R FR CI hc
 obtain ⟨⟨y,H1⟩,hy,e⟩:=Option.map_eq_some_iff.mp hc
 cases e
 exact wpAny_Return_some (ha.step F N R FR hy fun v₁ h₁ t₁ n₁ ρ₁ F1 N1 R1 x1 hv1 FR1 => SP.ofs F1 N1 R1 x1.up FR1 (CI.ext x1) ⟨_,rfl,hv1⟩)
theorem B6 {pos}:SS prog w cl K h₀ L A ns env xi (exec (.Return none pos) env):=by
 intro E s m news ρ f Hh fl f' H' F N R FR CI hc
 cases hc
 exact wpAny_Return_none (SP.ofs F N R (.refl _ _ _) FR CI ⟨_,rfl,rfl⟩)
theorem A0 {pos}:SS prog w cl K h₀ L A ns env zE (exec (.Pass pos) env):=by
 intro E s m news ρ f Hh fl f' H' F N R FR CI hc
 cases hc
 exact wpAny_Pass (SP.ofs F N R (.refl _ _ _) FR CI rfl)
theorem og {ds:Stmt → Sx}:∀ {l:List Stmt},(∀ st ∈ l,SS prog w cl K h₀ L A ns env (ds st) (exec st env)) → SS prog w cl K h₀ L A ns env (ag (l.map ds)) (execs l env)
 | [],_ => fun E s m news ρ f Hh fl f' H' F N R FR CI hc => by
  cases hc
  exact wpAny_execs_nil (SP.ofs F N R (.refl _ _ _) FR CI rfl)
 | x :: r,h => fun E s m news ρ f Hh fl f' H' F N R FR CI hc => by
  haveI ih:=og (l:=r) fun e he => h e (.tail _ he)
  obtain ⟨fl1,⟨f1,H1⟩,hx,hc⟩:=bnd2 hc
  refine wpAny_execs_cons ((h x (.head _)).step F N R FR CI hx fun flow h₁ t₁ n₁ ρ₁ m₁ F1 N1 R1 x1 FR1 CI1 hf => ?_)
  cases fl1 with
  | next =>
   cases hf
   exact wpAny_mono (ih E _ m₁ n₁ ρ₁ f1 H1 fl f' H' F1 N1 R1 FR1 CI1 hc) (fun _ _ p => SP.aft x1 p) fun _ _ e => e
  | ret v =>
   obtain ⟨v',rfl,hv⟩:=hf
   cases hc
   exact SP.ofs F1 N1 R1 x1 FR1 CI1 ⟨_,rfl,hv⟩
theorem FF {t:PySem.Expr} {a b:List Stmt} {pos} {c:Tx} {sa sb:Sx} (ht:ST prog w cl K h₀ L A ns env c (isTrue t env (eval t env))) (ha:SS prog w cl K h₀ L A ns env sa (execs a env)) (hb:SS prog w cl K h₀ L A ns env sb (execs b env)) :
  SS prog w cl K h₀ L A ns env (aU c sa sb) (exec (.If t a b pos) env):=by
 intro E s m news ρ f Hh fl f' H' F N R FR CI hc
 obtain ⟨y,H1,hy,hc⟩:=bnd2 hc
 refine wpAny_If (ht.step F N R FR hy fun h₁ t₁ n₁ ρ₁ F1 N1 R1 x1 FR1 => ?_)
 cases y
 ·exact wpAny_mono (hb E _ m n₁ ρ₁ f H1 fl f' H' F1 N1 R1 FR1 (CI.ext x1) hc) (fun _ _ p => SP.aft x1.up p) fun _ _ e => e
 ·exact wpAny_mono (ha E _ m n₁ ρ₁ f H1 fl f' H' F1 N1 R1 FR1 (CI.ext x1) hc) (fun _ _ p => SP.aft x1.up p) fun _ _ e => e
end
end
section
open PySem PySem.W PySem.Calls PyProof.Rows
section
variable {prog:Program} {w:World} {cl:Str → Option Addr} {K:Frag} {fval:Str → Option Value} {h₀ : Heap} {L:Addr} {m:Str → Option Value} {news news':ay} {ρ ρ':b9} {s s₁ : Shared} {A:Around} {E:Value → Shared → Prop} {Hh H':H} {ns:aK} {env:Env} {g:G}
inductive HT (prog:Program) (w:World) (cl:Str → Option Addr) (K:Frag) (h₀ : Heap) (L:Addr) (ns:aK) (env:Env) (src:V) (H1:H) (T:List V → Fm → H → Prop) (items:List V) (I:Addr) (ρ₁ : b9) (n₁ : ay) (s:Shared) (n:Nat) (st:Shared):Prop
 | mk (pre rest:List V) (h:Heap) (tk:Tok) (n1:ay) (ρ1:b9) (m1:Str → Option Value) (f1:Fm) (H2:H) (e:st = { s with heap:=h,toks:=tk }) (e2:rest.length = n) (e3:items = pre ++ rest) (F:Fr h₀ L h m1) (N:News h₀ L h n1) (R:Rel prog w cl K n1 ρ1 H2) (xt:Ext (I :: own env) ρ₁ ρ1 n₁ n1) (FR:FRel K n1 ρ1 ns env m1 f1) (CI:CellI n1 ρ1 env) (it:ItAt n1 ρ1 I pre.length src) (hst:stays src H1 H2 = true) (hc:T rest f1 H2)
inductive Il (prog:Program) (w:World) (cl:Str → Option Addr) (K:Frag) (h₀ : Heap) (L:Addr) (ns:aK) (env:Env) (c:Tx) (sb:Sx) (ρ : b9) (news:ay) (s:Shared) (fl:Fl) (f':Fm) (H':H) (n:Nat) (st:Shared):Prop
 | mk (h:Heap) (tk:Tok) (n1:ay) (ρ1:b9) (m1:Str → Option Value) (f1:Fm) (H1:H) (e:st = { s with heap:=h,toks:=tk }) (F:Fr h₀ L h m1) (N:News h₀ L h n1) (R:Rel prog w cl K n1 ρ1 H1) (x:Ext (own env) ρ ρ1 news n1) (FR:FRel K n1 ρ1 ns env m1 f1) (CI:CellI n1 ρ1 env) (hc:bM c sb n f1 H1 = some (fl,f',H'))
theorem Af {t:PySem.Expr} {b:List Stmt} {pos} {c:Tx} {sb:Sx} {n:Nat} (ht:ST prog w cl K h₀ L A ns env c (isTrue t env (eval t env))) (hb:SS prog w cl K h₀ L A ns env sb (execs b env)) :
  SS prog w cl K h₀ L A ns env (bM c sb n) (exec (.While t b [] pos) env):=by
 intro E s m news ρ f Hh fl f' H' F N R FR CI hc
 refine Bn fun Q hQ => wpAny_While ?_
 refine Bc (P:=Il prog w cl K h₀ L ns env c sb ρ news s fl f' H') fun W mk un => ?_
 refine codeAny_whileLoop W ?_ n (mk _ _ ⟨s.heap,s.toks,news,ρ,m,f,Hh,rfl,F,N,R,.refl _ _ _,FR,CI,hc⟩)
 clear F N R FR CI hc
 intro n s1 hW
 obtain ⟨h,tk,n1,ρ1,m1,f1,H1,rfl,F,N,R,x,FR,CI,hc⟩:=un _ _ hW
 clear hW
 cases n with
 | zero => cases hc
 | succ n =>
  obtain ⟨y,H2,hy,hc⟩:=bnd2 hc
  refine ht.step (s:={ s with heap:=h,toks:=tk }) F N R FR hy fun h₂ t₂ n₂ ρ₂ F2 N2 R2 x2 FR2 => ?_
  cases y with
  | false =>
   cases hc
   exact wpAny_execs_nil (hQ _ _ (SP.ofs F2 N2 R2 (x.trans x2.up) FR2 (CI.ext x2) rfl))
  | true =>
   obtain ⟨fl1,⟨f2,H3⟩,hz,hc⟩:=bnd2 hc
   refine hb.step (s:={ s with heap:=h₂,toks:=t₂ }) F2 N2 R2 FR2 (CI.ext x2) hz fun flow h₃ t₃ n₃ ρ₃ m₃ F3 N3 R3 x3 FR3 CI3 hf => ?_
   cases fl1 with
   | next =>
    cases hf
    exact ⟨n,Nat.lt_succ_self _,mk _ _ ⟨h₃,t₃,n₃,ρ₃,m₃,f2,H3,rfl,F3,N3,R3,(x.trans x2.up).trans x3,FR3,CI3,hc⟩⟩
   | ret v =>
    obtain ⟨v',rfl,hv⟩:=hf
    cases hc
    exact hQ _ _ (SP.ofs F3 N3 R3 ((x.trans x2.up).trans x3) FR3 CI3 ⟨_,rfl,hv⟩)
theorem Ext.less {o o':List Addr} {extra:ay} (x:Ext o' ρ ρ' (extra ++ news) news') (h:∀ p ∈ news,p.1 ∈ o' → p.1 ∈ o):Ext o ρ ρ' news news':=
 ⟨x.pre,fun p hp hf => x.frz p (List.mem_append_right _ hp) hf,fun p hp h1 h2 => x.keep p (List.mem_append_right _ hp) h1 fun q => h2 (h p hp q),
  fun a ha => (x.fresh a ha).imp id fun h q => h (by rw [List.map_append]; exact List.mem_append_right _ q),fun a ha => x.adrs a (by rw [List.map_append]; exact List.mem_append_right _ ha)⟩
theorem Ext.lessD {I:Addr} {o o':List Addr} {extra:ay} (x:Ext o' ρ ρ' (extra ++ news) news') (h:∀ p ∈ news,p.1 ∈ o' → p.1 ∈ o) (hI:∀ p ∈ news,p.1 ≠ I):Ext o ρ ρ' news (db I news'):=
 ⟨x.pre,fun p hp hf => bf.mpr ⟨x.frz p (List.mem_append_right _ hp) hf,hI p hp⟩,fun p hp h1 h2 => bf.mpr ⟨x.keep p (List.mem_append_right _ hp) h1 fun q => h2 (h p hp q),hI p hp⟩,
  fun a ha => (x.fresh a ha).imp id fun h q => h (by rw [List.map_append]; exact List.mem_append_right _ q),fun a ha => by
  have:=x.adrs a (by rw [List.map_append]; exact List.mem_append_right _ ha)
  obtain ⟨q,hq,rfl⟩:=List.mem_map.mp this
  obtain ⟨p,hp,e⟩:=List.mem_map.mp ha
  exact List.mem_map_of_mem (bf.mpr ⟨hq,fun e' => hI p hp (e.trans e')⟩)⟩
theorem VR.drop {I:Addr} {ob:Obj} (nd:(news.map (·.1)).Nodup) (hm:(I,ob) ∈ news) (nf:¬ bG ob) {v:Value} {y:V} (h:VR K news ρ v y):VR K (db I news) ρ v y:=by
 haveI:=h.stay (τ:=[]) (news':=db I news) fun p hp hz => bf.mpr ⟨hp,fun e => nf (by obtain ⟨a,o⟩:=p; dsimp only at e; subst e; rw [ij nd hm hp]; exact hz)⟩
 simpa using this
theorem FRel.drop {I:Addr} {ob:Obj} {f:Fm} (nd:(news.map (·.1)).Nodup) (hm:(I,ob) ∈ news) (nf:¬ bG ob) (nc:∀ v,ob.data ≠ .cell v) (h:FRel K news ρ ns env m f):FRel K (db I news) ρ ns env m f:=by
 intro y i k v hk hv
 haveI z:=h y i k v hk hv
 cases k with
 | «local» => obtain ⟨z1,v',a,b⟩:=z; exact ⟨z1,v',a,b.drop nd hm nf⟩
 | cell | free =>
  obtain ⟨z1,c,o,v',a,b,d,e,g⟩:=z
  exact ⟨z1,c,o,v',a,bf.mpr ⟨b,fun e' => by dsimp only at e'; subst e'; rw [ij nd hm b] at nc; exact nc _ d⟩,d,e.drop nd hm nf,g⟩
 | _ => trivial
theorem CellI.drop {I:Addr} {ob:Obj} (nd:(news.map (·.1)).Nodup) (hm:(I,ob) ∈ news) (nc:∀ v,ob.data ≠ .cell v) (c:CellI news ρ env):CellI (db I news) ρ env:=fun p hp => by
 obtain ⟨o,w,a,b,d⟩:=c p hp
 exact ⟨o,w,bf.mpr ⟨a,fun e' => by
  obtain ⟨p1,p2⟩:=p
  dsimp only at e' a; subst e'; rw [ij nd hm a] at nc; exact nc _ b⟩,b,d⟩
theorem DE {x:Str} {i:Nat} {px pos} {it:PySem.Expr} {b:List Stmt} {a:Ex} {sb:Sx} (hh:A.handled = none) (ok:jh ns env L) (cs:fg env) (hi:fC ns x = some i) (hset:∀ a b c,it ≠ .Set a b c) (ha:SE prog w cl K h₀ L A ns env a (eval it env)) (hb:SS prog w cl K h₀ L A ns env sb (execs b env)) :
  SS prog w cl K h₀ L A ns env (bF i a sb) (exec (.For (.Name x px) it b [] pos) env):=by
 intro E s m news ρ f Hh fl f' H' F N R FR CI hc
 obtain ⟨src,H1,hy,hc⟩:=bnd2 hc
 obtain ⟨items,his,hc⟩:=bnd1 hc
 refine Bn fun Q hQ => wpAny_For (ha.step F N R FR hy fun v₁ h₁ t₁ n₁ ρ₁ F1 N1 R1 x1 hv1 FR1 => ?_) (mh hset)
 refine iM (s:={ s with heap:=h₁,toks:=t₁ }) F1 N1 R1 hv1 his fun I ob h₂ F2 N2 hfI it2 => ?_
 obtain ⟨R2,x2⟩:=cP R1 N2 hfI
 have CI1:=CI.ext x1
 have hIflat:I ∉ aY ρ₁:=fun q => by
  obtain ⟨o,ho,_⟩:=R1.inNews q
  exact hfI _ ho rfl
 have hIown:I ∉ own env:=fun q => by
  obtain ⟨p,hp,e⟩:=List.mem_map.mp q
  obtain ⟨o,w',h1,_⟩:=CI1 p hp
  exact hfI _ h1 e
 have hown:∀ p ∈ n₁,p.1 ∈ I :: own env → p.1 ∈ own env:=fun p hp q => (List.mem_cons.mp q).resolve_left (hfI p hp)
 refine Bc (P:=HT prog w cl K h₀ L ns env src H1 (fun r f H => bQ (fun h' => stays src H1 h') i sb r f H = some (fl,f',H')) items I ρ₁ ([(I,ob)] ++ n₁) s) fun W mk un => ?_
 refine codeAny_forLoop W ?_ items.length (mk _ _ ⟨[],items,h₂,t₁,_,ρ₁,m,f,H1,rfl,rfl,rfl,F2,N2,R2,.refl _ _ _,FR1.ext x2,CI1.ext x2,it2,iE _ _,hc⟩)
 clear F N R FR CI hc F2 N2 R2 FR1 CI1 it2 F1 N1 R1
 intro n s1 hW
 obtain ⟨pre,rest,h,tk,n1,ρ1,m1,f1,H2,rfl,rfl,hitems,F,N,R,xt,FR,CI,it,hst,hc⟩:=un _ _ hW
 clear hW
 have hI1:I ∉ aY ρ1:=cF xt hIflat (by simp)
 have hit:az src H2 = some items:=(gf hst).trans his
 obtain ⟨obI,hobI,nfI,ncI⟩:=it.entry
 cases rest with
 | nil =>
  cases hc
  refine sw (s:={ s with heap:=h,toks:=tk }) hh F N R it hI1 hit (by rw [hitems]; simp) fun h' F' N' R' => ?_
  exact wpAny_execs_nil (hQ _ _ (SP.ofs F' N' R' (x1.up.trans (xt.lessD hown hfI)) (FR.drop R.nd hobI nfI ncI) (CI.drop R.nd hobI ncI) rfl))
 | cons v rest =>
  have hx:items[pre.length]? = some v:=by rw [hitems]; simp
  refine jZ (s:={ s with heap:=h,toks:=tk }) F N R it hI1 hit hx fun v' h3 tk3 ob' F3 N3 R3 x3 it3 hv3 => ?_
  have FR3:=FR.own x3 (by
   intro a ha o ho w'
   have ha:a = I:=by simpa using ha
   subst ha
   rw [← ij R.nd hobI ho]; exact ncI w')
  have CI3:=CI.own x3 (by
   intro p hp q
   exact hIown (List.mem_map.mpr ⟨p,hp,by simpa using q⟩))
  refine wpAny_assign_Name (cL (s:={ s with heap:=h3,toks:=tk3 }) ok cs hi F3 N3 R3 FR3 CI3 hv3 fun h4 tk4 n4 m4 F4 N4 R4 x4 FR4 CI4 _ => ?_)
  have it4:=it3.keep x4 hI1 hIown
  obtain ⟨fl1,⟨f2,H3⟩,hz,hc⟩:=bnd2 hc
  refine hb.step (s:={ s with heap:=h4,toks:=tk4 }) F4 N4 R4 FR4 CI4 hz fun flow h5 tk5 n5 ρ5 m5 F5 N5 R5 x5 FR5 CI5 hf => ?_
  have x5':Ext (I :: own env) ρ₁ ρ5 ([(I,ob)] ++ n₁) n5:=((xt.trans (x3.mono (by simp))).trans (x4.mono fun a ha => .tail _ ha)).trans (x5.mono fun a ha => .tail _ ha)
  cases fl1 with
  | next =>
   cases hf
   dsimp only at hc
   split at hc
   ·rename_i hchk
    exact ⟨rest.length,by simp,mk _ _ ⟨pre ++ [v],rest,h5,tk5,n5,ρ5,m5,f2,H3,rfl,rfl,by simp [hitems],F5,N5,R5,x5',FR5,CI5,by simpa using it4.keep x5 hI1 hIown,hchk,hc⟩⟩
   ·cases hc
  | ret u =>
   obtain ⟨u',rfl,hu⟩:=hf
   cases hc
   exact hQ _ _ (SP.ofs F5 N5 R5 (x1.up.trans (x5'.less hown)) FR5 CI5 ⟨_,rfl,hu⟩)
theorem i8 {t:PySem.Expr} {r:List PySem.Expr} {is:List Nat} (h:eD ns (t :: r) = some is):∃ x p i js,t = .Name x p ∧ fC ns x = some i ∧ eD ns r = some js ∧ is = i :: js:=by
 cases t with
 | Name x p =>
  obtain ⟨i,hi,h⟩:=bnd1 h
  obtain ⟨js,hj,e⟩:=mpd h
  exact ⟨_,_,i,js,rfl,hi,hj,e.symm⟩
 | _ => cases h
theorem v7 {ts:List PySem.Expr}:∀ {is:List Nat},eD ns ts = some is → assignEach ts env = ts.map (fun t => (false,assign t env)) ∧ is.length = ts.length:=by
 induction ts with
 | nil => intro is h; cases h; exact ⟨rfl,rfl⟩
 | cons t r ih =>
  intro is h
  obtain ⟨x,p,i,js,rfl,hi,hj,rfl⟩:=i8 h
  obtain ⟨a,b⟩:=ih hj
  refine ⟨?_,by simp [b]⟩
  show (false,assign (.Name x p) env) :: assignEach r env = _
  rw [a]; rfl
theorem sg (ok:jh ns env L) (cs:fg env) {ts:List PySem.Expr}:∀ {is:List Nat} {vs:List Value} {l:List Int} {f:Fm} {m:Str → Option Value} {news:ay} {s:Shared} {Q:Unit → Shared → Prop},eD ns ts = some is → All2 uK vs l → l.length = is.length → Fr h₀ L s.heap m → News h₀ L s.heap news → Rel prog w cl K news ρ Hh → FRel K news ρ ns env m f → CellI news ρ env →
  (∀ h' tk' news' m',Fr h₀ L h' m' → News h₀ L h' news' → Rel prog w cl K news' ρ Hh → Ext (own env) ρ ρ news news' → FRel K news' ρ ns env m' (dT is l f) → CellI news' ρ env → Q () { s with heap:=h',toks:=tk' }) →
  wpAny (model prog w) A (assignInOrder (ts.map fun t => assign t env) vs) Q E s:=by
 induction ts with
 | nil =>
  intro is vs l f m news s Q h hv hl F N R FR CI k
  cases h
  haveI:l = []:=List.length_eq_zero_iff.mp hl
  subst this; cases hv
  exact wpAny_pure (k s.heap s.toks news m F N R (.refl _ _ _) FR CI)
 | cons t r ih =>
  intro is vs l f m news s Q h hv hl F N R FR CI k
  obtain ⟨x,p,i,js,rfl,hi,hj,rfl⟩:=i8 h
  cases hv with
  | nil => cases hl
  | @cons v z vs l h1 h2 =>
   show wpAny _ A (do holding vs (assign (.Name x p) env v); assignInOrder (r.map fun t => assign t env) vs) _ _ s
   refine wpAny_bind (wpAny_holding (wpAny_assign_Name (cL ok cs hi F N R FR CI (y:=.int z) h1 fun h' tk' n' m' F' N' R' x' FR' CI' _ => ?_)))
   exact ih (s:={ s with heap:=h',toks:=tk' }) hj h2 (by simpa using hl) F' N' R' FR' CI' fun h'' tk'' n'' m'' F'' N'' R'' x'' FR'' CI'' => k h'' tk'' n'' m'' F'' N'' R'' (x'.trans x'') FR'' CI''
theorem uR {α : Type}:∀ (l:List α) (g:α → (Value → Sem Unit)),(l.map fun t => (false,g t)).findIdx? (·.1) = none
 | [],_ => rfl
 | _ :: r,g => by simp
theorem o7 {ts:List PySem.Expr} {is:List Nat} {k pt pos} {e:PySem.Expr} {a:Ex} (hh:A.handled = none) (ok:jh ns env L) (cs:fg env) (B:Base K h₀) (hi:eD ns ts = some is) (hn:vT e = true) (ha:SE prog w cl K h₀ L A ns env a (eval e env)) :
  SS prog w cl K h₀ L A ns env (bz is a) (exec (.Assign [.Tuple ts k pt] e pos) env):=by
 intro E s m news ρ f Hh fl f' H' F N R FR CI hc
 obtain ⟨y,H1,hy,hc⟩:=bnd2 hc
 dsimp only at hc
 split at hc
 ·rename_i l
  split at hc
  ·rename_i hl
   cases hc
   have hsole:swapsWithSole [.Tuple ts k pt] e pos.line env = pure false:=by cases e <;> rfl
   have hsw:swappedStores [.Tuple ts k pt] e env = pure none:=by cases e <;> first | rfl | cases hn
   refine wpAny_Assign_stores (ha.step F N R FR hy fun v₁ h₁ t₁ n₁ ρ₁ F1 N1 R1 x1 hv1 FR1 => ?_) hsole hsw
   show wpAny _ A (assign (.Tuple ts k pt) env v₁) _ _ _
   obtain ⟨ta,vs,rfl,hat,hvs⟩:=hv1
   obtain ⟨he,hlen⟩:=v7 (env:=env) hi
   have htup:=du (s:={ s with heap:=h₁,toks:=t₁ }) (B.X.keeps F1.keep) N1 hat
   refine wpAny_assign_Tuple hh htup (by rw [he]; have:=hvs.length; simp; omega) (by rw [he]; exact uR ts _) fun h₂ hs => ?_
   have hk:∀ b o,h₁.get? b = some o → h₂.get? b = some o:=fun b o e => hs b o (Nat.ne_of_lt (Heap.lt_size e)) e
   have:(assignEach ts env).map (·.2) = ts.map fun t => assign t env:=by rw [he,List.map_map]; rfl
   rw [this]
   exact sg (s:={ s with heap:=h₂,toks:=t₁ }) ok cs hi hvs hl (F1.keeps hk) (N1.grown hk) R1 FR1 (CI.ext x1) fun h' tk' n' m' F' N' R' x' FR' CI' => SP.ofs F' N' R' (x1.up.trans x') FR' CI' rfl
  ·cases hc
 ·cases hc
end
end
section
open PySem PySem.W PySem.Calls PyProof.Rows
section
variable {prog:Program} {w:World} {cl:Str → Option Addr} {K:Frag} {fval:Str → Option Value} {A:Around} {h₀ : Heap} {L:Addr} {env:Env} {ns:aK} {g:G} {n:Nat}
theorem E9 {d:Nat} {elt:PySem.Expr} {gs:List Comprehension} {sc:Scope} {p:Pos} (h:∀ y py iter ifs,gs ≠ [⟨.Name y py,iter,ifs,0⟩]):(dX d g).1 ns (.ListComp elt gs sc p) = dK:=by
 cases d with
 | zero => rfl
 | succ d =>
  cases gs with
  | nil => rfl
  | cons c r =>
   cases r with
   | cons => rfl
   | nil =>
    obtain ⟨t,iter,ifs,k⟩:=c
    cases t with
    | Name y py => exact if_neg fun (hk:k = 0) => h y py iter ifs (by rw [hk])
    | _ => rfl
theorem gq (Z:Gl K cl fval) (hh:A.handled = none) (hu:A.units + 10 < cLine) (B:Base K h₀) (ok:jh ns env L) (cs:fg env) (G:GS prog w cl K fval g A h₀ L) :
  ∀ (d:Nat) (st:Stmt),SS prog w cl K h₀ L A ns env (dS g n ns d st) (exec st env)
 | 0,_ => SS.no
 | d + 1,st => by
  obtain ⟨ihe,iht⟩:=d5 Z hh hu d B ok G
  have hset:∀ a b c,(dX d g).1 ns (.Set a b c) = dK:=fun a b c => by cases d <;> rfl
  have hslice:∀ a b c p,(dX d g).1 ns (.Slice a b c p) = dK:=fun a b c p => by cases d <;> rfl
  have ihs:∀ l:List Stmt,SS prog w cl K h₀ L A ns env (ag (l.map (dS g n ns d))) (execs l env):=fun l => og fun st _ => gq Z hh hu B ok cs G d st
  cases st with
  | Pass p => exact A0
  | Expr e pos =>
   show SS prog w cl K h₀ L A ns env (if El e then au ((dX d g).1 ns e) else iZ) _
   split
   ·rename_i hs
    exact CF ok (lj (yh hs)) (ihe _)
   ·exact SS.no
  | Return v pos =>
   cases v with
   | some e => exact Dc (ihe _)
   | none => exact B6
  | Assign ts e pos =>
   cases ts with
   | nil => exact SS.no
   | cons t r =>
    cases r with
    | cons => exact SS.no
    | nil =>
     show SS prog w cl K h₀ L A ns env (Fy ns ((dX d g).1 ns) e t) _
     cases t with
     | Name x px =>
      show SS prog w cl K h₀ L A ns env (if !qz ns x px.line e then iZ else (match fC ns x with | some i => aj i ((dX d g).1 ns e) | none => iZ)) _
      split
      ·exact SS.no
      ·rename_i hcomp
       split
       ·rename_i i hi
        have hc':qz ns x px.line e = true:=by simpa using hcomp
        cases hp:qU e with
        | true => exact xy ok cs hi (lj hp) (ihe _)
        | false =>
         obtain ⟨elt,gs,sc,p,rfl⟩:=yu hp hc'
         by_cases hshape:∃ y py iter ifs,gs = [⟨.Name y py,iter,ifs,0⟩]
         ·obtain ⟨y,py,iter,ifs,rfl⟩:=hshape
          have hcs:(qe ns x && (px.line == p.line) && !(sc.names.any fun (n,k) => n == x && (k == .local || k == .cell))) = true:=hc'
          simp only [Bool.and_eq_true,Bool.not_eq_true'] at hcs
          cases d with
          | zero =>
           intro E s m news ρ f Hh fl f' H' F N R FR CI hc
           obtain ⟨z,hz,_⟩:=bnd1 hc
           cases hz
          | succ d =>
           show SS prog w cl K h₀ L A ns env (aj i (FD ns ((dX d g).1 ns) (dX d bJ) elt sc y iter ifs)) _
           unfold FD
           split
           ·intro E s m news ρ f Hh fl f' H' F N R FR CI hc
            obtain ⟨z,hz,_⟩:=bnd1 hc
            cases hz
           ·rename_i hb
            have c:=pN (by simpa using hb)
            split
            ·rename_i j hj
             obtain ⟨ihe',_⟩:=d5 Z hh hu d B ok G
             have hset':∀ a b c,(dX d g).1 ns (.Set a b c) = dK:=fun a b c => by cases d <;> rfl
             intro E s m news ρ f Hh fl f' H' F N R FR CI hc
             refine mB hh c ok cs B hj (fun a b c e => ?_) hi hcs.1.1 hcs.1.2 hcs.2 (ihe' _) (fun g' C B' => ?_) E s m news ρ f Hh fl f' H' F N R FR CI hc
             ·subst e
              obtain ⟨z,hz,_⟩:=bnd1 hc
              obtain ⟨z,hz,_⟩:=bnd1 hz
              rw [hset'] at hz; cases hz
             ·obtain ⟨ie,it⟩:=d5 Z hh hu d (g:=bJ) B' (lX (C:=C) c ok) (iy Z.fns)
              exact ⟨fun q _ => it q,ie _⟩
            ·intro E s m news ρ f Hh fl f' H' F N R FR CI hc
             obtain ⟨z,hz,_⟩:=bnd1 hc
             cases hz
         ·intro E s m news ρ f Hh fl f' H' F N R FR CI hc
          rw [E9 (fun y py iter ifs q => hshape ⟨_,_,_,_,q⟩)] at hc
          obtain ⟨z,hz,_⟩:=bnd1 hc
          cases hz
       ·exact SS.no
     | Tuple us q k =>
      show SS prog w cl K h₀ L A ns env (if !vT e then iZ else (match eD ns us with | some is => bz is ((dX d g).1 ns e) | none => iZ)) _
      split
      ·exact SS.no
      ·rename_i hn
       split
       ·rename_i is hi; exact o7 hh ok cs B hi (by simpa using hn) (ihe _)
       ·exact SS.no
     | Attribute o x q => exact vB Z.attrs B (ihe _) (ihe _)
     | Subscript o i q => exact xz (ihe _) (ihe _) (ihe _)
     | _ => exact SS.no
  | AugAssign t op e pos =>
   show SS prog w cl K h₀ L A ns env (FP ns ((dX d g).1 ns) op e t) _
   cases t with
   | Name x px =>
    show SS prog w cl K h₀ L A ns env (if x = "__classdict__" then iZ else (match fC ns x with | some i => aF i op ((dX d g).1 ns e) | none => iZ)) _
    split
    ·exact SS.no
    ·split
     ·rename_i i hi; exact vx ok cs hi (ihe _)
     ·exact SS.no
   | Attribute o x q => exact vG Z.attrs B (ihe _) (ihe _)
   | Subscript o i q =>
    intro E s m news ρ f Hh fl f' H' F N R FR CI hc
    refine xP ?_ (ihe _) (ihe _) (ihe _) E s m news ρ f Hh fl f' H' F N R FR CI hc
    cases i with
    | Slice => exfalso; obtain ⟨z,_,hc⟩:=bnd1 hc; obtain ⟨z,hz,_⟩:=bnd1 hc; rw [hslice] at hz; cases hz
    | _ => rfl
   | _ => exact SS.no
  | If t a b pos => exact FF (iht _) (ihs _) (ihs _)
  | While t b el pos =>
   cases el with
   | nil => exact Af (iht _) (ihs _)
   | cons => exact SS.no
  | For t it b el pos =>
   cases el with
   | cons => exact SS.no
   | nil =>
    show SS prog w cl K h₀ L A ns env (FA ns ((dX d g).1 ns it) (ag (b.map (dS g n ns d))) t) _
    cases t with
    | Name x px =>
     show SS prog w cl K h₀ L A ns env (match fC ns x with | some i => bF i ((dX d g).1 ns it) (ag (b.map (dS g n ns d))) | none => iZ) _
     split
     ·rename_i i hi
      intro E s m news ρ f Hh fl f' H' F N R FR CI hc
      refine DE hh ok cs hi (fun a b c e => ?_) (ihe _) (ihs _) E s m news ρ f Hh fl f' H' F N R FR CI hc
      subst e
      obtain ⟨z,hz,_⟩:=bnd1 hc
      rw [hset] at hz; cases hz
     ·exact SS.no
    | _ => exact SS.no
  | _ => exact SS.no
end
end
section
open PySem PySem.W PySem.Calls PyProof.Rows
structure Cx (A:Around) (base h₀ : Heap) (L:Addr) (env:Env):Prop where
 ex:∃ A₀ outer,Below A₀ base outer h₀ ∧ A.frames = some (env :: outer)
 frame:env.frame = some L
 kind:env.scope.kind = .function
 handled:A.handled = none
inductive jT (K:Frag) (fv:Value) (f:Fn):Prop
 | mk (a:Addr) (name qual:Str) (params:Arguments) (scope:Scope) (dV kV doc pm:Value) (an:Option Addr) (cdv ct:Value) (oc:Value) (od:Option Addr) (osl:Array (Option Value)) (e:fv = .ref a) (h1:K.lookup a = some ⟨oc,od,.func (fnX name qual params f.body scope [] dV kV doc pm an cdv ct),osl⟩) (h2:codeIn K cdv qual = true)
   (h3:scope.names = f.names) (h4:scope.kind = .function) (h5:scope.isCoroutine = false) (h6:scope.isGenerator = false) (h7:∀ vs:List Value,vs.length = f.params.length → bindArgs (fnX name qual params f.body scope [] dV kV doc pm an cdv ct) ⟨vs,[]⟩ = pure (f.params.zip vs))
structure wb (f:Fn):Prop where
 ps:∀ x ∈ f.params,f.names.lookup x = some .local ∨ f.names.lookup x = some .cell
 nd:((cellsFrom 0 f.names []).map (·.1)).Nodup
 nofree:∀ p ∈ f.names,p.2 ≠ .free
theorem fo:∀ (names:List (Str × NameKind)) (n lo:Nat) (acc:List (Str × Addr)),lo ≤ n → (∀ p ∈ acc,lo ≤ p.2) → ∀ p ∈ cellsFrom n names acc,lo ≤ p.2
 | [],_,_,_,_,h => h
 | (y,k) :: r,n,lo,acc,hn,h => by
  unfold cellsFrom
  split
  ·exact fo r (n + 1) lo _ (Nat.le_succ_of_le hn) fun p hp => by
    rcases List.mem_cons.mp hp with rfl | hp
    ·exact hn
    ·exact h p hp
  ·exact fo r n lo acc hn h
theorem fq:∀ (names:List (Str × NameKind)) (n:Nat) (acc:List (Str × Addr)),(∀ p ∈ acc,p.2 < n) → (acc.map (·.2)).Nodup → ((cellsFrom n names acc).map (·.2)).Nodup
 | [],_,_,_,h => h
 | (y,k) :: r,n,acc,hn,h => by
  unfold cellsFrom
  split
  ·refine fq r (n + 1) _ (fun p hp => ?_) ?_
   ·rcases List.mem_cons.mp hp with rfl | hp
    ·exact Nat.lt_succ_self _
    ·exact Nat.lt_succ_of_lt (hn p hp)
   ·rw [List.map_cons,List.nodup_cons]
    refine ⟨fun q => ?_,h⟩
    obtain ⟨p,hp,e⟩:=List.mem_map.mp q
    haveI:=hn p hp
    rw [e] at this
    exact absurd this (Nat.lt_irrefl _)
  ·exact fq r n acc hn h
theorem jz {cm:Str → Option Value} {cs:List (Str × Addr)} {cells:List (Addr × Obj)} (h:CellsAre cm cs cells):∀ p ∈ cs,∃ o,(p.2,o) ∈ cells ∧ o.data = .cell (cm p.1):=by
 induction h with
 | nil => intro p hp; cases hp
 | cons hd _ ih =>
  intro p hp
  rcases List.mem_cons.mp hp with rfl | hp
  ·exact ⟨_,.head _,hd⟩
  ·obtain ⟨o,a,b⟩:=ih p hp
   exact ⟨o,.tail _ a,b⟩
theorem oX {cm:Str → Option Value} {cs:List (Str × Addr)} {cells:List (Addr × Obj)} (h:CellsAre cm cs cells):cells.map (·.1) = cs.map (·.2):=by
 induction h with
 | nil => rfl
 | cons _ _ ih => simp [ih]
section
variable {prog:Program} {w:World} {cl:Str → Option Addr} {K:Frag} {fval:Str → Option Value} {A:Around} {base h₀ : Heap} {L:Addr} {m:Str → Option Value} {env:Env} {news:ay} {ρ : b9} {s:Shared} {ns:aK} {g:G} {n:Nat} {Hh H':H}
theorem ou {kindOf:Str → Option NameKind} (hk:∀ x,kindOf x = ns.lookup x):∀ (xs:List Str) (vs:List V) (vs':List Value) (f fm:Fm) (mL mC:Str → Option Value),mX ns xs vs f = some fm → All2 (VR K news ρ) vs' vs →
  (∀ y i k u,aJ ns y = some (i,k) → f i = some u → (k = .local → ∃ v',mL y = some v' ∧ VR K news ρ v' u) ∧ (k = .cell → ∃ v',mC y = some v' ∧ VR K news ρ v' u)) →
  ∀ y i k u,aJ ns y = some (i,k) → fm i = some u → (k = .local → ∃ v',bindL kindOf (xs.zip vs') mL y = some v' ∧ VR K news ρ v' u) ∧ (k = .cell → ∃ v',bindC kindOf (xs.zip vs') mC y = some v' ∧ VR K news ρ v' u)
 | [],vs,vs',f,fm,mL,mC,e,hv,h => by
  cases vs with
  | nil => cases e; exact h
  | cons => cases e
 | x :: xs,vs,vs',f,fm,mL,mC,e,hv,h => by
  cases vs with
  | nil => cases e
  | cons v vs =>
   obtain ⟨j,hj,e⟩:=bnd1 e
   cases hv with
   | @cons v' _ vs' _ h1 h2 =>
    obtain ⟨kx,hkx,hkk⟩:=cA hj
    haveI hkind:kindOf x = some kx:=(hk x).trans (aE hkx).1
    refine ou hk xs vs vs' _ fm _ _ e h2 fun y i k u hy hu => ?_
    unfold upd at hu
    by_cases hi:i = j
    ·subst hi
     rw [if_pos rfl] at hu; cases hu
     obtain ⟨rfl,rfl⟩:=iw hy hkx
     refine ⟨fun hl => ?_,fun hc => ?_⟩
     ·subst hl; exact ⟨v',by simp [hkind],h1⟩
     ·subst hc; exact ⟨v',by simp [hkind],h1⟩
    ·rw [if_neg hi] at hu
     obtain ⟨a,b⟩:=h y i k u hy hu
     haveI hyx:y ≠ x:=fun q => by subst q; rw [hkx] at hy; cases hy; exact hi rfl
     refine ⟨fun hl => ?_,fun hc => ?_⟩
     ·obtain ⟨z,hz,hz'⟩:=a hl
      refine ⟨z,?_,hz'⟩
      split
      ·simp [hyx,hz]
      ·exact hz
     ·obtain ⟨z,hz,hz'⟩:=b hc
      refine ⟨z,?_,hz'⟩
      split
      ·exact hz
      ·simp [hyx,hz]
theorem pG:∀ {xs:List Str} {vs:List V} {f fm:Fm},mX ns xs vs f = some fm → vs.length = xs.length
 | [],[],_,_,_ => rfl
 | [],_ :: _,_,_,e => by cases e
 | _ :: _,[],_,_,e => by cases e
 | x :: xs,v :: vs,f,fm,e => by
  obtain ⟨j,hj,e⟩:=bnd1 e
  simp [pG e]
theorem zl {name:Str} {scope:Scope} {L' a:Addr} {cd:Value} {f:Fn} (hn:scope.names = f.names) (hk:scope.kind = .function) (ok:wb f):jh f.names (envOfC name scope L' a cd) L':=by
 have kof:∀ x,(envOfC name scope L' a cd).kindOf x = f.names.lookup x:=fun x => by show scope.names.lookup x = _; rw [hn]
 refine ⟨hk,rfl,rfl,rfl,fun x i h => ?_,fun x i k h hc => ?_,fun x i h => ?_,fun x i h => ?_⟩
 ·rw [kof]; exact (aE h).1
 ·rcases hc with rfl | rfl
  ·refine ⟨.inl (by rw [kof]; exact (aE h).1),?_⟩
   haveI:=cellsFrom_some (x:=x) f.names (L' + 1) [] (.inl (aE h).1)
   obtain ⟨c,hc⟩:=Option.isSome_iff_exists.mp this
   exact ⟨c,by show (cellsFrom (L' + 1) scope.names []).lookup x = _; rw [hn]; exact hc⟩
  ·exact absurd rfl (ok.nofree _ (List.mem_of_getElem? (aE h).2))
 ·rw [kof]; exact (aE h).1
 ·rw [kof]; exact (aE h).1
theorem ub {fv:Value} {f:Fn} {as:List V} {vs':List Value} {fm:Fm} {R:Result → Shared → Prop} (cx:Cx A base h₀ L env) (hd:A.depth < recursionLimit) (B:Base K h₀) (fa:jT K fv f) (ok:wb f) (hfm:mX f.names f.params as (fun _ => none) = some fm)
  (F:Fr h₀ L s.heap m) (N:News h₀ L s.heap news) (R0:Rel prog w cl K news ρ Hh) (hv:All2 (VR K news ρ) vs' as)
  (body:∀ name scope a cd outer g' L' h₁ tk n₁ m₁,Base K g' → jh f.names (envOfC name scope L' a cd) L' → fg (envOfC name scope L' a cd) → Cx (A.deeper (envOfC name scope L' a cd)) base g' L' (envOfC name scope L' a cd) → Below A base (env :: outer) g' → Fr h₀ L g' m →
   Fr g' L' h₁ m₁ → News g' L' h₁ n₁ → Rel prog w cl K n₁ ρ Hh → FRel K n₁ ρ f.names (envOfC name scope L' a cd) m₁ fm → CellI n₁ ρ (envOfC name scope L' a cd) →
   (∀ {ρ₂ : b9} {n₂ : ay},Ext (own (envOfC name scope L' a cd)) ρ ρ₂ n₁ n₂ → Ext [] ρ ρ₂ news n₂) →
   wpAny (model prog w) (A.deeper (envOfC name scope L' a cd)) (execs f.body (envOfC name scope L' a cd)) (fun fl s' => LeaveK h₀ L m g' R (match fl with | .ret v => v | _ => .none) s')
    (fun e s' => wpAny (model prog w) (A.deeper (envOfC name scope L' a cd)) (leaving (envOfC name scope L' a cd) e) (fun _ s'' => R (.error e) s'') (fun e' s'' => R (.error e') s'') s') { s with heap:=h₁,toks:=tk }) :
  codeAny (model prog w) A (.call fv ⟨vs',[]⟩) R s:=by
 obtain ⟨a,name,qual,params,scope,dV,kV,doc,pm,an,cdv,ct,oc,od,osl,rfl,ho,hcd,hnames,hkind,hco,hgen,hbind⟩:=fa
 obtain ⟨A₀,outer,below,frames⟩:=cx.ex
 haveI hlen:vs'.length = f.params.length:=by rw [hv.length]; exact pG hfm
 haveI hbm:∀ x ∈ f.params.zip vs',x.1 ∈ f.params:=fun x hx => (List.of_mem_zip hx).1
 refine callX_cells below F N B.nolimit frames cx.frame cx.kind ((B.X.keeps F.keep) _ _ ho) rfl (codeRec_of (B.X.keeps F.keep) hcd) hd (BindsTo.of_eq (hbind vs' hlen)) (fun k x hx => ?_) (by rw [hnames]; exact ok.nd) (fun g' L' h₁ tk cells FG F1 N1 CA BG st hlt => ?_) hco hgen hkind
 ·rw [hnames]
  rcases ok.ps _ (hbm x hx) with q | q
  ·exact .inl q
  ·exact .inr ⟨q,cellsFrom_some _ _ _ (.inl q)⟩
 ·haveI Bg:Base K g':=B.keeps st
  let env':=envOfC qual scope L' a cdv
  have eok:jh f.names env' L':=zl hnames hkind ok
  have cells_eq:env'.cells = cellsFrom (L' + 1) f.names []:=by show cellsFrom (L' + 1) scope.names [] = _; rw [hnames]
  have cs:fg env':=⟨by rw [cells_eq,cellsFrom_names f.names (L' + 1) 0 [] [] rfl]; exact ok.nd,by rw [cells_eq]; exact fq _ _ _ (by intro p hp; cases hp) (by simp)⟩
  haveI cx':Cx (A.deeper env') base g' L' env':=⟨⟨A,env :: outer,BG,Around.frames_deeper frames⟩,rfl,hkind,cx.handled⟩
  haveI hge:∀ p ∈ env'.cells,L' + 1 ≤ p.2:=by rw [cells_eq]; exact fo _ _ _ _ (Nat.le_refl _) (by intro p hp; cases hp)
  have hca:cells.map (·.1) = env'.cells.map (·.2):=oX CA
  have hfresh:∀ a ∈ cells.map (·.1),a ∉ news.map (·.1):=fun a ha q => by
   rw [hca] at ha
   obtain ⟨p,hp,rfl⟩:=List.mem_map.mp ha
   obtain ⟨q,hq,e⟩:=List.mem_map.mp q
   haveI h1:=hge p hp
   have h2:=hlt q hq
   rw [e] at h2
   exact absurd (Nat.lt_of_lt_of_le h2 (Nat.le_of_succ_le h1)) (Nat.lt_irrefl _)
  have R1:=R0.more (extra:=cells) (by rw [hca]; exact cs.n2) hfresh [] [] (by simp [aY]) (by simp [aY]) rfl (by simp)
  have x1:=Ext.more (own:=[]) (ρ:=ρ) hfresh [] (by simp [aY])
  rw [List.append_nil,List.append_nil] at R1
  rw [List.append_nil] at x1
  have nflat:∀ p ∈ env'.cells,p.2 ∉ aY ρ:=fun p hp q => by
   obtain ⟨o,ho,_⟩:=R0.inNews q
   exact hfresh p.2 (by rw [hca]; exact List.mem_map_of_mem hp) (List.mem_map_of_mem (f:=(·.1)) ho)
  have kof:∀ x,env'.kindOf x = f.names.lookup x:=fun x => by show scope.names.lookup x = _; rw [hnames]
  haveI CI:CellI (cells ++ news) ρ env':=fun p hp => by
   obtain ⟨o,a1,a2⟩:=jz CA p hp
   exact ⟨o,_,List.mem_append_left _ a1,a2,nflat p hp⟩
  haveI FR:FRel K (cells ++ news) ρ f.names env' (bindL env'.kindOf (f.params.zip vs') fun _ => none) fm:=by
   intro y i k u hy hu
   obtain ⟨b1,b2⟩:=ou (K:=K) (news:=cells ++ news) (ρ:=ρ) kof f.params as vs' (fun _ => none) fm (fun _ => none) (fun _ => none) hfm (VR.ext2 x1 hv) (fun _ _ _ _ _ h => nomatch h) y i k u hy hu
   cases k with
   | «local» => obtain ⟨v',q1,q2⟩:=b1 rfl; exact ⟨by rw [kof]; exact (aE hy).1,v',q1,q2⟩
   | cell =>
    obtain ⟨v',q1,q2⟩:=b2 rfl
    obtain ⟨kk,c,hc⟩:=eok.cells _ _ _ hy (.inl rfl)
    obtain ⟨o,a1,a2⟩:=jz CA (y,c) (bg hc)
    refine ⟨kk,c,o,v',hc,List.mem_append_left _ a1,?_,q2,nflat _ (bg hc)⟩
    rw [a2]; exact congrArg _ q1
   | free => exact absurd rfl (ok.nofree _ (List.mem_of_getElem? (aE hy).2))
   | _ => trivial
  exact body _ _ _ _ _ _ _ _ _ _ _ Bg eok cs cx' BG FG F1 N1 R1 FR CI fun x2 => Ext.less (o':=own env') (extra:=cells) x2 fun p hp q => by
   exfalso
   exact hfresh p.1 (by rw [hca]; exact q) (List.mem_map_of_mem hp)
theorem xu {fv:Value} {f:Fn} {as:List V} {vs':List Value} {v:V} {R:Result → Shared → Prop} (Z:Gl K cl fval) (hG:∀ A' h₀' L' env',Cx A' base h₀' L' env' → A'.depth = A.depth + 1 → A'.units = A.units + 3 → Base K h₀' → GS prog w cl K fval g A' h₀' L')
  (cx:Cx A base h₀ L env) (hu:A.units + 13 < cLine) (hd:A.depth < recursionLimit) (B:Base K h₀) (fa:jT K fv f) (ok:wb f) (e:CL g n f as Hh = some (v,H')) (F:Fr h₀ L s.heap m) (N:News h₀ L s.heap news) (R0:Rel prog w cl K news ρ Hh) (hv:All2 (VR K news ρ) vs' as)
  (hR:∀ v' s',EP prog w cl K h₀ L m news ρ v H' s v' s' → R (.ok (.ret v')) s'):codeAny (model prog w) A (.call fv ⟨vs',[]⟩) R s:=by
 obtain ⟨fm,hfm,e⟩:=bnd1 e
 obtain ⟨⟨fl,f',Hf⟩,hrun,e⟩:=Option.map_eq_some_iff.mp e
 refine ub cx hd B fa ok hfm F N R0 hv fun name scope a cd outer g' L' h₁ tk n₁ m₁ Bg eok cs cx' BG FG F1 N1 R1 FR CI hx => ?_
 haveI body:=og (l:=f.body) fun st' _ => gq (A:=A.deeper (envOfC name scope L' a cd)) (n:=n) Z cx.handled (by show A.units + 3 + 10 < cLine; omega) Bg eok cs (hG _ _ _ _ cx' rfl rfl Bg) 30 st'
 refine body.step (s:={ s with heap:=h₁,toks:=tk }) F1 N1 R1 FR CI hrun fun flow h₂ t₂ n₂ ρ₂ m₂ F2 N2 R2 x2 FR2 CI2 hf => ?_
 refine leaveK_ F2 N2 fun F3 N3 => hR _ _ ?_
 cases fl with
 | next =>
  cases hf; cases e
  exact EP.ofs F3 N3 R2 (hx x2) rfl
 | ret u =>
  obtain ⟨u',rfl,hu'⟩:=hf; cases e
  exact EP.ofs F3 N3 R2 (hx x2) hu'
end
end
section
open PySem PySem.W PySem.Calls PyProof.Rows
inductive Fx (K:Frag) (cl:Str → Option Addr) (fval:Str → Option Value) (P:List (Str × AT)) (x c:Str):Prop
 | mk (C fI:Addr) (f:Fn) (h1:fval x = some (.ref C)) (h2:cl c = some C) (h3:makesIn K C = true) (h4:findIn K (.ref C) "__init__" = some (some (.ref fI))) (h5:isFn K (.ref fI) = true) (h6:fval (c ++ ".__init__") = some (.ref fI)) (h7:P.lookup (c ++ ".__init__") = some (.fn f))
structure PI (K:Frag) (cl:Str → Option Addr) (fval:Str → Option Value) (P:List (Str × AT)):Prop where
 fn:∀ x f,P.lookup x = some (.fn f) → ∃ fv,fval x = some fv ∧ jT K fv f ∧ wb f
 cls:∀ x c,P.lookup x = some (.cls c) → Fx K cl fval P x c
section
variable {prog:Program} {w:World} {cl:Str → Option Addr} {K:Frag} {fval:Str → Option Value} {base:Heap} {P:List (Str × AT)}
theorem Ah (Z:Gl K cl fval) (I:PI K cl fval P):∀ (n:Nat) {A:Around} {h₀ : Heap} {L:Addr} {env:Env},Cx A base h₀ L env → A.depth + n < recursionLimit → A.units + 3 * n + 13 < cLine → Base K h₀ → GS prog w cl K fval (run P n) A h₀ L:=by
 intro n
 induction n using Nat.strongRecOn with
 | ind n ih =>
  intro A h₀ L env cx hd hu B
  cases n with
  | zero => intro x vs Hh v H' e; cases e
  | succ n =>
   intro x vs Hh v H' e
   unfold run at e
   cases hx:P.lookup x with
   | none =>
    rw [hx] at e
    exact iy Z.fns x vs Hh v H' e
   | some d =>
    rw [hx] at e
    cases d with
    | fn f =>
     obtain ⟨fv,h1,h2,h3⟩:=I.fn x f hx
     refine ⟨fv,h1,fun E s m news ρ vs' F N R hv => wpAny_call ?_⟩
     refine xu (g:=run P n) (n:=n) Z (fun A' h₀' L' env' cx' ed eu B' => ih n (Nat.lt_succ_self _) cx' (by omega) (by omega) B') cx (by omega) (by omega) B h2 h3 e F N R hv fun v' s' p => p
    | cls c =>
     obtain ⟨C,fI,f,h1,h2,h3,h4,h5,h6,h7⟩:=I.cls x c hx
     refine ⟨_,h1,fun E s m news ρ vs' F N R hv => ?_⟩
     obtain ⟨q,Hq,hq,e⟩:=bnd2 e
     dsimp only at e
     split at e
     ·rename_i hnone
      cases e
      cases n with
      | zero => cases hq
      | succ n =>
       unfold run at hq
       rw [h7] at hq
       obtain ⟨fv,g1,g2,g3⟩:=I.fn _ f h7
       rw [h6] at g1; cases g1
       refine call_cls F B.X N h3 h4 h5 fun y dy h' F' N' hlt hdy => ?_
       have hfresh:∀ a ∈ ([(y,instObj C dy),(dy,dictOf [] 0)]:ay).map (·.1),a ∉ news.map (·.1):=fun a ha q => by
        obtain ⟨p,hp,rfl⟩:=List.mem_map.mp q
        have:=hlt p hp
        rcases List.mem_cons.mp ha with e | ha
        ·rw [e] at this; exact absurd (Nat.lt_trans this hdy) (Nat.lt_irrefl _)
        ·have ha:p.1 = dy:=by simpa using ha
         rw [ha] at this; exact absurd this (Nat.lt_irrefl _)
       have hne:dy ≠ y:=Nat.ne_of_lt hdy
       have hfl:aY [(y,some dy)] = [y,dy]:=by simp [aY,eL]
       have R1:=R.more (extra:=[(y,instObj C dy),(dy,dictOf [] 0)]) (by simp [Ne.symm hne]) hfresh [(y,some dy)] [.inst c []] (by rw [hfl]; simp) (by rw [hfl]; simp [Ne.symm hne]) rfl (fun i p o hp ho => by
        cases i with
        | zero =>
         simp at hp ho; subst hp; subst ho
         exact ⟨C,dy,[],0,rfl,h2,.head _,.tail _ (.head _),.nil,by intro p hp; cases hp⟩
        | succ i => simp at hp)
       have x1:=Ext.more (own:=[]) (ρ:=ρ) hfresh [(y,some dy)] (by rw [hfl]; simp)
       have cx':Cx (A.under (.builtin "type.__call__" ⟨.ref C :: vs',[]⟩)) base h₀ L env:=⟨cx.ex,cx.frame,cx.kind,cx.handled⟩
       have ed:(A.under (.builtin "type.__call__" ⟨.ref C :: vs',[]⟩)).depth = A.depth + 1:=rfl
       have eu:(A.under (.builtin "type.__call__" ⟨.ref C :: vs',[]⟩)).units = A.units + 1:=rfl
       refine xu (g:=run P n) (n:=n) Z (fun A' h₀' L' env' cx2 ed' eu' B' => ih n (by omega) cx2 (by omega) (by omega) B') cx' (by omega) (by omega) B g2 g3 hq (s:={ s with heap:=h' }) F' N' R1
        (.cons ⟨y,some dy,rfl,by rw [← R.len]; simp⟩ (VR.ext2 x1 hv)) fun v' s' p => ?_
       obtain ⟨h2',tk',n',ρ',es,F2,N2,R2,x2,hv2⟩:=p
       rw [hnone] at hv2
       cases hv2
       refine ⟨rfl,h2',tk',n',ρ',es,F2,N2,R2,x1.trans x2,y,some dy,rfl,x2.idx (by rw [← R.len]; simp)⟩
     ·cases e
end
end
section
open PySem PySem.W PySem.Calls PyProof.Rows
noncomputable def Ig:List Addr:=[3,177,176,296,295,800,799,931,930,2,0,156,155,143,142,174,293,783,790,797,928,140]
noncomputable def kL (L:Addr → Option Obj) (n:Nat):Frag:=(Ig ++ List.range n).filterMap fun a => (L a).map fun o => (a,o)
theorem zW (L:Addr → Option Obj) (a:Addr):∀ l:List Addr,(l.filterMap fun a => (L a).map fun o => (a,o)).lookup a = if a ∈ l then L a else none
 | [] => rfl
 | b :: l => by
  rw [List.filterMap_cons]
  haveI ih:=zW L a l
  cases hb:L b with
  | none =>
   show (l.filterMap _).lookup a = _
   rw [ih]
   by_cases e:a = b
   ·subst e; simp [hb]
   ·simp [e]
  | some o =>
   show ((b,o) :: l.filterMap _).lookup a = _
   rw [List.lookup_cons]
   by_cases e:a = b
   ·subst e; simp [hb]
   ·rw [beq_eq_false_iff_ne.mpr e,ih]; simp [e]
theorem xM {L:Addr → Option Obj} {n:Nat} (h:∀ a,n ≤ a → L a = none) (a:Addr):(kL L n).lookup a = L a:=by
 unfold kL
 rw [zW]
 by_cases e:a < n
 ·rw [if_pos (List.mem_append_right _ (List.mem_range.mpr e))]
 ·rw [h a (Nat.le_of_not_lt e)]; split <;> rfl
noncomputable def dP:List (Str × Str × Str):=[("Geometry.__init__","Geometry","__init__"),("Position.__init__","Position","__init__"),("ProofTree.__init__","ProofTree","__init__"),("ProofTree.add","ProofTree","add"),("ProofTree.settle","ProofTree","settle"),("Zobrist.__init__","Zobrist","__init__")]
noncomputable def fK (K:Frag) (x:Str):Value:=match nsIn K mainGlobals x with
 | some (some v) => v
 | _ => .none
noncomputable def kX (K:Frag) (x:Str):Value:=match dP.lookup x with
 | some (c,m) => (match findIn K (fK K c) m with | some (some v) => v | _ => .none)
 | none => fK K x
noncomputable def vM (x:Str):Option Value:=if x = "range" then some (.type "range") else if x = "len" then some (.builtin "len") else if x = "abs" then some (.builtin "abs") else none
noncomputable def eA (K:Frag) (x:Str):Option Value:=match ah.lookup x with
 | some _ => some (kX K x)
 | none => vM x
noncomputable def gR:List Str:=["Geometry","Position","ProofTree","Zobrist"]
noncomputable def EN (K:Frag) (c:Str):Option Addr:=if c ∈ gR then (match fK K c with | .ref C => some C | _ => none) else none
noncomputable def uZ (p:Arguments):Bool:=p.posonlyargs.isEmpty && p.vararg.isNone && p.kwonlyargs.isEmpty && p.kwarg.isNone && decide (p.args.map (·.arg)).Nodup
noncomputable def wY:Value → Bool | .none => true | _ => false
noncomputable def AC (L:Addr → Option Obj) (cd:Value) (q:Str):Bool:=match cd with
 | .ref c => (match L c with
   | some ⟨_,_,.fields vs,_⟩ => (match vs.toList with | _ :: .str n _ :: _ => n == q | _ => false)
   | _ => false)
 | _ => false
noncomputable def FN (L:Addr → Option Obj) (v:Value):Option (FuncBody × aK × List Str × Bool):=match v with
 | .ref a => (match L a with
  | some ⟨_,_,.func fd,_⟩ => some (fd.body,fd.scope.names,fd.params.args.map (·.arg),
    (fd.globals == mainGlobals && fd.closure.isEmpty && uZ fd.params && decide (fd.scope.kind = .function) && !fd.scope.isCoroutine && !fd.scope.isGenerator && AC L fd.code fd.qualname && wY fd.defaults && fd.builtins == builtinsNs))
  | _ => none)
 | _ => none
noncomputable def vK (i:Int):Value → Bool | .int k _ => k == i | _ => false
noncomputable def zh:List Value → List Int → Bool
 | [],[] => true
 | v :: vs,i :: is => vK i v && zh vs is
 | _,_ => false
noncomputable def E1 (l:List Int):Data → Bool
 | .seq arr n => n == 0 && zh arr.toList l
 | _ => false
noncomputable def FK (L:Addr → Option Obj) (l:List Int):Value → Bool
 | .ref a => (match L a with
  | some o => decide (o.cls = .type "tuple") && o.dict == none && o.slots.isEmpty && E1 l o.data
  | none => false)
 | _ => false
noncomputable def Ht (L:Addr → Option Obj) (v:Value):V → Bool
 | .int i => vK i v
 | .tup l => FK L l v
 | _ => false
noncomputable def BY (L:Addr → Option Obj) (K:Frag) (p:Str × V):Bool:=match nsIn K mainGlobals p.1 with
 | some (some v) => Ht L v p.2
 | _ => false
noncomputable def wj:List Str:=["files","ranks","size","full","has_double","has_castling","file_masks","rank_masks","rays","king","knight","pawn","castles","rights_lost",
 "geo","zob","board","kinds","sides","side","rights","ep","half","key","history","moves","plies","proofs","disproofs","children","pieces"]
noncomputable def xr (K:Frag) (C:Addr) (x:Str):Bool:=(match findIn K (.ref C) x with | some a => noGet K a | none => false) && takerIn K C x == some none
noncomputable def qg (K:Frag) (C:Addr):Bool:=makesIn K C && (match findIn K (.ref C) "__init__" with | some (some (.ref f)) => isFn K (.ref f) | _ => false) && plainGet K C "" && hasDictIn K C && findIn K (.ref C) "__setattr__" == some (some (.builtin "object.__setattr__")) && plainOver K C
noncomputable def AJ (K:Frag) (c:Str):Bool:=match fK K c with
 | .ref C => qg K C && wj.all (xr K C) && keepIn K (.ref C)
 | _ => false
noncomputable def qj (K:Frag) (m:Str):Bool:=match fK K "ProofTree" with
 | .ref C => (match findIn K (.ref C) m with | some (some (.ref f)) => isFn K (.ref f) | _ => false)
 | _ => false
noncomputable def AO (K:Frag) (x:Str):Bool:=mE x || ((dP.lookup x).isNone && (match nsIn K mainGlobals x with | some (some _) => true | _ => false))
noncomputable def vL (K:Frag):Bool:=ah.all (fun p => AO K p.1) && nsIn K mainGlobals "range" == some none && nsIn K mainGlobals "len" == some none && nsIn K mainGlobals "abs" == some none
noncomputable def vJ (K:Frag):Bool:=gR.all (AJ K) && qj K "add" && qj K "settle"
noncomputable def hH (x:Str):Option (FuncBody × aK × List Str × Bool):=match ah.lookup x with
 | some (.fn f) => some (.stmts f.body,f.names,f.params,true)
 | _ => none
noncomputable def nH (L:Addr → Option Obj) (K:Frag) (x:Str):Option (FuncBody × aK × List Str × Bool):=match ah.lookup x with
 | some (.fn _) => FN L (kX K x)
 | _ => none
noncomputable def dg:List Str:=ah.map (·.1)
noncomputable def ww (L:Addr → Option Obj) (n:Nat):Bool × List (Option (FuncBody × aK × List Str × Bool)):=(vL (kL L n),dg.map (nH L (kL L n)))
noncomputable def w5 (L:Addr → Option Obj) (n:Nat):Bool:=vJ (kL L n) && gP.all (BY L (kL L n))
end
section
open PySem PySem.W PySem.Calls PyProof.Rows
theorem nB:∀ (ns:List Str) (vs:List Value),vs.length = ns.length → ns.Nodup → (∀ n ∈ ns,((ns.zip vs).lookup n).isSome = true) ∧ (ns.filterMap fun n => ((ns.zip vs).lookup n).map fun v => (n,v)) = ns.zip vs
 | [],vs,_,_ => by simp
 | x :: xs,[],h,_ => by cases h
 | x :: xs,v :: vs,h,nd => by
  obtain ⟨nx,nd⟩:=List.nodup_cons.mp nd
  obtain ⟨i1,i2⟩:=nB xs vs (Nat.succ.inj h) nd
  have key:∀ n ∈ xs,((x,v) :: xs.zip vs).lookup n = (xs.zip vs).lookup n:=fun n hn => by
   haveI:(n == x) = false:=beq_eq_false_iff_ne.mpr fun e => nx (e ▸ hn)
   rw [List.lookup_cons,this]
  refine ⟨fun n hn => ?_,?_⟩
  ·rcases List.mem_cons.mp hn with rfl | hn
   ·simp [List.zip_cons_cons]
   ·rw [List.zip_cons_cons,key n hn]; exact i1 n hn
  ·haveI cg:∀ l:List Str,(∀ n ∈ l,n ∈ xs) → (l.filterMap fun n => (((x,v) :: xs.zip vs).lookup n).map fun u => (n,u)) = l.filterMap fun n => ((xs.zip vs).lookup n).map fun u => (n,u):=by
    intro l
    induction l with
    | nil => intro _; rfl
    | cons a l ih => intro h; rw [List.filterMap_cons,List.filterMap_cons,key a (h a (.head _)),ih fun n hn => h n (.tail _ hn)]
   rw [List.zip_cons_cons,List.filterMap_cons,List.lookup_cons,beq_self_eq_true]
   show (x,v) :: _ = _
   rw [cg xs fun n hn => hn,i2]
theorem BZ {α : Type} {l:List α} (h:l = []):¬ ((!l.isEmpty) = true):=by subst h; simp
theorem wi {fd:FuncData} {vs:List Value} (hp:uZ fd.params = true) (hd:fd.defaults = .none) (hl:vs.length = (fd.params.args.map (·.arg)).length):bindArgs fd ⟨vs,[]⟩ = pure ((fd.params.args.map (·.arg)).zip vs):=by
 obtain ⟨nm,ql,⟨po,as,va,ko,kd,kw,ds⟩,body,sc,gl,clo,df,kwd,doc,pm,an,code,ct,bi⟩:=fd
 simp only [uZ,Bool.and_eq_true,List.isEmpty_iff,Option.isNone_iff_eq_none,decide_eq_true_eq] at hp
 obtain ⟨⟨⟨⟨rfl,rfl⟩,rfl⟩,rfl⟩,nd⟩:=hp
 dsimp only at hd hl
 subst hd
 obtain ⟨l1,l2⟩:=nB _ vs hl nd
 haveI hm:∀ k,(((as.map (·.arg)).take k).filter fun n => (((as.map (·.arg)).zip vs).lookup n).isNone) = []:=fun k => by
  rw [List.filter_eq_nil_iff]
  intro n hn
  haveI:=l1 n (List.mem_of_mem_take hn)
  simp only [Option.isNone_iff_eq_none]
  intro e; rw [e] at this; cases this
 refine Eq.trans (if_neg ?_) (Eq.trans (if_neg (BZ (hm _))) ?_)
 ·haveI:¬ (vs.length > (as.map (·.arg)).length):=by rw [hl]; exact Nat.lt_irrefl _
  show ¬ ((decide (vs.length > (as.map (·.arg)).length) && true) = true)
  rw [decide_eq_false this]; decide
 ·dsimp only [Option.getD,List.map_nil,List.nil_append,List.append_nil]
  rw [List.drop_nil,List.zip_nil_right]
  exact (congrArg (fun l => (pure (l.filterMap fun n => (((as.map (·.arg)).zip vs).lookup n).map fun v => (n,v)):Sem (List (Str × Value)))) (List.append_nil (as.map (·.arg)))).trans (congrArg pure l2)
end
section
open PySem PySem.W PySem.Calls PyProof.Rows
theorem kM {α β : Type} {f g:α → β}:∀ {l:List α},l.map f = l.map g → ∀ x ∈ l,f x = g x
 | a :: l,h,x,hx => by
  rw [List.map_cons,List.map_cons] at h
  obtain ⟨h1,h2⟩:=List.cons.inj h
  rcases List.mem_cons.mp hx with rfl | hx
  ·exact h1
  ·exact kM h2 x hx
theorem wZ:∀ {vs:List Value} {is:List Int},zh vs is = true → All2 uK vs is
 | [],[],_ => .nil
 | v :: vs,i :: is,h => by
  obtain ⟨h1,h2⟩:=Bool.and_eq_true_iff.mp h
  refine .cons ?_ (wZ h2)
  cases v <;> first | (cases h1; done) | exact ⟨_,by rw [beq_iff_eq.mp h1]⟩
 | [],_ :: _,h => by cases h
 | _ :: _,[],h => by cases h
theorem vR {x:Str} (h:dj x = true):x ∈ wj:=List.contains_iff_mem.mp h
theorem yE {L:Addr → Option Obj} {K:Frag} (hL:∀ a,K.lookup a = L a) (cd:Value) (q:Str):AC L cd q = codeIn K cd q:=by
 unfold AC codeIn
 cases cd <;> first | rfl | (dsimp only; rw [hL]; rfl)
theorem CX {K:Frag} {L:Addr → Option Obj} (hL:∀ a,K.lookup a = L a) {v:Value} {f:Fn} (e:FN L v = some (.stmts f.body,f.names,f.params,true)):jT K v f:=by
 unfold FN at e
 split at e
 ·rename_i a
  split at e
  ·rename_i oc od fd osl hl
   obtain ⟨e1,e2,e3,e4⟩:_ ∧ _ ∧ _ ∧ _:=by simpa only [Option.some.injEq,Prod.mk.injEq] using e
   simp only [Bool.and_eq_true,beq_iff_eq,List.isEmpty_iff,decide_eq_true_eq,Bool.not_eq_true',yE hL] at e4
   obtain ⟨⟨⟨⟨⟨⟨⟨⟨g1,g2⟩,g3⟩,g4⟩,g5⟩,g6⟩,g7⟩,g8⟩,g9⟩:=e4
   have bp:∀ vs:List Value,vs.length = f.params.length → bindArgs fd ⟨vs,[]⟩ = pure (f.params.zip vs):=fun vs hl => by
    rw [← e3] at hl ⊢
    exact wi g3 (by revert g8; cases fd.defaults <;> simp [wY]) hl
   obtain ⟨nm,ql,ps,body,sc,glb,clo,df,kwd,doc,pm,an,code,ct,bi⟩:=fd
   dsimp only at e1 e2 e3 g1 g2 g3 g4 g5 g6 g7 g8 g9 bp
   subst e1 g1 g2 g9
   exact ⟨a,nm,ql,ps,sc,df,kwd,doc,pm,an,code,ct,oc,od,osl,rfl,(hL a).trans hl,g7,e2,g4,g5,g6,bp⟩
  ·cases e
 ·cases e
section
variable {K:Frag} {L:Addr → Option Obj}
theorem Fz (hL:∀ a,K.lookup a = L a) {v:Value} {y:V} (h:Ht L v y = true):VR K [] [] v y:=by
 unfold Ht at h
 split at h
 ·rename_i i
  unfold vK at h
  split at h
  ·exact ⟨_,by rw [beq_iff_eq.mp h]⟩
  ·cases h
 ·unfold FK at h
  split at h <;> try (cases h; done)
  split at h <;> try (cases h; done)
  rename_i o hl
  obtain ⟨c,dd,d,sl⟩:=o
  simp only [Bool.and_eq_true,beq_iff_eq,decide_eq_true_eq,Array.isEmpty_iff] at h
  obtain ⟨⟨⟨rfl,rfl⟩,rfl⟩,h⟩:=h
  unfold E1 at h
  split at h <;> try (cases h; done)
  obtain ⟨h1,h2⟩:=Bool.and_eq_true_iff.mp h
  refine ⟨_,_,rfl,.inr ((hL _).trans (hl.trans ?_)),wZ h2⟩
  rw [beq_iff_eq.mp h1]
 ·cases h
theorem EI (hL:∀ a,K.lookup a = L a) (h:gP.all (BY L K) = true):GQ K:=⟨fun x v e => by
 have:=List.all_eq_true.mp h _ (bg e)
 unfold BY at this
 split at this
 ·rename_i v' hv; exact ⟨v',hv,Fz hL this⟩
 ·cases this⟩
theorem BQ {C:Addr} {x:Str} (hi:qg K C = true) (h:xr K C x = true):rz K C x:=by
 unfold xr at h
 unfold qg at hi
 simp only [Bool.and_eq_true,beq_iff_eq] at h hi
 obtain ⟨⟨⟨⟨_,h1⟩,h2⟩,h5⟩,h6⟩:=hi
 refine ⟨h1,h2,?_,h.2,h5,h6⟩
 haveI h3:=h.1
 split at h3
 ·rename_i a ha; exact ⟨a,ha,h3⟩
 ·cases h3
theorem sN {c:Str} {C:Addr} (h:EN K c = some C):c ∈ gR ∧ fK K c = .ref C:=by
 unfold EN at h
 split at h
 ·rename_i hc
  refine ⟨hc,?_⟩
  split at h
  ·cases h; assumption
  ·cases h
 ·cases h
theorem gE {x:Str} (h:dP.lookup x = none):kX K x = fK K x:=by unfold kX; rw [h]
theorem mq {x c m:Str} {C f:Addr} (h:dP.lookup x = some (c,m)) (hc:fK K c = .ref C) (hf:findIn K (.ref C) m = some (some (.ref f))):kX K x = .ref f:=by unfold kX; rw [h]; dsimp only; rw [hc,hf]
theorem jt {x:Str} {d:AT} (h:ah.lookup x = some d):eA K x = some (kX K x):=by unfold eA; rw [h]
noncomputable def xd:Bool:=(ah.lookup ("range" : Str)).isNone && (ah.lookup ("len" : Str)).isNone && (ah.lookup ("abs" : Str)).isNone && dP.all (fun p => (ah.lookup p.1).isSome) &&
 ah.all fun p => match p.2 with
  | .fn f => f.params.all (fun x => f.names.lookup x == some .local || f.names.lookup x == some .cell) && decide ((cellsFrom 0 f.names []).map (·.1)).Nodup && f.names.all (fun p => decide (p.2 ≠ .free))
  | .cls c => gR.contains c && c == p.1 && (dP.lookup c).isNone && dP.lookup (c ++ ".__init__") == some (c,("__init__" : Str)) && (match ah.lookup (c ++ ".__init__") with | some (.fn _) => true | _ => false)
theorem qZ:xd = true:=by decide +kernel
theorem uQ:bootBuiltins "range" = some (.type "range"):=by kernel_rfl
theorem Am:bootBuiltins "len" = some (.builtin "len"):=by kernel_rfl
theorem zI:bootBuiltins "abs" = some (.builtin "abs"):=by kernel_rfl
section
variable (hn:vL K = true) (hc:vJ K = true)
include hn in
theorem Dq:(∀ p ∈ ah,AO K p.1 = true) ∧ nsIn K mainGlobals "range" = some none ∧ nsIn K mainGlobals "len" = some none ∧ nsIn K mainGlobals "abs" = some none:=by
 unfold vL at hn
 simp only [Bool.and_eq_true,beq_iff_eq,List.all_eq_true] at hn
 exact ⟨hn.1.1.1,hn.1.1.2,hn.1.2,hn.2⟩
include hc in
theorem ow:(∀ c ∈ gR,AJ K c = true) ∧ qj K "add" = true ∧ qj K "settle" = true:=by
 unfold vJ at hc
 simp only [Bool.and_eq_true,List.all_eq_true] at hc
 exact ⟨hc.1.1,hc.1.2,hc.2⟩
include hc in
theorem oi {c:Str} {C:Addr} (h1:c ∈ gR) (h2:fK K c = .ref C):qg K C = true ∧ (∀ x ∈ wj,xr K C x = true) ∧ keepIn K (.ref C) = true:=by
 have:=(ow hc).1 c h1
 unfold AJ at this
 rw [h2] at this
 simp only [Bool.and_eq_true,List.all_eq_true] at this
 exact ⟨this.1.1,this.1.2,this.2⟩
include hc in
theorem xo {k m:Str} {C:Addr} (hk:dP.lookup k = some (("ProofTree" : Str),m)) (hd:(ah.lookup k).isSome = true) (hm:qj K m = true) (hC:fK K "ProofTree" = .ref C) :
  ∃ f,eA K k = some (.ref f) ∧ plainGet K C m = true ∧ findIn K (.ref C) m = some (some (.ref f)) ∧ isFn K (.ref f) = true:=by
 haveI h1:=(oi hc (c := "ProofTree") (by decide +kernel) hC).1
 unfold qg at h1
 simp only [Bool.and_eq_true] at h1
 unfold qj at hm
 rw [hC] at hm
 dsimp only at hm
 split at hm
 ·rename_i f hf'
  obtain ⟨d,hd⟩:=Option.isSome_iff_exists.mp hd
  exact ⟨f,by rw [jt hd,mq hk hC hf'],h1.1.1.1.2,hf',hm⟩
 ·cases hm
include hc in
theorem A5 (hL:∀ a,K.lookup a = L a) (hv:dg.map (nH L K) = dg.map hH) {x:Str} {d:AT} (hx:ah.lookup x = some d):keepIn K (kX K x) = true:=by
 have e:=kM hv x (List.mem_map_of_mem (f:=(·.1)) (bg hx))
 haveI tx:=qZ
 unfold xd at tx
 simp only [Bool.and_eq_true] at tx
 haveI t5:=List.all_eq_true.mp tx.2 _ (bg hx)
 cases d with
 | fn f =>
  unfold nH hH FN at e
  rw [hx] at e
  dsimp only at e
  split at e
  ·rename_i a hva
   split at e
   ·rename_i hl
    rw [hva]
    unfold keepIn
    dsimp only
    rw [hL,hl]
   ·cases e
  ·cases e
 | cls c =>
  simp only [Bool.and_eq_true,beq_iff_eq,Option.isNone_iff_eq_none,List.contains_iff_mem] at t5
  obtain ⟨⟨⟨⟨h1,h2⟩,h3⟩,h4⟩,h5⟩:=t5
  subst h2
  haveI q:=(ow hc).1 c h1
  unfold AJ at q
  split at q
  ·rename_i C hC
   rw [gE h3,hC]
   exact (oi hc h1 hC).2.2
  ·cases q
include hn hc in
theorem Ia (hL:∀ a,K.lookup a = L a) (hv:dg.map (nH L K) = dg.map hH):FU K (EN K) (eA K):=by
 have P:=Dq hn
 have tx:=qZ
 unfold xd at tx
 simp only [Bool.and_eq_true,Option.isNone_iff_eq_none] at tx
 obtain ⟨⟨⟨⟨t1,t2⟩,t3⟩,t4⟩,t5⟩:=tx
 haveI b1:eA K "range" = some (.type "range"):=by unfold eA; rw [t1]; rfl
 haveI b2:eA K "len" = some (.builtin "len"):=by unfold eA; rw [t2]; rfl
 haveI b3:eA K "abs" = some (.builtin "abs"):=by unfold eA; rw [t3]; rfl
 have bx:∀ x fv,vM x = some fv → (x = "range" ∧ fv = .type "range") ∨ (x = "len" ∧ fv = .builtin "len") ∨ (x = "abs" ∧ fv = .builtin "abs"):=fun x fv e => by
  unfold vM at e
  split at e
  ·cases e; exact .inl ⟨by assumption,rfl⟩
  ·split at e
   ·cases e; exact .inr (.inl ⟨by assumption,rfl⟩)
   ·split at e
    ·cases e; exact .inr (.inr ⟨by assumption,rfl⟩)
    ·cases e
 refine ⟨fun x fv e hd => ?_,fun x fv e => ?_,b1,b2,b3,fun c name k C hk hC => ?_⟩
 ·unfold eA at e
  split at e
  ·rename_i d hx
   cases e
   have hn:=P.1 _ (bg hx)
   unfold AO at hn
   simp only [hd,Bool.false_or,Bool.and_eq_true,Option.isNone_iff_eq_none] at hn
   obtain ⟨h1,h2⟩:=hn
   rw [gE h1]
   split at h2
   ·rename_i v hv; exact .inl (hv.trans (by unfold fK; rw [hv]))
   ·cases h2
  ·rcases bx x fv e with ⟨rfl,rfl⟩ | ⟨rfl,rfl⟩ | ⟨rfl,rfl⟩
   ·exact .inr ⟨P.2.1,uQ,by decide⟩
   ·exact .inr ⟨P.2.2.1,Am,by decide⟩
   ·exact .inr ⟨P.2.2.2,zI,by decide⟩
 ·unfold eA at e
  split at e
  ·rename_i d hx
   cases e
   exact CW.of_keep (A5 hc hL hv hx)
  ·rcases bx x fv e with ⟨rfl,rfl⟩ | ⟨rfl,rfl⟩ | ⟨rfl,rfl⟩
   ·exact CW.type
   ·exact CW.builtin
   ·exact CW.builtin
 ·unfold fD at hk
  have td:∀ k,k ∈ dP.map (·.1) → (ah.lookup k).isSome = true:=fun k hk => by
   obtain ⟨p,hp,rfl⟩:=List.mem_map.mp hk
   exact List.all_eq_true.mp t4 p hp
  split at hk
  ·rename_i hcn
   subst hcn
   obtain ⟨_,hC⟩:=sN hC
   split at hk
   ·rename_i hn; subst hn; cases hk
    exact xo hc (by decide +kernel) (td _ (by decide +kernel)) (ow hc).2.1 hC
   ·split at hk
    ·rename_i hn; subst hn; cases hk
     exact xo hc (by decide +kernel) (td _ (by decide +kernel)) (ow hc).2.2 hC
    ·cases hk
  ·cases hk
include hn hc in
theorem gl (hL:∀ a,K.lookup a = L a) (hv:dg.map (nH L K) = dg.map hH) (hg:gP.all (BY L K) = true):Gl K (EN K) (eA K):=
 ⟨EI hL hg,fun c C x hC hx => let ⟨h1,h2⟩:=sN hC; BQ (oi hc h1 h2).1 ((oi hc h1 h2).2.1 x (vR hx)),Ia hn hc hL hv⟩
include hc in
theorem pi (hL:∀ a,K.lookup a = L a) (hv:dg.map (nH L K) = dg.map hH):PI K (EN K) (eA K) ah:=by
 haveI tx:=qZ
 unfold xd at tx
 simp only [Bool.and_eq_true] at tx
 haveI t5:=List.all_eq_true.mp tx.2
 refine ⟨fun x f hx => ⟨_,jt hx,?_,?_⟩,fun x c hx => ?_⟩
 ·have e:=kM hv x (List.mem_map_of_mem (f:=(·.1)) (bg hx))
  unfold nH hH at e
  rw [hx] at e
  dsimp only at e
  exact CX hL e
 ·have:=t5 _ (bg hx)
  simp only [Bool.and_eq_true,List.all_eq_true,Bool.or_eq_true,beq_iff_eq,decide_eq_true_eq] at this
  exact ⟨this.1.1,this.1.2,this.2⟩
 ·haveI:=t5 _ (bg hx)
  simp only [Bool.and_eq_true,beq_iff_eq,Option.isNone_iff_eq_none,List.contains_iff_mem] at this
  obtain ⟨⟨⟨⟨h1,h2⟩,h3⟩,h4⟩,h5⟩:=this
  subst h2
  haveI q:=(ow hc).1 c h1
  unfold AJ at q
  split at q
  ·rename_i C hC
   have hi:=(oi hc h1 hC).1
   unfold qg at hi
   simp only [Bool.and_eq_true] at hi
   haveI q1:=hi.1.1.1.1.1
   haveI q2:=hi.1.1.1.1.2
   split at q2
   ·rename_i fI hfI
    split at h5
    ·rename_i f hd
     exact ⟨C,fI,f,by rw [jt hx,gE h3,hC],by unfold EN; rw [if_pos h1,hC],q1,hfI,q2,by rw [jt hd,mq h4 hC hfI],hd⟩
    ·cases h5
   ·cases q2
  ·cases q
end
end
end
section
open PySem PySem.W PySem.Calls PyProof.Rows
section
variable {M:Model} {A:Around} {E:Value → Shared → Prop} {h:Heap} {g:Array GenState} {d:Drawn} {t:Nat} {os:OsState}
variable {nm q:Str} {C N:Addr} {bs bm:List Value} {hdct:Bool} {sn:List Str} {sub:List Value} {ab:Bool} {col:Option Bool} {dd:Option Addr} {k0 k1 k2 k3 k5:Option Value}
noncomputable def u6:List Value:=[.type "Exception",.type "BaseException",.type "object"]
noncomputable abbrev vp:ExcBaseFacts "Exception" "Exception.__new__" "Exception.__init__" u6:=PySem.F.excBase_Exception
noncomputable abbrev kY (nm q:Str) (C N C2:Addr) (bs:List Value) (hdct:Bool) (sn:List Str) (sub:List Value) (ab:Bool) (col:Option Bool) (dd:Option Addr) (k0 k1 k2 k3 k5:Option Value):Obj:=
 excClassObj nm q C N bs (.ref C2 :: u6) hdct sn sub ab col dd k0 k1 k2 k3 k5 "Exception.__new__"
theorem rA (C C2:Addr):(Value.ref C :: .ref C2 :: u6).contains (.type "Exception") = true:=by simp [u6]
theorem yV (C C2:Addr):(Value.ref C :: .ref C2 :: u6).contains (.type "BaseException") = true:=by simp [u6]
theorem A4 (C C2:Addr):(Value.ref C :: .ref C2 :: u6).contains (.type "AttributeError") = false:=by simp [u6]
theorem BV (C C2:Addr):(Value.ref C :: .ref C2 :: u6).contains (.type "NameError") = false:=by simp [u6]
variable {C2:Addr}
theorem sH {rest:List Value} {Q:Unit → Shared → Prop} (hC:h.get? C = some (kY nm q C N C2 bs hdct sn sub ab col dd k0 k1 k2 k3 k5))
  (hq:Q () ⟨h,g,d,t,os⟩):wpAny M A (checkBuiltinCall "Exception.__new__" ⟨.ref C :: rest,[]⟩) Q E ⟨h,g,d,t,os⟩:=by
 haveI hcont:=rA C C2
 haveI hstar:=vp.noStar
 simp only [checkBuiltinCall,vp.newKind,vp.newSplit,vp.newRow]
 repeat (first | refine wpAny_loadPart_at hC ?_ | (refine wpAny_isSubtype_exc hC ?_; rw [hcont]) | refine wpAny_staticBase_exc hC ?_ | refine wpAny_madeBy_exc hC ?_ | simp only [bne_self_eq_false,Bool.false_eq_true,if_false] | wp_step)
 exact hq
end
section
variable {prog:Program} {w:World} {A:Around} {R:Result → Shared → Prop} {h:Heap} {g:Array GenState} {d:Drawn} {t:Nat} {os:OsState}
variable {nm q:Str} {C N C2:Addr} {bs:List Value} {hdct:Bool} {sn:List Str} {sub:List Value} {ab:Bool} {col:Option Bool} {dd:Option Addr} {k0 k1 k2 k3 k5:Option Value}
noncomputable def bY (C t:Addr):Obj:={ cls:=.ref C,data:=.fields #[.ref t,.none,.none,.none,.bool false,.none] }
noncomputable def dU (l:List Value):Obj:={ cls:=.type "tuple",data:=.seq l.toArray }
theorem EX {rest:List Value} (hC:h.get? C = some (kY nm q C N C2 bs hdct sn sub ab col dd k0 k1 k2 k3 k5))
  (hq:R (.ok (.ret (.ref (h.objs.size + 1)))) ⟨(h.push (dU rest)).push (bY C h.objs.size),g,d,t,os⟩) (hrest:rest.length ≤ sizeLine) :
  codeAny (model prog w) A (.builtin "Exception.__new__" ⟨.ref C :: rest,[]⟩) R ⟨h,g,d,t,os⟩:=by
 haveI hends:=vp.ends
 haveI hcB:=rA C C2
 haveI hcA:=A4 C C2
 haveI hcN:=BV C C2
 refine codeAny_builtinAt vp.entry ?_
 unfold Builtin.«BaseException.__new__»
 refine PySem.wpAt_bind ?_
 show PySem.wpAt _ _ _ (stack >>= _) _ _ _
 refine PySem.wpAt_bind (PySem.wpAt_stack fun p below => PySem.wpAt_of_wpAny ?_)
 wp_walk
 refine PySem.wpAt_of_wpAny ?_
 rw [vp.owner]
 repeat (first | with_reducible refine wpAny_madeHere_exc vp.canon hC ?_ | with_reducible refine wpAny_loadPart_at hC ?_ | (with_reducible refine wpAny_isSubtype_exc hC ?_; first | rw [hcB] | rw [hcA] | rw [hcN]) | wp_step)
 show R _ _
 rw [Heap.size_push]
 exact hq
end
end
section
open PySem PySem.W PySem.Calls PyProof.Rows
section
variable {prog:Program} {w:World} {A:Around} {E:Value → Shared → Prop} {h:Heap} {g:Array GenState} {d:Drawn} {t:Nat} {os:OsState}
variable {nm q:Str} {C N C2:Addr} {bs:List Value} {hdct:Bool} {sn:List Str} {sub:List Value} {ab:Bool} {col:Option Bool} {dd:Option Addr} {k0 k1 k2 k3 k5:Option Value}
theorem rc {M:Model} {e:Addr} {oe:Obj} {rest:List Value} {Q:Unit → Shared → Prop}
  (hC:h.get? C = some (kY nm q C N C2 bs hdct sn sub ab col dd k0 k1 k2 k3 k5)) (he:h.get? e = some oe) (hcls:oe.cls = .ref C) (hq:Q () ⟨h,g,d,t,os⟩) :
  wpAny M A (checkBuiltinCall "Exception.__init__" ⟨.ref e :: rest,[]⟩) Q E ⟨h,g,d,t,os⟩:=by
 haveI hcB:=rA C C2
 haveI hshort:=vp.noStar
 simp only [checkBuiltinCall,vp.initKind,vp.initSplit,vp.initRow]
 repeat (first | (with_reducible refine wpAny_loadPart_at he ?_; rw [hcls]) | with_reducible refine wpAny_loadPart_at hC ?_ | (with_reducible refine wpAny_isSubtype_exc hC ?_; rw [hcB]) | wp_step)
 refine wpAny_onRaise ?_
 rw [show ∀ (a b:String) (n:Nat),Bind.check ⟨.positional,"*","Exception",.self,[⟨"args",.varPos,false⟩]⟩ a b n (List.map (fun x => x.fst) ({ pos:=Value.ref e :: rest }:Args).kw) = pure () from
  fun a b n => check_star_args _ _ _ _ _ _]
 exact wpAny_pure hq
theorem Ed {e t0:Addr} {v:Value} {Q:Value → Shared → Prop} (hC:h.get? C = some (kY nm q C N C2 bs hdct sn sub ab col dd k0 k1 k2 k3 k5))
  (he:h.get? e = some (bY C t0)) (hq:Q .none ⟨(h.push (dU [v])).update e (Obj.mapFields (·.setIfInBounds 0 (Value.ref h.objs.size))),g,d,t,os⟩) :
  wpAny (model prog w) A (call (.builtin "Exception.__init__") [.ref e,v]) Q E ⟨h,g,d,t,os⟩:=by
 refine wpAny_call (codeAny_call_builtin vp.init.plain vp.initEntry (rc hC he rfl ?_))
 unfold bY at he
 wp_walk
 exact hq
end
end
section
open PySem PySem.W PySem.Calls PyProof.Rows Builtin Builtin.ObjectAttr
theorem Ad (self:Value) (C C2:Addr):refuseLoop self "__setattr__" (.ref C :: .ref C2 :: u6) = pure ():=by
 rw [refuseLoop_ref,refuseLoop_ref]
 unfold refuseLoop u6
 kernel_rfl
section
variable {prog:Program} {w:World} {A:Around} {E:Value → Shared → Prop} {h:Heap} {g:Array GenState} {d:Drawn} {t:Nat} {os:OsState} {K:Frag} {C C2 e t0:Addr} {cd:ClassData} {v:Value}
theorem Bb {Q:Unit → Shared → Prop} (X:K.In h) (hc:clsIn K C = some cd) (hm:cd.mro = .ref C :: .ref C2 :: u6) (hh:cd.hasDict = true) (ht:findIn K (.ref C) "text" = some none)
  (hs:findIn K (.ref C) "__setattr__" = some (some (.builtin "object.__setattr__"))) (he:h.get? e = some (bY C t0))
  (hq:∀ h' tk' dx,(∀ b o,b ≠ e → h.get? b = some o → h'.get? b = some o) → h'.get? e = some { bY C t0 with dict:=some dx } → Q () ⟨h',g,d,tk',os⟩) :
  wpAny (model prog w) A (setAttr (.ref e) "text" v) Q E ⟨h,g,d,t,os⟩:=by
 have I:InstAt h e (bY C t0) C none:=⟨he,rfl,rfl,trivial⟩
 refine set_plain (s:=⟨h,g,d,t,os⟩) X I hs ?_
 have SF:=PySem.F.store_object
 haveI sub:Looks (model prog w) h (isInstance (.ref e) (.type "object")) true:=I.type.andThen (looks_mroIn X (by unfold mroIn; rw [hc,Option.bind_some,hm]; rfl))
 refine codeAny_call_builtin SF.slot.plain SF.entry (@check_slot (model prog w) _ _ ⟨h,g,d,t + 1,os⟩ "object.__setattr__" "object" "__setattr__" (.ref e) [.str "text" t,v] [] _ SF.kind SF.split sub (SF.args (.ref e) (.str "text" t) v) ?_)
 haveI hl:Looks (model prog w) h (mroOf (.ref C)) cd.mro:=(looks_clsIn X hc).andThen .now
 rw [osa_eq,refuse_eq]
 refine wpAny_bind (wpAny_bind (I.type.at (wpAny_bind (hl.at ?_))))
 rw [hm,Ad]
 refine wpAny_pure (wpAny_bind (I.type.at (wpAny_bind ((looks_findIn X ht).at (wpAny_bind (wpAny_pure ?_))))))
 haveI hes:e ≠ h.objs.size:=Nat.ne_of_lt (Heap.lt_size he)
 have he₁ : (h.push { cls:=.type "dict",data:=.dict #[] }).get? e = some (bY C t0):=Heap.get?_push_of_some _ he
 haveI hgd:((h.push { cls:=.type "dict",data:=.dict #[] }).update e fun o => { cls:=o.cls,dict:=some h.objs.size,data:=o.data,slots:=o.slots }).get? h.objs.size = some { cls:=.type "dict",data:=.dict #[] }:=
  (Heap.get?_update_ne _ _ _ _ hes.symm).trans (Heap.get?_push_at rfl rfl)
 haveI hnd:((h.push { cls:=.type "dict",data:=.dict #[] }).update e fun o => { cls:=o.cls,dict:=some h.objs.size,data:=o.data,slots:=o.slots }).Ns h.objs.size (fun _ => none):=
  ⟨_,#[],_,hgd,rfl,fun e he => absurd he (by simp),fun _ => rfl⟩
 refine wpAny_bind (wpAny_pure (wpAny_bind (wpAny_bind (wpAny_loadPart (s:=⟨h,g,d,t + 1,os⟩) he (wpAny_bind ((looks_clsIn X hc).at ?_))))))
 rw [hh]
 refine wpAny_bind (wpAny_alloc' (wpAny_bind (wpAny_update' he₁ (wpAny_pure ?_))))
 show wpAny _ _ (storeInDict h.objs.size (.str "text" t) "text" v) _ _ _
 unfold storeInDict newKeyGuard
 refine wpAny_bind (wpAny_pure (wpAny_bind (wpAny_nsSet1 (Heap.Ns1.of_empty hnd) fun h' hn' hs => ?_)))
 obtain ⟨oD,esD,epD,hoD,hdD,hcD⟩:=hn'.count (Within.cons "text" v Within.nil)
 refine wpAny_bind (wpAny_lookBehind hoD (by rw [hdD]; exact pastItsLine_dict (Nat.le_trans hcD (by rw [List.length_cons,List.length_nil,sizeLine_eq]; omega))) ?_)
 refine wpAny_pure (hq h' _ h.objs.size (fun b ob hbx hb => ?_) ?_)
 ·exact (hs.2 b (Nat.ne_of_lt (Heap.lt_size hb))).trans ((Heap.get?_update_ne _ _ _ _ hbx).trans (Heap.get?_push_of_some _ hb))
 ·exact (hs.2 e hes).trans (Heap.get?_update_self _ he₁ rfl)
end
end
section
open PySem PySem.W PySem.Calls PyProof.Rows
section
variable {prog:Program} {w:World} {A:Around} {E:Value → Shared → Prop} {h:Heap} {g:Array GenState} {d:Drawn} {t:Nat} {os:OsState} {K:Frag}
variable {nm q:Str} {C N C2 fI:Addr} {bs:List Value} {hdct:Bool} {sn:List Str} {sub:List Value} {ab:Bool} {col:Option Bool} {dd:Option Addr} {k0 k1 k2 k3 k5:Option Value} {v:Value}
theorem sD {Q:Value → Shared → Prop} (X:K.In h) (hC:h.get? C = some (kY nm q C N C2 bs hdct sn sub ab col dd k0 k1 k2 k3 k5)) (hi:findIn K (.ref C) "__init__" = some (some (.ref fI))) (hf:isFn K (.ref fI) = true)
  (hq:wpAny (model prog w) (A.under (.builtin "type.__call__" ⟨[.ref C,v],[]⟩)) (call (.ref fI) [.ref (h.objs.size + 1),v]) (fun r s' => r = .none ∧ Q (.ref (h.objs.size + 1)) s') E ⟨(h.push (dU [v])).push (bY C h.objs.size),g,d,t,os⟩) :
  wpAny (model prog w) A (call (.ref C) [v]) Q E ⟨h,g,d,t,os⟩:=by
 haveI f1:=tc_lookup
 haveI f2:=tc_bind (.ref C)
 haveI hT:(⟨h,g,d,t,os⟩:Shared).TypeIs (.ref C) "type" := ⟨_,hC,rfl⟩
 refine wpAny_call (codeAny_of_tree ?_)
 show wpAny _ _ (callAny (.ref C) _) _ _ _
 repeat (any_goals (first | assumption | with_reducible refine wpAny_loadPart_at hC ?_ | wp_step))
 refine ⟨rfl,?_⟩
 refine codeAny_call_builtin_at (Code.quiet_builtin _ (by decide +kernel)) entry_typeCall (wpAny_check_type_call_sub hC ?_)
 repeat (first | with_reducible refine wpAny_loadPart_at hC ?_ | with_reducible refine wpAny_madeBy_exc hC ?_ | wp_step)
 refine codeAny_call_builtin_code (Code.quiet_builtin _ vp.quiet) (sH hC ?_)
 refine EX hC ?_ (by show 1 ≤ sizeLine; decide)
 show wpAny _ _ _ _ _ _
 have hC₁:=Heap.get?_push_of_some (bY C h.objs.size) (Heap.get?_push_of_some (dU [v]) hC)
 haveI hget:((h.push (dU [v])).push (bY C h.objs.size)).get? (h.objs.size + 1) = some (bY C h.objs.size):=by unfold dU bY; heap_get
 haveI hcC:(Value.ref C :: .ref C2 :: u6).contains (.ref C) = true:=by simp
 have X₁ : K.In ((h.push (dU [v])).push (bY C h.objs.size)):=fun b o e => Heap.get?_push_of_some _ (Heap.get?_push_of_some _ (X b o e))
 unfold isInstance
 haveI I:InstAt ((h.push (dU [v])).push (bY C h.objs.size)) (h.objs.size + 1) (bY C h.objs.size) C none:=⟨hget,rfl,rfl,trivial⟩
 repeat (first | with_reducible refine wpAny_loadPart_at hget ?_ | wp_step)
 show wpAny _ _ (isSubtype (.ref C) _) _ _ _
 refine wpAny_isSubtype_exc hC₁ ?_
 rw [hcC]
 rw [if_neg (by decide)]
 refine wpAny_bind (wpAny_holding ?_)
 unfold callSpecial? specialOf
 refine wpAny_bind (wpAny_bind (I.type.at ((looks_findIn X₁ hi).at (wpAny_holding (wpAny_bind ((bind_fn X₁ _ (beq_iff_eq.mp hf)).at ?_))))))
 refine wpAny_bind (wpAny_mono hq (fun r s' z => ?_) fun _ _ z => z)
 obtain ⟨rfl,z⟩:=z
 exact wpAny_pure (wpAny_pure z)
end
end
section
open PySem PySem.W PySem.Calls PyProof.Rows
inductive Ii (K:Frag) (C C2:Addr):Prop
 | mk (nm q:Str) (N:Addr) (bs:List Value) (sn:List Str) (sub:List Value) (ab:Bool) (col:Option Bool) (dd:Option Addr) (k0 k1 k2 k3 k5:Option Value) (h:K.lookup C = some (kY nm q C N C2 bs true sn sub ab col dd k0 k1 k2 k3 k5))
structure ExK (K:Frag) (C C2 fI:Addr):Prop where
 obj:Ii K C C2
 init:findIn K (.ref C) "__init__" = some (some (.ref fI))
 isF:isFn K (.ref fI) = true
 text:findIn K (.ref C) "text" = some none
 setter:findIn K (.ref C) "__setattr__" = some (some (.builtin "object.__setattr__"))
theorem Ae (K:Frag):findCls K (.type "Exception") (.type "type") "__init__" = some (.val (.builtin "Exception.__init__")):=by kernel_rfl
theorem AB:typeOf (.type "Exception") = pure (.type "type"):=by kernel_rfl
theorem y5:bootBuiltins "Exception" = some (.type "Exception"):=by kernel_rfl
section
variable {prog:Program} {w:World} {A:Around} {E:Value → Shared → Prop} {s:Shared} {K:Frag} {C C2 fI e t0 g L':Addr} {G:Heap} {m:Str → Option Value} {env:Env} {v:Value} {news:ay}
theorem nj {x:Str} {p:Pos} {u:Value} {Q:Value → Shared → Prop} (F:Fr G L' s.heap m) (hl:env.locals = L') (hk:env.scope.kind = .function) (hx:env.kindOf x = some .local) (hd:(x == ("__debug__" : Str)) = false) (hv:m x = some u) (h:Q u s) :
  wpAny (model prog w) A (eval (.Name x p) env) Q E s:=by
 subst hl
 exact wpAny_Name (wpAny_loadName_local hk hx F.ns hv h) hd
theorem zo {h h':Heap} (F:Fr G L' h m) (hL:e ≠ L') (hn:G.get? e = none) (k:∀ b o,b ≠ e → h.get? b = some o → h'.get? b = some o):Fr G L' h' m:=by
 obtain ⟨oL,a1,a2,hoL,a3⟩:=F.ns
 exact ⟨⟨oL,a1,a2,k _ _ hL.symm hoL,a3⟩,fun b o q => k b o (fun z => by rw [z,hn] at q; cases q) (F.keep b o q),F.above⟩
theorem D1 {p1 p2 p3 p4 p5 p6 p7 p8 p9 p10:Pos} {Q:Flow → Shared → Prop} (B:Base K G) (X:ExK K C C2 fI) (hex:nsIn K mainGlobals "Exception" = some none) (hp:(p2.endLine == p5.line) = true)
  (hk:env.scope.kind = .function) (hlc:env.locals = L') (hgl:env.globals = mainGlobals) (hbl:env.builtins = builtinsNs) (k1:env.kindOf "self" = some .local) (k2:env.kindOf "text" = some .local) (k3:env.kindOf "Exception" = some .globalImplicit)
  (F:Fr G L' s.heap m) (N:News G L' s.heap ((e,bY C t0) :: news)) (m1:m "self" = some (.ref e)) (m2:m "text" = some v)
  (hq:∀ h' tk' dx t1,Fr G L' h' m → h'.get? e = some { bY C t1 with dict:=some dx } → (∀ b o,b ≠ e → s.heap.get? b = some o → h'.get? b = some o) → Q .next { s with heap:=h',toks:=tk' }) :
  wpAny (model prog w) A (execs [.Expr (.Call (.Attribute (.Name "Exception" p1) "__init__" p2) [.Name "self" p3,.Name "text" p4] [] p5) p6,.Assign [.Attribute (.Name "self" p7) "text" p8] (.Name "text" p9) p10] env) Q E s:=by
 obtain ⟨nm,q,NN,bs,sn,sub,ab,col,dd,k0,kk1,kk2,kk3,kk5,hCl⟩:=X.obj
 obtain ⟨mg,hmg⟩:=B.g
 obtain ⟨mb,hmb,hbb⟩:=B.b
 have he:=(N _ (.head _)).1
 haveI hCG:=B.X _ _ hCl
 haveI hCe:C ≠ e:=fun q => by
  have:=(N _ (.head _)).2.2
  rw [← q] at this
  dsimp only at this
  rw [hCG] at this; cases this
 have hns:dR [PySem.Expr.Name "self" p3,.Name "text" p4]:=fun x hx y p q => by
  subst q
  simp at hx
 haveI hns1:dR [PySem.Expr.Name "text" p4]:=fun x hx => hns x (.tail _ hx)
 haveI hC:=F.keep _ _ hCG
 refine wpAny_execs_cons (wpAny_Expr (jw rfl hp (show 2 < 29 by decide) hns (Name_function_global hk k3 (loadGlobal_builtin (by rw [hgl]; exact hmg.keeps F.keep) (mg_none_of (B.X.keeps F.keep) (hmg.keeps F.keep) hex) (by rw [hbl]; exact hmb.keeps F.keep) ((hbb _ (by decide)).trans y5) (fun pl => ?_)))) (by unfold interactive; rw [hk]; rfl) rfl)
 refine method_type F B.X AB (by decide +kernel) (Ae K) (by decide +kernel) ?_
 show wpAny (model prog w) A (callWith p5 (.builtin "Exception.__init__") [] (backTo p5 (starEach [PySem.Expr.Name "self" p3,.Name "text" p4] env)) []) _ _ _
 refine callWith_of (P:=fun h => K.In h) (by rw [fB hns]; rfl) (fun h X => CW.builtin _ h X) ?_
 rw [cT (env:=env) (rest:=[PySem.Expr.Name "text" p4]) (hns _ (.head _))]
 refine evalArgs_plain (wpAny_items_cons (nj (s:={ s with toks:=s.toks + 1 }) F hlc hk k1 rfl m1 (wpAny_items_cons (nj (s:={ s with toks:=s.toks + 1 }) F hlc hk k2 rfl m2 (wpAny_items_nil ⟨B.X.keeps F.keep,?_⟩)) (cT (hns1 _ (.head _))))) rfl)
 obtain ⟨hp,gs,dr,tk,os⟩:=s
 dsimp only at F N he hC hq ⊢
 refine Ed hC he ?_
 haveI hsz:e ≠ hp.objs.size:=Nat.ne_of_lt (Heap.lt_size he)
 haveI he1:((hp.push (dU [v])).update e (Obj.mapFields (·.setIfInBounds 0 (Value.ref hp.objs.size)))).get? e = some (bY C hp.objs.size):=Heap.get?_update_self _ (Heap.get?_push_of_some _ he) rfl
 haveI keep1:∀ b o,b ≠ e → hp.get? b = some o → ((hp.push (dU [v])).update e (Obj.mapFields (·.setIfInBounds 0 (Value.ref hp.objs.size)))).get? b = some o:=fun b o hb h =>
  (Heap.get?_update_ne _ _ _ _ hb).trans (Heap.get?_push_of_some _ h)
 have F1:=zo F (N _ (.head _)).2.1 (N _ (.head _)).2.2 keep1
 refine wpAny_execs_cons (wpAny_Assign_stores (nj (s:=⟨_,gs,dr,tk + 1,os⟩) F1 hlc hk k2 rfl m2 ?_) pV jB)
 show wpAny _ A (assign (.Attribute (.Name "self" p7) "text" p8) env v) _ _ _
 rw [arm_assign_Attribute]
 refine wpAny_bind (wpAny_holding (nj (s:=⟨_,gs,dr,tk + 1,os⟩) F1 hlc hk k1 rfl m1 (wpAny_bind (wpAny_standAt (wpAny_bind (wpAny_holding ?_))))))
 refine Bb (B.X.keeps F1.keep) (cd:=_) (by unfold clsIn; rw [hCl]) rfl rfl X.text X.setter he1 fun h' tk' dx kp hx => ?_
 refine wpAny_release (wpAny_execs_nil (hq h' tk' dx _ (zo F1 (N _ (.head _)).2.1 (N _ (.head _)).2.2 kp) hx fun b o hb h => kp b o hb (keep1 b o hb h)))
end
end
section
open PySem PySem.W PySem.Calls PyProof.Rows
section
variable {prog:Program} {w:World} {A:Around} {E:Value → Shared → Prop} {s:Shared} {K:Frag} {C C2 fI L:Addr} {base h₀ : Heap} {m:Str → Option Value} {env:Env} {news:ay}
noncomputable abbrev gb (C t dx:Addr):Obj:={ bY C t with dict:=some dx }
theorem ur {nm q:Str} {N:Addr} {bs:List Value} {hdct:Bool} {sn:List Str} {sub:List Value} {ab:Bool} {col:Option Bool} {dd:Option Addr} {k0 k1 k2 k3 k5:Option Value} {x:Sem Value} {Q:Flow → Shared → Prop} (hh:A.handled = none)
  (h:wpAny (model prog w) A x (fun v s₁ => ∃ e t dx,v = .ref e ∧ s₁.heap.get? C = some (kY nm q C N C2 bs hdct sn sub ab col dd k0 k1 k2 k3 k5) ∧ s₁.heap.get? e = some (gb C t dx) ∧ E (.ref e) s₁) E s) :
  wpAny (model prog w) A (raiseStmt env (some x) none) Q E s:=by
 haveI hcB:=yV C C2
 unfold raiseStmt
 refine wpAny_bind (wpAny_mono h (fun v s₁ h₁ => ?_) fun _ _ x => x)
 obtain ⟨e,t,dx,rfl,hC,he,hE⟩:=h₁
 obtain ⟨hp,g,d,tk,os⟩:=s₁
 unfold gb bY at he
 repeat (first | with_reducible refine wpAny_loadPart_at he ?_ | with_reducible refine wpAny_loadPart_at hC ?_ | (with_reducible refine wpAny_isSubtype_exc hC ?_; rw [hcB]) | wp_step)
 exact wpAny_raiseNew_none hh hE
noncomputable def gI:aK:=[("self",.local),("text",.local),("Exception",.globalImplicit)]
noncomputable def i4:List Str:=["self","text"]
theorem DQ {fE:Fn} {p1 p2 p3 p4 p5 p6 p7 p8 p9 p10:Pos} {v:Value} {Q:Value → Shared → Prop} (cx:Cx A base h₀ L env) (hd:A.depth + 1 < recursionLimit) (B:Base K h₀) (X:ExK K C C2 fI) (hex:nsIn K mainGlobals "Exception" = some none)
  (fa:jT K (.ref fI) fE) (hps:fE.params = i4) (hns:fE.names = gI)
  (hb:fE.body = [.Expr (.Call (.Attribute (.Name "Exception" p1) "__init__" p2) [.Name "self" p3,.Name "text" p4] [] p5) p6,.Assign [.Attribute (.Name "self" p7) "text" p8] (.Name "text" p9) p10]) (hp:(p2.endLine == p5.line) = true)
  (F:Fr h₀ L s.heap m) (N:News h₀ L s.heap news)
  (hq:∀ h' tk' e t dx,Fr h₀ L h' m → News h₀ L h' ((e,gb C t dx) :: news) → s.heap.get? e = none → Q (.ref e) { s with heap:=h',toks:=tk' }) :
  wpAny (model prog w) A (call (.ref C) [v]) Q E s:=by
 obtain ⟨nm,q,NN,bs,sn,sub,ab,col,dd,k0,kk1,kk2,kk3,kk5,hCl⟩:=X.obj
 obtain ⟨hp',gs,dr,tk,os⟩:=s
 dsimp only at F N hq
 haveI hC:=B.X.keeps F.keep _ _ hCl
 refine sD (B.X.keeps F.keep) hC X.init X.isF ?_
 haveI k1:∀ b o,hp'.get? b = some o → ((hp'.push (dU [v])).push (bY C hp'.objs.size)).get? b = some o:=fun b o h => Heap.get?_push_of_some _ (Heap.get?_push_of_some _ h)
 haveI F1:Fr h₀ L ((hp'.push (dU [v])).push (bY C hp'.objs.size)) m:=F.keeps k1
 haveI hget:((hp'.push (dU [v])).push (bY C hp'.objs.size)).get? (hp'.objs.size + 1) = some (bY C hp'.objs.size):=by unfold dU bY; heap_get
 have hnew:hp'.get? (hp'.objs.size + 1) = none:=Heap.get?_none_of_le (Nat.le_succ _)
 haveI N1:News h₀ L ((hp'.push (dU [v])).push (bY C hp'.objs.size)) ((hp'.objs.size + 1,bY C hp'.objs.size) :: news):=fun p hp => by
  rcases List.mem_cons.mp hp with rfl | hp
  ·refine ⟨hget,fun e => ?_,?_⟩
   ·obtain ⟨oL,_,_,hoL,_⟩:=F.ns
    haveI e:hp'.objs.size + 1 = L:=e
    rw [← e,hnew] at hoL; cases hoL
   ·cases z:h₀.get? (hp'.objs.size + 1) with
    | none => rfl
    | some o => haveI:=F.keep _ _ z; rw [hnew] at this; cases this
  ·exact ⟨k1 _ _ (N p hp).1,(N p hp).2⟩
 obtain ⟨a,name,qual,params,scope,dV,kV,doc,pm,an,cdv,ct,oc,od,osl,hfa,ho,hcd,hnames,hkind,hco,hgen,hbind⟩:=fa
 cases hfa
 obtain ⟨A₀,outer,below,frames⟩:=cx.ex
 haveI hbind':=hbind [.ref (hp'.objs.size + 1),v] (by rw [hps]; rfl)
 rw [hps] at hbind'
 rw [hns] at hnames
 have kof:∀ x,scope.names.lookup x = gI.lookup x:=fun x => by rw [hnames]
 refine wpAny_call (callX_plain (s:=⟨_,gs,dr,tk,os⟩) below F1 N1 B.nolimit frames cx.frame cx.kind ((B.X.keeps F1.keep) _ _ ho) rfl (codeRec_of (B.X.keeps F1.keep) hcd) hd (BindsTo.of_eq hbind') (fun y hy => ?_) (fun g' L' h₁ FG F2 N2 BG st hlt => ?_) (fun y hy => ?_) hco hgen hkind)
 ·rw [kof]
  haveI:=(List.of_mem_zip hy).1
  revert this
  exact (by decide:∀ x ∈ i4,gI.lookup x = some .local) y.1
 ·rw [hb]
  haveI Bg:Base K g':=B.keeps st
  refine D1 (env:=envX qual scope L' _ cdv []) Bg X hex hp hkind rfl rfl rfl (by show scope.names.lookup _ = _; rw [kof]; decide) (by show scope.names.lookup _ = _; rw [kof]; decide) (by show scope.names.lookup _ = _; rw [kof]; decide) F2 N2 (by rfl) (by rfl) fun h' tk' dx t1 F3 he kp => ?_
  haveI N3:News g' L' h' ((hp'.objs.size + 1,gb C t1 dx) :: news):=fun p hp => by
   rcases List.mem_cons.mp hp with rfl | hp
   ·exact ⟨he,(N2 _ (.head _)).2⟩
   ·refine ⟨kp _ _ (fun q => ?_) (N2 p (.tail _ hp)).1,(N2 p (.tail _ hp)).2⟩
    haveI:=(N p hp).1
    rw [q,hnew] at this; cases this
  exact leaveK_ F3 N3 fun F4 N4 => ⟨rfl,hq _ _ _ _ _ F4 N4 hnew⟩
 ·rw [hnames] at hy
  revert hy
  exact (by decide:∀ y ∈ gI,y.2 ≠ .cell) y
end
end
section
open PySem PySem.W PySem.Calls PyProof.Rows
section
variable {prog:Program} {w:World} {A:Around} {E:Value → Shared → Prop} {s:Shared} {K:Frag} {C C2 fI L:Addr} {base h₀ : Heap} {m:Str → Option Value} {env:Env} {news:ay}
theorem Co {fE:Fn} {p1 p2 p3 p4 p5 p6 p7 p8 p9 p10:Pos} {np cp cpos pos:Pos} {kk:Nat} {msg:Str} {Q:Flow → Shared → Prop} (cx:Cx A base h₀ L env) (hd:A.depth + 1 < recursionLimit) (B:Base K h₀) (X:ExK K C C2 fI) (hex:nsIn K mainGlobals "Exception" = some none)
  (fa:jT K (.ref fI) fE) (hps:fE.params = i4) (hns:fE.names = gI)
  (hb:fE.body = [.Expr (.Call (.Attribute (.Name "Exception" p1) "__init__" p2) [.Name "self" p3,.Name "text" p4] [] p5) p6,.Assign [.Attribute (.Name "self" p7) "text" p8] (.Name "text" p9) p10]) (hp:(p2.endLine == p5.line) = true)
  (hbm:nsIn K mainGlobals "BadMove" = some (some (.ref C))) (cw:keepIn K (.ref C) = true) (hgl:env.globals = mainGlobals) (kb:env.kindOf "BadMove" = some .globalImplicit)
  (F:Fr h₀ L s.heap m) (N:News h₀ L s.heap news)
  (hE:∀ h' tk' e t dx,Fr h₀ L h' m → News h₀ L h' ((e,gb C t dx) :: news) → s.heap.get? e = none → E (.ref e) { s with heap:=h',toks:=tk' }) :
  wpAny (model prog w) A (exec (.Raise (some (.Call (.Name "BadMove" np) [.Constant (.str msg) kk cp] [] cpos)) none pos) env) Q E s:=by
 obtain ⟨nm,q,NN,bs,sn,sub,ab,col,dd,k0,kk1,kk2,kk3,kk5,hCl⟩:=X.obj
 obtain ⟨mg,hmg⟩:=B.g
 haveI hnos:dR [PySem.Expr.Constant (.str msg) kk cp]:=fun x hx y p q => by
  subst q
  simp at hx
 rw [arm_exec_Raise]
 refine wpAny_bind (wpAny_standAt ?_)
 refine ur (C:=C) (C2:=C2) (nm:=nm) (q:=q) (N:=NN) (bs:=bs) (hdct:=true) (sn:=sn) (sub:=sub) (ab:=ab) (col:=col) (dd:=dd) (k0:=k0) (k1:=kk1) (k2:=kk2) (k3:=kk3) (k5:=kk5) cx.handled
  (wpAny_bind (wpAny_Call_ofName (Name_function_global cx.kind kb (loadGlobal_global (by rw [hgl]; exact hmg.keeps F.keep) (mg_of (B.X.keeps F.keep) (hmg.keeps F.keep) hbm) ?_))))
 show wpAny (model prog w) A (callWith cpos (.ref C) [] (backTo cpos (starEach [PySem.Expr.Constant (.str msg) kk cp] env)) []) _ _ _
 refine callWith_of (P:=fun h => K.In h) (by rw [fB hnos]; rfl) (fun h X => CW.of_keep cw _ h X) ?_
 rw [cT (env:=env) (rest:=[]) (hnos _ (.head _))]
 refine evalArgs_plain (wpAny_items_cons (Constant_str (wpAny_items_nil ⟨B.X.keeps F.keep,?_⟩)) rfl)
 refine DQ (s:={ s with toks:=s.toks + 1 }) cx hd B X hex fa hps hns hb hp F N fun h' tk' e t dx F' N' hn => ?_
 exact wpAny_bind (wpAny_standAt (wpAny_pure ⟨e,t,dx,rfl,B.X.keeps F'.keep _ _ hCl,(N' _ (.head _)).1,hE h' tk' e t dx F' N' hn⟩))
end
end
section
open PySem PySem.W PySem.Calls PyProof.Rows
noncomputable def ii (chk:H → Bool) (x:Nat) (t:Tx) (u a:Sx):List V → Fm → H → Option H
 | [],_,_ => none
 | v :: r,f,h => (t (upd f x v) h).bind fun q => if q.1 then (u (upd f x v) q.2).bind fun z => (match z.1 with | .next => some z.2.2 | .ret _ => none)
   else (a (upd f x v) q.2).bind fun z => match z.1 with
    | .next => if chk z.2.2 then ii chk x t u a r z.2.1 z.2.2 else none
    | .ret _ => none
section
variable {prog:Program} {w:World} {cl:Str → Option Addr} {K:Frag} {fval:Str → Option Value} {h₀ : Heap} {L:Addr} {m:Str → Option Value} {news news':ay} {ρ ρ':b9} {s s₁ : Shared} {A:Around} {E:Value → Shared → Prop} {Hh H':H} {ns:aK} {env:Env} {g:G}
noncomputable def D6 (prog:Program) (w:World) (C:Addr) (h₀ : Heap) (L:Addr) (A:Around) (t:Sem Flow):Prop:=∀ (Q:Flow → Shared → Prop) (E:Value → Shared → Prop) (s:Shared) (m:Str → Option Value) (news:ay),Fr h₀ L s.heap m → News h₀ L s.heap news →
 (∀ h' tk' e t dx,Fr h₀ L h' m → News h₀ L h' ((e,gb C t dx) :: news) → s.heap.get? e = none → E (.ref e) { s with heap:=h',toks:=tk' }) → wpAny (model prog w) A t Q E s
theorem Dl {C:Addr} {x:Str} {i:Nat} {px pos ip:Pos} {it tE:PySem.Expr} {stU stR:Stmt} {stA:List Stmt} {a:Ex} {tx:Tx} {sU sA:Sx} {Q:Flow → Shared → Prop} (ok:jh ns env L) (cs:fg env) (hi:fC ns x = some i) (hset:∀ a b c,it ≠ .Set a b c)
  (ha:SE prog w cl K h₀ L A ns env a (eval it env)) (ht:ST prog w cl K h₀ L A ns env tx (isTrue tE env (eval tE env))) (hu:SS prog w cl K h₀ L A ns env sU (exec stU env)) (hA:SS prog w cl K h₀ L A ns env sA (execs stA env)) (hr:D6 prog w C h₀ L A (exec stR env))
  {f:Fm} {src:V} {H1:H} {items:List V} (F:Fr h₀ L s.heap m) (N:News h₀ L s.heap news) (R:Rel prog w cl K news ρ Hh) (FR:FRel K news ρ ns env m f) (CI:CellI news ρ env) (hy:a f Hh = some (src,H1)) (his:az src H1 = some items)
  (hc:ii (fun h' => stays src H1 h') i tx sU sA items f H1 = some H')
  (hE:∀ h' tk' news' ρ' m' e t dx,Fr h₀ L h' m' → News h₀ L h' ((e,gb C t dx) :: news') → Rel prog w cl K news' ρ' H' → Ext (own env) ρ ρ' news news' → (∀ p ∈ news',p.1 ≠ e) → E (.ref e) { s with heap:=h',toks:=tk' }) (hP:PassesOwn (model prog w) A env E) :
  wpAny (model prog w) A (exec (.For (.Name x px) it (.If tE [stU,stR] [] ip :: stA) [] pos) env) Q E s:=by
 refine wpAny_For (ha.step F N R FR hy fun v₁ h₁ t₁ n₁ ρ₁ F1 N1 R1 x1 hv1 FR1 => ?_) (mh hset)
 refine iM (s:={ s with heap:=h₁,toks:=t₁ }) F1 N1 R1 hv1 his fun I ob h₂ F2 N2 hfI it2 => ?_
 obtain ⟨R2,x2⟩:=cP R1 N2 hfI
 have CI1:=CI.ext x1
 have hIflat:I ∉ aY ρ₁:=fun q => by
  obtain ⟨o,ho,_⟩:=R1.inNews q
  exact hfI _ ho rfl
 have hIown:I ∉ own env:=fun q => by
  obtain ⟨p,hp,e⟩:=List.mem_map.mp q
  obtain ⟨o,w',h1,_⟩:=CI1 p hp
  exact hfI _ h1 e
 haveI hown:∀ p ∈ n₁,p.1 ∈ I :: own env → p.1 ∈ own env:=fun p hp q => (List.mem_cons.mp q).resolve_left (hfI p hp)
 refine Bc (P:=HT prog w cl K h₀ L ns env src H1 (fun r f H => ii (fun h' => stays src H1 h') i tx sU sA r f H = some H') items I ρ₁ ([(I,ob)] ++ n₁) s) fun W mk un => ?_
 refine codeAny_forLoop W ?_ items.length (mk _ _ ⟨[],items,h₂,t₁,_,ρ₁,m,f,H1,rfl,rfl,rfl,F2,N2,R2,.refl _ _ _,FR1.ext x2,CI1.ext x2,it2,iE _ _,hc⟩)
 clear F N R FR CI hc F2 N2 R2 FR1 CI1 it2 F1 N1 R1
 intro n s1 hW
 obtain ⟨pre,rest,h,tk,n1,ρ1,m1,f1,H2,rfl,rfl,hitems,F,N,R,xt,FR,CI,it,hst,hc⟩:=un _ _ hW
 clear hW
 have hI1:I ∉ aY ρ1:=cF xt hIflat (by simp)
 haveI hit:az src H2 = some items:=(gf hst).trans his
 obtain ⟨obI,hobI,nfI,ncI⟩:=it.entry
 cases rest with
 | nil => cases hc
 | cons v rest =>
  haveI hx:items[pre.length]? = some v:=by rw [hitems]; simp
  refine jZ (s:={ s with heap:=h,toks:=tk }) F N R it hI1 hit hx fun v' h3 tk3 ob' F3 N3 R3 x3 it3 hv3 => ?_
  haveI FR3:=FR.own x3 (by
   intro a ha o ho w'
   have ha:a = I:=by simpa using ha
   subst ha
   rw [← ij R.nd hobI ho]; exact ncI w')
  haveI CI3:=CI.own x3 (by
   intro p hp q
   exact hIown (List.mem_map.mpr ⟨p,hp,by simpa using q⟩))
  refine wpAny_assign_Name (cL (s:={ s with heap:=h3,toks:=tk3 }) ok cs hi F3 N3 R3 FR3 CI3 hv3 fun h4 tk4 n4 m4 F4 N4 R4 x4 FR4 CI4 _ => ?_)
  haveI it4:=it3.keep x4 hI1 hIown
  obtain ⟨y,H3,hz,hc⟩:=bnd2 hc
  refine wpAny_execs_cons (wpAny_If (ht.step (s:={ s with heap:=h4,toks:=tk4 }) F4 N4 R4 FR4 hz fun h5 tk5 n5 ρ5 F5 N5 R5 x5 FR5 => ?_))
  have CI5:=CI4.ext x5
  have x5':Ext (I :: own env) ρ₁ ρ5 ([(I,ob)] ++ n₁) n5:=((xt.trans (x3.mono (by simp))).trans (x4.mono fun a ha => .tail _ ha)).trans (x5.mono (by simp))
  cases y with
  | true =>
   obtain ⟨fl1,⟨f2,H4⟩,hz2,hc⟩:=bnd2 hc
   refine wpAny_execs_cons (hu.step (s:={ s with heap:=h5,toks:=tk5 }) F5 N5 R5 FR5 CI5 hz2 fun flow h6 tk6 n6 ρ6 m6 F6 N6 R6 x6 FR6 CI6 hf => ?_)
   cases fl1 with
   | ret u => cases hc
   | next =>
    cases hf; cases hc
    refine wpAny_execs_cons (hr _ _ { s with heap:=h6,toks:=tk6 } m6 n6 F6 N6 fun h7 tk7 e t dx F7 N7 hn => ?_)
    haveI x6':Ext (I :: own env) ρ₁ ρ6 ([(I,ob)] ++ n₁) n6:=x5'.trans (x6.mono fun a ha => .tail _ ha)
    exact hP _ _ <| hE h7 tk7 n6 ρ6 m6 e t dx F7 N7 R6 (x1.up.trans (x6'.less hown)) fun p hp q => by
     have:=(N6 p hp).1
     rw [q] at this
     rw [show h6.get? e = none from hn] at this; cases this
  | false =>
   obtain ⟨fl1,⟨f2,H4⟩,hz2,hc⟩:=bnd2 hc
   refine wpAny_execs_nil (hA.step (s:={ s with heap:=h5,toks:=tk5 }) F5 N5 R5 FR5 CI5 hz2 fun flow h6 tk6 n6 ρ6 m6 F6 N6 R6 x6 FR6 CI6 hf => ?_)
   cases fl1 with
   | ret u => cases hc
   | next =>
    cases hf
    dsimp only at hc
    split at hc
    ·rename_i hchk
     haveI x6':Ext (I :: own env) ρ₁ ρ6 ([(I,ob)] ++ n₁) n6:=x5'.trans (x6.mono fun a ha => .tail _ ha)
     exact ⟨rest.length,by simp,mk _ _ ⟨pre ++ [v],rest,h6,tk6,n6,ρ6,m6,f2,H4,rfl,rfl,by simp [hitems],F6,N6,R6,x6',FR6,CI6,by simpa using (it4.keep (x5.mono (by simp)) hI1 hIown).keep x6 (cF ((xt.trans (x3.mono (by simp))).trans ((x4.mono fun a ha => .tail _ ha).trans (x5.mono (by simp)))) hIflat (by simp)) hIown,hchk,hc⟩⟩
    ·cases hc
end
end
section
open PySem PySem.W PySem.Calls PyProof.Rows
noncomputable def yi (base:Heap) (l:List Env) (e:Addr) (C:Addr) (news:ay) (h:Heap):Prop:=
 ∃ B a0,base.StaysIn B ∧ (∀ q ∈ news,B.get? q.1 = some q.2 ∧ base.get? q.1 = none) ∧ Heap.FlyingW B l e (.ref C) a0 h
theorem nY {base B:Heap} (k:base.StaysIn B) {b:Addr} (e:B.get? b = none):base.get? b = none:=by
 cases q:base.get? b with
 | none => rfl
 | some o => haveI:=k b o q; rw [e] at this; cases this
theorem li {base h:Heap} {as:List Addr}:∀ {l:List Env},h.FunFrames base l → (∀ env ∈ l,∀ a,env.frame = some a → a ∈ as) → h.FunFrames (hideAll h as) l
 | [],_,_ => trivial
 | _ :: _,⟨hk,⟨L,o,hf,_,ho,hd⟩,hr⟩,hin => ⟨hk,⟨L,o,hf,hideAll_none _ (hin _ (.head _) L hf),ho,hd⟩,li hr fun e he => hin e (.tail _ he)⟩
section
variable {prog:Program} {w:World} {A:Around} {E:Value → Shared → Prop} {s:Shared} {C e t dx L a:Addr} {base g:Heap} {m:Str → Option Value} {env:Env} {outer:List Env} {news:ay} {name:Str} {scope:Scope} {cd:Value}
theorem uN (K:Below A base outer g) (F:Fr g L s.heap m) (hf:env.frame = some L) (hk:env.scope.kind = .function):Below (A.deeper env) base (env :: outer) s.heap:=by
 haveI hnew:base.get? L = none:=by
  cases hq:base.get? L with
  | none => rfl
  | some o => exact absurd (Nat.lt_of_lt_of_le (Heap.lt_size (K.stays L o hq)) F.above) (Nat.lt_irrefl _)
 refine ⟨Around.frames_deeper K.stack,fun b o e => F.keep b o (K.stays b o e),?_⟩
 exact .cons (by rw [hk]; decide) hf F.ns hnew (K.frames.of_keeps fun b o e _ => ⟨o,F.keep b o e,rfl⟩)
theorem CD {Q:Unit → Shared → Prop} (K:Below A base outer g) (hf:env.frame = some L) (hk:env.scope.kind = .function) (F:Fr g L s.heap m) (N:News g L s.heap ((e,gb C t dx) :: news)) (hne:∀ p ∈ news,p.1 ≠ e)
  (hQ:∀ h',yi base outer e C news h' → g.UpToSlots h' → Q () { s with heap:=h' }):wpAny (model prog w) (A.deeper env) (leaving env (.ref e)) Q E s:=by
 have K':=uN K F hf hk
 have he:=(N _ (.head _)).1
 have hbe:base.get? e = none:=nY K.stays (N _ (.head _)).2.2
 let as:=e :: (env :: outer).filterMap (·.frame)
 have hin:∀ en ∈ env :: outer,∀ b,en.frame = some b → b ∈ as:=fun en he b hb => .tail _ (List.mem_filterMap.mpr ⟨en,he,hb⟩)
 have st:base.StaysIn (hideAll s.heap as):=fun b o q => hideAll_get _ (K'.stays b o q) fun hm => by
  rcases List.mem_cons.mp hm with rfl | hm
  ·rw [hbe] at q; cases q
  ·rw [(K'.frames.mem hm).1] at q; cases q
 have hl:∀ q ∈ news,(hideAll s.heap as).get? q.1 = some q.2 ∧ base.get? q.1 = none:=fun q hq => by
  have Nq:=N q (.tail _ hq)
  refine ⟨hideAll_get _ Nq.1 fun hm => ?_,nY K.stays Nq.2.2⟩
  rcases List.mem_cons.mp hm with z | hm
  ·exact hne q hq z
  ·obtain ⟨en,hen,hfr⟩:=List.mem_filterMap.mp hm
   rcases List.mem_cons.mp hen with rfl | hen
   ·rw [hf] at hfr; exact Nq.2.1 (Option.some.inj hfr).symm
   ·obtain ⟨o,ho,_⟩:=(K.frames.mem (List.mem_filterMap.mpr ⟨en,hen,hfr⟩)).2
    rw [Nq.2.2] at ho; cases ho
 refine wpAny_leaving_firstW (base:=hideAll s.heap as) (a0:=.ref t) K'.stack (li K'.frames hin) hf he (fun b o q => of_hideAll _ q) (hideAll_none _ (.head _)) rfl rfl rfl fun h' hL => ?_
 obtain ⟨k1,⟨_,_,k2⟩,k3,k4⟩:=hL
 exact hQ h' ⟨_,_,st,hl,k1,hideAll_none _ (.head _),k2,k3⟩ ((Heap.UpToSlots.of_keeps F.keep).trans k4)
end
end
section
open PySem PySem.W PySem.Calls PyProof.Rows
section
variable {prog:Program} {w:World} {A:Around} {E:Value → Shared → Prop} {s:Shared} {K:Frag} {C C2 fI e L:Addr} {base:Heap} {env:Env} {outer:List Env} {news:ay}
theorem vI {B:Heap} {l:List Env} {cls a0:Value} {Q:Unit → Shared → Prop} (hh:Heap.FlyingW B l e cls a0 s.heap)
  (hQ:∀ h',Heap.FlyingW B l e cls a0 h' → s.heap.UpToSlots h' → Q () { s with heap:=h' }):wpAny (model prog w) A (setFlight (.ref e) none) Q E s:=by
 obtain ⟨f1,f2,f3,f4⟩:=hh
 exact wpAny_setFlight_noneW f1 f3 f4.at fun h' k1 k2 k3 k4 => hQ h' ⟨k1,f2,k2,k3⟩ fun b o hb hn => ⟨o.slots,k4 b o hb hn⟩
theorem A2 {np rp pos:Pos} {kk:Nat} {cp:Pos} {rest:List ExceptHandler} {Q:Flow → Shared → Prop} (X:ExK K C C2 fI) (B0:Base K base) (hbm:nsIn K mainGlobals "BadMove" = some (some (.ref C)))
  (hfr:A.frames = some (env :: outer)) (hf:env.frame = some L) (hk:env.scope.kind = .function) (hgl:env.globals = mainGlobals) (kb:env.kindOf "BadMove" = some .globalImplicit) (Fl:yi base (env :: outer) e C news s.heap)
  (hQ:∀ h',yi base (env :: outer) e C news h' → s.heap.UpToSlots h' → Q (.ret (.bool true)) { s with heap:=h' }) :
  wpAny (model prog w) A (noteFrame (.ref e) env) (fun _ s₂ => wpAny (model prog w) A (setFlight (.ref e) none) (fun _ s₃ =>
   wpAny (model prog w) A (handleBy (.ref e) env (.ExceptHandler (some (.Name "BadMove" np)) none [.Return (some (.Constant (.bool true) kk cp)) rp] pos :: rest)) Q E s₃) E s₂) E s:=by
 obtain ⟨nm,q,NN,bs,sn,sub,ab,col,dd,k0,kk1,kk2,kk3,kk5,hCl⟩:=X.obj
 obtain ⟨mg,hmg⟩:=B0.g
 obtain ⟨B,a0,hB,hn,hfl⟩:=Fl
 refine wpAny_looks_onW hfr hf hfl fun h₄ hheld₄ hsm₄ => ?_
 refine wpAny_landsW hheld₄ fun h₅ hfl₅ hsm₅ => ?_
 have kp:∀ {h':Heap} {l:List Env},Heap.FlyingW B l e (.ref C) a0 h' → ∀ b o,base.get? b = some o → h'.get? b = some o:=fun x b o z => x.1 b o (hB b o z)
 obtain ⟨ob,hob,hobc⟩:=hfl₅.there
 refine wpAny_handleBy_cons (codeAny_handlers_test (Name_function_global hk kb (loadGlobal_global (by rw [hgl]; exact hmg.keeps (kp hfl₅)) (mg_of (B0.X.keeps (kp hfl₅)) (hmg.keeps (kp hfl₅)) hbm) ?_))) (by intro q; cases q)
 refine wpAny_excMatches_sub_self (B0.X.keeps (kp hfl₅) _ _ hCl) hob hobc (by simp [u6]) (codeAny_handlers_suite ?_)
 refine vI (s:={ s with heap:=h₅ }) hfl₅ fun h₆ hfl₆ hsm₆ => ?_
 exact wpAny_execs_cons (wpAny_Return_some (Constant_bool (hQ h₆ ⟨B,a0,hB,hn,hfl₆⟩ ((hsm₄.trans hsm₅).trans hsm₆))))
end
end
section
open PySem PySem.W PySem.Calls PyProof.Rows
noncomputable def mN (x:Str):Fn:=match ah.lookup x with
 | some (.fn f) => f
 | _ => ⟨[],[],[]⟩
noncomputable def eS:Fn:=mN "do_moves"
noncomputable def cU:Fn:=mN "_law_bent_refused"
structure DM where
 s1:Stmt
 px:Pos
 it:PySem.Expr
 t:PySem.Expr
 u:Stmt
 np:Pos
 msg:Str
 kk:Nat
 cp:Pos
 cpos:Pos
 rp:Pos
 ip:Pos
 a:List Stmt
 pos:Pos
noncomputable def E7:List Stmt → Option DM
 | [s1,.For (.Name _ px) it (.If t [u,.Raise (some (.Call (.Name _ np) [.Constant (.str msg) kk cp] [] cpos)) none rp] [] ip :: a) [] pos] => some ⟨s1,px,it,t,u,np,msg,kk,cp,cpos,rp,ip,a,pos⟩
 | _ => none
noncomputable def p0:Pos:=default
noncomputable def e0:PySem.Expr:=.Constant .none 0 p0
noncomputable def dm:DM:=(E7 eS.body).getD ⟨.Pass p0,p0,e0,e0,.Pass p0,p0,"",0,p0,p0,p0,p0,[],p0⟩
theorem Ft:eS.body = [dm.s1,.For (.Name "move" dm.px) dm.it (.If dm.t [dm.u,.Raise (some (.Call (.Name "BadMove" dm.np) [.Constant (.str dm.msg) dm.kk dm.cp] [] dm.cpos)) none dm.rp] [] dm.ip :: dm.a) [] dm.pos]:=by kernel_rfl
structure HJ where
 s1:Stmt
 np:Pos
 a1:PySem.Expr
 a2:PySem.Expr
 cpos:Pos
 ep:Pos
 hn:Pos
 kk:Nat
 cp:Pos
 rp:Pos
 hp:Pos
 tp:Pos
 rest:List Stmt
noncomputable def FO:List Stmt → Option HJ
 | s1 :: .Try [.Expr (.Call (.Name _ np) [a1,a2] [] cpos) ep] [.ExceptHandler (some (.Name _ hn)) none [.Return (some (.Constant (.bool _) kk cp)) rp] hp] [] [] tp :: rest => some ⟨s1,np,a1,a2,cpos,ep,hn,kk,cp,rp,hp,tp,rest⟩
 | _ => none
noncomputable def bt:HJ:=(FO cU.body).getD ⟨.Pass p0,p0,e0,e0,p0,p0,p0,0,p0,p0,p0,p0,[]⟩
theorem EY:cU.body = bt.s1 :: .Try [.Expr (.Call (.Name "do_moves" bt.np) [bt.a1,bt.a2] [] bt.cpos) bt.ep] [.ExceptHandler (some (.Name "BadMove" bt.hn)) none [.Return (some (.Constant (.bool true) bt.kk bt.cp)) bt.rp] bt.hp] [] [] bt.tp :: bt.rest:=by kernel_rfl
noncomputable def uE:Fn:=match PySem.Challenge.pw_pf0106_01.main.body.findSome? (fun | .ClassDef n _ _ b _ _ _ _ _ _ _ => if n = "ChessError" then (match b with | .FunctionDef _ args body _ _ _ sc _ _ _ :: _ => some (z9 args sc body) | _ => none) else none | _ => none) with
 | some f => f
 | none => ⟨[],[],[]⟩
noncomputable def Gk:List Stmt → List Pos
 | [.Expr (.Call (.Attribute (.Name _ p1) _ p2) [.Name _ p3,.Name _ p4] [] p5) p6,.Assign [.Attribute (.Name _ p7) _ p8] (.Name _ p9) p10] => [p1,p2,p3,p4,p5,p6,p7,p8,p9,p10]
 | _ => []
noncomputable def yD (i:Nat):Pos:=(Gk uE.body).getD i p0
theorem yB:uE.params = i4:=by kernel_rfl
theorem Aw:uE.names = gI:=by kernel_rfl
theorem Bv:uE.body = [.Expr (.Call (.Attribute (.Name "Exception" (yD 0)) "__init__" (yD 1)) [.Name "self" (yD 2),.Name "text" (yD 3)] [] (yD 4)) (yD 5),.Assign [.Attribute (.Name "self" (yD 6)) "text" (yD 7)] (.Name "text" (yD 8)) (yD 9)]:=by kernel_rfl
theorem Cz:((yD 1).endLine == (yD 4).line) = true:=by kernel_rfl
theorem AF:(fC eS.names "move",eS.names.lookup ("BadMove" : Str),eS.names.all (fun p => decide (p.2 ≠ .free) && decide (p.2 ≠ .cell))) = (some 3,some NameKind.globalImplicit,true):=by kernel_rfl
theorem tV:(cU.params,cU.names.lookup ("BadMove" : Str),gw cU.names "do_moves",cU.names.all (fun p => decide (p.2 ≠ .free) && decide (p.2 ≠ .cell)),cq cU.names "pos") = ([("pos" : Str)],some NameKind.globalImplicit,true,true,some 0):=by kernel_rfl
noncomputable def uD (g:G) (n:Nat) (as:List V) (h:H):Option H:=
 (mX eS.names eS.params as fun _ => none).bind fun fm => (dS g n eS.names 20 dm.s1 fm h).bind fun q => match q.1 with
  | .ret _ => none
  | .next => ((dX 20 g).1 eS.names dm.it q.2.1 q.2.2).bind fun r => (az r.1 r.2).bind fun items =>
   ii (fun h' => stays r.1 r.2 h') 3 ((dX 20 g).2 eS.names dm.t) (dS g n eS.names 20 dm.u) (ag (dm.a.map (dS g n eS.names 20))) items q.2.1 r.2
noncomputable def tJ (g:G) (n:Nat) (p:V) (h:H):Option H:=
 (mX cU.names cU.params [p] fun _ => none).bind fun fm => (dS g n cU.names 20 bt.s1 fm h).bind fun q => match q.1 with
  | .ret _ => none
  | .next => (bb ([bt.a1,bt.a2].map ((dX 20 g).1 cU.names)) q.2.1 q.2.2).bind fun r => uD g n r.1 r.2
end
section
open PySem PySem.W PySem.Calls PyProof.Rows
structure qd (K:Frag) (C C2 fI:Addr):Prop extends ExK K C C2 fI where
 excep:nsIn K mainGlobals "Exception" = some none
 at_:jT K (.ref fI) uE
 bad:nsIn K mainGlobals "BadMove" = some (some (.ref C))
 keep:keepIn K (.ref C) = true
section
variable {prog:Program} {w:World} {cl:Str → Option Addr} {K:Frag} {fval:Str → Option Value} {A:Around} {base h₀ : Heap} {L C C2 fI:Addr} {m:Str → Option Value} {env:Env} {news:ay} {ρ : b9} {s:Shared} {g:G} {n:Nat} {Hh H':H}
theorem CH {fv:Value} {as:List V} {vs':List Value} {R:Result → Shared → Prop} (Z:Gl K cl fval) (hG:∀ A' h₀' L' env',Cx A' base h₀' L' env' → A'.depth = A.depth + 1 → A'.units = A.units + 3 → Base K h₀' → GS prog w cl K fval g A' h₀' L')
  (cx:Cx A base h₀ L env) (hu:A.units + 13 < cLine) (hd:A.depth + 2 < recursionLimit) (B:Base K h₀) (fa:jT K fv eS) (ok:wb eS) (X:qd K C C2 fI) (hrun:uD g n as Hh = some H') (F:Fr h₀ L s.heap m) (N:News h₀ L s.heap news) (R0:Rel prog w cl K news ρ Hh) (hv:All2 (VR K news ρ) vs' as)
  (hR:∀ outer g' h' tk' e news' ρ',A.frames = some (env :: outer) → yi base (env :: outer) e C news' h' → Fr h₀ L g' m → g'.UpToSlots h' → Rel prog w cl K news' ρ' H' → Ext [] ρ ρ' news news' → R (.error (.ref e)) { s with heap:=h',toks:=tk' }) :
  codeAny (model prog w) A (.call fv ⟨vs',[]⟩) R s:=by
 obtain ⟨fm,hfm,e⟩:=bnd1 hrun
 obtain ⟨fl,⟨f1,H1⟩,hs1,e⟩:=bnd2 e
 cases fl with
 | ret v => cases e
 | next =>
 obtain ⟨src,H2,hit,e⟩:=bnd2 e
 obtain ⟨items,his,e⟩:=bnd1 e
 obtain ⟨d1,d2⟩:=Prod.mk.inj AF
 obtain ⟨d2,d3⟩:=Prod.mk.inj d2
 refine ub cx (by omega) B fa ok hfm F N R0 hv fun name scope a cd outer g' L' h₁ tk n₁ m₁ Bg eok cs cx' BG FG F1 N1 R1 FR CI hx => ?_
 rw [Ft]
 haveI G':=hG _ _ _ _ cx' rfl rfl Bg
 haveI hu':(A.deeper (envOfC name scope L' a cd)).units + 10 < cLine:=by show A.units + 3 + 10 < cLine; omega
 haveI S:=gq (n:=n) Z cx'.handled hu' Bg eok cs G'
 haveI Xp:=d5 Z cx'.handled hu' 20 Bg eok G'
 haveI kb:(envOfC name scope L' a cd).kindOf "BadMove" = some .globalImplicit:=by
  obtain ⟨j,hj⟩:∃ j,aJ eS.names "BadMove" = some (j,.globalImplicit):=by
   haveI:(aJ eS.names "BadMove").map (·.2) = some .globalImplicit:=by kernel_rfl
   obtain ⟨⟨j,k⟩,h1,h2⟩:=Option.map_eq_some_iff.mp this
   dsimp only at h2
   subst h2
   exact ⟨j,h1⟩
  exact eok.glob _ _ hj
 refine wpAny_execs_cons ((S 20 dm.s1).step F1 N1 R1 FR CI hs1 fun flow h₂ t₂ n₂ ρ₂ m₂ F2 N2 R2 x2 FR2 CI2 hf => ?_)
 cases hf
 refine wpAny_execs_cons (Dl (s:={ s with heap:=h₂,toks:=t₂ }) (C:=C) eok cs d1 (fun p q r z => ?_) (Xp.1 dm.it) (Xp.2 dm.t) (S 20 dm.u) (og fun st _ => S 20 st)
  (fun Q E s m news F N hE => Co cx' (by show A.depth + 1 + 1 < recursionLimit; omega) Bg X.toExK X.excep X.at_ yB Aw Bv Cz X.bad X.keep rfl kb F N hE) F2 N2 R2 FR2 CI2 hit his e
  (fun h' tk' news' ρ' m' e t dx F' N' R' x' hne => ?_) PassesOwn.leaving)
 ·haveI:∀ a b c,dm.it ≠ .Set a b c:=by
   haveI:(match dm.it with | .Set _ _ _ => false | _ => true) = true:=by kernel_rfl
   intro a b c z; rw [z] at this; cases this
  exact this p q r z
 ·exact CD (s:={ s with heap:=h',toks:=tk' }) BG rfl eok.kind F' N' hne fun h'' Fl up => hR outer g' h'' tk' e news' ρ' BG.stack Fl FG up R' (hx (x2.trans x'))
end
end
section
open PySem PySem.W PySem.Calls PyProof.Rows
section
variable {prog:Program} {w:World} {cl:Str → Option Addr} {K:Frag} {fval:Str → Option Value} {A A₀ : Around} {base:Heap} {L C C2 fI:Addr} {m:Str → Option Value} {env:Env} {news:ay} {ρ : b9} {s:Shared} {g:G} {n:Nat} {Hh H':H} {E:Value → Shared → Prop}
theorem Ci {fd:Value} {p:V} {pv:Value} {scope:Scope} {env':Env} {g' h₁ : Heap} {f1:Fm} {H1 H2:H} {as:List V} {Q:Flow → Shared → Prop} {E':Value → Shared → Prop} (Z:Gl K cl fval) (hG:∀ A' h₀' L' env',Cx A' base h₀' L' env' → A'.depth ≤ A.depth + 2 → A'.units ≤ A.units + 6 → Base K h₀' → GS prog w cl K fval g A' h₀' L')
  (frames:A.frames = some [env]) (frame:env.frame = some L) (handled:A.handled = none) (hu:A.units + 16 < cLine) (hd:A.depth + 3 < recursionLimit)
  (B:Base K base) (fad:jT K fd eS) (hfd:fval "do_moves" = some fd) (okd:wb eS) (X:qd K C C2 fI) (hs1:dS g n cU.names 20 bt.s1 (upd (fun _ => none) 0 p) Hh = some (.next,f1,H1)) (hargs:bb ([bt.a1,bt.a2].map ((dX 20 g).1 cU.names)) f1 H1 = some (as,H2)) (hdm:uD g n as H2 = some H')
  (F:Fr base L s.heap m) (R0:Rel prog w cl K news ρ Hh) (hv:VR K news ρ pv p) (hnames:scope.names = cU.names) (hkind:scope.kind = .function) (FG:Fr base L g' m) (BG:Below A base [env] g') (Bg:Base K g') (F1:Fr g' s.heap.objs.size h₁ (fun x => [(("pos" : Str),pv)].reverse.lookup x)) (N1:News g' s.heap.objs.size h₁ news)
  (es1:env'.scope = scope) (es2:env'.locals = s.heap.objs.size) (es3:env'.globals = mainGlobals) (es4:env'.builtins = builtinsNs) (es5:env'.cells = []) (es6:env'.frame = some s.heap.objs.size) (hQ:∀ s',EP prog w cl K base L m news ρ (.bool true) H' s (.bool true) s' → Q (.ret (.bool true)) s') :
  wpAny (model prog w) (A.deeper env') (execs cU.body env') Q E' { s with heap:=h₁,toks:=s.toks + 1 }:=by
 obtain ⟨b1,b2⟩:=Prod.mk.inj tV
 obtain ⟨b2,b3⟩:=Prod.mk.inj b2
 obtain ⟨b3,b4⟩:=Prod.mk.inj b3
 obtain ⟨b4,b5⟩:=Prod.mk.inj b4
 haveI nocell:∀ x ∈ cU.names,x.2 ≠ .free ∧ x.2 ≠ .cell:=fun x hx => by simpa using List.all_eq_true.mp b4 x hx
 clear b1 b5 b4
 have ekind:env'.scope.kind = .function:=by rw [es1]; exact hkind
 have kof:∀ x,env'.kindOf x = cU.names.lookup x:=fun x => by show env'.scope.names.lookup x = _; rw [es1,hnames]
 have notcf:∀ {x:Str} {i:Nat} {k:NameKind},aJ cU.names x = some (i,k) → k ≠ .cell ∧ k ≠ .free:=fun h => by
  have:=nocell _ (List.mem_of_getElem? (aE h).2)
  exact ⟨this.2,this.1⟩
 have eok:jh cU.names env' s.heap.objs.size:=⟨ekind,es2,es3,es4,fun x i h => (kof x).trans (aE h).1,fun x i k h hc => absurd hc (by have:=notcf h; rintro (z | z); exact this.1 z; exact this.2 z),fun x i h => (kof x).trans (aE h).1,fun x i h => absurd rfl (notcf h).1⟩
 haveI cs:fg env':=⟨by rw [es5]; exact .nil,by rw [es5]; exact .nil⟩
 have cx':Cx (A.deeper env') base g' s.heap.objs.size env':=⟨⟨A,[env],BG,Around.frames_deeper frames⟩,es6,ekind,handled⟩
 haveI CI:CellI news ρ env':=fun q hq => by rw [es5] at hq; cases hq
 haveI FR:FRel K news ρ cU.names env' (fun x => [(("pos" : Str),pv)].reverse.lookup x) (upd (fun _ => none) 0 p):=by
  intro y i k u hy hu
  unfold upd at hu
  split at hu
  ·rename_i hi
   subst hi; cases hu
   have h2:=(aE hy).2
   haveI h0:cU.names[0]? = some (("pos" : Str),NameKind.local):=by kernel_rfl
   rw [h0] at h2
   cases h2
   exact ⟨(kof _).trans (aE hy).1,pv,rfl,hv⟩
  ·cases hu
 have G':=hG _ _ _ _ cx' (show A.depth + 1 ≤ A.depth + 2 by omega) (show A.units + 3 ≤ A.units + 6 by omega) Bg
 have hu':(A.deeper env').units + 10 < cLine:=by show A.units + 3 + 10 < cLine; omega
 haveI S:=gq (n:=n) Z cx'.handled hu' Bg eok cs G'
 haveI Xp:=d5 Z cx'.handled hu' 20 Bg eok G'
 have hst:∀ x p,(dX 20 g).1 cU.names (.Starred x p) = dK:=fun x p => rfl
 rw [EY]
 refine wpAny_execs_cons ((S 20 bt.s1).step (s:={ s with heap:=h₁,toks:=s.toks + 1 }) F1 N1 R0 FR CI hs1 fun flow h₂ t₂ n₂ ρ₂ m₂ F2 N2 R2 x2 FR2 CI2 hf => ?_)
 cases hf
 haveI x2':Ext [] ρ ρ₂ news n₂:=by haveI o0:own env' = []:=(by unfold own; rw [es5]; rfl); rw [o0] at x2; exact x2
 obtain ⟨j,hj⟩:=fW b3
 obtain ⟨mg,hmg⟩:=Bg.g
 obtain ⟨mb,hmb,hbb⟩:=Bg.b
 refine wpAny_execs_cons (wpAny_Try_except (wpAny_execs_cons (wpAny_Expr (wpAny_Call_ofName (Name_function_global ekind (eok.glob _ _ hj) ?_)) (by unfold interactive; rw [ekind]; rfl) ?_)))
 ·have go:∀ {Q:Value → Shared → Prop} {E':Value → Shared → Prop},(∀ e s',(∃ outer gd h' tk' news' ρ',s' = { s with heap:=h',toks:=tk' } ∧ (A.deeper env').frames = some (env' :: outer) ∧ yi base (env' :: outer) e C news' h' ∧ Fr g' s.heap.objs.size gd m₂ ∧ gd.UpToSlots h' ∧ Rel prog w cl K news' ρ' H' ∧ Ext [] ρ ρ' news news') → E' (.ref e) s') →
    wpAny (model prog w) (A.deeper env') (callWith bt.cpos fd [] (backTo bt.cpos (starEach [bt.a1,bt.a2] env')) (backToKw bt.cpos (keywordEach [] env'))) Q E' { s with heap:=h₂,toks:=t₂ }:=fun hE =>
   c7 (s:={ s with heap:=h₂,toks:=t₂ }) (Z.fns.keep _ _ hfd) Bg.X (kJ hst hargs) rfl (vh hst fun e _ => Xp.1 e) F2 N2 R2 FR2 hargs fun vs' h3 t3 n3 ρ3 F3 N3 R3 x3 hv3 =>
    wpAny_call (CH (s:={ s with heap:=h3,toks:=t3 }) Z (fun A' h₀' L' env' c1 c2 c3 c4 => hG A' h₀' L' env' c1 (by rw [c2]; show A.depth + 1 + 1 ≤ A.depth + 2; omega) (by rw [c3]; show A.units + 3 + 3 ≤ A.units + 6; omega) c4) cx' (by show A.units + 3 + 13 < _; omega) (by show A.depth + 1 + 2 < _; omega) Bg fad okd X hdm F3 N3 R3 hv3
     fun outer gd h' tk' ee news' ρ' q1 q2 q3 q4 q5 q6 => hE ee _ ⟨outer,gd,h',tk',news',ρ',rfl,q1,q2,q3,q4,q5,x2'.trans (x3.trans q6)⟩)
  haveI kb:env'.kindOf "BadMove" = some .globalImplicit:=by rw [kof]; exact b2
  have fin:∀ {Q:Flow → Shared → Prop} {E':Value → Shared → Prop} {rest:List ExceptHandler},(∀ s',EP prog w cl K base L m news ρ (.bool true) H' s (.bool true) s' → Q (.ret (.bool true)) s') → ∀ ee s',(∃ outer gd h' tk' news' ρ',s' = { s with heap:=h',toks:=tk' } ∧ (A.deeper env').frames = some (env' :: outer) ∧ yi base (env' :: outer) ee C news' h' ∧ Fr g' s.heap.objs.size gd m₂ ∧ gd.UpToSlots h' ∧ Rel prog w cl K news' ρ' H' ∧ Ext [] ρ ρ' news news') →
    wpAny (model prog w) (A.deeper env') (noteFrame (.ref ee) env') (fun _ s₂ => wpAny (model prog w) (A.deeper env') (setFlight (.ref ee) none) (fun _ s₃ =>
     wpAny (model prog w) (A.deeper env') (handleBy (.ref ee) env' (.ExceptHandler (some (.Name "BadMove" bt.hn)) none [.Return (some (.Constant (.bool true) bt.kk bt.cp)) bt.rp] bt.hp :: rest)) Q E' s₃) E' s₂) E' s':=by
   rintro Q E' rest hQ ee _ ⟨outer,gd,h',tk',news',ρ',rfl,q1,Fl,Fg,up,R',x'⟩
   refine A2 (s:={ s with heap:=h',toks:=tk' }) X.toExK B X.bad q1 es6 ekind es3 kb Fl fun h'' Fl' up' => hQ _ ?_
   haveI ho:outer = [env]:=by
    have:=Around.frames_deeper (env:=env') frames
    rw [this] at q1
    exact ((List.cons.inj (Option.some.inj q1)).2).symm
   subst ho
   obtain ⟨Bh,a0,hB,hn,fl⟩:=Fl'
   haveI hL:Bh.get? L = none:=by
    obtain ⟨_,_,⟨_,_,⟨_,⟨L₀,_,hf0,hn0,_⟩,_⟩⟩,_⟩:=fl
    rw [frame] at hf0
    cases hf0; exact hn0
   exact ⟨h'',tk',news',ρ',rfl,⟨up'.ns (up.ns (FG.ns.keeps Fg.keep)),fun b o z => fl.1 b o (hB b o z),F.above⟩,fun q hq => ⟨fl.1 _ _ (hn q hq).1,(fun z => by have:=(hn q hq).1; rw [z,hL] at this; cases this),(hn q hq).2⟩,R',x',rfl⟩
  rcases Z.fns.found _ _ hfd (by decide) with q | ⟨q1,q2,q3⟩
  ·exact loadGlobal_global (by rw [es3]; exact hmg.keeps F2.keep) (mg_of (Bg.X.keeps F2.keep) (hmg.keeps F2.keep) q) (go (fin hQ))
  ·exact loadGlobal_builtin (by rw [es3]; exact hmg.keeps F2.keep) (mg_none_of (Bg.X.keeps F2.keep) (hmg.keeps F2.keep) q1) (by rw [es4]; exact hmb.keeps F2.keep) ((hbb _ q3).trans q2) (go (fin hQ))
 ·rfl
theorem BD {fv fd:Value} {p:V} {pv:Value} (Z:Gl K cl fval) (hG:∀ A' h₀' L' env',Cx A' base h₀' L' env' → A'.depth ≤ A.depth + 2 → A'.units ≤ A.units + 6 → Base K h₀' → GS prog w cl K fval g A' h₀' L')
  (bel:Below A₀ base [] base) (frames:A.frames = some [env]) (frame:env.frame = some L) (kind:env.scope.kind = .function) (handled:A.handled = none) (hu:A.units + 16 < cLine) (hd:A.depth + 3 < recursionLimit)
  (B:Base K base) (fa:jT K fv cU) (fad:jT K fd eS) (hfd:fval "do_moves" = some fd) (okd:wb eS) (X:qd K C C2 fI) (hrun:tJ g n p Hh = some H') (F:Fr base L s.heap m) (N:News base L s.heap news) (R0:Rel prog w cl K news ρ Hh) (hv:VR K news ρ pv p) :
  wpAny (model prog w) A (call fv [pv]) (EP prog w cl K base L m news ρ (.bool true) H' s) E s:=by
 obtain ⟨fm,hfm,e⟩:=bnd1 hrun
 obtain ⟨fl,⟨f1,H1⟩,hs1,e⟩:=bnd2 e
 cases fl with
 | ret v => cases e
 | next =>
 obtain ⟨as,H2,hargs,hdm⟩:=bnd2 e
 obtain ⟨b1,b2⟩:=Prod.mk.inj tV
 obtain ⟨b2,b3⟩:=Prod.mk.inj b2
 obtain ⟨b3,b4⟩:=Prod.mk.inj b3
 obtain ⟨b4,b5⟩:=Prod.mk.inj b4
 obtain ⟨a,name,qual,params,scope,dV,kV,doc,pm,an,cdv,ct,oc,od,osl,rfl,ho,hcd,hnames,hkind,hco,hgen,hbind⟩:=fa
 haveI hbind':=hbind [pv] (by rw [b1]; rfl)
 rw [b1] at hbind'
 rw [b1] at hfm
 haveI nocell:∀ x ∈ cU.names,x.2 ≠ .free ∧ x.2 ≠ .cell:=fun x hx => by simpa using List.all_eq_true.mp b4 x hx
 obtain ⟨FG,BG,st,_⟩:=groundX (R:=fun _ _ => True) bel F N frames frame kind
 refine wpAny_call (codeAny_call_def (fd:=fnX name qual params cU.body scope [] dV kV doc pm an cdv ct) (body:=cU.body) (by omega) ((B.X.keeps F.keep) _ _ ho) rfl (B.nolimit.keeps F.keep) (codeRec_of (B.X.keeps F.keep) hcd) rfl (BindsTo.of_eq hbind')
  (fun x hx => by rw [show (fnX name qual params cU.body scope [] dV kV doc pm an cdv ct).scope.names = scope.names from rfl,hnames] at hx; exact (nocell x hx).2) (fun x hx => ?_) (fun h₁ hns hk₁ => ?_) hco hgen hkind)
 ·haveI hx:x ∈ [(("pos" : Str),pv)]:=hx
  haveI:x = _:=List.mem_singleton.mp hx
  subst this
  show scope.names.lookup _ = _
  rw [hnames]
  kernel_rfl
 ·haveI Bg:Base K (hideAll s.heap (news.map (·.1))):=B.keeps st
  generalize hgE:hideAll s.heap (news.map (·.1)) = g' at FG BG st Bg
  haveI F1:Fr g' s.heap.objs.size h₁ (fun x => [(("pos" : Str),pv)].reverse.lookup x):=⟨hns,fun b o e => hk₁ b o (of_hideAll _ (hgE ▸ e)),Nat.le_of_eq (by rw [← hgE]; exact hideAll_size _ _)⟩
  haveI N1:News g' s.heap.objs.size h₁ news:=fun p hp => ⟨hk₁ _ _ (N p hp).1,Nat.ne_of_lt (Heap.lt_size (N p hp).1),by rw [← hgE]; exact hideAll_none _ (List.mem_map_of_mem hp)⟩
  generalize hE2:callEnv (fnX name qual params cU.body scope [] dV kV doc pm an cdv ct) s.heap.objs.size a = env'
  haveI hfm':fm = upd (fun _ => none) 0 p:=by
   haveI hfm:(cq cU.names "pos").bind (fun i => some (upd (fun _ => none) i p)) = some fm:=hfm
   rw [b5] at hfm
   exact (Option.some.inj hfm).symm
  rw [hfm'] at hs1
  refine Ci Z hG frames frame handled hu hd B fad hfd okd X hs1 hargs hdm F R0 hv hnames hkind FG BG Bg F1 N1 ?_ ?_ ?_ ?_ ?_ ?_ fun s' h => h <;> (subst hE2; rfl)
end
end
section
open PySem PySem.W PySem.Calls PyProof.Rows
noncomputable def Ce (K:Frag):Addr:=match fK K "BadMove" with | .ref C => C | _ => 0
noncomputable def Gx (K:Frag):Addr:=match findIn K (.ref (Ce K)) "__init__" with | some (some (.ref f)) => f | _ => 0
noncomputable def ru (C:Addr):Option Obj → Option Addr
 | none => none
 | some o => (match o.data with
  | .cls cd => (match List.head? (List.tail cd.mro) with
   | some (.ref C2) => if o.cls = .type "type" ∧ o.slots.size = 6 ∧ o.slots[4]? = some (some (.builtin "Exception.__new__")) ∧ cd.mro = [.ref C,.ref C2,.type "Exception",.type "BaseException",.type "object"] ∧ cd.hasDict = true ∧ cd.hasDel = false then some C2 else none
   | _ => none)
  | _ => none)
theorem fb {α : Type} {l:List α} {n:Nat} (h:l.length = n + 1):∃ x r,l = x :: r ∧ r.length = n:=by
 cases l with
 | nil => cases h
 | cons x r => exact ⟨x,r,rfl,Nat.succ.inj h⟩
theorem G4 {α : Type}:∀ {a:Array α} {x:α},a.size = 6 → a[4]? = some x → ∃ k0 k1 k2 k3 k5,a = ⟨[k0,k1,k2,k3,x,k5]⟩:=by
 intro ⟨l⟩ x h e
 obtain ⟨k0,l0,e0,h0⟩:=fb (show l.length = 5 + 1 from h)
 obtain ⟨k1,l1,e1,h1⟩:=fb h0
 obtain ⟨k2,l2,e2,h2⟩:=fb h1
 obtain ⟨k3,l3,e3,h3⟩:=fb h2
 obtain ⟨k4,l4,e4,h4⟩:=fb h3
 obtain ⟨k5,l5,e5,h5⟩:=fb h4
 have el:l = [k0,k1,k2,k3,k4,k5]:=by rw [e0,e1,e2,e3,e4,e5,List.eq_nil_of_length_eq_zero h5]
 clear h h0 h1 h2 h3 h4 h5 e0 e1 e2 e3 e4 e5
 subst el
 have e:k4 = x:=Option.some.inj e
 rw [e]
 exact ⟨k0,k1,k2,k3,k5,rfl⟩
noncomputable def tX (L:Addr → Option Obj) (n:Nat):Bool × Option (FuncBody × aK × List Str × Bool):=
 (nsIn (kL L n) mainGlobals "BadMove" == some (some (.ref (Ce (kL L n)))) && nsIn (kL L n) mainGlobals "Exception" == some none && (ru (Ce (kL L n)) (L (Ce (kL L n)))).isSome &&
  findIn (kL L n) (.ref (Ce (kL L n))) "__init__" == some (some (.ref (Gx (kL L n)))) && isFn (kL L n) (.ref (Gx (kL L n))) && findIn (kL L n) (.ref (Ce (kL L n))) "text" == some none &&
  findIn (kL L n) (.ref (Ce (kL L n))) "__setattr__" == some (some (.builtin "object.__setattr__")) && keepIn (kL L n) (.ref (Ce (kL L n))),
  FN L (.ref (Gx (kL L n))))
noncomputable def sS:Option (FuncBody × aK × List Str × Bool):=some (.stmts uE.body,uE.names,uE.params,true)
inductive Iv (C C2:Addr) (o:Option Obj):Prop
 | mk (nm q:Str) (N:Addr) (bs:List Value) (sn:List Str) (sub:List Value) (ab:Bool) (col:Option Bool) (dd:Option Addr) (k0 k1 k2 k3 k5:Option Value) (h:o = some (kY nm q C N C2 bs true sn sub ab col dd k0 k1 k2 k3 k5))
theorem zN {C C2:Addr} {o:Option Obj} (h:ru C o = some C2):Iv C C2 o:=by
 cases o with
 | none => cases h
 | some o =>
  obtain ⟨c,dd,d,sl⟩:=o
  unfold ru at h
  dsimp only at h
  split at h <;> try (cases h; done)
  rename_i cd
  split at h <;> try (cases h; done)
  split at h <;> cases h
  rename_i hh
  obtain ⟨rfl,h6,h4,hm,h2,h3⟩:=hh
  obtain ⟨k0,k1,k2,k3,k5,rfl⟩:=G4 h6 h4
  obtain ⟨nm,bs,mro,N,q,hd,sn,sub,ab,col,hdel⟩:=cd
  dsimp only at hm h2 h3
  subst hm h2 h3
  exact ⟨nm,q,N,bs,sn,sub,ab,col,dd,k0,k1,k2,k3,k5,rfl⟩
theorem zc {L:Addr → Option Obj} {n:Nat} (hL:∀ a,(kL L n).lookup a = L a) (h:tX L n = (true,sS)):∃ C C2 fI,qd (kL L n) C C2 fI:=by
 obtain ⟨h1,h2⟩:=Prod.mk.inj h
 simp only [Bool.and_eq_true,beq_iff_eq] at h1
 obtain ⟨⟨⟨⟨⟨⟨⟨b1,b2⟩,b3⟩,b4⟩,b5⟩,b6⟩,b7⟩,b8⟩:=h1
 obtain ⟨C2,hs⟩:=Option.isSome_iff_exists.mp b3
 obtain ⟨nm,q,N,bs,sn,sub,ab,col,dd,k0,k1,k2,k3,k5,ho⟩:=zN hs
 exact ⟨Ce (kL L n),C2,Gx (kL L n),⟨⟨nm,q,N,bs,sn,sub,ab,col,dd,k0,k1,k2,k3,k5,(hL _).trans ho⟩,b4,b5,b6,b7⟩,b2,CX hL h2,b1,b8⟩
end
section
open PySem PySem.W PyProof.Rows
noncomputable abbrev pg:Program:=PySem.Challenge.pw_pf0106_01
noncomputable def Ay (tb:String → Option Builtin) (p:Program) (w:World) (n₀ : Nat) (ann:Option Value):Nat → SharedT → Thread → Option SharedT
 | 0,_,_ => none
 | n + 1,s,t => match through t with
  | true => some s
  | false => match stepOk n₀ ann t with
   | false => none
   | true => match stepT (denote tb) p w s t with
    | some (s',t') => Ay tb p w n₀ ann n s' t'
    | none => none
theorem pE {tb:String → Option Builtin} {p:Program} {w:World} {n₀ : Nat} {ann:Option Value}:∀ {n:Nat} {s s':SharedT} {t:Thread},Ay tb p w n₀ ann n s t = some s' → topRun tb p w n₀ ann n s.abs t = some s'.abs
 | 0,_,_,_,h => by cases h
 | n + 1,s,s',t,h => by
  unfold Ay at h
  unfold topRun
  cases he:through t with
  | true => rw [he] at h; cases h; rfl
  | false =>
   rw [he] at h
   cases hk:stepOk n₀ ann t with
   | false => rw [hk] at h; cases h
   | true =>
    rw [hk] at h
    cases hs:stepT (denote tb) p w s t with
    | none => rw [hs] at h; cases h
    | some r => obtain ⟨s₂,t₂⟩:=r; rw [hs] at h; rw [stepT_spec hs]; exact pE h
noncomputable def vF (w:World):Nat → SharedT → Thread → Option SharedT
 | 0,_,_ => none
 | n + 1,s,t => match through t with
  | true => some s
  | false => match PySem.W.Fast.tw6613529449190102663 11 (some (.ref 6)) t with
   | false => none
   | true => match PySem.W.Fast.tw10156331382660048174 (PySem.W.Fast.tw11892475500146522536 PySem.W.Fast.tw14364793385576792824) pg w s t with
    | some (s',t') => vF w n s' t'
    | none => none
theorem w8 {w:World}:∀ (n:Nat) (s:SharedT) (t:Thread),Ay treeTable pg w 11 (some (.ref 6)) n s t = vF w n s t
 | 0,_,_ => rfl
 | n + 1,s,t => by
  unfold Ay vF
  rw [← show @stepOk = _ from PySem.W.Fast.te6613529449190102663,← show @stepT = _ from PySem.W.Fast.te10156331382660048174,← show @denote = _ from PySem.W.Fast.te11892475500146522536,← show @treeTable = _ from PySem.W.Fast.te14364793385576792824]
  split
  ·rfl
  ·split
   ·rfl
   ·split
    ·exact w8 n _ _
    ·rfl
noncomputable def qn (p:Program):Thread:=
 ⟨do
  let code ← PySem.W.Fast.tw17154629097778926822 p.main
  let frame ← newBodyFrame code mainNs mainNs
  let _ ← PySem.run (.body (behindTheImports p) { scope:=p.main.scope,locals:=mainNs,globals:=mainNs,cells:=[],code,frame:=some frame })
  ret .none,
  .builtin "claim.caller" {},default,[]⟩
theorem yM (p:Program):topStub p = qn p:=by unfold topStub qn; rw [show @moduleCode = _ from PySem.W.Fast.te17154629097778926822]
noncomputable def E0 (P:Params):BT:=.node (boot_o_0 P) (.node (boot_o_1 P) (.node (boot_o_3 P) (.node (boot_o_7 P) .nil .nil) .nil) (.node (boot_o_5 P) (.node (boot_o_9 P) .nil .nil) .nil)) (.node (boot_o_2 P) (.node (boot_o_4 P) (.node (boot_o_8 P) .nil .nil) .nil) (.node (boot_o_6 P) (.node (boot_o_10 P) .nil .nil) .nil))
noncomputable def S0 (w:World) (os:OsState):SharedT:=⟨E0 w.params,11,{},#[],boot_drawn,boot_toks,os⟩
theorem DY (w:World) (os:OsState):(S0 w os).abs = ⟨boot_heap w.params,#[],boot_drawn,boot_toks,os⟩:=by kernel_rfl
noncomputable def q:Program:=view pg [187]
noncomputable def loose:List Str:=pg.boundNames.filter fun n => n != "law" && !startupNames.contains n
noncomputable def jy (r:SharedT) (a:Addr):Option Obj:=match Nat.blt a r.n with
 | true => (match r.tree.get a with
  | some o => alive o
  | none => none)
 | false => none
noncomputable def zf (r:SharedT):Bool:=(List.range r.n).all fun a => (r.tree.get a).isSome
theorem Av {r:SharedT} (h:zf r = true) (a:Addr):r.abs.heap.get? a = jy r a:=by
 unfold jy
 cases e:Nat.blt a r.n with
 | false =>
  refine abs_get_none fun q => ?_
  haveI:Nat.blt a r.n = true:=Nat.ble_eq_true_of_le q
  rw [e] at this; cases this
 | true =>
  haveI lt:a < r.n:=Nat.le_of_ble_eq_true e
  obtain ⟨o,ho⟩:=Option.isSome_iff_exists.mp (List.all_eq_true.mp h a (List.mem_range.mpr lt))
  dsimp only
  rw [ho]
  exact abs_get lt ho
theorem Gf:importedModules pg.main.body = []:=by kernel_rfl
end
section
open PySem PySem.W PyProof.Rows
theorem Hi (w:World) (os:OsState):(vF w 6000 (S0 w os) (qn pg)).map (fun r =>
  (staticsOk [] (boot_heap w.params) r.abs.heap && namesBound pg r.abs.heap && gensDone r.abs && laidKept (boot_heap w.params) r.abs.heap,PySem.W.Fast.tw4187177175401517315 q loose [] (fun _ => true) true r.abs)) = some (true,openGood q loose):=by kernel_rfl
theorem Hv (w:World) (os:OsState):(vF w 6000 (S0 w os) (qn pg)).map (fun r => (ww (jy r) r.n,tX (jy r) r.n)) = some ((true,dg.map hH),(true,sS)):=by kernel_rfl
theorem Hb (w:World) (os:OsState):(vF w 6000 (S0 w os) (qn pg)).map (fun r => w5 (jy r) r.n && zf r) = some true:=by kernel_rfl
end
section
open PySem PySem.W PyProof.Rows
theorem GM (w:World):(boot_heap w.params).nsMap mainGlobals "__annotations__" = some (.ref 6):=by kernel_rfl
theorem E5 (w:World):((boot_heap w.params).isNs mainGlobals,(boot_heap w.params).objs.size) = (true,11):=by kernel_rfl
theorem Gi:opening pg = plainProg pg.main.scope.names:=by kernel_rfl
theorem Eu (s:Shared):fenceModules? pg s = some s:=by kernel_rfl
end
section
open PySem PySem.W PyProof.Rows
noncomputable abbrev lw:OpenLaw:=PySem.Challenge.rw_pf0106_01
theorem Iq:namesResolve pg = true:=by
 rw [show @namesResolve = _ from PySem.W.Fast.te8377067652309620493]
 kernel_rfl
theorem Ip:noRoadLSs { strict:=!(importedModules pg.main.body).all cThrough.contains,foot:=none,bare:=(["vars","dir","locals"]:List Str).filter (readsOut pg pg.main.body) } pg.main.body = true:=by
 rw [show @noRoadLSs = _ from PySem.W.Fast.te8326940854005059898,show @readsOut = _ from PySem.W.Fast.te13343964577679436407]
 kernel_rfl
theorem Ir:(namesMeet pg pg.main.body fun _ n => attrL n) = true:=by
 rw [show @namesMeet = _ from PySem.W.Fast.te17119622794617984870]
 kernel_rfl
theorem Ic:(sreFenced pg.main && ((moduleNames pg.main.body).isEmpty || lookedIntoSs (moduleNames pg.main.body) pg.main.body)) = true:=by
 rw [show @sreFenced = _ from PySem.W.Fast.te11788848310118352699]
 kernel_rfl
theorem Ij:pg.boundNames.all (fun n => !worldNames.contains n) = true:=by
 rw [show @Program.boundNames = _ from PySem.W.Fast.te18344453789297297638]
 kernel_rfl
theorem Ib:looksOpen pg = true:=by
 unfold looksOpen
 rw [Iq,Ip,Ir,Ic,Ij] <;> rfl
theorem Ik:lw.row.wellSaid = true:=by
 unfold OpenRow.wellSaid OpenRow.partSaid
 rw [show lw.row.toRowW.prog = pg from rfl,Ib,show @Program.boundNames = _ from PySem.W.Fast.te18344453789297297638]
 kernel_rfl
theorem It:noRoadLSs { strict:=true,foot:=some lw.bound',writes:=lw.writes,may:=lw.may } lw.footing = true:=by
 rw [show @noRoadLSs = _ from PySem.W.Fast.te8326940854005059898]
 kernel_rfl
theorem ws:lw.wellSaid = true:=by
 unfold OpenLaw.wellSaid
 rw [Ik,It,show @noClassBlock = _ from PySem.W.Fast.te8179353310426384613,show @OpenLaw.namesIt = _ from PySem.W.Fast.te16286561074155671207,show @OpenLaw.reads = _ from PySem.W.Fast.te6984425678791042302,show @OpenLaw.bound' = _ from PySem.W.Fast.te797321630700447069,show @namesMeet = _ from PySem.W.Fast.te17119622794617984870]
 kernel_rfl
end
section
open PySem PySem.W PyProof.Rows
noncomputable abbrev Hg:OpenLaw:=PySem.Challenge.rw_pf0106_01
theorem Im:Hg.row.toRowW.promised:=⟨[.list []],by decide +kernel,by decide +kernel⟩
theorem Gn:pg.bare:=⟨rfl,rfl,rfl,rfl,rfl,by decide +kernel⟩
theorem H8:(chainsOk q && opensWell pg && (frees Hg.row.toRowW && Hg.row.toRowW.within.isEmpty)) = true:=by decide +kernel
end
section
open PySem PySem.W PyProof.Rows
noncomputable abbrev Ge:=((Bool × List (Option (FuncBody × aK × List Str × Bool))) × (Bool × Option (FuncBody × aK × List Str × Bool))) × Bool
noncomputable def jY (s:Shared):Ge:=((ww s.heap.get? s.heap.objs.size,tX s.heap.get? s.heap.objs.size),w5 s.heap.get? s.heap.objs.size)
noncomputable def gJ:Ge:=(((true,dg.map hH),(true,sS)),true)
noncomputable def uI (_:World) (h:Heap):Prop:=∃ L n,(∀ a o,L a = some o → h.get? a = some o) ∧ (∀ a,n ≤ a → L a = none) ∧ ww L n = (true,dg.map hH) ∧ tX L n = (true,sS) ∧ w5 L n = true
theorem yH (w:World) (s:Shared) (e:jY s = gJ):uI w s.heap:=by
 obtain ⟨e1,e2⟩:=Prod.mk.inj e
 obtain ⟨e1,e3⟩:=Prod.mk.inj e1
 exact ⟨_,_,fun _ _ h => h,fun a h => Heap.get?_none_of_le h,e1,e3,e2⟩
theorem uh (w:World) (h h':Heap) (x:uI w h) (k:∀ b o,h.get? b = some o → h'.get? b = some o):uI w h':=by
 obtain ⟨L,n,a,b⟩:=x
 exact ⟨L,n,fun p o e => k _ _ (a p o e),b⟩
theorem zH {p q:Program} {loose:List Str} {Xt:Shared → Bool} {α : Type} {Yf:Shared → α} {Ya:World → α} {N:Nat} {w:World} {s₀ s₁ : Shared} (e:fencedOpening treeTable p w N = some s₀)
  (z:(s₀.heap.isNs mainGlobals && s₀.gens.size == 0) = true) (run:topRun treeTable p w s₀.heap.objs.size (s₀.heap.nsMap mainGlobals "__annotations__") N s₀ (topStub p) = some s₁)
  (l1:(staticsOk (importedModules p.main.body) s₀.heap s₁.heap && namesBound p s₁.heap && gensDone s₁ && laidKept s₀.heap s₁.heap) = true)
  (l2:openSeen q loose (importedModules p.main.body) Xt true s₁ = openGood q loose) (l3:Yf s₁ = Ya w) :
  (openEnds treeTable p w N).map (fun s => (openSeen q loose (importedModules p.main.body) Xt true s,Yf s)) = some (openGood q loose,Ya w):=by
 haveI t:topFrom treeTable p w N s₀ = some s₁:=by
  unfold topFrom
  rw [z,run]
  show (match staticsOk (importedModules p.main.body) s₀.heap s₁.heap && namesBound p s₁.heap && gensDone s₁ && laidKept s₀.heap s₁.heap with | true => _ | false => _) = _
  rw [l1]
 unfold openEnds
 rw [e]
 show (topFrom treeTable p w N _).map _ = _
 rw [t]
 exact congrArg some (Prod.ext l2 l3)
theorem DJ {w:World} {os:OsState} {r:SharedT} (hr:vF w 6000 (S0 w os) (qn pg) = some r) :
  topRun treeTable pg w 11 (some (.ref 6)) 6000 ⟨boot_heap w.params,#[],boot_drawn,boot_toks,os⟩ (topStub pg) = some r.abs:=by
 rw [← w8,← yM] at hr
 haveI run:=pE hr
 rw [DY] at run
 exact run
theorem Df {r:SharedT} (hB:(ww (jy r) r.n,tX (jy r) r.n) = ((true,dg.map hH),(true,sS))) (hC:(w5 (jy r) r.n && zf r) = true):jY r.abs = gJ:=by
 obtain ⟨c1,c2⟩:=Bool.and_eq_true_iff.mp hC
 haveI gt:r.abs.heap.get? = jy r:=funext (Av c2)
 haveI sz:r.abs.heap.objs.size = r.n:=absHeap_size _ _ _
 unfold jY gJ
 rw [gt,sz,hB,c1]
theorem BM {s:Shared} (h:PySem.W.Fast.tw4187177175401517315 q loose [] (fun _ => true) true s = openGood q loose):openSeen q loose [] (fun _ => true) true s = openGood q loose:=by
 rw [show @openSeen = _ from PySem.W.Fast.te4187177175401517315]; exact h
theorem left:LeftO pg q loose (fun _ => true) jY (fun _ => gJ) 6000:=fun w => by
 obtain ⟨⟨h,gs,d,k,os⟩,e,e'⟩:=Option.map_eq_some_iff.mp (boot_open (p:=pg) (N:=6000) Gi rfl Eu w)
 obtain ⟨rfl,e'⟩:=Prod.mk.inj e'
 obtain ⟨rfl,e'⟩:=Prod.mk.inj e'
 obtain ⟨rfl,rfl⟩:=Prod.mk.inj e'
 obtain ⟨r,hr,hA⟩:=mpd (Hi w os)
 obtain ⟨r',hr',hB⟩:=mpd (Hv w os)
 cases Option.some.inj (hr.symm.trans hr')
 obtain ⟨r',hr',hC⟩:=mpd (Hb w os)
 cases Option.some.inj (hr.symm.trans hr')
 obtain ⟨a1,a2⟩:=Prod.mk.inj hA
 obtain ⟨z1,z2⟩:=Prod.mk.inj (E5 w)
 refine zH (Yf:=jY) (Ya:=fun _ => gJ) (s₁:=r.abs) e (by rw [z1]; rfl) (by rw [z2,GM]; exact DJ hr) ?_ ?_ (Df hB hC)
 ·rw [Gf]; exact a1
 ·rw [Gf]; exact BM a2
noncomputable def dk:DefRec × List (Str × PySem.Expr):=(defOf q "law").getD (⟨"",⟨[],[],none,[],[],none,[]⟩,[],pg.main.scope,default⟩,[])
theorem Fo:defOf q "law" = some (dk.1,dk.2):=by kernel_rfl
theorem Ez:pg.theDef "law" = some (dk.1.params,dk.1.body,dk.1.scope):=by kernel_rfl
theorem FT:kwWritten? dk.1.params.kwonlyargs dk.1.params.kw_defaults = some dk.2:=by kernel_rfl
theorem head (call:WalkO q loose (fun _ _ => True) uI lw.row.toRowW dk.1 dk.2 fun f vs => PySem.call f vs):lw.Holds:=
 holds_law ws fun k1 => holds_open (r:=lw.row) (q:=q) (loose:=loose) (Xt:=fun _ => true) (XP:=fun _ _ => True) (Yf:=jY) (Ya:=fun _ => gJ) (YP:=uI) left yH uh (fun _ _ => trivial) (fun _ _ _ _ _ => trivial)
  Fo Ez FT (fun s _ => recFacts_nil rfl) rfl k1 H8 Gn Im call
end
end
end Mine
namespace Mine.B
noncomputable section
section
open PySem
noncomputable def nf:Fm:=fun _ => none
noncomputable def fm (l:List (Option Nat)):Nat → Option Nat:=fun j => (l[j]?).join
noncomputable def fin (r:Option (Fl × Fm × H)):Option (V × H):=r.map fun q => (match q.1 with | .ret v => v | .next => .none,q.2.2)
noncomputable abbrev rx (g:G) (n:Nat):Sx:=ag [
 aw (ao .Add (ao .Mult (aa 0) (ac (.int 8))) (aa 1))]
theorem qE (n:Nat) (a0 a1:V) (h:H):run ah (n + 1) "make_piece" [a0,a1] h = fin (rx (run ah n) n (upd (upd nf 0 a0) 1 a1) h):=by kernel_rfl
noncomputable abbrev yx (g:G) (n:Nat):Sx:=ag [
 aw (ao .RShift (aa 0) (ac (.int 3)))]
theorem yp (n:Nat) (a0:V) (h:H):run ah (n + 1) "side_of" [a0] h = fin (yx (run ah n) n (upd nf 0 a0) h):=by kernel_rfl
noncomputable abbrev xW (g:G) (n:Nat):Sx:=ag [
 aw (ao .BitAnd (aa 0) (ac (.int 7)))]
theorem yo (n:Nat) (a0:V) (h:H):run ah (n + 1) "kind_of" [a0] h = fin (xW (run ah n) n (upd nf 0 a0) h):=by kernel_rfl
noncomputable abbrev tC (g:G) (n:Nat):Sx:=ag [
 aj 4 (ac (.int 0)),
 aU (ax .Eq (aa 2) (ac (.int 1))) (ag [aj 4 (ao .Sub (aa 3) (ac (.int 2)))]) (ag []),
 aw (ao .BitOr (ao .BitOr (ao .BitOr (aa 1) (ao .LShift (aa 0) (ac (.int 6)))) (ao .LShift (aa 4) (ac (.int 12)))) (ao .LShift (aa 2) (ac (.int 14))))]
theorem sZ (n:Nat) (a0 a1 a2 a3:V) (h:H):run ah (n + 1) "pack_move" [a0,a1,a2,a3] h = fin (tC (run ah n) n (upd (upd (upd (upd nf 0 a0) 1 a1) 2 a2) 3 a3) h):=by kernel_rfl
noncomputable abbrev ux (g:G) (n:Nat):Sx:=ag [
 aw (ao .BitAnd (ao .RShift (aa 0) (ac (.int 6))) (ac (.int 63)))]
theorem sF (n:Nat) (a0:V) (h:H):run ah (n + 1) "move_from" [a0] h = fin (ux (run ah n) n (upd nf 0 a0) h):=by kernel_rfl
noncomputable abbrev xK (g:G) (n:Nat):Sx:=ag [
 aw (ao .BitAnd (aa 0) (ac (.int 63)))]
theorem xJ (n:Nat) (a0:V) (h:H):run ah (n + 1) "move_to" [a0] h = fin (xK (run ah n) n (upd nf 0 a0) h):=by kernel_rfl
noncomputable abbrev nC (g:G) (n:Nat):Sx:=ag [
 aw (ao .BitAnd (ao .RShift (aa 0) (ac (.int 14))) (ac (.int 3)))]
theorem nI (n:Nat) (a0:V) (h:H):run ah (n + 1) "move_special" [a0] h = fin (nC (run ah n) n (upd nf 0 a0) h):=by kernel_rfl
noncomputable abbrev lA (g:G) (n:Nat):Sx:=ag [
 aw (cG .NotEq (ao .BitAnd (aa 0) (ao .Sub (aa 0) (ac (.int 1)))) (ac (.int 0)))]
theorem lH (n:Nat) (a0:V) (h:H):run ah (n + 1) "more_than_one" [a0] h = fin (lA (run ah n) n (upd nf 0 a0) h):=by kernel_rfl
noncomputable abbrev yj (g:G) (n:Nat):Sx:=ag [
 aU (ax .Eq (aa 0) (ac (.int 0))) (ag [aw (i0 .USub (ac (.int 1)))]) (ag []),
 aj 1 (ac (.int 1)),
 bM (aX (ao .RShift (aa 0) (aa 1))) (ag [aF 1 .Mult (ac (.int 2))]) n,
 aj 2 (ac (.int 0)),
 bM (ax .Gt (aa 1) (ac (.int 1))) (ag [aF 1 .FloorDiv (ac (.int 2)),aU (aX (ao .RShift (aa 0) (aa 1))) (ag [aF 0 .RShift (aa 1),aF 2 .Add (aa 1)]) (ag [])]) n,
 aw (aa 2)]
theorem yv (n:Nat) (a0:V) (h:H):run ah (n + 1) "highest" [a0] h = fin (yj (run ah n) n (upd nf 0 a0) h):=by kernel_rfl
noncomputable abbrev zg (g:G) (n:Nat):Sx:=ag [
 aw (af g "highest" [(ao .BitAnd (aa 0) (i0 .USub (aa 0)))])]
theorem Ao (n:Nat) (a0:V) (h:H):run ah (n + 1) "lowest" [a0] h = fin (zg (run ah n) n (upd nf 0 a0) h):=by kernel_rfl
noncomputable abbrev qS (g:G) (n:Nat):Sx:=ag [
 aj 1 (aP []),
 aj 2 (ac (.int 0)),
 bM (aX (aa 0)) (ag [bM (fO (aX (ao .BitAnd (aa 0) (ac (.int 15))))) (ag [aF 0 .RShift (ac (.int 4)),aF 2 .Add (ac (.int 4))]) n,aU (aX (ao .BitAnd (aa 0) (ac (.int 1)))) (ag [au (aZ g (aa 1) "append" [(aa 2)])]) (ag []),aF 0 .RShift (ac (.int 1)),aF 2 .Add (ac (.int 1))]) n,
 aw (aa 1)]
theorem rv (n:Nat) (a0:V) (h:H):run ah (n + 1) "squares_of" [a0] h = fin (qS (run ah n) n (upd nf 0 a0) h):=by kernel_rfl
noncomputable abbrev ut (g:G) (n:Nat):Sx:=ag [
 bF 3 (af g "range" [(ac (.int 8))]) (ag [aU (aX (ao .BitAnd (ao .RShift (av (av (ai (aa 0) "rays") (aa 3)) (aa 1)) (aa 2)) (ac (.int 1)))) (ag [aw (aa 3)]) (ag [])]),
 aw (i0 .USub (ac (.int 1)))]
theorem sW (n:Nat) (a0 a1 a2:V) (h:H):run ah (n + 1) "direction" [a0,a1,a2] h = fin (ut (run ah n) n (upd (upd (upd nf 0 a0) 1 a1) 2 a2) h):=by kernel_rfl
noncomputable abbrev yz (g:G) (n:Nat):Sx:=ag [
 aj 3 (af g "direction" [(aa 0),(aa 1),(aa 2)]),
 aU (ax .Lt (aa 3) (ac (.int 0))) (ag [aw (ac (.int 0))]) (ag []),
 aw (ao .BitAnd (av (av (ai (aa 0) "rays") (aa 3)) (aa 1)) (av (av (ai (aa 0) "rays") (ao .BitXor (aa 3) (ac (.int 2)))) (aa 2)))]
theorem ym (n:Nat) (a0 a1 a2:V) (h:H):run ah (n + 1) "between" [a0,a1,a2] h = fin (yz (run ah n) n (upd (upd (upd nf 0 a0) 1 a1) 2 a2) h):=by kernel_rfl
noncomputable abbrev ri (g:G) (n:Nat):Sx:=ag [
 aw (cf .Or [(cG .Gt (av (ac (.tup [1,0,(-1),0,1,(-1),(-1),1])) (aa 0)) (ac (.int 0))),(cG .Eq (aa 0) (ac (.int 1)))])]
theorem qx (n:Nat) (a0:V) (h:H):run ah (n + 1) "is_growing" [a0] h = fin (ri (run ah n) n (upd nf 0 a0) h):=by kernel_rfl
noncomputable abbrev o5 (g:G) (n:Nat):Sx:=ag [
 aj 4 (av (av (ai (aa 0) "rays") (aa 1)) (aa 2)),
 aj 5 (ao .BitAnd (aa 4) (aa 3)),
 aU (ax .Eq (aa 5) (ac (.int 0))) (ag [aw (aa 4)]) (ag []),
 aU (aX (af g "is_growing" [(aa 1)])) (ag [aw (ao .BitAnd (aa 4) (ao .BitXor (aa 5) (ao .Sub (aa 5) (ac (.int 1)))))]) (ag []),
 aj 6 (ao .RShift (aa 5) (ac (.int 1))),
 aF 6 .BitOr (ao .RShift (aa 6) (ac (.int 1))),
 aF 6 .BitOr (ao .RShift (aa 6) (ac (.int 2))),
 aF 6 .BitOr (ao .RShift (aa 6) (ac (.int 4))),
 aF 6 .BitOr (ao .RShift (aa 6) (ac (.int 8))),
 aF 6 .BitOr (ao .RShift (aa 6) (ac (.int 16))),
 aF 6 .BitOr (ao .RShift (aa 6) (ac (.int 32))),
 aw (ao .BitAnd (aa 4) (i0 .Invert (aa 6)))]
theorem oY (n:Nat) (a0 a1 a2 a3:V) (h:H):run ah (n + 1) "ray_attacks" [a0,a1,a2,a3] h = fin (o5 (run ah n) n (upd (upd (upd (upd nf 0 a0) 1 a1) 2 a2) 3 a3) h):=by kernel_rfl
noncomputable abbrev mM (g:G) (n:Nat):Sx:=ag [
 aj 3 (ac (.int 0)),
 bF 4 (af g "range" [(ac (.int 4))]) (ag [aF 3 .BitOr (af g "ray_attacks" [(aa 0),(aa 4),(aa 1),(aa 2)])]),
 aw (aa 3)]
theorem ny (n:Nat) (a0 a1 a2:V) (h:H):run ah (n + 1) "rook_attacks" [a0,a1,a2] h = fin (mM (run ah n) n (upd (upd (upd nf 0 a0) 1 a1) 2 a2) h):=by kernel_rfl
noncomputable abbrev kA (g:G) (n:Nat):Sx:=ag [
 aj 3 (ac (.int 0)),
 bF 4 (af g "range" [(ac (.int 4)),(ac (.int 8))]) (ag [aF 3 .BitOr (af g "ray_attacks" [(aa 0),(aa 4),(aa 1),(aa 2)])]),
 aw (aa 3)]
theorem kB (n:Nat) (a0 a1 a2:V) (h:H):run ah (n + 1) "bishop_attacks" [a0,a1,a2] h = fin (kA (run ah n) n (upd (upd (upd nf 0 a0) 1 a1) 2 a2) h):=by kernel_rfl
noncomputable abbrev lu (g:G) (n:Nat):Sx:=ag [
 aw (ao .BitOr (af g "rook_attacks" [(aa 0),(aa 1),(aa 2)]) (af g "bishop_attacks" [(aa 0),(aa 1),(aa 2)]))]
theorem lM (n:Nat) (a0 a1 a2:V) (h:H):run ah (n + 1) "queen_attacks" [a0,a1,a2] h = fin (lu (run ah n) n (upd (upd (upd nf 0 a0) 1 a1) 2 a2) h):=by kernel_rfl
noncomputable abbrev j6 (g:G) (n:Nat):Sx:=ag [
 aU (ax .Eq (aa 1) (ac (.int 3))) (ag [aw (af g "bishop_attacks" [(aa 0),(aa 2),(aa 3)])]) (ag []),
 aU (ax .Eq (aa 1) (ac (.int 4))) (ag [aw (af g "rook_attacks" [(aa 0),(aa 2),(aa 3)])]) (ag []),
 aU (ax .Eq (aa 1) (ac (.int 5))) (ag [aw (af g "queen_attacks" [(aa 0),(aa 2),(aa 3)])]) (ag []),
 aw (ac (.int 0))]
theorem dq (n:Nat) (a0 a1 a2 a3:V) (h:H):run ah (n + 1) "slider_attacks" [a0,a1,a2,a3] h = fin (j6 (run ah n) n (upd (upd (upd (upd nf 0 a0) 1 a1) 2 a2) 3 a3) h):=by kernel_rfl
noncomputable abbrev lz (g:G) (n:Nat):Sx:=ag [
 aU (ax .Eq (aa 2) (ac (.int 1))) (ag [aw (av (av (ai (aa 0) "pawn") (aa 1)) (aa 3))]) (ag []),
 aU (ax .Eq (aa 2) (ac (.int 2))) (ag [aw (av (ai (aa 0) "knight") (aa 3))]) (ag []),
 aU (ax .Eq (aa 2) (ac (.int 6))) (ag [aw (av (ai (aa 0) "king") (aa 3))]) (ag []),
 aw (af g "slider_attacks" [(aa 0),(aa 2),(aa 3),(aa 4)])]
theorem lC (n:Nat) (a0 a1 a2 a3 a4:V) (h:H):run ah (n + 1) "piece_attacks" [a0,a1,a2,a3,a4] h = fin (lz (run ah n) n (upd (upd (upd (upd (upd nf 0 a0) 1 a1) 2 a2) 3 a3) 4 a4) h):=by kernel_rfl
noncomputable abbrev tj (g:G) (n:Nat):Sx:=ag [
 aj 3 (ao .LShift (ac (.int 1)) (aa 2)),
 bB (ai (aa 0) "board") (aa 2) (aa 1),
 co (ai (aa 0) "kinds") (af g "kind_of" [(aa 1)]) .BitOr (aa 3),
 co (ai (aa 0) "sides") (af g "side_of" [(aa 1)]) .BitOr (aa 3),
 bh (aa 0) "key" .BitXor (av (av (ai (ai (aa 0) "zob") "pieces") (aa 1)) (aa 2))]
theorem uJ (n:Nat) (a0 a1 a2:V) (h:H):run ah (n + 1) "put_piece" [a0,a1,a2] h = fin (tj (run ah n) n (upd (upd (upd nf 0 a0) 1 a1) 2 a2) h):=by kernel_rfl
noncomputable abbrev rM (g:G) (n:Nat):Sx:=ag [
 aj 2 (av (ai (aa 0) "board") (aa 1)),
 aj 3 (ao .LShift (ac (.int 1)) (aa 1)),
 bB (ai (aa 0) "board") (aa 1) (ac (.int 0)),
 co (ai (aa 0) "kinds") (af g "kind_of" [(aa 2)]) .BitXor (aa 3),
 co (ai (aa 0) "sides") (af g "side_of" [(aa 2)]) .BitXor (aa 3),
 bh (aa 0) "key" .BitXor (av (av (ai (ai (aa 0) "zob") "pieces") (aa 2)) (aa 1)),
 aw (aa 2)]
theorem rm (n:Nat) (a0 a1:V) (h:H):run ah (n + 1) "take_piece" [a0,a1] h = fin (rM (run ah n) n (upd (upd nf 0 a0) 1 a1) h):=by kernel_rfl
noncomputable abbrev oF (g:G) (n:Nat):Sx:=ag [
 aj 3 (av (ai (aa 0) "board") (aa 1)),
 aj 4 (ao .BitOr (ao .LShift (ac (.int 1)) (aa 1)) (ao .LShift (ac (.int 1)) (aa 2))),
 bB (ai (aa 0) "board") (aa 1) (ac (.int 0)),
 bB (ai (aa 0) "board") (aa 2) (aa 3),
 co (ai (aa 0) "kinds") (af g "kind_of" [(aa 3)]) .BitXor (aa 4),
 co (ai (aa 0) "sides") (af g "side_of" [(aa 3)]) .BitXor (aa 4),
 aj 5 (av (ai (ai (aa 0) "zob") "pieces") (aa 3)),
 bh (aa 0) "key" .BitXor (ao .BitXor (av (aa 5) (aa 1)) (av (aa 5) (aa 2)))]
theorem oT (n:Nat) (a0 a1 a2:V) (h:H):run ah (n + 1) "shift_piece" [a0,a1,a2] h = fin (oF (run ah n) n (upd (upd (upd nf 0 a0) 1 a1) 2 a2) h):=by kernel_rfl
noncomputable abbrev u5 (g:G) (n:Nat):Sx:=ag [
 aw (ao .BitOr (av (ai (aa 0) "sides") (ac (.int 0))) (av (ai (aa 0) "sides") (ac (.int 1))))]
theorem u7 (n:Nat) (a0:V) (h:H):run ah (n + 1) "occupied" [a0] h = fin (u5 (run ah n) n (upd nf 0 a0) h):=by kernel_rfl
noncomputable abbrev yF (g:G) (n:Nat):Sx:=ag [
 aw (ao .BitAnd (av (ai (aa 0) "sides") (aa 1)) (av (ai (aa 0) "kinds") (aa 2)))]
theorem tv (n:Nat) (a0 a1 a2:V) (h:H):run ah (n + 1) "pieces" [a0,a1,a2] h = fin (yF (run ah n) n (upd (upd (upd nf 0 a0) 1 a1) 2 a2) h):=by kernel_rfl
noncomputable abbrev oZ (g:G) (n:Nat):Sx:=ag [
 aw (af g "lowest" [(ao .BitAnd (av (ai (aa 0) "sides") (aa 1)) (av (ai (aa 0) "kinds") (ac (.int 6))))])]
theorem oM (n:Nat) (a0 a1:V) (h:H):run ah (n + 1) "king_square" [a0,a1] h = fin (oZ (run ah n) n (upd (upd nf 0 a0) 1 a1) h):=by kernel_rfl
noncomputable abbrev ix (g:G) (n:Nat):Sx:=ag [
 aw (ao .BitOr (av (ai (aa 0) "kinds") (ac (.int 4))) (av (ai (aa 0) "kinds") (ac (.int 5))))]
theorem iK (n:Nat) (a0:V) (h:H):run ah (n + 1) "straight_sliders" [a0] h = fin (ix (run ah n) n (upd nf 0 a0) h):=by kernel_rfl
noncomputable abbrev ir (g:G) (n:Nat):Sx:=ag [
 aw (ao .BitOr (av (ai (aa 0) "kinds") (ac (.int 3))) (av (ai (aa 0) "kinds") (ac (.int 5))))]
theorem iU (n:Nat) (a0:V) (h:H):run ah (n + 1) "slanting_sliders" [a0] h = fin (ir (run ah n) n (upd nf 0 a0) h):=by kernel_rfl
noncomputable abbrev jX (g:G) (n:Nat):Sx:=ag [
 aw (ao .BitAnd (ao .BitAnd (av (av (ai (ai (aa 0) "geo") "pawn") (ao .Sub (ac (.int 1)) (aa 2))) (aa 1)) (av (ai (aa 0) "kinds") (ac (.int 1)))) (av (ai (aa 0) "sides") (aa 2)))]
theorem j5 (n:Nat) (a0 a1 a2:V) (h:H):run ah (n + 1) "pawn_attackers" [a0,a1,a2] h = fin (jX (run ah n) n (upd (upd (upd nf 0 a0) 1 a1) 2 a2) h):=by kernel_rfl
noncomputable abbrev jU (g:G) (n:Nat):Sx:=ag [
 aj 3 (ai (aa 0) "geo"),
 aj 4 (ao .BitAnd (av (ai (aa 3) "knight") (aa 1)) (av (ai (aa 0) "kinds") (ac (.int 2)))),
 aF 4 .BitOr (ao .BitAnd (av (ai (aa 3) "king") (aa 1)) (av (ai (aa 0) "kinds") (ac (.int 6)))),
 aw (ao .BitOr (af g "pawn_attackers" [(aa 0),(aa 1),(aa 2)]) (ao .BitAnd (aa 4) (av (ai (aa 0) "sides") (aa 2))))]
theorem kE (n:Nat) (a0 a1 a2:V) (h:H):run ah (n + 1) "step_attackers" [a0,a1,a2] h = fin (jU (run ah n) n (upd (upd (upd nf 0 a0) 1 a1) 2 a2) h):=by kernel_rfl
noncomputable abbrev kt (g:G) (n:Nat):Sx:=ag [
 aj 3 (ac (.int 0)),
 aj 4 (af g "straight_sliders" [(aa 0)]),
 aU (aX (aa 4)) (ag [aF 3 .BitOr (ao .BitAnd (af g "rook_attacks" [(ai (aa 0) "geo"),(aa 1),(aa 2)]) (aa 4))]) (ag []),
 aj 5 (af g "slanting_sliders" [(aa 0)]),
 aU (aX (aa 5)) (ag [aF 3 .BitOr (ao .BitAnd (af g "bishop_attacks" [(ai (aa 0) "geo"),(aa 1),(aa 2)]) (aa 5))]) (ag []),
 aw (aa 3)]
theorem jO (n:Nat) (a0 a1 a2:V) (h:H):run ah (n + 1) "line_attackers" [a0,a1,a2] h = fin (kt (run ah n) n (upd (upd (upd nf 0 a0) 1 a1) 2 a2) h):=by kernel_rfl
noncomputable abbrev mS (g:G) (n:Nat):Sx:=ag [
 aj 3 (ao .BitOr (af g "step_attackers" [(aa 0),(aa 1),(ac (.int 0))]) (af g "step_attackers" [(aa 0),(aa 1),(ac (.int 1))])),
 aw (ao .BitOr (aa 3) (af g "line_attackers" [(aa 0),(aa 1),(aa 2)]))]
theorem mn (n:Nat) (a0 a1 a2:V) (h:H):run ah (n + 1) "attackers_to" [a0,a1,a2] h = fin (mS (run ah n) n (upd (upd (upd nf 0 a0) 1 a1) 2 a2) h):=by kernel_rfl
noncomputable abbrev o6 (g:G) (n:Nat):Sx:=ag [
 aU (aX (af g "step_attackers" [(aa 0),(aa 1),(aa 2)])) (ag [aw (ac (.bool true))]) (ag []),
 aj 4 (ai (aa 0) "geo"),
 aj 5 (av (ai (aa 0) "sides") (aa 2)),
 aj 6 (ao .BitAnd (af g "straight_sliders" [(aa 0)]) (aa 5)),
 aU (cI .And [(aX (aa 6)),(aX (ao .BitAnd (af g "rook_attacks" [(aa 4),(aa 1),(aa 3)]) (aa 6)))]) (ag [aw (ac (.bool true))]) (ag []),
 aj 7 (ao .BitAnd (af g "slanting_sliders" [(aa 0)]) (aa 5)),
 aw (cf .And [(cG .NotEq (aa 7) (ac (.int 0))),(cG .NotEq (ao .BitAnd (af g "bishop_attacks" [(aa 4),(aa 1),(aa 3)]) (aa 7)) (ac (.int 0)))])]
theorem oG (n:Nat) (a0 a1 a2 a3:V) (h:H):run ah (n + 1) "is_attacked" [a0,a1,a2,a3] h = fin (o6 (run ah n) n (upd (upd (upd (upd nf 0 a0) 1 a1) 2 a2) 3 a3) h):=by kernel_rfl
noncomputable abbrev o4 (g:G) (n:Nat):Sx:=ag [
 aj 2 (ao .BitOr (av (ai (aa 0) "sides") (ac (.int 0))) (av (ai (aa 0) "sides") (ac (.int 1)))),
 aw (ao .BitAnd (af g "attackers_to" [(aa 0),(af g "king_square" [(aa 0),(aa 1)]),(aa 2)]) (av (ai (aa 0) "sides") (ao .Sub (ac (.int 1)) (aa 1))))]
theorem o9 (n:Nat) (a0 a1:V) (h:H):run ah (n + 1) "checkers_of" [a0,a1] h = fin (o4 (run ah n) n (upd (upd nf 0 a0) 1 a1) h):=by kernel_rfl
noncomputable abbrev vO (g:G) (n:Nat):Sx:=ag [
 aw (af g "checkers_of" [(aa 0),(ai (aa 0) "side")])]
theorem v6 (n:Nat) (a0:V) (h:H):run ah (n + 1) "checkers" [a0] h = fin (vO (run ah n) n (upd nf 0 a0) h):=by kernel_rfl
noncomputable abbrev pf (g:G) (n:Nat):Sx:=ag [
 aj 2 (ao .BitOr (av (ai (aa 0) "sides") (ac (.int 0))) (av (ai (aa 0) "sides") (ac (.int 1)))),
 aw (af g "is_attacked" [(aa 0),(af g "king_square" [(aa 0),(aa 1)]),(ao .Sub (ac (.int 1)) (aa 1)),(aa 2)])]
theorem oO (n:Nat) (a0 a1:V) (h:H):run ah (n + 1) "in_check_of" [a0,a1] h = fin (pf (run ah n) n (upd (upd nf 0 a0) 1 a1) h):=by kernel_rfl
noncomputable abbrev uT (g:G) (n:Nat):Sx:=ag [
 aw (af g "in_check_of" [(aa 0),(ai (aa 0) "side")])]
theorem vj (n:Nat) (a0:V) (h:H):run ah (n + 1) "in_check" [a0] h = fin (uT (run ah n) n (upd nf 0 a0) h):=by kernel_rfl
noncomputable abbrev rj (g:G) (n:Nat):Sx:=ag [
 aj 2 (af g "king_square" [(aa 0),(aa 1)]),
 aj 3 (ao .BitAnd (af g "rook_attacks" [(ai (aa 0) "geo"),(aa 2),(ac (.int 0))]) (af g "straight_sliders" [(aa 0)])),
 aF 3 .BitOr (ao .BitAnd (af g "bishop_attacks" [(ai (aa 0) "geo"),(aa 2),(ac (.int 0))]) (af g "slanting_sliders" [(aa 0)])),
 aw (ao .BitAnd (aa 3) (av (ai (aa 0) "sides") (ao .Sub (ac (.int 1)) (aa 1))))]
theorem rW (n:Nat) (a0 a1:V) (h:H):run ah (n + 1) "snipers_of" [a0,a1] h = fin (rj (run ah n) n (upd (upd nf 0 a0) 1 a1) h):=by kernel_rfl
noncomputable abbrev uW (g:G) (n:Nat):Sx:=ag [
 aj 2 (af g "king_square" [(aa 0),(aa 1)]),
 aj 3 (af g "snipers_of" [(aa 0),(aa 1)]),
 aj 4 (ao .BitXor (ao .BitOr (av (ai (aa 0) "sides") (ac (.int 0))) (av (ai (aa 0) "sides") (ac (.int 1)))) (aa 3)),
 aj 5 (ac (.int 0)),
 aj 6 (ac (.int 0)),
 bF 7 (af g "squares_of" [(aa 3)]) (ag [aj 8 (ao .BitAnd (af g "between" [(ai (aa 0) "geo"),(aa 2),(aa 7)]) (aa 4)),aU (cI .And [(aX (aa 8)),(fO (aX (af g "more_than_one" [(aa 8)])))]) (ag [aF 5 .BitOr (aa 8),aU (aX (ao .BitAnd (aa 8) (av (ai (aa 0) "sides") (aa 1)))) (ag [aF 6 .BitOr (ao .LShift (ac (.int 1)) (aa 7))]) (ag [])]) (ag [])]),
 aw (dM [(aa 5),(aa 6)])]
theorem mQ (n:Nat) (a0 a1:V) (h:H):run ah (n + 1) "blockers" [a0,a1] h = fin (uW (run ah n) n (upd (upd nf 0 a0) 1 a1) h):=by kernel_rfl
noncomputable abbrev lq (g:G) (n:Nat):Sx:=ag [
 aw (ao .BitAnd (av (af g "blockers" [(aa 0),(aa 1)]) (ac (.int 0))) (av (ai (aa 0) "sides") (aa 1)))]
theorem lB (n:Nat) (a0 a1:V) (h:H):run ah (n + 1) "pinned_pieces" [a0,a1] h = fin (lq (run ah n) n (upd (upd nf 0 a0) 1 a1) h):=by kernel_rfl
noncomputable abbrev kq (g:G) (n:Nat):Sx:=ag [
 aj 2 (av (ai (ai (aa 0) "geo") "castles") (aa 1)),
 aU (ax .Is (aa 2) (ac .none)) (ag [aw (ac (.int 1))]) (ag []),
 aU (ax .Eq (ao .BitAnd (ai (aa 0) "rights") (ao .LShift (ac (.int 1)) (aa 1))) (ac (.int 0))) (ag [aw (ac (.int 2))]) (ag []),
 bz [3,4,5,6] (aa 2),
 aj 7 (af g "occupied" [(aa 0)]),
 aU (aX (ao .BitAnd (aa 7) (af g "squares_within" [(aa 3),(aa 5)]))) (ag [aw (ac (.int 3))]) (ag []),
 aj 8 (ao .Sub (ac (.int 1)) (ao .RShift (aa 1) (ac (.int 1)))),
 aU (aX (af g "is_attacked" [(aa 0),(aa 3),(aa 8),(aa 7)])) (ag [aw (ac (.int 4))]) (ag []),
 aU (aX (af g "is_attacked" [(aa 0),(aa 6),(aa 8),(aa 7)])) (ag [aw (ac (.int 5))]) (ag []),
 aU (aX (af g "is_attacked" [(aa 0),(aa 4),(aa 8),(aa 7)])) (ag [aw (ac (.int 6))]) (ag []),
 aw (ac (.int 0))]
theorem jR (n:Nat) (a0 a1:V) (h:H):run ah (n + 1) "castle_refusal" [a0,a1] h = fin (kq (run ah n) n (upd (upd nf 0 a0) 1 a1) h):=by kernel_rfl
noncomputable abbrev ng (g:G) (n:Nat):Sx:=ag [
 bF 2 (aP [(ao .Mult (ac (.int 2)) (ai (aa 0) "side")),(ao .Add (ao .Mult (ac (.int 2)) (ai (aa 0) "side")) (ac (.int 1)))]) (ag [aU (ax .Eq (af g "castle_refusal" [(aa 0),(aa 2)]) (ac (.int 0))) (ag [bz [3,4,5,6] (av (ai (ai (aa 0) "geo") "castles") (aa 2)),au (aZ g (aa 1) "append" [(af g "pack_move" [(aa 3),(aa 4),(ac (.int 3)),(ac (.int 0))])])]) (ag [])])]
theorem nv (n:Nat) (a0 a1:V) (h:H):run ah (n + 1) "add_castling" [a0,a1] h = fin (ng (run ah n) n (upd (upd nf 0 a0) 1 a1) h):=by kernel_rfl
noncomputable abbrev ld (g:G) (n:Nat):Sx:=ag [
 bF 3 (af g "squares_of" [(aa 1)]) (ag [au (aZ g (aa 2) "append" [(af g "pack_move" [(aa 0),(aa 3),(ac (.int 0)),(ac (.int 0))])])])]
theorem t7 (n:Nat) (a0 a1 a2:V) (h:H):run ah (n + 1) "add_goals" [a0,a1,a2] h = fin (ld (run ah n) n (upd (upd (upd nf 0 a0) 1 a1) 2 a2) h):=by kernel_rfl
noncomputable abbrev jx (g:G) (n:Nat):Sx:=ag [
 aj 4 (af g "occupied" [(aa 0)]),
 bF 5 (af g "squares_of" [(af g "pieces" [(aa 0),(ai (aa 0) "side"),(aa 1)])]) (ag [aj 6 (af g "piece_attacks" [(ai (aa 0) "geo"),(ai (aa 0) "side"),(aa 1),(aa 5),(aa 4)]),au (af g "add_goals" [(aa 5),(ao .BitAnd (aa 6) (aa 2)),(aa 3)])])]
theorem jG (n:Nat) (a0 a1 a2 a3:V) (h:H):run ah (n + 1) "add_piece_moves" [a0,a1,a2,a3] h = fin (jx (run ah n) n (upd (upd (upd (upd nf 0 a0) 1 a1) 2 a2) 3 a3) h):=by kernel_rfl
noncomputable abbrev mY (g:G) (n:Nat):Sx:=ag [
 aU (ax .Eq (aa 1) (ac (.int 0))) (ag [aw (av (ai (aa 0) "sides") (ao .Sub (ac (.int 1)) (ai (aa 0) "side")))]) (ag []),
 aU (ax .Eq (aa 1) (ac (.int 1))) (ag [aw (ao .BitAnd (ai (ai (aa 0) "geo") "full") (i0 .Invert (af g "occupied" [(aa 0)])))]) (ag []),
 aw (ao .BitAnd (ai (ai (aa 0) "geo") "full") (i0 .Invert (av (ai (aa 0) "sides") (ai (aa 0) "side"))))]
theorem nS (n:Nat) (a0 a1:V) (h:H):run ah (n + 1) "stage_target" [a0,a1] h = fin (mY (run ah n) n (upd (upd nf 0 a0) 1 a1) h):=by kernel_rfl
noncomputable abbrev tl (g:G) (n:Nat):Sx:=ag [
 aU (ax .Eq (aa 1) (ac (.int 0))) (ag [aw (ai (aa 0) "files")]) (ag []),
 aw (i0 .USub (ai (aa 0) "files"))]
theorem tH (n:Nat) (a0 a1:V) (h:H):run ah (n + 1) "push_step" [a0,a1] h = fin (tl (run ah n) n (upd (upd nf 0 a0) 1 a1) h):=by kernel_rfl
noncomputable abbrev sV (g:G) (n:Nat):Sx:=ag [
 aU (ax .Eq (aa 1) (ac (.int 0))) (ag [aw (av (ai (aa 0) "rank_masks") (ao .Sub (ai (aa 0) "ranks") (ac (.int 1))))]) (ag []),
 aw (av (ai (aa 0) "rank_masks") (ac (.int 0)))]
theorem tN (n:Nat) (a0 a1:V) (h:H):run ah (n + 1) "last_mask" [a0,a1] h = fin (sV (run ah n) n (upd (upd nf 0 a0) 1 a1) h):=by kernel_rfl
noncomputable abbrev rJ (g:G) (n:Nat):Sx:=ag [
 aU (ax .Eq (aa 2) (ac (.int 0))) (ag [aw (ao .BitAnd (ao .LShift (aa 1) (ai (aa 0) "files")) (ai (aa 0) "full"))]) (ag []),
 aw (ao .RShift (aa 1) (ai (aa 0) "files"))]
theorem qY (n:Nat) (a0 a1 a2:V) (h:H):run ah (n + 1) "shift_push" [a0,a1,a2] h = fin (rJ (run ah n) n (upd (upd (upd nf 0 a0) 1 a1) 2 a2) h):=by kernel_rfl
noncomputable abbrev lQ (g:G) (n:Nat):Sx:=ag [
 aU (ax .Eq (aa 3) (ac (.int 0))) (ag [aw (ao .LShift (af g "shift_push" [(aa 0),(ao .BitAnd (aa 1) (i0 .Invert (av (ai (aa 0) "file_masks") (ao .Sub (ai (aa 0) "files") (ac (.int 1)))))),(aa 2)]) (ac (.int 1)))]) (ag []),
 aw (ao .RShift (af g "shift_push" [(aa 0),(ao .BitAnd (aa 1) (i0 .Invert (av (ai (aa 0) "file_masks") (ac (.int 0))))),(aa 2)]) (ac (.int 1)))]
theorem lK (n:Nat) (a0 a1 a2 a3:V) (h:H):run ah (n + 1) "shift_capture" [a0,a1,a2,a3] h = fin (lQ (run ah n) n (upd (upd (upd (upd nf 0 a0) 1 a1) 2 a2) 3 a3) h):=by kernel_rfl
noncomputable abbrev nu (g:G) (n:Nat):Sx:=ag [
 aj 2 (ai (aa 0) "geo"),
 aj 3 (ao .BitAnd (ai (aa 2) "full") (i0 .Invert (af g "occupied" [(aa 0)]))),
 aj 4 (af g "pieces" [(aa 0),(aa 1),(ac (.int 1))]),
 aj 5 (ao .BitAnd (af g "shift_push" [(aa 2),(aa 4),(aa 1)]) (aa 3)),
 aj 6 (ac (.int 0)),
 aU (aX (ai (aa 2) "has_double")) (ag [aj 7 (ao .BitAnd (af g "shift_push" [(aa 2),(ao .BitAnd (aa 4) (af g "start_mask" [(aa 2),(aa 1)])),(aa 1)]) (aa 3)),aj 6 (ao .BitAnd (af g "shift_push" [(aa 2),(aa 7),(aa 1)]) (aa 3))]) (ag []),
 aw (dM [(aa 5),(aa 6)])]
theorem oz (n:Nat) (a0 a1:V) (h:H):run ah (n + 1) "push_targets" [a0,a1] h = fin (nu (run ah n) n (upd (upd nf 0 a0) 1 a1) h):=by kernel_rfl
noncomputable abbrev iS (g:G) (n:Nat):Sx:=ag [
 aj 3 (ai (aa 0) "geo"),
 aj 4 (af g "push_step" [(aa 3),(ai (aa 0) "side")]),
 bz [5,6] (af g "push_targets" [(aa 0),(ai (aa 0) "side")]),
 bF 7 (af g "squares_of" [(ao .BitAnd (ao .BitAnd (aa 5) (aa 1)) (i0 .Invert (af g "last_mask" [(aa 3),(ai (aa 0) "side")])))]) (ag [au (aZ g (aa 2) "append" [(af g "pack_move" [(ao .Sub (aa 7) (aa 4)),(aa 7),(ac (.int 0)),(ac (.int 0))])])]),
 bF 7 (af g "squares_of" [(ao .BitAnd (aa 6) (aa 1))]) (ag [au (aZ g (aa 2) "append" [(af g "pack_move" [(ao .Sub (aa 7) (ao .Mult (ac (.int 2)) (aa 4))),(aa 7),(ac (.int 0)),(ac (.int 0))])])])]
theorem iT (n:Nat) (a0 a1 a2:V) (h:H):run ah (n + 1) "add_plain_pushes" [a0,a1,a2] h = fin (iS (run ah n) n (upd (upd (upd nf 0 a0) 1 a1) 2 a2) h):=by kernel_rfl
noncomputable abbrev fN (g:G) (n:Nat):Sx:=ag [
 aj 4 (ai (aa 0) "geo"),
 aj 5 (af g "push_step" [(aa 4),(ai (aa 0) "side")]),
 aj 6 (av (af g "push_targets" [(aa 0),(ai (aa 0) "side")]) (ac (.int 0))),
 bF 7 (af g "squares_of" [(ao .BitAnd (ao .BitAnd (aa 6) (aa 2)) (af g "last_mask" [(aa 4),(ai (aa 0) "side")]))]) (ag [au (af g "add_promotions" [(ao .Sub (aa 7) (aa 5)),(aa 7),(aa 1),(ac (.bool false)),(aa 3)])])]
theorem fM (n:Nat) (a0 a1 a2 a3:V) (h:H):run ah (n + 1) "add_push_promotions" [a0,a1,a2,a3] h = fin (fN (run ah n) n (upd (upd (upd (upd nf 0 a0) 1 a1) 2 a2) 3 a3) h):=by kernel_rfl
noncomputable abbrev gY (g:G) (n:Nat):Sx:=ag [
 aj 4 (ai (aa 0) "geo"),
 aj 5 (ai (aa 0) "side"),
 aj 6 (af g "last_mask" [(aa 4),(aa 5)]),
 aj 7 (af g "pieces" [(aa 0),(aa 5),(ac (.int 1))]),
 aj 8 (ao .BitAnd (aa 2) (av (ai (aa 0) "sides") (ao .Sub (ac (.int 1)) (aa 5)))),
 bF 9 (aP [(ac (.int 0)),(ac (.int 1))]) (ag [aj 10 (ao .Sub (ao .Add (af g "push_step" [(aa 4),(aa 5)]) (ac (.int 1))) (ao .Mult (ac (.int 2)) (aa 9))),bF 11 (af g "squares_of" [(ao .BitAnd (af g "shift_capture" [(aa 4),(aa 7),(aa 5),(aa 9)]) (aa 8))]) (ag [aU (aX (ao .BitAnd (aa 6) (ao .LShift (ac (.int 1)) (aa 11)))) (ag [au (af g "add_promotions" [(ao .Sub (aa 11) (aa 10)),(aa 11),(aa 1),(ac (.bool true)),(aa 3)])]) (ag [au (aZ g (aa 3) "append" [(af g "pack_move" [(ao .Sub (aa 11) (aa 10)),(aa 11),(ac (.int 0)),(ac (.int 0))])])])])])]
theorem gU (n:Nat) (a0 a1 a2 a3:V) (h:H):run ah (n + 1) "add_pawn_captures" [a0,a1,a2,a3] h = fin (gY (run ah n) n (upd (upd (upd (upd nf 0 a0) 1 a1) 2 a2) 3 a3) h):=by kernel_rfl
noncomputable abbrev kO (g:G) (n:Nat):Sx:=ag [
 aU (ax .NotEq (aa 1) (ac (.int 0))) (ag [au (af g "add_plain_pushes" [(aa 0),(aa 2),(aa 3)])]) (ag []),
 au (af g "add_push_promotions" [(aa 0),(aa 1),(aa 2),(aa 3)]),
 aU (ax .NotEq (aa 1) (ac (.int 1))) (ag [au (af g "add_pawn_captures" [(aa 0),(aa 1),(aa 2),(aa 3)])]) (ag [])]
theorem jM (n:Nat) (a0 a1 a2 a3:V) (h:H):run ah (n + 1) "add_pawn_moves" [a0,a1,a2,a3] h = fin (kO (run ah n) n (upd (upd (upd (upd nf 0 a0) 1 a1) 2 a2) 3 a3) h):=by kernel_rfl
noncomputable abbrev j7 (g:G) (n:Nat):Sx:=ag [
 aU (ax .Lt (ai (aa 0) "ep") (ac (.int 0))) (ag [xi]) (ag []),
 aj 2 (ao .BitAnd (av (av (ai (ai (aa 0) "geo") "pawn") (ao .Sub (ac (.int 1)) (ai (aa 0) "side"))) (ai (aa 0) "ep")) (af g "pieces" [(aa 0),(ai (aa 0) "side"),(ac (.int 1))])),
 bF 3 (af g "squares_of" [(aa 2)]) (ag [au (aZ g (aa 1) "append" [(af g "pack_move" [(aa 3),(ai (aa 0) "ep"),(ac (.int 2)),(ac (.int 0))])])])]
theorem kc (n:Nat) (a0 a1:V) (h:H):run ah (n + 1) "add_en_passant" [a0,a1] h = fin (j7 (run ah n) n (upd (upd nf 0 a0) 1 a1) h):=by kernel_rfl
noncomputable abbrev jq (g:G) (n:Nat):Sx:=ag [
 aU (cI .Or [(ax .Eq (aa 1) (ac (.int 0))),(aX (af g "more_than_one" [(aa 1)]))]) (ag [aw (ac (.int 0))]) (ag []),
 aw (ao .BitOr (aa 1) (af g "between" [(ai (aa 0) "geo"),(af g "king_square" [(aa 0),(ai (aa 0) "side")]),(af g "lowest" [(aa 1)])]))]
theorem jg (n:Nat) (a0 a1:V) (h:H):run ah (n + 1) "evasion_targets" [a0,a1] h = fin (jq (run ah n) n (upd (upd nf 0 a0) 1 a1) h):=by kernel_rfl
noncomputable abbrev eX (g:G) (n:Nat):Sx:=ag [
 aU (ax .Lt (ai (aa 0) "ep") (ac (.int 0))) (ag [aw (ac (.bool false))]) (ag []),
 aw (cG .NotEq (ao .BitAnd (aa 1) (ao .BitOr (ao .LShift (ac (.int 1)) (ai (aa 0) "ep")) (ao .LShift (ac (.int 1)) (af g "passed_pawn_square" [(aa 0)])))) (ac (.int 0)))]
theorem e9 (n:Nat) (a0 a1:V) (h:H):run ah (n + 1) "may_answer_en_passant" [a0,a1] h = fin (eX (run ah n) n (upd (upd nf 0 a0) 1 a1) h):=by kernel_rfl
noncomputable abbrev m7 (g:G) (n:Nat):Sx:=ag [
 aj 2 (af g "evasion_targets" [(aa 0),(af g "checkers" [(aa 0)])]),
 aU (aX (aa 2)) (ag [au (af g "add_pawn_moves" [(aa 0),(ac (.int 3)),(aa 2),(aa 1)]),aU (aX (af g "may_answer_en_passant" [(aa 0),(aa 2)])) (ag [au (af g "add_en_passant" [(aa 0),(aa 1)])]) (ag []),bF 3 (aP [(ac (.int 2)),(ac (.int 3)),(ac (.int 4)),(ac (.int 5))]) (ag [au (af g "add_piece_moves" [(aa 0),(aa 3),(aa 2),(aa 1)])])]) (ag []),
 au (af g "add_piece_moves" [(aa 0),(ac (.int 6)),(ao .BitAnd (ai (ai (aa 0) "geo") "full") (i0 .Invert (av (ai (aa 0) "sides") (ai (aa 0) "side")))),(aa 1)])]
theorem ne (n:Nat) (a0 a1:V) (h:H):run ah (n + 1) "add_evasions" [a0,a1] h = fin (m7 (run ah n) n (upd (upd nf 0 a0) 1 a1) h):=by kernel_rfl
noncomputable abbrev wm (g:G) (n:Nat):Sx:=ag [
 aj 3 (af g "move_special" [(aa 1)]),
 aU (ax .Eq (aa 3) (ac (.int 3))) (ag [aw (ac (.bool true))]) (ag []),
 aU (ax .Eq (aa 3) (ac (.int 2))) (ag [aw (af g "is_safe_en_passant" [(aa 0),(aa 1)])]) (ag []),
 aj 4 (af g "move_from" [(aa 1)]),
 aj 5 (af g "move_to" [(aa 1)]),
 aj 6 (af g "king_square" [(aa 0),(ai (aa 0) "side")]),
 aU (ax .Eq (aa 4) (aa 6)) (ag [aj 7 (ao .BitXor (ao .BitOr (av (ai (aa 0) "sides") (ac (.int 0))) (av (ai (aa 0) "sides") (ac (.int 1)))) (ao .LShift (ac (.int 1)) (aa 6))),aw (i0 .Not (af g "is_attacked" [(aa 0),(aa 5),(ao .Sub (ac (.int 1)) (ai (aa 0) "side")),(aa 7)]))]) (ag []),
 aU (ax .Eq (ao .BitAnd (ao .RShift (aa 2) (aa 4)) (ac (.int 1))) (ac (.int 0))) (ag [aw (ac (.bool true))]) (ag []),
 aw (af g "aligned" [(ai (aa 0) "geo"),(aa 4),(aa 5),(aa 6)])]
theorem vD (n:Nat) (a0 a1 a2:V) (h:H):run ah (n + 1) "is_legal" [a0,a1,a2] h = fin (wm (run ah n) n (upd (upd (upd nf 0 a0) 1 a1) 2 a2) h):=by kernel_rfl
noncomputable abbrev vt (g:G) (n:Nat):Sx:=ag [
 aj 2 (aP []),
 aU (ax .Eq (aa 1) (ac (.int 3))) (ag [au (af g "add_evasions" [(aa 0),(aa 2)]),aw (aa 2)]) (ag []),
 aj 3 (af g "stage_target" [(aa 0),(aa 1)]),
 au (af g "add_pawn_moves" [(aa 0),(aa 1),(ai (ai (aa 0) "geo") "full"),(aa 2)]),
 aU (ax .NotEq (aa 1) (ac (.int 1))) (ag [au (af g "add_en_passant" [(aa 0),(aa 2)])]) (ag []),
 bF 4 (aP [(ac (.int 2)),(ac (.int 3)),(ac (.int 4)),(ac (.int 5)),(ac (.int 6))]) (ag [au (af g "add_piece_moves" [(aa 0),(aa 4),(aa 3),(aa 2)])]),
 aU (ax .NotEq (aa 1) (ac (.int 0))) (ag [au (af g "add_castling" [(aa 0),(aa 2)])]) (ag []),
 aw (aa 2)]
theorem nQ (n:Nat) (a0 a1:V) (h:H):run ah (n + 1) "generate" [a0,a1] h = fin (vt (run ah n) n (upd (upd nf 0 a0) 1 a1) h):=by kernel_rfl
noncomputable abbrev nh (g:G) (n:Nat):Sx:=ag [
 aU (aX (af g "in_check" [(aa 0)])) (ag [aw (af g "generate" [(aa 0),(ac (.int 3))])]) (ag []),
 aw (af g "generate" [(aa 0),(ac (.int 2))])]
theorem gp (n:Nat) (a0:V) (h:H):run ah (n + 1) "pseudo_moves" [a0] h = fin (nh (run ah n) n (upd nf 0 a0) h):=by kernel_rfl
noncomputable abbrev qL (g:G) (n:Nat):Sx:=ag [
 aj 2 (af g "pinned_pieces" [(aa 0),(ai (aa 0) "side")]),
 aj 3 (aP []),
 bF 4 (aa 1) (ag [aU (aX (af g "is_legal" [(aa 0),(aa 4),(aa 2)])) (ag [au (aZ g (aa 3) "append" [(aa 4)])]) (ag [])]),
 aw (aa 3)]
theorem rZ (n:Nat) (a0 a1:V) (h:H):run ah (n + 1) "keep_legal" [a0,a1] h = fin (qL (run ah n) n (upd (upd nf 0 a0) 1 a1) h):=by kernel_rfl
noncomputable abbrev pq (g:G) (n:Nat):Sx:=ag [
 aw (af g "keep_legal" [(aa 0),(af g "pseudo_moves" [(aa 0)])])]
theorem oS (n:Nat) (a0:V) (h:H):run ah (n + 1) "legal_moves" [a0] h = fin (pq (run ah n) n (upd nf 0 a0) h):=by kernel_rfl
noncomputable abbrev jP (g:G) (n:Nat):Sx:=ag [
 aj 1 (ET (aX (af g "in_check" [(aa 0)])) (aP [(ac (.int 3))]) (aP [(ac (.int 0)),(ac (.int 1))])),
 aj 2 (af g "pinned_pieces" [(aa 0),(ai (aa 0) "side")]),
 bF 3 (aa 1) (ag [bF 4 (af g "generate" [(aa 0),(aa 3)]) (ag [aU (aX (af g "is_legal" [(aa 0),(aa 4),(aa 2)])) (ag [aw (ac (.bool true))]) (ag [])])]),
 aw (ac (.bool false))]
theorem fh (n:Nat) (a0:V) (h:H):run ah (n + 1) "has_legal_move" [a0] h = fin (jP (run ah n) n (upd nf 0 a0) h):=by kernel_rfl
noncomputable abbrev ph (g:G) (n:Nat):Sx:=ag [
 aj 2 (af g "move_from" [(aa 1)]),
 aU (cI .Or [(ax .GtE (aa 2) (ai (ai (aa 0) "geo") "size")),(ax .GtE (af g "move_to" [(aa 1)]) (ai (ai (aa 0) "geo") "size"))]) (ag [iZ]) (ag []),
 aj 3 (av (ai (aa 0) "board") (aa 2)),
 aU (cI .Or [(ax .Eq (aa 3) (ac (.int 0))),(ax .NotEq (af g "side_of" [(aa 3)]) (ai (aa 0) "side"))]) (ag [iZ]) (ag []),
 aw (aa 3)]
theorem pb (n:Nat) (a0 a1:V) (h:H):run ah (n + 1) "moved_piece" [a0,a1] h = fin (ph (run ah n) n (upd (upd nf 0 a0) 1 a1) h):=by kernel_rfl
noncomputable abbrev eV (g:G) (n:Nat):Sx:=ag [
 aj 2 (af g "move_to" [(aa 1)]),
 aU (ax .NotEq (af g "move_special" [(aa 1)]) (ac (.int 2))) (ag [aw (aa 2)]) (ag []),
 aU (ax .Eq (ai (aa 0) "side") (ac (.int 0))) (ag [aw (ao .Sub (aa 2) (ai (ai (aa 0) "geo") "files"))]) (ag []),
 aw (ao .Add (aa 2) (ai (ai (aa 0) "geo") "files"))]
theorem fe (n:Nat) (a0 a1:V) (h:H):run ah (n + 1) "taken_square_makemove" [a0,a1] h = fin (eV (run ah n) n (upd (upd nf 0 a0) 1 a1) h):=by kernel_rfl
noncomputable abbrev oE (g:G) (n:Nat):Sx:=ag [
 aj 3 (ao .BitOr (av (ai (ai (aa 0) "geo") "rights_lost") (aa 1)) (av (ai (ai (aa 0) "geo") "rights_lost") (aa 2))),
 aw (ao .Sub (ai (aa 0) "rights") (ao .BitAnd (ai (aa 0) "rights") (aa 3)))]
theorem pj (n:Nat) (a0 a1 a2:V) (h:H):run ah (n + 1) "kept_rights" [a0,a1,a2] h = fin (oE (run ah n) n (upd (upd (upd nf 0 a0) 1 a1) 2 a2) h):=by kernel_rfl
noncomputable abbrev mG (g:G) (n:Nat):Sx:=ag [
 aU (ax .GtE (ai (aa 0) "ep") (ac (.int 0))) (ag [bh (aa 0) "key" .BitXor (av (ai (ai (aa 0) "zob") "ep") (ao .Mod (ai (aa 0) "ep") (ai (ai (aa 0) "geo") "files"))),a8 (aa 0) "ep" (i0 .USub (ac (.int 1)))]) (ag [])]
theorem mi (n:Nat) (a0:V) (h:H):run ah (n + 1) "clear_ep_key" [a0] h = fin (mG (run ah n) n (upd nf 0 a0) h):=by kernel_rfl
noncomputable abbrev kK (g:G) (n:Nat):Sx:=ag [
 aU (ax .NotEq (aa 1) (ai (aa 0) "rights")) (ag [bh (aa 0) "key" .BitXor (ao .BitXor (av (ai (ai (aa 0) "zob") "rights") (ai (aa 0) "rights")) (av (ai (ai (aa 0) "zob") "rights") (aa 1))),a8 (aa 0) "rights" (aa 1)]) (ag [])]
theorem jV (n:Nat) (a0 a1:V) (h:H):run ah (n + 1) "set_rights_key" [a0,a1] h = fin (kK (run ah n) n (upd (upd nf 0 a0) 1 a1) h):=by kernel_rfl
noncomputable abbrev xS (g:G) (n:Nat):Sx:=ag [
 aj 2 (af g "moved_piece" [(aa 0),(aa 1)]),
 aj 3 (ai (aa 0) "side"),
 aj 4 (af g "move_from" [(aa 1)]),
 aj 5 (af g "move_to" [(aa 1)]),
 aj 6 (af g "move_special" [(aa 1)]),
 aj 7 (dM [(i0 .USub (ac (.int 1))),(i0 .USub (ac (.int 1)))]),
 aU (ax .Eq (aa 6) (ac (.int 3))) (ag [aj 7 (af g "rook_step" [(ai (aa 0) "geo"),(aa 3),(aa 5)])]) (ag []),
 aj 8 (af g "taken_square_makemove" [(aa 0),(aa 1)]),
 aj 9 (av (ai (aa 0) "board") (aa 8)),
 au (aZ g (ai (aa 0) "history") "append" [(dM [(aa 1),(aa 9),(ai (aa 0) "rights"),(ai (aa 0) "ep"),(ai (aa 0) "half"),(ai (aa 0) "key")])]),
 au (af g "clear_ep_key" [(aa 0)]),
 bh (aa 0) "half" .Add (ac (.int 1)),
 aU (ax .NotEq (aa 9) (ac (.int 0))) (ag [au (af g "take_piece" [(aa 0),(aa 8)]),a8 (aa 0) "half" (ac (.int 0))]) (ag []),
 aU (ax .Eq (aa 6) (ac (.int 1))) (ag [au (af g "take_piece" [(aa 0),(aa 4)]),au (af g "put_piece" [(aa 0),(af g "make_piece" [(aa 3),(af g "move_promo" [(aa 1)])]),(aa 5)])]) (ag [au (af g "shift_piece" [(aa 0),(aa 4),(aa 5)])]),
 aU (ax .Eq (aa 6) (ac (.int 3))) (ag [au (af g "shift_piece" [(aa 0),(av (aa 7) (ac (.int 0))),(av (aa 7) (ac (.int 1)))])]) (ag []),
 aU (ax .Eq (af g "kind_of" [(aa 2)]) (ac (.int 1))) (ag [a8 (aa 0) "half" (ac (.int 0)),au (af g "set_ep_key" [(aa 0),(af g "passed_square" [(aa 0),(aa 3),(aa 4),(aa 5)])])]) (ag []),
 au (af g "set_rights_key" [(aa 0),(af g "kept_rights" [(aa 0),(aa 4),(aa 5)])]),
 aU (ax .Eq (aa 3) (ac (.int 1))) (ag [bh (aa 0) "full" .Add (ac (.int 1))]) (ag []),
 a8 (aa 0) "side" (ao .Sub (ac (.int 1)) (aa 3)),
 bh (aa 0) "key" .BitXor (ai (ai (aa 0) "zob") "side")]
theorem xx (n:Nat) (a0 a1:V) (h:H):run ah (n + 1) "do_move" [a0,a1] h = fin (xS (run ah n) n (upd (upd nf 0 a0) 1 a1) h):=by kernel_rfl
noncomputable abbrev sE (g:G) (n:Nat):Sx:=ag [
 aU (ax .Eq (af g "len" [(ai (aa 0) "history")]) (ac (.int 0))) (ag [iZ]) (ag []),
 bz [1,2,3,4,5,6] (aZ g (ai (aa 0) "history") "pop" []),
 aj 7 (ao .Sub (ac (.int 1)) (ai (aa 0) "side")),
 a8 (aa 0) "side" (aa 7),
 aj 8 (af g "move_from" [(aa 1)]),
 aj 9 (af g "move_to" [(aa 1)]),
 aj 10 (af g "move_special" [(aa 1)]),
 aU (ax .Eq (aa 10) (ac (.int 1))) (ag [au (af g "take_piece" [(aa 0),(aa 9)]),au (af g "put_piece" [(aa 0),(af g "make_piece" [(aa 7),(ac (.int 1))]),(aa 8)])]) (ag [au (af g "shift_piece" [(aa 0),(aa 9),(aa 8)])]),
 aU (ax .Eq (aa 10) (ac (.int 3))) (ag [aj 11 (af g "rook_step" [(ai (aa 0) "geo"),(aa 7),(aa 9)]),au (af g "shift_piece" [(aa 0),(av (aa 11) (ac (.int 1))),(av (aa 11) (ac (.int 0)))])]) (ag []),
 aU (ax .NotEq (aa 2) (ac (.int 0))) (ag [au (af g "put_piece" [(aa 0),(aa 2),(af g "taken_square_makemove" [(aa 0),(aa 1)])])]) (ag []),
 aU (ax .Eq (aa 7) (ac (.int 1))) (ag [bh (aa 0) "full" .Sub (ac (.int 1))]) (ag []),
 a8 (aa 0) "rights" (aa 3),
 a8 (aa 0) "ep" (aa 4),
 a8 (aa 0) "half" (aa 5),
 a8 (aa 0) "key" (aa 6)]
theorem uq (n:Nat) (a0:V) (h:H):run ah (n + 1) "undo_move" [a0] h = fin (sE (run ah n) n (upd nf 0 a0) h):=by kernel_rfl
noncomputable abbrev qA (g:G) (n:Nat):Sx:=ag [
 aU (ax .Gt (aa 1) (af g "len" [(ai (aa 0) "history")])) (ag [iZ]) (ag []),
 bF 2 (af g "range" [(aa 1)]) (ag [au (af g "undo_move" [(aa 0)])])]
theorem i5 (n:Nat) (a0 a1:V) (h:H):run ah (n + 1) "undo_moves" [a0,a1] h = fin (qA (run ah n) n (upd (upd nf 0 a0) 1 a1) h):=by kernel_rfl
noncomputable abbrev vn (g:G) (n:Nat):Sx:=ag [
 aj 2 (ac (.int 0)),
 bF 3 (aa 1) (ag [aU (ax .NotIn (aa 3) (af g "legal_moves" [(aa 0)])) (ag [au (af g "undo_moves" [(aa 0),(aa 2)]),iZ]) (ag []),au (af g "do_move" [(aa 0),(aa 3)]),aF 2 .Add (ac (.int 1))])]
theorem wa (n:Nat) (a0 a1:V) (h:H):run ah (n + 1) "do_moves" [a0,a1] h = fin (vn (run ah n) n (upd (upd nf 0 a0) 1 a1) h):=by kernel_rfl
noncomputable abbrev u8 (g:G) (n:Nat):Sx:=ag [
 aU (ax .LtE (aa 1) (ac (.int 0))) (ag [aw (ac (.bool false))]) (ag []),
 bF 2 (af g "legal_moves" [(aa 0)]) (ag [au (af g "do_move" [(aa 0),(aa 2)]),aj 3 (af g "is_mated_in" [(aa 0),(ao .Sub (aa 1) (ac (.int 1)))]),au (af g "undo_move" [(aa 0)]),aU (aX (aa 3)) (ag [aw (ac (.bool true))]) (ag [])]),
 aw (ac (.bool false))]
theorem mW (n:Nat) (a0 a1:V) (h:H):run ah (n + 1) "can_mate" [a0,a1] h = fin (u8 (run ah n) n (upd (upd nf 0 a0) 1 a1) h):=by kernel_rfl
noncomputable abbrev hO (g:G) (n:Nat):Sx:=ag [
 aU (ax .LtE (aa 1) (ac (.int 0))) (ag [aw (cf .And [(af g "in_check" [(aa 0)]),(i0 .Not (af g "has_legal_move" [(aa 0)]))])]) (ag []),
 aj 2 (af g "legal_moves" [(aa 0)]),
 aU (ax .Eq (af g "len" [(aa 2)]) (ac (.int 0))) (ag [aw (af g "in_check" [(aa 0)])]) (ag []),
 bF 3 (aa 2) (ag [au (af g "do_move" [(aa 0),(aa 3)]),aj 4 (af g "can_mate" [(aa 0),(aa 1)]),au (af g "undo_move" [(aa 0)]),aU (fO (aX (aa 4))) (ag [aw (ac (.bool false))]) (ag [])]),
 aw (ac (.bool true))]
theorem eR (n:Nat) (a0 a1:V) (h:H):run ah (n + 1) "is_mated_in" [a0,a1] h = fin (hO (run ah n) n (upd (upd nf 0 a0) 1 a1) h):=by kernel_rfl
noncomputable abbrev pe (g:G) (n:Nat):Sx:=ag [
 bF 2 (af g "legal_moves" [(aa 0)]) (ag [au (af g "do_move" [(aa 0),(aa 2)]),aj 3 (aP []),aU (aX (af g "is_mated_in" [(aa 0),(ao .Sub (aa 1) (ac (.int 1)))])) (ag [aj 3 (aP [(aa 2)]),bF 4 (af g "holding_line" [(aa 0),(ao .Sub (aa 1) (ac (.int 1)))]) (ag [au (aZ g (aa 3) "append" [(aa 4)])])]) (ag []),au (af g "undo_move" [(aa 0)]),aU (ax .Gt (af g "len" [(aa 3)]) (ac (.int 0))) (ag [aw (aa 3)]) (ag [])]),
 aw (aP [])]
theorem pp (n:Nat) (a0 a1:V) (h:H):run ah (n + 1) "mating_line" [a0,a1] h = fin (pe (run ah n) n (upd (upd nf 0 a0) 1 a1) h):=by kernel_rfl
noncomputable abbrev mU (g:G) (n:Nat):Sx:=ag [
 aU (ax .LtE (aa 1) (ac (.int 0))) (ag [aw (aP [])]) (ag []),
 bF 2 (af g "legal_moves" [(aa 0)]) (ag [au (af g "do_move" [(aa 0),(aa 2)]),aj 3 (aP []),aU (fO (aX (af g "can_mate" [(aa 0),(ao .Sub (aa 1) (ac (.int 1)))]))) (ag [aj 3 (aP [(aa 2)]),bF 4 (af g "mating_line" [(aa 0),(aa 1)]) (ag [au (aZ g (aa 3) "append" [(aa 4)])])]) (ag []),au (af g "undo_move" [(aa 0)]),aU (ax .Gt (af g "len" [(aa 3)]) (ac (.int 0))) (ag [aw (aa 3)]) (ag [])]),
 aw (aP [])]
theorem nG (n:Nat) (a0 a1:V) (h:H):run ah (n + 1) "holding_line" [a0,a1] h = fin (mU (run ah n) n (upd (upd nf 0 a0) 1 a1) h):=by kernel_rfl
noncomputable abbrev t6 (g:G) (n:Nat):Sx:=ag [
 bF 2 (af g "range" [(ac (.int 1)),(ao .Add (aa 1) (ac (.int 1)))]) (ag [aj 3 (af g "mating_line" [(aa 0),(aa 2)]),aU (ax .Gt (af g "len" [(aa 3)]) (ac (.int 0))) (ag [aw (aa 3)]) (ag [])]),
 aw (aP [])]
theorem kR (n:Nat) (a0 a1:V) (h:H):run ah (n + 1) "find_mate" [a0,a1] h = fin (t6 (run ah n) n (upd (upd nf 0 a0) 1 a1) h):=by kernel_rfl
noncomputable abbrev iG (g:G) (n:Nat):Sx:=ag [
 aU (ax .Eq (aa 2) (ac (.int 1))) (ag [bB (ai (aa 0) "proofs") (aa 1) (ac (.int 0)),bB (ai (aa 0) "disproofs") (aa 1) (ac (.int 1073741824))]) (ag [bB (ai (aa 0) "proofs") (aa 1) (ac (.int 1073741824)),bB (ai (aa 0) "disproofs") (aa 1) (ac (.int 0))])]
theorem im (n:Nat) (a0 a1 a2:V) (h:H):run ah (n + 1) "ProofTree.settle" [a0,a1,a2] h = fin (iG (run ah n) n (upd (upd (upd nf 0 a0) 1 a1) 2 a2) h):=by kernel_rfl
noncomputable abbrev lD (g:G) (n:Nat):Sx:=ag [
 au (aZ g (ai (aa 0) "moves") "append" [(aa 1)]),
 au (aZ g (ai (aa 0) "plies") "append" [(aa 2)]),
 au (aZ g (ai (aa 0) "proofs") "append" [(ac (.int 1))]),
 au (aZ g (ai (aa 0) "disproofs") "append" [(ac (.int 1))]),
 au (aZ g (ai (aa 0) "children") "append" [(ac .none)]),
 aw (ao .Sub (af g "len" [(ai (aa 0) "moves")]) (ac (.int 1)))]
theorem lP (n:Nat) (a0 a1 a2:V) (h:H):run ah (n + 1) "ProofTree.add" [a0,a1,a2] h = fin (lD (run ah n) n (upd (upd (upd nf 0 a0) 1 a1) 2 a2) h):=by kernel_rfl
noncomputable abbrev iW (g:G) (n:Nat):Sx:=ag [
 a8 (aa 0) "moves" (aP [(ac (.int 0))]),
 a8 (aa 0) "plies" (aP [(ac (.int 0))]),
 a8 (aa 0) "proofs" (aP [(ac (.int 1))]),
 a8 (aa 0) "disproofs" (aP [(ac (.int 1))]),
 a8 (aa 0) "children" (aP [(ac .none)])]
theorem iA (n:Nat) (a0:V) (h:H):run ah (n + 1) "ProofTree.__init__" [a0] h = fin (iW (run ah n) n (upd nf 0 a0) h):=by kernel_rfl
noncomputable abbrev lG (g:G) (n:Nat):Sx:=ag [
 aj 1 (ac (.int 1073741824)),
 aj 2 (ac (.int 0)),
 bF 3 (aa 0) (ag [aU (ax .Lt (aa 3) (aa 1)) (ag [aj 1 (aa 3)]) (ag []),aF 2 .Add (aa 3)]),
 aU (ax .Gt (aa 2) (ac (.int 1073741824))) (ag [aj 2 (ac (.int 1073741824))]) (ag []),
 aw (dM [(aa 1),(aa 2)])]
theorem lE (n:Nat) (a0:V) (h:H):run ah (n + 1) "least_and_sum" [a0] h = fin (lG (run ah n) n (upd nf 0 a0) h):=by kernel_rfl
noncomputable abbrev oC (g:G) (n:Nat):Sx:=ag [
 aj 2 (af g "least_and_sum" [(dz 1 (fm [none,none,some 0]) (av (ai (aa 0) "children") (aa 1)) (cb []) (av (ai (aa 2) "proofs") (aa 1)))]),
 aj 3 (af g "least_and_sum" [(dz 1 (fm [none,none,some 0]) (av (ai (aa 0) "children") (aa 1)) (cb []) (av (ai (aa 2) "disproofs") (aa 1)))]),
 aU (ax .Eq (ao .Mod (av (ai (aa 0) "plies") (aa 1)) (ac (.int 2))) (ac (.int 0))) (ag [bB (ai (aa 0) "proofs") (aa 1) (av (aa 2) (ac (.int 0))),bB (ai (aa 0) "disproofs") (aa 1) (av (aa 3) (ac (.int 1)))]) (ag [bB (ai (aa 0) "proofs") (aa 1) (av (aa 2) (ac (.int 1))),bB (ai (aa 0) "disproofs") (aa 1) (av (aa 3) (ac (.int 0)))])]
theorem oP (n:Nat) (a0 a1:V) (h:H):run ah (n + 1) "update_node" [a0,a1] h = fin (oC (run ah n) n (upd (upd nf 0 a0) 1 a1) h):=by kernel_rfl
noncomputable abbrev mJ (g:G) (n:Nat):Sx:=ag [
 aj 2 (ai (aa 0) "proofs"),
 aU (ax .Eq (ao .Mod (av (ai (aa 0) "plies") (aa 1)) (ac (.int 2))) (ac (.int 1))) (ag [aj 2 (ai (aa 0) "disproofs")]) (ag []),
 aj 3 (av (av (ai (aa 0) "children") (aa 1)) (ac (.int 0))),
 bF 4 (av (ai (aa 0) "children") (aa 1)) (ag [aU (ax .Lt (av (aa 2) (aa 4)) (av (aa 2) (aa 3))) (ag [aj 3 (aa 4)]) (ag [])]),
 aw (aa 3)]
theorem nJ (n:Nat) (a0 a1:V) (h:H):run ah (n + 1) "select_child" [a0,a1] h = fin (mJ (run ah n) n (upd (upd nf 0 a0) 1 a1) h):=by kernel_rfl
noncomputable abbrev qQ (g:G) (n:Nat):Sx:=ag [
 aU (cI .And [(aX (aa 1)),(fO (aX (af g "in_check" [(aa 0)])))]) (ag [aw (ac (.int (-1)))]) (ag []),
 aU (aX (af g "has_legal_move" [(aa 0)])) (ag [aU (aX (aa 1)) (ag [aw (ac (.int (-1)))]) (ag []),aw (ac (.int 0))]) (ag []),
 aU (aX (af g "in_check" [(aa 0)])) (ag [aw (ac (.int 1))]) (ag []),
 aw (ac (.int (-1)))]
theorem rh (n:Nat) (a0 a1:V) (h:H):run ah (n + 1) "leaf_state" [a0,a1] h = fin (qQ (run ah n) n (upd (upd nf 0 a0) 1 a1) h):=by kernel_rfl
noncomputable abbrev uz (g:G) (n:Nat):Sx:=ag [
 aj 4 (ao .Add (av (ai (aa 0) "plies") (aa 2)) (ac (.int 1))),
 aj 5 (aP []),
 bF 6 (af g "legal_moves" [(aa 1)]) (ag [aj 7 (aZ g (aa 0) "add" [(aa 6),(aa 4)]),au (aZ g (aa 5) "append" [(aa 7)]),aU (ax .Eq (ao .Mod (aa 4) (ac (.int 2))) (ac (.int 1))) (ag [au (af g "do_move" [(aa 1),(aa 6)]),aj 8 (af g "leaf_state" [(aa 1),(cG .GtE (aa 4) (aa 3))]),au (af g "undo_move" [(aa 1)]),aU (ax .NotEq (aa 8) (ac (.int 0))) (ag [au (aZ g (aa 0) "settle" [(aa 7),(aa 8)])]) (ag [])]) (ag [])]),
 bB (ai (aa 0) "children") (aa 2) (aa 5)]
theorem uG (n:Nat) (a0 a1 a2 a3:V) (h:H):run ah (n + 1) "open_node" [a0,a1,a2,a3] h = fin (uz (run ah n) n (upd (upd (upd (upd nf 0 a0) 1 a1) 2 a2) 3 a3) h):=by kernel_rfl
noncomputable abbrev tQ (g:G) (n:Nat):Sx:=ag [
 aj 3 (aP [(ac (.int 0))]),
 bM (ax .IsNot (av (ai (aa 0) "children") (av (aa 3) (ao .Sub (af g "len" [(aa 3)]) (ac (.int 1))))) (ac .none)) (ag [aj 4 (af g "select_child" [(aa 0),(av (aa 3) (ao .Sub (af g "len" [(aa 3)]) (ac (.int 1))))]),au (af g "do_move" [(aa 1),(av (ai (aa 0) "moves") (aa 4))]),au (aZ g (aa 3) "append" [(aa 4)])]) n,
 au (af g "open_node" [(aa 0),(aa 1),(av (aa 3) (ao .Sub (af g "len" [(aa 3)]) (ac (.int 1)))),(aa 2)]),
 aj 5 (ao .Sub (af g "len" [(aa 3)]) (ac (.int 1))),
 bM (ax .GtE (aa 5) (ac (.int 0))) (ag [au (af g "update_node" [(aa 0),(av (aa 3) (aa 5))]),aU (ax .Gt (aa 5) (ac (.int 0))) (ag [au (af g "undo_move" [(aa 1)])]) (ag []),aF 5 .Sub (ac (.int 1))]) n]
theorem ty (n:Nat) (a0 a1 a2:V) (h:H):run ah (n + 1) "grow_once" [a0,a1,a2] h = fin (tQ (run ah n) n (upd (upd (upd nf 0 a0) 1 a1) 2 a2) h):=by kernel_rfl
noncomputable abbrev nK (g:G) (n:Nat):Sx:=ag [
 aj 3 (af g "ProofTree" []),
 aU (ax .LtE (aa 1) (ac (.int 0))) (ag [au (aZ g (aa 3) "settle" [(ac (.int 0)),(ac (.int (-1)))])]) (ag []),
 bM (cI .And [(ax .Gt (av (ai (aa 3) "proofs") (ac (.int 0))) (ac (.int 0))),(ax .Gt (av (ai (aa 3) "disproofs") (ac (.int 0))) (ac (.int 0))),(ax .Lt (af g "len" [(ai (aa 3) "moves")]) (aa 2))]) (ag [au (af g "grow_once" [(aa 3),(aa 0),(ao .Sub (ao .Mult (ac (.int 2)) (aa 1)) (ac (.int 1)))])]) n,
 aU (ax .Eq (av (ai (aa 3) "proofs") (ac (.int 0))) (ac (.int 0))) (ag [bF 4 (av (ai (aa 3) "children") (ac (.int 0))) (ag [aU (ax .Eq (av (ai (aa 3) "proofs") (aa 4)) (ac (.int 0))) (ag [aw (dM [(ac (.int 1)),(av (ai (aa 3) "moves") (aa 4)),(af g "len" [(ai (aa 3) "moves")])])]) (ag [])])]) (ag []),
 aU (ax .Eq (av (ai (aa 3) "disproofs") (ac (.int 0))) (ac (.int 0))) (ag [aw (dM [(ac (.int (-1))),(ac (.int 0)),(af g "len" [(ai (aa 3) "moves")])])]) (ag []),
 aw (dM [(ac (.int 0)),(ac (.int 0)),(af g "len" [(ai (aa 3) "moves")])])]
theorem gg (n:Nat) (a0 a1 a2:V) (h:H):run ah (n + 1) "proof_search" [a0,a1,a2] h = fin (nK (run ah n) n (upd (upd (upd nf 0 a0) 1 a1) 2 a2) h):=by kernel_rfl
noncomputable abbrev xL (g:G) (n:Nat):Sx:=ag [
 aU (fO (aX (af g "has_legal_move" [(aa 0)]))) (ag [aU (aX (af g "in_check" [(aa 0)])) (ag [aw (ac (.int 1))]) (ag []),aw (ac (.int 2))]) (ag []),
 aU (ax .GtE (ai (aa 0) "half") (ac (.int 100))) (ag [aw (ac (.int 3))]) (ag []),
 aU (aX (af g "is_repetition" [(aa 0),(ac (.int 3))])) (ag [aw (ac (.int 4))]) (ag []),
 aU (aX (af g "is_insufficient" [(aa 0)])) (ag [aw (ac (.int 5))]) (ag []),
 aw (ac (.int 0))]
theorem yr (n:Nat) (a0:V) (h:H):run ah (n + 1) "outcome" [a0] h = fin (xL (run ah n) n (upd nf 0 a0) h):=by kernel_rfl
noncomputable abbrev oQ (g:G) (n:Nat):Sx:=ag [
 aj 1 (af g "outcome" [(aa 0)]),
 aU (ax .Eq (aa 1) (ac (.int 0))) (ag [aw (ac (.str "*"))]) (ag []),
 aU (ax .NotEq (aa 1) (ac (.int 1))) (ag [aw (ac (.str "1/2-1/2"))]) (ag []),
 aU (ax .Eq (ai (aa 0) "side") (ac (.int 0))) (ag [aw (ac (.str "0-1"))]) (ag []),
 aw (ac (.str "1-0"))]
theorem oN (n:Nat) (a0:V) (h:H):run ah (n + 1) "result_text" [a0] h = fin (oQ (run ah n) n (upd nf 0 a0) h):=by kernel_rfl
noncomputable abbrev oI (g:G) (n:Nat):Sx:=ag [
 co (aa 0) (ac (.str "at")) .Add (ac (.int 1)),
 aU (ax .LtE (av (aa 0) (ac (.str "at"))) (af g "len" [(av (aa 0) (ac (.str "row")))])) (ag [aw (ao .Mod (av (av (aa 0) (ac (.str "row"))) (ao .Sub (av (aa 0) (ac (.str "at"))) (ac (.int 1)))) (aa 1))]) (ag []),
 aw (ao .Mod (ao .Sub (ao .Mult (ac (.int 7)) (ao .Sub (av (aa 0) (ac (.str "at"))) (af g "len" [(av (aa 0) (ac (.str "row")))]))) (ac (.int 4))) (aa 1))]
theorem hY (n:Nat) (a0 a1:V) (h:H):run ah (n + 1) "_law_number" [a0,a1] h = fin (oI (run ah n) n (upd (upd nf 0 a0) 1 a1) h):=by kernel_rfl
noncomputable abbrev wo (g:G) (n:Nat):Sx:=ag [
 aw (dz 1 (fm [none,none,none,some 0,some 2]) (af g "range" [(aa 1)]) (cb [(cI .Or [(ax .Gt (af bJ "abs" [(ao .Sub (ao .Mod (aa 1) (aa 3)) (ao .Mod (aa 4) (aa 3)))]) (ac (.int 1))),(ax .Gt (af bJ "abs" [(ao .Sub (ao .FloorDiv (aa 1) (aa 3)) (ao .FloorDiv (aa 4) (aa 3)))]) (ac (.int 1)))])]) (aa 1))]
theorem vQ (n:Nat) (a0 a1 a2:V) (h:H):run ah (n + 1) "_law_far" [a0,a1,a2] h = fin (wo (run ah n) n (upd (upd (upd nf 0 a0) 1 a1) 2 a2) h):=by kernel_rfl
noncomputable abbrev rb (g:G) (n:Nat):Sx:=ag [
 bz [1,2] (av (dM [(dM [(ac (.int 3)),(ac (.int 3))]),(dM [(ac (.int 2)),(ac (.int 4))]),(dM [(ac (.int 3)),(ac (.int 4))])]) (af g "_law_number" [(aa 0),(ac (.int 3))])),
 aj 3 (ao .Mult (aa 1) (aa 2)),
 aj 5 (dz 1 (fm [none,none,none,some 3]) (af g "range" [(ac (.int 15))]) (cb []) (dz 1 (fm [none,none,some 1]) (af bJ "range" [(aa 3)]) (cb []) (ao .Mult (ao .Add (ao .Add (ao .Mult (aa 2) (ac (.int 31))) (aa 1)) (ac (.int 1))) (ac (.int 65537))))),
 aj 6 (af g "Position" [(af g "make_geometry" [(aa 1),(aa 2),(ac (.bool false)),(ac (.bool false))]),(af g "Zobrist" [(aa 5),(yf (ac (.int 0)) (aa 1)),(yf (ac (.int 0)) (ac (.int 16))),(ac (.int 1))])]),
 a8 (aa 6) "side" (af g "_law_number" [(aa 0),(ac (.int 2))]),
 aj 7 (af g "_law_number" [(aa 0),(aa 3)]),
 aU (ax .Eq (af g "_law_far" [(aa 1),(aa 3),(aa 7)]) (aP [])) (ag [aj 7 (ac (.int 0))]) (ag []),
 aj 8 (af g "_law_far" [(aa 1),(aa 3),(aa 7)]),
 aj 9 (av (aa 8) (af g "_law_number" [(aa 0),(af g "len" [(aa 8)])])),
 au (af g "put_piece" [(aa 6),(af g "make_piece" [(ai (aa 6) "side"),(ac (.int 6))]),(aa 7)]),
 au (af g "put_piece" [(aa 6),(af g "make_piece" [(ao .Sub (ac (.int 1)) (ai (aa 6) "side")),(ac (.int 6))]),(aa 9)]),
 aj 10 (dz 1 (fm [none,none,some 7,some 9]) (af g "range" [(aa 3)]) (cb [(cI .And [(ax .NotEq (aa 1) (aa 2)),(ax .NotEq (aa 1) (aa 3))])]) (aa 1)),
 aj 4 (av (aa 10) (af g "_law_number" [(aa 0),(af g "len" [(aa 10)])])),
 au (af g "put_piece" [(aa 6),(af g "make_piece" [(ai (aa 6) "side"),(av (dM [(ac (.int 5)),(ac (.int 4)),(ac (.int 3))]) (af g "_law_number" [(aa 0),(ac (.int 3))]))]),(aa 4)]),
 aU (aX (af g "in_check_of" [(aa 6),(ao .Sub (ac (.int 1)) (ai (aa 6) "side"))])) (ag [au (af g "take_piece" [(aa 6),(aa 4)])]) (ag []),
 aw (aa 6)]
theorem rV (n:Nat) (a0:V) (h:H):run ah (n + 1) "_law_stood" [a0] h = fin (rb (run ah n) n (upd nf 0 a0) h):=by kernel_rfl
noncomputable abbrev uj (g:G) (n:Nat):Sx:=ag [
 aw (aP [(c5 (ai (aa 0) "board") none none),(c5 (ai (aa 0) "kinds") none none),(c5 (ai (aa 0) "sides") none none),(ai (aa 0) "side"),(ai (aa 0) "key"),(ai (aa 0) "half"),(ai (aa 0) "full"),(c5 (ai (aa 0) "history") none none)])]
theorem uy (n:Nat) (a0:V) (h:H):run ah (n + 1) "_law_kept" [a0] h = fin (uj (run ah n) n (upd nf 0 a0) h):=by kernel_rfl
noncomputable abbrev jk (g:G) (n:Nat):Sx:=ag [
 bF 1 (af g "legal_moves" [(aa 0)]) (ag [au (af g "do_move" [(aa 0),(aa 1)]),aj 2 (cf .And [(af g "in_check" [(aa 0)]),(cG .Eq (af g "legal_moves" [(aa 0)]) (aP []))]),au (af g "undo_move" [(aa 0)]),aU (aX (aa 2)) (ag [aw (aP [(aa 1)])]) (ag [])]),
 aw (aP [])]
theorem jr (n:Nat) (a0:V) (h:H):run ah (n + 1) "_law_first_mate" [a0] h = fin (jk (run ah n) n (upd nf 0 a0) h):=by kernel_rfl
noncomputable abbrev gW (g:G) (n:Nat):Sx:=ag [
 aj 3 (af g "proof_search" [(aa 0),(aa 1),(aa 2)]),
 bz [4,5,6] (aa 3),
 aU (ax .LtE (aa 1) (ac (.int 0))) (ag [aw (cf .And [(cG .Eq (aa 3) (dM [(i0 .USub (ac (.int 1))),(ac (.int 0)),(ac (.int 1))])),(i0 .Not (af g "can_mate" [(aa 0),(aa 1)]))])]) (ag []),
 aU (ax .LtE (aa 2) (ac (.int 1))) (ag [aw (cG .Eq (aa 3) (dM [(ac (.int 0)),(ac (.int 0)),(ac (.int 1))]))]) (ag []),
 aU (ax .Eq (aa 4) (ac (.int 0))) (ag [aj 7 (af g "proof_search" [(aa 0),(aa 1),(ao .Add (aa 6) (ac (.int 1)))]),aj 8 (cf .Or [(cG .NotEq (av (aa 7) (ac (.int 0))) (ac (.int 0))),(cG .Gt (av (aa 7) (ac (.int 2))) (aa 6))]),aw (cf .And [(cG .Eq (aa 5) (ac (.int 0))),(cG .GtE (aa 6) (aa 2)),(aa 8),(cG .Eq (af g "proof_search" [(aa 0),(aa 1),(aa 6)]) (aa 3))])]) (ag []),
 aU (ax .NotEq (af g "proof_search" [(aa 0),(aa 1),(ao .Add (aa 6) (ac (.int 3)))]) (aa 3)) (ag [aw (ac (.bool false))]) (ag []),
 aU (ax .Lt (aa 4) (ac (.int 0))) (ag [aw (cG .Eq (aa 5) (ac (.int 0)))]) (ag []),
 au (af g "do_move" [(aa 0),(aa 5)]),
 aj 9 (af g "is_mated_in" [(aa 0),(ao .Sub (aa 1) (ac (.int 1)))]),
 au (af g "undo_move" [(aa 0)]),
 aw (aa 9)]
theorem gX (n:Nat) (a0 a1 a2:V) (h:H):run ah (n + 1) "_law_search_right" [a0,a1,a2] h = fin (gW (run ah n) n (upd (upd (upd nf 0 a0) 1 a1) 2 a2) h):=by kernel_rfl
noncomputable abbrev eI (g:G) (n:Nat):Sx:=ag [
 aj 1 (af g "_law_first_mate" [(aa 0)]),
 aU (cI .Or [(ax .NotEq (af g "find_mate" [(aa 0),(ac (.int 1))]) (aa 1)),(ax .NotEq (af g "find_mate" [(aa 0),(i0 .USub (ac (.int 1)))]) (aP [])),(ax .NotEq (af g "can_mate" [(aa 0),(ac (.int 1))]) (cG .NotEq (aa 1) (aP [])))]) (ag [aw (ac (.bool false))]) (ag []),
 aU (ax .Eq (aa 1) (aP [])) (ag [aw (ac (.bool true))]) (ag []),
 aj 2 (ai (aa 0) "side"),
 au (af g "do_moves" [(aa 0),(aa 1)]),
 aj 3 (cf .And [(cG .Eq (af g "outcome" [(aa 0)]) (ac (.int 1))),(cG .Eq (af g "result_text" [(aa 0)]) (av (dM [(ac (.str "1-0")),(ac (.str "0-1"))]) (aa 2)))]),
 aj 3 (cf .And [(aa 3),(af g "is_mated_in" [(aa 0),(ac (.int 0))]),(af g "is_mated_in" [(aa 0),(i0 .USub (ac (.int 2)))]),(af g "is_mated_in" [(aa 0),(ac (.int 1))])]),
 au (af g "undo_move" [(aa 0)]),
 aw (aa 3)]
theorem jE (n:Nat) (a0:V) (h:H):run ah (n + 1) "_law_mate_right" [a0] h = fin (eI (run ah n) n (upd nf 0 a0) h):=by kernel_rfl
end
section
open PySem
noncomputable def nL (l:List Nat):MO:=.list (l.map fun (n:Nat) => V.int (n:Int))
noncomputable def iL (l:List Int):MO:=.list (l.map V.int)
noncomputable def Fs:H:=[
 iL [65537,131074,196611,262148,327685,393222,458759,524296,589833],
 iL [2097184,2162721,2228258,2293795,2359332,2424869,2490406,2555943,2621480],
 iL [4128831,4194368,4259905,4325442,4390979,4456516,4522053,4587590,4653127],
 iL [6160478,6226015,6291552,6357089,6422626,6488163,6553700,6619237,6684774],
 iL [8192125,8257662,8323199,8388736,8454273,8519810,8585347,8650884,8716421],
 iL [10223772,10289309,10354846,10420383,10485920,10551457,10616994,10682531,10748068],
 iL [12255419,12320956,12386493,12452030,12517567,12583104,12648641,12714178,12779715],
 iL [14287066,14352603,14418140,14483677,14549214,14614751,14680288,14745825,14811362],
 iL [16318713,16384250,16449787,16515324,16580861,16646398,16711935,16777472,16843009],
 iL [18350360,18415897,18481434,18546971,18612508,18678045,18743582,18809119,18874656],
 iL [20382007,20447544,20513081,20578618,20644155,20709692,20775229,20840766,20906303],
 iL [22413654,22479191,22544728,22610265,22675802,22741339,22806876,22872413,22937950],
 iL [24445301,24510838,24576375,24641912,24707449,24772986,24838523,24904060,24969597],
 iL [26476948,26542485,26608022,26673559,26739096,26804633,26870170,26935707,27001244],
 iL [28508595,28574132,28639669,28705206,28770743,28836280,28901817,28967354,29032891],
 .list [.ref 2,.ref 3,.ref 4,.ref 5,.ref 6,.ref 7,.ref 8,.ref 9,.ref 10,.ref 11,.ref 12,.ref 13,.ref 14,.ref 15,.ref 16],
 .inst "Geometry" [("files",.int 3),("ranks",.int 3),("size",.int 9),("full",.int 511),("has_double",.bool false),("has_castling",.bool false),("file_masks",.ref 19),("rank_masks",.ref 20),("rays",.ref 21),("king",.ref 29),("knight",.ref 23),("pawn",.ref 26),("castles",.ref 27),("rights_lost",.ref 38)],
 iL [73,146,292],
 iL [7,56,448],
 .list [.ref 30,.ref 31,.ref 32,.ref 33,.ref 34,.ref 35,.ref 36,.ref 37],
 iL [],
 iL [160,320,136,260,0,65,34,5,10],
 iL [16,40,16,128,320,128,0,0,0],
 iL [0,0,0,2,5,2,16,40,16],
 .list [.ref 24,.ref 25],
 .list [.none,.none,.none,.none],
 iL [],
 iL [26,61,50,211,495,406,152,376,176],
 iL [72,144,288,64,128,256,0,0,0],
 iL [6,4,0,48,32,0,384,256,0],
 iL [0,0,0,1,2,4,9,18,36],
 iL [0,1,3,0,8,24,0,64,192],
 iL [272,32,0,128,256,0,0,0,0],
 iL [0,0,0,2,4,0,20,32,0],
 iL [0,0,0,0,1,2,0,8,17],
 iL [0,8,80,0,64,128,0,0,0],
 iL [0,0,0,0,0,0,0,0,0],
 iL [0,0,0],
 iL [0,0,0,0,0,0,0,0,0,0,0,0,0,0,0,0],
 .inst "Zobrist" [("pieces",.ref 17),("ep",.ref 39),("rights",.ref 40),("side",.int 1)]]
noncomputable def E6:H:=[
 iL [65537,131074,196611,262148,327685,393222,458759,524296],
 iL [2097184,2162721,2228258,2293795,2359332,2424869,2490406,2555943],
 iL [4128831,4194368,4259905,4325442,4390979,4456516,4522053,4587590],
 iL [6160478,6226015,6291552,6357089,6422626,6488163,6553700,6619237],
 iL [8192125,8257662,8323199,8388736,8454273,8519810,8585347,8650884],
 iL [10223772,10289309,10354846,10420383,10485920,10551457,10616994,10682531],
 iL [12255419,12320956,12386493,12452030,12517567,12583104,12648641,12714178],
 iL [14287066,14352603,14418140,14483677,14549214,14614751,14680288,14745825],
 iL [16318713,16384250,16449787,16515324,16580861,16646398,16711935,16777472],
 iL [18350360,18415897,18481434,18546971,18612508,18678045,18743582,18809119],
 iL [20382007,20447544,20513081,20578618,20644155,20709692,20775229,20840766],
 iL [22413654,22479191,22544728,22610265,22675802,22741339,22806876,22872413],
 iL [24445301,24510838,24576375,24641912,24707449,24772986,24838523,24904060],
 iL [26476948,26542485,26608022,26673559,26739096,26804633,26870170,26935707],
 iL [28508595,28574132,28639669,28705206,28770743,28836280,28901817,28967354],
 .list [.ref 2,.ref 3,.ref 4,.ref 5,.ref 6,.ref 7,.ref 8,.ref 9,.ref 10,.ref 11,.ref 12,.ref 13,.ref 14,.ref 15,.ref 16],
 .inst "Geometry" [("files",.int 2),("ranks",.int 4),("size",.int 8),("full",.int 255),("has_double",.bool false),("has_castling",.bool false),("file_masks",.ref 19),("rank_masks",.ref 20),("rays",.ref 21),("king",.ref 29),("knight",.ref 23),("pawn",.ref 26),("castles",.ref 27),("rights_lost",.ref 38)],
 iL [85,170],
 iL [3,12,48,192],
 .list [.ref 30,.ref 31,.ref 32,.ref 33,.ref 34,.ref 35,.ref 36,.ref 37],
 iL [],
 iL [32,16,128,64,2,1,8,4],
 iL [8,4,32,16,128,64,0,0],
 iL [0,0,2,1,8,4,32,16],
 .list [.ref 24,.ref 25],
 .list [.none,.none,.none,.none],
 iL [],
 iL [14,13,59,55,236,220,176,112],
 iL [84,168,80,160,64,128,0,0],
 iL [2,0,8,0,32,0,128,0],
 iL [0,0,1,2,5,10,21,42],
 iL [0,1,0,4,0,16,0,64],
 iL [8,0,32,0,128,0,0,0],
 iL [0,0,2,0,8,0,32,0],
 iL [0,0,0,1,0,4,0,16],
 iL [0,4,0,16,0,64,0,0],
 iL [0,0,0,0,0,0,0,0],
 iL [0,0],
 iL [0,0,0,0,0,0,0,0,0,0,0,0,0,0,0,0],
 .inst "Zobrist" [("pieces",.ref 17),("ep",.ref 39),("rights",.ref 40),("side",.int 1)]]
noncomputable def Gc:H:=[
 iL [65537,131074,196611,262148,327685,393222,458759,524296,589833,655370,720907,786444],
 iL [2097184,2162721,2228258,2293795,2359332,2424869,2490406,2555943,2621480,2687017,2752554,2818091],
 iL [4128831,4194368,4259905,4325442,4390979,4456516,4522053,4587590,4653127,4718664,4784201,4849738],
 iL [6160478,6226015,6291552,6357089,6422626,6488163,6553700,6619237,6684774,6750311,6815848,6881385],
 iL [8192125,8257662,8323199,8388736,8454273,8519810,8585347,8650884,8716421,8781958,8847495,8913032],
 iL [10223772,10289309,10354846,10420383,10485920,10551457,10616994,10682531,10748068,10813605,10879142,10944679],
 iL [12255419,12320956,12386493,12452030,12517567,12583104,12648641,12714178,12779715,12845252,12910789,12976326],
 iL [14287066,14352603,14418140,14483677,14549214,14614751,14680288,14745825,14811362,14876899,14942436,15007973],
 iL [16318713,16384250,16449787,16515324,16580861,16646398,16711935,16777472,16843009,16908546,16974083,17039620],
 iL [18350360,18415897,18481434,18546971,18612508,18678045,18743582,18809119,18874656,18940193,19005730,19071267],
 iL [20382007,20447544,20513081,20578618,20644155,20709692,20775229,20840766,20906303,20971840,21037377,21102914],
 iL [22413654,22479191,22544728,22610265,22675802,22741339,22806876,22872413,22937950,23003487,23069024,23134561],
 iL [24445301,24510838,24576375,24641912,24707449,24772986,24838523,24904060,24969597,25035134,25100671,25166208],
 iL [26476948,26542485,26608022,26673559,26739096,26804633,26870170,26935707,27001244,27066781,27132318,27197855],
 iL [28508595,28574132,28639669,28705206,28770743,28836280,28901817,28967354,29032891,29098428,29163965,29229502],
 .list [.ref 2,.ref 3,.ref 4,.ref 5,.ref 6,.ref 7,.ref 8,.ref 9,.ref 10,.ref 11,.ref 12,.ref 13,.ref 14,.ref 15,.ref 16],
 .inst "Geometry" [("files",.int 3),("ranks",.int 4),("size",.int 12),("full",.int 4095),("has_double",.bool false),("has_castling",.bool false),("file_masks",.ref 19),("rank_masks",.ref 20),("rays",.ref 21),("king",.ref 29),("knight",.ref 23),("pawn",.ref 26),("castles",.ref 27),("rights_lost",.ref 38)],
 iL [585,1170,2340],
 iL [7,56,448,3584],
 .list [.ref 30,.ref 31,.ref 32,.ref 33,.ref 34,.ref 35,.ref 36,.ref 37],
 iL [],
 iL [160,320,136,1284,2560,1089,2082,5,522,272,40,80],
 iL [16,40,16,128,320,128,1024,2560,1024,0,0,0],
 iL [0,0,0,2,5,2,16,40,16,128,320,128],
 .list [.ref 24,.ref 25],
 .list [.none,.none,.none,.none],
 iL [],
 iL [26,61,50,211,495,406,1688,3960,3248,1216,3008,1408],
 iL [584,1168,2336,576,1152,2304,512,1024,2048,0,0,0],
 iL [6,4,0,48,32,0,384,256,0,3072,2048,0],
 iL [0,0,0,1,2,4,9,18,36,73,146,292],
 iL [0,1,3,0,8,24,0,64,192,0,512,1536],
 iL [272,32,0,2176,256,0,1024,2048,0,0,0,0],
 iL [0,0,0,2,4,0,20,32,0,160,256,0],
 iL [0,0,0,0,1,2,0,8,17,0,64,136],
 iL [0,8,80,0,64,640,0,512,1024,0,0,0],
 iL [0,0,0,0,0,0,0,0,0,0,0,0],
 iL [0,0,0],
 iL [0,0,0,0,0,0,0,0,0,0,0,0,0,0,0,0],
 .inst "Zobrist" [("pieces",.ref 17),("ep",.ref 39),("rights",.ref 40),("side",.int 1)]]
inductive B3 where
 | b0 | b1 | b2
 deriving DecidableEq
noncomputable def AS:B3 → H
 | .b0 => Fs | .b1 => E6 | .b2 => Gc
noncomputable def cM:B3 → Nat | .b0 => 3 | .b1 => 2 | .b2 => 3
noncomputable def vq:B3 → Nat | .b0 => 3 | .b1 => 4 | .b2 => 4
noncomputable def al:B3 → Nat | .b0 => 9 | .b1 => 8 | .b2 => 12
noncomputable def dJ:B3 → Nat | .b0 => 511 | .b1 => 255 | .b2 => 4095
noncomputable def mO:B3 → List (List Nat)
 | .b0 => [[72,144,288,64,128,256,0,0,0],[6,4,0,48,32,0,384,256,0],[0,0,0,1,2,4,9,18,36],[0,1,3,0,8,24,0,64,192],[272,32,0,128,256,0,0,0,0],[0,0,0,2,4,0,20,32,0],[0,0,0,0,1,2,0,8,17],[0,8,80,0,64,128,0,0,0]]
 | .b1 => [[84,168,80,160,64,128,0,0],[2,0,8,0,32,0,128,0],[0,0,1,2,5,10,21,42],[0,1,0,4,0,16,0,64],[8,0,32,0,128,0,0,0],[0,0,2,0,8,0,32,0],[0,0,0,1,0,4,0,16],[0,4,0,16,0,64,0,0]]
 | .b2 => [[584,1168,2336,576,1152,2304,512,1024,2048,0,0,0],[6,4,0,48,32,0,384,256,0,3072,2048,0],[0,0,0,1,2,4,9,18,36,73,146,292],[0,1,3,0,8,24,0,64,192,0,512,1536],[272,32,0,2176,256,0,1024,2048,0,0,0,0],[0,0,0,2,4,0,20,32,0,160,256,0],[0,0,0,0,1,2,0,8,17,0,64,136],[0,8,80,0,64,640,0,512,1024,0,0,0]]
noncomputable def zu:B3 → List Nat
 | .b0 => [26,61,50,211,495,406,152,376,176]
 | .b1 => [14,13,59,55,236,220,176,112]
 | .b2 => [26,61,50,211,495,406,1688,3960,3248,1216,3008,1408]
noncomputable def fP (b:B3) (d s:Nat):Nat:=((mO b).getD d []).getD s 0
noncomputable def cu (b:B3) (s:Nat):Nat:=(zu b).getD s 0
structure PS where
 bd:List Nat
 k3:Nat
 k4:Nat
 k5:Nat
 k6:Nat
 s0:Nat
 s1:Nat
 side:Nat
 half:Int
 full:Int
 key:Nat
 hist:List (List Int)
noncomputable def Fd (P:PS):MO:=.inst "Position" [("geo",.ref 18),("zob",.ref 41),("board",.ref 43),("kinds",.ref 44),("sides",.ref 45),("side",.int P.side),("rights",.int 0),("ep",.int (-1)),("half",.int P.half),("full",.int P.full),("key",.int P.key),("history",.ref 46)]
noncomputable def hp (row:List Int) (at':Int) (b:B3) (P:PS) (J:H):H:=
 iL row :: .dict [("row",.ref 0),("at",.int at')] :: (AS b ++ (Fd P :: nL P.bd :: nL [0,0,0,P.k3,P.k4,P.k5,P.k6] :: nL [P.s0,P.s1] :: .list (P.hist.map V.tup) :: J))
section
variable (row:List Int) (a:Int) (b:B3) (P:PS) (J:H)
theorem DP:(hp row a b P J)[43]? = some (nL P.bd):=by rcases b with _|_|_ <;> rfl
theorem GL:(hp row a b P J)[44]? = some (nL [0,0,0,P.k3,P.k4,P.k5,P.k6]):=by rcases b with _|_|_ <;> rfl
theorem He:(hp row a b P J)[45]? = some (nL [P.s0,P.s1]):=by rcases b with _|_|_ <;> rfl
theorem zq:(hp row a b P J)[46]? = some (.list (P.hist.map V.tup)):=by rcases b with _|_|_ <;> rfl
theorem kW (o:H):hp row a b P J ++ o = hp row a b P (J ++ o):=by simp [hp]
theorem Gp (x:List Nat):(hp row a b P J).set 43 (nL x) = hp row a b { P with bd:=x } J:=by rcases b with _|_|_ <;> rfl
theorem cH:(hp row a b P J).length = 47 + J.length:=by rcases b with _|_|_ <;> simp [hp,AS,Fs,E6,Gc] <;> omega
theorem Go {i:Nat} (h1:2 ≤ i) (h2:i < 42):(hp row a b P J)[i]? = (AS b)[i - 2]?:=by
 obtain ⟨j,rfl⟩:∃ j,i = j + 2:=⟨i - 2,by omega⟩
 have hl:(AS b).length = 40:=by rcases b with _|_|_ <;> rfl
 show (AS b ++ _)[j]? = _
 rw [List.getElem?_append_left (by omega)]
 rfl
theorem aR:al b ≤ 12:=by rcases b with _|_|_ <;> decide
theorem eM (i:Nat):(hp row a b P J)[47 + i]? = J[i]?:=by
 haveI:∀ (l:H) (l':H),l.length = 47 → (l ++ l')[47 + i]? = l'[i]?:=fun l l' hl => by
  rw [List.getElem?_append_right (by omega)]
  rw [hl,Nat.add_sub_cancel_left]
 haveI e:hp row a b P J = hp row a b P [] ++ J:=by simp [hp]
 rw [e]
 exact this _ _ (by haveI:=cH row a b P []; simpa using this)
theorem BL (i:Nat) (o:MO):(hp row a b P J).set (47 + i) o = hp row a b P (J.set i o):=by
 haveI e:∀ J,hp row a b P J = hp row a b P [] ++ J:=fun J => by simp [hp]
 haveI hl:(hp row a b P []).length = 47:=by haveI:=cH row a b P []; simpa using this
 rw [e J,e (J.set i o),List.set_append]
 rw [hl,if_neg (by omega)]
 congr 2; omega
theorem j9:aB (.ref 42) "geo" (hp row a b P J) = some (.ref 18):=by rcases b with _|_|_ <;> rfl
theorem vH:aB (.ref 42) "zob" (hp row a b P J) = some (.ref 41):=by rcases b with _|_|_ <;> rfl
theorem cW:aB (.ref 42) "board" (hp row a b P J) = some (.ref 43):=by rcases b with _|_|_ <;> rfl
theorem sr:aB (.ref 42) "kinds" (hp row a b P J) = some (.ref 44):=by rcases b with _|_|_ <;> rfl
theorem um:aB (.ref 42) "sides" (hp row a b P J) = some (.ref 45):=by rcases b with _|_|_ <;> rfl
theorem bV:aB (.ref 42) "side" (hp row a b P J) = some (.int P.side):=by rcases b with _|_|_ <;> rfl
theorem gK:aB (.ref 42) "rights" (hp row a b P J) = some (.int 0):=by rcases b with _|_|_ <;> rfl
theorem CY:aB (.ref 42) "ep" (hp row a b P J) = some (.int (-1)):=by rcases b with _|_|_ <;> rfl
theorem rT:aB (.ref 42) "half" (hp row a b P J) = some (.int P.half):=by rcases b with _|_|_ <;> rfl
theorem qv:aB (.ref 42) "full" (hp row a b P J) = some (.int P.full):=by rcases b with _|_|_ <;> rfl
theorem vY:aB (.ref 42) "key" (hp row a b P J) = some (.int P.key):=by rcases b with _|_|_ <;> rfl
theorem di:aB (.ref 42) "history" (hp row a b P J) = some (.ref 46):=by rcases b with _|_|_ <;> rfl
theorem xb:aB (.ref 18) "size" (hp row a b P J) = some (.int (al b)):=by rcases b with _|_|_ <;> rfl
theorem BB:aB (.ref 18) "full" (hp row a b P J) = some (.int (dJ b)):=by rcases b with _|_|_ <;> rfl
theorem HB:aB (.ref 18) "has_double" (hp row a b P J) = some (.bool false):=by rcases b with _|_|_ <;> rfl
theorem CE:aB (.ref 18) "rays" (hp row a b P J) = some (.ref 21):=by rcases b with _|_|_ <;> rfl
theorem GF:aB (.ref 18) "king" (hp row a b P J) = some (.ref 29):=by rcases b with _|_|_ <;> rfl
theorem EV:aB (.ref 18) "knight" (hp row a b P J) = some (.ref 23):=by rcases b with _|_|_ <;> rfl
theorem Gv:aB (.ref 18) "pawn" (hp row a b P J) = some (.ref 26):=by rcases b with _|_|_ <;> rfl
theorem D8:aB (.ref 18) "castles" (hp row a b P J) = some (.ref 27):=by rcases b with _|_|_ <;> rfl
theorem wC:aB (.ref 18) "rights_lost" (hp row a b P J) = some (.ref 38):=by rcases b with _|_|_ <;> rfl
theorem qm:aB (.ref 41) "pieces" (hp row a b P J) = some (.ref 17):=by rcases b with _|_|_ <;> rfl
theorem Cj:aB (.ref 41) "side" (hp row a b P J) = some (.int 1):=by rcases b with _|_|_ <;> rfl
theorem qM (k:Nat):bj (.ref 42) "side" (.int k) (hp row a b P J) = some (hp row a b { P with side:=k } J):=by rcases b with _|_|_ <;> rfl
theorem qD (k:Int):bj (.ref 42) "half" (.int k) (hp row a b P J) = some (hp row a b { P with half:=k } J):=by rcases b with _|_|_ <;> rfl
theorem wy (k:Int):bj (.ref 42) "full" (.int k) (hp row a b P J) = some (hp row a b { P with full:=k } J):=by rcases b with _|_|_ <;> rfl
theorem Ap (k:Nat):bj (.ref 42) "key" (.int k) (hp row a b P J) = some (hp row a b { P with key:=k } J):=by rcases b with _|_|_ <;> rfl
theorem mu {h:H} {i:Nat} {k:Int} {vs:List V} (hi:h[i]? = some (.list vs)) (h1:0 ≤ k) (h2:k ≤ 1000000):aO (.ref i) (.int k) h = vs[k.toNat]?:=by
 show tW h[i]? (.int k) = _
 rw [hi]
 exact if_pos ⟨h1,h2⟩
theorem dG {h:H} {i s:Nat} {l:List Nat} (hi:h[i]? = some (nL l)) (h1:s < l.length) (h2:l.length ≤ 1000):aO (.ref i) (.int s) h = some (.int (l.getD s 0)):=by
 rw [mu hi (by omega) (by omega)]
 simp [h1,List.getD]
theorem zb {i s x:Nat} {l:List Nat} {h h':H} (hi:h[i]? = some (nL l)) (h1:s < l.length) (h2:l.length ≤ 1000) (he:h.set i (nL (l.set s x)) = h'):cy (.ref i) (.int s) (.int x) h = some h':=by
 unfold cy
 simp only [hi,nL]
 rw [if_pos ⟨by omega,by omega,by simp; omega⟩]
 rw [← he]
 simp [nL,List.map_set]
theorem Bf:aO (.ref 44) (.int 3) (hp row a b P J) = some (.int P.k3):=by rcases b with _|_|_ <;> rfl
theorem Br:aO (.ref 44) (.int 4) (hp row a b P J) = some (.int P.k4):=by rcases b with _|_|_ <;> rfl
theorem BO:aO (.ref 44) (.int 5) (hp row a b P J) = some (.int P.k5):=by rcases b with _|_|_ <;> rfl
theorem BF:aO (.ref 44) (.int 6) (hp row a b P J) = some (.int P.k6):=by rcases b with _|_|_ <;> rfl
theorem Gs:aO (.ref 44) (.int 1) (hp row a b P J) = some (.int 0):=by rcases b with _|_|_ <;> rfl
theorem Bt:aO (.ref 44) (.int 2) (hp row a b P J) = some (.int 0):=by rcases b with _|_|_ <;> rfl
theorem Cc:aO (.ref 45) (.int 0) (hp row a b P J) = some (.int P.s0):=by rcases b with _|_|_ <;> rfl
theorem Bw:aO (.ref 45) (.int 1) (hp row a b P J) = some (.int P.s1):=by rcases b with _|_|_ <;> rfl
theorem rS (d:Nat) (hd:d < 8):aO (.ref 21) (.int d) (hp row a b P J) = some (.ref (30 + d)):=by
 rw [mu (vs:=(List.range 8).map fun d => V.ref (30 + d)) (by rcases b with _|_|_ <;> rfl) (by omega) (by omega)]
 rw [List.getElem?_map,List.getElem?_range hd]; rfl
theorem FV (d:Nat) (hd:d < 8):(hp row a b P J)[30 + d]? = some (nL ((mO b).getD d [])):=by
 haveI:∀ b:B3,∀ d:Fin 8,(AS b)[28 + d.val]? = some (nL ((mO b).getD d.val [])):=by intro b; rcases b with _|_|_ <;> decide +kernel
 rw [Go row a b P J (by omega) (by omega)]
 haveI e:=this b ⟨d,hd⟩
 rw [show 30 + d - 2 = 28 + d by omega]
 exact e
theorem xa (d:Nat) (hd:d < 8):((mO b).getD d []).length = al b:=by
 haveI:∀ b:B3,∀ d:Fin 8,((mO b).getD d.val []).length = al b:=by intro b; rcases b with _|_|_ <;> decide
 exact this b ⟨d,hd⟩
theorem rr {d s:Nat} (hd:d < 8) (hs:s < al b):aO (.ref (30 + d)) (.int s) (hp row a b P J) = some (.int (fP b d s)):=
 dG (FV row a b P J d hd) (by rw [xa b d hd]; exact hs) (by rw [xa b d hd]; haveI:=aR b; omega)
theorem w9 {s:Nat} (hs:s < al b):aO (.ref 29) (.int s) (hp row a b P J) = some (.int (cu b s)):=
 dG (h:=hp row a b P J) (i:=29) (l:=zu b) (by rcases b with _|_|_ <;> rfl) (by rcases b with _|_|_ <;> exact hs) (by rcases b with _|_|_ <;> decide)
end
end
section
open PySem
theorem bA (x y:Nat):Builtin.bitAnd (x:Int) (y:Int) = ((x &&& y:Nat):Int):=by
 unfold Builtin.bitAnd
 simp
theorem mH (x:Nat):Builtin.bitNot (x:Int) = -(x:Int) - 1:=rfl
theorem bN (x y:Nat):Builtin.bitAnd (x:Int) (-(y:Int) - 1) = ((x - (x &&& y):Nat):Int):=by
 unfold Builtin.bitAnd Builtin.bitNot
 haveI h1:decide (0 ≤ (x:Int)) = true:=by simp
 haveI h2:decide (0 ≤ (-(y:Int) - 1)) = false:=by simp; omega
 rw [h1,h2]
 haveI h3:(-(-(y:Int) - 1) - 1).toNat = y:=by omega
 simp only [h3,Int.toNat_natCast]
 haveI:x &&& y ≤ x:=Nat.and_le_left
 omega
theorem Iw (x y:Nat):Builtin.bitAnd (-(x:Int) - 1) (-(y:Int) - 1) = -((x ||| y:Nat):Int) - 1:=by
 unfold Builtin.bitAnd Builtin.bitNot
 haveI h2:∀ y:Nat,decide (0 ≤ (-(y:Int) - 1)) = false:=fun y => by simp; omega
 rw [h2,h2]
 haveI h3:∀ y:Nat,(-(-(y:Int) - 1) - 1).toNat = y:=fun y => by omega
 simp only [h3]
theorem bO (x y:Nat):Builtin.bitOr (x:Int) (y:Int) = ((x ||| y:Nat):Int):=by
 unfold Builtin.bitOr
 rw [mH,mH,Iw]
 unfold Builtin.bitNot
 omega
theorem DZ (x:Nat):x % 2 = (x.testBit 0).toNat:=by
 cases h:x.testBit 0 with
 | true => exact Nat.mod_two_eq_one_iff_testBit_zero.mpr h
 | false => exact Nat.mod_two_eq_zero_iff_testBit_zero.mpr h
theorem fX:∀ (x y:Nat),(x ^^^ y) + (x &&& y) = x ||| y:=by
 intro x
 induction x using Nat.strongRecOn with
 | ind x ih =>
  intro y
  by_cases hx:x = 0
  ·subst hx; simp
  ·haveI h:=ih (x / 2) (by omega) (y / 2)
   haveI d1:(x ^^^ y) / 2 = x / 2 ^^^ y / 2:=by apply Nat.eq_of_testBit_eq; intro i; simp [Nat.testBit_div_two]
   haveI d2:(x &&& y) / 2 = x / 2 &&& y / 2:=by apply Nat.eq_of_testBit_eq; intro i; simp [Nat.testBit_div_two]
   haveI d3:(x ||| y) / 2 = x / 2 ||| y / 2:=by apply Nat.eq_of_testBit_eq; intro i; simp [Nat.testBit_div_two]
   haveI m1:=DZ (x ^^^ y)
   haveI m2:=DZ (x &&& y)
   haveI m3:=DZ (x ||| y)
   rw [Nat.testBit_xor] at m1
   rw [Nat.testBit_and] at m2
   rw [Nat.testBit_or] at m3
   rw [← d1,← d2,← d3] at h
   cases hx0:x.testBit 0 <;> cases hy0:y.testBit 0 <;> simp only [hx0,hy0,Bool.false_xor,Bool.true_xor,Bool.xor_false,Bool.xor_true,Bool.not_true,Bool.not_false,Bool.and_true,Bool.true_and,Bool.false_and,Bool.and_false,Bool.or_true,Bool.true_or,Bool.false_or,Bool.or_false,Bool.toNat_true,Bool.toNat_false,Bool.and_self,Bool.or_self,Bool.xor_self] at m1 m2 m3 <;> omega
theorem vw (x y:Nat):(x ||| y) - (x &&& y) = x ^^^ y:=by
 haveI:=fX x y
 omega
theorem bX (x y:Nat):Builtin.bitXor (x:Int) (y:Int) = ((x ^^^ y:Nat):Int):=by
 unfold Builtin.bitXor
 rw [bO,bA,← vw]
 haveI:=fX x y
 omega
end
section
open PySem
theorem Hs (s:Nat):(1:Int) * 2 ^ s = ((1 <<< s:Nat):Int):=by
 rw [Nat.shiftLeft_eq]; push_cast; rfl
theorem Ie (x k:Nat):(x:Int).fdiv (2 ^ k) = ((x >>> k:Nat):Int):=by
 rw [Nat.shiftRight_eq_div_pow]
 haveI:((2:Int) ^ k) = ((2 ^ k:Nat):Int):=by push_cast; rfl
 rw [this,Int.fdiv_eq_ediv_of_nonneg _ (Int.natCast_nonneg _)]
 rfl
theorem kU (x y:Int):aQ .Add x y = some (x + y):=rfl
theorem d9 (x y:Int):aQ .Sub x y = some (x - y):=rfl
theorem hM (x y:Nat):aQ .BitAnd x y = some ((x &&& y:Nat):Int):=congrArg some (bA x y)
theorem y0 (x y:Nat):aQ .BitOr x y = some ((x ||| y:Nat):Int):=congrArg some (bO x y)
theorem HM (y:Nat):aQ .BitOr 0 y = some (y:Int):=by haveI:=y0 0 y; simpa using this
theorem jC (x y:Nat):aQ .BitXor x y = some ((x ^^^ y:Nat):Int):=congrArg some (bX x y)
theorem yZ (x y:Nat):aQ .BitAnd x (-(y:Int) - 1) = some ((x - (x &&& y):Nat):Int):=congrArg some (bN x y)
theorem gn (x k:Nat):aQ .RShift x k = some ((x >>> k:Nat):Int):=by
 show (if (0:Int) ≤ k then some ((x:Int).fdiv (2 ^ (k:Int).toNat)) else none) = _
 rw [if_pos (Int.natCast_nonneg _)]
 exact congrArg some (Ie x k)
theorem zL (x:Nat):aQ .RShift x 1 = some ((x >>> 1:Nat):Int):=gn x 1
theorem Ho (x:Nat):aQ .RShift x 2 = some ((x >>> 2:Nat):Int):=gn x 2
theorem Hx (x:Nat):aQ .RShift x 3 = some ((x >>> 3:Nat):Int):=gn x 3
theorem DV (x:Nat):aQ .RShift x 4 = some ((x >>> 4:Nat):Int):=gn x 4
theorem GJ (x:Nat):aQ .RShift x 6 = some ((x >>> 6:Nat):Int):=gn x 6
theorem Hd (x:Nat):aQ .RShift x 8 = some ((x >>> 8:Nat):Int):=gn x 8
theorem Gy (x:Nat):aQ .RShift x 14 = some ((x >>> 14:Nat):Int):=gn x 14
theorem Gw (x:Nat):aQ .RShift x 16 = some ((x >>> 16:Nat):Int):=gn x 16
theorem Gz (x:Nat):aQ .RShift x 32 = some ((x >>> 32:Nat):Int):=gn x 32
theorem kD (s:Nat) (h:s ≤ 1000):aQ .LShift 1 s = some ((1 <<< s:Nat):Int):=by
 show (if 0 ≤ (s:Int) ∧ (s:Int) ≤ 1000 ∧ small 1 = true then some ((1:Int) * 2 ^ (s:Int).toNat) else none) = _
 rw [if_pos ⟨Int.natCast_nonneg _,by omega,by decide⟩]
 exact congrArg some (Hs s)
theorem Io (x:Nat):aQ .BitAnd (x:Int) 0 = some 0:=by haveI:=hM x 0; simpa using this
theorem HV (x:Nat):aQ .BitAnd 0 (x:Int) = some 0:=by haveI:=hM 0 x; simpa using this
theorem GR:aQ .BitOr 0 0 = some 0:=by decide
theorem FY:aQ .BitAnd 0 0 = some 0:=by decide
theorem tz (x:Nat):((x:Int) != 0) = (x != 0):=by
 cases x with
 | zero => rfl
 | succ n => simp [bne]; omega
theorem jd (x y:Int) (h:H):bI .Eq (.int x) (.int y) h = some (decide (x = y)):=rfl
theorem tP (x y:Int) (h:H):bI .NotEq (.int x) (.int y) h = some (!decide (x = y)):=rfl
theorem Dm (x y:Int) (h:H):bI .Lt (.int x) (.int y) h = some (decide (x < y)):=rfl
theorem qV (x y:Int) (h:H):bI .LtE (.int x) (.int y) h = some (decide (x ≤ y)):=rfl
theorem ui (x y:Int) (h:H):bI .Gt (.int x) (.int y) h = some (decide (y < x)):=rfl
theorem AL (x y:Int) (h:H):bI .GtE (.int x) (.int y) h = some (decide (y ≤ x)):=rfl
theorem HR (y:Nat):aQ .BitAnd 0 (-(y:Int) - 1) = some 0:=by haveI:=yZ 0 y; simpa using this
theorem CN {x y:Int} {h:H} (e:x = y):bI .Eq (.int x) (.int y) h = some true:=congrArg some (decide_eq_true e)
theorem CV {x y:Int} {h:H} (e:¬ x = y):bI .Eq (.int x) (.int y) h = some false:=congrArg some (decide_eq_false e)
theorem Eh {x:Nat} {h:H} (e:x = 0):bI .Eq (.int x) (.int 0) h = some true:=CN (congrArg Nat.cast e)
theorem Et {x:Nat} {h:H} (e:¬ x = 0):bI .Eq (.int x) (.int 0) h = some false:=CV fun q => e (Int.ofNat.inj q)
theorem wW {x y:Int} {h:H} (e:¬ x = y):bI .NotEq (.int x) (.int y) h = some true:=by rw [tP,decide_eq_false e]; rfl
theorem C5 {x y:Int} {h:H} (e:x = y):bI .NotEq (.int x) (.int y) h = some false:=by rw [tP,decide_eq_true e]; rfl
theorem H5 {x y:Int} {h:H} (e:x < y):bI .Lt (.int x) (.int y) h = some true:=congrArg some (decide_eq_true e)
theorem Fu {x y:Int} {h:H} (e:¬ x < y):bI .Lt (.int x) (.int y) h = some false:=congrArg some (decide_eq_false e)
theorem HN {x y:Int} {h:H} (e:x ≤ y):bI .LtE (.int x) (.int y) h = some true:=congrArg some (decide_eq_true e)
theorem HI {x y:Int} {h:H} (e:¬ x ≤ y):bI .LtE (.int x) (.int y) h = some false:=congrArg some (decide_eq_false e)
theorem HE {x y:Int} {h:H} (e:y < x):bI .Gt (.int x) (.int y) h = some true:=congrArg some (decide_eq_true e)
theorem HW {x y:Int} {h:H} (e:¬ y < x):bI .Gt (.int x) (.int y) h = some false:=congrArg some (decide_eq_false e)
theorem HX {x y:Int} {h:H} (e:y ≤ x):bI .GtE (.int x) (.int y) h = some true:=congrArg some (decide_eq_true e)
theorem HY {x y:Int} {h:H} (e:¬ y ≤ x):bI .GtE (.int x) (.int y) h = some false:=congrArg some (decide_eq_false e)
theorem EZ {x:Nat} (e:¬ x = 0):dw (.int x) = some true:=congrArg some (bne_iff_ne.mpr fun q => e (Int.ofNat.inj q))
theorem Ha {x:Nat} (e:x = 0):dw (.int x) = some false:=by rw [e]; rfl
theorem Ab {x:Nat} {c:Bool} (e:(x != 0) = c):dw (.int x) = some c:=congrArg some ((tz x).trans e)
theorem GX {x:Nat} {h:H} (e:(x != 0) = false):bI .Eq (.int x) (.int 0) h = some true:=Eh (bne_eq_false_iff_eq.mp e)
theorem Hu {x:Nat} {h:H} (e:(x != 0) = true):bI .Eq (.int x) (.int 0) h = some false:=Et (bne_iff_ne.mp e)
theorem HK {x:Nat} {h:H} {c:Bool} (e:(x != 0) = c):bI .NotEq (.int x) (.int 0) h = some c:=by
 subst e
 cases x with
 | zero => rfl
 | succ x => exact wW nofun
theorem Ih {c c':Bool} (e:c = c'):dw (.bool c) = some c':=congrArg some e
end
section
open PySem
theorem y9 (v:V) (f:Fm) (h:H):ac v f h = some (v,h):=rfl
theorem zK (i:Nat) (f:Fm) (h:H):aa i f h = (f i).map fun v => (v,h):=rfl
theorem zy (op:Operator) (a b:Ex) (f:Fm) (h:H):ao op a b f h = (a f h).bind fun r => (b f r.2).bind fun q => sB op r.1 q.1 q.2:=rfl
theorem At (op:UnaryOp) (a:Ex) (f:Fm) (h:H):i0 op a f h = (a f h).bind fun r => (Ds op r.1).map fun v => (v,r.2):=rfl
theorem DU (op:CmpOp) (a b:Ex) (f:Fm) (h:H):cG op a b f h = (a f h).bind fun r => (b f r.2).bind fun q => (bI op r.1 q.1 q.2).map fun t => (.bool t,q.2):=rfl
theorem xk (g:G) (x:Str) (as:List Ex) (f:Fm) (h:H):af g x as f h = (bb as f h).bind fun p => g x p.1 p.2:=rfl
theorem qO (g:G) (o:Ex) (name:Str) (as:List Ex) (f:Fm) (h:H):aZ g o name as f h = (o f h).bind fun r => match r.1 with
 | .ref id => match r.2[id]? with
  | some (.list _) => (bb as f r.2).bind fun q => gv name id q.1 q.2
  | some (.inst c at') => match eW name at' with
   | none => match fD c name with
    | some k => (bb as f r.2).bind fun q => g k (.ref id :: q.1) q.2
    | none => none
   | some _ => none
  | _ => none
 | _ => none:=rfl
theorem Cq (o:Ex) (x:Str) (f:Fm) (h:H):ai o x f h = (o f h).bind fun r => (aB r.1 x r.2).map fun v => (v,r.2):=rfl
theorem DN (o i:Ex) (f:Fm) (h:H):av o i f h = (o f h).bind fun r => (i f r.2).bind fun q => (aO r.1 q.1 q.2).map fun v => (v,q.2):=rfl
theorem uf (o:Ex) (lo hi:Option Int) (f:Fm) (h:H):c5 o lo hi f h = (o f h).bind fun r => fR r.1 lo hi r.2:=rfl
theorem wz (es:List Ex) (f:Fm) (h:H):aP es f h = (bb es f h).bind fun p => some (.ref p.2.length,p.2 ++ [.list p.1]):=rfl
theorem De (es:List Ex) (f:Fm) (h:H):dM es f h = (bb es f h).bind fun p => (ud p.1).map fun v => (v,p.2):=rfl
theorem C0 (t:Tx) (a b:Ex) (f:Fm) (h:H):ET t a b f h = (t f h).bind fun r => if r.1 then a f r.2 else b f r.2:=rfl
theorem Dn (e:Ex) (f:Fm) (h:H):aX e f h = (e f h).bind fun r => (dw r.1).map fun b => (b,r.2):=rfl
theorem DS (t:Tx) (f:Fm) (h:H):fO t f h = (t f h).map fun r => (!r.1,r.2):=rfl
theorem Do (op:CmpOp) (a b:Ex) (f:Fm) (h:H):ax op a b f h = (a f h).bind fun r => (b f r.2).bind fun q => (bI op r.1 q.1 q.2).map fun t => (t,q.2):=rfl
theorem ye (i:Nat) (e:Ex) (f:Fm) (h:H):aj i e f h = (e f h).bind fun r => some (.next,upd f i r.1,r.2):=rfl
theorem rX (is:List Nat) (e:Ex) (f:Fm) (h:H):bz is e f h = (e f h).bind fun r => match r.1 with
 | .tup l => if l.length = is.length then some (.next,dT is l f,r.2) else none
 | _ => none:=rfl
theorem uU (o:Ex) (x:Str) (e:Ex) (f:Fm) (h:H):a8 o x e f h = (e f h).bind fun r => (o f r.2).bind fun q => (bj q.1 x r.1 q.2).map fun h' => (.next,f,h'):=rfl
theorem xB (o i:Ex) (e:Ex) (f:Fm) (h:H):bB o i e f h = (e f h).bind fun r => (o f r.2).bind fun q => (i f q.2).bind fun k => (cy q.1 k.1 r.1 k.2).map fun h' => (.next,f,h'):=rfl
theorem vS (i:Nat) (op:Operator) (e:Ex) (f:Fm) (h:H):aF i op e f h = (f i).bind fun old => (e f h).bind fun r => match old,r.1 with
 | .int a,.int b => (aQ op a b).map fun z => (.next,upd f i (.int z),r.2)
 | _,_ => none:=rfl
theorem u4 (o:Ex) (x:Str) (op:Operator) (e:Ex) (f:Fm) (h:H):bh o x op e f h = (o f h).bind fun r => (aB r.1 x r.2).bind fun old => (e f r.2).bind fun q => match old,q.1 with
 | .int a,.int b => (aQ op a b).bind fun z => (bj r.1 x (.int z) q.2).map fun h' => (.next,f,h')
 | _,_ => none:=rfl
theorem yC (o i:Ex) (op:Operator) (e:Ex) (f:Fm) (h:H):co o i op e f h = (o f h).bind fun r => (i f r.2).bind fun k => (aO r.1 k.1 k.2).bind fun old => (e f k.2).bind fun q => match old,q.1 with
 | .int a,.int b => (aQ op a b).bind fun z => (cy r.1 k.1 (.int z) q.2).map fun h' => (.next,f,h')
 | _,_ => none:=rfl
theorem lU (e:Ex) (f:Fm) (h:H):au e f h = (e f h).bind fun r => if qp r.1 then none else some (.next,f,r.2):=rfl
theorem Dz (e:Ex) (f:Fm) (h:H):aw e f h = (e f h).map fun r => (.ret r.1,f,r.2):=rfl
theorem xl (t:Tx) (a b:Sx) (f:Fm) (h:H):aU t a b f h = (t f h).bind fun r => if r.1 then a f r.2 else b f r.2:=rfl
theorem zp (x:Nat) (it:Ex) (b:Sx) (f:Fm) (h:H):bF x it b f h = (it f h).bind fun r => (az r.1 r.2).bind fun items => bQ (fun h' => stays r.1 r.2 h') x b items f r.2:=rfl
theorem qT (f:Fm) (h:H):ag [] f h = some (.next,f,h):=rfl
theorem ej (s:Sx) (r:List Sx) (f:Fm) (h:H):ag (s :: r) f h = (s f h).bind fun q => match q.1 with
  | .next => ag r q.2.1 q.2.2
  | .ret v => some (.ret v,q.2.1,q.2.2):=rfl
theorem Ec (f:Fm) (h:H):bb [] f h = some ([],h):=rfl
theorem rF (e:Ex) (r:List Ex) (f:Fm) (h:H):bb (e :: r) f h = (e f h).bind fun p => (bb r f p.2).bind fun q => some (p.1 :: q.1,q.2):=rfl
theorem lZ (op:BoolOp) (t:Tx) (r:List Tx) (f:Fm) (h:H):cI op (t :: r) f h = (t f h).bind fun p => match op,p.1 with
  | .And,false => some (false,p.2)
  | .Or,true => some (true,p.2)
  | _,_ => cI op r f p.2:=rfl
theorem me (op:BoolOp) (x y:Ex) (r:List Ex) (f:Fm) (h:H):cf op (x :: y :: r) f h = (x f h).bind fun p => (dw p.1).bind fun t => match op,t with
  | .And,false => some p
  | .Or,true => some p
  | _,_ => cf op (y :: r) f p.2:=rfl
theorem w7 (t:Tx) (b:Sx) (n:Nat) (f:Fm) (h:H):bM t b (n + 1) f h = (t f h).bind fun r => if r.1 then (b f r.2).bind fun q => match q.1 with
   | .next => bM t b n q.2.1 q.2.2
   | .ret v => some (.ret v,q.2.1,q.2.2)
  else some (.next,f,r.2):=rfl
theorem jH (chk:H → Bool) (x:Nat) (b:Sx) (v:V) (r:List V) (f:Fm) (h:H):bQ chk x b (v :: r) f h = (b (upd f x v) h).bind fun q => match q.1 with
  | .next => if chk q.2.2 then bQ chk x b r q.2.1 q.2.2 else none
  | .ret w => some (.ret w,q.2.1,q.2.2):=rfl
end
section
open PySem
section
variable {f f':Fm} {h h' h₁ h₂ : H} {v v':V} {X:Option (V × H)} {s:Sx} {r:List Sx} {i:Nat} {e e':Ex} {t:Tx} {A B:Sx} {g:G} {x:Str} {as:List Ex} {vs:List V} {op:Operator} {c:Bool}
theorem ae (k:s f h = some (.next,f',h')) (z:fin (ag r f' h') = X):fin (ag (s :: r) f h) = X:=by rw [ej,k]; exact z
theorem aA (k:s f h = some (.ret v,f',h')):fin (ag (s :: r) f h) = some (v,h'):=by rw [ej,k]; rfl
theorem xc:fin (ag [] f h) = some (.none,h):=rfl
theorem ak {Y:Option (Fl × Fm × H)} (k:s f h = some (.next,f',h')) (z:ag r f' h' = Y):ag (s :: r) f h = Y:=by rw [ej,k]; exact z
theorem aN (k:s f h = some (.ret v,f',h')):ag (s :: r) f h = some (.ret v,f',h'):=by rw [ej,k]; rfl
theorem am (k:e f h = some (v,h')):aj i e f h = some (.next,upd f i v,h'):=by rw [ye,k]; rfl
theorem aD (k:e f h = some (v,h')) (z:qp v = false):au e f h = some (.next,f,h'):=by rw [lU,k]; simp [z]
theorem aC (k:e f h = some (v,h')):aw e f h = some (.ret v,f,h'):=by rw [Dz,k]; rfl
theorem aT {Y:Option (Fl × Fm × H)} (k:t f h = some (true,h')) (z:A f h' = Y):aU t A B f h = Y:=by rw [xl,k]; exact z
theorem tO {Y:Option (Fl × Fm × H)} (k:t f h = some (false,h')) (z:B f h' = Y):aU t A B f h = Y:=by rw [xl,k]; exact z
theorem aI (k:t f h = some (false,h')):aU t A (ag []) f h = some (.next,f,h'):=tO k rfl
theorem loc (k:f i = some v):aa i f h = some (v,h):=by rw [zK,k]; rfl
theorem aH:ac v f h = some (v,h):=rfl
theorem cn {r:V} (k:e f h = some (r,h')) (z:aB r x h' = some v):ai e x f h = some (v,h'):=by rw [Cq,k]; simp [z]
theorem aW {o j:V} (k:e f h = some (o,h₁)) (k':e' f h₁ = some (j,h₂)) (z:aO o j h₂ = some v):av e e' f h = some (v,h₂):=by rw [DN,k]; simp [k',z]
theorem aL {a b:Int} {d:Int} (k:e f h = some (.int a,h₁)) (k':e' f h₁ = some (.int b,h₂)) (z:aQ op a b = some d):ao op e e' f h = some (.int d,h₂):=by rw [zy,k]; simp [k',sB,z]
theorem aq {cop:CmpOp} {a b:V} (k:e f h = some (a,h₁)) (k':e' f h₁ = some (b,h₂)) (z:bI cop a b h₂ = some c):ax cop e e' f h = some (c,h₂):=by rw [Do,k]; simp [k',z]
theorem bL {cop:CmpOp} {a b:V} (k:e f h = some (a,h₁)) (k':e' f h₁ = some (b,h₂)) (z:bI cop a b h₂ = some c):cG cop e e' f h = some (.bool c,h₂):=by rw [DU,k]; simp [k',z]
theorem aS (k:e f h = some (v,h')) (z:dw v = some c):aX e f h = some (c,h'):=by rw [Dn,k]; simp [z]
theorem fp (k:t f h = some (c,h')):fO t f h = some (!c,h'):=by rw [DS,k]; rfl
theorem aM (k:bb as f h = some (vs,h')) (z:g x vs h' = X):af g x as f h = X:=by rw [xk,k]; exact z
theorem aG:bb [] f h = some ([],h):=rfl
theorem ar (k:e f h = some (v,h₁)) (z:bb as f h₁ = some (vs,h₂)):bb (e :: as) f h = some (v :: vs,h₂):=by rw [rF,k]; simp [z]
theorem c6 (k:bb as f h = some (vs,h')):aP as f h = some (.ref h'.length,h' ++ [.list vs]):=by rw [wz,k]; rfl
theorem fQ {n:Nat} {acc:List V} (k:e f h = some (.ref n,h₁)) (hn:h₁[n]? = some (.list acc)) (k':e' f h₁ = some (v,h₂)) (hn':h₂[n]? = some (.list acc)) (z:acc.length ≤ 1000) :
  aZ g e "append" [e'] f h = some (.none,h₂.set n (.list (acc ++ [v]))):=by
 rw [qO,k]
 simp only [Option.bind_some,hn,ar k' aG]
 unfold gv
 simp only [hn']
 rw [if_pos ⟨trivial,z⟩]
theorem c8 {o:V} (k:e f h = some (v,h₁)) (k':e' f h₁ = some (o,h₂)) (z:bj o x v h₂ = some h'):a8 e' x e f h = some (.next,f,h'):=by rw [uU,k]; simp [k',z]
theorem gT {o j:V} {e'':Ex} {h₃ : H} (k:e f h = some (v,h₁)) (k':e' f h₁ = some (o,h₂)) (k'':e'' f h₂ = some (j,h₃)) (z:cy o j v h₃ = some h'):bB e' e'' e f h = some (.next,f,h'):=by rw [xB,k]; simp [k',k'',z]
theorem ca {a b d:Int} (k:f i = some (.int a)) (k':e f h = some (.int b,h')) (z:aQ op a b = some d):aF i op e f h = some (.next,upd f i (.int d),h'):=by rw [vS,k]; simp [k',z]
theorem jl {o:V} {a b d:Int} (k:e' f h = some (o,h₁)) (ka:aB o x h₁ = some (.int a)) (k':e f h₁ = some (.int b,h₂)) (z:aQ op a b = some d) (z':bj o x (.int d) h₂ = some h'):bh e' x op e f h = some (.next,f,h'):=by
 rw [u4,k]; simp [ka,k',z,z']
theorem qs {o j:V} {e'':Ex} {h₃ : H} {a b d:Int} (k:e f h = some (o,h₁)) (k':e' f h₁ = some (j,h₂)) (ka:aO o j h₂ = some (.int a)) (kb:e'' f h₂ = some (.int b,h₃)) (z:aQ op a b = some d) (z':cy o j (.int d) h₃ = some h'):co e e' op e'' f h = some (.next,f,h'):=by
 rw [yC,k]; simp [k',ka,kb,z,z']
theorem br {items:List V} {Y:Option (Fl × Fm × H)} (k:e f h = some (v,h')) (ki:az v h' = some items) (z:bQ (fun h'' => stays v h' h'') i A items f h' = Y):bF i e A f h = Y:=by rw [zp,k]; simp only [Option.bind_some,ki]; exact z
theorem eN {l:List Int} (k:bb as f h = some (vs,h')) (z:cZ vs = some l):dM as f h = some (.tup l,h'):=by rw [De,k]; simp [ud,z]
theorem mT {is:List Nat} {l:List Int} (k:e f h = some (.tup l,h')) (z:l.length = is.length):bz is e f h = some (.next,dT is l f,h'):=by rw [rX,k]; simp [z]
theorem iO {ts:List Tx} (k:t f h = some (false,h')):cI .And (t :: ts) f h = some (false,h'):=by rw [lZ,k]; rfl
theorem dD {ts:List Tx} {Y:Option (Bool × H)} (k:t f h = some (true,h')) (z:cI .And ts f h' = Y):cI .And (t :: ts) f h = Y:=by rw [lZ,k]; exact z
theorem H0 {ts:List Tx} (k:t f h = some (true,h')):cI .Or (t :: ts) f h = some (true,h'):=by rw [lZ,k]; rfl
theorem fS {ts:List Tx} {Y:Option (Bool × H)} (k:t f h = some (false,h')) (z:cI .Or ts f h' = Y):cI .Or (t :: ts) f h = Y:=by rw [lZ,k]; exact z
theorem rl:cI .And [] f h = some (true,h):=rfl
theorem mZ:cI .Or [] f h = some (false,h):=rfl
theorem wS {es:List Ex} (k:e f h = some (.bool false,h')):cf .And (e :: e' :: es) f h = some (.bool false,h'):=by rw [me,k]; rfl
theorem cY {es:List Ex} (k:e f h = some (.bool true,h')) (z:cf .And (e' :: es) f h' = X):cf .And (e :: e' :: es) f h = X:=by rw [me,k]; exact z
theorem zr {es:List Ex} (k:e f h = some (.bool true,h')):cf .Or (e :: e' :: es) f h = some (.bool true,h'):=by rw [me,k]; rfl
theorem DI {es:List Ex} (k:e f h = some (.bool false,h')) (z:cf .Or (e' :: es) f h' = X):cf .Or (e :: e' :: es) f h = X:=by rw [me,k]; exact z
theorem Eg {a b:Ex} (k:t f h = some (true,h')) (z:a f h' = X):ET t a b f h = X:=by rw [C0,k]; exact z
theorem D9 {a b:Ex} (k:t f h = some (false,h')) (z:b f h' = X):ET t a b f h = X:=by rw [C0,k]; exact z
theorem C4 {b:Bool} (k:e f h = some (.bool b,h')):i0 .Not e f h = some (.bool !b,h'):=by rw [At,k]; rfl
theorem pP {j:Int} (k:e f h = some (.int j,h')):i0 .USub e f h = some (.int (-j),h'):=by rw [At,k]; rfl
theorem bE {chk:H → Bool} {l:List V} {Y:Option (Fl × Fm × H)} (k:A (upd f i v) h = some (.next,f',h')) (c:chk h' = true) (z:bQ chk i A l f' h' = Y):bQ chk i A (v :: l) f h = Y:=by rw [jH,k]; simp only [Option.bind_some,c,if_true]; exact z
theorem gj {chk:H → Bool} {l:List V} (k:A (upd f i v) h = some (.ret v',f',h')):bQ chk i A (v :: l) f h = some (.ret v',f',h'):=by rw [jH,k]; rfl
theorem nR {n:Nat} {Y:Option (Fl × Fm × H)} (k:t f h = some (true,h₁)) (k':A f h₁ = some (.next,f',h')) (z:bM t A n f' h' = Y):bM t A (n + 1) f h = Y:=by rw [w7,k]; simp only [Option.bind_some,if_true,k']; exact z
theorem jS {n:Nat} (k:t f h = some (false,h')):bM t A (n + 1) f h = some (.next,f,h'):=by rw [w7,k]; rfl
noncomputable def Du (fl:Fl) (r:List Sx) (f:Fm) (h:H):Option (V × H):=match fl with | .next => fin (ag r f h) | .ret v => some (v,h)
theorem GD {fl:Fl} (k:s f h = some (fl,f',h')) (z:Du fl r f' h' = X):fin (ag (s :: r) f h) = X:=by
 cases fl with
 | next => exact ae k z
 | ret v => exact (aA k).trans z
theorem GB (z:fin (ag r f h) = X):Du .next r f h = X:=z
theorem GY (z:some (v,h) = X):Du (.ret v) r f h = X:=z
noncomputable def EM (fl:Fl) (r:List Sx) (f:Fm) (h:H):Option (Fl × Fm × H):=match fl with | .next => ag r f h | .ret v => some (.ret v,f,h)
theorem GI {fl:Fl} {Y:Option (Fl × Fm × H)} (k:s f h = some (fl,f',h')) (z:EM fl r f' h' = Y):ag (s :: r) f h = Y:=by
 cases fl with
 | next => exact ak k z
 | ret v => exact (aN k).trans z
theorem GH {Y:Option (Fl × Fm × H)} (z:ag r f h = Y):EM .next r f h = Y:=z
theorem Hp:EM (.ret v) r f h = some (.ret v,f,h):=rfl
theorem eH:ag [] f h = some (.next,f,h):=rfl
theorem GE {chk:H → Bool}:bQ chk i A [] f h = some (.next,f,h):=rfl
theorem Gu:zE f h = some (.next,f,h):=rfl
theorem GG:xi f h = some (.ret .none,f,h):=rfl
theorem D5 (k:t f h = some (false,h')):fO t f h = some (true,h'):=fp k
theorem EC (k:t f h = some (true,h')):fO t f h = some (false,h'):=fp k
theorem H6 {j:Int} (k:e f h = some (.int j,h')):i0 .Invert e f h = some (.int (-j - 1),h'):=by rw [At,k]; rfl
theorem HP {bo:BoolOp} (k:e f h = X):cf bo [e] f h = X:=k
theorem GW (z:some (.none,h) = X):fin (ag [] f h) = X:=z
end
theorem sj (n:Nat) {h:H} {i:Nat} {l:List V} (hi:h[i]? = some (.list l)) (hz:l.length ≤ 1000000):run ah (n + 1) "len" [.ref i] h = some (.int l.length,h):=by
 haveI e:run ah (n + 1) "len" [.ref i] h = (Bq h (.ref i)).map fun v => (v,h):=by kernel_rfl
 haveI e2:Bq h (.ref i) = some (.int l.length):=by
  show (match h[i]? with | some (.list vs) => if vs.length ≤ 1000000 then some (V.int vs.length) else none | _ => none) = _
  rw [hi]; exact if_pos hz
 rw [e,e2]; rfl
end
end
end Mine.B
section
open Mine.B
open Lean Mine in
local macro_rules (kind:=PyProof.Rows.tacticWalk_at_) | s => do
    let b:=match s[1].isStrLit?.getD "" with
      | "l" => ":A Io HV hM HM y0 jC HR yZ zL Ho Hx DV GJ Hd Gy Gw Gz kU d9 j9 sr um bV gK CY cW di BB HB CE GF EV Gv D8 Gs Bt Bf Br BO BF Cc Bw Ih:o jd tP Dm qV ui AL :r"
      | "c" => ":A Ih:A Ih:o EZ:A Ha:A Ab:A Eh:A Et:A GX:A Hu:A HK:A CN:R C5:R CV:D wW:D H5:D Fu:D HN:D HI:D HE:D HW:D HX:D HY:D"
      | "e" => "=aH =aG :A loc:R cn:el aW:eel aL:eel ar:ee cY:ee DI:ee aM:el pP:e H6:e c6:e C4:e HP:e wS:e zr:e Eg:te D9:te eN:er bL:eeb"
      | "b" => ":c :l"
      | "t" => "aq:eec aS:ec =rl =mZ D5:t EC:t iO:t H0:t dD:tt fS:tt"
      | "s" => ":A am:e aC:e =GG =Gu aD:er mT:er aT:tq tO:tq ca:Rel jl:elell qs:eelell c8:eel gT:eeel br:elg"
      | "g" => ":A =GE bE:qdg gj:q"
      | "q" => "=eH GI:sk"
      | "k" => "=Hp GH:q"
      | "F" => "GW:O GD:sn"
      | "n" => "GY:O GB:F"
      | "f" => ":w"
      | _ => ""
    if b == "" then Macro.throwUnsupported
    let r := "with_unfolding_all^rfl^Tactic.tacticRfl1/1~Tactic.withUnfoldingAll2/"
    let a := "assumption^Tactic.assumption1/"
    let o := "rfl^Tactic.tacticRfl1/"
    let mut l:=[]
    for p in b.splitOn " " do
      let u:=p.splitOn ":"
      let n:=u.head!.toList
      let mut z:=st [mkIdent (String.ofList (n.filter (· != '='))).toName] (if n == [] then "skip^Tactic.skip1/" else if n.head! == '=' then "exact^0$Tactic.exact2/" else "apply^0$Tactic.apply2/")
      if u.length == 2 then
        for c in u.getLast!.toList do
          z:=st [z] ("0$" ++ (match c with
          | 'A' => a
          | 'o' => o
          | 'r' => r
          | 'R' => a ++ r ++ "2|"
          | 'D' => a ++ "with_unfolding_all^decide^0/Tactic.optConfig1/Tactic.decide2/1~Tactic.withUnfoldingAll2/2|"
          | 'd' => "dsimp^0/Tactic.optConfig1/0/only^1/0/0/Tactic.dsimp6/" ++ a ++ "2;" ++ a ++ r ++ "3|"
          | 'O' => o ++ "skip^Tactic.skip1/2|"
          | 'w' => "with_reducible^F@1~Tactic.withReducible2/"
          | _ => c.toString ++ "@") ++ "2;")
      l:=l ++ [z]
    return stP "Tactic.first" [mkAtom "first",stN "null" (l.map stA)]
namespace Mine.B
noncomputable section
section
open PySem
theorem Ef (s:Nat) (h:s < 1000):aQ .Mult s 8 = some ((s * 8:Nat):Int):=by
 show (if small s && small 8 then some ((s:Int) * 8) else none) = _
 rw [show small s = true from by simp [small]; omega]; rfl
theorem qw (n s k:Nat) (h:H) (hs:s < 2):run ah (n + 1) "make_piece" [.int s,.int k] h = some (.int ((s * 8 + k:Nat)),h):=by
 refine (qE ..).trans ?_
 haveI:=Ef s (by omega)
 walk_at "f"
 rfl
theorem qq (n p:Nat) (h:H):run ah (n + 1) "kind_of" [.int p] h = some (.int ((p &&& 7:Nat)),h):=by
 refine (yo ..).trans ?_
 haveI:aQ .BitAnd (p:Int) 7 = some ((p &&& 7:Nat):Int):=hM p 7
 walk_at "f"
theorem pO (n p:Nat) (h:H):run ah (n + 1) "side_of" [.int p] h = some (.int ((p >>> 3:Nat)),h):=by
 refine (yp ..).trans ?_
 walk_at "f"
theorem fG (n p:Nat) (h:H) (hp0:0 < p):run ah (n + 1) "more_than_one" [.int p] h = some (.bool ((p &&& (p - 1)) != 0),h):=by
 refine (lH ..).trans ?_
 haveI e:aQ .Sub (p:Int) 1 = some ((p - 1:Nat):Int):=congrArg some (by omega)
 haveI c:∀ h,bI .NotEq (.int ((p &&& (p - 1):Nat):Int)) (.int 0) h = some ((p &&& (p - 1)) != 0):=fun h => by
  by_cases hz:p &&& (p - 1) = 0
  ·rw [hz]; rfl
  ·rw [bne_iff_ne.mpr hz]; exact wW fun q => hz (Int.ofNat.inj q)
 haveI c:=c h
 walk_at "f"
section
variable (row:List Int) (a:Int) (b:B3) (P:PS) (J:H)
noncomputable def grow (d:Nat):Bool:=d == 0 || d == 1 || d == 4 || d == 7
theorem ry (n d:Nat) (hd:d < 8) (h:H):run ah (n + 1) "is_growing" [.int d] h = some (.bool (grow d),h):=by
 refine (qx ..).trans ?_
 match d,hd with
 | 0,_ | 1,_ | 2,_ | 3,_ | 4,_ | 5,_ | 6,_ | 7,_ => kernel_rfl
noncomputable def Gb (x:Nat):Nat:=
 let x1:=x ||| x >>> 1
 let x2:=x1 ||| x1 >>> 2
 let x3:=x2 ||| x2 >>> 4
 let x4:=x3 ||| x3 >>> 8
 let x5:=x4 ||| x4 >>> 16
 x5 ||| x5 >>> 32
noncomputable def be (b:B3) (d s:Nat) (occ:Nat):Nat:=
 let ray:=fP b d s
 let stop:=ray &&& occ
 if stop = 0 then ray else if grow d then ray &&& (stop ^^^ (stop - 1)) else ray - (ray &&& Gb (stop >>> 1))
theorem gZ (n d s occ:Nat) (hd:d < 8) (hs:s < al b):run ah (n + 2) "ray_attacks" [.ref 18,.int d,.int s,.int occ] (hp row a b P J) = some (.int (be b d s occ),hp row a b P J):=by
 refine (oY ..).trans ?_
 haveI l1:=rS row a b P J d hd
 haveI l2:=rr row a b P J hd hs
 haveI l3:=ry n d hd (hp row a b P J)
 by_cases h0:fP b d s &&& occ = 0
 ·walk_at "f"
  unfold be; rw [if_pos h0]
 ·haveI hm:aQ .Sub (((fP b d s &&& occ:Nat):Int)) 1 = some (((fP b d s &&& occ) - 1:Nat):Int):=congrArg some (by omega)
  unfold be; dsimp only; rw [if_neg h0]
  cases hg:grow d with
  | true => rw [if_pos rfl]; walk_at "f"
  | false => rw [if_neg nofun]; walk_at "f"; rfl
theorem Dp (n:Nat) (h:H):run ah (n + 1) "range" [.int 4] h = some (.range 0 4 1,h):=by kernel_rfl
theorem AW (n:Nat) (h:H):run ah (n + 1) "range" [.int 4,.int 8] h = some (.range 4 8 1,h):=by kernel_rfl
theorem DH (h:H):az (.range 0 4 1) h = some [.int 0,.int 1,.int 2,.int 3]:=by kernel_rfl
theorem Ba (h:H):az (.range 4 8 1) h = some [.int 4,.int 5,.int 6,.int 7]:=by kernel_rfl
noncomputable def bC (b:B3) (s occ:Nat):Nat:=be b 0 s occ ||| be b 1 s occ ||| be b 2 s occ ||| be b 3 s occ
noncomputable def bn (b:B3) (s occ:Nat):Nat:=be b 4 s occ ||| be b 5 s occ ||| be b 6 s occ ||| be b 7 s occ
theorem cv (n s occ:Nat) (hs:s < al b):run ah (n + 3) "rook_attacks" [.ref 18,.int s,.int occ] (hp row a b P J) = some (.int (bC b s occ),hp row a b P J):=by
 refine (ny ..).trans ?_
 have k:=fun d hd => gZ row a b P J n d s occ hd hs
 haveI k0:run ah (n + 2) "ray_attacks" [.ref 18,.int 0,.int s,.int occ] (hp row a b P J) = some (.int (be b 0 s occ),hp row a b P J):=k 0 (by decide)
 haveI k1:run ah (n + 2) "ray_attacks" [.ref 18,.int 1,.int s,.int occ] (hp row a b P J) = some (.int (be b 1 s occ),hp row a b P J):=k 1 (by decide)
 haveI k2:run ah (n + 2) "ray_attacks" [.ref 18,.int 2,.int s,.int occ] (hp row a b P J) = some (.int (be b 2 s occ),hp row a b P J):=k 2 (by decide)
 haveI k3:run ah (n + 2) "ray_attacks" [.ref 18,.int 3,.int s,.int occ] (hp row a b P J) = some (.int (be b 3 s occ),hp row a b P J):=k 3 (by decide)
 haveI r:=Dp (n + 1) (hp row a b P J)
 haveI i:=DH (hp row a b P J)
 walk_at "f"
 rfl
theorem bW (n s occ:Nat) (hs:s < al b):run ah (n + 3) "bishop_attacks" [.ref 18,.int s,.int occ] (hp row a b P J) = some (.int (bn b s occ),hp row a b P J):=by
 refine (kB ..).trans ?_
 have k:=fun d hd => gZ row a b P J n d s occ hd hs
 haveI k0:run ah (n + 2) "ray_attacks" [.ref 18,.int 4,.int s,.int occ] (hp row a b P J) = some (.int (be b 4 s occ),hp row a b P J):=k 4 (by decide)
 haveI k1:run ah (n + 2) "ray_attacks" [.ref 18,.int 5,.int s,.int occ] (hp row a b P J) = some (.int (be b 5 s occ),hp row a b P J):=k 5 (by decide)
 haveI k2:run ah (n + 2) "ray_attacks" [.ref 18,.int 6,.int s,.int occ] (hp row a b P J) = some (.int (be b 6 s occ),hp row a b P J):=k 6 (by decide)
 haveI k3:run ah (n + 2) "ray_attacks" [.ref 18,.int 7,.int s,.int occ] (hp row a b P J) = some (.int (be b 7 s occ),hp row a b P J):=k 7 (by decide)
 haveI r:=AW (n + 1) (hp row a b P J)
 haveI i:=Ba (hp row a b P J)
 walk_at "f"
 rfl
end
end
section
open PySem
noncomputable def ro:B3 → List Nat
 | .b0 => [160,320,136,260,0,65,34,5,10]
 | .b1 => [32,16,128,64,2,1,8,4]
 | .b2 => [160,320,136,1284,2560,1089,2082,5,522,272,40,80]
noncomputable def zP:B3 → Nat → List Nat
 | .b0,0 => [16,40,16,128,320,128,0,0,0]
 | .b0,_ => [0,0,0,2,5,2,16,40,16]
 | .b1,0 => [8,4,32,16,128,64,0,0]
 | .b1,_ => [0,0,2,1,8,4,32,16]
 | .b2,0 => [16,40,16,128,320,128,1024,2560,1024,0,0,0]
 | .b2,_ => [0,0,0,2,5,2,16,40,16,128,320,128]
section
variable (row:List Int) (a:Int) (b:B3) (P:PS) (J:H)
noncomputable def eY (b:B3) (s occ:Nat):Nat:=bC b s occ ||| bn b s occ
theorem lF (n s occ:Nat) (hs:s < al b):run ah (n + 4) "queen_attacks" [.ref 18,.int s,.int occ] (hp row a b P J) = some (.int (eY b s occ),hp row a b P J):=by
 refine (lM ..).trans ?_
 haveI l0:=cv row a b P J n s occ hs
 haveI l1:=bW row a b P J n s occ hs
 walk_at "f"
 rfl
theorem yq (n s occ:Nat) (hs:s < al b):run ah (n + 5) "slider_attacks" [.ref 18,.int 3,.int s,.int occ] (hp row a b P J) = some (.int (bn b s occ),hp row a b P J):=by
 refine (dq ..).trans ?_
 haveI l0:=bW row a b P J (n + 1) s occ hs
 walk_at "f"
theorem ya (n s occ:Nat) (hs:s < al b):run ah (n + 5) "slider_attacks" [.ref 18,.int 4,.int s,.int occ] (hp row a b P J) = some (.int (bC b s occ),hp row a b P J):=by
 refine (dq ..).trans ?_
 haveI l0:=cv row a b P J (n + 1) s occ hs
 walk_at "f"
theorem yA (n s occ:Nat) (hs:s < al b):run ah (n + 5) "slider_attacks" [.ref 18,.int 5,.int s,.int occ] (hp row a b P J) = some (.int (eY b s occ),hp row a b P J):=by
 refine (dq ..).trans ?_
 haveI l0:=lF row a b P J n s occ hs
 walk_at "f"
theorem iJ (n:Nat):run ah (n + 1) "occupied" [.ref 42] (hp row a b P J) = some (.int ((P.s0 ||| P.s1:Nat)),hp row a b P J):=by
 refine (u7 ..).trans ?_
 walk_at "f"
theorem iI (n:Nat):run ah (n + 1) "straight_sliders" [.ref 42] (hp row a b P J) = some (.int ((P.k4 ||| P.k5:Nat)),hp row a b P J):=by
 refine (iK ..).trans ?_
 walk_at "f"
theorem iD (n:Nat):run ah (n + 1) "slanting_sliders" [.ref 42] (hp row a b P J) = some (.int ((P.k3 ||| P.k5:Nat)),hp row a b P J):=by
 refine (iU ..).trans ?_
 walk_at "f"
noncomputable def bS (P:PS) (c:Nat):Nat:=if c = 0 then P.s0 else P.s1
theorem cD {c:Nat} (hc:c < 2):aO (.ref 45) (.int c) (hp row a b P J) = some (.int (bS P c)):=by
 match c,hc with
 | 0,_ => exact Cc row a b P J
 | 1,_ => exact Bw row a b P J
theorem kf (n s c:Nat) (hs:s < al b) (hc:c < 2):run ah (n + 1) "pawn_attackers" [.ref 42,.int s,.int c] (hp row a b P J) = some (.int 0,hp row a b P J):=by
 refine (j5 ..).trans ?_
 haveI e:aQ .Sub 1 (c:Int) = some ((1 - c:Nat):Int):=congrArg some (by omega)
 haveI hp1:(zP b (1 - c)).length = al b ∧ (hp row a b P J)[24 + (1 - c)]? = some (nL (zP b (1 - c))) ∧ aO (.ref 26) (.int ((1 - c:Nat))) (hp row a b P J) = some (.ref (24 + (1 - c))):=by
  match c,hc with
  | 0,_ => rcases b with _|_|_ <;> exact ⟨rfl,rfl,rfl⟩
  | 1,_ => rcases b with _|_|_ <;> exact ⟨rfl,rfl,rfl⟩
 obtain ⟨hl,h1,h2⟩:=hp1
 haveI h3:aO (.ref (24 + (1 - c))) (.int s) (hp row a b P J) = some (.int ((zP b (1 - c)).getD s 0)):=dG h1 (by omega) (by rw [hl]; haveI:=aR b; omega)
 haveI l0:=cD row a b P J hc
 walk_at "f"
theorem dh (n s c:Nat) (hs:s < al b) (hc:c < 2):run ah (n + 2) "step_attackers" [.ref 42,.int s,.int c] (hp row a b P J) = some (.int (((cu b s &&& P.k6) &&& bS P c:Nat)),hp row a b P J):=by
 refine (kE ..).trans ?_
 haveI hl:(ro b).length = al b:=by rcases b with _|_|_ <;> rfl
 haveI h1:(hp row a b P J)[23]? = some (nL (ro b)):=by rcases b with _|_|_ <;> rfl
 haveI h3:aO (.ref 23) (.int s) (hp row a b P J) = some (.int ((ro b).getD s 0)):=dG h1 (by omega) (by rw [hl]; haveI:=aR b; omega)
 haveI l0:=w9 row a b P J hs
 haveI l1:=cD row a b P J hc
 haveI l2:=kf row a b P J n s c hs hc
 walk_at "f"
end
end
section
open PySem
section
variable (row:List Int) (a:Int) (b:B3) (P:PS) (J:H)
noncomputable def nq (b:B3) (P:PS) (s c occ:Nat):Bool:=
 ((cu b s &&& P.k6) &&& bS P c) != 0 || ((((P.k4 ||| P.k5) &&& bS P c) != 0 && (bC b s occ &&& ((P.k4 ||| P.k5) &&& bS P c)) != 0) || (((P.k3 ||| P.k5) &&& bS P c) != 0 && (bn b s occ &&& ((P.k3 ||| P.k5) &&& bS P c)) != 0))
theorem ik (n s c occ:Nat) (hs:s < al b) (hc:c < 2):run ah (n + 4) "is_attacked" [.ref 42,.int s,.int c,.int occ] (hp row a b P J) = some (.bool (nq b P s c occ),hp row a b P J):=by
 refine (oG ..).trans ?_
 haveI l1:=dh row a b P J (n + 1) s c hs hc
 haveI l2:=iI row a b P J (n + 2)
 haveI l3:=iD row a b P J (n + 2)
 haveI l4:=cD row a b P J hc
 haveI l5:=cv row a b P J n s occ hs
 haveI l6:=bW row a b P J n s occ hs
 unfold nq
 cases h1:(((cu b s &&& P.k6) &&& bS P c) != 0) with
 | true => walk_at "f"; rfl
 | false =>
  cases h2:(((P.k4 ||| P.k5) &&& bS P c) != 0) with
  | true =>
   cases h3:((bC b s occ &&& ((P.k4 ||| P.k5) &&& bS P c)) != 0) with
   | true => walk_at "f"; rfl
   | false =>
    cases h4:(((P.k3 ||| P.k5) &&& bS P c) != 0) with
    | true =>
     cases h5:((bn b s occ &&& ((P.k3 ||| P.k5) &&& bS P c)) != 0) <;> (walk_at "f"; rfl)
    | false => walk_at "f"; rfl
  | false =>
   cases h4:(((P.k3 ||| P.k5) &&& bS P c) != 0) with
   | true =>
    cases h5:((bn b s occ &&& ((P.k3 ||| P.k5) &&& bS P c)) != 0) <;> (walk_at "f"; rfl)
   | false => walk_at "f"; rfl
theorem wc {P:Nat → Prop}:∀ p,p < 0 → P p:=fun _ h => nomatch h
theorem aV {P:Nat → Prop} {n:Nat} (h:P 0) (k:∀ p,p < n → P (p + 1)):∀ p,p < n + 1 → P p
 | 0,_ => h
 | p + 1,q => k p (Nat.lt_of_succ_lt_succ q)
theorem xF (n i:Nat) (hi:i < 12) (h:H):run ah (n + 10) "highest" [.int ((1 <<< i:Nat))] h = some (.int i,h):=by
 refine (yv ..).trans ?_
 revert i
 refine aV ?_ (aV ?_ (aV ?_ (aV ?_ (aV ?_ (aV ?_ (aV ?_ (aV ?_ (aV ?_ (aV ?_ (aV ?_ (aV ?_ wc))))))))))) <;> kernel_rfl
theorem s8 (n i:Nat) (hi:i < 12) (h:H):run ah (n + 11) "lowest" [.int ((1 <<< i:Nat))] h = some (.int i,h):=by
 refine (Ao ..).trans ?_
 haveI e:ao .BitAnd (aa 0) (i0 .USub (aa 0)) (upd nf 0 (.int ((1 <<< i:Nat)))) h = some (.int ((1 <<< i:Nat)),h):=by
  revert i
  refine aV ?_ (aV ?_ (aV ?_ (aV ?_ (aV ?_ (aV ?_ (aV ?_ (aV ?_ (aV ?_ (aV ?_ (aV ?_ (aV ?_ wc))))))))))) <;> kernel_rfl
 haveI l:=xF n i hi h
 refine aA (aC (aM (ar e aG) l))
theorem bP (n c i:Nat) (hc:c < 2) (hi:i < 12) (hk:bS P c &&& P.k6 = 1 <<< i):run ah (n + 12) "king_square" [.ref 42,.int c] (hp row a b P J) = some (.int i,hp row a b P J):=by
 refine (oM ..).trans ?_
 haveI l0:=cD row a b P J hc
 haveI l1:=s8 n i hi (hp row a b P J)
 rw [← hk] at l1
 walk_at "f"
theorem ib (n c i:Nat) (hc:c < 2) (hi:i < al b) (hk:bS P c &&& P.k6 = 1 <<< i):run ah (n + 13) "in_check_of" [.ref 42,.int c] (hp row a b P J) = some (.bool (nq b P i (1 - c) (P.s0 ||| P.s1)),hp row a b P J):=by
 refine (oO ..).trans ?_
 haveI hi':i < 12:=Nat.lt_of_lt_of_le hi (aR b)
 haveI e:aQ .Sub 1 (c:Int) = some ((1 - c:Nat):Int):=congrArg some (by omega)
 haveI l0:=bP row a b P J n c i hc hi' hk
 haveI l1:=ik row a b P J (n + 8) i (1 - c) (P.s0 ||| P.s1) hi (by omega)
 walk_at "f"
theorem iY (n i:Nat) (hc:P.side < 2) (hi:i < al b) (hk:bS P P.side &&& P.k6 = 1 <<< i):run ah (n + 14) "in_check" [.ref 42] (hp row a b P J) = some (.bool (nq b P i (1 - P.side) (P.s0 ||| P.s1)),hp row a b P J):=by
 refine (vj ..).trans ?_
 haveI l0:=ib row a b P J n P.side i hc hi hk
 walk_at "f"
end
end
section
open PySem
noncomputable def cB (k x:Nat):List Nat:=(List.range k).filter fun i => x.testBit i
noncomputable def fc (x:Nat):List Nat:=cB 12 x
theorem pW (k x:Nat):cB (k + 1) x = (if x.testBit 0 then [0] else []) ++ (cB k (x >>> 1)).map (· + 1):=by
 unfold cB
 rw [List.range_succ_eq_map,List.filter_cons]
 haveI e:∀ l:List Nat,(l.map Nat.succ).filter (fun i => x.testBit i) = (l.filter fun i => (x >>> 1).testBit i).map (· + 1):=by
  intro l
  induction l with
  | nil => rfl
  | cons a l ih =>
   rw [List.map_cons,List.filter_cons,List.filter_cons,ih]
   haveI:(x >>> 1).testBit a = x.testBit (a + 1):=by rw [Nat.testBit_shiftRight]; congr 1; omega
   rw [this]
   by_cases h:x.testBit (a + 1) = true
   ·rw [if_pos h,if_pos h]; rfl
   ·rw [if_neg h,if_neg h]
 rw [e]
 by_cases h:x.testBit 0 = true
 ·rw [if_pos h,if_pos h]; rfl
 ·rw [if_neg h,if_neg h]; rfl
theorem xZ (k:Nat):cB k 0 = []:=by simp [cB]
theorem cV (h:H) (o:MO):(h ++ [o])[h.length]? = some o:=by simp
theorem Cb (h:H) (o o':MO):(h ++ [o]).set h.length o' = h ++ [o']:=by simp
theorem C1 (x:Nat):aQ .BitAnd (x:Int) 15 = some ((x &&& 15:Nat):Int):=hM x 15
theorem Dj (x:Nat):aQ .BitAnd (x:Int) 1 = some ((x &&& 1:Nat):Int):=hM x 1
noncomputable abbrev Gg (n:Nat):Sx:=bM (fO (aX (ao .BitAnd (aa 0) (ac (.int 15))))) (ag [aF 0 .RShift (ac (.int 4)),aF 2 .Add (ac (.int 4))]) n
theorem zS (h:H):∀ (m x q:Nat) (f:Fm),0 < x → x < 16 ^ m → f 0 = some (.int x) → f 2 = some (.int q) →
  ∃ j f',Gg (m + 1) f h = some (.next,f',h) ∧ f' 0 = some (.int ((x >>> (4 * j):Nat))) ∧ f' 2 = some (.int ((q + 4 * j:Nat))) ∧ f' 1 = f 1 ∧ (x >>> (4 * j)) <<< (4 * j) = x
 | 0,x,q,f,h0,h1,_,_ => by omega
 | m + 1,x,q,f,h0,h1,f0,f2 => by
  by_cases hz:x &&& 15 = 0
  ·haveI hx:x >>> 4 <<< 4 = x:=by
    rw [Nat.shiftRight_eq_div_pow,Nat.shiftLeft_eq]
    haveI:x &&& 15 = x % 16:=Nat.and_two_pow_sub_one_eq_mod x 4
    omega
   haveI hd:x >>> 4 = x / 16:=by rw [Nat.shiftRight_eq_div_pow]
   haveI hm:x % 16 = 0:=by rw [← Nat.and_two_pow_sub_one_eq_mod x 4]; exact hz
   obtain ⟨j,f',r1,r2,r3,r4,r5⟩:=zS h m (x >>> 4) (q + 4) (upd (upd f 0 (.int ((x >>> 4:Nat)))) 2 (.int ((q + 4:Nat)))) (by omega) (by rw [hd]; rw [Nat.pow_succ] at h1; omega) rfl rfl
   refine ⟨j + 1,f',?_,?_,?_,?_,?_⟩
   ·haveI hz':((x &&& 15) != 0) = false:=by simp [hz]
    haveI e4:((q:Int) + 4) = ((q + 4:Nat):Int):=by omega
    exact nR (D5 (aS (aL (loc f0) aH (C1 x)) (Ab hz'))) (ak (ca f0 aH (DV x)) (ak (ca (f:=upd f 0 _) f2 aH (congrArg some e4)) eH)) r1
   ·rw [r2]; congr 3; rw [← Nat.shiftRight_add]; congr 1; omega
   ·rw [r3]; congr 3; omega
   ·rw [r4]; simp [upd]
   ·rw [show 4 * (j + 1) = 4 + 4 * j by omega,Nat.shiftRight_add,Nat.add_comm 4 (4 * j),Nat.shiftLeft_add,r5,hx]
  ·haveI hz':((x &&& 15) != 0) = true:=by simpa [bne] using hz
   refine ⟨0,f,?_,by simpa using f0,by simpa using f2,rfl,rfl⟩
   exact jS (EC (aS (aL (loc f0) aH (C1 x)) (Ab hz')))
end
section
open PySem
theorem jL {g:G} {i k q:Nat} {f:Fm} {h h':H} {acc:List Nat} {e:Ex} (hf:f i = some (.ref k)) (hk:h[k]? = some (nL acc)) (he:e f h = some (.int q,h')) (hk':h'[k]? = some (nL acc)) (hz:acc.length ≤ 1000) :
  aZ g (aa i) "append" [e] f h = some (.none,h'.set k (nL (acc ++ [q]))):=by
 unfold aZ
 simp only [aa,hf,Option.map_some,Option.bind_some,hk,nL,bb,he]
 haveI hk2:h'[k]? = some (.list (acc.map fun (n:Nat) => V.int n)):=hk'
 unfold gv
 simp only [hk2]
 rw [if_pos ⟨trivial,by simpa using hz⟩]
 simp
theorem ol (k y:Nat):∀ t,cB (k + t) (y <<< t) = (cB k y).map (· + t)
 | 0 => by simp
 | t + 1 => by
  haveI e:k + (t + 1) = (k + t) + 1:=by omega
  rw [e,pW]
  haveI h0:(y <<< (t + 1)).testBit 0 = false:=by simp [Nat.testBit_shiftLeft]
  haveI h1:(y <<< (t + 1)) >>> 1 = y <<< t:=by
   rw [Nat.shiftRight_eq_div_pow,Nat.shiftLeft_eq,Nat.shiftLeft_eq,Nat.pow_succ,← Nat.mul_assoc]
   omega
  rw [h0,h1,ol k y t,List.map_map]
  simp only [Bool.false_eq_true,if_false,List.nil_append]
  apply List.map_congr_left
  intro a _
  show a + t + 1 = a + (t + 1)
  omega
theorem wH (x:Nat):((x &&& 1) != 0) = x.testBit 0:=by
 rw [Nat.testBit_zero,Nat.and_one_is_mod]
 haveI:=Nat.mod_two_eq_zero_or_one x
 rcases this with h | h <;> simp [h]
noncomputable abbrev Ax (g:G) (n:Nat) (m:Nat):Sx:=bM (aX (aa 0)) (ag [Gg n,aU (aX (ao .BitAnd (aa 0) (ac (.int 1)))) (ag [au (aZ g (aa 1) "append" [(aa 2)])]) (ag []),aF 0 .RShift (ac (.int 1)),aF 2 .Add (ac (.int 1))]) m
theorem xe {g:G} {n m k q:Nat} {h:H} {acc:List Nat} {f:Fm} (f0:f 0 = some (.int ((0:Nat):Int))):Ax g n (m + 1) f (h ++ [nL acc]) = some (.next,f,h ++ [nL (acc ++ (cB k 0).map (q + ·))]):=by
 rw [xZ,List.map_nil,List.append_nil]
 exact jS (aS (loc f0) (Ha rfl))
theorem A8 (g:G) (n:Nat) (h:H):∀ (m k x q:Nat) (acc:List Nat) (f:Fm),k ≤ m → k ≤ 12 → x < 2 ^ k → acc.length + k ≤ 1000 → f 0 = some (.int x) → f 1 = some (.ref h.length) → f 2 = some (.int q) →
  ∃ f',Ax g (n + 4) (m + 1) f (h ++ [nL acc]) = some (.next,f',h ++ [nL (acc ++ (cB k x).map (q + ·))]) ∧ f' 1 = some (.ref h.length):=by
 intro m
 induction m with
 | zero =>
  intro k x q acc f hm h12 hx hz f0 f1 f2
  haveI e0:k = 0:=by omega
  subst e0
  haveI e1:x = 0:=by simpa using hx
  subst e1
  exact ⟨f,xe f0,f1⟩
 | succ m' ih =>
  intro k x q acc f hm h12 hx hz f0 f1 f2
  by_cases h0:x = 0
  ·subst h0
   exact ⟨f,xe f0,f1⟩
  ·haveI hx16:x < 16 ^ (n + 3):=by
    haveI h1:(2:Nat) ^ k ≤ 2 ^ 12:=Nat.pow_le_pow_right (by omega) h12
    haveI h2:(16:Nat) ^ 3 ≤ 16 ^ (n + 3):=Nat.pow_le_pow_right (by omega) (by omega)
    haveI h3:(2:Nat) ^ 12 = 16 ^ 3:=by decide
    omega
   obtain ⟨j,fa,r1,r2,r3,r4,r5⟩:=zS (h ++ [nL acc]) (n + 3) x q f (by omega) hx16 f0 f2
   haveI hxj:0 < x >>> (4 * j):=by
    rcases Nat.eq_zero_or_pos (x >>> (4 * j)) with e | e
    ·rw [e] at r5; simp at r5; omega
    ·exact e
   haveI hjk:4 * j < k:=by
    haveI:x >>> (4 * j) = x / 2 ^ (4 * j):=Nat.shiftRight_eq_div_pow _ _
    haveI h1:2 ^ (4 * j) ≤ x:=by
     rw [this] at hxj
     exact (Nat.div_pos_iff.mp hxj).2
    exact (Nat.pow_lt_pow_iff_right (by omega)).mp (Nat.lt_of_le_of_lt h1 hx)
   haveI hbits:cB k x = ((if (x >>> (4 * j)).testBit 0 then [0] else []) ++ (cB (k - 4 * j - 1) (x >>> (4 * j) >>> 1)).map (· + 1)).map (· + 4 * j):=by
    haveI e1:k = (k - 4 * j - 1 + 1) + 4 * j:=by omega
    haveI e2:=ol (k - 4 * j - 1 + 1) (x >>> (4 * j)) (4 * j)
    rw [r5,← e1] at e2
    rw [e2,pW]
   haveI hx2:x >>> (4 * j) >>> 1 < 2 ^ (k - 4 * j - 1):=by
    rw [← Nat.shiftRight_add,Nat.shiftRight_eq_div_pow]
    rw [Nat.div_lt_iff_lt_mul (by exact Nat.two_pow_pos _),← Nat.pow_add]
    rwa [show k - 4 * j - 1 + (4 * j + 1) = k by omega]
   haveI e1:((q + 4 * j:Nat):Int) + 1 = ((q + 4 * j + 1:Nat):Int):=by omega
   haveI hq:∀ l:List Nat,(l.map (· + 1)).map (fun i => q + (i + 4 * j)) = l.map (fun i => (q + 4 * j + 1) + i):=fun l => by
    rw [List.map_map]; apply List.map_congr_left; intro a _; show q + (a + 1 + 4 * j) = _; omega
   cases hb:(x >>> (4 * j)).testBit 0 with
   | true =>
    obtain ⟨f',s1,s2⟩:=ih (k - 4 * j - 1) (x >>> (4 * j) >>> 1) (q + 4 * j + 1) (acc ++ [q + 4 * j]) (upd (upd fa 0 (.int ((x >>> (4 * j) >>> 1:Nat)))) 2 (.int ((q + 4 * j + 1:Nat)))) (by omega) (by omega) hx2 (by simp; omega) rfl (by simp [upd,r4,f1]) rfl
    refine ⟨f',?_,s2⟩
    haveI ap:=jL (g:=g) (f:=fa) (h:=h ++ [nL acc]) (h':=h ++ [nL acc]) (acc:=acc) (k:=h.length) (i:=1) (q:=q + 4 * j) (e:=aa 2) (r4.trans f1) (cV _ _) (by simp [aa,r3]) (cV _ _) (by omega)
    rw [Cb] at ap
    haveI ob:((x >>> (4 * j) &&& 1) != 0) = true:=by rw [wH]; exact hb
    haveI hl:acc ++ (cB k x).map (q + ·) = (acc ++ [q + 4 * j]) ++ (cB (k - 4 * j - 1) (x >>> (4 * j) >>> 1)).map ((q + 4 * j + 1) + ·):=by
     rw [hbits,hb,List.map_map,List.map_append,List.append_assoc]
     congr 1
     haveI:=hq (cB (k - 4 * j - 1) (x >>> (4 * j) >>> 1))
     simp only [if_true,List.map_cons,List.map_nil,List.singleton_append]
     rw [← this]
     congr 1
     simp
    rw [hl]
    exact nR (aS (loc f0) (EZ h0)) (ak r1 (ak (aT (aS (aL (loc r2) aH (Dj _)) (Ab ob)) (ak (aD ap rfl) eH)) (ak (ca r2 aH (zL _)) (ak (ca (f:=upd fa 0 _) r3 aH (congrArg some e1)) eH)))) s1
   | false =>
    obtain ⟨f',s1,s2⟩:=ih (k - 4 * j - 1) (x >>> (4 * j) >>> 1) (q + 4 * j + 1) acc (upd (upd fa 0 (.int ((x >>> (4 * j) >>> 1:Nat)))) 2 (.int ((q + 4 * j + 1:Nat)))) (by omega) (by omega) hx2 (by omega) rfl (by simp [upd,r4,f1]) rfl
    refine ⟨f',?_,s2⟩
    haveI ob:((x >>> (4 * j) &&& 1) != 0) = false:=by rw [wH]; exact hb
    haveI hl:acc ++ (cB k x).map (q + ·) = acc ++ (cB (k - 4 * j - 1) (x >>> (4 * j) >>> 1)).map ((q + 4 * j + 1) + ·):=by
     rw [hbits,hb,List.map_map]
     haveI:=hq (cB (k - 4 * j - 1) (x >>> (4 * j) >>> 1))
     simp only [Bool.false_eq_true,if_false,List.nil_append]
     rw [← this]
     congr 1
    rw [hl]
    exact nR (aS (loc f0) (EZ h0)) (ak r1 (ak (aI (aS (aL (loc r2) aH (Dj _)) (Ab ob))) (ak (ca r2 aH (zL _)) (ak (ca (f:=upd fa 0 _) r3 aH (congrArg some e1)) eH)))) s1
end
section
open PySem
theorem dN (n x:Nat) (hx:x < 4096) (h:H):run ah (n + 14) "squares_of" [.int x] h = some (.ref h.length,h ++ [nL (fc x)]):=by
 refine (rv ..).trans ?_
 obtain ⟨f',r1,r2⟩:=A8 (run ah (n + 13)) (n + 9) h (n + 12) 12 x 0 [] (upd (upd (upd nf 0 (.int x)) 1 (.ref h.length)) 2 (.int (0:Nat))) (by omega) (by omega) hx (by simp) rfl rfl rfl
 haveI e0:(List.map (fun x => 0 + x) (cB 12 x)) = fc x:=by simp [fc]
 rw [List.nil_append,e0] at r1
 haveI r1':Ax (run ah (n + 13)) (n + 13) (n + 13) (upd (upd (upd nf 0 (.int x)) 1 (.ref h.length)) 2 (.int 0)) (h ++ [.list []]) = some (.next,f',h ++ [nL (fc x)]):=r1
 exact ae (am (c6 aG)) (ae (am aH) (ae r1' (aA (aC (loc r2)))))
noncomputable def pk (o g:Nat):Nat:=g ||| o <<< 6
theorem H9 (x:Nat):aQ .BitOr (x:Int) 0 = some (x:Int):=by haveI:=y0 x 0; simpa using this
theorem uv (n o g:Nat) (ho:o ≤ 1000) (h:H):run ah (n + 1) "pack_move" [.int o,.int g,.int 0,.int 0] h = some (.int (pk o g),h):=by
 refine (sZ ..).trans ?_
 haveI e1:aQ .LShift (o:Int) 6 = some ((o <<< 6:Nat):Int):=by
  show (if (0:Int) ≤ 6 ∧ (6:Int) ≤ 1000 ∧ small o = true then some ((o:Int) * 2 ^ (6:Int).toNat) else none) = _
  rw [if_pos ⟨by decide,by decide,by simp [small]; omega⟩]
  rw [Nat.shiftLeft_eq]; push_cast; rfl
 haveI e2:aQ .LShift 0 12 = some 0:=by decide
 haveI e3:aQ .LShift 0 14 = some 0:=by decide
 haveI e4:=H9 (g ||| o <<< 6)
 walk_at "f"
 rfl
theorem eF (n m:Nat) (h:H):run ah (n + 1) "move_from" [.int m] h = some (.int ((m >>> 6 &&& 63:Nat)),h):=by
 refine (sF ..).trans ?_
 haveI e:aQ .BitAnd ((m >>> 6:Nat):Int) 63 = some ((m >>> 6 &&& 63:Nat):Int):=hM _ 63
 walk_at "f"
theorem e8 (n m:Nat) (h:H):run ah (n + 1) "move_to" [.int m] h = some (.int ((m &&& 63:Nat)),h):=by
 refine (xJ ..).trans ?_
 haveI e:aQ .BitAnd (m:Int) 63 = some ((m &&& 63:Nat):Int):=hM _ 63
 walk_at "f"
theorem gi (n m:Nat) (h:H):run ah (n + 1) "move_special" [.int m] h = some (.int ((m >>> 14 &&& 3:Nat)),h):=by
 refine (nI ..).trans ?_
 haveI e:aQ .BitAnd ((m >>> 14:Nat):Int) 3 = some ((m >>> 14 &&& 3:Nat):Int):=hM _ 3
 walk_at "f"
section
variable (row:List Int) (a:Int) (b:B3) (P:PS) (J:H)
noncomputable def dH (b:B3) (k s occ:Nat):Nat:=if k = 6 then cu b s else if k = 5 then eY b s occ else if k = 4 then bC b s occ else bn b s occ
theorem lO (n c k s occ:Nat) (hk:k = 3 ∨ k = 4 ∨ k = 5 ∨ k = 6) (hs:s < al b):run ah (n + 6) "piece_attacks" [.ref 18,.int c,.int k,.int s,.int occ] (hp row a b P J) = some (.int (dH b k s occ),hp row a b P J):=by
 refine (lC ..).trans ?_
 haveI l:=w9 row a b P J hs
 rcases hk with rfl | rfl | rfl | rfl
 ·haveI e:=yq row a b P J n s occ hs
  show fin (ag _ (upd (upd (upd (upd (upd nf 0 (.ref 18)) 1 (.int c)) 2 (.int 3)) 3 (.int s)) 4 (.int occ)) _) = _
  walk_at "f"
  rfl
 ·haveI e:=ya row a b P J n s occ hs
  show fin (ag _ (upd (upd (upd (upd (upd nf 0 (.ref 18)) 1 (.int c)) 2 (.int 4)) 3 (.int s)) 4 (.int occ)) _) = _
  walk_at "f"
  rfl
 ·haveI e:=yA row a b P J n s occ hs
  show fin (ag _ (upd (upd (upd (upd (upd nf 0 (.ref 18)) 1 (.int c)) 2 (.int 5)) 3 (.int s)) 4 (.int occ)) _) = _
  walk_at "f"
  rfl
 ·show fin (ag _ (upd (upd (upd (upd (upd nf 0 (.ref 18)) 1 (.int c)) 2 (.int 6)) 3 (.int s)) 4 (.int occ)) _) = _
  walk_at "f"
  rfl
theorem lc {g:G} {x i:Nat} {e:Ex} {body:Sx} (hb:body = ag [au (aZ g (aa i) "append" [e])]) (hxi:i ≠ x) (chk:H → Bool) (val:Nat → Nat) :
  ∀ (l:List Nat) (acc:List Nat) (f:Fm) (h:H) (k:Nat),f i = some (.ref k) → h[k]? = some (nL acc) → acc.length + l.length ≤ 1000 →
   (∀ (f':Fm) (h':H) (q:Nat),q ∈ l → (∀ j,j ≠ x → f' j = f j) → f' x = some (.int q) → e f' h' = some (.int (val q),h')) → (∀ acc',chk (h.set k (nL acc')) = true) →
   ∃ f',bQ chk x body (l.map fun (n:Nat) => V.int n) f h = some (.next,f',h.set k (nL (acc ++ l.map val))) ∧ ∀ j,j ≠ x → f' j = f j
 | [],acc,f,h,k,_,hk,_,_,_ => by
  refine ⟨f,?_,fun _ _ => rfl⟩
  haveI hlt:=(List.getElem?_eq_some_iff.mp hk).1
  have he:h[k] = nL acc:=(List.getElem?_eq_some_iff.mp hk).2
  simp only [List.map_nil,bQ,List.append_nil]
  rw [← he,List.set_getElem_self]
 | q :: l,acc,f,h,k,hf,hk,hz,he,hc => by
  haveI hlt:=(List.getElem?_eq_some_iff.mp hk).1
  haveI e1:=he (upd f x (.int q)) h q (.head _) (fun j hj => by simp [upd,hj]) (by simp [upd])
  haveI ap:=jL (g:=g) (f:=upd f x (.int q)) (i:=i) (h:=h) (h':=h) (acc:=acc) (k:=k) (q:=val q) (e:=e) (by simp [upd,hxi,hf]) hk e1 hk (by simp at hz; omega)
  haveI hk2:(h.set k (nL (acc ++ [val q])))[k]? = some (nL (acc ++ [val q])):=by simp [hlt]
  obtain ⟨f',r1,r2⟩:=lc hb hxi chk val l (acc ++ [val q]) (upd f x (.int q)) (h.set k (nL (acc ++ [val q]))) k (by simp [upd,hxi,hf]) hk2 (by simp at hz ⊢; omega)
   (fun f'' h'' q' hq' ha hb' => he f'' h'' q' (.tail _ hq') (fun j hj => (ha j hj).trans (by simp [upd,hj])) hb') (fun acc' => by rw [List.set_set]; exact hc acc')
  refine ⟨f',?_,fun j hj => (r2 j hj).trans (by simp [upd,hj])⟩
  simp only [List.map_cons,bQ]
  haveI one:body (upd f x (.int q)) h = some (.next,upd f x (.int q),h.set k (nL (acc ++ [val q]))):=by
   rw [hb]
   simp only [ej,qT,lU,ap,Option.bind_some,qp,Bool.false_eq_true,if_false]
  rw [one]
  simp only [Option.bind_some,hc,if_true]
  rw [r1,List.set_set,List.append_assoc]
  rfl
end
end
section
open PySem
structure Grow (i:Nat) (J J':H):Prop where
 len:J.length ≤ J'.length
 keep:∀ j,j < J.length → j ≠ i → J'[j]? = J[j]?
theorem Grow.refl (i:Nat) (J:H):Grow i J J:=⟨Nat.le_refl _,fun _ _ _ => rfl⟩
theorem Grow.trans {i:Nat} {J J' J'':H} (x:Grow i J J') (y:Grow i J' J''):Grow i J J'':=
 ⟨Nat.le_trans x.len y.len,fun j hj hi => (y.keep j (Nat.lt_of_lt_of_le hj x.len) hi).trans (x.keep j hj hi)⟩
theorem Grow.app (i:Nat) (J G:H):Grow i J (J ++ G):=⟨by simp,fun j hj _ => by rw [List.getElem?_append_left hj]⟩
theorem Grow.set {i:Nat} {J:H} (o:MO):Grow i J (J.set i o):=⟨by simp,fun j _ hi => by rw [List.getElem?_set_ne (Ne.symm hi)]⟩
section
variable (row:List Int) (a:Int) (b:B3) (P:PS)
theorem rK (x:Nat):(fc x).length ≤ 12:=by
 unfold fc cB
 exact Nat.le_trans (List.length_filter_le _ _) (by simp)
theorem rH {x q:Nat} (h:q ∈ fc x):q < 12 ∧ x.testBit q = true:=by
 unfold fc cB at h
 rw [List.mem_filter,List.mem_range] at h
 exact h
theorem wD {x q:Nat}:q ∈ fc x ↔ q < 12 ∧ x.testBit q = true:=by
 unfold fc cB
 rw [List.mem_filter,List.mem_range]
theorem uw (n o x i:Nat) (J:H) (acc:List Nat) (ho:o < 12) (hx:x < 4096) (hi:J[i]? = some (nL acc)) (hz:acc.length + 12 ≤ 1000) :
  ∃ J',run ah (n + 15) "add_goals" [.int o,.int x,.ref (47 + i)] (hp row a b P J) = some (.none,hp row a b P J') ∧ J'[i]? = some (nL (acc ++ (fc x).map (pk o))) ∧ Grow i J J':=by
 rw [t7]
 haveI hil:i < J.length:=(List.getElem?_eq_some_iff.mp hi).1
 haveI hlen:=cH row a b P J
 haveI hk:(hp row a b P J ++ [nL (fc x)])[47 + i]? = some (nL acc):=by
  rw [kW,eM,List.getElem?_append_left hil,hi]
 haveI hne:47 + i ≠ (hp row a b P J).length:=by rw [hlen]; omega
 obtain ⟨f',r1,_⟩:=lc (g:=run ah (n + 14)) (x:=3) (i:=2) (e:=af (run ah (n + 14)) "pack_move" [aa 0,aa 3,ac (.int 0),ac (.int 0)]) rfl (by decide)
  (fun h' => stays (.ref (hp row a b P J).length) (hp row a b P J ++ [nL (fc x)]) h') (pk o) (fc x) acc (upd (upd (upd nf 0 (.int o)) 1 (.int x)) 2 (.ref (47 + i))) (hp row a b P J ++ [nL (fc x)]) (47 + i) rfl hk (by haveI:=rK x; omega)
  (fun f' h' q hq hf hfx => by
   haveI h0:f' 0 = some (.int o):=(hf 0 (by decide)).trans rfl
   exact aM (ar (loc h0) (ar (loc hfx) (ar aH (ar aH aG)))) (uv (n + 13) o q (by omega) h'))
  (fun acc' => by simp only [stays]; rw [List.getElem?_set_ne hne]; simp)
 haveI hit:az (.ref (hp row a b P J).length) (hp row a b P J ++ [nL (fc x)]) = some ((fc x).map fun (n:Nat) => V.int n):=by
  simp only [az,cV,nL]
 refine ⟨(J ++ [nL (fc x)]).set i (nL (acc ++ (fc x).map (pk o))),?_,?_,(Grow.app i J [nL (fc x)]).trans (Grow.set _)⟩
 ·unfold ld
  haveI sq:=dN n x hx (hp row a b P J)
  refine (ae (br (aM (ar (loc rfl) aG) sq) hit r1) xc).trans ?_
  rw [kW,BL]
 ·rw [List.getElem?_set_self (by simp; omega)]
end
end
section
open PySem
section
variable (row:List Int) (a:Int) (b:B3) (P:PS)
noncomputable def iH (P:PS) (k:Nat):Nat:=if k = 3 then P.k3 else if k = 4 then P.k4 else if k = 5 then P.k5 else if k = 6 then P.k6 else 0
theorem zQ (J:H) {k:Nat} (hk:k = 2 ∨ k = 3 ∨ k = 4 ∨ k = 5 ∨ k = 6):aO (.ref 44) (.int k) (hp row a b P J) = some (.int (iH P k)):=by
 rcases hk with rfl | rfl | rfl | rfl | rfl
 ·exact Bt row a b P J
 ·exact Bf row a b P J
 ·exact Br row a b P J
 ·exact BO row a b P J
 ·exact BF row a b P J
theorem yS (n c k:Nat) (J:H) (hc:c < 2) (hk:k = 2 ∨ k = 3 ∨ k = 4 ∨ k = 5 ∨ k = 6):run ah (n + 1) "pieces" [.ref 42,.int c,.int k] (hp row a b P J) = some (.int ((bS P c &&& iH P k:Nat)),hp row a b P J):=by
 refine (tv ..).trans ?_
 haveI l1:=cD row a b P J hc
 haveI l2:=zQ row a b P J hk
 walk_at "f"
noncomputable def eC (b:B3) (k occ t o:Nat):List Nat:=(fc (dH b k o occ &&& t)).map (pk o)
theorem pL (b:B3) (k occ t o:Nat):(eC b k occ t o).length ≤ 12:=by
 unfold eC
 rw [List.length_map]
 exact rK _
theorem ot (g:G) (n k occ t i:Nat) (hg:g = run ah (n + 15)) (hk:k = 3 ∨ k = 4 ∨ k = 5 ∨ k = 6) (ht:t < 4096) (chk:H → Bool) :
  ∀ (l:List Nat) (J:H) (acc:List Nat) (f:Fm),f 0 = some (.ref 42) → f 1 = some (.int k) → f 2 = some (.int t) → f 3 = some (.ref (47 + i)) → f 4 = some (.int occ) → J[i]? = some (nL acc) → acc.length + 12 * l.length ≤ 900 →
   (∀ q ∈ l,q < al b) → (∀ J',Grow i J J' → chk (hp row a b P J') = true) →
   ∃ f' J',bQ chk 5 (ag [aj 6 (af g "piece_attacks" [(ai (aa 0) "geo"),(ai (aa 0) "side"),(aa 1),(aa 5),(aa 4)]),au (af g "add_goals" [(aa 5),(ao .BitAnd (aa 6) (aa 2)),(aa 3)])])
    (l.map fun (n:Nat) => V.int n) f (hp row a b P J) = some (.next,f',hp row a b P J') ∧ J'[i]? = some (nL (acc ++ l.flatMap (eC b k occ t))) ∧ Grow i J J'
 | [],J,acc,f,_,_,_,_,_,hi,_,_,_ => ⟨f,J,rfl,by simpa using hi,.refl _ _⟩
 | q :: l,J,acc,f,f0,f1,f2,f3,f4,hi,hz,hl,hc => by
  have hq:=hl q (.head _)
  haveI hx:dH b k q occ &&& t < 4096:=Nat.lt_of_le_of_lt Nat.and_le_right ht
  obtain ⟨J1,r1,r2,r3⟩:=uw row a b P n q (dH b k q occ &&& t) i J acc (Nat.lt_of_lt_of_le hq (aR b)) hx hi (by simp at hz; omega)
  haveI hlen:(eC b k occ t q).length ≤ 12:=pL _ _ _ _ _
  obtain ⟨f',J',s1,s2,s3⟩:=ot g n k occ t i hg hk ht chk l J1 (acc ++ eC b k occ t q) (upd (upd f 5 (.int q)) 6 (.int (dH b k q occ))) (by simp [upd,f0]) (by simp [upd,f1]) (by simp [upd,f2]) (by simp [upd,f3]) (by simp [upd,f4]) r2
   (by simp at hz ⊢; omega) (fun q' h' => hl q' (.tail _ h')) (fun J' g' => hc J' (r3.trans g'))
  refine ⟨f',J',?_,by rw [s2,List.flatMap_cons,List.append_assoc],r3.trans s3⟩
  haveI pa:=lO row a b P J (n + 9) P.side k q occ hk hq
  subst hg
  exact bE (ak (am (aM (ar (cn (loc f0) (j9 ..)) (ar (cn (loc f0) (bV ..)) (ar (loc f1) (ar (loc rfl) (ar (loc f4) aG))))) pa)) (ak (aD (aM (ar (loc rfl) (ar (aL (loc rfl) (loc f2) (hM _ _)) (ar (loc f3) aG))) r1) rfl) eH)) (hc J1 r3) s1
theorem d8 (n k t i:Nat) (J:H) (acc:List Nat) (hk:k = 2 ∨ k = 3 ∨ k = 4 ∨ k = 5 ∨ k = 6) (ht:t < 4096) (hs:P.side < 2) (hi:J[i]? = some (nL acc)) (hz:acc.length ≤ 700) (hx:bS P P.side &&& iH P k < 4096) (hb:∀ q ∈ fc (bS P P.side &&& iH P k),q < al b) :
  ∃ J',run ah (n + 16) "add_piece_moves" [.ref 42,.int k,.int t,.ref (47 + i)] (hp row a b P J) = some (.none,hp row a b P J') ∧ J'[i]? = some (nL (acc ++ (fc (bS P P.side &&& iH P k)).flatMap (eC b k (P.s0 ||| P.s1) t))) ∧ Grow i J J':=by
 rw [jG]
 haveI hil:i < J.length:=(List.getElem?_eq_some_iff.mp hi).1
 haveI hlen:=cH row a b P J
 let S:=nL (fc (bS P P.side &&& iH P k))
 haveI hit:az (.ref (hp row a b P J).length) (hp row a b P J ++ [S]) = some ((fc (bS P P.side &&& iH P k)).map fun (n:Nat) => V.int n):=by
  simp only [az,cV,nL,S]
 haveI sq:=dN (n + 1) (bS P P.side &&& iH P k) hx (hp row a b P J)
 haveI pc:=yS row a b P (n + 14) P.side k J hs hk
 haveI oc:=iJ row a b P J (n + 14)
 haveI hi':(J ++ [S])[i]? = some (nL acc):=by rw [List.getElem?_append_left hil,hi]
 haveI loop:∃ f' J',bQ (fun h' => stays (.ref (hp row a b P J).length) (hp row a b P J ++ [S]) h') 5 (ag [aj 6 (af (run ah (n + 15)) "piece_attacks" [(ai (aa 0) "geo"),(ai (aa 0) "side"),(aa 1),(aa 5),(aa 4)]),au (af (run ah (n + 15)) "add_goals" [(aa 5),(ao .BitAnd (aa 6) (aa 2)),(aa 3)])])
    ((fc (bS P P.side &&& iH P k)).map fun (n:Nat) => V.int n) (upd (upd (upd (upd (upd nf 0 (.ref 42)) 1 (.int k)) 2 (.int t)) 3 (.ref (47 + i))) 4 (.int ((P.s0 ||| P.s1:Nat)))) (hp row a b P (J ++ [S])) = some (.next,f',hp row a b P J') ∧ J'[i]? = some (nL (acc ++ (fc (bS P P.side &&& iH P k)).flatMap (eC b k (P.s0 ||| P.s1) t))) ∧ Grow i (J ++ [S]) J':=by
  rcases hk with rfl | hk
  ·haveI e0:fc (bS P P.side &&& iH P 2) = []:=by show fc (_ &&& 0) = []; rw [Nat.and_zero]; rfl
   rw [e0]
   exact ⟨_,_,rfl,by simpa using hi',.refl _ _⟩
  ·refine ot row a b P (run ah (n + 15)) n k (P.s0 ||| P.s1) t i rfl hk ht _ _ _ acc _ rfl rfl rfl rfl rfl hi' (by haveI:=rK (bS P P.side &&& iH P k); omega) hb (fun J' g' => ?_)
   simp only [stays]
   haveI h1:(hp row a b P J).length = 47 + J.length:=hlen
   rw [h1,kW,eM,eM,g'.keep J.length (by simp) (by omega)]
   simp
 obtain ⟨f',J',r1,r2,r3⟩:=loop
 refine ⟨J',?_,r2,(Grow.app i J [S]).trans r3⟩
 rw [← kW] at r1
 exact ae (am (aM (ar (loc rfl) aG) oc)) (ae (br (aM (ar (aM (ar (loc rfl) (ar (cn (loc rfl) (bV ..)) (ar (loc rfl) aG))) pc) aG) sq) hit r1) xc)
end
end
section
open PySem
theorem GP:fc 0 = []:=by decide
section
variable (row:List Int) (a:Int) (b:B3) (P:PS) (J:H)
noncomputable def Fh (b:B3) (c:Nat):Int:=if c = 0 then cM b else -(cM b:Int)
noncomputable def C8 (b:B3) (c:Nat):Nat:=match b,c with
 | .b0,0 => 448 | .b0,_ => 7 | .b1,0 => 192 | .b1,_ => 3 | .b2,0 => 3584 | .b2,_ => 7
theorem d7 (n c:Nat) (hc:c < 2):run ah (n + 1) "push_step" [.ref 18,.int c] (hp row a b P J) = some (.int (Fh b c),hp row a b P J):=by
 refine (tH ..).trans ?_
 match c,hc with
 | 0,_ | 1,_ => rcases b with _|_|_ <;> kernel_rfl
theorem gA (n c:Nat) (hc:c < 2):run ah (n + 1) "last_mask" [.ref 18,.int c] (hp row a b P J) = some (.int (C8 b c),hp row a b P J):=by
 refine (tN ..).trans ?_
 match c,hc with
 | 0,_ | 1,_ => rcases b with _|_|_ <;> kernel_rfl
theorem oK (n c:Nat) (hc:c < 2):run ah (n + 1) "shift_push" [.ref 18,.int 0,.int c] (hp row a b P J) = some (.int 0,hp row a b P J):=by
 refine (qY ..).trans ?_
 match c,hc with
 | 0,_ | 1,_ => rcases b with _|_|_ <;> kernel_rfl
theorem fk (n c w:Nat) (hc:c < 2) (hw:w < 2):run ah (n + 2) "shift_capture" [.ref 18,.int 0,.int c,.int w] (hp row a b P J) = some (.int 0,hp row a b P J):=by
 refine (lK ..).trans ?_
 match w,hw with
 | 0,_ | 1,_ =>
  match c,hc with
  | 0,_ | 1,_ => rcases b with _|_|_ <;> kernel_rfl
theorem wt (n c:Nat) (hc:c < 2):run ah (n + 1) "pieces" [.ref 42,.int c,.int 1] (hp row a b P J) = some (.int 0,hp row a b P J):=by
 refine (tv ..).trans ?_
 haveI l1:=cD row a b P J hc
 walk_at "f"
theorem fT (n c:Nat) (hc:c < 2):run ah (n + 2) "push_targets" [.ref 42,.int c] (hp row a b P J) = some (.tup [0,0],hp row a b P J):=by
 refine (oz ..).trans ?_
 haveI l1:=iJ row a b P J n
 haveI l2:=wt row a b P J n c hc
 haveI l3:=oK row a b P J n c hc
 walk_at "f"
noncomputable def lJ (b:B3) (P:PS) (st:Nat):Nat:=if st = 0 then bS P (1 - P.side) else if st = 1 then dJ b - (dJ b &&& (P.s0 ||| P.s1)) else dJ b - (dJ b &&& bS P P.side)
theorem m9 (n st:Nat) (hs:P.side < 2) (hst:st < 4):run ah (n + 2) "stage_target" [.ref 42,.int st] (hp row a b P J) = some (.int (lJ b P st),hp row a b P J):=by
 refine (nS ..).trans ?_
 haveI e:aQ .Sub 1 (P.side:Int) = some ((1 - P.side:Nat):Int):=congrArg some (by omega)
 haveI l1:=cD row a b P J (show 1 - P.side < 2 by omega)
 haveI l2:=cD row a b P J hs
 haveI l3:=iJ row a b P J n
 match st,hst with
 | 0,_ =>
  show fin (ag _ (upd (upd nf 0 (.ref 42)) 1 (.int 0)) _) = _
  walk_at "f"
  rfl
 | 1,_ =>
  show fin (ag _ (upd (upd nf 0 (.ref 42)) 1 (.int 1)) _) = _
  walk_at "f"
  rfl
 | 2,_ =>
  show fin (ag _ (upd (upd nf 0 (.ref 42)) 1 (.int 2)) _) = _
  walk_at "f"
  rfl
 | 3,_ =>
  show fin (ag _ (upd (upd nf 0 (.ref 42)) 1 (.int 3)) _) = _
  walk_at "f"
  rfl
end
end
section
open PySem
theorem FS (n:Nat) (h:H):run ah (n + 14) "squares_of" [.int 0] h = some (.ref h.length,h ++ [nL []]):=by
 haveI:=dN n 0 (by decide) h
 rw [GP] at this
 exact this
theorem H7 (h:H):az (.ref h.length) (h ++ [nL []]) = some []:=by simp only [az,cV,nL,List.map_nil]
section
variable (row:List Int) (a:Int) (b:B3) (P:PS) (J:H)
theorem qi (n:Nat) (J:H):run ah (n + 14) "squares_of" [.int 0] (hp row a b P J) = some (.ref (hp row a b P J).length,hp row a b P (J ++ [nL []])):=by rw [← kW]; exact FS n _
theorem ES (J:H):az (.ref (hp row a b P J).length) (hp row a b P (J ++ [nL []])) = some []:=by rw [← kW]; exact H7 _
theorem iP (n t:Nat) (o:V) (hs:P.side < 2):run ah (n + 15) "add_plain_pushes" [.ref 42,.int t,o] (hp row a b P J) = some (.none,hp row a b P (J ++ [nL [],nL []])):=by
 refine (iT ..).trans ?_
 haveI s1:=qi row a b P n J
 haveI i1:=ES row a b P J
 haveI s2:=qi row a b P n (J ++ [nL []])
 haveI i2:=ES row a b P (J ++ [nL []])
 haveI l1:=d7 row a b P J (n + 13) P.side hs
 haveI l2:=fT row a b P J (n + 12) P.side hs
 haveI l3:=gA row a b P J (n + 13) P.side hs
 rw [List.append_assoc] at s2 i2
 walk_at "f"
 rfl
theorem bD (n t:Nat) (st o:V) (hs:P.side < 2):run ah (n + 15) "add_push_promotions" [.ref 42,st,.int t,o] (hp row a b P J) = some (.none,hp row a b P (J ++ [nL []])):=by
 refine (fM ..).trans ?_
 haveI s1:=qi row a b P n J
 haveI i1:=ES row a b P J
 haveI g0:aO (.tup [0,0]) (.int 0) (hp row a b P J) = some (.int 0):=rfl
 haveI l1:=d7 row a b P J (n + 13) P.side hs
 haveI l2:=fT row a b P J (n + 12) P.side hs
 haveI l3:=gA row a b P J (n + 13) P.side hs
 walk_at "f"
theorem cE (n t:Nat) (st o:V) (hs:P.side < 2):run ah (n + 15) "add_pawn_captures" [.ref 42,st,.int t,o] (hp row a b P J) = some (.none,hp row a b P (J ++ [.list [.int 0,.int 1],nL [],nL []])):=by
 refine (gU ..).trans ?_
 haveI e:aQ .Sub 1 (P.side:Int) = some ((1 - P.side:Nat):Int):=congrArg some (by omega)
 haveI l1:=gA row a b P J (n + 13) P.side hs
 haveI l2:=wt row a b P J (n + 13) P.side hs
 haveI l3:=cD row a b P J (show 1 - P.side < 2 by omega)
 have at':∀ G:H,(hp row a b P (J ++ [.list [.int 0,.int 1]] ++ G))[(hp row a b P J).length]? = some (.list [.int 0,.int 1]):=fun G => by
  rw [cH,eM,List.append_assoc]; simp
 have at1:(hp row a b P (J ++ [.list [.int 0,.int 1]]))[(hp row a b P J).length]? = some (.list [.int 0,.int 1]):=by haveI:=at' []; rwa [List.append_nil] at this
 have eE:J ++ [.list [.int 0,.int 1],nL [],nL []] = J ++ [.list [.int 0,.int 1]] ++ [nL [],nL []]:=by rw [List.append_assoc]; rfl
 rw [eE]
 have hl:∀ f,aP [ac (.int 0),ac (.int 1)] f (hp row a b P J) = some (.ref (hp row a b P J).length,hp row a b P (J ++ [.list [.int 0,.int 1]])):=fun f => (c6 (ar aH (ar aH aG))).trans (by rw [kW])
 haveI hit:az (.ref (hp row a b P J).length) (hp row a b P (J ++ [.list [.int 0,.int 1]])) = some [.int 0,.int 1]:=by rw [← kW]; simp only [az,cV]
 have ch:∀ G:H,stays (.ref (hp row a b P J).length) (hp row a b P (J ++ [.list [.int 0,.int 1]])) (hp row a b P (J ++ [.list [.int 0,.int 1]] ++ G)) = true:=fun G => by simp only [stays,at1,at',decide_true]
 clear eE
 generalize (J ++ [.list [.int 0,.int 1]]:H) = J1 at at' at1 hl hit ch
 haveI s1:=qi row a b P n J1
 haveI i1:=ES row a b P J1
 haveI s2:=qi row a b P n (J1 ++ [nL []])
 haveI i2:=ES row a b P (J1 ++ [nL []])
 rw [List.append_assoc] at s2 i2
 have mul2:∀ w:Int,small w = true → aQ .Mult 2 w = some (2 * w):=fun w hw => by
  show (if small 2 && small w then some ((2:Int) * w) else none) = _
  rw [hw]; rfl
 haveI c0:run ah (n + 14) "shift_capture" [.ref 18,.int 0,.int P.side,.int 0] (hp row a b P J1) = some (.int 0,hp row a b P J1):=fk row a b P J1 (n + 12) P.side 0 hs (by decide)
 haveI c1:run ah (n + 14) "shift_capture" [.ref 18,.int 0,.int P.side,.int 1] (hp row a b P (J1 ++ [nL []])) = some (.int 0,hp row a b P (J1 ++ [nL []])):=fk row a b P (J1 ++ [nL []]) (n + 12) P.side 1 hs (by decide)
 haveI ch1:=ch [nL []]
 haveI ch2:=ch ([nL []] ++ [nL []])
 haveI m0:=mul2 0 rfl
 haveI m1:=mul2 1 rfl
 haveI p1:=d7 row a b P J1 (n + 13) P.side hs
 haveI p2:=d7 row a b P (J1 ++ [nL []]) (n + 13) P.side hs
 haveI hl:=hl (upd (upd (upd (upd (upd (upd (upd (upd (upd nf 0 (.ref 42)) 1 st) 2 (.int t)) 3 o) 4 (.ref 18)) 5 (.int P.side)) 6 (.int (C8 b P.side))) 7 (.int 0)) 8 (.int ((t &&& bS P (1 - P.side):Nat))))
 walk_at "f"
 rfl
theorem fj (n st t:Nat) (o:V) (hs:P.side < 2) (hst:st < 4):∃ G,run ah (n + 16) "add_pawn_moves" [.ref 42,.int st,.int t,o] (hp row a b P J) = some (.none,hp row a b P (J ++ G)):=by
 rw [jM]
 haveI p1:=iP row a b P J n t o hs
 match st,hst with
 | 0,_ =>
  haveI p2:=bD row a b P J n t (.int 0) o hs
  haveI p3:=cE row a b P (J ++ [nL []]) n t (.int 0) o hs
  rw [List.append_assoc] at p3
  refine ⟨[nL []] ++ [.list [.int 0,.int 1],nL [],nL []],?_⟩
  show fin (ag _ (upd (upd (upd (upd nf 0 (.ref 42)) 1 (.int 0)) 2 (.int t)) 3 o) _) = _
  walk_at "f"
 | 1,_ =>
  haveI p2:=bD row a b P (J ++ [nL [],nL []]) n t (.int 1) o hs
  rw [List.append_assoc] at p2
  refine ⟨[nL [],nL []] ++ [nL []],?_⟩
  show fin (ag _ (upd (upd (upd (upd nf 0 (.ref 42)) 1 (.int 1)) 2 (.int t)) 3 o) _) = _
  walk_at "f"
 | 2,_ =>
  haveI p2:=bD row a b P (J ++ [nL [],nL []]) n t (.int 2) o hs
  haveI p3:=cE row a b P (J ++ [nL [],nL []] ++ [nL []]) n t (.int 2) o hs
  simp only [List.append_assoc] at p2 p3
  refine ⟨[nL [],nL []] ++ ([nL []] ++ [.list [.int 0,.int 1],nL [],nL []]),?_⟩
  show fin (ag _ (upd (upd (upd (upd nf 0 (.ref 42)) 1 (.int 2)) 2 (.int t)) 3 o) _) = _
  walk_at "f"
 | 3,_ =>
  haveI p2:=bD row a b P (J ++ [nL [],nL []]) n t (.int 3) o hs
  haveI p3:=cE row a b P (J ++ [nL [],nL []] ++ [nL []]) n t (.int 3) o hs
  simp only [List.append_assoc] at p2 p3
  refine ⟨[nL [],nL []] ++ ([nL []] ++ [.list [.int 0,.int 1],nL [],nL []]),?_⟩
  show fin (ag _ (upd (upd (upd (upd nf 0 (.ref 42)) 1 (.int 3)) 2 (.int t)) 3 o) _) = _
  walk_at "f"
end
end
section
open PySem
section
variable (row:List Int) (a:Int) (b:B3) (P:PS) (J:H)
theorem eU (n i:Nat) (hi:i < 4):run ah (n + 1) "castle_refusal" [.ref 42,.int i] (hp row a b P J) = some (.int 1,hp row a b P J):=by
 refine (jR ..).trans ?_
 haveI e:aO (.ref 27) (.int i) (hp row a b P J) = some .none:=by
  match i,hi with
  | 0,_ | 1,_ | 2,_ | 3,_ => rcases b with _|_|_ <;> rfl
 haveI c:bI .Is .none .none (hp row a b P J) = some true:=rfl
 walk_at "f"
theorem nP (n:Nat) (o:V) (hs:P.side < 2):run ah (n + 2) "add_castling" [.ref 42,o] (hp row a b P J) = some (.none,hp row a b P (J ++ [.list [.int ((2 * P.side:Nat)),.int ((2 * P.side + 1:Nat))]])):=by
 refine (nv ..).trans ?_
 haveI m:aQ .Mult 2 (P.side:Int) = some ((2 * P.side:Nat):Int):=by
  show (if small 2 && small (P.side:Int) then some ((2:Int) * P.side) else none) = _
  haveI:small (P.side:Int) = true:=by simp [small]; omega
  rw [this]; rfl
 haveI e:aQ .Add ((2 * P.side:Nat):Int) 1 = some ((2 * P.side + 1:Nat):Int):=rfl
 haveI hit:az (.ref (hp row a b P J).length) (hp row a b P (J ++ [.list [.int ((2 * P.side:Nat)),.int ((2 * P.side + 1:Nat))]])) = some [.int ((2 * P.side:Nat)),.int ((2 * P.side + 1:Nat))]:=by rw [← kW]; simp only [az,cV]
 haveI hl:aP [ao .Mult (ac (.int 2)) (ai (aa 0) "side"),ao .Add (ao .Mult (ac (.int 2)) (ai (aa 0) "side")) (ac (.int 1))] (upd (upd nf 0 (.ref 42)) 1 o) (hp row a b P J) = some (.ref (hp row a b P J).length,hp row a b P (J ++ [.list [.int ((2 * P.side:Nat)),.int ((2 * P.side + 1:Nat))]])):=by
  rw [← kW]
  refine c6 ?_
  walk_at "e"
 haveI r1:=eU row a b P (J ++ [.list [.int ((2 * P.side:Nat)),.int ((2 * P.side + 1:Nat))]]) n (2 * P.side) (by omega)
 haveI r2:=eU row a b P (J ++ [.list [.int ((2 * P.side:Nat)),.int ((2 * P.side + 1:Nat))]]) n (2 * P.side + 1) (by omega)
 generalize hp row a b P (J ++ [.list [.int ((2 * P.side:Nat)),.int ((2 * P.side + 1:Nat))]]) = H1 at hit hl r1 r2
 haveI ch:stays (.ref (hp row a b P J).length) H1 H1 = true:=by simp [stays]
 walk_at "f"
theorem km (n:Nat) (o:V):run ah (n + 1) "add_en_passant" [.ref 42,o] (hp row a b P J) = some (.none,hp row a b P J):=by
 refine (kc ..).trans ?_
 walk_at "f"
theorem rk (n:Nat) (t:V):run ah (n + 1) "may_answer_en_passant" [.ref 42,t] (hp row a b P J) = some (.bool false,hp row a b P J):=by
 refine (e9 ..).trans ?_
 walk_at "f"
noncomputable def AD (b:B3) (s q d:Nat):Bool:=((fP b d s >>> q) &&& 1) != 0
noncomputable def Cd (b:B3) (s q:Nat):Option Nat:=[0,1,2,3,4,5,6,7].find? (AD b s q)
theorem th (g:G) (s q:Nat) (hs:s < al b) (chk:H → Bool) (hc:chk (hp row a b P J) = true):∀ (l:List Nat) (f:Fm),(∀ d ∈ l,d < 8) → f 0 = some (.ref 18) → f 1 = some (.int s) → f 2 = some (.int q) →
  ∃ f',bQ chk 3 (ag [aU (aX (ao .BitAnd (ao .RShift (av (av (ai (aa 0) "rays") (aa 3)) (aa 1)) (aa 2)) (ac (.int 1)))) (ag [aw (aa 3)]) (ag [])]) (l.map fun (n:Nat) => V.int n) f (hp row a b P J)
   = some (match l.find? (AD b s q) with | some d => .ret (.int d) | none => .next,f',hp row a b P J)
 | [],f,_,_,_,_ => ⟨f,rfl⟩
 | d :: l,f,hl,f0,f1,f2 => by
  haveI hd:=hl d (.head _)
  obtain ⟨f',r⟩:=th g s q hs chk hc l (upd f 3 (.int d)) (fun x hx => hl x (.tail _ hx)) (by simp [upd,f0]) (by simp [upd,f1]) (by simp [upd,f2])
  have tst:aX (ao .BitAnd (ao .RShift (av (av (ai (aa 0) "rays") (aa 3)) (aa 1)) (aa 2)) (ac (.int 1))) (upd f 3 (.int d)) (hp row a b P J) = some (AD b s q d,hp row a b P J):=
   aS (aL (aL (aW (aW (cn (loc f0) (CE ..)) (loc rfl) (rS row a b P J d hd)) (loc f1) (rr row a b P J hd hs)) (loc f2) (gn _ _)) aH (Dj _)) (Ab rfl)
  rw [List.find?_cons]
  cases hse:AD b s q d with
  | true =>
   rw [hse] at tst
   exact ⟨upd f 3 (.int d),gj (aN (aT tst (aN (aC (loc rfl)))))⟩
  | false =>
   rw [hse] at tst
   exact ⟨f',bE (ak (aI tst) eH) hc r⟩
theorem Dt (n:Nat) (h:H):run ah (n + 1) "range" [.int 8] h = some (.range 0 8 1,h):=by kernel_rfl
theorem zY (h:H):az (.range 0 8 1) h = some ([0,1,2,3,4,5,6,7].map fun (n:Nat) => V.int n):=by kernel_rfl
noncomputable def Ei (b:B3) (s q:Nat):Int:=match Cd b s q with | some d => d | none => -1
theorem uc (n s q:Nat) (hs:s < al b):run ah (n + 2) "direction" [.ref 18,.int s,.int q] (hp row a b P J) = some (.int (Ei b s q),hp row a b P J):=by
 refine (sW ..).trans ?_
 obtain ⟨f',r⟩:=th row a b P J (run ah (n + 1)) s q hs (fun h' => stays (.range 0 8 1) (hp row a b P J) h') rfl [0,1,2,3,4,5,6,7] (upd (upd (upd nf 0 (.ref 18)) 1 (.int s)) 2 (.int q)) (by decide) rfl rfl rfl
 haveI r8:=Dt n (hp row a b P J)
 unfold Ei Cd
 cases h:[0,1,2,3,4,5,6,7].find? (AD b s q) with
 | some d => rw [h] at r; exact aA (br (aM (ar aH aG) r8) (zY _) r)
 | none => rw [h] at r; exact ae (br (aM (ar aH aG) r8) (zY _) r) (aA (aC (pP aH)))
noncomputable def cJ (b:B3) (s q:Nat):Nat:=match Cd b s q with | some d => fP b d s &&& fP b (d ^^^ 2) q | none => 0
theorem pX (n s q:Nat) (hs:s < al b) (hq:q < al b):run ah (n + 3) "between" [.ref 18,.int s,.int q] (hp row a b P J) = some (.int (cJ b s q),hp row a b P J):=by
 refine (ym ..).trans ?_
 haveI r:=uc row a b P J n s q hs
 unfold Ei at r
 unfold cJ
 cases h:Cd b s q with
 | none =>
  rw [h] at r
  walk_at "f"
  rfl
 | some d =>
  rw [h] at r
  haveI hd:d < 8:=by
   haveI:=List.mem_of_find?_eq_some h
   simp at this; omega
  haveI hx:d ^^^ 2 < 8:=Nat.xor_lt_two_pow (n:=3) hd (by decide)
  haveI e:aQ .BitXor (d:Int) 2 = some ((d ^^^ 2:Nat):Int):=jC d 2
  haveI hneg:bI .Lt (.int (d:Int)) (.int 0) (hp row a b P J) = some false:=Fu (by omega)
  haveI l1:=rS row a b P J d hd
  haveI l2:=rr row a b P J hd hs
  haveI l3:=rS row a b P J (d ^^^ 2) hx
  haveI l4:=rr row a b P J hx hq
  walk_at "f"
end
end
section
open PySem
section
variable (row:List Int) (a:Int) (b:B3) (P:PS) (J:H)
noncomputable def zw (b:B3) (P:PS) (c k:Nat):Nat:=((bC b k 0 &&& (P.k4 ||| P.k5)) ||| (bn b k 0 &&& (P.k3 ||| P.k5))) &&& bS P (1 - c)
theorem jp (n c k:Nat) (hc:c < 2) (hk:k < al b) (hK:bS P c &&& P.k6 = 1 <<< k):run ah (n + 13) "snipers_of" [.ref 42,.int c] (hp row a b P J) = some (.int (zw b P c k),hp row a b P J):=by
 refine (rW ..).trans ?_
 haveI e:aQ .Sub 1 (c:Int) = some ((1 - c:Nat):Int):=congrArg some (by omega)
 haveI hk12:k < 12:=Nat.lt_of_lt_of_le hk (aR b)
 haveI r1:run ah (n + 12) "rook_attacks" [.ref 18,.int k,.int 0] (hp row a b P J) = some (.int (bC b k 0),hp row a b P J):=cv row a b P J (n + 9) k 0 hk
 haveI r2:run ah (n + 12) "bishop_attacks" [.ref 18,.int k,.int 0] (hp row a b P J) = some (.int (bn b k 0),hp row a b P J):=bW row a b P J (n + 9) k 0 hk
 haveI l1:=bP row a b P J n c k hc hk12 hK
 haveI l2:=iI row a b P J (n + 11)
 haveI l3:=iD row a b P J (n + 11)
 haveI l4:=cD row a b P J (show 1 - c < 2 by omega)
 walk_at "f"
 rfl
theorem tI (n c k:Nat) (hc:c < 2) (hk:k < al b) (hK:bS P c &&& P.k6 = 1 <<< k) (h0:zw b P c k = 0):run ah (n + 15) "blockers" [.ref 42,.int c] (hp row a b P J) = some (.tup [0,0],hp row a b P (J ++ [nL []])):=by
 refine (mQ ..).trans ?_
 haveI hk12:k < 12:=Nat.lt_of_lt_of_le hk (aR b)
 haveI s1:=qi row a b P n J
 haveI i1:=ES row a b P J
 haveI x0:aQ .BitXor ((P.s0 ||| P.s1:Nat):Int) 0 = some ((P.s0 ||| P.s1:Nat):Int):=by haveI:=jC (P.s0 ||| P.s1) 0; simpa using this
 haveI sn:run ah (n + 14) "snipers_of" [.ref 42,.int c] (hp row a b P J) = some (.int 0,hp row a b P J):=by haveI:=jp row a b P J (n + 1) c k hc hk hK; rw [h0] at this; exact this
 haveI l1:=bP row a b P J (n + 2) c k hc hk12 hK
 walk_at "f"
noncomputable def eQ (b:B3) (P:PS) (c k:Nat):Nat:=(P.s0 ||| P.s1) ^^^ zw b P c k
theorem uF (n c k s:Nat) (hc:c < 2) (hk:k < al b) (hs:s < al b) (hK:bS P c &&& P.k6 = 1 <<< k) (h1:zw b P c k = 1 <<< s) :
  ∃ x y:Nat,run ah (n + 15) "blockers" [.ref 42,.int c] (hp row a b P J) = some (.tup [x,y],hp row a b P (J ++ [nL [s]])) ∧ (x = 0 ∨ x = cJ b k s &&& eQ b P c k):=by
 rw [mQ]
 have hk12:k < 12:=Nat.lt_of_lt_of_le hk (aR b)
 have hs12:s < 12:=Nat.lt_of_lt_of_le hs (aR b)
 have hsq:fc (1 <<< s) = [s]:=(by decide:∀ i:Fin 12,fc (1 <<< i.val) = [i.val]) ⟨s,hs12⟩
 have s1:=dN n (1 <<< s) ((by decide:∀ i:Fin 12,1 <<< i.val < 4096) ⟨s,hs12⟩) (hp row a b P J)
 rw [hsq] at s1
 have sn:run ah (n + 14) "snipers_of" [.ref 42,.int c] (hp row a b P J) = some (.int ((1 <<< s:Nat)),hp row a b P J):=by have:=jp row a b P J (n + 1) c k hc hk hK; rw [h1] at this; exact this
 have it1:az (.ref (hp row a b P J).length) (hp row a b P J ++ [nL [s]]) = some [.int s]:=by simp only [az,cV,nL,List.map_cons,List.map_nil]
 have ch:stays (.ref (hp row a b P J).length) (hp row a b P J ++ [nL [s]]) (hp row a b P J ++ [nL [s]]) = true:=by simp [stays]
 rw [kW] at s1 it1 ch
 have l1:=bP row a b P J (n + 2) c k hc hk12 hK
 have hst:aQ .BitXor ((P.s0 ||| P.s1:Nat):Int) ((1 <<< s:Nat):Int) = some (eQ b P c k:Int):=by unfold eQ; rw [h1]; exact jC _ _
 have bt:=pX row a b P (J ++ [nL [s]]) (n + 11) k s hk hs
 have l2:=cD row a b P (J ++ [nL [s]]) hc
 have l3:=kD s (by omega)
 by_cases hz:cJ b k s &&& eQ b P c k = 0
 ·refine ⟨0,0,?_,.inl rfl⟩
  walk_at "f"
  rfl
 ·have mo:=fG (n + 13) (cJ b k s &&& eQ b P c k) (hp row a b P (J ++ [nL [s]])) (by omega)
  cases hm:(((cJ b k s &&& eQ b P c k) &&& ((cJ b k s &&& eQ b P c k) - 1)) != 0) with
  | true =>
   refine ⟨0,0,?_,.inl rfl⟩
   walk_at "f"
   rfl
  | false =>
   cases ho:(((cJ b k s &&& eQ b P c k) &&& bS P c) != 0) with
   | true =>
    refine ⟨cJ b k s &&& eQ b P c k,1 <<< s,?_,.inr rfl⟩
    walk_at "f"
   | false =>
    refine ⟨cJ b k s &&& eQ b P c k,0,?_,.inr rfl⟩
    walk_at "f"
    rfl
end
end
section
open PySem
section
variable (row:List Int) (a:Int) (b:B3) (P:PS) (J:H)
theorem zB:∀ (b:B3) (k s:Nat),k < al b → s < al b → (cJ b k s).testBit k = false:=by
 intro b k s hk hs
 haveI:∀ b:B3,∀ k:Fin 12,∀ s:Fin 12,k.val < al b → s.val < al b → (cJ b k.val s.val).testBit k.val = false:=by
  intro b; rcases b with _|_|_ <;> decide +kernel
 haveI hb:=aR b
 exact this b ⟨k,by omega⟩ ⟨s,by omega⟩ hk hs
noncomputable def AX (b:B3) (P:PS) (c k:Nat):Prop:=zw b P c k = 0 ∨ ((∃ s,s < al b ∧ zw b P c k = 1 <<< s) ∧ bS P c = 1 <<< k)
theorem nE (n c k:Nat) (hc:c < 2) (hk:k < al b) (hK:bS P c &&& P.k6 = 1 <<< k) (hF:AX b P c k):∃ G,run ah (n + 16) "pinned_pieces" [.ref 42,.int c] (hp row a b P J) = some (.int 0,hp row a b P (J ++ G)):=by
 rw [lB]
 rcases hF with h0 | ⟨⟨s,hs,h1⟩,ho⟩
 ·refine ⟨[nL []],?_⟩
  haveI bl:=tI row a b P J n c k hc hk hK h0
  haveI g0:aO (.tup [0,0]) (.int 0) (hp row a b P (J ++ [nL []])) = some (.int 0):=rfl
  haveI l1:=cD row a b P (J ++ [nL []]) hc
  walk_at "f"
 ·obtain ⟨x,y,bl,hx⟩:=uF row a b P J n c k s hc hk hs hK h1
  refine ⟨[nL [s]],?_⟩
  haveI g0:aO (.tup [(x:Int),y]) (.int 0) (hp row a b P (J ++ [nL [s]])) = some (.int x):=rfl
  haveI l1:=cD row a b P (J ++ [nL [s]]) hc
  haveI hz:x &&& bS P c = 0:=by
   rcases hx with rfl | rfl
   ·simp
   ·rw [ho,Nat.one_shiftLeft]
    apply Nat.eq_of_testBit_eq
    intro i
    rw [Nat.testBit_and,Nat.testBit_and,Nat.zero_testBit]
    by_cases hi:i = k
    ·subst hi; rw [zB b i s hk hs]; simp
    ·rw [Nat.testBit_two_pow_of_ne (Ne.symm hi)]; simp
  haveI l2:aQ .BitAnd (x:Int) (bS P c:Int) = some ((0:Nat):Int):=by rw [← hz]; exact hM _ _
  walk_at "f"
  rfl
noncomputable def eJ (b:B3) (P:PS) (k m:Nat):Bool:=if (m >>> 6 &&& 63) = k then !nq b P (m &&& 63) (1 - P.side) ((P.s0 ||| P.s1) ^^^ (1 <<< k)) else true
theorem mI (n k m:Nat) (hs:P.side < 2) (hk:k < al b) (hK:bS P P.side &&& P.k6 = 1 <<< k) (hm:m < 16384) (hg:(m &&& 63) < al b) :
  run ah (n + 14) "is_legal" [.ref 42,.int m,.int 0] (hp row a b P J) = some (.bool (eJ b P k m),hp row a b P J):=by
 refine (vD ..).trans ?_
 haveI hk12:k < 12:=Nat.lt_of_lt_of_le hk (aR b)
 haveI e:aQ .Sub 1 (P.side:Int) = some ((1 - P.side:Nat):Int):=congrArg some (by omega)
 haveI h14:m >>> 14 &&& 3 = 0:=by
  haveI:m >>> 14 = 0:=by rw [Nat.shiftRight_eq_div_pow]; omega
  rw [this]; simp
 haveI sp:run ah (n + 13) "move_special" [.int m] (hp row a b P J) = some (.int 0,hp row a b P J):=by
  haveI:=gi (n + 12) m (hp row a b P J)
  rw [h14] at this; exact this
 haveI z0:aQ .RShift 0 ((m >>> 6 &&& 63:Nat):Int) = some 0:=by haveI:=gn 0 (m >>> 6 &&& 63); simpa using this
 haveI an:aQ .BitAnd 0 1 = some 0:=by decide
 haveI l1:=eF (n + 12) m (hp row a b P J)
 haveI l2:=e8 (n + 12) m (hp row a b P J)
 haveI l3:=bP row a b P J (n + 1) P.side k hs hk12 hK
 unfold eJ
 by_cases hok:(m >>> 6 &&& 63) = k
 ·haveI d1:bI .Eq (.int ((m >>> 6 &&& 63:Nat):Int)) (.int (k:Int)) (hp row a b P J) = some true:=CN (congrArg Nat.cast hok)
  haveI ia:=ik row a b P J (n + 9) (m &&& 63) (1 - P.side) ((P.s0 ||| P.s1) ^^^ (1 <<< k)) hg (by omega)
  haveI l4:=kD k (by omega)
  rw [if_pos hok]
  walk_at "f"
 ·haveI d1:bI .Eq (.int ((m >>> 6 &&& 63:Nat):Int)) (.int (k:Int)) (hp row a b P J) = some false:=CV fun q => hok (Int.ofNat.inj q)
  rw [if_neg hok]
  walk_at "f"
end
end
section
open PySem
section
variable (row:List Int) (a:Int) (b:B3) (P:PS) (J:H)
noncomputable def yg (b:B3) (P:PS) (s occ:Nat):Nat:=
 (if (P.k4 ||| P.k5) = 0 then 0 else bC b s occ &&& (P.k4 ||| P.k5)) ||| (if (P.k3 ||| P.k5) = 0 then 0 else bn b s occ &&& (P.k3 ||| P.k5))
theorem ku (n s occ:Nat) (hs:s < al b):run ah (n + 4) "line_attackers" [.ref 42,.int s,.int occ] (hp row a b P J) = some (.int (yg b P s occ),hp row a b P J):=by
 refine (jO ..).trans ?_
 haveI ra:=cv row a b P J n s occ hs
 haveI ba:=bW row a b P J n s occ hs
 haveI st:=iI row a b P J (n + 2)
 haveI sl:=iD row a b P J (n + 2)
 unfold yg
 by_cases h1:(P.k4 ||| P.k5) = 0
 ·rw [if_pos h1]
  by_cases h2:(P.k3 ||| P.k5) = 0
  ·rw [if_pos h2]; walk_at "f"; rfl
  ·rw [if_neg h2,Nat.zero_or]; walk_at "f"
 ·rw [if_neg h1]
  by_cases h2:(P.k3 ||| P.k5) = 0
  ·rw [if_pos h2,Nat.or_zero]; walk_at "f"
  ·rw [if_neg h2]; walk_at "f"
noncomputable def vE (b:B3) (P:PS) (s c:Nat):Nat:=(cu b s &&& P.k6) &&& bS P c
theorem nM (n s occ:Nat) (hs:s < al b):run ah (n + 5) "attackers_to" [.ref 42,.int s,.int occ] (hp row a b P J) = some (.int ((vE b P s 0 ||| vE b P s 1 ||| yg b P s occ:Nat)),hp row a b P J):=by
 refine (mn ..).trans ?_
 haveI s0:run ah (n + 4) "step_attackers" [.ref 42,.int s,.int 0] (hp row a b P J) = some (.int (vE b P s 0),hp row a b P J):=dh row a b P J (n + 2) s 0 hs (by decide)
 haveI s1:run ah (n + 4) "step_attackers" [.ref 42,.int s,.int 1] (hp row a b P J) = some (.int (vE b P s 1),hp row a b P J):=dh row a b P J (n + 2) s 1 hs (by decide)
 haveI l:=ku row a b P J n s occ hs
 walk_at "f"
noncomputable def jm (b:B3) (P:PS) (k:Nat):Nat:=(vE b P k 0 ||| vE b P k 1 ||| yg b P k (P.s0 ||| P.s1)) &&& bS P (1 - P.side)
theorem vg (n k:Nat) (hc:P.side < 2) (hk:k < al b) (hK:bS P P.side &&& P.k6 = 1 <<< k):run ah (n + 14) "checkers" [.ref 42] (hp row a b P J) = some (.int (jm b P k),hp row a b P J):=by
 refine (v6 ..).trans ?_
 haveI e:aQ .Sub 1 (P.side:Int) = some ((1 - P.side:Nat):Int):=congrArg some (by omega)
 haveI hk12:k < 12:=Nat.lt_of_lt_of_le hk (aR b)
 haveI c1:run ah (n + 13) "checkers_of" [.ref 42,.int P.side] (hp row a b P J) = some (.int (jm b P k),hp row a b P J):=by
  refine (o9 ..).trans ?_
  haveI l1:=bP row a b P J n P.side k hc hk12 hK
  haveI l2:=nM row a b P J (n + 7) k (P.s0 ||| P.s1) hk
  haveI l3:=cD row a b P J (show 1 - P.side < 2 by omega)
  walk_at "f"
  rfl
 walk_at "f"
theorem ve (n k s:Nat) (hc:P.side < 2) (hk:k < al b) (hs:s < al b) (hK:bS P P.side &&& P.k6 = 1 <<< k):run ah (n + 13) "evasion_targets" [.ref 42,.int ((1 <<< s:Nat))] (hp row a b P J) = some (.int ((1 <<< s ||| cJ b k s:Nat)),hp row a b P J):=by
 refine (jg ..).trans ?_
 haveI hk12:k < 12:=Nat.lt_of_lt_of_le hk (aR b)
 haveI hs12:s < 12:=Nat.lt_of_lt_of_le hs (aR b)
 haveI hpos:0 < 1 <<< s:=by rw [Nat.one_shiftLeft]; exact Nat.two_pow_pos s
 haveI mo:=fG (n + 11) (1 <<< s) (hp row a b P J) hpos
 haveI hz:((1 <<< s) &&& ((1 <<< s) - 1) != 0) = false:=(by decide:∀ i:Fin 12,((1 <<< i.val) &&& ((1 <<< i.val) - 1) != 0) = false) ⟨s,hs12⟩
 haveI d0:¬ 1 <<< s = 0:=Nat.ne_of_gt hpos
 haveI l1:=bP row a b P J n P.side k hc hk12 hK
 haveI l2:=s8 (n + 1) s hs12 (hp row a b P J)
 haveI l3:=pX row a b P J (n + 9) k s hk hs
 walk_at "f"
end
end
section
open PySem
theorem fU {g:G} {x i:Nat} {T:Tx} {body:Sx} (hb:body = ag [aU T (ag [au (aZ g (aa i) "append" [aa x])]) (ag [])]) (hxi:i ≠ x) (chk:H → Bool) (p:Nat → Bool) (h:H) (k:Nat) (hk:k < h.length) :
  ∀ (l:List Nat) (acc:List Nat) (f:Fm),f i = some (.ref k) → acc.length + l.length ≤ 1000 →
   (∀ (f':Fm) (acc':List Nat) (q:Nat),q ∈ l → (∀ j,j ≠ x → f' j = f j) → f' x = some (.int q) → T f' (h.set k (nL acc')) = some (p q,h.set k (nL acc'))) → (∀ acc',chk (h.set k (nL acc')) = true) →
   ∃ f',bQ chk x body (l.map fun (n:Nat) => V.int n) f (h.set k (nL acc)) = some (.next,f',h.set k (nL (acc ++ l.filter p))) ∧ ∀ j,j ≠ x → f' j = f j
 | [],acc,f,_,_,_,_ => ⟨f,by simp [bQ],fun _ _ => rfl⟩
 | q :: l,acc,f,hf,hz,hT,hc => by
  have t1:=hT (upd f x (.int q)) acc q (.head _) (fun j hj => by simp [upd,hj]) (by simp [upd])
  haveI hget:∀ acc',(h.set k (nL acc'))[k]? = some (nL acc'):=fun acc' => by simp [hk]
  cases hp:p q with
  | true =>
   rw [hp] at t1
   haveI ap:=jL (g:=g) (f:=upd f x (.int q)) (i:=i) (h:=h.set k (nL acc)) (h':=h.set k (nL acc)) (acc:=acc) (k:=k) (q:=q) (e:=aa x) (by simp [upd,hxi,hf]) (hget _) (by simp [aa,upd]) (hget _) (by simp at hz; omega)
   rw [List.set_set] at ap
   obtain ⟨f',r1,r2⟩:=fU hb hxi chk p h k hk l (acc ++ [q]) (upd f x (.int q)) (by simp [upd,hxi,hf]) (by simp at hz ⊢; omega)
    (fun f'' acc' q' hq' ha hb' => hT f'' acc' q' (.tail _ hq') (fun j hj => (ha j hj).trans (by simp [upd,hj])) hb') hc
   refine ⟨f',?_,fun j hj => (r2 j hj).trans (by simp [upd,hj])⟩
   haveI one:body (upd f x (.int q)) (h.set k (nL acc)) = some (.next,upd f x (.int q),h.set k (nL (acc ++ [q]))):=by
    rw [hb]
    simp only [qT,ej,xl,lU,t1,ap,Option.bind_some,qp,Bool.false_eq_true,if_false,if_true]
   rw [List.map_cons,jH,one]
   simp only [Option.bind_some,hc,if_true]
   rw [r1,List.filter_cons,hp]
   simp
  | false =>
   rw [hp] at t1
   obtain ⟨f',r1,r2⟩:=fU hb hxi chk p h k hk l acc (upd f x (.int q)) (by simp [upd,hxi,hf]) (by simp at hz ⊢; omega)
    (fun f'' acc' q' hq' ha hb' => hT f'' acc' q' (.tail _ hq') (fun j hj => (ha j hj).trans (by simp [upd,hj])) hb') hc
   refine ⟨f',?_,fun j hj => (r2 j hj).trans (by simp [upd,hj])⟩
   haveI one:body (upd f x (.int q)) (h.set k (nL acc)) = some (.next,upd f x (.int q),h.set k (nL acc)):=by
    rw [hb]
    simp only [qT,ej,xl,t1,Option.bind_some,Bool.false_eq_true,if_false]
   rw [List.map_cons,jH,one]
   simp only [Option.bind_some,hc,if_true]
   rw [r1,List.filter_cons,hp]
   simp
end
section
open PySem
section
variable (row:List Int) (a:Int) (b:B3) (P:PS) (J:H)
theorem re (n k i:Nat) (ms:List Nat) (hs:P.side < 2) (hk:k < al b) (hK:bS P P.side &&& P.k6 = 1 <<< k) (hF:AX b P P.side k) (hi:J[i]? = some (nL ms)) (hz:ms.length ≤ 1000)
  (hm:∀ m ∈ ms,m < 16384 ∧ (m &&& 63) < al b) :
  ∃ J' o,run ah (n + 17) "keep_legal" [.ref 42,.ref (47 + i)] (hp row a b P J) = some (.ref (47 + o),hp row a b P J') ∧ J'[o]? = some (nL (ms.filter (eJ b P k))) ∧ J.length ≤ o ∧ Grow o J J':=by
 rw [rZ]
 obtain ⟨G,pr⟩:=nE row a b P J n P.side k hs hk hK hF
 have hil:i < J.length:=(List.getElem?_eq_some_iff.mp hi).1
 let J1:=J ++ G ++ [nL []]
 let o:=(J ++ G).length
 haveI hlen:(hp row a b P (J ++ G)).length = 47 + o:=cH row a b P (J ++ G)
 haveI hJ1:hp row a b P (J ++ G) ++ [.list []] = hp row a b P J1:=kW _ _ _ _ _ _
 haveI ho:o < J1.length:=by simp [J1,o]
 have hset:∀ acc,(hp row a b P J1).set (47 + o) (nL acc) = hp row a b P (J1.set o (nL acc)):=fun acc => BL _ _ _ _ _ _ _
 haveI h0:(hp row a b P J1).set (47 + o) (nL []) = hp row a b P J1:=by
  rw [hset]
  congr 1
  haveI:J1[o]? = some (nL []):=by simp [J1,o]
  haveI he:J1[o] = nL []:=(List.getElem?_eq_some_iff.mp this).2
  rw [← he,List.set_getElem_self]
 haveI hio:i ≠ o:=by simp only [o,List.length_append]; omega
 have hi1:∀ acc,(J1.set o (nL acc))[i]? = some (nL ms):=fun acc => by
  rw [List.getElem?_set_ne (Ne.symm hio)]
  simp only [J1]
  rw [List.append_assoc,List.getElem?_append_left hil,hi]
 obtain ⟨f',r1,r2⟩:=fU (g:=run ah (n + 16)) (x:=4) (i:=3) (T:=aX (af (run ah (n + 16)) "is_legal" [aa 0,aa 4,aa 2])) rfl (by decide)
  (fun h' => stays (.ref (47 + i)) (hp row a b P J1) h') (eJ b P k) (hp row a b P J1) (47 + o) (by rw [cH]; omega) ms [] (upd (upd (upd (upd nf 0 (.ref 42)) 1 (.ref (47 + i))) 2 (.int 0)) 3 (.ref (47 + o))) rfl (by simpa using hz)
  (fun f' acc' q hq hf hfx => by
   haveI e0:f' 0 = some (.ref 42):=(hf 0 (by decide)).trans rfl
   haveI e2:f' 2 = some (.int 0):=(hf 2 (by decide)).trans rfl
   haveI il:=mI row a b P (J1.set o (nL acc')) (n + 2) k q hs hk hK (hm q hq).1 (hm q hq).2
   rw [hset]
   exact aS (aM (ar (loc e0) (ar (loc hfx) (ar (loc e2) aG))) il) rfl)
  (fun acc' => by
   simp only [stays]
   rw [hset,eM,eM,hi1]
   have:=hi1 []
   rw [show J1.set o (nL []) = J1 from by
    haveI e:J1[o]? = some (nL []):=by simp [J1,o]
    haveI he:J1[o] = nL []:=(List.getElem?_eq_some_iff.mp e).2
    rw [← he,List.set_getElem_self]] at this
   rw [this]; simp)
 rw [h0,hset,List.nil_append] at r1
 haveI hit:az (.ref (47 + i)) (hp row a b P J1) = some (ms.map fun (n:Nat) => V.int n):=by
  haveI:J1[i]? = some (nL ms):=by
   simp only [J1]
   rw [List.append_assoc,List.getElem?_append_left hil,hi]
  simp only [az,eM,this,nL]
 refine ⟨J1.set o (nL (ms.filter (eJ b P k))),o,?_,by rw [List.getElem?_set_self ho],by simp only [o,List.length_append]; omega,?_⟩
 ·haveI f3:f' 3 = some (.ref (47 + o)):=(r2 3 (by decide)).trans rfl
  haveI hl:aP [] (upd (upd (upd nf 0 (.ref 42)) 1 (.ref (47 + i))) 2 (.int 0)) (hp row a b P (J ++ G)) = some (.ref (47 + o),hp row a b P J1):=(c6 aG).trans (by rw [hlen,hJ1])
  exact ae (am (aM (ar (loc rfl) (ar (cn (loc rfl) (bV ..)) aG)) pr)) (ae (am hl) (ae (br (loc rfl) hit r1) (aA (aC (loc f3)))))
 ·refine Grow.trans (J':=J1) ?_ (Grow.set _)
  simp only [J1]
  rw [List.append_assoc]
  exact Grow.app _ _ _
end
end
section
open PySem
section
variable (row:List Int) (a:Int) (b:B3) (P:PS)
structure Fi (b:B3) (P:PS):Prop where
 side:P.side < 2
 small:∀ k,bS P P.side &&& iH P k < 4096
 on:∀ k,∀ q ∈ fc (bS P P.side &&& iH P k),q < al b
noncomputable def bu (b:B3) (P:PS) (t k:Nat):List Nat:=(fc (bS P P.side &&& iH P k)).flatMap (eC b k (P.s0 ||| P.s1) t)
theorem nA (n t i:Nat) (hG:Fi b P) (ht:t < 4096) (x:Nat) (hx:x ≠ 0) (io it:Nat) (hio:io ≠ x) (hit:it ≠ x) (chk:H → Bool) :
  ∀ (l:List Nat) (J:H) (acc:List Nat) (f:Fm),f 0 = some (.ref 42) → f it = some (.int t) → f io = some (.ref (47 + i)) → J[i]? = some (nL acc) → (∀ k ∈ l,k = 2 ∨ k = 3 ∨ k = 4 ∨ k = 5 ∨ k = 6) →
   (∀ k ∈ l,(bu b P t k).length ≤ 40) → acc.length + 40 * l.length ≤ 600 → (∀ J',Grow i J J' → chk (hp row a b P J') = true) →
   ∃ f' J',bQ chk x (ag [au (af (run ah (n + 16)) "add_piece_moves" [(aa 0),(aa x),(aa it),(aa io)])]) (l.map fun (n:Nat) => V.int n) f (hp row a b P J) = some (.next,f',hp row a b P J') ∧
    J'[i]? = some (nL (acc ++ l.flatMap (bu b P t))) ∧ Grow i J J' ∧ ∀ j,j ≠ x → f' j = f j
 | [],J,acc,f,_,_,_,hi,_,_,_,_ => ⟨f,J,rfl,by simpa using hi,.refl _ _,fun _ _ => rfl⟩
 | k :: l,J,acc,f,f0,f1,f2,hi,hk,hm,hz,hc => by
  obtain ⟨J1,r1,r2,r3⟩:=d8 row a b P n k t i J acc (hk k (.head _)) ht hG.side hi (by simp at hz; omega) (hG.small k) (hG.on k)
  haveI hl:(bu b P t k).length ≤ 40:=hm k (.head _)
  obtain ⟨f',J',s1,s2,s3,s4⟩:=nA n t i hG ht x hx io it hio hit chk l J1 (acc ++ bu b P t k) (upd f x (.int k)) (by simp [upd,Ne.symm hx,f0]) (by simp [upd,hit,f1]) (by simp [upd,hio,f2]) r2 (fun q h => hk q (.tail _ h)) (fun q h => hm q (.tail _ h))
   (by simp at hz ⊢; omega) (fun J' g' => hc J' (r3.trans g'))
  refine ⟨f',J',?_,by rw [s2,List.flatMap_cons,List.append_assoc],r3.trans s3,fun j hj => (s4 j hj).trans (by simp [upd,hj])⟩
  rw [List.map_cons,jH]
  haveI e0:upd f x (.int k) 0 = some (.ref 42):=by simp [upd,Ne.symm hx,f0]
  haveI ex:upd f x (.int k) x = some (.int k):=by simp [upd]
  haveI et:upd f x (.int k) it = some (.int t):=by simp [upd,hit,f1]
  haveI eo:upd f x (.int k) io = some (.ref (47 + i)):=by simp [upd,hio,f2]
  simp only [qT,ej,lU,xk,Ec,rF,zK,e0,ex,et,eo,Option.map_some,Option.bind_some,r1,qp,Bool.false_eq_true,if_false,hc J1 r3,if_true]
  exact s1
end
end
section
open PySem
section
variable (row:List Int) (a:Int) (b:B3) (P:PS)
theorem gH {i:Nat} {J J' G:H} (g:Grow i (J ++ G) J'):Grow i J J':=(Grow.app i J G).trans g
theorem lY {i:Nat} {J G:H} {o:MO} (h:J[i]? = some o):(J ++ G)[i]? = some o:=by
 rw [List.getElem?_append_left (List.getElem?_eq_some_iff.mp h).1,h]
theorem x8 {J J':H} {o:MO} {i:Nat} (hi:i < J.length) (g:Grow i (J ++ [o]) J'):stays (.ref (hp row a b P J).length) (hp row a b P (J ++ [o])) (hp row a b P J') = true:=by
 simp only [stays]
 rw [cH,eM,eM,g.keep J.length (by simp) (by omega)]
 simp
noncomputable def cK (b:B3) (P:PS) (t:Nat) (ks:List Nat):List Nat:=ks.flatMap (bu b P t)
noncomputable def DG (b:B3) (P:PS):Prop:=∀ t k,(bu b P t k).length ≤ 40
theorem x9 (l:List Nat) (f:Fm) (h:H):aP (l.map fun (n:Nat) => ac (V.int n)) f h = some (.ref h.length,h ++ [.list (l.map fun (n:Nat) => V.int n)]):=by
 haveI:∀ l:List Nat,bb (l.map fun (n:Nat) => ac (V.int n)) f h = some (l.map fun (n:Nat) => V.int n,h):=by
  intro l
  induction l with
  | nil => rfl
  | cons n l ih => rw [List.map_cons,rF,y9]; simp only [Option.bind_some,ih,List.map_cons]
 rw [wz,this l]
 rfl
theorem qf (n t i:Nat) (hG:Fi b P) (hF:DG b P) (ht:t < 4096) (x:Nat) (hx:x ≠ 0) (io it:Nat) (hio:io ≠ x) (hit:it ≠ x) (J:H) (acc:List Nat) (f:Fm) (l:List Nat) (es:List Ex) (hes:es = l.map fun (n:Nat) => ac (V.int n))
  (f0:f 0 = some (.ref 42)) (f1:f it = some (.int t)) (f2:f io = some (.ref (47 + i))) (hi:J[i]? = some (nL acc)) (hk:∀ k ∈ l,k = 2 ∨ k = 3 ∨ k = 4 ∨ k = 5 ∨ k = 6) (hz:acc.length + 40 * l.length ≤ 600) :
  ∃ f' J',bF x (aP es) (ag [au (af (run ah (n + 16)) "add_piece_moves" [(aa 0),(aa x),(aa it),(aa io)])]) f (hp row a b P J) = some (.next,f',hp row a b P J') ∧
   J'[i]? = some (nL (acc ++ cK b P t l)) ∧ Grow i J J' ∧ ∀ j,j ≠ x → f' j = f j:=by
 subst hes
 haveI hil:i < J.length:=(List.getElem?_eq_some_iff.mp hi).1
 obtain ⟨f',J',r1,r2,r3,r4⟩:=nA row a b P n t i hG ht x hx io it hio hit (fun h' => stays (.ref (hp row a b P J).length) (hp row a b P (J ++ [nL l])) h') l (J ++ [nL l]) acc f f0 f1 f2 (lY hi) hk (fun k _ => hF t k) hz
  (fun J' g => x8 row a b P hil g)
 refine ⟨f',J',?_,r2,gH r3,r4⟩
 haveI hit':az (.ref (hp row a b P J).length) (hp row a b P J ++ [nL l]) = some (l.map fun (n:Nat) => V.int n):=by simp only [az,cV,nL]
 rw [zp,x9]
 show ((az (.ref (hp row a b P J).length) (hp row a b P J ++ [nL l])).bind fun items => bQ (fun h' => stays (.ref (hp row a b P J).length) (hp row a b P J ++ [nL l]) h') x _ items f (hp row a b P J ++ [nL l])) = _
 rw [hit',kW]
 exact r1
theorem B7:dJ b < 4096:=by rcases b with _|_|_ <;> decide
theorem zF (st:Nat) (h0:st ≠ 0):lJ b P st < 4096:=by
 haveI:=B7 b
 unfold lJ
 rw [if_neg h0]
 split <;> omega
noncomputable def ft (b:B3) (P:PS) (k s:Nat):List Nat:=cK b P (1 <<< s ||| cJ b k s) [2,3,4,5] ++ bu b P (lJ b P 2) 6
theorem oj (n k s i:Nat) (J:H) (hG:Fi b P) (hF:DG b P) (hk:k < al b) (hs:s < al b) (hK:bS P P.side &&& P.k6 = 1 <<< k) (hC:jm b P k = 1 <<< s) (ht:(1 <<< s ||| cJ b k s) < 4096) (hi:J[i]? = some (nL [])) :
  ∃ J',run ah (n + 17) "add_evasions" [.ref 42,.ref (47 + i)] (hp row a b P J) = some (.none,hp row a b P J') ∧ J'[i]? = some (nL (ft b P k s)) ∧ Grow i J J':=by
 rw [ne]
 haveI ck:=vg row a b P J (n + 2) k hG.side hk hK
 rw [hC] at ck
 haveI ev:=ve row a b P J (n + 3) k s hG.side hk hs hK
 haveI t0:((1 <<< s ||| cJ b k s) != 0) = true:=by
  rw [bne_iff_ne]
  intro h
  haveI:(1 <<< s ||| cJ b k s).testBit s = false:=by rw [h]; simp
  rw [Nat.testBit_or,Nat.one_shiftLeft,Nat.testBit_two_pow_self] at this
  simp at this
 obtain ⟨G,pm⟩:=fj row a b P J n 3 (1 <<< s ||| cJ b k s) (.ref (47 + i)) hG.side (by decide)
 haveI pm:run ah (n + 16) "add_pawn_moves" [.ref 42,.int 3,.int ((1 <<< s ||| cJ b k s:Nat)),.ref (47 + i)] (hp row a b P J) = some (.none,hp row a b P (J ++ G)):=pm
 haveI ma:=rk row a b P (J ++ G) (n + 15) (.int ((1 <<< s ||| cJ b k s:Nat)))
 obtain ⟨f1,J1,r1,r2,r3,r4⟩:=qf row a b P n (1 <<< s ||| cJ b k s) i hG hF ht 3 (by decide) 1 2 (by decide) (by decide) (J ++ G) [] (upd (upd (upd nf 0 (.ref 42)) 1 (.ref (47 + i))) 2 (.int ((1 <<< s ||| cJ b k s:Nat)))) [2,3,4,5] _ rfl rfl rfl rfl (lY hi)
  (by decide) (by decide)
 rw [List.nil_append] at r2
 haveI hl:(cK b P (1 <<< s ||| cJ b k s) [2,3,4,5]).length ≤ 160:=by
  haveI h2:=hF (1 <<< s ||| cJ b k s) 2
  haveI h3:=hF (1 <<< s ||| cJ b k s) 3
  haveI h4:=hF (1 <<< s ||| cJ b k s) 4
  haveI h5:=hF (1 <<< s ||| cJ b k s) 5
  unfold cK
  simp only [List.flatMap_cons,List.flatMap_nil,List.length_append,List.length_nil]
  omega
 obtain ⟨J2,s1,s2,s3⟩:=d8 row a b P n 6 (lJ b P 2) i J1 _ (.inr (.inr (.inr (.inr rfl)))) (zF b P 2 (by decide)) hG.side r2 (by omega) (hG.small 6) (hG.on 6)
 refine ⟨J2,?_,s2,(gH r3).trans s3⟩
 haveI f10:f1 0 = some (.ref 42):=(r4 0 (by decide)).trans rfl
 haveI f11:f1 1 = some (.ref (47 + i)):=(r4 1 (by decide)).trans rfl
 haveI s1':run ah (n + 16) "add_piece_moves" [.ref 42,.int 6,.int (lJ b P 2),.ref (47 + i)] (hp row a b P J1) = some (.none,hp row a b P J2):=s1
 haveI tg:lJ b P 2 = dJ b - (dJ b &&& bS P P.side):=rfl
 rw [tg] at s1'
 haveI r1':bF 3 (aP [(ac (.int 2)),(ac (.int 3)),(ac (.int 4)),(ac (.int 5))]) (ag [au (af (run ah (n + 16)) "add_piece_moves" [(aa 0),(aa 3),(aa 2),(aa 1)])]) _ _ = _:=r1
 haveI gs:=cD row a b P J1 hG.side
 haveI ga:=yZ (dJ b) (bS P P.side)
 walk_at "f"
end
end
section
open PySem
section
variable (row:List Int) (a:Int) (b:B3) (P:PS)
inductive Cv (J J':H) (o:Nat) (ms:List Nat):Prop
 | mk (G:H) (h:J' = J ++ G) (at':J'[o]? = some (nL ms)) (lo:J.length ≤ o):Cv J J' o ms
theorem t8 {i:Nat} {J J':H} (g:Grow i J J') (h:J.length ≤ i):∃ G,J' = J ++ G:=by
 refine ⟨J'.drop J.length,?_⟩
 haveI e:J'.take J.length = J:=by
  apply List.ext_getElem?
  intro j
  rw [List.getElem?_take]
  by_cases hj:j < J.length
  ·rw [if_pos hj,g.keep j hj (by omega)]
  ·rw [if_neg hj,List.getElem?_eq_none (by omega)]
 haveI:=List.take_append_drop J.length J'
 rw [e] at this
 exact this.symm
theorem Grow.made {J J':H} {ms:List Nat} {o:MO} (g:Grow J.length (J ++ [o]) J') (h:J'[J.length]? = some (nL ms)):Cv J J' J.length ms:=
 let ⟨G,e⟩:=t8 (gH g) (Nat.le_refl _)
 ⟨G,e,h,Nat.le_refl _⟩
theorem oW (n i st:Nat) (J:H) (f:Fm) (f0:f 0 = some (.ref 42)) (f1:f 1 = some (.int st)) (f2:f 2 = some (.ref i)) :
  aU (ax .NotEq (aa 1) (ac (.int 1))) (ag [au (af (run ah (n + 1)) "add_en_passant" [(aa 0),(aa 2)])]) (ag []) f (hp row a b P J) = some (.next,f,hp row a b P J):=by
 haveI ep:=km row a b P J n (.ref i)
 by_cases h:(st:Int) = 1
 ·exact aI (aq (loc f1) aH (C5 h))
 ·exact aT (aq (loc f1) aH (wW h)) (ak (aD (aM (ar (loc f0) (ar (loc f2) aG)) ep) rfl) eH)
theorem sQ (n i st:Nat) (J:H) (f:Fm) (hs:P.side < 2) (f0:f 0 = some (.ref 42)) (f1:f 1 = some (.int st)) (f2:f 2 = some (.ref i)) :
  ∃ G,aU (ax .NotEq (aa 1) (ac (.int 0))) (ag [au (af (run ah (n + 2)) "add_castling" [(aa 0),(aa 2)])]) (ag []) f (hp row a b P J) = some (.next,f,hp row a b P (J ++ G)):=by
 haveI ep:=nP row a b P J n (.ref i) hs
 by_cases h:(st:Int) = 0
 ·exact ⟨[],by rw [List.append_nil]; exact aI (aq (loc f1) aH (C5 h))⟩
 ·exact ⟨_,aT (aq (loc f1) aH (wW h)) (ak (aD (aM (ar (loc f0) (ar (loc f2) aG)) ep) rfl) eH)⟩
theorem vC (n st:Nat) (J:H) (hst:st < 3) (hG:Fi b P) (hF:DG b P) (ht:lJ b P st < 4096) :
  ∃ J',run ah (n + 17) "generate" [.ref 42,.int st] (hp row a b P J) = some (.ref (47 + J.length),hp row a b P J') ∧ Cv J J' J.length (cK b P (lJ b P st) [2,3,4,5,6]):=by
 rw [nQ]
 haveI d3:decide ((st:Int) = 3) = false:=by simp; omega
 haveI tg:=m9 row a b P (J ++ [nL []]) (n + 14) st hG.side (by omega)
 obtain ⟨G,pm⟩:=fj row a b P (J ++ [nL []]) n st (dJ b) (.ref (47 + J.length)) hG.side (by omega)
 haveI hi:(J ++ [nL []])[J.length]? = some (nL []):=cV _ _
 let f3:Fm:=upd (upd (upd (upd nf 0 (.ref 42)) 1 (.int st)) 2 (.ref (47 + J.length))) 3 (.int (lJ b P st))
 haveI ei:=oW row a b P (n + 15) (47 + J.length) st (J ++ [nL []] ++ G) f3 rfl rfl rfl
 obtain ⟨f',J1,r1,r2,r3,r4⟩:=qf row a b P n (lJ b P st) J.length hG hF ht 4 (by decide) 2 3 (by decide) (by decide) (J ++ [nL []] ++ G) [] f3 [2,3,4,5,6] _ rfl rfl rfl rfl (lY hi) (by decide) (by decide)
 obtain ⟨G2,ci⟩:=sQ row a b P (n + 14) (47 + J.length) st J1 f' hG.side ((r4 0 (by decide)).trans rfl) ((r4 1 (by decide)).trans rfl) ((r4 2 (by decide)).trans rfl)
 haveI f'2:f' 2 = some (.ref (47 + J.length)):=(r4 2 (by decide)).trans rfl
 refine ⟨J1 ++ G2,?_,Grow.made ((gH r3).trans (Grow.app _ _ _)) (lY r2)⟩
 refine ae (am (c6 aG)) (ae (aI (aq (loc rfl) aH ((jd _ _ _).trans (congrArg some d3)))) ?_)
 rw [kW,cH]
 refine ae (am (aM (ar (loc rfl) (ar (loc rfl) aG)) tg)) (ae (aD (aM (ar (loc rfl) (ar (loc rfl) (ar (cn (cn (loc rfl) (j9 _ _ _ _ _)) (BB _ _ _ _ _)) (ar (loc rfl) aG)))) pm) rfl) ?_)
 exact ae ei (ae r1 (ae ci (aA (aC (loc f'2)))))
end
end
section
open PySem
section
variable (row:List Int) (a:Int) (b:B3) (P:PS)
noncomputable def vz (x:Nat):Nat:=(fc x).headD 0
noncomputable def vN (b:B3) (P:PS) (k:Nat):Bool:=nq b P k (1 - P.side) (P.s0 ||| P.s1)
noncomputable def c9 (b:B3) (P:PS) (k st:Nat):List Nat:=if st = 3 then ft b P k (vz (jm b P k)) else cK b P (lJ b P st) [2,3,4,5,6]
noncomputable def HC (b:B3) (P:PS) (k:Nat):List Nat:=(c9 b P k (if vN b P k = true then 3 else 2)).filter (eJ b P k)
noncomputable def GC (b:B3) (P:PS) (k:Nat):Bool:=if vN b P k = true then (c9 b P k 3).any (eJ b P k) else (c9 b P k 0).any (eJ b P k) || (c9 b P k 1).any (eJ b P k)
structure Ok (b:B3) (P:PS) (k:Nat):Prop where
 gen:Fi b P
 few:DG b P
 hk:k < al b
 K:bS P P.side &&& P.k6 = 1 <<< k
 t0:lJ b P 0 < 4096
 free:AX b P P.side k
 chk:vN b P k = true → ∃ s,s < al b ∧ jm b P k = 1 <<< s
theorem mr {o g:Nat} (ho:o < 12) (hg:g < 12):pk o g < 16384 ∧ pk o g &&& 63 = g ∧ pk o g >>> 6 &&& 63 = o:=by
 haveI:∀ o g:Fin 12,pk o.val g.val < 16384 ∧ pk o.val g.val &&& 63 = g.val ∧ pk o.val g.val >>> 6 &&& 63 = o.val:=by decide +kernel
 exact this ⟨o,ho⟩ ⟨g,hg⟩
theorem xh {s:Nat} (hs:s < 12):fc (1 <<< s) = [s]:=by
 haveI:∀ s:Fin 12,fc (1 <<< s.val) = [s.val]:=by decide +kernel
 exact this ⟨s,hs⟩
theorem yY {s:Nat} (hs:s < 12):vz (1 <<< s) = s:=by unfold vz; rw [xh hs]; rfl
theorem hV {t k m:Nat} (h:m ∈ bu b P t k):∃ o g,m = pk o g ∧ o < 12 ∧ g < 12 ∧ (bS P P.side &&& iH P k).testBit o = true ∧ (dH b k o (P.s0 ||| P.s1)).testBit g = true ∧ t.testBit g = true:=by
 obtain ⟨o,ho,h⟩:=List.mem_flatMap.mp h
 obtain ⟨g,hg,rfl⟩:=List.mem_map.mp h
 obtain ⟨h1,h2⟩:=rH ho
 obtain ⟨h3,h4⟩:=rH hg
 rw [Nat.testBit_and,Bool.and_eq_true] at h4
 exact ⟨o,g,rfl,h1,h3,h2,h4.1,h4.2⟩
theorem oH {t k o g:Nat} (ho:o < 12) (hg:g < 12) (h1:(bS P P.side &&& iH P k).testBit o = true) (h2:(dH b k o (P.s0 ||| P.s1)).testBit g = true) (h3:t.testBit g = true):pk o g ∈ bu b P t k:=by
 refine List.mem_flatMap.mpr ⟨o,wD.mpr ⟨ho,h1⟩,List.mem_map.mpr ⟨g,wD.mpr ⟨hg,?_⟩,rfl⟩⟩
 rw [Nat.testBit_and,h2,h3]; rfl
theorem zU {k st m:Nat} (h:m ∈ c9 b P k st):∃ t j,m ∈ bu b P t j:=by
 unfold c9 at h
 split at h
 ·unfold ft cK at h
  rcases List.mem_append.mp h with h | h
  ·obtain ⟨j,_,h⟩:=List.mem_flatMap.mp h
   exact ⟨_,_,h⟩
  ·exact ⟨_,_,h⟩
 ·unfold cK at h
  obtain ⟨j,_,h⟩:=List.mem_flatMap.mp h
  exact ⟨_,_,h⟩
theorem pA {l:List Nat} {p:Nat → Prop} (h:∀ x ∈ l,p x) (h0:p 0) (i:Nat):p (l.getD i 0):=by
 rw [List.getD_eq_getElem?_getD]
 cases e:l[i]? with
 | none => exact h0
 | some x => exact h x (List.mem_of_getElem? e)
theorem pT {x n g:Nat} (lt:x < 2 ^ n) (h:x.testBit g = true):g < n:=by
 rcases Nat.lt_or_ge g n with q | q
 ·exact q
 ·rw [Nat.testBit_lt_two_pow (Nat.lt_of_lt_of_le lt (Nat.pow_le_pow_right (by decide) q))] at h
  cases h
theorem rB (d s:Nat):fP b d s < 2 ^ al b:=by
 have hd:∀ b:B3,∀ l ∈ mO b,∀ x ∈ l,x < 2 ^ al b:=by intro b; rcases b with _|_|_ <;> decide +kernel
 refine pA (p:=(· < 2 ^ al b)) (fun x hx => ?_) (Nat.two_pow_pos _) s
 rw [List.getD_eq_getElem?_getD] at hx
 cases e:(mO b)[d]? with
 | none => rw [e] at hx; cases hx
 | some l => rw [e] at hx; exact hd b l (List.mem_of_getElem? e) x hx
theorem tf (s:Nat):cu b s < 2 ^ al b:=by
 haveI hd:∀ b:B3,∀ x ∈ zu b,x < 2 ^ al b:=by intro b; rcases b with _|_|_ <;> decide +kernel
 exact pA (p:=(· < 2 ^ al b)) (hd b) (Nat.two_pow_pos _) s
theorem Cy (x y:Nat):x - (x &&& y) = x ^^^ (x &&& y):=by
 haveI h:=fX x (x &&& y)
 haveI e1:x &&& (x &&& y) = x &&& y:=by rw [← Nat.and_assoc,Nat.and_self]
 haveI e2:x ||| (x &&& y) = x:=by apply Nat.eq_of_testBit_eq; intro i; rw [Nat.testBit_or,Nat.testBit_and]; cases x.testBit i <;> rfl
 rw [e1,e2] at h
 omega
theorem rE (x y i:Nat):(x - (x &&& y)).testBit i = (x.testBit i && !y.testBit i):=by
 rw [Cy,Nat.testBit_xor,Nat.testBit_and]
 cases x.testBit i <;> cases y.testBit i <;> rfl
theorem nZ {d s occ g:Nat} (h:(be b d s occ).testBit g = true):(fP b d s).testBit g = true:=by
 unfold be at h
 dsimp only at h
 split at h
 ·exact h
 ·split at h
  ·rw [Nat.testBit_and,Bool.and_eq_true] at h; exact h.1
  ·rw [rE,Bool.and_eq_true] at h; exact h.1
theorem zA (s occ g:Nat):(bC b s occ).testBit g = [0,1,2,3].any fun d => (be b d s occ).testBit g:=by
 unfold bC
 simp only [Nat.testBit_or,List.any_cons,List.any_nil,Bool.or_false,Bool.or_assoc]
theorem zR (s occ g:Nat):(bn b s occ).testBit g = [4,5,6,7].any fun d => (be b d s occ).testBit g:=by
 unfold bn
 simp only [Nat.testBit_or,List.any_cons,List.any_nil,Bool.or_false,Bool.or_assoc]
theorem ja {s occ g:Nat} (h:(bC b s occ).testBit g = true):∃ d,d < 8 ∧ (fP b d s).testBit g = true:=by
 rw [zA] at h
 obtain ⟨d,hd,h⟩:=List.any_eq_true.mp h
 exact ⟨d,(by decide:∀ d ∈ [0,1,2,3],d < 8) d hd,nZ b h⟩
theorem jn {s occ g:Nat} (h:(bn b s occ).testBit g = true):∃ d,d < 8 ∧ (fP b d s).testBit g = true:=by
 rw [zR] at h
 obtain ⟨d,hd,h⟩:=List.any_eq_true.mp h
 exact ⟨d,(by decide:∀ d ∈ [4,5,6,7],d < 8) d hd,nZ b h⟩
theorem AA {k s occ g:Nat} (h:(dH b k s occ).testBit g = true):g < al b:=by
 have ray:(∃ d,d < 8 ∧ (fP b d s).testBit g = true) → g < al b:=fun ⟨d,_,h⟩ => pT (rB b d s) h
 unfold dH at h
 split at h
 ·exact pT (tf b s) h
 ·split at h
  ·unfold eY at h
   rw [Nat.testBit_or,Bool.or_eq_true] at h
   exact h.elim (fun h => ray (ja b h)) fun h => ray (jn b h)
  ·split at h
   ·exact ray (ja b h)
   ·exact ray (jn b h)
theorem sP {k st m:Nat} (h:m ∈ c9 b P k st):m < 16384 ∧ (m &&& 63) < al b:=by
 obtain ⟨t,j,h⟩:=zU b P h
 obtain ⟨o,g,rfl,h1,h2,_,h4,_⟩:=hV b P h
 obtain ⟨p1,p2,p3⟩:=mr h1 h2
 exact ⟨p1,by rw [p2]; exact AA b h4⟩
theorem ew (hF:DG b P) (t:Nat) (ks:List Nat):(cK b P t ks).length ≤ 40 * ks.length:=by
 unfold cK
 induction ks with
 | nil => simp
 | cons k ks ih => rw [List.flatMap_cons,List.length_append,List.length_cons]; haveI:=hF t k; omega
theorem wL (hF:DG b P) (k st:Nat):(c9 b P k st).length ≤ 1000:=by
 unfold c9
 split
 ·unfold ft
  rw [List.length_append]
  haveI h1:=ew b P hF (1 <<< vz (jm b P k) ||| cJ b k (vz (jm b P k))) [2,3,4,5]
  haveI h2:=hF (lJ b P 2) 6
  simp only [List.length_cons,List.length_nil] at h1
  omega
 ·haveI h1:=ew b P hF (lJ b P st) [2,3,4,5,6]
  simp only [List.length_cons,List.length_nil] at h1
  omega
theorem Dy (s q:Nat):cJ b s q < 4096:=by
 unfold cJ
 split
 ·exact Nat.lt_of_le_of_lt Nat.and_le_left (Nat.lt_of_lt_of_le (rB b _ _) (by rcases b with _|_|_ <;> decide))
 ·decide
variable (J:H) {k:Nat}
theorem za (n:Nat) {st:Nat} (O:Ok b P k) (hst:st < 3 ∨ st = 3 ∧ vN b P k = true) :
  ∃ J',run ah (n + 18) "generate" [.ref 42,.int st] (hp row a b P J) = some (.ref (47 + J.length),hp row a b P J') ∧ Cv J J' J.length (c9 b P k st):=by
 rcases hst with hst | ⟨rfl,hc⟩
 ·haveI e:c9 b P k st = cK b P (lJ b P st) [2,3,4,5,6]:=if_neg (by omega)
  rw [e]
  refine vC row a b P (n + 1) st J hst O.gen O.few ?_
  by_cases h0:st = 0
  ·subst h0; exact O.t0
  ·exact zF b P st h0
 ·obtain ⟨s,hs,hC⟩:=O.chk hc
  have hs12:=Nat.lt_of_lt_of_le hs (aR b)
  haveI e:c9 b P k 3 = ft b P k s:=by unfold c9; rw [if_pos rfl,hC,yY hs12]
  rw [e,nQ]
  haveI lt:(1 <<< s ||| cJ b k s) < 4096:=Nat.or_lt_two_pow (n:=12) (by rw [Nat.one_shiftLeft]; exact Nat.pow_lt_pow_right (by decide) hs12) (Dy b k s)
  haveI hi:(J ++ [nL []])[J.length]? = some (nL []):=cV _ _
  obtain ⟨J',r1,r2,r3⟩:=oj row a b P n k s J.length (J ++ [nL []]) O.gen O.few O.hk hs O.K hC lt hi
  refine ⟨J',?_,Grow.made r3 r2⟩
  refine ae (am (c6 aG)) ?_
  rw [kW,cH]
  exact aA (aT (aq (loc rfl) aH rfl) (ak (aD (aM (ar (loc rfl) (ar (loc rfl) aG)) r1) rfl) (aN (aC (loc rfl)))))
theorem jo {i:Nat} {vs:List V} (h:J[i]? = some (.list vs)):az (.ref (47 + i)) (hp row a b P J) = some vs:=by simp only [az,eM,h]
inductive jN (n:Nat) (x:Str) (vs:List V) (v:V):Prop
 | mk (G:H) (r:run ah n x vs (hp row a b P J) = some (v,hp row a b P (J ++ G))):jN n x vs v
inductive lh (n:Nat) (x:Str) (vs:List V) (ms:List Nat):Prop
 | mk (G:H) (o:Nat) (r:run ah n x vs (hp row a b P J) = some (.ref (47 + o),hp row a b P (J ++ G))) (at':(J ++ G)[o]? = some (nL ms)) (lo:J.length ≤ o):lh n x vs ms
theorem Ag (n:Nat) (O:Ok b P k):lh row a b P J (n + 19) "pseudo_moves" [.ref 42] (c9 b P k (if vN b P k = true then 3 else 2)):=by
 haveI ic:=iY row a b P J (n + 4) k O.gen.side O.hk O.K
 have ic:run ah (n + 18) "in_check" [.ref 42] (hp row a b P J) = some (.bool (vN b P k),hp row a b P J):=ic
 cases hc:vN b P k with
 | true =>
  rw [hc] at ic
  obtain ⟨J',r1,G,rfl,r2,r3⟩:=za row a b P J n O (.inr ⟨rfl,hc⟩)
  refine ⟨G,J.length,?_,r2,r3⟩
  rw [gp]
  exact aA (aT (aS (aM (ar (loc rfl) aG) ic) rfl) (aN (aC (aM (ar (loc rfl) (ar aH aG)) r1))))
 | false =>
  rw [hc] at ic
  obtain ⟨J',r1,G,rfl,r2,r3⟩:=za row a b P J n O (st:=2) (.inl (by decide))
  refine ⟨G,J.length,?_,r2,r3⟩
  rw [gp]
  exact ae (aI (aS (aM (ar (loc rfl) aG) ic) rfl)) (aA (aC (aM (ar (loc rfl) (ar aH aG)) r1)))
theorem o8 (n:Nat) (O:Ok b P k):lh row a b P J (n + 20) "legal_moves" [.ref 42] (HC b P k):=by
 obtain ⟨G,o,r1,r2,r3⟩:=Ag row a b P J n O
 obtain ⟨J',o',s1,s2,s3,s4⟩:=re row a b P (J ++ G) (n + 2) k o _ O.gen.side O.hk O.K O.free r2 (wL b P O.few k _) fun m hm => sP b P hm
 obtain ⟨G',rfl⟩:=t8 s4 s3
 refine ⟨G ++ G',o',?_,by rw [← List.append_assoc]; exact s2,by rw [List.length_append] at s3; omega⟩
 rw [oS,← List.append_assoc]
 exact aA (aC (aM (ar (loc rfl) (ar (aM (ar (loc rfl) aG) r1) aG)) s1))
theorem sI (n:Nat) (O:Ok b P k) (chk:H → Bool) (hc:chk (hp row a b P J) = true):∀ (ms:List Nat) (f:Fm),f 0 = some (.ref 42) → f 2 = some (.int 0) → (∀ m ∈ ms,m < 16384 ∧ (m &&& 63) < al b) →
  ∃ f',bQ chk 4 (ag [aU (aX (af (run ah (n + 14)) "is_legal" [(aa 0),(aa 4),(aa 2)])) (ag [aw (ac (.bool true))]) (ag [])]) (ms.map fun (n:Nat) => V.int n) f (hp row a b P J) =
   some (if ms.any (eJ b P k) then .ret (.bool true) else .next,f',hp row a b P J) ∧ ∀ j,j ≠ 4 → f' j = f j
 | [],f,_,_,_ => ⟨f,rfl,fun _ _ => rfl⟩
 | m :: ms,f,f0,f2,hm => by
  haveI il:=mI row a b P J n k m O.gen.side O.hk O.K (hm m (.head _)).1 (hm m (.head _)).2
  haveI u0:upd f 4 (.int m) 0 = some (.ref 42):=f0
  haveI u2:upd f 4 (.int m) 2 = some (.int 0):=f2
  have e:aX (af (run ah (n + 14)) "is_legal" [(aa 0),(aa 4),(aa 2)]) (upd f 4 (.int m)) (hp row a b P J) = some (eJ b P k m,hp row a b P J):=aS (aM (ar (loc u0) (ar (loc rfl) (ar (loc u2) aG))) il) rfl
  rw [List.map_cons,List.any_cons]
  cases hl:eJ b P k m with
  | true =>
   rw [hl] at e
   exact ⟨_,gj (aN (aT e (aN (aC aH)))),fun j hj => by simp [upd,hj]⟩
  | false =>
   rw [hl] at e
   obtain ⟨f',r,z⟩:=sI n O chk hc ms (upd f 4 (.int m)) u0 u2 fun q hq => hm q (.tail _ hq)
   exact ⟨f',bE (ak (aI e) rfl) hc r,fun j hj => (z j hj).trans (by simp [upd,hj])⟩
theorem iC (n:Nat) {st:Nat} (O:Ok b P k) (hst:st < 3 ∨ st = 3 ∧ vN b P k = true) (f:Fm) (f0:f 0 = some (.ref 42)) (f2:f 2 = some (.int 0)) (f3:f 3 = some (.int st)) :
  ∃ G f',ag [bF 4 (af (run ah (n + 18)) "generate" [(aa 0),(aa 3)]) (ag [aU (aX (af (run ah (n + 18)) "is_legal" [(aa 0),(aa 4),(aa 2)])) (ag [aw (ac (.bool true))]) (ag [])])] f (hp row a b P J) =
   some (if (c9 b P k st).any (eJ b P k) then .ret (.bool true) else .next,f',hp row a b P (J ++ G)) ∧ ∀ j,j ≠ 4 → f' j = f j:=by
 obtain ⟨J',r1,G,rfl,r2,r3⟩:=za row a b P J n O hst
 haveI hit:az (.ref (47 + J.length)) (hp row a b P (J ++ G)) = some ((c9 b P k st).map fun (n:Nat) => V.int n):=jo row a b P _ r2
 obtain ⟨f',z1,z2⟩:=sI row a b P (J ++ G) (n + 4) O (fun h' => stays (.ref (47 + J.length)) (hp row a b P (J ++ G)) h') (by simp [stays]) (c9 b P k st) f f0 f2 fun m hm => sP b P hm
 refine ⟨G,f',?_,z2⟩
 have z:=br (i:=4) (aM (ar (loc f0) (ar (loc f3) aG)) r1) hit z1
 revert z
 cases (c9 b P k st).any (eJ b P k) with
 | true => exact fun z => aN z
 | false => exact fun z => ak z rfl
theorem sC (n:Nat) (O:Ok b P k):jN row a b P J (n + 19) "has_legal_move" [.ref 42] (.bool (GC b P k)):=by
 have ic:run ah (n + 18) "in_check" [.ref 42] (hp row a b P J) = some (.bool (vN b P k),hp row a b P J):=iY row a b P J (n + 4) k O.gen.side O.hk O.K
 unfold GC
 cases hc:vN b P k with
 | true =>
  rw [hc] at ic
  obtain ⟨G0,pn⟩:=nE row a b P (J ++ [nL [3]]) (n + 2) P.side k O.gen.side O.hk O.K O.free
  let f2:=upd (upd (upd nf 0 (.ref 42)) 1 (.ref (47 + J.length))) 2 (.int 0)
  obtain ⟨G,f',z1,z2⟩:=iC row a b P (J ++ [nL [3]] ++ G0) n (st:=3) O (.inr ⟨rfl,hc⟩) (upd f2 3 (.int 3)) rfl rfl rfl
  haveI hit:az (.ref (47 + J.length)) (hp row a b P (J ++ [nL [3]] ++ G0)) = some [.int 3]:=jo row a b P _ (show (J ++ [nL [3]] ++ G0)[J.length]? = some (nL [3]) by simp)
  refine ⟨[nL [3]] ++ G0 ++ G,?_⟩
  haveI eG:J ++ ([nL [3]] ++ G0 ++ G) = J ++ [nL [3]] ++ G0 ++ G:=by simp
  rw [fh,eG]
  refine ae (am (Eg (aS (aM (ar (loc rfl) aG) ic) rfl) (c6 (ar aH aG)))) ?_
  rw [kW,cH]
  refine ae (am (aM (ar (loc rfl) (ar (cn (loc rfl) (bV _ _ _ _ _)) aG)) pn)) ?_
  haveI ck:(fun h' => stays (.ref (47 + J.length)) (hp row a b P (J ++ [nL [3]] ++ G0)) h') (hp row a b P (J ++ [nL [3]] ++ G0 ++ G)) = true:=by
   simp only [stays,eM]; simp
  revert z1
  cases (c9 b P k 3).any (eJ b P k) with
  | true => exact fun z1 => aA (br (loc rfl) hit (gj z1))
  | false => exact fun z1 => ae (br (loc rfl) hit (bE z1 ck rfl)) (aA (aC aH))
 | false =>
  rw [hc] at ic
  obtain ⟨G0,pn⟩:=nE row a b P (J ++ [nL [0,1]]) (n + 2) P.side k O.gen.side O.hk O.K O.free
  let f2:=upd (upd (upd nf 0 (.ref 42)) 1 (.ref (47 + J.length))) 2 (.int 0)
  obtain ⟨G,f',z1,z2⟩:=iC row a b P (J ++ [nL [0,1]] ++ G0) n (st:=0) O (.inl (by decide)) (upd f2 3 (.int 0)) rfl rfl rfl
  obtain ⟨G',f'',y1,y2⟩:=iC row a b P (J ++ [nL [0,1]] ++ G0 ++ G) n (st:=1) O (.inl (by decide)) (upd f' 3 (.int 1)) ((z2 0 (by decide)).trans rfl) ((z2 2 (by decide)).trans rfl) rfl
  haveI hit:az (.ref (47 + J.length)) (hp row a b P (J ++ [nL [0,1]] ++ G0)) = some [.int 0,.int 1]:=jo row a b P _ (show (J ++ [nL [0,1]] ++ G0)[J.length]? = some (nL [0,1]) by simp)
  haveI ck:∀ X,(fun h' => stays (.ref (47 + J.length)) (hp row a b P (J ++ [nL [0,1]] ++ G0)) h') (hp row a b P (J ++ [nL [0,1]] ++ G0 ++ X)) = true:=fun X => by
   simp only [stays,eM]; simp
  haveI ck2:=ck (G ++ G')
  rw [← List.append_assoc] at ck2
  haveI pre:∀ X,fin (ag [bF 3 (aa 1) (ag [bF 4 (af (run ah (n + 18)) "generate" [(aa 0),(aa 3)]) (ag [aU (aX (af (run ah (n + 18)) "is_legal" [(aa 0),(aa 4),(aa 2)])) (ag [aw (ac (.bool true))]) (ag [])])]),aw (ac (.bool false))] f2 (hp row a b P (J ++ [nL [0,1]] ++ G0))) = X →
    run ah (n + 19) "has_legal_move" [.ref 42] (hp row a b P J) = X:=fun X z => by
   rw [fh]
   refine ae (am (D9 (aS (aM (ar (loc rfl) aG) ic) rfl) (c6 (ar aH (ar aH aG))))) ?_
   rw [kW,cH]
   exact ae (am (aM (ar (loc rfl) (ar (cn (loc rfl) (bV _ _ _ _ _)) aG)) pn)) z
  revert z1 y1
  cases (c9 b P k 0).any (eJ b P k) with
  | true =>
   intro z1 _
   refine ⟨[nL [0,1]] ++ G0 ++ G,pre _ ?_⟩
   rw [show J ++ ([nL [0,1]] ++ G0 ++ G) = J ++ [nL [0,1]] ++ G0 ++ G by simp]
   exact aA (br (loc rfl) hit (gj z1))
  | false =>
   intro z1 y1
   refine ⟨[nL [0,1]] ++ G0 ++ G ++ G',pre _ ?_⟩
   rw [show J ++ ([nL [0,1]] ++ G0 ++ G ++ G') = J ++ [nL [0,1]] ++ G0 ++ G ++ G' by simp]
   revert y1
   cases (c9 b P k 1).any (eJ b P k) with
   | true => exact fun y1 => aA (br (loc rfl) hit (bE z1 (ck G) (gj y1)))
   | false => exact fun y1 => ae (br (loc rfl) hit (bE z1 (ck G) (bE y1 ck2 rfl))) (aA (aC aH))
end
end
section
open PySem
section
variable (row:List Int) (a:Int) (b:B3) (P:PS) (J:H)
noncomputable def mK (P:PS) (k v:Nat):PS:=if k = 3 then { P with k3:=v } else if k = 4 then { P with k4:=v } else if k = 5 then { P with k5:=v } else { P with k6:=v }
noncomputable def tB (P:PS) (c v:Nat):PS:=if c = 0 then { P with s0:=v } else { P with s1:=v }
noncomputable def Kind (k:Nat):Prop:=k = 3 ∨ k = 4 ∨ k = 5 ∨ k = 6
theorem Kind.k2 {k:Nat} (h:Kind k):k = 2 ∨ k = 3 ∨ k = 4 ∨ k = 5 ∨ k = 6:=.inr h
theorem B9 {k:Nat} (v:Nat) (hk:Kind k):cy (.ref 44) (.int k) (.int v) (hp row a b P J) = some (hp row a b (mK P k v) J):=by
 rcases hk with rfl | rfl | rfl | rfl <;> rcases b with _|_|_ <;> rfl
theorem Cm {c:Nat} (v:Nat) (hc:c < 2):cy (.ref 45) (.int c) (.int v) (hp row a b P J) = some (hp row a b (tB P c v) J):=by
 match c,hc with
 | 0,_ | 1,_ => rcases b with _|_|_ <;> rfl
theorem n8 {k v c:Nat}:bS (mK P k v) c = bS P c:=by unfold bS mK; (repeat' split) <;> rfl
theorem dY {c k:Nat} (hc:c < 2) (hk:Kind k):(c * 8 + k) &&& 7 = k ∧ (c * 8 + k) >>> 3 = c ∧ c * 8 + k < 15 ∧ 0 < c * 8 + k:=by
 match c,hc with
 | 0,_ | 1,_ => rcases hk with rfl | rfl | rfl | rfl <;> decide
noncomputable def zT (p s:Nat):Nat:=(p * 31 + s + 1) * 65537
theorem Db (p:Nat) (hp':p < 15):aO (.ref 17) (.int p) (hp row a b P J) = some (.ref (2 + p)):=by
 rw [mu (vs:=(List.range 15).map fun p => V.ref (2 + p)) (by rcases b with _|_|_ <;> rfl) (by omega) (by omega)]
 rw [List.getElem?_map,List.getElem?_range hp']; rfl
theorem Dg (p:Nat) (hp':p < 15):(hp row a b P J)[2 + p]? = some (nL ((List.range (al b)).map (zT p))):=by
 haveI:∀ b:B3,∀ p:Fin 15,(AS b)[p.val]? = some (nL ((List.range (al b)).map (zT p.val))):=by intro b; rcases b with _|_|_ <;> decide +kernel
 rw [Go row a b P J (by omega) (by omega)]
 haveI e:=this b ⟨p,hp'⟩
 rw [show 2 + p - 2 = p by omega]
 exact e
theorem wg {p s:Nat} (hp':p < 15) (hs:s < al b):aO (.ref (2 + p)) (.int s) (hp row a b P J) = some (.int (zT p s)):=by
 haveI:=dG (h:=hp row a b P J) (i:=2 + p) (s:=s) (Dg row a b P J p hp') (by simpa using hs) (by haveI:=aR b; simp; omega)
 rw [this]
 congr 3
 rw [List.getD_eq_getElem?_getD,List.getElem?_map,List.getElem?_range hs]
 rfl
theorem qH {s p:Nat} (hl:P.bd.length = al b) (hs:s < al b) (h:P.bd.getD s 0 = p):aO (.ref 43) (.int s) (hp row a b P J) = some (.int p):=by
 rw [← h]
 exact dG (DP row a b P J) (by omega) (by haveI:=aR b; omega)
theorem rt {s:Nat} (p:Nat) (hl:P.bd.length = al b) (hs:s < al b):cy (.ref 43) (.int s) (.int p) (hp row a b P J) = some (hp row a b { P with bd:=P.bd.set s p } J):=
 zb (DP row a b P J) (by omega) (by haveI:=aR b; omega) (Gp row a b P J _)
noncomputable def bR (P:PS) (k:Nat):PS:={ P with key:=k }
noncomputable def h8 (P:PS) (s p:Nat):PS:={ P with bd:=P.bd.set s p }
noncomputable def qh (f:Nat → Nat) (P:PS) (c k:Nat):PS:=tB (mK P k (f (iH P k))) c (f (bS P c))
theorem j4 {k n p:Nat} {op:Operator} {F:Nat → Nat} {f:Fm} {e ep:Ex} (hk:Kind k) (h0:f 0 = some (.ref 42)) (he:∀ P,ep f (hp row a b P J) = some (.int p,hp row a b P J)) (hp':p &&& 7 = k)
  (hx:∃ x:Nat,(∀ P,e f (hp row a b P J) = some (.int x,hp row a b P J)) ∧ ∀ y:Nat,aQ op y x = some ((F y:Nat):Int)) :
  co (ai (aa 0) "kinds") (af (run ah (n + 1)) "kind_of" [ep]) op e f (hp row a b P J) = some (.next,f,hp row a b (mK P k (F (iH P k))) J):=by
 obtain ⟨x,hx,hF⟩:=hx
 haveI ko:=qq n p (hp row a b P J)
 rw [hp'] at ko
 exact qs (cn (loc h0) (sr _ _ _ _ _)) (aM (ar (he P) aG) ko) (zQ row a b P J hk.k2) (hx P) (hF _) (B9 row a b P J _ hk)
theorem j3 {c n p:Nat} {op:Operator} {F:Nat → Nat} {f:Fm} {e ep:Ex} (hc:c < 2) (h0:f 0 = some (.ref 42)) (he:∀ P,ep f (hp row a b P J) = some (.int p,hp row a b P J)) (hp':p >>> 3 = c)
  (hx:∃ x:Nat,(∀ P,e f (hp row a b P J) = some (.int x,hp row a b P J)) ∧ ∀ y:Nat,aQ op y x = some ((F y:Nat):Int)) :
  co (ai (aa 0) "sides") (af (run ah (n + 1)) "side_of" [ep]) op e f (hp row a b P J) = some (.next,f,hp row a b (tB P c (F (bS P c))) J):=by
 obtain ⟨x,hx,hF⟩:=hx
 haveI ko:=pO n p (hp row a b P J)
 rw [hp'] at ko
 exact qs (cn (loc h0) (um _ _ _ _ _)) (aM (ar (he P) aG) ko) (cD row a b P J hc) (hx P) (hF _) (Cm row a b P J _ hc)
theorem lv {f:Fm} {i:Nat} {v:V} (h:f i = some v):∀ P,aa i f (hp row a b P J) = some (v,hp row a b P J):=fun _ => loc h
theorem jF {z:Nat} {f:Fm} {e:Ex} (h0:f 0 = some (.ref 42)) (he:e f (hp row a b P J) = some (.int z,hp row a b P J)) :
  bh (aa 0) "key" .BitXor e f (hp row a b P J) = some (.next,f,hp row a b (bR P (P.key ^^^ z)) J):=
 jl (loc h0) (vY _ _ _ _ _) he (jC _ _) (Ap _ _ _ _ _ _)
theorem yG {p s:Nat} {f:Fm} {ep es:Ex} (h0:f 0 = some (.ref 42)) (hp':p < 15) (hs:s < al b) (kp:ep f (hp row a b P J) = some (.int p,hp row a b P J)) (ks:es f (hp row a b P J) = some (.int s,hp row a b P J)) :
  av (av (ai (ai (aa 0) "zob") "pieces") ep) es f (hp row a b P J) = some (.int (zT p s),hp row a b P J):=
 aW (aW (cn (cn (loc h0) (vH _ _ _ _ _)) (qm _ _ _ _ _)) kp (Db row a b P J p hp')) ks (wg row a b P J hp' hs)
noncomputable def bc (P:PS) (o g c k:Nat):PS:=qh (· ^^^ (1 <<< o ||| 1 <<< g)) (h8 (h8 P o 0) g (c * 8 + k)) c k
noncomputable def s9 (P:PS) (s c k:Nat):PS:=qh (· ^^^ 1 <<< s) (h8 P s 0) c k
noncomputable def jD (P:PS) (s c k:Nat):PS:=qh (· ||| 1 <<< s) (h8 P s (c * 8 + k)) c k
theorem lV {α : Type} (F:PS → α) (h3:∀ P v,F { P with k3:=v } = F P) (h4:∀ P v,F { P with k4:=v } = F P) (h5:∀ P v,F { P with k5:=v } = F P) (h6:∀ P v,F { P with k6:=v } = F P) (h0:∀ P v,F { P with s0:=v } = F P) (h1:∀ P v,F { P with s1:=v } = F P) (f:Nat → Nat) (P:PS) (c k:Nat):F (qh f P c k) = F P:=by
 haveI a:∀ Q k v,F (mK Q k v) = F Q:=fun Q k v => by
  unfold mK
  by_cases q3:k = 3
  ·rw [if_pos q3]; exact h3 ..
  ·rw [if_neg q3]
   by_cases q4:k = 4
   ·rw [if_pos q4]; exact h4 ..
   ·rw [if_neg q4]
    by_cases q5:k = 5
    ·rw [if_pos q5]; exact h5 ..
    ·rw [if_neg q5]; exact h6 ..
 haveI b:∀ Q c v,F (tB Q c v) = F Q:=fun Q c v => by
  unfold tB
  by_cases q:c = 0
  ·rw [if_pos q]; exact h0 ..
  ·rw [if_neg q]; exact h1 ..
 exact (b _ _ _).trans (a _ _ _)
theorem rG (f:Nat → Nat) (P:PS) (c k:Nat):(qh f P c k).bd = P.bd:=lV PS.bd (fun _ _ => rfl) (fun _ _ => rfl) (fun _ _ => rfl) (fun _ _ => rfl) (fun _ _ => rfl) (fun _ _ => rfl) f P c k
theorem wO (n o g c k:Nat) (hc:c < 2) (hk:Kind k) (hl:P.bd.length = al b) (ho:o < al b) (hg:g < al b) (hp':P.bd.getD o 0 = c * 8 + k) :
  ∃ z,run ah (n + 2) "shift_piece" [.ref 42,.int o,.int g] (hp row a b P J) = some (.none,hp row a b (bR (bc P o g c k) z) J):=by
 obtain ⟨p1,p2,p3,_⟩:=dY hc hk
 haveI hb:=aR b
 haveI hl2:(h8 P o 0).bd.length = al b:=by show (P.bd.set o 0).length = _; rw [List.length_set]; exact hl
 refine ⟨(bc P o g c k).key ^^^ (zT (c * 8 + k) o ^^^ zT (c * 8 + k) g),?_⟩
 rw [oT]
 refine ae (am (aW (cn (loc rfl) (cW _ _ _ _ _)) (loc rfl) (qH row a b P J hl ho hp'))) ?_
 refine ae (am (aL (aL aH (loc rfl) (kD o (by omega))) (aL aH (loc rfl) (kD g (by omega))) (y0 _ _))) ?_
 refine ae (gT aH (cn (loc rfl) (cW _ _ _ _ _)) (loc rfl) (rt row a b P J 0 hl ho)) ?_
 refine ae (gT (loc rfl) (cn (loc rfl) (cW _ _ _ _ _)) (loc rfl) (rt row a b (h8 P o 0) J (c * 8 + k) hl2 hg)) ?_
 refine ae (j4 (F:=(· ^^^ (1 <<< o ||| 1 <<< g))) row a b (h8 (h8 P o 0) g (c * 8 + k)) J (n:=n) hk rfl (lv row a b J rfl) p1 ⟨_,lv row a b J rfl,fun y => jC _ _⟩) ?_
 refine ae (j3 (F:=(· ^^^ (1 <<< o ||| 1 <<< g))) row a b _ J (n:=n) hc rfl (lv row a b J rfl) p2 ⟨_,lv row a b J rfl,fun y => jC _ _⟩) ?_
 rw [n8]
 refine ae (am (aW (cn (cn (loc rfl) (vH _ _ _ _ _)) (qm _ _ _ _ _)) (loc rfl) (Db row a b _ J _ p3))) ?_
 exact ae (jF row a b _ J rfl (aL (aW (loc rfl) (loc rfl) (wg row a b _ J p3 ho)) (aW (loc rfl) (loc rfl) (wg row a b _ J p3 hg)) (jC _ _))) rfl
theorem yW (n s c k:Nat) (hc:c < 2) (hk:Kind k) (hl:P.bd.length = al b) (hs:s < al b) (hp':P.bd.getD s 0 = c * 8 + k) :
  ∃ z,run ah (n + 2) "take_piece" [.ref 42,.int s] (hp row a b P J) = some (.int ((c * 8 + k:Nat)),hp row a b (bR (s9 P s c k) z) J):=by
 obtain ⟨p1,p2,p3,_⟩:=dY hc hk
 haveI hb:=aR b
 refine ⟨(s9 P s c k).key ^^^ zT (c * 8 + k) s,?_⟩
 rw [rm]
 refine ae (am (aW (cn (loc rfl) (cW _ _ _ _ _)) (loc rfl) (qH row a b P J hl hs hp'))) ?_
 refine ae (am (aL aH (loc rfl) (kD s (by omega)))) ?_
 refine ae (gT aH (cn (loc rfl) (cW _ _ _ _ _)) (loc rfl) (rt row a b P J 0 hl hs)) ?_
 refine ae (j4 (F:=(· ^^^ 1 <<< s)) row a b (h8 P s 0) J (n:=n) hk rfl (lv row a b J rfl) p1 ⟨_,lv row a b J rfl,fun y => jC _ _⟩) ?_
 refine ae (j3 (F:=(· ^^^ 1 <<< s)) row a b _ J (n:=n) hc rfl (lv row a b J rfl) p2 ⟨_,lv row a b J rfl,fun y => jC _ _⟩) ?_
 rw [n8]
 exact ae (jF row a b _ J rfl (yG row a b _ J rfl p3 hs (loc rfl) (loc rfl))) (aA (aC (loc rfl)))
theorem wX (n s c k:Nat) (hc:c < 2) (hk:Kind k) (hl:P.bd.length = al b) (hs:s < al b) :
  ∃ z,run ah (n + 2) "put_piece" [.ref 42,.int ((c * 8 + k:Nat)),.int s] (hp row a b P J) = some (.none,hp row a b (bR (jD P s c k) z) J):=by
 obtain ⟨p1,p2,p3,_⟩:=dY hc hk
 haveI hb:=aR b
 refine ⟨(jD P s c k).key ^^^ zT (c * 8 + k) s,?_⟩
 rw [uJ]
 refine ae (am (aL aH (loc rfl) (kD s (by omega)))) ?_
 refine ae (gT (loc rfl) (cn (loc rfl) (cW _ _ _ _ _)) (loc rfl) (rt row a b P J (c * 8 + k) hl hs)) ?_
 refine ae (j4 (F:=(· ||| 1 <<< s)) row a b (h8 P s (c * 8 + k)) J (n:=n) hk rfl (lv row a b J rfl) p1 ⟨_,lv row a b J rfl,fun y => y0 _ _⟩) ?_
 refine ae (j3 (F:=(· ||| 1 <<< s)) row a b _ J (n:=n) hc rfl (lv row a b J rfl) p2 ⟨_,lv row a b J rfl,fun y => y0 _ _⟩) ?_
 rw [n8]
 exact ae (jF row a b _ J rfl (yG row a b _ J rfl p3 hs (loc rfl) (loc rfl))) rfl
end
end
section
open PySem
section
variable (row:List Int) (a:Int) (b:B3) (P:PS) (J:H)
noncomputable def fJ (P:PS) (h:List (List Int)):PS:={ P with hist:=h }
noncomputable def pS (P:PS) (h:Int):PS:={ P with half:=h }
theorem C7 (h:List (List Int)):(hp row a b P J).set 46 (.list (h.map V.tup)) = hp row a b (fJ P h) J:=by rcases b with _|_|_ <;> rfl
theorem Au {g:G} {f:Fm} {e:Ex} {l:List Int} (h0:f 0 = some (.ref 42)) (he:e f (hp row a b P J) = some (.tup l,hp row a b P J)) (hz:P.hist.length ≤ 1000) :
  aZ g (ai (aa 0) "history") "append" [e] f (hp row a b P J) = some (.none,hp row a b (fJ P (P.hist ++ [l])) J):=by
 haveI:=fQ (g:=g) (acc:=P.hist.map V.tup) (cn (loc h0) (di row a b P J)) (zq row a b P J) he (zq row a b P J) (by simpa using hz)
 rw [this,← C7,List.map_append]
 rfl
theorem AM {g:G} {f:Fm} {h:List (List Int)} {l:List Int} (h0:f 0 = some (.ref 42)) (hh:P.hist = h ++ [l]) (hz:h.length ≤ 1000) :
  aZ g (ai (aa 0) "history") "pop" [] f (hp row a b P J) = some (.tup l,hp row a b (fJ P h) J):=by
 haveI h46:=zq row a b P J
 rw [qO,cn (loc h0) (di row a b P J)]
 simp only [Option.bind_some,h46,aG]
 unfold gv
 simp only [h46,hh,List.map_append,List.map_cons,List.map_nil,List.getLast?_append,List.getLast?_singleton,Option.some_or]
 rw [if_pos trivial,if_pos (by simp; omega)]
 haveI e:(h.map V.tup ++ [V.tup l]).dropLast = h.map V.tup:=List.dropLast_concat
 rw [e,C7]
theorem mA (n:Nat) (hz:P.hist.length ≤ 1000):run ah (n + 1) "len" [.ref 46] (hp row a b P J) = some (.int P.hist.length,hp row a b P J):=by
 rw [sj n (zq row a b P J) (by rw [List.length_map]; omega),List.length_map]
theorem xT {i s:Nat} {l:List Nat} (h:(hp row a b P J)[i]? = some (nL l)) (hl:l = List.replicate (al b) 0) (hs:s < al b):aO (.ref i) (.int s) (hp row a b P J) = some (.int 0):=by
 haveI:=dG (s:=s) h (by rw [hl]; simpa using hs) (by rw [hl]; haveI:=aR b; simp; omega)
 rw [this,hl]
 congr 3
 rw [List.getD_eq_getElem?_getD,List.getElem?_replicate]
 split <;> rfl
theorem t9 {s:Nat} (hs:s < al b):aO (.ref 38) (.int s) (hp row a b P J) = some (.int 0):=
 xT row a b P J (i:=38) (l:=List.replicate (al b) 0) (by rcases b with _|_|_ <;> rfl) rfl hs
theorem xI:bj (.ref 42) "rights" (.int 0) (hp row a b P J) = some (hp row a b P J):=by rcases b with _|_|_ <;> rfl
theorem Ff:bj (.ref 42) "ep" (.int (-1)) (hp row a b P J) = some (hp row a b P J):=by rcases b with _|_|_ <;> rfl
theorem oV (n m o g c k:Nat) (hc:c < 2) (hk:Kind k) (hs:P.side = c) (hl:P.bd.length = al b) (ho:o < al b) (hg:g < al b) (hp':P.bd.getD o 0 = c * 8 + k) (m1:m >>> 6 &&& 63 = o) (m2:m &&& 63 = g) :
  run ah (n + 2) "moved_piece" [.ref 42,.int m] (hp row a b P J) = some (.int ((c * 8 + k:Nat)),hp row a b P J):=by
 obtain ⟨p1,p2,p3,p4⟩:=dY hc hk
 haveI mf:=eF n m (hp row a b P J)
 haveI mt:=e8 n m (hp row a b P J)
 haveI so:=pO n (c * 8 + k) (hp row a b P J)
 rw [m1] at mf
 rw [m2] at mt
 rw [p2] at so
 haveI d1:decide (((al b:Nat):Int) ≤ (o:Int)) = false:=by simp; omega
 haveI d2:decide (((al b:Nat):Int) ≤ (g:Int)) = false:=by simp; omega
 haveI d3:decide (((c * 8 + k:Nat):Int) = 0) = false:=by simp; omega
 haveI d4:(!decide ((c:Int) = (P.side:Int))) = false:=by simp [hs]
 refine (pb ..).trans ?_
 refine ae (am (aM (ar (loc rfl) aG) mf)) ?_
 refine ae (aI (fS (aq (loc rfl) (cn (cn (loc rfl) (j9 _ _ _ _ _)) (xb _ _ _ _ _)) ((AL _ _ _).trans (congrArg some d1))) (fS (aq (aM (ar (loc rfl) aG) mt) (cn (cn (loc rfl) (j9 _ _ _ _ _)) (xb _ _ _ _ _)) ((AL _ _ _).trans (congrArg some d2))) mZ))) ?_
 refine ae (am (aW (cn (loc rfl) (cW _ _ _ _ _)) (loc rfl) (qH row a b P J hl ho hp'))) ?_
 refine ae (aI (fS (aq (loc rfl) aH ((jd _ _ _).trans (congrArg some d3))) (fS (aq (aM (ar (loc rfl) aG) so) (cn (loc rfl) (bV _ _ _ _ _)) ((tP _ _ _).trans (congrArg some d4))) mZ))) ?_
 exact aA (aC (loc rfl))
theorem jQ (n m:Nat) (hm:m < 16384) (h:H):run ah (n + 1) "move_special" [.int m] h = some (.int 0,h):=by
 haveI:=gi n m h
 haveI h14:m >>> 14 &&& 3 = 0:=by
  have:m >>> 14 = 0:=by rw [Nat.shiftRight_eq_div_pow]; omega
  rw [this]; simp
 rw [h14] at this; exact this
theorem gy (n m g:Nat) (hm:m < 16384) (m2:m &&& 63 = g):run ah (n + 2) "taken_square_makemove" [.ref 42,.int m] (hp row a b P J) = some (.int g,hp row a b P J):=by
 haveI mt:=e8 n m (hp row a b P J)
 rw [m2] at mt
 refine (fe ..).trans ?_
 exact ae (am (aM (ar (loc rfl) aG) mt)) (aA (aT (aq (aM (ar (loc rfl) aG) (jQ n m hm _)) aH rfl) (aN (aC (loc rfl)))))
theorem v5 (n:Nat):run ah (n + 1) "clear_ep_key" [.ref 42] (hp row a b P J) = some (.none,hp row a b P J):=by
 refine (mi ..).trans ?_
 exact ae (aI (aq (cn (loc rfl) (CY _ _ _ _ _)) aH rfl)) rfl
theorem oR (n o g:Nat) (ho:o < al b) (hg:g < al b):run ah (n + 1) "kept_rights" [.ref 42,.int o,.int g] (hp row a b P J) = some (.int 0,hp row a b P J):=by
 refine (pj ..).trans ?_
 refine ae (am (aL (aW (cn (cn (loc rfl) (j9 _ _ _ _ _)) (wC _ _ _ _ _)) (loc rfl) (t9 row a b P J ho)) (aW (cn (cn (loc rfl) (j9 _ _ _ _ _)) (wC _ _ _ _ _)) (loc rfl) (t9 row a b P J hg)) GR)) ?_
 exact aA (aC (aL (cn (loc rfl) (gK _ _ _ _ _)) (aL (cn (loc rfl) (gK _ _ _ _ _)) (loc rfl) FY) rfl))
theorem rY (n:Nat):run ah (n + 1) "set_rights_key" [.ref 42,.int 0] (hp row a b P J) = some (.none,hp row a b P J):=by
 refine (jV ..).trans ?_
 exact ae (aI (aq (loc rfl) (cn (loc rfl) (gK _ _ _ _ _)) rfl)) rfl
inductive Took (P P':PS) (g c:Nat):Nat → Prop
 | no (h:P' = P):Took P P' g c 0
 | yes (k z:Nat) (hk:Kind k) (h:P' = pS (bR (s9 P g c k) z) 0):Took P P' g c (c * 8 + k)
theorem AV (n g c t:Nat) (hc:c < 2) (hl:P.bd.length = al b) (hg:g < al b) (ht:P.bd.getD g 0 = t) (hk:t = 0 ∨ ∃ k,Kind k ∧ t = c * 8 + k) :
  ∃ P',Took P P' g c t ∧ ∀ f:Fm,f 0 = some (.ref 42) → f 8 = some (.int g) → f 9 = some (.int t) →
   aU (ax .NotEq (aa 9) (ac (.int 0))) (ag [au (af (run ah (n + 2)) "take_piece" [(aa 0),(aa 8)]),a8 (aa 0) "half" (ac (.int 0))]) (ag []) f (hp row a b P J) = some (.next,f,hp row a b P' J):=by
 rcases hk with rfl | ⟨k,hk,rfl⟩
 ·exact ⟨P,.no rfl,fun f f0 f8 f9 => aI (aq (loc f9) aH rfl)⟩
 ·obtain ⟨z,r⟩:=yW row a b P J n g c k hc hk hl hg ht
  obtain ⟨_,_,_,p4⟩:=dY hc hk
  haveI d:(!decide (((c * 8 + k:Nat):Int) = 0)) = true:=by simp; omega
  exact ⟨_,.yes k z hk rfl,fun f f0 f8 f9 => aT (aq (loc f9) aH ((tP _ _ _).trans (congrArg some d))) (ak (aD (aM (ar (loc f0) (ar (loc f8) aG)) r) rfl) (ak (c8 aH (loc f0) (qD _ _ _ _ _ _)) rfl))⟩
noncomputable def zm (P:PS) (m t:Nat):List Int:=[(m:Int),(t:Int),0,-1,P.half,(P.key:Int)]
noncomputable def vf (P:PS) (m t:Nat):PS:=pS (fJ P (P.hist ++ [zm P m t])) (P.half + 1)
noncomputable def jv (P:PS) (c:Nat):PS:={ P with full:=if c = 1 then P.full + 1 else P.full }
noncomputable def dI (P:PS) (c:Nat):PS:={ P with side:=c }
theorem Bu (c:Nat) (hc:c < 2) (f:Fm) (f0:f 0 = some (.ref 42)) (f3:f 3 = some (.int c)) :
  aU (ax .Eq (aa 3) (ac (.int 1))) (ag [bh (aa 0) "full" .Add (ac (.int 1))]) (ag []) f (hp row a b P J) = some (.next,f,hp row a b (jv P c) J):=by
 match c,hc with
 | 0,_ => exact aI (aq (loc f3) aH rfl)
 | 1,_ => exact aT (aq (loc f3) aH rfl) (ak (jl (loc f0) (qv _ _ _ _ _) aH (kU _ _) (wy _ _ _ _ _ _)) rfl)
theorem yl (n m o g c k t:Nat) (hc:c < 2) (hk:Kind k) (hs:P.side = c) (hl:P.bd.length = al b) (ho:o < al b) (hg:g < al b) (hog:o ≠ g) (hp':P.bd.getD o 0 = c * 8 + k) (hm:m < 16384) (m1:m >>> 6 &&& 63 = o) (m2:m &&& 63 = g)
  (ht:P.bd.getD g 0 = t) (htk:t = 0 ∨ ∃ k,Kind k ∧ t = (1 - c) * 8 + k) (hz:P.hist.length ≤ 1000) :
  ∃ P2 z z',Took (vf P m t) P2 g (1 - c) t ∧ run ah (n + 4) "do_move" [.ref 42,.int m] (hp row a b P J) = some (.none,hp row a b (bR (dI (jv (bR (bc P2 o g c k) z) c) (1 - c)) z') J):=by
 obtain ⟨P2,hT,ti⟩:=AV row a b (vf P m t) J (n + 1) g (1 - c) t (by omega) hl hg ht htk
 have hb:P2.bd.length = al b ∧ P2.bd.getD o 0 = c * 8 + k:=by
  cases hT with
  | no h => rw [h]; exact ⟨hl,hp'⟩
  | yes k' z hk' h =>
   have e:P2.bd = P.bd.set g 0:=by rw [h]; exact rG ..
   rw [e,List.length_set,List.getD_eq_getElem?_getD,List.getElem?_set_ne (Ne.symm hog),← List.getD_eq_getElem?_getD]
   exact ⟨hl,hp'⟩
 obtain ⟨z,sh⟩:=wO row a b P2 J (n + 1) o g c k hc hk hb.1 ho hg hb.2
 obtain ⟨p1,p2,p3,p4⟩:=dY hc hk
 have ko:=qq (n + 2) (c * 8 + k) (hp row a b (bR (bc P2 o g c k) z) J)
 rw [p1] at ko
 have mf:=eF (n + 2) m (hp row a b P J)
 have mt:=e8 (n + 2) m (hp row a b P J)
 rw [m1] at mf
 rw [m2] at mt
 have dk:decide ((k:Int) = 1) = false:=by rcases hk with rfl | rfl | rfl | rfl <;> decide
 have e1:aQ .Sub 1 (c:Int) = some ((1 - c:Nat):Int):=(d9 _ _).trans (congrArg some (g5 hc))
 refine ⟨P2,z,(dI (jv (bR (bc P2 o g c k) z) c) (1 - c)).key ^^^ 1,hT,?_⟩
 rw [xx]
 refine ae (am (aM (ar (loc rfl) (ar (loc rfl) aG)) (oV row a b P J (n + 1) m o g c k hc hk hs hl ho hg hp' m1 m2))) ?_
 refine ae (am (cn (loc rfl) (bV _ _ _ _ _))) ?_
 rw [hs]
 refine ae (am (aM (ar (loc rfl) aG) mf)) ?_
 refine ae (am (aM (ar (loc rfl) aG) mt)) ?_
 refine ae (am (aM (ar (loc rfl) aG) (jQ (n + 2) m hm _))) ?_
 refine ae (am (eN (ar (pP aH) (ar (pP aH) aG)) rfl)) ?_
 refine ae (aI (aq (loc rfl) aH rfl)) ?_
 refine ae (am (aM (ar (loc rfl) (ar (loc rfl) aG)) (gy row a b P J (n + 1) m g hm m2))) ?_
 refine ae (am (aW (cn (loc rfl) (cW _ _ _ _ _)) (loc rfl) (qH row a b P J hl hg ht))) ?_
 refine ae (aD (Au row a b P J rfl (eN (ar (loc rfl) (ar (loc rfl) (ar (cn (loc rfl) (gK _ _ _ _ _)) (ar (cn (loc rfl) (CY _ _ _ _ _)) (ar (cn (loc rfl) (rT _ _ _ _ _)) (ar (cn (loc rfl) (vY _ _ _ _ _)) aG)))))) rfl) hz) rfl) ?_
 refine ae (aD (aM (ar (loc rfl) aG) (v5 row a b _ J (n + 2))) rfl) ?_
 refine ae (jl (loc rfl) (rT _ _ _ _ _) aH (kU _ _) (qD _ _ _ _ _ _)) ?_
 refine ae (ti _ rfl rfl rfl) ?_
 refine ae (tO (aq (loc rfl) aH rfl) (ak (aD (aM (ar (loc rfl) (ar (loc rfl) (ar (loc rfl) aG))) sh) rfl) rfl)) ?_
 refine ae (aI (aq (loc rfl) aH rfl)) ?_
 refine ae (aI (aq (aM (ar (loc rfl) aG) ko) aH ((jd _ _ _).trans (congrArg some dk)))) ?_
 refine ae (aD (aM (ar (loc rfl) (ar (aM (ar (loc rfl) (ar (loc rfl) (ar (loc rfl) aG))) (oR row a b _ J (n + 2) o g ho hg)) aG)) (rY row a b _ J (n + 2))) rfl) ?_
 refine ae (Bu row a b _ J c hc _ rfl rfl) ?_
 refine ae (c8 (aL aH (loc rfl) e1) (loc rfl) (qM _ _ _ _ _ _)) ?_
 exact ae (jF row a b _ J rfl (cn (cn (loc rfl) (vH _ _ _ _ _)) (Cj _ _ _ _ _))) rfl
end
end
section
open PySem
section
variable (row:List Int) (a:Int) (b:B3) (P:PS) (J:H)
inductive Put (P P':PS) (g c:Nat):Nat → Prop
 | no (h:P' = P):Put P P' g c 0
 | yes (k z:Nat) (hk:Kind k) (h:P' = bR (jD P g c k) z):Put P P' g c (c * 8 + k)
theorem D0 (n m g c t:Nat) (hc:c < 2) (hm:m < 16384) (m2:m &&& 63 = g) (hl:P.bd.length = al b) (hg:g < al b) (hk:t = 0 ∨ ∃ k,Kind k ∧ t = c * 8 + k) :
  ∃ P',Put P P' g c t ∧ ∀ f:Fm,f 0 = some (.ref 42) → f 1 = some (.int m) → f 2 = some (.int t) →
   aU (ax .NotEq (aa 2) (ac (.int 0))) (ag [au (af (run ah (n + 2)) "put_piece" [(aa 0),(aa 2),(af (run ah (n + 2)) "taken_square_makemove" [(aa 0),(aa 1)])])]) (ag []) f (hp row a b P J) = some (.next,f,hp row a b P' J):=by
 rcases hk with rfl | ⟨k,hk,rfl⟩
 ·exact ⟨P,.no rfl,fun f f0 f1 f2 => aI (aq (loc f2) aH rfl)⟩
 ·obtain ⟨z,r⟩:=wX row a b P J n g c k hc hk hl hg
  obtain ⟨_,_,_,p4⟩:=dY hc hk
  haveI d:(!decide (((c * 8 + k:Nat):Int) = 0)) = true:=by simp; omega
  exact ⟨_,.yes k z hk rfl,fun f f0 f1 f2 => aT (aq (loc f2) aH ((tP _ _ _).trans (congrArg some d)))
   (ak (aD (aM (ar (loc f0) (ar (loc f2) (ar (aM (ar (loc f0) (ar (loc f1) aG)) (gy row a b P J n m g hm m2)) aG))) r) rfl) rfl)⟩
noncomputable def lR (P:PS) (c:Nat):PS:={ P with full:=if c = 1 then P.full - 1 else P.full }
theorem xD (c:Nat) (hc:c < 2) (f:Fm) (f0:f 0 = some (.ref 42)) (f3:f 7 = some (.int c)) :
  aU (ax .Eq (aa 7) (ac (.int 1))) (ag [bh (aa 0) "full" .Sub (ac (.int 1))]) (ag []) f (hp row a b P J) = some (.next,f,hp row a b (lR P c) J):=by
 match c,hc with
 | 0,_ => exact aI (aq (loc f3) aH rfl)
 | 1,_ => exact aT (aq (loc f3) aH rfl) (ak (jl (loc f0) (qv _ _ _ _ _) aH (d9 _ _) (wy _ _ _ _ _ _)) rfl)
theorem y7 {c:Nat} (hc:c < 2):aQ .Sub 1 ((1 - c:Nat):Int) = some (c:Int):=(d9 _ _).trans (congrArg some (g6 hc))
theorem tL (n m o g c k t key:Nat) (half:Int) (h:List (List Int)) (hh:P.hist = h ++ [[(m:Int),(t:Int),0,-1,half,(key:Int)]]) (hz:h.length ≤ 999) (hc:c < 2) (hk:Kind k) (hs:P.side = 1 - c) (hl:P.bd.length = al b) (ho:o < al b) (hg:g < al b)
  (hp':P.bd.getD g 0 = c * 8 + k) (hm:m < 16384) (m1:m >>> 6 &&& 63 = o) (m2:m &&& 63 = g) (htk:t = 0 ∨ ∃ k,Kind k ∧ t = (1 - c) * 8 + k) :
  ∃ P2 z,Put (bR (bc (dI (fJ P h) c) g o c k) z) P2 g (1 - c) t ∧ run ah (n + 4) "undo_move" [.ref 42] (hp row a b P J) = some (.none,hp row a b (bR (pS (lR P2 c) half) key) J):=by
 obtain ⟨z,sh⟩:=wO row a b (dI (fJ P h) c) J (n + 1) g o c k hc hk hl hg ho hp'
 haveI hl2:(bR (bc (dI (fJ P h) c) g o c k) z).bd.length = al b:=by
  haveI:(bc (dI (fJ P h) c) g o c k).bd = (P.bd.set g 0).set o (c * 8 + k):=rG ..
  show (bc (dI (fJ P h) c) g o c k).bd.length = _
  rw [this,List.length_set,List.length_set]; exact hl
 obtain ⟨P2,hP,pi⟩:=D0 row a b (bR (bc (dI (fJ P h) c) g o c k) z) J (n + 1) m g (1 - c) t (by omega) hm m2 hl2 hg htk
 haveI mf:=eF (n + 2) m (hp row a b (dI (fJ P h) c) J)
 haveI mt:=e8 (n + 2) m (hp row a b (dI (fJ P h) c) J)
 rw [m1] at mf
 rw [m2] at mt
 haveI e1:=y7 hc
 haveI hlen:P.hist.length = h.length + 1:=by rw [hh]; simp
 haveI dl:decide ((P.hist.length:Int) = 0) = false:=decide_eq_false (by omega)
 refine ⟨P2,z,hP,?_⟩
 rw [uq]
 refine ae (aI (aq (aM (ar (cn (loc rfl) (di _ _ _ _ _)) aG) (mA row a b P J (n + 2) (by omega))) aH ((jd _ _ _).trans (congrArg some dl)))) ?_
 refine ae (mT (AM row a b P J rfl hh (by omega)) rfl) ?_
 refine ae (am (aL aH (cn (loc rfl) (bV _ _ _ _ _)) (by show aQ .Sub 1 (P.side:Int) = _; rw [hs]; exact e1))) ?_
 refine ae (c8 (loc rfl) (loc rfl) (qM _ _ _ _ _ _)) ?_
 refine ae (am (aM (ar (loc rfl) aG) mf)) ?_
 refine ae (am (aM (ar (loc rfl) aG) mt)) ?_
 refine ae (am (aM (ar (loc rfl) aG) (jQ (n + 2) m hm _))) ?_
 refine ae (tO (aq (loc rfl) aH rfl) (ak (aD (aM (ar (loc rfl) (ar (loc rfl) (ar (loc rfl) aG))) sh) rfl) rfl)) ?_
 refine ae (aI (aq (loc rfl) aH rfl)) ?_
 refine ae (pi _ rfl rfl rfl) ?_
 refine ae (xD row a b _ J c hc _ rfl rfl) ?_
 refine ae (c8 (loc rfl) (loc rfl) (xI _ _ _ _ _)) ?_
 refine ae (c8 (loc rfl) (loc rfl) (Ff _ _ _ _ _)) ?_
 refine ae (c8 (loc rfl) (loc rfl) (qD _ _ _ _ _ _)) ?_
 exact ae (c8 (loc rfl) (loc rfl) (Ap _ _ _ _ _ _)) rfl
end
end
section
open PySem
structure St where
 c:Nat
 k:Nat
 e:Nat
 sl:Option (Nat × Nat)
 side:Nat
structure dL where
 half:Int
 full:Int
 key:Nat
 hist:List (List Int)
namespace St
noncomputable def bs (S:St):Nat:=match S.sl with | some (_,s) => 1 <<< s | none => 0
noncomputable def kb (S:St) (j:Nat):Nat:=match S.sl with | some (i,s) => if i = j then 1 <<< s else 0 | none => 0
noncomputable def pcAt (S:St) (q:Nat):Nat:=if q = S.k then S.c * 8 + 6 else if q = S.e then (1 - S.c) * 8 + 6 else match S.sl with | some (j,s) => if q = s then S.c * 8 + j else 0 | none => 0
noncomputable def strong (S:St):Nat:=1 <<< S.k ||| S.bs
noncomputable def ps (S:St) (b:B3) (X:dL):PS:=⟨(List.range (al b)).map S.pcAt,S.kb 3,S.kb 4,S.kb 5,1 <<< S.k ||| 1 <<< S.e,if S.c = 0 then S.strong else 1 <<< S.e,if S.c = 0 then 1 <<< S.e else S.strong,S.side,X.half,X.full,X.key,X.hist⟩
noncomputable def king (S:St):Nat:=if S.side = S.c then S.k else S.e
noncomputable def occ (S:St):Nat:=S.strong ||| 1 <<< S.e
end St
noncomputable def lL (b:B3) (j q occ s:Nat):Bool:=(j != 3 && (bC b q occ).testBit s) || (j != 4 && (bn b q occ).testBit s)
noncomputable def j1 (b:B3) (S:St) (q occ:Nat):Bool:=(cu b q).testBit S.k || S.sl.any fun x => lL b x.1 q occ x.2
structure WF (b:B3) (S:St):Prop where
 c:S.c < 2
 side:S.side < 2
 k:S.k < al b
 e:S.e < al b
 ke:S.k ≠ S.e
 apart:(cu b S.e).testBit S.k = false
 sl:∀ j s,S.sl = some (j,s) → (j = 3 ∨ j = 4 ∨ j = 5) ∧ s < al b ∧ s ≠ S.k ∧ s ≠ S.e
 calm:S.side = S.c → j1 b S S.e S.occ = false
theorem tb (i j:Nat):(1 <<< i).testBit j = decide (i = j):=by rw [Nat.one_shiftLeft,Nat.testBit_two_pow]
theorem rQ {x:Nat}:(x != 0) = true ↔ ∃ i,x.testBit i = true:=by
 rw [bne_iff_ne]
 constructor
 ·intro h
  exact Nat.exists_testBit_of_ne_zero h
 ·rintro ⟨i,h⟩ rfl
  simp at h
theorem mV {x s:Nat} (h:∀ i,x.testBit i = true → i = s):x = 0 ∨ x = 1 <<< s:=by
 by_cases hs:x.testBit s = true
 ·right
  apply Nat.eq_of_testBit_eq
  intro i
  rw [tb]
  by_cases e:s = i
  ·subst e; simp [hs]
  ·cases hx:x.testBit i with
   | false => simp [e]
   | true => exact absurd (h i hx).symm e
 ·left
  apply Nat.eq_of_testBit_eq
  intro i
  rw [Nat.zero_testBit]
  cases hx:x.testBit i with
  | false => rfl
  | true => haveI:=h i hx; subst this; exact absurd hx hs
section
variable {b:B3} {S:St} {X:dL}
theorem zC {i:Nat}:S.bs.testBit i = true ↔ ∃ j,S.sl = some (j,i):=by
 unfold St.bs
 split
 ·rename_i j s h
  rw [h,tb,decide_eq_true_eq]
  exact ⟨fun e => ⟨j,by rw [e]⟩,fun ⟨j',e⟩ => (Prod.mk.inj (Option.some.inj e)).2⟩
 ·rename_i h
  rw [h]; simp
theorem cO {j i:Nat}:(S.kb j).testBit i = true ↔ S.sl = some (j,i):=by
 unfold St.kb
 split
 ·rename_i j' s h
  rw [h]
  by_cases e:j' = j
  ·subst e; rw [if_pos rfl,tb,decide_eq_true_eq]; simp
  ·rw [if_neg e]; simp [e]
 ·rename_i h
  rw [h]; simp
theorem dQ:bS (S.ps b X) S.c = S.strong:=by
 unfold bS St.ps
 by_cases h:S.c = 0
 ·rw [if_pos h]; dsimp only; rw [if_pos h]
 ·rw [if_neg h]; dsimp only; rw [if_neg h]
theorem i9 (hc:S.c < 2):bS (S.ps b X) (1 - S.c) = 1 <<< S.e:=by
 unfold bS St.ps
 by_cases h:S.c = 0
 ·rw [if_neg (by omega)]; dsimp only; rw [if_pos h]
 ·rw [if_pos (by omega)]; dsimp only; rw [if_neg h]
theorem mm:(S.ps b X).s0 ||| (S.ps b X).s1 = S.occ:=by
 unfold St.ps St.occ
 by_cases h:S.c = 0
 ·simp only [h,if_true]
 ·simp only [h,if_false]; exact Nat.or_comm _ _
theorem cN {i:Nat}:S.strong.testBit i = true ↔ i = S.k ∨ ∃ j,S.sl = some (j,i):=by
 unfold St.strong
 rw [Nat.testBit_or,Bool.or_eq_true,tb,decide_eq_true_eq,zC]
 exact or_congr eq_comm Iff.rfl
theorem vW {i:Nat}:(S.ps b X).k6.testBit i = true ↔ i = S.k ∨ i = S.e:=by
 show (1 <<< S.k ||| 1 <<< S.e).testBit i = true ↔ _
 rw [Nat.testBit_or,Bool.or_eq_true,tb,tb,decide_eq_true_eq,decide_eq_true_eq]
 exact or_congr eq_comm eq_comm
theorem bU {x y i:Nat}:(x &&& y).testBit i = true ↔ x.testBit i = true ∧ y.testBit i = true:=by rw [Nat.testBit_and,Bool.and_eq_true]
theorem cX {x y i:Nat}:(x ||| y).testBit i = true ↔ x.testBit i = true ∨ y.testBit i = true:=by rw [Nat.testBit_or,Bool.or_eq_true]
theorem jj (x y:Nat):(x != 0 && (y &&& x) != 0) = ((y &&& x) != 0):=by
 cases h:(y &&& x) != 0 with
 | false => rw [Bool.and_false]
 | true =>
  obtain ⟨i,hi⟩:=rQ.mp h
  rw [rQ.mpr ⟨i,(bU.mp hi).2⟩]; rfl
theorem iz (W:WF b S) (q occ:Nat):nq b (S.ps b X) q S.c occ = j1 b S q occ:=by
 unfold nq
 rw [jj,jj,dQ,Bool.eq_iff_iff]
 simp only [Bool.or_eq_true,rQ,bU,cX,cN,vW]
 unfold j1
 rw [Bool.or_eq_true,Option.any_eq_true]
 constructor
 ·rintro (⟨i,⟨h1,h2⟩,h3⟩ | ⟨i,h1,h2,h3⟩ | ⟨i,h1,h2,h3⟩)
  ·left
   rcases h2 with rfl | rfl
   ·exact h1
   ·rcases h3 with h3 | ⟨j,h3⟩
    ·exact absurd h3.symm W.ke
    ·exact absurd rfl (W.sl _ _ h3).2.2.2
  ·right
   rcases h2 with h2 | h2
   ·haveI h2:S.sl = some (4,i):=cO.mp h2
    exact ⟨_,h2,by simp [lL,h1]⟩
   ·have h2:S.sl = some (5,i):=cO.mp h2
    exact ⟨_,h2,by simp [lL,h1]⟩
  ·right
   rcases h2 with h2 | h2
   ·haveI h2:S.sl = some (3,i):=cO.mp h2
    exact ⟨_,h2,by simp [lL,h1]⟩
   ·have h2:S.sl = some (5,i):=cO.mp h2
    exact ⟨_,h2,by simp [lL,h1]⟩
 ·rintro (h | ⟨⟨j,s⟩,hs,h⟩)
  ·exact .inl ⟨S.k,⟨h,.inl rfl⟩,.inl rfl⟩
  ·right
   unfold lL at h
   simp only [Bool.or_eq_true,Bool.and_eq_true,bne_iff_ne] at h
   obtain ⟨hj,_⟩:=W.sl _ _ hs
   haveI k4:j = 4 → (S.ps b X).k4.testBit s = true:=fun e => cO.mpr (by rw [hs,e])
   haveI k5:j = 5 → (S.ps b X).k5.testBit s = true:=fun e => cO.mpr (by rw [hs,e])
   haveI k3:j = 3 → (S.ps b X).k3.testBit s = true:=fun e => cO.mpr (by rw [hs,e])
   rcases h with ⟨h1,h2⟩ | ⟨h1,h2⟩
   ·left; exact ⟨s,h2,hj.elim (fun e => absurd e h1) fun e => e.elim (fun e => .inl (k4 e)) fun e => .inr (k5 e),.inr ⟨j,hs⟩⟩
   ·right; exact ⟨s,h2,hj.elim (fun e => .inl (k3 e)) fun e => e.elim (fun e => absurd e h1) fun e => .inr (k5 e),.inr ⟨j,hs⟩⟩
theorem jJ (W:WF b S) {i j:Nat} (h:(S.kb j).testBit i = true):i ≠ S.e:=(W.sl _ _ (cO.mp h)).2.2.2
theorem tZ (W:WF b S) (q occ:Nat):nq b (S.ps b X) q (1 - S.c) occ = (cu b q).testBit S.e:=by
 unfold nq
 rw [jj,jj,i9 W.c,Bool.eq_iff_iff]
 simp only [Bool.or_eq_true,rQ,bU,cX,vW,tb,decide_eq_true_eq]
 constructor
 ·rintro (⟨i,⟨h1,h2⟩,rfl⟩ | ⟨i,h1,h2,rfl⟩ | ⟨i,h1,h2,rfl⟩)
  ·exact h1
  ·exact h2.elim (fun h => absurd rfl (jJ W h)) fun h => absurd rfl (jJ W h)
  ·exact h2.elim (fun h => absurd rfl (jJ W h)) fun h => absurd rfl (jJ W h)
 ·exact fun h => .inl ⟨S.e,⟨h,.inr rfl⟩,rfl⟩
theorem gc (W:WF b S) {j i:Nat}:(bS (S.ps b X) S.side &&& iH (S.ps b X) j).testBit i = true ↔ (j = 6 ∧ i = S.king) ∨ (S.side = S.c ∧ (j = 3 ∨ j = 4 ∨ j = 5) ∧ S.sl = some (j,i)):=by
 rw [bU]
 have kd6:j = 6 → ((iH (S.ps b X) j).testBit i = true ↔ i = S.k ∨ i = S.e):=fun e => by subst e; exact vW
 have kdo:j = 3 ∨ j = 4 ∨ j = 5 → ((iH (S.ps b X) j).testBit i = true ↔ S.sl = some (j,i)):=fun e => by
  rcases e with rfl | rfl | rfl <;> exact cO
 have kdn:¬ (j = 3 ∨ j = 4 ∨ j = 5 ∨ j = 6) → (iH (S.ps b X) j).testBit i = false:=fun e => by
  have h3:j ≠ 3:=fun q => e (.inl q)
  have h4:j ≠ 4:=fun q => e (.inr (.inl q))
  haveI h5:j ≠ 5:=fun q => e (.inr (.inr (.inl q)))
  have h6:j ≠ 6:=fun q => e (.inr (.inr (.inr q)))
  unfold iH; rw [if_neg h3,if_neg h4,if_neg h5,if_neg h6]; simp
 unfold St.king
 by_cases hs:S.side = S.c
 ·rw [if_pos hs,hs,dQ,cN]
  by_cases h6:j = 6
  ·rw [kd6 h6]
   constructor
   ·rintro ⟨h1 | ⟨j',h1⟩,h2⟩
    ·exact .inl ⟨h6,h1⟩
    ·obtain ⟨_,_,h3,h4⟩:=W.sl _ _ h1
     rcases h2 with h2 | h2
     ·exact absurd h2 h3
     ·exact absurd h2 h4
   ·rintro (⟨_,h⟩ | ⟨_,h,_⟩)
    ·exact ⟨.inl h,.inl h⟩
    ·omega
  ·by_cases h3:j = 3 ∨ j = 4 ∨ j = 5
   ·rw [kdo h3]
    exact ⟨fun h => .inr ⟨rfl,h3,h.2⟩,fun h => h.elim (fun h => absurd h.1 h6) fun h => ⟨.inr ⟨_,h.2.2⟩,h.2.2⟩⟩
   ·rw [kdn (by omega)]
    exact ⟨fun h => (Bool.false_ne_true h.2).elim,fun h => h.elim (fun h => absurd h.1 h6) fun h => absurd h.2.1 h3⟩
 ·have hs':S.side = 1 - S.c:=by haveI:=W.c; haveI:=W.side; omega
  rw [if_neg hs,hs',i9 W.c,tb,decide_eq_true_eq]
  by_cases h6:j = 6
  ·rw [kd6 h6]
   exact ⟨fun h => .inl ⟨h6,h.1.symm⟩,fun h => h.elim (fun h => ⟨h.2.symm,.inr h.2⟩) fun h => (hs (hs'.trans h.1)).elim⟩
  ·by_cases h3:j = 3 ∨ j = 4 ∨ j = 5
   ·rw [kdo h3]
    exact ⟨fun h => absurd h.1.symm (W.sl _ _ h.2).2.2.2,fun h => h.elim (fun h => absurd h.1 h6) fun h => (hs (hs'.trans h.1)).elim⟩
   ·rw [kdn (by omega)]
    exact ⟨fun h => (Bool.false_ne_true h.2).elim,fun h => h.elim (fun h => absurd h.1 h6) fun h => absurd h.2.1 h3⟩
end
end
section
open PySem
section
variable {b:B3} {S:St} {X:dL}
theorem nt {x y:Nat} (hx:x < al b) (hy:y < al b):(cu b x).testBit y = (cu b y).testBit x:=by
 haveI:∀ b:B3,∀ x y:Fin 12,(cu b x.val).testBit y.val = (cu b y.val).testBit x.val ∨ al b ≤ x.val ∨ al b ≤ y.val:=by intro b; rcases b with _|_|_ <;> decide +kernel
 haveI h:=aR b
 rcases this b ⟨x,by omega⟩ ⟨y,by omega⟩ with q | q | q
 ·exact q
 ·exact absurd hx (Nat.not_lt.mpr q)
 ·exact absurd hy (Nat.not_lt.mpr q)
theorem fV (W:WF b S):S.side = S.c ∨ S.side = 1 - S.c:=by haveI:=W.c; haveI:=W.side; omega
theorem qX (W:WF b S):S.king < al b:=by
 unfold St.king
 split
 ·exact W.k
 ·exact W.e
theorem vd (W:WF b S) {j i:Nat} (h:(bS (S.ps b X) S.side &&& iH (S.ps b X) j).testBit i = true):i < al b:=by
 rcases (gc W).mp h with ⟨_,rfl⟩ | ⟨_,_,h⟩
 ·exact qX W
 ·exact (W.sl _ _ h).2.1
theorem oh {x:Nat} (h:∀ i,x.testBit i = true → i < al b):x < 4096:=by
 haveI h12:=aR b
 rcases Nat.lt_or_ge x (2 ^ 12) with q | q
 ·exact q
 ·obtain ⟨i,hi,hb⟩:=Nat.exists_ge_and_testBit_of_ge_two_pow q
  haveI:=h i hb
  omega
theorem BH (W:WF b S) (j:Nat):∃ x,∀ i,(bS (S.ps b X) S.side &&& iH (S.ps b X) j).testBit i = true → i = x:=by
 by_cases h6:j = 6
 ·exact ⟨S.king,fun i h => by
   rcases (gc W).mp h with ⟨_,h⟩ | ⟨_,h,_⟩
   ·exact h
   ·omega⟩
 ·cases hs:S.sl with
  | none => exact ⟨0,fun i h => by
    rcases (gc W).mp h with ⟨h,_⟩ | ⟨_,_,h⟩
    ·exact absurd h h6
    ·rw [hs] at h; cases h⟩
  | some x => exact ⟨x.2,fun i h => by
    rcases (gc W).mp h with ⟨h,_⟩ | ⟨_,_,h⟩
    ·exact absurd h h6
    ·rw [hs] at h; cases h; rfl⟩
theorem A7 {y:Nat} (h:∃ x,∀ i,y.testBit i = true → i = x):(fc y).length ≤ 1:=by
 obtain ⟨x,h⟩:=h
 rcases mV h with rfl | rfl
 ·decide
 ·by_cases hx:x < 12
  ·rw [xh hx]; exact Nat.le_refl 1
  ·have:fc (1 <<< x) = []:=by
    rw [List.eq_nil_iff_forall_not_mem]
    intro q hq
    obtain ⟨h1,h2⟩:=rH hq
    rw [tb,decide_eq_true_eq] at h2
    omega
   rw [this]; decide
theorem tu {f:Nat → List Nat} (h:∀ x,(f x).length ≤ 12):∀ l:List Nat,(l.flatMap f).length ≤ 12 * l.length
 | [] => by simp
 | x :: l => by haveI:=tu h l; haveI:=h x; rw [List.flatMap_cons,List.length_append,List.length_cons]; omega
theorem vb (W:WF b S):DG b (S.ps b X):=fun t j => by
 haveI h1:=A7 (BH (X:=X) W j)
 haveI h2:=tu (pL b j ((S.ps b X).s0 ||| (S.ps b X).s1) t) (fc (bS (S.ps b X) S.side &&& iH (S.ps b X) j))
 haveI h3:(bu b (S.ps b X) t j).length ≤ 12 * (fc (bS (S.ps b X) S.side &&& iH (S.ps b X) j)).length:=h2
 omega
theorem j2 (W:WF b S) {i:Nat}:(bS (S.ps b X) (1 - S.side)).testBit i = true ↔ if S.side = S.c then i = S.e else i = S.k ∨ ∃ j,S.sl = some (j,i):=by
 by_cases h:S.side = S.c
 ·rw [if_pos h,h,i9 W.c,tb,decide_eq_true_eq,eq_comm]
 ·haveI hs:1 - S.side = S.c:=by haveI:=W.c; haveI:=W.side; omega
  rw [if_neg h,hs,dQ,cN]
theorem wK (W:WF b S) {i:Nat}:(bS (S.ps b X) S.side).testBit i = true ↔ if S.side = S.c then i = S.k ∨ ∃ j,S.sl = some (j,i) else i = S.e:=by
 by_cases h:S.side = S.c
 ·rw [if_pos h,h,dQ,cN]
 ·rw [if_neg h,(fV W).resolve_left h,i9 W.c,tb,decide_eq_true_eq,eq_comm]
theorem uH (W:WF b S) {i:Nat} (h:(bS (S.ps b X) (1 - S.side)).testBit i = true):i < al b:=by
 rw [j2 W] at h
 split at h
 ·rw [h]; exact W.e
 ·rcases h with rfl | ⟨j,h⟩
  ·exact W.k
  ·exact (W.sl _ _ h).2.1
theorem oU (W:WF b S) {i:Nat} (h:(bS (S.ps b X) S.side).testBit i = true) (h':(bS (S.ps b X) (1 - S.side)).testBit i = true):False:=by
 rw [wK W] at h
 rw [j2 W] at h'
 split at h
 ·rename_i hs
  rw [if_pos hs] at h'
  subst h'
  rcases h with h | ⟨j,h⟩
  ·exact W.ke h.symm
  ·exact (W.sl _ _ h).2.2.2 rfl
 ·rename_i hs
  rw [if_neg hs] at h'
  subst h
  rcases h' with h | ⟨j,h⟩
  ·exact W.ke h.symm
  ·exact (W.sl _ _ h).2.2.2 rfl
theorem dW (W:WF b S) {i:Nat} (h:(zw b (S.ps b X) S.side S.king).testBit i = true):S.side ≠ S.c ∧ ∃ j,S.sl = some (j,i):=by
 unfold zw at h
 obtain ⟨h,h2⟩:=bU.mp h
 have h3:∃ j,S.sl = some (j,i):=by
  rcases cX.mp h with h | h <;> obtain ⟨_,h⟩:=bU.mp h <;> rcases cX.mp h with h | h <;> exact ⟨_,cO.mp h⟩
 refine ⟨fun hs => ?_,h3⟩
 rw [j2 W,if_pos hs] at h2
 obtain ⟨j,h3⟩:=h3
 exact (W.sl _ _ h3).2.2.2 h2
theorem Cf (W:WF b S):AX b (S.ps b X) S.side S.king:=by
 by_cases hs:S.side = S.c
 ·left
  rcases mV (x:=zw b (S.ps b X) S.side S.king) (s:=0) fun i h => absurd hs (dW W h).1 with h | h
  ·exact h
  ·exact absurd hs (dW W (i:=0) (by rw [h]; rfl)).1
 ·cases hl:S.sl with
  | none =>
   left
   rcases mV (x:=zw b (S.ps b X) S.side S.king) (s:=0) fun i h => (let ⟨_,h⟩:=(dW W h).2; by rw [hl] at h; cases h) with h | h
   ·exact h
   ·obtain ⟨_,q⟩:=(dW W (X:=X) (i:=0) (by rw [h]; rfl)).2
    rw [hl] at q; cases q
  | some x =>
   rcases mV (x:=zw b (S.ps b X) S.side S.king) (s:=x.2) fun i h => (let ⟨_,h⟩:=(dW W h).2; by rw [hl] at h; cases h; rfl) with h | h
   ·exact .inl h
   ·refine .inr ⟨⟨x.2,(W.sl _ _ hl).2.1,h⟩,?_⟩
    rw [(fV W).resolve_left hs,i9 W.c]
    unfold St.king; rw [if_neg (by haveI:=(fV W).resolve_left hs; haveI:=W.c; omega)]
theorem kC (W:WF b S):bS (S.ps b X) S.side &&& (S.ps b X).k6 = 1 <<< S.king:=by
 haveI e:(S.ps b X).k6 = iH (S.ps b X) 6:=rfl
 rw [e]
 apply Nat.eq_of_testBit_eq
 intro i
 rw [Bool.eq_iff_iff,gc W,tb,decide_eq_true_eq]
 exact ⟨fun h => h.elim (fun h => h.2.symm) fun h => by omega,fun h => .inl ⟨rfl,h.symm⟩⟩
theorem C9 (W:WF b S):vN b (S.ps b X) S.king = if S.side = S.c then false else j1 b S S.e S.occ:=by
 unfold vN St.king
 haveI e:(S.ps b X).side = S.side:=rfl
 rw [mm,e]
 by_cases hs:S.side = S.c
 ·rw [if_pos hs,if_pos hs,hs,tZ W,nt W.k W.e]; exact W.apart
 ·rw [if_neg hs,if_neg hs,show 1 - S.side = S.c by haveI:=W.c; haveI:=W.side; omega,iz W]
theorem EJ (W:WF b S) (h:vN b (S.ps b X) S.king = true):∃ s,s < al b ∧ jm b (S.ps b X) S.king = 1 <<< s:=by
 rw [C9 W] at h
 split at h
 ·cases h
 ·rename_i hs
  haveI hs1:1 - S.side = S.c:=by haveI:=W.c; haveI:=W.side; omega
  haveI hk:S.king = S.e:=if_neg hs
  rw [hk]
  unfold j1 at h
  rw [W.apart,Bool.false_or,Option.any_eq_true] at h
  obtain ⟨⟨j,s⟩,hl,h⟩:=h
  obtain ⟨hj,h1,h2,h3⟩:=W.sl _ _ hl
  refine ⟨s,h1,?_⟩
  haveI sub:∀ i,(jm b (S.ps b X) S.e).testBit i = true → i = s:=by
   intro i hi
   unfold jm vE yg at hi
   haveI e:(S.ps b X).side = S.side:=rfl
   rw [e,hs1,dQ] at hi
   obtain ⟨hi,hst⟩:=bU.mp hi
   rcases cN.mp hst with rfl | ⟨j',q⟩
   ·exfalso
    rcases cX.mp hi with hi | hi
    ·rcases cX.mp hi with hi | hi
     ·haveI:=(bU.mp (bU.mp hi).1).1
      rw [W.apart] at this; cases this
     ·haveI:=(bU.mp (bU.mp hi).1).1
      rw [W.apart] at this; cases this
    ·rcases cX.mp hi with hi | hi
     ·split at hi
      ·simp at hi
      ·obtain ⟨_,hi⟩:=bU.mp hi
       rcases cX.mp hi with hi | hi <;> exact (W.sl _ _ (cO.mp hi)).2.2.1 rfl
     ·split at hi
      ·simp at hi
      ·obtain ⟨_,hi⟩:=bU.mp hi
       rcases cX.mp hi with hi | hi <;> exact (W.sl _ _ (cO.mp hi)).2.2.1 rfl
   ·rw [hl] at q; cases q; rfl
  rcases mV sub with h0 | h0
  ·exfalso
   haveI bit:(jm b (S.ps b X) S.e).testBit s = true:=by
    unfold jm yg
    have e:(S.ps b X).side = S.side:=rfl
    rw [e,hs1,dQ,mm]
    refine bU.mpr ⟨cX.mpr (.inr ?_),cN.mpr (.inr ⟨j,hl⟩)⟩
    unfold lL at h
    simp only [Bool.or_eq_true,Bool.and_eq_true,bne_iff_ne] at h
    haveI k4:j = 4 → (S.ps b X).k4.testBit s = true:=fun e => cO.mpr (by rw [hl,e])
    haveI k5:j = 5 → (S.ps b X).k5.testBit s = true:=fun e => cO.mpr (by rw [hl,e])
    haveI k3:j = 3 → (S.ps b X).k3.testBit s = true:=fun e => cO.mpr (by rw [hl,e])
    haveI nz:∀ x y:Nat,(x ||| y).testBit s = true → x ||| y ≠ 0:=fun x y q r => by rw [r] at q; simp at q
    rcases h with ⟨g1,g2⟩ | ⟨g1,g2⟩
    ·haveI q:((S.ps b X).k4 ||| (S.ps b X).k5).testBit s = true:=cX.mpr (hj.elim (fun e => absurd e g1) fun e => e.elim (fun e => .inl (k4 e)) fun e => .inr (k5 e))
     refine cX.mpr (.inl ?_)
     rw [if_neg (nz _ _ q)]
     exact bU.mpr ⟨g2,q⟩
    ·haveI q:((S.ps b X).k3 ||| (S.ps b X).k5).testBit s = true:=cX.mpr (hj.elim (fun e => .inl (k3 e)) fun e => e.elim (fun e => absurd e g1) fun e => .inr (k5 e))
     refine cX.mpr (.inr ?_)
     rw [if_neg (nz _ _ q)]
     exact bU.mpr ⟨g2,q⟩
   rw [h0] at bit; simp at bit
  ·exact h0
theorem CQ (W:WF b S) (X:dL):Ok b (S.ps b X) S.king where
 gen:=⟨W.side,fun j => oh fun i h => vd W h,fun j q hq => vd W (rH hq).2⟩
 few:=vb W
 hk:=qX W
 K:=kC W
 t0:=oh fun i h => uH W h
 free:=Cf W
 chk:=EJ W
end
end
section
open PySem
noncomputable def LM (b:B3) (S:St):List Nat:=HC b (S.ps b ⟨0,0,0,[]⟩) S.king
noncomputable def HL (b:B3) (S:St):Bool:=GC b (S.ps b ⟨0,0,0,[]⟩) S.king
noncomputable def IC (b:B3) (S:St):Bool:=vN b (S.ps b ⟨0,0,0,[]⟩) S.king
noncomputable def DO (S:St) (m:Nat):St:=
 if S.side = S.c then (if m >>> 6 &&& 63 = S.k then { S with k:=m &&& 63,side:=1 - S.c } else { S with sl:=S.sl.map fun x => (x.1,m &&& 63),side:=1 - S.c })
 else { S with e:=m &&& 63,sl:=S.sl.filter fun x => x.2 != (m &&& 63),side:=S.c }
section
variable {b:B3} {S:St} {X:dL}
theorem tM (i:Nat):(dJ b).testBit i = decide (i < al b):=by
 haveI:dJ b = 2 ^ al b - 1:=by rcases b with _|_|_ <;> rfl
 rw [this,Nat.testBit_two_pow_sub_one]
theorem tR {i:Nat}:(lJ b (S.ps b X) 2).testBit i = true ↔ i < al b ∧ (bS (S.ps b X) S.side).testBit i = false:=by
 show (dJ b - (dJ b &&& bS (S.ps b X) S.side)).testBit i = true ↔ _
 rw [rE,tM]
 simp
theorem j8 (W:WF b S) {i:Nat}:(lJ b (S.ps b X) 2).testBit i = true ↔ (lJ b (S.ps b X) 0).testBit i = true ∨ (lJ b (S.ps b X) 1).testBit i = true:=by
 haveI e0:(lJ b (S.ps b X) 0) = bS (S.ps b X) (1 - S.side):=rfl
 haveI e1:(lJ b (S.ps b X) 1).testBit i = true ↔ i < al b ∧ ((S.ps b X).s0 ||| (S.ps b X).s1).testBit i = false:=by
  show (dJ b - (dJ b &&& ((S.ps b X).s0 ||| (S.ps b X).s1))).testBit i = true ↔ _
  rw [rE,tM]
  simp
 haveI e2:(S.ps b X).s0 ||| (S.ps b X).s1 = bS (S.ps b X) S.side ||| bS (S.ps b X) (1 - S.side):=by
  haveI:=W.side
  unfold bS
  rcases (by omega:S.side = 0 ∨ S.side = 1) with h | h <;> rw [h] <;> simp [Nat.or_comm]
 rw [tR,e0,e1,e2,Nat.testBit_or]
 constructor
 ·rintro ⟨h1,h2⟩
  rw [h2]
  cases h:(bS (S.ps b X) (1 - S.side)).testBit i with
  | true => exact .inl rfl
  | false => exact .inr ⟨h1,rfl⟩
 ·rintro (h | ⟨h1,h2⟩)
  ·exact ⟨uH W h,by cases h':(bS (S.ps b X) S.side).testBit i with | true => exact (oU W h' h).elim | false => rfl⟩
  ·exact ⟨h1,(Bool.or_eq_false_iff.mp h2).1⟩
theorem vy {t j m:Nat}:m ∈ bu b (S.ps b X) t j ↔ ∃ o g,m = pk o g ∧ o < 12 ∧ g < 12 ∧ (bS (S.ps b X) S.side &&& iH (S.ps b X) j).testBit o = true ∧ (dH b j o S.occ).testBit g = true ∧ t.testBit g = true:=by
 rw [← mm (b:=b) (X:=X)]
 exact ⟨hV b _,fun ⟨o,g,h1,h2,h3,h4,h5,h6⟩ => h1 ▸ oH b _ h2 h3 h4 h5 h6⟩
noncomputable def EH (b:B3) (S:St) (j o g:Nat):Prop:=o < 12 ∧ g < 12 ∧ (bS (S.ps b ⟨0,0,0,[]⟩) S.side &&& iH (S.ps b ⟨0,0,0,[]⟩) j).testBit o = true ∧ (dH b j o S.occ).testBit g = true ∧ (lJ b (S.ps b ⟨0,0,0,[]⟩) 2).testBit g = true
theorem wv (W:WF b S) {m:Nat} (h:m ∈ LM b S):eJ b (S.ps b ⟨0,0,0,[]⟩) S.king m = true ∧ ∃ j o g,m = pk o g ∧ EH b S j o g:=by
 obtain ⟨h,hl⟩:=List.mem_filter.mp h
 refine ⟨hl,?_⟩
 have fin:∀ j,m ∈ bu b (S.ps b ⟨0,0,0,[]⟩) (lJ b (S.ps b ⟨0,0,0,[]⟩) 2) j → ∃ j o g,m = pk o g ∧ EH b S j o g:=fun j h => by
  obtain ⟨o,g,h1,h2⟩:=vy.mp h
  exact ⟨j,o,g,h1,h2⟩
 split at h
 ·rename_i hc
  haveI hs:S.side ≠ S.c:=fun e => by rw [C9 W,if_pos e] at hc; cases hc
  unfold c9 at h
  rw [if_pos rfl] at h
  unfold ft at h
  rcases List.mem_append.mp h with h | h
  ·exfalso
   obtain ⟨j,hj,h⟩:=List.mem_flatMap.mp h
   obtain ⟨o,g,_,_,_,h,_⟩:=vy.mp h
   rcases (gc W).mp h with ⟨rfl,_⟩ | ⟨e,_⟩
   ·simp at hj
   ·exact hs e
  ·exact fin 6 h
 ·unfold c9 at h
  rw [if_neg (by decide)] at h
  obtain ⟨j,_,h⟩:=List.mem_flatMap.mp h
  exact fin j h
theorem u9 (W:WF b S):HL b S = true ↔ LM b S ≠ []:=by
 have hf:∀ l:List Nat,l.any (eJ b (S.ps b ⟨0,0,0,[]⟩) S.king) = true ↔ l.filter (eJ b (S.ps b ⟨0,0,0,[]⟩) S.king) ≠ []:=fun l => by
  rw [Ne,List.filter_eq_nil_iff,List.any_eq_true]
  simp
 unfold HL GC LM HC
 cases vN b (S.ps b ⟨0,0,0,[]⟩) S.king with
 | true => rw [if_pos rfl,if_pos rfl]; exact hf _
 | false =>
  rw [if_neg (by decide),if_neg (by decide),← hf,Bool.or_eq_true,List.any_eq_true,List.any_eq_true,List.any_eq_true]
  have key:∀ m,m ∈ c9 b (S.ps b ⟨0,0,0,[]⟩) S.king 2 ↔ m ∈ c9 b (S.ps b ⟨0,0,0,[]⟩) S.king 0 ∨ m ∈ c9 b (S.ps b ⟨0,0,0,[]⟩) S.king 1:=fun m => by
   unfold c9
   rw [if_neg (by decide),if_neg (by decide),if_neg (by decide)]
   simp only [cK,List.mem_flatMap,vy]
   constructor
   ·rintro ⟨j,hj,o,g,h1,h2,h3,h4,h5,h6⟩
    rcases (j8 W).mp h6 with h6 | h6
    ·exact .inl ⟨j,hj,o,g,h1,h2,h3,h4,h5,h6⟩
    ·exact .inr ⟨j,hj,o,g,h1,h2,h3,h4,h5,h6⟩
   ·rintro (⟨j,hj,o,g,h1,h2,h3,h4,h5,h6⟩ | ⟨j,hj,o,g,h1,h2,h3,h4,h5,h6⟩)
    ·exact ⟨j,hj,o,g,h1,h2,h3,h4,h5,(j8 W).mpr (.inl h6)⟩
    ·exact ⟨j,hj,o,g,h1,h2,h3,h4,h5,(j8 W).mpr (.inr h6)⟩
  constructor
  ·rintro (⟨m,h1,h2⟩ | ⟨m,h1,h2⟩)
   ·exact ⟨m,(key m).mpr (.inl h1),h2⟩
   ·exact ⟨m,(key m).mpr (.inr h1),h2⟩
  ·rintro ⟨m,h1,h2⟩
   exact ((key m).mp h1).imp (fun h => ⟨m,h,h2⟩) fun h => ⟨m,h,h2⟩
theorem sY {d s:Nat} (hd:d < 8):(fP b d s).testBit s = false:=by
 haveI:∀ b:B3,∀ d:Fin 8,∀ s:Fin 12,(fP b d.val s.val).testBit s.val = false:=by intro b; rcases b with _|_|_ <;> decide +kernel
 by_cases hs:s < 12
 ·exact this b ⟨d,hd⟩ ⟨s,hs⟩
 ·apply Nat.testBit_lt_two_pow
  exact Nat.lt_of_lt_of_le (rB b d s) (Nat.pow_le_pow_right (by decide) (by haveI:=aR b; omega))
theorem zk {j s occ:Nat}:(dH b j s occ).testBit s = false:=by
 haveI kg:(cu b s).testBit s = false:=by
  haveI:∀ b:B3,∀ s:Fin 12,(cu b s.val).testBit s.val = false:=by intro b; rcases b with _|_|_ <;> decide +kernel
  by_cases hs:s < 12
  ·exact this b ⟨s,hs⟩
  ·apply Nat.testBit_lt_two_pow
   exact Nat.lt_of_lt_of_le (tf b s) (Nat.pow_le_pow_right (by decide) (by haveI:=aR b; omega))
 cases h:(dH b j s occ).testBit s with
 | false => rfl
 | true =>
  have no:∀ d,d < 8 → (fP b d s).testBit s = true → False:=fun d hd h => by rw [sY hd] at h; cases h
  unfold dH eY at h
  exfalso
  repeat' split at h
  ·rw [kg] at h; cases h
  ·rw [Nat.testBit_or,Bool.or_eq_true] at h
   rcases h with h | h
   ·obtain ⟨d,hd,h⟩:=ja b h; exact no d hd h
   ·obtain ⟨d,hd,h⟩:=jn b h; exact no d hd h
  ·obtain ⟨d,hd,h⟩:=ja b h; exact no d hd h
  ·obtain ⟨d,hd,h⟩:=jn b h; exact no d hd h
theorem wE {j o g:Nat} (h:EH b S j o g):o ≠ g:=fun e => by
 haveI:=h.2.2.2.1
 rw [e,zk] at this; cases this
theorem En (W:WF b S) {m:Nat} (h:m ∈ LM b S):m ≠ 0:=by
 obtain ⟨_,j,o,g,e',q⟩:=wv W h
 intro e
 obtain ⟨_,p2,p3⟩:=mr q.1 q.2.1
 rw [← e',e] at p2 p3
 exact wE q (p3.symm.trans p2)
end
end
section
open PySem
noncomputable def FE (b:B3):Bool:=(List.range 12).all fun k => (List.range 12).all fun s => (List.range 12).all fun e =>
 let occ:=(1 <<< k ||| 1 <<< s) ||| 1 <<< e
 (bC b s occ).testBit e == (bC b e occ).testBit s && (bn b s occ).testBit e == (bn b e occ).testBit s
theorem FJ (b:B3):FE b = true:=by rcases b with _|_|_ <;> decide +kernel
section
variable {b:B3} {S:St} {X:dL}
theorem Er {k s e:Nat} (hk:k < 12) (hs:s < 12) (he:e < 12) :
  (bC b s ((1 <<< k ||| 1 <<< s) ||| 1 <<< e)).testBit e = (bC b e ((1 <<< k ||| 1 <<< s) ||| 1 <<< e)).testBit s ∧
  (bn b s ((1 <<< k ||| 1 <<< s) ||| 1 <<< e)).testBit e = (bn b e ((1 <<< k ||| 1 <<< s) ||| 1 <<< e)).testBit s:=by
 haveI h:=FJ b
 unfold FE at h
 haveI h:=List.all_eq_true.mp (List.all_eq_true.mp (List.all_eq_true.mp h k (List.mem_range.mpr hk)) s (List.mem_range.mpr hs)) e (List.mem_range.mpr he)
 simpa [Bool.and_eq_true,beq_iff_eq] using h
theorem wh (W:WF b S) {j s:Nat} (hl:S.sl = some (j,s)) (h:(dH b j s S.occ).testBit S.e = true):j1 b S S.e S.occ = true:=by
 obtain ⟨hj,h1,h2,h3⟩:=W.sl _ _ hl
 have h12:=aR b
 have eo:S.occ = (1 <<< S.k ||| 1 <<< s) ||| 1 <<< S.e:=by unfold St.occ St.strong St.bs; rw [hl]
 obtain ⟨q1,q2⟩:=Er (b:=b) (Nat.lt_of_lt_of_le W.k h12) (Nat.lt_of_lt_of_le h1 h12) (Nat.lt_of_lt_of_le W.e h12)
 rw [← eo] at q1 q2
 unfold j1 lL
 rw [hl,Option.any_some,Bool.or_eq_true]
 right
 unfold dH eY at h
 rcases hj with rfl | rfl | rfl
 ·rw [if_neg (by decide),if_neg (by decide),if_neg (by decide),q2] at h; simp [h]
 ·rw [if_neg (by decide),if_neg (by decide),if_pos rfl,q1] at h; simp [h]
 ·rw [if_neg (by decide),if_pos rfl,Nat.testBit_or,q1,q2] at h; simpa using h
inductive Mv (b:B3) (S:St) (o g:Nat):Prop
 | king (hs:S.side = S.c) (ho:o = S.k) (he:g ≠ S.e) (hl:∀ j s,S.sl = some (j,s) → g ≠ s) (ap:(cu b S.e).testBit g = false)
 | slid (hs:S.side = S.c) (j:Nat) (hl:S.sl = some (j,o)) (hk:g ≠ S.k) (he:g ≠ S.e) (ho:o ≠ S.k)
 | bare (hs:S.side = 1 - S.c) (ho:o = S.e) (hk:g ≠ S.k) (ha:j1 b S g S.strong = false)
theorem BR (_:WF b S) (hs:S.side = S.c):S.king = S.k:=if_pos hs
theorem AG (W:WF b S) (hs:S.side = 1 - S.c):S.king = S.e:=if_neg (by haveI:=W.c; omega)
theorem FC (W:WF b S):S.occ ^^^ 1 <<< S.e = S.strong:=by
 have h:S.strong.testBit S.e = false:=by
  cases h:S.strong.testBit S.e with
  | false => rfl
  | true =>
   rcases cN.mp h with h | ⟨j,h⟩
   ·exact absurd h.symm W.ke
   ·exact absurd rfl (W.sl _ _ h).2.2.2
 apply Nat.eq_of_testBit_eq
 intro i
 unfold St.occ
 rw [Nat.testBit_xor,Nat.testBit_or,tb]
 by_cases hi:S.e = i
 ·subst hi; rw [h]; simp
 ·simp [hi]
theorem uk (W:WF b S) {m:Nat} (h:m ∈ LM b S):∃ o g,m >>> 6 &&& 63 = o ∧ m &&& 63 = g ∧ m < 16384 ∧ o < al b ∧ g < al b ∧ o ≠ g ∧ Mv b S o g:=by
 obtain ⟨hl,j,o,g,rfl,st⟩:=wv W h
 haveI hog:=wE st
 obtain ⟨h1,h2,h3,h4,h5⟩:=st
 obtain ⟨p1,p2,p3⟩:=mr h1 h2
 obtain ⟨g1,g2⟩:=tR.mp h5
 refine ⟨o,g,p3,p2,p1,vd W h3,g1,hog,?_⟩
 have own:¬ (if S.side = S.c then g = S.k ∨ ∃ j,S.sl = some (j,g) else g = S.e):=fun q => by rw [(wK W).mpr q] at g2; cases g2
 unfold eJ at hl
 rw [p2,p3] at hl
 rcases fV W with hs | hs
 ·rw [if_pos hs] at own
  haveI hk:=BR W hs
  haveI e1:1 - (S.ps b ⟨0,0,0,[]⟩).side = 1 - S.c:=by rw [← hs]; rfl
  rw [hk,e1] at hl
  rcases (gc W).mp h3 with ⟨rfl,ho⟩ | ⟨_,hj,hsl⟩
  ·rw [hk] at ho
   rw [if_pos ho,tZ W] at hl
   haveI ap:(cu b S.e).testBit g = false:=by rw [nt W.e g1]; simpa using hl
   refine .king hs ho (fun e => ?_) (fun j s q e => own (.inr ⟨j,e ▸ q⟩)) ap
   rw [ho,e] at h4
   have h4:(cu b S.k).testBit S.e = true:=h4
   rw [nt W.k W.e,W.apart] at h4
   cases h4
  ·haveI ok:o ≠ S.k:=(W.sl _ _ hsl).2.2.1
   refine .slid hs j hsl (fun e => own (.inl e)) (fun e => ?_) ok
   rw [e] at h4
   haveI:=wh W hsl h4
   rw [W.calm hs] at this
   cases this
 ·haveI hn:S.side ≠ S.c:=by haveI:=W.c; omega
  rw [if_neg hn] at own
  haveI hk:=AG W hs
  haveI e1:1 - (S.ps b ⟨0,0,0,[]⟩).side = S.c:=by
   show 1 - S.side = S.c
   haveI:=W.c; omega
  rcases (gc W).mp h3 with ⟨rfl,ho⟩ | ⟨q,_⟩
  ·rw [if_pos ho,e1,iz W,mm,hk,FC W] at hl
   rw [hk] at ho
   refine .bare hs ho (fun e => ?_) (by simpa using hl)
   rw [ho,e] at h4
   haveI h4:(cu b S.e).testBit S.k = true:=h4
   rw [W.apart] at h4
   cases h4
  ·exact absurd q hn
theorem cr {d s occ:Nat} (hd:d < 8):be b d s (occ ||| 1 <<< s) = be b d s occ:=by
 haveI:fP b d s &&& (occ ||| 1 <<< s) = fP b d s &&& occ:=by
  apply Nat.eq_of_testBit_eq
  intro i
  rw [Nat.testBit_and,Nat.testBit_and,Nat.testBit_or,tb]
  by_cases hi:s = i
  ·subst hi; rw [sY hd]; rfl
  ·simp [hi]
 unfold be
 dsimp only
 rw [this]
theorem yT {j q occ s:Nat}:lL b j q (occ ||| 1 <<< q) s = lL b j q occ s:=by
 unfold lL bC bn
 rw [cr (by decide),cr (by decide),cr (by decide),cr (by decide),cr (by decide),cr (by decide),cr (by decide),cr (by decide)]
theorem h9 (W:WF b S) {m:Nat} (h:m ∈ LM b S):WF b (DO S m):=by
 obtain ⟨o,g,e1,e2,_,ho,hg,hog,mv⟩:=uk W h
 have hc:=W.c
 unfold DO
 rw [e1,e2]
 cases mv with
 | king hs hk he hl ap =>
  rw [if_pos hs,if_pos hk]
  exact ⟨hc,by show 1 - S.c < 2; omega,hg,W.e,he,ap,fun j s q => ⟨(W.sl j s q).1,(W.sl j s q).2.1,fun e => hl j s q e.symm,(W.sl j s q).2.2.2⟩,fun q => by
   have q:1 - S.c = S.c:=q
   omega⟩
 | slid hs j hl hk he ok =>
  rw [if_pos hs,if_neg ok]
  refine ⟨hc,by show 1 - S.c < 2; omega,W.k,W.e,W.ke,W.apart,fun j' s q => ?_,fun q => ?_⟩
  ·have q:S.sl.map (fun x => (x.1,g)) = some (j',s):=q
   rw [hl] at q
   cases q
   exact ⟨(W.sl _ _ hl).1,hg,hk,he⟩
  ·have q:1 - S.c = S.c:=q
   omega
 | bare hs hk hne ha =>
  have hn:S.side ≠ S.c:=by omega
  rw [if_neg hn]
  have ha':=ha
  unfold j1 at ha'
  obtain ⟨a1,a2⟩:=Bool.or_eq_false_iff.mp ha'
  have slf:∀ j s,(S.sl.filter fun x => x.2 != g) = some (j,s) → S.sl = some (j,s) ∧ s ≠ g:=fun j s q => by
   rw [Option.filter_eq_some_iff] at q
   exact ⟨q.1,by simpa using q.2⟩
  refine ⟨hc,hc,W.k,hg,Ne.symm hne,a1,fun j s q => ?_,fun _ => ?_⟩
  ·obtain ⟨q,q2⟩:=slf j s q
   obtain ⟨w1,w2,w3,w4⟩:=W.sl _ _ q
   exact ⟨w1,w2,w3,q2⟩
  ·unfold j1
   rw [Bool.or_eq_false_iff]
   refine ⟨a1,?_⟩
   cases hf:(S.sl.filter fun x => x.2 != g) with
   | none => rfl
   | some x =>
    obtain ⟨q,q2⟩:=slf x.1 x.2 hf
    show lL b x.1 g ((({ S with e:=g,sl:=some x,side:=S.c }:St).strong) ||| 1 <<< g) x.2 = false
    have es:({ S with e:=g,sl:=some x,side:=S.c }:St).strong = S.strong:=by unfold St.strong St.bs; rw [q]
    rw [es,yT]
    rw [q] at a2
    exact a2
end
end
section
open PySem
theorem xm {y o g:Nat} (ho:y.testBit o = false) (hg:y.testBit g = false) (h:o ≠ g):(1 <<< o ||| y) ^^^ (1 <<< o ||| 1 <<< g) = 1 <<< g ||| y:=by
 apply Nat.eq_of_testBit_eq
 intro i
 rw [Nat.testBit_xor,Nat.testBit_or,Nat.testBit_or,Nat.testBit_or,tb,tb]
 by_cases h1:o = i
 ·subst h1; simp [ho,Ne.symm h]
 ·by_cases h2:g = i
  ·subst h2; simp [hg,h1]
  ·simp [h1,h2]
theorem HG {o g:Nat} (h:o ≠ g):1 <<< o ^^^ (1 <<< o ||| 1 <<< g) = 1 <<< g:=by
 haveI:=xm (y:=0) (o:=o) (g:=g) (by simp) (by simp) h
 simpa using this
theorem HU {y o g:Nat} (ho:y.testBit o = false) (hg:y.testBit g = false) (h:o ≠ g):(y ||| 1 <<< o) ^^^ (1 <<< o ||| 1 <<< g) = y ||| 1 <<< g:=by
 rw [Nat.or_comm y,xm ho hg h,Nat.or_comm]
theorem xt {y g:Nat} (hg:y.testBit g = false):(y ||| 1 <<< g) ^^^ 1 <<< g = y:=by
 apply Nat.eq_of_testBit_eq
 intro i
 rw [Nat.testBit_xor,Nat.testBit_or,tb]
 by_cases h1:g = i
 ·subst h1; simp [hg]
 ·simp [h1]
theorem Ej {o i:Nat} (h:o ≠ i):(1 <<< o).testBit i = false:=by rw [tb]; simp [h]
theorem map_set {n o g p:Nat} {f f':Nat → Nat} (h:∀ q,f' q = if q = g then p else if q = o then 0 else f q):(((List.range n).map f).set o 0).set g p = (List.range n).map f':=by
 apply List.ext_getElem
 ·simp
 ·intro i h1 h2
  simp only [List.getElem_set,List.getElem_map,List.getElem_range,h]
  by_cases e:g = i
  ·subst e; simp
  ·rw [if_neg e,if_neg (Ne.symm e)]
   by_cases e2:o = i
   ·subst e2; simp
   ·rw [if_neg e2,if_neg (Ne.symm e2)]
theorem ue {n g p:Nat} {f f':Nat → Nat} (h:∀ q,f' q = if q = g then p else f q):((List.range n).map f).set g p = (List.range n).map f':=by
 apply List.ext_getElem
 ·simp
 ·intro i h1 h2
  simp only [List.getElem_set,List.getElem_map,List.getElem_range,h]
  by_cases e:g = i
  ·subst e; simp
  ·rw [if_neg e,if_neg (Ne.symm e)]
section
variable {b:B3} {S:St} {X:dL}
theorem CT {q:Nat} (h:∀ j s,S.sl = some (j,s) → s ≠ q):S.bs.testBit q = false:=by
 cases e:S.bs.testBit q with
 | false => rfl
 | true => obtain ⟨j,e⟩:=zC.mp e; exact absurd rfl (h _ _ e)
noncomputable def nx (P:PS):dL:=⟨P.half,P.full,P.key,P.hist⟩
noncomputable def Same (P Q:PS):Prop:=P.bd = Q.bd ∧ P.k3 = Q.k3 ∧ P.k4 = Q.k4 ∧ P.k5 = Q.k5 ∧ P.k6 = Q.k6 ∧ P.s0 = Q.s0 ∧ P.s1 = Q.s1
theorem Same.eq {P Q:PS} (h:Same P Q) (hs:P.side = Q.side) (h1:P.half = Q.half) (h2:P.full = Q.full) (h3:P.key = Q.key) (h4:P.hist = Q.hist):P = Q:=by
 obtain ⟨a1,a2,a3,a4,a5,a6,a7⟩:=h
 cases P; cases Q; simp only at *; subst_vars; rfl
structure WP (S:St):Prop where
 c:S.c < 2
 ke:S.k ≠ S.e
 sl:∀ j s,S.sl = some (j,s) → (j = 3 ∨ j = 4 ∨ j = 5) ∧ s = s ∧ s ≠ S.k ∧ s ≠ S.e
theorem WF.wp (W:WF b S):WP S:=⟨W.c,W.ke,fun j s q => ⟨(W.sl j s q).1,rfl,(W.sl j s q).2.2⟩⟩
theorem mx (W:WP S) {g:Nat} (he:g ≠ S.e) (hk:S.k ≠ g) (hl:∀ j s,S.sl = some (j,s) → g ≠ s) (y:dL) (d:Nat):Same (bc (S.ps b X) S.k g S.c 6) (({ S with k:=g,side:=d }:St).ps b y):=by
 haveI b1:S.bs.testBit S.k = false:=CT fun j s q => (W.sl j s q).2.2.1
 haveI b2:S.bs.testBit g = false:=CT fun j s q => (hl j s q).symm
 haveI e6:(1 <<< S.k ||| 1 <<< S.e) ^^^ (1 <<< S.k ||| 1 <<< g) = 1 <<< g ||| 1 <<< S.e:=xm (Ej W.ke.symm) (Ej he.symm) hk
 haveI es:S.strong ^^^ (1 <<< S.k ||| 1 <<< g) = 1 <<< g ||| S.bs:=xm b1 b2 hk
 haveI bd:(((List.range (al b)).map S.pcAt).set S.k 0).set g (S.c * 8 + 6) = (List.range (al b)).map ({ S with k:=g,side:=d }:St).pcAt:=map_set fun q => by
  unfold St.pcAt
  by_cases h1:q = g
  ·rw [if_pos h1,if_pos h1]
  ·rw [if_neg h1,if_neg h1]
   by_cases h2:q = S.k
   ·rw [if_pos h2,if_neg (fun e => W.ke (h2.symm.trans e))]
    split
    ·rename_i j s q'; rw [if_neg (fun e => (W.sl j s q').2.2.1 (e.symm.trans h2))]
    ·rfl
   ·rw [if_neg h2,if_neg h2]
 haveI hc:=W.c
 obtain ⟨c,k,e,sl,sd⟩:=S
 haveI hc:c < 2:=hc
 rcases (by omega:c = 0 ∨ c = 1) with rfl | rfl
 ·exact ⟨bd,rfl,rfl,rfl,e6,es,rfl⟩
 ·exact ⟨bd,rfl,rfl,rfl,e6,rfl,es⟩
theorem fs (W:WP S) {g:Nat} (hk:g ≠ S.k) (he:S.e ≠ g) (hl:∀ j s,S.sl = some (j,s) → g ≠ s) (y:dL) (d:Nat):Same (bc (S.ps b X) S.e g (1 - S.c) 6) (({ S with e:=g,side:=d }:St).ps b y):=by
 haveI e6:(1 <<< S.k ||| 1 <<< S.e) ^^^ (1 <<< S.e ||| 1 <<< g) = 1 <<< S.k ||| 1 <<< g:=HU (Ej W.ke) (Ej hk.symm) he
 haveI es:1 <<< S.e ^^^ (1 <<< S.e ||| 1 <<< g) = 1 <<< g:=HG he
 haveI bd:(((List.range (al b)).map S.pcAt).set S.e 0).set g ((1 - S.c) * 8 + 6) = (List.range (al b)).map ({ S with e:=g,side:=d }:St).pcAt:=map_set fun q => by
  unfold St.pcAt
  dsimp only
  by_cases h1:q = g
  ·rw [if_pos h1,if_pos h1,if_neg (fun e => hk (h1.symm.trans e))]
  ·rw [if_neg h1,if_neg h1]
   by_cases h0:q = S.k
   ·rw [if_pos h0,if_pos h0,if_neg (fun e => W.ke (h0.symm.trans e))]
   ·rw [if_neg h0,if_neg h0]
    by_cases h2:q = S.e
    ·rw [if_pos h2]
     split
     ·rename_i j s q'; rw [if_neg (fun e => (W.sl j s q').2.2.2 (e.symm.trans h2))]
     ·rfl
    ·rw [if_neg h2,if_neg h2]
 haveI hc:=W.c
 obtain ⟨c,k,e,sl,sd⟩:=S
 haveI hc:c < 2:=hc
 rcases (by omega:c = 0 ∨ c = 1) with rfl | rfl
 ·exact ⟨bd,rfl,rfl,rfl,e6,rfl,es⟩
 ·exact ⟨bd,rfl,rfl,rfl,e6,es,rfl⟩
theorem ua (W:WP S) {j o g:Nat} (hl:S.sl = some (j,o)) (hk:g ≠ S.k) (he:g ≠ S.e) (hog:o ≠ g) (y:dL) (d:Nat):Same (bc (S.ps b X) o g S.c j) (({ S with sl:=some (j,g),side:=d }:St).ps b y):=by
 obtain ⟨hj,w1,w2,w3⟩:=W.sl _ _ hl
 have es:(1 <<< S.k ||| 1 <<< o) ^^^ (1 <<< o ||| 1 <<< g) = 1 <<< S.k ||| 1 <<< g:=HU (Ej w2.symm) (Ej hk.symm) hog
 have e1:1 <<< o ^^^ (1 <<< o ||| 1 <<< g) = 1 <<< g:=HG hog
 have bd:(((List.range (al b)).map S.pcAt).set o 0).set g (S.c * 8 + j) = (List.range (al b)).map ({ S with sl:=some (j,g),side:=d }:St).pcAt:=map_set fun q => by
  unfold St.pcAt
  rw [hl]
  dsimp only
  by_cases h1:q = g
  ·rw [if_pos h1,if_neg (fun e => hk (h1.symm.trans e)),if_neg (fun e => he (h1.symm.trans e)),if_pos h1]
  ·rw [if_neg h1,if_neg h1]
   by_cases h2:q = o
   ·rw [if_pos h2,if_neg (fun e => w2 (h2.symm.trans e)),if_neg (fun e => w3 (h2.symm.trans e))]
   ·rw [if_neg h2,if_neg h2]
 haveI hc:=W.c
 obtain ⟨c,k,e,sl,sd⟩:=S
 simp only at hl
 subst hl
 haveI hc:c < 2:=hc
 rcases (by omega:c = 0 ∨ c = 1) with rfl | rfl <;> rcases hj with rfl | rfl | rfl
 ·exact ⟨bd,e1,rfl,rfl,rfl,es,rfl⟩
 ·exact ⟨bd,rfl,e1,rfl,rfl,es,rfl⟩
 ·exact ⟨bd,rfl,rfl,e1,rfl,es,rfl⟩
 ·exact ⟨bd,e1,rfl,rfl,rfl,rfl,es⟩
 ·exact ⟨bd,rfl,e1,rfl,rfl,rfl,es⟩
 ·exact ⟨bd,rfl,rfl,e1,rfl,rfl,es⟩
theorem wA (W:WP S) {j s:Nat} (hl:S.sl = some (j,s)) (y:dL) (d:Nat):Same (s9 (S.ps b X) s S.c j) (({ S with sl:=none,side:=d }:St).ps b y):=by
 obtain ⟨hj,w1,w2,w3⟩:=W.sl _ _ hl
 have es:(1 <<< S.k ||| 1 <<< s) ^^^ 1 <<< s = 1 <<< S.k ||| 0:=by rw [xt (Ej w2.symm)]; simp
 have e1:1 <<< s ^^^ 1 <<< s = 0:=Nat.xor_self _
 have bd:((List.range (al b)).map S.pcAt).set s 0 = (List.range (al b)).map ({ S with sl:=none,side:=d }:St).pcAt:=by
  refine ue fun q => ?_
  unfold St.pcAt
  rw [hl]
  dsimp only
  by_cases h1:q = s
  ·rw [if_pos h1,if_neg (fun e => w2 (h1.symm.trans e)),if_neg (fun e => w3 (h1.symm.trans e))]
  ·rw [if_neg h1,if_neg h1]
 haveI hc:=W.c
 obtain ⟨c,k,e,sl,sd⟩:=S
 simp only at hl
 subst hl
 haveI hc:c < 2:=hc
 rcases (by omega:c = 0 ∨ c = 1) with rfl | rfl <;> rcases hj with rfl | rfl | rfl
 ·exact ⟨bd,e1,rfl,rfl,rfl,es,rfl⟩
 ·exact ⟨bd,rfl,e1,rfl,rfl,es,rfl⟩
 ·exact ⟨bd,rfl,rfl,e1,rfl,es,rfl⟩
 ·exact ⟨bd,e1,rfl,rfl,rfl,rfl,es⟩
 ·exact ⟨bd,rfl,e1,rfl,rfl,rfl,es⟩
 ·exact ⟨bd,rfl,rfl,e1,rfl,rfl,es⟩
theorem AK {j s:Nat} (hc:S.c < 2) (hl:S.sl = none) (hj:j = 3 ∨ j = 4 ∨ j = 5) (h1:s ≠ S.k) (h2:s ≠ S.e) (y:dL) (d:Nat):Same (jD (S.ps b X) s S.c j) (({ S with sl:=some (j,s),side:=d }:St).ps b y):=by
 have es:(1 <<< S.k ||| 0) ||| 1 <<< s = 1 <<< S.k ||| 1 <<< s:=by simp
 have e1:0 ||| 1 <<< s = 1 <<< s:=by simp
 have bd:((List.range (al b)).map S.pcAt).set s (S.c * 8 + j) = (List.range (al b)).map ({ S with sl:=some (j,s),side:=d }:St).pcAt:=by
  refine ue fun q => ?_
  unfold St.pcAt
  rw [hl]
  dsimp only
  by_cases h3:q = s
  ·rw [if_pos h3,if_neg (fun e => h1 (h3.symm.trans e)),if_neg (fun e => h2 (h3.symm.trans e)),if_pos h3]
  ·rw [if_neg h3,if_neg h3]
 obtain ⟨c,k,e,sl,sd⟩:=S
 simp only at hl
 subst hl
 haveI hc:c < 2:=hc
 rcases (by omega:c = 0 ∨ c = 1) with rfl | rfl <;> rcases hj with rfl | rfl | rfl
 ·exact ⟨bd,e1,rfl,rfl,rfl,es,rfl⟩
 ·exact ⟨bd,rfl,e1,rfl,rfl,es,rfl⟩
 ·exact ⟨bd,rfl,rfl,e1,rfl,es,rfl⟩
 ·exact ⟨bd,e1,rfl,rfl,rfl,rfl,es⟩
 ·exact ⟨bd,rfl,e1,rfl,rfl,rfl,es⟩
 ·exact ⟨bd,rfl,rfl,e1,rfl,rfl,es⟩
end
end
section
open PySem
section
variable {b:B3} {S S':St} {X:dL}
noncomputable def BN (P Q:PS):Prop:=P.side = Q.side ∧ P.full = Q.full ∧ P.hist = Q.hist
theorem cR (f:Nat → Nat) (P:PS) (c k:Nat) (l:List Nat):BN (qh f { P with bd:=l } c k) P:=by
 exact ⟨lV PS.side (fun _ _ => rfl) (fun _ _ => rfl) (fun _ _ => rfl) (fun _ _ => rfl) (fun _ _ => rfl) (fun _ _ => rfl) f { P with bd:=l } c k,lV PS.full (fun _ _ => rfl) (fun _ _ => rfl) (fun _ _ => rfl) (fun _ _ => rfl) (fun _ _ => rfl) (fun _ _ => rfl) f { P with bd:=l } c k,lV PS.hist (fun _ _ => rfl) (fun _ _ => rfl) (fun _ _ => rfl) (fun _ _ => rfl) (fun _ _ => rfl) (fun _ _ => rfl) f { P with bd:=l } c k⟩
theorem iB (P:PS) (o g c k:Nat):BN (bc P o g c k) P:=cR _ P c k _
theorem xA {P P':PS} {g c t:Nat} (h:Took P P' g c t):BN P' P:=by
 cases h with
 | no h => rw [h]; exact ⟨rfl,rfl,rfl⟩
 | yes k z hk h => rw [h]; exact cR _ P c k _
theorem yN {P P':PS} {g c t:Nat} (h:Put P P' g c t):BN P' P:=by
 cases h with
 | no h => rw [h]; exact ⟨rfl,rfl,rfl⟩
 | yes k z hk h => rw [h]; exact cR _ P c k _
theorem gG {P:PS} {y:dL} (h:Same P (S.ps b y)) (hs:P.side = S.side):P = S.ps b (nx P):=Same.eq (Q:=S.ps b (nx P)) h hs rfl rfl rfl rfl
theorem Same.fin {P Q:PS} (h:Same P Q) (z c d z':Nat):Same (bR (dI (jv (bR P z) c) d) z') Q:=⟨h.1,h.2.1,h.2.2.1,h.2.2.2.1,h.2.2.2.2.1,h.2.2.2.2.2.1,h.2.2.2.2.2.2⟩
theorem Same.fin' {P Q:PS} (h:Same P Q) (c:Nat) (x:Int) (z:Nat):Same (bR (pS (lR P c) x) z) Q:=⟨h.1,h.2.1,h.2.2.1,h.2.2.2.1,h.2.2.2.2.1,h.2.2.2.2.2.1,h.2.2.2.2.2.2⟩
theorem Same.key {P Q:PS} (h:Same P Q) (z:Nat):Same (bR P z) Q:=⟨h.1,h.2.1,h.2.2.1,h.2.2.2.1,h.2.2.2.2.1,h.2.2.2.2.2.1,h.2.2.2.2.2.2⟩
variable (row:List Int) (a:Int)
noncomputable def xV (b:B3) (S S':St) (X X':dL):Prop:=X'.hist.length = X.hist.length + 1 ∧ ∀ n J,run ah (n + 4) "undo_move" [.ref 42] (hp row a b (S'.ps b X') J) = some (.none,hp row a b (S.ps b X) J)
theorem mc {m o g c k t:Nat} (hc:c < 2) (hk:Kind k) (hs:S.side = c) (ho:o < al b) (hg:g < al b) (hog:o ≠ g) (hm:m < 16384) (m1:m >>> 6 &&& 63 = o) (m2:m &&& 63 = g)
  (po:S.pcAt o = c * 8 + k) (pt:S.pcAt g = t) (htk:t = 0 ∨ ∃ k,Kind k ∧ t = (1 - c) * 8 + k) (pg:S'.pcAt g = c * 8 + k) (s1:S'.side = 1 - c)
  (fw:∀ P2,Took (vf (S.ps b X) m t) P2 g (1 - c) t → ∃ y,Same (bc P2 o g c k) (S'.ps b y))
  (bw:∀ y z P2,Put (bR (bc (({ S' with side:=c }:St).ps b y) g o c k) z) P2 g (1 - c) t → ∃ y,Same P2 (S.ps b y)) (hz:X.hist.length ≤ 900) (n:Nat) (J:H) :
  ∃ X',run ah (n + 4) "do_move" [.ref 42,.int m] (hp row a b (S.ps b X) J) = some (.none,hp row a b (S'.ps b X') J) ∧ xV row a b S S' X X':=by
 have at':∀ (S:St) (X:dL) (q:Nat),q < al b → (S.ps b X).bd.getD q 0 = S.pcAt q:=fun S X q hq => by
  show ((List.range (al b)).map S.pcAt).getD q 0 = _
  rw [List.getD_eq_getElem?_getD,List.getElem?_map,List.getElem?_range hq]; rfl
 have len:∀ (S:St) (X:dL),(S.ps b X).bd.length = al b:=fun S X => by show ((List.range (al b)).map S.pcAt).length = _; simp
 obtain ⟨P2,z,z',hT,r⟩:=yl row a b (S.ps b X) J n m o g c k t hc hk hs (len _ _) ho hg hog ((at' _ _ _ ho).trans po) hm m1 m2 ((at' _ _ _ hg).trans pt) htk (by show X.hist.length ≤ 1000; omega)
 obtain ⟨y,hS⟩:=fw P2 hT
 obtain ⟨t1,t2,t3⟩:=xA hT
 obtain ⟨u1,u2,u3⟩:=iB P2 o g c k
 haveI eP:bR (dI (jv (bR (bc P2 o g c k) z) c) (1 - c)) z' = S'.ps b (nx (bR (dI (jv (bR (bc P2 o g c k) z) c) (1 - c)) z')):=gG (y:=y) (hS.fin _ _ _ _) s1.symm
 rw [eP] at r
 have eh:(nx (bR (dI (jv (bR (bc P2 o g c k) z) c) (1 - c)) z')).hist = X.hist ++ [[(m:Int),(t:Int),0,-1,X.half,(X.key:Int)]]:=u3.trans t3
 have ef:(nx (bR (dI (jv (bR (bc P2 o g c k) z) c) (1 - c)) z')).full = if c = 1 then X.full + 1 else X.full:=by
  show (if c = 1 then (bc P2 o g c k).full + 1 else (bc P2 o g c k).full) = _
  rw [u2,t2]; rfl
 revert r eh ef
 generalize nx (bR (dI (jv (bR (bc P2 o g c k) z) c) (1 - c)) z') = X'
 intro r eh ef
 refine ⟨X',r,by rw [eh]; simp,fun n J' => ?_⟩
 obtain ⟨Q,w,hP,q⟩:=tL row a b (S'.ps b X') J' n m o g c k t X.key X.half X.hist eh (by omega) hc hk s1 (len _ _) ho hg ((at' _ _ _ hg).trans pg) hm m1 m2 htk
 rw [q]
 obtain ⟨y',hS'⟩:=bw ⟨X'.half,X'.full,X'.key,X.hist⟩ w Q hP
 obtain ⟨v1,v2,v3⟩:=yN hP
 obtain ⟨x1,x2,x3⟩:=iB (({ S' with side:=c }:St).ps b ⟨X'.half,X'.full,X'.key,X.hist⟩) g o c k
 congr 2
 haveI:bR (pS (lR Q c) X.half) X.key = S.ps b X:=by
  refine Same.eq (Q:=S.ps b X) (hS'.fin' _ _ _) ?_ rfl ?_ rfl ?_
  ·exact (v1.trans x1).trans hs.symm
  ·show (if c = 1 then Q.full - 1 else Q.full) = X.full
   haveI e:Q.full = X'.full:=v2.trans x2
   rw [e,ef]
   split <;> omega
  ·exact v3.trans x3
 rw [this]
theorem ze:S.pcAt S.k = S.c * 8 + 6:=by unfold St.pcAt; rw [if_pos rfl]
theorem qu (h:S.k ≠ S.e):S.pcAt S.e = (1 - S.c) * 8 + 6:=by unfold St.pcAt; rw [if_neg (Ne.symm h),if_pos rfl]
theorem qB {j s:Nat} (hl:S.sl = some (j,s)) (h1:s ≠ S.k) (h2:s ≠ S.e):S.pcAt s = S.c * 8 + j:=by unfold St.pcAt; rw [if_neg h1,if_neg h2,hl]; exact if_pos rfl
theorem uO {q:Nat} (h1:q ≠ S.k) (h2:q ≠ S.e) (h3:∀ j s,S.sl = some (j,s) → q ≠ s):S.pcAt q = 0:=by
 unfold St.pcAt
 rw [if_neg h1,if_neg h2]
 split
 ·rename_i j s e; exact if_neg (h3 j s e)
 ·rfl
theorem fF {j:Nat} (h:j = 3 ∨ j = 4 ∨ j = 5):Kind j:=h.imp_right fun h => h.imp_right fun h => .inl h
theorem sx {c j k:Nat} (h:c * 8 + j = c * 8 + k):j = k:=by omega
theorem Took.zero {P P':PS} {g c:Nat} (h:Took P P' g c 0):P' = P:=by
 generalize e0:(0:Nat) = t at h
 cases h with
 | yes k z hk _ => exfalso; rcases hk with rfl | rfl | rfl | rfl <;> omega
 | no h => exact h
theorem Put.zero {P P':PS} {g c:Nat} (h:Put P P' g c 0):P' = P:=by
 generalize e0:(0:Nat) = t at h
 cases h with
 | yes k z hk _ => exfalso; rcases hk with rfl | rfl | rfl | rfl <;> omega
 | no h => exact h
theorem Took.kd {P P':PS} {g c j:Nat} (hj:j = 3 ∨ j = 4 ∨ j = 5) (h:Took P P' g c (c * 8 + j)):∃ z,P' = pS (bR (s9 P g c j) z) 0:=by
 generalize e0:c * 8 + j = t at h
 cases h with
 | no _ => exfalso; rcases hj with rfl | rfl | rfl <;> omega
 | yes k z hk h => rw [sx e0]; exact ⟨z,h⟩
theorem Put.kd {P P':PS} {g c j:Nat} (hj:j = 3 ∨ j = 4 ∨ j = 5) (h:Put P P' g c (c * 8 + j)):∃ z,P' = bR (jD P g c j) z:=by
 generalize e0:c * 8 + j = t at h
 cases h with
 | no _ => exfalso; rcases hj with rfl | rfl | rfl <;> omega
 | yes k z hk h => rw [sx e0]; exact ⟨z,h⟩
theorem sM (W:WF b S) {m:Nat} (hmm:m ∈ LM b S) (hz:X.hist.length ≤ 900) (n:Nat) (J:H) :
  ∃ X',run ah (n + 4) "do_move" [.ref 42,.int m] (hp row a b (S.ps b X) J) = some (.none,hp row a b ((DO S m).ps b X') J) ∧ xV row a b S (DO S m) X X':=by
 obtain ⟨o,g,m1,m2,hm,ho,hg,hog,mv⟩:=uk W hmm
 have hc:=W.c
 have wp:=W.wp
 haveI k6:Kind 6:=.inr (.inr (.inr rfl))
 unfold DO
 rw [m1,m2]
 cases mv with
 | king hs hk he hl ap =>
  rw [if_pos hs,if_pos hk]
  subst hk
  haveI wp':WP ({ S with k:=g,side:=S.c }:St):=⟨hc,he,fun j s q => ⟨(wp.sl j s q).1,rfl,fun e => hl j s q e.symm,(wp.sl j s q).2.2.2⟩⟩
  refine mc row a hc k6 hs ho hg hog hm m1 m2 ze (uO (Ne.symm hog) he hl) (.inl rfl) ze rfl (fun P2 hT => ?_) (fun y z P2 hP => ?_) hz n J
  ·rw [hT.zero]; exact ⟨⟨0,0,0,[]⟩,mx (X:=⟨X.half + 1,X.full,X.key,_⟩) wp he hog hl _ _⟩
  ·rw [hP.zero]; exact ⟨⟨0,0,0,[]⟩,mx (S:={ S with k:=g,side:=S.c }) (X:=y) wp' W.ke (Ne.symm hog) (fun j s q => (wp.sl j s q).2.2.1.symm) _ S.side⟩
 | slid hs j hl hk he ok =>
  rw [if_pos hs,if_neg ok,hl]
  obtain ⟨hj,_,w2,w3⟩:=wp.sl _ _ hl
  haveI wp':WP ({ S with sl:=some (j,g),side:=S.c }:St):=⟨hc,wp.ke,fun j' s q => by cases q; exact ⟨hj,rfl,hk,he⟩⟩
  refine mc row a hc (fF hj) hs ho hg hog hm m1 m2 (qB hl w2 w3) (uO hk he fun j' s q => by rw [hl] at q; cases q; exact Ne.symm hog) (.inl rfl) (qB (S:={ S with sl:=some (j,g),side:=1 - S.c }) rfl hk he) rfl (fun P2 hT => ?_) (fun y z P2 hP => ?_) hz n J
  ·rw [hT.zero]; exact ⟨⟨0,0,0,[]⟩,ua (X:=⟨X.half + 1,X.full,X.key,_⟩) wp hl hk he hog _ _⟩
  ·rw [hP.zero]
   refine ⟨⟨0,0,0,[]⟩,?_⟩
   haveI:=ua (b:=b) (S:={ S with sl:=some (j,g),side:=S.c }) (X:=y) wp' rfl w2 w3 (Ne.symm hog) ⟨0,0,0,[]⟩ S.side
   rw [← hl] at this
   exact this
 | bare hs hk hne ha =>
  haveI hn:S.side ≠ S.c:=by omega
  rw [if_neg hn]
  subst hk
  have c1:1 - (1 - S.c) = S.c:=by omega
  haveI c2:S.c = 1 - (1 - S.c):=c1.symm
  by_cases hcap:∃ j,S.sl = some (j,g)
  ·obtain ⟨j,hl⟩:=hcap
   obtain ⟨hj,_,w2,w3⟩:=wp.sl _ _ hl
   haveI ef:(S.sl.filter fun x => x.2 != g) = none:=by rw [hl]; simp [Option.filter]
   rw [ef]
   refine mc row a (c:=1 - S.c) (by omega) k6 hs ho hg hog hm m1 m2 (qu W.ke) (qB hl w2 w3) (.inr ⟨j,fF hj,by rw [c1]⟩) (qu (S:={ S with e:=g,sl:=none,side:=S.c }) (Ne.symm hne)) c2 (fun P2 hT => ?_) (fun y z P2 hP => ?_) hz n J
   ·rw [c1] at hT
    obtain ⟨z,h⟩:=hT.kd hj
    haveI h1:=wA (b:=b) (X:=⟨X.half + 1,X.full,X.key,X.hist ++ [zm (S.ps b X) m (S.c * 8 + j)]⟩) wp hl ⟨0,0,0,[]⟩ S.side
    haveI h2:P2 = ({ S with sl:=none,side:=S.side }:St).ps b (nx P2):=by
     refine gG (y:=⟨0,0,0,[]⟩) ?_ ?_
     ·rw [h]; exact h1
     ·rw [h]; exact (cR _ _ _ _ _).1
    rw [h2]
    exact ⟨⟨0,0,0,[]⟩,fs (S:={ S with sl:=none,side:=S.side }) (X:=nx P2) ⟨hc,W.ke,fun _ _ q => by cases q⟩ hne hog (fun _ _ q => by cases q) _ _⟩
   ·rw [c1] at hP
    obtain ⟨z',h⟩:=hP.kd hj
    haveI h1:=fs (b:=b) (S:={ S with e:=g,sl:=none,side:=1 - S.c }) (X:=y) (g:=S.e) ⟨hc,Ne.symm hne,fun _ _ q => by cases q⟩ W.ke.symm (Ne.symm hog) (fun _ _ q => by cases q) ⟨0,0,0,[]⟩ (1 - S.c)
    haveI h2:=gG (P:=bR (bc (({ S with e:=g,sl:=none,side:=1 - S.c }:St).ps b y) g S.e (1 - S.c) 6) z) h1 (iB _ _ _ _ _).1
    rw [h]
    haveI h3:bR (bc (({ S with e:=g,sl:=none,side:=1 - S.c }:St).ps b y) g S.e (1 - S.c) 6) z = _:=h2
    show ∃ y',Same (bR (jD (bR (bc (({ S with e:=g,sl:=none,side:=1 - S.c }:St).ps b y) g S.e (1 - S.c) 6) z) g S.c j) z') (S.ps b y')
    rw [h3]
    refine ⟨⟨0,0,0,[]⟩,?_⟩
    haveI:=AK (b:=b) (S:={ S with sl:=none,side:=1 - S.c }) (X:=nx (bR (bc (({ S with e:=g,sl:=none,side:=1 - S.c }:St).ps b y) g S.e (1 - S.c) 6) z)) hc rfl hj w2 w3 ⟨0,0,0,[]⟩ S.side
    rw [← hl] at this
    exact this
  ·have hl:∀ j s,S.sl = some (j,s) → g ≠ s:=fun j s q e => hcap ⟨j,e ▸ q⟩
   haveI ef:(S.sl.filter fun x => x.2 != g) = S.sl:=by
    cases q:S.sl with
    | none => rfl
    | some x => rw [Option.filter_some,if_pos]; simpa using (hl x.1 x.2 q).symm
   rw [ef]
   refine mc row a (c:=1 - S.c) (by omega) k6 hs ho hg hog hm m1 m2 (qu W.ke) (uO hne (Ne.symm hog) hl) (.inl rfl) (qu (S:={ S with e:=g,side:=S.c }) (Ne.symm hne)) c2 (fun P2 hT => ?_) (fun y z P2 hP => ?_) hz n J
   ·rw [hT.zero]; exact ⟨⟨0,0,0,[]⟩,fs (X:=⟨X.half + 1,X.full,X.key,_⟩) wp hne hog hl _ _⟩
   ·rw [hP.zero]; exact ⟨⟨0,0,0,[]⟩,fs (S:={ S with e:=g,side:=1 - S.c }) (X:=y) ⟨hc,Ne.symm hne,fun j s q => ⟨(wp.sl j s q).1,rfl,(wp.sl j s q).2.2.1,fun e => hl j s q e.symm⟩⟩ W.ke.symm (Ne.symm hog) (fun j s q => (wp.sl j s q).2.2.2.symm) _ S.side⟩
end
end
section
open PySem
noncomputable abbrev hs (row:List Int) (a:Int) (b:B3) (S:St) (X:dL) (J:H):H:=hp row a b (S.ps b X) J
noncomputable def MT (b:B3) (S:St):Bool:=IC b S && !HL b S
noncomputable def CM (b:B3) (S:St):Bool:=(LM b S).any fun m => MT b (DO S m)
noncomputable def MD (b:B3) (S:St):Bool:=if LM b S = [] then IC b S else (LM b S).all fun m => CM b (DO S m)
noncomputable def nV (l:List Nat):List V:=l.map fun (n:Nat) => V.int n
section
variable (row:List Int) (a:Int) {b:B3} {S:St} (X:dL) (J:H)
noncomputable abbrev Gm (S:St) (n:Nat) (x:Str) (vs:List V) (v:V):Prop:=jN row a b (S.ps b X) J n x vs v
theorem zj (W:WF b S) (n:Nat):run ah (n + 14) "in_check" [.ref 42] (hs row a b S X J) = some (.bool (IC b S),hs row a b S X J):=
 iY row a b (S.ps b X) J n S.king W.side (qX W) (kC W)
theorem DL (W:WF b S) (n:Nat):jN row a b (S.ps b X) J (n + 19) "has_legal_move" [.ref 42] (.bool (HL b S)):=sC row a b (S.ps b X) J n (CQ W X)
theorem qt (W:WF b S) (n:Nat):lh row a b (S.ps b X) J (n + 20) "legal_moves" [.ref 42] (LM b S):=o8 row a b (S.ps b X) J n (CQ W X)
variable {X J}
theorem rI {o:Nat} {l:List Nat} (h:J[o]? = some (nL l)):az (.ref (47 + o)) (hs row a b S X J) = some (nV l):=jo row a b _ J h
theorem DK {o:Nat} {G:H} (h:o < J.length):stays (.ref (47 + o)) (hs row a b S X J) (hs row a b S X (J ++ G)) = true:=by
 simp only [stays,eM]
 rw [List.getElem?_append_left h]
 simp
theorem cj {o:Nat} {x:MO} (h:J[o]? = some x):o < J.length:=(List.getElem?_eq_some_iff.mp h).1
theorem mw {B:Sx} {x:Nat} {stop:Nat → Bool} {I:Fm → Prop} {R:V → Nat → H → Prop} (J0:H) (o:Nat) (ho:o < J0.length):∀ (ms:List Nat) (f:Fm) (K:H),I f →
  (∀ m ∈ ms,∀ f K,I f → if stop m then ∃ v f' G,B (upd f x (.int m)) (hs row a b S X (J0 ++ K)) = some (.ret v,f',hs row a b S X (J0 ++ (K ++ G))) ∧ R v m (J0 ++ (K ++ G))
   else ∃ f' G,B (upd f x (.int m)) (hs row a b S X (J0 ++ K)) = some (.next,f',hs row a b S X (J0 ++ (K ++ G))) ∧ I f') →
  match ms.find? stop with
  | some m => ∃ v f' G,bQ (fun h' => stays (.ref (47 + o)) (hs row a b S X J0) h') x B (nV ms) f (hs row a b S X (J0 ++ K)) = some (.ret v,f',hs row a b S X (J0 ++ G)) ∧ R v m (J0 ++ G)
  | none => ∃ f' G,bQ (fun h' => stays (.ref (47 + o)) (hs row a b S X J0) h') x B (nV ms) f (hs row a b S X (J0 ++ K)) = some (.next,f',hs row a b S X (J0 ++ G)) ∧ I f'
 | [],f,K,hI,_ => ⟨f,K,rfl,hI⟩
 | m :: ms,f,K,hI,hB => by
  have h:=hB m (.head _) f K hI
  rw [List.find?_cons]
  cases hs':stop m with
  | true =>
   rw [hs',if_pos rfl] at h
   obtain ⟨v,f',G,h1,h2⟩:=h
   exact ⟨v,f',K ++ G,gj h1,h2⟩
  | false =>
   rw [hs',if_neg (by decide)] at h
   obtain ⟨f',G,h1,h2⟩:=h
   haveI ih:=mw J0 o ho ms f' (K ++ G) h2 fun q hq => hB q (.tail _ hq)
   haveI ck:(fun h' => stays (.ref (47 + o)) (hs row a b S X J0) h') (hs row a b S X (J0 ++ (K ++ G))) = true:=DK row a ho
   revert ih
   dsimp only
   cases ms.find? stop with
   | some m' => exact fun ⟨v,f'',G',z1,z2⟩ => ⟨v,f'',G',bE h1 ck z1,z2⟩
   | none => exact fun ⟨f'',G',z1,z2⟩ => ⟨f'',G',bE h1 ck z1,z2⟩
theorem yX {B:Sx} {x o:Nat} {e:Ex} {G:H} {ms:List Nat} {stop:Nat → Bool} {I:Fm → Prop} {R:V → Nat → H → Prop} {r:List Sx} {f:Fm} {Q:V → H → Prop}
  (r1:e f (hs row a b S X J) = some (.ref (47 + o),hs row a b S X (J ++ G))) (r2:(J ++ G)[o]? = some (nL ms)) (hI:I f)
  (hB:∀ m ∈ ms,∀ f K,I f → if stop m then ∃ v f' G,B (upd f x (.int m)) (hs row a b S X (J ++ K)) = some (.ret v,f',hs row a b S X (J ++ (K ++ G))) ∧ R v m (J ++ (K ++ G))
   else ∃ f' G,B (upd f x (.int m)) (hs row a b S X (J ++ K)) = some (.next,f',hs row a b S X (J ++ (K ++ G))) ∧ I f')
  (hR:∀ m ∈ ms,stop m = true → ms.find? stop = some m → ∀ v K,R v m (J ++ K) → Q v (J ++ K))
  (hE:ms.find? stop = none → ∀ f K,I f → ∃ v K',fin (ag r f (hs row a b S X (J ++ K))) = some (v,hs row a b S X (J ++ K')) ∧ Q v (J ++ K')) :
  ∃ v K,fin (ag (bF x e B :: r) f (hs row a b S X J)) = some (v,hs row a b S X (J ++ K)) ∧ Q v (J ++ K):=by
 haveI ho:=cj r2
 haveI lp:=mw (B:=B) (x:=x) (stop:=stop) (I:=I) (R:=fun v m K => ∃ K',K = J ++ K' ∧ R v m K) row a (X:=X) (S:=S) (J ++ G) o ho ms f [] hI fun m hm f K hI => by
  have:=hB m hm f (G ++ K) hI
  rw [← List.append_assoc] at this
  split at this
  ·rename_i h
   obtain ⟨v,f',G',z1,z2⟩:=this
   rw [if_pos h]
   exact ⟨v,f',G',by rw [z1]; simp,G ++ (K ++ G'),by simp,by simpa using z2⟩
  ·rename_i h
   obtain ⟨f',G',z1,z2⟩:=this
   rw [if_neg h]
   exact ⟨f',G',by rw [z1]; simp,z2⟩
 rw [List.append_nil] at lp
 haveI hit:=rI (S:=S) (X:=X) row a (b:=b) r2
 revert lp
 generalize hf:ms.find? stop = w
 cases w with
 | some m =>
  rintro ⟨v,f',G',z1,K',e,z2⟩
  haveI hst:=List.find?_some hf
  haveI z2':R v m (J ++ (G ++ G')):=by rw [← List.append_assoc]; exact z2
  refine ⟨v,G ++ G',?_,hR m (List.mem_of_find?_eq_some hf) hst hf v _ z2'⟩
  rw [← List.append_assoc]
  exact aA (br r1 hit z1)
 | none =>
  rintro ⟨f',G',z1,z2⟩
  obtain ⟨v,K',y1,y2⟩:=hE hf f' (G ++ G') z2
  refine ⟨v,K',?_,y2⟩
  rw [← List.append_assoc] at y1
  exact ae (br r1 hit z1) y1
theorem vA {B:Sx} {x n N:Nat} {stop:Nat → Bool} {I:Fm → Prop} {R:V → Nat → H → Prop} {r:List Sx} {f:Fm} {Q:V → H → Prop} (W:WF b S) (hN:N = n + 20) (f0:f 0 = some (.ref 42)) (hI:I f)
  (hB:∀ m ∈ LM b S,∀ f K,I f → if stop m then ∃ v f' G,B (upd f x (.int m)) (hs row a b S X (J ++ K)) = some (.ret v,f',hs row a b S X (J ++ (K ++ G))) ∧ R v m (J ++ (K ++ G))
   else ∃ f' G,B (upd f x (.int m)) (hs row a b S X (J ++ K)) = some (.next,f',hs row a b S X (J ++ (K ++ G))) ∧ I f')
  (hR:∀ m ∈ LM b S,stop m = true → (LM b S).find? stop = some m → ∀ v K,R v m (J ++ K) → Q v (J ++ K))
  (hE:(LM b S).find? stop = none → ∀ f K,I f → ∃ v K',fin (ag r f (hs row a b S X (J ++ K))) = some (v,hs row a b S X (J ++ K')) ∧ Q v (J ++ K')) :
  ∃ v K,fin (ag (bF x (af (run ah N) "legal_moves" [(aa 0)]) B :: r) f (hs row a b S X J)) = some (v,hs row a b S X (J ++ K)) ∧ Q v (J ++ K):=by
 subst hN
 obtain ⟨G,o,r1,r2,r3⟩:=qt row a X J W n
 exact yX row a (aM (ar (loc f0) aG) r1) r2 hI hB hR hE
theorem HZ {k:Int} (h:k ≤ 0):decide (k ≤ 0) = true:=decide_eq_true h
variable (X J)
theorem gm (W:WF b S) {k:Int} (h:k ≤ 0) (n:Nat):jN row a b (S.ps b X) J (n + 20) "is_mated_in" [.ref 42,.int k] (.bool (MT b S)):=by
 have ic:run ah (n + 19) "in_check" [.ref 42] (hs row a b S X J) = _:=zj row a X J W (n + 5)
 obtain ⟨G,hl⟩:=DL row a X J W n
 haveI t:ax .LtE (aa 1) (ac (.int 0)) (upd (upd nf 0 (.ref 42)) 1 (.int k)) (hs row a b S X J) = some (true,hs row a b S X J):=aq (loc rfl) aH ((qV _ _ _).trans (congrArg some (HZ h)))
 unfold MT
 cases hc:IC b S with
 | false =>
  rw [hc] at ic
  refine ⟨[],?_⟩
  rw [eR,List.append_nil]
  exact aA (aT t (aN (aC (wS (aM (ar (loc rfl) aG) ic)))))
 | true =>
  rw [hc] at ic
  refine ⟨G,?_⟩
  rw [eR]
  exact aA (aT t (aN (aC (cY (aM (ar (loc rfl) aG) ic) (C4 (aM (ar (loc rfl) aG) hl))))))
theorem Dx {k:Int} (h:k ≤ 0) (n:Nat):run ah (n + 1) "can_mate" [.ref 42,.int k] (hs row a b S X J) = some (.bool false,hs row a b S X J):=by
 refine (mW ..).trans ?_
 exact aA (aT (aq (loc rfl) aH ((qV _ _ _).trans (congrArg some (HZ h)))) (aN (aC aH)))
theorem CU {m:Nat} (W:WF b S) (hm:m ∈ LM b S) (hz:X.hist.length ≤ 900) (n:Nat) {x:Str} {vs:List V} {N:Nat} {v:V} (h:∀ X',X'.hist.length = X.hist.length + 1 → Gm (b:=b) row a X' J (DO S m) N x vs v) :
  ∃ X' K,run ah (n + 4) "do_move" [.ref 42,.int m] (hs row a b S X J) = some (.none,hs row a b (DO S m) X' J) ∧ run ah N x vs (hs row a b (DO S m) X' J) = some (v,hs row a b (DO S m) X' (J ++ K)) ∧
   ∀ n K,run ah (n + 4) "undo_move" [.ref 42] (hs row a b (DO S m) X' (J ++ K)) = some (.none,hs row a b S X (J ++ K)):=by
 obtain ⟨X',r1,l,bk⟩:=sM row a W hm hz n J
 obtain ⟨K,r2⟩:=h X' l
 exact ⟨X',K,r1,r2,fun n K => bk n (J ++ K)⟩
theorem mz {l:List Nat} {p:Nat → Bool}:l.any p = (l.find? p).isSome:=by
 induction l with
 | nil => rfl
 | cons x l ih => rw [List.any_cons,List.find?_cons]; cases p x with
  | true => rfl
  | false => simpa using ih
theorem zG (W:WF b S) (hz:X.hist.length ≤ 900) (n:Nat):jN row a b (S.ps b X) J (n + 21) "can_mate" [.ref 42,.int 1] (.bool (CM b S)):=by
 haveI key:∃ v K,run ah (n + 21) "can_mate" [.ref 42,.int 1] (hs row a b S X J) = some (v,hs row a b S X (J ++ K)) ∧ v = .bool (CM b S):=by
  rw [mW]
  obtain ⟨v,K,r,e⟩:=vA (n:=n) (N:=n + 20) (stop:=fun m => MT b (DO S m)) (I:=fun f => f 0 = some (.ref 42) ∧ f 1 = some (.int 1)) (R:=fun v _ _ => v = .bool true) (Q:=fun v _ => v = .bool (CM b S)) (X:=X) (J:=J)
   (r:=[aw (ac (.bool false))]) (f:=upd (upd nf 0 (.ref 42)) 1 (.int 1)) (x:=2)
   (B:=ag [au (af (run ah (n + 20)) "do_move" [(aa 0),(aa 2)]),aj 3 (af (run ah (n + 20)) "is_mated_in" [(aa 0),(ao .Sub (aa 1) (ac (.int 1)))]),au (af (run ah (n + 20)) "undo_move" [(aa 0)]),aU (aX (aa 3)) (ag [aw (ac (.bool true))]) (ag [])])
   row a W rfl rfl ⟨rfl,rfl⟩ (fun m hm f K ⟨f0,f1⟩ => by
    obtain ⟨X',G,r1,r2,r3⟩:=CU row a X (J ++ K) W hm hz (n + 16) fun X' _ => gm row a X' (J ++ K) (h9 W hm) (k:=0) (by decide) n
    have step:∀ Z,ag [aU (aX (aa 3)) (ag [aw (ac (.bool true))]) (ag [])] (upd (upd f 2 (.int m)) 3 (.bool (MT b (DO S m)))) (hs row a b S X (J ++ K ++ G)) = Z →
      ag [au (af (run ah (n + 20)) "do_move" [(aa 0),(aa 2)]),aj 3 (af (run ah (n + 20)) "is_mated_in" [(aa 0),(ao .Sub (aa 1) (ac (.int 1)))]),au (af (run ah (n + 20)) "undo_move" [(aa 0)]),aU (aX (aa 3)) (ag [aw (ac (.bool true))]) (ag [])] (upd f 2 (.int m)) (hs row a b S X (J ++ K)) = Z:=fun Z z =>
     ak (aD (aM (ar (loc f0) (ar (loc rfl) aG)) r1) rfl) (ak (am (aM (ar (loc f0) (ar (aL (loc f1) aH rfl) aG)) r2)) (ak (aD (aM (ar (loc f0) aG) (r3 (n + 16) G)) rfl) z))
    rw [List.append_assoc] at step
    cases hm':MT b (DO S m) with
    | true =>
     rw [hm'] at step
     exact ⟨_,_,G,step _ (aN (aT (aS (loc rfl) rfl) (aN (aC aH)))),rfl⟩
    | false =>
     rw [hm'] at step
     exact ⟨_,G,step _ (ak (aI (aS (loc rfl) rfl)) rfl),f0,f1⟩)
   (fun m _ _ hf v K e => by rw [e]; unfold CM; rw [mz,hf]; rfl)
   (fun hf f K _ => ⟨_,K,aA (aC aH),by unfold CM; rw [mz,hf]; rfl⟩)
  exact ⟨v,K,ae (aI (aq (loc rfl) aH rfl)) r,e⟩
 obtain ⟨v,K,r,rfl⟩:=key
 exact ⟨K,r⟩
end
end
section
open PySem
section
variable (row:List Int) (a:Int) {b:B3} {S:St} (X:dL) (J:H)
theorem kT {o:Nat} {l:List V} {P:PS} (h:J[o]? = some (.list l)) (hl:l.length ≤ 1000000) (n:Nat):run ah (n + 1) "len" [.ref (47 + o)] (hp row a b P J) = some (.int l.length,hp row a b P J):=by
 exact sj n ((eM ..).trans h) hl
theorem Dh (W:WF b S):(LM b S).length ≤ 1000:=Nat.le_trans (List.length_filter_le _ _) (wL b (S.ps b ⟨0,0,0,[]⟩) (vb W) _ _)
theorem Dv {l:List Nat}:decide (((l.map fun (n:Nat) => V.int n).length:Int) = 0) = decide (l = []):=by cases l <;> simp <;> omega
theorem tD {l:List Nat} {p:Nat → Bool}:l.all p = (l.find? fun x => !p x).isNone:=by
 induction l with
 | nil => rfl
 | cons x l ih => rw [List.all_cons,List.find?_cons]; cases p x with
  | true => simpa using ih
  | false => rfl
theorem sX (W:WF b S) (hz:X.hist.length ≤ 890) (n:Nat):jN row a b (S.ps b X) J (n + 22) "is_mated_in" [.ref 42,.int 1] (.bool (MD b S)):=by
 haveI key:∃ v K,run ah (n + 22) "is_mated_in" [.ref 42,.int 1] (hs row a b S X J) = some (v,hs row a b S X (J ++ K)) ∧ v = .bool (MD b S):=by
  rw [eR]
  obtain ⟨G,o,r1,r2,r3⟩:=qt row a X J W (n + 1)
  haveI ln:=kT row a (b:=b) (P:=S.ps b X) (J ++ G) r2 (by rw [List.length_map]; haveI:=Dh W; omega) (n + 20)
  haveI ic:run ah (n + 21) "in_check" [.ref 42] (hs row a b S X (J ++ G)) = _:=zj row a X (J ++ G) W (n + 7)
  have pre:∀ Z,fin (ag _ _ (hs row a b S X (J ++ G))) = Z → fin (hO (run ah (n + 21)) (n + 21) (upd (upd nf 0 (.ref 42)) 1 (.int 1)) (hs row a b S X J)) = Z:=fun Z z =>
   ae (aI (aq (loc rfl) aH rfl)) (ae (am (aM (ar (loc rfl) aG) r1)) z)
  have t:=aq (cop:=.Eq) (f:=upd (upd (upd nf 0 (.ref 42)) 1 (.int 1)) 2 (.ref (47 + o))) (e':=ac (.int 0)) (aM (ar (e:=aa 2) (loc rfl) aG) ln) aH ((jd _ _ _).trans (congrArg some Dv))
  by_cases hn:LM b S = []
  ·rw [decide_eq_true hn] at t
   refine ⟨_,G,pre _ (aA (aT t (aN (aC (aM (ar (loc rfl) aG) ic))))),?_⟩
   unfold MD
   rw [if_pos hn]
  ·rw [decide_eq_false hn] at t
   have e:MD b S = (LM b S).all fun m => CM b (DO S m):=if_neg hn
   obtain ⟨v,K,r,e'⟩:=yX (stop:=fun m => !CM b (DO S m)) (I:=fun f => f 0 = some (.ref 42) ∧ f 1 = some (.int 1)) (R:=fun v _ _ => v = .bool false) (Q:=fun v _ => v = .bool (MD b S)) (X:=X) (J:=J ++ G)
    (r:=[aw (ac (.bool true))]) (f:=upd (upd (upd nf 0 (.ref 42)) 1 (.int 1)) 2 (.ref (47 + o))) (x:=3) (e:=aa 2) (G:=[]) (o:=o) (ms:=LM b S)
    (B:=ag [au (af (run ah (n + 21)) "do_move" [(aa 0),(aa 3)]),aj 4 (af (run ah (n + 21)) "can_mate" [(aa 0),(aa 1)]),au (af (run ah (n + 21)) "undo_move" [(aa 0)]),aU (fO (aX (aa 4))) (ag [aw (ac (.bool false))]) (ag [])])
    row a (by rw [List.append_nil]; exact loc rfl) (by rw [List.append_nil]; exact r2) ⟨rfl,rfl⟩ (fun m hm f K ⟨f0,f1⟩ => by
     obtain ⟨X',G',s1,s2,s3⟩:=CU row a X (J ++ G ++ K) W hm (by omega) (n + 17) fun X' hX => zG row a X' (J ++ G ++ K) (h9 W hm) (by omega) n
     have step:∀ Z,ag [aU (fO (aX (aa 4))) (ag [aw (ac (.bool false))]) (ag [])] (upd (upd f 3 (.int m)) 4 (.bool (CM b (DO S m)))) (hs row a b S X (J ++ G ++ K ++ G')) = Z →
       ag [au (af (run ah (n + 21)) "do_move" [(aa 0),(aa 3)]),aj 4 (af (run ah (n + 21)) "can_mate" [(aa 0),(aa 1)]),au (af (run ah (n + 21)) "undo_move" [(aa 0)]),aU (fO (aX (aa 4))) (ag [aw (ac (.bool false))]) (ag [])] (upd f 3 (.int m)) (hs row a b S X (J ++ G ++ K)) = Z:=fun Z z =>
      ak (aD (aM (ar (loc f0) (ar (loc rfl) aG)) s1) rfl) (ak (am (aM (ar (loc f0) (ar (loc f1) aG)) s2)) (ak (aD (aM (ar (loc f0) aG) (s3 (n + 17) G')) rfl) z))
     rw [List.append_assoc (J ++ G)] at step
     cases hm':CM b (DO S m) with
     | false =>
      rw [hm'] at step
      exact ⟨_,_,G',step _ (aN (aT (fp (c:=false) (aS (loc rfl) rfl)) (aN (aC aH)))),rfl⟩
     | true =>
      rw [hm'] at step
      exact ⟨_,G',step _ (ak (aI (fp (c:=true) (aS (loc rfl) rfl))) rfl),f0,f1⟩)
    (fun m _ _ hf v K e'' => by rw [e'',e,tD,hf]; rfl)
    (fun hf f K _ => ⟨_,K,aA (aC aH),by rw [e,tD,hf]; rfl⟩)
   refine ⟨v,G ++ K,?_,e'⟩
   rw [← List.append_assoc]
   exact pre _ (ae (aI t) r)
 obtain ⟨v,K,r,rfl⟩:=key
 exact ⟨K,r⟩
end
end
section
open PySem
noncomputable def FM (b:B3) (S:St):Option Nat:=(LM b S).find? fun m => MT b (DO S m)
section
variable (row:List Int) (a:Int) {b:B3} {S:St} (X:dL) (J:H)
theorem wB (n:Nat) (h:H):∀ l l':List Nat,l.length = l'.length → mP (mR (n + 1) h) (nV l) (nV l') = some (decide (l = l'))
 | [],[],_ => rfl
 | x :: l,y :: l',e => by
  haveI ih:=wB n h l l' (by simpa using e)
  show (mR (n + 1) h (.int x) (.int y)).bind (fun r => (mP (mR (n + 1) h) (nV l) (nV l')).map fun t => r && t) = _
  rw [ih]
  show some (((x:Int) == (y:Int)) && decide (l = l')) = _
  congr 1
  rw [Bool.eq_iff_iff]
  simp
  intro _
  omega
theorem nk (x y:V) (h:H):bI .Eq x y h = mR 4 h x y:=by unfold bI; rfl
theorem iN (x y:V) (h:H):bI .NotEq x y h = (mR 4 h x y).map (!·):=by unfold bI; rfl
theorem my {n i j:Nat} {h:H} {l l':List Nat} (h1:h[i]? = some (nL l)) (h2:h[j]? = some (nL l')):mR (n + 2) h (.ref i) (.ref j) = some (decide (l = l')):=by
 show EQ (mR (n + 1) h) h[i]? h[j]? = _
 rw [h1,h2]
 show (if (nV l).length ≠ (nV l').length then some false else mP (mR (n + 1) h) (nV l) (nV l')) = _
 unfold nV
 rw [List.length_map,List.length_map]
 by_cases e:l.length = l'.length
 ·rw [if_neg (fun q => q e)]; exact wB n h l l' e
 ·rw [if_pos e,decide_eq_false (fun q => e (congrArg _ q))]
variable {X J} in
theorem a9 {es:List Ex} {f:Fm} {P:PS} {vs:List V} (k:bb es f (hp row a b P J) = some (vs,hp row a b P J)):aP es f (hp row a b P J) = some (.ref (47 + J.length),hp row a b P (J ++ [.list vs])):=by
 rw [c6 k,kW,cH]
theorem bK {x:MO}:(J ++ [x])[J.length]? = some x:=by simp
noncomputable def xN (J:H) (ms:List Nat) (v:V) (K:H):Prop:=∃ o,v = .ref (47 + o) ∧ K[o]? = some (nL ms) ∧ J.length ≤ o
theorem nU {n:Nat} {x:Str} {vs:List V} {ms:List Nat} {P:PS} (h:∃ v K,run ah n x vs (hp row a b P J) = some (v,hp row a b P (J ++ K)) ∧ xN J ms v (J ++ K)):lh row a b P J n x vs ms:=by
 obtain ⟨v,K,r,o,rfl,h1,h2⟩:=h
 exact ⟨K,o,r,h1,h2⟩
theorem BU {ms:List Nat} (K:H):xN J ms (.ref (47 + (J ++ K).length)) (J ++ (K ++ [nL ms])):=⟨_,rfl,by rw [← List.append_assoc]; exact bK _,by simp⟩
theorem CZ (W:WF b S):MT b S = (IC b S && decide (LM b S = [])):=by
 unfold MT
 congr 1
 rw [Bool.eq_iff_iff,Bool.not_eq_true',← Bool.not_eq_true,u9 W]
 simp
theorem wV {m:Nat} (h:(LM b S).find? (fun m => MT b (DO S m)) = some m):(FM b S).toList = [m]:=by unfold FM; rw [h]; rfl
theorem xg (h:(LM b S).find? (fun m => MT b (DO S m)) = none):(FM b S).toList = []:=by unfold FM; rw [h]; rfl
theorem qG (W:WF b S) (hz:X.hist.length ≤ 890) (n:Nat):lh row a b (S.ps b X) J (n + 21) "_law_first_mate" [.ref 42] (FM b S).toList:=by
 refine nU row a J ?_
 rw [jr]
 refine vA (n:=n) (N:=n + 20) (stop:=fun m => MT b (DO S m)) (I:=fun f => f 0 = some (.ref 42)) (R:=fun v m K => xN J [m] v K) (Q:=fun v K => xN J (FM b S).toList v K) row a W rfl rfl rfl (fun m hm f K f0 => ?_)
  (fun m _ _ hf v K h => by rw [wV hf]; exact h) (fun hf f K _ => ⟨_,K ++ [nL []],aA (aC (by rw [← List.append_assoc]; exact a9 row a aG)),by rw [xg hf]; exact BU J K⟩)
 have W':=h9 W hm
 haveI look:∀ X':dL,∃ G,∀ f:Fm,f 0 = some (.ref 42) → cf .And [(af (run ah (n + 20)) "in_check" [(aa 0)]),(cG .Eq (af (run ah (n + 20)) "legal_moves" [(aa 0)]) (aP []))] f (hs row a b (DO S m) X' (J ++ K)) =
   some (.bool (MT b (DO S m)),hs row a b (DO S m) X' (J ++ K ++ G)):=fun X' => by
  have ic:run ah (n + 20) "in_check" [.ref 42] (hs row a b (DO S m) X' (J ++ K)) = _:=zj row a X' (J ++ K) W' (n + 6)
  rw [CZ W']
  cases hc:IC b (DO S m) with
  | false =>
   rw [hc] at ic
   exact ⟨[],fun f f0 => by rw [List.append_nil]; exact wS (aM (ar (loc f0) aG) ic)⟩
  | true =>
   rw [hc] at ic
   obtain ⟨G,o,r1,r2,r3⟩:=qt row a X' (J ++ K) W' n
   refine ⟨G ++ [nL []],fun f f0 => cY (aM (ar (loc f0) aG) ic) ?_⟩
   rw [← List.append_assoc]
   refine bL (aM (ar (loc f0) aG) r1) (a9 row a aG) ?_
   rw [nk,my (n:=2) ((eM _ _ _ _ _ _).trans ((List.getElem?_append_left (cj r2)).trans r2)) ((eM _ _ _ _ _ _).trans (bK _))]
   rfl
 obtain ⟨X',r1,_,bk⟩:=sM row a W hm (X:=X) (by omega) (n + 16) (J ++ K)
 obtain ⟨G,lk⟩:=look X'
 have step:∀ Z,ag [aU (aX (aa 2)) (ag [aw (aP [(aa 1)])]) (ag [])] (upd (upd f 1 (.int m)) 2 (.bool (MT b (DO S m)))) (hs row a b S X (J ++ K ++ G)) = Z →
   ag [au (af (run ah (n + 20)) "do_move" [(aa 0),(aa 1)]),aj 2 (cf .And [(af (run ah (n + 20)) "in_check" [(aa 0)]),(cG .Eq (af (run ah (n + 20)) "legal_moves" [(aa 0)]) (aP []))]),au (af (run ah (n + 20)) "undo_move" [(aa 0)]),aU (aX (aa 2)) (ag [aw (aP [(aa 1)])]) (ag [])] (upd f 1 (.int m)) (hs row a b S X (J ++ K)) = Z:=fun Z z =>
  ak (aD (aM (ar (loc f0) (ar (loc rfl) aG)) r1) rfl) (ak (am (lk _ f0)) (ak (aD (aM (ar (loc f0) aG) (bk (n + 16) _)) rfl) z))
 revert step
 cases MT b (DO S m) with
 | true =>
  intro step
  refine ⟨.ref (47 + (J ++ (K ++ G)).length),_,G ++ [nL [m]],step _ (aN (aT (aS (loc rfl) rfl) (aN (aC ?_)))),by haveI:=BU J (ms:=[m]) (K ++ G); rwa [List.append_assoc K] at this⟩
  rw [← List.append_assoc,← List.append_assoc,← List.append_assoc]
  exact a9 row a (ar (loc rfl) aG)
 | false =>
  intro step
  refine ⟨upd (upd f 1 (.int m)) 2 (.bool false),G,step _ ?_,f0⟩
  rw [List.append_assoc]
  exact ak (aI (aS (loc rfl) rfl)) rfl
end
end
section
open PySem
section
variable (row:List Int) (a:Int) {b:B3} {S:St} (X:dL) (J:H)
theorem vr (n:Nat):run ah (n + 1) "holding_line" [.ref 42,.int 0] (hs row a b S X J) = some (.ref (47 + J.length),hs row a b S X (J ++ [nL []])):=by
 refine (nG ..).trans ?_
 exact aA (aT (aq (loc rfl) aH rfl) (aN (aC (a9 row a aG))))
theorem x7 {P:PS} {i:Nat} {e:Ex} {f:Fm} {B:Sx} {h:H} (k:e f h = some (.ref (47 + J.length),hp row a b P (J ++ [nL []]))):bF i e B f h = some (.next,f,hp row a b P (J ++ [nL []])):=
 br k (jo row a b P _ (bK J)) rfl
theorem wd {P:PS} {o n i:Nat} {l:List Nat} {f:Fm} (h:J[o]? = some (nL l)) (hl:l.length ≤ 1000) (fi:f i = some (.ref (47 + o))) :
  ax .Gt (af (run ah (n + 1)) "len" [(aa i)]) (ac (.int 0)) f (hp row a b P J) = some (decide (l ≠ []),hp row a b P J):=by
 refine aq (aM (ar (loc fi) aG) (kT row a J h (by rw [List.length_map]; omega) n)) aH ((ui _ _ _).trans (congrArg some ?_))
 cases l <;> simp <;> omega
theorem yb (W:WF b S) (hz:X.hist.length ≤ 890) (n:Nat):lh row a b (S.ps b X) J (n + 21) "mating_line" [.ref 42,.int 1] (FM b S).toList:=by
 refine nU row a J ?_
 rw [pp]
 refine vA (n:=n) (N:=n + 20) (stop:=fun m => MT b (DO S m)) (I:=fun f => f 0 = some (.ref 42) ∧ f 1 = some (.int 1)) (R:=fun v m K => xN J [m] v K) (Q:=fun v K => xN J (FM b S).toList v K) row a W rfl rfl ⟨rfl,rfl⟩ (fun m hm f K f01 => ?_)
  (fun m _ _ hf v K h => by rw [wV hf]; exact h) (fun hf f K _ => ⟨_,K ++ [nL []],aA (aC (by rw [← List.append_assoc]; exact a9 row a aG)),by rw [xg hf]; exact BU J K⟩)
 obtain ⟨f0,f1⟩:=f01
 obtain ⟨X',r1,_,bk⟩:=sM row a W hm (X:=X) (by omega) (n + 16) (J ++ K)
 obtain ⟨G,mt⟩:=gm row a X' (J ++ K ++ [nL []]) (h9 W hm) (k:=0) (by decide) n
 have t:aX (af (run ah (n + 20)) "is_mated_in" [(aa 0),(ao .Sub (aa 1) (ac (.int 1)))]) (upd (upd f 2 (.int m)) 3 (.ref (47 + (J ++ K).length))) (hs row a b (DO S m) X' (J ++ K ++ [nL []])) =
   some (MT b (DO S m),hs row a b (DO S m) X' (J ++ K ++ [nL []] ++ G)):=aS (aM (ar (loc f0) (ar (aL (loc f1) aH rfl) aG)) mt) rfl
 cases hmt:MT b (DO S m) with
 | true =>
  rw [hmt] at t
  refine ⟨.ref (47 + (J ++ (K ++ ([nL []] ++ G))).length),upd (upd (upd f 2 (.int m)) 3 (.ref (47 + (J ++ K).length))) 3 (.ref (47 + (J ++ (K ++ ([nL []] ++ G))).length)),[nL []] ++ G ++ [nL [m]] ++ [nL []],?_,_,rfl,?_,?_⟩
  ·haveI e1:J ++ (K ++ ([nL []] ++ G ++ [nL [m]] ++ [nL []])) = J ++ K ++ [nL []] ++ G ++ [nL [m]] ++ [nL []]:=by simp
   haveI e2:J ++ (K ++ ([nL []] ++ G)) = J ++ K ++ [nL []] ++ G:=by simp
   rw [e1,e2]
   haveI hl:(J ++ K ++ [nL []] ++ G ++ [nL [m]] ++ [nL []])[(J ++ K ++ [nL []] ++ G).length]? = some (nL [m]):=by
    rw [List.getElem?_append_left (by simp)]; exact bK _
   refine ak (aD (aM (ar (loc f0) (ar (loc rfl) aG)) r1) rfl) (ak (am (a9 row a aG)) (ak (aT t (ak (am (a9 row a (ar (loc rfl) aG))) (ak (x7 row a _ (aM (ar (loc f0) (ar (aL (loc f1) aH rfl) aG)) (vr row a X' _ (n + 19)))) rfl))) (ak (aD (aM (ar (loc f0) aG) (bk (n + 16) _)) rfl) (aN (aT (wd row a _ hl (by simp) rfl) (aN (aC (loc rfl))))))))
  ·haveI e1:J ++ (K ++ ([nL []] ++ G ++ [nL [m]] ++ [nL []])) = J ++ (K ++ ([nL []] ++ G)) ++ [nL [m]] ++ [nL []]:=by simp
   rw [e1,List.getElem?_append_left (by simp)]
   exact bK _
  ·simp
 | false =>
  rw [hmt] at t
  refine ⟨upd (upd f 2 (.int m)) 3 (.ref (47 + (J ++ K).length)),[nL []] ++ G,?_,f0,f1⟩
  haveI e1:J ++ (K ++ ([nL []] ++ G)) = J ++ K ++ [nL []] ++ G:=by simp
  rw [e1]
  haveI hl:(J ++ K ++ [nL []] ++ G)[(J ++ K).length]? = some (nL []):=by
   rw [List.getElem?_append_left (by simp)]; exact bK _
  exact ak (aD (aM (ar (loc f0) (ar (loc rfl) aG)) r1) rfl) (ak (am (a9 row a aG)) (ak (aI t) (ak (aD (aM (ar (loc f0) aG) (bk (n + 16) _)) rfl) (ak (aI (wd row a _ hl (by simp) rfl)) rfl))))
theorem Ey:(FM b S).toList.length ≤ 1000:=by cases FM b S <;> simp
theorem A1 (W:WF b S) (hz:X.hist.length ≤ 890) (n:Nat):lh row a b (S.ps b X) J (n + 22) "find_mate" [.ref 42,.int 1] (FM b S).toList:=by
 refine nU row a J ?_
 obtain ⟨G,o,r1,r2,r3⟩:=yb row a X J W hz n
 rw [kR]
 haveI rg:run ah (n + 21) "range" [.int 1,.int 2] (hs row a b S X J) = some (.range 1 2 1,hs row a b S X J):=by kernel_rfl
 haveI it:az (.range 1 2 1) (hs row a b S X J) = some [.int 1]:=by kernel_rfl
 have t:=wd row a (b:=b) (P:=S.ps b X) (J ++ G) (n:=n + 20) (i:=3) (f:=upd (upd (upd (upd nf 0 (.ref 42)) 1 (.int 1)) 2 (.int 1)) 3 (.ref (47 + o))) r2 Ey rfl
 haveI m1:af (run ah (n + 21)) "mating_line" [(aa 0),(aa 2)] (upd (upd (upd nf 0 (.ref 42)) 1 (.int 1)) 2 (.int 1)) (hs row a b S X J) = _:=aM (ar (loc rfl) (ar (loc rfl) aG)) r1
 by_cases he:(FM b S).toList = []
 ·rw [decide_eq_false (fun q => q he)] at t
  refine ⟨_,G ++ [nL []],ae (br (aM (ar aH (ar (aL (loc rfl) aH rfl) aG)) rg) it (bE (ak (am m1) (ak (aI t) rfl)) rfl rfl)) (aA (aC ?_)),by rw [he]; exact BU J G⟩
  rw [← List.append_assoc]
  exact a9 row a aG
 ·rw [decide_eq_true he] at t
  exact ⟨_,G,aA (br (aM (ar aH (ar (aL (loc rfl) aH rfl) aG)) rg) it (gj (ak (am m1) (aN (aT t (aN (aC (loc rfl)))))))),o,rfl,r2,r3⟩
theorem Bi (n:Nat):run ah (n + 2) "find_mate" [.ref 42,.int (-1)] (hs row a b S X J) = some (.ref (47 + J.length),hs row a b S X (J ++ [nL []])):=by
 refine (kR ..).trans ?_
 haveI rg:run ah (n + 1) "range" [.int 1,.int 0] (hs row a b S X J) = some (.range 1 0 1,hs row a b S X J):=by kernel_rfl
 haveI it:az (.range 1 0 1) (hs row a b S X J) = some []:=by kernel_rfl
 exact ae (br (aM (ar aH (ar (aL (loc rfl) aH rfl) aG)) rg) it rfl) (aA (aC (a9 row a aG)))
end
end
section
open PySem
section
variable (row:List Int) (a:Int) {b:B3} {S:St} (X:dL) (J:H)
theorem iQ:∀ l:List Nat,cZ (nV l) = some (l.map fun (n:Nat) => (n:Int))
 | [] => rfl
 | x :: l => by show (cZ (nV l)).map _ = _; rw [iQ l]; rfl
theorem zz {h:H} {i m:Nat} {l:List Nat} (hi:h[i]? = some (nL l)) (hm:m ∈ l):bI .NotIn (.int m) (.ref i) h = some false:=by
 show (match h[i]? with | some (.list l) => (cZ l).map fun (ns:List Int) => !ns.contains (m:Int) | _ => none) = _
 rw [hi]
 show (cZ (nV l)).map _ = _
 rw [iQ]
 show some _ = _
 congr 1
 rw [Bool.not_eq_false',List.contains_iff_mem]
 exact List.mem_map.mpr ⟨m,hm,rfl⟩
theorem uX (W:WF b S) (hz:X.hist.length ≤ 890) {m o:Nat} (hm:m ∈ LM b S) (ho:J[o]? = some (nL [m])) (n:Nat) :
  ∃ X' G,run ah (n + 21) "do_moves" [.ref 42,.ref (47 + o)] (hs row a b S X J) = some (.none,hs row a b (DO S m) X' (J ++ G)) ∧ xV row a b S (DO S m) X X':=by
 obtain ⟨G,o',r1,r2,r3⟩:=qt row a X J W n
 obtain ⟨X',d1,d2⟩:=sM row a W hm (X:=X) (by omega) (n + 16) (J ++ G)
 refine ⟨X',G,?_,d2⟩
 rw [wa]
 haveI ni:=zz ((eM row a b (S.ps b X) (J ++ G) o').trans r2) hm
 haveI st:stays (.ref (47 + o)) (hs row a b S X J) (hs row a b (DO S m) X' (J ++ G)) = true:=by
  simp only [stays,eM]
  rw [List.getElem?_append_left (cj ho)]
  simp
 exact ae (am aH) (ae (br (loc rfl) (rI row a ho) (bE (ak (aI (aq (loc rfl) (aM (ar (loc rfl) aG) r1) ni)) (ak (aD (aM (ar (loc rfl) (ar (loc rfl) aG)) d1) rfl) (ak (ca rfl aH rfl) rfl))) st rfl)) rfl)
theorem ug (h:MT b S = true):IC b S = true ∧ HL b S = false:=by
 unfold MT at h
 rw [Bool.and_eq_true,Bool.not_eq_true'] at h
 exact h
theorem pK (W:WF b S) (hm:MT b S = true) (n:Nat):jN row a b (S.ps b X) J (n + 20) "outcome" [.ref 42] (.int 1):=by
 obtain ⟨hi,hh⟩:=ug hm
 obtain ⟨G,hl⟩:=DL row a X J W n
 haveI ic:run ah (n + 19) "in_check" [.ref 42] (hs row a b S X (J ++ G)) = _:=zj row a X (J ++ G) W (n + 5)
 rw [hh] at hl
 rw [hi] at ic
 refine ⟨G,?_⟩
 rw [yr]
 exact aA (aT (fp (c:=false) (aS (aM (ar (loc rfl) aG) hl) rfl)) (aN (aT (aS (aM (ar (loc rfl) aG) ic) rfl) (aN (aC aH)))))
theorem EK (W:WF b S) (hm:MT b S = true) (n:Nat):jN row a b (S.ps b X) J (n + 21) "result_text" [.ref 42] (.str (if S.side = 0 then "0-1" else "1-0")):=by
 obtain ⟨G,oc⟩:=pK row a X J W hm n
 refine ⟨G,?_⟩
 rw [oN]
 refine ae (am (aM (ar (loc rfl) aG) oc)) (ae (aI (aq (loc rfl) aH rfl)) (ae (aI (aq (loc rfl) aH rfl)) ?_))
 have t:ax .Eq (ai (aa 0) "side") (ac (.int 0)) (upd (upd nf 0 (.ref 42)) 1 (.int 1)) (hs row a b S X (J ++ G)) = some (decide ((S.side:Int) = 0),hs row a b S X (J ++ G)):=aq (cn (loc rfl) (bV _ _ _ _ _)) aH (jd _ _ _)
 by_cases h:S.side = 0
 ·rw [if_pos h]
  rw [decide_eq_true (by omega)] at t
  exact aA (aT t (aN (aC aH)))
 ·rw [if_neg h]
  rw [decide_eq_false (by omega)] at t
  exact ae (aI t) (aA (aC aH))
theorem D2 {o:Nat} {l:List Nat} {P:PS} {i:Nat} {f:Fm} (h:J[o]? = some (nL l)) (fi:f i = some (.ref (47 + o))):ax .Eq (aa i) (aP []) f (hp row a b P J) = some (decide (l = []),hp row a b P (J ++ [nL []])):=by
 refine aq (loc fi) (a9 row a aG) ?_
 rw [nk,my (n:=2) ((eM _ _ _ _ _ _).trans ((List.getElem?_append_left (cj h)).trans h)) ((eM _ _ _ _ _ _).trans (bK _))]
theorem qK {f:Fm} {P:PS}:aP [] f (hp row a b P J) = some (.ref (47 + J.length),hp row a b P (J ++ [nL []])):=a9 row a aG
theorem up {o:Nat} {x:MO} {G:H} (h:J[o]? = some x):(J ++ G)[o]? = some x:=(List.getElem?_append_left (cj h)).trans h
theorem qJ (W:WF b S) (hz:X.hist.length ≤ 880) (n:Nat):jN row a b (S.ps b X) J (n + 26) "_law_mate_right" [.ref 42] (.bool true):=by
 obtain ⟨G1,o1,a1,a2,_⟩:=qG row a X J W (by omega) (n + 4)
 obtain ⟨G2,o2,b1,b2,_⟩:=A1 row a X (J ++ G1) W (by omega) (n + 3)
 haveI c1:=Bi row a (b:=b) (S:=S) X (J ++ G1 ++ G2) (n + 23)
 obtain ⟨G5,d1⟩:=zG row a X (J ++ G1 ++ G2 ++ [nL []] ++ [nL []]) W (by omega) (n + 4)
 suffices key:∃ K,run ah (n + 26) "_law_mate_right" [.ref 42] (hs row a b S X J) = some (.bool true,hs row a b S X (J ++ K)) from let ⟨K,r⟩:=key; ⟨K,r⟩
 rw [jE]
 refine CO fun Z hZ => ?_
 haveI ka:(J ++ G1 ++ G2 ++ [nL []] ++ [nL []])[(J ++ G1 ++ G2).length]? = some (nL []):=up _ (bK _)
 haveI u1:=up (J ++ G1 ++ G2 ++ [nL []] ++ [nL []]) (G:=G5) (up (J ++ G1 ++ G2 ++ [nL []]) (G:=[nL []]) (up (J ++ G1 ++ G2) (G:=[nL []]) (up (J ++ G1) (G:=G2) a2)))
 have u2:=up _ (G:=[nL []]) u1
 haveI cond:∀ f:Fm,f 0 = some (.ref 42) → f 1 = some (.ref (47 + o1)) → cI .Or [(ax .NotEq (af (run ah (n + 25)) "find_mate" [(aa 0),(ac (.int 1))]) (aa 1)),(ax .NotEq (af (run ah (n + 25)) "find_mate" [(aa 0),(i0 .USub (ac (.int 1)))]) (aP [])),(ax .NotEq (af (run ah (n + 25)) "can_mate" [(aa 0),(ac (.int 1))]) (cG .NotEq (aa 1) (aP [])))] f (hs row a b S X (J ++ G1)) =
   some (false,hs row a b S X (J ++ G1 ++ G2 ++ [nL []] ++ [nL []] ++ G5 ++ [nL []])):=fun f f0 f1 => by
  refine fS (aq (aM (ar (loc f0) (ar aH aG)) b1) (loc f1) ?_) (fS (aq (aM (ar (loc f0) (ar (pP aH) aG)) c1) (qK row a _) ?_) (fS (aq (aM (ar (loc f0) (ar aH aG)) d1) (bL (c:=!decide ((FM b S).toList = [])) (loc f1) (qK row a _) ?_) ?_) mZ))
  ·rw [iN,my (n:=2) ((eM _ _ _ _ _ _).trans b2) ((eM _ _ _ _ _ _).trans (up _ a2)),decide_eq_true rfl]; rfl
  ·rw [iN,my (n:=2) ((eM _ _ _ _ _ _).trans ka) ((eM _ _ _ _ _ _).trans (bK _))]; rfl
  ·rw [iN,my (n:=2) ((eM _ _ _ _ _ _).trans u2) ((eM _ _ _ _ _ _).trans (bK _))]; rfl
  ·rw [iN]
   haveI:CM b S = !decide ((FM b S).toList = []):=by
    unfold CM; rw [mz]; show (FM b S).isSome = _
    cases FM b S <;> rfl
   show (some (CM b S == !decide ((FM b S).toList = []))).map (!·) = _
   rw [this]; simp
 have tnil:=D2 row a (b:=b) (P:=S.ps b X) (i:=1) (f:=upd (upd nf 0 (.ref 42)) 1 (.ref (47 + o1))) (J ++ G1 ++ G2 ++ [nL []] ++ [nL []] ++ G5 ++ [nL []]) u2 rfl
 have pre:∀ Z,fin (ag _ (upd (upd nf 0 (.ref 42)) 1 (.ref (47 + o1))) (hs row a b S X (J ++ G1 ++ G2 ++ [nL []] ++ [nL []] ++ G5 ++ [nL []]))) = Z → fin (eI (run ah (n + 25)) (n + 25) (upd nf 0 (.ref 42)) (hs row a b S X J)) = Z:=fun Z z =>
  ae (am (aM (ar (loc rfl) aG) a1)) (ae (aI (cond _ rfl rfl)) z)
 cases hf:FM b S with
 | none =>
  rw [hf] at tnil
  refine hZ (G1 ++ G2 ++ [nL []] ++ [nL []] ++ G5 ++ [nL []] ++ [nL []]) (pre _ (aA (aT tnil (aN (aC ?_)))))
  simp only [← List.append_assoc]
  exact aH
 | some m =>
  rw [hf] at tnil u2
  have hm:m ∈ LM b S:=List.mem_of_find?_eq_some hf
  have hmt:MT b (DO S m) = true:=List.find?_some (p:=fun m => MT b (DO S m)) hf
  have W':=h9 W hm
  obtain ⟨hi,hh⟩:=ug hmt
  haveI hnil:LM b (DO S m) = []:=by
   rcases Classical.em (LM b (DO S m) = []) with h | h
   ·exact h
   ·rw [(u9 W').mpr h] at hh; cases hh
  haveI hmd:MD b (DO S m) = true:=by unfold MD; rw [if_pos hnil,hi]
  obtain ⟨X',G6,e1,l,bk⟩:=uX row a X (J ++ G1 ++ G2 ++ [nL []] ++ [nL []] ++ G5 ++ [nL []] ++ [nL []]) W (by omega) hm (up _ u2) (n + 4)
  obtain ⟨G7,e2⟩:=pK row a X' (J ++ G1 ++ G2 ++ [nL []] ++ [nL []] ++ G5 ++ [nL []] ++ [nL []] ++ G6) W' hmt (n + 5)
  obtain ⟨G8,e3⟩:=EK row a X' (J ++ G1 ++ G2 ++ [nL []] ++ [nL []] ++ G5 ++ [nL []] ++ [nL []] ++ G6 ++ G7) W' hmt (n + 4)
  obtain ⟨G9,e4⟩:=gm row a X' (J ++ G1 ++ G2 ++ [nL []] ++ [nL []] ++ G5 ++ [nL []] ++ [nL []] ++ G6 ++ G7 ++ G8) W' (k:=0) (by decide) (n + 5)
  obtain ⟨G10,e5⟩:=gm row a X' (J ++ G1 ++ G2 ++ [nL []] ++ [nL []] ++ G5 ++ [nL []] ++ [nL []] ++ G6 ++ G7 ++ G8 ++ G9) W' (k:=-2) (by decide) (n + 5)
  obtain ⟨G11,e6⟩:=sX row a X' (J ++ G1 ++ G2 ++ [nL []] ++ [nL []] ++ G5 ++ [nL []] ++ [nL []] ++ G6 ++ G7 ++ G8 ++ G9 ++ G10) W' (by omega) (n + 3)
  rw [hmt] at e4 e5
  rw [hmd] at e6
  haveI e7:=bk (n + 21) (J ++ G1 ++ G2 ++ [nL []] ++ [nL []] ++ G5 ++ [nL []] ++ [nL []] ++ G6 ++ G7 ++ G8 ++ G9 ++ G10 ++ G11)
  have hsd:(DO S m).side = 1 - S.side:=by
   haveI:=W.c
   unfold DO
   split
   ·rename_i h; split <;> (show 1 - S.c = _; rw [h])
   ·rename_i h; show S.c = _; rcases fV W with h' | h'
    ·exact absurd h' h
    ·omega
  haveI tx:cG .Eq (af (run ah (n + 25)) "result_text" [(aa 0)]) (av (dM [(ac (.str "1-0")),(ac (.str "0-1"))]) (aa 2)) (upd (upd (upd nf 0 (.ref 42)) 1 (.ref (47 + o1))) 2 (.int S.side)) (hs row a b (DO S m) X' (J ++ G1 ++ G2 ++ [nL []] ++ [nL []] ++ G5 ++ [nL []] ++ [nL []] ++ G6 ++ G7)) =
    some (.bool true,hs row a b (DO S m) X' (J ++ G1 ++ G2 ++ [nL []] ++ [nL []] ++ G5 ++ [nL []] ++ [nL []] ++ G6 ++ G7 ++ G8)):=by
   haveI h2:=W.side
   rcases (by omega:S.side = 0 ∨ S.side = 1) with h | h
   ·rw [hsd,h,if_neg (by decide)] at e3
    rw [h]
    exact bL (b:=.str "1-0") (aM (ar (loc rfl) aG) e3) rfl rfl
   ·rw [hsd,h,if_pos (by decide)] at e3
    rw [h]
    exact bL (b:=.str "0-1") (aM (ar (loc rfl) aG) e3) rfl rfl
  have tnil:=tnil
  rw [show decide ((some m).toList = ([]:List Nat)) = false from rfl] at tnil
  refine hZ (G1 ++ G2 ++ [nL []] ++ [nL []] ++ G5 ++ [nL []] ++ [nL []] ++ G6 ++ G7 ++ G8 ++ G9 ++ G10 ++ G11) (pre _ ?_)
  simp only [← List.append_assoc]
  refine ae (aI tnil) (ae (am (cn (loc rfl) (bV _ _ _ _ _))) (ae (aD (aM (ar (loc rfl) (ar (loc rfl) aG)) e1) rfl) ?_))
  refine ae (am (cY (bL (aM (ar (loc rfl) aG) e2) aH rfl) tx)) ?_
  refine ae (am (cY (loc rfl) (cY (aM (ar (loc rfl) (ar aH aG)) e4) (cY (aM (ar (loc rfl) (ar (pP aH) aG)) e5) (aM (ar (loc rfl) (ar aH aG)) e6))))) ?_
  exact ae (aD (aM (ar (loc rfl) aG) e7) rfl) (aA (aC (loc rfl)))
end
end
section
open PySem
structure Tr where
 mv:List Nat
 pl:List Nat
 pr:List Nat
 dp:List Nat
 ch:List (Option (Nat × List Nat))
 st:List St
noncomputable def CP (t:Nat):Option (Nat × List Nat) → V
 | none => .none
 | some (i,_) => .ref (47 + (t + (6 + i)))
noncomputable def tT (t:Nat) (T:Tr):H:=[.inst "ProofTree" [("moves",.ref (47 + (t + 1))),("plies",.ref (47 + (t + 2))),("proofs",.ref (47 + (t + 3))),("disproofs",.ref (47 + (t + 4))),("children",.ref (47 + (t + 5)))],
 nL T.mv,nL T.pl,nL T.pr,nL T.dp,.list (T.ch.map (CP t))]
structure Tr.Len (T:Tr) (N:Nat):Prop where
 mv:T.mv.length = N
 pl:T.pl.length = N
 pr:T.pr.length = N
 dp:T.dp.length = N
 ch:T.ch.length = N
 st:T.st.length = N
noncomputable def Tr.init (S:St):Tr:=⟨[0],[0],[1],[1],[none],[S]⟩
noncomputable def Tr.add (T:Tr) (m p:Nat) (S:St):Tr:=⟨T.mv ++ [m],T.pl ++ [p],T.pr ++ [1],T.dp ++ [1],T.ch ++ [none],T.st ++ [S]⟩
noncomputable def ff:Nat:=1073741824
noncomputable def Tr.put (T:Tr) (v x y:Nat):Tr:={ T with pr:=T.pr.set v x,dp:=T.dp.set v y }
noncomputable def fL (l:List Nat):Nat × Nat:=(l.foldl (fun a x => if x < a then x else a) ff,min ff (l.foldl (fun s x => s + x) 0))
noncomputable def Tr.upd (T:Tr) (v:Nat) (cs:List Nat):Tr:=
 let p:=fL (cs.map fun c => T.pr.getD c 0)
 let d:=fL (cs.map fun c => T.dp.getD c 0)
 if T.pl.getD v 0 % 2 = 0 then T.put v p.1 d.2 else T.put v p.2 d.1
noncomputable def Tr.nums (T:Tr) (v:Nat):List Nat:=if T.pl.getD v 0 % 2 = 1 then T.dp else T.pr
noncomputable def Tr.sel (T:Tr) (v:Nat) (cs:List Nat):Nat:=cs.foldl (fun c x => if (T.nums v).getD x 0 < (T.nums v).getD c 0 then x else c) (cs.headD 0)
section
variable (row:List Int) (a:Int) {b:B3} (P:PS) (J:H) (T:Tr) (G:H)
noncomputable def ht (row:List Int) (a:Int) (b:B3) (P:PS) (J:H) (T:Tr) (G:H):H:=hp row a b P (J ++ (tT J.length T ++ G))
variable {row a P J T G}
theorem gh (j:Nat):(ht row a b P J T G)[47 + (J.length + j)]? = (tT J.length T ++ G)[j]?:=by
 unfold ht
 rw [eM,List.getElem?_append_right (by omega)]
 congr 1; omega
theorem kN (j:Nat) (x:MO):(ht row a b P J T G).set (47 + (J.length + j)) x = hp row a b P (J ++ ((tT J.length T ++ G).set j x)):=by
 unfold ht
 rw [BL,List.set_append_right _ _ (by omega)]
 congr 3; omega
theorem m8:aB (.ref (47 + J.length)) "moves" (ht row a b P J T G) = some (.ref (47 + (J.length + 1))) ∧ aB (.ref (47 + J.length)) "plies" (ht row a b P J T G) = some (.ref (47 + (J.length + 2))) ∧
  aB (.ref (47 + J.length)) "proofs" (ht row a b P J T G) = some (.ref (47 + (J.length + 3))) ∧ aB (.ref (47 + J.length)) "disproofs" (ht row a b P J T G) = some (.ref (47 + (J.length + 4))) ∧
  aB (.ref (47 + J.length)) "children" (ht row a b P J T G) = some (.ref (47 + (J.length + 5))):=by
 haveI h:(ht row a b P J T G)[47 + J.length]? = _:=gh 0
 unfold aB
 simp only [h]
 exact ⟨rfl,rfl,rfl,rfl,rfl⟩
theorem yR:aB (.ref (47 + J.length)) "moves" (ht row a b P J T G) = some (.ref (47 + (J.length + 1))):=m8.1
theorem Bx:aB (.ref (47 + J.length)) "plies" (ht row a b P J T G) = some (.ref (47 + (J.length + 2))):=m8.2.1
theorem rL:aB (.ref (47 + J.length)) "proofs" (ht row a b P J T G) = some (.ref (47 + (J.length + 3))):=m8.2.2.1
theorem tY:aB (.ref (47 + J.length)) "disproofs" (ht row a b P J T G) = some (.ref (47 + (J.length + 4))):=m8.2.2.2.1
theorem Bm:aB (.ref (47 + J.length)) "children" (ht row a b P J T G) = some (.ref (47 + (J.length + 5))):=m8.2.2.2.2
theorem Em:(ht row a b P J T G)[47 + (J.length + 1)]? = some (nL T.mv):=gh 1
theorem BX:(ht row a b P J T G)[47 + (J.length + 2)]? = some (nL T.pl):=gh 2
theorem sG:(ht row a b P J T G)[47 + (J.length + 3)]? = some (nL T.pr):=gh 3
theorem ul:(ht row a b P J T G)[47 + (J.length + 4)]? = some (nL T.dp):=gh 4
theorem zJ:(ht row a b P J T G)[47 + (J.length + 5)]? = some (.list (T.ch.map (CP J.length))):=gh 5
theorem uM (i:Nat):(ht row a b P J T G)[47 + (J.length + (6 + i))]? = G[i]?:=by
 rw [gh,List.getElem?_append_right (by show 6 ≤ _; omega)]
 congr 1
 show 6 + i - 6 = i
 omega
theorem GZ (l:List Nat):(ht row a b P J T G).set (47 + (J.length + 1)) (nL l) = ht row a b P J { T with mv:=l } G:=kN 1 _
theorem Hw (l:List Nat):(ht row a b P J T G).set (47 + (J.length + 2)) (nL l) = ht row a b P J { T with pl:=l } G:=kN 2 _
theorem AQ (l:List Nat):(ht row a b P J T G).set (47 + (J.length + 3)) (nL l) = ht row a b P J { T with pr:=l } G:=kN 3 _
theorem yQ (l:List Nat):(ht row a b P J T G).set (47 + (J.length + 4)) (nL l) = ht row a b P J { T with dp:=l } G:=kN 4 _
theorem E2 (l:List (Option (Nat × List Nat))):(ht row a b P J T G).set (47 + (J.length + 5)) (.list (l.map (CP J.length))) = ht row a b P J { T with ch:=l } G:=kN 5 _
theorem HQ (i:Nat) (x:MO):(ht row a b P J T G).set (47 + (J.length + (6 + i))) x = ht row a b P J T (G.set i x):=by
 rw [kN,List.set_append_right _ _ (by show 6 ≤ _; omega)]
 unfold ht
 congr 4
 show 6 + i - 6 = i
 omega
theorem wq (o:H):ht row a b P J T G ++ o = ht row a b P J T (G ++ o):=by unfold ht; rw [kW]; simp
theorem uY:(ht row a b P J T G).length = 47 + (J.length + (6 + G.length)):=by unfold ht; rw [cH]; simp [tT]; omega
theorem Da:ht row a b P J T G = hp row a b P (J ++ (tT J.length T ++ G)):=rfl
theorem rR (K:H):hp row a b P (J ++ (tT J.length T ++ G) ++ K) = ht row a b P J T (G ++ K):=by unfold ht; simp
theorem C3 {es:List Ex} {f:Fm} {vs:List V} (k:bb es f (ht row a b P J T G) = some (vs,ht row a b P J T G)):aP es f (ht row a b P J T G) = some (.ref (47 + (J.length + (6 + G.length))),ht row a b P J T (G ++ [.list vs])):=by
 rw [c6 k,wq,uY]
theorem fA {i v:Nat} {l:List Nat} {h:H} {x:Str} {j:Nat} {f:Fm} {e e':Ex} (ke:e f h = some (.ref j,h)) (ka:aB (.ref j) x h = some (.ref i)) (hi:h[i]? = some (nL l)) (hv:v < l.length) (hl:l.length ≤ 1000) (kv:e' f h = some (.int v,h)) :
  av (ai e x) e' f h = some (.int (l.getD v 0),h):=aW (cn ke ka) kv (dG hi hv hl)
theorem gz {i v y:Nat} {l:List Nat} {h h':H} {x:Str} {j:Nat} {f:Fm} {e e' e'':Ex} (ky:e'' f h = some (.int y,h)) (ke:e f h = some (.ref j,h)) (ka:aB (.ref j) x h = some (.ref i)) (hi:h[i]? = some (nL l)) (hv:v < l.length) (hl:l.length ≤ 1000) (kv:e' f h = some (.int v,h)) (hh:h.set i (nL (l.set v y)) = h') :
  bB (ai e x) e' e'' f h = some (.next,f,h'):=gT ky (cn ke ka) kv (zb hi hv hl hh)
theorem tr {N v:Nat} (L:T.Len N) (hN:N ≤ 1000) (hv:v < N) (s:Int) (n:Nat):run ah (n + 1) "ProofTree.settle" [.ref (47 + J.length),.int v,.int s] (ht row a b P J T G) =
  some (.none,ht row a b P J (if s = 1 then T.put v 0 ff else T.put v ff 0) G):=by
 haveI l1:=L.pr
 haveI l2:=L.dp
 refine (im ..).trans ?_
 by_cases h:s = 1
 ·rw [if_pos h]
  exact ae (aT (aq (loc rfl) aH ((jd _ _ _).trans (congrArg some (decide_eq_true h)))) (ak (gz (y:=0) aH (loc rfl) rL sG (by omega) (by omega) (loc rfl) (AQ _)) (ak (gz (y:=ff) aH (loc rfl) tY ul (by show v < T.dp.length; omega) (by show T.dp.length ≤ 1000; omega) (loc rfl) (yQ _)) rfl))) rfl
 ·rw [if_neg h]
  exact ae (tO (aq (loc rfl) aH ((jd _ _ _).trans (congrArg some (decide_eq_false h)))) (ak (gz (y:=ff) aH (loc rfl) rL sG (by omega) (by omega) (loc rfl) (AQ _)) (ak (gz (y:=0) aH (loc rfl) tY ul (by show v < T.dp.length; omega) (by show T.dp.length ≤ 1000; omega) (loc rfl) (yQ _)) rfl))) rfl
theorem rq {g:Str → List V → H → Option (V × H)} {j i y:Nat} {l:List Nat} {h h':H} {x:Str} {f:Fm} {e e':Ex} (ke:e f h = some (.ref j,h)) (ka:aB (.ref j) x h = some (.ref i)) (hi:h[i]? = some (nL l)) (hl:l.length ≤ 1000) (ky:e' f h = some (.int y,h)) (hh:h.set i (nL (l ++ [y])) = h') :
  au (aZ g (ai e x) "append" [e']) f h = some (.next,f,h'):=by
 haveI z:=fQ (g:=g) (cn ke ka) hi ky hi (by rw [List.length_map]; exact hl)
 haveI e1:(MO.list (l.map (fun (n:Nat) => V.int n) ++ [.int y])) = nL (l ++ [y]):=by unfold nL; rw [List.map_append]; rfl
 rw [e1,hh] at z
 exact aD z rfl
theorem Fb {N:Nat} (L:T.Len N) (hN:N ≤ 1000) (m p:Nat) (S:St) (n:Nat):run ah (n + 2) "ProofTree.add" [.ref (47 + J.length),.int m,.int p] (ht row a b P J T G) =
  some (.int N,ht row a b P J (T.add m p S) G):=by
 haveI l1:=L.mv
 haveI l2:=L.pl
 haveI l3:=L.pr
 haveI l4:=L.dp
 haveI l5:=L.ch
 refine (lP ..).trans ?_
 refine ae (rq (loc rfl) yR Em (by omega) (loc rfl) (GZ _)) ?_
 refine ae (rq (loc rfl) Bx BX (by show T.pl.length ≤ 1000; omega) (loc rfl) (Hw _)) ?_
 refine ae (rq (y:=1) (loc rfl) rL sG (by show T.pr.length ≤ 1000; omega) aH (AQ _)) ?_
 refine ae (rq (y:=1) (loc rfl) tY ul (by show T.dp.length ≤ 1000; omega) aH (yQ _)) ?_
 haveI z:=fQ (g:=run ah (n + 1)) (f:=upd (upd (upd nf 0 (.ref (47 + J.length))) 1 (.int m)) 2 (.int p)) (cn (e:=aa 0) (loc rfl) (Bm (J:=J) (T:={ T with mv:=T.mv ++ [m],pl:=T.pl ++ [p],pr:=T.pr ++ [1],dp:=T.dp ++ [1] }) (row:=row) (a:=a) (b:=b) (P:=P) (G:=G))) zJ (aH (v:=.none)) zJ (by rw [List.length_map]; show T.ch.length ≤ 1000; omega)
 haveI e1:(MO.list (T.ch.map (CP J.length) ++ [.none])) = .list ((T.ch ++ [none]).map (CP J.length)):=by rw [List.map_append]; rfl
 haveI z:=z.trans (congrArg (fun x => some (V.none,(ht row a b P J { T with mv:=T.mv ++ [m],pl:=T.pl ++ [p],pr:=T.pr ++ [1],dp:=T.dp ++ [1] } G).set (47 + (J.length + 5)) x)) e1)
 rw [E2] at z
 refine ae (aD z rfl) (aA (aC ?_))
 haveI ln:=kT row a (b:=b) (P:=P) (J ++ (tT J.length (T.add m p S) ++ G)) (o:=J.length + 1) (l:=(T.add m p S).mv.map fun (n:Nat) => V.int n) (by rw [List.getElem?_append_right (by omega),Nat.add_sub_cancel_left]; rfl) (by rw [List.length_map]; show (T.mv ++ [m]).length ≤ _; rw [List.length_append]; show _ + 1 ≤ _; omega) n
 haveI ln:run ah (n + 1) "len" [.ref (47 + (J.length + 1))] (ht row a b P J (T.add m p S) G) = _:=ln
 refine aL (aM (ar (cn (loc rfl) yR) aG) ln) aH ?_
 rw [d9]
 congr 1
 rw [List.length_map]
 show ((T.mv ++ [m]).length:Int) - 1 = _
 rw [List.length_append]
 show ((_ + 1:Nat):Int) - 1 = _
 omega
end
end
section
open PySem
section
variable {row:List Int} {a:Int} {b:B3} {P:PS} {J:H} {T:Tr} {G:H}
theorem rP (chk:H → Bool) (h:H) (hc:chk h = true):∀ (l:List Nat) (f:Fm) (x s:Nat),f 1 = some (.int x) → f 2 = some (.int s) →
  ∃ f',bQ chk 3 (ag [aU (ax .Lt (aa 3) (aa 1)) (ag [aj 1 (aa 3)]) (ag []),aF 2 .Add (aa 3)]) (nV l) f h = some (.next,f',h) ∧
   f' 1 = some (.int (l.foldl (fun a x => if x < a then x else a) x:Nat)) ∧ f' 2 = some (.int (l.foldl (fun s x => s + x) s:Nat))
 | [],f,x,s,h1,h2 => ⟨f,rfl,h1,h2⟩
 | y :: l,f,x,s,h1,h2 => by
  have t:ax .Lt (aa 3) (aa 1) (upd f 3 (.int y)) h = some (decide ((y:Int) < (x:Int)),h):=aq (loc rfl) (loc h1) (Dm _ _ _)
  have ad:aQ .Add (s:Int) (y:Int) = some (((s + y:Nat)):Int):=by rw [kU]; rfl
  by_cases hy:y < x
  ·rw [decide_eq_true (by omega)] at t
   obtain ⟨f',r,z1,z2⟩:=rP chk h hc l (upd (upd (upd f 3 (.int y)) 1 (.int y)) 2 (.int ((s + y:Nat)))) y (s + y) rfl rfl
   refine ⟨f',bE (ak (aT t (ak (am (loc rfl)) rfl)) (ak (ca (b:=(y:Int)) h2 (loc rfl) ad) rfl)) hc r,?_,z2⟩
   rw [List.foldl_cons,if_pos hy]; exact z1
  ·rw [decide_eq_false (by omega)] at t
   obtain ⟨f',r,z1,z2⟩:=rP chk h hc l (upd (upd f 3 (.int y)) 2 (.int ((s + y:Nat)))) x (s + y) h1 rfl
   refine ⟨f',bE (ak (aI t) (ak (ca (b:=(y:Int)) h2 (loc rfl) ad) rfl)) hc r,?_,z2⟩
   rw [List.foldl_cons,if_neg hy]; exact z1
theorem lb (n i:Nat) (l:List Nat) (h:H) (hi:h[i]? = some (nL l)):run ah (n + 1) "least_and_sum" [.ref i] h = some (.tup [((fL l).1:Int),((fL l).2:Int)],h):=by
 refine (lE ..).trans ?_
 haveI it:az (.ref i) h = some (nV l):=by simp only [az,hi,nL]; rfl
 obtain ⟨f',r,z1,z2⟩:=rP (fun h'' => stays (.ref i) h h'') h (by simp [stays]) l (upd (upd (upd nf 0 (.ref i)) 1 (.int 1073741824)) 2 (.int 0)) 1073741824 0 rfl rfl
 refine ae (am aH) (ae (am aH) (ae (br (loc rfl) it r) ?_))
 have t:ax .Gt (aa 2) (ac (.int 1073741824)) f' h = some (decide ((1073741824:Int) < ((l.foldl (fun s x => s + x) 0:Nat):Int)),h):=aq (loc z2) aH (ui _ _ _)
 by_cases hb:1073741824 < l.foldl (fun s x => s + x) 0
 ·rw [decide_eq_true (by omega)] at t
  haveI e:((fL l).2:Int) = 1073741824:=by show ((min ff (l.foldl (fun s x => s + x) 0):Nat):Int) = _; unfold ff; rw [Nat.min_eq_left (by omega)]; rfl
  rw [e]
  exact ae (aT t (ak (am aH) rfl)) (aA (aC (eN (ar (loc z1) (ar (loc rfl) aG)) rfl)))
 ·rw [decide_eq_false (by omega)] at t
  haveI e:(fL l).2 = l.foldl (fun s x => s + x) 0:=by show min ff (l.foldl (fun s x => s + x) 0) = _; unfold ff; exact Nat.min_eq_right (by omega)
  rw [e]
  exact ae (aI t) (aA (aC (eN (ar (loc z1) (ar (loc z2) aG)) rfl)))
theorem wx (chk:H → Bool) (h:H) (hc:chk h = true) (f':V → Fm) (elt:Ex) (g:Nat → Nat):∀ cs:List Nat,(∀ c ∈ cs,elt (f' (.int c)) h = some (.int (g c),h)) →
  dE chk f' (cb []) elt (nV cs) h = some (nV (cs.map g),h)
 | [],_ => rfl
 | c :: cs,he => by
  haveI ih:=wx chk h hc f' elt g cs fun x hx => he x (.tail _ hx)
  haveI e1:=he c (.head _)
  show (cb [] (f' (.int c)) h).bind _ = _
  show (if chk h then (if true then (elt (f' (.int c)) h).bind fun q => if chk q.2 then (dE chk f' (cb []) elt (nV cs) q.2).bind fun z => some (q.1 :: z.1,z.2) else none else _) else none) = _
  rw [hc,if_pos rfl,if_pos rfl,e1]
  show (if chk h then (dE chk f' (cb []) elt (nV cs) h).bind fun z => some (V.int (g c) :: z.1,z.2) else none) = _
  rw [hc,if_pos rfl,ih]
  rfl
theorem xv {x:Nat} {cm:Nat → Option Nat} {it elt:Ex} {f:Fm} {h:H} {i:Nat} {cs:List Nat} {g:Nat → Nat} (k:it f h = some (.ref i,h)) (hi:h[i]? = some (nL cs)) (hl:cs.length ≤ 1000)
  (he:∀ c ∈ cs,elt (fun j => if j = x then some (.int c) else (cm j).bind f) h = some (.int (g c),h)):dz x cm it (cb []) elt f h = some (.ref h.length,h ++ [nL (cs.map g)]):=by
 haveI iq:az (.ref i) h = some (nV cs):=by simp only [az,hi,nL]; rfl
 unfold dz
 rw [k]
 simp only [Option.bind_some,iq]
 rw [if_pos (by unfold nV; rw [List.length_map]; exact hl),wx _ h (by simp [stays]) (fun v j => if j = x then some v else (cm j).bind f) elt g cs he]
 rfl
theorem nb {v:Nat} {i:Nat} {cs:List Nat} {f:Fm} {e e':Ex} (ke:e f (ht row a b P J T G) = some (.ref (47 + J.length),ht row a b P J T G)) (kv:e' f (ht row a b P J T G) = some (.int v,ht row a b P J T G)) (hN:T.ch.length ≤ 1000) (hc:T.ch[v]? = some (some (i,cs))) :
  av (ai e "children") e' f (ht row a b P J T G) = some (.ref (47 + (J.length + (6 + i))),ht row a b P J T G):=by
 refine aW (cn ke Bm) kv ?_
 haveI hv:=(List.getElem?_eq_some_iff.mp hc).1
 rw [mu zJ (by omega) (by omega),Int.toNat_natCast,List.getElem?_map,hc]
 rfl
theorem wM {v:Nat} {l:List Nat} {j:Nat} {f:Fm} {h:H} {e e':Ex} (ke:e f h = some (.ref j,h)) (hi:h[j]? = some (nL l)) (hv:v < l.length) (hl:l.length ≤ 1000) (kv:e' f h = some (.int v,h)) :
  av e e' f h = some (.int (l.getD v 0),h):=aW ke kv (dG hi hv hl)
theorem wl (x:Nat):aQ .Mod (x:Int) 2 = some ((x % 2:Nat):Int):=by
 show (if (2:Int) ≠ 0 then some ((x:Int).fmod 2) else none) = _
 rw [if_pos (by decide),Int.fmod_eq_emod_of_nonneg _ (by decide)]
 rfl
theorem zn {N v i:Nat} {cs:List Nat} (L:T.Len N) (hN:N ≤ 1000) (hv:v < N) (hc:T.ch[v]? = some (some (i,cs))) (hi:G[i]? = some (nL cs)) (hl:cs.length ≤ 1000) (hcs:∀ c ∈ cs,c < N) (n:Nat) :
  ∃ K,run ah (n + 2) "update_node" [.ref (47 + J.length),.int v] (ht row a b P J T G) = some (.none,ht row a b P J (T.upd v cs) (G ++ K)):=by
 haveI l1:=L.pr
 haveI l2:=L.dp
 haveI l3:=L.pl
 haveI l4:=L.ch
 refine ⟨[nL (cs.map fun c => T.pr.getD c 0)] ++ [nL (cs.map fun c => T.dp.getD c 0)],?_⟩
 rw [oP,← List.append_assoc]
 haveI hi':(G ++ [nL (cs.map fun c => T.pr.getD c 0)])[i]? = some (nL cs):=up _ hi
 haveI c1:=xv (f:=upd (upd nf 0 (.ref (47 + J.length))) 1 (.int v)) (x:=1) (cm:=fm [none,none,some 0]) (elt:=av (ai (aa 2) "proofs") (aa 1)) (g:=fun c => T.pr.getD c 0)
  (nb (row:=row) (a:=a) (b:=b) (P:=P) (J:=J) (G:=G) (e:=aa 0) (e':=aa 1) (loc rfl) (loc rfl) (by omega) hc) ((uM i).trans hi) hl
  (fun c hx => fA (loc rfl) rL sG (by haveI:=hcs c hx; omega) (by omega) (loc rfl))
 rw [wq,uY] at c1
 haveI c2:∀ w,_:=fun w => xv (f:=upd (upd (upd nf 0 (.ref (47 + J.length))) 1 (.int v)) 2 w) (x:=1) (cm:=fm [none,none,some 0]) (elt:=av (ai (aa 2) "disproofs") (aa 1)) (g:=fun c => T.dp.getD c 0)
  (nb (row:=row) (a:=a) (b:=b) (P:=P) (J:=J) (G:=G ++ [nL (cs.map fun c => T.pr.getD c 0)]) (e:=aa 0) (e':=aa 1) (loc rfl) (loc rfl) (by omega) hc) ((uM i).trans hi') hl
  (fun c hx => fA (loc rfl) tY ul (by haveI:=hcs c hx; omega) (by omega) (loc rfl))
 rw [wq,uY] at c2
 haveI s1:=lb n (47 + (J.length + (6 + G.length))) _ (ht row a b P J T (G ++ [nL (cs.map fun c => T.pr.getD c 0)])) ((uM _).trans (bK G))
 haveI s2:=lb n (47 + (J.length + (6 + (G ++ [nL (cs.map fun c => T.pr.getD c 0)]).length))) _ (ht row a b P J T (G ++ [nL (cs.map fun c => T.pr.getD c 0)] ++ [nL (cs.map fun c => T.dp.getD c 0)])) ((uM _).trans (bK _))
 refine ae (am (aM (ar c1 aG) s1)) (ae (am (aM (ar (c2 _) aG) s2)) ?_)
 have t:ax .Eq (ao .Mod (av (ai (aa 0) "plies") (aa 1)) (ac (.int 2))) (ac (.int 0)) (upd (upd (upd (upd nf 0 (.ref (47 + J.length))) 1 (.int v)) 2 (.tup [((fL (cs.map fun c => T.pr.getD c 0)).1:Int),((fL (cs.map fun c => T.pr.getD c 0)).2:Int)])) 3 (.tup [((fL (cs.map fun c => T.dp.getD c 0)).1:Int),((fL (cs.map fun c => T.dp.getD c 0)).2:Int)]))
   (ht row a b P J T (G ++ [nL (cs.map fun c => T.pr.getD c 0)] ++ [nL (cs.map fun c => T.dp.getD c 0)])) = some (decide (((T.pl.getD v 0 % 2:Nat):Int) = 0),_):=
  aq (aL (fA (loc rfl) Bx BX (by omega) (by omega) (loc rfl)) aH (wl _)) aH (jd _ _ _)
 unfold Tr.upd
 dsimp only
 by_cases h:T.pl.getD v 0 % 2 = 0
 ·rw [if_pos h]
  rw [decide_eq_true (by omega)] at t
  exact ae (aT t (ak (gz (aW (loc rfl) aH rfl) (loc rfl) rL sG (by omega) (by omega) (loc rfl) (AQ _)) (ak (gz (aW (loc rfl) aH rfl) (loc rfl) tY ul (by show v < T.dp.length; omega) (by show T.dp.length ≤ _; omega) (loc rfl) (yQ _)) rfl))) rfl
 ·rw [if_neg h]
  rw [decide_eq_false (by omega)] at t
  exact ae (tO t (ak (gz (aW (loc rfl) aH rfl) (loc rfl) rL sG (by omega) (by omega) (loc rfl) (AQ _)) (ak (gz (aW (loc rfl) aH rfl) (loc rfl) tY ul (by show v < T.dp.length; omega) (by show T.dp.length ≤ _; omega) (loc rfl) (yQ _)) rfl))) rfl
theorem nT (chk:H → Bool) (hk:chk (ht row a b P J T G) = true) {l:List Nat} {j:Nat} (hj:(ht row a b P J T G)[j]? = some (nL l)) (hl:l.length ≤ 1000):∀ (cs:List Nat) (f:Fm) (c:Nat),(∀ x ∈ cs,x < l.length) → c < l.length → f 2 = some (.ref j) → f 3 = some (.int c) →
  ∃ f',bQ chk 4 (ag [aU (ax .Lt (av (aa 2) (aa 4)) (av (aa 2) (aa 3))) (ag [aj 3 (aa 4)]) (ag [])]) (nV cs) f (ht row a b P J T G) = some (.next,f',ht row a b P J T G) ∧
   f' 3 = some (.int (cs.foldl (fun c x => if l.getD x 0 < l.getD c 0 then x else c) c:Nat))
 | [],f,c,_,_,_,h3 => ⟨f,rfl,h3⟩
 | x :: cs,f,c,hx,hc,h2,h3 => by
  have t:ax .Lt (av (aa 2) (aa 4)) (av (aa 2) (aa 3)) (upd f 4 (.int x)) (ht row a b P J T G) = some (decide (((l.getD x 0:Nat):Int) < ((l.getD c 0:Nat):Int)),ht row a b P J T G):=
   aq (wM (loc h2) hj (hx x (.head _)) hl (loc rfl)) (wM (loc h2) hj hc hl (loc h3)) (Dm _ _ _)
  by_cases hy:l.getD x 0 < l.getD c 0
  ·rw [decide_eq_true (by omega)] at t
   obtain ⟨f',r,z⟩:=nT chk hk hj hl cs (upd (upd f 4 (.int x)) 3 (.int x)) x (fun y hy => hx y (.tail _ hy)) (hx x (.head _)) h2 rfl
   refine ⟨f',bE (ak (aT t (ak (am (loc rfl)) rfl)) rfl) hk r,?_⟩
   rw [List.foldl_cons,if_pos hy]; exact z
  ·rw [decide_eq_false (by omega)] at t
   obtain ⟨f',r,z⟩:=nT chk hk hj hl cs (upd f 4 (.int x)) c (fun y hy => hx y (.tail _ hy)) hc h2 h3
   refine ⟨f',bE (ak (aI t) rfl) hk r,?_⟩
   rw [List.foldl_cons,if_neg hy]; exact z
theorem AN {N v i:Nat} {cs:List Nat} (L:T.Len N) (hN:N ≤ 1000) (hv:v < N) (hc:T.ch[v]? = some (some (i,cs))) (hi:G[i]? = some (nL cs)) (hl:cs.length ≤ 1000) (hcs:∀ c ∈ cs,c < N) (hne:cs ≠ []) (n:Nat) :
  run ah (n + 1) "select_child" [.ref (47 + J.length),.int v] (ht row a b P J T G) = some (.int (T.sel v cs),ht row a b P J T G):=by
 haveI l1:=L.pr
 haveI l2:=L.dp
 haveI l3:=L.pl
 haveI l4:=L.ch
 refine (nJ ..).trans ?_
 obtain ⟨c0,cs',rfl⟩:∃ c l,cs = c :: l:=by cases cs with | nil => exact absurd rfl hne | cons c l => exact ⟨c,l,rfl⟩
 haveI it:az (.ref (47 + (J.length + (6 + i)))) (ht row a b P J T G) = some (nV (c0 :: cs')):=by simp only [az,uM,hi,nL]; rfl
 haveI fin':∀ (j:Nat) (l:List Nat),T.nums v = l → (ht row a b P J T G)[j]? = some (nL l) → l.length = N → ∀ f:Fm,f 0 = some (.ref (47 + J.length)) → f 1 = some (.int v) → f 2 = some (.ref j) →
   fin (ag [aj 3 (av (av (ai (aa 0) "children") (aa 1)) (ac (.int 0))),
    bF 4 (av (ai (aa 0) "children") (aa 1)) (ag [aU (ax .Lt (av (aa 2) (aa 4)) (av (aa 2) (aa 3))) (ag [aj 3 (aa 4)]) (ag [])]),aw (aa 3)] f (ht row a b P J T G)) = some (.int (T.sel v (c0 :: cs')),ht row a b P J T G):=by
  intro j l hn hj hlen f f0 f1 f2
  obtain ⟨f',r,z⟩:=nT (fun h'' => stays (.ref (47 + (J.length + (6 + i)))) (ht row a b P J T G) h'') (by simp [stays]) hj (by omega) (c0 :: cs') (upd f 3 (.int c0)) c0 (fun x hx => by rw [hlen]; exact hcs x hx) (by rw [hlen]; exact hcs c0 (.head _)) f2 rfl
  unfold Tr.sel
  rw [hn]
  exact ae (am (aW (nb (loc f0) (loc f1) (by omega) hc) aH (dG (s:=0) ((uM i).trans hi) (by simp) hl))) (ae (br (nb (loc f0) (loc f1) (by omega) hc) it r) (aA (aC (loc z))))
 have t:ax .Eq (ao .Mod (av (ai (aa 0) "plies") (aa 1)) (ac (.int 2))) (ac (.int 1)) (upd (upd (upd nf 0 (.ref (47 + J.length))) 1 (.int v)) 2 (.ref (47 + (J.length + 3)))) (ht row a b P J T G) = some (decide (((T.pl.getD v 0 % 2:Nat):Int) = 1),_):=
  aq (aL (fA (loc rfl) Bx BX (by omega) (by omega) (loc rfl)) aH (wl _)) aH (jd _ _ _)
 by_cases h:T.pl.getD v 0 % 2 = 1
 ·rw [decide_eq_true (by omega)] at t
  exact ae (am (cn (loc rfl) rL)) (ae (aT t (ak (am (cn (loc rfl) tY)) rfl)) (fin' _ T.dp (if_pos h) ul l2 _ rfl rfl rfl))
 ·rw [decide_eq_false (by omega)] at t
  exact ae (am (cn (loc rfl) rL)) (ae (aI t) (fin' _ T.pr (if_neg h) sG l1 _ rfl rfl rfl))
end
end
section
open PySem
noncomputable def oA (b:B3) (S:St) (last:Bool):Int:=if last = true ∧ IC b S = false then -1 else if HL b S = true then (if last = true then -1 else 0) else if IC b S = true then 1 else -1
noncomputable def Tr.kid (T:Tr) (b:B3) (S:St) (p last m:Nat):Tr:=
 if p % 2 = 1 then (if oA b (DO S m) (decide (last ≤ p)) = 0 then T.add m p (DO S m) else if oA b (DO S m) (decide (last ≤ p)) = 1 then (T.add m p (DO S m)).put T.mv.length 0 ff else (T.add m p (DO S m)).put T.mv.length ff 0)
 else T.add m p (DO S m)
noncomputable def Tr.kids (T:Tr) (b:B3) (S:St) (p last:Nat) (ms:List Nat):Tr:=ms.foldl (fun T m => T.kid b S p last m) T
theorem Tr.Len.add {T:Tr} {N:Nat} (L:T.Len N) (m p:Nat) (S:St):(T.add m p S).Len (N + 1):=by
 constructor <;> simp [Tr.add,L.mv,L.pl,L.pr,L.dp,L.ch,L.st]
theorem Tr.Len.put {T:Tr} {N:Nat} (L:T.Len N) (v x y:Nat):(T.put v x y).Len N:=by
 constructor <;> simp [Tr.put,L.mv,L.pl,L.pr,L.dp,L.ch,L.st]
theorem Tr.Len.kid {T:Tr} {N:Nat} (L:T.Len N) (b:B3) (S:St) (p last m:Nat):(T.kid b S p last m).Len (N + 1):=by
 unfold Tr.kid
 split
 ·split
  ·exact L.add _ _ _
  ·split <;> exact (L.add _ _ _).put _ _ _
 ·exact L.add _ _ _
theorem Tr.Len.kids {b:B3} {S:St} {p last:Nat}:∀ (ms:List Nat) {T:Tr} {N:Nat},T.Len N → (T.kids b S p last ms).Len (N + ms.length)
 | [],_,_,L => L
 | m :: ms,_,N,L => by
  haveI:=Tr.Len.kids (b:=b) (S:=S) (p:=p) (last:=last) ms (L.kid b S p last m)
  rw [List.length_cons,show N + (ms.length + 1) = N + 1 + ms.length by omega]; exact this
theorem Tr.Len.upd {T:Tr} {N:Nat} (L:T.Len N) (v:Nat) (cs:List Nat):(T.upd v cs).Len N:=by
 unfold Tr.upd
 dsimp only
 split <;> exact L.put _ _ _
section
variable {row:List Int} {a:Int} {b:B3} {S:St} {X:dL} {J:H} {T:Tr} {G:H}
theorem Ew (W:WF b S) (X:dL) (J:H) (last:Bool) (n:Nat):jN row a b (S.ps b X) J (n + 20) "leaf_state" [.ref 42,.bool last] (.int (oA b S last)):=by
 obtain ⟨G,hl⟩:=DL row a X J W n
 haveI ic:∀ J,run ah (n + 19) "in_check" [.ref 42] (hs row a b S X J) = _:=fun J => zj row a X J W (n + 5)
 suffices key:∃ K,run ah (n + 20) "leaf_state" [.ref 42,.bool last] (hs row a b S X J) = some (.int (oA b S last),hs row a b S X (J ++ K)) from let ⟨K,r⟩:=key; ⟨K,r⟩
 rw [rh]
 unfold oA
 haveI rest:¬ (last = true ∧ IC b S = false) → ∃ K,fin (ag [
   aU (aX (af (run ah (n + 19)) "has_legal_move" [(aa 0)])) (ag [aU (aX (aa 1)) (ag [aw (ac (.int (-1)))]) (ag []),aw (ac (.int 0))]) (ag []),
   aU (aX (af (run ah (n + 19)) "in_check" [(aa 0)])) (ag [aw (ac (.int 1))]) (ag []),
   aw (ac (.int (-1)))] (upd (upd nf 0 (.ref 42)) 1 (.bool last)) (hs row a b S X J)) = some (.int (if HL b S = true then (if last = true then -1 else 0) else if IC b S = true then 1 else -1),hs row a b S X (J ++ K)):=fun _ => by
  have ic:=ic (J ++ G)
  refine ⟨G,?_⟩
  revert hl ic
  cases HL b S with
  | true =>
   intro hl _
   rw [if_pos rfl]
   cases last with
   | true => exact aA (aT (aS (aM (ar (loc rfl) aG) hl) rfl) (aN (aT (aS (loc rfl) rfl) (aN (aC aH)))))
   | false => exact aA (aT (aS (aM (ar (loc rfl) aG) hl) rfl) (ak (aI (aS (loc rfl) rfl)) (aN (aC aH))))
  | false =>
   rw [if_neg (by decide)]
   cases IC b S with
   | true => exact fun hl ic => ae (aI (aS (aM (ar (loc rfl) aG) hl) rfl)) (aA (aT (aS (aM (ar (loc rfl) aG) ic) rfl) (aN (aC aH))))
   | false => exact fun hl ic => ae (aI (aS (aM (ar (loc rfl) aG) hl) rfl)) (ae (aI (aS (aM (ar (loc rfl) aG) ic) rfl)) (aA (aC aH)))
 have ic:=ic J
 cases last with
 | false =>
  haveI n0:¬ (false = true ∧ IC b S = false):=fun h => by cases h.1
  obtain ⟨K,r⟩:=rest n0
  rw [if_neg n0]
  exact ⟨K,ae (aI (iO (aS (loc rfl) rfl))) r⟩
 | true =>
  cases hi:IC b S with
  | false =>
   rw [hi] at ic
   rw [if_pos ⟨rfl,rfl⟩]
   exact ⟨[],by rw [List.append_nil]; exact aA (aT (dD (aS (loc rfl) rfl) (dD (fp (c:=false) (aS (aM (ar (loc rfl) aG) ic) rfl)) rl)) (aN (aC aH)))⟩
  | true =>
   rw [hi] at ic
   haveI n0:¬ (true = true ∧ IC b S = false):=fun h => by rw [hi] at h; cases h.2
   obtain ⟨K,r⟩:=rest n0
   rw [hi] at n0 r
   rw [if_neg n0]
   exact ⟨K,ae (aI (dD (aS (loc rfl) rfl) (iO (fp (c:=true) (aS (aM (ar (loc rfl) aG) ic) rfl))))) r⟩
theorem v9 {g:Str → List V → H → Option (V × H)} {P:PS} {x k:Str} {as:List Ex} {vs:List V} {f:Fm} {e:Ex} {Z:Option (V × H)} (hx:fD "ProofTree" x = some k) (ha:eW x [("moves",V.ref (47 + (J.length + 1))),("plies",.ref (47 + (J.length + 2))),("proofs",.ref (47 + (J.length + 3))),("disproofs",.ref (47 + (J.length + 4))),("children",.ref (47 + (J.length + 5)))] = none)
  (ke:e f (ht row a b P J T G) = some (.ref (47 + J.length),ht row a b P J T G)) (ka:bb as f (ht row a b P J T G) = some (vs,ht row a b P J T G)) (hz:g k (.ref (47 + J.length) :: vs) (ht row a b P J T G) = Z) :
  aZ g e x as f (ht row a b P J T G) = Z:=by
 haveI h:(ht row a b P J T G)[47 + J.length]? = _:=gh 0
 rw [qO,ke]
 simp only [Option.bind_some,h,tT,List.cons_append,List.getElem?_cons_zero,ha,hx,ka,hz]
noncomputable abbrev oB (n:Nat):Sx:=ag [aj 7 (aZ (run ah (n + 21)) (aa 0) "add" [(aa 6),(aa 4)]),au (aZ (run ah (n + 21)) (aa 5) "append" [(aa 7)]),aU (ax .Eq (ao .Mod (aa 4) (ac (.int 2))) (ac (.int 1))) (ag [au (af (run ah (n + 21)) "do_move" [(aa 1),(aa 6)]),aj 8 (af (run ah (n + 21)) "leaf_state" [(aa 1),(cG .GtE (aa 4) (aa 3))]),au (af (run ah (n + 21)) "undo_move" [(aa 1)]),aU (ax .NotEq (aa 8) (ac (.int 0))) (ag [au (aZ (run ah (n + 21)) (aa 0) "settle" [(aa 7),(aa 8)])]) (ag [])]) (ag [])]
theorem pM (W:WF b S) (p last i o:Nat) (G0:H) (T0:Tr) (n:Nat) (ho:o < G0.length):∀ (ms:List Nat) (f:Fm) (T:Tr) (G:H) (N:Nat) (cs:List Nat),(∀ m ∈ ms,m ∈ LM b S) → X.hist.length ≤ 890 →
  f 0 = some (.ref (47 + J.length)) → f 1 = some (.ref 42) → f 3 = some (.int last) → f 4 = some (.int p) → f 5 = some (.ref (47 + (J.length + (6 + i)))) → T.Len N → N + ms.length ≤ 1000 → G[i]? = some (nL cs) → cs.length ≤ N → G[o]? = G0[o]? → o ≠ i →
  ∃ f' G',bQ (fun h' => stays (.ref (47 + (J.length + (6 + o)))) (ht row a b (S.ps b X) J T0 G0) h') 6 (oB n)
    (nV ms) f (ht row a b (S.ps b X) J T G) = some (.next,f',ht row a b (S.ps b X) J (T.kids b S p last ms) G') ∧ (∀ j,j < 6 → f' j = f j) ∧ G'[i]? = some (nL (cs ++ List.range' N ms.length)) ∧ G.length ≤ G'.length ∧ ∀ j,j ≠ i → j < G.length → G'[j]? = G[j]?
 | [],f,T,G,N,cs,_,_,_,_,_,_,_,_,_,hi,_,_,_ => ⟨f,G,rfl,fun _ _ => rfl,by simpa using hi,Nat.le_refl _,fun _ _ _ => rfl⟩
 | m :: ms,f,T,G,N,cs,hms,hz,f0,f1,f3,f4,f5,L,hN,hi,hcs,hG,hoi => by
  have hm:=hms m (.head _)
  rw [List.length_cons] at hN
  have hil:=cj hi
  haveI hmv:=L.mv
  have ad:aZ (run ah (n + 21)) (aa 0) "add" [(aa 6),(aa 4)] (upd f 6 (.int m)) (ht row a b (S.ps b X) J T G) = some (.int N,ht row a b (S.ps b X) J (T.add m p (DO S m)) G):=
   v9 (k := "ProofTree.add") rfl rfl (loc f0) (ar (loc rfl) (ar (loc f4) aG)) (Fb L (by omega) m p (DO S m) (n + 19))
  have ap:au (aZ (run ah (n + 21)) (aa 5) "append" [(aa 7)]) (upd (upd f 6 (.int m)) 7 (.int N)) (ht row a b (S.ps b X) J (T.add m p (DO S m)) G) = some (.next,upd (upd f 6 (.int m)) 7 (.int N),ht row a b (S.ps b X) J (T.add m p (DO S m)) (G.set i (nL (cs ++ [N])))):=by
   have hq:(ht row a b (S.ps b X) J (T.add m p (DO S m)) G)[47 + (J.length + (6 + i))]? = some (nL cs):=(uM i).trans hi
   have z:=fQ (g:=run ah (n + 21)) (f:=upd (upd f 6 (.int m)) 7 (.int N)) (e:=aa 5) (e':=aa 7) (loc f5) hq (loc rfl) hq (by rw [List.length_map]; omega)
   haveI e1:(MO.list (cs.map (fun (n:Nat) => V.int n) ++ [.int N])) = nL (cs ++ [N]):=by unfold nL; rw [List.map_append]; rfl
   rw [e1,HQ] at z
   exact aD z rfl
  have t:ax .Eq (ao .Mod (aa 4) (ac (.int 2))) (ac (.int 1)) (upd (upd f 6 (.int m)) 7 (.int N)) (ht row a b (S.ps b X) J (T.add m p (DO S m)) (G.set i (nL (cs ++ [N])))) = some (decide (((p % 2:Nat):Int) = 1),_):=
   aq (aL (loc f4) aH (wl _)) aH (jd _ _ _)
  haveI Lk:=L.kid b S p last m
  haveI body:∃ f1' K,(∀ j,j < 6 → f1' j = f j) ∧ oB n (upd f 6 (.int m)) (ht row a b (S.ps b X) J T G) =
    some (.next,f1',ht row a b (S.ps b X) J (T.kid b S p last m) (G.set i (nL (cs ++ [N])) ++ K)):=by
   by_cases hp':p % 2 = 1
   ·rw [decide_eq_true (by omega)] at t
    obtain ⟨X',d1,_,bk⟩:=sM row a W hm (X:=X) (by omega) (n + 17) (J ++ (tT J.length (T.add m p (DO S m)) ++ G.set i (nL (cs ++ [N]))))
    obtain ⟨K,lf⟩:=Ew (row:=row) (a:=a) (h9 W hm) X' (J ++ (tT J.length (T.add m p (DO S m)) ++ G.set i (nL (cs ++ [N])))) (decide (last ≤ p)) (n + 1)
    have un:=bk (n + 17) (J ++ (tT J.length (T.add m p (DO S m)) ++ G.set i (nL (cs ++ [N]))) ++ K)
    rw [rR (P:=S.ps b X)] at un
    haveI ge:∀ h:H,bI .GtE (.int p) (.int last) h = some (decide (last ≤ p)):=fun h => (AL _ _ _).trans (by congr 1; rw [Bool.eq_iff_iff]; simp)
    haveI pre:∀ Z,ag [aU (ax .NotEq (aa 8) (ac (.int 0))) (ag [au (aZ (run ah (n + 21)) (aa 0) "settle" [(aa 7),(aa 8)])]) (ag [])] (upd (upd (upd f 6 (.int m)) 7 (.int N)) 8 (.int (oA b (DO S m) (decide (last ≤ p))))) (ht row a b (S.ps b X) J (T.add m p (DO S m)) (G.set i (nL (cs ++ [N])) ++ K)) = some (.next,upd (upd (upd f 6 (.int m)) 7 (.int N)) 8 (.int (oA b (DO S m) (decide (last ≤ p)))),Z) →
      oB n (upd f 6 (.int m)) (ht row a b (S.ps b X) J T G) = some (Fl.next,upd (upd (upd f 6 (.int m)) 7 (.int N)) 8 (.int (oA b (DO S m) (decide (last ≤ p)))),Z):=fun Z z =>
     ak (am ad) (ak ap (ak (aT t (ak (aD (aM (ar (loc f1) (ar (loc rfl) aG)) d1) rfl) (ak (am (aM (ar (loc f1) (ar (bL (loc f4) (loc f3) (ge _)) aG)) lf)) (ak (aD (aM (ar (loc f1) aG) un) rfl) z)))) rfl))
    refine ⟨upd (upd (upd f 6 (.int m)) 7 (.int N)) 8 (.int (oA b (DO S m) (decide (last ≤ p)))),K,fun j hj => ?_,pre _ ?_⟩
    ·unfold Mine.upd
     rw [if_neg (by omega),if_neg (by omega),if_neg (by omega)]
    ·unfold Tr.kid
     rw [if_pos hp',hmv]
     have t2:ax .NotEq (aa 8) (ac (.int 0)) (upd (upd (upd f 6 (.int m)) 7 (.int N)) 8 (.int (oA b (DO S m) (decide (last ≤ p))))) (ht row a b (S.ps b X) J (T.add m p (DO S m)) (G.set i (nL (cs ++ [N])) ++ K)) = some (!decide (oA b (DO S m) (decide (last ≤ p)) = 0),_):=aq (loc rfl) aH (tP _ _ _)
     by_cases h0:oA b (DO S m) (decide (last ≤ p)) = 0
     ·rw [decide_eq_true h0] at t2
      rw [if_pos h0]
      exact ak (aI t2) rfl
     ·rw [decide_eq_false h0] at t2
      rw [if_neg h0]
      exact ak (aT t2 (ak (aD (v9 (k := "ProofTree.settle") rfl rfl (loc f0) (ar (loc rfl) (ar (loc rfl) aG)) (tr (L.add m p (DO S m)) (by omega) (by omega) _ (n + 20))) rfl) rfl)) rfl
   ·rw [decide_eq_false (by omega)] at t
    refine ⟨upd (upd f 6 (.int m)) 7 (.int N),[],fun j hj => ?_,?_⟩
    ·unfold Mine.upd
     rw [if_neg (by omega),if_neg (by omega)]
    ·unfold Tr.kid
     rw [if_neg hp',List.append_nil]
     exact ak (am ad) (ak ap (ak (aI t) rfl))
  obtain ⟨f1',K,hf,bd⟩:=body
  have gl:∀ j,j ≠ i → j < G.length → (G.set i (nL (cs ++ [N])) ++ K)[j]? = G[j]?:=fun j h1 h2 => by
   rw [List.getElem?_append_left (by simpa using h2),List.getElem?_set_ne (Ne.symm h1)]
  have hoG:o < G.length:=by
   rcases Nat.lt_or_ge o G.length with h | h
   ·exact h
   ·rw [List.getElem?_eq_none h,eq_comm,List.getElem?_eq_none_iff] at hG; omega
  haveI hi2:(G.set i (nL (cs ++ [N])) ++ K)[i]? = some (nL (cs ++ [N])):=by
   rw [List.getElem?_append_left (by simpa using hil),List.getElem?_set_self hil]
  obtain ⟨f2,G',r,q1,q2,q3,q4⟩:=pM W p last i o G0 T0 n ho ms f1' (T.kid b S p last m) _ (N + 1) (cs ++ [N]) (fun q hq => hms q (.tail _ hq)) hz ((hf 0 (by omega)).trans f0) ((hf 1 (by omega)).trans f1) ((hf 3 (by omega)).trans f3) ((hf 4 (by omega)).trans f4) ((hf 5 (by omega)).trans f5) Lk (by omega) hi2 (by simpa using hcs) ((gl o hoi hoG).trans hG) hoi
  haveI ck:(fun h' => stays (.ref (47 + (J.length + (6 + o)))) (ht row a b (S.ps b X) J T0 G0) h') (ht row a b (S.ps b X) J (T.kid b S p last m) (G.set i (nL (cs ++ [N])) ++ K)) = true:=by
   simp only [stays,uM]
   rw [gl o hoi hoG,hG]
   simp
  refine ⟨f2,G',bE bd ck r,fun j hj => (q1 j hj).trans (hf j hj),?_,?_,fun j h1 h2 => ?_⟩
  ·rw [q2,List.append_assoc]; rfl
  ·rw [List.length_append,List.length_set] at q3; omega
  ·rw [q4 j h1 (by rw [List.length_append,List.length_set]; omega),gl j h1 h2]
end
end
section
open PySem
noncomputable def Tr.opened (T:Tr) (b:B3) (S:St) (v last i:Nat):Tr:=
 let T1:=T.kids b S (T.pl.getD v 0 + 1) last (LM b S)
 { T1 with ch:=T1.ch.set v (some (i,List.range' T.mv.length (LM b S).length)) }
noncomputable def Keep (G G':H):Prop:=G.length ≤ G'.length ∧ ∀ j,j < G.length → G'[j]? = G[j]?
theorem Keep.trans {G G' G'':H} (h:Keep G G') (h':Keep G' G''):Keep G G'':=⟨Nat.le_trans h.1 h'.1,fun j hj => (h'.2 j (Nat.lt_of_lt_of_le hj h.1)).trans (h.2 j hj)⟩
theorem Keep.app (G K:H):Keep G (G ++ K):=⟨by simp,fun j hj => List.getElem?_append_left hj⟩
theorem Keep.at {G G':H} (h:Keep G G') {i:Nat} {x:MO} (hi:G[i]? = some x):G'[i]? = some x:=(h.2 i (cj hi)).trans hi
section
variable {row:List Int} {a:Int} {b:B3} {S:St} {X:dL} {J:H} {T:Tr} {G:H}
theorem wI {P:PS} {o:Nat} {l:List Nat} (h:G[o]? = some (nL l)):az (.ref (47 + (J.length + (6 + o)))) (ht row a b P J T G) = some (nV l):=by
 simp only [az,uM]
 rw [h]; rfl
theorem Eb (W:WF b S) {N v:Nat} (L:T.Len N) (hv:v < N) (hN:N + (LM b S).length ≤ 1000) (hz:X.hist.length ≤ 890) (last n:Nat) :
  ∃ G',run ah (n + 22) "open_node" [.ref (47 + J.length),.ref 42,.int v,.int last] (ht row a b (S.ps b X) J T G) = some (.none,ht row a b (S.ps b X) J (T.opened b S v last G.length) G') ∧
   G'[G.length]? = some (nL (List.range' N (LM b S).length)) ∧ Keep G G':=by
 obtain ⟨K,o',r1,r2,r3⟩:=qt row a X (J ++ (tT J.length T ++ (G ++ [nL []]))) W (n + 1)
 obtain ⟨o,rfl⟩:∃ o,o' = J.length + (6 + o):=⟨o' - J.length - 6,by simp [tT] at r3; omega⟩
 haveI ho:G.length + 1 ≤ o:=by simp [tT] at r3; omega
 haveI hmv:=L.mv
 haveI hpl:=L.pl
 rw [rR (P:=S.ps b X)] at r1
 have hgo:(G ++ [nL []] ++ K)[o]? = some (nL (LM b S)):=by
  rw [← uM (row:=row) (a:=a) (b:=b) (P:=S.ps b X) (J:=J) (T:=T),← rR,eM]; exact r2
 haveI hgi:(G ++ [nL []] ++ K)[G.length]? = some (nL []):=up _ (bK G)
 obtain ⟨f',G',lp,q1,q2,q3,q4⟩:=pM (row:=row) (a:=a) (J:=J) W (T.pl.getD v 0 + 1) last G.length o (G ++ [nL []] ++ K) T n (cj hgo) (LM b S)
  (upd (upd (upd (upd (upd (upd nf 0 (.ref (47 + J.length))) 1 (.ref 42)) 2 (.int v)) 3 (.int last)) 4 (.int ((T.pl.getD v 0 + 1:Nat)))) 5 (.ref (47 + (J.length + (6 + G.length))))) T (G ++ [nL []] ++ K) N [] (fun _ h => h) hz rfl rfl rfl rfl rfl L hN hgi (Nat.zero_le _) rfl (by omega)
 haveI hit:az (.ref (47 + (J.length + (6 + o)))) (ht row a b (S.ps b X) J T (G ++ [nL []] ++ K)) = some (nV (LM b S)):=wI hgo
 haveI L1:=Tr.Len.kids (b:=b) (S:=S) (p:=T.pl.getD v 0 + 1) (last:=last) (LM b S) L
 refine ⟨G',?_,by rw [q2]; rfl,?_,fun j hj => ?_⟩
 ·rw [uG]
  haveI ad:aQ .Add ((T.pl.getD v 0:Nat):Int) 1 = some ((T.pl.getD v 0 + 1:Nat):Int):=by rw [kU]; rfl
  refine ae (am (aL (fA (loc rfl) Bx BX (by omega) (by omega) (loc rfl)) aH ad)) ?_
  refine ae (am (C3 aG)) ?_
  refine ae (br (aM (ar (loc rfl) aG) r1) hit lp) ?_
  haveI f0:=q1 0 (by omega)
  haveI f2:=q1 2 (by omega)
  haveI f5:=q1 5 (by omega)
  haveI l5:=L1.ch
  haveI st:cy (.ref (47 + (J.length + 5))) (.int v) (.ref (47 + (J.length + (6 + G.length)))) (ht row a b (S.ps b X) J (T.kids b S (T.pl.getD v 0 + 1) last (LM b S)) G') = some (ht row a b (S.ps b X) J (T.opened b S v last G.length) G'):=by
   unfold cy
   simp only [zJ]
   rw [if_pos ⟨by omega,by omega,by rw [List.length_map]; omega⟩,Int.toNat_natCast]
   haveI e1:((T.kids b S (T.pl.getD v 0 + 1) last (LM b S)).ch.map (CP J.length)).set v (.ref (47 + (J.length + (6 + G.length)))) = ((T.kids b S (T.pl.getD v 0 + 1) last (LM b S)).ch.set v (some (G.length,List.range' N (LM b S).length))).map (CP J.length):=by rw [List.map_set]; rfl
   rw [e1,E2]
   unfold Tr.opened
   rw [hmv]
  exact ae (gT (loc f5) (cn (loc f0) Bm) (loc f2) st) rfl
 ·rw [List.length_append,List.length_append] at q3; omega
 ·rw [q4 j (by omega) (by rw [List.length_append,List.length_append]; omega),List.append_assoc,List.getElem?_append_left hj]
structure Gd (b:B3) (T:Tr) (G:H) (N:Nat):Prop where
 len:T.Len N
 kid:∀ (v i:Nat) (cs:List Nat) (S:St),T.ch[v]? = some (some (i,cs)) → T.st[v]? = some S → G[i]? = some (nL cs) ∧ cs.length ≤ 1000 ∧ ∀ c ∈ cs,c < N ∧ T.mv.getD c 0 ∈ LM b S ∧ T.st[c]? = some (DO S (T.mv.getD c 0))
 wf:∀ (v:Nat) (S:St),T.st[v]? = some S → WF b S
inductive vk (T:Tr):Nat → List Nat → Prop
 | leaf (v:Nat) (h:T.ch[v]? = some none):vk T v [v]
 | node (v i:Nat) (cs p:List Nat) (h:T.ch[v]? = some (some (i,cs))) (hne:cs ≠ []) (hp:vk T (T.sel v cs) p):vk T v (v :: p)
theorem qk {l:List Nat} {c0:Nat} {f:Nat → Nat → Bool}:∀ (cs:List Nat) (c:Nat),c ∈ l → (∀ x ∈ cs,x ∈ l) → cs.foldl (fun c x => if f c x then x else c) c ∈ l
 | [],c,hc,_ => hc
 | x :: cs,c,hc,hx => by
  rw [List.foldl_cons]
  refine qk (c0:=c0) cs _ ?_ fun y hy => hx y (.tail _ hy)
  split
  ·exact hx x (.head _)
  ·exact hc
theorem rN {v:Nat} {cs:List Nat} (hne:cs ≠ []):T.sel v cs ∈ cs:=by
 obtain ⟨c,l,rfl⟩:∃ c l,cs = c :: l:=by cases cs with | nil => exact absurd rfl hne | cons c l => exact ⟨c,l,rfl⟩
 haveI:=qk (l:=c :: l) (c0:=0) (f:=fun c x => decide ((T.nums v).getD x 0 < (T.nums v).getD c 0)) (c :: l) c (.head _) fun _ h => h
 unfold Tr.sel
 simpa only [decide_eq_true_eq,List.headD_cons] using this
noncomputable def Und (row:List Int) (a:Int) (b:B3):Nat → St → dL → St → dL → Prop
 | 0,S',X',S,X => S' = S ∧ X' = X
 | k + 1,S',X',S,X => ∃ S1 X1,xV row a b S1 S' X1 X' ∧ Und row a b k S1 X1 S X
theorem Und.push {S X S1 X1} (h:xV row a b S S1 X X1):∀ {k S' X'},Und row a b k S' X' S1 X1 → Und row a b (k + 1) S' X' S X
 | 0,_,_,⟨e1,e2⟩ => ⟨S,X,by rw [e1,e2]; exact h,rfl,rfl⟩
 | _ + 1,_,_,⟨S2,X2,q,r⟩ => ⟨S2,X2,q,r.push h⟩
noncomputable abbrev gC (n:Nat):Tx:=ax .IsNot (av (ai (aa 0) "children") (av (aa 3) (ao .Sub (af (run ah n) "len" [(aa 3)]) (ac (.int 1))))) (ac .none)
noncomputable abbrev gB (n:Nat):Sx:=ag [aj 4 (af (run ah n) "select_child" [(aa 0),(av (aa 3) (ao .Sub (af (run ah n) "len" [(aa 3)]) (ac (.int 1))))]),au (af (run ah n) "do_move" [(aa 1),(av (ai (aa 0) "moves") (aa 4))]),au (aZ (run ah n) (aa 3) "append" [(aa 4)])]
theorem vm {P:PS} {q v n:Nat} {pre:List Nat} {f:Fm} (f3:f 3 = some (.ref (47 + (J.length + (6 + q))))) (hq:G[q]? = some (nL (pre ++ [v]))) (hl:pre.length ≤ 900) :
  av (aa 3) (ao .Sub (af (run ah (n + 1)) "len" [(aa 3)]) (ac (.int 1))) f (ht row a b P J T G) = some (.int v,ht row a b P J T G):=by
 haveI ln:=kT row a (b:=b) (P:=P) (J ++ (tT J.length T ++ G)) (o:=J.length + (6 + q)) (l:=(pre ++ [v]).map fun (n:Nat) => V.int n)
  (by rw [← eM row a b P (J ++ (tT J.length T ++ G)),← Da,uM,hq]; rfl) (by simp; omega) n
 haveI ln:run ah (n + 1) "len" [.ref (47 + (J.length + (6 + q)))] (ht row a b P J T G) = _:=ln
 haveI e:=dG (s:=pre.length) ((uM (row:=row) (a:=a) (b:=b) (P:=P) (J:=J) (T:=T) q).trans hq) (by simp) (by simp; omega)
 haveI e2:(pre ++ [v]).getD pre.length 0 = v:=by simp
 rw [e2] at e
 refine aW (loc f3) (aL (aM (ar (loc f3) aG) ln) aH (d:=(pre.length:Int)) ?_) e
 rw [d9]
 congr 1
 simp
theorem Fk {P:PS} {q v n:Nat} {pre:List Nat} {f:Fm} {x:Option (Nat × List Nat)} (f0:f 0 = some (.ref (47 + J.length))) (f3:f 3 = some (.ref (47 + (J.length + (6 + q))))) (hq:G[q]? = some (nL (pre ++ [v]))) (hl:pre.length ≤ 900) (hN:T.ch.length ≤ 1000) (hx:T.ch[v]? = some x) :
  gC (n + 1) f (ht row a b P J T G) = some (x.isSome,ht row a b P J T G):=by
 have hv:=(List.getElem?_eq_some_iff.mp hx).1
 have e:av (ai (aa 0) "children") (av (aa 3) (ao .Sub (af (run ah (n + 1)) "len" [(aa 3)]) (ac (.int 1)))) f (ht row a b P J T G) = some (CP J.length x,ht row a b P J T G):=by
  refine aW (cn (loc f0) Bm) (vm f3 hq hl) ?_
  rw [mu zJ (by omega) (by omega),Int.toNat_natCast,List.getElem?_map,hx]
  rfl
 refine aq e aH ?_
 cases x <;> rfl
inductive HA (row:List Int) (a:Int) (b:B3) (J:H) (T:Tr) (n q k:Nat) (p pre:List Nat) (f:Fm) (G:H) (S:St) (X:dL):Prop
 | mk (f':Fm) (G':H) (S':St) (X':dL) (r:bM (gC (n + 4)) (gB (n + 4)) k f (ht row a b (S.ps b X) J T G) = some (.next,f',ht row a b (S'.ps b X') J T G')) (z1:∀ j,j < 4 → f' j = f j) (z2:G'[q]? = some (nL (pre ++ p))) (z3:G'.length = G.length) (z4:∀ j,j ≠ q → G'[j]? = G[j]?) (z5:T.st[p.getLastD 0]? = some S') (z6:X'.hist.length ≤ 880) (z7:Und row a b (p.length - 1) S' X' S X) (z8:T.ch[p.getLastD 0]? = some none)
theorem yt {N:Nat} (hN:N ≤ 1000) {q:Nat} (n:Nat):∀ (p:List Nat) (v:Nat),vk T v p → ∀ (f:Fm) (G:H) (pre:List Nat) (S:St) (X:dL) (k:Nat),Gd b T G N → (∀ (u i:Nat) (cs:List Nat),T.ch[u]? = some (some (i,cs)) → i ≠ q) → p.length ≤ k → X.hist.length + p.length ≤ 880 → pre.length + p.length ≤ 900 → T.st[v]? = some S →
  f 0 = some (.ref (47 + J.length)) → f 1 = some (.ref 42) → f 3 = some (.ref (47 + (J.length + (6 + q)))) → G[q]? = some (nL (pre ++ [v])) →
  HA row a b J T n q k p pre f G S X:=by
 intro p v hp
 induction hp with
 | leaf v h =>
  intro f G pre S X k gd _ hk hz hl hs f0 f1 f3 hq
  obtain ⟨k,rfl⟩:∃ k',k = k' + 1:=⟨k - 1,by simp at hk; omega⟩
  simp at hz hl
  exact ⟨f,G,S,X,jS (Fk f0 f3 hq (by omega) (by rw [gd.len.ch]; exact hN) h),fun _ _ => rfl,hq,rfl,fun _ _ => rfl,hs,by omega,⟨rfl,rfl⟩,h⟩
 | node v i cs p h hne hp ih =>
  intro f G pre S X k gd hiq hk hz hl hs f0 f1 f3 hq
  rw [List.length_cons] at hk hz hl
  obtain ⟨k,rfl⟩:∃ k',k = k' + 1:=⟨k - 1,by omega⟩
  obtain ⟨g1,g2,g3⟩:=gd.kid v i cs S h hs
  haveI hsel:=rN (T:=T) (v:=v) hne
  obtain ⟨c1,c2,c3⟩:=g3 _ hsel
  have L:=gd.len
  haveI lmv:=L.mv
  haveI lch:=L.ch
  haveI hv:v < N:=by haveI:=(List.getElem?_eq_some_iff.mp h).1; omega
  haveI W:=gd.wf v S hs
  haveI sl:=AN (row:=row) (a:=a) (b:=b) (P:=S.ps b X) (J:=J) L hN hv h g1 g2 (fun c hc => (g3 c hc).1) hne (n + 3)
  obtain ⟨X1,d1,bk⟩:=sM row a W c2 (X:=X) (by omega) n (J ++ (tT J.length T ++ G))
  haveI hX1:=bk.1
  haveI hql:=cj hq
  haveI ap:au (aZ (run ah (n + 4)) (aa 3) "append" [(aa 4)]) (upd f 4 (.int (T.sel v cs))) (ht row a b ((DO S (T.mv.getD (T.sel v cs) 0)).ps b X1) J T G) = some (.next,upd f 4 (.int (T.sel v cs)),ht row a b ((DO S (T.mv.getD (T.sel v cs) 0)).ps b X1) J T (G.set q (nL (pre ++ [v] ++ [T.sel v cs])))):=by
   haveI hq2:(ht row a b ((DO S (T.mv.getD (T.sel v cs) 0)).ps b X1) J T G)[47 + (J.length + (6 + q))]? = some (nL (pre ++ [v])):=(uM q).trans hq
   haveI z:=fQ (g:=run ah (n + 4)) (f:=upd f 4 (.int (T.sel v cs))) (e:=aa 3) (e':=aa 4) (loc f3) hq2 (loc rfl) hq2 (by rw [List.length_map]; simp; omega)
   haveI e1:(MO.list ((pre ++ [v]).map (fun (n:Nat) => V.int n) ++ [.int (T.sel v cs)])) = nL (pre ++ [v] ++ [T.sel v cs]):=by unfold nL; rw [List.map_append (l₁:=pre ++ [v])]; rfl
   rw [e1,HQ] at z
   exact aD z rfl
  haveI body:gB (n + 4) f (ht row a b (S.ps b X) J T G) = some (.next,upd f 4 (.int (T.sel v cs)),ht row a b ((DO S (T.mv.getD (T.sel v cs) 0)).ps b X1) J T (G.set q (nL (pre ++ [v] ++ [T.sel v cs])))):=
   ak (am (aM (ar (loc f0) (ar (vm f3 hq (by omega)) aG)) sl)) (ak (aD (aM (ar (loc f1) (ar (fA (loc f0) yR Em (by omega) (by omega) (loc rfl)) aG)) d1) rfl) (ak ap rfl))
  haveI gd':Gd b T (G.set q (nL (pre ++ [v] ++ [T.sel v cs]))) N:=⟨L,fun u i' cs' S' h1 h2 => by
   obtain ⟨z1,z2⟩:=gd.kid u i' cs' S' h1 h2
   exact ⟨by rw [List.getElem?_set_ne (Ne.symm (hiq u i' cs' h1))]; exact z1,z2⟩,gd.wf⟩
  obtain ⟨f',G',S',X',r,z1,z2,z3,z4,z5,z6,z7,z8⟩:=ih (upd f 4 (.int (T.sel v cs))) (G.set q (nL (pre ++ [v] ++ [T.sel v cs]))) (pre ++ [v]) _ X1 k gd' hiq (by omega) (by omega) (by simp; omega) c3 f0 f1 f3 (List.getElem?_set_self hql)
  haveI hpl:p ≠ []:=by cases hp <;> simp
  haveI hlast:(v :: p).getLastD 0 = p.getLastD 0:=by cases p with | nil => exact absurd rfl hpl | cons x l => rfl
  refine ⟨f',G',S',X',nR (Fk f0 f3 hq (by omega) (by omega) h) body r,fun j hj => (z1 j hj).trans (if_neg (by omega)),by rw [z2]; simp,by rw [z3,List.length_set],fun j hj => (z4 j hj).trans (List.getElem?_set_ne (Ne.symm hj)),by rw [hlast]; exact z5,z6,?_,by rw [hlast]; exact z8⟩
  haveI:=z7.push bk
  haveI e:(v :: p).length - 1 = p.length - 1 + 1:=by haveI:=List.length_pos_iff.mpr hpl; simp; omega
  rw [e]; exact this
end
end
section
open PySem
noncomputable def Tr.updv (T:Tr) (v:Nat):Tr:=match T.ch[v]? with
 | some (some (_,cs)) => T.upd v cs
 | _ => T
noncomputable def Tr.rise (T:Tr) (p:List Nat):Tr:=p.foldr (fun v T => T.updv v) T
noncomputable def Tr.grow (T:Tr) (b:B3) (S:St) (last i:Nat) (p:List Nat):Tr:=(T.opened b S (p.getLastD 0) last i).rise p
theorem EG (T:Tr) (v:Nat) (cs:List Nat):(T.upd v cs).ch = T.ch ∧ (T.upd v cs).mv = T.mv ∧ (T.upd v cs).pl = T.pl ∧ (T.upd v cs).st = T.st:=by
 unfold Tr.upd
 dsimp only
 split <;> exact ⟨rfl,rfl,rfl,rfl⟩
theorem jA (T:Tr) (v:Nat):(T.updv v).ch = T.ch ∧ (T.updv v).mv = T.mv ∧ (T.updv v).pl = T.pl ∧ (T.updv v).st = T.st:=by
 unfold Tr.updv
 split
 ·exact EG _ _ _
 ·exact ⟨rfl,rfl,rfl,rfl⟩
theorem Tr.Len.updv {T:Tr} {N:Nat} (L:T.Len N) (v:Nat):(T.updv v).Len N:=by
 unfold Tr.updv
 split
 ·exact L.upd _ _
 ·exact L
structure Old (T T':Tr) (N:Nat):Prop where
 mv:∀ v,v < N → T'.mv[v]? = T.mv[v]?
 pl:∀ v,v < N → T'.pl[v]? = T.pl[v]?
 pr:∀ v,v < N → T'.pr[v]? = T.pr[v]?
 dp:∀ v,v < N → T'.dp[v]? = T.dp[v]?
 ch:∀ v,v < N → T'.ch[v]? = T.ch[v]?
 st:∀ v,v < N → T'.st[v]? = T.st[v]?
theorem Al (T:Tr) (N:Nat):Old T T N:=⟨fun _ _ => rfl,fun _ _ => rfl,fun _ _ => rfl,fun _ _ => rfl,fun _ _ => rfl,fun _ _ => rfl⟩
theorem Old.trans {T T' T'':Tr} {N M:Nat} (h:Old T T' N) (h':Old T' T'' M) (hNM:N ≤ M):Old T T'' N:=
 ⟨fun v hv => (h'.mv v (by omega)).trans (h.mv v hv),fun v hv => (h'.pl v (by omega)).trans (h.pl v hv),fun v hv => (h'.pr v (by omega)).trans (h.pr v hv),fun v hv => (h'.dp v (by omega)).trans (h.dp v hv),fun v hv => (h'.ch v (by omega)).trans (h.ch v hv),fun v hv => (h'.st v (by omega)).trans (h.st v hv)⟩
theorem AU {T:Tr} {N:Nat} (L:T.Len N) (m p:Nat) (S:St):Old T (T.add m p S) N:=
 ⟨fun v hv => List.getElem?_append_left (by rw [L.mv]; exact hv),fun v hv => List.getElem?_append_left (by rw [L.pl]; exact hv),fun v hv => List.getElem?_append_left (by rw [L.pr]; exact hv),fun v hv => List.getElem?_append_left (by rw [L.dp]; exact hv),fun v hv => List.getElem?_append_left (by rw [L.ch]; exact hv),fun v hv => List.getElem?_append_left (by rw [L.st]; exact hv)⟩
theorem Cp {T T':Tr} {N:Nat} (h:Old T T' N) (v x y:Nat) (hv:N ≤ v):Old T (T'.put v x y) N:=
 ⟨h.mv,h.pl,fun u hu => (List.getElem?_set_ne (by omega)).trans (h.pr u hu),fun u hu => (List.getElem?_set_ne (by omega)).trans (h.dp u hu),h.ch,h.st⟩
theorem Bk {T:Tr} {N:Nat} (L:T.Len N) (b:B3) (S:St) (p last m:Nat):Old T (T.kid b S p last m) N:=by
 haveI h:=AU L m p (DO S m)
 unfold Tr.kid
 split
 ·split
  ·exact h
  ·split <;> exact Cp h _ _ _ (by rw [L.mv]; exact Nat.le_refl _)
 ·exact h
theorem ji {b:B3} {S:St} {p last:Nat}:∀ (ms:List Nat) {T:Tr} {N:Nat},T.Len N → Old T (T.kids b S p last ms) N
 | [],T,N,_ => Al T N
 | m :: ms,_,N,L => (Bk L b S p last m).trans (ji ms (L.kid b S p last m)) (Nat.le_succ N)
section
variable {row:List Int} {a:Int} {b:B3} {S:St} {X:dL} {J:H} {T:Tr} {G:H}
theorem pY (W:WF b S):(LM b S).length ≤ 200:=by
 refine Nat.le_trans (List.length_filter_le _ _) ?_
 haveI hF:=vb W (X:=⟨0,0,0,[]⟩)
 unfold c9
 split
 ·rw [if_pos rfl]
  unfold ft
  rw [List.length_append]
  haveI h1:=ew b (S.ps b ⟨0,0,0,[]⟩) hF (1 <<< vz (jm b (S.ps b ⟨0,0,0,[]⟩) S.king) ||| cJ b S.king (vz (jm b (S.ps b ⟨0,0,0,[]⟩) S.king))) [2,3,4,5]
  haveI h2:=hF (lJ b (S.ps b ⟨0,0,0,[]⟩) 2) 6
  simp only [List.length_cons,List.length_nil] at h1
  omega
 ·exact ew b (S.ps b ⟨0,0,0,[]⟩) hF _ [2,3,4,5,6]
noncomputable def Opn (T:Tr) (G:H) (N v:Nat):Prop:=v < N ∧ ∃ i cs,T.ch[v]? = some (some (i,cs)) ∧ G[i]? = some (nL cs) ∧ cs.length ≤ 1000 ∧ ∀ c ∈ cs,c < N
theorem Opn.keep {G':H} {T':Tr} {N v:Nat} (h:Opn T G N v) (hk:Keep G G') (ht:T'.ch = T.ch):Opn T' G' N v:=by
 obtain ⟨h1,i,cs,h2,h3,h4⟩:=h
 exact ⟨h1,i,cs,by rw [ht]; exact h2,hk.at h3,h4⟩
noncomputable abbrev uC:Tx:=ax .GtE (aa 5) (ac (.int 0))
noncomputable abbrev uB (n:Nat):Sx:=ag [au (af (run ah n) "update_node" [(aa 0),(av (aa 3) (aa 5))]),aU (ax .Gt (aa 5) (ac (.int 0))) (ag [au (af (run ah n) "undo_move" [(aa 1)])]) (ag []),aF 5 .Sub (ac (.int 1))]
theorem AE {N v:Nat} {P:PS} (L:T.Len N) (hN:N ≤ 1000) (ho:Opn T G N v) (n:Nat):∃ K,run ah (n + 2) "update_node" [.ref (47 + J.length),.int v] (ht row a b P J T G) = some (.none,ht row a b P J (T.updv v) (G ++ K)):=by
 obtain ⟨h1,i,cs,h2,h3,h4,h5⟩:=ho
 haveI e:T.updv v = T.upd v cs:=by unfold Tr.updv; rw [h2]
 rw [e]
 exact zn L hN h1 h2 h3 h4 h5 n
theorem BW {N:Nat} (hN:N ≤ 1000) {p:List Nat} (hpl:p.length ≤ 900) {q:Nat} {S0:St} {X0:dL} (n:Nat):∀ (k:Nat),k < p.length → ∀ (f:Fm) (T:Tr) (G:H) (S:St) (X:dL) (w:Nat),k + 2 ≤ w → f 0 = some (.ref (47 + J.length)) → f 1 = some (.ref 42) → f 3 = some (.ref (47 + (J.length + (6 + q)))) → f 5 = some (.int k) →
  T.Len N → (∀ v ∈ p,Opn T G N v) → G[q]? = some (nL p) → Und row a b k S X S0 X0 →
  ∃ f' G',bM uC (uB (n + 4)) w f (ht row a b (S.ps b X) J T G) = some (.next,f',ht row a b (S0.ps b X0) J (T.rise (p.take (k + 1))) G') ∧ Keep G G':=by
 intro k
 induction k with
 | zero =>
  intro hk f T G S X w hw f0 f1 f3 f5 L ho hq hu
  obtain ⟨rfl,rfl⟩:=hu
  obtain ⟨w,rfl⟩:∃ w',w = w' + 1 + 1:=⟨w - 2,by omega⟩
  haveI e:p.getD 0 0 ∈ p:=by rw [List.getD_eq_getElem?_getD,List.getElem?_eq_getElem hk]; exact List.getElem_mem hk
  obtain ⟨K,u⟩:=AE (row:=row) (a:=a) (b:=b) (P:=S.ps b X) (J:=J) L hN (ho _ e) (n + 2)
  refine ⟨Mine.upd f 5 (.int (-1)),G ++ K,?_,Keep.app _ _⟩
  haveI et:T.rise (p.take (0 + 1)) = T.updv (p.getD 0 0):=by
   cases p with
   | nil => exact absurd hk (by simp)
   | cons x l => rfl
  rw [et]
  haveI g:av (aa 3) (aa 5) f (ht row a b (S.ps b X) J T G) = some (.int (p.getD 0 0),ht row a b (S.ps b X) J T G):=wM (v:=0) (loc f3) ((uM q).trans hq) hk (by omega) (loc f5)
  exact nR (aq (loc f5) aH rfl) (ak (aD (aM (ar (loc f0) (ar g aG)) u) rfl) (ak (aI (aq (loc f5) aH rfl)) (ak (ca f5 aH (d9 _ _)) rfl))) (jS (aq (loc rfl) aH rfl))
 | succ k ih =>
  intro hk f T G S X w hw f0 f1 f3 f5 L ho hq hu
  obtain ⟨S1,X1,bk,hu⟩:=hu
  obtain ⟨w,rfl⟩:∃ w',w = w' + 1:=⟨w - 1,by omega⟩
  haveI e:p.getD (k + 1) 0 ∈ p:=by rw [List.getD_eq_getElem?_getD,List.getElem?_eq_getElem hk]; exact List.getElem_mem hk
  obtain ⟨K,u⟩:=AE (row:=row) (a:=a) (b:=b) (P:=S.ps b X) (J:=J) L hN (ho _ e) (n + 2)
  haveI un:=bk.2 n (J ++ (tT J.length (T.updv (p.getD (k + 1) 0)) ++ (G ++ K)))
  haveI hc:=(jA T (p.getD (k + 1) 0)).1
  obtain ⟨f',G',r,hk'⟩:=ih (by omega) (Mine.upd f 5 (.int k)) (T.updv (p.getD (k + 1) 0)) (G ++ K) S1 X1 w (by omega) f0 f1 f3 rfl (L.updv _) (fun v hv => (ho v hv).keep (Keep.app G K) hc) (up _ hq) hu
  refine ⟨f',G',?_,(Keep.app G K).trans hk'⟩
  haveI et:T.rise (p.take (k + 1 + 1)) = (T.updv (p.getD (k + 1) 0)).rise (p.take (k + 1)):=by
   unfold Tr.rise
   rw [List.take_succ_eq_append_getElem hk,List.foldr_append]
   show List.foldr _ (T.updv p[k + 1]) _ = _
   rw [List.getD_eq_getElem?_getD,List.getElem?_eq_getElem hk]
   rfl
  rw [et]
  haveI g:av (aa 3) (aa 5) f (ht row a b (S.ps b X) J T G) = some (.int (p.getD (k + 1) 0),ht row a b (S.ps b X) J T G):=wM (v:=k + 1) (loc f3) ((uM q).trans hq) hk (by omega) (loc f5)
  haveI c1:uC f (ht row a b (S.ps b X) J T G) = some (true,ht row a b (S.ps b X) J T G):=aq (loc f5) aH ((AL _ _ _).trans (congrArg some (decide_eq_true (by omega))))
  haveI c2:ax .Gt (aa 5) (ac (.int 0)) f (ht row a b (S.ps b X) J (T.updv (p.getD (k + 1) 0)) (G ++ K)) = some (true,_):=aq (loc f5) aH ((ui _ _ _).trans (congrArg some (decide_eq_true (by omega))))
  exact nR c1 (ak (aD (aM (ar (loc f0) (ar g aG)) u) rfl) (ak (aT c2 (ak (aD (aM (ar (loc f1) aG) un) rfl) rfl)) (ak (ca f5 aH (by rw [d9]; congr 1; omega)) rfl))) r
theorem BA {v:Nat} {p:List Nat} (h:vk T v p):∀ u ∈ p,u = p.getLastD 0 ∨ ∃ i cs,T.ch[u]? = some (some (i,cs)):=by
 induction h with
 | leaf v h => intro u hu; left; simp at hu; rw [hu]; rfl
 | node v i cs p h hne hp ih =>
  intro u hu
  have hpl:p ≠ []:=by cases hp <;> simp
  have hlast:(v :: p).getLastD 0 = p.getLastD 0:=by cases p with | nil => exact absurd rfl hpl | cons x l => rfl
  rw [hlast]
  rcases List.mem_cons.mp hu with rfl | hu
  ·exact .inr ⟨i,cs,h⟩
  ·exact ih u hu
theorem Eo {N:Nat} (hN:N ≤ 800) (gd:Gd b T G N) {p:List Nat} (hp:vk T 0 p) (h0:T.st[0]? = some S) (hpl:p.length ≤ 20) (hz:X.hist.length + p.length ≤ 880) (last n:Nat) :
  ∃ S' G',T.st[p.getLastD 0]? = some S' ∧ run ah (n + 23) "grow_once" [.ref (47 + J.length),.ref 42,.int last] (ht row a b (S.ps b X) J T G) = some (.none,ht row a b (S.ps b X) J (T.grow b S' last (G.length + 1) p) G') ∧
   G'[G.length + 1]? = some (nL (List.range' N (LM b S').length)) ∧ Keep G G' ∧ T.ch[p.getLastD 0]? = some none:=by
 refine FW fun Z hZ => ?_
 have L:=gd.len
 haveI hst:∀ u x,T.ch[u]? = some x → ∃ S,T.st[u]? = some S:=fun u x h => by
  haveI hu:=(List.getElem?_eq_some_iff.mp h).1
  rw [L.ch,← L.st] at hu
  exact ⟨_,List.getElem?_eq_getElem hu⟩
 haveI hiq:∀ (u i:Nat) (cs:List Nat),T.ch[u]? = some (some (i,cs)) → i ≠ G.length:=fun u i cs h => by
  obtain ⟨S,hS⟩:=hst u _ h
  haveI:=cj (gd.kid u i cs S h hS).1
  omega
 haveI gd1:Gd b T (G ++ [nL [0]]) N:=⟨L,fun v i cs S h1 h2 => by
  obtain ⟨z1,z2⟩:=gd.kid v i cs S h1 h2
  exact ⟨up _ z1,z2⟩,gd.wf⟩
 obtain ⟨f',G1,S',X',r1,q1,q2,q3,q4,q5,q6,q7,q8⟩:=yt (row:=row) (a:=a) (J:=J) (by omega:N ≤ 1000) (q:=G.length) (n + 18) p 0 hp (upd (upd (upd (upd nf 0 (.ref (47 + J.length))) 1 (.ref 42)) 2 (.int last)) 3 (.ref (47 + (J.length + (6 + G.length)))))
  (G ++ [nL [0]]) [] S X (n + 22) gd1 hiq (by omega) hz (by simp; omega) h0 rfl rfl rfl (bK G)
 have hne:p ≠ []:=by cases hp <;> simp
 haveI ep:p = p.dropLast ++ [p.getLastD 0]:=by
  haveI:=List.dropLast_concat_getLast hne
  rw [List.getLastD_eq_getLast?,List.getLast?_eq_some_getLast hne]; exact this.symm
 haveI hv:p.getLastD 0 < N:=by haveI:=(List.getElem?_eq_some_iff.mp q8).1; rw [L.ch] at this; exact this
 haveI W':=gd.wf _ _ q5
 haveI lm:=pY W'
 haveI hG1:G1.length = G.length + 1:=by rw [q3]; simp
 rw [List.nil_append] at q2
 obtain ⟨G2,r2,o1,o2⟩:=Eb (row:=row) (a:=a) (J:=J) (T:=T) (G:=G1) W' L hv (by omega) (X:=X') (by omega) last n
 rw [hG1] at r2 o1
 haveI kG:Keep G G1:=⟨by omega,fun j hj => (q4 j (by omega)).trans (List.getElem?_append_left hj)⟩
 haveI L2:(T.opened b S' (p.getLastD 0) last (G.length + 1)).Len (N + (LM b S').length):=by
  have:=Tr.Len.kids (b:=b) (S:=S') (p:=T.pl.getD (p.getLastD 0) 0 + 1) (last:=last) (LM b S') L
  exact ⟨this.mv,this.pl,this.pr,this.dp,by show (List.set _ _ _).length = _; rw [List.length_set]; exact this.ch,this.st⟩
 haveI hopn:∀ v ∈ p,Opn (T.opened b S' (p.getLastD 0) last (G.length + 1)) G2 (N + (LM b S').length) v:=fun v hvp => by
  haveI old:=ji (b:=b) (S:=S') (p:=T.pl.getD (p.getLastD 0) 0 + 1) (last:=last) (LM b S') L
  by_cases hvl:v = p.getLastD 0
  ·refine ⟨by omega,G.length + 1,_,?_,o1,by simp; omega,fun c hc => ?_⟩
   ·show (List.set _ _ _)[v]? = _
    rw [hvl,L.mv]
    haveI l5:=(Tr.Len.kids (b:=b) (S:=S') (p:=T.pl.getD (p.getLastD 0) 0 + 1) (last:=last) (LM b S') L).ch
    exact List.getElem?_set_self (by omega)
   ·haveI:=List.mem_range'_1.mp hc; omega
  ·rcases BA hp v hvp with h | ⟨i,cs,h⟩
   ·exact absurd h hvl
   ·haveI hvN:=(List.getElem?_eq_some_iff.mp h).1
    rw [L.ch] at hvN
    obtain ⟨Sv,hSv⟩:=hst v _ h
    obtain ⟨z1,z2,z3⟩:=gd.kid v i cs Sv h hSv
    refine ⟨by omega,i,cs,?_,o2.at (kG.at z1),z2,fun c hc => by haveI:=(z3 c hc).1; omega⟩
    show (List.set _ _ _)[v]? = _
    rw [List.getElem?_set_ne (Ne.symm hvl),old.ch v hvN]
    exact h
 haveI hlen:p.length - 1 + 1 = p.length:=by haveI:=List.length_pos_iff.mpr hne; omega
 obtain ⟨f'',G3,r3,k3⟩:=BW (row:=row) (a:=a) (b:=b) (J:=J) (by omega:N + (LM b S').length ≤ 1000) (by omega:p.length ≤ 900) (q:=G.length) (S0:=S) (X0:=X) (n + 18) (p.length - 1) (by omega) (upd f' 5 (.int ((p.length - 1:Nat)))) _ G2 S' X' (n + 22) (by omega)
  (q1 0 (by omega)) (q1 1 (by omega)) (q1 3 (by omega)) rfl L2 hopn (o2.at q2) q7
 rw [hlen,List.take_length] at r3
 refine hZ S' G3 ⟨q5,?_,k3.at o1,(kG.trans o2).trans k3,q8⟩
 rw [ty]
 haveI f3:f' 3 = some (.ref (47 + (J.length + (6 + G.length)))):=q1 3 (by omega)
 refine ae (am (C3 (ar (aH (v:=.int 0)) aG))) (ae r1 ?_)
 haveI hlast:=vm (row:=row) (a:=a) (b:=b) (T:=T) (J:=J) (P:=S'.ps b X') (n:=n + 21) f3 (by rw [← ep]; exact q2) (by simp; omega)
 refine ae (aD (aM (ar (loc (q1 0 (by omega))) (ar (loc (q1 1 (by omega))) (ar hlast (ar (loc (q1 2 (by omega))) aG)))) r2) rfl) ?_
 haveI ln:=kT row a (b:=b) (P:=S'.ps b X') (J ++ (tT J.length (T.opened b S' (p.getLastD 0) last (G.length + 1)) ++ G2)) (o:=J.length + (6 + G.length)) (l:=p.map fun (n:Nat) => V.int n)
  (by rw [← eM row a b (S'.ps b X'),← Da,uM,o2.at q2]; rfl) (by simp; omega) (n + 21)
 haveI ln:run ah (n + 22) "len" [.ref (47 + (J.length + (6 + G.length)))] (ht row a b (S'.ps b X') J (T.opened b S' (p.getLastD 0) last (G.length + 1)) G2) = _:=ln
 refine ae (am (aL (aM (ar (loc f3) aG) ln) aH (d:=((p.length - 1:Nat):Int)) ?_)) (ae r3 rfl)
 rw [d9,List.length_map]
 congr 1
 haveI:=List.length_pos_iff.mpr hne
 omega
end
end
section
open PySem
theorem nr:∀ (l:List Nat) (a:Nat),l.foldl (fun a x => if x < a then x else a) a ≤ a ∧ (∀ x ∈ l,l.foldl (fun a x => if x < a then x else a) a ≤ x) ∧ (l.foldl (fun a x => if x < a then x else a) a = a ∨ l.foldl (fun a x => if x < a then x else a) a ∈ l)
 | [],a => ⟨Nat.le_refl _,fun _ h => (nomatch h),.inl rfl⟩
 | y :: l,a => by
  obtain ⟨h1,h2,h3⟩:=nr l (if y < a then y else a)
  rw [List.foldl_cons]
  have q:(if y < a then y else a) ≤ a ∧ (if y < a then y else a) ≤ y:=by split <;> omega
  refine ⟨Nat.le_trans h1 q.1,fun x hx => ?_,?_⟩
  ·rcases List.mem_cons.mp hx with rfl | hx
   ·exact Nat.le_trans h1 q.2
   ·exact h2 x hx
  ·rcases h3 with h3 | h3
   ·rw [h3]
    split
    ·exact .inr (.head _)
    ·exact .inl rfl
   ·exact .inr (.tail _ h3)
theorem jb:∀ (l:List Nat) (a:Nat),l.foldl (fun s x => s + x) a = a + l.foldl (fun s x => s + x) 0
 | [],a => rfl
 | y :: l,a => by rw [List.foldl_cons,jb l,List.foldl_cons,jb l (0 + y)]; omega
section
variable {cs:List Nat} {x y:Nat → Nat} {B:Nat}
theorem qF:∀ {cs:List Nat} {c:Nat},c ∈ cs → y c ≤ (cs.map y).foldl (fun s x => s + x) 0
 | d :: cs,c,h => by
  rw [List.map_cons,List.foldl_cons,jb]
  rcases List.mem_cons.mp h with rfl | h
  ·omega
  ·have:=qF h; omega
theorem qI:∀ {cs:List Nat},(∀ c ∈ cs,y c ≤ B) → (cs.map y).foldl (fun s x => s + x) 0 ≤ cs.length * B
 | [],_ => Nat.zero_le _
 | d :: cs,h => by
  rw [List.map_cons,List.foldl_cons,jb,List.length_cons,Nat.succ_mul]
  haveI:=qI fun c hc => h c (.tail d hc)
  haveI:=h d (.head _)
  omega
noncomputable def Knd (B x y:Nat):Prop:=(x = 0 ∧ y = ff) ∨ (x = ff ∧ y = 0) ∨ (1 ≤ x ∧ x ≤ B ∧ 1 ≤ y ∧ y ≤ B)
theorem Knd.swap {x y:Nat} (h:Knd B x y):Knd B y x:=by
 rcases h with h | h | h
 ·exact .inr (.inl ⟨h.2,h.1⟩)
 ·exact .inl ⟨h.2,h.1⟩
 ·exact .inr (.inr ⟨h.2.2.1,h.2.2.2,h.1,h.2.1⟩)
theorem Hy (l:List Nat):(fL l).1 ≤ ff ∧ (∀ x ∈ l,(fL l).1 ≤ x) ∧ ((fL l).1 = ff ∨ (fL l).1 ∈ l):=nr l ff
theorem wN (h:(fL (cs.map x)).1 = 0):∃ c ∈ cs,x c = 0:=by
 obtain ⟨_,_,h3⟩:=Hy (cs.map x)
 rw [h] at h3
 rcases h3 with h3 | h3
 ·cases h3
 ·obtain ⟨c,hc,e⟩:=List.mem_map.mp h3
  exact ⟨c,hc,e⟩
theorem sR (h:(fL (cs.map y)).2 = 0):∀ c ∈ cs,y c = 0:=fun c hc => by
 haveI h1:=qF (y:=y) hc
 haveI h:min ff ((cs.map y).foldl (fun s x => s + x) 0) = 0:=h
 unfold ff at h
 omega
theorem FH (hB:1000 * B < ff) (hl:cs.length ≤ 1000) (hk:∀ c ∈ cs,Knd B (x c) (y c)):Knd (1000 * B) (fL (cs.map x)).1 (fL (cs.map y)).2:=by
 obtain ⟨h1,h2,h3⟩:=Hy (cs.map x)
 have e2:(fL (cs.map y)).2 = min ff ((cs.map y).foldl (fun s x => s + x) 0):=rfl
 haveI hI:ff = 1073741824:=rfl
 by_cases hP:∃ c ∈ cs,x c = 0
 ·obtain ⟨c,hc,h0⟩:=hP
  left
  haveI:=h2 (x c) (List.mem_map.mpr ⟨c,hc,rfl⟩)
  haveI hy:y c = ff:=by
   rcases hk c hc with h | h | h
   ·exact h.2
   ·omega
   ·omega
  haveI:=qF (y:=y) hc
  refine ⟨by omega,?_⟩
  rw [e2]; omega
 ·have hx:∀ c ∈ cs,x c ≠ 0:=fun c hc h => hP ⟨c,hc,h⟩
  by_cases hU:∃ c ∈ cs,y c ≠ 0
  ·right; right
   obtain ⟨c,hc,h0⟩:=hU
   haveI:=hx c hc
   haveI hu:=hk c hc
   haveI le:=h2 (x c) (List.mem_map.mpr ⟨c,hc,rfl⟩)
   haveI:=qF (y:=y) hc
   haveI sl:=qI (y:=y) (B:=B) (cs:=cs) fun d hd => by
    haveI:=hx d hd
    rcases hk d hd with h | h | h <;> omega
   haveI:cs.length * B ≤ 1000 * B:=Nat.mul_le_mul_right _ hl
   haveI hA:(fL (cs.map x)).1 ≠ 0:=by
    rcases h3 with h3 | h3
    ·omega
    ·obtain ⟨d,hd,e⟩:=List.mem_map.mp h3
     haveI:=hx d hd; omega
   unfold Knd at hu
   rw [e2]
   refine ⟨by omega,by omega,by omega,by omega⟩
  ·right; left
   have hy:∀ c ∈ cs,y c = 0:=fun c hc => Classical.byContradiction fun h => hU ⟨c,hc,h⟩
   haveI sl:=qI (y:=y) (B:=0) (cs:=cs) fun c hc => by rw [hy c hc]; exact Nat.le_refl 0
   refine ⟨?_,by rw [e2]; omega⟩
   rcases h3 with h3 | h3
   ·exact h3
   ·obtain ⟨d,hd,e⟩:=List.mem_map.mp h3
    haveI:=hx d hd
    haveI:=hy d hd
    rcases hk d hd with h | h | h <;> omega
theorem Ar {f:Nat → Nat}:∀ (cs:List Nat) (c:Nat),f (cs.foldl (fun c x => if f x < f c then x else c) c) ≤ f c ∧ ∀ d ∈ cs,f (cs.foldl (fun c x => if f x < f c then x else c) c) ≤ f d
 | [],c => ⟨Nat.le_refl _,fun _ h => (nomatch h)⟩
 | d :: cs,c => by
  rw [List.foldl_cons]
  obtain ⟨h1,h2⟩:=Ar (f:=f) cs (if f d < f c then d else c)
  have:f (if f d < f c then d else c) ≤ f d ∧ f (if f d < f c then d else c) ≤ f c:=by split <;> omega
  refine ⟨by omega,fun e he => ?_⟩
  rcases List.mem_cons.mp he with rfl | he
  ·omega
  ·exact h2 e he
theorem Ac (hB:1000 * B < ff) (hk:∀ c ∈ cs,Knd B (x c) (y c)) (hA:(fL (cs.map x)).1 ≠ 0) (hS:(fL (cs.map y)).2 ≠ 0) {r:Nat} (hr:r ∈ cs) (hm:∀ d ∈ cs,x r ≤ x d):x r ≠ 0 ∧ y r ≠ 0:=by
 have hI:ff = 1073741824:=rfl
 obtain ⟨h1,h2,h3⟩:=Hy (cs.map x)
 refine ⟨fun h => ?_,fun h => hS ?_⟩
 ·have:=h2 (x r) (List.mem_map.mpr ⟨r,hr,rfl⟩); omega
 ·have hxr:x r = ff:=by
   rcases hk r hr with q | q | q <;> omega
  have hy:∀ c ∈ cs,y c = 0:=fun c hc => by
   have:=hm c hc
   rcases hk c hc with q | q | q <;> omega
  have sl:=qI (y:=y) (B:=0) (cs:=cs) fun c hc => by rw [hy c hc]; exact Nat.le_refl 0
  show min ff ((cs.map y).foldl (fun s x => s + x) 0) = 0
  omega
end
end
section
open PySem
noncomputable def Wn (b:B3):Nat → St → Prop
 | 0,S => MT b S = true
 | r + 1,S => if r % 2 = 0 then ∃ m ∈ LM b S,Wn b r (DO S m) else MT b S = true ∨ (LM b S ≠ [] ∧ ∀ m ∈ LM b S,Wn b r (DO S m))
noncomputable def Tr.x (T:Tr) (v:Nat):Nat:=T.pr.getD v 0
noncomputable def Tr.y (T:Tr) (v:Nat):Nat:=T.dp.getD v 0
noncomputable def Tr.p (T:Tr) (v:Nat):Nat:=T.pl.getD v 0
noncomputable def Tr.m (T:Tr) (v:Nat):Nat:=T.mv.getD v 0
structure Ivs (b:B3) (S0:St) (last:Nat) (T:Tr) (N:Nat) (E:Nat → Prop):Prop where
 len:T.Len N
 n0:0 < N
 st0:T.st[0]? = some S0
 pl0:T.p 0 = 0
 wf:∀ (v:Nat) (S:St),T.st[v]? = some S → WF b S
 pll:∀ v,v < N → T.p v ≤ last
 kid:∀ (v i:Nat) (cs:List Nat) (S:St),T.ch[v]? = some (some (i,cs)) → T.st[v]? = some S → T.p v < last ∧ cs.map T.m = LM b S ∧ ∀ c ∈ cs,v < c ∧ c < N ∧ T.p c = T.p v + 1 ∧ T.st[c]? = some (DO S (T.m c))
 one:∀ (u v i j:Nat) (cs ds:List Nat) (c:Nat),T.ch[u]? = some (some (i,cs)) → T.ch[v]? = some (some (j,ds)) → c ∈ cs → c ∈ ds → u = v
 odd:∀ (v i:Nat) (cs:List Nat),T.ch[v]? = some (some (i,cs)) → T.p v % 2 = 1 → cs ≠ []
 num:∀ v,v < N → Knd (1000 ^ (last - T.p v)) (T.x v) (T.y v)
 won:∀ (v:Nat) (S:St),T.st[v]? = some S → T.x v = 0 → Wn b (last - T.p v) S
 leaf:∀ (v:Nat) (S:St),T.ch[v]? = some none → T.st[v]? = some S → (T.p v = last → T.x v = 0 ∨ T.y v = 0) ∧ (T.p v % 2 = 0 → T.x v = 1 ∧ T.y v = 1) ∧ (T.p v % 2 = 1 → T.x v ≠ 0 → T.y v ≠ 0 → LM b S ≠ [])
 cons:∀ (v i:Nat) (cs:List Nat),T.ch[v]? = some (some (i,cs)) → ¬ E v → if T.p v % 2 = 0 then T.x v = (fL (cs.map T.x)).1 ∧ T.y v = (fL (cs.map T.y)).2 else T.x v = (fL (cs.map T.x)).2 ∧ T.y v = (fL (cs.map T.y)).1
noncomputable def KN (b:B3) (S:St) (p last x y:Nat):Prop:=
 if p % 2 = 1 then (if oA b S (decide (last ≤ p)) = 0 then x = 1 ∧ y = 1 else if oA b S (decide (last ≤ p)) = 1 then x = 0 ∧ y = ff else x = ff ∧ y = 0) else x = 1 ∧ y = 1
structure New (b:B3) (T:Tr) (S:St) (p last m v:Nat):Prop where
 mv:T.mv[v]? = some m
 pl:T.pl[v]? = some p
 st:T.st[v]? = some (DO S m)
 ch:T.ch[v]? = some none
 num:∃ x y,T.pr[v]? = some x ∧ T.dp[v]? = some y ∧ KN b (DO S m) p last x y
theorem New.old {b:B3} {T T':Tr} {S:St} {p last m v N:Nat} (h:New b T S p last m v) (o:Old T T' N) (hv:v < N):New b T' S p last m v:=by
 obtain ⟨h1,h2,h3,h4,x,y,h5,h6,h7⟩:=h
 exact ⟨(o.mv v hv).trans h1,(o.pl v hv).trans h2,(o.st v hv).trans h3,(o.ch v hv).trans h4,x,y,(o.pr v hv).trans h5,(o.dp v hv).trans h6,h7⟩
theorem j0 {α : Type} {l:List α} {N:Nat} (h:l.length = N) (x:α):(l ++ [x])[N]? = some x:=by subst h; simp
theorem Bz {T:Tr} {N:Nat} (L:T.Len N) (b:B3) (S:St) (p last m:Nat):New b (T.kid b S p last m) S p last m N:=by
 haveI la:=L.add m p (DO S m)
 haveI a1:New b (T.add m p (DO S m)) S p last m N ∨ True:=.inr trivial
 have m1:(T.add m p (DO S m)).mv[N]? = some m:=j0 L.mv m
 have m2:(T.add m p (DO S m)).pl[N]? = some p:=j0 L.pl p
 have m3:(T.add m p (DO S m)).st[N]? = some (DO S m):=j0 L.st _
 have m4:(T.add m p (DO S m)).ch[N]? = some none:=j0 L.ch _
 haveI m5:(T.add m p (DO S m)).pr[N]? = some 1:=j0 L.pr _
 haveI m6:(T.add m p (DO S m)).dp[N]? = some 1:=j0 L.dp _
 have put:∀ x y,((T.add m p (DO S m)).put T.mv.length x y).pr[N]? = some x ∧ ((T.add m p (DO S m)).put T.mv.length x y).dp[N]? = some y:=fun x y => by
  rw [L.mv]
  exact ⟨List.getElem?_set_self (by rw [la.pr]; omega),List.getElem?_set_self (by rw [la.dp]; omega)⟩
 unfold Tr.kid
 by_cases hp:p % 2 = 1
 ·rw [if_pos hp]
  by_cases h0:oA b (DO S m) (decide (last ≤ p)) = 0
  ·rw [if_pos h0]
   exact ⟨m1,m2,m3,m4,1,1,m5,m6,by unfold KN; rw [if_pos hp,if_pos h0]; exact ⟨rfl,rfl⟩⟩
  ·rw [if_neg h0]
   by_cases h1:oA b (DO S m) (decide (last ≤ p)) = 1
   ·rw [if_pos h1]
    exact ⟨m1,m2,m3,m4,0,ff,(put _ _).1,(put _ _).2,by unfold KN; rw [if_pos hp,if_neg h0,if_pos h1]; exact ⟨rfl,rfl⟩⟩
   ·rw [if_neg h1]
    exact ⟨m1,m2,m3,m4,ff,0,(put _ _).1,(put _ _).2,by unfold KN; rw [if_pos hp,if_neg h0,if_neg h1]; exact ⟨rfl,rfl⟩⟩
 ·rw [if_neg hp]
  exact ⟨m1,m2,m3,m4,1,1,m5,m6,by unfold KN; rw [if_neg hp]; exact ⟨rfl,rfl⟩⟩
theorem sO {b:B3} {S:St} {p last:Nat}:∀ (ms:List Nat) {T:Tr} {N:Nat},T.Len N → ∀ j m,ms[j]? = some m → New b (T.kids b S p last ms) S p last m (N + j)
 | [],_,_,_,j,m,h => by simp at h
 | q :: ms,T,N,L,j,m,h => by
  haveI Lk:=L.kid b S p last q
  cases j with
  | zero =>
   cases (h)
   exact (Bz L b S p last q).old (ji ms Lk) (Nat.lt_succ_self N)
  | succ j =>
   haveI:=sO (b:=b) (S:=S) (p:=p) (last:=last) ms Lk j m h
   rw [show N + (j + 1) = N + 1 + j by omega]; exact this
theorem tA {b:B3} {S:St} {p last:Nat}:∀ (ms:List Nat) (T:Tr),(T.kids b S p last ms).ch = T.ch ++ List.replicate ms.length none
 | [],T => by simp [Tr.kids]
 | q :: ms,T => by
  haveI e:(T.kid b S p last q).ch = T.ch ++ [none]:=by
   unfold Tr.kid
   split
   ·split
    ·rfl
    ·split <;> rfl
   ·rfl
  show ((T.kid b S p last q).kids b S p last ms).ch = _
  rw [tA ms,e,List.append_assoc]; rfl
section
variable {b:B3} {S0:St} {last N:Nat} {T:Tr} {E:Nat → Prop}
theorem gS {α : Type} {l:List α} {v:Nat} {x d:α} (h:l[v]? = some x):l.getD v d = x:=by rw [List.getD_eq_getElem?_getD,h]; rfl
theorem gO {α : Type} {l l':List α} {v:Nat} {d:α} (h:l'[v]? = l[v]?):l'.getD v d = l.getD v d:=by rw [List.getD_eq_getElem?_getD,h,← List.getD_eq_getElem?_getD]
theorem yI (hl:0 < last) (W:WF b S0):Ivs b S0 last (Tr.init S0) 1 E where
 len:=⟨rfl,rfl,rfl,rfl,rfl,rfl⟩
 n0:=Nat.one_pos
 st0:=rfl
 pl0:=rfl
 wf v S h:=by
  cases v with
  | zero => cases h; exact W
  | succ v => cases h
 pll v hv:=by rw [show v = 0 by omega]; exact Nat.zero_le _
 kid v i cs S h:=by cases v <;> cases h
 one u v i j cs ds c h:=by cases u <;> cases h
 odd v i cs h:=by cases v <;> cases h
 num v hv:=by
  rw [show v = 0 by omega]
  exact .inr (.inr ⟨Nat.le_refl 1,Nat.pow_pos (by decide),Nat.le_refl 1,Nat.pow_pos (by decide)⟩)
 won v S h hx:=by
  cases v with
  | zero => cases hx
  | succ v => cases h
 leaf v S h hs:=by
  cases v with
  | zero => exact ⟨fun h => by exfalso; have h:0 = last:=h; omega,fun _ => ⟨rfl,rfl⟩,fun h => by cases h⟩
  | succ v => cases h
 cons v i cs h:=by cases v <;> cases h
theorem yL {last p:Nat} (h:p < last):1000 ^ (last - p) = 1000 * 1000 ^ (last - (p + 1)):=by
 rw [show last - p = last - (p + 1) + 1 by omega,Nat.pow_succ,Nat.mul_comm]
theorem yJ {last p:Nat} (h3:last ≤ 3) (h:p < last):1000 * 1000 ^ (last - (p + 1)) < ff:=by
 haveI:last - (p + 1) ≤ 2:=by omega
 haveI:1000 ^ (last - (p + 1)) ≤ 1000 ^ 2:=Nat.pow_le_pow_right (by decide) this
 unfold ff; omega
theorem wF (h3:last ≤ 3) (hN:N ≤ 1000) (I:Ivs b S0 last T N E) {v:Nat} (hE:∀ u,E u → u = v) {i:Nat} {cs:List Nat} (hc:T.ch[v]? = some (some (i,cs))) (hodd:last % 2 = 1) :
  Ivs b S0 last (T.updv v) N (fun u => ∃ j ds,T.ch[u]? = some (some (j,ds)) ∧ v ∈ ds):=by
 have L:=I.len
 have hv:v < N:=by have:=(List.getElem?_eq_some_iff.mp hc).1; rw [L.ch] at this; exact this
 obtain ⟨c1,c2,c3,c4⟩:=jA T v
 have Lu:=L.updv v
 obtain ⟨S,hS⟩:∃ S,T.st[v]? = some S:=⟨_,List.getElem?_eq_getElem (by rw [L.st]; exact hv)⟩
 obtain ⟨k1,k2,k3⟩:=I.kid v i cs S hc hS
 have eu:T.updv v = if T.p v % 2 = 0 then T.put v (fL (cs.map T.x)).1 (fL (cs.map T.y)).2 else T.put v (fL (cs.map T.x)).2 (fL (cs.map T.y)).1:=by
  unfold Tr.updv; rw [hc]; rfl
 have ep:∀ u,(T.updv v).p u = T.p u:=fun u => by unfold Tr.p; rw [c3]
 have em:(T.updv v).m = T.m:=by unfold Tr.m; rw [c2]
 have exy:∃ X Y,T.updv v = T.put v X Y ∧ (if T.p v % 2 = 0 then X = (fL (cs.map T.x)).1 ∧ Y = (fL (cs.map T.y)).2 else X = (fL (cs.map T.x)).2 ∧ Y = (fL (cs.map T.y)).1):=by
  by_cases h:T.p v % 2 = 0
  ·rw [if_pos h] at eu
   exact ⟨_,_,eu,by rw [if_pos h]; exact ⟨rfl,rfl⟩⟩
  ·rw [if_neg h] at eu
   exact ⟨_,_,eu,by rw [if_neg h]; exact ⟨rfl,rfl⟩⟩
 obtain ⟨X,Y,eT,hXY⟩:=exy
 have ex:∀ u,(T.updv v).x u = if u = v then X else T.x u:=fun u => by
  rw [eT]
  show (T.pr.set v X).getD u 0 = _
  by_cases h:u = v
  ·rw [if_pos h,h]; exact gS (List.getElem?_set_self (by rw [L.pr]; exact hv))
  ·rw [if_neg h]; exact gO (List.getElem?_set_ne (Ne.symm h))
 have ey:∀ u,(T.updv v).y u = if u = v then Y else T.y u:=fun u => by
  rw [eT]
  show (T.dp.set v Y).getD u 0 = _
  by_cases h:u = v
  ·rw [if_pos h,h]; exact gS (List.getElem?_set_self (by rw [L.dp]; exact hv))
  ·rw [if_neg h]; exact gO (List.getElem?_set_ne (Ne.symm h))
 have hcl:cs.length ≤ 1000:=by
  have:cs.length = (LM b S).length:=by rw [← k2,List.length_map]
  have:=pY (I.wf v S hS); omega
 have hk:∀ c ∈ cs,Knd (1000 ^ (last - (T.p v + 1))) (T.x c) (T.y c):=fun c hx => by
  obtain ⟨_,z1,z2,_⟩:=k3 c hx
  rw [← z2]; exact I.num c z1
 have hb:=yJ h3 k1
 have same:∀ ds:List Nat,v ∉ ds → ds.map (T.updv v).x = ds.map T.x ∧ ds.map (T.updv v).y = ds.map T.y:=fun ds hd =>
  ⟨List.map_congr_left fun c hc => by rw [ex,if_neg fun (e:c = v) => hd (e ▸ hc)],List.map_congr_left fun c hc => by rw [ey,if_neg fun (e:c = v) => hd (e ▸ hc)]⟩
 have hvcs:v ∉ cs:=fun h => by have:=(k3 v h).1; omega
 refine ⟨Lu,I.n0,by rw [c4]; exact I.st0,by rw [ep]; exact I.pl0,fun u S h => I.wf u S (by rw [c4] at h; exact h),fun u hu => by rw [ep]; exact I.pll u hu,fun u j ds S h1 h2 => ?_,fun u w j k cs ds c h1 h2 => ?_,fun u j ds h1 h2 => ?_,fun u hu => ?_,fun u S h1 h2 => ?_,fun u S h1 h2 => ?_,fun u j ds h1 h2 => ?_⟩
 ·rw [c1] at h1
  rw [c4] at h2
  rw [em,c4]
  obtain ⟨z1,z2,z3⟩:=I.kid u j ds S h1 h2
  exact ⟨by rw [ep]; exact z1,z2,fun c hc => by rw [ep,ep]; exact z3 c hc⟩
 ·rw [c1] at h1 h2
  exact I.one u w j k cs ds c h1 h2
 ·rw [c1] at h1
  rw [ep] at h2
  exact I.odd u j ds h1 h2
 ·rw [ep,ex,ey]
  by_cases h:u = v
  ·rw [if_pos h,if_pos h,h,yL k1]
   by_cases he:T.p v % 2 = 0
   ·rw [if_pos he] at hXY
    rw [hXY.1,hXY.2]
    exact FH hb hcl hk
   ·rw [if_neg he] at hXY
    rw [hXY.1,hXY.2]
    exact (FH hb hcl fun c hc => (hk c hc).swap).swap
  ·rw [if_neg h,if_neg h]
   exact I.num u hu
 ·rw [c4] at h1
  rw [ex] at h2
  rw [ep]
  by_cases h:u = v
  ·subst h
   rw [if_pos rfl] at h2
   rw [hS] at h1
   cases h1
   have er:last - T.p u = last - (T.p u + 1) + 1:=by omega
   rw [er]
   unfold Wn
   by_cases he:T.p u % 2 = 0
   ·rw [if_pos he] at hXY
    rw [if_pos (by omega)]
    rw [hXY.1] at h2
    obtain ⟨c,hc,h0⟩:=wN h2
    obtain ⟨_,_,z2,z3⟩:=k3 c hc
    have:=I.won c _ z3 h0
    rw [z2] at this
    exact ⟨T.m c,by rw [← k2]; exact List.mem_map.mpr ⟨c,hc,rfl⟩,this⟩
   ·rw [if_neg he] at hXY
    rw [if_neg (by omega)]
    rw [hXY.1] at h2
    have h0:=sR h2
    right
    refine ⟨fun e => I.odd u i cs hc (by omega) ?_,fun m hm => ?_⟩
    ·rw [← k2] at e; exact List.map_eq_nil_iff.mp e
    ·rw [← k2] at hm
     obtain ⟨c,hc,rfl⟩:=List.mem_map.mp hm
     obtain ⟨_,_,z2,z3⟩:=k3 c hc
     have:=I.won c _ z3 (h0 c hc)
     rw [z2] at this
     exact this
  ·rw [if_neg h] at h2
   exact I.won u S h1 h2
 ·rw [c1] at h1
  rw [c4] at h2
  have hu:u ≠ v:=fun e => by rw [e,hc] at h1; cases h1
  rw [ep,ex,ey,if_neg hu,if_neg hu]
  exact I.leaf u S h1 h2
 ·rw [c1] at h1
  have hd:v ∉ ds:=fun h => h2 ⟨j,ds,h1,h⟩
  rw [ep,ex,ey,(same ds hd).1,(same ds hd).2]
  by_cases h:u = v
  ·subst h
   rw [hc] at h1
   cases h1
   rw [if_pos rfl,if_pos rfl]
   exact hXY
  ·rw [if_neg h,if_neg h]
   exact I.cons u j ds h1 fun q => h (hE u q)
end
end
section
open PySem
section
variable {b:B3} {S0:St} {last N:Nat} {T:Tr} {E:Nat → Prop}
theorem Ivs.mono {E':Nat → Prop} (I:Ivs b S0 last T N E) (h:∀ u,u < N → E u → E' u):Ivs b S0 last T N E':=
 ⟨I.len,I.n0,I.st0,I.pl0,I.wf,I.pll,I.kid,I.one,I.odd,I.num,I.won,I.leaf,fun v i cs hc hn => I.cons v i cs hc fun e => hn (h v (by haveI:=(List.getElem?_eq_some_iff.mp hc).1; rw [I.len.ch] at this; exact this) e)⟩
theorem uu {S:St} {l:Bool} (h:oA b S l = 0):HL b S = true ∧ l = false:=by
 unfold oA at h
 cases l <;> cases hi:IC b S <;> cases hh:HL b S <;> rw [hi,hh] at h <;> first | exact ⟨rfl,rfl⟩ | (exfalso; revert h; decide)
theorem DD {S:St} {l:Bool} (h:oA b S l = 1):MT b S = true:=by
 unfold oA at h
 unfold MT
 cases l <;> cases hi:IC b S <;> cases hh:HL b S <;> rw [hi,hh] at h <;> first | rfl | (exfalso; revert h; decide)
theorem zV (hN:N ≤ 800) (hodd:last % 2 = 1) (I:Ivs b S0 last T N fun _ => False) {v i:Nat} {S:St} (hc:T.ch[v]? = some none) (hS:T.st[v]? = some S) (hx:T.x v ≠ 0) (hy:T.y v ≠ 0) :
  Ivs b S0 last (T.opened b S v last i) (N + (LM b S).length) (fun u => u = v):=by
 have L:=I.len
 have hv:v < N:=by have:=(List.getElem?_eq_some_iff.mp hc).1; rw [L.ch] at this; exact this
 have W:=I.wf v S hS
 obtain ⟨lf1,lf2,lf3⟩:=I.leaf v S hc hS
 have hpv:T.p v < last:=by
  have:=I.pll v hv
  rcases Nat.lt_or_ge (T.p v) last with h | h
  ·exact h
  ·rcases lf1 (by omega) with q | q
   ·exact absurd q hx
   ·exact absurd q hy
 have Lk:=Tr.Len.kids (b:=b) (S:=S) (p:=T.p v + 1) (last:=last) (LM b S) L
 have old:=ji (b:=b) (S:=S) (p:=T.p v + 1) (last:=last) (LM b S) L
 have new:∀ j m,(LM b S)[j]? = some m → New b (T.kids b S (T.p v + 1) last (LM b S)) S (T.p v + 1) last m (N + j):=sO (LM b S) L
 have eO:T.opened b S v last i = { T.kids b S (T.p v + 1) last (LM b S) with ch:=(T.kids b S (T.p v + 1) last (LM b S)).ch.set v (some (i,List.range' N (LM b S).length)) }:=by unfold Tr.opened; rw [L.mv]; rfl
 rw [eO]
 generalize hK:T.kids b S (T.p v + 1) last (LM b S) = K at Lk old new
 have nw:∀ u,N ≤ u → u < N + (LM b S).length → ∃ m ∈ LM b S,K.m u = m ∧ K.p u = T.p v + 1 ∧ K.st[u]? = some (DO S m) ∧ K.ch[u]? = some none ∧ KN b (DO S m) (T.p v + 1) last (K.x u) (K.y u) ∧ (LM b S)[u - N]? = some m:=fun u h1 h2 => by
  have hj:u - N < (LM b S).length:=by omega
  obtain ⟨n1,n2,n3,n4,x,y,n5,n6,n7⟩:=new (u - N) _ (List.getElem?_eq_getElem hj)
  rw [show N + (u - N) = u by omega] at n1 n2 n3 n4 n5 n6
  have ex:K.x u = x:=gS n5
  have ey:K.y u = y:=gS n6
  exact ⟨_,List.getElem_mem hj,gS n1,gS n2,n3,n4,by rw [ex,ey]; exact n7,List.getElem?_eq_getElem hj⟩
 have om:∀ u,u < N → K.m u = T.m u:=fun u h => gO (old.mv u h)
 have op:∀ u,u < N → K.p u = T.p u:=fun u h => gO (old.pl u h)
 have ox:∀ u,u < N → K.x u = T.x u:=fun u h => gO (old.pr u h)
 have oy:∀ u,u < N → K.y u = T.y u:=fun u h => gO (old.dp u h)
 have sv:(K.ch.set v (some (i,List.range' N (LM b S).length)))[v]? = some (some (i,List.range' N (LM b S).length)):=List.getElem?_set_self (by rw [Lk.ch]; omega)
 have so:∀ u,u ≠ v → (K.ch.set v (some (i,List.range' N (LM b S).length)))[u]? = K.ch[u]?:=fun u h => List.getElem?_set_ne (Ne.symm h)
 have opn:∀ u j ds,(K.ch.set v (some (i,List.range' N (LM b S).length)))[u]? = some (some (j,ds)) → (u = v ∧ ds = List.range' N (LM b S).length) ∨ (u ≠ v ∧ u < N ∧ T.ch[u]? = some (some (j,ds))):=fun u j ds h => by
  by_cases hu:u = v
  ·subst hu
   rw [sv] at h
   cases h
   exact .inl ⟨rfl,rfl⟩
  ·rw [so u hu] at h
   have hl:=(List.getElem?_eq_some_iff.mp h).1
   rw [Lk.ch] at hl
   rcases Nat.lt_or_ge u N with q | q
   ·exact .inr ⟨hu,q,by rw [← old.ch u q]; exact h⟩
   ·obtain ⟨_,_,_,_,_,z,_⟩:=nw u q hl
    rw [z] at h; cases h
 have stl:∀ u S',K.st[u]? = some S' → u < N + (LM b S).length:=fun u S' h => by have:=(List.getElem?_eq_some_iff.mp h).1; rw [Lk.st] at this; exact this
 have p1:∀ q,(1:Nat) ≤ 1000 ^ q:=fun q => Nat.pow_pos (by decide)
 refine ⟨⟨Lk.mv,Lk.pl,Lk.pr,Lk.dp,by show (List.set _ _ _).length = _; rw [List.length_set]; exact Lk.ch,Lk.st⟩,by omega,(old.st 0 I.n0).trans I.st0,(op 0 I.n0).trans I.pl0,fun u S' h => ?_,fun u hu => ?_,fun u j ds S' h1 h2 => ?_,fun u w j k cs ds c h1 h2 h4 h5 => ?_,fun u j ds h1 h2 => ?_,fun u hu => ?_,fun u S' h1 h2 => ?_,fun u S' h1 h2 => ?_,fun u j ds h1 h2 => ?_⟩
 ·have h:K.st[u]? = some S':=h
  rcases Nat.lt_or_ge u N with q | q
  ·exact I.wf u S' (by rw [← old.st u q]; exact h)
  ·obtain ⟨m,hm,_,_,z,_⟩:=nw u q (stl u S' h)
   rw [z] at h; cases h
   exact h9 W hm
 ·show K.p u ≤ last
  rcases Nat.lt_or_ge u N with q | q
  ·rw [op u q]; exact I.pll u q
  ·obtain ⟨m,hm,_,z,_⟩:=nw u q hu
   rw [z]; exact hpv
 ·show K.p u < last ∧ ds.map K.m = LM b S' ∧ ∀ c ∈ ds,u < c ∧ c < N + (LM b S).length ∧ K.p c = K.p u + 1 ∧ K.st[c]? = some (DO S' (K.m c))
  have h2:K.st[u]? = some S':=h2
  rcases opn u j ds h1 with ⟨rfl,rfl⟩ | ⟨hu,q,h1⟩
  ·rw [old.st u hv,hS] at h2
   cases h2
   rw [op u hv]
   refine ⟨hpv,?_,fun c hc => ?_⟩
   ·apply List.ext_getElem
    ·simp
    ·intro j h1 h2
     rw [List.getElem_map,List.getElem_range']
     obtain ⟨m,_,z1,_,_,_,_,z2⟩:=nw (N + 1 * j) (by omega) (by omega)
     rw [z1]
     rw [k9,List.getElem?_eq_getElem h2] at z2
     exact (Option.some.inj z2).symm
   ·have hc:=List.mem_range'_1.mp hc
    obtain ⟨m,_,z1,z2,z3,_⟩:=nw c hc.1 hc.2
    exact ⟨by omega,hc.2,z2,by rw [z1]; exact z3⟩
  ·rw [old.st u q] at h2
   obtain ⟨z1,z2,z3⟩:=I.kid u j ds S' h1 h2
   rw [op u q]
   refine ⟨z1,?_,fun c hc => ?_⟩
   ·rw [← z2]; exact List.map_congr_left fun c hc => om c (z3 c hc).2.1
   ·obtain ⟨y1,y2,y3,y4⟩:=z3 c hc
    rw [op c y2,om c y2,old.st c y2]
    exact ⟨y1,by omega,y3,y4⟩
 ·rcases opn u j cs h1 with ⟨e1,rfl⟩ | ⟨hu,q,h1⟩ <;> rcases opn w k ds h2 with ⟨e2,rfl⟩ | ⟨hw,q',h2⟩
  ·rw [e1,e2]
  ·exfalso
   obtain ⟨Sw,hSw⟩:∃ S,T.st[w]? = some S:=⟨_,List.getElem?_eq_getElem (by rw [L.st]; exact q')⟩
   have:=((I.kid w k ds Sw h2 hSw).2.2 c h5).2.1
   have:=List.mem_range'_1.mp h4
   omega
  ·exfalso
   obtain ⟨Su,hSu⟩:∃ S,T.st[u]? = some S:=⟨_,List.getElem?_eq_getElem (by rw [L.st]; exact q)⟩
   have:=((I.kid u j cs Su h1 hSu).2.2 c h4).2.1
   have:=List.mem_range'_1.mp h5
   omega
  ·exact I.one u w j k cs ds c h1 h2 h4 h5
 ·have hp1:K.p u % 2 = 1:=h2
  rcases opn u j ds h1 with ⟨rfl,rfl⟩ | ⟨hu,q,h1⟩
  ·rw [op u hv] at hp1
   intro e
   have:=lf3 hp1 hx hy
   rw [List.range'_eq_nil_iff,List.length_eq_zero_iff] at e
   exact this e
  ·rw [op u q] at hp1
   exact I.odd u j ds h1 hp1
 ·show Knd (1000 ^ (last - K.p u)) (K.x u) (K.y u)
  rcases Nat.lt_or_ge u N with q | q
  ·rw [op u q,ox u q,oy u q]; exact I.num u q
  ·obtain ⟨m,hm,_,z,_,_,kn,_⟩:=nw u q hu
   have:=p1 (last - K.p u)
   unfold KN at kn
   repeat' split at kn
   ·exact .inr (.inr ⟨by omega,by omega,by omega,by omega⟩)
   ·exact .inl kn
   ·exact .inr (.inl kn)
   ·exact .inr (.inr ⟨by omega,by omega,by omega,by omega⟩)
 ·have h1:K.st[u]? = some S':=h1
  have h2:K.x u = 0:=h2
  show Wn b (last - K.p u) S'
  rcases Nat.lt_or_ge u N with q | q
  ·rw [op u q]
   rw [old.st u q] at h1
   rw [ox u q] at h2
   exact I.won u S' h1 h2
  ·obtain ⟨m,hm,_,z,z3,_,kn,_⟩:=nw u q (stl u S' h1)
   rw [z3] at h1
   cases h1
   rw [h2] at kn
   rw [z]
   have mt:MT b (DO S m) = true ∧ (T.p v + 1) % 2 = 1:=by
    unfold KN at kn
    repeat' split at kn
    ·omega
    ·rename_i h _ h'; exact ⟨DD h',h⟩
    ·have:=kn.1; unfold ff at this; omega
    ·omega
   cases hr:last - (T.p v + 1) with
   | zero => exact mt.1
   | succ r =>
    unfold Wn
    rw [if_neg (by omega)]
    exact .inl mt.1
 ·have h1:(K.ch.set v (some (i,List.range' N (LM b S).length)))[u]? = some none:=h1
  have h2:K.st[u]? = some S':=h2
  show (K.p u = last → K.x u = 0 ∨ K.y u = 0) ∧ (K.p u % 2 = 0 → K.x u = 1 ∧ K.y u = 1) ∧ (K.p u % 2 = 1 → K.x u ≠ 0 → K.y u ≠ 0 → LM b S' ≠ [])
  have hu:u ≠ v:=fun e => by rw [e,sv] at h1; cases h1
  rw [so u hu] at h1
  rcases Nat.lt_or_ge u N with q | q
  ·rw [op u q,ox u q,oy u q]
   rw [old.st u q] at h2
   rw [old.ch u q] at h1
   exact I.leaf u S' h1 h2
  ·obtain ⟨m,hm,_,z,z3,_,kn,_⟩:=nw u q (stl u S' h2)
   rw [z3] at h2
   cases h2
   rw [z]
   unfold KN at kn
   refine ⟨fun e => ?_,fun e => ?_,fun e k1 k2 => ?_⟩
   ·rw [if_pos (by omega)] at kn
    by_cases q0:oA b (DO S m) (decide (last ≤ T.p v + 1)) = 0
    ·have:=(uu q0).2
     rw [decide_eq_true (by omega)] at this; cases this
    ·rw [if_neg q0] at kn
     split at kn
     ·exact .inl kn.1
     ·exact .inr kn.2
   ·rw [if_neg (by omega)] at kn; exact kn
   ·rw [if_pos e] at kn
    by_cases q0:oA b (DO S m) (decide (last ≤ T.p v + 1)) = 0
    ·exact (u9 (h9 W hm)).mp (uu q0).1
    ·rw [if_neg q0] at kn
     split at kn
     ·exact absurd kn.1 k1
     ·exact absurd kn.2 k2
 ·show if K.p u % 2 = 0 then K.x u = (fL (ds.map K.x)).1 ∧ K.y u = (fL (ds.map K.y)).2 else K.x u = (fL (ds.map K.x)).2 ∧ K.y u = (fL (ds.map K.y)).1
  rcases opn u j ds h1 with ⟨e,_⟩ | ⟨hu,q,h1⟩
  ·exact absurd e h2
  ·obtain ⟨Su,hSu⟩:∃ S,T.st[u]? = some S:=⟨_,List.getElem?_eq_getElem (by rw [L.st]; exact q)⟩
   have z3:=(I.kid u j ds Su h1 hSu).2.2
   rw [op u q,ox u q,oy u q,List.map_congr_left fun c hc => ox c (z3 c hc).2.1,List.map_congr_left fun c hc => oy c (z3 c hc).2.1]
   exact I.cons u j ds h1 fun h => h
end
end
section
open PySem
section
variable {b:B3} {S0:St} {last N:Nat} {T:Tr}
theorem Ep {v:Nat} {cs:List Nat} (hne:cs ≠ []):T.sel v cs ∈ cs ∧ ∀ d ∈ cs,(T.nums v).getD (T.sel v cs) 0 ≤ (T.nums v).getD d 0:=
 ⟨rN hne,(Ar (f:=fun c => (T.nums v).getD c 0) cs (cs.headD 0)).2⟩
theorem Dr (h3:last ≤ 3) (I:Ivs b S0 last T N fun _ => False):∀ (d v:Nat),last - T.p v ≤ d → v < N → T.x v ≠ 0 → T.y v ≠ 0 →
  ∃ p,vk T v p ∧ p.length ≤ d + 1 ∧ p.getLastD 0 < N ∧ T.x (p.getLastD 0) ≠ 0 ∧ T.y (p.getLastD 0) ≠ 0:=by
 intro d
 induction d with
 | zero =>
  intro v hd hv hx hy
  cases hc:T.ch[v]? with
  | none => rw [List.getElem?_eq_none_iff,I.len.ch] at hc; omega
  | some o => cases o with
   | none => exact ⟨[v],.leaf v hc,Nat.le_refl 1,hv,hx,hy⟩
   | some x =>
    obtain ⟨S,hS⟩:∃ S,T.st[v]? = some S:=⟨_,List.getElem?_eq_getElem (by rw [I.len.st]; exact hv)⟩
    exact absurd (I.kid v x.1 x.2 S hc hS).1 (Nat.not_lt.mpr (Nat.le_of_sub_eq_zero (Nat.le_zero.mp hd)))
 | succ d ih =>
  intro v hd hv hx hy
  cases hc:T.ch[v]? with
  | none => rw [List.getElem?_eq_none_iff,I.len.ch] at hc; omega
  | some o => cases o with
   | none => exact ⟨[v],.leaf v hc,by simp,hv,hx,hy⟩
   | some x =>
    obtain ⟨i,cs⟩:=x
    obtain ⟨S,hS⟩:∃ S,T.st[v]? = some S:=⟨_,List.getElem?_eq_getElem (by rw [I.len.st]; exact hv)⟩
    obtain ⟨k1,_,k3⟩:=I.kid v i cs S hc hS
    have hcons:=I.cons v i cs hc fun h => h
    have hk:∀ c ∈ cs,Knd (1000 ^ (last - (T.p v + 1))) (T.x c) (T.y c):=fun c hc => by
     obtain ⟨_,z1,z2,_⟩:=k3 c hc
     rw [← z2]; exact I.num c z1
    have hb:=yJ h3 k1
    have hne:cs ≠ []:=fun e => by
     rw [e] at hcons
     split at hcons
     ·exact hy hcons.2
     ·exact hx hcons.1
    obtain ⟨s1,s2⟩:=Ep (T:=T) (v:=v) hne
    have su:T.x (T.sel v cs) ≠ 0 ∧ T.y (T.sel v cs) ≠ 0:=by
     by_cases he:T.p v % 2 = 0
     ·rw [if_pos he] at hcons
      haveI hn:T.nums v = T.pr:=if_neg (by have he:T.pl.getD v 0 % 2 = 0:=he; omega)
      rw [hn] at s2
      exact Ac hb hk (fun e => hx (hcons.1.trans e)) (fun e => hy (hcons.2.trans e)) s1 s2
     ·rw [if_neg he] at hcons
      haveI hn:T.nums v = T.dp:=if_pos (by haveI he:¬ T.pl.getD v 0 % 2 = 0:=he; omega)
      rw [hn] at s2
      exact (Ac hb (fun c hc => (hk c hc).swap) (fun e => hy (hcons.2.trans e)) (fun e => hx (hcons.1.trans e)) s1 s2).symm
    obtain ⟨_,z1,z2,_⟩:=k3 _ s1
    obtain ⟨p,q1,q2,q3⟩:=ih (T.sel v cs) (by rw [z2]; exact Nat.pred_le_pred hd) z1 su.1 su.2
    haveI hpl:p ≠ []:=by cases q1 <;> simp
    haveI hlast:(v :: p).getLastD 0 = p.getLastD 0:=by cases p with | nil => exact absurd rfl hpl | cons x l => rfl
    exact ⟨v :: p,.node v i cs p hc hne q1,by rw [List.length_cons]; omega,by rw [hlast]; exact q3⟩
theorem Bl (h3:last ≤ 3) (hodd:last % 2 = 1) {T1:Tr} (hN:N ≤ 1000) {v:Nat} {p:List Nat} (hp:vk T v p) (hs:∀ (u i:Nat) (cs:List Nat),T.ch[u]? = some (some (i,cs)) → T1.ch[u]? = some (some (i,cs))) :
  Ivs b S0 last T1 N (fun u => u = p.getLastD 0) → (∃ i cs,T1.ch[p.getLastD 0]? = some (some (i,cs))) →
  Ivs b S0 last (T1.rise p) N (fun u => ∃ j ds,T1.ch[u]? = some (some (j,ds)) ∧ v ∈ ds) ∧ (T1.rise p).ch = T1.ch:=by
 induction hp with
 | leaf v h =>
  intro I ⟨i,cs,hc⟩
  exact ⟨wF h3 hN I (fun u h => h) hc hodd,(jA T1 v).1⟩
 | node v i cs p h hne hp ih =>
  intro I hl
  have hpl:p ≠ []:=by cases hp <;> simp
  have hlast:(v :: p).getLastD 0 = p.getLastD 0:=by cases p with | nil => exact absurd rfl hpl | cons x l => rfl
  rw [hlast] at I hl
  obtain ⟨I',e⟩:=ih I hl
  have hv:=hs v i cs h
  have hs1:=rN (T:=T) (v:=v) hne
  have I2:=wF h3 hN I' (v:=v) (fun u ⟨j,ds,h1,h2⟩ => I.one u v j i ds cs _ h1 hv h2 hs1) (by rw [e]; exact hv) hodd
  rw [e] at I2
  exact ⟨I2,(jA _ _).1.trans e⟩
noncomputable def EW (T:Tr):Nat:=T.ch.countP Option.isSome
theorem Ev (L:T.Len N):EW T ≤ N:=by unfold EW; rw [← L.ch]; exact List.countP_le_length
theorem zx (h3:last ≤ 3) (hodd:last % 2 = 1) (hN:N ≤ 800) (I:Ivs b S0 last T N fun _ => False) {p:List Nat} (hp:vk T 0 p) (hx:T.x (p.getLastD 0) ≠ 0) (hy:T.y (p.getLastD 0) ≠ 0) {S:St} (hS:T.st[p.getLastD 0]? = some S) (hc:T.ch[p.getLastD 0]? = some none) (i:Nat) :
  Ivs b S0 last (T.grow b S last i p) (N + (LM b S).length) (fun _ => False) ∧ EW (T.grow b S last i p) = EW T + 1 ∧ (∀ (u j:Nat) (cs:List Nat),(T.grow b S last i p).ch[u]? = some (some (j,cs)) → T.ch[u]? = some (some (j,cs)) ∨ (j = i ∧ cs = List.range' N (LM b S).length)):=by
 have L:=I.len
 haveI hv:p.getLastD 0 < N:=by haveI:=(List.getElem?_eq_some_iff.mp hc).1; rw [L.ch] at this; exact this
 haveI lm:=pY (I.wf _ S hS)
 have IO:=zV (i:=i) hN hodd I hc hS hx hy
 have ech:(T.opened b S (p.getLastD 0) last i).ch = (T.ch ++ List.replicate (LM b S).length none).set (p.getLastD 0) (some (i,List.range' N (LM b S).length)):=by
  unfold Tr.opened
  dsimp only
  rw [tA,L.mv]
 have hl:p.getLastD 0 < (T.ch ++ List.replicate (LM b S).length none).length:=by rw [List.length_append,L.ch]; omega
 haveI hsame:∀ (u j:Nat) (cs:List Nat),T.ch[u]? = some (some (j,cs)) → (T.opened b S (p.getLastD 0) last i).ch[u]? = some (some (j,cs)):=fun u j cs h => by
  have hu:u ≠ p.getLastD 0:=fun e => by rw [e,hc] at h; cases h
  rw [ech,List.getElem?_set_ne (Ne.symm hu),List.getElem?_append_left (List.getElem?_eq_some_iff.mp h).1]
  exact h
 obtain ⟨I2,e2⟩:=Bl h3 hodd (by omega) hp hsame IO ⟨i,_,by rw [ech]; exact List.getElem?_set_self hl⟩
 refine ⟨I2.mono fun u _ ⟨j,ds,h1,h2⟩ => ?_,?_,fun u j cs h => ?_⟩
 ·obtain ⟨Su,hSu⟩:∃ S',(T.opened b S (p.getLastD 0) last i).st[u]? = some S':=⟨_,List.getElem?_eq_getElem (by rw [IO.len.st,← IO.len.ch]; exact (List.getElem?_eq_some_iff.mp h1).1)⟩
  haveI:=((IO.kid u j ds Su h1 hSu).2.2 0 h2).1
  omega
 ·show ((T.opened b S (p.getLastD 0) last i).rise p).ch.countP _ = _
  rw [e2,ech,List.countP_set hl]
  haveI hg:(T.ch ++ List.replicate (LM b S).length none)[p.getLastD 0] = none:=by
   haveI:(T.ch ++ List.replicate (LM b S).length none)[p.getLastD 0]? = some none:=by rw [List.getElem?_append_left (by rw [L.ch]; exact hv)]; exact hc
   rw [List.getElem?_eq_getElem hl] at this
   exact Option.some.inj this
  rw [hg,List.countP_append]
  simp [EW]
 ·have h:((T.opened b S (p.getLastD 0) last i).rise p).ch[u]? = _:=h
  rw [e2,ech] at h
  by_cases hu:p.getLastD 0 = u
  ·rw [hu,List.getElem?_set_self (by rw [← hu]; exact hl)] at h
   cases h
   exact .inr ⟨rfl,rfl⟩
  ·rw [List.getElem?_set_ne hu] at h
   rcases Nat.lt_or_ge u T.ch.length with q | q
   ·rw [List.getElem?_append_left q] at h; exact .inl h
   ·rw [List.getElem?_append_right q,List.getElem?_replicate] at h
    split at h <;> cases h
end
end
section
open PySem
noncomputable def GT (l:List (Option (Nat × List Nat))):List (Option (Nat × List Nat)):=l.map (Option.map fun x => (0,x.2))
noncomputable def Tr.er (T:Tr):Tr:={ T with ch:=GT T.ch }
theorem DT (T:Tr) (b:B3) (S:St) (p last m:Nat):(T.kid b S p last m).er = T.er.kid b S p last m:=by
 have ea:(T.add m p (DO S m)).er = T.er.add m p (DO S m):=by
  unfold Tr.add Tr.er GT
  simp only [List.map_append]; rfl
 have ep:∀ v x y,((T.add m p (DO S m)).put v x y).er = (T.er.add m p (DO S m)).put v x y:=fun v x y => by rw [← ea]; rfl
 unfold Tr.kid
 split
 ·split
  ·exact ea
  ·split <;> exact ep _ _ _
 ·exact ea
theorem wG {b:B3} {S:St} {p last:Nat}:∀ (ms:List Nat) (T:Tr),(T.kids b S p last ms).er = T.er.kids b S p last ms
 | [],_ => rfl
 | m :: ms,T => by
  show ((T.kid b S p last m).kids b S p last ms).er = (T.er.kid b S p last m).kids b S p last ms
  rw [wG ms,DT]
theorem xG (T:Tr) (b:B3) (S:St) (v last i:Nat):(T.opened b S v last i).er = T.er.opened b S v last 0:=by
 haveI e:=wG (b:=b) (S:=S) (p:=T.pl.getD v 0 + 1) (last:=last) (LM b S) T
 show _ = (let T1:=T.er.kids b S (T.pl.getD v 0 + 1) last (LM b S); ({ T1 with ch:=T1.ch.set v (some (0,List.range' T.mv.length (LM b S).length)) }:Tr))
 rw [← e]
 unfold Tr.opened Tr.er GT
 simp only [List.map_set]; rfl
theorem qC (T:Tr) (v:Nat):T.er.ch[v]? = (T.ch[v]?).map (Option.map fun x => (0,x.2)):=List.getElem?_map ..
theorem B8 (T:Tr) (v:Nat):(T.updv v).er = T.er.updv v:=by
 haveI eu:∀ cs,(T.upd v cs).er = T.er.upd v cs:=fun cs => by
  unfold Tr.upd
  show _ = (if T.pl.getD v 0 % 2 = 0 then _ else _)
  split <;> rfl
 unfold Tr.updv
 rw [qC]
 cases T.ch[v]? with
 | none => rfl
 | some o => cases o with
  | none => rfl
  | some x => exact eu x.2
theorem xf:∀ (p:List Nat) (T:Tr),(T.rise p).er = T.er.rise p
 | [],_ => rfl
 | v :: p,T => by
  show ((T.rise p).updv v).er = (T.er.rise p).updv v
  rw [B8,xf p]
theorem CG (T:Tr) (b:B3) (S:St) (last i:Nat) (p:List Nat):(T.grow b S last i p).er = T.er.grow b S last 0 p:=by
 unfold Tr.grow
 rw [xf,xG]
theorem EL {T:Tr} {v:Nat} {p:List Nat} (h:vk T v p):vk T.er v p:=by
 induction h with
 | leaf v h => exact .leaf v (by rw [qC,h]; rfl)
 | node v i cs p h hne hp ih => exact .node v 0 cs p (by rw [qC,h]; rfl) hne ih
theorem CJ {T:Tr} {v:Nat} {p p':List Nat} (h:vk T v p) (h':vk T v p'):p = p':=by
 induction h generalizing p' with
 | leaf v h =>
  cases h' with
  | leaf _ _ => rfl
  | node _ _ _ _ h2 => rw [h] at h2; cases h2
 | node v i cs p h hne hp ih =>
  cases h' with
  | leaf _ h2 => rw [h] at h2; cases h2
  | node _ j ds q h2 hne' hq =>
   rw [h] at h2; cases h2
   rw [ih hq]
inductive qW (b:B3) (S0:St) (last B:Nat):Nat → Tr → Prop
 | zero:qW b S0 last B 0 (Tr.init S0)
 | succ (k:Nat) (T:Tr) (p:List Nat) (S:St) (h:qW b S0 last B k T) (hx:T.x 0 ≠ 0) (hy:T.y 0 ≠ 0) (hB:T.mv.length < B) (hp:vk T 0 p) (hS:T.st[p.getLastD 0]? = some S):qW b S0 last B (k + 1) (T.grow b S last 0 p)
section
variable {b:B3} {S0:St} {last B B':Nat} {T T':Tr}
theorem rC (h:qW b S0 last B 0 T):T = Tr.init S0:=by
 generalize e:0 = k at h
 cases h with
 | zero => rfl
 | succ => cases e
inductive Hl (b:B3) (S0:St) (last B k:Nat) (T':Tr):Prop
 | mk (T:Tr) (p:List Nat) (S:St) (h:qW b S0 last B k T) (hx:T.x 0 ≠ 0) (hy:T.y 0 ≠ 0) (hB:T.mv.length < B) (hp:vk T 0 p) (hS:T.st[p.getLastD 0]? = some S) (e:T' = T.grow b S last 0 p)
theorem i6 {k:Nat} (h:qW b S0 last B (k + 1) T):Hl b S0 last B k T:=by
 generalize e:k + 1 = n at h
 cases h with
 | zero => cases e
 | succ _ T p S h hx hy hB hp hS => cases e; exact ⟨T,p,S,h,hx,hy,hB,hp,hS,rfl⟩
theorem gN {k:Nat}:∀ {T T':Tr},qW b S0 last B k T → qW b S0 last B' k T' → T = T':=by
 induction k with
 | zero => exact fun h h' => (rC h).trans (rC h').symm
 | succ k ih =>
  intro T T' h h'
  obtain ⟨T1,p,S,h1,_,_,_,hp,hS,rfl⟩:=i6 h
  obtain ⟨T2,p',S',h2,_,_,_,hp',hS',rfl⟩:=i6 h'
  clear h h'
  haveI e:=ih h1 h2
  subst e
  haveI e:=CJ hp hp'
  subst e
  rw [hS] at hS'
  rw [Option.some.inj hS']
theorem mj (T:Tr) (S:St) (i:Nat) (p:List Nat):T.mv.length ≤ (T.grow b S last i p).mv.length:=by
 haveI hr:∀ (p:List Nat) (T:Tr),(T.rise p).mv = T.mv:=fun p => by
  induction p with
  | nil => exact fun _ => rfl
  | cons v p ih => exact fun T => (jA (T.rise p) v).2.1.trans (ih T)
 haveI hk:∀ (ms:List Nat) (T:Tr) (p:Nat),T.mv.length ≤ (T.kids b S p last ms).mv.length:=fun ms => by
  induction ms with
  | nil => exact fun T p => Nat.le_refl _
  | cons m ms ih =>
   intro T p
   refine Nat.le_trans ?_ (ih (T.kid b S p last m) p)
   haveI:(T.kid b S p last m).mv = T.mv ++ [m]:=by
    unfold Tr.kid
    split
    ·split
     ·rfl
     ·split <;> rfl
    ·rfl
   rw [this,List.length_append]; omega
 show _ ≤ ((T.opened b S (p.getLastD 0) last i).rise p).mv.length
 rw [hr]
 exact hk _ _ _
theorem lT {k:Nat}:∀ {T:Tr},qW b S0 last B k T → ∀ j,j < k → ∃ T',qW b S0 last B j T' ∧ T'.x 0 ≠ 0 ∧ T'.y 0 ≠ 0 ∧ T'.mv.length < B ∧ T'.mv.length ≤ T.mv.length:=by
 induction k with
 | zero => exact fun _ _ h => nomatch h
 | succ k ih =>
  intro T h j hj
  obtain ⟨T1,p,S,h0,hx,hy,hB,hp,hS,rfl⟩:=i6 h
  clear h
  by_cases e:j = k
  ·subst e
   exact ⟨T1,h0,hx,hy,hB,mj T1 S 0 p⟩
  ·obtain ⟨T',h1,h2,h3,h4,h5⟩:=ih h0 j (by omega)
   exact ⟨T',h1,h2,h3,h4,Nat.le_trans h5 (mj T1 S 0 p)⟩
noncomputable def vX (T:Tr) (B:Nat):Prop:=T.x 0 = 0 ∨ T.y 0 = 0 ∨ B ≤ T.mv.length
theorem Ak {k k':Nat} (h:qW b S0 last B k T) (hx:T.x 0 ≠ 0) (hy:T.y 0 ≠ 0) (hB:B ≤ T.mv.length) (h':qW b S0 last T.mv.length k' T') (hs:vX T' T.mv.length):T' = T:=by
 rcases Nat.lt_trichotomy k k' with q | q | q
 ·obtain ⟨T2,r1,_,_,r4,_⟩:=lT h' k q
  rw [gN r1 h] at r4
  omega
 ·subst q; exact gN h' h
 ·obtain ⟨T2,r1,r2,r3,r4,r5⟩:=lT h k' q
  haveI e:=gN r1 h'
  subst e
  rcases hs with hs | hs | hs
  ·exact absurd hs r2
  ·exact absurd hs r3
  ·omega
theorem Aq {k k':Nat} (h:qW b S0 last B k T) (hx:T.x 0 = 0 ∨ T.y 0 = 0) (h':qW b S0 last (T.mv.length + 3) k' T') (hs:vX T' (T.mv.length + 3)):T' = T:=by
 rcases Nat.lt_trichotomy k k' with q | q | q
 ·obtain ⟨T2,r1,r2,r3,_⟩:=lT h' k q
  haveI e:=gN r1 h
  subst e
  rcases hx with hx | hx
  ·exact absurd hx r2
  ·exact absurd hx r3
 ·subst q; exact gN h' h
 ·obtain ⟨T2,r1,r2,r3,r4,r5⟩:=lT h k' q
  haveI e:=gN r1 h'
  subst e
  rcases hs with hs | hs | hs
  ·exact absurd hs r2
  ·exact absurd hs r3
  ·omega
end
end
section
open PySem
noncomputable def Tr.res (T:Tr):List Int:=
 if T.x 0 = 0 then (match T.ch[0]? with
  | some (some (_,cs)) => (match cs.find? (fun c => T.x c == 0) with | some c => [1,(T.m c:Int),(T.mv.length:Int)] | none => [])
  | _ => [])
 else if T.y 0 = 0 then [-1,0,(T.mv.length:Int)] else [0,0,(T.mv.length:Int)]
theorem Dw (T:Tr):T.er.res = T.res:=by
 unfold Tr.res
 rw [qC]
 show (if T.x 0 = 0 then _ else _) = _
 split
 ·cases T.ch[0]? with
  | none => rfl
  | some o => cases o <;> rfl
 ·rfl
noncomputable def GK (T:Tr) (G:H):Prop:=∀ (v i:Nat) (cs:List Nat),T.ch[v]? = some (some (i,cs)) → G[i]? = some (nL cs)
section
variable {row:List Int} {a:Int} {b:B3} {S:St} {X:dL} {J:H} {last N:Nat}
theorem FQ {T:Tr} {G:H} (I:Ivs b S last T N fun _ => False) (gk:GK T G):Gd b T G N:=⟨I.len,fun v i cs S' h1 h2 => by
 obtain ⟨z1,z2,z3⟩:=I.kid v i cs S' h1 h2
 haveI hl:cs.length = (LM b S').length:=by rw [← z2,List.length_map]
 refine ⟨gk v i cs h1,by haveI:=pY (I.wf v S' h2); omega,fun c hc => ⟨(z3 c hc).2.1,?_,(z3 c hc).2.2.2⟩⟩
 rw [← z2]; exact List.mem_map.mpr ⟨c,hc,rfl⟩,I.wf⟩
theorem Cg {T:Tr} {G:H} {P:PS} (L:T.Len N) (hN:N ≤ 1000) {v:Nat} (hv:v < N) {f:Fm} {e e':Ex} (ke:e f (ht row a b P J T G) = some (.ref (47 + J.length),ht row a b P J T G)) (kv:e' f (ht row a b P J T G) = some (.int v,ht row a b P J T G)) :
  av (ai e "proofs") e' f (ht row a b P J T G) = some (.int (T.x v),ht row a b P J T G):=fA ke rL sG (by rw [L.pr]; exact hv) (by rw [L.pr]; exact hN) kv
theorem ED {T:Tr} {G:H} {P:PS} (L:T.Len N) (hN:N ≤ 1000) {v:Nat} (hv:v < N) {f:Fm} {e e':Ex} (ke:e f (ht row a b P J T G) = some (.ref (47 + J.length),ht row a b P J T G)) (kv:e' f (ht row a b P J T G) = some (.int v,ht row a b P J T G)) :
  av (ai e "disproofs") e' f (ht row a b P J T G) = some (.int (T.y v),ht row a b P J T G):=fA ke tY ul (by rw [L.dp]; exact hv) (by rw [L.dp]; exact hN) kv
theorem GU {T:Tr} {G:H} {P:PS} (L:T.Len N) (hN:N ≤ 1000) {v:Nat} (hv:v < N) {f:Fm} {e e':Ex} (ke:e f (ht row a b P J T G) = some (.ref (47 + J.length),ht row a b P J T G)) (kv:e' f (ht row a b P J T G) = some (.int v,ht row a b P J T G)) :
  av (ai e "moves") e' f (ht row a b P J T G) = some (.int (T.m v),ht row a b P J T G):=fA ke yR Em (by rw [L.mv]; exact hv) (by rw [L.mv]; exact hN) kv
theorem lW {T:Tr} {G:H} {P:PS} (L:T.Len N) (hN:N ≤ 1000) {f:Fm} {e:Ex} (n:Nat) (ke:e f (ht row a b P J T G) = some (.ref (47 + J.length),ht row a b P J T G)) :
  af (run ah (n + 1)) "len" [ai e "moves"] f (ht row a b P J T G) = some (.int T.mv.length,ht row a b P J T G):=by
 haveI ln:=kT row a (b:=b) (P:=P) (J ++ (tT J.length T ++ G)) (o:=J.length + 1) (l:=T.mv.map fun (n:Nat) => V.int n) (by rw [List.getElem?_append_right (by omega),Nat.add_sub_cancel_left]; rfl) (by rw [List.length_map,L.mv]; omega) n
 rw [List.length_map] at ln
 haveI ln:run ah (n + 1) "len" [.ref (47 + (J.length + 1))] (ht row a b P J T G) = _:=ln
 exact aM (ar (cn ke yR) aG) ln
noncomputable abbrev pC (n:Nat):Tx:=cI .And [(ax .Gt (av (ai (aa 3) "proofs") (ac (.int 0))) (ac (.int 0))),(ax .Gt (av (ai (aa 3) "disproofs") (ac (.int 0))) (ac (.int 0))),(ax .Lt (af (run ah n) "len" [(ai (aa 3) "moves")]) (aa 2))]
noncomputable abbrev pB (n:Nat):Sx:=ag [au (af (run ah n) "grow_once" [(aa 3),(aa 0),(ao .Sub (ao .Mult (ac (.int 2)) (aa 1)) (ac (.int 1)))])]
theorem Fp {T:Tr} {G:H} {P:PS} (L:T.Len N) (hN:N ≤ 1000) (h0:0 < N) {B:Nat} {f:Fm} (f2:f 2 = some (.int B)) (f3:f 3 = some (.ref (47 + J.length))) (n:Nat) :
  (vX T B ∧ pC (n + 1) f (ht row a b P J T G) = some (false,ht row a b P J T G)) ∨ (¬ vX T B ∧ pC (n + 1) f (ht row a b P J T G) = some (true,ht row a b P J T G)):=by
 have t1:ax .Gt (av (ai (aa 3) "proofs") (ac (.int 0))) (ac (.int 0)) f (ht row a b P J T G) = some (decide ((0:Int) < (T.x 0:Int)),_):=aq (Cg L hN h0 (loc f3) aH) aH (ui _ _ _)
 have t2:ax .Gt (av (ai (aa 3) "disproofs") (ac (.int 0))) (ac (.int 0)) f (ht row a b P J T G) = some (decide ((0:Int) < (T.y 0:Int)),_):=aq (ED L hN h0 (loc f3) aH) aH (ui _ _ _)
 have t3:ax .Lt (af (run ah (n + 1)) "len" [(ai (aa 3) "moves")]) (aa 2) f (ht row a b P J T G) = some (decide ((T.mv.length:Int) < (B:Int)),_):=aq (lW L hN n (loc f3)) (loc f2) (Dm _ _ _)
 unfold vX
 by_cases hx:T.x 0 = 0
 ·rw [decide_eq_false (by omega)] at t1
  exact .inl ⟨.inl hx,iO t1⟩
 ·rw [decide_eq_true (by omega)] at t1
  by_cases hy:T.y 0 = 0
  ·rw [decide_eq_false (by omega)] at t2
   exact .inl ⟨.inr (.inl hy),dD t1 (iO t2)⟩
  ·rw [decide_eq_true (by omega)] at t2
   by_cases hb:B ≤ T.mv.length
   ·rw [decide_eq_false (by omega)] at t3
    exact .inl ⟨.inr (.inr hb),dD t1 (dD t2 (iO t3))⟩
   ·rw [decide_eq_true (by omega)] at t3
    exact .inr ⟨fun h => h.elim hx fun h => h.elim hy hb,dD t1 (dD t2 (dD t3 rl))⟩
theorem xj (h3:last ≤ 3) (hodd:last % 2 = 1) {moves:Int} (hml:2 * moves - 1 = (last:Int)) (hms:small moves = true) {B:Nat} (hB:B ≤ 500) (hz:X.hist.length ≤ 800) (n:Nat):∀ (w:Nat) (f:Fm) (T:Tr) (G:H) (N k:Nat),Ivs b S last T N (fun _ => False) → GK T G → qW b S last B k T.er → 1 ≤ w → B + 1 ≤ EW T + w → N ≤ B + 200 →
  f 0 = some (.ref 42) → f 1 = some (.int moves) → f 2 = some (.int B) → f 3 = some (.ref (47 + J.length)) →
  ∃ T' G' N' k',bM (pC (n + 23)) (pB (n + 23)) w f (ht row a b (S.ps b X) J T G) = some (.next,f,ht row a b (S.ps b X) J T' G') ∧ Ivs b S last T' N' (fun _ => False) ∧ GK T' G' ∧ qW b S last B k' T'.er ∧ vX T' B ∧ N' ≤ B + 200
 | 0,_,_,_,_,_,_,_,_,hw,_,_,_,_,_,_ => by omega
 | w + 1,f,T,G,N,k,I,gk,hr,hw,hc,hN,f0,f1,f2,f3 => by
  have L:=I.len
  have c:=Fp (row:=row) (a:=a) (b:=b) (J:=J) (T:=T) (G:=G) (P:=S.ps b X) L (by omega) I.n0 f2 f3 (n + 22)
  rcases c with ⟨hs,c⟩ | ⟨hs,c⟩
  ·exact ⟨T,G,N,k,jS c,I,gk,hr,hs,hN⟩
  ·have hx:T.x 0 ≠ 0:=fun h => hs (.inl h)
   have hy:T.y 0 ≠ 0:=fun h => hs (.inr (.inl h))
   have hb:T.mv.length < B:=Nat.lt_of_not_le fun h => hs (.inr (.inr h))
   obtain ⟨p,hp,hpl,hpN,px,py⟩:=Dr h3 I last 0 (by omega) I.n0 hx hy
   have hmv:=L.mv
   obtain ⟨S',G',g1,g2,g3,g4,g5⟩:=Eo (row:=row) (a:=a) (J:=J) (X:=X) (by omega:N ≤ 800) (FQ I gk) hp I.st0 (by omega) (by omega) last n
   obtain ⟨I',hcnt,hch⟩:=zx h3 hodd (by omega) I hp px py g1 g5 (G.length + 1)
   have gk':GK (T.grow b S' last (G.length + 1) p) G':=fun v i cs h => by
    rcases hch v i cs h with h | ⟨rfl,rfl⟩
    ·exact g4.at (gk v i cs h)
    ·exact g3
   have hr':qW b S last B (k + 1) (T.grow b S' last (G.length + 1) p).er:=by
    rw [CG]
    exact .succ k T.er p S' hr hx hy hb (EL hp) g1
   have hcl:=Ev L
   have lm:=pY (I.wf _ S' g1)
   obtain ⟨T2,G2,N2,k2,r,q⟩:=xj h3 hodd hml hms hB hz n w f _ G' _ (k + 1) I' gk' hr' (by omega) (by omega) (by omega) f0 f1 f2 f3
   have ml:aQ .Mult 2 moves = some (2 * moves):=by
    show (if small 2 && small moves then some (2 * moves) else none) = _
    rw [hms]; rfl
   have sb:aQ .Sub (2 * moves) 1 = some (last:Int):=by rw [d9,hml]
   exact ⟨T2,G2,N2,k2,nR c (ak (aD (aM (ar (loc f3) (ar (loc f0) (ar (aL (aL aH (loc f1) ml) aH sb) aG))) g2) rfl) rfl) r,q⟩
theorem pH {T:Tr} {G:H} {P:PS} (L:T.Len N) (hN:N ≤ 1000) (n:Nat) (chk:H → Bool) (hk:chk (ht row a b P J T G) = true):∀ (cs:List Nat) (f:Fm),(∀ c ∈ cs,c < N) → f 3 = some (.ref (47 + J.length)) →
  ∃ f',bQ chk 4 (ag [aU (ax .Eq (av (ai (aa 3) "proofs") (aa 4)) (ac (.int 0))) (ag [aw (dM [(ac (.int 1)),(av (ai (aa 3) "moves") (aa 4)),(af (run ah (n + 1)) "len" [(ai (aa 3) "moves")])])]) (ag [])]) (nV cs) f (ht row a b P J T G) =
   some (match cs.find? (fun c => T.x c == 0) with | some c => .ret (.tup [1,(T.m c:Int),(T.mv.length:Int)]) | none => .next,f',ht row a b P J T G)
 | [],f,_,_ => ⟨f,rfl⟩
 | c :: cs,f,hc,f3 => by
  haveI hcN:=hc c (.head _)
  have t:ax .Eq (av (ai (aa 3) "proofs") (aa 4)) (ac (.int 0)) (upd f 4 (.int c)) (ht row a b P J T G) = some (decide ((T.x c:Int) = 0),_):=aq (Cg L hN hcN (loc f3) (loc rfl)) aH (jd _ _ _)
  rw [List.find?_cons]
  by_cases h:T.x c = 0
  ·rw [decide_eq_true (by omega)] at t
   rw [show (T.x c == 0) = true by simpa using h]
   exact ⟨_,gj (aN (aT t (aN (aC (eN (ar aH (ar (GU L hN hcN (loc f3) (loc rfl)) (ar (lW L hN n (loc f3)) aG))) rfl)))))⟩
  ·rw [decide_eq_false (by omega)] at t
   rw [show (T.x c == 0) = false by simpa using h]
   obtain ⟨f',r⟩:=pH L hN n chk hk cs (upd f 4 (.int c)) (fun d hd => hc d (.tail _ hd)) f3
   exact ⟨f',bE (ak (aI t) rfl) hk r⟩
theorem BJ {P:PS} {x:Str} {v:V} {c:Str} {as:List (Str × V)} {R:H} (hx:dj x = true) (hl:as.length ≤ 100):bj (.ref (47 + J.length)) x v (hp row a b P (J ++ (.inst c as :: R))) = some (hp row a b P (J ++ (.inst c (gV x v as) :: R))):=by
 haveI hg:(hp row a b P (J ++ (.inst c as :: R)))[47 + J.length]? = some (.inst c as):=by rw [eM,List.getElem?_append_right (Nat.le_refl _),Nat.sub_self,List.getElem?_cons_zero]
 unfold bj
 simp only [hg]
 rw [if_pos ⟨hx,hl⟩,BL,List.set_append_right _ _ (Nat.le_refl _),Nat.sub_self]
 rfl
theorem gF {P:PS} {x:Str} {c:Str} {as:List (Str × V)} {R:H} {f:Fm} {e:Ex} {v:V} (f0:f 0 = some (.ref (47 + J.length))) (hx:dj x = true) (hl:as.length ≤ 100) (ke:∀ h,e f h = some (v,h)) :
  a8 (aa 0) x (aP [e]) f (hp row a b P (J ++ (.inst c as :: R))) = some (.next,f,hp row a b P (J ++ (.inst c (gV x (.ref (47 + (J.length + (1 + R.length)))) as) :: (R ++ [.list [v]])))):=by
 haveI z:=a9 row a (J:=J ++ (.inst c as :: R)) (P:=P) (b:=b) (ar (ke _) aG)
 rw [List.append_assoc,List.cons_append] at z
 haveI e1:(J ++ (MO.inst c as :: R)).length = J.length + (1 + R.length):=by simp; omega
 rw [e1] at z
 exact c8 z (loc f0) (BJ hx hl)
theorem uo {P:PS} (S:St) (n:Nat):run ah (n + 2) "ProofTree" [] (hp row a b P J) = some (.ref (47 + J.length),ht row a b P J (Tr.init S) []):=by
 haveI e:run ah (n + 2) "ProofTree" [] (hp row a b P J) = (run ah (n + 1) "ProofTree.__init__" [.ref (hp row a b P J).length] (hp row a b P J ++ [.inst "ProofTree" []])).bind fun q => if q.1 = .none then some (.ref (hp row a b P J).length,q.2) else none:=by kernel_rfl
 rw [e,cH,kW]
 haveI r:run ah (n + 1) "ProofTree.__init__" [.ref (47 + J.length)] (hp row a b P (J ++ [.inst "ProofTree" []])) = some (.none,ht row a b P J (Tr.init S) []):=by
  refine (iA ..).trans ?_
  refine ae (gF rfl rfl (by show 0 ≤ 100; decide) (fun _ => rfl)) ?_
  refine ae (gF rfl rfl (by show 1 ≤ 100; decide) (fun _ => rfl)) ?_
  refine ae (gF rfl rfl (by show 2 ≤ 100; decide) (fun _ => rfl)) ?_
  refine ae (gF rfl rfl (by show 3 ≤ 100; decide) (fun _ => rfl)) ?_
  exact ae (gF rfl rfl (by show 4 ≤ 100; decide) (fun _ => rfl)) rfl
 rw [r]
 rfl
end
end
section
open PySem
section
variable {row:List Int} {a:Int} {b:B3} {S:St} {X:dL} {J:H} {last N:Nat}
theorem Hm (W:WF b S) (h3:last ≤ 3) (hodd:last % 2 = 1) {moves:Int} (hml:2 * moves - 1 = (last:Int)) (hms:small moves = true) {B:Nat} (hB:B ≤ 500) (hz:X.hist.length ≤ 800) (n:Nat) (hn:B ≤ n) (J:H) :
  ∃ k T K,qW b S last B k T ∧ vX T B ∧ T.mv.length ≤ B + 200 ∧ (T.x 0 = 0 → ∃ m ∈ LM b S,T.res = [1,(m:Int),(T.mv.length:Int)] ∧ Wn b (last - 1) (DO S m)) ∧
   run ah (n + 24) "proof_search" [.ref 42,.int moves,.int B] (hs row a b S X J) = some (.tup T.res,hs row a b S X (J ++ K)):=by
 have hp0:0 < last:=by omega
 obtain ⟨T,G,N,k,r,I,gk,hr,hs',hN⟩:=xj (row:=row) (a:=a) (J:=J) h3 hodd hml hms hB hz n (n + 23) (upd (upd (upd (upd nf 0 (.ref 42)) 1 (.int moves)) 2 (.int B)) 3 (.ref (47 + J.length))) (Tr.init S) [] 1 0
  (yI hp0 W) (fun v i cs h => by cases v <;> cases h) .zero (by omega) (by show B + 1 ≤ 0 + _; omega) (by omega) rfl rfl rfl rfl
 have L:=I.len
 have hN1:N ≤ 1000:=by omega
 have t0:ax .LtE (aa 1) (ac (.int 0)) (upd (upd (upd (upd nf 0 (.ref 42)) 1 (.int moves)) 2 (.int B)) 3 (.ref (47 + J.length))) (ht row a b (S.ps b X) J (Tr.init S) []) = some (false,_):=aq (loc rfl) aH ((qV _ _ _).trans (congrArg some (decide_eq_false (by omega))))
 have t1:ax .Eq (av (ai (aa 3) "proofs") (ac (.int 0))) (ac (.int 0)) (upd (upd (upd (upd nf 0 (.ref 42)) 1 (.int moves)) 2 (.int B)) 3 (.ref (47 + J.length))) (ht row a b (S.ps b X) J T G) = some (decide ((T.x 0:Int) = 0),_):=aq (Cg L hN1 I.n0 (loc rfl) aH) aH (jd _ _ _)
 have t2:ax .Eq (av (ai (aa 3) "disproofs") (ac (.int 0))) (ac (.int 0)) (upd (upd (upd (upd nf 0 (.ref 42)) 1 (.int moves)) 2 (.int B)) 3 (.ref (47 + J.length))) (ht row a b (S.ps b X) J T G) = some (decide ((T.y 0:Int) = 0),_):=aq (ED L hN1 I.n0 (loc rfl) aH) aH (jd _ _ _)
 have sz:=lW (row:=row) (a:=a) (b:=b) (J:=J) (T:=T) (G:=G) (P:=S.ps b X) (e:=aa 3) (f:=upd (upd (upd (upd nf 0 (.ref 42)) 1 (.int moves)) 2 (.int B)) 3 (.ref (47 + J.length))) L hN1 (n + 22) (loc rfl)
 have pre:∀ v,fin (ag _ (upd (upd (upd (upd nf 0 (.ref 42)) 1 (.int moves)) 2 (.int B)) 3 (.ref (47 + J.length))) (ht row a b (S.ps b X) J T G)) = some (v,ht row a b (S.ps b X) J T G) → run ah (n + 24) "proof_search" [.ref 42,.int moves,.int B] (hs row a b S X J) = some (v,hs row a b S X (J ++ (tT J.length T ++ G))):=fun v z => by
  rw [gg]
  exact ae (am (aM aG (uo S (n + 21)))) (ae (aI t0) (ae r z))
 refine ⟨k,T.er,tT J.length T ++ G,hr,hs',by have:=L.mv; show T.mv.length ≤ B + 200; omega,?_⟩
 rw [Dw]
 by_cases hx:T.x 0 = 0
 ·rw [decide_eq_true (by omega)] at t1
  have hc0:∃ i cs,T.ch[0]? = some (some (i,cs)):=by
   cases hc:T.ch[0]? with
   | none => rw [List.getElem?_eq_none_iff,L.ch] at hc; have:=I.n0; omega
   | some o => cases o with
    | none => have:=((I.leaf 0 S hc I.st0).2.1 (by rw [I.pl0])).1; omega
    | some x => exact ⟨x.1,x.2,rfl⟩
  obtain ⟨i,cs,hc⟩:=hc0
  obtain ⟨k1,k2,k3⟩:=I.kid 0 i cs S hc I.st0
  have hcons:=I.cons 0 i cs hc fun h => h
  rw [if_pos (by rw [I.pl0])] at hcons
  obtain ⟨c1,hc1,hc0⟩:=wN (x:=T.x) (hcons.1.symm.trans hx)
  have hf:∃ c,cs.find? (fun c => T.x c == 0) = some c:=by
   cases h:cs.find? (fun c => T.x c == 0) with
   | some c => exact ⟨c,rfl⟩
   | none => exfalso; have:=List.find?_eq_none.mp h c1 hc1; rw [hc0] at this; exact this rfl
  obtain ⟨c,hf⟩:=hf
  have hcm:=List.mem_of_find?_eq_some hf
  have hcx:T.x c = 0:=by have:=List.find?_some hf; simpa using this
  obtain ⟨z1,z2,z3,z4⟩:=k3 c hcm
  have hres:T.res = [1,(T.m c:Int),(T.mv.length:Int)]:=by unfold Tr.res; rw [if_pos hx,hc]; simp only [hf]
  refine ⟨fun _ => ⟨T.m c,by rw [← k2]; exact List.mem_map.mpr ⟨c,hcm,rfl⟩,hres,?_⟩,?_⟩
  ·have:=I.won c _ z4 hcx
   rw [z3,I.pl0] at this
   exact this
  ·rw [hres]
   obtain ⟨f',lp⟩:=pH (row:=row) (a:=a) (b:=b) (J:=J) (T:=T) (G:=G) (P:=S.ps b X) L hN1 (n + 22) (fun h'' => stays (.ref (47 + (J.length + (6 + i)))) (ht row a b (S.ps b X) J T G) h'') (by simp [stays]) cs (upd (upd (upd (upd nf 0 (.ref 42)) 1 (.int moves)) 2 (.int B)) 3 (.ref (47 + J.length))) (fun c hc => (k3 c hc).2.1) rfl
   rw [hf] at lp
   exact pre _ (aA (aT t1 (aN (br (nb (loc rfl) aH (by rw [L.ch]; exact hN1) hc) (wI (gk 0 i cs hc)) lp))))
 ·rw [decide_eq_false (by omega)] at t1
  refine ⟨fun h => absurd h hx,?_⟩
  by_cases hy:T.y 0 = 0
  ·rw [decide_eq_true (by omega)] at t2
   have hres:T.res = [-1,0,(T.mv.length:Int)]:=by unfold Tr.res; rw [if_neg hx,if_pos hy]
   rw [hres]
   exact pre _ (ae (aI t1) (aA (aT t2 (aN (aC (eN (ar aH (ar aH (ar sz aG))) rfl))))))
  ·rw [decide_eq_false (by omega)] at t2
   have hres:T.res = [0,0,(T.mv.length:Int)]:=by unfold Tr.res; rw [if_neg hx,if_neg hy]
   rw [hres]
   exact pre _ (ae (aI t1) (ae (aI t2) (aA (aC (eN (ar aH (ar aH (ar sz aG))) rfl)))))
theorem Fw {moves:Int} (hm:moves ≤ 0) (B n:Nat) (J:H):∃ K,run ah (n + 24) "proof_search" [.ref 42,.int moves,.int B] (hs row a b S X J) = some (.tup [-1,0,1],hs row a b S X (J ++ K)):=by
 have L:(Tr.init S).Len 1:=⟨rfl,rfl,rfl,rfl,rfl,rfl⟩
 have Lp:=L.put 0 ff 0
 refine ⟨tT J.length ((Tr.init S).put 0 ff 0) ++ [],?_⟩
 rw [gg]
 haveI t0:ax .LtE (aa 1) (ac (.int 0)) (upd (upd (upd (upd nf 0 (.ref 42)) 1 (.int moves)) 2 (.int B)) 3 (.ref (47 + J.length))) (ht row a b (S.ps b X) J (Tr.init S) []) = some (true,_):=aq (loc rfl) aH ((qV _ _ _).trans (congrArg some (decide_eq_true hm)))
 haveI se:=tr (row:=row) (a:=a) (b:=b) (J:=J) (G:=[]) (P:=S.ps b X) L (by decide) (by decide:0 < 1) (-1) (n + 22)
 haveI t1:ax .Eq (av (ai (aa 3) "proofs") (ac (.int 0))) (ac (.int 0)) (upd (upd (upd (upd nf 0 (.ref 42)) 1 (.int moves)) 2 (.int B)) 3 (.ref (47 + J.length))) (ht row a b (S.ps b X) J ((Tr.init S).put 0 ff 0) []) = some (false,_):=aq (Cg (v:=0) Lp (by decide) (by decide) (loc rfl) aH) aH rfl
 haveI t2:ax .Eq (av (ai (aa 3) "disproofs") (ac (.int 0))) (ac (.int 0)) (upd (upd (upd (upd nf 0 (.ref 42)) 1 (.int moves)) 2 (.int B)) 3 (.ref (47 + J.length))) (ht row a b (S.ps b X) J ((Tr.init S).put 0 ff 0) []) = some (true,_):=aq (ED (v:=0) Lp (by decide) (by decide) (loc rfl) aH) aH rfl
 haveI c:=Fp (row:=row) (a:=a) (b:=b) (J:=J) (G:=[]) (P:=S.ps b X) (B:=B) (f:=upd (upd (upd (upd nf 0 (.ref 42)) 1 (.int moves)) 2 (.int B)) 3 (.ref (47 + J.length))) Lp (by decide) (by decide) rfl rfl (n + 22)
 have c:pC (n + 23) (upd (upd (upd (upd nf 0 (.ref 42)) 1 (.int moves)) 2 (.int B)) 3 (.ref (47 + J.length))) (ht row a b (S.ps b X) J ((Tr.init S).put 0 ff 0) []) = some (false,ht row a b (S.ps b X) J ((Tr.init S).put 0 ff 0) []):=by
  rcases c with c | c
  ·exact c.2
  ·exact absurd (.inr (.inl rfl)) c.1
 haveI sz:=lW (row:=row) (a:=a) (b:=b) (J:=J) (T:=(Tr.init S).put 0 ff 0) (G:=[]) (P:=S.ps b X) (e:=aa 3) (f:=upd (upd (upd (upd nf 0 (.ref 42)) 1 (.int moves)) 2 (.int B)) 3 (.ref (47 + J.length))) Lp (by decide) (n + 22) (loc rfl)
 exact ae (am (aM aG (uo S (n + 21)))) (ae (aT t0 (ak (aD (v9 (k := "ProofTree.settle") rfl rfl (loc rfl) (ar (aH (v:=.int 0)) (ar aH aG)) se) rfl) rfl))
  (ae (jS c) (ae (aI t1) (aA (aT t2 (aN (aC (eN (ar aH (ar aH (ar sz aG))) rfl))))))))
end
end
section
open PySem
section
variable {row:List Int} {a:Int} {b:B3} {S:St} {X:dL} {J:H} {last N:Nat}
theorem Cl {B k:Nat}:∀ {T:Tr},qW b S last B k T → 1 ≤ T.mv.length:=by
 induction k with
 | zero => intro T h; rw [rC h]; exact Nat.le_refl 1
 | succ k ih =>
  intro T h
  obtain ⟨T1,p,S',h1,_,_,_,_,_,rfl⟩:=i6 h
  exact Nat.le_trans (ih h1) (mj T1 S' 0 p)
theorem FZ (h:Wn b 2 S):MD b S = true ∨ MT b S = true:=by
 unfold Wn at h
 rw [if_neg (by decide)] at h
 rcases h with h | ⟨h1,h2⟩
 ·exact .inr h
 ·left
  unfold MD
  rw [if_neg h1,List.all_eq_true]
  intro m hm
  haveI:=h2 m hm
  unfold Wn at this
  rw [if_pos (by decide)] at this
  obtain ⟨q,hq,hw⟩:=this
  unfold CM
  rw [List.any_eq_true]
  exact ⟨q,hq,hw⟩
theorem Gj (W:WF b S) (h:MT b S = true):MD b S = true:=by
 rw [CZ W,Bool.and_eq_true,decide_eq_true_eq] at h
 unfold MD; rw [if_pos h.2,h.1]
theorem DB (W:WF b S) {moves:Int} (hml:2 * moves - 1 = (last:Int)) (h3:last ≤ 3) (hp:0 < moves) (hw:Wn b (last - 1) S) (X:dL) (hz:X.hist.length ≤ 890) (J:H) (n:Nat) :
  jN row a b (S.ps b X) J (n + 22) "is_mated_in" [.ref 42,.int (moves - 1)] (.bool true):=by
 rcases (by omega:moves = 1 ∨ moves = 2) with rfl | rfl
 ·haveI:last = 1:=by omega
  subst this
  haveI h:MT b S = true:=hw
  haveI:=gm row a X J W (k:=0) (by decide) (n + 2)
  rw [h] at this
  exact this
 ·haveI:last = 3:=by omega
  subst this
  haveI h:MD b S = true:=(FZ hw).elim id (Gj W)
  haveI:=sX row a X J W hz n
  rw [h] at this
  exact this
theorem Bj (l:List Int) (h:H):bI .Eq (.tup l) (.tup l) h = some true:=by
 rw [nk]
 show some (l == l) = _
 rw [beq_self_eq_true]
theorem wR (l:List Int) (h:H):bI .NotEq (.tup l) (.tup l) h = some false:=by
 rw [iN]
 show (some (l == l)).map _ = _
 rw [beq_self_eq_true]; rfl
theorem mF (W:WF b S) {moves:Int} (hm:moves = -1 ∨ moves = 0 ∨ moves = 1 ∨ moves = 2) {B:Nat} (hB:B ≤ 13) (hz:X.hist.length ≤ 800) (n:Nat) (hn:300 ≤ n) :
  jN row a b (S.ps b X) J (n + 25) "_law_search_right" [.ref 42,.int moves,.int B] (.bool true):=by
 suffices key:∃ K,run ah (n + 25) "_law_search_right" [.ref 42,.int moves,.int B] (hs row a b S X J) = some (.bool true,hs row a b S X (J ++ K)) from let ⟨K,r⟩:=key; ⟨K,r⟩
 rw [gX]
 refine CO fun Z hZ => ?_
 by_cases h0:moves ≤ 0
 ·obtain ⟨K,r⟩:=Fw (row:=row) (a:=a) (b:=b) (S:=S) (X:=X) h0 B n J
  have c:=Dx row a (b:=b) (S:=S) X (J ++ K) h0 (n + 23)
  refine hZ K (ae (am (aM (ar (loc rfl) (ar (loc rfl) (ar (loc rfl) aG))) r)) (ae (mT (loc rfl) rfl) (aA (aT (aq (loc rfl) aH ((qV _ _ _).trans (congrArg some (decide_eq_true h0)))) (aN (aC (cY (bL (loc rfl) (eN (ar (pP aH) (ar aH (ar aH aG))) rfl) rfl) (C4 (aM (ar (loc rfl) (ar (loc rfl) aG)) c)))))))))
 ·obtain ⟨last,hml,h3,hodd⟩:∃ last:Nat,2 * moves - 1 = (last:Int) ∧ last ≤ 3 ∧ last % 2 = 1:=by
   rcases hm with rfl | rfl | rfl | rfl
   ·omega
   ·omega
   ·exact ⟨1,rfl,by decide,rfl⟩
   ·exact ⟨3,rfl,by decide,rfl⟩
  haveI hms:small moves = true:=by rcases hm with rfl | rfl | rfl | rfl <;> rfl
  haveI hmp:0 < moves:=by omega
  have ps:=fun B hB hn J => Hm (row:=row) (a:=a) (X:=X) W h3 hodd hml hms (B:=B) hB hz n hn J
  obtain ⟨k,T,K,rn,st,hl,hw,r⟩:=ps B (by omega) (by omega) J
  have tm:∀ (f:Fm) (h:H),f 1 = some (.int moves) → ax .LtE (aa 1) (ac (.int 0)) f h = some (false,h):=fun f h f1 => aq (loc f1) aH ((qV _ _ _).trans (congrArg some (decide_eq_false h0)))
  by_cases hb1:B ≤ 1
  ·haveI hT:T.res = [0,0,1]:=by
    cases rn with
    | zero => rfl
    | succ k T' p S' h _ _ hB' _ _ => haveI:=Cl h; omega
   rw [hT] at r
   exact hZ K (ae (am (aM (ar (loc rfl) (ar (loc rfl) (ar (loc rfl) aG))) r)) (ae (mT (loc rfl) rfl) (ae (aI (tm _ _ rfl)) (aA (aT (aq (loc rfl) aH ((qV _ _ _).trans (congrArg some (decide_eq_true (by omega))))) (aN (aC (bL (loc rfl) (eN (ar aH (ar aH (ar aH aG))) rfl) rfl))))))))
  ·haveI tb:∀ (f:Fm) (h:H),f 2 = some (.int B) → ax .LtE (aa 2) (ac (.int 1)) f h = some (false,h):=fun f h f2 => aq (loc f2) aH ((qV _ _ _).trans (congrArg some (decide_eq_false (by omega))))
   by_cases hst:T.x 0 = 0 ∨ T.y 0 = 0
   ·-- settled
    obtain ⟨k2,T2,K2,rn2,st2,_,_,r2⟩:=ps (T.mv.length + 3) (by omega) (by omega) (J ++ K)
    haveI e:=Aq rn hst rn2 st2
    rw [e] at r2
    haveI nd:aQ .Add (T.mv.length:Int) 3 = some ((T.mv.length + 3:Nat):Int):=by rw [kU]; rfl
    by_cases hx:T.x 0 = 0
    ·obtain ⟨m,hmm,hres,hwn⟩:=hw hx
     rw [hres] at r r2
     obtain ⟨X',d1,dl,bk⟩:=sM row a W hmm (X:=X) (by omega) (n + 20) (J ++ K ++ K2)
     obtain ⟨K3,lr⟩:=DB (row:=row) (a:=a) (h9 W hmm) hml h3 hmp hwn X' (by omega) (J ++ K ++ K2) (n + 2)
     haveI un:=bk (n + 20) (J ++ K ++ K2 ++ K3)
     refine hZ (K ++ K2 ++ K3) ?_
     rw [← List.append_assoc,← List.append_assoc]
     haveI sb:aQ .Sub moves 1 = some (moves - 1):=rfl
     exact ae (am (aM (ar (loc rfl) (ar (loc rfl) (ar (loc rfl) aG))) r)) (ae (mT (loc rfl) rfl) (ae (aI (tm _ _ rfl)) (ae (aI (tb _ _ rfl)) (ae (aI (aq (loc rfl) aH rfl))
      (ae (aI (aq (aM (ar (loc rfl) (ar (loc rfl) (ar (aL (loc rfl) aH nd) aG))) r2) (loc rfl) (wR _ _))) (ae (aI (aq (loc rfl) aH rfl))
      (ae (aD (aM (ar (loc rfl) (ar (loc rfl) aG)) d1) rfl) (ae (am (aM (ar (loc rfl) (ar (aL (loc rfl) aH sb) aG)) lr)) (ae (aD (aM (ar (loc rfl) aG) un) rfl) (aA (aC (loc rfl))))))))))))
    ·haveI hy:T.y 0 = 0:=hst.resolve_left hx
     haveI hres:T.res = [-1,0,(T.mv.length:Int)]:=by unfold Tr.res; rw [if_neg hx,if_pos hy]
     rw [hres] at r r2
     refine hZ (K ++ K2) ?_
     rw [← List.append_assoc]
     exact ae (am (aM (ar (loc rfl) (ar (loc rfl) (ar (loc rfl) aG))) r)) (ae (mT (loc rfl) rfl) (ae (aI (tm _ _ rfl)) (ae (aI (tb _ _ rfl)) (ae (aI (aq (loc rfl) aH rfl))
      (ae (aI (aq (aM (ar (loc rfl) (ar (loc rfl) (ar (aL (loc rfl) aH nd) aG))) r2) (loc rfl) (wR _ _))) (aA (aT (aq (loc rfl) aH rfl) (aN (aC (bL (loc rfl) aH rfl))))))))))
   ·-- open
    haveI hx:T.x 0 ≠ 0:=fun h => hst (.inl h)
    haveI hy:T.y 0 ≠ 0:=fun h => hst (.inr h)
    haveI hbl:B ≤ T.mv.length:=(st.resolve_left hx).resolve_left hy
    haveI hres:T.res = [0,0,(T.mv.length:Int)]:=by unfold Tr.res; rw [if_neg hx,if_neg hy]
    rw [hres] at r
    obtain ⟨k2,T2,K2,_,st2,_,hw2,r2⟩:=ps (T.mv.length + 1) (by omega) (by omega) (J ++ K)
    obtain ⟨k3,T3,K3,rn3,st3,_,_,r3⟩:=ps T.mv.length (by omega) (by omega) (J ++ K ++ K2)
    haveI e:=Ak rn hx hy hbl rn3 st3
    subst e
    rw [hres] at r3
    haveI nd:aQ .Add (T3.mv.length:Int) 1 = some ((T3.mv.length + 1:Nat):Int):=by rw [kU]; rfl
    have fu:∃ c,∀ (f:Fm) (h:H),f 7 = some (.tup T2.res) → f 6 = some (.int T3.mv.length) → cf .Or [(cG .NotEq (av (aa 7) (ac (.int 0))) (ac (.int 0))),(cG .Gt (av (aa 7) (ac (.int 2))) (aa 6))] f h = some (.bool c,h) ∧ c = true:=by
     refine ⟨true,fun f h f7 f6 => ⟨?_,rfl⟩⟩
     by_cases hx2:T2.x 0 = 0
     ·obtain ⟨m,_,hr2,_⟩:=hw2 hx2
      rw [hr2] at f7
      exact zr (bL (a:=.int 1) (aW (loc f7) aH rfl) aH rfl)
     ·by_cases hy2:T2.y 0 = 0
      ·haveI hr2:T2.res = [-1,0,(T2.mv.length:Int)]:=by unfold Tr.res; rw [if_neg hx2,if_pos hy2]
       rw [hr2] at f7
       exact zr (bL (a:=.int (-1)) (aW (loc f7) aH rfl) aH rfl)
      ·haveI hr2:T2.res = [0,0,(T2.mv.length:Int)]:=by unfold Tr.res; rw [if_neg hx2,if_neg hy2]
       rw [hr2] at f7
       haveI:=(st2.resolve_left hx2).resolve_left hy2
       exact DI (bL (a:=.int 0) (aW (loc f7) aH rfl) aH rfl) (bL (a:=.int T2.mv.length) (aW (loc f7) aH rfl) (loc f6) ((ui _ _ _).trans (congrArg some (decide_eq_true (by omega)))))
    obtain ⟨c,fu⟩:=fu
    refine hZ (K ++ K2 ++ K3) ?_
    rw [← List.append_assoc,← List.append_assoc]
    haveI fu1:=fun f h h7 h6 => (fu f h h7 h6).1
    haveI hc:c = true:=(fu (upd (upd nf 7 (.tup T2.res)) 6 (.int T3.mv.length)) [] rfl rfl).2
    subst hc
    exact ae (am (aM (ar (loc rfl) (ar (loc rfl) (ar (loc rfl) aG))) r)) (ae (mT (loc rfl) rfl) (ae (aI (tm _ _ rfl)) (ae (aI (tb _ _ rfl)) (aA (aT (aq (loc rfl) aH rfl)
     (ak (am (aM (ar (loc rfl) (ar (loc rfl) (ar (aL (loc rfl) aH nd) aG))) r2)) (ak (am (fu1 _ _ rfl rfl)) (aN (aC (cY (bL (loc rfl) aH rfl)
      (cY (bL (loc rfl) (loc rfl) ((AL _ _ _).trans (congrArg some (decide_eq_true (by omega))))) (cY (loc rfl) (bL (aM (ar (loc rfl) (ar (loc rfl) (ar (loc rfl) aG))) r3) (loc rfl) (Bj _ _))))))))))))))
end
end
section
open PySem
noncomputable abbrev pn (row:List Int) (a:Int) (R:H):H:=iL row :: .dict [("row",.ref 0),("at",.int a)] :: R
section
variable {row:List Int} {a:Int} {R:H}
theorem qy:aO (.ref 1) (.str "at") (pn row a R) = some (.int a):=by kernel_rfl
theorem qR:aO (.ref 1) (.str "row") (pn row a R) = some (.ref 0):=by kernel_rfl
theorem Bd (x:Int):cy (.ref 1) (.str "at") (.int x) (pn row a R) = some (pn row x R):=by kernel_rfl
theorem Cn (n:Nat) (h:row.length ≤ 1000):run ah (n + 1) "len" [.ref 0] (pn row a R) = some (.int row.length,pn row a R):=by
 rw [sj n (l:=row.map V.int) rfl (by rw [List.length_map]; omega),List.length_map]
theorem zZ {x:Int} {m:Nat} (hm:0 < m):∃ v:Nat,v < m ∧ aQ .Mod x (m:Int) = some (v:Int):=by
 refine ⟨(x.fmod m).toNat,?_,?_⟩
 ·haveI:=Int.fmod_lt_of_pos x (by omega:(0:Int) < m)
  haveI:=Int.fmod_nonneg_of_pos x (by omega:(0:Int) < m)
  omega
 ·haveI:=Int.fmod_nonneg_of_pos x (by omega:(0:Int) < m)
  show (if (m:Int) ≠ 0 then some (x.fmod m) else none) = _
  rw [if_pos (by omega)]
  congr 1; omega
theorem CR {m:Nat} (hm:0 < m) (hr:row.length ≤ 1000) (ha:0 ≤ a) (ha':a ≤ 1000) (n:Nat):∃ v:Nat,v < m ∧ run ah (n + 2) "_law_number" [.ref 1,.int m] (pn row a R) = some (.int v,pn row (a + 1) R):=by
 have aug:co (aa 0) (ac (.str "at")) .Add (ac (.int 1)) (upd (upd nf 0 (.ref 1)) 1 (.int m)) (pn row a R) = some (.next,upd (upd nf 0 (.ref 1)) 1 (.int m),pn row (a + 1) R):=
  qs (loc rfl) aH qy aH (kU _ _) (Bd _)
 have ln:=Cn (row:=row) (a:=a + 1) (R:=R) n hr
 have t:ax .LtE (av (aa 0) (ac (.str "at"))) (af (run ah (n + 1)) "len" [(av (aa 0) (ac (.str "row")))]) (upd (upd nf 0 (.ref 1)) 1 (.int m)) (pn row (a + 1) R) = some (decide (a + 1 ≤ (row.length:Int)),pn row (a + 1) R):=
  aq (aW (loc rfl) aH qy) (aM (ar (aW (loc rfl) aH qR) aG) ln) (qV _ _ _)
 by_cases h:a + 1 ≤ (row.length:Int)
 ·rw [decide_eq_true h] at t
  obtain ⟨k,rfl⟩:∃ k:Nat,a = k:=⟨a.toNat,by omega⟩
  haveI hk:k < row.length:=by omega
  obtain ⟨v,hv,hm'⟩:=zZ (x:=row[k]) hm
  refine ⟨v,hv,?_⟩
  rw [hY]
  haveI g:aO (.ref 0) (.int k) (pn row (k + 1) R) = some (.int row[k]):=by
   show (if 0 ≤ (k:Int) ∧ (k:Int) ≤ 1000000 then (row.map V.int)[(k:Int).toNat]? else none) = _
   rw [if_pos ⟨by omega,by omega⟩,Int.toNat_natCast,List.getElem?_map,List.getElem?_eq_getElem hk]; rfl
  haveI sb:aQ .Sub ((k:Int) + 1) 1 = some (k:Int):=by rw [d9]; congr 1; omega
  exact ae aug (aA (aT t (aN (aC (aL (aW (aW (loc rfl) aH qR) (aL (aW (loc rfl) aH qy) aH sb) g) (loc rfl) hm')))))
 ·rw [decide_eq_false h] at t
  obtain ⟨v,hv,hm'⟩:=zZ (x:=7 * (a + 1 - row.length) - 4) hm
  refine ⟨v,hv,?_⟩
  rw [hY]
  haveI ml:aQ .Mult 7 (a + 1 - row.length) = some (7 * (a + 1 - row.length)):=by
   show (if small 7 && small (a + 1 - row.length) then some (7 * (a + 1 - row.length)) else none) = _
   rw [show small (a + 1 - row.length) = true by simp [small]; omega]; rfl
  exact ae aug (ae (aI t) (aA (aC (aL (aL (aL aH (aL (aW (loc rfl) aH qy) (aM (ar (aW (loc rfl) aH qR) aG) ln) (d9 _ _)) ml) aH (d9 _ _)) (loc rfl) hm'))))
end
theorem yO (chk:H → Bool) (h:H) (hc:chk h = true) (f':V → Fm) (ifs:Tx) (elt:Ex) (p:Nat → Bool):∀ cs:List Nat,(∀ c ∈ cs,ifs (f' (.int c)) h = some (p c,h) ∧ elt (f' (.int c)) h = some (.int c,h)) →
  dE chk f' ifs elt (nV cs) h = some (nV (cs.filter p),h)
 | [],_ => rfl
 | c :: cs,he => by
  haveI ih:=yO chk h hc f' ifs elt p cs fun x hx => he x (.tail _ hx)
  obtain ⟨e1,e2⟩:=he c (.head _)
  show (ifs (f' (.int c)) h).bind (fun t => if chk t.2 then (if t.1 then (elt (f' (.int c)) t.2).bind fun q => if chk q.2 then (dE chk f' ifs elt (nV cs) q.2).bind fun z => some (q.1 :: z.1,z.2) else none else dE chk f' ifs elt (nV cs) t.2) else none) = _
  rw [e1,Option.bind_some,hc,if_pos rfl,e2,Option.bind_some,hc,if_pos rfl,ih,Option.bind_some,List.filter_cons]
  cases p c <;> rfl
theorem zX {x:Nat} {cm:Nat → Option Nat} {it elt:Ex} {ifs:Tx} {f:Fm} {h:H} {b:B3} {p:Nat → Bool} (k:it f h = some (.range 0 (al b) 1,h))
  (he:∀ c,c < al b → ifs (fun j => if j = x then some (.int c) else (cm j).bind f) h = some (p c,h) ∧ elt (fun j => if j = x then some (.int c) else (cm j).bind f) h = some (.int c,h)) :
  dz x cm it ifs elt f h = some (.ref h.length,h ++ [nL ((List.range (al b)).filter p)]):=by
 haveI iq:az (.range 0 (al b) 1) h = some (nV (List.range (al b))):=by rcases b with _|_|_ <;> kernel_rfl
 haveI hl:=aR b
 unfold dz
 rw [k]
 simp only [Option.bind_some,iq]
 rw [if_pos (by unfold nV; simp; omega),yO _ h (by simp [stays]) (fun v j => if j = x then some v else (cm j).bind f) ifs elt p _ fun c hc => he c (List.mem_range.mp hc)]
 rfl
theorem xq (n:Nat) (k:Int) (h:H):run ah (n + 1) "range" [.int k] h = some (.range 0 k 1,h):=by kernel_rfl
noncomputable def DR (b:B3) (k c:Nat):Bool:=decide (1 < ((c % cM b:Nat) - (k % cM b:Nat):Int).natAbs) || decide (1 < ((c / cM b:Nat) - (k / cM b:Nat):Int).natAbs)
noncomputable def jf (b:B3) (k:Nat):List Nat:=(List.range (al b)).filter (DR b k)
noncomputable abbrev Hk:Tx:=cb [(cI .Or [(ax .Gt (af bJ "abs" [(ao .Sub (ao .Mod (aa 1) (aa 3)) (ao .Mod (aa 4) (aa 3)))]) (ac (.int 1))),(ax .Gt (af bJ "abs" [(ao .Sub (ao .FloorDiv (aa 1) (aa 3)) (ao .FloorDiv (aa 4) (aa 3)))]) (ac (.int 1)))])]
noncomputable def Hc (b:B3) (k c:Nat):Fm:=fun j => if j = 1 then some (.int c) else (fm [none,none,none,some 0,some 2] j).bind (upd (upd (upd nf 0 (.int (cM b))) 1 (.int (al b))) 2 (.int k))
theorem BP (b:B3) (h:H):((List.range 12).map fun k => (List.range 12).map fun c => Hk (Hc b k c) h) = (List.range 12).map fun k => (List.range 12).map fun c => some (DR b k c,h):=by rcases b with _|_|_ <;> kernel_rfl
theorem Fe {b:B3} {k:Nat} (hk:k < al b) (n:Nat) (h:H):run ah (n + 2) "_law_far" [.int (cM b),.int (al b),.int k] h = some (.ref h.length,h ++ [nL (jf b k)]):=by
 haveI hl:=aR b
 refine (vQ ..).trans ?_
 refine aA (aC (zX (p:=DR b k) (aM (ar (loc rfl) aG) (xq n _ h)) fun c hc => ⟨?_,loc rfl⟩))
 haveI t1:=List.map_inj_left.mp (BP b h) k (List.mem_range.mpr (by omega))
 exact List.map_inj_left.mp t1 c (List.mem_range.mpr (by omega))
theorem xw {b:B3} {k s:Nat} (hs:s ∈ jf b k) (hk:k < al b):s < al b ∧ k ≠ s ∧ (cu b s).testBit k = false:=by
 haveI:∀ b:B3,∀ k:Fin 12,∀ s ∈ jf b k.val,s < al b ∧ (k.val < al b → k.val ≠ s ∧ (cu b s).testBit k.val = false):=by intro b; rcases b with _|_|_ <;> decide +kernel
 haveI hl:=aR b
 obtain ⟨h1,h2⟩:=this b ⟨k,by omega⟩ s hs
 exact ⟨h1,h2 hk⟩
theorem sy (b:B3):jf b 0 ≠ []:=by rcases b with _|_|_ <;> decide
noncomputable def kQ (b:B3) (m t:Nat):List Nat:=(List.range (al b)).filter fun s => decide (s ≠ m) && decide (s ≠ t)
theorem AY {b:B3} {m t:Nat} {f:Fm} (n:Nat) (h:H) (f3:f 3 = some (.int (al b))) (f7:f 7 = some (.int m)) (f9:f 9 = some (.int t)) :
  dz 1 (fm [none,none,some 7,some 9]) (af (run ah (n + 1)) "range" [(aa 3)]) (cb [(cI .And [(ax .NotEq (aa 1) (aa 2)),(ax .NotEq (aa 1) (aa 3))])]) (aa 1) f h = some (.ref h.length,h ++ [nL (kQ b m t)]):=by
 refine zX (b:=b) (p:=fun s => decide (s ≠ m) && decide (s ≠ t)) (aM (ar (loc f3) aG) (xq n _ h)) fun c hc => ⟨?_,loc rfl⟩
 have t1:ax .NotEq (aa 1) (aa 2) (fun j => if j = 1 then some (.int c) else (fm [none,none,some 7,some 9] j).bind f) h = some (!decide ((c:Int) = (m:Int)),h):=aq (loc rfl) (loc f7) (tP _ _ _)
 have t2:ax .NotEq (aa 1) (aa 3) (fun j => if j = 1 then some (.int c) else (fm [none,none,some 7,some 9] j).bind f) h = some (!decide ((c:Int) = (t:Int)),h):=aq (loc rfl) (loc f9) (tP _ _ _)
 haveI tt:cI .And [(ax .NotEq (aa 1) (aa 2)),(ax .NotEq (aa 1) (aa 3))] (fun j => if j = 1 then some (.int c) else (fm [none,none,some 7,some 9] j).bind f) h = some (decide (c ≠ m) && decide (c ≠ t),h):=by
  by_cases h1:c = m
  ·rw [decide_eq_true (by omega)] at t1
   rw [decide_eq_false (fun q => q h1)]
   exact iO t1
  ·rw [decide_eq_false (by omega)] at t1
   rw [decide_eq_true h1,Bool.true_and]
   by_cases h2:c = t
   ·rw [decide_eq_true (by omega)] at t2
    rw [decide_eq_false (fun q => q h2)]
    exact dD t1 (iO t2)
   ·rw [decide_eq_false (by omega)] at t2
    rw [decide_eq_true h2]
    exact dD t1 (dD t2 rl)
 show ((cI .And [(ax .NotEq (aa 1) (aa 2)),(ax .NotEq (aa 1) (aa 3))] _ h).bind fun p => if p.1 then cb [] _ p.2 else some (false,p.2)) = _
 rw [tt,Option.bind_some]
 cases (decide (c ≠ m) && decide (c ≠ t)) <;> rfl
theorem uV {b:B3} {m t s:Nat} (h:s ∈ kQ b m t):s < al b ∧ s ≠ m ∧ s ≠ t:=by
 obtain ⟨h1,h2⟩:=List.mem_filter.mp h
 rw [Bool.and_eq_true,decide_eq_true_eq,decide_eq_true_eq] at h2
 exact ⟨List.mem_range.mp h1,h2⟩
theorem Ca (b:B3) (m t:Nat):kQ b m t ≠ []:=fun h => by
 haveI h3:3 ≤ al b:=by rcases b with _|_|_ <;> decide
 haveI:∃ s,s < 3 ∧ s ≠ m ∧ s ≠ t:=by
  by_cases h0:m = 0 ∨ t = 0
  ·by_cases h1:m = 1 ∨ t = 1
   ·exact ⟨2,by omega,by omega,by omega⟩
   ·exact ⟨1,by omega,by omega,by omega⟩
  ·exact ⟨0,by omega,by omega,by omega⟩
 obtain ⟨s,q1,q2,q3⟩:=this
 haveI:=List.filter_eq_nil_iff.mp h s (List.mem_range.mpr (by omega))
 simp [q2,q3] at this
end
section
open PySem
noncomputable def P0 (b:B3):PS:=⟨List.replicate (al b) 0,0,0,0,0,0,0,0,0,1,0,[]⟩
noncomputable def sf (b:B3):Fm:=upd (upd (upd (upd nf 0 (.ref 1)) 1 (.int (cM b))) 2 (.int (vq b))) 3 (.int (al b))
noncomputable abbrev e5 (n:Nat):Ex:=dz 1 (fm [none,none,none,some 3]) (af (run ah n) "range" [(ac (.int 15))]) (cb []) (dz 1 (fm [none,none,some 1]) (af bJ "range" [(aa 3)]) (cb []) (ao .Mult (ao .Add (ao .Add (ao .Mult (aa 2) (ac (.int 31))) (aa 1)) (ac (.int 1))) (ac (.int 65537))))
noncomputable abbrev e6 (n:Nat):Ex:=af (run ah n) "Position" [(af (run ah n) "make_geometry" [(aa 1),(aa 2),(ac (.bool false)),(ac (.bool false))]),(af (run ah n) "Zobrist" [(aa 5),(yf (ac (.int 0)) (aa 1)),(yf (ac (.int 0)) (ac (.int 16))),(ac (.int 1))])]
section
variable (row:List Int) (a:Int) (b:B3)
theorem Hj (n:Nat):e5 (n + 60) (sf b) (pn row a []) = some (.ref 17,pn row a ((AS b).take 16)):=by rcases b with _|_|_ <;> kernel_rfl
theorem HD (n:Nat):e6 (n + 60) (upd (sf b) 5 (.ref 17)) (pn row a ((AS b).take 16)) = some (.ref 42,hp row a b (P0 b) []):=by rcases b with _|_|_ <;> kernel_rfl
theorem AH {v:Nat} (hv:v < 3):∃ b:B3,∀ h:H,aO (.tup2 [[3,3],[2,4],[3,4]]) (.int v) h = some (.tup [(cM b:Int),(vq b:Int)]):=by
 match v,hv with
 | 0,_ => exact ⟨.b0,fun _ => rfl⟩
 | 1,_ => exact ⟨.b1,fun _ => rfl⟩
 | 2,_ => exact ⟨.b2,fun _ => rfl⟩
theorem A3 {v:Nat} (hv:v < 3):∃ j:Nat,(j = 3 ∨ j = 4 ∨ j = 5) ∧ ∀ h:H,aO (.tup [5,4,3]) (.int v) h = some (.int j):=by
 match v,hv with
 | 0,_ => exact ⟨5,.inr (.inr rfl),fun _ => rfl⟩
 | 1,_ => exact ⟨4,.inr (.inl rfl),fun _ => rfl⟩
 | 2,_ => exact ⟨3,.inl rfl,fun _ => rfl⟩
theorem Bp:aQ .Mult (cM b:Int) (vq b:Int) = some (al b:Int):=by rcases b with _|_|_ <;> rfl
theorem wP {l:List Nat} {i v:Nat} {h:H} (hi:h[i]? = some (nL l)) (hv:v < l.length) (hl:l.length ≤ 1000):∃ x ∈ l,aO (.ref i) (.int v) h = some (.int x):=by
 refine ⟨l.getD v 0,?_,dG hi hv hl⟩
 rw [List.getD_eq_getElem?_getD,List.getElem?_eq_getElem hv]
 exact List.getElem_mem hv
variable {row a b} in
theorem xU {sd m t z:Nat} (hsd:sd < 2) (hne:m ≠ t) (y:dL):Same (jD (bR (jD { P0 b with side:=sd } m sd 6) z) t (1 - sd) 6) ((⟨sd,m,t,none,sd⟩:St).ps b y):=by
 have e6:(0 ||| 1 <<< m) ||| 1 <<< t = 1 <<< m ||| 1 <<< t:=by simp
 have e1:0 ||| 1 <<< m = 1 <<< m ||| 0:=by simp
 have e2:0 ||| 1 <<< t = 1 <<< t:=by simp
 have bd:((List.replicate (al b) 0).set m (sd * 8 + 6)).set t ((1 - sd) * 8 + 6) = (List.range (al b)).map (⟨sd,m,t,none,sd⟩:St).pcAt:=by
  apply List.ext_getElem
  ·simp
  ·intro i h1 h2
   simp only [List.getElem_set,List.getElem_replicate,List.getElem_map,List.getElem_range,St.pcAt]
   by_cases q1:t = i
   ·rw [if_pos q1,if_neg (by omega),if_pos q1.symm]
   ·rw [if_neg q1]
    by_cases q2:m = i
    ·rw [if_pos q2,if_pos q2.symm]
    ·rw [if_neg q2,if_neg (Ne.symm q2),if_neg (Ne.symm q1)]
 rcases (by omega:sd = 0 ∨ sd = 1) with rfl | rfl
 ·exact ⟨bd,rfl,rfl,rfl,e6,e1,e2⟩
 ·exact ⟨bd,rfl,rfl,rfl,e6,e2,e1⟩
noncomputable abbrev Pq (b:B3) (sd:Nat):PS:={ P0 b with side:=sd }
noncomputable abbrev J2 (b:B3) (m0:Nat):H:=[nL (jf b m0)] ++ [nL []]
noncomputable abbrev J3 (b:B3) (m0 m:Nat):H:=J2 b m0 ++ [nL (jf b m)]
noncomputable abbrev J4 (b:B3) (m0 m t:Nat):H:=J3 b m0 m ++ [nL (kQ b m t)]
noncomputable abbrev uL (sd m t:Nat):St:=⟨sd,m,t,none,sd⟩
noncomputable abbrev pJ (sd m t j s:Nat):St:=⟨sd,m,t,some (j,s),sd⟩
noncomputable abbrev HF (sd m t j s:Nat):St:=⟨sd,m,t,some (j,s),1 - sd⟩
theorem HS (b:B3) (S:St) (X:dL):(S.ps b X).bd.length = al b:=by show ((List.range (al b)).map S.pcAt).length = _; rw [List.length_map,List.length_range]
theorem BI (n:Nat) {sd m t:Nat} (hsd:sd < 2) (hm:m < al b) (ht:t < al b) (hne:m ≠ t) (J:H):∃ (K:PS) (X:dL),K.side = sd ∧ X.hist = [] ∧
  run ah (n + 60) "put_piece" [.ref 42,.int ((sd * 8 + 6:Nat)),.int m] (hp row a b (Pq b sd) J) = some (.none,hp row a b K J) ∧
  run ah (n + 60) "put_piece" [.ref 42,.int (((1 - sd) * 8 + 6:Nat)),.int t] (hp row a b K J) = some (.none,hs row a b (uL sd m t) X J):=by
 haveI k6:Kind 6:=.inr (.inr (.inr rfl))
 obtain ⟨z1,p1⟩:=wX row a b (Pq b sd) J (n + 58) m sd 6 hsd k6 (by show (List.replicate (al b) 0).length = _; rw [List.length_replicate]) hm
 haveI hr:=cR (fun d => d ||| 1 <<< m) (Pq b sd) sd 6 ((Pq b sd).bd.set m (sd * 8 + 6))
 haveI hbl:(bR (jD (Pq b sd) m sd 6) z1).bd.length = al b:=by
  haveI:(jD (Pq b sd) m sd 6).bd = (List.replicate (al b) 0).set m (sd * 8 + 6):=rG ..
  show (jD (Pq b sd) m sd 6).bd.length = _
  rw [this,List.length_set,List.length_replicate]
 haveI sk:=fun z2 => (xU (b:=b) (z:=z1) hsd hne ⟨0,0,0,[]⟩).key z2
 haveI h1:(bR (jD (Pq b sd) m sd 6) z1).side = sd:=hr.1
 haveI h2:(bR (jD (Pq b sd) m sd 6) z1).hist = []:=hr.2.2
 generalize bR (jD (Pq b sd) m sd 6) z1 = K at p1 hbl sk h1 h2
 obtain ⟨z2,p2⟩:=wX row a b K J (n + 58) t (1 - sd) 6 f8 k6 hbl ht
 haveI hr:=cR (fun d => d ||| 1 <<< t) K (1 - sd) 6 (K.bd.set t ((1 - sd) * 8 + 6))
 haveI e2:=gG (sk z2) (hr.1.trans h1)
 rw [e2] at p2
 exact ⟨K,_,h1,hr.2.2.trans h2,p1,p2⟩
theorem Ga (n:Nat) {sd m t j s:Nat} (hsd:sd < 2) (hj:j = 3 ∨ j = 4 ∨ j = 5) (hz:s < al b) (h1:s ≠ m) (h2:s ≠ t) {X:dL} (hX:X.hist = []) (J:H):∃ X':dL,X'.hist = [] ∧
  run ah (n + 60) "put_piece" [.ref 42,.int ((sd * 8 + j:Nat)),.int s] (hs row a b (uL sd m t) X J) = some (.none,hs row a b (pJ sd m t j s) X' J):=by
 obtain ⟨z,p⟩:=wX row a b ((uL sd m t).ps b X) J (n + 58) s sd j hsd (fF hj) (HS ..) hz
 haveI hr:=cR (fun d => d ||| 1 <<< s) ((uL sd m t).ps b X) sd j (((uL sd m t).ps b X).bd.set s (sd * 8 + j))
 haveI e:=gG (S:=pJ sd m t j s) ((AK (b:=b) (S:=uL sd m t) (X:=X) hsd rfl hj h1 h2 ⟨0,0,0,[]⟩ sd).key z) hr.1
 rw [e] at p
 exact ⟨_,hr.2.2.trans hX,p⟩
theorem FX (n:Nat) {sd m t j s:Nat} (hsd:sd < 2) (hj:j = 3 ∨ j = 4 ∨ j = 5) (hz:s < al b) (hmt:m ≠ t) (h1:s ≠ m) (h2:s ≠ t) {X:dL} (hX:X.hist = []) (J:H):∃ X':dL,X'.hist = [] ∧
  run ah (n + 60) "take_piece" [.ref 42,.int s] (hs row a b (pJ sd m t j s) X J) = some (.int ((sd * 8 + j:Nat)),hs row a b (uL sd m t) X' J):=by
 haveI hpc:((pJ sd m t j s).ps b X).bd.getD s 0 = sd * 8 + j:=by
  show ((List.range (al b)).map (pJ sd m t j s).pcAt).getD s 0 = _
  rw [List.getD_eq_getElem?_getD,List.getElem?_map,List.getElem?_range hz]
  exact qB rfl h1 h2
 obtain ⟨z,p⟩:=yW row a b ((pJ sd m t j s).ps b X) J (n + 58) s sd j hsd (fF hj) (HS ..) hz hpc
 haveI wp:WP (pJ sd m t j s):=⟨hsd,hmt,fun j' s' q => by cases q; exact ⟨hj,rfl,h1,h2⟩⟩
 haveI hr:=cR (fun d => d ^^^ 1 <<< s) ((pJ sd m t j s).ps b X) sd j (((pJ sd m t j s).ps b X).bd.set s 0)
 haveI e:=gG (S:=uL sd m t) ((wA (b:=b) (X:=X) wp rfl ⟨0,0,0,[]⟩ sd).key z) hr.1
 rw [e] at p
 exact ⟨_,hr.2.2.trans hX,p⟩
theorem Ck (hr:row.length ≤ 20) (n:Nat):∃ (b:B3) (S:St) (X:dL) (J:H) (a':Int),WF b S ∧ X.hist = [] ∧ 0 ≤ a' ∧ a' ≤ 20 ∧ run ah (n + 61) "_law_stood" [.ref 1] (pn row 0 []) = some (.ref 42,hs row a' b S X J):=by
 refine E4 fun Z hZ => ?_
 haveI hr':row.length ≤ 1000:=by omega
 have num:=fun (m:Nat) (hm:0 < m) (a:Int) (R:H) (h1:0 ≤ a) (h2:a ≤ 1000) => CR (row:=row) (a:=a) (R:=R) hm hr' h1 h2 (n + 58)
 obtain ⟨v0,hv0,r0⟩:=num 3 (by decide) 0 [] (by decide) (by decide)
 obtain ⟨b,hb⟩:=AH hv0
 have hsz:0 < al b:=by rcases b with _|_|_ <;> decide
 haveI h12:=aR b
 obtain ⟨sd,hsd,r1⟩:=num 2 (by decide) (0 + 1) (AS b ++ (Fd (P0 b) :: nL (P0 b).bd :: nL [0,0,0,(P0 b).k3,(P0 b).k4,(P0 b).k5,(P0 b).k6] :: nL [(P0 b).s0,(P0 b).s1] :: .list ((P0 b).hist.map V.tup) :: [])) (by decide) (by decide)
 have r1:run ah (n + 60) "_law_number" [.ref 1,.int 2] (hp row (0 + 1) b (P0 b) []) = some (.int sd,hp row (0 + 1 + 1) b (P0 b) []):=r1
 have numH:∀ (m:Nat) (hm:0 < m) (a:Int) (P:PS) (J:H) (h1:0 ≤ a) (h2:a ≤ 1000),∃ v:Nat,v < m ∧ run ah (n + 60) "_law_number" [.ref 1,.int m] (hp row a b P J) = some (.int v,hp row (a + 1) b P J):=fun m hm a P J h1 h2 => num m hm a _ h1 h2
 obtain ⟨m0,hm0,r2⟩:=numH (al b) hsz (0 + 1 + 1) (Pq b sd) [] (by decide) (by decide)
 have far:∀ (k:Nat),k < al b → ∀ (a:Int) (P:PS) (J:H),run ah (n + 60) "_law_far" [.int (cM b),.int (al b),.int k] (hp row a b P J) = some (.ref (47 + J.length),hp row a b P (J ++ [nL (jf b k)])):=fun k hk a P J => by
  have:=Fe hk (n + 58) (hp row a b P J)
  rw [cH,kW] at this; exact this
 haveI f1:=far m0 hm0 (0 + 1 + 1 + 1) (Pq b sd) []
 obtain ⟨m,hm,hfar,hmine⟩:∃ m,m < al b ∧ jf b m ≠ [] ∧ ∀ f:Fm,f 1 = some (.int (cM b)) → f 3 = some (.int (al b)) → f 7 = some (.int m0) →
   aU (ax .Eq (af (run ah (n + 60)) "_law_far" [(aa 1),(aa 3),(aa 7)]) (aP [])) (ag [aj 7 (ac (.int 0))]) (ag []) f (hp row (0 + 1 + 1 + 1) b (Pq b sd) []) = some (.next,if m = m0 then f else upd f 7 (.int m),hp row (0 + 1 + 1 + 1) b (Pq b sd) (J2 b m0)):=by
  haveI t:∀ f:Fm,f 1 = some (.int (cM b)) → f 3 = some (.int (al b)) → f 7 = some (.int m0) → ax .Eq (af (run ah (n + 60)) "_law_far" [(aa 1),(aa 3),(aa 7)]) (aP []) f (hp row (0 + 1 + 1 + 1) b (Pq b sd) []) = some (decide (jf b m0 = []),hp row (0 + 1 + 1 + 1) b (Pq b sd) (J2 b m0)):=fun f q1 q3 q7 => by
   refine aq (aM (ar (loc q1) (ar (loc q3) (ar (loc q7) aG))) f1) (qK row _ _) ?_
   rw [nk]
   exact my (n:=2) (i:=47 + 0) (j:=47 + 1) ((eM _ _ _ _ _ 0).trans rfl) ((eM _ _ _ _ _ 1).trans rfl)
  by_cases he:jf b m0 = []
  ·refine ⟨0,hsz,sy b,fun f q1 q3 q7 => ?_⟩
   have t:=t f q1 q3 q7
   rw [decide_eq_true he] at t
   rw [if_neg (fun (e:(0:Nat) = m0) => sy b (by rw [e]; exact he))]
   exact aT t (ak (am aH) rfl)
  ·refine ⟨m0,hm0,he,fun f q1 q3 q7 => ?_⟩
   have t:=t f q1 q3 q7
   rw [decide_eq_false he] at t
   rw [if_pos rfl]
   exact aI t
 haveI f2:=far m hm (0 + 1 + 1 + 1) (Pq b sd) (J2 b m0)
 haveI flen:(jf b m).length ≤ 1000:=Nat.le_trans (List.length_filter_le _ _) (by simp; omega)
 obtain ⟨v1,hv1,r3⟩:=numH (jf b m).length (List.length_pos_iff.mpr hfar) (0 + 1 + 1 + 1) (Pq b sd) (J3 b m0 m) (by decide) (by decide)
 obtain ⟨t,ht,g1⟩:=wP (l:=jf b m) (i:=47 + 2) (v:=v1) (h:=hp row (0 + 1 + 1 + 1 + 1) b (Pq b sd) (J3 b m0 m)) ((eM _ _ _ _ _ 2).trans rfl) hv1 flen
 obtain ⟨ht1,hmt,hap⟩:=xw ht hm
 have ln1:=kT row (0 + 1 + 1 + 1) (b:=b) (P:=(Pq b sd)) (J3 b m0 m) (o:=2) (l:=(jf b m).map fun (n:Nat) => V.int n) rfl (by rw [List.length_map]; omega) (n + 59)
 rw [List.length_map] at ln1
 obtain ⟨K,X2,sd1,hh2,p1,p2⟩:=BI row (0 + 1 + 1 + 1 + 1) b n hsd hm ht1 hmt (J3 b m0 m)
 haveI sp:∀ f:Fm,f 3 = some (.int (al b)) → f 7 = some (.int m) → f 9 = some (.int t) → dz 1 (fm [none,none,some 7,some 9]) (af (run ah (n + 60)) "range" [(aa 3)]) (cb [(cI .And [(ax .NotEq (aa 1) (aa 2)),(ax .NotEq (aa 1) (aa 3))])]) (aa 1) f (hs row (0 + 1 + 1 + 1 + 1) b (uL sd m t) X2 (J3 b m0 m)) =
   some (.ref (47 + 3),hs row (0 + 1 + 1 + 1 + 1) b (uL sd m t) X2 (J4 b m0 m t)):=fun f q3 q7 q9 => by
  have:=AY (n + 59) (hs row (0 + 1 + 1 + 1 + 1) b (uL sd m t) X2 (J3 b m0 m)) q3 q7 q9
  rw [cH,kW] at this; exact this
 haveI slen:(kQ b m t).length ≤ 1000:=Nat.le_trans (List.length_filter_le _ _) (by simp; omega)
 obtain ⟨v2,hv2,r4⟩:=numH (kQ b m t).length (List.length_pos_iff.mpr (Ca b m t)) (0 + 1 + 1 + 1 + 1) (((uL sd m t):St).ps b X2) (J4 b m0 m t) (by decide) (by decide)
 obtain ⟨s,hs1,g2⟩:=wP (l:=kQ b m t) (i:=47 + 3) (v:=v2) (h:=hp row (0 + 1 + 1 + 1 + 1 + 1) b (((uL sd m t):St).ps b X2) (J4 b m0 m t)) ((eM _ _ _ _ _ 3).trans rfl) hv2 slen
 obtain ⟨hs2,hsm,hst⟩:=uV hs1
 have ln2:=kT row (0 + 1 + 1 + 1 + 1) (b:=b) (P:=((uL sd m t):St).ps b X2) (J4 b m0 m t) (o:=3) (l:=(kQ b m t).map fun (n:Nat) => V.int n) rfl (by rw [List.length_map]; omega) (n + 59)
 rw [List.length_map] at ln2
 obtain ⟨v3,hv3,r5⟩:=numH 3 (by decide) (0 + 1 + 1 + 1 + 1 + 1) (((uL sd m t):St).ps b X2) (J4 b m0 m t) (by decide) (by decide)
 obtain ⟨j,hj,g3⟩:=A3 hv3
 obtain ⟨X3,hh3,p3⟩:=Ga row (0 + 1 + 1 + 1 + 1 + 1 + 1) b n hsd hj hs2 hsm hst hh2 (J4 b m0 m t)
 have W':WF b (HF sd m t j s):=⟨hsd,by show 1 - sd < 2; omega,hm,ht1,hmt,hap,fun j' s' q => by cases q; exact ⟨hj,hs2,hsm,hst⟩,fun q => by have q:1 - sd = sd:=q; omega⟩
 have kon:=kC (X:=X3) W'
 haveI ek:((HF sd m t j s):St).king = t:=if_neg (by show ¬ 1 - sd = sd; omega)
 rw [ek] at kon
 have ic:=ib row (0 + 1 + 1 + 1 + 1 + 1 + 1) b (((pJ sd m t j s):St).ps b X3) (J4 b m0 m t) (n + 47) (1 - sd) t (by omega) ht1 kon
 haveI eatt:nq b (((pJ sd m t j s):St).ps b X3) t (1 - (1 - sd)) ((((pJ sd m t j s):St).ps b X3).s0 ||| (((pJ sd m t j s):St).ps b X3).s1) = j1 b (pJ sd m t j s) t ((pJ sd m t j s):St).occ:=by
  rw [mm,show 1 - (1 - sd) = sd by omega]
  exact iz (X:=X3) W' t _
 rw [eatt] at ic
 have mk:∀ (c:Nat) (hc:c < 2) (k:Nat) (a:Int) (P:PS) (J:H),run ah (n + 60) "make_piece" [.int c,.int k] (hp row a b P J) = some (.int ((c * 8 + k:Nat)),hp row a b P J):=fun c hc k a P J => qw (n + 59) c k _ hc
 have walk:∀ (Z:Option (V × H)),(∀ f:Fm,f 4 = some (.int s) → f 6 = some (.ref 42) → fin (ag [aU (aX (af (run ah (n + 60)) "in_check_of" [(aa 6),(ao .Sub (ac (.int 1)) (ai (aa 6) "side"))])) (ag [au (af (run ah (n + 60)) "take_piece" [(aa 6),(aa 4)])]) (ag []),aw (aa 6)] f (hs row (0 + 1 + 1 + 1 + 1 + 1 + 1) b (pJ sd m t j s) X3 (J4 b m0 m t))) = Z) →
   run ah (n + 61) "_law_stood" [.ref 1] (pn row 0 []) = Z:=fun Z z => by
  rw [rV]
  refine ae (mT (aW (o:=.tup2 [[3,3],[2,4],[3,4]]) rfl (aM (ar (loc rfl) (ar aH aG)) r0) (hb _)) rfl) ?_
  refine ae (am (aL (loc rfl) (loc rfl) (Bp b))) ?_
  refine ae (am (Hj row (0 + 1) b n)) ?_
  refine ae (am (HD row (0 + 1) b n)) ?_
  refine ae (c8 (aM (ar (loc rfl) (ar aH aG)) r1) (loc rfl) (qM _ _ _ _ _ _)) ?_
  refine ae (am (aM (ar (loc rfl) (ar (loc rfl) aG)) r2)) ?_
  refine ae (hmine _ rfl rfl rfl) ?_
  haveI fr:∃ F:Fm,F = (if m = m0 then (upd (upd (upd (sf b) 5 (.ref 17)) 6 (.ref 42)) 7 (.int m0)) else upd (upd (upd (upd (sf b) 5 (.ref 17)) 6 (.ref 42)) 7 (.int m0)) 7 (.int m)) ∧ F 0 = some (.ref 1) ∧ F 1 = some (.int (cM b)) ∧ F 3 = some (.int (al b)) ∧ F 6 = some (.ref 42) ∧ F 7 = some (.int m):=by
   refine ⟨_,rfl,?_⟩
   split
   ·rename_i e; rw [e]; exact ⟨rfl,rfl,rfl,rfl,rfl⟩
   ·exact ⟨rfl,rfl,rfl,rfl,rfl⟩
  obtain ⟨F,hF,F0,F1,F3,F6,F7⟩:=fr
  haveI hF':(if m = m0 then (upd (upd (upd (sf b) 5 (.ref 17)) 6 (.ref 42)) 7 (.int m0)) else upd (upd (upd (upd (sf b) 5 (.ref 17)) 6 (.ref 42)) 7 (.int m0)) 7 (.int m)) = F:=hF.symm
  show fin (ag _ (if m = m0 then (upd (upd (upd (sf b) 5 (.ref 17)) 6 (.ref 42)) 7 (.int m0)) else upd (upd (upd (upd (sf b) 5 (.ref 17)) 6 (.ref 42)) 7 (.int m0)) 7 (.int m)) _) = Z
  rw [hF']
  refine ae (am (aM (ar (loc F1) (ar (loc F3) (ar (loc F7) aG))) f2)) ?_
  refine ae (am (aW (loc rfl) (aM (ar (loc F0) (ar (aM (ar (loc rfl) aG) ln1) aG)) r3) g1)) ?_
  refine ae (aD (aM (ar (loc F6) (ar (aM (ar (cn (loc F6) (bV _ _ _ _ _)) (ar aH aG)) (mk sd hsd 6 _ _ _)) (ar (loc F7) aG))) p1) rfl) ?_
  haveI sd1':aQ .Sub 1 (K.side:Int) = some ((1 - sd:Nat):Int):=by rw [sd1]; exact (d9 _ _).trans (congrArg some (g5 hsd))
  refine ae (aD (aM (ar (loc F6) (ar (aM (ar (aL aH (cn (loc F6) (bV _ _ _ _ _)) sd1') (ar aH aG)) (mk (1 - sd) (by omega) 6 _ _ _)) (ar (loc rfl) aG))) p2) rfl) ?_
  refine ae (am (sp _ F3 F7 rfl)) ?_
  refine ae (am (aW (loc rfl) (aM (ar (loc F0) (ar (aM (ar (loc rfl) aG) ln2) aG)) r4) g2)) ?_
  refine ae (aD (aM (ar (loc F6) (ar (aM (ar (cn (loc F6) (bV _ _ _ _ _)) (ar (aW (o:=.tup [5,4,3]) rfl (aM (ar (loc F0) (ar aH aG)) r5) (g3 _)) aG)) (mk sd hsd j _ _ _)) (ar (loc rfl) aG))) p3) rfl) ?_
  exact z _ rfl F6
 have sd3:aQ .Sub 1 ((((pJ sd m t j s):St).ps b X3).side:Int) = some ((1 - sd:Nat):Int):=(d9 1 (sd:Int)).trans (congrArg some (g5 hsd))
 cases hat:j1 b (pJ sd m t j s) t ((pJ sd m t j s):St).occ with
 | false =>
  rw [hat] at ic
  refine hZ b ((pJ sd m t j s)) X3 _ _ ⟨⟨hsd,hsd,hm,ht1,hmt,hap,fun j' s' q => by cases q; exact ⟨hj,hs2,hsm,hst⟩,fun _ => hat⟩,hh3,?_,?_,walk _ fun f f4 f6 => ae (aI (aS (aM (ar (loc f6) (ar (aL aH (cn (loc f6) (bV _ _ _ _ _)) sd3) aG)) ic) rfl)) (aA (aC (loc f6)))⟩
  ·decide
  ·decide
 | true =>
  rw [hat] at ic
  obtain ⟨X4,hh4,p4⟩:=FX row (0 + 1 + 1 + 1 + 1 + 1 + 1) b n hsd hj hs2 hmt hsm hst hh3 (J4 b m0 m t)
  refine hZ b ((uL sd m t)) _ _ _ ⟨⟨hsd,hsd,hm,ht1,hmt,hap,fun j' s' q => (by cases q),fun _ => by unfold j1; show ((cu b t).testBit m || false) = false; rw [hap]; rfl⟩,hh4,?_,?_,walk _ fun f f4 f6 => ae (aT (aS (aM (ar (loc f6) (ar (aL aH (cn (loc f6) (bV _ _ _ _ _)) sd3) aG)) ic) rfl) (ak (aD (aM (ar (loc f6) (ar (loc f4) aG)) p4) rfl) rfl)) (aA (aC (loc f6)))⟩
  ·decide
  ·decide
end
end
section
open PySem
noncomputable def CS (P:PS) (o:Nat):MO:=.list [.ref (47 + o),.ref (47 + (o + 1)),.ref (47 + (o + 2)),.int P.side,.int P.key,.int P.half,.int P.full,.ref (47 + (o + 3))]
noncomputable def dA (P:PS) (o:Nat):H:=[nL P.bd,nL [0,0,0,P.k3,P.k4,P.k5,P.k6],nL [P.s0,P.s1],.list (P.hist.map V.tup),CS P o]
section
variable {row:List Int} {a:Int} {b:B3} {P:PS} {J:H}
theorem i7 {e:Ex} {f:Fm} {i:Nat} {vs:List V} (k:e f (hp row a b P J) = some (.ref i,hp row a b P J)) (hi:(hp row a b P J)[i]? = some (.list vs)) (hl:vs.length ≤ 1000000) :
  c5 e none none f (hp row a b P J) = some (.ref (47 + J.length),hp row a b P (J ++ [.list vs])):=by
 rw [uf,k]
 show fR (.ref i) none none (hp row a b P J) = _
 unfold fR
 simp only [hi]
 rw [if_neg (by omega),cH,kW]
theorem Ee (hb:P.bd.length ≤ 1000) (hh:P.hist.length ≤ 1000) (n:Nat) (J:H):run ah (n + 1) "_law_kept" [.ref 42] (hp row a b P J) = some (.ref (47 + (J.length + 4)),hp row a b P (J ++ dA P J.length)):=by
 refine (uy ..).trans ?_
 haveI l1:=DP row a b P J
 haveI s1:=i7 (f:=upd nf 0 (.ref 42)) (cn (e:=aa 0) (loc rfl) (cW row a b P J)) l1 (by rw [List.length_map]; omega)
 haveI s2:=i7 (f:=upd nf 0 (.ref 42)) (cn (e:=aa 0) (loc rfl) (sr row a b P (J ++ [nL P.bd]))) (GL row a b P _) (by simp)
 haveI s3:=i7 (f:=upd nf 0 (.ref 42)) (cn (e:=aa 0) (loc rfl) (um row a b P (J ++ [nL P.bd] ++ [nL [0,0,0,P.k3,P.k4,P.k5,P.k6]]))) (He row a b P _) (by simp)
 haveI s4:=i7 (f:=upd nf 0 (.ref 42)) (cn (e:=aa 0) (loc rfl) (di row a b P (J ++ [nL P.bd] ++ [nL [0,0,0,P.k3,P.k4,P.k5,P.k6]] ++ [nL [P.s0,P.s1]]))) (zq row a b P _) (by rw [List.length_map]; omega)
 haveI z:=c6 (ar s1 (ar s2 (ar s3 (ar (cn (e:=aa 0) (loc rfl) (bV _ _ _ _ _)) (ar (cn (e:=aa 0) (loc rfl) (vY _ _ _ _ _)) (ar (cn (e:=aa 0) (loc rfl) (rT _ _ _ _ _)) (ar (cn (e:=aa 0) (loc rfl) (qv _ _ _ _ _)) (ar s4 aG))))))))
 rw [kW,cH] at z
 haveI e1:(J ++ [nL P.bd] ++ [nL [0,0,0,P.k3,P.k4,P.k5,P.k6]] ++ [nL [P.s0,P.s1]] ++ [MO.list (P.hist.map V.tup)]).length = J.length + 4:=by simp
 haveI e2:(J ++ [nL P.bd] ++ [nL [0,0,0,P.k3,P.k4,P.k5,P.k6]]).length = J.length + 2:=by simp
 haveI e3:(J ++ [nL P.bd]).length = J.length + 1:=by simp
 haveI e4:(J ++ [nL P.bd] ++ [nL [0,0,0,P.k3,P.k4,P.k5,P.k6]] ++ [nL [P.s0,P.s1]]).length = J.length + 3:=by simp
 rw [e1] at z
 refine aA (aC (z.trans ?_))
 congr 3
 rw [e2,e3,e4]
 simp [dA,CS]
noncomputable def Kept (P:PS) (o:Nat) (J:H):Prop:=∀ i,i < 5 → J[o + i]? = (dA P o)[i]?
theorem jI (J:H):Kept P J.length (J ++ dA P J.length):=fun i _ => by
 rw [List.getElem?_append_right (by omega)]; congr 1; omega
theorem Kept.up {o:Nat} (h:Kept P o J) (K:H):Kept P o (J ++ K):=fun i hi => by
 rw [← h i hi]
 refine List.getElem?_append_left ?_
 haveI:=h i hi
 match i,hi with
 | 0,_ | 1,_ | 2,_ | 3,_ | 4,_ => exact (List.getElem?_eq_some_iff.mp (this.trans rfl)).1
theorem cS {f:V → V → Option Bool} {x y:V} {l l':List V} (h1:f x y = some true) (h2:mP f l l' = some true):mP f (x :: l) (y :: l') = some true:=by
 show (f x y).bind (fun r => (mP f l l').map fun t => r && t) = _
 rw [h1,h2]; rfl
theorem rU (hh:P.hist = []) {o o':Nat} (h:Kept P o J) (h':Kept P o' J):mR 4 (hp row a b P J) (.ref (47 + (o + 4))) (.ref (47 + (o' + 4))) = some true:=by
 have at':∀ {o},Kept P o J → ∀ i,i < 5 → (hp row a b P J)[47 + (o + i)]? = (dA P o)[i]?:=fun h i hi => (eM _ _ _ _ _ _).trans (h i hi)
 have nl:∀ i,i < 4 → ∀ l:List Nat,(∀ o,(dA P o)[i]? = some (nL l)) → mR 3 (hp row a b P J) (.ref (47 + (o + i))) (.ref (47 + (o' + i))) = some true:=fun i hi l e => by
  rw [my (n:=1) ((at' h i (by omega)).trans (e o)) ((at' h' i (by omega)).trans (e o')),decide_eq_true rfl]
 have int:∀ x:Int,mR 3 (hp row a b P J) (.int x) (.int x) = some true:=fun x => by show some (x == x) = _; rw [beq_self_eq_true]
 show EQ (mR 3 (hp row a b P J)) (hp row a b P J)[47 + (o + 4)]? (hp row a b P J)[47 + (o' + 4)]? = _
 rw [at' h 4 (by decide),at' h' 4 (by decide)]
 show (if (8:Nat) ≠ 8 then some false else mP (mR 3 (hp row a b P J)) _ _) = _
 rw [if_neg (fun h => h rfl)]
 exact cS (nl 0 (by decide) _ fun _ => rfl) (cS (nl 1 (by decide) _ fun _ => rfl) (cS (nl 2 (by decide) _ fun _ => rfl) (cS (int _) (cS (int _) (cS (int _) (cS (int _)
  (cS (nl 3 (by decide) [] fun _ => by show some (MO.list (P.hist.map V.tup)) = _; rw [hh]; rfl) rfl)))))))
end
end
section
open PySem
section
variable {g:Str → List V → H → Option (V × H)} {chk:H → Bool} {x:Nat} {t:Tx} {u w:Sx} {v p l:V} {r:List V} {f f':Fm} {h h₁ h₂ : H}
theorem uA (k:t (upd f x v) h = some (true,h₁)) (k':u (upd f x v) h₁ = some (.next,f',h₂)):ii chk x t u w (v :: r) f h = some h₂:=by
 unfold ii
 rw [k,Option.bind_some,if_pos rfl,k',Option.bind_some]
theorem Gq {Z:Option H} (k:t (upd f x v) h = some (false,h₁)) (k':w (upd f x v) h₁ = some (.next,f',h₂)) (hc:chk h₂ = true) (z:ii chk x t u w r f' h₂ = Z):ii chk x t u w (v :: r) f h = Z:=by
 unfold ii
 rw [k,Option.bind_some,if_neg Bool.false_ne_true,k',Option.bind_some]
 dsimp only
 rw [if_pos hc]; exact z
theorem E8 (n:Nat):uD g n [p,l] h = (az l h).bind fun items => ii (fun h' => stays l h h') 3 (ax .NotIn (aa 3) (af g "legal_moves" [aa 0])) (au (af g "undo_moves" [aa 0,aa 2]))
  (ag [au (af g "do_move" [aa 0,aa 3]),aF 2 .Add (ac (.int 1))]) items (upd (upd (upd nf 0 p) 1 l) 2 (.int 0)) h:=by kernel_rfl
theorem Gr (n:Nat):tJ g n p h = (aj 1 (af g "legal_moves" [aa 0]) (upd nf 0 p) h).bind fun q => match q.1 with
  | .ret _ => none
  | .next => (bb [aa 0,ao .Add (c5 (aa 1) (some (-1)) none) (aP [ac (.int 0)])] q.2.1 q.2.2).bind fun r => uD g n r.1 r.2:=by kernel_rfl
end
section
variable (row:List Int) (a:Int) {b:B3} {S S':St} (X X':dL) (J:H)
theorem Cs (hz:X.hist.length ≤ 890) (n:Nat):run ah (n + 2) "undo_moves" [.ref 42,.int 0] (hs row a b S X J) = some (.none,hs row a b S X J):=by
 haveI ln:=mA row a b (S.ps b X) J n (by show X.hist.length ≤ 1000; omega)
 refine (i5 ..).trans ?_
 haveI rg:run ah (n + 1) "range" [.int 0] (hs row a b S X J) = some (.range 0 0 1,hs row a b S X J):=by kernel_rfl
 haveI it:az (.range 0 0 1) (hs row a b S X J) = some []:=by kernel_rfl
 exact ae (aI (aq (loc rfl) (aM (ar (cn (loc rfl) (di _ _ _ _ _)) aG) ln) ((ui _ _ _).trans (congrArg some (decide_eq_false (by omega)))))) (ae (br (aM (ar (loc rfl) aG) rg) it rfl) rfl)
theorem CC (hz:X.hist.length ≤ 890) (bk:xV row a b S S' X X') (n:Nat):run ah (n + 5) "undo_moves" [.ref 42,.int 1] (hs row a b S' X' J) = some (.none,hs row a b S X J):=by
 haveI hl:=bk.1
 haveI ln:=mA row a b (S'.ps b X') J (n + 3) (by show X'.hist.length ≤ 1000; omega)
 haveI e:((S'.ps b X').hist.length:Int) = X'.hist.length:=rfl
 refine (i5 ..).trans ?_
 haveI rg:run ah (n + 4) "range" [.int 1] (hs row a b S' X' J) = some (.range 0 1 1,hs row a b S' X' J):=by kernel_rfl
 haveI it:az (.range 0 1 1) (hs row a b S' X' J) = some [.int 0]:=by kernel_rfl
 exact ae (aI (aq (loc rfl) (aM (ar (cn (loc rfl) (di _ _ _ _ _)) aG) ln) ((ui _ _ _).trans (congrArg some (decide_eq_false (by omega))))))
  (ae (br (aM (ar (loc rfl) aG) rg) it (bE (ak (aD (aM (ar (loc rfl) aG) (bk.2 n J)) rfl) rfl) rfl rfl)) rfl)
theorem B4 {P:PS} {e:Ex} {f:Fm} {i:Nat} {l:List Nat} (k:e f (hp row a b P J) = some (.ref i,hp row a b P J)) (hi:(hp row a b P J)[i]? = some (nL l)) (hl:l.length ≤ 1000000) :
  c5 e (some (-1)) none f (hp row a b P J) = some (.ref (47 + J.length),hp row a b P (J ++ [nL (l.drop (l.length - 1))])):=by
 rw [uf,k]
 show fR (.ref i) (some (-1)) none (hp row a b P J) = _
 unfold fR
 simp only [hi,nL]
 rw [if_neg (by rw [List.length_map]; omega),if_pos (by decide),cH,kW,List.length_map,← List.map_drop]
 rfl
theorem DX {P:PS} {e e':Ex} {f:Fm} {J₁ J₂ : H} {i j:Nat} {l l':List Nat} (k:e f (hp row a b P J) = some (.ref i,hp row a b P J₁)) (k':e' f (hp row a b P J₁) = some (.ref j,hp row a b P J₂)) (hi:(hp row a b P J₂)[i]? = some (nL l)) (hj:(hp row a b P J₂)[j]? = some (nL l')) (hl:l.length + l'.length ≤ 1000) :
  ao .Add e e' f (hp row a b P J) = some (.ref (47 + J₂.length),hp row a b P (J₂ ++ [nL (l ++ l')])):=by
 rw [zy,k,Option.bind_some,k',Option.bind_some]
 show D3 (hp row a b P J₂)[i]? (hp row a b P J₂)[j]? (hp row a b P J₂) = _
 rw [hi,hj]
 show (if (l.map _).length + (l'.map _).length ≤ 1000 then some (V.ref (hp row a b P J₂).length,hp row a b P J₂ ++ [MO.list (l.map _ ++ l'.map _)]) else none) = _
 rw [List.length_map,List.length_map,if_pos hl,cH,kW,← List.map_append]
 rfl
theorem w6 (W:WF b S) {h:H} {i:Nat} (hi:h[i]? = some (nL (LM b S))):bI .NotIn (.int 0) (.ref i) h = some true:=by
 show (match h[i]? with | some (.list l) => (cZ l).map fun (ns:List Int) => !ns.contains (0:Int) | _ => none) = _
 rw [hi]
 show (cZ (nV (LM b S))).map _ = _
 rw [iQ]
 show some _ = _
 congr 1
 rw [Bool.not_eq_true',← Bool.not_eq_true,List.contains_iff_mem]
 intro h
 obtain ⟨m,hm,e⟩:=List.mem_map.mp h
 haveI:=En W hm
 omega
theorem DW (W:WF b S) (hz:X.hist.length ≤ 800) (n k:Nat):∃ K,tJ (run ah (n + 30)) k (.ref 42) (hs row a b S X J) = some (hs row a b S X (J ++ K)):=by
 obtain ⟨G,o,r1,r2,r3⟩:=qt row a X J W (n + 10)
 haveI ll:=pY W
 haveI hge:((LM b S).drop ((LM b S).length - 1)).length ≤ 1:=by rw [List.length_drop]; omega
 haveI sl:=B4 row a (J ++ G) (e:=aa 1) (f:=upd (upd nf 0 (.ref 42)) 1 (.ref (47 + o))) (loc rfl) ((eM row a b (S.ps b X) (J ++ G) o).trans r2) (by omega)
 haveI nz:=a9 row a (J:=J ++ G ++ [nL ((LM b S).drop ((LM b S).length - 1))]) (P:=S.ps b X) (b:=b) (f:=upd (upd nf 0 (.ref 42)) 1 (.ref (47 + o))) (ar (aH (v:=.int 0)) aG)
 haveI hj:(hp row a b (S.ps b X) (J ++ G ++ [nL ((LM b S).drop ((LM b S).length - 1))] ++ [MO.list [.int 0]]))[47 + (J ++ G ++ [nL ((LM b S).drop ((LM b S).length - 1))]).length]? = some (nL [0]):=(eM _ _ _ _ _ _).trans (bK _)
 haveI ad:=DX row a (J ++ G) sl nz ((eM _ _ _ _ _ _).trans (up _ (bK _))) hj (by show _ + 1 ≤ 1000; omega)
 generalize hJ1:(J ++ G ++ [nL ((LM b S).drop ((LM b S).length - 1))] ++ [MO.list [.int 0]]:H) = J1 at ad
 haveI pre:∀ J1:H,J1 = J ++ G ++ [nL ((LM b S).drop ((LM b S).length - 1))] ++ [MO.list [.int 0]] → ∃ K,J1 = J ++ K:=fun J1 e => ⟨G ++ [nL ((LM b S).drop ((LM b S).length - 1))] ++ [MO.list [.int 0]],by rw [e]; simp⟩
 obtain ⟨K1,eK⟩:=pre J1 hJ1.symm
 rw [Gr,am (aM (ar (loc rfl) aG) r1),Option.bind_some]
 dsimp only
 rw [ar (loc rfl) (ar ad aG),Option.bind_some,E8]
 haveI hit:=rI (S:=S) (X:=X) row a (b:=b) (J:=J1 ++ [nL ((LM b S).drop ((LM b S).length - 1) ++ [0])]) (bK J1)
 rw [hit,Option.bind_some]
 haveI st:∀ (Q:PS) (K:H),stays (.ref (47 + J1.length)) (hs row a b S X (J1 ++ [nL ((LM b S).drop ((LM b S).length - 1) ++ [0])])) (hp row a b Q (J1 ++ [nL ((LM b S).drop ((LM b S).length - 1) ++ [0])] ++ K)) = true:=fun Q K => by
  simp only [stays,eM]
  rw [List.getElem?_append_left (by simp)]
  simp
 by_cases hn:LM b S = []
 ·rw [hn]
  obtain ⟨G2,o2,q1,q2,_⟩:=qt row a X (J1 ++ [nL ([] ++ [0])]) W (n + 10)
  refine ⟨K1 ++ [nL ([] ++ [0])] ++ G2,?_⟩
  rw [← List.append_assoc,← List.append_assoc,← eK]
  exact uA (aq (loc rfl) (aM (ar (loc rfl) aG) q1) (w6 W ((eM _ _ _ _ _ _).trans q2))) (aD (aM (ar (loc rfl) (ar (loc rfl) aG)) (Cs row a X _ (by omega) (n + 28))) rfl)
 ·haveI hd:(LM b S).drop ((LM b S).length - 1) = [(LM b S).getLast hn]:=by
   haveI hp:=List.length_pos_iff.mpr hn
   rw [List.drop_eq_getElem_cons (by omega),List.getLast_eq_getElem hn,show (LM b S).length - 1 + 1 = (LM b S).length by omega,List.drop_length]
  rw [hd] at st ⊢
  haveI hm:(LM b S).getLast hn ∈ LM b S:=List.getLast_mem hn
  obtain ⟨G2,o2,q1,q2,_⟩:=qt row a X (J1 ++ [nL ([(LM b S).getLast hn] ++ [0])]) W (n + 10)
  haveI ni:=zz ((eM row a b (S.ps b X) _ o2).trans q2) hm
  obtain ⟨X',d1,bk⟩:=sM row a W hm (X:=X) (by omega) (n + 26) (J1 ++ [nL ([(LM b S).getLast hn] ++ [0])] ++ G2)
  haveI W':=h9 W hm
  obtain ⟨G3,o3,t1,t2,_⟩:=qt row a X' (J1 ++ [nL ([(LM b S).getLast hn] ++ [0])] ++ G2) W' (n + 10)
  haveI un:=CC row a X X' (J1 ++ [nL ([(LM b S).getLast hn] ++ [0])] ++ G2 ++ G3) (by omega) bk (n + 25)
  refine ⟨K1 ++ [nL ([(LM b S).getLast hn] ++ [0])] ++ G2 ++ G3,?_⟩
  rw [← List.append_assoc,← List.append_assoc,← List.append_assoc,← eK]
  exact Gq (aq (loc rfl) (aM (ar (loc rfl) aG) q1) ni) (ak (aD (aM (ar (loc rfl) (ar (loc rfl) aG)) d1) rfl) (ak (ca (b:=1) rfl aH (kU _ _)) rfl)) (st _ _)
   (uA (aq (loc rfl) (aM (ar (loc rfl) aG) t1) (w6 W' ((eM _ _ _ _ _ _).trans t2))) (aD (aM (ar (loc rfl) (ar (loc rfl) aG)) un) rfl))
end
end
section
open PySem
noncomputable def gL (n:Nat):Str → List V → H → Option (V × H):=fun x as h => if x = "_law_bent_refused" then (match as with
  | [p] => (tJ (run ah n) n p h).map fun h' => (V.bool true,h')
  | _ => none) else run ah n x as h
noncomputable def rd (g:Str → List V → H → Option (V × H)):List Sx:=[
 aj 2 (af g "_law_stood" [(aa 1)]),
 aj 3 (av (dM [(ac (.int 1)),(i0 .USub (ac (.int 1))),(ac (.int 2)),(ac (.int 0)),(ac (.int 2)),(ac (.int 1)),(ac (.int 2))]) (af g "_law_number" [(aa 1),(ac (.int 7))])),
 aj 4 (af g "_law_number" [(aa 1),(ac (.int 14))]),
 aj 5 (af g "_law_kept" [(aa 2)]),
 aU (cI .Or [(fO (aX (af g "_law_search_right" [(aa 2),(aa 3),(aa 4)]))),(ax .NotEq (af g "_law_kept" [(aa 2)]) (aa 5))]) (ag [aw (ac (.bool false))]) (ag []),
 aU (cI .Or [(fO (aX (af g "_law_mate_right" [(aa 2)]))),(ax .NotEq (af g "_law_kept" [(aa 2)]) (aa 5))]) (ag [aw (ac (.bool false))]) (ag []),
 aw (cf .And [(af g "_law_bent_refused" [(aa 2)]),(cG .Eq (af g "_law_kept" [(aa 2)]) (aa 5))])]
theorem zD {v:Nat} (hv:v < 7):∃ m:Int,(m = -1 ∨ m = 0 ∨ m = 1 ∨ m = 2) ∧ ∀ h:H,aO (.tup [1,-1,2,0,2,1,2]) (.int v) h = some (.int m):=
 have k:∀ v:Nat,v < 7 → ∃ m:Int,(m = -1 ∨ m = 0 ∨ m = 1 ∨ m = 2) ∧ ∀ h:H,aO (.tup [1,-1,2,0,2,1,2]) (.int v) h = some (.int m):=aV ⟨1,.inr (.inr (.inl rfl)),fun _ => rfl⟩ (aV ⟨-1,.inl rfl,fun _ => rfl⟩ (aV ⟨2,.inr (.inr (.inr rfl)),fun _ => rfl⟩ (aV ⟨0,.inr (.inl rfl),fun _ => rfl⟩ (aV ⟨2,.inr (.inr (.inr rfl)),fun _ => rfl⟩ (aV ⟨1,.inr (.inr (.inl rfl)),fun _ => rfl⟩ (aV ⟨2,.inr (.inr (.inr rfl)),fun _ => rfl⟩ wc))))))
 k v hv
theorem F9 {row:List Int} (hr:row.length ≤ 20) (n:Nat) (f:Fm) (f1:f 1 = some (.ref 1)):∃ f' H',ag (rd (gL (n + 400))) f (pn row 0 []) = some (.ret (.bool true),f',H'):=by
 haveI g1:gL (n + 400) "_law_stood" = run ah (n + 400) "_law_stood" := rfl
 haveI g2:gL (n + 400) "_law_number" = run ah (n + 400) "_law_number" := rfl
 have g3:gL (n + 400) "_law_kept" = run ah (n + 400) "_law_kept" := rfl
 haveI g4:gL (n + 400) "_law_search_right" = run ah (n + 400) "_law_search_right" := rfl
 haveI g5:gL (n + 400) "_law_mate_right" = run ah (n + 400) "_law_mate_right" := rfl
 obtain ⟨b,S,X,J,a,W,hX,ha,ha',s1⟩:=Ck row hr (n + 339)
 haveI hr':row.length ≤ 1000:=by omega
 haveI hxl:X.hist.length = 0:=by rw [hX]; rfl
 haveI num:∀ (m:Nat) (hm:0 < m) (a:Int) (h1:0 ≤ a) (h2:a ≤ 1000),∃ v:Nat,v < m ∧ run ah (n + 400) "_law_number" [.ref 1,.int m] (hs row a b S X J) = some (.int v,hs row (a + 1) b S X J):=fun m hm a h1 h2 => CR hm hr' h1 h2 (n + 398)
 obtain ⟨v,hv,s2⟩:=num 7 (by decide) a ha (by omega)
 obtain ⟨mv,hmv,s3⟩:=zD hv
 obtain ⟨B,hB,s4⟩:=num 14 (by decide) (a + 1) (by omega) (by omega)
 haveI hbd:(S.ps b X).bd.length ≤ 1000:=by show ((List.range (al b)).map S.pcAt).length ≤ _; haveI:=aR b; simp; omega
 have hh:(S.ps b X).hist = []:=hX
 have kr:=fun J => Ee (row:=row) (a:=a + 1 + 1) (b:=b) (P:=S.ps b X) hbd (by rw [hh]; simp) (n + 399) J
 haveI k0:=jI (P:=S.ps b X) J
 obtain ⟨G1,s5⟩:=mF (row:=row) (a:=a + 1 + 1) (X:=X) (J:=J ++ dA (S.ps b X) J.length) W hmv (B:=B) (by omega) (by omega) (n + 375) (by omega)
 haveI e1:=rU (row:=row) (a:=a + 1 + 1) (b:=b) hh (jI (J ++ dA (S.ps b X) J.length ++ G1)) ((k0.up G1).up (dA (S.ps b X) (J ++ dA (S.ps b X) J.length ++ G1).length))
 generalize hJ2:(J ++ dA (S.ps b X) J.length ++ G1 ++ dA (S.ps b X) (J ++ dA (S.ps b X) J.length ++ G1).length:H) = J2 at e1
 haveI k2:Kept (S.ps b X) J.length J2:=by rw [← hJ2]; exact (k0.up _).up _
 obtain ⟨G2,s6⟩:=qJ row (a + 1 + 1) (b:=b) X J2 W (by omega) (n + 374)
 haveI e2:=rU (row:=row) (a:=a + 1 + 1) (b:=b) hh (jI (J2 ++ G2)) ((k2.up G2).up (dA (S.ps b X) (J2 ++ G2).length))
 generalize hJ3:(J2 ++ G2 ++ dA (S.ps b X) (J2 ++ G2).length:H) = J3 at e2
 haveI k3:Kept (S.ps b X) J.length J3:=by rw [← hJ3]; exact (k2.up _).up _
 obtain ⟨G3,s7⟩:=DW row (a + 1 + 1) X J3 W (by omega) (n + 370) (n + 400)
 haveI e3:=rU (row:=row) (a:=a + 1 + 1) (b:=b) hh (jI (J3 ++ G3)) ((k3.up G3).up (dA (S.ps b X) (J3 ++ G3).length))
 haveI g6:gL (n + 400) "_law_bent_refused" [.ref 42] (hs row (a + 1 + 1) b S X J3) = some (.bool true,hs row (a + 1 + 1) b S X (J3 ++ G3)):=by
  show (tJ (run ah (n + 400)) (n + 400) (.ref 42) (hs row (a + 1 + 1) b S X J3)).map (fun h' => (V.bool true,h')) = _
  rw [s7]; rfl
 haveI kr1:=kr (J ++ dA (S.ps b X) J.length ++ G1)
 rw [hJ2] at kr1
 haveI kr2:=kr (J2 ++ G2)
 rw [hJ3] at kr2
 unfold rd
 refine ⟨_,_,ak (am (aM (ar (loc f1) aG) (by rw [g1]; exact s1))) (ak (am (aW (o:=.tup [1,-1,2,0,2,1,2]) rfl (aM (ar (loc f1) (ar aH aG)) (by rw [g2]; exact s2)) (s3 _))) (ak (am (aM (ar (loc f1) (ar aH aG)) (by rw [g2]; exact s4)))
  (ak (am (aM (ar (loc rfl) aG) (by rw [g3]; exact kr J))) (ak (aI (fS (fp (c:=true) (aS (aM (ar (loc rfl) (ar (loc rfl) (ar (loc rfl) aG))) (by rw [g4]; exact s5)) rfl)) (fS (aq (aM (ar (loc rfl) aG) (by rw [g3]; exact kr1)) (loc rfl) ?_) mZ)))
  (ak (aI (fS (fp (c:=true) (aS (aM (ar (loc rfl) aG) (by rw [g5]; exact s6)) rfl)) (fS (aq (aM (ar (loc rfl) aG) (by rw [g3]; exact kr2)) (loc rfl) ?_) mZ))) (aN (aC (cY (aM (ar (loc rfl) aG) g6) (bL (aM (ar (loc rfl) aG) (by rw [g3]; exact kr (J3 ++ G3))) (loc rfl) ?_))))))))) ⟩
 ·rw [iN,e1]; rfl
 ·rw [iN,e2]; rfl
 ·rw [nk,e3]
end
end
end Mine.B
end
namespace Mine
noncomputable section
section
open PySem PySem.W PySem.Calls PyProof.Rows
section
variable {prog:Program} {w:World} {cl:Str → Option Addr} {K:Frag} {A:Around} {E:Value → Shared → Prop} {s:Shared} {h₀ : Heap} {L:Addr} {m:Str → Option Value} {env:Env}
theorem y8 {h:Heap} {D:Addr} {kvs:List (Str × Value)} (x:h.DictOf (strKind prog w) D kvs):∃ ob,h.get? D = some ob ∧ wu prog w ob kvs:=by
 obtain ⟨o,ho,hd⟩:=Heap.dictOf_iff.mp x
 exact ⟨o,ho,by obtain ⟨es,ep,hx,_⟩:=hd; exact hx.1,fun h a q => Heap.dictOf_iff.mpr ⟨o,q,hd⟩⟩
theorem nX {news:ay} {ρ : b9}:∀ {vs:List Value} {is:List Int},All2 uK vs is → All2 (VR K news ρ) vs (is.map V.int)
 | _,_,.nil => .nil
 | _,_,.cons h t => .cons h (nX t)
theorem tU {news:ay} {ρ : b9}:∀ {vs:List Value} {is:List Int},All2 (VR K news ρ) vs (is.map V.int) → All2 uK vs is
 | _,[],.nil => .nil
 | _,_ :: _,.cons h t => .cons h (tU t)
theorem zd {p1 p2 p3 p4 p5 p6 p7 p8:Pos} {k1 k2 k3 k4:Nat} {pa:Addr} {arr:Array Value} {row:List Int} (hk:env.scope.kind = .function) (hx:env.kindOf "script" = some .local) (hlc:env.locals = L)
  (F:Fr h₀ L s.heap m) (N:News h₀ L s.heap []) (R:Rel prog w cl K [] [] []) (hm:m "script" = some (.ref pa)) (hl:h₀.IsList pa arr) (hi:All2 uK arr.toList row) (hz:row.length ≤ 1000) :
  wpAny (model prog w) A (eval (.Dict [some (.Constant (.str "row") k1 p1),some (.Constant (.str "at") k2 p2)] [.Subscript (.Name "script" p3) (.Slice none (some (.Constant (.int 20) k3 p4)) none p5) p6,.Constant (.int 0) k4 p7] p8) env)
   (EP prog w cl K h₀ L m [] [] (.ref 1) [.list ((row.take 20).map V.int),.dict [("row",.ref 0),("at",.int 0)]] s) E s:=by
 obtain ⟨hp,gs,dr,tk,os⟩:=s
 haveI F:Fr h₀ L hp m:=F
 haveI N:News h₀ L hp []:=N
 haveI kz:KeysOf (strKind prog w) (#[]:Array DictEntry):=fun e he => absurd he (Array.not_mem_empty e)
 haveI hD:wu prog w { cls:=.type "dict",data:=.dict #[] } []:=⟨rfl,fun h a q => ⟨_,#[],0,q,⟨rfl,rfl,rfl⟩,rfl,kz,.nil,List.nodup_nil⟩⟩
 refine wpAny_Dict_walk (knd:=strKind prog w) rfl rfl (by simp) (by simp) ?_
 dsimp only
 refine Bn fun Q hQ => ?_
 have F1:Fr h₀ L (hp.push { cls:=.type "dict",data:=.dict #[] }) m:=F.push { cls:=.type "dict",data:=.dict #[] }
 haveI N1:News h₀ L (hp.push { cls:=.type "dict",data:=.dict #[] }) [(hp.objs.size,{ cls:=.type "dict",data:=.dict #[] })]:=News.push F (N.grown fun _ _ e => e) { cls:=.type "dict",data:=.dict #[] }
 haveI gD:hp.get? hp.objs.size = none:=Heap.get?_none_of_le (Nat.le_refl _)
 refine pairTrees_cons_walk (wpAny_Constant_str (Subscript_ (nj (s:=⟨_,gs,dr,tk + 1,os⟩) F1 hlc hk hx rfl hm ?_)))
 refine wpAny_Slice (ju (k:=none) rfl fun vl t₂ pl => ju (k:=some 20) ⟨20,rfl,rfl⟩ fun vu t₃ pu => wpAny_pure ?_)
 dsimp only
 haveI hl1:Heap.IsList (hp.push { cls:=.type "dict",data:=.dict #[] }) pa arr:=by
  obtain ⟨o,q,r⟩:=hl
  exact ⟨o,F1.keep _ _ q,r⟩
 obtain ⟨us,hpk,hus⟩:=wT (vs:=arr.toList) (l:=row.map V.int) (l':=(row.take 20).map V.int) (R:=VR K [] []) (lo:=none) (hi:=some 20) (nX hi) (by show (if (0:Int) ≤ 20 then some ((row.map V.int).take (20:Int).toNat) else none) = _; rw [if_pos (by decide),List.map_take]; rfl)
 refine tail_any (Heap.IsList.typeIs (s:=⟨(hp.push { cls:=.type "dict",data:=.dict #[] }).push { cls:=.type "slice",data:=.fields #[vl,vu,.none] },gs,dr,t₃,os⟩) (hl1.push _)) list_getitem_lookup
  (wpAny_getItem_list_slice (hl1.push _) (Heap.IsSliceOf.new ..) pl pu .none (by simp) ?_ (by haveI:=hi.length; simp only [Array.length_toList] at this; simp only [sizeLine_eq]; omega)) (pF _ _)
 rw [hpk]
 dsimp only
 haveI F2:=(F1.push { cls:=.type "slice",data:=.fields #[vl,vu,.none] }).push { cls:=.type "list",data:=.seq us.toArray }
 haveI N2:=News.push (F1.push { cls:=.type "slice",data:=.fields #[vl,vu,.none] }) (N1.grown fun _ _ e => Heap.get?_push_of_some _ e) { cls:=.type "list",data:=.seq us.toArray }
 refine pairTrees_cons_walk (wpAny_Constant_str (wpAny_Constant_int (pairTrees_nil_walk ?_)))
 refine hQ _ _ ?_
 haveI gD2:=(N2 (hp.objs.size,{ cls:=.type "dict",data:=.dict #[] }) (by simp)).1
 refine display_done_str rfl (by show (["row","at"]:List Str).Nodup; decide) (hD.at_ _ _ gD2) fun h' hd hs => ?_
 obtain ⟨ob,ho,hob⟩:=y8 hd
 obtain ⟨F3,N3⟩:=d6 F2 N2 (D:=hp.objs.size) (o:={ cls:=.type "dict",data:=.dict #[] }) (by simp) hs ho
 have hne:((hp.push { cls:=.type "dict",data:=.dict #[] }).push { cls:=.type "slice",data:=.fields #[vl,vu,.none] }).objs.size ≠ hp.objs.size:=by simp only [Heap.size_push]; omega
 haveI er:repl hp.objs.size ob [(((hp.push { cls:=.type "dict",data:=.dict #[] }).push { cls:=.type "slice",data:=.fields #[vl,vu,.none] }).objs.size,({ cls:=.type "list",data:=.seq us.toArray }:Obj)),(hp.objs.size,{ cls:=.type "dict",data:=.dict #[] })] =
   [(((hp.push { cls:=.type "dict",data:=.dict #[] }).push { cls:=.type "slice",data:=.fields #[vl,vu,.none] }).objs.size,({ cls:=.type "list",data:=.seq us.toArray }:Obj)),(hp.objs.size,ob)]:=by
  unfold repl
  rw [List.map_cons,List.map_cons,List.map_nil,if_neg hne,if_pos rfl]
 rw [er] at N3
 generalize ((hp.push { cls:=.type "dict",data:=.dict #[] }).push { cls:=.type "slice",data:=.fields #[vl,vu,.none] }).objs.size = l at hob N3 hne ⊢
 haveI R3:=R.more (extra:=[(l,({ cls:=.type "list",data:=.seq us.toArray }:Obj)),(hp.objs.size,ob)]) (by simp [hne]) (by simp) [(l,none),(hp.objs.size,none)] [.list ((row.take 20).map V.int),.dict [("row",.ref 0),("at",.int 0)]] (by simp [aY,eL]) (by simp [aY,eL,hne]) rfl (fun i p o h1 h2 => by
  match i with
  | 0 => cases h1; cases h2; exact ⟨rfl,_,us,by simp,⟨0,rfl⟩,nX (tU hus)⟩
  | 1 => cases h1; cases h2; exact ⟨rfl,ob,_,by simp,hob,.cons ⟨rfl,l,none,rfl,rfl⟩ (.cons ⟨rfl,_,rfl⟩ .nil)⟩
  | i + 2 => simp at h1)
 exact ⟨h',_,_,_,rfl,F3,N3,R3,Ext.more (extra:=[(l,({ cls:=.type "list",data:=.seq us.toArray }:Obj)),(hp.objs.size,ob)]) (fun a _ q => by simp at q) [(l,none),(hp.objs.size,none)] (by simp [aY,eL]),⟨hp.objs.size,none,rfl,rfl⟩⟩
end
end
section
open PySem PySem.W PySem.Calls PyProof.Rows
theorem Ch:ah.lookup ("_law_bent_refused" : Str) = some (.fn cU):=by kernel_rfl
theorem BS:ah.lookup ("do_moves" : Str) = some (.fn eS):=by kernel_rfl
section
variable {prog:Program} {w:World} {cl:Str → Option Addr} {K:Frag} {fval:Str → Option Value} {A A₀ : Around} {base:Heap} {L C C2 fI:Addr} {env:Env}
theorem DF (Z:Gl K cl fval) (I:PI K cl fval ah) (X:qd K C C2 fI) (bel:Below A₀ base [] base) (frames:A.frames = some [env]) (frame:env.frame = some L) (kind:env.scope.kind = .function) (handled:A.handled = none) (n:Nat)
  (hd:A.depth + 4 + n < recursionLimit) (hu:A.units + 10 + 3 * n + 13 < cLine) (Bs:Base K base):GS prog w cl K fval (B.gL n) A base L:=fun x vs Hh v H' e => by
 unfold B.gL at e
 split at e
 ·rename_i hx
  subst hx
  split at e
  ·rename_i p
   obtain ⟨H1,hr,e⟩:=mpd e
   cases e
   obtain ⟨fv,h1,fa,_⟩:=I.fn _ _ Ch
   obtain ⟨fd,h2,fad,okd⟩:=I.fn _ _ BS
   refine ⟨fv,h1,fun E s m news ρ vs' F N R hv => ?_⟩
   cases hv with
   | cons hv ht =>
    cases ht
    exact BD Z (fun A' h₀' L' env' cx d u B' => Ah Z I n cx (by omega) (by omega) B') bel frames frame kind handled (by omega) (by omega) Bs fa fad h2 okd X hr F N R hv
  ·cases e
 ·exact Ah Z I n ⟨⟨A₀,[],bel,frames⟩,frame,kind,handled⟩ (by omega) (by omega) Bs x vs Hh v H' e
end
end
section
open PySem PySem.W PySem.Calls PyProof.Rows
noncomputable def iV:Fn:=mN "law"
theorem BE:ah.lookup ("law" : Str) = some (.fn iV):=by kernel_rfl
structure PN where
 px:Pos
 p1:Pos
 p2:Pos
 p3:Pos
 p4:Pos
 p5:Pos
 p6:Pos
 p7:Pos
 p8:Pos
 pos:Pos
 k1:Nat
 k2:Nat
 k3:Nat
 k4:Nat
 rest:List Stmt
noncomputable def Fc:List Stmt → Option PN
 | .Assign [.Name _ px] (.Dict [some (.Constant (.str _) k1 p1),some (.Constant (.str _) k2 p2)] [.Subscript (.Name _ p3) (.Slice none (some (.Constant (.int _) k3 p4)) none p5) p6,.Constant (.int _) k4 p7] p8) pos :: rest => some ⟨px,p1,p2,p3,p4,p5,p6,p7,p8,pos,k1,k2,k3,k4,rest⟩
 | _ => none
noncomputable def sm:PN:=(Fc iV.body).getD ⟨p0,p0,p0,p0,p0,p0,p0,p0,p0,p0,0,0,0,0,[]⟩
theorem Fj:iV.body = .Assign [.Name "pen" sm.px] (.Dict [some (.Constant (.str "row") sm.k1 sm.p1),some (.Constant (.str "at") sm.k2 sm.p2)] [.Subscript (.Name "script" sm.p3) (.Slice none (some (.Constant (.int 20) sm.k3 sm.p4)) none sm.p5) sm.p6,.Constant (.int 0) sm.k4 sm.p7] sm.p8) sm.pos :: sm.rest:=by kernel_rfl
theorem A6 (g:G) (n:Nat):sm.rest.map (dS g n iV.names 30) = B.rd g:=by kernel_rfl
theorem sT:(iV.params,fC iV.names "pen",iV.names.lookup ("script" : Str),iV.names.all (fun p => decide (p.2 ≠ .free) && decide (p.2 ≠ .cell))) = ([("script" : Str)],some 1,some NameKind.local,true):=by kernel_rfl
end
section
open PySem PySem.W PySem.Calls PyProof.Rows
theorem nW:∀ (names:List (Str × NameKind)) (n:Nat) (acc:List (Str × Addr)),(∀ p ∈ names,p.2 ≠ .cell) → cellsFrom n names acc = acc
 | [],n,acc,_ => rfl
 | (y,k) :: r,n,acc,h => by
  unfold cellsFrom
  split
  ·rename_i hk
   exact absurd (by simpa using hk) (h (y,k) (.head _))
  ·exact nW r n acc fun p hp => h p (.tail _ hp)
section
variable {prog:Program} {w:World} {K:Frag} {s:Shared}
theorem y6 {fv pv:Value} {R:Result → Shared → Prop} (B:Base K s.heap) (fa:jT K fv iV)
  (k:∀ name scope a cd h₁ tk,jh iV.names (envOfC name scope s.heap.objs.size a cd) s.heap.objs.size → (envOfC name scope s.heap.objs.size a cd).cells = [] → (envOfC name scope s.heap.objs.size a cd).frame = some s.heap.objs.size → (envOfC name scope s.heap.objs.size a cd).scope.kind = .function →
   (envOfC name scope s.heap.objs.size a cd).kindOf "script" = some .local → Fr s.heap s.heap.objs.size h₁ (fun x => ([("script",pv)]:List (Str × Value)).reverse.lookup x) →
   wpAny (model prog w) (callerA.deeper (envOfC name scope s.heap.objs.size a cd)) (execs iV.body (envOfC name scope s.heap.objs.size a cd)) (fun f s' => R (.ok (.ret (match f with | .ret v => v | _ => .none))) s')
    (fun e s' => wpAny (model prog w) (callerA.deeper (envOfC name scope s.heap.objs.size a cd)) (leaving (envOfC name scope s.heap.objs.size a cd) e) (fun _ s'' => R (.error e) s'') (fun e' s'' => R (.error e') s'') s') { s with heap:=h₁,toks:=tk }) :
  codeAny (model prog w) callerA (.call fv ⟨[pv],[]⟩) R s:=by
 obtain ⟨a,name,qual,params,scope,dV,kV,doc,pm,an,cdv,ct,oc,od,osl,rfl,ho,hcd,hnames,hkind,hco,hgen,hbind⟩:=fa
 obtain ⟨d1,d2⟩:=Prod.mk.inj sT
 obtain ⟨d2,d3⟩:=Prod.mk.inj d2
 obtain ⟨d3,d4⟩:=Prod.mk.inj d3
 haveI nc:∀ p ∈ iV.names,p.2 ≠ .cell:=fun p hp => by
  haveI:=List.all_eq_true.mp d4 p hp
  simp only [Bool.and_eq_true,decide_eq_true_eq] at this
  exact this.2
 haveI nf:∀ p ∈ iV.names,p.2 ≠ .free:=fun p hp => by
  haveI:=List.all_eq_true.mp d4 p hp
  simp only [Bool.and_eq_true,decide_eq_true_eq] at this
  exact this.1
 haveI hb:=hbind [pv] (by rw [d1]; rfl)
 rw [d1] at hb
 haveI hce:∀ L,cellsFrom L scope.names [] = []:=fun L => nW _ _ _ (by rw [hnames]; exact nc)
 refine codeAny_call_def (by decide) (B.X _ _ ho) rfl B.nolimit (codeRec_of B.X hcd) rfl (BindsTo.of_eq hb) (by rw [hnames]; exact nc) (fun x hx => ?_) (fun h₁ hn hk => ?_) hco hgen hkind
 ·haveI:x = ((("script" : Str),pv):Str × Value):=List.mem_singleton.mp hx
  rw [this,hnames]; exact d3
 ·haveI ee:callEnv (fnX name qual params iV.body scope [] dV kV doc pm an cdv ct) s.heap.objs.size a = envOfC qual scope s.heap.objs.size a cdv:=by
   unfold envOfC
   rw [hce]; rfl
  rw [ee]
  refine k qual scope a cdv h₁ _ (zl hnames hkind ?_) (hce _) rfl hkind (by show scope.names.lookup _ = _; rw [hnames]; exact d3) ⟨hn,hk,Nat.le_refl _⟩
  exact ⟨fun x hx => by rw [d1] at hx; rw [List.mem_singleton.mp hx]; exact .inl d3,by rw [nW _ _ _ nc]; exact List.nodup_nil,nf⟩
end
end
section
open PySem PySem.W PySem.Calls PyProof.Rows
section
variable {prog:Program} {w:World} {cl:Str → Option Addr} {K:Frag} {fval:Str → Option Value} {C C2 fI:Addr}
theorem Aa {s:Shared} {fv:Value} {pa:Addr} {arr:Array Value} {row:List Int} {R:Result → Shared → Prop} (Z:Gl K cl fval) (I:PI K cl fval ah) (X:qd K C C2 fI) (Bs:Base K s.heap) (fa:jT K fv iV)
  (hl:s.heap.IsList pa arr) (hi:All2 uK arr.toList row) (hz:row.length ≤ 1000)
  (hR:∀ h' tk m',Fr s.heap s.heap.objs.size h' m' → R (.ok (.ret (.bool true))) { s with heap:=h',toks:=tk }) :
  codeAny (model prog w) callerA (.call fv ⟨[.ref pa],[]⟩) R s:=by
 refine y6 Bs fa fun name scope a cd h₁ tk eok hce hfr hkind hkof F => ?_
 generalize hL:s.heap.objs.size = L at hR eok hce hfr hkind hkof F
 generalize envOfC name scope L a cd = env at eok hce hfr hkind hkof F
 haveI N0:News s.heap L h₁ []:=News.nil
 haveI R0:Rel prog w cl K [] [] []:=⟨List.nodup_nil,List.nodup_nil,rfl,fun i p o h => by simp at h⟩
 haveI cs:fg env:=⟨by rw [hce]; exact List.nodup_nil,by rw [hce]; exact List.nodup_nil⟩
 obtain ⟨d1,d2⟩:=Prod.mk.inj sT
 obtain ⟨d2,d3⟩:=Prod.mk.inj d2
 haveI G:=DF (A:=callerA.deeper env) (A₀:=callerA) (base:=s.heap) (L:=L) (env:=env) (prog:=prog) (w:=w) Z I X (below_caller s.heap) rfl hfr hkind rfl 400 (of_decide_eq_true rfl) (of_decide_eq_true rfl) Bs
 rw [Fj]
 refine wpAny_execs_cons (wpAny_Assign_Name (wpAny_mono (zd (s:={ s with heap:=h₁,toks:=tk }) hkind hkof eok.locals F N0 R0 rfl hl hi hz) (fun v s' hv => ?_) fun _ _ x => x) rfl)
 obtain ⟨h2,tk2,n2,ρ2,rfl,F2,N2,R2,x2,hv2⟩:=hv
 refine cL (s:={ s with heap:=h2,toks:=tk2 }) (f:=fun _ => none) eok cs d2 F2 N2 R2 (fun _ _ _ _ _ h => nomatch h) (fun p hp => by rw [hce] at hp; cases hp) hv2 fun h3 tk3 n3 m3 F3 N3 R3 x3 FR3 CI3 _ => ?_
 haveI rest:=og (l:=sm.rest) fun st _ => gq (A:=callerA.deeper env) (n:=400) Z rfl (of_decide_eq_true rfl) Bs eok cs G 30 st
 rw [A6] at rest
 obtain ⟨f',H',hrun⟩:=B.F9 (row:=row.take 20) (by rw [List.length_take]; omega) 0 (upd (fun _ => none) 1 (.ref 1)) rfl
 show wpAny (model prog w) (callerA.deeper env) (execs sm.rest env) _ _ _
 refine rest.step F3 N3 R3 FR3 CI3 hrun fun flow h4 tk4 n4 ρ4 m4 F4 N4 R4 x4 FR4 CI4 hf => ?_
 obtain ⟨v',rfl,hv'⟩:=hf
 cases hv'
 exact hR h4 tk4 m4 F4
end
end
section
open PySem PySem.W PySem.Calls PyProof.Rows
theorem uP {K:Frag} {h:Heap} {N:Addr} {mg:Str → Option Value} {n:Str} {v:Value} (X:K.In h) (G:h.Ns N mg) (e:nsIn K N n = some (some v)):mg n = some v:=by
 obtain ⟨o,es,ep,ho,hd,_,hf⟩:=G
 unfold nsIn at e
 split at e
 ·rename_i c d es' n' sl q
  haveI:=X _ _ q
  rw [ho] at this
  cases this
  cases hd
  split at e
  ·rename_i x he
   cases e
   rw [← hf]
   unfold nsFind findBy
   rw [← Array.find?_toList,he]
   rfl
  ·split at e <;> cases e
 ·cases e
theorem zi:∀ {xs:List WData},(∀ d ∈ xs,∃ i,d = .int i) → ∃ is:List Int,xs = is.map WData.int
 | [],_ => ⟨[],rfl⟩
 | d :: xs,h => by
  obtain ⟨i,rfl⟩:=h d (.head _)
  obtain ⟨is,rfl⟩:=zi (xs:=xs) fun e he => h e (.tail _ he)
  exact ⟨i :: is,rfl⟩
theorem vP {R:WRecords} {cl:Str → Option Addr} {h:Heap}:∀ {is:List Int} {vs:List Value} {as:List Addr},ReadsAllW R cl h vs (is.map WData.int) as → All2 uK vs is:=by
 intro is
 induction is with
 | nil => intro vs as r; cases r; exact .nil
 | cons i is ih =>
  intro vs as r
  cases r with
  | cons x r => cases x with | int i t => exact .cons ⟨t,rfl⟩ (ih r)
theorem D7 {R:WRecords} {is:List Int} (h:(WTm.not (.lt (.lit (.int 63)) (.len (.arg 0)))).holds R {args:=[.list (is.map WData.int)]} = true):is.length ≤ 63:=by
 haveI hv:(WTm.not (.lt (.lit (.int 63)) (.len (.arg 0)))).value R {args:=[.list (is.map WData.int)]} = some (.bool (!decide ((63:Int) < (is.map WData.int).length))):=rfl
 haveI:=condW_of h hv
 simp at this
 omega
theorem xC {R:WRecords} {cl:Str → Option Addr} {h:Heap} {xs:List Int} {vals:List Value} {as:List Addr} (r:ReadsAllW R cl h vals [.list (xs.map WData.int)] as):∃ (pa:Addr) (arr:Array Value),vals = [.ref pa] ∧ h.IsList pa arr ∧ All2 uK arr.toList xs:=by
 cases r with
 | cons r1 r2 =>
  cases r2
  cases r1 with
  | list e1 e2 e3 e4 => exact ⟨_,_,rfl,⟨_,e1,e2,_,e3⟩,vP e4⟩
theorem Be {args:List WData} (p1:WShape.hasAll [] args [.list .int] = true):∃ xs:List Int,args = [.list (xs.map WData.int)]:=by
 cases args with
 | nil => simp [WShape.hasAll] at p1
 | cons d r => cases r with
  | cons _ _ => simp [WShape.hasAll] at p1
  | nil =>
   simp only [WShape.hasAll,List.isEmpty_nil,Bool.and_true] at p1
   obtain ⟨ys,rfl,hy⟩:=hasW_list p1
   obtain ⟨is,rfl⟩:=zi fun d hd => hasW_int (hasItemsW_at hy d hd)
   exact ⟨is,rfl⟩
theorem law_holds:lw.Holds:=by
 refine head ?_
 intro w s₀ s₁ mg mb G T a o pm cd doc dV kV ho hd hcd hD hg hgens args vals as hpre hlay hrd hwell hlow
 refine enter_call ?_
 obtain ⟨L,n,h1,h2,v1,v3,v2⟩:=T
 obtain ⟨hn,hv⟩:=Prod.mk.inj v1
 obtain ⟨hc,hgl⟩:=Bool.and_eq_true_iff.mp v2
 have hL:=xM h2
 have Z:=gl hn hc hL hv hgl
 have I:=pi hc hL hv
 obtain ⟨C,C2,fI,X⟩:=zc hL v3
 have Bs:Base (kL L n) s₁.heap:=⟨fun b o e => h1 b o ((hL b).symm.trans e),⟨mg,G.T.g⟩,⟨mb,G.T.b,G.T.builtins⟩,G.T.nolimit⟩
 obtain ⟨fv,q1,fa,_⟩:=I.fn _ _ BE
 haveI efv:fv = .ref a:=by
  rcases Z.fns.found _ _ q1 (by decide) with q | q
  ·have:=uP Bs.X G.T.g q
   haveI hg':mg "law" = some (.ref a):=hg
   rw [hg'] at this
   exact (Option.some.inj this).symm
  ·obtain ⟨_,q,_⟩:=q
   cases q
 subst efv
 haveI hr:∀ cls,(PySem.W.RowW.claim lw.row.toRowW).raises args cls = false:=fun cls => rfl
 obtain ⟨p1,p2⟩:=Bool.and_eq_true_iff.mp (show (WShape.hasAll [] args [.list .int] && _) = true from hpre)
 obtain ⟨xs,rfl⟩:=Be p1
 haveI hlen:=D7 (holds_andW p2).1
 clear p1 p2 hpre
 obtain ⟨pa,arr,rfl,hl,hi⟩:=xC hrd
 exact Aa Z I X Bs fa hl hi (by omega) fun h' tk m' F => GoodW.toG (goodW_bool (s':={ s₁ with heap:=h',toks:=tk }) F hgens hr (by wrow_post))
end
end
end Mine
theorem PySem.Challenge.cw_pf0106_01_holds : PySem.Challenge.rw_pf0106_01.Holds :=
  Mine.law_holds
