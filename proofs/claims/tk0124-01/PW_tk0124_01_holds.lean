import PyProof.Rows.All
import Wide.All
import OpenK.AllK
import Wide.FinOn
import Lean
import PySem.Challenge.RW_tk0124_01
set_option Elab.async false
set_option autoImplicit false
set_option linter.all false
set_option maxRecDepth 1000000
set_option maxHeartbeats 4000000
open Nat renaming le_trans -> CK, le_of_ble_eq_true -> CR, lt_of_lt_of_le -> CV, add_le_add_right -> CX, eq_of_beq_eq_true -> em, beq -> eB, lt_of_le_of_lt -> eE, ne_of_lt -> eF, le_of_lt_succ -> eJ, le_of_lt -> eP, ble -> eY, not_lt -> Ea, le_add_left -> Ed, sub_pos_of_lt -> Ei, add_le_add -> Ek, add_le_add_left -> Em, le_add_right -> Eo, mul_le_mul_left -> Et, zero_le -> Ew, le_refl -> Ex, add_assoc -> EF, add_comm -> EG, sub_add_cancel -> EJ, sub_lt_right_of_lt_add -> EN, sub_le -> EO, lt_trans -> EP, le_of_eq -> EQ, two_pow_pos -> EY, succ_le_succ -> ia, add_right_comm -> ib, zero_add -> ig, pow_le_pow_right -> il, lt_succ_of_le -> im, cast -> ip, blt -> iw, pow_succ -> iC, div_div_eq_div_mul -> iD, div_lt_iff_lt_mul -> iI, mod_lt -> iN, succ_pos -> iS, ne_of_gt -> iT, lt_succ_self -> iU, add_lt_add_left -> iX, succ -> Ia, lt_add_of_pos_right -> Ie, le_one_iff_eq_zero_or_eq_one -> Ig, and_two_pow_sub_one_eq_mod -> Il, sub_sub -> Iq, pow_add -> Ir, mul_comm -> Iy, mod_two_eq_zero_or_one -> IC, and_one_is_mod -> ID, succ_le_of_lt -> II, lt_succ_of_lt -> IJ, le_succ -> IK, div_one -> IL, div_eq_of_lt -> IW, pow_zero -> ln, beq_refl -> lq, le_div_iff_mul_le -> lC, sub_le_sub_right -> lJ, log2_lt -> lK, add_add_add_comm -> lL
open Int renaming le_trans -> CM, le_add_of_nonneg_right -> CQ, eq_ofNat_of_zero_le -> ew, le_of_lt -> eC, add_le_add_right -> eD, ofNat_lt -> eG, mul_le_mul_of_nonneg_left -> eH, lt_of_lt_of_le -> eI, mul_le_mul_of_nonneg_right -> eM, add_le_add_left -> eT, le_of_lt_add_one -> eU, toNat -> Eb, add_nonneg -> Eg, toNat_natCast -> Ej, add_assoc -> En, ofNat_le -> Er, mul_nonneg -> Eu, ofNat_sub -> Ev, lt_of_le_of_lt -> EA, mul_assoc -> EB, natCast_pow -> EH, emod_nonneg -> EI, natCast_nonneg -> EK, emod_lt_of_pos -> EL, mul_comm -> ES, lt_trans -> ET, toNat_of_nonneg -> EW, add_lt_add_left -> EX, ediv_nonneg -> EZ, not_lt -> ic, add_sub_cancel -> ie, zero_add -> ik, sub_nonneg -> iq, sub_add_cancel -> ir, pow_add -> iy, add_comm -> iz, toNat_sub -> iA, one_mul -> iB, le_of_eq -> iF, sub_le_self -> iG, natCast_add -> iH, mul_lt_mul_of_pos_right -> iM, natAbs_of_nonneg -> iO, mul_pos -> iP, le_sub_one_of_lt -> iQ, add_one_le_of_lt -> iR, add_zero -> iV, toNat_le_toNat -> Ic, le_ediv_iff_mul_le -> Ij, sub_zero -> Iz, ne_of_gt -> IA, fdiv_eq_ediv_of_nonneg -> IE, mul_one -> IN, le_refl -> IP, natCast_ediv -> lf
open List renaming mem_append_right -> CN, mem_append_left -> CO, mem_append -> CS, mem_map -> CU, mem_cons_of_mem -> CY, mem_cons_self -> CZ, length_map -> ee, map_append -> eK, length_append -> eN, nodup_cons -> eO, range -> eQ, mem_of_getElem? -> eR, mem_singleton -> eS, mem_cons -> eV, replicate -> eX, getElem?_map -> eZ, getElem?_eq_some_iff -> Ef, all_eq_true -> Eh, nodup_append -> Ep, length_range -> Ey, mem_range -> Ez, append_assoc -> ER, map_congr_left -> EU, getElem?_range -> EV, getElem?_eq_getElem -> ii, map_map -> io, take_of_length_le -> iE, getElem?_eq_none -> iJ, size_toArray -> iK, getElem?_set -> iL, getElem?_append_left -> iW, mem_filter -> Ib, nodup_nil -> Ih, map_inj_left -> Ii, not_mem_nil -> Im, any_eq_true -> Io, any_cons -> Ip, range_eq_range' -> It, length_set -> Iu, append_nil -> Iv, take_add_one -> IM, map_cons -> IS, lookup_cons -> IX, length_cons -> IY, getElem_map -> IZ, find?_cons -> lr, replicate_succ -> lP
open PySem renaming wpAny_bind -> CP, wpAny_pure -> eA, wpAny -> Ec, strKind -> El, bindL -> lD, mem_of_lookup -> lN
open PySem.Heap renaming lt_size -> eW, get?_push_of_some -> Es, dictOf_iff -> EC, get?_push_size -> EE
open Bool renaming false_eq_true -> Ee, and_eq_true -> ED, and_eq_true_iff -> EM, false_ne_true -> iu, or_eq_true_iff -> iY, not_true -> IT, or_eq_false_iff -> lM
open Option renaming isSome_iff_exists -> iZ, map_eq_some_iff -> lm
open PySem.F renaming slot_dict_get -> Ik
open Array renaming length_toList -> Iw
open PySem.Value renaming int -> IB
open PySem.Stmt.AugAssign renaming elim -> IF
open PySem.Expr.Subscript renaming elim -> IG
open PySem.Expr.Attribute renaming elim -> IH
open PySem.Expr.ListComp renaming elim -> IQ
open PySem.Expr.Constant renaming elim -> IR
open PySem.Expr.UnaryOp renaming elim -> IU
open PySem.Expr.Compare renaming elim -> IV
open PySem.Stmt.Return renaming elim -> lg
open PySem.Stmt.Assign renaming elim -> lh
open PySem.Expr.BoolOp renaming elim -> lj
open PySem.Stmt.While renaming elim -> lu
open PySem.Expr.Tuple renaming elim -> lw
open PySem.Expr.Slice renaming elim -> lz
open PySem.Expr.IfExp renaming elim -> lA
open PySem.Expr.BinOp renaming elim -> lB
open PySem.Stmt.Expr renaming elim -> lE
open PySem.Expr.Name renaming elim -> lF
open PySem.Expr.List renaming elim -> lG
open PySem.Expr.Dict renaming elim -> lH
open PySem.Expr.Call renaming elim -> lI
open PySem.Stmt.For renaming elim -> lO
section
namespace Mi
open PySem
inductive Op | add | sub | mul | pow | shl | shr | band | bor | bxor | div | mod
 deriving DecidableEq
inductive Cm | eq | ne | lt | le | gt | ge | is | isn
 deriving DecidableEq
inductive Bi | len | min | max | abs | int | sum | bytes | bytearray | list | isInt | isBool | isTup | get | bitlen | append | extend
 deriving DecidableEq
inductive V
 | none | bool (b : Bool) | int (i : Int) | str (n : Nat) | byt (b : Array UInt8)
 | tup (l : List V) | lst (l : List V) | dic (l : List (Nat × V))
 | h (k : Nat) | obj (c d : Nat) | row (c : Bool) (n : Int) (k : Nat) | own (l : List V)
 deriving Inhabited
inductive MO
 | attrs (l : List (Nat × V)) | dict (l : List (Nat × V)) | list (l : List V) | row (c : Bool) (n : Int) (f : Int -> Int) (u : Nat) | ba (n : Nat)
noncomputable abbrev Mu := List MO
noncomputable abbrev PT := List V -> Mu -> (V -> Mu -> Prop) -> Prop
inductive E
 | int (i : Int) | none | bool (b : Bool) | str (n : Nat) | loc (i : Nat) | glob (g : Nat)
 | bin (o : Op) (a b : E) | cmp (o : Cm) (a b : E) | cmp2 (o p : Cm) (a b c : E) | inn (neg : Bool) (a b : E)
 | and (a b : E) | or (a b : E) | not (a : E) | ite (c a b : E)
 | attr (e : E) (a : Nat) | sub (e i : E) | slTo (e j : E) | slFrom (e i : E)
 | call (f : Nat) (args : E) | cmeth (c m : Nat) (args : E) | meth (o : E) (m : Nat) (args : E) | new (c : Nat) (args : E) | bi (b : Bi) (args : E) | bm (b : Bi) (o args : E)
 | lenOwn (x : Nat)
 | nil | cons (e es : E)
 | tup (es : E) | lst (es : E) | lstH (es : E) | rowH (es : E) | dic (ks : List Nat) (es : E) | dicH (ks : List Nat) (es : E)
 | compR (x : Nat) (lo hi st e : E) | compL (xs : List Nat) (src e : E)
inductive Tg | nm (x : Nat) | sb (b i : E)
inductive S
 | nop | seq (a b : S) | asg (x : Nat) (e : E) | asgT (ts : List Tg) (e : E) | asgR (ts : List Tg) (e : E) | sattr (b : E) (a : Nat) (e : E) | ssub (b i e : E) | aug (o : Op) (b : E) (a : Nat) (e : E)
 | ret (e : E) | ex (e : E) | ite (c : E) (a b : S) | fail
 | forL (xs : List Nat) (one : Bool) (e : E) (b : S) | forR (x : Nat) (lo hi st : E) (b : S) | forE (x y : Nat) (e : E) (b : S) | whil (c : E) (b : S)
 | app (x : Nat) (e : E) | own (x : Nat) (es : E) | own2 (x y : Nat) | own3 (x y z : Nat) (a b es : E) | frz (x : Nat)
noncomputable def qQ : Nat -> List (Nat × V) -> Option V
 | _, [] => .none
 | a, (b, v) :: r => bif eB a b then some v else qQ a r
noncomputable def put (a : Nat) (v : V) : List (Nat × V) -> List (Nat × V)
 | [] => [(a, v)]
 | (b, w) :: r => bif eB a b then (b, v) :: r else (b, w) :: put a v r
noncomputable def qj {α : Type} : List α -> Nat -> Option α
 | [], _ => .none
 | x :: _, 0 => some x
 | _ :: r, n + 1 => qj r n
noncomputable def qy {α : Type} : List α -> Nat -> α -> List α
 | [], _, _ => []
 | _ :: r, 0, y => y :: r
 | x :: r, n + 1, y => x :: qy r n y
theorem qE {α : Type} : ∀ (l : List α) (n : Nat), qj l n = l[n]?
 | [], n => by simp [qj]
 | x :: _, 0 => rfl
 | _ :: r, n + 1 => by simp [qj, qE r n]
theorem qZ {α : Type} : ∀ (l : List α) (n : Nat) (y : α), qy l n y = l.set n y
 | [], n, y => by simp [qy]
 | x :: _, 0, y => rfl
 | _ :: r, n + 1, y => by simp [qy, qZ r n y]
noncomputable def zv : List V -> Option (List Int)
 | [] => some []
 | .int i :: r => match zv r with | some l => some (i :: l) | .none => .none
 | _ :: _ => .none
noncomputable def UZ (o : Op) (a b : Int) (k : Int -> Prop) : Prop := match o with
 | .add => k (a + b) | .sub => k (a - b) | .mul => IntMulOk a b /\ k (a * b)
 | .pow => (0 <= b /\ b <= 1000000 /\ a.natAbs < 2 ^ 64) /\ k (a ^ b.toNat)
 | .shl => (0 <= b /\ b <= 1000000 /\ a.natAbs < 2 ^ 64) /\ k (a * 2 ^ b.toNat)
 | .shr => 0 <= b /\ k (a / 2 ^ b.toNat)
 | .band => (0 <= a /\ 0 <= b) /\ k ((a.toNat &&& b.toNat : Nat) : Int)
 | .bor => (0 <= a /\ 0 <= b) /\ k (a + b - ((a.toNat &&& b.toNat : Nat) : Int))
 | .bxor => (0 <= a /\ 0 <= b) /\ k (a + b - 2 * ((a.toNat &&& b.toNat : Nat) : Int))
 | .div => (0 < b /\ b.natAbs.log2 < 9000) /\ k (a / b)
 | .mod => 0 < b /\ k (a % b)
noncomputable def FG (o : Cm) (a b : Int) : Prop := match o with
 | .eq => a = b | .ne => a ≠ b | .lt => a < b | .le => a <= b | .gt => a > b | .ge => a >= b | _ => False
noncomputable def ways (c : Prop) (k : Bool -> Prop) : Prop := (c -> k true) /\ (¬ c -> k false)
structure WE where
 Γ : Nat -> PT
 MT : Nat -> Nat -> Option Nat
 CT : Nat -> Nat -> Option Nat
 AT : Nat -> Nat -> Bool
 init : Nat -> Option (Option Nat)
 cat : Nat -> Nat -> Option Nat
 gv : Nat -> Option V
section
variable (x : V)
noncomputable def pI (F : Int -> Prop) : Prop := match x with | .int i => F i | _ => False
noncomputable def pS (F : Nat -> Prop) : Prop := match x with | .str i => F i | _ => False
noncomputable def pB (F : Bool -> Prop) : Prop := match x with | .bool i => F i | _ => False
noncomputable def pY (F : Array UInt8 -> Prop) : Prop := match x with | .byt i => F i | _ => False
noncomputable def pL (F : List V -> Prop) : Prop := match x with | .lst i => F i | _ => False
noncomputable def pT (F : List V -> Prop) : Prop := match x with | .tup i => F i | _ => False
noncomputable def pO (F : Nat -> Nat -> Prop) : Prop := match x with | .obj c d => F c d | _ => False
noncomputable def pN (F : Prop) : Prop := match x with | .none => F | _ => False
noncomputable def p1 (l : List V) (F : V -> Prop) : Prop := match l with | [x] => F x | _ => False
noncomputable def p2 (l : List V) (F : V -> V -> Prop) : Prop := match l with | [x, y] => F x y | _ => False
noncomputable def p0 {α : Type} (l : List α) (F : Prop) : Prop := match l with | [] => F | _ :: _ => False
variable (o : Option MO)
noncomputable def mA (F : List (Nat × V) -> Prop) : Prop := match o with | some (.attrs l) => F l | _ => False
noncomputable def mL (F : List V -> Prop) : Prop := match o with | some (.list l) => F l | _ => False
noncomputable def mD (F : List (Nat × V) -> Prop) : Prop := match o with | some (.dict l) => F l | _ => False
noncomputable def mR (F : Bool -> Int -> (Int -> Int) -> Nat -> Prop) : Prop := match o with | some (.row c n f u) => F c n f u | _ => False
noncomputable def uR (F : Nat -> Prop) : Prop := match o with | some (.ba n) => F n | _ => False
noncomputable def fK (x : V) (F : List V -> Prop) : Prop := match x with | .lst l => F l | .tup l => F l | _ => False
noncomputable def ux (o : Option (Option V)) (F : List V -> Prop) : Prop := match o with | some (some (.own l)) => F l | _ => False
noncomputable def fL (o : Option (Option V)) (F : V -> Prop) : Prop := match o with | some (some (.own _)) => False | some (some v) => F v | _ => False
noncomputable def uy (o : Option (Option V)) (F : V -> Prop) : Prop := match o with | some (some v) => F v | _ => False
noncomputable def oS {α : Type} (o : Option α) (F : α -> Prop) : Prop := match o with | some a => F a | none => False
end
section
variable (T : WE)
noncomputable def Hb (o : Op) (x y : V) (k : V -> Prop) : Prop := match x with
 | .int a => pI y λ b => UZ o a b λ z => k (.int z)
 | .str a => pS y λ b => match o with | .add => oS (T.cat a b) λ c => k (.str c) | _ => False
 | .lst a => pL y λ b => match o with | .add => (a ++ b).length <= 1000000 /\ k (.lst (a ++ b)) | _ => False
 | .byt a => pI y λ n => match o with | .mul => (0 <= n /\ n <= 1000000 /\ a.size = 1) /\ k (.byt (eX n.toNat a.toList).flatten.toArray) | _ => False
 | _ => False
noncomputable def Rp (x : V) (k : Bool -> Prop) : Prop := match x with
 | .none => k true
 | .int _ => k false
 | _ => False
noncomputable def rD (o : Cm) (k : Prop) (j : Prop) : Prop := match o with | .eq => k | .ne => j | _ => False
noncomputable def FE (o : Cm) (x y : V) (k : Bool -> Prop) : Prop := match x with
 | .int a => pI y λ b => ways (FG o a b) k
 | .str a => pS y λ b => rD o (k (eB a b)) (k (!Nat.beq a b))
 | .tup a => pT y λ b => oS (zv a) λ a => oS (zv b) λ b => rD o (ways (a = b) k) (ways (a ≠ b) k)
 | .lst a => pL y λ b => ∃ a' b', zv a = some a' /\ zv b = some b' /\ rD o (ways (a' = b') k) (ways (a' ≠ b') k)
 | _ => False
noncomputable def KB (o : Cm) (x y : V) (k : Bool -> Prop) : Prop := match o with
 | .is => pN y (Rp x k)
 | .isn => pN y (Rp x λ b => k (!b))
 | o => FE o x y k
noncomputable def vb (a : Nat) (v : V) : Bool := match v with | .str t => eB a t | _ => false
noncomputable def bT (neg : Bool) (x y : V) (k : Bool -> Prop) : Prop := match x with
 | .int i => pT y λ l => oS (zv l) λ l => ways (i ∈ l) λ c => k (xor neg c)
 | .str s => pT y λ l => (∀ v ∈ l, ∃ t, v = .str t) /\ k (xor neg (l.any (vb s)))
 | _ => False
noncomputable def yp (v : V) (k : Bool -> Prop) : Prop := match v with
 | .bool b => k b
 | .int i => ways (i ≠ 0) k
 | .none => k false
 | _ => False
noncomputable def Yk (U : Mu) (x : V) (a : Nat) (k : V -> Prop) : Prop := pO x λ c d => match T.AT c a with
 | true => mA (qj U d) λ l => oS (qQ a l) k
 | false => False
noncomputable def Vu (U : Mu) (x : V) (a : Nat) (v : V) (k : Mu -> Prop) : Prop := pO x λ c d => match T.AT c a with
 | true => mA (qj U d) λ l => l.length < 900 /\ k (qy U d (.attrs (put a v l)))
 | false => False
noncomputable def jF (U : Mu) (c : Bool) (n : Int) (d : Nat) : Prop := match c with
 | true => 0 < d /\ ∃ l, qj U (d - 1) = some (.attrs l) /\ qQ 0 l = some (.int n) /\ qQ 1 l = some (.h d)
 | false => True
noncomputable def rR (o : Option MO) (y : V) (k : V -> Prop) : Prop := match y with
 | .int i => mL o λ l => (0 <= i /\ i < 1000000) /\ ∃ v, qj l i.toNat = some v /\ k v
 | .str s => mD o λ l => ∃ v, qQ s l = some v /\ k v
 | _ => False
noncomputable def DA (U : Mu) (x y : V) (k : V -> Prop) : Prop := match x with
 | .h d => rR (qj U d) y k
 | .row c n d => pI y λ i => mR (qj U d) λ c' n' f _ => (c = c' /\ n = n' /\ 0 <= i /\ i < n /\ i < 1000000000 /\ jF U c n d) /\ k (.int (f i))
 | .lst l => pI y λ i => (0 <= i /\ i < 1000000) /\ ∃ v, qj l i.toNat = some v /\ k v
 | .tup l => pI y λ i => (0 <= i /\ i < 1000000) /\ ∃ v, qj l i.toNat = some v /\ k v
 | .dic l => pS y λ s => ∃ v, qQ s l = some v /\ k v
 | .byt b => pI y λ i => (0 <= i /\ i < b.size /\ b.size <= 1000000) /\ k (.int (b.toList.getD i.toNat 0).toNat)
 | _ => False
noncomputable def WS (U : Mu) (d : Nat) (y v : V) (k : Mu -> Prop) : Prop := match y with
 | .int i => mL (qj U d) λ l => (0 <= i /\ i < l.length /\ i < 1000000000) /\ k (qy U d (.list (qy l i.toNat v)))
 | .str s => mD (qj U d) λ l => l.length < 900 /\ k (qy U d (.dict (put s v l)))
 | _ => False
noncomputable def Jt (U : Mu) (x y v : V) (k : Mu -> Prop) : Prop := match x with
 | .h d => WS U d y v k
 | .row c n d => pI y λ i => mR (qj U d) λ c' n' f u => (c = c' /\ n = n' /\ 0 <= i /\ i < n /\ u < 1000000 /\ i < 1000000000 /\ jF U c n d) /\ pI v λ j => k (qy U d (.row c' n' (λ q => if q = i then j else f q) (u + 1)))
 | _ => False
noncomputable def Fg (x : V) (U : Mu) (k : V -> Mu -> Prop) : Prop := match x with
 | .lst l => l.length <= 1000000 /\ k (.int l.length) U
 | .tup l => l.length <= 1000000 /\ k (.int l.length) U
 | .byt b => b.size <= 1000000 /\ k (.int b.size) U
 | .h d => uR (qj U d) λ n => n <= 1000000 /\ k (.int n) U
 | _ => False
noncomputable def hX (x : V) (U : Mu) (k : V -> Mu -> Prop) : Prop := match x with
 | .lst l => p1 l λ x => pI x λ i => (0 <= i /\ i < 256) /\ k (.byt #[UInt8.ofNat i.toNat]) U
 | .h d => uR (qj U d) λ n => n <= 1000000 /\ ∀ b : Array UInt8, b.size = n -> k (.byt b) U
 | _ => False
noncomputable def He (b : Bi) (args : List V) (U : Mu) (k : V -> Mu -> Prop) : Prop := match b with
 | .len => p1 args λ x => Fg x U k
 | .min => p2 args λ x y => pI x λ a => pI y λ b => k (.int (if b < a then b else a)) U
 | .max => p2 args λ x y => pI x λ a => pI y λ b => k (.int (if b > a then b else a)) U
 | .abs => p1 args λ x => pI x λ a => k (.int a.natAbs) U
 | .int => p1 args λ x => pB x λ b => k (.int (cond b 1 0)) U
 | .sum => p1 args λ x => pL x λ l => ∃ l', zv l = some l' /\ k (.int l'.sum) U
 | .bytes => p1 args λ x => hX x U k
 | .bytearray => p0 args (k (.h U.length) (U ++ [.ba 0]))
 | .list => p1 args λ x => pT x λ l => l.length <= 1000000 /\ k (.lst l) U
 | .isInt => p1 args λ x => pI x λ _ => k (.bool true) U
 | .isBool => p1 args λ x => pI x λ _ => k (.bool false) U
 | .isTup => p1 args λ x => pT x λ _ => k (.bool true) U
 | _ => False
noncomputable def OF (x : V) (F : List (Nat × V) -> Prop) : Prop := match x with | .dic i => F i | _ => False
noncomputable def pH (x : V) (F : Nat -> Prop) : Prop := match x with | .h i => F i | _ => False
noncomputable def Fo (o : Option V) (d : V) (k : V -> Prop) : Prop := match o with | some v => k v | none => k d
noncomputable def RJ (b : Bi) (o : V) (args : List V) (U : Mu) (k : V -> Mu -> Prop) : Prop := match b with
 | .get => OF o λ l => p2 args λ s d => pS s λ s => Fo (qQ s l) d λ v => k v U
 | .bitlen => pI o λ i => p0 args (0 <= i /\ k (.int (if i = 0 then 0 else (i.toNat.log2 + 1 : Nat))) U)
 | .append => pH o λ d => p1 args λ x => uR (qj U d) λ n => pI x λ i => (0 <= i /\ i < 256 /\ n < 1000000) /\ k .none (qy U d (.ba (n + 1)))
 | .extend => pH o λ d => p1 args λ x => uR (qj U d) λ n => pY x λ b => n + b.size <= 1000000 /\ k .none (qy U d (.ba (n + b.size)))
 | _ => False
noncomputable def Ha (b : Bi) (x : V) (U : Mu) : Prop := match b with
 | .get => OF x λ _ => True
 | .bitlen => pI x λ _ => True
 | .append => pH x λ d => uR (qj U d) λ _ => True
 | .extend => pH x λ d => uR (qj U d) λ _ => True
 | _ => False
noncomputable def Xv : List Nat -> List V -> List (Nat × V)
 | a :: r, v :: l => put a v [] ++ Xv r l
 | _, _ => []
noncomputable def qU (lo hi st : Int) : List Int := if st > 0 then (eQ ((hi - lo + st - 1) / st).toNat).map λ (i : Nat) => lo + st * (i : Int) else (eQ ((lo - hi - st - 1) / (-st)).toNat).map λ (i : Nat) => lo + st * (i : Int)
noncomputable def bindL : List Nat -> List V -> List (Option V) -> Option (List (Option V))
 | [], [], loc => some loc
 | x :: xs, v :: vs, loc => bindL xs vs (qy loc x (some v))
 | _, _, _ => .none
noncomputable def YE (step : V -> Mu -> (V -> Mu -> Prop) -> Prop) : List V -> Mu -> (List V -> Mu -> Prop) -> Prop
 | [], U, k => k [] U
 | v :: vs, U, k => step v U λ x U => YE step vs U λ l U => k (x :: l) U
noncomputable def zx (xs : List Nat) (one : Bool) (v : V) (loc : List (Option V)) : Option (List (Option V)) := match one with
 | true => bindL xs [v] loc
 | false => match v with | .tup l => bindL xs l loc | _ => .none
mutual
noncomputable def qx (loc : List (Option V)) (e : E) (U : Mu) (k : V -> Mu -> Prop) : Prop := match e, U, k with
 | .int i, U, k => k (.int i) U
 | .none, U, k => k .none U
 | .bool b, U, k => k (.bool b) U
 | .str n, U, k => k (.str n) U
 | .loc i, U, k => fL (qj loc i) λ v => k v U
 | .glob g, U, k => oS (T.gv g) λ v => k v U
 | .bin o a b, U, k => qx loc a U λ x U => qx loc b U λ y U => Hb T o x y λ z => k z U
 | .cmp o a b, U, k => qx loc a U λ x U => qx loc b U λ y U => KB o x y λ c => k (.bool c) U
 | .cmp2 o p a b c, U, k => qx loc a U λ x U => qx loc b U λ y U => KB o x y λ t => match t with
     | true => qx loc c U λ z U => KB p y z λ t => k (.bool t) U
     | false => k (.bool false) U
 | .inn neg a b, U, k => qx loc a U λ x U => qx loc b U λ y U => bT neg x y λ c => k (.bool c) U
 | .and a b, U, k => qx loc a U λ x U => yp x λ c => match c with | true => qx loc b U k | false => k x U
 | .or a b, U, k => qx loc a U λ x U => yp x λ c => match c with | false => qx loc b U k | true => k x U
 | .not a, U, k => qx loc a U λ x U => yp x λ c => k (.bool (!c)) U
 | .ite c a b, U, k => Xs loc c U λ c U => match c with | true => qx loc a U k | false => qx loc b U k
 | .attr e a, U, k => qx loc e U λ x U => Yk T U x a λ v => k v U
 | .sub e i, U, k => qx loc e U λ x U => qx loc i U λ y U => DA U x y λ v => k v U
 | .slTo e j, U, k => qx loc e U λ x U => qx loc j U λ y U => pL x λ l => pI y λ j => (0 <= j /\ l.length <= 1000000) /\ k (.lst (l.take j.toNat)) U
 | .slFrom e i, U, k => qx loc e U λ x U => qx loc i U λ y U => pL x λ l => pI y λ j => (0 <= j /\ l.length <= 1000000) /\ k (.lst (l.drop j.toNat)) U
 | .call f args, U, k => qx loc args U λ a U => pT a λ l => T.Γ f l U k
 | .cmeth c m args, U, k => oS (T.CT c m) λ f => qx loc args U λ a U => pT a λ l => T.Γ f l U k
 | .meth o m args, U, k => qx loc o U λ x U => pO x λ c d => oS (T.MT c m) λ f => mA (qj U d) λ al => match qQ m al with
     | .none => qx loc args U λ a U => pT a λ l => T.Γ f (x :: l) U k
     | some _ => False
 | .new c args, U, k => oS (T.init c) λ g => oS g λ f => qx loc args U λ a U => pT a λ l => T.Γ f (.obj c U.length :: l) (U ++ [.attrs []]) λ v U' => pN v (k (.obj c U.length) U')
 | .bi b args, U, k => qx loc args U λ a U => pT a λ l => He b l U k
 | .bm b o args, U, k => qx loc o U λ x U => Ha b x U /\ qx loc args U λ a U => pT a λ l => RJ b x l U k
 | .lenOwn x, U, k => ux (qj loc x) λ l => l.length <= 1000000 /\ k (.int l.length) U
 | .nil, U, k => k (.tup []) U
 | .cons e es, U, k => qx loc e U λ x U => qx loc es U λ y U => pT y λ l => k (.tup (x :: l)) U
 | .tup es, U, k => qx loc es U k
 | .lst es, U, k => qx loc es U λ y U => pT y λ l => k (.lst l) U
 | .lstH es, U, k => qx loc es U λ y U => pT y λ l => k (.h U.length) (U ++ [.list l])
 | .rowH es, U, k => qx loc es U λ y U => pT y λ l => oS (zv l) λ l => k (.row false l.length U.length) (U ++ [.row false l.length (λ i => l.getD i.toNat 0) 0])
 | .dic ks es, U, k => qx loc es U λ y U => pT y λ l => k (.dic (Xv ks l)) U
 | .dicH ks es, U, k => qx loc es (U ++ [.dict []]) λ y U' => pT y λ l => mD (qj U' U.length) λ e => p0 e (k (.h U.length) (qy U' U.length (.dict (Xv ks l))))
 | .compR x lo hi st e, U, k => qx loc lo U λ a U => qx loc hi U λ b U => qx loc st U λ c U => pI a λ a => pI b λ b => pI c λ c => (a.natAbs <= 1000000000000 /\ b.natAbs <= 1000000000000 /\ (qU a b c).length <= 1000000) /\ YE (λ v U k => qx (qy loc x (some v)) e U k) ((qU a b c).map .int) U λ l U => k (.lst l) U
 | .compL xs src e, U, k => qx loc src U λ a U => pL a λ l => l.length <= 1000000 /\ YE (λ v U k => oS (zx xs false v loc) λ loc => qx loc e U k) l U λ l U => k (.lst l) U
termination_by structural e
noncomputable def Xs (loc : List (Option V)) (e : E) (U : Mu) (k : Bool -> Mu -> Prop) : Prop := match e, U, k with
 | .cmp o a b, U, k => qx loc a U λ x U => qx loc b U λ y U => KB o x y λ c => k c U
 | .cmp2 o p a b c, U, k => qx loc a U λ x U => qx loc b U λ y U => KB o x y λ t => match t with
     | true => qx loc c U λ z U => KB p y z λ t => k t U
     | false => k false U
 | .and a b, U, k => Xs loc a U λ c U => match c with | true => Xs loc b U k | false => k false U
 | .or a b, U, k => Xs loc a U λ c U => match c with | true => k true U | false => Xs loc b U k
 | .not a, U, k => Xs loc a U λ c U => k (!c) U
 | .ite c a b, U, k => Xs loc c U λ c U => match c with | true => Xs loc a U k | false => Xs loc b U k
 | .inn neg a b, U, k => qx loc a U λ x U => qx loc b U λ y U => bT neg x y λ c => k c U
 | .attr e a, U, k => qx loc e U λ x U => Yk T U x a λ v => yp v λ t => k t U
 | .bi b args, U, k => qx loc args U λ a U => pT a λ l => He b l U λ v U => yp v λ t => k t U
 | .loc i, U, k => uy (qj loc i) λ v => yp v λ t => k t U
 | .call f args, U, k => qx loc args U λ a U => pT a λ l => T.Γ f l U λ v U => yp v λ t => k t U
 | .bool b, U, k => k b U
 | _, _, _ => False
termination_by structural e
end
noncomputable def jZ (step : V -> List (Option V) -> Mu -> (List (Option V) -> Mu -> Prop) -> Prop) : List V -> List (Option V) -> Mu -> (List (Option V) -> Mu -> Prop) -> Prop
 | [], loc, U, k => k loc U
 | v :: vs, loc, U, k => step v loc U λ loc U => jZ step vs loc U k
noncomputable def kM (c : List (Option V) -> Mu -> (Bool -> Mu -> Prop) -> Prop) (b : List (Option V) -> Mu -> (List (Option V) -> Mu -> Prop) -> Prop) : Nat -> List (Option V) -> Mu -> (List (Option V) -> Mu -> Prop) -> Prop
 | 0, _, _, _ => False
 | n + 1, loc, U, k => c loc U λ t U => match t with | true => b loc U λ loc U => kM c b n loc U k | false => k loc U
noncomputable def Xx (loc : List (Option V)) : List Tg -> List V -> Mu -> (List (Option V) -> Mu -> Prop) -> Prop
 | [], [], U, k => k loc U
 | .nm x :: ts, v :: vs, U, k => Xx (qy loc x (some v)) ts vs U k
 | .sb b i :: ts, v :: vs, U, k => qx T loc b U λ x U => qx T loc i U λ y U => Jt U x y v λ U => Xx loc ts vs U k
 | _, _, _, _ => False
noncomputable def ZH : Nat -> List V -> List V
 | _, [] => []
 | n, v :: r => .tup [.int n, v] :: ZH (n + 1) r
noncomputable def zS : S -> List (Option V) -> Mu -> (List (Option V) -> Mu -> Prop) -> (V -> Mu -> Prop) -> Prop
 | .nop, loc, U, kn, _ => kn loc U
 | .seq a b, loc, U, kn, kr => zS a loc U (λ loc U => zS b loc U kn kr) kr
 | .asg x e, loc, U, kn, _ => qx T loc e U λ v U => kn (qy loc x (some v)) U
 | .asgT ts e, loc, U, kn, _ => qx T loc e U λ v U => pT v λ l => l.length = ts.length /\ Xx T loc ts l U kn
 | .asgR ts e, loc, U, kn, _ => qx T loc e U λ v U => pT v λ l => l.length = ts.length /\ Xx T loc ts.reverse l.reverse U kn
 | .sattr b a e, loc, U, kn, _ => qx T loc e U λ v U => qx T loc b U λ x U => Vu T U x a v λ U => kn loc U
 | .ssub b i e, loc, U, kn, _ => qx T loc e U λ v U => qx T loc b U λ x U => qx T loc i U λ y U => Jt U x y v λ U => kn loc U
 | .aug o b a e, loc, U, kn, _ => qx T loc b U λ x U => Yk T U x a λ old => qx T loc e U λ v U => pI old λ i => pI v λ j => UZ o i j λ z => Vu T U x a (.int z) λ U => kn loc U
 | .ret e, loc, U, _, kr => qx T loc e U kr
 | .ex e, loc, U, kn, _ => qx T loc e U λ _ U => kn loc U
 | .ite c a b, loc, U, kn, kr => Xs T loc c U λ t U => match t with | true => zS a loc U kn kr | false => zS b loc U kn kr
 | .fail, _, _, _, _ => False
 | .forL xs one e b, loc, U, kn, kr => qx T loc e U λ v U => fK v λ l => l.length <= 1000000 /\ jZ (λ v loc U k => oS (zx xs one v loc) λ loc => zS b loc U k kr) l loc U kn
 | .forR x lo hi st b, loc, U, kn, kr => qx T loc lo U λ a U => qx T loc hi U λ b' U => qx T loc st U λ c U => pI a λ a => pI b' λ b' => pI c λ c =>
     (a.natAbs <= 1000000000000 /\ b'.natAbs <= 1000000000000 /\ (qU a b' c).length <= 1000000) /\ jZ (λ v loc U k => zS b (qy loc x (some v)) U k kr) ((qU a b' c).map .int) loc U kn
 | .forE x y e b, loc, U, kn, kr => qx T loc e U λ v U => pL v λ l => l.length <= 1000000 /\ jZ (λ v loc U k => oS (zx [x, y] false v loc) λ loc => zS b loc U k kr) (ZH 0 l) loc U kn
 | .whil c b, loc, U, kn, kr => ∃ n, kM (λ loc U k => Xs T loc c U k) (λ loc U k => zS b loc U k kr) n loc U kn
 | .app x e, loc, U, kn, _ => ux (qj loc x) λ l => l.length < 1000000 /\ qx T loc e U λ v U => kn (qy loc x (some (.own (l ++ [v])))) U
 | .own x es, loc, U, kn, _ => qx T loc es U λ v U => pT v λ l => kn (qy loc x (some (.own l))) U
 | .own2 x y, loc, U, kn, _ => kn (qy (qy loc y (some (.own []))) x (some (.own []))) U
 | .own3 x y z a b es, loc, U, kn, _ => qx T loc a U λ u U => qx T loc b U λ v U => qx T loc es U λ w U => pT w λ l => kn (qy (qy (qy loc z (some (.own l))) y (some v)) x (some u)) U
 | .frz x, loc, U, kn, _ => ux (qj loc x) λ l => kn (qy loc x (some (.lst l))) U
end
end Mi
end
section
namespace Mi
open PySem PySem.W PyProof.Rows
structure Nm where
 sn : Nat -> Str
 an : Nat -> Str
 ca : Nat -> Addr
 gn : Nat -> Str
 fn : Nat -> Str
 fa : Nat -> Addr
 isF : Nat -> Bool
 cn : Nat -> Str
 bz : List (Addr × Obj)
structure Ix where
 ad : List Addr
 bz : List (Addr × Obj)
 fz : List (Addr × Obj)
 ow : List (Nat × Addr)
structure Ix.Le (a b : Ix) : Prop where
 ad : ∃ t, b.ad = a.ad ++ t
 bz : b.bz = a.bz
 fz : ∀ p ∈ a.fz, p ∈ b.fz
 ow : b.ow = a.ow
structure Ix.Le0 (a b : Ix) : Prop where
 ad : ∃ t, b.ad = a.ad ++ t
 bz : b.bz = a.bz
 fz : ∀ p ∈ a.fz, p ∈ b.fz
theorem Ix.Le.w {a b : Ix} (h : a.Le b) : a.Le0 b := ⟨h.ad, h.bz, h.fz⟩
theorem Ix.Le0.refl (a : Ix) : a.Le0 a := ⟨⟨[], (Iv _).symm⟩, rfl, λ _ h => h⟩
theorem Ix.Le0.trans {a b c : Ix} (x : a.Le0 b) (y : b.Le0 c) : a.Le0 c :=
 ⟨x.ad.elim λ t ht => y.ad.elim λ u hu => ⟨t ++ u, by rw [hu, ht, ER]⟩, y.bz.trans x.bz, λ p hp => y.fz p (x.fz p hp)⟩
theorem Ix.Le0.ow (ix : Ix) (o : List (Nat × Addr)) : ix.Le0 { ix with ow := o } := ⟨⟨[], (Iv _).symm⟩, rfl, λ _ h => h⟩
theorem Ix.Le.refl (a : Ix) : a.Le a := have z := Ix.Le0.refl a; ⟨z.ad, z.bz, z.fz, rfl⟩
theorem Ix.Le.trans {a b c : Ix} (x : a.Le b) (y : b.Le c) : a.Le c := have z := x.w.trans y.w; ⟨z.ad, z.bz, z.fz, y.ow.trans x.ow⟩
noncomputable def Ix.Fz (ix : Ix) (p : Addr × Obj) : Prop := p ∈ ix.fz \/ p ∈ ix.bz
theorem Ix.Le0.Fz {a b : Ix} (x : a.Le0 b) {p : Addr × Obj} (h : a.Fz p) : b.Fz p := h.imp (x.fz p) (λ q => x.bz ▸ q)
theorem Ix.Le.Fz {a b : Ix} (x : a.Le b) {p : Addr × Obj} (h : a.Fz p) : b.Fz p := x.w.Fz h
theorem Ix.Le0.at {a b : Ix} (x : a.Le0 b) {k : Nat} {v : Addr} (h : a.ad[k]? = some v) : b.ad[k]? = some v :=
 x.ad.elim λ t ht => by rw [ht, iW (Ef.mp h).1]; exact h
theorem Ix.Le.at {a b : Ix} (x : a.Le b) {k : Nat} {v : Addr} (h : a.ad[k]? = some v) : b.ad[k]? = some v := x.w.at h
noncomputable def LO (o : Obj) (vs : List Value) : Prop := o.cls = .type "list" /\ ∃ n, o.data = .seq vs.toArray n
noncomputable def TO (o : Obj) (vs : List Value) : Prop := o.cls = .type "tuple" /\ ∃ n, o.data = .seq vs.toArray n
noncomputable abbrev oR (vs : List Value) (n : Nat) : Obj := { cls := .type "tuple", data := .seq vs.toArray n }
noncomputable abbrev qV (vs : List Value) (n : Nat) : Obj := { cls := .type "list", data := .seq vs.toArray n }
noncomputable abbrev yi (b : Array UInt8) : Obj := { cls := .type "bytearray", data := .bytearray b 0 }
variable (N : Nm) (prog : Program) (w : World)
mutual
inductive VR (ix : Ix) : Value -> V -> Prop
 | none : VR ix .none .none
 | bool {b} : VR ix (.bool b) (.bool b)
 | int {i t} : VR ix (.int i t) (.int i)
 | str {n t} : VR ix (.str (N.sn n) t) (.str n)
 | byt {b t} : VR ix (.bytes b t) (.byt b)
 | tup {a o vs l} : ix.Fz (a, o) -> TO o vs -> VRs ix vs l -> VR ix (.ref a) (.tup l)
 | lst {a o vs l} : ix.Fz (a, o) -> LO o vs -> VRs ix vs l -> VR ix (.ref a) (.lst l)
 | dic {a o kvs l} : (a, o) ∈ ix.fz -> o.IsDictOf (El prog w) kvs -> KR ix kvs l -> VR ix (.ref a) (.dic l)
 | h {a k} : ix.ad[k]? = some a -> VR ix (.ref a) (.h k)
 | obj {x dx c d} : ix.Fz (x, instObj (N.ca c) dx) -> ix.ad[d]? = some dx -> VR ix (.ref x) (.obj c d)
 | rowL {a n k} : ix.ad[k]? = some a -> VR ix (.ref a) (.row false n k)
 | rowC {x dx a n k} : ix.Fz (x, instObj (N.ca 7) dx) -> 0 < k -> ix.ad[k - 1]? = some dx -> ix.ad[k]? = some a -> VR ix (.ref x) (.row true n k)
inductive VRs (ix : Ix) : List Value -> List V -> Prop
 | nil : VRs ix [] []
 | cons {v vs x l} : VR ix v x -> VRs ix vs l -> VRs ix (v :: vs) (x :: l)
inductive KR (ix : Ix) : List (Str × Value) -> List (Nat × V) -> Prop
 | nil : KR ix [] []
 | cons {v es a x l} : VR ix v x -> KR ix es l -> KR ix ((N.sn a, v) :: es) ((a, x) :: l)
inductive DR (ix : Ix) : List DictEntry -> List (Nat × V) -> Prop
 | nil : DR ix [] []
 | cons {h t v es a x l} : VR ix v x -> DR ix es l -> DR ix (⟨h, .str (N.an a) t, v⟩ :: es) ((a, x) :: l)
end
section
variable {N prog w}
variable {ix : Ix}
@[elab_as_elim] theorem VRs.ind {P : List Value -> List V -> Prop} {vs l} (h : VRs N prog w ix vs l) (nil : P [] []) (cons : ∀ {v vs x l}, VR N prog w ix v x -> VRs N prog w ix vs l -> P vs l -> P (v :: vs) (x :: l)) : P vs l := by
 refine VRs.rec (motive_1 := λ _ _ _ => True) (motive_2 := λ vs l _ => P vs l) (motive_3 := λ _ _ _ => True) (motive_4 := λ _ _ _ => True) ?_ ?_ ?_ ?_ ?_ ?_ ?_ ?_ ?_ ?_ ?_ ?_ nil (λ a b _ c => cons a b c) ?_ ?_ ?_ ?_ h <;> (intros; trivial)
@[elab_as_elim] theorem KR.ind {P : List (Str × Value) -> List (Nat × V) -> Prop} {vs l} (h : KR N prog w ix vs l) (nil : P [] []) (cons : ∀ {v es a x l}, VR N prog w ix v x -> KR N prog w ix es l -> P es l -> P ((N.sn a, v) :: es) ((a, x) :: l)) : P vs l := by
 refine KR.rec (motive_1 := λ _ _ _ => True) (motive_2 := λ _ _ _ => True) (motive_3 := λ vs l _ => P vs l) (motive_4 := λ _ _ _ => True) ?_ ?_ ?_ ?_ ?_ ?_ ?_ ?_ ?_ ?_ ?_ ?_ ?_ ?_ nil (λ a b _ c => cons a b c) ?_ ?_ h <;> (intros; trivial)
@[elab_as_elim] theorem DR.ind {P : List DictEntry -> List (Nat × V) -> Prop} {vs l} (h : DR N prog w ix vs l) (nil : P [] []) (cons : ∀ {h t v es a x l}, VR N prog w ix v x -> DR N prog w ix es l -> P es l -> P (⟨h, .str (N.an a) t, v⟩ :: es) ((a, x) :: l)) : P vs l := by
 refine DR.rec (motive_1 := λ _ _ _ => True) (motive_2 := λ _ _ _ => True) (motive_3 := λ _ _ _ => True) (motive_4 := λ vs l _ => P vs l) ?_ ?_ ?_ ?_ ?_ ?_ ?_ ?_ ?_ ?_ ?_ ?_ ?_ ?_ ?_ ?_ nil (λ a b _ c => cons a b c) h <;> (intros; trivial)
end
theorem VR.mono0 {ix jx : Ix} (q : ix.Le0 jx) {v x} (h : VR N prog w ix v x) : VR N prog w jx v x :=
 VR.rec (motive_1 := λ v x _ => VR N prog w jx v x) (motive_2 := λ v x _ => VRs N prog w jx v x) (motive_3 := λ v x _ => KR N prog w jx v x) (motive_4 := λ v x _ => DR N prog w jx v x)
   .none .bool .int .str .byt (λ a t _ b => .tup (q.Fz a) t b) (λ a t _ b => .lst (q.Fz a) t b) (λ a b _ c => .dic (q.fz _ a) b c) (λ a => .h (q.at a)) (λ a b => .obj (q.Fz a) (q.at b)) (λ a => .rowL (q.at a)) (λ a b c d => .rowC (q.Fz a) b (q.at c) (q.at d))
   .nil (λ _ _ a b => .cons a b) .nil (λ _ _ a b => .cons a b) .nil (λ _ _ a b => .cons a b) h
theorem VRs.mono0 {ix jx : Ix} (q : ix.Le0 jx) {v x} (h : VRs N prog w ix v x) : VRs N prog w jx v x := h.ind .nil λ a _ b => .cons (a.mono0 N prog w q) b
theorem KR.mono0 {ix jx : Ix} (q : ix.Le0 jx) {v x} (h : KR N prog w ix v x) : KR N prog w jx v x := h.ind .nil λ a _ b => .cons (a.mono0 N prog w q) b
theorem DR.mono0 {ix jx : Ix} (q : ix.Le0 jx) {v x} (h : DR N prog w ix v x) : DR N prog w jx v x := h.ind .nil λ a _ b => .cons (a.mono0 N prog w q) b
theorem VR.mono {ix jx : Ix} (q : ix.Le jx) {v x} (h : VR N prog w ix v x) : VR N prog w jx v x := h.mono0 N prog w q.w
theorem VRs.mono {ix jx : Ix} (q : ix.Le jx) {v x} (h : VRs N prog w ix v x) : VRs N prog w jx v x := h.mono0 N prog w q.w
theorem KR.mono {ix jx : Ix} (q : ix.Le jx) {v x} (h : KR N prog w ix v x) : KR N prog w jx v x := h.mono0 N prog w q.w
theorem DR.mono {ix jx : Ix} (q : ix.Le jx) {v x} (h : DR N prog w ix v x) : DR N prog w jx v x := h.mono0 N prog w q.w
noncomputable def Av (ix : Ix) (v : Value) (x : V) : Prop := ∀ C : Value -> Prop, (match x with
 | .none => C .none
 | .bool b => C (.bool b)
 | .int i => ∀ t, C (.int i t)
 | .str n => ∀ t, C (.str (N.sn n) t)
 | .byt b => ∀ t, C (.bytes b t)
 | .tup l => ∀ a o vs, ix.Fz (a, o) -> TO o vs -> VRs N prog w ix vs l -> C (.ref a)
 | .lst l => ∀ a o vs, ix.Fz (a, o) -> LO o vs -> VRs N prog w ix vs l -> C (.ref a)
 | .dic l => ∀ a o kvs, (a, o) ∈ ix.fz -> o.IsDictOf (El prog w) kvs -> KR N prog w ix kvs l -> C (.ref a)
 | .h k => ∀ a, ix.ad[k]? = some a -> C (.ref a)
 | .obj c d => ∀ x dx, ix.Fz (x, instObj (N.ca c) dx) -> ix.ad[d]? = some dx -> C (.ref x)
 | .row b _ k => match b with
   | false => ∀ a, ix.ad[k]? = some a -> C (.ref a)
   | true => ∀ x dx a, ix.Fz (x, instObj (N.ca 7) dx) -> 0 < k -> ix.ad[k - 1]? = some dx -> ix.ad[k]? = some a -> C (.ref x)
 | .own _ => True) -> C v
variable {N prog w}
theorem VR.el {ix : Ix} {v x} (h : VR N prog w ix v x) : Av N prog w ix v x :=
 VR.casesOn (motive_1 := λ v x _ => Av N prog w ix v x) h (λ _ f => f) (λ _ f => f) (λ _ f => f _) (λ _ f => f _) (λ _ f => f _) (λ a b c _ f => f _ _ _ a b c) (λ a b c _ f => f _ _ _ a b c) (λ a b c _ f => f _ _ _ a b c)
   (λ a _ f => f _ a) (λ a b _ f => f _ _ a b) (λ a _ f => f _ a) (λ a b c d _ f => f _ _ _ a b c d)
section
variable {ix : Ix} {C : Value -> Prop} {v : Value}
@[elab_as_elim] theorem VR.xN (h : VR N prog w ix v .none) (f : C .none) : C v := h.el C f
@[elab_as_elim] theorem VR.xB {b} (h : VR N prog w ix v (.bool b)) (f : C (.bool b)) : C v := h.el C f
@[elab_as_elim] theorem VR.xI {i} (h : VR N prog w ix v (.int i)) (f : ∀ t, C (.int i t)) : C v := h.el C f
@[elab_as_elim] theorem VR.xS {n} (h : VR N prog w ix v (.str n)) (f : ∀ t, C (.str (N.sn n) t)) : C v := h.el C f
@[elab_as_elim] theorem VR.xY {b} (h : VR N prog w ix v (.byt b)) (f : ∀ t, C (.bytes b t)) : C v := h.el C f
@[elab_as_elim] theorem VR.xT {l} (h : VR N prog w ix v (.tup l)) (f : ∀ a o vs, ix.Fz (a, o) -> TO o vs -> VRs N prog w ix vs l -> C (.ref a)) : C v := h.el C f
@[elab_as_elim] theorem VR.xL {l} (h : VR N prog w ix v (.lst l)) (f : ∀ a o vs, ix.Fz (a, o) -> LO o vs -> VRs N prog w ix vs l -> C (.ref a)) : C v := h.el C f
@[elab_as_elim] theorem VR.xD {l} (h : VR N prog w ix v (.dic l)) (f : ∀ a o kvs, (a, o) ∈ ix.fz -> o.IsDictOf (El prog w) kvs -> KR N prog w ix kvs l -> C (.ref a)) : C v := h.el C f
@[elab_as_elim] theorem VR.xH {k} (h : VR N prog w ix v (.h k)) (f : ∀ a, ix.ad[k]? = some a -> C (.ref a)) : C v := h.el C f
@[elab_as_elim] theorem VR.xO {c d} (h : VR N prog w ix v (.obj c d)) (f : ∀ x dx, ix.Fz (x, instObj (N.ca c) dx) -> ix.ad[d]? = some dx -> C (.ref x)) : C v := h.el C f
@[elab_as_elim] theorem VR.xR {n k} (h : VR N prog w ix v (.row false n k)) (f : ∀ a, ix.ad[k]? = some a -> C (.ref a)) : C v := h.el C f
@[elab_as_elim] theorem VR.xC {n k} (h : VR N prog w ix v (.row true n k)) (f : ∀ x dx a, ix.Fz (x, instObj (N.ca 7) dx) -> 0 < k -> ix.ad[k - 1]? = some dx -> ix.ad[k]? = some a -> C (.ref x)) : C v := h.el C f
@[elab_as_elim] theorem VRs.eln {C : List Value -> Prop} {vs} (h : VRs N prog w ix vs []) (f : C []) : C vs := by cases h; exact f
@[elab_as_elim] theorem VRs.elc {C : List Value -> Prop} {vs x l} (h : VRs N prog w ix vs (x :: l)) (f : ∀ v vs, VR N prog w ix v x -> VRs N prog w ix vs l -> C (v :: vs)) : C vs := by cases h; exact f _ _ ‹_› ‹_›
theorem OD {x : V} {F : Int -> Prop} {C : V -> Prop} (h : pI x F) (f : ∀ i, F i -> C (.int i)) : C x := by cases x <;> first | exact f _ h | exact False.elim h
theorem OA {x : V} {F : Nat -> Prop} {C : V -> Prop} (h : pS x F) (f : ∀ i, F i -> C (.str i)) : C x := by cases x <;> first | exact f _ h | exact False.elim h
theorem OG {x : V} {F : Bool -> Prop} {C : V -> Prop} (h : pB x F) (f : ∀ i, F i -> C (.bool i)) : C x := by cases x <;> first | exact f _ h | exact False.elim h
theorem Oy {x : V} {F : Array UInt8 -> Prop} {C : V -> Prop} (h : pY x F) (f : ∀ i, F i -> C (.byt i)) : C x := by cases x <;> first | exact f _ h | exact False.elim h
theorem uz {x : V} {F : List V -> Prop} {C : V -> Prop} (h : pL x F) (f : ∀ i, F i -> C (.lst i)) : C x := by cases x <;> first | exact f _ h | exact False.elim h
theorem Oz {x : V} {F : List V -> Prop} {C : V -> Prop} (h : pT x F) (f : ∀ i, F i -> C (.tup i)) : C x := by cases x <;> first | exact f _ h | exact False.elim h
theorem OB {x : V} {F : Nat -> Nat -> Prop} {C : V -> Prop} (h : pO x F) (f : ∀ i j, F i j -> C (.obj i j)) : C x := by cases x <;> first | exact f _ _ h | exact False.elim h
theorem OC {x : V} {F : Prop} {C : V -> Prop} (h : pN x F) (f : F -> C .none) : C x := by cases x <;> first | exact f h | exact False.elim h
theorem fM {x : V} {F : List (Nat × V) -> Prop} {C : V -> Prop} (h : OF x F) (f : ∀ i, F i -> C (.dic i)) : C x := by cases x <;> first | exact f _ h | exact False.elim h
theorem OE {x : V} {F : Nat -> Prop} {C : V -> Prop} (h : pH x F) (f : ∀ i, F i -> C (.h i)) : C x := by cases x <;> first | exact f _ h | exact False.elim h
section
variable {x : V}
@[elab_as_elim] theorem VR.qI {F} (r : VR N prog w ix v x) (h : pI x F) (f : ∀ i t, F i -> C (.int i t)) : C v := OD (C := λ x => VR N prog w ix v x -> C v) h (λ i h r => r.xI λ t => f i t h) r
@[elab_as_elim] theorem VR.qS {F} (r : VR N prog w ix v x) (h : pS x F) (f : ∀ n t, F n -> C (.str (N.sn n) t)) : C v := OA (C := λ x => VR N prog w ix v x -> C v) h (λ i h r => r.xS λ t => f i t h) r
@[elab_as_elim] theorem VR.qB {F} (r : VR N prog w ix v x) (h : pB x F) (f : ∀ b, F b -> C (.bool b)) : C v := OG (C := λ x => VR N prog w ix v x -> C v) h (λ i h r => r.xB (f i h)) r
@[elab_as_elim] theorem VR.qY {F} (r : VR N prog w ix v x) (h : pY x F) (f : ∀ b t, F b -> C (.bytes b t)) : C v := Oy (C := λ x => VR N prog w ix v x -> C v) h (λ i h r => r.xY λ t => f i t h) r
@[elab_as_elim] theorem VR.qN {F} (r : VR N prog w ix v x) (h : pN x F) (f : F -> C .none) : C v := OC (C := λ x => VR N prog w ix v x -> C v) h (λ h r => r.xN (f h)) r
@[elab_as_elim] theorem VR.qL {F} (r : VR N prog w ix v x) (h : pL x F) (f : ∀ l a o vs, F l -> ix.Fz (a, o) -> LO o vs -> VRs N prog w ix vs l -> C (.ref a)) : C v := uz (C := λ x => VR N prog w ix v x -> C v) h (λ l h r => r.xL λ a o vs => f l a o vs h) r
@[elab_as_elim] theorem VR.qT {F} (r : VR N prog w ix v x) (h : pT x F) (f : ∀ l a o vs, F l -> ix.Fz (a, o) -> TO o vs -> VRs N prog w ix vs l -> C (.ref a)) : C v := Oz (C := λ x => VR N prog w ix v x -> C v) h (λ l h r => r.xT λ a o vs => f l a o vs h) r
@[elab_as_elim] theorem VR.qO {F} (r : VR N prog w ix v x) (h : pO x F) (f : ∀ c d a dx, F c d -> ix.Fz (a, instObj (N.ca c) dx) -> ix.ad[d]? = some dx -> C (.ref a)) : C v := OB (C := λ x => VR N prog w ix v x -> C v) h (λ c d h r => r.xO λ a dx => f c d a dx h) r
@[elab_as_elim] theorem VR.qH {F} (r : VR N prog w ix v x) (h : pH x F) (f : ∀ k a, F k -> ix.ad[k]? = some a -> C (.ref a)) : C v := OE (C := λ x => VR N prog w ix v x -> C v) h (λ k h r => r.xH λ a => f k a h) r
@[elab_as_elim] theorem VR.qD {F} (r : VR N prog w ix v x) (h : OF x F) (f : ∀ l a o kvs, F l -> (a, o) ∈ ix.fz -> o.IsDictOf (El prog w) kvs -> KR N prog w ix kvs l -> C (.ref a)) : C v := fM (C := λ x => VR N prog w ix v x -> C v) h (λ l h r => r.xD λ a o kvs => f l a o kvs h) r
end
section
variable {C : List Value -> Prop} {vs : List Value} {l : List V}
@[elab_as_elim] theorem VRs.q0 {F} (r : VRs N prog w ix vs l) (h : p0 l F) (f : F -> C []) : C vs := by
 cases l with
 | nil => exact r.eln (f h)
 | cons => exact False.elim h
@[elab_as_elim] theorem VRs.q1 {F} (r : VRs N prog w ix vs l) (h : p1 l F) (f : ∀ v x, VR N prog w ix v x -> F x -> C [v]) : C vs := by
 match l, h with
 | [x], h => exact r.elc λ v vs a b => b.eln (C := λ vs => C (v :: vs)) (f v x a h)
@[elab_as_elim] theorem VRs.q2 {F} (r : VRs N prog w ix vs l) (h : p2 l F) (f : ∀ v x u y, VR N prog w ix v x -> VR N prog w ix u y -> F x y -> C [v, u]) : C vs := by
 match l, h with
 | [x, y], h => exact r.elc λ v vs a b => b.elc (C := λ vs => C (v :: vs)) λ u us b c => c.eln (C := λ us => C (v :: u :: us)) (f v x u y a b h)
end
theorem zL {α : Type} {o : Option α} {F : α -> Prop} {D : Prop} (h : oS o F) (f : ∀ a, o = some a -> F a -> D) : D := by
 cases o with
 | none => exact False.elim h
 | some a => exact f a rfl h
section
variable {o : Option MO} {D : Prop}
theorem pa {F} (h : mA o F) (f : ∀ l, o = some (.attrs l) -> F l -> D) : D := by
 cases o with
 | none => exact False.elim h
 | some x => cases x <;> first | exact f _ rfl h | exact False.elim h
theorem OY {F} (h : mL o F) (f : ∀ l, o = some (.list l) -> F l -> D) : D := by
 cases o with
 | none => exact False.elim h
 | some x => cases x <;> first | exact f _ rfl h | exact False.elim h
theorem OZ {F} (h : mD o F) (f : ∀ l, o = some (.dict l) -> F l -> D) : D := by
 cases o with
 | none => exact False.elim h
 | some x => cases x <;> first | exact f _ rfl h | exact False.elim h
theorem JM {F} (h : uR o F) (f : ∀ l, o = some (.ba l) -> F l -> D) : D := by
 cases o with
 | none => exact False.elim h
 | some x => cases x <;> first | exact f _ rfl h | exact False.elim h
theorem dC {F} (h : mR o F) (f : ∀ c n g u, o = some (.row c n g u) -> F c n g u -> D) : D := by
 cases o with
 | none => exact False.elim h
 | some x => cases x <;> first | exact f _ _ _ _ rfl h | exact False.elim h
end
theorem VRs.length {vs l} (h : VRs N prog w ix vs l) : vs.length = l.length := h.ind rfl λ _ _ e => congrArg Ia e
theorem DR.length {vs l} (h : DR N prog w ix vs l) : vs.length = l.length := h.ind rfl λ _ _ e => congrArg Ia e
theorem KR.length {vs l} (h : KR N prog w ix vs l) : vs.length = l.length := h.ind rfl λ _ _ e => congrArg Ia e
theorem VRs.at' {vs l} (h : VRs N prog w ix vs l) : ∀ (i : Nat) (x : V), l[i]? = some x -> ∃ v, vs[i]? = some v /\ VR N prog w ix v x :=
 h.ind (λ i x e => by simp at e) λ {v vs x l} a _ ih i y e => match i, e with
   | 0, e => ⟨v, rfl, Option.some.inj e ▸ a⟩
   | i + 1, e => ih i y e
theorem VRs.at {vs l} (h : VRs N prog w ix vs l) {i : Nat} {x : V} (e : l[i]? = some x) : ∃ v, vs[i]? = some v /\ VR N prog w ix v x := h.at' i x e
theorem VRs.app {vs l} (x : VRs N prog w ix vs l) {ws m} (y : VRs N prog w ix ws m) : VRs N prog w ix (vs ++ ws) (l ++ m) := x.ind y λ a _ b => .cons a b
theorem VRs.take {vs l} (h : VRs N prog w ix vs l) : ∀ k, VRs N prog w ix (vs.take k) (l.take k) :=
 h.ind (λ k => by simp; exact .nil) λ a _ ih k => match k with
   | 0 => .nil
   | k + 1 => .cons a (ih k)
theorem VRs.drop {vs l} (h : VRs N prog w ix vs l) : ∀ k, VRs N prog w ix (vs.drop k) (l.drop k) :=
 h.ind (λ k => by simp; exact .nil) λ a b ih k => match k with
   | 0 => .cons a b
   | k + 1 => ih k
theorem VRs.set {vs l} (h : VRs N prog w ix vs l) {v x} (hv : VR N prog w ix v x) : ∀ k : Nat, VRs N prog w ix (vs.set k v) (l.set k x) :=
 h.ind (λ k => .nil) λ a b ih k => match k with
   | 0 => .cons hv b
   | k + 1 => .cons a (ih k)
theorem qg {α : Type} {a : α} {C : Prop} (h : none = some a) : C := nomatch h
theorem VX {x : V} {l : List V} {is : List Int} (h : zv (x :: l) = some is) : ∃ i r, x = .int i /\ zv l = some r /\ is = i :: r := by
 cases x with
 | int i =>
   replace h : (match zv l with | some r => some (i :: r) | none => none) = some is := h
   cases e : zv l with
   | none => rw [e] at h; cases h
   | some r => rw [e] at h; exact ⟨i, r, rfl, rfl, (Option.some.inj h).symm⟩
 | _ => exact qg h
theorem VRs.ints {vs l} (h : VRs N prog w ix vs l) {is} (e : zv l = some is) : IntsAre vs is := by
 have z : ∀ is, zv l = some is -> IntsAre vs is := h.ind (λ is e => Option.some.inj e ▸ .nil) λ {v vs x l} a _ ih is e => by
   obtain ⟨i, r, rfl, e1, rfl⟩ := VX e
   exact a.xI λ t => .cons _ _ (ih _ e1)
 exact z is e
end
variable (N prog w)
inductive OR (ix : Ix) : Obj -> MO -> Prop
 | attrs {es n l} : DR N prog w ix es l -> l.length <= 900 -> OR ix (dictOf es n) (.attrs l)
 | dict {o kvs l} : o.IsDictOf (El prog w) kvs -> KR N prog w ix kvs l -> l.length <= 900 -> OR ix o (.dict l)
 | list {o vs l} : LO o vs -> VRs N prog w ix vs l -> OR ix o (.list l)
 | rowL {o vs} {is : List Int} {f : Int -> Int} {u} : LO o vs -> IntsAre vs is -> (∀ i : Nat, ∀ h : i < is.length, is[i] = f (i : Int)) -> OR ix o (.row false is.length f u)
 | rowC {o kvs n} {f : Int -> Int} {u} : o.IsDictOf (PySem.intKind prog w) kvs -> kvs.length <= u ->
     (∀ i : Int, match valueAt kvs i with | some v => ∃ t, v = .int (f i) t | none => f i = 1024) -> OR ix o (.row true n f u)
 | ba {b} : OR ix (yi b) (.ba b.size)
noncomputable def Ay (ix : Ix) (o : Obj) (x : MO) : Prop := ∀ C : Obj -> Prop, (match x with
 | .attrs l => ∀ es n, DR N prog w ix es l -> l.length <= 900 -> C (dictOf es n)
 | .dict l => ∀ kvs, o.IsDictOf (El prog w) kvs -> KR N prog w ix kvs l -> l.length <= 900 -> C o
 | .list l => ∀ vs, LO o vs -> VRs N prog w ix vs l -> C o
 | .row b n f u => match b with
   | false => ∀ vs (is : List Int), LO o vs -> IntsAre vs is -> (∀ i : Nat, ∀ h : i < is.length, is[i] = f (i : Int)) -> n = is.length -> C o
   | true => ∀ kvs, o.IsDictOf (PySem.intKind prog w) kvs -> kvs.length <= u -> (∀ i : Int, match valueAt kvs i with | some v => ∃ t, v = .int (f i) t | none => f i = 1024) -> C o
 | .ba n => ∀ b : Array UInt8, b.size = n -> C (yi b)) -> C o
theorem OR.el {ix : Ix} {o x} (h : OR N prog w ix o x) : Ay N prog w ix o x :=
 OR.casesOn (motive := λ o x _ => Ay N prog w ix o x) h (λ a b _ f => f _ _ a b) (λ a b c _ f => f _ a b c) (λ a b _ f => f _ a b) (λ a b c _ f => f _ _ a b c rfl) (λ a b c _ f => f _ a b c) (λ _ f => f _ rfl)
section
variable {N prog w}
variable {ix : Ix} {C : Obj -> Prop} {o : Obj}
@[elab_as_elim] theorem OR.xA {l} (h : OR N prog w ix o (.attrs l)) (f : ∀ es n, DR N prog w ix es l -> l.length <= 900 -> C (dictOf es n)) : C o := h.el N prog w C f
@[elab_as_elim] theorem OR.xB {n} (h : OR N prog w ix o (.ba n)) (f : ∀ b : Array UInt8, b.size = n -> C (yi b)) : C o := h.el N prog w C f
theorem OR.xD {l} {D : Prop} (h : OR N prog w ix o (.dict l)) (f : ∀ kvs, o.IsDictOf (El prog w) kvs -> KR N prog w ix kvs l -> l.length <= 900 -> D) : D := h.el N prog w (λ _ => D) f
theorem OR.xL {l} {D : Prop} (h : OR N prog w ix o (.list l)) (f : ∀ vs, LO o vs -> VRs N prog w ix vs l -> D) : D := h.el N prog w (λ _ => D) f
theorem OR.xR {n f u} {D : Prop} (h : OR N prog w ix o (.row false n f u)) (g : ∀ vs (is : List Int), LO o vs -> IntsAre vs is -> (∀ i : Nat, ∀ h : i < is.length, is[i] = f (i : Int)) -> n = is.length -> D) : D := h.el N prog w (λ _ => D) g
theorem OR.xC {n f u} {D : Prop} (h : OR N prog w ix o (.row true n f u)) (g : ∀ kvs, o.IsDictOf (PySem.intKind prog w) kvs -> kvs.length <= u -> (∀ i : Int, match valueAt kvs i with | some v => ∃ t, v = .int (f i) t | none => f i = 1024) -> D) : D := h.el N prog w (λ _ => D) g
end
theorem OR.mono0 {ix jx : Ix} (q : ix.Le0 jx) {o x} (h : OR N prog w ix o x) : OR N prog w jx o x :=
 OR.casesOn (motive := λ o x _ => OR N prog w jx o x) h (λ a b => .attrs (DR.mono0 N prog w q a) b) (λ a b c => .dict a (KR.mono0 N prog w q b) c) (λ t a => .list t (VRs.mono0 N prog w q a)) .rowL .rowC .ba
theorem OR.mono {ix jx : Ix} (q : ix.Le jx) {o x} (h : OR N prog w ix o x) : OR N prog w jx o x := h.mono0 N prog w q.w
inductive YM (ix : Ix) : List (Addr × Obj) -> List MO -> Prop
 | nil : YM ix [] []
 | cons {p l x U} : OR N prog w ix p.2 x -> YM ix l U -> YM ix (p :: l) (x :: U)
variable {N prog w}
theorem YM.mono0 {ix jx : Ix} (q : ix.Le0 jx) {l U} (h : YM N prog w ix l U) : YM N prog w jx l U := by
 induction h with
 | nil => exact .nil
 | cons a _ ih => exact .cons (a.mono0 N prog w q) ih
theorem YM.mono {ix jx : Ix} (q : ix.Le jx) {l U} (h : YM N prog w ix l U) : YM N prog w jx l U := h.mono0 q.w
theorem YM.length {ix : Ix} {l U} (h : YM N prog w ix l U) : l.length = U.length := by
 induction h with
 | nil => rfl
 | cons _ _ ih => simp [ih]
theorem YM.at {ix : Ix} {l U} (h : YM N prog w ix l U) {k : Nat} {x : MO} (e : U[k]? = some x) : ∃ p, l[k]? = some p /\ OR N prog w ix p.2 x := by
 induction h generalizing k with
 | nil => simp at e
 | cons a _ ih =>
   cases k with
   | zero => simp at e; subst e; exact ⟨_, rfl, a⟩
   | succ k => simpa using ih (by simpa using e)
theorem YM.set {ix : Ix} {l U} (h : YM N prog w ix l U) (k : Nat) {p : Addr × Obj} {x : MO} (a : OR N prog w ix p.2 x) : YM N prog w ix (l.set k p) (U.set k x) := by
 induction h generalizing k with
 | nil => simp; exact .nil
 | cons b c ih =>
   cases k with
   | zero => exact .cons a c
   | succ k => exact .cons b (ih k)
theorem YM.app {ix : Ix} {l U} (h : YM N prog w ix l U) {p : Addr × Obj} {x : MO} (a : OR N prog w ix p.2 x) : YM N prog w ix (l ++ [p]) (U ++ [x]) := by
 induction h with
 | nil => exact .cons a .nil
 | cons b _ ih => exact .cons b ih
structure Cx where
 cs : Scope
 nl : Nat -> Str
 n : Nat
noncomputable def Cx.kd (c : Cx) (i : Nat) : Nat := match c.cs.names.lookup (c.nl i) with
 | some .local => 0
 | some .cell => 1
 | _ => 2
structure Frm where
 c : Cx
 h₀ : Heap
 env : Env
 kz : List (Addr × Obj)
 ck : List (Addr × Obj)
 cm : Bool
 gens : Array GenState
 os : OsState
 drawn : Drawn
noncomputable abbrev Frm.L (fr : Frm) : Addr := fr.env.locals
noncomputable abbrev Frm.cl (fr : Frm) : List (Str × Addr) := fr.env.cells
structure Frm.Ok (fr : Frm) : Prop where
 sc : fr.env.scope = fr.c.cs
 gl : fr.env.globals = mainGlobals
 bn : fr.env.builtins = builtinsNs
 fn : fr.c.cs.kind = .function
 inj : ∀ i j, i < fr.c.n -> j < fr.c.n -> fr.c.nl i = fr.c.nl j -> i = j
 dbg : ∀ i, i < fr.c.n -> (fr.c.nl i == ("__debug__" : Str)) = false
 ck : ∀ p ∈ fr.ck, p ∈ fr.kz
 cl : ∀ i, i < fr.c.n -> fr.c.kd i = 1 -> ∃ c, fr.cl.lookup (fr.c.nl i) = some c
theorem Frm.Ok.fne {fr : Frm} (ok : fr.Ok) : fr.env.scope.kind = .function := by rw [ok.sc]; exact ok.fn
theorem xJ {o : Option NameKind} {C : Prop} {n : Nat} (h : (match o with | some .local => 0 | some .cell => 1 | _ => 2) = n) (f : n = 0 -> o = some .local -> C) (g : n = 1 -> o = some .cell -> C) (l : n = 2 -> C) : C := by
 subst h
 cases o with
 | none => exact l rfl
 | some k => cases k <;> first | exact f rfl rfl | exact g rfl rfl | exact l rfl
theorem Frm.Ok.kind0 {fr : Frm} (ok : fr.Ok) {i : Nat} (h : fr.c.kd i = 0) : fr.env.kindOf (fr.c.nl i) = some .local :=
 xJ h (λ _ e => by rw [Env.kindOf, ok.sc]; exact e) (λ e => nomatch e) (λ e => nomatch e)
theorem Frm.Ok.kind1 {fr : Frm} (ok : fr.Ok) {i : Nat} (h : fr.c.kd i = 1) : fr.env.kindOf (fr.c.nl i) = some .cell :=
 xJ h (λ e => nomatch e) (λ _ e => by rw [Env.kindOf, ok.sc]; exact e) (λ e => nomatch e)
noncomputable def Xe (o : Obj) (v : Option Value) : Prop := o.data = .cell v
variable (N prog w)
structure aN (c : Cx) (ix : Ix) (m : Str -> Option Value) (mt : List (Nat × Addr × Obj)) (i : Nat) (v : V) (t : List V × Addr × Nat × List Value) : Prop where
 e : v = .own t.1
 ow : ix.ow.lookup i = some t.2.1
 m : m (c.nl i) = some (.ref t.2.1)
 mt : (i, t.2.1, qV t.2.2.2 t.2.2.1) ∈ mt
 vs : VRs N prog w ix t.2.2.2 t.1
structure db (c : Cx) (cl : List (Str × Addr)) (ck : List (Addr × Obj)) (cm : Bool) (ix : Ix) (mt : List (Nat × Addr × Obj)) (i : Nat) (v : V) (t : Addr × Obj × Value) : Prop where
 cl : cl.lookup (c.nl i) = some t.1
 mt : match cm with | true => (t.1, t.2.1) ∈ ck | false => (i, t.1, t.2.1) ∈ mt
 cv : Xe t.2.1 (some t.2.2)
 vr : VR N prog w ix t.2.2 v
structure gV (c : Cx) (cl : List (Str × Addr)) (ck : List (Addr × Obj)) (cm : Bool) (ix : Ix) (m : Str -> Option Value) (mt : List (Nat × Addr × Obj)) (i : Nat) (v : V) : Prop where
 lt : i < c.n
 loc : c.kd i = 0 -> (∃ v', m (c.nl i) = some v' /\ VR N prog w ix v' v) \/ ∃ t, aN N prog w c ix m mt i v t
 cell : c.kd i = 1 -> ∃ t, db N prog w c cl ck cm ix mt i v t
noncomputable abbrev jE (fr : Frm) := gV N prog w fr.c fr.cl fr.ck fr.cm
structure Parts (fr : Frm) (ix : Ix) (loc : List (Option V)) (U : Mu) (h : Heap) (m : Str -> Option Value) (pl : List (Addr × Obj)) (mt : List (Nat × Addr × Obj)) : Prop where
 F : Fr fr.h₀ fr.L h m
 W : News fr.h₀ fr.L h (pl ++ mt.map (·.2) ++ (ix.fz ++ fr.kz))
 B : ∀ p ∈ ix.bz, fr.h₀.get? p.1 = some p.2
 bz : ∀ p ∈ N.bz, p ∈ ix.bz
 ad : pl.map (·.1) = ix.ad
 P : YM N prog w ix pl U
 nd : ((pl ++ mt.map (·.2)).map (·.1)).Nodup
 ap : ∀ p ∈ pl ++ mt.map (·.2), ∀ q ∈ ix.fz ++ fr.kz, p.1 ≠ q.1
 ak : ∀ p ∈ ix.fz, ∀ q ∈ fr.kz, p.1 ≠ q.1
 cs : ∀ i, i < fr.c.n -> fr.c.kd i = 1 -> fr.cm = false -> ∃ c o v, fr.cl.lookup (fr.c.nl i) = some c /\ (i, c, o) ∈ mt /\ Xe o v
 l : ∀ i v, loc[i]? = some (some v) -> jE N prog w fr ix m mt i v
structure FS (fr : Frm) (ix : Ix) (loc : List (Option V)) (U : Mu) (s : Shared) : Prop where
 ex : ∃ m pl mt, Parts N prog w fr ix loc U s.heap m pl mt
 gens : s.gens = fr.gens
 os : s.os = fr.os
 drawn : s.drawn = fr.drawn
variable {N prog w}
theorem FS.op {fr ix loc U s} (Y : FS N prog w fr ix loc U s) {C : Prop} (f : ∀ m pl mt, Parts N prog w fr ix loc U s.heap m pl mt -> C) : C := let ⟨m, pl, mt, P⟩ := Y.ex; f m pl mt P
section
variable {N : Nm} {prog : Program} {w : World}
variable {fr : Frm} {ix : Ix} {loc : List (Option V)} {U : Mu} {s : Shared}
section
variable {α : Type} {p x : α} {a c d l : List α} {C : Prop}
theorem m3 (h : p ∈ a ++ (c ++ d)) (f : p ∈ a -> C) (g : p ∈ c -> C) (k : p ∈ d -> C) : C := (CS.mp h).elim f λ h => (CS.mp h).elim g k
theorem mc (h : p ∈ x :: l) (f : p = x -> C) (g : p ∈ l -> C) : C := (eV.mp h).elim f g
theorem i1 (h : p ∈ a) : p ∈ a ++ (c ++ d) := CO _ h
theorem i2 (h : p ∈ c) : p ∈ a ++ (c ++ d) := CN _ (CO _ h)
theorem i3 (h : p ∈ d) : p ∈ a ++ (c ++ d) := CN _ (CN _ h)
theorem i0 (h : p ∈ l) : p ∈ x :: l := CY _ h
theorem ih : x ∈ x :: l := CZ ..
end
theorem News.lt {h₀ h : Heap} {L : Addr} {news : List (Addr × Obj)} (W : News h₀ L h news) {p} (hp : p ∈ news) : p.1 < h.objs.size := eW (W p hp).1
theorem News.sub {h₀ h : Heap} {L : Addr} {news news' : List (Addr × Obj)} (W : News h₀ L h news) (q : ∀ p ∈ news', p ∈ news) : News h₀ L h news' := λ p hp => W p (q p hp)
theorem Parts.fz {h m pl mt p} (Y : Parts N prog w fr ix loc U h m pl mt) (q : ix.Fz p) : h.get? p.1 = some p.2 := by
 rcases q with q | q
 · exact (Y.W p (CN _ (CO _ q))).1
 · exact Y.F.keep _ _ (Y.B p q)
theorem jE.mono {jx : Ix} (q : ix.Le jx) {m mt i v} (x : jE N prog w fr ix m mt i v) : jE N prog w fr jx m mt i v :=
 ⟨x.lt, λ e => (x.loc e).imp (Exists.imp λ _ z => z.imp id (VR.mono N prog w q)) (Exists.imp λ _ z => ⟨z.e, q.ow ▸ z.ow, z.m, z.mt, z.vs.mono N prog w q⟩),
   λ e => (x.cell e).imp λ _ z => ⟨z.cl, z.mt, z.cv, z.vr.mono N prog w q⟩⟩
theorem Parts.moreG {h m pl mt} (Y : Parts N prog w fr ix loc U h m pl mt) {h' : Heap} {o : Obj} {a : Addr} (nw : ∀ p ∈ pl ++ mt.map (·.2) ++ (ix.fz ++ fr.kz), p.1 ≠ a) (F : Fr fr.h₀ fr.L h' m)
   (W : News fr.h₀ fr.L h' ((a, o) :: (pl ++ mt.map (·.2) ++ (ix.fz ++ fr.kz)))) :
   Parts N prog w fr { ix with fz := (a, o) :: ix.fz } loc U h' m pl mt :=
 have q : ix.Le { ix with fz := (a, o) :: ix.fz } := ⟨⟨[], by simp⟩, rfl, λ p hp => CY _ hp, rfl⟩
 ⟨F, News.sub W λ p hp => m3 hp (λ h => i0 (i1 h)) (λ h => mc h (λ e => e ▸ ih) λ h => i0 (i2 h)) λ h => i0 (i3 h), Y.B, Y.bz, Y.ad, Y.P.mono q, Y.nd,
   λ p hp r hr => (CS.mp hr).elim (λ hr => mc hr (λ e => e ▸ nw p (i1 hp)) λ hr => Y.ap p hp r (CO _ hr)) λ hr => Y.ap p hp r (CN _ hr),
   λ p hp r hr => mc hp (λ e => e ▸ (nw r (i3 hr)).symm) λ hp => Y.ak p hp r hr, Y.cs, λ i v e => (Y.l i v e).mono q⟩
theorem Parts.more {h m pl mt} (Y : Parts N prog w fr ix loc U h m pl mt) {h' : Heap} {o : Obj} (F : Fr fr.h₀ fr.L h' m)
   (W : News fr.h₀ fr.L h' ((h.objs.size, o) :: (pl ++ mt.map (·.2) ++ (ix.fz ++ fr.kz)))) :
   Parts N prog w fr { ix with fz := (h.objs.size, o) :: ix.fz } loc U h' m pl mt :=
 Y.moreG (λ p hp => eF (News.lt Y.W hp)) F W
theorem Ix.le_more (ix : Ix) (p : Addr × Obj) : ix.Le { ix with fz := p :: ix.fz } := ⟨⟨[], by simp⟩, rfl, λ _ hp => CY _ hp, rfl⟩
theorem FS.more (Y : FS N prog w fr ix loc U s) {h' : Heap} {tk : Nat} {o : Obj} {m pl mt} (P : Parts N prog w fr ix loc U s.heap m pl mt) (F : Fr fr.h₀ fr.L h' m)
   (W : News fr.h₀ fr.L h' ((s.heap.objs.size, o) :: (pl ++ mt.map (·.2) ++ (ix.fz ++ fr.kz)))) :
   FS N prog w fr { ix with fz := (s.heap.objs.size, o) :: ix.fz } loc U { s with heap := h', toks := tk } :=
 ⟨⟨m, pl, mt, P.more F W⟩, Y.gens, Y.os, Y.drawn⟩
theorem FS.tok (Y : FS N prog w fr ix loc U s) (tk : Nat) : FS N prog w fr ix loc U { s with toks := tk } := ⟨Y.ex, Y.gens, Y.os, Y.drawn⟩
noncomputable def Ix.hand (ix : Ix) (a : Addr) : Ix := { ix with ad := ix.ad ++ [a] }
theorem Ix.le_hand (ix : Ix) (a : Addr) : ix.Le (ix.hand a) := ⟨⟨[a], rfl⟩, rfl, λ _ h => h, rfl⟩
theorem Parts.handG {h m pl mt} (Y : Parts N prog w fr ix loc U h m pl mt) {h' : Heap} {o : Obj} {x : MO} {a : Addr} (nw : ∀ p ∈ pl ++ mt.map (·.2) ++ (ix.fz ++ fr.kz), p.1 ≠ a) (F : Fr fr.h₀ fr.L h' m)
   (W : News fr.h₀ fr.L h' ((a, o) :: (pl ++ mt.map (·.2) ++ (ix.fz ++ fr.kz)))) (hx : OR N prog w (ix.hand a) o x) :
   Parts N prog w fr (ix.hand a) loc (U ++ [x]) h' m (pl ++ [(a, o)]) mt :=
 have q := ix.le_hand a
 have el : ∀ {p : Addr × Obj}, p ∈ pl ++ [(a, o)] ++ mt.map (·.2) -> p = (a, o) \/ p ∈ pl ++ mt.map (·.2) := λ hp => (CS.mp hp).elim (λ hp => (CS.mp hp).elim (λ h => .inr (CO _ h)) λ h => .inl (eS.mp h)) λ h => .inr (CN _ h)
 have p1 : (pl ++ [(a, o)] ++ mt.map (·.2)).Perm ((a, o) :: (pl ++ mt.map (·.2))) := ER _ _ _ ▸ List.perm_middle
 ⟨F, News.sub W λ p hp => (CS.mp hp).elim (λ hp => (el hp).elim (λ e => e ▸ ih) λ h => i0 (i1 h)) λ h => i0 (CN _ h), Y.B, Y.bz, by rw [eK, Y.ad]; rfl, (Y.P.mono q).app hx,
   (p1.map (·.1)).nodup_iff.mpr (eO.mpr ⟨λ hm => (CU.mp hm).elim λ p z => nw p (i1 z.1) z.2, Y.nd⟩),
   λ p hp r hr => (el hp).elim (λ e => e ▸ (nw r (CN _ hr)).symm) λ hp => Y.ap p hp r hr, Y.ak, Y.cs, λ i v e => (Y.l i v e).mono q⟩
theorem Parts.hand {h m pl mt} (Y : Parts N prog w fr ix loc U h m pl mt) {h' : Heap} {o : Obj} {x : MO} (F : Fr fr.h₀ fr.L h' m)
   (W : News fr.h₀ fr.L h' ((h.objs.size, o) :: (pl ++ mt.map (·.2) ++ (ix.fz ++ fr.kz)))) (hx : OR N prog w (ix.hand h.objs.size) o x) :
   Parts N prog w fr (ix.hand h.objs.size) loc (U ++ [x]) h' m (pl ++ [(h.objs.size, o)]) mt :=
 Y.handG (λ p hp => eF (News.lt Y.W hp)) F W hx
theorem FS.hand (Y : FS N prog w fr ix loc U s) {h' : Heap} {tk : Nat} {o : Obj} {x : MO} {m pl mt} (P : Parts N prog w fr ix loc U s.heap m pl mt) (F : Fr fr.h₀ fr.L h' m)
   (W : News fr.h₀ fr.L h' ((s.heap.objs.size, o) :: (pl ++ mt.map (·.2) ++ (ix.fz ++ fr.kz)))) (hx : OR N prog w (ix.hand s.heap.objs.size) o x) :
   FS N prog w fr (ix.hand s.heap.objs.size) loc (U ++ [x]) { s with heap := h', toks := tk } :=
 ⟨⟨m, _, mt, P.hand F W hx⟩, Y.gens, Y.os, Y.drawn⟩
theorem Parts.nd1 {h m pl mt} (Y : Parts N prog w fr ix loc U h m pl mt) : (pl.map (·.1)).Nodup := (Ep.mp (eK ▸ Y.nd)).1
theorem Parts.rest {h m pl mt} (Y : Parts N prog w fr ix loc U h m pl mt) {k : Nat} {a : Addr} {o : Obj} (hk : pl[k]? = some (a, o)) : ∀ p ∈ mt.map (·.2) ++ (ix.fz ++ fr.kz), p.1 ≠ a := λ p hp e =>
 have hm : (a, o) ∈ pl := eR hk
 (CS.mp hp).elim (λ hp => (Ep.mp (eK ▸ Y.nd)).2.2 a (CU.mpr ⟨_, hm, rfl⟩) p.1 (CU.mpr ⟨p, hp, rfl⟩) e.symm)
   λ hp => Y.ap (a, o) (CO _ hm) p hp e.symm
theorem Bf {a : Addr} {o o' : Obj} {pl : List (Addr × Obj)} : ∀ {k : Nat}, pl[k]? = some (a, o) -> (pl.set k (a, o')).map (·.1) = pl.map (·.1) := by
 induction pl with
 | nil => exact λ _ => rfl
 | cons p pl ih => exact λ {k} h => match k, h with
   | 0, h => congrArg (λ q : Addr => q :: pl.map Prod.fst) (congrArg Prod.fst (Option.some.inj h : p = (a, o))).symm
   | k + 1, h => congrArg (p.1 :: ·) (ih (k := k) h)
theorem DQ {a : Addr} {o o' : Obj} {pl : List (Addr × Obj)} {p : Addr × Obj} : ∀ {k : Nat}, pl[k]? = some (a, o) -> (pl.map (·.1)).Nodup -> p ∈ pl.set k (a, o') -> p = (a, o') \/ p ∈ pl /\ p.1 ≠ a := by
 induction pl with
 | nil => exact λ h => nomatch h
 | cons q pl ih => exact λ {k} h nd hp => match k, h with
   | 0, h => (eV.mp hp).imp id λ hp => ⟨CY _ hp, λ e => (eO.mp nd).1 (CU.mpr ⟨p, hp, e.trans (congrArg (·.1) (Option.some.inj h)).symm⟩)⟩
   | k + 1, h => (eV.mp hp).elim (λ e => .inr ⟨e ▸ CZ .., λ z => (eO.mp nd).1 (CU.mpr ⟨_, eR (l := pl) (i := k) h, z.symm.trans (congrArg (·.1) e)⟩)⟩)
     λ hp => (ih (k := k) h (eO.mp nd).2 hp).imp id λ z => ⟨CY _ z.1, z.2⟩
theorem Parts.turnN {h m pl mt} (Y : Parts N prog w fr ix loc U h m pl mt) {k : Nat} {a : Addr} {o o' : Obj} {x : MO} (hk : pl[k]? = some (a, o)) {h' : Heap} (F : Fr fr.h₀ fr.L h' m)
   (W : News fr.h₀ fr.L h' (pl.set k (a, o') ++ (mt.map (·.2) ++ (ix.fz ++ fr.kz)))) (hx : OR N prog w ix o' x) : Parts N prog w fr ix loc (U.set k x) h' m (pl.set k (a, o')) mt := by
 have e := Bf (o' := o') hk
 have e2 : (pl.set k (a, o') ++ mt.map (·.2)).map (·.1) = (pl ++ mt.map (·.2)).map (·.1) := by rw [eK, e, eK]
 refine ⟨F, (ER _ _ _).symm ▸ W, Y.B, Y.bz, e.trans Y.ad, Y.P.set k hx, e2.symm ▸ Y.nd, λ p hp r hr => ?_, Y.ak, Y.cs, Y.l⟩
 obtain ⟨p', hp', e'⟩ := CU.mp (e2 ▸ CU.mpr ⟨p, hp, rfl⟩)
 exact e' ▸ Y.ap p' hp' r hr
theorem Parts.turn {h m pl mt} (Y : Parts N prog w fr ix loc U h m pl mt) {k : Nat} {a : Addr} {o o' : Obj} {x : MO} (hk : pl[k]? = some (a, o)) {h' : Heap} (hs : Heap.SameBut a h h') (ho : h'.get? a = some o')
   (hx : OR N prog w ix o' x) : Parts N prog w fr ix loc (U.set k x) h' m (pl.set k (a, o')) mt := by
 have W : News fr.h₀ fr.L h (pl ++ (mt.map (·.2) ++ (ix.fz ++ fr.kz))) := ER _ _ _ ▸ Y.W
 have ha := W (a, o) (CO _ (eR hk))
 have old : ∀ p, p.1 ≠ a -> p ∈ pl ++ (mt.map (·.2) ++ (ix.fz ++ fr.kz)) -> h'.get? p.1 = some p.2 /\ p.1 ≠ fr.L /\ fr.h₀.get? p.1 = none := λ p ne hp => ⟨(hs.2 p.1 ne).trans (W p hp).1, (W p hp).2⟩
 exact Y.turnN hk ⟨Y.F.ns.sameBut hs (λ e => ha.2.1 e.symm), λ b x e => (hs.2 b λ q => nomatch (q ▸ ha.2.2 : fr.h₀.get? b = none).symm.trans e).trans (Y.F.keep b x e), Y.F.above⟩
   (λ p hp => (CS.mp hp).elim (λ hp => (DQ hk Y.nd1 hp).elim (λ e => e ▸ ⟨ho, ha.2⟩) λ z => old p z.2 (CO _ z.1)) λ hp => old p (Y.rest hk p hp) (CN _ hp)) hx
theorem FS.turn (Y : FS N prog w fr ix loc U s) {tk : Nat} {m pl mt} (P : Parts N prog w fr ix loc U s.heap m pl mt) {k : Nat} {a : Addr} {o o' : Obj} {x : MO} (hk : pl[k]? = some (a, o)) {h' : Heap}
   (hs : Heap.SameBut a s.heap h') (ho : h'.get? a = some o') (hx : OR N prog w ix o' x) : FS N prog w fr ix loc (qy U k x) { s with heap := h', toks := tk } := by
 rw [qZ]
 exact ⟨⟨m, _, mt, P.turn hk hs ho hx⟩, Y.gens, Y.os, Y.drawn⟩
theorem Parts.handle {h m pl mt} (Y : Parts N prog w fr ix loc U h m pl mt) {k : Nat} {x : MO} (e : qj U k = some x) : ∃ a o, pl[k]? = some (a, o) /\ ix.ad[k]? = some a /\ h.get? a = some o /\ OR N prog w ix o x /\ (a, o) ∈ pl := by
 rw [qE] at e
 obtain ⟨⟨a, o⟩, h1, h2⟩ := Y.P.at e
 refine ⟨a, o, h1, ?_, (Y.W _ (CO _ (CO _ (eR h1)))).1, h2, eR h1⟩
 rw [<- Y.ad, eZ, h1]; rfl
theorem Parts.hd {h m pl mt} (Y : Parts N prog w fr ix loc U h m pl mt) {k : Nat} {a : Addr} {x : MO} (e : qj U k = some x) (ha : ix.ad[k]? = some a) : ∃ o, pl[k]? = some (a, o) /\ h.get? a = some o /\ OR N prog w ix o x := by
 rw [qE] at e
 obtain ⟨⟨b, o⟩, h1, h2⟩ := Y.P.at e
 have z : some b = some a := by rw [<- ha, <- Y.ad, eZ, h1]; rfl
 obtain rfl := Option.some.inj z
 exact ⟨o, h1, (Y.W _ (CO _ (CO _ (eR h1)))).1, h2⟩
section
variable {h : Heap} {m : Str -> Option Value} {pl : List (Addr × Obj)} {mt : List (Nat × Addr × Obj)} {k : Nat} {a : Addr} {C : Prop}
theorem Parts.hA (Y : Parts N prog w fr ix loc U h m pl mt) (ha : ix.ad[k]? = some a) {F} (q : mA (qj U k) F) (f : ∀ l es n, pl[k]? = some (a, dictOf es n) -> h.get? a = some (dictOf es n) -> DR N prog w ix es l -> l.length <= 900 -> F l -> C) : C :=
 pa q λ l e h => let ⟨_, h1, h2, h3⟩ := Y.hd e ha; h3.xA (C := λ o => pl[k]? = some (a, o) -> _ = some o -> C) (λ es n d z h1 h2 => f l es n h1 h2 d z h) h1 h2
theorem Parts.hB (Y : Parts N prog w fr ix loc U h m pl mt) (ha : ix.ad[k]? = some a) {F} (q : uR (qj U k) F) (f : ∀ b, pl[k]? = some (a, yi b) -> h.get? a = some (yi b) -> F b.size -> C) : C :=
 JM q λ l e h => let ⟨_, h1, h2, h3⟩ := Y.hd e ha; h3.xB (C := λ o => pl[k]? = some (a, o) -> _ = some o -> C) (λ b z h1 h2 => f b h1 h2 (z ▸ h)) h1 h2
theorem Parts.hL (Y : Parts N prog w fr ix loc U h m pl mt) (ha : ix.ad[k]? = some a) {F} (q : mL (qj U k) F) (f : ∀ l o vs, pl[k]? = some (a, o) -> h.get? a = some o -> LO o vs -> VRs N prog w ix vs l -> F l -> C) : C :=
 OY q λ l e h => let ⟨o, h1, h2, h3⟩ := Y.hd e ha; h3.xL λ vs t b => f l o vs h1 h2 t b h
theorem Parts.hD (Y : Parts N prog w fr ix loc U h m pl mt) (ha : ix.ad[k]? = some a) {F} (q : mD (qj U k) F) (f : ∀ l o kvs, pl[k]? = some (a, o) -> h.get? a = some o -> o.IsDictOf (El prog w) kvs -> KR N prog w ix kvs l -> l.length <= 900 -> F l -> C) : C :=
 OZ q λ l e h => let ⟨o, h1, h2, h3⟩ := Y.hd e ha; h3.xD λ kvs t b z => f l o kvs h1 h2 t b z h
end
end
end Mi
end
section
namespace Mi
open PySem PySem.W PyProof.Rows PySem.Spec PyProof.V PySem.SeqAt PySem.Calls
noncomputable def yF : List String := ["bytearray.__contains__", "bytearray.__mod__", "bytearray.__rmod__", "_struct.pack_into.held", "bytearray.find.held"] ++ Builtin.Bytes.decodersThatHold
noncomputable def Xt : Code -> Bool
 | .builtin id _ => !yF.contains id
 | _ => true
noncomputable def og (l : List (Code × Pos)) : Prop := ∀ x ∈ l, Xt x.1 = true
noncomputable def Cl (Γ : PySem.Ctx) : Prop := Xt Γ.code = true /\ og Γ.below
theorem Cl.enter {Γ : PySem.Ctx} (h : Cl Γ) {c : Code} (hc : Xt c = true) (hd : Option Value) (p : Pos) : Cl (Γ.enter c hd p) :=
 ⟨hc, λ x hx => by
   rcases eV.mp hx with rfl | hx
   · exact h.1
   · exact h.2 x hx⟩
theorem Cl.goto {Γ : PySem.Ctx} (h : Cl Γ) {c : Code} (hc : Xt c = true) : Cl (Γ.goto c) := ⟨hc, h.2⟩
noncomputable def wpAny {α : Type} (M : Model) (A : Around) (t : Sem α) (Q : α -> Shared -> Prop) (E : Value -> Shared -> Prop) (s : Shared) : Prop :=
 ∀ Γ p, Γ.In A -> Cl Γ -> Sem.wp M Γ t (λ a _ s' => Q a s') (λ e _ s' => E e s') p s
noncomputable def codeAny (M : Model) (A : Around) (c : Code) (R : Result -> Shared -> Prop) (s : Shared) : Prop :=
 ∀ Γ p, Γ.code = c -> Γ.Below A -> Cl Γ -> wpCode M Γ R p s
section
variable {α β : Type} {M : Model} {A : Around} {E : Value -> Shared -> Prop} {s : Shared}
theorem qa {t : Sem α} {Q : α -> Shared -> Prop} (h : Ec M A t Q E s) : wpAny M A t Q E s := λ Γ p hΓ _ => h Γ p hΓ
theorem Yc {c : Code} {R : Result -> Shared -> Prop} (h : PySem.codeAny M A c R s) : codeAny M A c R s := λ Γ p hc hΓ _ => h Γ p hc hΓ
theorem ql {t : Sem α} {Q Q' : α -> Shared -> Prop} {E' : Value -> Shared -> Prop} (h : wpAny M A t Q E s) (hQ : ∀ a s, Q a s -> Q' a s) (hE : ∀ e s, E e s -> E' e s) : wpAny M A t Q' E' s :=
 λ Γ p hΓ hc => Sem.wp_mono M Γ t (λ a _ => hQ a) (λ e _ => hE e) p s (h Γ p hΓ hc)
theorem oj {t : Sem α} {Q : α -> Shared -> Prop} (h : wpAny M A t Q (λ _ _ => False) s) : wpAny M A t Q E s := ql h (λ _ _ x => x) λ _ _ x => x.elim
theorem wpAny_bind {m : Sem α} {f : α -> Sem β} {Q : β -> Shared -> Prop} (h : wpAny M A m (λ a s' => wpAny M A (f a) Q E s') E s) : wpAny M A (m >>= f) Q E s := λ Γ p hΓ hc => by
 rw [Sem.wp_bind']
 exact Sem.wp_mono M Γ m (λ a p' s' h' => h' Γ p' hΓ hc) (λ _ _ _ x => x) p s (h Γ p hΓ hc)
theorem qb {m : Sem α} {f : α -> Sem β} {Q₁ : α -> Shared -> Prop} {Q : β -> Shared -> Prop} (h : wpAny M A m Q₁ E s) (h2 : ∀ a s', Q₁ a s' -> wpAny M A (f a) Q E s') : wpAny M A (m >>= f) Q E s :=
 wpAny_bind (ql h h2 λ _ _ x => x)
theorem wpAny_pure {a : α} {Q : α -> Shared -> Prop} (h : Q a s) : wpAny M A (pure a) Q E s := λ _ _ _ _ => h
theorem qc {vs : List Value} {m : Sem α} {Q : α -> Shared -> Prop} (h : wpAny M A m Q E s) : wpAny M A (holding vs m) Q E s := λ Γ p hΓ hc => by
 rw [Sem.wp_holding]; exact h Γ p hΓ hc
theorem qG {vs : List Value} {m : Sem Value} {Q : Value -> Shared -> Prop} (h : wpAny M A m Q E s) : wpAny M A (operate vs m) Q E s := λ Γ p hΓ hc => by
 rw [Sem.wp_operate]; exact h Γ p hΓ hc
theorem qd {pos : Pos} {Q : Unit -> Shared -> Prop} (h : Q () s) : wpAny M A (standAt pos) Q E s := λ _ _ _ _ => h
theorem wpAny_rule {tag : String} {Q : Unit -> Shared -> Prop} (h : Q () s) : wpAny M A (rule tag) Q E s := λ _ _ _ _ => h
theorem Zy {Q : Unit -> Shared -> Prop} (h : Q () s) : wpAny M A point Q E s := λ _ _ _ _ => h
theorem wpAny_release {vs keep : List Value} {Q : Unit -> Shared -> Prop} (h : Q () s) : wpAny M A (release vs keep) Q E s := qa (PySem.wpAny_release h)
theorem qC {m : Sem α} {k : Value -> Sem Unit} {Q : α -> Shared -> Prop} (h : wpAny M A m Q (λ _ _ => False) s) : wpAny M A (m.onRaise k) Q E s := λ Γ p hΓ hc => by
 rw [Sem.wp_onRaise]
 exact Sem.wp_mono M Γ m (λ _ _ _ x => x) (λ _ _ _ x => x.elim) p s (h Γ p hΓ hc)
theorem Qa {m : Sem α} {Q : Except Value α -> Shared -> Prop} (h : wpAny M A m (λ a => Q (.ok a)) (λ e => Q (.error e)) s) : wpAny M A m.attempt Q E s := λ Γ p hΓ hc => by
 rw [Sem.wp_attempt]; exact h Γ p hΓ hc
theorem qf {t t' : Sem α} {Q : α -> Shared -> Prop} (e : t = t') (h : wpAny M A t' Q E s) : wpAny M A t Q E s := e ▸ h
noncomputable def CG (Q : Flow -> Shared -> Prop) (E : Value -> Shared -> Prop) : Result -> Shared -> Prop := λ r s' => match r with | .ok f => Q f s' | .error e => E e s'
theorem jU {c : Code} {R R' : Result -> Shared -> Prop} (h : codeAny M A c R s) (hR : ∀ r s, R r s -> R' r s) : codeAny M A c R' s := λ Γ p hc hΓ cl => wpCode_mono hR (h Γ p hc hΓ cl)
theorem YP {c : Code} {Q : Flow -> Shared -> Prop} (ok : Xt c = true) (h : codeAny M A c (λ r s' => match r with | .ok f => Q f s' | .error e => E e s') s) : wpAny M A (run c) Q E s := λ Γ p hΓ cl => by
 rw [Sem.wp_run]
 exact h _ p rfl (hΓ.enter c none p (by intro x; cases x)) (cl.enter ok none p)
theorem yl {c : Code} {Q : Value -> Shared -> Prop} (ok : Xt c = true) (h : codeAny M A c (λ r s' => match r with | .ok (.ret v) => Q v s' | .ok _ => False | .error e => E e s') s) : wpAny M A (runValue c) Q E s := λ Γ p hΓ cl => by
 rw [Sem.wp_runValue]
 exact h _ p rfl (hΓ.enter c none p (by intro x; cases x)) (cl.enter ok none p)
theorem qM {f : Value} {pos : List Value} {kw : List (Str × Value)} {Q : Value -> Shared -> Prop} (h : codeAny M A (.call f ⟨pos, kw⟩) (λ r s' => match r with | .ok (.ret v) => Q v s' | .ok _ => False | .error e => E e s') s) :
   wpAny M A (call f pos kw) Q E s := yl rfl h
theorem Qz {c : Code} {env : Env} {Q : Flow -> Shared -> Prop} (ok : Xt c = true) (h : codeAny M A c (λ r s' => match r with | .ok f => Q f s' | .error _ => False) s) : wpAny M A (runOwn c env) Q E s := by
 unfold runOwn
 exact qC (YP ok h)
noncomputable def Hp (M : Model) (A : Around) (R : Result -> Shared -> Prop) : Fin -> Shared -> Prop := λ fin s' => match fin with
 | .done f => R (.ok f) s'
 | .again c => c.quiet = true /\ Xt c = true /\ codeAny M A c R s'
theorem qA {c : Code} {R : Result -> Shared -> Prop} (h : wpAny M (A.under c) (M.den c) (Hp M A R) (λ e s' => R (.error e) s') s) : codeAny M A c R s := λ Γ p hc hΓ cl => by
 rw [wpCode_iff_wp, hc]
 refine Sem.wp_mono M Γ _ (λ fin p' s' h' => ?_) (λ _ _ _ x => x) p s (h Γ p (hc ▸ hΓ.in) cl)
 cases fin with
 | done f => exact h'
 | again c' => exact ⟨h'.1, h'.2.2 (Γ.goto c') p' rfl (hΓ.goto c') (cl.goto h'.2.1)⟩
theorem ju {c : Code} {R : Result -> Shared -> Prop} (hq : c.quiet = true) (ok : Xt c = true) (I : Nat -> Shared -> Prop)
   (turn : ∀ n s, I n s -> wpAny M (A.under c) (M.den c) (λ fin s' => match fin with
     | .done f => R (.ok f) s'
     | .again c' => (c' = c /\ ∃ m, m < n /\ I m s') \/ (c'.quiet = true /\ Xt c' = true /\ codeAny M A c' R s')) (λ e s' => R (.error e) s') s)
   (n : Nat) (h : I n s) : codeAny M A c R s := by
 induction n using Nat.strongRecOn generalizing s with
 | ind n ih =>
   refine qA (ql (turn n s h) (λ fin s' hf => ?_) λ _ _ x => x)
   cases fin with
   | done f => exact hf
   | again c' =>
     rcases hf with ⟨rfl, m, hm, hI⟩ | hf
     · exact ⟨hq, ok, ih m hm hI⟩
     · exact hf
end
section
variable {M : Model} {A : Around} {E : Value -> Shared -> Prop} {s : Shared} {env : Env}
theorem ZA {l op r pos} {Q : Value -> Shared -> Prop} (h : wpAny M A (eval l env) (λ a s₁ => wpAny M A (eval r env) (λ b s₂ => wpAny M A (binaryOp op a b) Q E s₂) E s₁) E s) : wpAny M A (eval (.BinOp l op r pos) env) Q E s :=
 qf (eval_BinOp _ l op r pos) (qb h λ a s₁ h₁ => qb (qc h₁) λ b s₂ h₂ => wpAny_bind (qd (qG h₂)))
theorem yn {l op r pos} {Q : Value -> Shared -> Prop} (h : wpAny M A (eval l env) (λ a s₁ => wpAny M A (eval r env) (λ b s₂ => wpAny M A (compareOp op a b) Q E s₂) E s₁) E s) (hm : behindInMarks op r = false) :
   wpAny M A (eval (.Compare l [op] [r] pos) env) Q E s :=
 qf (eval_Compare1 _ l op r pos) (qb h λ a s₁ h₁ => qb (qc (qf (markedBehindIn_of_false hm) h₁)) λ b s₂ h₂ => wpAny_bind (qd (qG h₂)))
theorem zw {l op r pos whole} {Q : Bool -> Shared -> Prop} (h : wpAny M A (eval l env) (λ a s₁ => wpAny M A (eval r env) (λ b s₂ => wpAny M A (compareOp op a b) (λ c s₃ => wpAny M A (truthy c) Q E s₃) E s₂) E s₁) E s)
   (hm : behindInMarks op r = false) : wpAny M A (isTrue (.Compare l [op] [r] pos) env whole) Q E s :=
 qf (isTrue_Compare1 _ l op r pos whole) (qb h λ a s₁ h₁ => qb (qc (qf (markedBehindIn_of_false hm) h₁)) λ b s₂ h₂ => wpAny_bind (qd (qb (qG h₂) λ c s₃ h₃ => qc h₃)))
theorem Xp {op x pos} {Q : Value -> Shared -> Prop} (h : wpAny M A (eval x env) (λ v s₁ => wpAny M A (unaryOp op v) Q E s₁) E s) : wpAny M A (eval (.UnaryOp op x pos) env) Q E s :=
 qf (eval_UnaryOp op x pos) (qb h λ v s₁ h₁ => wpAny_bind (qd (qc h₁)))
theorem fP {v : Value} {Q : Value -> Shared -> Prop} (h : wpAny M A (truthy v) (λ c s' => Q (.bool (!c)) s') E s) : wpAny M A (unaryOp .Not v) Q E s := by
 unfold unaryOp
 exact qc (qb (m := truthy v) h λ c s' h' => wpAny_pure h')
theorem gX {test body orelse pos} {Q : Value -> Shared -> Prop} (h : wpAny M A (isTrue test env (eval test env)) (λ c s₂ => if c then wpAny M A (eval body env) Q E s₂ else wpAny M A (eval orelse env) Q E s₂) E s) :
   wpAny M A (eval (.IfExp test body orelse pos) env) Q E s :=
 qf (eval_IfExp test body orelse pos) (qb h λ c s₂ h₂ => by cases c <;> exact h₂)
theorem Ku {test body orelse pos whole} {Q : Bool -> Shared -> Prop}
   (h : wpAny M A (isTrue test env (eval test env)) (λ c s₂ => if c then wpAny M A (isTrue body env (eval body env)) Q E s₂ else wpAny M A (isTrue orelse env (eval orelse env)) Q E s₂) E s) :
   wpAny M A (isTrue (.IfExp test body orelse pos) env whole) Q E s := by
 show wpAny M A (isTrue test env (eval test env) >>= λ c => if c then isTrue body env (eval body env) else isTrue orelse env (eval orelse env)) Q E s
 exact qb h λ c s₂ h₂ => by cases c <;> exact h₂
theorem JQ {x pos whole} {Q : Bool -> Shared -> Prop} (h : wpAny M A (isTrue x env (eval x env)) (λ c s' => Q (!c) s') E s) : wpAny M A (isTrue (.UnaryOp .Not x pos) env whole) Q E s := by
 show wpAny M A (isTrue x env (eval x env) >>= λ c => pure (!c)) Q E s
 exact qb h λ c s' h' => wpAny_pure h'
theorem zs {e : Expr} {whole : Sem Value} {Q : Bool -> Shared -> Prop} (h : wpAny M A whole (λ v s₁ => wpAny M A (truthy v) Q E s₁) E s)
   (he : isTrue e env whole = (do let v <- whole; standAt e.pos; holding [v] (truthy v)) := by rfl) : wpAny M A (isTrue e env whole) Q E s :=
 qf he (qb h λ v s₁ h₁ => wpAny_bind (qd (qc h₁)))
theorem JR {x rest pos whole} {Q : Bool -> Shared -> Prop} (h : wpAny M A (isTrue x env (eval x env)) (λ c s' => if c then wpAny M A (isTrue (.BoolOp .And rest pos) env whole) Q E s' else Q false s') E s) :
   wpAny M A (isTrue (.BoolOp .And (x :: rest) pos) env whole) Q E s := by
 show wpAny M A (isTrue x env (eval x env) >>= λ c => match BoolOp.And, c with
   | .And, false => pure false
   | .Or, true => pure true
   | _, _ => allTrue .And rest env) Q E s
 exact qb h λ c s' h' => by cases c with | false => exact wpAny_pure h' | true => exact h'
theorem kl {x rest pos whole} {Q : Bool -> Shared -> Prop} (h : wpAny M A (isTrue x env (eval x env)) (λ c s' => if c then Q true s' else wpAny M A (isTrue (.BoolOp .Or rest pos) env whole) Q E s') E s) :
   wpAny M A (isTrue (.BoolOp .Or (x :: rest) pos) env whole) Q E s := by
 show wpAny M A (isTrue x env (eval x env) >>= λ c => match BoolOp.Or, c with
   | .And, false => pure false
   | .Or, true => pure true
   | _, _ => allTrue .Or rest env) Q E s
 exact qb h λ c s' h' => by cases c with | false => exact h' | true => exact wpAny_pure h'
theorem isTrue_and_nil {pos whole} {Q : Bool -> Shared -> Prop} (h : Q true s) : wpAny M A (isTrue (.BoolOp .And [] pos) env whole) Q E s := qa (PyProof.Rows.isTrue_and_nil h)
theorem isTrue_or_nil {pos whole} {Q : Bool -> Shared -> Prop} (h : Q false s) : wpAny M A (isTrue (.BoolOp .Or [] pos) env whole) Q E s := qa (PyProof.Rows.isTrue_or_nil h)
theorem vY {e₁ e₂ rest pos} {Q : Value -> Shared -> Prop} (h : wpAny M A (eval e₁ env) (λ v s₁ => wpAny M A (truthy v) (λ c s₂ => if c then wpAny M A (eval (.BoolOp .And (e₂ :: rest) pos) env) Q E s₂ else Q v s₂) E s₁) E s) :
   wpAny M A (eval (.BoolOp .And (e₁ :: e₂ :: rest) pos) env) Q E s := by
 show wpAny M A (eval e₁ env >>= λ v => standAt pos >>= λ _ => holding [v] (truthy v) >>= λ c => match BoolOp.And, c with
   | .And, false | .Or, true => pure v
   | _, _ => boolOp pos .And (eval e₂ env :: evalEach rest env)) Q E s
 exact qb h λ v s₁ h₁ => wpAny_bind (qd (qb (qc h₁) λ c s₂ h₂ => by cases c with | false => exact wpAny_pure h₂ | true => exact h₂))
theorem WA {e₁ e₂ rest pos} {Q : Value -> Shared -> Prop} (h : wpAny M A (eval e₁ env) (λ v s₁ => wpAny M A (truthy v) (λ c s₂ => if c then Q v s₂ else wpAny M A (eval (.BoolOp .Or (e₂ :: rest) pos) env) Q E s₂) E s₁) E s) :
   wpAny M A (eval (.BoolOp .Or (e₁ :: e₂ :: rest) pos) env) Q E s := by
 show wpAny M A (eval e₁ env >>= λ v => standAt pos >>= λ _ => holding [v] (truthy v) >>= λ c => match BoolOp.Or, c with
   | .And, false | .Or, true => pure v
   | _, _ => boolOp pos .Or (eval e₂ env :: evalEach rest env)) Q E s
 exact qb h λ v s₁ h₁ => wpAny_bind (qd (qb (qc h₁) λ c s₂ h₂ => by cases c with | false => exact h₂ | true => exact wpAny_pure h₂))
theorem Yo {op e pos} {Q : Value -> Shared -> Prop} (h : wpAny M A (eval e env) Q E s) : wpAny M A (eval (.BoolOp op [e] pos) env) Q E s := h
theorem vC {pos : Pos} {a : Value} {op : CmpOp} {r : Sem Value} {Q : Value -> Shared -> Prop} (h : wpAny M A r (λ b s₁ => wpAny M A (compareOp op a b) Q E s₁) E s) : wpAny M A (compareChain pos a [op] [r]) Q E s := by
 show wpAny M A (holding [a] r >>= λ b => standAt pos >>= λ _ => operate [a, b] (compareOp op a b)) Q E s
 exact qb (qc h) λ b s₁ h₁ => wpAny_bind (qd (qG h₁))
theorem YS {pos : Pos} {a : Value} {op : CmpOp} {r : Sem Value} {Q : Bool -> Shared -> Prop} (h : wpAny M A r (λ b s₁ => wpAny M A (compareOp op a b) (λ c s₂ => wpAny M A (truthy c) Q E s₂) E s₁) E s) : wpAny M A (testChain pos a [op] [r]) Q E s := by
 show wpAny M A (holding [a] r >>= λ b => standAt pos >>= λ _ => operate [a, b] (compareOp op a b) >>= λ c => holding [c] (truthy c)) Q E s
 exact qb (qc h) λ b s₁ h₁ => wpAny_bind (qd (qb (qG h₁) λ c s₂ h₂ => qc h₂))
theorem vB {pos : Pos} {a : Value} {op op' : CmpOp} {ops : List CmpOp} {r r' : Sem Value} {rs : List (Sem Value)} {Q : Value -> Shared -> Prop}
   (h : wpAny M A r (λ b s₁ => wpAny M A (compareOp op a b) (λ c s₂ => wpAny M A (truthy c) (λ t s₃ => if t then wpAny M A (compareChain pos b (op' :: ops) (r' :: rs)) Q E s₃ else Q c s₃) E s₂) E s₁) E s) :
   wpAny M A (compareChain pos a (op :: op' :: ops) (r :: r' :: rs)) Q E s := by
 show wpAny M A (holding [a] r >>= λ b => standAt pos >>= λ _ => holding [a, b] (compareOp op a b) >>= λ c => release [a, b] [c] >>= λ _ => holding [c, b] (truthy c) >>= λ t =>
   if t then compareChain pos b (op' :: ops) (r' :: rs) else pure c) Q E s
 exact qb (qc h) λ b s₁ h₁ => wpAny_bind (qd (qb (qc h₁) λ c s₂ h₂ => wpAny_bind (wpAny_release (qb (qc h₂) λ t s₃ h₃ => by
   cases t with | false => exact wpAny_pure h₃ | true => exact h₃))))
theorem YR {pos : Pos} {a : Value} {op op' : CmpOp} {ops : List CmpOp} {r r' : Sem Value} {rs : List (Sem Value)} {Q : Bool -> Shared -> Prop}
   (h : wpAny M A r (λ b s₁ => wpAny M A (compareOp op a b) (λ c s₂ => wpAny M A (truthy c) (λ t s₃ => if t then wpAny M A (testChain pos b (op' :: ops) (r' :: rs)) Q E s₃ else Q false s₃) E s₂) E s₁) E s) :
   wpAny M A (testChain pos a (op :: op' :: ops) (r :: r' :: rs)) Q E s := by
 show wpAny M A (holding [a] r >>= λ b => standAt pos >>= λ _ => holding [a, b] (compareOp op a b) >>= λ c => release [a, b] [c] >>= λ _ => holding [c, b] (truthy c) >>= λ t =>
   if t then testChain pos b (op' :: ops) (r' :: rs) else pure false) Q E s
 exact qb (qc h) λ b s₁ h₁ => wpAny_bind (qd (qb (qc h₁) λ c s₂ h₂ => wpAny_bind (wpAny_release (qb (qc h₂) λ t s₃ h₃ => by
   cases t with | false => exact wpAny_pure h₃ | true => exact h₃))))
theorem YN {l op₁ op₂ ops r₁ r₂ rs pos} {Q : Value -> Shared -> Prop} (h : wpAny M A (eval l env) (λ a s₁ => wpAny M A (compareChain pos a (op₁ :: op₂ :: ops) (eval r₁ env :: eval r₂ env :: evalEach rs env)) Q E s₁) E s)
   (hm : lastMarks (op₁ :: op₂ :: ops) (r₁ :: r₂ :: rs) = false) : wpAny M A (eval (.Compare l (op₁ :: op₂ :: ops) (r₁ :: r₂ :: rs) pos) env) Q E s := by
 show wpAny M A (eval l env >>= λ a => compareChain pos a (op₁ :: op₂ :: ops) (markedEach (op₁ :: op₂ :: ops) (r₁ :: r₂ :: rs) (evalEach (r₁ :: r₂ :: rs) env))) Q E s
 rw [markedEach_of_false _ _ _ hm]
 exact wpAny_bind h
theorem QT {l op₁ op₂ ops r₁ r₂ rs pos whole} {Q : Bool -> Shared -> Prop} (h : wpAny M A (eval l env) (λ a s₁ => wpAny M A (testChain pos a (op₁ :: op₂ :: ops) (eval r₁ env :: eval r₂ env :: evalEach rs env)) Q E s₁) E s)
   (hm : lastMarks (op₁ :: op₂ :: ops) (r₁ :: r₂ :: rs) = false) : wpAny M A (isTrue (.Compare l (op₁ :: op₂ :: ops) (r₁ :: r₂ :: rs) pos) env whole) Q E s := by
 show wpAny M A (eval l env >>= λ a => testChain pos a (op₁ :: op₂ :: ops) (markedEach (op₁ :: op₂ :: ops) (r₁ :: r₂ :: rs) (evalEach (r₁ :: r₂ :: rs) env))) Q E s
 rw [markedEach_of_false _ _ _ hm]
 exact wpAny_bind h
theorem vR {elts : List Expr} {k : Nat} {pos : Pos} {Q : Value -> Shared -> Prop} (h : wpAny M A (spliced (backTo pos (starEach elts env))) (λ vs s₁ => wpAny M A (newTuple vs) Q E s₁) E s) : wpAny M A (eval (.Tuple elts k pos) env) Q E s := by
 show wpAny M A (standAt pos >>= λ _ => spliced (backTo pos (starEach elts env)) >>= newTuple) Q E s
 exact wpAny_bind (qd (wpAny_bind h))
theorem ZN {elts : List Expr} {pos : Pos} {Q : Value -> Shared -> Prop} (h : wpAny M A (spliced (backTo pos (starEach elts env))) (λ vs s₁ => wpAny M A (newList vs) Q E s₁) E s) : wpAny M A (eval (.List elts pos) env) Q E s := by
 show wpAny M A (standAt pos >>= λ _ => spliced (backTo pos (starEach elts env)) >>= newList) Q E s
 exact wpAny_bind (qd (wpAny_bind h))
theorem spliced_nil {Q : List Value -> Shared -> Prop} (h : Q [] s) : wpAny M A (spliced []) Q E s := qa (Calls.spliced_nil h)
theorem spliced_none {pos : Pos} {Q : List Value -> Shared -> Prop} (h : Q [] s) : wpAny M A (spliced (backTo pos (starEach [] env))) Q E s := qa (PyProof.Rows.spliced_none h)
theorem qt {x : Sem Value} {rest : List (Bool × Sem Value)} {Q : List Value -> Shared -> Prop} (h : wpAny M A x (λ v s₁ => wpAny M A (spliced rest) (λ vs s₂ => Q (v :: vs) s₂) E s₁) E s) : wpAny M A (spliced ((false, x) :: rest)) Q E s := by
 rw [spliced]
 refine qb h λ v s₁ h₁ => ?_
 simp only [Ee, if_false]
 exact wpAny_bind (wpAny_pure (qb (qc h₁) λ vs s₂ h₂ => wpAny_pure h₂))
theorem qr {e : Expr} {rest : List Expr} {pos : Pos} {Q : List Value -> Shared -> Prop} (h : wpAny M A (eval e env) (λ v s₁ => wpAny M A (spliced (backTo pos (starEach rest env))) (λ vs s₂ => Q (v :: vs) s₂) E s₁) E s)
   (he : starEach (e :: rest) env = (false, eval e env) :: starEach rest env := by rfl) : wpAny M A (spliced (backTo pos (starEach (e :: rest) env))) Q E s := by
 rw [he]; exact qt h
theorem qn {f : Value} {x : Sem Value} {rest : List (Bool × Sem Value)} {Q : Args -> Shared -> Prop} (h : wpAny M A (spliced ((false, x) :: rest)) (λ vs s' => Q ⟨vs, []⟩ s') E s) : wpAny M A (evalArgs f true ((false, x) :: rest) []) Q E s := by
 unfold evalArgs
 show wpAny M A (spliced ((false, x) :: rest) >>= _) Q E s
 exact qb h λ vs s' h' => qc (wpAny_bind (wpAny_pure (wpAny_bind (wpAny_pure (wpAny_pure h')))))
theorem evalArgs_nil3 {f : Value} {pos : Pos} {Q : Args -> Shared -> Prop} (h : Q ⟨[], []⟩ s) : wpAny M A (evalArgs f true (backTo pos (starEach [] env)) []) Q E s := qa (PyProof.Rows.evalArgs_nil3 h)
theorem zC {t : Sem Value} {Q : Value -> Shared -> Prop} (h : wpAny M A t Q E s) : wpAny M A (t >>= λ r => holding [r] point >>= λ _ => pure r) Q E s :=
 qb h λ r s₂ hr => wpAny_bind (qc (Zy (wpAny_pure hr)))
theorem Zv {pos : Pos} {id : String} {first : List Value} {args : List (Bool × Sem Value)} {Q : Value -> Shared -> Prop} (hp : args.any (·.1) = false)
   (h : wpAny M A (evalArgs (.builtin id) true args []) (λ a s₁ => wpAny M A (call (.builtin id) (first ++ a.pos) a.kw) Q E s₁) E s) : wpAny M A (callWith pos (.builtin id) first args []) Q E s := by
 unfold callWith
 refine qb (qc h) λ a s₁ h₁ => wpAny_bind (qd ?_)
 simp only [hp, List.any_nil, Bool.or_false]
 exact wpAny_bind (wpAny_pure (zC h₁))
theorem YI {pos : Pos} {T : String} {first : List Value} {args : List (Bool × Sem Value)} {Q : Value -> Shared -> Prop} (hp : args.any (·.1) = false)
   (h : wpAny M A (evalArgs (.type T) true args []) (λ a s₁ => wpAny M A (call (.type T) (first ++ a.pos) a.kw) Q E s₁) E s) : wpAny M A (callWith pos (.type T) first args []) Q E s := by
 unfold callWith
 refine qb (qc h) λ a s₁ h₁ => wpAny_bind (qd ?_)
 simp only [hp, List.any_nil, Bool.or_false]
 exact wpAny_bind (wpAny_pure (zC h₁))
theorem ZK {mk f : Value} {pos : List Value} {kw : List (Str × Value)} {Q : Value -> Shared -> Prop} (h : wpAny M A (call f pos kw) Q E s) : wpAny M A (callMarked mk f pos kw) Q E s := by
 unfold callMarked
 exact λ Γ p hΓ hc => by rw [Sem.wp_keep]; exact h Γ p hΓ hc
theorem ZJ {P : Heap -> Prop} {pos : Pos} {f : Value} {first : List Value} {args : List (Bool × Sem Value)} {Q : Value -> Shared -> Prop} (hp : args.any (·.1) = false)
   (hk : ∀ h, P h -> ∃ k, (k = Keeper.frame \/ k = Keeper.machine \/ k = Keeper.boundFrame) /\ Looks M h (keeperOf f) k)
   (h : wpAny M A (evalArgs f true args []) (λ a s₁ => P s₁.heap /\ wpAny M A (call f (first ++ a.pos) a.kw) Q E s₁) E s) : wpAny M A (callWith pos f first args []) Q E s := by
 unfold callWith
 refine qb (qc h) λ a s₁ h₁ => wpAny_bind (qd ?_)
 obtain ⟨k, hk', L⟩ := hk _ h₁.1
 simp only [hp, List.any_nil, Bool.or_false]
 refine wpAny_bind (qa (L.here ?_))
 rcases hk' with rfl | rfl | rfl <;> dsimp only
 · split
   · exact zC h₁.2
   · exact zC (ZK h₁.2)
 · exact zC h₁.2
 · split
   · exact zC h₁.2
   · exact zC (ZK h₁.2)
theorem vG {K : Frag} {h₀ : Heap} {f : Value} {first : List Value} {pos : Pos} {Q : Value -> Shared -> Prop} {e : Expr} {rest : List Expr} (_X : K.In h₀) (hk : keepIn K f = true)
   (h : wpAny M A (spliced (backTo pos (starEach (e :: rest) env))) (λ vs s₁ => K.In s₁.heap /\ wpAny M A (call f (first ++ vs)) Q E s₁) E s) (he : starEach (e :: rest) env = (false, eval e env) :: starEach rest env) (hp : (backTo pos (starEach rest env)).any (·.1) = false) :
   wpAny M A (callWith pos f first (backTo pos (starEach (e :: rest) env)) []) Q E s := by
 rw [he] at h |-
 exact ZJ (by show (false || (backTo pos (starEach rest env)).any (·.1)) = false; rw [hp]; rfl) (keeps_K hk) (qn h)
theorem Xh {K : Frag} {f : Value} {first : List Value} {pos : Pos} {Q : Value -> Shared -> Prop} (X : K.In s.heap) (hk : keepIn K f = true) (h : wpAny M A (call f (first ++ [])) Q E s) : wpAny M A (callWith pos f first (backTo pos (starEach [] env)) []) Q E s :=
 ZJ rfl (keeps_K hk) (evalArgs_nil3 ⟨X, h⟩)
theorem Yn {func : Expr} {args : List Expr} {pos : Pos} {Q : Value -> Shared -> Prop} (h : wpAny M A (eval func env) (λ f s₁ => wpAny M A (callWith pos f [] (backTo pos (starEach args env)) []) Q E s₁) E s)
   (he : eval (.Call func args [] pos) env = (do callWith pos (<- eval func env) [] (backTo pos (starEach args env)) (backToKw pos (keywordEach [] env))) := by rfl) : wpAny M A (eval (.Call func args [] pos) env) Q E s :=
 qf he (wpAny_bind h)
theorem zI {o : Expr} {name : Str} {apos pos : Pos} {args : List Expr} {pl : Sem Bool} {Q : Value -> Shared -> Prop}
   (h : wpAny M A (eval o env) (λ ov s₁ => wpAny M A (getMethod ov name pl) (λ fx s₂ => wpAny M A (callWith pos fx.1 fx.2 (backTo pos (starEach args env)) []) Q E s₂) E s₁) E s)
   (he : eval (.Call (.Attribute o name apos) args [] pos) env = (do
     let ov <- eval o env
     standAt apos.atName
     let (f, first) <- holding [ov] (getMethod ov name pl)
     callWith pos f first (backTo pos (starEach args env)) [])) : wpAny M A (eval (.Call (.Attribute o name apos) args [] pos) env) Q E s :=
 qf he (qb h λ ov s₁ h₁ => wpAny_bind (qd (qb (qc h₁) λ fx s₂ h₂ => h₂)))
theorem Qx {value slice pos} {Q : Value -> Shared -> Prop} (h : wpAny M A (eval value env) (λ o s₁ => wpAny M A (eval slice env) (λ i s₂ => wpAny M A (subscriptTail value slice o i) Q E s₂) E s₁) E s) :
   wpAny M A (eval (.Subscript value slice pos) env) Q E s := by
 show wpAny M A (eval value env >>= λ o => holding [o] (eval slice env) >>= λ i => standAt pos >>= λ _ => subscriptTail value slice o i) Q E s
 exact qb h λ o s₁ h₁ => qb (qc h₁) λ i s₂ h₂ => wpAny_bind (qd h₂)
theorem jd {e : Expr} {Q : Value -> Shared -> Prop} (h : wpAny M A (eval e env) Q E s) : wpAny M A (evalPart (some e) env) Q E s := h
theorem evalPart_none_step {Q : Value -> Shared -> Prop} (h : Q .none s) : wpAny M A (evalPart none env) Q E s := qa (PySem.evalPart_none_step h)
theorem Zz {lower upper step : Option Expr} {p : Pos} {Q : Value -> Shared -> Prop}
   (h : wpAny M A (evalPart lower env) (λ l s₁ => wpAny M A (evalPart upper env) (λ u s₂ => wpAny M A (evalPart step env) (λ st s₃ =>
     Q (.ref s₃.heap.objs.size) { s₃ with heap := s₃.heap.push { cls := .type "slice", data := .fields #[l, u, st] } }) E s₂) E s₁) E s) : wpAny M A (eval (.Slice lower upper step p) env) Q E s :=
 qf (arm_eval_Slice lower upper step p env) (qb h λ l s₁ h₁ => qb (qc h₁) λ u s₂ h₂ => qb (qc h₂) λ st s₃ h₃ => qa (wpAny_newObj_type h₃))
end
section
variable {prog : Program} {w : World} {A : Around} {E : Value -> Shared -> Prop} {s : Shared} {env : Env}
theorem zu {value : Expr} {attr : Str} {pos : Pos} {Q : Value -> Shared -> Prop} (h : wpAny (model prog w) A (eval value env) (λ o s₁ => wpAny (model prog w) A (getAttr o attr true) Q E s₁) E s)
   (he : eval (.Attribute value attr pos) env = (do
     let o <- eval value env
     standAt pos.atName
     let r <- holding [o] (getAttr o attr true)
     letTemporaryGo value o r
     pure r)) : wpAny (model prog w) A (eval (.Attribute value attr pos) env) Q E s :=
 qf he (qb h λ o s₁ h₁ => wpAny_bind (qd (qb (qc h₁) λ r s₂ h₂ => qa (CP (wpAny_letTemporaryGo (eA h₂))))))
theorem YC {Q : List (Value × Value) -> Shared -> Prop} (h : Q [] s) : wpAny (model prog w) A (evalPairs []) Q E s := wpAny_pure h
theorem JZ {k v : Sem Value} {rest : List (Sem Value × Sem Value)} {Q : List (Value × Value) -> Shared -> Prop}
   (h : wpAny (model prog w) A k (λ kv s₁ => wpAny (model prog w) A v (λ vv s₂ => wpAny (model prog w) A (evalPairs rest) (λ vs s₃ => Q ((kv, vv) :: vs) s₃) E s₂) E s₁) E s) : wpAny (model prog w) A (evalPairs ((k, v) :: rest)) Q E s := by
 rw [evalPairs]
 exact qb h λ kv s₁ h₁ => qb (qc h₁) λ vv s₂ h₂ => qb (qc h₂) λ vs s₃ h₃ => wpAny_pure h₃
theorem YD {pairs : List (Sem Value × Sem Value)} {Q : List (Value × Value) -> Shared -> Prop} (h : wpAny (model prog w) A (evalPairs pairs) Q E s) : wpAny (model prog w) A (evalPairs pairs) (λ vs s' => vs.length = pairs.length /\ Q vs s') E s :=
 λ Γ p hΓ cl => wp_evalPairs_len _ Γ pairs _ _ p s (h Γ p hΓ cl)
theorem jY {K : Type} [DecidableEq K] {knd : KeyKind prog w K} {keys : List (Option Expr)} {values : List Expr} {pos : Pos} {Q : Value -> Shared -> Prop}
   (hall : keys.all (·.isSome) = true) (hl : keys.length = values.length) (h0 : keys ≠ []) (hlen : keys.length <= 15)
   (h : wpAny (model prog w) A (evalPairs (pairTrees keys values env pos)) (λ vs s₁ => ∃ kvs, Carries knd vs kvs /\ s₁.heap.DictOf knd s.heap.objs.size [] /\
     ∀ h', h'.DictOf knd s.heap.objs.size (merged [] kvs) -> Heap.SameBut s.heap.objs.size s₁.heap h' -> Q (.ref s.heap.objs.size) { s₁ with heap := h', toks := s₁.toks + vs.length }) E
     { s with heap := s.heap.push { cls := .type "dict", data := .dict #[] } }) : wpAny (model prog w) A (eval (.Dict keys values pos) env) Q E s := by
 have hn := pairTrees_length keys values env pos hall hl
 have hne : pairTrees keys values env pos ≠ [] := λ e => by rw [e] at hn; exact h0 (List.length_eq_zero_iff.mp hn.symm)
 have hp : (pairTrees keys values env pos).length <= 15 := by rw [hn]; exact hlen
 rw [arm_eval_Dict, zip_pairTrees keys values env pos hall hl, dictDisplay_pairs _ hne (by omega)]
 refine wpAny_bind (qd (wpAny_bind ?_))
 unfold subDict
 refine wpAny_bind (qa (wpAny_alloc (wpAny_bind (qc ?_))))
 rw [if_pos hp]
 refine qb (YD h) λ vs s₁ h₁ => ?_
 obtain ⟨hvl, kvs, hc, hm, hQ⟩ := h₁
 have hsz : ([] : List (K × Value)).length + kvs.length <= sizeLine := by
   have e := hc.length
   rw [sizeLine_eq, List.length_nil]; omega
 refine qc (qa ?_)
 exact CP (wpAny_storeAll (knd := knd) vs kvs [] s₁ _ hc hm hsz λ h' hm' hs' => eA (wpAny_pure (wpAny_pure (hQ h' hm' hs'))))
end
section
variable {M : Model} {A : Around} {E : Value -> Shared -> Prop} {s : Shared} {env : Env}
theorem qo {Q : Flow -> Shared -> Prop} (h : Q .next s) : wpAny M A (execs [] env) Q E s := λ _ _ _ _ => h
theorem qm {st rest} {Q : Flow -> Shared -> Prop} (h : wpAny M A (exec st env) (λ f s' => match f with | .next => wpAny M A (execs rest env) Q E s' | f => Q f s') E s) : wpAny M A (execs (st :: rest) env) Q E s :=
 qf (execs_cons _ st rest) (qb h λ f s' h' => by cases f <;> first | exact h' | exact wpAny_pure h')
theorem zj {x : Str} {v : Value} {Q : Unit -> Shared -> Prop} (h : wpAny M A (storeName env x v) Q E s) : wpAny M A (bindName env x v) Q E s := λ Γ p hΓ cl => by
 rw [Sem.wp_bindName]; exact h Γ p hΓ cl
theorem zl {x pos v} {Q : Unit -> Shared -> Prop} (h : wpAny M A (storeName env x v) Q E s) : wpAny M A (assign (.Name x pos) env v) Q E s :=
 qf (PySem.assign_Name x pos v) (wpAny_bind (qd (zj h)))
theorem jk {x pos' value pos} {Q : Flow -> Shared -> Prop} (h : wpAny M A (eval value env) (λ v s₁ => wpAny M A (storeName env x v) (λ _ => Q .next) E s₁) E s)
   (hs : swapsWith value (some (.Name x pos')) pos.line env = pure false) : wpAny M A (exec (.Assign [.Name x pos'] value pos) env) Q E s :=
 qf (exec_Assign_Name _ x pos' value pos hs) (wpAny_bind (qd (qb h λ v s₁ h₁ => wpAny_bind (qd (qb (zj h₁) λ _ _ h₂ => wpAny_pure h₂)))))
theorem zn {o i pos' value pos} {Q : Flow -> Shared -> Prop}
   (h : wpAny M A (eval value env) (λ v s₁ => wpAny M A (eval o env) (λ ov s₂ => wpAny M A (eval i env) (λ iv s₃ => wpAny M A (setItem ov iv v) (λ _ => Q .next) E s₃) E s₂) E s₁) E s)
   (hs : swapsWith value (some (.Subscript o i pos')) pos.line env = pure false) : wpAny M A (exec (.Assign [.Subscript o i pos'] value pos) env) Q E s := by
 refine qf (exec_Assign_Subscript o i pos' value pos hs) (wpAny_bind (qd (qb h λ v s₁ h₁ => qb (Q₁ := λ _ => Q .next) ?_ λ _ _ x => wpAny_pure x)))
 refine qf (arm_assign_Subscript o i pos' env v) (qb (qc h₁) λ ov s₂ h₂ => qb (qc h₂) λ iv s₃ h₃ => wpAny_bind (qd (qb (qc h₃) λ _ s₄ h₄ => wpAny_release h₄)))
theorem qp {o attr pos' value pos} {Q : Flow -> Shared -> Prop} (h : wpAny M A (eval value env) (λ v s₁ => wpAny M A (eval o env) (λ ov s₂ => wpAny M A (setAttr ov attr v) (λ _ => Q .next) E s₂) E s₁) E s)
   (hs : swapsWith value (some (.Attribute o attr pos')) pos.line env = pure false) : wpAny M A (exec (.Assign [.Attribute o attr pos'] value pos) env) Q E s := by
 refine qf (plainObj_exec_Assign_Attribute o attr pos' value pos hs) (wpAny_bind (qd (qb h λ v s₁ h₁ => qb (Q₁ := λ _ => Q .next) ?_ λ _ _ x => wpAny_pure x)))
 refine qf (assign_Attribute o attr pos' v) (qb (qc h₁) λ ov s₂ h₂ => wpAny_bind (qd (qb (qc h₂) λ _ s₄ h₄ => wpAny_release h₄)))
theorem zJ {o value : Expr} {attr : Str} {tpos pos : Pos} {op : Operator} {Q : Flow -> Shared -> Prop}
   (h : wpAny M A (eval o env) (λ ov s₁ => wpAny M A (getAttr ov attr true) (λ old s₂ => wpAny M A (eval value env) (λ v s₃ => wpAny M A (inplaceOp op old v) (λ new s₄ => wpAny M A (setAttr ov attr new) (λ _ => Q .next) E s₄) E s₃) E s₂) E s₁) E s) :
   wpAny M A (exec (.AugAssign (.Attribute o attr tpos) op value pos) env) Q E s := by
 show wpAny M A (standAt pos >>= λ _ => eval o env >>= λ ov => holding [ov] (standAt tpos.atName >>= λ _ => getAttr ov attr true >>= λ old => holding [old] (eval value env) >>= λ v => standAt pos >>= λ _ => operate [old, v] (inplaceOp op old v)) >>= λ new =>
   standAt tpos.atName >>= λ _ => holding [new, ov] (setAttr ov attr new) >>= λ _ => release [new, ov] [] >>= λ _ => pure .next) Q E s
 refine wpAny_bind (qd (qb h λ ov s₁ h₁ => wpAny_bind (qc (wpAny_bind (qd (qb h₁ λ old s₂ h₂ => qb (qc h₂) λ v s₃ h₃ => wpAny_bind (qd (qG (ql h₃ (λ new s₄ h₄ => ?_) λ _ _ x => x)))))))))
 exact wpAny_bind (qd (qb (qc h₄) λ _ _ h₅ => wpAny_bind (wpAny_release (wpAny_pure h₅))))
theorem zm {e pos} {Q : Flow -> Shared -> Prop} (h : wpAny M A (eval e env) (λ v => Q (.ret v)) E s) : wpAny M A (exec (.Return (some e) pos) env) Q E s :=
 qf (exec_Return_some _ e pos) (wpAny_bind (qd (qb h λ v s₁ h₁ => wpAny_pure h₁)))
theorem QA {pos} {Q : Flow -> Shared -> Prop} (h : Q (.ret .none) s) : wpAny M A (exec (.Return none pos) env) Q E s := λ _ _ _ _ => h
theorem KJ {elts k tpos value pos} {Q : Flow -> Shared -> Prop} (h : wpAny M A (eval value env) (λ v s₁ => wpAny M A (assign (.Tuple elts k tpos) env v) (λ _ => Q .next) E s₁) E s)
   (hs : swapsWithSole [.Tuple elts k tpos] value pos.line env = pure false) (hw : swappedStores [.Tuple elts k tpos] value env = pure none) : wpAny M A (exec (.Assign [.Tuple elts k tpos] value pos) env) Q E s := by
 refine qf (exec_Assign _ _ _) (wpAny_bind (qd ?_))
 rw [hs]
 refine wpAny_bind (wpAny_pure ?_)
 rw [if_neg iu]
 refine qb h λ v s₁ h₁ => ?_
 rw [hw]
 refine wpAny_bind (wpAny_pure ?_)
 show wpAny M A (assign (.Tuple elts k tpos) env v >>= λ _ => pure .next) Q E s₁
 exact qb h₁ λ _ _ x => wpAny_pure x
theorem zb {elts k tpos value pos} {names : List Str} {Q : Flow -> Shared -> Prop}
   (h : wpAny M A (eval value env) (λ v s₁ => wpAny M A (unpackItems v names.length none) (λ items s₂ => wpAny M A (assignInOrder (names.reverse.map λ n => bindName env n) items.reverse) (λ _ => Q .next) E s₂) E s₁) E s)
   (hs : swapsWithSole [.Tuple elts k tpos] value pos.line env = pure false) (hw : swappedStores [.Tuple elts k tpos] value env = pure (some names)) : wpAny M A (exec (.Assign [.Tuple elts k tpos] value pos) env) Q E s := by
 refine qf (exec_Assign _ _ _) (wpAny_bind (qd ?_))
 rw [hs]
 refine wpAny_bind (wpAny_pure ?_)
 rw [if_neg iu]
 refine qb h λ v s₁ h₁ => ?_
 rw [hw]
 refine wpAny_bind (wpAny_pure ?_)
 show wpAny M A (rule "assign.swapped-stores" >>= λ _ => unpackItems v names.length none >>= λ items => assignInOrder (names.reverse.map λ n => bindName env n) items.reverse >>= λ _ => pure .next) Q E s₁
 exact wpAny_bind (wpAny_rule (qb h₁ λ items s₂ h₂ => qb h₂ λ _ _ x => wpAny_pure x))
theorem Ji {test body orelse pos} {Q : Flow -> Shared -> Prop} (h : wpAny M A (isTrue test env (eval test env)) (λ b s₂ => if b then wpAny M A (execs body env) Q E s₂ else wpAny M A (execs orelse env) Q E s₂) E s) :
   wpAny M A (exec (.If test body orelse pos) env) Q E s :=
 qf (exec_If _ test body orelse pos) (wpAny_bind (qd (qb h λ c s₂ h₂ => by cases c <;> exact h₂)))
theorem KN {test body orelse pos} {Q : Flow -> Shared -> Prop} (h : codeAny M A (.whileLoop test body orelse env) (λ r s' => match r with | .ok f => Q f s' | .error _ => False) s) : wpAny M A (exec (.While test body orelse pos) env) Q E s :=
 qf (exec_While _ test body orelse pos) (wpAny_bind (qd (Qz rfl h)))
theorem Za {target iter body orelse pos} {Q : Flow -> Shared -> Prop}
   (h : wpAny M A (eval iter env) (λ x s₁ => wpAny M A (pyIter x) (λ it s₂ => codeAny M A (.forLoop target it body orelse env) (λ r s' => match r with | .ok f => Q f s' | .error _ => False) s₂) E s₁) E s)
   (hs : ∀ x, foldedSetIterable iter env x = pure x) : wpAny M A (exec (.For target iter body orelse pos) env) Q E s := by
 refine qf (exec_For target iter body orelse pos) (wpAny_bind (qd (qb h λ x s₁ h₁ => ?_)))
 rw [hs x]
 exact wpAny_bind (wpAny_pure (wpAny_bind (qd (qb (qc h₁) λ it s₂ h₂ => Qz rfl h₂))))
end
section
variable {prog : Program} {w : World} {A : Around} {E : Value -> Shared -> Prop} {s : Shared} {env : Env} {R : Result -> Shared -> Prop}
theorem ym {e pos} {Q : Flow -> Shared -> Prop} (h : wpAny (model prog w) A (eval e env) (λ _ => Q .next) E s) (hi : interactive env = false) (hs : swapsWith e none pos.line env = pure false) :
   wpAny (model prog w) A (exec (.Expr e pos) env) Q E s :=
 qf (exec_Expr _ e pos hi hs) (wpAny_bind (qd (qb h λ v s' h' => qa (wpAny_dropValue h'))))
theorem zU {elts : List Expr} {x1} {pos : Pos} {t : Addr} {items : Array Value} {Q : Unit -> Shared -> Prop} (hh : A.handled = none) (ht : s.heap.IsTuple t items)
   (hn : (assignEach elts env).length = items.size) (hstar : (assignEach elts env).findIdx? (·.1) = none)
   (h : ∀ h', Heap.ExtBut s.heap.objs.size s.heap h' -> wpAny (model prog w) A (assignInOrder ((assignEach elts env).map (·.2)) items.toList) Q E { s with heap := h' }) : wpAny (model prog w) A (assign (.Tuple elts x1 pos) env (.ref t)) Q E s := by
 refine qf (arm_assign_Tuple elts x1 pos env (.ref t)) (wpAny_bind (qd ?_))
 unfold unpack
 rw [hn, hstar]
 exact wpAny_bind (qc (qa (wpAny_unpackItems_tuple hh ht h)))
theorem Kz {body : List Stmt} (h : wpAny (model prog w) (A.deeper env) (execs body env) (λ f s' => R (.ok (.ret (match f with | .ret v => v | _ => .none))) s') (λ _ _ => False) s) : codeAny (model prog w) A (.func body env) R s := by
 refine qA ?_
 show wpAny _ (A.deeper env) (point >>= λ _ => (execs body env).onRaise (leaving env) >>= λ f => match f with | .ret v => ret v | _ => ret .none) _ _ s
 exact wpAny_bind (Zy (qb (qC h) λ f s' h' => by cases f <;> exact wpAny_pure h'))
theorem yh {a : Addr} {args : Args} {o : Obj} {fd : FuncData} {body : List Stmt} (hroom : A.depth < recursionLimit) (ho : s.heap.get? a = some o) (hd : o.data = .func fd) (hco : fd.scope.isCoroutine = false) (hgen : fd.scope.isGenerator = false)
   (hbody : fd.body = .stmts body) (hcd : s.heap.CodeRec fd.code fd.qualname)
   (h : wpAny (model prog w) A.in1 (bindArgs fd args) (λ binds s₁ => wpAny (model prog w) A.in1 (newFunctionEnv fd.scope fd.globals fd.closure binds (fd.qualname ++ ".<locals>.") (some a) fd.code none fd.builtins)
     (λ env s₂ => s₂.heap.NoLimit /\ codeAny (model prog w) A (.func body env) R s₂) (λ e s' => R (.error e) s') s₁) (λ e s' => R (.error e) s') s) : codeAny (model prog w) A (.call (.ref a) args) R s := by
 refine qA ?_
 show wpAny _ A.in1 (callAny (.ref a) args) _ _ s
 simp only [callAny]
 refine wpAny_bind (qa (wpAny_load ho ?_))
 obtain ⟨c, oc, vs, tq, hc, hoc, hdc, hq⟩ := hcd
 simp only [hd, callFunction, hco, hgen, hbody, hc]
 rw [hc] at h
 refine wpAny_bind (m := field (.ref c) 1) (qa (wpAny_field hoc hdc hq (wpAny_bind (wpAny_pure ?_))))
 exact qb h λ binds s₁ h₁ => qb h₁ λ env s₂ h₂ => wpAny_bind (qa (wpAny_enterFrame h₂.1 hroom (wpAny_pure ⟨rfl, rfl, h₂.2⟩)))
theorem YH {stmts : List Stmt} (h : wpAny (model prog w) A (execs stmts env) (λ f s' => R (.ok f) s') (λ _ _ => False) s) : codeAny (model prog w) A (.block stmts env) R s := by
 refine qA ?_
 show wpAny _ A ((execs stmts env).onRaise (λ x => do noteFrame x env; theTreesLotGoes x) >>= λ f => pure (Fin.done f)) _ _ s
 exact qb (qC h) λ f s' h' => wpAny_pure h'
theorem QW {test body orelse} (I : Nat -> Shared -> Prop)
   (turn : ∀ n s, I n s -> wpAny (model prog w) A (isTrue test env (eval test env)) (λ b s₂ =>
       if b then wpAny (model prog w) A (execs body env) (λ f s₃ => match f with
           | .next | .cont => ∃ m, m < n /\ I m s₃
           | .brk => R (.ok .next) s₃
           | .ret v => R (.ok (.ret v)) s₃) (λ _ _ => False) s₂
       else wpAny (model prog w) A (execs orelse env) (λ f s₃ => R (.ok f) s₃) (λ _ _ => False) s₂) (λ _ _ => False) s)
   (n : Nat) (h : I n s) : codeAny (model prog w) A (.whileLoop test body orelse env) R s := by
 refine ju rfl rfl I (λ n s hI => ?_) n h
 show wpAny _ A ((whileTurn test body orelse env).onRaise (λ x => do noteFrame x env; theTreesLotGoes x)) _ _ s
 refine qC ?_
 unfold whileTurn
 refine qb (turn n s hI) λ b s₂ h₂ => ?_
 cases b with
 | false => exact qb h₂ λ f s₃ h₃ => wpAny_pure h₃
 | true =>
   refine qb h₂ λ f s₃ h₃ => ?_
   cases f with
   | next => exact wpAny_pure (.inl ⟨rfl, h₃⟩)
   | cont => exact wpAny_pure (.inl ⟨rfl, h₃⟩)
   | brk => exact wpAny_pure h₃
   | ret v => exact wpAny_pure h₃
theorem zM {target it body orelse} (I : Nat -> Shared -> Prop)
   (turn : ∀ n s, I n s -> wpAny (model prog w) A (pyNext it) (λ r s₁ => match r with
     | none => wpAny (model prog w) A (execs orelse env) (λ f s₃ => R (.ok f) s₃) (λ _ _ => False) s₁
     | some v => wpAny (model prog w) A (letOwnedTupleGo target it v) (λ _ s₁' => wpAny (model prog w) A (assign target env v) (λ _ s₂ => wpAny (model prog w) A (execs body env) (λ f s₃ => match f with
           | .next | .cont => ∃ m, m < n /\ I m s₃
           | .brk => R (.ok .next) s₃
           | .ret v => R (.ok (.ret v)) s₃) (λ _ _ => False) s₂) (λ _ _ => False) s₁') (λ _ _ => False) s₁) (λ _ _ => False) s)
   (n : Nat) (h : I n s) : codeAny (model prog w) A (.forLoop target it body orelse env) R s := by
 refine ju rfl rfl I (λ n s hI => ?_) n h
 show wpAny _ A ((forTurn target it body orelse env).onRaise (λ x => do noteFrame x env; theTreesLotGoes x)) _ _ s
 refine qC ?_
 unfold forTurn
 refine wpAny_bind (qd (qb (qC (turn n s hI)) λ r s₁ h₁ => ?_))
 cases r with
 | none => exact wpAny_pure (.inr ⟨rfl, rfl, YH h₁⟩)
 | some v =>
   refine qb h₁ λ _ s₁' h₁' => qb h₁' λ _ s₂ h₂ => qb h₂ λ f s₃ h₃ => ?_
   cases f with
   | next => exact wpAny_pure (.inl ⟨rfl, h₃⟩)
   | cont => exact wpAny_pure (.inl ⟨rfl, h₃⟩)
   | brk => exact wpAny_pure h₃
   | ret v => exact wpAny_pure h₃
end
section
variable {prog : Program} {w : World} {A : Around} {E : Value -> Shared -> Prop} {s : Shared} {env : Env} {R : Result -> Shared -> Prop}
theorem yB {elt target iter : Expr} {scope : Scope} {pos : Pos} {it acc : Value} (I : Nat -> Shared -> Prop)
   (turn : ∀ n s, I n s -> wpAny (model prog w) A (pyNext it) (λ r s₁ => match r with
     | none => R (.ok .next) s₁
     | some v => wpAny (model prog w) A (letOwnedTupleGo target it v) (λ _ s₁' => wpAny (model prog w) A (assign target env v) (λ _ s₂ => wpAny (model prog w) A (eval elt env) (λ x s₃ =>
         wpAny (model prog w) A (call (.builtin "list.append") [acc, x]) (λ _ s₄ => ∃ m, m < n /\ I m s₄) (λ _ _ => False) s₃)
         (λ _ _ => False) s₂) (λ _ _ => False) s₁') (λ _ _ => False) s₁) (λ _ _ => False) s)
   (n : Nat) (h : I n s) : codeAny (model prog w) A (.compLoop (.ListComp elt [⟨target, iter, [], 0⟩] scope pos) 0 it acc env) R s := by
 refine ju rfl rfl I (λ n s hI => ?_) n h
 show wpAny _ _ ((compTurn (.ListComp elt [⟨target, iter, [], 0⟩] scope pos) 0 it acc env).onRaise (λ x => do noteFrame x env; theTreesLotGoes x)) _ _ s
 refine qC ?_
 rw [compTurn_list1]
 refine wpAny_bind (qd (qb (turn n s hI) λ r s₁ h₁ => ?_))
 cases r with
 | none => exact wpAny_pure h₁
 | some v =>
   refine qb h₁ λ _ s₁' h₁' => qb h₁' λ _ s₂ h₂ => wpAny_bind (qb h₂ λ x s₃ h₃ => qb h₃ λ _ s₄ h₄ => wpAny_pure (wpAny_pure (.inl ⟨rfl, h₄⟩)))
theorem jV {elt target iter ifs rest scope pos it acc}
   (h0 : codeAny (model prog w) A (.compLoop (.ListComp elt (⟨target, iter, ifs, 0⟩ :: rest) scope pos) 0 it acc env) R s)
   (h : wpAny (model prog w) A (pyIter it) (λ it' s' => codeAny (model prog w) A (.compLoop (.ListComp elt (⟨target, iter, ifs, 0⟩ :: rest) scope pos) 0 it' acc env) R s') (λ _ _ => False) s) :
   codeAny (model prog w) A (.compStart (.ListComp elt (⟨target, iter, ifs, 0⟩ :: rest) scope pos) 0 it acc env) R s := by
 refine qA ?_
 show wpAny _ _ ((compStart (.ListComp elt (⟨target, iter, ifs, 0⟩ :: rest) scope pos) 0 it acc env).onRaise (λ x => do noteFrame x env; standAt theWindowsPlace)) _ _ s
 refine qC ?_
 unfold compStart
 show wpAny _ _ (ask >>= _) _ _ s
 refine wpAny_bind (qa (wpAny_askSetting ?_))
 split
 · exact wpAny_bind (wpAny_pure (wpAny_pure ⟨rfl, rfl, h0⟩))
 · refine wpAny_bind (wpAny_rule ?_)
   show wpAny _ _ (standAt iter.pos >>= _) _ _ s
   exact wpAny_bind (qd (qb h λ it' s' h' => wpAny_pure ⟨rfl, rfl, h'⟩))
noncomputable def QV (Q : Value -> Shared -> Prop) (acc : Value) (C : Addr) (r : Result) (s' : Shared) : Prop := match r with
 | .ok _ => ∃ m, s'.heap.Ns C m /\ ∀ h', Heap.SameBut C s'.heap h' -> Q acc { s' with heap := h' }
 | .error _ => False
theorem ze {e : Expr} {scope : Scope} {pos : Pos} {newAcc first : Sem Value} {g : Comprehension} {gs : List Comprehension} {cl : List (Str × Addr)} {Q : Value -> Shared -> Prop}
   (hcl : clausesOf e = g :: gs) (hs : ∀ x, foldedSetIterable g.iter env x = pure x) (hclos : closureFor scope env = pure cl) (hkind : scope.kind = .function) (hnames : ∀ x ∈ scope.names, x.2 = .local -> scope.names.lookup x.1 = some .local)
   (h : wpAny (model prog w) A first (λ x s₁ => wpAny (model prog w) A (pyIter x) (λ it s₂ => wpAny (model prog w) A newAcc (λ acc s₃ =>
     wpAny (model prog w) A (newFunctionEnv scope env.globals cl [] env.qual none .none (some env)) (λ cenv s₄ =>
       codeAny (model prog w) A (.compStart e 0 it acc { cenv with scope := relabel scope env }) (QV Q acc cenv.locals) s₄) E s₃) E s₂) E s₁) E s) :
   wpAny (model prog w) A (comprehension e scope env pos newAcc false first none) Q E s := by
 unfold comprehension
 rw [hclos, hcl]
 refine qb h λ x s₁ h₁ => wpAny_bind (qd ?_)
 dsimp only
 rw [hs x]
 refine wpAny_bind (wpAny_pure (qb (qc h₁) λ it s₂ h₂ => ?_))
 simp only [Option.isSome_none, Ee, if_false]
 refine qb h₂ λ acc s₃ h₃ => wpAny_bind (wpAny_pure (qb h₃ λ cenv s₄ h₄ => ?_))
 have hv : ∀ x ∈ (scope.names.filter λ x => (x.2 == .local || x.2 == .cell) && x.1 != (".0" : Str)).reverse, x.2 = .local -> Env.kindOf { cenv with scope := relabel scope env } x.1 = some .local :=
   λ x hx hl => lookup_relabel_local (hnames x (Ib.mp (List.mem_reverse.mp hx)).1 hl)
 refine qc (wpAny_bind (Qa (qc (YP rfl (jU h₄ λ r s' hr => ?_)))))
 cases r with
 | error x => exact hr.elim
 | ok f =>
   obtain ⟨m, hn, hr⟩ := hr
   exact wpAny_bind (qc (qa (wpAny_comp_letGo (cenv := { cenv with scope := relabel scope env }) hkind _ s' m hv hn λ h' m' _ hs' => wpAny_pure (hr h' hs'))))
end
section
variable {prog : Program} {w : World} {A : Around} {E : Value -> Shared -> Prop} {s : Shared} {R : Result -> Shared -> Prop} {K : Frag} {C L : Addr} {h₀ : Heap} {m : Str -> Option Value} {news : List (Addr × Obj)}
theorem codeAny_builtin {id : String} {args : Args} {b : Builtin} (hb : entryFor table id = some b) (h : wpAny (model prog w) (A.under (.builtin id args)) (b args) (Hp (model prog w) A R) (λ e s' => R (.error e) s') s) : codeAny (model prog w) A (.builtin id args) R s := by
 refine qA ?_
 show wpAny _ _ (match entryFor table id with | some b => b args | none => unsupported ((withoutEnding? id "#data").getD id)) _ _ s
 rw [hb]; exact h
theorem zG {id : String} {args : Args} {b : Builtin} (hq : (Code.builtin id args).quiet = true) (ok : Xt (.builtin id args) = true) (hb : entryFor table id = some b)
   (h : wpAny (model prog w) A.in1 (checkBuiltinCall id args) (λ _ s₁ => wpAny (model prog w) (A.under (.builtin id args)) (b args) (Hp (model prog w) A R) (λ e s' => R (.error e) s') s₁) (λ e s' => R (.error e) s') s) :
   codeAny (model prog w) A (.call (.builtin id) args) R s := by
 refine qA ?_
 show wpAny _ A.in1 (checkBuiltinCall id args >>= λ _ => again (.builtin id args)) _ _ s
 exact qb h λ _ s₁ h₁ => wpAny_pure ⟨hq, ok, codeAny_builtin hb h₁⟩
theorem dk {args : Args} : Xt (.builtin "type.__call__" args) = true := by show (!yF.contains "type.__call__") = true; decide +kernel
theorem Ky {rest : List Value} {kw : List (Str × Value)} {fI : Addr} {h : Heap} {g : Array GenState} {d : Drawn} {t : Nat} {os : OsState} (X : K.In h) (hm : makesIn K C = true) (hi : findIn K (.ref C) "__init__" = some (some (.ref fI))) (hf : typeIn K (.ref fI) = some (.type "function"))
   (hq : codeAny (model prog w) (A.under (.builtin "type.__call__" ⟨.ref C :: rest, kw⟩)) (.call (.ref fI) ⟨.ref (h.objs.size + 1) :: rest, kw⟩) (InitBack (h.objs.size + 1) R) ⟨(h.push emptyDict).push (instObj C h.objs.size), g, d, t, os⟩) :
   codeAny (model prog w) A (.call (.ref C) ⟨rest, kw⟩) R ⟨h, g, d, t, os⟩ := by
 have Y := makes_of (M := model prog w) X hm
 have li : Looks (model prog w) h (typeLookup (.ref C) "__init__") (some (.ref fI)) := looks_findIn X hi
 have lb : ∀ self, Looks (model prog w) h (bindSpecial (.ref fI) self) (.ref fI, [self]) := λ self => bind_fn X self hf
 obtain ⟨⟨oc, od, cd, sl, hC, e1, e2, e4⟩, made, base, self, top, call, typ⟩ := id Y
 refine qA ?_
 have first : Ec (model prog w) A.in1 (callAny (.ref C) ⟨rest, kw⟩) (λ fin s' => fin = .again (.call (.builtin "type.__call__") ⟨.ref C :: rest, kw⟩) /\ s' = ⟨h, g, d, t, os⟩) (λ e s' => R (.error e) s') ⟨h, g, d, t, os⟩ := by
   refine nd_load hC ?_
   show Ec _ _ (callAny.viaDunder (.ref C) _) _ _ _
   unfold callAny.viaDunder
   refine CP (call.at ?_)
   dsimp only
   rw [tc_bind]
   exact CP (eA (CP (eA (eA (a := Fin.again (.call (.builtin "type.__call__") ⟨.ref C :: rest, kw⟩)) ⟨rfl, rfl⟩))))
 refine ql (qa first) ?_ λ _ _ x => x
 rintro fin s' ⟨rfl, rfl⟩
 refine ⟨rfl, rfl, zG (Code.quiet_builtin _ (by decide +kernel)) dk entry_typeCall (qa (check_slot tc_kind tc_split typ (tc_args _ _ _) ?_))⟩
 unfold Builtin.«type.__call__»
 have hmro : Looks (model prog w) h (mroOf (.ref C)) cd.mro := ((Looks.ld (part := none) hC).andThen .now).andThen .now
 dsimp only
 rw [if_neg (show ¬ ((Value.ref C == Value.type "type") = true) from iu)]
 refine wpAny_bind (qa (hmro.here ?_))
 rw [e4, if_neg iu]
 refine wpAny_bind (qa (made.here ?_))
 dsimp only
 refine wpAny_bind (wpAny_pure ?_)
 refine wpAny_bind (qc (qM (Yc (new_K Y li (.inl rfl) ?_))))
 have k : ∀ b o, h.get? b = some o -> ((h.push emptyDict).push (instObj C h.objs.size)).get? b = some o := λ b o e => Es _ (Es _ e)
 have hx : ((h.push emptyDict).push (instObj C h.objs.size)).get? (h.objs.size + 1) = some (instObj C h.objs.size) := by
   have := EE (h.push emptyDict) (o := instObj C h.objs.size) rfl
   rwa [Heap.size_push] at this
 have t1 : Looks (model prog w) ((h.push emptyDict).push (instObj C h.objs.size)) (typeOf (.ref (h.objs.size + 1))) (.ref C) := (Looks.ld hx).andThen .now
 refine wpAny_bind (qa (Looks.here (t := isInstance (.ref (h.objs.size + 1)) (.ref C)) (r := true) (t1.andThen (self.keeps k)) ?_))
 rw [if_neg (show ¬ ((!true) = true) from iu)]
 refine wpAny_bind (qc ?_)
 unfold callSpecial?
 refine wpAny_bind (qa (Looks.here (t := specialOf (.ref (h.objs.size + 1)) (Str.ofString "__init__")) (r := some (.ref fI)) (t1.andThen (li.keeps k)) ?_))
 refine qc (wpAny_bind (qa (((lb _).keeps k).here ?_)))
 refine wpAny_bind (qM (jU hq λ r s' z => ?_))
 rcases r with e | (v | _ | _ | _)
 · exact z
 all_goals first | exact z.elim | skip
 obtain ⟨rfl, z⟩ := z
 exact wpAny_pure (wpAny_pure z)
theorem UK {pos : List Value} {kw : List (Str × Value)} {fI : Addr} {Q : Value -> Shared -> Prop} (F : Fr h₀ L s.heap m) (X₀ : K.In h₀) (N : News h₀ L s.heap news) (hm : makesIn K C = true) (hi : findIn K (.ref C) "__init__" = some (some (.ref fI))) (hf : isFn K (.ref fI) = true)
   (h : ∀ x dx h', Fr h₀ L h' m -> News h₀ L h' ((x, instObj C dx) :: (dx, dictOf [] 0) :: news) -> (∀ p ∈ news, p.1 < dx) -> dx < x ->
     codeAny (model prog w) (A.under (.builtin "type.__call__" ⟨.ref C :: pos, kw⟩)) (.call (.ref fI) ⟨.ref x :: pos, kw⟩) (InitBack x λ r s' => match r with | .ok (.ret v) => Q v s' | .ok _ => False | .error e => E e s') { s with heap := h' }) :
   wpAny (model prog w) A (call (.ref C) pos kw) Q E s := by
 obtain ⟨hh, g, d, t, os⟩ := s
 have N2 := (N.push F emptyDict).push (F.push _) (instObj C hh.objs.size)
 rw [Heap.size_push] at N2
 exact qM (Ky (X₀.keeps F.keep) hm hi (beq_iff_eq.mp hf) (h _ hh.objs.size _ ((F.push _).push _) N2 (λ p hp => eW (N p hp).1) (iU _)))
end
end Mi
end
section
namespace Mi
open PySem PySem.W PyProof.Rows
section
variable {N : Nm} {prog : Program} {w : World} {A : Around} {E : Value -> Shared -> Prop}
variable {fr : Frm} {ix : Ix} {loc : List (Option V)} {U : Mu} {s : Shared}
theorem QQ {pl : List (Addr × Obj)} {mt : List (Nat × Addr × Obj)} {fz : List (Addr × Obj)} {i : Nat} {c : Addr} {o : Obj} (h : (i, c, o) ∈ mt) : (c, o) ∈ pl ++ mt.map (·.2) ++ fz :=
 CO _ (CN _ (CU.mpr ⟨_, h, rfl⟩))
theorem Frm.Ok.cellO (ok : fr.Ok) {h m pl mt} (P : Parts N prog w fr ix loc U h m pl mt) {i : Nat} {c : Addr} {o : Obj} (b : match fr.cm with | true => (c, o) ∈ fr.ck | false => (i, c, o) ∈ mt) : h.get? c = some o := by
 cases q : fr.cm with
 | true => rw [q] at b; exact (P.W _ (CN _ (CN _ (ok.ck _ b)))).1
 | false => rw [q] at b; exact (P.W _ (QQ b)).1
theorem FS.name (ok : fr.Ok) (Y : FS N prog w fr ix loc U s) {i : Nat} {v : V} (e : qj loc i = some (some v)) (hv : ∀ l, v ≠ .own l) (hk : fr.c.kd i < 2) {pos : Pos} {Q : Value -> Shared -> Prop}
   (h : ∀ v', VR N prog w ix v' v -> Q v' s) : wpAny (model prog w) A (eval (.Name (fr.c.nl i) pos) fr.env) Q E s :=
 Y.op λ m pl mt P => by
 have x := P.l i v (qE loc i ▸ e)
 rcases Ig.mp (eJ hk) with q | q
 · exact (x.loc q).elim (λ z => z.elim λ v' z => qa <| wpAny_Name (wpAny_loadName_local ok.fne (ok.kind0 q) P.F.ns z.1 (h v' z.2)) (ok.dbg i x.lt)) λ z => z.elim λ t z => absurd z.e (hv _)
 · exact (x.cell q).elim λ t z => qa <| wpAny_Name (wpAny_loadName_cell ok.fne (ok.kind1 q) z.cl ⟨_, ok.cellO P z.mt, z.cv⟩ (h _ z.vr)) (ok.dbg i x.lt)
theorem jE.own {m mt i l} (x : jE N prog w fr ix m mt i (.own l)) (hk : fr.c.kd i = 0) {C : Prop} (f : ∀ a n vs, ix.ow.lookup i = some a -> m (fr.c.nl i) = some (.ref a) -> (i, a, qV vs n) ∈ mt -> VRs N prog w ix vs l -> C) : C :=
 (x.loc hk).elim (λ z => z.elim λ v z => z.2.el (λ _ => C) True.intro) λ z => z.elim λ t z => f t.2.1 t.2.2.1 t.2.2.2 z.ow z.m z.mt (V.own.inj z.e ▸ z.vs)
theorem jE.keep (ok : fr.Ok) {m m' mt j u i} (x : jE N prog w fr ix m mt j u) (hi : i < fr.c.n) (hm : ∀ y, y ≠ fr.c.nl i -> m' y = m y) (hij : ¬ i = j) : jE N prog w fr ix m' mt j u :=
 have hn := hm (fr.c.nl j) λ z => hij (ok.inj j i x.lt hi z).symm
 ⟨x.lt, λ e => (x.loc e).imp (Exists.imp λ _ z => z.imp hn.trans id) (Exists.imp λ _ z => ⟨z.e, z.ow, hn.trans z.m, z.mt, z.vs⟩), x.cell⟩
theorem Jm {loc : List (Option V)} {i j : Nat} {v u : V} {C : Prop} (e : (qy loc i (some v))[j]? = some (some u)) (f : i = j -> v = u -> C) (g : ¬ i = j -> loc[j]? = some (some u) -> C) : C := by
 rw [qZ, iL] at e
 by_cases hij : i = j
 · rw [if_pos hij] at e
   split at e
   · exact f hij (Option.some.inj (Option.some.inj e))
   · cases e
 · rw [if_neg hij] at e; exact g hij e
theorem FS.store (ok : fr.Ok) (Y : FS N prog w fr ix loc U s) {i : Nat} (hi : i < fr.c.n) (hk : fr.c.kd i = 0) {v' : Value} {v : V} (hv : VR N prog w ix v' v) {Q : Unit -> Shared -> Prop}
   (h : ∀ s', FS N prog w fr ix (qy loc i (some v)) U s' -> Q () s') : wpAny (model prog w) A (storeName fr.env (fr.c.nl i) v') Q E s := by
 obtain ⟨⟨m, pl, mt, P⟩, g1, g2, g3⟩ := Y
 refine qa <| wpAny_storeName_local (ok.kind0 hk) P.F.ns (λ h' hn hs => h _ ⟨⟨_, pl, mt, ⟨P.F.set hn hs, P.W.set hs, P.B, P.bz, P.ad, P.P, P.nd, P.ap, P.ak, P.cs, λ j u e => ?_⟩⟩, g1, g2, g3⟩)
   (by rw [ok.fne]; rfl)
 exact Jm e (λ ij vu => ij ▸ vu ▸ ⟨hi, λ _ => .inl ⟨v', if_pos rfl, hv⟩, λ e => nomatch hk.symm.trans e⟩) λ hij e => (P.l j u e).keep ok hi (λ y hy => if_neg hy) hij
end
end Mi
end
section
namespace Mi
open PySem PySem.W PyProof.Rows PySem.Spec PyProof.V PySem.SeqAt
section
variable (N : Nm) (prog : Program) (w : World)
noncomputable def CC (fr : Frm) (ix : Ix) (loc : List (Option V)) {α : Type} (k : V -> Mu -> Prop) (Q : Value -> Shared -> α) (h : α -> Prop) : Prop :=
 ∀ jx v' v U' s', ix.Le jx -> k v U' -> VR N prog w jx v' v -> FS N prog w fr jx loc U' s' -> h (Q v' s')
noncomputable abbrev Post (fr : Frm) (ix : Ix) (loc : List (Option V)) (k : V -> Mu -> Prop) (Q : Value -> Shared -> Prop) : Prop :=
 ∀ jx v' v U' s', ix.Le jx -> k v U' -> VR N prog w jx v' v -> FS N prog w fr jx loc U' s' -> Q v' s'
end
section
variable {N : Nm} {prog : Program} {w : World} {A : Around} {E : Value -> Shared -> Prop}
variable {fr : Frm} {ix : Ix} {loc : List (Option V)} {U : Mu} {s : Shared} {T : WE}
noncomputable def VM : Op -> Operator
 | .add => .Add | .sub => .Sub | .mul => .Mult | .pow => .Pow | .shl => .LShift | .shr => .RShift | .band => .BitAnd | .bor => .BitOr | .bxor => .BitXor | .div => .FloorDiv | .mod => .Mod
noncomputable def Xb : Cm -> CmpOp
 | .eq => .Eq | .ne => .NotEq | .lt => .Lt | .le => .LtE | .gt => .Gt | .ge => .GtE | .is => .Is | .isn => .IsNot
theorem IntsAre.vrs : ∀ {vs : List Value} {l : List V}, VRs N prog w ix vs l -> ∀ {is : List Int}, zv l = some is -> IntsAre vs is := λ h _ e => h.ints e
theorem uv (n : Nat) : (0 : Int) <= 2 ^ n := eC (Int.pow_pos (by decide))
theorem UX {o : Op} {a b : Int} {t u : Tok} {k : Int -> Prop} {Q : Value -> Shared -> Prop} (h : UZ o a b k)
   (q : ∀ z t', k z -> Q (.int z t') { s with toks := s.toks + 1 }) : wpAny (model prog w) A (binaryOp (VM o) (.int a t) (.int b u)) Q E s := by
 cases o with
 | add => exact qa <| add_int (q _ _ h)
 | sub => exact qa <| sub_int (q _ _ h)
 | mul => exact qa <| mul_int (q _ _ h.2) h.1
 | pow => exact qa <| pow_int_small h.1.1 h.1.2.1 h.1.2.2 (q _ _ h.2)
 | shl => exact qa <| lshift_int_small h.1.1 h.1.2.1 h.1.2.2 (q _ _ h.2)
 | shr =>
   refine qa <| rshift_int h.1 ?_
   have e : a.fdiv (2 ^ b.toNat) = a / 2 ^ b.toNat := IE _ (uv _)
   rw [e]; exact q _ _ h.2
 | band =>
   refine qa <| and_int ?_
   rw [bitAnd_pp h.1.1 h.1.2]; exact q _ _ h.2
 | bor =>
   refine qa <| or_int ?_
   rw [bitOr_and, bitAnd_pp h.1.1 h.1.2]; exact q _ _ h.2
 | bxor =>
   refine qa <| xor_int ?_
   rw [bitXor_and, bitAnd_pp h.1.1 h.1.2]; exact q _ _ h.2
 | div =>
   have hb : (0 : Int) < b := h.1.1
   refine qa <| floordiv_int (by omega) ?_ (.inl (PyProof.noPylong_of_log2 h.1.2))
   rw [IE _ (eC hb)]; exact q _ _ h.2
 | mod =>
   have hb : (0 : Int) < b := h.1
   refine qa <| mod_int' (by omega) ?_
   rw [Int.fmod_eq_emod_of_nonneg _ (eC hb)]; exact q _ _ h.2
theorem VZ {o : Op} {a b : Int} {t u : Tok} {k : Int -> Prop} {Q : Value -> Shared -> Prop} (h : UZ o a b k)
   (ho : o = .add \/ o = .sub \/ o = .shl \/ o = .shr) (q : ∀ z t', k z -> Q (.int z t') { s with toks := s.toks + 1 }) : wpAny (model prog w) A (inplaceOp (VM o) (.int a t) (.int b u)) Q E s := by
 rcases ho with rfl | rfl | rfl | rfl
 · exact qa <| iadd_int (q _ _ h)
 · exact qa <| isub_int (q _ _ h)
 · exact qa <| ilshift_int_small h.1.1 h.1.2.1 h.1.2.2 (q _ _ h.2)
 · refine qa <| irshift_int h.1 ?_
   have e : a.fdiv (2 ^ b.toNat) = a / 2 ^ b.toNat := IE _ (uv _)
   rw [e]; exact q _ _ h.2
structure Names (N : Nm) (T : WE) : Prop where
 an : ∀ a b, N.an a = N.an b -> a = b
 sn : ∀ a b, N.sn a = N.sn b -> a = b
 cat : ∀ a b c, T.cat a b = some c -> N.sn a ++ N.sn b = N.sn c
 short : ∀ a, (N.sn a).length <= 100
theorem FS.lstAt {m pl mt} (P : Parts N prog w fr ix loc U s.heap m pl mt) {a o vs} (h : ix.Fz (a, o)) (t : LO o vs) : s.heap.IsList a vs.toArray := ⟨_, P.fz h, t.1, t.2⟩
theorem FS.tupAt {m pl mt} (P : Parts N prog w fr ix loc U s.heap m pl mt) {a o vs} (h : ix.Fz (a, o)) (t : TO o vs) : s.heap.IsTuple a vs.toArray := ⟨_, P.fz h, t.1, t.2⟩
theorem FL (H : Names N T) {a b c : Nat} (h : T.cat a b = some c) : (N.sn a).length + (N.sn b).length <= sizeLine := CK (Ek (H.short a) (H.short b)) (by decide)
set_option maxHeartbeats 2000000 in
theorem UW (H : Names N T) (Y : FS N prog w fr ix loc U s) {o : Op} {x' y' : Value} {x y : V} (hx : VR N prog w ix x' x) (hy : VR N prog w ix y' y) {k : V -> Prop} {Q : Value -> Shared -> Prop} (h : Hb T o x y k)
   (q : Post N prog w fr ix loc (λ v U' => k v /\ U' = U) Q) : wpAny (model prog w) A (binaryOp (VM o) x' y') Q E s := by
 cases x with
 | int a => exact hx.xI λ t => hy.qI h λ b u h => UX h λ z t' hz => q ix _ _ _ _ (.refl _) ⟨hz, rfl⟩ .int (Y.tok _)
 | str a =>
   refine hx.xS λ t => hy.qS h λ b u h => ?_
   cases o with
   | add => exact zL h λ c hc h => qa <| SBL.add (hsz := FL H hc) λ t' tk _ => H.cat _ _ _ hc ▸ q ix _ _ _ _ (.refl _) ⟨h, rfl⟩ .str (Y.tok _)
   | _ => exact False.elim h
 | lst l =>
   refine hx.xL λ a1 o1 v1 f1 t1 b1 => hy.qL h λ l2 a2 o2 v2 h f2 t2 b2 => ?_
   cases o with
   | add =>
     exact Y.op λ m pl mt P => qa <| add_lists P.F P.W (FS.lstAt P f1 t1) (FS.lstAt P f2 t2) (λ h' F' W' => q _ _ _ _ _ (Ix.le_more ..) ⟨h.2, rfl⟩ (.lst (.inl (CZ ..)) ⟨rfl, _, rfl⟩ ((b1.app b2).mono N prog w (Ix.le_more ..))) (Y.more P F' W'))
       (by rw [b1.length, b2.length, <- eN]; exact CK h.1 (by decide))
   | _ => exact False.elim h
 | byt a =>
   refine hx.xY λ t => hy.qI h λ n u h => ?_
   cases o with
   | mul =>
     have h3 := h.1.2.2
     exact qa <| bytes_mul_any (b := a.toList) (by intro e; rw [<- Iw, e] at h3; cases h3) (CM (by decide) h.1.1) (CM h.1.2.1 (by decide)) (by rw [Iw, h3]; decide)
         (λ t' k => q ix _ _ _ _ (.refl _) ⟨h.2, rfl⟩ .byt (Y.tok _))
   | _ => exact False.elim h
 | _ => exact False.elim h
theorem wa {c : Prop} [d : Decidable c] {k : Bool -> Prop} (h : ways c k) : k (decide c) := d.rec (λ e => h.2 e) λ e => h.1 e
theorem vI (i : Int) : (i != 0) = decide (i ≠ 0) := by rw [decide_not]; rfl
theorem zy {v' : Value} {v : V} (hv : VR N prog w ix v' v) {k : Bool -> Prop} {Q : Bool -> Shared -> Prop} (h : yp v k) (q : ∀ b, k b -> Q b s) : wpAny (model prog w) A (truthy v') Q E s := by
 cases v with
 | bool b => exact hv.xB (qa <| wpAny_truthy_bool (q _ h))
 | int i => exact hv.xI λ t => qa <| truthy_int (vI i ▸ q _ (wa h))
 | none => exact hv.xN (qa <| truthy_none (q _ h))
 | _ => exact False.elim h
theorem zo {c : Prop} [Decidable c] {k : Bool -> Prop} (h : ways c k) : k (decide c) := wa h
theorem UH {o : Cm} {a b : Int} {t u : Tok} {k : Bool -> Prop} {Q : Value -> Shared -> Prop} (ho : o ≠ .is /\ o ≠ .isn) (h : ways (FG o a b) k)
   (q : ∀ c, k c -> Q (.bool c) s) : wpAny (model prog w) A (compareOp (Xb o) (.int a t) (.int b u)) Q E s := by
 cases o with
 | eq => refine qa <| eq_int (q _ ?_); have : (a == b) = decide (a = b) := by by_cases e : a = b <;> simp [e]
         rw [this]; exact zo h
 | ne => refine qa <| ne_int (q _ ?_); have : (a != b) = decide (a ≠ b) := by by_cases e : a = b <;> simp [e]
         rw [this]; exact zo h
 | lt => exact qa <| lt_int (q _ (zo h))
 | le => exact qa <| le_int (q _ (zo h))
 | gt => exact qa <| gt_int (q _ (zo h))
 | ge => exact qa <| ge_int (q _ (zo h))
 | is => exact absurd rfl ho.1
 | isn => exact absurd rfl ho.2
theorem wl (H : Names N T) (a b : Nat) : (N.sn a == N.sn b) = eB a b := by
 by_cases e : a = b
 · subst e; simp
 · rw [show eB a b = false from by cases q : eB a b with | false => rfl | true => exact absurd (em q) e]
   rw [beq_eq_false_iff_ne]
   exact λ q => e (H.sn _ _ q)
theorem YY {h : Heap} {a : Addr} {vs : List Value} {ns : List Int} (hl : h.IsTuple a vs.toArray) (hi : IntsAre vs ns) : Reads h (.ref a) (.tuple (ns.map PyData.int)) [] := by
 obtain ⟨o, ho, hc, n, hd⟩ := hl
 exact Reads.tuple ho hc hd (by simpa using readsAll_of_ints hi)
theorem jJ (ns : List Int) : shaped (.tuple (ns.map PyData.int)) = true := by
 have h1 := PySem.W.depthAll_ints ns
 have h2 : PyData.depth (.tuple (ns.map PyData.int)) <= 64 := by simp only [PyData.depth]; omega
 show (PyData.canLay0 (.tuple (ns.map PyData.int)) && decide (PyData.depth (.tuple (ns.map PyData.int)) <= 64)) = true
 rw [ED]
 exact ⟨by simp only [PyData.canLay0]; exact canLayAll0_ints ns, decide_eq_true h2⟩
theorem KW (a b : List Int) : Spec.same (.tuple (a.map PyData.int)) (.tuple (b.map PyData.int)) = decide (a = b) := by simp only [Spec.same]; exact same_ints a b
theorem UG (H : Names N T) (hu : A.units + 64 < cLine) (Y : FS N prog w fr ix loc U s) {o : Cm} (n : o ≠ .is /\ o ≠ .isn) {x' y' : Value} {x y : V} (hx : VR N prog w ix x' x) (hy : VR N prog w ix y' y) {k : Bool -> Prop} {Q : Value -> Shared -> Prop} (h : FE o x y k)
   (q : ∀ c, k c -> Q (.bool c) s) : wpAny (model prog w) A (compareOp (Xb o) x' y') Q E s := by
 cases x with
 | int a => exact hx.xI λ t => hy.qI h λ b u h => UH n h q
 | str a =>
   refine hx.xS λ t => hy.qS h λ b u h => ?_
   cases o with
   | eq => exact qa <| eq_str (q _ (wl H a b ▸ h))
   | ne => exact qa <| ne_str (q _ (by rw [bne, wl H]; exact h))
   | _ => exact False.elim h
 | tup l =>
   refine hx.xT λ a1 o1 v1 f1 t1 b1 => hy.qT h λ l2 a2 o2 v2 h f2 t2 b2 => zL h λ is1 e1 h => zL h λ is2 e2 h => Y.op λ m pl mt P => ?_
   have r1 := YY (FS.tupAt P f1 t1) (b1.ints e1)
   have r2 := YY (FS.tupAt P f2 t2) (b2.ints e2)
   cases o with
   | eq => exact qa <| eq_dataH_same r1 r2 (jJ _) (jJ _) hu (noMix_ints _ _) (q _ ((KW is1 is2).symm ▸ zo h))
   | ne => exact qa <| ne_dataH_same r1 r2 (jJ _) (jJ _) hu (noMix_ints _ _) (q _ ((congrArg Bool.not (KW is1 is2)).symm ▸ (decide_not (p := is1 = is2)) ▸ zo h))
   | _ => exact False.elim h
 | lst l =>
   refine hx.xL λ a1 o1 v1 f1 t1 b1 => hy.qL h λ l2 a2 o2 v2 h f2 t2 b2 => h.elim λ is1 h => h.elim λ is2 h => Y.op λ m pl mt P => ?_
   cases o with
   | eq => exact qa <| eq_intsK (FS.lstAt P f1 t1) (b1.ints h.1) (FS.lstAt P f2 t2) (b2.ints h.2.1) hu (q _ (zo h.2.2))
   | ne => exact qa <| ne_intsK (FS.lstAt P f1 t1) (b1.ints h.1) (FS.lstAt P f2 t2) (b2.ints h.2.1) hu (q _ ((decide_not (p := is1 = is2)) ▸ zo h.2.2))
   | _ => exact False.elim h.2.2
 | _ => exact False.elim h
theorem zH (H : Names N T) (hu : A.units + 64 < cLine) (Y : FS N prog w fr ix loc U s) {o : Cm} {x' y' : Value} {x y : V} (hx : VR N prog w ix x' x) (hy : VR N prog w ix y' y) {k : Bool -> Prop} {Q : Value -> Shared -> Prop} (h : KB o x y k)
   (q : ∀ c, k c -> Q (.bool c) s) : wpAny (model prog w) A (compareOp (Xb o) x' y') Q E s := by
 cases o with
 | is =>
   refine hy.qN h λ h => ?_
   cases x with
   | none => exact hx.xN (qa <| wpAny_is_plain (by decide) (q _ h))
   | int i => exact hx.xI λ t => qa <| is_int_none (q _ h)
   | _ => exact False.elim h
 | isn =>
   refine hy.qN h λ h => ?_
   cases x with
   | none => exact hx.xN (qa <| isnot_none_none (q _ h))
   | int i => exact hx.xI λ t => qa <| isnot_int_none (q _ h)
   | _ => exact False.elim h
 | _ => exact UG H hu Y ⟨Cm.noConfusion, Cm.noConfusion⟩ hx hy h q
end
section
variable {N : Nm} {prog : Program} {w : World} {A : Around} {E : Value -> Shared -> Prop}
variable {fr : Frm} {ix : Ix} {loc : List (Option V)} {U : Mu} {s : Shared} {T : WE} {K : Frag}
theorem Yj {a b : Nat} (e : ¬ a = b) : eB a b = false := by
 cases q : eB a b with
 | false => rfl
 | true => exact absurd (em q) e
theorem Up {x : Str} {h : Int} {t : Tok} {v : Value} {es : List DictEntry} : getL x (⟨h, .str x t, v⟩ :: es) = some (some v) := by unfold getL; simp [Value.isStr]
theorem ko {x y : Str} {h : Int} {t : Tok} {v : Value} {es : List DictEntry} (e : ¬ y = x) : getL x (⟨h, .str y t, v⟩ :: es) = getL x es := by
 have ne : (y == x) = false := beq_eq_false_iff_ne.mpr e
 unfold getL
 simp [lr, Value.isStr, ne, DictEntry.refKey]
theorem Jb {a b : Nat} {y : V} {r : List (Nat × V)} {o : Option V} {C : Prop} (h : qQ a ((b, y) :: r) = o) (f : a = b -> some y = o -> C) (g : ¬ a = b -> qQ a r = o -> C) : C := by
 by_cases e : a = b
 · subst e; unfold qQ at h; rw [lq] at h; exact f rfl h
 · unfold qQ at h; rw [Yj e] at h; exact g e h
theorem DR.get (hi : ∀ a b, N.an a = N.an b -> a = b) {a : Nat} {es l} (d : DR N prog w ix es l) {x} : qQ a l = some x -> ∃ v, getL (N.an a) es = some (some v) /\ VR N prog w ix v x :=
 d.ind (λ h => nomatch h) λ {hh t v es b y l} vr d ih h => Jb h (λ e hx => ⟨v, e ▸ Up, Option.some.inj hx ▸ vr⟩) λ e h => (ih h).imp λ u z => ⟨(ko λ q => e (hi _ _ q).symm).trans z.1, z.2⟩
theorem DR.get0 (hi : ∀ a b, N.an a = N.an b -> a = b) {a : Nat} {es l} (d : DR N prog w ix es l) : qQ a l = .none -> getL (N.an a) es = some .none :=
 d.ind (λ _ => rfl) λ vr d ih h => Jb h (λ e hx => nomatch hx) λ e h => (ko λ q => e (hi _ _ q).symm).trans (ih h)
theorem DR.put (hi : ∀ a b, N.an a = N.an b -> a = b) {a : Nat} {v : Value} {x : V} {hs : Int} {t : Tok} (hv : VR N prog w ix v x) {es l} (d : DR N prog w ix es l) : DR N prog w ix (putL (N.an a) hs (.str (N.an a) t) v es) (put a x l) := by
 refine d.ind (.cons hv .nil) λ {hh t v es b y l} vr d ih => ?_
 unfold putL Mi.put
 by_cases e : a = b
 · subst e
   rw [lq, if_pos (show (Value.str (N.an a) t).isStr (N.an a) = true from beq_self_eq_true _)]
   exact .cons hv d
 · rw [Yj e, if_neg (show ¬ (Value.str (N.an b) t).isStr (N.an a) = true from λ q => e (hi _ _ (eq_of_beq q)).symm)]
   exact .cons vr ih
theorem Qr (a : Nat) (x : V) : ∀ l, (put a x l).length <= l.length + 1
 | [] => by simp [put]
 | (b, y) :: l => by
   unfold put
   cases eB a b with
   | true => simp
   | false => simp only [cond_false, IY]; have := Qr a x l; omega
theorem VR.handed {v x} (h : VR N prog w ix v x) : handedIn v = true :=
 VR.casesOn (motive_1 := λ v _ _ => handedIn v = true) h rfl rfl rfl rfl rfl (λ _ _ _ => rfl) (λ _ _ _ => rfl) (λ _ _ _ => rfl) (λ _ => rfl) (λ _ _ => rfl) (λ _ => rfl) (λ _ _ _ _ => rfl)
noncomputable def yT : List Str := ["len", "min", "max", "abs", "int", "sum", "bytes", "bytearray", "list", "isinstance", "bool", "tuple", "range", "enumerate"]
structure Qf (N : Nm) (prog : Program) (w : World) (T : WE) (K : Frag) : Prop extends Names N T where
 get : ∀ c a, T.AT c a = true -> plainGet K (N.ca c) (N.an a) = true /\ hasDictIn K (N.ca c) = true /\ ∃ attr, findIn K (.ref (N.ca c)) (N.an a) = some attr /\ noGet K attr = true
 glob : ∀ g v, T.gv g = some v -> ∃ v', nsIn K mainGlobals (N.gn g) = some (some v') /\ ∀ ix : Ix, (∀ p ∈ N.bz, p ∈ ix.bz) -> VR N prog w ix v' v
 fn : ∀ f, N.isF f = true -> nsIn K mainGlobals (N.fn f) = some (some (.ref (N.fa f))) /\ keepIn K (.ref (N.fa f)) = true
 mt : ∀ c m f, T.MT c m = some f -> plainGet K (N.ca c) (N.an m) = true /\ findIn K (.ref (N.ca c)) (N.an m) = some (some (.ref (N.fa f))) /\ isFn K (.ref (N.fa f)) = true /\ keepIn K (.ref (N.fa f)) = true
 ct : ∀ c m f, T.CT c m = some f -> nsIn K mainGlobals (N.cn c) = some (some (.ref (N.ca c))) /\ specialIn K (.ref (N.ca c)) "__getattribute__" = some (some (.builtin "type.__getattribute__")) /\
   (∃ mc, typeIn K (.ref (N.ca c)) = some mc /\ readsIn K (N.ca c) mc = true /\ findCls K (.ref (N.ca c)) mc (N.an m) = some (.val (.ref (N.fa f)))) /\ keepIn K (.ref (N.fa f)) = true
 new : ∀ c f, T.init c = some (some f) -> nsIn K mainGlobals (N.cn c) = some (some (.ref (N.ca c))) /\ keepIn K (.ref (N.ca c)) = true /\ makesIn K (N.ca c) = true /\ findIn K (.ref (N.ca c)) "__init__" = some (some (.ref (N.fa f))) /\ isFn K (.ref (N.fa f)) = true
 bi : ∀ x ∈ yT, nsIn K mainGlobals x = some none
 set : ∀ c a, T.AT c a = true -> findIn K (.ref (N.ca c)) "__setattr__" = some (some (.builtin "object.__setattr__")) /\ plainOver K (N.ca c) = true /\ takerIn K (N.ca c) (N.an a) = some none
theorem Ae {b : Bool} {P C : Prop} (h : match b with | true => P | false => False) (f : b = true -> P -> C) : C := by
 cases b with
 | true => exact f rfl h
 | false => exact h.elim
theorem jC (H : Qf N prog w T K) (X : K.In fr.h₀) (Y : FS N prog w fr ix loc U s) {x' : Value} {x : V} (hx : VR N prog w ix x' x) {a : Nat} {k : V -> Prop} {Q : Value -> Shared -> Prop} (h : Yk T U x a k)
   (q : ∀ v' v, k v -> VR N prog w ix v' v -> Q v' { s with toks := s.toks + 1 }) {b : Bool} : wpAny (model prog w) A (getAttr x' (N.an a) b) Q E s :=
 hx.qO h λ c d x dx h hf had => Ae h λ hat h => Y.op λ m pl mt P => P.hA had h λ l es n h1 h3 hd hsz h => zL h λ v hl h =>
   let ⟨_, hu, vu⟩ := hd.get H.an hl
   let ⟨f1, f2, _, f3, f4⟩ := H.get _ _ hat
   qa <| get_own P.F X ⟨P.fz hf, rfl, rfl, h3⟩ f1 f2 f3 f4 hu vu.handed (q _ _ h vu)
theorem Upd.at {d : Addr} {o o' : Obj} {r : List (Addr × Obj)} : ∀ {pl : List (Addr × Obj)} {k : Nat}, pl[k]? = some (d, o) -> (pl.map (·.1)).Nodup -> (∀ p ∈ r, p.1 ≠ d) -> Upd d o o' (pl ++ r) (pl.set k (d, o') ++ r)
 | [], k, h, _, _ => by simp at h
 | p :: pl, 0, h, nd, hr => by
   simp at h
   subst h
   refine .head λ q hq => ?_
   rcases CS.mp hq with hq | hq
   · intro e
     exact (eO.mp nd).1 (CU.mpr ⟨q, hq, e⟩)
   · exact hr q hq
 | p :: pl, k + 1, h, nd, hr => by
   have h' : pl[k]? = some (d, o) := by simpa using h
   refine .tail ?_ (Upd.at h' (eO.mp nd).2 hr)
   intro e
   exact (eO.mp nd).1 (CU.mpr ⟨_, eR h', e.symm⟩)
theorem DR.some (H : Qf N prog w T K) {a : Nat} {es l} (hd : DR N prog w ix es l) : (getL (N.an a) es).isSome = true := by
 cases hq : qQ a l with
 | none => rw [hd.get0 H.an hq]; rfl
 | some x => exact (hd.get H.an hq).elim λ u z => z.1 ▸ rfl
theorem QG (H : Qf N prog w T K) (X : K.In fr.h₀) (Y : FS N prog w fr ix loc U s) {x' v' : Value} {x v : V} (hx : VR N prog w ix x' x) (hv : VR N prog w ix v' v) {a : Nat} {k : Mu -> Prop} {Q : Unit -> Shared -> Prop} (h : Vu T U x a v k)
   (q : ∀ U' s', k U' -> FS N prog w fr ix loc U' s' -> Q () s') : wpAny (model prog w) A (setAttr x' (N.an a) v') Q E s :=
 hx.qO h λ c d x dx h hf had => Ae h λ hat h => Y.op λ m pl mt P => P.hA had h λ l es n h1 h3 hd hsz h =>
   have s0 := H.set _ _ hat
   have dp := hd.put H.an hv (a := a) (hs := PyData.keyHash w.params (N.an a)) (t := s.toks + 1)
   have pl' : (put a v l).length <= 900 := CK (Qr a v l) h.1
   qa <| set_dict P.F X (ER _ _ _ ▸ P.W) ⟨P.fz hf, rfl, rfl, h3⟩ rfl s0.1 s0.2.1 s0.2.2 (H.get _ _ hat).2.1 (hd.some H) rfl (Upd.at h1 P.nd1 (P.rest h1)) (dp.length ▸ CK pl' (by decide)) λ h' F' W' =>
     q _ _ h.2 ⟨⟨m, _, mt, (qZ U d _) ▸ P.turnN h1 F' W' (.attrs dp pl')⟩, Y.gens, Y.os, Y.drawn⟩
end
end Mi
end
section
namespace Mi
open PySem PySem.W PyProof.Rows PySem.Spec PyProof.V PySem.SeqAt PySem.Calls
structure jX (A : Around) (b : Nat) : Prop where
 hd : A.handled = none
 dep : A.depth + 2 * b + 4 < recursionLimit
 un : A.units + 12 * b + 100 < cLine
structure gU (A : Around) (b : Nat) : Prop where
 hd : A.handled = none
 dep : A.depth + 2 * b + 3 < recursionLimit
 un : A.units + 12 * b + 96 < cLine
theorem jX.toC {A : Around} {b : Nat} (R : jX A b) : gU A b := ⟨R.hd, by have := R.dep; omega, by have := R.un; omega⟩
section
variable {N : Nm} {prog : Program} {w : World} {A : Around} {E : Value -> Shared -> Prop}
variable {fr : Frm} {ix : Ix} {loc : List (Option V)} {U : Mu} {s : Shared} {T : WE} {K : Frag}
noncomputable def zf (e : Expr) : Bool := !Nat.beq e.ctorIdx 26
theorem za {slice : Expr} (h : zf slice = true) (o i : Value) : subscripted slice false o i = operate [o, i] (getItem o i) := by
 cases slice <;> first | rfl | exact Bool.noConfusion h
theorem KQ {x : Str} {v : Value} {es : List (Str × Value)} : valueAt ((x, v) :: es) x = some v := by simp [valueAt]
theorem QB {x y : Str} {v : Value} {es : List (Str × Value)} (e : ¬ y = x) : valueAt ((y, v) :: es) x = valueAt es x := by simp [valueAt, lr, e]
theorem KR.get (hi : ∀ a b, N.sn a = N.sn b -> a = b) {a : Nat} {es l} (d : KR N prog w ix es l) {x} : qQ a l = some x -> ∃ v, valueAt es (N.sn a) = some v /\ VR N prog w ix v x :=
 d.ind (λ h => nomatch h) λ {v es b y l} vr d ih h => Jb h (λ e hx => ⟨v, e ▸ KQ, Option.some.inj hx ▸ vr⟩) λ e h => (ih h).imp λ u z => ⟨(QB λ q => e (hi _ _ q).symm).trans z.1, z.2⟩
theorem KR.get0 (hi : ∀ a b, N.sn a = N.sn b -> a = b) {a : Nat} {es l} (d : KR N prog w ix es l) : qQ a l = .none -> valueAt es (N.sn a) = .none :=
 d.ind (λ _ => rfl) λ vr d ih h => Jb h (λ e hx => nomatch hx) λ e h => (QB λ q => e (hi _ _ q).symm).trans (ih h)
theorem Vc (hi : ∀ a b, N.sn a = N.sn b -> a = b) (a b : Nat) : decide (N.sn b = N.sn a) = eB a b := by
 by_cases e : a = b
 · subst e; rw [lq, decide_eq_true rfl]
 · rw [Yj e, decide_eq_false λ q => e (hi _ _ q).symm]
theorem KR.any (hi : ∀ a b, N.sn a = N.sn b -> a = b) {a : Nat} {es l} (d : KR N prog w ix es l) : es.any (λ kv => decide (kv.1 = N.sn a)) = l.any (λ p => eB a p.1) :=
 d.ind rfl λ {v es b y l} vr d ih => by rw [Ip, Ip, ih]; exact congrArg (· || _) (Vc hi a b)
theorem wB (a : Nat) (x : V) : ∀ l : List (Nat × V), l.any (λ p => eB a p.1) = false -> put a x l = l ++ [(a, x)]
 | [], _ => rfl
 | (b, y) :: l, h => by
   simp only [Ip, lM] at h
   unfold put
   rw [h.1, cond_false, wB a x l h.2]; rfl
theorem KR.snoc {a : Nat} {v : Value} {x : V} (hv : VR N prog w ix v x) {es l} (d : KR N prog w ix es l) : KR N prog w ix (es ++ [(N.sn a, v)]) (l ++ [(a, x)]) :=
 d.ind (.cons hv .nil) λ vr d ih => .cons vr ih
theorem KR.over (hi : ∀ a b, N.sn a = N.sn b -> a = b) {a : Nat} {v : Value} {x : V} (hv : VR N prog w ix v x) {es l} (d : KR N prog w ix es l) : (es.map (·.1)).Nodup -> l.any (λ p => eB a p.1) = true ->
   KR N prog w ix (es.map λ kv => if kv.1 = N.sn a then (kv.1, v) else kv) (put a x l) := by
 refine d.ind (λ _ q => nomatch q) λ {u es b y l} vr d ih nd q => ?_
 have nd := eO.mp nd
 unfold put
 rw [IS]
 by_cases e : a = b
 · subst e
   rw [lq, if_pos rfl, map_store_of_not_mem es _ v nd.1]
   exact .cons hv d
 · rw [Ip, show eB a (b, y).1 = false from Yj e] at q
   rw [Yj e, if_neg (λ q => e (hi _ _ q).symm)]
   exact .cons vr (ih nd.2 q)
theorem KR.nodup_put (hi : ∀ a b, N.sn a = N.sn b -> a = b) {a : Nat} {v : Value} {x : V} (hv : VR N prog w ix v x) {es l} (h : KR N prog w ix es l) (nd : (es.map (·.1)).Nodup) : KR N prog w ix (stored es (N.sn a) v) (put a x l) := by
 unfold stored
 rw [KR.any hi h]
 by_cases q : l.any (λ p => eB a p.1) = true
 · rw [if_pos q]
   exact KR.over hi hv h nd q
 · rw [if_neg q, wB a x l (Bool.eq_false_iff.mpr q)]
   exact KR.snoc hv h
structure aR (N : Nm) (prog : Program) (w : World) (Ok : Frm -> Prop) : Prop where
 get : ∀ {A : Around} {E : Value -> Shared -> Prop} {fr : Frm} {ix : Ix} {loc : List (Option V)} {U : Mu} {s : Shared} {x' : Value} {n : Int} {k : Nat} {f : Int -> Int} {u : Nat} {i : Int} {t : Tok} {value slice : Expr} {Q : Value -> Shared -> Prop},
   jX A 2 -> Ok fr -> FS N prog w fr ix loc U s -> VR N prog w ix x' (.row true n k) -> qj U k = some (.row true n f u) -> jF U true n k -> 0 <= i -> i < n -> zf slice = true ->
   (∀ jx t s', ix.Le jx -> FS N prog w fr jx loc U s' -> Q (.int (f i) t) s') -> wpAny (model prog w) A (subscriptTail value slice x' (.int i t)) Q E s
 set : ∀ {A : Around} {E : Value -> Shared -> Prop} {fr : Frm} {ix : Ix} {loc : List (Option V)} {U : Mu} {s : Shared} {x' : Value} {n : Int} {k : Nat} {f : Int -> Int} {u : Nat} {i j : Int} {t t' : Tok} {Q : Unit -> Shared -> Prop},
   jX A 2 -> Ok fr -> FS N prog w fr ix loc U s -> VR N prog w ix x' (.row true n k) -> qj U k = some (.row true n f u) -> jF U true n k -> 0 <= i -> i < n -> u < 1000000 ->
   (∀ jx s', ix.Le jx -> FS N prog w fr jx loc (qy U k (.row true n (λ q => if q = i then j else f q) (u + 1))) s' -> Q () s') -> wpAny (model prog w) A (setItem x' (.int i t) (.int j t')) Q E s
theorem DT {i : Int} {n : Nat} (h0 : 0 <= i) (h : i.toNat < n) : seqIndex? i n = some i.toNat := by
 unfold seqIndex?
 simp only [if_neg (show ¬ i < 0 by omega)]
 rw [if_pos (by simp only [ED, decide_eq_true_eq]; omega)]
section
variable {value slice : Expr} {Q : Value -> Shared -> Prop}
theorem Zr (hp : zf slice = true) {a : Addr} {vs : List Value} {i : Int} {t : Tok} {v : Value} (hl : s.heap.IsList a vs.toArray) (h0 : 0 <= i) (h1 : i < 1000000000) (e : vs[i.toNat]? = some v) (q : Q v s) : wpAny (model prog w) A (subscriptTail value slice (.ref a) (.int i t)) Q E s :=
 qa <| tail_any hl.typeIs slot_list_getitem.lookup (wpAny_getItem_list hl h0 (ET h1 (by decide)) (by simpa using e) q) (za hp _ _)
theorem Ug (hp : zf slice = true) {a : Addr} {vs : List Value} {i : Int} {t : Tok} {v : Value} (hl : s.heap.IsTuple a vs.toArray) (h0 : 0 <= i) (h1 : i < 1000000000) (e : vs[i.toNat]? = some v) (q : Q v s) : wpAny (model prog w) A (subscriptTail value slice (.ref a) (.int i t)) Q E s :=
 qa <| tail_any hl.typeIs slot_tuple_getitem.lookup (getItem_tuple hl (by omega) (by omega) (DT h0 (by simpa using (Ef.mp e).1)) (by simpa using e) q) (za hp _ _)
theorem kk (hp : zf slice = true) {a : Addr} {o : Obj} {kvs : List (Str × Value)} {n : Str} {t : Tok} {v : Value} (ho : s.heap.get? a = some o) (hd : o.IsDictOf (El prog w) kvs) (e : valueAt kvs n = some v) (q : Q v { s with toks := s.toks + 1 }) : wpAny (model prog w) A (subscriptTail value slice (.ref a) (.str n t)) Q E s :=
 have hD : s.heap.DictOf (El prog w) a kvs := EC.mpr ⟨_, ho, hd⟩
 qa <| tail_any hD.mapOf.typeIs slot_dict_getitem.lookup (wpAny_getItem_of (strKind_is prog w _ _) hD.mapOf e q) (za hp _ _)
end
theorem VRs.nthI {vs l} (b : VRs N prog w ix vs l) {i : Int} {k : V -> Prop} {C : Prop} (h : (0 <= i /\ i < 1000000) /\ ∃ v, qj l i.toNat = some v /\ k v) (f : ∀ v v', 0 <= i -> i < 1000000000 -> vs[i.toNat]? = some v' -> VR N prog w ix v' v -> k v -> C) : C :=
 h.2.elim λ v hv => (b.at ((qE l _).symm.trans hv.1)).elim λ v' e => f v v' h.1.1 (ET h.1.2 (by decide)) e.1 e.2 hv.2
theorem IntsAre.atI {vs : List Value} {is : List Int} {f : Int -> Int} (b : IntsAre vs is) (ff : ∀ i : Nat, ∀ h : i < is.length, is[i] = f (i : Int)) {i : Int} (h0 : 0 <= i) (h1 : i < is.length) : ∃ t, vs[i.toNat]? = some (.int (f i) t) := by
 have hi : i.toNat < is.length := (Int.toNat_lt h0).mpr h1
 obtain ⟨t', e⟩ := b.get i.toNat is[i.toNat] (by simp [hi])
 rw [ff i.toNat hi, EW h0] at e
 exact ⟨t', e⟩
theorem WR {Ok : Frm -> Prop} (H : Qf N prog w T K) (C : aR N prog w Ok) (ok : Ok fr) (R : jX A 2) (Y : FS N prog w fr ix loc U s) {x' y' : Value} {x y : V} (hx : VR N prog w ix x' x) (hy : VR N prog w ix y' y)
   {k : V -> Prop} {value slice : Expr} (hp : zf slice = true) {Q : Value -> Shared -> Prop} (h : DA U x y k)
   (q : Post N prog w fr ix loc (λ v U' => k v /\ U' = U) Q) : wpAny (model prog w) A (subscriptTail value slice x' y') Q E s := by
 have q1 : ∀ {v' v}, k v -> VR N prog w ix v' v -> Q v' s := λ hk vr => q ix _ _ _ _ (.refl _) ⟨hk, rfl⟩ vr Y
 have q2 : ∀ {v' v tk}, k v -> VR N prog w ix v' v -> Q v' { s with toks := tk } := λ hk vr => q ix _ _ _ _ (.refl _) ⟨hk, rfl⟩ vr (Y.tok _)
 cases x with
 | h d =>
   refine hx.xH λ a had => Y.op λ m pl mt P => ?_
   cases y with
   | int i => exact hy.xI λ t => P.hL had h λ l o vs h1 h3 t b h => b.nthI h λ v v' h0 h1 e vr hk => Zr hp ⟨_, h3, t.1, t.2⟩ h0 h1 e (q1 hk vr)
   | str n => exact hy.xS λ t => P.hD had h λ l o kvs h1 h3 hd kr hz h => h.elim λ v hv => (kr.get H.sn hv.1).elim λ v' e => kk hp h3 hd e.1 (q2 hv.2 e.2)
   | _ => exact False.elim h
 | row c n d =>
   refine hy.qI h λ i t h => dC h λ c' n' f u hmu h => ?_
   obtain ⟨⟨rfl, rfl, h0, h1, hbig, hcel⟩, hk⟩ := h
   cases c with
   | true => exact C.get R ok Y hx hmu hcel h0 h1 hp λ jx t s' z Y' => q jx _ _ _ _ z ⟨hk, rfl⟩ .int Y'
   | false => exact hx.xR λ a had => Y.op λ m pl mt P => (P.hd hmu had).elim λ o e => e.2.2.xR λ vs is t b ff hn => (IntsAre.atI b ff h0 (hn ▸ h1)).elim λ t' e' => Zr hp ⟨_, e.2.1, t.1, t.2⟩ h0 hbig e' (q1 hk .int)
 | lst l => exact hx.xL λ a o vs hf t b => hy.qI h λ i _ h => Y.op λ m pl mt P => b.nthI h λ v v' h0 h1 e vr hk => Zr hp (FS.lstAt P hf t) h0 h1 e (q1 hk vr)
 | tup l => exact hx.xT λ a o vs hf t b => hy.qI h λ i _ h => Y.op λ m pl mt P => b.nthI h λ v v' h0 h1 e vr hk => Ug hp (FS.tupAt P hf t) h0 h1 e (q1 hk vr)
 | dic l => exact hx.xD λ a o kvs hf hd kr => hy.qS h λ n _ h => Y.op λ m pl mt P => h.elim λ v hv => (kr.get H.sn hv.1).elim λ v' e => kk hp (P.fz (.inl hf)) hd e.1 (q2 hv.2 e.2)
 | byt b =>
   refine hx.xY λ t => hy.qI h λ i u h => ?_
   refine qa <| tail_any (T := "bytes") (typeIs_bytes s _ _) FB.slot_bytes_getitem.lookup ?_ (za hp _ _)
   exact getItem_bytes (l := b.toList) (by rw [Iw]; exact CK h.1.2.2 (by decide)) h.1.1 (by rw [Iw]; exact h.1.2.1) (q2 h.2 .int)
 | _ => exact False.elim h
end
section
variable {N : Nm} {prog : Program} {w : World} {A : Around} {E : Value -> Shared -> Prop}
variable {fr : Frm} {ix : Ix} {loc : List (Option V)} {U : Mu} {s : Shared} {T : WE} {K : Frag}
theorem IntsAre.set : ∀ {vs : List Value} {is : List Int}, IntsAre vs is -> ∀ (k : Nat) (j : Int) (t : Tok), IntsAre (vs.set k (.int j t)) (is.set k j)
 | _, _, .nil, _, _, _ => by simp; exact .nil
 | _, _, .cons n u r, 0, j, t => .cons j t r
 | _, _, .cons n u r, k + 1, j, t => .cons n u (IntsAre.set r k j t)
theorem XF {a : Addr} (H : Qf N prog w T K) (Y : FS N prog w fr ix loc U s) {d : Nat} (had : ix.ad[d]? = some a) {y' v' : Value} {y v : V} (hy : VR N prog w ix y' y) (hv : VR N prog w ix v' v)
   {k : Mu -> Prop} {Q : Unit -> Shared -> Prop} (h : WS U d y v k) (q : ∀ U' s', k U' -> FS N prog w fr ix loc U' s' -> Q () s') : wpAny (model prog w) A (setItem (.ref a) y' v') Q E s :=
 Y.op λ m pl mt P => by
 cases y with
 | int i =>
   exact hy.xI λ _ => P.hL had h λ l o vs h1 h3 t b h => qa <| wpAny_setItem_list ⟨_, h3, t.1, t.2⟩ h.1.1 (ET h.1.2.2 (by decide)) (by simp [b.length]; exact h.1.2.1) λ h' hl' hs => hl'.elim λ o' z =>
     q _ _ h.2 (Y.turn (tk := s.toks) P h1 hs z.1 (.list (vs := vs.set i.toNat v') ⟨z.2.1, by simpa using z.2.2⟩ (qZ l _ _ ▸ b.set hv _)))
 | str n =>
   exact hy.xS λ _ => P.hD had h λ l o kvs h1 h3 hd kr hz h => by
     have hD : s.heap.DictOf (El prog w) a kvs := EC.mpr ⟨_, h3, hd⟩
     have nd : (kvs.map (·.1)).Nodup := by obtain ⟨es, ep, _, _, _, _, nd⟩ := hd; exact nd
     exact qa <| wpAny_setItem_pairs (hsz := by rw [kr.length]; exact CK hz (by decide)) (strKind_is prog w _ _) hD λ h' hD' hs => (EC.mp hD').elim λ o' z =>
       q _ _ h.2 (Y.turn (tk := s.toks + 1) P h1 hs z.1 (.dict z.2 (kr.nodup_put H.sn hv nd) (CK (Qr n v l) h.1)))
 | _ => exact False.elim h
theorem GW {is : List Int} {f : Int -> Int} {i j : Int} (h0 : 0 <= i) (ff : ∀ p : Nat, ∀ h : p < is.length, is[p] = f (p : Int)) (p : Nat) (hp : p < (is.set i.toNat j).length) : (is.set i.toNat j)[p] = if (p : Int) = i then j else f p := by
 have hp' : p < is.length := by simpa using hp
 rw [List.getElem_set]
 by_cases e : i.toNat = p
 · subst e
   rw [if_pos rfl, if_pos (EW h0)]
 · rw [if_neg e, if_neg λ q => e (by rw [<- q]; rfl), ff p hp']
theorem Js {Ok : Frm -> Prop} (H : Qf N prog w T K) (C : aR N prog w Ok) (ok : Ok fr) (R : jX A 2) (Y : FS N prog w fr ix loc U s) {x' y' v' : Value} {x y v : V} (hx : VR N prog w ix x' x) (hy : VR N prog w ix y' y) (hv : VR N prog w ix v' v)
   {k : Mu -> Prop} {Q : Unit -> Shared -> Prop} (h : Jt U x y v k)
   (q : ∀ jx U' s', ix.Le jx -> k U' -> FS N prog w fr jx loc U' s' -> Q () s') : wpAny (model prog w) A (setItem x' y' v') Q E s := by
 cases x with
 | h d => exact hx.xH λ a had => XF H Y had hy hv h λ U' s' => q ix U' s' (.refl _)
 | row c n d =>
   refine hy.qI h λ i t h => dC h λ c' n' f u hmu h => ?_
   obtain ⟨⟨rfl, rfl, h0, h1, hu, hbig, hcel⟩, hk⟩ := h
   refine hv.qI hk λ j tj hk => ?_
   cases c with
   | true => exact C.set R ok Y hx hmu hcel h0 h1 hu λ jx s' z Y' => q jx _ _ z hk Y'
   | false =>
     exact hx.xR λ a had => Y.op λ m pl mt P => (P.hd hmu had).elim λ o e => e.2.2.xR λ vs is tt b ff hn => by
       cases hn
       exact qa <| wpAny_setItem_list ⟨_, e.2.1, tt.1, tt.2⟩ h0 (ET hbig (by decide)) (by simp [b.length]; exact h1) λ h' hl' hs => hl'.elim λ o' z =>
         q ix _ _ (.refl _) hk (Y.turn (tk := s.toks) P e.1 hs z.1 (Iu (as := is) ▸ .rowL (vs := vs.set i.toNat (.int j tj)) ⟨z.2.1, by simpa using z.2.2⟩ (IntsAre.set b i.toNat j tj) (GW h0 ff)))
 | _ => exact False.elim h
theorem XD {vs l} (h : VRs N prog w ix vs l) : (∀ v ∈ l, ∃ t, v = .str t) -> ∃ ys : List Str, StrsAre vs ys /\ ∀ a, (∀ a b, N.sn a = N.sn b -> a = b) -> ys.any (· == N.sn a) = l.any (vb a) :=
 h.ind (λ _ => ⟨[], .nil, λ _ _ => rfl⟩) λ {v vs x l} vr d ih h => by
   obtain ⟨t, rfl⟩ := h _ (CZ ..)
   obtain ⟨ys, h1, h2⟩ := ih λ v hv => h v (CY _ hv)
   refine vr.xS λ u => ⟨N.sn t :: ys, .cons _ _ h1, λ a hi => ?_⟩
   rw [Ip, Ip, h2 a hi]
   exact congrArg (· || _) (Vc hi a t)
noncomputable def bU (neg : Bool) : CmpOp := cond neg .NotIn .In
theorem xP (H : Names N T) (Y : FS N prog w fr ix loc U s) {neg : Bool} {x' y' : Value} {x y : V} (hx : VR N prog w ix x' x) (hy : VR N prog w ix y' y) {k : Bool -> Prop} {Q : Value -> Shared -> Prop} (h : bT neg x y k)
   (q : ∀ c, k c -> Q (.bool c) s) : wpAny (model prog w) A (compareOp (bU neg) x' y') Q E s :=
 Y.op λ m pl mt P => by
 cases x with
 | int i =>
   refine hx.xI λ t => hy.qT h λ l a o vs h hf ht b => zL h λ is e h => ?_
   have hi := b.ints e
   have hl := FS.tupAt P hf ht
   have ez : (is.any (· == i)) = decide (i ∈ is) := by
     rw [Bool.eq_iff_iff]; simp
   have z := ez ▸ zo h
   cases neg with
   | false => exact qa <| in_tuple_ints hl hi (q _ (by rw [Bool.false_xor] at z; exact z))
   | true => exact qa <| notin_tuple_ints hl hi (q _ (by rw [Bool.true_xor] at z; exact z))
 | str n =>
   refine hx.xS λ t => hy.qT h λ l a o vs h hf ht b => (XD b h.1).elim λ ys z => ?_
   have hl := FS.tupAt P hf ht
   have hk := (z.2 n H.sn).symm ▸ h.2
   cases neg with
   | false => exact qa <| in_tuple_strs hl z.1 (q _ (by rw [Bool.false_xor] at hk; exact hk))
   | true => exact qa <| notin_tuple_strs hl z.1 (q _ (by rw [Bool.true_xor] at hk; exact hk))
 | _ => exact False.elim h
end
theorem QY {a b : Bool} (h : (a && b) = true) : a = true /\ b = true := EM.mp h
section
variable {a b c d e g : Bool} {C : Prop}
theorem A2 (h : (a && b) = true) (f : a = true -> b = true -> C) : C := f (QY h).1 (QY h).2
theorem A3 (h : (a && b && c) = true) (f : a = true -> b = true -> c = true -> C) : C := A2 h λ h x => A2 h λ y z => f y z x
theorem A4 (h : (a && b && c && d) = true) (f : a = true -> b = true -> c = true -> d = true -> C) : C := A2 h λ h x => A3 h λ u y z => f u y z x
theorem A5 (h : (a && b && c && d && e) = true) (f : a = true -> b = true -> c = true -> d = true -> e = true -> C) : C := A2 h λ h x => A4 h λ t u y z => f t u y z x
theorem A6 (h : (a && b && c && d && e && g) = true) (f : a = true -> b = true -> c = true -> d = true -> e = true -> g = true -> C) : C := A2 h λ h x => A5 h λ s t u y z => f s t u y z x
end
theorem qw {p : Prop} [Decidable p] {F : p -> Bool} (h : (if e : p then F e else false) = true) : ∃ e : p, F e = true := by
 by_cases e : p
 · rw [dif_pos e] at h; exact ⟨e, h⟩
 · rw [dif_neg e] at h; cases h
noncomputable def Rx (x : Expr) (F : BoolOp -> List Expr -> Pos -> Bool) : Bool := if e : x.ctorIdx = 0 then lj (motive_1 := λ _ => Bool) x e F else false
@[elab_as_elim] theorem rE {x : Expr} {F : BoolOp -> List Expr -> Pos -> Bool} {C : Expr -> Prop} (h : Rx x F = true) (f : ∀ o l p, F o l p = true -> C (.BoolOp o l p)) : C x :=
 let ⟨e, h⟩ := qw h
 lj (motive_1 := λ x => ∀ e : x.ctorIdx = 0, lj (motive_1 := λ _ => Bool) x e F = true -> C x) x e (λ o l p _ h => f o l p h) e h
noncomputable def pU (x : Expr) (F : Expr -> Operator -> Expr -> Pos -> Bool) : Bool := if e : x.ctorIdx = 2 then lB (motive_1 := λ _ => Bool) x e F else false
@[elab_as_elim] theorem Rt {x : Expr} {F : Expr -> Operator -> Expr -> Pos -> Bool} {C : Expr -> Prop} (h : pU x F = true) (f : ∀ l o r p, F l o r p = true -> C (.BinOp l o r p)) : C x :=
 let ⟨e, h⟩ := qw h
 lB (motive_1 := λ x => ∀ e : x.ctorIdx = 2, lB (motive_1 := λ _ => Bool) x e F = true -> C x) x e (λ l o r p _ h => f l o r p h) e h
noncomputable def Ru (x : Expr) (F : UnaryOp -> Expr -> Pos -> Bool) : Bool := if e : x.ctorIdx = 3 then IU (motive_1 := λ _ => Bool) x e F else false
@[elab_as_elim] theorem Rs {x : Expr} {F : UnaryOp -> Expr -> Pos -> Bool} {C : Expr -> Prop} (h : Ru x F = true) (f : ∀ o y p, F o y p = true -> C (.UnaryOp o y p)) : C x :=
 let ⟨e, h⟩ := qw h
 IU (motive_1 := λ x => ∀ e : x.ctorIdx = 3, IU (motive_1 := λ _ => Bool) x e F = true -> C x) x e (λ o y p _ h => f o y p h) e h
noncomputable def Ap (x : Expr) (F : Expr -> Expr -> Expr -> Pos -> Bool) : Bool := if e : x.ctorIdx = 5 then lA (motive_1 := λ _ => Bool) x e F else false
@[elab_as_elim] theorem Ao {x : Expr} {F : Expr -> Expr -> Expr -> Pos -> Bool} {C : Expr -> Prop} (h : Ap x F = true) (f : ∀ t l r p, F t l r p = true -> C (.IfExp t l r p)) : C x :=
 let ⟨e, h⟩ := qw h
 lA (motive_1 := λ x => ∀ e : x.ctorIdx = 5, lA (motive_1 := λ _ => Bool) x e F = true -> C x) x e (λ t l r p _ h => f t l r p h) e h
noncomputable def UE (x : Expr) (F : List (Option Expr) -> List Expr -> Pos -> Bool) : Bool := if e : x.ctorIdx = 6 then lH (motive_1 := λ _ => Bool) x e F else false
@[elab_as_elim] theorem dR {x : Expr} {F : List (Option Expr) -> List Expr -> Pos -> Bool} {C : Expr -> Prop} (h : UE x F = true) (f : ∀ k l p, F k l p = true -> C (.Dict k l p)) : C x :=
 let ⟨e, h⟩ := qw h
 lH (motive_1 := λ x => ∀ e : x.ctorIdx = 6, lH (motive_1 := λ _ => Bool) x e F = true -> C x) x e (λ k l p _ h => f k l p h) e h
noncomputable def Rw (x : Expr) (F : Expr -> List Comprehension -> Scope -> Pos -> Bool) : Bool := if e : x.ctorIdx = 8 then IQ (motive_1 := λ _ => Bool) x e F else false
@[elab_as_elim] theorem An {x : Expr} {F : Expr -> List Comprehension -> Scope -> Pos -> Bool} {C : Expr -> Prop} (h : Rw x F = true) (f : ∀ t l c p, F t l c p = true -> C (.ListComp t l c p)) : C x :=
 let ⟨e, h⟩ := qw h
 IQ (motive_1 := λ x => ∀ e : x.ctorIdx = 8, IQ (motive_1 := λ _ => Bool) x e F = true -> C x) x e (λ t l c p _ h => f t l c p h) e h
noncomputable def Bm (x : Expr) (F : Expr -> List CmpOp -> List Expr -> Pos -> Bool) : Bool := if e : x.ctorIdx = 15 then IV (motive_1 := λ _ => Bool) x e F else false
@[elab_as_elim] theorem Ft {x : Expr} {F : Expr -> List CmpOp -> List Expr -> Pos -> Bool} {C : Expr -> Prop} (h : Bm x F = true) (f : ∀ l o r p, F l o r p = true -> C (.Compare l o r p)) : C x :=
 let ⟨e, h⟩ := qw h
 IV (motive_1 := λ x => ∀ e : x.ctorIdx = 15, IV (motive_1 := λ _ => Bool) x e F = true -> C x) x e (λ l o r p _ h => f l o r p h) e h
noncomputable def ya (x : Expr) (F : Expr -> List Expr -> List Keyword -> Pos -> Bool) : Bool := if e : x.ctorIdx = 16 then lI (motive_1 := λ _ => Bool) x e F else false
@[elab_as_elim] theorem yz {x : Expr} {F : Expr -> List Expr -> List Keyword -> Pos -> Bool} {C : Expr -> Prop} (h : ya x F = true) (f : ∀ g l k p, F g l k p = true -> C (.Call g l k p)) : C x :=
 let ⟨e, h⟩ := qw h
 lI (motive_1 := λ x => ∀ e : x.ctorIdx = 16, lI (motive_1 := λ _ => Bool) x e F = true -> C x) x e (λ g l k p _ h => f g l k p h) e h
noncomputable def vq (x : Expr) (F : Const -> Nat -> Pos -> Bool) : Bool := if e : x.ctorIdx = 19 then IR (motive_1 := λ _ => Bool) x e F else false
@[elab_as_elim] theorem vo {x : Expr} {F : Const -> Nat -> Pos -> Bool} {C : Expr -> Prop} (h : vq x F = true) (f : ∀ c k p, F c k p = true -> C (.Constant c k p)) : C x :=
 let ⟨e, h⟩ := qw h
 IR (motive_1 := λ x => ∀ e : x.ctorIdx = 19, IR (motive_1 := λ _ => Bool) x e F = true -> C x) x e (λ c k p _ h => f c k p h) e h
noncomputable def dT (x : Expr) (F : Expr -> Str -> Pos -> Bool) : Bool := if e : x.ctorIdx = 20 then IH (motive_1 := λ _ => Bool) x e F else false
@[elab_as_elim] theorem dS {x : Expr} {F : Expr -> Str -> Pos -> Bool} {C : Expr -> Prop} (h : dT x F = true) (f : ∀ y n p, F y n p = true -> C (.Attribute y n p)) : C x :=
 let ⟨e, h⟩ := qw h
 IH (motive_1 := λ x => ∀ e : x.ctorIdx = 20, IH (motive_1 := λ _ => Bool) x e F = true -> C x) x e (λ y n p _ h => f y n p h) e h
noncomputable def vp (x : Expr) (F : Expr -> Expr -> Pos -> Bool) : Bool := if e : x.ctorIdx = 21 then IG (motive_1 := λ _ => Bool) x e F else false
@[elab_as_elim] theorem UB {x : Expr} {F : Expr -> Expr -> Pos -> Bool} {C : Expr -> Prop} (h : vp x F = true) (f : ∀ y z p, F y z p = true -> C (.Subscript y z p)) : C x :=
 let ⟨e, h⟩ := qw h
 IG (motive_1 := λ x => ∀ e : x.ctorIdx = 21, IG (motive_1 := λ _ => Bool) x e F = true -> C x) x e (λ y z p _ h => f y z p h) e h
noncomputable def YG (x : Expr) (F : Str -> Pos -> Bool) : Bool := if e : x.ctorIdx = 23 then lF (motive_1 := λ _ => Bool) x e F else false
@[elab_as_elim] theorem ku {x : Expr} {F : Str -> Pos -> Bool} {C : Expr -> Prop} (h : YG x F = true) (f : ∀ n p, F n p = true -> C (.Name n p)) : C x :=
 let ⟨e, h⟩ := qw h
 lF (motive_1 := λ x => ∀ e : x.ctorIdx = 23, lF (motive_1 := λ _ => Bool) x e F = true -> C x) x e (λ n p _ h => f n p h) e h
noncomputable def Xa (x : Expr) (F : List Expr -> Pos -> Bool) : Bool := if e : x.ctorIdx = 24 then lG (motive_1 := λ _ => Bool) x e F else false
@[elab_as_elim] theorem vn {x : Expr} {F : List Expr -> Pos -> Bool} {C : Expr -> Prop} (h : Xa x F = true) (f : ∀ l p, F l p = true -> C (.List l p)) : C x :=
 let ⟨e, h⟩ := qw h
 lG (motive_1 := λ x => ∀ e : x.ctorIdx = 24, lG (motive_1 := λ _ => Bool) x e F = true -> C x) x e (λ l p _ h => f l p h) e h
noncomputable def YF (x : Expr) (F : List Expr -> Nat -> Pos -> Bool) : Bool := if e : x.ctorIdx = 25 then lw (motive_1 := λ _ => Bool) x e F else false
@[elab_as_elim] theorem Kx {x : Expr} {F : List Expr -> Nat -> Pos -> Bool} {C : Expr -> Prop} (h : YF x F = true) (f : ∀ l k p, F l k p = true -> C (.Tuple l k p)) : C x :=
 let ⟨e, h⟩ := qw h
 lw (motive_1 := λ x => ∀ e : x.ctorIdx = 25, lw (motive_1 := λ _ => Bool) x e F = true -> C x) x e (λ l k p _ h => f l k p h) e h
noncomputable def Rv (x : Expr) (F : Option Expr -> Option Expr -> Option Expr -> Pos -> Bool) : Bool := if e : x.ctorIdx = 26 then lz (motive_1 := λ _ => Bool) x e F else false
@[elab_as_elim] theorem Am {x : Expr} {F : Option Expr -> Option Expr -> Option Expr -> Pos -> Bool} {C : Expr -> Prop} (h : Rv x F = true) (f : ∀ a b c p, F a b c p = true -> C (.Slice a b c p)) : C x :=
 let ⟨e, h⟩ := qw h
 lz (motive_1 := λ x => ∀ e : x.ctorIdx = 26, lz (motive_1 := λ _ => Bool) x e F = true -> C x) x e (λ a b c p _ h => f a b c p h) e h
noncomputable def Fk (x : Const) (F : Int -> Bool) : Bool := if e : x.ctorIdx = 2 then PySem.Const.int.elim (motive := λ _ => Bool) x e F else false
@[elab_as_elim] theorem oB {x : Const} {F : Int -> Bool} {C : Const -> Prop} (h : Fk x F = true) (f : ∀ i, F i = true -> C (.int i)) : C x :=
 let ⟨e, h⟩ := qw h
 PySem.Const.int.elim (motive := λ x => ∀ e : x.ctorIdx = 2, PySem.Const.int.elim (motive := λ _ => Bool) x e F = true -> C x) x e (λ i _ h => f i h) e h
noncomputable def Fj (x : Const) (F : Str -> Bool) : Bool := if e : x.ctorIdx = 5 then PySem.Const.str.elim (motive := λ _ => Bool) x e F else false
@[elab_as_elim] theorem oA {x : Const} {F : Str -> Bool} {C : Const -> Prop} (h : Fj x F = true) (f : ∀ i, F i = true -> C (.str i)) : C x :=
 let ⟨e, h⟩ := qw h
 PySem.Const.str.elim (motive := λ x => ∀ e : x.ctorIdx = 5, PySem.Const.str.elim (motive := λ _ => Bool) x e F = true -> C x) x e (λ i _ h => f i h) e h
noncomputable def pq (x : Const) (F : Bool -> Bool) : Bool := if e : x.ctorIdx = 1 then PySem.Const.bool.elim (motive := λ _ => Bool) x e F else false
@[elab_as_elim] theorem oC {x : Const} {F : Bool -> Bool} {C : Const -> Prop} (h : pq x F = true) (f : ∀ i, F i = true -> C (.bool i)) : C x :=
 let ⟨e, h⟩ := qw h
 PySem.Const.bool.elim (motive := λ x => ∀ e : x.ctorIdx = 1, PySem.Const.bool.elim (motive := λ _ => Bool) x e F = true -> C x) x e (λ i _ h => f i h) e h
noncomputable def po (x : Const) : Bool := eB x.ctorIdx 0
@[elab_as_elim] theorem rO {x : Const} {C : Const -> Prop} (h : po x = true) (f : C .none) : C x := PySem.Const.none.elim (motive := λ x => C x) x (em h) f
section
variable {α : Type}
noncomputable def l0 (l : List α) : Bool := match l with | [] => true | _ :: _ => false
noncomputable def l1 (l : List α) (F : α -> Bool) : Bool := match l with | [] => false | a :: r => l0 r && F a
noncomputable def lc (l : List α) (F : α -> List α -> Bool) : Bool := match l with | [] => false | a :: r => F a r
noncomputable def o1 (o : Option α) (F : α -> Bool) : Bool := match o with | none => false | some a => F a
noncomputable def o0 (o : Option α) : Bool := match o with | none => true | some _ => false
variable {l : List α} {o : Option α} {C : List α -> Prop} {D : Option α -> Prop}
@[elab_as_elim] theorem Qy (h : l0 l = true) (f : C []) : C l := match l, h with | [], _ => f
@[elab_as_elim] theorem KM {F : α -> List α -> Bool} (h : lc l F = true) (f : ∀ a r, F a r = true -> C (a :: r)) : C l := match l, h with | a :: r, h => f a r h
@[elab_as_elim] theorem Xw {F : α -> Bool} (h : l1 l F = true) (f : ∀ a, F a = true -> C [a]) : C l := match l, h with | a :: r, h => let ⟨h1, h2⟩ := QY h; Qy (C := λ r => C (a :: r)) h1 (f a h2)
@[elab_as_elim] theorem rN {F : α -> Bool} (h : o1 o F = true) (f : ∀ a, F a = true -> D (some a)) : D o := match o, h with | some a, h => f a h
@[elab_as_elim] theorem ru (h : o0 o = true) (f : D none) : D o := match o, h with | none, _ => f
end
noncomputable def wR : BoolOp -> Bool | .And => true | .Or => false
theorem wP {o : BoolOp} (h : wR o = true) : o = .And := by cases o <;> first | rfl | cases h
theorem wQ {o : BoolOp} (h : (!wR o) = true) : o = .Or := by cases o <;> first | rfl | cases h
noncomputable def rz (o : UnaryOp) (n : Nat) : Bool := eB o.ctorIdx n
theorem we {o : UnaryOp} (h : rz o 1 = true) : o = .Not := by cases o <;> first | rfl | cases h
theorem Gi {o : UnaryOp} (h : rz o 3 = true) : o = .USub := by cases o <;> first | rfl | cases h
theorem Aq {a b : Nat} (h : eB a b = true) : a = b := em h
noncomputable def isG (c : Cx) (x : Str) : Bool := (c.cs.names.lookup x == some .globalImplicit) && !(x == ("__debug__" : Str))
noncomputable def qk (e : Expr) : Bool := !Nat.beq e.ctorIdx 22
noncomputable def zQ (e : Expr) : Bool := !Nat.beq e.ctorIdx 16
noncomputable def zD : Bi -> Str
 | .len => "len" | .min => "min" | .max => "max" | .abs => "abs" | .int => "int" | .sum => "sum" | .bytes => "bytes" | .bytearray => "bytearray" | .list => "list"
 | .isInt | .isBool | .isTup => "isinstance" | .get => "get" | .bitlen => "bit_length" | .append => "append" | .extend => "extend"
noncomputable def Ri (o : Op) (p : Operator) : Bool := decide (p = VM o)
theorem uC {o p} (h : Ri o p = true) : p = VM o := of_decide_eq_true h
noncomputable def rG (o : Cm) (p : CmpOp) : Bool := decide (p = Xb o)
theorem vt {o p} (h : rG o p = true) : p = Xb o := of_decide_eq_true h
noncomputable def Aj (neg : Bool) (p : CmpOp) : Bool := decide (p = bU neg)
theorem Fm {o p} (h : Aj o p = true) : p = bU o := of_decide_eq_true h
noncomputable def ja (e : Expr) : Bool := !Nat.beq e.ctorIdx 7
theorem zF {op : CmpOp} {r : Expr} (h : ja r = true) : behindInMarks op r = false := by
 cases r <;> first | rfl | cases h
noncomputable def Zs : Bi -> String
 | .isInt => "int" | .isBool => "bool" | _ => "tuple"
noncomputable def JT : Bi -> Bool
 | .isInt | .isBool | .isTup => true
 | _ => false
noncomputable def yN : Bi -> Bool
 | .len | .min | .max | .abs | .int | .sum | .bytes | .bytearray | .list => true
 | _ => false
noncomputable def Kl : List Nat -> Bool
 | [] => true
 | a :: r => !(r.any (eB a)) && Kl r
noncomputable def ZD (N : Nm) : List Nat -> List (Option Expr) -> Bool
 | [], l => l0 l
 | k :: ks, l => lc l λ o r => o1 o λ x => vq x λ c _ _ => Fj c λ y => (N.sn k == y) && ZD N ks r
noncomputable def JK (c : Cx) : List Nat -> List Expr -> Bool
 | [], l => l0 l
 | x :: xs, l => lc l λ e r => YG e λ y _ => iw x c.n && eB (c.kd x) 0 && c.nl x == y && JK c xs r
noncomputable def zr (c : Cx) (xs : List Nat) (one : Bool) (t : Expr) : Bool := cond one (JK c xs [t]) (YF t λ elts _ _ => JK c xs elts && eB xs.length elts.length)
noncomputable def QN (scope : Scope) (c : Cx) : Scope :=
 { scope with names := scope.names.map λ (n, k) => if (k == .free && c.cs.kind == .function && c.cs.names.lookup n == some .cell) then (n, .cell) else (n, k) }
noncomputable def Cx.comp (c : Cx) (scope : Scope) : Cx := { cs := QN scope c, nl := c.nl, n := c.n }
noncomputable def ki (c : Cx) (scope : Scope) (x : Str × NameKind) : Bool :=
 (x.2 == .local && scope.names.lookup x.1 == some .local) || (x.2 == .free && c.cs.names.lookup x.1 == some .cell && (eQ c.n).any λ i => c.nl i == x.1) || x.2 == .globalImplicit
noncomputable def Jv (c : Cx) (scope : Scope) (xs : List Nat) : Bool :=
 (scope.kind == .function) && scope.names.all (ki c scope) &&
 (eQ c.n).all (λ i => !(eB ((c.comp scope).kd i) 0) || xs.any (eB i)) && (c.cs.kind == .function)
noncomputable def rF (e : E) (F : Int -> Bool) : Bool := if h : e.ctorIdx = 0 then E.int.elim (motive := λ _ => Bool) e h F else false
theorem rP {e : E} {F : Int -> Bool} (h : rF e F = true) : ∃ i, e = .int i /\ F i = true :=
 let ⟨k, h⟩ := qw h
 E.int.elim (motive := λ x => ∀ e : x.ctorIdx = 0, E.int.elim (motive := λ _ => Bool) x e F = true -> ∃ i, x = .int i /\ F i = true) e k (λ i _ h => ⟨i, rfl, h⟩) k h
noncomputable def JU (e : E) : Bool := rF e λ i => i == 1
noncomputable def ve (e : E) : Bool := rF e λ i => i == 0
noncomputable def Kv (e : E) : Bool := rF e λ i => i == 1 || i == -1
theorem km {e : E} (h : JU e = true) : e = .int 1 := by obtain ⟨i, rfl, h⟩ := rP h; rw [eq_of_beq h]
theorem VW {e : E} (h : ve e = true) : e = .int 0 := by obtain ⟨i, rfl, h⟩ := rP h; rw [eq_of_beq h]
theorem VV {e : E} (h : Kv e = true) : e = .int 1 \/ e = .int (-1) := by
 obtain ⟨i, rfl, h⟩ := rP h
 rcases iY.mp h with h | h
 · exact .inl (by rw [eq_of_beq h])
 · exact .inr (by rw [eq_of_beq h])
mutual
noncomputable def mE (N : Nm) (c : Cx) (e : E) (x : Expr) : Bool := match e with
 | .int i => vq x (λ k _ _ => Fk k λ j => i == j) || Ru x λ o y _ => rz o 3 && vq y λ k _ _ => Fk k λ j => i == -j
 | .none => vq x λ k _ _ => po k
 | .bool b => vq x λ k _ _ => pq k λ d => b == d
 | .str n => vq x λ k _ _ => Fj k λ y => N.sn n == y
 | .loc i => YG x λ y _ => iw i c.n && iw (c.kd i) 2 && c.nl i == y
 | .glob g => YG x λ y _ => N.gn g == y && isG c y
 | .bin o a b => pU x λ l p r _ => Ri o p && mE N c a l && mE N c b r
 | .cmp o a b => Bm x λ l ps rs _ => l1 ps λ p => l1 rs λ r => rG o p && ja r && mE N c a l && mE N c b r
 | .cmp2 o p a b d => Bm x λ l ps rs _ => lc ps λ p1 ps => l1 ps λ p2 => lc rs λ r1 rs => l1 rs λ r2 => rG o p1 && rG p p2 && ja r2 && mE N c a l && mE N c b r1 && mE N c d r2
 | .inn neg a b => Bm x λ l ps rs _ => l1 ps λ p => l1 rs λ r => Aj neg p && ja r && mE N c a l && mE N c b r
 | .and a b => Rx x λ o l pos => wR o && lc l λ l rs => lc rs λ r rest => mE N c a l && mE N c b (match rest with | [] => r | _ :: _ => .BoolOp .And (r :: rest) pos)
 | .or a b => Rx x λ o l pos => !wR o && lc l λ l rs => lc rs λ r rest => mE N c a l && mE N c b (match rest with | [] => r | _ :: _ => .BoolOp .Or (r :: rest) pos)
 | .not a => Ru x λ o y _ => rz o 1 && mE N c a y
 | .ite t a b => Ap x λ y l r _ => mE N c t y && mE N c a l && mE N c b r
 | .attr e a => dT x λ v n _ => zQ v && N.an a == n && mE N c e v
 | .sub e i => vp x λ v y _ => zf y && mE N c e v && mE N c i y
 | .slTo e j => vp x λ v y _ => Rv y λ a b d _ => o0 a && o0 d && o1 b λ u => mE N c e v && mE N c j u
 | .slFrom e j => vp x λ v y _ => Rv y λ a b d _ => o0 b && o0 d && o1 a λ u => mE N c e v && mE N c j u
 | .call f args => ya x λ g as ks _ => l0 ks && YG g λ y _ => N.isF f && N.fn f == y && isG c y && yk N c args as && eY as.length 20
 | .cmeth k m args => ya x λ g as ks pos => l0 ks && dT g λ g n ap => YG g λ y _ => N.cn k == y && isG c y && N.an m == n && yk N c args as && eY as.length 20 && (ap.endLine == pos.line)
 | .meth o m args => ya x λ g as ks pos => l0 ks && dT g λ v n ap => zQ v && N.an m == n && mE N c o v && yk N c args as && eY as.length 20 && (ap.endLine == pos.line)
 | .new k args => ya x λ g as ks _ => l0 ks && YG g λ y _ => N.cn k == y && isG c y && yk N c args as && eY as.length 20
 | .bi b args => ya x λ g as ks _ => l0 ks && YG g λ y _ => zD b == y && isG c y && cond (yN b) (yk N c args as) (lc as λ v rs => l1 rs λ t => YG t λ t _ => JT b && (Str.ofString (Zs b) == t) && isG c t && qk v && yk N c args [v])
 | .bm b o args => ya x λ g as ks pos => l0 ks && dT g λ v n ap => zQ v && zD b == n && mE N c o v && yk N c args as && eY as.length 20 && (ap.endLine == pos.line)
 | .lenOwn i => ya x λ g as ks _ => l0 ks && YG g λ y _ => l1 as λ a => YG a λ z _ => zD .len == y && isG c y && eB (c.kd i) 0 && c.nl i == z
 | .tup es => YF x λ xs _ _ => yk N c es xs && eY xs.length 100
 | .lst es => Xa x λ xs _ => yk N c es xs && eY xs.length 100
 | .lstH es => Xa x λ xs _ => yk N c es xs && eY xs.length 100
 | .rowH es => Xa x λ xs _ => yk N c es xs && eY xs.length 100
 | .dic ks es => UE x λ keys xs _ => ZD N ks keys && Kl ks && eB keys.length xs.length && eY keys.length 15 && iw 0 keys.length && yk N c es xs
 | .dicH ks es => UE x λ keys xs _ => ZD N ks keys && Kl ks && eB keys.length xs.length && eY keys.length 15 && iw 0 keys.length && yk N c es xs
 | .compR i lo hi st e => Rw x λ elt gs scope _ => l1 gs λ g => l0 g.ifs && decide (g.is_async = 0) && ya g.iter λ f as ks _ => l0 ks && YG f λ y _ => (("range" : Str) == y) && isG c y && Jv c scope [i] && zr (c.comp scope) [i] true g.target && mE N (c.comp scope) e elt &&
     lc as λ h rs => cond (l0 rs) (ve lo && JU st && qk h && mE N c hi h) (lc rs λ h2 rs => cond (l0 rs) (JU st && qk h && qk h2 && mE N c lo h && mE N c hi h2)
       (l1 rs λ s => Kv st && qk h && qk h2 && qk s && mE N c lo h && mE N c hi h2 && mE N c st s))
 | .compL is src e => Rw x λ elt gs scope _ => l1 gs λ g => l0 g.ifs && decide (g.is_async = 0) && ja g.iter && Jv c scope is && zr (c.comp scope) is false g.target && mE N (c.comp scope) e elt && mE N c src g.iter
 | _ => false
termination_by structural e
noncomputable def yk (N : Nm) (c : Cx) (e : E) (xs : List Expr) : Bool := match e with
 | .nil => l0 xs
 | .cons e es => lc xs λ x r => qk x && mE N c e x && yk N c es r
 | _ => false
termination_by structural e
end
structure rm (mg mb : Str -> Option Value) (h : Heap) : Prop where
 g : h.Ns mainGlobals mg
 b : h.Ns builtinsNs mb
 nolimit : h.NoLimit
 builtins : ∀ x : Str, x ≠ "__name__" -> mb x = bootBuiltins x
structure Wd where
 N : Nm
 prog : Program
 w : World
 T : WE
 K : Frag
 mg : Str -> Option Value
 mb : Str -> Option Value
noncomputable abbrev Wd.Ok (W : Wd) (fr : Frm) : Prop := fr.Ok /\ W.K.In fr.h₀ /\ rm W.mg W.mb fr.h₀ /\ ∃ o, fr.h₀.get? sysModules = some o
structure Ba (prog : Program) (w : World) : Prop where
 new : ∀ {A : Around} {E : Value -> Shared -> Prop} {s : Shared} {Q : Value -> Shared -> Prop}, (∀ h', (∀ c o, s.heap.get? c = some o -> h'.get? c = some o) -> h'.get? s.heap.objs.size = some (yi #[]) -> Q (.ref s.heap.objs.size) { s with heap := h' }) -> wpAny (model prog w) A (call (.type "bytearray") []) Q E s
 len : ∀ {A : Around} {E : Value -> Shared -> Prop} {s : Shared} {Q : Value -> Shared -> Prop} {a : Addr} {b : Array UInt8}, s.heap.get? a = some (yi b) -> b.size <= 1000000 -> (∀ t tk, Q (.int b.size t) { s with toks := tk }) -> wpAny (model prog w) A (call (.builtin "len") [.ref a]) Q E s
 bytes : ∀ {A : Around} {E : Value -> Shared -> Prop} {s : Shared} {Q : Value -> Shared -> Prop} {a : Addr} {b : Array UInt8}, A.handled = none -> s.heap.get? a = some (yi b) -> b.size <= 1000000 ->
   (∀ h' t tk, (∀ c o, s.heap.get? c = some o -> h'.get? c = some o) -> Q (.bytes b t) { s with heap := h', toks := tk }) -> wpAny (model prog w) A (call (.type "bytes") [.ref a]) Q E s
 app : ∀ {A : Around} {E : Value -> Shared -> Prop} {s : Shared} {Q : Value -> Shared -> Prop} {a : Addr} {b : Array UInt8} {i : Int} {t : Tok}, A.handled = none -> s.heap.get? a = some (yi b) -> b.size < 1000000 -> 0 <= i -> i < 256 ->
   (∀ h' tk c, c.size = b.size + 1 -> Heap.SameBut a s.heap h' -> h'.get? a = some (yi c) -> Q .none { s with heap := h', toks := tk }) -> wpAny (model prog w) A (call (.builtin "bytearray.append") [.ref a, .int i t]) Q E s
 ext : ∀ {A : Around} {E : Value -> Shared -> Prop} {s : Shared} {Q : Value -> Shared -> Prop} {a : Addr} {b d : Array UInt8} {t : Tok}, A.handled = none -> s.heap.get? a = some (yi b) -> b.size + d.size <= 1000000 ->
   (∀ h' tk c, c.size = b.size + d.size -> Heap.SameBut a s.heap h' -> h'.get? a = some (yi c) -> Q .none { s with heap := h', toks := tk }) -> wpAny (model prog w) A (call (.builtin "bytearray.extend") [.ref a, .bytes d t]) Q E s
 getApp : ∀ {A : Around} {E : Value -> Shared -> Prop} {s : Shared} {pl : Sem Bool} {Q : Value × List Value -> Shared -> Prop} {a : Addr} {b : Array UInt8}, s.heap.get? a = some (yi b) -> Q (.builtin "bytearray.append", [.ref a]) s -> wpAny (model prog w) A (getMethod (.ref a) "append" pl) Q E s
 getExt : ∀ {A : Around} {E : Value -> Shared -> Prop} {s : Shared} {pl : Sem Bool} {Q : Value × List Value -> Shared -> Prop} {a : Addr} {b : Array UInt8}, s.heap.get? a = some (yi b) -> Q (.builtin "bytearray.extend", [.ref a]) s -> wpAny (model prog w) A (getMethod (.ref a) "extend" pl) Q E s
structure Wd.Good (W : Wd) : Prop where
 H : Qf W.N W.prog W.w W.T W.K
 C : aR W.N W.prog W.w W.Ok
 B : Ba W.prog W.w
theorem jX.mono {A : Around} {a b : Nat} (R : jX A b) (h : a <= b) : jX A a := ⟨R.hd, by have := R.dep; omega, by have := R.un; omega⟩
structure At (W : Wd) (b : Nat) (A : Around) (fr : Frm) : Prop where
 ok : W.Ok fr
 R : jX A b
 b1 : 2 <= b
structure oz (W : Wd) (b : Nat) (A : Around) (fr : Frm) : Prop where
 ok : W.Ok fr
 R : gU A b
theorem At.toC {W : Wd} {b : Nat} {A : Around} {fr : Frm} (h : At W b A fr) : oz W b A fr := ⟨h.ok, h.R.toC⟩
theorem At.R1 {W : Wd} {b : Nat} {A : Around} {fr : Frm} (h : At W b A fr) : jX A 2 := h.R.mono h.b1
noncomputable abbrev Wd.FS (W : Wd) := Mi.FS W.N W.prog W.w
noncomputable abbrev Wd.VR (W : Wd) := Mi.VR W.N W.prog W.w
noncomputable abbrev Wd.VRs (W : Wd) := Mi.VRs W.N W.prog W.w
noncomputable abbrev Wd.KR (W : Wd) := Mi.KR W.N W.prog W.w
noncomputable abbrev Wd.Post (W : Wd) := Mi.Post W.N W.prog W.w
noncomputable abbrev Wd.M (W : Wd) : Model := model W.prog W.w
noncomputable def kK (W : Wd) (fr : Frm) (ix : Ix) (loc : List (Option V)) (n : Nat) (k : V -> Mu -> Prop) (Q : List Value -> Shared -> Prop) : Prop :=
 ∀ jx vs l U' s', ix.Le jx -> k (.tup l) U' -> W.VRs jx vs l -> vs.length = n -> W.FS fr jx loc U' s' -> Q vs s'
noncomputable def Vq (W : Wd) (fr : Frm) (ix : Ix) (loc : List (Option V)) (k : Bool -> Mu -> Prop) (Q : Bool -> Shared -> Prop) : Prop :=
 ∀ jx b U' s', ix.Le jx -> k b U' -> W.FS fr jx loc U' s' -> Q b s'
noncomputable def Calls (W : Wd) (b : Nat) : Prop := ∀ {f : Nat} {A : Around} {fr : Frm} {ix : Ix} {loc : List (Option V)} {U : Mu} {s : Shared} {args : List Value} {l : List V} {k : V -> Mu -> Prop} {R : Result -> Shared -> Prop},
 oz W b A fr -> W.FS fr ix loc U s -> W.VRs ix args l -> W.T.Γ f l U k -> W.Post fr ix loc k (λ v s' => R (.ok (.ret v)) s') -> codeAny W.M A (.call (.ref (W.N.fa f)) ⟨args, []⟩) R s
noncomputable def SE (W : Wd) (b : Nat) (e : E) : Prop := ∀ {x : Expr} {A : Around} {E : Value -> Shared -> Prop} {fr : Frm} {ix : Ix} {loc : List (Option V)} {U : Mu} {s : Shared} {k : V -> Mu -> Prop} {Q : Value -> Shared -> Prop},
 mE W.N fr.c e x = true -> At W b A fr -> W.FS fr ix loc U s -> qx W.T loc e U k -> W.Post fr ix loc k Q -> wpAny W.M A (eval x fr.env) Q E s
noncomputable def SL (W : Wd) (b : Nat) (e : E) : Prop := ∀ {xs : List Expr} {pos : Pos} {A : Around} {E : Value -> Shared -> Prop} {fr : Frm} {ix : Ix} {loc : List (Option V)} {U : Mu} {s : Shared} {k : V -> Mu -> Prop} {Q : List Value -> Shared -> Prop},
 yk W.N fr.c e xs = true -> At W b A fr -> W.FS fr ix loc U s -> qx W.T loc e U k -> kK W fr ix loc xs.length k Q -> wpAny W.M A (spliced (backTo pos (starEach xs fr.env))) Q E s
noncomputable def ST (W : Wd) (b : Nat) (e : E) : Prop := ∀ {x : Expr} {A : Around} {E : Value -> Shared -> Prop} {fr : Frm} {ix : Ix} {loc : List (Option V)} {U : Mu} {s : Shared} {k : Bool -> Mu -> Prop} {Q : Bool -> Shared -> Prop},
 mE W.N fr.c e x = true -> At W b A fr -> W.FS fr ix loc U s -> Xs W.T loc e U k -> Vq W fr ix loc k Q -> wpAny W.M A (isTrue x fr.env (eval x fr.env)) Q E s
section
variable {W : Wd} {b : Nat}
theorem fh (i : Int) : SE W b (.int i) := by
 intro x A E fr ix loc U s k Q hm _ Y h q
 rcases iY.mp hm with hm | hm
 · refine vo hm λ c n p hm => oB hm λ j e => ?_
   exact qa <| wpAny_Constant_int (q ix _ _ _ _ (.refl _) h (eq_of_beq e ▸ .int) (Y.tok _))
 · refine Rs hm λ o y p hm => A2 hm λ ho hm => vo hm λ c n p2 hm => oB hm λ j e => ?_
   rw [Gi ho]
   exact Xp (qa <| wpAny_Constant_int (qa <| neg_int (q ix _ _ _ _ (.refl _) h (eq_of_beq e ▸ .int) ((Y.tok _).tok _))))
theorem GM : SE W b .none := by
 intro x A E fr ix loc U s k Q hm _ Y h q
 exact vo hm λ c n p hm => rO hm (qa <| Constant_none (q ix _ _ _ _ (.refl _) h .none Y))
theorem GT (c : Bool) : SE W b (.bool c) := by
 intro x A E fr ix loc U s k Q hm _ Y h q
 exact vo hm λ _ n p hm => oC hm λ d e => qa <| Constant_bool (q ix _ _ _ _ (.refl _) h (eq_of_beq e ▸ .bool) Y)
theorem DW (n : Nat) : SE W b (.str n) := by
 intro x A E fr ix loc U s k Q hm _ Y h q
 exact vo hm λ _ _ p hm => oA hm λ y e => qa <| wpAny_Constant_str (q ix _ _ _ _ (.refl _) h (eq_of_beq e ▸ .str) (Y.tok _))
theorem GA (c : Bool) : ST W b (.bool c) := by
 intro x A E fr ix loc U s k Q hm _ Y h q
 refine vo hm λ _ n p hm => oC hm λ d e => ?_
 rw [<- eq_of_beq e]
 exact zs (qa <| Constant_bool (qa <| wpAny_truthy_bool (q ix _ _ _ (.refl _) h Y)))
theorem OJ {o : Option (Option V)} {F : V -> Prop} {C : Prop} (h : fL o F) (f : ∀ v, o = some (some v) -> (∀ l, v ≠ .own l) -> F v -> C) : C := by
 match o, h with
 | some (some v), h => cases v <;> first | exact f _ rfl (λ _ q => V.noConfusion q) h | exact h.elim
theorem fc (i : Nat) : SE W b (.loc i) := by
 intro x A E fr ix loc U s k Q hm a Y h q
 refine ku hm λ y p hm => A3 hm λ _ h1 h2 => OJ h λ v e hv h => ?_
 rw [<- eq_of_beq h2]
 exact FS.name a.ok.1 Y e hv (CR h1) λ v' vr => q ix _ _ _ _ (.refl _) h vr Y
theorem fN {o : Option (Option V)} {F : V -> Prop} {C : Prop} (h : uy o F) (f : ∀ v, o = some (some v) -> F v -> C) : C := by
 match o, h with
 | some (some v), h => exact f _ rfl h
theorem DC (i : Nat) : ST W b (.loc i) := by
 intro x A E fr ix loc U s k Q hm a Y h q
 refine ku hm λ y p hm => A3 hm λ _ h1 h2 => fN h λ v e h => ?_
 rw [<- eq_of_beq h2]
 exact zs (FS.name a.ok.1 Y e (λ l q => by rw [q] at h; exact h) (CR h1) λ v' vr => zy vr h λ t ht => q ix _ _ _ (.refl _) ht Y)
theorem jb {fr : Frm} {x : Str} (ok : fr.Ok) (h : isG fr.c x = true) : fr.env.kindOf x = some .globalImplicit /\ (x == ("__debug__" : Str)) = false := by
 obtain ⟨h1, h2⟩ := QY h
 exact ⟨by rw [Env.kindOf, ok.sc]; simpa using h1, by simpa using h2⟩
theorem ot {fr : Frm} {A : Around} {E : Value -> Shared -> Prop} {s : Shared} {m : Str -> Option Value} {x : Str} {v : Value} {pos : Pos} {Q : Value -> Shared -> Prop} (ok : W.Ok fr) (F : Fr fr.h₀ fr.L s.heap m) (e : nsIn W.K mainGlobals x = some (some v)) (h : Q v s)
   (k1 : fr.env.kindOf x = some .globalImplicit) (k2 : (x == ("__debug__" : Str)) = false) : wpAny W.M A (eval (.Name x pos) fr.env) Q E s :=
 qa <| Name_function_global ok.1.fne k1 (loadGlobal_global (by rw [ok.1.gl]; exact ok.2.2.1.g.keeps F.keep) (mg_of ok.2.1 ok.2.2.1.g e) h) k2
theorem AH {fr : Frm} {A : Around} {E : Value -> Shared -> Prop} {s : Shared} {m : Str -> Option Value} {x : Str} {v : Value} {pos : Pos} {Q : Value -> Shared -> Prop} (ok : W.Ok fr) (F : Fr fr.h₀ fr.L s.heap m) (e : nsIn W.K mainGlobals x = some none) (hv : bootBuiltins x = some v) (hn : x ≠ "__name__") (h : Q v s)
   (k1 : fr.env.kindOf x = some .globalImplicit) (k2 : (x == ("__debug__" : Str)) = false) : wpAny W.M A (eval (.Name x pos) fr.env) Q E s :=
 qa <| Name_function_global ok.1.fne k1 (loadGlobal_builtin (by rw [ok.1.gl]; exact ok.2.2.1.g.keeps F.keep) (mg_none_of ok.2.1 ok.2.2.1.g e) (by rw [ok.1.bn]; exact ok.2.2.1.b.keeps F.keep) ((ok.2.2.1.builtins x hn).trans hv) h) k2
theorem GP (G : W.Good) (g : Nat) : SE W b (.glob g) := by
 intro x A E fr ix loc U s k Q hm a Y h q
 refine ku hm λ y p hm => A2 hm λ h1 h2 => zL h λ v hv h => ?_
 obtain ⟨k1, k2⟩ := jb a.ok.1 h2
 obtain ⟨v', e1, e2⟩ := G.H.glob _ _ hv
 obtain ⟨⟨m, pl, mt, P⟩, g⟩ := id Y
 exact ot a.ok P.F (eq_of_beq h1 ▸ e1) (q ix _ _ _ _ (.refl _) h (e2 ix P.bz) Y) k1 k2
theorem Post.le {fr : Frm} {ix jx : Ix} {loc : List (Option V)} {k : V -> Mu -> Prop} {Q : Value -> Shared -> Prop} (q : W.Post fr ix loc k Q) (h : ix.Le jx) : W.Post fr jx loc k Q :=
 λ kx v' v U' s' l => q kx v' v U' s' (h.trans l)
theorem kK.le {fr : Frm} {ix jx : Ix} {loc : List (Option V)} {n : Nat} {k : V -> Mu -> Prop} {Q : List Value -> Shared -> Prop} (q : kK W fr ix loc n k Q) (h : ix.Le jx) : kK W fr jx loc n k Q :=
 λ kx v' v U' s' l => q kx v' v U' s' (h.trans l)
theorem Vq.le {fr : Frm} {ix jx : Ix} {loc : List (Option V)} {k : Bool -> Mu -> Prop} {Q : Bool -> Shared -> Prop} (q : Vq W fr ix loc k Q) (h : ix.Le jx) : Vq W fr jx loc k Q :=
 λ kx v' U' s' l => q kx v' U' s' (h.trans l)
theorem fq (G : W.Good) {o : Op} {l r : E} (hl : SE W b l) (hr : SE W b r) : SE W b (.bin o l r) := by
 intro x A E fr ix loc U s k Q hm a Y h q
 refine Rt hm λ l p r _ hm => A3 hm λ h1 h3 h2 => ?_
 rw [uC h1]
 exact ZA (hl h3 a Y h λ jx v' v U' s' z h' vr Y' => hr h2 a Y' h' λ kx u' u U' s'' z' h'' ur Y'' =>
   UW G.H.toNames Y'' (vr.mono _ _ _ z') ur h'' λ lx _ _ _ _ z'' hk vr' Y3 => q lx _ _ _ _ ((z.trans z').trans z'') hk.1 vr' (hk.2 ▸ Y3))
@[elab_as_elim] theorem dQ {o : Cm} {l r : E} {N : Nm} {c : Cx} {x : Expr} {C : Expr -> Prop} (hm : mE N c (.cmp o l r) x = true) (f : ∀ y z p, ja z = true -> mE N c l y = true -> mE N c r z = true -> C (.Compare y [Xb o] [z] p)) : C x :=
 Ft hm λ y ps rs p hm => Xw (C := λ ps => C (.Compare y ps rs p)) hm λ o' hm => Xw (C := λ rs => C (.Compare y [o'] rs p)) hm λ z hm => A4 hm λ h1 h2 h3 h4 => vt h1 ▸ f y z p h2 h3 h4
theorem fk (G : W.Good) {o : Cm} {l r : E} (hl : SE W b l) (hr : SE W b r) : SE W b (.cmp o l r) := by
 intro x A E fr ix loc U s k Q hm a Y h q
 refine dQ hm λ y z p h4 h3 h2 => ?_
 exact yn (hl h3 a Y h λ jx v' v U' s' z h' vr Y' => hr h2 a Y' h' λ kx u' u U' s'' z' h'' ur Y'' =>
   zH G.H.toNames (by have := a.R.un; omega) Y'' (vr.mono _ _ _ z') ur h'' λ c hc => q kx _ _ _ _ (z.trans z') hc .bool Y'') (zF h4)
theorem DF (G : W.Good) {o : Cm} {l r : E} (hl : SE W b l) (hr : SE W b r) : ST W b (.cmp o l r) := by
 intro x A E fr ix loc U s k Q hm a Y h q
 refine dQ hm λ y z p h4 h3 h2 => ?_
 exact zw (hl h3 a Y h λ jx v' v U' s' z h' vr Y' => hr h2 a Y' h' λ kx u' u U' s'' z' h'' ur Y'' =>
   zH G.H.toNames (by have := a.R.un; omega) Y'' (vr.mono _ _ _ z') ur h'' λ c hc => qa <| wpAny_truthy_bool (q kx _ _ _ (z.trans z') hc Y'')) (zF h4)
@[elab_as_elim] theorem dP {o : Bool} {l r : E} {N : Nm} {c : Cx} {x : Expr} {C : Expr -> Prop} (hm : mE N c (.inn o l r) x = true) (f : ∀ y z p, ja z = true -> mE N c l y = true -> mE N c r z = true -> C (.Compare y [bU o] [z] p)) : C x :=
 Ft hm λ y ps rs p hm => Xw (C := λ ps => C (.Compare y ps rs p)) hm λ o' hm => Xw (C := λ rs => C (.Compare y [o'] rs p)) hm λ z hm => A4 hm λ h1 h2 h3 h4 => Fm h1 ▸ f y z p h2 h3 h4
theorem fi (G : W.Good) {n : Bool} {l r : E} (hl : SE W b l) (hr : SE W b r) : SE W b (.inn n l r) := by
 intro x A E fr ix loc U s k Q hm a Y h q
 refine dP hm λ y z p h4 h3 h2 => ?_
 exact yn (hl h3 a Y h λ jx v' v U' s' z h' vr Y' => hr h2 a Y' h' λ kx u' u U' s'' z' h'' ur Y'' =>
   xP G.H.toNames Y'' (vr.mono _ _ _ z') ur h'' λ c hc => q kx _ _ _ _ (z.trans z') hc .bool Y'') (zF h4)
theorem DE (G : W.Good) {n : Bool} {l r : E} (hl : SE W b l) (hr : SE W b r) : ST W b (.inn n l r) := by
 intro x A E fr ix loc U s k Q hm a Y h q
 refine dP hm λ y z p h4 h3 h2 => ?_
 exact zw (hl h3 a Y h λ jx v' v U' s' z h' vr Y' => hr h2 a Y' h' λ kx u' u U' s'' z' h'' ur Y'' =>
   xP G.H.toNames Y'' (vr.mono _ _ _ z') ur h'' λ c hc => qa <| wpAny_truthy_bool (q kx _ _ _ (z.trans z') hc Y'')) (zF h4)
theorem dF {o p : CmpOp} {r₁ r₂ : Expr} (h : ja r₂ = true) : lastMarks [o, p] [r₁, r₂] = false := by
 unfold lastMarks
 exact zF h
@[elab_as_elim] theorem Uz {o p : Cm} {l r t : E} {N : Nm} {c : Cx} {x : Expr} {C : Expr -> Prop} (hm : mE N c (.cmp2 o p l r t) x = true) (f : ∀ y z u q, ja u = true -> mE N c l y = true -> mE N c r z = true -> mE N c t u = true -> C (.Compare y [Xb o, Xb p] [z, u] q)) : C x :=
 Ft hm λ y ps rs q hm => KM (C := λ ps => C (.Compare y ps rs q)) hm λ o' ps hm => Xw (C := λ ps => C (.Compare y (o' :: ps) rs q)) hm λ p' hm => KM (C := λ rs => C (.Compare y [o', p'] rs q)) hm λ z rs hm => Xw (C := λ rs => C (.Compare y [o', p'] (z :: rs) q)) hm λ u hm =>
   A6 hm λ h1 h2 h3 h4 h5 h6 => vt h1 ▸ vt h2 ▸ f y z u q h3 h4 h5 h6
theorem GR (G : W.Good) {o p : Cm} {l r t : E} (hl : SE W b l) (hr : SE W b r) (ht : SE W b t) : SE W b (.cmp2 o p l r t) := by
 intro x A E fr ix loc U s k Q hm a Y h q
 refine Uz hm λ y z u p h5 h4 h3 h2 => ?_
 refine YN (hl h4 a Y h λ jx v' v U' s' z h' vr Y' => vB (hr h3 a Y' h' λ kx u' u U' s'' z' h'' ur Y'' => ?_)) (dF h5)
 refine zH G.H.toNames (by have := a.R.un; omega) Y'' (vr.mono _ _ _ z') ur h'' λ c hc => qa <| wpAny_truthy_bool ?_
 match c, hc with
 | false, hc => exact q kx _ _ _ _ (z.trans z') hc .bool Y''
 | true, hc =>
   exact vC (ht h2 a Y'' hc λ lx t' t U3 s3 z3 h3 tr Y3 =>
     zH G.H.toNames (by have := a.R.un; omega) Y3 (ur.mono _ _ _ z3) tr h3 λ c hc => q lx _ _ _ _ ((z.trans z').trans z3) hc .bool Y3)
theorem Gy (G : W.Good) {o p : Cm} {l r t : E} (hl : SE W b l) (hr : SE W b r) (ht : SE W b t) : ST W b (.cmp2 o p l r t) := by
 intro x A E fr ix loc U s k Q hm a Y h q
 refine Uz hm λ y z u p h5 h4 h3 h2 => ?_
 refine QT (hl h4 a Y h λ jx v' v U' s' z h' vr Y' => YR (hr h3 a Y' h' λ kx u' u U' s'' z' h'' ur Y'' => ?_)) (dF h5)
 refine zH G.H.toNames (by have := a.R.un; omega) Y'' (vr.mono _ _ _ z') ur h'' λ c hc => qa <| wpAny_truthy_bool ?_
 match c, hc with
 | false, hc => exact q kx _ _ _ (z.trans z') hc Y''
 | true, hc =>
   exact YS (ht h2 a Y'' hc λ lx t' t U3 s3 z3 h3 tr Y3 =>
     zH G.H.toNames (by have := a.R.un; omega) Y3 (ur.mono _ _ _ z3) tr h3 λ c hc => qa <| wpAny_truthy_bool (q lx _ _ _ ((z.trans z').trans z3) hc Y3))
@[elab_as_elim] theorem Bh {N : Nm} {c : Cx} {a b : E} {l : List Expr} {pos : Pos} {o : BoolOp} {C : List Expr -> Prop} (hm : (lc l λ l rs => lc rs λ r rest => mE N c a l && mE N c b (match rest with | [] => r | _ :: _ => .BoolOp o (r :: rest) pos)) = true)
   (f : ∀ l r, mE N c a l = true -> mE N c b r = true -> C [l, r]) (g : ∀ l r s rest, mE N c a l = true -> mE N c b (.BoolOp o (r :: s :: rest) pos) = true -> C (l :: r :: s :: rest)) : C l :=
 KM hm λ l rs hm => KM (C := λ rs => C (l :: rs)) hm λ r rest hm => match rest, hm with
   | [], hm => A2 hm (f l r)
   | s :: rest, hm => A2 hm (g l r s rest)
theorem ft {l r : E} (hl : SE W b l) (hr : SE W b r) : SE W b (.and l r) := by
 intro x A E fr ix loc U s k Q hm a Y h q
 refine rE hm λ o ls p hm => A2 hm λ ho hm => ?_
 rw [wP ho]
 refine Bh hm (λ l' r' h1 h2 => ?_) (λ l' r' s' rest h1 h2 => ?_) <;> refine vY (hl h1 a Y h λ jx v' v U' s' z h' vr Y' => zy vr h' λ c hc => ?_)
 · match c, hc with
   | false, hc => exact q jx _ _ _ _ z hc vr Y'
   | true, hc => exact Yo (hr h2 a Y' hc (q.le z))
 · match c, hc with
   | false, hc => exact q jx _ _ _ _ z hc vr Y'
   | true, hc => exact hr h2 a Y' hc (q.le z)
theorem Oj {l r : E} (hl : SE W b l) (hr : SE W b r) : SE W b (.or l r) := by
 intro x A E fr ix loc U s k Q hm a Y h q
 refine rE hm λ o ls p hm => A2 hm λ ho hm => ?_
 rw [wQ ho]
 refine Bh hm (λ l' r' h1 h2 => ?_) (λ l' r' s' rest h1 h2 => ?_) <;> refine WA (hl h1 a Y h λ jx v' v U' s' z h' vr Y' => zy vr h' λ c hc => ?_)
 · match c, hc with
   | true, hc => exact q jx _ _ _ _ z hc vr Y'
   | false, hc => exact Yo (hr h2 a Y' hc (q.le z))
 · match c, hc with
   | true, hc => exact q jx _ _ _ _ z hc vr Y'
   | false, hc => exact hr h2 a Y' hc (q.le z)
theorem DG {l r : E} (hl : ST W b l) (hr : ST W b r) : ST W b (.and l r) := by
 intro x A E fr ix loc U s k Q hm a Y h q
 refine rE hm λ o ls p hm => A2 hm λ ho hm => ?_
 rw [wP ho]
 refine Bh hm (λ l' r' h1 h2 => ?_) (λ l' r' s' rest h1 h2 => ?_) <;> refine JR (hl h1 a Y h λ jx c U' s' z hc Y' => ?_)
 · match c, hc with
   | false, hc => exact q jx _ _ _ z hc Y'
   | true, hc => exact JR (hr h2 a Y' hc λ kx c U' s' z' hc' Y'' => match c, hc' with
         | false, hc' => q kx _ _ _ (z.trans z') hc' Y''
         | true, hc' => isTrue_and_nil (q kx _ _ _ (z.trans z') hc' Y''))
 · match c, hc with
   | false, hc => exact q jx _ _ _ z hc Y'
   | true, hc => exact hr h2 a Y' hc (q.le z)
theorem Od {l r : E} (hl : ST W b l) (hr : ST W b r) : ST W b (.or l r) := by
 intro x A E fr ix loc U s k Q hm a Y h q
 refine rE hm λ o ls p hm => A2 hm λ ho hm => ?_
 rw [wQ ho]
 refine Bh hm (λ l' r' h1 h2 => ?_) (λ l' r' s' rest h1 h2 => ?_) <;> refine kl (hl h1 a Y h λ jx c U' s' z hc Y' => ?_)
 · match c, hc with
   | true, hc => exact q jx _ _ _ z hc Y'
   | false, hc => exact kl (hr h2 a Y' hc λ kx c U' s' z' hc' Y'' => match c, hc' with
         | true, hc' => q kx _ _ _ (z.trans z') hc' Y''
         | false, hc' => isTrue_or_nil (q kx _ _ _ (z.trans z') hc' Y''))
 · match c, hc with
   | true, hc => exact q jx _ _ _ z hc Y'
   | false, hc => exact hr h2 a Y' hc (q.le z)
theorem DX {l : E} (hl : SE W b l) : SE W b (.not l) := by
 intro x A E fr ix loc U s k Q hm a Y h q
 refine Rs hm λ o y p hm => A2 hm λ ho hm => ?_
 rw [we ho]
 exact Xp (hl hm a Y h λ jx v' v U' s' z h' vr Y' => fP (zy vr h' λ c hc => q jx _ _ _ _ z hc .bool Y'))
theorem DB {l : E} (hl : ST W b l) : ST W b (.not l) := by
 intro x A E fr ix loc U s k Q hm a Y h q
 refine Rs hm λ o y p hm => A2 hm λ ho hm => ?_
 rw [we ho]
 exact JQ (hl hm a Y h λ jx c U' s' z hc Y' => q jx _ _ _ z hc Y')
theorem fe {t l r : E} (ht : ST W b t) (hl : SE W b l) (hr : SE W b r) : SE W b (.ite t l r) := by
 intro x A E fr ix loc U s k Q hm a Y h q
 refine Ao hm λ y l r p hm => A3 hm λ h1 h3 h2 => gX (ht h1 a Y h λ jx c U' s' z hc Y' => ?_)
 match c, hc with
 | true, hc => exact hl h3 a Y' hc (q.le z)
 | false, hc => exact hr h2 a Y' hc (q.le z)
theorem DD {t l r : E} (ht : ST W b t) (hl : ST W b l) (hr : ST W b r) : ST W b (.ite t l r) := by
 intro x A E fr ix loc U s k Q hm a Y h q
 refine Ao hm λ y l r p hm => A3 hm λ h1 h3 h2 => Ku (ht h1 a Y h λ jx c U' s' z hc Y' => ?_)
 match c, hc with
 | true, hc => exact hl h3 a Y' hc (q.le z)
 | false, hc => exact hr h2 a Y' hc (q.le z)
end
section
variable {W : Wd} {b : Nat}
theorem Parts.pushed {N : Nm} {prog : Program} {w : World} {fr : Frm} {ix : Ix} {loc : List (Option V)} {U : Mu} {h m pl mt} (Y : Parts N prog w fr ix loc U h m pl mt) (ob : Obj) : Parts N prog w fr ix loc U (h.push ob) m pl mt :=
 ⟨Y.F.push ob, λ p hp => ⟨Es _ (Y.W p hp).1, (Y.W p hp).2⟩, Y.B, Y.bz, Y.ad, Y.P, Y.nd, Y.ap, Y.ak, Y.cs, Y.l⟩
theorem Vp {o : Expr} (h : zQ o = true) (name : Str) (env : Env) (whole : Sem Value) : attributeBase o name env whole = whole := by
 cases o <;> first | rfl | cases h
theorem yR {value : Expr} {attr : Str} {pos : Pos} {env : Env} (h : zQ value = true) : eval (.Attribute value attr pos) env = (do
     let o <- eval value env
     standAt pos.atName
     let r <- holding [o] (getAttr o attr true)
     letTemporaryGo value o r
     pure r) := by rw [arm_eval_Attribute, Vp h]
theorem GU (G : W.Good) {a₀ : Nat} {l : E} (hl : SE W b l) : SE W b (.attr l a₀) := by
 intro x A E fr ix loc U s k Q hm a Y h q
 refine dS hm λ y n p hm => A3 hm λ hb h3 h2 => ?_
 rw [<- eq_of_beq h3]
 exact zu (hl h2 a Y h λ jx v' v U' s' z h' vr Y' => jC G.H a.ok.2.1 Y' vr h' λ u' u hu ur => q jx _ _ _ _ z hu ur (Y'.tok _)) (yR hb)
theorem GB (G : W.Good) {a₀ : Nat} {l : E} (hl : SE W b l) : ST W b (.attr l a₀) := by
 intro x A E fr ix loc U s k Q hm a Y h q
 refine dS hm λ y n p hm => A3 hm λ hb h3 h2 => ?_
 rw [<- eq_of_beq h3]
 exact zs (zu (hl h2 a Y h λ jx v' v U' s' z h' vr Y' => jC G.H a.ok.2.1 Y' vr h' λ u' u hu ur => zy ur hu λ c hc => q jx _ _ _ z hc (Y'.tok _)) (yR hb))
theorem DV (G : W.Good) {l r : E} (hl : SE W b l) (hr : SE W b r) : SE W b (.sub l r) := by
 intro x A E fr ix loc U s k Q hm a Y h q
 refine UB hm λ v y p hm => A3 hm λ h1 h3 h2 => ?_
 exact Qx (hl h3 a Y h λ jx v' v U' s' z h' vr Y' => hr h2 a Y' h' λ kx u' u U' s'' z' h'' ur Y'' =>
   WR G.H G.C a.ok a.R1 Y'' (vr.mono _ _ _ z') ur h1 h'' λ lx _ _ _ _ z'' hk vr' Y3 => q lx _ _ _ _ ((z.trans z').trans z'') hk.1 vr' (hk.2 ▸ Y3))
theorem WX {A : Around} {E : Value -> Shared -> Prop} {fr : Frm} {ix : Ix} {loc : List (Option V)} {U : Mu} {s : Shared} (Y : W.FS fr ix loc U s) {value : Expr} {lower upper : Option Expr} {p : Pos} {l : Addr} {vs : List Value} {vl vu : Value} {lo hi : Option Int} {ws : List Value}
   {Q : Value -> Shared -> Prop} (hl : s.heap.IsList l vs.toArray) (pl : IsPart vl lo) (pu : IsPart vu hi) (hw : slicePick vs.toArray lo hi none = ws.toArray) (hsz : vs.length <= sizeLine)
   (q : ∀ a o s', LO o ws -> W.FS fr { ix with fz := (a, o) :: ix.fz } loc U s' -> Q (.ref a) s') :
   wpAny W.M A (subscriptTail value (.Slice lower upper none p) (.ref l) (.ref s.heap.objs.size)) Q E { s with heap := s.heap.push { cls := .type "slice", data := .fields #[vl, vu, .none] } } := by
 obtain ⟨⟨m, ml, mt, P⟩, g1, g2, g3⟩ := id Y
 refine qa <| tail_any (Heap.IsList.typeIs (s := { s with heap := s.heap.push { cls := .type "slice", data := .fields #[vl, vu, .none] } }) (hl.push _)) list_getitem_lookup
   (wpAny_getItem_list_slice (hl.push _) (Heap.IsSliceOf.new ..) pl pu .none (by simp) ?_ (by simpa using hsz)) rfl
 rw [hw]
 have P1 := P.pushed { cls := .type "slice", data := .fields #[vl, vu, .none] }
 have N1 := News.push P1.F P1.W { cls := .type "list", data := .seq ws.toArray }
 exact q _ _ _ ⟨rfl, _, rfl⟩ ⟨⟨m, ml, mt, P1.more (P1.F.push _) N1⟩, g1, g2, g3⟩
theorem QF {n : Nat} (h : n <= 1000000) : n <= sizeLine := CK h (by decide)
theorem bf {vs : List Value} {j : Int} (h : 0 <= j) : slicePick vs.toArray none (some j) none = (vs.take j.toNat).toArray := by
 conv => lhs; rw [show j = ((j.toNat : Nat) : Int) from (EW h).symm, slicePick_upto']
theorem VK {vs : List Value} {j : Int} (h : 0 <= j) : slicePick vs.toArray (some j) none none = (vs.drop j.toNat).toArray := by
 conv => lhs; rw [show j = ((j.toNat : Nat) : Int) from (EW h).symm, slicePick_from']
theorem GK {l r : E} (hl : SE W b l) (hr : SE W b r) : SE W b (.slTo l r) := by
 intro x A E fr ix loc U s k Q hm a Y h q
 refine UB hm λ y u p hm => Am hm λ a1 b1 d1 p1 hm => A3 hm λ ha hd hm => ru ha (ru hd (rN hm λ u hm => A2 hm λ h1 h2 => ?_))
 refine Qx (hl h1 a Y h λ jx v' v U' s' z h' vr Y' => Zz (evalPart_none_step (jd (hr h2 a Y' h' λ kx u' u U' s'' z' h'' ur Y'' =>
   (vr.mono _ _ _ z').qL h'' λ vl af o vs h'' hf t0 bs => ur.qI h'' λ j t h'' => Y''.op λ m pl mt P => evalPart_none_step ?_))))
 exact WX (ws := List.take j.toNat _) Y'' (FS.lstAt P hf t0) .none (.int _ _) (bf h''.1.1) (QF (bs.length ▸ h''.1.2)) λ a o s' ho Y3 =>
   q _ _ _ _ _ ((z.trans z').trans (Ix.le_more ..)) h''.2 (.lst (.inl (CZ ..)) ho ((bs.take _).mono _ _ _ (Ix.le_more ..))) Y3
theorem Vv {l r : E} (hl : SE W b l) (hr : SE W b r) : SE W b (.slFrom l r) := by
 intro x A E fr ix loc U s k Q hm a Y h q
 refine UB hm λ y u p hm => Am hm λ a1 b1 d1 p1 hm => A3 hm λ ha hd hm => ru ha (ru hd (rN hm λ u hm => A2 hm λ h1 h2 => ?_))
 refine Qx (hl h1 a Y h λ jx v' v U' s' z h' vr Y' => Zz (jd (hr h2 a Y' h' λ kx u' u U' s'' z' h'' ur Y'' =>
   (vr.mono _ _ _ z').qL h'' λ vl af o vs h'' hf t0 bs => ur.qI h'' λ j t h'' => Y''.op λ m pl mt P => evalPart_none_step (evalPart_none_step ?_))))
 exact WX (ws := List.drop j.toNat _) Y'' (FS.lstAt P hf t0) (.int _ _) .none (VK h''.1.1) (QF (bs.length ▸ h''.1.2)) λ a o s' ho Y3 =>
   q _ _ _ _ _ ((z.trans z').trans (Ix.le_more ..)) h''.2 (.lst (.inl (CZ ..)) ho ((bs.drop _).mono _ _ _ (Ix.le_more ..))) Y3
theorem qh {e : Expr} (h : qk e = true) (rest : List Expr) (env : Env) : starEach (e :: rest) env = (false, eval e env) :: starEach rest env := by
 cases e <;> first | rfl | cases h
theorem ff {C : Prop} (h : false = true) : C := nomatch h
@[elab_as_elim] theorem uQ {N : Nm} {c : Cx} {e : E} {C : E -> Prop} (h : yk N c e [] = true) (f : C .nil) : C e := by
 cases e with
 | nil => exact f
 | _ => exact ff h
@[elab_as_elim] theorem JL {N : Nm} {c : Cx} {e : E} {x : Expr} {xs : List Expr} {C : E -> Prop} (h : yk N c e (x :: xs) = true) (f : ∀ e1 es, qk x = true -> mE N c e1 x = true -> yk N c es xs = true -> C (.cons e1 es)) : C e := by
 cases e with
 | cons e1 es => exact A3 h (f e1 es)
 | _ => exact ff h
theorem WY : SL W b .nil := by
 intro xs pos A E fr ix loc U s k Q hm a Y h q
 exact Qy (C := λ xs => kK W fr ix loc xs.length k Q -> wpAny W.M A (spliced (backTo pos (starEach xs fr.env))) Q E s) hm (λ q => spliced_none (q ix _ _ _ _ (.refl _) h .nil rfl Y)) q
theorem wu {l r : E} (hl : SE W b l) (hr : SL W b r) : SL W b (.cons l r) := by
 intro xs pos A E fr ix loc U s k Q hm a Y h q
 refine KM (C := λ xs => kK W fr ix loc xs.length k Q -> wpAny W.M A (spliced (backTo pos (starEach xs fr.env))) Q E s) hm (λ x xs hm q => A3 hm λ h1 h3 h2 => ?_) q
 exact qr (hl h3 a Y h λ jx v' v U' s' z h' vr Y' => hr h2 a Y' h' λ kx us u U' s'' z' h'' ur hl' Y'' =>
   q kx _ _ _ _ (z.trans z') h'' (.cons (vr.mono _ _ _ z') ur) (congrArg Ia hl') Y'') (qh h1 _ _)
theorem wK {N : Nm} {c : Cx} {pos : Pos} {env : Env} {xs : List Expr} : ∀ {e : E}, yk N c e xs = true -> (backTo pos (starEach xs env)).any (·.1) = false := by
 induction xs with
 | nil => exact λ _ => rfl
 | cons x xs ih => exact λ hm => JL hm λ e1 es h1 _ h2 => qh h1 xs env ▸ ih h2
theorem Ja {N : Nm} {c : Cx} {pos : Pos} {env : Env} {xs : List Expr} : ∀ {e : E}, yk N c e xs = true -> (backTo pos (starEach xs env)).all (!·.1) = true := by
 induction xs with
 | nil => exact λ _ => rfl
 | cons x xs ih => exact λ hm => JL hm λ e1 es h1 _ h2 => qh h1 xs env ▸ ih h2
theorem small {n : Nat} (h : eY n 100 = true) : n <= sizeLine := CK (CR h) (by decide)
theorem DU {l : E} (hl : SL W b l) : SE W b (.tup l) := by
 intro x A E fr ix loc U s k Q hm a Y h q
 refine Kx hm λ xs _ p hm => A2 hm λ h1 h2 => vR (hl h1 a Y h λ jx vs u U' s' z h' vr hn Y' => Y'.op λ m pl mt P => ?_)
 exact qa <| newTuple_N P.F P.W (λ h'' F' W' => q _ _ _ _ _ (z.trans (Ix.le_more ..)) h' (.tup (.inl (CZ ..)) ⟨rfl, _, rfl⟩ (vr.mono _ _ _ (Ix.le_more ..))) (Y'.more P F' W')) (hn ▸ small h2)
theorem DZ {l : E} (hl : SL W b l) : SE W b (.lst l) := by
 intro x A E fr ix loc U s k Q hm a Y h q
 refine vn hm λ xs p hm => A2 hm λ h1 h2 => ZN (hl h1 a Y h λ jx vs u U' s' z h' vr hn Y' => Y'.op λ m pl mt P => ?_)
 exact qa <| newList_N P.F P.W (λ h'' F' W' => q _ _ _ _ _ (z.trans (Ix.le_more ..)) h' (.lst (.inl (CZ ..)) ⟨rfl, _, rfl⟩ (vr.mono _ _ _ (Ix.le_more ..))) (Y'.more P F' W')) (hn ▸ small h2)
theorem FS.ad_len {N : Nm} {prog : Program} {w : World} {fr : Frm} {ix : Ix} {loc : List (Option V)} {U : Mu} {h m pl mt} (P : Parts N prog w fr ix loc U h m pl mt) : ix.ad.length = U.length := by
 rw [<- P.ad, ee, P.P.length]
theorem jT {N : Nm} {prog : Program} {w : World} {fr : Frm} {ix : Ix} {loc : List (Option V)} {U : Mu} {h m pl mt} (P : Parts N prog w fr ix loc U h m pl mt) (a : Addr) : (ix.hand a).ad[U.length]? = some a := by
 rw [<- FS.ad_len P]
 show (ix.ad ++ [a])[ix.ad.length]? = some a
 simp
theorem GO {l : E} (hl : SL W b l) : SE W b (.lstH l) := by
 intro x A E fr ix loc U s k Q hm a Y h q
 refine vn hm λ xs p hm => A2 hm λ h1 h2 => ZN (hl h1 a Y h λ jx vs u U' s' z h' vr hn Y' => Y'.op λ m pl mt P => ?_)
 exact qa <| newList_N P.F P.W (λ h'' F' W' => q _ _ _ _ _ (z.trans (Ix.le_hand ..)) h' (.h (jT P _)) (Y'.hand P F' W' (.list ⟨rfl, _, rfl⟩ (vr.mono _ _ _ (Ix.le_hand ..))))) (hn ▸ small h2)
theorem Bb (is : List Int) (i : Nat) (h : i < is.length) : is[i] = is.getD (i : Int).toNat 0 := by simp [List.getD, h]
theorem GL {l : E} (hl : SL W b l) : SE W b (.rowH l) := by
 intro x A E fr ix loc U s k Q hm a Y h q
 refine vn hm λ xs p hm => A2 hm λ h1 h2 => ZN (hl h1 a Y h λ jx vs u U' s' z h' vr hn Y' => Y'.op λ m pl mt P => zL h' λ is e h' => ?_)
 exact qa <| newList_N P.F P.W (λ h'' F' W' => q _ _ _ _ _ (z.trans (Ix.le_hand ..)) h' (.rowL (jT P _)) (Y'.hand P F' W' (.rowL ⟨rfl, _, rfl⟩ (vr.ints e) (Bb is)))) (hn ▸ small h2)
theorem vO {n : Nat} (h : eY n 20 = true) : n < 30 := by have := CR h; omega
theorem Vi {l : E} (hl : SL W b l) {f : Value} (hk : keepIn W.K f = true) {xs : List Expr} {pos : Pos} {A : Around} {E : Value -> Shared -> Prop} {fr : Frm} {ix : Ix} {loc : List (Option V)} {U : Mu} {s : Shared} {k : V -> Mu -> Prop} {Q : Value -> Shared -> Prop} {first : List Value}
   (hm : yk W.N fr.c l xs = true) (a : At W b A fr) (Y : W.FS fr ix loc U s) (h : qx W.T loc l U k)
   (q : ∀ jx vs l' U' s', ix.Le jx -> k (.tup l') U' -> W.VRs jx vs l' -> W.FS fr jx loc U' s' -> wpAny W.M A (call f (first ++ vs)) Q E s') :
   wpAny W.M A (callWith pos f first (backTo pos (starEach xs fr.env)) []) Q E s := by
 cases xs with
 | nil => exact uQ (C := λ l => qx W.T loc l U k -> _) hm (λ h => Y.op λ m pl mt P => Xh (a.ok.2.1.keeps P.F.keep) hk (q ix [] _ _ _ (.refl _) h .nil Y)) h
 | cons x xs =>
   exact vG a.ok.2.1 hk (hl hm a Y h λ jx vs l' U' s' z h' vr _ Y' => Y'.op λ m pl mt P => ⟨a.ok.2.1.keeps P.F.keep, q jx _ _ _ _ z h' vr Y'⟩) (JL hm λ _ _ h1 _ _ => qh h1 _ _) (JL hm λ _ _ _ _ h2 => wK h2)
theorem Calls.wp (Hs : Calls W b) {f : Nat} {A : Around} {E : Value -> Shared -> Prop} {fr : Frm} {ix : Ix} {loc : List (Option V)} {U : Mu} {s : Shared} {args : List Value} {l : List V} {k : V -> Mu -> Prop} {Q : Value -> Shared -> Prop}
   (a : oz W b A fr) (Y : W.FS fr ix loc U s) (vr : W.VRs ix args l) (h : W.T.Γ f l U k) (q : W.Post fr ix loc k Q) : wpAny W.M A (call (.ref (W.N.fa f)) args) Q E s :=
 qM (Hs (R := λ r s' => match r with | .ok (.ret v) => Q v s' | .ok _ => False | .error e => E e s') a Y vr h q)
@[elab_as_elim] theorem UA {f : Nat} {l : E} {N : Nm} {c : Cx} {x : Expr} {C : Expr -> Prop} (hm : mE N c (.call f l) x = true) (g : ∀ as p q, N.isF f = true -> isG c (N.fn f) = true -> yk N c l as = true -> C (.Call (.Name (N.fn f) p) as [] q)) : C x :=
 yz hm λ y as ks q hm => A2 hm λ hk hm => Qy (C := λ ks => C (.Call y as ks q)) hk (ku (C := λ y => C (.Call y as [] q)) hm λ n p hm => A5 hm λ h1 h2 h3 h4 _ => by
   obtain rfl := eq_of_beq h2
   exact g as p q h1 h3 h4)
theorem Vh (G : W.Good) (Hs : Calls W b) {f : Nat} {l : E} (hl : SL W b l) {A : Around} {E : Value -> Shared -> Prop} {fr : Frm} {ix : Ix} {loc : List (Option V)} {U : Mu} {s : Shared} {k : V -> Mu -> Prop} {Q : Value -> Shared -> Prop} {as : List Expr} {p pos : Pos}
   (h1 : W.N.isF f = true) (hg : isG fr.c (W.N.fn f) = true) (hm : yk W.N fr.c l as = true) (a : At W b A fr) (Y : W.FS fr ix loc U s) (h : qx W.T loc (.call f l) U k) (q : W.Post fr ix loc k Q) : wpAny W.M A (eval (.Call (.Name (W.N.fn f) p) as [] pos) fr.env) Q E s :=
 have k1 := jb a.ok.1 hg
 Y.op λ m pl mt P => Yn (ot a.ok P.F (G.H.fn f h1).1 (Vi hl (G.H.fn f h1).2 hm a Y h λ jx vs l' U' s' z h' vr Y' => Calls.wp Hs a.toC Y' vr h' (q.le z)) k1.1 k1.2)
theorem GS (G : W.Good) (Hs : Calls W b) {f : Nat} {l : E} (hl : SL W b l) : SE W b (.call f l) := by
 intro x A E fr ix loc U s k Q hm a Y h q
 exact UA hm λ as p pos h1 h2 h3 => Vh G Hs hl h1 h2 h3 a Y h q
theorem Gz (G : W.Good) (Hs : Calls W b) {f : Nat} {l : E} (hl : SL W b l) : ST W b (.call f l) := by
 intro x A E fr ix loc U s k Q hm a Y h q
 exact UA hm λ as p pos h1 h2 h3 => zs (Vh G Hs hl h1 h2 h3 a Y h λ kx v' v U2 s2 z2 h2 vr2 Y2 => zy vr2 h2 λ c hc => q kx _ _ _ z2 hc Y2)
theorem jB {o : Expr} {name : Str} {apos pos : Pos} {args : List Expr} {env : Env} (h1 : zQ o = true) (h2 : (backTo pos (starEach args env)).all (!·.1) = true) (h3 : args.length < 30) (h4 : (apos.endLine == pos.line) = true) :
   eval (.Call (.Attribute o name apos) args [] pos) env = (do
     let ov <- eval o env
     standAt apos.atName
     let (f, first) <- holding [ov] (getMethod ov name (do return (<- importBound o env).getD true))
     callWith pos f first (backTo pos (starEach args env)) []) := by
 show (do
   let ov <- attributeBase o name env (eval o env)
   standAt apos.atName
   methodCall o name apos pos env ov (args.length + 0) (backTo pos (starEach args env)) []) = _
 have e : methodCallForm (args.length + 0) (backTo pos (starEach args env)) [] = true := by
   unfold methodCallForm
   rw [h2]
   simp [h3]
 rw [Vp h1]
 unfold methodCall
 simp only [e, calleeOf, methodCallPos, h4, Bool.or_true, if_true, IT, pure_bind]
theorem AD {o : Option V} {P C : Prop} (h : match o with | .none => P | some _ => False) (f : o = none -> P -> C) : C := by
 cases o with
 | none => exact f rfl h
 | some _ => exact h.elim
theorem GN (G : W.Good) (Hs : Calls W b) {m₀ : Nat} {o l : E} (ho : SE W b o) (hl : SL W b l) : SE W b (.meth o m₀ l) := by
 intro x A E fr ix loc U s k Q hm a Y h q
 refine yz hm λ y as ks pos hm => A2 hm λ hk hm => Qy hk (dS hm λ y n p hm => A6 hm λ hb h6 h5 h4 h3 h2 => ?_)
 rw [<- eq_of_beq h6]
 refine zI (ho h5 a Y h λ jx v' v U' s' z h' vr Y' => ?_) (jB hb (Ja h4) (vO h3) h2)
 have vr0 := vr
 revert vr0
 refine vr.qO h' λ c d x dx h' hf had vr0 => zL h' λ f hmt h' => Y'.op λ m pl mt P => P.hA had h' λ al es n e1 e3 hd hsz h' => AD h' λ hlk h' => ?_
 obtain ⟨g1, g2, g3, g4⟩ := G.H.mt _ _ _ hmt
 exact qa <| method_inst P.F a.ok.2.1 ⟨P.fz hf, rfl, rfl, e3⟩ g1 g2 g3 (hd.get0 G.H.an hlk) <| Vi hl g4 h4 a Y' h' λ kx vs l' U2 s2 z2 h2 vr2 Y2 =>
   Calls.wp Hs a.toC Y2 (.cons (VR.mono _ _ _ z2 vr0) vr2) h2 (q.le (z.trans z2))
theorem ue (G : W.Good) (Hs : Calls W b) {c₀ m₀ : Nat} {l : E} (hl : SL W b l) : SE W b (.cmeth c₀ m₀ l) := by
 intro x A E fr ix loc U s k Q hm a Y h q
 refine yz hm λ y as ks pos hm => A2 hm λ hk hm => Qy hk (dS hm λ y n ap hm => ku hm λ y p hm => A6 hm λ h1 h6 h5 h4 h3 h2 => zL h λ f hf h => ?_)
 obtain rfl := eq_of_beq h1
 obtain rfl := eq_of_beq h5
 obtain ⟨g1, g2, ⟨mc, g3, g4, g5⟩, g6⟩ := G.H.ct _ _ _ hf
 have k1 := jb a.ok.1 h6
 exact Y.op λ m pl mt P => zI (ot a.ok P.F g1 (qa <| method_of_cls P.F a.ok.2.1 g2 <| cls_val P.F a.ok.2.1 g3 g4 g5 rfl <|
   Vi hl g6 h4 a (Y.tok _) h λ kx vs l' U2 s2 z2 h2 vr2 Y2 => Calls.wp Hs a.toC Y2 vr2 h2 (q.le z2)) k1.1 k1.2) (jB rfl (Ja h4) (vO h3) h2)
end
section
variable {W : Wd} {b : Nat}
theorem Parts.grown {N : Nm} {prog : Program} {w : World} {fr : Frm} {ix : Ix} {loc : List (Option V)} {U : Mu} {h m pl mt} (Y : Parts N prog w fr ix loc U h m pl mt) {h' : Heap} (hk : ∀ b o, h.get? b = some o -> h'.get? b = some o) : Parts N prog w fr ix loc U h' m pl mt :=
 ⟨Y.F.grownK hk, Y.W.grown hk, Y.B, Y.bz, Y.ad, Y.P, Y.nd, Y.ap, Y.ak, Y.cs, Y.l⟩
theorem FS.grown {N : Nm} {prog : Program} {w : World} {fr : Frm} {ix : Ix} {loc : List (Option V)} {U : Mu} {s : Shared} (Y : Mi.FS N prog w fr ix loc U s) {h' : Heap} {tk : Nat} (hk : ∀ b o, s.heap.get? b = some o -> h'.get? b = some o) : Mi.FS N prog w fr ix loc U { s with heap := h', toks := tk } := by
 obtain ⟨⟨m, pl, mt, P⟩, g1, g2, g3⟩ := Y
 exact ⟨⟨m, pl, mt, P.grown hk⟩, g1, g2, g3⟩
theorem ON {h : Heap} {L : Addr} {m : Str -> Option Value} (n : h.Ns L m) : L ≠ h.objs.size := by
 cases e : h.get? L with
 | none => exact absurd e (by obtain ⟨_, _, _, e', _⟩ := n; rw [e']; simp)
 | some o => exact eF (eW e)
theorem uZ {n : Nat} (h : n <= 1000000) : ((n : Nat) : Int) < 2 ^ 63 := by omega
noncomputable def RL : Bi -> Value
 | .len => .builtin "len" | .min => .builtin "min" | .max => .builtin "max" | .abs => .builtin "abs" | .int => .type "int" | .sum => .builtin "sum" | .bytes => .type "bytes" | .bytearray => .type "bytearray" | .list => .type "list"
 | _ => .builtin "isinstance"
theorem Ho (a : Int) : (if a < 0 then -a else a) = a.natAbs := by omega
theorem uG {fr : Frm} {s : Shared} {m : Str -> Option Value} {N : Nm} {prog : Program} {w : World} {ix : Ix} {loc : List (Option V)} {U : Mu} {pl mt} (P : Mi.Parts N prog w fr ix loc U s.heap m pl mt) {h' : Heap} {o : Obj} (hk : ∀ b o, s.heap.get? b = some o -> h'.get? b = some o) (ho : h'.get? s.heap.objs.size = some o) :
   News fr.h₀ fr.L h' ((s.heap.objs.size, o) :: (pl ++ mt.map (·.2) ++ (ix.fz ++ fr.kz))) := λ p hp =>
 (eV.mp hp).elim (λ e => e ▸ ⟨ho, (ON P.F.ns).symm, Option.eq_none_iff_forall_ne_some.mpr λ o e => absurd rfl (eF (eW (P.F.keep _ _ e)))⟩) λ hp => (P.W.grown hk) p hp
theorem WQ {vs : List Value} {is : List Int} {xs} (hi : IntsAre vs is) (ex : vs.toArray = intItems xs) : preSum (numAt xs) xs.size = is.sum := by
 rw [preSum_eq, iE (by simp), <- nums_intItems, <- ex]
 show (numsOf _).sum = _
 rw [hi.numsOf]
section
variable {A : Around} {E : Value -> Shared -> Prop} {fr : Frm} {ix : Ix} {loc : List (Option V)} {U : Mu} {s : Shared} {k : V -> Mu -> Prop} {Q : Value -> Shared -> Prop}
theorem bL (G : W.Good) (Y : W.FS fr ix loc U s) {v : Value} {x : V} (vr : W.VR ix v x) (h : Fg x U k) (q : W.Post fr ix loc k Q) : wpAny W.M A (call (.builtin "len") [v]) Q E s :=
 Y.op λ m pl mt P => by
 cases x with
 | lst l => exact vr.xL λ a o vs hf t bs => qa <| len_list (FS.lstAt P hf t) (by simpa [bs.length] using uZ h.1) (q ix _ _ _ _ (.refl _) (by simpa [bs.length] using h.2) .int (Y.tok _))
 | tup l => exact vr.xT λ a o vs hf t bs => qa <| len_tuple (FS.tupAt P hf t) (by simpa [bs.length] using uZ h.1) (q ix _ _ _ _ (.refl _) (by simpa [bs.length] using h.2) .int (Y.tok _))
 | byt b => exact vr.xY λ t => qa <| len_bytes (CK h.1 (by decide)) (q ix _ _ _ _ (.refl _) h.2 .int (Y.tok _))
 | h d => exact vr.xH λ a had => P.hB had h λ b h1 h3 h => G.B.len h3 h.1 λ t tk => q ix _ _ _ _ (.refl _) h.2 .int (Y.tok _)
 | _ => exact False.elim h
theorem Bw (G : W.Good) (hd : A.handled = none) (Y : W.FS fr ix loc U s) {v : Value} {x : V} (vr : W.VR ix v x) (h : hX x U k) (q : W.Post fr ix loc k Q) : wpAny W.M A (call (.type "bytes") [v]) Q E s := by
 obtain ⟨⟨m, pl, mt, P⟩, g1, g2, g3⟩ := id Y
 cases x with
 | lst l =>
   exact vr.xL λ a o vs hf t bs => (bs.q1 (C := λ vs => LO o vs -> wpAny W.M A (call (.type "bytes") [.ref a]) Q E s) h λ u x ur h t => ur.qI (C := λ u => LO o [u] -> wpAny W.M A (call (.type "bytes") [.ref a]) Q E s) h (λ i t0 h t =>
     qa <| KBa.make_K P.F P.W hd (FS.lstAt P hf t) (.cons i t0 .nil) (λ n hn => (eS.mp hn).symm ▸ h.1) (by simp) λ h' t' k F' W' _ =>
       q ix _ _ _ _ (.refl _) h.2 .byt ⟨⟨m, pl, mt, ⟨F', W', P.B, P.bz, P.ad, P.P, P.nd, P.ap, P.ak, P.cs, P.l⟩⟩, g1, g2, g3⟩) t) t
 | h d => exact vr.xH λ a had => P.hB had h λ b h1 h3 h => G.B.bytes hd h3 h.1 λ h' t tk hk => q ix _ _ _ _ (.refl _) (h.2 _ rfl) .byt (Y.grown hk)
 | _ => exact False.elim h
theorem Hc (G : W.Good) {c : Bi} (hc : yN c = true) {vs : List Value} {l : List V}
   (a : At W b A fr) (Y : W.FS fr ix loc U s) (vr : W.VRs ix vs l) (h : He c l U k) (q : W.Post fr ix loc k Q) : wpAny W.M A (call (RL c) vs) Q E s := by
 obtain ⟨⟨m, pl, mt, P⟩, g1, g2, g3⟩ := id Y
 cases c with
 | len => exact vr.q1 h λ v x vx h => bL G Y vx h q
 | min => exact vr.q2 h λ v x u y v1 v2 h => v1.qI (C := λ v => wpAny W.M A (call _ [v, u]) Q E s) h λ i t h => v2.qI (C := λ u => wpAny W.M A (call _ [.int i t, u]) Q E s) h λ j t' h => qa <| min_two_ints a.R.hd λ h' tk hk => q ix _ _ _ _ (.refl _) h (by split <;> exact .int) (Y.grown hk)
 | max => exact vr.q2 h λ v x u y v1 v2 h => v1.qI (C := λ v => wpAny W.M A (call _ [v, u]) Q E s) h λ i t h => v2.qI (C := λ u => wpAny W.M A (call _ [.int i t, u]) Q E s) h λ j t' h => qa <| max_two_ints a.R.hd λ h' tk hk => q ix _ _ _ _ (.refl _) h (by split <;> exact .int) (Y.grown hk)
 | abs => exact vr.q1 h λ v x vx h => vx.qI (C := λ v => wpAny W.M A (call _ [v]) Q E s) h λ i t h => qa <| call_abs_int λ u tk => by rw [Ho]; exact q ix _ _ _ _ (.refl _) h .int (Y.tok _)
 | int => exact vr.q1 h λ v x vx h => vx.qB (C := λ v => wpAny W.M A (call _ [v]) Q E s) h λ t h => qa <| call_int_bool <| by cases t <;> exact q ix _ _ _ _ (.refl _) h .int (Y.tok _)
 | sum =>
   refine vr.q1 h λ v x vx h => vx.qL (C := λ v => wpAny W.M A (call _ [v]) Q E s) h λ l a1 o vs h hf t bs => h.elim λ is h => ?_
   have hi := bs.ints h.1
   obtain ⟨xs, ex⟩ := hi.allInts.items
   exact qa <| sum_intListG a.R.hd (ex ▸ FS.lstAt P hf t) λ h' tk t' hk => WQ hi ex ▸ q ix _ _ _ _ (.refl _) h.2 .int (Y.grown hk)
 | bytes => exact vr.q1 h λ v x vx h => Bw G a.R.hd Y vx h q
 | bytearray => exact vr.q0 h λ h => G.B.new λ h' hk ho => q _ _ _ _ _ (Ix.le_hand ..) h (.h (jT P _)) (Y.hand (tk := s.toks) (o := yi #[]) (x := .ba 0) P (P.F.grownK hk) (uG P hk ho) (OR.ba (b := #[])))
 | list =>
   refine vr.q1 h λ v x vx h => vx.qT (C := λ v => wpAny W.M A (call _ [v]) Q E s) h λ l a1 o vs h hf t bs => ?_
   obtain ⟨n, hd⟩ := t.2
   exact qa <| call_list_seq _ (.inr rfl) (P.fz hf) t.1 hd (λ h' c' hk ho => q _ _ _ _ _ (Ix.le_more ix (s.heap.objs.size, { cls := .type "list", dict := none, data := .seq _ c', slots := #[] })) h.2 (.lst (.inl (CZ ..)) ⟨rfl, c', rfl⟩ (bs.mono _ _ _ (Ix.le_more ..)))
     ⟨⟨m, pl, mt, P.more (P.F.grownK hk) (uG P hk ho)⟩, g1, g2, g3⟩) (by simpa [bs.length] using QF h.1)
 | _ => exact ff hc
end
noncomputable def CW (f : Value) : Prop := ∀ {M : Model} {A : Around} {E : Value -> Shared -> Prop} {s : Shared} {pos : Pos} {first : List Value} {args : List (Bool × Sem Value)} {Q : Value -> Shared -> Prop}, args.any (·.1) = false ->
   wpAny M A (evalArgs f true args []) (λ a s₁ => wpAny M A (call f (first ++ a.pos) a.kw) Q E s₁) E s -> wpAny M A (callWith pos f first args []) Q E s
theorem cw_builtin {id : String} : CW (.builtin id) := λ h q => Zv h q
theorem cw_type {T : String} : CW (.type T) := λ h q => YI h q
theorem cw_bi (c : Bi) : CW (RL c) := by
 cases c
 case int => exact @cw_type "int"
 case bytes => exact @cw_type "bytes"
 case bytearray => exact @cw_type "bytearray"
 case list => exact @cw_type "list"
 case len => exact @cw_builtin "len"
 case min => exact @cw_builtin "min"
 case max => exact @cw_builtin "max"
 case abs => exact @cw_builtin "abs"
 case sum => exact @cw_builtin "sum"
 all_goals exact @cw_builtin "isinstance"
theorem kD {l : E} (hl : SL W b l) {f : Value} (hf : CW f) {xs : List Expr} {pos : Pos} {A : Around} {E : Value -> Shared -> Prop} {fr : Frm} {ix : Ix} {loc : List (Option V)} {U : Mu} {s : Shared} {k : V -> Mu -> Prop} {Q : Value -> Shared -> Prop} {first : List Value}
   (hm : yk W.N fr.c l xs = true) (a : At W b A fr) (Y : W.FS fr ix loc U s) (h : qx W.T loc l U k)
   (q : ∀ jx vs l' U' s', ix.Le jx -> k (.tup l') U' -> W.VRs jx vs l' -> W.FS fr jx loc U' s' -> wpAny W.M A (call f (first ++ vs)) Q E s') :
   wpAny W.M A (callWith pos f first (backTo pos (starEach xs fr.env)) []) Q E s := by
 cases xs with
 | nil => exact uQ (C := λ l => qx W.T loc l U k -> _) hm (λ h => hf rfl (evalArgs_nil3 (q ix [] _ _ _ (.refl _) h .nil Y))) h
 | cons x xs =>
   have z := hl hm a Y h (pos := pos) (E := E) (Q := λ vs s₁ => wpAny W.M A (call f (first ++ vs)) Q E s₁) λ jx vs l' U' s' z h' vr _ Y' => q jx _ _ _ _ z h' vr Y'
   have e := JL (C := λ _ => starEach (x :: xs) fr.env = (false, eval x fr.env) :: starEach xs fr.env) hm λ _ _ h1 _ _ => qh h1 _ _
   rw [e] at z |-
   exact hf (JL (C := λ _ => ((false, eval x fr.env) :: backTo pos (starEach xs fr.env)).any (·.1) = false) hm λ _ _ _ _ h2 => wK h2) (qn z)
theorem yS (G : W.Good) {A : Around} {E : Value -> Shared -> Prop} {fr : Frm} {ix : Ix} {loc : List (Option V)} {U : Mu} {s : Shared} {x : Str} {v : Value} {pos : Pos} {Q : Value -> Shared -> Prop} (a : At W b A fr) (Y : W.FS fr ix loc U s) (hx : x ∈ yT) (hv : bootBuiltins x = some v) (hg : isG fr.c x = true)
   (h : Q v s) : wpAny W.M A (eval (.Name x pos) fr.env) Q E s := by
 obtain ⟨k1, k2⟩ := jb a.ok.1 hg
 obtain ⟨⟨m, pl, mt, P⟩, g⟩ := id Y
 exact AH a.ok P.F (G.H.bi x hx) hv (by rintro rfl; revert hx; decide +kernel) h k1 k2
theorem Bx : ∀ c : Bi, yN c = true -> bootBuiltins (zD c) = some (RL c) := by
 intro c h
 cases c <;> first | exact absurd h (by decide) | kernel_rfl
theorem Fa : ∀ c : Bi, yN c = true -> zD c ∈ yT := by
 intro c h
 cases c <;> first | exact absurd h (by decide) | decide +kernel
section
variable {N : Nm} {c : Cx} {d : Bi} {l : E} {x : Expr} {C : Expr -> Prop}
theorem pJ (h : mE N c (.bi d l) x = true) (f : ∀ p as q, isG c (zD d) = true -> (cond (yN d) (yk N c l as) (lc as λ v rs => l1 rs λ t => YG t λ t _ => JT d && (Str.ofString (Zs d) == t) && isG c t && qk v && yk N c l [v])) = true -> C (.Call (.Name (zD d) p) as [] q)) : C x :=
 yz h λ y as ks q hm => A2 hm λ hk hm => Qy (C := λ ks => C (.Call y as ks q)) hk (ku (C := λ y => C (.Call y as [] q)) hm λ n p hm => A3 hm λ h1 h2 h3 => by
   obtain rfl := eq_of_beq h1
   exact f p as q h2 h3)
@[elab_as_elim] theorem pG {as : List Expr} {C : List Expr -> Prop} (h : (lc as λ v rs => l1 rs λ t => YG t λ t _ => JT d && (Str.ofString (Zs d) == t) && isG c t && qk v && yk N c l [v]) = true) (f : ∀ v p, JT d = true -> isG c (.ofString (Zs d)) = true -> qk v = true -> yk N c l [v] = true -> C [v, .Name (.ofString (Zs d)) p]) : C as :=
 KM h λ v rs hm => Xw (C := λ rs => C (v :: rs)) hm λ t hm => ku (C := λ t => C [v, t]) hm λ n p hm => A5 hm λ h0 h5 h6 h4 h2 => by
   obtain rfl := eq_of_beq h5
   exact f v p h0 h6 h4 h2
end
theorem bQ {A : Around} {E : Value -> Shared -> Prop} {fr : Frm} {ix : Ix} {loc : List (Option V)} {U : Mu} {s : Shared} {d : Bi} (hd : JT d = true) {v : Value} {x : V} {k : V -> Mu -> Prop} {Q : Value -> Shared -> Prop}
   (Y : W.FS fr ix loc U s) (vr : W.VR ix v x) (h : He d [x] U k) (q : W.Post fr ix loc k Q) : wpAny W.M A (call (.builtin "isinstance") [v, .type (Zs d)]) Q E s := by
 cases d with
 | isInt => exact vr.qI (C := λ v => wpAny W.M A (call _ [v, _]) Q E s) h λ i t h => qa <| IsiPair.int_int (q ix _ _ _ _ (.refl _) h .bool Y)
 | isBool => exact vr.qI (C := λ v => wpAny W.M A (call _ [v, _]) Q E s) h λ i t h => qa <| IsiPair.int_bool (q ix _ _ _ _ (.refl _) h .bool (Y.tok _))
 | isTup => exact vr.qT (C := λ v => wpAny W.M A (call _ [v, _]) Q E s) h λ l a o vs h hf t bs => Y.op λ m pl mt P => qa <| call_isinstance_yes (Tx := "tuple") (FS.tupAt P hf t).typeIs F.isi_meta_tuple isSubtype_tuple_tuple (q ix _ _ _ _ (.refl _) h .bool Y)
 | _ => exact ff hd
theorem Uh {d : Bi} (hd : JT d = true) : zD d = "isinstance" /\ bootBuiltins (.ofString (Zs d)) = some (.type (Zs d)) /\ Str.ofString (Zs d) ∈ yT := by
 cases d <;> first | exact ff hd | exact ⟨rfl, by kernel_rfl, by decide +kernel⟩
theorem Ui (G : W.Good) {d : Bi} (hd : JT d = true) {e1 : E} (hl : SE W b e1) {v : Expr} {p p2 pos : Pos} {A : Around} {E : Value -> Shared -> Prop} {fr : Frm} {ix : Ix} {loc : List (Option V)} {U : Mu} {s : Shared} {k : V -> Mu -> Prop} {Q : Value -> Shared -> Prop}
   (hg : isG fr.c (zD d) = true) (hg2 : isG fr.c (.ofString (Zs d)) = true) (hs : qk v = true) (hm : mE W.N fr.c e1 v = true) (a : At W b A fr) (Y : W.FS fr ix loc U s) (h : qx W.T loc e1 U λ x U => He d [x] U k) (q : W.Post fr ix loc k Q) :
   wpAny W.M A (eval (.Call (.Name (zD d) p) [v, .Name (.ofString (Zs d)) p2] [] pos) fr.env) Q E s := by
 obtain ⟨n1, n2, n3⟩ := Uh hd
 refine Yn (yS G a Y (v := .builtin "isinstance") (by rw [n1]; decide +kernel) (by rw [n1]; kernel_rfl) hg ?_)
 rw [qh hs]
 exact cw_builtin rfl (qn (qt (hl hm a Y h λ jx v' x' U' s' z h' vr Y' => qr (yS G a Y' n3 n2 hg2 (spliced_none (bQ hd Y' vr h' (q.le z)))))))
theorem dj (G : W.Good) {d : Bi} {l : E} (hl : SL W b l) (hl1 : ∀ e1, l = .cons e1 .nil -> SE W b e1) : SE W b (.bi d l) := by
 intro x A E fr ix loc U s k Q hm a Y h q
 refine pJ (C := λ x => wpAny W.M A (eval x fr.env) Q E s) hm λ p as pos hg hm => ?_
 cases hd : yN d with
 | true =>
   rw [hd] at hm
   exact Yn (yS G a Y (Fa d hd) (Bx d hd) hg (kD hl (cw_bi d) hm a Y h λ jx vs l' U' s' z h' vr Y' => Hc G hd a Y' vr h' (q.le z)))
 | false =>
   rw [hd] at hm
   exact pG hm λ v p2 h0 h6 h4 h2 => JL (C := λ l => (∀ e1, l = .cons e1 .nil -> SE W b e1) -> qx W.T loc (.bi d l) U k -> wpAny W.M A (eval (.Call (.Name (zD d) p) [v, .Name (.ofString (Zs d)) p2] [] pos) fr.env) Q E s) h2
     (λ e1 es h1 h3 h2 => uQ (C := λ es => (∀ e2, Mi.E.cons e1 es = Mi.E.cons e2 .nil -> SE W b e2) -> qx W.T loc (.bi d (.cons e1 es)) U k -> wpAny W.M A (eval (.Call (.Name (zD d) p) [v, .Name (.ofString (Zs d)) p2] [] pos) fr.env) Q E s) h2
       λ hl1 h => Ui G h0 (hl1 e1 rfl) hg h6 h4 h3 a Y h q) hl1 h
end
section
variable {W : Wd} {b : Nat}
theorem Oe (G : W.Good) {d : Bi} {l : E} (hl : SL W b l) (hl1 : ∀ e1, l = .cons e1 .nil -> SE W b e1) : ST W b (.bi d l) := by
 intro x A E fr ix loc U s k Q hm a Y h q
 have z : wpAny W.M A (eval x fr.env) (λ v s₁ => wpAny W.M A (truthy v) Q E s₁) E s :=
   dj G hl hl1 hm a Y (k := λ v U => yp v λ t => k t U) h λ jx v' v U' s' z h'' vr Y' => zy vr h'' λ c hc => q jx _ _ _ z hc Y'
 exact pJ (C := λ x => wpAny W.M A (eval x fr.env) (λ v s₁ => wpAny W.M A (truthy v) Q E s₁) E s -> wpAny W.M A (isTrue x fr.env (eval x fr.env)) Q E s) hm (λ _ _ _ _ _ z => zs z) z
theorem uD {o : Option (Option V)} {F : List V -> Prop} {C : Prop} (h : ux o F) (f : ∀ l, o = some (some (.own l)) -> F l -> C) : C := by
 match o, h with
 | some (some v), h => cases v <;> first | exact f _ rfl h | exact False.elim h
theorem Vw (G : W.Good) (i : Nat) : SE W b (.lenOwn i) := by
 intro x A E fr ix loc U s k Q hm a Y h q
 refine yz hm λ y as ks pos hm => A2 hm λ hk hm => Qy hk (ku hm λ y p hm => Xw hm λ z hm => ku hm λ z p2 hm => A4 hm λ a3 h4 h3 h2 => uD h λ l e h => ?_)
 rw [<- eq_of_beq a3, <- eq_of_beq h2]
 have hk0 : fr.c.kd i = 0 := em h3
 refine Yn (yS G a Y (v := .builtin "len") (by decide +kernel) (by kernel_rfl) (eq_of_beq a3 ▸ h4) (cw_builtin rfl (qn (qt (Y.op λ m pl mt P => ?_)))))
 have x := P.l i _ (qE loc i ▸ e)
 exact x.own hk0 λ c n vs _ e1 e2 e4 => qa <| wpAny_Name (wpAny_loadName_local a.ok.1.fne (a.ok.1.kind0 hk0) P.F.ns e1 (spliced_nil (qa <| len_list ⟨_, (P.W _ (QQ e2)).1, rfl, _, rfl⟩ (by simpa [e4.length] using uZ h.1) (q ix _ _ _ _ (.refl _) (by simpa [e4.length] using h.2) .int (Y.tok _))))) (a.ok.1.dbg i x.lt)
theorem xh {fr : Frm} {h : Heap} {L : Addr} {news : List (Addr × Obj)} (ok : W.Ok fr) {p : Addr × Obj} (n : News fr.h₀ L h news) (hp : p ∈ news) : (p.1 == sysModules) = false := by
 obtain ⟨o, ho⟩ := ok.2.2.2
 cases e : (p.1 == sysModules) with
 | false => rfl
 | true =>
   have e' := eq_of_beq e
   have := (n p hp).2.2
   rw [e', ho] at this
   cases this
theorem Uo {N : Nm} {prog : Program} {w : World} {ix : Ix} (hi : ∀ a b, N.sn a = N.sn b -> a = b) {kvs : List (Str × Value)} {l : List (Nat × V)} (kr : Mi.KR N prog w ix kvs l) {a : Nat} {dv : Value} {d : V} (hd : Mi.VR N prog w ix dv d) {k : V -> Prop} (h : Fo (qQ a l) d k) :
   ∃ x, k x /\ Mi.VR N prog w ix ((valueAt kvs (N.sn a)).getD dv) x := by
 cases e : qQ a l with
 | none => rw [e] at h; exact ⟨_, h, by rw [kr.get0 hi e]; exact hd⟩
 | some v => rw [e] at h; exact (kr.get hi e).elim λ u z => ⟨_, h, by rw [z.1]; exact z.2⟩
theorem vf {i : Int} (h : 0 <= i) : ((Builtin.Int.intBits i : Nat) : Int) = (if i = 0 then (0 : Int) else ((i.toNat.log2 + 1 : Nat) : Int)) := by
 unfold Builtin.Int.intBits
 by_cases e : i = 0
 · subst e; rfl
 · have : (i == 0) = false := by simpa using e
   rw [this]
   simp only [Ee, if_false, e]
   rw [show i.natAbs = i.toNat by omega]
theorem hY (G : W.Good) {d : Bi} {l : E} (hl : SL W b l) {xs : List Expr} {pos : Pos} {pl : Sem Bool} {A : Around} {E : Value -> Shared -> Prop} {fr : Frm} {ix : Ix} {loc : List (Option V)} {U : Mu} {s : Shared} {k : V -> Mu -> Prop} {Q : Value -> Shared -> Prop} {v' : Value} {x : V}
   (hm : yk W.N fr.c l xs = true) (a : At W b A fr) (Y : W.FS fr ix loc U s) (vr : W.VR ix v' x) (h : qx W.T loc l U λ a U => pT a λ l => RJ d x l U k) (q : W.Post fr ix loc k Q)
   (ok : Ha d x U) : wpAny W.M A (getMethod v' (zD d) pl) (λ fx s₂ => wpAny W.M A (callWith pos fx.1 fx.2 (backTo pos (starEach xs fr.env)) []) Q E s₂) E s :=
 Y.op λ m ml mt P => by
 cases d with
 | get =>
   cases x with
   | dic dl =>
     refine vr.xD λ r o kvs af hd kr => ?_
     have hD0 : s.heap.DictOf (El W.prog W.w) _ _ := EC.mpr ⟨_, P.fz (.inl af), hd⟩
     refine qa <| getMethod_builtin hD0.typeIs PySem.F.plainAttrs_dict Ik PySem.F.type_dict_get hD0.mapOf.noDict <| kD hl cw_builtin hm a Y h λ jx vs l' U' s' z h' vr' Y' =>
       vr'.q2 h' λ v x u y v1 v2 h' => v1.qS (C := λ v => wpAny W.M A (call _ ([Value.ref r] ++ [v, u])) Q E s') h' λ n t h' => (Uo G.H.sn (kr.mono _ _ _ z) v2 h').elim λ g hg => Y'.op λ m2 ml2 mt2 P2 => ?_
     have hD : s'.heap.DictOf (El W.prog W.w) _ _ := EC.mpr ⟨_, P2.fz (z.Fz (.inl af)), hd⟩
     have hms := xh a.ok P2.W (CN _ (CO _ (z.fz _ af)))
     exact qa <| call_meetsIn Ik hD.typeIs PySem.F.entry_dict_get (PySem.F.args_dict_get_3 _ _ _) (meets_dict_get_default (strKind W.prog W.w) _ (strKind_is W.prog W.w _ _) hms _) ⟨_, hD.mapOf, q jx _ _ _ _ z hg.1 hg.2 (Y'.tok _)⟩
   | _ => exact False.elim ok
 | bitlen =>
   cases x with
   | int i =>
     exact vr.xI λ t => qa <| getMethod_int_bit_length <| kD hl cw_builtin hm a Y h λ jx vs l' U' s' z h' vr' Y' => vr'.q0 h' λ h' => qa <| call_int_bit_length <| by
       rw [vf h'.1]
       exact q jx _ _ _ _ z h'.2 .int (Y'.tok _)
   | _ => exact False.elim ok
 | append =>
   cases x with
   | h i =>
     exact vr.xH λ r had => P.hB had ok λ c e1 e2 _ => G.B.getApp e2 <| kD hl cw_builtin hm a Y h λ jx vs l' U' s' z h' vr' Y' => vr'.q1 h' λ v x v1 h' => Y'.op λ m2 ml2 mt2 P2 => P2.hB (z.at had) h' λ c' f1 f2 h' =>
       v1.qI (C := λ v => wpAny W.M A (call _ ([Value.ref r] ++ [v])) Q E s') h' λ j t h' => G.B.app a.R.hd f2 h'.1.2.2 h'.1.1 h'.1.2.1 λ h3 tk c'' hs hsb ho => q jx _ _ _ _ z h'.2 .none (Y'.turn P2 f1 hsb ho (hs ▸ .ba))
   | _ => exact False.elim ok
 | extend =>
   cases x with
   | h i =>
     exact vr.xH λ r had => P.hB had ok λ c e1 e2 _ => G.B.getExt e2 <| kD hl cw_builtin hm a Y h λ jx vs l' U' s' z h' vr' Y' => vr'.q1 h' λ v x v1 h' => Y'.op λ m2 ml2 mt2 P2 => P2.hB (z.at had) h' λ c' f1 f2 h' =>
       v1.qY (C := λ v => wpAny W.M A (call _ ([Value.ref r] ++ [v])) Q E s') h' λ j t h' => G.B.ext a.R.hd f2 h'.1 λ h3 tk c'' hs hsb ho => q jx _ _ _ _ z h'.2 .none (Y'.turn P2 f1 hsb ho (hs ▸ .ba))
   | _ => exact False.elim ok
 | _ => exact False.elim ok
theorem Ol (G : W.Good) {d : Bi} {o l : E} (ho : SE W b o) (hl : SL W b l) : SE W b (.bm d o l) := by
 intro x A E fr ix loc U s k Q hm a Y h q
 refine yz hm λ y as ks pos hm => A2 hm λ hk hm => Qy hk (dS hm λ y n p hm => A6 hm λ hb h6 h5 h4 h3 h2 => ?_)
 rw [<- eq_of_beq h6]
 exact zI (ho h5 a Y h λ jx v' v U' s' z h' vr Y' => hY G hl h4 a Y' vr h'.2 (q.le z) h'.1) (jB hb (Ja h4) (vO h3) h2)
end
section
variable {W : Wd} {b : Nat}
theorem jX.under {A : Around} (R : jX A b) (C : Addr) (vs : List Value) : gU (A.under (.builtin "type.__call__" ⟨.ref C :: vs, []⟩)) b :=
 ⟨R.hd, by have := R.dep; show (A.depth + 1) + 2 * b + 3 < recursionLimit; omega, by have := R.un; show (A.units + 1) + 12 * b + 96 < cLine; omega⟩
noncomputable def Ix.inst (ix : Ix) (dx x C : Addr) : Ix := { (ix.hand dx) with fz := (x, instObj C dx) :: ix.fz }
theorem Ix.le_inst (ix : Ix) (dx x C : Addr) : ix.Le (ix.inst dx x C) := ⟨⟨[dx], rfl⟩, rfl, λ _ h => CY _ h, rfl⟩
theorem Parts.inst {N : Nm} {prog : Program} {w : World} {fr : Frm} {ix : Ix} {loc : List (Option V)} {U : Mu} {h m pl mt} (Y : Parts N prog w fr ix loc U h m pl mt) {h' : Heap} {x dx C : Addr} (F : Fr fr.h₀ fr.L h' m)
   (W' : News fr.h₀ fr.L h' ((x, instObj C dx) :: (dx, dictOf [] 0) :: (pl ++ mt.map (·.2) ++ (ix.fz ++ fr.kz)))) (lt : ∀ p ∈ pl ++ mt.map (·.2) ++ (ix.fz ++ fr.kz), p.1 < dx) (hx : dx < x) :
   Parts N prog w fr (ix.inst dx x C) loc (U ++ [.attrs []]) h' m (pl ++ [(dx, dictOf [] 0)]) mt := by
 have P1 := Y.handG (x := .attrs []) (λ p hp => eF (lt p hp)) F (News.sub W' λ p hp => CY _ hp) (.attrs .nil (by decide))
 have e : ∀ p, p ∈ (pl ++ [(dx, dictOf [] 0)]) ++ mt.map (·.2) ++ ((ix.hand dx).fz ++ fr.kz) -> p = (dx, dictOf [] 0) \/ p ∈ pl ++ mt.map (·.2) ++ (ix.fz ++ fr.kz) := by
   intro p hp
   simp only [Ix.hand, CS, eV, Im, or_false] at hp |-
   rcases hp with ((hp | hp) | hp) | hp
   · exact .inr (.inl (.inl hp))
   · exact .inl hp
   · exact .inr (.inl (.inr hp))
   · exact .inr (.inr hp)
 refine P1.moreG (λ p hp => ?_) F (News.sub W' λ p hp => ?_)
 · rcases e p hp with rfl | hp
   · exact eF hx
   · exact eF (EP (lt p hp) hx)
 · rcases eV.mp hp with rfl | hp
   · exact CZ ..
   · rcases e p hp with rfl | hp
     · exact CY _ (CZ ..)
     · exact CY _ (CY _ hp)
theorem DY (G : W.Good) (Hs : Calls W b) {c : Nat} {l : E} (hl : SL W b l) : SE W b (.new c l) := by
 intro x A E fr ix loc U s k Q hm a Y h q
 refine yz hm λ y as ks pos hm => A2 hm λ hk hm => Qy hk (ku hm λ y p hm => A4 hm λ a3 h4 h3 h2 => zL h λ g hg h => zL h λ f hf h => ?_)
 obtain rfl := eq_of_beq a3
 have n := G.H.new _ _ (hf ▸ hg)
 have k1 := jb a.ok.1 h4
 refine Y.op λ m pl mt P => Yn (ot a.ok P.F n.1 (Vi hl n.2.1 h3 a Y h λ jx vs l' U' s' z h' vr Y' => Y'.op λ m2 pl2 mt2 P2 => UK P2.F a.ok.2.1 P2.W n.2.2.1 n.2.2.2.1 n.2.2.2.2 λ x dx h3' F3 W3 lt3 hx3 => ?_) k1.1 k1.2)
 have vself : W.VR (jx.inst dx x (W.N.ca c)) (.ref x) (.obj c U'.length) := .obj (.inl (CZ ..)) (jT P2 dx)
 exact Hs ⟨a.ok, a.R.under _ _⟩ (s := { s' with heap := h3' }) ⟨⟨_, _, _, P2.inst F3 W3 lt3 hx3⟩, Y'.gens, Y'.os, Y'.drawn⟩ (.cons vself (vr.mono _ _ _ (Ix.le_inst ..))) h' λ kx v' v U4 s4 z4 h4' vr4 Y4 =>
   vr4.qN h4' λ h4' => ⟨rfl, q kx _ _ _ _ ((z.trans (Ix.le_inst ..)).trans z4) h4' (vself.mono _ _ _ z4) Y4⟩
end
section
variable {W : Wd} {b : Nat}
noncomputable abbrev yy : Obj := { cls := .type "dict", data := .dict #[] }
theorem Frm.Ok.kz {fr : Frm} (ok : fr.Ok) (p : Addr × Obj) : Frm.Ok { fr with kz := p :: fr.kz } := ⟨ok.sc, ok.gl, ok.bn, ok.fn, ok.inj, ok.dbg, λ q hq => CY _ (ok.ck q hq), ok.cl⟩
theorem Parts.kzPush {N : Nm} {prog : Program} {w : World} {fr : Frm} {ix : Ix} {loc : List (Option V)} {U : Mu} {h m pl mt} (Y : Parts N prog w fr ix loc U h m pl mt) {h' : Heap} {d : Addr} {o : Obj} (F : Fr fr.h₀ fr.L h' m)
   (W' : News fr.h₀ fr.L h' ((d, o) :: (pl ++ mt.map (·.2) ++ (ix.fz ++ fr.kz)))) (nw : ∀ p ∈ pl ++ mt.map (·.2) ++ (ix.fz ++ fr.kz), p.1 ≠ d) :
   Parts N prog w { fr with kz := (d, o) :: fr.kz } ix loc U h' m pl mt :=
 ⟨F, News.sub W' λ p hp => m3 hp (λ h => i0 (i1 h)) (λ h => i0 (i2 h)) λ h => mc h (λ e => e ▸ ih) λ h => i0 (i3 h), Y.B, Y.bz, Y.ad, Y.P, Y.nd,
   λ p hp r hr => (CS.mp hr).elim (λ h => Y.ap p hp r (CO _ h)) λ h => mc h (λ e => e ▸ nw p (i1 hp)) λ h => Y.ap p hp r (CN _ h),
   λ p hp r hr => mc hr (λ e => e ▸ nw p (i2 hp)) λ h => Y.ak p hp r h, Y.cs, Y.l⟩
theorem Parts.kzFree {N : Nm} {prog : Program} {w : World} {fr : Frm} {ix : Ix} {loc : List (Option V)} {U : Mu} {h m pl mt} {d : Addr} {o o' : Obj} (Y : Parts N prog w { fr with kz := (d, o) :: fr.kz } ix loc U h m pl mt) {h' : Heap}
   (hs : Heap.SameBut d h h') (ho : h'.get? d = some o') (nk : ∀ q ∈ fr.kz, q.1 ≠ d) : Parts N prog w fr { ix with fz := (d, o') :: ix.fz } loc U h' m pl mt :=
 have q : ix.Le { ix with fz := (d, o') :: ix.fz } := ⟨⟨[], by simp⟩, rfl, λ p hp => CY _ hp, rfl⟩
 have hd := Y.W (d, o) (i3 ih)
 have n1 : ∀ p ∈ pl ++ mt.map (·.2), p.1 ≠ d := λ p hp => Y.ap p hp (d, o) (CN _ ih)
 have old : ∀ p, p.1 ≠ d -> p ∈ pl ++ mt.map (·.2) ++ (ix.fz ++ ((d, o) :: fr.kz)) -> h'.get? p.1 = some p.2 /\ p.1 ≠ fr.L /\ fr.h₀.get? p.1 = none := λ p ne hp => ⟨(hs.2 p.1 ne).trans (Y.W p hp).1, (Y.W p hp).2⟩
 ⟨⟨Y.F.ns.sameBut hs (Ne.symm hd.2.1), λ c x e => (hs.2 c λ z => qg ((z ▸ hd.2.2 : fr.h₀.get? c = none).symm.trans e)).trans (Y.F.keep c x e), Y.F.above⟩,
   λ p hp => m3 hp (λ h => old p (n1 p h) (i1 h)) (λ h => mc h (λ e => e ▸ ⟨ho, hd.2⟩) λ h => old p (Y.ak p h (d, o) ih) (i2 h)) λ h => old p (nk p h) (i3 (i0 h)), Y.B, Y.bz, Y.ad, Y.P.mono q, Y.nd,
   λ p hp r hr => (CS.mp hr).elim (λ h => mc h (λ e => e ▸ n1 p hp) λ h => Y.ap p hp r (CO _ h)) λ h => Y.ap p hp r (CN _ (i0 h)),
   λ p hp r hr => mc hp (λ e => e ▸ (nk r hr).symm) λ h => Y.ak p h r (i0 hr), Y.cs, λ i v e => jE.mono q (fr := fr) (Y.l i v e)⟩
noncomputable def SP (W : Wd) (b : Nat) (e : E) : Prop := ∀ {ks : List Nat} {keys : List (Option Expr)} {xs : List Expr} {pos : Pos} {A : Around} {E : Value -> Shared -> Prop} {fr : Frm} {ix : Ix} {loc : List (Option V)} {U : Mu} {s : Shared} {k : V -> Mu -> Prop} {Q : List (Value × Value) -> Shared -> Prop},
 ZD W.N ks keys = true -> keys.length = xs.length -> yk W.N fr.c e xs = true -> At W b A fr -> W.FS fr ix loc U s -> qx W.T loc e U k ->
 (∀ jx kvs ps l U' s', ix.Le jx -> k (.tup l) U' -> W.KR jx kvs (Xv ks l) -> kvs.map (·.1) = ks.map W.N.sn -> Carries (El W.prog W.w) ps kvs -> W.FS fr jx loc U' s' -> Q ps s') ->
 wpAny W.M A (evalPairs (pairTrees keys xs fr.env pos)) Q E s
@[elab_as_elim] theorem Kq {N : Nm} {k : Nat} {ks : List Nat} {keys : List (Option Expr)} (h : ZD N (k :: ks) keys = true) {C : List (Option Expr) -> Prop} (f : ∀ n p r, ZD N ks r = true -> C (some (.Constant (.str (N.sn k)) n p) :: r)) : C keys :=
 KM h λ o r h => rN (D := λ o => C (o :: r)) h λ x h => vo (C := λ x => C (some x :: r)) h λ c n p h => oA (C := λ c => C (some (.Constant c n p) :: r)) h λ y h => A2 h λ h1 h2 => by
   obtain rfl := eq_of_beq h1
   exact f n p r h2
theorem DO : SP W b .nil := by
 intro ks keys xs pos A E fr ix loc U s k Q hk hl hm a Y h q
 refine Qy (C := λ xs => keys.length = xs.length -> wpAny W.M A (evalPairs (pairTrees keys xs fr.env pos)) Q E s) hm (λ hl => ?_) hl
 cases keys with
 | cons _ _ => exact nomatch hl
 | nil =>
   cases ks with
   | cons _ _ => exact ff hk
   | nil => exact YC (q ix [] [] _ _ _ (.refl _) h .nil rfl trivial Y)
theorem GH {l r : E} (hl : SE W b l) (hr : SP W b r) : SP W b (.cons l r) := by
 intro ks keys xs pos A E fr ix loc U s k Q hk hlen hm a Y h q
 refine KM (C := λ xs => keys.length = xs.length -> wpAny W.M A (evalPairs (pairTrees keys xs fr.env pos)) Q E s) hm (λ x xs hm hlen => A3 hm λ h1 h3 h2 => ?_) hlen
 cases ks with
 | nil => exact Qy (C := λ keys => keys.length = xs.length + 1 -> wpAny W.M A (evalPairs (pairTrees keys (x :: xs) fr.env pos)) Q E s) hk (λ e => nomatch e) hlen
 | cons c ks =>
   refine Kq (C := λ keys => keys.length = xs.length + 1 -> wpAny W.M A (evalPairs (pairTrees keys (x :: xs) fr.env pos)) Q E s) hk (λ n p keys hk2 hlen => ?_) hlen
   show wpAny W.M A (evalPairs ((eval _ fr.env, do let x <- eval x fr.env; standAt pos; pure x) :: pairTrees keys xs fr.env pos)) Q E s
   exact JZ (qa <| wpAny_Constant_str <| wpAny_bind (ql (hl h3 a (Y.tok _) h (E := E) (Q := λ v' s' => wpAny W.M A (evalPairs (pairTrees keys xs fr.env pos)) (λ vs s₃ => Q ((_, v') :: vs) s₃) E s') λ jx v' v U' s' z h' vr Y' =>
     hr hk2 (Ia.inj hlen) h2 a Y' h' λ kx kvs ps l' U2 s2 z2 h2' kr ek car Y2 => q kx ((W.N.sn c, v') :: kvs) _ _ _ _ (z.trans z2) h2' (.cons (vr.mono _ _ _ z2) kr) (congrArg (W.N.sn c :: ·) ek) ⟨strKind_is W.prog W.w _ _, rfl, car⟩ Y2)
     (λ v s1 h1 => wpAny_bind (qd (wpAny_pure h1))) λ _ _ e => e))
theorem xi (H : Names W.N W.T) {ks : List Nat} : Kl ks = true -> (ks.map W.N.sn).Nodup := by
 induction ks with
 | nil => exact λ _ => .nil
 | cons a r ih => exact λ h => A2 h λ h1 h2 => eO.mpr ⟨λ hm => (CU.mp hm).elim λ c hc => by
     rw [Io.mpr ⟨c, hc.1, H.sn _ _ hc.2 ▸ lq c⟩] at h1
     exact ff h1, ih h2⟩
theorem wo {ks : List Nat} : ∀ {keys : List (Option Expr)}, ZD W.N ks keys = true -> keys.all (·.isSome) = true := by
 induction ks with
 | nil => exact λ h => Qy h rfl
 | cons k ks ih => exact λ h => Kq h λ n p r h => (ih h : r.all (·.isSome) = true)
theorem VQ {ks : List Nat} : ∀ {keys : List (Option Expr)}, ZD W.N ks keys = true -> ks.length = keys.length := by
 induction ks with
 | nil => exact λ h => Qy h rfl
 | cons k ks ih => exact λ h => Kq h λ n p r h => congrArg Ia (ih h)
theorem WF (ks : List Nat) : ∀ (l : List V), (Xv ks l).length <= ks.length := by
 induction ks with
 | nil => exact λ l => Ex _
 | cons k ks ih => exact λ l => match l with
   | [] => Ew _
   | v :: l => ia (ih l)
theorem xX : Obj.IsDictOf (El W.prog W.w) yy [] := by
 obtain ⟨o, ho, hd⟩ := EC.mp (Heap.DictOf.new (knd := El W.prog W.w) { objs := #[] })
 rw [EE _ rfl] at ho
 have e := Option.some.inj ho
 rw [<- e] at hd
 exact hd
theorem uw {α : Type} {l : List α} (h : iw 0 l.length = true) : l ≠ [] := by
 rintro rfl
 exact ff h
theorem fj (G : W.Good) {ks : List Nat} {l : E} (hl : SP W b l) : SE W b (.dic ks l) := by
 intro x A E fr ix loc U s k Q hm a Y h q
 obtain ⟨⟨m, pl, mt, P⟩, g1, g2, g3⟩ := id Y
 refine dR hm λ keys xs p hm => A6 hm λ a5 h6 h5 h4 h3 h2 => jY (knd := El W.prog W.w) (wo a5) (em h5) (uw h3) (CR h4) ?_
 have nw : ∀ p ∈ pl ++ mt.map (·.2) ++ (ix.fz ++ fr.kz), p.1 ≠ s.heap.objs.size := λ p hp => eF (News.lt P.W hp)
 refine hl (fr := { fr with kz := (s.heap.objs.size, yy) :: fr.kz }) a5 (em h5) h2 ⟨⟨a.ok.1.kz _, a.ok.2⟩, a.R, a.b1⟩ ⟨⟨m, pl, mt, P.kzPush (P.F.push yy) (P.W.push P.F yy) nw⟩, g1, g2, g3⟩ h λ jx kvs ps l' U' s' z h' kr ek car Y' => ?_
 obtain ⟨⟨m2, pl2, mt2, P2⟩, g4, g5, g6⟩ := Y'
 refine ⟨kvs, car, EC.mpr ⟨yy, (P2.W (s.heap.objs.size, yy) (i3 ih)).1, xX⟩, λ h3' hD hs => ?_⟩
 rw [merged_nil_of_nodup kvs (ek ▸ xi G.H.toNames h6)] at hD
 exact (EC.mp hD).elim λ o' z' => q _ _ _ _ _ (z.trans (Ix.le_more ..)) h' (.dic ih z'.2 (kr.mono _ _ _ (Ix.le_more ..))) ⟨⟨_, _, _, P2.kzFree hs z'.1 λ p hp => nw p (i3 hp)⟩, g4, g5, g6⟩
theorem OI {α : Type} {l : List α} {P C : Prop} (h : p0 l P) (f : l = [] -> P -> C) : C := by
 cases l with
 | nil => exact f rfl h
 | cons => exact h.elim
theorem GQ (G : W.Good) {ks : List Nat} {l : E} (hl : SP W b l) : SE W b (.dicH ks l) := by
 intro x A E fr ix loc U s k Q hm a Y h q
 obtain ⟨⟨m, pl, mt, P⟩, g1, g2, g3⟩ := id Y
 refine dR hm λ keys xs p hm => A6 hm λ a5 h6 h5 h4 h3 h2 => jY (knd := El W.prog W.w) (wo a5) (em h5) (uw h3) (CR h4) ?_
 refine hl a5 (em h5) h2 a ⟨⟨m, _, mt, P.hand (x := .dict []) (P.F.push yy) (P.W.push P.F yy) (.dict xX .nil (by decide))⟩, g1, g2, g3⟩ h λ jx kvs ps l' U' s' z h' kr ek car Y' => Y'.op λ m2 pl2 mt2 P2 =>
   have had := z.at (jT P s.heap.objs.size)
   P2.hD had h' λ l0 o kvs0 e1 e3 hd0 kr0 hz0 h' => OI h' λ e h' => ?_
 subst e
 have e0 := List.eq_nil_of_length_eq_zero kr0.length
 refine ⟨kvs, car, EC.mpr ⟨_, e3, e0 ▸ hd0⟩, λ h3' hD hs => ?_⟩
 rw [merged_nil_of_nodup kvs (ek ▸ xi G.H.toNames h6)] at hD
 exact (EC.mp hD).elim λ o' z' => q _ _ _ _ _ ((Ix.le_hand ..).trans z) h' (.h had) (Y'.turn P2 e1 hs z'.1 (.dict z'.2 kr (CK (WF ks l') (VQ a5 ▸ CK (CR h4) (by decide)))))
end
section
variable {N : Nm} {prog : Program} {w : World} {fr : Frm} {ix : Ix} {loc : List (Option V)} {U : Mu} {h h' : Heap} {m : Str -> Option Value} {pl : List (Addr × Obj)} {mt : List (Nat × Addr × Obj)}
theorem Parts.kzTo (Y : Parts N prog w fr ix loc U h m pl mt) (kz : List (Addr × Obj)) {I : Addr} (hk : ∀ b x, b ≠ I -> h.get? b = some x -> h'.get? b = some x) (hI : ∃ o, (I, o) ∈ fr.kz)
   (h2 : ∀ q ∈ kz, (q ∈ fr.kz /\ q.1 ≠ I) \/ (q.1 = I /\ h'.get? I = some q.2)) : Parts N prog w { fr with kz := kz } ix loc U h' m pl mt :=
 hI.elim λ o hI =>
 have hd := Y.W (I, o) (i3 hI)
 have n1 : ∀ p ∈ pl ++ mt.map (·.2), p.1 ≠ I := λ p hp => Y.ap p hp (I, o) (CN _ hI)
 have old : ∀ p : Addr × Obj, p.1 ≠ I -> p ∈ pl ++ mt.map (·.2) ++ (ix.fz ++ fr.kz) -> h'.get? p.1 = some p.2 /\ p.1 ≠ fr.L /\ fr.h₀.get? p.1 = none := λ p ne hp => ⟨hk _ _ ne (Y.W p hp).1, (Y.W p hp).2⟩
 ⟨⟨Y.F.ns.at' λ x e => hk _ _ (Ne.symm hd.2.1) e, λ c x e => hk _ _ (λ z => qg ((z ▸ hd.2.2 : fr.h₀.get? c = none).symm.trans e)) (Y.F.keep c x e), Y.F.above⟩,
   λ p hp => m3 hp (λ h => old p (n1 p h) (i1 h)) (λ h => old p (Y.ak p h (I, o) hI) (i2 h)) λ h => (h2 p h).elim (λ z => old p z.2 (i3 z.1)) λ z => z.1.symm ▸ ⟨z.2, hd.2⟩, Y.B, Y.bz, Y.ad, Y.P, Y.nd,
   λ p hp r hr => (CS.mp hr).elim (λ h => Y.ap p hp r (CO _ h)) λ h => (h2 r h).elim (λ z => Y.ap p hp r (CN _ z.1)) λ z => z.1.symm ▸ n1 p hp,
   λ p hp r hr => (h2 r hr).elim (λ z => Y.ak p hp r z.1) λ z => z.1.symm ▸ Y.ak p hp (I, o) hI, Y.cs, Y.l⟩
theorem Parts.kzSub (Y : Parts N prog w fr ix loc U h m pl mt) {kz : List (Addr × Obj)} (hs : ∀ q ∈ kz, q ∈ fr.kz) : Parts N prog w { fr with kz := kz } ix loc U h m pl mt :=
 ⟨Y.F, λ p hp => m3 hp (λ h => Y.W p (i1 h)) (λ h => Y.W p (i2 h)) λ h => Y.W p (i3 (hs p h)), Y.B, Y.bz, Y.ad, Y.P, Y.nd,
   λ p hp r hr => (CS.mp hr).elim (λ h => Y.ap p hp r (CO _ h)) λ h => Y.ap p hp r (CN _ (hs r h)), λ p hp r hr => Y.ak p hp r (hs r hr), Y.cs, Y.l⟩
end
noncomputable def kL (xs : List Nat) (a b : List (Option V)) : Prop := a.length = b.length /\ ∀ j, j ∉ xs -> a[j]? = b[j]?
theorem kO (a : List (Option V)) (x : Nat) (v : Option V) : (qy a x v).length = a.length := by rw [qZ, Iu]
theorem XB {a : List (Option V)} {x j : Nat} {v : Option V} (h : ¬ x = j) : (qy a x v)[j]? = a[j]? := by rw [qZ, iL, if_neg h]
theorem ZL {xs : List Nat} : ∀ {l : List V} {a b : List (Option V)}, kL xs a b -> bindL xs l a = bindL xs l b := by
 induction xs with
 | nil => exact λ {l a b} h => (List.ext_getElem? λ j => h.2 j Im : a = b) ▸ rfl
 | cons x xs ih =>
   exact λ {l a b} h => match l with
     | [] => rfl
     | v :: l => ih ⟨by rw [kO, kO]; exact h.1, λ j hj => by
         by_cases e : x = j
         · rw [qZ, qZ, iL, iL, h.1, if_pos e, if_pos e]
         · rw [XB e, XB e]; exact h.2 j λ hm => mc hm (λ q => e q.symm) hj⟩
theorem Yf {xs : List Nat} : ∀ {l : List V} {a b : List (Option V)}, bindL xs l a = some b -> kL xs b a := by
 induction xs with
 | nil => exact λ {l a b} h => match l, h with
   | [], h => Option.some.inj h ▸ ⟨rfl, λ _ _ => rfl⟩
   | _ :: _, h => qg h
 | cons x xs ih => exact λ {l a b} h => match l, h with
   | [], h => qg h
   | v :: l, h => have z := ih (l := l) (a := qy a x (some v)) h; ⟨z.1.trans (kO ..), λ j hj => (z.2 j λ q => hj (i0 q)).trans (XB λ e => hj (e ▸ CZ ..))⟩
theorem Ws {xs : List Nat} : ∀ {l : List V} {a b : List (Option V)}, bindL xs l a = some b -> xs.length = l.length := by
 induction xs with
 | nil => exact λ {l a b} h => match l, h with
   | [], h => rfl
   | _ :: _, h => qg h
 | cons x xs ih => exact λ {l a b} h => match l, h with
   | [], h => qg h
   | v :: l, h => congrArg Ia (ih (l := l) h)
noncomputable def bw (xs : List Nat) (a : List (Option V)) : List (Option V) := xs.foldl (λ a x => a.set x none) a
theorem XV (xs : List Nat) : ∀ (a : List (Option V)), kL xs (bw xs a) a := by
 induction xs with
 | nil => exact λ a => ⟨rfl, λ _ _ => rfl⟩
 | cons x xs ih => exact λ a => ⟨(ih _).1.trans (Iu ..), λ j hj => ((ih (a.set x none)).2 j λ q => hj (i0 q)).trans (by rw [iL, if_neg (show ¬ x = j from λ e => hj (e ▸ CZ ..))])⟩
theorem VP (xs : List Nat) : ∀ (a : List (Option V)) (j : Nat) (v : V), (bw xs a)[j]? = some (some v) -> j ∉ xs /\ a[j]? = some (some v) := by
 induction xs with
 | nil => exact λ a j v h => ⟨Im, h⟩
 | cons x xs ih =>
   intro a j v h
   obtain ⟨h1, h2⟩ := ih (a.set x none) j v h
   rw [iL] at h2
   by_cases e : x = j
   · rw [if_pos e] at h2
     split at h2 <;> cases h2
   · rw [if_neg e] at h2
     exact ⟨λ hm => mc hm (λ q => e q.symm) h1, h2⟩
theorem Xl {xs : List Nat} {one : Bool} {v : V} {a b : List (Option V)} (h : kL xs a b) : zx xs one v a = zx xs one v b := by
 cases one with
 | true => exact ZL h
 | false => cases v <;> first | rfl | exact ZL h
theorem vL {xs : List Nat} {one : Bool} {v : V} {a b : List (Option V)} (h : zx xs one v a = some b) : kL xs b a := by
 cases one with
 | true => exact Yf (l := [v]) h
 | false => cases v <;> first | exact Yf h | exact qg h
section
variable {W : Wd} {b : Nat}
theorem vJ {A : Around} {E : Value -> Shared -> Prop} {fr : Frm} (ok : fr.Ok) {ix : Ix} {U : Mu} {Q : Unit -> Shared -> Prop} {xs : List Nat} : ∀ {elts : List Expr} {vs : List Value} {l : List V} {loc loc' : List (Option V)} {s : Shared},
   JK fr.c xs elts = true -> W.VRs ix vs l -> bindL xs l loc = some loc' -> W.FS fr ix loc U s -> (∀ s', W.FS fr ix loc' U s' -> Q () s') -> wpAny W.M A (assignInOrder ((assignEach elts fr.env).map (·.2)) vs) Q E s := by
 induction xs with
 | nil =>
   intro elts vs l loc loc' s hm vr hb Y q
   cases l with
   | nil => exact vr.eln (C := λ vs => wpAny W.M A (assignInOrder ((assignEach elts fr.env).map (·.2)) vs) Q E s) (Qy (C := λ elts => wpAny W.M A (assignInOrder ((assignEach elts fr.env).map (·.2)) []) Q E s) hm (wpAny_pure (q _ (Option.some.inj hb ▸ Y))))
   | cons => exact qg hb
 | cons x xs ih =>
   intro elts vs l loc loc' s hm vr hb Y q
   cases l with
   | nil => exact qg hb
   | cons v l =>
     exact vr.elc (C := λ vs => wpAny W.M A (assignInOrder ((assignEach elts fr.env).map (·.2)) vs) Q E s) λ v' vs v1 vr => KM (C := λ elts => wpAny W.M A (assignInOrder ((assignEach elts fr.env).map (·.2)) (v' :: vs)) Q E s) hm λ t elts hm =>
       ku (C := λ t => wpAny W.M A (assignInOrder ((assignEach (t :: elts) fr.env).map (·.2)) (v' :: vs)) Q E s) hm λ y p hm => A4 hm λ h4 h5 h3 h2 => eq_of_beq h3 ▸
         wpAny_bind (qc (zl (FS.store ok Y (CR h4) (em h5) v1 λ s' Y' => ih h2 vr hb Y' q)))
theorem Yl {c : Cx} {env : Env} {xs : List Nat} : ∀ {elts : List Expr}, JK c xs elts = true -> (assignEach elts env).length = elts.length /\ (assignEach elts env).findIdx? (·.1) = none := by
 induction xs with
 | nil => exact λ h => Qy (C := λ elts => (assignEach elts env).length = elts.length /\ (assignEach elts env).findIdx? (·.1) = none) h ⟨rfl, rfl⟩
 | cons x xs ih =>
   exact λ h => KM (C := λ elts => (assignEach elts env).length = elts.length /\ (assignEach elts env).findIdx? (·.1) = none) h λ t r h => ku (C := λ t => (assignEach (t :: r) env).length = r.length + 1 /\ (assignEach (t :: r) env).findIdx? (·.1) = none) h λ y p h =>
     have z := ih (QY h).2
     ⟨congrArg Ia z.1, by
       show List.findIdx? (·.1) ((false, assign (.Name y p) env) :: assignEach r env) = none
       rw [List.findIdx?_cons, z.2]; rfl⟩
theorem Ye {A : Around} {E : Value -> Shared -> Prop} {fr : Frm} (ok : fr.Ok) (hh : A.handled = none) {ix : Ix} {U : Mu} {Q : Unit -> Shared -> Prop} {xs : List Nat} {one : Bool} {t : Expr} {v' : Value} {v : V} {loc loc' : List (Option V)} {s : Shared}
   (hm : zr fr.c xs one t = true) (vr : W.VR ix v' v) (hb : zx xs one v loc = some loc') (Y : W.FS fr ix loc U s) (q : ∀ s', W.FS fr ix loc' U s' -> Q () s') : wpAny W.M A (assign t fr.env v') Q E s := by
 cases one with
 | true =>
   cases xs with
   | nil => exact ff hm
   | cons x xs =>
     cases xs with
     | cons => exact qg hb
     | nil => exact ku (x := t) hm λ y p hm => A4 hm λ h4 h5 h3 _ => eq_of_beq h3 ▸ zl (FS.store ok Y (CR h4) (em h5) vr λ s' Y' => q s' (Option.some.inj hb ▸ Y'))
 | false =>
   refine Kx (x := t) hm λ elts _ p hm => A2 hm λ h1 h2 => ?_
   cases v with
   | tup l =>
     exact vr.xT λ a o vs hf t0 bs => Y.op λ m pl mt P =>
       have z := Yl (env := fr.env) h1
       zU hh (FS.tupAt P hf t0) (by rw [z.1, <- em h2, Ws hb, <- bs.length]; simp) z.2 λ h' he => vJ ok h1 bs hb (Y.grown λ c o e => he c o (eF (eW e)) e : W.FS fr ix loc U { s with heap := h' }) q
   | _ => exact qg hb
noncomputable def yU (o : Obj) : Prop := ∃ n vs, o.cls = .type n /\ o.data = .fields vs /\ ["enumerate", "zip", "dict_itemiterator", "dict_reverseitemiterator", "odict_iterator", "itertools.zip_longest", "itertools.pairwise"].contains n = false
theorem ZF {A : Around} {E : Value -> Shared -> Prop} {s : Shared} {t : Expr} {I : Addr} {o : Obj} {v : Value} {Q : Unit -> Shared -> Prop} (ho : s.heap.get? I = some o) (hp : yU o) (h : Q () s) : wpAny W.M A (letOwnedTupleGo t (.ref I) v) Q E s := by
 obtain ⟨n, vs, e1, e2, e3⟩ := hp
 have z : ∀ a, wpAny W.M A (do
     let o <- load I
     match o.cls, o.data with
     | .type n, .fields vs =>
       if ["enumerate", "zip", "dict_itemiterator", "dict_reverseitemiterator", "odict_iterator", "itertools.zip_longest", "itertools.pairwise"].contains n && vs[0]? == some (rawInt a) then
         rule "for.unpacks-the-owned-tuple"
         updateField I 0 .none
     | _, _ => pure ()) Q E s := λ a => wpAny_bind (qa <| wpAny_load ho (by
       rw [e1, e2]
       simp only [e3, Bool.false_and, Ee, if_false]
       exact wpAny_pure h))
 have y : wpAny W.M A (letOwnedTupleGo (.Tuple [] 0 default) (.ref I) v) Q E s := by
   cases v with
   | ref a => exact z a
   | _ => exact wpAny_pure h
 cases t <;> first | exact wpAny_pure h | exact y
end
theorem XS {fr : Frm} (ok : fr.Ok) (scope : Scope) : relabel scope fr.env = QN scope fr.c := by
 unfold relabel QN Env.kindOf
 rw [ok.sc]
noncomputable def zt (env : Env) : List (Str × NameKind) -> List (Str × Addr) -> List (Str × Addr)
 | [], cs => cs
 | (n, k) :: r, cs => if k == .free then (match env.cells.lookup n with | some a => zt env r ((n, a) :: cs) | none => zt env r cs) else zt env r cs
theorem vw {env : Env} {names : List (Str × NameKind)} : ∀ (cs : List (Str × Addr)), (∀ x ∈ names, x.2 = .free -> ∃ a, env.cells.lookup x.1 = some a) ->
   (forIn names cs λ (x : Str × NameKind) cs => (if x.2 == .free then do let a <- cellOf env x.1; pure (ForInStep.yield ((x.1, a) :: cs)) else pure (ForInStep.yield cs) : Sem _)) = pure (zt env names cs) := by
 induction names with
 | nil => exact λ cs _ => rfl
 | cons x r ih =>
   intro cs h
   have hr := λ cs => ih cs λ x hx => h x (i0 hx)
   rw [List.forIn_cons]
   cases hk : (x.2 == .free) with
   | true =>
     obtain ⟨a, ha⟩ := h x (CZ ..) (eq_of_beq hk)
     simp only [if_true, cellOf, ha, pure_bind, zt, hk]
     exact hr _
   | false =>
     simp only [if_false, pure_bind, zt, Ee, hk]
     exact hr _
theorem vy {env : Env} {scope : Scope} (h : ∀ x ∈ scope.names, x.2 = .free -> ∃ a, env.cells.lookup x.1 = some a) : closureFor scope env = pure (zt env scope.names []) := by
 have z := vw (env := env) [] h
 unfold closureFor
 show (forIn scope.names [] (λ x r => _) >>= λ cs => pure cs) = _
 rw [bind_pure]
 exact z
theorem ZI {env : Env} {n : Str} {a : Addr} (e : env.cells.lookup n = some a) {names : List (Str × NameKind)} : ∀ (cs : List (Str × Addr)), (cs.lookup n = some a \/ ∃ x ∈ names, x.1 = n /\ x.2 = .free) -> (zt env names cs).lookup n = some a := by
 induction names with
 | nil => exact λ cs h => h.elim id λ h => h.elim λ _ h => nomatch h.1
 | cons x r ih =>
   intro cs h
   have cut : ∀ {C : Prop}, (x.1 = n -> x.2 = .free -> C) -> (((∃ y ∈ r, y.1 = n /\ y.2 = .free)) -> C) -> (cs.lookup n = some a -> C) -> C := λ f g k => h.elim k λ h => h.elim λ y h => mc h.1 (λ q => f (q ▸ h.2.1) (q ▸ h.2.2)) λ hy => g ⟨y, hy, h.2⟩
   obtain ⟨y, k⟩ := x
   unfold zt
   cases hk : (k == .free) with
   | false => exact ih cs (cut (λ _ q => by rw [show k = .free from q] at hk; exact ff (hk.symm.trans rfl)) .inr .inl)
   | true =>
     rw [if_pos rfl]
     cases hy : env.cells.lookup y with
     | none => exact ih cs (cut (λ q _ => qg (hy.symm.trans ((show y = n from q) ▸ e))) .inr .inl)
     | some c =>
       refine ih ((y, c) :: cs) ?_
       cases hny : (n == y) with
       | true =>
         rw [eq_of_beq hny, hy] at e
         exact .inl (by rw [IX, hny]; exact e)
       | false => exact cut (λ q _ => by rw [show y = n from q, beq_self_eq_true] at hny; exact ff hny.symm) .inr λ h => .inl (by rw [IX, hny]; exact h)
section
variable {W : Wd} {b : Nat}
noncomputable def Frm.inner (fr : Frm) (scope : Scope) (C : Addr) (kz ck : List (Addr × Obj)) : Frm :=
 { c := fr.c.comp scope, h₀ := fr.h₀, env := compEnvC scope (zt fr.env scope.names []) C fr.env, kz := kz, ck := ck, cm := true, gens := fr.gens, os := fr.os, drawn := fr.drawn }
end
section
variable {W : Wd} {b : Nat}
noncomputable abbrev jQ (fr : Frm) (mt : List (Nat × Addr × Obj)) (D I : Addr) (oD oI oL : Obj) : List (Addr × Obj) := (D, oD) :: (I, oI) :: (fr.L, oL) :: (mt.map (·.2) ++ fr.kz)
noncomputable abbrev vz (fr : Frm) (mt : List (Nat × Addr × Obj)) : List (Addr × Obj) := mt.map (·.2) ++ fr.ck
theorem zh {h : Heap} {a : Addr} (e : h.objs.size <= a) : h.get? a = none := by
 cases q : h.get? a with
 | none => rfl
 | some o => exact absurd (eW q) (Ea.mpr e)
section
variable {N : Nm} {prog : Program} {w : World} {fr : Frm} {ix jx : Ix} {loc loc' : List (Option V)} {U U' : Mu} {H h h' : Heap} {m₀ m : Str -> Option Value} {pl₀ pl : List (Addr × Obj)} {mt mt' : List (Nat × Addr × Obj)} {D I C : Addr} {oD oI oI' oL : Obj} {scope : Scope}
theorem Parts.leave (ok : fr.Ok) (P₀ : Parts N prog w { fr with kz := (I, oI) :: fr.kz } ix loc U H m₀ pl₀ mt) (hL : H.get? fr.L = some oL) (hD : D = H.objs.size) (q : ix.Le jx) {kzv ck : List (Addr × Obj)}
   (mD : (D, oD) ∈ kzv) (mL : (fr.L, oL) ∈ kzv) (mmt : ∀ p ∈ mt.map (·.2), p ∈ kzv) (mkz : ∀ p ∈ fr.kz, p ∈ kzv)
   (P : Parts N prog w (fr.inner scope C kzv ck) jx loc' U' h m pl mt') (hs : Heap.SameBut C h h') :
   Parts N prog w fr { jx with fz := (D, oD) :: jx.fz } loc U' h' m₀ pl mt :=
 have q2 : ix.Le { jx with fz := (D, oD) :: jx.fz } := q.trans (Ix.le_more jx (D, oD))
 have old : ∀ p, p ∈ pl ++ mt'.map (·.2) ++ (jx.fz ++ kzv) -> h'.get? p.1 = some p.2 /\ fr.h₀.get? p.1 = none := λ p hp => have z := P.W p hp; ⟨(hs.2 _ z.2.1).trans z.1, z.2.2⟩
 have kzW : ∀ p ∈ kzv, h'.get? p.1 = some p.2 /\ fr.h₀.get? p.1 = none := λ p hp => old p (i3 hp)
 have plkz : ∀ p ∈ pl, ∀ r ∈ kzv, p.1 ≠ r.1 := λ p hp r hr => P.ap p (CO _ hp) r (CN _ hr)
 have fzkz : ∀ p ∈ jx.fz, ∀ r ∈ kzv, p.1 ≠ r.1 := P.ak
 have m0 : ∀ {p}, p ∈ mt.map (·.2) -> p ∈ pl₀ ++ mt.map (·.2) ++ (ix.fz ++ ((I, oI) :: fr.kz)) := λ hp => i1 (CN _ hp)
 have k0 : ∀ {p}, p ∈ fr.kz -> p ∈ pl₀ ++ mt.map (·.2) ++ (ix.fz ++ ((I, oI) :: fr.kz)) := λ hp => i3 (i0 hp)
 have DL : D ≠ fr.L := hD ▸ (eF (eW hL)).symm
 have ltD : ∀ p ∈ pl₀ ++ mt.map (·.2) ++ (ix.fz ++ ((I, oI) :: fr.kz)), p.1 ≠ D := λ p hp => hD ▸ eF (eW (P₀.W p hp).1)
 have n1 := Ep.mp (eK ▸ P.nd)
 have n2 := Ep.mp (eK ▸ P₀.nd)
 ⟨⟨P₀.F.ns.at' λ o e => Option.some.inj (hL.symm.trans e) ▸ (kzW _ mL).1, λ c x e => (hs.2 c λ z => qg ((z ▸ zh P.F.above : fr.h₀.get? c = none).symm.trans e)).trans (P.F.keep c x e), P₀.F.above⟩,
   λ p hp => m3 hp (λ hp => (CS.mp hp).elim (λ hp => have z := old p (i1 (CO _ hp)); ⟨z.1, plkz p hp _ mL, z.2⟩) λ hp => have z := kzW p (mmt p hp); ⟨z.1, (P₀.W p (m0 hp)).2.1, z.2⟩)
     (λ hp => mc hp (λ e => e ▸ ⟨(kzW _ mD).1, DL, (kzW _ mD).2⟩) λ hp => have z := old p (i2 hp); ⟨z.1, fzkz p hp _ mL, z.2⟩) λ hp => have z := kzW p (mkz p hp); ⟨z.1, (P₀.W p (k0 hp)).2.1, z.2⟩,
   P.B, P.bz, P.ad, P.P.mono (Ix.le_more jx (D, oD)),
   eK ▸ Ep.mpr ⟨n1.1, n2.2.1, λ x hx y hy e => (CU.mp hx).elim λ p hp => (CU.mp hy).elim λ r hr => plkz p hp.1 r (mmt r hr.1) (hp.2.trans (e.trans hr.2.symm))⟩,
   λ p hp r hr => (CS.mp hp).elim (λ hp => (CS.mp hr).elim (λ hr => mc hr (λ e => e ▸ plkz p hp _ mD) λ hr => P.ap p (CO _ hp) r (CO _ hr)) λ hr => plkz p hp r (mkz r hr))
     λ hp => (CS.mp hr).elim (λ hr => mc hr (λ e => e ▸ ltD p (m0 hp)) λ hr => (fzkz r hr p (mmt p hp)).symm) λ hr => P₀.ap p (CN _ hp) r (CN _ (i0 hr)),
   λ p hp r hr => mc hp (λ e => e ▸ (ltD r (k0 hr)).symm) λ hp => fzkz p hp r (mkz r hr), P₀.cs, λ i v e => jE.mono q2 (fr := fr) (P₀.l i v e)⟩
theorem mem_of_lookup {α : Type} {n : Str} {v : α} {l : List (Str × α)} : l.lookup n = some v -> (n, v) ∈ l := by
 induction l with
 | nil => exact qg
 | cons x r ih =>
   intro h
   rw [IX] at h
   cases e : (n == x.1) with
   | true => rw [e] at h; exact Option.some.inj h ▸ eq_of_beq e ▸ CZ ..
   | false => rw [e] at h; exact i0 (ih h)
theorem jn {c : Cx} {scope : Scope} {x : Str × NameKind} (h : ki c scope x = true) {C : Prop} (f : x.2 = .local -> scope.names.lookup x.1 = some .local -> C) (g : ∀ i, x.2 = .free -> c.cs.names.lookup x.1 = some .cell -> i < c.n -> c.nl i = x.1 -> C) (k : x.2 = .globalImplicit -> C) : C :=
 (iY.mp h).elim (λ h => (iY.mp h).elim (λ h => A2 h λ h1 h2 => f (eq_of_beq h1) (eq_of_beq h2))
   λ h => A3 h λ h3 h4 h2 => (Io.mp h2).elim λ i hi => g i (eq_of_beq h3) (eq_of_beq h4) (Ez.mp hi.1) (eq_of_beq hi.2)) λ h => k (eq_of_beq h)
theorem Xd {c : Cx} {scope : Scope} {i : Nat} (h : scope.names.all (ki c scope) = true)
   (hk : (c.comp scope).kd i = 1) : ∃ y ∈ scope.names, y.1 = c.nl i /\ y.2 = .free /\ c.cs.names.lookup (c.nl i) = some .cell :=
 xJ hk (λ e => nomatch e) (λ _ hl => by
   obtain ⟨⟨n, k⟩, hy, e⟩ := CU.mp (mem_of_lookup (l := (QN scope c).names) hl)
   have z := @jn c scope (n, k) (Eh.mp h _ hy)
   dsimp only at e
   by_cases hc : (k == .free && c.cs.kind == .function && c.cs.names.lookup n == some .cell) = true
   · rw [if_pos hc] at e
     obtain rfl := congrArg Prod.fst e
     exact A3 hc λ h3 _ h2 => ⟨_, hy, rfl, eq_of_beq h3, eq_of_beq h2⟩
   · rw [if_neg hc] at e
     have e : k = .cell := congrArg Prod.snd e
     exact z (λ q => nomatch e.symm.trans q) (λ _ q => nomatch e.symm.trans q) λ q => nomatch e.symm.trans q) λ e => nomatch e
theorem va {c : Cx} {i : Nat} (h : c.cs.names.lookup (c.nl i) = some .cell) : c.kd i = 1 := by unfold Cx.kd; rw [h]
theorem Frm.inner_ok {fr : Frm} (ok : fr.Ok) {scope : Scope} (hk : scope.kind = .function) (h : scope.names.all (ki fr.c scope) = true) {C : Addr} {kz ck : List (Addr × Obj)} (hc : ∀ p ∈ ck, p ∈ kz) : (fr.inner scope C kz ck).Ok :=
 ⟨XS ok scope, ok.gl, ok.bn, hk, ok.inj, ok.dbg, hc, λ i hi hk1 => (Xd h hk1).elim λ y z => (ok.cl i hi (va z.2.2.2)).imp λ c hc => ZI hc [] (.inr ⟨y, z.1, z.2.1, z.2.2.1⟩)⟩
theorem Vf {fr : Frm} (ok : fr.Ok) {scope : Scope} (h : scope.names.all (ki fr.c scope) = true) : closureFor scope fr.env = pure (zt fr.env scope.names []) :=
 vy λ x hx e => jn (Eh.mp h _ hx) (λ q => nomatch e.symm.trans q) (λ i _ z hi en => en ▸ ok.cl i hi (va (en ▸ z))) λ q => nomatch e.symm.trans q
theorem Parts.enter (ok : fr.Ok) {xs : List Nat} (P₀ : Parts N prog w { fr with kz := (I, oI) :: fr.kz } ix loc U H m₀ pl₀ mt) (hL : H.get? fr.L = some oL) (hD : D = H.objs.size) (hCD : D < C) (hk : ∀ c x, H.get? c = some x -> h.get? c = some x)
   (hoD : h.get? D = some oD) (hns : h.Ns C (λ _ => none)) (hsc : Jv fr.c scope xs = true) :
   Parts N prog w (fr.inner scope C (jQ fr mt D I oD oI oL) (vz fr mt)) ix (bw xs loc) U h (λ _ => none) pl₀ [] :=
 have lt : ∀ p ∈ pl₀ ++ mt.map (·.2) ++ (ix.fz ++ ((I, oI) :: fr.kz)), p.1 < D := λ p hp => hD ▸ eW (P₀.W p hp).1
 have LD : fr.L < D := hD ▸ eW hL
 have h0D : fr.h₀.get? D = none := zh (eP (eE P₀.F.above LD))
 have old : ∀ p ∈ pl₀ ++ mt.map (·.2) ++ (ix.fz ++ ((I, oI) :: fr.kz)), h.get? p.1 = some p.2 /\ p.1 ≠ C /\ fr.h₀.get? p.1 = none := λ p hp =>
   ⟨hk _ _ (P₀.W p hp).1, eF (EP (lt p hp) hCD), (P₀.W p hp).2.2⟩
 have kzc : ∀ {p}, p ∈ jQ fr mt D I oD oI oL -> ∀ {C : Prop}, (p = (D, oD) -> C) -> (p = (fr.L, oL) -> C) -> (p ∈ mt.map (·.2) -> C) -> (p ∈ (I, oI) :: fr.kz -> C) -> C := λ hp _ f g k l =>
   mc hp f λ hp => mc hp (λ e => l (e ▸ CZ ..)) λ hp => mc hp g λ hp => (CS.mp hp).elim k λ hp => l (i0 hp)
 have j2 : ∀ {p}, p ∈ mt.map (·.2) -> p ∈ pl₀ ++ mt.map (·.2) ++ (ix.fz ++ ((I, oI) :: fr.kz)) := λ hp => i1 (CN _ hp)
 have j1 : ∀ {p}, p ∈ pl₀ ++ ([] : List (Nat × Addr × Obj)).map (·.2) -> p ∈ pl₀ := λ hp => (CS.mp hp).elim id λ h => nomatch h
 have n := Ep.mp (eK ▸ P₀.nd)
 ⟨⟨hns, λ c x e => hk c x (P₀.F.keep c x e), eP (eE P₀.F.above (EP LD hCD))⟩,
   λ p hp => m3 hp (λ hp => old p (i1 (CO _ (j1 hp)))) (λ hp => old p (i2 hp)) λ hp => kzc hp (λ e => e ▸ ⟨hoD, eF hCD, h0D⟩) (λ e => e ▸ ⟨hk _ _ hL, eF (EP LD hCD), zh P₀.F.above⟩) (λ hp => old p (j2 hp)) λ hp => old p (i3 hp),
   P₀.B, P₀.bz, P₀.ad, P₀.P, by rw [List.map_nil, Iv]; exact n.1,
   λ p hp r hr => (CS.mp hr).elim (λ hr => P₀.ap p (CO _ (j1 hp)) r (CO _ hr)) λ hr => kzc hr (λ e => e ▸ eF (lt p (i1 (CO _ (j1 hp))))) (λ e => e ▸ (P₀.W p (i1 (CO _ (j1 hp)))).2.1)
     (λ hr => n.2.2 p.1 (CU.mpr ⟨p, j1 hp, rfl⟩) r.1 (CU.mpr ⟨r, hr, rfl⟩)) λ hr => P₀.ap p (CO _ (j1 hp)) r (CN _ hr),
   λ p hp r hr => kzc hr (λ e => e ▸ eF (lt p (i2 hp))) (λ e => e ▸ (P₀.W p (i2 hp)).2.1) (λ hr => (P₀.ap r (CN _ hr) p (CO _ hp)).symm) λ hr => P₀.ak p hp r hr,
   λ i _ _ e => Bool.noConfusion e, λ i v e => A4 hsc λ z5 z6 z4 z2 =>
     have e' := VP xs loc i v e
     have x := P₀.l i v e'.2
     ⟨x.lt, λ (hk0 : (fr.c.comp scope).kd i = 0) => by
       have w1 := Eh.mp z4 i (Ez.mpr x.lt)
       rw [hk0] at w1
       exact (Io.mp (w1 : xs.any (eB i) = true)).elim λ j hj => absurd (em hj.2 ▸ hj.1) e'.1,
      λ hk1 => (Xd z6 hk1).elim λ y z => (x.cell (va z.2.2.2)).imp λ t g => ⟨ZI g.cl [] (.inr ⟨y, z.1, z.2.1, z.2.2.1⟩), by
       have f2 := g.mt
       cases q : fr.cm with
       | true => rw [q] at f2; exact CN _ f2
       | false => rw [q] at f2; exact CO _ (CU.mpr ⟨_, f2, rfl⟩), g.cv, g.vr⟩⟩⟩
end
end
section
variable {W : Wd} {b : Nat}
noncomputable def Je (ix : Ix) (I : Addr) (fp : List Addr) : Prop := ∀ c ∈ fp, c = I \/ ∃ o, ix.Fz (c, o)
theorem vj {ix jx kx : Ix} {I : Addr} {fp : List Addr} (hf : Je ix I fp) {fr fr' : Frm} {loc loc' : List (Option V)} {U U' : Mu} {s s' : Shared} {oI : Obj} (z : ix.Le jx) (z' : ix.Le kx)
   (Y : W.FS fr jx loc U s) (Y' : W.FS fr' kx loc' U' s') (h0 : fr.h₀ = fr'.h₀) (hI : (I, oI) ∈ fr.kz) (hI' : (I, oI) ∈ fr'.kz) : ∀ c ∈ fp, ∀ o, s.heap.get? c = some o -> s'.heap.get? c = some o := λ c hc o e =>
 Y.op λ m pl mt P => Y'.op λ m' pl' mt' P' => (hf c hc).elim (λ q => by
   subst q
   exact (P'.W _ (i3 hI')).1.trans ((P.W _ (i3 hI)).1.symm.trans e)) λ q => q.elim λ o' hz => (P'.fz (z'.Fz hz)).trans ((P.fz (z.Fz hz)).symm.trans e)
theorem FS.kzTo {fr : Frm} {ix : Ix} {loc : List (Option V)} {U : Mu} {s : Shared} (Y : W.FS fr ix loc U s) (kz : List (Addr × Obj)) {I : Addr} {h' : Heap} {tk : Nat} (hk : ∀ b x, b ≠ I -> s.heap.get? b = some x -> h'.get? b = some x) (hI : ∃ o, (I, o) ∈ fr.kz)
   (h2 : ∀ q ∈ kz, (q ∈ fr.kz /\ q.1 ≠ I) \/ (q.1 = I /\ h'.get? I = some q.2)) : W.FS { fr with kz := kz } ix loc U { s with heap := h', toks := tk } := by
 obtain ⟨⟨m, pl, mt, P⟩, g1, g2, g3⟩ := Y
 exact ⟨⟨m, pl, mt, P.kzTo kz hk hI h2⟩, g1, g2, g3⟩
theorem Wi {step : V -> Mu -> (V -> Mu -> Prop) -> Prop} {l : List V} {i : Nat} {x : V} {U : Mu} {k : List V -> Mu -> Prop} (e : l[i]? = some x) (h : YE step (l.drop i) U k) :
   step x U λ y U => YE step (l.drop (i + 1)) U λ r U => k (y :: r) U := by
 have : l.drop i = x :: l.drop (i + 1) := by
   obtain ⟨hlt, e'⟩ := Ef.mp e
   rw [List.drop_eq_getElem_cons hlt, e']
 rw [this] at h
 exact h
theorem Wl {step : V -> Mu -> (V -> Mu -> Prop) -> Prop} {l : List V} {i : Nat} {U : Mu} {k : List V -> Mu -> Prop} (e : l.length <= i) (h : YE step (l.drop i) U k) : k [] U := by
 rw [List.drop_eq_nil_of_le e] at h
 exact h
theorem dG {fr : Frm} {mt : List (Nat × Addr × Obj)} {D I : Addr} {oD oI oL : Obj} {p : Addr × Obj} {C : Prop} (h : p ∈ jQ fr mt D I oD oI oL) (f : p = (D, oD) -> C) (g : p = (I, oI) -> C) (k : p = (fr.L, oL) -> C) (l : p ∈ mt.map (·.2) -> C) (n : p ∈ fr.kz -> C) : C :=
 mc h f λ h => mc h g λ h => mc h k λ h => (CS.mp h).elim l n
section
variable {fr : Frm} {mt : List (Nat × Addr × Obj)} {D I : Addr} {oD oI oL : Obj} {p : Addr × Obj}
theorem Uc : (I, oI) ∈ jQ fr mt D I oD oI oL := i0 ih
theorem Fi : (fr.L, oL) ∈ jQ fr mt D I oD oI oL := i0 (i0 ih)
theorem bN (h : p ∈ mt.map (·.2)) : p ∈ jQ fr mt D I oD oI oL := i0 (i0 (i0 (CO _ h)))
theorem bO (h : p ∈ fr.kz) : p ∈ jQ fr mt D I oD oI oL := i0 (i0 (i0 (CN _ h)))
end
inductive aS (W : Wd) (fr : Frm) (scope : Scope) (xs : List Nat) (e : E) (step : V -> Mu -> (V -> Mu -> Prop) -> Prop) (kf : V -> Mu -> Prop) (loc : List (Option V)) (ix : Ix) (l : List V) (n : Nat) (St : Nat -> Heap -> Prop) (mt : List (Nat × Addr × Obj)) (D I C : Addr) (oL : Obj) (k : Nat) (s : Shared) : Prop
 | mk (i : Nat) (jx : Ix) (loc' : List (Option V)) (U : Mu) (acc : List V) (vs : List Value) (oD oI : Obj) (hk : k = n + 1 - i) (hi : i <= n) (z : ix.Le jx) (ag : kL xs loc' loc) (st : St i s.heap)
   (Y : W.FS (fr.inner scope C (jQ fr mt D I oD oI oL) (vz fr mt)) jx loc' U s) (lo : LO oD vs) (vr : W.VRs jx vs acc) (hv : vs.length = i) (hw : YE step (l.drop i) U λ r U => kf (.lst (acc ++ r)) U)
theorem sub_lt {n i : Nat} (h : i < n) : n + 1 - (i + 1) < n + 1 - i := Nat.sub_lt_sub_left (IJ h) (iU i)
theorem aY {i n : Nat} (h : i <= n) (hn : n <= 1000000) : i < 1000000000 := eE (CK h hn) (by decide)
theorem Wm {e : E} (he : SE W b e) {elt tgt iter : Expr} {xs : List Nat} {one : Bool} {scope : Scope} {pos : Pos} {A : Around} {E : Value -> Shared -> Prop} {fr : Frm} {ix : Ix} {loc : List (Option V)} {U : Mu} {s : Shared} {kf : V -> Mu -> Prop} {Q : Value -> Shared -> Prop}
   {I : Addr} {oI : Obj} {fp : List Addr} {n : Nat} {Pt : Nat -> Value -> Prop} {St : Nat -> Heap -> Prop} {l : List V}
   (nk : ∀ q ∈ fr.kz, q.1 ≠ I) (a : At W b A fr) (hsc : Jv fr.c scope xs = true) (hm : mE W.N (fr.c.comp scope) e elt = true) (ht : zr (fr.c.comp scope) xs one tgt = true)
   (Y : W.FS { fr with kz := (I, oI) :: fr.kz } ix loc U s) (Wk : Walks W.prog W.w A I fp [I] n Pt St) (hst : St 0 s.heap) (hn : n <= 1000000) (hio : ∀ i h, St i h -> ∃ o, h.get? I = some o /\ yU o) (hf : Je ix I fp)
   (hl : l.length = n) (hP : ∀ i v', i < n -> Pt i v' -> ∃ x, l[i]? = some x /\ W.VR ix v' x)
   (h : YE (λ v U k => oS (zx xs one v loc) λ loc => qx W.T loc e U k) l U λ l U => kf (.lst l) U) (q : W.Post fr ix loc kf Q) :
   wpAny W.M A (newList []) (λ acc s₃ => wpAny W.M A (newFunctionEnv scope fr.env.globals (zt fr.env scope.names []) [] fr.env.qual none .none (some fr.env)) (λ cenv s₄ =>
     codeAny W.M A (.compStart (.ListComp elt [⟨tgt, iter, [], 0⟩] scope pos) 0 (.ref I) acc { cenv with scope := relabel scope fr.env }) (QV Q acc cenv.locals) s₄) E s₃) E s := by
 obtain ⟨⟨m₀, pl₀, mt, P₀⟩, g1, g2, g3⟩ := id Y
 obtain ⟨z3, z4⟩ := QY (QY hsc).1
 obtain ⟨z5, z6⟩ := QY z3
 have hkind : scope.kind = .function := eq_of_beq z5
 have hcell : ∀ x ∈ scope.names, x.2 ≠ .cell := λ x hx e => jn (Eh.mp z6 _ hx) (λ q => nomatch e.symm.trans q) (λ _ q => nomatch e.symm.trans q) λ q => nomatch e.symm.trans q
 obtain ⟨oL, hL⟩ : ∃ oL, s.heap.get? fr.L = some oL := by obtain ⟨o, _, _, e, _⟩ := P₀.F.ns; exact ⟨o, e⟩
 refine qa <| wpAny_newObj_type (qa <| wpAny_newFunctionEnv hcell (λ y hy => nomatch hy) (λ h₁ hns₁ hsb₁ => ?_) hkind)
 dsimp only at hns₁ hsb₁ |-
 generalize hH2 : s.heap.push { cls := .type "list", dict := none, data := .seq ([] : List Value).toArray } = H2 at hns₁ hsb₁ |-
 have hDC : s.heap.objs.size < H2.objs.size := by rw [<- hH2, Heap.size_push]; exact iU _
 have old : ∀ c o, s.heap.get? c = some o -> h₁.get? c = some o := λ c o e =>
   hsb₁.extBut c o (eF (EP (eW e) hDC)) (Es _ (hH2 ▸ Es _ e))
 have hacc : h₁.get? s.heap.objs.size = some (qV [] 0) :=
   hsb₁.extBut _ _ (eF hDC) (Es _ (hH2 ▸ EE _ rfl))
 have hst₁ : St 0 h₁ := Wk.frame _ _ _ hst λ c _ o e => old c o e
 generalize hDs : s.heap.objs.size = D at *
 generalize H2.objs.size = C at *
 have P₁ := P₀.enter a.ok.1 (scope := scope) (xs := xs) hL hDs.symm hDC old hacc hns₁ hsc
 have a' : ∀ (oD oI : Obj), At W b A (fr.inner scope C (jQ fr mt D I oD oI oL) (vz fr mt)) := λ oD oI =>
   ⟨⟨Frm.inner_ok a.ok.1 hkind z6 λ p hp => (CS.mp hp).elim bN λ hp => bO (a.ok.1.ck p hp), a.ok.2⟩, a.R, a.b1⟩
 have ltA : ∀ p ∈ pl₀ ++ mt.map (·.2) ++ (ix.fz ++ ((I, oI) :: fr.kz)), p.1 ≠ D := λ p hp => hDs ▸ eF (eW (P₀.W p hp).1)
 have ltL : fr.L ≠ D := hDs ▸ eF (eW hL)
 have IneL : fr.L ≠ I := (P₀.W (I, oI) (i3 ih)).2.1.symm
 have ltI : I ≠ D := ltA (I, oI) (i3 ih)
 have mtI : ∀ p ∈ mt.map (·.2), p.1 ≠ I := λ p hp => P₀.ap p (CN _ hp) (I, oI) (CN _ ih)
 have repI : ∀ (oD oI₁ oI₂ : Obj) (h' : Heap), h'.get? I = some oI₂ -> ∀ p ∈ jQ fr mt D I oD oI₂ oL, (p ∈ jQ fr mt D I oD oI₁ oL /\ p.1 ≠ I) \/ (p.1 = I /\ h'.get? I = some p.2) := λ oD oI₁ oI₂ h' ho p hp =>
   dG hp (λ e => .inl ⟨e ▸ ih, e ▸ ltI.symm⟩) (λ e => .inr (e ▸ ⟨rfl, ho⟩)) (λ e => .inl ⟨e ▸ Fi, e ▸ IneL⟩) (λ h => .inl ⟨bN h, mtI p h⟩) λ h => .inl ⟨bO h, nk p h⟩
 have repD : ∀ (oD₁ oD₂ oI₁ : Obj) (h' : Heap), h'.get? D = some oD₂ -> ∀ p ∈ jQ fr mt D I oD₂ oI₁ oL, (p ∈ jQ fr mt D I oD₁ oI₁ oL /\ p.1 ≠ D) \/ (p.1 = D /\ h'.get? D = some p.2) := λ oD₁ oD₂ oI₁ h' ho p hp =>
   dG hp (λ e => .inr (e ▸ ⟨rfl, ho⟩)) (λ e => .inl ⟨e ▸ Uc, e ▸ ltI⟩) (λ e => .inl ⟨e ▸ Fi, e ▸ ltL⟩) (λ h => .inl ⟨bN h, ltA p (i1 (CN _ h))⟩) λ h => .inl ⟨bO h, ltA p (i3 (i0 h))⟩
 have loop : ∀ s₃ : Shared, s₃ = { s with heap := h₁, toks := s.toks + ([] : List (Str × Value)).length } ->
     codeAny W.M A (.compLoop (.ListComp elt [⟨tgt, iter, [], 0⟩] scope pos) 0 (.ref I) (.ref D) (compEnvC scope (zt fr.env scope.names []) C fr.env)) (QV Q (.ref D) C) s₃ := by
   rintro s₃ rfl
   refine yB (aS W fr scope xs e (λ v U k => oS (zx xs one v loc) λ loc => qx W.T loc e U k) kf loc ix l n St mt D I C oL) ?_ (n + 1)
     ⟨0, ix, bw xs loc, U, [], [], qV [] 0, oI, rfl, Ew _, .refl _, XV xs loc, hst₁, ⟨⟨_, _, _, P₁⟩, g1, g2, g3⟩, ⟨rfl, _, rfl⟩, .nil, rfl, h⟩
   rintro k s' ⟨i, jx, loc', U', acc, vs, oD, oI', rfl, hi, z, ag, st, Y', lo, vr, hv, hw⟩
   rcases Nat.lt_or_eq_of_le hi with hin | rfl
   · refine qa <| Wk.item i s' _ _ hin st λ v' h2 tk hp st2 hk2 => (hio _ _ st2).elim λ oI2 h3 => (hP i v' hin hp).elim λ x hx => ZF h3.1 h3.2 (zL (Wi hx.1 hw) λ loc2 hb hw' => ?_)
     have Y2 : W.FS (fr.inner scope C (jQ fr mt D I oD oI2 oL) (vz fr mt)) jx loc' U' { s' with heap := h2, toks := tk } :=
       FS.kzTo Y' (jQ fr mt D I oD oI2 oL) (I := I) (λ c o hne e => hk2 c o (λ q => hne (eS.mp q)) e) ⟨_, Uc⟩ (repI oD oI' oI2 h2 h3.1)
     refine Ye (fr := fr.inner scope C (jQ fr mt D I oD oI2 oL) (vz fr mt)) (a' oD oI2).ok.1 a.R.hd ht (hx.2.mono _ _ _ z) ((Xl ag).trans hb) Y2 λ s3 Y3 =>
       he (fr := fr.inner scope C (jQ fr mt D I oD oI2 oL) (vz fr mt)) hm (a' oD oI2) Y3 hw' λ kx y' y U4 s4 z4 hy yr Y4 => Y4.op λ m4 pl4 mt4 P4 =>
       qa <| wpAny_list_append ⟨oD, (P4.W (D, oD) (i3 ih)).1, lo.1, lo.2⟩ (λ h5 hl5 hs5 => ?_) (by simpa [hv] using QF (CK hi hn))
     obtain ⟨oD5, ho5, c5, n5, d5⟩ := hl5
     have Y5 : W.FS (fr.inner scope C (jQ fr mt D I oD5 oI2 oL) (vz fr mt)) kx loc2 U4 { s4 with heap := h5, toks := s4.toks } :=
       FS.kzTo Y4 (jQ fr mt D I oD5 oI2 oL) (I := D) (λ c o hne e => (hs5.2 c hne).trans e) ⟨oD, ih⟩ (repD oD oD5 oI2 h5 ho5)
     exact ⟨n + 1 - (i + 1), sub_lt hin, i + 1, kx, loc2, U4, acc ++ [y], vs ++ [y'], oD5, oI2, rfl, hin, z.trans z4, vL hb,
       Wk.frame _ _ _ st2 (vj (s := { s' with heap := h2, toks := tk }) (s' := { s4 with heap := h5, toks := s4.toks }) hf z (z.trans z4) Y2 Y5 rfl Uc Uc),
       Y5, ⟨c5, n5, by simpa using d5⟩, (VRs.mono _ _ _ z4 vr).app (.cons yr .nil), by simp [hv], by simpa [ER] using hy⟩
   · refine qa <| Wk.done s' _ _ st λ h2 tk hk2 => ?_
     have hd := Wl (EQ hl) hw
     rw [Iv] at hd
     obtain ⟨⟨m2, pl2, mt2, P2⟩, k1, k2, k3⟩ := FS.kzTo Y' ((D, oD) :: (fr.L, oL) :: (mt.map (·.2) ++ fr.kz)) (I := I) (tk := tk) (λ c o hne e => hk2 c o (λ q => hne (eS.mp q)) e) ⟨_, Uc⟩ λ p hp =>
       mc hp (λ e => .inl ⟨e ▸ ih, e ▸ ltI.symm⟩) λ hp => mc hp (λ e => .inl ⟨e ▸ Fi, e ▸ IneL⟩) λ hp => (CS.mp hp).elim (λ h => .inl ⟨bN h, mtI p h⟩) λ h => .inl ⟨bO h, nk p h⟩
     exact ⟨m2, P2.F.ns, λ h' hs' => q _ _ _ _ _ (z.trans (Ix.le_more ..)) hd (.lst (.inl ih) lo (VRs.mono _ _ _ (Ix.le_more ..) vr))
       ⟨⟨_, _, _, P₀.leave (oD := oD) a.ok.1 hL hDs.symm z ih (i0 ih) (λ p hp => i0 (i0 (CO _ hp))) (λ p hp => i0 (i0 (CN _ hp))) P2 hs'⟩, k1, k2, k3⟩⟩
 exact jV (loop _ rfl) (qa <| Wk.self 0 _ _ _ hst₁ (loop _ rfl))
end
section
variable {W : Wd} {b : Nat}
inductive Zx (W : Wd) (A : Around) (fr : Frm) (ix : Ix) (loc : List (Option V)) (U : Mu) (l : List V) (I : Addr) (s : Shared) : Prop
 | mk (oI : Obj) (fp : List Addr) (n : Nat) (Pt : Nat -> Value -> Prop) (St : Nat -> Heap -> Prop) (Y : W.FS { fr with kz := (I, oI) :: fr.kz } ix loc U s) (Wk : Walks W.prog W.w A I fp [I] n Pt St) (hst : St 0 s.heap)
   (hio : ∀ i h, St i h -> ∃ o, h.get? I = some o /\ yU o) (hf : Je ix I fp) (hl : l.length = n) (hP : ∀ i v', i < n -> Pt i v' -> ∃ x, l[i]? = some x /\ W.VR ix v' x) (nk : ∀ q ∈ fr.kz, q.1 ≠ I)
theorem FS.kzNew {fr : Frm} {ix : Ix} {loc : List (Option V)} {U : Mu} {s : Shared} (Y : W.FS fr ix loc U s) (o : Obj) {tk : Nat} (hf : o.isFreed = false := by rfl) : W.FS { fr with kz := (s.heap.objs.size, o) :: fr.kz } ix loc U { s with heap := s.heap.push o, toks := tk } /\ ∀ q ∈ fr.kz, q.1 ≠ s.heap.objs.size := by
 obtain ⟨⟨m, pl, mt, P⟩, g1, g2, g3⟩ := Y
 exact ⟨⟨⟨m, pl, mt, P.kzPush (P.F.push _) (P.W.push P.F _ hf) λ p hp => eF (News.lt P.W hp)⟩, g1, g2, g3⟩, λ q hq => eF (eW (P.W q (i3 hq)).1)⟩
theorem VRs.back {ix : Ix} {vs : List Value} {l : List V} (h : W.VRs ix vs l) : ∀ (i : Nat) (v : Value), vs[i]? = some v -> ∃ x, l[i]? = some x /\ W.VR ix v x :=
 h.ind (λ i v e => qg e) λ {v vs x l} a _ ih i u e => match i, e with
   | 0, e => ⟨x, rfl, Option.some.inj e ▸ a⟩
   | i + 1, e => ih i u e
section
variable {A : Around} {E : Value -> Shared -> Prop} {fr : Frm} {ix : Ix} {loc : List (Option V)} {U : Mu} {s : Shared} {l : List V} {Q : Value -> Shared -> Prop}
theorem xK {ax : Addr} {o oI : Obj} {vs : List Value} {St : Nat -> Heap -> Prop} (Y : W.FS fr ix loc U s) (af : ix.Fz (ax, o)) (bs : W.VRs ix vs l) (hf : oI.isFreed = false)
   (Wk : Walks W.prog W.w A s.heap.objs.size [s.heap.objs.size, ax] [s.heap.objs.size] vs.toArray.size (λ i v => vs.toArray[i]? = some v) St) (st : St 0 (s.heap.push oI)) (hio : ∀ i h, St i h -> ∃ o, h.get? s.heap.objs.size = some o /\ yU o) :
   Zx W A fr ix loc U l s.heap.objs.size { s with heap := s.heap.push oI } :=
 have Z := FS.kzNew Y oI hf (tk := s.toks)
 ⟨oI, _, _, _, St, Z.1, Wk, st, hio, λ c hc => mc hc .inl λ hc => .inr ⟨o, (eS.mp hc).symm ▸ af⟩, bs.length.symm, λ i v' _ hp => VRs.back bs i v' (by simpa using hp), Z.2⟩
theorem xM {v' : Value} (hh : A.handled = none) (Y : W.FS fr ix loc U s) (vr : W.VR ix v' (.lst l)) (q : ∀ I s', Zx W A fr ix loc U l I s' -> Q (.ref I) s') : wpAny W.M A (pyIter v') Q E s :=
 vr.xL (C := λ v' => wpAny W.M A (pyIter v') Q E s) λ ax o vs af t bs => Y.op λ m pl mt P =>
   have hl := FS.lstAt P af t
   qa <| wpAny_pyIter_list hl (q _ _ (xK (oI := { cls := .type "list_iterator", data := .fields #[.ref ax, .int 0 0] }) Y af bs rfl (Walks.list hh _ ax (eF (eW (P.fz af))) vs.toArray) ⟨⟨_, EE _ rfl, rfl, rfl⟩, hl.push _⟩ λ i h st =>
     st.1.elim λ o z => ⟨o, z.1, _, _, z.2.1, z.2.2, by decide⟩))
theorem Uf {v' : Value} (hh : A.handled = none) (Y : W.FS fr ix loc U s) (vr : W.VR ix v' (.tup l)) (q : ∀ I s', Zx W A fr ix loc U l I s' -> Q (.ref I) s') : wpAny W.M A (pyIter v') Q E s :=
 vr.xT (C := λ v' => wpAny W.M A (pyIter v') Q E s) λ ax o vs af t bs => Y.op λ m pl mt P =>
   have hl := FS.tupAt P af t
   qa <| wpAny_pyIter_tuple hl (q _ _ (xK (oI := { cls := .type "tuple_iterator", data := .fields #[.ref ax, .int 0 0] }) Y af bs rfl (Walks.tuple hh _ ax (eF (eW (P.fz af))) vs.toArray) ⟨⟨_, EE _ rfl, rfl, rfl⟩, hl.push _⟩ λ i h st =>
     st.1.elim λ o z => ⟨o, z.1, _, _, z.2.1, z.2.2, by decide⟩))
end
section
variable {a b : Int}
theorem QO : qU a b 1 = (eQ (b - a).toNat).map λ (i : Nat) => a + 1 * (i : Int) := by
 unfold qU
 rw [if_pos (by decide), show b - a + 1 - 1 = b - a from ie .., Int.ediv_one]
theorem QP : qU a b (-1) = (eQ (a - b).toNat).map λ (i : Nat) => a + -1 * (i : Int) := by
 unfold qU
 rw [if_neg (by decide), show a - b - -1 - 1 = a - b from ie (a - b) 1, show (- -1 : Int) = 1 from rfl, Int.ediv_one]
theorem Ou : Builtin.Range.rangeSize a b 1 = ((b - a).toNat : Int) := by
 unfold Builtin.Range.rangeSize
 rw [if_pos (by decide)]
 by_cases h : a < b
 · rw [if_pos h, Int.ediv_one, EW (Int.sub_nonneg_of_le (eC h)), ir]
 · rw [if_neg h, Int.toNat_eq_zero.mpr (Int.sub_nonpos_of_le (ic.mp h))]; rfl
theorem Ov : Builtin.Range.rangeSize a b (-1) = ((a - b).toNat : Int) := by
 unfold Builtin.Range.rangeSize
 rw [if_neg (by decide)]
 by_cases h : a > b
 · rw [if_pos h, show (- -1 : Int) = 1 from rfl, Int.ediv_one, EW (Int.sub_nonneg_of_le (eC h)), ir]
 · rw [if_neg h, Int.toNat_eq_zero.mpr (Int.sub_nonpos_of_le (ic.mp h))]; rfl
variable {c : Int}
theorem xe (hc : c = 1 \/ c = -1) : Builtin.Range.rangeSize a b c = ((qU a b c).length : Int) :=
 hc.elim (λ e => by rw [e, Ou, QO, ee, Ey]) λ e => by rw [e, Ov, QP, ee, Ey]
theorem uN {n : Nat} (f : Nat -> Int) {i : Nat} (h : i < ((eQ n).map f).length) : ((eQ n).map f)[i]? = some (f i) := by
 rw [ee, Ey] at h
 rw [eZ, EV h]; rfl
theorem VF (hc : c = 1 \/ c = -1) {i : Nat} (h : i < (qU a b c).length) : (qU a b c)[i]? = some (a + i * c) :=
 hc.elim (λ e => by subst e; rw [QO] at h |-; rw [uN _ h, ES]) λ e => by subst e; rw [QP] at h |-; rw [uN _ h, ES]
theorem Bg {i : Int} (h : i.natAbs <= 3000000000000) : Builtin.Range.rangeFitsLong i = true := EM.mpr ⟨decide_eq_true (by omega), decide_eq_true (by omega)⟩
theorem Vb (ha : a.natAbs <= 1000000000000) (hb : b.natAbs <= 1000000000000) : (((a - b).toNat : Nat) : Int).natAbs <= 3000000000000 := by omega
theorem WW (hc : c = 1 \/ c = -1) (ha : a.natAbs <= 1000000000000) (hb : b.natAbs <= 1000000000000) : Builtin.Range.small a b c = true := by
 have fb := Bg (CK hb (by decide))
 unfold Builtin.Range.small
 rw [Bg (CK ha (by decide)), fb]
 rcases hc with rfl | rfl
 · rw [Ou, Bg (Vb hb ha), if_pos (by decide), show b + (1 - 1) = b from iV b, fb, Bool.or_true]; rfl
 · rw [Ov, Bg (Vb ha hb), if_neg (by decide), show b + (-1 + 1) = b from iV b, fb, Bool.or_true]; rfl
end
theorem JP {A : Around} {E : Value -> Shared -> Prop} {fr : Frm} {ix : Ix} {loc : List (Option V)} {U : Mu} {s : Shared} {r : Addr} {a b c : Int} {t u v : Tok} {Q : Value -> Shared -> Prop} (hh : A.handled = none) (Y : W.FS fr ix loc U s) (hr : IsRange s.heap r a b c t u v)
   (hc : c = 1 \/ c = -1) (ha : a.natAbs <= 1000000000000) (hb : b.natAbs <= 1000000000000) (q : ∀ I s', Zx W A fr ix loc U ((qU a b c).map .int) I s' -> Q (.ref I) s') : wpAny W.M A (pyIter (.ref r)) Q E s := by
 refine qa <| wpAny_pyIter_range hr (WW hc ha hb) (q _ _ ?_)
 rw [xe hc]
 have Z := FS.kzNew Y { cls := .type "range_iterator", data := .fields #[rawInt a, rawInt ((qU a b c).length : Int), rawInt c] } (tk := s.toks)
 have hg := EE s.heap (o := { cls := .type "range_iterator", data := .fields #[rawInt a, rawInt ((qU a b c).length : Int), rawInt c] }) rfl
 exact ⟨_, _, _, _, _, Z.1, Walks.range hh _ a c (qU a b c).length, by simpa using hg, λ i h st => ⟨_, st, _, _, rfl, rfl, by decide⟩, λ d hd => .inl (eS.mp hd), ee _,
   λ i v' hi hp => hp.elim λ t' e => e ▸ ⟨.int (a + i * c), by rw [eZ, VF hc hi]; rfl, .int⟩, Z.2⟩
end
section
variable {W : Wd} {b : Nat}
theorem jA {it : Expr} (h : ja it = true) (env : Env) (x : Value) : foldedSetIterable it env x = pure x := by
 cases it <;> first | rfl | exact ff h
theorem xm {c : Cx} {scope : Scope} (h : scope.names.all (ki c scope) = true) : ∀ x ∈ scope.names, x.2 = .local -> scope.names.lookup x.1 = some .local := λ x hx e =>
 jn (Eh.mp h _ hx) (λ _ z => z) (λ _ q => nomatch e.symm.trans q) λ q => nomatch e.symm.trans q
@[elab_as_elim] theorem Al {g : Comprehension} {C : Comprehension -> Prop} (h1 : l0 g.ifs = true) (h2 : decide (g.is_async = 0) = true) (f : C ⟨g.target, g.iter, [], 0⟩) : C g := by
 obtain ⟨t, i, fs, k⟩ := g
 obtain rfl : k = 0 := of_decide_eq_true h2
 exact Qy (C := λ fs => C ⟨t, i, fs, 0⟩) h1 f
section
variable {A : Around} {E : Value -> Shared -> Prop} {fr : Frm} {ix : Ix} {loc : List (Option V)} {U : Mu} {s : Shared} {kf : V -> Mu -> Prop} {Q : Value -> Shared -> Prop}
theorem Ve {e : Mi.E} (he : SE W b e) {elt tgt iter : Expr} {xs : List Nat} {one : Bool} {scope : Scope} {pos : Pos} {l : List V} {I : Addr}
   (a : At W b A fr) (hsc : Jv fr.c scope xs = true) (hm : mE W.N (fr.c.comp scope) e elt = true) (ht : zr (fr.c.comp scope) xs one tgt = true) (hi : Zx W A fr ix loc U l I s) (hn : l.length <= 1000000)
   (h : YE (λ v U k => oS (zx xs one v loc) λ loc => qx W.T loc e U k) l U λ l U => kf (.lst l) U) (q : W.Post fr ix loc kf Q) :
   wpAny W.M A (newList []) (λ acc s₃ => wpAny W.M A (newFunctionEnv scope fr.env.globals (zt fr.env scope.names []) [] fr.env.qual none .none (some fr.env)) (λ cenv s₄ =>
     codeAny W.M A (.compStart (.ListComp elt [⟨tgt, iter, [], 0⟩] scope pos) 0 (.ref I) acc { cenv with scope := relabel scope fr.env }) (QV Q acc cenv.locals) s₄) E s₃) E s :=
 let ⟨_, _, _, _, _, Y2, Wk, hst, hio, hf, hl, hP, nk⟩ := hi
 Wm he nk a hsc hm ht Y2 Wk hst (hl ▸ hn) hio hf hl hP h q
end
theorem ud {xs : List Nat} {src e : E} (hs : SE W b src) (he : SE W b e) : SE W b (.compL xs src e) := by
 intro x A E fr ix loc U s k Q hm a Y h q
 refine An hm λ elt gs scope p hm => Xw (C := λ gs => wpAny W.M A (eval (.ListComp elt gs scope p) fr.env) Q E s) hm λ g hm => A2 hm λ hm h2 => A6 hm λ c1 c2 c3 hsc ht h3 =>
   Al (C := λ g => wpAny W.M A (eval (.ListComp elt [g] scope p) fr.env) Q E s) c1 c2 ?_
 obtain ⟨z3, z4⟩ := QY (QY hsc).1
 obtain ⟨z5, z6⟩ := QY z3
 rw [eval_ListComp]
 exact ze rfl (jA c3 _) (Vf a.ok.1 z6) (eq_of_beq z5) (xm z6) (hs h2 a Y h λ jx v' v U' s' z h' vr Y' => uz (C := λ v => W.VR jx v' v -> _) h' (λ l h' vr =>
   xM a.R.hd Y' vr λ I s2 hi => Ve he a hsc h3 ht hi h'.1 h'.2 (q.le z)) vr)
section
variable {lo hi st : E} {A : Around} {E : Value -> Shared -> Prop} {fr : Frm} {ix : Ix} {loc : List (Option V)} {U : Mu} {s : Shared} {Q : Value -> Shared -> Prop}
noncomputable def fy (N : Nm) (c : Cx) (lo hi st : Mi.E) (as : List Expr) : Bool :=
 lc as λ h rs => cond (l0 rs) (ve lo && JU st && qk h && mE N c hi h) (lc rs λ h2 rs => cond (l0 rs) (JU st && qk h && qk h2 && mE N c lo h && mE N c hi h2)
       (l1 rs λ s => Kv st && qk h && qk h2 && qk s && mE N c lo h && mE N c hi h2 && mE N c st s))
@[elab_as_elim] theorem GY {N : Nm} {c : Cx} {as : List Expr} {C : Mi.E -> Mi.E -> List Expr -> Prop} (hm : fy N c lo hi st as = true) (f1 : ∀ x, qk x = true -> mE N c hi x = true -> C (.int 0) (.int 1) [x])
   (f2 : ∀ x y, qk x = true -> qk y = true -> mE N c lo x = true -> mE N c hi y = true -> C lo (.int 1) [x, y])
   (f3 : ∀ x y z i, (i = 1 \/ i = -1) -> qk x = true -> qk y = true -> qk z = true -> mE N c lo x = true -> mE N c hi y = true -> mE N c (.int i) z = true -> C lo (.int i) [x, y, z]) : C lo st as :=
 KM hm λ x rs hm => match rs, hm with
   | [], hm => A4 hm λ h1 h2 h3 h4 => VW h1 ▸ km h2 ▸ f1 x h3 h4
   | y :: rs, hm => match rs, hm with
     | [], hm => A5 hm λ h1 h2 h3 h4 h5 => km h1 ▸ f2 x y h2 h3 h4 h5
     | z :: rs, hm => A2 (show (l0 rs && (Kv st && qk x && qk y && qk z && mE N c lo x && mE N c hi y && mE N c st z)) = true from hm) λ h0 hm => Qy (C := λ rs => C lo st (x :: y :: z :: rs)) h0 <| A2 hm λ hm h7 => A6 hm λ h1 h2 h3 h4 h5 h6 => (VV h1).elim (λ e => by subst e; exact f3 x y z 1 (.inl rfl) h2 h3 h4 h5 h6 h7) λ e => by subst e; exact f3 x y z (-1) (.inr rfl) h2 h3 h4 h5 h6 h7
theorem JB (G : W.Good) (hlo : SE W b lo) (hhi : SE W b hi) (hst : SE W b st) {as : List Expr} {p pos : Pos} (hg : isG fr.c "range" = true) (hm : fy W.N fr.c lo hi st as = true)
   (a : At W b A fr) (Y : W.FS fr ix loc U s) {k : Int -> Int -> Int -> Mu -> Prop} (h : qx W.T loc lo U λ a U => qx W.T loc hi U λ b U => qx W.T loc st U λ c U => pI a λ a => pI b λ b => pI c λ c => k a b c U)
   (q : ∀ jx s' U' r i j c t u v, ix.Le jx -> W.FS fr jx loc U' s' -> k i j c U' -> (c = 1 \/ c = -1) -> IsRange s'.heap r i j c t u v -> Q (.ref r) s') : wpAny W.M A (eval (.Call (.Name "range" p) as [] pos) fr.env) Q E s := by
 refine Yn (yS G a Y (v := .type "range") (by decide +kernel) (by kernel_rfl) hg ?_)
 have fin : ∀ {jx : Ix} {U' : Mu} {s' : Shared} {i j c : Int} {t u v : Tok} {tk : Nat}, ix.Le jx -> W.FS fr jx loc U' s' -> k i j c U' -> (c = 1 \/ c = -1) ->
     Q (.ref s'.heap.objs.size) { s' with heap := s'.heap.push { cls := .type "range", data := .fields #[.int i t, .int j u, .int c v] }, toks := tk } := λ z Y' hk hc =>
   q _ _ _ _ _ _ _ _ _ _ z (Y'.grown λ _ _ e => Es _ e) hk hc (IsRange.new ..)
 refine GY (C := λ lo st as => SE W b lo -> SE W b st -> (qx W.T loc lo U λ a U => qx W.T loc hi U λ b U => qx W.T loc st U λ c U => pI a λ a => pI b λ b => pI c λ c => k a b c U) -> wpAny W.M A (callWith pos (.type "range") [] (backTo pos (starEach as fr.env)) []) Q E s)
   hm (λ x hx h1 _ _ h => ?_) (λ x y hx hy h1 h2 hlo _ h => ?_) (λ x y z i hi hx hy hz h1 h2 h3 hlo hst h => ?_) hlo hst h
 · rw [qh hx]
   exact cw_type rfl (qn (qt (hhi h1 a Y h λ jx v' v U' s' z h' vr Y' => spliced_nil (vr.qI (C := λ v' => wpAny W.M A (call (.type "range") [v']) Q E s') h' λ i t h' => qa <| call_range_1 (fin z Y' h' (.inl rfl))))))
 · rw [qh hx]
   exact cw_type (by rw [qh hy]; rfl) (qn (qt (hlo h1 a Y h λ jx v' v U' s' z h' vr Y' => qr (hhi h2 a Y' h' λ kx u' u U2 s2 z2 h2 ur Y2 =>
     spliced_none (vr.qI (C := λ v' => wpAny W.M A (call (.type "range") [v', u']) Q E s2) h2 λ i t h2 => ur.qI (C := λ u' => wpAny W.M A (call (.type "range") [.int i t, u']) Q E s2) h2 λ j u h2 => qa <| call_range_2 (fin (z.trans z2) Y2 h2 (.inl rfl)))) (qh hy _ _))))
 · rw [qh hx]
   exact cw_type (by rw [qh hy, qh hz]; rfl) (qn (qt (hlo h1 a Y h λ jx v' v U' s' z h' vr Y' => qr (hhi h2 a Y' h' λ kx u' u U2 s2 z2 h2 ur Y2 =>
     qr (hst h3 a Y2 (k := λ c' U' => c' = .int i /\ U' = U2) ⟨rfl, rfl⟩ λ lx w' w U3 s3 z3 h3 wr Y3 => by
       obtain ⟨rfl, rfl⟩ := h3
       exact spliced_none (vr.qI (C := λ v' => wpAny W.M A (call (.type "range") [v', u', w']) Q E s3) h2 λ i1 t h2 => ur.qI (C := λ u' => wpAny W.M A (call (.type "range") [.int i1 t, u', w']) Q E s3) h2 λ j u h2 =>
         wr.xI (C := λ w' => wpAny W.M A (call (.type "range") [.int i1 t, .int j u, w']) Q E s3) λ t3 => qa <| call_range_3 (by rcases hi with rfl | rfl <;> decide) (fin ((z.trans z2).trans z3) Y3 h2 hi) (.inl (PyProof.noPylong_of_log2 (by rcases hi with rfl | rfl <;> decide)))))
     (qh hz _ _)) (qh hy _ _))))
end
theorem uc (G : W.Good) {x : Nat} {lo hi st e : E} (hlo : SE W b lo) (hhi : SE W b hi) (hst : SE W b st) (he : SE W b e) : SE W b (.compR x lo hi st e) := by
 intro y A E fr ix loc U s k Q hm a Y h q
 refine An hm λ elt gs scope p hm => Xw (C := λ gs => wpAny W.M A (eval (.ListComp elt gs scope p) fr.env) Q E s) hm λ g hm => A3 hm λ c1 c2 hm => Al (C := λ g => wpAny W.M A (eval (.ListComp elt [g] scope p) fr.env) Q E s) c1 c2 ?_
 refine yz (C := λ it => wpAny W.M A (eval (.ListComp elt [⟨g.target, it, [], 0⟩] scope p) fr.env) Q E s) hm λ f as ks p1 hm => A2 hm λ hk hm => Qy (C := λ ks => wpAny W.M A (eval (.ListComp elt [⟨g.target, .Call f as ks p1, [], 0⟩] scope p) fr.env) Q E s) hk
   (ku (C := λ f => wpAny W.M A (eval (.ListComp elt [⟨g.target, .Call f as [] p1, [], 0⟩] scope p) fr.env) Q E s) hm λ n p2 hm => A6 hm λ en hg hsc ht h3 h8 => ?_)
 obtain rfl := eq_of_beq en
 obtain ⟨z3, z4⟩ := QY (QY hsc).1
 obtain ⟨z5, z6⟩ := QY z3
 rw [eval_ListComp]
 exact ze rfl (jA rfl _) (Vf a.ok.1 z6) (eq_of_beq z5) (xm z6) (JB G hlo hhi hst hg h8 a Y h λ jx s' U' r i j c t u v z Y' hk hc hr =>
   JP a.R.hd Y' hr hc hk.1.1 hk.1.2.1 λ I s2 hi => Ve (one := true) he a hsc h3 ht hi (ee (as := qU i j c) V.int ▸ hk.1.2.2) hk.2 (q.le z))
end
section
variable {W : Wd} {b : Nat}
noncomputable def Qv (e : E) : Bool := match e with | .nil => true | .cons _ _ => true | _ => false
noncomputable def JS (e : E) : Bool := match e with
 | .cmp .. => true | .cmp2 .. => true | .and .. => true | .or .. => true | .not _ => true | .ite .. => true | .inn .. => true | .attr .. => true | .bi .. => true | .loc _ => true | .call .. => true | .bool _ => true | _ => false
theorem xw {N : Nm} {c : Cx} {e : E} {xs : List Expr} (h : yk N c e xs = true) : Qv e = true := by cases e <;> first | rfl | exact ff h
theorem bA {N : Nm} {c : Cx} {e : E} {x : Expr} (h : mE N c e x = true) : Qv e = false := by cases e <;> first | rfl | exact ff h
theorem WG {T : WE} {loc : List (Option V)} {e : E} {U : Mu} {k : Bool -> Mu -> Prop} (h : Xs T loc e U k) : JS e = true := by cases e <;> first | rfl | exact False.elim h
noncomputable def aO (W : Wd) (b : Nat) (e : E) : Prop := match e with | .cons e1 _ => SE W b e1 | _ => True
structure HY (W : Wd) (b : Nat) (x : E) : Prop where
 e : SE W b x
 l : SL W b x
 t : ST W b x
 p : SP W b x
 one : aO W b x
theorem OQ {e : E} (h : Qv e = false) : SL W b e := by
 intro xs pos A E fr ix loc U s k Q hm
 exact ff (h.symm.trans (xw hm))
theorem OP {e : E} (h : Qv e = false) : SP W b e := by
 intro ks keys xs pos A E fr ix loc U s k Q _ _ hm
 exact ff (h.symm.trans (xw hm))
theorem fQ {e : E} (h : JS e = false) : ST W b e := by
 intro x A E fr ix loc U s k Q hm _ _ hw
 exact ff (h.symm.trans (WG hw))
theorem OS {e : E} (h : Qv e = true) : SE W b e := by
 intro x A E fr ix loc U s k Q hm
 exact ff ((bA hm).symm.trans h)
theorem HY.i {e : E} (h : SE W b e) (h1 : Qv e = false) (h2 : JS e = false) (h3 : aO W b e) : HY W b e := ⟨h, OQ h1, fQ h2, OP h1, h3⟩
theorem HY.j {e : E} (h : SE W b e) (h1 : Qv e = false) (h2 : ST W b e) (h3 : aO W b e) : HY W b e := ⟨h, OQ h1, h2, OP h1, h3⟩
theorem HY.o {e : E} (h : HY W b e) : ∀ e1, e = .cons e1 .nil -> SE W b e1 := λ e1 q => by subst q; exact h.one
theorem all (G : W.Good) (Hs : Calls W b) : ∀ e : E, HY W b e := by
 intro e
 induction e with
 | int i => exact .i (fh i) rfl rfl trivial
 | none => exact .i (GM) rfl rfl trivial
 | bool c => exact .j (GT c) rfl (GA c) trivial
 | str n => exact .i (DW n) rfl rfl trivial
 | loc i => exact .j (fc i) rfl (DC i) trivial
 | glob g => exact .i (GP G g) rfl rfl trivial
 | bin o l r hl hr => exact .i (fq G hl.e hr.e) rfl rfl trivial
 | cmp o l r hl hr => exact .j (fk G hl.e hr.e) rfl (DF G hl.e hr.e) trivial
 | cmp2 o p l r t hl hr ht => exact .j (GR G hl.e hr.e ht.e) rfl (Gy G hl.e hr.e ht.e) trivial
 | inn n l r hl hr => exact .j (fi G hl.e hr.e) rfl (DE G hl.e hr.e) trivial
 | and l r hl hr => exact .j (ft hl.e hr.e) rfl (DG hl.t hr.t) trivial
 | or l r hl hr => exact .j (Oj hl.e hr.e) rfl (Od hl.t hr.t) trivial
 | not l hl => exact .j (DX hl.e) rfl (DB hl.t) trivial
 | ite t l r ht hl hr => exact .j (fe ht.t hl.e hr.e) rfl (DD ht.t hl.t hr.t) trivial
 | attr l a hl => exact .j (GU G hl.e) rfl (GB G hl.e) trivial
 | sub l r hl hr => exact .i (DV G hl.e hr.e) rfl rfl trivial
 | slTo l r hl hr => exact .i (GK hl.e hr.e) rfl rfl trivial
 | slFrom l r hl hr => exact .i (Vv hl.e hr.e) rfl rfl trivial
 | call f l hl => exact .j (GS G Hs hl.l) rfl (Gz G Hs hl.l) trivial
 | cmeth c m l hl => exact .i (ue G Hs hl.l) rfl rfl trivial
 | meth o m l ho hl => exact .i (GN G Hs ho.e hl.l) rfl rfl trivial
 | new c l hl => exact .i (DY G Hs hl.l) rfl rfl trivial
 | bi d l hl => exact .j (dj G hl.l hl.o) rfl (Oe G hl.l hl.o) trivial
 | bm d o l ho hl => exact .i (Ol G ho.e hl.l) rfl rfl trivial
 | lenOwn i => exact .i (Vw G i) rfl rfl trivial
 | nil => exact ⟨OS rfl, WY, fQ rfl, DO, trivial⟩
 | cons l r hl hr => exact ⟨OS rfl, wu hl.e hr.l, fQ rfl, GH hl.e hr.p, hl.e⟩
 | tup l hl => exact .i (DU hl.l) rfl rfl trivial
 | lst l hl => exact .i (DZ hl.l) rfl rfl trivial
 | lstH l hl => exact .i (GO hl.l) rfl rfl trivial
 | rowH l hl => exact .i (GL hl.l) rfl rfl trivial
 | dic ks l hl => exact .i (fj G hl.p) rfl rfl trivial
 | dicH ks l hl => exact .i (GQ G hl.p) rfl rfl trivial
 | compR x lo hi st e h1 h2 h3 h4 => exact .i (uc G h1.e h2.e h3.e h4.e) rfl rfl trivial
 | compL xs src e h1 h2 => exact .i (ud h1.e h2.e) rfl rfl trivial
end
structure zk (W : Wd) (fr : Frm) (ix : Ix) (kn : List (Option V) -> Mu -> Prop) (kr : V -> Mu -> Prop) (Q : Flow -> Shared -> Prop) : Prop where
 nx : ∀ jx loc' U' s', ix.Le0 jx -> kn loc' U' -> W.FS fr jx loc' U' s' -> Q .next s'
 rt : ∀ jx v' v loc' U' s', ix.Le0 jx -> kr v U' -> W.VR jx v' v -> W.FS fr jx loc' U' s' -> Q (.ret v') s'
theorem zk.le {W : Wd} {fr : Frm} {ix jx : Ix} {kn : List (Option V) -> Mu -> Prop} {kr : V -> Mu -> Prop} {Q : Flow -> Shared -> Prop} (q : zk W fr ix kn kr Q) (h : ix.Le0 jx) : zk W fr jx kn kr Q :=
 ⟨λ kx l U s z => q.nx kx l U s (h.trans z), λ kx v' v l U s z => q.rt kx v' v l U s (h.trans z)⟩
noncomputable def zc (e : Expr) : Bool := !(eY 8 e.ctorIdx && eY e.ctorIdx 10)
theorem zW {v : Expr} (h : zc v = true) (t : Option Expr) (n : Nat) (env : Env) : swapsWith v t n env = pure false := by
 cases v <;> first | rfl | exact ff h
section
variable {W : Wd} {b : Nat} {e o i : E} {A : Around} {E : Value -> Shared -> Prop} {fr : Frm} {ix : Ix} {loc : List (Option V)} {U : Mu} {s : Shared} {kn : List (Option V) -> Mu -> Prop} {kr : V -> Mu -> Prop} {Q : Flow -> Shared -> Prop} {x y v : Expr} {p pos : Pos}
theorem WU (G : W.Good) {n : Nat} (ho : SE W b o) (he : SE W b e) (hv : zc v = true) (hx : mE W.N fr.c o x = true) (hm : mE W.N fr.c e v = true) (a : At W b A fr) (Y : W.FS fr ix loc U s) (h : zS W.T (.sattr o n e) loc U kn kr) (q : zk W fr ix kn kr Q) :
   wpAny W.M A (exec (.Assign [.Attribute x (W.N.an n) p] v pos) fr.env) Q E s :=
 qp (he hm a Y h λ jx v' v U' s' z h' vr Y' => ho hx a Y' h' λ kx u' u U2 s2 z2 h2 ur Y2 =>
   QG G.H a.ok.2.1 Y2 ur (VR.mono _ _ _ z2 vr) h2 λ U3 s3 h3 Y3 => q.nx kx _ _ _ (z.trans z2).w h3 Y3) (zW hv _ _ _)
theorem GC (G : W.Good) (ho : SE W b o) (hi : SE W b i) (he : SE W b e) (hv : zc v = true) (hx : mE W.N fr.c o x = true) (hy : mE W.N fr.c i y = true) (hm : mE W.N fr.c e v = true) (a : At W b A fr) (Y : W.FS fr ix loc U s) (h : zS W.T (.ssub o i e) loc U kn kr) (q : zk W fr ix kn kr Q) :
   wpAny W.M A (exec (.Assign [.Subscript x y p] v pos) fr.env) Q E s :=
 zn (he hm a Y h λ jx v' v U' s' z h' vr Y' => ho hx a Y' h' λ kx u' u U2 s2 z2 h2 ur Y2 => hi hy a Y2 h2 λ lx t' t U3 s3 z3 h3 tr Y3 =>
   Js G.H G.C a.ok a.R1 Y3 (VR.mono _ _ _ z3 ur) tr (VR.mono _ _ _ (z2.trans z3) vr) h3 λ mx U4 s4 z4 h4 Y4 => q.nx mx _ _ _ (((z.trans z2).trans z3).trans z4).w h4 Y4) (zW hv _ _ _)
theorem DM (G : W.Good) {op : Op} {n : Nat} (ho : SE W b o) (he : SE W b e) (hop : op = .add \/ op = .sub \/ op = .shl \/ op = .shr) (hx : mE W.N fr.c o x = true) (hm : mE W.N fr.c e v = true) (a : At W b A fr) (Y : W.FS fr ix loc U s) (h : zS W.T (.aug op o n e) loc U kn kr) (q : zk W fr ix kn kr Q) :
   wpAny W.M A (exec (.AugAssign (.Attribute x (W.N.an n) p) (VM op) v pos) fr.env) Q E s := by
 refine zJ (ho hx a Y h λ jx v' v U' s' z h' vr Y' => jC G.H a.ok.2.1 Y' vr h' λ u' u hu ur => he hm a (Y'.tok _) hu λ kx t' t U2 s2 z2 h2 tr Y2 => ?_)
 refine ur.qI h2 λ i t1 h2 => tr.qI h2 λ j t2 h2 => ?_
 exact VZ h2 hop λ r t' hr => QG G.H a.ok.2.1 (Y2.tok _) (VR.mono _ _ _ z2 vr) .int hr λ U3 s3 h3 Y3 => q.nx kx _ _ _ (z.trans z2).w h3 Y3
theorem DJ (he : SE W b e) (hm : mE W.N fr.c e v = true) (a : At W b A fr) (Y : W.FS fr ix loc U s) (h : zS W.T (.ret e) loc U kn kr) (q : zk W fr ix kn kr Q) : wpAny W.M A (exec (.Return (some v) pos) fr.env) Q E s :=
 zm (he hm a Y h λ jx v' v U' s' z h' vr Y' => q.rt jx _ _ _ _ _ z.w h' vr Y')
theorem kg (ok : fr.Ok) : interactive fr.env = false := by
 rw [interactive, ok.fne]; rfl
theorem Of (he : SE W b e) (hv : zc v = true) (hm : mE W.N fr.c e v = true) (a : At W b A fr) (Y : W.FS fr ix loc U s) (h : zS W.T (.ex e) loc U kn kr) (q : zk W fr ix kn kr Q) : wpAny W.M A (exec (.Expr v pos) fr.env) Q E s :=
 ym (he hm a Y h λ jx v' v U' s' z h' vr Y' => q.nx jx _ _ _ z.w h' Y') (kg a.ok.1) (zW hv _ _ _)
end
section
variable {W : Wd} {b : Nat}
theorem Bk {l : List V} {i : Nat} {x : V} (e : l[i]? = some x) : l.drop i = x :: l.drop (i + 1) :=
 (Ef.mp e).elim λ h e' => by rw [List.drop_eq_getElem_cons h, e']
theorem Jn {step : V -> List (Option V) -> Mu -> (List (Option V) -> Mu -> Prop) -> Prop} {l : List V} {i : Nat} {x : V} {loc : List (Option V)} {U : Mu} {k : List (Option V) -> Mu -> Prop} (e : l[i]? = some x) (h : jZ step (l.drop i) loc U k) :
   step x loc U λ loc U => jZ step (l.drop (i + 1)) loc U k := by rw [Bk e] at h; exact h
theorem Jo {step : V -> List (Option V) -> Mu -> (List (Option V) -> Mu -> Prop) -> Prop} {l : List V} {loc : List (Option V)} {U : Mu} {k : List (Option V) -> Mu -> Prop} (h : jZ step (l.drop l.length) loc U k) : k loc U := by
 rw [List.drop_length] at h
 exact h
theorem FS.kzSub {fr : Frm} {ix : Ix} {loc : List (Option V)} {U : Mu} {s : Shared} (Y : W.FS fr ix loc U s) {kz : List (Addr × Obj)} (h : ∀ q ∈ kz, q ∈ fr.kz) : W.FS { fr with kz := kz } ix loc U s :=
 Y.op λ m pl mt P => ⟨⟨m, pl, mt, P.kzSub h⟩, Y.gens, Y.os, Y.drawn⟩
theorem xQ {ix jx kx : Ix} {I : Addr} {fp : List Addr} (hf : Je ix I fp) {fr fr' : Frm} {loc loc' : List (Option V)} {U U' : Mu} {s s' : Shared} {oI : Obj} (z : ix.Le0 jx) (z' : ix.Le0 kx)
   (Y : W.FS fr jx loc U s) (Y' : W.FS fr' kx loc' U' s') (hI : (I, oI) ∈ fr.kz) (hI' : (I, oI) ∈ fr'.kz) : ∀ c ∈ fp, ∀ o, s.heap.get? c = some o -> s'.heap.get? c = some o := λ c hc o e =>
 Y.op λ m pl mt P => Y'.op λ m' pl' mt' P' => (hf c hc).elim (λ q => by
   subst q
   exact (P'.W _ (i3 hI')).1.trans ((P.W _ (i3 hI)).1.symm.trans e)) λ q => q.elim λ o' hz => (P'.fz (z'.Fz hz)).trans ((P.fz (z.Fz hz)).symm.trans e)
noncomputable def gT (W : Wd) (b : Nat) (A : Around) (E : Value -> Shared -> Prop) (c : Cx) (env : Env) (body : List Stmt) (st : S) : Prop := ∀ {fr : Frm} {ix : Ix} {loc : List (Option V)} {U : Mu} {s : Shared} {kn : List (Option V) -> Mu -> Prop} {kr : V -> Mu -> Prop} {Q : Flow -> Shared -> Prop},
 fr.c = c -> fr.env = env -> fr.cm = false -> At W b A fr -> W.FS fr ix loc U s -> zS W.T st loc U kn kr -> zk W fr ix kn kr Q -> wpAny W.M A (execs body env) Q E s
inductive aP (W : Wd) (fr : Frm) (xs : List Nat) (one : Bool) (st : S) (kn : List (Option V) -> Mu -> Prop) (kr : V -> Mu -> Prop) (ix : Ix) (l : List V) (St : Nat -> Heap -> Prop) (k : Nat) (s : Shared) : Prop
 | mk (i : Nat) (jx : Ix) (loc' : List (Option V)) (U : Mu) (hk : k = l.length + 1 - i) (hi : i <= l.length) (z : ix.Le0 jx) (st' : St i s.heap)
   (Y : W.FS fr jx loc' U s) (hw : jZ (λ v loc U k => oS (zx xs one v loc) λ loc => zS W.T st loc U k kr) (l.drop i) loc' U kn)
theorem JY {st : S} {body : List Stmt} {tgt : Expr} {xs : List Nat} {one : Bool} {A : Around} {fr : Frm} {ix : Ix} {loc : List (Option V)} {U : Mu} {s : Shared} {kn : List (Option V) -> Mu -> Prop} {kr : V -> Mu -> Prop} {R : Result -> Shared -> Prop} {I : Addr} {l : List V}
   (hb : ∀ E, gT W b A E fr.c fr.env body st) (hcm : fr.cm = false) (a : At W b A fr) (ht : zr fr.c xs one tgt = true) (ok : Zx W A fr ix loc U l I s)
   (h : jZ (λ v loc U k => oS (zx xs one v loc) λ loc => zS W.T st loc U k kr) l loc U kn) (q : zk W fr ix kn kr (λ f s' => R (.ok f) s')) :
   codeAny W.M A (.forLoop tgt (.ref I) body [] fr.env) R s := by
 obtain ⟨oI, fp, n, Pt, St, Y, Wk, hst, hio, hf, rfl, hP, nk⟩ := ok
 have a' : ∀ oI, At W b A { fr with kz := (I, oI) :: fr.kz } := λ oI => ⟨⟨a.ok.1.kz _, a.ok.2⟩, a.R, a.b1⟩
 refine zM (λ k s' => ∃ oI, aP W { fr with kz := (I, oI) :: fr.kz } xs one st kn kr ix l St k s') ?_ (l.length + 1) ⟨oI, 0, ix, loc, U, rfl, Ew _, .refl _, hst, Y, h⟩
 rintro k s' ⟨oI', i, jx, loc', U', rfl, hi, z, st', Y', hw⟩
 rcases Nat.lt_or_eq_of_le hi with hin | rfl
 · refine qa <| Wk.item i s' _ _ hin st' λ v' h2 tk hp st2 hk2 => (hio _ _ st2).elim λ oI2 h3 => (hP i v' hin hp).elim λ x hx => ZF h3.1 h3.2 (zL (Jn hx.1 hw) λ loc2 hbd hw' => ?_)
   have Y2 : W.FS { fr with kz := (I, oI2) :: fr.kz } jx loc' U' { s' with heap := h2, toks := tk } :=
     FS.kzTo Y' ((I, oI2) :: fr.kz) (I := I) (λ c o hne e => hk2 c o (λ q => hne (eS.mp q)) e) ⟨oI', ih⟩ λ p hp => mc hp (λ e => .inr (e ▸ ⟨rfl, h3.1⟩)) λ hp => .inl ⟨i0 hp, nk p hp⟩
   refine Ye (fr := { fr with kz := (I, oI2) :: fr.kz }) (a' oI2).ok.1 a.R.hd ht (VR.mono0 _ _ _ z hx.2) hbd Y2 λ s3 Y3 => ?_
   exact hb _ (fr := { fr with kz := (I, oI2) :: fr.kz }) rfl rfl hcm (a' oI2) Y3 hw' ⟨λ kx loc4 U4 s4 z4 hk4 Y4 =>
     ⟨l.length + 1 - (i + 1), sub_lt hin, oI2, i + 1, kx, loc4, U4, rfl, hin, z.trans z4, Wk.frame _ _ _ st2 (xQ (s := { s' with heap := h2, toks := tk }) hf z (z.trans z4) Y2 Y4 ih ih), Y4, hk4⟩,
     λ kx v4' v4 loc4 U4 s4 z4 hk4 vr4 Y4 => q.rt kx _ _ _ _ _ (z.trans z4) hk4 vr4 (FS.kzSub Y4 λ q hq => i0 hq)⟩
 · exact qa <| Wk.done s' _ _ st' λ h2 tk hk2 => qo (q.nx jx _ _ _ z (Jo hw)
     (FS.kzTo Y' fr.kz (I := I) (λ c o hne e => hk2 c o (λ q => hne (eS.mp q)) e) ⟨oI', ih⟩ (λ p hp => .inl ⟨i0 hp, nk p hp⟩)))
end
section
variable {N : Nm} {prog : Program} {w : World}
section
variable {c : Cx} {cl : List (Str × Addr)} {ck : List (Addr × Obj)} {cm : Bool} {ix jx : Ix} {m m' : Str -> Option Value} {mt mt' : List (Nat × Addr × Obj)} {j : Nat} {v : V}
theorem db.to {t : Addr × Obj × Value} (z : db N prog w c cl ck cm ix mt j v t) (q : ix.Le0 jx) (h : ∀ d o, (j, d, o) ∈ mt -> (j, d, o) ∈ mt') : db N prog w c cl ck cm jx mt' j v t :=
 ⟨z.cl, by have := z.mt; cases cm with | true => exact this | false => exact h _ _ this, z.cv, z.vr.mono0 _ _ _ q⟩
theorem gV.to (x : gV N prog w c cl ck cm ix m mt j v) (q : ix.Le0 jx) (ho : ∀ a, ix.ow.lookup j = some a -> jx.ow.lookup j = some a) (hm : ∀ v, m (c.nl j) = some v -> m' (c.nl j) = some v) (h : ∀ d o, (j, d, o) ∈ mt -> (j, d, o) ∈ mt') : gV N prog w c cl ck cm jx m' mt' j v :=
 ⟨x.lt, λ e => (x.loc e).imp (Exists.imp λ _ z => ⟨hm _ z.1, z.2.mono0 _ _ _ q⟩) (Exists.imp λ _ z => ⟨z.e, ho _ z.ow, hm _ z.m, h _ _ z.mt, z.vs.mono0 _ _ _ q⟩), λ e => (x.cell e).imp λ _ z => z.to q h⟩
end
theorem uI {α β : Type} {f : α -> β} : ∀ {l : List α}, (l.map f).Nodup -> ∀ t ∈ l, ∀ u ∈ l, f t = f u -> t = u
 | x :: r, n, t, ht, u, hu, e =>
   have n := eO.mp n
   (eV.mp ht).elim (λ et => (eV.mp hu).elim (λ eu => et.trans eu.symm) λ hu => (n.1 (CU.mpr ⟨u, hu, e.symm.trans (congrArg f et)⟩)).elim)
     λ ht => (eV.mp hu).elim (λ eu => (n.1 (CU.mpr ⟨t, ht, e.trans (congrArg f eu)⟩)).elim) λ hu => uI n.2 t ht u hu e
variable {fr : Frm} {ix : Ix} {loc loc' : List (Option V)} {U : Mu} {h h' : Heap} {m : Str -> Option Value} {pl : List (Addr × Obj)} {mt : List (Nat × Addr × Obj)}
theorem Parts.nd2 (Y : Parts N prog w fr ix loc U h m pl mt) : (mt.map λ t => t.2.1).Nodup := io (f := λ t : Nat × Addr × Obj => t.2) (g := λ p : Addr × Obj => p.1) ▸ (Ep.mp (eK ▸ Y.nd)).2.1
theorem Parts.inj (Y : Parts N prog w fr ix loc U h m pl mt) {i j : Nat} {c d : Addr} {o x : Obj} (a : (j, d, x) ∈ mt) (b : (i, c, o) ∈ mt) (e : d = c) : j = i := congrArg Prod.fst (uI Y.nd2 _ a _ b e)
theorem Parts.plne (Y : Parts N prog w fr ix loc U h m pl mt) {i : Nat} {c : Addr} {o : Obj} (b : (i, c, o) ∈ mt) {p : Addr × Obj} (hp : p ∈ pl) : p.1 ≠ c :=
 (Ep.mp (eK ▸ Y.nd)).2.2 p.1 (CU.mpr ⟨p, hp, rfl⟩) c (CU.mpr ⟨(c, o), CU.mpr ⟨_, b, rfl⟩, rfl⟩)
noncomputable def Qd (c : Addr) (o' : Obj) (t : Nat × Addr × Obj) : Nat × Addr × Obj := if t.2.1 = c then (t.1, c, o') else t
section
variable {c d : Addr} {o o' x : Obj} {j : Nat}
theorem wI (h : (j, d, x) ∈ mt) (ne : d ≠ c) : (j, d, x) ∈ mt.map (Qd c o') := CU.mpr ⟨_, h, if_neg ne⟩
theorem jP (h : (j, c, o) ∈ mt) : (j, c, o') ∈ mt.map (Qd c o') := CU.mpr ⟨_, h, if_pos rfl⟩
theorem xq {C : Nat × Addr × Obj -> Prop} (t : Nat × Addr × Obj) (f : t.2.1 = c -> C (t.1, c, o')) (g : t.2.1 ≠ c -> C t) : C (Qd c o' t) := by
 by_cases e : t.2.1 = c
 · rw [Qd, if_pos e]; exact f e
 · rw [Qd, if_neg e]; exact g e
theorem ww {p : Addr × Obj} (hp : p ∈ (mt.map (Qd c o')).map (·.2)) : p = (c, o') \/ p ∈ mt.map (·.2) /\ p.1 ≠ c := by
 obtain ⟨t, ht, rfl⟩ := CU.mp hp
 obtain ⟨u, hu, rfl⟩ := CU.mp ht
 exact xq (C := λ t => t.2 = (c, o') \/ t.2 ∈ mt.map (·.2) /\ t.2.1 ≠ c) u (λ _ => .inl rfl) λ ne => .inr ⟨CU.mpr ⟨u, hu, rfl⟩, ne⟩
end
theorem Parts.mtTurn (Y : Parts N prog w fr ix loc U h m pl mt) {i : Nat} {c : Addr} {o o' : Obj} (hm : (i, c, o) ∈ mt) (hs : Heap.SameBut c h h') (ho : h'.get? c = some o') (hv : fr.c.kd i = 1 -> ∃ x, Xe o' x)
   (hl : ∀ j v, loc'[j]? = some (some v) -> jE N prog w fr ix m (mt.map (Qd c o')) j v) : Parts N prog w fr ix loc' U h' m pl (mt.map (Qd c o')) := by
 have hin : (c, o) ∈ pl ++ mt.map (·.2) := CN _ (CU.mpr ⟨_, hm, rfl⟩)
 have hc := Y.W (c, o) (CO _ hin)
 have ea : ((mt.map (Qd c o')).map (·.2)).map (·.1) = (mt.map (·.2)).map (·.1) := by
   rw [io, io, io]
   exact EU λ t _ => xq (C := λ u => u.2.1 = t.2.1) t (λ e => e.symm) λ _ => rfl
 have old : ∀ p : Addr × Obj, p.1 ≠ c -> p ∈ pl ++ mt.map (·.2) ++ (ix.fz ++ fr.kz) -> h'.get? p.1 = some p.2 /\ p.1 ≠ fr.L /\ fr.h₀.get? p.1 = none := λ p ne hp => ⟨(hs.2 p.1 ne).trans (Y.W p hp).1, (Y.W p hp).2⟩
 refine ⟨⟨Y.F.ns.sameBut hs (Ne.symm hc.2.1), λ d x e => (hs.2 d λ z => nomatch (z ▸ hc.2.2 : fr.h₀.get? d = none).symm.trans e).trans (Y.F.keep d x e), Y.F.above⟩, λ p hp => ?_, Y.B, Y.bz, Y.ad, Y.P, ?_, λ p hp r hr => ?_, Y.ak, λ j hj hkj hc' => ?_, hl⟩
 · exact (CS.mp hp).elim (λ hp => (CS.mp hp).elim (λ hp => old p (Y.plne hm hp) (CO _ (CO _ hp)))
     λ hp => (ww hp).elim (λ e => e ▸ ⟨ho, hc.2⟩) λ z => old p z.2 (CO _ (CN _ z.1))) λ hp => old p (Y.ap _ hin p hp).symm (CN _ hp)
 · rw [eK, ea, <- eK]; exact Y.nd
 · exact (CS.mp hp).elim (λ hp => Y.ap p (CO _ hp) r hr) λ hp => (ww hp).elim (λ e => e ▸ Y.ap _ hin r hr) λ z => Y.ap p (CN _ z.1) r hr
 · obtain ⟨d, x, u, f1, f2, f3⟩ := Y.cs j hj hkj hc'
   by_cases ed : d = c
   · subst ed
     obtain rfl := Y.inj f2 hm rfl
     exact (hv hkj).elim λ y hy => ⟨d, o', y, f1, jP hm, hy⟩
   · exact ⟨d, x, u, f1, wI f2 ed, f3⟩
theorem Parts.setL (Y : Parts N prog w fr ix loc U h m pl mt) {i j : Nat} {c : Addr} {o o' : Obj} {u : V} (hm : (i, c, o) ∈ mt) (hij : ¬ i = j) (e : loc[j]? = some (some u)) : jE N prog w fr ix m (mt.map (Qd c o')) j u :=
 (Y.l j u e).to (.refl _) (λ _ h => h) (λ _ h => h) λ d x h => wI h λ ed => hij (Y.inj h hm ed).symm
theorem FS.storeC {A : Around} {E : Value -> Shared -> Prop} {s : Shared} (ok : fr.Ok) (Y : FS N prog w fr ix loc U s) (hcm : fr.cm = false) {i : Nat} (hi : i < fr.c.n) (hk : fr.c.kd i = 1) {v' : Value} {v : V} (hv : VR N prog w ix v' v) {Q : Unit -> Shared -> Prop}
   (q : ∀ s', FS N prog w fr ix (qy loc i (some v)) U s' -> Q () s') : wpAny (model prog w) A (storeName fr.env (fr.c.nl i) v') Q E s := by
 obtain ⟨⟨m, pl, mt, P⟩, g1, g2, g3⟩ := Y
 obtain ⟨c, o, v₀, e1, e2, e3⟩ := P.cs i hi hk hcm
 refine qa <| wpAny_storeName_cell ok.fne (ok.kind1 hk) e1 ⟨o, (P.W (c, o) (QQ e2)).1, e3⟩ λ h' hv' hs => hv'.elim λ o' z => ?_
 refine q _ ⟨⟨m, pl, _, P.mtTurn e2 hs z.1 (λ _ => ⟨_, z.2⟩) λ j u e => ?_⟩, g1, g2, g3⟩
 refine Jm e (λ ij vu => ?_) λ hij e => P.setL e2 hij e
 subst ij vu
 exact ⟨hi, (λ e => nomatch hk.symm.trans e), λ _ => ⟨(c, o', v'), e1, by rw [hcm]; exact jP e2, z.2, hv⟩⟩
end
section
variable {W : Wd} {b : Nat} {fr : Frm} {ix : Ix} {loc : List (Option V)} {U : Mu}
theorem XT {h : Heap} {m : Str -> Option Value} {pl : List (Addr × Obj)} {mt : List (Nat × Addr × Obj)} (P : Parts W.N W.prog W.w fr ix loc U h m pl mt) {i : Nat} {l : List V} (e : qj loc i = some (some (.own l))) (hk : fr.c.kd i = 0) {C : Prop}
   (f : i < fr.c.n -> ∀ a n vs, ix.ow.lookup i = some a -> m (fr.c.nl i) = some (.ref a) -> (i, a, qV vs n) ∈ mt -> W.VRs ix vs l -> h.get? a = some (qV vs n) -> C) : C :=
 have x := P.l i _ (qE loc i ▸ e)
 x.own hk λ a n vs x0 x1 x2 x3 => f x.lt a n vs x0 x1 x2 x3 (P.W _ (QQ x2)).1
theorem DN {i : Nat} {e : E} (he : SE W b e) {v : Expr} {np ap pos spos : Pos} {A : Around} {E : Value -> Shared -> Prop} {s : Shared} {kn : List (Option V) -> Mu -> Prop} {kr : V -> Mu -> Prop} {Q : Flow -> Shared -> Prop}
   (hk : fr.c.kd i = 0) (hs : qk v = true) (hl : (ap.endLine == pos.line) = true) (hm : mE W.N fr.c e v = true) (a : At W b A fr) (Y : W.FS fr ix loc U s) (h : zS W.T (.app i e) loc U kn kr) (q : zk W fr ix kn kr Q) :
   wpAny W.M A (exec (.Expr (.Call (.Attribute (.Name (fr.c.nl i) np) "append" ap) [v] [] pos) spos) fr.env) Q E s := by
 have hms : yk W.N fr.c (.cons e .nil) [v] = true := by show (qk v && mE W.N fr.c e v && true) = true; rw [hs, hm]; rfl
 refine uD h λ l e0 h => Y.op λ m pl mt P => XT P e0 hk λ hi d n vs x0 x1 x2 x3 x4 => ?_
 refine ym (zI (qa <| wpAny_Name (wpAny_loadName_local a.ok.1.fne (a.ok.1.kind0 hk) P.F.ns x1 ?_) (a.ok.1.dbg i hi)) (jB rfl (Ja hms) (show 1 < 30 by decide) hl)) (kg a.ok.1) (zW rfl _ _ _)
 refine qa <| getMethod_list_append x4 rfl rfl (kD (wu he WY) cw_builtin hms a Y (k := λ w U' => pT w λ l' => p1 l' λ u => kn (qy loc i (some (.own (l ++ [u])))) U') h.2 λ jx us u U' s' z h' vr Y' => vr.q1 h' λ u' u vu hkn =>
   Y'.op λ m2 pl2 mt2 P2 => XT P2 e0 hk λ _ d2 n2 vs2 y0 y1 y2 y3 y4 => ?_)
 obtain rfl := Option.some.inj (x0.symm.trans (z.ow ▸ y0))
 refine qa <| append_at y4 (λ h' hs' ho' => ?_) (by simpa [y3.length] using QF (eP h.1))
 refine q.nx jx _ _ _ z.w hkn ⟨⟨m2, pl2, _, P2.mtTurn (o' := qV (vs2 ++ [u']) (n2 + 1)) y2 hs' (by rw [ho']; simp) (λ e => nomatch hk.symm.trans e) λ j x ej => Jm ej (λ ij xu => ?_) λ hij e => P2.setL y2 hij e⟩, Y'.gens, Y'.os, Y'.drawn⟩
 subst ij xu
 exact ⟨hi, λ _ => .inr ⟨(l ++ [u], d, n2 + 1, vs2 ++ [u']), rfl, y0, y1, jP y2, y3.app (.cons vu .nil)⟩, λ e => nomatch hk.symm.trans e⟩
end
section
variable {W : Wd} {b : Nat}
theorem Fc {c : Cx} {i : Nat} (hi : i < c.n) (hk : c.kd i = 0) (p : Pos) : zr c [i] true (.Name (c.nl i) p) = true := by
 have e : iw i c.n = true := Nat.ble_eq_true_of_le hi
 show (iw i c.n && eB (c.kd i) 0 && c.nl i == c.nl i && true) = true
 rw [e, hk, beq_self_eq_true]; rfl
section
variable {fr : Frm} {ix : Ix} {loc : List (Option V)} {U : Mu} {h h' : Heap} {m : Str -> Option Value} {pl : List (Addr × Obj)} {mt : List (Nat × Addr × Obj)} {i : Nat} {a : Addr} {o : Obj} {p : Addr × Obj}
theorem uA {mt : List (Nat × Addr × Obj)} (hp : p ∈ pl ++ ((i, a, o) :: mt).map (·.2)) : p = (a, o) \/ p ∈ pl ++ mt.map (·.2) :=
 (CS.mp hp).elim (λ h => .inr (CO _ h)) λ h => (eV.mp h).imp id λ h => CN _ h
theorem OH {j : Nat} (hij : ¬ i = j) {l : List (Nat × Addr)} : ((i, a) :: l).lookup j = l.lookup j := by
 have : (j == i) = false := beq_eq_false_iff_ne.mpr λ e => hij e.symm
 rw [IX, this]
theorem Parts.own (ok : fr.Ok) (P : Parts W.N W.prog W.w fr ix loc U h m pl mt) {vs : List Value} {l : List V} (hi : i < fr.c.n) (hk : fr.c.kd i = 0) {m' : Str -> Option Value} (F' : Fr fr.h₀ fr.L h' m') (hm : ∀ y, y ≠ fr.c.nl i -> m' y = m y) (hv : m' (fr.c.nl i) = some (.ref a))
   (W' : News fr.h₀ fr.L h' ((a, qV vs 0) :: (pl ++ mt.map (·.2) ++ (ix.fz ++ fr.kz)))) (nw : ∀ p ∈ pl ++ mt.map (·.2) ++ (ix.fz ++ fr.kz), p.1 ≠ a) (vr : W.VRs ix vs l) :
   Parts W.N W.prog W.w fr { ix with ow := (i, a) :: ix.ow } (qy loc i (some (.own l))) U h' m' pl ((i, a, qV vs 0) :: mt) :=
 have q := Ix.Le0.ow ix ((i, a) :: ix.ow)
 have p1 : (pl ++ ((i, a, qV vs 0) :: mt).map (·.2)).Perm ((a, qV vs 0) :: (pl ++ mt.map (·.2))) := List.perm_middle
 ⟨F', News.sub W' λ p hp => (CS.mp hp).elim (λ h => (uA h).elim (λ e => e ▸ ih) λ h => i0 (CO _ h)) λ h => i0 (CN _ h), P.B, P.bz, P.ad, P.P.mono0 q,
   (p1.map (·.1)).nodup_iff.mpr (eO.mpr ⟨λ hm => (CU.mp hm).elim λ p z => nw p (CO _ z.1) z.2, P.nd⟩),
   λ p hp r hr => (uA hp).elim (λ e => e ▸ (nw r (CN _ hr)).symm) λ hp => P.ap p hp r hr, P.ak,
   λ j hj hkj hc => (P.cs j hj hkj hc).imp λ _ => Exists.imp λ _ => Exists.imp λ _ f => ⟨f.1, i0 f.2.1, f.2.2⟩,
   λ j u e => Jm e (λ ij xu => ij ▸ xu ▸ ⟨hi, λ _ => .inr ⟨(l, a, 0, vs), rfl, List.lookup_cons_self, hv, ih, vr.mono0 _ _ _ q⟩, λ e => nomatch hk.symm.trans e⟩)
     λ hij e => have x := P.l j u e
       x.to q (λ _ h => (OH hij).trans h) (λ v h => (hm _ λ z => hij (ok.inj j i x.lt hi z).symm).trans h) λ d o h => i0 h⟩
end
theorem FS.storeOwn {A : Around} {E : Value -> Shared -> Prop} {fr : Frm} {ix : Ix} {loc : List (Option V)} {U : Mu} {s : Shared} {h' : Heap} {m : Str -> Option Value} {pl : List (Addr × Obj)} {mt : List (Nat × Addr × Obj)} {a : Addr} {vs : List Value} {l : List V}
   (ok : fr.Ok) (P : Parts W.N W.prog W.w fr ix loc U s.heap m pl mt) (Y : W.FS fr ix loc U s) {i : Nat} (hi : i < fr.c.n) (hk : fr.c.kd i = 0) (F' : Fr fr.h₀ fr.L h' m)
   (W' : News fr.h₀ fr.L h' ((a, qV vs 0) :: (pl ++ mt.map (·.2) ++ (ix.fz ++ fr.kz)))) (nw : ∀ p ∈ pl ++ mt.map (·.2) ++ (ix.fz ++ fr.kz), p.1 ≠ a) (vr : W.VRs ix vs l) {Q : Unit -> Shared -> Prop}
   (q : ∀ s', W.FS fr { ix with ow := (i, a) :: ix.ow } (qy loc i (some (.own l))) U s' -> Q () s') : wpAny W.M A (storeName fr.env (fr.c.nl i) (.ref a)) Q E { s with heap := h' } :=
 qa <| wpAny_storeName_local (ok.kind0 hk) F'.ns (λ h2 hn hs => q _ ⟨⟨_, pl, _, P.own ok hi hk (F'.set hn hs) (λ y hy => if_neg hy) (if_pos rfl) (W'.set hs) nw vr⟩, Y.gens, Y.os, Y.drawn⟩) (by rw [ok.fne]; rfl)
theorem DK {i : Nat} {es : E} (he : SL W b es) {xs : List Expr} {p lp pos : Pos} {A : Around} {E : Value -> Shared -> Prop} {fr : Frm} {ix : Ix} {loc : List (Option V)} {U : Mu} {s : Shared} {kn : List (Option V) -> Mu -> Prop} {kr : V -> Mu -> Prop} {Q : Flow -> Shared -> Prop}
   (hi : i < fr.c.n) (hk : fr.c.kd i = 0) (hx : eY xs.length 100 = true) (hm : yk W.N fr.c es xs = true) (a : At W b A fr) (Y : W.FS fr ix loc U s) (h : zS W.T (.own i es) loc U kn kr) (q : zk W fr ix kn kr Q) :
   wpAny W.M A (exec (.Assign [.Name (fr.c.nl i) p] (.List xs lp) pos) fr.env) Q E s := by
 refine jk (ZN (he hm a Y h λ jx vs u U' s' z h' vr hn Y' => ?_)) (zW rfl _ _ _)
 refine Y'.op λ m pl mt P => qa <| newList_N P.F P.W (λ h2 F' W' => ?_) (by rw [hn]; exact small hx)
 exact FS.storeOwn (vs := vs) (l := u) a.ok.1 P Y' hi hk F' W' (λ p hp => eF (News.lt P.W hp)) vr λ s3 Y3 => q.nx _ _ _ _ (z.w.trans (.ow _ _)) h' Y3
end
section
variable {W : Wd} {b : Nat}
theorem Parts.freeze {fr : Frm} {ix : Ix} {loc : List (Option V)} {U : Mu} {h : Heap} {m : Str -> Option Value} {pl : List (Addr × Obj)} {mt : List (Nat × Addr × Obj)} (P : Parts W.N W.prog W.w fr ix loc U h m pl mt) {i : Nat} {l : List V} {a : Addr} {n : Nat} {vs : List Value} (hi : i < fr.c.n) (hk : fr.c.kd i = 0)
   (x1 : m (fr.c.nl i) = some (.ref a)) (x2 : (i, a, qV vs n) ∈ mt) (x3 : W.VRs ix vs l) : Parts W.N W.prog W.w fr { ix with fz := (a, qV vs n) :: ix.fz } (qy loc i (some (.lst l))) U h m pl (mt.filter λ t => !(t.2.1 == a)) :=
 have q : ix.Le { ix with fz := (a, qV vs n) :: ix.fz } := Ix.le_more ix (a, qV vs n)
 have hin : (a, qV vs n) ∈ pl ++ mt.map (·.2) := CN _ (CU.mpr ⟨_, x2, rfl⟩)
 have fm : ∀ p ∈ pl ++ (mt.filter λ t => !(t.2.1 == a)).map (·.2), p ∈ pl ++ mt.map (·.2) /\ p.1 ≠ a := λ p hp => (CS.mp hp).elim (λ h => ⟨CO _ h, P.plne x2 h⟩) λ h => (CU.mp h).elim λ t z =>
   have y := Ib.mp z.1
   z.2 ▸ ⟨CN _ (CU.mpr ⟨t, y.1, rfl⟩), by simpa using y.2⟩
 have mf : ∀ {j d o}, ¬ i = j -> (j, d, o) ∈ mt -> (j, d, o) ∈ mt.filter λ t => !(t.2.1 == a) := λ hij h => Ib.mpr ⟨h, by
   have := λ e => hij (P.inj h x2 e).symm
   simpa using this⟩
 have sub : List.Sublist ((pl ++ (mt.filter λ t => !(t.2.1 == a)).map (·.2)).map (·.1)) ((pl ++ mt.map (·.2)).map (·.1)) := ((List.Sublist.refl pl).append (List.filter_sublist.map _)).map _
 ⟨P.F, λ p hp => P.W p ((CS.mp hp).elim (λ h => CO _ (fm p h).1) λ h => (CS.mp h).elim (λ h => mc h (λ e => e ▸ CO _ hin) λ h => CN _ (CO _ h)) λ h => CN _ (CN _ h)),
   P.B, P.bz, P.ad, P.P.mono q, P.nd.sublist sub,
   λ p hp r hr => (CS.mp hr).elim (λ hr => mc hr (λ e => e ▸ (fm p hp).2) λ hr => P.ap p (fm p hp).1 r (CO _ hr)) λ hr => P.ap p (fm p hp).1 r (CN _ hr),
   λ p hp r hr => mc hp (λ e => e ▸ P.ap _ hin r (CN _ hr)) λ hp => P.ak p hp r hr,
   λ j hj hkj hc => (P.cs j hj hkj hc).imp λ _ => Exists.imp λ _ => Exists.imp λ _ f => ⟨f.1, mf (λ e => nomatch (e ▸ hk).symm.trans hkj) f.2.1, f.2.2⟩,
   λ j u e => Jm e (λ ij xu => ij ▸ xu ▸ ⟨hi, λ _ => .inl ⟨_, x1, .lst (.inl ih) ⟨rfl, _, rfl⟩ (x3.mono _ _ _ q)⟩, λ e => nomatch hk.symm.trans e⟩) λ hij e => (P.l j u e).to q.w (λ _ h => h) (λ _ h => h) λ d o => mf hij⟩
theorem FS.freeze {fr : Frm} {ix : Ix} {loc : List (Option V)} {U : Mu} {s : Shared} (Y : W.FS fr ix loc U s) {i : Nat} {l : List V} (e0 : qj loc i = some (some (.own l))) (hk : fr.c.kd i = 0) :
   ∃ jx, ix.Le0 jx /\ W.FS fr jx (qy loc i (some (.lst l))) U s :=
 Y.op λ m pl mt P => XT P e0 hk λ hi a n vs x0 x1 x2 x3 x4 => ⟨_, (Ix.le_more ix (a, qV vs n)).w, ⟨m, pl, _, P.freeze hi hk x1 x2 x3⟩, Y.gens, Y.os, Y.drawn⟩
end
noncomputable def uq {α : Type} (x : Sem α) : Option α := match x with
 | .pure a => some a
 | _ => none
theorem VH {α : Type} {x : Sem α} {a : α} (h : uq x = some a) : x = .pure a := by
 cases x with
 | pure b => exact congrArg Sem.pure (Option.some.inj h)
 | _ => exact qg h
noncomputable def pF (sc : Scope) : Env := { scope := sc, locals := 0, globals := 0, cells := [] }
noncomputable def Jr (c : Cx) (t value : Expr) : Option (Option (List Str)) := uq (swappedStores [t] value (pF c.cs))
theorem ZW {fr : Frm} (ok : fr.Ok) {t value : Expr} {r : Option (List Str)} (h : Jr fr.c t value = some r) : swappedStores [t] value fr.env = pure r :=
 (show swappedStores [t] value fr.env = swappedStores [t] value (pF fr.env.scope) from rfl).trans (ok.sc ▸ VH h)
noncomputable def Rn (N : Nm) (c : Cx) (t : Tg) (x : Expr) : Bool := match t with
 | .nm i => YG x λ y _ => iw i c.n && eB (c.kd i) 0 && c.nl i == y
 | .sb o i => vp x λ bx ix _ => mE N c o bx && mE N c i ix
noncomputable def uP (N : Nm) (c : Cx) : List Tg -> List Expr -> Bool
 | [], xs => l0 xs
 | t :: r, xs => lc xs λ x rs => Rn N c t x && uP N c r rs
noncomputable def yJ : List Tg -> Option (List Nat)
 | [] => some []
 | .nm x :: r => match yJ r with | some l => some (x :: l) | _ => none
 | _ => none
section
variable {W : Wd} {b : Nat}
theorem vN {A : Around} {E : Value -> Shared -> Prop} {s : Shared} {env : Env} {o i : Expr} {pos : Pos} {v : Value} {Q : Unit -> Shared -> Prop}
   (h : wpAny W.M A (eval o env) (λ ov s₂ => wpAny W.M A (eval i env) (λ iv s₃ => wpAny W.M A (setItem ov iv v) Q E s₃) E s₂) E s) : wpAny W.M A (assign (.Subscript o i pos) env v) Q E s := by
 rw [arm_assign_Subscript]
 exact wpAny_bind (qc (ql h (λ ov s₂ h₂ => wpAny_bind (qc (ql h₂ (λ iv s₃ h₃ => wpAny_bind (qd (wpAny_bind (qc (ql h₃ (λ _ s₄ h₄ => wpAny_release h₄) λ _ _ x => x)))))
   λ _ _ x => x))) λ _ _ x => x))
section
variable {N : Nm} {c : Cx} {i : Nat} {o j : E} {x : Expr}
@[elab_as_elim] theorem aU {C : Expr -> Prop} (h : Rn N c (.nm i) x = true) (f : ∀ p, i < c.n -> c.kd i = 0 -> C (.Name (c.nl i) p)) : C x :=
 ku (show YG x (λ y _ => iw i c.n && eB (c.kd i) 0 && c.nl i == y) = true from h) λ y p h => A3 h λ h1 h2 h3 => eq_of_beq h3 ▸ f p (CR h1) (em h2)
@[elab_as_elim] theorem aT {C : Expr -> Prop} (h : Rn N c (.sb o j) x = true) (f : ∀ y z p, mE N c o y = true -> mE N c j z = true -> C (.Subscript y z p)) : C x :=
 UB (show vp x (λ bx ix _ => mE N c o bx && mE N c j ix) = true from h) λ y z p h => A2 h (f y z p)
end
theorem UU (G : W.Good) (Hs : Calls W b) {A : Around} {E : Value -> Shared -> Prop} {fr : Frm} (a : At W b A fr) {kn : List (Option V) -> Mu -> Prop} {Q : Unit -> Shared -> Prop} {ts : List Tg} : ∀ {elts : List Expr} {vs : List Value} {l : List V} {loc : List (Option V)} {ix : Ix} {U : Mu} {s : Shared},
   uP W.N fr.c ts elts = true -> W.VRs ix vs l -> W.FS fr ix loc U s -> Xx W.T loc ts l U kn -> (∀ jx loc' U' s', ix.Le jx -> kn loc' U' -> W.FS fr jx loc' U' s' -> Q () s') -> wpAny W.M A (assignInOrder ((assignEach elts fr.env).map (·.2)) vs) Q E s := by
 induction ts with
 | nil =>
   intro elts vs l loc ix U s hm vr Y h q
   refine Qy (C := λ elts => wpAny W.M A (assignInOrder ((assignEach elts fr.env).map (·.2)) vs) Q E s) hm ?_
   cases l with
   | nil => exact vr.eln (C := λ vs => wpAny W.M A (assignInOrder [] vs) Q E s) (wpAny_pure (q _ _ _ _ (.refl _) h Y))
   | cons => exact h.elim
 | cons t ts ih =>
   intro elts vs l loc ix U s hm vr Y h q
   refine KM (C := λ elts => wpAny W.M A (assignInOrder ((assignEach elts fr.env).map (·.2)) vs) Q E s) hm λ x rs hm => A2 hm λ h1 h2 => ?_
   cases l with
   | nil => cases t <;> exact h.elim
   | cons v l =>
     refine vr.elc (C := λ vs => wpAny W.M A (assignInOrder ((assignEach (x :: rs) fr.env).map (·.2)) vs) Q E s) λ v1' vs v1 vr => ?_
     cases t with
     | nm i => exact aU (C := λ x => wpAny W.M A (assignInOrder ((assignEach (x :: rs) fr.env).map (·.2)) (v1' :: vs)) Q E s) h1 λ p h4 h5 => wpAny_bind (qc (zl (FS.store a.ok.1 Y h4 h5 v1 λ s' Y' => ih h2 vr Y' h q)))
     | sb o i => exact aT (C := λ x => wpAny W.M A (assignInOrder ((assignEach (x :: rs) fr.env).map (·.2)) (v1' :: vs)) Q E s) h1 λ y z p h3 h4 => wpAny_bind (qc (vN ((all G Hs o).e h3 a Y h λ jx v' v U' s' z h' vr' Y' => (all G Hs i).e h4 a Y' h' λ kx u' u U2 s2 z2 h2' ur Y2 =>
         Js G.H G.C a.ok a.R1 Y2 (VR.mono _ _ _ z2 vr') ur (VR.mono _ _ _ (z.trans z2) v1) h2' λ mx U4 s4 z4 h4' Y4 =>
           ih h2 (VRs.mono _ _ _ ((z.trans z2).trans z4) vr) Y4 h4' λ jx loc' U' s' z' => q jx loc' U' s' (((z.trans z2).trans z4).trans z'))))
theorem We {α : Type} {x : α} {l : List (Bool × α)} (h : l.findIdx? (·.1) = none) : ((false, x) :: l).findIdx? (·.1) = none := by rw [List.findIdx?_cons, h]; rfl
theorem uO {N : Nm} {c : Cx} {env : Env} {ts : List Tg} : ∀ {elts : List Expr}, uP N c ts elts = true -> elts.length = ts.length /\ (assignEach elts env).length = elts.length /\ (assignEach elts env).findIdx? (·.1) = none := by
 induction ts with
 | nil => exact λ {elts} h => Qy (C := λ elts => elts.length = 0 /\ (assignEach elts env).length = elts.length /\ (assignEach elts env).findIdx? (·.1) = none) h ⟨rfl, rfl, rfl⟩
 | cons t ts ih =>
   intro elts h
   refine KM (C := λ elts => elts.length = ts.length + 1 /\ (assignEach elts env).length = elts.length /\ (assignEach elts env).findIdx? (·.1) = none) h λ x rs h => A2 h λ h1 h2 => ?_
   obtain ⟨z0, z1, z2⟩ := ih h2
   have e : ∃ y, assignEach (x :: rs) env = (false, y) :: assignEach rs env := by
     cases t with
     | nm i => exact aU (C := λ x => ∃ y, assignEach (x :: rs) env = (false, y) :: assignEach rs env) h1 λ p _ _ => ⟨_, rfl⟩
     | sb o i => exact aT (C := λ x => ∃ y, assignEach (x :: rs) env = (false, y) :: assignEach rs env) h1 λ y z p _ _ => ⟨_, rfl⟩
   obtain ⟨y, e⟩ := e
   rw [e]
   exact ⟨congrArg Ia z0, congrArg Ia z1, We z2⟩
theorem ZX {v : Expr} (h : zc v = true) (t : Expr) (n : Nat) (env : Env) : swapsWithSole [t] v n env = pure false := zW h _ _ _
theorem JW {fr : Frm} {ix : Ix} {loc : List (Option V)} {U : Mu} {s : Shared} (Y : W.FS fr ix loc U s) {h2 : Heap} (he : ∀ c o, c ≠ s.heap.objs.size -> s.heap.get? c = some o -> h2.get? c = some o) : W.FS fr ix loc U { s with heap := h2 } := Y.grown λ c o e => he c o (eF (eW e)) e
theorem GF (G : W.Good) (Hs : Calls W b) {ts : List Tg} {e : E} {elts : List Expr} {k : Nat} {p pos : Pos} {v : Expr} {A : Around} {E : Value -> Shared -> Prop} {fr : Frm} {ix : Ix} {loc : List (Option V)} {U : Mu} {s : Shared} {kn : List (Option V) -> Mu -> Prop} {kr : V -> Mu -> Prop} {Q : Flow -> Shared -> Prop}
   (ht : uP W.N fr.c ts elts = true) (hw : Jr fr.c (.Tuple elts k p) v = some none) (hv : zc v = true) (hm : mE W.N fr.c e v = true) (a : At W b A fr) (Y : W.FS fr ix loc U s) (h : zS W.T (.asgT ts e) loc U kn kr) (q : zk W fr ix kn kr Q) :
   wpAny W.M A (exec (.Assign [.Tuple elts k p] v pos) fr.env) Q E s := by
 refine KJ ((all G Hs e).e hm a Y h λ jx v' v U' s' z h' vr Y' => ?_) (ZX hv _ _ _) (ZW a.ok.1 hw)
 refine vr.qT h' λ l af o vs h' hf t0 bs => Y'.op λ m pl mt P => ?_
 obtain ⟨z0, z1, z2⟩ := uO (env := fr.env) ht
 exact zU a.R.hd (FS.tupAt P hf t0) (by rw [z1, z0, <- h'.1, <- bs.length, iK]) z2 λ h2 he => UU G Hs a ht bs (JW Y' he) h'.2 λ kx loc' U2 s2 z2 h2 Y3 => q.nx kx _ _ _ (z.trans z2).w h2 Y3
theorem Jp : ∀ {ts : List Tg} {xs : List Nat}, yJ ts = some xs -> ts = xs.map Tg.nm
 | [], xs, h => Option.some.inj h ▸ rfl
 | .nm x :: r, xs, h => by
   replace h : (match yJ r with | some l => some (x :: l) | _ => none) = some xs := h
   cases e : yJ r with
   | none => rw [e] at h; cases h
   | some l => rw [e] at h; exact Option.some.inj h ▸ congrArg (Tg.nm x :: ·) (Jp e)
 | .sb _ _ :: _, xs, h => qg h
theorem UV {A : Around} {E : Value -> Shared -> Prop} {fr : Frm} (ok : fr.Ok) {ix : Ix} {U : Mu} {kn : List (Option V) -> Mu -> Prop} {Q : Unit -> Shared -> Prop} {xs : List Nat} : ∀ {vs : List Value} {l : List V} {loc : List (Option V)} {s : Shared},
   (∀ x ∈ xs, x < fr.c.n /\ fr.c.kd x = 0) -> W.VRs ix vs l -> W.FS fr ix loc U s -> Xx W.T loc (xs.map Tg.nm) l U kn -> (∀ loc' s', kn loc' U -> W.FS fr ix loc' U s' -> Q () s') ->
   wpAny W.M A (assignInOrder (xs.map λ x => bindName fr.env (fr.c.nl x)) vs) Q E s := by
 induction xs with
 | nil =>
   intro vs l loc s hx vr Y h q
   cases l with
   | nil => exact vr.eln (C := λ vs => wpAny W.M A (assignInOrder [] vs) Q E s) (wpAny_pure (q _ _ h Y))
   | cons => exact h.elim
 | cons x xs ih =>
   intro vs l loc s hx vr Y h q
   cases l with
   | nil => exact h.elim
   | cons v l =>
     have z := hx x (CZ ..)
     exact vr.elc (C := λ vs => wpAny W.M A (assignInOrder (bindName fr.env (fr.c.nl x) :: xs.map λ x => bindName fr.env (fr.c.nl x)) vs) Q E s) λ v1' vs v1 vr =>
       wpAny_bind (qc (zj (FS.store ok Y z.1 z.2 v1 λ s' Y' => ih (λ y hy => hx y (i0 hy)) vr Y' h q)))
theorem VRs.rev {N : Nm} {prog : Program} {w : World} {ix : Ix} {vs : List Value} {l : List V} (h : Mi.VRs N prog w ix vs l) : Mi.VRs N prog w ix vs.reverse l.reverse :=
 h.ind .nil λ a _ z => by rw [List.reverse_cons, List.reverse_cons]; exact z.app (.cons a .nil)
theorem GG (G : W.Good) (Hs : Calls W b) {ts : List Tg} {e : E} {elts : List Expr} {k : Nat} {p pos : Pos} {v : Expr} {xs : List Nat} {A : Around} {E : Value -> Shared -> Prop} {fr : Frm} {ix : Ix} {loc : List (Option V)} {U : Mu} {s : Shared} {kn : List (Option V) -> Mu -> Prop} {kr : V -> Mu -> Prop} {Q : Flow -> Shared -> Prop}
   (hx : yJ ts = some xs) (ht : ∀ x ∈ xs, x < fr.c.n /\ fr.c.kd x = 0) (hw : Jr fr.c (.Tuple elts k p) v = some (some (xs.map fr.c.nl))) (hv : zc v = true) (hm : mE W.N fr.c e v = true) (a : At W b A fr) (Y : W.FS fr ix loc U s) (h : zS W.T (.asgR ts e) loc U kn kr) (q : zk W fr ix kn kr Q) :
   wpAny W.M A (exec (.Assign [.Tuple elts k p] v pos) fr.env) Q E s := by
 obtain rfl := Jp hx
 refine zb ((all G Hs e).e hm a Y h λ jx v' v U' s' z h' vr Y' => ?_) (ZX hv _ _ _) (ZW a.ok.1 hw)
 refine vr.qT h' λ l af o vs h' hf t0 bs => Y'.op λ m pl mt P => ?_
 have hn : (xs.map fr.c.nl).length = vs.toArray.size := by rw [ee, iK, bs.length, h'.1, ee]
 have er : (List.map (λ n => bindName fr.env n) (xs.map fr.c.nl).reverse) = xs.reverse.map λ x => bindName fr.env (fr.c.nl x) := by
   rw [<- List.map_reverse, io]; rfl
 rw [hn, er]
 exact qa <| wpAny_unpackItems_tuple a.R.hd (FS.tupAt P hf t0) λ h2 he =>
   UV a.ok.1 (λ x hx => ht x (List.mem_reverse.mp hx)) (VRs.rev bs) (JW Y' he) (by rw [List.map_reverse]; exact h'.2) λ loc' s2 h2 Y3 => q.nx jx _ _ _ z.w h2 Y3
end
section
variable {W : Wd} {b : Nat}
theorem FS.kzOwn {A : Around} {E : Value -> Shared -> Prop} {fr : Frm} {ix : Ix} {loc : List (Option V)} {U : Mu} {s : Shared} {a : Addr} {vs : List Value} {l : List V} (ok : fr.Ok) (Y : W.FS { fr with kz := (a, qV vs 0) :: fr.kz } ix loc U s) (nk : ∀ q ∈ fr.kz, q.1 ≠ a)
   {i : Nat} (hi : i < fr.c.n) (hk : fr.c.kd i = 0) (vr : W.VRs ix vs l) {Q : Unit -> Shared -> Prop}
   (q : ∀ s', W.FS fr { ix with ow := (i, a) :: ix.ow } (qy loc i (some (.own l))) U s' -> Q () s') : wpAny W.M A (storeName fr.env (fr.c.nl i) (.ref a)) Q E s :=
 Y.op λ m pl mt P => FS.storeOwn (s := s) (h' := s.heap) ok (P.kzSub (kz := fr.kz) λ q hq => i0 hq) ⟨⟨m, pl, mt, P.kzSub (kz := fr.kz) λ q hq => i0 hq⟩, Y.gens, Y.os, Y.drawn⟩ hi hk P.F
   (News.sub P.W λ p hp => mc hp (λ e => e ▸ i3 ih) λ hp => m3 hp i1 i2 λ h => i3 (i0 h)) (λ p hp => m3 hp (λ hp => P.ap p hp (a, qV vs 0) (CN _ ih)) (λ hp => P.ak p hp (a, qV vs 0) ih) (nk p)) vr q
theorem At.kz {A : Around} {fr : Frm} (a : At W b A fr) (p : Addr × Obj) : At W b A { fr with kz := p :: fr.kz } := ⟨⟨a.ok.1.kz _, a.ok.2⟩, a.R, a.b1⟩
theorem FS.newTup {A : Around} {E : Value -> Shared -> Prop} {fr : Frm} {ix : Ix} {loc : List (Option V)} {U : Mu} {s : Shared} (Y : W.FS fr ix loc U s) {vs : List Value} (hn : vs.length <= sizeLine) {n : Nat} (hh : A.handled = none) (en : n = vs.length) {Q : List Value -> Shared -> Prop}
   (q : ∀ s', W.FS fr ix loc U s' -> Q vs s') : wpAny W.M A (newTuple vs) (λ v s₁ => wpAny W.M A (unpackItems v n none) Q E s₁) E s := by
 subst en
 refine qa <| wpAny_newObj_type ?_ (by show vs.toArray.size <= sizeLine; rw [iK]; exact hn)
 have z := λ Q hq => qa <| wpAny_unpackItems_tuple (prog := W.prog) (w := W.w) (A := A) (E := E) (s := { s with heap := s.heap.push (oR vs 0) }) (t := s.heap.objs.size) (items := vs.toArray) (Q := Q) hh ⟨_, EE _ rfl, rfl, 0, rfl⟩ hq
 rw [iK] at z
 exact z _ λ h' he => q _ (JW (Y.grown (h' := s.heap.push (oR vs 0)) λ _ _ e => Es _ e) he)
variable {i j n : Nat} {elts : List Expr} {k k2 : Nat} {p p2 p3 p4 pos : Pos} {A : Around} {E : Value -> Shared -> Prop} {fr : Frm} {ix : Ix} {loc : List (Option V)} {U : Mu} {s : Shared} {kn : List (Option V) -> Mu -> Prop} {kr : V -> Mu -> Prop} {Q : Flow -> Shared -> Prop}
theorem GE (G : W.Good) (hi : i < fr.c.n) (hk : fr.c.kd i = 0) (hj : j < fr.c.n) (hkj : fr.c.kd j = 0) (hw : Jr fr.c (.Tuple elts k p) (.Tuple [.List [] p3, .List [] p4] k2 p2) = some (some [fr.c.nl i, fr.c.nl j])) (a : At W b A fr) (Y : W.FS fr ix loc U s) (h : zS W.T (.own2 i j) loc U kn kr) (q : zk W fr ix kn kr Q) :
   wpAny W.M A (exec (.Assign [.Tuple elts k p] (.Tuple [.List [] p3, .List [] p4] k2 p2) pos) fr.env) Q E s := by
 have n1 := FS.kzNew (tk := s.toks) Y (qV [] 0)
 have n2 := FS.kzNew (tk := s.toks) n1.1 (qV [] 0)
 refine zb (vR (qr (ZN (spliced_none (qa <| wpAny_newObj_type ?_ (show 0 <= sizeLine from Ew _)))))) (ZX rfl _ _ _) (ZW a.ok.1 hw)
 refine qr (ZN (spliced_none (qa <| wpAny_newObj_type ?_ (show 0 <= sizeLine from Ew _))))
 exact spliced_none (FS.newTup n2.1 (vs := [.ref s.heap.objs.size, .ref (s.heap.push (qV [] 0)).objs.size]) (show 2 <= sizeLine by decide) a.R.hd rfl λ s3 Y3 =>
   wpAny_bind (qc (zj (FS.kzOwn (fr := { fr with kz := (s.heap.objs.size, qV [] 0) :: fr.kz }) (a.kz _).ok.1 Y3 n2.2 hj hkj .nil λ s4 Y4 =>
     wpAny_bind (qc (zj (FS.kzOwn a.ok.1 Y4 n1.2 hi hk .nil λ s5 Y5 => wpAny_pure (q.nx _ _ _ _ (.ow _ _) h Y5))))))))
theorem GD (G : W.Good) (Hs : Calls W b) {e1 e2 es : Mi.E} {x1 x2 : Expr} {xs : List Expr}
   (hi : i < fr.c.n) (hk : fr.c.kd i = 0) (hj : j < fr.c.n) (hkj : fr.c.kd j = 0) (hn : n < fr.c.n) (hkn : fr.c.kd n = 0) (s1 : qk x1 = true) (s2 : qk x2 = true) (hm1 : mE W.N fr.c e1 x1 = true) (hm2 : mE W.N fr.c e2 x2 = true) (hms : yk W.N fr.c es xs = true) (hx : eY xs.length 100 = true)
   (hw : Jr fr.c (.Tuple elts k p) (.Tuple [x1, x2, .List xs p3] k2 p2) = some (some [fr.c.nl i, fr.c.nl j, fr.c.nl n])) (a : At W b A fr) (Y : W.FS fr ix loc U s) (h : zS W.T (.own3 i j n e1 e2 es) loc U kn kr) (q : zk W fr ix kn kr Q) :
   wpAny W.M A (exec (.Assign [.Tuple elts k p] (.Tuple [x1, x2, .List xs p3] k2 p2) pos) fr.env) Q E s := by
 refine zb (vR (qr ((all G Hs e1).e hm1 a Y h λ jx v1' v1 U1 t1 z1 h1 vr1 Y1 => qr ((all G Hs e2).e hm2 a Y1 h1 λ kx v2' v2 U2 t2 z2 h2 vr2 Y2 => ?_) (qh s2 _ _)) (qh s1 _ _)))
   (ZX rfl _ _ _) (ZW a.ok.1 hw)
 refine qr (ZN ((all G Hs es).l hms a Y2 h2 λ lx vs u U3 t3 z3 h3 vr hl Y3 => qa <| wpAny_newObj_type ?_ (by show vs.toArray.size <= sizeLine; rw [iK, hl]; exact small hx)))
 have n1 := FS.kzNew (tk := t3.toks) Y3 (qV vs 0)
 exact spliced_none (FS.newTup n1.1 (vs := [v1', v2', .ref t3.heap.objs.size]) (show 3 <= sizeLine by decide) a.R.hd rfl λ s5 Y5 =>
   wpAny_bind (qc (zj (FS.kzOwn a.ok.1 Y5 n1.2 hn hkn vr λ s6 Y6 =>
     wpAny_bind (qc (zj (FS.store a.ok.1 Y6 hj hkj (VR.mono0 _ _ _ (z3.w.trans (.ow _ _)) vr2) λ s7 Y7 =>
       wpAny_bind (qc (zj (FS.store a.ok.1 Y7 hi hk (VR.mono0 _ _ _ ((z2.trans z3).w.trans (.ow _ _)) vr1) λ s8 Y8 => wpAny_pure
         (q.nx _ _ _ _ (((z1.trans z2).trans z3).w.trans (.ow _ _)) h3 Y8)))))))))))
end
section
variable {N : Nm} {prog : Program} {w : World} {fr : Frm} {ix : Ix} {loc : List (Option V)} {U : Mu} {h h' : Heap} {m : Str -> Option Value} {pl : List (Addr × Obj)} {mt : List (Nat × Addr × Obj)} {kz : List (Addr × Obj)} {wr : List Addr}
noncomputable def BZ (fr : Frm) (kz : List (Addr × Obj)) (wr : List Addr) (h h' : Heap) : Prop := (∀ b x, b ∉ wr -> h.get? b = some x -> h'.get? b = some x) /\ (∀ I ∈ wr, ∃ o, (I, o) ∈ fr.kz) /\ ∀ q ∈ kz, (q ∈ fr.kz /\ q.1 ∉ wr) \/ (q.1 ∈ wr /\ h'.get? q.1 = some q.2)
theorem Parts.kzToW (Y : Parts N prog w fr ix loc U h m pl mt) (k : BZ fr kz wr h h') : Parts N prog w { fr with kz := kz } ix loc U h' m pl mt :=
 have hd : ∀ I ∈ wr, I ≠ fr.L /\ fr.h₀.get? I = none := λ I hm => (k.2.1 I hm).elim λ o ho => (Y.W (I, o) (i3 ho)).2
 have n1 : ∀ p ∈ pl ++ mt.map (·.2), p.1 ∉ wr := λ p hp hm => (k.2.1 _ hm).elim λ o ho => Y.ap p hp (p.1, o) (CN _ ho) rfl
 have n2 : ∀ p ∈ ix.fz, p.1 ∉ wr := λ p hp hm => (k.2.1 _ hm).elim λ o ho => Y.ak p hp (p.1, o) ho rfl
 have old : ∀ p : Addr × Obj, p.1 ∉ wr -> p ∈ pl ++ mt.map (·.2) ++ (ix.fz ++ fr.kz) -> h'.get? p.1 = some p.2 /\ p.1 ≠ fr.L /\ fr.h₀.get? p.1 = none := λ p ne hp => ⟨k.1 _ _ ne (Y.W p hp).1, (Y.W p hp).2⟩
 ⟨⟨Y.F.ns.at' λ x e => k.1 _ _ (λ hm => (hd _ hm).1 rfl) e, λ c x e => k.1 _ _ (λ z => qg ((hd _ z).2.symm.trans e)) (Y.F.keep c x e), Y.F.above⟩,
   λ p hp => m3 hp (λ h => old p (n1 p h) (i1 h)) (λ h => old p (n2 p h) (i2 h)) λ h => (k.2.2 p h).elim (λ y => old p y.2 (i3 y.1)) λ y => ⟨y.2, hd _ y.1⟩, Y.B, Y.bz, Y.ad, Y.P, Y.nd,
   λ p hp r hr => (CS.mp hr).elim (λ h => Y.ap p hp r (CO _ h)) λ h => (k.2.2 r h).elim (λ y => Y.ap p hp r (CN _ y.1)) λ y z => n1 p hp (z ▸ y.1),
   λ p hp r hr => (k.2.2 r hr).elim (λ y => Y.ak p hp r y.1) λ y z => n2 p hp (z ▸ y.1), Y.cs, Y.l⟩
theorem Parts.tupStep (P : Parts N prog w fr ix loc U h m pl mt) (k : BZ fr kz wr h h') {T : Addr} {o : Obj} (hT : h.objs.size <= T) (ho : h'.get? T = some o) : Parts N prog w { fr with kz := kz } { ix with fz := (T, o) :: ix.fz } loc U h' m pl mt :=
 have P1 := P.kzToW k
 have hL : fr.L < T := P.F.ns.elim λ oL z => z.elim λ _ z => z.elim λ _ z => CV (eW (h := h) (a := fr.L) (by rw [Heap.get?]; exact z.1)) hT
 have lt : ∀ p : Addr × Obj, p ∈ pl ++ mt.map (·.2) ++ (ix.fz ++ fr.kz) -> p.1 ≠ T := λ p hp => eF (CV (News.lt P.W hp) hT)
 P1.moreG (λ p hp => m3 hp (λ h => lt p (i1 h)) (λ h => lt p (i2 h)) λ h => (k.2.2 p h).elim (λ y => lt p (i3 y.1)) λ y => (k.2.1 _ y.1).elim λ o2 z => lt (p.1, o2) (i3 z)) P1.F
   λ p hp => mc hp (λ e => e ▸ ⟨ho, iT hL, zh (CK P.F.above (eP hL))⟩) (P1.W p)
end
section
variable {W : Wd} {b : Nat}
theorem FS.kzToW {fr : Frm} {ix : Ix} {loc : List (Option V)} {U : Mu} {s : Shared} (Y : W.FS fr ix loc U s) {kz : List (Addr × Obj)} {wr : List Addr} {h' : Heap} {tk : Nat} (k : BZ fr kz wr s.heap h') : W.FS { fr with kz := kz } ix loc U { s with heap := h', toks := tk } :=
 Y.op λ m pl mt P => ⟨⟨m, pl, mt, P.kzToW k⟩, Y.gens, Y.os, Y.drawn⟩
theorem xW : ∀ (l : List V) (k i : Nat) (x : V), l[i]? = some x -> (ZH k l)[i]? = some (.tup [.int ((k + i : Nat) : Int), x])
 | [], k, i, x, h => qg h
 | v :: r, k, 0, x, h => congrArg (λ y => some (V.tup [.int ((k : Nat) : Int), y])) (Option.some.inj h)
 | v :: r, k, i + 1, x, h => (xW r (k + 1) i x h).trans (by rw [ib]; rfl)
theorem kt : ∀ (l : List V) (k : Nat), (ZH k l).length = l.length
 | [], _ => rfl
 | _ :: r, k => congrArg Ia (kt r (k + 1))
theorem dc {c it : Nat} (h : c < it) : c ∉ [it + 1, it] := λ hm => mc hm (λ e => absurd h (by rw [e]; exact Ea.mpr (IK it))) λ hm => mc hm (λ e => absurd h (by rw [e]; exact Nat.lt_irrefl it)) λ hm => nomatch hm
noncomputable abbrev Frm.k2 (fr : Frm) (it : Addr) (oe oi : Obj) : Frm := { fr with kz := (it + 1, oe) :: (it, oi) :: fr.kz }
theorem pv {fr : Frm} {it : Addr} {oe oi : Obj} : ∀ I ∈ [it + 1, it], ∃ o, (I, o) ∈ (fr.k2 it oe oi).kz := λ I hI => mc hI (λ e => e ▸ ⟨oe, ih⟩) λ hI => ⟨oi, (eS.mp hI).symm ▸ i0 ih⟩
theorem pr {fr : Frm} {it : Addr} {oe oi oe2 oi2 : Obj} {h h' : Heap} (hk : ∀ b x, b ∉ [it + 1, it] -> h.get? b = some x -> h'.get? b = some x) (lt : ∀ q ∈ fr.kz, q.1 < it) (e1 : h'.get? (it + 1) = some oe2) (e2 : h'.get? it = some oi2) : BZ (fr.k2 it oe oi) (fr.k2 it oe2 oi2).kz [it + 1, it] h h' :=
 ⟨hk, pv, λ q hq => mc hq (λ e => .inr (e ▸ ⟨ih, e1⟩)) λ hq => mc hq (λ e => .inr (e ▸ ⟨i0 ih, e2⟩)) λ hq => .inl ⟨i0 (i0 hq), dc (lt q hq)⟩⟩
inductive aQ (W : Wd) (fr : Frm) (x y : Nat) (st : S) (kn : List (Option V) -> Mu -> Prop) (kr : V -> Mu -> Prop) (ix : Ix) (l : List V) (it a₀ : Addr) (vs : Array Value) (k : Nat) (s : Shared) : Prop
 | mk (i : Nat) (jx : Ix) (loc' : List (Option V)) (U : Mu) (oe oi : Obj) (hk : k = l.length + 1 - i) (hi : i <= l.length) (z : ix.Le0 jx) (st' : (∃ old, IsEnum s.heap (it + 1) it i old) /\ s.heap.IsListIter it a₀ i /\ s.heap.IsList a₀ vs)
   (Y : W.FS (fr.k2 it oe oi) jx loc' U s) (hw : jZ (λ v loc U k => oS (zx [x, y] false v loc) λ loc => zS W.T st loc U k kr) ((ZH 0 l).drop i) loc' U kn)
theorem Wh {st : S} {body : List Stmt} {elts : List Expr} {k : Nat} {p : Pos} {x y : Nat} {A : Around} {E : Value -> Shared -> Prop} {fr : Frm} {ix : Ix} {loc : List (Option V)} {U : Mu} {s : Shared} {kn : List (Option V) -> Mu -> Prop} {kr : V -> Mu -> Prop} {R : Result -> Shared -> Prop} {v₀ : Value} {l : List V}
   (hb : ∀ E, gT W b A E fr.c fr.env body st) (hcm : fr.cm = false) (a : At W b A fr) (ht : zr fr.c [x, y] false (.Tuple elts k p) = true) (Y : W.FS fr ix loc U s) (vr : W.VR ix v₀ (.lst l))
   (h : jZ (λ v loc U k => oS (zx [x, y] false v loc) λ loc => zS W.T st loc U k kr) (ZH 0 l) loc U kn) (q : zk W fr ix kn kr (λ f s' => R (.ok f) s')) :
   wpAny W.M A (call (.type "enumerate") [v₀]) (λ xv s₁ => wpAny W.M A (pyIter xv) (λ it s₂ => codeAny W.M A (.forLoop (.Tuple elts k p) it body [] fr.env) R s₂) E s₁) E s := by
 refine vr.xL (C := λ v₀ => wpAny W.M A (call (.type "enumerate") [v₀]) (λ xv s₁ => wpAny W.M A (pyIter xv) (λ it s₂ => codeAny W.M A (.forLoop (.Tuple elts k p) it body [] fr.env) R s₂) E s₁) E s) λ a₀ o₀ vs af t0 bs => Y.op λ m pl mt P => ?_
 have hl := FS.lstAt P af t0
 have hlt : a₀ < s.heap.objs.size := eW (P.fz af)
 refine qa <| call_enumerate_list hl λ h1 hE hI hsz hk => qa <| wpAny_pyIter_enum hE ?_
 have lt0 : ∀ p ∈ pl ++ mt.map (·.2) ++ (ix.fz ++ fr.kz), p.1 < s.heap.objs.size := λ p hp => News.lt P.W hp
 have hLlt : fr.L < s.heap.objs.size := P.F.ns.elim λ oL z => z.elim λ _ z => z.elim λ _ z => eW (h := s.heap) (a := fr.L) (by rw [Heap.get?]; exact z.1)
 have h0 : ∀ c, s.heap.objs.size <= c -> fr.h₀.get? c = none := λ c hc => zh (CK P.F.above (eP (CV hLlt hc)))
 obtain ⟨oi, hoi⟩ : ∃ oi, h1.get? s.heap.objs.size = some oi := hI.elim λ o z => ⟨o, z.1⟩
 obtain ⟨oe, hoe⟩ : ∃ oe, h1.get? (s.heap.objs.size + 1) = some oe := ⟨_, hE⟩
 have P1 := P.grown hk
 have P2 := P1.kzPush (d := s.heap.objs.size) (o := oi) P1.F (λ p hp => mc hp (λ e => e ▸ ⟨hoi, iT hLlt, h0 _ (Ex _)⟩) (P1.W p)) λ p hp => eF (lt0 p hp)
 have P3 := P2.kzPush (d := s.heap.objs.size + 1) (o := oe) P2.F (λ p hp => mc hp (λ e => e ▸ ⟨hoe, iT (IJ hLlt), h0 _ (IK _)⟩) (P2.W p)) λ p hp =>
   have l1 : ∀ p : Addr × Obj, p ∈ pl ++ mt.map (·.2) ++ (ix.fz ++ fr.kz) -> p.1 ≠ s.heap.objs.size + 1 := λ p hp => eF (IJ (lt0 p hp))
   m3 hp (λ h => l1 p (i1 h)) (λ h => l1 p (i2 h)) λ h => mc h (λ e => e ▸ eF (iU _)) λ h => l1 p (i3 h)
 have Y1 : W.FS (fr.k2 s.heap.objs.size oe oi) ix loc U { s with heap := h1 } := ⟨⟨m, pl, mt, P3⟩, Y.gens, Y.os, Y.drawn⟩
 have kzlt : ∀ q ∈ fr.kz, q.1 < s.heap.objs.size := λ q hq => lt0 q (i3 hq)
 generalize s.heap.objs.size = it at *
 have Wk := WalksT.enumerate (prog := W.prog) (w := W.w) (A := A) a.R.hd (it + 1) it a₀ (Nat.succ_ne_self _) (eF (IJ hlt)) (eF hlt) vs.toArray
 have a' : ∀ oe oi, At W b A (fr.k2 it oe oi) := λ oe oi => (a.kz (it, oi)).kz (it + 1, oe)
 have hn : vs.toArray.size = l.length := by rw [iK, bs.length]
 refine zM (aQ W fr x y st kn kr ix l it a₀ vs.toArray) ?_ (l.length + 1) ⟨0, ix, loc, U, oe, oi, rfl, Ew _, .refl _, ⟨⟨_, hE⟩, hI, hl.at λ o x => hk _ o x⟩, Y1, h⟩
 rintro k s' ⟨i, jx, loc', U', oe', oi', rfl, hi, z, st', Y', hw⟩
 rcases Nat.lt_or_eq_of_le hi with hin | rfl
 · refine qa <| Wk.item i s' _ _ (hn.symm ▸ hin) st' λ T vals h2 tk hp hT hTt hm hk2 => qa <| Wk.go elts _ p i T { s' with heap := h2, toks := tk } _ _ hm λ h3 st3 hk3 => hTt.elim λ oT zT => ?_
   have hoT3 := hk3 T oT (Wk.apart _ _ _ hm) zT.1
   obtain ⟨oe3, hoe3⟩ : ∃ oe, h3.get? (it + 1) = some oe := st3.1.elim λ _ e => ⟨_, e⟩
   obtain ⟨oi3, hoi3⟩ : ∃ oi, h3.get? it = some oi := st3.2.1.elim λ o e => ⟨o, e.1⟩
   have Y2 : W.FS (fr.k2 it oe3 oi3) { jx with fz := (T, oT) :: jx.fz } loc' U' { s' with heap := h3, toks := tk } := Y'.op λ m pl mt P => ⟨⟨m, pl, mt, P.tupStep (pr (λ c o hc e => hk3 c o hc (hk2 c o hc e)) kzlt hoe3 hoi3) hT hoT3⟩, Y'.gens, Y'.os, Y'.drawn⟩
   obtain ⟨t, v', hv', rfl⟩ := hp
   obtain ⟨v, hv, vv⟩ := VRs.back bs (i := i) (v := v') (by simpa using hv')
   have zz := z.trans (Ix.le_more jx (T, oT)).w
   have vT : W.VR { jx with fz := (T, oT) :: jx.fz } (.ref T) (.tup [.int ((0 + i : Nat) : Int), v]) := .tup (.inl ih) ⟨zT.2.1, zT.2.2⟩ (.cons (by rw [ig]; exact .int) (.cons (VR.mono0 _ _ _ zz vv) .nil))
   refine zL (Jn (xW l 0 i v hv) hw) λ loc2 hbd hw' => Ye (fr := fr.k2 it oe3 oi3) (a' _ _).ok.1 a.R.hd ht vT hbd Y2 λ s3 Y3 => ?_
   refine hb _ (fr := fr.k2 it oe3 oi3) rfl rfl hcm (a' _ _) Y3 hw' ⟨λ kx loc4 U4 s4 z4 hk4 Y4 => ⟨l.length + 1 - (i + 1), sub_lt hin, i + 1, kx, loc4, U4, oe3, oi3, rfl, hin, zz.trans z4, ?_, Y4, hk4⟩,
     λ kx v4' v4 loc4 U4 s4 z4 hk4 vr4 Y4 => q.rt kx _ _ _ _ _ (zz.trans z4) hk4 vr4 (FS.kzSub Y4 λ q hq => i0 (i0 hq))⟩
   refine Wk.frame (i + 1) h3 s4.heap st3 λ c hc o e => Y2.op λ m2 pl2 mt2 P2 => Y4.op λ m4 pl4 mt4 P4 => mc hc (λ ec => ?_) λ hc => mc hc (λ ec => ?_) λ hc => ?_
   · subst ec; exact (P4.W (it + 1, oe3) (i3 ih)).1.trans (hoe3.symm.trans e)
   · subst ec; exact (P4.W (c, oi3) (i3 (i0 ih))).1.trans (hoi3.symm.trans e)
   · obtain rfl := eS.mp hc
     exact (P4.fz ((zz.trans z4).Fz af)).trans ((P2.fz (zz.Fz af)).symm.trans e)
 · refine qa <| Wk.done s' _ _ (hn.symm ▸ st') λ h2 tk hk2 => qo (q.nx jx _ _ _ z (Jo (l := ZH 0 l) (by rw [kt]; exact hw)) (FS.kzToW Y' (kz := fr.kz) ⟨hk2, pv, λ q hq => .inl ⟨i0 (i0 hq), dc (kzlt q hq)⟩⟩))
end
noncomputable def Yz (x : Stmt) (F : List Expr -> Expr -> Pos -> Bool) : Bool := if e : x.ctorIdx = 5 then lh (motive_2 := λ _ => Bool) x e F else false
@[elab_as_elim] theorem Ot {x : Stmt} {F : List Expr -> Expr -> Pos -> Bool} {C : Stmt -> Prop} (h : Yz x F = true) (f : ∀ t v p, F t v p = true -> C (.Assign t v p)) : C x :=
 let ⟨e, h⟩ := qw h
 lh (motive_2 := λ x => ∀ e : x.ctorIdx = 5, lh (motive_2 := λ _ => Bool) x e F = true -> C x) x e (λ t v p _ h => f t v p h) e h
noncomputable def Os (x : Stmt) (F : Expr -> Operator -> Expr -> Pos -> Bool) : Bool := if e : x.ctorIdx = 7 then IF (motive_2 := λ _ => Bool) x e F else false
@[elab_as_elim] theorem Oq {x : Stmt} {F : Expr -> Operator -> Expr -> Pos -> Bool} {C : Stmt -> Prop} (h : Os x F = true) (f : ∀ t o v p, F t o v p = true -> C (.AugAssign t o v p)) : C x :=
 let ⟨e, h⟩ := qw h
 IF (motive_2 := λ x => ∀ e : x.ctorIdx = 7, IF (motive_2 := λ _ => Bool) x e F = true -> C x) x e (λ t o v p _ h => f t o v p h) e h
noncomputable def On (x : Stmt) (F : Option Expr -> Pos -> Bool) : Bool := if e : x.ctorIdx = 3 then lg (motive_2 := λ _ => Bool) x e F else false
@[elab_as_elim] theorem Om {x : Stmt} {F : Option Expr -> Pos -> Bool} {C : Stmt -> Prop} (h : On x F = true) (f : ∀ v p, F v p = true -> C (.Return v p)) : C x :=
 let ⟨e, h⟩ := qw h
 lg (motive_2 := λ x => ∀ e : x.ctorIdx = 3, lg (motive_2 := λ _ => Bool) x e F = true -> C x) x e (λ v p _ h => f v p h) e h
noncomputable def rY (x : Stmt) (F : PySem.Expr -> Pos -> Bool) : Bool := if e : x.ctorIdx = 24 then lE (motive_2 := λ _ => Bool) x e F else false
@[elab_as_elim] theorem Oo {x : Stmt} {F : PySem.Expr -> Pos -> Bool} {C : Stmt -> Prop} (h : rY x F = true) (f : ∀ v p, F v p = true -> C (.Expr v p)) : C x :=
 let ⟨e, h⟩ := qw h
 lE (motive_2 := λ x => ∀ e : x.ctorIdx = 24, lE (motive_2 := λ _ => Bool) x e F = true -> C x) x e (λ v p _ h => f v p h) e h
noncomputable def Ab (x : Stmt) (F : PySem.Expr -> List Stmt -> List Stmt -> Pos -> Bool) : Bool := if e : x.ctorIdx = 12 then PySem.Stmt.If.elim (motive_2 := λ _ => Bool) x e F else false
@[elab_as_elim] theorem rX {x : Stmt} {F : PySem.Expr -> List Stmt -> List Stmt -> Pos -> Bool} {C : Stmt -> Prop} (h : Ab x F = true) (f : ∀ t a b p, F t a b p = true -> C (.If t a b p)) : C x :=
 let ⟨e, h⟩ := qw h
 PySem.Stmt.If.elim (motive_2 := λ x => ∀ e : x.ctorIdx = 12, PySem.Stmt.If.elim (motive_2 := λ _ => Bool) x e F = true -> C x) x e (λ t a b p _ h => f t a b p h) e h
noncomputable def Aa (x : Stmt) (F : PySem.Expr -> List Stmt -> List Stmt -> Pos -> Bool) : Bool := if e : x.ctorIdx = 11 then lu (motive_2 := λ _ => Bool) x e F else false
@[elab_as_elim] theorem rW {x : Stmt} {F : PySem.Expr -> List Stmt -> List Stmt -> Pos -> Bool} {C : Stmt -> Prop} (h : Aa x F = true) (f : ∀ t a b p, F t a b p = true -> C (.While t a b p)) : C x :=
 let ⟨e, h⟩ := qw h
 lu (motive_2 := λ x => ∀ e : x.ctorIdx = 11, lu (motive_2 := λ _ => Bool) x e F = true -> C x) x e (λ t a b p _ h => f t a b p h) e h
noncomputable def GV (x : Stmt) (F : PySem.Expr -> PySem.Expr -> List Stmt -> List Stmt -> Pos -> Bool) : Bool := if e : x.ctorIdx = 9 then lO (motive_2 := λ _ => Bool) x e F else false
@[elab_as_elim] theorem ug {x : Stmt} {F : PySem.Expr -> PySem.Expr -> List Stmt -> List Stmt -> Pos -> Bool} {C : Stmt -> Prop} (h : GV x F = true) (f : ∀ t i a b p, F t i a b p = true -> C (.For t i a b p)) : C x :=
 let ⟨e, h⟩ := qw h
 lO (motive_2 := λ x => ∀ e : x.ctorIdx = 9, lO (motive_2 := λ _ => Bool) x e F = true -> C x) x e (λ t i a b p _ h => f t i a b p h) e h
noncomputable def Us : S -> Option Nat
 | .frz i => some i
 | _ => none
theorem Uq {st : S} {i : Nat} (h : Us st = some i) : st = .frz i := by cases st <;> first | exact Option.some.inj h ▸ rfl | exact qg h
noncomputable def dr (c : Cx) (i : Nat) : Bool := iw i c.n && eB (c.kd i) 0
noncomputable def rf : Op -> Bool
 | .add | .sub | .shl | .shr => true
 | _ => false
noncomputable def Jq (c : Cx) (t v : Expr) (r : Option (List Str)) : Bool := decide (Jr c t v = some r)
noncomputable def bR : E -> Bool
 | .none => true
 | _ => false
noncomputable def Rj {α : Type} (o : Option α) (F : α -> Bool) (b : Bool) : Bool := match o with | some a => F a | none => b
mutual
noncomputable def mS (N : Nm) (c : Cx) (st : S) (x : Stmt) : Bool := match st with
 | .fail => true
 | .asg i e => Yz x λ ts v _ => l1 ts λ t => YG t λ y _ => iw i c.n && iw (c.kd i) 2 && c.nl i == y && zc v && mE N c e v
 | .asgT ts e => Yz x λ l v _ => l1 l λ t => YF t λ elts k p => uP N c ts elts && Jq c (.Tuple elts k p) v none && zc v && mE N c e v
 | .asgR ts e => Yz x λ l v _ => l1 l λ t => YF t λ elts k p => o1 (yJ ts) λ xs => xs.all (dr c) && Jq c (.Tuple elts k p) v (some (xs.map c.nl)) && zc v && mE N c e v
 | .sattr o n e => Yz x λ l v _ => l1 l λ t => dT t λ bx y _ => N.an n == y && zc v && mE N c o bx && mE N c e v
 | .ssub o i e => Yz x λ l v _ => l1 l λ t => vp t λ bx y _ => zc v && mE N c o bx && mE N c i y && mE N c e v
 | .aug op o n e => Os x λ t p v _ => dT t λ bx y _ => Ri op p && rf op && N.an n == y && mE N c o bx && mE N c e v
 | .ret e => On x λ v _ => Rj v (λ v => mE N c e v) (bR e)
 | .ex e => rY x λ v _ => zc v && mE N c e v
 | .ite t a b => Ab x λ test body orelse _ => mE N c t test && mB N c a body && mB N c b orelse
 | .forL xs one e b => GV x λ tgt it body els _ => l0 els && (ja it && zr c xs one tgt && mE N c e it && mB N c b body)
 | .forR i lo hi st b => GV x λ tgt it body els _ => l0 els && ya it λ f as ks _ => l0 ks && YG f λ y _ => (("range" : Str) == y) && isG c y && zr c [i] true tgt && fy N c lo hi st as && mB N c b body
 | .forE i j e b => GV x λ tgt it body els _ => l0 els && ya it λ f as ks _ => l0 ks && YG f λ y _ => l1 as λ v => YF tgt λ elts k p => (("enumerate" : Str) == y) && isG c y && qk v && mE N c e v && zr c [i, j] false (.Tuple elts k p) && mB N c b body
 | .whil t b => Aa x λ test body els _ => l0 els && (mE N c t test && mB N c b body)
 | .app i e => rY x λ v _ => ya v λ f as ks pos => l0 ks && dT f λ o a ap => YG o λ y _ => l1 as λ v => eB (c.kd i) 0 && c.nl i == y && (("append" : Str) == a) && qk v && (ap.endLine == pos.line) && mE N c e v
 | .own i es => Yz x λ l v _ => l1 l λ t => YG t λ y _ => Xa v λ xs _ => dr c i && c.nl i == y && eY xs.length 100 && yk N c es xs
 | .own2 i j => Yz x λ l v _ => l1 l λ t => YF t λ elts k p => YF v λ vs k2 p2 => lc vs λ a r => l1 r λ b => Xa a λ xs p3 => l0 xs && Xa b λ ys p4 => l0 ys && (dr c i && dr c j && Jq c (.Tuple elts k p) (.Tuple [.List [] p3, .List [] p4] k2 p2) (some [c.nl i, c.nl j]))
 | .own3 i j n e1 e2 es => Yz x λ l v _ => l1 l λ t => YF t λ elts k p => YF v λ vs k2 p2 => lc vs λ x1 r => lc r λ x2 r => l1 r λ b => Xa b λ xs p3 =>
     (dr c i && dr c j && dr c n && qk x1 && qk x2 && eY xs.length 100) && (Jq c (.Tuple elts k p) (.Tuple [x1, x2, .List xs p3] k2 p2) (some [c.nl i, c.nl j, c.nl n]) && mE N c e1 x1 && mE N c e2 x2 && yk N c es xs)
 | _ => false
termination_by structural st
noncomputable def mB (N : Nm) (c : Cx) (st : S) (xs : List Stmt) : Bool := match st with
 | .nop => l0 xs
 | .seq a b => Rj (Us a) (λ i => eB (c.kd i) 0 && mB N c b xs) (lc xs λ x r => mS N c a x && mB N c b r)
 | .fail => true
 | _ => false
termination_by structural st
end
theorem zA {c : Cx} {i : Nat} (h : dr c i = true) : i < c.n /\ c.kd i = 0 := A2 h λ h1 h2 => ⟨CR h1, em h2⟩
theorem yK {c : Cx} {t v : Expr} {r : Option (List Str)} (h : Jq c t v r = true) : Jr c t v = some r := of_decide_eq_true h
noncomputable def SS (W : Wd) (b : Nat) (st : S) : Prop := ∀ {x : Stmt} {A : Around} {E : Value -> Shared -> Prop} {fr : Frm} {ix : Ix} {loc : List (Option V)} {U : Mu} {s : Shared} {kn : List (Option V) -> Mu -> Prop} {kr : V -> Mu -> Prop} {Q : Flow -> Shared -> Prop},
 mS W.N fr.c st x = true -> fr.cm = false -> At W b A fr -> W.FS fr ix loc U s -> zS W.T st loc U kn kr -> zk W fr ix kn kr Q -> wpAny W.M A (exec x fr.env) Q E s
noncomputable def SB (W : Wd) (b : Nat) (st : S) : Prop := ∀ {xs : List Stmt} {A : Around} {E : Value -> Shared -> Prop} {fr : Frm} {ix : Ix} {loc : List (Option V)} {U : Mu} {s : Shared} {kn : List (Option V) -> Mu -> Prop} {kr : V -> Mu -> Prop} {Q : Flow -> Shared -> Prop},
 mB W.N fr.c st xs = true -> fr.cm = false -> At W b A fr -> W.FS fr ix loc U s -> zS W.T st loc U kn kr -> zk W fr ix kn kr Q -> wpAny W.M A (execs xs fr.env) Q E s
section
variable {W : Wd} {b : Nat}
theorem uF {α : Type} {o : Option α} {F : α -> Bool} {c : Bool} {C : Option α -> Prop} (h : Rj o F c = true) (f : ∀ a, F a = true -> C (some a)) (g : c = true -> C none) : C o := by
 cases o with
 | none => exact g h
 | some a => exact f a h
theorem OL {α : Type} {o : Option α} {F : α -> Bool} {C : Prop} (h : o1 o F = true) (f : ∀ a, o = some a -> F a = true -> C) : C := by
 cases o with
 | none => exact ff h
 | some a => exact f a rfl h
theorem Hk {op : Op} (h : rf op = true) : op = .add \/ op = .sub \/ op = .shl \/ op = .shr := by
 cases op with
 | add => exact .inl rfl
 | sub => exact .inr (.inl rfl)
 | shl => exact .inr (.inr (.inl rfl))
 | shr => exact .inr (.inr (.inr rfl))
 | _ => exact ff h
theorem DS {v : V} {F : List V -> Prop} {C : V -> Prop} (h : fK v F) (f : ∀ l, F l -> C (.lst l)) (g : ∀ l, F l -> C (.tup l)) : C v := by
 cases v with
 | lst l => exact f l h
 | tup l => exact g l h
 | _ => exact h.elim
theorem fu {x y : S} (hx : SS W b x) (hy : SB W b y) : SB W b (.seq x y) := by
 intro xs A E fr ix loc U s kn kr Q hm hcm a Y h q
 refine uF (C := λ o => Us x = o -> wpAny W.M A (execs xs fr.env) Q E s) hm (λ i hm e => A2 hm λ h1 h2 => ?_) (λ hm _ => KM (C := λ xs => wpAny W.M A (execs xs fr.env) Q E s) hm λ z r hm => A2 hm λ h1 h2 => ?_) rfl
 · obtain rfl := Uq e
   exact uD h λ l e0 h => (FS.freeze Y e0 (em h1)).elim λ jx z => hy h2 hcm a z.2 h (q.le z.1)
 · exact qm (hx h1 hcm a Y h ⟨λ jx loc' U' s' z h' Y' => hy h2 hcm a Y' h' (q.le z), λ jx v' v loc' U' s' z h' vr Y' => q.rt jx _ _ _ _ _ z h' vr Y'⟩)
theorem Vr {A : Around} {E : Value -> Shared -> Prop} {fr : Frm} {ix : Ix} {loc : List (Option V)} {U : Mu} {s : Shared} (ok : fr.Ok) (hcm : fr.cm = false) (Y : W.FS fr ix loc U s) {i : Nat} (hi : i < fr.c.n) (hk : fr.c.kd i < 2) {v' : Value} {v : V} (hv : W.VR ix v' v) {Q : Unit -> Shared -> Prop}
   (h : ∀ s', W.FS fr ix (qy loc i (some v)) U s' -> Q () s') : wpAny W.M A (storeName fr.env (fr.c.nl i) v') Q E s :=
 (Ig.mp (eJ hk)).elim (λ h0 => FS.store ok Y hi h0 hv h) λ h1 => FS.storeC ok Y hcm hi h1 hv h
inductive aE (W : Wd) (fr : Frm) (t : Mi.E) (st : S) (kn : List (Option V) -> Mu -> Prop) (kr : V -> Mu -> Prop) (ix : Ix) (n : Nat) (s : Shared) : Prop
 | mk (jx : Ix) (loc : List (Option V)) (U : Mu) (z : ix.Le0 jx) (Y : W.FS fr jx loc U s) (h : kM (λ loc U k => Xs W.T loc t U k) (λ loc U k => zS W.T st loc U k kr) n loc U kn)
theorem WT {t : Mi.E} {st : S} (ht : ST W b t) (hb : SB W b st) : SS W b (.whil t st) := by
 intro x A E fr ix loc U s kn kr Q hm hcm a Y h q
 refine rW (C := λ x => wpAny W.M A (exec x fr.env) Q E s) hm λ test body els pos hm => A2 hm λ he hm => Qy (C := λ els => wpAny W.M A (exec (.While test body els pos) fr.env) Q E s) he <| A2 hm λ h1 h2 => h.elim λ n h => ?_
 refine KN (QW (aE W fr t st kn kr ix) ?_ n ⟨ix, loc, U, .refl _, Y, h⟩)
 rintro n s' ⟨jx, loc', U', z, Y', h'⟩
 cases n with
 | zero => exact h'.elim
 | succ n =>
   refine ht h1 a Y' h' λ kx c U2 s2 z2 h2' Y2 => ?_
   cases c with
   | true => exact hb h2 hcm a Y2 h2' ⟨λ lx loc3 U3 s3 z3 h3 Y3 => ⟨n, iU _, lx, loc3, U3, (z.trans z2.w).trans z3, Y3, h3⟩, λ lx v' v loc3 U3 s3 z3 h3 vr Y3 => q.rt lx _ _ _ _ _ ((z.trans z2.w).trans z3) h3 vr Y3⟩
   | false => exact qo (q.nx kx _ _ _ (z.trans z2.w) h2' Y2)
theorem Jf {st : S} (hb : SB W b st) {A : Around} {c : Cx} {env : Env} {body : List Stmt} (hm : mB W.N c st body = true) (E : Value -> Shared -> Prop) : gT W b A E c env body st := by
 intro fr ix loc U s kn kr Q e1 e2 hc a Y h q
 subst e1 e2
 exact hb hm hc a Y h q
end
section
variable {W : Wd} {b : Nat} {x : Stmt} {A : Around} {E : Value -> Shared -> Prop} {fr : Frm} {ix : Ix} {loc : List (Option V)} {U : Mu} {s : Shared} {kn : List (Option V) -> Mu -> Prop} {kr : V -> Mu -> Prop} {Q : Flow -> Shared -> Prop}
@[elab_as_elim] theorem Xo {C : Stmt -> Prop} {F : Expr -> Expr -> Bool} (hm : (Yz x λ ts v _ => l1 ts λ t => F t v) = true) (f : ∀ t v p, F t v = true -> C (.Assign [t] v p)) : C x :=
 Ot hm λ ts v p hm => Xw (C := λ ts => C (.Assign ts v p)) hm λ t hm => f t v p hm
variable (G : W.Good) (Hs : Calls W b) (hcm : fr.cm = false) (a : At W b A fr) (Y : W.FS fr ix loc U s) (q : zk W fr ix kn kr Q)
include G Hs hcm a Y q
theorem Dy {i : Nat} {e : Mi.E} (hm : mS W.N fr.c (.asg i e) x = true) (h : zS W.T (.asg i e) loc U kn kr) : wpAny W.M A (exec x fr.env) Q E s :=
 Xo (C := λ x => wpAny W.M A (exec x fr.env) Q E s) hm λ t v p hm => ku (C := λ t => wpAny W.M A (exec (.Assign [t] v p) fr.env) Q E s) hm λ y p2 hm => A5 hm λ h1 h5 h4 h3 h2 => eq_of_beq h4 ▸
   jk ((all G Hs e).e h2 a Y h λ jx v' v U' s' z h' vr Y' => Vr a.ok.1 hcm Y' (CR h1) (CR h5) vr λ s2 Y2 => q.nx jx _ _ _ z.w h' Y2) (zW h3 _ _ _)
theorem Gv {ts : List Tg} {e : Mi.E} (hm : mS W.N fr.c (.asgT ts e) x = true) (h : zS W.T (.asgT ts e) loc U kn kr) : wpAny W.M A (exec x fr.env) Q E s :=
 Xo (C := λ x => wpAny W.M A (exec x fr.env) Q E s) hm λ t v p hm => Kx (C := λ t => wpAny W.M A (exec (.Assign [t] v p) fr.env) Q E s) hm λ elts k p2 hm => A4 hm λ h1 h4 h3 h2 => GF G Hs h1 (yK h4) h3 h2 a Y h q
theorem Gw {ts : List Tg} {e : Mi.E} (hm : mS W.N fr.c (.asgR ts e) x = true) (h : zS W.T (.asgR ts e) loc U kn kr) : wpAny W.M A (exec x fr.env) Q E s :=
 Xo (C := λ x => wpAny W.M A (exec x fr.env) Q E s) hm λ t v p hm => Kx (C := λ t => wpAny W.M A (exec (.Assign [t] v p) fr.env) Q E s) hm λ elts k p2 hm => OL hm λ xs e1 hm => A4 hm λ h1 h4 h3 h2 => GG G Hs e1 (λ x hx => zA (Eh.mp h1 x hx)) (yK h4) h3 h2 a Y h q
theorem WP {o e : Mi.E} {n : Nat} (hm : mS W.N fr.c (.sattr o n e) x = true) (h : zS W.T (.sattr o n e) loc U kn kr) : wpAny W.M A (exec x fr.env) Q E s :=
 Xo (C := λ x => wpAny W.M A (exec x fr.env) Q E s) hm λ t v p hm => dS (C := λ t => wpAny W.M A (exec (.Assign [t] v p) fr.env) Q E s) hm λ bx y p2 hm => A4 hm λ h1 h4 h3 h2 => eq_of_beq h1 ▸ WU G (all G Hs o).e (all G Hs e).e h4 h3 h2 a Y h q
theorem Gn {o i e : Mi.E} (hm : mS W.N fr.c (.ssub o i e) x = true) (h : zS W.T (.ssub o i e) loc U kn kr) : wpAny W.M A (exec x fr.env) Q E s :=
 Xo (C := λ x => wpAny W.M A (exec x fr.env) Q E s) hm λ t v p hm => UB (C := λ t => wpAny W.M A (exec (.Assign [t] v p) fr.env) Q E s) hm λ bx y p2 hm => A4 hm λ h1 h4 h3 h2 => GC G (all G Hs o).e (all G Hs i).e (all G Hs e).e h1 h4 h3 h2 a Y h q
theorem Dx {op : Op} {o e : Mi.E} {n : Nat} (hm : mS W.N fr.c (.aug op o n e) x = true) (h : zS W.T (.aug op o n e) loc U kn kr) : wpAny W.M A (exec x fr.env) Q E s :=
 Oq (C := λ x => wpAny W.M A (exec x fr.env) Q E s) hm λ t p v p2 hm => dS (C := λ t => wpAny W.M A (exec (.AugAssign t p v p2) fr.env) Q E s) hm λ bx y p3 hm => A5 hm λ h1 h5 h4 h3 h2 => by
   rw [uC h1, <- eq_of_beq h4]
   exact DM G (all G Hs o).e (all G Hs e).e (Hk h5) h3 h2 a Y h q
theorem Du {e : Mi.E} (hm : mS W.N fr.c (.ret e) x = true) (h : zS W.T (.ret e) loc U kn kr) : wpAny W.M A (exec x fr.env) Q E s :=
 Om (C := λ x => wpAny W.M A (exec x fr.env) Q E s) hm λ v p hm => uF (C := λ v => wpAny W.M A (exec (.Return v p) fr.env) Q E s) hm (λ v hm => DJ (all G Hs e).e hm a Y h q) λ hn => by
   cases e with
   | none => exact QA (q.rt ix _ _ _ _ _ (.refl _) h .none Y)
   | _ => exact ff hn
theorem Oa {e : Mi.E} (hm : mS W.N fr.c (.ex e) x = true) (h : zS W.T (.ex e) loc U kn kr) : wpAny W.M A (exec x fr.env) Q E s :=
 Oo (C := λ x => wpAny W.M A (exec x fr.env) Q E s) hm λ v p hm => A2 hm λ h1 h2 => Of (all G Hs e).e h1 h2 a Y h q
theorem Dw {t : Mi.E} {y z : S} (hx : SB W b y) (hy : SB W b z) (hm : mS W.N fr.c (.ite t y z) x = true) (h : zS W.T (.ite t y z) loc U kn kr) : wpAny W.M A (exec x fr.env) Q E s :=
 rX (C := λ x => wpAny W.M A (exec x fr.env) Q E s) hm λ test body orelse p hm => A3 hm λ h1 h3 h2 => Ji ((all G Hs t).t h1 a Y h λ jx c U' s' z h' Y' => by
   cases c with
   | true => exact hx h3 hcm a Y' h' (q.le z.w)
   | false => exact hy h2 hcm a Y' h' (q.le z.w))
theorem Gs {xs : List Nat} {one : Bool} {e : Mi.E} {st : S} (hst : SB W b st) (hm : mS W.N fr.c (.forL xs one e st) x = true) (h : zS W.T (.forL xs one e st) loc U kn kr) : wpAny W.M A (exec x fr.env) Q E s :=
 ug (C := λ x => wpAny W.M A (exec x fr.env) Q E s) hm λ tgt it body els p hm => A2 hm λ he hm => Qy (C := λ els => wpAny W.M A (exec (.For tgt it body els p) fr.env) Q E s) he <| A4 hm λ h1 h4 h3 h2 =>
   Za ((all G Hs e).e h3 a Y h λ jx v' v U' s' z h' vr Y' => DS (C := λ v => W.VR jx v' v -> wpAny W.M A (pyIter v') _ E s') h' (λ l h' vr => xM a.R.hd Y' vr λ I s2 ok => JY (Jf hst h2) hcm a h4 ok h'.2 (q.le z.w))
     (λ l h' vr => Uf a.R.hd Y' vr λ I s2 ok => JY (Jf hst h2) hcm a h4 ok h'.2 (q.le z.w)) vr) (jA h1 _)
theorem Gr {i : Nat} {lo hi st : Mi.E} {y : S} (hst : SB W b y) (hm : mS W.N fr.c (.forR i lo hi st y) x = true) (h : zS W.T (.forR i lo hi st y) loc U kn kr) : wpAny W.M A (exec x fr.env) Q E s :=
 ug (C := λ x => wpAny W.M A (exec x fr.env) Q E s) hm λ tgt it body els p hm => A2 hm λ he hm => Qy (C := λ els => wpAny W.M A (exec (.For tgt it body els p) fr.env) Q E s) he <|
   yz (C := λ it => wpAny W.M A (exec (.For tgt it body [] p) fr.env) Q E s) hm λ f as ks p2 hm => A2 hm λ hk hm => Qy (C := λ ks => wpAny W.M A (exec (.For tgt (.Call f as ks p2) body [] p) fr.env) Q E s) hk <|
     ku (C := λ f => wpAny W.M A (exec (.For tgt (.Call f as [] p2) body [] p) fr.env) Q E s) hm λ n p3 hm => A5 hm λ h1 h5 h4 h3 h2 => by
       obtain rfl := eq_of_beq h1
       exact Za (JB G (all G Hs lo).e (all G Hs hi).e (all G Hs st).e h5 h3 a Y h λ jx s' U' r i' j c t u v z Y' hk hc hr => JP a.R.hd Y' hr hc hk.1.1 hk.1.2.1 λ I s2 ok => JY (Jf hst h2) hcm a h4 ok hk.2 (q.le z.w)) (jA rfl _)
theorem Gu {i j : Nat} {e : Mi.E} {y : S} (hst : SB W b y) (hm : mS W.N fr.c (.forE i j e y) x = true) (h : zS W.T (.forE i j e y) loc U kn kr) : wpAny W.M A (exec x fr.env) Q E s :=
 ug (C := λ x => wpAny W.M A (exec x fr.env) Q E s) hm λ tgt it body els p hm => A2 hm λ he hm => Qy (C := λ els => wpAny W.M A (exec (.For tgt it body els p) fr.env) Q E s) he <|
   yz (C := λ it => wpAny W.M A (exec (.For tgt it body [] p) fr.env) Q E s) hm λ f as ks p2 hm => A2 hm λ hk hm => Qy (C := λ ks => wpAny W.M A (exec (.For tgt (.Call f as ks p2) body [] p) fr.env) Q E s) hk <|
     ku (C := λ f => wpAny W.M A (exec (.For tgt (.Call f as [] p2) body [] p) fr.env) Q E s) hm λ n p3 hm => Xw (C := λ as => wpAny W.M A (exec (.For tgt (.Call (.Name n p3) as [] p2) body [] p) fr.env) Q E s) hm λ v hm =>
       Kx (C := λ tgt => wpAny W.M A (exec (.For tgt (.Call (.Name n p3) [v] [] p2) body [] p) fr.env) Q E s) hm λ elts k p4 hm => A6 hm λ h1 h6 h5 h4 h3 h2 => by
         obtain rfl := eq_of_beq h1
         refine Za (Yn (yS G a Y (v := .type "enumerate") (by decide +kernel) (by kernel_rfl) h6 ?_)) (jA rfl _)
         rw [qh h5]
         exact cw_type rfl (qn (qt ((all G Hs e).e h4 a Y h λ jx v' v U' s' z h' vr Y' => spliced_nil (uz (C := λ v => W.VR jx v' v -> _) h' (λ l h' vr => Wh (Jf hst h2) hcm a h3 Y' vr h'.2 (q.le z.w)) vr))))
theorem Dz {i : Nat} {e : Mi.E} (hm : mS W.N fr.c (.app i e) x = true) (h : zS W.T (.app i e) loc U kn kr) : wpAny W.M A (exec x fr.env) Q E s :=
 Oo (C := λ x => wpAny W.M A (exec x fr.env) Q E s) hm λ v p hm => yz (C := λ v => wpAny W.M A (exec (.Expr v p) fr.env) Q E s) hm λ f as ks pos hm => A2 hm λ hk hm => Qy (C := λ ks => wpAny W.M A (exec (.Expr (.Call f as ks pos) p) fr.env) Q E s) hk <|
   dS (C := λ f => wpAny W.M A (exec (.Expr (.Call f as [] pos) p) fr.env) Q E s) hm λ o n ap hm => ku (C := λ o => wpAny W.M A (exec (.Expr (.Call (.Attribute o n ap) as [] pos) p) fr.env) Q E s) hm λ y p2 hm =>
     Xw (C := λ as => wpAny W.M A (exec (.Expr (.Call (.Attribute (.Name y p2) n ap) as [] pos) p) fr.env) Q E s) hm λ v hm => A6 hm λ h1 h6 h5 h4 h3 h2 => by
       obtain rfl := eq_of_beq h6
       obtain rfl := eq_of_beq h5
       exact DN (all G Hs e).e (em h1) h4 h3 h2 a Y h q
theorem Dv {i : Nat} {es : Mi.E} (hm : mS W.N fr.c (.own i es) x = true) (h : zS W.T (.own i es) loc U kn kr) : wpAny W.M A (exec x fr.env) Q E s :=
 Xo (C := λ x => wpAny W.M A (exec x fr.env) Q E s) hm λ t v p hm => ku (C := λ t => wpAny W.M A (exec (.Assign [t] v p) fr.env) Q E s) hm λ y p2 hm => vn (C := λ v => wpAny W.M A (exec (.Assign [.Name y p2] v p) fr.env) Q E s) hm λ xs p3 hm => A4 hm λ h1 h4 h3 h2 => by
   obtain rfl := eq_of_beq h4
   exact DK (all G Hs es).l (zA h1).1 (zA h1).2 h3 h2 a Y h q
theorem Gq {i j : Nat} (hm : mS W.N fr.c (.own2 i j) x = true) (h : zS W.T (.own2 i j) loc U kn kr) : wpAny W.M A (exec x fr.env) Q E s :=
 Xo (C := λ x => wpAny W.M A (exec x fr.env) Q E s) hm λ t v p hm => Kx (C := λ t => wpAny W.M A (exec (.Assign [t] v p) fr.env) Q E s) hm λ elts k p2 hm => Kx (C := λ v => wpAny W.M A (exec (.Assign [.Tuple elts k p2] v p) fr.env) Q E s) hm λ vs k2 p3 hm =>
   KM (C := λ vs => wpAny W.M A (exec (.Assign [.Tuple elts k p2] (.Tuple vs k2 p3) p) fr.env) Q E s) hm λ u r hm => Xw (C := λ r => wpAny W.M A (exec (.Assign [.Tuple elts k p2] (.Tuple (u :: r) k2 p3) p) fr.env) Q E s) hm λ w hm =>
     vn (C := λ u => wpAny W.M A (exec (.Assign [.Tuple elts k p2] (.Tuple [u, w] k2 p3) p) fr.env) Q E s) hm λ xs p4 hm => A2 hm λ h0 hm => Qy (C := λ xs => wpAny W.M A (exec (.Assign [.Tuple elts k p2] (.Tuple [.List xs p4, w] k2 p3) p) fr.env) Q E s) h0 <|
       vn (C := λ w => wpAny W.M A (exec (.Assign [.Tuple elts k p2] (.Tuple [.List [] p4, w] k2 p3) p) fr.env) Q E s) hm λ ys p5 hm => A2 hm λ h0 hm => Qy (C := λ ys => wpAny W.M A (exec (.Assign [.Tuple elts k p2] (.Tuple [.List [] p4, .List ys p5] k2 p3) p) fr.env) Q E s) h0 <|
         A3 hm λ h1 h3 h2 => GE G (zA h1).1 (zA h1).2 (zA h3).1 (zA h3).2 (yK h2) a Y h q
theorem Gp {i j n : Nat} {e1 e2 es : Mi.E} (hm : mS W.N fr.c (.own3 i j n e1 e2 es) x = true) (h : zS W.T (.own3 i j n e1 e2 es) loc U kn kr) : wpAny W.M A (exec x fr.env) Q E s :=
 Xo (C := λ x => wpAny W.M A (exec x fr.env) Q E s) hm λ t v p hm => Kx (C := λ t => wpAny W.M A (exec (.Assign [t] v p) fr.env) Q E s) hm λ elts k p2 hm => Kx (C := λ v => wpAny W.M A (exec (.Assign [.Tuple elts k p2] v p) fr.env) Q E s) hm λ vs k2 p3 hm =>
   KM (C := λ vs => wpAny W.M A (exec (.Assign [.Tuple elts k p2] (.Tuple vs k2 p3) p) fr.env) Q E s) hm λ x1 r hm => KM (C := λ r => wpAny W.M A (exec (.Assign [.Tuple elts k p2] (.Tuple (x1 :: r) k2 p3) p) fr.env) Q E s) hm λ x2 r hm =>
     Xw (C := λ r => wpAny W.M A (exec (.Assign [.Tuple elts k p2] (.Tuple (x1 :: x2 :: r) k2 p3) p) fr.env) Q E s) hm λ w hm => vn (C := λ w => wpAny W.M A (exec (.Assign [.Tuple elts k p2] (.Tuple [x1, x2, w] k2 p3) p) fr.env) Q E s) hm λ xs p4 hm =>
       A2 hm λ hm hm2 => A6 hm λ h1 h2 h3 h4 h5 h6 => A4 hm2 λ h7 h8 h9 h10 => GD G Hs (zA h1).1 (zA h1).2 (zA h2).1 (zA h2).2 (zA h3).1 (zA h3).2 h4 h5 h8 h9 h10 h6 (yK h7) a Y h q
end
section
variable {W : Wd} {b : Nat}
theorem fR {st : S} (h : ∀ N c x, mS N c st x = false) : SS W b st := λ hm => ff ((h _ _ _).symm.trans hm)
theorem OT {st : S} (h : ∀ N c x, mB N c st x = false) : SB W b st := λ hm => ff ((h _ _ _).symm.trans hm)
structure aM (W : Wd) (b : Nat) (st : S) : Prop where
 s : SS W b st
 b : SB W b st
theorem aM.o {st : S} (h : SS W b st) (h2 : ∀ N c x, mB N c st x = false) : aM W b st := ⟨h, OT h2⟩
theorem rh (G : W.Good) (Hs : Calls W b) : ∀ st : S, aM W b st := by
 intro st
 induction st with
 | nop => exact ⟨fR λ _ _ _ => rfl, λ {xs A E fr ix loc U s kn kr Q} hm hcm a Y h q => Qy (C := λ xs => wpAny W.M A (execs xs fr.env) Q E s) hm (qo (q.nx ix _ _ _ (.refl _) h Y))⟩
 | seq x y hx hy => exact ⟨fR λ _ _ _ => rfl, fu hx.s hy.b⟩
 | fail => exact ⟨λ _ _ _ _ h _ => h.elim, λ _ _ _ _ h _ => h.elim⟩
 | asg i e => exact .o (λ hm hcm a Y h q => Dy G Hs hcm a Y q hm h) λ _ _ _ => rfl
 | asgT ts e => exact .o (λ hm hcm a Y h q => Gv G Hs hcm a Y q hm h) λ _ _ _ => rfl
 | asgR ts e => exact .o (λ hm hcm a Y h q => Gw G Hs hcm a Y q hm h) λ _ _ _ => rfl
 | sattr o n e => exact .o (λ hm hcm a Y h q => WP G Hs hcm a Y q hm h) λ _ _ _ => rfl
 | ssub o i e => exact .o (λ hm hcm a Y h q => Gn G Hs hcm a Y q hm h) λ _ _ _ => rfl
 | aug op o n e => exact .o (λ hm hcm a Y h q => Dx G Hs hcm a Y q hm h) λ _ _ _ => rfl
 | ret e => exact .o (λ hm hcm a Y h q => Du G Hs hcm a Y q hm h) λ _ _ _ => rfl
 | ex e => exact .o (λ hm hcm a Y h q => Oa G Hs hcm a Y q hm h) λ _ _ _ => rfl
 | ite t x y hx hy => exact .o (λ hm hcm a Y h q => Dw G Hs hcm a Y q hx.b hy.b hm h) λ _ _ _ => rfl
 | forL xs one e st hst => exact .o (λ hm hcm a Y h q => Gs G Hs hcm a Y q hst.b hm h) λ _ _ _ => rfl
 | forR i lo hi st b' hst => exact .o (λ hm hcm a Y h q => Gr G Hs hcm a Y q hst.b hm h) λ _ _ _ => rfl
 | forE i j e st hst => exact .o (λ hm hcm a Y h q => Gu G Hs hcm a Y q hst.b hm h) λ _ _ _ => rfl
 | whil t st hst => exact .o (WT (all G Hs t).t hst.b) λ _ _ _ => rfl
 | app i e => exact .o (λ hm hcm a Y h q => Dz G Hs hcm a Y q hm h) λ _ _ _ => rfl
 | own i es => exact .o (λ hm hcm a Y h q => Dv G Hs hcm a Y q hm h) λ _ _ _ => rfl
 | own2 i j => exact .o (λ hm hcm a Y h q => Gq G Hs hcm a Y q hm h) λ _ _ _ => rfl
 | own3 i j n e1 e2 es => exact .o (λ hm hcm a Y h q => Gp G Hs hcm a Y q hm h) λ _ _ _ => rfl
 | frz i => exact ⟨fR λ _ _ _ => rfl, OT λ _ _ _ => rfl⟩
end
noncomputable def ZO (K : Frag) (fa : Addr) (c : Cx) (na : Nat) (body : List Stmt) (dv : List Value) : Prop :=
 ∃ (name qual : Str) (params : Arguments) (dV kV doc pm cdv ct oc : Value) (an od : Option Addr) (osl : Array (Option Value)),
   K.lookup fa = some ⟨oc, od, .func (fnX name qual params body c.cs [] dV kV doc pm an cdv ct), osl⟩ /\ codeIn K cdv qual = true /\ c.cs.isCoroutine = false /\ c.cs.isGenerator = false /\
   ∀ (s : Shared) (args : List Value), K.In s.heap -> args.length = na -> BindsTo s (fnX name qual params body c.cs [] dV kV doc pm an cdv ct) ⟨args, []⟩ (((eQ (na + dv.length)).map c.nl).zip (args ++ dv))
structure ZT (c : Cx) (np : Nat) : Prop where
 fn : c.cs.kind = .function
 inj : ∀ i j, i < c.n -> j < c.n -> c.nl i = c.nl j -> i = j
 dbg : ∀ i, i < c.n -> (c.nl i == ("__debug__" : Str)) = false
 le : np <= c.n
 kd : ∀ i, i < np -> c.kd i < 2
section
variable {kindOf : Str -> Option NameKind} {x : Str} {v : Value}
theorem kG : ∀ (binds : List (Str × Value)) (m : Str -> Option Value), x ∉ binds.map (·.1) -> lD kindOf binds m x = m x
 | [], m, _ => rfl
 | (n, v) :: r, m, h => by
   unfold lD
   rw [kG r _ λ q => h (CY _ q)]
   by_cases c : kindOf n = some .local
   · rw [if_pos c]; exact if_neg λ e : x = n => h (eV.mpr (.inl e))
   · rw [if_neg c]
theorem kH (hk : kindOf x = some .local) : ∀ (binds : List (Str × Value)) (m : Str -> Option Value), (binds.map (·.1)).Nodup -> (x, v) ∈ binds -> lD kindOf binds m x = some v
 | (n, u) :: r, m, nd, h => by
   have nd := eO.mp nd
   unfold lD
   refine (eV.mp h).elim (λ e => ?_) λ h => kH hk r _ nd.2 h
   obtain ⟨rfl, rfl⟩ := Prod.mk.inj e
   rw [kG r _ nd.1, if_pos hk]
   exact if_pos rfl
theorem kI : ∀ (binds : List (Str × Value)) (m : Str -> Option Value), x ∉ binds.map (·.1) -> bindC kindOf binds m x = m x
 | [], m, _ => rfl
 | (n, v) :: r, m, h => by
   unfold bindC
   rw [kI r _ λ q => h (CY _ q)]
   by_cases c : kindOf n = some .local
   · rw [if_pos c]
   · rw [if_neg c]; exact if_neg λ e : x = n => h (eV.mpr (.inl e))
theorem kJ (hk : kindOf x = some .cell) : ∀ (binds : List (Str × Value)) (m : Str -> Option Value), (binds.map (·.1)).Nodup -> (x, v) ∈ binds -> bindC kindOf binds m x = some v
 | (n, u) :: r, m, nd, h => by
   have nd := eO.mp nd
   unfold bindC
   refine (eV.mp h).elim (λ e => ?_) λ h => kJ hk r _ nd.2 h
   obtain ⟨rfl, rfl⟩ := Prod.mk.inj e
   rw [kI r _ nd.1, if_neg (λ q : kindOf x = some .local => nomatch hk.symm.trans q)]
   exact if_pos rfl
end
theorem kh {α β : Type} {f : α -> β} : ∀ {l : List α}, (∀ x ∈ l, ∀ y ∈ l, f x = f y -> x = y) -> l.Nodup -> (l.map f).Nodup
 | [], _, _ => Ih
 | x :: l, h, n =>
   have n := eO.mp n
   eO.mpr ⟨λ q => by
     obtain ⟨y, hy, e⟩ := CU.mp q
     exact n.1 (h y (CY _ hy) x (CZ ..) e ▸ hy), kh (λ y hy z hz => h y (CY _ hy) z (CY _ hz)) n.2⟩
theorem dz {cl : List (Str × Addr)} {cm : Str -> Option Value} {h : Heap} (cell : ∀ n c, cl.lookup n = some c -> h.IsCell c (cm n)) (c : Cx) : ∀ is : List Nat, (∀ i ∈ is, ∃ a, cl.lookup (c.nl i) = some a) ->
   ∃ mt : List (Nat × Addr × Obj), mt.map (·.1) = is /\ ∀ t ∈ mt, cl.lookup (c.nl t.1) = some t.2.1 /\ h.get? t.2.1 = some t.2.2 /\ Xe t.2.2 (cm (c.nl t.1))
 | [], _ => ⟨[], rfl, λ _ h => nomatch h⟩
 | i :: is, hi =>
   (dz cell c is λ j hj => hi j (CY _ hj)).elim λ mt z => (hi i (CZ ..)).elim λ a ha => (cell _ _ ha).elim λ o y =>
     ⟨(i, a, o) :: mt, congrArg (i :: ·) z.1, λ t ht => mc ht (λ e => e ▸ ⟨ha, y.1, y.2⟩) (z.2 t)⟩
theorem JH : ∀ {mt : List (Nat × Addr × Obj)}, (mt.map (·.1)).Nodup -> (∀ t ∈ mt, ∀ u ∈ mt, t.2.1 = u.2.1 -> t.1 = u.1) -> ((mt.map (·.2)).map (·.1)).Nodup
 | [], _, _ => Ih
 | x :: r, h1, h2 =>
   have h1 := eO.mp h1
   eO.mpr ⟨λ hm => (CU.mp hm).elim λ p z => (CU.mp z.1).elim λ t y => h1.1 (CU.mpr ⟨t, y.1, h2 t (i0 y.1) x ih ((congrArg (·.1) y.2).trans z.2)⟩), JH h1.2 λ t ht u hu => h2 t (i0 ht) u (i0 hu)⟩
noncomputable def jo (n : Nat) (l : List V) : List (Option V) := l.map some ++ eX (n - l.length) none
theorem uS {n : Nat} {l : List V} {i : Nat} {v : V} (h : (jo n l)[i]? = some (some v)) : l[i]? = some v := by
 unfold jo at h
 rcases Nat.lt_or_ge i l.length with hi | hi
 · rw [iW (by rw [ee]; exact hi), eZ] at h
   cases e : l[i]? with
   | none => rw [e] at h; cases h
   | some x => rw [e] at h; exact Option.some.inj h
 · rw [List.getElem?_append_right (by rw [ee]; exact hi), List.getElem?_replicate] at h
   split at h <;> cases h
section
variable {N : Nm} {prog : Program} {w : World} {fr : Frm} {ix jx : Ix} {loc loc' : List (Option V)} {U U' : Mu} {h h' : Heap} {m m' : Str -> Option Value} {pl pl' : List (Addr × Obj)} {mt mt' : List (Nat × Addr × Obj)}
noncomputable def Frm.callee (fr : Frm) (c : Cx) (env : Env) (kz : List (Addr × Obj)) : Frm := { c := c, h₀ := fr.h₀, env := env, kz := kz, ck := [], cm := false, gens := fr.gens, os := fr.os, drawn := fr.drawn }
noncomputable abbrev yx (fr : Frm) (mt : List (Nat × Addr × Obj)) (oL : Obj) : List (Addr × Obj) := (fr.L, oL) :: (mt.map (·.2) ++ fr.kz)
theorem Parts.back {c : Cx} {env : Env} {oL : Obj} (P₀ : Parts N prog w fr ix loc U h m pl mt) (hL : h.get? fr.L = some oL) (q : ix.Le0 jx)
   (P : Parts N prog w (fr.callee c env (yx fr mt oL)) jx loc' U' h' m' pl' mt') : Parts N prog w fr { jx with ow := ix.ow } loc U' h' m pl' mt :=
 have mL : (fr.L, oL) ∈ yx fr mt oL := ih
 have mmt : ∀ {p}, p ∈ mt.map (·.2) -> p ∈ yx fr mt oL := λ hp => i0 (CO _ hp)
 have mkz : ∀ {p}, p ∈ fr.kz -> p ∈ yx fr mt oL := λ hp => i0 (CN _ hp)
 have W : ∀ {p : Addr × Obj}, p ∈ pl' ++ mt'.map (·.2) ++ (jx.fz ++ yx fr mt oL) -> h'.get? p.1 = some p.2 /\ fr.h₀.get? p.1 = none := λ {p} hp => ⟨(P.W p hp).1, (P.W p hp).2.2⟩
 have plkz : ∀ p ∈ pl', ∀ r ∈ yx fr mt oL, p.1 ≠ r.1 := λ p hp r hr => P.ap p (CO _ hp) r (CN _ hr)
 have fzkz : ∀ p ∈ jx.fz, ∀ r ∈ yx fr mt oL, p.1 ≠ r.1 := P.ak
 have q2 : ix.Le { jx with ow := ix.ow } := ⟨q.ad, q.bz, q.fz, rfl⟩
 ⟨⟨P₀.F.ns.at' λ o e => Option.some.inj (hL.symm.trans e) ▸ (W (i3 mL)).1, P.F.keep, P₀.F.above⟩,
   λ p hp => m3 hp (λ hp => (CS.mp hp).elim (λ hp => have z := W (i1 (CO _ hp)); ⟨z.1, plkz p hp _ mL, z.2⟩) λ hp => have z := W (i3 (mmt hp)); ⟨z.1, (P₀.W p (i1 (CN _ hp))).2.1, z.2⟩)
     (λ hp => have z := W (i2 hp); ⟨z.1, fzkz p hp _ mL, z.2⟩) λ hp => have z := W (i3 (mkz hp)); ⟨z.1, (P₀.W p (i3 hp)).2.1, z.2⟩,
   P.B, P.bz, P.ad, P.P.mono0 (.ow jx ix.ow),
   eK ▸ Ep.mpr ⟨P.nd1, (Ep.mp (eK ▸ P₀.nd)).2.1, λ x hx y hy e => (CU.mp hx).elim λ p z => (CU.mp hy).elim λ r u => plkz p z.1 r (mmt u.1) (z.2.trans (e.trans u.2.symm))⟩,
   λ p hp r hr => (CS.mp hp).elim (λ hp => (CS.mp hr).elim (λ hr => P.ap p (CO _ hp) r (CO _ hr)) λ hr => plkz p hp r (mkz hr))
     λ hp => (CS.mp hr).elim (λ hr => (fzkz r hr p (mmt hp)).symm) λ hr => P₀.ap p (CN _ hp) r (CN _ hr),
   λ p hp r hr => fzkz p hp r (mkz hr), P₀.cs, λ i v e => (P₀.l i v e).mono q2⟩
noncomputable def Uu : Flow -> Value
 | .ret v => v
 | _ => .none
structure oh (N : Nm) (prog : Program) (w : World) (h₀ : Heap) (kz : List (Addr × Obj)) (ix : Ix) (U : Mu) (h : Heap) (pl : List (Addr × Obj)) : Prop where
 keep : ∀ b o, h₀.get? b = some o -> h.get? b = some o
 sz : h₀.objs.size <= h.objs.size
 old : ∀ p ∈ pl ++ (ix.fz ++ kz), h.get? p.1 = some p.2 /\ h₀.get? p.1 = none
 B : ∀ p ∈ ix.bz, h₀.get? p.1 = some p.2
 bz : ∀ p ∈ N.bz, p ∈ ix.bz
 ad : pl.map (·.1) = ix.ad
 P : YM N prog w ix pl U
 nd : (pl.map (·.1)).Nodup
 ap : ∀ p ∈ pl, ∀ q ∈ ix.fz ++ kz, p.1 ≠ q.1
 ak : ∀ p ∈ ix.fz, ∀ q ∈ kz, p.1 ≠ q.1
theorem oh.callee {kz : List (Addr × Obj)} (P : oh N prog w fr.h₀ kz ix U h pl) {c : Cx} {env : Env} (ns : h'.Ns env.locals m) (eL : env.locals = h.objs.size) (hk : ∀ b o, h.get? b = some o -> h'.get? b = some o)
   (mnd : ((mt.map (·.2)).map (·.1)).Nodup) (mlt : ∀ p ∈ mt.map (·.2), h.objs.size < p.1 /\ h'.get? p.1 = some p.2) (cs : ∀ i, i < c.n -> c.kd i = 1 -> ∃ d o v, env.cells.lookup (c.nl i) = some d /\ (i, d, o) ∈ mt /\ Xe o v)
   (hl : ∀ i v, loc[i]? = some (some v) -> gV N prog w c env.cells [] false { ix with ow := [] } m mt i v) : Parts N prog w (fr.callee c env kz) { ix with ow := [] } loc U h' m pl mt :=
 have old : ∀ {p}, p ∈ pl ++ (ix.fz ++ kz) -> p.1 < h.objs.size := λ {p} hp => eW (P.old p hp).1
 have old' : ∀ {p : Addr × Obj}, p ∈ pl ++ (ix.fz ++ kz) -> h'.get? p.1 = some p.2 /\ p.1 ≠ env.locals /\ fr.h₀.get? p.1 = none := λ {p} hp => ⟨hk _ _ (P.old p hp).1, eL ▸ eF (old hp), (P.old p hp).2⟩
 ⟨⟨ns, λ a o e => hk _ _ (P.keep a o e), (eL.symm ▸ P.sz : fr.h₀.objs.size <= env.locals)⟩,
   λ p hp => (CS.mp hp).elim (λ hp => (CS.mp hp).elim (λ hp => old' (CO _ hp)) λ hp => have z := mlt p hp; ⟨z.2, (eL.symm ▸ iT z.1 : p.1 ≠ env.locals), zh (CK P.sz (eP z.1))⟩) λ hp => old' (CN _ hp),
   P.B, P.bz, P.ad, P.P.mono0 (.ow ix []),
   eK ▸ Ep.mpr ⟨P.nd, mnd, λ y hy z hz e => (CU.mp hy).elim λ p u => (CU.mp hz).elim λ r t => Nat.lt_irrefl r.1 (EP (t.2.trans (e.symm.trans u.2.symm) ▸ old (CO _ u.1)) (mlt r t.1).1)⟩,
   λ p hp r hr => (CS.mp hp).elim (λ hp => P.ap p hp r hr) λ hp => iT (EP (old (CN _ hr)) (mlt p hp).1), P.ak, λ i hi hk _ => cs i hi hk, hl⟩
end
section
variable {W : Wd}
theorem pg {c : Cx} {i : Nat} (h : c.kd i = 0) : c.cs.names.lookup (c.nl i) = some .local := xJ h (λ _ e => e) (λ e => nomatch e) λ e => nomatch e
theorem bP {c : Cx} {i : Nat} (h : c.kd i = 1) : c.cs.names.lookup (c.nl i) = some .cell := xJ h (λ e => nomatch e) (λ _ e => e) λ e => nomatch e
theorem pf {c : Cx} {i : Nat} (h : c.kd i < 2) : c.kd i = 0 \/ c.kd i = 1 := Ig.mp (eJ h)
theorem Uy {fa : Addr} {c : Cx} {na : Nat} {body : List Stmt} {dv : List Value} {b : Nat} {A : Around} {fr : Frm} {kz pl : List (Addr × Obj)} {ix : Ix} {U : Mu} {s : Shared} {args : List Value} {l dl : List V} {k : V -> Mu -> Prop} {R : Result -> Shared -> Prop}
   (fo : ZO W.K fa c na body dv) (co : ZT c (na + dv.length)) (hd : A.handled = none) (dep : A.depth + 2 * (b + 1) + 3 < recursionLimit) (un : A.units + 12 * (b + 1) + 96 < cLine)
   (ok : W.K.In fr.h₀ /\ rm W.mg W.mb fr.h₀ /\ ∃ o, fr.h₀.get? sysModules = some o) (P : oh W.N W.prog W.w fr.h₀ kz ix U s.heap pl) (g : s.gens = fr.gens /\ s.os = fr.os /\ s.drawn = fr.drawn) (hn : args.length = na) (vr : W.VRs ix args l)
   (vd : W.VRs ix dv dl)
   (q : ∀ jx v' v loc' U' s' env m' pl' mt', ix.Le0 jx -> k v U' -> W.VR { jx with ow := ix.ow } v' v -> Parts W.N W.prog W.w (fr.callee c env kz) jx loc' U' s'.heap m' pl' mt' -> (s'.gens = fr.gens /\ s'.os = fr.os /\ s'.drawn = fr.drawn) -> R (.ok (.ret v')) s')
   (h : ∀ (fr' : Frm) (A' : Around) (s₁ : Shared) (E : Value -> Shared -> Prop), fr'.c = c -> fr'.cm = false -> W.Ok fr' -> jX A' b -> W.FS fr' { ix with ow := [] } (jo c.n (l ++ dl)) U s₁ ->
     wpAny W.M A' (execs body fr'.env) (λ fl s' => ∃ jx v' v loc' U', ({ ix with ow := [] } : Ix).Le0 jx /\ Uu fl = v' /\ k v U' /\ W.VR jx v' v /\ W.FS fr' jx loc' U' s') E s₁) :
   codeAny W.M A (.call (.ref fa) ⟨args, []⟩) R s := by
 obtain ⟨name, qual, params, dV, kV, doc, pm, cdv, ct, oc, an, od, osl, ho, hcd, hco, hgen, hbind⟩ := fo
 have X := ok.1.keeps P.keep
 have hl : (args ++ dv).length = na + dv.length := by rw [eN, hn]
 have hbind := hbind s args X hn
 obtain ⟨binds, hbs⟩ : ∃ binds, binds = ((eQ (na + dv.length)).map c.nl).zip (args ++ dv) := ⟨_, rfl⟩
 rw [<- hbs] at hbind
 have b1 : binds.map (·.1) = (eQ (na + dv.length)).map c.nl := hbs ▸ List.map_fst_zip (by rw [ee, Ey, hl]; exact Ex _)
 have bnd : (binds.map (·.1)).Nodup := by
   rw [b1]
   exact kh (λ i hi j hj e => co.inj i j (CV (Ez.mp hi) co.le) (CV (Ez.mp hj) co.le) e) List.nodup_range
 have bat : ∀ i v, (args ++ dv)[i]? = some v -> i < na + dv.length /\ (c.nl i, v) ∈ binds := λ i v e =>
   have hi : i < na + dv.length := hl ▸ (Ef.mp e).1
   ⟨hi, hbs ▸ eR (i := i) (List.getElem?_zip_eq_some.mpr ⟨by rw [eZ, EV hi]; rfl, e⟩)⟩
 have bk : ∀ x ∈ binds, ∃ i, i < na + dv.length /\ c.nl i = x.1 := λ x hx => (CU.mp (b1 ▸ CU.mpr ⟨x, hx, rfl⟩)).imp λ i z => ⟨Ez.mp z.1, z.2⟩
 refine yh (by omega) (X _ _ ho) rfl hco hgen rfl (codeRec_of X hcd) (qa (hbind _ _ _ _ ?_))
 refine qa <| wpAny_newFunctionEnv_cells co.fn (λ x hx => (bk x hx).elim λ i z => z.2 ▸ (pf (co.kd i z.1)).imp pg λ h1 => ⟨bP h1, cellsFrom_some _ _ _ (.inl (bP h1))⟩) λ env he s' x => ?_
 refine ⟨(ok.2.1.nolimit.keeps P.keep).keeps x.toInCall.keep, Kz ?_⟩
 obtain ⟨h₁, tk, rfl, _⟩ := x.done
 have eL : env.locals = s.heap.objs.size := he ▸ rfl
 have es : env.scope = c.cs := he ▸ rfl
 have eg : env.globals = mainGlobals /\ env.builtins = builtinsNs := he ▸ ⟨rfl, rfl⟩
 have clk : ∀ i, c.kd i = 1 -> ∃ a, env.cells.lookup (c.nl i) = some a := λ i h1 => he ▸ iZ.mp (cellsFrom_some c.cs.names (s.heap.objs.size + 1) [] (.inl (bP h1)))
 clear he
 have hkd : ∀ y, env.kindOf y = c.cs.names.lookup y := λ y => by unfold Env.kindOf; rw [es]
 obtain ⟨mt, emt, hmt⟩ := dz (h := h₁) x.cell c ((eQ c.n).filter λ i => eB (c.kd i) 1) λ i hi => clk i (em (Ib.mp hi).2)
 have mti : ∀ t ∈ mt, t.1 < c.n := λ t ht => Ez.mp (Ib.mp (emt ▸ CU.mpr ⟨t, ht, rfl⟩)).1
 have mtc : ∀ i, i < c.n -> c.kd i = 1 -> ∃ t ∈ mt, t.1 = i := λ i hi h1 => CU.mp (emt.symm ▸ Ib.mpr ⟨Ez.mpr hi, by rw [h1]; rfl⟩)
 have Pc : Parts W.N W.prog W.w (fr.callee c env kz) { ix with ow := [] } (jo c.n (l ++ dl)) U h₁ (lD env.kindOf binds λ _ => none) pl mt := by
   refine P.callee x.toInCall.ns eL x.toInCall.keep ?_ (λ p hp => ?_) (λ i hi h1 => ?_) λ i v e => ?_
   · exact JH (emt.symm ▸ List.nodup_range.filter _) λ t ht u hu e => co.inj _ _ (mti t ht) (mti u hu) (name_of_addr x.apart (lN (hmt t ht).1) (e ▸ lN (hmt u hu).1))
   · obtain ⟨t, ht, rfl⟩ := CU.mp hp
     exact ⟨eL ▸ x.above (c.nl t.1) t.2.1 (lN (hmt t ht).1), (hmt t ht).2.1⟩
   · obtain ⟨t, ht, rfl⟩ := mtc i hi h1
     exact ⟨t.2.1, t.2.2, _, (hmt t ht).1, ht, (hmt t ht).2.2⟩
   · obtain ⟨v', hv', vv⟩ := (vr.app vd).at (uS e)
     obtain ⟨hi, hm⟩ := bat i v' hv'
     have hic : i < c.n := CV hi co.le
     refine ⟨hic, λ h0 => .inl ⟨v', kH ((hkd _).trans (pg h0)) binds _ bnd hm, vv.mono0 _ _ _ (.ow ix [])⟩, λ h1 => ?_⟩
     obtain ⟨t, ht, rfl⟩ := mtc i hic h1
     have z3 := (hmt t ht).2.2
     rw [kJ ((hkd _).trans (bP h1)) binds _ bnd hm] at z3
     exact ⟨(t.2.1, t.2.2, v'), (hmt t ht).1, ht, z3, vv.mono0 _ _ _ (.ow ix [])⟩
 have ok' : W.Ok (fr.callee c env kz) := ⟨⟨es, eg.1, eg.2, co.fn, co.inj, co.dbg, (λ p hp => nomatch hp), λ i hi h1 => clk i h1⟩, ok⟩
 have at' : jX (A.deeper env) b := ⟨hd, by show (A.depth + 1) + 2 * b + 4 < recursionLimit; omega, by show (A.units + 3) + 12 * b + 100 < cLine; omega⟩
 refine ql (h (fr.callee c env kz) (A.deeper env) { s with heap := h₁, toks := tk } _ rfl rfl ok' at' ⟨⟨_, pl, mt, Pc⟩, g.1, g.2.1, g.2.2⟩) (λ fl s₂ hfl => ?_) λ _ _ x => x
 obtain ⟨jx, v', v, loc', U', z, ev, hk2, vr2, Y2⟩ := hfl
 show R (.ok (.ret (Uu fl))) s₂
 exact ev ▸ Y2.op λ m2 pl2 mt2 P2 => q jx v' v loc' U' s₂ env m2 pl2 mt2 ⟨z.ad, z.bz, z.fz⟩ hk2 (vr2.mono0 _ _ _ (.ow jx ix.ow)) P2 ⟨Y2.gens, Y2.os, Y2.drawn⟩
theorem enter {fa : Addr} {c : Cx} {na : Nat} {body : List Stmt} {dv : List Value} {b : Nat} {A : Around} {fr : Frm} {ix : Ix} {loc : List (Option V)} {U : Mu} {s : Shared} {args : List Value} {l dl : List V} {k : V -> Mu -> Prop} {R : Result -> Shared -> Prop}
   (fo : ZO W.K fa c na body dv) (co : ZT c (na + dv.length)) (hd : A.handled = none) (dep : A.depth + 2 * (b + 1) + 3 < recursionLimit) (un : A.units + 12 * (b + 1) + 96 < cLine) (ok : W.Ok fr) (Y : W.FS fr ix loc U s) (hn : args.length = na) (vr : W.VRs ix args l)
   (vd : W.VRs ix dv dl)
   (q : W.Post fr ix loc k (λ v s' => R (.ok (.ret v)) s'))
   (h : ∀ (fr' : Frm) (A' : Around) (s₁ : Shared) (E : Value -> Shared -> Prop), fr'.c = c -> fr'.cm = false -> W.Ok fr' -> jX A' b -> W.FS fr' { ix with ow := [] } (jo c.n (l ++ dl)) U s₁ ->
     wpAny W.M A' (execs body fr'.env) (λ fl s' => ∃ jx v' v loc' U', ({ ix with ow := [] } : Ix).Le0 jx /\ Uu fl = v' /\ k v U' /\ W.VR jx v' v /\ W.FS fr' jx loc' U' s') E s₁) :
   codeAny W.M A (.call (.ref fa) ⟨args, []⟩) R s := Y.op λ m pl mt P => by
 obtain ⟨oL, hL⟩ : ∃ oL, s.heap.get? fr.L = some oL := P.F.ns.elim λ o z => z.elim λ _ z => z.elim λ _ z => ⟨o, z.1⟩
 have old : ∀ {p}, p ∈ pl ++ mt.map (·.2) ++ (ix.fz ++ fr.kz) -> s.heap.get? p.1 = some p.2 /\ fr.h₀.get? p.1 = none := λ {p} hp => ⟨(P.W p hp).1, (P.W p hp).2.2⟩
 have neL : ∀ {p}, p ∈ pl ++ mt.map (·.2) ++ (ix.fz ++ fr.kz) -> p.1 ≠ fr.L := λ {p} hp => (P.W p hp).2.1
 exact Uy fo co hd dep un ok.2 (kz := yx fr mt oL) (pl := pl) ⟨P.F.keep, CK P.F.above (eP (eW hL)),
   λ p hp => m3 hp (λ h => old (i1 (CO _ h))) (λ h => old (i2 h)) λ h => mc h (λ e => e ▸ ⟨hL, zh P.F.above⟩) λ h => (CS.mp h).elim (λ h => old (i1 (CN _ h))) λ h => old (i3 h), P.B, P.bz, P.ad, P.P, P.nd1,
   λ p hp r hr => m3 (a := ix.fz) (c := [(fr.L, oL)]) hr (λ h => P.ap p (CO _ hp) r (CO _ h)) (λ h => (eS.mp h).symm ▸ neL (i1 (CO _ hp)))
     λ h => (CS.mp h).elim (λ h => (Ep.mp (eK ▸ P.nd)).2.2 p.1 (CU.mpr ⟨p, hp, rfl⟩) r.1 (CU.mpr ⟨r, h, rfl⟩)) λ h => P.ap p (CO _ hp) r (CN _ h),
   λ p hp r hr => mc hr (λ e => e ▸ neL (i2 hp)) λ h => (CS.mp h).elim (λ h => (P.ap r (CN _ h) p (CO _ hp)).symm) λ h => P.ak p hp r h⟩ ⟨Y.gens, Y.os, Y.drawn⟩ hn vr vd
   (λ jx v' v loc' U' s' env m' pl' mt' z hk vv P2 k1 => q { jx with ow := ix.ow } v' v U' s' ⟨z.ad, z.bz, z.fz, rfl⟩ hk vv ⟨⟨m, pl', mt, P.back hL z P2⟩, k1.1, k1.2.1, k1.2.2⟩) h
end
noncomputable def wT (self : Value) : Code × Pos -> Bool
 | (.builtin "bytearray.__contains__" ⟨v :: _, _⟩, _) | (.builtin "bytearray.__mod__" ⟨v :: _, _⟩, _)
 | (.builtin "bytearray.__rmod__" ⟨_ :: v :: _, _⟩, _) | (.builtin "_struct.pack_into.held" ⟨v :: _, _⟩, _) => Builtin.Bytes.sameRef v self
 | (.builtin "bytearray.find.held" ⟨_ :: _ :: held, _⟩, _) => held.any (Builtin.Bytes.sameRef self)
 | (.builtin id ⟨v :: _, _⟩, _) => Builtin.Bytes.sameRef v self && Builtin.Bytes.decodersThatHold.contains id
 | _ => false
theorem ke {id : String} {args : Args} (h : Xt (.builtin id args) = true) : yF.contains id = false := by
 have h : (!yF.contains id) = true := h
 simpa using h
theorem Fy {id : String} (h : yF.contains id = false) : Builtin.Bytes.decodersThatHold.contains id = false := by
 unfold yF at h
 rw [List.contains_eq_any_beq] at h |-
 rw [List.any_append] at h
 exact (lM.mp h).2
theorem Uj {self : Value} {c : Code} {p : Pos} (h : Xt c = true) : wT self (c, p) = false := by
 unfold wT
 split
 · rename_i e; cases e; exact absurd (ke h) (by decide +kernel)
 · rename_i e; cases e; exact absurd (ke h) (by decide +kernel)
 · rename_i e; cases e; exact absurd (ke h) (by decide +kernel)
 · rename_i e; cases e; exact absurd (ke h) (by decide +kernel)
 · rename_i e; cases e; exact absurd (ke h) (by decide +kernel)
 · rename_i e
   cases e
   rw [Fy (ke h), Bool.and_false]
 · rfl
section
variable {M : Model} {A : Around} {E : Value -> Shared -> Prop} {s : Shared}
theorem ZG {self : Value} {Q : Bool -> Shared -> Prop} (h : Q false s) : wpAny M A (Builtin.Bytes.exported self) Q E s := λ Γ p hΓ cl => by
 have e : ((Γ.code, p) :: Γ.below).any (wT self) = false := by
   rw [List.any_eq_false]
   rintro ⟨c, q⟩ hx
   have ok : Xt c = true := by
     rcases eV.mp hx with hx | hx
     · cases hx; exact cl.1
     · exact cl.2 _ hx
   rw [Uj ok]; exact iu
 show Q (((Γ.code, p) :: Γ.below).any (wT self)) s
 rw [e]; exact h
theorem yC {a : Addr} {b : Array UInt8} {Q : Unit -> Shared -> Prop} (ho : s.heap.get? a = some (yi b)) (h : Q () s) : wpAny M A (Builtin.Bytes.checkResize (.ref a)) Q E s := by
 unfold Builtin.Bytes.checkResize
 refine wpAny_bind ?_
 unfold orM
 refine wpAny_bind (ZG ?_)
 show wpAny M A (Builtin.Bytes.exportsOf (.ref a) >>= λ n => pure (decide (n > 0))) _ E s
 refine wpAny_bind ?_
 unfold Builtin.Bytes.exportsOf
 refine qa (CP (wpAny_load ho (eA ?_)))
 exact wpAny_pure (wpAny_pure h)
theorem Jh {a : Addr} {b c : Array UInt8} {f : Array UInt8 -> Array UInt8} {Q : Unit -> Shared -> Prop} (ho : s.heap.get? a = some (yi b)) (hf : f b = c) (hc : c.size <= sizeLine)
   (h : ∀ h', Heap.SameBut a s.heap h' -> h'.get? a = some (yi c) -> Q () { s with heap := h' }) : Ec M A (Builtin.Bytes.write (.ref a) f) Q E s := by
 show Ec M A (updateBytearray a f) Q E s
 unfold updateBytearray
 refine CP (wpAny_load ho ?_)
 show Ec _ _ (update a (Obj.mapBytearray f) >>= λ _ => lookBehind a) _ _ _
 refine CP (wpAny_update ho ?_)
 have h2 : (s.heap.update a (Obj.mapBytearray f)).get? a = some (yi c) := by
   rw [<- hf]; exact Heap.get?_update_self (Obj.mapBytearray f) ho rfl
 refine wpAny_lookBehind h2 ?_ (h _ (Heap.SameBut.update ..) h2)
 show (if c.size > sizeLine then some "bytearray:memory" else none) = none
 rw [if_neg (Ea.mpr hc)]
end
section
variable {prog : Program} {w : World} {A : Around} {E : Value -> Shared -> Prop} {s : Shared}
theorem Qw {T : String} {name : Str} {id : String} {b : Builtin} {self : Value} {rest : List Value} {Q : Value -> Shared -> Prop} (h : Slot T name id) (ok : yF.contains id = false) (hT : s.TypeIs self T) (hb : entryFor table id = some b)
   (ha : argsOk id ⟨self :: rest, []⟩) (hc : wpAny (model prog w) A.in1 (b ⟨self :: rest, []⟩) (λ fin s' => ∃ v, fin = .done (.ret v) /\ Q v s') E s) : wpAny (model prog w) A (call (.builtin id) (self :: rest)) Q E s := by
 have okc : Xt (.builtin id ⟨self :: rest, []⟩) = true := by show (!yF.contains id) = true; rw [ok]; rfl
 refine qM (zG (plainId_quiet h.plain _) okc hb (qa (h.check _ _ _ _ _ _ _ _ hT ha ?_)))
 rw [Around.under_plainId h.plain]
 refine ql hc ?_ λ _ _ x => x
 rintro fin s' ⟨v, rfl, hv⟩
 exact hv
end
namespace BaF
theorem owner : Manifest.owners.lookup (String.ofList ['y', 'a', 'r', 'r', 'a', 'e', 't', 'y', 'b'].reverse) = some Manifest.sig_bytearray := by kernel_rfl
theorem plain : PlainAttrs "bytearray" := ⟨⟨"bytearray.__getattribute__", by rw [typeLookup_type, builtinLookup_eq_fast]; kernel_rfl, by decide +kernel⟩, by rw [typeLookup_type, builtinLookup_eq_fast]; kernel_rfl⟩
theorem sub : isSubtype (.type "bytearray") (.type "bytearray") = pure true := by rw [isSubtype_type]; kernel_rfl
theorem slot_append : Slot "bytearray" "append" "bytearray.append" :=
 .of (owner := "bytearray") (n := "append") (by rw [typeLookup_type, builtinLookup_eq_fast]; kernel_rfl) (by decide +kernel) (by decide +kernel) (by decide +kernel) (.inr (by decide +kernel)) sub
theorem slot_extend : Slot "bytearray" "extend" "bytearray.extend" :=
 .of (owner := "bytearray") (n := "extend") (by rw [typeLookup_type, builtinLookup_eq_fast]; kernel_rfl) (by decide +kernel) (by decide +kernel) (by decide +kernel) (.inr (by decide +kernel)) sub
theorem slot_len : Slot "bytearray" "__len__" "bytearray.__len__" :=
 .of (owner := "bytearray") (n := "__len__") (by rw [typeLookup_type, builtinLookup_eq_fast]; kernel_rfl) (by decide +kernel) (by decide +kernel) (by decide +kernel) (.inl (by decide +kernel)) sub
theorem slot_init : Slot "bytearray" "__init__" "bytearray.__init__" :=
 .of (owner := "bytearray") (n := "__init__") (by rw [typeLookup_type, builtinLookup_eq_fast]; kernel_rfl) (by decide +kernel) (by decide +kernel) (by decide +kernel) (.inl (by decide +kernel)) sub
theorem type_append : typeOf (.builtin "bytearray.append") = pure (.type "method_descriptor") := by show builtinType _ = _; rw [builtinType_eq_fast]; kernel_rfl
theorem type_extend : typeOf (.builtin "bytearray.extend") = pure (.type "method_descriptor") := by show builtinType _ = _; rw [builtinType_eq_fast]; kernel_rfl
theorem entry_append : entryFor table "bytearray.append" = some Builtin.«bytearray.append» := entryFor_of_tree (by kernel_rfl)
theorem entry_extend : entryFor table "bytearray.extend" = some Builtin.«bytearray.extend» := entryFor_of_tree (by kernel_rfl)
theorem entry_len : entryFor table "bytearray.__len__" = some Builtin.«bytearray.__len__» := entryFor_of_tree (by kernel_rfl)
theorem entry_init : entryFor table "bytearray.__init__" = some Builtin.«bytearray.__init__» := entryFor_of_tree (by kernel_rfl)
theorem args_append (a b : Value) : argsOk "bytearray.append" ⟨[a, b], []⟩ := by
 unfold argsOk; rw [signature?_of (id := "bytearray.append") (n := ['d', 'n', 'e', 'p', 'p', 'a']) (o := ['y', 'a', 'r', 'r', 'a', 'e', 't', 'y', 'b']) (by kernel_rfl) owner]; kernel_rfl
theorem args_extend (a b : Value) : argsOk "bytearray.extend" ⟨[a, b], []⟩ := by
 unfold argsOk; rw [signature?_of (id := "bytearray.extend") (n := ['d', 'n', 'e', 't', 'x', 'e']) (o := ['y', 'a', 'r', 'r', 'a', 'e', 't', 'y', 'b']) (by kernel_rfl) owner]; kernel_rfl
theorem args_len (a : Value) : argsOk "bytearray.__len__" ⟨[a], []⟩ := by
 unfold argsOk; rw [signature?_of (id := "bytearray.__len__") (n := ['_', '_', 'n', 'e', 'l', '_', '_']) (o := ['y', 'a', 'r', 'r', 'a', 'e', 't', 'y', 'b']) (by kernel_rfl) owner]; kernel_rfl
theorem args_init (a : Value) : argsOk "bytearray.__init__" ⟨[a], []⟩ := by
 unfold argsOk; rw [signature?_of (id := "bytearray.__init__") (n := ['_', '_', 't', 'i', 'n', 'i', '_', '_']) (o := ['y', 'a', 'r', 'r', 'a', 'e', 't', 'y', 'b']) (by kernel_rfl) owner]; kernel_rfl
end BaF
section
variable {prog : Program} {w : World} {A : Around} {E : Value -> Shared -> Prop} {s : Shared}
theorem Wu {Q : Value -> Shared -> Prop} {a : Addr} {b : Array UInt8} {i : Int} {t : Tok} (ho : s.heap.get? a = some (yi b)) (hb : b.size < 1000000) (h0 : 0 <= i) (h1 : i < 256)
   (h : ∀ h' tk c, c.size = b.size + 1 -> Heap.SameBut a s.heap h' -> h'.get? a = some (yi c) -> Q .none { s with heap := h', toks := tk }) : wpAny (model prog w) A (call (.builtin "bytearray.append") [.ref a, .int i t]) Q E s := by
 refine Qw BaF.slot_append (by decide +kernel) ⟨_, ho, rfl⟩ BaF.entry_append (BaF.args_append _ _) ?_
 unfold Builtin.«bytearray.append»
 refine wpAny_bind (qf (rfl : selfAndOne "bytearray.append" ⟨[.ref a, .int i t], []⟩ = pure (.ref a, .int i t)) (wpAny_pure ?_))
 dsimp only
 refine wpAny_bind ?_
 unfold Builtin.Bytes.byteValue
 refine wpAny_bind (qf (rfl : asIndex (.int i t) = pure i) (wpAny_pure ?_))
 have hn : (decide (i < 0) || decide (i >= 256)) = false := by simp only [lM, decide_eq_false_iff_not]; omega
 simp only [hn, Ee, if_false]
 refine wpAny_pure (wpAny_bind (yC ho (wpAny_bind (qa (Jh (c := b.push i.toNat.toUInt8) ho rfl (by rw [Array.size_push]; exact CK hb (by decide)) λ h' hs hg => ?_)))))
 exact wpAny_pure ⟨_, rfl, h h' _ _ (Array.size_push ..) hs hg⟩
end
namespace BaF
theorem buf_bytes : typeLookup (.type "bytes") "__buffer__" = pure (some (.builtin "bytes.__buffer__")) := by rw [typeLookup_type, builtinLookup_eq_fast]; kernel_rfl
theorem rel_bytes : typeLookup (.type "bytes") "__release_buffer__" = pure none := by rw [typeLookup_type, builtinLookup_eq_fast]; kernel_rfl
theorem buf_ba : typeLookup (.type "bytearray") "__buffer__" = pure (some (.builtin "bytearray.__buffer__")) := by rw [typeLookup_type, builtinLookup_eq_fast]; kernel_rfl
theorem rel_ba : typeLookup (.type "bytearray") "__release_buffer__" = pure (some (.builtin "bytearray.__release_buffer__")) := by rw [typeLookup_type, builtinLookup_eq_fast]; kernel_rfl
theorem end1 : "bytes.__buffer__".endsWith ("." ++ "__buffer__") = true := by decide +kernel
theorem drop1 : "bytes.__buffer__".dropRight ("__buffer__".length + 1) = "bytes" := by decide +kernel
theorem end2 : "bytearray.__buffer__".endsWith ("." ++ "__buffer__") = true := by decide +kernel
theorem drop2 : "bytearray.__buffer__".dropRight ("__buffer__".length + 1) = "bytearray" := by decide +kernel
theorem end3 : "bytearray.__release_buffer__".endsWith ("." ++ "__release_buffer__") = true := by decide +kernel
theorem drop3 : "bytearray.__release_buffer__".dropRight ("__release_buffer__".length + 1) = "bytearray" := by decide +kernel
end BaF
section
variable {prog : Program} {w : World} {A : Around} {E : Value -> Shared -> Prop} {s : Shared}
open Builtin.Bytes in
theorem ZY {v : Value} {T id : String} {name : String} {Q : Bool -> Shared -> Prop} (hT : s.TypeIs v T) (hl : typeLookup (.type T) (name : Str) = pure (some (.builtin id))) (h1 : id.endsWith ("." ++ name) = true) (h2 : id.dropRight (name.length + 1) = T)
   (hs : isSubtype (.type T) (.type T) = pure true) (h : Q true s) : Ec (model prog w) A (slotIsOwn v name) Q E s := by
 unfold slotIsOwn
 refine CP (wpAny_specialOf hT hl ?_)
 dsimp only
 rw [h1, h2]
 exact wpAny_isInstance hT hs h
open Builtin.Bytes in
theorem Kh {d : Array UInt8} {t : Tok} {Q : Bool -> Shared -> Prop} (h : Q false s) : Ec (model prog w) A (ownRelease (.bytes d t)) Q E s := by
 unfold ownRelease slotIsOwn
 refine CP (CP (wpAny_specialOf (typeIs_bytes s d t) BaF.rel_bytes ?_))
 exact eA (eA h)
open Builtin.Bytes in
theorem YX {a : Addr} {b : Array UInt8} {Q : Bool -> Shared -> Prop} (ho : s.heap.get? a = some (yi b)) (h : Q false s) : Ec (model prog w) A (ownRelease (.ref a)) Q E s := by
 unfold ownRelease
 exact CP (ZY (s := s) ⟨_, ho, rfl⟩ BaF.rel_ba BaF.end3 BaF.drop3 BaF.sub (eA h))
open Builtin.Bytes in
theorem KE {d : Array UInt8} {t : Tok} {id : String} {f : Bool} {Q : Option (Array UInt8) -> Shared -> Prop} (h : Q (some d) s) : Ec (model prog w) A (buffer? id (.bytes d t) f) Q E s := by
 unfold buffer?
 have hT := typeIs_bytes s d t
 refine CP (wpAny_specialOf hT BaF.buf_bytes ?_)
 dsimp only
 refine CP (ZY hT BaF.buf_bytes BaF.end1 BaF.drop1 F.sub_bytes_bytes ?_)
 simp only [IT, Ee, if_false]
 refine CP (wpAny_specialOf hT BaF.buf_bytes ?_)
 show Ec _ _ (ownRelease (.bytes d t) >>= _) _ _ _
 refine CP (Kh ?_)
 simp only [Ee, if_false]
 exact CP (CP (eA (eA (eA h))))
open Builtin.Bytes in
theorem Wq {a : Addr} {b : Array UInt8} {id : String} {f : Bool} {Q : Option (Array UInt8) -> Shared -> Prop} (ho : s.heap.get? a = some (yi b)) (h : Q (some b) s) : Ec (model prog w) A (buffer? id (.ref a) f) Q E s := by
 unfold buffer?
 have hT : s.TypeIs (.ref a) "bytearray" := ⟨_, ho, rfl⟩
 refine CP (wpAny_specialOf hT BaF.buf_ba ?_)
 dsimp only
 refine CP (ZY hT BaF.buf_ba BaF.end2 BaF.drop2 BaF.sub ?_)
 simp only [IT, Ee, if_false]
 refine CP (wpAny_specialOf hT BaF.buf_ba ?_)
 show Ec _ _ (ownRelease (.ref a) >>= _) _ _ _
 refine CP (YX ho ?_)
 simp only [Ee, if_false]
 exact CP (CP (CP (wpAny_load ho (eA (eA (eA h))))))
theorem Wt {Q : Value -> Shared -> Prop} {a : Addr} {b d : Array UInt8} {t : Tok} (ho : s.heap.get? a = some (yi b)) (hb : b.size + d.size <= 1000000)
   (h : ∀ h' tk c, c.size = b.size + d.size -> Heap.SameBut a s.heap h' -> h'.get? a = some (yi c) -> Q .none { s with heap := h', toks := tk }) : wpAny (model prog w) A (call (.builtin "bytearray.extend") [.ref a, .bytes d t]) Q E s := by
 refine Qw BaF.slot_extend (by decide +kernel) ⟨_, ho, rfl⟩ BaF.entry_extend (BaF.args_extend _ _) ?_
 unfold Builtin.«bytearray.extend»
 refine wpAny_bind (qf (rfl : selfAndOne "bytearray.extend" ⟨[.ref a, .bytes d t], []⟩ = pure (.ref a, .bytes d t)) (wpAny_pure ?_))
 dsimp only
 refine wpAny_bind (qa (wpAny_specialOf (typeIs_bytes s d t) BaF.buf_bytes ?_))
 dsimp only [Option.isSome_some]
 rw [if_pos rfl]
 refine wpAny_bind (wpAny_rule (wpAny_bind ?_))
 refine qa (CP (CP (wpAny_load ho (eA (eA ?_)))))
 refine wpAny_bind ?_
 unfold Builtin.Bytes.takeBufferQuiet?
 refine wpAny_bind (Qa ?_)
 unfold Builtin.Bytes.takeBuffer?
 have hT := typeIs_bytes s d t
 refine qa (CP (wpAny_specialOf hT BaF.buf_bytes ?_))
 dsimp only
 refine CP (ZY hT BaF.buf_bytes BaF.end1 BaF.drop1 F.sub_bytes_bytes ?_)
 simp only [IT, Ee, if_false]
 refine CP (wpAny_specialOf hT BaF.buf_bytes ?_)
 show Ec _ _ (Builtin.Bytes.buffer? "bytearray.extend" (.bytes d t) _ >>= _) _ _ _
 refine CP (KE ?_)
 refine eA ?_
 refine wpAny_pure ?_
 show wpAny _ _ (if (!d.isEmpty) = true then (Builtin.Bytes.checkResize (.ref a) >>= λ _ => (Builtin.Bytes.write (.ref a) (· ++ d) >>= λ _ => ret .none)) else (Builtin.Bytes.write (.ref a) (· ++ d) >>= λ _ => ret .none)) _ _ _
 have fin : wpAny (model prog w) A.in1 (Builtin.Bytes.write (.ref a) (· ++ d) >>= λ _ => ret .none) (λ fin s' => ∃ v, fin = .done (.ret v) /\ Q v s') E s := by
   refine wpAny_bind (qa (Jh (c := b ++ d) ho rfl (by rw [Array.size_append]; exact CK hb (by decide)) λ h' hs hg => ?_))
   exact wpAny_pure ⟨_, rfl, h h' _ _ (Array.size_append ..) hs hg⟩
 split
 · exact wpAny_bind (yC ho fin)
 · exact fin
theorem Hh {Q : Value -> Shared -> Prop} {a : Addr} {b : Array UInt8} (ho : s.heap.get? a = some (yi b)) (hb : b.size <= 1000000) (h : ∀ t tk, Q (.int b.size t) { s with toks := tk }) : Ec (model prog w) A (call (.builtin "len") [.ref a]) Q E s := by
 have hT : s.TypeIs (.ref a) "bytearray" := ⟨_, ho, rfl⟩
 refine call_len_slot (n := b.size) hT BaF.slot_len (λ Q' hq => ?_) (by omega) (by omega) (h _ _)
 refine wpAny_call_entry BaF.slot_len hT BaF.entry_len ?_ (BaF.args_len _)
 unfold Builtin.«bytearray.__len__»
 refine CP (wpAny_of_eq (rfl : slotArgs "__len__" 0 ⟨[.ref a], []⟩ = pure (.ref a, [])) ?_)
 refine CP (CP (CP (wpAny_load ho (eA (eA ?_)))))
 exact CP (wpAny_mkInt (eA ⟨_, rfl, hq⟩))
end
namespace BaF
theorem no_bytes : typeLookup (.type "bytearray") "__bytes__" = pure none := by rw [typeLookup_type, builtinLookup_eq_fast]; kernel_rfl
theorem nIndex : typeLookup (.type "bytearray") "__index__" = pure none := by rw [typeLookup_type, builtinLookup_eq_fast]; kernel_rfl
end BaF
section
variable {prog : Program} {w : World} {A : Around} {E : Value -> Shared -> Prop} {s : Shared}
theorem Wp {Q : Value -> Shared -> Prop} {a : Addr} {b : Array UInt8} (ho : s.heap.get? a = some (yi b)) (hb : b.size <= 1000000) (h : ∀ t tk, Q (.bytes b t) { s with toks := tk }) :
   PySem.codeAny (model prog w) A (.call (.builtin "bytes.__new__") ⟨[.type "bytes", .ref a], []⟩) (wants Q E) s := by
 refine codeAny_of_tree ?_
 show Ec _ A.in1 (do checkBuiltinCall "bytes.__new__" ⟨[.type "bytes", .ref a], []⟩; again (.builtin "bytes.__new__" ⟨[.type "bytes", .ref a], []⟩)) _ _ s
 refine CP (wpAny_of_eq (F.bm_newCall _) (eA ⟨plainId_quiet F.bm_plain _, PySem.codeAny_builtin F.bm_entry ?_⟩))
 rw [Around.under_plainId F.bm_plain _]
 have hT : s.TypeIs (.ref a) "bytearray" := ⟨_, ho, rfl⟩
 unfold Builtin.«bytes.__new__»
 refine CP (wpAny_of_eq (a := true) rfl ?_)
 refine bm_if_false rfl ?_
 refine CP (wpAny_of_eq F.bm_sub ?_)
 refine bm_if_false rfl ?_
 refine CP (wpAny_of_eq (F.bm_bind _) ?_)
 refine CP (wpAny_of_eq (a := ()) rfl ?_)
 refine CP (wpAny_of_eq (a := ()) rfl ?_)
 refine bm_if_false rfl ?_
 refine CP (wpAny_specialOf hT BaF.no_bytes ?_)
 refine CP (CP ?_)
 show Ec _ _ (load a >>= _) _ _ _
 refine CP (wpAny_load ho ?_)
 refine eA (eA ?_)
 refine bm_if_false rfl ?_
 refine CP (wpAny_specialOf hT BaF.nIndex ?_)
 refine bm_if_true rfl ?_
 first
   | show Ec _ _ (Builtin.Bytes.buffer? "bytes.__new__" (.ref a) true >>= _) _ _ _
   | (refine CP ?_; show Ec _ _ (Builtin.Bytes.buffer? "bytes.__new__" (.ref a) true >>= _) _ _ _)
 refine CP (Wq ho ?_)
 refine CP (PySem.wpAny_rule ?_)
 first
   | show Ec _ _ (mkBytes b >>= _) _ _ _
   | (refine CP ?_; show Ec _ _ (mkBytes b >>= _) _ _ _)
 refine CP (wpAny_mkBytes ?_ (CK hb (by decide)))
 show Ec _ _ (if (Value.type "bytes" == Value.type "bytes") = true then _ else _) _ _ _
 refine bm_if_true (by decide) ?_
 first
   | exact eA (h _ _)
   | exact CP (eA (eA (h _ _)))
theorem gf {Q : Value -> Shared -> Prop} {a : Addr} {b : Array UInt8} (ho : s.heap.get? a = some (yi b)) (hb : b.size <= 1000000) (h : ∀ t tk, Q (.bytes b t) { s with toks := tk }) : Ec (model prog w) A (call (.type "bytes") [.ref a]) Q E s := by
 refine callType_codes (Q₁ := λ obj s₁ => s₁.TypeIs obj "bytes" /\ Q obj s₁) F.bm_called (F.bm_typeCall _) F.entry_object_init (Wp ho hb λ t tk => ⟨PySem.W.typeIs_bytes _ _ _, h t tk⟩) λ obj s₁ h₁ => ?_
 exact ⟨h₁.1, F.args_object_init_2 obj _, object_init_meets F.bm_called.init.lookup F.bm_called.made (by decide) prog w A.in1 _ s₁ ⟨h₁.1, rfl, h₁.2⟩⟩
end
namespace BaF
theorem mro : mroOf (.type "bytearray") = pure [.type "bytearray", .type "object"] := by rw [mroOf_type]; kernel_rfl
theorem XW : typeLookup (.type "bytearray") "__new__" = pure (some (.builtin "bytearray.__new__")) := by rw [typeLookup_type, builtinLookup_eq_fast]; kernel_rfl
theorem made : Bind.madeBy (.type "bytearray") = pure (some "bytearray.__new__") := madeBy_type mro XW (by decide +kernel)
theorem plain_new : plainId "bytearray.__new__" = true := by decide +kernel
theorem typeCall : checkTypeCall "bytearray" ⟨[], []⟩ = pure () := by kernel_rfl
theorem newCall : checkBuiltinCall "bytearray.__new__" ⟨[.type "bytearray"], []⟩ = pure () := by kernel_rfl
theorem canCreate : ((Manifest.find? "bytearray").bind (·.mro.findSome? λ t => (Manifest.find? t).bind λ b => if b.noNew then some true else if b.attrs.any (·.1 == "__new__") then some false else none)).getD false = false := by decide +kernel
theorem entry_new : entryFor table "bytearray.__new__" = some Builtin.«list.__new__» := entryFor_alias (id' := "list.__new__") (by kernel_rfl) (by decide +kernel) (by decide +kernel) (by kernel_rfl)
theorem bindOpt : Builtin.Bytes.bindOptional "bytearray.__init__" "bytearray" ["source", "encoding", "errors"] [] [] = pure [none, none, none] := by kernel_rfl
end BaF
set_option maxHeartbeats 4000000 in
theorem BaF.owner_new : ("bytearray.__new__".splitOn ".__new__").headD "" = "bytearray" := by simp +decide [String.splitOn, String.splitOnAux]
section
variable {prog : Program} {w : World} {A : Around} {E : Value -> Shared -> Prop} {s : Shared}
theorem Xm {Q₁ : Value -> Shared -> Prop} (h : Q₁ (.ref s.heap.objs.size) { s with heap := s.heap.push (yi #[]) }) :
   PySem.codeAny (model prog w) A (.call (.builtin "bytearray.__new__") ⟨[.type "bytearray"], []⟩) (wants Q₁ E) s := by
 refine codeAny_of_tree ?_
 show Ec _ A.in1 (do checkBuiltinCall "bytearray.__new__" ⟨[.type "bytearray"], []⟩; again (.builtin "bytearray.__new__" ⟨[.type "bytearray"], []⟩)) _ _ s
 refine CP (wpAny_of_eq BaF.newCall (eA ⟨plainId_quiet BaF.plain_new _, codeAny_builtin_stack BaF.entry_new rfl λ p st => ?_⟩))
 rw [Around.under_plainId BaF.plain_new _]
 have hsub := BaF.sub
 have hown := BaF.owner_new
 obtain ⟨hp, g, d, tk, os⟩ := s
 simp only [hown]
 wp_walk
 exact h
theorem zP {α : Type} {M : Model} {c : Bool} {a b : Sem α} {Q : α -> Shared -> Prop} (hc : c = false) (h : wpAny M A b Q E s) : wpAny M A (if c = true then a else b) Q E s := by
 subst hc; exact h
theorem BC {a : Addr} {b : Array UInt8} {Q : Value -> Shared -> Prop} (ho : s.heap.get? a = some (yi b)) (h : ∀ h', Heap.SameBut a s.heap h' -> h'.get? a = some (yi #[]) -> Q .none { s with heap := h' }) : wpAny (model prog w) A (call (.builtin "bytearray.__init__") [.ref a]) Q E s := by
 refine Qw BaF.slot_init (by decide +kernel) ⟨_, ho, rfl⟩ BaF.entry_init (BaF.args_init _) ?_
 unfold Builtin.«bytearray.__init__»
 dsimp only
 refine wpAny_bind (qa (YX ho ?_))
 refine zP rfl ?_
 refine wpAny_bind (qf BaF.bindOpt (wpAny_pure ?_))
 dsimp only
 refine wpAny_bind (qf (rfl : Builtin.Bytes.checkCodecArg "bytearray.__init__" "bytearray" "encoding" none = pure ()) (wpAny_pure ?_))
 refine wpAny_bind (qf (rfl : Builtin.Bytes.checkCodecArg "bytearray.__init__" "bytearray" "errors" none = pure ()) (wpAny_pure ?_))
 refine wpAny_bind ?_
 unfold orM
 refine wpAny_bind (ZG ?_)
 show wpAny _ _ (Builtin.Bytes.exportsOf (.ref a) >>= λ n => pure (decide (n > 0))) _ _ _
 refine wpAny_bind ?_
 unfold Builtin.Bytes.exportsOf
 refine qa (CP (wpAny_load ho (eA (wpAny_pure ?_))))
 refine zP rfl ?_
 refine wpAny_bind (qa (Jh (c := #[]) ho rfl (Ew _) λ h' hs hg => ?_))
 have fin := h h' hs hg
 first
   | exact wpAny_bind (wpAny_pure (wpAny_bind (wpAny_pure (wpAny_pure ⟨_, rfl, fin⟩))))
   | exact wpAny_bind (wpAny_pure (wpAny_pure ⟨_, rfl, fin⟩))
   | exact wpAny_pure ⟨_, rfl, fin⟩
theorem Hg {Q : Value -> Shared -> Prop} (h : ∀ h', (∀ c o, s.heap.get? c = some o -> h'.get? c = some o) -> h'.get? s.heap.objs.size = some (yi #[]) -> Q (.ref s.heap.objs.size) { s with heap := h' }) : wpAny (model prog w) A (call (.type "bytearray") []) Q E s := by
 refine qM (qA ?_)
 show wpAny _ _ (callAny (.type "bytearray") ⟨[], []⟩) _ _ _
 refine wpAny_pure ⟨Code.quiet_builtin _ (by decide +kernel), dk, codeAny_builtin entry_typeCall ?_⟩
 unfold Builtin.«type.__call__»
 dsimp only
 rw [if_neg (show ¬ ((Value.type "bytearray" == Value.type "type") = true) from by decide)]
 refine zP BaF.canCreate ?_
 refine wpAny_bind (qf BaF.typeCall (wpAny_pure ?_))
 refine wpAny_bind (qf BaF.mro (wpAny_pure ?_))
 refine zP rfl ?_
 refine wpAny_bind (qf BaF.made (wpAny_pure ?_))
 dsimp only
 refine wpAny_bind (wpAny_pure ?_)
 refine wpAny_bind (qc (qM (Yc (Xm (E := λ e s' => E e s') (Q₁ := λ obj s₁ => obj = .ref s.heap.objs.size /\ s₁ = { s with heap := s.heap.push (yi #[]) }) ⟨rfl, rfl⟩)) |> λ z => ql z ?_ λ _ _ x => x))
 rintro obj s₁ ⟨rfl, rfl⟩
 have hg : (s.heap.push (yi #[])).get? s.heap.objs.size = some (yi #[]) := EE _ rfl
 have hT : ({ s with heap := s.heap.push (yi #[]) } : Shared).TypeIs (.ref s.heap.objs.size) "bytearray" := ⟨_, hg, rfl⟩
 refine wpAny_bind (qa (wpAny_isInstance hT BaF.sub ?_))
 refine zP rfl ?_
 refine wpAny_bind (qc ?_)
 unfold callSpecial?
 refine wpAny_bind (qa (wpAny_specialOf hT BaF.slot_init.lookup ?_))
 refine qc (wpAny_bind (qf (BaF.slot_init.bind _) (wpAny_pure ?_)))
 refine wpAny_bind (BC hg λ h' hs hg' => ?_)
 refine wpAny_pure (zP rfl (wpAny_pure ?_))
 exact h h' (λ c o e => (hs.2 c (eF (eW e))).trans (Es _ e)) hg'
theorem gc {a : Addr} {b : Array UInt8} {name : Str} {id : String} {pl : Sem Bool} {Q : Value × List Value -> Shared -> Prop} (slot : Slot "bytearray" name id) (hty : typeOf (.builtin id) = pure (.type "method_descriptor")) (ho : s.heap.get? a = some (yi b)) (h : Q (.builtin id, [.ref a]) s) :
   Ec (model prog w) A (getMethod (.ref a) name pl) Q E s :=
 getMethod_builtin ⟨_, ho, rfl⟩ BaF.plain slot hty (λ c e => by cases e; exact ⟨_, ho, rfl⟩) h
end
end Mi
end
section
namespace Mi
open PySem PySem.W PyProof.Rows
theorem Hi (prog : Program) (w : World) : Ba prog w where
 new := λ h => Hg h
 len := λ ho hb h => qa (Hh ho hb h)
 bytes := λ _ ho hb h => qa (gf ho hb λ t tk => h _ t tk λ _ _ e => e)
 app := λ _ ho hb h0 h1 h => Wu ho hb h0 h1 h
 ext := λ _ ho hb h => Wt ho hb h
 getApp := λ ho h => qa (gc BaF.slot_append BaF.type_append ho h)
 getExt := λ ho h => qa (gc BaF.slot_extend BaF.type_extend ho h)
noncomputable def yv (l : List String) (n : Nat) : Str := match qj l n with | some s => Str.ofString s | none => ⟨#[n + 2000000]⟩
noncomputable def jW : Stmt -> List Stmt
 | .FunctionDef _ _ b _ _ _ _ _ _ _ => b
 | .ClassDef _ _ _ b _ _ _ _ _ _ _ => b
 | _ => []
noncomputable def qJ : Stmt -> Scope
 | .FunctionDef _ _ _ _ _ _ s _ _ _ => s
 | _ => ⟨.function, [], false, false, []⟩
noncomputable def je : Stmt -> Arguments
 | .FunctionDef _ a _ _ _ _ _ _ _ _ => a
 | _ => ⟨[], [], none, [], [], none, []⟩
noncomputable def qK (i : Nat) : Stmt := match qj PySem.Challenge.pw_tk0124_01.main.body i with | some s => s | none => .Pass ⟨0, 0, 0, 0⟩
noncomputable def qq (i j : Nat) : Stmt := match qj (jW (qK i)) j with | some s => s | none => .Pass ⟨0, 0, 0, 0⟩
noncomputable def rA : List String := ["lit", "match", "rep", "short", "near", "end", "rep0", "rep1", "rep2", "long", "letters", "slots", "special", "align", "new ", "old ", "choice", "low", "mid", "high", "new choice", "new low", "new mid", "new high", "old choice", "old low", "old mid", "old high", "step", "index", "count", "distance", "length", "octet", "props", "place", "state"]
noncomputable def As : List String := ["count", "learnt", "lc", "lp", "pb", "positions", "choice", "low", "mid", "high", "reset", "props", "is_match", "is_rep", "is_rep0", "is_rep1", "is_rep2", "is_rep0_long", "slots", "special", "align", "literals", "lengths", "rep_lengths", "position", "row", "models", "writer", "bit", "cell", "literal_start", "put_plain", "put_beside", "tree", "slot_start", "reverse", "special_start", "direct", "put_length", "put_distance", "put_index", "__init__", "place", "state", "reps", "put_literal", "check_back", "check_length", "put_match", "put", "put_rep", "use", "first", "put_short", "literal", "matched_octet", "distance_of", "match", "rep", "short", "size", "write_step", "made", "span", "cache", "held", "closed", "shift", "need_open", "fill", "end_mark", "write_within", "passed", "done"]
noncomputable def AK : List String := ["LITERAL_ROW", "LITERAL_STATES", "LENGTH_STATES", "LEAST_MATCH", "STATES", "MOST_POSITIONS", "FIRST_DIRECT", "ALIGN_BITS", "KINDS", "MOST_MATCH", "END_DISTANCE", "MOST_STEP_OCTETS", "TOTAL", "LEARN", "MOST_SPAN", "CARRY", "MAY_CARRY", "LEAST_SPAN", "MODEL_BITS", "FLUSHED", "START", "SHORT_ROW"]
noncomputable def AL : List String := ["", "", "", "after_literal", "after_match", "after_rep", "after_short", "is_after_literal", "length_state", "slot_base", "slot_of", "", "", "", "", "", "", "", "", "", "", "", "", "need_whole", "need_number", "step_length", "repeats", "octet_behind", "", "", "", "", "", "", "", "", "", "", "", "", "", "", "", "", "", "", "", "", "", "", "", "next_model", "need_bit", "need_value", "", "", "", "", "", "", "", "", "", "", "_law_urn", "_law_take", "_law_before", "_law_far", "_law_long", "_law_step", "_law_tree", "_law_mirror", "_law_letter", "_law_many", "_law_gap", "_law_bits", "_law_rows", "_law_set", "_law_write", "_law_near_right", "_law_between", "_law_behind", "_law_growth", "law", "fresh", ""]
noncomputable def AN : List String := ["Props", "LengthModels", "Models", "Reps", "StepCoder", "LzmaWriter", "RangeWriter", "Cells"]
noncomputable def bS : List Bool := [false, false, false, true, true, true, true, true, true, true, true, false, false, false, false, false, false, false, false, false, false, false, false, true, true, true, true, true, false, false, false, false, false, false, false, false, false, false, false, false, false, false, false, false, false, false, false, false, false, false, false, true, true, true, false, false, false, false, false, false, false, false, false, false, true, true, true, true, true, true, true, true, true, true, true, true, true, true, true, true, true, true, true, true, true, false]
noncomputable def ZE {α : Type} (a b : Nat) : List (Nat × Nat × α) -> Option α
 | [] => none
 | (x, y, v) :: r => bif eB a x && eB b y then some v else ZE a b r
noncomputable def Dk : List (Nat × Nat × Unit) := [(0, 2, ()), (0, 3, ()), (0, 4, ()), (1, 5, ()), (1, 6, ()), (1, 7, ()), (1, 8, ()), (1, 9, ()), (2, 11, ()), (2, 12, ()), (2, 13, ()), (2, 14, ()), (2, 15, ()), (2, 16, ()), (2, 17, ()), (2, 18, ()), (2, 19, ()), (2, 20, ()), (2, 21, ()), (2, 22, ()), (2, 23, ()), (3, 25, ()), (4, 26, ()), (4, 27, ()), (5, 42, ()), (5, 43, ()), (5, 44, ()), (5, 26, ()), (5, 27, ()), (6, 62, ()), (6, 7, ()), (6, 63, ()), (6, 64, ()), (6, 65, ()), (6, 66, ()), (7, 0, ()), (7, 1, ())]
noncomputable def QX (c a : Nat) : Bool := (ZE c a Dk).isSome
noncomputable def dB : List (Nat × Nat × Nat) := [(0, 41, 0), (0, 21, 1), (0, 24, 2), (1, 41, 11), (1, 10, 12), (2, 41, 13), (2, 10, 14), (2, 29, 15), (2, 34, 16), (2, 36, 17), (2, 30, 18), (3, 41, 19), (3, 52, 20), (3, 51, 21), (3, 49, 22), (4, 41, 28), (4, 45, 29), (4, 31, 30), (4, 32, 31), (4, 38, 32), (4, 39, 33), (4, 48, 34), (4, 40, 35), (4, 50, 36), (4, 53, 37), (5, 41, 38), (5, 45, 29), (5, 31, 30), (5, 32, 31), (5, 38, 32), (5, 39, 33), (5, 48, 34), (5, 40, 35), (5, 50, 36), (5, 53, 37), (5, 72, 39), (5, 46, 40), (5, 47, 41), (5, 54, 42), (5, 57, 43), (5, 58, 44), (5, 59, 45), (5, 70, 46), (5, 55, 47), (5, 56, 48), (5, 61, 49), (5, 71, 50), (6, 41, 54), (6, 67, 55), (6, 69, 56), (6, 68, 57), (6, 28, 58), (6, 37, 59), (6, 33, 60), (6, 35, 61), (6, 60, 62), (6, 73, 63)]
noncomputable def dA (c a : Nat) : Option Nat := ZE c a dB
noncomputable def FH : List (Nat × Nat × Nat) := [(4, 41, 28)]
noncomputable def UI (c m : Nat) : Option Nat := ZE c m FH
noncomputable def wS : List Nat := [0, 11, 13, 19, 28, 38, 54, 85]
noncomputable def dI (c : Nat) : Option (Option Nat) := match qj wS c with | some f => some (some f) | none => none
noncomputable def pX : List (Nat × Nat × Nat) := [(14, 16, 20), (14, 17, 21), (14, 18, 22), (14, 19, 23), (15, 16, 24), (15, 17, 25), (15, 18, 26), (15, 19, 27)]
noncomputable def pW (a b : Nat) : Option Nat := ZE a b pX
noncomputable def Ak : List V := [.int 768, .int 7, .int 4, .int 2, .int 12, .int 16, .int 14, .int 4, .tup [.str 0, .str 1, .str 2, .str 3], .int 273, .int 4294967296, .int 24, .int 2048, .int 5, .int 4294967295, .int 4294967296, .int 4278190080, .int 16777216, .int 11, .int 5, .int 1024, .int 64]
noncomputable def bX (g : Nat) : Option V := qj Ak g
noncomputable def Ke : S := (.seq (.forL [4, 5] false (.tup (.cons (.tup (.cons (.loc 1) (.cons (.int 8) .nil))) (.cons (.tup (.cons (.loc 2) (.cons (.int 4) .nil))) (.cons (.tup (.cons (.loc 3) (.cons (.int 4) .nil))) .nil)))) (.seq (.ite (.or (.not (.bi .isInt (.cons (.loc 4) .nil))) (.not (.cmp2 .le .le (.int 0) (.loc 4) (.loc 5)))) .fail .nop)
 .nop))
 (.seq (.sattr (.loc 0) 2 (.loc 1))
 (.seq (.sattr (.loc 0) 3 (.loc 2))
 (.seq (.sattr (.loc 0) 4 (.loc 3))
 .nop))))
noncomputable def Zg : S := (.seq (.ret (.bin .shl (.glob 0) (.bin .add (.attr (.loc 0) 2) (.attr (.loc 0) 3))))
 .nop)
noncomputable def Zf : S := (.seq (.ret (.bin .band (.loc 1) (.bin .sub (.bin .shl (.int 1) (.attr (.loc 0) 4)) (.int 1))))
 .nop)
noncomputable def ZQ : S := (.seq (.ite (.cmp .lt (.loc 0) (.int 4)) (.seq (.ret (.int 0))
 .nop) .nop)
 (.seq (.ret (.ite (.cmp .lt (.loc 0) (.int 10)) (.bin .sub (.loc 0) (.int 3)) (.bin .sub (.loc 0) (.int 6))))
 .nop))
noncomputable def Yw : S := (.seq (.ret (.ite (.cmp .lt (.loc 0) (.glob 1)) (.int 7) (.int 10)))
 .nop)
noncomputable def KZ : S := (.seq (.ret (.ite (.cmp .lt (.loc 0) (.glob 1)) (.int 8) (.int 11)))
 .nop)
noncomputable def Yv : S := (.seq (.ret (.ite (.cmp .lt (.loc 0) (.glob 1)) (.int 9) (.int 11)))
 .nop)
noncomputable def Qj : S := (.seq (.ret (.cmp .lt (.loc 0) (.glob 1)))
 .nop)
noncomputable def Jx : S := (.seq (.ret (.bi .min (.cons (.bin .sub (.loc 0) (.glob 3)) (.cons (.bin .sub (.glob 2) (.int 1)) .nil))))
 .nop)
noncomputable def KX : S := (.seq (.ite (.cmp .lt (.loc 0) (.int 4)) (.seq (.ret (.tup (.cons (.int 0) (.cons (.loc 0) .nil))))
 .nop) .nop)
 (.seq (.asg 1 (.bin .sub (.bin .shr (.loc 0) (.int 1)) (.int 1)))
 (.seq (.ret (.tup (.cons (.loc 1) (.cons (.bin .shl (.bin .bor (.int 2) (.bin .band (.loc 0) (.int 1))) (.loc 1)) .nil))))
 .nop)))
noncomputable def Vx : S := (.seq (.asg 1 (.bin .sub (.loc 0) (.int 1)))
 (.seq (.ite (.cmp .lt (.loc 1) (.int 4)) (.seq (.ret (.tup (.cons (.loc 1) (.cons (.int 0) (.cons (.loc 1) .nil)))))
 .nop) .nop)
 (.seq (.asg 2 (.bin .sub (.bm .bitlen (.loc 1) .nil) (.int 1)))
 (.seq (.asg 3 (.bin .add (.bin .mul (.int 2) (.loc 2)) (.bin .band (.bin .shr (.loc 1) (.bin .sub (.loc 2) (.int 1))) (.int 1))))
 (.seq (.asgT [.nm 4, .nm 5] (.call 9 (.cons (.loc 3) .nil)))
 (.seq (.ret (.tup (.cons (.loc 3) (.cons (.loc 4) (.cons (.loc 5) .nil)))))
 .nop))))))
noncomputable def yZ : S := (.seq (.sattr (.loc 0) 5 (.loc 1))
 (.seq (.sattr (.loc 0) 6 (.lst .nil))
 (.seq (.sattr (.loc 0) 7 (.lst .nil))
 (.seq (.sattr (.loc 0) 8 (.lst .nil))
 (.seq (.sattr (.loc 0) 9 (.lst .nil))
 (.seq (.ex (.meth (.loc 0) 10 .nil))
 .nop))))))
noncomputable def yu : S := (.seq (.sattr (.loc 0) 6 (.call 84 (.cons (.int 2) .nil)))
 (.seq (.sattr (.loc 0) 7 (.call 84 (.cons (.bin .mul (.int 8) (.attr (.loc 0) 5)) .nil)))
 (.seq (.sattr (.loc 0) 8 (.call 84 (.cons (.bin .mul (.int 8) (.attr (.loc 0) 5)) .nil)))
 (.seq (.sattr (.loc 0) 9 (.call 84 (.cons (.int 256) .nil)))
 .nop))))
noncomputable def Yx : S := (.seq (.sattr (.loc 0) 11 (.loc 1))
 (.seq (.sattr (.loc 0) 12 (.lst .nil))
 (.seq (.sattr (.loc 0) 13 (.lst .nil))
 (.seq (.sattr (.loc 0) 14 (.lst .nil))
 (.seq (.sattr (.loc 0) 15 (.lst .nil))
 (.seq (.sattr (.loc 0) 16 (.lst .nil))
 (.seq (.sattr (.loc 0) 17 (.lst .nil))
 (.seq (.sattr (.loc 0) 18 (.lst .nil))
 (.seq (.sattr (.loc 0) 19 (.lst .nil))
 (.seq (.sattr (.loc 0) 20 (.lst .nil))
 (.seq (.sattr (.loc 0) 21 (.lst .nil))
 (.seq (.sattr (.loc 0) 22 (.new 1 (.cons (.bin .shl (.int 1) (.attr (.loc 1) 4)) .nil)))
 (.seq (.sattr (.loc 0) 23 (.new 1 (.cons (.bin .shl (.int 1) (.attr (.loc 1) 4)) .nil)))
 (.seq (.ex (.meth (.loc 0) 10 .nil))
 .nop))))))))))))))
noncomputable def Jy : S := (.seq (.sattr (.loc 0) 12 (.call 84 (.cons (.bin .mul (.glob 4) (.glob 5)) .nil)))
 (.seq (.sattr (.loc 0) 13 (.call 84 (.cons (.glob 4) .nil)))
 (.seq (.sattr (.loc 0) 14 (.call 84 (.cons (.glob 4) .nil)))
 (.seq (.sattr (.loc 0) 15 (.call 84 (.cons (.glob 4) .nil)))
 (.seq (.sattr (.loc 0) 16 (.call 84 (.cons (.glob 4) .nil)))
 (.seq (.sattr (.loc 0) 17 (.call 84 (.cons (.bin .mul (.glob 4) (.glob 5)) .nil)))
 (.seq (.sattr (.loc 0) 18 (.call 84 (.cons (.bin .mul (.glob 2) (.int 64)) .nil)))
 (.seq (.sattr (.loc 0) 19 (.call 84 (.cons (.bin .sub (.bin .add (.int 1) (.int 128)) (.glob 6)) .nil)))
 (.seq (.sattr (.loc 0) 20 (.call 84 (.cons (.bin .shl (.int 1) (.glob 7)) .nil)))
 (.seq (.sattr (.loc 0) 21 (.call 84 (.cons (.meth (.attr (.loc 0) 11) 21 .nil) .nil)))
 (.seq (.ex (.meth (.attr (.loc 0) 22) 10 .nil))
 (.seq (.ex (.meth (.attr (.loc 0) 23) 10 .nil))
 .nop))))))))))))
noncomputable def Yy : S := (.seq (.ret (.bin .add (.bin .mul (.loc 1) (.glob 5)) (.meth (.attr (.loc 0) 11) 24 (.cons (.loc 2) .nil))))
 .nop)
noncomputable def yX : S := (.seq (.ret (.bin .mul (.int 64) (.call 8 (.cons (.loc 1) .nil))))
 .nop)
noncomputable def jM : S := (.seq (.asgT [.nm 2, .nm 3] (.call 9 (.cons (.loc 1) .nil)))
 (.seq (.ret (.bin .sub (.loc 3) (.loc 1)))
 .nop))
noncomputable def jN : S := (.seq (.asg 3 (.bin .shl (.bin .band (.loc 1) (.bin .sub (.bin .shl (.int 1) (.attr (.attr (.loc 0) 11) 3)) (.int 1))) (.attr (.attr (.loc 0) 11) 2)))
 (.seq (.ret (.bin .mul (.glob 0) (.bin .add (.loc 3) (.bin .shr (.loc 2) (.bin .sub (.int 8) (.attr (.attr (.loc 0) 11) 2))))))
 .nop))
noncomputable def xa : S := (.seq (.sattr (.loc 0) 25 (.bi .list (.cons (.loc 1) .nil)))
 .nop)
noncomputable def Kc : S := (.seq (.ret (.sub (.attr (.loc 0) 25) (.int 0)))
 .nop)
noncomputable def XP : S := (.seq (.asg 2 (.sub (.attr (.loc 0) 25) (.loc 1)))
 (.seq (.sattr (.loc 0) 25 (.bin .add (.bin .add (.lst (.cons (.loc 2) .nil)) (.slTo (.attr (.loc 0) 25) (.loc 1))) (.slFrom (.attr (.loc 0) 25) (.bin .add (.loc 1) (.int 1)))))
 (.seq (.ret (.loc 2))
 .nop)))
noncomputable def XQ : S := (.seq (.sattr (.loc 0) 25 (.bin .add (.lst (.cons (.loc 1) .nil)) (.slTo (.attr (.loc 0) 25) (.int 3))))
 .nop)
noncomputable def kX : S := (.seq (.ite (.or (.not (.bi .isInt (.cons (.loc 0) .nil))) (.bi .isBool (.cons (.loc 0) .nil))) .fail .nop)
 .nop)
noncomputable def Yt : S := (.seq (.ex (.call 23 (.cons (.loc 0) (.cons (.loc 3) .nil))))
 (.seq (.ite (.or (.cmp .lt (.loc 0) (.loc 1)) (.and (.cmp .isn (.loc 2) .none) (.cmp .gt (.loc 0) (.loc 2)))) .fail .nop)
 .nop))
noncomputable def Ys : S := (.seq (.ite (.or (.not (.bi .isTup (.cons (.loc 0) .nil))) (.or (.cmp .eq (.bi .len (.cons (.loc 0) .nil)) (.int 0)) (.inn true (.sub (.loc 0) (.int 0)) (.glob 8)))) .fail .nop)
 (.seq (.ite (.inn false (.sub (.loc 0) (.int 0)) (.tup (.cons (.str 0) (.cons (.str 3) .nil)))) (.seq (.ite (.cmp .ne (.bi .len (.cons (.loc 0) .nil)) (.int 1)) .fail .nop)
 (.seq (.ret (.int 1))
 .nop)) .nop)
 (.seq (.ite (.cmp .ne (.bi .len (.cons (.loc 0) .nil)) (.int 3)) .fail .nop)
 (.seq (.ex (.call 23 (.cons (.sub (.loc 0) (.int 1)) (.cons (.str 28) .nil))))
 (.seq (.ex (.call 24 (.cons (.sub (.loc 0) (.int 2)) (.cons (.glob 3) (.cons (.glob 9) (.cons (.str 28) .nil))))))
 (.seq (.ret (.sub (.loc 0) (.int 2)))
 .nop))))))
noncomputable def Vy : S := (.seq (.ite (.or (.not (.cmp2 .le .le (.int 1) (.loc 2) (.loc 1))) (.cmp .gt (.bin .add (.loc 1) (.loc 3)) (.bi .len (.cons (.loc 0) .nil)))) (.seq (.ret (.bool false))
 .nop) .nop)
 (.seq (.forR 4 (.loc 1) (.bin .add (.loc 1) (.loc 3)) (.int 1) (.seq (.ite (.cmp .ne (.sub (.loc 0) (.loc 4)) (.sub (.loc 0) (.bin .sub (.loc 4) (.loc 2)))) (.seq (.ret (.bool false))
 .nop) .nop)
 .nop))
 (.seq (.ret (.bool true))
 .nop)))
noncomputable def Jw : S := (.seq (.ite (.cmp .gt (.loc 2) (.loc 1)) .fail .nop)
 (.seq (.ret (.sub (.loc 0) (.bin .sub (.loc 1) (.loc 2))))
 .nop))
noncomputable def Ze : S := (.seq (.sattr (.loc 0) 26 (.loc 1))
 (.seq (.sattr (.loc 0) 27 (.loc 2))
 .nop))
noncomputable def jv : S := (.seq (.ex (.meth (.attr (.loc 0) 27) 28 (.cons (.attr (.attr (.loc 0) 26) 12) (.cons (.meth (.attr (.loc 0) 26) 29 (.cons (.loc 1) (.cons (.loc 2) .nil))) (.cons (.int 0) .nil)))))
 (.seq (.asg 6 (.meth (.attr (.loc 0) 26) 30 (.cons (.loc 2) (.cons (.loc 3) .nil))))
 (.seq (.ite (.call 7 (.cons (.loc 1) .nil)) (.seq (.ex (.meth (.loc 0) 31 (.cons (.loc 6) (.cons (.int 1) (.cons (.loc 4) (.cons (.int 8) .nil))))))
 .nop) (.seq (.ex (.meth (.loc 0) 32 (.cons (.loc 6) (.cons (.loc 4) (.cons (.loc 5) .nil)))))
 .nop))
 .nop)))
noncomputable def yc : S := (.seq (.forR 5 (.bin .sub (.loc 4) (.int 1)) (.int (-1)) (.int (-1)) (.seq (.asg 6 (.bin .band (.bin .shr (.loc 3) (.loc 5)) (.int 1)))
 (.seq (.ex (.meth (.attr (.loc 0) 27) 28 (.cons (.attr (.attr (.loc 0) 26) 21) (.cons (.bin .add (.loc 1) (.loc 2)) (.cons (.loc 6) .nil)))))
 (.seq (.asg 2 (.bin .add (.bin .mul (.int 2) (.loc 2)) (.loc 6)))
 .nop))))
 .nop)
noncomputable def jL : S := (.seq (.asg 4 (.int 1))
 (.seq (.forR 5 (.int 7) (.int (-1)) (.int (-1)) (.seq (.asg 6 (.bin .band (.bin .shr (.loc 3) (.loc 5)) (.int 1)))
 (.seq (.asg 7 (.bin .band (.bin .shr (.loc 2) (.loc 5)) (.int 1)))
 (.seq (.ex (.meth (.attr (.loc 0) 27) 28 (.cons (.attr (.attr (.loc 0) 26) 21) (.cons (.bin .add (.bin .add (.loc 1) (.bin .shl (.bin .add (.int 1) (.loc 6)) (.int 8))) (.loc 4)) (.cons (.loc 7) .nil)))))
 (.seq (.asg 4 (.bin .add (.bin .mul (.int 2) (.loc 4)) (.loc 7)))
 (.seq (.ite (.cmp .ne (.loc 7) (.loc 6)) (.seq (.ex (.meth (.loc 0) 31 (.cons (.loc 1) (.cons (.loc 4) (.cons (.loc 2) (.cons (.loc 5) .nil))))))
 (.seq (.ret .none)
 .nop)) .nop)
 .nop))))))
 .nop))
noncomputable def jK : S := (.seq (.asg 4 (.bin .sub (.loc 3) (.glob 3)))
 (.seq (.asg 5 (.bin .mul (.int 8) (.meth (.attr (.attr (.loc 0) 26) 11) 24 (.cons (.loc 2) .nil))))
 (.seq (.ite (.cmp .lt (.loc 4) (.int 8)) (.seq (.ex (.meth (.attr (.loc 0) 27) 28 (.cons (.attr (.loc 1) 6) (.cons (.int 0) (.cons (.int 0) .nil)))))
 (.seq (.ex (.meth (.attr (.loc 0) 27) 33 (.cons (.attr (.loc 1) 7) (.cons (.loc 5) (.cons (.int 3) (.cons (.loc 4) .nil))))))
 (.seq (.ret .none)
 .nop))) .nop)
 (.seq (.ex (.meth (.attr (.loc 0) 27) 28 (.cons (.attr (.loc 1) 6) (.cons (.int 0) (.cons (.int 1) .nil)))))
 (.seq (.ite (.cmp .lt (.loc 4) (.int 16)) (.seq (.ex (.meth (.attr (.loc 0) 27) 28 (.cons (.attr (.loc 1) 6) (.cons (.int 1) (.cons (.int 0) .nil)))))
 (.seq (.ex (.meth (.attr (.loc 0) 27) 33 (.cons (.attr (.loc 1) 8) (.cons (.loc 5) (.cons (.int 3) (.cons (.bin .sub (.loc 4) (.int 8)) .nil))))))
 (.seq (.ret .none)
 .nop))) .nop)
 (.seq (.ex (.meth (.attr (.loc 0) 27) 28 (.cons (.attr (.loc 1) 6) (.cons (.int 1) (.cons (.int 1) .nil)))))
 (.seq (.ex (.meth (.attr (.loc 0) 27) 33 (.cons (.attr (.loc 1) 9) (.cons (.int 0) (.cons (.int 8) (.cons (.bin .sub (.loc 4) (.int 16)) .nil))))))
 .nop)))))))
noncomputable def jq : S := (.seq (.asgT [.nm 3, .nm 4, .nm 5] (.call 10 (.cons (.loc 1) .nil)))
 (.seq (.ex (.meth (.attr (.loc 0) 27) 33 (.cons (.attr (.attr (.loc 0) 26) 18) (.cons (.meth (.attr (.loc 0) 26) 34 (.cons (.loc 2) .nil)) (.cons (.int 6) (.cons (.loc 3) .nil))))))
 (.seq (.ite (.cmp .eq (.loc 4) (.int 0)) (.seq (.ret .none)
 .nop) .nop)
 (.seq (.asg 6 (.bin .sub (.bin .sub (.loc 1) (.int 1)) (.loc 5)))
 (.seq (.ite (.cmp .lt (.loc 3) (.glob 6)) (.seq (.ex (.meth (.attr (.loc 0) 27) 35 (.cons (.attr (.attr (.loc 0) 26) 19) (.cons (.meth (.attr (.loc 0) 26) 36 (.cons (.loc 3) .nil)) (.cons (.loc 4) (.cons (.loc 6) .nil))))))
 (.seq (.ret .none)
 .nop)) .nop)
 (.seq (.ex (.meth (.attr (.loc 0) 27) 37 (.cons (.bin .sub (.loc 4) (.glob 7)) (.cons (.bin .shr (.loc 6) (.glob 7)) .nil))))
 (.seq (.ex (.meth (.attr (.loc 0) 27) 35 (.cons (.attr (.attr (.loc 0) 26) 20) (.cons (.int 0) (.cons (.glob 7) (.cons (.bin .band (.loc 6) (.bin .sub (.bin .shl (.int 1) (.glob 7)) (.int 1))) .nil))))))
 .nop)))))))
noncomputable def yd : S := (.seq (.ex (.meth (.attr (.loc 0) 27) 28 (.cons (.attr (.attr (.loc 0) 26) 12) (.cons (.meth (.attr (.loc 0) 26) 29 (.cons (.loc 1) (.cons (.loc 2) .nil))) (.cons (.int 1) .nil)))))
 (.seq (.ex (.meth (.attr (.loc 0) 27) 28 (.cons (.attr (.attr (.loc 0) 26) 13) (.cons (.loc 1) (.cons (.int 0) .nil)))))
 (.seq (.ex (.meth (.loc 0) 38 (.cons (.attr (.attr (.loc 0) 26) 22) (.cons (.loc 2) (.cons (.loc 4) .nil)))))
 (.seq (.ex (.meth (.loc 0) 39 (.cons (.loc 3) (.cons (.loc 4) .nil))))
 .nop))))
noncomputable def ye : S := (.seq (.ite (.cmp .eq (.loc 3) (.int 0)) (.seq (.ex (.meth (.attr (.loc 0) 27) 28 (.cons (.attr (.attr (.loc 0) 26) 14) (.cons (.loc 1) (.cons (.int 0) .nil)))))
 (.seq (.ex (.meth (.attr (.loc 0) 27) 28 (.cons (.attr (.attr (.loc 0) 26) 17) (.cons (.meth (.attr (.loc 0) 26) 29 (.cons (.loc 1) (.cons (.loc 2) .nil))) (.cons (.int 1) .nil)))))
 (.seq (.ret .none)
 .nop))) .nop)
 (.seq (.ex (.meth (.attr (.loc 0) 27) 28 (.cons (.attr (.attr (.loc 0) 26) 14) (.cons (.loc 1) (.cons (.int 1) .nil)))))
 (.seq (.ite (.cmp .eq (.loc 3) (.int 1)) (.seq (.ex (.meth (.attr (.loc 0) 27) 28 (.cons (.attr (.attr (.loc 0) 26) 15) (.cons (.loc 1) (.cons (.int 0) .nil)))))
 (.seq (.ret .none)
 .nop)) .nop)
 (.seq (.ex (.meth (.attr (.loc 0) 27) 28 (.cons (.attr (.attr (.loc 0) 26) 15) (.cons (.loc 1) (.cons (.int 1) .nil)))))
 (.seq (.ex (.meth (.attr (.loc 0) 27) 28 (.cons (.attr (.attr (.loc 0) 26) 16) (.cons (.loc 1) (.cons (.bin .sub (.loc 3) (.int 2)) .nil)))))
 .nop)))))
noncomputable def yV : S := (.seq (.ex (.call 24 (.cons (.loc 3) (.cons (.int 0) (.cons (.int 3) (.cons (.str 29) .nil))))))
 (.seq (.ex (.meth (.attr (.loc 0) 27) 28 (.cons (.attr (.attr (.loc 0) 26) 12) (.cons (.meth (.attr (.loc 0) 26) 29 (.cons (.loc 1) (.cons (.loc 2) .nil))) (.cons (.int 1) .nil)))))
 (.seq (.ex (.meth (.attr (.loc 0) 27) 28 (.cons (.attr (.attr (.loc 0) 26) 13) (.cons (.loc 1) (.cons (.int 1) .nil)))))
 (.seq (.ex (.meth (.loc 0) 40 (.cons (.loc 1) (.cons (.loc 2) (.cons (.loc 3) .nil)))))
 (.seq (.ex (.meth (.loc 0) 38 (.cons (.attr (.attr (.loc 0) 26) 23) (.cons (.loc 2) (.cons (.loc 4) .nil)))))
 .nop)))))
noncomputable def yb : S := (.seq (.ex (.meth (.attr (.loc 0) 27) 28 (.cons (.attr (.attr (.loc 0) 26) 12) (.cons (.meth (.attr (.loc 0) 26) 29 (.cons (.loc 1) (.cons (.loc 2) .nil))) (.cons (.int 1) .nil)))))
 (.seq (.ex (.meth (.attr (.loc 0) 27) 28 (.cons (.attr (.attr (.loc 0) 26) 13) (.cons (.loc 1) (.cons (.int 1) .nil)))))
 (.seq (.ex (.meth (.attr (.loc 0) 27) 28 (.cons (.attr (.attr (.loc 0) 26) 14) (.cons (.loc 1) (.cons (.int 0) .nil)))))
 (.seq (.ex (.meth (.attr (.loc 0) 27) 28 (.cons (.attr (.attr (.loc 0) 26) 17) (.cons (.meth (.attr (.loc 0) 26) 29 (.cons (.loc 1) (.cons (.loc 2) .nil))) (.cons (.int 0) .nil)))))
 .nop))))
noncomputable def QK : S := (.seq (.ex (.cmeth 4 41 (.cons (.loc 0) (.cons (.loc 1) (.cons (.loc 2) .nil)))))
 (.seq (.sattr (.loc 0) 42 (.int 0))
 (.seq (.sattr (.loc 0) 43 (.int 0))
 (.seq (.sattr (.loc 0) 44 (.new 3 .nil))
 .nop))))
noncomputable def yY : S := (.seq (.ex (.call 24 (.cons (.loc 1) (.cons (.int 0) (.cons .none (.cons (.str 30) .nil))))))
 (.seq (.aug .add (.loc 0) 42 (.loc 1))
 .nop))
noncomputable def jz : S := (.seq (.ex (.call 23 (.cons (.loc 1) (.cons (.str 31) .nil))))
 (.seq (.ite (.not (.cmp2 .le .le (.int 1) (.loc 1) (.attr (.loc 0) 42))) .fail .nop)
 .nop))
noncomputable def jg : S := (.seq (.ex (.call 24 (.cons (.loc 1) (.cons (.glob 3) (.cons (.glob 9) (.cons (.str 32) .nil))))))
 .nop)
noncomputable def yt : S := (.seq (.forL [4] true (.tup (.cons (.loc 1) (.cons (.loc 2) (.cons (.loc 3) .nil)))) (.seq (.ex (.call 24 (.cons (.loc 4) (.cons (.int 0) (.cons (.int 255) (.cons (.str 33) .nil))))))
 .nop))
 (.seq (.ex (.meth (.loc 0) 45 (.cons (.attr (.loc 0) 43) (.cons (.attr (.loc 0) 42) (.cons (.loc 2) (.cons (.loc 1) (.cons (.loc 3) .nil)))))))
 (.seq (.sattr (.loc 0) 43 (.call 3 (.cons (.attr (.loc 0) 43) .nil)))
 (.seq (.aug .add (.loc 0) 42 (.int 1))
 .nop))))
noncomputable def Qq : S := (.seq (.ex (.meth (.loc 0) 46 (.cons (.loc 1) .nil)))
 (.seq (.ex (.meth (.loc 0) 47 (.cons (.loc 2) .nil)))
 (.seq (.ex (.meth (.loc 0) 48 (.cons (.attr (.loc 0) 43) (.cons (.attr (.loc 0) 42) (.cons (.loc 1) (.cons (.loc 2) .nil))))))
 (.seq (.ex (.meth (.attr (.loc 0) 44) 49 (.cons (.loc 1) .nil)))
 (.seq (.sattr (.loc 0) 43 (.call 4 (.cons (.attr (.loc 0) 43) .nil)))
 (.seq (.aug .add (.loc 0) 42 (.loc 2))
 .nop))))))
noncomputable def Zh : S := (.seq (.ex (.call 24 (.cons (.loc 1) (.cons (.int 0) (.cons (.int 3) (.cons (.str 29) .nil))))))
 (.seq (.ex (.meth (.loc 0) 46 (.cons (.sub (.attr (.attr (.loc 0) 44) 25) (.loc 1)) .nil)))
 (.seq (.ex (.meth (.loc 0) 47 (.cons (.loc 2) .nil)))
 (.seq (.ex (.meth (.loc 0) 50 (.cons (.attr (.loc 0) 43) (.cons (.attr (.loc 0) 42) (.cons (.loc 1) (.cons (.loc 2) .nil))))))
 (.seq (.ex (.meth (.attr (.loc 0) 44) 51 (.cons (.loc 1) .nil)))
 (.seq (.sattr (.loc 0) 43 (.call 5 (.cons (.attr (.loc 0) 43) .nil)))
 (.seq (.aug .add (.loc 0) 42 (.loc 2))
 .nop)))))))
noncomputable def Qp : S := (.seq (.ex (.meth (.loc 0) 46 (.cons (.meth (.attr (.loc 0) 44) 52 .nil) .nil)))
 (.seq (.ex (.meth (.loc 0) 53 (.cons (.attr (.loc 0) 43) (.cons (.attr (.loc 0) 42) .nil))))
 (.seq (.sattr (.loc 0) 43 (.call 6 (.cons (.attr (.loc 0) 43) .nil)))
 (.seq (.aug .add (.loc 0) 42 (.int 1))
 .nop))))
noncomputable def yg : S := (.seq (.ex (.meth (.loc 0) 48 (.cons (.attr (.loc 0) 43) (.cons (.attr (.loc 0) 42) (.cons (.glob 10) (.cons (.glob 3) .nil))))))
 (.seq (.sattr (.loc 0) 43 (.call 4 (.cons (.attr (.loc 0) 43) .nil)))
 .nop))
noncomputable def zX : S := (.seq (.ret (.ite (.call 7 (.cons (.attr (.loc 0) 43) .nil)) (.int 0) (.call 27 (.cons (.loc 1) (.cons (.loc 2) (.cons (.meth (.attr (.loc 0) 44) 52 .nil) .nil))))))
 .nop)
noncomputable def jr : S := (.seq (.ite (.cmp .eq (.sub (.loc 1) (.int 0)) (.str 1)) (.seq (.ret (.sub (.loc 1) (.int 1)))
 .nop) .nop)
 (.seq (.ite (.cmp .eq (.sub (.loc 1) (.int 0)) (.str 2)) (.seq (.ex (.call 24 (.cons (.sub (.loc 1) (.int 1)) (.cons (.int 0) (.cons (.int 3) (.cons (.str 29) .nil))))))
 (.seq (.ret (.sub (.attr (.attr (.loc 0) 44) 25) (.sub (.loc 1) (.int 1))))
 .nop)) .nop)
 (.seq (.ret (.meth (.attr (.loc 0) 44) 52 .nil))
 .nop)))
noncomputable def jy : S := (.seq (.asg 4 (.call 25 (.cons (.loc 1) .nil)))
 (.seq (.ite (.cmp .gt (.bin .add (.loc 3) (.loc 4)) (.bi .len (.cons (.loc 2) .nil))) .fail .nop)
 (.seq (.ite (.cmp .eq (.sub (.loc 1) (.int 0)) (.str 0)) (.seq (.asg 6 (.ite (.cmp .gt (.attr (.loc 0) 42) (.int 0)) (.call 27 (.cons (.loc 2) (.cons (.loc 3) (.cons (.int 1) .nil)))) (.int 0)))
 (.seq (.ex (.meth (.loc 0) 54 (.cons (.sub (.loc 2) (.loc 3)) (.cons (.loc 6) (.cons (.meth (.loc 0) 55 (.cons (.loc 2) (.cons (.loc 3) .nil))) .nil)))))
 (.seq (.ret (.bin .add (.loc 3) (.int 1)))
 .nop))) .nop)
 (.seq (.asg 5 (.meth (.loc 0) 56 (.cons (.loc 1) .nil)))
 (.seq (.ex (.meth (.loc 0) 46 (.cons (.loc 5) .nil)))
 (.seq (.ite (.not (.call 26 (.cons (.loc 2) (.cons (.loc 3) (.cons (.loc 5) (.cons (.loc 4) .nil)))))) .fail .nop)
 (.seq (.ite (.cmp .eq (.sub (.loc 1) (.int 0)) (.str 1)) (.seq (.ex (.meth (.loc 0) 57 (.cons (.loc 5) (.cons (.loc 4) .nil))))
 .nop) (.seq (.ite (.cmp .eq (.sub (.loc 1) (.int 0)) (.str 2)) (.seq (.ex (.meth (.loc 0) 58 (.cons (.sub (.loc 1) (.int 1)) (.cons (.loc 4) .nil))))
 .nop) (.seq (.ex (.meth (.loc 0) 59 .nil))
 .nop))
 .nop))
 (.seq (.ret (.bin .add (.loc 3) (.loc 4)))
 .nop))))))))
noncomputable def jf : S := (.seq (.asg 6 (.loc 3))
 (.seq (.forE 7 8 (.loc 1) (.seq (.ite (.or (.cmp .gt (.bin .sub (.bin .add (.loc 6) (.call 25 (.cons (.loc 8) .nil))) (.loc 3)) (.loc 4)) (.cmp .gt (.bin .add (.meth (.attr (.loc 0) 27) 60 .nil) (.glob 11)) (.loc 5))) (.seq (.ret (.tup (.cons (.loc 7) (.cons (.loc 6) .nil))))
 .nop) .nop)
 (.seq (.asg 6 (.meth (.loc 0) 61 (.cons (.loc 8) (.cons (.loc 2) (.cons (.loc 6) .nil)))))
 .nop)))
 (.seq (.ret (.tup (.cons (.bi .len (.cons (.loc 1) .nil)) (.cons (.loc 6) .nil))))
 .nop)))
noncomputable def kW : S := (.seq (.ite (.cmp .eq (.loc 1) (.int 0)) (.seq (.ret (.bin .add (.loc 0) (.bin .shr (.bin .sub (.glob 12) (.loc 0)) (.glob 13))))
 .nop) .nop)
 (.seq (.ret (.bin .sub (.loc 0) (.bin .shr (.loc 0) (.glob 13))))
 .nop))
noncomputable def XH : S := (.seq (.ite (.inn true (.loc 0) (.tup (.cons (.int 0) (.cons (.int 1) .nil)))) .fail .nop)
 .nop)
noncomputable def kY : S := (.seq (.ite (.or (.cmp .lt (.loc 1) (.int 0)) (.not (.cmp2 .le .lt (.int 0) (.loc 0) (.bin .shl (.int 1) (.loc 1))))) .fail .nop)
 .nop)
noncomputable def Qm : S := (.seq (.sattr (.loc 0) 62 (.bi .bytearray .nil))
 (.seq (.sattr (.loc 0) 7 (.int 0))
 (.seq (.sattr (.loc 0) 63 (.glob 14))
 (.seq (.sattr (.loc 0) 64 (.int 0))
 (.seq (.sattr (.loc 0) 65 (.int 1))
 (.seq (.sattr (.loc 0) 66 (.bool false))
 .nop))))))
noncomputable def yW : S := (.seq (.ite (.or (.cmp .lt (.attr (.loc 0) 7) (.glob 16)) (.cmp .ge (.attr (.loc 0) 7) (.glob 15))) (.seq (.asg 1 (.bin .shr (.attr (.loc 0) 7) (.int 32)))
 (.seq (.ex (.bm .append (.attr (.loc 0) 62) (.cons (.bin .band (.bin .add (.attr (.loc 0) 64) (.loc 1)) (.int 255)) .nil)))
 (.seq (.ex (.bm .extend (.attr (.loc 0) 62) (.cons (.bin .mul (.bi .bytes (.cons (.lst (.cons (.bin .band (.bin .add (.int 255) (.loc 1)) (.int 255)) .nil)) .nil)) (.bin .sub (.attr (.loc 0) 65) (.int 1))) .nil)))
 (.seq (.sattr (.loc 0) 64 (.bin .band (.bin .shr (.attr (.loc 0) 7) (.int 24)) (.int 255)))
 (.seq (.sattr (.loc 0) 65 (.int 0))
 .nop))))) .nop)
 (.seq (.aug .add (.loc 0) 65 (.int 1))
 (.seq (.sattr (.loc 0) 7 (.bin .shl (.bin .band (.attr (.loc 0) 7) (.bin .sub (.glob 17) (.int 1))) (.int 8)))
 .nop)))
noncomputable def Qn : S := (.seq (.ite (.cmp .lt (.attr (.loc 0) 63) (.glob 17)) (.seq (.aug .shl (.loc 0) 63 (.int 8))
 (.seq (.ex (.meth (.loc 0) 67 .nil))
 .nop)) .nop)
 .nop)
noncomputable def jw : S := (.seq (.ite (.attr (.loc 0) 66) .fail .nop)
 .nop)
noncomputable def QJ : S := (.seq (.ex (.call 52 (.cons (.loc 3) .nil)))
 (.seq (.ex (.meth (.loc 0) 68 .nil))
 (.seq (.asg 4 (.sub (.loc 1) (.loc 2)))
 (.seq (.asg 5 (.bin .mul (.bin .shr (.attr (.loc 0) 63) (.glob 18)) (.loc 4)))
 (.seq (.ite (.cmp .eq (.loc 3) (.int 0)) (.seq (.sattr (.loc 0) 63 (.loc 5))
 .nop) (.seq (.aug .add (.loc 0) 7 (.loc 5))
 (.seq (.aug .sub (.loc 0) 63 (.loc 5))
 .nop)))
 (.seq (.ssub (.loc 1) (.loc 2) (.call 51 (.cons (.loc 4) (.cons (.loc 3) .nil))))
 (.seq (.ex (.meth (.loc 0) 69 .nil))
 .nop)))))))
noncomputable def yq : S := (.seq (.ex (.call 53 (.cons (.loc 2) (.cons (.loc 1) .nil))))
 (.seq (.ex (.meth (.loc 0) 68 .nil))
 (.seq (.forR 3 (.bin .sub (.loc 1) (.int 1)) (.int (-1)) (.int (-1)) (.seq (.aug .shr (.loc 0) 63 (.int 1))
 (.seq (.ite (.cmp .eq (.bin .band (.bin .shr (.loc 2) (.loc 3)) (.int 1)) (.int 1)) (.seq (.aug .add (.loc 0) 7 (.attr (.loc 0) 63))
 .nop) .nop)
 (.seq (.ex (.meth (.loc 0) 69 .nil))
 .nop))))
 .nop)))
noncomputable def Qk : S := (.seq (.ex (.call 53 (.cons (.loc 4) (.cons (.loc 3) .nil))))
 (.seq (.asg 5 (.int 1))
 (.seq (.forR 6 (.bin .sub (.loc 3) (.int 1)) (.int (-1)) (.int (-1)) (.seq (.asg 7 (.bin .band (.bin .shr (.loc 4) (.loc 6)) (.int 1)))
 (.seq (.ex (.meth (.loc 0) 28 (.cons (.loc 1) (.cons (.bin .add (.loc 2) (.loc 5)) (.cons (.loc 7) .nil)))))
 (.seq (.asg 5 (.bin .bor (.bin .shl (.loc 5) (.int 1)) (.loc 7)))
 .nop))))
 .nop)))
noncomputable def yf : S := (.seq (.ex (.call 53 (.cons (.loc 4) (.cons (.loc 3) .nil))))
 (.seq (.asg 5 (.int 1))
 (.seq (.forR 6 (.int 0) (.loc 3) (.int 1) (.seq (.asg 7 (.bin .band (.bin .shr (.loc 4) (.loc 6)) (.int 1)))
 (.seq (.ex (.meth (.loc 0) 28 (.cons (.loc 1) (.cons (.bin .add (.loc 2) (.loc 5)) (.cons (.loc 7) .nil)))))
 (.seq (.asg 5 (.bin .bor (.bin .shl (.loc 5) (.int 1)) (.loc 7)))
 .nop))))
 .nop)))
noncomputable def Ql : S := (.seq (.ret (.bin .add (.bi .len (.cons (.attr (.loc 0) 62) .nil)) (.ite (.attr (.loc 0) 66) (.int 0) (.bin .sub (.bin .add (.attr (.loc 0) 65) (.glob 19)) (.int 1)))))
 .nop)
noncomputable def Qo : S := (.seq (.ite (.not (.attr (.loc 0) 66)) (.seq (.forR 1 (.int 0) (.glob 19) (.int 1) (.seq (.ex (.meth (.loc 0) 67 .nil))
 .nop))
 (.seq (.sattr (.loc 0) 66 (.bool true))
 .nop)) .nop)
 (.seq (.ret (.bi .bytes (.cons (.attr (.loc 0) 62) .nil)))
 .nop))
noncomputable def Vz : S := (.seq (.asgT [.nm 1, .nm 2] (.tup (.cons (.int 0) (.cons (.int 134) .nil))))
 (.seq (.forL [3] true (.slTo (.loc 0) (.int 63)) (.seq (.ite (.cmp .ge (.loc 3) (.bin .pow (.int 10) (.int 18))) (.seq (.asg 1 (.bin .mod (.bin .sub (.bin .add (.loc 1) (.loc 3)) (.bin .pow (.int 10) (.int 18))) (.bin .pow (.int 10) (.int 120))))
 .nop) (.seq (.asg 2 (.bin .mod (.bin .add (.bin .add (.bin .mul (.loc 2) (.int 48271)) (.bin .mul (.int 69621) (.bin .add (.bin .mul (.int 2) (.bi .abs (.cons (.loc 3) .nil))) (.bi .int (.cons (.cmp .lt (.loc 3) (.int 0)) .nil))))) (.int 29)) (.int 999983)))
 .nop))
 .nop))
 (.seq (.ret (.lstH (.cons (.loc 1) (.cons (.loc 2) (.cons (.int 0) .nil)))))
 .nop)))
noncomputable def XJ : S := (.seq (.ite (.cmp .gt (.sub (.loc 0) (.int 0)) (.int 0)) (.seq (.asg 2 (.bin .mod (.sub (.loc 0) (.int 0)) (.loc 1)))
 (.seq (.ssub (.loc 0) (.int 0) (.bin .div (.sub (.loc 0) (.int 0)) (.loc 1)))
 (.seq (.ret (.loc 2))
 .nop))) .nop)
 (.seq (.ssub (.loc 0) (.int 2) (.bin .add (.sub (.loc 0) (.int 2)) (.int 1)))
 (.seq (.ret (.bin .mod (.bin .div (.bin .mod (.bin .add (.bin .add (.bin .mul (.sub (.loc 0) (.int 1)) (.bin .add (.bin .mul (.int 2) (.sub (.loc 0) (.int 2))) (.int 1))) (.bin .mul (.bin .mul (.int 13) (.sub (.loc 0) (.int 2))) (.sub (.loc 0) (.int 2)))) (.int 7)) (.int 999983)) (.int 7)) (.loc 1)))
 .nop)))
noncomputable def QH : S := (.seq (.asg 2 (.call 65 (.cons (.loc 0) (.cons (.int 2) .nil))))
 (.seq (.ex (.meth (.loc 1) 28 (.cons (.rowH (.cons (.bin .add (.int 31) (.call 65 (.cons (.loc 0) (.cons (.int 1987) .nil)))) .nil)) (.cons (.int 0) (.cons (.loc 2) .nil)))))
 (.seq (.asg 3 (.sub (.lst (.cons (.int 0) (.cons (.int 24) (.cons (.bin .add (.int 1) (.call 65 (.cons (.loc 0) (.cons (.int 12) .nil)))) .nil)))) (.call 65 (.cons (.loc 0) (.cons (.int 3) .nil)))))
 (.seq (.ex (.meth (.loc 1) 37 (.cons (.loc 3) (.cons (.bin .sub (.bin .sub (.bin .pow (.int 2) (.loc 3)) (.int 1)) (.call 65 (.cons (.loc 0) (.cons (.bin .pow (.int 2) (.bi .min (.cons (.loc 3) (.cons (.int 8) .nil)))) .nil)))) .nil))))
 .nop))))
noncomputable def VD : S := (.seq (.asg 1 (.call 65 (.cons (.loc 0) (.cons (.int 6) .nil))))
 (.seq (.asg 2 (.bin .add (.sub (.lst (.cons (.int 62) (.cons (.int 63) (.cons (.int 62) (.cons (.int 63) (.cons (.int 14) (.cons (.int 0) .nil))))))) (.loc 1)) (.call 65 (.cons (.loc 0) (.cons (.sub (.lst (.cons (.int 1) (.cons (.int 1) (.cons (.int 1) (.cons (.int 1) (.cons (.int 50) (.cons (.int 14) .nil))))))) (.loc 1)) .nil)))))
 (.seq (.asg 3 (.bi .max (.cons (.int 0) (.cons (.bin .sub (.bin .div (.loc 2) (.int 2)) (.int 1)) .nil))))
 (.seq (.asgR [.nm 4, .nm 5] (.tup (.cons (.ite (.cmp .lt (.loc 2) (.int 4)) (.loc 2) (.bin .mul (.bin .add (.int 2) (.bin .mod (.loc 2) (.int 2))) (.bin .pow (.int 2) (.loc 3)))) (.cons (.call 65 (.cons (.loc 0) (.cons (.bin .pow (.int 2) (.loc 3)) .nil))) .nil))))
 (.seq (.ret (.bi .min (.cons (.bin .sub (.bin .pow (.int 2) (.int 32)) (.int 1)) (.cons (.bin .add (.bin .add (.loc 4) (.int 1)) (.sub (.lst (.cons (.loc 5) (.cons (.bin .sub (.bin .sub (.bin .pow (.int 2) (.loc 3)) (.int 1)) (.loc 5)) .nil))) (.call 65 (.cons (.loc 0) (.cons (.int 2) .nil))))) .nil))))
 .nop)))))
noncomputable def XN : S := (.seq (.asg 1 (.call 65 (.cons (.loc 0) (.cons (.int 6) .nil))))
 (.seq (.ret (.bin .add (.sub (.lst (.cons (.int 2) (.cons (.int 10) (.cons (.int 258) (.cons (.int 258) (.cons (.int 18) (.cons (.int 18) .nil))))))) (.loc 1)) (.call 65 (.cons (.loc 0) (.cons (.sub (.lst (.cons (.int 8) (.cons (.int 8) (.cons (.int 16) (.cons (.int 16) (.cons (.int 256) (.cons (.int 256) .nil))))))) (.loc 1)) .nil)))))
 .nop))
noncomputable def XK : S := (.seq (.ite (.cmp .eq (.loc 1) (.str 1)) (.seq (.asg 2 (.call 67 (.cons (.loc 0) .nil)))
 (.seq (.ret (.tup (.cons (.loc 1) (.cons (.loc 2) (.cons (.call 68 (.cons (.loc 0) .nil)) .nil)))))
 .nop)) .nop)
 (.seq (.ite (.cmp .eq (.loc 1) (.str 4)) (.seq (.asgR [.nm 2, .nm 3] (.tup (.cons (.bin .add (.int 1) (.call 65 (.cons (.loc 0) (.cons (.int 9) .nil)))) (.cons (.bin .add (.int 2) (.call 65 (.cons (.loc 0) (.cons (.int 39) .nil)))) .nil))))
 (.seq (.ret (.tup (.cons (.loc 1) (.cons (.loc 2) (.cons (.loc 3) (.cons (.call 65 (.cons (.loc 0) (.cons (.int 41) .nil))) .nil))))))
 .nop)) .nop)
 (.seq (.ite (.cmp .eq (.loc 1) (.str 2)) (.seq (.asg 4 (.call 65 (.cons (.loc 0) (.cons (.int 4) .nil))))
 (.seq (.ret (.tup (.cons (.loc 1) (.cons (.loc 4) (.cons (.call 68 (.cons (.loc 0) .nil)) .nil)))))
 .nop)) .nop)
 (.seq (.ite (.cmp .eq (.loc 1) (.str 0)) (.seq (.asgR [.nm 5, .nm 6] (.tup (.cons (.call 65 (.cons (.loc 0) (.cons (.int 256) .nil))) (.cons (.call 65 (.cons (.loc 0) (.cons (.int 256) .nil))) .nil))))
 (.seq (.asg 7 (.sub (.lst (.cons (.loc 5) (.cons (.bin .bxor (.loc 5) (.bin .shl (.int 1) (.call 65 (.cons (.loc 0) (.cons (.int 8) .nil))))) (.cons (.call 65 (.cons (.loc 0) (.cons (.int 256) .nil))) .nil)))) (.call 65 (.cons (.loc 0) (.cons (.int 3) .nil)))))
 (.seq (.ret (.tup (.cons (.loc 1) (.cons (.loc 5) (.cons (.loc 6) (.cons (.loc 7) .nil))))))
 .nop))) .nop)
 (.seq (.ret (.ite (.cmp .eq (.loc 1) (.str 5)) (.tup (.cons (.loc 1) (.cons (.bin .pow (.int 2) (.int 32)) (.cons (.int 2) .nil)))) (.tup (.cons (.loc 1) .nil))))
 .nop)))))
noncomputable def XI : S := (.seq (.asg 4 (.bin .add (.bin .pow (.int 2) (.loc 2)) (.loc 3)))
 (.seq (.ret (.compR 5 (.loc 2) (.int 0) (.int (-1)) (.tup (.cons (.loc 0) (.cons (.bin .add (.loc 1) (.bin .div (.loc 4) (.bin .pow (.int 2) (.loc 5)))) (.cons (.bin .mod (.bin .div (.loc 4) (.bin .pow (.int 2) (.bin .sub (.loc 5) (.int 1)))) (.int 2)) .nil))))))
 .nop))
noncomputable def kZ : S := (.seq (.ret (.bi .sum (.cons (.compR 2 (.int 0) (.loc 1) (.int 1) (.bin .mul (.bin .mod (.bin .div (.loc 0) (.bin .pow (.int 2) (.loc 2))) (.int 2)) (.bin .pow (.int 2) (.bin .sub (.bin .sub (.loc 1) (.int 1)) (.loc 2))))) .nil)))
 .nop)
noncomputable def Ka : S := (.seq (.own 3 .nil)
 (.seq (.forL [4, 5, 6] false (.call 70 (.cons (.str 10) (.cons (.loc 0) (.cons (.int 8) (.cons (.loc 1) .nil))))) (.seq (.asgR [.nm 7, .nm 8] (.tup (.cons (.bin .sub (.int 7) (.lenOwn 3)) (.cons (.int 0) .nil))))
 (.seq (.ite (.and (.cmp .ge (.loc 2) (.int 0)) (.cmp .eq (.bin .div (.loc 1) (.bin .pow (.int 2) (.bin .add (.loc 7) (.int 1)))) (.bin .div (.loc 2) (.bin .pow (.int 2) (.bin .add (.loc 7) (.int 1)))))) (.seq (.asg 8 (.bin .mul (.int 256) (.bin .add (.int 1) (.bin .mod (.bin .div (.loc 2) (.bin .pow (.int 2) (.loc 7))) (.int 2)))))
 .nop) .nop)
 (.seq (.app 3 (.tup (.cons (.loc 4) (.cons (.bin .add (.loc 5) (.loc 8)) (.cons (.loc 6) .nil)))))
 .nop))))
 (.seq (.frz 3)
 (.seq (.ret (.loc 3))
 .nop))))
noncomputable def XM : S := (.seq (.ite (.cmp .lt (.loc 2) (.int 10)) (.seq (.ret (.bin .add (.lst (.cons (.tup (.cons (.bin .add (.loc 0) (.str 16)) (.cons (.int 0) (.cons (.int 0) .nil)))) .nil)) (.call 70 (.cons (.bin .add (.loc 0) (.str 17)) (.cons (.bin .mul (.int 8) (.loc 1)) (.cons (.int 3) (.cons (.bin .sub (.loc 2) (.int 2)) .nil)))))))
 .nop) .nop)
 (.seq (.ite (.cmp .lt (.loc 2) (.int 18)) (.seq (.ret (.bin .add (.lst (.cons (.tup (.cons (.bin .add (.loc 0) (.str 16)) (.cons (.int 0) (.cons (.int 1) .nil)))) (.cons (.tup (.cons (.bin .add (.loc 0) (.str 16)) (.cons (.int 1) (.cons (.int 0) .nil)))) .nil))) (.call 70 (.cons (.bin .add (.loc 0) (.str 18)) (.cons (.bin .mul (.int 8) (.loc 1)) (.cons (.int 3) (.cons (.bin .sub (.loc 2) (.int 10)) .nil)))))))
 .nop) .nop)
 (.seq (.ret (.bin .add (.lst (.cons (.tup (.cons (.bin .add (.loc 0) (.str 16)) (.cons (.int 0) (.cons (.int 1) .nil)))) (.cons (.tup (.cons (.bin .add (.loc 0) (.str 16)) (.cons (.int 1) (.cons (.int 1) .nil)))) .nil))) (.call 70 (.cons (.bin .add (.loc 0) (.str 19)) (.cons (.int 0) (.cons (.int 8) (.cons (.bin .sub (.loc 2) (.int 18)) .nil)))))))
 .nop)))
noncomputable def VB : S := (.seq (.asgR [.nm 2, .nm 3] (.tup (.cons (.bin .sub (.loc 0) (.int 1)) (.cons (.int 0) .nil))))
 (.seq (.whil (.cmp .gt (.loc 2) (.int 3)) (.seq (.asgR [.nm 2, .nm 3] (.tup (.cons (.bin .div (.loc 2) (.int 2)) (.cons (.bin .add (.loc 3) (.int 1)) .nil))))
 .nop))
 (.seq (.asgR [.nm 4, .nm 5] (.tup (.cons (.bin .add (.bin .mul (.int 2) (.loc 3)) (.loc 2)) (.cons (.bin .mod (.bin .sub (.loc 0) (.int 1)) (.bin .pow (.int 2) (.loc 3))) .nil))))
 (.seq (.asg 6 (.call 70 (.cons (.str 11) (.cons (.bin .mul (.int 64) (.bi .min (.cons (.bin .sub (.loc 1) (.int 2)) (.cons (.int 3) .nil)))) (.cons (.int 6) (.cons (.loc 4) .nil))))))
 (.seq (.ite (.cmp .gt (.loc 3) (.int 5)) (.seq (.ret (.tup (.cons (.bin .add (.loc 6) (.call 70 (.cons (.str 13) (.cons (.int 0) (.cons (.int 4) (.cons (.call 71 (.cons (.bin .mod (.loc 5) (.int 16)) (.cons (.int 4) .nil))) .nil)))))) (.cons (.bin .sub (.loc 3) (.int 4)) .nil))))
 .nop) .nop)
 (.seq (.asg 7 (.bi .sum (.cons (.compR 8 (.int 4) (.loc 4) (.int 1) (.bin .sub (.bin .pow (.int 2) (.bin .sub (.bin .div (.loc 8) (.int 2)) (.int 1))) (.int 1))) .nil)))
 (.seq (.ret (.tup (.cons (.bin .add (.loc 6) (.call 70 (.cons (.str 12) (.cons (.loc 7) (.cons (.loc 3) (.cons (.call 71 (.cons (.loc 5) (.cons (.loc 3) .nil))) .nil)))))) (.cons (.int 0) .nil))))
 .nop)))))))
noncomputable def XO : S := (.seq (.asgT [.nm 2, .nm 3, .nm 4] (.sub (.loc 0) (.str 34)))
 (.seq (.asgR [.nm 5, .nm 6, .nm 7] (.tup (.cons (.sub (.loc 1) (.int 0)) (.cons (.sub (.loc 0) (.str 36)) (.cons (.bin .mod (.sub (.loc 0) (.str 35)) (.bin .pow (.int 2) (.loc 4))) .nil)))))
 (.seq (.asg 8 (.bin .add (.bin .mul (.int 16) (.loc 6)) (.loc 7)))
 (.seq (.ite (.cmp .eq (.loc 5) (.str 0)) (.seq (.asg 10 (.bin .mul (.int 768) (.bin .add (.bin .mul (.bin .mod (.sub (.loc 0) (.str 35)) (.bin .pow (.int 2) (.loc 3))) (.bin .pow (.int 2) (.loc 2))) (.bin .div (.sub (.loc 1) (.int 2)) (.bin .pow (.int 2) (.bin .sub (.int 8) (.loc 2)))))))
 (.seq (.ret (.tup (.cons (.bin .add (.lst (.cons (.tup (.cons (.str 1) (.cons (.loc 8) (.cons (.int 0) .nil)))) .nil)) (.call 72 (.cons (.loc 10) (.cons (.sub (.loc 1) (.int 1)) (.cons (.ite (.cmp .gt (.loc 6) (.int 6)) (.sub (.loc 1) (.int 3)) (.int (-1))) .nil))))) (.cons (.int 0) .nil))))
 .nop)) .nop)
 (.seq (.ite (.inn false (.loc 5) (.tup (.cons (.str 1) (.cons (.str 4) (.cons (.str 5) .nil))))) (.seq (.asgT [.nm 11, .nm 12] (.call 74 (.cons (.sub (.loc 1) (.int 1)) (.cons (.sub (.loc 1) (.int 2)) .nil))))
 (.seq (.ret (.tup (.cons (.bin .add (.bin .add (.lst (.cons (.tup (.cons (.str 1) (.cons (.loc 8) (.cons (.int 1) .nil)))) (.cons (.tup (.cons (.str 2) (.cons (.loc 6) (.cons (.int 0) .nil)))) .nil))) (.call 73 (.cons (.str 14) (.cons (.loc 7) (.cons (.sub (.loc 1) (.int 2)) .nil))))) (.loc 11)) (.cons (.loc 12) .nil))))
 .nop)) .nop)
 (.seq (.own 9 (.cons (.tup (.cons (.str 1) (.cons (.loc 8) (.cons (.int 1) .nil)))) (.cons (.tup (.cons (.str 2) (.cons (.loc 6) (.cons (.int 1) .nil)))) (.cons (.tup (.cons (.str 6) (.cons (.loc 6) (.cons (.bi .int (.cons (.and (.cmp .eq (.loc 5) (.str 2)) (.cmp .gt (.sub (.loc 1) (.int 1)) (.int 0))) .nil)) .nil)))) .nil))))
 (.seq (.ite (.cmp .eq (.loc 5) (.str 3)) (.seq (.frz 9)
 (.seq (.ret (.tup (.cons (.bin .add (.loc 9) (.lst (.cons (.tup (.cons (.str 9) (.cons (.loc 8) (.cons (.int 0) .nil)))) .nil))) (.cons (.int 0) .nil))))
 .nop)) .nop)
 (.seq (.ite (.cmp .eq (.sub (.loc 1) (.int 1)) (.int 0)) (.seq (.app 9 (.tup (.cons (.str 9) (.cons (.loc 8) (.cons (.int 1) .nil)))))
 .nop) (.seq (.app 9 (.tup (.cons (.str 7) (.cons (.loc 6) (.cons (.bi .int (.cons (.cmp .gt (.sub (.loc 1) (.int 1)) (.int 1)) .nil)) .nil)))))
 .nop))
 (.seq (.ite (.cmp .gt (.sub (.loc 1) (.int 1)) (.int 1)) (.seq (.app 9 (.tup (.cons (.str 8) (.cons (.loc 6) (.cons (.bin .sub (.sub (.loc 1) (.int 1)) (.int 2)) .nil)))))
 .nop) .nop)
 (.seq (.frz 9)
 (.seq (.ret (.tup (.cons (.bin .add (.loc 9) (.call 73 (.cons (.str 15) (.cons (.loc 7) (.cons (.sub (.loc 1) (.int 2)) .nil))))) (.cons (.int 0) .nil))))
 .nop)))))))))))
noncomputable def XL : S := (.seq (.asg 1 (.dicH [1, 2, 6, 7] (.cons (.attr (.loc 0) 12) (.cons (.attr (.loc 0) 13) (.cons (.attr (.loc 0) 14) (.cons (.attr (.loc 0) 15) .nil))))))
 (.seq (.asgT [.sb (.loc 1) (.str 8), .sb (.loc 1) (.str 9), .sb (.loc 1) (.str 10)] (.tup (.cons (.attr (.loc 0) 16) (.cons (.attr (.loc 0) 17) (.cons (.attr (.loc 0) 21) .nil)))))
 (.seq (.asgT [.sb (.loc 1) (.str 11), .sb (.loc 1) (.str 12), .sb (.loc 1) (.str 13)] (.tup (.cons (.attr (.loc 0) 18) (.cons (.attr (.loc 0) 19) (.cons (.attr (.loc 0) 20) .nil)))))
 (.seq (.forL [2, 3] false (.tup (.cons (.tup (.cons (.str 14) (.cons (.attr (.loc 0) 22) .nil))) (.cons (.tup (.cons (.str 15) (.cons (.attr (.loc 0) 23) .nil))) .nil))) (.seq (.asgT [.sb (.loc 1) (.bin .add (.loc 2) (.str 16)), .sb (.loc 1) (.bin .add (.loc 2) (.str 17))] (.tup (.cons (.attr (.loc 3) 6) (.cons (.attr (.loc 3) 7) .nil))))
 (.seq (.asgT [.sb (.loc 1) (.bin .add (.loc 2) (.str 18)), .sb (.loc 1) (.bin .add (.loc 2) (.str 19))] (.tup (.cons (.attr (.loc 3) 8) (.cons (.attr (.loc 3) 9) .nil))))
 .nop)))
 (.seq (.ret (.loc 1))
 .nop)))))
noncomputable def VA : S := (.seq (.asgR [.nm 3, .nm 4, .nm 5] (.tup (.cons (.call 65 (.cons (.loc 0) (.cons (.int 6) .nil))) (.cons (.call 65 (.cons (.loc 0) (.cons (.int 1987) .nil))) (.cons (.call 65 (.cons (.loc 0) (.cons (.int 1987) .nil))) .nil)))))
 (.seq (.forR 6 (.int 0) (.bi .len (.cons (.loc 2) .nil)) (.int 1) (.seq (.asgT [.nm 7, .nm 8, .nm 9] (.sub (.loc 2) (.loc 6)))
 (.seq (.ite (.cmp .lt (.loc 3) (.int 4)) (.seq (.ssub (.sub (.loc 1) (.loc 7)) (.loc 8) (.bin .add (.int 31) (.bin .mul (.int 1986) (.loc 9))))
 .nop) (.seq (.ite (.cmp .eq (.loc 3) (.int 4)) (.seq (.ssub (.sub (.loc 1) (.loc 7)) (.loc 8) (.bin .add (.int 31) (.bin .mod (.bin .add (.loc 4) (.bin .mul (.loc 6) (.loc 5))) (.int 1987))))
 .nop) .nop)
 .nop))
 .nop)))
 .nop))
noncomputable def KY : S := (.seq (.ite (.cmp .eq (.sub (.loc 1) (.int 0)) (.str 0)) (.seq (.ex (.meth (.loc 0) 54 (.cons (.sub (.loc 1) (.int 1)) (.cons (.sub (.loc 1) (.int 2)) (.cons (.sub (.loc 1) (.int 3)) .nil)))))
 .nop) (.seq (.ite (.cmp .eq (.sub (.loc 1) (.int 0)) (.str 1)) (.seq (.ex (.meth (.loc 0) 57 (.cons (.sub (.loc 1) (.int 1)) (.cons (.sub (.loc 1) (.int 2)) .nil))))
 .nop) (.seq (.ite (.cmp .eq (.sub (.loc 1) (.int 0)) (.str 2)) (.seq (.ex (.meth (.loc 0) 58 (.cons (.sub (.loc 1) (.int 1)) (.cons (.sub (.loc 1) (.int 2)) .nil))))
 .nop) (.seq (.ite (.cmp .eq (.sub (.loc 1) (.int 0)) (.str 3)) (.seq (.ex (.meth (.loc 0) 59 .nil))
 .nop) (.seq (.ex (.meth (.loc 0) 70 .nil))
 .nop))
 .nop))
 .nop))
 .nop))
 .nop)
noncomputable def Zd : S := (.seq (.asgR [.nm 2, .nm 3, .nm 4] (.tup (.cons (.sub (.loc 1) (.int 1)) (.cons (.sub (.loc 1) (.int 2)) (.cons (.sub (.loc 1) (.int 3)) .nil)))))
 (.seq (.asg 5 (.bin .add (.meth (.attr (.loc 0) 27) 60 .nil) (.loc 4)))
 (.seq (.asg 6 (.meth (.loc 0) 71 (.cons (.lst (.cons (.tup (.cons (.str 1) (.cons (.loc 2) (.cons (.loc 3) .nil)))) .nil)) (.cons (.bin .mul (.bi .bytes (.cons (.lst (.cons (.int 97) .nil)) .nil)) (.bin .add (.loc 2) (.loc 3))) (.cons (.loc 2) (.cons (.loc 3) (.cons (.loc 5) .nil)))))))
 (.seq (.ret (.and (.cmp .eq (.loc 6) (.ite (.cmp .ge (.loc 4) (.glob 11)) (.tup (.cons (.int 1) (.cons (.bin .add (.loc 2) (.loc 3)) .nil))) (.tup (.cons (.int 0) (.cons (.loc 2) .nil))))) (.cmp .le (.meth (.attr (.loc 0) 27) 60 .nil) (.loc 5))))
 .nop))))
noncomputable def Yu : S := (.seq (.asgR [.nm 3, .nm 4] (.tup (.cons (.int 1) (.cons (.bi .len (.cons (.loc 1) .nil)) .nil))))
 (.seq (.forL [5] true (.loc 1) (.seq (.asg 3 (.bin .mul (.loc 3) (.loc 5)))
 .nop))
 (.seq (.asg 6 (.bin .mul (.bin .pow (.int 2048) (.loc 4)) (.bin .pow (.int 2) (.loc 2))))
 (.seq (.ite (.cmp .ge (.bin .mul (.bin .mul (.bin .pow (.int 256) (.loc 0)) (.loc 3)) (.bin .pow (.int 8191) (.bin .add (.loc 4) (.loc 2)))) (.bin .mul (.bin .mul (.int 256) (.loc 6)) (.bin .pow (.int 8192) (.bin .add (.loc 4) (.loc 2))))) (.seq (.ret (.bool false))
 .nop) .nop)
 (.seq (.ret (.cmp .gt (.bin .mul (.bin .mul (.bin .pow (.int 256) (.bin .add (.loc 0) (.int 1))) (.loc 3)) (.bin .pow (.int 126) (.loc 4))) (.bin .mul (.loc 6) (.bin .pow (.int 125) (.loc 4)))))
 .nop)))))
noncomputable def Kb : S := (.seq (.asgR [.nm 2, .nm 3] (.tup (.cons (.sub (.loc 1) (.int 0)) (.cons (.sub (.loc 0) (.str 36)) .nil))))
 (.seq (.asg 4 (.bi .int (.cons (.cmp .gt (.loc 3) (.int 6)) .nil)))
 (.seq (.ite (.cmp .eq (.loc 2) (.str 0)) (.seq (.ssub (.loc 0) (.str 36) (.sub (.lst (.cons (.int 0) (.cons (.int 0) (.cons (.int 0) (.cons (.int 0) (.cons (.int 1) (.cons (.int 2) (.cons (.int 3) (.cons (.int 4) (.cons (.int 5) (.cons (.int 6) (.cons (.int 4) (.cons (.int 5) .nil))))))))))))) (.loc 3)))
 .nop) (.seq (.ssub (.loc 0) (.str 36) (.bm .get (.dic [2, 3] (.cons (.bin .add (.int 8) (.bin .mul (.int 3) (.loc 4))) (.cons (.bin .add (.int 9) (.bin .mul (.int 2) (.loc 4))) .nil))) (.cons (.loc 2) (.cons (.bin .add (.int 7) (.bin .mul (.int 3) (.loc 4))) .nil))))
 .nop))
 (.seq (.ssub (.loc 0) (.str 35) (.bin .add (.sub (.loc 0) (.str 35)) (.ite (.inn false (.loc 2) (.tup (.cons (.str 0) (.cons (.str 3) .nil)))) (.int 1) (.ite (.cmp .eq (.loc 2) (.str 5)) (.int 0) (.sub (.loc 1) (.int 2))))))
 .nop))))
noncomputable def qz : S := (.seq (.asg 5 (.call 69 (.cons (.loc 0) (.cons (.loc 4) .nil))))
 (.seq (.asgT [.nm 6, .nm 7] (.call 75 (.cons (.loc 3) (.cons (.loc 5) .nil))))
 (.seq (.ex (.call 77 (.cons (.loc 0) (.cons (.loc 2) (.cons (.loc 6) .nil)))))
 (.seq (.asgR [.nm 8, .nm 9] (.tup (.cons (.meth (.attr (.loc 1) 27) 60 .nil) (.cons (.compL [18, 19, 17] (.loc 6) (.sub (.sub (.loc 2) (.loc 18)) (.loc 19))) .nil))))
 (.seq (.ite (.cmp .ne (.loc 4) (.str 4)) (.seq (.ex (.call 78 (.cons (.loc 1) (.cons (.loc 5) .nil))))
 .nop) (.seq (.ite (.not (.call 79 (.cons (.loc 1) (.cons (.loc 5) .nil)))) (.seq (.ret .none)
 .nop) .nop)
 .nop))
 (.seq (.asgR [.nm 10, .nm 11] (.tup (.cons (.bin .sub (.meth (.attr (.loc 1) 27) 60 .nil) (.loc 8)) (.cons (.compL [18, 19, 17] (.loc 6) (.sub (.sub (.loc 2) (.loc 18)) (.loc 19))) .nil))))
 (.seq (.ite (.and (.cmp .eq (.loc 4) (.str 4)) (.cmp .lt (.sub (.loc 5) (.int 3)) (.glob 11))) (.seq (.ret (.ite (.and (.cmp .eq (.loc 10) (.int 0)) (.cmp .eq (.loc 11) (.loc 9))) (.int 0) .none))
 .nop) .nop)
 (.seq (.own2 12 13)
 (.seq (.forR 14 (.int 0) (.bi .len (.cons (.loc 6) .nil)) (.int 1) (.seq (.asgR [.nm 16, .nm 17] (.tup (.cons (.sub (.loc 9) (.loc 14)) (.cons (.sub (.sub (.loc 6) (.loc 14)) (.int 2)) .nil))))
 (.seq (.app 12 (.ite (.cmp .eq (.loc 17) (.int 1)) (.bin .sub (.int 2048) (.loc 16)) (.loc 16)))
 (.seq (.app 13 (.ite (.cmp .eq (.loc 17) (.int 1)) (.bin .sub (.loc 16) (.bin .div (.loc 16) (.int 32))) (.bin .add (.loc 16) (.bin .div (.bin .sub (.int 2048) (.loc 16)) (.int 32)))))
 .nop))))
 (.seq (.asg 15 (.sub (.dic [0, 3, 2, 4, 5, 1] (.cons (.int 7) (.cons (.int 4) (.cons (.int 12) (.cons (.int 16) (.cons (.int 16) (.cons (.int 20) .nil))))))) (.loc 4)))
 (.seq (.frz 12)
 (.seq (.frz 13)
 (.seq (.ite (.or (.cmp .ne (.loc 11) (.loc 13)) (.or (.not (.cmp2 .le .le (.int 0) (.loc 10) (.bi .min (.cons (.loc 15) (.cons (.glob 11) .nil))))) (.not (.call 80 (.cons (.loc 10) (.cons (.loc 12) (.cons (.loc 7) .nil))))))) (.seq (.ret .none)
 .nop) .nop)
 (.seq (.ex (.call 81 (.cons (.loc 3) (.cons (.loc 5) .nil))))
 (.seq (.ret (.loc 10))
 .nop)))))))))))))))
noncomputable def QI : S := (.seq (.asg 1 (.call 64 (.cons (.loc 0) .nil)))
 (.seq (.asg 2 (.or (.cmp .gt (.bi .len (.cons (.loc 0) .nil)) (.int 1)) (.cmp .gt (.sub (.loc 1) (.int 0)) (.int 0))))
 (.seq (.asg 3 (.tup (.cons (.call 65 (.cons (.loc 1) (.cons (.int 9) .nil))) (.cons (.call 65 (.cons (.loc 1) (.cons (.int 5) .nil))) (.cons (.call 65 (.cons (.loc 1) (.cons (.int 5) .nil))) .nil)))))
 (.seq (.asg 4 (.dicH [34, 36, 35] (.cons (.loc 3) (.cons (.call 65 (.cons (.loc 1) (.cons (.int 12) .nil))) (.cons (.bin .add (.bin .pow (.int 2) (.int 32)) (.call 65 (.cons (.loc 1) (.cons (.int 64) .nil)))) .nil)))))
 (.seq (.own3 5 6 7 (.new 2 (.cons (.new 0 (.cons (.sub (.loc 3) (.int 0)) (.cons (.sub (.loc 3) (.int 1)) (.cons (.sub (.loc 3) (.int 2)) .nil)))) .nil)) (.new 6 .nil) (.cons (.str 1) .nil))
 (.seq (.ite (.cmp .ne (.meth (.loc 6) 60 .nil) (.int 5)) (.seq (.ret (.bool false))
 .nop) .nop)
 (.seq (.ex (.call 66 (.cons (.loc 1) (.cons (.loc 6) .nil))))
 (.seq (.asgR [.nm 8, .nm 9, .nm 10] (.tup (.cons (.new 5 (.cons (.loc 5) (.cons (.loc 6) .nil))) (.cons (.meth (.loc 6) 60 .nil) (.cons (.call 76 (.cons (.loc 5) .nil)) .nil)))))
 (.seq (.ex (.meth (.loc 8) 72 (.cons (.sub (.loc 4) (.str 35)) .nil)))
 (.seq (.sattr (.loc 8) 43 (.sub (.loc 4) (.str 36)))
 (.seq (.forR 11 (.int 0) (.ite (.loc 2) (.bin .add (.int 1) (.call 65 (.cons (.loc 1) (.cons (.int 4) .nil)))) (.int 0)) (.int 1) (.seq (.app 7 (.sub (.lst (.cons (.str 2) (.cons (.str 0) (.cons (.str 4) (.cons (.str 3) (.cons (.str 2) (.cons (.str 0) (.cons (.str 1) (.cons (.str 1) .nil))))))))) (.call 65 (.cons (.loc 1) (.cons (.int 8) .nil)))))
 .nop))
 (.seq (.frz 7)
 (.seq (.forL [12] true (.bin .add (.loc 7) (.lst (.cons (.str 5) .nil))) (.seq (.asg 13 (.call 82 (.cons (.loc 1) (.cons (.loc 8) (.cons (.loc 10) (.cons (.loc 4) (.cons (.loc 12) .nil)))))))
 (.seq (.ite (.cmp .is (.loc 13) .none) (.seq (.ret (.bool false))
 .nop) .nop)
 (.seq (.asg 9 (.bin .add (.loc 9) (.loc 13)))
 .nop))))
 (.seq (.ret (.and (.cmp .eq (.bi .len (.cons (.meth (.loc 6) 73 .nil) .nil)) (.loc 9)) (.cmp .eq (.lst (.cons (.attr (.loc 8) 43) (.cons (.attr (.loc 8) 42) .nil))) (.lst (.cons (.sub (.loc 4) (.str 36)) (.cons (.sub (.loc 4) (.str 35)) .nil))))))
 .nop))))))))))))))
structure Df where
 s : S
 n : Nat
 na : Nat
 dl : List V
 st : Stmt
 nl : List String
noncomputable def Df.c (d : Df) : Cx := ⟨qJ d.st, yv d.nl, d.n⟩
noncomputable def pR : List Df := [⟨Ke, 6, 4, [], qq 20 0, ["self", "lc", "lp", "pb", "number", "most"]⟩,
 ⟨Zg, 1, 1, [], qq 20 2, ["self"]⟩,
 ⟨Zf, 2, 2, [], qq 20 3, ["self", "place"]⟩,
 ⟨ZQ, 1, 1, [], qK 21, ["state"]⟩,
 ⟨Yw, 1, 1, [], qK 22, ["state"]⟩,
 ⟨KZ, 1, 1, [], qK 23, ["state"]⟩,
 ⟨Yv, 1, 1, [], qK 24, ["state"]⟩,
 ⟨Qj, 1, 1, [], qK 25, ["state"]⟩,
 ⟨Jx, 1, 1, [], qK 26, ["length"]⟩,
 ⟨KX, 2, 1, [], qK 27, ["slot", "extra"]⟩,
 ⟨Vx, 6, 1, [], qK 28, ["distance", "number", "high", "slot", "extra", "base"]⟩,
 ⟨yZ, 2, 2, [], qq 29 0, ["self", "positions"]⟩,
 ⟨yu, 1, 1, [], qq 29 1, ["self"]⟩,
 ⟨Yx, 2, 2, [], qq 30 0, ["self", "props"]⟩,
 ⟨Jy, 1, 1, [], qq 30 1, ["self"]⟩,
 ⟨Yy, 3, 3, [], qq 30 2, ["self", "state", "place"]⟩,
 ⟨yX, 2, 2, [], qq 30 3, ["self", "length"]⟩,
 ⟨jM, 4, 2, [], qq 30 4, ["self", "slot", "extra", "base"]⟩,
 ⟨jN, 4, 3, [], qq 30 5, ["self", "place", "before", "high"]⟩,
 ⟨xa, 2, 1, [.tup [.int 1, .int 1, .int 1, .int 1]], qq 31 0, ["self", "row"]⟩,
 ⟨Kc, 1, 1, [], qq 31 2, ["self"]⟩,
 ⟨XP, 3, 2, [], qq 31 3, ["self", "index", "distance"]⟩,
 ⟨XQ, 2, 2, [], qq 31 4, ["self", "distance"]⟩,
 ⟨kX, 2, 2, [], qK 35, ["number", "word"]⟩,
 ⟨Yt, 4, 4, [], qK 36, ["number", "least", "most", "word"]⟩,
 ⟨Ys, 1, 1, [], qK 37, ["step"]⟩,
 ⟨Vy, 5, 4, [], qK 38, ["octets", "at", "distance", "length", "here"]⟩,
 ⟨Jw, 3, 3, [], qK 39, ["octets", "at", "distance"]⟩,
 ⟨Ze, 3, 3, [], qq 40 0, ["self", "models", "writer"]⟩,
 ⟨jv, 7, 6, [], qq 40 1, ["self", "state", "place", "before", "octet", "matched", "start"]⟩,
 ⟨yc, 7, 5, [], qq 40 2, ["self", "start", "node", "octet", "count", "shift", "bit"]⟩,
 ⟨jL, 8, 4, [], qq 40 3, ["self", "start", "octet", "matched", "node", "shift", "foretold", "bit"]⟩,
 ⟨jK, 6, 4, [], qq 40 4, ["self", "lengths", "place", "length", "number", "row"]⟩,
 ⟨jq, 7, 3, [], qq 40 5, ["self", "distance", "length", "slot", "extra", "base", "rest"]⟩,
 ⟨yd, 5, 5, [], qq 40 6, ["self", "state", "place", "distance", "length"]⟩,
 ⟨ye, 4, 4, [], qq 40 7, ["self", "state", "place", "index"]⟩,
 ⟨yV, 5, 5, [], qq 40 8, ["self", "state", "place", "index", "length"]⟩,
 ⟨yb, 3, 3, [], qq 40 9, ["self", "state", "place"]⟩,
 ⟨QK, 3, 3, [], qq 41 0, ["self", "models", "writer"]⟩,
 ⟨yY, 2, 2, [], qq 41 3, ["self", "count"]⟩,
 ⟨jz, 2, 2, [], qq 41 4, ["self", "distance"]⟩,
 ⟨jg, 2, 2, [], qq 41 5, ["self", "length"]⟩,
 ⟨yt, 5, 4, [], qq 41 6, ["self", "octet", "before", "matched", "number"]⟩,
 ⟨Qq, 3, 3, [], qq 41 7, ["self", "distance", "length"]⟩,
 ⟨Zh, 3, 3, [], qq 41 8, ["self", "index", "length"]⟩,
 ⟨Qp, 1, 1, [], qq 41 9, ["self"]⟩,
 ⟨yg, 1, 1, [], qq 41 10, ["self"]⟩,
 ⟨zX, 3, 3, [], qq 41 11, ["self", "octets", "at"]⟩,
 ⟨jr, 2, 2, [], qq 41 12, ["self", "step"]⟩,
 ⟨jy, 7, 4, [], qq 41 13, ["self", "step", "octets", "at", "length", "distance", "before"]⟩,
 ⟨jf, 9, 6, [], qq 41 15, ["self", "steps", "octets", "start", "most", "size", "at", "done", "step"]⟩,
 ⟨kW, 2, 2, [], qK 51, ["model", "bit"]⟩,
 ⟨XH, 1, 1, [], qK 52, ["bit"]⟩,
 ⟨kY, 2, 2, [], qK 53, ["value", "count"]⟩,
 ⟨Qm, 1, 1, [], qq 54 0, ["self"]⟩,
 ⟨yW, 2, 1, [], qq 54 1, ["self", "carry"]⟩,
 ⟨Qn, 1, 1, [], qq 54 2, ["self"]⟩,
 ⟨jw, 1, 1, [], qq 54 3, ["self"]⟩,
 ⟨QJ, 6, 4, [], qq 54 4, ["self", "models", "index", "bit", "model", "bound"]⟩,
 ⟨yq, 4, 3, [], qq 54 5, ["self", "count", "value", "place"]⟩,
 ⟨Qk, 8, 5, [], qq 54 6, ["self", "models", "start", "count", "value", "node", "place", "bit"]⟩,
 ⟨yf, 8, 5, [], qq 54 7, ["self", "models", "start", "count", "value", "node", "place", "bit"]⟩,
 ⟨Ql, 1, 1, [], qq 54 8, ["self"]⟩,
 ⟨Qo, 2, 1, [], qq 54 9, ["self", "turn"]⟩,
 ⟨Vz, 4, 1, [], qK 56, ["script", "digits", "mixed", "cell"]⟩,
 ⟨XJ, 3, 2, [], qK 57, ["urn", "many", "digit"]⟩,
 ⟨QH, 4, 2, [], qK 58, ["urn", "writer", "one", "many"]⟩,
 ⟨VD, 6, 1, [], qK 59, ["urn", "way", "slot", "more", "low", "rest"]⟩,
 ⟨XN, 2, 1, [], qK 60, ["urn", "way"]⟩,
 ⟨XK, 8, 2, [], qK 61, ["urn", "kind", "far", "size", "index", "octet", "before", "beside"]⟩,
 ⟨XI, 6, 4, [], qK 62, ["name", "start", "many", "value", "leaf", "up"]⟩,
 ⟨kZ, 3, 2, [], qK 63, ["value", "many", "turn"]⟩,
 ⟨Ka, 9, 3, [], qK 64, ["start", "octet", "beside", "found", "name", "spot", "bit", "turn", "more"]⟩,
 ⟨XM, 3, 3, [], qK 65, ["word", "spot", "size"]⟩,
 ⟨VB, 9, 2, [], qK 66, ["far", "size", "top", "more", "slot", "rest", "found", "begin", "near"]⟩,
 ⟨XO, 13, 2, [], qK 67, ["mine", "step", "lc", "lp", "pb", "kind", "state", "spot", "cell", "found", "start", "gap", "plain"]⟩,
 ⟨XL, 4, 1, [], qK 68, ["models", "found", "word", "part"]⟩,
 ⟨VA, 10, 3, [], qK 69, ["urn", "rows", "bits", "way", "first", "more", "turn", "name", "spot", "bit"]⟩,
 ⟨KY, 2, 2, [], qK 70, ["maker", "step"]⟩,
 ⟨Zd, 7, 2, [], qK 71, ["maker", "step", "far", "size", "room", "limit", "told"]⟩,
 ⟨Yu, 7, 3, [], qK 72, ["growth", "chances", "plain", "product", "count", "chance", "whole"]⟩,
 ⟨Kb, 5, 2, [], qK 73, ["mine", "step", "kind", "state", "late"]⟩,
 ⟨qz, 20, 5, [], qK 74, ["urn", "maker", "rows", "mine", "kind", "step", "bits", "plain", "size", "ahead", "growth", "behind", "chances", "due", "turn", "most", "now", "bit", "name", "spot"]⟩,
 ⟨QI, 14, 1, [], qK 75, ["script", "urn", "wide", "props", "mine", "models", "writer", "kinds", "maker", "whole", "rows", "turn", "kind", "growth"]⟩]
noncomputable def Fx (f : Nat) : Option Df := qj pR f
noncomputable def vk : Nat := 84
noncomputable def Zu : Nat := 85
end Mi
end
section
namespace Mi
open PySem
inductive VC : Type 1
 | fin (p : Prop)
 | and (p : Prop) (r : VC)
 | ways (c : Prop) (a b : VC)
 | ex (o : Option V) (k : V -> VC)
 | exL (o : Option (List Int)) (k : List Int -> VC)
 | all (n : Nat) (k : Array UInt8 -> VC)
 | num (k : Nat -> VC)
 | mem (U : Mu) (k : Mu -> VC)
 | lis (l : List V) (k : List V -> VC)
 | call (f : Nat) (l : List V) (U : Mu) (k : V -> Mu -> VC)
noncomputable def Ok (Γ : Nat -> PT) : VC -> Prop
 | .fin p => p
 | .and p r => p /\ Ok Γ r
 | .ways c a b => (c -> Ok Γ a) /\ (¬ c -> Ok Γ b)
 | .ex o k => ∃ v, o = some v /\ Ok Γ (k v)
 | .exL o k => ∃ v, o = some v /\ Ok Γ (k v)
 | .all n k => ∀ b : Array UInt8, b.size = n -> Ok Γ (k b)
 | .num k => ∃ n, Ok Γ (k n)
 | .mem U k => Ok Γ (k U)
 | .lis l k => Ok Γ (k l)
 | .call f l U k => Γ f l U λ v U => Ok Γ (k v U)
noncomputable abbrev VC.no : VC := .fin False
inductive Sq : Type 1
 | fin (p : Prop) | and (p : Prop) | ways (p : Prop) | ex (o : Option V) | exL (o : Option (List Int)) | all (n : Nat) | num | mem (U : Mu) | lis (l : List V) | call (f : Nat) (l : List V) (U : Mu)
noncomputable def Vs : VC -> Sq
 | .fin p => .fin p | .and p _ => .and p | .ways p _ _ => .ways p | .ex o _ => .ex o | .exL o _ => .exL o | .all n _ => .all n | .num _ => .num | .mem U _ => .mem U | .lis l _ => .lis l | .call f l U _ => .call f l U
noncomputable def tl : VC -> VC | .and _ r => r | _ => .no
noncomputable def wt : VC -> VC | .ways _ a _ => a | _ => .no
noncomputable def wf : VC -> VC | .ways _ _ b => b | _ => .no
noncomputable def xk : VC -> V -> VC | .ex _ k => k | _ => λ _ => .no
noncomputable def xl : VC -> List Int -> VC | .exL _ k => k | _ => λ _ => .no
noncomputable def ak : VC -> Array UInt8 -> VC | .all _ k => k | _ => λ _ => .no
noncomputable def nk : VC -> Nat -> VC | .num k => k | _ => λ _ => .no
noncomputable def Rm : VC -> Mu -> VC | .mem _ k => k | _ => λ _ => .no
noncomputable def lk : VC -> List V -> VC | .lis _ k => k | _ => λ _ => .no
noncomputable def ck : VC -> V -> Mu -> VC | .call _ _ _ k => k | _ => λ _ _ => .no
noncomputable def wE (Γ : Nat -> PT) (vc : VC) (v : V) (U : Mu) : Prop := Ok Γ (ck vc v U)
noncomputable def St (Γ : Nat -> PT) (vc : VC) : Sq -> Prop
 | .fin p => p
 | .and p => p /\ Ok Γ (tl vc)
 | .ways p => (p -> Ok Γ (wt vc)) /\ (¬ p -> Ok Γ (wf vc))
 | .ex o => ∃ v, o = some v /\ Ok Γ (xk vc v)
 | .exL o => ∃ v, o = some v /\ Ok Γ (xl vc v)
 | .all n => ∀ b : Array UInt8, b.size = n -> Ok Γ (ak vc b)
 | .num => ∃ n, Ok Γ (nk vc n)
 | .mem U => Ok Γ (Rm vc U)
 | .lis l => Ok Γ (lk vc l)
 | .call f l U => Γ f l U (wE Γ vc)
section
variable {Γ : Nat -> PT} {vc : VC}
theorem XU {s : Sq} (e : Vs vc = s) (h : St Γ vc s) : Ok Γ vc := by
 subst e
 cases vc <;> exact h
section
variable {p : Prop}
theorem AB (h : p) (r : Ok Γ (tl vc)) : St Γ vc (.and p) := ⟨h, r⟩
theorem rS (h : p) (r : Ok Γ (wt vc)) : St Γ vc (.ways p) := ⟨λ _ => r, λ n => absurd h n⟩
theorem rT (h : ¬ p) (r : Ok Γ (wf vc)) : St Γ vc (.ways p) := ⟨λ n => absurd n h, λ _ => r⟩
theorem CH (h : p -> Ok Γ (wt vc)) (r : ¬ p -> Ok Γ (wf vc)) : St Γ vc (.ways p) := ⟨h, r⟩
theorem Az {o : Option V} {v : V} (h : o = some v) (r : Ok Γ (xk vc v)) : St Γ vc (.ex o) := ⟨v, h, r⟩
theorem AA {f : Nat} {l : List V} {U : Mu} (h : Γ f l U (wE Γ vc)) : St Γ vc (.call f l U) := h
theorem zi (e : Vs vc = .and p) (h : p) (r : Ok Γ (tl vc)) : Ok Γ vc := XU e ⟨h, r⟩
theorem uE (e : Vs vc = .ways p) (h : p) (r : Ok Γ (wt vc)) : Ok Γ vc := XU e (rS h r)
theorem oq (e : Vs vc = .ways p) (h : ¬ p) (r : Ok Γ (wf vc)) : Ok Γ vc := XU e (rT h r)
theorem oo (e : Vs vc = .ways p) (h : p -> Ok Γ (wt vc)) (r : ¬ p -> Ok Γ (wf vc)) : Ok Γ vc := XU e ⟨h, r⟩
theorem CI (e : Vs vc = .fin p) (h : p) : Ok Γ vc := XU e h
end
theorem WB {o : Option V} {v : V} (e : Vs vc = .ex o) (h : o = some v) (r : Ok Γ (xk vc v)) : Ok Γ vc := XU e ⟨v, h, r⟩
theorem dq {o : Option (List Int)} {v : List Int} (e : Vs vc = .exL o) (h : o = some v) (r : Ok Γ (xl vc v)) : Ok Γ vc := XU e ⟨v, h, r⟩
theorem AF {n : Nat} (e : Vs vc = .all n) (r : ∀ b : Array UInt8, b.size = n -> Ok Γ (ak vc b)) : Ok Γ vc := XU e r
theorem AE (e : Vs vc = .num) (n : Nat) (r : Ok Γ (nk vc n)) : Ok Γ vc := XU e ⟨n, r⟩
theorem OK {U U' : Mu} (e : Vs vc = .mem U) (h : U = U') (r : Ok Γ (Rm vc U')) : Ok Γ vc := XU e (h ▸ r : Ok Γ (Rm vc U))
theorem aZ {l : List V} (r : Ok Γ (lk vc l)) : St Γ vc (.lis l) := r
theorem VN {l : List V} (e : Vs vc = .lis l) (h : ∀ l', l' = l -> Ok Γ (lk vc l')) : Ok Γ vc := XU e (h l rfl)
theorem Af {f : Nat} {l : List V} {U : Mu} {k : V -> Mu -> VC} (e : vc = .call f l U k) (h : Γ f l U λ v U => Ok Γ (k v U)) : Ok Γ vc := by subst e; exact h
theorem qP {f : Nat} {l : List V} {U : Mu} (e : Vs vc = .call f l U) (h : Γ f l U (wE Γ vc)) : Ok Γ vc := XU e h
end
section
variable (x : V)
noncomputable def qI (F : Int -> VC) : VC := match x with | .int i => F i | _ => .no
noncomputable def qS (F : Nat -> VC) : VC := match x with | .str i => F i | _ => .no
noncomputable def qB (F : Bool -> VC) : VC := match x with | .bool i => F i | _ => .no
noncomputable def qY (F : Array UInt8 -> VC) : VC := match x with | .byt i => F i | _ => .no
noncomputable def qL (F : List V -> VC) : VC := match x with | .lst i => F i | _ => .no
noncomputable def qT (F : List V -> VC) : VC := match x with | .tup i => F i | _ => .no
noncomputable def qO (F : Nat -> Nat -> VC) : VC := match x with | .obj c d => F c d | _ => .no
noncomputable def qN (F : VC) : VC := match x with | .none => F | _ => .no
noncomputable def Rf (F : List (Nat × V) -> VC) : VC := match x with | .dic i => F i | _ => .no
noncomputable def qH (F : Nat -> VC) : VC := match x with | .h i => F i | _ => .no
noncomputable def q1 (l : List V) (F : V -> VC) : VC := match l with | [x] => F x | _ => .no
noncomputable def q2 (l : List V) (F : V -> V -> VC) : VC := match l with | [x, y] => F x y | _ => .no
noncomputable def q0 {α : Type} (l : List α) (F : VC) : VC := match l with | [] => F | _ :: _ => .no
variable (o : Option MO)
noncomputable def nA (F : List (Nat × V) -> VC) : VC := match o with | some (.attrs l) => F l | _ => .no
noncomputable def nL (F : List V -> VC) : VC := match o with | some (.list l) => F l | _ => .no
noncomputable def nD (F : List (Nat × V) -> VC) : VC := match o with | some (.dict l) => F l | _ => .no
noncomputable def nR (F : Bool -> Int -> (Int -> Int) -> Nat -> VC) : VC := match o with | some (.row c n f u) => F c n f u | _ => .no
noncomputable def fV (F : Nat -> VC) : VC := match o with | some (.ba n) => F n | _ => .no
noncomputable def qs {α : Type} (o : Option α) (F : α -> VC) : VC := match o with | some a => F a | none => .no
end
noncomputable def bq (b : Bool) (k : VC) : VC := match b with | true => k | false => .no
noncomputable def gd (lit : Bool) (p : Prop) (b : Bool) (k : VC) : VC := match lit with | true => bq b k | false => .and p k
noncomputable def WK (la lb : Bool) (o : Op) (a b : Int) (k : Int -> VC) : VC := match o with
 | .add => k (a + b) | .sub => k (a - b) | .mul => gd (la || lb) (IntMulOk a b) true (k (a * b))
 | .pow => gd la (0 <= b /\ b <= 1000000 /\ a.natAbs < 2 ^ 64) true (gd (!la) (0 <= b /\ b <= 1000000) true (k (a ^ b.toNat)))
 | .shl => gd la (0 <= b /\ b <= 1000000 /\ a.natAbs < 2 ^ 64) true (gd (!la) (0 <= b /\ b <= 1000000) true (k (a * 2 ^ b.toNat)))
 | .shr => gd lb (0 <= b) (decide (0 <= b)) (k (a / 2 ^ b.toNat))
 | .band => gd lb (0 <= a /\ 0 <= b) (decide (0 <= b)) (gd (!lb) (0 <= a) true (k ((a.toNat &&& b.toNat : Nat) : Int)))
 | .bor => .and (0 <= a /\ 0 <= b) (k (a + b - ((a.toNat &&& b.toNat : Nat) : Int)))
 | .bxor => .and (0 <= a /\ 0 <= b) (k (a + b - 2 * ((a.toNat &&& b.toNat : Nat) : Int)))
 | .div => gd lb (0 < b /\ b.natAbs.log2 < 9000) (decide (0 < b)) (k (a / b))
 | .mod => gd lb (0 < b) (decide (0 < b)) (k (a % b))
noncomputable def xz : E -> Bool
 | .int i => decide (i.natAbs < 2 ^ 64)
 | .glob g => match bX g with | some (.int i) => decide (i.natAbs < 2 ^ 64) | _ => false
 | _ => false
noncomputable def JV : E -> Option Nat
 | .int i => match i with
   | .ofNat n => match eY n 1000 with | true => some n | false => none
   | .negSucc _ => none
 | _ => none
noncomputable def WJ (o : Cm) (a b : Int) (k : Bool -> VC) : VC := match o with
 | .eq => .ways (a = b) (k true) (k false) | .ne => .ways (a = b) (k false) (k true)
 | .lt => .ways (a < b) (k true) (k false) | .le => .ways (a <= b) (k true) (k false)
 | .gt => .ways (b < a) (k true) (k false) | .ge => .ways (b <= a) (k true) (k false) | _ => k false
section
noncomputable def oN (la lb : Bool) (o : Op) (x y : V) (k : V -> VC) : VC := match x with
 | .int a => qI y λ b => WK la lb o a b λ z => k (.int z)
 | .str a => qS y λ b => match o with | .add => qs (pW a b) λ c => k (.str c) | _ => .no
 | .lst a => qL y λ b => match o with | .add => .and ((a ++ b).length <= 1000000) (k (.lst (a ++ b))) | _ => .no
 | .byt a => qI y λ n => match o with | .mul => .and (0 <= n /\ n <= 1000000 /\ a.size = 1) (k (.byt (eX n.toNat a.toList).flatten.toArray)) | _ => .no
 | _ => .no
noncomputable def Dq (x : V) (k : Bool -> VC) : VC := match x with
 | .none => k true
 | .int _ => k false
 | _ => .no
noncomputable def XA {α : Type 1} (o : Cm) (k : α) (j : α) (n : α) : α := match o with | .eq => k | .ne => j | _ => n
noncomputable def KO (o : Cm) (x y : V) (k : Bool -> VC) : VC := match o with
 | .is => qN y (Dq x k)
 | .isn => qN y (Dq x λ b => k (!b))
 | o => match x with
   | .int a => qI y λ b => WJ o a b k
   | .str a => qS y λ b => XA o (k (eB a b)) (k (!Nat.beq a b)) .no
   | .tup a => qT y λ b => qs (zv a) λ a => qs (zv b) λ b => XA o (.ways (a = b) (k true) (k false)) (.ways (a = b) (k false) (k true)) .no
   | .lst a => qL y λ b => .exL (zv a) λ a' => .exL (zv b) λ b' => XA o (.ways (a' = b') (k true) (k false)) (.ways (a' = b') (k false) (k true)) .no
   | _ => .no
noncomputable def vP : List V -> Bool
 | [] => true
 | .str _ :: r => vP r
 | _ => false
noncomputable def Dr (neg : Bool) (x y : V) (k : Bool -> VC) : VC := match x with
 | .int i => qT y λ l => qs (zv l) λ l => .ways (i ∈ l) (k (!neg)) (k neg)
 | .str s => qT y λ l => bq (vP l) (k (xor neg (l.any (vb s))))
 | _ => .no
noncomputable def jG (v : V) (k : Bool -> VC) : VC := match v with
 | .bool b => k b
 | .int i => .ways (i = 0) (k false) (k true)
 | .none => k false
 | _ => .no
noncomputable def KP (U : Mu) (x : V) (a : Nat) (k : V -> VC) : VC := qO x λ c d => match QX c a with
 | true => nA (qj U d) λ l => qs (qQ a l) k
 | false => .no
noncomputable def kA {α : Type} {R : Type 1} : List α -> (List α -> R) -> R
 | [], k => k []
 | x :: r, k => kA r λ r' => k (x :: r')
noncomputable def jH {α : Type} {R : Type 1} : List α -> Nat -> α -> (List α -> R) -> R
 | [], _, _, k => k []
 | _ :: r, 0, y, k => kA r λ r' => k (y :: r')
 | x :: r, n + 1, y, k => jH r n y λ r' => k (x :: r')
noncomputable def Qg : List MO -> Nat -> MO -> (List MO -> VC) -> VC
 | [], _, _, k => k []
 | _ :: r, 0, y, k => k (y :: r)
 | x :: r, n + 1, y, k => Qg r n y λ r' => k (x :: r')
noncomputable def Qs (a : Nat) (v : V) : List (Nat × V) -> (List (Nat × V) -> VC) -> VC
 | [], k => k [(a, v)]
 | (b, w) :: r, k => match eB a b with
   | true => k ((b, v) :: r)
   | false => Qs a v r λ r' => k ((b, w) :: r')
noncomputable def Gb (U : Mu) (x : V) (a : Nat) (v : V) (k : Mu -> VC) : VC := qO x λ c d => match QX c a with
 | true => nA (qj U d) λ l => bq (eY l.length 899) (Qs a v l λ l' => Qg U d (.attrs l') k)
 | false => .no
noncomputable def ry (ix : Option Nat) (i : Int) (l : List V) (k : V -> VC) : VC := match ix with
 | some n => qs (qj l n) k
 | none => .and (0 <= i /\ i < 1000000) (.ex (qj l i.toNat) k)
noncomputable def oE (ix : Option Nat) (o : Option MO) (y : V) (k : V -> VC) : VC := match y with
 | .int i => nL o λ l => ry ix i l k
 | .str s => nD o λ l => qs (qQ s l) k
 | _ => .no
noncomputable def oF (ix : Option Nat) (U : Mu) (x y : V) (k : V -> VC) : VC := match x with
 | .h d => oE ix (qj U d) y k
 | .row c n d => qI y λ i => nR (qj U d) λ c' n' f _ => .and (c = c' /\ n = n' /\ 0 <= i /\ i < n /\ i < 1000000000 /\ jF U c n d) (k (.int (f i)))
 | .lst l => qI y λ i => ry ix i l k
 | .tup l => qI y λ i => ry ix i l k
 | .dic l => qS y λ s => qs (qQ s l) k
 | .byt b => qI y λ i => .and (0 <= i /\ i < b.size /\ b.size <= 1000000) (k (.int (b.toList.getD i.toNat 0).toNat))
 | _ => .no
noncomputable def Ga (ix : Option Nat) (U : Mu) (d : Nat) (y v : V) (k : Mu -> VC) : VC := match y with
 | .int i => nL (qj U d) λ l => match ix with
   | some n => bq (iw n l.length) (jH l n v λ l' => Qg U d (.list l') k)
   | none => .and (0 <= i /\ i < l.length /\ i < 1000000000) (.mem (qy U d (.list (qy l i.toNat v))) k)
 | .str s => nD (qj U d) λ l => bq (eY l.length 899) (Qs s v l λ l' => Qg U d (.dict l') k)
 | _ => .no
noncomputable def Jk (ix : Option Nat) (U : Mu) (x y v : V) (k : Mu -> VC) : VC := match x with
 | .h d => Ga ix U d y v k
 | .row c n d => qI y λ i => nR (qj U d) λ c' n' f u => .and (c = c' /\ n = n' /\ 0 <= i /\ i < n /\ u < 1000000 /\ i < 1000000000 /\ jF U c n d) (qI v λ j => .mem (qy U d (.row c' n' (λ q => if q = i then j else f q) (u + 1))) k)
 | _ => .no
noncomputable def oJ (x : V) (U : Mu) (k : V -> Mu -> VC) : VC := match x with
 | .lst l => .and (l.length <= 1000000) (k (.int l.length) U)
 | .tup l => .and (l.length <= 1000000) (k (.int l.length) U)
 | .byt b => .and (b.size <= 1000000) (k (.int b.size) U)
 | .h d => fV (qj U d) λ n => .and (n <= 1000000) (k (.int n) U)
 | _ => .no
noncomputable def oM (x : V) (U : Mu) (k : V -> Mu -> VC) : VC := match x with
 | .lst l => q1 l λ x => qI x λ i => .and (0 <= i /\ i < 256) (k (.byt #[UInt8.ofNat i.toNat]) U)
 | .h d => fV (qj U d) λ n => .and (n <= 1000000) (.all n λ b => k (.byt b) U)
 | _ => .no
noncomputable def rx (b : Bi) (args : List V) (U : Mu) (k : V -> Mu -> VC) : VC := match b with
 | .len => q1 args λ x => oJ x U k
 | .min => q2 args λ x y => qI x λ a => qI y λ b => k (.int (if b < a then b else a)) U
 | .max => q2 args λ x y => qI x λ a => qI y λ b => k (.int (if b > a then b else a)) U
 | .abs => q1 args λ x => qI x λ a => k (.int a.natAbs) U
 | .int => q1 args λ x => qB x λ b => k (.int (cond b 1 0)) U
 | .sum => q1 args λ x => qL x λ l => .exL (zv l) λ l' => k (.int l'.sum) U
 | .bytes => q1 args λ x => oM x U k
 | .bytearray => q0 args (k (.h U.length) (U ++ [.ba 0]))
 | .list => q1 args λ x => qT x λ l => .and (l.length <= 1000000) (k (.lst l) U)
 | .isInt => q1 args λ x => qI x λ _ => k (.bool true) U
 | .isBool => q1 args λ x => qI x λ _ => k (.bool false) U
 | .isTup => q1 args λ x => qT x λ _ => k (.bool true) U
 | _ => .no
noncomputable def oK (o : Option V) (d : V) (k : V -> VC) : VC := match o with | some v => k v | none => k d
noncomputable def aV (b : Bi) (o : V) (args : List V) (U : Mu) (k : V -> Mu -> VC) : VC := match b with
 | .get => Rf o λ l => q2 args λ s d => qS s λ s => oK (qQ s l) d λ v => k v U
 | .bitlen => qI o λ i => q0 args (.and (0 <= i) (k (.int (if i = 0 then 0 else (i.toNat.log2 + 1 : Nat))) U))
 | .append => qH o λ d => q1 args λ x => fV (qj U d) λ n => qI x λ i => .and (0 <= i /\ i < 256 /\ n < 1000000) (Qg U d (.ba (n + 1)) λ U => k .none U)
 | .extend => qH o λ d => q1 args λ x => fV (qj U d) λ n => qY x λ b => .and (n + b.size <= 1000000) (Qg U d (.ba (n + b.size)) λ U => k .none U)
 | _ => .no
noncomputable def de (b : Bi) (x : V) (U : Mu) (k : VC) : VC := match b with
 | .get => Rf x λ _ => k
 | .bitlen => qI x λ _ => k
 | .append => qH x λ d => fV (qj U d) λ _ => k
 | .extend => qH x λ d => fV (qj U d) λ _ => k
 | _ => .no
noncomputable def oP (a b : Int) : List V := (eQ (b - a).toNat).map λ (i : Nat) => .int (a + i)
noncomputable def Fv (a b : Int) : List V := (eQ (a - b).toNat).map λ (i : Nat) => .int (a - i)
noncomputable def Xy (a b c : V) (k : List V -> VC) : VC := qI a λ a => qI b λ b => qI c λ c => match decide (c = 1) with
 | true => .and (a.natAbs <= 1000000000000 /\ b.natAbs <= 1000000000000 /\ (b - a).toNat <= 1000000) (.lis (oP a b) k)
 | false => match decide (c = -1) with
   | true => .and (a.natAbs <= 1000000000000 /\ b.natAbs <= 1000000000000 /\ (a - b).toNat <= 1000000) (.lis (Fv a b) k)
   | false => .no
noncomputable def Xk : List Nat -> List V -> List (Option V) -> (List (Option V) -> VC) -> VC
 | [], [], loc, k => k loc
 | x :: xs, v :: vs, loc, k => jH loc x (some v) λ loc => Xk xs vs loc k
 | _, _, _, _ => .no
noncomputable def Yh (xs : List Nat) (one : Bool) (v : V) (loc : List (Option V)) (k : List (Option V) -> VC) : VC := match one with
 | true => Xk xs [v] loc k
 | false => qT v λ l => Xk xs l loc k
noncomputable def Qb (step : V -> Mu -> (V -> Mu -> VC) -> VC) : List V -> Mu -> (List V -> Mu -> VC) -> VC
 | [], U, k => k [] U
 | v :: vs, U, k => step v U λ x U => Qb step vs U λ l U => k (x :: l) U
noncomputable def Dp (own : Bool) (o : Option (Option V)) (k : V -> VC) : VC := match o with
 | some (some v) => match v with | .own _ => .no | v => k v
 | _ => .no
noncomputable def Gc (o : Option (Option V)) (k : List V -> VC) : VC := match o with
 | some (some (.own l)) => k l
 | _ => .no
noncomputable def oH (m : Nat) (al : List (Nat × V)) (k : VC) : VC := match qQ m al with | .none => k | some _ => .no
mutual
noncomputable def vE (loc : List (Option V)) (e : E) (U : Mu) (k : V -> Mu -> VC) : VC := match e, U, k with
 | .int i, U, k => k (.int i) U
 | .none, U, k => k .none U
 | .bool b, U, k => k (.bool b) U
 | .str n, U, k => k (.str n) U
 | .loc i, U, k => Dp true (qj loc i) λ v => k v U
 | .glob g, U, k => qs (bX g) λ v => k v U
 | .bin o a b, U, k => vE loc a U λ x U => vE loc b U λ y U => oN (xz a) (xz b) o x y λ z => k z U
 | .cmp o a b, U, k => vE loc a U λ x U => vE loc b U λ y U => KO o x y λ c => k (.bool c) U
 | .cmp2 o p a b c, U, k => vE loc a U λ x U => vE loc b U λ y U => KO o x y λ t => match t with
     | true => vE loc c U λ z U => KO p y z λ t => k (.bool t) U
     | false => k (.bool false) U
 | .inn neg a b, U, k => vE loc a U λ x U => vE loc b U λ y U => Dr neg x y λ c => k (.bool c) U
 | .and a b, U, k => vE loc a U λ x U => jG x λ c => match c with | true => vE loc b U k | false => k x U
 | .or a b, U, k => vE loc a U λ x U => jG x λ c => match c with | false => vE loc b U k | true => k x U
 | .not a, U, k => vE loc a U λ x U => jG x λ c => k (.bool (!c)) U
 | .ite c a b, U, k => vT loc c U λ c U => match c with | true => vE loc a U k | false => vE loc b U k
 | .attr e a, U, k => vE loc e U λ x U => KP U x a λ v => k v U
 | .sub e i, U, k => vE loc e U λ x U => vE loc i U λ y U => oF (JV i) U x y λ v => k v U
 | .slTo e j, U, k => vE loc e U λ x U => vE loc j U λ y U => qL x λ l => qI y λ j => .and (0 <= j /\ l.length <= 1000000) (k (.lst (l.take j.toNat)) U)
 | .slFrom e i, U, k => vE loc e U λ x U => vE loc i U λ y U => qL x λ l => qI y λ j => .and (0 <= j /\ l.length <= 1000000) (k (.lst (l.drop j.toNat)) U)
 | .call f args, U, k => vE loc args U λ a U => qT a λ l => .call f l U k
 | .cmeth c m args, U, k => qs (UI c m) λ f => vE loc args U λ a U => qT a λ l => .call f l U k
 | .meth o m args, U, k => vE loc o U λ x U => qO x λ c d => qs (dA c m) λ f => nA (qj U d) λ al => oH m al (vE loc args U λ a U => qT a λ l => .call f (x :: l) U k)
 | .new c args, U, k => qs (dI c) λ g => qs g λ f => vE loc args U λ a U => qT a λ l => .call f (.obj c U.length :: l) (U ++ [.attrs []]) λ v U' => qN v (k (.obj c U.length) U')
 | .bi b args, U, k => vE loc args U λ a U => qT a λ l => rx b l U k
 | .bm b o args, U, k => vE loc o U λ x U => de b x U (vE loc args U λ a U => qT a λ l => aV b x l U k)
 | .lenOwn x, U, k => Gc (qj loc x) λ l => .and (l.length <= 1000000) (k (.int l.length) U)
 | .nil, U, k => k (.tup []) U
 | .cons e es, U, k => vE loc e U λ x U => vE loc es U λ y U => qT y λ l => k (.tup (x :: l)) U
 | .tup es, U, k => vE loc es U k
 | .lst es, U, k => vE loc es U λ y U => qT y λ l => k (.lst l) U
 | .lstH es, U, k => vE loc es U λ y U => qT y λ l => k (.h U.length) (U ++ [.list l])
 | .rowH es, U, k => vE loc es U λ y U => qT y λ l => qs (zv l) λ l => k (.row false l.length U.length) (U ++ [.row false l.length (λ i => l.getD i.toNat 0) 0])
 | .dic ks es, U, k => vE loc es U λ y U => qT y λ l => k (.dic (Xv ks l)) U
 | .dicH ks es, U, k => vE loc es (U ++ [.dict []]) λ y U' => qT y λ l => nD (qj U' U.length) λ e => q0 e (k (.h U.length) (qy U' U.length (.dict (Xv ks l))))
 | .compR x lo hi st e, U, k => vE loc lo U λ a U => vE loc hi U λ b U => vE loc st U λ c U => Xy a b c λ l => Qb (λ v U k => jH loc x (some v) λ loc => vE loc e U k) l U λ l U => k (.lst l) U
 | .compL xs src e, U, k => vE loc src U λ a U => qL a λ l => .and (l.length <= 1000000) (.lis l λ l => Qb (λ v U k => Yh xs false v loc λ loc => vE loc e U k) l U λ l U => k (.lst l) U)
termination_by structural e
noncomputable def vT (loc : List (Option V)) (e : E) (U : Mu) (k : Bool -> Mu -> VC) : VC := match e, U, k with
 | .cmp o a b, U, k => vE loc a U λ x U => vE loc b U λ y U => KO o x y λ c => k c U
 | .cmp2 o p a b c, U, k => vE loc a U λ x U => vE loc b U λ y U => KO o x y λ t => match t with
     | true => vE loc c U λ z U => KO p y z λ t => k t U
     | false => k false U
 | .and a b, U, k => vT loc a U λ c U => match c with | true => vT loc b U k | false => k false U
 | .or a b, U, k => vT loc a U λ c U => match c with | true => k true U | false => vT loc b U k
 | .not a, U, k => vT loc a U λ c U => k (!c) U
 | .ite c a b, U, k => vT loc c U λ c U => match c with | true => vT loc a U k | false => vT loc b U k
 | .inn neg a b, U, k => vE loc a U λ x U => vE loc b U λ y U => Dr neg x y λ c => k c U
 | .attr e a, U, k => vE loc e U λ x U => KP U x a λ v => jG v λ t => k t U
 | .bi b args, U, k => vE loc args U λ a U => qT a λ l => rx b l U λ v U => jG v λ t => k t U
 | .loc i, U, k => Dp true (qj loc i) λ v => jG v λ t => k t U
 | .call f args, U, k => vE loc args U λ a U => qT a λ l => .call f l U λ v U => jG v λ t => k t U
 | .bool b, U, k => k b U
 | _, _, _ => .no
termination_by structural e
end
noncomputable def jp (step : V -> List (Option V) -> Mu -> (List (Option V) -> Mu -> VC) -> VC) : List V -> List (Option V) -> Mu -> (List (Option V) -> Mu -> VC) -> VC
 | [], loc, U, k => k loc U
 | v :: vs, loc, U, k => step v loc U λ loc U => jp step vs loc U k
noncomputable def Jj (c : List (Option V) -> Mu -> (Bool -> Mu -> VC) -> VC) (b : List (Option V) -> Mu -> (List (Option V) -> Mu -> VC) -> VC) : Nat -> List (Option V) -> Mu -> (List (Option V) -> Mu -> VC) -> VC
 | 0, _, _, _ => .no
 | n + 1, loc, U, k => c loc U λ t U => match t with | true => b loc U λ loc U => Jj c b n loc U k | false => k loc U
noncomputable def ol (loc : List (Option V)) : List Tg -> List V -> Mu -> (List (Option V) -> Mu -> VC) -> VC
 | [], [], U, k => k loc U
 | .nm x :: ts, v :: vs, U, k => jH loc x (some v) λ loc => ol loc ts vs U k
 | .sb b i :: ts, v :: vs, U, k => vE loc b U λ x U => vE loc i U λ y U => Jk (JV i) U x y v λ U => ol loc ts vs U k
 | _, _, _, _ => .no
noncomputable def oG (v : V) (k : List V -> VC) : VC := match v with | .lst l => k l | .tup l => k l | _ => .no
noncomputable def vS : S -> List (Option V) -> Mu -> (List (Option V) -> Mu -> VC) -> (V -> Mu -> VC) -> VC
 | .nop, loc, U, kn, _ => kn loc U
 | .seq a b, loc, U, kn, kr => vS a loc U (λ loc U => vS b loc U kn kr) kr
 | .asg x e, loc, U, kn, _ => vE loc e U λ v U => jH loc x (some v) λ loc => kn loc U
 | .asgT ts e, loc, U, kn, _ => vE loc e U λ v U => qT v λ l => bq (eB l.length ts.length) (ol loc ts l U kn)
 | .asgR ts e, loc, U, kn, _ => vE loc e U λ v U => qT v λ l => bq (eB l.length ts.length) (ol loc ts.reverse l.reverse U kn)
 | .sattr b a e, loc, U, kn, _ => vE loc e U λ v U => vE loc b U λ x U => Gb U x a v λ U => kn loc U
 | .ssub b i e, loc, U, kn, _ => vE loc e U λ v U => vE loc b U λ x U => vE loc i U λ y U => Jk (JV i) U x y v λ U => kn loc U
 | .aug o b a e, loc, U, kn, _ => vE loc b U λ x U => KP U x a λ old => vE loc e U λ v U => qI old λ i => qI v λ j => WK false (xz e) o i j λ z => Gb U x a (.int z) λ U => kn loc U
 | .ret e, loc, U, _, kr => vE loc e U kr
 | .ex e, loc, U, kn, _ => vE loc e U λ _ U => kn loc U
 | .ite c a b, loc, U, kn, kr => vT loc c U λ t U => match t with | true => vS a loc U kn kr | false => vS b loc U kn kr
 | .fail, _, _, _, _ => .no
 | .forL xs one e b, loc, U, kn, kr => vE loc e U λ v U => oG v λ l => .and (l.length <= 1000000) (.lis l λ l => jp (λ v loc U k => Yh xs one v loc λ loc => vS b loc U k kr) l loc U kn)
 | .forR x lo hi st b, loc, U, kn, kr => vE loc lo U λ a U => vE loc hi U λ b' U => vE loc st U λ c U => Xy a b' c λ l => jp (λ v loc U k => jH loc x (some v) λ loc => vS b loc U k kr) l loc U kn
 | .forE x y e b, loc, U, kn, kr => vE loc e U λ v U => qL v λ l => .and (l.length <= 1000000) (.lis (ZH 0 l) λ l => jp (λ v loc U k => Yh [x, y] false v loc λ loc => vS b loc U k kr) l loc U kn)
 | .whil c b, loc, U, kn, kr => .num λ n => Jj (λ loc U k => vT loc c U k) (λ loc U k => vS b loc U k kr) n loc U kn
 | .app x e, loc, U, kn, _ => Gc (qj loc x) λ l => .and (l.length < 1000000) (vE loc e U λ v U => jH loc x (some (.own (l ++ [v]))) λ loc => kn loc U)
 | .own x es, loc, U, kn, _ => vE loc es U λ v U => qT v λ l => jH loc x (some (.own l)) λ loc => kn loc U
 | .own2 x y, loc, U, kn, _ => jH loc y (some (.own [])) λ loc => jH loc x (some (.own [])) λ loc => kn loc U
 | .own3 x y z a b es, loc, U, kn, _ => vE loc a U λ u U => vE loc b U λ v U => vE loc es U λ w U => qT w λ l => jH loc z (some (.own l)) λ loc => jH loc y (some v) λ loc => jH loc x (some u) λ loc => kn loc U
 | .frz x, loc, U, kn, _ => Gc (qj loc x) λ l => jH loc x (some (.lst l)) λ loc => kn loc U
end
section
variable {Γ : Nat -> PT}
theorem xn {o : Option MO} {c : Bool} {n : Int} {f : Int -> Int} {u : Nat} {F : Bool -> Int -> (Int -> Int) -> Nat -> VC} (e : o = some (.row c n f u)) (h : Ok Γ (F c n f u)) : Ok Γ (nR o F) := e ▸ h
section
variable {α : Type} {step : V -> List (Option V) -> Mu -> (List (Option V) -> Mu -> VC) -> VC} {k : List (Option V) -> Mu -> VC} (L : α -> List (Option V)) (M : α -> Mu)
theorem QD : ∀ (l : List V) (P : Nat -> α -> Prop) (a : α), P 0 a ->
   (∀ i v a, l[i]? = some v -> P i a -> ∀ k' : List (Option V) -> Mu -> VC, (∀ b, P (i + 1) b -> Ok Γ (k' (L b) (M b))) -> Ok Γ (step v (L a) (M a) k')) -> (∀ a, P l.length a -> Ok Γ (k (L a) (M a))) -> Ok Γ (jp step l (L a) (M a) k)
 | [], P, a, h0, _, hk => hk a h0
 | v :: r, P, a, h0, hs, hk => hs 0 v a rfl h0 _ λ b h1 => QD r (λ i => P (i + 1)) b h1 (λ i v a e h k' hk' => hs (i + 1) v a e h k' hk') hk
variable {l : List V}
theorem KS {β : Type} (f : β -> V) (X : List β) (hl : l = X.map f) (P : Nat -> α -> Prop) (a : α) (h0 : P 0 a)
   (hs : ∀ i x a, X[i]? = some x -> P i a -> ∀ k' : List (Option V) -> Mu -> VC, (∀ b, P (i + 1) b -> Ok Γ (k' (L b) (M b))) -> Ok Γ (step (f x) (L a) (M a) k')) (hk : ∀ a, P X.length a -> Ok Γ (k (L a) (M a))) : Ok Γ (jp step l (L a) (M a) k) := by
 subst hl
 refine QD L M _ P a h0 (λ i v a e h k' hk' => ?_) λ a h => hk a (by rw [ee] at h; exact h)
 rw [eZ] at e
 cases q : X[i]? with
 | none => rw [q] at e; cases e
 | some x => rw [q] at e; exact Option.some.inj e ▸ hs i x a q h k' hk'
variable {m : Nat} {g : Nat -> V} (n : Nat)
theorem Zb (hl : l = (eQ m).map g) (hn : m = n) (P : Nat -> α -> Prop) (a : α) (h0 : P 0 a)
   (hs : ∀ i a, i < n -> P i a -> ∀ k' : List (Option V) -> Mu -> VC, (∀ b, P (i + 1) b -> Ok Γ (k' (L b) (M b))) -> Ok Γ (step (g i) (L a) (M a) k')) (hk : ∀ a, P n a -> Ok Γ (k (L a) (M a))) : Ok Γ (jp step l (L a) (M a) k) := by
 subst hn hl
 refine QD L M _ P a h0 (λ i v a e h k' hk' => ?_) λ a h => hk a (by rw [ee, Ey] at h; exact h)
 rw [eZ] at e
 by_cases hi : i < m
 · rw [EV hi] at e
   exact Option.some.inj e ▸ hs i a hi h k' hk'
 · rw [iJ (by rw [Ey]; exact Ea.mp hi)] at e; cases e
variable {x y : Int}
theorem yo (hl : l = oP x y) (hn : (y - x).toNat = n) (P : Nat -> α -> Prop) (a : α) (h0 : P 0 a)
   (hs : ∀ i a, i < n -> P i a -> ∀ k' : List (Option V) -> Mu -> VC, (∀ b, P (i + 1) b -> Ok Γ (k' (L b) (M b))) -> Ok Γ (step (.int (x + i)) (L a) (M a) k')) (hk : ∀ a, P n a -> Ok Γ (k (L a) (M a))) : Ok Γ (jp step l (L a) (M a) k) := Zb L M n hl hn P a h0 hs hk
theorem QC (hl : l = Fv x y) (hn : (x - y).toNat = n) (P : Nat -> α -> Prop) (a : α) (h0 : P 0 a)
   (hs : ∀ i a, i < n -> P i a -> ∀ k' : List (Option V) -> Mu -> VC, (∀ b, P (i + 1) b -> Ok Γ (k' (L b) (M b))) -> Ok Γ (step (.int (x - i)) (L a) (M a) k')) (hk : ∀ a, P n a -> Ok Γ (k (L a) (M a))) : Ok Γ (jp step l (L a) (M a) k) := Zb L M n hl hn P a h0 hs hk
end
theorem YQ {α : Type} {c : List (Option V) -> Mu -> (Bool -> Mu -> VC) -> VC} {b : List (Option V) -> Mu -> (List (Option V) -> Mu -> VC) -> VC} {k : List (Option V) -> Mu -> VC} (L : α -> List (Option V)) (M : α -> Mu) (P : Nat -> α -> Prop) (m : Nat)
   (hc : ∀ j a, j < m -> P j a -> ∀ k : Bool -> Mu -> VC, Ok Γ (k true (M a)) -> Ok Γ (c (L a) (M a) k)) (hb : ∀ j a, j < m -> P j a -> ∀ k : List (Option V) -> Mu -> VC, (∀ b, P (j + 1) b -> Ok Γ (k (L b) (M b))) -> Ok Γ (b (L a) (M a) k))
   (he : ∀ a, P m a -> ∀ k : Bool -> Mu -> VC, Ok Γ (k false (M a)) -> Ok Γ (c (L a) (M a) k)) (hk : ∀ a, P m a -> Ok Γ (k (L a) (M a))) : ∀ (r j : Nat) (a : α), j + r = m -> P j a -> Ok Γ (Jj c b (r + 1) (L a) (M a) k)
 | 0, j, a, e, h => by subst e; exact he a h _ (hk a h)
 | r + 1, j, a, e, h => hc j a (by subst e; exact Ie (iS r)) h _ (hb j a (by subst e; exact Ie (iS r)) h _ λ b hb' => YQ L M P m hc hb he hk r (j + 1) b (by rw [ib]; exact e) hb')
theorem WH {α : Type} {c : List (Option V) -> Mu -> (Bool -> Mu -> VC) -> VC} {b : List (Option V) -> Mu -> (List (Option V) -> Mu -> VC) -> VC} {k : List (Option V) -> Mu -> VC} {n : Nat} (L : α -> List (Option V)) (M : α -> Mu) (P : Nat -> α -> Prop) (m : Nat) (hn : n = m + 1) (a : α) (h0 : P 0 a)
   (hc : ∀ j a, j < m -> P j a -> ∀ k : Bool -> Mu -> VC, Ok Γ (k true (M a)) -> Ok Γ (c (L a) (M a) k)) (hb : ∀ j a, j < m -> P j a -> ∀ k : List (Option V) -> Mu -> VC, (∀ b, P (j + 1) b -> Ok Γ (k (L b) (M b))) -> Ok Γ (b (L a) (M a) k))
   (he : ∀ a, P m a -> ∀ k : Bool -> Mu -> VC, Ok Γ (k false (M a)) -> Ok Γ (c (L a) (M a) k)) (hk : ∀ a, P m a -> Ok Γ (k (L a) (M a))) : Ok Γ (Jj c b n (L a) (M a) k) := by
 subst hn; exact YQ L M P m hc hb he hk m 0 a (ig m) h0
theorem Wj {step : V -> Mu -> (V -> Mu -> VC) -> VC} {U : Mu} (g : V -> V) : ∀ {l : List V} {k : List V -> Mu -> VC}, (∀ v ∈ l, ∀ k : V -> Mu -> VC, Ok Γ (k (g v) U) -> Ok Γ (step v U k)) -> Ok Γ (k (l.map g) U) -> Ok Γ (Qb step l U k)
 | [], _, _, hk => hk
 | v :: r, _, hs, hk => hs v (CZ ..) _ (Wj g (λ v hv => hs v (CY _ hv)) hk)
theorem Ya {step : V -> Mu -> (V -> Mu -> VC) -> VC} {U : Mu} {g : Nat -> V} (h : Nat -> V) : ∀ (n p : Nat) {k : List V -> Mu -> VC}, (∀ i, p <= i -> i < p + n -> ∀ k : V -> Mu -> VC, Ok Γ (k (h i) U) -> Ok Γ (step (g i) U k)) -> Ok Γ (k ((List.range' p n).map h) U) -> Ok Γ (Qb step ((List.range' p n).map g) U k)
 | 0, _, _, _, hk => hk
 | n + 1, p, _, hs, hk => hs p (Ex p) (Ie (iS n)) _ (Ya h n (p + 1) (λ i a b => hs i (Nat.le_of_succ_le a) (by rw [ib] at b; exact b)) hk)
section
variable {step : V -> Mu -> (V -> Mu -> VC) -> VC} {k : List V -> Mu -> VC} {x y : Int} {U : Mu} {l : List V} (n : Nat)
theorem wY (hl : l = oP x y) (hn : (y - x).toNat = n) (h : Nat -> V) (hs : ∀ i, i < n -> ∀ k : V -> Mu -> VC, Ok Γ (k (h i) U) -> Ok Γ (step (.int (x + i)) U k)) (hk : Ok Γ (k ((eQ n).map h) U)) : Ok Γ (Qb step l U k) := by
 subst hn hl
 rw [oP, It]
 exact Ya h _ 0 (λ i _ b => hs i (by rw [ig] at b; exact b)) (It ▸ hk)
theorem Bj (hl : l = Fv x y) (hn : (x - y).toNat = n) (h : Nat -> V) (hs : ∀ i, i < n -> ∀ k : V -> Mu -> VC, Ok Γ (k (h i) U) -> Ok Γ (step (.int (x - i)) U k)) (hk : Ok Γ (k ((eQ n).map h) U)) : Ok Γ (Qb step l U k) := by
 subst hn hl
 rw [Fv, It]
 exact Ya h _ 0 (λ i _ b => hs i (by rw [ig] at b; exact b)) (It ▸ hk)
end
end
noncomputable def XY (n : Nat) (l : List V) : List (Option V) := l.map some ++ eX (n - l.length) none
noncomputable def vD (d : Df) (l : List V) (U : Mu) (k : V -> Mu -> Prop) : VC := kA (XY d.n (l ++ d.dl)) λ loc => vS d.s loc U (λ _ U => .fin (k .none U)) (λ v U => .fin (k v U))
noncomputable def Nx (Γ : Nat -> PT) : Nat -> PT := λ f l U k => match Fx f with
 | some d => l.length = d.na /\ Ok Γ (vD d l U k)
 | none => False
theorem UT {a : Int} (h : a.natAbs < 2 ^ 64) : Builtin.Int.intBits a <= 64 := by
 unfold Builtin.Int.intBits
 split
 · omega
 · rename_i hz
   have hz : a ≠ 0 := by simpa using hz
   have : a.natAbs.log2 < 64 := (lK (by omega)).mpr h
   omega
theorem ZC {a b : Int} (h : a.natAbs < 2 ^ 64) : IntMulOk a b := IntMulOk.of_left (UT h)
theorem xp {a b : Int} (h : b.natAbs < 2 ^ 64) : IntMulOk a b := IntMulOk.of_right (UT h)
theorem nn {n : Nat} : (0 : Int) <= n := EK n
theorem Kp {n m : Nat} (h : n <= m) (e : eY m 1000000 = true) : (n : Int) <= 1000000 := Er.mpr (CK h (CR e))
theorem jc {α : Type} (f : α -> Int) : ∀ l : List α, zv (l.map λ x => .int (f x)) = some (l.map f)
 | [] => rfl
 | a :: l => by show (match zv (l.map λ x => .int (f x)) with | some l => some (f a :: l) | none => none) = _; rw [jc f l]; rfl
theorem Au (a b : Int) : a + b - a = b := by rw [iz]; exact ie ..
theorem Qt {a b : Nat} (h : a <= b) : (a : Int) <= b := Er.mpr h
theorem Yp {a b : Nat} (h : a < b) : (a : Int) < b := eG.mpr h
noncomputable def up (Γ : Nat -> PT) : Nat -> PT := λ f l U k => ∃ k0 : V -> Mu -> Prop, (∀ v U, k0 v U -> k v U) /\ Γ f l U k0
noncomputable def Km (Γ : Nat -> PT) : WE := { Γ := up Γ, MT := dA, CT := UI, AT := QX, init := dI, cat := pW, gv := bX }
theorem jl {α : Type} {R : Type 1} : ∀ (l : List α) (n : Nat) (y : α) (k : List α -> R), jH l n y k = k (qy l n y)
 | [], _, _, _ => rfl
 | _ :: r, 0, y, k => copyK_eq r _
 | x :: r, n + 1, y, k => jl r n y _
where
 copyK_eq {α : Type} {R : Type 1} : ∀ (l : List α) (k : List α -> R), kA l k = k l
   | [], _ => rfl
   | x :: r, k => copyK_eq r _
theorem yH : ∀ (l : List MO) (n : Nat) (x : MO) (k : List MO -> VC), Qg l n x k = k (qy l n x)
 | [], _, _, _ => rfl
 | _ :: _, 0, _, _ => rfl
 | y :: r, n + 1, x, k => yH r n x λ r' => k (y :: r')
theorem Ki (a : Nat) (v : V) : ∀ (l : List (Nat × V)) (k : List (Nat × V) -> VC), Qs a v l k = k (put a v l)
 | [], _ => rfl
 | (b, w) :: r, k => by
   show (match eB a b with | true => k ((b, v) :: r) | false => Qs a v r λ r' => k ((b, w) :: r')) = k (bif eB a b then (b, v) :: r else (b, w) :: put a v r)
   cases eB a b with
   | true => rfl
   | false => exact Ki a v r _
section
variable {Γ : Nat -> PT} {x : V}
theorem js {F : Int -> VC} {G : Int -> Prop} (h : Ok Γ (qI x F)) (f : ∀ i, Ok Γ (F i) -> G i) : pI x G := by cases x <;> first | exact f _ h | exact h
theorem fD {F : Nat -> VC} {G : Nat -> Prop} (h : Ok Γ (qS x F)) (f : ∀ i, Ok Γ (F i) -> G i) : pS x G := by cases x <;> first | exact f _ h | exact h
theorem Rg {F : Bool -> VC} {G : Bool -> Prop} (h : Ok Γ (qB x F)) (f : ∀ i, Ok Γ (F i) -> G i) : pB x G := by cases x <;> first | exact f _ h | exact h
theorem Rb {F : Array UInt8 -> VC} {G : Array UInt8 -> Prop} (h : Ok Γ (qY x F)) (f : ∀ i, Ok Γ (F i) -> G i) : pY x G := by cases x <;> first | exact f _ h | exact h
theorem VG {F : List V -> VC} {G : List V -> Prop} (h : Ok Γ (qL x F)) (f : ∀ i, Ok Γ (F i) -> G i) : pL x G := by cases x <;> first | exact f _ h | exact h
theorem zY {F : List V -> VC} {G : List V -> Prop} (h : Ok Γ (qT x F)) (f : ∀ i, Ok Γ (F i) -> G i) : pT x G := by cases x <;> first | exact f _ h | exact h
theorem fF {F : Nat -> Nat -> VC} {G : Nat -> Nat -> Prop} (h : Ok Γ (qO x F)) (f : ∀ i j, Ok Γ (F i j) -> G i j) : pO x G := by cases x <;> first | exact f _ _ h | exact h
theorem fG {F : VC} {G : Prop} (h : Ok Γ (qN x F)) (f : Ok Γ F -> G) : pN x G := by cases x <;> first | exact f h | exact h
theorem Ox {F : List (Nat × V) -> VC} {G : List (Nat × V) -> Prop} (h : Ok Γ (Rf x F)) (f : ∀ i, Ok Γ (F i) -> G i) : OF x G := by cases x <;> first | exact f _ h | exact h
theorem Ow {F : Nat -> VC} {G : Nat -> Prop} (h : Ok Γ (qH x F)) (f : ∀ i, Ok Γ (F i) -> G i) : pH x G := by cases x <;> first | exact f _ h | exact h
theorem Do {F : List V -> VC} {G : List V -> Prop} (h : Ok Γ (oG x F)) (f : ∀ i, Ok Γ (F i) -> G i) : fK x G := by cases x <;> first | exact f _ h | exact h
theorem ZR {l : List V} {F : V -> VC} {G : V -> Prop} (h : Ok Γ (q1 l F)) (f : ∀ i, Ok Γ (F i) -> G i) : p1 l G := match l, h with
 | [x], h => f x h
theorem fH {l : List V} {F : V -> V -> VC} {G : V -> V -> Prop} (h : Ok Γ (q2 l F)) (f : ∀ i j, Ok Γ (F i j) -> G i j) : p2 l G := match l, h with
 | [x, y], h => f x y h
theorem fJ {α : Type} {l : List α} {F : VC} {G : Prop} (h : Ok Γ (q0 l F)) (f : Ok Γ F -> G) : p0 l G := match l, h with
 | [], h => f h
theorem Zk {α : Type} {o : Option α} {F : α -> VC} {G : α -> Prop} (h : Ok Γ (qs o F)) (f : ∀ i, Ok Γ (F i) -> G i) : oS o G := match o, h with
 | some a, h => f a h
variable {o : Option MO}
theorem fW {F : List (Nat × V) -> VC} {G : List (Nat × V) -> Prop} (h : Ok Γ (nA o F)) (f : ∀ i, Ok Γ (F i) -> G i) : mA o G := by cases o <;> first | exact h | (rename_i x; cases x <;> first | exact f _ h | exact h)
theorem OV {F : List V -> VC} {G : List V -> Prop} (h : Ok Γ (nL o F)) (f : ∀ i, Ok Γ (F i) -> G i) : mL o G := by cases o <;> first | exact h | (rename_i x; cases x <;> first | exact f _ h | exact h)
theorem fU {F : List (Nat × V) -> VC} {G : List (Nat × V) -> Prop} (h : Ok Γ (nD o F)) (f : ∀ i, Ok Γ (F i) -> G i) : mD o G := by cases o <;> first | exact h | (rename_i x; cases x <;> first | exact f _ h | exact h)
theorem kj {F : Nat -> VC} {G : Nat -> Prop} (h : Ok Γ (fV o F)) (f : ∀ i, Ok Γ (F i) -> G i) : uR o G := by cases o <;> first | exact h | (rename_i x; cases x <;> first | exact f _ h | exact h)
theorem OU {F : Bool -> Int -> (Int -> Int) -> Nat -> VC} {G : Bool -> Int -> (Int -> Int) -> Nat -> Prop} (h : Ok Γ (nR o F)) (f : ∀ a b c d, Ok Γ (F a b c d) -> G a b c d) : mR o G := by cases o <;> first | exact h | (rename_i x; cases x <;> first | exact f _ _ _ _ h | exact h)
theorem KF {b : Bool} {k : VC} (h : Ok Γ (bq b k)) : b = true /\ Ok Γ k := match b, h with
 | true, h => ⟨rfl, h⟩
theorem Bc {lit : Bool} {p : Prop} {b : Bool} {k : VC} (h : Ok Γ (gd lit p b k)) (f : lit = true -> b = true -> p) : p /\ Ok Γ k := match lit, h, f with
 | true, h, f => ⟨f rfl (KF h).1, (KF h).2⟩
 | false, h, _ => h
theorem fT {c : Prop} {K : Bool -> VC} {k : Bool -> Prop} (hk : ∀ b, Ok Γ (K b) -> k b) (h : Ok Γ (.ways c (K false) (K true))) : ways (¬ c) k := ⟨λ n => hk _ (h.2 n), λ n => hk _ (h.1 (Classical.not_not.mp n))⟩
theorem Wg {c : Prop} {K : Bool -> VC} {k : Bool -> Prop} (hk : ∀ b, Ok Γ (K b) -> k b) (h : Ok Γ (.ways c (K true) (K false))) : ways c k := ⟨λ n => hk _ (h.1 n), λ n => hk _ (h.2 n)⟩
structure gZ (e : E) (x : V) : Prop where
 l : xz e = true -> ∃ i, x = .int i /\ i.natAbs < 2 ^ 64
 i : ∀ n, JV e = some n -> x = .int (n : Int) /\ n <= 1000
variable {y : V}
theorem UY {la lb : Bool} {op : Op} {a b : Int} {K : Int -> VC} {k : Int -> Prop} (hk : ∀ v, Ok Γ (K v) -> k v) (ha : la = true -> a.natAbs < 2 ^ 64) (h : Ok Γ (WK la lb op a b K)) (hb : lb = true -> b.natAbs < 2 ^ 64) : UZ op a b k := by
 cases op with
 | add => exact hk _ h
 | sub => exact hk _ h
 | mul =>
   have z := Bc h λ e _ => (iY.mp e).elim (λ e => ZC (ha e)) λ e => xp (hb e)
   exact ⟨z.1, hk _ z.2⟩
 | pow => cases la with
   | true => exact ⟨⟨h.1.1, h.1.2, ha rfl⟩, hk _ h.2⟩
   | false => exact ⟨h.1, hk _ h.2⟩
 | shl => cases la with
   | true => exact ⟨⟨h.1.1, h.1.2, ha rfl⟩, hk _ h.2⟩
   | false => exact ⟨h.1, hk _ h.2⟩
 | shr => exact have z := Bc h λ _ e => of_decide_eq_true e; ⟨z.1, hk _ z.2⟩
 | band => cases lb with
   | true => exact have z := KF h; ⟨⟨z.2.1, of_decide_eq_true z.1⟩, hk _ z.2.2⟩
   | false => exact ⟨h.1, hk _ h.2⟩
 | bor => exact ⟨h.1, hk _ h.2⟩
 | bxor => exact ⟨h.1, hk _ h.2⟩
 | div => exact have z := Bc h λ e d => have d := of_decide_eq_true d; ⟨d, EP ((lK (Int.natAbs_ne_zero.mpr (IA d))).mpr (hb e)) (by decide)⟩; ⟨z.1, hk _ z.2⟩
 | mod => exact have z := Bc h λ _ d => of_decide_eq_true d; ⟨z.1, hk _ z.2⟩
theorem gZ.n {e : E} {a : Int} (l : gZ e (.int a)) (h : xz e = true) : a.natAbs < 2 ^ 64 := (l.l h).elim λ i z => V.int.inj z.1 ▸ z.2
theorem rc {K : V -> VC} {k : V -> Prop} (hk : ∀ v, Ok Γ (K v) -> k v) {e1 e2 : E} {op : Op} (l1 : gZ e1 x) (l2 : gZ e2 y) (h : Ok Γ (oN (xz e1) (xz e2) op x y K)) : Hb (Km Γ) op x y k := by
 cases x with
 | int a => cases y with
   | int b => exact UY (K := λ z => K (.int z)) (k := λ z => k (.int z)) (λ _ => hk _) l1.n h l2.n
   | _ => exact h
 | str a => cases y with
   | str b => cases op <;> first | exact Zk h λ _ => hk _ | exact h
   | _ => exact h
 | lst a => cases y with
   | lst b => cases op <;> first | exact ⟨h.1, hk _ h.2⟩ | exact h
   | _ => exact h
 | byt a => cases y with
   | int b => cases op <;> first | exact ⟨h.1, hk _ h.2⟩ | exact h
   | _ => exact h
 | _ => exact h
section
variable {K : Bool -> VC} {k : Bool -> Prop} (hk : ∀ b, Ok Γ (K b) -> k b)
include hk
theorem pw (h : Ok Γ (Dq x K)) : Rp x k := by cases x <;> first | exact hk _ h | exact h
theorem FF {o : Cm} {a b : Int} (h : Ok Γ (WJ o a b K)) : ways (FG o a b) k := by
 cases o with
 | eq => exact Wg hk h
 | ne => exact fT hk h
 | lt => exact Wg hk h
 | le => exact Wg hk h
 | gt => exact Wg hk h
 | ge => exact Wg hk h
 | _ => exact ⟨False.elim, λ _ => hk _ h⟩
theorem FD {o : Cm} (h : Ok Γ (match x with
   | .int a => qI y λ b => WJ o a b K
   | .str a => qS y λ b => XA o (K (eB a b)) (K (!Nat.beq a b)) .no
   | .tup a => qT y λ b => qs (zv a) λ a => qs (zv b) λ b => XA o (.ways (a = b) (K true) (K false)) (.ways (a = b) (K false) (K true)) .no
   | .lst a => qL y λ b => .exL (zv a) λ a' => .exL (zv b) λ b' => XA o (.ways (a' = b') (K true) (K false)) (.ways (a' = b') (K false) (K true)) .no
   | _ => .no)) : FE o x y k := by
 have eqn : ∀ {P : Prop}, Ok Γ (XA o (.ways P (K true) (K false)) (.ways P (K false) (K true)) .no) -> rD o (ways P k) (ways (¬ P) k) := λ {P} h => by cases o <;> first | exact Wg hk h | exact fT hk h | exact h
 cases x with
 | int a => exact js h λ b h => FF hk h
 | str a => exact fD h λ b h => by cases o <;> first | exact hk _ h | exact h
 | tup a => exact zY h λ b h => Zk h λ a h => Zk h λ b h => eqn h
 | lst a => exact VG h λ b h => let ⟨a', e1, h⟩ := h; let ⟨b', e2, h⟩ := h; ⟨a', b', e1, e2, eqn h⟩
 | _ => exact h
theorem pV {o : Cm} (h : Ok Γ (KO o x y K)) : KB o x y k := by
 cases o with
 | is => exact fG h (pw hk)
 | isn => exact fG h (pw λ b => hk _)
 | _ => exact FD hk h
theorem dH {neg : Bool} (h : Ok Γ (Dr neg x y K)) : bT neg x y k := by
 cases x with
 | int i => exact zY h λ l h => Zk h λ l h => by cases neg <;> exact ⟨λ c => hk _ (h.1 c), λ c => hk _ (h.2 c)⟩
 | str s => exact zY h λ l h => have z := KF h; ⟨strAll z.1, hk _ z.2⟩
 | _ => exact h
where
 strAll : ∀ {l : List V}, vP l = true -> ∀ v ∈ l, ∃ t, v = .str t
   | x :: r, h, v, hv => by
     cases x with
     | str n => exact (eV.mp hv).elim (λ e => ⟨_, e⟩) (strAll (l := r) h v)
     | _ => exact Bool.noConfusion h
theorem Gj (h : Ok Γ (jG x K)) : yp x k := by
 cases x with
 | bool b => exact hk _ h
 | int i => exact fT hk h
 | none => exact hk _ h
 | _ => exact h
end
variable {U : Mu}
theorem Hl {K : V -> VC} {k : V -> Prop} (hk : ∀ v, Ok Γ (K v) -> k v) {a : Nat} (h : Ok Γ (KP U x a K)) : Yk (Km Γ) U x a k :=
 fF h λ c d (h : Ok Γ (match QX c a with | true => nA (qj U d) λ l => qs (qQ a l) K | false => .no)) => show (match QX c a with | true => mA (qj U d) λ l => oS (qQ a l) k | false => False) by
   cases e : QX c a with
   | true => rw [e] at h; exact fW h λ l h => Zk h hk
   | false => rw [e] at h; exact h
theorem dD {n : Nat} (h : eY n 899 = true) : n < 900 := im (CR h)
section
variable {K : Mu -> VC} {k : Mu -> Prop} (hk : ∀ m, Ok Γ (K m) -> k m)
include hk
theorem Oh {a : Nat} {v : V} (h : Ok Γ (Gb U x a v K)) : Vu (Km Γ) U x a v k :=
 fF h λ c d (h : Ok Γ (match QX c a with | true => nA (qj U d) λ l => bq (eY l.length 899) (Qs a v l λ l' => Qg U d (.attrs l') K) | false => .no)) => show (match QX c a with | true => mA (qj U d) λ l => l.length < 900 /\ k (qy U d (.attrs (put a v l))) | false => False) by
   cases e : QX c a with
   | true =>
     rw [e] at h
     exact fW h λ l h => have z := KF h; ⟨dD z.1, hk _ (by have := z.2; rw [Ki, yH] at this; exact this)⟩
   | false => rw [e] at h; exact h
theorem wm {e : E} {v : V} (l : gZ e y) (h : Ok Γ (Jk (JV e) U x y v K)) : Jt U x y v k := by
 cases x with
 | h d => cases y with
   | int i =>
     exact OV (G := λ l => (0 <= i /\ i < l.length /\ i < 1000000000) /\ k (qy U d (.list (qy l i.toNat v)))) h λ r h => by
       cases q : JV e with
       | none => rw [q] at h; exact ⟨h.1, hk _ h.2⟩
       | some n =>
         rw [q] at h
         obtain ⟨e1, e2⟩ := l.i n q
         obtain rfl := V.int.inj e1
         have z := KF h
         have z2 := z.2
         rw [jl, yH] at z2
         exact ⟨⟨EK _, eG.mpr (CR z.1), EA (Er.mpr e2) (by decide)⟩, hk _ z2⟩
   | str s => exact fU (G := λ l => l.length < 900 /\ k (qy U d (.dict (put s v l)))) h λ r h => have z := KF h; ⟨dD z.1, hk _ (by have := z.2; rw [Ki, yH] at this; exact this)⟩
   | _ => exact h
 | row c n d => exact js h λ i h => OU h λ c' n' f u h => ⟨h.1, js h.2 λ j h => hk _ h⟩
 | _ => exact h
end
theorem Hm {K : V -> VC} {k : V -> Prop} (hk : ∀ v, Ok Γ (K v) -> k v) {e : E} {i : Int} (l : gZ e (.int i)) {r : List V} (h : Ok Γ (ry (JV e) i r K)) : (0 <= i /\ i < 1000000) /\ ∃ v, qj r i.toNat = some v /\ k v := by
 cases q : JV e with
 | none => rw [q] at h; exact ⟨h.1, h.2.imp λ v z => ⟨z.1, hk _ z.2⟩⟩
 | some n =>
   rw [q] at h
   obtain ⟨e1, e2⟩ := l.i n q
   obtain rfl := V.int.inj e1
   have z : oS (qj r n) k := Zk h hk
   exact ⟨⟨EK _, EA (Er.mpr e2) (by decide)⟩, zL z λ v e h => ⟨v, e, h⟩⟩
theorem Ob {K : V -> VC} {k : V -> Prop} (hk : ∀ v, Ok Γ (K v) -> k v) {e : E} (l : gZ e y) (h : Ok Γ (oF (JV e) U x y K)) : DA U x y k := by
 have lk : ∀ {s : Nat} {r : List (Nat × V)}, Ok Γ (qs (qQ s r) K) -> ∃ v, qQ s r = some v /\ k v := λ h => zL (Zk h hk) λ v e h => ⟨v, e, h⟩
 cases x with
 | h d => cases y with
   | int i => exact OV (G := λ r => (0 <= i /\ i < 1000000) /\ ∃ v, qj r i.toNat = some v /\ k v) h λ r h => Hm hk l h
   | str s => exact fU (G := λ r => ∃ v, qQ s r = some v /\ k v) h λ r h => lk h
   | _ => exact h
 | row c n d => exact js h λ i h => OU h λ c' n' f u h => ⟨h.1, hk _ h.2⟩
 | lst r => cases y with
   | int i => exact Hm hk l h
   | _ => exact h
 | tup r => cases y with
   | int i => exact Hm hk l h
   | _ => exact h
 | dic r => exact fD h λ s h => lk h
 | byt b => exact js h λ i h => ⟨h.1, hk _ h.2⟩
 | _ => exact h
section
variable {K : V -> Mu -> VC} {k : V -> Mu -> Prop} (hk : ∀ v m, Ok Γ (K v m) -> k v m)
include hk
theorem pc (h : Ok Γ (oJ x U K)) : Fg x U k := by
 cases x with
 | lst l => exact ⟨h.1, hk _ _ h.2⟩
 | tup l => exact ⟨h.1, hk _ _ h.2⟩
 | byt b => exact ⟨h.1, hk _ _ h.2⟩
 | h d => exact kj h λ n h => ⟨h.1, hk _ _ h.2⟩
 | _ => exact h
theorem PZ (h : Ok Γ (oM x U K)) : hX x U k := by
 cases x with
 | lst l => exact ZR h λ x h => js h λ i h => ⟨h.1, hk _ _ h.2⟩
 | h d => exact kj h λ n h => ⟨h.1, λ b e => hk _ _ (h.2 b e)⟩
 | _ => exact h
theorem RK {b : Bi} {l : List V} (h : Ok Γ (rx b l U K)) : He b l U k := by
 cases b with
 | len => exact ZR h λ x h => pc hk h
 | min => exact fH h λ x y h => js h λ a h => js h λ b h => hk _ _ h
 | max => exact fH h λ x y h => js h λ a h => js h λ b h => hk _ _ h
 | abs => exact ZR h λ x h => js h λ a h => hk _ _ h
 | int => exact ZR h λ x h => Rg h λ a h => hk _ _ h
 | sum => exact ZR h λ x h => VG h λ l h => h.imp λ v z => ⟨z.1, hk _ _ z.2⟩
 | bytes => exact ZR h λ x h => PZ hk h
 | bytearray => exact fJ h λ h => hk _ _ h
 | list => exact ZR h λ x h => zY h λ l h => ⟨h.1, hk _ _ h.2⟩
 | isInt => exact ZR h λ x h => js h λ a h => hk _ _ h
 | isBool => exact ZR h λ x h => js h λ a h => hk _ _ h
 | isTup => exact ZR h λ x h => zY h λ a h => hk _ _ h
 | _ => exact h
theorem RH {b : Bi} {l : List V} (h : Ok Γ (aV b x l U K)) : RJ b x l U k := by
 cases b with
 | get =>
   exact Ox h λ d h => fH h λ s y h => fD h λ s h => show Fo (qQ s d) y λ v => k v U by
     replace h : Ok Γ (oK (qQ s d) y λ v => K v U) := h
     cases e : qQ s d with
     | none => rw [e] at h; exact hk _ _ h
     | some v => rw [e] at h; exact hk _ _ h
 | bitlen => exact js h λ i h => fJ h λ h => ⟨h.1, hk _ _ h.2⟩
 | append => exact Ow h λ d h => ZR h λ x h => kj h λ n h => js h λ i h => ⟨h.1, by have := h.2; rw [yH] at this; exact hk _ _ this⟩
 | extend => exact Ow h λ d h => ZR h λ x h => kj h λ n h => Rb h λ i h => ⟨h.1, by have := h.2; rw [yH] at this; exact hk _ _ this⟩
 | _ => exact h
omit hk
theorem hZ {b : Bi} {F : VC} {G : Prop} (h : Ok Γ (de b x U F)) (f : Ok Γ F -> G) : Ha b x U /\ G := by
 cases b with
 | get => cases x <;> first | exact ⟨trivial, f h⟩ | exact False.elim h
 | bitlen => cases x <;> first | exact ⟨trivial, f h⟩ | exact False.elim h
 | append => cases x <;> first | exact (λ z => ⟨JM z λ l e h => by show uR _ _; rw [e]; trivial, JM z λ l e h => f h⟩) (kj (G := λ _ => Ok Γ F) h λ _ h => h) | exact False.elim h
 | extend => cases x <;> first | exact (λ z => ⟨JM z λ l e h => by show uR _ _; rw [e]; trivial, JM z λ l e h => f h⟩) (kj (G := λ _ => Ok Γ F) h λ _ h => h) | exact False.elim h
 | _ => exact False.elim h
end
end
section
variable {Γ : Nat -> PT}
noncomputable def Ax (Γ : Nat -> PT) (e : E) : Prop := ∀ {loc : List (Option V)} {U : Mu} {K : V -> Mu -> VC} {k : V -> Mu -> Prop}, Ok Γ (vE loc e U K) -> (∀ v m, Ok Γ (K v m) -> k v m) -> qx (Km Γ) loc e U k
noncomputable def Aw (Γ : Nat -> PT) (e : E) : Prop := ∀ {loc : List (Option V)} {U : Mu} {K : Bool -> Mu -> VC} {k : Bool -> Mu -> Prop}, Ok Γ (vT loc e U K) -> (∀ v m, Ok Γ (K v m) -> k v m) -> Xs (Km Γ) loc e U k
structure Sn (Γ : Nat -> PT) (x : E) : Prop where
 e : Ax Γ x
 t : Aw Γ x
theorem bW {i : Int} {n : Nat} (h : JV (.int i) = some n) : V.int i = .int (n : Int) /\ n <= 1000 := by
 cases i with
 | negSucc m => exact qg h
 | ofNat m =>
   replace h : (match eY m 1000 with | true => some m | false => none) = some n := h
   cases e : eY m 1000 with
   | false => rw [e] at h; exact qg h
   | true => rw [e] at h; exact Option.some.inj h ▸ ⟨rfl, CR e⟩
section
variable {loc : List (Option V)} {U : Mu}
theorem Sn.lit {e : E} (s : Sn Γ e) {K : V -> Mu -> VC} {k : V -> Mu -> Prop} (h : Ok Γ (vE loc e U K)) (hk : ∀ v m, gZ e v -> Ok Γ (K v m) -> k v m) : qx (Km Γ) loc e U k := by
 cases e with
 | int i => exact hk _ _ ⟨λ q => ⟨i, rfl, of_decide_eq_true q⟩, λ n q => bW q⟩ h
 | glob g =>
   replace h : Ok Γ (qs (bX g) λ v => K v U) := h
   show oS (bX g) λ v => k v U
   have l : ∀ v, bX g = some v -> gZ (.glob g) v := λ v q => ⟨λ z => by
     replace z : (match bX g with | some (.int i) => decide (i.natAbs < 2 ^ 64) | _ => false) = true := z
     rw [q] at z
     cases v <;> first | exact ff z | exact ⟨_, rfl, of_decide_eq_true z⟩, λ n z => qg z⟩
   cases q : bX g with
   | none => rw [q] at h; exact h
   | some v => rw [q] at h; exact hk v U (l v q) h
 | _ => exact s.e h λ v m => hk v m ⟨λ q => ff q, λ n q => qg q⟩
theorem WI {o : Option (Option V)} {F : V -> VC} {G : V -> Prop} (h : Ok Γ (Dp true o F)) (f : ∀ v, Ok Γ (F v) -> G v) : fL o G /\ uy o G := by
 match o, h with
 | some (some v), h => cases v <;> first | exact ⟨f _ h, f _ h⟩ | exact h.elim
theorem Xz {o : Option (Option V)} {F : List V -> VC} {G : List V -> Prop} (h : Ok Γ (Gc o F)) (f : ∀ v, Ok Γ (F v) -> G v) : ux o G := by
 match o, h with
 | some (some v), h => cases v <;> first | exact f _ h | exact h.elim
theorem Dt (a b : Int) : (qU a b 1).map V.int = oP a b := by
 rw [QO, io]; exact EU λ i _ => congrArg (λ z => V.int (a + z)) (iB _)
theorem Fu (a b : Int) : (qU a b (-1)).map V.int = Fv a b := by
 rw [QP, io]; exact EU λ i _ => congrArg V.int (show a + -1 * (i : Int) = a - i by rw [Int.neg_mul, iB, <- Int.sub_eq_add_neg])
theorem wz {a b c : V} {F : List V -> VC} {G : Int -> Int -> Int -> Prop} (h : Ok Γ (Xy a b c F))
   (f : ∀ i j l, (i.natAbs <= 1000000000000 /\ j.natAbs <= 1000000000000 /\ (qU i j l).length <= 1000000) -> Ok Γ (F ((qU i j l).map .int)) -> G i j l) : pI a λ a => pI b λ b => pI c λ c => G a b c :=
 js h λ i h => js h λ j h => js h λ l h => by
   by_cases e : l = 1
   · rw [decide_eq_true e] at h
     subst e
     exact f _ _ _ (by rw [QO, ee, Ey]; exact h.1) ((Dt i j).symm ▸ h.2)
   · rw [decide_eq_false e] at h
     by_cases e : l = -1
     · replace h : Ok Γ (match decide (l = -1) with | true => .and (i.natAbs <= 1000000000000 /\ j.natAbs <= 1000000000000 /\ (i - j).toNat <= 1000000) (.lis (Fv i j) F) | false => .no) := h
       rw [decide_eq_true e] at h
       subst e
       exact f _ _ _ (by rw [QP, ee, Ey]; exact h.1) ((Fu i j).symm ▸ h.2)
     · replace h : Ok Γ (match decide (l = -1) with | true => .and (i.natAbs <= 1000000000000 /\ j.natAbs <= 1000000000000 /\ (i - j).toNat <= 1000000) (.lis (Fv i j) F) | false => .no) := h
       rw [decide_eq_false e] at h
       exact h.elim
theorem vm {step : V -> Mu -> (V -> Mu -> VC) -> VC} {step' : V -> Mu -> (V -> Mu -> Prop) -> Prop} (hs : ∀ v {U K k}, Ok Γ (step v U K) -> (∀ x m, Ok Γ (K x m) -> k x m) -> step' v U k) : ∀ (l : List V) {U : Mu} {K : List V -> Mu -> VC} {k : List V -> Mu -> Prop},
   Ok Γ (Qb step l U K) -> (∀ x m, Ok Γ (K x m) -> k x m) -> YE step' l U k
 | [], _, _, _, h, hk => hk _ _ h
 | v :: l, _, _, _, h, hk => hs v h λ x m h => vm hs l h λ r m => hk (x :: r) m
theorem KG : ∀ {xs : List Nat} {vs : List V} {loc : List (Option V)} {F : List (Option V) -> VC} {G : List (Option V) -> Prop}, Ok Γ (Xk xs vs loc F) -> (∀ l, Ok Γ (F l) -> G l) -> oS (bindL xs vs loc) G
 | [], [], _, _, _, h, f => f _ h
 | x :: xs, v :: vs, loc, F, _, h, f => KG (xs := xs) (vs := vs) (by have z : Ok Γ (jH loc x (some v) λ loc => Xk xs vs loc F) := h; rw [jl] at z; exact z) f
theorem Yg {xs : List Nat} {one : Bool} {v : V} {F : List (Option V) -> VC} {G : List (Option V) -> Prop} (h : Ok Γ (Yh xs one v loc F)) (f : ∀ l, Ok Γ (F l) -> G l) : oS (zx xs one v loc) G := by
 cases one with
 | true => exact KG h f
 | false => cases v <;> first | exact KG h f | exact h
end
theorem OO {e : E} (h : JS e = false) : Aw Γ e := λ {loc U K k} h' _ => by cases e <;> first | exact Bool.noConfusion h | exact h'
theorem Sn.o {e : E} (s : Ax Γ e) (h : JS e = false) : Sn Γ e := ⟨s, OO h⟩
theorem jI {x : V} {K : Bool -> VC} {k : Bool -> Prop} (h : Ok Γ (jG x K)) (hk : ∀ b, Ok Γ (K b) -> k b) : yp x k := Gj hk h
theorem kB {x y : V} {o : Cm} {K : Bool -> VC} {k : Bool -> Prop} (h : Ok Γ (KO o x y K)) (hk : ∀ b, Ok Γ (K b) -> k b) : KB o x y k := pV hk h
theorem re {b : Bi} {l : List V} {U : Mu} {K : V -> Mu -> VC} {k : V -> Mu -> Prop} (h : Ok Γ (rx b l U K)) (hk : ∀ v m, Ok Γ (K v m) -> k v m) : He b l U k := RK hk h
theorem vM {U : Mu} {x : V} {a : Nat} {K : V -> VC} {k : V -> Prop} (h : Ok Γ (KP U x a K)) (hk : ∀ v, Ok Γ (K v) -> k v) : Yk (Km Γ) U x a k := Hl hk h
theorem WM {f : Nat} {l : List V} {U : Mu} {K : V -> Mu -> VC} {k : V -> Mu -> Prop} (h : Ok Γ (.call f l U K)) (hk : ∀ v m, Ok Γ (K v m) -> k v m) : up Γ f l U k := ⟨_, hk, h⟩
theorem uU {l : List V} {F : List V -> VC} (h : Ok Γ (.lis l F)) : Ok Γ (F l) := h
theorem zE : ∀ e : E, Sn Γ e := by
 intro e
 induction e with
 | int i => exact .o (λ h hk => hk _ _ h) rfl
 | none => exact .o (λ h hk => hk _ _ h) rfl
 | bool b => exact ⟨λ h hk => hk _ _ h, λ h hk => hk _ _ h⟩
 | str n => exact .o (λ h hk => hk _ _ h) rfl
 | loc i => exact ⟨λ h hk => (WI h λ v => hk v _).1, λ h hk => (WI h λ v h => jI h λ t => hk t _).2⟩
 | glob g => exact .o (λ h hk => Zk h λ v => hk v _) rfl
 | bin o a b ha hb => exact .o (λ h hk => ha.lit h λ x m lx h => hb.lit h λ y m ly h => rc (λ z => hk z _) lx ly h) rfl
 | cmp o a b ha hb => exact ⟨λ h hk => ha.e h λ x m h => hb.e h λ y m h => kB h λ c => hk _ _, λ h hk => ha.e h λ x m h => hb.e h λ y m h => kB h λ c => hk c _⟩
 | cmp2 o p a b c ha hb hc =>
   exact ⟨λ h hk => ha.e h λ x m h => hb.e h λ y m h => kB h λ t h => by cases t with | true => exact hc.e h λ z m h => kB h λ c => hk _ _ | false => exact hk _ _ h,
     λ h hk => ha.e h λ x m h => hb.e h λ y m h => kB h λ t h => by cases t with | true => exact hc.e h λ z m h => kB h λ c => hk c _ | false => exact hk _ _ h⟩
 | inn neg a b ha hb => exact ⟨λ h hk => ha.e h λ x m h => hb.e h λ y m h => dH (λ c => hk _ _) h, λ h hk => ha.e h λ x m h => hb.e h λ y m h => dH (λ c => hk c _) h⟩
 | and a b ha hb => exact ⟨λ h hk => ha.e h λ x m h => jI h λ c h => by cases c with | true => exact hb.e h hk | false => exact hk _ _ h, λ h hk => ha.t h λ c m h => by cases c with | true => exact hb.t h hk | false => exact hk _ _ h⟩
 | or a b ha hb => exact ⟨λ h hk => ha.e h λ x m h => jI h λ c h => by cases c with | true => exact hk _ _ h | false => exact hb.e h hk, λ h hk => ha.t h λ c m h => by cases c with | true => exact hk _ _ h | false => exact hb.t h hk⟩
 | not a ha => exact ⟨λ h hk => ha.e h λ x m h => jI h λ c => hk _ _, λ h hk => ha.t h λ c m => hk _ _⟩
 | ite c a b hc ha hb => exact ⟨λ h hk => hc.t h λ c m h => by cases c with | true => exact ha.e h hk | false => exact hb.e h hk, λ h hk => hc.t h λ c m h => by cases c with | true => exact ha.t h hk | false => exact hb.t h hk⟩
 | attr e a he => exact ⟨λ h hk => he.e h λ x m h => vM h λ v => hk v _, λ h hk => he.e h λ x m h => vM h λ v h => jI h λ t => hk t _⟩
 | sub e i he hi => exact .o (λ h hk => he.e h λ x m h => hi.lit h λ y m ly h => Ob (λ v => hk v _) ly h) rfl
 | slTo e j he hj => exact .o (λ h hk => he.e h λ x m h => hj.e h λ y m h => VG h λ l h => js h λ j h => ⟨h.1, hk _ _ h.2⟩) rfl
 | slFrom e j he hj => exact .o (λ h hk => he.e h λ x m h => hj.e h λ y m h => VG h λ l h => js h λ j h => ⟨h.1, hk _ _ h.2⟩) rfl
 | call f args ha => exact ⟨λ h hk => ha.e h λ a m h => zY h λ l h => WM h hk, λ h hk => ha.e h λ a m h => zY h λ l h => WM h λ v m h => jI h λ t => hk t m⟩
 | cmeth c m args ha => exact .o (λ h hk => Zk h λ f h => ha.e h λ a m h => zY h λ l h => WM h hk) rfl
 | meth o m args ho ha =>
   exact .o (λ {loc U K k} h hk => ho.e h λ x U h => fF h λ c d h => Zk h λ f h => fW h λ al (h : Ok Γ (match qQ m al with | .none => vE loc args U λ a U => qT a λ l => .call f (x :: l) U K | some _ => .no)) =>
     show (match qQ m al with | .none => qx (Km Γ) loc args U λ a U => pT a λ l => up Γ f (x :: l) U k | some _ => False) by
       cases e : qQ m al with
       | none => rw [e] at h; exact ha.e h λ a m h => zY h λ l h => WM h hk
       | some v => rw [e] at h; exact h) rfl
 | new c args ha => exact .o (λ h hk => Zk h λ g h => Zk h λ f h => ha.e h λ a m h => zY h λ l h => WM h λ v m h => fG h (hk _ _)) rfl
 | bi b args ha => exact ⟨λ h hk => ha.e h λ a m h => zY h λ l h => re h hk, λ h hk => ha.e h λ a m h => zY h λ l h => re h λ v m h => jI h λ t => hk t m⟩
 | bm b o args ho ha => exact .o (λ h hk => ho.e h λ x m h => hZ h λ h => ha.e h λ a m h => zY h λ l h => RH hk h) rfl
 | lenOwn x => exact .o (λ h hk => Xz h λ l h => ⟨h.1, hk _ _ h.2⟩) rfl
 | nil => exact .o (λ h hk => hk _ _ h) rfl
 | cons e es he hs => exact .o (λ h hk => he.e h λ x m h => hs.e h λ y m h => zY h λ l h => hk _ _ h) rfl
 | tup es hs => exact .o (λ h hk => hs.e h hk) rfl
 | lst es hs => exact .o (λ h hk => hs.e h λ y m h => zY h λ l h => hk _ _ h) rfl
 | lstH es hs => exact .o (λ h hk => hs.e h λ y m h => zY h λ l h => hk _ _ h) rfl
 | rowH es hs => exact .o (λ h hk => hs.e h λ y m h => zY h λ l h => Zk h λ l h => hk _ _ h) rfl
 | dic ks es hs => exact .o (λ h hk => hs.e h λ y m h => zY h λ l h => hk _ _ h) rfl
 | dicH ks es hs => exact .o (λ h hk => hs.e h λ y m h => zY h λ l h => fU h λ e h => fJ h (hk _ _)) rfl
 | compR x lo hi st e h1 h2 h3 h4 =>
   exact .o (λ {loc U K k} h hk => h1.e h λ a m h => h2.e h λ b m h => h3.e h λ c m h => wz h λ i j l z h => ⟨z, vm (λ v {U K k} h hk => h4.e (by rw [jl] at h; exact h) hk) _ h λ l m => hk _ _⟩) rfl
 | compL xs src e h1 h2 => exact .o (λ {loc U K k} h hk => h1.e h λ a m h => VG h λ l h => ⟨h.1, vm (step' := λ v U k => oS (zx xs false v loc) λ loc => qx (Km Γ) loc e U k) (λ v {U K k} h hk => Yg h λ loc h => h2.e h hk) _ (uU h.2) λ l m => hk _ _⟩) rfl
noncomputable def CD (Γ : Nat -> PT) (s : S) : Prop := ∀ {loc : List (Option V)} {U : Mu} {Kn : List (Option V) -> Mu -> VC} {Kr : V -> Mu -> VC} {kn : List (Option V) -> Mu -> Prop} {kr : V -> Mu -> Prop}, Ok Γ (vS s loc U Kn Kr) -> (∀ l m, Ok Γ (Kn l m) -> kn l m) -> (∀ v m, Ok Γ (Kr v m) -> kr v m) -> zS (Km Γ) s loc U kn kr
theorem ZV {step : V -> List (Option V) -> Mu -> (List (Option V) -> Mu -> VC) -> VC} {step' : V -> List (Option V) -> Mu -> (List (Option V) -> Mu -> Prop) -> Prop} (hs : ∀ v {loc U K k}, Ok Γ (step v loc U K) -> (∀ x m, Ok Γ (K x m) -> k x m) -> step' v loc U k) : ∀ (l : List V) {loc : List (Option V)} {U : Mu} {K : List (Option V) -> Mu -> VC} {k : List (Option V) -> Mu -> Prop},
   Ok Γ (jp step l loc U K) -> (∀ x m, Ok Γ (K x m) -> k x m) -> jZ step' l loc U k
 | [], _, _, _, _, h, hk => hk _ _ h
 | v :: l, _, _, _, _, h, hk => hs v h λ x m h => ZV hs l h hk
theorem vZ {c : List (Option V) -> Mu -> (Bool -> Mu -> VC) -> VC} {c' : List (Option V) -> Mu -> (Bool -> Mu -> Prop) -> Prop} {b : List (Option V) -> Mu -> (List (Option V) -> Mu -> VC) -> VC} {b' : List (Option V) -> Mu -> (List (Option V) -> Mu -> Prop) -> Prop}
   (hc : ∀ {loc U K k}, Ok Γ (c loc U K) -> (∀ x m, Ok Γ (K x m) -> k x m) -> c' loc U k) (hb : ∀ {loc U K k}, Ok Γ (b loc U K) -> (∀ x m, Ok Γ (K x m) -> k x m) -> b' loc U k) : ∀ (n : Nat) {loc : List (Option V)} {U : Mu} {K : List (Option V) -> Mu -> VC} {k : List (Option V) -> Mu -> Prop},
   Ok Γ (Jj c b n loc U K) -> (∀ x m, Ok Γ (K x m) -> k x m) -> kM c' b' n loc U k
 | 0, _, _, _, _, h, _ => h
 | n + 1, _, _, _, _, h, hk => hc h λ t m h => by cases t with | true => exact hb h λ x m h => vZ @hc @hb n h hk | false => exact hk _ _ h
theorem wb : ∀ (ts : List Tg) (vs : List V) {loc : List (Option V)} {U : Mu} {K : List (Option V) -> Mu -> VC} {k : List (Option V) -> Mu -> Prop}, Ok Γ (ol loc ts vs U K) -> (∀ x m, Ok Γ (K x m) -> k x m) -> Xx (Km Γ) loc ts vs U k
 | [], [], _, _, _, _, h, hk => hk _ _ h
 | .nm x :: ts, v :: vs, loc, U, K, _, h, hk => wb ts vs (by have z : Ok Γ (jH loc x (some v) λ loc => ol loc ts vs U K) := h; rw [jl] at z; exact z) hk
 | .sb b i :: ts, v :: vs, _, _, _, _, h, hk => (zE b).e h λ x m h => (zE i).lit h λ y m ly h => wm (λ m h => wb ts vs h hk) ly h
 | [], _ :: _, _, _, _, _, h, _ => h
 | .nm _ :: _, [], _, _, _, _, h, _ => h
 | .sb _ _ :: _, [], _, _, _, _, h, _ => h
theorem Yr {loc : List (Option V)} {x : Nat} {v : Option V} {K : List (Option V) -> VC} (h : Ok Γ (jH loc x v K)) : Ok Γ (K (qy loc x v)) := jl loc x v K ▸ h
theorem di {U : Mu} {x : V} {a : Nat} {v : V} {K : Mu -> VC} {k : Mu -> Prop} (h : Ok Γ (Gb U x a v K)) (hk : ∀ m, Ok Γ (K m) -> k m) : Vu (Km Γ) U x a v k := Oh hk h
theorem Gx {e : E} {U : Mu} {x y v : V} {K : Mu -> VC} {k : Mu -> Prop} (ly : gZ e y) (h : Ok Γ (Jk (JV e) U x y v K)) (hk : ∀ m, Ok Γ (K m) -> k m) : Jt U x y v k := wm hk ly h
theorem ra {a b : Nat} {k : VC} (h : Ok Γ (bq (eB a b) k)) : a = b /\ Ok Γ k := ⟨em (KF h).1, (KF h).2⟩
theorem oO : ∀ s : S, CD Γ s := by
 intro s
 induction s with
 | nop => exact λ h hn hr => hn _ _ h
 | seq a b ha hb => exact λ h hn hr => ha h (λ l m h => hb h hn hr) hr
 | asg x e => exact λ h hn hr => (zE e).e h λ v m h => hn _ _ (Yr h)
 | asgT ts e => exact λ h hn hr => (zE e).e h λ v m h => zY h λ l h => have z := ra h; ⟨z.1, wb ts l z.2 hn⟩
 | asgR ts e => exact λ h hn hr => (zE e).e h λ v m h => zY h λ l h => have z := ra h; ⟨z.1, wb _ _ z.2 hn⟩
 | sattr b a e => exact λ h hn hr => (zE e).e h λ v m h => (zE b).e h λ x m h => di h λ m => hn _ m
 | ssub b i e => exact λ h hn hr => (zE e).e h λ v m h => (zE b).e h λ x m h => (zE i).lit h λ y m ly h => Gx ly h λ m => hn _ m
 | aug o b a e =>
   exact λ h hn hr => (zE b).e h λ x m h => vM h λ old h => (zE e).lit h λ v m lv h => js h λ i h => by
     cases v with
     | int j => exact UY (la := false) (lb := xz e) (λ z h => di h λ m => hn _ m) (λ q => ff q) h lv.n
     | _ => exact h
 | ret e => exact λ h hn hr => (zE e).e h hr
 | ex e => exact λ h hn hr => (zE e).e h λ v m h => hn _ _ h
 | ite c a b ha hb => exact λ h hn hr => (zE c).t h λ t m h => by cases t with | true => exact ha h hn hr | false => exact hb h hn hr
 | fail => exact λ h hn hr => h
 | forL xs one e b hb => exact λ {loc U Kn Kr kn kr} h hn hr => (zE e).e h λ v m h => Do h λ l h => ⟨h.1, ZV (step' := λ v loc U k => oS (zx xs one v loc) λ loc => zS (Km Γ) b loc U k kr) (λ v {loc U K k} h hk => Yg h λ loc h => hb h hk hr) _ (uU h.2) hn⟩
 | forR x lo hi st b hb => exact λ h hn hr => (zE lo).e h λ a m h => (zE hi).e h λ b m h => (zE st).e h λ c m h => wz h λ i j l z h => ⟨z, ZV (λ v {loc U K k} h hk => hb (Yr h) hk hr) _ h hn⟩
 | forE x y e b hb => exact λ {loc U Kn Kr kn kr} h hn hr => (zE e).e h λ v m h => VG h λ l h => ⟨h.1, ZV (step' := λ v loc U k => oS (zx [x, y] false v loc) λ loc => zS (Km Γ) b loc U k kr) (λ v {loc U K k} h hk => Yg h λ loc h => hb h hk hr) _ (uU h.2) hn⟩
 | whil c b hb => exact λ {loc U Kn Kr kn kr} h hn hr => let ⟨n, h⟩ := h; ⟨n, vZ (c := λ loc U k => vT loc c U k) (b := λ loc U k => vS b loc U k Kr) (c' := λ loc U k => Xs (Km Γ) loc c U k) (b' := λ loc U k => zS (Km Γ) b loc U k kr) (λ h hk => (zE c).t h hk) (λ h hk => hb h hk hr) n h hn⟩
 | app x e => exact λ h hn hr => Xz h λ l h => ⟨h.1, (zE e).e h.2 λ v m h => hn _ _ (Yr h)⟩
 | own x es => exact λ h hn hr => (zE es).e h λ v m h => zY h λ l h => hn _ _ (Yr h)
 | own2 x y => exact λ h hn hr => hn _ _ (Yr (Yr h))
 | own3 x y z a b es => exact λ h hn hr => (zE a).e h λ u m h => (zE b).e h λ v m h => (zE es).e h λ w m h => zY h λ l h => hn _ _ (Yr (Yr (Yr h)))
 | frz x => exact λ h hn hr => Xz h λ l h => hn _ _ (Yr h)
end
end Mi
end
section
namespace Mi
open PySem PySem.W PyProof.Rows PySem.Spec PyProof.V PySem.SeqAt PySem.Calls
section
variable {M : Model} {A : Around} {E : Value -> Shared -> Prop} {s : Shared} {K : Frag} {x C L f : Addr} {h₀ : Heap} {m : Str -> Option Value} {ox : Obj} {od : Option Obj} {i v : Value}
theorem Ju {name : Str} {args : List Value} {Q : Option Value -> Shared -> Prop} (X : K.In s.heap) (I : InstAt s.heap x ox C od)
   (hs : findIn K (.ref C) name = some (some (.ref f))) (hf : typeIn K (.ref f) = some (.type "function")) (h : wpAny M A (call (.ref f) (.ref x :: args)) (λ v => Q (some v)) E s) :
   wpAny M A (callSpecial? (.ref x) name args) Q E s := by
 refine wpAny_bind (wpAny_bind (qa (I.type.here (qa ((looks_findIn X hs).here ?_)))))
 refine qc (wpAny_bind (qa ((bind_fn X _ hf).here ?_)))
 exact wpAny_bind (ql h (λ _ _ z => wpAny_pure z) λ _ _ z => z)
theorem xG {Q : Unit -> Shared -> Prop} (F : Fr h₀ L s.heap m) (X₀ : K.In h₀) (I : InstAt s.heap x ox C od) (hq : noSeq K C = true) (hs : findIn K (.ref C) "__setitem__" = some (some (.ref f))) (hf : isFn K (.ref f) = true)
   (h : wpAny M A (call (.ref f) [.ref x, i, v]) (λ _ s' => Q () s') E s) : wpAny M A (setItem (.ref x) i v) Q E s := by
 have X := X₀.keeps F.keep
 unfold setItem sequenceKey
 refine qc (wpAny_bind (wpAny_bind (qa (I.type.here ?_))))
 refine wpAny_bind (qa ((anyM_none X hq).here ?_))
 rw [if_pos (show (!false) = true from rfl)]
 exact wpAny_pure (wpAny_bind (Ju X I hs (beq_iff_eq.mp hf) (ql h (λ _ _ z => wpAny_pure z) λ _ _ z => z)))
end
section
variable {prog : Program} {w : World} {A : Around} {E : Value -> Shared -> Prop} {s : Shared} {K : Frag} {x C L f : Addr} {h₀ : Heap} {m : Str -> Option Value} {ox : Obj} {od : Option Obj}
theorem Oc {value slice : Expr} {i : Value} {Q : Value -> Shared -> Prop} (F : Fr h₀ L s.heap m) (X₀ : K.In h₀) (I : InstAt s.heap x ox C od) (hs : findIn K (.ref C) "__getitem__" = some (some (.ref f))) (hf : fnIn K f = true) (hfn : isFn K (.ref f) = true)
   (h : wpAny (model prog w) A.in1 (call (.ref f) [.ref x, i]) Q E s)
   (hsl : subscripted slice true (.ref x) i = runValue (.builtin "lifetime.subscript" ⟨[.ref x, i], []⟩)) :
   wpAny (model prog w) A (subscriptTail value slice (.ref x) i) Q E s := by
 have X := X₀.keeps F.keep
 unfold fnIn at hf
 split at hf
 · rename_i e
   unfold subscriptTail getitemInPython
   refine wpAny_bind (wpAny_bind (wpAny_bind (qa (I.type.here (qa ((looks_findIn X hs).here ?_))))))
   dsimp only
   refine wpAny_bind (qa (wpAny_load (X _ _ e) (wpAny_pure ?_)))
   dsimp only
   rw [hsl]
   refine wpAny_bind (yl rfl (codeAny_builtin entry_sub ?_))
   unfold Builtin.«lifetime.subscript»
   refine wpAny_bind (Ju X I hs (beq_iff_eq.mp hfn) (ql h (λ v s' z => ?_) λ _ _ z => z))
   refine wpAny_pure ?_
   show wpAny (model prog w) A (letTemporaryGo value (.ref x) v >>= λ _ => pure v) Q E s'
   exact wpAny_bind (qa (wpAny_letTemporaryGo (wpAny_pure z)))
 · cases hf
end
inductive rr (W : Wd) : Prop
 | mk (fg : Nat) (cg : Cx) (bg rs : List Stmt) (p1 p2 p3 p4 p5 p6 p7 p8 p9 p10 p11 p12 p13 p14 : Pos) (k : Nat) (f1 : findIn W.K (.ref (W.N.ca 7)) "__getitem__" = some (some (.ref fg))) (f2 : fnIn W.K fg = true) (f3 : isFn W.K (.ref fg) = true) (f4 : ZO W.K fg cg 2 bg []) (f5 : ZT cg 2) (k0 : cg.kd 0 = 0) (k1 : cg.kd 1 = 0) (h : isG cg "START" = true)
   (e : bg = [.If (.UnaryOp .Not (.Compare (.Constant (.int 0) k p1) [.LtE, .Lt] [.Name (cg.nl 1) p2, .Attribute (.Name (cg.nl 0) p3) "count" p4] p5) p6) rs [] p7, .Return (some (.Call (.Attribute (.Attribute (.Name (cg.nl 0) p8) "learnt" p9) "get" p10) [.Name (cg.nl 1) p11, .Name "START" p12] [] p13)) p14]) (l : (p10.endLine == p13.line) = true)
inductive rp (W : Wd) : Prop
 | mk (fg : Nat) (cg : Cx) (bg rs : List Stmt) (p1 p2 p3 p4 p5 p6 p7 p8 p9 p10 p11 p12 p13 : Pos) (k : Nat) (f1 : findIn W.K (.ref (W.N.ca 7)) "__setitem__" = some (some (.ref fg))) (f2 : noSeq W.K (W.N.ca 7) = true) (f3 : isFn W.K (.ref fg) = true) (f4 : ZO W.K fg cg 3 bg []) (f5 : ZT cg 3) (k0 : cg.kd 0 = 0) (k1 : cg.kd 1 = 0) (k2 : cg.kd 2 = 0)
   (e : bg = [.If (.UnaryOp .Not (.Compare (.Constant (.int 0) k p1) [.LtE, .Lt] [.Name (cg.nl 1) p2, .Attribute (.Name (cg.nl 0) p3) "count" p4] p5) p6) rs [] p7, .Assign [.Subscript (.Attribute (.Name (cg.nl 0) p8) "learnt" p9) (.Name (cg.nl 1) p10) p11] (.Name (cg.nl 2) p12) p13])
structure gY (W : Wd) : Prop where
 H : Qf W.N W.prog W.w W.T W.K
 at0 : W.T.AT 7 0 = true
 at1 : W.T.AT 7 1 = true
 an0 : W.N.an 0 = "count"
 an1 : W.N.an 1 = "learnt"
 start : ∃ t, nsIn W.K mainGlobals "START" = some (some (.int 1024 t))
 get : rr W
 set : rp W
section
variable {W : Wd}
theorem ZP {slice : Expr} (h : zf slice = true) (o i : Value) : subscripted slice true o i = runValue (.builtin "lifetime.subscript" ⟨[o, i], []⟩) := by
 unfold zf at h
 cases slice <;> first | rfl | cases h
theorem Jl (kvs : List (Int × Value)) (k j : Int) (v : Value) : valueAt (stored kvs k v) j = if j = k then some v else valueAt kvs j := by
 unfold stored valueAt
 by_cases h : kvs.any (λ kv => kv.1 = k) = true
 · rw [if_pos h]
   have key : ∀ l : List (Int × Value), l.any (λ kv => kv.1 = k) = true -> ((l.map λ kv => if kv.1 = k then (kv.1, v) else kv).find? λ kv => kv.1 = j).map (·.2) = if j = k then some v else (l.find? λ kv => kv.1 = j).map (·.2) := by
     intro l
     induction l with
     | nil => intro h; simp at h
     | cons x l ih =>
       intro h
       by_cases hx : x.1 = k
       · by_cases hj : j = k
         · simp [hx, hj]
         · have : ¬ x.1 = j := λ e => hj (e ▸ hx)
           have hk : ¬ k = j := λ e => hj e.symm
           simp only [IS, hx, if_true, lr, hk, decide_false, if_neg hj]
           by_cases hl : l.any (λ kv => kv.1 = k) = true
           · rw [ih hl, if_neg hj]
           · have e : (l.map λ kv => if kv.1 = k then (kv.1, v) else kv) = l := by
               conv => rhs; rw [<- List.map_id l]
               apply EU
               intro y hy
               have : ¬ y.1 = k := λ e => hl (Io.mpr ⟨y, hy, by simpa using e⟩)
               simp [this]
             rw [e]
       · have hl : l.any (λ kv => kv.1 = k) = true := by simpa [hx] using h
         simp only [IS, if_neg hx, lr]
         by_cases hj : x.1 = j
         · have : ¬ j = k := λ e => hx (hj.trans e)
           simp [hj, this]
         · simp only [hj, decide_false]
           exact ih hl
   exact key kvs h
 · rw [if_neg h]
   have hn : ∀ x ∈ kvs, ¬ x.1 = k := λ x hx e => h (Io.mpr ⟨x, hx, by simpa using e⟩)
   rw [List.find?_append]
   cases e : kvs.find? (λ kv => kv.1 = j) with
   | some x =>
     have h1 := List.find?_some e
     have h1 : x.1 = j := by simpa using h1
     have h2 := hn x (List.mem_of_find?_eq_some e)
     have : ¬ j = k := λ q => h2 (h1.trans q)
     simp [this]
   | none =>
     by_cases hj : j = k
     · simp [hj]
     · have : ¬ k = j := λ q => hj q.symm
       simp [hj, this]
theorem XE (kvs : List (Int × Value)) (k : Int) (v : Value) : (stored kvs k v).length <= kvs.length + 1 := by
 unfold stored
 split <;> simp
theorem ul {ix : Ix} {v : Value} {n : Int} {k : Nat} (h : W.VR ix v (.row true n k)) : ∃ a, W.VR ix v (.obj 7 (k - 1)) /\ W.VR ix (.ref a) (.h k) /\ ix.ad[k]? = some a :=
 h.xC (C := λ v => ∃ a, W.VR ix v (.obj 7 (k - 1)) /\ W.VR ix (.ref a) (.h k) /\ ix.ad[k]? = some a) λ x dx a f b c d => ⟨a, .obj f c, .h d, d⟩
theorem Xn {T : WE} {U : Mu} {c d a : Nat} {l : List (Nat × V)} {v : V} {k : V -> Prop} (h1 : T.AT c a = true) (h2 : qj U d = some (.attrs l)) (h3 : qQ a l = some v) (h : k v) : Yk T U (.obj c d) a k := by
 show (match T.AT c a with | true => mA (qj U d) λ l => oS (qQ a l) k | false => False)
 rw [h1, h2]
 show oS (qQ a l) k
 rw [h3]; exact h
theorem rC {c : Cx} {i : Nat} (h : c.kd i = 0) : c.kd i < 2 := h.symm ▸ Nat.zero_lt_two
theorem kC (C : gY W) {A : Around} {E : Value -> Shared -> Prop} {fr : Frm} {ix : Ix} {loc : List (Option V)} {U : Mu} {s : Shared} {n : Int} {k : Nat} {i : Int} {p1 p2 p3 p4 p5 p6 : Pos} {k0 : Nat} {Q : Bool -> Shared -> Prop}
   (ok : W.Ok fr) (R : jX A 0) (Y : W.FS fr ix loc U s) (k0' : fr.c.kd 0 = 0) (k1' : fr.c.kd 1 = 0) (e0 : qj loc 0 = some (some (.row true n k))) (e1 : qj loc 1 = some (some (.int i))) (hcel : jF U true n k) (h0 : 0 <= i) (h1 : i < n)
   (q : ∀ s', W.FS fr ix loc U s' -> Q false s') : wpAny W.M A (isTrue (.UnaryOp .Not (.Compare (.Constant (.int 0) k0 p1) [.LtE, .Lt] [.Name (fr.c.nl 1) p2, .Attribute (.Name (fr.c.nl 0) p3) "count" p4] p5) p6) fr.env (eval (.UnaryOp .Not (.Compare (.Constant (.int 0) k0 p1) [.LtE, .Lt] [.Name (fr.c.nl 1) p2, .Attribute (.Name (fr.c.nl 0) p3) "count" p4] p5) p6) fr.env)) Q E s := by
 refine JQ ?_
 refine QT (qa <| wpAny_Constant_int (YR ?_)) (by rfl)
 have Y1 := Y.tok (s.toks + 1)
 refine FS.name ok.1 Y1 e1 (λ l q => by cases q) (by omega) λ v1 vr1 => ?_
 have un : A.units + 100 < cLine := by have := R.un; omega
 refine zH (o := .le) (N := W.N) (T := W.T) C.H.toNames (by omega) Y1 .int vr1 (k := λ b => b = true) ⟨λ _ => rfl, λ h => absurd h0 h⟩ λ c hc => qa <| wpAny_truthy_bool ?_
 subst hc
 refine YS ?_
 refine zu (FS.name ok.1 Y1 e0 (λ l q => by cases q) (by omega) λ v0 vr0 => ?_) (yR rfl)
 obtain ⟨a, v2, v3, had⟩ := ul vr0
 obtain ⟨hk0, l, hl, g0, g1⟩ := hcel
 rw [<- C.an0]
 refine jC (T := W.T) C.H ok.2.1 Y1 v2 (k := λ v => v = .int n) (Xn C.at0 hl g0 rfl) λ u' u hu ur => ?_
 subst hu
 have Y2 := Y1.tok (s.toks + 1 + 1)
 refine zH (o := .lt) (N := W.N) (T := W.T) C.H.toNames (by omega) Y2 vr1 ur (k := λ b => b = true) ⟨λ _ => rfl, λ h => absurd h1 h⟩ λ c hc => qa <| wpAny_truthy_bool ?_
 subst hc
 exact q _ Y2
theorem Xf {fr : Frm} {ix : Ix} {loc : List (Option V)} {U : Mu} {s : Shared} {x' : Value} {n : Int} {k : Nat} {D : Value -> Prop} (Y : W.FS fr ix loc U s) (hx : W.VR ix x' (.row true n k)) (hcel : jF U true n k)
   (h : ∀ x m ox od, Fr fr.h₀ fr.L s.heap m -> InstAt s.heap x ox (W.N.ca 7) od -> D (.ref x)) : D x' :=
 hx.xC λ x dx a hf _ hd _ => Y.op λ m pl mt P => by
 obtain ⟨_, l, hl, _, _⟩ := hcel
 obtain ⟨d, o, e1, e2, e3, e4, e5⟩ := P.handle hl
 have e := Option.some.inj (hd.symm.trans e2)
 revert e3
 refine e4.xA λ es n h1 h2 e3 => ?_
 exact h x m _ (some (dictOf es n)) P.F ⟨P.fz hf, rfl, rfl, e.symm ▸ e3⟩
theorem Xg (C : gY W) {A : Around} {E : Value -> Shared -> Prop} {fr : Frm} {ix : Ix} {loc : List (Option V)} {U : Mu} {s : Shared} {n : Int} {k : Nat} {f : Int -> Int} {u : Nat} {p8 p9 : Pos} {Q : Value -> Shared -> Prop}
   (ok : W.Ok fr) (Y : W.FS fr ix loc U s) (k0 : fr.c.kd 0 = 0) (e0 : qj loc 0 = some (some (.row true n k))) (hcel : jF U true n k) (hmu : qj U k = some (.row true n f u))
   (q : ∀ tk a o kvs m pl mt, W.FS fr ix loc U { s with toks := tk } -> Parts W.N W.prog W.w fr ix loc U s.heap m pl mt -> pl[k]? = some (a, o) -> s.heap.DictOf (PySem.intKind W.prog W.w) a kvs -> kvs.length <= u ->
     (∀ i : Int, match valueAt kvs i with | some v => ∃ t, v = .int (f i) t | none => f i = 1024) -> Q (.ref a) { s with toks := tk }) :
   wpAny W.M A (eval (.Attribute (.Name (fr.c.nl 0) p8) "learnt" p9) fr.env) Q E s := by
 refine zu (FS.name ok.1 Y e0 (λ _ => nofun) (rC k0) λ v0 vr0 => ?_) (yR rfl)
 obtain ⟨_, l, hl, _, g1⟩ := hcel
 obtain ⟨a, w2, _, _⟩ := ul vr0
 rw [<- C.an1]
 refine jC (T := W.T) C.H ok.2.1 Y w2 (k := λ v => v = .h k) (Xn C.at1 hl g1 rfl) λ u' u hu ur => ?_
 subst hu
 refine ur.xH λ a' had => Y.op λ m pl mt P => ?_
 obtain ⟨d, o, e1, e2, e3, e4, e5⟩ := P.handle hmu
 have e := Option.some.inj (had.symm.trans e2)
 subst e
 exact e4.xC λ kvs hd hlen hf => q _ _ o kvs m pl mt (Y.tok _) P e1 (EC.mpr ⟨_, e3, hd⟩) hlen hf
theorem Bo (C : gY W) : ∀ {A : Around} {E : Value -> Shared -> Prop} {fr : Frm} {ix : Ix} {loc : List (Option V)} {U : Mu} {s : Shared} {x' : Value} {n : Int} {k : Nat} {f : Int -> Int} {u : Nat} {i : Int} {t : Tok} {value slice : Expr} {Q : Value -> Shared -> Prop},
   jX A 2 -> W.Ok fr -> W.FS fr ix loc U s -> W.VR ix x' (.row true n k) -> qj U k = some (.row true n f u) -> jF U true n k -> 0 <= i -> i < n -> zf slice = true ->
   (∀ jx t s', ix.Le jx -> W.FS fr jx loc U s' -> Q (.int (f i) t) s') -> wpAny W.M A (subscriptTail value slice x' (.int i t)) Q E s := by
 intro A E fr ix loc U s x' n k f u i t value slice Q R ok Y hx hmu hcel h0 h1 hp q
 obtain ⟨fg, cg, bg, rs, p1, p2, p3, p4, p5, p6, p7, p8, p9, p10, p11, p12, p13, p14, k0, f1, f2, f3, f4, f5, k0', k1', hst, rfl, hline⟩ := C.get
 refine Xf (D := λ x' => W.VR ix x' (.row true n k) -> wpAny W.M A (subscriptTail value slice x' (.int i t)) Q E s) Y hx hcel (λ x m ox od F I hx => ?_) hx
 refine Oc F ok.2.1 I f1 f2 f3 (qM ?_) (ZP hp _ _)
 refine enter (b := 0) (dl := []) (k := λ v U' => v = .int (f i) /\ U' = U) f4 f5 R.hd (by have := R.dep; show A.depth + 2 * (0 + 1) + 3 < recursionLimit; omega) (by have := R.un; show (A.units + 1) + 12 * (0 + 1) + 96 < cLine; omega) ok Y rfl (.cons hx (.cons .int .nil)) .nil ?_ ?_
 · intro jx v' v U' s' z hk vr Y'
   obtain ⟨rfl, rfl⟩ := hk
   exact vr.xI (C := λ v => Q v s') λ t => q jx t _ z Y'
 · intro fr' A' s₁ E' hc hcm ok' R' Y'
   subst hc
   have e0 : qj (jo fr'.c.n ([.row true n k, .int i] ++ [])) 0 = some (some (.row true n k)) := rfl
   have e1 : qj (jo fr'.c.n ([.row true n k, .int i] ++ [])) 1 = some (some (.int i)) := rfl
   refine qm (Ji (kC C ok' R' Y' k0' k1' e0 e1 hcel h0 h1 λ s2 Y2 => ?_))
   simp only [Ee, if_false]
   refine qo (qm (zm ?_))
   refine zI (Xg C ok' Y2 k0' e0 hcel hmu λ tk a o kvs m3 pl3 mt3 Y3 P3 e1' hD0 _ hf3 => ?_) (jB rfl rfl (by show 2 < 30; decide) hline)
   refine qa <| getMethod_builtin (s := { s2 with toks := tk }) hD0.mapOf.typeIs PySem.F.plainAttrs_dict Ik PySem.F.type_dict_get hD0.mapOf.noDict ?_
   rw [qh rfl, qh rfl]
   refine cw_builtin rfl (qn (qt (FS.name ok'.1 Y3 e1 (λ _ => nofun) (rC k1') λ v1 vr1 => vr1.xI λ t1 => ?_)))
   obtain ⟨ts, hts⟩ := C.start
   obtain ⟨q1, q2⟩ := jb ok'.1 hst
   refine qt (ot ok' P3.F hts (spliced_nil ?_) q1 q2)
   have hms := xh ok' P3.W (CO _ (CO _ (eR e1')))
   refine qa <| call_meetsIn Ik (s := { s2 with toks := tk }) hD0.typeIs PySem.F.entry_dict_get (PySem.F.args_dict_get_3 _ _ _) (meets_dict_get_default (intKind W.prog W.w) _ (intKind_is W.prog W.w _ _) hms _) ⟨_, hD0.mapOf, ?_⟩
   have hv := hf3 i
   cases ev : valueAt kvs i with
   | some v =>
     rw [ev] at hv
     obtain ⟨t4, rfl⟩ := hv
     exact ⟨_, _, .int (f i), _, U, .refl _, rfl, ⟨rfl, rfl⟩, .int, Y3.tok _⟩
   | none =>
     rw [ev] at hv
     refine ⟨_, _, .int (f i), _, U, .refl _, rfl, ⟨rfl, rfl⟩, ?_, Y3.tok _⟩
     rw [hv]
     exact .int
theorem Bn (C : gY W) : ∀ {A : Around} {E : Value -> Shared -> Prop} {fr : Frm} {ix : Ix} {loc : List (Option V)} {U : Mu} {s : Shared} {x' : Value} {n : Int} {k : Nat} {f : Int -> Int} {u : Nat} {i j : Int} {t t' : Tok} {Q : Unit -> Shared -> Prop},
   jX A 2 -> W.Ok fr -> W.FS fr ix loc U s -> W.VR ix x' (.row true n k) -> qj U k = some (.row true n f u) -> jF U true n k -> 0 <= i -> i < n -> u < 1000000 ->
   (∀ jx s', ix.Le jx -> W.FS fr jx loc (qy U k (.row true n (λ q => if q = i then j else f q) (u + 1))) s' -> Q () s') -> wpAny W.M A (setItem x' (.int i t) (.int j t')) Q E s := by
 intro A E fr ix loc U s x' n k f u i j t t' Q R ok Y hx hmu hcel h0 h1 hu0 q
 obtain ⟨fg, cg, bg, rs, p1, p2, p3, p4, p5, p6, p7, p8, p9, p10, p11, p12, p13, k0, f1, f2, f3, f4, f5, k0', k1', k2', rfl⟩ := C.set
 refine Xf (D := λ x' => W.VR ix x' (.row true n k) -> wpAny W.M A (setItem x' (.int i t) (.int j t')) Q E s) Y hx hcel (λ x m ox od F I hx => ?_) hx
 refine xG F ok.2.1 I f2 f1 f3 (qM ?_)
 refine enter (b := 0) (dl := []) (k := λ v U' => v = .none /\ U' = qy U k (.row true n (λ q => if q = i then j else f q) (u + 1))) f4 f5 R.hd (by have := R.dep; show A.depth + 2 * (0 + 1) + 3 < recursionLimit; omega) (by have := R.un; show A.units + 12 * (0 + 1) + 96 < cLine; omega) ok Y rfl (.cons hx (.cons .int (.cons .int .nil))) .nil ?_ ?_
 · intro jx v' v U' s' z hk vr Y'
   obtain ⟨rfl, rfl⟩ := hk
   cases vr
   exact q jx _ z Y'
 · intro fr' A' s₁ E' hc hcm ok' R' Y'
   subst hc
   have e0 : qj (jo fr'.c.n ([.row true n k, .int i, .int j] ++ [])) 0 = some (some (.row true n k)) := rfl
   have e1 : qj (jo fr'.c.n ([.row true n k, .int i, .int j] ++ [])) 1 = some (some (.int i)) := rfl
   have e2 : qj (jo fr'.c.n ([.row true n k, .int i, .int j] ++ [])) 2 = some (some (.int j)) := rfl
   refine qm (Ji (kC C ok' R' Y' k0' k1' e0 e1 hcel h0 h1 λ s2 Y2 => ?_))
   simp only [Ee, if_false]
   refine qo (qm (zn (FS.name ok'.1 Y2 e2 (λ _ => nofun) (rC k2') λ v0 vr0 => ?_) (by rfl)))
   refine vr0.xI λ tj => Xg C ok' Y2 k0' e0 hcel hmu λ tk a o kvs m3 pl3 mt3 Y3 P3 e1' hD0 hlen hf3 => ?_
   refine FS.name ok'.1 Y3 e1 (λ _ => nofun) (rC k1') λ v4 vr4 => vr4.xI λ ti => ?_
   refine qa <| wpAny_setItem_pairs (s := { s2 with toks := tk }) (hsz := by rw [show sizeLine = 16777216 from by decide]; omega) (intKind_is W.prog W.w _ _) hD0 λ h' hD' hs => ?_
   obtain ⟨o', ho', hd'⟩ := EC.mp hD'
   have z := Y3.turn (tk := tk + 1) P3 e1' hs ho' (x := .row true n (λ q => if q = i then j else f q) (u + 1)) (.rowC hd' (CK (XE _ _ _) (by omega)) λ b => by
     rw [Jl]
     by_cases hb : b = i
     · simp [hb]
     · simp only [if_neg hb]; exact hf3 b)
   exact qo ⟨_, _, .none, _, _, .refl _, rfl, ⟨rfl, rfl⟩, .none, z⟩
end
end Mi
end
section
namespace Mi
open PySem
noncomputable def Ut (n : Int) (U : Mu) (k : V -> Mu -> Prop) : Prop :=
 0 <= n /\ ((n <= 64 -> k (.row false n (U.length + 1)) (U ++ [.list [.int 1024], .row false n (λ _ => 1024) 0])) /\
   (¬ n <= 64 -> k (.row true n (U.length + 1)) (U ++ [.attrs [(0, .int n), (1, .h (U.length + 1))], .row true n (λ _ => 1024) 0])))
noncomputable def vA (d : Nat) (n : Int) (U : Mu) (k : V -> Mu -> Prop) : Prop :=
 qj U d = some (.attrs []) /\ k .none (qy U d (.attrs [(0, .int n), (1, .h U.length)]) ++ [.row true n (λ _ => 1024) 0])
noncomputable def bd (m f : Nat) (l : List V) (U : Mu) (k : V -> Mu -> Prop) : Prop :=
 (f = vk /\ 0 < m /\ ∃ n, l = [.int n] /\ Ut n U k) \/ (f = Zu /\ ∃ d n, l = [.obj 7 d, .int n] /\ vA d n U k)
noncomputable def qe : Nat -> Nat -> PT
 | 0, _, _, _, _ => False
 | m + 1, f, l, U, k => match Fx f with
   | some d => l.length = d.na /\ Ok (qe m) (vD d l U k)
   | none => bd m f l U k
end Mi
end
section
namespace Mi
open PySem PySem.W PyProof.Rows PySem.Spec PyProof.V PySem.SeqAt PySem.Calls
structure YO where
 N : Nm
 prog : Program
 w : World
 K : Frag
 mg : Str -> Option Value
 mb : Str -> Option Value
noncomputable def YO.W (B : YO) (Γ : Nat -> PT) : Wd := ⟨B.N, B.prog, B.w, Km Γ, B.K, B.mg, B.mb⟩
inductive CF (B : YO) : Prop
 | mk (c : Cx) (p1 p2 p3 p4 p5 p6 p7 p8 : Pos) (f : ZO B.K (B.N.fa Zu) c 2 [.Assign [.Attribute (.Name (c.nl 0) p1) "count" p2] (.Name (c.nl 1) p3) p4, .Assign [.Attribute (.Name (c.nl 0) p5) "learnt" p6] (.Dict [] [] p7) p8] []) (x : ZT c 2) (k0 : c.kd 0 = 0) (k1 : c.kd 1 = 0)
inductive CE (B : YO) : Prop
 | mk (c : Cx) (p1 p2 p3 p4 p5 p6 : Pos) (t e : Expr) (f : ZO B.K (B.N.fa vk) c 1 [.Return (some (.IfExp t (.BinOp (.List [.Name "START" p1] p2) .Mult (.Name (c.nl 0) p3) p4) e p5)) p6] []) (x : ZT c 1) (k0 : c.kd 0 = 0) (g : isG c "START" = true)
   (ht : mE B.N c (.cmp .le (.loc 0) (.glob 21)) t = true) (he : mE B.N c (.new 7 (.cons (.loc 0) .nil)) e = true)
structure YO.Ok (B : YO) : Prop where
 H : ∀ Γ, Qf B.N B.prog B.w (Km Γ) B.K
 C : ∀ Γ, gY (B.W Γ)
 df : ∀ f d, Fx f = some d -> ∃ c body dv, ZO B.K (B.N.fa f) c d.na body dv /\ ZT c (d.na + dv.length) /\ c.n = d.n /\ mB B.N c d.s body = true /\ ∀ ix : Ix, (∀ p ∈ B.N.bz, p ∈ ix.bz) -> VRs B.N B.prog B.w ix dv d.dl
 cinit : CF B
 fresh : CE B
section
variable {B : YO}
theorem YO.Ok.good (h : B.Ok) (Γ : Nat -> PT) : (B.W Γ).Good :=
 ⟨h.H Γ, ⟨Bo (h.C Γ), Bn (h.C Γ)⟩, Hi B.prog B.w⟩
theorem wv {T : WE} {U : Mu} {c d a : Nat} {l : List (Nat × V)} {v : V} {k : Mu -> Prop} (h1 : T.AT c a = true) (h2 : qj U d = some (.attrs l)) (h3 : l.length < 900) (h : k (qy U d (.attrs (put a v l)))) : Vu T U (.obj c d) a v k := by
 show (match T.AT c a with | true => mA (qj U d) λ l => l.length < 900 /\ k (qy U d (.attrs (put a v l))) | false => False)
 rw [h1, h2]
 exact ⟨h3, h⟩
theorem Wo (h : B.Ok) {Γ : Nat -> PT} {b : Nat} {A : Around} {fr : Frm} {ix : Ix} {loc : List (Option V)} {U : Mu} {s : Shared} {args : List Value} {d : Nat} {n : Int} {k : V -> Mu -> Prop} {R : Result -> Shared -> Prop}
   (a : oz (B.W Γ) (b + 1) A fr) (Y : (B.W Γ).FS fr ix loc U s) (vr : (B.W Γ).VRs ix args [.obj 7 d, .int n]) (hk : vA d n U k) (q : (B.W Γ).Post fr ix loc k (λ v s' => R (.ok (.ret v)) s')) :
   codeAny (B.W Γ).M A (.call (.ref (B.N.fa Zu)) ⟨args, []⟩) R s := by
 obtain ⟨c, p1, p2, p3, p4, p5, p6, p7, p8, f1, f2, k0, k1⟩ := h.cinit
 have C := h.C Γ
 have R0 := a.R
 refine enter (W := B.W Γ) (b := b) (dl := []) f1 f2 R0.hd R0.dep R0.un a.ok Y (by have := vr.length; simpa using this) vr .nil q ?_
 intro fr' A' s₁ E' hc hcm ok' R' Y'
 subst hc
 have e0 : qj (jo fr'.c.n ([.obj 7 d, .int n] ++ [])) 0 = some (some (.obj 7 d)) := rfl
 have e1 : qj (jo fr'.c.n ([.obj 7 d, .int n] ++ [])) 1 = some (some (.int n)) := rfl
 obtain ⟨hd, hk⟩ := hk
 refine qm (qp (FS.name ok'.1 Y' e1 (λ l q => by cases q) (by omega) λ v1 vr1 => FS.name ok'.1 Y' e0 (λ l q => by cases q) (by omega) λ v0 vr0 => ?_) (by rfl))
 rw [<- C.an0]
 refine QG (T := (B.W Γ).T) C.H ok'.2.1 Y' vr0 vr1 (k := λ U' => U' = qy U d (.attrs [(0, .int n)])) (wv C.at0 hd (by decide) rfl) λ U' s2 hm Y2 => ?_
 subst hm
 refine qm (qp ?_ (by rfl))
 obtain ⟨⟨m, pl, mt, P⟩, g1, g2, g3⟩ := Y2
 refine qa <| newDict_K P.F P.W ok'.2.2.1.nolimit λ dd h' o F' N' hlt _ _ _ hI _ => ?_
 have P2 := P.handG (x := .row true n (λ _ => 1024) 0) (λ p hp => eF (hlt p hp)) F' N' (.rowC hI (Ex _) λ i => by simp [valueAt])
 have had := jT P dd
 have Y3 : (B.W Γ).FS fr' _ _ _ { s2 with heap := h' } := ⟨⟨m, _, mt, P2⟩, g1, g2, g3⟩
 refine FS.name ok'.1 Y3 e0 (λ l q => by cases q) (by omega) λ v2 vr2 => ?_
 rw [<- C.an1]
 have hlt' : d < U.length := by rw [qE] at hd; exact (Ef.mp hd).1
 have hnd : qj (qy U d (.attrs [(0, .int n)]) ++ [MO.row true n (λ _ => 1024) 0]) d = some (.attrs [(0, .int n)]) := by
   rw [qE, qZ, iW (by simpa using hlt'), List.getElem?_set_self hlt']
 refine QG (T := (B.W Γ).T) C.H ok'.2.1 Y3 vr2 (.h had) (k := λ U' => U' = qy (qy U d (.attrs [(0, .int n)]) ++ [MO.row true n (λ _ => 1024) 0]) d (.attrs [(0, .int n), (1, .h (qy U d (.attrs [(0, .int n)])).length)])) (wv C.at1 hnd (by show 1 < 900; decide) rfl) λ U' s4 hm Y4 => ?_
 subst hm
 refine qo ⟨_, _, .none, _, _, (Ix.le_hand ..).w, rfl, ?_, .none, Y4⟩
 have e : qy (qy U d (.attrs [(0, .int n)]) ++ [MO.row true n (λ _ => 1024) 0]) d (.attrs [(0, .int n), (1, .h (qy U d (.attrs [(0, .int n)])).length)]) = qy U d (.attrs [(0, .int n), (1, .h U.length)]) ++ [.row true n (λ _ => 1024) 0] := by
   simp only [qZ]
   rw [List.set_append_left _ _ (by simpa using hlt'), List.set_set, Iu]
 rw [e]; exact hk
theorem Wc (h : B.Ok) {Γ : Nat -> PT} {b : Nat} (hb : 2 <= b) (hΓ : ∀ d n U k, vA d n U k -> Γ Zu [.obj 7 d, .int n] U k) (Hs : Calls (B.W Γ) b) {A : Around} {fr : Frm} {ix : Ix} {loc : List (Option V)} {U : Mu} {s : Shared} {args : List Value} {n : Int} {k : V -> Mu -> Prop} {R : Result -> Shared -> Prop}
   (a : oz (B.W Γ) (b + 1) A fr) (Y : (B.W Γ).FS fr ix loc U s) (vr : (B.W Γ).VRs ix args [.int n]) (hk : Ut n U k) (q : (B.W Γ).Post fr ix loc k (λ v s' => R (.ok (.ret v)) s')) :
   codeAny (B.W Γ).M A (.call (.ref (B.N.fa vk)) ⟨args, []⟩) R s := by
 obtain ⟨c, p1, p2, p3, p4, p5, p6, t, e, f1, f2, k0, hst, ht, he⟩ := h.fresh
 have C := h.C Γ
 have G := h.good Γ
 have R0 := a.R
 refine enter (W := B.W Γ) (b := b) (dl := []) f1 f2 R0.hd R0.dep R0.un a.ok Y (by have := vr.length; simpa using this) vr .nil q ?_
 intro fr' A' s₁ E' hc hcm ok' R' Y'
 subst hc
 have a' : At (B.W Γ) b A' fr' := ⟨ok', R', hb⟩
 have e0 : qj (jo fr'.c.n ([.int n] ++ [])) 0 = some (some (.int n)) := rfl
 obtain ⟨h0, hs, hl⟩ := hk
 refine qm (zm (gX ?_))
 refine (all G Hs (.cmp .le (.loc 0) (.glob 21))).t (k := λ c U' => c = decide (n <= 64) /\ U' = U) ht a' Y' ?_ λ jx c U' s2 z hk Y2 => ?_
 · show (match qj (jo fr'.c.n ([.int n] ++ [])) 0 with | some (some (.own _)) => False | some (some v) => _ | _ => False)
   rw [e0]
   show (n <= 64 -> _) /\ (¬ n <= 64 -> _)
   refine ⟨λ hn => ⟨(decide_eq_true hn).symm, rfl⟩, λ hn => ⟨(decide_eq_false hn).symm, rfl⟩⟩
 obtain ⟨rfl, rfl⟩ := hk
 by_cases hn : n <= 64
 · rw [decide_eq_true hn]
   simp only [if_true]
   obtain ⟨t0, hst0⟩ := C.start
   obtain ⟨q1, q2⟩ := jb ok'.1 hst
   obtain ⟨⟨m, pl, mt, P⟩, g1, g2, g3⟩ := Y2
   refine ZA (ZN ?_)
   rw [qh rfl]
   refine qt (ot (W := B.W Γ) ok' P.F hst0 (spliced_nil ?_) q1 q2)
   refine qa <| newList_N P.F P.W (λ h2 F2 W2 => ?_) (by show 1 <= sizeLine; decide)
   have P2 := P.hand (x := .list [.int 1024]) F2 W2 (.list (vs := [.int 1024 t0]) ⟨rfl, _, rfl⟩ (.cons .int .nil))
   have Y3 : (B.W Γ).FS fr' _ _ _ { s2 with heap := h2 } := ⟨⟨m, _, mt, P2⟩, g1, g2, g3⟩
   refine FS.name ok'.1 Y3 e0 (λ l q => by cases q) (by omega) λ v2 vr2 => ?_
   cases vr2
   rename_i t1
   obtain ⟨⟨m3, pl3, mt3, P3⟩, g4, g5, g6⟩ := id Y3
   have hget := (W2 _ (CZ ..)).1
   refine qa <| mul_list (s := { s2 with heap := h2 }) P3.F P3.W hget (by omega) (by omega) (by simp; omega) λ h4 F4 W4 => ?_
   have P4 := P3.hand (x := .row false n (λ _ => 1024) 0) F4 W4 ?_
   · have Y4 : (B.W Γ).FS fr' _ _ _ { s2 with heap := h4 } := ⟨⟨m3, _, mt3, P4⟩, g4, g5, g6⟩
     have had := jT P3 h2.objs.size
     rw [ER] at Y4
     simp only [eN, IY, List.length_nil] at had
     exact ⟨_, _, _, _, _, (z.w.trans (Ix.le_hand ..).w).trans (Ix.le_hand ..).w, rfl, hs hn, .rowL had, Y4⟩
   · have en : n = ((eX n.toNat (1024 : Int)).length : Int) := by simp; omega
     have e1 : (List.foldl (λ x1 x2 => x1 ++ x2) #[] (eX (if (#[IB 1024 t0] : Array Value).isEmpty = true then 0 else n.toNat) #[IB 1024 t0])) = (eX n.toNat (IB 1024 t0)).toArray := by
       rw [if_neg (by simp)]
       generalize n.toNat = r
       have key : ∀ (r : Nat) (acc : Array Value), List.foldl (λ x1 x2 => x1 ++ x2) acc (eX r #[IB 1024 t0]) = acc ++ (eX r (IB 1024 t0)).toArray := by
         intro r
         induction r with
         | zero => intro acc; simp
         | succ r ih => intro acc; rw [lP, List.foldl_cons, ih, lP]; simp [<- Array.toList_inj]
       simpa using key r #[]
     have e2 : IntsAre (eX n.toNat (IB 1024 t0)) (eX n.toNat (1024 : Int)) := by
       generalize n.toNat = r
       induction r with
       | zero => exact .nil
       | succ r ih => exact .cons _ _ ih
     have orr : OR B.N B.prog B.w (({ ad := jx.ad, bz := jx.bz, fz := jx.fz, ow := jx.ow } : Ix).hand s2.heap.objs.size |>.hand h2.objs.size) { cls := .type "list", data := .seq (eX n.toNat (IB 1024 t0)).toArray 0 } (.row false ((eX n.toNat (1024 : Int)).length : Int) (λ _ => 1024) 0) :=
       .rowL ⟨rfl, _, rfl⟩ e2 λ i hi => by simp
     rw [<- en] at orr
     rw [<- e1] at orr
     exact orr
 · rw [decide_eq_false hn]
   simp only [Ee, if_false]
   refine (all G Hs (.new 7 (.cons (.loc 0) .nil))).e (k := λ v U' => v = .obj 7 U'.length.pred.pred /\ k (.row true n (U'.length.pred.pred + 1)) U' /\ 2 <= U'.length /\ ∃ a, qj U' (U'.length.pred.pred + 1) = some a) he a' Y2 ?_ λ kx v' v U2 s3 z2 hk vr2 Y3 => ?_
   · show up Γ Zu [.obj 7 U'.length, .int n] (U' ++ [.attrs []]) λ v U2 => pN v _
     refine ⟨_, λ _ _ h => h, hΓ U'.length n _ _ ⟨?_, ?_⟩⟩
     · rw [qE]; simp
     · have e : qy (U' ++ [MO.attrs []]) U'.length (.attrs [(0, .int n), (1, .h (U' ++ [MO.attrs []]).length)]) ++ [.row true n (λ _ => 1024) 0] = U' ++ [.attrs [(0, .int n), (1, .h (U'.length + 1))], .row true n (λ _ => 1024) 0] := by
         rw [qZ, List.set_append_right _ _ (Ex _)]
         simp
       rw [e]
       have el : (U' ++ [MO.attrs [(0, .int n), (1, .h (U'.length + 1))], .row true n (λ _ => 1024) 0]).length.pred.pred = U'.length := by simp
       refine ⟨by rw [el], ?_, by simp, ?_⟩
       · rw [el]; exact hl hn
       · rw [el, qE]; exact ⟨_, by rw [List.getElem?_append_right (by omega)]; simp; rfl⟩
   · obtain ⟨rfl, hk, h2, aa, ha⟩ := hk
     cases vr2 with
     | obj hf had =>
     obtain ⟨⟨m3, pl3, mt3, P3⟩, g4, g5, g6⟩ := id Y3
     obtain ⟨d, o, e1, e2, e3, e4, e5⟩ := P3.handle ha
     exact ⟨_, _, _, _, _, (z.w.trans z2.w), rfl, hk, .rowC hf (iS _) had e2, Y3⟩
end
section
variable {B : YO}
theorem pZ (h : B.Ok) (n : Nat) : Calls (B.W (qe n)) (n + 2) := by
 induction n with
 | zero =>
   intro f A fr ix loc U s args l k R a Y vr hk q
   exact hk.elim λ _ z => z.2.elim
 | succ n Hs =>
   intro f A fr ix loc U s args l k₁ R a Y vr hk q₁
   obtain ⟨k, hk₁, hk⟩ : up (qe (n + 1)) f l U k₁ := hk
   have q : (B.W (qe n)).Post fr ix loc k (λ v s' => R (.ok (.ret v)) s') := λ jx v' v U' s' z h => q₁ jx v' v U' s' z (hk₁ v U' h)
   have a0 : oz (B.W (qe n)) (n + 2 + 1) A fr := ⟨a.ok, a.R⟩
   have hk : (match Fx f with
     | some d => l.length = d.na /\ Ok (qe n) (vD d l U k)
     | none => bd n f l U k) := hk
   cases ed : Fx f with
   | none =>
     rw [ed] at hk
     rcases hk with ⟨rfl, hn, i, rfl, hk1⟩ | ⟨rfl, d, i, rfl, hk1⟩
     · refine Wc h (by omega) (λ d i U k hc => ?_) Hs a0 Y vr hk1 q
       obtain ⟨m, rfl⟩ : ∃ m, n = m + 1 := ⟨n - 1, by omega⟩
       show bd m Zu [.obj 7 d, .int i] U k
       exact .inr ⟨rfl, _, _, rfl, hc⟩
     · exact Wo (Γ := qe n) (b := n + 2) h a0 Y vr hk1 q
   | some d =>
     rw [ed] at hk
     obtain ⟨hl, hk⟩ := hk
     have hk : Ok (qe n) (kA (XY d.n (l ++ d.dl)) λ loc => vS d.s loc U (λ _ U => .fin (k .none U)) (λ v U => .fin (k v U))) := hk
     rw [jl.copyK_eq] at hk
     have hk := oO d.s (kn := λ _ U => k .none U) (kr := k) hk (λ _ _ h => h) λ _ _ h => h
     obtain ⟨c, body, dv, f1, f2, f3, f4, f5⟩ := h.df f d ed
     obtain ⟨m, pl, mt, P⟩ := Y.ex
     refine enter (W := B.W (qe n)) (b := n + 2) f1 f2 a.R.hd a.R.dep a.R.un a0.ok Y (by have := vr.length; omega) vr (f5 ix P.bz) q ?_
     intro fr' A' s₁ E' hc hcm ok' R' Y'
     subst hc
     rw [f3] at Y'
     refine (rh (h.good (qe n)) Hs d.s).b (kn := λ _ U => k .none U) (kr := k) f4 hcm ⟨ok', R', by omega⟩ Y' hk ⟨λ jx loc' U' s' z hk' Y2 => ?_, λ jx v' v loc' U' s' z hk' vr2 Y2 => ?_⟩
     · exact ⟨jx, _, .none, _, U', z, rfl, hk', .none, Y2⟩
     · exact ⟨jx, _, v, _, U', z, rfl, hk', vr2, Y2⟩
end
end Mi
end
section
namespace Mi
open PySem
local macro_rules | `(tactic| walk_at "z") => `(tactic| first | lia | omega)
local macro_rules | `(tactic| walk_at "l") => `(tactic| (show let vc := _; Ok _ vc; intro vc))
local macro_rules | `(tactic| walk_at "o") => `(tactic| first | decide | with_reducible assumption | exact CR rfl | (refine And.intro ?_ ?_ <;> walk_at "o") | assumption | omega | exact ZC (by omega) | exact xp (by omega) | rfl | (simp only [Int.reduceToNat, Int.reducePow]; omega))
local macro_rules | `(tactic| walk_at "2") => `(tactic| first
 | refine rS (by with_reducible assumption) ?_
 | refine rT (by with_reducible assumption) ?_
 | refine Az rfl ?_
 | refine aZ ?_
 | refine AB (by walk_at "o") ?_
 | refine rS (by first | rfl | assumption | exact of_decide_eq_true rfl | omega) ?_
 | refine rT (by first | with_reducible exact ic.mpr (by assumption) | assumption | exact of_decide_eq_false rfl | omega) ?_)
local macro_rules | `(tactic| walk_at "1") => `(tactic| (refine XU rfl ?_; first | refine AA ?_ | walk_at "2"))
local macro_rules | `(tactic| walk_at "3") => `(tactic| (refine XU rfl ?_; walk_at "2"))
local macro_rules | `(tactic| walk_at "g") => `(tactic| ((try walk_at "l"); (repeat walk_at "1")))
local macro_rules | `(tactic| walk_at "h") => `(tactic| ((try walk_at "l"); (repeat walk_at "3")))
local macro_rules | `(tactic| walk_at "G") => `(tactic| ((repeat walk_at "3"); refine Af rfl ?_))
set_option genInjectivity false in
set_option genSizeOf false in
structure Sg where
 lc : Nat
 lp : Nat
 pb : Nat
 dig : Int
 mix : Int
 cnt : Int
 mst : Int
 mpl : Int
 low : Int
 span : Int
 cache : Int
 held : Int
 cl : Bool
 n : Nat
 plc : Int
 stt : Int
 r0 : Int
 r1 : Int
 r2 : Int
 r3 : Int
 x0 : MO
 f : Nat -> Int -> Int
 u : Nat -> Nat
noncomputable def sz (lc lp pb s : Nat) : Int := match s with
 | 1 => 192 | 2 => 12 | 6 => 12 | 7 => 12 | 8 => 12 | 9 => 192 | 10 => 768 * 2 ^ (lc + lp) | 11 => 256 | 12 => 115 | 13 => 16
 | 20 => 2 | 21 => 8 * 2 ^ pb | 22 => 8 * 2 ^ pb | 23 => 256 | 24 => 2 | 25 => 8 * 2 ^ pb | 26 => 8 * 2 ^ pb | 27 => 256 | _ => 0
noncomputable def cc (pb s : Nat) : Bool := match s with
 | 1 => true | 9 => true | 10 => true | 11 => true | 12 => true | 21 => eB pb 4 | 22 => eB pb 4 | 23 => true | 25 => eB pb 4 | 26 => eB pb 4 | 27 => true | _ => false
noncomputable def hn (s : Nat) : Nat := match s with
 | 1 => 23 | 2 => 25 | 6 => 27 | 7 => 29 | 8 => 31 | 9 => 33 | 10 => 41 | 11 => 35 | 12 => 37 | 13 => 39
 | 20 => 43 | 21 => 45 | 22 => 47 | 23 => 49 | 24 => 51 | 25 => 53 | 26 => 55 | 27 => 57 | _ => 0
noncomputable def YA : List Nat := [1, 2, 6, 7, 8, 9, 10, 11, 12, 13, 20, 21, 22, 23, 24, 25, 26, 27]
noncomputable def dm (c : Bool) (n : Int) (k : Nat) : MO := match c with
 | true => .attrs [(0, .int n), (1, .h k)]
 | false => .list [.int 1024]
noncomputable def rv (lc lp pb s : Nat) : V := .row (cc pb s) (sz lc lp pb s) (hn s)
noncomputable def ro (J : Sg) (s : Nat) : MO := .row (cc J.pb s) (sz J.lc J.lp J.pb s) (J.f s) (J.u s)
noncomputable def dd (J : Sg) (s : Nat) : MO := dm (cc J.pb s) (sz J.lc J.lp J.pb s) (hn s)
noncomputable def qW (c : Bool) (n : Int) : MO := .row c n (λ _ => 1024) 0
noncomputable def Qc (lc lp pb : Nat) : MO := .attrs [(2, .int lc), (3, .int lp), (4, .int pb)]
noncomputable def Ag (lc lp pb a : Nat) : MO := .attrs [(5, .int (2 ^ pb)), (6, rv lc lp pb a), (7, rv lc lp pb (a + 1)), (8, rv lc lp pb (a + 2)), (9, rv lc lp pb (a + 3))]
noncomputable def fZ (lc lp pb : Nat) : MO := .attrs [(11, .obj 0 2), (12, rv lc lp pb 1), (13, rv lc lp pb 2), (14, rv lc lp pb 6), (15, rv lc lp pb 7), (16, rv lc lp pb 8), (17, rv lc lp pb 9), (18, rv lc lp pb 11), (19, rv lc lp pb 12), (20, rv lc lp pb 13), (21, rv lc lp pb 10), (22, .obj 1 4), (23, .obj 1 13)]
noncomputable def Ac (b : Nat) (low span cache held : Int) (cl : Bool) : MO := .attrs [(62, .h b), (7, .int low), (63, .int span), (64, .int cache), (65, .int held), (66, .bool cl)]
noncomputable def Fd (plc stt : Int) : MO := .attrs [(26, .obj 2 3), (27, .obj 6 58), (42, .int plc), (43, .int stt), (44, .obj 3 62)]
noncomputable def Yq (d m c : Int) : MO := .list [.int d, .int m, .int c]
noncomputable def xt (lc lp pb : Nat) (st pl : Int) : MO := .dict [(34, .tup [.int lc, .int lp, .int pb]), (36, .int st), (35, .int pl)]
noncomputable def ui (lc lp pb : Nat) : MO := .dict (YA.map λ s => (s, rv lc lp pb s))
noncomputable def sx (J : Sg) (τ : Mu) : Mu :=
 Yq J.dig J.mix J.cnt :: xt J.lc J.lp J.pb J.mst J.mpl :: Qc J.lc J.lp J.pb :: fZ J.lc J.lp J.pb ::
  Ag J.lc J.lp J.pb 20 :: dm false 2 6 :: qW false 2 :: dm (eB J.pb 4) (8 * 2 ^ J.pb) 8 :: qW (eB J.pb 4) (8 * 2 ^ J.pb) :: dm (eB J.pb 4) (8 * 2 ^ J.pb) 10 :: qW (eB J.pb 4) (8 * 2 ^ J.pb) :: dm true 256 12 :: qW true 256 ::
  Ag J.lc J.lp J.pb 24 :: dm false 2 15 :: qW false 2 :: dm (eB J.pb 4) (8 * 2 ^ J.pb) 17 :: qW (eB J.pb 4) (8 * 2 ^ J.pb) :: dm (eB J.pb 4) (8 * 2 ^ J.pb) 19 :: qW (eB J.pb 4) (8 * 2 ^ J.pb) :: dm true 256 21 :: qW true 256 ::
  dd J 1 :: ro J 1 :: dd J 2 :: ro J 2 :: dd J 6 :: ro J 6 :: dd J 7 :: ro J 7 :: dd J 8 :: ro J 8 :: dd J 9 :: ro J 9 :: dd J 11 :: ro J 11 :: dd J 12 :: ro J 12 :: dd J 13 :: ro J 13 :: dd J 10 :: ro J 10 ::
  dd J 20 :: ro J 20 :: dd J 21 :: ro J 21 :: dd J 22 :: ro J 22 :: dd J 23 :: ro J 23 :: dd J 24 :: ro J 24 :: dd J 25 :: ro J 25 :: dd J 26 :: ro J 26 :: dd J 27 :: ro J 27 ::
  Ac 59 J.low J.span J.cache J.held J.cl :: .ba J.n :: τ
noncomputable def st (J : Sg) : Mu := sx J [J.x0, Fd J.plc J.stt, .attrs [(25, .lst [.int J.r0, .int J.r1, .int J.r2, .int J.r3])], ui J.lc J.lp J.pb]
theorem Zw {p : Int} (n : Nat) (h : 0 <= p) : ((p.toNat &&& (1 * 2 ^ (n : Int).toNat - 1 : Int).toNat : Nat) : Int) = p % 2 ^ n := by
 obtain ⟨m, rfl⟩ := ew h
 have e : (1 * 2 ^ (n : Int).toNat - 1 : Int).toNat = 2 ^ n - 1 := by
   rw [Ej, iB]
   exact (congrArg (λ x : Int => (x - 1).toNat) (EH 2 n).symm).trans (iA (2 ^ n) 1)
 rw [e, Il, Int.natCast_emod, EH]; rfl
theorem gb {p : Int} (h : 0 <= p) : ((p.toNat &&& (1 : Int).toNat : Nat) : Int) = p % 2 := by
 obtain ⟨m, rfl⟩ := ew h
 exact congrArg ip (ID m)
theorem qi (n : Nat) : (0 : Int) < 2 ^ n := Int.pow_pos (by decide)
theorem jm {n m : Nat} (h : n <= m) : (2 : Int) ^ n <= 2 ^ m := by
 exact EH 2 n ▸ EH 2 m ▸ Er.mpr (il (by decide) h : 2 ^ n <= 2 ^ m)
noncomputable def mn (a b : Int) : Int := if b < a then b else a
noncomputable def mr (N : Nat) : Nat := N.log2 - 1
noncomputable def qu (N : Nat) : Nat := 2 * mr N + N / 2 ^ mr N
theorem Ue {k : V -> Mu -> Prop} {a b : Int} {U : Mu} (e : a = b) (h : k (.int b) U) : k (.int a) U := e ▸ h
section
variable {Γ : Nat -> PT}
noncomputable def nx (m b : Int) : Int := if b = 0 then m + (2048 - m) / 32 else m - m / 32
noncomputable def BO (Γ : Nat -> PT) : Prop := ∀ m b U (k : V -> Mu -> Prop), k (.int (nx m b)) U -> Γ 51 [.int m, .int b] U k
theorem cH : BO (Nx Γ) := by
 intro m b U k h
 refine ⟨rfl, ?_⟩
 by_cases hb : b = 0
 · rw [nx, if_pos hb] at h; walk_at "g"; exact h
 · rw [nx, if_neg hb] at h; walk_at "g"; exact h
noncomputable def BN (Γ : Nat -> PT) : Prop := ∀ b U (k : V -> Mu -> Prop), (b = 0 \/ b = 1) -> k .none U -> Γ 52 [.int b] U k
theorem cE : BN (Nx Γ) := by
 intro b U k hb h
 refine ⟨rfl, ?_⟩
 walk_at "l"
 refine uE rfl (hb.elim (λ e => e ▸ CZ ..) λ e => e ▸ CY _ (CZ ..)) ?_
 exact h
noncomputable def gP (Γ : Nat -> PT) : Prop := ∀ v c U (k : V -> Mu -> Prop), 0 <= c -> c <= 1000 -> 0 <= v -> v < 2 ^ c.toNat -> k .none U -> Γ 53 [.int v, .int c] U k
theorem cD : gP (Nx Γ) := by
 intro v c U k h0 h1 h2 h3 h
 refine ⟨rfl, ?_⟩
 have h4 : c <= 1000000 := CM h1 (by decide)
 have h5 : v < 1 * 2 ^ c.toNat := (iB _).symm ▸ h3
 walk_at "g"
 exact h
noncomputable def rL (Γ : Nat -> PT) : Prop := ∀ J (p : Int) (k : V -> Mu -> Prop), 0 <= p -> J.pb <= 4 -> k (.int (p % 2 ^ J.pb)) (st J) -> Γ 2 [.obj 0 2, .int p] (st J) k
theorem b2 : rL (Nx Γ) := by
 intro J p k h0 hpb h
 refine ⟨rfl, ?_⟩
 have h1 : (0 : Int) <= J.pb := EK _
 have h2 : (J.pb : Int) <= 1000000 := CM (Er.mpr hpb) (by decide)
 have h3 : (0 : Int) <= 1 * 2 ^ (J.pb : Int).toNat - 1 := iQ ((iB ((2 : Int) ^ (J.pb : Int).toNat)).symm ▸ qi (J.pb : Int).toNat)
 walk_at "g"
 exact Ue (Zw _ h0) h
noncomputable def aK (Γ : Nat -> PT) : Prop := ∀ s U (k : V -> Mu -> Prop), k (.int (if s < 4 then 0 else if s < 10 then s - 3 else s - 6)) U -> Γ 3 [.int s] U k
theorem b3 : aK (Nx Γ) := by
 intro s U k h
 refine ⟨rfl, ?_⟩
 by_cases h4 : s < 4
 · rw [if_pos h4] at h; walk_at "g"; exact h
 · rw [if_neg h4] at h
   by_cases h5 : s < 10
   · rw [if_pos h5] at h; walk_at "g"; exact h
   · rw [if_neg h5] at h; walk_at "g"; exact h
noncomputable def aF (Γ : Nat -> PT) (f : Nat) (a b : Int) : Prop := ∀ s U (k : V -> Mu -> Prop), k (.int (if s < 7 then a else b)) U -> Γ f [.int s] U k
noncomputable def rK (Γ : Nat -> PT) : Prop := aF Γ 4 7 10
noncomputable def aJ (Γ : Nat -> PT) : Prop := aF Γ 5 8 11
noncomputable def aI (Γ : Nat -> PT) : Prop := aF Γ 6 9 11
theorem b4 : rK (Nx Γ) := by
 intro s U k h
 refine ⟨rfl, ?_⟩
 by_cases h4 : s < 7
 · rw [if_pos h4] at h; walk_at "g"; exact h
 · rw [if_neg h4] at h; walk_at "g"; exact h
theorem b5 : aJ (Nx Γ) := by
 intro s U k h
 refine ⟨rfl, ?_⟩
 by_cases h4 : s < 7
 · rw [if_pos h4] at h; walk_at "g"; exact h
 · rw [if_neg h4] at h; walk_at "g"; exact h
theorem b6 : aI (Nx Γ) := by
 intro s U k h
 refine ⟨rfl, ?_⟩
 by_cases h4 : s < 7
 · rw [if_pos h4] at h; walk_at "g"; exact h
 · rw [if_neg h4] at h; walk_at "g"; exact h
noncomputable def aH (Γ : Nat -> PT) : Prop := ∀ s U (k : V -> Mu -> Prop), k (.bool (decide (s < 7))) U -> Γ 7 [.int s] U k
theorem b7 : aH (Nx Γ) := by
 intro s U k h
 refine ⟨rfl, ?_⟩
 by_cases h4 : s < 7
 · rw [decide_eq_true h4] at h; walk_at "g"; exact h
 · rw [decide_eq_false h4] at h; walk_at "g"; exact h
noncomputable def aG (Γ : Nat -> PT) : Prop := ∀ l U (k : V -> Mu -> Prop), k (.int (mn (l - 2) 3)) U -> Γ 8 [.int l] U k
theorem b8 : aG (Nx Γ) := by
 intro l U k h
 refine ⟨rfl, ?_⟩
 walk_at "g"
 exact h
noncomputable def rJ (Γ : Nat -> PT) : Prop := ∀ (s : Nat) U (k : V -> Mu -> Prop), s < 64 -> k (.tup [.int (if s < 4 then 0 else s / 2 - 1 : Nat), .int (if s < 4 then s else (2 + s % 2) * 2 ^ (s / 2 - 1) : Nat)]) U -> Γ 9 [.int s] U k
theorem Ro {k : V -> Mu -> Prop} {a b c d : Int} {U : Mu} (e : a = b) (f : c = d) (h : k (.tup [.int b, .int d]) U) : k (.tup [.int a, .int c]) U := e ▸ f ▸ h
theorem b9 : rJ (Nx Γ) := by
 intro s U k h0 h
 refine ⟨rfl, ?_⟩
 by_cases h4 : s < 4
 · rw [if_pos h4, if_pos h4] at h
   have h4' : (s : Int) < 4 := eG.mpr h4
   walk_at "g"; exact h
 · rw [if_neg h4, if_neg h4] at h
   have h4' : ¬ (s : Int) < 4 := λ q => h4 (eG.mp q)
   have s0 : (0 : Int) <= s := EK _
   have e1 : ((s : Int) / 2 ^ Eb 1 - 1) = ((s / 2 - 1 : Nat) : Int) := by
     show (s : Int) / 2 - 1 = _
     have : 2 <= s / 2 := (lC (by decide)).mpr (Ea.mp h4)
     exact (Ev (CK (by decide) this)).symm
   have e2 : ((s : Int).toNat &&& Eb 1) = s % 2 := ID s
   have e3 : (Eb 2 &&& ((s % 2 : Nat) : Int).toNat) = 0 := by
     rw [Ej]
     rcases IC s with e | e <;> rw [e] <;> rfl
   have e5 : (0 : Int) <= (((s : Int).toNat &&& Eb 1 : Nat) : Int) := EK _
   walk_at "g"
   refine zi rfl ⟨e1 ▸ EK _, e1 ▸ Er.mpr (CK (EO ..) (CK (Nat.div_le_self ..) (CK (eP h0) (by decide)))), ?_⟩ ?_
   · rw [e2, e3]; rcases IC s with e | e <;> rw [e] <;> decide
   refine Ro e1 ?_ h
   rw [e2, e3, e1, Ej]; simp
end
section
variable {Γ : Nat -> PT}
theorem Ks {N : Nat} (h : 4 <= N) : 2 <= N.log2 := (Nat.le_log2 (iT (CV (by decide) h))).mpr h
theorem dw {N : Nat} (h : 4 <= N) : N.log2 = mr N + 1 := (EJ (CK (by decide) (Ks h))).symm
theorem Zc {N : Nat} (h : 4 <= N) : N / 2 ^ mr N = 2 + N / 2 ^ mr N % 2 /\ 2 <= N / 2 ^ mr N /\ N / 2 ^ mr N < 4 := by
 have a := Nat.log2_self_le (n := N) (iT (CV (by decide) h))
 have b := Nat.lt_log2_self (n := N)
 rw [dw h] at a b
 have p := EY (mr N)
 have a' : 2 <= N / 2 ^ mr N := (lC p).mpr (by rw [iC, Iy] at a; exact a)
 have b' : N / 2 ^ mr N < 4 := (iI p).mpr (by rw [iC, iC, Nat.mul_assoc, Iy] at b; exact b)
 exact ⟨(by decide : ∀ x, x < 4 -> 2 <= x -> x = 2 + x % 2) _ b' a', a', b'⟩
theorem zg {N : Nat} (h : N < 4) : mr N = 0 := (by decide : ∀ N, N < 4 -> mr N = 0) N h
theorem xr {N : Nat} {b : Nat} (h : N < 2 ^ (b + 1)) (hb : 0 < b) : mr N < b := by
 by_cases h0 : N = 0
 · subst h0; exact hb
 · exact eE (lJ (eJ ((lK h0).mpr h)) 1) (Nat.sub_lt hb (by decide))
theorem ph {k : V -> Mu -> Prop} {a b c d e f : Int} {U : Mu} (x : a = b) (y : c = d) (z : e = f) (h : k (.tup [.int b, .int d, .int f]) U) : k (.tup [.int a, .int c, .int e]) U := x ▸ y ▸ z ▸ h
theorem XG {N : Nat} (h : 4 <= N) : 4 <= qu N /\ qu N / 2 - 1 = mr N /\ 2 + qu N % 2 = N / 2 ^ mr N := by
 obtain ⟨t1, t2, t3⟩ := Zc h
 have m1 : 1 <= mr N := lJ (Ks h) 1
 unfold qu
 generalize N / 2 ^ mr N = x at t1 t2 t3
 generalize mr N = m at m1
 refine ⟨Ek (Et 2 m1) t2, ?_⟩
 rcases (by decide : ∀ x, x < 4 -> 2 <= x -> x = 2 \/ x = 3) x t3 t2 with rfl | rfl
 · exact ⟨by rw [Nat.mul_add_div (by decide)]; rfl, by rw [Nat.mul_add_mod]⟩
 · exact ⟨by rw [Nat.mul_add_div (by decide)]; rfl, by rw [Nat.mul_add_mod]⟩
theorem kS {N : Nat} (h : 4 <= N) (h0 : N < 2 ^ 32) : qu N < 64 := by
 have hm := xr (b := 31) h0 (by decide)
 exact CV (Nat.add_lt_add_of_le_of_lt (Et 2 (eJ hm)) (Zc h).2.2) (by decide)
noncomputable def HX (Γ : Nat -> PT) : Prop := ∀ (N : Nat) U (k : V -> Mu -> Prop), N < 2 ^ 32 -> k (.tup [.int (qu N), .int (mr N), .int (N / 2 ^ mr N * 2 ^ mr N : Nat)]) U -> Γ 10 [.int (N + 1)] U k
theorem CB (h9 : rJ Γ) : HX (Nx Γ) := by
 intro N U k h0 h
 refine ⟨rfl, ?_⟩
 have e : ((N : Int) + 1 - 1) = N := ie ..
 by_cases h4 : N < 4
 · have m0 := zg h4
   have hs : qu N = N := by unfold qu; rw [m0]; simp
   rw [hs, m0] at h
   simp only [ln, IL, Nat.mul_one] at h
   have h5 : (N : Int) + 1 - 1 < 4 := by rw [e]; exact eG.mpr h4
   walk_at "g"
   exact ph e rfl e h
 · have h4' : 4 <= N := Ea.mp h4
   have h2 := dw h4'
   obtain ⟨n4, x1, x2⟩ := XG h4'
   have h5 : ¬ (N : Int) + 1 - 1 < 4 := by rw [e]; exact λ q => h4 (eG.mp q)
   have h6 : (0 : Int) <= (N : Int) + 1 - 1 := by rw [e]; exact EK _
   have e1 : ((if (N : Int) + 1 - 1 = 0 then 0 else (((N : Int) + 1 - 1).toNat.log2 + 1 : Nat) : Int) - 1) = ((mr N + 1 : Nat) : Int) := by
     rw [e, if_neg (λ q => h4 (by rw [Int.natCast_eq_zero.mp q]; decide)), Ej, h2, iH]; exact ie ..
   have e0 : (((mr N + 1 : Nat) : Int) - 1).toNat = mr N := iA (mr N + 1) 1
   have e2 : ((N : Int) + 1 - 1) / 2 ^ ((mr N + 1 : Nat) - 1 : Int).toNat = ((N / 2 ^ mr N : Nat) : Int) := by rw [e, e0, lf, EH]; rfl
   have e6 : 0 <= (if (N : Int) + 1 - 1 = 0 then 0 else (((N : Int) + 1 - 1).toNat.log2 + 1 : Nat) : Int) - 1 - 1 := by rw [e1]; exact iQ (eG.mpr (iS _))
   have e3 : ((((N / 2 ^ mr N : Nat) : Int).toNat &&& (1 : Int).toNat : Nat) : Int) = ((N / 2 ^ mr N % 2 : Nat) : Int) := by rw [Ej]; exact congrArg ip (ID _)
   have e4 : 2 * (mr N + 1) + N / 2 ^ mr N % 2 = qu N := by
     rw [qu, Nat.mul_add, EF]; exact congrArg (2 * mr N + ·) (Zc h4').1.symm
   have e5 : (2 * ((mr N + 1 : Nat) : Int) + ((N / 2 ^ mr N % 2 : Nat) : Int)) = (qu N : Int) := congrArg ip e4
   walk_at "g"
   refine zi rfl (by rw [e1, e2]; exact EK _) ?_
   refine qP rfl ?_
   rw [e1, e2, e3, e5]
   refine h9 _ _ _ (kS h4' h0) ?_
   rw [if_neg (Ea.mpr n4), if_neg (Ea.mpr n4), x1, x2]
   walk_at "l"
   refine ph (by rw [e1, e2, e3, e5]) rfl rfl h
noncomputable def vW (Γ : Nat -> PT) : Prop := ∀ J (s p : Int) (k : V -> Mu -> Prop), 0 <= p -> J.pb <= 4 -> 0 <= s -> s < 12 -> k (.int (s * 16 + p % 2 ^ J.pb)) (st J) -> Γ 15 [.obj 2 3, .int s, .int p] (st J) k
theorem Cv (h2 : rL Γ) : vW (Nx Γ) := by
 intro J s p k h0 hpb hs0 hs1 h
 refine ⟨rfl, ?_⟩
 walk_at "g"
 refine h2 J p _ h0 hpb ?_
 walk_at "g"
 exact h
noncomputable def HU (Γ : Nat -> PT) : Prop := ∀ J (l : Int) (k : V -> Mu -> Prop), k (.int (64 * mn (l - 2) 3)) (st J) -> Γ 16 [.obj 2 3, .int l] (st J) k
theorem Cu (h8 : aG Γ) : HU (Nx Γ) := by
 intro J l k h
 refine ⟨rfl, ?_⟩
 walk_at "g"
 refine h8 _ _ _ ?_
 walk_at "g"
 exact h
noncomputable def HT (Γ : Nat -> PT) : Prop := ∀ J (s : Nat) (k : V -> Mu -> Prop), 4 <= s -> s < 64 -> k (.int (((2 + s % 2) * 2 ^ (s / 2 - 1) : Nat) - s)) (st J) -> Γ 17 [.obj 2 3, .int s] (st J) k
theorem Ct (h9 : rJ Γ) : HT (Nx Γ) := by
 intro J s k h0 h1 h
 refine ⟨rfl, ?_⟩
 walk_at "g"
 refine h9 _ _ _ h1 ?_
 rw [if_neg (Ea.mpr h0), if_neg (Ea.mpr h0)]
 walk_at "g"
 exact h
noncomputable def HS (Γ : Nat -> PT) : Prop := ∀ J (p b : Int) (k : V -> Mu -> Prop), 0 <= p -> 0 <= b -> b < 256 -> J.lc <= 8 -> J.lp <= 4 -> k (.int (768 * (p % 2 ^ J.lp * 2 ^ J.lc + b / 2 ^ (8 - J.lc)))) (st J) -> Γ 18 [.obj 2 3, .int p, .int b] (st J) k
theorem Ai {n : Nat} (h : n <= 8) : (8 - (n : Int)).toNat = 8 - n /\ 0 <= 8 - (n : Int) := ⟨iA 8 n, iq.mpr (Er.mpr h)⟩
theorem Cs : HS (Nx Γ) := by
 intro J p b k h0 hb0 hb1 hlc hlp h
 refine ⟨rfl, ?_⟩
 have h1 := nn (n := J.lp)
 have h2 := Kp hlp rfl
 have h3 : (0 : Int) <= 1 * 2 ^ (J.lp : Int).toNat - 1 := iQ ((iB ((2 : Int) ^ (J.lp : Int).toNat)).symm ▸ qi (J.lp : Int).toNat)
 have h4 := nn (n := J.lc)
 have h5 := Kp hlc rfl
 obtain ⟨e8, h6⟩ := Ai hlc
 have q1 := EL p (qi J.lp)
 have q2 := EI p (IA (qi J.lp))
 have q3 : (2 : Int) ^ J.lp <= 16 := jm hlp
 have q4 : (((p.toNat &&& (1 * 2 ^ (J.lp : Int).toNat - 1 : Int).toNat : Nat) : Int)).natAbs < 2 ^ 64 := by
   rw [Zw _ h0]
   exact eG.mp ((iO q2).symm ▸ ET (eI q1 q3) (by decide))
 walk_at "g"
 refine Ue ?_ h
 rw [Zw _ h0, e8]; rfl
end
noncomputable def yG (a b c d : Int) : Prop := (1 <= a /\ a <= 4294967296) /\ (1 <= b /\ b <= 4294967296) /\ (1 <= c /\ c <= 4294967296) /\ (1 <= d /\ d <= 4294967296)
theorem Rq {i : Int} (h0 : 0 <= i) (h1 : i < 4) : i = 0 \/ i = 1 \/ i = 2 \/ i = 3 := by
 obtain ⟨n, rfl⟩ := ew h0
 rcases (by decide : ∀ n, n < 4 -> n = 0 \/ n = 1 \/ n = 2 \/ n = 3) n (eG.mp h1) with rfl | rfl | rfl | rfl
 · exact .inl rfl
 · exact .inr (.inl rfl)
 · exact .inr (.inr (.inl rfl))
 · exact .inr (.inr (.inr rfl))
noncomputable def Sg.reps (J : Sg) (a b c d : Int) : Sg := { J with r0 := a, r1 := b, r2 := c, r3 := d }
section
variable {Γ : Nat -> PT}
noncomputable def HQ (Γ : Nat -> PT) : Prop := ∀ J (k : V -> Mu -> Prop), k (.int J.r0) (st J) -> Γ 20 [.obj 3 62] (st J) k
theorem Cq : HQ (Nx Γ) := by
 intro J k h
 refine ⟨rfl, ?_⟩
 walk_at "g"
 exact h
noncomputable def HP (Γ : Nat -> PT) : Prop := ∀ J (i : Int) (k : V -> Mu -> Prop), yG J.r0 J.r1 J.r2 J.r3 -> 0 <= i -> i < 4 -> (∀ v a b c d, yG a b c d -> k v (st (J.reps a b c d))) -> Γ 21 [.obj 3 62, .int i] (st J) k
theorem Cp : HP (Nx Γ) := by
 intro J i k ok h0 h1 h
 obtain ⟨o0, o1, o2, o3⟩ := ok
 have hi := Rq h0 h1
 rcases hi with rfl | rfl | rfl | rfl
 · refine ⟨rfl, ?_⟩
   walk_at "g"
   exact h _ J.r0 J.r1 J.r2 J.r3 ⟨o0, o1, o2, o3⟩
 · refine ⟨rfl, ?_⟩
   walk_at "g"
   exact h _ J.r1 J.r0 J.r2 J.r3 ⟨o1, o0, o2, o3⟩
 · refine ⟨rfl, ?_⟩
   walk_at "g"
   exact h _ J.r2 J.r0 J.r1 J.r3 ⟨o2, o0, o1, o3⟩
 · refine ⟨rfl, ?_⟩
   walk_at "g"
   exact h _ J.r3 J.r0 J.r1 J.r2 ⟨o3, o0, o1, o2⟩
noncomputable def HO (Γ : Nat -> PT) : Prop := ∀ J (d : Int) (k : V -> Mu -> Prop), yG J.r0 J.r1 J.r2 J.r3 -> 1 <= d -> d <= 4294967296 -> (∀ a b c d, yG a b c d -> k .none (st (J.reps a b c d))) -> Γ 22 [.obj 3 62, .int d] (st J) k
theorem Co : HO (Nx Γ) := by
 intro J d k ok h0 h1 h
 obtain ⟨o0, o1, o2, o3⟩ := ok
 refine ⟨rfl, ?_⟩
 walk_at "g"
 exact h d J.r0 J.r1 J.r2 ⟨⟨h0, h1⟩, o0, o1, o2⟩
noncomputable def Wy (Γ : Nat -> PT) : Prop := ∀ (i : Int) (w : Nat) U (k : V -> Mu -> Prop), k .none U -> Γ 23 [.int i, .str w] U k
theorem Ck : Wy (Nx Γ) := by
 intro i w U k h
 refine ⟨rfl, ?_⟩
 walk_at "g"
 exact h
noncomputable def vV (Γ : Nat -> PT) : Prop := ∀ (i a b : Int) (w : Nat) U (k : V -> Mu -> Prop), a <= i -> i <= b -> k .none U -> Γ 24 [.int i, .int a, .int b, .str w] U k
theorem Cj (h23 : Wy Γ) : vV (Nx Γ) := by
 intro i a b w U k h0 h1 h
 refine ⟨rfl, ?_⟩
 walk_at "g"
 refine h23 _ _ _ _ ?_
 walk_at "g"
 exact h
noncomputable def gS (Γ : Nat -> PT) : Prop := ∀ (i a : Int) (w : Nat) U (k : V -> Mu -> Prop), a <= i -> k .none U -> Γ 24 [.int i, .int a, .none, .str w] U k
theorem aD (h23 : Wy Γ) : gS (Nx Γ) := by
 intro i a w U k h0 h
 refine ⟨rfl, ?_⟩
 walk_at "g"
 refine h23 _ _ _ _ ?_
 walk_at "g"
 exact h
noncomputable def gR (Γ : Nat -> PT) : Prop := ∀ (far s : Int) U (k : V -> Mu -> Prop), 2 <= s -> s <= 273 -> k (.int s) U -> Γ 25 [.tup [.str 1, .int far, .int s]] U k
theorem Ci (h23 : Wy Γ) (h24 : vV Γ) : gR (Nx Γ) := by
 intro far s U k h0 h1 h
 refine ⟨rfl, ?_⟩
 walk_at "g"
 refine h23 _ _ _ _ ?_
 walk_at "g"
 refine h24 _ _ _ _ _ _ h0 h1 ?_
 walk_at "g"
 exact h
noncomputable def HN (Γ : Nat -> PT) : Prop := ∀ (b : Array UInt8) (d s : Nat) U (k : V -> Mu -> Prop), 1 <= d -> b.size = d + s -> b.size <= 1000 -> (∀ i, i < b.size -> b.toList.getD i 0 = 97) -> k (.bool true) U -> Γ 26 [.byt b, .int d, .int d, .int s] U k
theorem Ch : HN (Nx Γ) := by
 intro b d s U k h0 hb hs hv h
 refine ⟨rfl, ?_⟩
 have hd : d + s <= 1000 := hb ▸ hs
 have a1 : (1 : Int) <= d := Er.mpr h0
 have a2 : (b.size : Int) = d + s := congrArg ip hb
 have a3 : ¬ (b.size : Int) < d + s := ic.mpr (iF a2.symm)
 have a4 : b.size <= 1000000 := CK hs (by decide)
 have e0 : ((d : Int) + s - d).toNat = s := (congrArg Eb (Au ..)).trans (Ej s)
 have g : (d : Int).natAbs <= 1000000000000 /\ ((d : Int) + s).natAbs <= 1000000000000 /\ ((d : Int) + s - d).toNat <= 1000000 := ⟨CK (CK (Eo ..) hd) (by decide), CK hd (by decide), e0.symm ▸ CK (CK (Ed ..) hd) (by decide)⟩
 walk_at "g"
 refine yo (λ y => [some (.byt b), some (.int d), some (.int d), some (.int s), y]) (λ _ => U) s rfl e0 (λ _ _ => True) none trivial (λ i y hi _ k' hk' => ?_) λ y _ => ?_
 · have x1 : d + i < b.size := hb ▸ iX hi d
   have x2 : i < b.size := eE (Ed ..) x1
   have x3 : (0 : Int) <= d + i := nn (n := d + i)
   have x4 : (d : Int) + i < b.size := eG.mpr x1
   have x6 : (d : Int) + i - d = i := Au ..
   have x5 : 0 <= (d : Int) + i - d := x6.symm ▸ nn
   have x7 : (d : Int) + i - d < b.size := x6.symm ▸ Yp x2
   have e : ((b.toList.getD (d + i : Int).toNat 0).toNat : Int) = ((b.toList.getD (d + i - d : Int).toNat 0).toNat : Int) :=
     congrArg (λ x : UInt8 => (x.toNat : Int)) ((hv (d + i) x1).trans (x6.symm ▸ (hv i x2).symm))
   walk_at "h"
   exact hk' _ trivial
 · walk_at "h"
   exact h
noncomputable def Wx (Γ : Nat -> PT) : Prop := ∀ J (d : Int) (k : V -> Mu -> Prop), 1 <= d -> d <= J.plc -> k .none (st J) -> Γ 40 [.obj 5 61, .int d] (st J) k
theorem Hj (h23 : Wy Γ) : Wx (Nx Γ) := by
 intro J d k h0 h1 h
 refine ⟨rfl, ?_⟩
 walk_at "g"
 refine h23 _ _ _ _ ?_
 walk_at "g"
 exact h
noncomputable def BQ (Γ : Nat -> PT) : Prop := ∀ x (l : Int) U (k : V -> Mu -> Prop), 2 <= l -> l <= 273 -> k .none U -> Γ 41 [x, .int l] U k
theorem cR (h24 : vV Γ) : BQ (Nx Γ) := by
 intro x l U k h0 h1 h
 refine ⟨rfl, ?_⟩
 walk_at "g"
 refine h24 _ _ _ _ _ _ h0 h1 ?_
 walk_at "g"
 exact h
noncomputable def HB (Γ : Nat -> PT) : Prop := ∀ x (far s : Int) U (k : V -> Mu -> Prop), k (.int far) U -> Γ 48 [x, .tup [.str 1, .int far, .int s]] U k
theorem cL : HB (Nx Γ) := by
 intro x far s U k h
 refine ⟨rfl, ?_⟩
 walk_at "g"
 exact h
end
noncomputable def Sg.wr (J : Sg) (low span cache held : Int) (n : Nat) : Sg := { J with low := low, span := span, cache := cache, held := held, n := n }
theorem KH {x : Int} : 0 <= ((x.toNat &&& (255 : Int).toNat : Nat) : Int) /\ ((x.toNat &&& (255 : Int).toNat : Nat) : Int) < 256 := ⟨nn, Yp (im Nat.and_le_right)⟩
theorem Hf {x : Int} (h : 0 <= x) : ((x.toNat &&& (16777216 - 1 : Int).toNat : Nat) : Int) = x % 16777216 := by
 obtain ⟨m, rfl⟩ := ew h
 exact congrArg ip (Il m 24)
theorem xd (r : Nat) (x : UInt8) : (eX r [x]).flatten.toArray.size = r := by
 simp
theorem fB {m r : Nat} {x : UInt8} (h : m + r <= 1000000) : m + (eX r [x]).flatten.toArray.size <= 1000000 := (xd r x).symm ▸ h
theorem rU {n r : Nat} {h : Int} {x : UInt8} (e : (r : Int) = h - 1) : ((n + 1 + (eX r [x]).flatten.toArray.size : Nat) : Int) + 1 = n + h + 1 := by
 rw [xd]
 refine congrArg (· + 1) (show (n : Int) + 1 + r = n + h from ?_)
 rw [e, En, iz 1, ir]
section
variable {Γ : Nat -> PT}
noncomputable def BL (Γ : Nat -> PT) : Prop := ∀ (J : Sg) (τ : Mu) (k : V -> Mu -> Prop), 0 <= J.low -> 0 <= J.cache -> J.cache <= 255 -> 1 <= J.held -> (J.n : Int) + J.held <= 100000 ->
 (∀ (c h : Int) (n : Nat), 0 <= c -> c <= 255 -> 1 <= h -> (n : Int) + h = J.n + J.held + 1 -> (J.low < 4278190080 -> h = 1) -> k .none (sx (J.wr (J.low % 16777216 * 256) J.span c h n) τ)) -> Γ 55 [.obj 6 58] (sx J τ) k
set_option maxHeartbeats 4000000 in
theorem cB : BL (Nx Γ) := by
 intro J τ k h0 h2 h3 h4 h5 h
 refine ⟨rfl, ?_⟩
 have e : ((J.low.toNat &&& (16777216 - 1 : Int).toNat : Nat) : Int) * 2 ^ Eb 8 = J.low % 16777216 * 256 := congrArg (· * 256) (Hf h0)
 have e24 : ((J.low.toNat &&& (16777216 - 1 : Int).toNat : Nat) : Int).natAbs < 2 ^ 64 := eE Nat.and_le_right (by decide)
 have h' := λ l (e : l = J.low % 16777216 * 256) => (e ▸ h : ∀ (c h : Int) (n : Nat), 0 <= c -> c <= 255 -> 1 <= h -> (n : Int) + h = J.n + J.held + 1 -> (J.low < 4278190080 -> h = 1) -> k .none (sx (J.wr l J.span c h n) τ))
 have g0 : (0 : Int) <= (16777216 - 1) := by decide
 show let vc := _; Ok _ vc
 intro vc
 have body : Ok Γ (wt vc) := by
   have hq : 0 <= J.low / 2 ^ Eb 32 := EZ h0 (by decide)
   have g1 := Eg h2 hq
   have g2 := Eg (show (0 : Int) <= 255 by decide) hq
   have g3 : 0 <= J.low / 2 ^ Eb 24 := EZ h0 (by decide)
   have z1 := KH (x := J.cache + J.low / 2 ^ Eb 32)
   have z2 := KH (x := 255 + J.low / 2 ^ Eb 32)
   have z3 := KH (x := J.low / 2 ^ Eb 24)
   have w0 := iq.mpr h4
   have n1 := EW w0
   have w1 : J.n + 1 + (J.held - 1).toNat <= 100000 := Er.mp (by rw [iH, iH, n1, En, show ((1 : Nat) : Int) + (J.held - 1) = J.held from (iz ..).trans (ir ..)]; exact h5)
   have g4 : J.n < 1000000 := CV (CV (iU _) (CK (Eo ..) w1)) (by decide)
   have g5 : J.held - 1 <= 1000000 := n1 ▸ Er.mpr (CK (CK (Ed ..) w1) (by decide))
   have g6 := CK w1 (show 100000 <= 1000000 by decide)
   walk_at "g"
   refine zi rfl (fB g6) ?_
   walk_at "g"
   exact h' _ e _ 1 _ z3.1 (eU z3.2) (by decide) (rU n1) λ _ => rfl
 by_cases hc : J.low < 4278190080
 · exact uE rfl hc body
 · refine oq rfl hc ?_
   by_cases hd : 4294967296 <= J.low
   · exact uE rfl hd body
   · refine oq rfl hd ?_
     walk_at "g"
     exact h' _ e J.cache (J.held + 1) J.n h2 h3 (CM h4 (CQ (by decide))) (En ..).symm λ q => absurd q hc
end
noncomputable def sp (s m b : Int) : Int := if b = 0 then s / 2048 * m else s - s / 2048 * m
noncomputable def fl (s : Int) : Int := if s < 16777216 then s * 256 else s
noncomputable def gr (s : Int) : Int := if s < 16777216 then 1 else 0
noncomputable def Sg.op (J : Sg) : Sg := { J with cl := false }
theorem uB {J : Sg} (h : J.cl = false) : J = J.op := by cases J; cases h; rfl
structure RI (J : Sg) : Prop where
 l0 : 0 <= J.low
 l1 : J.low + J.span <= 8589934592
 s0 : 16777216 <= J.span
 s1 : J.span < 4294967296
 c0 : 0 <= J.cache
 c1 : J.cache <= 255
 h1 : 1 <= J.held
 cl : J.cl = false
noncomputable def Sg.setf (J : Sg) (s : Nat) (f' : Int -> Int) (u' : Nat) : Sg := { J with f := λ r => if r = s then f' else J.f r, u := λ r => if r = s then u' else J.u r }
noncomputable def rj (P : Nat -> Prop) : List Nat -> Prop
 | [] => True
 | a :: r => P a /\ rj P r
theorem jD {P : Nat -> Prop} : ∀ {l : List Nat}, rj P l -> ∀ s ∈ l, P s
 | a :: r, h, s, hs => (eV.mp hs).elim (λ e => e ▸ h.1) (jD h.2 s)
section
variable (J : Sg) (τ : Mu)
theorem JA : ∀ s ∈ YA, qj (sx J τ) (hn s) = some (ro J s) := jD ⟨rfl, rfl, rfl, rfl, rfl, rfl, rfl, rfl, rfl, rfl, rfl, rfl, rfl, rfl, rfl, rfl, rfl, rfl, trivial⟩
theorem Kf (f' : Int -> Int) (u' : Nat) : ∀ s ∈ YA, qy (sx J τ) (hn s) (.row (cc J.pb s) (sz J.lc J.lp J.pb s) f' u') = sx (J.setf s f' u') τ := jD ⟨rfl, rfl, rfl, rfl, rfl, rfl, rfl, rfl, rfl, rfl, rfl, rfl, rfl, rfl, rfl, rfl, rfl, rfl, trivial⟩
theorem FI {U : Mu} {c : Bool} {n : Int} {k : Nat} (h0 : 0 < k) (h : qj U (k - 1) = some (dm c n k)) : jF U c n k := by
 cases c with
 | false => exact trivial
 | true => exact ⟨h0, _, h, rfl, rfl⟩
theorem QM (s : Nat) (h : s ∈ YA) : jF (sx J τ) (cc J.pb s) (sz J.lc J.lp J.pb s) (hn s) :=
 have x := jD (P := λ s => qj (sx J τ) (hn s - 1) = some (dm (cc J.pb s) (sz J.lc J.lp J.pb s) (hn s))) (l := YA) ⟨rfl, rfl, rfl, rfl, rfl, rfl, rfl, rfl, rfl, rfl, rfl, rfl, rfl, rfl, rfl, rfl, rfl, rfl, trivial⟩ s h
 FI ((by decide : ∀ s ∈ YA, 0 < hn s) s h) x
end
section
variable {Γ : Nat -> PT}
noncomputable def gO (Γ : Nat -> PT) : Prop := ∀ (J : Sg) (τ : Mu) (k : V -> Mu -> Prop), 0 <= J.low -> 0 <= J.cache -> J.cache <= 255 -> 1 <= J.held -> (J.n : Int) + J.held <= 100000 -> 0 < J.span -> J.span < 4294967296 ->
 (∀ (l c h : Int) (n : Nat), 0 <= l -> (16777216 <= J.span -> l = J.low) -> (J.span < 16777216 -> l < 4294967296) -> 0 <= c -> c <= 255 -> 1 <= h -> (n : Int) + h = J.n + J.held + gr J.span -> k .none (sx (J.wr l (fl J.span) c h n) τ)) -> Γ 56 [.obj 6 58] (sx J τ) k
theorem na {a : Int} (h0 : 0 <= a) {n : Nat} (h1 : a < n) (h : eY n (2 ^ 64) = true) : a.natAbs < 2 ^ 64 := CV (eG.mp ((iO h0).symm ▸ h1)) (CR h)
theorem cA (h55 : BL Γ) : gO (Nx Γ) := by
 intro J τ k h0 h2 h3 h4 h5 h6 h7 h
 refine ⟨rfl, ?_⟩
 have n0 := na (eC h6) (n := 4294967296) h7 rfl
 unfold fl gr at h
 by_cases hc : J.span < 16777216
 · rw [if_pos hc, if_pos hc] at h
   walk_at "h"
   refine qP (U := sx (J.wr J.low (J.span * 256) J.cache J.held J.n) τ) rfl ?_
   refine h55 (J.wr J.low (J.span * 256) J.cache J.held J.n) τ _ h0 h2 h3 h4 h5 λ c hh n c0 c1 e1 e2 _ => ?_
   walk_at "g"
   exact h (J.low % 16777216 * 256) c hh n (Eu (EI _ (by decide)) (by decide)) (λ e => absurd hc (ic.mpr e)) (λ _ => iM (EL _ (by decide)) (by decide)) c0 c1 e1 e2
 · rw [if_neg hc, if_neg hc] at h
   walk_at "h"
   exact h J.low J.cache J.held J.n h0 (λ _ => rfl) (λ e => absurd e hc) h2 h3 h4 (iV _).symm
noncomputable def gN (Γ : Nat -> PT) : Prop := ∀ (J : Sg) (τ : Mu) (k : V -> Mu -> Prop), J.cl = false -> k .none (sx J τ) -> Γ 57 [.obj 6 58] (sx J τ) k
theorem cz : gN (Nx Γ) := by
 intro J τ k hc
 rw [uB hc]
 intro h
 refine ⟨rfl, ?_⟩
 walk_at "h"
 exact h
theorem px {s f : Int} (s0 : 16777216 <= s) (s1 : s < 4294967296) (f0 : 31 <= f) (f1 : f <= 2017) : 0 <= s / 2048 /\ (s / 2048).natAbs < 2 ^ 64 /\ 0 <= s / 2048 * f /\ 253952 <= s / 2048 * f /\ s / 2048 * f + 253952 <= s := by
 have d0 : 8192 <= s / 2048 := (Ij (by decide)).mpr s0
 have d1 : s / 2048 * 2048 <= s := Int.ediv_mul_le s (by decide)
 have dn : 0 <= s / 2048 := CM (by decide) d0
 have q1 := eH f1 dn
 have q2 := eH f0 dn
 generalize s / 2048 * f = y at *
 generalize s / 2048 = x at *
 refine ⟨dn, na dn (n := 4294967296) (by omega) rfl, by omega, by omega, by omega⟩
theorem Uv {l lo sp : Int} (h0 : 253952 <= sp) (h1 : sp < 4294967296) (e1 : 16777216 <= sp -> l = lo) (e2 : sp < 16777216 -> l < 4294967296) (h2 : lo + sp <= 8589934592) : l + fl sp <= 8589934592 /\ 16777216 <= fl sp /\ fl sp < 4294967296 := by
 unfold fl
 by_cases h : sp < 16777216
 · rw [if_pos h]; have := e2 h; omega
 · rw [if_neg h]; have := e1 (ic.mp h); omega
noncomputable def Hy (Γ : Nat -> PT) : Prop := ∀ (J : Sg) (τ : Mu) (s : Nat) (i b : Int) (k : V -> Mu -> Prop), RI J -> (J.n : Int) + J.held <= 90000 -> s ∈ YA -> 0 <= i -> i < sz J.lc J.lp J.pb s -> sz J.lc J.lp J.pb s <= 10000000 -> (b = 0 \/ b = 1) -> 31 <= J.f s i -> J.f s i <= 2017 -> J.u s < 900000 ->
 (∀ (l c h : Int) (n : Nat) (J' : Sg), J' = (J.wr l (fl (sp J.span (J.f s i) b)) c h n).setf s (λ q => if q = i then nx (J.f s i) b else J.f s q) (J.u s + 1) -> RI J' -> (n : Int) + h = J.n + J.held + gr (sp J.span (J.f s i) b) -> k .none (sx J' τ)) ->
 Γ 58 [.obj 6 58, rv J.lc J.lp J.pb s, .int i, .int b] (sx J τ) k
set_option maxHeartbeats 4000000 in
theorem cy (h51 : BO Γ) (h52 : BN Γ) (h56 : gO Γ) (h57 : gN Γ) : Hy (Nx Γ) := by
 intro J τ s i b k ri hN hs i0 i1 i2 hb f0 f1 hu h
 refine ⟨rfl, ?_⟩
 obtain ⟨l0, l1, s0, s1, c0, c1, h1, cl⟩ := ri
 obtain ⟨d0, d1, d2, d3, d4⟩ := px s0 s1 f0 f1
 have i3 : i < 1000000000 := eI i1 (CM i2 (by decide))
 have hu' : J.u s < 1000000 := CV hu (by decide)
 have hN' : (J.n : Int) + J.held <= 100000 := CM hN (by decide)
 have mo : IntMulOk (J.span / 2 ^ Eb 11) (J.f s i) := ZC d1
 walk_at "g"
 refine h52 _ _ _ hb ?_
 walk_at "g"
 refine h57 _ _ _ cl ?_
 walk_at "l"
 refine xn (JA J τ s hs) ?_
 walk_at "l"
 refine zi rfl ⟨rfl, rfl, i0, i1, i3, QM J τ s hs⟩ ?_
 have tail : ∀ (k : V -> Mu -> Prop) (lo sp' b : Int), (∀ (l c h : Int) (n : Nat) (J' : Sg), J' = (J.wr l (fl sp') c h n).setf s (λ q => if q = i then nx (J.f s i) b else J.f s q) (J.u s + 1) -> RI J' -> (n : Int) + h = J.n + J.held + gr sp' -> k .none (sx J' τ)) ->
     0 <= lo -> 253952 <= sp' -> sp' < 4294967296 -> lo + sp' <= 8589934592 -> Γ 56 [.obj 6 58] (sx ((J.wr lo sp' J.cache J.held J.n).setf s (λ q => if q = i then nx (J.f s i) b else J.f s q) (J.u s + 1)) τ) k := by
   intro k lo sp' b h z0 z1 z2 z3
   refine h56 ((J.wr lo sp' J.cache J.held J.n).setf s (λ q => if q = i then nx (J.f s i) b else J.f s q) (J.u s + 1)) τ k z0 c0 c1 h1 hN' (eI (by decide) z1) z2 λ l c hh n e0 e1 e2 e3 e4 e5 e6 => ?_
   obtain ⟨x1, x2, x3⟩ := Uv z1 z2 e1 e2 z3
   exact h l c hh n _ rfl ⟨e0, x1, x2, x3, e3, e4, e5, cl⟩ e6
 rcases hb with rfl | rfl
 · rw [show sp J.span (J.f s i) 0 = J.span / 2048 * J.f s i from if_pos rfl] at h
   walk_at "h"
   refine qP (U := sx (J.wr J.low (J.span / 2048 * J.f s i) J.cache J.held J.n) τ) rfl ?_
   refine h51 _ _ _ _ ?_
   walk_at "l"
   refine xn (JA (J.wr J.low (J.span / 2048 * J.f s i) J.cache J.held J.n) τ s hs) ?_
   refine zi rfl ⟨rfl, rfl, i0, i1, hu', i3, QM (J.wr J.low (J.span / 2048 * J.f s i) J.cache J.held J.n) τ s hs⟩ ?_
   refine OK rfl (Kf (J.wr J.low (J.span / 2048 * J.f s i) J.cache J.held J.n) τ _ _ s hs) ?_
   refine qP rfl ?_
   exact tail _ J.low (J.span / 2048 * J.f s i) 0 h l0 d3 (EA (CM (CQ (by decide)) d4) s1) (CM (eT (CM (CQ (by decide)) d4) _) l1)
 · rw [show sp J.span (J.f s i) 1 = J.span - J.span / 2048 * J.f s i from if_neg (by decide)] at h
   walk_at "h"
   refine qP (U := sx (J.wr (J.low + J.span / 2048 * J.f s i) (J.span - J.span / 2048 * J.f s i) J.cache J.held J.n) τ) rfl ?_
   refine h51 _ _ _ _ ?_
   walk_at "l"
   refine xn (JA (J.wr (J.low + J.span / 2048 * J.f s i) (J.span - J.span / 2048 * J.f s i) J.cache J.held J.n) τ s hs) ?_
   refine zi rfl ⟨rfl, rfl, i0, i1, hu', i3, QM (J.wr (J.low + J.span / 2048 * J.f s i) (J.span - J.span / 2048 * J.f s i) J.cache J.held J.n) τ s hs⟩ ?_
   refine OK rfl (Kf (J.wr (J.low + J.span / 2048 * J.f s i) (J.span - J.span / 2048 * J.f s i) J.cache J.held J.n) τ _ _ s hs) ?_
   refine qP rfl ?_
   exact tail _ (J.low + J.span / 2048 * J.f s i) (J.span - J.span / 2048 * J.f s i) 1 h (Eg l0 d2) (by omega) (by omega) (by rw [En, iz (J.span / 2048 * J.f s i), ir]; exact l1)
end
noncomputable abbrev qX := Nat × Int × Int
noncomputable def Qi (f : Nat -> Int -> Int) (x : qX) : Nat -> Int -> Int := λ r => if r = x.1 then (λ q => if q = x.2.1 then nx (f x.1 x.2.1) x.2.2 else f x.1 q) else f r
noncomputable def Zi : (Nat -> Int -> Int) -> List qX -> (Nat -> Int -> Int)
 | f, [] => f
 | f, x :: L => Zi (Qi f x) L
noncomputable def ub (u : Nat -> Nat) (x : qX) : Nat -> Nat := λ r => if r = x.1 then u x.1 + 1 else u r
noncomputable def XR : (Nat -> Nat) -> List qX -> (Nat -> Nat)
 | u, [] => u
 | u, x :: L => XR (ub u x) L
noncomputable def KD (f : Nat -> Int -> Int) (x : qX) : Int := if x.2.2 = 1 then 2048 - f x.1 x.2.1 else f x.1 x.2.1
noncomputable def WD : (Nat -> Int -> Int) -> List qX -> List Int
 | _, [] => []
 | f, x :: L => KD f x :: WD (Qi f x) L
noncomputable def zd : List Int -> Int
 | [] => 1
 | x :: L => x * zd L
theorem xc : ∀ (L M : List qX) f, Zi f (L ++ M) = Zi (Zi f L) M
 | [], _, _ => rfl
 | x :: L, M, f => xc L M (Qi f x)
theorem xb : ∀ (L M : List qX) u, XR u (L ++ M) = XR (XR u L) M
 | [], _, _ => rfl
 | x :: L, M, u => xb L M (ub u x)
theorem KC : ∀ (L M : List qX) f, WD f (L ++ M) = WD f L ++ WD (Zi f L) M
 | [], _, _ => rfl
 | x :: L, M, f => by
   show KD f x :: WD (Qi f x) (L ++ M) = KD f x :: (WD (Qi f x) L ++ _)
   rw [KC L M (Qi f x)]; rfl
theorem yM : ∀ (L M : List Int), zd (L ++ M) = zd L * zd M
 | [], M => (iB _).symm
 | x :: L, M => by
   show x * zd (L ++ M) = x * zd L * zd M
   rw [yM L M, EB]
noncomputable def Xr (f : Nat -> Int -> Int) : Prop := ∀ s i, 31 <= f s i /\ f s i <= 2017
theorem fO : ∀ n : Nat, n < 2018 -> 31 <= n -> (31 <= (n : Int) + (2048 - n) / 32 /\ (n : Int) + (2048 - n) / 32 <= 2017) /\ (31 <= (n : Int) - n / 32 /\ (n : Int) - n / 32 <= 2017) := by decide +kernel
theorem OM {m b : Int} (h0 : 31 <= m) (h1 : m <= 2017) : 31 <= nx m b /\ nx m b <= 2017 := by
 obtain ⟨n, rfl⟩ := ew (CM (by decide) h0)
 have z := fO n (im (Er.mp h1)) (Er.mp h0)
 unfold nx; split
 · exact z.1
 · exact z.2
theorem kT {f : Nat -> Int -> Int} (h : Xr f) (x : qX) : Xr (Qi f x) := by
 intro s i
 unfold Qi
 split
 · dsimp only
   split
   · exact OM (h _ _).1 (h _ _).2
   · exact h _ _
 · exact h _ _
theorem QL : ∀ (L : List qX) {f}, Xr f -> Xr (Zi f L)
 | [], _, h => h
 | x :: L, _, h => QL L (kT h x)
theorem vF {f : Nat -> Int -> Int} (h : Xr f) (x : qX) : 31 <= KD f x /\ KD f x <= 2017 := by
 unfold KD
 have := h x.1 x.2.1
 split
 · exact ⟨Int.sub_le_sub_left this.2 2048, Int.sub_le_sub_left this.1 2048⟩
 · exact this
theorem JD : ∀ (L : List qX) {f}, Xr f -> 0 < zd (WD f L)
 | [], _, _ => (by decide : (0 : Int) < 1)
 | x :: L, f, h => iP (eI (by decide) (vF h x).1) (JD L (kT h x))
theorem wx : ∀ (L : List qX) u s, XR u L s <= u s + L.length
 | [], _, _ => Ex _
 | x :: L, u, s => by
   have h : ub u x s <= u s + 1 := by
     unfold ub
     split
     · rename_i e; rw [e]; exact Ex _
     · exact IK _
   exact CK (wx L (ub u x) s) (CK (CX h _) (EQ (ib ..)))
noncomputable def bF (f : Nat -> Int -> Int) (g : Nat) (L : List qX) (p : Nat) : Int := 256 ^ g * zd (WD f L) * 8191 ^ (L.length + p)
noncomputable def KL (n p : Nat) : Int := 2048 ^ n * 2 ^ p * 8192 ^ (n + p)
noncomputable def Gh (f : Nat -> Int -> Int) (g : Nat) (L : List qX) : Int := 256 ^ g * zd (WD f L) * 126 ^ L.length
noncomputable def Gf (n p : Nat) : Int := 2048 ^ n * 2 ^ p * 125 ^ n
theorem bE (f : Nat -> Int -> Int) (g h : Nat) (L M : List qX) (p q : Nat) : bF f (g + h) (L ++ M) (p + q) = bF f g L p * bF (Zi f L) h M q := by
 unfold bF
 rw [KC, yM, iy, eN, show L.length + M.length + (p + q) = (L.length + p) + (M.length + q) from lL .., iy]
 ac_rfl
theorem Gg (f : Nat -> Int -> Int) (g h : Nat) (L M : List qX) : Gh f (g + h) (L ++ M) = Gh f g L * Gh (Zi f L) h M := by
 unfold Gh
 rw [KC, yM, iy, eN, iy]
 ac_rfl
theorem bC (n m p q : Nat) : KL (n + m) (p + q) = KL n p * KL m q := by
 unfold KL
 rw [show n + m + (p + q) = (n + p) + (m + q) from lL .., iy, iy, iy]
 ac_rfl
theorem Ge (n m p q : Nat) : Gf (n + m) (p + q) = Gf n p * Gf m q := by
 unfold Gf
 rw [iy, iy, iy]
 ac_rfl
theorem qv {a : Int} (h : 0 < a) (n : Nat) : 0 < a ^ n := Int.pow_pos h
theorem bD {f} (h : Xr f) (g L p) : 0 < bF f g L p := iP (iP (qv (by decide) _) (JD L h)) (qv (by decide) _)
theorem wd {f} (h : Xr f) (g L) : 0 < Gh f g L := iP (iP (qv (by decide) _) (JD L h)) (qv (by decide) _)
theorem Kt (n p) : 0 < KL n p := iP (iP (qv (by decide) _) (qv (by decide) _)) (qv (by decide) _)
theorem wc (n p) : 0 < Gf n p := iP (iP (qv (by decide) _) (qv (by decide) _)) (qv (by decide) _)
theorem Xc {s s1 s2 a1 b1 a2 b2 : Int} (ha : 0 < a2) (hb : 0 < b1) (h1 : s * a1 <= s1 * b1) (h2 : s1 * a2 <= s2 * b2) : s * (a1 * a2) <= s2 * (b1 * b2) := by
 have x := eM h1 (eC ha)
 have y := eM h2 (eC hb)
 have e1 : s * (a1 * a2) = s * a1 * a2 := by ac_rfl
 have e2 : s1 * b1 * a2 = s1 * a2 * b1 := by ac_rfl
 have e3 : s2 * (b1 * b2) = s2 * b2 * b1 := by ac_rfl
 rw [e1, e3]
 exact CM x (e2 ▸ y)
structure Go (J J' : Sg) (L : List qX) (p : Nat) : Prop where
 eq : ∃ l s c h n, J' = { J.wr l s c h n with f := Zi J.f L, u := XR J.u L }
 ri : RI J'
 num : ∃ g : Nat, (J'.n : Int) + J'.held = J.n + J.held + g /\ g <= L.length + p /\ J.span * bF J.f g L p <= J'.span * KL L.length p /\ J'.span * Gf L.length p <= J.span * Gh J.f g L
structure Rd (J : Sg) (m : Nat) : Prop where
 ri : RI J
 f : Xr J.f
 u : ∀ s, J.u s + m <= 90000
 n : (J.n : Int) + J.held + m <= 90000
 lc : J.lc <= 8
 lp : J.lp <= 4
 pb : J.pb <= 4
theorem Go.refl {J : Sg} (h : RI J) : Go J J [] 0 :=
 ⟨⟨J.low, J.span, J.cache, J.held, J.n, rfl⟩, h, 0, (iV _).symm, Ex _, IP _, IP _⟩
theorem Go.trans {J J1 J2 : Sg} {L M : List qX} {p q : Nat} (hf : Xr J.f) (a : Go J J1 L p) (b : Go J1 J2 M q) : Go J J2 (L ++ M) (p + q) := by
 obtain ⟨⟨l, s, c, h, n, e⟩, r, g, g1, g2, g3, g4⟩ := a
 obtain ⟨⟨l', s', c', h', n', e'⟩, r', g', g1', g2', g3', g4'⟩ := b
 have ef : J1.f = Zi J.f L := by rw [e]
 have eu : J1.u = XR J.u L := by rw [e]
 refine ⟨⟨l', s', c', h', n', ?_⟩, r', g + g', ?_, ?_, ?_, ?_⟩
 · rw [e', ef, eu, xc, xb, e]; rfl
 · rw [g1', g1, iH, En]
 · rw [eN, lL]; exact Ek g2 g2'
 · rw [bE, eN, bC]
   rw [ef] at g3'
   exact Xc (bD (QL L hf) ..) (Kt ..) g3 g3'
 · rw [Gg, eN, Ge]
   rw [ef] at g4'
   have := Xc (wc L.length p) (wd (QL L hf) g' M) g4' g4
   rw [ES (Gf M.length q), ES (Gh (Zi J.f L) g' M)] at this
   exact this
theorem Rd.go {J J' : Sg} {L : List qX} {p m : Nat} (r : Rd J (L.length + p + m)) (g : Go J J' L p) : Rd J' m := by
 obtain ⟨⟨l, s, c, h, n, e⟩, ri, g, g1, g2, g3, g4⟩ := g
 have f := r.f
 have hu := r.u
 have hn := r.n
 rw [iH, <- En] at hn
 have a := r.lc
 have b := r.lp
 have d := r.pb
 refine ⟨ri, by rw [e]; exact QL L f, λ s => ?_, ?_, by rw [e]; exact a, by rw [e]; exact b, by rw [e]; exact d⟩
 · rw [e]
   exact CK (CX (wx L J.u s) m) (CK (EQ (EF ..)) (CK (Em (CX (Eo ..) m) _) (hu s)))
 · rw [g1]
   exact CM (eD (eT (Qt g2) _) _) hn
theorem Rd.le {J : Sg} {m n : Nat} (r : Rd J m) (h : n <= m) : Rd J n := ⟨r.ri, r.f, λ s => CK (Em h _) (r.u s), CM (eT (Qt h) _) r.n, r.lc, r.lp, r.pb⟩
theorem Rd.sp {J : Sg} {a b c m : Nat} (r : Rd J (a + m)) (h : eB (b + c) a = true) : Rd J (b + (c + m)) := (EF b c m ▸ (em h).symm ▸ r : Rd J (b + (c + m)))
theorem Bz {s m b : Int} (s0 : 16777216 <= s) (s1 : s < 4294967296) (m0 : 31 <= m) (m1 : m <= 2017) (hb : b = 0 \/ b = 1) :
   let c := if b = 1 then 2048 - m else m
   s * c * 8191 <= sp s m b * 2048 * 8192 /\ sp s m b * 2048 * 125 <= s * c * 126 /\ 0 <= sp s m b := by
 have h1 : 2048 * (s / 2048) <= s := ES 2048 (s / 2048) ▸ Int.ediv_mul_le s (by decide)
 have h2 : s <= 2048 * (s / 2048) + 2047 := by omega
 have h3 : 8192 <= s / 2048 := (Ij (by decide)).mpr s0
 have a1 : 2048 * (s / 2048) * m <= s * m := eM h1 (CM (by decide) m0)
 have a2 : s * m <= (2048 * (s / 2048) + 2047) * m := eM h2 (CM (by decide) m0)
 have a3 : 8192 * m <= s / 2048 * m := eM h3 (CM (by decide) m0)
 have a4 : s * m <= s * 2017 := eH m1 (CM (by decide) s0)
 rw [Int.add_mul] at a2
 rw [EB] at a1 a2
 unfold sp
 rcases hb with rfl | rfl
 · simp only [if_true, show ¬ ((0 : Int) = 1) by decide, if_false]
   generalize s / 2048 * m = y at *
   generalize s * m = x at *
   exact ⟨by omega, by omega, by omega⟩
 · simp only [if_true, show ¬ ((1 : Int) = 0) by decide, if_false]
   rw [Int.mul_sub]
   generalize s / 2048 * m = y at *
   generalize s * m = x at *
   exact ⟨by omega, by omega, by omega⟩
theorem dM (s : Int) : ∃ g : Nat, gr s = g /\ g <= 1 /\ fl s = s * 256 ^ g := by
 unfold fl gr
 by_cases h : s < 16777216
 · rw [if_pos h, if_pos h]; exact ⟨1, rfl, Ex _, by simp⟩
 · rw [if_neg h, if_neg h]; exact ⟨0, rfl, Ew _, by simp⟩
theorem pA {s P a t k : Int} {g : Nat} (h : s * P * a <= t * k) : s * (256 ^ g * P * a) <= t * 256 ^ g * k := by
 have x := eM h (eC (qv (by decide : (0 : Int) < 256) g))
 rw [Int.mul_right_comm t, EB (256 ^ g), Int.mul_left_comm, ES, <- EB s]
 exact x
theorem pC {s P a t k : Int} {g : Nat} (h : t * k <= s * P * a) : t * 256 ^ g * k <= s * (256 ^ g * P * a) := by
 have x := eM h (eC (qv (by decide : (0 : Int) < 256) g))
 rw [Int.mul_right_comm t, EB (256 ^ g), Int.mul_left_comm, ES (256 ^ g), <- EB s]
 exact x
theorem Go.bit {J J' : Sg} {s : Nat} {i b : Int} {l c h : Int} {n : Nat} (r : RI J) (hf : Xr J.f) (hb : b = 0 \/ b = 1)
   (e : J' = (J.wr l (fl (sp J.span (J.f s i) b)) c h n).setf s (λ q => if q = i then nx (J.f s i) b else J.f s q) (J.u s + 1)) (r' : RI J')
   (hn : (n : Int) + h = J.n + J.held + gr (sp J.span (J.f s i) b)) : Go J J' [(s, i, b)] 0 := by
 obtain ⟨n1, n2, n3⟩ := Bz r.s0 r.s1 (hf s i).1 (hf s i).2 hb
 obtain ⟨g, g1, g2, g3⟩ := dM (sp J.span (J.f s i) b)
 subst e
 refine ⟨⟨l, fl (sp J.span (J.f s i) b), c, h, n, rfl⟩, r', g, g1 ▸ hn, g2, ?_, ?_⟩
 · show J.span * (256 ^ g * (KD J.f (s, i, b) * 1) * 8191) <= fl (sp J.span (J.f s i) b) * (2048 * 8192)
   rw [g3, IN]
   exact pA (EB (sp J.span (J.f s i) b) 2048 8192 ▸ n1)
 · show fl (sp J.span (J.f s i) b) * (2048 * 125) <= J.span * (256 ^ g * (KD J.f (s, i, b) * 1) * 126)
   rw [g3, IN]
   exact pC (EB (sp J.span (J.f s i) b) 2048 125 ▸ n2)
theorem dJ {s : Int} (s0 : 16777216 <= s) (s1 : s < 4294967296) : 253952 <= s / 2 /\ s / 2 < 4294967296 /\ s / 2 + s / 2 <= s /\ s * 8191 <= s / 2 * 16384 /\ s / 2 * 2 <= s := by
 have d0 : 8388608 <= s / 2 := (Ij (by decide)).mpr s0
 have d1 : s / 2 * 2 <= s := Int.ediv_mul_le s (by decide)
 have d2 : s < (s / 2 + 1) * 2 := Int.lt_ediv_add_one_mul_self s (by decide)
 generalize s / 2 = x at *
 omega
theorem Go.plain {J J' : Sg} {l c h : Int} {n : Nat} (r : RI J) (e : J' = J.wr l (fl (J.span / 2)) c h n) (r' : RI J') (hn : (n : Int) + h = J.n + J.held + gr (J.span / 2)) : Go J J' [] 1 := by
 obtain ⟨g, g1, g2, g3⟩ := dM (J.span / 2)
 obtain ⟨-, -, -, n1, n2⟩ := dJ r.s0 r.s1
 subst e
 refine ⟨⟨l, fl (J.span / 2), c, h, n, rfl⟩, r', g, g1 ▸ hn, g2, ?_, ?_⟩
 · show J.span * (256 ^ g * 1 * 8191) <= fl (J.span / 2) * 16384
   rw [g3]
   exact pA ((IN J.span).symm ▸ n1)
 · show fl (J.span / 2) * 2 <= J.span * (256 ^ g * 1 * 1)
   rw [g3]
   exact pC (by rw [IN, IN]; exact n2)
theorem JN {v p : Nat} (h : v < 2 ^ p) : (v : Int) < 2 ^ p := EH 2 p ▸ Yp h
theorem pP {p : Nat} : ((p : Int) - 1 - -1).toNat = p := congrArg Eb (ir (p : Int) 1)
theorem UC {p : Nat} (h : p <= 1000) : (((p : Int) - 1).natAbs <= 1000000000000 /\ (-1 : Int).natAbs <= 1000000000000 /\ ((p : Int) - 1 - -1).toNat <= 1000000) /\ ((p : Int) - 1 - -1).toNat = p :=
 ⟨⟨CK (Int.natAbs_sub_le p 1) (CK (CX h 1) (by decide)), by decide, pP.symm ▸ CK h (by decide)⟩, pP⟩
theorem dg {p : Nat} (h : p <= 1000) : ((0 : Int).natAbs <= 1000000000000 /\ (p : Int).natAbs <= 1000000000000 /\ ((p : Int) - 0).toNat <= 1000000) /\ ((p : Int) - 0).toNat = p :=
 have e : ((p : Int) - 0).toNat = p := congrArg Eb (Iz (p : Int))
 ⟨⟨by decide, CK h (by decide), e.symm ▸ CK h (by decide)⟩, e⟩
theorem Va {p i : Nat} (h : i < p) : ((p : Int) - 1 - i).toNat = p - 1 - i :=
 (congrArg (λ x : Int => (x - i).toNat) (Ev (Nat.one_le_of_lt h)).symm).trans (iA (p - 1) i)
theorem UR {p n : Nat} (h : p <= n) (e : eY n 1000 = true) : (p : Int) <= 1000 := Qt (CK h (CR e))
section
variable {Γ : Nat -> PT}
noncomputable def gL (Γ : Nat -> PT) : Prop := ∀ (J : Sg) (τ : Mu) (p v m : Nat) (k : V -> Mu -> Prop), Rd J (p + m) -> p <= 26 -> v < 2 ^ p ->
 (∀ J', Go J J' [] p -> Rd J' m -> k .none (sx J' τ)) -> Γ 59 [.obj 6 58, .int p, .int v] (sx J τ) k
theorem AG {p i m : Nat} (h : i < p) : 1 + (p - (i + 1) + m) = p - i + m := by
 rw [<- EF, EG 1]
 exact congrArg (· + m) (EJ (Ei h))
theorem Rd.next {J : Sg} {p i m : Nat} (r : Rd J (p - i + m)) (h : i < p) : Rd J (1 + (p - (i + 1) + m)) := AG h ▸ r
theorem xZ {p i : Nat} (h : i < p) : 0 <= (p : Int) - 1 - i := iq.mpr (iQ (Yp h))
theorem cx (h53 : gP Γ) (h56 : gO Γ) (h57 : gN Γ) : gL (Nx Γ) := by
 intro J τ p v m k rd hp hv h
 refine ⟨rfl, ?_⟩
 obtain ⟨g0, e0⟩ := UC (CK hp (show 26 <= 1000 by decide))
 walk_at "g"
 refine h53 _ _ _ _ nn (UR hp rfl) nn (JN hv) ?_
 walk_at "g"
 refine h57 _ _ _ rd.ri.cl ?_
 walk_at "g"
 refine QC (λ a => [some (.obj 6 58), some (.int p), some (.int v), a.2]) (λ a => sx a.1 τ) p rfl e0 (λ i a => Go J a.1 [] i /\ Rd a.1 (p - i + m)) (J, none) ⟨.refl rd.ri, rd⟩ (λ i a hi ⟨go, rd1⟩ k' hk' => ?_) λ a h1 => ?_
 · generalize a.1 = J1 at go rd1 |-
   have ri := rd1.ri
   obtain ⟨l0, l1, s0, s1, c0, c1, h1, cl⟩ := id ri
   obtain ⟨z1, z2, z3, -, -⟩ := dJ s0 s1
   have tail : ∀ (k : V -> Mu -> Prop) (lo : Int), 0 <= lo -> lo + J1.span / 2 <= 8589934592 -> (∀ J2, Go J J2 [] (i + 1) -> Rd J2 (p - (i + 1) + m) -> k .none (sx J2 τ)) -> Γ 56 [.obj 6 58] (sx (J1.wr lo (J1.span / 2) J1.cache J1.held J1.n) τ) k := by
     intro k lo y0 y1 hk
     refine h56 (J1.wr lo (J1.span / 2) J1.cache J1.held J1.n) τ k y0 c0 c1 h1 (CM (CQ nn) (CM rd1.n (by decide))) (eI (by decide) z1) z2 λ l c hh n e0 e1 e2 e3 e4 e5 e6 => ?_
     obtain ⟨x1, x2, x3⟩ := Uv z1 z2 e1 e2 y1
     have go1 : Go J1 (J1.wr l (fl (J1.span / 2)) c hh n) [] 1 := Go.plain ri rfl ⟨e0, x1, x2, x3, e3, e4, e5, cl⟩ e6
     exact hk _ (Go.trans rd.f go go1) ((rd1.next hi).go go1)
   have hq : 0 <= (v : Int) / 2 ^ ((p : Int) - 1 - i).toNat := EZ nn (eC (qi _))
   walk_at "l"
   refine zi rfl (xZ hi) ?_
   refine zi rfl hq ?_
   refine oo rfl (λ _ => ?_) λ _ => ?_
   · refine qP (U := sx (J1.wr (J1.low + J1.span / 2) (J1.span / 2) J1.cache J1.held J1.n) τ) rfl ?_
     exact tail _ (J1.low + J1.span / 2) (Eg l0 (CM (by decide) z1)) (En .. ▸ CM (eT z3 _) l1) λ J2 g r => hk' (J2, _) ⟨g, r⟩
   · refine qP (U := sx (J1.wr J1.low (J1.span / 2) J1.cache J1.held J1.n) τ) rfl ?_
     exact tail _ J1.low l0 (CM (eT (CM (CQ (CM (by decide) z1)) z3) _) l1) λ J2 g r => hk' (J2, _) ⟨g, r⟩
 · walk_at "h"
   exact h a.1 h1.1 (h1.2.le (Ed ..))
end
noncomputable def kP (J : Sg) : Mu := [J.x0, Fd J.plc J.stt, .attrs [(25, .lst [.int J.r0, .int J.r1, .int J.r2, .int J.r3])], ui J.lc J.lp J.pb]
theorem Un {J J' : Sg} {L : List qX} {p : Nat} (g : Go J J' L p) : sx J' (kP J) = st J' := by
 obtain ⟨⟨l, s, c, h, n, e⟩, _⟩ := g
 subst e; rfl
noncomputable def Cd (Γ : Nat -> PT) (f : Nat) (args : List V) (J : Sg) (L : List qX) (p m : Nat) : Prop := ∀ k : V -> Mu -> Prop, (∀ J', Go J J' L p -> Rd J' m -> k .none (st J')) -> Γ f args (st J) k
structure oa (J : Sg) (x : qX) : Prop where
 s : x.1 ∈ YA
 i0 : 0 <= x.2.1
 i1 : x.2.1 < sz J.lc J.lp J.pb x.1
 b : x.2.2 = 0 \/ x.2.2 = 1
theorem jt {J : Sg} {s : Nat} {i b : Int} (hs : s ∈ YA) (h0 : 0 <= i) (h1 : i < sz J.lc J.lp J.pb s) (hb : b = 0 \/ b = 1) : oa J (s, i, b) := ⟨hs, h0, h1, hb⟩
theorem Vo (n : Nat) : ((n % 2 : Nat) : Int) = 0 \/ ((n % 2 : Nat) : Int) = 1 := (IC n).imp (congrArg ip) (congrArg ip)
theorem WO {lc lp pb : Nat} (h1 : lc <= 8) (h2 : lp <= 4) (h3 : pb <= 4) : ∀ s ∈ YA, sz lc lp pb s <= 10000000 := by
 have a : (768 : Int) * 2 ^ (lc + lp) <= 10000000 := CM (eH (jm (Ek h1 h2)) (by decide)) (by decide)
 have b : (8 : Int) * 2 ^ pb <= 10000000 := CM (eH (jm h3) (by decide)) (by decide)
 refine jD ⟨?_, ?_, ?_, ?_, ?_, ?_, a, ?_, ?_, ?_, ?_, b, b, ?_, ?_, b, b, ?_, trivial⟩ <;> exact of_decide_eq_true rfl
section
variable {Γ : Nat -> PT}
noncomputable def Wv (Γ : Nat -> PT) : Prop := ∀ (J : Sg) (s : Nat) (i b : Int) (m : Nat), Rd J (1 + m) -> oa J (s, i, b) -> Cd Γ 58 [.obj 6 58, rv J.lc J.lp J.pb s, .int i, .int b] J [(s, i, b)] 0 m
theorem bB (h58 : Hy Γ) : Wv Γ := by
 intro J s i b m rd ok k h
 refine h58 J (kP J) s i b k rd.ri (by exact CM (CQ nn) rd.n) ok.s ok.i0 ok.i1 (WO rd.lc rd.lp rd.pb s ok.s) ok.b (rd.f s i).1 (rd.f s i).2 (by exact eE (CK (Eo ..) (rd.u s)) (by decide)) ?_
 intro l c hh n J' e ri' hn
 have go := Go.bit rd.ri rd.f ok.b e ri' hn
 rw [Un go]
 exact h J' go (Rd.go (L := [(s, i, b)]) (p := 0) rd go)
noncomputable def zZ (s : Nat) (start : Int) (w c : Nat) : List qX := (eQ c).map λ j => (s, start + (w / 2 ^ (c - j) : Nat), (w / 2 ^ (c - 1 - j) % 2 : Nat))
noncomputable def zK (s : Nat) (start : Int) (c v : Nat) : List qX := zZ s start (2 ^ c + v) c
theorem Vm {a b : Nat} (hb : b < 2) : (a : Int) * 2 ^ Eb 1 + b - ((((a : Int) * 2 ^ Eb 1).toNat &&& (b : Int).toNat : Nat) : Int) = ((2 * a + b : Nat) : Int) := by
 have e : (a : Int) * 2 ^ Eb 1 = ((2 * a : Nat) : Int) := (ES ..).trans rfl
 rw [e]
 have : (2 * a &&& b) = 0 := by
   rcases (by decide : ∀ b, b < 2 -> b = 0 \/ b = 1) b hb with rfl | rfl
   · exact Nat.and_zero _
   · exact (ID _).trans (Nat.mul_mod_right 2 a)
 exact (congrArg (λ z : Nat => ((2 * a : Nat) : Int) + b - z) this).trans (Iz _)
theorem yA (x k : Nat) : x / 2 ^ k = 2 * (x / 2 ^ (k + 1)) + x / 2 ^ k % 2 := by
 have : x / 2 ^ (k + 1) = x / 2 ^ k / 2 := by rw [iC, iD]
 rw [this]; exact (Nat.div_add_mod _ _).symm
theorem JO {c v k : Nat} (hk : k < c) : (2 ^ c + v) / 2 ^ k % 2 = v / 2 ^ k % 2 := by
 obtain ⟨d, rfl⟩ := Nat.exists_eq_add_of_lt hk
 rw [EF k, Ir, EG, Nat.add_mul_div_left _ _ (EY k), iC]
 exact Nat.add_mul_mod_self_right ..
theorem QS {a c v : Nat} (hv : v < a) (hc : 0 < c) : (a + v) / 2 ^ c < a := by
 refine (iI (EY _)).mpr (CV (iX hv a) ?_)
 rw [<- Nat.mul_two]
 exact Et a (il (n := 2) (by decide) hc)
theorem QR {c v : Nat} (hv : v < 2 ^ c) : (2 ^ c + v) / 2 ^ c = 1 := by
 rw [EG, Nat.add_div_right _ (EY c), IW hv]
noncomputable def BK (Γ : Nat -> PT) : Prop := ∀ (J : Sg) (s : Nat) (start : Int) (c v m : Nat), Rd J (c + m) -> c <= 20 -> v < 2 ^ c -> s ∈ YA -> 0 <= start -> start + 2 ^ c <= sz J.lc J.lp J.pb s ->
 Cd Γ 60 [.obj 6 58, rv J.lc J.lp J.pb s, .int start, .int c, .int v] J (zK s start c v) 0 m
theorem Qe {J J' : Sg} {L : List qX} {p : Nat} (g : Go J J' L p) : J'.lc = J.lc /\ J'.lp = J.lp /\ J'.pb = J.pb := by
 obtain ⟨⟨l, s, c, h, n, e⟩, _⟩ := g
 subst e; exact ⟨rfl, rfl, rfl⟩
theorem JE (s : Nat) (start : Int) (w c : Nat) : (zZ s start w c).length = c := by rw [zZ, ee, Ey]
theorem bh {s : Nat} {start : Int} {c w i : Nat} (h : i < c) : (zZ s start w c).take i ++ [((s, start + (w / 2 ^ (c - i) : Nat), (w / 2 ^ (c - 1 - i) % 2 : Nat)) : qX)] = (zZ s start w c).take (i + 1) := by
 rw [IM, zZ, eZ, EV h]; rfl
theorem vi {J J' : Sg} {s : Nat} {start : Int} {c w : Nat} (h : Go J J' ((zZ s start w c).take c) 0) : Go J J' (zZ s start w c) 0 := iE (EQ (JE s start w c)) ▸ h
theorem YV (c i : Nat) : c - (i + 1) = c - 1 - i := by rw [Iq, EG]
theorem Zn {w c i : Nat} (h : i < c) : 2 * (w / 2 ^ (c - i)) + w / 2 ^ (c - 1 - i) % 2 = w / 2 ^ (c - (i + 1)) := by
 have d := yA w (c - (i + 1))
 rw [show c - (i + 1) + 1 = c - i from EJ (Ei h)] at d
 rw [<- YV c i]
 exact d.symm
theorem JF (hB : Wv Γ) {J J1 : Sg} {s : Nat} {start : Int} {c w i m : Nat} {b : Int} {k : V -> Mu -> Prop} (rd : Xr J.f) (go : Go J J1 ((zZ s start w c).take i) 0) (rd1 : Rd J1 (c - i + m)) (hi : i < c) (hs : s ∈ YA) (h0 : 0 <= start) (h1 : start + (w / 2 ^ (c - i) : Nat) < sz J.lc J.lp J.pb s)
   (hb : b = (w / 2 ^ (c - 1 - i) % 2 : Nat)) (h : ∀ J2, Go J J2 ((zZ s start w c).take (i + 1)) 0 -> Rd J2 (c - (i + 1) + m) -> k .none (st J2)) : Γ 58 [.obj 6 58, rv J.lc J.lp J.pb s, .int (start + (w / 2 ^ (c - i) : Nat)), .int b] (st J1) k := by
 obtain ⟨g1, g2, g3⟩ := Qe go
 subst hb
 rw [<- g1, <- g2, <- g3] at h1 |-
 refine hB J1 s _ _ _ (rd1.next hi) (jt hs (Eg h0 nn) h1 (Vo _)) k λ J2 go2 rd2 => ?_
 have go3 := Go.trans rd go go2
 rw [bh hi] at go3
 exact h J2 go3 rd2
theorem wh {start S : Int} {c w i : Nat} (h1 : start + 2 ^ c <= S) (hw : w < 2 ^ c) (hi : i < c) : start + ((2 ^ c + w) / 2 ^ (c - i) : Nat) < S := eI (EX (JN (QS hw (Ei hi))) start) h1
theorem Yd {v i : Nat} {x : Int} {j : Nat} (e : x.toNat = j) (h : v / 2 ^ j % 2 = i) : ((((v : Int) / 2 ^ x.toNat).toNat &&& (1 : Int).toNat : Nat) : Int) = i := by
 rw [gb (EZ nn (eC (qi _))), e, <- h, Int.natCast_emod, lf, EH]; rfl
theorem cw (h53 : gP Γ) (hB : Wv Γ) : BK (Nx Γ) := by
 intro J s start c v m rd hc hv hs h0 h1 k h
 refine ⟨rfl, ?_⟩
 obtain ⟨g0, e0⟩ := UC (CK hc (show 20 <= 1000 by decide))
 walk_at "g"
 refine h53 _ _ _ _ nn (UR hc rfl) nn (JN hv) ?_
 walk_at "g"
 refine QC (α := Sg × Int × Option V × Option V) (λ a => [some (.obj 6 58), some (rv J.lc J.lp J.pb s), some (.int start), some (.int c), some (.int v), some (.int a.2.1), a.2.2.1, a.2.2.2]) (λ a => st a.1) c rfl e0 (λ i a => a.2.1 = ((2 ^ c + v) / 2 ^ (c - i) : Nat) /\ Go J a.1 ((zK s start c v).take i) 0 /\ Rd a.1 (c - i + m)) (J, 1, none, none) ⟨congrArg ip (QR hv).symm, .refl rd.ri, rd⟩ (λ i a hi ⟨ea, go, rd1⟩ k' hk' => ?_) λ a h1 => ?_
 · have hq : 0 <= (v : Int) / 2 ^ ((c : Int) - 1 - i).toNat := EZ nn (eC (qi _))
   have hb := Yd (Va hi) (JO (v := v) (eE (EO ..) (Nat.sub_lt (eE (Ew _) hi) Nat.one_pos))).symm
   have hd := xZ hi
   have na1 : a.2.1.natAbs < 2 ^ 64 := ea.symm ▸ CV (QS hv (Ei hi)) (il (by decide) (CK hc (by decide)))
   have hb0 : 0 <= ((((v : Int) / 2 ^ ((c : Int) - 1 - i).toNat).toNat &&& (1 : Int).toNat : Nat) : Int) := nn
   have na2 : 0 <= a.2.1 * 2 ^ Eb 1 := Eu (ea.symm ▸ nn) (by decide)
   walk_at "g"
   refine ea.symm ▸ JF hB rd.f go rd1 hi hs h0 (wh h1 hv hi) hb λ J2 go2 rd2 => ?_
   walk_at "h"
   refine hk' (J2, _, _, _) ⟨?_, go2, rd2⟩
   show a.2.1 * 2 ^ Eb 1 + _ - _ = _
   rw [hb, ea, Vm (iN _ (by decide)), Zn hi]
 · walk_at "h"
   exact h a.1 (vi h1.2.1) (h1.2.2.le (Ed ..))
noncomputable def Ko (v : Nat) : Nat -> Nat
 | 0 => 0
 | c + 1 => 2 * Ko v c + v / 2 ^ c % 2
theorem AM {a r b : Nat} (h : a < b) (hr : r < 2) : 2 * a + r < b * 2 := CV (iX hr _) (CK (EQ (Nat.mul_succ 2 a).symm) (Iy b 2 ▸ Et 2 h))
theorem Zo (v : Nat) : ∀ c, Ko v c < 2 ^ c
 | 0 => (by decide : 0 < 1)
 | c + 1 => by
   rw [Ko, iC]
   exact AM (Zo v c) (iN _ (by decide))
theorem uM (v c : Nat) : Ko v (c + 1) / 2 = Ko v c := by
 rw [Ko, Nat.mul_add_div (by decide), IW (iN _ (by decide))]; rfl
theorem wH (v : Nat) : ∀ (k j : Nat), Ko v (j + k) / 2 ^ k = Ko v j
 | 0, j => IL _
 | k + 1, j => by rw [Nat.pow_succ', <- iD]; show Ko v (j + k + 1) / 2 / 2 ^ k = _; rw [uM, wH v k j]
theorem bu (v c i : Nat) (h : i < c) : Ko v c / 2 ^ (c - 1 - i) % 2 = v / 2 ^ i % 2 := by
 obtain ⟨d, rfl⟩ := Nat.exists_eq_add_of_lt h
 have e : i + d + 1 = i + 1 + d := ib ..
 rw [<- YV, e, Nat.add_sub_cancel_left, wH v d (i + 1), Ko, Nat.mul_add_mod, Nat.mod_mod]
noncomputable def uo (s : Nat) (start : Int) (c v : Nat) : List qX := zK s start c (Ko v c)
noncomputable def Hx (Γ : Nat -> PT) : Prop := ∀ (J : Sg) (s : Nat) (start : Int) (c v m : Nat), Rd J (c + m) -> c <= 20 -> v < 2 ^ c -> s ∈ YA -> 0 <= start -> start + 2 ^ c <= sz J.lc J.lp J.pb s ->
 Cd Γ 61 [.obj 6 58, rv J.lc J.lp J.pb s, .int start, .int c, .int v] J (uo s start c v) 0 m
theorem cu (h53 : gP Γ) (hB : Wv Γ) : Hx (Nx Γ) := by
 intro J s start c v m rd hc hv hs h0 h1 k h
 refine ⟨rfl, ?_⟩
 have hw := Zo v c
 obtain ⟨g0, e0⟩ := dg (CK hc (show 20 <= 1000 by decide))
 walk_at "g"
 refine h53 _ _ _ _ nn (UR hc rfl) nn (JN hv) ?_
 walk_at "g"
 refine yo (α := Sg × Int × Option V × Option V) (λ a => [some (.obj 6 58), some (rv J.lc J.lp J.pb s), some (.int start), some (.int c), some (.int v), some (.int a.2.1), a.2.2.1, a.2.2.2]) (λ a => st a.1) c rfl e0 (λ i a => a.2.1 = ((2 ^ c + Ko v c) / 2 ^ (c - i) : Nat) /\ Go J a.1 ((zK s start c (Ko v c)).take i) 0 /\ Rd a.1 (c - i + m)) (J, 1, none, none) ⟨congrArg ip (QR hw).symm, .refl rd.ri, rd⟩ (λ i a hi ⟨ea, go, rd1⟩ k' hk' => ?_) λ a h1 => ?_
 · have ei : (0 + (i : Int)).toNat = i := congrArg Eb (ik (i : Int))
   have hq : 0 <= (v : Int) / 2 ^ (0 + (i : Int)).toNat := EZ nn (eC (qi _))
   have hb := Yd ei ((bu v c i hi).symm.trans (JO (v := Ko v c) (eE (EO ..) (Nat.sub_lt (eE (Ew _) hi) Nat.one_pos))).symm)
   have hd : 0 <= 0 + (i : Int) := nn
   have na1 : a.2.1.natAbs < 2 ^ 64 := ea.symm ▸ CV (QS hw (Ei hi)) (il (by decide) (CK hc (by decide)))
   have hb0 : 0 <= ((((v : Int) / 2 ^ (0 + (i : Int)).toNat).toNat &&& (1 : Int).toNat : Nat) : Int) := nn
   have na2 : 0 <= a.2.1 * 2 ^ Eb 1 := Eu (ea.symm ▸ nn) (by decide)
   walk_at "g"
   refine ea.symm ▸ JF hB rd.f go rd1 hi hs h0 (wh h1 hw hi) hb λ J2 go2 rd2 => ?_
   walk_at "h"
   refine hk' (J2, _, _, _) ⟨?_, go2, rd2⟩
   show a.2.1 * 2 ^ Eb 1 + _ - _ = _
   rw [hb, ea, Vm (iN _ (by decide)), Zn hi]
 · walk_at "h"
   exact h a.1 (vi h1.2.1) (h1.2.2.le (Ed ..))
end
noncomputable def Zl (start : Int) (o c : Nat) : List qX := zZ 10 start (256 + o) c
noncomputable def more (o : Nat) (b : Option Nat) (t : Nat) : Nat := match b with
 | some b => if o / 2 ^ (t + 1) = b / 2 ^ (t + 1) then 256 * (1 + b / 2 ^ t % 2) else 0
 | none => 0
noncomputable def jh (start : Int) (o : Nat) (b : Option Nat) : List qX := (eQ 8).map λ j => (10, start + ((256 + o) / 2 ^ (8 - j) : Nat) + (more o b (7 - j) : Nat), ((256 + o) / 2 ^ (7 - j) % 2 : Nat))
theorem VS (start : Int) (o : Nat) : jh start o none = Zl start o 8 := by
 unfold jh Zl zZ
 apply EU
 intro j hj
 simp [more]
noncomputable def yw (a : Nat) (spot : Int) (size : Nat) : List qX :=
 if size < 10 then (a, 0, 0) :: zK (a + 1) (8 * spot) 3 (size - 2)
 else if size < 18 then (a, 0, 1) :: (a, 1, 0) :: zK (a + 2) (8 * spot) 3 (size - 10)
 else (a, 0, 1) :: (a, 1, 1) :: zK (a + 3) 0 8 (size - 18)
noncomputable def Dj (s : Nat) : Int := if s < 4 then 0 else ((2 + s % 2) * 2 ^ (s / 2 - 1) : Nat) - s
noncomputable def ji (N size : Nat) : List qX := zK 11 (64 * mn ((size : Int) - 2) 3) 6 (qu N) ++
 (if 5 < mr N then uo 13 0 4 (N % 2 ^ mr N % 16) else uo 12 (Dj (qu N)) (mr N) (N % 2 ^ mr N))
noncomputable def zB (N : Nat) : Nat := if 5 < mr N then mr N - 4 else 0
section
variable {Γ : Nat -> PT}
theorem Yb {o c : Nat} (h : o < 256) (hc : 0 < c) : (256 + o) / 2 ^ c < 256 := QS h hc
noncomputable def BW (Γ : Nat -> PT) : Prop := ∀ (J : Sg) (start : Int) (o c m : Nat), Rd J (c + m) -> c <= 8 -> o < 256 -> 0 <= start -> start + 768 <= sz J.lc J.lp J.pb 10 ->
 Cd Γ 30 [.obj 5 61, .int start, .int ((256 + o) / 2 ^ c : Nat), .int o, .int c] J (Zl start o c) 0 m
theorem ZZ {o k : Nat} (h : k < 8) : o / 2 ^ k % 2 = (256 + o) / 2 ^ k % 2 := (JO (c := 8) h).symm
theorem Cc (hB : Wv Γ) : BW (Nx Γ) := by
 intro J start o c m rd hc ho h0 h1 k h
 refine ⟨rfl, ?_⟩
 obtain ⟨g0, e0⟩ := UC (CK hc (show 8 <= 1000 by decide))
 walk_at "g"
 refine QC (α := Sg × Int × Option V × Option V) (λ a => [some (.obj 5 61), some (.int start), some (.int a.2.1), some (.int o), some (.int c), a.2.2.1, a.2.2.2]) (λ a => st a.1) c rfl e0 (λ i a => a.2.1 = ((256 + o) / 2 ^ (c - i) : Nat) /\ Go J a.1 ((Zl start o c).take i) 0 /\ Rd a.1 (c - i + m)) (J, _, none, none) ⟨rfl, .refl rd.ri, rd⟩ (λ i a hi ⟨ea, go, rd1⟩ k' hk' => ?_) λ a h1 => ?_
 · have hq : 0 <= (o : Int) / 2 ^ ((c : Int) - 1 - i).toNat := EZ nn (eC (qi _))
   have hb := Yd (Va hi) (ZZ (o := o) (CV (eE (EO ..) (Nat.sub_lt (eE (Ew _) hi) Nat.one_pos)) hc))
   have hd := xZ hi
   obtain ⟨l1, l2, l3⟩ := Qe go
   walk_at "g"
   rw [l1, l2, l3, ea]
   refine JF hB rd.f go rd1 hi (by decide) h0 (eI (EX (Yp (EP (Yb ho (Ei hi)) (by decide : 256 < 768))) start) h1) hb λ J2 go2 rd2 => ?_
   walk_at "h"
   refine hk' (J2, _, _, _) ⟨?_, go2, rd2⟩
   show 2 * a.2.1 + _ = _
   rw [hb, ea, <- Zn hi]; rfl
 · walk_at "h"
   exact h a.1 (vi h1.2.1) (h1.2.2.le (Ed ..))
theorem uX {start : Int} {o i : Nat} {b : Option Nat} (h : i < 8) : (jh start o b).take i ++ [((10, start + ((256 + o) / 2 ^ (8 - i) : Nat) + (more o b (7 - i) : Nat), ((256 + o) / 2 ^ (7 - i) % 2 : Nat)) : qX)] = (jh start o b).take (i + 1) := by
 rw [IM, jh, eZ, EV h]; rfl
theorem pM {i : Nat} (h : i < 8) : 7 - i + 1 = 8 - i := (Nat.succ_sub (eJ h)).symm
theorem bt {o b i : Nat} (hi : i < 8) (h : o / 2 ^ (8 - i) = b / 2 ^ (8 - i)) : more o (some b) (7 - i) = 256 * (1 + b / 2 ^ (7 - i) % 2) := if_pos (by rw [pM hi]; exact h)
theorem uW {start : Int} {o b i : Nat} (hi : i < 8) (hd : ¬ o / 2 ^ (7 - i) = b / 2 ^ (7 - i)) : (jh start o (some b)).take (i + 1) ++ Zl start o (7 - i) = jh start o (some b) := by
 conv => rhs; rw [<- List.take_append_drop (i + 1) (jh start o (some b))]
 refine congrArg _ (List.ext_getElem? λ j => ?_)
 rw [Zl, zZ, jh, List.getElem?_drop, eZ, eZ]
 by_cases hj : j < 7 - i
 · have hl : i + 1 + j < 8 := by rw [ib]; exact Nat.succ_lt_succ (EG j i ▸ Nat.add_lt_of_lt_sub hj)
   have z : more o (some b) (7 - (i + 1 + j)) = 0 := by
     refine if_neg λ q => hd ?_
     have e : 7 - i = (7 - (i + 1 + j) + 1) + j := by rw [pM hl, show 8 - (i + 1 + j) = 7 - i - j by rw [EF, Nat.add_left_comm, <- Iq, Iq 7 i j]]; exact (EJ (eP hj)).symm
     rw [e, Ir, <- iD, <- iD, q]
   have x1 : 8 - (i + 1 + j) = 7 - i - j := by rw [EF, Nat.add_left_comm, <- Iq, Iq 7 i j]
   have x2 : 7 - (i + 1 + j) = 7 - i - 1 - j := by rw [<- Iq, <- Iq]
   rw [EV hj, EV hl]
   dsimp only [Option.map_some]
   rw [z, x1, x2, show ((0 : Nat) : Int) = 0 from rfl, iV]
 · rw [iJ (by rw [Ey]; exact Ea.mp hj), iJ (by rw [Ey, ib]; exact ia (EG j i ▸ Nat.sub_le_iff_le_add.mp (Ea.mp hj)))]
   rfl
noncomputable def HK (Γ : Nat -> PT) : Prop := ∀ (J : Sg) (start : Int) (o b m : Nat), Rd J (8 + m) -> o < 256 -> b < 256 -> 0 <= start -> start + 768 <= sz J.lc J.lp J.pb 10 ->
 Cd Γ 31 [.obj 5 61, .int start, .int o, .int b] J (jh start o (some b)) 0 m
theorem Cb (hB : Wv Γ) (h30 : BW Γ) : HK (Nx Γ) := by
 intro J start o b m rd ho hb h0 h1 k h
 refine ⟨rfl, ?_⟩
 walk_at "l"
 refine zi rfl ⟨by decide, by decide, by decide⟩ ?_
 refine VN rfl λ l hl => ?_
 refine QC (α := Sg × Int × Option V × Option V × Option V) (λ a => [some (.obj 5 61), some (.int start), some (.int o), some (.int b), some (.int a.2.1), a.2.2.1, a.2.2.2.1, a.2.2.2.2]) (λ a => st a.1) 8 hl rfl (λ i a => o / 2 ^ (8 - i) = b / 2 ^ (8 - i) /\ a.2.1 = ((256 + o) / 2 ^ (8 - i) : Nat) /\ Go J a.1 ((jh start o (some b)).take i) 0 /\ Rd a.1 (8 - i + m)) (J, 1, none, none, none) ⟨(IW ho).trans (IW hb).symm, congrArg ip (QR (c := 8) ho).symm, .refl rd.ri, rd⟩ (λ i a hi ⟨heq, ea, go, rd1⟩ k' hk' => ?_) λ a h1 => ?_
 · have q1 : ((7 : Int) - i).toNat = 7 - i := iA 7 i
   have hd : 0 <= (7 : Int) - i := iq.mpr (Qt (eJ hi))
   have i7 : 7 - i < 8 := eE (EO ..) (by decide)
   have hbo := Yd q1 (ZZ (o := o) i7)
   have hbb := Yd (v := b) q1 rfl
   have p0 : 0 <= (o : Int) / 2 ^ ((7 : Int) - i).toNat := EZ nn (eC (qi _))
   have p1 : 0 <= (b : Int) / 2 ^ ((7 : Int) - i).toNat := EZ nn (eC (qi _))
   have g1 : (1 + ((((b : Int) / 2 ^ ((7 : Int) - i).toNat).toNat &&& (1 : Int).toNat : Nat) : Int)).natAbs < 2 ^ 64 := by
     rw [hbb]; exact CV (iX (iN _ (by decide)) 1) (by decide)
   obtain ⟨l1, l2, l3⟩ := Qe go
   have ll := Yb ho (Ei hi)
   have hm := bt hi heq
   have m1 : more o (some b) (7 - i) <= 512 := hm ▸ Et 256 (Em (eJ (iN _ (by decide))) 1)
   have ei : start + (1 + ((b / 2 ^ (7 - i) % 2 : Nat) : Int)) * 2 ^ Eb 8 + (((256 + o) / 2 ^ (8 - i) : Nat) : Int) = start + ((256 + o) / 2 ^ (8 - i) : Nat) + (more o (some b) (7 - i) : Nat) := by
     rw [hm, Int.add_right_comm]; exact congrArg (start + _ + ·) (ES ..)
   have i1 : start + ((256 + o) / 2 ^ (8 - i) : Nat) + (more o (some b) (7 - i) : Nat) < sz a.1.lc a.1.lp a.1.pb 10 := by
     rw [l1, l2, l3, En]; exact eI (EX (Yp (Nat.add_lt_add_of_lt_of_le ll m1)) start) h1
   have e : (2 * (((256 + o) / 2 ^ (8 - i) : Nat) : Int) + (((256 + o) / 2 ^ (7 - i) % 2 : Nat) : Int)) = ((256 + o) / 2 ^ (7 - i) : Nat) := by
     have d := yA (256 + o) (7 - i); rw [pM hi] at d; exact congrArg ip d.symm
   walk_at "g"
   rw [hbo, hbb, ea, ei]
   refine hB a.1 10 _ _ (7 - i + m) (rd1.le (EQ (by rw [<- EF, EG 1, pM hi]))) (jt (by decide) (Eg (Eg h0 nn) nn) i1 (Vo _)) _ λ J2 go2 rd2 => ?_
   have go3 := Go.trans rd.f go go2
   rw [uX hi] at go3
   walk_at "l"
   refine oo rfl (λ q => ?_) λ q => ?_
   · rw [hbo, hbb] at q
     refine hk' (J2, _, _, _, _) ⟨?_, ?_, go3, by rw [YV 8 i]; exact rd2⟩
     · rw [YV 8 i]
       have d1 := yA o (7 - i)
       have d2 := yA b (7 - i)
       rw [pM hi] at d1 d2
       rw [d1, d2, heq, ZZ i7, Int.ofNat.inj q]
     · show 2 * a.2.1 + _ = _
       rw [hbo, ea, e, YV 8 i]
   · refine qP rfl ?_
     rw [hbo, ea, e, show (7 : Int) - i = ((7 - i : Nat) : Int) from (Ev (eJ hi)).symm]
     obtain ⟨g4, g5, g6⟩ := Qe go3
     refine h30 J2 start o (7 - i) m rd2 (eP i7) ho h0 (by rw [g4, g5, g6]; exact h1) _ λ J3 go4 rd4 => ?_
     have go5 := Go.trans rd.f go3 go4
     rw [uW hi λ z => q (by rw [hbo, hbb, <- ZZ i7, z])] at go5
     walk_at "h"
     exact h J3 go5 rd4
 · walk_at "h"
   exact h a.1 (iE (l := jh start o (some b)) (by rw [jh, ee]; exact Ex 8) ▸ h1.2.2.1) (h1.2.2.2.le (Ed ..))
end
theorem Zt {J J' : Sg} {L : List qX} {p : Nat} (g : Go J J' L p) : J'.plc = J.plc /\ J'.stt = J.stt /\ J'.r0 = J.r0 /\ J'.r1 = J.r1 /\ J'.r2 = J.r2 /\ J'.r3 = J.r3 := by
 obtain ⟨⟨l, s, c, h, n, e⟩, _⟩ := g
 subst e; exact ⟨rfl, rfl, rfl, rfl, rfl, rfl⟩
theorem fv {J J' : Sg} {L : List qX} {p : Nat} (g : Go J J' L p) (h : Xr J.f) : Xr J'.f := by
 obtain ⟨⟨l, s, c, hh, n, e⟩, _⟩ := g
 rw [e]; exact QL L h
theorem QE (p : Int) (n : Nat) : 0 <= p % 2 ^ n /\ p % 2 ^ n < 2 ^ n := ⟨EI p (IA (qi n)), EL p (qi n)⟩
section
variable {Γ : Nat -> PT}
noncomputable def BV (Γ : Nat -> PT) : Prop := ∀ (J : Sg) (d a : Nat) (p : Int) (size m : Nat), (d = 4 /\ a = 20) \/ (d = 13 /\ a = 24) -> Rd J (10 + m) -> 0 <= p -> 2 <= size -> size <= 273 ->
 Cd Γ 32 [.obj 5 61, .obj 1 d, .int p, .int size] J (yw a (p % 2 ^ J.pb) size) 0 m
theorem Ca (h2 : rL Γ) (hB : Wv Γ) (h60 : BK Γ) : BV (Nx Γ) := by
 intro J d a p size m hda rd h0 h1 h3 k h
 obtain ⟨q0, q1⟩ := QE p J.pb
 have q2 : 0 <= 8 * (p % 2 ^ J.pb) := Eu (by decide) q0
 have q3 : 8 * (p % 2 ^ J.pb) + 2 ^ 3 <= 8 * 2 ^ J.pb := Int.mul_add 8 (p % 2 ^ J.pb) 1 ▸ eH (iR q1) (by decide)
 have e1 : (size : Int) - 2 = ((size - 2 : Nat) : Int) := (Ev h1).symm
 refine ⟨rfl, ?_⟩
 by_cases c1 : size < 10
 · rw [yw, if_pos c1] at h
   have k1 : size - 2 < 2 ^ 3 := EN h1 c1
   have k2 : (size : Int) - 2 < 8 := e1 ▸ Yp k1
   rcases hda with ⟨rfl, rfl⟩ | ⟨rfl, rfl⟩
   all_goals
     walk_at "g"
     refine h2 J p _ h0 rd.pb ?_
     walk_at "g"
     refine hB J _ 0 0 (9 + m) (rd.sp rfl) (jt (by decide) (by decide) (of_decide_eq_true rfl) (.inl rfl)) _ λ J1 go1 rd1 => ?_
     obtain ⟨g1, g2, g3⟩ := Qe go1
     walk_at "g"
     rw [e1]
     refine h60 J1 _ (8 * (p % 2 ^ J.pb)) 3 (size - 2) m (rd1.le (CX (by decide) _)) (by decide) k1 (by decide) q2 (g3 ▸ q3) _ λ J2 go2 rd2 => ?_
     walk_at "h"
     exact h J2 (Go.trans rd.f go1 go2) rd2
 · rw [yw, if_neg c1] at h
   have k1 := Ea.mp c1
   have k2 : ¬ (size : Int) - 2 < 8 := by omega
   by_cases c2 : size < 18
   · rw [if_pos c2] at h
     have k3 : size - 10 < 2 ^ 3 := EN k1 c2
     have k4 : (size : Int) - 2 < 16 := by omega
     have e2 : (size : Int) - 2 - 8 = ((size - 10 : Nat) : Int) := (Int.sub_sub ..).trans (Ev k1).symm
     rcases hda with ⟨rfl, rfl⟩ | ⟨rfl, rfl⟩
     all_goals
       walk_at "g"
       refine h2 J p _ h0 rd.pb ?_
       walk_at "g"
       refine hB J _ 0 1 (9 + m) (rd.sp rfl) (jt (by decide) (by decide) (of_decide_eq_true rfl) (.inr rfl)) _ λ J1 go1 rd1 => ?_
       obtain ⟨g1, g2, g3⟩ := Qe go1
       walk_at "g"
       refine hB J1 _ 1 0 (8 + m) (rd1.sp rfl) (jt (by decide) (by decide) (of_decide_eq_true rfl) (.inl rfl)) _ λ J2 go2 rd2 => ?_
       obtain ⟨g4, g5, g6⟩ := Qe go2
       walk_at "g"
       rw [e2]
       refine h60 J2 _ (8 * (p % 2 ^ J.pb)) 3 (size - 10) m (rd2.le (CX (by decide) _)) (by decide) k3 (by decide) q2 (g6 ▸ g3 ▸ q3) _ λ J3 go3 rd3 => ?_
       walk_at "h"
       exact h J3 (Go.trans rd.f (Go.trans rd.f go1 go2) go3) rd3
   · rw [if_neg c2] at h
     have k3 := Ea.mp c2
     have k4 : ¬ (size : Int) - 2 < 16 := by omega
     have k5 : size - 18 < 2 ^ 8 := EN k3 (eE h3 (by decide))
     have e2 : (size : Int) - 2 - 16 = ((size - 18 : Nat) : Int) := (Int.sub_sub ..).trans (Ev k3).symm
     rcases hda with ⟨rfl, rfl⟩ | ⟨rfl, rfl⟩
     all_goals
       walk_at "g"
       refine h2 J p _ h0 rd.pb ?_
       walk_at "g"
       refine hB J _ 0 1 (9 + m) (rd.sp rfl) (jt (by decide) (by decide) (of_decide_eq_true rfl) (.inr rfl)) _ λ J1 go1 rd1 => ?_
       walk_at "g"
       refine hB J1 _ 1 1 (8 + m) (rd1.sp rfl) (jt (by decide) (by decide) (of_decide_eq_true rfl) (.inr rfl)) _ λ J2 go2 rd2 => ?_
       walk_at "g"
       rw [e2]
       refine h60 J2 _ 0 8 (size - 18) m rd2 (by decide) k5 (by decide) (by decide) (of_decide_eq_true rfl) _ λ J3 go3 rd3 => ?_
       walk_at "h"
       exact h J3 (Go.trans rd.f (Go.trans rd.f go1 go2) go3) rd3
end
theorem wq {N : Nat} (h4 : 4 <= N) : qu N < 14 <-> ¬ 5 < mr N := by
 obtain ⟨-, t2, t3⟩ := Zc h4
 unfold qu
 generalize N / 2 ^ mr N = x at *
 omega
theorem ga : ∀ s : Nat, s < 14 -> 4 <= s -> Dj s = ((2 + s % 2) * 2 ^ (s / 2 - 1) : Nat) - s /\ 0 <= Dj s /\ Dj s + 2 ^ (s / 2 - 1) <= 115 := by decide
theorem dy {a : Int} (h : 0 <= a) : 0 <= 64 * mn a 3 /\ 64 * mn a 3 + 2 ^ 6 <= 256 := by
 unfold mn
 by_cases c : 3 < a
 · rw [if_pos c]; decide
 · rw [if_neg c]; exact ⟨Eu (by decide) h, eD (eH (ic.mp c) (by decide : (0 : Int) <= 64)) _⟩
section
variable {Γ : Nat -> PT}
noncomputable def HJ (Γ : Nat -> PT) : Prop := ∀ (J : Sg) (N size m : Nat), Rd J (40 + m) -> N < 2 ^ 32 -> 2 <= size -> Cd Γ 33 [.obj 5 61, .int (N + 1), .int size] J (ji N size) (zB N) m
theorem cZ (h10 : HX Γ) (h16 : HU Γ) (h17 : HT Γ) (h59 : gL Γ) (h60 : BK Γ) (h61 : Hx Γ) : HJ (Nx Γ) := by
 intro J N size m rd hN h2 k h
 obtain ⟨g0, g1⟩ := dy (iq.mpr (Qt h2))
 have er : ((N : Int) + 1 - 1 - ((N / 2 ^ mr N * 2 ^ mr N : Nat) : Int)) = ((N % 2 ^ mr N : Nat) : Int) := by
   rw [ie, <- Ev (Nat.div_mul_le_self ..), Iy]
   exact congrArg ip (Nat.sub_eq_of_eq_add (Nat.mod_add_div ..).symm)
 have rl : N % 2 ^ mr N < 2 ^ mr N := iN _ (EY _)
 have s64 : qu N < 2 ^ 6 := by
   by_cases h4 : N < 4
   · rw [qu, zg h4, ln, IL, Nat.mul_zero, ig]; exact CV h4 (by decide)
   · exact kS (Ea.mp h4) hN
 refine ⟨rfl, ?_⟩
 walk_at "g"
 refine h10 N _ _ hN ?_
 walk_at "g"
 refine h16 J _ _ ?_
 walk_at "G"
 refine h60 J 11 (64 * mn ((size : Int) - 2) 3) 6 (qu N) (34 + m) (rd.sp rfl) (by decide) s64 (by decide) g0 g1 _ λ J1 go1 rd1 => ?_
 unfold ji zB at h
 by_cases h4 : N < 4
 · have m0 : ((mr N : Nat) : Int) = 0 := congrArg ip (zg h4)
   rw [if_neg (by rw [zg h4]; decide), if_neg (by rw [zg h4]; decide)] at h
   walk_at "h"
   refine h J1 ?_ (rd1.le (Ed ..))
   rw [zg h4]
   exact (Iv (zK 11 (64 * mn ((size : Int) - 2) 3) 6 (qu N))).symm ▸ go1
 · have h4' := Ea.mp h4
   obtain ⟨s4, sd, -⟩ := XG h4'
   have s14 := wq h4'
   have m31 := xr (b := 31) hN (by decide)
   have m0 : ¬ ((mr N : Nat) : Int) = 0 := λ q => iT (lJ (Ks h4') 1 : 1 <= mr N) (Int.ofNat.inj q)
   by_cases c : qu N < 14
   · have n5 := s14.mp c
     have c' : (qu N : Int) < 14 := Yp c
     rw [if_neg n5, if_neg n5] at h
     walk_at "g"
     refine h17 J1 (qu N) _ s4 s64 ?_
     obtain ⟨b0, b1, b2⟩ := ga _ c s4
     rw [<- b0]
     walk_at "g"
     rw [er]
     refine h61 J1 12 (Dj (qu N)) (mr N) (N % 2 ^ mr N) m (rd1.le (CX (CK (eP m31) (by decide)) _)) (CK (Ea.mp n5) (by decide)) rl (by decide) b1 (sd ▸ b2) _ λ J2 go2 rd2 => ?_
     walk_at "h"
     exact h J2 (Go.trans rd.f go1 go2) rd2
   · have n5 : 5 < mr N := Decidable.not_not.mp λ q => c (s14.mpr q)
     have c' : ¬ (qu N : Int) < 14 := λ q => c (eG.mp q)
     rw [if_pos n5, if_pos n5] at h
     have n4 : 4 <= mr N := eP (Nat.lt_of_succ_lt n5)
     have e1 : (mr N : Int) - 4 = ((mr N - 4 : Nat) : Int) := (Ev n4).symm
     have rl2 : N % 2 ^ mr N / 16 < 2 ^ (mr N - 4) := (iI (by decide)).mpr (by rw [show (16 : Nat) = 2 ^ 4 from rfl, <- Ir, EJ n4]; exact rl)
     have hs1 := Un go1
     walk_at "g"
     rw [er, e1]
     refine h59 J1 (kP J1) (mr N - 4) (N % 2 ^ mr N / 16) (4 + m) _ (rd1.le (by rw [<- EF, EJ n4]; exact CX (CK (eP m31) (by decide)) _)) (Nat.sub_le_of_le_add (eJ m31)) rl2 λ J2 go2 rd2 => ?_
     rw [Un go2]
     have e3 : (((N % 2 ^ mr N : Nat) : Int).toNat &&& (1 * 2 ^ Eb 4 - 1 : Int).toNat) = N % 2 ^ mr N % 16 := Il _ 4
     have g2 : 0 <= (N : Int) + 1 - 1 - ((N / 2 ^ mr N * 2 ^ mr N : Nat) : Int) := er.symm ▸ nn
     have g3 : (0 : Int) <= 1 * 2 ^ Eb 4 - 1 := by decide
     walk_at "g"
     rw [er, e3]
     refine h61 J2 13 0 4 (N % 2 ^ mr N % 16) m rd2 (by decide) (iN _ (by decide)) (by decide) (by decide) (of_decide_eq_true rfl) _ λ J3 go3 rd3 => ?_
     walk_at "h"
     refine h J3 ?_ rd3
     have go := Go.trans rd.f go1 (Go.trans (fv go1 rd.f) go2 go3)
     rw [List.nil_append, ig] at go
     exact go
end
noncomputable def yD (pb : Nat) (s p : Int) : Int := 16 * s + p % 2 ^ pb
noncomputable def qF (pb : Nat) (s p : Int) (N size : Nat) : List qX := (1, yD pb s p, 1) :: (2, s, 0) :: (yw 20 (p % 2 ^ pb) size ++ ji N size)
noncomputable def jS (pb : Nat) (s p i : Int) : List qX :=
 if i = 0 then [(6, s, 0), (9, yD pb s p, 1)] else if i = 1 then [(6, s, 1), (7, s, 0)] else [(6, s, 1), (7, s, 1), (8, s, i - 2)]
noncomputable def Kg (pb : Nat) (s p i : Int) (size : Nat) : List qX := (1, yD pb s p, 1) :: (2, s, 1) :: (jS pb s p i ++ yw 24 (p % 2 ^ pb) size)
noncomputable def Qh (pb : Nat) (s p : Int) : List qX := [(1, yD pb s p, 1), (2, s, 1), (6, s, 0), (9, yD pb s p, 0)]
noncomputable def xy (lc lp : Nat) (p b : Int) : Int := 768 * (p % 2 ^ lp * 2 ^ lc + b / 2 ^ (8 - lc))
noncomputable def ZS (lc lp pb : Nat) (s p : Int) (o b m : Nat) : List qX := (1, yD pb s p, 0) :: jh (xy lc lp p b) o (if s < 7 then none else some m)
theorem zO {pb : Nat} {s p : Int} (h : pb <= 4) (h0 : 0 <= s) (h1 : s < 12) : 0 <= yD pb s p /\ yD pb s p < 192 /\ s * 16 + p % 2 ^ pb = yD pb s p := by
 obtain ⟨a, b⟩ := QE p pb
 have c : (2 : Int) ^ pb <= 16 := jm h
 refine ⟨Eg (Eu (by decide) h0) a, ?_, congrArg (· + p % 2 ^ pb) (ES ..)⟩
 exact eI (Int.add_lt_add_of_le_of_lt (eH (eU h1 : s <= 11) (by decide)) (eI b c)) (by decide)
theorem Go.tr0 {J J1 J2 : Sg} {L M : List qX} {q : Nat} (hf : Xr J.f) (a : Go J J1 L 0) (b : Go J1 J2 M q) : Go J J2 (L ++ M) q := ig q ▸ Go.trans hf a b
theorem QU {J J' : Sg} {L : List qX} {p : Nat} (g : Go J J' L p) : J'.pb = J.pb := (Qe g).2.2
section
variable {Γ : Nat -> PT}
noncomputable def BU (Γ : Nat -> PT) : Prop := ∀ (J : Sg) (s p : Int) (N size m : Nat), Rd J (60 + m) -> 0 <= s -> s < 12 -> 0 <= p -> N < 2 ^ 32 -> 2 <= size -> size <= 273 ->
 Cd Γ 34 [.obj 5 61, .int s, .int p, .int (N + 1), .int size] J (qF J.pb s p N size) (zB N) m
theorem cY (h15 : vW Γ) (hB : Wv Γ) (h32 : BV Γ) (h33 : HJ Γ) : BU (Nx Γ) := by
 intro J s p N size m rd s0 s1 p0 hN z0 z1 k h
 obtain ⟨c0, c1, ce⟩ := zO (p := p) rd.pb s0 s1
 refine ⟨rfl, ?_⟩
 walk_at "g"
 refine h15 J s p _ p0 rd.pb s0 s1 ?_
 rw [ce]
 walk_at "g"
 refine hB J 1 _ 1 (59 + m) (rd.sp rfl) (jt (by decide) c0 c1 (.inr rfl)) _ λ J1 go1 rd1 => ?_
 walk_at "g"
 refine hB J1 2 s 0 (58 + m) (rd1.sp rfl) (jt (by decide) s0 s1 (.inl rfl)) _ λ J2 go2 rd2 => ?_
 walk_at "g"
 refine h32 J2 4 20 p size (48 + m) (.inl ⟨rfl, rfl⟩) (rd2.sp rfl) p0 z0 z1 _ λ J3 go3 rd3 => ?_
 walk_at "g"
 refine h33 J3 N size m (rd3.le (CX (by decide) _)) hN z0 _ λ J4 go4 rd4 => ?_
 walk_at "g"
 have go := Go.tr0 rd.f go1 (Go.tr0 rd1.f go2 (Go.tr0 rd2.f go3 go4))
 rw [QU go2, QU go1] at go
 exact h J4 go rd4
noncomputable def HI (Γ : Nat -> PT) : Prop := ∀ (J : Sg) (s p i : Int) (m : Nat), Rd J (3 + m) -> 0 <= s -> s < 12 -> 0 <= p -> 0 <= i -> i < 4 ->
 Cd Γ 35 [.obj 5 61, .int s, .int p, .int i] J (jS J.pb s p i) 0 m
theorem rb {i : Int} (i0 : 0 <= i) (i1 : i < 4) (e0 : ¬ i = 0) (e1 : ¬ i = 1) : i - 2 = 0 \/ i - 2 = 1 := by
 rcases Rq i0 i1 with rfl | rfl | rfl | rfl
 · exact absurd rfl e0
 · exact absurd rfl e1
 · exact .inl rfl
 · exact .inr rfl
theorem cX (h15 : vW Γ) (hB : Wv Γ) : HI (Nx Γ) := by
 intro J s p i m rd s0 s1 p0 i0 i1 k h
 refine ⟨rfl, ?_⟩
 by_cases e0 : i = 0
 · subst e0
   walk_at "g"
   refine hB J 6 s 0 (2 + m) (rd.sp rfl) (jt (by decide) s0 s1 (.inl rfl)) _ λ J1 go1 rd1 => ?_
   walk_at "g"
   refine h15 J1 s p _ p0 rd1.pb s0 s1 ?_
   obtain ⟨c0, c1, ce⟩ := zO (p := p) rd1.pb s0 s1
   rw [ce]
   walk_at "g"
   refine hB J1 9 _ 1 (1 + m) (rd1.sp rfl) (jt (by decide) c0 c1 (.inr rfl)) _ λ J2 go2 rd2 => ?_
   walk_at "g"
   have go := Go.trans rd.f go1 go2
   rw [QU go1] at go
   exact h J2 go (rd2.le (Ed ..))
 · by_cases e1 : i = 1
   · subst e1
     walk_at "g"
     refine hB J 6 s 1 (2 + m) (rd.sp rfl) (jt (by decide) s0 s1 (.inr rfl)) _ λ J1 go1 rd1 => ?_
     walk_at "g"
     refine hB J1 7 s 0 (1 + m) (rd1.sp rfl) (jt (by decide) s0 s1 (.inl rfl)) _ λ J2 go2 rd2 => ?_
     walk_at "g"
     exact h J2 (Go.trans rd.f go1 go2) (rd2.le (Ed ..))
   · rw [jS, if_neg e0, if_neg e1] at h
     walk_at "g"
     refine hB J 6 s 1 (2 + m) (rd.sp rfl) (jt (by decide) s0 s1 (.inr rfl)) _ λ J1 go1 rd1 => ?_
     walk_at "g"
     refine hB J1 7 s 1 (1 + m) (rd1.sp rfl) (jt (by decide) s0 s1 (.inr rfl)) _ λ J2 go2 rd2 => ?_
     walk_at "g"
     refine hB J2 8 s (i - 2) m rd2 (jt (by decide) s0 s1 (rb i0 i1 e0 e1)) _ λ J3 go3 rd3 => ?_
     walk_at "g"
     exact h J3 (Go.trans rd.f (Go.trans rd.f go1 go2) go3) rd3
noncomputable def HH (Γ : Nat -> PT) : Prop := ∀ (J : Sg) (s p i : Int) (size m : Nat), Rd J (20 + m) -> 0 <= s -> s < 12 -> 0 <= p -> 0 <= i -> i < 4 -> 2 <= size -> size <= 273 ->
 Cd Γ 36 [.obj 5 61, .int s, .int p, .int i, .int size] J (Kg J.pb s p i size) 0 m
theorem cW (h24 : vV Γ) (h15 : vW Γ) (hB : Wv Γ) (h32 : BV Γ) (h35 : HI Γ) : HH (Nx Γ) := by
 intro J s p i size m rd s0 s1 p0 i0 i1 z0 z1 k h
 obtain ⟨c0, c1, ce⟩ := zO (p := p) rd.pb s0 s1
 refine ⟨rfl, ?_⟩
 walk_at "g"
 refine h24 _ _ _ _ _ _ i0 (eU i1) ?_
 walk_at "g"
 refine h15 J s p _ p0 rd.pb s0 s1 ?_
 rw [ce]
 walk_at "g"
 refine hB J 1 _ 1 (19 + m) (rd.sp rfl) (jt (by decide) c0 c1 (.inr rfl)) _ λ J1 go1 rd1 => ?_
 walk_at "g"
 refine hB J1 2 s 1 (18 + m) (rd1.sp rfl) (jt (by decide) s0 s1 (.inr rfl)) _ λ J2 go2 rd2 => ?_
 walk_at "g"
 refine h35 J2 s p i (15 + m) (rd2.sp rfl) s0 s1 p0 i0 i1 _ λ J3 go3 rd3 => ?_
 walk_at "g"
 refine h32 J3 13 24 p size m (.inr ⟨rfl, rfl⟩) (rd3.le (CX (by decide) _)) p0 z0 z1 _ λ J4 go4 rd4 => ?_
 walk_at "g"
 have go := Go.tr0 rd.f go1 (Go.tr0 rd1.f go2 (Go.tr0 rd2.f go3 go4))
 rw [QU go3, QU go2, QU go1] at go
 exact h J4 go rd4
noncomputable def HG (Γ : Nat -> PT) : Prop := ∀ (J : Sg) (s p : Int) (m : Nat), Rd J (4 + m) -> 0 <= s -> s < 12 -> 0 <= p -> Cd Γ 37 [.obj 5 61, .int s, .int p] J (Qh J.pb s p) 0 m
theorem cV (h15 : vW Γ) (hB : Wv Γ) : HG (Nx Γ) := by
 intro J s p m rd s0 s1 p0 k h
 obtain ⟨c0, c1, ce⟩ := zO (p := p) rd.pb s0 s1
 refine ⟨rfl, ?_⟩
 walk_at "g"
 refine h15 J s p _ p0 rd.pb s0 s1 ?_
 rw [ce]
 walk_at "g"
 refine hB J 1 _ 1 (3 + m) (rd.sp rfl) (jt (by decide) c0 c1 (.inr rfl)) _ λ J1 go1 rd1 => ?_
 walk_at "g"
 refine hB J1 2 s 1 (2 + m) (rd1.sp rfl) (jt (by decide) s0 s1 (.inr rfl)) _ λ J2 go2 rd2 => ?_
 walk_at "g"
 refine hB J2 6 s 0 (1 + m) (rd2.sp rfl) (jt (by decide) s0 s1 (.inl rfl)) _ λ J3 go3 rd3 => ?_
 walk_at "g"
 refine h15 J3 s p _ p0 rd3.pb s0 s1 ?_
 have pe : J3.pb = J.pb := by rw [QU go3, QU go2, QU go1]
 rw [pe, ce]
 walk_at "g"
 refine hB J3 9 _ 0 m rd3 (jt (by decide) c0 c1 (.inl rfl)) _ λ J4 go4 rd4 => ?_
 walk_at "g"
 exact h J4 (Go.tr0 rd.f go1 (Go.tr0 rd1.f go2 (Go.tr0 rd2.f go3 go4))) rd4
noncomputable def HL (Γ : Nat -> PT) : Prop := ∀ (J : Sg) (s p : Int) (b o mt m : Nat), Rd J (9 + m) -> 0 <= s -> s < 12 -> 0 <= p -> b < 256 -> o < 256 -> mt < 256 ->
 Cd Γ 29 [.obj 5 61, .int s, .int p, .int b, .int o, .int mt] J (ZS J.lc J.lp J.pb s p o b mt) 0 m
theorem uT {lc lp : Nat} {p : Int} {b : Nat} (hlc : lc <= 8) (hb : b < 256) : 0 <= xy lc lp p b /\ xy lc lp p b + 768 <= 768 * 2 ^ (lc + lp) := by
 obtain ⟨a, c⟩ := QE p lp
 have hb2 : b / 2 ^ (8 - lc) < 2 ^ lc := (iI (EY _)).mpr (by rw [<- Ir, Nat.add_sub_of_le hlc]; exact hb)
 have e : ((b : Int) / 2 ^ (8 - lc)) = ((b / 2 ^ (8 - lc) : Nat) : Int) := by rw [lf, EH]; rfl
 have h1 : p % 2 ^ lp * 2 ^ lc + 2 ^ lc <= 2 ^ (lc + lp) := by
   have := eM (iR c) (eC (qi lc))
   rw [Int.add_mul, iB] at this
   rw [iy, ES ((2 : Int) ^ lc)]
   exact this
 have h2 : 0 <= p % 2 ^ lp * 2 ^ lc := Eu a (eC (qi lc))
 rw [xy, e]
 refine ⟨Eu (by decide) (Eg h2 nn), ?_⟩
 have := eH (CM (eT (iR (JN hb2)) _) h1) (by decide : (0 : Int) <= 768)
 rw [<- En, Int.mul_add 768 _ 1] at this
 exact this
theorem Cf (h7 : aH Γ) (h15 : vW Γ) (h18 : HS Γ) (hB : Wv Γ) (h30 : BW Γ) (h31 : HK Γ) : HL (Nx Γ) := by
 intro J s p b o mt m rd s0 s1 p0 hb ho hm k h
 obtain ⟨c0, c1, ce⟩ := zO (p := p) rd.pb s0 s1
 refine ⟨rfl, ?_⟩
 walk_at "g"
 refine h15 J s p _ p0 rd.pb s0 s1 ?_
 rw [ce]
 walk_at "g"
 refine hB J 1 _ 0 (8 + m) (rd.sp rfl) (jt (by decide) c0 c1 (.inl rfl)) _ λ J1 go1 rd1 => ?_
 obtain ⟨g1, g2, g3⟩ := Qe go1
 walk_at "g"
 refine h18 J1 p b _ p0 nn (Yp hb) rd1.lc rd1.lp ?_
 obtain ⟨l0, l1⟩ := uT (p := p) (lp := J1.lp) rd1.lc hb
 walk_at "G"
 refine h7 s _ _ ?_
 by_cases c7 : s < 7
 · rw [decide_eq_true c7]
   rw [ZS, if_pos c7, VS] at h
   walk_at "g"
   have key := h30 J1 (xy J1.lc J1.lp p b) o 8 m rd1 (by decide) ho l0 l1
   rw [show (256 + o) / 2 ^ 8 = 1 from QR (c := 8) ho] at key
   refine key _ λ J2 go2 rd2 => ?_
   rw [g1, g2] at go2
   walk_at "h"
   exact h J2 (Go.tr0 rd.f go1 go2) rd2
 · rw [decide_eq_false c7]
   rw [ZS, if_neg c7] at h
   walk_at "g"
   refine h31 J1 (xy J1.lc J1.lp p b) o mt m rd1 ho hm l0 l1 _ λ J2 go2 rd2 => ?_
   rw [g1, g2] at go2
   walk_at "h"
   exact h J2 (Go.tr0 rd.f go1 go2) rd2
end
structure YL (J : Sg) : Prop where
 s0 : 0 <= J.stt
 s1 : J.stt < 12
 p : 4294967296 <= J.plc
 r : yG J.r0 J.r1 J.r2 J.r3
noncomputable def Sg.adv (J : Sg) (s p : Int) : Sg := { J with stt := s, plc := p }
noncomputable def KI (s : Int) : Int := if s < 4 then 0 else if s < 10 then s - 3 else s - 6
theorem Go.rep {J J' : Sg} {L : List qX} {p : Nat} (g : Go J J' L p) (h : YL J) : YL J' := by
 obtain ⟨a, b, c, d, e, f⟩ := Zt g
 exact ⟨by rw [b]; exact h.s0, by rw [b]; exact h.s1, by rw [a]; exact h.p, by rw [c, d, e, f]; exact h.r⟩
noncomputable def Wr (Γ : Nat -> PT) (f : Nat) (args : List V) (J : Sg) (L : List qX) (p m : Nat) (s' p' : Int) : Prop :=
 ∀ k : V -> Mu -> Prop, (∀ J2 a b c d, Go J J2 L p -> Rd J2 m -> yG a b c d -> k .none (st ((J2.reps a b c d).adv s' p'))) -> Γ f args (st J) k
section
variable {Γ : Nat -> PT}
noncomputable def HF (Γ : Nat -> PT) : Prop := ∀ (J : Sg) (o b mt m : Nat), Rd J (9 + m) -> YL J -> o < 256 -> b < 256 -> mt < 256 ->
 Wr Γ 42 [.obj 5 61, .int o, .int b, .int mt] J (ZS J.lc J.lp J.pb J.stt J.plc o b mt) 0 m (KI J.stt) (J.plc + 1)
theorem cQ (h24 : vV Γ) (h29 : HL Γ) (h3 : aK Γ) : HF (Nx Γ) := by
 intro J o b mt m rd pre ho hb hm k h
 have s0 := pre.s0
 have s1 := pre.s1
 have p0 := pre.p
 refine ⟨rfl, ?_⟩
 walk_at "g"
 refine h24 _ _ _ _ _ _ (nn) (eU (Yp ho)) ?_
 walk_at "g"
 refine h24 _ _ _ _ _ _ (nn) (eU (Yp hb)) ?_
 walk_at "g"
 refine h24 _ _ _ _ _ _ (nn) (eU (Yp hm)) ?_
 walk_at "g"
 refine h29 J J.stt J.plc b o mt m rd s0 s1 (CM (by decide) p0) hb ho hm _ λ J1 go1 rd1 => ?_
 obtain ⟨q1, q2, q3, q4, q5, q6⟩ := Zt go1
 walk_at "g"
 refine h3 _ _ _ ?_
 walk_at "g"
 have r1 := (go1.rep pre).r
 have key := h J1 J1.r0 J1.r1 J1.r2 J1.r3 go1 rd1 r1
 rw [KI] at key
 rw [<- q2, <- q1] at key
 exact key
noncomputable def BP (Γ : Nat -> PT) : Prop := ∀ (J : Sg) (N size m : Nat), Rd J (60 + m) -> YL J -> N < 4294967295 -> 2 <= size -> size <= 273 ->
 Wr Γ 43 [.obj 5 61, .int (N + 1), .int size] J (qF J.pb J.stt J.plc N size) (zB N) m (if J.stt < 7 then 7 else 10) (J.plc + size)
theorem cP (h40 : Wx Γ) (h41 : BQ Γ) (h34 : BU Γ) (h22 : HO Γ) (h4 : rK Γ) : BP (Nx Γ) := by
 intro J N size m rd pre hN z0 z1 k h
 have s0 := pre.s0
 have s1 := pre.s1
 have p0 := pre.p
 refine ⟨rfl, ?_⟩
 walk_at "g"
 refine h40 J _ _ (eD nn 1) (CM (eD (eC (Yp hN)) 1) p0) ?_
 walk_at "g"
 refine h41 _ _ _ _ ((Qt z0)) ((Qt z1)) ?_
 walk_at "g"
 refine h34 J J.stt J.plc N size m rd s0 s1 (CM (by decide) p0) (CV hN (by decide)) z0 z1 _ λ J1 go1 rd1 => ?_
 obtain ⟨q1, q2, q3, q4, q5, q6⟩ := Zt go1
 walk_at "g"
 refine h22 J1 _ _ (go1.rep pre).r (eD nn 1) (eD (eC (Yp hN)) 1) λ a b c d ok => ?_
 walk_at "g"
 refine h4 _ _ _ ?_
 walk_at "g"
 have key := h J1 a b c d go1 rd1 ok
 rw [<- q2, <- q1] at key
 exact key
noncomputable def HE (Γ : Nat -> PT) : Prop := ∀ (J : Sg) (i : Int) (size m : Nat), Rd J (20 + m) -> YL J -> 0 <= i -> i < 4 -> 2 <= size -> size <= 273 ->
 Wr Γ 44 [.obj 5 61, .int i, .int size] J (Kg J.pb J.stt J.plc i size) 0 m (if J.stt < 7 then 8 else 11) (J.plc + size)
theorem cO (h24 : vV Γ) (h40 : Wx Γ) (h41 : BQ Γ) (h36 : HH Γ) (h21 : HP Γ) (h5 : aJ Γ) : HE (Nx Γ) := by
 intro J i size m rd pre i0 i1 z0 z1 k h
 have s0 := pre.s0
 have s1 := pre.s1
 have p0 := pre.p
 refine ⟨rfl, ?_⟩
 walk_at "g"
 refine h24 _ _ _ _ _ _ i0 (eU i1) ?_
 obtain ⟨o0, o1, o2, o3⟩ := pre.r
 have at4 : ∃ v, qj [V.int J.r0, .int J.r1, .int J.r2, .int J.r3] i.toNat = some (.int v) /\ 1 <= v /\ v <= 4294967296 := by
   rcases Rq i0 i1 with rfl | rfl | rfl | rfl
   · exact ⟨_, rfl, o0⟩
   · exact ⟨_, rfl, o1⟩
   · exact ⟨_, rfl, o2⟩
   · exact ⟨_, rfl, o3⟩
 obtain ⟨v, hv, v0, v1⟩ := at4
 have i2 : i < 1000000 := ET i1 (by decide)
 walk_at "g"
 refine WB rfl hv ?_
 walk_at "g"
 refine h40 J _ _ v0 (CM v1 p0) ?_
 walk_at "g"
 refine h41 _ _ _ _ (Qt z0) (Qt z1) ?_
 walk_at "g"
 refine h36 J J.stt J.plc i size m rd s0 s1 (CM (by decide) p0) i0 i1 z0 z1 _ λ J1 go1 rd1 => ?_
 obtain ⟨q1, q2, q3, q4, q5, q6⟩ := Zt go1
 walk_at "g"
 refine h21 J1 _ _ (go1.rep pre).r i0 i1 λ v a b c d ok => ?_
 walk_at "g"
 refine h5 _ _ _ ?_
 walk_at "g"
 have key := h J1 a b c d go1 rd1 ok
 rw [<- q2, <- q1] at key
 exact key
noncomputable def HD (Γ : Nat -> PT) : Prop := ∀ (J : Sg) (m : Nat), Rd J (4 + m) -> YL J -> Wr Γ 45 [.obj 5 61] J (Qh J.pb J.stt J.plc) 0 m (if J.stt < 7 then 9 else 11) (J.plc + 1)
theorem cN (h20 : HQ Γ) (h40 : Wx Γ) (h37 : HG Γ) (h6 : aI Γ) : HD (Nx Γ) := by
 intro J m rd pre k h
 have s0 := pre.s0
 have s1 := pre.s1
 have p0 := pre.p
 obtain ⟨o0, o1, o2, o3⟩ := pre.r
 refine ⟨rfl, ?_⟩
 walk_at "g"
 refine h20 J _ ?_
 walk_at "g"
 refine h40 J _ _ o0.1 (CM o0.2 p0) ?_
 walk_at "g"
 refine h37 J J.stt J.plc m rd s0 s1 (CM (by decide) p0) _ λ J1 go1 rd1 => ?_
 obtain ⟨q1, q2, q3, q4, q5, q6⟩ := Zt go1
 walk_at "g"
 refine h6 _ _ _ ?_
 walk_at "g"
 have key := h J1 J1.r0 J1.r1 J1.r2 J1.r3 go1 rd1 (go1.rep pre).r
 rw [<- q2, <- q1] at key
 exact key
noncomputable def HC (Γ : Nat -> PT) : Prop := ∀ (J : Sg) (m : Nat), Rd J (60 + m) -> YL J -> Wr Γ 46 [.obj 5 61] J (qF J.pb J.stt J.plc 4294967295 2) (zB 4294967295) m (if J.stt < 7 then 7 else 10) J.plc
theorem cM (h34 : BU Γ) (h4 : rK Γ) : HC (Nx Γ) := by
 intro J m rd pre k h
 have s0 := pre.s0
 have s1 := pre.s1
 have p0 := pre.p
 refine ⟨rfl, ?_⟩
 walk_at "g"
 refine h34 J J.stt J.plc 4294967295 2 m rd s0 s1 (CM (by decide) p0) (by decide) (by decide) (by decide) _ λ J1 go1 rd1 => ?_
 obtain ⟨q1, q2, q3, q4, q5, q6⟩ := Zt go1
 walk_at "g"
 refine h4 _ _ _ ?_
 walk_at "g"
 have key := h J1 J1.r0 J1.r1 J1.r2 J1.r3 go1 rd1 (go1.rep pre).r
 rw [<- q2, <- q1] at key
 exact key
noncomputable def yj (Γ : Nat -> PT) : Prop := ∀ (J : Sg) (τ : Mu) (k : V -> Mu -> Prop), J.cl = false -> (J.n : Int) + J.held <= 100000 -> 1 <= J.held -> k (.int (J.n + J.held + 4)) (sx J τ) -> Γ 62 [.obj 6 58] (sx J τ) k
theorem cr : yj (Nx Γ) := by
 intro J τ k hc
 rw [uB hc]
 intro hn h1 h
 refine ⟨rfl, ?_⟩
 have n1 : J.n <= 1000000 := Er.mp (CM (CM (CQ (CM (by decide) h1)) hn) (by decide))
 walk_at "h"
 exact Ue (show (J.n : Int) + (J.held + 5 - 1) = J.n + J.held + 4 by rw [Int.add_sub_assoc]; exact (En ..).symm) h
end
structure HZ (b : Array UInt8) (n : Nat) : Prop where
 sz : b.size = n
 le : n <= 1000
 all : ∀ i, i < b.size -> b.toList.getD i 0 = 97
section
variable {Γ : Nat -> PT}
noncomputable def rk (Γ : Nat -> PT) (f : Nat) (args : List V) (J : Sg) (L : List qX) (p m : Nat) (s' p' : Int) (v : V) : Prop :=
 ∀ k : V -> Mu -> Prop, (∀ J2 a b c d, Go J J2 L p -> Rd J2 m -> yG a b c d -> k v (st ((J2.reps a b c d).adv s' p'))) -> Γ f args (st J) k
noncomputable def HA (Γ : Nat -> PT) : Prop := ∀ (J : Sg) (N size m : Nat) (b : Array UInt8), Rd J (60 + m) -> YL J -> HZ b (N + 1 + size) -> 2 <= size -> size <= 273 ->
 rk Γ 49 [.obj 5 61, .tup [.str 1, .int (N + 1), .int size], .byt b, .int (N + 1)] J (qF J.pb J.stt J.plc N size) (zB N) m (if J.stt < 7 then 7 else 10) (J.plc + size) (.int (N + 1 + size))
theorem cK (h25 : gR Γ) (h26 : HN Γ) (h48 : HB Γ) (h40 : Wx Γ) (h43 : BP Γ) : HA (Nx Γ) := by
 intro J N size m b rd pre sm z0 z1 k h
 have s0 := pre.s0
 have s1 := pre.s1
 have p0 := pre.p
 have z := sm.sz
 have le := sm.le
 have l1 : N + 1 <= 1000 := CK (Eo ..) le
 have g0 : ¬ (b.size : Int) < N + 1 + size := ic.mpr (iF (congrArg ip z).symm)
 have g1 : b.size <= 1000000 := z ▸ CK le (by decide)
 refine ⟨rfl, ?_⟩
 walk_at "g"
 refine h25 _ _ _ _ (Qt z0) (Qt z1) ?_
 walk_at "g"
 refine h48 _ _ _ _ _ ?_
 walk_at "g"
 refine h40 J _ _ (eD nn 1) (CM (Qt l1) (CM (by decide) p0)) ?_
 walk_at "g"
 refine h26 b (N + 1) size _ _ (iS N) z (z ▸ le) sm.all ?_
 walk_at "g"
 refine h43 J N size m rd pre (CV (Nat.lt_of_succ_le l1) (by decide)) z0 z1 _ λ J1 a b c d go1 rd1 ok => ?_
 walk_at "g"
 exact h J1 a b c d go1 rd1 ok
noncomputable def Hz (Γ : Nat -> PT) : Prop := ∀ (J : Sg) (N size m : Nat) (b : Array UInt8) (lim : Int), Rd J (60 + m) -> YL J -> HZ b (N + 1 + size) -> 2 <= size -> size <= 273 -> J.n + J.held + 28 <= lim ->
 rk Γ 50 [.obj 5 61, .lst [.tup [.str 1, .int (N + 1), .int size]], .byt b, .int (N + 1), .int size, .int lim] J (qF J.pb J.stt J.plc N size) (zB N) m (if J.stt < 7 then 7 else 10) (J.plc + size) (.tup [.int 1, .int (N + 1 + size)])
theorem cJ (h25 : gR Γ) (h62 : yj Γ) (h49 : HA Γ) : Hz (Nx Γ) := by
 intro J N size m b lim rd pre sm z0 z1 hl k h
 have hn := rd.n
 refine ⟨rfl, ?_⟩
 walk_at "g"
 refine h25 _ _ _ _ (Qt z0) (Qt z1) ?_
 walk_at "g"
 refine h62 J (kP J) _ rd.ri.cl (CM (CQ nn) (CM rd.n (by decide))) rd.ri.h1 ?_
 walk_at "g"
 refine h49 J N size m b rd pre sm z0 z1 _ λ J1 a b c d go1 rd1 ok => ?_
 walk_at "g"
 exact h J1 a b c d go1 rd1 ok
noncomputable def gQ (Γ : Nat -> PT) : Prop := ∀ (J : Sg) (N size m : Nat) (b : Array UInt8) (lim : Int) (k : V -> Mu -> Prop), Rd J m -> 2 <= size -> size <= 273 -> ¬ J.n + J.held + 28 <= lim ->
 k (.tup [.int 0, .int (N + 1)]) (st J) -> Γ 50 [.obj 5 61, .lst [.tup [.str 1, .int (N + 1), .int size]], .byt b, .int (N + 1), .int size, .int lim] (st J) k
theorem aC (h25 : gR Γ) (h62 : yj Γ) : gQ (Nx Γ) := by
 intro J N size m b lim k rd z0 z1 hl h
 have hn := rd.n
 refine ⟨rfl, ?_⟩
 walk_at "g"
 refine h25 _ _ _ _ (Qt z0) (Qt z1) ?_
 walk_at "g"
 refine h62 J (kP J) _ rd.ri.cl (CM (CQ nn) (CM rd.n (by decide))) rd.ri.h1 ?_
 walk_at "g"
 exact h
noncomputable def BJ (Γ : Nat -> PT) : Prop := ∀ (J : Sg) (k : V -> Mu -> Prop), Rd J 0 -> (∀ (b : Array UInt8) l c h n, (b.size : Int) = J.n + J.held + 4 -> k (.byt b) (st { J.wr l J.span c h n with cl := true })) -> Γ 63 [.obj 6 58] (st J) k
theorem cq (h55 : BL Γ) : BJ (Nx Γ) := by
 intro J k rd
 have hn := rd.n
 obtain ⟨l0, l1, s0, s1, c0, c1, h1, cl⟩ := rd.ri
 rw [uB cl]
 intro h
 have lo : ∀ x : Int, 0 <= x % 16777216 * 256 := λ x => Eu (EI x (by decide)) (by decide)
 have n0 : (J.n : Int) + J.held <= 90000 := CM (CQ nn) hn
 refine ⟨rfl, ?_⟩
 walk_at "g"
 refine h55 J.op (kP J) _ l0 c0 c1 h1 (CM n0 (by decide)) λ ca ha na a0 a1 a2 a3 _ => ?_
 have a3 : (na : Int) + ha = J.n + J.held + 1 := a3
 have n1 := CM (iF a3) (eD n0 1)
 walk_at "g"
 refine h55 (J.op.wr (J.low % 16777216 * 256) J.span ca ha na) (kP J) _ (lo _) a0 a1 a2 (CM n1 (by decide)) λ cb hb nb b0 b1 b2 b3 _ => ?_
 have b3 : (nb : Int) + hb = na + ha + 1 := b3
 have n2 := CM (iF b3) (eD n1 1)
 walk_at "g"
 refine h55 (J.op.wr ((J.low % 16777216 * 256) % 16777216 * 256) J.span cb hb nb) (kP J) _ (lo _) b0 b1 b2 (CM n2 (by decide)) λ cc hc nc c0 c1 c2 c3 _ => ?_
 have c3 : (nc : Int) + hc = nb + hb + 1 := c3
 have n3 := CM (iF c3) (eD n2 1)
 walk_at "g"
 refine h55 (J.op.wr (((J.low % 16777216 * 256) % 16777216 * 256) % 16777216 * 256) J.span cc hc nc) (kP J) _ (lo _) c0 c1 c2 (CM n3 (by decide)) λ cd hd nd d0 d1 d2 d3 _ => ?_
 have d3 : (nd : Int) + hd = nc + hc + 1 := d3
 have n4 := CM (iF d3) (eD n3 1)
 walk_at "g"
 refine h55 (J.op.wr ((((J.low % 16777216 * 256) % 16777216 * 256) % 16777216 * 256) % 16777216 * 256) J.span cd hd nd) (kP J) _ (lo _) d0 d1 d2 (CM n4 (by decide)) λ ce he ne e0 e1 e2 e3 e4 => ?_
 have e3 : (ne : Int) + he = nd + hd + 1 := e3
 have e5 : he = 1 := e4 (by show (((J.low % 16777216 * 256) % 16777216 * 256) % 16777216 * 256) % 16777216 * 256 < 4278190080; omega)
 have n5 := CM (iF e3) (eD n4 1)
 have n6 : ne <= 1000000 := Er.mp (CM (CM (CQ (CM (by decide) e2)) n5) (by decide))
 walk_at "h"
 refine AF rfl λ b hb => ?_
 refine h b _ ce he ne ?_
 show (b.size : Int) = J.n + J.held + 4
 rw [show b.size = ne from hb]
 omega
end
noncomputable def Sg.ur (J : Sg) (d c : Int) : Sg := { J with dig := d, cnt := c }
noncomputable def bV (x : qX) : V := .tup [.str x.1, .int x.2.1, .int x.2.2]
theorem xx {a n : Nat} (h0 : a ≠ 0) (h : a < 2 ^ n) (hn : n <= 9000) : a.log2 < 9000 := CV ((lK h0).mpr h) hn
theorem gj {a : Int} (h0 : 0 < a) : a.natAbs ≠ 0 := Int.natAbs_ne_zero.mpr (IA h0)
theorem XX {a : Int} (h0 : 0 < a) (h : a < 1099511627776) : a.natAbs.log2 < 9000 :=
 xx (n := 40) (gj h0) (eG.mp ((iO (eC h0)).symm ▸ h)) (by decide)
theorem zp (n : Nat) : ((2 : Int) ^ n) = ((2 ^ n : Nat) : Int) := (EH 2 n).symm
theorem pi {k : V -> Mu -> Prop} {a : Int} {U : Mu} (e : 0 <= a) (h : k (.int (a.toNat : Int)) U) : k (.int a) U := by rwa [EW e] at h
theorem Fh (c : Int) : c <= c + 1 := CQ (by decide)
theorem AI {i : Int} (h0 : 0 <= i) (h1 : i < 6) : i = 0 \/ i = 1 \/ i = 2 \/ i = 3 \/ i = 4 \/ i = 5 := by
 obtain ⟨n, rfl⟩ := ew h0
 rcases (by decide : ∀ n, n < 6 -> n = 0 \/ n = 1 \/ n = 2 \/ n = 3 \/ n = 4 \/ n = 5) n (eG.mp h1) with rfl | rfl | rfl | rfl | rfl | rfl
 · exact .inl rfl
 · exact .inr (.inl rfl)
 · exact .inr (.inr (.inl rfl))
 · exact .inr (.inr (.inr (.inl rfl)))
 · exact .inr (.inr (.inr (.inr (.inl rfl))))
 · exact .inr (.inr (.inr (.inr (.inr rfl))))
theorem oQ {P : Int -> Int -> Prop} {a0 a1 a2 a3 a4 a5 b0 b1 b2 b3 b4 b5 i : Int} (h0 : 0 <= i) (h1 : i < 6) (h : P a0 b0 /\ P a1 b1 /\ P a2 b2 /\ P a3 b3 /\ P a4 b4 /\ P a5 b5) :
   ∃ a b, qj [V.int a0, .int a1, .int a2, .int a3, .int a4, .int a5] i.toNat = some (.int a) /\ qj [V.int b0, .int b1, .int b2, .int b3, .int b4, .int b5] i.toNat = some (.int b) /\ P a b := by
 obtain ⟨x0, x1, x2, x3, x4, x5⟩ := h
 rcases AI h0 h1 with rfl | rfl | rfl | rfl | rfl | rfl
 · exact ⟨_, _, rfl, rfl, x0⟩
 · exact ⟨_, _, rfl, rfl, x1⟩
 · exact ⟨_, _, rfl, rfl, x2⟩
 · exact ⟨_, _, rfl, rfl, x3⟩
 · exact ⟨_, _, rfl, rfl, x4⟩
 · exact ⟨_, _, rfl, rfl, x5⟩
section
variable {Γ : Nat -> PT}
noncomputable def Ww (Γ : Nat -> PT) : Prop := ∀ (d m c : Int) (τ : Mu) (many : Int) (k : V -> Mu -> Prop), 0 <= d -> 0 <= m -> m < 999983 -> 0 <= c -> c <= 100000 -> 0 < many -> many < 1099511627776 ->
 (∀ r d' c', 0 <= r -> r < many -> 0 <= d' -> c <= c' -> c' <= c + 1 -> k (.int r) (Yq d' m c' :: τ)) -> Γ 65 [.h 0, .int many] (Yq d m c :: τ) k
theorem cj : Ww (Nx Γ) := by
 intro d m c τ many k d0 m0 m1 c0 c1 n0 n1 h
 have l0 := XX n0 n1
 have nz := IA n0
 refine ⟨rfl, ?_⟩
 by_cases hd : 0 < d
 · walk_at "h"
   exact h _ _ c (EI _ nz) (EL _ n0) (EZ d0 (eC n0)) (IP _) (Fh c)
 · have q1 : IntMulOk m (2 * (c + 1) + 1) := ZC (na m0 (n := 999983) m1 rfl)
   have q2 : IntMulOk (13 * (c + 1)) (c + 1) := xp (na (CM c0 (Fh c)) (n := 100002) (EA (eD c1 1) (by decide)) rfl)
   walk_at "h"
   exact h _ d (c + 1) (EI _ nz) (EL _ n0) d0 (Fh c) (IP _)
structure Ur (J : Sg) (m : Nat) : Prop where
 d : 0 <= J.dig
 m0 : 0 <= J.mix
 m1 : J.mix < 999983
 c0 : 0 <= J.cnt
 c1 : J.cnt + m <= 100000
theorem Ur.le {J : Sg} {m n : Nat} (u : Ur J m) (h : n <= m) : Ur J n := ⟨u.d, u.m0, u.m1, u.c0, CM (eT (Qt h) _) u.c1⟩
noncomputable def Tk (Γ : Nat -> PT) : Prop := ∀ (J : Sg) (m : Nat) (many : Int) (k : V -> Mu -> Prop), Ur J (m + 1) -> 0 < many -> many < 1099511627776 ->
 (∀ r d c, 0 <= r -> r < many -> Ur (J.ur d c) m -> k (.int r) (st (J.ur d c))) -> Γ 65 [.h 0, .int many] (st J) k
theorem Ar (h65 : Ww Γ) : Tk Γ := by
 intro J m many k u n0 n1 h
 refine h65 J.dig J.mix J.cnt _ many k u.d u.m0 u.m1 u.c0 (CM (CQ nn) u.c1) n0 n1 λ r d' c' r0 r1 d0 e0 e1 => ?_
 refine h r d' c' r0 r1 ⟨d0, u.m0, u.m1, CM u.c0 e0, ?_⟩
 have := eD e1 m
 rw [En, iz 1] at this
 exact CM this u.c1
noncomputable def BH (Γ : Nat -> PT) : Prop := ∀ (J : Sg) (m : Nat) (k : V -> Mu -> Prop), Ur J (m + 2) -> (∀ (s : Nat) d c, 2 <= s -> s <= 273 -> Ur (J.ur d c) m -> k (.int s) (st (J.ur d c))) -> Γ 68 [.h 0] (st J) k
theorem cf (tk : Tk Γ) : BH (Nx Γ) := by
 intro J m k u h
 refine ⟨rfl, ?_⟩
 walk_at "g"
 refine tk J (m + 1) 6 _ u (by decide) (by decide) λ r d c r0 r1 u1 => ?_
 obtain ⟨a, b, ha, hb, x0, x1, x2, x3⟩ := oQ (P := λ a b => 2 <= a /\ 0 < b /\ b < 1099511627776 /\ a + b <= 274) (a0 := 2) (a1 := 10) (a2 := 258) (a3 := 258) (a4 := 18) (a5 := 18) (b0 := 8) (b1 := 8) (b2 := 16) (b3 := 16) (b4 := 256) (b5 := 256) r0 r1 (by decide)
 have r2 : r < 1000000 := ET r1 (by decide)
 walk_at "l"
 refine zi rfl ⟨r0, r2⟩ ?_
 refine WB rfl ha ?_
 refine zi rfl ⟨r0, r2⟩ ?_
 refine WB rfl hb ?_
 refine qP rfl ?_
 refine tk (J.ur d c) m _ _ u1 x1 x2 λ q d' c' q0 q1 u2 => ?_
 have y0 : 2 <= a + q := CM x0 (CQ q0)
 have y1 : a + q <= 273 := eU (eI (EX q1 a) x3)
 walk_at "h"
 exact pi (CM (by decide) y0) (h _ d' c' (Ic y0) (Ic y1) u2)
end
section
variable {Γ : Nat -> PT}
noncomputable def Hv (Γ : Nat -> PT) : Prop := ∀ (J : Sg) (m : Nat) (k : V -> Mu -> Prop), Ur J (m + 4) -> (∀ (N : Nat) d c, N < 4294967295 -> Ur (J.ur d c) m -> k (.int (N + 1)) (st (J.ur d c))) -> Γ 67 [.h 0] (st J) k
theorem pj {k : V -> Mu -> Prop} {x E : Int} {U : Mu} (hE : E = 4294967296) (e : 1 <= x) (h : ∀ N : Nat, N < 4294967295 -> k (.int (N + 1)) U) : k (.int (if x < E - 1 then x else E - 1)) U := by
 subst hE
 by_cases c : x < 4294967296 - 1
 · obtain ⟨n, rfl⟩ := ew (CM (by decide) e)
   obtain ⟨m, rfl⟩ := Nat.exists_eq_add_of_le' (Er.mp e)
   rw [if_pos c]; exact h m (Nat.lt_of_succ_lt (eG.mp c))
 · rw [if_neg c]; exact h 4294967294 (by decide)
theorem rQ {P : Int -> Prop} {x y b : Int} (h0 : 0 <= b) (h1 : b < 2) (hx : P x) (hy : P y) : ∃ v, qj [V.int x, .int y] b.toNat = some (.int v) /\ P v := by
 obtain ⟨n, rfl⟩ := ew h0
 rcases (by decide : ∀ n, n < 2 -> n = 0 \/ n = 1) n (eG.mp h1) with rfl | rfl
 · exact ⟨_, rfl, hx⟩
 · exact ⟨_, rfl, hy⟩
noncomputable abbrev uL (s : Int) : Int := if s / 2 - 1 > 0 then s / 2 - 1 else 0
theorem OX {s : Int} (h : s <= 63) : 0 <= uL s /\ uL s <= 1000000 /\ (2 : Int) ^ (uL s).toNat < 1099511627776 := by
 have h1 : s / 2 <= 31 := CM (Int.ediv_le_ediv (by decide) h) (by decide)
 have x : 0 <= uL s /\ uL s <= 30 := by
   unfold uL
   by_cases c : s / 2 - 1 > 0
   · rw [if_pos c]; exact ⟨eC c, Int.sub_le_sub_right h1 1⟩
   · rw [if_neg c]; decide
 exact ⟨x.1, CM x.2 (by decide), EA (jm (Ic x.2)) (by decide)⟩
theorem ch (tk : Tk Γ) : Hv (Nx Γ) := by
 intro J m k u h
 refine ⟨rfl, ?_⟩
 walk_at "g"
 refine tk J (m + 3) 6 _ u (by decide) (by decide) λ r d c r0 r1 u1 => ?_
 obtain ⟨a, b, ha, hb, x0, x1, x2, x3⟩ := oQ (P := λ a b => 0 <= a /\ 0 < b /\ b < 1099511627776 /\ a + b <= 64) (a0 := 62) (a1 := 63) (a2 := 62) (a3 := 63) (a4 := 14) (a5 := 0) (b0 := 1) (b1 := 1) (b2 := 1) (b3 := 1) (b4 := 50) (b5 := 14) r0 r1 (by decide)
 have r2 : r < 1000000 := ET r1 (by decide)
 walk_at "l"
 refine zi rfl ⟨r0, r2⟩ ?_
 refine WB rfl ha ?_
 refine zi rfl ⟨r0, r2⟩ ?_
 refine WB rfl hb ?_
 refine Af rfl ?_
 refine tk (J.ur d c) (m + 2) _ _ u1 x1 x2 λ q d' c' q0 q1 u2 => ?_
 have s0 : 0 <= a + q := Eg x0 q0
 obtain ⟨m0, m1, m2⟩ := OX (eU (eI (EX q1 a) x3))
 have p0 := qi (uL (a + q)).toNat
 have e2 : 0 <= (a + q) % 2 := EI _ (by decide)
 have n2 : IntMulOk (2 + (a + q) % 2) (2 ^ (uL (a + q)).toNat) := ZC (na (Eg (by decide) e2) (n := 4) (EX (EL _ (by decide)) 2) rfl)
 have fin : ∀ (lo t b d3 c3 : Int) (v : Int), 0 <= lo -> 0 <= v -> Ur (((J.ur d c).ur d' c').ur d3 c3) m -> k (.int (if lo + 1 + v < 2 ^ Eb 32 - 1 then lo + 1 + v else 2 ^ Eb 32 - 1)) (st (((J.ur d c).ur d' c').ur d3 c3)) := λ lo t b d3 c3 v l0 v0 u => pj (by decide) (Int.add_le_add (eD l0 1) v0) λ N hN => h N d3 c3 hN u
 have gm : 0 <= uL (a + q) /\ uL (a + q) <= 1000000 := ⟨m0, m1⟩
 by_cases h4 : a + q < 4
 all_goals
   walk_at "g"
   refine tk ((J.ur d c).ur d' c') (m + 1) _ _ u2 p0 m2 λ t d2 c2 t0 t1 u3 => ?_
   walk_at "g"
   refine tk _ m 2 _ u3 (by decide) (by decide) λ b d3 c3 b0 b1 u4 => ?_
   obtain ⟨v, hv, v0⟩ := rQ (P := λ v => 0 <= v) (y := 2 ^ (uL (a + q)).toNat - 1 - t) b0 b1 t0 (iq.mpr (iQ t1))
   have b2 : b < 1000000 := ET b1 (by decide)
   walk_at "l"
   refine zi rfl ⟨b0, b2⟩ ?_
   refine WB rfl hv ?_
 · exact fin _ t b d3 c3 v s0 v0 u4
 · exact fin _ t b d3 c3 v (Eu (Eg (by decide) e2) (eC p0)) v0 u4
noncomputable def gE (Γ : Nat -> PT) : Prop := ∀ (s : Nat) (start : Int) (c v : Nat) (U : Mu) (k : V -> Mu -> Prop), c <= 100 -> k (.lst ((zK s start c v).map bV)) U -> Γ 70 [.str s, .int start, .int c, .int v] U k
theorem kc {n : Nat} (h : n <= 100) : (0 : Int) < 2 ^ n /\ ((2 : Int) ^ n).natAbs.log2 < 9000 :=
 ⟨qi n, xx (n := 101) (gj (qi n)) (by rw [zp]; exact Nat.pow_lt_pow_right (by decide) (im h)) (by decide)⟩
theorem dE {c v j : Nat} {x : Int} (e : x.toNat = j) : ((2 : Int) ^ (c : Int).toNat + (v : Int)) / 2 ^ x.toNat = ((2 ^ c + v) / 2 ^ j : Nat) := by
 rw [e, Ej, zp, zp, <- iH, <- lf]
theorem wn (a b c : Int) : a - b - c = a - c - b := by rw [Int.sub_sub, iz, <- Int.sub_sub]
theorem AZ : gE (Nx Γ) := by
 intro s start c v U k hc h
 refine ⟨rfl, ?_⟩
 have c1 := Kp hc rfl
 have e0 : ((c : Int) - 0).toNat = c := congrArg Eb (Iz (c : Int))
 have g0 : (c : Int).natAbs <= 1000000000000 /\ (0 : Int).natAbs <= 1000000000000 /\ ((c : Int) - 0).toNat <= 1000000 := ⟨CK hc (by decide), by decide, e0.symm ▸ CK hc (by decide)⟩
 have c0 := nn (n := c)
 walk_at "h"
 refine Bj c rfl e0 (λ j => bV (s, start + ((2 ^ c + v) / 2 ^ (c - j) : Nat), ((2 ^ c + v) / 2 ^ (c - 1 - j) % 2 : Nat))) (λ i hi k hk => ?_) ?_
 · have i0 : ((c : Int) - i).toNat = c - i := iA c i
   have i1 : ((c : Int) - i - 1).toNat = c - 1 - i := (congrArg Eb (wn ..)).trans (Va hi)
   have l0 := kc (n := ((c : Int) - i).toNat) (i0.symm ▸ CK (EO ..) hc)
   have l1 := kc (n := ((c : Int) - i - 1).toNat) (i1.symm ▸ CK (CK (EO ..) (EO ..)) hc)
   have j0 : 0 <= (c : Int) - i := iq.mpr (Qt (eP hi))
   have j1 : (c : Int) - i <= 1000000 := CM (iG _ nn) c1
   have j2 : 0 <= (c : Int) - i - 1 := wn (c : Int) 1 i ▸ xZ hi
   have j3 : (c : Int) - i - 1 <= 1000000 := CM (iG _ (by decide)) j1
   have e : V.tup [.str s, .int (start + (2 ^ (c : Int).toNat + (v : Int)) / 2 ^ ((c : Int) - i).toNat), .int ((2 ^ (c : Int).toNat + (v : Int)) / 2 ^ ((c : Int) - i - 1).toNat % 2)] = bV (s, start + ((2 ^ c + v) / 2 ^ (c - i) : Nat), ((2 ^ c + v) / 2 ^ (c - 1 - i) % 2 : Nat)) := by
     rw [dE i0, dE i1]; rfl
   rw [<- e] at hk
   walk_at "h"
   exact hk
 · rw [zK, zZ, io] at h
   exact h
theorem wG (v : Nat) : ∀ c e : Nat, ((eQ c).map λ (t : Nat) => (((v / 2 ^ t % 2) * 2 ^ (c - 1 - t + e) : Nat) : Int)).sum = ((Ko v c * 2 ^ e : Nat) : Int)
 | 0, e => (congrArg ip (Nat.zero_mul (2 ^ e))).symm
 | c + 1, e => by
   have h : (eQ c).map (λ t => (((v / 2 ^ t % 2) * 2 ^ (c + 1 - 1 - t + e) : Nat) : Int)) = (eQ c).map (λ t => (((v / 2 ^ t % 2) * 2 ^ (c - 1 - t + (e + 1)) : Nat) : Int)) := EU λ t ht => by
     have : c + 1 - 1 - t + e = c - 1 - t + (e + 1) := by
       rw [<- YV c t, EG e 1, <- EF]; exact congrArg (· + e) (EJ (Ei (Ez.mp ht))).symm
     rw [this]
   rw [List.range_succ, eK, List.sum_append, h, wG v c (e + 1), IS, List.map_nil, List.sum_cons, List.sum_nil, iV, <- iH, Nat.add_sub_cancel, Nat.sub_self, ig]
   refine congrArg ip ?_
   rw [Ko, Nat.add_mul, iC, Iy (2 ^ e), <- Nat.mul_assoc, Iy (Ko v c)]
noncomputable def Hu (Γ : Nat -> PT) : Prop := ∀ (v c : Nat) (U : Mu) (k : V -> Mu -> Prop), c <= 50 -> k (.int (Ko v c)) U -> Γ 71 [.int v, .int c] U k
theorem AY : Hu (Nx Γ) := by
 intro v c U k hc h
 refine ⟨rfl, ?_⟩
 have c1 := Kp hc rfl
 obtain ⟨g0, e0⟩ := dg (CK hc (show 50 <= 1000 by decide))
 walk_at "h"
 refine wY c rfl e0 (λ t => .int ((v / 2 ^ t % 2) * 2 ^ (c - 1 - t + 0) : Nat)) (λ i hi k hk => ?_) ?_
 · have e1 : (0 + (i : Int)).toNat = i := congrArg Eb (ik (i : Int))
   have l0 := kc (n := (0 + (i : Int)).toNat) (e1.symm ▸ CK (eP hi) (CK hc (by decide)))
   have j0 : 0 <= 0 + (i : Int) := nn (n := 0 + i)
   have j1 : 0 + (i : Int) <= 1000000 := (ik (i : Int)).symm ▸ Kp (eP (CV hi hc)) rfl
   have j2 : 0 <= (c : Int) - 1 - (0 + i) := (ik (i : Int)).symm ▸ xZ hi
   have j3 : (c : Int) - 1 - (0 + i) <= 1000000 := CM (iG _ j0) (CM (iG _ (by decide)) c1)
   have x : (v : Int) / 2 ^ (0 + (i : Int)).toNat % 2 = (v / 2 ^ i % 2 : Nat) := by rw [e1, zp]; rfl
   have g1 : IntMulOk ((v : Int) / 2 ^ (0 + (i : Int)).toNat % 2) (2 ^ ((c : Int) - 1 - (0 + i)).toNat) := ZC (x.symm ▸ CV (iN _ (by decide)) (by decide))
   have e : V.int ((v : Int) / 2 ^ (0 + (i : Int)).toNat % 2 * 2 ^ ((c : Int) - 1 - (0 + i)).toNat) = .int ((v / 2 ^ i % 2) * 2 ^ (c - 1 - i + 0) : Nat) := by
     rw [x, ik, Va hi, zp]; rfl
   rw [<- e] at hk
   walk_at "h"
   exact hk
 · walk_at "l"
   refine dq rfl (jc _ _) ?_
   have y := wG v c 0
   rw [ln, Nat.mul_one] at y
   rw [<- y] at h
   exact h
end
section
variable {Γ : Nat -> PT}
noncomputable def Yi : Option Nat -> Int
 | some b => b
 | none => -1
noncomputable def Ht (Γ : Nat -> PT) : Prop := ∀ (start : Int) (o : Nat) (b : Option Nat) (U : Mu) (k : V -> Mu -> Prop), k (.lst ((jh start o b).map bV)) U -> Γ 72 [.int start, .int o, .int (Yi b)] U k
theorem JC (x n : Nat) : (x : Int) / 2 ^ n = ((x / 2 ^ n : Nat) : Int) := by rw [zp]; rfl
theorem Jc (start : Int) (o : Nat) (b : Option Nat) : (jh start o b).length = 8 := by rw [jh, ee]; rfl
theorem bJ {start : Int} {o n : Nat} {b : Option Nat} {l : List V} (e : l = ((jh start o b).take n).map bV) (hn : n < 8) {M : Int} (hM : M = (more o b (7 - n) : Nat)) : l ++ [.tup [.str 10, .int (start + ((256 + o) / 2 ^ (8 - n) : Nat) + M), .int ((256 + o) / 2 ^ (7 - n) % 2 : Nat)]] = ((jh start o b).take (n + 1)).map bV := by
 rw [e, <- uX hn, eK, hM]; rfl
theorem uK {o t : Nat} {b : Option Nat} (h : ¬ (0 <= Yi b /\ (o : Int) / 2 ^ (t + 1) = Yi b / 2 ^ (t + 1))) : (0 : Int) = (more o b t : Nat) := by
 cases b with
 | none => rfl
 | some b => rw [more, if_neg λ q => h ⟨nn, by rw [Yi, JC, JC, q]⟩]; rfl
theorem fY {o t : Nat} {b : Option Nat} (h0 : 0 <= Yi b) (h1 : (o : Int) / 2 ^ (t + 1) = Yi b / 2 ^ (t + 1)) : 256 * (1 + Yi b / 2 ^ t % 2) = (more o b t : Nat) := by
 cases b with
 | none => exact absurd h0 (by decide)
 | some b => rw [Yi, JC, JC] at h1; rw [more, if_pos (Int.ofNat.inj h1), Yi, JC]; rfl
theorem AX (h70 : gE Γ) : Ht (Nx Γ) := by
 intro start o b U k h
 refine ⟨rfl, ?_⟩
 walk_at "g"
 refine h70 10 start 8 o _ _ (by decide) ?_
 walk_at "l"
 refine zi rfl (by rw [ee, zK, JE]; decide) ?_
 refine VN rfl λ l hl => ?_
 refine Zb (α := List V × Option V × Option V × Option V × Option V × Option V) (λ a => [some (.int start), some (.int o), some (.int (Yi b)), some (.own a.1), a.2.1, a.2.2.1, a.2.2.2.1, a.2.2.2.2.1, a.2.2.2.2.2]) (λ a => U) 8 (hl.trans (io ..)) rfl (λ i a => a.1.length = i /\ a.1 = ((jh start o b).take i).map bV) ([], none, none, none, none, none) ⟨rfl, rfl⟩ (λ i a hi ⟨la, ea⟩ k' hk' => ?_) λ a h1 => ?_
 · subst la
   have n7 := eJ hi
   have l0 : a.1.length < 1000000 := EP hi (by decide)
   have l1 := eP l0
   have t1 : (7 - (a.1.length : Int)).toNat = 7 - a.1.length := iA 7 a.1.length
   have t0 : 7 - (a.1.length : Int) = ((7 - a.1.length : Nat) : Int) := (Ev n7).symm
   have t2 : (7 - (a.1.length : Int) + 1).toNat = 7 - a.1.length + 1 := t0.symm ▸ rfl
   have g1 : 0 <= 7 - (a.1.length : Int) /\ 7 - (a.1.length : Int) <= 1000000 := ⟨t0.symm ▸ nn, CM (iG _ nn) (by decide)⟩
   have g2 : 0 <= 7 - (a.1.length : Int) + 1 /\ 7 - (a.1.length : Int) + 1 <= 1000000 := ⟨Eg g1.1 (by decide), CM (eD (iG _ nn) 1) (by decide)⟩
   have p1 := kc (n := (7 - (a.1.length : Int)).toNat) (t1.symm ▸ CK (EO ..) (by decide))
   have p2 := kc (n := (7 - (a.1.length : Int) + 1).toNat) (t2.symm ▸ CK (CX (EO ..) 1) (by decide))
   have fin : ∀ {M : Int} {x}, M = (more o b (7 - a.1.length) : Nat) -> Ok Γ (k' [some (.int start), some (.int o), some (.int (Yi b)), some (.own (a.1 ++ [.tup [.str 10, .int (start + ((256 + o) / 2 ^ (8 - a.1.length) : Nat) + M), .int ((256 + o) / 2 ^ (7 - a.1.length) % 2 : Nat)]])), some (.str 10), some (.int (start + ((256 + o) / 2 ^ (8 - a.1.length) : Nat))), some (.int ((256 + o) / 2 ^ (7 - a.1.length) % 2 : Nat)), some (.int (7 - (a.1.length : Int))), x]  U) :=
     λ hM => hk' (_, _, _, _, _, _) ⟨by rw [eN]; rfl, bJ ea hi hM⟩
   walk_at "h"
   refine oo rfl (λ c1 => ?_) λ c1 => ?_
   · walk_at "h"
     refine oo rfl (λ c2 => ?_) λ c2 => ?_
     · rw [t2] at c2
       walk_at "h"
       exact fin (by rw [t1]; exact fY c1 c2)
     · rw [t2] at c2
       walk_at "h"
       exact fin (uK λ q => c2 q.2)
   · walk_at "h"
     exact fin (uK λ q => c1 q.1)
 · have e := h1.2
   rw [iE (EQ (Jc ..))] at e
   rw [<- e] at h
   walk_at "h"
   exact h
noncomputable def BG (Γ : Nat -> PT) : Prop := ∀ (w : Nat) (a : Nat) (spot : Int) (size : Nat) (U : Mu) (k : V -> Mu -> Prop), (w = 14 /\ a = 20) \/ (w = 15 /\ a = 24) -> 2 <= size -> k (.lst ((yw a spot size).map bV)) U -> Γ 73 [.str w, .int spot, .int size] U k
theorem YB {L : List qX} {n : Nat} (h : L.length <= n) (hn : eY n 1000 = true) (x : List V) (hx : x.length <= 1000) : (x ++ L.map bV).length <= 1000000 := by
 rw [eN, ee]; exact CK (Ek hx (CK h (CR hn))) (by decide)
theorem qR (s : Nat) (start : Int) (c v : Nat) : (zK s start c v).length <= c := EQ (JE ..)
theorem AW (h70 : gE Γ) : BG (Nx Γ) := by
 intro w a spot size U k hw z0 h
 refine ⟨rfl, ?_⟩
 by_cases c1 : size < 10
 · rw [yw, if_pos c1] at h
   have c1' : (size : Int) < 10 := Yp c1
   have e : (size : Int) - 2 = ((size - 2 : Nat) : Int) := (Ev z0).symm
   rcases hw with ⟨rfl, rfl⟩ | ⟨rfl, rfl⟩
   all_goals
     walk_at "g"
     rw [e]
     refine h70 _ (8 * spot) 3 (size - 2) _ _ (by decide) ?_
     exact zi rfl (YB (qR ..) rfl _ (by decide)) h
 · rw [yw, if_neg c1] at h
   have c1' : ¬ (size : Int) < 10 := λ q => c1 (eG.mp q)
   by_cases c2 : size < 18
   · rw [if_pos c2] at h
     have c2' : (size : Int) < 18 := Yp c2
     have e : (size : Int) - 10 = ((size - 10 : Nat) : Int) := (Ev (Ea.mp c1)).symm
     rcases hw with ⟨rfl, rfl⟩ | ⟨rfl, rfl⟩
     all_goals
       walk_at "g"
       rw [e]
       refine h70 _ (8 * spot) 3 (size - 10) _ _ (by decide) ?_
       exact zi rfl (YB (qR ..) rfl _ (by decide)) h
   · rw [if_neg c2] at h
     have c2' : ¬ (size : Int) < 18 := λ q => c2 (eG.mp q)
     have e : (size : Int) - 18 = ((size - 18 : Nat) : Int) := (Ev (Ea.mp c2)).symm
     rcases hw with ⟨rfl, rfl⟩ | ⟨rfl, rfl⟩
     all_goals
       walk_at "g"
       rw [e]
       refine h70 _ 0 8 (size - 18) _ _ (by decide) ?_
       exact zi rfl (YB (qR ..) rfl _ (by decide)) h
end
theorem Gk {N j : Nat} (h : j < mr N) : 4 <= N / 2 ^ j := by
 have h4 : 4 <= N := Ea.mp λ q => by rw [zg q] at h; exact absurd h (Nat.not_lt_zero _)
 have : N / 2 ^ mr N <= N / 2 ^ (j + 1) := Nat.div_le_div_left (il (by decide) h) (EY _)
 rw [yA N j]
 exact CK (Et 2 (CK (Zc h4).2.1 this)) (Eo ..)
theorem wi (N : Nat) : N / 2 ^ mr N < 4 := by
 rcases Nat.lt_or_ge N 4 with q | q
 · rw [zg q, ln, IL]; exact q
 · exact (Zc q).2.2
theorem GI {N : Nat} (h : mr N <= 5) : qu N < 14 := eE (Ek (Et 2 h) (eJ (wi N))) (by decide)
theorem uJ {N : Nat} (h : N < 2 ^ 32) : mr N <= 40 := CK (eP (xr (b := 31) h (by decide))) (by decide)
theorem BB : ∀ s : Nat, s < 14 -> (((eQ ((s : Int) - 4).toNat).map λ (i : Nat) => ((2 : Int) ^ (((4 : Int) + i) / 2 - 1).toNat - 1)).sum) = Dj s := by decide
theorem yQ (N size : Nat) : (ji N size).length <= 11 := by
 rw [ji, eN]
 refine Ek (qR ..) (?_ : _ <= 5)
 by_cases c : 5 < mr N
 · rw [if_pos c]; exact CK (qR ..) (by decide)
 · rw [if_neg c]; exact CK (qR ..) (Ea.mp c)
section
variable {Γ : Nat -> PT}
noncomputable def Hr (Γ : Nat -> PT) : Prop := ∀ (N size : Nat) (U : Mu) (k : V -> Mu -> Prop), N < 2 ^ 32 -> k (.tup [.lst ((ji N size).map bV), .int (zB N)]) U -> Γ 74 [.int (N + 1), .int size] U k
theorem wg {L M : List qX} {n : Nat} (h : (L ++ M).length <= n) (hn : eY n 1000000 = true) : (L.map bV ++ M.map bV).length <= 1000000 := by
 rw [<- eK, ee]; exact CK h (CR hn)
theorem AV (h70 : gE Γ) (h71 : Hu Γ) : Hr (Nx Γ) := by
 intro N size U k hN h
 have gl := yQ N size
 refine ⟨rfl, ?_⟩
 walk_at "h"
 obtain ⟨n, hn⟩ : ∃ n, n = mr N + 1 := ⟨_, rfl⟩
 refine AE rfl n ?_
 refine WH (α := Int × Int) (λ a => [some (.int (N + 1)), some (.int size), some (.int a.1), some (.int a.2), none, none, none, none, none]) (λ _ => U) (λ j a => a.1 = (N / 2 ^ j : Nat) /\ a.2 = (j : Nat)) (mr N) hn (_, 0) ⟨(ie ..).trans (congrArg ip (IL N).symm), rfl⟩ (λ j a hj h k hk => ?_) (λ j a hj h k hk => ?_) (λ a h k hk => ?_) λ a h1 => ?_
 · have t : 3 < a.1 := h.1.symm ▸ Yp (Gk hj)
   walk_at "h"
   exact hk
 · walk_at "h"
   refine hk (_, _) ⟨?_, ?_⟩
   · show a.1 / 2 = _
     rw [h.1, iC, <- iD]; rfl
   · show a.2 + 1 = _
     rw [h.2]; rfl
 · have t : ¬ 3 < a.1 := h.1.symm ▸ ic.mpr (Qt (eJ (wi N)))
   walk_at "h"
   exact hk
 · obtain ⟨x, y⟩ := a
   obtain ⟨rfl, rfl⟩ : x = (N / 2 ^ mr N : Nat) /\ y = (mr N : Nat) := h1
   have m40 := uJ hN
   have e5 : ((N : Int) + 1 - 1) % 2 ^ ((mr N : Nat) : Int).toNat = ((N % 2 ^ mr N : Nat) : Int) := by rw [ie, Ej, zp]; rfl
   have pm := qi ((mr N : Nat) : Int).toNat
   have pn : (0 : Int) <= mr N := nn
   have pl : (mr N : Int) <= 1000000 := Kp m40 rfl
   walk_at "g"
   refine h70 11 _ 6 (qu N) _ _ (by decide) ?_
   by_cases c : 5 < mr N
   · have c' : (5 : Int) < mr N := Yp c
     rw [ji, if_pos c] at gl
     rw [ji, zB, if_pos c, if_pos c, eK] at h
     walk_at "g"
     rw [e5]
     refine h71 (N % 2 ^ mr N % 16) 4 _ _ (by decide) ?_
     walk_at "g"
     refine h70 13 0 4 _ _ _ (by decide) ?_
     refine zi rfl (wg gl rfl) ?_
     have e6 : (mr N : Int) - 4 = ((mr N - 4 : Nat) : Int) := (Ev (eP (Nat.lt_of_succ_lt c))).symm
     rw [<- e6] at h
     exact h
   · have c' : ¬ (5 : Int) < mr N := λ q => c (eG.mp q)
     rw [ji, if_neg c] at gl
     rw [ji, zB, if_neg c, if_neg c, eK] at h
     have s14 := GI (Ea.mp c)
     have g0 : (4 : Int).natAbs <= 1000000000000 /\ (qu N : Int).natAbs <= 1000000000000 /\ ((qu N : Int) - 4).toNat <= 1000000 := ⟨by decide, CK (eP s14) (by decide), (iA (qu N) 4).symm ▸ CK (EO ..) (CK (eP s14) (by decide))⟩
     walk_at "l"
     refine oq rfl c' ?_
     refine zi rfl g0 ?_
     refine VN rfl λ l hl => ?_
     refine wY _ hl rfl (λ i => .int ((2 : Int) ^ (((4 : Int) + i) / 2 - 1).toNat - 1)) (λ i hi k hk => ?_) ?_
     · have i0 : 0 <= ((4 : Int) + i) / 2 - 1 := iq.mpr ((Ij (by decide)).mpr (CM (by decide) (CQ nn : (4 : Int) <= 4 + i)))
       have i1 : ((4 : Int) + i) / 2 - 1 <= 1000000 := by
         have hi' : i < qu N := CV hi ((iA (qu N) 4).symm ▸ EO ..)
         omega
       walk_at "h"
       exact hk
     · walk_at "l"
       refine dq rfl (jc _ _) ?_
       walk_at "g"
       rw [e5]
       refine h71 _ (mr N) _ _ (CK (Ea.mp c) (by decide)) ?_
       walk_at "g"
       rw [show (List.map (λ (i : Nat) => (2 : Int) ^ ((4 + (i : Int)) / 2 - 1).toNat - 1) (eQ ((2 * ((mr N : Nat) : Int) + ((N / 2 ^ mr N : Nat) : Int)) - 4).toNat)).sum = Dj (qu N) from BB _ s14]
       refine h70 12 (Dj (qu N)) (mr N) _ _ _ (CK (Ea.mp c) (by decide)) ?_
       refine zi rfl (wg gl rfl) ?_
       exact h
end
structure Mn (J : Sg) : Prop where
 lc : J.lc <= 8
 lp : J.lp <= 4
 pb : J.pb <= 4
 s0 : 0 <= J.mst
 s1 : J.mst < 12
 p : 0 <= J.mpl
theorem zN (a : Nat) (spot : Int) (size : Nat) : (yw a spot size).length <= 10 := by
 rw [yw]
 by_cases c : size < 10
 · rw [if_pos c]; exact CK (CX (qR ..) 1) (by decide)
 · rw [if_neg c]
   by_cases d : size < 18
   · rw [if_pos d]; exact CK (CX (qR ..) 2) (by decide)
   · rw [if_neg d]; exact CX (qR ..) 2
section
variable {Γ : Nat -> PT}
noncomputable def gD (Γ : Nat -> PT) : Prop := ∀ (J : Sg) (o b m : Nat) (k : V -> Mu -> Prop), Mn J -> k (.tup [.lst ((ZS J.lc J.lp J.pb J.mst J.mpl o b m).map bV), .int 0]) (st J) -> Γ 75 [.h 1, .tup [.str 0, .int o, .int b, .int m]] (st J) k
theorem ar (h72 : Ht Γ) : gD (Nx Γ) := by
 intro J o b m k mn h
 have l0 := nn (n := J.lc)
 have l1 := nn (n := J.lp)
 have l2 := nn (n := J.pb)
 have l3 := Kp mn.lc rfl
 have l4 := Kp mn.lp rfl
 have l5 := Kp mn.pb rfl
 have x1 := qi (J.pb : Int).toNat
 have x2 := qi (J.lp : Int).toNat
 obtain ⟨e8, g1⟩ := Ai mn.lc
 have g2 : 8 - (J.lc : Int) <= 1000000 := CM (iG _ l0) (by decide)
 have x4 := kc (n := (8 - (J.lc : Int)).toNat) (e8.symm ▸ CK (EO ..) (by decide))
 have x5 := QE J.mpl (J.lp : Int).toNat
 have x6 : IntMulOk (J.mpl % 2 ^ (J.lp : Int).toNat) (2 ^ (J.lc : Int).toNat) := ZC (na x5.1 (n := 17) (ET (eI x5.2 (jm mn.lp)) (by decide)) rfl)
 refine ⟨rfl, ?_⟩
 by_cases c7 : J.mst < 7
 · rw [ZS, if_pos c7] at h
   have c6 : ¬ 6 < J.mst := ic.mpr (eU c7)
   walk_at "g"
   rw [e8]
   refine h72 (xy J.lc J.lp J.mpl b) o none _ _ ?_
   exact zi rfl (YB (EQ (Jc ..)) rfl _ (CR rfl)) h
 · rw [ZS, if_neg c7] at h
   have c6 : 6 < J.mst := eI (by decide) (ic.mp c7)
   walk_at "g"
   rw [e8]
   refine h72 (xy J.lc J.lp J.mpl b) o (some m) _ _ ?_
   exact zi rfl (YB (EQ (Jc ..)) rfl _ (CR rfl)) h
noncomputable def Xq (Γ : Nat -> PT) : Prop := ∀ (J : Sg) (w N size : Nat) (r : List V) (k : V -> Mu -> Prop), Mn J -> (w = 1 \/ w = 4 \/ w = 5) -> N < 2 ^ 32 -> 2 <= size -> k (.tup [.lst ((qF J.pb J.mst J.mpl N size).map bV), .int (zB N)]) (st J) -> Γ 75 [.h 1, .tup (.str w :: .int (N + 1) :: .int size :: r)] (st J) k
theorem VO (pb : Nat) (s p : Int) (N size : Nat) : (qF pb s p N size).map bV = [V.tup [.str 1, .int (yD pb s p), .int 1], .tup [.str 2, .int s, .int 0]] ++ (yw 20 (p % 2 ^ pb) size).map bV ++ (ji N size).map bV := by
 rw [ER, <- eK]
 rfl
theorem aq (h73 : BG Γ) (h74 : Hr Γ) : Xq (Nx Γ) := by
 intro J w N size r k mn hw hN z0 h
 have l2 := nn (n := J.pb)
 have l5 := Kp mn.pb rfl
 have x1 := qi (J.pb : Int).toNat
 have gl := yQ N size
 have ll := zN 20 (J.mpl % 2 ^ (J.pb : Int).toNat) size
 have a2 : ([V.tup [.str 1, .int (yD J.pb J.mst J.mpl), .int 1], .tup [.str 2, .int J.mst, .int 0]] ++ (yw 20 (J.mpl % 2 ^ (J.pb : Int).toNat) size).map bV ++ (ji N size).map bV).length <= 1000000 :=
   YB (CK gl (by decide : 11 <= 11)) rfl _ (by rw [eN, ee]; exact CK (Em ll 2) (by decide))
 rw [VO] at h
 refine ⟨rfl, ?_⟩
 rcases hw with rfl | rfl | rfl
 all_goals
   walk_at "g"
   refine h74 N size _ _ hN ?_
   walk_at "g"
   refine h73 14 20 _ size _ _ (.inl ⟨rfl, rfl⟩) z0 ?_
   walk_at "l"
   refine zi rfl (YB ll rfl _ (CR rfl)) ?_
   refine zi rfl a2 ?_
   exact h
noncomputable def gC (Γ : Nat -> PT) : Prop := ∀ (J : Sg) (i : Int) (size : Nat) (k : V -> Mu -> Prop), Mn J -> 0 <= i -> i < 4 -> 2 <= size -> k (.tup [.lst ((Kg J.pb J.mst J.mpl i size).map bV), .int 0]) (st J) -> Γ 75 [.h 1, .tup [.str 2, .int i, .int size]] (st J) k
theorem ao (h73 : BG Γ) : gC (Nx Γ) := by
 intro J i size k mn i0 i1 z0 h
 have l2 := nn (n := J.pb)
 have l5 := Kp mn.pb rfl
 have x1 := qi (J.pb : Int).toNat
 have ll := zN 24 (J.mpl % 2 ^ (J.pb : Int).toNat) size
 refine ⟨rfl, ?_⟩
 by_cases e0 : i = 0
 · subst e0
   walk_at "g"
   refine h73 15 24 _ size _ _ (.inr ⟨rfl, rfl⟩) z0 ?_
   exact zi rfl (YB ll rfl _ (CR rfl)) h
 · have p0 : 0 < i := Int.lt_iff_le_and_ne.mpr ⟨i0, Ne.symm e0⟩
   by_cases e1 : i = 1
   · subst e1
     walk_at "g"
     refine h73 15 24 _ size _ _ (.inr ⟨rfl, rfl⟩) z0 ?_
     exact zi rfl (YB ll rfl _ (CR rfl)) h
   · have p1 : 1 < i := Int.lt_iff_le_and_ne.mpr ⟨p0, Ne.symm e1⟩
     rw [Kg, jS, if_neg e0, if_neg e1] at h
     walk_at "g"
     refine h73 15 24 _ size _ _ (.inr ⟨rfl, rfl⟩) z0 ?_
     exact zi rfl (YB ll rfl _ (CR rfl)) h
noncomputable def gB (Γ : Nat -> PT) : Prop := ∀ (J : Sg) (k : V -> Mu -> Prop), Mn J -> k (.tup [.lst ((Qh J.pb J.mst J.mpl).map bV), .int 0]) (st J) -> Γ 75 [.h 1, .tup [.str 3]] (st J) k
theorem am : gB (Nx Γ) := by
 intro J k mn h
 have l2 := nn (n := J.pb)
 have l5 := Kp mn.pb rfl
 have x1 := qi (J.pb : Int).toNat
 refine ⟨rfl, ?_⟩
 walk_at "h"
 exact h
end
noncomputable def good (n p G : Nat) : Prop := (256 : Int) * KL n p <= 256 ^ G * 31 ^ n * 8191 ^ (n + p)
theorem wC : ∀ (L : List qX) {f}, Xr f -> (31 : Int) ^ L.length <= zd (WD f L)
 | [], _, _ => (by decide : (1 : Int) <= 1)
 | x :: L, f, h => by
   have hc := (vF h x).1
   show (31 : Int) ^ (L.length + 1) <= KD f x * zd (WD (Qi f x) L)
   rw [Int.pow_succ, ES]
   exact Int.mul_le_mul hc (wC L (kT h x)) (eC (qv (by decide) _)) (CM (by decide) hc)
theorem Go.grow {J J' : Sg} {L : List qX} {p G : Nat} (go : Go J J' L p) (r : RI J) (hf : Xr J.f) (hg : good L.length p G) : (J'.n : Int) + J'.held + 1 <= J.n + J.held + G := by
 obtain ⟨_, ri, g, g1, g2, g3, g4⟩ := go
 rcases Nat.lt_or_ge g G with q | q
 · rw [g1, En]; exact eT (Qt q) _
 · exfalso
   have a : (256 : Int) ^ G <= 256 ^ g := EH 256 G ▸ EH 256 g ▸ Qt (il (by decide) q : 256 ^ G <= 256 ^ g)
   have z : ∀ n : Nat, (0 : Int) <= 8191 ^ n := λ n => eC (qv (by decide) n)
   have h1 : (256 : Int) ^ G * 31 ^ L.length * 8191 ^ (L.length + p) <= bF J.f g L p := eM (Int.mul_le_mul a (wC L hf) (eC (qv (by decide) _)) (eC (qv (by decide) _))) (z _)
   have p1 := Kt L.length p
   have h3 := eH (CM hg h1) (CM (by decide) r.s0)
   have h4 : J'.span * KL L.length p < 16777216 * 256 * KL L.length p := iM ri.s1 p1
   rw [EB] at h4
   have h5 := eM r.s0 (Eu (by decide : (0 : Int) <= 256) (eC p1))
   exact Int.lt_irrefl _ (EA (CM h5 (CM h3 g3)) h4)
noncomputable def Bd (a : Int) (n : Nat) : Prop := a.natAbs <= 2 ^ n
theorem Bd.mul {a b : Int} {n m : Nat} (x : Bd a n) (y : Bd b m) : Bd (a * b) (n + m) := by
 unfold Bd
 rw [Int.natAbs_mul, Ir]
 exact Nat.mul_le_mul x y
theorem Bd.pow {a : Int} {n : Nat} (x : Bd a n) : ∀ k, Bd (a ^ k) (n * k)
 | 0 => by
   rw [Int.pow_zero]
   exact Nat.one_le_two_pow
 | k + 1 => by
   rw [Int.pow_succ, Nat.mul_succ]
   exact (Bd.pow x k).mul x
theorem Bd.le {a : Int} {n m : Nat} (x : Bd a n) (h : n <= m) : Bd a m := CK x (il (by decide) h)
theorem Bd.pk {a : Int} {n k K : Nat} (x : Bd a n) {e : Int} (he : e.toNat = k) (h : k <= K) : Bd (a ^ e.toNat) (n * K) := he.symm ▸ (x.pow k).le (Et n h)
theorem Bd.bits {a : Int} (h : Bd a 4000) : Builtin.Int.intBits a <= 4001 := by
 unfold Builtin.Int.intBits
 split
 · decide
 · rename_i hz
   have hz : a ≠ 0 := by simpa using hz
   exact II ((lK (Int.natAbs_ne_zero.mpr hz)).mpr (eE h (Nat.pow_lt_pow_right (by decide) (by decide))))
theorem Bd.ok {a b : Int} {n m : Nat} (x : Bd a n) (y : Bd b m) (hn : eY n 4000 = true) (hm : eY m 4000 = true) : IntMulOk a b := by
 have ka := (x.le (CR hn)).bits
 have kb := (y.le (CR hm)).bits
 unfold IntMulOk Builtin.Int.intTooBig
 rw [show (decide (((Builtin.Int.intBits a : Nat) : Int) + ((Builtin.Int.intBits b : Nat) : Int) > (bitsLine : Int))) = false from decide_eq_false (ic.mpr (CM (Qt (Ek ka kb)) (by decide)))]
 simp
section
theorem Ul : good 9 0 8 := (by decide +kernel : (256 : Int) * KL 9 0 <= 256 ^ 8 * 31 ^ 9 * 8191 ^ (9 + 0))
theorem vg : good 4 0 5 := (by decide +kernel : (256 : Int) * KL 4 0 <= 256 ^ 5 * 31 ^ 4 * 8191 ^ (4 + 0))
theorem Um : good 16 26 17 := (by decide +kernel : (256 : Int) * KL 16 26 <= 256 ^ 17 * 31 ^ 16 * 8191 ^ (16 + 26))
theorem Uk {n : Nat} (h : n < 16) : good n 0 13 := (by decide +kernel : ∀ n, n < 16 -> (256 : Int) * KL n 0 <= 256 ^ 13 * 31 ^ n * 8191 ^ (n + 0)) n h
theorem Wa {n : Nat} (h : n < 21) : good n 0 17 := (by decide +kernel : ∀ n, n < 21 -> (256 : Int) * KL n 0 <= 256 ^ 17 * 31 ^ n * 8191 ^ (n + 0)) n h
theorem bY {n : Nat} (h : n < 24) : good n 0 21 := (by decide +kernel : ∀ n, n < 24 -> (256 : Int) * KL n 0 <= 256 ^ 21 * 31 ^ n * 8191 ^ (n + 0)) n h
theorem bZ {n p : Nat} (h : n < 23) (hp : p < 27) : good n p 21 := (by decide +kernel : ∀ n, n < 23 -> ∀ p, p < 27 -> (256 : Int) * KL n p <= 256 ^ 21 * 31 ^ n * 8191 ^ (n + p)) n h p hp
end
theorem wL (lc lp pb : Nat) (s p : Int) (o b m : Nat) : (ZS lc lp pb s p o b m).length = 9 := congrArg Ia (Jc ..)
theorem GZ (pb : Nat) (s p i : Int) (size : Nat) : (Kg pb s p i size).length <= 15 := by
 have ll := zN 24 (p % 2 ^ pb) size
 have : (jS pb s p i).length <= 3 := by
   rw [jS]
   by_cases c : i = 0
   · rw [if_pos c]; exact (by decide : 2 <= 3)
   · rw [if_neg c]
     by_cases d : i = 1
     · rw [if_pos d]; exact (by decide : 2 <= 3)
     · rw [if_neg d]; exact Ex 3
 exact ia (ia (eN ▸ Ek this ll))
theorem zR {pb : Nat} {s p : Int} {N size a b : Nat} (ha : (yw 20 (p % 2 ^ pb) size).length <= a) (hb : (ji N size).length <= b) : (qF pb s p N size).length < 3 + (a + b) := by
 rw [qF, IY, IY, eN, EG 3]
 exact ia (ia (ia (Ek ha hb)))
theorem vh (pb : Nat) (s p : Int) (N size : Nat) (h : N < 2 ^ 32) : good (qF pb s p N size).length (zB N) 21 := by
 by_cases c : 5 < mr N
 · have : (ji N size).length <= 10 := by
     rw [ji, if_pos c, eN]; exact Ek (qR ..) (qR ..)
   exact bZ (CV (zR (zN ..) this) (by decide)) (by rw [zB, if_pos c]; exact eE (Nat.sub_le_of_le_add (eJ (xr (b := 31) h (by decide)) : mr N <= 26 + 4)) (by decide))
 · rw [zB, if_neg c]
   exact bY (zR (zN ..) (yQ N size))
theorem JX (pb : Nat) (s p : Int) (N size : Nat) (h : N < 9) : good (qF pb s p N size).length (zB N) 17 /\ zB N = 0 := by
 have hm : mr N < 3 := xr (b := 3) (EP h (by decide)) (by decide)
 have c : ¬ 5 < mr N := Ea.mpr (CK (eP hm) (by decide))
 have h4 : zB N = 0 := if_neg c
 have h3 : (ji N size).length <= 8 := by
   rw [ji, if_neg c, eN]; exact Ek (qR ..) (CK (qR ..) (eJ hm))
 exact ⟨h4.symm ▸ Wa (zR (zN ..) h3), h4⟩
theorem Wb (pb : Nat) (s p : Int) : good (qF pb s p 4294967295 2).length (zB 4294967295) 17 := by
 have hm : mr 4294967295 = 30 := congrArg (· - 1) (by decide : (4294967295 : Nat).log2 = 31)
 have c : 5 < mr 4294967295 := hm.symm ▸ (by decide : 5 < 30)
 rw [qF, ji, zB, if_pos c, if_pos c, hm]
 exact Um
section
variable {Γ : Nat -> PT}
noncomputable def Ym (Γ : Nat -> PT) : Prop := ∀ (g p : Nat) (cs : List Int) (n : Nat) (U : Mu) (k : V -> Mu -> Prop), cs.length = n -> n <= 60 -> p <= 60 -> g <= 60 -> (∀ c ∈ cs, 0 <= c /\ c <= 2048) ->
 256 ^ g * zd cs * 8191 ^ (n + p) < 256 * (2048 ^ n * 2 ^ p) * 8192 ^ (n + p) -> 2048 ^ n * 2 ^ p * 125 ^ n < 256 ^ (g + 1) * zd cs * 126 ^ n -> k (.bool true) U -> Γ 80 [.int g, .lst (cs.map .int), .int p] U k
theorem VJ (l : List Int) (x : Int) : zd (l ++ [x]) = zd l * x := by rw [yM]; exact congrArg _ (IN x)
theorem KV {x : Int} (h : 0 <= x /\ x <= 2048) : Bd x 11 := Er.mp ((iO h.1).symm ▸ h.2)
theorem wD : ∀ (l : List Int), (∀ c ∈ l, 0 <= c /\ c <= 2048) -> Bd (zd l) (11 * l.length)
 | [], _ => (by decide : (1 : Int).natAbs <= 2 ^ 0)
 | x :: l, h => ((KV (h x (CZ ..))).mul (wD l λ c hc => h c (CY _ hc))).le (EQ (EG 11 _))
theorem AQ : Ym (Nx Γ) := by
 intro g p cs n U k hn n1 p1 g1 hc h1 h2 h
 have bp : Bd (zd cs) 660 := (wD cs hc).le (Et 11 (hn ▸ n1))
 have bb : ∀ {a : Int} {m : Nat}, a.natAbs <= 2 ^ m -> Bd a m := λ h => h
 have bg := Bd.pk (a := 256) (n := 8) (bb (by decide)) (e := (g : Int)) rfl g1
 have bg1 := Bd.pk (a := 256) (n := 8) (bb (by decide)) (e := (g : Int) + 1) (k := g + 1) rfl (CX g1 1)
 have q1 := Bd.pk (a := 2048) (n := 11) (bb (by decide)) (e := (n : Int)) rfl n1
 have q2 := Bd.pk (a := 2) (n := 1) (bb (by decide)) (e := (p : Int)) rfl p1
 have q3 := Bd.pk (a := 8191) (n := 13) (bb (by decide)) (e := (n : Int) + p) (k := n + p) rfl (Ek n1 p1)
 have q4 := Bd.pk (a := 8192) (n := 13) (bb (by decide)) (e := (n : Int) + p) (k := n + p) rfl (Ek n1 p1)
 have q5 := Bd.pk (a := 126) (n := 7) (bb (by decide)) (e := (n : Int)) rfl n1
 have q6 := Bd.pk (a := 125) (n := 7) (bb (by decide)) (e := (n : Int)) rfl n1
 have m1 := q1.ok q2 rfl rfl
 have m2 := bg.ok bp rfl rfl
 have m3 := (bg.mul bp).ok q3 rfl rfl
 have m4 := (Bd.mul (a := 256) (n := 9) (bb (by decide)) (q1.mul q2)).ok q4 rfl rfl
 have m5 := bg1.ok bp rfl rfl
 have m6 := (bg1.mul bp).ok q5 rfl rfl
 have m7 := (q1.mul q2).ok q6 rfl rfl
 have i0 := nn (n := n)
 have i1 := Kp n1 rfl
 have j0 := nn (n := p)
 have j1 := Kp p1 rfl
 have k0 := nn (n := g)
 have k1 := Kp g1 rfl
 have l0 : (0 : Int) <= (n : Int) + p := nn (n := n + p)
 have l1 : (n : Int) + p <= 1000000 := Kp (Ek n1 p1) rfl
 have o0 : (0 : Int) <= (g : Int) + 1 := nn (n := g + 1)
 have o1 : (g : Int) + 1 <= 1000000 := Kp (CX g1 1) rfl
 refine ⟨rfl, ?_⟩
 have hl : (cs.map V.int).length <= 1000000 := by rw [ee, hn]; exact CK n1 (by decide)
 walk_at "l"
 refine zi rfl hl ?_
 refine zi rfl hl ?_
 refine VN rfl λ l hl => ?_
 have ll : ((cs.map V.int).length : Int) = n := by rw [ee, hn]
 refine KS (α := Int × Option V × Option V) (λ a => [some (.int g), some (.lst (cs.map .int)), some (.int p), some (.int a.1), some (.int (cs.map V.int).length), a.2.1, a.2.2]) (λ _ => U) V.int cs hl (λ i a => a.1 = zd (cs.take i)) (1, none, none) rfl (λ i c a hi ha k' hk' => ?_) λ a ha => ?_
 · have mc : IntMulOk a.1 c := xp (eE (KV (hc c (eR hi))) (by decide))
   walk_at "h"
   refine hk' (_, _, _) ?_
   show a.1 * c = _
   rw [IM, hi, ha]; exact (VJ _ _).symm
 · obtain ⟨a, y, z⟩ := a
   obtain rfl : a = zd cs := ha.trans (by rw [List.take_length])
   rw [ll]
   have c1 : ¬ 256 * (2048 ^ (n : Int).toNat * 2 ^ (p : Int).toNat) * 8192 ^ ((n : Int) + p).toNat <= 256 ^ (g : Int).toNat * zd cs * 8191 ^ ((n : Int) + p).toNat := Int.not_le.mpr h1
   have c2 : 2048 ^ (n : Int).toNat * 2 ^ (p : Int).toNat * 125 ^ (n : Int).toNat < 256 ^ ((g : Int) + 1).toNat * zd cs * 126 ^ (n : Int).toNat := h2
   walk_at "h"
   exact h
end
noncomputable def Sg.setv (J : Sg) (s : Nat) (i v : Int) : Sg := J.setf s (λ q => if q = i then v else J.f s q) (J.u s + 1)
theorem Zj (lc lp pb : Nat) : ∀ s ∈ YA, qQ s (YA.map λ s => (s, rv lc lp pb s)) = some (rv lc lp pb s) := jD ⟨rfl, rfl, rfl, rfl, rfl, rfl, rfl, rfl, rfl, rfl, rfl, rfl, rfl, rfl, rfl, rfl, rfl, rfl, trivial⟩
theorem jR {p : Prop} [Decidable p] {α : Type} {P : α -> Prop} {a b : α} (h : P a) (k : P b) : P (if p then a else b) := by
 by_cases c : p
 · rw [if_pos c]; exact h
 · rw [if_neg c]; exact k
theorem Rd.setv {J : Sg} {m : Nat} (r : Rd J (m + 1)) {s : Nat} {i v : Int} (h0 : 31 <= v) (h1 : v <= 2017) : Rd (J.setv s i v) m :=
 have e : ∀ x : Nat, x + 1 + m <= 90000 <-> x + (m + 1) <= 90000 := λ x => by rw [EF, EG 1]
 ⟨⟨r.ri.l0, r.ri.l1, r.ri.s0, r.ri.s1, r.ri.c0, r.ri.c1, r.ri.h1, r.ri.cl⟩,
   λ t j => jR (P := λ g : Int -> Int => 31 <= g j /\ g j <= 2017) (jR (P := λ x : Int => 31 <= x /\ x <= 2017) ⟨h0, h1⟩ (r.f s j)) (r.f t j),
   λ t => jR (P := λ x : Nat => x + m <= 90000) ((e _).mpr (r.u s)) (CK (Em (IK m) _) (r.u t)),
   CM (eT (Qt (IK m)) _) r.n, r.lc, r.lp, r.pb⟩
noncomputable def Sg.sf (J : Sg) (d c : Int) (f : Nat -> Int -> Int) (u : Nat -> Nat) : Sg := { J.ur d c with f := f, u := u }
structure Wz (J J' : Sg) : Prop where
 eq : ∃ d c f u, J' = J.sf d c f u
theorem Wz.refl (J : Sg) : Wz J J := ⟨J.dig, J.cnt, J.f, J.u, rfl⟩
section
variable {Γ : Nat -> PT}
theorem wA {α : Type} {o : Option α} {a : α} {F : α -> VC} (e : o = some a) (h : Ok Γ (F a)) : Ok Γ (qs o F) := e ▸ h
theorem uk {J : Sg} {s m : Nat} {i v : Int} {k : Mu -> VC} (rd : Rd J m) (ok : s ∈ YA) (h0 : 0 <= i) (h1 : i < sz J.lc J.lp J.pb s) (h : Ok Γ (k (st (J.setv s i v)))) : Ok Γ (Jk none (st J) (rv J.lc J.lp J.pb s) (.int i) (.int v) k) :=
 xn (JA J (kP J) s ok) (zi rfl ⟨rfl, rfl, h0, h1, eE (CK (Eo ..) (rd.u s)) (by decide), eI h1 (CM (WO rd.lc rd.lp rd.pb s ok) (by decide)), QM J (kP J) s ok⟩ (OK rfl (Kf J (kP J) _ _ s ok) h))
noncomputable def YK (Γ : Nat -> PT) : Prop := ∀ (J : Sg) (L : List qX) (m n : Nat) (k : V -> Mu -> Prop), Rd J (L.length + m) -> Ur J (n + 3) -> (∀ x ∈ L, oa J x) -> L.length <= 1000 ->
 (∀ J', Wz J J' -> Rd J' m -> Ur J' n -> k .none (st J')) -> Γ 77 [.h 0, .h 63, .lst (L.map bV)] (st J) k
theorem AS (tk : Tk Γ) : YK (Nx Γ) := by
 intro J L m n k rd ur ok hL h
 refine ⟨rfl, ?_⟩
 walk_at "g"
 refine tk J (n + 2) 6 _ ur (by decide) (by decide) λ way d1 c1 w0 w1 u1 => ?_
 walk_at "g"
 refine tk _ (n + 1) 1987 _ u1 (by decide) (by decide) λ first d2 c2 f0 f1 u2 => ?_
 walk_at "g"
 refine tk _ n 1987 _ u2 (by decide) (by decide) λ mo d3 c3 m0 m1 u3 => ?_
 have hl : (L.map bV).length = L.length := ee ..
 have e0 : (((L.map bV).length : Int) - 0).toNat = L.length := by rw [hl]; exact congrArg Eb (Iz _)
 walk_at "l"
 refine zi rfl (hl.symm ▸ CK hL (by decide)) ?_
 refine zi rfl ⟨by decide, hl.symm ▸ CK hL (by decide), e0.symm ▸ CK hL (by decide)⟩ ?_
 refine VN rfl λ l hl' => ?_
 refine yo (α := Sg × Option V × Option V × Option V × Option V) (λ a => [some (.h 0), some (.h 63), some (.lst (L.map bV)), some (.int way), some (.int first), some (.int mo), a.2.1, a.2.2.1, a.2.2.2.1, a.2.2.2.2]) (λ a => st a.1) L.length hl' e0 (λ i a => Wz J a.1 /\ Rd a.1 (L.length - i + m) /\ Ur a.1 n) (_, none, none, none, none)
   ⟨⟨d3, c3, J.f, J.u, rfl⟩, ⟨⟨rd.ri.l0, rd.ri.l1, rd.ri.s0, rd.ri.s1, rd.ri.c0, rd.ri.c1, rd.ri.h1, rd.ri.cl⟩, rd.f, rd.u, rd.n, rd.lc, rd.lp, rd.pb⟩, u3⟩ (λ i a hi ⟨se, rd1, ur1⟩ k' hk' => ?_) λ a h1 => ?_
 · have rd2 : Rd a.1 (L.length - (i + 1) + m + 1) := EG 1 _ ▸ rd1.next hi
   have hx : qj (L.map bV) (0 + (i : Int)).toNat = some (bV L[i]) := by
     rw [qE, ik, Ej, eZ, ii hi]; try rfl
   obtain ⟨os, o0, o1, ob⟩ := ok L[i] (List.getElem_mem hi)
   obtain ⟨⟨dd, cc', ff, uu, eq⟩⟩ := id se
   replace o1 : L[i].2.1 < sz a.1.lc a.1.lp a.1.pb L[i].1 := by rw [eq]; exact o1
   have i0 : 0 <= 0 + (i : Int) := (ik (i : Int)).symm ▸ nn
   have i1 : 0 + (i : Int) < 1000000 := (ik (i : Int)).symm ▸ Yp (CV hi (CK hL (by decide)))
   have fin : ∀ w : Int, 31 <= w -> w <= 2017 -> ∀ b c d e, Ok Γ (k' [some (.h 0), some (.h 63), some (.lst (L.map bV)), some (.int way), some (.int first), some (.int mo), b, c, d, e] (st (a.1.setv L[i].1 L[i].2.1 w))) := λ w w0 w1 b c d e =>
     hk' (_, b, c, d, e) ⟨⟨dd, cc', _, _, by rw [eq]; rfl⟩, rd2.setv w0 w1, ⟨ur1.d, ur1.m0, ur1.m1, ur1.c0, ur1.c1⟩⟩
   walk_at "l"
   refine zi rfl ⟨i0, i1⟩ ?_
   refine WB rfl hx ?_
   by_cases w4 : way < 4
   · walk_at "h"
     refine wA (Zj _ _ _ _ os) ?_
     refine uk rd1 os o0 o1 ?_
     refine fin _ ?_ ?_ _ _ _ _
     · rcases ob with e | e <;> rw [e] <;> decide
     · rcases ob with e | e <;> rw [e] <;> decide
   · by_cases w5 : way = 4
     · have mo1 : IntMulOk (0 + (i : Int)) mo := xp (na m0 (n := 1987) m1 rfl)
       walk_at "h"
       refine wA (Zj _ _ _ _ os) ?_
       refine uk rd1 os o0 o1 ?_
       exact fin _ (CQ (EI _ (by decide))) (eT (eU (b := 1986) (EL _ (by decide : (0 : Int) < 1987))) 31) _ _ _ _
     · walk_at "h"
       exact hk' (_, _, _, _, _) ⟨se, rd2.le (IK _), ur1⟩
 · obtain ⟨se, rd1, ur1⟩ := h1
   walk_at "h"
   exact h a.1 se (rd1.le (Ed ..)) ur1
end
section
variable {Γ : Nat -> PT}
noncomputable def gz (Γ : Nat -> PT) : Prop := ∀ (J : Sg) (o b mt m : Nat), Rd J (9 + m) -> YL J -> o < 256 -> b < 256 -> mt < 256 ->
 Wr Γ 78 [.obj 5 61, .tup [.str 0, .int o, .int b, .int mt]] J (ZS J.lc J.lp J.pb J.stt J.plc o b mt) 0 m (KI J.stt) (J.plc + 1)
theorem ai (h42 : HF Γ) : gz (Nx Γ) := by
 intro J o b mt m rd pre ho hb hm k h
 refine ⟨rfl, ?_⟩
 walk_at "g"
 refine h42 J o b mt m rd pre ho hb hm _ λ J1 a b c d go1 rd1 ok => ?_
 walk_at "g"
 exact h J1 a b c d go1 rd1 ok
noncomputable def gy (Γ : Nat -> PT) : Prop := ∀ (J : Sg) (N size m : Nat), Rd J (60 + m) -> YL J -> N < 4294967295 -> 2 <= size -> size <= 273 ->
 Wr Γ 78 [.obj 5 61, .tup [.str 1, .int (N + 1), .int size]] J (qF J.pb J.stt J.plc N size) (zB N) m (if J.stt < 7 then 7 else 10) (J.plc + size)
theorem ah (h43 : BP Γ) : gy (Nx Γ) := by
 intro J N size m rd pre hN z0 z1 k h
 refine ⟨rfl, ?_⟩
 walk_at "g"
 refine h43 J N size m rd pre hN z0 z1 _ λ J1 a b c d go1 rd1 ok => ?_
 walk_at "g"
 exact h J1 a b c d go1 rd1 ok
noncomputable def gx (Γ : Nat -> PT) : Prop := ∀ (J : Sg) (i : Int) (size m : Nat), Rd J (20 + m) -> YL J -> 0 <= i -> i < 4 -> 2 <= size -> size <= 273 ->
 Wr Γ 78 [.obj 5 61, .tup [.str 2, .int i, .int size]] J (Kg J.pb J.stt J.plc i size) 0 m (if J.stt < 7 then 8 else 11) (J.plc + size)
theorem ae (h44 : HE Γ) : gx (Nx Γ) := by
 intro J i size m rd pre i0 i1 z0 z1 k h
 refine ⟨rfl, ?_⟩
 walk_at "g"
 refine h44 J i size m rd pre i0 i1 z0 z1 _ λ J1 a b c d go1 rd1 ok => ?_
 walk_at "g"
 exact h J1 a b c d go1 rd1 ok
noncomputable def gw (Γ : Nat -> PT) : Prop := ∀ (J : Sg) (m : Nat), Rd J (4 + m) -> YL J -> Wr Γ 78 [.obj 5 61, .tup [.str 3]] J (Qh J.pb J.stt J.plc) 0 m (if J.stt < 7 then 9 else 11) (J.plc + 1)
theorem ab (h45 : HD Γ) : gw (Nx Γ) := by
 intro J m rd pre k h
 refine ⟨rfl, ?_⟩
 walk_at "g"
 refine h45 J m rd pre _ λ J1 a b c d go1 rd1 ok => ?_
 walk_at "g"
 exact h J1 a b c d go1 rd1 ok
noncomputable def gA (Γ : Nat -> PT) : Prop := ∀ (J : Sg) (r : List V) (m : Nat), Rd J (60 + m) -> YL J -> Wr Γ 78 [.obj 5 61, .tup (.str 5 :: r)] J (qF J.pb J.stt J.plc 4294967295 2) (zB 4294967295) m (if J.stt < 7 then 7 else 10) J.plc
theorem aj (h46 : HC Γ) : gA (Nx Γ) := by
 intro J r m rd pre k h
 refine ⟨rfl, ?_⟩
 walk_at "g"
 refine h46 J m rd pre _ λ J1 a b c d go1 rd1 ok => ?_
 walk_at "g"
 exact h J1 a b c d go1 rd1 ok
theorem uf (n : Nat) (h : n <= 1000) : HZ (eX (n : Int).toNat (#[UInt8.ofNat (97 : Int).toNat] : Array UInt8).toList).flatten.toArray n := by
 have e : (eX (n : Int).toNat (#[UInt8.ofNat (97 : Int).toNat] : Array UInt8).toList).flatten = eX n 97 := by
   rw [Ej]
   show (eX n [(97 : UInt8)]).flatten = _
   induction n with
   | zero => rfl
   | succ n ih => rw [lP, List.flatten_cons, ih (Nat.le_of_succ_le h)]; rfl
 rw [e]
 refine ⟨by simp, h, λ i hi => ?_⟩
 have hi : i < n := by simpa using hi
 simp [hi]
theorem Ad {x r : Int} : x + 28 <= x + 4 + r <-> 24 <= r := by omega
noncomputable def Hq (Γ : Nat -> PT) : Prop := ∀ (J : Sg) (N size m : Nat) (room : Int), Rd J (60 + m) -> YL J -> N < 9 -> 2 <= size -> size <= 40 -> 24 <= room -> room <= 40 ->
 rk Γ 79 [.obj 5 61, .tup [.str 4, .int (N + 1), .int size, .int room]] J (qF J.pb J.stt J.plc N size) (zB N) m (if J.stt < 7 then 7 else 10) (J.plc + size) (.bool true)
theorem AR (h62 : yj Γ) (h50 : Hz Γ) : Hq (Nx Γ) := by
 intro J N size m room rd pre hN z0 z1 r0 r1 k h
 have hn := rd.n
 refine ⟨rfl, ?_⟩
 walk_at "g"
 refine h62 J _ _ rd.ri.cl (CM (CM (CQ nn) hn) (by decide)) rd.ri.h1 ?_
 walk_at "g"
 have en : ((N : Int) + 1 + size) = ((N + 1 + size : Nat) : Int) := rfl
 have sm := uf (N + 1 + size) (CK (Ek (II hN) z1) (by decide))
 rw [<- en] at sm
 refine h50 J N size m _ _ rd pre sm z0 (CK z1 (by decide)) (Ad.mpr r0) _ λ J1 a b c d go1 rd1 ok => ?_
 have hn1 := rd1.n
 have gr := go1.grow rd.ri rd.f (JX J.pb J.stt J.plc N size hN).1
 walk_at "g"
 refine h62 _ _ _ rd1.ri.cl (CM (CM (CQ (by decide : (0 : Int) <= 1)) gr) (CM (eD (CM (CQ nn) hn) 17) (by decide))) rd1.ri.h1 ?_
 have c2 : ((J1.n : Int) + J1.held + 4) <= (J.n + J.held + 4 + room) := by omega
 walk_at "g"
 exact h J1 a b c d go1 rd1 ok
noncomputable def gu (Γ : Nat -> PT) : Prop := ∀ (J : Sg) (N size m : Nat) (room : Int) (k : V -> Mu -> Prop), Rd J m -> N < 9 -> 2 <= size -> size <= 40 -> 0 <= room -> room < 24 -> k (.bool true) (st J) ->
 Γ 79 [.obj 5 61, .tup [.str 4, .int (N + 1), .int size, .int room]] (st J) k
theorem RZ (h62 : yj Γ) (h50 : gQ Γ) : gu (Nx Γ) := by
 intro J N size m room k rd hN z0 z1 r0 r1 h
 have hn := rd.n
 refine ⟨rfl, ?_⟩
 walk_at "g"
 refine h62 J _ _ rd.ri.cl (CM (CM (CQ nn) hn) (by decide)) rd.ri.h1 ?_
 walk_at "g"
 refine h50 J N size m _ _ _ rd z0 (CK z1 (by decide)) (λ q => Int.not_le.mpr r1 (Ad.mp q)) ?_
 walk_at "g"
 refine h62 J _ _ rd.ri.cl (CM (CM (CQ nn) hn) (by decide)) rd.ri.h1 ?_
 walk_at "g"
 exact h
noncomputable def Sg.mn (J : Sg) (s p : Int) : Sg := { J with mst := s, mpl := p }
theorem Hn {s : Int} (h0 : 0 <= s) (h1 : s < 12) : qj [V.int 0, .int 0, .int 0, .int 0, .int 1, .int 2, .int 3, .int 4, .int 5, .int 6, .int 4, .int 5] s.toNat = some (.int (KI s)) := by
 have : s = 0 \/ s = 1 \/ s = 2 \/ s = 3 \/ s = 4 \/ s = 5 \/ s = 6 \/ s = 7 \/ s = 8 \/ s = 9 \/ s = 10 \/ s = 11 := by walk_at "z"
 rcases this with rfl | rfl | rfl | rfl | rfl | rfl | rfl | rfl | rfl | rfl | rfl | rfl <;> rfl
noncomputable def gq (Γ : Nat -> PT) : Prop := ∀ (J : Sg) (r : List V) (k : V -> Mu -> Prop), 0 <= J.mst -> J.mst < 12 -> k .none (st (J.mn (KI J.mst) (J.mpl + 1))) -> Γ 81 [.h 1, .tup (.str 0 :: r)] (st J) k
theorem RY : gq (Nx Γ) := by
 intro J r k h0 h1 h
 refine ⟨rfl, ?_⟩
 by_cases c : J.mst < 7
 all_goals
   walk_at "g"
   refine ⟨_, Hn h0 h1, ?_⟩
   walk_at "g"
   exact h
noncomputable def vU (Γ : Nat -> PT) : Prop := ∀ (J : Sg) (w : Nat) (x size : Int) (r : List V) (k : V -> Mu -> Prop), (w = 1 \/ w = 2 \/ w = 4 \/ w = 5) -> 0 <= J.mst -> J.mst < 12 ->
 k .none (st (J.mn (if w = 2 then (if J.mst < 7 then 8 else 11) else (if J.mst < 7 then 7 else 10)) (J.mpl + (if w = 5 then 0 else size)))) -> Γ 81 [.h 1, .tup (.str w :: .int x :: .int size :: r)] (st J) k
theorem AP : vU (Nx Γ) := by
 intro J w x size r k hw h0 h1 h
 refine ⟨rfl, ?_⟩
 by_cases c : J.mst < 7
 · simp only [if_pos c] at h
   rcases hw with rfl | rfl | rfl | rfl
   all_goals
     walk_at "g"
     exact h
 · simp only [if_neg c] at h
   rcases hw with rfl | rfl | rfl | rfl
   all_goals
     walk_at "g"
     exact h
noncomputable def gk (Γ : Nat -> PT) : Prop := ∀ (J : Sg) (k : V -> Mu -> Prop), 0 <= J.mst -> J.mst < 12 -> k .none (st (J.mn (if J.mst < 7 then 9 else 11) (J.mpl + 1))) -> Γ 81 [.h 1, .tup [.str 3]] (st J) k
theorem RX : gk (Nx Γ) := by
 intro J k h0 h1 h
 refine ⟨rfl, ?_⟩
 by_cases c : J.mst < 7
 · rw [if_pos c] at h
   walk_at "g"
   exact h
 · rw [if_neg c] at h
   walk_at "g"
   exact h
end
noncomputable def ou (x : qX) : Nat × Int := (x.1, x.2.1)
noncomputable def vX (L : List qX) : Prop := (L.map ou).Nodup
structure DI (L : List qX) (a b : Nat) : Prop where
 d : vX L
 i : ∀ x ∈ L, a <= x.1 /\ x.1 <= b
theorem kU (f : Nat -> Int -> Int) (x : qX) {s : Nat} {i : Int} (h : (s, i) ≠ ou x) : Qi f x s i = f s i := by
 unfold Qi
 by_cases e : s = x.1
 · rw [if_pos e]
   rw [e]; exact if_neg λ q => h (Prod.ext e q)
 · rw [if_neg e]
theorem Jz : ∀ (L : List qX) (f : Nat -> Int -> Int) (s : Nat) (i : Int), (s, i) ∉ L.map ou -> Zi f L s i = f s i
 | [], _, _, _, _ => rfl
 | x :: L, f, s, i, h => (Jz L _ s i λ q => h (CY _ q)).trans (kU f x λ q => h (q ▸ CZ ..))
theorem GJ (f : Nat -> Int -> Int) (x : qX) : Qi f x x.1 x.2.1 = nx (f x.1 x.2.1) x.2.2 := by
 unfold Qi
 rw [if_pos rfl]
 exact if_pos rfl
theorem vX.cons {x : qX} {L : List qX} (h : vX (x :: L)) : (∀ y ∈ L, (y.1, y.2.1) ≠ ou x) /\ vX L :=
 have h := eO.mp h
 ⟨λ y hy e => h.1 (e ▸ CU.mpr ⟨y, hy, rfl⟩), h.2⟩
theorem wy : ∀ (L : List qX) (f : Nat -> Int -> Int), vX L -> ∀ x ∈ L, Zi f L x.1 x.2.1 = nx (f x.1 x.2.1) x.2.2
 | y :: L, f, h, x, hx => (eV.mp hx).elim (λ e => e ▸ (Jz L _ _ _ (eO.mp h).1).trans (GJ f y)) λ hx =>
   kU f y (h.cons.1 x hx) ▸ wy L (Qi f y) h.cons.2 x hx
theorem Vg : ∀ (L : List qX) (f : Nat -> Int -> Int), vX L -> WD f L = L.map (KD f)
 | [], _, _ => rfl
 | y :: L, f, h => congrArg (KD f y :: ·) ((Vg L (Qi f y) h.cons.2).trans (EU λ x hx => by rw [KD, kU f y (h.cons.1 x hx)]; rfl))
section
variable {L M : List qX} {a b c d : Nat}
theorem DI.app (x : DI L a b) (y : DI M c d) (h : b < c \/ d < a) : DI (L ++ M) (min a c) (max b d) := by
 refine ⟨?_, λ z hz => (CS.mp hz).elim (λ h => ⟨CK (Nat.min_le_left ..) (x.i z h).1, CK (x.i z h).2 (Nat.le_max_left ..)⟩) λ h => ⟨CK (Nat.min_le_right ..) (y.i z h).1, CK (y.i z h).2 (Nat.le_max_right ..)⟩⟩
 rw [vX, eK, Ep]
 refine ⟨x.d, y.d, λ u hu v hv e => ?_⟩
 obtain ⟨p, hp, rfl⟩ := CU.mp hu
 obtain ⟨q, hq, rfl⟩ := CU.mp hv
 have e1 : p.1 = q.1 := congrArg (λ z : Nat × Int => z.1) e
 have a1 := e1 ▸ x.i p hp
 have a2 := y.i q hq
 exact h.elim (λ h => absurd (CK a2.1 a1.2) (Nat.not_le.mpr h)) λ h => absurd (CK a1.1 a2.2) (Nat.not_le.mpr h)
theorem DI.one (s : Nat) (i j : Int) : DI [(s, i, j)] s s := ⟨eO.mpr ⟨Im, Ih⟩, λ y h => eS.mp h ▸ ⟨Ex _, Ex _⟩⟩
theorem DI.cons {s : Nat} {i j : Int} (y : DI L a b) (h : s < a \/ b < s) : DI ((s, i, j) :: L) (min s a) (max s b) := (DI.one s i j).app y h
theorem DI.le {c d : Nat} (y : DI L a b) (h : c <= a) (h' : b <= d) : DI L c d := ⟨y.d, λ x hx => ⟨CK h (y.i x hx).1, CK (y.i x hx).2 h'⟩⟩
end
theorem xj {α β : Type} {f : α -> β} : ∀ {l : List α}, (∀ x ∈ l, ∀ y ∈ l, f x = f y -> x = y) -> l.Nodup -> (l.map f).Nodup
 | [], _, _ => Ih
 | x :: l, h, n =>
   have n := eO.mp n
   eO.mpr ⟨λ q => by
     obtain ⟨y, hy, e⟩ := CU.mp q
     exact n.1 (h y (CY _ hy) x (CZ ..) e ▸ hy), xj (λ y hy z hz => h y (CY _ hy) z (CY _ hz)) n.2⟩
theorem YZ {n s : Nat} {g : Nat -> qX} (h : ∀ i j, i < n -> j < n -> ou (g i) = ou (g j) -> i = j) (hs : ∀ i, (g i).1 = s) : DI ((eQ n).map g) s s :=
 ⟨by
   rw [vX, io]
   exact xj (λ x hx y hy e => h x y (Ez.mp hx) (Ez.mp hy) e) List.nodup_range, λ x hx => by
   obtain ⟨j, -, rfl⟩ := CU.mp hx
   exact ⟨EQ (hs j).symm, EQ (hs j)⟩⟩
theorem wO {c v j : Nat} (hv : v < 2 ^ c) (hj : j < c) : 2 ^ j <= (2 ^ c + v) / 2 ^ (c - j) /\ (2 ^ c + v) / 2 ^ (c - j) < 2 ^ (j + 1) := by
 have p := EY (c - j)
 have e := Nat.add_sub_cancel' (eP hj)
 rw [lC p, iI p, <- Ir, <- Ir, ib, e, iC, Nat.mul_two]
 exact ⟨Eo .., iX hv _⟩
theorem wN {c v i j : Nat} (hv : v < 2 ^ c) (hi : i < c) (hj : j < c) (e : (2 ^ c + v) / 2 ^ (c - i) = (2 ^ c + v) / 2 ^ (c - j)) : i <= j :=
 eJ ((Nat.pow_lt_pow_iff_right (by decide)).mp (eE (wO hv hi).1 (e ▸ (wO hv hj).2)))
theorem xE {c v i j : Nat} (hv : v < 2 ^ c) (hi : i < c) (hj : j < c) (e : (2 ^ c + v) / 2 ^ (c - i) = (2 ^ c + v) / 2 ^ (c - j)) : i = j := Nat.le_antisymm (wN hv hi hj e) (wN hv hj hi e.symm)
theorem zV {s : Nat} {start : Int} {c v : Nat} (hv : v < 2 ^ c) : DI (zK s start c v) s s :=
 YZ (λ _ _ hi hj e => xE hv hi hj (Int.ofNat.inj (Int.add_left_cancel (congrArg Prod.snd e)))) λ _ => rfl
theorem kQ {n a b : Nat} (h : ¬ n < a) (h' : n < b + a) : n - a < b := EN (Ea.mp h) h'
theorem wM (a : Nat) (spot : Int) {size : Nat} (h0 : 2 <= size) (h1 : size <= 273) : DI (yw a spot size) a (a + 3) := by
 have w : ∀ {L : List qX} {k : Nat}, k < 3 -> DI L (a + (k + 1)) (a + (k + 1)) -> ∀ i j, DI ((a, i, j) :: L) a (a + 3) := λ hk y i j =>
   (DI.cons y (.inl (Ie (iS _)))).le (Nat.le_min.mpr ⟨Ex _, Eo ..⟩) (Nat.max_le.mpr ⟨Eo .., Em (II hk) _⟩)
 have w2 : ∀ {L : List qX} {k : Nat}, k < 3 -> DI L (a + (k + 1)) (a + (k + 1)) -> ∀ j i', DI ((a, 0, j) :: (a, 1, i') :: L) a (a + 3) := λ hk y j i' =>
   have z := w hk y 1 i'
   ⟨eO.mpr ⟨λ q => (eV.mp q).elim (λ q => (show ¬ (0 : Int) = 1 by decide) (congrArg Prod.snd q) |>.elim) λ q => by
     obtain ⟨x, hx, e⟩ := CU.mp q
     exact Nat.not_succ_le_self a (CK (Em (ia (Ew _)) a) (congrArg Prod.fst e ▸ (y.i x hx).1)), z.d⟩, λ x hx => (eV.mp hx).elim (λ e => e ▸ ⟨Ex _, Eo ..⟩) (z.i x)⟩
 unfold yw
 by_cases c1 : size < 10
 · rw [if_pos c1]
   exact w (by decide) (zV (EN h0 c1)) _ _
 · rw [if_neg c1]
   by_cases c2 : size < 18
   · rw [if_pos c2]
     exact w2 (by decide) (zV (kQ c1 c2)) _ _
   · rw [if_neg c2]
     exact w2 (by decide) (zV (kQ c2 (im h1))) _ _
theorem kR {N : Nat} (h : N < 2 ^ 32) : qu N < 2 ^ 6 := by
 by_cases h4 : N < 4
 · rw [qu, zg h4, ln, IL, Nat.mul_zero, ig]; exact CV h4 (by decide)
 · exact kS (Ea.mp h4) h
theorem Be {N size : Nat} (h : N < 2 ^ 32) : DI (ji N size) 11 13 := by
 unfold ji uo
 by_cases c : 5 < mr N
 · rw [if_pos c]; exact (zV (kR h)).app (zV (Zo _ _)) (.inl (by decide))
 · rw [if_neg c]; exact ((zV (kR h)).app (zV (Zo _ _)) (.inl (by decide))).le (by decide) (by decide)
theorem Zp (pb : Nat) (s p : Int) {N size : Nat} (h : N < 2 ^ 32) (h0 : 2 <= size) (h1 : size <= 273) : vX (qF pb s p N size) :=
 (DI.cons (((wM 20 (p % 2 ^ pb) h0 h1).app (Be (size := size) h) (.inr (by decide))).cons (.inl (by decide))) (.inl (by decide))).d
theorem VY (pb : Nat) (s p i : Int) : DI (jS pb s p i) 6 9 := by
 unfold jS
 by_cases c : i = 0
 · rw [if_pos c]; exact (DI.one ..).cons (.inl (by decide))
 · rw [if_neg c]
   by_cases d : i = 1
   · rw [if_pos d]; exact ((DI.one ..).cons (.inl (by decide))).le (by decide) (by decide)
   · rw [if_neg d]; exact (((DI.one ..).cons (.inl (by decide))).cons (.inl (by decide))).le (by decide) (by decide)
theorem bc (pb : Nat) (s p i : Int) {size : Nat} (h0 : 2 <= size) (h1 : size <= 273) : vX (Kg pb s p i size) :=
 (DI.cons (((VY ..).app (wM 24 (p % 2 ^ pb) h0 h1) (.inl (by decide))).cons (.inl (by decide))) (.inl (by decide))).d
theorem Vt (pb : Nat) (s p : Int) : vX (Qh pb s p) := ((((DI.one ..).cons (.inl (by decide))).cons (.inl (by decide))).cons (.inl (by decide))).d
theorem JI (o : Nat) (b : Option Nat) (t : Nat) : ∃ q, q <= 2 /\ more o b t = 256 * q := by
 cases b with
 | none => exact ⟨0, by decide, rfl⟩
 | some b =>
   by_cases c : o / 2 ^ (t + 1) = b / 2 ^ (t + 1)
   · exact ⟨_, Em (eJ (iN _ (by decide))) 1, if_pos c⟩
   · exact ⟨0, by decide, if_neg c⟩
theorem bK (start : Int) {o : Nat} (b : Option Nat) (ho : o < 256) : DI (jh start o b) 10 10 := by
 refine YZ (λ i j hi hj e => xE (c := 8) (v := o) ho hi hj ?_) λ _ => rfl
 obtain ⟨q, -, hq⟩ := JI o b (7 - i)
 obtain ⟨r, -, hr⟩ := JI o b (7 - j)
 have e2 : start + (((256 + o) / 2 ^ (8 - i) : Nat) : Int) + (more o b (7 - i) : Nat) = start + (((256 + o) / 2 ^ (8 - j) : Nat) : Int) + (more o b (7 - j) : Nat) := congrArg Prod.snd e
 rw [En, En, hq, hr] at e2
 have l1 := Yb (c := 8 - i) ho (Ei hi)
 have l2 := Yb (c := 8 - j) ho (Ei hj)
 have m := congrArg (· % 256) (Int.ofNat.inj (Int.add_left_cancel e2 : (((256 + o) / 2 ^ (8 - i) + 256 * q : Nat) : Int) = ((256 + o) / 2 ^ (8 - j) + 256 * r : Nat)))
 rw [Nat.add_mul_mod_self_left, Nat.add_mul_mod_self_left, Nat.mod_eq_of_lt l1, Nat.mod_eq_of_lt l2] at m
 exact m
theorem bH (lc lp pb : Nat) (s p : Int) {o : Nat} (b m : Nat) (ho : o < 256) : vX (ZS lc lp pb s p o b m) := ((bK _ _ ho).cons (.inl (by decide))).d
noncomputable def ZM (J : Sg) (L : List qX) : Prop := ∀ x ∈ L, oa J x
section
variable {J : Sg} {L M : List qX} {x : qX}
theorem ZM.app (a : ZM J L) (b : ZM J M) : ZM J (L ++ M) := λ x hx => (CS.mp hx).elim (a x) (b x)
theorem ZM.cons (a : oa J x) (b : ZM J M) : ZM J (x :: M) := λ y hy => (eV.mp hy).elim (λ e => e ▸ a) (b y)
theorem ZM.nil : ZM J [] := λ _ h => nomatch h
variable {s N size : Nat} {start p i : Int} {c v : Nat}
theorem yI (hs : s ∈ YA) (hv : v < 2 ^ c) (h0 : 0 <= start) (h1 : start + 2 ^ c <= sz J.lc J.lp J.pb s) : ZM J (zK s start c v) := λ x hx => by
 rw [zK, zZ] at hx
 obtain ⟨j, hj, rfl⟩ := CU.mp hx
 have ll := QS hv (Ei (Ez.mp hj))
 exact jt hs (Eg h0 nn) (eI (EX (zp c ▸ Yp ll) _) h1) (Vo _)
theorem uY {a : Nat} (ha : a = 20 \/ a = 24) (h0 : 2 <= size) (h1 : size <= 273) : ZM J (yw a (p % 2 ^ J.pb) size) := by
 obtain ⟨q0, q1⟩ := QE p J.pb
 have q2 : 0 <= 8 * (p % 2 ^ J.pb) := Eu (by decide) q0
 have q3 : 8 * (p % 2 ^ J.pb) + 2 ^ 3 <= 8 * 2 ^ J.pb := Int.mul_add 8 (p % 2 ^ J.pb) 1 ▸ eH (iR q1) (by decide)
 have ok : ∀ a, a = 20 \/ a = 24 -> a ∈ YA /\ a + 1 ∈ YA /\ a + 2 ∈ YA /\ a + 3 ∈ YA /\ sz J.lc J.lp J.pb a = 2 /\ sz J.lc J.lp J.pb (a + 1) = 8 * 2 ^ J.pb /\ sz J.lc J.lp J.pb (a + 2) = 8 * 2 ^ J.pb /\ sz J.lc J.lp J.pb (a + 3) = 256 := λ a ha => ha.elim
   (λ e => e ▸ ⟨by decide, by decide, by decide, by decide, rfl, rfl, rfl, rfl⟩) λ e => e ▸ ⟨by decide, by decide, by decide, by decide, rfl, rfl, rfl, rfl⟩
 obtain ⟨k0, k1, k2, k3, z0, z1, z2, z3⟩ := ok a ha
 have b0 : ∀ j, j = 0 \/ j = 1 -> oa J (a, 0, j) := λ j h => jt k0 (by decide) (z0.symm ▸ by decide) h
 have b1 : ∀ j, j = 0 \/ j = 1 -> oa J (a, 1, j) := λ j h => jt k0 (by decide) (z0.symm ▸ by decide) h
 unfold yw
 by_cases c1 : size < 10
 · rw [if_pos c1]
   exact .cons (b0 _ (.inl rfl)) (yI k1 (EN h0 c1) q2 (z1.symm ▸ q3))
 · rw [if_neg c1]
   by_cases c2 : size < 18
   · rw [if_pos c2]
     exact .cons (b0 _ (.inr rfl)) (.cons (b1 _ (.inl rfl)) (yI k2 (kQ c1 c2) q2 (z2.symm ▸ q3)))
   · rw [if_neg c2]
     exact .cons (b0 _ (.inr rfl)) (.cons (b1 _ (.inr rfl)) (yI k3 (kQ c2 (im h1)) (by decide) (z3.symm ▸ by decide)))
theorem Fp (h : N < 2 ^ 32) (h2 : 2 <= size) : ZM J (ji N size) := by
 obtain ⟨g0, g1⟩ := dy (iq.mpr (Qt h2))
 unfold ji uo
 refine ZM.app (yI (by decide) (kR h) g0 g1) ?_
 by_cases n5 : 5 < mr N
 · rw [if_pos n5]; exact yI (by decide) (Zo _ _) (by decide) (IP 16)
 · rw [if_neg n5]
   by_cases h4 : N < 4
   · rw [zg h4]; exact ZM.nil
   · obtain ⟨s4, sd, -⟩ := XG (Ea.mp h4)
     obtain ⟨-, b1, b2⟩ := ga _ ((wq (Ea.mp h4)).mpr n5) s4
     exact yI (by decide) (Zo _ _) b1 (sd ▸ b2)
variable {s : Int}
theorem JJ (hp : J.pb <= 4) (s0 : 0 <= s) (s1 : s < 12) (h : N < 2 ^ 32) (h0 : 2 <= size) (h1 : size <= 273) : ZM J (qF J.pb s p N size) :=
 have ⟨c0, c1, _⟩ := zO (p := p) hp s0 s1
 .cons (jt (by decide) c0 c1 (.inr rfl)) (.cons (jt (by decide) s0 s1 (.inl rfl)) (.app (uY (.inl rfl) h0 h1) (Fp h h0)))
theorem fA (hp : J.pb <= 4) (s0 : 0 <= s) (s1 : s < 12) (i0 : 0 <= i) (i1 : i < 4) (h0 : 2 <= size) (h1 : size <= 273) : ZM J (Kg J.pb s p i size) := by
 obtain ⟨c0, c1, -⟩ := zO (p := p) hp s0 s1
 refine .cons (jt (by decide) c0 c1 (.inr rfl)) (.cons (jt (by decide) s0 s1 (.inr rfl)) (.app ?_ (uY (.inr rfl) h0 h1)))
 unfold jS
 by_cases c : i = 0
 · rw [if_pos c]; exact .cons (jt (by decide) s0 s1 (.inl rfl)) (.cons (jt (by decide) c0 c1 (.inr rfl)) .nil)
 · rw [if_neg c]
   by_cases d : i = 1
   · rw [if_pos d]; exact .cons (jt (by decide) s0 s1 (.inr rfl)) (.cons (jt (by decide) s0 s1 (.inl rfl)) .nil)
   · rw [if_neg d]; exact .cons (jt (by decide) s0 s1 (.inr rfl)) (.cons (jt (by decide) s0 s1 (.inr rfl)) (.cons (jt (by decide) s0 s1 (by omega)) .nil))
theorem WZ (hp : J.pb <= 4) (s0 : 0 <= s) (s1 : s < 12) : ZM J (Qh J.pb s p) :=
 have ⟨c0, c1, _⟩ := zO (p := p) hp s0 s1
 .cons (jt (by decide) c0 c1 (.inr rfl)) (.cons (jt (by decide) s0 s1 (.inr rfl)) (.cons (jt (by decide) s0 s1 (.inl rfl)) (.cons (jt (by decide) c0 c1 (.inl rfl)) .nil)))
theorem bG {o b m : Nat} (hlc : J.lc <= 8) (hp : J.pb <= 4) (s0 : 0 <= s) (s1 : s < 12) (ho : o < 256) (hb : b < 256) : ZM J (ZS J.lc J.lp J.pb s p o b m) := by
 obtain ⟨c0, c1, -⟩ := zO (p := p) hp s0 s1
 obtain ⟨l0, l1⟩ := uT (p := p) (lp := J.lp) hlc hb
 refine .cons (jt (by decide) c0 c1 (.inl rfl)) λ x hx => ?_
 unfold jh at hx
 obtain ⟨j, hj, rfl⟩ := CU.mp hx
 have l2 := Yb (c := 8 - j) ho (Ei (Ez.mp hj))
 obtain ⟨q, q2, l3⟩ := JI o (if s < 7 then none else some m) (7 - j)
 rw [l3]
 refine jt (by decide) (Eg (Eg l0 nn) nn) (eI ?_ l1) (Vo _)
 rw [En]
 exact EX (Yp (Nat.add_lt_add_of_lt_of_le l2 (Et 256 q2))) _
end
theorem Dn : ∀ o < 256, ∀ t < 8, 2 * (o &&& 2 ^ t) <= o + 2 ^ t /\ o + 2 ^ t - 2 * (o &&& 2 ^ t) < 256 := by decide +kernel
theorem WN {P : Int -> Prop} {x y z b : Int} (h0 : 0 <= b) (h1 : b < 3) (hx : P x) (hy : P y) (hz : P z) : ∃ v, qj [V.int x, .int y, .int z] b.toNat = some (.int v) /\ P v := by
 obtain ⟨n, rfl⟩ := ew h0
 rcases (by decide : ∀ n, n < 3 -> n = 0 \/ n = 1 \/ n = 2) n (eG.mp h1) with rfl | rfl | rfl
 · exact ⟨_, rfl, hx⟩
 · exact ⟨_, rfl, hy⟩
 · exact ⟨_, rfl, hz⟩
section
variable {Γ : Nat -> PT}
theorem aW {m a b : Nat} (h : eY a b = true) : m + a <= m + b := Em (CR h) m
noncomputable def gI (Γ : Nat -> PT) : Prop := ∀ (J : Sg) (m : Nat) (k : V -> Mu -> Prop), Ur J (m + 10) -> (∀ (N s : Nat) d c, N < 4294967295 -> 2 <= s -> s <= 273 -> Ur (J.ur d c) m -> k (.tup [.str 1, .int (N + 1), .int s]) (st (J.ur d c))) -> Γ 69 [.h 0, .str 1] (st J) k
theorem ay (h67 : Hv Γ) (h68 : BH Γ) : gI (Nx Γ) := by
 intro J m k u h
 refine ⟨rfl, ?_⟩
 walk_at "g"
 refine h67 J (m + 6) _ u λ N d c hN u1 => ?_
 walk_at "g"
 refine h68 _ m _ (u1.le (aW rfl)) λ s d2 c2 s0 s1 u2 => ?_
 walk_at "h"
 exact h N s d2 c2 hN s0 s1 u2
noncomputable def gH (Γ : Nat -> PT) : Prop := ∀ (J : Sg) (m : Nat) (k : V -> Mu -> Prop), Ur J (m + 10) -> (∀ (N s : Nat) (r d c : Int), N < 9 -> 2 <= s -> s <= 40 -> 0 <= r -> r <= 40 -> Ur (J.ur d c) m -> k (.tup [.str 4, .int (N + 1), .int s, .int r]) (st (J.ur d c))) -> Γ 69 [.h 0, .str 4] (st J) k
theorem aw (tk : Tk Γ) : gH (Nx Γ) := by
 intro J m k u h
 refine ⟨rfl, ?_⟩
 walk_at "g"
 refine tk J (m + 9) 9 _ u (by decide) (by decide) λ r d c r0 r1 u1 => ?_
 walk_at "g"
 refine tk _ (m + 8) 39 _ u1 (by decide) (by decide) λ q d1 c1 q0 q1 u2 => ?_
 walk_at "g"
 refine tk _ (m + 7) 41 _ u2 (by decide) (by decide) λ t d2 c2 t0 t1 u3 => ?_
 obtain ⟨N, rfl⟩ := ew r0
 obtain ⟨S, rfl⟩ := ew q0
 have := h N (S + 2) t d2 c2 (eG.mp r1) (Ed ..) (CX (eJ (eG.mp q1)) 2) t0 (eU t1) (u3.le (Eo ..))
 rw [iz, show ((S + 2 : Nat) : Int) = 2 + S from iz (S : Int) 2] at this
 walk_at "h"
 exact this
noncomputable def gG (Γ : Nat -> PT) : Prop := ∀ (J : Sg) (m : Nat) (k : V -> Mu -> Prop), Ur J (m + 10) -> (∀ (i : Int) (s : Nat) d c, 0 <= i -> i < 4 -> 2 <= s -> s <= 273 -> Ur (J.ur d c) m -> k (.tup [.str 2, .int i, .int s]) (st (J.ur d c))) -> Γ 69 [.h 0, .str 2] (st J) k
theorem av (tk : Tk Γ) (h68 : BH Γ) : gG (Nx Γ) := by
 intro J m k u h
 refine ⟨rfl, ?_⟩
 walk_at "g"
 refine tk J (m + 9) 4 _ u (by decide) (by decide) λ r d c r0 r1 u1 => ?_
 walk_at "g"
 refine h68 _ m _ (u1.le (aW rfl)) λ s d2 c2 s0 s1 u2 => ?_
 walk_at "h"
 exact h r s d2 c2 r0 r1 s0 s1 u2
noncomputable def gF (Γ : Nat -> PT) : Prop := ∀ (U : Mu) (k : V -> Mu -> Prop), k (.tup [.str 3]) U -> Γ 69 [.h 0, .str 3] U k
theorem au : gF (Nx Γ) := by
 intro U k h
 refine ⟨rfl, ?_⟩
 walk_at "h"
 exact h
noncomputable def gK (Γ : Nat -> PT) : Prop := ∀ (U : Mu) (k : V -> Mu -> Prop), k (.tup [.str 5, .int 4294967296, .int 2]) U -> Γ 69 [.h 0, .str 5] U k
theorem aA : gK (Nx Γ) := by
 intro U k h
 refine ⟨rfl, ?_⟩
 walk_at "h"
 exact h
noncomputable def gJ (Γ : Nat -> PT) : Prop := ∀ (J : Sg) (m : Nat) (k : V -> Mu -> Prop), Ur J (m + 10) -> (∀ (o b t : Nat) d c, o < 256 -> b < 256 -> t < 256 -> Ur (J.ur d c) m -> k (.tup [.str 0, .int o, .int b, .int t]) (st (J.ur d c))) -> Γ 69 [.h 0, .str 0] (st J) k
theorem az (tk : Tk Γ) : gJ (Nx Γ) := by
 intro J m k u h
 refine ⟨rfl, ?_⟩
 walk_at "g"
 refine tk J (m + 9) 256 _ u (by decide) (by decide) λ r d c r0 r1 u1 => ?_
 walk_at "g"
 refine tk _ (m + 8) 256 _ u1 (by decide) (by decide) λ q d1 c1 q0 q1 u2 => ?_
 walk_at "g"
 refine tk _ (m + 7) 8 _ u2 (by decide) (by decide) λ t d2 c2 t0 t1 u3 => ?_
 have t2 : t <= 1000000 := CM (eC t1) (by decide)
 have pt := qi t.toNat
 have z0 : 0 <= r /\ (0 : Int) <= 1 * 2 ^ t.toNat := ⟨r0, Eu (by decide : (0 : Int) <= 1) (eC pt)⟩
 walk_at "g"
 refine tk _ (m + 6) 256 _ u3 (by decide) (by decide) λ w d3 c3 w0 w1 u4 => ?_
 walk_at "g"
 refine tk _ (m + 5) 3 _ u4 (by decide) (by decide) λ i d4 c4 i0 i1 u5 => ?_
 obtain ⟨o, rfl⟩ := ew r0
 obtain ⟨b, rfl⟩ := ew q0
 have i2 : i < 1000000 := ET i1 (by decide)
 obtain ⟨v, hv, z, rfl, z1⟩ := WN (P := λ v => ∃ z : Nat, v = z /\ z < 256) (x := (o : Int)) (y := (o : Int) + 1 * 2 ^ t.toNat - 2 * (((o : Int).toNat &&& (1 * 2 ^ t.toNat : Int).toNat : Nat) : Int)) (z := w) i0 i1 ⟨o, rfl, eG.mp r1⟩ (by
   obtain ⟨t, rfl⟩ := ew t0
   obtain ⟨x1, x2⟩ := Dn o (eG.mp r1) t (eG.mp t1)
   refine ⟨_, ?_, x2⟩
   rw [Ej, iB, zp]
   exact (Ev x1).symm) (by
   obtain ⟨w, rfl⟩ := ew w0
   exact ⟨w, rfl, eG.mp w1⟩)
 walk_at "l"
 refine zi rfl ⟨i0, i2⟩ ?_
 refine WB rfl hv ?_
 walk_at "h"
 exact h o b z d4 c4 (eG.mp r1) (eG.mp q1) z1 (u5.le (Eo ..))
end
structure Lv (J : Sg) (m : Nat) : Prop where
 rd : Rd J m
 ur : Ur J m
 pre : YL J
 ms : J.mst = J.stt
 mp : J.mpl = J.plc
noncomputable def S.tl : S -> S
 | .seq _ b => b
 | s => s
noncomputable def vK (s : S) (loc : List (Option V)) (U : Mu) (k : V -> Mu -> Prop) : VC := vS s loc U (λ _ U => .fin (k .none U)) (λ v U => .fin (k v U))
section
variable {Γ : Nat -> PT}
theorem wZ {β : Type} {f g : β -> V} {step : V -> Mu -> (V -> Mu -> VC) -> VC} {U : Mu} : ∀ {X : List β} {k : List V -> Mu -> VC}, (∀ x ∈ X, ∀ k : V -> Mu -> VC, Ok Γ (k (g x) U) -> Ok Γ (step (f x) U k)) -> Ok Γ (k (X.map g) U) -> Ok Γ (Qb step (X.map f) U k)
 | [], _, _, hk => hk
 | v :: r, _, hs, hk => hs v (CZ ..) _ (wZ (λ v hv => hs v (CY _ hv)) hk)
theorem yL {J : Sg} {L : List qX} {m : Nat} (rd : Rd J m) (ok : ZM J L) {a0 a1 a3 a4 a5 a6 a7 a8 a9 a10 a11 a12 a13 a14 a15 a16 a17 a18 a19 : Option V} {k : List V -> Mu -> VC} (h : Ok Γ (k (L.map λ x => .int (J.f x.1 x.2.1)) (st J))) :
   Ok Γ (Qb (λ v U k => Yh [18, 19, 17] false v [a0, a1, some (.h 63), a3, a4, a5, a6, a7, a8, a9, a10, a11, a12, a13, a14, a15, a16, a17, a18, a19] λ loc => vE loc (.sub (.sub (.loc 2) (.loc 18)) (.loc 19)) U k) (L.map bV) (st J) k) := by
 refine wZ (λ x hx k hk => ?_) h
 obtain ⟨os, o0, o1, ob⟩ := ok x hx
 walk_at "l"
 refine wA (Zj _ _ _ _ os) ?_
 walk_at "l"
 refine xn (JA J (kP J) _ os) ?_
 exact zi rfl ⟨rfl, rfl, o0, o1, eI o1 (CM (WO rd.lc rd.lp rd.pb _ os) (by decide)), QM J (kP J) _ os⟩ hk
end
theorem Ff {s1 s2 a b : Int} (h : s1 * a <= s2 * b) (hb : 0 < b) (x0 : 16777216 <= s1) (y1 : s2 < 4294967296) : a < 256 * b := by
 refine Int.not_le.mp λ q => ?_
 have h2 : s2 * b < 16777216 * 256 * b := iM y1 hb
 rw [EB] at h2
 exact Int.lt_irrefl _ (EA (CM (CM (eM x0 (Eu (by decide) (eC hb))) (eH q (CM (by decide) x0))) h) h2)
theorem Ds {s1 s2 a b : Int} (h : s2 * b <= s1 * a) (hb : 0 < b) (ha : 0 < a) (x1 : s1 < 4294967296) (y0 : 16777216 <= s2) : b < 256 * a := by
 have h2 : s1 * a < 16777216 * 256 * a := iM x1 ha
 rw [EB] at h2
 exact Int.lt_of_mul_lt_mul_left (EA (CM (eM y0 (eC hb)) h) h2) (by decide)
theorem wJ {L : List qX} {F : qX -> V} {i : Nat} (h : i < L.length) : qj (L.map F) (0 + (i : Int)).toNat = some (F L[i]) := by
 rw [qE, ik, Ej, eZ, ii h, Option.map]
theorem YT {L : List qX} (F : qX -> V) {i : Nat} (h : i < L.length) : (L.take i).map F ++ [F L[i]] = (L.take (i + 1)).map F := by
 rw [IM, ii h, eK]; rfl
section
variable {Γ : Nat -> PT}
noncomputable def um : List (Nat × V) := [(0, V.int 7), (3, .int 4), (2, .int 12), (4, .int 16), (5, .int 16), (1, .int 20)]
theorem oY (h80 : Ym Γ) {J1 J2 J3 : Sg} {L : List qX} {p G g : Nat} {w : Nat} {tv : List V} {s' p' : Int} {k : V -> Mu -> Prop}
   (rd1 : Rd J1 0) (go : Go J1 J2 L p) (g3 : J1.span * bF J1.f g L p <= J2.span * KL L.length p) (g4 : J2.span * Gf L.length p <= J1.span * Gh J1.f g L) (hgG : g <= G) (dst : vX L) (ok : ZM J1 L) (hl : L.length <= 40) (hp : p <= 40) (hG : G <= 24)
   (hm : qQ w um = some (.int G))
   (hbeh : ∀ k : V -> Mu -> Prop, k .none (st (J3.mn s' p')) -> Γ 81 [.h 1, .tup tv] (st J3) k)
   (h : k (.int g) (st (J3.mn s' p'))) :
   Ok Γ (vK qz.tl.tl.tl.tl.tl.tl.tl [some (.h 0), some (.obj 5 61), some (.h 63), some (.h 1), some (.str w), some (.tup tv), some (.lst (L.map bV)), some (.int p), some (.int (J1.n + J1.held + 4)), some (.lst (L.map λ x => .int (J1.f x.1 x.2.1))), some (.int g), some (.lst (L.map λ x => .int (nx (J1.f x.1 x.2.1) x.2.2))), none, none, none, none, none, none, none, none] (st J3) k) := by
 have hlb : (L.map bV).length = L.length := ee ..
 have e0 : (((L.map bV).length : Int) - 0).toNat = L.length := by rw [hlb]; exact congrArg Eb (Iz _)
 have Hj : ∀ {n : Nat}, L.length <= n + 40 := CK hl (Ed ..)
 walk_at "l"
 refine zi rfl (hlb.symm ▸ Hj (n := 999960)) ?_
 refine zi rfl ⟨by decide, hlb.symm ▸ Hj (n := 999999999960), e0.symm ▸ Hj (n := 999960)⟩ ?_
 refine VN rfl λ l hl' => ?_
 refine yo (α := List V × List V × Option V × Option V × Option V) (λ a => [some (.h 0), some (.obj 5 61), some (.h 63), some (.h 1), some (.str w), some (.tup tv), some (.lst (L.map bV)), some (.int p), some (.int (J1.n + J1.held + 4)), some (.lst (L.map λ x => .int (J1.f x.1 x.2.1))), some (.int g), some (.lst (L.map λ x => .int (nx (J1.f x.1 x.2.1) x.2.2))), some (.own a.1), some (.own a.2.1), a.2.2.1, none, a.2.2.2.1, a.2.2.2.2, none, none]) (λ _ => st J3) L.length hl' e0
   (λ i a => a.1 = (L.take i).map (λ x => .int (KD J1.f x)) /\ a.2.1 = (L.take i).map λ x => .int (nx (J1.f x.1 x.2.1) x.2.2)) ([], [], none, none, none) ⟨rfl, rfl⟩ (λ i a hi ⟨a1, a2⟩ k' hk' => ?_) λ a h1 => ?_
 · have n1 := wJ (F := λ x => .int (J1.f x.1 x.2.1)) hi
   have n2 := wJ (F := bV) hi
   have fin : ∀ (y c : Int) (d e : Option V), y = KD J1.f L[i] -> c = nx (J1.f L[i].1 L[i].2.1) L[i].2.2 -> _ := λ y c d e ey ec => hk' (a.1 ++ [.int y], a.2.1 ++ [.int c], some (.int (0 + (i : Int))), d, e) ⟨by rw [ey, a1]; exact YT (λ x => .int (KD J1.f x)) hi, by rw [ec, a2]; exact YT (λ x : qX => .int (nx (J1.f x.1 x.2.1) x.2.2)) hi⟩
   have ob := (ok L[i] (List.getElem_mem hi)).b
   have i0 : 0 <= 0 + (i : Int) := (ik (i : Int)).symm ▸ nn
   have hi' : i < 1000000 := CV hi (Hj (n := 999960))
   have i1 : 0 + (i : Int) < 1000000 := (ik (i : Int)).symm ▸ Yp hi'
   have l1 : a.1.length < 1000000 := by rw [a1, ee, List.length_take_of_le (eP hi)]; exact hi'
   have l2 : a.2.1.length < 1000000 := by rw [a2, ee, List.length_take_of_le (eP hi)]; exact hi'
   walk_at "l"
   refine zi rfl ⟨i0, i1⟩ ?_
   refine WB rfl n1 ?_
   refine zi rfl ⟨i0, i1⟩ ?_
   refine WB rfl n2 ?_
   refine zi rfl l1 ?_
   by_cases c : L[i].2.2 = 1
   · refine uE rfl c ?_
     refine zi rfl l2 ?_
     refine uE rfl c ?_
     walk_at "h"
     exact fin _ _ _ _ (if_pos c).symm (if_neg λ q => absurd (c.symm.trans q) (by decide)).symm
   · refine oq rfl c ?_
     refine zi rfl l2 ?_
     refine oq rfl c ?_
     walk_at "h"
     exact fin _ _ _ _ (if_neg c).symm (if_pos (ob.resolve_right c)).symm
 · obtain ⟨x, y, u⟩ := a
   obtain ⟨rfl, rfl⟩ : x = L.map (λ x => .int (KD J1.f x)) /\ y = L.map λ x => .int (nx (J1.f x.1 x.2.1) x.2.2) := by
     rw [iE (Ex _)] at h1; exact h1
   have ri1 := rd1.ri
   have ri2 := go.ri
   have lo := Ff g3 (Kt ..) ri1.s0 ri2.s1
   have up := Ds g4 (wc ..) (wd rd1.f ..) ri1.s1 ri2.s0
   unfold bF KL at lo
   unfold Gh Gf at up
   rw [Vg L J1.f dst] at lo up
   have q0 : (0 : Int) <= g := nn
   have q1 : (g : Int) <= (if (24 : Int) < (G : Int) then (24 : Int) else (G : Int)) := by
     rw [if_neg (ic.mpr (show (G : Int) <= 24 from Qt hG))]; exact Qt hgG
   walk_at "l"
   refine wA hm ?_
   walk_at "l"
   refine dq rfl (jc _ _) ?_
   refine dq rfl (jc _ _) ?_
   walk_at "g"
   rw [show (L.map λ x => V.int (KD J1.f x)) = (L.map (KD J1.f)).map V.int from (io ..).symm]
   refine h80 g p (L.map (KD J1.f)) L.length _ _ (ee ..) (Hj (n := 20)) (CK hp (by decide)) (CK hgG (CK hG (by decide))) (λ c hc => ?_) (by rw [EB (256 : Int)]; exact lo) ?_ ?_
   · obtain ⟨x, -, rfl⟩ := CU.mp hc
     have := vF rd1.f x
     exact ⟨CM (by decide) this.1, CM this.2 (by decide)⟩
   · rw [Int.pow_succ, ES _ 256, EB 256, EB 256]
     exact up
   · walk_at "g"
     refine hbeh _ ?_
     walk_at "h"
     exact h
noncomputable def Kd (w : Nat) (tv : List V) : Prop := (w = 0 \/ w = 1 \/ w = 2 \/ w = 3 \/ w = 5) \/ w = 4 /\ ∃ x y t r, tv = [x, y, t, .int r] /\ 24 <= r
theorem oW {w : Nat} {tv : List V} {a0 a1 a2 a3 a6 a7 a8 a9 a10 a11 a12 a13 a14 a15 a16 a17 a18 a19 : Option V} {U : Mu} {k : V -> Mu -> Prop} (hw : Kd w tv)
   (h : Ok Γ (vK qz.tl.tl.tl.tl.tl.tl.tl [a0, a1, a2, a3, some (.str w), some (.tup tv), a6, a7, a8, a9, a10, a11, a12, a13, a14, a15, a16, a17, a18, a19] U k)) :
   Ok Γ (vK qz.tl.tl.tl.tl.tl.tl [a0, a1, a2, a3, some (.str w), some (.tup tv), a6, a7, a8, a9, a10, a11, a12, a13, a14, a15, a16, a17, a18, a19] U k) := by
 rcases hw with (rfl | rfl | rfl | rfl | rfl) | ⟨rfl, x, y, t, r, rfl, hr⟩
 · exact h
 · exact h
 · exact h
 · exact h
 · exact h
 · exact oq rfl (ic.mpr hr) h
theorem oZ (h62 : yj Γ) (h80 : Ym Γ) {J1 J2 J3 : Sg} {L : List qX} {p G m : Nat} {w : Nat} {tv : List V} {a b c d s' p' : Int} {k : V -> Mu -> Prop}
   (rd1 : Rd J1 0) (go : Go J1 J2 L p) (rd2 : Rd J2 m) (e3 : J3 = (J2.reps a b c d).adv s' p') (dst : vX L) (ok : ZM J1 L) (hl : L.length <= 40) (hp : p <= 40) (hg : good L.length p (G + 1)) (hG : G <= 24)
   (hw : Kd w tv) (hm : qQ w um = some (.int G))
   (hbeh : ∀ k : V -> Mu -> Prop, k .none (st (J3.mn s' p')) -> Γ 81 [.h 1, .tup tv] (st J3) k)
   (h : ∀ g : Nat, (J2.n : Int) + J2.held = J1.n + J1.held + g -> k (.int g) (st (J3.mn s' p'))) :
   Ok Γ (vK qz.tl.tl.tl.tl.tl [some (.h 0), some (.obj 5 61), some (.h 63), some (.h 1), some (.str w), some (.tup tv), some (.lst (L.map bV)), some (.int p), some (.int (J1.n + J1.held + 4)), some (.lst (L.map λ x => .int (J1.f x.1 x.2.1))), none, none, none, none, none, none, none, none, none, none] (st J3) k) := by
 have rd3 : Rd J3 0 := by
   subst e3
   have r := rd2.le (Ew _)
   exact ⟨⟨r.ri.l0, r.ri.l1, r.ri.s0, r.ri.s1, r.ri.c0, r.ri.c1, r.ri.h1, r.ri.cl⟩, r.f, r.u, r.n, r.lc, r.lp, r.pb⟩
 have n3 : (J3.n : Int) + J3.held = J2.n + J2.held := by rw [e3]; rfl
 obtain ⟨q1, q2, q3⟩ := Qe go
 have ok3 : ZM J3 L := λ x hx =>
   have y := ok x hx
   ⟨y.s, y.i0, by rw [e3]; show _ < sz J2.lc J2.lp J2.pb _; rw [q1, q2, q3]; exact y.i1, y.b⟩
 have gr := go.grow rd1.ri rd1.f hg
 obtain ⟨⟨_, _, _, _, _, e2⟩, ri2, g, g1, g2, g3, g4⟩ := id go
 have hbe : (L.map λ x => V.int (J3.f x.1 x.2.1)) = L.map λ x => .int (nx (J1.f x.1 x.2.1) x.2.2) := by
   rw [e3, e2]
   exact EU λ x hx => congrArg V.int (wy L J1.f dst x hx)
 have eg : ((J3.n : Int) + J3.held + 4 - (J1.n + J1.held + 4)) = g := by rw [n3, g1]; omega
 have hgG : g <= G := by
   rw [g1, En] at gr
   exact eJ (eG.mp (Int.lt_of_add_one_le (Int.le_of_add_le_add_left gr)))
 walk_at "g"
 refine h62 J3 (kP J3) _ rd3.ri.cl (CM (CM (CQ nn) rd3.n) (by decide)) rd3.ri.h1 ?_
 walk_at "l"
 refine zi rfl ((ee ..).symm ▸ CK hl (by decide)) ?_
 refine VN rfl λ l hl' => ?_
 subst hl'
 refine yL rd3 ok3 ?_
 rw [hbe, eg]
 exact oW hw (oY h80 rd1 go g3 g4 hgG dst ok hl hp hG hm hbeh (h g g1))
end
theorem Rd.ur {J : Sg} {m : Nat} (r : Rd J m) (d c : Int) : Rd (J.ur d c) m := ⟨⟨r.ri.l0, r.ri.l1, r.ri.s0, r.ri.s1, r.ri.c0, r.ri.c1, r.ri.h1, r.ri.cl⟩, r.f, r.u, r.n, r.lc, r.lp, r.pb⟩
theorem Lv.next {J1 J2 : Sg} {L : List qX} {p m : Nat} {a b c d s' p' : Int} (ur1 : Ur J1 m) (go : Go J1 J2 L p) (rd2 : Rd J2 m) (ok : yG a b c d) (s0 : 0 <= s') (s1 : s' < 12) (p0 : 4294967296 <= p') :
   Lv (((J2.reps a b c d).adv s' p').mn s' p') m := by
 obtain ⟨⟨_, _, _, _, _, rfl⟩, _⟩ := go
 exact ⟨⟨⟨rd2.ri.l0, rd2.ri.l1, rd2.ri.s0, rd2.ri.s1, rd2.ri.c0, rd2.ri.c1, rd2.ri.h1, rd2.ri.cl⟩, rd2.f, rd2.u, rd2.n, rd2.lc, rd2.lp, rd2.pb⟩, ⟨ur1.d, ur1.m0, ur1.m1, ur1.c0, ur1.c1⟩, ⟨s0, s1, p0, ok⟩, rfl, rfl⟩
section
variable {Γ : Nat -> PT}
noncomputable def Kn (w : Nat) : Prop := w = 0 \/ w = 1 \/ w = 2 \/ w = 3 \/ w = 5
theorem oU {w : Nat} {tv : List V} {a0 a2 a3 a6 a7 a8 a9 a10 a11 a12 a13 a14 a15 a16 a17 a18 a19 : Option V} {U : Mu} {k : V -> Mu -> Prop} (R : Mu -> Prop)
   (hw : (Kn w /\ ∀ K : V -> Mu -> Prop, (∀ U', R U' -> K .none U') -> Γ 78 [.obj 5 61, .tup tv] U K) \/ w = 4 /\ ∀ K : V -> Mu -> Prop, (∀ U', R U' -> K (.bool true) U') -> Γ 79 [.obj 5 61, .tup tv] U K)
   (h : ∀ U', R U' -> Ok Γ (vK qz.tl.tl.tl.tl.tl [a0, some (.obj 5 61), a2, a3, some (.str w), some (.tup tv), a6, a7, a8, a9, a10, a11, a12, a13, a14, a15, a16, a17, a18, a19] U' k)) :
   Ok Γ (vK qz.tl.tl.tl.tl [a0, some (.obj 5 61), a2, a3, some (.str w), some (.tup tv), a6, a7, a8, a9, a10, a11, a12, a13, a14, a15, a16, a17, a18, a19] U k) := by
 rcases hw with ⟨rfl | rfl | rfl | rfl | rfl, hc⟩ | ⟨rfl, hc⟩
 · exact hc _ h
 · exact hc _ h
 · exact hc _ h
 · exact hc _ h
 · exact hc _ h
 · exact hc _ h
theorem YU (h77 : YK Γ) (h62 : yj Γ) (h80 : Ym Γ) {J : Sg} {L : List qX} {p G m : Nat} {w : Nat} {tv : List V} {s' p' : Int} {k : V -> Mu -> Prop}
   (rd : Rd J (120 + m)) (ur : Ur J (m + 3)) (pre : YL J) (dst : vX L) (ok : ZM J L) (hl : L.length <= 40) (hp : p <= 40) (hg : good L.length p (G + 1)) (hG : G <= 24)
   (hk : Kd w tv) (hm : qQ w um = some (.int G)) (s0 : 0 <= s') (s1 : s' < 12) (p0 : 4294967296 <= p')
   (hw : ∀ J1, Wz J J1 -> Rd J1 (60 + m) -> YL J1 -> (Kn w /\ Wr Γ 78 [.obj 5 61, .tup tv] J1 L p m s' p') \/ w = 4 /\ rk Γ 79 [.obj 5 61, .tup tv] J1 L p m s' p' (.bool true))
   (hbeh : ∀ J3 : Sg, J3.mst = J.mst -> J3.mpl = J.mpl -> ∀ k : V -> Mu -> Prop, k .none (st (J3.mn s' p')) -> Γ 81 [.h 1, .tup tv] (st J3) k)
   (h : ∀ (J' : Sg) (g : Nat), Lv J' m -> (J'.n : Int) + J'.held = J.n + J.held + g -> k (.int g) (st J')) :
   Ok Γ (vK qz.tl.tl [some (.h 0), some (.obj 5 61), some (.h 63), some (.h 1), some (.str w), some (.tup tv), some (.lst (L.map bV)), some (.int p), none, none, none, none, none, none, none, none, none, none, none, none] (st J) k) := by
 walk_at "g"
 refine h77 J L (60 + m) m _ (rd.le (CK (CX hl _) (by rw [<- EF]; exact CX (by decide) m))) ur ok (CK hl (by decide)) λ J1 se rd1 ur1 => ?_
 have hw := hw J1 se rd1
 obtain ⟨⟨d, c, f, u, rfl⟩⟩ := se
 have hw := hw ⟨pre.s0, pre.s1, pre.p, pre.r⟩
 have ok1 : ZM (J.sf d c f u) L := λ x hx => let y := ok x hx; ⟨y.s, y.i0, y.i1, y.b⟩
 walk_at "g"
 refine h62 (J.sf d c f u) (kP (J.sf d c f u)) _ rd1.ri.cl (CM (CM (CQ nn) rd1.n) (by decide)) rd1.ri.h1 ?_
 walk_at "l"
 refine zi rfl ((ee ..).symm ▸ CK hl (by decide)) ?_
 refine VN rfl λ l hl' => ?_
 subst hl'
 refine yL rd1 ok1 ?_
 refine oU (λ U => ∃ J2 a b c' d', (Go (J.sf d c f u) J2 L p /\ Rd J2 m /\ yG a b c' d') /\ U = st ((J2.reps a b c' d').adv s' p')) (hw.imp (λ q => ⟨q.1, λ K hK => q.2 K λ J2 a b c d go rd2 ok => hK _ ⟨J2, a, b, c, d, ⟨go, rd2, ok⟩, rfl⟩⟩) λ q => ⟨q.1, λ K hK => q.2 K λ J2 a b c d go rd2 ok => hK _ ⟨J2, a, b, c, d, ⟨go, rd2, ok⟩, rfl⟩⟩) ?_
 rintro _ ⟨J2, a, b, c', d', ⟨go, rd2, okr⟩, rfl⟩
 obtain ⟨⟨_, _, _, _, _, e2⟩, _⟩ := id go
 refine oZ h62 h80 (rd1.le (Ew _)) go rd2 rfl dst ok1 hl hp hg hG hk hm (hbeh _ (by rw [e2]; rfl) (by rw [e2]; rfl)) λ g hgr => ?_
 exact h _ g (Lv.next ur1 go rd2 okr s0 s1 p0) hgr
end
noncomputable def QZ (w : Nat) (Γ : Nat -> PT) : Prop := ∀ (J : Sg) (m : Nat) (k : V -> Mu -> Prop), Lv J (150 + m) -> (∀ (J' : Sg) (g : Nat), Lv J' m -> (J'.n : Int) + J'.held = J.n + J.held + g -> k (.int g) (st J')) ->
 Γ 82 [.h 0, .obj 5 61, .h 63, .h 1, .str w] (st J) k
theorem YL.ur {J : Sg} (r : YL J) (d c : Int) : YL (J.ur d c) := ⟨r.s0, r.s1, r.p, r.r⟩
section
variable {J : Sg} {m : Nat}
theorem Lv.p0 (v : Lv J m) : 4294967296 <= J.mpl := v.mp ▸ v.pre.p
theorem Lv.mn (v : Lv J m) (d c : Int) : Mn (J.ur d c) := ⟨v.rd.lc, v.rd.lp, v.rd.pb, v.ms ▸ v.pre.s0, v.ms ▸ v.pre.s1, CM (by decide) v.p0⟩
theorem Lv.p1 (v : Lv J m) {s : Int} (h : 0 <= s) : 4294967296 <= J.mpl + s := CM v.p0 (CQ h)
theorem Lv.r (v : Lv J (150 + m)) (d c : Int) : Rd (J.ur d c) (120 + m) := (v.rd.ur d c).le (CX (by decide) m)
theorem Lv.u (v : Lv J (150 + m)) {n : Nat} (h : n <= 150) : Ur J (m + n) := v.ur.le (EG m n ▸ CX h m)
end
theorem BD {s : Int} (h0 : 0 <= s) (h1 : s < 12) : 0 <= KI s /\ KI s < 12 := by unfold KI; split <;> (try split) <;> omega
section
variable {Γ : Nat -> PT}
theorem uh {p : Prop} [Decidable p] {a b : Int} (h : 0 <= a /\ a < 12) (k : 0 <= b /\ b < 12) : 0 <= (if p then a else b) /\ (if p then a else b) < 12 := jR (P := λ x : Int => 0 <= x /\ x < 12) h k
theorem rH (h81 : vU Γ) {w : Nat} {x size : Int} {r : List V} {s0 p0 s' p' : Int} (hw : w = 1 \/ w = 2 \/ w = 4 \/ w = 5) (m0 : 0 <= s0) (m1 : s0 < 12) (hs : s' = if w = 2 then (if s0 < 7 then 8 else 11) else (if s0 < 7 then 7 else 10)) (hp : p' = p0 + (if w = 5 then 0 else size)) :
   ∀ J3 : Sg, J3.mst = s0 -> J3.mpl = p0 -> ∀ k : V -> Mu -> Prop, k .none (st (J3.mn s' p')) -> Γ 81 [.h 1, .tup (.str w :: .int x :: .int size :: r)] (st J3) k := λ J3 e1 e2 k hk => by
 subst e1 e2 hs hp
 exact h81 J3 w x size r k hw m0 m1 hk
theorem RV (h69 : gJ Γ) (h75 : gD Γ) (h77 : YK Γ) (h62 : yj Γ) (h80 : Ym Γ) (h78 : gz Γ) (h81 : gq Γ) : QZ 0 (Nx Γ) := by
 intro J m k lv h
 refine ⟨rfl, ?_⟩
 walk_at "g"
 refine h69 J (m + 3) _ (lv.u (n := 13) (by decide)) λ o b t d c ho hb ht u1 => ?_
 have mn := lv.mn d c
 walk_at "g"
 refine h75 (J.ur d c) o b t _ mn ?_
 obtain ⟨x0, x1⟩ := BD mn.s0 mn.s1
 refine YU (w := 0) (G := 7) h77 h62 h80 (lv.r d c) u1 (lv.pre.ur d c) (bH _ _ _ _ _ _ _ ho) (bG mn.lc mn.pb mn.s0 mn.s1 ho hb) (by rw [wL]; decide) (by decide) (by rw [wL]; exact Ul) (by decide) (.inl (.inl rfl)) rfl x0 x1 (lv.p1 (by decide : (0 : Int) <= 1))
   (λ J1 se rd1 pre1 => .inl ⟨.inl rfl, ?_⟩) (λ J3 e1 e2 k hk => h81 J3 _ _ (e1 ▸ mn.s0) (e1 ▸ mn.s1) (by rw [e1, e2]; exact hk)) h
 obtain ⟨⟨d', c', f, u, rfl⟩⟩ := se
 show Wr Γ 78 _ _ (ZS J.lc J.lp J.pb J.mst J.mpl o b t) 0 m (KI J.mst) (J.mpl + 1)
 rw [lv.ms, lv.mp]
 exact h78 _ o b t m (rd1.le (CX (by decide) m)) pre1 ho hb ht
theorem RU (h69 : gI Γ) (h75 : Xq Γ) (h77 : YK Γ) (h62 : yj Γ) (h80 : Ym Γ) (h78 : gy Γ) (h81 : vU Γ) : QZ 1 (Nx Γ) := by
 intro J m k lv h
 refine ⟨rfl, ?_⟩
 walk_at "g"
 refine h69 J (m + 3) _ (lv.u (n := 13) (by decide)) λ N s d c hN z0 z1 u1 => ?_
 have mn := lv.mn d c
 have hN2 : N < 2 ^ 32 := EP hN (by decide)
 walk_at "g"
 refine h75 (J.ur d c) 1 N s [] _ mn (.inl rfl) hN2 z0 ?_
 have gp : zB N <= 40 := CK (jR (P := λ x : Nat => x <= mr N) (EO ..) (Ew _)) (uJ hN2)
 have sm := uh (p := J.mst < 7) (a := 7) (b := 10) (by decide) (by decide)
 refine YU (w := 1) (G := 20) h77 h62 h80 (lv.r d c) u1 (lv.pre.ur d c) (Zp _ _ _ hN2 z0 z1) (JJ mn.pb mn.s0 mn.s1 hN2 z0 z1) (eP (CV (zR (zN ..) (yQ ..)) (by decide))) gp (vh _ _ _ _ _ hN2) (by decide) (.inl (.inr (.inl rfl))) rfl sm.1 sm.2 (lv.p1 nn)
   (λ J1 se rd1 pre1 => .inl ⟨.inr (.inl rfl), ?_⟩) (rH h81 (.inl rfl) mn.s0 mn.s1 rfl rfl) h
 obtain ⟨⟨d', c', f, u, rfl⟩⟩ := se
 show Wr Γ 78 _ _ (qF J.pb J.mst J.mpl N s) (zB N) m (if J.mst < 7 then 7 else 10) (J.mpl + s)
 rw [lv.ms, lv.mp]
 exact h78 _ N s m rd1 pre1 hN z0 z1
theorem RS (h69 : gG Γ) (h75 : gC Γ) (h77 : YK Γ) (h62 : yj Γ) (h80 : Ym Γ) (h78 : gx Γ) (h81 : vU Γ) : QZ 2 (Nx Γ) := by
 intro J m k lv h
 refine ⟨rfl, ?_⟩
 walk_at "g"
 refine h69 J (m + 3) _ (lv.u (n := 13) (by decide)) λ i s d c i0 i1 z0 z1 u1 => ?_
 have mn := lv.mn d c
 walk_at "g"
 refine h75 (J.ur d c) i s _ mn i0 i1 z0 ?_
 have rl := GZ J.pb J.mst J.mpl i s
 have sm := uh (p := J.mst < 7) (a := 8) (b := 11) (by decide) (by decide)
 refine YU (w := 2) (G := 12) h77 h62 h80 (lv.r d c) u1 (lv.pre.ur d c) (bc _ _ _ _ z0 z1) (fA mn.pb mn.s0 mn.s1 i0 i1 z0 z1) (CK rl (by decide)) (by decide) (Uk (im rl)) (by decide) (.inl (.inr (.inr (.inl rfl)))) rfl sm.1 sm.2 (lv.p1 nn)
   (λ J1 se rd1 pre1 => .inl ⟨.inr (.inr (.inl rfl)), ?_⟩) (rH h81 (.inr (.inl rfl)) mn.s0 mn.s1 rfl rfl) h
 obtain ⟨⟨d', c', f, u, rfl⟩⟩ := se
 show Wr Γ 78 _ _ (Kg J.pb J.mst J.mpl i s) 0 m (if J.mst < 7 then 8 else 11) (J.mpl + s)
 rw [lv.ms, lv.mp]
 exact h78 _ i s m (rd1.le (CX (by decide) m)) pre1 i0 i1 z0 z1
theorem RR (h69 : gF Γ) (h75 : gB Γ) (h77 : YK Γ) (h62 : yj Γ) (h80 : Ym Γ) (h78 : gw Γ) (h81 : gk Γ) : QZ 3 (Nx Γ) := by
 intro J m k lv h
 refine ⟨rfl, ?_⟩
 walk_at "g"
 refine h69 _ _ ?_
 have mn := lv.mn J.dig J.cnt
 walk_at "g"
 refine h75 J _ mn ?_
 have sm := uh (p := J.mst < 7) (a := 9) (b := 11) (by decide) (by decide)
 refine YU (w := 3) (G := 4) h77 h62 h80 (lv.r J.dig J.cnt) (lv.u (n := 3) (by decide)) lv.pre (Vt _ _ _) (WZ mn.pb mn.s0 mn.s1) (show 4 <= 40 by decide) (by decide) vg (by decide) (.inl (.inr (.inr (.inr (.inl rfl))))) rfl sm.1 sm.2 (lv.p1 (by decide : (0 : Int) <= 1))
   (λ J1 se rd1 pre1 => .inl ⟨.inr (.inr (.inr (.inl rfl))), ?_⟩) (λ J3 e1 e2 k hk => h81 J3 _ (e1 ▸ mn.s0) (e1 ▸ mn.s1) (by rw [e1, e2]; exact hk)) h
 obtain ⟨⟨d', c', f, u, rfl⟩⟩ := se
 show Wr Γ 78 _ _ (Qh J.pb J.mst J.mpl) 0 m (if J.mst < 7 then 9 else 11) (J.mpl + 1)
 rw [lv.ms, lv.mp]
 exact h78 _ m (rd1.le (CX (by decide) m)) pre1
theorem RW (h69 : gK Γ) (h75 : Xq Γ) (h77 : YK Γ) (h62 : yj Γ) (h80 : Ym Γ) (h78 : gA Γ) (h81 : vU Γ) : QZ 5 (Nx Γ) := by
 intro J m k lv h
 refine ⟨rfl, ?_⟩
 walk_at "g"
 refine h69 _ _ ?_
 have mn := lv.mn J.dig J.cnt
 have hN2 : 4294967295 < 2 ^ 32 := by decide
 walk_at "g"
 refine h75 J 5 4294967295 2 [] _ mn (.inr (.inr rfl)) hN2 (by decide) ?_
 have gp : zB 4294967295 <= 40 := CK (jR (P := λ x : Nat => x <= mr 4294967295) (EO ..) (Ew _)) (uJ hN2)
 have sm := uh (p := J.mst < 7) (a := 7) (b := 10) (by decide) (by decide)
 refine YU (w := 5) (G := 16) h77 h62 h80 (lv.r J.dig J.cnt) (lv.u (n := 3) (by decide)) lv.pre (Zp _ _ _ hN2 (by decide) (by decide)) (JJ mn.pb mn.s0 mn.s1 hN2 (by decide) (by decide)) (eP (CV (zR (zN ..) (yQ ..)) (by decide))) gp (Wb _ _ _) (by decide) (.inl (.inr (.inr (.inr (.inr rfl))))) rfl sm.1 sm.2 lv.p0
   (λ J1 se rd1 pre1 => .inl ⟨.inr (.inr (.inr (.inr rfl))), ?_⟩) (rH h81 (.inr (.inr (.inr rfl))) mn.s0 mn.s1 rfl (iV _).symm) h
 obtain ⟨⟨d', c', f, u, rfl⟩⟩ := se
 show Wr Γ 78 _ _ (qF J.pb J.mst J.mpl 4294967295 2) (zB 4294967295) m (if J.mst < 7 then 7 else 10) J.mpl
 rw [lv.ms, lv.mp]
 exact h78 _ _ m rd1 pre1
theorem oV (h77 : YK Γ) (h62 : yj Γ) {J : Sg} {L : List qX} {m : Nat} {p r : Int} {x y t : V} {k : V -> Mu -> Prop} (rd : Rd J (120 + m)) (ur : Ur J (m + 3)) (h1 : L.length <= 1000) (hl : L.length <= 40) (ok : ZM J L) (hr : r < 24)
   (h79 : ∀ J1 : Sg, Rd J1 (60 + m) -> ∀ K : V -> Mu -> Prop, K (.bool true) (st J1) -> Γ 79 [.obj 5 61, .tup [x, y, t, .int r]] (st J1) K) (h : ∀ J1, Wz J J1 -> Rd J1 (60 + m) -> Ur J1 m -> k (.int 0) (st J1)) :
   Ok Γ (vK qz.tl.tl [some (.h 0), some (.obj 5 61), some (.h 63), some (.h 1), some (.str 4), some (.tup [x, y, t, .int r]), some (.lst (L.map bV)), some (.int p), none, none, none, none, none, none, none, none, none, none, none, none] (st J) k) := by
 have gl' : (L.map bV).length <= 1000000 := (ee ..).symm ▸ CK h1 (by decide)
 walk_at "g"
 refine h77 J L (60 + m) m _ (rd.le (CK (CX hl _) (by rw [<- EF]; exact CX (by decide) m))) ur ok h1 λ J1 se rd1 ur1 => ?_
 have ok1 : ZM J1 L := by
   obtain ⟨⟨d, c, f, u, rfl⟩⟩ := se
   exact λ x hx => let y := ok x hx; ⟨y.s, y.i0, y.i1, y.b⟩
 have n1 : (J1.n : Int) + J1.held <= 100000 := CM (CM (CQ nn) rd1.n) (by decide)
 walk_at "g"
 refine h62 J1 (kP J1) _ rd1.ri.cl n1 rd1.ri.h1 ?_
 walk_at "l"
 refine zi rfl gl' ?_
 refine VN rfl λ l hl' => ?_
 subst hl'
 refine yL rd1 ok1 ?_
 walk_at "g"
 refine h79 J1 rd1 _ ?_
 walk_at "g"
 refine h62 J1 (kP J1) _ rd1.ri.cl n1 rd1.ri.h1 ?_
 walk_at "l"
 refine zi rfl gl' ?_
 refine VN rfl λ l hl' => ?_
 subst hl'
 refine yL rd1 ok1 ?_
 walk_at "l"
 refine uE rfl hr ?_
 refine uE rfl (Int.sub_self _) ?_
 refine dq rfl (jc _ _) ?_
 refine dq rfl (jc _ _) ?_
 refine uE rfl rfl ?_
 walk_at "h"
 exact h J1 se rd1 ur1
theorem RT (h69 : gH Γ) (h75 : Xq Γ) (h77 : YK Γ) (h62 : yj Γ) (h80 : Ym Γ) (h79 : Hq Γ) (h79n : gu Γ) (h81 : vU Γ) : QZ 4 (Nx Γ) := by
 intro J m k lv h
 refine ⟨rfl, ?_⟩
 walk_at "g"
 refine h69 J (m + 3) _ (lv.u (n := 13) (by decide)) λ N s r d c hN z0 z1 r0 r1 u1 => ?_
 have mn := lv.mn d c
 have hN2 : N < 2 ^ 32 := EP hN (by decide)
 have z3 : s <= 273 := CK z1 (by decide)
 walk_at "g"
 refine h75 (J.ur d c) 4 N s [.int r] _ mn (.inr (.inl rfl)) hN2 z0 ?_
 have gl : (qF J.pb J.mst J.mpl N s).length <= 40 := eP (CV (zR (zN ..) (yQ ..)) (by decide))
 have ok := JJ (J := J.ur d c) (p := J.mpl) mn.pb mn.s0 mn.s1 hN2 z0 z3
 obtain ⟨gn, gp⟩ := JX J.pb J.mst J.mpl N s hN
 by_cases hr : 24 <= r
 · have sm := uh (p := J.mst < 7) (a := 7) (b := 10) (by decide) (by decide)
   refine YU (w := 4) (G := 16) h77 h62 h80 (lv.r d c) u1 (lv.pre.ur d c) (Zp _ _ _ hN2 z0 z3) ok gl (gp ▸ Ew _) gn (by decide) (.inr ⟨rfl, _, _, _, _, rfl, hr⟩) rfl sm.1 sm.2 (lv.p1 nn)
     (λ J1 se rd1 pre1 => .inr ⟨rfl, ?_⟩) (rH h81 (.inr (.inr (.inl rfl))) mn.s0 mn.s1 rfl rfl) h
   obtain ⟨⟨d', c', f, u, rfl⟩⟩ := se
   show rk Γ 79 _ _ (qF J.pb J.mst J.mpl N s) (zB N) m (if J.mst < 7 then 7 else 10) (J.mpl + s) _
   rw [lv.ms, lv.mp]
   exact h79 _ N s m r rd1 pre1 hN z0 z1 hr r1
 · refine oV h77 h62 (lv.r d c) u1 (CK gl (by decide)) gl ok (Int.not_le.mp hr) (λ J1 rd1 K hK => h79n J1 N s m r K (rd1.le (Ed ..)) hN z0 z1 r0 (Int.not_le.mp hr) hK) λ J1 se rd1 ur1 => ?_
   obtain ⟨⟨d', c', f, u, rfl⟩⟩ := se
   exact h ((J.ur d c).sf d' c' f u) 0 ⟨rd1.le (Ed ..), ur1, ⟨lv.pre.s0, lv.pre.s1, lv.pre.p, lv.pre.r⟩, lv.ms, lv.mp⟩ (iV _).symm
end
section
variable {U ν : Mu} {d : Nat} {x y : MO}
theorem Kj (h : d < U.length) : qj (U ++ ν) d = qj U d := by rw [qE, qE, iW h]
theorem Gd (h : d < U.length) : qy (U ++ ν) d x = qy U d x ++ ν := by rw [qZ, qZ, List.set_append_left _ _ h]
theorem yO (h : d < U.length) : qj (qy U d x) d = some x := by rw [qE, qZ, List.getElem?_set_self h]
theorem kN : qy (qy U d x) d y = qy U d y := by rw [qZ, qZ, qZ, List.set_set]
theorem Jd : (qy U d x).length = U.length := by rw [qZ, Iu]
theorem Zm (h : qj U d = some x) : d < U.length := by rw [qE] at h; exact (Ef.mp h).1
end
theorem WL : ∀ (l : List MO) (n : Nat) (x : MO) (k : List MO -> VC), Qg l n x k = k (qy l n x)
 | [], _, _, _ => rfl
 | _ :: _, 0, _, _ => rfl
 | y :: r, n + 1, x, k => WL r n x λ r' => k (y :: r')
section
variable {Γ : Nat -> PT}
noncomputable def BE (Γ : Nat -> PT) : Prop := ∀ (n : Int) (c : Bool) (U : Mu) (k : V -> Mu -> Prop), 0 <= n -> (n <= 64 -> c = false) -> (¬ n <= 64 -> c = true) -> k (.row c n (U.length + 1)) (U ++ [dm c n (U.length + 1), qW c n]) -> Γ 84 [.int n] U k
section
variable {U ν : Mu} {c d a : Nat} {v : V} {l : List (Nat × V)} {k : Mu -> VC}
theorem ZU (hd : qj U d = some (.attrs l)) (hl : eY l.length 899 = true) (h : Ok Γ (Qs a v l λ l' => k (qy U d (.attrs l')))) : Ok Γ (nA (qj U d) λ l => bq (eY l.length 899) (Qs a v l λ l' => Qg U d (.attrs l') k)) := by
 rw [hd]
 show Ok Γ (bq (eY l.length 899) (Qs a v l λ l' => Qg U d (.attrs l') k))
 rw [hl, show (λ l' => Qg U d (.attrs l') k) = λ l' => k (qy U d (.attrs l')) from funext λ _ => WL ..]
 exact h
theorem YW (lt : d < U.length) (hl : eY l.length 899 = true) (h : Ok Γ (Qs a v l λ l' => k (qy U d (.attrs l')))) : Ok Γ (nA (qj (qy U d (.attrs l)) d) λ m => bq (eY m.length 899) (Qs a v m λ l' => Qg (qy U d (.attrs l)) d (.attrs l') k)) :=
 ZU (yO lt) hl ((funext λ _ => congrArg k kN.symm : (λ l' => k (qy U d (.attrs l'))) = λ l' => k (qy (qy U d (.attrs l)) d (.attrs l'))) ▸ h)
theorem ua (hd : qj U d = some (.attrs l)) (hl : eY l.length 899 = true) (h : Ok Γ (Qs a v l λ l' => k (qy U d (.attrs l') ++ ν))) : Ok Γ (nA (qj (U ++ ν) d) λ l => bq (eY l.length 899) (Qs a v l λ l' => Qg (U ++ ν) d (.attrs l') k)) :=
 ZU ((Kj (Zm hd)).trans hd) hl ((funext λ _ => congrArg k (Gd (Zm hd)).symm : (λ l' => k (qy U d (.attrs l') ++ ν)) = λ l' => k (qy (U ++ ν) d (.attrs l'))) ▸ h)
theorem ZB (lt : d < U.length) (hl : eY l.length 899 = true) (h : Ok Γ (Qs a v l λ l' => k (qy U d (.attrs l') ++ ν))) : Ok Γ (nA (qj (qy U d (.attrs l) ++ ν) d) λ m => bq (eY m.length 899) (Qs a v m λ l' => Qg (qy U d (.attrs l) ++ ν) d (.attrs l') k)) :=
 ua (yO lt) hl ((funext λ _ => congrArg (λ m => k (m ++ ν)) kN.symm : (λ l' => k (qy U d (.attrs l') ++ ν)) = λ l' => k (qy (qy U d (.attrs l)) d (.attrs l') ++ ν)) ▸ h)
theorem xo {o : Option MO} {F : List (Nat × V) -> VC} (e : o = some (.attrs l)) (h : Ok Γ (F l)) : Ok Γ (nA o F) := e ▸ h
end
theorem BE.f (hF : BE Γ) {n : Int} {U : Mu} {k : V -> Mu -> Prop} (h0 : 0 <= n) (h1 : n <= 64) (h : k (.row false n (U.length + 1)) (U ++ [dm false n (U.length + 1), qW false n])) : Γ 84 [.int n] U k := hF n false U k h0 (λ _ => rfl) (λ q => absurd h1 q) h
theorem BE.t (hF : BE Γ) {n : Int} {U : Mu} {k : V -> Mu -> Prop} (h1 : 64 < n) (h : k (.row true n (U.length + 1)) (U ++ [dm true n (U.length + 1), qW true n])) : Γ 84 [.int n] U k := hF n true U k (CM (by decide) (eC h1)) (λ q => absurd h1 (ic.mpr q)) (λ _ => rfl) h
theorem BE.a (hF : BE Γ) {U ν : Mu} {d : Nat} {x : MO} {k : V -> Mu -> Prop} {n : Int} (c : Bool) {len : Nat} (hl : U.length + ν.length = len) (h0 : 0 <= n) (h1 : n <= 64 -> c = false) (h2 : ¬ n <= 64 -> c = true) (h : k (.row c n (len + 1)) (qy U d x ++ (ν ++ [dm c n (len + 1), qW c n]))) : Γ 84 [.int n] (qy U d x ++ ν) k := by
 refine hF n c _ k h0 h1 h2 ?_
 rw [eN, Jd, hl, ER]
 exact h
noncomputable def Ah (P : Int) (a b c d : V) : MO := .attrs [(5, .int P), (6, a), (7, b), (8, c), (9, d)]
noncomputable def WC (pb len : Nat) : MO := Ah (2 ^ pb) (.row false 2 (len + 1)) (.row (eB pb 4) (8 * 2 ^ pb) (len + 3)) (.row (eB pb 4) (8 * 2 ^ pb) (len + 5)) (.row true 256 (len + 7))
noncomputable def Xu (pb len : Nat) : Mu := [dm false 2 (len + 1), qW false 2, dm (eB pb 4) (8 * 2 ^ pb) (len + 3), qW (eB pb 4) (8 * 2 ^ pb), dm (eB pb 4) (8 * 2 ^ pb) (len + 5), qW (eB pb 4) (8 * 2 ^ pb), dm true 256 (len + 7), qW true 256]
noncomputable def BY (Γ : Nat -> PT) : Prop := ∀ (U : Mu) (d pb : Nat) (a b c e : V) (k : V -> Mu -> Prop), pb <= 4 -> qj U d = some (Ah (2 ^ pb) a b c e) -> k .none (qy U d (WC pb U.length) ++ Xu pb U.length) -> Γ 12 [.obj 1 d] U k
theorem Rh : ∀ {pb : Nat}, pb <= 4 -> ((8 : Int) * 2 ^ pb <= 64 -> eB pb 4 = false) /\ (¬ (8 : Int) * 2 ^ pb <= 64 -> eB pb 4 = true) := λ {pb} h => (by decide : ∀ pb, pb < 5 -> ((8 : Int) * 2 ^ pb <= 64 -> eB pb 4 = false) /\ (¬ (8 : Int) * 2 ^ pb <= 64 -> eB pb 4 = true)) pb (im h)
theorem Cz (hF : BE Γ) : BY (Nx Γ) := by
 intro U d pb a b c e k hpb hd h
 obtain ⟨c0, c1⟩ := Rh hpb
 have lt := Zm hd
 have p0 : (0 : Int) <= 8 * 2 ^ pb := Eu (by decide) (eC (qi pb))
 refine ⟨rfl, ?_⟩
 walk_at "g"
 refine hF.f (by decide) (by decide) ?_
 walk_at "l"
 refine ua hd (by rfl) ?_
 walk_at "l"
 refine xo ((Kj (Jd.symm ▸ lt)).trans (yO lt)) ?_
 walk_at "g"
 refine hF.a (eB pb 4) (len := List.length U + 2) rfl p0 c0 c1 ?_
 walk_at "l"
 refine ZB lt (by rfl) ?_
 walk_at "l"
 refine xo ((Kj (Jd.symm ▸ lt)).trans (yO lt)) ?_
 walk_at "g"
 refine hF.a (eB pb 4) (len := List.length U + 4) rfl p0 c0 c1 ?_
 walk_at "l"
 refine ZB lt (by rfl) ?_
 walk_at "g"
 refine hF.a true (len := List.length U + 6) rfl (by decide) (λ q => absurd q (by decide)) (λ _ => rfl) ?_
 walk_at "l"
 refine ZB lt (by rfl) ?_
 walk_at "h"
 exact h
end
section
variable {Γ : Nat -> PT}
noncomputable def HW (Γ : Nat -> PT) : Prop := ∀ (U : Mu) (d pb : Nat) (k : V -> Mu -> Prop), pb <= 4 -> qj U d = some (.attrs []) -> k .none (qy U d (WC pb U.length) ++ Xu pb U.length) -> Γ 11 [.obj 1 d, .int (2 ^ pb)] U k
theorem CA (h12 : BY Γ) : HW (Nx Γ) := by
 intro U d pb k hpb hd h
 have lt := Zm hd
 refine ⟨rfl, ?_⟩
 walk_at "l"
 refine ZU hd (by rfl) ?_
 walk_at "l"
 refine YW lt (by rfl) ?_
 walk_at "l"
 refine YW lt (by rfl) ?_
 walk_at "l"
 refine YW lt (by rfl) ?_
 walk_at "l"
 refine YW lt (by rfl) ?_
 walk_at "l"
 refine xo (yO lt) ?_
 walk_at "g"
 refine h12 _ d pb (.lst []) (.lst []) (.lst []) (.lst []) _ hpb (yO lt) ?_
 rw [kN, Jd]
 exact h
noncomputable def aL (Γ : Nat -> PT) : Prop := ∀ (lc lp pb : Nat) (U : Mu) (k : V -> Mu -> Prop), lc <= 8 -> lp <= 4 -> qj U 2 = some (Qc lc lp pb) -> k (.int (768 * 2 ^ (lc + lp))) U -> Γ 1 [.obj 0 2] U k
theorem b1 : aL (Nx Γ) := by
 intro lc lp pb U k h1 h2 hp h
 refine ⟨rfl, ?_⟩
 have g : 0 <= (lc : Int) + lp /\ (lc : Int) + lp <= 1000000 := ⟨nn (n := lc + lp), Kp (Ek h1 h2) rfl⟩
 walk_at "l"
 refine xo hp ?_
 walk_at "l"
 refine xo hp ?_
 walk_at "h"
 exact h
noncomputable def AJ (i : Nat) : Nat := match i with | 0 => 1 | 1 => 2 | 2 => 6 | 3 => 7 | 4 => 8 | 5 => 9 | 6 => 11 | 7 => 12 | 8 => 13 | _ => 10
section
variable (a0 a1 : MO) (lc lp pb : Nat)
noncomputable def vv (j i : Nat) : V := match iw i j with | true => rv lc lp pb (AJ i) | false => .lst []
noncomputable def Rl (v : Nat -> V) : MO := .attrs [(11, .obj 0 2), (12, v 0), (13, v 1), (14, v 2), (15, v 3), (16, v 4), (17, v 5), (18, v 6), (19, v 7), (20, v 8), (21, v 9), (22, .obj 1 4), (23, .obj 1 13)]
noncomputable def uj : Mu := [dm true 192 23, qW true 192, dm false 12 25, qW false 12, dm false 12 27, qW false 12, dm false 12 29, qW false 12, dm false 12 31, qW false 12, dm true 192 33, qW true 192, dm true 256 35, qW true 256, dm true 115 37, qW true 115, dm false 16 39, qW false 16,
 dm true (768 * 2 ^ (lc + lp)) 41, qW true (768 * 2 ^ (lc + lp))]
noncomputable def hq (i j : Nat) : Mu := a0 :: a1 :: Qc lc lp pb :: Rl (vv lc lp pb j) :: WC pb 5 :: (Xu pb 5 ++ WC pb 14 :: (Xu pb 14 ++ (uj lc lp).take (2 * i)))
end
noncomputable def HV (Γ : Nat -> PT) : Prop := ∀ (a0 a1 : MO) (lc lp pb : Nat) (k : V -> Mu -> Prop), lc <= 8 -> lp <= 4 -> pb <= 4 ->
 k .none (qy (qy (hq a0 a1 lc lp pb 10 10) 4 (WC pb 42) ++ Xu pb 42) 13 (WC pb 50) ++ Xu pb 50) -> Γ 14 [.obj 2 3] (hq a0 a1 lc lp pb 0 0) k
theorem Cw (hF : BE Γ) (h1 : aL Γ) (h12 : BY Γ) : HV (Nx Γ) := by
 intro a0 a1 lc lp pb k hlc hlp hpb h
 have lb : (64 : Int) < 768 * 2 ^ (lc + lp) := eI (by decide : (64 : Int) < 768 * 1) (eH (iR (qi _)) (by decide))
 refine ⟨rfl, ?_⟩
 walk_at "l"
 refine qP (U := hq a0 a1 lc lp pb 0 0) rfl ?_
 refine hF.t (n := 192) (by decide) ?_
 show wE _ _ (rv lc lp pb 1) (hq a0 a1 lc lp pb 1 0)
 walk_at "l"
 refine qP (U := hq a0 a1 lc lp pb 1 1) rfl ?_
 refine hF.f (n := 12) (by decide) (by decide) ?_
 show wE _ _ (rv lc lp pb 2) (hq a0 a1 lc lp pb 2 1)
 walk_at "l"
 refine qP (U := hq a0 a1 lc lp pb 2 2) rfl ?_
 refine hF.f (n := 12) (by decide) (by decide) ?_
 show wE _ _ (rv lc lp pb 6) (hq a0 a1 lc lp pb 3 2)
 walk_at "l"
 refine qP (U := hq a0 a1 lc lp pb 3 3) rfl ?_
 refine hF.f (n := 12) (by decide) (by decide) ?_
 show wE _ _ (rv lc lp pb 7) (hq a0 a1 lc lp pb 4 3)
 walk_at "l"
 refine qP (U := hq a0 a1 lc lp pb 4 4) rfl ?_
 refine hF.f (n := 12) (by decide) (by decide) ?_
 show wE _ _ (rv lc lp pb 8) (hq a0 a1 lc lp pb 5 4)
 walk_at "l"
 refine qP (U := hq a0 a1 lc lp pb 5 5) rfl ?_
 refine hF.t (n := 192) (by decide) ?_
 show wE _ _ (rv lc lp pb 9) (hq a0 a1 lc lp pb 6 5)
 walk_at "l"
 refine qP (U := hq a0 a1 lc lp pb 6 6) rfl ?_
 refine hF.t (n := 256) (by decide) ?_
 show wE _ _ (rv lc lp pb 11) (hq a0 a1 lc lp pb 7 6)
 walk_at "l"
 refine qP (U := hq a0 a1 lc lp pb 7 7) rfl ?_
 refine hF.t (n := 115) (by decide) ?_
 show wE _ _ (rv lc lp pb 12) (hq a0 a1 lc lp pb 8 7)
 walk_at "h"
 refine qP (U := hq a0 a1 lc lp pb 8 8) rfl ?_
 refine hF.f (n := 16) (by decide) (by decide) ?_
 show wE _ _ (rv lc lp pb 13) (hq a0 a1 lc lp pb 9 8)
 walk_at "l"
 refine qP (U := hq a0 a1 lc lp pb 9 9) rfl ?_
 refine h1 lc lp pb _ _ hlc hlp rfl ?_
 walk_at "l"
 refine qP rfl ?_
 refine hF.t lb ?_
 show wE _ _ (rv lc lp pb 10) (hq a0 a1 lc lp pb 10 9)
 walk_at "l"
 refine qP (U := hq a0 a1 lc lp pb 10 10) rfl ?_
 refine h12 _ 4 pb _ _ _ _ _ hpb rfl ?_
 walk_at "l"
 refine qP (U := qy (hq a0 a1 lc lp pb 10 10) 4 (WC pb 42) ++ Xu pb 42) rfl ?_
 refine h12 _ 13 pb _ _ _ _ _ hpb rfl ?_
 walk_at "h"
 exact h
noncomputable def rM (Γ : Nat -> PT) : Prop := ∀ (lc lp pb : Nat) (U : Mu) (d : Nat) (k : V -> Mu -> Prop), lc <= 8 -> lp <= 4 -> pb <= 4 -> qj U d = some (.attrs []) -> k .none (qy U d (Qc lc lp pb)) -> Γ 0 [.obj 0 d, .int lc, .int lp, .int pb] U k
theorem b0 : rM (Nx Γ) := by
 intro lc lp pb U d k h1 h2 h3 hd h
 have lt := Zm hd
 have n1 := nn (n := lc)
 have n2 := nn (n := lp)
 have n3 := nn (n := pb)
 have m1 : (lc : Int) <= 8 := Qt h1
 have m2 : (lp : Int) <= 4 := Qt h2
 have m3 : (pb : Int) <= 4 := Qt h3
 refine ⟨rfl, ?_⟩
 walk_at "g"
 refine ZU hd (by rfl) ?_
 walk_at "l"
 refine YW lt (by rfl) ?_
 walk_at "l"
 refine YW lt (by rfl) ?_
 walk_at "h"
 exact h
noncomputable def OW (l : List (Nat × V)) : MO := .attrs ([(11, .obj 0 2), (12, .lst []), (13, .lst []), (14, .lst []), (15, .lst []), (16, .lst []), (17, .lst []), (18, .lst []), (19, .lst []), (20, .lst []), (21, .lst [])] ++ l)
noncomputable def BX (Γ : Nat -> PT) : Prop := ∀ (a0 a1 : MO) (lc lp pb : Nat) (k : V -> Mu -> Prop), lc <= 8 -> lp <= 4 -> pb <= 4 ->
 k .none ([a0, a1, Qc lc lp pb, fZ lc lp pb, WC pb 42] ++ Xu pb 5 ++ [WC pb 50] ++ Xu pb 14 ++ uj lc lp ++ Xu pb 42 ++ Xu pb 50) -> Γ 13 [.obj 2 3, .obj 0 2] [a0, a1, Qc lc lp pb, .attrs []] k
theorem Cy (h11 : HW Γ) (h14 : HV Γ) : BX (Nx Γ) := by
 intro a0 a1 lc lp pb k hlc hlp hpb h
 have e1 : (1 * 2 ^ (pb : Int).toNat : Int) = 2 ^ pb := iB _
 have g : 0 <= (pb : Int) /\ (pb : Int) <= 1000000 := ⟨nn, Kp hpb rfl⟩
 refine ⟨rfl, ?_⟩
 walk_at "h"
 refine qP (U := [a0, a1, Qc lc lp pb, OW [], .attrs []]) rfl ?_
 rw [e1]
 refine h11 _ 4 pb _ hpb rfl ?_
 walk_at "h"
 refine qP (U := [a0, a1, Qc lc lp pb, OW [(22, .obj 1 4)], WC pb 5] ++ (Xu pb 5 ++ [.attrs []])) rfl ?_
 rw [e1]
 refine h11 _ 13 pb _ hpb rfl ?_
 walk_at "h"
 refine qP (U := hq a0 a1 lc lp pb 0 0) rfl ?_
 refine h14 a0 a1 lc lp pb _ hlc hlp hpb ?_
 walk_at "h"
 exact h
end
section
variable {Γ : Nat -> PT}
noncomputable def BM (Γ : Nat -> PT) : Prop := ∀ (U : Mu) (d : Nat) (k : V -> Mu -> Prop), qj U d = some (.attrs []) -> k .none (qy U d (Ac U.length 0 4294967295 0 1 false) ++ [.ba 0]) -> Γ 54 [.obj 6 d] U k
theorem cC : BM (Nx Γ) := by
 intro U d k hd h
 have lt := Zm hd
 refine ⟨rfl, ?_⟩
 walk_at "l"
 refine ua hd (by rfl) ?_
 walk_at "l"
 refine ZB lt (by rfl) ?_
 walk_at "l"
 refine ZB lt (by rfl) ?_
 walk_at "l"
 refine ZB lt (by rfl) ?_
 walk_at "l"
 refine ZB lt (by rfl) ?_
 walk_at "l"
 refine ZB lt (by rfl) ?_
 walk_at "h"
 exact h
noncomputable def GX (v : Int) : MO := .row false 1 (λ i => [v].getD i.toNat 0) 0
noncomputable def gM (Γ : Nat -> PT) : Prop := ∀ (J : Sg) (v b : Int) (k : V -> Mu -> Prop), RI J -> (J.n : Int) + J.held <= 90000 -> (b = 0 \/ b = 1) -> 31 <= v -> v <= 2017 ->
 (∀ (l c h : Int) (n : Nat) (x : MO), RI (J.wr l (fl (sp J.span v b)) c h n) -> (n : Int) + h <= J.n + J.held + 1 -> k .none (sx (J.wr l (fl (sp J.span v b)) c h n) [x])) ->
 Γ 58 [.obj 6 58, .row false 1 60, .int 0, .int b] (sx J [GX v]) k
theorem aB (h51 : BO Γ) (h52 : BN Γ) (h56 : gO Γ) (h57 : gN Γ) : gM (Nx Γ) := by
 intro J v b k ri hN hb f0 f1 h
 obtain ⟨l0, l1, s0, s1, c0, c1, h1, cl⟩ := ri
 obtain ⟨d0, d1, d2, d3, d4⟩ := px s0 s1 f0 f1
 have mo : IntMulOk (J.span / 2 ^ Eb 11) v := ZC d1
 have tail : ∀ (k : V -> Mu -> Prop) (lo sp' : Int) (x : MO), (∀ (l c h : Int) (n : Nat) (x : MO), RI (J.wr l (fl sp') c h n) -> (n : Int) + h <= J.n + J.held + 1 -> k .none (sx (J.wr l (fl sp') c h n) [x])) ->
     0 <= lo -> 253952 <= sp' -> sp' < 4294967296 -> lo + sp' <= 8589934592 -> Γ 56 [.obj 6 58] (sx (J.wr lo sp' J.cache J.held J.n) [x]) k := by
   intro k lo sp' x h z0 z1 z2 z3
   refine h56 (J.wr lo sp' J.cache J.held J.n) [x] k z0 c0 c1 h1 (CM hN (by decide)) (eI (by decide) z1) z2 λ l c hh n e0 e1 e2 e3 e4 e5 e6 => ?_
   obtain ⟨x1, x2, x3⟩ := Uv z1 z2 e1 e2 z3
   exact h l c hh n x ⟨e0, x1, x2, x3, e3, e4, e5, cl⟩ (CM (iF e6) (eT (jR (P := λ x : Int => x <= 1) (by decide) (by decide)) _))
 refine ⟨rfl, ?_⟩
 walk_at "g"
 refine h52 _ _ _ hb ?_
 walk_at "g"
 refine h57 _ _ _ cl ?_
 walk_at "l"
 refine zi rfl ⟨rfl, rfl, by decide, by decide, by decide, trivial⟩ ?_
 rcases hb with rfl | rfl
 · rw [show sp J.span v 0 = J.span / 2048 * v from if_pos rfl] at h
   walk_at "h"
   refine qP (U := sx (J.wr J.low (J.span / 2048 * v) J.cache J.held J.n) [GX v]) rfl ?_
   refine h51 v 0 _ _ ?_
   walk_at "l"
   refine zi rfl ⟨rfl, rfl, by decide, by decide, by decide, by decide, trivial⟩ ?_
   refine OK (U' := sx (J.wr J.low (J.span / 2048 * v) J.cache J.held J.n) [.row false 1 (λ q => if q = 0 then nx v 0 else [v].getD q.toNat 0) 1]) rfl rfl ?_
   refine qP rfl ?_
   exact tail _ J.low (J.span / 2048 * v) _ h l0 d3 (EA (CM (CQ (by decide)) d4) s1) (CM (eT (CM (CQ (by decide)) d4) _) l1)
 · rw [show sp J.span v 1 = J.span - J.span / 2048 * v from if_neg (by decide)] at h
   walk_at "h"
   refine qP (U := sx (J.wr (J.low + J.span / 2048 * v) (J.span - J.span / 2048 * v) J.cache J.held J.n) [GX v]) rfl ?_
   refine h51 v 1 _ _ ?_
   walk_at "l"
   refine zi rfl ⟨rfl, rfl, by decide, by decide, by decide, by decide, trivial⟩ ?_
   refine OK (U' := sx (J.wr (J.low + J.span / 2048 * v) (J.span - J.span / 2048 * v) J.cache J.held J.n) [.row false 1 (λ q => if q = 0 then nx v 1 else [v].getD q.toNat 0) 1]) rfl rfl ?_
   refine qP rfl ?_
   exact tail _ (J.low + J.span / 2048 * v) (J.span - J.span / 2048 * v) _ h (Eg l0 d2) (by omega) (by omega) (by rw [En, iz (J.span / 2048 * v), ir]; exact l1)
end
section
variable {Γ : Nat -> PT}
noncomputable def rI (Γ : Nat -> PT) : Prop := ∀ (J : Sg) (τ : Mu) (m : Nat) (many : Int) (k : V -> Mu -> Prop), Ur J (m + 1) -> 0 < many -> many < 1099511627776 ->
 (∀ r d c, 0 <= r -> r < many -> Ur (J.ur d c) m -> k (.int r) (sx (J.ur d c) τ)) -> Γ 65 [.h 0, .int many] (sx J τ) k
theorem RM (h65 : Ww Γ) : rI Γ := by
 intro J τ m many k u n0 n1 h
 refine h65 J.dig J.mix J.cnt _ many k u.d u.m0 u.m1 u.c0 (CM (CQ nn) u.c1) n0 n1 λ r d' c' r0 r1 d0 e0 e1 => ?_
 refine h r d' c' r0 r1 ⟨d0, u.m0, u.m1, CM u.c0 e0, ?_⟩
 have := eD e1 m
 rw [En, iz 1] at this
 exact CM this u.c1
structure rq (J J' : Sg) : Prop where
 lc : J'.lc = J.lc
 lp : J'.lp = J.lp
 pb : J'.pb = J.pb
 s : J'.mst = J.mst
 p : J'.mpl = J.mpl
noncomputable def BI (Γ : Nat -> PT) : Prop := ∀ (J : Sg) (m : Nat) (k : V -> Mu -> Prop), Rd J (40 + m) -> Ur J (m + 5) -> (∀ (J' : Sg) (x : MO), rq J J' -> Rd J' m -> Ur J' m -> k .none (sx J' [x])) -> Γ 66 [.h 0, .obj 6 58] (sx J []) k
theorem oX (tk : rI Γ) (h59 : gL Γ) {J : Sg} {x : MO} {one : Int} {m : Nat} {k : V -> Mu -> Prop} (rd : Rd J (30 + m)) (ur : Ur J (m + 3)) (h : ∀ (J' : Sg) (x : MO), rq J J' -> Rd J' m -> Ur J' m -> k .none (sx J' [x])) :
   Ok Γ (vK QH.tl.tl [some (.h 0), some (.obj 6 58), some (.int one), none] (sx J [x]) k) := by
 walk_at "g"
 refine tk J [x] (m + 2) 12 _ ur (by decide) (by decide) λ q d3 c3 q0 q1 u3 => ?_
 walk_at "g"
 refine tk _ [x] (m + 1) 3 _ u3 (by decide) (by decide) λ w d4 c4 w0 w1 u4 => ?_
 obtain ⟨v, hv, M, rfl, hM⟩ := WN (P := λ v => ∃ M : Nat, v = M /\ M <= 24) (x := 0) (y := 24) (z := 1 + q) w0 w1 ⟨0, rfl, by decide⟩ ⟨24, rfl, by decide⟩ (by
   obtain ⟨q, rfl⟩ := ew q0
   exact ⟨1 + q, rfl, CK (Em (eP (eG.mp q1)) 1) (by decide)⟩)
 have w2 : w < 1000000 := ET w1 (by decide)
 have m0 : (0 : Int) <= M := nn
 have m1 : (M : Int) <= 24 := Qt hM
 have z0 : 0 <= (if (8 : Int) < M then (8 : Int) else M) := jR (P := λ x : Int => 0 <= x) (by decide) m0
 have z1 : (if (8 : Int) < M then (8 : Int) else M) <= 24 := jR (P := λ x : Int => x <= 24) (by decide) m1
 have z2 : (if (8 : Int) < M then (8 : Int) else M) <= M := by
   by_cases c : (8 : Int) < M
   · rw [if_pos c]; exact eC c
   · rw [if_neg c]; exact IP _
 generalize hz : (if (8 : Int) < M then (8 : Int) else M) = z at z0 z1 z2
 walk_at "l"
 refine zi rfl ⟨w0, w2⟩ ?_
 refine WB rfl hv ?_
 walk_at "l"
 refine zi rfl ⟨m0, CM m1 (by decide)⟩ ?_
 refine zi rfl (hz.symm ▸ ⟨z0, CM z1 (by decide)⟩) ?_
 refine qP rfl ?_
 rw [hz]
 refine tk ((J.ur d3 c3).ur d4 c4) [x] m _ _ u4 (qi _) (EA (jm (Ic z1)) (by decide)) λ t d5 c5 t0 t1 u5 => ?_
 walk_at "g"
 obtain ⟨t, rfl⟩ := ew t0
 have lt := eI t1 (jm (Ic z2))
 rw [Ej, zp] at lt
 have lt := eG.mp lt
 have e : (2 ^ (M : Int).toNat - 1 - t : Int) = ((2 ^ M - 1 - t : Nat) : Int) := by
   rw [Ej, zp, Ev (Nat.le_sub_one_of_lt lt), Ev (EY M)]; rfl
 rw [e]
 refine h59 (((J.ur d3 c3).ur d4 c4).ur d5 c5) [x] M (2 ^ M - 1 - t) m _ ((((rd.ur d3 c3).ur d4 c4).ur d5 c5).le (CX (CK hM (by decide)) m)) (CK hM (by decide)) (eE (EO ..) (Nat.sub_lt (EY M) (by decide))) λ J' go rd' => ?_
 obtain ⟨⟨_, _, _, _, _, rfl⟩, _⟩ := go
 walk_at "h"
 exact h _ x ⟨rfl, rfl, rfl, rfl, rfl⟩ rd' ⟨u5.d, u5.m0, u5.m1, u5.c0, u5.c1⟩
theorem ci (tk : rI Γ) (h58 : gM Γ) (h59 : gL Γ) : BI (Nx Γ) := by
 intro J m k rd ur h
 refine ⟨rfl, ?_⟩
 walk_at "g"
 refine tk J [] (m + 4) 2 _ ur (by decide) (by decide) λ one d c o0 o1 u1 => ?_
 walk_at "g"
 refine tk _ [] (m + 3) 1987 _ u1 (by decide) (by decide) λ v d2 c2 v0 v1 u2 => ?_
 walk_at "l"
 refine qP (U := sx ((J.ur d c).ur d2 c2) [GX (31 + v)]) rfl ?_
 have b01 : one = 0 \/ one = 1 := by omega
 refine h58 ((J.ur d c).ur d2 c2) (31 + v) one _ ((rd.ur d c).ur d2 c2).ri (CM (CQ nn) rd.n) b01 (CQ v0) (eT (eU (b := 1986) v1) 31) λ l cc' hh n x ri hnn => ?_
 refine oX (m := m) tk h59 ⟨ri, rd.f, λ s => CK (Em (CX (by decide) m) _) (rd.u s), ?_, rd.lc, rd.lp, rd.pb⟩ ⟨u2.d, u2.m0, u2.m1, u2.c0, u2.c1⟩ λ J' x kp rd' ur' => h J' x ⟨kp.lc, kp.lp, kp.pb, kp.s, kp.p⟩ rd' ur'
 have hn := rd.n
 have hnn : (n : Int) + hh <= J.n + J.held + 1 := hnn
 show (n : Int) + hh + ((30 + m : Nat) : Int) <= 90000
 omega
end
section
variable {Γ : Nat -> PT}
noncomputable def VE (a b c d : Int) : MO := .attrs [(25, .lst [.int a, .int b, .int c, .int d])]
noncomputable def HM (Γ : Nat -> PT) : Prop := ∀ (J : Sg) (x : MO) (k : V -> Mu -> Prop), k .none (sx J [x, .attrs [(26, .obj 2 3), (27, .obj 6 58)]]) -> Γ 28 [.obj 5 61, .obj 2 3, .obj 6 58] (sx J [x, .attrs []]) k
theorem Cg : HM (Nx Γ) := by
 intro J x k h
 refine ⟨rfl, ?_⟩
 walk_at "h"
 exact h
noncomputable def HR (Γ : Nat -> PT) : Prop := ∀ (J : Sg) (x y : MO) (k : V -> Mu -> Prop), k .none (sx J [x, y, VE 1 1 1 1]) -> Γ 19 [.obj 3 62] (sx J [x, y, .attrs []]) k
theorem Cr : HR (Nx Γ) := by
 intro J x y k h
 refine ⟨rfl, ?_⟩
 walk_at "h"
 exact h
noncomputable def BS (Γ : Nat -> PT) : Prop := ∀ (J : Sg) (x : MO) (k : V -> Mu -> Prop), k .none (sx J [x, Fd 0 0, VE 1 1 1 1]) -> Γ 38 [.obj 5 61, .obj 2 3, .obj 6 58] (sx J [x, .attrs []]) k
theorem cU (h28 : HM Γ) (h19 : HR Γ) : BS (Nx Γ) := by
 intro J x k h
 refine ⟨rfl, ?_⟩
 walk_at "l"
 refine qP (U := sx J [x, .attrs []]) rfl ?_
 refine h28 J x _ ?_
 walk_at "l"
 refine qP (U := sx J [x, .attrs [(26, .obj 2 3), (27, .obj 6 58), (42, .int 0), (43, .int 0)], .attrs []]) rfl ?_
 refine h19 J x (.attrs [(26, .obj 2 3), (27, .obj 6 58), (42, .int 0), (43, .int 0)]) _ ?_
 walk_at "h"
 exact h
noncomputable def BR (Γ : Nat -> PT) : Prop := ∀ (J : Sg) (c : Int) (k : V -> Mu -> Prop), 0 <= c -> k .none (st (J.adv J.stt (J.plc + c))) -> Γ 39 [.obj 5 61, .int c] (st J) k
theorem cT (h24 : gS Γ) : BR (Nx Γ) := by
 intro J c k h0 h
 refine ⟨rfl, ?_⟩
 walk_at "g"
 refine h24 _ _ _ _ _ h0 ?_
 walk_at "h"
 exact h
noncomputable def BF (Γ : Nat -> PT) : Prop := ∀ (J : Sg) (x : MO) (k : V -> Mu -> Prop), k (.h 63) (sx J [x, Fd 0 0, VE 1 1 1 1] ++ [ui J.lc J.lp J.pb]) -> Γ 76 [.obj 2 3] (sx J [x, Fd 0 0, VE 1 1 1 1]) k
theorem AU : BF (Nx Γ) := by
 intro J x k h
 refine ⟨rfl, ?_⟩
 walk_at "h"
 exact h
noncomputable def Hw (Γ : Nat -> PT) : Prop := ∀ (l : List Int) (k : V -> Mu -> Prop), l.length <= 100000 -> (∀ d m, 0 <= d -> 0 <= m -> m < 999983 -> k (.h 0) [Yq d m 0]) -> Γ 64 [.lst (l.map .int)] [] k
theorem cp : Hw (Nx Γ) := by
 intro l k hl h
 have pp : (0 : Int) < 10 ^ (120 : Int).toNat := qv (by decide) _
 have h1 : (l.map V.int).length <= 1000000 := (ee ..).symm ▸ CK hl (by decide)
 have h2 : ((l.map V.int).take (63 : Int).toNat).length <= 1000000 := CK (List.length_take_le ..) (by decide)
 refine ⟨rfl, ?_⟩
 walk_at "l"
 refine zi rfl ⟨by decide, h1⟩ ?_
 refine zi rfl h2 ?_
 refine VN rfl λ l' hl' => ?_
 refine KS (α := Int × Int × Option V) (λ a => [some (.lst (l.map .int)), some (.int a.1), some (.int a.2.1), a.2.2]) (λ _ => []) V.int (l.take (63 : Int).toNat) (hl'.trans (List.map_take ..).symm) (λ _ a => 0 <= a.1 /\ 0 <= a.2.1 /\ a.2.1 < 999983) (0, 134, none) (by decide) (λ i c a hi ⟨d0, m0, m1⟩ k' hk' => ?_) λ a ⟨d0, m0, m1⟩ => ?_
 · by_cases hc : 10 ^ (18 : Int).toNat <= c
   · walk_at "h"
     exact hk' (_ % 10 ^ (120 : Int).toNat, a.2.1, some (.int c)) ⟨EI _ (IA pp), m0, m1⟩
   · by_cases hn : c < 0
     · walk_at "h"
       exact hk' (a.1, _ % 999983, some (.int c)) ⟨d0, EI _ (by decide), EL _ (by decide)⟩
     · walk_at "h"
       exact hk' (a.1, _ % 999983, some (.int c)) ⟨d0, EI _ (by decide), EL _ (by decide)⟩
 · walk_at "h"
   exact h _ _ d0 m0 m1
end
noncomputable def om (lc lp pb : Nat) (dig mix cnt mst mpl : Int) : Sg :=
 { lc := lc, lp := lp, pb := pb, dig := dig, mix := mix, cnt := cnt, mst := mst, mpl := mpl, low := 0, span := 4294967295, cache := 0, held := 1, cl := false, n := 0, plc := 0, stt := 0, r0 := 1, r1 := 1, r2 := 1, r3 := 1, x0 := .attrs [], f := λ _ _ => 1024, u := λ _ => 0 }
theorem AC {lc lp pb : Nat} {dig mix cnt mst mpl : Int} (h1 : lc <= 8) (h2 : lp <= 4) (h3 : pb <= 4) : Rd (om lc lp pb dig mix cnt mst mpl) 2040 :=
 ⟨⟨(by decide : (0 : Int) <= 0), (by decide : (0 : Int) + 4294967295 <= 8589934592), (by decide : (16777216 : Int) <= 4294967295), (by decide : (4294967295 : Int) < 4294967296), (by decide : (0 : Int) <= 0), (by decide : (0 : Int) <= 255), (by decide : (1 : Int) <= 1), rfl⟩,
  λ _ _ => (by decide : (31 : Int) <= 1024 /\ (1024 : Int) <= 2017), λ _ => (by decide : 0 + 2040 <= 90000), (by decide : ((0 : Nat) : Int) + 1 + (2040 : Nat) <= 90000), h1, h2, h3⟩
noncomputable def S.tn : Nat -> S -> S
 | 0, s => s
 | n + 1, s => S.tn n s.tl
noncomputable def Kk (v : V) : Prop := ∃ w : Nat, w <= 5 /\ v = .str w
theorem Kk.app {L : List V} (h : ∀ v ∈ L, Kk v) {w : Nat} (hw : w <= 5) : ∀ v ∈ L ++ [.str w], Kk v := λ v hv => (CS.mp hv).elim (h v) λ e => ⟨w, hw, eS.mp e⟩
theorem pK {r : Int} (h0 : 0 <= r) (h1 : r < 8) : ∃ w, w <= 5 /\ qj [V.str 2, .str 0, .str 4, .str 3, .str 2, .str 0, .str 1, .str 1] r.toNat = some (.str w) := by
 obtain ⟨n, rfl⟩ := ew h0
 have h : n < [2, 0, 4, 3, 2, 0, 1, 1].length := eG.mp h1
 refine ⟨_, (by decide : ∀ x ∈ [2, 0, 4, 3, 2, 0, 1, 1], x <= 5) _ (List.getElem_mem h), ?_⟩
 show qj ([2, 0, 4, 3, 2, 0, 1, 1].map V.str) n = _
 rw [qE, eZ, ii h]; rfl
noncomputable def Cn (c : Int) (n : Nat) : Prop := 0 <= c /\ c <= n
theorem Cn.next {c c' : Int} {n : Nat} (h : Cn c n) (a : c <= c') (b : c' <= c + 1) : Cn c' (n + 1) := ⟨CM h.1 a, CM b (eD h.2 1)⟩
theorem Cn.le {c : Int} {n : Nat} (h : Cn c n) (e : eY n 100000 = true) : c <= 100000 := CM h.2 (Qt (CR e))
section
variable {Γ : Nat -> PT}
noncomputable def rn (Γ : Nat -> PT) : Prop := ∀ (l : List Int) (k : V -> Mu -> Prop), l.length <= 100000 -> (∀ U, k (.bool true) U) -> Γ 83 [.lst (l.map .int)] [] k
theorem RP (h82 : ∀ w, w <= 5 -> QZ w Γ) (h63 : BJ Γ) {J : Sg} {a c T : Option V} {g : Int} {L : List V} {x y z : Option V} {k : V -> Mu -> Prop}
   (lv : Lv J (150 * (L.length + 1))) (hg : g = J.n + J.held + 4) (hL : ∀ v ∈ L, Kk v) (hl : L.length <= 5) (h : ∀ U, k (.bool true) U) :
   Ok Γ (vK (S.tn 12 QI) [a, some (.h 0), c, T, some (.h 1), some (.obj 2 3), some (.obj 6 58), some (.lst L), some (.obj 5 61), some (.int g), some (.h 63), x, y, z] (st J) k) := by
 have hl2 : (L ++ [V.str 5]).length = L.length + 1 := eN
 have hl3 : (L ++ [V.str 5]).length <= 1000000 := hl2.symm ▸ CK (CX hl 1) (by decide)
 walk_at "l"
 refine zi rfl hl3 ?_
 refine zi rfl hl3 ?_
 refine VN rfl λ LL hLL => ?_
 refine QD (α := Sg × Int × Option V × Option V) (λ b => [a, some (.h 0), c, T, some (.h 1), some (.obj 2 3), some (.obj 6 58), some (.lst L), some (.obj 5 61), some (.int b.2.1), some (.h 63), x, b.2.2.1, b.2.2.2]) (λ b => st b.1) LL (λ i b => Lv b.1 (150 * (LL.length - i)) /\ b.2.1 = b.1.n + b.1.held + 4) (J, g, y, z) ⟨by rw [hLL, hl2]; exact lv, hg⟩ (λ i v b hi ⟨lv, eg⟩ k' hk' => ?_) λ b ⟨lv, eg⟩ => ?_
 · obtain ⟨w, hw, rfl⟩ := Kk.app hL (by decide : 5 <= 5) v (hLL ▸ eR hi)
   have e : 150 * (LL.length - i) = 150 + 150 * (LL.length - (i + 1)) := by
     rw [EG, <- Nat.mul_succ]
     exact congrArg (150 * ·) (EJ (Ei (Ef.mp hi).1)).symm
   walk_at "g"
   refine h82 w hw b.1 (150 * (LL.length - (i + 1))) _ (e ▸ lv) λ J2 g2 lv2 e2 => ?_
   walk_at "h"
   exact hk' (J2, _, _, _) ⟨lv2, by rw [eg, e2, Int.add_right_comm]⟩
 · walk_at "g"
   refine h63 b.1 _ (lv.rd.le (Ew _)) λ bb l1 c1 h1 n1 eb => ?_
   have hn : bb.size <= 1000000 := Er.mp (CM (iF eb) (eD (CM (CQ nn) lv.rd.n) 4 |> λ q => CM q (by decide)))
   walk_at "l"
   refine zi rfl hn ?_
   refine uE rfl (eb.trans eg.symm) ?_
   refine dq (v := [b.1.stt, b.1.plc]) rfl rfl ?_
   refine dq (v := [b.1.mst, b.1.mpl]) rfl rfl ?_
   refine uE rfl (by rw [lv.ms, lv.mp]) ?_
   walk_at "h"
   exact h _
theorem RQ (tk : Tk Γ) {J : Sg} {a T : Option V} {w : Bool} {g : Int} {x y z : Option V} {k : V -> Mu -> Prop} (lv : Lv J 2000) (hg : g = J.n + J.held + 4)
   (hC : ∀ (J : Sg) (L : List V) (x : Option V), Lv J (150 * (L.length + 1)) -> g = J.n + J.held + 4 -> (∀ v ∈ L, Kk v) -> L.length <= 5 ->
     Ok Γ (vK (S.tn 12 QI) [a, some (.h 0), some (.bool w), T, some (.h 1), some (.obj 2 3), some (.obj 6 58), some (.lst L), some (.obj 5 61), some (.int g), some (.h 63), x, y, z] (st J) k)) :
   Ok Γ (vK (S.tn 10 QI) [a, some (.h 0), some (.bool w), T, some (.h 1), some (.obj 2 3), some (.obj 6 58), some (.own [.str 1]), some (.obj 5 61), some (.int g), some (.h 63), x, y, z] (st J) k) := by
 have s1 : ∀ v ∈ [V.str 1], Kk v := λ v hv => ⟨1, by decide, eS.mp hv⟩
 have fin : ∀ (d cnt : Int) (L : List V) (x : Option V), Ur (J.ur d cnt) 1900 -> (∀ v ∈ L, Kk v) -> L.length <= 5 -> _ := λ d cnt L x u hL hl =>
   have e : 150 * (L.length + 1) <= 1900 := CK (Et 150 (CX hl 1)) (by decide)
   hC (J.ur d cnt) L x ⟨(lv.rd.ur d cnt).le (CK e (by decide)), u.le e, lv.pre.ur d cnt, lv.ms, lv.mp⟩ hg hL hl
 cases w with
 | false =>
   walk_at "l"
   refine zi rfl (by decide) ?_
   refine XU rfl (aZ ?_)
   exact fin J.dig J.cnt _ x (lv.ur.le (by decide)) s1 (by decide)
 | true =>
   walk_at "g"
   refine tk J 1999 4 _ lv.ur (by decide) (by decide) λ r d c r0 r1 u => ?_
   have n0 : 0 <= 1 + r := Eg (by decide) r0
   have n4 : 1 + r <= 4 := eT (eU (b := 3) r1) 1
   have e0 : (1 + r - 0).toNat <= 4 := Int.toNat_le.mpr ((Iz (1 + r)).symm ▸ n4)
   obtain ⟨n, hn⟩ : ∃ n, n = (1 + r - 0).toNat := ⟨_, rfl⟩
   walk_at "l"
   refine zi rfl ⟨by decide, Er.mp ((iO n0).symm ▸ CM n4 (by decide)), CK e0 (by decide)⟩ ?_
   refine VN rfl λ l hl => ?_
   refine yo (α := Int × Int × List V × Option V) (λ b => [a, some (.h 0), some (.bool true), T, some (.h 1), some (.obj 2 3), some (.obj 6 58), some (.own b.2.2.1), some (.obj 5 61), some (.int g), some (.h 63), b.2.2.2, y, z]) (λ b => st (J.ur b.1 b.2.1)) n hl hn.symm (λ i b => Ur (J.ur b.1 b.2.1) (1900 + (n - i)) /\ (∀ v ∈ b.2.2.1, Kk v) /\ b.2.2.1.length = i + 1) (d, c, [.str 1], x)
     ⟨u.le (CK (Em (hn ▸ e0) 1900) (by decide)), s1, rfl⟩ (λ i b hi ⟨u2, hL, hl⟩ k' hk' => ?_) λ b ⟨u2, hL, hl⟩ => ?_
   · have hl' : b.2.2.1.length < 1000000 := hl.symm ▸ eE (II (CV hi (hn ▸ e0))) (by decide)
     have eu : 1900 + (n - i) = 1900 + (n - (i + 1)) + 1 := congrArg (1900 + ·) (EJ (Ei hi)).symm
     walk_at "g"
     refine tk _ (1900 + (n - (i + 1))) 8 _ (eu ▸ u2) (by decide) (by decide) λ r d3 c3 r0 r1 u3 => ?_
     obtain ⟨w, hw, e8⟩ := pK r0 r1
     have r2 : r < 1000000 := ET r1 (by decide)
     walk_at "l"
     refine zi rfl ⟨r0, r2⟩ ?_
     refine WB rfl e8 ?_
     walk_at "h"
     exact hk' (d3, c3, _, _) ⟨u3, Kk.app hL hw, by rw [eN, hl]; rfl⟩
   · obtain ⟨d2, c2, L, x⟩ := b
     walk_at "l"
     exact fin d2 c2 L x (u2.le (Eo ..)) hL (hl.symm ▸ ia (hn ▸ e0))
theorem Ra : yG 1 1 1 1 := by unfold yG; decide
noncomputable def Sg.mk0 (J : Sg) (x0 : MO) : Sg := { J with x0 := x0, plc := 0, stt := 0, r0 := 1, r1 := 1, r2 := 1, r3 := 1 }
theorem RO (h62 : yj Γ) (h38 : BS Γ) (h76 : BF Γ) (h39 : BR Γ) {J : Sg} {x0 : MO} {a T : Option V} {w : Bool} {k : V -> Mu -> Prop}
   (hB : ∀ (J : Sg) (g : Int), Lv J 2000 -> g = J.n + J.held + 4 -> ∀ x y z, Ok Γ (vK (S.tn 10 QI) [a, some (.h 0), some (.bool w), T, some (.h 1), some (.obj 2 3), some (.obj 6 58), some (.own [.str 1]), some (.obj 5 61), some (.int g), some (.h 63), x, y, z] (st J) k))
   (rd : Rd J 2000) (ur : Ur J 2000) (s0 : 0 <= J.mst) (s1 : J.mst < 12) (p0 : 4294967296 <= J.mpl) :
   Ok Γ (vK (S.tn 7 QI) [a, some (.h 0), some (.bool w), T, some (.h 1), some (.obj 2 3), some (.obj 6 58), some (.own [.str 1]), none, none, none, none, none, none] (sx J [x0]) k) := by
 walk_at "l"
 refine qP (U := sx J [x0, .attrs []]) rfl ?_
 refine h38 J x0 _ ?_
 walk_at "l"
 refine qP (U := sx J [x0, Fd 0 0, VE 1 1 1 1]) rfl ?_
 refine h62 J _ _ rd.ri.cl (CM (CM (CQ nn) rd.n) (by decide)) rd.ri.h1 ?_
 walk_at "l"
 refine qP (U := sx J [x0, Fd 0 0, VE 1 1 1 1]) rfl ?_
 refine h76 J x0 _ ?_
 walk_at "l"
 refine qP (U := st (J.mk0 x0)) rfl ?_
 refine h39 (J.mk0 x0) J.mpl _ (CM (by decide) p0) ?_
 walk_at "l"
 have e0 : (0 : Int) + J.mpl = J.mpl := ik _
 exact hB ((J.mk0 x0).adv J.mst (0 + J.mpl)) _ ⟨⟨⟨rd.ri.l0, rd.ri.l1, rd.ri.s0, rd.ri.s1, rd.ri.c0, rd.ri.c1, rd.ri.h1, rd.ri.cl⟩, rd.f, rd.u, rd.n, rd.lc, rd.lp, rd.pb⟩, ⟨ur.d, ur.m0, ur.m1, ur.c0, ur.c1⟩, ⟨s0, s1, e0.symm ▸ p0, Ra⟩, rfl, e0.symm⟩ rfl none none none
theorem RN (h65 : Ww Γ) (h0' : rM Γ) (h13 : BX Γ) (h54 : BM Γ) (h62 : yj Γ) (h66 : BI Γ)
   {a : Option V} {w : Bool} {d m : Int} {k : V -> Mu -> Prop} (d0 : 0 <= d) (m0 : 0 <= m) (m1 : m < 999983)
   (hM : ∀ (J : Sg) (x0 : MO), Rd J 2000 -> Ur J 2000 -> 0 <= J.mst -> J.mst < 12 -> 4294967296 <= J.mpl -> ∀ T, Ok Γ (vK (S.tn 7 QI) [a, some (.h 0), some (.bool w), T, some (.h 1), some (.obj 2 3), some (.obj 6 58), some (.own [.str 1]), none, none, none, none, none, none] (sx J [x0]) k)) :
   Ok Γ (vK (S.tn 2 QI) [a, some (.h 0), some (.bool w), none, none, none, none, none, none, none, none, none, none, none] [Yq d m 0] k) := by
 have z0 : Cn 0 0 := by unfold Cn; decide
 walk_at "g"
 refine h65 d m 0 [] 9 _ d0 m0 m1 z0.1 (by decide) (by decide) (by decide) λ lc d1 c1 a0 a1 b1 x1 y1 => ?_
 have z1 := z0.next x1 y1
 walk_at "g"
 refine h65 d1 m c1 [] 5 _ b1 m0 m1 z1.1 (z1.le rfl) (by decide) (by decide) λ lp d2 c2 e0 e1 b2 x2 y2 => ?_
 have z2 := z1.next x2 y2
 walk_at "g"
 refine h65 d2 m c2 [] 5 _ b2 m0 m1 z2.1 (z2.le rfl) (by decide) (by decide) λ pb d3 c3 f0 f1 b3 x3 y3 => ?_
 have z3 := z2.next x3 y3
 walk_at "g"
 refine h65 d3 m c3 [.dict []] 12 _ b3 m0 m1 z3.1 (z3.le rfl) (by decide) (by decide) λ ms d4 c4 g0 g1 b4 x4 y4 => ?_
 have z4 := z3.next x4 y4
 walk_at "g"
 refine h65 d4 m c4 [.dict []] 64 _ b4 m0 m1 z4.1 (z4.le rfl) (by decide) (by decide) λ mp d5 c5 i0 i1 b5 x5 y5 => ?_
 have z5 := z4.next x5 y5
 obtain ⟨lc, rfl⟩ := ew a0
 obtain ⟨lp, rfl⟩ := ew e0
 obtain ⟨pb, rfl⟩ := ew f0
 have hlc := eJ (eG.mp a1)
 have hlp := eJ (eG.mp e1)
 have hpb := eJ (eG.mp f1)
 walk_at "h"
 refine qP (U := [Yq d5 m c5, xt lc lp pb ms (1 * 2 ^ (32 : Int).toNat + mp), .attrs []]) rfl ?_
 refine h0' lc lp pb _ 2 _ hlc hlp hpb rfl ?_
 walk_at "l"
 refine qP (U := [Yq d5 m c5, xt lc lp pb ms (1 * 2 ^ (32 : Int).toNat + mp), Qc lc lp pb, .attrs []]) rfl ?_
 refine h13 (Yq d5 m c5) (xt lc lp pb ms (1 * 2 ^ (32 : Int).toNat + mp)) lc lp pb _ hlc hlp hpb ?_
 have p0 : (4294967296 : Int) <= 1 * 2 ^ (32 : Int).toNat + mp := CM (by decide) (eT i0 4294967296)
 walk_at "l"
 refine qP (U := ([Yq d5 m c5, xt lc lp pb ms (1 * 2 ^ (32 : Int).toNat + mp), Qc lc lp pb, fZ lc lp pb, WC pb 42] ++ Xu pb 5 ++ [WC pb 50] ++ Xu pb 14 ++ uj lc lp ++ Xu pb 42 ++ Xu pb 50) ++ [.attrs []]) rfl ?_
 refine h54 _ 58 _ rfl ?_
 show wE _ _ _ (sx (om lc lp pb d5 m c5 ms (1 * 2 ^ (32 : Int).toNat + mp)) [])
 walk_at "l"
 refine qP (U := sx (om lc lp pb d5 m c5 ms (1 * 2 ^ (32 : Int).toNat + mp)) []) rfl ?_
 refine h62 (om lc lp pb d5 m c5 ms (1 * 2 ^ (32 : Int).toNat + mp)) [] _ rfl (by decide : ((0 : Nat) : Int) + 1 <= 100000) (by decide : (1 : Int) <= 1) ?_
 walk_at "l"
 refine uE rfl rfl ?_
 refine qP (U := sx (om lc lp pb d5 m c5 ms (1 * 2 ^ (32 : Int).toNat + mp)) []) rfl ?_
 refine h66 (om lc lp pb d5 m c5 ms (1 * 2 ^ (32 : Int).toNat + mp)) 2000 _ (AC hlc hlp hpb) ⟨b5, m0, m1, z5.1, CM (eD z5.2 2005) (by decide)⟩ λ J' x kp rd ur => ?_
 obtain ⟨e1, e2, e3, e4, e5⟩ := kp
 exact hM J' x rd ur (e4 ▸ g0) (e4 ▸ g1) (e5 ▸ p0) _
theorem AO (h64 : Hw Γ) (h65 : Ww Γ) (h0' : rM Γ) (h13 : BX Γ) (h54 : BM Γ) (h62 : yj Γ) (h66 : BI Γ) (h38 : BS Γ) (h76 : BF Γ) (h39 : BR Γ) (h82 : ∀ w, w <= 5 -> QZ w Γ) (h63 : BJ Γ) : rn (Nx Γ) := by
 intro l k hl h
 have tk : Tk Γ := Ar h65
 have main : ∀ (w : Bool) (d m : Int), 0 <= d -> 0 <= m -> m < 999983 -> Ok Γ (vK (S.tn 2 QI) [some (.lst (l.map .int)), some (.h 0), some (.bool w), none, none, none, none, none, none, none, none, none, none, none] [Yq d m 0] k) := λ w d m d0 m0 m1 =>
   RN h65 h0' h13 h54 h62 h66 d0 m0 m1 λ J x0 rd ur s0 s1 p0 T => RO h62 h38 h76 h39 (λ J g lv hg x y z => RQ tk lv hg λ J L x lv hg hL hl => RP h82 h63 lv hg hL hl h) rd ur s0 s1 p0
 have h1 : (l.map V.int).length <= 1000000 := (ee ..).symm ▸ CK hl (by decide)
 refine ⟨rfl, ?_⟩
 walk_at "g"
 refine h64 l _ hl λ d m d0 m0 m1 => ?_
 walk_at "l"
 refine zi rfl h1 ?_
 refine oo rfl (λ _ => ?_) λ _ => ?_
 · exact main true d m d0 m0 m1
 · refine oo rfl (λ _ => ?_) λ _ => ?_
   · exact main true d m d0 m0 m1
   · exact main false d m d0 m0 m1
end
theorem Pa (n : Nat) : BE (qe (n + 2)) := by
 intro z c U k h0 hs hl h
 refine Or.inl ⟨rfl, iS _, z, rfl, h0, ?_, ?_⟩
 · intro e; rw [hs e] at h; exact h
 · intro e; rw [hl e] at h; exact h
theorem Pm (n : Nat) : Hw (qe (n + 1)) := cp (Γ := qe (n + 0))
theorem UM (n : Nat) : Ww (qe (n + 1)) := cj (Γ := qe (n + 0))
theorem RG (n : Nat) : rM (qe (n + 1)) := b0 (Γ := qe (n + 0))
theorem Di (n : Nat) : BY (qe (n + 3)) := Cz (Γ := qe (n + 2)) (Pa (n + 0))
theorem PV (n : Nat) : HW (qe (n + 4)) := CA (Γ := qe (n + 3)) (Di (n + 0))
theorem RF (n : Nat) : aL (qe (n + 1)) := b1 (Γ := qe (n + 0))
theorem PS (n : Nat) : HV (qe (n + 4)) := Cw (Γ := qe (n + 3)) (Pa (n + 1)) (RF (n + 2)) (Di (n + 0))
theorem PU (n : Nat) : BX (qe (n + 5)) := Cy (Γ := qe (n + 4)) (PV (n + 0)) (PS (n + 0))
theorem Pq (n : Nat) : BM (qe (n + 1)) := cC (Γ := qe (n + 0))
theorem yE (n : Nat) : yj (qe (n + 1)) := cr (Γ := qe (n + 0))
theorem Rz (n : Nat) : rI (qe (n + 1)) := RM (Γ := qe (n + 1)) (UM (n + 0))
theorem Db (n : Nat) : BO (qe (n + 1)) := cH (Γ := qe (n + 0))
theorem Da (n : Nat) : BN (qe (n + 1)) := cE (Γ := qe (n + 0))
theorem dZ (n : Nat) : BL (qe (n + 1)) := cB (Γ := qe (n + 0))
theorem UO (n : Nat) : gO (qe (n + 2)) := cA (Γ := qe (n + 1)) (dZ (n + 0))
theorem UN (n : Nat) : gN (qe (n + 1)) := cz (Γ := qe (n + 0))
theorem hU (n : Nat) : gM (qe (n + 3)) := aB (Γ := qe (n + 2)) (Db (n + 1)) (Da (n + 1)) (UO (n + 0)) (UN (n + 1))
theorem UP (n : Nat) : gP (qe (n + 1)) := cD (Γ := qe (n + 0))
theorem dY (n : Nat) : gL (qe (n + 3)) := cx (Γ := qe (n + 2)) (UP (n + 1)) (UO (n + 0)) (UN (n + 1))
theorem Pl (n : Nat) : BI (qe (n + 4)) := ci (Γ := qe (n + 3)) (Rz (n + 2)) (hU (n + 0)) (dY (n + 0))
theorem PI (n : Nat) : HM (qe (n + 1)) := Cg (Γ := qe (n + 0))
theorem PO (n : Nat) : HR (qe (n + 1)) := Cr (Γ := qe (n + 0))
theorem PB (n : Nat) : BS (qe (n + 2)) := cU (Γ := qe (n + 1)) (PI (n + 0)) (PO (n + 0))
theorem Pf (n : Nat) : BF (qe (n + 1)) := AU (Γ := qe (n + 0))
theorem Vl (n : Nat) : Wy (qe (n + 1)) := Ck (Γ := qe (n + 0))
theorem hW (n : Nat) : gS (qe (n + 2)) := aD (Γ := qe (n + 1)) (Vl (n + 0))
theorem PA (n : Nat) : BR (qe (n + 3)) := cT (Γ := qe (n + 2)) (hW (n + 0))
theorem oy (n : Nat) : Tk (qe (n + 1)) := Ar (Γ := qe (n + 1)) (UM (n + 0))
theorem hO (n : Nat) : gJ (qe (n + 2)) := az (Γ := qe (n + 1)) (oy (n + 0))
theorem UL (n : Nat) : gE (qe (n + 1)) := AZ (Γ := qe (n + 0))
theorem Ph (n : Nat) : Ht (qe (n + 2)) := AX (Γ := qe (n + 1)) (UL (n + 0))
theorem FX (n : Nat) : gD (qe (n + 3)) := ar (Γ := qe (n + 2)) (Ph (n + 0))
theorem kF (n : Nat) : YK (qe (n + 2)) := AS (Γ := qe (n + 1)) (oy (n + 0))
theorem kE (n : Nat) : Ym (qe (n + 1)) := AQ (Γ := qe (n + 0))
theorem Xi (n : Nat) : vV (qe (n + 2)) := Cj (Γ := qe (n + 1)) (Vl (n + 0))
theorem RB (n : Nat) : aH (qe (n + 1)) := b7 (Γ := qe (n + 0))
theorem PN (n : Nat) : rL (qe (n + 1)) := b2 (Γ := qe (n + 0))
theorem Xj (n : Nat) : vW (qe (n + 2)) := Cv (Γ := qe (n + 1)) (PN (n + 0))
theorem PP (n : Nat) : HS (qe (n + 1)) := Cs (Γ := qe (n + 0))
theorem Pp (n : Nat) : Hy (qe (n + 3)) := cy (Γ := qe (n + 2)) (Db (n + 1)) (Da (n + 1)) (UO (n + 0)) (UN (n + 1))
theorem YJ (n : Nat) : Wv (qe (n + 3)) := bB (Γ := qe (n + 3)) (Pp (n + 0))
theorem Dh (n : Nat) : BW (qe (n + 4)) := Cc (Γ := qe (n + 3)) (YJ (n + 0))
theorem PG (n : Nat) : HK (qe (n + 5)) := Cb (Γ := qe (n + 4)) (YJ (n + 1)) (Dh (n + 0))
theorem PH (n : Nat) : HL (qe (n + 6)) := Cf (Γ := qe (n + 5)) (RB (n + 4)) (Xj (n + 3)) (PP (n + 4)) (YJ (n + 2)) (Dh (n + 1)) (PG (n + 0))
theorem RE (n : Nat) : aK (qe (n + 1)) := b3 (Γ := qe (n + 0))
theorem Py (n : Nat) : HF (qe (n + 7)) := cQ (Γ := qe (n + 6)) (Xi (n + 4)) (PH (n + 0)) (RE (n + 5))
theorem FT (n : Nat) : gz (qe (n + 8)) := ai (Γ := qe (n + 7)) (Py (n + 0))
theorem FN (n : Nat) : gq (qe (n + 1)) := RY (Γ := qe (n + 0))
theorem Bv (n : Nat) : QZ 0 (qe (n + 9)) := RV (Γ := qe (n + 8)) (hO (n + 6)) (FX (n + 5)) (kF (n + 6)) (yE (n + 7)) (kE (n + 7)) (FT (n + 0)) (FN (n + 7))
theorem Pk (n : Nat) : Hv (qe (n + 2)) := ch (Γ := qe (n + 1)) (oy (n + 0))
theorem dW (n : Nat) : BH (qe (n + 2)) := cf (Γ := qe (n + 1)) (oy (n + 0))
theorem hJ (n : Nat) : gI (qe (n + 3)) := ay (Γ := qe (n + 2)) (Pk (n + 0)) (dW (n + 0))
theorem dU (n : Nat) : BG (qe (n + 2)) := AW (Γ := qe (n + 1)) (UL (n + 0))
theorem Pj (n : Nat) : Hu (qe (n + 1)) := AY (Γ := qe (n + 0))
theorem Pg (n : Nat) : Hr (qe (n + 2)) := AV (Γ := qe (n + 1)) (UL (n + 0)) (Pj (n + 0))
theorem vH (n : Nat) : Xq (qe (n + 3)) := aq (Γ := qe (n + 2)) (dU (n + 0)) (Pg (n + 0))
theorem Vk (n : Nat) : Wx (qe (n + 2)) := Hj (Γ := qe (n + 1)) (Vl (n + 0))
theorem Dd (n : Nat) : BQ (qe (n + 3)) := cR (Γ := qe (n + 2)) (Xi (n + 0))
theorem dX (n : Nat) : BK (qe (n + 4)) := cw (Γ := qe (n + 3)) (UP (n + 2)) (YJ (n + 0))
theorem Dg (n : Nat) : BV (qe (n + 5)) := Ca (Γ := qe (n + 4)) (PN (n + 3)) (YJ (n + 1)) (dX (n + 0))
theorem Pb (n : Nat) : rJ (qe (n + 1)) := b9 (Γ := qe (n + 0))
theorem PX (n : Nat) : HX (qe (n + 2)) := CB (Γ := qe (n + 1)) (Pb (n + 0))
theorem RA (n : Nat) : aG (qe (n + 1)) := b8 (Γ := qe (n + 0))
theorem PR (n : Nat) : HU (qe (n + 2)) := Cu (Γ := qe (n + 1)) (RA (n + 0))
theorem PQ (n : Nat) : HT (qe (n + 2)) := Ct (Γ := qe (n + 1)) (Pb (n + 0))
theorem Po (n : Nat) : Hx (qe (n + 4)) := cu (Γ := qe (n + 3)) (UP (n + 2)) (YJ (n + 0))
theorem PF (n : Nat) : HJ (qe (n + 5)) := cZ (Γ := qe (n + 4)) (PX (n + 2)) (PR (n + 2)) (PQ (n + 2)) (dY (n + 1)) (dX (n + 0)) (Po (n + 0))
theorem De (n : Nat) : BU (qe (n + 6)) := cY (Γ := qe (n + 5)) (Xj (n + 3)) (YJ (n + 2)) (Dg (n + 0)) (PF (n + 0))
theorem PK (n : Nat) : HO (qe (n + 1)) := Co (Γ := qe (n + 0))
theorem Pz (n : Nat) : rK (qe (n + 1)) := b4 (Γ := qe (n + 0))
theorem Dc (n : Nat) : BP (qe (n + 7)) := cP (Γ := qe (n + 6)) (Vk (n + 4)) (Dd (n + 3)) (De (n + 0)) (PK (n + 5)) (Pz (n + 5))
theorem FR (n : Nat) : gy (qe (n + 8)) := ah (Γ := qe (n + 7)) (Dc (n + 0))
theorem Vj (n : Nat) : vU (qe (n + 1)) := AP (Γ := qe (n + 0))
theorem Bu (n : Nat) : QZ 1 (qe (n + 9)) := RU (Γ := qe (n + 8)) (hJ (n + 5)) (vH (n + 5)) (kF (n + 6)) (yE (n + 7)) (kE (n + 7)) (FR (n + 0)) (Vj (n + 7))
theorem FZ (n : Nat) : gG (qe (n + 3)) := av (Γ := qe (n + 2)) (oy (n + 1)) (dW (n + 0))
theorem FW (n : Nat) : gC (qe (n + 3)) := ao (Γ := qe (n + 2)) (dU (n + 0))
theorem PE (n : Nat) : HI (qe (n + 4)) := cX (Γ := qe (n + 3)) (Xj (n + 1)) (YJ (n + 0))
theorem PD (n : Nat) : HH (qe (n + 6)) := cW (Γ := qe (n + 5)) (Xi (n + 3)) (Xj (n + 3)) (YJ (n + 2)) (Dg (n + 0)) (PE (n + 1))
theorem PL (n : Nat) : HP (qe (n + 1)) := Cp (Γ := qe (n + 0))
theorem RD (n : Nat) : aJ (qe (n + 1)) := b5 (Γ := qe (n + 0))
theorem Px (n : Nat) : HE (qe (n + 7)) := cO (Γ := qe (n + 6)) (Xi (n + 4)) (Vk (n + 4)) (Dd (n + 3)) (PD (n + 0)) (PL (n + 5)) (RD (n + 5))
theorem FQ (n : Nat) : gx (qe (n + 8)) := ae (Γ := qe (n + 7)) (Px (n + 0))
theorem Bt (n : Nat) : QZ 2 (qe (n + 9)) := RS (Γ := qe (n + 8)) (FZ (n + 5)) (FW (n + 5)) (kF (n + 6)) (yE (n + 7)) (kE (n + 7)) (FQ (n + 0)) (Vj (n + 7))
theorem FY (n : Nat) : gF (qe (n + 1)) := au (Γ := qe (n + 0))
theorem FV (n : Nat) : gB (qe (n + 1)) := am (Γ := qe (n + 0))
theorem PM (n : Nat) : HQ (qe (n + 1)) := Cq (Γ := qe (n + 0))
theorem PC (n : Nat) : HG (qe (n + 4)) := cV (Γ := qe (n + 3)) (Xj (n + 1)) (YJ (n + 0))
theorem RC (n : Nat) : aI (qe (n + 1)) := b6 (Γ := qe (n + 0))
theorem Pw (n : Nat) : HD (qe (n + 5)) := cN (Γ := qe (n + 4)) (PM (n + 3)) (Vk (n + 2)) (PC (n + 0)) (RC (n + 3))
theorem FP (n : Nat) : gw (qe (n + 6)) := ab (Γ := qe (n + 5)) (Pw (n + 0))
theorem FM (n : Nat) : gk (qe (n + 1)) := RX (Γ := qe (n + 0))
theorem Bs (n : Nat) : QZ 3 (qe (n + 7)) := RR (Γ := qe (n + 6)) (FY (n + 5)) (FV (n + 5)) (kF (n + 4)) (yE (n + 5)) (kE (n + 5)) (FP (n + 0)) (FM (n + 5))
theorem hH (n : Nat) : gH (qe (n + 2)) := aw (Γ := qe (n + 1)) (oy (n + 0))
theorem UQ (n : Nat) : gR (qe (n + 3)) := Ci (Γ := qe (n + 2)) (Vl (n + 1)) (Xi (n + 0))
theorem PJ (n : Nat) : HN (qe (n + 1)) := Ch (Γ := qe (n + 0))
theorem Pu (n : Nat) : HB (qe (n + 1)) := cL (Γ := qe (n + 0))
theorem Ps (n : Nat) : HA (qe (n + 8)) := cK (Γ := qe (n + 7)) (UQ (n + 4)) (PJ (n + 6)) (Pu (n + 6)) (Vk (n + 5)) (Dc (n + 0))
theorem Pr (n : Nat) : Hz (qe (n + 9)) := cJ (Γ := qe (n + 8)) (UQ (n + 5)) (yE (n + 7)) (Ps (n + 0))
theorem Pe (n : Nat) : Hq (qe (n + 10)) := AR (Γ := qe (n + 9)) (yE (n + 8)) (Pr (n + 0))
theorem hV (n : Nat) : gQ (qe (n + 4)) := aC (Γ := qe (n + 3)) (UQ (n + 0)) (yE (n + 2))
theorem FO (n : Nat) : gu (qe (n + 5)) := RZ (Γ := qe (n + 4)) (yE (n + 3)) (hV (n + 0))
theorem Br (n : Nat) : QZ 4 (qe (n + 11)) := RT (Γ := qe (n + 10)) (hH (n + 8)) (vH (n + 7)) (kF (n + 8)) (yE (n + 9)) (kE (n + 9)) (Pe (n + 0)) (FO (n + 5)) (Vj (n + 9))
theorem hS (n : Nat) : gK (qe (n + 1)) := aA (Γ := qe (n + 0))
theorem Pv (n : Nat) : HC (qe (n + 7)) := cM (Γ := qe (n + 6)) (De (n + 0)) (Pz (n + 5))
theorem FU (n : Nat) : gA (qe (n + 8)) := aj (Γ := qe (n + 7)) (Pv (n + 0))
theorem Bq (n : Nat) : QZ 5 (qe (n + 9)) := RW (Γ := qe (n + 8)) (hS (n + 7)) (vH (n + 5)) (kF (n + 6)) (yE (n + 7)) (kE (n + 7)) (FU (n + 0)) (Vj (n + 7))
theorem Pn (n : Nat) : BJ (qe (n + 2)) := cq (Γ := qe (n + 1)) (dZ (n + 0))
theorem Pd (n : Nat) : rn (qe (n + 12)) := AO (Γ := qe (n + 11)) (Pm (n + 10)) (UM (n + 10)) (RG (n + 10)) (PU (n + 6)) (Pq (n + 10)) (yE (n + 10)) (Pl (n + 7)) (PB (n + 9)) (Pf (n + 10)) (PA (n + 8)) (λ w hw => match w, hw with | 0, _ => Bv (n + 2) | 1, _ => Bu (n + 2) | 2, _ => Bt (n + 2) | 3, _ => Bs (n + 4) | 4, _ => Br (n + 0) | 5, _ => Bq (n + 2) | w + 6, hw => absurd hw (Nat.not_le.mpr (Ed 6 w))) (Pn (n + 9))
theorem VT (l : List Int) (h : l.length <= 100000) : qe 12 83 [.lst (l.map .int)] [] λ v _ => v = .bool true := Pd 0 l _ h λ _ => rfl
end Mi
end
section
namespace Mi
open PySem PySem.W PyProof.Rows PySem.Calls
section
variable {p : Program} {w : World} {n₀ : Nat} {ann : Option Value}
def Gm (ok : Thread -> Bool) (st : SharedT -> Thread -> Option (SharedT × Thread)) : Nat -> SharedT -> Thread -> Option SharedT
 | 0, _, _ => none
 | n + 1, s, t => match through t with
   | true => some s
   | false => match ok t with
     | false => none
     | true => match st s t with
       | some (s', t') => Gm ok st n s' t'
       | none => none
theorem wk : ∀ {n : Nat} {s s' : SharedT} {t : Thread}, Gm (stepOk n₀ ann) (stepT (denote treeTable) p w) n s t = some s' -> topRun treeTable p w n₀ ann n s.abs t = some s'.abs
 | 0, _, _, _, h => by cases h
 | n + 1, s, s', t, h => by
   unfold Gm at h
   unfold topRun
   cases he : through t with
   | true => rw [he] at h; cases h; rfl
   | false =>
     rw [he] at h
     cases hk : stepOk n₀ ann t with
     | false => rw [hk] at h; cases h
     | true =>
       rw [hk] at h
       cases hs : stepT (denote treeTable) p w s t with
       | none => rw [hs] at h; cases h
       | some r => obtain ⟨s₂, t₂⟩ := r; rw [hs] at h; rw [stepT_spec hs]; exact wk h
end
noncomputable def Vn (P : Params) : BT :=
 .node (boot_o_0 P) (.node (boot_o_1 P) (.node (boot_o_3 P) (.node (boot_o_7 P) .nil .nil) .nil) (.node (boot_o_5 P) (.node (boot_o_9 P) .nil .nil) .nil))
   (.node (boot_o_2 P) (.node (boot_o_4 P) (.node (boot_o_8 P) .nil .nil) .nil) (.node (boot_o_6 P) (.node (boot_o_10 P) .nil .nil) .nil))
theorem US (P : Params) : boot_heap P = absHeap (Vn P) 11 {} := by kernel_rfl
noncomputable def Re : Thread -> Bool := PySem.W.Fast.tw6613529449190102663 11 (some (.ref 6))
noncomputable def Rc (w : World) : SharedT -> Thread -> Option (SharedT × Thread) := PySem.W.Fast.tw10156331382660048174 (PySem.W.Fast.tw11892475500146522536 PySem.W.Fast.tw14364793385576792824) PySem.Challenge.pw_tk0124_01 w
theorem fE : stepOk 11 (some (.ref 6)) = Re := by unfold Re; rw [PySem.W.Fast.te6613529449190102663]
theorem fC (w : World) : stepT (denote treeTable) PySem.Challenge.pw_tk0124_01 w = Rc w := by
 unfold Rc; rw [PySem.W.Fast.te10156331382660048174, PySem.W.Fast.te11892475500146522536, PySem.W.Fast.te14364793385576792824]
def rV (as : List Nat) (r : Option SharedT) : Option (Nat × Array GenState × Drawn × List (Option Obj)) := r.map λ s => (s.n, s.gens, s.drawn, as.map s.tree.get)
noncomputable def Qu : Stmt -> Str
 | .FunctionDef n _ _ _ _ _ _ _ _ _ => n
 | _ => ⟨#[]⟩
noncomputable def uV : Stmt -> Nat
 | .FunctionDef _ _ _ _ _ _ _ _ _ p => p.line
 | _ => 0
structure Fe where
 st : Stmt
 q : String
 m : Nat
 a : Nat
 t : Nat
 u : Nat
 sh : Bool
 dV : Value
structure Ce where
 a : Nat
 ns : Nat
 n : String
 bs : List Value
 mr : List Value
 sb : List Value
 t1 : Nat
 t2 : Nat
 s0 : Option Value
 k : Nat
 d : List (String × Nat × Value)
noncomputable def Rk : List Value := [.str "threepress.lzmastate" 256, .str "threepress.lzmaencode" 663, .str "threepress.rangecoder" 1018, .str "law_tk0124_01" 1190]
noncomputable def wV : List Fe := [⟨qq 20 0, "Props.__init__", 0, 130, 360, 369, false, .ref 123⟩,
 ⟨qq 20 2, "Props.literals", 0, 144, 379, 383, false, .none⟩,
 ⟨qq 20 3, "Props.position", 0, 151, 386, 391, false, .none⟩,
 ⟨qK 21, "after_literal", 0, 165, 405, 409, false, .none⟩,
 ⟨qK 22, "after_match", 0, 172, 412, 416, false, .none⟩,
 ⟨qK 23, "after_rep", 0, 179, 419, 423, false, .none⟩,
 ⟨qK 24, "after_short", 0, 186, 426, 430, false, .none⟩,
 ⟨qK 25, "is_after_literal", 0, 193, 433, 437, false, .none⟩,
 ⟨qK 26, "length_state", 0, 200, 440, 444, false, .none⟩,
 ⟨qK 27, "slot_base", 0, 207, 447, 452, false, .none⟩,
 ⟨qK 28, "slot_of", 0, 214, 455, 464, false, .none⟩,
 ⟨qq 29 0, "LengthModels.__init__", 0, 228, 479, 484, false, .none⟩,
 ⟨qq 29 1, "LengthModels.reset", 0, 235, 487, 491, false, .none⟩,
 ⟨qq 30 0, "Models.__init__", 0, 256, 519, 524, false, .none⟩,
 ⟨qq 30 1, "Models.reset", 0, 263, 527, 531, false, .none⟩,
 ⟨qq 30 2, "Models.cell", 0, 270, 534, 540, false, .none⟩,
 ⟨qq 30 3, "Models.slot_start", 0, 277, 543, 548, false, .none⟩,
 ⟨qq 30 4, "Models.special_start", 0, 284, 551, 558, false, .none⟩,
 ⟨qq 30 5, "Models.literal_start", 0, 291, 561, 568, false, .none⟩,
 ⟨qq 31 0, "Reps.__init__", 0, 314, 608, 613, false, .ref 307⟩,
 ⟨qq 31 2, "Reps.first", 0, 328, 623, 627, false, .none⟩,
 ⟨qq 31 3, "Reps.use", 0, 335, 630, 636, false, .none⟩,
 ⟨qq 31 4, "Reps.put", 0, 342, 639, 644, false, .none⟩,
 ⟨qK 35, "need_whole", 1, 364, 672, 677, false, .none⟩,
 ⟨qK 36, "need_number", 1, 371, 680, 687, false, .none⟩,
 ⟨qK 37, "step_length", 1, 378, 690, 694, false, .none⟩,
 ⟨qK 38, "repeats", 1, 385, 697, 705, false, .none⟩,
 ⟨qK 39, "octet_behind", 1, 392, 708, 714, false, .none⟩,
 ⟨qq 40 0, "StepCoder.__init__", 1, 406, 729, 735, false, .none⟩,
 ⟨qq 40 1, "StepCoder.put_literal", 1, 413, 738, 748, false, .none⟩,
 ⟨qq 40 2, "StepCoder.put_plain", 1, 420, 751, 761, false, .none⟩,
 ⟨qq 40 3, "StepCoder.put_beside", 1, 427, 764, 775, false, .none⟩,
 ⟨qq 40 4, "StepCoder.put_length", 1, 434, 778, 787, false, .none⟩,
 ⟨qq 40 5, "StepCoder.put_distance", 1, 441, 790, 800, false, .none⟩,
 ⟨qq 40 6, "StepCoder.put_match", 1, 448, 803, 811, false, .none⟩,
 ⟨qq 40 7, "StepCoder.put_index", 1, 455, 814, 821, false, .none⟩,
 ⟨qq 40 8, "StepCoder.put_rep", 1, 462, 824, 832, false, .none⟩,
 ⟨qq 40 9, "StepCoder.put_short", 1, 469, 835, 841, false, .none⟩,
 ⟨qq 41 0, "LzmaWriter.__init__", 1, 490, 866, 872, false, .none⟩,
 ⟨qq 41 3, "LzmaWriter.passed", 1, 511, 889, 894, false, .none⟩,
 ⟨qq 41 4, "LzmaWriter.check_back", 1, 518, 897, 902, false, .none⟩,
 ⟨qq 41 5, "LzmaWriter.check_length", 1, 525, 905, 910, false, .none⟩,
 ⟨qq 41 6, "LzmaWriter.literal", 1, 532, 913, 921, false, .none⟩,
 ⟨qq 41 7, "LzmaWriter.match", 1, 539, 924, 930, false, .none⟩,
 ⟨qq 41 8, "LzmaWriter.rep", 1, 546, 933, 939, false, .none⟩,
 ⟨qq 41 9, "LzmaWriter.short", 1, 553, 942, 946, false, .none⟩,
 ⟨qq 41 10, "LzmaWriter.end_mark", 1, 560, 949, 953, false, .none⟩,
 ⟨qq 41 11, "LzmaWriter.matched_octet", 1, 567, 956, 962, false, .none⟩,
 ⟨qq 41 12, "LzmaWriter.distance_of", 1, 574, 965, 970, false, .none⟩,
 ⟨qq 41 13, "LzmaWriter.write_step", 1, 581, 973, 983, false, .none⟩,
 ⟨qq 41 15, "LzmaWriter.write_within", 1, 595, 996, 1008, false, .none⟩,
 ⟨qK 51, "next_model", 2, 607, 1047, 1052, false, .none⟩,
 ⟨qK 52, "need_bit", 2, 614, 1055, 1059, false, .none⟩,
 ⟨qK 53, "need_value", 2, 621, 1062, 1067, false, .none⟩,
 ⟨qq 54 0, "RangeWriter.__init__", 2, 635, 1082, 1086, false, .none⟩,
 ⟨qq 54 1, "RangeWriter.shift", 2, 642, 1089, 1094, false, .none⟩,
 ⟨qq 54 2, "RangeWriter.fill", 2, 649, 1097, 1101, false, .none⟩,
 ⟨qq 54 3, "RangeWriter.need_open", 2, 656, 1104, 1108, false, .none⟩,
 ⟨qq 54 4, "RangeWriter.bit", 2, 663, 1111, 1120, false, .none⟩,
 ⟨qq 54 5, "RangeWriter.direct", 2, 670, 1123, 1130, false, .none⟩,
 ⟨qq 54 6, "RangeWriter.tree", 2, 677, 1133, 1144, false, .none⟩,
 ⟨qq 54 7, "RangeWriter.reverse", 2, 684, 1147, 1158, false, .none⟩,
 ⟨qq 54 8, "RangeWriter.size", 2, 691, 1161, 1165, false, .none⟩,
 ⟨qq 54 9, "RangeWriter.done", 2, 698, 1168, 1173, false, .none⟩,
 ⟨qK 56, "_law_urn", 3, 712, 1192, 1199, false, .none⟩,
 ⟨qK 57, "_law_take", 3, 719, 1202, 1208, false, .none⟩,
 ⟨qK 58, "_law_before", 3, 726, 1211, 1218, false, .none⟩,
 ⟨qK 59, "_law_far", 3, 733, 1221, 1230, false, .none⟩,
 ⟨qK 60, "_law_long", 3, 740, 1233, 1238, false, .none⟩,
 ⟨qK 61, "_law_step", 3, 747, 1241, 1252, false, .none⟩,
 ⟨qK 62, "_law_tree", 3, 752, 1255, 1258, true, .none⟩,
 ⟨qK 63, "_law_mirror", 3, 757, 1261, 1264, true, .none⟩,
 ⟨qK 64, "_law_letter", 3, 764, 1267, 1279, false, .none⟩,
 ⟨qK 65, "_law_many", 3, 771, 1282, 1288, false, .none⟩,
 ⟨qK 66, "_law_gap", 3, 776, 1291, 1294, true, .none⟩,
 ⟨qK 67, "_law_bits", 3, 783, 1297, 1313, false, .none⟩,
 ⟨qK 68, "_law_rows", 3, 790, 1316, 1323, false, .none⟩,
 ⟨qK 69, "_law_set", 3, 797, 1326, 1339, false, .none⟩,
 ⟨qK 70, "_law_write", 3, 804, 1342, 1347, false, .none⟩,
 ⟨qK 71, "_law_near_right", 3, 811, 1350, 1360, false, .none⟩,
 ⟨qK 72, "_law_between", 3, 818, 1363, 1373, false, .none⟩,
 ⟨qK 73, "_law_behind", 3, 825, 1376, 1384, false, .none⟩,
 ⟨qK 74, "_law_growth", 3, 830, 1387, 1390, true, .none⟩,
 ⟨qK 75, "law", 3, 837, 1393, 1410, false, .none⟩,
 ⟨qK 19, "fresh", 0, 115, 338, 342, false, .none⟩,
 ⟨qq 18 0, "Cells.__init__", 0, 80, 296, 301, false, .none⟩,
 ⟨qq 18 2, "Cells.__getitem__", 0, 94, 311, 316, false, .none⟩,
 ⟨qq 18 3, "Cells.__setitem__", 0, 101, 319, 325, false, .none⟩]
noncomputable def d3 : List (String × Nat × Value) := [("__name__", 165, .str "law_tk0124_01" 1190), ("__doc__", 166, .none), ("__package__", 167, .none), ("__loader__", 168, .builtin "__main__.__loader__#opaque"), ("__spec__", 169, .none), ("__annotations__", 170, .ref 6), ("__builtins__", 171, .ref 4), ("__file__", 173, .str "/claim/cut.py" 172), ("__cached__", 174, .none), ("_wall", 193, .ref 21), ("PressError", 223, .ref 39), ("BadDistance", 239, .ref 52), ("BadArgument", 255, .ref 64), ("STATES", 259, .int 12 258), ("LITERAL_STATES", 261, .int 7 260), ("MOST_POSITIONS", 263, .int 16 262), ("START", 265, .int 1024 264), ("LEAST_MATCH", 267, .int 2 266), ("MOST_MATCH", 269, .int 273 268), ("LENGTH_STATES", 271, .int 4 270), ("LITERAL_ROW", 273, .int 768 272), ("FIRST_DIRECT", 275, .int 14 274), ("ALIGN_BITS", 277, .int 4 276), ("END_DISTANCE", 281, .int 4294967296 280), ("SHORT_ROW", 283, .int 64 282), ("Cells", 337, .ref 104), ("fresh", 344, .ref 115), ("Props", 404, .ref 154), ("after_literal", 411, .ref 165), ("after_match", 418, .ref 172), ("after_rep", 425, .ref 179), ("after_short", 432, .ref 186), ("is_after_literal", 439, .ref 193), ("length_state", 446, .ref 200), ("slot_base", 454, .ref 207), ("slot_of", 466, .ref 214), ("LengthModels", 506, .ref 238), ("Models", 591, .ref 294), ("Reps", 662, .ref 352), ("KINDS", 669, .ref 357), ("MOST_STEP_OCTETS", 671, .int 24 670), ("need_whole", 679, .ref 364), ("need_number", 689, .ref 371), ("step_length", 696, .ref 378), ("repeats", 707, .ref 385), ("octet_behind", 716, .ref 392), ("StepCoder", 853, .ref 472), ("LzmaWriter", 1017, .ref 598), ("MODEL_BITS", 1021, .int 11 1020), ("TOTAL", 1024, .int 2048 1023), ("LEARN", 1026, .int 5 1025), ("LEAST_SPAN", 1030, .int 16777216 1029), ("MOST_SPAN", 1036, .int 4294967295 1035), ("CARRY", 1040, .int 4294967296 1039), ("MAY_CARRY", 1044, .int 4278190080 1043), ("FLUSHED", 1046, .int 5 1045), ("next_model", 1054, .ref 607), ("need_bit", 1061, .ref 614), ("need_value", 1069, .ref 621), ("RangeWriter", 1189, .ref 701), ("_law_urn", 1201, .ref 712), ("_law_take", 1210, .ref 719), ("_law_before", 1220, .ref 726), ("_law_far", 1232, .ref 733), ("_law_long", 1240, .ref 740), ("_law_step", 1254, .ref 747), ("_law_tree", 1260, .ref 752), ("_law_mirror", 1266, .ref 757), ("_law_letter", 1281, .ref 764), ("_law_many", 1290, .ref 771), ("_law_gap", 1296, .ref 776), ("_law_bits", 1315, .ref 783), ("_law_rows", 1325, .ref 790), ("_law_set", 1341, .ref 797), ("_law_write", 1349, .ref 804), ("_law_near_right", 1362, .ref 811), ("_law_between", 1375, .ref 818), ("_law_behind", 1386, .ref 825), ("_law_growth", 1392, .ref 830), ("law", 1412, .ref 837)]
noncomputable def Ry : List Ce := [⟨154, 153, "Props", [.type "object"], [.ref 154, .type "object"], [], 345, 353, none, 4, [("__module__", 352, .str "threepress.lzmastate" 256), ("__firstlineno__", 356, .int 47 355), ("__init__", 371, .ref 130), ("octet", 378, .ref 137), ("literals", 385, .ref 144), ("position", 393, .ref 151), ("__static_attributes__", 397, .ref 152), ("__dict__", 399, .ref 155), ("__weakref__", 401, .ref 156), ("__doc__", 402, .none)]⟩,
 ⟨238, 237, "LengthModels", [.type "object"], [.ref 238, .type "object"], [], 467, 475, none, 4, [("__module__", 474, .str "threepress.lzmastate" 256), ("__firstlineno__", 478, .int 92 477), ("__init__", 486, .ref 228), ("reset", 493, .ref 235), ("__static_attributes__", 499, .ref 236), ("__dict__", 501, .ref 239), ("__weakref__", 503, .ref 240), ("__doc__", 504, .none)]⟩,
 ⟨294, 293, "Models", [.type "object"], [.ref 294, .type "object"], [], 507, 515, none, 4, [("__module__", 514, .str "threepress.lzmastate" 256), ("__firstlineno__", 518, .int 107 517), ("__init__", 526, .ref 256), ("reset", 533, .ref 263), ("cell", 542, .ref 270), ("slot_start", 550, .ref 277), ("special_start", 560, .ref 284), ("literal_start", 570, .ref 291), ("__static_attributes__", 584, .ref 292), ("__dict__", 586, .ref 295), ("__weakref__", 588, .ref 296), ("__doc__", 589, .none)]⟩,
 ⟨352, 351, "Reps", [.type "object"], [.ref 352, .type "object"], [], 592, 600, none, 4, [("__module__", 599, .str "threepress.lzmastate" 256), ("__firstlineno__", 603, .int 152 602), ("__init__", 615, .ref 314), ("reset", 622, .ref 321), ("first", 629, .ref 328), ("use", 638, .ref 335), ("put", 646, .ref 342), ("copy", 653, .ref 349), ("__static_attributes__", 655, .ref 350), ("__dict__", 657, .ref 353), ("__weakref__", 659, .ref 354), ("__doc__", 660, .none)]⟩,
 ⟨472, 471, "StepCoder", [.type "object"], [.ref 472, .type "object"], [.ref 598], 717, 725, none, 4, [("__module__", 724, .str "threepress.lzmaencode" 663), ("__firstlineno__", 728, .int 206 727), ("__init__", 737, .ref 406), ("put_literal", 750, .ref 413), ("put_plain", 763, .ref 420), ("put_beside", 777, .ref 427), ("put_length", 789, .ref 434), ("put_distance", 802, .ref 441), ("put_match", 813, .ref 448), ("put_index", 823, .ref 455), ("put_rep", 834, .ref 462), ("put_short", 843, .ref 469), ("__static_attributes__", 846, .ref 470), ("__dict__", 848, .ref 473), ("__weakref__", 850, .ref 474), ("__doc__", 851, .none)]⟩,
 ⟨598, 597, "LzmaWriter", [.ref 472], [.ref 598, .ref 472, .type "object"], [], 854, 862, some (.ref 477), 2, [("__module__", 861, .str "threepress.lzmaencode" 663), ("__firstlineno__", 865, .int 294 864), ("__init__", 874, .ref 490), ("reset_state", 881, .ref 497), ("reset_place", 888, .ref 504), ("passed", 896, .ref 511), ("check_back", 904, .ref 518), ("check_length", 912, .ref 525), ("literal", 923, .ref 532), ("match", 932, .ref 539), ("rep", 941, .ref 546), ("short", 948, .ref 553), ("end_mark", 955, .ref 560), ("matched_octet", 964, .ref 567), ("distance_of", 972, .ref 574), ("write_step", 985, .ref 581), ("write_steps", 995, .ref 588), ("write_within", 1010, .ref 595), ("__static_attributes__", 1014, .ref 596), ("__doc__", 1015, .none)]⟩,
 ⟨701, 700, "RangeWriter", [.type "object"], [.ref 701, .type "object"], [], 1070, 1078, none, 4, [("__module__", 1077, .str "threepress.rangecoder" 1018), ("__firstlineno__", 1081, .int 414 1080), ("__init__", 1088, .ref 635), ("shift", 1096, .ref 642), ("fill", 1103, .ref 649), ("need_open", 1110, .ref 656), ("bit", 1122, .ref 663), ("direct", 1132, .ref 670), ("tree", 1146, .ref 677), ("reverse", 1160, .ref 684), ("size", 1167, .ref 691), ("done", 1175, .ref 698), ("__static_attributes__", 1182, .ref 699), ("__dict__", 1184, .ref 702), ("__weakref__", 1186, .ref 703), ("__doc__", 1187, .none)]⟩,
 ⟨104, 103, "Cells", [.type "object"], [.ref 104, .type "object"], [], 284, 292, none, 4, [("__module__", 291, .str "threepress.lzmastate" 256), ("__firstlineno__", 295, .int 27 294), ("__init__", 303, .ref 80), ("__len__", 310, .ref 87), ("__getitem__", 318, .ref 94), ("__setitem__", 327, .ref 101), ("__static_attributes__", 330, .ref 102), ("__dict__", 332, .ref 105), ("__weakref__", 334, .ref 106), ("__doc__", 335, .none)]⟩]
noncomputable def aX : List (Nat × Obj) := [(123, ⟨.type "tuple", none, .seq #[.int 3 357, .int 0 358, .int 2 359] 0, #[]⟩), (306, ⟨.type "tuple", none, .seq #[.int 1 604, .int 1 605, .int 1 606, .int 1 607] 0, #[]⟩), (307, ⟨.type "tuple", none, .seq #[.ref 306] 0, #[]⟩), (357, ⟨.type "tuple", none, .seq #[.str "lit" 665, .str "match" 666, .str "rep" 667, .str "short" 668] 0, #[]⟩)]
noncomputable def Fe.md (e : Fe) : Value := match qj Rk e.m with | some v => v | none => .none
noncomputable def Fe.fd (e : Fe) : FuncData := fnX (Qu e.st) e.q (je e.st) (jW e.st) (qJ e.st) [] e.dV .none .none e.md none (.ref (e.a - 1)) .none
noncomputable def Fe.fo (e : Fe) : Obj := ⟨.type "function", none, .func e.fd, #[]⟩
noncomputable def Fe.co (e : Fe) : Obj := ⟨.type "code", none, .fields #[.str (Qu e.st) e.t, .str e.q (e.t + 1), .str "/claim/cut.py" (e.t + 2), .int (uV e.st) 0, .int (je e.st).args.length 0, .int 0 0, .int 0 0, .int 3 0,
 .ref (e.a - cond e.sh 4 6), .bool true, .int 181 0, .ref (e.a - cond e.sh 3 5), .none, cond e.sh .none (.ref (e.a - 4)), cond e.sh .none (.ref (e.a - 3)), .ref (e.a - 2), .int e.u 0, .int (uV e.st) 0, .str "/claim/cut.py" (e.u + 1)], #[]⟩
noncomputable def Bl (P : Params) (l : List (String × Nat × Value)) (k : Nat) : Obj := ⟨.type "dict", none, .dict (l.map λ (x, t, v) => ⟨PyData.keyHash P x, .str x t, v⟩).toArray k, #[]⟩
noncomputable def Ce.co (e : Ce) : Obj := ⟨.type "type", none, .cls { name := e.n, bases := e.bs, mro := e.mr, ns := e.ns, qualname := e.n, subclasses := e.sb }, #[e.s0, none, some (.str e.n e.t1), some (.str e.n e.t2), some (.builtin "object.__new__"), some (.bool true)]⟩
noncomputable def KK (P : Params) : Frag := (2, ⟨.none, none, .dict #[] 0, #[]⟩) :: (3, Bl P d3 80) :: Ry.flatMap (λ e => [(e.a, e.co), (e.ns, Bl P e.d e.k)]) ++ wV.flatMap (λ e => [(e.a, e.fo), (e.a - 1, e.co)]) ++ aX
noncomputable def KA : List Nat := 2 :: 3 :: Ry.flatMap (λ e => [e.a, e.ns]) ++ wV.flatMap (λ e => [e.a, e.a - 1]) ++ aX.map (·.1)
theorem Dm (P : Params) : KA = (KK P).map (·.1) := by kernel_rfl
theorem rZ (w : World) (os : OsState) : rV KA (Gm Re (Rc w) 6000 ⟨Vn w.params, 11, {}, #[], {}, 181, os⟩ (topStub PySem.Challenge.pw_tk0124_01)) = some (838, #[], {}, (KK w.params).map λ p => some p.2) := by kernel_rfl
noncomputable abbrev PW : Program := PySem.Challenge.pw_tk0124_01
noncomputable def Kw (P : Params) : Heap := ⟨#[boot_o_0 P, boot_o_1 P, ⟨.none, none, .dict #[] 0, #[]⟩, Bl P d3 80], {}⟩
noncomputable def Wf (P : Params) : Heap := ⟨#[boot_o_0 P, boot_o_1 P, ⟨.none, none, .dict #[] 0, #[]⟩, boot_o_3 P], {}⟩
theorem xV (P : Params) : (Kw P).isNs builtinsNs = true /\ (Kw P).bltView = bltViewBooted := ⟨by kernel_rfl, by kernel_rfl⟩
theorem Uw (P : Params) : (Kw P).isNs mainGlobals = true /\ (Wf P).isNs mainGlobals = true /\ ((Kw P).nsKeys mainGlobals).all (λ k => startupNames.contains k || PW.boundNames.contains k) = true := ⟨by kernel_rfl, by kernel_rfl, by kernel_rfl⟩
theorem pD (P : Params) : laidNames.map ((Kw P).nsMap mainGlobals) = laidNames.map ((Wf P).nsMap mainGlobals) := by kernel_rfl
theorem wU (P : Params) : (Kw P).nsMap mainGlobals "__builtins__" = some (.ref 4) /\ (Kw P).nsMap mainGlobals "law" = some (.ref 837) /\ (Wf P).nsMap mainGlobals "__annotations__" = some (.ref 6) := ⟨by kernel_rfl, by kernel_rfl, by kernel_rfl⟩
theorem o4 (P : Params) : (boot_o_4 P).cls = .type "module" /\ (boot_o_4 P).dict = some 0 := ⟨by kernel_rfl, by kernel_rfl⟩
theorem bM : PW.theDef "law" = some (je (qK 75), jW (qK 75), qJ (qK 75)) := by kernel_rfl
theorem vQ {o x : Obj} (h : alive o = some x) : x = o := by
 obtain ⟨c, d, dt, sl⟩ := o
 cases dt <;> cases h <;> rfl
theorem da (P : Params) : (KK P).all (λ p => iw p.1 838 && (alive p.2).isSome) = true := by kernel_rfl
theorem Fl {T : BT} {n : Nat} {life : Life} {K : Frag} (hl : K.all (λ p => iw p.1 n && (alive p.2).isSome) = true) (h : (K.map (·.1)).map T.get = K.map λ p => some p.2) : (K.map (·.1)).map (absHeap T n life).get? = K.map λ p => some p.2 := by
 induction K with
 | nil => rfl
 | cons p r ih =>
   simp only [IS, List.cons.injEq, List.all_cons, ED] at h hl |-
   obtain ⟨⟨lt, al⟩, hr⟩ := hl
   obtain ⟨x, hx⟩ := iZ.mp al
   refine ⟨?_, ih hr h.2⟩
   rw [abs_get (CR lt) h.1, hx, vQ hx]
structure jj (P : Params) (h : Heap) : Prop where
 K : (KK P).In h
 b : h.get? 0 = some (boot_o_0 P)
 m : h.get? 1 = some (boot_o_1 P)
theorem gW (P : Params) : (KK P).lookup 2 = some ⟨.none, none, .dict #[] 0, #[]⟩ /\ (KK P).lookup 3 = some (Bl P d3 80) /\ (KK P).lookup 837 = (qj wV 83).map Fe.fo := ⟨by kernel_rfl, by kernel_rfl, by kernel_rfl⟩
section
variable {P : Params} {h : Heap}
theorem jj.g3 (L : jj P h) : h.get? 3 = (Kw P).get? 3 := (L.K _ _ (gW P).2.1).trans (by kernel_rfl)
theorem jj.g0 (L : jj P h) : h.get? 0 = (Kw P).get? 0 := L.b.trans (by kernel_rfl)
theorem zq {h h' : Heap} {a : Addr} (e : h.get? a = h'.get? a) : h.isNs a = h'.isNs a /\ h.nsMap a = h'.nsMap a /\ h.nsKeys a = h'.nsKeys a /\ h.nsPairs a = h'.nsPairs a := by
 refine ⟨?_, funext λ x => ?_, ?_, ?_⟩
 · unfold Heap.isNs; rw [e]
 · unfold Heap.nsMap; rw [e]
 · unfold Heap.nsKeys; rw [e]
 · unfold Heap.nsPairs; rw [e]
theorem jj.isG (L : jj P h) : h.isNs mainGlobals = true := (zq L.g3).1.trans (Uw P).1
theorem jj.glob (L : jj P h) (x : Str) : globalOf h x = (Kw P).nsMap mainGlobals x := (Pin.globalOf_eq L.isG x).trans (congrFun (zq L.g3).2.1 x)
theorem jj.isB (L : jj P h) : h.isNs builtinsNs = true := (zq L.g0).1.trans (xV P).1
theorem jj.blt (L : jj P h) (x : Str) (hx : x ≠ "__name__") : h.nsMap builtinsNs x = bootBuiltins x := by
 exact (congrFun (zq (a := builtinsNs) L.g0).2.1 x).trans (Heap.of_bltView (xV P).1 (xV P).2 x hx)
theorem dN (P : Params) : (Kw P).isNs cStatics = true /\ (Kw P).nsKeys cStatics = [] := ⟨by kernel_rfl, by kernel_rfl⟩
theorem dh {h : Heap} (e : h.get? 2 = (Kw P).get? 2) : h.isNs cStatics = true /\ ∀ k, staticOf h k = none := by
 have e1 : h.isNs cStatics = true := (zq (a := cStatics) e).1.trans (dN P).1
 refine ⟨e1, λ k => ?_⟩
 rw [Pin.staticOf_eq e1, (zq (a := cStatics) e).2.1]
 exact Heap.nsMap_none (by rw [(dN P).2]; exact Im)
theorem jj.stat (L : jj P h) : h.isNs cStatics = true /\ ∀ k, staticOf h k = none := dh (P := P) ((L.K _ _ (gW P).1).trans (by kernel_rfl))
theorem jj.lim (L : jj P h) : h.NoLimit := by
 refine ⟨_, .of_isNs L.stat.1, ?_⟩
 rw [<- Pin.staticOf_eq L.stat.1]
 exact L.stat.2 _
end
theorem By (P : Params) : (boot_heap P).get? 0 = some (boot_o_0 P) /\ (boot_heap P).get? 1 = some (boot_o_1 P) /\ (boot_heap P).get? 2 = some ⟨.none, none, .dict #[] 0, #[]⟩ /\ (boot_heap P).get? 3 = some (boot_o_3 P) /\ (boot_heap P).get? 4 = some (boot_o_4 P) /\ (Wf P).get? 3 = some (boot_o_3 P) := ⟨by kernel_rfl, by kernel_rfl, by kernel_rfl, by kernel_rfl, by kernel_rfl, by kernel_rfl⟩
theorem bo : importedModules PW.main.body = [] := by kernel_rfl
theorem Ux (s : Shared) : fenceModules? PW s = some s := by
 unfold fenceModules?
 rw [bo]
 rw [show fenceAll? [] s = some s from rfl, Option.bind_some, show PW.main.body.any namesNumpy = false from by kernel_rfl]
 exact if_neg iu
theorem bj : opening PW = plainProg PW.main.scope.names := by kernel_rfl
theorem wj (w : World) : (∃ s, AfterRun (opening PW) w s) /\ ∀ s, AfterRun (opening PW) w s -> ∃ s₀, fenceModules? PW s = some s₀ /\ s₀.gens = #[] /\ ∃ s₁, TopRan PW w s₀ s₁ /\ s₁.asleep /\ s₁.gens = #[] /\ jj w.params s₁.heap := by
 obtain ⟨s₀, h2, e0⟩ := lm.mp (boot_open (p := PW) (N := 600) bj rfl Ux w)
 obtain ⟨s, h4, h5⟩ := Option.bind_eq_some_iff.mp h2
 rw [<- table_eq_tree] at h4
 have A := AfterImport.of_importEnds h4
 refine ⟨⟨s, A⟩, λ s' hs' => ?_⟩
 obtain rfl : s' = s := AfterImport.unique hs' A
 obtain ⟨heap, gens, drawn, toks, os⟩ := s₀
 obtain ⟨rfl, rfl, rfl, rfl⟩ : heap = boot_heap w.params /\ gens = #[] /\ drawn = boot_drawn /\ toks = boot_toks := by simpa using e0
 refine ⟨_, h5, rfl, ?_⟩
 obtain ⟨s', r1, r2⟩ := lm.mp (rZ w os)
 rw [<- fE, <- fC] at r1
 have r3 := wk r1
 rw [<- table_eq_tree] at r3
 obtain ⟨n1, n2, n3, n4⟩ : s'.n = 838 /\ s'.gens = #[] /\ s'.drawn = {} /\ KA.map s'.tree.get = (KK w.params).map λ p => some p.2 := by simpa only [Prod.mk.injEq] using r2
 have z : (SharedT.abs ⟨Vn w.params, 11, {}, #[], {}, 181, os⟩).asleep := ⟨rfl, rfl⟩
 obtain ⟨a, l, o, fr⟩ := topRun_spec _ _ _ _ z r3
 have e : (SharedT.abs ⟨Vn w.params, 11, {}, #[], {}, 181, os⟩) = ⟨boot_heap w.params, #[], boot_drawn, boot_toks, os⟩ := by
   rw [US]; rfl
 rw [e] at a l o fr
 obtain ⟨b0, b1, b2, b3, b4, b5⟩ := By w.params
 have L : jj w.params s'.abs.heap := ⟨Frag.in_of (Dm _) (by
     rw [Dm w.params] at n4 |-
     show _ = _
     have := Fl (life := s'.life) (n := s'.n) (by rw [n1]; exact da _) n4
     exact this),
   fr _ _ (by decide) (by decide) (by decide) (by decide) b0, fr _ _ (by decide) (by decide) (by decide) (by decide) b1⟩
 have e3 : (boot_heap w.params).get? 3 = (Wf w.params).get? 3 := b3.trans b5.symm
 have g0 : ∀ x, globalOf (boot_heap w.params) x = (Wf w.params).nsMap mainGlobals x := λ x =>
   (Pin.globalOf_eq ((zq (a := mainGlobals) e3).1.trans (Uw _).2.1) x).trans (congrFun (zq (a := mainGlobals) e3).2.1 x)
 have st0 : ∀ k, staticOf (boot_heap w.params) k = none := (dh (P := w.params) (b2.trans (by kernel_rfl))).2
 refine ⟨s'.abs, ⟨a, l, Shared.rest_eq o, λ b ob hb hn => ?_, ?_, ?_, Pin.keysAreStrs_of L.isG, ?_, ?_, ?_, ?_, ?_⟩, Shared.asleep_of_life l ⟨rfl, rfl⟩, n2, L⟩
 · have lt := eW hb
   refine fr b ob lt (λ q => hn (.inl q)) (λ q => hn (.inr (.inl q))) (λ q => hn (.inr (.inr ?_))) hb
   rw [g0, (wU w.params).2.2]
   exact q
 · intro k v hk
   rw [L.stat.2] at hk
   cases hk
 · intro k
   exact .inl ((L.stat.2 k).trans (st0 k).symm)
 · intro x hx
   exact (Pin.builtinOf_eq L.isB x).trans (L.blt x hx)
 · refine ⟨4, boot_o_4 w.params, (L.glob _).trans (wU w.params).1, ?_, (o4 _).1, (o4 _).2⟩
   exact fr _ _ (by decide) (by decide) (by decide) (by decide) b4
 · intro g hg
   rw [show s'.abs.gens = #[] from n2] at hg
   simp at hg
 · intro x v hx
   rw [L.glob] at hx
   by_cases hk : x ∈ (Kw w.params).nsKeys mainGlobals
   · have := Eh.mp (Uw w.params).2.2 x hk
     simpa only [Bool.or_eq_true, List.contains_iff_mem] using this
   · rw [Heap.nsMap_none hk] at hx
     cases hx
 · intro x hx
   rw [L.glob, g0]
   exact Ii.mp (pD w.params) x hx
noncomputable def exL : List Df := [⟨.nop, 1, 1, [], qK 19, ["count"]⟩, ⟨.nop, 2, 2, [], qq 18 0, ["self", "count"]⟩, ⟨.nop, 2, 2, [], qq 18 2, ["self", "index"]⟩, ⟨.nop, 3, 3, [], qq 18 3, ["self", "index", "model"]⟩]
noncomputable def UD : List Df := pR ++ exL
noncomputable def Df.dv (d : Df) : List Value := match d.dl with | [] => [] | _ => [.ref 306]
noncomputable def bl (l : List Nat) (n : Nat) : Nat := match qj l n with | some a => a | none => 0
noncomputable def NM (bz : List (Addr × Obj)) : Nm := { sn := yv rA, an := yv As, ca := bl (Ry.map (·.a)), gn := yv AK, fn := yv AL, fa := bl (wV.map (·.a)), isF := λ n => match qj bS n with | some b => b | none => false, cn := yv AN, bz := bz }
noncomputable def PY : List (Addr × Obj) := [(306, ⟨.type "tuple", none, .seq #[.int 1 604, .int 1 605, .int 1 606, .int 1 607] 0, #[]⟩), (357, ⟨.type "tuple", none, .seq #[.str "lit" 665, .str "match" 666, .str "rep" 667, .str "short" 668] 0, #[]⟩)]
noncomputable abbrev NN : Nm := NM PY
noncomputable def Vd (d : Df) : Bool := (match (qJ d.st).kind with | .function => true | _ => false) && !(qJ d.st).isCoroutine && !(qJ d.st).isGenerator && decide ((eQ d.n).map d.c.nl).Nodup && (eQ d.n).all (λ i => !(d.c.nl i == ("__debug__" : Str))) &&
 eY (d.na + d.dv.length) d.n && (eQ (d.na + d.dv.length)).all (λ i => iw (d.c.kd i) 2)
theorem UF : UD.all Vd = true := by decide +kernel
theorem DH : UD.map Df.st = wV.map Fe.st := by kernel_rfl
theorem Fb : pR.all (λ d => mB NN d.c d.s (jW d.st)) = true := by decide +kernel
theorem Fq (P : Params) : wV.map (λ e => (KK P).lookup e.a) = wV.map λ e => some e.fo := by kernel_rfl
theorem FC (P : Params) : wV.all (λ e => codeIn (KK P) (.ref (e.a - 1)) e.q) = true := by kernel_rfl
theorem Hd (P : Params) (S : Setting) (g : Nat -> Value) : (UD.zip wV).map (λ x => peek (KK P) S (bindArgs x.2.fd ⟨(eQ x.1.na).map g, []⟩)) =
 (UD.zip wV).map λ x => some (((eQ (x.1.na + x.1.dv.length)).map x.1.c.nl).zip ((eQ x.1.na).map g ++ x.1.dv)) := by kernel_rfl
theorem Zq {α : Type} {a b : Nat} {v : α} : ∀ {l : List (Nat × Nat × α)}, ZE a b l = some v -> (a, b, v) ∈ l
 | [], h => by cases h
 | (x, y, u) :: r, h => by
   replace h : (bif eB a x && eB b y then some u else ZE a b r) = some v := h
   cases hc : (eB a x && eB b y) with
   | true =>
     rw [hc, cond_true] at h
     obtain ⟨e1, e2⟩ := EM.mp hc
     rw [em e1, em e2, Option.some.inj h]
     exact CZ ..
   | false =>
     rw [hc, cond_false] at h
     exact CY _ (Zq h)
theorem yP {α : Type} {a b : Nat} {v : α} {l : List (Nat × Nat × α)} {f : Nat × Nat × α -> Bool} (h : l.all f = true) (e : ZE a b l = some v) : f (a, b, v) = true := Eh.mp h _ (Zq e)
noncomputable def gi {α : Type} (f : Nat -> α -> Bool) : Nat -> List α -> Bool
 | _, [] => true
 | k, x :: r => f k x && gi f (k + 1) r
theorem Jg {α : Type} {f : Nat -> α -> Bool} : ∀ {l : List α} {k i : Nat} {x : α}, gi f k l = true -> qj l i = some x -> f (k + i) x = true
 | [], _, _, _, _, h => by cases h
 | y :: r, k, 0, x, h, e => by
   cases e
   exact (EM.mp h).1
 | y :: r, k, i + 1, x, h, e => by
   have := Jg (EM.mp h).2 e
   rwa [show k + 1 + i = k + (i + 1) by omega] at this
theorem rB {l : List String} {n : Nat} {s : String} (h : qj l n = some s) : yv l n = Str.ofString s := by unfold yv; rw [h]
noncomputable def XC (l : List String) : Bool := decide (l.map Str.ofString).Nodup && l.all λ s => match (Str.ofString s).cps.toList with | c :: _ => iw c 2000000 | [] => true
theorem xg {l : List String} (h : XC l = true) : ∀ a b, yv l a = yv l b -> a = b := by
 obtain ⟨h1, h2⟩ := EM.mp h
 have h1 := of_decide_eq_true h1
 have key : ∀ {s : String} {n : Nat}, s ∈ l -> Str.ofString s = ⟨#[n + 2000000]⟩ -> False := λ {s n} hs e => by
   have z := Eh.mp h2 s hs
   rw [e] at z
   have := CR z
   omega
 intro a b e
 unfold yv at e
 rw [qE, qE] at e
 cases ha : l[a]? with
 | some s =>
   cases hb : l[b]? with
   | some t =>
     rw [ha, hb] at e
     obtain ⟨la, ea⟩ := Ef.mp ha
     obtain ⟨lb, eb⟩ := Ef.mp hb
     have nd := List.pairwise_iff_getElem.mp h1
     have e : Str.ofString s = Str.ofString t := e
     rcases Nat.lt_trichotomy a b with q | q | q
     · exact (nd a b (by simpa using la) (by simpa using lb) q (by rw [IZ, IZ, ea, eb]; exact e)).elim
     · exact q
     · exact (nd b a (by simpa using lb) (by simpa using la) q (by rw [IZ, IZ, ea, eb]; exact e.symm)).elim
   | none => rw [ha, hb] at e; exact (key (eR ha) e).elim
 | none =>
   cases hb : l[b]? with
   | some t => rw [ha, hb] at e; exact (key (eR hb) e.symm).elim
   | none =>
     rw [ha, hb] at e
     have e : (⟨#[a + 2000000]⟩ : Str) = ⟨#[b + 2000000]⟩ := e
     injection e with e
     injection e with e
     injection e with e
     omega
section
variable (P : Params)
noncomputable def gh (x : Nat × Nat × Unit) : Bool := plainGet (KK P) (NN.ca x.1) (NN.an x.2.1) && hasDictIn (KK P) (NN.ca x.1) && (match findIn (KK P) (.ref (NN.ca x.1)) (NN.an x.2.1) with | some attr => noGet (KK P) attr | none => false) &&
 findIn (KK P) (.ref (NN.ca x.1)) "__setattr__" == some (some (.builtin "object.__setattr__")) && plainOver (KK P) (NN.ca x.1) && takerIn (KK P) (NN.ca x.1) (NN.an x.2.1) == some none
noncomputable def du (x : Nat × Nat × Nat) : Bool := plainGet (KK P) (NN.ca x.1) (NN.an x.2.1) && findIn (KK P) (.ref (NN.ca x.1)) (NN.an x.2.1) == some (some (.ref (NN.fa x.2.2))) && isFn (KK P) (.ref (NN.fa x.2.2)) && keepIn (KK P) (.ref (NN.fa x.2.2))
noncomputable def uH (c f : Nat) : Bool := nsIn (KK P) mainGlobals (NN.cn c) == some (some (.ref (NN.ca c))) && keepIn (KK P) (.ref (NN.ca c)) && makesIn (KK P) (NN.ca c) && findIn (KK P) (.ref (NN.ca c)) "__init__" == some (some (.ref (NN.fa f))) && isFn (KK P) (.ref (NN.fa f))
noncomputable def dL (f : Nat) (b : Bool) : Bool := !b || (nsIn (KK P) mainGlobals (NN.fn f) == some (some (.ref (NN.fa f))) && keepIn (KK P) (.ref (NN.fa f)))
noncomputable def dK (g : Nat) (v : V) : Bool := match v, nsIn (KK P) mainGlobals (NN.gn g) with
 | .int i, some (some (.int j _)) => decide (i = j)
 | .tup _, some (some (.ref a)) => eB g 8 && eB a 357
 | _, _ => false
theorem gg : Dk.all (gh P) = true := by kernel_rfl
theorem fX : dB.all (du P) = true := by kernel_rfl
theorem br : gi (uH P) 0 wS = true := by kernel_rfl
theorem Fs : gi (dL P) 0 bS = true := by kernel_rfl
theorem Fn : gi (dK P) 0 Ak = true := by kernel_rfl
theorem BA : yT.map (nsIn (KK P) mainGlobals) = yT.map λ _ => some none := by kernel_rfl
theorem FA : nsIn (KK P) mainGlobals (NN.cn 4) = some (some (.ref (NN.ca 4))) /\ specialIn (KK P) (.ref (NN.ca 4)) "__getattribute__" = some (some (.builtin "type.__getattribute__")) /\
   (∃ mc, typeIn (KK P) (.ref (NN.ca 4)) = some mc /\ readsIn (KK P) (NN.ca 4) mc = true /\ findCls (KK P) (.ref (NN.ca 4)) mc (NN.an 41) = some (.val (.ref (NN.fa 28)))) /\ keepIn (KK P) (.ref (NN.fa 28)) = true :=
 ⟨by kernel_rfl, by kernel_rfl, ⟨.type "type", by kernel_rfl, by kernel_rfl, by kernel_rfl⟩, by kernel_rfl⟩
end
theorem rg : XC As = true := by decide +kernel
theorem Og : XC rA = true := by decide +kernel
theorem WV : rA.all (λ s => eY (Str.ofString s).length 100) = true := by decide +kernel
theorem Bp : pX.all (λ x => decide (NN.sn x.1 ++ NN.sn x.2.1 = NN.sn x.2.2)) = true := by decide +kernel
theorem pd (P : Params) : nsIn (KK P) mainGlobals (NN.gn 8) = some (some (.ref 357)) := by kernel_rfl
noncomputable abbrev Dl : Program := PySem.Challenge.pw_tk0124_01
section
variable (w : World)
theorem DP : ∀ a, (NN.sn a).length <= 100 := by
 intro a
 show (yv rA a).length <= 100
 unfold yv
 split
 · rename_i s h
   rw [qE] at h
   exact CR (Eh.mp WV s (eR h))
 · show 1 <= 100; decide
theorem Ud (ix : Ix) (h : ∀ p ∈ NN.bz, p ∈ ix.bz) : VR NN Dl w ix (.ref 357) (.tup [.str 0, .str 1, .str 2, .str 3]) :=
 .tup (o := ⟨.type "tuple", none, .seq #[.str "lit" 665, .str "match" 666, .str "rep" 667, .str "short" 668] 0, #[]⟩) (vs := [.str "lit" 665, .str "match" 666, .str "rep" 667, .str "short" 668])
   (.inr (h _ (CY _ (CZ ..)))) ⟨rfl, _, rfl⟩ (.cons (.str (n := 0)) (.cons (.str (n := 1)) (.cons (.str (n := 2)) (.cons (.str (n := 3)) .nil))))
theorem fw (ix : Ix) (h : ∀ p ∈ NN.bz, p ∈ ix.bz) : VR NN Dl w ix (.ref 306) (.tup [.int 1, .int 1, .int 1, .int 1]) :=
 .tup (o := ⟨.type "tuple", none, .seq #[.int 1 604, .int 1 605, .int 1 606, .int 1 607] 0, #[]⟩) (vs := [.int 1 604, .int 1 605, .int 1 606, .int 1 607])
   (.inr (h _ (CZ ..))) ⟨rfl, _, rfl⟩ (.cons .int (.cons .int (.cons .int (.cons .int .nil))))
theorem pz (P : Params) {g : Nat} {v : V} (h : bX g = some v) : ∃ v', nsIn (KK P) mainGlobals (NN.gn g) = some (some v') /\ ∀ ix : Ix, (∀ p ∈ NN.bz, p ∈ ix.bz) -> VR NN Dl w ix v' v := by
 have z := Jg (Fn P) h
 rw [ig] at z
 unfold dK at z
 split at z
 · rename_i i j t e
   rw [e]
   cases of_decide_eq_true z
   exact ⟨_, rfl, λ _ _ => .int⟩
 · rename_i l a e
   obtain ⟨z1, z2⟩ := EM.mp z
   cases em z1
   cases em z2
   rw [e]
   cases h
   exact ⟨_, rfl, Ud w⟩
 · cases z
theorem dO (Γ : Nat -> PT) : Qf NN Dl w (Km Γ) (KK w.params) where
 an := xg rg
 sn := xg Og
 cat a b c h := of_decide_eq_true (yP Bp h)
 short := DP
 get c a h := by
   obtain ⟨u, hu⟩ := iZ.mp h
   have z := yP (gg w.params) hu
   simp only [gh, ED, beq_iff_eq] at z
   obtain ⟨⟨⟨⟨⟨z1, z2⟩, z3⟩, _⟩, _⟩, _⟩ := z
   refine ⟨z1, z2, ?_⟩
   split at z3
   · exact ⟨_, ‹_›, z3⟩
   · cases z3
 glob g v h := pz w w.params h
 fn f h := by
   have h : (match qj bS f with | some b => b | none => false) = true := h
   cases e : qj bS f with
   | none => rw [e] at h; cases h
   | some b =>
     rw [e] at h
     cases (h : b = true)
     have z := Jg (Fs w.params) e
     rw [ig] at z
     simpa only [dL, IT, Bool.false_or, ED, beq_iff_eq] using z
 mt c m f h := by
   have z := yP (fX w.params) h
   simp only [du, ED, beq_iff_eq] at z
   exact ⟨z.1.1.1, z.1.1.2, beq_iff_eq.mpr (beq_iff_eq.mp z.1.2), z.2⟩
 ct c m f h := by
   have z := Zq h
   cases z with
   | head => exact FA w.params
   | tail _ z => cases z
 new c f h := by
   have h : (match qj wS c with | some f => some (some f) | none => none) = some (some f) := h
   cases e : qj wS c with
   | none => rw [e] at h; cases h
   | some g =>
     rw [e] at h
     cases h
     have z := Jg (br w.params) e
     rw [ig] at z
     simp only [uH, ED, beq_iff_eq] at z
     exact ⟨z.1.1.1.1, z.1.1.1.2, z.1.1.2, z.1.2, z.2⟩
 bi x hx := Ii.mp (BA w.params) x hx
 set c a h := by
   obtain ⟨u, hu⟩ := iZ.mp h
   have z := yP (gg w.params) hu
   simp only [gh, ED, beq_iff_eq] at z
   exact ⟨z.1.1.2, z.1.2, z.2⟩
end
theorem fS {f : Nat -> Str} {n : Nat} (h : ((eQ n).map f).Nodup) {i j : Nat} (hi : i < n) (hj : j < n) (e : f i = f j) : i = j := by
 have nd := List.pairwise_iff_getElem.mp h
 rcases Nat.lt_trichotomy i j with q | q | q
 · exact (nd i j (by simpa using hi) (by simpa using hj) q (by simpa using e)).elim
 · exact q
 · exact (nd j i (by simpa using hj) (by simpa using hi) q (by simpa using e.symm)).elim
theorem ky {d : Df} (h : Vd d = true) : ZT d.c (d.na + d.dv.length) /\ (qJ d.st).isCoroutine = false /\ (qJ d.st).isGenerator = false := by
 unfold Vd at h
 simp only [ED, Eh, decide_eq_true_eq, Ez, Bool.not_eq_true'] at h
 obtain ⟨⟨⟨⟨⟨⟨h1, h2⟩, h3⟩, h4⟩, h5⟩, h6⟩, h7⟩ := h
 refine ⟨⟨?_, λ i j hi hj e => fS h4 hi hj e, h5, CR h6, λ i hi => CR (h7 i hi)⟩, h2, h3⟩
 show (qJ d.st).kind = .function
 split at h1
 · assumption
 · cases h1
theorem JG {α β : Type} (f : α -> β) : ∀ (l : List α) (n : Nat), qj (l.map f) n = (qj l n).map f
 | [], _ => rfl
 | _ :: _, 0 => rfl
 | _ :: r, n + 1 => JG f r n
theorem wF {α β : Type} {x : α} {y : β} : ∀ {l : List α} {r : List β} {n : Nat}, qj l n = some x -> qj r n = some y -> qj (l.zip r) n = some (x, y)
 | _ :: _, _ :: _, 0, h1, h2 => by cases h1; cases h2; rfl
 | _ :: _, _ :: _, n + 1, h1, h2 => wF (l := _) (r := _) (n := n) h1 h2
theorem jO {α : Type} {x : α} {l : List α} {n : Nat} (h : qj l n = some x) : x ∈ l := by rw [qE] at h; exact eR h
theorem bI {n : Nat} {l : List Value} (h : l.length = n) : ∃ g : Nat -> Value, l = (eQ n).map g := by
 refine ⟨λ i => l.getD i .none, ?_⟩
 apply List.ext_getElem?
 intro i
 rw [eZ]
 by_cases hi : i < n
 · rw [EV hi, ii (by omega)]
   simp [List.getD_eq_getElem?_getD, ii (show i < l.length by omega)]
 · rw [iJ (by omega), iJ (by simp; omega)]
   rfl
theorem pE {f : Nat} {d : Df} (h : qj UD f = some d) : ∃ e, qj wV f = some e /\ d.st = e.st := by
 have z := congrArg (λ l => qj l f) DH
 simp only [JG, h, Option.map_some] at z
 obtain ⟨e, he, z⟩ := lm.mp z.symm
 exact ⟨e, he, z.symm⟩
theorem xU (P : Params) {f : Nat} {d : Df} (h : qj UD f = some d) : ZO (KK P) (NN.fa f) d.c d.na (jW d.st) d.dv := by
 obtain ⟨e, he, hs⟩ := pE h
 have hc := ky (Eh.mp UF d (jO h))
 have fa : NN.fa f = e.a := by
   show bl (wV.map (·.a)) f = _
   unfold bl
   rw [JG, he]
   rfl
 have k1 : (KK P).lookup (NN.fa f) = some e.fo := by rw [fa]; exact Ii.mp (Fq P) e (jO he)
 refine ⟨Qu e.st, e.q, je e.st, e.dV, .none, .none, e.md, .ref (e.a - 1), .none, .type "function", none, none, #[], ?_, Eh.mp (FC P) e (jO he), hc.2.1, hc.2.2, λ s args X hn => ?_⟩
 · rw [k1, hs]
   show some e.fo = some ⟨_, _, .func (fnX (Qu e.st) e.q (je e.st) (jW e.st) (qJ d.st) [] e.dV .none .none e.md none (.ref (e.a - 1)) .none), _⟩
   rw [hs]; rfl
 · obtain ⟨g, rfl⟩ := bI hn
   refine kp_binds X λ S => ?_
   have z := Ii.mp (Hd P S g) (d, e) (jO (wF h he))
   show peek _ _ (bindArgs (fnX (Qu e.st) e.q (je e.st) (jW d.st) (qJ d.st) [] e.dV .none .none e.md none (.ref (e.a - 1)) .none) _) = _
   rw [hs]
   exact z
theorem xf {α : Type} {x : α} : ∀ {l r : List α} {n : Nat}, qj l n = some x -> qj (l ++ r) n = some x
 | _ :: _, _, 0, h => h
 | _ :: l, r, n + 1, h => xf (l := l) (n := n) h
theorem wX : qj UD 84 = qj exL 0 /\ qj UD 85 = qj exL 1 /\ qj UD 86 = qj exL 2 /\ qj UD 87 = qj exL 3 := ⟨by kernel_rfl, by kernel_rfl, by kernel_rfl, by kernel_rfl⟩
noncomputable def CJ (i : Nat) : Df := (exL[i]?).getD ⟨.nop, 0, 0, [], qK 0, []⟩
noncomputable def KU (w : World) : YO := ⟨NN, Dl, w, KK w.params, (Kw w.params).nsMap mainGlobals, (Kw w.params).nsMap builtinsNs⟩
noncomputable abbrev cF : Cx := ⟨qJ (qK 19), yv ["count"], 1⟩
noncomputable abbrev cI : Cx := ⟨qJ (qq 18 0), yv ["self", "count"], 2⟩
noncomputable abbrev cG : Cx := ⟨qJ (qq 18 2), yv ["self", "index"], 2⟩
noncomputable abbrev cS : Cx := ⟨qJ (qq 18 3), yv ["self", "index", "model"], 3⟩
theorem wW : ZT cF 1 /\ ZT cI 2 /\ ZT cG 2 /\ ZT cS 3 := by
 have h : exL.all Vd = true := by decide +kernel
 simp only [exL, List.all_cons, List.all_nil, Bool.and_true, ED] at h
 exact ⟨(ky h.1).1, (ky h.2.1).1, (ky h.2.2.1).1, (ky h.2.2.2).1⟩
theorem kq : cI.kd 0 = 0 /\ cI.kd 1 = 0 /\ cF.kd 0 = 0 /\ cG.kd 0 = 0 /\ cG.kd 1 = 0 /\ cS.kd 0 = 0 /\ cS.kd 1 = 0 /\ cS.kd 2 = 0 /\ isG cF "START" = true /\ isG cG "START" = true := by decide +kernel
theorem FK (P : Params) : findIn (KK P) (.ref (NN.ca 7)) "__getitem__" = some (some (.ref (NN.fa 86))) /\ fnIn (KK P) (NN.fa 86) = true /\ isFn (KK P) (.ref (NN.fa 86)) = true := ⟨by kernel_rfl, by kernel_rfl, by kernel_rfl⟩
theorem FJ (P : Params) : findIn (KK P) (.ref (NN.ca 7)) "__setitem__" = some (some (.ref (NN.fa 87))) /\ noSeq (KK P) (NN.ca 7) = true /\ isFn (KK P) (.ref (NN.fa 87)) = true := ⟨by kernel_rfl, by kernel_rfl, by kernel_rfl⟩
theorem UJ (P : Params) : ∃ t, nsIn (KK P) mainGlobals "START" = some (some (.int 1024 t)) := ⟨264, by kernel_rfl⟩
theorem Rr (w : World) (Γ : Nat -> PT) : rr ((KU w).W Γ) :=
 have ⟨_, _, _, a4, a5, _, _, _, _, a10⟩ := kq
 have ⟨b1, b2, b3⟩ := FK w.params
 .mk _ cG _ _ _ _ _ _ _ _ _ _ _ _ _ _ _ _ _ b1 b2 b3 (xU w.params (f := 86) wX.2.2.1) wW.2.2.1 a4 a5 a10 rfl (by decide +kernel)
theorem Oi (w : World) (Γ : Nat -> PT) : rp ((KU w).W Γ) :=
 have ⟨_, _, _, _, _, a6, a7, a8, _, _⟩ := kq
 have ⟨b1, b2, b3⟩ := FJ w.params
 .mk _ cS _ _ _ _ _ _ _ _ _ _ _ _ _ _ _ _ b1 b2 b3 (xU w.params (f := 87) wX.2.2.2) wW.2.2.2 a6 a7 a8 rfl
theorem Fw : pR.map Df.dl = (eQ 84).map λ i => bif eB i 19 then [.tup [.int 1, .int 1, .int 1, .int 1]] else [] := by kernel_rfl
theorem pQ {d : Df} (h : d ∈ pR) : d.dl = [] \/ d.dl = [.tup [.int 1, .int 1, .int 1, .int 1]] := by
 have z := List.mem_map_of_mem (f := Df.dl) h
 rw [Fw] at z
 obtain ⟨i, _, e⟩ := CU.mp z
 cases c : eB i 19 with
 | true => rw [c] at e; exact .inr e.symm
 | false => rw [c] at e; exact .inl e.symm
theorem Gl (w : World) : (KU w).Ok where
 H Γ := dO w Γ
 C Γ := ⟨dO w Γ, rfl, rfl, rfl, rfl, UJ _, Rr w Γ, Oi w Γ⟩
 df f d h := by
   have hd : qj UD f = some d := xf h
   refine ⟨d.c, _, d.dv, xU w.params hd, (ky (Eh.mp UF d (jO hd))).1, rfl, Eh.mp Fb d (jO h), λ ix hx => ?_⟩
   unfold Df.dv
   rcases pQ (jO h) with q | q
   · rw [q]; exact .nil
   · rw [q]; exact .cons (fw w ix hx) .nil
 cinit := .mk cI _ _ _ _ _ _ _ _ (xU w.params (f := 85) wX.2.1) wW.2.1 kq.1 kq.2.1
 fresh := .mk cF _ _ _ _ _ _ _ _ (xU w.params (f := 84) wX.1) wW.1 kq.2.2.1 kq.2.2.2.2.2.2.2.2.1 (by show mE NN _ _ _ = true; decide +kernel) (by show mE NN _ _ _ = true; decide +kernel)
theorem Ub (w : World) {s : Shared} (L : jj w.params s.heap) {l : List Int} (hl : l.length <= 100000) {a : Addr} {o : Obj} {vs : List Value} (ha : s.heap.get? a = some o) (ho : LO o vs) (hv : (KU w).W (qe 11) |>.VRs ⟨[], PY ++ [(a, o)], [], []⟩ vs (l.map .int)) :
   codeAny (model Dl w) callerA (.call (.ref 837) ⟨[.ref a], []⟩) (λ r s' => r = .ok (.ret (.bool true)) /\ (∀ b o, s.heap.get? b = some o -> s'.heap.get? b = some o) /\ s'.gens = s.gens /\ s'.os = s.os) s := by
 have B := Gl w
 obtain ⟨d, ed⟩ : ∃ d, Fx 83 = some d := ⟨_, rfl⟩
 have hk : (match Fx 83 with
     | some d => [V.lst (l.map .int)].length = d.na /\ Ok (qe 11) (vD d [V.lst (l.map .int)] [] λ v _ => v = .bool true)
     | none => bd 11 83 [V.lst (l.map .int)] [] λ v _ => v = .bool true) := VT l hl
 rw [ed] at hk
 obtain ⟨hl1, hk⟩ := hk
 have hk : Ok (qe 11) (kA (XY d.n ([V.lst (l.map .int)] ++ d.dl)) λ loc => vS d.s loc [] (λ _ _ => .fin (V.none = .bool true)) (λ v _ => .fin (v = .bool true))) := hk
 rw [jl.copyK_eq] at hk
 have hk := oO d.s (kn := λ _ _ => V.none = .bool true) (kr := λ v _ => v = .bool true) hk (λ _ _ h => h) λ _ _ h => h
 obtain ⟨c, body, dv, f1, f2, f3, f4, f5⟩ := B.df 83 _ ed
 let ix : Ix := ⟨[], PY ++ [(a, o)], [], []⟩
 let fr : Frm := ⟨c, s.heap, default, [], [], false, s.gens, s.os, s.drawn⟩
 have hb : ∀ p ∈ (KU w).N.bz, p ∈ ix.bz := λ p hp => CO _ hp
 have e837 : (KU w).N.fa 83 = 837 := by kernel_rfl
 rw [<- e837]
 refine Uy (W := (KU w).W (qe 11)) (b := 13) (fr := fr) (kz := []) (pl := []) (ix := ix) (U := []) (k := λ v _ => v = .bool true) f1 f2 rfl (by decide +kernel) (by decide +kernel)
   ⟨L.K, ⟨?_, ?_, L.lim, λ x hx => ?_⟩, _, L.m⟩
   ⟨λ _ _ e => e, Ex _, (λ p hp => nomatch hp), λ p hp => ?_, hb, rfl, .nil, Ih, (λ p hp => nomatch hp), λ p hp => nomatch hp⟩ ⟨rfl, rfl, rfl⟩ hl1 (.cons (.lst (.inr (CN _ (CZ ..))) ho hv) .nil) (f5 ix hb)
   (λ jx v' v loc' U' s' env m' pl' mt' z hk vv P g => ?_) λ fr' A' s₁ E' hc hcm ok' R' Y' => ?_
 · show s.heap.Ns mainGlobals ((Kw w.params).nsMap mainGlobals)
   rw [<- (zq (a := mainGlobals) L.g3).2.1]
   exact .of_isNs L.isG
 · show s.heap.Ns builtinsNs ((Kw w.params).nsMap builtinsNs)
   rw [<- (zq (a := builtinsNs) L.g0).2.1]
   exact .of_isNs L.isB
 · exact Heap.of_bltView (xV w.params).1 (xV w.params).2 x hx
 · show s.heap.get? p.1 = some p.2
   rcases CS.mp hp with hp | hp
   · have z : PY.map (λ p => (KK w.params).lookup p.1) = PY.map λ p => some p.2 := by kernel_rfl
     exact L.K _ _ (Ii.mp z p hp)
   · cases eS.mp hp
     exact ha
 · cases (hk : v = .bool true)
   cases vv
   exact ⟨rfl, P.F.keep, g.1, g.2.1⟩
 · subst hc
   rw [f3] at Y'
   refine (rh (B.good (qe 11)) (pZ B 11) _).b (kn := λ _ U => (V.none = .bool true)) (kr := λ v _ => v = .bool true) f4 hcm ⟨ok', R', by decide⟩ Y' hk ⟨λ jx loc' U' s' z hk' Y2 => ?_, λ jx v' v loc' U' s' z hk' vr2 Y2 => ?_⟩
   · exact ⟨jx, _, .none, _, U', z, rfl, hk', .none, Y2⟩
   · exact ⟨jx, _, v, _, U', z, rfl, hk', vr2, Y2⟩
noncomputable abbrev LL : OpenLaw := PySem.Challenge.rw_tk0124_01
noncomputable abbrev CL : ClaimW := LL.row.toRowW.claim
theorem xF (cl : Str -> Option Addr) (P : Params) (ord : List DictEntry -> List DictEntry) (W : Wd) : ∀ (l : List Int) (s : Shared), ∃ vs t, layAllW [] cl P ord (l.map .int) s = some (vs, { s with toks := t }) /\ (∀ ix, W.VRs ix vs (l.map .int)) /\
   ∀ h, ReadsAllW [] cl h vs (l.map .int) []
 | [], s => ⟨[], s.toks, rfl, λ _ => .nil, λ _ => .nil⟩
 | i :: l, s => by
   obtain ⟨vs, t, e, v, r⟩ := xF cl P ord W l { s with toks := s.toks + 1 }
   refine ⟨.int i s.toks :: vs, t, ?_, λ ix => .cons .int (v ix), λ h => .cons (as := []) (bs := []) (.int _ _) (r h)⟩
   show (match layAllW [] cl P ord (l.map .int) { s with toks := s.toks + 1 } with | some r => some (IB i s.toks :: r.1, r.2) | none => none) = _
   rw [e]
theorem VU {xs : List WData} (h : WShape.hasItems [] xs .int = true) : ∃ l : List Int, xs = l.map .int := by
 induction xs with
 | nil => exact ⟨[], rfl⟩
 | cons x r ih =>
   simp only [WShape.hasItems, ED] at h
   obtain ⟨l, rfl⟩ := ih h.2
   obtain ⟨i, rfl⟩ := hasW_int h.1
   exact ⟨i :: l, rfl⟩
theorem ut {args : List WData} (h : CL.pre args = true) : ∃ l : List Int, args = [.list (l.map .int)] /\ l.length <= 63 := by
 obtain ⟨h1, h2⟩ := pre_splitW (r := LL.row.toRowW) h
 obtain ⟨d, r, rfl, h3, h4⟩ := hasAllW_cons h1
 cases hasAllW_nil h4
 obtain ⟨xs, rfl, h5⟩ := hasW_list h3
 obtain ⟨l, rfl⟩ := VU h5
 refine ⟨l, rfl, ?_⟩
 have e : (LL.row.pre).value LL.row.records { args := [.list (l.map .int)] } = some (.bool (!decide ((63 : Int) < ((l.map WData.int).length : Int)))) := by
   show (match (match (some (.bool (!decide ((63 : Int) < ((l.map WData.int).length : Int)))) : Option WData) with | some (.bool false) => some (WData.bool false) | some (.bool true) => some (.bool true) | _ => none) with | r => r) = _
   cases (!decide ((63 : Int) < ((l.map WData.int).length : Int))) <;> rfl
 have h2 := (holdsW_of_value e).symm.trans h2
 simp only [ee, Bool.not_eq_true', decide_eq_false_iff_not] at h2
 omega
theorem be (args ds : List WData) : CL.post args (.bool true) ds = true := by
 have p1 : WShape.has [] (.bool true) .bool = true := by simp [WShape.has, WShape.arms]
 have p2 : WTm.holds [] (.eq .res (.lit (.bool true))) { args := args, res := some (.bool true), after := ds } = true :=
   holdsW_of_value (X := true) (by show some (WData.bool (same (.bool true) (.bool true))) = _; rw [same_self])
 exact EM.mpr ⟨p1, p2⟩
theorem Wn : Cl ⟨.builtin "claim.caller" {}, none, none, [], none⟩ := ⟨by decide +kernel, λ x h => nomatch h⟩
theorem KT {prog : Program} {w : World} {t : Sem Fin} {s : Shared} {R : Result -> Shared -> Prop} (hreg : s.asleep)
   (h : wpAny (model prog w) callerA t (λ fin s' => ∃ f, fin = .done f /\ R (.ok f) s' /\ leftWithCleanup s'.gens = false) (λ e s' => R (.error e) s' /\ leftWithCleanup s'.gens = false) s) :
   ∃ n r s' s'', runN (denote table) prog w n s ⟨t, .builtin "claim.caller" {}, default, []⟩ = .halted (outcomeOf r) s' /\
     schedN (denote table) prog w n (.single s ⟨t, .builtin "claim.caller" {}, default, []⟩) = .halted (outcomeOf r) s' /\ s'.forget = s''.forget /\ R r s'' := by
 have z : Sem.wp (model prog w) ⟨.builtin "claim.caller" {}, none, none, [], none⟩ t (Sem.finPost (model prog w) ⟨.builtin "claim.caller" {}, none, none, [], none⟩ λ r s' => R r s' /\ leftWithCleanup s'.gens = false)
     (λ e _ s' => R (.error e) s' /\ leftWithCleanup s'.gens = false) default s :=
   Sem.wp_mono (model prog w) _ t (λ fin p' s' h' => by obtain ⟨f, rfl, hf⟩ := h'; exact hf) (λ _ _ _ h' => h') default s (h _ default caller_in Wn)
 obtain ⟨n, r, s₁, s₂, hs, hn, hfo, hR⟩ := wp_halts_full (M := model prog w) (R := R) hreg z
 exact ⟨n, r, s₂, s₁, hn, hs, hfo, hR⟩
theorem Ua (w : World) {s : Shared} (L : jj w.params s.heap) (hz : s.asleep) (hg : s.gens = #[]) {free : Addr -> Prop} {gens : Prop} {kept : Heap -> Prop} (hk : ∀ h, kept h) : CL.CallFrom (callStub "law") w free gens kept s := by
 intro args hpre hlay ord hord
 obtain ⟨l, rfl, hl⟩ := ut hpre
 obtain ⟨vs, t, e, hv, hr⟩ := xF (classAt s.heap) w.params ord ((KU w).W (qe 11)) l s
 let o : Obj := { cls := .type "list", data := .seq vs.toArray }
 let s₁ : Shared := { s with heap := s.heap.push o, toks := t }
 have ho : s₁.heap.get? s.heap.objs.size = some o := EE _ rfl
 have old : ∀ b x, s.heap.get? b = some x -> s₁.heap.get? b = some x := λ b x e => Es _ e
 have L₁ : jj w.params s₁.heap := ⟨λ a x e => old _ _ (L.K a x e), old _ _ L.b, old _ _ L.m⟩
 have hG : s₁.heap.Ns mainGlobals ((Kw w.params).nsMap mainGlobals) := by
   rw [<- (zq (a := mainGlobals) L₁.g3).2.1]
   exact .of_isNs L₁.isG
 have hc := Ub w L₁ (l := l) (by omega) ho ⟨rfl, _, rfl⟩ (hv _)
 obtain ⟨k, r, s', s'', hrun, hsched, hfo, rfl, hkeep, hgens, hos⟩ := KT (prog := Dl) (w := w) (s := s₁) (t := (do match <- nsGet mainNs "law" with
     | some f => do ret (<- call f [.ref s.heap.objs.size])
     | none => unsupported "claim.caller:no-such-global"))
   (R := λ r s' => r = .ok (.ret (.bool true)) /\ (∀ b o, s₁.heap.get? b = some o -> s'.heap.get? b = some o) /\ s'.gens = s₁.gens /\ s'.os = s₁.os) (Shared.asleep_of_life rfl hz) (by
     refine wpAny_bind (qa (wpAny_nsGet hG ?_))
     rw [(wU w.params).2.1]
     refine wpAny_bind (qM (jU hc ?_))
     rintro r s' ⟨rfl, h2, h3, h4⟩
     refine wpAny_pure ⟨_, rfl, ⟨rfl, h2, h3, h4⟩, ?_⟩
     rw [h3, show s₁.gens = #[] from hg]
     simp [leftWithCleanup])
 obtain ⟨eh, eg, _, eo, _⟩ := Shared.forget_eq hfo
 have hkeep : ∀ b o, s₁.heap.get? b = some o -> s'.heap.get? b = some o := by rw [eh]; exact hkeep
 have hlife : s'.heap.life = s₁.heap.life := runN_life _ _ _ hrun
 have rd : ReadsAllW [] (classAt s.heap) s'.heap [.ref s.heap.objs.size] [.list (l.map .int)] ([s.heap.objs.size] ++ []) :=
   .cons (.list (hkeep _ _ ho) rfl rfl (by simpa using hr s'.heap)) .nil
 refine ⟨[.ref s.heap.objs.size], s₁, ?_, k, _, s', hsched, .inl ⟨.bool true, rfl, λ _ => rfl, ⟨.bool true, [.list (l.map .int)], [], _, .bool true, rd, ?_, λ _ => ⟨Ih, λ _ h => (nomatch h), λ _ h => nomatch h⟩, λ _ _ => ?_⟩, λ _ h => (nomatch h), λ b x hb _ _ _ => .inl (hkeep b x hb), λ _ h => nomatch h⟩, λ _ i x hx => ?_, hk _, by rw [hlife]; rfl, Shared.rest_eq (eo.trans hos)⟩
 · show (match (match layAllW [] (classAt s.heap) w.params ord (l.map .int) s with | some r => some (Value.ref r.2.heap.objs.size, { r.2 with heap := r.2.heap.push { cls := .type "list", data := .seq r.1.toArray } }) | none => none) with | some a => _ | none => none) = _
   rw [e]
   rfl
 · exact be _ _
 · exact ident_freeW (r := LL.row.toRowW) rfl rfl rfl _ _
 · rw [hg] at hx
   simp at hx
theorem law_said : PySem.Challenge.rw_tk0124_01.wellSaid = true := by
 rw [PySem.W.Fast.te9446332074065402090]
 kernel_rfl
theorem row_said : PySem.Challenge.rw_tk0124_01.row.wellSaid = true := PySem.W.row_said law_said
theorem VL : opensWell PySem.Challenge.pw_tk0124_01 = true := by kernel_rfl
theorem tw : PySem.Challenge.pw_tk0124_01.tablesWhole = true := by kernel_rfl
theorem VI : PySem.Challenge.pw_tk0124_01.bare := ⟨rfl, rfl, rfl, rfl, rfl, tw⟩
theorem XZ (P : Params) {h : Heap} (L : jj P h) : isTheDefsW Dl h "law" := by
 obtain ⟨e, he⟩ : ∃ e, qj wV 83 = some e := ⟨_, rfl⟩
 have k : (KK P).lookup 837 = some e.fo := by rw [(gW P).2.2, he]; rfl
 have a : (qj wV 83).map (λ e => (e.st, Str.ofString e.q, Qu e.st, e.dV)) = some (qK 75, ("law" : Str), ("law" : Str), Value.none) := by kernel_rfl
 rw [he] at a
 obtain ⟨a1, a2, a3, a4⟩ : e.st = qK 75 /\ Str.ofString e.q = "law" /\ Qu e.st = "law" /\ e.dV = .none := by simpa using a
 have d1 : (je (qK 75)).defaults = [] /\ kwWritten? (je (qK 75)).kwonlyargs (je (qK 75)).kw_defaults = some [] := ⟨by kernel_rfl, by kernel_rfl⟩
 refine ⟨837, e.fo, e.fd, je (qK 75), jW (qK 75), qJ (qK 75), (L.glob _).trans (wU P).2.1, L.K _ _ k, rfl, bM, a3, a2, congrArg je a1, congrArg (λ s => FuncBody.stmts (jW s)) a1, congrArg qJ a1, rfl, rfl, rfl, ?_⟩
 exact ⟨Or.inl ⟨d1.1, a4⟩, [], d1.2, Or.inl ⟨rfl, rfl⟩⟩
theorem law_holds_open : CL.HoldsOpenBy (callStub "law") ["law"] LL.row.keeps false := by
 refine ⟨⟨VI, VL, rfl⟩, ⟨[.list []], by decide +kernel, by decide +kernel⟩, λ w => ⟨(wj w).1, λ s hs => ?_⟩⟩
 obtain ⟨s₀, h1, h2, s₁, h3, h4, h5, L⟩ := (wj w).2 s hs
 refine ⟨s₀, h1, h2, s₁, h3, λ n hn => ?_, (λ x hx => nomatch hx), (λ x hx => nomatch hx), Ua w L h4 h5 λ h q => nomatch q⟩
 cases eS.mp hn
 exact XZ w.params L
end Mi
theorem PySem.Challenge.cw_tk0124_01_holds : PySem.Challenge.rw_tk0124_01.Holds :=
 ⟨Mi.law_said, Mi.row_said, ⟨[.list []], by decide +kernel, by decide +kernel⟩, Mi.law_holds_open⟩
end
