import PyProof.Rows.All
import Wide.All
import OpenK.AllK
import Wide.FinOn
import PySem.Challenge.RW_xw0127_01
set_option autoImplicit false
set_option linter.unusedVariables false
set_option genInjectivity false
set_option genSizeOf false
set_option genCtorIdx false
set_option Elab.async false
section
open Array renaming length_toList -> ac, getElem?_eq_getElem -> bL, getElem?_toList -> bR, getElem?_eq_none -> cZ, getD -> db
open Bool renaming noConfusion -> aN, false_ne_true -> bO, eq_false_iff -> bY, and_eq_true -> bl, false_eq_true -> bv, or_eq_true -> cX, not_eq_true' -> cw, or_false -> dS, eq_iff_iff -> eF
open ForInStep renaming yield -> dt
open Int renaming toNat_natCast -> bT, natCast_nonneg -> bj
open List renaming length_map -> aG, length_append -> aH, forall_mem_cons -> aL, mem_singleton -> aM, getElem?_eq_getElem -> aO, mem_cons -> aP, getElem?_eq_some_iff -> aR, all_eq_true -> aT, map_append -> aU, mem_append_right -> aV, size_toArray -> aa, mem_append -> ae, mem_map -> aj, length_cons -> am, append_nil -> aq, append_assoc -> aw, getD_eq_getElem?_getD -> az, getElem?_map -> a6, mem_of_getElem? -> a7, mem_append_left -> a8, pairwise_cons -> bD, map_map -> bE, getElem?_toArray -> bF, pairwise_singleton -> bI, getElem?_append_left -> bM, length_replicate -> bN, length -> bP, getElem?_eq_none -> bS, any_eq_true -> bW, flatMap_cons -> bX, take_append_drop -> bZ, map_cons -> ba, nil_append -> bc, getElem?_append_right -> bg, mem_filter -> bh, length_filter_le -> bn, replicate -> bo, nodup_cons -> bq, mem_cons_self -> bu, prefix_refl -> bz, mem_range -> b7, getElem_of_mem -> cH, contains_iff_mem -> cJ, range -> cN, findIdx?_cons -> cO, mem_cons_of_mem -> cV, map_congr_left -> cY, not_mem_nil -> cf, length_drop -> cg, findIdx?_eq_some_iff_getElem -> cp, forall_mem_singleton -> cq, compareLex -> cr, map_drop -> c9, mem_map_of_mem -> dG, eq_nil_of_length_eq_zero -> dI, prefix_append -> dJ, drop_of_length_le -> dK, map_take -> dR, lookup_cons -> dn, length_take -> dq, pairwise_iff_getElem -> d0, getElem?_zip_eq_some -> d9, length_reverse -> eA, length_eq_one_iff -> eQ, findSome?_append -> eV, getElem_mem -> eW, length_nil -> eg, foldl_cons -> eh, flatMap_append -> ew, filter_append -> ey, getElem?_nil -> e6, getElem?_take_of_lt -> e8
open List.cons renaming inj -> dH
open Nat renaming le_trans -> aE, le_of_ble_eq_true -> aF, le_refl -> aW, le_of_succ_le -> ab, blt -> au, blt_eq -> a9, zero_le -> bA, zero_add -> bB, succ_le_succ -> bG, add_le_add_left -> bU, ble -> bV, lt_irrefl -> be, mul_le_mul_left -> bm, le_of_lt -> bt, lt_of_lt_of_le -> bx, le_of_succ_le_succ -> b9, add_comm -> cC, lt_succ_self -> cQ, lt_trans -> cU, lt_of_le_of_lt -> ci, pow_le_pow_right -> cy, le_of_eq -> c8, ble_eq -> dA, sub_self -> dN, add_right_comm -> dO, add_assoc -> dY, add_le_add -> dj, ne_of_lt -> dy, lt_or_ge -> dz, succ -> eE, lt_or_eq_of_le -> eK, le_succ -> eM, le_add_right -> ea, min_eq_left -> et
open Nat.succ renaming inj -> eH
open Option renaming map_eq_some_iff -> aZ, bind_eq_some_iff -> bK, getD_some -> di, isSome_iff_exists -> ez, map_eq_none_iff -> e9
open Option.some renaming inj -> aY, injEq -> cK
open PyProof.Rows.F renaming plain_set_update_loop -> dP, entry_set_update_loop -> e7
open PySem renaming PyData -> aA, wpAny_bind -> aC, wpAny_pure -> aI, Value -> aJ, Shared -> aK, wpAny -> aQ, SetTable -> aX, wpAny_mono -> ah, Addr -> av, DictEntry -> bC, Around -> bH, wpAny_holding -> bJ, Params -> bQ, Builtin -> bb, wpAny_call_entry -> bf, wpAny_setState_of -> bp, wpAny_ite_split -> b0, wpAny_setField_rec -> b6, wpAny_rule -> cW, wpAny_newObj_type -> ca, wpAny_forIn_list -> cn, codeAny_builtin -> dB, starEach -> dC, sizeLine_eq -> dD, intKind -> dE, NameKind -> dF, wpAny_callSpecial?_slot -> dL, mainGlobals -> dT, codeAny_mono -> dZ, letOwnedTupleGo -> da, wpAny_standAt -> dg, sysModules -> eB, plainId_quiet -> eN, codeAny -> eO, wpAny_typeOf -> eY, Program -> eZ, wpAny_askSetting -> eo, wpAny_Call_method_lateS -> fA
open PySem.Around renaming under_plainId -> cR
open PySem.Builtin.Slice renaming slicePlaces -> dQ, sliceAdjust -> eb
open PySem.Builtin.Tuple renaming tupleExact -> ef
open PySem.Code renaming builtin -> dw
open PySem.F renaming plain_any_loop -> eJ, slot_tuple_lt -> eP, plainAttrs_list -> e5
open PySem.Heap renaming get?_push_size -> ao, get?_none_of_le -> ax, get?_push_of_some -> ay, SameBut -> b8, get?_update_self -> cj, lt_size -> cu
open PySem.Heap.SameBut renaming update -> eU
open PySem.NameKind renaming free -> eR
open PySem.Obj renaming mapSeq -> bw
open PySem.PyData renaming int -> aS, keyHash -> eL
open PySem.SetTable renaming below -> ar, insertAt -> cm, grown -> dU, Probe -> eG
open PySem.SetTable.below renaming go -> dm
open PySem.SetTable.probe renaming go -> cb
open PySem.Str renaming ofString -> aD
open PySem.Value renaming type -> eC
open PySem.W renaming kms_lo -> br, piecesOf -> ch, piece_app -> dM, kms_hi -> eI
open PySem.W.Fast renaming te16421684217811934046 -> bk
namespace Mine
open PySem
inductive V where
 | d (x : aA)
 | l (i : Nat)
inductive fH where
 | list (xs : List aA)
 | dict (kvs : List (aA × V))
 | inst (c : Nat) (fs : List (Nat × V))
abbrev fE := List fH
abbrev Loc := List (Option V)
inductive Tg where
 | one (i : Nat)
 | many (is : List Nat)
inductive Sk where
 | ex (_ : Unit)
 | range (_ : Unit)
 | rev (_ : Unit)
inductive O2 where
 | bin (o : Operator)
 | cmp (o : CmpOp)
 | sub (_ : Unit)
 | app (_ : Unit)
 | ext (_ : Unit)
 | pop (_ : Unit)
 | att (n : Nat)
inductive On where
 | tup (_ : Unit)
 | lst (_ : Unit)
 | newl (_ : Unit)
 | dct (ks : List aA)
 | call (f : Nat)
 | new (c : Nat)
 | bi (b : Nat)
inductive EX where
 | bad
 | c (x : aA)
 | v (i : Nat)
 | op (o : O2) (a b : EX)
 | not (a : EX)
 | and (a b : EX)
 | or (a b : EX)
 | ite (t a b : EX)
 | mk (o : On) (es : List EX)
 | meth (o : EX) (n : Nat) (es : List EX)
 | slc (a lo hi : EX)
 | lc (new : Bool) (e : EX) (t : Tg) (k : Sk) (s c : EX)
 | lc2 (e : EX) (t₁ : Tg) (k₁ : Sk) (s₁ : EX) (t₂ : Tg) (k₂ : Sk) (s₂ : EX)
inductive ST where
 | bad
 | asg (i : Nat) (e : EX)
 | asgT (is : List Nat) (e : EX)
 | setI (o i e : EX)
 | setA (o : EX) (n : Nat) (e : EX)
 | ex (e : EX)
 | aug (i : Nat) (e : EX)
 | ite (t : EX) (a b : List ST)
 | forL (t : Tg) (k : Sk) (s : EX) (b : List ST)
 | whl (t : EX) (b : List ST)
 | ret (e : EX)
structure fI where
 np : Nat
 ns : Nat
 dfl : List aA
 body : List ST
noncomputable def ck {β : Type} (b : Bool) (x : β) : Option β := cond b (some x) none
mutual
noncomputable def eqD : aA -> aA -> Bool
 | .none, y => match y with
  | .none => true
  | _ => false
 | .bool a, y => match y with
  | .bool b => a == b
  | _ => false
 | .int a, y => match y with
  | .int b => decide (a = b)
  | _ => false
 | .str a, y => match y with
  | .str b => decide (a = b)
  | _ => false
 | .tuple a, y => match y with
  | .tuple b => eqDs a b
  | _ => false
 | .list a, y => match y with
  | .list b => eqDs a b
  | _ => false
 | .dict _, _ => false
noncomputable def eqDs : List aA -> List aA -> Bool
 | [], y => y.isEmpty
 | a :: r, y => match y with
  | b :: q => eqD a b && eqDs r q
  | [] => false
end
noncomputable def low (x : Str) : Bool := x.cps.all (· < 128)
mutual
noncomputable def okX : aA -> Nat -> Bool
 | .none, _ => true
 | .int _, _ => true
 | .str x, _ => low x
 | .tuple xs, n => match n with
  | 0 => false
  | n + 1 => okXs xs n
 | .list xs, n => match n with
  | 0 => false
  | n + 1 => okXs xs n
 | .bool _, _ => false
 | .dict _, _ => false
noncomputable def okXs : List aA -> Nat -> Bool
 | [], _ => true
 | x :: r, n => okX x n && okXs r n
end
mutual
noncomputable def okY : aA -> Nat -> Bool
 | .int _, _ => true
 | .str x, _ => low x
 | .tuple xs, n => match n with
  | 0 => false
  | n + 1 => okYs xs n
 | .none, _ => false
 | .list _, _ => false
 | .bool _, _ => false
 | .dict _, _ => false
noncomputable def okYs : List aA -> Nat -> Bool
 | [], _ => true
 | x :: r, n => okY x n && okYs r n
end
noncomputable abbrev okD (n : Nat) (x : aA) : Bool := okX x n
noncomputable abbrev okK (n : Nat) (x : aA) : Bool := okY x n
mutual
noncomputable def ltD : aA -> aA -> Option Bool
 | .int a, .int b => some (decide (a < b))
 | .tuple a, .tuple b => ltDs a b
 | _, _ => none
noncomputable def ltDs : List aA -> List aA -> Option Bool
 | [], [] => some false
 | [], _ :: _ => some true
 | _ :: _, [] => some false
 | a :: r, b :: q => if eqD a b then ltDs r q else ltD a b
end
noncomputable def insD (x : aA) : List aA -> Option (List aA)
 | [] => some [x]
 | y :: r => match ltD x y with
  | some true => some (x :: y :: r)
  | some false => (insD x r).map (y :: ·)
  | none => none
noncomputable def isortD : List aA -> Option (List aA)
 | [] => some []
 | x :: r => (isortD r).bind (insD x)
noncomputable def ints? : List aA -> Option (List Int)
 | [] => some []
 | .int i :: r => (ints? r).map (i :: ·)
 | _ => none
noncomputable def insI (x : Int) : List Int -> List Int
 | [] => [x]
 | y :: r => if x <= y then x :: y :: r else y :: insI x r
noncomputable def isortI (l : List Int) : List Int := l.foldr insI []
noncomputable def distinct : List aA -> Bool
 | [] => true
 | x :: r => !r.any (eqD x) && distinct r
noncomputable def isTup : aA -> Bool
 | .tuple _ => true
 | _ => false
noncomputable def tupT : aA -> Bool
 | .tuple xs => xs.all isTup
 | _ => false
noncomputable def chain : List aA -> Bool
 | [] => true
 | x :: r => r.all (λ y => ltD x y == some true && ltD y x == some false) && chain r
noncomputable def sortD (xs : List aA) : Option (List aA) :=
 match ints? xs with
 | some is => if is.length < 64 then some ((isortI is).map .int) else none
 | none => if xs.length <= 4 && xs.all (okK 8) && xs.all tupT then (isortD xs).bind λ ys => if chain ys then some ys else none else none
noncomputable def dedup : List aA -> List aA -> List aA
 | [], _ => []
 | x :: r, seen => if seen.any (eqD x) then dedup r seen else x :: dedup r (x :: seen)
noncomputable def maxI : List Int -> Option Int
 | [] => none
 | x :: r => some (r.foldl max x)
noncomputable def fits (xs : List aA) : Bool := decide (xs.length <= 2 ^ 20)
noncomputable def truthD : aA -> Option Bool
 | .none => some false
 | .bool b => some b
 | .int i => some (decide (i ≠ 0))
 | .tuple xs => ck (fits xs) (!xs.isEmpty)
 | .list xs => ck (fits xs) (!xs.isEmpty)
 | _ => none
noncomputable def anyD : List aA -> Option Bool
 | [] => some false
 | x :: r => (truthD x).bind λ b => cond b (some true) (anyD r)
noncomputable def cL : fH -> Option (List aA)
 | .list xs => some xs
 | _ => none
noncomputable def cD : fH -> Option (List (aA × V))
 | .dict kvs => some kvs
 | _ => none
noncomputable def cI : fH -> Option (Nat × List (Nat × V))
 | .inst c fs => some (c, fs)
 | _ => none
noncomputable def listD : aA -> Option (List aA)
 | .list xs => some xs
 | _ => none
noncomputable def tupD : aA -> Option (List aA)
 | .tuple xs => some xs
 | _ => none
noncomputable def intD : aA -> Option Int
 | .int i => some i
 | _ => none
noncomputable def dictD : aA -> Option (List (aA × aA))
 | .dict kvs => some kvs
 | _ => none
noncomputable def dataOf : V -> Option aA
 | .d x => some x
 | .l _ => none
noncomputable def locOf : V -> Option Nat
 | .d _ => none
 | .l i => some i
noncomputable def listOf (σ : fE) : V -> Option (List aA)
 | .d x => listD x
 | .l i => (σ[i]?).bind cL
noncomputable def fg (σ : fE) : V -> Option (List aA)
 | .d x => (listD x).or (tupD x)
 | .l i => (σ[i]?).bind cL
noncomputable def look (k : aA) : List (aA × V) -> Option V
 | [] => none
 | p :: r => cond (eqD p.1 k) (some p.2) (look k r)
noncomputable def putKV (k : aA) (v : V) : List (aA × V) -> List (aA × V)
 | [] => [(k, v)]
 | p :: r => cond (eqD p.1 k) ((p.1, v) :: r) (p :: putKV k v r)
noncomputable def getF (n : Nat) : List (Nat × V) -> Option V
 | [] => none
 | p :: r => cond (p.1 == n) (some p.2) (getF n r)
noncomputable def setF (n : Nat) (v : V) : List (Nat × V) -> List (Nat × V)
 | [] => [(n, v)]
 | p :: r => cond (p.1 == n) ((p.1, v) :: r) (p :: setF n v r)
noncomputable def idx (i : Int) (n : Nat) : Option Nat :=
 if 0 <= i then (if i < n then some i.toNat else none) else (if 0 <= i + n then some (i + n).toNat else none)
noncomputable def clip (i : Int) (n : Nat) : Nat := if i < 0 then n - (-i).toNat else min i.toNat n
noncomputable def small : Int -> Bool
 | .ofNat n => bV n 4611686018427387903
 | .negSucc n => bV n 4611686018427387902
theorem small_iff {i : Int} : small i = true ↔ -(2 ^ 62) < i ∧ i < 2 ^ 62 := by
 cases i with
 | ofNat n => show bV n _ = true ↔ _; rw [dA]; show _ ↔ _ < (n : Int) ∧ (n : Int) < _; lia
 | negSucc n => show bV n _ = true ↔ _; rw [dA]; lia
noncomputable def intV (v : V) : Option Int := (dataOf v).bind intD
noncomputable def ints2 {β : Type} (u v : V) (f : Int -> Int -> Option β) : Option β := (intV u).bind λ a => (intV v).bind (f a)
noncomputable def num (i : Int) : V := .d (.int i)
noncomputable def addD (σ : fE) (u v : V) : Option V :=
 (ints2 u v λ a b => some (num (a + b))).or (((dataOf u).bind λ x => (dataOf v).bind λ y => (tupD x).bind λ a => (tupD y).bind λ b => ck (fits a && fits b) (.d (.tuple (a ++ b)))).or
  ((listOf σ u).bind λ x => (listOf σ v).bind λ y => ck (fits x && fits y) (.d (.list (x ++ y)))))
noncomputable def binD (σ : fE) (o : Operator) (u v : V) : Option V := match o with
 | .Add => addD σ u v
 | .Sub => ints2 u v λ a b => some (num (a - b))
 | .Mult => ints2 u v λ a b => ck (small a && small b) (num (a * b))
 | .Mod => ints2 u v λ a b => ck (decide (0 < b)) (num (a % b))
 | .FloorDiv => ints2 u v λ a b => ck (decide (0 < b) && decide (b < 1000)) (num (a / b))
 | .BitAnd => ints2 u v λ a b => ck (decide (a = 0) && decide (b = 1)) (num 0)
 | _ => none
noncomputable def asD (σ : fE) (v : V) : Option aA := match v with
 | .d x => some x
 | .l i => (σ[i]?).bind λ c => (cL c).map .list
noncomputable def isNoneD : aA -> Bool
 | .none => true
 | _ => false
noncomputable def keysD (kvs : List (aA × aA)) : Bool := kvs.all (λ p => okK 8 p.1) && distinct (kvs.map (·.1))
noncomputable def dictOf (σ : fE) (v : V) : Option (List (aA × V)) := match v with
 | .d x => (dictD x).bind λ kvs => ck (keysD kvs) (kvs.map λ p => (p.1, .d p.2))
 | .l i => (σ[i]?).bind cD
noncomputable def eqOf (σ : fE) (u v : V) : Option Bool := (asD σ u).bind λ x => (asD σ v).bind λ y => ck (okD 8 x && okD 8 y) (eqD x y)
noncomputable def inD (σ : fE) (u v : V) : Option Bool := (dataOf u).bind λ x => ((fg σ v).bind λ xs => ck (okD 8 x && okXs xs 8) (xs.any λ y => eqD y x)).or
 ((dictOf σ v).bind λ kvs => ck (okK 8 x) (look x kvs).isSome)
noncomputable def cmpD (σ : fE) (o : CmpOp) (u v : V) : Option Bool := match o with
 | .Is => (dataOf u).bind λ x => (dataOf v).bind λ y => ck (isNoneD y) (isNoneD x)
 | .IsNot => (dataOf u).bind λ x => (dataOf v).bind λ y => ck (isNoneD y) (!isNoneD x)
 | .Lt => ints2 u v λ a b => some (decide (a < b))
 | .LtE => ints2 u v λ a b => some (decide (a <= b))
 | .Gt => ints2 u v λ a b => some (decide (b < a))
 | .GtE => ints2 u v λ a b => some (decide (b <= a))
 | .Eq => eqOf σ u v
 | .NotEq => (eqOf σ u v).map (!·)
 | .In => inD σ u v
 | .NotIn => (inD σ u v).map (!·)
noncomputable def truth (σ : fE) (v : V) : Option Bool := match v with
 | .d x => truthD x
 | .l i => (σ[i]?).bind λ c => (cL c).bind λ xs => ck (fits xs) (!xs.isEmpty)
noncomputable def atD (xs : List aA) (k : aA) : Option V := (intD k).bind λ i => (ck (fits xs) ()).bind λ _ => (idx i xs.length).bind λ n => (xs[n]?).map .d
noncomputable def subD (σ : fE) (u v : V) : Option V := (dataOf v).bind λ k => ((fg σ u).bind λ xs => atD xs k).or ((dictOf σ u).bind λ kvs => (ck (okK 8 k) ()).bind λ _ => look k kvs)
noncomputable def cut (xs : List aA) (lo hi : Option Int) : List aA :=
 (xs.take (match hi with | some i => clip i xs.length | none => xs.length)).drop (match lo with | some i => clip i xs.length | none => 0)
noncomputable def slcD (σ : fE) (a : V) (lo hi : Option Int) : Option V := ((dataOf a).bind λ x => (tupD x).bind λ xs => ck (fits xs) (.d (.tuple (cut xs lo hi)))).or
 ((listOf σ a).bind λ xs => ck (fits xs) (.d (.list (cut xs lo hi))))
noncomputable def sortedD (σ : fE) (a : V) : Option V := ((listOf σ a).bind λ xs => (sortD xs).map λ ys => .d (.list ys)).or
 ((dictOf σ a).bind λ kvs => (ints? (kvs.map (·.1))).bind λ is => ck (decide (is.length < 64)) (.d (.list ((isortI is).map .int))))
noncomputable def setD (σ : fE) (a : V) : Option V := (listOf σ a).bind λ xs => (ck ((decide (xs.length <= 4) || (ints? xs).isSome) && decide (xs.length <= 64) && xs.all (okK 8)) ()).bind λ _ => (sortD (dedup xs [])).map λ ys => .d (.list ys)
noncomputable def one {β : Type} (f : V -> Option β) : List V -> Option β
 | [a] => f a
 | _ => none
noncomputable def two {β : Type} (f : V -> V -> Option β) : List V -> Option β
 | [a, b] => f a b
 | _ => none
noncomputable def biD (σ : fE) : Nat -> List V -> Option V
 | 0 => one λ a => (fg σ a).bind λ xs => ck (fits xs) (num xs.length)
 | 1 => one λ a => (fg σ a).bind λ xs => ck (fits xs) (.d (.tuple xs))
 | 2 => one λ a => (fg σ a).bind λ xs => ck (fits xs) (.d (.list xs))
 | 3 => one (sortedD σ)
 | 4 => one (setD σ)
 | 5 => one λ a => (listOf σ a).bind λ xs => (anyD xs).map λ b => .d (.bool b)
 | 6 => one λ a => (listOf σ a).bind λ xs => (ints? xs).bind λ is => (ck (decide (is.length <= 64)) ()).bind λ _ => (maxI is).map num
 | 7 => two λ a b => ints2 a b λ a b => some (num (min a b))
 | _ => λ _ => none
inductive It where
 | seq (a : V)
 | rng (n : Nat)
 | rev (a : V) (m : Nat)
noncomputable def It.at (σ : fE) : It -> Nat -> Option (Option aA)
 | .seq a, i => (fg σ a).map λ xs => xs[i]?
 | .rng n, i => some (cond (au i n) (some (.int i)) none)
 | .rev a m, i => (listOf σ a).bind λ xs => cond (au i m) ((xs[m - 1 - i]?).map some) (some none)
noncomputable def It.len (σ : fE) : It -> Option Nat
 | .seq a => (fg σ a).map (·.length)
 | .rng n => some n
 | .rev _ m => some m
noncomputable def putAll : List Nat -> List aA -> Loc -> Loc
 | i :: is, x :: xs, ρ => putAll is xs (ρ.set i (some (.d x)))
 | _, _, ρ => ρ
noncomputable def Tg.put (ρ : Loc) (x : aA) : Tg -> Option Loc
 | .one i => some (ρ.set i (some (.d x)))
 | .many is => (tupD x).bind λ xs => ck (decide (xs.length = is.length)) (putAll is xs ρ)
inductive Flow where
 | next
 | ret (v : V)
abbrev Ps := V -> fE -> Prop
abbrev Fs := Flow -> Loc -> fE -> Prop
structure Orc where
 run : Nat -> List V -> fE -> Ps -> Prop
 meth : Nat -> Nat -> Option Nat
 init : Nat -> Option Nat
noncomputable def V.below (n : Nat) : V -> Bool
 | .d _ => true
 | .l i => au i n
noncomputable def fH.below (n : Nat) : fH -> Bool
 | .list _ => true
 | .dict kvs => kvs.all λ p => p.2.below n
 | .inst _ fs => fs.all λ p => p.2.below n
noncomputable def keep (n : Nat) (v : V) (σ : fE) : Option (V × fE) := ck ((σ.take n).all (fH.below n)) (v, σ.take n)
noncomputable def fin (n : Nat) (v : V) (σ : fE) : Option (V × fE) := match v with
 | .d x => keep n (.d x) σ
 | .l i => cond (au i n) (keep n (.l i) σ) ((σ[i]?).bind λ c => match cL c with
  | some xs => keep n (.d (.list xs)) σ
  | none => some (.l i, σ))
noncomputable def cellL (σ : fE) (v : V) : Option (Nat × List aA) := (locOf v).bind λ i => (σ[i]?).bind λ c => (cL c).map λ xs => (i, xs)
noncomputable def cellD (σ : fE) (v : V) : Option (Nat × List (aA × V)) := (locOf v).bind λ i => (σ[i]?).bind λ c => (cD c).map λ xs => (i, xs)
noncomputable def cellI (σ : fE) (v : V) : Option (Nat × Nat × List (Nat × V)) := (locOf v).bind λ i => (σ[i]?).bind λ c => (cI c).map λ p => (i, p)
noncomputable def appendD (σ : fE) (o e : V) : Option fE := (cellL σ o).bind λ p => (dataOf e).bind λ x => ck (fits p.2) (σ.set p.1 (.list (p.2 ++ [x])))
noncomputable def extendD (σ : fE) (o e : V) : Option fE := (cellL σ o).bind λ p => (dataOf e).bind λ x => (listD x).bind λ ys => ck (fits p.2 && fits ys) (σ.set p.1 (.list (p.2 ++ ys)))
noncomputable def popD (σ : fE) (o : V) : Option (V × fE) := (cellL σ o).bind λ p => p.2.getLast?.bind λ x => ck (fits p.2) (.d x, σ.set p.1 (.list p.2.dropLast))
noncomputable def setID (σ : fE) (o i e : V) : Option fE := (dataOf i).bind λ k => ((cellD σ o).bind λ p => ck (okK 8 k && decide (p.2.length <= 2 ^ 20)) (σ.set p.1 (.dict (putKV k e p.2)))).or
 ((cellL σ o).bind λ p => (dataOf e).bind λ x => (intD k).bind λ n => ck (decide (0 <= n) && decide (n < p.2.length) && fits p.2) (σ.set p.1 (.list (p.2.set n.toNat x))))
noncomputable def setAD (σ : fE) (o : V) (n : Nat) (v : V) : Option fE := (cellI σ o).bind λ p => ck (decide (p.2.2.length < 100)) (σ.set p.1 (.inst p.2.1 (setF n v p.2.2)))
noncomputable def attD (σ : fE) (o : V) (n : Nat) : Option V := (cellI σ o).bind λ p => getF n p.2.2
noncomputable def datas? : List V -> Option (List aA)
 | [] => some []
 | v :: r => (dataOf v).bind λ x => (datas? r).map (x :: ·)
noncomputable def intO (v : V) : Option Int := (intV v).bind λ i => ck (small i) i
noncomputable def lget : Loc -> Nat -> Option V
 | [], _ => none
 | o :: _, 0 => o
 | _ :: r, i + 1 => lget r i
noncomputable def intN (v : V) : Option (Option Int) := (dataOf v).bind λ x => cond (isNoneD x) (some none) ((intD x).bind λ i => ck (small i) (some i))
noncomputable def pre2 (σ : fE) (x : V) : O2 -> Option Unit
 | .app _ => (cellL σ x).map λ _ => ()
 | .ext _ => (cellL σ x).map λ _ => ()
 | _ => some ()
noncomputable def op2 (σ : fE) (x y : V) : O2 -> Option (V × fE)
 | .bin o => (binD σ o x y).map λ v => (v, σ)
 | .cmp o => (cmpD σ o x y).map λ b => (.d (.bool b), σ)
 | .sub _ => (subD σ x y).map λ v => (v, σ)
 | .app _ => (appendD σ x y).map λ σ => (.d .none, σ)
 | .ext _ => (extendD σ x y).map λ σ => (.d .none, σ)
 | .pop _ => popD σ x
 | .att n => (attD σ x n).map λ v => (v, σ)
noncomputable def itOf (σ : fE) (v : V) : Sk -> Option It
 | .ex _ => some (.seq v)
 | .range _ => (intO v).map λ i => .rng i.toNat
 | .rev _ => (listOf σ v).map λ xs => .rev v xs.length
noncomputable def OW {β : Type} (o : Option β) (Q : β -> Prop) : Prop := match o with
 | some a => Q a
 | none => False
noncomputable def WP (o : Option (V × fE)) (Q : Ps) : Prop := OW o λ p => Q p.1 p.2
abbrev Sx := Loc -> fE -> Ps -> Prop
noncomputable def kT (f : Bool -> fE -> Prop) (v : V) (σ : fE) : Prop := OW (truth σ v) λ b => f b σ
noncomputable def sEs : List Sx -> Loc -> fE -> (List V -> fE -> Prop) -> Prop
 | [], _, σ, Q => Q [] σ
 | a :: r, ρ, σ, Q => a ρ σ λ v σ => sEs r ρ σ λ vs σ => Q (v :: vs) σ
noncomputable def sIt (a : Sx) (k : Sk) (ρ : Loc) (σ : fE) (Q : It -> Nat -> fE -> Prop) : Prop :=
 a ρ σ λ v σ => OW (itOf σ v k) λ it => OW (it.len σ) λ n => Q it n σ
noncomputable def kfl (nx : Loc -> fE -> Prop) (Q : Fs) : Fs
 | .next, ρ, σ => nx ρ σ
 | .ret v, ρ, σ => Q (.ret v) ρ σ
noncomputable def osel {β γ : Type} (d : γ) (f : β -> γ) : Option β -> γ
 | none => d
 | some x => f x
noncomputable def evLoop (body : Loc -> fE -> Fs -> Prop) (t : Tg) (it : It) : Nat -> Nat -> Loc -> fE -> Fs -> Prop
 | 0, i, ρ, σ, Q => OW (it.at σ i) (osel (Q .next ρ σ) λ _ => False)
 | k + 1, i, ρ, σ, Q => OW (it.at σ i) (osel (Q .next ρ σ) λ x => OW (t.put ρ x) λ ρ => body ρ σ (kfl (λ ρ σ => evLoop body t it k (i + 1) ρ σ Q) Q))
noncomputable def fq (turn : Loc -> fE -> (fE -> Prop) -> Prop) (t : Tg) (it : It) (ρ : Loc) : Nat -> Nat -> fE -> (fE -> Prop) -> Prop
 | 0, i, σ, Q => OW (it.at σ i) (osel (Q σ) λ _ => False)
 | k + 1, i, σ, Q => OW (it.at σ i) (osel (Q σ) λ x => OW (t.put ρ x) λ ρ₁ => turn ρ₁ σ λ σ => fq turn t it ρ k (i + 1) σ Q)
inductive fY (O : Orc) (f : Nat) (vs : List V) (σ : fE) (Q : Ps) : Prop
 | mk : (O.run f vs σ λ v σ' => WP (fin σ.length v σ') Q) -> fY O f vs σ Q
noncomputable def opn (O : Orc) (vs : List V) (σ : fE) (Q : Ps) : On -> Prop
 | .tup _ => OW (datas? vs) λ xs => Q (.d (.tuple xs)) σ
 | .lst _ => OW (datas? vs) λ xs => Q (.d (.list xs)) σ
 | .newl _ => OW (datas? vs) λ xs => Q (.l σ.length) (σ ++ [.list xs])
 | .dct ks => Q (.l σ.length) (σ ++ [.dict (ks.zip vs)])
 | .call f => fY O f vs σ Q
 | .new c => OW (O.init c) λ f => O.run f (.l σ.length :: vs) (σ ++ [.inst c []]) λ v σ' => OW ((dataOf v).bind λ x => ck (isNoneD x) ()) λ _ => Q (.l σ.length) σ'
 | .bi b => OW (biD σ b vs) λ v => Q v σ
noncomputable def sTurn (c e : Sx) (n : Nat) (ρ : Loc) (σ : fE) (Q : fE -> Prop) : Prop :=
 c ρ σ (kT λ c σ => cond c (e ρ σ λ v σ => OW (appendD σ (.l n) v) Q) (Q σ))
noncomputable def sIn (turn : Loc -> fE -> (fE -> Prop) -> Prop) (t : Tg) (a : Sx) (k : Sk) (ρ : Loc) (σ : fE) (Q : fE -> Prop) : Prop :=
 sIt a k ρ σ λ it n σ => fq turn t it ρ n 0 σ Q
noncomputable def sCo (turn : Nat -> Loc -> fE -> (fE -> Prop) -> Prop) (t : Tg) (a : Sx) (k : Sk) (ρ : Loc) (σ : fE) (Q : Nat -> fE -> Prop) : Prop :=
 sIt a k ρ σ λ it n σ => fq (turn σ.length) t it ρ n 0 (σ ++ [.list []]) (Q σ.length)
noncomputable def always : Sx := λ _ σ Q => Q (.d (.bool true)) σ
mutual
noncomputable def evE (O : Orc) : EX -> Loc -> fE -> Ps -> Prop
 | .bad, _, _, _ => False
 | .c x, _, σ, Q => Q (.d x) σ
 | .v i, ρ, σ, Q => OW (lget ρ i) λ v => Q v σ
 | .op o a b, ρ, σ, Q => evE O a ρ σ λ x σ => OW (pre2 σ x o) λ _ => evE O b ρ σ λ y σ => WP (op2 σ x y o) Q
 | .not a, ρ, σ, Q => evE O a ρ σ (kT λ b σ => Q (.d (.bool !b)) σ)
 | .and a b, ρ, σ, Q => evE O a ρ σ λ v σ => OW (truth σ v) λ c => cond c (evE O b ρ σ Q) (Q v σ)
 | .or a b, ρ, σ, Q => evE O a ρ σ λ v σ => OW (truth σ v) λ c => cond c (Q v σ) (evE O b ρ σ Q)
 | .ite t a b, ρ, σ, Q => evE O t ρ σ (kT λ c σ => cond c (evE O a ρ σ Q) (evE O b ρ σ Q))
 | .mk o es, ρ, σ, Q => sEs (evL O es) ρ σ λ vs σ => opn O vs σ Q o
 | .meth o n es, ρ, σ, Q => evE O o ρ σ λ x σ => OW (cellI σ x) λ p => OW (O.meth p.2.1 n) λ f => sEs (evL O es) ρ σ λ vs σ => fY O f (.l p.1 :: vs) σ Q
 | .slc a lo hi, ρ, σ, Q => evE O a ρ σ λ x σ => evE O lo ρ σ λ p σ => OW (intN p) λ p => evE O hi ρ σ λ q σ => OW (intN q) λ q => OW (slcD σ x p q) λ v => Q v σ
 | .lc new e t k s c, ρ, σ, Q => sCo (sTurn (evE O c) (evE O e)) t (evE O s) k ρ σ λ n σ => cond new (Q (.l n) σ) (WP (fin n (.l n) σ) Q)
 | .lc2 e t₁ k₁ s₁ t₂ k₂ s₂, ρ, σ, Q => sCo (λ n => sIn (sTurn always (evE O e) n) t₂ (evE O s₂) k₂) t₁ (evE O s₁) k₁ ρ σ λ n σ => WP (fin n (.l n) σ) Q
noncomputable def evL (O : Orc) : List EX -> List Sx
 | [] => []
 | e :: r => evE O e :: evL O r
end
noncomputable def wIter (test : Sx) (body : Loc -> fE -> Fs -> Prop) : Nat -> Loc -> fE -> Fs -> Prop
 | 0, _, _, _ => False
 | k + 1, ρ, σ, Q => test ρ σ (kT λ c σ => cond c (body ρ σ (kfl (λ ρ σ => wIter test body k ρ σ Q) Q)) (Q .next ρ σ))
mutual
noncomputable def evX (O : Orc) : ST -> Loc -> fE -> Fs -> Prop
 | .bad, _, _, _ => False
 | .asg i e, ρ, σ, Q => evE O e ρ σ λ v σ => Q .next (ρ.set i (some v)) σ
 | .asgT is e, ρ, σ, Q => evE O e ρ σ λ v σ => OW ((dataOf v).bind λ x => Tg.put ρ x (.many is)) λ ρ => Q .next ρ σ
 | .setI o i e, ρ, σ, Q => evE O e ρ σ λ v σ => evE O o ρ σ λ x σ => evE O i ρ σ λ y σ => OW (setID σ x y v) λ σ => Q .next ρ σ
 | .setA o n e, ρ, σ, Q => evE O e ρ σ λ v σ => evE O o ρ σ λ x σ => OW (setAD σ x n v) λ σ => Q .next ρ σ
 | .ex e, ρ, σ, Q => evE O e ρ σ λ _ σ => Q .next ρ σ
 | .aug i e, ρ, σ, Q => OW (lget ρ i) λ v => evE O e ρ σ λ w σ => OW (ints2 v w λ a b => some (num (a + b))) λ u => Q .next (ρ.set i (some u)) σ
 | .ite t a b, ρ, σ, Q => evE O t ρ σ (kT λ c σ => cond c (fc O a ρ σ Q) (fc O b ρ σ Q))
 | .forL t k s b, ρ, σ, Q => sIt (evE O s) k ρ σ λ it n σ => evLoop (fc O b) t it n 0 ρ σ Q
 | .whl t b, ρ, σ, Q => ∃ k, wIter (evE O t) (fc O b) k ρ σ Q
 | .ret e, ρ, σ, Q => evE O e ρ σ λ v σ => Q (.ret v) ρ σ
noncomputable def fc (O : Orc) : List ST -> Loc -> fE -> Fs -> Prop
 | [], ρ, σ, Q => Q .next ρ σ
 | s :: r, ρ, σ, Q => evX O s ρ σ (kfl (λ ρ σ => fc O r ρ σ Q) Q)
end
noncomputable def bindLoc (fd : fI) (vs : List V) : Option Loc :=
 ck (decide (vs.length <= fd.np) && decide (fd.np <= vs.length + fd.dfl.length) && decide (fd.np <= fd.ns))
  (((vs ++ (fd.dfl.drop (fd.dfl.length - (fd.np - vs.length))).map V.d).map some) ++ bo (fd.ns - fd.np) none)
noncomputable def kend (Q : Ps) : Fs
 | .next, _, σ => Q (.d .none) σ
 | .ret v, _, σ => Q v σ
noncomputable def runDef (O : Orc) (fd : fI) (vs : List V) (σ : fE) (Q : Ps) : Prop := OW (bindLoc fd vs) λ ρ => fc O fd.body ρ σ (kend Q)
structure Prg where
 funs : List fI
 meth : List ((Nat × Nat) × Nat)
 init : List (Nat × Nat)
noncomputable def Prg.orc (p : Prg) (run : Nat -> List V -> fE -> Ps -> Prop) : Orc :=
 { run, meth := λ c n => p.meth.lookup (c, n), init := λ c => p.init.lookup c }
noncomputable def runN (p : Prg) : Nat -> Nat -> List V -> fE -> Ps -> Prop
 | 0, _, _, _, _ => False
 | n + 1, f, vs, σ, Q => OW (p.funs[f]?) λ fd => runDef (p.orc (runN p n)) fd vs σ Q
noncomputable def k_FIRST_ROWS : aA := (.tuple [(.tuple [(.int 1), (.str (aD "any"))]), (.tuple [(.int 1), (.str (aD "unknown"))]), (.tuple [(.int 1), (.str (aD "never"))]), (.tuple [(.int 1), (.str (aD "void"))]), (.tuple [(.int 1), (.str (aD "undefined"))]), (.tuple [(.int 1), (.str (aD "null"))]), (.tuple [(.int 1), (.str (aD "string"))]), (.tuple [(.int 1), (.str (aD "number"))]), (.tuple [(.int 2), (.int 0), (.int 0)]), (.tuple [(.int 2), (.int 1), (.int 0)]), (.tuple [(.int 1), (.str (aD "object"))]), (.tuple [(.int 8), (.tuple []), (.tuple []), (.tuple []), (.tuple []), (.tuple []), (.int 0)]), (.tuple [(.int 6), (.tuple [(.int 8), (.int 9)])]), (.tuple [(.int 1), (.str (aD "error"))]), (.tuple [(.int 2), (.int 0), (.int 1)]), (.tuple [(.int 2), (.int 1), (.int 1)])])
noncomputable def k_MARKED_ROWS : aA := (.tuple [(.int 2), (.int 3), (.int 4), (.int 5), (.int 8)])
noncomputable def k_KID_SPANS : aA := (.dict [((.int 11), (.tuple [(.int 1), (.int 2)])), ((.int 14), (.tuple [(.int 1), (.int 2)])), ((.int 15), (.tuple [(.int 1), (.int 3)])), ((.int 16), (.tuple [(.int 1), (.int 5)])), ((.int 17), (.tuple [(.int 2), (.int 5)]))])
noncomputable def k_OPEN_KINDS : aA := (.tuple [(.int 10), (.int 14), (.int 15), (.int 16), (.int 17), (.int 19)])
noncomputable def k_law_base : aA := (.tuple [(.int 4), (.int 3), (.int 1), (.int 1), (.int 1), (.int 9), (.int 0), (.int 6), (.int 7), (.int 0), (.int 0), (.int 3), (.int 1), (.int 1), (.int 0), (.int 5), (.int 10), (.int 0), (.int 1), (.int 2), (.int 1), (.int 1), (.int 2), (.int 0), (.int 25)])
noncomputable def f_TypeTable_init : fI := ⟨1, 2, [], [
 .setA (.v 0) 0 (.mk (.newl ()) []),
 .setA (.v 0) 1 (.mk (.dct []) []),
 .setA (.v 0) 2 (.mk (.newl ()) [(.c .none)]),
 .setA (.v 0) 3 (.mk (.newl ()) []),
 .setA (.v 0) 4 (.mk (.newl ()) []),
 .setA (.v 0) 5 (.mk (.newl ()) []),
 .setA (.v 0) 6 (.mk (.dct []) []),
 .setA (.v 0) 7 (.mk (.dct []) []),
 .setA (.v 0) 8 (.c (.int 0)),
 .setA (.v 0) 9 (.c (.int 0)),
 .forL (.one 1) (.ex ()) (.c k_FIRST_ROWS) [
  .ex (.meth (.v 0) 0 [(.v 1)])]]⟩
noncomputable def f_TypeTable_put : fI := ⟨2, 3, [], [
 .ite (.op (.cmp .In) (.v 1) (.op (.att 1) (.v 0) (.c .none))) [
  .ret (.op (.sub ()) (.op (.att 1) (.v 0) (.c .none)) (.v 1))] [],
 .asg 2 (.mk (.bi 0) [(.op (.att 0) (.v 0) (.c .none))]),
 .ex (.op (.app ()) (.op (.att 0) (.v 0) (.c .none)) (.v 1)),
 .setI (.op (.att 1) (.v 0) (.c .none)) (.v 1) (.v 2),
 .ret (.v 2)]⟩
noncomputable def f_str_type : fI := ⟨3, 3, [(.int 0)], [
 .ret (.meth (.v 0) 0 [(.mk (.tup ()) [(.c (.int 3)), (.v 1), (.v 2)])])]⟩
noncomputable def f_num_type : fI := ⟨3, 3, [(.int 0)], [
 .ret (.meth (.v 0) 0 [(.mk (.tup ()) [(.c (.int 4)), (.v 1), (.v 2)])])]⟩
noncomputable def f_array_type : fI := ⟨3, 3, [(.int 0)], [
 .ret (.meth (.v 0) 0 [(.mk (.tup ()) [(.c (.int 11)), (.v 1), (.v 2)])])]⟩
noncomputable def f_last_mark : fI := ⟨2, 4, [], [
 .asg 2 (.c (.int (-1))),
 .forL (.one 3) (.range ()) (.mk (.bi 0) [(.v 0)]) [
  .ite (.op (.cmp .In) (.op (.sub ()) (.op (.sub ()) (.v 0) (.v 3)) (.c (.int 1))) (.v 1)) [
   .asg 2 (.v 3)] []],
 .ret (.v 2)]⟩
noncomputable def f_needed_to_last : fI := ⟨2, 7, [], [
 .asg 2 (.mk (.call 5) [(.v 1), (.mk (.tup ()) [(.c (.int 0))])]),
 .asg 3 (.mk (.newl ()) []),
 .forL (.one 4) (.range ()) (.mk (.bi 0) [(.v 1)]) [
  .asgT [5, 6] (.op (.sub ()) (.v 1) (.v 4)),
  .ite (.and (.op (.cmp .Eq) (.v 6) (.c (.int 1))) (.op (.cmp .Lt) (.v 4) (.v 2))) [
   .ex (.op (.app ()) (.v 3) (.mk (.tup ()) [(.mk (.call 17) [(.v 0), (.v 5)]), (.c (.int 0))]))] [
   .ex (.op (.app ()) (.v 3) (.mk (.tup ()) [(.v 5), (.v 6)]))]],
 .ret (.v 3)]⟩
noncomputable def f_one_rest : fI := ⟨3, 8, [], [
 .asg 3 (.c (.int (-1))),
 .forL (.one 4) (.range ()) (.mk (.bi 0) [(.v 1)]) [
  .ite (.and (.op (.cmp .Lt) (.v 3) (.c (.int 0))) (.op (.cmp .Eq) (.op (.sub ()) (.op (.sub ()) (.v 1) (.v 4)) (.c (.int 1))) (.c (.int 2)))) [
   .asg 3 (.v 4)] []],
 .ite (.or (.op (.cmp .Lt) (.v 3) (.c (.int 0))) (.op (.cmp .LtE) (.v 2) (.v 3))) [
  .ret (.v 1)] [],
 .asg 5 (.mk (.newl ()) []),
 .forL (.many [6, 7]) (.ex ()) (.slc (.v 1) (.v 3) (.op (.bin .Add) (.v 2) (.c (.int 1)))) [
  .ex (.op (.app ()) (.v 5) (.ite (.op (.cmp .Eq) (.v 7) (.c (.int 1))) (.mk (.call 17) [(.v 0), (.v 6)]) (.v 6)))],
 .ret (.op (.bin .Add) (.op (.bin .Add) (.slc (.v 1) (.c .none) (.v 3)) (.mk (.lst ()) [(.mk (.tup ()) [(.mk (.call 16) [(.v 0), (.v 5)]), (.c (.int 2))])])) (.slc (.v 1) (.op (.bin .Add) (.v 2) (.c (.int 1))) (.c .none)))]⟩
noncomputable def f_tuple_type : fI := ⟨3, 8, [(.int 0)], [
 .asg 3 (.lc false (.mk (.tup ()) [(.v 5), (.v 6)]) (.many [5, 6]) (.ex ()) (.v 1) (.c (.bool true))),
 .ite (.op (.cmp .Lt) (.mk (.call 5) [(.v 3), (.mk (.tup ()) [(.c (.int 3))])]) (.c (.int 0))) [
  .asg 4 (.mk (.call 5) [(.v 3), (.mk (.tup ()) [(.c (.int 2)), (.c (.int 1))])]),
  .asg 3 (.mk (.call 7) [(.v 0), (.mk (.call 6) [(.v 0), (.v 3)]), (.v 4)]),
  .ite (.and (.op (.cmp .Eq) (.mk (.bi 0) [(.v 3)]) (.c (.int 1))) (.op (.cmp .Eq) (.op (.sub ()) (.op (.sub ()) (.v 3) (.c (.int 0))) (.c (.int 1))) (.c (.int 2)))) [
   .ret (.mk (.call 4) [(.v 0), (.op (.sub ()) (.op (.sub ()) (.v 3) (.c (.int 0))) (.c (.int 0))), (.v 2)])] []] [],
 .ret (.meth (.v 0) 0 [(.mk (.tup ()) [(.c (.int 12)), (.mk (.bi 1) [(.v 3)]), (.v 2)])])]⟩
noncomputable def f_new_param : fI := ⟨4, 5, [(.int (-1)), (.int (-1))], [
 .asg 4 (.mk (.bi 0) [(.op (.att 3) (.v 0) (.c .none))]),
 .ex (.op (.app ()) (.op (.att 3) (.v 0) (.c .none)) (.v 2)),
 .ex (.op (.app ()) (.op (.att 4) (.v 0) (.c .none)) (.v 3)),
 .ex (.op (.app ()) (.op (.att 5) (.v 0) (.c .none)) (.v 1)),
 .ret (.meth (.v 0) 0 [(.mk (.tup ()) [(.c (.int 10)), (.v 4)])])]⟩
noncomputable def f_parts_of : fI := ⟨2, 3, [], [
 .ite (.op (.cmp .Eq) (.v 1) (.c (.int 2))) [
  .ret (.mk (.tup ()) [])] [],
 .asg 2 (.op (.sub ()) (.op (.att 0) (.v 0) (.c .none)) (.v 1)),
 .ite (.op (.cmp .Eq) (.op (.sub ()) (.v 2) (.c (.int 0))) (.c (.int 6))) [
  .ret (.op (.sub ()) (.v 2) (.c (.int 1)))] [],
 .ret (.mk (.tup ()) [(.v 1)])]⟩
noncomputable def f_whole_of_row : fI := ⟨1, 2, [], [
 .asg 1 (.op (.sub ()) (.v 0) (.c (.int 0))),
 .ite (.or (.op (.cmp .Eq) (.v 1) (.c (.int 3))) (.op (.cmp .Eq) (.v 1) (.c (.int 18)))) [
  .ret (.c (.int 6))] [],
 .ite (.op (.cmp .Eq) (.v 1) (.c (.int 4))) [
  .ret (.c (.int 7))] [],
 .ite (.op (.cmp .Eq) (.v 1) (.c (.int 5))) [
  .ret (.ite .bad (.c (.int 6)) (.c (.int 7)))] [],
 .ret (.c (.int (-1)))]⟩
noncomputable def f_regular_twin : fI := ⟨2, 3, [], [
 .asg 2 (.op (.sub ()) (.op (.att 0) (.v 0) (.c .none)) (.v 1)),
 .ite (.and (.op (.cmp .In) (.op (.sub ()) (.v 2) (.c (.int 0))) (.c k_MARKED_ROWS)) (.op (.cmp .Eq) (.op (.sub ()) (.v 2) (.c (.int (-1)))) (.c (.int 1)))) [
  .ret .bad] [],
 .ret (.c (.int (-1)))]⟩
noncomputable def f_join_bools : fI := ⟨1, 1, [], [
 .ite (.and (.or (.op (.cmp .In) (.c (.int 8)) (.v 0)) (.op (.cmp .In) (.c (.int 14)) (.v 0))) (.or (.op (.cmp .In) (.c (.int 9)) (.v 0)) (.op (.cmp .In) (.c (.int 15)) (.v 0)))) [
  .setI (.v 0) (.c (.int 8)) (.c (.int 1)),
  .setI (.v 0) (.c (.int 9)) (.c (.int 1))] []]⟩
noncomputable def f_stays_beside : fI := ⟨3, 3, [], [
 .ite (.op (.cmp .In) (.mk (.call 12) [(.v 0), (.v 2)]) (.v 1)) [
  .ret (.c (.bool false))] [],
 .ret (.op (.cmp .NotIn) (.mk (.call 11) [(.op (.sub ()) (.op (.att 0) (.v 0) (.c .none)) (.v 2))]) (.v 1))]⟩
noncomputable def f_top_of : fI := ⟨1, 2, [], [
 .forL (.one 1) (.ex ()) (.mk (.tup ()) [(.c (.int 0)), (.c (.int 13)), (.c (.int 1))]) [
  .ite (.op (.cmp .In) (.v 1) (.v 0)) [
   .ret (.v 1)] []],
 .ret (.c (.int (-1)))]⟩
noncomputable def f_union : fI := ⟨2, 10, [], [
 .asg 2 (.mk (.dct []) []),
 .forL (.one 3) (.ex ()) (.v 1) [
  .forL (.one 4) (.ex ()) (.mk (.call 10) [(.v 0), (.v 3)]) [
   .setI (.v 2) (.v 4) (.c (.int 1))]],
 .asg 5 (.mk (.call 15) [(.v 2)]),
 .ite (.op (.cmp .GtE) (.v 5) (.c (.int 0))) [
  .ret (.v 5)] [],
 .ex (.mk (.call 13) [(.v 2)]),
 .asg 6 (.lc false (.v 7) (.one 7) (.ex ()) (.mk (.bi 3) [(.v 2)]) (.mk (.call 14) [(.v 0), (.v 2), (.v 7)])),
 .ite (.not (.v 6)) [
  .ret (.c (.int 2))] [],
 .ite (.op (.cmp .Eq) (.mk (.bi 0) [(.v 6)]) (.c (.int 1))) [
  .ret (.op (.sub ()) (.v 6) (.c (.int 0)))] [],
 .ite (.op (.cmp .Gt) (.mk (.bi 0) [(.v 6)]) (.c (.int 400))) [
  .bad] [],
 .ret (.meth (.v 0) 0 [(.mk (.tup ()) [(.c (.int 6)), (.mk (.bi 1) [(.v 6)])])])]⟩
noncomputable def f_add_undef : fI := ⟨2, 2, [], [
 .ret (.mk (.call 16) [(.v 0), (.mk (.tup ()) [(.v 1), (.c (.int 4))])])]⟩
noncomputable def f_index_kids : fI := ⟨1, 1, [], [
 .ret (.ite (.op (.cmp .Eq) (.v 0) (.mk (.tup ()) [])) (.mk (.lst ()) []) (.mk (.lst ()) [(.op (.sub ()) (.v 0) (.c (.int 0)))]))]⟩
noncomputable def f_object_kids : fI := ⟨1, 6, [], [
 .asg 1 (.lc true (.op (.sub ()) (.v 3) (.c (.int 1))) (.one 3) (.ex ()) (.op (.sub ()) (.v 0) (.c (.int 1))) (.c (.bool true))),
 .forL (.one 2) (.ex ()) (.op (.bin .Add) (.op (.sub ()) (.v 0) (.c (.int 2))) (.op (.sub ()) (.v 0) (.c (.int 3)))) [
  .ex (.op (.app ()) (.v 1) (.v 2))],
 .ret (.op (.bin .Add) (.op (.bin .Add) (.v 1) (.mk (.call 18) [(.op (.sub ()) (.v 0) (.c (.int 4)))])) (.mk (.call 18) [(.op (.sub ()) (.v 0) (.c (.int 5)))]))]⟩
noncomputable def f_row_kids : fI := ⟨1, 7, [], [
 .asg 1 (.op (.sub ()) (.v 0) (.c (.int 0))),
 .ite (.op (.cmp .In) (.v 1) (.c k_KID_SPANS)) [
  .asgT [2, 3] (.op (.sub ()) (.c k_KID_SPANS) (.v 1)),
  .ret (.lc false (.v 4) (.one 4) (.ex ()) (.slc (.v 0) (.v 2) (.v 3)) (.c (.bool true)))] [],
 .ite (.or (.op (.cmp .Eq) (.v 1) (.c (.int 6))) (.op (.cmp .Eq) (.v 1) (.c (.int 7)))) [
  .ret (.lc false (.v 4) (.one 4) (.ex ()) (.op (.sub ()) (.v 0) (.c (.int 1))) (.c (.bool true)))] [],
 .ite (.op (.cmp .Eq) (.v 1) (.c (.int 8))) [
  .ret (.mk (.call 19) [(.v 0)])] [],
 .ite (.or (.op (.cmp .Eq) (.v 1) (.c (.int 9))) (.or (.op (.cmp .Eq) (.v 1) (.c (.int 19))) (.op (.cmp .Eq) (.v 1) (.c (.int 18))))) [
  .ret (.lc false (.v 4) (.one 4) (.ex ()) (.op (.sub ()) (.v 0) (.c (.int 2))) (.c (.bool true)))] [],
 .ite (.op (.cmp .Eq) (.v 1) (.c (.int 12))) [
  .ret (.lc false (.op (.sub ()) (.v 4) (.c (.int 0))) (.one 4) (.ex ()) (.op (.sub ()) (.v 0) (.c (.int 1))) (.c (.bool true)))] [],
 .ite (.op (.cmp .Eq) (.v 1) (.c (.int 13))) [
  .ret .bad] [],
 .ret (.mk (.lst ()) [])]⟩
noncomputable def f_row_binds : fI := ⟨1, 1, [], [
 .ite (.op (.cmp .Eq) (.op (.sub ()) (.v 0) (.c (.int 0))) (.c (.int 13))) [
  .ret (.op (.sub ()) (.v 0) (.c (.int 1)))] [],
 .ite (.op (.cmp .Eq) (.op (.sub ()) (.v 0) (.c (.int 0))) (.c (.int 16))) [
  .ret (.op (.sub ()) (.v 0) (.c (.int 5)))] [],
 .ite (.op (.cmp .Eq) (.op (.sub ()) (.v 0) (.c (.int 0))) (.c (.int 17))) [
  .ret (.mk (.tup ()) [(.op (.sub ()) (.v 0) (.c (.int 1)))])] [],
 .ret (.mk (.tup ()) [])]⟩
noncomputable def f_inner_kids : fI := ⟨2, 4, [], [
 .asg 2 (.mk (.call 20) [(.v 1)]),
 .forL (.one 3) (.ex ()) (.mk (.call 21) [(.v 1)]) [
  .ex (.op (.app ()) (.v 2) (.op (.sub ()) (.op (.att 3) (.v 0) (.c .none)) (.v 3))),
  .ex (.op (.app ()) (.v 2) (.op (.sub ()) (.op (.att 4) (.v 0) (.c .none)) (.v 3)))],
 .ret (.v 2)]⟩
noncomputable def f_reached : fI := ⟨2, 5, [], [
 .asg 2 (.mk (.dct []) []),
 .asg 3 (.mk (.newl ()) [(.v 1)]),
 .whl (.v 3) [
  .asg 4 (.op (.pop ()) (.v 3) (.c .none)),
  .ite (.and (.op (.cmp .GtE) (.v 4) (.c (.int 0))) (.op (.cmp .NotIn) (.v 4) (.v 2))) [
   .setI (.v 2) (.v 4) (.c (.int 1)),
   .ex (.op (.ext ()) (.v 3) (.mk (.call 22) [(.v 0), (.op (.sub ()) (.op (.att 0) (.v 0) (.c .none)) (.v 4))]))] []],
 .ret (.mk (.bi 3) [(.v 2)])]⟩
noncomputable def f_free_params : fI := ⟨2, 10, [], [
 .ite (.op (.cmp .Lt) (.v 1) (.c (.int 0))) [
  .ret (.mk (.tup ()) [])] [],
 .asg 2 (.mk (.call 23) [(.v 0), (.v 1)]),
 .ite (.not (.mk (.bi 5) [(.lc false (.mk (.call 21) [(.op (.sub ()) (.op (.att 0) (.v 0) (.c .none)) (.v 7))]) (.one 7) (.ex ()) (.v 2) (.c (.bool true)))])) [
  .ret (.mk (.bi 1) [(.mk (.bi 3) [(.lc false (.op (.sub ()) (.op (.sub ()) (.op (.att 0) (.v 0) (.c .none)) (.v 7)) (.c (.int 1))) (.one 7) (.ex ()) (.v 2) (.op (.cmp .Eq) (.op (.sub ()) (.op (.sub ()) (.op (.att 0) (.v 0) (.c .none)) (.v 7)) (.c (.int 0))) (.c (.int 10))))])])] [],
 .asg 4 (.mk (.dct []) []),
 .asg 5 (.c (.int (-1))),
 .whl .bad [
  .asg 6 (.c (.int 0)),
  .forL (.one 3) (.ex ()) (.v 2) [
   .aug 6 (.mk (.bi 0) [(.op (.sub ()) (.v 4) (.v 3))])],
  .ite (.op (.cmp .Eq) (.v 6) (.v 5)) [
   .bad] [],
  .asg 5 (.v 6)],
 .ret (.mk (.bi 1) [(.mk (.bi 3) [(.op (.sub ()) (.v 4) (.v 1))])])]⟩
noncomputable def f_has_params : fI := ⟨2, 2, [], [
 .ret (.op (.cmp .Gt) (.mk (.bi 0) [(.mk (.call 24) [(.v 0), (.v 1)])]) (.c (.int 0)))]⟩
noncomputable def f_is_open : fI := ⟨2, 6, [], [
 .asg 2 (.op (.sub ()) (.op (.att 0) (.v 0) (.c .none)) (.v 1)),
 .ite (.op (.cmp .In) (.op (.sub ()) (.v 2) (.c (.int 0))) (.c k_OPEN_KINDS)) [
  .ret (.c (.bool true))] [],
 .ite (.or (.op (.cmp .Eq) (.op (.sub ()) (.v 2) (.c (.int 0))) (.c (.int 6))) (.op (.cmp .Eq) (.op (.sub ()) (.v 2) (.c (.int 0))) (.c (.int 7)))) [
  .forL (.one 3) (.ex ()) (.op (.sub ()) (.v 2) (.c (.int 1))) [
   .ite (.mk (.call 26) [(.v 0), (.v 3)]) [
    .ret (.c (.bool true))] []]] [],
 .ite (.op (.cmp .Eq) (.op (.sub ()) (.v 2) (.c (.int 0))) (.c (.int 12))) [
  .forL (.one 4) (.ex ()) (.op (.sub ()) (.v 2) (.c (.int 1))) [
   .ite (.op (.cmp .Eq) (.op (.sub ()) (.v 4) (.c (.int 1))) (.c (.int 3))) [
    .ret (.c (.bool true))] []]] [],
 .ite (.op (.cmp .Eq) (.op (.sub ()) (.v 2) (.c (.int 0))) (.c (.int 18))) [
  .forL (.one 5) (.ex ()) (.op (.sub ()) (.v 2) (.c (.int 2))) [
   .ite (.mk (.call 26) [(.v 0), (.v 5)]) [
    .ret (.c (.bool true))] []]] [],
 .ret (.c (.bool false))]⟩
noncomputable def f_unit_word : fI := ⟨2, 3, [], [
 .asg 2 (.op (.sub ()) (.op (.att 0) (.v 0) (.c .none)) (.v 1)),
 .ite (.op (.cmp .Eq) (.op (.sub ()) (.v 2) (.c (.int 0))) (.c (.int 3))) [
  .ret (.op (.sub ()) (.v 2) (.c (.int 1)))] [],
 .ite (.op (.cmp .Eq) (.op (.sub ()) (.v 2) (.c (.int 0))) (.c (.int 4))) [
  .ret .bad] [],
 .ite (.op (.cmp .Eq) (.op (.sub ()) (.v 2) (.c (.int 0))) (.c (.int 5))) [
  .ret .bad] [],
 .ite (.op (.cmp .Eq) (.op (.sub ()) (.v 2) (.c (.int 0))) (.c (.int 2))) [
  .ret (.ite (.op (.cmp .Eq) (.op (.sub ()) (.v 2) (.c (.int 1))) (.c (.int 1))) (.c (.str (aD "true"))) (.c (.str (aD "false"))))] [],
 .ite (.op (.cmp .Eq) (.v 1) (.c (.int 5))) [
  .ret (.c (.str (aD "null")))] [],
 .ite (.op (.cmp .Eq) (.v 1) (.c (.int 4))) [
  .ret (.c (.str (aD "undefined")))] [],
 .ret (.c .none)]⟩
noncomputable def f_key_text : fI := ⟨2, 2, [], [
 .ite (.op (.cmp .In) (.op (.sub ()) (.op (.sub ()) (.op (.att 0) (.v 0) (.c .none)) (.v 1)) (.c (.int 0))) (.mk (.tup ()) [(.c (.int 3)), (.c (.int 4)), (.c (.int 5))])) [
  .ret (.mk (.call 27) [(.v 0), (.v 1)])] [],
 .ret (.c .none)]⟩
noncomputable def f_kindsplice_spread_kind : fI := ⟨2, 3, [], [
 .asg 2 (.meth (.v 0) 1 [(.v 1)]),
 .ite (.and (.mk (.call 25) [(.op (.att 10) (.v 0) (.c .none)), (.v 1)]) (.op (.cmp .NotIn) (.op (.sub ()) (.op (.sub ()) (.op (.att 0) (.op (.att 10) (.v 0) (.c .none)) (.c .none)) (.v 2)) (.c (.int 0))) (.mk (.tup ()) [(.c (.int 11)), (.c (.int 12))]))) [
  .ret (.v 1)] [],
 .ret (.v 2)]⟩
noncomputable def f_union_places : fI := ⟨2, 3, [], [
 .forL (.one 2) (.range ()) (.mk (.bi 0) [(.v 1)]) [
  .ite (.and (.op (.cmp .Eq) (.op (.sub ()) (.op (.sub ()) (.v 1) (.v 2)) (.c (.int 1))) (.c (.int 3))) (.op (.cmp .Eq) (.op (.sub ()) (.op (.sub ()) (.op (.att 0) (.v 0) (.c .none)) (.op (.sub ()) (.op (.sub ()) (.v 1) (.v 2)) (.c (.int 0)))) (.c (.int 0))) (.c (.int 6)))) [
   .ret (.v 2)] []],
 .ret (.c (.int (-1)))]⟩
noncomputable def f_kindsplice_list_part : fI := ⟨2, 4, [], [
 .asg 2 (.op (.sub ()) (.op (.att 0) (.v 0) (.c .none)) (.v 1)),
 .ite (.and (.op (.cmp .Eq) (.op (.sub ()) (.v 2) (.c (.int 0))) (.c (.int 7))) (.not (.mk (.call 26) [(.v 0), (.v 1)]))) [
  .forL (.one 3) (.ex ()) (.op (.sub ()) (.v 2) (.c (.int 1))) [
   .ite (.op (.cmp .In) (.op (.sub ()) (.op (.sub ()) (.op (.att 0) (.v 0) (.c .none)) (.v 3)) (.c (.int 0))) (.mk (.tup ()) [(.c (.int 11)), (.c (.int 12))])) [
    .ret (.v 3)] []]] [],
 .ret (.v 1)]⟩
noncomputable def f_cut_open : fI := ⟨2, 6, [], [
 .asg 2 (.op (.sub ()) (.op (.att 0) (.v 0) (.c .none)) (.mk (.call 31) [(.v 0), (.op (.sub ()) (.v 1) (.c (.int 0)))])),
 .ite (.op (.cmp .Eq) (.op (.sub ()) (.v 2) (.c (.int 0))) (.c (.int 11))) [
  .ret (.mk (.lst ()) [(.mk (.tup ()) [(.op (.sub ()) (.v 2) (.c (.int 1))), (.c (.int 2))])])] [],
 .ite (.op (.cmp .Eq) (.op (.sub ()) (.v 2) (.c (.int 0))) (.c (.int 12))) [
  .ret (.lc false (.v 3) (.one 3) (.ex ()) (.op (.sub ()) (.v 2) (.c (.int 1))) (.c (.bool true)))] [],
 .ite (.op (.cmp .Eq) (.op (.sub ()) (.v 1) (.c (.int 0))) (.c (.int 0))) [
  .ret (.mk (.lst ()) [(.mk (.tup ()) [(.c (.int 0)), (.c (.int 2))])])] [],
 .ite (.mk (.call 26) [(.v 0), (.op (.sub ()) (.v 1) (.c (.int 0)))]) [
  .ret (.mk (.lst ()) [(.v 1)])] [],
 .ret (.mk (.lst ()) [(.mk (.tup ()) [(.c (.int 1)), (.c (.int 2))])])]⟩
noncomputable def f_splice_union : fI := ⟨4, 8, [], [
 .asg 4 (.op (.att 10) (.v 0) (.c .none)),
 .asg 5 (.mk (.newl ()) []),
 .forL (.one 6) (.ex ()) (.op (.sub ()) (.op (.sub ()) (.op (.att 0) (.v 4) (.c .none)) (.op (.sub ()) (.op (.sub ()) (.v 1) (.v 2)) (.c (.int 0)))) (.c (.int 1))) [
  .asg 7 (.op (.bin .Add) (.op (.bin .Add) (.slc (.v 1) (.c .none) (.v 2)) (.mk (.lst ()) [(.mk (.tup ()) [(.v 6), (.c (.int 3))])])) (.slc (.v 1) (.op (.bin .Add) (.v 2) (.c (.int 1))) (.c .none))),
  .ex (.op (.app ()) (.v 5) (.mk (.call 34) [(.v 0), (.v 7), (.v 3)]))],
 .ret (.mk (.call 16) [(.v 4), (.v 5)])]⟩
noncomputable def f_splice : fI := ⟨3, 8, [], [
 .asg 3 (.op (.att 10) (.v 0) (.c .none)),
 .asg 4 (.mk (.newl ()) []),
 .forL (.one 5) (.ex ()) (.v 1) [
  .ite (.op (.cmp .Eq) (.op (.sub ()) (.v 5) (.c (.int 1))) (.c (.int 3))) [
   .asg 5 (.mk (.tup ()) [(.mk (.call 29) [(.v 0), (.op (.sub ()) (.v 5) (.c (.int 0)))]), (.c (.int 3))]),
   .ite (.or (.op (.cmp .Eq) (.op (.sub ()) (.v 5) (.c (.int 0))) (.c (.int 2))) (.op (.cmp .Eq) (.op (.sub ()) (.v 5) (.c (.int 0))) (.c (.int 13)))) [
    .ret (.op (.sub ()) (.v 5) (.c (.int 0)))] []] [],
  .ex (.op (.app ()) (.v 4) (.v 5))],
 .asg 6 (.mk (.call 30) [(.v 3), (.v 4)]),
 .ite (.op (.cmp .GtE) (.v 6) (.c (.int 0))) [
  .ret (.mk (.call 33) [(.v 0), (.v 4), (.v 6), (.v 2)])] [],
 .asg 7 (.mk (.newl ()) []),
 .forL (.one 5) (.ex ()) (.v 4) [
  .ite (.op (.cmp .Eq) (.op (.sub ()) (.v 5) (.c (.int 1))) (.c (.int 3))) [
   .ex (.op (.ext ()) (.v 7) (.mk (.call 32) [(.v 3), (.v 5)]))] [
   .ex (.op (.app ()) (.v 7) (.v 5))],
  .ite (.op (.cmp .Gt) (.mk (.bi 0) [(.v 7)]) (.c (.int 10000))) [
   .bad] []],
 .ret (.mk (.call 8) [(.v 3), (.mk (.bi 1) [(.v 7)]), (.v 2)])]⟩
noncomputable def f_find_prop : fI := ⟨2, 3, [], [
 .forL (.one 2) (.ex ()) (.op (.sub ()) (.v 0) (.c (.int 1))) [
  .ite (.op (.cmp .Eq) (.op (.sub ()) (.v 2) (.c (.int 0))) (.v 1)) [
   .ret (.v 2)] []],
 .ret (.c .none)]⟩
noncomputable def f_read_type : fI := ⟨2, 2, [], [
 .ret (.ite (.op (.bin .BitAnd) (.op (.sub ()) (.v 1) (.c (.int 2))) (.c (.int 1))) (.mk (.call 17) [(.v 0), (.op (.sub ()) (.v 1) (.c (.int 1)))]) (.op (.sub ()) (.v 1) (.c (.int 1))))]⟩
noncomputable def f_table_read : fI := ⟨2, 5, [], [
 .asg 2 (.op (.sub ()) (.op (.att 0) (.v 0) (.c .none)) (.op (.sub ()) (.v 1) (.c (.int 1)))),
 .ite (.op (.cmp .Eq) (.op (.sub ()) (.v 1) (.c (.int 1))) (.c (.int 0))) [
  .ret (.c (.int 0))] [],
 .ite (.op (.cmp .NotEq) (.op (.sub ()) (.v 2) (.c (.int 0))) (.c (.int 8))) [
  .ret (.meth (.v 0) 0 [(.v 1)])] [],
 .asg 3 (.mk (.call 35) [(.v 2), (.mk (.call 28) [(.v 0), (.op (.sub ()) (.v 1) (.c (.int 2)))])]),
 .ite (.op (.cmp .IsNot) (.v 3) (.c .none)) [
  .ret (.mk (.call 36) [(.v 0), (.v 3)])] [],
 .asg 4 (.ite (.and (.op (.cmp .Eq) (.op (.sub ()) (.v 1) (.c (.int 2))) (.c (.int 7))) (.op (.cmp .NotEq) (.op (.sub ()) (.v 2) (.c (.int 5))) (.mk (.tup ()) []))) (.op (.sub ()) (.v 2) (.c (.int 5))) (.op (.sub ()) (.v 2) (.c (.int 4)))),
 .ret (.ite (.op (.cmp .Eq) (.v 4) (.mk (.tup ()) [])) (.c (.int 13)) (.op (.sub ()) (.v 4) (.c (.int 0))))]⟩
noncomputable def f_put_name : fI := ⟨2, 2, [], [
 .ite (.op (.cmp .Eq) (.op (.sub ()) (.v 1) (.c (.int 0))) (.c (.int 15))) [
  .ret (.mk (.call 37) [(.op (.att 10) (.v 0) (.c .none)), (.v 1)])] [],
 .ite (.op (.cmp .Eq) (.op (.sub ()) (.v 1) (.c (.int 0))) (.c (.int 18))) [
  .ret .bad] [],
 .ret (.meth (.op (.att 10) (.v 0) (.c .none)) 0 [(.v 1)])]⟩
noncomputable def f_NameHost_init : fI := ⟨2, 2, [], [
 .setA (.v 0) 10 (.v 1),
 .setA (.v 0) 11 (.c (.int 0)),
 .setA (.v 0) 12 (.c (.int 200)),
 .setA (.v 0) 13 (.c (.int 40))]⟩
noncomputable def f_NameHost_force : fI := ⟨2, 3, [], [
 .asg 2 (.op (.sub ()) (.op (.att 0) (.op (.att 10) (.v 0) (.c .none)) (.c .none)) (.v 1)),
 .ret (.ite (.or (.op (.cmp .Eq) (.op (.sub ()) (.v 2) (.c (.int 0))) (.c (.int 15))) (.op (.cmp .Eq) (.op (.sub ()) (.v 2) (.c (.int 0))) (.c (.int 18)))) (.mk (.call 38) [(.v 0), (.v 2)]) (.v 1))]⟩
noncomputable def f_law_take : fI := ⟨2, 4, [], [
 .asg 2 (.op (.sub ()) (.v 0) (.c (.str (aD "at")))),
 .setI (.v 0) (.c (.str (aD "at"))) (.op (.bin .Add) (.v 2) (.c (.int 1))),
 .asg 3 (.ite (.op (.cmp .Lt) (.v 2) (.mk (.bi 0) [(.op (.sub ()) (.v 0) (.c (.str (aD "nums"))))])) (.op (.sub ()) (.op (.sub ()) (.v 0) (.c (.str (aD "nums")))) (.v 2)) (.op (.sub ()) (.c k_law_base) (.op (.bin .Mod) (.v 2) (.c (.int 25))))),
 .ret (.op (.bin .Mod) (.v 3) (.v 1))]⟩
noncomputable def f_law_brand : fI := ⟨2, 2, [], [
 .ret (.mk (.tup ()) [(.c (.int 8)), (.mk (.tup ()) [(.mk (.tup ()) [(.v 1), (.c (.int 6)), (.c (.int 0)), (.c (.int 0))])]), (.mk (.tup ()) []), (.mk (.tup ()) []), (.mk (.tup ()) []), (.mk (.tup ()) []), (.c (.int 0))])]⟩
noncomputable def f_law_world : fI := ⟨1, 16, [], [
 .asg 1 (.mk (.new 0) []),
 .asg 2 (.mk (.call 2) [(.v 1), (.c (.str (aD "a")))]),
 .asg 3 (.mk (.call 2) [(.v 1), (.c (.str (aD "b")))]),
 .asg 4 (.mk (.call 3) [(.v 1), (.c (.int 1))]),
 .asg 5 (.mk (.call 9) [(.v 1), (.c (.str (aD "T"))), (.c (.int (-1))), (.c (.int (-1)))]),
 .asg 6 (.mk (.tup ()) [(.mk (.tup ()) [(.c (.int 11)), (.c (.int 6)), (.c (.int 0))]), (.mk (.tup ()) [(.c (.int 11)), (.v 4), (.c (.int 1))]), (.mk (.tup ()) [(.c (.int 12)), (.mk (.tup ()) [(.mk (.tup ()) [(.v 2), (.c (.int 0))])]), (.c (.int 0))]), (.mk (.tup ()) [(.c (.int 12)), (.mk (.tup ()) [(.mk (.tup ()) [(.v 3), (.c (.int 0))]), (.mk (.tup ()) [(.v 2), (.c (.int 0))])]), (.c (.int 1))]), (.mk (.tup ()) [(.c (.int 12)), (.mk (.tup ()) [(.mk (.tup ()) [(.v 2), (.c (.int 1))]), (.mk (.tup ()) [(.c (.int 6)), (.c (.int 2))])]), (.c (.int 1))]), (.mk (.tup ()) [(.c (.int 12)), (.mk (.tup ()) []), (.c (.int 0))]), (.mk (.tup ()) [(.c (.int 12)), (.mk (.tup ()) [(.mk (.tup ()) [(.v 4), (.c (.int 0))]), (.mk (.tup ()) [(.c (.int 6)), (.c (.int 2))]), (.mk (.tup ()) [(.v 3), (.c (.int 0))])]), (.c (.int 0))]), (.mk (.tup ()) [(.c (.int 11)), (.v 5), (.c (.int 0))]), (.mk (.tup ()) [(.c (.int 12)), (.mk (.tup ()) [(.mk (.tup ()) [(.v 5), (.c (.int 3))]), (.mk (.tup ()) [(.v 3), (.c (.int 0))])]), (.c (.int 0))]), (.mk (.call 42) [(.v 1), (.c (.str (aD "brand")))]), (.mk (.call 42) [(.v 1), (.c (.str (aD "other")))]), (.mk (.tup ()) [(.c (.int 1)), (.c (.str (aD "string")))]), (.op (.sub ()) (.op (.att 0) (.v 1) (.c .none)) (.v 5)), (.mk (.tup ()) [(.c (.int 14)), (.v 5)]), (.mk (.tup ()) [(.c (.int 15)), (.v 5), (.v 2)])]),
 .asg 7 (.mk (.call 41) [(.v 0), (.c (.int 15))]),
 .asg 8 (.op (.sub ()) (.mk (.tup ()) [(.c (.int 1)), (.c (.int 2)), (.c (.int 4)), (.c (.int 7)), (.c (.int 8)), (.c (.int 11)), (.c (.int 13)), (.c (.int 14))]) (.mk (.call 41) [(.v 0), (.c (.int 8))])),
 .asg 9 (.lc true (.c (.int 0)) (.one 13) (.ex ()) (.v 6) (.c (.bool true))),
 .forL (.one 10) (.range ()) (.c (.int 15)) [
  .asg 11 (.op (.bin .Mod) (.op (.bin .Add) (.v 7) (.op (.bin .Mult) (.v 10) (.v 8))) (.c (.int 15))),
  .setI (.v 9) (.v 11) (.meth (.v 1) 0 [(.op (.sub ()) (.v 6) (.v 11))])],
 .asg 12 (.mk (.dct [(.str (aD "tab")), (.str (aD "laid")), (.str (aD "pool")), (.str (aD "places")), (.str (aD "asked"))]) [(.v 1), (.v 6), (.v 9), (.mk (.tup ()) [(.v 2), (.v 3), (.v 4), (.c (.int 6)), (.v 5)]), (.mk (.newl ()) [])]),
 .ret (.v 12)]⟩
noncomputable def f_law_stays : fI := ⟨2, 2, [], [
 .ret (.mk (.tup ()) [(.v 0), (.mk (.lst ()) [(.mk (.lst ()) [(.mk (.tup ()) [(.mk (.tup ()) [(.v 0)]), (.c (.int 3))])])]), (.v 1), (.c (.int (-1)))])]⟩
noncomputable def f_law_member : fI := ⟨2, 8, [], [
 .asg 2 (.op (.sub ()) (.op (.sub ()) (.v 0) (.c (.str (aD "pool")))) (.v 1)),
 .ite (.op (.cmp .Gt) (.v 1) (.c (.int 11))) [
  .ret (.mk (.call 44) [(.v 2), (.c (.bool true))])] [],
 .ite (.op (.cmp .Gt) (.v 1) (.c (.int 8))) [
  .ret (.mk (.tup ()) [(.v 2), (.mk (.lst ()) [(.mk (.lst ()) [(.mk (.tup ()) [(.mk (.tup ()) [(.c (.int 1))]), (.c (.int 2))])])]), (.c (.bool false)), (.c (.int (-1)))])] [],
 .asg 3 (.op (.sub ()) (.op (.sub ()) (.v 0) (.c (.str (aD "laid")))) (.v 1)),
 .asg 4 (.ite (.op (.cmp .Eq) (.op (.sub ()) (.v 3) (.c (.int 0))) (.c (.int 11))) (.mk (.tup ()) [(.mk (.tup ()) [(.op (.sub ()) (.v 3) (.c (.int 1))), (.c (.int 2))])]) (.op (.sub ()) (.v 3) (.c (.int 1)))),
 .ret (.mk (.tup ()) [(.v 2), (.mk (.lst ()) [(.lc false (.mk (.tup ()) [(.mk (.tup ()) [(.v 5)]), (.v 6)]) (.many [5, 6]) (.ex ()) (.v 4) (.c (.bool true)))]), (.op (.cmp .Gt) (.v 1) (.c (.int 6))), (.c (.int (-1)))])]⟩
noncomputable def f_law_met : fI := ⟨2, 11, [], [
 .asg 2 (.meth (.op (.sub ()) (.v 0) (.c (.str (aD "tab")))) 0 [(.mk (.tup ()) [(.c (.int 7)), (.mk (.bi 1) [(.lc false (.op (.sub ()) (.op (.sub ()) (.v 0) (.c (.str (aD "pool")))) (.v 8)) (.one 8) (.ex ()) (.v 1) (.c (.bool true)))])])]),
 .asg 3 (.mk (.bi 5) [(.lc false (.and (.op (.cmp .Gt) (.v 8) (.c (.int 6))) (.and (.op (.cmp .NotEq) (.v 8) (.c (.int 9))) (.and (.op (.cmp .NotEq) (.v 8) (.c (.int 10))) (.op (.cmp .NotEq) (.v 8) (.c (.int 11)))))) (.one 8) (.ex ()) (.v 1) (.c (.bool true)))]),
 .asg 4 (.lc false (.v 8) (.one 8) (.ex ()) (.v 1) (.op (.cmp .Lt) (.v 8) (.c (.int 9)))),
 .ite (.or (.op (.cmp .In) (.c (.int 8)) (.v 1)) (.op (.cmp .Gt) (.mk (.bi 6) [(.v 1)]) (.c (.int 11)))) [
  .asg 5 (.mk (.call 44) [(.v 2), (.c (.bool true))]),
  .ex (.op (.app ()) (.op (.sub ()) (.v 0) (.c (.str (aD "asked")))) (.mk (.tup ()) [(.v 2), (.v 2), (.op (.sub ()) (.op (.sub ()) (.v 5) (.c (.int 1))) (.c (.int 0)))])),
  .ret (.v 5)] [],
 .asg 6 (.mk (.lst ()) [(.mk (.lst ()) [(.mk (.tup ()) [(.mk (.tup ()) [(.c (.int 1))]), (.c (.int 2))])])]),
 .asg 7 (.v 2),
 .ite (.op (.cmp .Gt) (.mk (.bi 0) [(.v 4)]) (.c (.int 0))) [
  .asg 6 (.op (.sub ()) (.mk (.call 45) [(.v 0), (.op (.sub ()) (.v 4) (.c (.int 0)))]) (.c (.int 1))),
  .asg 7 (.op (.sub ()) (.op (.sub ()) (.v 0) (.c (.str (aD "pool")))) (.op (.sub ()) (.v 4) (.c (.int 0))))] [],
 .ex (.op (.app ()) (.op (.sub ()) (.v 0) (.c (.str (aD "asked")))) (.mk (.tup ()) [(.v 2), (.v 7), (.op (.sub ()) (.v 6) (.c (.int 0)))])),
 .ret (.mk (.tup ()) [(.v 2), (.v 6), (.v 3), (.c (.int (-1)))])]⟩
noncomputable def f_law_meet : fI := ⟨2, 8, [], [
 .asg 2 (.mk (.newl ()) []),
 .forL (.one 3) (.range ()) (.op (.bin .Add) (.c (.int 2)) (.mk (.call 41) [(.v 0), (.c (.int 2))])) [
  .asg 4 (.mk (.call 41) [(.v 0), (.c (.int 26))]),
  .asg 4 (.ite (.op (.cmp .Gt) (.v 4) (.c (.int 14))) (.op (.bin .Sub) (.v 4) (.c (.int 15))) (.v 4)),
  .whl (.op (.cmp .In) (.v 4) (.v 2)) [
   .asg 4 (.op (.bin .Mod) (.op (.bin .Add) (.v 4) (.c (.int 1))) (.c (.int 15)))],
  .ex (.op (.app ()) (.v 2) (.v 4))],
 .ex (.mk (.call 46) [(.v 1), (.lc false (.v 5) (.one 5) (.rev ()) (.v 2) (.c (.bool true)))]),
 .ret (.mk (.call 46) [(.v 1), (.v 2)])]⟩
noncomputable def f_law_plain : fI := ⟨2, 2, [], [
 .ite (.op (.cmp .Eq) (.mk (.call 41) [(.v 0), (.c (.int 3))]) (.c (.int 0))) [
  .ret (.mk (.call 45) [(.v 1), (.mk (.call 41) [(.v 0), (.c (.int 15))])])] [],
 .ret (.mk (.call 47) [(.v 0), (.v 1)])]⟩
noncomputable def f_law_joined : fI := ⟨2, 6, [], [
 .asg 2 (.mk (.newl ()) []),
 .forL (.one 3) (.range ()) (.c (.int 2)) [
  .asg 4 (.mk (.call 48) [(.v 0), (.v 1)]),
  .ite (.op (.cmp .Eq) (.mk (.call 41) [(.v 0), (.c (.int 3))]) (.c (.int 0))) [
   .asg 4 (.mk (.call 50) [(.v 0), (.v 1), (.v 4)])] [],
  .ex (.op (.app ()) (.v 2) (.v 4))],
 .ite (.op (.cmp .Eq) (.op (.sub ()) (.op (.sub ()) (.v 2) (.c (.int 0))) (.c (.int 0))) (.op (.sub ()) (.op (.sub ()) (.v 2) (.c (.int 1))) (.c (.int 0)))) [
  .ret (.mk (.call 45) [(.v 1), (.c (.int 2))])] [],
 .asg 5 (.meth (.op (.sub ()) (.v 1) (.c (.str (aD "tab")))) 0 [(.mk (.tup ()) [(.c (.int 6)), (.mk (.bi 1) [(.mk (.bi 3) [(.mk (.lst ()) [(.op (.sub ()) (.op (.sub ()) (.v 2) (.c (.int 0))) (.c (.int 0))), (.op (.sub ()) (.op (.sub ()) (.v 2) (.c (.int 1))) (.c (.int 0)))])])])])]),
 .ret (.mk (.tup ()) [(.v 5), (.op (.bin .Add) (.op (.sub ()) (.op (.sub ()) (.v 2) (.c (.int 0))) (.c (.int 1))) (.op (.sub ()) (.op (.sub ()) (.v 2) (.c (.int 1))) (.c (.int 1)))), (.or (.op (.sub ()) (.op (.sub ()) (.v 2) (.c (.int 0))) (.c (.int 2))) (.op (.sub ()) (.op (.sub ()) (.v 2) (.c (.int 1))) (.c (.int 2)))), (.c (.int (-1)))])]⟩
noncomputable def f_law_under : fI := ⟨3, 12, [], [
 .asg 3 (.op (.sub ()) (.v 1) (.c (.str (aD "tab")))),
 .asgT [4, 5, 6, 7] (.v 2),
 .asg 8 (.op (.cmp .Eq) (.mk (.call 41) [(.v 0), (.c (.int 3))]) (.c (.int 0))),
 .asg 9 (.ite (.v 8) (.op (.sub ()) (.op (.sub ()) (.v 1) (.c (.str (aD "places")))) (.c (.int 4))) (.c (.int 6))),
 .asg 10 (.meth (.v 3) 0 [(.mk (.tup ()) [(.c (.int 8)), (.mk (.tup ()) [(.mk (.tup ()) [(.c (.str (aD "a"))), (.v 4), (.c (.int 0)), (.c (.int 0))]), (.mk (.tup ()) [(.c (.str (aD "b"))), (.v 9), (.c (.int 0)), (.c (.int 0))])]), (.mk (.tup ()) []), (.mk (.tup ()) []), (.mk (.tup ()) []), (.mk (.tup ()) []), (.c (.int 0))])]),
 .asg 11 (.meth (.v 3) 0 [(.mk (.tup ()) [(.c (.int 15)), (.v 10), (.mk (.call 2) [(.v 3), (.ite (.op (.cmp .Eq) (.v 7) (.c (.int 13))) (.c (.str (aD "c"))) (.c (.str (aD "a"))))])])]),
 .ite (.and (.or (.v 6) (.v 8)) (.op (.cmp .NotIn) (.v 4) (.slc (.op (.sub ()) (.v 1) (.c (.str (aD "pool")))) (.c .none) (.c (.int 9))))) [
  .ret (.mk (.call 44) [(.v 11), (.c (.bool true))])] [],
 .ret (.mk (.tup ()) [(.v 11), (.v 5), (.or (.v 6) (.v 8)), (.v 7)])]⟩
noncomputable def f_law_element : fI := ⟨2, 7, [], [
 .asg 2 (.mk (.call 41) [(.v 0), (.c (.int 9))]),
 .ite (.op (.cmp .Eq) (.v 2) (.c (.int 0))) [
  .asg 3 (.op (.sub ()) (.op (.sub ()) (.v 1) (.c (.str (aD "places")))) (.mk (.call 41) [(.v 0), (.c (.int 5))])),
  .asg 4 (.op (.sub ()) (.mk (.tup ()) [(.c (.int 0)), (.c (.int 1)), (.c (.int 2))]) (.mk (.call 41) [(.v 0), (.c (.int 3))])),
  .ret (.mk (.tup ()) [(.mk (.tup ()) [(.v 3), (.mk (.lst ()) [(.mk (.lst ()) [(.mk (.tup ()) [(.mk (.tup ()) [(.v 3)]), (.v 4)])])]), (.c (.bool false)), (.c (.int (-1)))]), (.v 4)])] [],
 .ite (.op (.cmp .Lt) (.v 2) (.c (.int 4))) [
  .ret (.mk (.tup ()) [(.mk (.call 47) [(.v 0), (.v 1)]), (.c (.int 3))])] [],
 .ite (.op (.cmp .Eq) (.v 2) (.c (.int 4))) [
  .ret (.mk (.tup ()) [(.mk (.call 45) [(.v 1), (.mk (.call 41) [(.v 0), (.c (.int 15))])]), (.c (.int 3))])] [],
 .ite (.op (.cmp .Eq) (.v 2) (.c (.int 5))) [
  .ret (.mk (.tup ()) [(.mk (.call 49) [(.v 0), (.v 1)]), (.c (.int 3))])] [],
 .ite (.op (.cmp .Eq) (.v 2) (.c (.int 6))) [
  .ret (.mk (.tup ()) [(.mk (.call 50) [(.v 0), (.v 1), (.mk (.call 47) [(.v 0), (.v 1)])]), (.c (.int 3))])] [],
 .ite (.op (.cmp .Eq) (.v 2) (.c (.int 7))) [
  .ret (.mk (.tup ()) [(.mk (.call 50) [(.v 0), (.v 1), (.ite (.op (.cmp .Eq) (.mk (.call 41) [(.v 0), (.c (.int 2))]) (.c (.int 0))) (.mk (.call 49) [(.v 0), (.v 1)]) (.mk (.call 48) [(.v 0), (.v 1)]))]), (.c (.int 3))])] [],
 .asg 5 (.mk (.call 41) [(.v 0), (.c (.int 6))]),
 .ite (.op (.cmp .Lt) (.v 5) (.c (.int 2))) [
  .ret (.mk (.tup ()) [(.mk (.tup ()) [(.c (.int 0)), (.mk (.lst ()) [(.mk (.lst ()) [(.mk (.tup ()) [(.mk (.tup ()) [(.c (.int 0))]), (.c (.int 2))])])]), (.c (.bool false)), (.c (.int (-1)))]), (.c (.int 3))])] [],
 .asg 6 (.mk (.tup ()) [(.op (.sub ()) (.mk (.tup ()) [(.c (.int 2)), (.c (.int 13))]) (.op (.bin .Mod) (.v 5) (.c (.int 2)))), (.mk (.lst ()) []), (.c (.bool false)), (.op (.sub ()) (.mk (.tup ()) [(.c (.int 2)), (.c (.int 13))]) (.op (.bin .Mod) (.v 5) (.c (.int 2))))]),
 .ret (.mk (.tup ()) [(.ite (.op (.cmp .Lt) (.v 5) (.c (.int 4))) (.v 6) (.mk (.call 50) [(.v 0), (.v 1), (.v 6)])), (.c (.int 3))])]⟩
noncomputable def f_law_union : fI := ⟨2, 6, [], [
 .ite (.or (.op (.cmp .In) (.c (.int 0)) (.v 1)) (.op (.cmp .In) (.c (.int 1)) (.v 1))) [
  .ret (.ite (.op (.cmp .In) (.c (.int 0)) (.v 1)) (.mk (.tup ()) [(.c (.int 0))]) (.mk (.tup ()) [(.c (.int 1))]))] [],
 .asg 2 (.ite (.op (.cmp .In) (.c (.int 6)) (.v 1)) (.slc (.op (.sub ()) (.v 0) (.c (.str (aD "places")))) (.c .none) (.c (.int 2))) (.mk (.tup ()) [])),
 .ret (.mk (.bi 1) [(.mk (.bi 4) [(.lc false (.v 3) (.one 3) (.ex ()) (.v 1) (.op (.cmp .NotIn) (.v 3) (.v 2)))])])]⟩
noncomputable def f_law_settled : fI := ⟨2, 13, [], [
 .asg 4 (.lc false (.v 11) (.many [10, 11]) (.ex ()) (.v 1) (.c (.bool true))),
 .ite (.op (.cmp .In) (.c (.int 3)) (.v 4)) [
  .ret (.mk (.bi 1) [(.v 1)])] [],
 .asg 6 (.lc false (.v 10) (.one 10) (.range ()) (.mk (.bi 0) [(.v 1)]) (.op (.cmp .NotEq) (.op (.sub ()) (.v 4) (.v 10)) (.c (.int 0)))),
 .asg 7 (.mk (.newl ()) []),
 .asg 5 (.c (.int 0)),
 .whl (.op (.cmp .Lt) (.v 5) (.mk (.bi 0) [(.v 1)])) [
  .asgT [2, 3] (.op (.sub ()) (.v 1) (.v 5)),
  .ite (.op (.cmp .Eq) (.v 3) (.c (.int 2))) [
   .asg 2 (.ite (.op (.cmp .In) (.c (.int 1)) (.slc (.v 4) (.v 5) (.c .none))) (.mk (.lst ()) [(.c (.int 4))]) (.mk (.lst ()) [])),
   .forL (.many [8, 9]) (.ex ()) (.slc (.v 1) (.v 5) (.op (.bin .Add) (.op (.sub ()) (.v 6) (.c (.int (-1)))) (.c (.int 1)))) [
    .asg 2 (.op (.bin .Add) (.v 2) (.mk (.bi 2) [(.v 8)]))],
   .ex (.op (.app ()) (.v 7) (.mk (.tup ()) [(.mk (.call 52) [(.v 0), (.v 2)]), (.c (.int 2))])),
   .asg 5 (.op (.sub ()) (.v 6) (.c (.int (-1))))] [
   .ite (.and (.op (.cmp .Eq) (.v 3) (.c (.int 1))) (.op (.cmp .In) (.c (.int 0)) (.slc (.v 4) (.v 5) (.c .none)))) [
    .ex (.op (.app ()) (.v 7) (.mk (.tup ()) [(.mk (.call 52) [(.v 0), (.op (.bin .Add) (.mk (.bi 2) [(.v 2)]) (.mk (.lst ()) [(.c (.int 4))]))]), (.c (.int 0))]))] [
    .ex (.op (.app ()) (.v 7) (.mk (.tup ()) [(.v 2), (.v 3)]))]],
  .aug 5 (.c (.int 1))],
 .ret (.mk (.bi 1) [(.v 7)])]⟩
noncomputable def f_law_forms : fI := ⟨2, 7, [], [
 .asg 2 (.mk (.lst ()) [(.mk (.lst ()) [])]),
 .forL (.one 3) (.ex ()) (.v 1) [
  .asg 2 (.lc2 (.op (.bin .Add) (.v 4) (.v 5)) (.one 4) (.ex ()) (.v 2) (.one 5) (.ex ()) (.op (.sub ()) (.v 3) (.c (.int 1))))],
 .ret (.mk (.bi 4) [(.lc false (.mk (.call 53) [(.v 0), (.v 4)]) (.one 4) (.ex ()) (.v 2) (.c (.bool true)))])]⟩
noncomputable def f_law_atoms : fI := ⟨2, 2, [], [
 .ret (.ite (.op (.cmp .Eq) (.op (.sub ()) (.op (.sub ()) (.op (.att 0) (.v 0) (.c .none)) (.v 1)) (.c (.int 0))) (.c (.int 6))) (.mk (.bi 1) [(.op (.sub ()) (.op (.sub ()) (.op (.att 0) (.v 0) (.c .none)) (.v 1)) (.c (.int 1)))]) (.mk (.tup ()) [(.v 1)]))]⟩
noncomputable def f_law_seen : fI := ⟨3, 9, [], [
 .asg 3 (.mk (.newl ()) []),
 .forL (.one 4) (.ex ()) (.mk (.call 55) [(.v 0), (.v 1)]) [
  .asg 5 (.op (.sub ()) (.op (.att 0) (.v 0) (.c .none)) (.v 4)),
  .ite (.or (.op (.cmp .NotIn) (.op (.sub ()) (.v 5) (.c (.int 0))) (.mk (.tup ()) [(.c (.int 11)), (.c (.int 12))])) (.op (.cmp .NotEq) (.op (.sub ()) (.v 5) (.c (.int 2))) (.v 2))) [
   .ret (.mk (.lst ()) [])] [],
  .ite (.op (.cmp .Eq) (.op (.sub ()) (.v 5) (.c (.int 0))) (.c (.int 11))) [
   .ex (.op (.app ()) (.v 3) (.mk (.tup ()) [(.mk (.tup ()) [(.mk (.call 55) [(.v 0), (.op (.sub ()) (.v 5) (.c (.int 1)))]), (.c (.int 2))])]))] [
   .ex (.op (.app ()) (.v 3) (.mk (.bi 1) [(.lc false (.mk (.tup ()) [(.mk (.call 55) [(.v 0), (.v 6)]), (.v 7)]) (.many [6, 7]) (.ex ()) (.op (.sub ()) (.v 5) (.c (.int 1))) (.c (.bool true)))])),
   .ite (.and (.op (.cmp .Eq) (.mk (.bi 0) [(.op (.sub ()) (.v 5) (.c (.int 1)))]) (.c (.int 1))) (.op (.cmp .Eq) (.op (.sub ()) (.op (.sub ()) (.op (.sub ()) (.v 5) (.c (.int 1))) (.c (.int 0))) (.c (.int 1))) (.c (.int 2)))) [
    .ret (.mk (.lst ()) [])] []]],
 .ret (.mk (.bi 3) [(.v 3)])]⟩
noncomputable def f_law_row_right : fI := ⟨3, 14, [], [
 .asg 3 (.op (.sub ()) (.v 1) (.c (.str (aD "tab")))),
 .asg 4 (.mk (.newl ()) []),
 .asg 5 (.mk (.newl ()) []),
 .forL (.one 6) (.range ()) (.op (.bin .Add) (.c (.int 1)) (.mk (.call 41) [(.v 0), (.c (.int 3))])) [
  .asgT [7, 8] (.mk (.call 51) [(.v 0), (.v 1)]),
  .ite (.and (.op (.cmp .Gt) (.mk (.bi 0) [(.op (.sub ()) (.v 7) (.c (.int 1)))]) (.c (.int 1))) (.op (.cmp .Gt) (.mk (.bi 0) [(.lc false (.v 11) (.one 11) (.ex ()) (.v 4) (.op (.cmp .Gt) (.mk (.bi 0) [(.op (.sub ()) (.v 11) (.c (.int 1)))]) (.c (.int 1))))]) (.c (.int 1)))) [
   .asg 7 (.mk (.call 45) [(.v 1), (.c (.int 2))]),
   .asg 8 (.c (.int 3))] [],
  .ex (.op (.app ()) (.v 4) (.v 7)),
  .ex (.op (.app ()) (.v 5) (.mk (.tup ()) [(.op (.sub ()) (.v 7) (.c (.int 0))), (.v 8)]))],
 .asg 9 (.mk (.call 41) [(.v 0), (.c (.int 2))]),
 .asg 10 (.mk (.call 34) [(.v 2), (.v 5), (.v 9)]),
 .forL (.one 7) (.ex ()) (.v 4) [
  .ite (.op (.cmp .GtE) (.op (.sub ()) (.v 7) (.c (.int 3))) (.c (.int 0))) [
   .ret (.op (.cmp .Eq) (.v 10) (.op (.sub ()) (.v 7) (.c (.int 3))))] []],
 .ret (.op (.cmp .Eq) (.mk (.call 56) [(.v 3), (.v 10), (.v 9)]) (.mk (.call 54) [(.v 1), (.v 4)]))]⟩
noncomputable def f_law : fI := ⟨1, 11, [], [
 .asg 1 (.mk (.dct [(.str (aD "nums")), (.str (aD "at"))]) [(.slc (.v 0) (.c .none) (.c (.int 40))), (.c (.int 0))]),
 .asg 2 (.mk (.call 43) [(.v 1)]),
 .asg 3 (.mk (.new 1) [(.op (.sub ()) (.v 2) (.c (.str (aD "tab"))))]),
 .forL (.one 4) (.range ()) (.op (.bin .Add) (.c (.int 1)) (.mk (.bi 7) [(.op (.bin .FloorDiv) (.mk (.bi 0) [(.op (.sub ()) (.v 1) (.c (.str (aD "nums"))))]) (.c (.int 16))), (.c (.int 1))])) [
  .ite (.not (.mk (.call 57) [(.v 1), (.v 2), (.v 3)])) [
   .ret (.c (.bool false))] []],
 .ex (.mk (.call 47) [(.v 1), (.v 2)]),
 .forL (.many [5, 6, 7]) (.ex ()) (.op (.sub ()) (.v 2) (.c (.str (aD "asked")))) [
  .ite (.op (.cmp .NotEq) (.mk (.call 31) [(.op (.sub ()) (.v 2) (.c (.str (aD "tab")))), (.v 5)]) (.v 6)) [
   .ret (.c (.bool false))] [],
  .ite (.op (.cmp .NotEq) (.lc false (.mk (.tup ()) [(.mk (.tup ()) [(.v 8)]), (.v 9)]) (.many [8, 9]) (.ex ()) (.mk (.call 32) [(.op (.sub ()) (.v 2) (.c (.str (aD "tab")))), (.mk (.tup ()) [(.v 5), (.c (.int 3))])]) (.c (.bool true))) (.v 7)) [
   .ret (.c (.bool false))] []],
 .forL (.one 5) (.ex ()) (.op (.sub ()) (.v 2) (.c (.str (aD "pool")))) [
  .ite (.op (.cmp .NotEq) (.mk (.call 31) [(.op (.sub ()) (.v 2) (.c (.str (aD "tab")))), (.v 5)]) (.v 5)) [
   .ret (.c (.bool false))] []],
 .ret (.c (.bool true))]⟩
noncomputable def prg : Prg := ⟨[f_TypeTable_init, f_TypeTable_put, f_str_type, f_num_type, f_array_type, f_last_mark, f_needed_to_last, f_one_rest, f_tuple_type, f_new_param, f_parts_of, f_whole_of_row, f_regular_twin, f_join_bools, f_stays_beside, f_top_of, f_union, f_add_undef, f_index_kids, f_object_kids, f_row_kids, f_row_binds, f_inner_kids, f_reached, f_free_params, f_has_params, f_is_open, f_unit_word, f_key_text, f_kindsplice_spread_kind, f_union_places, f_kindsplice_list_part, f_cut_open, f_splice_union, f_splice, f_find_prop, f_read_type, f_table_read, f_put_name, f_NameHost_init, f_NameHost_force, f_law_take, f_law_brand, f_law_world, f_law_stays, f_law_member, f_law_met, f_law_meet, f_law_plain, f_law_joined, f_law_under, f_law_element, f_law_union, f_law_settled, f_law_forms, f_law_atoms, f_law_seen, f_law_row_right, f_law], [((0, 0), 1), ((1, 1), 40)], [(0, 0), (1, 39)]⟩
inductive GV where
 | data (x : aA)
 | fn (i : Nat)
 | cls (i : Nat)
structure Cx where
 vars : List (Str × Nat)
 glob : List Str
 n : Nat
 wr : List Str
 cl : List Str
structure Tb where
 globs : List (Str × GV)
 attrs : List Str
 meths : List Str
inductive AT where
 | one (x : Str) (p : Pos)
 | many (xs : List (Str × Pos)) (k : Nat) (p : Pos)
inductive AK where
 | ex (_ : Unit)
 | range (q p : Pos)
 | rev (q p : Pos)
inductive AX where
 | no
 | const (c : Const) (k : Nat) (p : Pos)
 | neg (i : Int) (k : Nat) (q p : Pos)
 | name (x : Str) (p : Pos)
 | bin (o : Operator) (a b : AX) (p : Pos)
 | cmp (o : CmpOp) (a b : AX) (p : Pos)
 | not (a : AX) (p : Pos)
 | bool (o : BoolOp) (es : List AX) (p : Pos)
 | ite (t a b : AX) (p : Pos)
 | tup (es : List AX) (k : Nat) (p : Pos)
 | lst (new : Bool) (es : List AX) (p : Pos)
 | dict (ks : List (Str × Nat × Pos)) (es : List AX) (p : Pos)
 | sub (a i : AX) (p : Pos)
 | slc (a lo hi : AX) (q p : Pos)
 | att (a : AX) (n : Str) (p : Pos)
 | meth (o : AX) (n : Str) (ap : Pos) (as : List AX) (p : Pos)
 | call (x : Str) (q : Pos) (as : List AX) (p : Pos)
 | sset (q₁ q₂ : Pos) (a : AX) (p₂ p : Pos)
 | lc (new : Bool) (e : AX) (t : AT) (k : AK) (s c : AX) (sc : Scope) (p : Pos)
 | lc2 (e : AX) (t₁ : AT) (k₁ : AK) (s₁ : AX) (t₂ : AT) (k₂ : AK) (s₂ : AX) (sc : Scope) (p : Pos)
inductive SX where
 | no (s : Stmt)
 | asg (x : Str) (q : Pos) (e : AX) (p : Pos)
 | asgT (xs : List (Str × Pos)) (k : Nat) (q : Pos) (e : AX) (p : Pos)
 | setI (o i : AX) (q : Pos) (e : AX) (p : Pos)
 | setA (o : AX) (n : Str) (q : Pos) (e : AX) (p : Pos)
 | ex (e : AX) (p : Pos)
 | aug (x : Str) (q : Pos) (e : AX) (p : Pos)
 | ite (t : AX) (a b : List SX) (p : Pos)
 | forL (t : AT) (k : AK) (s : AX) (b : List SX) (p : Pos)
 | whl (t : AX) (b : List SX) (p : Pos)
 | ret (e : AX) (p : Pos)
noncomputable def AX.comp : AX -> Bool
 | .lc .. => true
 | .lc2 .. => true
 | _ => false
noncomputable def AX.isTup : AX -> Bool
 | .tup .. => true
 | _ => false
noncomputable def AX.isNo : AX -> Bool
 | .no => true
 | _ => false
noncomputable def AT.de : AT -> Expr
 | .one x p => .Name x p
 | .many xs k p => .Tuple (xs.map λ y => .Name y.1 y.2) k p
noncomputable def AK.de (e : Expr) : AK -> Expr
 | .ex _ => e
 | .range q p => .Call (.Name "range" q) [e] [] p
 | .rev q p => .Call (.Name "reversed" q) [e] [] p
mutual
noncomputable def de : AX -> Expr
 | .no => .JoinedStr [] ⟨0, 0, 0, 0⟩
 | .const c k p => .Constant c k p
 | .neg i k q p => .UnaryOp .USub (.Constant (.int i) k q) p
 | .name x p => .Name x p
 | .bin o a b p => .BinOp (de a) o (de b) p
 | .cmp o a b p => .Compare (de a) [o] [de b] p
 | .not a p => .UnaryOp .Not (de a) p
 | .bool o es p => .BoolOp o (des es) p
 | .ite t a b p => .IfExp (de t) (de a) (de b) p
 | .tup es k p => .Tuple (des es) k p
 | .lst _ es p => .List (des es) p
 | .dict ks es p => .Dict (ks.map λ k => some (.Constant (.str k.1) k.2.1 k.2.2)) (des es) p
 | .sub a i p => .Subscript (de a) (de i) p
 | .slc a lo hi q p => .Subscript (de a) (.Slice (cond lo.isNo none (some (de lo))) (cond hi.isNo none (some (de hi))) none q) p
 | .att a n p => .Attribute (de a) n p
 | .meth o n ap as p => .Call (.Attribute (de o) n ap) (des as) [] p
 | .call x q as p => .Call (.Name x q) (des as) [] p
 | .sset q₁ q₂ a p₂ p => .Call (.Name "sorted" q₁) [.Call (.Name "set" q₂) [de a] [] p₂] [] p
 | .lc _ e t k s c sc p => .ListComp (de e) [⟨t.de, k.de (de s), cond c.isNo [] [de c], 0⟩] sc p
 | .lc2 e t₁ k₁ s₁ t₂ k₂ s₂ sc p => .ListComp (de e) [⟨t₁.de, k₁.de (de s₁), [], 0⟩, ⟨t₂.de, k₂.de (de s₂), [], 0⟩] sc p
noncomputable def des : List AX -> List Expr
 | [] => []
 | e :: r => de e :: des r
end
mutual
noncomputable def dX : SX -> Stmt
 | .no s => s
 | .asg x q e p => .Assign [.Name x q] (de e) p
 | .asgT xs k q e p => .Assign [.Tuple (xs.map λ y => .Name y.1 y.2) k q] (de e) p
 | .setI o i q e p => .Assign [.Subscript (de o) (de i) q] (de e) p
 | .setA o n q e p => .Assign [.Attribute (de o) n q] (de e) p
 | .ex e p => .Expr (de e) p
 | .aug x q e p => .AugAssign (.Name x q) .Add (de e) p
 | .ite t a b p => .If (de t) (dXs a) (dXs b) p
 | .forL t k s b p => .For t.de (k.de (de s)) (dXs b) [] p
 | .whl t b p => .While (de t) (dXs b) [] p
 | .ret e p => .Return (cond e.isNo none (some (de e))) p
noncomputable def dXs : List SX -> List Stmt
 | [] => []
 | s :: r => dX s :: dXs r
end
noncomputable def dbg : Str := "__debug__"
noncomputable def numOf (l : List Str) (x : Str) : Option Nat := l.findIdx? (· == x)
noncomputable def Cx.isGlob (Γ : Cx) (x : Str) : Bool := (Γ.vars.lookup x).isNone && Γ.glob.contains x && x != dbg
noncomputable def Cx.isBi (Γ : Cx) (T : Tb) (x : Str) : Bool := Γ.isGlob x && (T.globs.lookup x).isNone
noncomputable def ifx {β : Type} (c : Bool) (d x : β) : β := cond c x d
noncomputable def opx {β γ : Type} (o : Option γ) (d : β) (f : γ -> β) : β := match o with
 | some a => f a
 | none => d
noncomputable def Cx.slot (Γ : Cx) (x : Str) : Option Nat := (Γ.vars.lookup x).bind λ i => ck (x != dbg) i
noncomputable def erG : GV -> EX
 | .data d => .c d
 | _ => .bad
noncomputable def erName (T : Tb) (Γ : Cx) (x : Str) : EX := opx (Γ.slot x) (ifx (Γ.isGlob x) .bad (opx (T.globs.lookup x) .bad erG)) .v
noncomputable def erConst : Const -> EX
 | .none => .c .none
 | .bool b => .c (.bool b)
 | .int i => .c (.int i)
 | .str x => .c (.str x)
 | _ => .bad
noncomputable def slots (Γ : Cx) : List (Str × Pos) -> Option (List Nat)
 | [] => some []
 | y :: r => (Γ.slot y.1).bind λ i => (slots Γ r).map (i :: ·)
noncomputable def AT.er (Γ : Cx) : AT -> Option Tg
 | .one x _ => (Γ.slot x).map .one
 | .many xs _ _ => (slots Γ xs).map .many
noncomputable def AK.er (T : Tb) (Γ : Cx) : AK -> Option Sk
 | .ex _ => some (.ex ())
 | .range _ _ => ck (Γ.isBi T "range") (.range ())
 | .rev _ _ => ck (Γ.isBi T "reversed") (.rev ())
noncomputable def inner (Γ : Cx) : List (Str × dF) -> Nat -> Option Cx
 | [], n => some ⟨[], [], n, [], []⟩
 | (x, .local) :: r, n => cond (x == (".0" : Str)) (inner Γ r n) ((inner Γ r (n + 1)).map λ g => { g with vars := (x, n) :: g.vars })
 | (x, .free) :: r, n => (ck (Γ.cl.contains x) ()).bind λ _ => (Γ.vars.lookup x).bind λ i => (inner Γ r n).map λ g => { g with vars := (x, i) :: g.vars, cl := x :: g.cl }
 | (x, .globalImplicit) :: r, n => (inner Γ r n).map λ g => { g with glob := x :: g.glob }
 | _, _ => none
noncomputable def nodupS : List Str -> Bool
 | [] => true
 | x :: r => !r.contains x && nodupS r
noncomputable def lowS (x : Str) : Bool := x.cps.toList.all λ c => decide (c < 128)
noncomputable def inOk (Γ : Cx) (names : List (Str × dF)) (Δ : Cx) : Bool :=
 (names.all (λ p => (p.2 == .local && names.lookup p.1 == some .local) || p.2 == .globalImplicit || (p.2 == .free && Γ.cl.contains p.1 && (Γ.vars.lookup p.1).isSome)) && bV Γ.n Δ.n) &&
 (Δ.vars.all (λ p => (Δ.vars.all (λ q => !(p.2 == q.2) || p.1 == q.1) && au p.2 Δ.n) && ((names.lookup p.1 == some .local && bV Γ.n p.2) || (names.lookup p.1 == some .free && Γ.vars.lookup p.1 == some p.2))) &&
  (Δ.cl.all (λ x => names.lookup x == some .free) && Δ.glob.all λ x => names.lookup x == some .globalImplicit))
noncomputable def Cx.scope (Γ : Cx) (sc : Scope) : Option Cx :=
 (ck (sc.kind == .function) ()).bind λ _ => (inner Γ sc.names Γ.n).bind λ Δ => ck (inOk Γ sc.names Δ) Δ
noncomputable def plainBase : Expr -> Bool
 | .Call (.Name _ _) [] [] _ => false
 | _ => true
noncomputable def Tg.above (n : Nat) : Tg -> Bool
 | .one i => bV n i
 | .many is => is.all λ i => bV n i
noncomputable def Tg.nat : Tg -> Option Nat
 | .one i => some i
 | _ => none
noncomputable def erB (o : BoolOp) : List EX -> EX
 | [] => .bad
 | e :: r => match r with
  | [] => e
  | _ => match o with
   | .And => .and e (erB o r)
   | .Or => .or e (erB o r)
noncomputable def erM (n : Str) (o : EX) : List EX -> EX
 | [] => ifx (n == ("pop" : Str)) .bad (.op (.pop ()) o (.c .none))
 | [e] => cond (n == ("append" : Str)) (.op (.app ()) o e) (ifx (n == ("extend" : Str)) .bad (.op (.ext ()) o e))
 | _ => .bad
noncomputable def biL : List (Str × Nat × Nat) := [("len", 0, 1), ("tuple", 1, 1), ("list", 2, 1), ("sorted", 3, 1), ("any", 5, 1), ("max", 6, 1), ("min", 7, 2)]
noncomputable def erC (es : List EX) : GV -> EX
 | .data _ => .bad
 | .fn i => .mk (.call i) es
 | .cls i => .mk (.new i) es
mutual
noncomputable def er (T : Tb) : AX -> Cx -> EX
 | .no, _ => .bad
 | .const c _ _, _ => erConst c
 | .neg i _ _ _, _ => .c (.int (-i))
 | .name x _, Γ => erName T Γ x
 | .bin o a b _, Γ => .op (.bin o) (er T a Γ) (er T b Γ)
 | .cmp o a b _, Γ => .op (.cmp o) (er T a Γ) (er T b Γ)
 | .not a _, Γ => .not (er T a Γ)
 | .bool o es _, Γ => erB o (ers T es Γ)
 | .ite t a b _, Γ => .ite (er T t Γ) (er T a Γ) (er T b Γ)
 | .tup es _ _, Γ => ifx (bV es.length 100) .bad (.mk (.tup ()) (ers T es Γ))
 | .lst new es _, Γ => ifx (bV es.length 100) .bad (.mk (cond new (.newl ()) (.lst ())) (ers T es Γ))
 | .dict ks es _, Γ => ifx (bV ks.length 15 && (ks.length == es.length) && nodupS (ks.map (·.1)) && ks.all λ k => lowS k.1) .bad (.mk (.dct (ks.map λ k => .str k.1)) (ers T es Γ))
 | .sub a i _, Γ => .op (.sub ()) (er T a Γ) (er T i Γ)
 | .slc a lo hi _ _, Γ => .slc (er T a Γ) (cond lo.isNo (.c .none) (er T lo Γ)) (cond hi.isNo (.c .none) (er T hi Γ))
 | .att a n _, Γ => ifx (plainBase (de a)) .bad (opx (numOf T.attrs n) .bad λ k => .op (.att k) (er T a Γ) (.c .none))
 | .meth o n ap as p, Γ => ifx (plainBase (de o) && (ap.endLine == p.line) && au as.length 30) .bad (opx (numOf T.meths n) (erM n (er T o Γ) (ers T as Γ)) λ k => .meth (er T o Γ) k (ers T as Γ))
 | .call x _ as _, Γ => ifx (Γ.isGlob x) .bad (opx (T.globs.lookup x) (opx (biL.lookup x) .bad λ b => ifx (as.length == b.2) .bad (.mk (.bi b.1) (ers T as Γ))) (erC (ers T as Γ)))
 | .sset _ _ a _ _, Γ => ifx (Γ.isBi T "sorted" && Γ.isBi T "set") .bad (.mk (.bi 4) [er T a Γ])
 | .lc new e t k s c sc _, Γ => opx (Γ.scope sc) .bad λ Δ => opx (t.er Δ) .bad λ tg => opx (k.er T Γ) .bad λ k => ifx (tg.above Γ.n) .bad (.lc new (er T e Δ) tg k (er T s Γ) (cond c.isNo (.c (.bool true)) (er T c Δ)))
 | .lc2 e t₁ k₁ s₁ t₂ k₂ s₂ sc _, Γ => opx (Γ.scope sc) .bad λ Δ => opx ((t₁.er Δ).bind Tg.nat) .bad λ i => opx ((t₂.er Δ).bind Tg.nat) .bad λ j => opx (k₁.er T Γ) .bad λ k₁ => opx (k₂.er T Δ) .bad λ k₂ =>
  ifx (bV Γ.n i && au i j) .bad (.lc2 (er T e Δ) (.one i) k₁ (er T s₁ Γ) (.one j) k₂ (er T s₂ Δ))
noncomputable def ers (T : Tb) : List AX -> Cx -> List EX
 | [], _ => []
 | e :: r, Γ => er T e Γ :: ers T r Γ
end
mutual
noncomputable def eX (T : Tb) (Γ : Cx) : SX -> ST
 | .no _ => .bad
 | .asg x _ e _ => opx (Γ.slot x) .bad λ i => .asg i (er T e Γ)
 | .asgT xs _ _ e _ => ifx (!e.isTup) .bad (opx (slots Γ xs) .bad λ is => .asgT is (er T e Γ))
 | .setI o i _ e _ => .setI (er T o Γ) (er T i Γ) (er T e Γ)
 | .setA o n _ e _ => opx (numOf T.attrs n) .bad λ k => .setA (er T o Γ) k (er T e Γ)
 | .ex e _ => ifx (!e.comp) .bad (.ex (er T e Γ))
 | .aug x _ e _ => opx (Γ.slot x) .bad λ i => .aug i (er T e Γ)
 | .ite t a b _ => .ite (er T t Γ) (eXs T Γ a) (eXs T Γ b)
 | .forL t k s b _ => opx (t.er Γ) .bad λ tg => opx (k.er T Γ) .bad λ k => .forL tg k (er T s Γ) (eXs T Γ b)
 | .whl t b _ => .whl (er T t Γ) (eXs T Γ b)
 | .ret e _ => .ret (cond e.isNo (.c .none) (er T e Γ))
noncomputable def eXs (T : Tb) (Γ : Cx) : List SX -> List ST
 | [] => []
 | s :: r => eX T Γ s :: eXs T Γ r
end
noncomputable def negA (p : Pos) : Expr -> AX
 | .Constant (.int i) k q => .neg i k q p
 | _ => .no
noncomputable def mkNew : AX -> AX
 | .lst _ es p => .lst true es p
 | .lc _ e t k s c sc p => .lc true e t k s c sc p
 | x => x
noncomputable def keyA : Option Expr -> Str × Nat × Pos
 | some (.Constant (.str x) k p) => (x, k, p)
 | _ => ("", 0, ⟨0, 0, 0, 0⟩)
noncomputable def nameA : Expr -> Str × Pos
 | .Name x p => (x, p)
 | _ => ("", ⟨0, 0, 0, 0⟩)
noncomputable def tA : Expr -> AT
 | .Tuple es k p => .many (es.map nameA) k p
 | e => .one (nameA e).1 (nameA e).2
noncomputable def srcA : AX -> AK × AX
 | .call x q [a] p => cond (x == ("range" : Str)) (.range q p, a) (cond (x == ("reversed" : Str)) (.rev q p, a) (.ex (), .call x q [a] p))
 | e => (.ex (), e)
noncomputable def callA (x : Str) (q p : Pos) : List AX -> AX
 | [.call y q₂ [a] p₂] => cond (x == ("sorted" : Str) && y == ("set" : Str)) (.sset q q₂ a p₂ p) (.call x q [.call y q₂ [a] p₂] p)
 | as => .call x q as p
noncomputable def oneA : List AX -> AX
 | [a] => a
 | _ => .no
mutual
noncomputable def cA : Expr -> AX
 | .Constant c k p => .const c k p
 | .Name x p => .name x p
 | .UnaryOp o e p => match o with
  | .Not => .not (cA e) p
  | _ => negA p e
 | .BinOp l o r p => .bin o (cA l) (cA r) p
 | .Compare l os rs p => match os with
  | [o] => .cmp o (cA l) (oneA (cAs rs)) p
  | _ => .no
 | .BoolOp o es p => .bool o (cAs es) p
 | .IfExp t a b p => .ite (cA t) (cA a) (cA b) p
 | .Tuple es k p => .tup (cAs es) k p
 | .List es p => .lst false (cAs es) p
 | .Dict ks es p => .dict (ks.map keyA) ((cAs es).map mkNew) p
 | .Slice lo hi _ q => .slc .no (cAo lo) (cAo hi) q q
 | .Subscript e i p => match cA i with
  | .slc .no lo hi q _ => .slc (cA e) lo hi q p
  | i => .sub (cA e) i p
 | .Attribute e n p => .att (cA e) n p
 | .Call f as _ p => match cA f with
  | .name x q => callA x q p (cAs as)
  | .att o n ap => .meth o n ap (cAs as) p
  | _ => .no
 | .ListComp e gs sc p => match cGs gs with
  | [(t, s, c)] => .lc false (cA e) t (srcA s).1 (srcA s).2 c sc p
  | [(t₁, s₁, _), (t₂, s₂, _)] => .lc2 (cA e) t₁ (srcA s₁).1 (srcA s₁).2 t₂ (srcA s₂).1 (srcA s₂).2 sc p
  | _ => .no
 | _ => .no
noncomputable def cAs : List Expr -> List AX
 | [] => []
 | e :: r => cA e :: cAs r
noncomputable def cAo : Option Expr -> AX
 | none => .no
 | some e => cA e
noncomputable def cGs : List Comprehension -> List (AT × AX × AX)
 | [] => []
 | g :: r => cG g :: cGs r
noncomputable def cG : Comprehension -> AT × AX × AX
 | ⟨t, it, ifs, _⟩ => (tA t, cA it, oneA (cAs ifs))
end
mutual
noncomputable def cS (wr : List Str) : Stmt -> SX
 | .Assign ts v p => match ts with
  | [.Name x q] => .asg x q (cond (wr.contains x) (mkNew (cA v)) (cA v)) p
  | [.Tuple es k q] => .asgT (es.map nameA) k q (cA v) p
  | [.Subscript o i q] => .setI (cA o) (cA i) q (cA v) p
  | [.Attribute o n q] => .setA (cA o) n q (mkNew (cA v)) p
  | ts => .no (.Assign ts v p)
 | .AugAssign t _ v p => .aug (nameA t).1 (nameA t).2 (cA v) p
 | .Expr v p => .ex (cA v) p
 | .If t a b p => .ite (cA t) (cSs wr a) (cSs wr b) p
 | .For t it b _ p => .forL (tA t) (srcA (cA it)).1 (srcA (cA it)).2 (cSs wr b) p
 | .While t b _ p => .whl (cA t) (cSs wr b) p
 | .Return v p => .ret (cAo v) p
 | s => .no s
noncomputable def cSs (wr : List Str) : List Stmt -> List SX
 | [] => []
 | s :: r => cS wr s :: cSs wr r
end
noncomputable def wrn (n : Str) : Bool := n == ("append" : Str) || n == ("extend" : Str) || n == ("pop" : Str)
noncomputable def mutE : AX -> List Str
 | .meth (.name x _) n _ _ _ => cond (wrn n) [x] []
 | _ => []
mutual
noncomputable def mutX : SX -> List Str
 | .setI (.name x _) _ _ _ _ => [x]
 | .ex e _ => mutE e
 | .asg _ _ e _ => mutE e
 | .asgT _ _ _ e _ => mutE e
 | .ite _ a b _ => mutXs a ++ mutXs b
 | .forL _ _ _ b _ => mutXs b
 | .whl _ b _ => mutXs b
 | _ => []
noncomputable def mutXs : List SX -> List Str
 | [] => []
 | s :: r => mutX s ++ mutXs r
end
noncomputable def bodyA (b : List Stmt) : List SX := cSs (mutXs (cSs [] b)) b
noncomputable def ownVars : List (Str × dF) -> Nat -> List (Str × Nat)
 | [], _ => []
 | (x, .local) :: r, n => (x, n) :: ownVars r (n + 1)
 | (x, .cell) :: r, n => (x, n) :: ownVars r (n + 1)
 | _ :: r, n => ownVars r n
noncomputable def ownGlobs : List (Str × dF) -> List Str
 | [] => []
 | (x, .globalImplicit) :: r => x :: ownGlobs r
 | _ :: r => ownGlobs r
noncomputable def ownCells : List (Str × dF) -> List Str
 | [] => []
 | (x, .cell) :: r => x :: ownCells r
 | _ :: r => ownCells r
noncomputable def cxOf (sc : Scope) : Cx :=
 let vs := ownVars sc.names 0
 ⟨vs, ownGlobs sc.names, vs.length, [], ownCells sc.names⟩
noncomputable def tb : Tb := ⟨[(aD "TypeTable", GV.cls 0), (aD "str_type", GV.fn 2), (aD "num_type", GV.fn 3), (aD "array_type", GV.fn 4), (aD "last_mark", GV.fn 5), (aD "needed_to_last", GV.fn 6), (aD "one_rest", GV.fn 7), (aD "tuple_type", GV.fn 8), (aD "new_param", GV.fn 9), (aD "parts_of", GV.fn 10), (aD "whole_of_row", GV.fn 11), (aD "regular_twin", GV.fn 12), (aD "join_bools", GV.fn 13), (aD "stays_beside", GV.fn 14), (aD "top_of", GV.fn 15), (aD "union", GV.fn 16), (aD "add_undef", GV.fn 17), (aD "index_kids", GV.fn 18), (aD "object_kids", GV.fn 19), (aD "row_kids", GV.fn 20), (aD "row_binds", GV.fn 21), (aD "inner_kids", GV.fn 22), (aD "reached", GV.fn 23), (aD "free_params", GV.fn 24), (aD "has_params", GV.fn 25), (aD "is_open", GV.fn 26), (aD "unit_word", GV.fn 27), (aD "key_text", GV.fn 28), (aD "kindsplice_spread_kind", GV.fn 29), (aD "union_places", GV.fn 30), (aD "kindsplice_list_part", GV.fn 31), (aD "cut_open", GV.fn 32), (aD "splice_union", GV.fn 33), (aD "splice", GV.fn 34), (aD "find_prop", GV.fn 35), (aD "read_type", GV.fn 36), (aD "table_read", GV.fn 37), (aD "put_name", GV.fn 38), (aD "NameHost", GV.cls 1), (aD "_law_take", GV.fn 41), (aD "_law_brand", GV.fn 42), (aD "_law_world", GV.fn 43), (aD "_law_stays", GV.fn 44), (aD "_law_member", GV.fn 45), (aD "_law_met", GV.fn 46), (aD "_law_meet", GV.fn 47), (aD "_law_plain", GV.fn 48), (aD "_law_joined", GV.fn 49), (aD "_law_under", GV.fn 50), (aD "_law_element", GV.fn 51), (aD "_law_union", GV.fn 52), (aD "_law_settled", GV.fn 53), (aD "_law_forms", GV.fn 54), (aD "_law_atoms", GV.fn 55), (aD "_law_seen", GV.fn 56), (aD "_law_row_right", GV.fn 57), (aD "law", GV.fn 58), (aD "Y_KEY", GV.data (.int 1)), (aD "Y_BOOL", GV.data (.int 2)), (aD "Y_STR", GV.data (.int 3)), (aD "Y_NUM", GV.data (.int 4)), (aD "Y_ENUM", GV.data (.int 5)), (aD "Y_UNION", GV.data (.int 6)), (aD "Y_INTER", GV.data (.int 7)), (aD "Y_OBJ", GV.data (.int 8)), (aD "Y_REF", GV.data (.int 9)), (aD "Y_PARAM", GV.data (.int 10)), (aD "Y_ARRAY", GV.data (.int 11)), (aD "Y_TUPLE", GV.data (.int 12)), (aD "Y_SIG", GV.data (.int 13)), (aD "Y_KEYOF", GV.data (.int 14)), (aD "Y_INDEX", GV.data (.int 15)), (aD "Y_COND", GV.data (.int 16)), (aD "Y_MAPPED", GV.data (.int 17)), (aD "Y_TPL", GV.data (.int 18)), (aD "Y_ALIAS", GV.data (.int 19)), (aD "ANY", GV.data (.int 0)), (aD "UNKNOWN", GV.data (.int 1)), (aD "NEVER", GV.data (.int 2)), (aD "UNDEF", GV.data (.int 4)), (aD "NULLT", GV.data (.int 5)), (aD "STRING", GV.data (.int 6)), (aD "NUMBER", GV.data (.int 7)), (aD "FALSE_T", GV.data (.int 8)), (aD "TRUE_T", GV.data (.int 9)), (aD "ERR", GV.data (.int 13)), (aD "FRESH_F", GV.data (.int 14)), (aD "FRESH_T", GV.data (.int 15)), (aD "P_OPT", GV.data (.int 1)), (aD "E_NEED", GV.data (.int 0)), (aD "E_OPT", GV.data (.int 1)), (aD "E_REST", GV.data (.int 2)), (aD "E_SPREAD", GV.data (.int 3)), (aD "MAX_UNION", GV.data (.int 400)), (aD "FIRST_ROWS", GV.data k_FIRST_ROWS), (aD "MARKED_ROWS", GV.data k_MARKED_ROWS), (aD "KID_SPANS", GV.data k_KID_SPANS), (aD "OPEN_KINDS", GV.data k_OPEN_KINDS), (aD "MOST_ELEMS", GV.data (.int 10000)), (aD "_law_base", GV.data k_law_base)],
 ["rows", "index", "decls", "bounds", "defaults", "names", "origins", "renamed", "shaping", "putting", "tab", "deep", "most_rounds", "most_deep"], ["put", "force"]⟩
end Mine
namespace Mine
open PySem PySem.W
section
inductive fw {β γ : Type} (R : β -> γ -> Prop) : List β -> List γ -> Prop
 | nil : fw R [] []
 | cons {a : β} {b : γ} {l : List β} {m : List γ} : R a b -> fw R l m -> fw R (a :: l) (b :: m)
section
variable {β γ : Type} {R R' : β -> γ -> Prop}
def fw.I (R : β -> γ -> Prop) (C : List β -> Prop) : List γ -> Prop
 | [] => C []
 | b :: m => ∀ a l, R a b -> fw R l m -> C (a :: l)
theorem fw.E {l : List β} {m : List γ} (r : fw R l m) {C : List β -> Prop} (k : fw.I R C m) : C l := fw.casesOn (motive := λ l m _ => fw.I R C m -> C l) r (λ k => k) (λ x r k => k _ _ x r) k
theorem fw.imp (f : ∀ a b, R a b -> R' a b) {l : List β} {m : List γ} (r : fw R l m) : fw R' l m := r.rec .nil λ x _ ih => .cons (f _ _ x) ih
theorem fw.length {l : List β} {m : List γ} (r : fw R l m) : l.length = m.length := r.rec rfl λ _ _ ih => congrArg eE ih
theorem fw.append {l l' : List β} {m m' : List γ} (r : fw R l m) (q : fw R l' m') : fw R (l ++ l') (m ++ m') := r.rec q λ x _ ih => .cons x ih
theorem fw.get' {l : List β} {m : List γ} (r : fw R l m) : ∀ (i : Nat) (b : γ), m[i]? = some b -> ∃ a, l[i]? = some a ∧ R a b :=
 r.rec (λ _ _ h => nomatch h) λ x _ ih i b h => match i, h with
  | 0, h => ⟨_, rfl, aY h ▸ x⟩
  | i + 1, h => ih i b h
theorem fw.get {l : List β} {m : List γ} (r : fw R l m) {i : Nat} {b : γ} (h : m[i]? = some b) : ∃ a, l[i]? = some a ∧ R a b := r.get' i b h
theorem fw.take {l : List β} {m : List γ} (r : fw R l m) : ∀ (n : Nat), fw R (l.take n) (m.take n) := r.rec (λ n => by cases n <;> exact .nil) λ x _ ih n => match n with
 | 0 => .nil
 | n + 1 => .cons x (ih n)
theorem fw.drop {l : List β} {m : List γ} (r : fw R l m) : ∀ (n : Nat), fw R (l.drop n) (m.drop n) := r.rec (λ n => by cases n <;> exact .nil) λ x r ih n => match n with
 | 0 => .cons x r
 | n + 1 => ih n
theorem fw.set {l : List β} {m : List γ} (r : fw R l m) {a : β} {b : γ} (x : R a b) : ∀ (n : Nat), fw R (l.set n a) (m.set n b) := r.rec (λ _ => .nil) λ y r ih n => match n with
 | 0 => .cons x r
 | n + 1 => .cons y (ih n)
theorem fw.mem {l : List β} {m : List γ} (r : fw R l m) {a : β} : a ∈ l -> ∃ b ∈ m, R a b := r.rec (λ h => nomatch h) λ x _ ih h => (aP.mp h).elim (λ e => ⟨_, .head _, e ▸ x⟩) λ h => let ⟨b, hb, y⟩ := ih h; ⟨b, .tail _ hb, y⟩
end
noncomputable abbrev tupObj (vs : List aJ) : Obj := { cls := .type "tuple", data := .seq vs.toArray }
noncomputable abbrev fV (vs : List aJ) (n : Nat) : Obj := { cls := .type "list", data := .seq vs.toArray n }
noncomputable abbrev fR (es : List bC) (n : Nat) : Obj := { cls := .type "dict", data := .dict es.toArray n }
noncomputable abbrev insObj (C dx : av) : Obj := { cls := .ref C, dict := some dx, data := .plain }
def IsSeq (o : Obj) : Prop := ∃ d n, o.data = .seq d n
structure Fx where
 prog : eZ
 w : World
 h₀ : Heap
 cls : Nat -> av
 T : Tb
 mg : Str -> Option aJ
 mb : Str -> Option aJ
 K : Frag
 pr : Prg
 fn : Nat -> av
noncomputable abbrev Fx.P (F : Fx) : bQ := F.w.params
noncomputable abbrev Fx.m (F : Fx) : Model := model F.prog F.w
noncomputable def fT (P : bQ) (x : aA) : Int := W.hashW P (W.ofPy x)
abbrev Pl := List (av × av)
def Own (α : Pl) (a : av) : Prop := ∃ (i : Nat) (p : av × av), α[i]? = some p ∧ (a = p.1 ∨ a = p.2)
inductive Rd (F : Fx) (h : Heap) (α : Pl) : aJ -> aA -> Prop
 | none : Rd F h α .none .none
 | bool (b : Bool) : Rd F h α (.bool b) (.bool b)
 | int (i : Int) (t : Tok) : Rd F h α (.int i t) (.int i)
 | str (x : Str) (t : Tok) : Rd F h α (.str x t) (.str x)
 | tuple {a : av} {vs : List aJ} {xs : List aA} : h.get? a = some (tupObj vs) -> ¬ Own α a -> fw (Rd F h α) vs xs -> Rd F h α (.ref a) (.tuple xs)
 | list {a : av} {vs : List aJ} {n : Nat} {xs : List aA} : h.get? a = some (fV vs n) -> ¬ Own α a -> fw (Rd F h α) vs xs -> Rd F h α (.ref a) (.list xs)
 | dict {a : av} {es : List bC} {n : Nat} {kvs : List (aA × aA)} : F.h₀.get? a = some (fR es n) -> h.get? a = some (fR es n) -> ¬ Own α a -> (a == eB) = false -> es.map (·.hash) = kvs.map (λ p => fT F.P p.1) ->
  fw (Rd F h α) (es.map (·.key)) (kvs.map (·.1)) -> fw (Rd F h α) (es.map (·.val)) (kvs.map (·.2)) -> Rd F h α (.ref a) (.dict kvs)
abbrev fL (F : Fx) (h : Heap) (α : Pl) : List aJ -> List aA -> Prop := fw (Rd F h α)
def Rd.I (F : Fx) (h : Heap) (α : Pl) (C : aJ -> Prop) : aA -> Prop
 | .none => C .none
 | .bool b => C (.bool b)
 | .int i => ∀ t, C (.int i t)
 | .str x => ∀ t, C (.str x t)
 | .tuple xs => ∀ a vs, h.get? a = some (tupObj vs) -> ¬ Own α a -> fL F h α vs xs -> C (.ref a)
 | .list xs => ∀ a vs n, h.get? a = some (fV vs n) -> ¬ Own α a -> fL F h α vs xs -> C (.ref a)
 | .dict kvs => ∀ a es n, F.h₀.get? a = some (fR es n) -> h.get? a = some (fR es n) -> ¬ Own α a -> (a == eB) = false -> es.map (·.hash) = kvs.map (λ p => fT F.P p.1) ->
  fL F h α (es.map (·.key)) (kvs.map (·.1)) -> fL F h α (es.map (·.val)) (kvs.map (·.2)) -> C (.ref a)
variable {F : Fx} {h h' : Heap} {α α' : Pl}
theorem Rd.E {v : aJ} {x : aA} (r : Rd F h α v x) {C : aJ -> Prop} (k : Rd.I F h α C x) : C v :=
 Rd.casesOn (motive_1 := λ v x _ => Rd.I F h α C x -> C v) r (λ k => k) (λ _ k => k) (λ _ t k => k t) (λ _ t k => k t) (λ g n q k => k _ _ g n q) (λ g n q k => k _ _ _ g n q) (λ g0 g n m z q r k => k _ _ _ g0 g n m z q r) k
inductive RV (F : Fx) (h : Heap) (α : Pl) : aJ -> V -> Prop
 | d {v : aJ} {x : aA} : Rd F h α v x -> RV F h α v (.d x)
 | l {i : Nat} {p : av × av} : α[i]? = some p -> RV F h α (.ref p.1) (.l i)
abbrev RVs (F : Fx) (h : Heap) (α : Pl) : List aJ -> List V -> Prop := fw (RV F h α)
def RV.I (F : Fx) (h : Heap) (α : Pl) (C : aJ -> Prop) : V -> Prop
 | .d x => ∀ v, Rd F h α v x -> C v
 | .l i => ∀ p, α[i]? = some p -> C (.ref p.1)
theorem RV.E {v : aJ} {x : V} (r : RV F h α v x) {C : aJ -> Prop} (k : RV.I F h α C x) : C v :=
 RV.casesOn (motive := λ v x _ => RV.I F h α C x -> C v) r (λ q k => k _ q) (λ e k => k _ e) k
theorem RV.rd {v : aJ} {x : aA} (r : RV F h α v (.d x)) : Rd F h α v x := r.E λ _ q => q
structure REn (F : Fx) (h : Heap) (α : Pl) (e : bC) (p : aA × V) : Prop where
 ok : okK 8 p.1 = true
 hash : e.hash = fT F.P p.1
 key : Rd F h α e.key p.1
 val : RV F h α e.val p.2
abbrev REs (F : Fx) (h : Heap) (α : Pl) : List bC -> List (aA × V) -> Prop := fw (REn F h α)
structure RFn (F : Fx) (h : Heap) (α : Pl) (e : bC) (p : Nat × V) : Prop where
 key : ∃ s t, F.T.attrs[p.1]? = some s ∧ e.key = .str s t ∧ e.hash = eL F.P s
 val : RV F h α e.val p.2
abbrev RFs (F : Fx) (h : Heap) (α : Pl) : List bC -> List (Nat × V) -> Prop := fw (RFn F h α)
def Apart (ks : List aA) : Prop := ks.Pairwise λ a b => eqD a b = false
inductive RC (F : Fx) (h : Heap) (α : Pl) (p : av × av) : fH -> Prop
 | list {vs : List aJ} {n : Nat} {xs : List aA} : p.1 = p.2 -> h.get? p.1 = some (fV vs n) -> fL F h α vs xs -> RC F h α p (.list xs)
 | dict {es : List bC} {n : Nat} {kvs : List (aA × V)} : p.1 = p.2 -> h.get? p.1 = some (fR es n) -> REs F h α es kvs -> Apart (kvs.map (·.1)) -> RC F h α p (.dict kvs)
 | inst {c : Nat} {es : List bC} {n : Nat} {fs : List (Nat × V)} : p.1 ≠ p.2 -> h.get? p.1 = some (insObj (F.cls c) p.2) -> h.get? p.2 = some (fR es n) -> RFs F h α es fs -> es.length <= 1000 -> c < 2 -> RC F h α p (.inst c fs)
def RC.I (F : Fx) (h : Heap) (α : Pl) (p : av × av) (C : Prop) : fH -> Prop
 | .list xs => ∀ vs n, p.1 = p.2 -> h.get? p.1 = some (fV vs n) -> fL F h α vs xs -> C
 | .dict kvs => ∀ es n, p.1 = p.2 -> h.get? p.1 = some (fR es n) -> REs F h α es kvs -> Apart (kvs.map (·.1)) -> C
 | .inst c fs => ∀ es n, p.1 ≠ p.2 -> h.get? p.1 = some (insObj (F.cls c) p.2) -> h.get? p.2 = some (fR es n) -> RFs F h α es fs -> es.length <= 1000 -> c < 2 -> C
theorem RC.E {p : av × av} {c : fH} (r : RC F h α p c) {C : Prop} (k : RC.I F h α p C c) : C :=
 RC.casesOn (motive := λ c _ => RC.I F h α p C c -> C) r (λ e g q k => k _ _ e g q) (λ e g q d k => k _ _ e g q d) (λ e g g2 q l c k => k _ _ e g g2 q l c) k
def Hk (D : av -> Prop) (h h' : Heap) : Prop := ∀ a o, ¬ D a -> h.get? a = some o -> h'.get? a = some o
def Lv (h h' : Heap) : Prop := ∀ a, h'.get? a = none -> h.get? a = none
def Nil (a : av) : Prop := False
structure Mv (F : Fx) (h h' : Heap) (α α' : Pl) : Prop where
 data : ∀ a o, h.get? a = some o -> ¬ Own α a -> (IsSeq o ∨ F.h₀.get? a = some o) -> h'.get? a = some o ∧ ¬ Own α' a
 at_ : ∀ (i : Nat) p, α[i]? = some p -> α'[i]? = some p
theorem Rd.dat (m : ∀ a o, h.get? a = some o -> ¬ Own α a -> (IsSeq o ∨ F.h₀.get? a = some o) -> h'.get? a = some o ∧ ¬ Own α' a) {v : aJ} {x : aA} (r : Rd F h α v x) : Rd F h' α' v x :=
 Rd.rec (motive_1 := λ v x _ => Rd F h' α' v x) (motive_2 := λ l m _ => fL F h' α' l m) .none .bool .int .str
  (λ g n _ q => have z := m _ _ g n (.inl ⟨_, _, rfl⟩); .tuple z.1 z.2 q) (λ g n _ q => have z := m _ _ g n (.inl ⟨_, _, rfl⟩); .list z.1 z.2 q)
  (λ g0 g n e y _ _ q r => have z := m _ _ g n (.inr g0); .dict g0 z.1 z.2 e y q r) .nil (λ _ _ a b => .cons a b) r
theorem Rd.mv (m : Mv F h h' α α') {v : aJ} {x : aA} (r : Rd F h α v x) : Rd F h' α' v x := r.dat m.data
theorem RV.mv (m : Mv F h h' α α') (v : aJ) (x : V) (r : RV F h α v x) : RV F h' α' v x := r.casesOn (λ q => .d (q.mv m)) λ e => .l (m.at_ _ _ e)
theorem RVs.mv (m : Mv F h h' α α') {v : List aJ} {x : List V} (r : RVs F h α v x) : RVs F h' α' v x := r.imp (RV.mv m)
theorem fL.mv (m : Mv F h h' α α') {v : List aJ} {x : List aA} (r : fL F h α v x) : fL F h' α' v x := r.imp λ _ _ => Rd.mv m
theorem REs.mv (m : Mv F h h' α α') {v : List bC} {x : List (aA × V)} (r : REs F h α v x) : REs F h' α' v x := r.imp λ _ _ q => ⟨q.ok, q.hash, q.key.mv m, q.val.mv m⟩
theorem RFs.mv (m : Mv F h h' α α') {v : List bC} {x : List (Nat × V)} (r : RFs F h α v x) : RFs F h' α' v x := r.imp λ _ _ q => ⟨q.key, q.val.mv m⟩
theorem RC.mv (m : Mv F h h' α α') {p : av × av} (k : ∀ a o, (a = p.1 ∨ a = p.2) -> h.get? a = some o -> h'.get? a = some o) {c : fH} (r : RC F h α p c) : RC F h' α' p c :=
 r.casesOn (λ e g q => .list e (k _ _ (.inl rfl) g) (q.mv m)) (λ e g q d => .dict e (k _ _ (.inl rfl) g) (q.mv m) d) λ e g g2 q l c => .inst e (k _ _ (.inl rfl) g) (k _ _ (.inr rfl) g2) (q.mv m) l c
structure St (F : Fx) (h : Heap) (α : Pl) (σ : fE) : Prop where
 base : ∀ b o, F.h₀.get? b = some o -> h.get? b = some o
 len : α.length = σ.length
 no : ∀ a, Own α a -> F.h₀.get? a = none
 live : ∀ a, Own α a -> h.get? a ≠ none
 apart : ∀ (i j : Nat) (p q : av × av) (a : av), α[i]? = some p -> α[j]? = some q -> (a = p.1 ∨ a = p.2) -> (a = q.1 ∨ a = q.2) -> i = j
 cell : ∀ (i : Nat) (c : fH) (p : av × av), σ[i]? = some c -> α[i]? = some p -> RC F h α p c
def Off (F : Fx) (h : Heap) (α : Pl) (D : av -> Prop) : Prop := ∀ a, D a -> F.h₀.get? a = none ∧ ¬ Own α a ∧ ∀ o, h.get? a = some o -> ¬ IsSeq o
variable {σ : fE} {D W W' : av -> Prop}
theorem Off.nil : Off F h α Nil := λ _ h => h.elim
theorem Off.mv (Z : Off F h α D) (k : Hk D h h') : Mv F h h' α α :=
 ⟨λ a o e n q => ⟨k a o (λ d => q.elim ((Z a d).2.2 o e) λ q => by rw [(Z a d).1] at q; cases q) e, n⟩, λ _ _ e => e⟩
theorem Lv.of (k : Hk D h h') (l : ∀ a, D a -> h'.get? a = none -> h.get? a = none) : Lv h h' := λ a e => by
 by_cases d : D a
 · exact l a d e
 · cases q : h.get? a with
   | none => rfl
   | some o => exact (nomatch (k a o d q).symm.trans e)
theorem Hk.lv (k : Hk Nil h h') : Lv h h' := .of k λ _ d => d.elim
theorem Own.at {i : Nat} {p : av × av} (e : α[i]? = some p) {a : av} (q : a = p.1 ∨ a = p.2) : Own α a := ⟨i, p, e, q⟩
theorem St.keep (S : St F h α σ) (m : Mv F h h' α α) (k : ∀ a o, Own α a -> h.get? a = some o -> h'.get? a = some o) (b : ∀ b o, F.h₀.get? b = some o -> h'.get? b = some o) : St F h' α σ :=
 ⟨b, S.len, S.no, λ a q e => by
  cases z : h.get? a with
  | none => exact S.live a q z
  | some o => exact (nomatch (k a o q z).symm.trans e), S.apart, λ i c p e e2 => (S.cell i c p e e2).mv m λ a o q => k a o (.at e2 q)⟩
theorem St.off (S : St F h α σ) (Z : Off F h α D) (k : Hk D h h') : St F h' α σ :=
 S.keep (Z.mv k) (λ a o q => k a o λ d => (Z a d).2.1 q) λ b o e => k b o (λ d => by have := (Z b d).1; rw [e] at this; cases this) (S.base b o e)
structure Af (F : Fx) (W : av -> Prop) (s s' : aK) (α α' : Pl) : Prop where
 keep : ∀ a o, ¬ W a -> ¬ Own α a -> s.heap.get? a = some o -> s'.heap.get? a = some o
 live : Lv s.heap s'.heap
 pre : α <+: α'
 sub : ∀ a, Own α' a -> Own α a ∨ s.heap.get? a = none
 gens : s'.gens = s.gens
 os : s'.os = s.os
variable {s s' s'' : aK} {α'' : Pl}
theorem pre_at (q : α <+: α') {i : Nat} {p : av × av} (e : α[i]? = some p) : α'[i]? = some p := by
 obtain ⟨t, rfl⟩ := q
 rw [bM (aR.mp e).1]; exact e
theorem Af.refl : Af F W s s α α := ⟨λ _ _ _ _ e => e, λ _ e => e, bz _, λ _ => .inl, rfl, rfl⟩
theorem Af.at (x : Af F W s s' α α') {i : Nat} {p : av × av} (e : α[i]? = some p) : α'[i]? = some p := pre_at x.pre e
theorem Af.trans (x : Af F W s s' α α') (y : Af F W' s' s'' α' α'') (w : ∀ a, W' a -> W a ∨ Own α a ∨ s.heap.get? a = none) : Af F W s s'' α α'' :=
 ⟨λ a o n n' e => y.keep a o (λ q => (w a q).elim n λ q => q.elim n' λ q => nomatch q.symm.trans e) (λ q => (x.sub a q).elim n' λ q => nomatch q.symm.trans e) (x.keep a o n n' e), λ a e => x.live a (y.live a e), x.pre.trans y.pre,
  λ a q => (y.sub a q).elim (x.sub a) λ q => .inr (x.live a q), y.gens.trans x.gens, y.os.trans x.os⟩
theorem Af.tr (x : Af F W s s' α α') (y : Af F W s' s'' α' α'') : Af F W s s'' α α'' := x.trans y λ _ => .inl
theorem Af.up (x : Af F Nil s s' α α') : Af F W s s' α α' := ⟨λ a o _ => x.keep a o id, x.live, x.pre, x.sub, x.gens, x.os⟩
theorem Af.drop (x : Af F W s s' α α') (w : ∀ a, W a -> s.heap.get? a = none) : Af F Nil s s' α α' := ⟨λ a o _ n e => x.keep a o (λ q => nomatch (w a q).symm.trans e) n e, x.live, x.pre, x.sub, x.gens, x.os⟩
theorem Af.mv (x : Af F W s s' α α') (Z : Off F s.heap α W) (b : ∀ b o, F.h₀.get? b = some o -> s'.heap.get? b = some o) : Mv F s.heap s'.heap α α' :=
 ⟨λ a o e n q => ⟨q.elim (λ q => x.keep a o (λ w => (Z a w).2.2 o e q) n e) (b a o), λ z => (x.sub a z).elim n λ z => nomatch z.symm.trans e⟩, λ _ _ => x.at⟩
theorem Af.off (x : Af F W s s' α α') (Z : Off F s.heap α D) (w : ∀ a, D a -> ¬ W a) (l : ∀ a, D a -> s.heap.get? a ≠ none) : Off F s'.heap α' D := λ a d =>
 ⟨(Z a d).1, λ q => (x.sub a q).elim (Z a d).2.1 (l a d), λ o e q => by
  cases z : s.heap.get? a with
  | none => exact l a d z
  | some o' =>
   have := x.keep a o' (w a d) (Z a d).2.1 z
   rw [e] at this
   exact (Z a d).2.2 o' z (aY this ▸ q)⟩
theorem Af.of_off (Z : Off F s.heap α D) (k : Hk D s.heap s'.heap) (l : Lv s.heap s'.heap) (hg : s'.gens = s.gens) (ho : s'.os = s.os) (w : ∀ a, D a -> W a) : Af F W s s' α α :=
 ⟨λ a o n _ e => k a o (λ d => n (w a d)) e, l, bz _, λ _ => .inl, hg, ho⟩
end
end Mine
namespace Mine
open PySem PySem.Calls PyProof.Rows PySem.W
inductive VarAt (h : Heap) (env : Env) (x : Str) (hv : aJ) : Prop
 | loc {m : Str -> Option aJ} : env.kindOf x = some .local -> h.Ns env.locals m -> m x = some hv -> VarAt h env x hv
 | cell {c : av} : env.kindOf x = some .cell -> env.cells.lookup x = some c -> h.IsCell c (some hv) -> VarAt h env x hv
def Fo (env : Env) (a : av) : Prop := a = env.locals ∨ ∃ x, env.cells.lookup x = some a
structure EnS (Γ : Cx) (env : Env) : Prop where
 kind : env.scope.kind = .function
 globals : env.globals = dT
 builtins : env.builtins = builtinsNs
 apart : ∀ x y c, env.cells.lookup x = some c -> env.cells.lookup y = some c -> x = y
 vk : ∀ x i, Γ.vars.lookup x = some i -> env.kindOf x = some .local ∨ (env.kindOf x = some .cell ∧ ∃ c, env.cells.lookup x = some c)
 ck : ∀ x ∈ Γ.cl, env.kindOf x = some .cell
 gk : ∀ x, Γ.isGlob x = true -> env.kindOf x = some .globalImplicit
 inj : ∀ x y i, Γ.vars.lookup x = some i -> Γ.vars.lookup y = some i -> x = y
 low : ∀ x i, Γ.vars.lookup x = some i -> i < Γ.n
structure En (F : Fx) (h : Heap) (α : Pl) (Γ : Cx) (env : Env) (ρ : Loc) : Prop where
 fix : EnS Γ env
 ns : ∃ m, h.Ns env.locals m
 cells : ∀ n c, env.cells.lookup n = some c -> ∃ v, h.IsCell c v
 place : ∀ a, Fo env a -> F.h₀.get? a = none ∧ ¬ Own α a
 top : ∀ (i : Nat) v, Γ.n <= i -> lget ρ i ≠ some v
 val : ∀ x i v, Γ.vars.lookup x = some i -> lget ρ i = some v -> ∃ hv, VarAt h env x hv ∧ RV F h α hv v
section
variable {F : Fx} {h h' : Heap} {α α' : Pl} {Γ : Cx} {env : Env} {ρ : Loc} {s s' : aK}
theorem noSeq {o : Obj} {p : Data} (d : o.data = p) (k : ∀ vs c, p ≠ .seq vs c) : ¬ IsSeq o := λ z => by
 obtain ⟨_, _, z⟩ := z
 exact k _ _ (d.symm.trans z)
theorem En.live (N : En F h α Γ env ρ) (a : av) (q : Fo env a) : ∃ o, h.get? a = some o ∧ ¬ IsSeq o := by
 cases q with
 | inl e =>
  obtain ⟨_, o, _, _, g, d, _⟩ := N.ns
  exact ⟨o, e ▸ g, noSeq d λ _ _ e => nomatch e⟩
 | inr q =>
  obtain ⟨x, m⟩ := q
  obtain ⟨_, o, g, d⟩ := N.cells x a m
  exact ⟨o, g, noSeq d λ _ _ e => nomatch e⟩
theorem En.off (N : En F h α Γ env ρ) : Off F h α (Fo env) := λ a q => ⟨(N.place a q).1, (N.place a q).2, λ o e => (N.live a q).elim λ _ z => aY (z.1.symm.trans e) ▸ z.2⟩
theorem En.alive (N : En F h α Γ env ρ) (a : av) (q : Fo env a) : h.get? a ≠ none := λ e => (N.live a q).elim λ _ z => nomatch z.1.symm.trans e
theorem nsKeep {a : av} {m : Str -> Option aJ} (n : h.Ns a m) (k : ∀ o, h.get? a = some o -> h'.get? a = some o) : h'.Ns a m := by
 obtain ⟨o, es, ep, e, r⟩ := n
 exact ⟨o, es, ep, k o e, r⟩
theorem cellKeep {a : av} {v : Option aJ} (n : h.IsCell a v) (k : ∀ o, h.get? a = some o -> h'.get? a = some o) : h'.IsCell a v :=
 n.elim λ o z => ⟨o, k o z.1, z.2⟩
theorem VarAt.keep {x : Str} {hv : aJ} (n : VarAt h env x hv) (k : ∀ a, Fo env a -> ∀ o, h.get? a = some o -> h'.get? a = some o) : VarAt h' env x hv :=
 n.casesOn (λ a b c => .loc a (nsKeep b (k _ (.inl rfl))) c) λ a b c => .cell a b (cellKeep c (k _ (.inr ⟨_, b⟩)))
theorem En.mv (N : En F h α Γ env ρ) (m : Mv F h h' α α') (k : ∀ a, Fo env a -> ∀ o, h.get? a = some o -> h'.get? a = some o) (p : ∀ a, Fo env a -> ¬ Own α' a) : En F h' α' Γ env ρ :=
 ⟨N.fix, N.ns.elim λ m n => ⟨m, nsKeep n (k _ (.inl rfl))⟩, λ n c q => (N.cells n c q).elim λ v z => ⟨v, cellKeep z (k _ (.inr ⟨_, q⟩))⟩, λ a q => ⟨(N.place a q).1, p a q⟩, N.top,
  λ x i v h1 h2 => (N.val x i v h1 h2).elim λ hv z => ⟨hv, z.1.keep k, z.2.mv m⟩⟩
theorem Af.m0 (x : Af F Nil s s' α α') (b : ∀ b o, F.h₀.get? b = some o -> s'.heap.get? b = some o) : Mv F s.heap s'.heap α α' := x.mv .nil b
theorem En.after (N : En F s.heap α Γ env ρ) (x : Af F Nil s s' α α') (b : ∀ b o, F.h₀.get? b = some o -> s'.heap.get? b = some o) : En F s'.heap α' Γ env ρ :=
 N.mv (x.m0 b) (λ a q o => x.keep a o id (N.place a q).2) λ a q z => (x.sub a z).elim (N.place a q).2 (N.alive a q)
end
noncomputable def biVal : List (Str × aJ) := [("len", .builtin "len"), ("tuple", .type "tuple"), ("list", .type "list"), ("sorted", .builtin "sorted"), ("any", .builtin "any"), ("max", .builtin "max"), ("min", .builtin "min"), ("set", .type "set"), ("range", .type "range"), ("reversed", .type "reversed")]
structure Wo (F : Fx) : Prop where
 g : F.h₀.Ns dT F.mg
 b : F.h₀.Ns builtinsNs F.mb
 lim : F.h₀.NoLimit
 sys : ∃ o, F.h₀.get? eB = some o
 data : ∀ x d, F.T.globs.lookup x = some (.data d) -> ∃ v, F.mg x = some v ∧ Rd F F.h₀ [] v d
 fn : ∀ x f, F.T.globs.lookup x = some (.fn f) -> F.mg x = some (.ref (F.fn f))
 fo : ∀ f, ∃ o fd, F.h₀.get? (F.fn f) = some o ∧ o.data = .func fd
 cls : ∀ x c, F.T.globs.lookup x = some (.cls c) -> F.mg x = some (.ref (F.cls c))
 bi : ∀ x v, biVal.lookup x = some v -> F.T.globs.lookup x = none -> F.mg x = none ∧ F.mb x = some v
def Rm (n : Nat) (A : bH) : Prop := A.handled = none ∧ A.depth + 8 * n + 16 <= 1000 ∧ A.units + 100 * n + 1000 <= 9900
structure At (F : Fx) (A : bH) (n : Nat) (Γ : Cx) (env : Env) (ρ : Loc) (s : aK) (α : Pl) (σ : fE) : Prop where
 rm : Rm n A
 en : En F s.heap α Γ env ρ
 st : St F s.heap α σ
inductive QE (F : Fx) (s : aK) (α : Pl) (Q : Ps) (hv : aJ) (s' : aK) : Prop
 | mk {v : V} {σ' : fE} {α' : Pl} : Q v σ' -> Af F Nil s s' α α' -> St F s'.heap α' σ' -> RV F s'.heap α' hv v -> QE F s α Q hv s'
inductive QB (F : Fx) (s : aK) (α : Pl) (Q : Bool -> fE -> Prop) (b : Bool) (s' : aK) : Prop
 | mk {σ' : fE} {α' : Pl} : Q b σ' -> Af F Nil s s' α α' -> St F s'.heap α' σ' -> QB F s α Q b s'
def SE (F : Fx) (O : Orc) (n : Nat) (Γ : Cx) (a : AX) : Prop := ∀ (ρ : Loc) (σ : fE) (A : bH) (env : Env) (s : aK) (α : Pl) (E : aJ -> aK -> Prop) (Q : Ps),
 evE O (er F.T a Γ) ρ σ Q -> At F A n Γ env ρ s α σ -> aQ F.m A (eval (de a) env) (QE F s α Q) E s
def ST_ (F : Fx) (O : Orc) (n : Nat) (Γ : Cx) (a : AX) : Prop := ∀ (ρ : Loc) (σ : fE) (A : bH) (env : Env) (s : aK) (α : Pl) (E : aJ -> aK -> Prop) (Q : Ps) (P : Bool -> fE -> Prop),
 evE O (er F.T a Γ) ρ σ Q -> (∀ v σ, Q v σ -> kT P v σ) -> At F A n Γ env ρ s α σ -> aQ F.m A (isTrue (de a) env (eval (de a) env)) (QB F s α P) E s
section
variable {F : Fx} {O : Orc} {n : Nat} {Γ : Cx} {A : bH} {E : aJ -> aK -> Prop} {env : Env} {ρ : Loc} {σ σ' : fE} {s s' : aK} {α α' : Pl} {Q : Ps} {a : AX}
theorem At.after (t : At F A n Γ env ρ s α σ) (x : Af F Nil s s' α α') (S : St F s'.heap α' σ') : At F A n Γ env ρ s' α' σ' := ⟨t.rm, t.en.after x S.base, S⟩
theorem SE.go (h : SE F O n Γ a) (e : evE O (er F.T a Γ) ρ σ Q) (t : At F A n Γ env ρ s α σ) {R : aJ -> aK -> Prop}
 (k : ∀ v σ1 hv s1 α1, Q v σ1 -> Af F Nil s s1 α α1 -> At F A n Γ env ρ s1 α1 σ1 -> RV F s1.heap α1 hv v -> R hv s1) : aQ F.m A (eval (de a) env) R E s :=
 ah (h ρ σ A env s α E Q e t) (λ hv s1 q => q.casesOn λ q f S r => k _ _ hv s1 _ q f (t.after f S) r) λ _ _ x => x
theorem ST_.go (h : ST_ F O n Γ a) {Q : Bool -> fE -> Prop} (e : evE O (er F.T a Γ) ρ σ (kT Q)) (t : At F A n Γ env ρ s α σ) {R : Bool -> aK -> Prop}
 (k : ∀ b σ1 s1 α1, Q b σ1 -> Af F Nil s s1 α α1 -> At F A n Γ env ρ s1 α1 σ1 -> R b s1) : aQ F.m A (isTrue (de a) env (eval (de a) env)) R E s :=
 ah (h ρ σ A env s α E _ Q e (λ _ _ h => h) t) (λ b s1 q => q.casesOn λ q f S => k b _ s1 _ q f (t.after f S)) λ _ _ x => x
theorem qe_trans {s₁ : aK} {α₁ : Pl} (x : Af F Nil s s₁ α α₁) (hv : aJ) (s' : aK) (q : QE F s₁ α₁ Q hv s') : QE F s α Q hv s' := q.casesOn λ q f S r => ⟨q, x.tr f, S, r⟩
theorem wp_trans {m : Sem aJ} {s₁ : aK} {α₁ : Pl} (x : Af F Nil s s₁ α α₁) (q : aQ F.m A m (QE F s₁ α₁ Q) E s₁) : aQ F.m A m (QE F s α Q) E s₁ := ah q (qe_trans x) λ _ _ x => x
theorem Af.tok {tk : Nat} : Af F Nil s { s with toks := tk } α α := ⟨λ _ _ _ _ e => e, λ _ e => e, bz _, λ _ => .inl, rfl, rfl⟩
theorem qe_tok {v : V} {hv : aJ} {tk : Nat} (q : Q v σ) (S : St F s.heap α σ) (r : RV F s.heap α hv v) : QE F s α Q hv { s with toks := tk } := ⟨q, .tok, S, r⟩
theorem qe_here {v : V} {hv : aJ} (q : Q v σ) (S : St F s.heap α σ) (r : RV F s.heap α hv v) : QE F s α Q hv s := ⟨q, .refl, S, r⟩
theorem rd_base (S : St F s.heap α σ) {v : aJ} {d : aA} (r : Rd F F.h₀ [] v d) : Rd F s.heap α v d :=
 r.mv ⟨λ a o e _ _ => ⟨S.base a o e, λ q => nomatch (S.no a q).symm.trans e⟩, λ _ _ e => nomatch e6.symm.trans e⟩
theorem OW.bind {β γ : Type} {o : Option β} {f : β -> Option γ} {Q : γ -> Prop} (h : OW (o.bind f) Q) : OW o λ a => OW (f a) Q := match o, h with
 | some _, h => h
 | none, h => h
theorem OW.map {β γ : Type} {o : Option β} {f : β -> γ} {Q : γ -> Prop} (h : OW (o.map f) Q) : OW o λ a => Q (f a) := match o, h with
 | some _, h => h
 | none, h => h
theorem OW.get {β : Type} {o : Option β} {Q : β -> Prop} (h : OW o Q) {C : Prop} (k : ∀ a, o = some a -> Q a -> C) : C := match o, h, k with
 | some a, h, k => k a rfl h
 | none, h, _ => False.elim h
theorem OW.or {β : Type} {o p : Option β} {Q : β -> Prop} (h : OW (o.or p) Q) {C : Prop} (k : OW o Q -> C) (l : OW p Q -> C) : C := match o, h, k with
 | some _, h, k => k h
 | none, h, _ => l h
theorem OW.ck {β : Type} {c : Bool} {x : β} {Q : β -> Prop} (h : OW (Mine.ck c x) Q) {C : Prop} (k : c = true -> Q x -> C) : C := match c, h, k with
 | true, h, k => k rfl h
 | false, h, _ => False.elim h
theorem OW.mono {γ : Type} {o : Option γ} {Q R : γ -> Prop} (h : ∀ a, Q a -> R a) (e : OW o Q) : OW o R := match o, e with
 | some a, e => h a e
 | none, e => e
theorem OW.and_ {o : Option Bool} {f g : Prop} {p : Bool -> Prop} (h : OW o λ c => cond c f g) (k : g -> OW o p) : OW o λ c => cond c f (p false) := match o, h, k with
 | some true, h, _ => h
 | some false, h, k => k h
 | none, h, _ => h
theorem OW.or_ {o : Option Bool} {f g : Prop} {p : Bool -> Prop} (h : OW o λ c => cond c g f) (k : g -> OW o p) : OW o λ c => cond c (p true) f := match o, h, k with
 | some true, h, k => k h
 | some false, h, _ => h
 | none, h, _ => h
theorem cnd {c : Bool} {P R : Prop} (h : cond c P R) {C : Prop} (k : c = true -> P -> C) (l : c = false -> R -> C) : C := match c, h, k, l with
 | true, h, k, _ => k rfl h
 | false, h, _, l => l rfl h
theorem fG {a b : Bool} (h : (a && b) = true) : a = true := match a, h with
 | true, _ => rfl
theorem and2 {a b : Bool} (h : (a && b) = true) : b = true := match a, h with
 | true, h => h
theorem ifx_go {δ : Type} {c : Bool} {d x : δ} {M : δ -> Prop} (h : M (ifx c d x)) (b : ¬ M d) {C : Prop} (k : c = true -> M x -> C) : C := match c, h, k with
 | true, h, k => k rfl h
 | false, h, _ => (b h).elim
theorem opx_go {γ δ : Type} {o : Option γ} {d : δ} {f : γ -> δ} {M : δ -> Prop} (h : M (opx o d f)) {C : Prop} (k : ∀ a, o = some a -> M (f a) -> C) (l : o = none -> M d -> C) : C := match o, h, k, l with
 | some a, h, k, _ => k a rfl h
 | none, h, _, l => l rfl h
end
section
variable {F : Fx} {n : Nat} {A : bH} {E : aJ -> aK -> Prop} {σ : fE} {s s' : aK} {h : Heap} {α : Pl} {Q : Ps} {a : AX} {x y : aJ} {u v : V}
theorem dat_go {R : aA -> Prop} (r : RV F h α x u) (e : OW (dataOf u) R) {C : Prop} (k : ∀ d, Rd F h α x d -> R d -> C) : C := by
 cases r with
 | d q => exact k _ q e
 | l => exact False.elim e
@[elab_as_elim] theorem intd_go {d : aA} {R : Int -> Prop} (r : Rd F h α x d) (e : OW (intD d) R) {C : aJ -> Prop} (k : ∀ i t, R i -> C (.int i t)) : C x := by
 cases r <;> first | exact k _ _ e | exact False.elim e
@[elab_as_elim] theorem int_go {R : Int -> Prop} (r : RV F h α x u) (e : OW (intV u) R) {C : aJ -> Prop} (k : ∀ i t, R i -> C (.int i t)) : C x :=
 dat_go r e.bind λ _ q e => intd_go q e k
@[elab_as_elim] theorem two_int {γ : Type} {R : γ -> Prop} (rx : RV F h α x u) (ry : RV F h α y v) {f : Int -> Int -> Option γ} (e : OW (ints2 u v f) R) {C : aJ -> aJ -> Prop} (k : ∀ a b t t', OW (f a b) R -> C (.int a t) (.int b t')) : C x y :=
 int_go rx e.bind λ a t e => int_go (C := C (.int a t)) ry e.bind λ b t' => k a b t t'
theorem cell_go (S : St F h α σ) {i : Nat} {p : av × av} (e : α[i]? = some p) {R : fH -> Prop} (w : OW σ[i]? R) {C : Prop} (k : ∀ c, σ[i]? = some c -> RC F h α p c -> R c -> C) : C :=
 w.get λ c g q => k c g (S.cell i c p g e) q
@[elab_as_elim] theorem lstd_go {d : aA} {R : List aA -> Prop} (r : Rd F h α x d) (e : OW (listD d) R) {C : aJ -> Prop} (k : ∀ a vs n xs, h.get? a = some (fV vs n) -> fL F h α vs xs -> R xs -> C (.ref a)) : C x := by
 cases r <;> first | exact k _ _ _ _ ‹_› ‹_› e | exact False.elim e
@[elab_as_elim] theorem tupd_go {d : aA} {R : List aA -> Prop} (r : Rd F h α x d) (e : OW (tupD d) R) {C : aJ -> Prop} (k : ∀ a vs xs, h.get? a = some (tupObj vs) -> ¬ Own α a -> fL F h α vs xs -> R xs -> C (.ref a)) : C x := by
 cases r <;> first | exact k _ _ _ ‹_› ‹_› ‹_› e | exact False.elim e
theorem cL_go {p : av × av} {c : fH} {R : List aA -> Prop} (r : RC F h α p c) (e : OW (cL c) R) {C : Prop} (k : ∀ vs n xs, p.1 = p.2 -> h.get? p.1 = some (fV vs n) -> fL F h α vs xs -> R xs -> C) : C := by
 cases r <;> first | exact k _ _ _ ‹_› ‹_› ‹_› e | exact False.elim e
@[elab_as_elim] theorem lst_go (S : St F h α σ) {R : List aA -> Prop} (r : RV F h α x u) (e : OW (listOf σ u) R) {C : aJ -> Prop} (k : ∀ a vs n xs, h.get? a = some (fV vs n) -> fL F h α vs xs -> R xs -> C (.ref a)) : C x := by
 cases r with
 | d q => exact lstd_go q e k
 | l g => exact cell_go S g e.bind λ c _ z e => cL_go z e λ vs n xs _ g q w => k _ vs n xs g q w
@[elab_as_elim] theorem seq_go (S : St F h α σ) {R : List aA -> Prop} (r : RV F h α x u) (e : OW (fg σ u) R) {C : aJ -> Prop} (k : ∀ a vs n xs, h.get? a = some (fV vs n) -> fL F h α vs xs -> R xs -> C (.ref a))
 (l : ∀ a vs xs, h.get? a = some (tupObj vs) -> ¬ Own α a -> fL F h α vs xs -> R xs -> C (.ref a)) : C x := by
 cases r with
 | d q => exact OW.or e (λ e => lstd_go q e k) λ e => tupd_go q e l
 | l g => exact cell_go S g e.bind λ c _ z e => cL_go z e λ vs n xs _ g q w => k _ vs n xs g q w
theorem isList_of {a : av} {vs : List aJ} {n : Nat} (g : h.get? a = some (fV vs n)) : h.IsList a vs.toArray := ⟨_, g, rfl, n, rfl⟩
theorem isTup_of {a : av} {vs : List aJ} (g : h.get? a = some (tupObj vs)) : IsTup h a vs.toArray := ⟨_, g, rfl, 0, rfl⟩
theorem fS : sizeLine = 16777216 := by unfold sizeLine; rfl
theorem fits_le {xs : List aA} (h : fits xs = true) : xs.length <= 2 ^ 20 := of_decide_eq_true h
theorem ln_le {vs : List aJ} {xs : List aA} (r : fL F h α vs xs) (f : fits xs = true) : vs.length <= 2 ^ 20 := r.length ▸ fits_le f
theorem sz_le {vs : List aJ} {xs : List aA} (r : fL F h α vs xs) (f : fits xs = true) : vs.toArray.size <= 2 ^ 20 := by
 rw [aa, r.length]; exact fits_le f
theorem qe_new (q : Q v σ) (S : St F s.heap α σ) (k : ∀ b o, s.heap.get? b = some o -> s'.heap.get? b = some o) (hg : s'.gens = s.gens) (ho : s'.os = s.os) (r : RV F s'.heap α x v) : QE F s α Q x s' :=
 have hk : Hk Nil s.heap s'.heap := λ a o _ => k a o
 ⟨q, .of_off .nil hk hk.lv hg ho λ _ => id, S.off .nil hk, r⟩
theorem mv_new (k : ∀ b o, h.get? b = some o -> s'.heap.get? b = some o) : Mv F h s'.heap α α := Off.nil.mv λ a o _ => k a o
theorem fU (o : Obj) : ∀ b o', h.get? b = some o' -> (h.push o).get? b = some o' := λ _ _ e => ay o e
theorem not_own (S : St F h α σ) : ¬ Own α h.objs.size := λ q => S.live _ q (ax (aW _))
theorem qe_tup {vs : List aJ} {xs : List aA} (S : St F s.heap α σ) (r : fL F s.heap α vs xs) (q : Q (.d (.tuple xs)) σ) : QE F s α Q (.ref s.heap.objs.size) { s with heap := s.heap.push (tupObj vs) } :=
 qe_new q S (fU _) rfl rfl (.d (.tuple (ao _ rfl) (not_own S) (r.mv (mv_new (s' := { s with heap := s.heap.push (tupObj vs) }) (fU _)))))
theorem qe_lst {vs : List aJ} {xs : List aA} (S : St F s.heap α σ) (r : fL F s.heap α vs xs) (q : Q (.d (.list xs)) σ) : QE F s α Q (.ref s.heap.objs.size) { s with heap := s.heap.push (fV vs 0) } :=
 qe_new q S (fU _) rfl rfl (.d (.list (ao _ rfl) (not_own S) (r.mv (mv_new (s' := { s with heap := s.heap.push (fV vs 0) }) (fU _)))))
theorem mul_ok {a b : Int} (h : small a = true) : IntMulOk a b := by
 refine IntMulOk.of_left ?_
 rw [small_iff] at h
 show bb.Int.intBits a <= 64
 unfold bb.Int.intBits
 by_cases h0 : a = 0
 · subst h0; decide
 · have h1 : a.natAbs ≠ 0 := by lia
   have h2 : a.natAbs.log2 < 62 := (Nat.log2_lt h1).mpr (by lia)
   rw [if_neg (by simpa using h0)]; lia
theorem qe_int {i : Int} {t tk : Nat} (S : St F s.heap α σ) (q : Q (num i) σ) : QE F s α Q (.int i t) { s with toks := tk } := qe_tok q S (.d (.int _ _))
theorem op_add_list (S : St F s.heap α σ) {a b : av} {vs ws : List aJ} {n m : Nat} {xs ys : List aA} (g : s.heap.get? a = some (fV vs n)) (r : fL F s.heap α vs xs) (g2 : s.heap.get? b = some (fV ws m)) (r2 : fL F s.heap α ws ys)
 (e : OW (ck (fits xs && fits ys) (V.d (.list (xs ++ ys)))) λ z => Q z σ) : aQ F.m A (binaryOp .Add (.ref a) (.ref b)) (QE F s α Q) E s :=
 e.ck λ f q => by
  have l1 := sz_le r (fG f)
  have l2 := sz_le r2 (and2 f)
  refine PySem.P.add_list g g2 ?_ (by rw [fS]; lia)
  rw [List.append_toArray]; exact qe_lst S (r.append r2) q
theorem op_add_tup (S : St F s.heap α σ) {a b : av} {vs ws : List aJ} {xs ys : List aA} (g : s.heap.get? a = some (tupObj vs)) (k : ¬ Own α a) (r : fL F s.heap α vs xs) (g2 : s.heap.get? b = some (tupObj ws)) (k2 : ¬ Own α b) (r2 : fL F s.heap α ws ys)
 (e : OW (ck (fits xs && fits ys) (V.d (.tuple (xs ++ ys)))) λ z => Q z σ) : aQ F.m A (binaryOp .Add (.ref a) (.ref b)) (QE F s α Q) E s :=
 e.ck λ f q => by
  have l1 := sz_le r (fG f)
  have l2 := sz_le r2 (and2 f)
  cases r with
  | nil =>
   exact concat_meets ⟨_, g, rfl⟩ ⟨_, g2, rfl⟩ noFill_tuple_add seq_tuple_add PySem.F.slot_tuple_add PySem.F.entry_tuple_add (PySem.F.args_tuple_add_2 _ _) (AutoSeq1.tuple___add___tuple_tuple_0 a #[] 0 b ws.toArray 0 rfl)
    ⟨g, g2, qe_here q S (.d (.tuple g2 k2 r2))⟩
  | @cons v0 x0 vs xs z r =>
   cases r2 with
   | nil =>
   exact concat_meets ⟨_, g, rfl⟩ ⟨_, g2, rfl⟩ noFill_tuple_add seq_tuple_add PySem.F.slot_tuple_add PySem.F.entry_tuple_add (PySem.F.args_tuple_add_2 _ _) (AutoSeq1.tuple___add___tuple_tuple_1 a (v0 :: vs).toArray 0 b #[] 0 (by simp) rfl)
    ⟨g, g2, qe_here q S (.d (.tuple g k (by rw [aq]; exact .cons z r)))⟩
   | @cons w0 y0 ws ys z2 r2 =>
    refine PySem.P.add_tuple g g2 (by simp) (by simp) ?_ (by rw [fS]; lia)
    rw [List.append_toArray]; exact qe_tup S (fw.append (.cons z r) (.cons z2 r2)) q
theorem op_bin (S : St F s.heap α σ) (o : Operator) (rx : RV F s.heap α x u) (ry : RV F s.heap α y v) (e : OW (binD σ o u v) λ z => Q z σ) : aQ F.m A (binaryOp o x y) (QE F s α Q) E s := by
 cases o with
 | Add =>
  exact OW.or e (λ e => two_int rx ry e λ a b t t' q => wpAny_add_int (qe_int S q)) λ e => OW.or e
   (λ e => dat_go rx e.bind λ d r e => dat_go ry e.bind λ d' r' e => tupd_go r e.bind λ a vs xs g k r e => tupd_go r' e.bind λ b ws ys g' k' r' e => op_add_tup S g k r g' k' r' e)
   λ e => lst_go S rx e.bind λ a vs n xs g r e => lst_go S ry e.bind λ b ws m ys g' r' e => op_add_list S g r g' r' e
 | Sub => exact two_int rx ry e λ a b t t' q => PySem.P.sub_int (qe_int S q)
 | Mult => exact two_int rx ry e λ a b t t' q => q.ck λ f q => mul_int (qe_int S q) (mul_ok (fG f))
 | Mod =>
  exact two_int rx ry e λ a b t t' q => q.ck λ f q => by
   have f := of_decide_eq_true f
   refine mod_int' (by lia) ?_
   rw [Int.fmod_eq_emod_of_nonneg _ (by lia)]; exact qe_int S q
 | FloorDiv =>
  exact two_int rx ry e λ a b t t' q => q.ck λ f q => by
   have f1 := of_decide_eq_true (fG f)
   have f2 := of_decide_eq_true (and2 f)
   refine floordiv_int (by lia) ?_ (.inl (PyProof.noPylong_small (by lia)))
   rw [Int.fdiv_eq_ediv_of_nonneg _ (by lia)]; exact qe_int S q
 | BitAnd =>
  exact two_int rx ry e λ a b t t' q => q.ck λ f q => by
   obtain rfl := of_decide_eq_true (fG f)
   obtain rfl := of_decide_eq_true (and2 f)
   exact and_int (show QE F s α Q (.int 0 s.toks) { s with toks := s.toks + 1 } from qe_int S q)
 | _ => exact False.elim e
end
mutual
theorem eqv_eqD : ∀ (x y : aA) (n m : Nat), okX x n = true -> okX y m = true -> aA.eqv x y = eqD x y
 | .none, y, _, _, _, hy => by cases y <;> first | rfl | exact aN hy
 | .bool _, y, _, _, hx, _ => aN hx
 | .dict _, y, _, _, hx, _ => aN hx
 | .int i, y, _, _, _, hy => by cases y <;> first | rfl | exact aN hy
 | .str i, y, _, _, _, hy => by cases y <;> first | rfl | exact aN hy
 | .tuple xs, y, n, m, hx, hy => by
  cases n with
  | zero => exact aN hx
  | succ n => cases y with
   | tuple ys => cases m with
    | zero => exact aN hy
    | succ m => exact eqv_eqDs xs ys n m hx hy
   | _ => rfl
 | .list xs, y, n, m, hx, hy => by
  cases n with
  | zero => exact aN hx
  | succ n => cases y with
   | list ys => cases m with
    | zero => exact aN hy
    | succ m => exact eqv_eqDs xs ys n m hx hy
   | _ => rfl
theorem eqv_eqDs : ∀ (xs ys : List aA) (n m : Nat), okXs xs n = true -> okXs ys m = true -> aA.eqvAll xs ys = eqDs xs ys
 | [], ys, _, _, _, _ => by cases ys <;> rfl
 | x :: xs, ys, n, m, hx, hy => by
  cases ys with
  | nil => rfl
  | cons y ys =>
   show and _ _ = and _ _
   exact congr (congrArg and (eqv_eqD x y n m (fG hx) (fG hy))) (eqv_eqDs xs ys n m (and2 hx) (and2 hy))
end
mutual
theorem eqD_iff : ∀ (x y : aA), eqD x y = true -> x = y
 | .none, y, h => by cases y <;> first | rfl | exact aN h
 | .bool a, y, h => by cases y <;> first | exact congrArg _ (eq_of_beq h) | exact aN h
 | .int a, y, h => by cases y <;> first | exact congrArg _ (of_decide_eq_true h) | exact aN h
 | .str a, y, h => by cases y <;> first | exact congrArg _ (of_decide_eq_true h) | exact aN h
 | .dict _, y, h => aN h
 | .tuple xs, y, h => by cases y <;> first | exact congrArg _ (eqDs_iff xs _ h) | exact aN h
 | .list xs, y, h => by cases y <;> first | exact congrArg _ (eqDs_iff xs _ h) | exact aN h
theorem eqDs_iff : ∀ (xs ys : List aA), eqDs xs ys = true -> xs = ys
 | [], ys, h => by cases ys <;> first | rfl | exact aN h
 | x :: xs, ys, h => by cases ys <;> first | exact congr (congrArg _ (eqD_iff x _ (fG h))) (eqDs_iff xs _ (and2 h)) | exact aN h
end
theorem fP {a b : Bool} (h : a = true) (k : b = true) : (a && b) = true := by subst h; exact k
mutual
theorem eqD_refl : ∀ (x : aA) (n : Nat), okX x n = true -> eqD x x = true
 | .none, _, _ => rfl
 | .bool _, _, h => aN h
 | .int _, _, _ => decide_eq_true rfl
 | .str _, _, _ => decide_eq_true rfl
 | .dict _, _, h => aN h
 | .tuple xs, n, h => by cases n <;> first | exact aN h | exact eqDs_refl xs _ h
 | .list xs, n, h => by cases n <;> first | exact aN h | exact eqDs_refl xs _ h
theorem eqDs_refl : ∀ (xs : List aA) (n : Nat), okXs xs n = true -> eqDs xs xs = true
 | [], _, _ => rfl
 | x :: xs, n, h => fP (eqD_refl x n (fG h)) (eqDs_refl xs n (and2 h))
end
mutual
theorem okY_okX : ∀ (x : aA) (n : Nat), okY x n = true -> okX x n = true
 | .none, _, h => aN h
 | .bool _, _, h => aN h
 | .int _, _, _ => rfl
 | .str _, _, h => h
 | .dict _, _, h => aN h
 | .list _, _, h => aN h
 | .tuple xs, n, h => by cases n <;> first | exact aN h | exact okYs_okXs xs _ h
theorem okYs_okXs : ∀ (xs : List aA) (n : Nat), okYs xs n = true -> okXs xs n = true
 | [], _, _ => rfl
 | x :: xs, n, h => fP (okY_okX x n (fG h)) (okYs_okXs xs n (and2 h))
end
theorem low_ok {x : Str} (h : low x = true) : aA.strOk x = true := by
 unfold aA.strOk
 unfold low at h
 rw [Array.all_eq_true'] at h ⊢
 exact λ c hc => decide_eq_true (by have := of_decide_eq_true (h c hc); lia)
mutual
theorem okX_lay : ∀ (x : aA) (n : Nat), okX x n = true -> x.canLay0 = true ∧ x.depth <= n
 | .none, _, _ => ⟨rfl, bA _⟩
 | .int _, _, _ => ⟨rfl, bA _⟩
 | .bool _, _, h => aN h
 | .dict _, _, h => aN h
 | .str x, _, h => ⟨low_ok h, bA _⟩
 | .tuple xs, n, h => by cases n <;> first | exact aN h | exact ⟨(okXs_lay xs _ h).1, bG (okXs_lay xs _ h).2⟩
 | .list xs, n, h => by cases n <;> first | exact aN h | exact ⟨(okXs_lay xs _ h).1, bG (okXs_lay xs _ h).2⟩
theorem okXs_lay : ∀ (xs : List aA) (n : Nat), okXs xs n = true -> aA.canLayAll0 xs = true ∧ aA.depthAll xs <= n
 | [], _, _ => ⟨rfl, bA _⟩
 | x :: xs, n, h => ⟨fP (okX_lay x n (fG h)).1 (okXs_lay xs n (and2 h)).1, Nat.max_le.mpr ⟨(okX_lay x n (fG h)).2, (okXs_lay xs n (and2 h)).2⟩⟩
end
mutual
theorem okY_dkey : ∀ (x : aA) (n : Nat), okY x n = true -> (W.ofPy x).isDKey = true ∧ (W.ofPy x).depth <= n
 | .none, _, h => aN h
 | .bool _, _, h => aN h
 | .int _, _, _ => ⟨rfl, bA _⟩
 | .str _, _, h => ⟨rfl, bA _⟩
 | .dict _, _, h => aN h
 | .list _, _, h => aN h
 | .tuple xs, n, h => by cases n <;> first | exact aN h | exact ⟨(okYs_dkey xs _ h).1, bG (okYs_dkey xs _ h).2⟩
theorem okYs_dkey : ∀ (xs : List aA) (n : Nat), okYs xs n = true -> W.WData.areDKeys (W.ofPys xs) = true ∧ W.WData.depthAll (W.ofPys xs) <= n
 | [], _, _ => ⟨rfl, bA _⟩
 | x :: xs, n, h => ⟨fP (okY_dkey x n (fG h)).1 (okYs_dkey xs n (and2 h)).1, Nat.max_le.mpr ⟨(okY_dkey x n (fG h)).2, (okYs_dkey xs n (and2 h)).2⟩⟩
end
section
variable {F : Fx} {h : Heap} {α β : Pl} {n : Nat} {v : aJ} {x y : aA}
theorem rd_reads (r : Rd F h α v x) : ∀ (n : Nat), okX x n = true -> ∃ as, Reads h v x as :=
 Rd.rec (motive_1 := λ v x _ => ∀ n, okX x n = true -> ∃ as, Reads h v x as) (motive_2 := λ vs xs _ => ∀ n, okXs xs n = true -> ∃ as, ReadsAll h vs xs as)
  (λ _ _ => ⟨_, .none⟩) (λ _ _ k => aN k) (λ i t _ _ => ⟨_, .int i t⟩) (λ x t _ _ => ⟨_, .str x t⟩)
  (λ g _ _ ih n k => by
   cases n with
   | zero => exact aN k
   | succ n => obtain ⟨as, q⟩ := ih n k; exact ⟨_, .tuple g rfl rfl q⟩)
  (λ g _ _ ih n k => by
   cases n with
   | zero => exact aN k
   | succ n => obtain ⟨as, q⟩ := ih n k; exact ⟨_, .list g rfl rfl q⟩)
  (λ _ _ _ _ _ _ _ _ _ _ k => aN k) (λ _ _ => ⟨_, .nil⟩)
  (λ _ _ ih ih2 n k => by obtain ⟨as, q⟩ := ih n (fG k); obtain ⟨bs, p⟩ := ih2 n (and2 k); exact ⟨_, .cons q p⟩) r
theorem rds_reads {vs : List aJ} {xs : List aA} (r : fL F h α vs xs) : ∀ (n : Nat), okXs xs n = true -> ∃ as, ReadsAll h vs xs as :=
 r.rec (λ _ _ => ⟨_, .nil⟩) λ a _ ih n k => by obtain ⟨as, q⟩ := rd_reads a n (fG k); obtain ⟨bs, p⟩ := ih n (and2 k); exact ⟨_, .cons q p⟩
theorem rd_well (r : Rd F h α v x) : ∀ (n : Nat), okY x n = true -> W.Well F.P h v (W.ofPy x) :=
 Rd.rec (motive_1 := λ v x _ => ∀ n, okY x n = true -> W.Well F.P h v (W.ofPy x)) (motive_2 := λ vs xs _ => ∀ n, okYs xs n = true -> W.WellAll F.P h vs (W.ofPys xs))
  (λ _ k => aN k) (λ _ _ k => aN k) (λ i t _ _ => .int i t) (λ x t _ _ => .str x t)
  (λ g _ _ ih n k => by
   cases n with
   | zero => exact aN k
   | succ n => exact .tuple g (ih n k))
  (λ _ _ _ _ _ k => aN k) (λ _ _ _ _ _ _ _ _ _ _ k => aN k) (λ _ _ => .nil) (λ _ _ ih ih2 n k => .cons (ih n (fG k)) (ih2 n (and2 k))) r
theorem tup_inj {vs ws : List aJ} (h : tupObj vs = tupObj ws) : vs = ws := congrArg (λ o : Obj => match o.data with | .seq d _ => d.toList | _ => []) h
theorem rd_inj (r : Rd F h α v x) : ∀ (n : Nat), okY x n = true -> ∀ y, Rd F h β v y -> x = y :=
 Rd.rec (motive_1 := λ v x _ => ∀ n, okY x n = true -> ∀ y, Rd F h β v y -> x = y) (motive_2 := λ vs xs _ => ∀ n, okYs xs n = true -> ∀ ys, fL F h β vs ys -> xs = ys)
  (λ _ k => aN k) (λ _ _ k => aN k) (λ i t _ _ y q => by cases q; rfl) (λ x t _ _ y q => by cases q; rfl)
  (λ g _ _ ih n k y q => by
   cases n with
   | zero => exact aN k
   | succ n =>
    cases q with
    | tuple g' _ q => exact congrArg _ (ih n k _ (tup_inj (aY (g.symm.trans g')) ▸ q))
    | list g' => exact absurd (congrArg Obj.cls (aY (g.symm.trans g'))) (by simp)
    | dict _ g' => exact absurd (congrArg Obj.cls (aY (g.symm.trans g'))) (by simp))
  (λ _ _ _ _ _ k => aN k) (λ _ _ _ _ _ _ _ _ _ _ k => aN k) (λ _ _ ys q => by cases q; rfl) (λ _ _ ih ih2 n k ys q => by
   cases q with
   | cons a b => exact congr (congrArg _ (ih n (fG k) _ a)) (ih2 n (and2 k) _ b)) r
end
section
variable {F : Fx} {A : bH} {E : aJ -> aK -> Prop} {s : aK} {α β : Pl}
theorem eqBool_rd {a b : aJ} {x y : aA} {Q : Bool -> aK -> Prop} (hu : A.units + 8 < cLine) (ra : Rd F s.heap α a x) (rb : Rd F s.heap β b y) (ox : okD 8 x = true) (oy : okD 8 y = true) (h : Q (eqD x y) s) :
 aQ F.m A (eqBool a b) Q E s := by
 obtain ⟨as, r1⟩ := rd_reads ra 8 ox
 obtain ⟨bs, r2⟩ := rd_reads rb 8 oy
 exact SeqAt.eqBoolOverData F.prog F.w A E s a b x y as bs Q r1 r2 (okX_lay x 8 ox).1 (okX_lay y 8 oy).1 (by have := (okX_lay x 8 ox).2; lia) ((eqv_eqD x y 8 8 ox oy).symm ▸ h)
theorem quiet_rd {v : aJ} {x : aA} (r : Rd F s.heap α v x) : ∀ (n : Nat), okY x n = true -> ∀ {Q : Bool -> aK -> Prop}, Q true s -> aQ F.m A (eqIsQuiet n v) Q E s :=
 Rd.rec (motive_1 := λ v x _ => ∀ n, okY x n = true -> ∀ {Q : Bool -> aK -> Prop}, Q true s -> aQ F.m A (eqIsQuiet n v) Q E s) (motive_2 := λ vs xs _ => ∀ n, okYs xs n = true -> ∀ v ∈ vs, ∀ {Q : Bool -> aK -> Prop}, Q true s -> aQ F.m A (eqIsQuiet n v) Q E s)
  (λ _ k => aN k) (λ _ _ k => aN k) (λ i t n _ Q h => by rw [eqIsQuiet_byValue _ rfl]; exact aI h) (λ x t n _ Q h => by rw [eqIsQuiet_byValue _ rfl]; exact aI h)
  (λ {a vs xs} g _ _ ih n k Q h => by
   cases n with
   | zero => exact aN k
   | succ n =>
    have hT : s.TypeIs (.ref a) "tuple" := ⟨_, g, rfl⟩
    unfold eqIsQuiet
    refine aC (wpAny_specialOf hT PySem.F.slot_tuple_eq.lookup (aC (wpAny_isInstance hT isSubtype_tuple_tuple (aC (wpAny_seqItems g rfl (aC ?_))))))
    show aQ _ _ (forIn vs.toArray _ _) _ _ s
    rw [<- Array.forIn_toList]
    refine cn _ (λ rest r s' => r.1 = none ∧ s' = s ∧ ∀ v ∈ rest, v ∈ vs) _ ?_ ?_ _ _ ⟨rfl, rfl, λ v hv => hv⟩
    · rintro v rest r s' ⟨hr, rfl, hall⟩
      exact aC (ih n k v (hall v (.head _)) (aI ⟨rfl, rfl, λ u hu' => hall u (.tail _ hu')⟩))
    · rintro ⟨r1, r2⟩ s' ⟨hr, rfl, _⟩
      cases hr
      exact aI h)
  (λ _ _ _ _ _ k => aN k) (λ _ _ _ _ _ _ _ _ _ _ k => aN k) (λ _ _ _ m => nomatch m) (λ _ _ ih ih2 n k v m => (aP.mp m).elim (λ e => e ▸ ih n (fG k)) λ m => ih2 n (and2 k) v m) r
theorem pyHash_rd {v : aJ} {x : aA} {Q : Int -> aK -> Prop} (hu : A.units + 8 < cLine) (o : okK 8 x = true) (r : Rd F s.heap α v x) (h : ∀ tk, Q (fT F.P x) { s with toks := tk }) : aQ F.m A (pyHash v) Q E s :=
 have q := okY_dkey x 8 o
 W.pyHash_laid _ v A s Q q.1 (rd_well r 8 o) (by have := q.2; lia) h
theorem eqD_true {x y : aA} (ox : okK 8 x = true) : eqD x y = true ↔ x = y := ⟨eqD_iff x y, λ e => e ▸ eqD_refl x 8 (okY_okX x 8 ox)⟩
structure KeyIs (F : Fx) (h : Heap) (α : Pl) (e : bC) (x : aA) : Prop where
 hash : e.hash = fT F.P x
 key : Rd F h α e.key x
 ok : okK 8 x = true
theorem fw.get2 {γ δ : Type} {R : γ -> δ -> Prop} {l : List γ} {m : List δ} (r : fw R l m) {i : Nat} {a : γ} (h : l[i]? = some a) : ∃ b, m[i]? = some b ∧ R a b := by
 have hl := r.length
 have hi : i < m.length := hl ▸ (aR.mp h).1
 obtain ⟨a', e, q⟩ := r.get (aO hi)
 rw [h] at e
 exact ⟨_, aO hi, aY e ▸ q⟩
theorem ans_iff {ks : List aA} {k : aA} (ha : Apart ks) (ok : okK 8 k = true) (i : Nat) : ks.findIdx? (λ y => eqD y k) = some i ↔ ks[i]? = some k := by
 constructor
 · intro h
   obtain ⟨hlt, hi, _⟩ := cp.mp h
   rw [aO hlt, eqD_iff _ _ hi]
 · intro h
   obtain ⟨hlt, hi⟩ := aR.mp h
   refine cp.mpr ⟨hlt, hi.symm ▸ (eqD_true ok).mpr rfl, λ j hj q => ?_⟩
   have := d0.mp ha j i (cU hj hlt) hlt hj
   rw [hi, q] at this; cases this
theorem findIdx_congr {γ δ : Type} {p : γ -> Bool} {q : δ -> Bool} {R : γ -> δ -> Prop} {l : List γ} {m : List δ} (r : fw R l m) (hp : ∀ a b, R a b -> p a = q b) : l.findIdx? p = m.findIdx? q :=
 r.rec rfl λ x _ ih => by rw [cO, cO, hp _ _ x, ih]
theorem if_neg_wp {γ : Type} {c : Prop} [Decidable c] {x y : Sem γ} {Q : γ -> aK -> Prop} (hc : ¬c) (h : aQ F.m A y Q E s) : aQ F.m A (if c then x else y) Q E s := by rw [if_neg hc]; exact h
theorem if_pos_wp {γ : Type} {c : Prop} [Decidable c] {x y : Sem γ} {Q : γ -> aK -> Prop} (hc : c) (h : aQ F.m A x Q E s) : aQ F.m A (if c then x else y) Q E s := by rw [if_pos hc]; exact h
theorem isStr_eqD {h : Heap} {v : aJ} {y : aA} {x : Str} (r : Rd F h α v y) : v.isStr x = eqD y (.str x) := by
 cases r <;> rfl
theorem dictFind_rd {d : av} {es : List bC} {n : Nat} {ks : List aA} {v : aJ} {k : aA} {Q : Option Nat -> aK -> Prop} (hu : A.units + 8 < cLine) (g : s.heap.get? d = some (fR es n)) (K : fw (KeyIs F s.heap α) es ks) (ap : Apart ks)
 (ok : okK 8 k = true) (r : Rd F s.heap β v k) (h : Q (ks.findIdx? λ y => eqD y k) s) : aQ F.m A (dictFind d v (fT F.P k)) Q E s := by
 have kk : ∀ i, ks[i]? = some k -> ∃ e : bC, es[i]? = some e ∧ e.hash = fT F.P k := λ i e => by obtain ⟨e, h1, h2⟩ := K.get e; exact ⟨e, h1, h2.hash⟩
 have ai := ans_iff ap ok
 have ko := okY_okX k 8 ok
 generalize hans : (ks.findIdx? λ y => eqD y k) = ans at h ai
 have key : ∀ e x, KeyIs F s.heap α e x -> ∀ Q : Bool -> aK -> Prop, Q (eqD x k) s -> aQ F.m A (eqBool e.key v) Q E s :=
  λ e x X Q hq => eqBool_rd hu X.key r (okY_okX x 8 X.ok) ko hq
 by_cases hcase : (∃ x t, v = .str x t) ∧ (es.toArray.all λ e => isExactStrKey e.key) = true
 · obtain ⟨⟨x, t, rfl⟩, hall⟩ := hcase
   refine KTD.kt_dictFind_strs g rfl hall ?_
   have : (es.toArray.findIdx? λ e => e.key.isStr x) = ans := by
    rw [List.findIdx?_toArray, <- hans]
    refine findIdx_congr K λ e y X => ?_
    cases r with
    | str x t => exact isStr_eqD X.key
   rw [this]; exact h
 have pm : ∀ i, i ∈ placesWithHash es.toArray.size (λ i => es.toArray[i]?.map bC.hash) (fT F.P k) ↔ ∃ e : bC, es[i]? = some e ∧ e.hash = fT F.P k := by
  intro i
  simp only [placesWithHash, aa, bF, bh, b7, beq_iff_eq, aZ]
  exact ⟨λ ⟨_, e, h1, h2⟩ => ⟨e, h1, h2⟩, λ ⟨e, h1, h2⟩ => ⟨(aR.mp h1).1, e, h1, h2⟩⟩
 have pa : ∀ i, ans = some i -> i ∈ placesWithHash es.toArray.size (λ i => es.toArray[i]?.map bC.hash) (fT F.P k) := λ i hi => (pm i).mpr (kk i ((ai i).mp hi))
 have pn : (placesWithHash es.toArray.size (λ i => es.toArray[i]?.map bC.hash) (fT F.P k)).Nodup := List.Pairwise.filter _ List.nodup_range
 generalize hpl : placesWithHash es.toArray.size (λ i => es.toArray[i]?.map bC.hash) (fT F.P k) = places at pm pa pn
 have look : ∀ {i : Nat} {rest : List Nat}, (∀ j ∈ i :: rest, j ∈ places) -> ∃ e x, es[i]? = some e ∧ e.hash = fT F.P k ∧ ks[i]? = some x ∧ KeyIs F s.heap α e x := λ hm => by
  obtain ⟨e, he, hh⟩ := (pm _).mp (hm _ (.head _))
  obtain ⟨x, hx, X⟩ := K.get2 he
  exact ⟨e, x, he, hh, hx, X⟩
 have not : ∀ {i j : Nat} {x : aA} {rest : List Nat}, ks[i]? = some x -> eqD x k = false -> j ∈ i :: rest -> ans = some j -> j ∈ rest := λ hx hq hj hA =>
  (aP.mp hj).elim (λ e => by subst e; rw [(ai _).mp hA] at hx; cases hx; rw [(eqD_true ok).mpr rfl] at hq; cases hq) id
 have walk : aQ F.m A (dictWalkPlain d v (fT F.P k) es.toArray places) Q E s := by
  unfold dictWalkPlain
  refine aC ?_
  refine cn _ (λ rest b s' => s' = s ∧ b.1 = none ∧ (∀ i ∈ rest, i ∈ places) ∧ ∀ i, ans = some i -> i ∈ rest) _ ?_ ?_ _ _ ⟨rfl, rfl, λ _ h => h, pa⟩
  · rintro i rest b s' ⟨rfl, hb, hm, hin⟩
    obtain ⟨e, x, he, hh, hx, X⟩ := look hm
    dsimp only
    rw [bF, he]
    refine if_pos_wp (beq_iff_eq.mpr hh) (aC (wpAny_dictEpoch g rfl (aC (key e x X _ (aC (wpAny_dictEpoch g rfl (if_neg_wp (by simp) ?_)))))))
    cases hq : eqD x k with
    | true =>
     rw [(ai i).mpr (eqD_iff x k hq ▸ hx)] at h
     exact aC (cW (aI (aI h)))
    | false => exact aC (cW (aI ⟨rfl, rfl, λ j hj => hm j (.tail _ hj), λ j hj => not hx hq (hin j hj) hj⟩))
  · rintro ⟨b1, b2⟩ s' ⟨rfl, hb, _, hin⟩
    cases hb
    cases ans with
    | none => exact aI h
    | some i => exact nomatch hin i rfl
 unfold dictFind
 refine bJ ?_
 refine aC (wpAny_dictEntries g rfl ?_)
 lift_lets
 extract_lets pl st h0 j1 j2 j3
 have hpl : pl = places := hpl
 have hst : ∀ u ∈ st, ∃ y, okK 8 y = true ∧ Rd F s.heap α u y := λ u hu => by
  obtain ⟨i, _, hi⟩ := List.mem_filterMap.mp hu
  rw [bF] at hi
  obtain ⟨e, he, rfl⟩ := aZ.mp hi
  obtain ⟨y, _, hy⟩ := K.get2 he
  exact ⟨y, hy.ok, hy.key⟩
 have tell : ∀ (Q : Bool -> aK -> Prop), Q false s -> aQ F.m A (tableMayTell v st) Q E s := by
  intro Q hq
  unfold tableMayTell
  refine b0 (λ _ => aI hq) (λ _ => ?_)
  refine aC (quiet_rd r 8 ok (if_neg_wp (by decide) (aC ?_)))
  refine cn _ (λ rest r s' => s' = s ∧ r = (none, ()) ∧ ∀ u ∈ rest, ∃ y, okK 8 y = true ∧ Rd F s.heap α u y) _ ?_ ?_ _ _ ⟨rfl, rfl, hst⟩
  · rintro x rest r s' ⟨rfl, rfl, hr⟩
    obtain ⟨y, oy, ry⟩ := hr x bu
    exact aC (quiet_rd ry 8 oy (if_neg_wp (by decide) (aI ⟨rfl, rfl, λ v hv => hr v (cV _ hv)⟩)))
  · rintro r s' ⟨rfl, rfl, _⟩
    exact aI hq
 have c1 : aQ F.m A (j1 false) Q E s := by
  refine if_neg_wp bO (aC ?_)
  refine cn _ (λ rest b s' => s' = s ∧ b.1 = none ∧ rest.Nodup ∧ (∀ i ∈ rest, i ∈ places) ∧ ((b.2 = none ∧ ∀ i, ans = some i -> i ∈ rest) ∨ (∃ i, b.2 = some i ∧ ans = some i ∧ i ∉ rest))) _ ?_ ?_ _ _ ⟨rfl, rfl, hpl ▸ pn, λ i h => hpl ▸ h, .inl ⟨rfl, λ i h => hpl ▸ pa i h⟩⟩
  · rintro i rest ⟨b1, hit⟩ s' ⟨rfl, rfl, nd, hm, hin⟩
    obtain ⟨e, x, he, hh, hx, X⟩ := look hm
    have nd := bq.mp nd
    have hm' : ∀ j ∈ rest, j ∈ places := λ j hj => hm j (.tail _ hj)
    dsimp only
    rw [bF, he]
    refine if_pos_wp (beq_iff_eq.mpr hh) (aC (wpAny_dictEpoch g rfl (aC (key e x X _ (aC (wpAny_dictEpoch g rfl (if_neg_wp (by simp) ?_)))))))
    cases hq : eqD x k with
    | true =>
     have hA : ans = some i := (ai i).mpr (eqD_iff x k hq ▸ hx)
     rcases hin with ⟨rfl, hin⟩ | ⟨j, h1, h2, h3⟩
     · refine if_pos_wp rfl (if_neg_wp (by decide) (aC (cW (b0 (λ _ => ?_) (λ _ => ?_)))))
       · rw [hA] at h; exact aI (aI h)
       · exact aI ⟨rfl, rfl, nd.2, hm', .inr ⟨i, rfl, hA, nd.1⟩⟩
     · rw [hA] at h2; cases h2; exact (h3 (.head _)).elim
    | false =>
     refine aC (cW (if_neg_wp bO (aI ⟨rfl, rfl, nd.2, hm', ?_⟩)))
     exact hin.imp (λ q => ⟨q.1, λ j hj => not hx hq (q.2 j hj) hj⟩) λ ⟨j, h1, h2, h3⟩ => ⟨j, h1, h2, λ hj => h3 (.tail _ hj)⟩
  · rintro ⟨b1, b2⟩ s' ⟨rfl, rfl, _, _, hin⟩
    have : ans = b2 := by
     rcases hin with ⟨h0, hin⟩ | ⟨j, h1, h2, h3⟩
     · rw [show b2 = none from h0]
       exact Option.eq_none_iff_forall_not_mem.mpr λ i hA => nomatch hin i hA
     · exact h2.trans (show b2 = some j from h1).symm
    exact aI (this ▸ h)
 have c2 : aQ F.m A (j2 ()) Q E s := b0 (λ _ => aC (aI c1)) (λ _ => aC (tell _ c1))
 have c3 : aQ F.m A (j3 ()) Q E s := by
  refine b0 (λ _ => hpl ▸ walk) (λ _ => ?_)
  split
  · refine b0 (λ hc => ?_) (λ _ => c2)
    rw [List.any_toArray, bW] at hc
    obtain ⟨e, he, hq⟩ := hc
    obtain ⟨x, _, X⟩ := K.mem he
    refine (bne_iff_ne.mp (and2 hq) ?_).elim
    have := X.key
    rw [beq_iff_eq.mp (fG hq)] at this
    rw [X.hash, rd_inj this 8 X.ok _ r]
  · exact c2
 split
 · exact b0 (λ h => (hcase ⟨⟨_, _, rfl⟩, h⟩).elim) λ _ => c3
 · exact c3
end
section
variable {F : Fx} {n : Nat} {A : bH} {E : aJ -> aK -> Prop} {σ : fE} {s : aK} {h : Heap} {α : Pl} {x y : aJ} {u v : V}
theorem distinct_iff : ∀ {xs : List aA}, distinct xs = true -> Apart xs
 | [], _ => .nil
 | x :: xs, h => .cons (λ y m => by
  have := fG h
  cases q : eqD x y with
  | false => rfl
  | true => rw [bW.mpr ⟨y, m, q⟩] at this; exact this.symm) (distinct_iff (and2 h))
theorem REs.keys {es : List bC} {kvs : List (aA × V)} (r : REs F h α es kvs) : fw (KeyIs F h α) es (kvs.map (·.1)) := r.rec .nil λ x _ ih => .cons ⟨x.hash, x.key, x.ok⟩ ih
theorem res_of : ∀ {es : List bC} {kvs : List (aA × aA)}, es.map (·.hash) = kvs.map (λ p => fT F.P p.1) -> fL F h α (es.map (·.key)) (kvs.map (·.1)) -> fL F h α (es.map (·.val)) (kvs.map (·.2)) -> (kvs.all λ p => okK 8 p.1) = true -> REs F h α es (kvs.map λ p => (p.1, .d p.2)) := by
 intro es
 induction es with
 | nil =>
  intro kvs e q r o
  cases kvs with
  | nil => exact .nil
  | cons p kvs => cases e
 | cons a es ih =>
  intro kvs e q r o
  cases kvs with
  | nil => cases e
  | cons p kvs => cases q with
   | cons q q2 => cases r with
    | cons r r2 => exact .cons ⟨fG o, (dH e).1, q, .d r⟩ (ih (dH e).2 q2 r2 (and2 o))
theorem dictd_go {d : aA} {R : List (aA × V) -> Prop} (r : Rd F h α x d) (e : OW (dictD d) λ kvs => OW (ck (keysD kvs) (kvs.map λ p => (p.1, V.d p.2))) R) {C : aJ -> Prop}
 (k : ∀ a es n kvs, h.get? a = some (fR es n) -> (a == eB) = false -> REs F h α es kvs -> Apart (kvs.map (·.1)) -> R kvs -> C (.ref a)) : C x := by
 cases r with
 | dict g0 g n m z q r => exact OW.ck e λ c w => k _ _ _ _ g m (res_of z q r (fG c)) (by rw [bE]; exact distinct_iff (and2 c)) w
 | _ => exact False.elim e
theorem asd_go (S : St F s.heap α σ) (r : RV F s.heap α x u) {R : aA -> Prop} (e : OW (asD σ u) R) {C : Prop} (k : ∀ d, (∀ n, okX d n = true -> ∃ as, Reads s.heap x d as) -> R d -> C) : C := by
 cases r with
 | d q => exact k _ (λ n => rd_reads q n) e
 | l g => exact cell_go S g (OW.bind e) λ c _ z e => cL_go z e.map λ vs n xs _ g q w => k _ (λ m o => by
  cases m with
  | zero => exact aN o
  | succ m =>
   obtain ⟨as, q⟩ := rds_reads q m o
   exact ⟨_, .list g rfl rfl q⟩) w
@[elab_as_elim] theorem dict_go (W : Wo F) (S : St F h α σ) {R : List (aA × V) -> Prop} (r : RV F h α x u) (e : OW (dictOf σ u) R) {C : aJ -> Prop}
 (k : ∀ a es n kvs, h.get? a = some (fR es n) -> (a == eB) = false -> REs F h α es kvs -> Apart (kvs.map (·.1)) -> R kvs -> C (.ref a)) : C x := by
 cases r with
 | d q => exact dictd_go q (OW.bind e) k
 | @l i p g =>
  exact cell_go S g (OW.bind e) λ c gc z e => by
   cases z with
   | dict e2 g2 r2 ap =>
    refine k _ _ _ _ g2 (beq_eq_false_iff_ne.mpr λ q => ?_) r2 ap e
    obtain ⟨o, ho⟩ := W.sys
    have := S.no _ (.at g (.inl rfl))
    rw [q, ho] at this; cases this
   | _ => exact False.elim e
theorem look_some {k : aA} {v : V} : ∀ {kvs : List (aA × V)}, look k kvs = some v -> ∃ i p, (kvs.map (·.1)).findIdx? (λ y => eqD y k) = some i ∧ kvs[i]? = some (p, v)
 | [], h => nomatch h
 | p :: r, h => by
  rw [ba, cO]
  unfold look at h
  cases q : eqD p.1 k with
  | true => rw [q] at h; cases h; exact ⟨0, p.1, rfl, rfl⟩
  | false => rw [q] at h; obtain ⟨i, p', h1, h2⟩ := look_some h; exact ⟨i + 1, p', by rw [h1]; rfl, h2⟩
theorem look_none {k : aA} : ∀ {kvs : List (aA × V)}, look k kvs = none -> (kvs.map (·.1)).findIdx? (λ y => eqD y k) = none
 | [], h => rfl
 | p :: r, h => by
  rw [ba, cO]
  unfold look at h
  cases q : eqD p.1 k with
  | true => rw [q] at h; cases h
  | false => rw [q] at h; rw [look_none h]; rfl
theorem dictGet_rd {d : av} {es : List bC} {n : Nat} {kvs : List (aA × V)} {v : aJ} {k : aA} {Q : Option aJ -> aK -> Prop} (hu : A.units + 8 < cLine) (g : s.heap.get? d = some (fR es n))
 (R : REs F s.heap α es kvs) (ap : Apart (kvs.map (·.1))) (ok : okK 8 k = true) (r : Rd F s.heap α v k)
 (h1 : ∀ u hv tk, look k kvs = some u -> RV F s.heap α hv u -> Q (some hv) { s with toks := tk }) (h2 : ∀ tk, look k kvs = none -> Q none { s with toks := tk }) :
 aQ F.m A (dictGet d v) Q E s := by
 unfold dictGet
 try with_reducible refine bJ ?_
 refine aC (pyHash_rd hu ok r λ tk => aC ?_)
 refine dictFind_rd (s := { s with toks := tk }) hu g R.keys ap ok r ?_
 cases hl : look k kvs with
 | none => rw [look_none hl]; exact aI (h2 tk hl)
 | some u =>
  obtain ⟨i, p, h3, h4⟩ := look_some hl
  obtain ⟨e, h5, h6⟩ := R.get h4
  rw [h3]
  refine aC (wpAny_dictEntries (s := { s with toks := tk }) g rfl (aI ?_))
  rw [bF, h5]
  exact h1 u _ tk hl h6.val
end
section
variable {F : Fx} {n : Nat} {A : bH} {E : aJ -> aK -> Prop} {σ : fE} {s : aK} {h : Heap} {α : Pl} {x y : aJ} {u v : V} {Q : Ps}
theorem Rm.line (R : Rm n A) : A.units + 100 < cLine := by have := R.2.2; show A.units + 100 < 9900; lia
theorem emp_eq {vs : List aJ} {xs : List aA} (r : fL F h α vs xs) : (!vs.toArray.isEmpty) = !xs.isEmpty := by
 cases r with
 | nil => rfl
 | cons => simp
theorem truth_list {a : av} {vs : List aJ} {m : Nat} {xs : List aA} (g : s.heap.get? a = some (fV vs m)) (r : fL F s.heap α vs xs) {R : Bool -> Prop} (e : OW (ck (fits xs) (!xs.isEmpty)) R) {Q : Bool -> aK -> Prop} (h : ∀ b tk, R b -> Q b { s with toks := tk }) : aQ F.m A (truthy (.ref a)) Q E s :=
 e.ck λ f q => by
  have l := sz_le r f
  exact wpAny_truthy_list (isList_of g) (by lia) (emp_eq r ▸ h _ _ q)
theorem op_truth (S : St F s.heap α σ) (r : RV F s.heap α x u) {R : Bool -> Prop} (e : OW (truth σ u) R) {Q : Bool -> aK -> Prop} (h : ∀ b tk, R b -> Q b { s with toks := tk }) : aQ F.m A (truthy x) Q E s := by
 cases r with
 | d q => cases q with
  | none => exact truthy_none (h _ s.toks e)
  | bool b => exact wpAny_truthy_bool (h _ s.toks e)
  | int i t =>
   refine truthy_int ?_
   rw [show (i != 0) = decide (i ≠ 0) by by_cases hi : i = 0 <;> simp [hi]]
   exact h _ s.toks e
  | tuple g n q =>
   refine OW.ck e λ f w => ?_
   have l := sz_le q f
   exact truthy_tuple (isTup_of g) (by lia) (emp_eq q ▸ h _ _ w)
  | list g n q => exact truth_list g q e h
  | _ => exact False.elim e
 | l g => exact cell_go S g (OW.bind e) λ c _ z e => cL_go z e.bind λ vs n xs _ g q w => truth_list g q w h
theorem isNone_iff {d : aA} (r : Rd F h α x d) : (x == aJ.none) = isNoneD d ∧ plainIs x .none = true := by
 cases r <;> constructor <;> first | rfl | (exact beq_eq_false_iff_ne.mpr (λ e => nomatch e))
theorem none_of {d : aA} (r : Rd F h α x d) (e : isNoneD d = true) : x = .none := by
 cases r <;> first | rfl | exact aN e
theorem any_eqv {x : aA} (hx : okD 8 x = true) : ∀ {xs : List aA}, okXs xs 8 = true -> (xs.any λ y => aA.eqv y x) = xs.any λ y => eqD y x
 | [], _ => rfl
 | y :: xs, h => by
  show or _ _ = or _ _
  exact congr (congrArg or (eqv_eqD y x 8 8 (fG h) hx)) (any_eqv hx (and2 h))
theorem in_dict {a : av} {es : List bC} {m : Nat} {kvs : List (aA × V)} {v : aJ} {k : aA} {Q : Bool -> aK -> Prop} (hu : A.units + 50 < cLine) (g : s.heap.get? a = some (fR es m)) (hm : (a == eB) = false)
 (R : REs F s.heap α es kvs) (ap : Apart (kvs.map (·.1))) (ok : okK 8 k = true) (r : Rd F s.heap α v k) (h : ∀ tk, Q (look k kvs).isSome { s with toks := tk }) :
 aQ F.m A (contains (.ref a) v) Q E s := by
 have hT : s.TypeIs (.ref a) "dict" := ⟨_, g, rfl⟩
 unfold contains
 try with_reducible refine bJ ?_
 refine aC (wpAny_specialOf hT slot_dict_contains.lookup ?_)
 show aQ _ _ (if (some (aJ.builtin "dict.__contains__") == some aJ.none) = true then _ else _) _ E s
 refine if_neg_wp (by rw [beq_builtin_none]; exact bO) (aC (wpAny_callSpecialUnlessNone?_slot (name := aD "__contains__") hT slot_dict_contains
  (bf slot_dict_contains hT entry_dict_contains ?_ (args_dict_contains _ _))))
 show aQ _ _ (dictGet a v >>= _) _ _ s
 refine aC (dictGet_rd (by show A.in1.units + 8 < cLine; have : A.in1.units = A.units + 1 := rfl; lia) g R ap ok r (λ u hv tk hl _ => ?_) λ tk hn => ?_)
 · have q := h tk
   rw [hl] at q
   exact aI ⟨_, rfl, wpAny_truthy_bool q⟩
 · have q := h tk
   rw [hn] at q
   exact aC (wpAny_pendingKey_other hm (aI ⟨_, rfl, wpAny_truthy_bool q⟩))
noncomputable def inOp : Bool -> CmpOp
 | true => .In
 | false => .NotIn
theorem op_in (W : Wo F) (hA : A.units + 100 < cLine) (S : St F s.heap α σ) (rx : RV F s.heap α x u) (ry : RV F s.heap α y v) {R : Bool -> Prop} (e : OW (inD σ u v) R) (b : Bool) {Q : aJ -> aK -> Prop} (h : ∀ c tk, R c -> Q (.bool (cond b c (!c))) { s with toks := tk }) :
 aQ F.m A (compareOp (inOp b) x y) Q E s :=
 dat_go rx (OW.bind e) λ k rk e => OW.or e
  (λ e => by
   refine seq_go S ry e.bind (λ a vs n xs g q e => ?_) λ a vs xs g _ q e => ?_
   all_goals
    refine e.ck λ f w => ?_
    have lk := okX_lay k 8 (fG f)
    have lxs := okXs_lay xs 8 (and2 f)
    obtain ⟨as, q2⟩ := rds_reads q 8 (and2 f)
    obtain ⟨bs, rk⟩ := rd_reads rk 8 (fG f)
    have hd : A.units + 1 + min (aA.depthAll xs) k.depth < cLine := by have := lk.2; lia
    have z := any_eqv (fG f) (and2 f)
   · have rc : Reads s.heap (.ref a) (.list xs) _ := .list g rfl rfl q2
     cases b
     · exact SeqAt.notIn_list_reads rc rk lxs.1 lk.1 hd (z.symm ▸ h _ s.toks w)
     · exact SeqAt.in_list_reads rc rk lxs.1 lk.1 hd (z.symm ▸ h _ s.toks w)
   · have rc : Reads s.heap (.ref a) (.tuple xs) _ := .tuple g rfl rfl q2
     cases b
     · exact SeqAt.notIn_tuple_reads rc rk lxs.1 lk.1 hd (z.symm ▸ h _ s.toks w)
     · exact SeqAt.in_tuple_reads rc rk lxs.1 lk.1 hd (z.symm ▸ h _ s.toks w))
  λ e => dict_go W S ry e.bind λ a es n kvs g hm R ap e => e.ck λ ok w => by
   have z : aQ F.m A (contains (.ref a) x) (λ c s' => ∃ tk, c = (look k kvs).isSome ∧ s' = { s with toks := tk }) E s := in_dict (by lia) g hm R ap ok rk λ tk => ⟨tk, rfl, rfl⟩
   cases b
   · show aQ _ _ (do return .bool (!(<- contains (.ref a) x))) Q E s
     exact aC (ah z (λ c s' ⟨tk, e1, e2⟩ => aI (e1 ▸ e2 ▸ h _ tk w)) λ _ _ e => e)
   · show aQ _ _ (do return .bool (<- contains (.ref a) x)) Q E s
     exact aC (ah z (λ c s' ⟨tk, e1, e2⟩ => aI (e1 ▸ e2 ▸ h _ tk w)) λ _ _ e => e)
end
section
variable {F : Fx} {n : Nat} {A : bH} {E : aJ -> aK -> Prop} {σ : fE} {s : aK} {h : Heap} {α : Pl} {x y : aJ} {u v : V} {Q : Ps}
theorem op_eq (hA : A.units + 100 < cLine) (S : St F s.heap α σ) (rx : RV F s.heap α x u) (ry : RV F s.heap α y v) {R : Bool -> Prop} (e : OW (eqOf σ u v) R) {C : Prop}
 (k : ∀ c, (∀ {Q : aJ -> aK -> Prop}, Q (.bool c) s -> aQ F.m A (compareOp .Eq x y) Q E s) -> (∀ {Q : aJ -> aK -> Prop}, Q (.bool !c) s -> aQ F.m A (compareOp .NotEq x y) Q E s) -> R c -> C) : C :=
 asd_go S rx (OW.bind e) λ p r1 e => asd_go S ry e.bind λ q r2 e => e.ck λ f w => by
  obtain ⟨as, r1⟩ := r1 8 (fG f)
  obtain ⟨bs, r2⟩ := r2 8 (and2 f)
  have l1 := okX_lay p 8 (fG f)
  have l2 := okX_lay q 8 (and2 f)
  have hu : A.units + min p.depth q.depth < cLine := by have := l1.2; lia
  have z := (eqv_eqD p q 8 8 (fG f) (and2 f)).symm
  exact k _ (λ h => SeqAt.compareEq_reads r1 r2 l1.1 l2.1 hu (z ▸ h)) (λ h => SeqAt.compareNe_reads r1 r2 l1.1 l2.1 hu (z ▸ h)) w
theorem qe_bool (S : St F s.heap α σ) {c : Bool} {tk : Nat} (q : Q (.d (.bool c)) σ) : QE F s α Q (.bool c) { s with toks := tk } := qe_tok q S (.d (.bool _))
theorem op_cmp (W : Wo F) (hA : A.units + 100 < cLine) (S : St F s.heap α σ) (o : CmpOp) (rx : RV F s.heap α x u) (ry : RV F s.heap α y v) (e : OW (cmpD σ o u v) λ c => Q (.d (.bool c)) σ) :
 aQ F.m A (compareOp o x y) (QE F s α Q) E s := by
 cases o with
 | Eq => exact op_eq hA S rx ry e λ c k _ q => k (qe_bool (tk := s.toks) S q)
 | NotEq => exact op_eq hA S rx ry (OW.map e) λ c _ k q => k (qe_bool (tk := s.toks) S q)
 | Lt => exact two_int rx ry e λ a b t t' q => PyProof.Rows.lt_int (qe_bool (tk := s.toks) S q)
 | LtE => exact two_int rx ry e λ a b t t' q => PyProof.Rows.le_int (qe_bool (tk := s.toks) S q)
 | Gt => exact two_int rx ry e λ a b t t' q => PyProof.Rows.gt_int (qe_bool (tk := s.toks) S q)
 | GtE => exact two_int rx ry e λ a b t t' q => PyProof.Rows.ge_int (qe_bool (tk := s.toks) S q)
 | Is =>
  exact dat_go rx (OW.bind e) λ d r e => dat_go ry e.bind λ d' r' e => e.ck λ f q => by
   rw [none_of r' f]
   exact wpAny_is_plain (isNone_iff r).2 ((isNone_iff r).1 ▸ qe_bool (tk := s.toks) S q)
 | IsNot =>
  exact dat_go rx (OW.bind e) λ d r e => dat_go ry e.bind λ d' r' e => e.ck λ f q => by
   rw [none_of r' f]
   exact wpAny_isNot_plain (isNone_iff r).2 ((isNone_iff r).1 ▸ qe_bool (tk := s.toks) S q)
 | In => exact op_in W hA S rx ry e true λ c tk q => qe_bool S q
 | NotIn => exact op_in W hA S rx ry (OW.map e) false λ c tk q => qe_bool S q
theorem idx_some {i : Int} {n j : Nat} (h : idx i n = some j) : seqIndex? i n = some j ∧ j < n ∧ -(n : Int) <= i ∧ i < n ∧ (0 <= i -> j = i.toNat) ∧ (i < 0 -> j = (i + n).toNat) := by
 have key : -(n : Int) <= i ∧ i < n ∧ (0 <= i -> j = i.toNat) ∧ (i < 0 -> j = (i + n).toNat) := by
  unfold idx at h
  by_cases h0 : 0 <= i
  · rw [if_pos h0] at h
    by_cases h1 : i < n
    · rw [if_pos h1] at h; cases h; exact ⟨by lia, h1, λ _ => rfl, λ _ => by lia⟩
    · rw [if_neg h1] at h; cases h
  · rw [if_neg h0] at h
    by_cases h1 : 0 <= i + n
    · rw [if_pos h1] at h; cases h; exact ⟨by lia, by lia, λ _ => by lia, λ _ => rfl⟩
    · rw [if_neg h1] at h; cases h
 obtain ⟨a, b, c, d⟩ := key
 have hj : j < n := by
  by_cases h0 : 0 <= i
  · rw [c h0]; lia
  · rw [d (by lia)]; lia
 refine ⟨?_, hj, a, b, c, d⟩
 unfold seqIndex?
 dsimp only
 by_cases h0 : 0 <= i
 · rw [if_neg (show ¬ i < 0 by lia), if_pos (by simp only [bl, decide_eq_true_eq]; lia), c h0]
 · rw [if_pos (show i < 0 by lia), if_pos (by simp only [bl, decide_eq_true_eq]; lia), d (by lia)]
theorem op_sub (W : Wo F) (hA : A.units + 100 < cLine) (S : St F s.heap α σ) {value slice : Expr} (hs : ∀ o i, subscripted slice false o i = operate [o, i] (getItem o i)) (ro : RV F s.heap α x u) (ri : RV F s.heap α y v) (e : OW (subD σ u v) λ z => Q z σ) :
 aQ F.m A (subscriptTail value slice x y) (QE F s α Q) E s :=
 dat_go ri (OW.bind e) λ k rk e => OW.or e
  (λ e => by
   have go : ∀ {xs : List aA} {vs : List aJ} {C : aJ -> Prop}, fL F s.heap α vs xs -> OW (atD xs k) (λ z => Q z σ) -> (∀ (j : Int) t m hv, fits xs = true -> idx j vs.length = some m -> vs[m]? = some hv -> QE F s α Q hv s -> C (.int j t)) -> C y := λ {xs vs C} q e c =>
    intd_go (C := C) rk (OW.bind e) λ j t e => e.bind.ck λ f e => OW.get e.bind λ m hm e => OW.get e.map λ d hd w => by
     obtain ⟨hv, h1, h2⟩ := q.get hd
     exact c j t m hv f (q.length ▸ hm) h1 (qe_here w S (.d h2))
   refine seq_go S ro e.bind (λ a vs n xs g q e => ?_) λ a vs xs g _ q e => ?_
   · refine go (C := λ y => aQ F.m A (subscriptTail value slice (.ref a) y) (QE F s α Q) E s) q e λ j t m hv f hm h1 z => tail_any (T := "list") ⟨_, g, rfl⟩ slot_list_getitem.lookup ?_ (hs _ _)
     have l := ln_le q f
     obtain ⟨q1, q2, q3, q4, q5, q6⟩ := idx_some hm
     by_cases h0 : 0 <= j
     · exact wpAny_getItem_list (isList_of g) h0 (by lia) (by rw [bF, <- q5 h0]; exact h1) z
     · exact wpAny_getItem_list_neg (isList_of g) (by lia) (by rw [aa]; lia) (by lia) (by rw [bF, aa, <- q6 (by lia)]; exact h1) z
   · refine go (C := λ y => aQ F.m A (subscriptTail value slice (.ref a) y) (QE F s α Q) E s) q e λ j t m hv f hm h1 z => tail_any (T := "tuple") ⟨_, g, rfl⟩ slot_tuple_getitem.lookup ?_ (hs _ _)
     have l := ln_le q f
     obtain ⟨q1, q2, q3, q4, q5, q6⟩ := idx_some hm
     exact PyProof.Rows.getItem_tuple (isTup_of g) (by lia) (by lia) q1 (by rw [bF]; exact h1) z)
  λ e => dict_go W S ro e.bind λ a es n kvs g hm R ap e => e.bind.ck λ ok e => by
   have hT : s.TypeIs (.ref a) "dict" := ⟨_, g, rfl⟩
   refine tail_any hT slot_dict_getitem.lookup ?_ (hs _ _)
   unfold getItem
   try with_reducible refine bJ ?_
   refine aC (wpAny_sequenceKey hT (by decide) (aC (dL (name := aD "__getitem__") hT slot_dict_getitem
    (bf slot_dict_getitem hT entry_dict_getitem ?_ (args_dict_getitem _ _)))))
   show aQ _ _ (dictGet a y >>= _) _ _ s
   refine aC (dictGet_rd (by show A.in1.units + 8 < cLine; have : A.in1.units = A.units + 1 := rfl; lia) g R ap ok rk (λ u hv tk hl r => ?_) λ tk hn => ?_)
   · rw [hl] at e
     exact aI ⟨hv, rfl, aI (qe_tok e S r)⟩
   · rw [hn] at e; exact False.elim e
end
section
variable {F : Fx} {n : Nat} {A : bH} {E : aJ -> aK -> Prop} {σ : fE} {s : aK} {h : Heap} {α : Pl} {x : aJ} {u v : V} {Q : Ps}
noncomputable def cutV (vs : List aJ) (lo hi : Option Int) : List aJ := (vs.take (eI hi vs.length)).drop (br lo vs.length)
theorem rd_cut {vs : List aJ} {xs : List aA} (r : fL F h α vs xs) (lo hi : Option Int) : fL F h α (cutV vs lo hi) (cut xs lo hi) := by
 have e : cut xs lo hi = (xs.take (eI hi xs.length)).drop (br lo xs.length) := by cases lo <;> cases hi <;> rfl
 rw [e, cutV, r.length]
 exact (r.take _).drop _
theorem pick_eq (vs : List aJ) (lo hi : Option Int) : slicePick vs.toArray lo hi none = (cutV vs lo hi).toArray := by
 rw [W.kmk_pick_nat _ (W.kms_bounds lo hi vs.toArray.size)]
 unfold cutV
 rw [List.drop_take]
 simp
theorem lo_le (v : Option Int) (n : Nat) : br v n <= n := by
 cases v with
 | none => exact bA _
 | some i => unfold br; split <;> lia
theorem hi_le (v : Option Int) (n : Nat) : eI v n <= n := by
 cases v with
 | none => exact aW _
 | some i => unfold eI; split <;> lia
theorem adj1 (i : Int) (n : Nat) : (if i < 0 then max (i + (n : Int)) 0 else min i (n : Int)) = ((if i < 0 then n - (-i).toNat else min i.toNat n : Nat) : Int) := by
 split <;> lia
theorem adjust_eq (lo hi : Option Int) (n : Nat) : eb lo hi 1 (n : Int) = (((br lo n : Nat) : Int), ((eI hi n : Nat) : Int)) := by
 have h1 : ¬ ((1 : Int) < 0) := by lia
 unfold eb br eI
 cases lo <;> cases hi <;> simp only [h1, if_false, adj1] <;> rfl
theorem places_eq (a b : Nat) : dQ (a : Int) (b : Int) 1 = b - a := by
 unfold dQ
 have h1 : (1 : Int) > 0 := by lia
 simp only [h1, if_true, Int.ediv_one]
 split <;> lia
theorem slicePart_of {v : aJ} {k : Option Int} (p : IsPart v k) {Q : Option Int -> aK -> Prop} (h : Q k s) : aQ F.m A (bb.Slice.slicePartIndex v) Q E s := by
 cases p with
 | none => exact slicePart_none h
 | int i t => exact slicePart_int h
theorem sliceApplied_of {sl : av} {vl vu : aJ} {lo hi : Option Int} {n : Nat} {Q : Int × Int × Nat -> aK -> Prop} (hs : s.heap.IsSliceOf sl vl vu .none) (pl : IsPart vl lo) (pu : IsPart vu hi)
 (h : Q (((br lo n : Nat) : Int), 1, eI hi n - br lo n) s) : aQ F.m A (bb.Slice.sliceApplied (.ref sl) (pure (n : Int))) Q E s := by
 obtain ⟨os, hos, hcs, hds⟩ := id hs
 unfold bb.Slice.sliceApplied bb.Slice.sliceFields
 refine aC (aC (wpAny_field hos hds (x := vl) rfl (aC (wpAny_field hos hds (x := vu) rfl (aC (wpAny_field hos hds (x := .none) rfl (aI ?_)))))))
 refine aC (slicePart_none ?_)
 show aQ _ _ (if ((1 : Int) == 0) = true then _ else _) _ _ s
 rw [if_neg (by decide)]
 refine aC (slicePart_of pl (aC (slicePart_of pu (aC (aI ?_)))))
 show aQ _ _ (match eb lo hi 1 (n : Int) with | (lo, hi) => pure (lo, (1 : Int), dQ lo hi 1)) _ _ s
 rw [adjust_eq]
 show aQ _ _ (pure (((br lo n : Nat) : Int), (1 : Int), dQ ((br lo n : Nat) : Int) ((eI hi n : Nat) : Int) 1)) _ _ s
 rw [places_eq]
 exact aI h
theorem pickT_eq (vs : List aJ) (lo hi : Option Int) : ((cN (eI hi vs.length - br lo vs.length)).filterMap λ (k : Nat) => vs.toArray[(((br lo vs.length : Nat) : Int) + (k : Int) * 1).toNat]?).toArray = (cutV vs lo hi).toArray := by
 have e : (λ (k : Nat) => vs.toArray[(((br lo vs.length : Nat) : Int) + (k : Int) * 1).toNat]?) = λ k => vs.toArray[br lo vs.length + k]? := by
  funext k
  have : (((br lo vs.length : Nat) : Int) + (k : Int) * 1).toNat = br lo vs.length + k := by lia
  rw [this]
 rw [e]
 have := pick_run vs.toArray (br lo vs.length) (eI hi vs.length - br lo vs.length)
 rw [List.filterMap_map] at this
 have e2 : ((λ x => vs.toArray[x]?) ∘ λ x => br lo vs.length + x) = λ k => vs.toArray[br lo vs.length + k]? := rfl
 rw [e2] at this
 rw [this]
 unfold cutV
 rw [List.drop_take]
theorem getItem_tuple_slice {t sl : av} {vs : List aJ} {vl vu : aJ} {lo hi : Option Int} {Q : aJ -> aK -> Prop} (ht : IsTup s.heap t vs.toArray) (hs : s.heap.IsSliceOf sl vl vu .none) (pl : IsPart vl lo) (pu : IsPart vu hi) (hsz : vs.length <= sizeLine)
 (h1 : cutV vs lo hi = vs -> Q (.ref t) s) (h : Q (.ref s.heap.objs.size) { s with heap := s.heap.push (tupObj (cutV vs lo hi)) }) :
 aQ F.m A (getItem (.ref t) (.ref sl)) Q E s := by
 have hdrop : sizeOk (.seq (cutV vs lo hi).toArray) := by
  show (cutV vs lo hi).toArray.size <= sizeLine
  rw [aa, cutV, cg, dq]
  lia
 obtain ⟨os, hos, hcs, hds⟩ := id hs
 have hTs : s.TypeIs (.ref sl) "slice" := ⟨os, hos, hcs⟩
 unfold getItem
 try with_reducible refine bJ ?_
 first | refine aC (aI ?_) | skip
 refine aC (wpAny_sequenceKey ht.typeIs (by decide) ?_)
 refine aC (dL (name := aD "__getitem__") ht.typeIs slot_tuple_getitem
  (bf slot_tuple_getitem ht.typeIs entry_tuple_getitem ?_ (args_tuple_getitem _ _)))
 show aQ _ _ (bb.Tuple.tupleItemsOf (.ref t) >>= _) _ _ s
 refine aC (tupleItemsOf_ ht ?_)
 refine aC (eY hTs ?_)
 rw [if_pos (by decide)]
 rw [show vs.toArray.size = vs.length from aa ..]
 refine aC (sliceApplied_of hs pl pu ?_)
 show aQ _ _ (if (((br lo vs.length : Nat) : Int) == 0 && (1 : Int) == 1 && (eI hi vs.length - br lo vs.length) == vs.length) = true then _ else _) _ _ s
 refine b0 (λ hc => ?_) (λ hc => ?_)
 · have h0 : cutV vs lo hi = vs := by
    have q1 := lo_le lo vs.length
    have q2 := hi_le hi vs.length
    simp only [bl, beq_iff_eq] at hc
    unfold cutV
    rw [show br lo vs.length = 0 by lia, show eI hi vs.length = vs.length by lia]
    simp
   refine aC (m := bb.Tuple.tupleIsExact _) (aC (eY ht.typeIs (aI ?_)))
   rw [if_pos (by decide)]
   exact aC (cW (aI ⟨_, rfl, aI (h1 h0)⟩))
 · rw [pickT_eq]
   first
    | exact aC (m := ef _) (ca (aI ⟨_, rfl, aI h⟩) hdrop)
    | exact aC (m := ef _) (ca (aC (aI (aI ⟨_, rfl, aI h⟩))) hdrop)
    | exact aC (aC (m := ef _) (ca (aI (aI ⟨_, rfl, aI h⟩)) hdrop))
noncomputable abbrev slcObj (vl vu : aJ) : Obj := { cls := .type "slice", data := .fields #[vl, vu, .none] }
theorem op_slc (S : St F s.heap α σ) {value : Expr} {lower upper : Option Expr} {p : Pos} {vl vu : aJ} {lo hi : Option Int} (ro : RV F s.heap α x u) (pl : IsPart vl lo) (pu : IsPart vu hi) (e : OW (slcD σ u lo hi) λ z => Q z σ) :
 aQ F.m A (subscriptTail value (.Slice lower upper none p) x (.ref s.heap.objs.size)) (QE F s α Q) E { s with heap := s.heap.push (slcObj vl vu) } := by
 have k1 : ∀ (x : Obj) b o, s.heap.get? b = some o -> ((s.heap.push (slcObj vl vu)).push x).get? b = some o := λ x b o e => ay _ (fU _ b o e)
 have hsl : (s.heap.push (slcObj vl vu)).IsSliceOf s.heap.objs.size vl vu .none := Heap.IsSliceOf.new ..
 have nown : ¬ Own α (s.heap.push (slcObj vl vu)).objs.size := λ q => S.live _ q (ax (by rw [Heap.size_push]; exact eM _))
 refine OW.or e (λ e => dat_go ro e.bind λ d r e => tupd_go r e.bind λ a vs xs g m q e => e.ck λ f w => ?_) λ e => lst_go S ro e.bind λ a vs n xs g q e => e.ck λ f w => ?_
 · have l := ln_le q f
   refine tail_any (T := "tuple") ⟨_, fU _ _ _ g, rfl⟩ slot_tuple_getitem.lookup (getItem_tuple_slice (s := { s with heap := s.heap.push (slcObj vl vu) }) (isTup_of (fU _ _ _ g)) hsl pl pu (by rw [fS]; lia) (λ hw => ?_) ?_) rfl
   · exact qe_new w S (fU _) rfl rfl (.d (.tuple (fU _ _ _ g) m ((hw ▸ rd_cut q lo hi : fL F s.heap α vs _).mv (mv_new (s' := { s with heap := s.heap.push (slcObj vl vu) }) (fU _)))))
   · exact qe_new w S (k1 _) rfl rfl (.d (.tuple (ao _ rfl) nown ((rd_cut q lo hi).mv (mv_new (s' := { s with heap := (s.heap.push (slcObj vl vu)).push (tupObj (cutV vs lo hi)) }) (k1 _)))))
 · have l := ln_le q f
   refine tail_any (T := "list") ⟨_, fU _ _ _ g, rfl⟩ slot_list_getitem.lookup (wpAny_getItem_list_slice (s := { s with heap := s.heap.push (slcObj vl vu) }) (isList_of (fU _ _ _ g)) hsl pl pu .none (by simp) ?_ (by rw [aa, fS]; lia)) rfl
   rw [pick_eq]
   exact qe_new w S (k1 _) rfl rfl (.d (.list (ao _ rfl) nown ((rd_cut q lo hi).mv (mv_new (s' := { s with heap := (s.heap.push (slcObj vl vu)).push (fV (cutV vs lo hi) 0) }) (k1 _)))))
end
section
variable {F : Fx} {n : Nat} {A : bH} {E : aJ -> aK -> Prop} {σ : fE} {s : aK} {h : Heap} {α : Pl} {x y : aJ} {u v : V} {Q : Ps}
theorem bi_len (S : St F s.heap α σ) (r : RV F s.heap α x u) (e : OW (biD σ 0 [u]) λ z => Q z σ) : aQ F.m A (call (.builtin "len") [x]) (QE F s α Q) E s := by
 refine seq_go S r (OW.bind e) (λ a vs n xs g q e => e.ck λ f w => ?_) λ a vs xs g _ q e => e.ck λ f w => ?_
 all_goals
  have l := ln_le q f
  have z : ∀ tk, QE F s α Q (.int (vs.toArray.size : Nat) tk) { s with toks := tk + 1 } := λ tk => by rw [aa, q.length]; exact qe_int S w
 · exact call_len_list (isList_of g) (by rw [aa]; lia) (z _)
 · exact PyProof.Rows.len_tuple (isTup_of g) (by rw [aa]; lia) (z _)
theorem bi_tuple (S : St F s.heap α σ) (r : RV F s.heap α x u) (e : OW (biD σ 1 [u]) λ z => Q z σ) : aQ F.m A (call (.type "tuple") [x]) (QE F s α Q) E s := by
 refine seq_go S r (OW.bind e) (λ a vs n xs g q e => e.ck λ f w => ?_) λ a vs xs g m q e => e.ck λ f w => ?_
 · have l := ln_le q f
   refine call_tuple_list (isList_of g) (λ h' k => ?_) (by rw [aa, fS]; lia)
   have k' : ∀ b o, s.heap.get? b = some o -> (h'.push (tupObj vs)).get? b = some o := λ b o e => ay _ (k b o e)
   exact qe_new w S k' rfl rfl (.d (.tuple (ao _ rfl) (λ q => nomatch ((ax (aW _)).symm.trans (k _ _ (Classical.choose_spec (Option.ne_none_iff_exists'.mp (S.live _ q)))))) (q.mv (mv_new (s' := { s with heap := h'.push (tupObj vs) }) k'))))
 · exact call_tuple_same (isTup_of g) (qe_here w S (.d (.tuple g m q)))
theorem bi_list (S : St F s.heap α σ) (r : RV F s.heap α x u) (e : OW (biD σ 2 [u]) λ z => Q z σ) : aQ F.m A (call (.type "list") [x]) (QE F s α Q) E s := by
 have fin : ∀ {vs : List aJ} {xs : List aA}, fL F s.heap α vs xs -> Q (.d (.list xs)) σ -> ∀ h' c', (∀ b o', s.heap.get? b = some o' -> h'.get? b = some o') -> h'.get? s.heap.objs.size = some { cls := .type "list", dict := none, data := .seq vs.toArray c', slots := #[] } -> QE F s α Q (.ref s.heap.objs.size) { s with heap := h' } :=
  λ q w h' c' k g' => qe_new w S k rfl rfl (.d (.list g' (not_own S) (q.mv (mv_new (s' := { s with heap := h' }) k))))
 refine seq_go S r (OW.bind e) (λ a vs n xs g q e => e.ck λ f w => ?_) λ a vs xs g _ q e => e.ck λ f w => ?_
 · exact call_list_seq a (.inl rfl) g rfl rfl (fin q w) (by have l := ln_le q f; rw [aa, fS]; lia)
 · exact call_list_seq a (.inr rfl) g rfl rfl (fin q w) (by have l := ln_le q f; rw [aa, fS]; lia)
theorem foldl_max (r : List Int) : ∀ x : Int, (r.foldl max x) ∈ x :: r ∧ ∀ a ∈ x :: r, a <= r.foldl max x := by
 induction r with
 | nil => intro x; simp
 | cons y r ih =>
  intro x
  obtain ⟨h1, h2⟩ := ih (max x y)
  rw [eh]
  refine ⟨?_, λ a ha => ?_⟩
  · rcases aP.mp h1 with h | h
    · rw [h]; rcases Int.le_total x y with q | q
      · rw [Int.max_eq_right q]; simp
      · rw [Int.max_eq_left q]; simp
    · exact cV _ (cV _ h)
  · have hm := h2 (max x y) (bu ..)
    rcases aP.mp ha with rfl | ha
    · lia
    · rcases aP.mp ha with rfl | ha
      · lia
      · exact h2 a (cV _ ha)
theorem anyd_go {y : aA} {xs : List aA} {R : Bool -> Prop} (e : OW (anyD (y :: xs)) R) {C : Prop} (k : OW (truthD y) (λ c => cond c (R true) (OW (anyD xs) R)) -> C) : C := by
 refine k ?_
 have e := OW.bind e
 cases q : truthD y with
 | none => rw [q] at e; exact e
 | some c => rw [q] at e; cases c <;> exact e
theorem any_loop (hh : A.handled = none) {s₀ : aK} (S : St F s₀.heap α σ) {I : av} {vs : List aJ} {fp wr : List av} {St' : Nat -> Heap -> Prop} (W : Walks F.prog F.w A.in1 I fp wr vs.length (λ i v => vs[i]? = some v) St') (hw : ∀ b o, s₀.heap.get? b = some o -> b ∉ wr) {R : Result -> aK -> Prop} {P : Bool -> Prop} :
 ∀ (k i : Nat) (xs : List aA) (s : aK), vs.length - i = k -> i <= vs.length -> fL F s₀.heap α (vs.drop i) xs -> OW (anyD xs) P -> St' i s.heap -> (∀ b o, s₀.heap.get? b = some o -> s.heap.get? b = some o) ->
 (∀ b h' tk, P b -> (∀ b o, s₀.heap.get? b = some o -> h'.get? b = some o) -> R (.ok (.ret (.bool b))) { s with heap := h', toks := tk }) -> eO F.m A (.builtin "any.loop" ⟨[.ref I], []⟩) R s := by
 intro k
 induction k with
 | zero =>
  intro i xs s hk hi r e hst k0 hR
  obtain rfl : i = vs.length := by lia
  rw [List.drop_length] at r
  cases r
  refine dB PySem.F.entry_any_loop ?_
  rw [cR eJ _]
  show aQ _ A.in1 (pyNext (.ref I) >>= _) _ _ s
  exact aC (W.done s _ _ hst λ h' tk hk' => aC (cW (aI (hR _ h' tk e λ b o e => hk' b o (hw b o e) (k0 b o e)))))
 | succ k ih =>
  intro i xs s hk hi r e hst k0 hR
  have hlt : i < vs.length := by lia
  rw [List.drop_eq_getElem_cons hlt] at r
  cases r with
  | cons q r =>
   refine anyd_go e λ e => dB PySem.F.entry_any_loop ?_
   rw [cR eJ _]
   show aQ _ A.in1 (pyNext (.ref I) >>= _) _ _ s
   refine aC (W.item i s _ _ hlt hst λ v h' tk hP hst' hk' => ?_)
   have k1 : ∀ b o, s₀.heap.get? b = some o -> h'.get? b = some o := λ b o e => hk' b o (hw b o e) (k0 b o e)
   rw [aO hlt, cK] at hP
   rw [<- hP]
   have hk1 : Hk Nil s₀.heap h' := λ a o _ => k1 a o
   refine aC (bJ (op_truth (s := { s with heap := h', toks := tk }) (S.off .nil hk1) (.d (q.mv (Off.nil.mv hk1))) e λ c tk2 e => aC (wpAny_letGo ?_)))
   cases c with
   | false => exact aI ⟨eN eJ _, ih (i + 1) _ _ (by lia) hlt r e hst' k1 λ b h'' tk'' => hR b h'' tk''⟩
   | true => exact aC (cW (aI (hR _ h' tk2 e k1)))
theorem qe_grown {v : V} {h' : Heap} {tk : Tok} (q : Q v σ) (S : St F s.heap α σ) (k : ∀ b o, s.heap.get? b = some o -> h'.get? b = some o) (r : RV F h' α x v) : QE F s α Q x { s with heap := h', toks := tk } :=
 qe_new (s' := { s with heap := h', toks := tk }) q S k rfl rfl r
theorem bi_any (hh : A.handled = none) (S : St F s.heap α σ) (r : RV F s.heap α x u) (e : OW (biD σ 5 [u]) λ z => Q z σ) : aQ F.m A (call (.builtin "any") [x]) (QE F s α Q) E s :=
 lst_go S r (OW.bind e) λ a vs m xs g q e => by
  have hlt : a < s.heap.objs.size := cu g
  refine call_function_tree PySem.F.kind_any PySem.F.plain_any PySem.F.entry_any (PySem.F.args_any1 _) ?_
  show aQ _ A.in1 (pyIter (.ref a) >>= _) _ _ s
  refine aC (wpAny_pyIter_list (isList_of g) (aI ⟨eN eJ _, ?_⟩))
  have W := Walks.list (prog := F.prog) (w := F.w) (A := A.in1) hh s.heap.objs.size a (dy hlt) vs.toArray
  simp only [aa, bF] at W
  refine any_loop hh S W (λ b o e h => ?_) vs.length 0 xs _ (by lia) (bA _) q e.map ⟨⟨_, ao _ rfl, rfl, rfl⟩, (isList_of g).push _⟩ (fU _) λ b h' tk w k => qe_grown w S k (.d (.bool _))
  cases aM.mp h
  exact be _ (cu e)
theorem ints_go {vs : List aJ} {xs : List aA} (r : fL F h α vs xs) : ∀ {R : List Int -> Prop}, OW (ints? xs) R -> ∃ is, IntsAre vs is ∧ R is :=
 r.rec (motive := λ vs xs _ => ∀ {R : List Int -> Prop}, OW (ints? xs) R -> ∃ is, IntsAre vs is ∧ R is) (λ e => ⟨_, .nil, e⟩) λ {v x l m} a _ ih R e => by
  cases a with
  | int i t => obtain ⟨is, q, w⟩ := ih (OW.map e); exact ⟨_, .cons _ _ q, w⟩
  | _ => exact False.elim e
theorem bi_max (hh : A.handled = none) (S : St F s.heap α σ) (r : RV F s.heap α x u) (e : OW (biD σ 6 [u]) λ z => Q z σ) : aQ F.m A (call (.builtin "max") [x]) (QE F s α Q) E s :=
 lst_go S r (OW.bind e) λ a vs m xs g q e => by
  obtain ⟨is, I, e⟩ := ints_go q e.bind
  refine e.bind.ck λ _ e => ?_
  cases is with
  | nil => exact False.elim e
  | cons y is =>
   obtain ⟨xs2, e2⟩ := I.allInts.items
   have hns : y :: is = xs2.toList.map (·.1) := by rw [<- I.numsOf, <- nums_intItems, <- e2]
   have hl := isList_of g
   rw [e2] at hl
   have hsz : 0 < xs2.size := by
    have : (y :: is).length = xs2.size := by rw [hns, aG, ac]
    rw [<- this]; exact Nat.succ_pos _
   refine max_intList hh hl hsz λ v h' tk hv hk => ?_
   obtain ⟨t, rfl⟩ := intItems_at hv
   obtain ⟨h1, h2⟩ := argBest_gt (numAt xs2) (xs2.size - 1)
   obtain ⟨p1, p2⟩ := foldl_max is y
   generalize argBest (λ i j => decide (numAt xs2 i > numAt xs2 j)) (xs2.size - 1) = j at h1 h2
   have h3 : numAt xs2 j ∈ y :: is := by
    rw [hns, numAt_eq]; exact getD_mem (by rw [aG, ac]; lia)
   have h4 : ∀ a ∈ y :: is, a <= numAt xs2 j := by
    intro a ha
    rw [hns] at ha
    obtain ⟨j, hj, rfl⟩ := mem_getD ha
    rw [aG, ac] at hj
    rw [<- numAt_eq]; exact h2 j (by lia)
   rw [show numAt xs2 j = is.foldl max y from Int.le_antisymm (p2 _ h3) (h4 _ p1)]
   exact qe_grown (v := num _) e S hk (.d (.int _ _))
theorem bi_min (hh : A.handled = none) (S : St F s.heap α σ) (r : RV F s.heap α x u) (r2 : RV F s.heap α y v) (e : OW (biD σ 7 [u, v]) λ z => Q z σ) : aQ F.m A (call (.builtin "min") [x, y]) (QE F s α Q) E s :=
 two_int r r2 e λ a b t t' e => min_two_ints hh λ h' tk hk => by
  replace e : Q (num (min a b)) σ := e
  by_cases hc : b < a
  · rw [if_pos hc]
    have z : min a b = b := by lia
    rw [z] at e
    exact qe_grown (v := num b) e S hk (.d (.int _ _))
  · rw [if_neg hc]
    have z : min a b = a := by lia
    rw [z] at e
    exact qe_grown (v := num a) e S hk (.d (.int _ _))
end
section
variable {F : Fx} {O : Orc} {n : Nat} {Γ : Cx} {A : bH} {E : aJ -> aK -> Prop} {env : Env} {ρ : Loc} {σ : fE} {s s' : aK} {α : Pl} {Q : Ps} {a b : AX}
theorem se_const {c : Const} {k : Nat} {p : Pos} : SE F O n Γ (.const c k p) := by
 intro ρ σ A env s α E Q e t
 show aQ F.m A (constValue env c) _ E s
 cases c with
 | none => exact aI (qe_here e t.st (.d .none))
 | bool b => exact aI (qe_here e t.st (.d (.bool b)))
 | int i => exact wpAny_mkInt (qe_tok e t.st (.d (.int _ _)))
 | str x => exact wpAny_mkText (qe_tok e t.st (.d (.str _ _)))
 | _ => exact False.elim e
theorem se_neg {i : Int} {k : Nat} {q p : Pos} : SE F O n Γ (.neg i k q p) := λ ρ σ A env s α E Q e t =>
 PySem.wpAny_UnaryOp (show aQ F.m A (constValue env (.int i)) _ E s from wpAny_mkInt (PyProof.Rows.neg_int (qe_tok (tk := s.toks + 1 + 1) e t.st (.d (.int _ _)))))
theorem load_var (N : En F s.heap α Γ env ρ) {x : Str} {i : Nat} {v : V} (hx : Γ.vars.lookup x = some i) (hi : lget ρ i = some v) {Q : aJ -> aK -> Prop} (h : ∀ hv, RV F s.heap α hv v -> Q hv s) : aQ F.m A (loadName env x) Q E s := by
 obtain ⟨hv, a, r⟩ := N.val x i v hx hi
 cases a with
 | loc k hm e => exact wpAny_loadName_local N.fix.kind k hm e (h hv r)
 | cell k hc e => exact wpAny_loadName_cell N.fix.kind k hc e (h hv r)
theorem slot_go {x : Str} {i : Nat} (h : Γ.slot x = some i) : Γ.vars.lookup x = some i ∧ (x == ("__debug__" : Str)) = false := by
 unfold Cx.slot at h
 obtain ⟨j, h1, h2⟩ := bK.mp h
 unfold ck at h2
 cases q : x != dbg with
 | false => rw [q] at h2; cases h2
 | true => rw [q] at h2; cases h2; exact ⟨h1, by simpa [dbg] using q⟩
theorem load_glob (W : Wo F) (t : At F A n Γ env ρ s α σ) {x : Str} {p : Pos} (hx : Γ.isGlob x = true) {v : aJ} (hv : F.mg x = some v) {Q : aJ -> aK -> Prop} (h : Q v s) : aQ F.m A (eval (.Name x p) env) Q E s :=
 Name_function_global t.en.fix.kind (t.en.fix.gk x hx) (loadGlobal_global (by rw [t.en.fix.globals]; exact W.g.keeps t.st.base) hv h) (by simpa [dbg] using and2 hx)
theorem load_bi (W : Wo F) (t : At F A n Γ env ρ s α σ) {x : Str} {p : Pos} (hx : Γ.isBi F.T x = true) {v : aJ} (hb : biVal.lookup x = some v) {Q : aJ -> aK -> Prop} (h : Q v s) : aQ F.m A (eval (.Name x p) env) Q E s :=
 have q := W.bi x v hb (Option.isNone_iff_eq_none.mp (and2 hx))
 Name_function_global t.en.fix.kind (t.en.fix.gk x (fG hx)) (loadGlobal_builtin (by rw [t.en.fix.globals]; exact W.g.keeps t.st.base) q.1 (by rw [t.en.fix.builtins]; exact W.b.keeps t.st.base) q.2 h) (by simpa [dbg] using and2 (fG hx))
theorem se_name (W : Wo F) {x : Str} {p : Pos} : SE F O n Γ (.name x p) := λ ρ σ A env s α E Q e t =>
 opx_go (M := λ z => evE O z ρ σ Q) e (λ i hi e => OW.get e λ v hv e => wpAny_Name (load_var t.en (slot_go hi).1 hv λ hv r => qe_here e t.st r) (slot_go hi).2) λ _ e =>
  ifx_go (M := λ z => evE O z ρ σ Q) e id λ hg e => opx_go (M := λ z => evE O z ρ σ Q) e (λ d hd e => by
   cases d with
   | data d =>
    obtain ⟨hv, h1, h2⟩ := W.data x d hd
    exact load_glob W t hg h1 (qe_here e t.st (.d (rd_base t.st h2)))
   | _ => exact False.elim e) λ _ e => False.elim e
theorem se_bin {o : Operator} {p : Pos} (ha : SE F O n Γ a) (hb : SE F O n Γ b) : SE F O n Γ (.bin o a b p) := λ ρ σ A env s α E Q e t =>
 wpAny_BinOp (ha.go e t λ x σ1 hv s1 α1 e f1 t1 r1 => hb.go e t1 λ y σ2 hw s2 α2 e f2 t2 r2 => wp_trans (f1.tr f2) (op_bin t2.st o (r1.mv (f2.m0 t2.st.base)) r2 e.map))
theorem noMark {o : CmpOp} : ∀ b : AX, behindInMarks o (de b) = false := by
 intro b
 cases b <;> rfl
theorem cmp_go (W : Wo F) {o : CmpOp} (ha : SE F O n Γ a) (hb : SE F O n Γ b) (t : At F A n Γ env ρ s α σ) {p : Pos} (e : evE O (er F.T (.cmp o a b p) Γ) ρ σ Q) :
 aQ F.m A (eval (de a) env) (λ x s₁ => aQ F.m A (eval (de b) env) (λ y s₂ => aQ F.m A (compareOp o x y) (QE F s α Q) E s₂) E s₁) E s :=
 ha.go e t λ x σ1 hv s1 α1 e f1 t1 r1 => hb.go e t1 λ y σ2 hw s2 α2 e f2 t2 r2 => wp_trans (f1.tr f2) (op_cmp W t2.rm.line t2.st o (r1.mv (f2.m0 t2.st.base)) r2 e.map)
theorem se_cmp (W : Wo F) {o : CmpOp} {p : Pos} (ha : SE F O n Γ a) (hb : SE F O n Γ b) : SE F O n Γ (.cmp o a b p) := λ ρ σ A env s α E Q e t =>
 wpAny_Compare1 (cmp_go W ha hb t e) (noMark b)
theorem qe_truth {x : aJ} {P : Bool -> fE -> Prop} (hQ : ∀ v σ, Q v σ -> kT P v σ) (q : QE F s α Q x s') : aQ F.m A (truthy x) (QB F s α P) E s' :=
 q.casesOn λ q f S r => op_truth S r (hQ _ _ q) λ b tk q => ⟨q, f.tr .tok, S⟩
theorem st_plain (h : SE F O n Γ a) (hi : ∀ env whole, isTrue (de a) env whole = (do let v <- whole; standAt (de a).pos; holding [v] (truthy v))) : ST_ F O n Γ a := λ ρ σ A env s α E Q P e hQ t =>
 isTrue_plain (ah (h ρ σ A env s α E _ e t) (λ _ _ q => qe_truth hQ q) λ _ _ x => x) (hi _ _)
theorem st_cmp (W : Wo F) {o : CmpOp} {p : Pos} (ha : SE F O n Γ a) (hb : SE F O n Γ b) : ST_ F O n Γ (.cmp o a b p) := by
 intro ρ σ A env s α E Q P e hQ t
 show aQ F.m A (isTrue (.Compare (de a) [o] [de b] p) env (eval (.Compare (de a) [o] [de b] p) env)) _ E s
 rw [isTrue_Compare1, markedBehindIn_of_false (noMark b)]
 exact aC (ah (cmp_go W ha hb t (p := p) e) (λ a s1 h => aC (bJ (ah h (λ b s2 h => aC (dg (aC (wpAny_operating (ah h (λ c s3 h => bJ (qe_truth hQ h)) λ _ _ x => x))))) λ _ _ x => x))) λ _ _ x => x)
theorem se_not {p : Pos} (h : SE F O n Γ a) : SE F O n Γ (.not a p) := λ ρ σ A env s α E Q e t =>
 wpAny_UnaryOp (h.go e t λ v σ1 hv s1 α1 e f1 t1 r1 => not_of (op_truth t1.st r1 e λ b tk q => ⟨q, f1.tr .tok, t1.st, .d (.bool _)⟩))
theorem st_not {p : Pos} (h : ST_ F O n Γ a) : ST_ F O n Γ (.not a p) := λ ρ σ A env s α E Q P e hQ t =>
 isTrue_not (ah (h ρ σ A env s α E _ (λ b σ => P (!b) σ) e (λ v σ => OW.mono λ b q => hQ _ _ q) t) (λ b s1 q => q.casesOn λ e f S => ⟨e, f, S⟩) λ _ _ x => x)
end
section
variable {F : Fx} {O : Orc} {n : Nat} {Γ : Cx} {A : bH} {E : aJ -> aK -> Prop} {env : Env} {ρ : Loc} {σ : fE} {s : aK} {α : Pl} {Q : Ps} {a b c : AX}
theorem wpb_trans {m : Sem Bool} {Q : Bool -> fE -> Prop} {s₁ : aK} {α₁ : Pl} (x : Af F Nil s s₁ α α₁) (q : aQ F.m A m (QB F s₁ α₁ Q) E s₁) : aQ F.m A m (QB F s α Q) E s₁ :=
 ah q (λ _ _ q => q.casesOn λ q f S => ⟨q, x.tr f, S⟩) λ _ _ x => x
theorem At.tok {tk : Nat} (t : At F A n Γ env ρ s α σ) : At F A n Γ env ρ { s with toks := tk } α σ := ⟨t.rm, t.en, t.st⟩
theorem se_and {p : Pos} : ∀ (es : List AX), (∀ e ∈ es, SE F O n Γ e) -> SE F O n Γ (.bool .And es p)
 | [], _ => λ _ _ _ _ _ _ _ _ e _ => False.elim e
 | [a], h => λ ρ σ A env s α E Q e t => BoolOp_one (h a (.head _) ρ σ A env s α E Q e t)
 | a :: b :: r, h => λ ρ σ A env s α E Q e t => BoolOp_and ((h a (.head _)).go e t λ v σ1 hv s1 α1 e f1 t1 r1 => op_truth t1.st r1 e λ c tk e => by
  cases c with
  | false => exact ⟨e, f1.tr .tok, t1.st, r1⟩
  | true => exact wp_trans (f1.tr .tok) (se_and (p := p) (b :: r) (λ e m => h e (.tail _ m)) ρ σ1 A env _ α1 E Q e t1.tok))
theorem se_or {p : Pos} : ∀ (es : List AX), (∀ e ∈ es, SE F O n Γ e) -> SE F O n Γ (.bool .Or es p)
 | [], _ => λ _ _ _ _ _ _ _ _ e _ => False.elim e
 | [a], h => λ ρ σ A env s α E Q e t => BoolOp_one (h a (.head _) ρ σ A env s α E Q e t)
 | a :: b :: r, h => λ ρ σ A env s α E Q e t => BoolOp_or ((h a (.head _)).go e t λ v σ1 hv s1 α1 e f1 t1 r1 => op_truth t1.st r1 e λ c tk e => by
  cases c with
  | true => exact ⟨e, f1.tr .tok, t1.st, r1⟩
  | false => exact wp_trans (f1.tr .tok) (se_or (p := p) (b :: r) (λ e m => h e (.tail _ m)) ρ σ1 A env _ α1 E Q e t1.tok))
theorem se_ite {p : Pos} (hc : ST_ F O n Γ c) (ha : SE F O n Γ a) (hb : SE F O n Γ b) : SE F O n Γ (.ite c a b p) := λ ρ σ A env s α E Q e t =>
 wpAny_IfExp (hc.go e t λ z σ1 s1 α1 e f1 t1 => by
  cases z with
  | true => exact wp_trans f1 (ha ρ σ1 A env s1 α1 E Q e t1)
  | false => exact wp_trans f1 (hb ρ σ1 A env s1 α1 E Q e t1))
theorem st_ite {p : Pos} (hc : ST_ F O n Γ c) (ha : ST_ F O n Γ a) (hb : ST_ F O n Γ b) : ST_ F O n Γ (.ite c a b p) := λ ρ σ A env s α E Q P e hQ t =>
 isTrue_IfExp (hc.go e t λ z σ1 s1 α1 e f1 t1 => by
  cases z with
  | true => exact wpb_trans f1 (ha ρ σ1 A env s1 α1 E Q P e hQ t1)
  | false => exact wpb_trans f1 (hb ρ σ1 A env s1 α1 E Q P e hQ t1))
theorem st_and {p : Pos} : ∀ (es : List AX), (∀ e ∈ es, ST_ F O n Γ e) -> ST_ F O n Γ (.bool .And es p)
 | [], _ => λ _ _ _ _ _ _ _ _ _ e _ _ => False.elim e
 | [a], h => λ ρ σ A env s α E Q P e hQ t => isTrue_and (ah (h a (.head _) ρ σ A env s α E Q P e hQ t) (λ c s1 q => by
  cases c with
  | false => exact q
  | true => exact isTrue_and_nil q) λ _ _ x => x)
 | a :: b :: r, h => λ ρ σ A env s α E Q P e hQ t => isTrue_and (ah (h a (.head _) ρ σ A env s α E _ (λ c σ => cond c (evE O (er F.T (.bool .And (b :: r) p) Γ) ρ σ Q) (P false σ)) e (λ v σ h => OW.and_ h (hQ v σ)) t) (λ c s1 q => q.casesOn λ e f1 S1 => by
  cases c with
  | false => exact ⟨e, f1, S1⟩
  | true => exact wpb_trans f1 (st_and (p := p) (b :: r) (λ e m => h e (.tail _ m)) ρ _ A env s1 _ E Q P e hQ (t.after f1 S1))) λ _ _ x => x)
theorem st_or {p : Pos} : ∀ (es : List AX), (∀ e ∈ es, ST_ F O n Γ e) -> ST_ F O n Γ (.bool .Or es p)
 | [], _ => λ _ _ _ _ _ _ _ _ _ e _ _ => False.elim e
 | [a], h => λ ρ σ A env s α E Q P e hQ t => isTrue_or (ah (h a (.head _) ρ σ A env s α E Q P e hQ t) (λ c s1 q => by
  cases c with
  | true => exact q
  | false => exact isTrue_or_nil q) λ _ _ x => x)
 | a :: b :: r, h => λ ρ σ A env s α E Q P e hQ t => isTrue_or (ah (h a (.head _) ρ σ A env s α E _ (λ c σ => cond c (P true σ) (evE O (er F.T (.bool .Or (b :: r) p) Γ) ρ σ Q)) e (λ v σ h => OW.or_ h (hQ v σ)) t) (λ c s1 q => q.casesOn λ e f1 S1 => by
  cases c with
  | true => exact ⟨e, f1, S1⟩
  | false => exact wpb_trans f1 (st_or (p := p) (b :: r) (λ e m => h e (.tail _ m)) ρ _ A env s1 _ E Q P e hQ (t.after f1 S1))) λ _ _ x => x)
end
section
variable {F : Fx} {O : Orc} {n : Nat} {Γ : Cx} {A : bH} {E : aJ -> aK -> Prop} {env : Env} {ρ : Loc} {σ : fE} {s : aK} {h : Heap} {α : Pl} {Q : Ps} {a b c : AX}
theorem starEach_cons (a : AX) (r : List Expr) : dC (de a :: r) env = (false, eval (de a) env) :: dC r env := by
 cases a <;> rfl
theorem ses_go {p : Pos} : ∀ (es : List AX) (σ : fE) (s : aK) (α : Pl) (Q : List V -> fE -> Prop) (R : List aJ -> aK -> Prop), (∀ e ∈ es, SE F O n Γ e) -> sEs (evL O (ers F.T es Γ)) ρ σ Q -> At F A n Γ env ρ s α σ ->
 (∀ vs σ1 hvs s1 α1, Q vs σ1 -> Af F Nil s s1 α α1 -> At F A n Γ env ρ s1 α1 σ1 -> RVs F s1.heap α1 hvs vs -> vs.length = es.length -> R hvs s1) -> aQ F.m A (spliced (backTo p (dC (des es) env))) R E s
 | [], σ, s, α, Q, R, h, e, t, k => spliced_nil (k [] σ [] s α e .refl t .nil rfl)
 | a :: r, σ, s, α, Q, R, h, e, t, k => by
  show aQ F.m A (spliced (backTo p (dC (de a :: des r) env))) R E s
  rw [starEach_cons]
  exact spliced_cons ((h a (.head _)).go e t λ v σ1 hv s1 α1 e f1 t1 r1 => ses_go r σ1 s1 α1 _ _ (λ e m => h e (.tail _ m)) e t1 λ vs σ2 hvs s2 α2 e f2 t2 r2 l => k (v :: vs) σ2 (hv :: hvs) s2 α2 e (f1.tr f2) t2 (.cons (r1.mv (f2.m0 t2.st.base)) r2) (congrArg eE l))
theorem datas_go {hvs : List aJ} {vs : List V} (r : RVs F h α hvs vs) : ∀ {R : List aA -> Prop}, OW (datas? vs) R -> ∃ xs, fL F h α hvs xs ∧ R xs :=
 r.rec (motive := λ hvs vs _ => ∀ {R : List aA -> Prop}, OW (datas? vs) R -> ∃ xs, fL F h α hvs xs ∧ R xs) (λ e => ⟨[], .nil, e⟩) λ {hv v l m} a _ ih R e =>
  dat_go a (OW.bind e) λ d q e => by obtain ⟨xs, q2, w⟩ := ih e.map; exact ⟨d :: xs, .cons q q2, w⟩
theorem se_tup {es : List AX} {k : Nat} {p : Pos} (h : ∀ e ∈ es, SE F O n Γ e) : SE F O n Γ (.tup es k p) := λ ρ σ A env s α E Q e t =>
 ifx_go (M := λ z => evE O z ρ σ Q) e id λ hl e => wpAny_Tuple (ses_go es σ s α _ _ h e t λ vs σ1 hvs s1 α1 e f1 t1 r1 l => by
  obtain ⟨xs, q, w⟩ := datas_go r1 e
  exact ⟨by rw [r1.length, l, fS]; have := aF hl; lia, qe_trans f1 _ _ (qe_tup t1.st q w)⟩)
theorem at_snoc {γ : Type} {l : List γ} {x y : γ} {i : Nat} (e : (l ++ [x])[i]? = some y) {C : Prop} (k : l[i]? = some y -> C) (z : i = l.length -> y = x -> C) : C := by
 rw [List.getElem?_append] at e
 split at e
 · exact k e
 · have hi : i = l.length := by
    have := (aR.mp e).1
    rw [List.length_singleton] at this; lia
   subst hi
   rw [dN] at e
   exact z rfl (aY e).symm
theorem own_snoc {p : av × av} {a : av} (q : Own (α ++ [p]) a) : Own α a ∨ a = p.1 ∨ a = p.2 := by
 obtain ⟨i, x, e, q⟩ := q
 exact at_snoc e (λ e => .inl ⟨i, x, e, q⟩) λ _ z => .inr (z ▸ q)
theorem St.snoc {h' : Heap} {p : av × av} {c : fH} (S : St F h α σ) (m : Mv F h h' α (α ++ [p])) (k : ∀ a o, Own α a -> h.get? a = some o -> h'.get? a = some o) (b : ∀ b o, F.h₀.get? b = some o -> h'.get? b = some o) (l : Lv h h')
 (no : ∀ a, (a = p.1 ∨ a = p.2) -> F.h₀.get? a = none ∧ ¬ Own α a ∧ h'.get? a ≠ none) (R : RC F h' (α ++ [p]) p c) : St F h' (α ++ [p]) (σ ++ [c]) :=
 ⟨b, by rw [aH, aH, S.len]; rfl, λ a q => (own_snoc q).elim (S.no a) λ q => (no a q).1, λ a q => (own_snoc q).elim (λ q e => S.live a q (l a e)) λ q => (no a q).2.2,
  λ i j p q a hi hj qi qj => at_snoc hi (λ hi => at_snoc hj (λ hj => S.apart i j p q a hi hj qi qj) λ _ z => ((no a (z ▸ qj)).2.1 (.at hi qi)).elim) λ hi' z => at_snoc hj (λ hj => ((no a (z ▸ qi)).2.1 (.at hj qj)).elim) λ hj _ => hi'.trans hj.symm,
  λ i d q hd hq => at_snoc hd (λ hd => at_snoc hq (λ hq => (S.cell i d q hd hq).mv m λ a o z => k a o (.at hq z)) λ z _ => absurd (aR.mp hd).1 (by rw [z, S.len]; exact be _))
   λ z w => at_snoc hq (λ hq => absurd (aR.mp hq).1 (by rw [z, <- S.len]; exact be _)) λ _ v => by rw [w, v]; exact R⟩
end
section
variable {F : Fx} {O : Orc} {n : Nat} {Γ : Cx} {A : bH} {E : aJ -> aK -> Prop} {env : Env} {ρ : Loc} {σ : fE} {s s' : aK} {h : Heap} {α : Pl} {Q : Ps} {a b c : AX}
theorem at_end (S : St F h α σ) {p : av × av} : (α ++ [p])[σ.length]? = some p := by
 rw [<- S.len, bg (aW _), dN]; rfl
theorem mv_fresh {p : av × av} (k : ∀ b o, h.get? b = some o -> s'.heap.get? b = some o) (f1 : h.get? p.1 = none) (f2 : h.get? p.2 = none) : Mv F h s'.heap α (α ++ [p]) :=
 ⟨λ a o e n _ => ⟨k a o e, λ q => (own_snoc q).elim n λ q => q.elim (λ q => nomatch (show h.get? a = none from q ▸ f1).symm.trans e) λ q => nomatch (show h.get? a = none from q ▸ f2).symm.trans e⟩, λ i q e => pre_at (dJ _ _) e⟩
theorem af_fresh {p : av × av} (k : ∀ b o, s.heap.get? b = some o -> s'.heap.get? b = some o) (f1 : s.heap.get? p.1 = none) (f2 : s.heap.get? p.2 = none) (hg : s'.gens = s.gens) (ho : s'.os = s.os) : Af F Nil s s' α (α ++ [p]) :=
 ⟨λ a o _ _ => k a o, Hk.lv λ a o _ => k a o, dJ _ _, λ a q => (own_snoc q).imp id λ q => q.elim (λ q => q ▸ f1) λ q => q ▸ f2, hg, ho⟩
theorem St.fresh {p : av × av} {c : fH} (S : St F s.heap α σ) (k : ∀ b o, s.heap.get? b = some o -> s'.heap.get? b = some o) (f1 : s.heap.get? p.1 = none) (f2 : s.heap.get? p.2 = none) (l1 : s'.heap.get? p.1 ≠ none) (l2 : s'.heap.get? p.2 ≠ none) (R : RC F s'.heap (α ++ [p]) p c) : St F s'.heap (α ++ [p]) (σ ++ [c]) :=
 S.snoc (mv_fresh k f1 f2) (λ a o _ => k a o) (λ b o e => k b o (S.base b o e)) (Hk.lv λ a o _ => k a o) (λ a q => by
  have f : s.heap.get? a = none := q.elim (λ q => q ▸ f1) λ q => q ▸ f2
  refine ⟨?_, λ q => S.live a q f, q.elim (λ q => q ▸ l1) λ q => q ▸ l2⟩
  cases z : F.h₀.get? a with
  | none => rfl
  | some o => exact nomatch f.symm.trans (S.base a o z)) R
theorem se_lst {new : Bool} {es : List AX} {p : Pos} (h : ∀ e ∈ es, SE F O n Γ e) : SE F O n Γ (.lst new es p) := λ ρ σ A env s α E Q e t =>
 ifx_go (M := λ z => evE O z ρ σ Q) e id λ hl e => wpAny_List (ses_go es σ s α _ _ h e t λ vs σ1 hvs s1 α1 e f1 t1 r1 l => by
  refine ⟨by rw [r1.length, l, fS]; have := aF hl; lia, qe_trans f1 _ _ ?_⟩
  cases new with
  | false => obtain ⟨xs, q, w⟩ := datas_go r1 e; exact qe_lst t1.st q w
  | true =>
   obtain ⟨xs, q, w⟩ := datas_go r1 e
   have g : (s1.heap.push (fV hvs 0)).get? s1.heap.objs.size = some (fV hvs 0) := ao _ rfl
   have fr : s1.heap.get? s1.heap.objs.size = none := ax (aW _)
   exact ⟨w, af_fresh (p := (s1.heap.objs.size, s1.heap.objs.size)) (fU _) fr fr rfl rfl,
    St.fresh (s' := { s1 with heap := s1.heap.push (fV hvs 0) }) t1.st (fU _) fr fr (λ e => nomatch g.symm.trans e) (λ e => nomatch g.symm.trans e) (.list rfl g (q.mv (mv_fresh (s' := { s1 with heap := s1.heap.push (fV hvs 0) }) (fU _) fr fr))), .l (at_end t1.st)⟩)
end
section
variable {F : Fx} {O : Orc} {n : Nat} {Γ : Cx} {A : bH} {E : aJ -> aK -> Prop} {env : Env} {ρ : Loc} {σ : fE} {s : aK} {h : Heap} {α : Pl} {Q : Ps} {a c : AX}
theorem OW.cnd {β : Type} {c : Bool} {x y : Option β} {Q : β -> Prop} (h : OW (cond c x y) Q) {C : Prop} (k : c = true -> OW x Q -> C) (l : c = false -> OW y Q -> C) : C := by
 cases c with
 | true => exact k rfl h
 | false => exact l rfl h
theorem sub_form (i : AX) (x y : aJ) : subscripted (de i) false x y = operate [x, y] (getItem x y) := by
 cases i <;> rfl
theorem se_sub (W : Wo F) {i : AX} {p : Pos} (ha : SE F O n Γ a) (hi : SE F O n Γ i) : SE F O n Γ (.sub a i p) := λ ρ σ A env s α E Q e t =>
 Subscript_ (ha.go e t λ x σ1 hv s1 α1 e f1 t1 r1 => hi.go e t1 λ y σ2 hw s2 α2 e f2 t2 r2 => wp_trans (f1.tr f2) (op_sub W t2.rm.line t2.st (sub_form i) (r1.mv (f2.m0 t2.st.base)) r2 e.map))
theorem part_go {P : Option Int -> fE -> Prop} {R : aJ -> aK -> Prop} (h : SE F O n Γ a) (e : evE O (cond a.isNo (.c .none) (er F.T a Γ)) ρ σ λ v σ => OW (intN v) λ k => P k σ) (t : At F A n Γ env ρ s α σ)
 (k : ∀ i σ1 hv s1 α1, P i σ1 -> Af F Nil s s1 α α1 -> At F A n Γ env ρ s1 α1 σ1 -> IsPart hv i -> R hv s1) : aQ F.m A (evalPart (cond a.isNo none (some (de a))) env) R E s := by
 cases q : a.isNo with
 | true =>
  rw [q] at e
  exact (evalPart_none (env := env)) ▸ aI (k none σ _ s α e .refl t .none)
 | false =>
  rw [q] at e
  show aQ F.m A (evalPart (some (de a)) env) R E s
  rw [evalPart_some]
  exact h.go e t λ v σ1 hv s1 α1 e f1 t1 r1 => dat_go r1 (OW.bind e) λ d r e => OW.cnd e (λ z e => none_of r z ▸ k none σ1 _ s1 α1 e f1 t1 .none) λ _ e => intd_go (C := λ hv => R hv s1) r e.bind λ i tk e => e.ck λ _ e => k _ σ1 _ s1 α1 e f1 t1 (.int _ _)
theorem se_slc {lo hi : AX} {q p : Pos} (ha : SE F O n Γ a) (hl : SE F O n Γ lo) (hh : SE F O n Γ hi) : SE F O n Γ (.slc a lo hi q p) := λ ρ σ A env s α E Q e t =>
 Subscript_ (ha.go e t λ x σ1 hv s1 α1 e f1 t1 r1 => wpAny_Slice (part_go hl e t1 λ i σ2 hw s2 α2 e f2 t2 p2 => part_go hh e t2 λ j σ3 hx s3 α3 e f3 t3 p3 => by
  rw [evalPart_none]
  exact aI (ah (op_slc t3.st ((r1.mv (f2.m0 t2.st.base)).mv (f3.m0 t3.st.base)) p2 p3 e) (qe_trans ((f1.tr f2).tr f3)) λ _ _ x => x)))
end
section
variable {F : Fx} {n : Nat} {A : bH} {E : aJ -> aK -> Prop} {σ : fE} {s s' : aK} {h h' : Heap} {α : Pl} {Q : Ps} {x y : aJ} {u v : V}
theorem mv_own {d : av} (S : St F h α σ) (k : Hk (· = d) h h') (o : Own α d) : Mv F h h' α α :=
 ⟨λ a x e n _ => ⟨k a x (λ q => n (q ▸ o)) e, n⟩, λ _ _ e => e⟩
theorem lv_one {d : av} {o : Obj} (k : Hk (· = d) h h') (g : h'.get? d = some o) : Lv h h' := .of k λ a q e => nomatch (show h'.get? a = some o from q ▸ g).symm.trans e
theorem af_own {d : av} {o : Obj} (k : Hk (· = d) s.heap s'.heap) (q : Own α d) (g : s'.heap.get? d = some o) (hg : s'.gens = s.gens) (ho : s'.os = s.os) : Af F Nil s s' α α :=
 ⟨λ a x _ n e => k a x (λ z => n (z ▸ q)) e, lv_one k g, bz _, λ _ => .inl, hg, ho⟩
theorem St.write {i : Nat} {p : av × av} {d : av} {o : Obj} {c : fH} (S : St F h α σ) (hp : α[i]? = some p) (hd : d = p.1 ∨ d = p.2) (k : Hk (· = d) h h') (g : h'.get? d = some o) (R : RC F h' α p c) : St F h' α (σ.set i c) :=
 have m := mv_own S k (.at hp hd)
 ⟨λ b x e => k b x (λ q => nomatch (S.no b (q ▸ Own.at hp hd)).symm.trans e) (S.base b x e), by rw [List.length_set, S.len], S.no, λ a q e => S.live a q (lv_one k g a e), S.apart, λ j x q e1 e2 => by
  by_cases hij : i = j
  · subst hij
    rw [hp] at e2; cases e2
    rw [List.getElem?_set_self (by have := (aR.mp hp).1; rw [<- S.len]; exact this)] at e1
    cases e1; exact R
  · rw [List.getElem?_set_ne hij] at e1
    exact (S.cell j x q e1 e2).mv m λ a o z => k a o λ w => hij (S.apart i j p q a hp e2 (w ▸ hd) z)⟩
@[elab_as_elim] theorem cellL_go (S : St F h α σ) (r : RV F h α x u) {R : Nat × List aA -> Prop} (e : OW (cellL σ u) R) {C : aJ -> Prop} (k : ∀ i p vs n xs, α[i]? = some p -> p.1 = p.2 -> h.get? p.1 = some (fV vs n) -> fL F h α vs xs -> R (i, xs) -> C (.ref p.1)) : C x := by
 cases r with
 | d q => exact False.elim e
 | @l i p g =>
  have e : OW ((σ[i]?).bind λ c => (cL c).map λ xs => (i, xs)) R := e
  exact cell_go S g e.bind λ c _ z e => cL_go z e.map λ vs n xs e2 g2 q w => k i p vs n xs g e2 g2 q w
theorem turnL (S : St F s.heap α σ) {i : Nat} {p : av × av} {vs ws : List aJ} {m : Nat} {ys : List aA} (hp : α[i]? = some p) (e2 : p.1 = p.2) (g : s.heap.get? p.1 = some (fV vs m)) {f : Array aJ -> Array aJ} (hf : f vs.toArray = ws.toArray) (r : fL F s.heap α ws ys) :
 Af F Nil s { s with heap := s.heap.update p.1 (bw f) } α α ∧ St F (s.heap.update p.1 (bw f)) α (σ.set i (.list ys)) := by
 have k : Hk (· = p.1) s.heap (s.heap.update p.1 (bw f)) := λ b o n e => ((eU ..).2 b n).trans e
 have g' : ∃ j, (s.heap.update p.1 (bw f)).get? p.1 = some (fV ws j) := ⟨_, hf ▸ IsL.update (h := s.heap) (l := p.1) (items := vs.toArray) (n := m) g f⟩
 obtain ⟨j, g'⟩ := g'
 exact ⟨af_own k (.at hp (.inl rfl)) g' rfl rfl, S.write hp (.inl rfl) k g' (.list e2 g' (r.mv (mv_own S k (.at hp (.inl rfl)))))⟩
theorem qe_list (S : St F s.heap α σ) {i : Nat} {p : av × av} {vs ws : List aJ} {m : Nat} {ys : List aA} (hp : α[i]? = some p) (e2 : p.1 = p.2) (g : s.heap.get? p.1 = some (fV vs m)) {f : Array aJ -> Array aJ} (hf : f vs.toArray = ws.toArray) (r : fL F s.heap α ws ys)
 (q : Q v (σ.set i (.list ys))) (rv : RV F s.heap α x v) : QE F s α Q x { s with heap := s.heap.update p.1 (bw f) } :=
 have t := turnL S hp e2 g hf r
 ⟨q, t.1, t.2, rv.mv (t.1.m0 t.2.base)⟩
theorem op_append {pos : Pos} {e : Sem aJ} {s₀ : aK} {α₀ : Pl} {P : Ps} {E : aJ -> aK -> Prop} (f0 : Af F Nil s₀ s α₀ α) (ro : RV F s.heap α x u) {a : av} (ha : x = .ref a)
 (he : aQ F.m A e (QE F s α P) E s) (k : ∀ v σ, P v σ -> OW (appendD σ u v) λ σ => Q (.d .none) σ) :
 aQ F.m A (callWith pos (.builtin "list.append") [x] [(false, e)] []) (QE F s₀ α₀ Q) E s := by
 subst ha
 refine PySem.P.append_list (ah he (λ hv s1 q => q.casesOn λ {w σ1 α1} q f S1 r1 => ?_) λ _ _ x => x)
 refine cellL_go (C := λ z => z = .ref a -> _) S1 (ro.mv (f.m0 S1.base)) (OW.bind (k _ _ q)) (λ i p vs n xs hp e2 g r e hz => ?_) rfl
 cases hz
 exact dat_go r1 e.bind λ d rd e => e.ck λ ft w => ⟨vs.toArray, n, by have := sz_le r ft; rw [fS]; lia, g, qe_trans (f0.tr f) _ _ (qe_list S1 hp e2 g (f := λ xs => xs.push hv) (ws := vs ++ [hv]) (by simp) (r.append (.cons rd .nil)) w (.d .none))⟩
theorem op_extend {pos : Pos} {e : Sem aJ} {s₀ : aK} {α₀ : Pl} {P : Ps} {E : aJ -> aK -> Prop} (f0 : Af F Nil s₀ s α₀ α) (ro : RV F s.heap α x u) {a : av} (ha : x = .ref a)
 (he : aQ F.m A e (QE F s α P) E s) (k : ∀ v σ, P v σ -> OW (extendD σ u v) λ σ => Q (.d .none) σ) :
 aQ F.m A (callWith pos (.builtin "list.extend") [x] [(false, e)] []) (QE F s₀ α₀ Q) E s := by
 subst ha
 refine PySem.P.extend_list (ah he (λ hv s1 q => q.casesOn λ {w σ1 α1} q f S1 r1 => ?_) λ _ _ x => x)
 refine cellL_go (C := λ z => z = .ref a -> _) S1 (ro.mv (f.m0 S1.base)) (OW.bind (k _ _ q)) (λ i p vs n xs hp e2 g r e hz => ?_) rfl
 cases hz
 refine dat_go r1 e.bind λ d rd e => lstd_go rd e.bind λ b ws m ys g2 r2 e => e.ck λ ft w => ?_
 have l1 := sz_le r (fG ft)
 have l2 := sz_le r2 (and2 ft)
 refine ⟨b, vs.toArray, ws.toArray, n, m, by rw [fS]; lia, by rw [fS]; lia, ?_, rfl, g, g2, qe_trans (f0.tr f) _ _ (qe_list S1 hp e2 g (f := λ xs => xs ++ ws.toArray) (ws := vs ++ ws) (by simp) (r.append r2) w (.d .none))⟩
 have : bb.List.listTooLong (vs.toArray.size + ws.toArray.size) = false := decide_eq_false (by rw [fS]; lia)
 rw [this, Bool.and_false]; exact bO
theorem op_pop {pos : Pos} {s₀ : aK} {α₀ : Pl} (f0 : Af F Nil s₀ s α₀ α) (S : St F s.heap α σ) (ro : RV F s.heap α x u) (e : WP (popD σ u) Q) : aQ F.m A (callWith pos (.builtin "list.pop") [x] [] []) (QE F s₀ α₀ Q) E s := by
 refine cellL_go S ro (OW.bind e) λ i p vs n xs hp e2 g r e => OW.get e.bind λ y hy e => e.ck λ ft w => ?_
 have l := sz_le r ft
 have ln := r.length
 rw [List.getLast?_eq_getElem?] at hy
 obtain ⟨hv, h1, h2⟩ := r.get hy
 refine PySem.P.pop_list (n := n) g (y := hv) (by rw [aa, bF, ln]; exact h1) (qe_trans f0 _ _ (qe_list S hp e2 g (ws := vs.dropLast) ?_ ?_ w (.d h2))) (by rw [fS]; lia)
 · rw [aa]
   apply Array.ext'
   rw [Array.toList_eraseIdxIfInBounds, List.eraseIdx_eq_take_drop_succ, dK (by show vs.length <= _; lia), aq, List.dropLast_eq_take]
 · rw [List.dropLast_eq_take, List.dropLast_eq_take, ln]; exact r.take _
end
section
variable {F : Fx} {n : Nat} {A : bH} {E : aJ -> aK -> Prop} {σ σ' : fE} {s s' : aK} {h h' : Heap} {α : Pl} {x y z : aJ} {u v : V}
theorem putKV_some {k : aA} {u : V} : ∀ {kvs : List (aA × V)} {i : Nat}, (kvs.map (·.1)).findIdx? (λ y => eqD y k) = some i -> putKV k u kvs = kvs.modify i λ p => (p.1, u)
 | [], i, h => nomatch h
 | p :: r, i, h => by
  rw [ba, cO] at h
  unfold putKV
  cases q : eqD p.1 k with
  | true => rw [q] at h; cases h; rfl
  | false =>
   rw [q] at h
   obtain ⟨j, hj, rfl⟩ := aZ.mp h
   exact congrArg (p :: ·) (putKV_some hj)
theorem putKV_none {k : aA} {u : V} : ∀ {kvs : List (aA × V)}, (kvs.map (·.1)).findIdx? (λ y => eqD y k) = none -> putKV k u kvs = kvs ++ [(k, u)]
 | [], h => rfl
 | p :: r, h => by
  rw [ba, cO] at h
  unfold putKV
  cases q : eqD p.1 k with
  | true => rw [q] at h; cases h
  | false => rw [q] at h; exact congrArg (p :: ·) (putKV_none (e9.mp h))
theorem fw.modify {β γ : Type} {R : β -> γ -> Prop} {l : List β} {m : List γ} {f : β -> β} {g : γ -> γ} (hf : ∀ a b, R a b -> R (f a) (g b)) (r : fw R l m) : ∀ (i : Nat), fw R (l.modify i f) (m.modify i g) :=
 r.rec (λ i => by cases i <;> exact .nil) λ a r ih i => by
  cases i with
  | zero => exact .cons (hf _ _ a) r
  | succ i => exact .cons a (ih i)
theorem modify_keys {u : V} : ∀ {kvs : List (aA × V)} (i : Nat), (kvs.modify i λ p => (p.1, u)).map (·.1) = kvs.map (·.1)
 | [], i => by cases i <;> rfl
 | _ :: _, 0 => rfl
 | p :: _, i + 1 => congrArg (p.1 :: ·) (modify_keys i)
theorem putKV_apart {k : aA} {u : V} {kvs : List (aA × V)} (ap : Apart (kvs.map (·.1))) : Apart ((putKV k u kvs).map (·.1)) := by
 cases h : (kvs.map (·.1)).findIdx? (λ y => eqD y k) with
 | some i => rw [putKV_some h, modify_keys]; exact ap
 | none =>
  rw [putKV_none h, aU]
  exact List.pairwise_append.mpr ⟨ap, bI .., λ a ha b hb => aM.mp hb ▸ List.findIdx?_eq_none_iff.mp h a ha⟩
theorem dictSet_rd {d : av} {es : List bC} {m : Nat} {kvs : List (aA × V)} {k : aA} {R : Unit -> aK -> Prop} (hu : A.units + 8 < cLine) (g : s.heap.get? d = some (fR es m))
 (r : REs F s.heap α es kvs) (ap : Apart (kvs.map (·.1))) (ok : okK 8 k = true) (rk : Rd F s.heap α x k) (rv : RV F s.heap α y v) (hsz : kvs.length <= 2 ^ 20)
 (h : ∀ es' m' h' tk, Hk (· = d) s.heap h' -> h'.get? d = some (fR es' m') -> REs F s.heap α es' (putKV k v kvs) -> R () { s with heap := h', toks := tk }) :
 aQ F.m A (dictSet d x y) R E s := by
 have sb : ∀ f, Hk (· = d) s.heap (s.heap.update d f) := λ f b o n e => ((eU ..).2 b n).trans e
 unfold dictSet
 try with_reducible refine bJ ?_
 refine aC (pyHash_rd hu ok rk λ tk => ?_)
 unfold dictSetHashed
 try with_reducible refine bJ ?_
 refine aC (dictFind_rd (s := { s with toks := tk }) hu g r.keys ap ok rk ?_)
 cases hl : (kvs.map (·.1)).findIdx? (λ y => eqD y k) with
 | some i =>
  refine aC (cW (aC (wpAny_updateDict (s := { s with toks := tk }) g rfl (wpAny_point ?_) (by simp))))
  refine h (es.modify i λ e => { e with val := y }) m _ tk (sb _) ((cj (Obj.mapDict λ x => x.modify i λ e => { e with val := y }) g rfl).trans ?_) (putKV_some hl ▸ r.modify (λ a b q => ⟨q.ok, q.hash, q.key, rv⟩) i)
  show some ({ cls := .type "dict", data := .dict (es.toArray.modify i _) m } : Obj) = _
  rw [List.modify_toArray]
 | none =>
  have hl2 := r.length
  refine aC (cW (wpAny_updateDictKeys (s := { s with toks := tk }) g rfl ?_ (by rw [aa, hl2, fS]; lia) (by simp)))
  refine h (es ++ [⟨fT F.P k, x, y⟩]) (m + 1) _ tk (sb _) ((cj (Obj.mapDictKeys λ z => z.push ⟨fT F.P k, x, y⟩) g rfl).trans ?_) (putKV_none hl ▸ r.append (.cons ⟨ok, rfl, rk, rv⟩ .nil))
  show some ({ cls := .type "dict", data := .dict (es.toArray.push _) (m + 1) } : Obj) = _
  rw [List.push_toArray]
@[elab_as_elim] theorem cellD_go (S : St F h α σ) (r : RV F h α x u) {R : Nat × List (aA × V) -> Prop} (e : OW (cellD σ u) R) {C : aJ -> Prop} (k : ∀ i p es n kvs, α[i]? = some p -> p.1 = p.2 -> h.get? p.1 = some (fR es n) -> REs F h α es kvs -> Apart (kvs.map (·.1)) -> R (i, kvs) -> C (.ref p.1)) : C x := by
 cases r with
 | d q => exact False.elim e
 | @l i p g =>
  have e : OW ((σ[i]?).bind λ c => (cD c).map λ xs => (i, xs)) R := e
  exact cell_go S g e.bind λ c _ z e => by
   cases z with
   | dict e2 g2 r2 ap => exact k i p _ _ _ g e2 g2 r2 ap e
   | _ => exact False.elim e
theorem op_setI (W : Wo F) (hA : A.units + 100 < cLine) (S : St F s.heap α σ) {w : V} (rx : RV F s.heap α x u) (ry : RV F s.heap α y v) (rz : RV F s.heap α z w) {P : fE -> Prop} (e : OW (setID σ u v w) P) {R : Unit -> aK -> Prop}
 (k : ∀ s' σ', P σ' -> Af F Nil s s' α α -> St F s'.heap α σ' -> R () s') : aQ F.m A (setItem x y z) R E s :=
 dat_go ry (OW.bind e) λ d rd e => OW.or e
  (λ e => cellD_go S rx e.bind λ i p es m kvs hp e2 g r ap e => e.ck λ ft w => by
   have hT : s.TypeIs (.ref p.1) "dict" := ⟨_, g, rfl⟩
   unfold setItem
   try with_reducible refine bJ ?_
   refine aC (wpAny_sequenceKey hT (by decide) (aC (dL (name := aD "__setitem__") hT slot_dict_setitem
    (bf slot_dict_setitem hT entry_dict_setitem ?_ (args_dict_setitem _ _ _)))))
   show aQ _ _ (bb.Dict.notOrdered "__setitem__" ⟨[.ref p.1, y, z], []⟩ >>= _) _ _ s
   refine aC (wpAny_notOrdered_dict hT ?_)
   show aQ _ _ (dictSet p.1 y z >>= _) _ _ s
   refine aC (dictSet_rd (by show A.in1.units + 8 < cLine; have : A.in1.units = A.units + 1 := rfl; lia) g r ap (fG ft) rd rz (of_decide_eq_true (and2 ft)) λ es' m' h' tk hk g' r' => ?_)
   exact aI ⟨_, rfl, aI (k _ _ w (af_own (s' := { s with heap := h', toks := tk }) hk (.at hp (.inl rfl)) g' rfl rfl) (S.write hp (.inl rfl) hk g' (.dict e2 g' (r'.mv (mv_own S hk (.at hp (.inl rfl)))) (putKV_apart ap))))⟩)
  λ e => cellL_go S rx e.bind λ i p vs m xs hp e2 g r e => dat_go rz e.bind λ d' rd' e => intd_go (C := λ y => aQ F.m A (setItem (.ref p.1) y z) R E s) rd e.bind λ j t e => e.ck λ ft w => by
   have l := r.length
   have h1 := of_decide_eq_true (fG (fG ft))
   have h2 : j < xs.length := of_decide_eq_true (and2 (fG ft))
   have h3 := fits_le (and2 ft)
   dsimp only at h3
   refine PySem.W.ki_setAt g h1 (by lia) (by rw [aa, l]; exact h2) ?_
   have q := turnL S hp e2 g (f := λ xs => xs.setIfInBounds j.toNat z) (ws := vs.set j.toNat z) (by simp) (r.set rd' j.toNat)
   exact k _ _ w q.1 q.2
end
structure Wk (F : Fx) : Prop where
 kin : F.K.In F.h₀
 once : ∀ (k k' : Nat) (x : Str), F.T.attrs[k]? = some x -> F.T.attrs[k']? = some x -> k = k'
 ga : ∀ c, c < 2 -> findIn F.K (.ref (F.cls c)) "__getattribute__" = some (some (.builtin "object.__getattribute__"))
 sa : ∀ c, c < 2 -> findIn F.K (.ref (F.cls c)) "__setattr__" = some (some (.builtin "object.__setattr__"))
 gattr : ∀ c, c < 2 -> findIn F.K (.ref (F.cls c)) "__getattr__" = some none
 apart : ∀ (n k : Nat) (x : Str), F.T.meths[n]? = some x -> F.T.attrs[k]? ≠ some x
 plain : ∀ c, c < 2 -> plainOver F.K (F.cls c) = true
 hasd : ∀ c, c < 2 -> (clsIn F.K (F.cls c)).any (·.hasDict) = true
 noatt : ∀ c (k : Nat) x, c < 2 -> F.T.attrs[k]? = some x -> findIn F.K (.ref (F.cls c)) x = some none
 makes : ∀ c, c < 2 -> makesIn F.K (F.cls c) = true
 keep : ∀ c, c < 2 -> keepIn F.K (.ref (F.cls c)) = true
 init : ∀ c f, F.pr.init.lookup c = some f -> c < 2 ∧ findIn F.K (.ref (F.cls c)) "__init__" = some (some (.ref (F.fn f))) ∧ typeIn F.K (.ref (F.fn f)) = some (.type "function")
 cini : ∀ x c, F.T.globs.lookup x = some (.cls c) -> ∃ f, F.pr.init.lookup c = some f
 meth : ∀ c (n : Nat) f x, F.pr.meth.lookup (c, n) = some f -> F.T.meths[n]? = some x -> findIn F.K (.ref (F.cls c)) x = some (some (.ref (F.fn f))) ∧ typeIn F.K (.ref (F.fn f)) = some (.type "function")
section
variable {F : Fx} {n : Nat} {A : bH} {E : aJ -> aK -> Prop} {σ σ' : fE} {s s' : aK} {h : Heap} {α : Pl} {Q : Ps} {x y z : aJ} {u v : V}
theorem num_at {l : List Str} {x : Str} {k : Nat} (h : numOf l x = some k) : l[k]? = some x := by
 obtain ⟨hlt, hi, _⟩ := cp.mp h
 rw [aO hlt, eq_of_beq hi]
theorem Wk.here (W : Wk F) (S : St F s.heap α σ) : F.K.In s.heap := W.kin.keeps S.base
theorem RFn.is (W : Wk F) {e : bC} {p : Nat × V} (r : RFn F h α e p) {k : Nat} {name : Str} (hk : F.T.attrs[k]? = some name) : e.key.isStr name = (p.1 == k) := by
 obtain ⟨x, t, h1, h2, _⟩ := r.key
 rw [h2]
 show (x == name) = _
 cases q : p.1 == k with
 | true => rw [eq_of_beq q, hk] at h1; cases h1; exact beq_self_eq_true _
 | false => exact beq_eq_false_iff_ne.mpr λ z => by rw [z] at h1; exact absurd (W.once _ _ _ h1 hk) (beq_eq_false_iff_ne.mp q)
theorem getF_find (W : Wk F) {k : Nat} {name : Str} (hk : F.T.attrs[k]? = some name) {es : List bC} {fs : List (Nat × V)} (r : RFs F h α es fs) {R : V -> Prop} : OW (getF k fs) R -> ∃ en v, es.find? (·.key.isStr name) = some en ∧ RV F h α en.val v ∧ R v :=
 r.rec (λ e => False.elim e) λ {e p es fs} a _ ih w => by
  have w : OW (cond (p.1 == k) (some p.2) (getF k fs)) R := w
  rw [List.find?_cons, a.is W hk]
  cases q : p.1 == k with
  | true => rw [q] at w; exact ⟨_, _, rfl, a.val, w⟩
  | false => rw [q] at w; exact ih w
theorem RFs.noRef {es : List bC} {fs : List (Nat × V)} (r : RFs F h α es fs) : es.any (·.refKey) = false :=
 r.rec rfl λ {e p es fs} a _ ih => by
  obtain ⟨x, t, _, h2, _⟩ := a.key
  rw [List.any_cons, ih]; unfold bC.refKey; rw [h2]; rfl
@[elab_as_elim] theorem inst_go (S : St F h α σ) (r : RV F h α x u) {R : Nat × Nat × List (Nat × V) -> Prop} (e : OW (cellI σ u) R) {C : aJ -> Prop}
 (k : ∀ i p c es m fs, u = .l i -> α[i]? = some p -> p.1 ≠ p.2 -> h.get? p.1 = some (insObj (F.cls c) p.2) -> h.get? p.2 = some (fR es m) -> RFs F h α es fs -> es.length <= 1000 -> c < 2 -> InstAt h p.1 (insObj (F.cls c) p.2) (F.cls c) (some (fR es m)) -> R (i, c, fs) -> C (.ref p.1)) : C x := by
 cases r with
 | d q => exact False.elim e
 | @l i p g =>
  have e : OW ((σ[i]?).bind λ c => (cI c).map λ p => (i, p)) R := e
  exact cell_go S g e.bind λ c _ z e => by
   cases z with
   | inst hne g g2 r l hc => exact k i p _ _ _ _ rfl ‹_› hne g g2 r l hc ⟨g, rfl, rfl, g2⟩ e
   | _ => exact False.elim e
theorem handed_rv (r : RV F h α x v) : handedIn x = true := by
 cases r with
 | l => rfl
 | d r => cases r <;> rfl
theorem op_att (W : Wk F) (S : St F s.heap α σ) (r : RV F s.heap α x u) {k : Nat} {name : Str} (hk : F.T.attrs[k]? = some name) (e : OW (attD σ u k) λ v => Q v σ) {expr : Bool} : aQ F.m A (getAttr x name expr) (QE F s α Q) E s :=
 inst_go S r (OW.bind e) λ i p c es m fs _ hp hne g g2 rf l hc I e => by
  obtain ⟨en, v, h1, h2, w⟩ := getF_find W hk rf e
  refine get_value (W.here S) I (W.ga c hc) (v := en.val) ?_ (handed_rv h2) (qe_tok w S h2)
  obtain ⟨cd, hcd, hd⟩ := any_some (W.hasd c hc)
  unfold findObj
  rw [hcd, Option.bind_some, W.noatt c k name hc hk]
  show (PySem.W.ownOf _ _ _).bind _ = _
  unfold PySem.W.ownOf
  rw [if_pos hd]
  show (lookIn name (fR es m)).bind _ = _
  unfold lookIn
  dsimp only
  rw [h1]
  rfl
theorem putName_some {name : Str} {hs : Int} {key v : aJ} {es : List bC} {m i : Nat} (h : es.findIdx? (·.key.isStr name) = some i) : Obj.putName name hs key v (fR es m) = fR (es.modify i λ e => { e with val := v }) m := by
 rw [Obj.putName_eq]; unfold Obj.putNameByArray; dsimp only; rw [show (es.toArray.findIdx? (·.key.isStr name)) = some i from (List.findIdx?_toArray ..).trans h]
 show ({ cls := .type "dict", data := .dict (es.toArray.modify i λ e => { e with val := v }) m } : Obj) = _
 rw [List.modify_toArray]
theorem putName_none {name : Str} {hs : Int} {key v : aJ} {es : List bC} {m : Nat} (h : es.findIdx? (·.key.isStr name) = none) : Obj.putName name hs key v (fR es m) = fR (es ++ [⟨hs, key, v⟩]) (m + 1) := by
 rw [Obj.putName_eq]; unfold Obj.putNameByArray; dsimp only; rw [show (es.toArray.findIdx? (·.key.isStr name)) = none from (List.findIdx?_toArray ..).trans h]
 show ({ cls := .type "dict", data := .dict (es.toArray.push ⟨hs, key, v⟩) (m + 1) } : Obj) = _
 rw [List.push_toArray]
theorem RFs.put' (W : Wk F) {k : Nat} {name : Str} (hk : F.T.attrs[k]? = some name) {y : aJ} {v : V} (rv : RV F h α y v) (tk : Tok) {es : List bC} {fs : List (Nat × V)} (r : RFs F h α es fs) :
 (∀ i, es.findIdx? (·.key.isStr name) = some i -> RFs F h α (es.modify i λ e => { e with val := y }) (setF k v fs)) ∧ (es.findIdx? (·.key.isStr name) = none -> RFs F h α (es ++ [⟨eL F.P name, .str name tk, y⟩]) (setF k v fs)) :=
 r.rec ⟨λ i h => (nomatch h), λ _ => .cons ⟨⟨_, _, hk, rfl, rfl⟩, rv⟩ .nil⟩ λ {e p es fs} a r ih => by
  show (∀ i, _ -> RFs F h α _ (cond (p.1 == k) ((p.1, v) :: fs) (p :: setF k v fs))) ∧ (_ -> RFs F h α _ (cond (p.1 == k) ((p.1, v) :: fs) (p :: setF k v fs)))
  rw [cO, a.is W hk]
  cases q : p.1 == k with
  | true => exact ⟨λ i hi => aY hi ▸ .cons ⟨a.key, rv⟩ r, λ hi => nomatch hi⟩
  | false => exact ⟨λ i hi => let ⟨j, hj, z⟩ := aZ.mp hi; z ▸ .cons a (ih.1 j hj), λ hi => .cons a (ih.2 (e9.mp hi))⟩
theorem RFs.put (W : Wk F) {k : Nat} {name : Str} (hk : F.T.attrs[k]? = some name) {y : aJ} {v : V} (rv : RV F h α y v) (tk : Tok) {es : List bC} {fs : List (Nat × V)} (m : Nat) (r : RFs F h α es fs) (hl : es.length < 1000) :
 ∃ es' m', Obj.putName name (eL F.P name) (.str name tk) y (fR es m) = fR es' m' ∧ RFs F h α es' (setF k v fs) ∧ es'.length <= 1000 := by
 obtain ⟨i1, i2⟩ := RFs.put' W hk rv tk r
 cases hf : es.findIdx? (·.key.isStr name) with
 | some i => exact ⟨_, _, putName_some hf, i1 i hf, by rw [List.length_modify]; lia⟩
 | none => exact ⟨_, _, putName_none hf, i2 hf, by rw [aH]; exact hl⟩
theorem takerIn_none {K : Frag} {C : av} {name : Str} (h : findIn K (.ref C) name = some none) : takerIn K C name = some none := by
 unfold takerIn; rw [h]; rfl
theorem op_setA (W : Wk F) (S : St F s.heap α σ) (r : RV F s.heap α x u) (rv : RV F s.heap α y v) {k : Nat} {name : Str} (hk : F.T.attrs[k]? = some name) {P : fE -> Prop} (e : OW (setAD σ u k v) P) {R : Unit -> aK -> Prop}
 (q : ∀ s' σ', P σ' -> Af F Nil s s' α α -> St F s'.heap α σ' -> R () s') : aQ F.m A (setAttr x name y) R E s :=
 inst_go S r (OW.bind e) λ i p c es m fs _ hp hne g g2 rf l hc I e => e.ck λ hl w => by
  have X := W.here S
  have hlen := rf.length
  have hl : fs.length < 100 := of_decide_eq_true hl
  refine set_plain X I (W.sa c hc) (osa_open (s := { s with toks := s.toks + 1 }) X I (W.plain c hc) (takerIn_none (W.noatt c k name hc hk)) λ b => ?_)
  obtain ⟨cd, hcd, hd'⟩ := any_some (W.hasd c hc)
  obtain ⟨es', m', hput, rf', l'⟩ := RFs.put W hk rv (s.toks + 1) m rf (by lia)
  have D : s.heap.get? p.2 = some (fR es m) := g2
  have kp : Hk (· = p.2) s.heap (s.heap.update p.2 (Obj.putName name (eL F.P name) (.str name (s.toks + 1)) y)) := λ b o n e => ((eU ..).2 b n).trans e
  have D' : (s.heap.update p.2 (Obj.putName name (eL F.P name) (.str name (s.toks + 1)) y)).get? p.2 = some (fR es' m') := hput ▸ cj _ g2 (by rw [hput]; rfl)
  refine aC (aI (aC (aC (wpAny_loadPart g (aC (Looks.here (s := { s with toks := s.toks + 1 }) (looks_clsIn X hcd) ?_))))))
  rw [hd']
  refine aI (a := some p.2) (aC (aI (aC ?_)))
  unfold nsSet
  refine aC (aC (eo (aI (aC (wpAny_mkText (aC (wpAny_loadPart D ?_)))))))
  dsimp only
  have cc : (!es.toArray.any (·.key.isStr name) && es.toArray.any (·.refKey)) = false := by
   rw [List.any_toArray, List.any_toArray, rf.noRef, Bool.and_false]
  rw [aRefKeyMayBeTheName_at, cc]
  refine wpAny_updatePart D (aC (wpAny_lookBehind D' (pastItsLine_dict (by rw [aa, fS]; lia)) (aI ?_)))
  exact q _ _ w (af_own kp (.at hp (.inr rfl)) D' rfl rfl) (S.write hp (.inr rfl) kp D' (.inst hne (kp _ _ hne g) D' (rf'.mv (mv_own S kp (.at hp (.inr rfl)))) l' hc))
end
structure FnRec where
 name : Str
 qual : Str
 params : Arguments
 body : List Stmt
 scope : Scope
 dV : aJ
 kV : aJ
 doc : aJ
 pm : aJ
 cdv : aJ
 ct : aJ
 oc : aJ
 an : Option av
 od : Option av
 osl : Array (Option aJ)
 pn : List Str
noncomputable abbrev FnRec.fd (r : FnRec) : FuncData := fnOf r.name r.qual r.params r.body r.scope r.dV r.kV r.doc r.pm r.an r.cdv r.ct
noncomputable abbrev FnRec.cx (r : FnRec) : Cx := cxOf r.scope
noncomputable def cxOk (names : List (Str × dF)) (Γ : Cx) : Bool :=
 Γ.vars.all (λ p => Γ.vars.all (λ q => !(p.2 == q.2) || p.1 == q.1) && au p.2 Γ.n && (names.lookup p.1 == some .local || names.lookup p.1 == some .cell)) && (Γ.cl.all (λ x => names.lookup x == some .cell) && Γ.glob.all λ x => names.lookup x == some .globalImplicit)
structure FnOk (F : Fx) (fd : fI) (a : av) (r : FnRec) : Prop where
 ho : F.K.lookup a = some ⟨r.oc, r.od, .func r.fd, r.osl⟩
 hcd : codeIn F.K r.cdv r.qual = true
 kind : r.scope.kind = .function
 co : r.scope.isCoroutine = false
 gen : r.scope.isGenerator = false
 names : cxOk r.scope.names r.cx = true
 sx : ∃ b, dXs b = r.body ∧ eXs F.T r.cx b = fd.body
 np : r.pn.length = fd.np
 pos : ∀ (i : Nat) (x : Str), r.pn[i]? = some x -> r.cx.vars.lookup x = some i
 bind : ∀ (s : aK) (hvs : List aJ), F.K.In s.heap -> hvs.length <= fd.np -> fd.np <= hvs.length + fd.dfl.length ->
  ∃ dvs, fL F F.h₀ [] dvs (fd.dfl.drop (fd.dfl.length - (fd.np - hvs.length))) ∧ BindsTo s r.fd ⟨hvs, []⟩ (r.pn.zip (hvs ++ dvs))
section
variable {kf : Str -> Option dF} {x : Str} {v : aJ}
theorem bindL_other : ∀ {binds : List (Str × aJ)} {m : Str -> Option aJ}, (∀ p ∈ binds, p.1 ≠ x) -> bindL kf binds m x = m x
 | [], m, _ => rfl
 | p :: r, m, h => by
  unfold bindL
  rw [bindL_other λ q m => h q (.tail _ m)]
  split
  · exact if_neg (h p (.head _)).symm
  · rfl
theorem bindC_other : ∀ {binds : List (Str × aJ)} {m : Str -> Option aJ}, (∀ p ∈ binds, p.1 ≠ x) -> bindC kf binds m x = m x
 | [], m, _ => rfl
 | p :: r, m, h => by
  unfold bindC
  rw [bindC_other λ q m => h q (.tail _ m)]
  split
  · rfl
  · exact if_neg (h p (.head _)).symm
theorem bindL_at (hk : kf x = some .local) {binds : List (Str × aJ)} {m : Str -> Option aJ} (nd : binds.Pairwise (λ p q => p.1 ≠ q.1)) (h : (x, v) ∈ binds) : bindL kf binds m x = some v := by
 induction nd generalizing m with
 | nil => cases h
 | cons a _ ih =>
  cases h with
  | head => exact (bindL_other λ p m => (a p m).symm).trans ((congrFun (if_pos hk) x).trans (if_pos rfl))
  | tail _ h => exact ih h
theorem bindC_at (hk : kf x = some .cell) {binds : List (Str × aJ)} {m : Str -> Option aJ} (nd : binds.Pairwise (λ p q => p.1 ≠ q.1)) (h : (x, v) ∈ binds) : bindC kf binds m x = some v := by
 induction nd generalizing m with
 | nil => cases h
 | cons a _ ih =>
  cases h with
  | head => exact (bindC_other λ p m => (a p m).symm).trans ((congrFun (if_neg (by rw [hk]; exact λ e => nomatch e)) x).trans (if_pos rfl))
  | tail _ h => exact ih h
end
section
variable {F : Fx} {n : Nat} {ρ : Loc} {σ : fE} {s s₁ : aK} {h h' : Heap} {α : Pl} {x y : aJ} {v : V} {fd : fI} {a : av} {r : FnRec}
theorem lookup_of {β : Type} : ∀ {l : List (Str × β)} {x : Str} {v : β}, l.lookup x = some v -> (x, v) ∈ l := mem_of_lookup
theorem FnOk.var (X : FnOk F fd a r) {x : Str} {i : Nat} (h : r.cx.vars.lookup x = some i) : (∀ y j, r.cx.vars.lookup y = some j -> i = j -> x = y) ∧ i < r.cx.n ∧ (r.scope.names.lookup x = some .local ∨ r.scope.names.lookup x = some .cell) :=
 have q := aT.mp (fG X.names) _ (lookup_of h)
 ⟨λ y j hy e => by
  have := aT.mp (fG (fG q)) _ (lookup_of hy)
  rw [e, beq_self_eq_true] at this
  exact eq_of_beq this, a9.mp (and2 (fG q)), ((cX _ _).mp (and2 q)).imp eq_of_beq eq_of_beq⟩
theorem all_has {l : List Str} {f : Str -> Bool} (h : l.all f = true) {x : Str} (m : x ∈ l) : f x = true := aT.mp h x m
theorem lget_eq : ∀ (ρ : Loc) (i : Nat), lget ρ i = (ρ[i]?).bind id
 | [], _ => rfl
 | _ :: _, 0 => rfl
 | _ :: r, i + 1 => lget_eq r i
theorem lget_pars {vs : List V} {k i : Nat} {v : V} (h : lget (vs.map some ++ bo k none) i = some v) : vs[i]? = some v := by
 rw [lget_eq] at h
 obtain ⟨o, h1, h2⟩ := bK.mp h
 have h2 : o = some v := h2
 subst h2
 rw [List.getElem?_append] at h1
 split at h1
 · rw [a6] at h1
   obtain ⟨w, h3, h4⟩ := aZ.mp h1
   cases h4; exact h3
 · rw [List.getElem?_replicate] at h1
   split at h1 <;> cases h1
theorem En.enter (X : FnOk F fd a r) (S : St F s.heap α σ) {vals : List aJ} {vs : List V} (rv : RVs F s.heap α vals vs) (hlen : vs.length = fd.np)
 (C : InCallC s (callEnvC r.fd s.heap.objs.size a).locals (bindL (callEnvC r.fd s.heap.objs.size a).kindOf (r.pn.zip vals) λ _ => none) (callEnvC r.fd s.heap.objs.size a).cells (bindC (callEnvC r.fd s.heap.objs.size a).kindOf (r.pn.zip vals) λ _ => none) s₁) :
 En F s₁.heap α r.cx (callEnvC r.fd s.heap.objs.size a) (vs.map some ++ bo (fd.ns - fd.np) none) ∧ St F s₁.heap α σ ∧ Af F Nil s s₁ α α ∧ (∀ b, Fo (callEnvC r.fd s.heap.objs.size a) b -> s.heap.get? b = none) := by
 have k : Hk Nil s.heap s₁.heap := λ b o _ => C.toInCall.keep b o
 have S1 : St F s₁.heap α σ := S.off .nil k
 obtain ⟨hh, tk, hs, _⟩ := C.done
 have f : Af F Nil s s₁ α α := .of_off .nil k k.lv (by rw [hs]) (by rw [hs]) λ _ => id
 have fr : ∀ b, Fo (callEnvC r.fd s.heap.objs.size a) b -> s.heap.get? b = none := λ b hb => hb.elim (λ e => e ▸ ax (aW _)) λ ⟨x, hc⟩ => ax (bt (C.above x b (lookup_of hc)))
 have ce : ∀ x, r.scope.names.lookup x = some .cell -> ∃ c, (callEnvC r.fd s.heap.objs.size a).cells.lookup x = some c := λ x q => ez.mp (cellsFrom_some r.scope.names (s.heap.objs.size + 1) [] (x := x) (.inl q))
 have ln : vs.length = r.pn.length := hlen.trans X.np.symm
 have at_ : ∀ (i : Nat) v, lget (vs.map some ++ bo (fd.ns - fd.np) none) i = some v -> vs[i]? = some v ∧ ∃ y, r.pn[i]? = some y := λ i v h =>
  have h := lget_pars h
  ⟨h, _, aO (ln ▸ (aR.mp h).1)⟩
 have pnd : (r.pn.zip vals).Pairwise λ p q => p.1 ≠ q.1 := by
  refine d0.mpr λ i j hi hj hij e => ?_
  rw [List.getElem_zip, List.getElem_zip] at e
  have e : r.pn[i]'_ = r.pn[j]'_ := e
  have h1 := X.pos i _ (aO (bx hi (by rw [List.length_zip]; exact Nat.min_le_left ..)))
  have h2 := X.pos j _ (aO (bx hj (by rw [List.length_zip]; exact Nat.min_le_left ..)))
  rw [e, h2] at h1
  exact be _ (aY h1 ▸ hij)
 refine ⟨⟨⟨X.kind, rfl, rfl, λ x y c hx hy => name_of_addr C.apart (mem_of_lookup hx) (mem_of_lookup hy), λ x i h => (X.var h).2.2.imp id λ q => ⟨q, ce x q⟩, λ x m => eq_of_beq (all_has (fG (and2 X.names)) m), λ x h => eq_of_beq (all_has (and2 (and2 X.names)) (cJ.mp (and2 (fG h)))), λ x y i h h' => (X.var h).1 y i h' rfl, λ x i h => (X.var h).2.1⟩,
  ⟨_, C.toInCall.ns⟩, λ x c hc => ⟨_, C.cell x c hc⟩, λ b hb => ⟨?_, λ q => S.live b q (fr b hb)⟩, λ i v hi h => ?_, λ x i v h h' => ?_⟩, S1, f, fr⟩
 · cases q : F.h₀.get? b with
   | none => rfl
   | some o => exact nomatch (fr b hb).symm.trans (S.base b o q)
 · obtain ⟨_, y, hy⟩ := at_ i v h
   exact be _ (bx (X.var (X.pos i y hy)).2.1 hi)
 · obtain ⟨hu, y, hy⟩ := at_ i v h'
   obtain rfl := (X.var h).1 y i (X.pos i y hy) rfl
   obtain ⟨hv, h1, h2⟩ := rv.get hu
   have hmem : (x, hv) ∈ r.pn.zip vals := a7 (i := i) (d9.mpr ⟨hy, h1⟩)
   exact ⟨hv, (X.var h).2.2.elim (λ q => .loc q C.toInCall.ns (bindL_at q pnd hmem)) λ q => let ⟨c, hc⟩ := ce x q; .cell q hc (bindC_at (show (callEnvC r.fd s.heap.objs.size a).kindOf x = some .cell from q) pnd hmem ▸ C.cell x c hc), h2.mv (f.m0 S1.base)⟩
end
section
variable {F : Fx} {O : Orc} {n : Nat} {Γ : Cx} {A : bH} {E : aJ -> aK -> Prop} {env : Env} {ρ : Loc} {σ σ' : fE} {s s' s₁ : aK} {h : Heap} {α α' : Pl} {Q : Ps} {x y z : aJ} {v : V} {fd : fI} {a : av} {r : FnRec}
inductive FI (F : Fx) (h : Heap) (α : Pl) : PySem.Flow -> Flow -> Prop
 | next : FI F h α .next .next
 | ret {hv : aJ} {v : V} : RV F h α hv v -> FI F h α (.ret hv) (.ret v)
inductive QX (F : Fx) (s : aK) (α : Pl) (Γ : Cx) (env : Env) (Q : Fs) (hf : PySem.Flow) (s' : aK) : Prop
 | mk {fl : Flow} {ρ' : Loc} {σ' : fE} {α' : Pl} : Q fl ρ' σ' -> Af F (Fo env) s s' α α' -> St F s'.heap α' σ' -> En F s'.heap α' Γ env ρ' -> FI F s'.heap α' hf fl -> QX F s α Γ env Q hf s'
def XS (F : Fx) (O : Orc) (n : Nat) (Γ : Cx) (b : SX) : Prop := ∀ (ρ : Loc) (σ : fE) (A : bH) (env : Env) (s : aK) (α : Pl) (E : aJ -> aK -> Prop) (Q : Fs),
 evX O (eX F.T Γ b) ρ σ Q -> At F A n Γ env ρ s α σ -> aQ F.m A (exec (dX b) env) (QX F s α Γ env Q) E s
def XB (F : Fx) (O : Orc) (n : Nat) (Γ : Cx) (b : List SX) : Prop := ∀ (ρ : Loc) (σ : fE) (A : bH) (env : Env) (s : aK) (α : Pl) (E : aJ -> aK -> Prop) (Q : Fs),
 fc O (eXs F.T Γ b) ρ σ Q -> At F A n Γ env ρ s α σ -> aQ F.m A (execs (dXs b) env) (QX F s α Γ env Q) E s
def Rn (n : Nat) (A : bH) : Prop := A.handled = none ∧ A.depth + 8 * n + 12 <= 1000 ∧ A.units + 100 * n + 950 <= 9900
theorem Rm.rn (R : Rm n A) : Rn n A := ⟨R.1, aE (bU (by decide) _) R.2.1, aE (bU (by decide) _) R.2.2⟩
def SF (F : Fx) (a : av) (run : List V -> fE -> Ps -> Prop) (n : Nat) : Prop := ∀ (vs : List V) (hvs : List aJ) (σ : fE) (A : bH) (s : aK) (α : Pl) (Q : Ps),
 run vs σ Q -> Rn n A -> St F s.heap α σ -> RVs F s.heap α hvs vs -> eO F.m A (.call (.ref a) ⟨hvs, []⟩) (λ r s' => ∃ hv, r = .ok (.ret hv) ∧ QE F s α Q hv s') s
theorem rm_deeper {env : Env} (R : Rn (n + 1) A) : Rm n (A.deeper env) :=
 ⟨R.1, by have := R.2.1; show A.depth + 1 + 8 * n + 16 <= 1000; lia, by have := R.2.2; show A.units + 3 + 100 * n + 1000 <= 9900; lia⟩
theorem sf_def (W : Wo F) (X0 : F.K.In F.h₀) (X : FnOk F fd a r) (hb : ∀ b, XB F O n r.cx b) : SF F a (runDef O fd) (n + 1) := λ vs hvs σ A s α Q e R S rv => OW.ck e λ c e => by
 have l := rv.length
 obtain ⟨dvs, hd, hbind⟩ := X.bind s hvs (X0.keeps S.base) (l ▸ of_decide_eq_true (fG (fG c))) (l ▸ of_decide_eq_true (and2 (fG c)))
 have hK := X0.keeps S.base
 rw [l] at hd
 have rd : ∀ {dvs : List aJ} {ds : List aA}, fL F F.h₀ [] dvs ds -> RVs F s.heap α dvs (ds.map V.d) := λ q => q.rec .nil λ a _ ih => .cons (.d (rd_base S a)) ih
 have rv2 := rv.append (rd hd)
 have ln : (vs ++ (fd.dfl.drop (fd.dfl.length - (fd.np - vs.length))).map V.d).length = fd.np := by
  have h1 : vs.length <= fd.np := of_decide_eq_true (fG (fG c))
  have h2 : fd.np <= vs.length + fd.dfl.length := of_decide_eq_true (and2 (fG c))
  rw [aH, aG, cg]; lia
 have hkind : ∀ p ∈ r.pn.zip (hvs ++ dvs), r.scope.names.lookup p.1 = some .local ∨ (r.scope.names.lookup p.1 = some .cell ∧ ((cellsFrom (s.heap.objs.size + 1) r.scope.names []).lookup p.1).isSome = true) := λ p hp => by
  obtain ⟨i, hi⟩ := List.mem_iff_getElem?.mp (List.of_mem_zip hp).1
  exact (X.var (X.pos i _ hi)).2.2.imp id λ q => ⟨q, cellsFrom_some r.scope.names (s.heap.objs.size + 1) [] (.inl q)⟩
 obtain ⟨b, hb1, hb2⟩ := X.sx
 refine codeAny_call_function (fd := r.fd) (by have := R.2.1; show A.depth < 1000; lia) (hK _ _ X.ho) rfl X.co X.gen rfl (codeRec_of hK X.hcd) (hbind _ _ _ _ (wpAny_newFunctionEnv_cells X.kind hkind λ env' henv s₁ C => ?_))
 subst henv
 refine ⟨(W.lim.keeps S.base).keeps C.toInCall.keep, codeAny_func ?_⟩
 obtain ⟨N1, S1, f1, fr⟩ := En.enter X S rv2 ln C
 rw [<- hb1]
 refine ah (hb b _ σ _ _ s₁ α _ (kend Q) (by rw [hb2]; exact e) ⟨rm_deeper R, N1, S1⟩) (λ hf s' q => q.casesOn λ {fl ρ' σ' α'} q f2 S2 N2 fi => ?_) λ _ _ x => x
 have f3 : Af F Nil s s' α α' := (f1.up.trans (W := λ b => s.heap.get? b = none) f2 λ b z => .inl (fr b z)).drop λ _ => id
 cases fi with
 | next => exact ⟨_, rfl, q, f3, S2, .d .none⟩
 | ret rr => exact ⟨_, rfl, q, f3, S2, rr⟩
theorem own_pre {a : av} (q : α <+: α') : Own α a -> Own α' a := λ ⟨i, p, e, z⟩ => ⟨i, p, pre_at q e, z⟩
theorem rd_pre (p : α <+: α') {d : aA} (r : Rd F h α' x d) : Rd F h α x d := r.dat λ a o e n _ => ⟨e, λ q => n (own_pre p q)⟩
theorem at_cut (p : α <+: α') {i : Nat} {q : av × av} (l : i < α.length) (e : α'[i]? = some q) : α[i]? = some q := by
 obtain ⟨t, rfl⟩ := p
 rw [bM l] at e; exact e
theorem rv_cut (p : α <+: α') (hx : v.below α.length = true) (r : RV F h α' x v) : RV F h α x v := by
 cases r with
 | d r => exact .d (rd_pre p r)
 | l e => exact .l (at_cut p (a9.mp hx) e)
theorem fw.all {γ δ : Type} {R R' : γ -> δ -> Prop} {f : δ -> Bool} (k : ∀ a b, f b = true -> R a b -> R' a b) {l : List γ} {m : List δ} (r : fw R l m) : m.all f = true -> fw R' l m :=
 r.rec (λ _ => .nil) λ a _ ih h => .cons (k _ _ (fG h) a) (ih (and2 h))
theorem rc_cut (p : α <+: α') {q : av × av} {c : fH} (hc : c.below α.length = true) (R : RC F h α' q c) : RC F h α q c := by
 cases R with
 | list e g r => exact .list e g (r.imp λ _ _ => rd_pre p)
 | dict e g r d => exact .dict e g (r.all (λ _ _ b q => ⟨q.ok, q.hash, rd_pre p q.key, rv_cut p b q.val⟩) hc) d
 | inst e g g2 r l hlt => exact .inst e g g2 (r.all (λ _ _ b q => ⟨q.key, rv_cut p b q.val⟩) hc) l hlt
theorem St.cut (S : St F h α' σ) (p : α <+: α') (hc : (σ.take α.length).all (fH.below α.length) = true) : St F h α (σ.take α.length) :=
 ⟨S.base, by rw [dq, <- S.len]; exact (et p.length_le).symm, λ a q => S.no a (own_pre p q), λ a q => S.live a (own_pre p q), λ i j x y a hi hj => S.apart i j x y a (pre_at p hi) (pre_at p hj),
  λ i c q hi hq => rc_cut p (aT.mp hc c (a7 hi)) (S.cell i c q (by rw [e8 (aR.mp hq).1] at hi; exact hi) (pre_at p hq))⟩
theorem fin_go {α₁ : Pl} {W : av -> Prop} (l : α₁.length = n) (p0 : α <+: α₁) (p : α₁ <+: α') (f : Af F W s s' α α') (S : St F s'.heap α' σ') (r : RV F s'.heap α' x v) (e : WP (fin n v σ') Q) {C : Prop}
 (k : ∀ α₂ w σ2, α₂ <+: α' -> Q w σ2 -> Af F W s s' α α₂ -> St F s'.heap α₂ σ2 -> RV F s'.heap α₂ x w -> C) : C := by
 subst l
 have f1 : Af F W s s' α α₁ := ⟨f.keep, f.live, p0, λ a q => f.sub a (own_pre p q), f.gens, f.os⟩
 cases r with
 | d r => exact OW.ck e λ c w => k α₁ _ _ p w f1 (S.cut p c) (.d (rd_pre p r))
 | @l i q g =>
  have e : OW (cond (au i α₁.length) (keep α₁.length (.l i) σ') ((σ'[i]?).bind λ c => match cL c with
   | some xs => keep α₁.length (.d (.list xs)) σ'
   | none => some (.l i, σ'))) (λ p => Q p.1 p.2) := e
  cases hi : au i α₁.length with
  | true => rw [hi] at e; exact OW.ck e λ c w => k α₁ _ _ p w f1 (S.cut p c) (.l (at_cut p (a9.mp hi) g))
  | false =>
   rw [hi] at e
   refine cell_go S g (OW.bind e) λ c gc z e => ?_
   cases z with
   | list e2 g2 r2 =>
    refine OW.ck e λ c w => k α₁ _ _ p w f1 (S.cut p c) (.d (.list g2 (λ ⟨j, y, hj, hy⟩ => ?_) (r2.imp λ _ _ => rd_pre p)))
    have := S.apart i j q y _ g (pre_at p hj) (.inl rfl) hy
    subst this
    exact absurd (a9.mpr (aR.mp hj).1) (by rw [hi]; exact bO)
   | dict e2 g2 r2 d => exact k α' _ _ (bz _) e f S (.l g)
   | inst e2 g2 g3 r2 d hc => exact k α' _ _ (bz _) e f S (.l g)
def Fns (F : Fx) (O : Orc) (n : Nat) : Prop := ∀ f, SF F (F.fn f) (O.run f) n
theorem call_fn (G : Fns F O n) (R : Rn n A) {f : Nat} {vs : List V} {hvs : List aJ} (e : fY O f vs σ Q) (S : St F s.heap α σ) (r : RVs F s.heap α hvs vs) : eO F.m A (.call (.ref (F.fn f)) ⟨hvs, []⟩) (λ r s' => ∃ hv, r = .ok (.ret hv) ∧ QE F s α Q hv s') s :=
 dZ (G f vs hvs σ A s α _ (e.casesOn id) R S r) λ r s' ⟨hv, h1, q⟩ => ⟨hv, h1, q.casesOn λ q f S2 r2 => fin_go S.len (bz _) f.pre f S2 r2 q λ _ _ _ _ q f S r => ⟨q, f, S, r⟩⟩
end
section
variable {F : Fx} {O : Orc} {n : Nat} {Γ : Cx} {A : bH} {E : aJ -> aK -> Prop} {env : Env} {ρ : Loc} {σ : fE} {s s' s₁ : aK} {h : Heap} {α : Pl} {Q : Ps} {x z : aJ} {o : AX} {as : List AX} {p q : Pos} {nm : Str}
theorem plain_args : ∀ as : List AX, (backTo p (dC (des as) env)).any (·.1) = false
 | [] => rfl
 | a :: r => by
  show (backTo p (dC (de a :: des r) env)).any (·.1) = false
  rw [starEach_cons]; exact plain_args r
theorem args_go {f : aJ} (h : ∀ e ∈ as, SE F O n Γ e) {P : List V -> fE -> Prop} {R : Args -> aK -> Prop} (e : sEs (evL O (ers F.T as Γ)) ρ σ P) (t : At F A n Γ env ρ s α σ)
 (k : ∀ vs σ1 hvs s1 α1, P vs σ1 -> Af F Nil s s1 α α1 -> At F A n Γ env ρ s1 α1 σ1 -> RVs F s1.heap α1 hvs vs -> vs.length = as.length -> R ⟨hvs, []⟩ s1) : aQ F.m A (evalArgs f true (backTo p (dC (des as) env)) []) R E s := by
 have q := ses_go (p := p) (E := E) as σ s α P (λ hvs s' => R ⟨hvs, []⟩ s') h e t k
 cases as with
 | nil => exact evalArgs_empty (k [] σ [] s α e .refl t .nil rfl)
 | cons a r =>
  rw [show dC (des (a :: r)) env = _ from starEach_cons a (des r)] at q ⊢
  exact evalArgs_plain q
theorem se_fn (W : Wo F) (G : Fns F O n) (h : ∀ e ∈ as, SE F O n Γ e) (hg : Γ.isGlob nm = true) {f : Nat} (hf : F.T.globs.lookup nm = some (.fn f)) (e : evE O (.mk (.call f) (ers F.T as Γ)) ρ σ Q) (t : At F A n Γ env ρ s α σ) :
 aQ F.m A (eval (.Call (.Name nm q) (des as) [] p) env) (QE F s α Q) E s := by
 obtain ⟨o, fd, ho, hd⟩ := W.fo f
 exact Call_Name rfl (load_glob W t hg (W.fn nm f hf) (callWith_function (o := o) (fd := fd) (args_go h e t λ vs σ1 hvs s1 α1 e f1 t1 r1 l => ⟨⟨t1.st.base _ _ ho, hd⟩,
  wpAny_call (dZ (call_fn G t1.rm.rn e t1.st r1) λ r s2 ⟨hv, h1, q⟩ => h1 ▸ qe_trans f1 _ _ q)⟩)))
theorem base_plain (h : plainBase (de o) = true) : attributeBase (de o) nm env (eval (de o) env) = eval (de o) env := by
 cases o with
 | call x q as p => cases as <;> first | rfl | exact aN h
 | _ => rfl
theorem Call_meth {o : Expr} {name : Str} {apos pos : Pos} {args : List Expr} {Q : aJ -> aK -> Prop} (hbase : attributeBase o name env (eval o env) = eval o env)
 (hfew : ((backTo pos (dC args env)).all (λ x => !x.1) && (backToKw pos (keywordEach [] env)).all (λ x => x.1.isSome) && decide (args.length + ([] : List Keyword).length + (if ([] : List Keyword).isEmpty then 0 else 1) < 30)) = true)
 (hline : (apos.endLine == pos.line) = true)
 (h : aQ F.m A (eval o env) (λ ov s₁ => ∀ pl, aQ F.m A (getMethod ov name pl) (λ fx s₂ => aQ F.m A (callWith pos fx.1 fx.2 (backTo pos (dC args env)) []) Q E s₂) E s₁) E s) :
 aQ F.m A (eval (.Call (.Attribute o name apos) args [] pos) env) Q E s := by
 rw [arm_eval_Call, hbase]
 refine aC (ah h (λ ov s₁ h₁ => aC (dg ?_)) λ _ _ e => e)
 have hform : methodCallForm (args.length + ([] : List Keyword).length) (backTo pos (dC args env)) (backToKw pos (keywordEach [] env)) = true := hfew
 have hpos : methodCallPos true o env apos pos = pure pos := by unfold methodCallPos; rw [hline]; rfl
 unfold methodCall
 rw [hform]
 exact aC (bJ (ah (h₁ _) (λ fx s₂ h₂ => aC (wpAny_of_eq hpos h₂)) λ _ _ e => e))
theorem few_args (hn : au as.length 30 = true) :
 ((backTo p (dC (des as) env)).all (λ x => !x.1) && (backToKw p (keywordEach [] env)).all (λ x => x.1.isSome) && decide ((des as).length + ([] : List Keyword).length + (if ([] : List Keyword).isEmpty then 0 else 1) < 30)) = true := by
 have h1 : ∀ as : List AX, (backTo p (dC (des as) env)).all (λ x => !x.1) = true := λ as => by
  induction as with
  | nil => rfl
  | cons a r ih =>
   show (backTo p (dC (de a :: des r) env)).all (λ x => !x.1) = true
   rw [starEach_cons]; exact ih
 have h2 : ∀ as : List AX, (des as).length = as.length := λ as => by
  induction as with
  | nil => rfl
  | cons a r ih => exact congrArg eE ih
 exact fP (fP (h1 as) rfl) (decide_eq_true (by rw [h2]; exact a9.mp hn))
theorem shadow_no (W : Wk F) {k : Nat} (hk : F.T.meths[k]? = some nm) {es : List bC} {m : Nat} {fs : List (Nat × V)} (r : RFs F h α es fs) : shadowIn (some (fR es m)) nm = some false := by
 have key : es.find? (·.key.isStr nm) = none := List.find?_eq_none.mpr λ e he => by
  obtain ⟨p, _, q⟩ := r.mem he
  obtain ⟨x, t, h1, h2, _⟩ := q.key
  rw [h2]
  exact λ z => W.apart _ _ _ hk (eq_of_beq z ▸ h1)
 show (lookIn nm (fR es m)).map (·.isSome) = _
 unfold lookIn
 dsimp only
 rw [key]
 dsimp only
 rw [r.noRef]; rfl
theorem se_meth (W : Wo F) (Wc : Wk F) (G : Fns F O n) (hm : ∀ c n, O.meth c n = F.pr.meth.lookup (c, n)) {ap : Pos} {k : Nat} (ho : SE F O n Γ o) (h : ∀ e ∈ as, SE F O n Γ e) (hk : numOf F.T.meths nm = some k)
 (hb : plainBase (de o) = true) (hl : (ap.endLine == p.line) = true) (hn : au as.length 30 = true) (e : evE O (.meth (er F.T o Γ) k (ers F.T as Γ)) ρ σ Q) (t : At F A n Γ env ρ s α σ) : aQ F.m A (eval (.Call (.Attribute (de o) nm ap) (des as) [] p) env) (QE F s α Q) E s :=
 Call_meth (base_plain hb) (few_args hn) hl (ho.go e t λ w σ1 hv s1 α1 e f1 t1 r1 => inst_go t1.st r1 e λ i q c es m fs hu hp hne g g2 rf l hc I e pl => OW.get e λ f hf e3 => by
  subst hu
  obtain ⟨hfi, hty⟩ := Wc.meth c k f nm (hm c k ▸ hf) (num_at hk)
  obtain ⟨oo, fd, hoo, hd⟩ := W.fo f
  exact method_fn (Wc.here t1.st) I (Wc.ga c hc) (Wc.gattr c hc) hfi hty (shadow_no Wc (num_at hk) rf) (callWith_function (o := oo) (fd := fd) (args_go h e3 t1 λ vs σ2 hvs s2 α2 e4 f2 t2 r2 _ => ⟨⟨t2.st.base _ _ hoo, hd⟩,
   wpAny_call (dZ (call_fn G t2.rm.rn e4 t2.st (.cons (.l (f2.at hp)) r2)) λ r s3 ⟨hv, h1, q⟩ => h1 ▸ qe_trans (f1.tr f2) _ _ q)⟩)))
end
section
variable {F : Fx} {O : Orc} {n : Nat} {Γ : Cx} {A : bH} {E : aJ -> aK -> Prop} {env : Env} {ρ : Loc} {σ σ' : fE} {s s' : aK} {h : Heap} {α : Pl} {Q : Ps} {x z : aJ} {u v : V} {o a : AX} {as : List AX} {p q : Pos} {nm : Str}
theorem rm_under {C : av} {rest : List aJ} {kw : List (Str × aJ)} (R : Rm n A) : Rn n (A.under (.builtin "type.__call__" ⟨.ref C :: rest, kw⟩)) := by
 have f : (dw "type.__call__" ⟨.ref C :: rest, kw⟩).frames = 0 := by kernel_rfl
 have g : (dw "type.__call__" ⟨.ref C :: rest, kw⟩).isGuard = false := by kernel_rfl
 have c : (dw "type.__call__" ⟨.ref C :: rest, kw⟩).isCaller = false := by kernel_rfl
 obtain ⟨h1, h2, h3⟩ := R
 refine ⟨h1, ?_, ?_⟩
 · show A.depth + ((dw "type.__call__" ⟨.ref C :: rest, kw⟩).frames + (if (dw "type.__call__" ⟨.ref C :: rest, kw⟩).isCreation then 1 else 0) + (if (dw "type.__call__" ⟨.ref C :: rest, kw⟩).isGuard then 1 else 0) + (if (dw "type.__call__" ⟨.ref C :: rest, kw⟩).isCaller then claimMargin else 0)) + 8 * n + 12 <= 1000
   rw [f, g, c, if_neg bO]
   split <;> lia
 · show A.units + (1 + 3 * (dw "type.__call__" ⟨.ref C :: rest, kw⟩).frames) + 100 * n + 950 <= 9900
   rw [f]; lia
theorem se_mk (W : Wo F) (Wc : Wk F) (G : Fns F O n) (hi : ∀ c, O.init c = F.pr.init.lookup c) (h : ∀ e ∈ as, SE F O n Γ e) (hg : Γ.isGlob nm = true) {c : Nat} (hf : F.T.globs.lookup nm = some (.cls c)) (e : evE O (.mk (.new c) (ers F.T as Γ)) ρ σ Q) (t : At F A n Γ env ρ s α σ)
 (hc : ∃ f, F.pr.init.lookup c = some f) : aQ F.m A (eval (.Call (.Name nm q) (des as) [] p) env) (QE F s α Q) E s := by
 obtain ⟨f, hfi⟩ := hc
 obtain ⟨hc, hin, hty⟩ := Wc.init c f hfi
 refine Call_Name rfl (load_glob W t hg (W.cls nm c hf) (callWith_of (P := λ h => F.K.In h) (keywords := []) ((dS _).trans (plain_args as)) (λ h X => keeps_K (Wc.keep c hc) h X) (args_go h e t λ vs σ1 hvs s1 α1 e f1 t1 r1 l => ⟨Wc.here t1.st, wpAny_call ?_⟩)))
 have e : OW (O.init c) λ f => O.run f (.l σ1.length :: vs) (σ1 ++ [.inst c []]) λ v σ' => OW ((dataOf v).bind λ x => ck (isNoneD x) ()) λ _ => Q (.l σ1.length) σ' := e
 rw [hi, hfi] at e
 obtain ⟨hh, g, d, tk, os⟩ := s1
 have X := Wc.here t1.st
 have sz : (hh.push emptyDict).objs.size = hh.objs.size + 1 := Heap.size_push ..
 have k1 : ∀ b o, hh.get? b = some o -> ((hh.push emptyDict).push (instObj (F.cls c) hh.objs.size)).get? b = some o := λ b o e => fU _ _ _ (fU _ _ _ e)
 have g1 : ((hh.push emptyDict).push (instObj (F.cls c) hh.objs.size)).get? (hh.objs.size + 1) = some (insObj (F.cls c) hh.objs.size) := sz ▸ ao _ rfl
 have g2 : ((hh.push emptyDict).push (instObj (F.cls c) hh.objs.size)).get? hh.objs.size = some (fR [] 0) := fU _ _ _ (ao _ rfl)
 have fr1 : hh.get? (hh.objs.size + 1) = none := ax (eM _)
 have fr2 : hh.get? hh.objs.size = none := ax (aW _)
 have f2 : Af F Nil ⟨hh, g, d, tk, os⟩ ⟨(hh.push emptyDict).push (instObj (F.cls c) hh.objs.size), g, d, tk, os⟩ α1 (α1 ++ [(hh.objs.size + 1, hh.objs.size)]) := af_fresh k1 fr1 fr2 rfl rfl
 have S2 := St.fresh (s' := ⟨(hh.push emptyDict).push (instObj (F.cls c) hh.objs.size), g, d, tk, os⟩) (p := (hh.objs.size + 1, hh.objs.size)) (c := .inst c []) t1.st k1 fr1 fr2 (λ e => nomatch g1.symm.trans e) (λ e => nomatch g2.symm.trans e) (.inst (Nat.succ_ne_self _) g1 g2 .nil (bA _) hc)
 have hat := at_end (p := (hh.objs.size + 1, hh.objs.size)) t1.st
 refine make_core (makes_of X (Wc.makes c hc)) (looks_findIn X hin) (λ self => bind_fn X self hty) (.inl rfl) ?_
 refine dZ (G f (.l σ1.length :: vs) (.ref (hh.objs.size + 1) :: hvs) _ _ ⟨(hh.push emptyDict).push (instObj (F.cls c) hh.objs.size), g, d, tk, os⟩ _ _ e (rm_under t.rm) S2 (.cons (.l hat) (r1.mv (f2.m0 S2.base)))) λ r s3 ⟨hv, h1, z⟩ => z.casesOn λ q f3 S3 r3 => ?_
 subst h1
 refine dat_go r3 (OW.bind q) λ d r3 q => q.ck λ hn w => ?_
 obtain rfl := none_of r3 hn
 exact ⟨rfl, w, (f1.tr f2).tr f3, S3, .l (f3.at hat)⟩
theorem se_att (Wc : Wk F) (ho : SE F O n Γ o) : SE F O n Γ (.att o nm p) := λ ρ σ A env s α E Q e t =>
 ifx_go (M := λ z => evE O z ρ σ Q) e id λ hb e => opx_go (M := λ z => evE O z ρ σ Q) e (λ k hk e =>
  Attribute_any_ (ho.go e t λ w σ1 hv s1 α1 e f1 t1 r1 => wp_trans f1 (op_att Wc t1.st r1 (num_at hk) e.map)) (by rw [arm_eval_Attribute, base_plain hb])) λ _ e => False.elim e
theorem list_meth (S : St F s.heap α σ) (r : RV F s.heap α x u) {R : Nat × List aA -> Prop} (e : OW (cellL σ u) R) : ∃ a, x = .ref a ∧ s.TypeIs x "list" ∧ ∀ b, x = .ref b -> ∃ ob, s.heap.get? b = some ob ∧ ob.dict = none :=
 cellL_go S r e λ i p vs n xs hp e2 g r e => ⟨_, rfl, ⟨_, g, rfl⟩, λ b e => by cases e; exact ⟨_, g, rfl⟩⟩
theorem se_append {ap : Pos} (hb : plainBase (de o) = true) (hl : (ap.endLine == p.line) = true) (ho : SE F O n Γ o) (ha : SE F O n Γ a) (e : evE O (.op (.app ()) (er F.T o Γ) (er F.T a Γ)) ρ σ Q) (t : At F A n Γ env ρ s α σ) :
 aQ F.m A (eval (.Call (.Attribute (de o) "append" ap) [de a] [] p) env) (QE F s α Q) E s := by
 have hst : dC [de a] env = [(false, eval (de a) env)] := starEach_cons a []
 refine fA (base_plain hb) (few_args (as := [a]) rfl) hl (ho.go e t λ w σ1 hv s1 α1 e f1 t1 r1 => ?_)
 obtain ⟨b, ha', hT, hd⟩ := list_meth t1.st r1 (OW.map (show OW ((cellL σ1 w).map λ _ => ()) _ from e))
 refine ⟨"list", "list.append", e5, PySem.F.slot_list_append, PySem.F.type_list_append, hT, hd, ?_⟩
 rw [hst]
 exact op_append f1 r1 ha' (ha ρ σ1 A env s1 α1 E _ (OW.get e λ _ _ e => e) t1) λ v σ e => OW.map (f := λ σ => (V.d .none, σ)) (Q := λ p => Q p.1 p.2) e
theorem se_extend {ap : Pos} (hb : plainBase (de o) = true) (hl : (ap.endLine == p.line) = true) (ho : SE F O n Γ o) (ha : SE F O n Γ a) (e : evE O (.op (.ext ()) (er F.T o Γ) (er F.T a Γ)) ρ σ Q) (t : At F A n Γ env ρ s α σ) :
 aQ F.m A (eval (.Call (.Attribute (de o) "extend" ap) [de a] [] p) env) (QE F s α Q) E s := by
 have hst : dC [de a] env = [(false, eval (de a) env)] := starEach_cons a []
 refine fA (base_plain hb) (few_args (as := [a]) rfl) hl (ho.go e t λ w σ1 hv s1 α1 e f1 t1 r1 => ?_)
 obtain ⟨b, ha', hT, hd⟩ := list_meth t1.st r1 (OW.map (show OW ((cellL σ1 w).map λ _ => ()) _ from e))
 refine ⟨"list", "list.extend", e5, PySem.F.slot_list_extend, PySem.F.type_list_extend, hT, hd, ?_⟩
 rw [hst]
 exact op_extend f1 r1 ha' (ha ρ σ1 A env s1 α1 E _ (OW.get e λ _ _ e => e) t1) λ v σ e => OW.map (f := λ σ => (V.d .none, σ)) (Q := λ p => Q p.1 p.2) e
theorem se_pop {ap : Pos} (hb : plainBase (de o) = true) (hl : (ap.endLine == p.line) = true) (ho : SE F O n Γ o) (e : evE O (.op (.pop ()) (er F.T o Γ) (.c .none)) ρ σ Q) (t : At F A n Γ env ρ s α σ) :
 aQ F.m A (eval (.Call (.Attribute (de o) "pop" ap) [] [] p) env) (QE F s α Q) E s :=
 fA (base_plain hb) (few_args (as := []) rfl) hl (ho.go e t λ w σ1 hv s1 α1 e f1 t1 r1 => by
  obtain ⟨b, ha', hT, hd⟩ := list_meth t1.st r1 (OW.bind (show OW (popD σ1 w) _ from e))
  exact ⟨"list", "list.pop", e5, PySem.F.slot_list_pop, PySem.F.type_list_pop, hT, hd, op_pop f1 t1.st r1 e⟩)
end
structure SortOk (F : Fx) : Prop where
 sorted : ∀ (A : bH) (E : aJ -> aK -> Prop) (s : aK) (α : Pl) (σ : fE) (x : aJ) (u : V) (Q : Ps), A.handled = none -> A.units + 100 < cLine -> St F s.heap α σ -> RV F s.heap α x u -> OW (biD σ 3 [u]) (λ z => Q z σ) ->
  aQ F.m A (call (.builtin "sorted") [x]) (QE F s α Q) E s
 sset : ∀ (A : bH) (E : aJ -> aK -> Prop) (s : aK) (α : Pl) (σ : fE) (x : aJ) (u : V) (Q : Ps), A.handled = none -> A.units + 100 < cLine -> St F s.heap α σ -> RV F s.heap α x u -> OW (biD σ 4 [u]) (λ z => Q z σ) ->
  aQ F.m A (call (.type "set") [x]) (λ y s' => aQ F.m A (call (.builtin "sorted") [y]) (QE F s α Q) E s') E s
section
variable {F : Fx} {O : Orc} {n : Nat} {Γ : Cx} {A : bH} {E : aJ -> aK -> Prop} {env : Env} {ρ : Loc} {σ : fE} {s : aK} {h : Heap} {α : Pl} {Q : Ps} {x y z : aJ} {u v : V} {a : AX} {as : List AX} {p q : Pos} {nm : Str}
theorem rv_one {γ δ : Type} {R : γ -> δ -> Prop} {l : List γ} {m : List δ} {C : List γ -> List δ -> Prop} (r : fw R l m) (n : m.length = 1) (k : ∀ x u, R x u -> C [x] [u]) : C l m := by
 cases r with
 | nil => cases n
 | cons a r => cases r with
  | nil => exact k _ _ a
  | cons b r => cases n
theorem rv_two {γ δ : Type} {R : γ -> δ -> Prop} {l : List γ} {m : List δ} {C : List γ -> List δ -> Prop} (r : fw R l m) (n : m.length = 2) (k : ∀ x u y v, R x u -> R y v -> C [x, y] [u, v]) : C l m := by
 cases r with
 | nil => cases n
 | @cons x u l m a r => exact rv_one (C := λ l m => C (x :: l) (u :: m)) r (eH n) λ y v b => k x u y v a b
def BiP (F : Fx) (f : aJ) (b k : Nat) : Prop := ∀ (A : bH) (E : aJ -> aK -> Prop) (s : aK) (α : Pl) (σ : fE) (hvs : List aJ) (vs : List V) (Q : Ps), vs.length = k -> A.handled = none -> A.units + 100 < cLine -> St F s.heap α σ -> RVs F s.heap α hvs vs -> OW (biD σ b vs) (λ z => Q z σ) ->
 aQ F.m A (call f hvs) (QE F s α Q) E s
theorem bi_one {f : aJ} {b : Nat} (k : ∀ (A : bH) (E : aJ -> aK -> Prop) (s : aK) (α : Pl) (σ : fE) (x : aJ) (u : V) (Q : Ps), A.handled = none -> A.units + 100 < cLine -> St F s.heap α σ -> RV F s.heap α x u -> OW (biD σ b [u]) (λ z => Q z σ) -> aQ F.m A (call f [x]) (QE F s α Q) E s) : BiP F f b 1 :=
 λ A E s α σ hvs vs Q l hh hA S r => rv_one (C := λ hvs vs => OW (biD σ b vs) (λ z => Q z σ) -> aQ F.m A (call f hvs) (QE F s α Q) E s) r l λ x u r e => k A E s α σ x u Q hh hA S r e
theorem bis (H : SortOk F) : ∀ p ∈ biL, ∃ f, biVal.lookup p.1 = some f ∧ ((∃ id, f = .builtin id) ∨ ∃ t, f = .type t) ∧ BiP F f p.2.1 p.2.2 :=
 aL.mpr ⟨⟨_, rfl, .inl ⟨_, rfl⟩, bi_one λ _ _ _ _ _ _ _ _ _ _ S r e => bi_len S r e⟩, aL.mpr ⟨⟨_, rfl, .inr ⟨_, rfl⟩, bi_one λ _ _ _ _ _ _ _ _ _ _ S r e => bi_tuple S r e⟩, aL.mpr ⟨⟨_, rfl, .inr ⟨_, rfl⟩, bi_one λ _ _ _ _ _ _ _ _ _ _ S r e => bi_list S r e⟩,
  aL.mpr ⟨⟨_, rfl, .inl ⟨_, rfl⟩, bi_one H.sorted⟩, aL.mpr ⟨⟨_, rfl, .inl ⟨_, rfl⟩, bi_one λ _ _ _ _ _ _ _ _ hh _ S r e => bi_any hh S r e⟩, aL.mpr ⟨⟨_, rfl, .inl ⟨_, rfl⟩, bi_one λ _ _ _ _ _ _ _ _ hh _ S r e => bi_max hh S r e⟩,
  aL.mpr ⟨⟨_, rfl, .inl ⟨_, rfl⟩, λ A E s α σ hvs vs Q l hh hA S r => rv_two (C := λ hvs vs => OW (biD σ 7 vs) (λ z => Q z σ) -> aQ F.m A (call (.builtin "min") hvs) (QE F s α Q) E s) r l λ x u y v r r2 e => bi_min hh S r r2 e⟩, λ _ h => nomatch h⟩⟩⟩⟩⟩⟩⟩
theorem bi_call (W : Wo F) (hx : Γ.isBi F.T nm = true) {f : aJ} (hb : biVal.lookup nm = some f) (hf : (∃ id, f = .builtin id) ∨ ∃ t, f = .type t) (h : ∀ e ∈ as, SE F O n Γ e) {P : List V -> fE -> Prop} {R : aJ -> aK -> Prop} (e : sEs (evL O (ers F.T as Γ)) ρ σ P) (t : At F A n Γ env ρ s α σ)
 (k : ∀ vs σ1 hvs s1 α1, P vs σ1 -> Af F Nil s s1 α α1 -> At F A n Γ env ρ s1 α1 σ1 -> RVs F s1.heap α1 hvs vs -> vs.length = as.length -> aQ F.m A (call f hvs) R E s1) : aQ F.m A (eval (.Call (.Name nm q) (des as) [] p) env) R E s := by
 refine Call_Name rfl (load_bi W t hx hb ?_)
 rcases hf with ⟨id, rfl⟩ | ⟨ty, rfl⟩
 · exact callWith_builtin (plain_args as) (args_go h e t k)
 · exact PyProof.Rows.callWith_type (plain_args as) (args_go h e t k)
theorem se_call (W : Wo F) (Wc : Wk F) (G : Fns F O n) (hi : ∀ c, O.init c = F.pr.init.lookup c) (H : SortOk F) (h : ∀ e ∈ as, SE F O n Γ e) : SE F O n Γ (.call nm q as p) := λ ρ σ A env s α E Q e t =>
 ifx_go (M := λ z => evE O z ρ σ Q) e id λ hg e => opx_go (M := λ z => evE O z ρ σ Q) e (λ g hf e => by
  cases g with
  | data => exact False.elim e
  | fn i => exact se_fn W G h hg hf e t
  | cls i => exact se_mk W Wc G hi h hg hf e t (Wc.cini nm i hf)) λ hn e => opx_go (M := λ z => evE O z ρ σ Q) e (λ b hb e => ifx_go (M := λ z => evE O z ρ σ Q) e id λ hl e => by
   obtain ⟨f, h1, h2, h3⟩ := bis H _ (mem_of_lookup hb)
   exact bi_call W (fP hg (by rw [hn]; rfl)) h1 h2 h e t λ vs σ1 hvs s1 α1 e f1 t1 r1 l => wp_trans f1 (h3 A E s1 α1 σ1 hvs vs Q (l.trans (eq_of_beq hl)) t1.rm.1 t1.rm.line t1.st r1 e)) λ _ e => False.elim e
theorem se_sset (W : Wo F) (H : SortOk F) {q₁ q₂ p₂ : Pos} (h : SE F O n Γ a) : SE F O n Γ (.sset q₁ q₂ a p₂ p) := λ ρ σ A env s α E Q e t =>
 ifx_go (M := λ z => evE O z ρ σ Q) e id λ hg e => Call_Name rfl (load_bi W t (fG hg) (v := .builtin "sorted") rfl (callWith_builtin rfl (evalArgs_plain (spliced_cons
  (bi_call (as := [a]) (P := λ vs σ => OW (biD σ 4 vs) λ z => Q z σ) W (and2 hg) (f := .type "set") rfl (.inr ⟨_, rfl⟩) (λ e m => aM.mp m ▸ h) e t λ vs σ1 hvs s1 α1 e f1 t1 r1 l => rv_one (C := λ hvs vs => OW (biD σ1 4 vs) (λ z => Q z σ1) -> aQ F.m A (call (.type "set") hvs) _ E s1) r1 l (λ x u r e => ah (H.sset A E s1 α1 σ1 x u Q t1.rm.1 t1.rm.line t1.st r e) (λ y s2 q => spliced_nil (ah q (qe_trans f1) λ _ _ x => x)) λ _ _ x => x) e)))))
end
section
variable {F : Fx} {O : Orc} {n : Nat} {Γ : Cx} {A : bH} {E : aJ -> aK -> Prop} {env : Env} {ρ : Loc} {σ : fE} {s s' : aK} {h h' : Heap} {α α' : Pl} {Q : Ps} {x y z : aJ} {v : V} {o a : AX} {as es : List AX} {p q : Pos}
theorem Off.at_ {d : av} {es : List bC} {m : Nat} (Z : Off F h α (· = d)) (g : h'.get? d = some (fR es m)) : Off F h' α (· = d) := λ a e => e ▸ ⟨(Z d rfl).1, (Z d rfl).2.1, λ o q z => by
 rw [g] at q; cases q
 obtain ⟨_, _, z⟩ := z; cases z⟩
theorem Off.adopt {d : av} (Z : Off F h α (· = d)) : Mv F h h α (α ++ [(d, d)]) :=
 ⟨λ a o e n k => ⟨e, λ q => (own_snoc q).elim n λ q => by
  have q : a = d := q.elim id id
  exact k.elim (λ k => (Z a q).2.2 o e k) λ k => nomatch (Z a q).1.symm.trans k⟩, λ i q e => pre_at (dJ _ _) e⟩
structure RKV (F : Fx) (h : Heap) (α : Pl) (e : aJ × aJ) (p : aA × V) : Prop where
 ok : okK 8 p.1 = true
 key : Rd F h α e.1 p.1
 val : RV F h α e.2 p.2
theorem RKV.mvs (m : Mv F h h' α α') {l : List (aJ × aJ)} {kvs : List (aA × V)} (r : fw (RKV F h α) l kvs) : fw (RKV F h' α') l kvs := r.imp λ _ _ q => ⟨q.ok, q.key.mv m, q.val.mv m⟩
theorem lowS_ok {x : Str} (h : lowS x = true) : okK 8 (.str x) = true := Array.all_toList.symm.trans h
noncomputable abbrev keyE (k : Str × Nat × Pos) : Option Expr := some (.Constant (.str k.1) k.2.1 k.2.2)
noncomputable abbrev keyD (k : Str × Nat × Pos) : aA := .str k.1
theorem pairs_go (ks : List (Str × Nat × Pos)) : ∀ (es : List AX) {σ : fE} {s : aK} {α : Pl} {Q : List V -> fE -> Prop} {R : List (aJ × aJ) -> aK -> Prop}, ks.length = es.length -> (ks.all λ k => lowS k.1) = true -> (∀ e ∈ es, SE F O n Γ e) -> sEs (evL O (ers F.T es Γ)) ρ σ Q -> At F A n Γ env ρ s α σ ->
 (∀ vs σ1 ps s1 α1, Q vs σ1 -> Af F Nil s s1 α α1 -> At F A n Γ env ρ s1 α1 σ1 -> fw (RKV F s1.heap α1) ps ((ks.map keyD).zip vs) -> vs.length = ks.length -> R ps s1) -> aQ F.m A (evalPairs (pairTrees (ks.map keyE) (des es) env p)) R E s := by
 induction ks with
 | nil =>
  intro es σ s α Q R hl hk h e t k
  cases es with
  | nil => exact evalPairs_nil (k [] σ [] s α e .refl t .nil rfl)
  | cons => exact nomatch hl
 | cons kx ks ih =>
  intro es σ s α Q R hl hk h ev t k
  cases es with
  | nil => exact nomatch hl
  | cons e es => exact evalPairs_cons (by
   rw [arm_eval_Constant]
   exact wpAny_mkText (aC ((h e (.head _)).go (s := { s with toks := s.toks + 1 }) ev t.tok λ v σ1 hv s1 α1 ev f1 t1 r1 => aC (dg (aI (ih es (eH hl) (and2 hk) (λ e m => h e (.tail _ m)) ev t1 λ vs σ2 ps s2 α2 ev f2 t2 q2 l =>
    k (v :: vs) σ2 _ s2 α2 ev (Af.tr .tok (f1.tr f2)) t2 (.cons ⟨lowS_ok (fG hk), .str _ _, r1.mv (f2.m0 t2.st.base)⟩ q2) (congrArg eE l)))))))
theorem store_go (hu : A.units + 8 < cLine) {d : av} : ∀ (ps : List (aJ × aJ)) {kvs acc : List (aA × V)} {es : List bC} {m : Nat} {s : aK} {R : PUnit -> aK -> Prop}, Off F s.heap α (· = d) -> s.heap.get? d = some (fR es m) -> REs F s.heap α es acc ->
 Apart ((acc ++ kvs).map (·.1)) -> acc.length + kvs.length <= 1000 -> fw (RKV F s.heap α) ps kvs ->
 (∀ es' m' h' tk, Hk (· = d) s.heap h' -> Off F h' α (· = d) -> h'.get? d = some (fR es' m') -> REs F h' α es' (acc ++ kvs) -> R PUnit.unit { s with heap := h', toks := tk }) -> aQ F.m A (storeAll d ps) R E s
 | [], kvs, acc, es, m, s, R, Z, g, r, ap, hl, p, k => by
  cases p
  exact aI (k es m s.heap s.toks (λ _ _ _ e => e) Z g ((aq acc).symm ▸ r))
 | pr :: ps, kvs, acc, es, m, s, R, Z, g, r, ap, hl, p, k => by
  cases p with
  | @cons _ kv _ kvs a p =>
  have hl : acc.length + (kvs.length + 1) <= 1000 := hl
  rw [aU] at ap
  have ap3 := List.pairwise_append.mp ap
  unfold storeAll
  rw [List.forIn_cons]
  refine aC (aC (dictSet_rd hu g r ap3.1 a.ok a.key a.val (by lia) λ es' m' h' tk hs g' R' => aI ?_))
  have hnone : (acc.map (·.1)).findIdx? (λ y => eqD y kv.1) = none := List.findIdx?_eq_none_iff.mpr λ y hy => ap3.2.2 y hy _ (.head _)
  rw [putKV_none hnone] at R'
  have mv := Z.mv hs
  have e3 : acc ++ kv :: kvs = (acc ++ [kv]) ++ kvs := by rw [aw]; rfl
  show aQ F.m A (forIn ps PUnit.unit _) R E _
  refine store_go hu ps (acc := acc ++ [kv]) (kvs := kvs) (s := { s with heap := h', toks := tk }) (Z.at_ g') g' (R'.mv mv) (by rw [<- e3, aU]; exact ap) (by rw [aH]; show acc.length + 1 + _ <= _; lia) (RKV.mvs mv p) λ es2 m2 h2 tk2 hs2 Z2 g2 R3 => ?_
  exact k es2 m2 h2 tk2 (λ b o n e => hs2 b o n (hs b o n e)) Z2 g2 (e3 ▸ R3)
theorem keys_apart : ∀ (ks : List (Str × Nat × Pos)), nodupS (ks.map (·.1)) = true -> Apart (ks.map keyD)
 | [], _ => .nil
 | k :: r, h => .cons (λ y m => by
  obtain ⟨z, hz, rfl⟩ := aj.mp m
  exact decide_eq_false λ e => by
   have q : (!(r.map (·.1)).contains k.1) = true := fG h
   rw [cJ.mpr (aj.mpr ⟨z, hz, e.symm⟩)] at q
   cases q) (keys_apart r (and2 h))
theorem zip_keys {ks : List aA} {vs : List V} (l : vs.length = ks.length) : (ks.zip vs).map (·.1) = ks := List.map_fst_zip (c8 l.symm)
theorem se_dict {ks : List (Str × Nat × Pos)} {p : Pos} (h : ∀ e ∈ es, SE F O n Γ e) : SE F O n Γ (.dict ks es p) := λ ρ σ A env s α E Q e t =>
 ifx_go (M := λ z => evE O z ρ σ Q) e id λ hc e => by
  have hlen : ks.length = es.length := eq_of_beq (and2 (fG (fG hc)))
  have h15 := aF (fG (fG (fG hc)))
  have ap := keys_apart ks (and2 (fG hc))
  have fr : s.heap.get? s.heap.objs.size = none := ax (aW _)
  have k0 := fU (h := s.heap) (fR [] 0)
  have g0 : (s.heap.push (fR [] 0)).get? s.heap.objs.size = some (fR [] 0) := ao _ rfl
  cases ks with
  | nil =>
   cases es with
   | cons => cases hlen
   | nil =>
    exact wpAny_Dict_empty ⟨e, af_fresh (p := (s.heap.objs.size, s.heap.objs.size)) k0 fr fr rfl rfl, St.fresh (s' := { s with heap := s.heap.push (fR [] 0) }) t.st k0 fr fr (λ e => nomatch g0.symm.trans e) (λ e => nomatch g0.symm.trans e) (.dict rfl g0 .nil .nil), .l (at_end t.st)⟩
  | cons k ks =>
   have l2 : ∀ as : List AX, (des as).length = as.length := λ as => by
    induction as with
    | nil => rfl
    | cons a r ih => exact congrArg eE ih
   refine wpAny_Dict_any (List.all_map.trans (aT.mpr λ _ _ => rfl)) (by rw [aG, l2]; exact hlen) (λ e => nomatch e) (by rw [aG]; exact h15) ?_
   have f0 : Af F Nil s { s with heap := s.heap.push (fR [] 0) } α α := .of_off .nil (λ b o _ => k0 b o) (Hk.lv λ b o _ => k0 b o) rfl rfl λ _ => id
   have S0 : St F (s.heap.push (fR [] 0)) α σ := t.st.off .nil λ b o _ => k0 b o
   refine pairs_go (s := { s with heap := s.heap.push (fR [] 0) }) (k :: ks) es hlen (and2 hc) h e (t.after f0 S0) λ vs σ1 ps s1 α1 e f1 t1 pr l => ?_
   have Z0 : Off F (s.heap.push (fR [] 0)) α (· = s.heap.objs.size) := by
    intro a q
    subst q
    refine ⟨?_, not_own t.st, λ o e q => ?_⟩
    · cases z : F.h₀.get? s.heap.objs.size with
      | none => rfl
      | some o => exact nomatch fr.symm.trans (t.st.base _ o z)
    · rw [g0] at e; cases e
      obtain ⟨_, _, z⟩ := q; cases z
   have g1 : s1.heap.get? s.heap.objs.size = some (fR [] 0) := f1.keep _ _ id (not_own t.st) g0
   have Z1 : Off F s1.heap α1 (· = s.heap.objs.size) := f1.off Z0 (λ _ _ => id) (by intro a q e; subst q; exact nomatch g0.symm.trans e)
   have zk : (((k :: ks).map keyD).zip vs).map (·.1) = (k :: ks).map keyD := zip_keys (by rw [aG]; exact l)
   refine store_go (by have := t.rm.line; lia) ps (acc := []) Z1 g1 .nil (by rw [bc, zk]; exact ap) ?_ pr λ es' m' h' tk hs Z2 g2 R => ?_
   · rw [List.length_zip, aG]
     exact aE (bB _ ▸ Nat.min_le_left ..) (aE h15 (by decide))
   have f2 : Af F (· = s.heap.objs.size) s1 { s1 with heap := h', toks := tk } α1 α1 := .of_off Z1 hs (lv_one hs g2) rfl rfl λ _ => id
   have f3 : Af F Nil s { s1 with heap := h', toks := tk } α α1 := Af.drop ((f0.tr f1).up.tr f2) λ a q => q ▸ fr
   exact ⟨e, ⟨f3.keep, f3.live, f3.pre.trans (dJ _ _), λ a q => (own_snoc q).elim (f3.sub a) λ q => .inr (q.elim (λ q => q ▸ fr) λ q => q ▸ fr), f3.gens, f3.os⟩,
    (t1.st.off Z1 hs).snoc Z2.adopt (λ _ _ _ e => e) (t1.st.off Z1 hs).base (λ _ e => e) (λ a q => q.elim (λ q => q ▸ ⟨(Z2 _ rfl).1, (Z2 _ rfl).2.1, λ e => nomatch g2.symm.trans e⟩) λ q => q ▸ ⟨(Z2 _ rfl).1, (Z2 _ rfl).2.1, λ e => nomatch g2.symm.trans e⟩)
     (.dict rfl g2 (R.mv Z2.adopt) (zk.symm ▸ ap : Apart ((((k :: ks).map keyD).zip vs).map (·.1)))), .l (at_end t1.st)⟩
end
section
variable {F : Fx} {n : Nat} {Γ : Cx} {A : bH} {E : aJ -> aK -> Prop} {env : Env} {ρ ρ' : Loc} {σ : fE} {s s' : aK} {h h' : Heap} {α α' : Pl} {x y z : aJ} {u v : V} {o a : AX} {es : List AX} {p q : Pos} {nm : Str} {W : av -> Prop}
theorem lget_set : ∀ {ρ : Loc} {i j : Nat} {o : Option V} {u : V}, lget (ρ.set i o) j = some u -> (j = i ∧ o = some u) ∨ (j ≠ i ∧ lget ρ j = some u)
 | [], i, j, o, u, h => nomatch h
 | _ :: _, 0, 0, o, u, h => .inl ⟨rfl, h⟩
 | _ :: _, 0, j + 1, o, u, h => .inr ⟨Nat.succ_ne_zero _, h⟩
 | _ :: _, i + 1, 0, o, u, h => .inr ⟨(Nat.succ_ne_zero _).symm, h⟩
 | _ :: r, i + 1, j + 1, o, u, h => (lget_set (ρ := r) h).imp (λ q => ⟨congrArg eE q.1, q.2⟩) λ q => ⟨λ e => q.1 (eH e), q.2⟩
theorem En.off1 (N : En F h α Γ env ρ) {b : av} (q : Fo env b) : Off F h α (· = b) := λ c e => e ▸ N.off b q
theorem En.put {b : av} {i : Nat} (N : En F h α Γ env ρ) (q : Fo env b) (k : Hk (· = b) h h') (hx : Γ.vars.lookup nm = some i) (ns : ∃ m, h'.Ns env.locals m)
 (cl : ∀ y c, env.cells.lookup y = some c -> ∃ v, h'.IsCell c v) (at_ : VarAt h' env nm x) (oth : ∀ y u, y ≠ nm -> VarAt h env y u -> VarAt h' env y u) (r : RV F h α x v) : En F h' α Γ env (ρ.set i (some v)) :=
 have m := (N.off1 q).mv k
 ⟨N.fix, ns, cl, N.place, λ j u hj h2 => (lget_set h2).elim (λ z => be _ (bx (z.1 ▸ N.fix.low _ _ hx) hj)) λ z => N.top j u hj z.2, λ y j u h1 h2 => (lget_set h2).elim (λ z => by
  obtain ⟨rfl, z⟩ := z
  cases z
  obtain rfl := N.fix.inj _ _ _ h1 hx
  exact ⟨x, at_, r.mv m⟩) λ z => let ⟨w, a1, r1⟩ := N.val y j u h1 z.2; ⟨w, oth y w (λ e => by subst e; rw [hx] at h1; cases h1; exact z.1 rfl) a1, r1.mv m⟩⟩
theorem sb_hk {b : av} (hs : b8 b h h') : Hk (· = b) h h' := λ c o n e => (hs.2 c n).trans e
theorem put_one (N : En F s.heap α Γ env ρ) (S : St F s.heap α σ) {i : Nat} (hx : Γ.vars.lookup nm = some i) (r : RV F s.heap α x v) {R : Unit -> aK -> Prop}
 (k : ∀ b s', Fo env b -> (env.kindOf nm = some .local -> b = env.locals) -> Af F (· = b) s s' α α -> St F s'.heap α σ -> En F s'.heap α Γ env (ρ.set i (some v)) -> R () s') : aQ F.m A (storeName env nm x) R E s := by
 obtain ⟨m, hm⟩ := N.ns
 have dis : ∀ {y : Str} {c : av}, env.cells.lookup y = some c -> c ≠ env.locals := λ hc e => by
  obtain ⟨v, o, g, hd⟩ := N.cells _ _ hc
  obtain ⟨o', es, ep, g', hd', _⟩ := hm
  rw [e, g'] at g; cases g; rw [hd'] at hd; cases hd
 rcases N.fix.vk nm i hx with hk | ⟨hk, c, hc⟩
 · have hl : Fo env env.locals := .inl rfl
   refine wpAny_storeName_local hk hm (λ h' hns hs => ?_) (by rw [N.fix.kind]; rfl)
   have q := sb_hk hs
   have lv : Lv s.heap h' := let ⟨o, _, _, e, _⟩ := hns; lv_one q e
   refine k env.locals { s with heap := h', toks := s.toks + 1 } hl (λ _ => rfl) (.of_off (N.off1 hl) q lv rfl rfl λ _ => id) (S.off (N.off1 hl) q) (N.put hl q hx ⟨_, hns⟩ (λ y c hc => ?_) (.loc hk hns (if_pos rfl)) (λ y u hy hv => ?_) r)
   · obtain ⟨v, z⟩ := N.cells y c hc
     exact ⟨v, cellKeep z λ o => q c o (dis hc)⟩
   · cases hv with
     | @loc m1 a1 b1 c1 => exact .loc a1 hns ((if_neg hy).trans (Heap.Ns.agree b1 hm y ▸ c1))
     | cell a1 b1 c1 => exact .cell a1 b1 (cellKeep c1 λ o => q _ o (dis b1))
 · obtain ⟨v₀, hc0⟩ := N.cells nm c hc
   have hl : Fo env c := .inr ⟨_, hc⟩
   refine wpAny_storeName_cell N.fix.kind hk hc hc0 λ h' hc' hs => ?_
   have q := sb_hk hs
   have lv : Lv s.heap h' := let ⟨o, e, _⟩ := hc'; lv_one q e
   refine k c { s with heap := h' } hl (λ z => nomatch hk.symm.trans z) (.of_off (N.off1 hl) q lv rfl rfl λ _ => id) (S.off (N.off1 hl) q) (N.put hl q hx ⟨m, nsKeep hm λ o => q _ o (dis hc).symm⟩ (λ y d hd => ?_) (.cell hk hc hc') (λ y u hy hv => ?_) r)
   · by_cases z : d = c
     · exact ⟨_, z ▸ hc'⟩
     · obtain ⟨v, w⟩ := N.cells y d hd
       exact ⟨v, cellKeep w λ o => q d o z⟩
   · cases hv with
     | loc a1 b1 c1 => exact .loc a1 (nsKeep b1 λ o => q _ o (dis hc).symm) c1
     | cell a1 b1 c1 => exact .cell a1 b1 (cellKeep c1 λ o => q _ o λ z => hy (N.fix.apart _ _ _ b1 (z ▸ hc)))
theorem Af.wide {W W' : av -> Prop} (x : Af F W s s' α α') (w : ∀ a, W a -> W' a) : Af F W' s s' α α' := ⟨λ a o n => x.keep a o λ q => n (w a q), x.live, x.pre, x.sub, x.gens, x.os⟩
noncomputable abbrev tgE (y : Str × Pos) : Expr := .Name y.1 y.2
theorem put_all : ∀ (xs : List (Str × Pos)) {is : List Nat} {vs : List aJ} {ds : List aA} {ρ : Loc} {s : aK} {R : Unit -> aK -> Prop}, slots Γ xs = some is -> ds.length = is.length -> fL F s.heap α vs ds -> En F s.heap α Γ env ρ -> St F s.heap α σ ->
 (∀ y ∈ xs, ∀ b, Fo env b -> (env.kindOf y.1 = some .local -> b = env.locals) -> W b) ->
 (∀ s', Af F W s s' α α -> St F s'.heap α σ -> En F s'.heap α Γ env (putAll is ds ρ) -> R () s') -> aQ F.m A (assignInOrder ((assignEach (xs.map tgE) env).map (·.2)) vs) R E s
 | [], is, vs, ds, ρ, s, R, hc, hl, r, N, S, hW, k => by
  cases hc
  cases r with
  | nil => exact assignInOrder_nil (k s Af.refl S N)
  | cons => cases hl
 | y :: xs, is, vs, ds, ρ, s, R, hc, hl, r, N, S, hW, k => by
  obtain ⟨i, hi, hc⟩ := bK.mp hc
  obtain ⟨is, hc2, rfl⟩ := aZ.mp hc
  cases r with
  | nil => cases hl
  | cons a r =>
   exact assignInOrder_cons (wpAny_assign_Name (put_one N S (slot_go hi).1 (.d a) λ b s1 hb hbl f1 S1 N1 =>
    put_all xs hc2 (eH hl) (fL.mv (f1.mv (N.off1 hb) S1.base) r) N1 S1 (λ y m => hW y (.tail _ m)) λ s2 f2 S2 N2 => k s2 ((f1.wide λ c e => e ▸ hW y (.head _) b hb hbl).tr f2) S2 N2))
theorem each_len : ∀ {xs : List (Str × Pos)} {is : List Nat}, slots Γ xs = some is -> (assignEach (xs.map tgE) env).length = is.length ∧ (assignEach (xs.map tgE) env).findIdx? (·.1) = none
 | [], is, h => by cases h; exact ⟨rfl, rfl⟩
 | y :: xs, is, h => by
  obtain ⟨i, hi, h⟩ := bK.mp h
  obtain ⟨is, h2, rfl⟩ := aZ.mp h
  obtain ⟨q1, q2⟩ := each_len h2
  show ((false, assign (.Name y.1 y.2) env) :: assignEach (xs.map tgE) env).length = _ ∧ ((false, assign (.Name y.1 y.2) env) :: assignEach (xs.map tgE) env).findIdx? (·.1) = none
  rw [cO, q2]
  exact ⟨congrArg eE q1, rfl⟩
noncomputable def AT.names : AT -> List Str
 | .one x _ => [x]
 | .many xs _ _ => xs.map (·.1)
theorem put_tg (hh : A.handled = none) (N : En F s.heap α Γ env ρ) (S : St F s.heap α σ) {t : AT} {tg : Tg} {d : aA} (ht : t.er Γ = some tg) {P : Loc -> Prop} (e : OW (tg.put ρ d) P) (r : Rd F s.heap α x d) {R : Unit -> aK -> Prop}
 (hW : ∀ y ∈ t.names, ∀ b, Fo env b -> (env.kindOf y = some .local -> b = env.locals) -> W b)
 (k : ∀ ρ' s', P ρ' -> tg.put ρ d = some ρ' -> Af F W s s' α α -> St F s'.heap α σ -> En F s'.heap α Γ env ρ' -> R () s') : aQ F.m A (assign t.de env x) R E s := by
 cases t with
 | one y p =>
  obtain ⟨i, hi, rfl⟩ := aZ.mp ht
  exact wpAny_assign_Name (put_one N S (slot_go hi).1 (.d r) λ b s' hb hbl f1 S1 N1 => k _ s' e rfl (f1.wide λ c e => e ▸ hW y (.head _) b hb hbl) S1 N1)
 | many xs c p =>
  obtain ⟨is, hi, rfl⟩ := aZ.mp ht
  refine OW.get e λ ρ' he hP => ?_
  have e : OW ((tupD d).bind λ xs => ck (decide (xs.length = is.length)) (putAll is xs ρ)) λ z => z = ρ' := by
   show OW (Tg.put ρ d (.many is)) _; rw [he]; exact rfl
  refine tupd_go r e.bind λ b vs ds g n q e => e.ck λ hl hz => ?_
  have hl := of_decide_eq_true hl
  obtain ⟨q1, q2⟩ := each_len (env := env) hi
  refine assign_Tuple_tuple hh (isTup_of g) (by rw [q1, aa, q.length, hl]) q2 λ h' he2 => ?_
  have kp : ∀ b o, s.heap.get? b = some o -> h'.get? b = some o := λ b o e => he2 b o (λ q => be _ (q ▸ cu e)) e
  have hk : Hk Nil s.heap h' := λ b o _ => kp b o
  have f0 : Af F Nil s { s with heap := h' } α α := .of_off .nil hk hk.lv rfl rfl λ _ => id
  have S1 := S.off .nil hk
  exact put_all xs (s := { s with heap := h' }) hi hl (q.mv (f0.m0 S1.base)) (N.after f0 S1.base) S1 (λ y m => hW _ (aj.mpr ⟨y, m, rfl⟩)) λ s2 f2 S2 N2 => k ρ' s2 hP he ((f0.up (W := W)).tr f2) S2 (hz ▸ N2)
end
section
variable {F : Fx} {n : Nat} {A : bH} {E : aJ -> aK -> Prop} {σ : fE} {s : aK} {h h' : Heap} {α α' : Pl} {x z : aJ} {u : V} {o a : AX} {q : Pos}
inductive IterAt (F : Fx) (h : Heap) (α : Pl) (I : av) : It -> Nat -> Prop
 | lst {a : V} {l : av} {i : Nat} : RV F h α (.ref l) a -> h.IsListIter I l i -> (∀ σ P, OW (fg σ a) P -> OW (listOf σ a) P) -> IterAt F h α I (.seq a) i
 | tup {xs : List aA} {l : av} {i : Nat} : Rd F h α (.ref l) (.tuple xs) -> h.IsTupleIter I l i -> IterAt F h α I (.seq (.d (.tuple xs))) i
 | rng {n i : Nat} : i <= n -> IsRangeIter h I i ((n : Int) - i) 1 -> IterAt F h α I (.rng n) i
 | rev {a : V} {l : av} {m i : Nat} : i <= m -> RV F h α (.ref l) a -> h.IsRevIter I l ((m : Int) - 1 - i) -> IterAt F h α I (.rev a m) i
variable {I : av} {it : It} {i : Nat}
theorem IterAt.obj (d : IterAt F h α I it i) : ∃ o, h.get? I = some o ∧ ∃ n vs, o.cls = .type n ∧ o.data = .fields vs ∧ ["enumerate", "zip", "dict_itemiterator", "dict_reverseitemiterator", "odict_iterator", "itertools.zip_longest", "itertools.pairwise"].contains n = false :=
 d.casesOn (λ _ ⟨o, e, c, d⟩ _ => ⟨o, e, _, _, c, d, by decide +kernel⟩) (λ _ ⟨o, e, c, d⟩ => ⟨o, e, _, _, c, d, by decide +kernel⟩) (λ _ e => ⟨_, e, _, _, rfl, rfl, by decide +kernel⟩) λ _ _ ⟨o, e, c, d⟩ => ⟨o, e, _, _, c, d, by decide +kernel⟩
theorem IterAt.off (d : IterAt F h α I it i) (b : F.h₀.get? I = none) (n : ¬ Own α I) : Off F h α (· = I) := λ c e => e ▸ ⟨b, n, λ o g ⟨_, _, z⟩ => by
 obtain ⟨o', g', _, _, _, d, _⟩ := d.obj
 rw [g] at g'; cases g'; exact nomatch z.symm.trans d⟩
theorem IterAt.mv (m : Mv F h h' α α') (k : ∀ o, h.get? I = some o -> h'.get? I = some o) (d : IterAt F h α I it i) : IterAt F h' α' I it i :=
 d.casesOn (λ r ⟨o, e, q⟩ n => .lst (r.mv m) ⟨o, k o e, q⟩ n) (λ r ⟨o, e, q⟩ => .tup (r.mv m) ⟨o, k o e, q⟩) (λ l e => .rng l (k _ e)) λ l r ⟨o, e, q⟩ => .rev l (r.mv m) ⟨o, k o e, q⟩
theorem eb_hk {b : av} (he : Heap.ExtBut b h h') : Hk (· = b) h h' := λ c o n => he c o n
theorem get_none {vs : List aJ} {ds : List aA} (r : fL F h α vs ds) (e : ds[i]? = none) : vs.toArray[i]? = none := by
 rw [bF, List.getElem?_eq_none_iff, r.length]; exact List.getElem?_eq_none_iff.mp e
theorem get_some {vs : List aJ} {ds : List aA} (r : fL F h α vs ds) {d : aA} (e : ds[i]? = some d) : ∃ hv, vs.toArray[i]? = some hv ∧ Rd F h α hv d := by
 obtain ⟨hv, h1, h2⟩ := r.get e
 exact ⟨hv, by rw [bF]; exact h1, h2⟩
theorem lst_at (S : St F h α σ) {l : av} {R : List aA -> Prop} (r : RV F h α (.ref l) u) (e : OW (listOf σ u) R) {C : Prop} (k : ∀ vs n xs, h.get? l = some (fV vs n) -> fL F h α vs xs -> R xs -> C) : C :=
 lst_go (C := λ z => z = .ref l -> C) S r e (λ a vs n xs g q w hz => by cases hz; exact k vs n xs g q w) rfl
theorem iter_next (hh : A.handled = none) (S : St F s.heap α σ) (hb : F.h₀.get? I = none) (hn : ¬ Own α I) (d : IterAt F s.heap α I it i) {P : Option aA -> Prop} (e : OW (it.at σ i) P) {R : Option aJ -> aK -> Prop}
 (item : ∀ x hv h' tk, P (some x) -> Rd F h' α hv x -> Hk (· = I) s.heap h' -> IterAt F h' α I it (i + 1) -> R (some hv) { s with heap := h', toks := tk })
 (fin : P none -> ∀ h' tk, Hk (· = I) s.heap h' -> R none { s with heap := h', toks := tk }) : aQ F.m A (pyNext (.ref I)) R E s := by
 have mv : ∀ {h'}, b8 I s.heap h' -> Mv F s.heap h' α α := λ hs => (d.off hb hn).mv (sb_hk hs)
 cases d with
 | lst ra hit hl =>
  refine lst_at S ra (hl _ _ (OW.map e)) λ vs m ds g q e => ?_
  cases hr : ds[i]? with
  | none => rw [hr] at e; exact wpAny_pyNext_list_end hh hit (isList_of g) (get_none q hr) λ h' he => fin e h' s.toks (eb_hk he)
  | some x =>
   rw [hr] at e
   obtain ⟨hv, h1, h2⟩ := get_some q hr
   exact wpAny_pyNext_list_item hit (isList_of g) h1 λ h' hit' hs => item x hv h' s.toks e (h2.mv (mv hs)) (sb_hk hs) (.lst (ra.mv (mv hs)) hit' hl)
 | @tup ds l _ ra hit =>
  have e : P (ds[i]?) := e
  have ra0 := ra
  cases ra with
  | tuple g hn q =>
   cases hr : ds[i]? with
   | none => rw [hr] at e; exact wpAny_pyNext_tuple_end hh hit (isTup_of g) (get_none q hr) λ h' he => fin e h' s.toks (eb_hk he)
   | some x =>
    rw [hr] at e
    obtain ⟨hv, h1, h2⟩ := get_some q hr
    exact wpAny_pyNext_tuple_item hit (isTup_of g) h1 λ h' hit' hs => item x hv h' s.toks e (h2.mv (mv hs)) (sb_hk hs) (.tup (ra0.mv (mv hs)) hit')
 | @rng m _ hi hit =>
  have e : P (cond (au i m) (some (.int i)) none) := e
  cases hlt : au i m with
  | true =>
   rw [hlt] at e
   have hlt := a9.mp hlt
   refine wpAny_pyNext_range_item hit (by lia) λ h' hit' hs => item (.int i) _ h' _ e (.int _ _) (sb_hk hs) (.rng hlt ?_)
   have : (m : Int) - i - 1 = (m : Int) - ((i + 1 : Nat) : Int) := by lia
   exact this ▸ hit'
  | false =>
   rw [hlt] at e
   have hlt : ¬ i < m := λ q => nomatch hlt.symm.trans (a9.mpr q)
   exact wpAny_pyNext_range_end hh hit (by lia) λ h' he => fin e h' s.toks (eb_hk he)
 | @rev a l m _ hi ra hit =>
  refine lst_at S ra (OW.bind e) λ vs c ds g q e => ?_
  cases hlt : au i m with
  | true =>
   rw [hlt] at e
   have hlt := a9.mp hlt
   refine OW.get (OW.map (show OW ((ds[m - 1 - i]?).map some) P from e)) λ x hr e => ?_
   obtain ⟨hv, h1, h2⟩ := get_some q hr
   have e3 : (m : Int) - 1 - i = ((m - 1 - i : Nat) : Int) := by lia
   rw [e3] at hit
   refine wpAny_pyNext_rev_item hit (isList_of g) h1 λ h' hit' hs => item x hv h' s.toks e (h2.mv (mv hs)) (sb_hk hs) (.rev hlt (ra.mv (mv hs)) ?_)
   have : ((m - 1 - i : Nat) : Int) - 1 = (m : Int) - 1 - ((i + 1 : Nat) : Int) := by lia
   exact this ▸ hit'
  | false =>
   rw [hlt] at e
   have hlt : ¬ i < m := λ q => nomatch hlt.symm.trans (a9.mpr q)
   have : (m : Int) - 1 - i = -1 := by lia
   rw [this] at hit
   exact wpAny_pyNext_rev_end hh hit λ h' he => fin e h' s.toks (eb_hk he)
end
section
variable {F : Fx} {O : Orc} {n : Nat} {Γ : Cx} {A : bH} {E : aJ -> aK -> Prop} {env : Env} {ρ : Loc} {σ : fE} {s s₁ : aK} {h : Heap} {α : Pl} {Q : Ps} {x z : aJ} {u v : V} {o a : AX} {as : List AX} {p q : Pos} {I : av} {it : It} {i k : Nat} {P : It -> Nat -> fE -> Prop}
theorem IterAt.letGo (d : IterAt F s.heap α I it i) {target : AT} {R : Unit -> aK -> Prop} (h : R () s) : aQ F.m A (da target.de (.ref I) x) R E s := by
 obtain ⟨o, ho, m, vs, hc, hd, hn⟩ := d.obj
 unfold da
 cases target with
 | one => exact aI h
 | many =>
  cases x with
  | ref =>
   refine aC (wpAny_load ho ?_)
   rw [hc, hd]
   dsimp only
   rw [hn, Bool.false_and]
   exact aI h
  | _ => exact aI h
theorem IterAt.self (d : IterAt F s.heap α I it i) {R : aJ -> aK -> Prop} (h : R (.ref I) s) : aQ F.m A (pyIter (.ref I)) R E s :=
 d.casesOn (λ _ q _ => wpAny_pyIter_listiter q h) (λ _ q => wpAny_pyIter_tupleiter q h) (λ _ q => wpAny_pyIter_rangeiter q h) λ _ _ q => wpAny_pyIter_revIter q h
inductive Made (F : Fx) (A : bH) (n : Nat) (Γ : Cx) (env : Env) (ρ : Loc) (s : aK) (α : Pl) (P : It -> Nat -> fE -> Prop) (x : aJ) (s₂ : aK) : Prop
 | mk {I : av} {it : It} {k : Nat} {σ1 : fE} {α1 : Pl} : x = .ref I -> P it k σ1 -> Af F Nil s s₂ α α1 -> At F A n Γ env ρ s₂ α1 σ1 -> s.heap.get? I = none -> ¬ Own α1 I -> ¬ Fo env I -> F.h₀.get? I = none -> IterAt F s₂.heap α1 I it 0 -> Made F A n Γ env ρ s α P x s₂
theorem made_push {s₀ : aK} {α₀ : Pl} {o : Obj} {tk : Tok} (hf : o.isFreed = false) (e : P it k σ) (f : Af F Nil s₀ s α₀ α) (t : At F A n Γ env ρ s α σ) (d : (s.heap.push o).get? s.heap.objs.size = some o -> Mv F s.heap (s.heap.push o) α α -> IterAt F (s.heap.push o) α s.heap.objs.size it 0) :
 Made F A n Γ env ρ s₀ α₀ P (.ref s.heap.objs.size) { s with heap := s.heap.push o, toks := tk } := by
 have hk : Hk Nil s.heap (s.heap.push o) := λ b x _ => fU o b x
 have f2 : Af F Nil s { s with heap := s.heap.push o, toks := tk } α α := .of_off .nil hk hk.lv rfl rfl λ _ => id
 have S2 := t.st.off .nil hk
 have fr : s.heap.get? s.heap.objs.size = none := ax (aW _)
 refine ⟨rfl, e, f.tr f2, t.after f2 S2, f.live _ fr, not_own t.st, λ h => t.en.alive _ h fr, ?_, d (ao _ hf) (Off.nil.mv hk)⟩
 cases q : F.h₀.get? s.heap.objs.size with
 | none => rfl
 | some x => exact nomatch fr.symm.trans (t.st.base _ x q)
theorem src_ex (h : SE F O n Γ a) (e : sIt (evE O (er F.T a Γ)) (.ex ()) ρ σ P) (t : At F A n Γ env ρ s α σ) : aQ F.m A (eval (de a) env) (λ xv s₁ => aQ F.m A (pyIter xv) (Made F A n Γ env ρ s α P) E s₁) E s :=
 h.go e t λ v σ1 hv s1 α1 e f1 t1 r1 => by
  have e : OW (fg σ1 v) λ xs => P (.seq v) xs.length σ1 := OW.map e
  have lst : (∀ σ R, OW (fg σ v) R -> OW (listOf σ v) R) -> aQ F.m A (pyIter hv) (Made F A n Γ env ρ s α P) E s1 := λ hl => by
   refine lst_go (C := λ x => RV F s1.heap α1 x v -> aQ F.m A (pyIter x) (Made F A n Γ env ρ s α P) E s1) t1.st r1 (hl _ _ e) (λ b vs m xs g q e r => ?_) r1
   exact wpAny_pyIter_list (isList_of g) (made_push rfl e f1 t1 λ g' m => .lst (r.mv m) ⟨_, g', rfl, rfl⟩ hl)
  cases r1 with
  | l => exact lst λ _ _ e => e
  | d r => cases r with
   | @tuple b vs xs g hn q => exact wpAny_pyIter_tuple (isTup_of g) (made_push rfl e f1 t1 λ g' m => .tup (.mv m (.tuple g hn q)) ⟨_, g', rfl, rfl⟩)
   | list => exact lst λ _ _ e => e
   | _ => exact False.elim e
theorem rsize (i : Int) : bb.Range.rangeSize 0 i 1 = (i.toNat : Int) := by
 unfold bb.Range.rangeSize
 rw [if_pos (by decide)]
 rw [Int.ediv_one]
 split <;> lia
theorem src_go (Wo' : Wo F) (h : SE F O n Γ a) {k : AK} {sk : Sk} (hk : k.er F.T Γ = some sk) (e : sIt (evE O (er F.T a Γ)) sk ρ σ P) (t : At F A n Γ env ρ s α σ) :
 aQ F.m A (eval (k.de (de a)) env) (λ xv s₁ => aQ F.m A (pyIter xv) (Made F A n Γ env ρ s α P) E s₁) E s := by
 cases k with
 | ex => cases hk; exact src_ex h e t
 | range q p =>
  refine OW.ck (Q := λ x => x = sk) (show OW (ck (Γ.isBi F.T "range") (Sk.range ())) _ by rw [show ck (Γ.isBi F.T "range") (Sk.range ()) = some sk from hk]; exact rfl) λ hx hz => ?_
  subst hz
  refine bi_call (as := [a]) (P := λ vs σ => OW (one (λ v => itOf σ v (.range ())) vs) λ it => OW (it.len σ) λ n => P it n σ) Wo' hx (f := .type "range") rfl (.inr ⟨_, rfl⟩) (λ e m => aM.mp m ▸ h) e t λ vs σ1 hvs s1 α1 e f1 t1 r1 l =>
   rv_one (C := λ hvs vs => OW (one (λ v => itOf σ1 v (.range ())) vs) (λ it => OW (it.len σ1) λ n => P it n σ1) -> aQ F.m A (call (.type "range") hvs) _ E s1) r1 l (λ x u r e => int_go r (OW.bind (OW.map (show OW ((intO u).map λ i => It.rng i.toNat) _ from e))) λ i tk e => e.ck λ sm e => ?_) e
  rw [small_iff] at sm
  have hk : Hk Nil s1.heap (s1.heap.push { cls := .type "range", data := .fields #[.int 0 s1.toks, .int i tk, .int 1 (s1.toks + 1)] }) := λ b x _ => fU _ b x
  have S2 := t1.st.off .nil hk
  have f2 : Af F Nil s1 { s1 with heap := s1.heap.push { cls := .type "range", data := .fields #[.int 0 s1.toks, .int i tk, .int 1 (s1.toks + 1)] }, toks := s1.toks + 1 + 1 } α1 α1 := .of_off .nil hk hk.lv rfl rfl λ _ => id
  refine call_range_1 (wpAny_pyIter_range (ao _ rfl) (small_one (by lia) (by lia) (by lia) (by lia)) ?_)
  rw [rsize]
  exact made_push (s := { s1 with heap := s1.heap.push { cls := .type "range", data := .fields #[.int 0 s1.toks, .int i tk, .int 1 (s1.toks + 1)] }, toks := s1.toks + 1 + 1 }) rfl e (f1.tr f2) (t1.after f2 S2) λ g' m => .rng (bA _) (by
   have z : ((i.toNat : Nat) : Int) - ((0 : Nat) : Int) = (i.toNat : Int) := by lia
   rw [z]; exact g')
 | rev q p =>
  refine OW.ck (Q := λ x => x = sk) (show OW (ck (Γ.isBi F.T "reversed") (Sk.rev ())) _ by rw [show ck (Γ.isBi F.T "reversed") (Sk.rev ()) = some sk from hk]; exact rfl) λ hx hz => ?_
  subst hz
  refine bi_call (as := [a]) (P := λ vs σ => OW (one (λ v => itOf σ v (.rev ())) vs) λ it => OW (it.len σ) λ n => P it n σ) Wo' hx (f := .type "reversed") rfl (.inr ⟨_, rfl⟩) (λ e m => aM.mp m ▸ h) e t λ vs σ1 hvs s1 α1 e f1 t1 r1 l => ?_
  refine rv_one (C := λ hvs vs => OW (one (λ v => itOf σ1 v (.rev ())) vs) (λ it => OW (it.len σ1) λ n => P it n σ1) -> aQ F.m A (call (.type "reversed") hvs) _ E s1) r1 l (λ x v r e => ?_) e
  have e : OW (listOf σ1 v) λ xs => P (.rev v xs.length) xs.length σ1 := OW.map (show OW ((listOf σ1 v).map λ xs => It.rev v xs.length) _ from e)
  refine lst_go (C := λ x => RV F s1.heap α1 x v -> aQ F.m A (call (.type "reversed") [x]) _ E s1) t1.st r e (λ b vs m xs g q e r => ?_) r
  have ln := q.length
  refine call_reversed_list (isList_of g) ?_
  have hit : (s1.heap.push (revObj b ((vs.toArray.size : Int) - 1))).IsRevIter s1.heap.objs.size b ((vs.toArray.size : Int) - 1) := ⟨_, ao _ rfl, rfl, rfl⟩
  refine wpAny_pyIter_revIter (s := { s1 with heap := s1.heap.push (revObj b ((vs.toArray.size : Int) - 1)) }) hit (made_push rfl e f1 t1 λ g' m => .rev (l := b) (bA _) (r.mv m) ?_)
  have z : (xs.length : Int) - 1 - ((0 : Nat) : Int) = (vs.toArray.size : Int) - 1 := by rw [aa, ln]; lia
  rw [z]; exact hit
end
section
variable {F : Fx} {O : Orc} {n : Nat} {Γ : Cx} {A : bH} {E : aJ -> aK -> Prop} {env : Env} {ρ : Loc} {σ : fE} {s s' s₀ s₁ : aK} {h h' : Heap} {α α₀ : Pl} {x y z : aJ} {v : V} {o a : AX} {b : List SX} {p q : Pos} {W : av -> Prop} {I : av} {it : It} {i k : Nat}
structure LI (F : Fx) (A : bH) (n : Nat) (Γ : Cx) (env : Env) (W : av -> Prop) (s₀ : aK) (α₀ : Pl) (I : av) (it : It) (i : Nat) (ρ : Loc) (σ : fE) (s : aK) (α : Pl) : Prop where
 af : Af F W s₀ s α₀ α
 t : At F A n Γ env ρ s α σ
 own : ¬ Own α I
 fo : ¬ Fo env I
 new : s₀.heap.get? I = none
 base : F.h₀.get? I = none
 it : IterAt F s.heap α I it i
theorem Af.skip {tk : Tok} (f : Af F W s₀ s α₀ α) (new : s₀.heap.get? I = none) (hk : Hk (· = I) s.heap h') : Af F W s₀ { s with heap := h', toks := tk } α₀ α :=
 ⟨λ a o w no e => hk a o (λ q => by rw [q] at e; exact nomatch new.symm.trans e) (f.keep a o w no e), λ a e => by
  by_cases q : a = I
  · exact q ▸ new
  · cases z : s.heap.get? a with
    | none => exact f.live a z
    | some o => exact (nomatch (hk a o q z).symm.trans e), f.pre, f.sub, f.gens, f.os⟩
theorem LI.go (L : LI F A n Γ env W s₀ α₀ I it i ρ σ s α) {t : AT} {tg : Tg} (ht : t.er Γ = some tg) (hW : ∀ y ∈ t.names, ∀ b, Fo env b -> (env.kindOf y = some .local -> b = env.locals) -> W b) (hF : ∀ b, W b -> Fo env b) {P : Option aA -> Prop} {PP : Loc -> Prop} (e : OW (it.at σ i) P) (hp : ∀ x, P (some x) -> OW (tg.put ρ x) PP)
 {Qn Qs : aK -> Prop} (fin : ∀ s', P none -> Af F W s₀ s' α₀ α -> At F A n Γ env ρ s' α σ -> Qn s') (step : ∀ ρ1 s2 x, PP ρ1 -> tg.put ρ x = some ρ1 -> LI F A n Γ env W s₀ α₀ I it (i + 1) ρ1 σ s2 α -> Qs s2) :
 aQ F.m A (pyNext (.ref I)) (λ r s₁ => match r with
  | none => Qn s₁
  | some v => aQ F.m A (da t.de (.ref I) v) (λ _ s₁' => aQ F.m A (assign t.de env v) (λ _ s₂ => Qs s₂) E s₁') E s₁) E s := by
 have Z := L.it.off L.base L.own
 have k1 : ∀ {h' : Heap} {tk : Tok}, Hk (· = I) s.heap h' -> Af F W s₀ { s with heap := h', toks := tk } α₀ α ∧ At F A n Γ env ρ { s with heap := h', toks := tk } α σ := λ hk =>
  ⟨L.af.skip L.new hk, ⟨L.t.rm, L.t.en.mv (Z.mv hk) (λ a q o => hk a o λ z => L.fo (z ▸ q)) λ a q => (L.t.en.place a q).2, L.t.st.off Z hk⟩⟩
 refine iter_next L.t.rm.1 L.t.st L.base L.own L.it e (λ x hv h' tk hx rd hk d => ?_) λ hx h' tk hk => fin _ hx (k1 hk).1 (k1 hk).2
 obtain ⟨f1, t1⟩ := k1 (tk := tk) hk
 refine IterAt.letGo (s := { s with heap := h', toks := tk }) d (put_tg (s := { s with heap := h', toks := tk }) (W := W) t1.rm.1 t1.en t1.st ht (hp x hx) rd hW λ ρ1 s2 hP hput f2 S2 N2 => ?_)
 have kI : ∀ o, h'.get? I = some o -> s2.heap.get? I = some o := λ o => f2.keep I o (λ w => L.fo (hF I w)) L.own
 exact step ρ1 s2 x hP hput ⟨f1.tr f2, ⟨t1.rm, N2, S2⟩, L.own, L.fo, L.new, L.base, d.mv (f2.mv (λ a w => t1.en.off a (hF a w)) S2.base) kI⟩
theorem qx_trans {α₁ : Pl} {Q : Fs} {hf : PySem.Flow} (x : Af F (Fo env) s s₁ α α₁) (q : QX F s₁ α₁ Γ env Q hf s') : QX F s α Γ env Q hf s' := q.casesOn λ q f S N fi => ⟨q, x.tr f, S, N, fi⟩
theorem qx_next {Q : Fs} {s₁ : aK} {α₁ : Pl} (q : Q .next ρ σ) (x : Af F (Fo env) s s₁ α α₁) (t : At F A n Γ env ρ s₁ α₁ σ) : QX F s α Γ env Q .next s₁ := ⟨q, x, t.st, t.en, .next⟩
theorem xb_all : ∀ (b : List SX), (∀ x ∈ b, XS F O n Γ x) -> XB F O n Γ b
 | [], _ => λ ρ σ A env s α E Q e t => wpAny_execs_nil (qx_next e .refl t)
 | x :: r, h => λ ρ σ A env s α E Q e t => wpAny_execs_cons (ah (h x (.head _) ρ σ A env s α E _ e t) (λ hf s1 q => q.casesOn λ q f S N fi => by
  cases fi with
  | next => exact ah (xb_all r (λ y m => h y (.tail _ m)) _ _ A env s1 _ E Q q ⟨t.rm, N, S⟩) (λ _ _ => qx_trans f) λ _ _ x => x
  | ret rr => exact ⟨q, f, S, N, .ret rr⟩) λ _ _ x => x)
theorem folded_de {env : Env} : foldedSetIterable (de a) env x = pure x := by
 cases a <;> rfl
theorem folded_ak {k : AK} {env : Env} : foldedSetIterable (k.de (de a)) env x = pure x := by
 cases k with
 | ex => exact folded_de
 | _ => rfl
theorem xs_for (Wo' : Wo F) {t : AT} {k : AK} (ha : SE F O n Γ a) (hb : XB F O n Γ b) : XS F O n Γ (.forL t k a b p) := λ ρ σ A env s α E Q e T =>
 opx_go (M := λ z => evX O z ρ σ Q) e (λ tg ht e => opx_go (M := λ z => evX O z ρ σ Q) e (λ sk hk e =>
  wpAny_For (ah (src_go Wo' ha hk e T) (λ xv s1 h => ah h (λ itv s2 m => by
   obtain @⟨I, it, k1, σ1, α1, hx, ev, f1, t1, new, own, fo, base, d⟩ := m
   subst hx
   refine codeAny_forLoop_any (λ k s3 => ∃ i ρi σi αi, LI F A n Γ env (Fo env) s α I it i ρi σi s3 αi ∧ evLoop (fc O (eXs F.T Γ b)) tg it k i ρi σi Q) (λ k s3 z => ?_) k1 ⟨0, ρ, σ1, α1, ⟨f1.up, t1, own, fo, new, base, d⟩, ev⟩
   obtain ⟨i, ρi, σi, αi, L, ev⟩ := z
   cases k with
   | zero => exact L.go ht (λ _ _ b q _ => q) (λ _ => id) ev (PP := λ _ => False) (λ x h => h.elim) (λ s' q f t => wpAny_execs_nil (qx_next q f t)) λ _ _ _ h => h.elim
   | succ k =>
    refine L.go ht (λ _ _ b q _ => q) (λ _ => id) ev (λ x h => h) (λ s' q f t => wpAny_execs_nil (qx_next q f t)) λ ρ1 s4 x e _ L2 => ?_
    refine ah (hb _ _ A env s4 αi _ _ e L2.t) (λ hf s6 q => ?_) λ _ _ x => x
    obtain @⟨fl, ρ6, σ6, α6, q, f, S, N, fi⟩ := q
    cases fi with
    | next =>
     have kI : ∀ o, s4.heap.get? I = some o -> s6.heap.get? I = some o := λ o => f.keep I o L2.fo L2.own
     refine ⟨k, cQ k, i + 1, ρ6, σ6, α6, ⟨L2.af.tr f, ⟨L2.t.rm, N, S⟩, λ q => (f.sub I q).elim L2.own λ e => ?_, L2.fo, L2.new, L2.base, L2.it.mv (f.mv L2.t.en.off S.base) kI⟩, q⟩
     obtain ⟨o, g, _⟩ := L2.it.obj
     exact nomatch g.symm.trans e
    | ret rr => exact ⟨q, L2.af.tr f, S, N, .ret rr⟩) λ _ _ x => x) λ _ _ x => x) λ _ => folded_ak) λ _ e => False.elim e) λ _ e => False.elim e
end
section
variable {F : Fx} {O : Orc} {n : Nat} {Γ : Cx} {A : bH} {E : aJ -> aK -> Prop} {env : Env} {ρ ρ' : Loc} {σ : fE} {s s' s₁ : aK} {h : Heap} {α : Pl} {x y z : aJ} {v : V} {o a c : AX} {b b' : List SX} {p q : Pos} {nm : Str} {W : av -> Prop} {i k : Nat}
theorem xs_while (ht : ST_ F O n Γ c) (hb : XB F O n Γ b) : XS F O n Γ (.whl c b p) := λ ρ σ A env s α E Q e T => by
 obtain ⟨k0, e⟩ := e
 refine wpAny_While (codeAny_whileLoop (λ k s3 => ∃ ρi σi αi, Af F (Fo env) s s3 α αi ∧ At F A n Γ env ρi s3 αi σi ∧ wIter (evE O (er F.T c Γ)) (fc O (eXs F.T Γ b)) k ρi σi Q) (λ k s3 z => ?_) k0 ⟨ρ, σ, α, .refl, T, e⟩)
 obtain ⟨ρi, σi, αi, f3, T3, e⟩ := z
 cases k with
 | zero => exact False.elim e
 | succ k =>
  refine ht.go e T3 λ z σ4 s4 α4 e f4 T4 => ?_
  cases z with
  | true =>
   refine ah (hb ρi σ4 A env s4 α4 _ _ e T4) (λ hf s5 q => q.casesOn λ q f5 S5 N5 fi => ?_) λ _ _ x => x
   cases fi with
   | next => exact ⟨k, cQ k, _, _, _, (f3.tr f4.up).tr f5, ⟨T4.rm, N5, S5⟩, q⟩
   | ret rr => exact ⟨q, (f3.tr f4.up).tr f5, S5, N5, .ret rr⟩
  | false => exact wpAny_execs_nil (qx_next e (f3.tr f4.up) T4)
theorem xs_if (ht : ST_ F O n Γ c) (ha : XB F O n Γ b) (hb : XB F O n Γ b') : XS F O n Γ (.ite c b b' p) := λ ρ σ A env s α E Q e T =>
 wpAny_If (ht.go e T λ z σ1 s1 α1 e f1 T1 => by
  cases z with
  | true => exact ah (ha ρ σ1 A env s1 α1 E Q e T1) (λ _ _ => qx_trans f1.up) λ _ _ x => x
  | false => exact ah (hb ρ σ1 A env s1 α1 E Q e T1) (λ _ _ => qx_trans f1.up) λ _ _ x => x)
theorem xs_ret (h : SE F O n Γ a) : XS F O n Γ (.ret a p) := λ ρ σ A env s α E Q e T => by
 have e : evE O (cond a.isNo (.c .none) (er F.T a Γ)) ρ σ λ v σ => Q (.ret v) ρ σ := e
 show aQ F.m A (exec (.Return (cond a.isNo none (some (de a))) p) env) _ E s
 cases q : a.isNo with
 | true => rw [q] at e; exact wpAny_Return_none ⟨e, .refl, T.st, T.en, .ret (.d .none)⟩
 | false => rw [q] at e; exact wpAny_Return_some (h.go e T λ v σ1 hv s1 α1 e f1 T1 r1 => ⟨e, f1.up, T1.st, T1.en, .ret r1⟩)
theorem no_swap (h : a.comp = false) {t : Option Expr} {l : Nat} : swapsWith (de a) t l env = pure false := by
 cases a <;> first | rfl | exact aN h
theorem not_false {b : Bool} (h : (!b) = true) : b = false := by cases b <;> first | rfl | exact h.symm
theorem xs_ex (h : SE F O n Γ a) : XS F O n Γ (.ex a p) := λ ρ σ A env s α E Q e T =>
 ifx_go (M := λ z => evX O z ρ σ Q) e id λ hc e => wpAny_Expr_any (h.go e T λ v σ1 hv s1 α1 e f1 T1 r1 => qx_next e f1.up T1) (by unfold interactive; rw [T.en.fix.kind]; rfl) (no_swap (not_false hc))
theorem put_end {s₁ : aK} {α₁ : Pl} {i : Nat} {Q : Fs} (e : Q .next (ρ.set i (some v)) σ) (f : Af F (Fo env) s s₁ α α₁) (T : At F A n Γ env ρ s₁ α₁ σ) (hx : Γ.vars.lookup nm = some i) (r : RV F s₁.heap α₁ x v) : aQ F.m A (storeName env nm x) (λ _ => QX F s α Γ env Q .next) E s₁ :=
 put_one T.en T.st hx r λ b s' hb _ f2 S2 N2 => ⟨e, f.tr (f2.wide λ c e => e ▸ hb), S2, N2, .next⟩
theorem xs_asg (hc : a.comp = false) (h : SE F O n Γ a) : XS F O n Γ (.asg nm q a p) := λ ρ σ A env s α E Q e T =>
 opx_go (M := λ z => evX O z ρ σ Q) e (λ i hi e => wpAny_Assign_Name (h.go e T λ v σ1 hv s1 α1 e f1 T1 r1 => put_end e f1.up T1 (slot_go hi).1 r1) (no_swap hc)) λ _ e => False.elim e
theorem swap_other {t : Expr} {l : Nat} (ht : ∀ y p, t ≠ .Name y p) : swapsWith (de a) (some t) l env = pure false := by
 cases a with
 | lc => cases t <;> first | rfl | exact absurd rfl (ht _ _)
 | lc2 => cases t <;> first | rfl | exact absurd rfl (ht _ _)
 | _ => rfl
theorem no_stores {ts : List Expr} {k : Nat} (h : a.isTup = false) : swappedStores [.Tuple ts k q] (de a) env = pure none := by
 cases a <;> first | rfl | exact aN h
theorem xs_asgT {xs : List (Str × Pos)} {k : Nat} (h : SE F O n Γ a) : XS F O n Γ (.asgT xs k q a p) := λ ρ σ A env s α E Q e T =>
 ifx_go (M := λ z => evX O z ρ σ Q) e id λ hT e => opx_go (M := λ z => evX O z ρ σ Q) e (λ is hi e => Assign_Tuple (h.go e T λ v σ1 hv s1 α1 e f1 T1 r1 => dat_go r1 (OW.bind e) λ d r e =>
  put_tg (W := Fo env) (t := .many xs k q) (tg := .many is) T1.rm.1 T1.en T1.st (by show (slots Γ xs).map _ = _; rw [hi]; rfl) e r (λ _ _ _ q _ => q) λ ρ' s' e _ f2 S2 N2 => ⟨e, f1.up.tr f2, S2, N2, .next⟩) (show swapsWith (de a) (some (Expr.Tuple (xs.map λ y => .Name y.1 y.2) k q)) p.line env = pure false from swap_other λ y p z => nomatch z) (no_stores (not_false hT))) λ _ e => False.elim e
theorem xs_setI (Wo' : Wo F) (ho : SE F O n Γ o) (hi : SE F O n Γ c) (hv : SE F O n Γ a) : XS F O n Γ (.setI o c q a p) := λ ρ σ A env s α E Q e T =>
 wpAny_Assign_Subscript (hv.go e T λ v σ1 h1 s1 α1 e f1 T1 r1 => ho.go e T1 λ x σ2 h2 s2 α2 e f2 T2 r2 => hi.go e T2 λ y σ3 h3 s3 α3 e f3 T3 r3 =>
  op_setI Wo' T3.rm.line T3.st (r2.mv (f3.m0 T3.st.base)) r3 ((r1.mv (f2.m0 T2.st.base)).mv (f3.m0 T3.st.base)) e λ s4 σ4 e f4 S4 => qx_next e (((f1.tr f2).tr f3).tr f4).up (T3.after f4 S4)) (swap_other λ y p z => nomatch z)
theorem xs_setA (Wc : Wk F) (ho : SE F O n Γ o) (hv : SE F O n Γ a) : XS F O n Γ (.setA o nm q a p) := λ ρ σ A env s α E Q e T =>
 opx_go (M := λ z => evX O z ρ σ Q) e (λ k hk e => plainObj_wpAny_Assign_Attribute (hv.go e T λ v σ1 h1 s1 α1 e f1 T1 r1 => ho.go e T1 λ x σ2 h2 s2 α2 e f2 T2 r2 =>
  op_setA Wc T2.st r2 (r1.mv (f2.m0 T2.st.base)) (num_at hk) e λ s4 σ4 e f4 S4 => qx_next e ((f1.tr f2).tr f4).up (T2.after f4 S4)) (swap_other λ y p z => nomatch z)) λ _ e => False.elim e
theorem xs_aug (h : SE F O n Γ a) : XS F O n Γ (.aug nm q a p) := λ ρ σ A env s α E Q e T =>
 opx_go (M := λ z => evX O z ρ σ Q) e (λ i hi e => OW.get e λ w hw e => wpAny_AugAssign_Name (load_var T.en (slot_go hi).1 hw λ hw rw_ => h.go e T λ v σ1 hv s1 α1 e f1 T1 r1 =>
  two_int (rw_.mv (f1.m0 T1.st.base)) r1 e λ a b t t' e => PyProof.Rows.iadd_int (put_end (s₁ := { s1 with toks := s1.toks + 1 }) e (f1.tr .tok).up T1.tok (slot_go hi).1 (.d (.int _ _))))) λ _ e => False.elim e
end
section
variable {env : Env} {names : List (Str × dF)}
theorem lookup_map {β γ : Type} {f : Str × β -> Str × γ} {g : Str -> β -> γ} (hf : ∀ p, f p = (p.1, g p.1 p.2)) : ∀ (l : List (Str × β)) (x : Str), (l.map f).lookup x = (l.lookup x).map (g x)
 | [], _ => rfl
 | p :: r, x => by
  rw [ba, hf, dn, dn]
  cases q : x == p.1 with
  | true => rw [<- eq_of_beq q]; rfl
  | false => exact lookup_map hf r x
noncomputable def clGo (env : Env) : List (Str × dF) -> List (Str × av) -> List (Str × av)
 | [], acc => acc
 | p :: r, acc => cond (p.2 == .free) (clGo env r ((p.1, (env.cells.lookup p.1).getD 0) :: acc)) (clGo env r acc)
theorem clGo_ok : ∀ (names : List (Str × dF)), (∀ p ∈ names, p.2 = .free -> ∃ c, env.cells.lookup p.1 = some c) -> ∀ acc : List (Str × av),
 (forIn names acc λ (x : Str × dF) (r : List (Str × av)) => (if (x.2 == eR) = true then (do let c <- cellOf env x.1; pure (dt ((x.1, c) :: r))) else pure (dt r) : Sem (ForInStep (List (Str × av))))) = pure (clGo env names acc)
 | [], _, acc => rfl
 | p :: r, h, acc => by
  have ih := clGo_ok r (λ q m => h q (.tail _ m))
  rw [List.forIn_cons]
  unfold clGo
  cases hk : p.2 == eR with
  | true =>
   obtain ⟨c, hc⟩ := h p (.head _) (eq_of_beq hk)
   rw [if_pos rfl, show cellOf env p.1 = pure c by unfold cellOf; rw [hc], pure_bind, pure_bind, hc]
   exact ih _
  | false =>
   rw [if_neg bO, pure_bind]
   exact ih _
theorem clGo_sub : ∀ (names : List (Str × dF)), (∀ p ∈ names, p.2 = .free -> ∃ c, env.cells.lookup p.1 = some c) -> ∀ acc : List (Str × av), (∀ x c, acc.lookup x = some c -> env.cells.lookup x = some c) -> ∀ x c, (clGo env names acc).lookup x = some c -> env.cells.lookup x = some c
 | [], _, acc, ha => ha
 | p :: r, h, acc, ha => by
  unfold clGo
  cases hk : p.2 == eR with
  | true =>
   obtain ⟨c, hc⟩ := h p (.head _) (eq_of_beq hk)
   refine clGo_sub r (λ q m => h q (.tail _ m)) _ λ x d hd => ?_
   rw [dn] at hd
   cases q : x == p.1 with
   | true => rw [q, hc] at hd; rw [eq_of_beq q, hc]; exact hd
   | false => rw [q] at hd; exact ha x d hd
  | false => exact clGo_sub r (λ q m => h q (.tail _ m)) _ ha
theorem clGo_has {x : Str} : ∀ (names : List (Str × dF)) (acc : List (Str × av)), (x, .free) ∈ names ∨ (∃ c, acc.lookup x = some c) -> ∃ c, (clGo env names acc).lookup x = some c
 | [], acc, h => h.elim (λ m => nomatch m) id
 | p :: r, acc, h => by
  unfold clGo
  cases hk : p.2 == eR with
  | true =>
   refine clGo_has r _ (h.elim (λ m => (aP.mp m).elim (λ e => .inr ?_) .inl) λ ⟨c, hc⟩ => .inr ?_)
   · rw [<- e, dn, beq_self_eq_true]; exact ⟨_, rfl⟩
   · rw [dn]
     cases x == p.1 with
     | true => exact ⟨_, rfl⟩
     | false => exact ⟨c, hc⟩
  | false => exact clGo_has r _ (h.imp (λ m => (aP.mp m).elim (λ e => by rw [<- e] at hk; cases hk) id) id)
end
section
variable {F : Fx} {n : Nat} {Γ Δ : Cx} {env : Env} {ρ : Loc} {h h' : Heap} {α α' : Pl} {sc : Scope}
structure ScOk (Γ Δ : Cx) (sc : Scope) : Prop where
 kind : sc.kind = .function
 name : ∀ p ∈ sc.names, (p.2 = .local ∧ sc.names.lookup p.1 = some .local) ∨ p.2 = .globalImplicit ∨ (p.2 = .free ∧ p.1 ∈ Γ.cl ∧ ∃ i, Γ.vars.lookup p.1 = some i)
 le : Γ.n <= Δ.n
 inj : ∀ x y i, Δ.vars.lookup x = some i -> Δ.vars.lookup y = some i -> x = y
 low : ∀ x i, Δ.vars.lookup x = some i -> i < Δ.n
 var : ∀ x i, Δ.vars.lookup x = some i -> (sc.names.lookup x = some .local ∧ Γ.n <= i) ∨ (sc.names.lookup x = some .free ∧ Γ.vars.lookup x = some i)
 cl : ∀ x ∈ Δ.cl, sc.names.lookup x = some .free
 glob : ∀ x ∈ Δ.glob, sc.names.lookup x = some .globalImplicit
theorem or_eq {a b : Bool} (h : (a || b) = true) : a = true ∨ b = true := (cX _ _).mp h
theorem scope_ok (h : Γ.scope sc = some Δ) : ScOk Γ Δ sc :=
 OW.ck (OW.bind (Q := λ x => x = Δ) (show OW (Γ.scope sc) λ x => x = Δ by rw [h]; exact rfl)) λ hk e => OW.get e.bind λ D _ e => e.ck λ c hz => by
  subst hz
  have v : ∀ x i, D.vars.lookup x = some i -> _ := λ x i hx => aT.mp (fG (and2 c)) _ (mem_of_lookup hx)
  refine ⟨eq_of_beq hk, λ p hp => (or_eq (aT.mp (fG (fG c)) p hp)).elim (λ q => (or_eq q).imp (λ q => ⟨eq_of_beq (fG q), eq_of_beq (and2 q)⟩) λ q => .inl (eq_of_beq q)) λ q => .inr (.inr ⟨eq_of_beq (fG (fG q)), cJ.mp (and2 (fG q)), ez.mp (and2 q)⟩),
   aF (and2 (fG c)), λ x y i hx hy => (or_eq (aT.mp (fG (fG (v x i hx))) _ (mem_of_lookup hy))).elim (λ q => by rw [beq_self_eq_true] at q; cases q) eq_of_beq, λ x i hx => a9.mp (and2 (fG (v x i hx))),
   λ x i hx => (or_eq (and2 (v x i hx))).imp (λ q => ⟨eq_of_beq (fG q), aF (and2 q)⟩) λ q => ⟨eq_of_beq (fG q), eq_of_beq (and2 q)⟩, λ x m => eq_of_beq (aT.mp (fG (and2 (and2 c))) x m), λ x m => eq_of_beq (aT.mp (and2 (and2 (and2 c))) x m)⟩
noncomputable abbrev clOf (env : Env) (sc : Scope) : List (Str × av) := clGo env sc.names []
theorem ScOk.cell (X : ScOk Γ Δ sc) (N : EnS Γ env) (p : Str × dF) (m : p ∈ sc.names) (hk : p.2 = .free) : ∃ c, env.cells.lookup p.1 = some c :=
 (X.name p m).elim (λ q => nomatch hk.symm.trans q.1) λ q => q.elim (λ q => nomatch hk.symm.trans q) λ ⟨_, hc, i, hi⟩ => (N.vk _ i hi).elim (λ q => nomatch (N.ck _ hc).symm.trans q) And.right
theorem closure_pure (X : ScOk Γ Δ sc) (N : EnS Γ env) : closureFor sc env = pure (clOf env sc) := by
 have := clGo_ok sc.names (X.cell N) []
 unfold closureFor
 simp only [bind_pure] at this ⊢
 exact this
theorem kind_in (N : EnS Γ env) {C : av} {x : Str} {k : dF} (h : sc.names.lookup x = some k) : (compEnvC sc (clOf env sc) C env).kindOf x = some (if (k == eR && env.scope.kind == .function && env.kindOf x == some .cell) = true then .cell else k) := by
 show (sc.names.map _).lookup x = _
 rw [lookup_map (g := λ x k => if (k == eR && env.scope.kind == .function && env.kindOf x == some .cell) = true then .cell else k) (λ p => by dsimp only; split <;> rfl), h]
 rfl
theorem kind_free (X : ScOk Γ Δ sc) (N : EnS Γ env) {C : av} {x : Str} (h : sc.names.lookup x = some .free) : (compEnvC sc (clOf env sc) C env).kindOf x = some .cell ∧ x ∈ Γ.cl := by
 have hc : x ∈ Γ.cl := (X.name _ (mem_of_lookup h)).elim (λ q => nomatch q.1) λ q => q.elim (λ q => nomatch q) λ q => q.2.1
 rw [kind_in N h, N.kind, N.ck x hc]
 exact ⟨rfl, hc⟩
theorem En.comp (X : ScOk Γ Δ sc) (N : En F h α Γ env ρ) {C : av} (m : Mv F h h' α α') (k : ∀ b o, h.get? b = some o -> h'.get? b = some o) (pl : ∀ a, Fo env a -> ¬ Own α' a) (hC : F.h₀.get? C = none ∧ ¬ Own α' C) (ns : h'.Ns C λ _ => none) : En F h' α' Δ (compEnvC sc (clOf env sc) C env) ρ := by
 have sub : ∀ x c, (clOf env sc).lookup x = some c -> env.cells.lookup x = some c := clGo_sub sc.names (X.cell N.fix) [] λ x c h => nomatch h
 have has : ∀ x, sc.names.lookup x = some .free -> ∃ c, (clOf env sc).lookup x = some c := λ x h => clGo_has sc.names [] (.inl (mem_of_lookup h))
 refine ⟨⟨X.kind, N.fix.globals, N.fix.builtins, λ x y c hx hy => N.fix.apart x y c (sub x c hx) (sub y c hy), λ x i hx => (X.var x i hx).imp (λ q => kind_in N.fix q.1) λ q => ⟨(kind_free X N.fix q.1).1, has x q.1⟩, λ x hx => (kind_free X N.fix (X.cl x hx)).1,
  λ x hx => kind_in N.fix (X.glob x (cJ.mp (and2 (fG hx)))), X.inj, X.low⟩, ⟨_, ns⟩, λ x c hc => let ⟨v, z⟩ := N.cells x c (sub x c hc); ⟨v, cellKeep z (k c)⟩, λ a q => q.elim (λ e => e ▸ hC) λ ⟨x, hx⟩ => ⟨(N.place a (.inr ⟨x, sub x a hx⟩)).1, pl a (.inr ⟨x, sub x a hx⟩)⟩, λ i v hi => N.top i v (aE X.le hi), λ x i v hx hv => ?_⟩
 rcases X.var x i hx with q | q
 · exact (N.top i v q.2 hv).elim
 · obtain ⟨w, a, b⟩ := N.val x i v q.2 hv
   have kf := kind_free (C := C) X N.fix q.1
   obtain ⟨c, hc⟩ := has x q.1
   refine ⟨w, ?_, b.mv m⟩
   cases a with
   | loc a1 => exact nomatch (N.fix.ck x kf.2).symm.trans a1
   | cell a1 b1 c1 =>
    have := sub x c hc
    rw [b1] at this; cases this
    exact .cell kf.1 hc (cellKeep c1 (k _))
end
section
variable {F : Fx} {O : Orc} {n : Nat} {Δ : Cx} {A : bH} {E : aJ -> aK -> Prop} {env : Env} {ρ ρ₁ : Loc} {σ σ' : fE} {s s' s₀ s₁ : aK} {h h' : Heap} {α α' α₀ : Pl} {sc : Scope} {a c : AX} {x : aJ} {v : V} {t : AT} {tg : Tg} {I D : av} {it : It} {i k m d : Nat}
theorem lget_ne : ∀ {ρ : Loc} {i j : Nat} {o : Option V}, i ≠ j -> lget (ρ.set i o) j = lget ρ j
 | [], _, _, _, _ => rfl
 | _ :: _, 0, 0, _, h => (h rfl).elim
 | _ :: _, 0, _ + 1, _, _ => rfl
 | _ :: _, _ + 1, 0, _, _ => rfl
 | _ :: r, i + 1, j + 1, o, h => lget_ne (ρ := r) λ e => h (congrArg eE e)
theorem putAll_below : ∀ {is : List Nat} {xs : List aA} {ρ : Loc} {j : Nat}, (is.all λ i => bV m i) = true -> j < m -> lget (putAll is xs ρ) j = lget ρ j
 | [], _, _, _, _, _ => rfl
 | _ :: _, [], _, _, _, _ => rfl
 | i :: is, x :: xs, ρ, j, h, l => (putAll_below (is := is) (and2 h) l).trans (lget_ne λ e => be _ (bx l (e ▸ aF (fG h))))
theorem put_below {y : aA} (h : tg.put ρ y = some ρ₁) (ha : tg.above m = true) {j : Nat} (l : j < m) : lget ρ₁ j = lget ρ j := by
 cases tg with
 | one i => cases h; exact lget_ne λ e => be _ (bx l (e ▸ aF ha))
 | many is => exact OW.get (OW.bind (show OW (Tg.put ρ y (.many is)) λ z => z = ρ₁ by rw [h]; exact rfl)) λ ds _ e => OW.ck (Q := λ z => z = ρ₁) e λ _ hz => hz ▸ putAll_below (is := is) ha l
def OwnLoc (m : Nat) (Δ : Cx) (env : Env) : Prop := ∀ x i, Δ.vars.lookup x = some i -> m <= i -> env.kindOf x = some .local
theorem slots_local (hO : OwnLoc m Δ env) : ∀ {xs : List (Str × Pos)} {is : List Nat}, slots Δ xs = some is -> (is.all λ i => bV m i) = true -> ∀ y ∈ xs, env.kindOf y.1 = some .local
 | [], _, _, _, y, m => nomatch m
 | z :: xs, is, h, ha, y, m => by
  obtain ⟨i, hi, h⟩ := bK.mp h
  obtain ⟨is, h2, rfl⟩ := aZ.mp h
  exact (aP.mp m).elim (λ e => e ▸ hO _ _ (slot_go hi).1 (aF (fG ha))) λ m => slots_local hO h2 (and2 ha) y m
theorem tg_local (hO : OwnLoc m Δ env) (ht : t.er Δ = some tg) (ha : tg.above m = true) : ∀ y ∈ t.names, env.kindOf y = some .local := by
 cases t with
 | one y p =>
  obtain ⟨i, hi, rfl⟩ := aZ.mp ht
  exact λ z hz => aM.mp hz ▸ hO _ _ (slot_go hi).1 (aF ha)
 | many xs c p =>
  obtain ⟨is, hi, rfl⟩ := aZ.mp ht
  exact λ z hz => let ⟨y, hy, e⟩ := aj.mp hz; e ▸ slots_local hO hi ha y hy
theorem En.weak (N : En F h α Δ env ρ₁) (hv : ∀ (i : Nat) (v : V), lget ρ i = some v -> lget ρ₁ i = some v) : En F h α Δ env ρ :=
 ⟨N.fix, N.ns, N.cells, N.place, λ i v hi e => N.top i v hi (hv i v e), λ x i v h1 h2 => N.val x i v h1 (hv i v h2)⟩
def Tests (F : Fx) (A : bH) (n : Nat) (Δ : Cx) (env : Env) (ifs : List Expr) (tst : Sx) : Prop := ∀ (ρ : Loc) (σ : fE) (s : aK) (α : Pl) (E : aJ -> aK -> Prop) (Q : Bool -> fE -> Prop), tst ρ σ (kT Q) -> At F A n Δ env ρ s α σ ->
 aQ F.m A (forIn ifs true λ c r => if r = true then do let ok <- isTrue c env (eval c env); pure (dt ok) else pure (dt r)) (QB F s α Q) E s
theorem app_cell (S : St F s.heap α σ) (hp : α[d]? = some (D, D)) (r : RV F s.heap α x v) {P : fE -> Prop} (e : OW (appendD σ (.l d) v) P) {R : aJ -> aK -> Prop} (k : ∀ s' σ', P σ' -> Af F Nil s s' α α -> St F s'.heap α σ' -> R .none s') : aQ F.m A (call (.builtin "list.append") [.ref D, x]) R E s := by
 have e : OW (((σ[d]?).bind λ c => (cL c).map λ xs => (d, xs)).bind λ p => (dataOf v).bind λ y => ck (fits p.2) (σ.set p.1 (.list (p.2 ++ [y])))) P := e
 refine cell_go S hp e.bind.bind λ c _ z e => cL_go z (OW.map e) λ vs q xs e2 g r2 e => dat_go r e.bind λ y rd e => e.ck λ ft w => ?_
 refine append_at (its := vs.toArray) (n := q) g (λ h' hs g' => ?_) (by have := sz_le r2 ft; rw [fS]; lia)
 rw [List.push_toArray] at g'
 have hk := sb_hk hs
 exact k { s with heap := h' } _ w (af_own hk (.at hp (.inl rfl)) g' rfl rfl) (S.write hp (.inl rfl) hk g' (.list rfl g' (fL.mv (mv_own S hk (.at hp (.inl rfl))) (r2.append (.cons rd .nil)))))
theorem evComp_go {turn : Loc -> fE -> (fE -> Prop) -> Prop} {P : fE -> Prop} (ev : fq turn tg it ρ k i σ P) : OW (it.at σ i) (osel (P σ) λ x => OW (tg.put ρ x) λ ρ₁ => ∃ j, k = j + 1 ∧ turn ρ₁ σ λ σ => fq turn tg it ρ j (i + 1) σ P) := by
 cases k with
 | zero => exact OW.mono (λ o h => by cases o <;> first | exact h | exact False.elim h) ev
 | succ k => exact OW.mono (λ o h => by
  cases o with
  | none => exact h
  | some x => exact OW.mono (λ ρ₁ h => ⟨k, rfl, h⟩) h) ev
inductive CInv (F : Fx) (A : bH) (n : Nat) (Δ : Cx) (env : Env) (s₀ : aK) (α₀ : Pl) (I : av) (it : It) (ρ : Loc) (tg : Tg) (turn : Loc -> fE -> (fE -> Prop) -> Prop) (P : fE -> Prop) (α : Pl) (k : Nat) (s : aK) : Prop
 | mk {i : Nat} {σ : fE} {α' : Pl} : α <+: α' -> LI F A n Δ env (· = env.locals) s₀ α₀ I it i ρ σ s α' -> fq turn tg it ρ k i σ P -> CInv F A n Δ env s₀ α₀ I it ρ tg turn P α k s
inductive CMid (F : Fx) (A : bH) (n : Nat) (Δ : Cx) (env : Env) (s₀ : aK) (α₀ : Pl) (I : av) (it : It) (ρ : Loc) (tg : Tg) (turn : Loc -> fE -> (fE -> Prop) -> Prop) (P : fE -> Prop) (k i : Nat) (σ : fE) (α' : Pl) (s : aK) : Prop
 | mk {ρ1 : Loc} {j : Nat} {y : aA} : k = j + 1 -> (turn ρ1 σ λ σ => fq turn tg it ρ j (i + 1) σ P) -> tg.put ρ y = some ρ1 -> LI F A n Δ env (· = env.locals) s₀ α₀ I it (i + 1) ρ1 σ s α' -> CMid F A n Δ env s₀ α₀ I it ρ tg turn P k i σ α' s
theorem CInv.back {turn : Loc -> fE -> (fE -> Prop) -> Prop} {P : fE -> Prop} {j : Nat} {α3 : Pl} {y : aA} (pre : α <+: α') (hab : tg.above m = true) (htop : ∀ (i : Nat) (v : V), m <= i -> lget ρ i ≠ some v) (hput : tg.put ρ y = some ρ₁) (L : LI F A n Δ env (· = env.locals) s₀ α₀ I it (i + 1) ρ₁ σ s α') (e : fq turn tg it ρ j (i + 1) σ' P) (f : Af F (· = env.locals) s s' α' α3) (t : At F A n Δ env ρ₁ s' α3 σ') :
 CInv F A n Δ env s₀ α₀ I it ρ tg turn P α j s' := by
 obtain ⟨o, g, _⟩ := L.it.obj
 have hI : ¬ I = env.locals := λ q => L.fo (.inl q)
 exact ⟨pre.trans f.pre, ⟨L.af.tr f, ⟨t.rm, t.en.weak λ i v hi => (put_below hput hab (Nat.lt_of_not_le λ q => htop i v q hi)).trans hi, t.st⟩, λ q => (f.sub I q).elim L.own λ e => (nomatch g.symm.trans e), L.fo, L.new, L.base, L.it.mv (f.mv (λ c e => e ▸ L.t.en.off _ (.inl rfl)) t.st.base) λ o => f.keep I o hI L.own⟩, e⟩
theorem LI.step (L : LI F A n Δ env (· = env.locals) s₀ α₀ I it i ρ σ s α) (ht : t.er Δ = some tg) (hab : tg.above m = true) (hO : OwnLoc m Δ env) {turn : Loc -> fE -> (fE -> Prop) -> Prop} {P : fE -> Prop} (ev : fq turn tg it ρ k i σ P) {Qn : aK -> Prop} (fn : ∀ s', P σ -> Af F (· = env.locals) s₀ s' α₀ α -> At F A n Δ env ρ s' α σ -> Qn s') :
 aQ F.m A (pyNext (.ref I)) (λ r s₁ => match r with
  | none => Qn s₁
  | some v => aQ F.m A (da t.de (.ref I) v) (λ _ s₁' => aQ F.m A (assign t.de env v) (λ _ s₂ => CMid F A n Δ env s₀ α₀ I it ρ tg turn P k i σ α s₂) E s₁') E s₁) E s :=
 L.go ht (λ y hy b _ h => h (tg_local hO ht hab y hy)) (λ b e => .inl e) (evComp_go ev) (λ _ h => h) fn λ ρ1 s2 y h hput L2 => h.elim λ j h => ⟨h.1, h.2, hput, L2⟩
theorem comp_one {iter : Expr} {ifs : List Expr} {tst : Sx} {elt0 : Expr} {gens : List Comprehension} {pos : Pos} {dp : Nat} (he : SE F O n Δ a) (hif : Tests F A n Δ env ifs tst) (ht : t.er Δ = some tg) (hab : tg.above m = true) (hO : OwnLoc m Δ env) (htop : ∀ (i : Nat) (v : V), m <= i -> lget ρ i ≠ some v) (hD : α[d]? = some (D, D))
 (L : LI F A n Δ env (· = env.locals) s₀ α₀ I it 0 ρ σ s α) {P : fE -> Prop} (ev : fq (sTurn tst (evE O (er F.T a Δ)) d) tg it ρ k 0 σ P) {R : Result -> aK -> Prop}
 (hq : (Code.compLoop (.ListComp elt0 gens sc pos) dp (.ref I) (.ref D) env).quiet = true) (hU : A.under (.compLoop (.ListComp elt0 gens sc pos) dp (.ref I) (.ref D) env) = A)
 (hT : compTurn (.ListComp elt0 gens sc pos) dp (.ref I) (.ref D) env = (do
  standAt iter.pos
  match <- pyNext (.ref I) with
  | none => pure (.done .next)
  | some v =>
   da t.de (.ref I) v
   assign t.de env v
   let mut ok := true
   for c in ifs do
    if ok then ok <- isTrue c env (eval c env)
   if ok then
    (do let _ <- call (.builtin "list.append") [.ref D, <- eval (de a) env])
   again (.compLoop (.ListComp elt0 gens sc pos) dp (.ref I) (.ref D) env)))
 (fin : ∀ s' α' σ', P σ' -> α <+: α' -> Af F (· = env.locals) s₀ s' α₀ α' -> At F A n Δ env ρ s' α' σ' -> R (.ok .next) s') :
 eO F.m A (.compLoop (.ListComp elt0 gens sc pos) dp (.ref I) (.ref D) env) R s := by
 refine codeAny_loop hq (CInv F A n Δ env s₀ α₀ I it ρ tg (sTurn tst (evE O (er F.T a Δ)) d) P α) (λ k s V => ?_) k ⟨bz _, L, ev⟩
 obtain ⟨pre, L, ev⟩ := V
 rename_i i σi αi
 rw [hU]
 show aQ _ A ((compTurn (.ListComp elt0 gens sc pos) dp (.ref I) (.ref D) env).onRaise (λ x => do noteFrame x env; theTreesLotGoes x)) _ _ s
 refine wpAny_noted ?_
 rw [hT]
 refine aC (dg (aC (ah (L.step ht hab hO ev (Qn := λ s' => R (.ok .next) s') λ s' q f t => fin s' αi σi q pre f t) (λ r s1 h => ?_) λ _ _ x => x)))
 cases r with
 | none => exact aI h
 | some v =>
  refine aC (ah h (λ _ s1' h1' => aC (ah h1' (λ _ s2 M => ?_) λ _ _ x => x)) λ _ _ x => x)
  obtain ⟨hk, ev2, hput, L2⟩ := M
  subst hk
  refine aC (ah (hif _ σi s2 αi _ _ ev2 L2.t) (λ ok s3 q => q.casesOn λ {σ3 α3} e f3 S3 => ?_) λ _ _ x => x)
  cases ok with
  | false => exact aI ⟨rfl, _, cQ _, .back pre hab htop hput L2 e f3.up (L2.t.after f3 S3)⟩
  | true => exact aC (aC (he.go e (L2.t.after f3 S3) λ v σ4 hv s4 α4 e f4 t4 r4 => aC (app_cell t4.st (f4.at (f3.at (pre_at pre hD))) r4 e λ s5 σ5 e f5 S5 => aI (aI ⟨rfl, _, cQ _, .back pre hab htop hput L2 e ((f3.tr f4).tr f5).up (t4.after f5 S5)⟩))))
end
section
variable {F : Fx} {O : Orc} {n : Nat} {Γ Δ : Cx} {A : bH} {E : aJ -> aK -> Prop} {env : Env} {ρ : Loc} {σ σ' : fE} {s s' s₀ : aK} {h h' : Heap} {α α' α₀ : Pl} {sc : Scope} {a c : AX} {x : aJ} {t : AT} {tg : Tg} {I C D : av} {it : It} {i k m d : Nat}
theorem ownLoc_comp (X : ScOk Γ Δ sc) (N : En F h α Γ env ρ) : OwnLoc Γ.n Δ (compEnvC sc (clOf env sc) C env) := λ x i hx hi =>
 (X.var x i hx).elim (λ q => kind_in N.fix q.1) λ q => absurd (N.fix.low _ _ q.2) (Nat.not_lt.mpr hi)
theorem not_base (S : St F h α σ) (e : h.get? C = none) : F.h₀.get? C = none := by
 cases q : F.h₀.get? C with
 | none => rfl
 | some o => exact nomatch e.symm.trans (S.base C o q)
theorem comp_enter (X : ScOk Γ Δ sc) (t : At F A n Γ env ρ s α σ) (f : Af F Nil s₀ s α₀ α) (own : ¬ Own α I) (fo : ¬ Fo env I) (new : s₀.heap.get? I = none) (base : F.h₀.get? I = none) (d : IterAt F s.heap α I it 0) {R : aJ -> Env -> aK -> Prop}
 (k : ∀ C D s', s₀.heap.get? C = none -> LI F A n Δ (compEnvC sc (clOf env sc) C env) (· = C) s₀ α₀ I it 0 ρ (σ ++ [.list []]) s' (α ++ [(D, D)]) -> (∃ m, s'.heap.Ns C m) -> R (.ref D) (compEnvC sc (clOf env sc) C env) s') :
 aQ F.m A (newList []) (λ acc s₃ => aQ F.m A (newFunctionEnv sc env.globals (clOf env sc) [] env.qual none .none (some env)) (λ cenv s₄ => R acc { cenv with scope := relabel sc env } s₄) E s₃) E s := by
 refine ca (wpAny_newFunctionEnv (s := { s with heap := s.heap.push (fV [] 0) }) (λ p hp e => ?_) (λ p hp => nomatch hp) (λ h' hns hsb => ?_) X.kind)
 · exact (X.name p hp).elim (λ q => nomatch e.symm.trans q.1) λ q => q.elim (λ q => nomatch e.symm.trans q) λ q => nomatch e.symm.trans q.1
 have sz : (s.heap.push (fV [] 0)).objs.size = s.heap.objs.size + 1 := Heap.size_push ..
 have k1 : ∀ b o, (s.heap.push (fV [] 0)).get? b = some o -> h'.get? b = some o := λ b o e =>
  (hsb.2 b (λ q => be _ (q ▸ cu e))).trans (fU _ b o e)
 have kp : ∀ b o, s.heap.get? b = some o -> h'.get? b = some o := λ b o e => k1 b o (fU _ b o e)
 have gD : h'.get? s.heap.objs.size = some (fV [] 0) := k1 _ _ (ao _ rfl)
 have fD : s.heap.get? s.heap.objs.size = none := ax (aW _)
 have fC : s.heap.get? (s.heap.push (fV [] 0)).objs.size = none := ax (sz ▸ eM _)
 have f2 : Af F Nil s { s with heap := h', toks := s.toks + ([] : List (Str × aJ)).length } α (α ++ [(s.heap.objs.size, s.heap.objs.size)]) := af_fresh kp fD fD rfl rfl
 have S2 : St F h' (α ++ [(s.heap.objs.size, s.heap.objs.size)]) (σ ++ [.list []]) := St.fresh (s' := { s with heap := h', toks := s.toks + ([] : List (Str × aJ)).length }) t.st kp fD fD (λ e => nomatch gD.symm.trans e) (λ e => nomatch gD.symm.trans e) (.list rfl gD .nil)
 have no : ∀ {b}, ¬ Own α b -> b ≠ s.heap.objs.size -> ¬ Own (α ++ [(s.heap.objs.size, s.heap.objs.size)]) b := λ n ne q => (own_snoc q).elim n λ q => ne (q.elim id id)
 have ne : ∀ {b o}, s.heap.get? b = some o -> b ≠ s.heap.objs.size := λ e q => by rw [q] at e; exact nomatch fD.symm.trans e
 obtain ⟨oI, gI, _⟩ := d.obj
 have m2 := f2.m0 S2.base
 refine k (s.heap.push (fV [] 0)).objs.size s.heap.objs.size _ (f.live _ fC) ⟨(f.tr f2).up, ⟨t.rm, t.en.comp X m2 kp (λ b q => no (t.en.place b q).2 (let ⟨_, g, _⟩ := t.en.live b q; ne g)) ⟨not_base t.st fC, no (λ q => t.st.live _ q fC) (sz ▸ Nat.succ_ne_self _)⟩ hns, S2⟩, no own (ne gI), λ q => q.elim (λ e => ?_) λ ⟨x, hx⟩ => fo (.inr ⟨x, clGo_sub sc.names (X.cell t.en.fix) [] (λ x c h => nomatch h) x I hx⟩), new, base, d.mv m2 (kp I)⟩ ⟨_, hns⟩
 rw [show I = (s.heap.push (fV [] 0)).objs.size from e] at gI
 exact nomatch gI.symm.trans fC
inductive LcEnd (F : Fx) (s : aK) (α : Pl) (P : Nat -> fE -> Prop) (C D : av) (s₅ : aK) : Prop
 | mk {α₁ α₅ : Pl} {σ₅ : fE} {n : Nat} : P n σ₅ -> s.heap.get? C = none -> Af F (· = C) s s₅ α α₅ -> St F s₅.heap α₅ σ₅ -> Off F s₅.heap α₅ (· = C) -> (∃ m, s₅.heap.Ns C m) -> α <+: α₁ -> α₁.length = n -> α₁ ++ [(D, D)] <+: α₅ -> LcEnd F s α P C D s₅
theorem co_walk {e : Expr} {g : Comprehension} {gs : List Comprehension} {ak : AK} {sk : Sk} {p : Pos} {turn : Nat -> Loc -> fE -> (fE -> Prop) -> Prop} {P : Nat -> fE -> Prop} (Wo' : Wo F) (hcl : clausesOf e = g :: gs) (hg : g.iter = ak.de (de a)) (X : ScOk Γ Δ sc) (ha : SE F O n Γ a) (hk : ak.er F.T Γ = some sk) (t : At F A n Γ env ρ s α σ)
 (ev : sCo turn tg (evE O (er F.T a Γ)) sk ρ σ P) {use : Option (aJ -> Sem Unit)} {Q : aJ -> aK -> Prop}
 (loop : ∀ I it kk σ1 C D s4 α4 (R : Result -> aK -> Prop), LI F A n Δ (compEnvC sc (clOf env sc) C env) (· = C) s α I it 0 ρ (σ1 ++ [.list []]) s4 α4 -> α4[σ1.length]? = some (D, D) -> fq (turn σ1.length) tg it ρ kk 0 (σ1 ++ [.list []]) (P σ1.length) ->
  (∀ s' α' σ', P σ1.length σ' -> α4 <+: α' -> Af F (· = C) s s' α α' -> At F A n Δ (compEnvC sc (clOf env sc) C env) ρ s' α' σ' -> R (.ok .next) s') -> eO F.m A (.compStart e 0 (.ref I) (.ref D) (compEnvC sc (clOf env sc) C env)) R s4)
 (fin : ∀ C D s5, LcEnd F s α P C D s5 -> compPost F.m A E use Q (.ref D) C (.ok .next) s5) : aQ F.m A (comprehension e sc env p (newList []) false (eval g.iter env) use) Q E s := by
 refine wpAny_comprehension_free hcl (λ x => hg ▸ folded_ak) (closure_pure X t.en.fix) X.kind (λ p hp hl => (X.name p hp).elim And.right λ q => q.elim (λ q => nomatch hl.symm.trans q) λ q => nomatch hl.symm.trans q.1) ?_
 rw [hg]
 refine ah (src_go Wo' ha hk ev t) (λ xv s1 h => ah h (λ itv s2 m => m.casesOn λ {I it kk σ1 α1} hx ev f1 t1 new own fo base d => ?_) λ _ _ x => x) λ _ _ x => x
 subst hx
 refine comp_enter X t1 f1 own fo new base d (R := λ acc cenv s₄ => eO F.m A (.compStart e 0 (.ref I) acc cenv) (compPost F.m A E use Q acc cenv.locals) s₄) λ C D s4 hC L ns => ?_
 exact loop I it kk σ1 C D s4 _ _ L (at_end t1.st) ev λ s' α' σ' e pre f t' => fin C D s' ⟨e, hC, f, t'.st, t'.en.off1 (.inl rfl), t'.en.ns, f1.pre, t1.st.len, pre⟩
end
section
variable {F : Fx} {O : Orc} {n : Nat} {Γ Δ : Cx} {A : bH} {E : aJ -> aK -> Prop} {env : Env} {ρ : Loc} {σ : fE} {s s₅ : aK} {h h' : Heap} {α : Pl} {sc : Scope} {a b c : AX} {t : AT} {k : AK} {sk : Sk} {tg : Tg} {I C D : av} {it : It} {m : Nat} {p p2 : Pos} {new : Bool}
theorem LcEnd.go {Q : Ps} (L : LcEnd F s α (λ n σ => cond new (Q (.l n) σ) (WP (fin n (.l n) σ) Q)) C D s₅) {K : Prop} (k : ∀ α₂ w σ2, Q w σ2 -> Af F (· = C) s s₅ α α₂ -> St F s₅.heap α₂ σ2 -> Off F s₅.heap α₂ (· = C) -> RV F s₅.heap α₂ (.ref D) w -> K) : K :=
 L.casesOn λ {α₁ α₅ σ₅ n} e hC f S Z ns p1 l p2 => by
  have hat : (α₁ ++ [(D, D)])[n]? = some (D, D) := by rw [<- l, bg (aW _), dN]; rfl
  have r : RV F s₅.heap α₅ (.ref D) (.l n) := .l (p := (D, D)) (pre_at p2 hat)
  cases new with
  | true => exact k α₅ _ _ e f S Z r
  | false => exact fin_go l p1 ((dJ _ _).trans p2) f S r e λ α₂ w σ2 p e f S r => k α₂ w σ2 e f S (λ a q => q ▸ ⟨(Z _ rfl).1, λ z => (Z _ rfl).2.1 (own_pre p z), (Z _ rfl).2.2⟩) r
theorem LcEnd.ns {P : Nat -> fE -> Prop} (L : LcEnd F s α P C D s₅) : s.heap.get? C = none ∧ ∃ m, s₅.heap.Ns C m := L.casesOn λ _ h _ _ _ q _ _ _ => ⟨h, q⟩
theorem lc_val {Q : Ps} (C D : av) (s₅ : aK) (L : LcEnd F s α (λ n σ => cond new (Q (.l n) σ) (WP (fin n (.l n) σ) Q)) C D s₅) : compPost F.m A E none (QE F s α Q) (.ref D) C (.ok .next) s₅ := by
 obtain ⟨hC, m, ns⟩ := L.ns
 refine ⟨m, ns, λ h' hs => L.go λ α₂ w σ2 e f S Z r => ?_⟩
 have hk := sb_hk hs
 exact ⟨e, (f.skip (tk := s₅.toks) hC hk).drop λ a q => q ▸ hC, S.off Z hk, r.mv (Z.mv hk)⟩
theorem tests_of (h : ST_ F O n Δ c) : Tests F A n Δ env (cond c.isNo [] [de c]) (evE O (cond c.isNo (.c (.bool true)) (er F.T c Δ))) := λ ρ σ s α E Q e t => by
 cases q : c.isNo with
 | true => rw [q] at e; exact wpAny_tests_nil ⟨e, .refl, t.st⟩
 | false => rw [q] at e; exact wpAny_tests_one (h ρ σ A env s α E _ Q e (λ _ _ h => h) t)
theorem lc_walk (Wo' : Wo F) (he : ∀ Δ, SE F O n Δ a) (hc : ∀ Δ, ST_ F O n Δ c) (hs : SE F O n Γ b) {Q : Ps} (e : evE O (er F.T (.lc new a t k b c sc p) Γ) ρ σ Q) (T : At F A n Γ env ρ s α σ) {use : Option (aJ -> Sem Unit)} {R : aJ -> aK -> Prop}
 (fn0 : ∀ C D s5, LcEnd F s α (λ n σ => cond new (Q (.l n) σ) (WP (fin n (.l n) σ) Q)) C D s5 -> compPost F.m A E use R (.ref D) C (.ok .next) s5) : aQ F.m A (comprehension (de (.lc new a t k b c sc p)) sc env p2 (newList []) false (eval (k.de (de b)) env) use) R E s :=
 opx_go (M := λ z => evE O z ρ σ Q) e (λ Δ hΔ e => opx_go (M := λ z => evE O z ρ σ Q) e (λ tg ht e => opx_go (M := λ z => evE O z ρ σ Q) e (λ sk hk e => ifx_go (M := λ z => evE O z ρ σ Q) e id λ hab e => by
  have X := scope_ok hΔ
  refine co_walk Wo' (g := ⟨t.de, k.de (de b), cond c.isNo [] [de c], 0⟩) (gs := []) rfl rfl X hs hk T (turn := sTurn (evE O (cond c.isNo (.c (.bool true)) (er F.T c Δ))) (evE O (er F.T a Δ))) (tg := tg) (P := λ n σ => cond new (Q (.l n) σ) (WP (fin n (.l n) σ) Q)) e (λ I it kk σ1 C D s4 α4 R L hD ev fn => ?_) fn0
  have lp := comp_one (A := A) (sc := sc) (pos := p) (dp := 0) (elt0 := de a) (gens := [⟨t.de, k.de (de b), cond c.isNo [] [de c], 0⟩]) (he Δ) (tests_of (hc Δ)) ht hab (ownLoc_comp X T.en) T.en.top hD L ev (R := R) rfl rfl (compTurn_list ..) fn
  exact codeAny_compStart_list lp (L.it.self lp)) λ _ e => False.elim e) λ _ e => False.elim e) λ _ e => False.elim e
theorem se_lc (Wo' : Wo F) (he : ∀ Δ, SE F O n Δ a) (hc : ∀ Δ, ST_ F O n Δ c) (hs : SE F O n Γ b) : SE F O n Γ (.lc new a t k b c sc p) := λ ρ σ A env s α E Q e T => by
 show aQ F.m A (eval (.ListComp (de a) [⟨t.de, k.de (de b), cond c.isNo [] [de c], 0⟩] sc p) env) _ E s
 rw [PySem.eval_ListComp]
 exact lc_walk Wo' he hc hs e T lc_val
end
section
variable {F : Fx} {O : Orc} {n : Nat} {Γ Δ : Cx} {A : bH} {E : aJ -> aK -> Prop} {env : Env} {ρ : Loc} {σ σ' : fE} {s s' s₀ : aK} {h h' : Heap} {α α' α₀ : Pl} {sc : Scope} {a b c : AX} {x : aJ} {v : V} {t t₁ t₂ : AT} {k₁ k₂ : AK} {sk : Sk} {tg : Tg} {I C D : av} {it : It} {i j k m d : Nat} {p p2 : Pos} {new : Bool}
noncomputable abbrev twoE (elt t₁ it₁ t₂ it₂ : Expr) (scope : Scope) (pos : Pos) : Expr := .ListComp elt [⟨t₁, it₁, [], 0⟩, ⟨t₂, it₂, [], 0⟩] scope pos
theorem start_two {elt t₁ it₁ t₂ it₂ : Expr} {it acc : aJ} {d : Nat} (hd : d = 0 ∨ d = 1) {R : Result -> aK -> Prop}
 (h0 : eO F.m A (.compLoop (twoE elt t₁ it₁ t₂ it₂ sc p) d it acc env) R s)
 (h : aQ F.m A (pyIter it) (λ it' s' => eO F.m A (.compLoop (twoE elt t₁ it₁ t₂ it₂ sc p) d it' acc env) R s') (notedBy F.m A env λ x s' => R (.error x) s') s) :
 eO F.m A (.compStart (twoE elt t₁ it₁ t₂ it₂ sc p) d it acc env) R s := by
 refine codeAny_of_tree ?_
 show aQ _ _ ((compStart (twoE elt t₁ it₁ t₂ it₂ sc p) d it acc env).onRaise (λ x => do noteFrame x env; standAt theWindowsPlace)) _ _ s
 refine wpAny_notedAt ?_
 unfold compStart
 rcases hd with rfl | rfl
 all_goals
  show aQ _ _ (ask >>= _) _ _ s
  refine aC (eo (wpAny_ite ?_))
  split
  · first
     | exact aC (aI (aI (And.intro rfl h0)))
     | exact aI (And.intro rfl h0)
  · exact aC (cW (aC (dg (aC (ah h (λ it' s' h' => aI (And.intro rfl h')) λ _ _ x => x)))))
theorem turn_two0 (elt t₁ it₁ t₂ it₂ : Expr) (it acc : aJ) :
 compTurn (twoE elt t₁ it₁ t₂ it₂ sc p) 0 it acc env = (standAt it₁.pos >>= λ _ => pyNext it >>= λ r => match r with
  | none => pure (.done .next)
  | some v => da t₁ it v >>= λ _ => assign t₁ env v >>= λ _ =>
   (forIn ([] : List Expr) true λ c r => if r = true then do let ok <- isTrue c env (eval c env); pure (dt ok) else pure (dt r)) >>= λ ok =>
    if ok = true then
     eval it₂ env >>= λ x => standAt it₂.pos >>= λ _ => foldedSetIterable it₂ env x >>= λ x => holding [x] (pyIter x) >>= λ i =>
      runOwn (.compStart (twoE elt t₁ it₁ t₂ it₂ sc p) 1 i acc env) env >>= λ _ => again (.compLoop (twoE elt t₁ it₁ t₂ it₂ sc p) 0 it acc env)
    else again (.compLoop (twoE elt t₁ it₁ t₂ it₂ sc p) 0 it acc env)) := by
 rfl
theorem turn_two1 (elt t₁ it₁ t₂ it₂ : Expr) (it acc : aJ) :
 compTurn (twoE elt t₁ it₁ t₂ it₂ sc p) 1 it acc env = (do
  standAt it₂.pos
  match <- pyNext it with
  | none => pure (.done .next)
  | some v =>
   da t₂ it v
   assign t₂ env v
   let mut ok := true
   for c in ([] : List Expr) do
    if ok then ok <- isTrue c env (eval c env)
   if ok then
    (do let _ <- call (.builtin "list.append") [acc, <- eval elt env])
   again (.compLoop (twoE elt t₁ it₁ t₂ it₂ sc p) 1 it acc env)) := by rfl
theorem tests_no : Tests F A n Δ env [] always := λ ρ σ s α E Q e t => wpAny_tests_nil ⟨e, .refl, t.st⟩
theorem comp_two (Wo' : Wo F) (he : SE F O n Δ a) (hi : SE F O n Δ b) (ht : t₁.er Δ = some (.one i)) (ht2 : t₂.er Δ = some (.one j)) (hk : k₂.er F.T Δ = some sk) (h1 : m <= i) (h12 : i < j) (hO : OwnLoc m Δ env) (htop : ∀ (i : Nat) (v : V), m <= i -> lget ρ i ≠ some v) (hD : α[d]? = some (D, D))
 {it₁ : Expr} (L : LI F A n Δ env (· = env.locals) s₀ α₀ I it 0 ρ σ s α) {P : fE -> Prop} (ev : fq (sIn (sTurn always (evE O (er F.T a Δ)) d) (.one j) (evE O (er F.T b Δ)) sk) (.one i) it ρ k 0 σ P) {R : Result -> aK -> Prop}
 (fn0 : ∀ s' α' σ', P σ' -> α <+: α' -> Af F (· = env.locals) s₀ s' α₀ α' -> At F A n Δ env ρ s' α' σ' -> R (.ok .next) s') :
 eO F.m A (.compLoop (twoE (de a) t₁.de it₁ t₂.de (k₂.de (de b)) sc p) 0 (.ref I) (.ref D) env) R s := by
 have hab : (Tg.one i).above m = true := dA.mpr h1
 refine codeAny_loop rfl (CInv F A n Δ env s₀ α₀ I it ρ (.one i) (sIn (sTurn always (evE O (er F.T a Δ)) d) (.one j) (evE O (er F.T b Δ)) sk) P α) (λ k s V => ?_) k ⟨bz _, L, ev⟩
 obtain ⟨pre, L, ev⟩ := V
 rename_i l σi αi
 show aQ _ A ((compTurn (twoE (de a) t₁.de it₁ t₂.de (k₂.de (de b)) sc p) 0 (.ref I) (.ref D) env).onRaise (λ x => do noteFrame x env; theTreesLotGoes x)) _ _ s
 refine wpAny_noted ?_
 rw [turn_two0]
 refine aC (dg (aC (ah (L.step ht hab hO ev (Qn := λ s' => R (.ok .next) s') λ s' q f t => fn0 s' αi σi q pre f t) (λ r s1 h => ?_) λ _ _ x => x)))
 cases r with
 | none => exact aI h
 | some v =>
  refine aC (ah h (λ _ s1' h1' => aC (ah h1' (λ _ s2 M => ?_) λ _ _ x => x)) λ _ _ x => x)
  obtain ⟨hk', ev2, hput, L2⟩ := M
  rename_i ρ1 k' y
  subst hk'
  refine aC (wpAny_tests_nil ?_)
  rw [if_pos rfl]
  refine aC (ah (src_go Wo' hi hk ev2 L2.t) (λ xv s3 h3 => aC (dg (aC (wpAny_of_eq folded_ak (aC (bJ (ah h3 (λ itv s4 M => M.casesOn λ {I2 it2 k2 σ3 α4} hx ev3 f4 t4 new own fo base d2 => ?_) λ _ _ x => x))))))) λ _ _ x => x)
  subst hx
  have htop2 : ∀ (l : Nat) (v : V), j <= l -> lget ρ1 l ≠ some v := λ l v hl e => by
   cases hput
   have ne : i ≠ l := λ z => by subst z; exact be _ (bx h12 hl)
   exact htop l v (aE h1 (aE (bt h12) hl)) ((lget_ne ne).symm.trans e)
  have body : eO F.m A (.compLoop (twoE (de a) t₁.de it₁ t₂.de (k₂.de (de b)) sc p) 1 (.ref I2) (.ref D) env) (λ r s' => match r with
   | .ok f => aQ F.m A (again (.compLoop (twoE (de a) t₁.de it₁ t₂.de (k₂.de (de b)) sc p) 0 (.ref I) (.ref D) env)) (λ fin s' => match fin with
    | .done f => R (.ok f) s'
    | .again c' => c' = .compLoop (twoE (de a) t₁.de it₁ t₂.de (k₂.de (de b)) sc p) 0 (.ref I) (.ref D) env ∧ ∃ m, m < k' + 1 ∧ CInv F A n Δ env s₀ α₀ I it ρ (.one i) (sIn (sTurn always (evE O (er F.T a Δ)) d) (.one j) (evE O (er F.T b Δ)) sk) P α m s') (notedBy F.m A env λ e s' => R (.error e) s') s'
   | .error e => cameBackBy F.m A env (notedBy F.m A env λ e s' => R (.error e) s') e s') s4 :=
   comp_one (k := k2) (sc := sc) (pos := p) (dp := 1) (elt0 := de a) (gens := [⟨t₁.de, it₁, [], 0⟩, ⟨t₂.de, k₂.de (de b), [], 0⟩]) he tests_no ht2 (dA.mpr (aW j)) (λ x l hx hl => hO x l hx (aE h1 (aE (bt h12) hl))) htop2 (f4.at (pre_at pre hD))
    ⟨f4.up, t4, own, fo, new, base, d2⟩ ev3 rfl rfl (turn_two1 ..) λ s5 α5 σ5 e pre2 f5 t5 => aI ⟨rfl, k', cQ k', .back pre hab htop hput L2 e f5 t5⟩
  exact aC (wpAny_runOwn (h := none) (start_two (.inr rfl) body (d2.self body)))
theorem nat_go {o : Option Tg} {i : Nat} (h : o.bind Tg.nat = some i) : o = some (.one i) := by
 obtain ⟨tg, rfl, h⟩ := bK.mp h
 cases tg with
 | one => cases h; rfl
 | many => cases h
theorem lc2_walk (Wo' : Wo F) (he : ∀ Δ, SE F O n Δ a) (hi : ∀ Δ, SE F O n Δ b) (hs : SE F O n Γ c) {Q : Ps} (e : evE O (er F.T (.lc2 a t₁ k₁ c t₂ k₂ b sc p) Γ) ρ σ Q) (T : At F A n Γ env ρ s α σ) {use : Option (aJ -> Sem Unit)} {R : aJ -> aK -> Prop}
 (fn0 : ∀ C D s5, LcEnd F s α (λ n σ => cond false (Q (.l n) σ) (WP (fin n (.l n) σ) Q)) C D s5 -> compPost F.m A E use R (.ref D) C (.ok .next) s5) : aQ F.m A (comprehension (de (.lc2 a t₁ k₁ c t₂ k₂ b sc p)) sc env p2 (newList []) false (eval (k₁.de (de c)) env) use) R E s :=
 opx_go (M := λ z => evE O z ρ σ Q) e (λ Δ hΔ e => opx_go (M := λ z => evE O z ρ σ Q) e (λ i hi1 e => opx_go (M := λ z => evE O z ρ σ Q) e (λ j hj e => opx_go (M := λ z => evE O z ρ σ Q) e (λ sk₁ hk1 e => opx_go (M := λ z => evE O z ρ σ Q) e (λ sk₂ hk2 e => ifx_go (M := λ z => evE O z ρ σ Q) e id λ hab e => by
  have X := scope_ok hΔ
  refine co_walk Wo' (g := ⟨t₁.de, k₁.de (de c), [], 0⟩) (gs := [⟨t₂.de, k₂.de (de b), [], 0⟩]) rfl rfl X hs hk1 T (turn := λ n => sIn (sTurn always (evE O (er F.T a Δ)) n) (.one j) (evE O (er F.T b Δ)) sk₂) (tg := .one i) (P := λ n σ => cond false (Q (.l n) σ) (WP (fin n (.l n) σ) Q)) e (λ I it kk σ1 C D s4 α4 R L hD ev fn => ?_) fn0
  have lp := comp_two (A := A) (sc := sc) (p := p) (it₁ := k₁.de (de c)) Wo' (he Δ) (hi Δ) (nat_go hi1) (nat_go hj) hk2 (aF (fG hab)) (a9.mp (and2 hab)) (ownLoc_comp X T.en) T.en.top hD L ev (R := R) fn
  exact start_two (.inl rfl) lp (L.it.self lp)) λ _ e => False.elim e) λ _ e => False.elim e) λ _ e => False.elim e) λ _ e => False.elim e) λ _ e => False.elim e
theorem se_lc2 (Wo' : Wo F) (he : ∀ Δ, SE F O n Δ a) (hi : ∀ Δ, SE F O n Δ b) (hs : SE F O n Γ c) : SE F O n Γ (.lc2 a t₁ k₁ c t₂ k₂ b sc p) := λ ρ σ A env s α E Q e T => by
 show aQ F.m A (eval (.ListComp (de a) [⟨t₁.de, k₁.de (de c), [], 0⟩, ⟨t₂.de, k₂.de (de b), [], 0⟩] sc p) env) _ E s
 rw [PySem.eval_ListComp]
 exact lc2_walk Wo' he hi hs e T lc_val
end
section
variable {F : Fx} {O : Orc} {n : Nat} {Γ Δ : Cx} {A : bH} {E : aJ -> aK -> Prop} {env : Env} {ρ : Loc} {σ : fE} {s s' s₅ : aK} {h h' : Heap} {α : Pl} {sc : Scope} {a b c : AX} {x : aJ} {v : V} {t t₁ t₂ : AT} {k k₁ k₂ : AK} {C D : av} {i m : Nat} {p p2 q : Pos} {new : Bool} {nm : Str}
theorem asg_used (T : At F A n Γ env ρ s α σ) {Q : Fs} (hi : Γ.vars.lookup nm = some i) (C D : av) (s₅ : aK) (L : LcEnd F s α (λ n σ => cond new (Q .next (ρ.set i (some (.l n))) σ) (WP (fin n (.l n) σ) λ v σ => Q .next (ρ.set i (some v)) σ)) C D s₅) :
 compPost F.m A E (some (assign (.Name nm q) env)) (λ _ s' => QX F s α Γ env Q .next s') (.ref D) C (.ok .next) s₅ := by
 obtain ⟨hC, m, ns⟩ := L.ns
 refine LcEnd.go (Q := λ v σ => Q .next (ρ.set i (some v)) σ) L λ α₂ w σ2 e f S Z r => ?_
 have f0 : Af F Nil s s₅ α α₂ := f.drop λ a q => q ▸ hC
 have T5 := T.after f0 S
 have no : ∀ b, Fo env b -> C ≠ b := λ b hb z => T.en.alive b hb (z ▸ hC)
 refine wpAny_assign_Name (put_one T5.en T5.st hi r λ b s6 hb _ f6 S6 N6 => ⟨m, nsKeep ns λ o => f6.keep C o (no b hb) (Z C rfl).2.1, λ h' hs => ?_⟩)
 have hk := sb_hk hs
 have Z6 : Off F s6.heap α₂ (· = C) := f6.off Z (λ a q w => no b hb (q.symm.trans w)) λ a q e => by
  subst q
  obtain ⟨o, _, _, g, _⟩ := ns
  exact nomatch g.symm.trans e
 exact ⟨e, Af.skip (tk := s6.toks) (f0.up.tr (f6.wide λ c e => e ▸ hb)) hC hk, S6.off Z6 hk, N6.mv (Z6.mv hk) (λ a q o => hk a o λ z => no a q z.symm) λ a q => (N6.place a q).2, .next⟩
theorem asg_two (h : SE F O n Γ a) {B : Bool} (hs : swapsWith (de a) (some (.Name nm q)) p.line env = pure B) {Q : Fs} (e : evX O (eX F.T Γ (.asg nm q a p)) ρ σ Q) (T : At F A n Γ env ρ s α σ)
 (used : ∀ i, Γ.vars.lookup nm = some i -> (evE O (er F.T a Γ) ρ σ λ v σ => Q .next (ρ.set i (some v)) σ) -> aQ F.m A (evalThenUse (de a) env (assign (.Name nm q) env)) (λ _ s' => QX F s α Γ env Q .next s') E s) : aQ F.m A (exec (.Assign [.Name nm q] (de a) p) env) (QX F s α Γ env Q) E s :=
 opx_go (M := λ z => evX O z ρ σ Q) e (λ i hi e => by
  cases B with
  | false => exact wpAny_Assign_Name (h.go e T λ v σ1 hv s1 α1 e f1 T1 r1 => put_end e f1.up T1 (slot_go hi).1 r1) hs
  | true =>
   rw [PySem.exec_Assign_Name_used _ _ _ _ hs]
   exact aC (dg (aC (ah (used i (slot_go hi).1 e) (λ _ s' hq => aI hq) λ _ _ x => x)))) λ _ e => False.elim e
theorem xs_asg_lc (Wo' : Wo F) (he : ∀ Δ, SE F O n Δ a) (hc : ∀ Δ, ST_ F O n Δ c) (hs : SE F O n Γ b) : XS F O n Γ (.asg nm q (.lc new a t k b c sc p2) p) := λ ρ σ A env s α E Q e T =>
 asg_two (se_lc Wo' he hc hs) rfl e T λ i hi e => by
  show aQ F.m A (do let _ <- comprehension (de (.lc new a t k b c sc p2)) sc env _ (newList []) false (eval (k.de (de b)) env) (some (assign (.Name nm q) env))) _ E s
  exact aC (ah (lc_walk Wo' he hc hs e T (asg_used T hi)) (λ _ s' hq => aI hq) λ _ _ x => x)
theorem xs_asg_lc2 (Wo' : Wo F) (he : ∀ Δ, SE F O n Δ a) (hb : ∀ Δ, SE F O n Δ b) (hs : SE F O n Γ c) : XS F O n Γ (.asg nm q (.lc2 a t₁ k₁ c t₂ k₂ b sc p2) p) := λ ρ σ A env s α E Q e T =>
 asg_two (se_lc2 Wo' he hb hs) rfl e T λ i hi e => by
  show aQ F.m A (do let _ <- comprehension (de (.lc2 a t₁ k₁ c t₂ k₂ b sc p2)) sc env _ (newList []) false (eval (k₁.de (de c)) env) (some (assign (.Name nm q) env))) _ E s
  exact aC (ah (lc2_walk Wo' he hb hs e T (asg_used (new := false) T hi)) (λ _ s' hq => aI hq) λ _ _ x => x)
end
structure Gives (F : Fx) (O : Orc) (n : Nat) : Prop where
 wo : Wo F
 wk : Wk F
 fns : Fns F O n
 sort : SortOk F
 meth : ∀ c n, O.meth c n = F.pr.meth.lookup (c, n)
 init : ∀ c, O.init c = F.pr.init.lookup c
structure Al (F : Fx) (O : Orc) (n : Nat) (a : AX) : Prop where
 se : ∀ Γ, SE F O n Γ a
 st : ∀ Γ, ST_ F O n Γ a
section
variable {F : Fx} {O : Orc} {n : Nat} {Γ : Cx} {A : bH} {E : aJ -> aK -> Prop} {env : Env} {ρ : Loc} {σ : fE} {s s₁ : aK} {a b c o : AX} {as : List AX} {p ap : Pos} {nm : Str}
theorem al_pl (h : ∀ Γ, SE F O n Γ a) (hi : ∀ env whole, isTrue (de a) env whole = (do let v <- whole; standAt (de a).pos; holding [v] (truthy v))) : Al F O n a := ⟨h, λ Γ => st_plain (h Γ) hi⟩
theorem se_methA (H : Gives F O n) (ho : SE F O n Γ o) (h : ∀ e ∈ as, SE F O n Γ e) : SE F O n Γ (.meth o nm ap as p) := λ ρ σ A env s α E Q e t =>
 ifx_go (M := λ z => evE O z ρ σ Q) e id λ hc e => opx_go (M := λ z => evE O z ρ σ Q) e (λ k hk e => se_meth H.wo H.wk H.fns H.meth ho h hk (fG (fG hc)) (and2 (fG hc)) (and2 hc) e t) λ _ e => by
  cases as with
  | nil => exact ifx_go (M := λ z => evE O z ρ σ Q) e id λ hn e => eq_of_beq hn ▸ se_pop (fG (fG hc)) (and2 (fG hc)) ho e t
  | cons a r => cases r with
   | nil =>
    have e : evE O (cond (nm == ("append" : Str)) (.op (.app ()) (er F.T o Γ) (er F.T a Γ)) (ifx (nm == ("extend" : Str)) .bad (.op (.ext ()) (er F.T o Γ) (er F.T a Γ)))) ρ σ Q := e
    cases hn : nm == ("append" : Str) with
    | true => rw [hn] at e; exact eq_of_beq hn ▸ se_append (fG (fG hc)) (and2 (fG hc)) ho (h a (.head _)) e t
    | false => rw [hn] at e; exact ifx_go (c := nm == ("extend" : Str)) (M := λ z => evE O z ρ σ Q) e id λ hn e => eq_of_beq hn ▸ se_extend (fG (fG hc)) (and2 (fG hc)) ho (h a (.head _)) e t
   | cons => exact False.elim e
theorem al_all (H : Gives F O n) (a : AX) : Al F O n a :=
 AX.rec (motive_1 := λ a => Al F O n a) (motive_2 := λ es => ∀ e ∈ es, Al F O n e)
  (⟨λ Γ ρ σ A env s α E Q e => False.elim e, λ Γ ρ σ A env s α E Q P e => False.elim e⟩)
  (λ c k p => al_pl (λ Γ => se_const) λ _ _ => rfl)
  (λ i k q p => al_pl (λ Γ => se_neg) λ _ _ => rfl)
  (λ x p => al_pl (λ Γ => se_name H.wo) λ _ _ => rfl)
  (λ o a b p ha hb => al_pl (λ Γ => se_bin (ha.se Γ) (hb.se Γ)) λ _ _ => rfl)
  (λ o a b p ha hb => ⟨λ Γ => se_cmp H.wo (ha.se Γ) (hb.se Γ), λ Γ => st_cmp H.wo (ha.se Γ) (hb.se Γ)⟩)
  (λ a p ha => ⟨λ Γ => se_not (ha.se Γ), λ Γ => st_not (ha.st Γ)⟩)
  (λ o es p h => by
   cases o with
   | And => exact ⟨λ Γ => se_and es λ e m => (h e m).se Γ, λ Γ => st_and es λ e m => (h e m).st Γ⟩
   | Or => exact ⟨λ Γ => se_or es λ e m => (h e m).se Γ, λ Γ => st_or es λ e m => (h e m).st Γ⟩)
  (λ t a b p ht ha hb => ⟨λ Γ => se_ite (ht.st Γ) (ha.se Γ) (hb.se Γ), λ Γ => st_ite (ht.st Γ) (ha.st Γ) (hb.st Γ)⟩)
  (λ es k p h => al_pl (λ Γ => se_tup λ e m => (h e m).se Γ) λ _ _ => rfl)
  (λ new es p h => al_pl (λ Γ => se_lst λ e m => (h e m).se Γ) λ _ _ => rfl)
  (λ ks es p h => al_pl (λ Γ => se_dict λ e m => (h e m).se Γ) λ _ _ => rfl)
  (λ a i p ha hi => al_pl (λ Γ => se_sub H.wo (ha.se Γ) (hi.se Γ)) λ _ _ => rfl)
  (λ a lo hi q p ha hl hh => al_pl (λ Γ => se_slc (ha.se Γ) (hl.se Γ) (hh.se Γ)) λ _ _ => rfl)
  (λ a nm p ha => al_pl (λ Γ => se_att H.wk (ha.se Γ)) λ _ _ => rfl)
  (λ o nm ap as p ho h => al_pl (λ Γ => se_methA H (ho.se Γ) λ e m => (h e m).se Γ) λ _ _ => rfl)
  (λ x q as p h => al_pl (λ Γ => se_call H.wo H.wk H.fns H.init H.sort λ e m => (h e m).se Γ) λ _ _ => rfl)
  (λ q₁ q₂ a p₂ p ha => al_pl (λ Γ => se_sset H.wo H.sort (ha.se Γ)) λ _ _ => rfl)
  (λ new e t k s c sc p he hs hc => al_pl (λ Γ => se_lc H.wo he.se hc.st (hs.se Γ)) λ _ _ => rfl)
  (λ e t₁ k₁ s₁ t₂ k₂ s₂ sc p he h1 h2 => al_pl (λ Γ => se_lc2 H.wo he.se h2.se (h1.se Γ)) λ _ _ => rfl)
  (λ _ m => nomatch m) (λ a r ha hr e m => (aP.mp m).elim (λ q => q ▸ ha) (hr e)) a
theorem xs_asgA (H : Gives F O n) {x : Str} {q : Pos} : XS F O n Γ (.asg x q a p) := by
 have h := al_all H
 cases hc : a.comp with
 | false => exact xs_asg hc ((h a).se Γ)
 | true =>
  cases a with
  | lc new e t k s c sc p => exact xs_asg_lc H.wo (h e).se (h c).st ((h s).se Γ)
  | lc2 e t₁ k₁ s₁ t₂ k₂ s₂ sc p => exact xs_asg_lc2 H.wo (h e).se (h s₂).se ((h s₁).se Γ)
  | _ => cases hc
theorem xs_any (H : Gives F O n) (b : SX) : XS F O n Γ b :=
 have h := al_all H
 SX.rec (motive_1 := λ b => XS F O n Γ b) (motive_2 := λ bs => ∀ b ∈ bs, XS F O n Γ b)
  (λ s ρ σ A env s α E Q e => False.elim e) (λ x q e p => xs_asgA H) (λ xs k q e p => xs_asgT ((h e).se Γ)) (λ o i q e p => xs_setI H.wo ((h o).se Γ) ((h i).se Γ) ((h e).se Γ))
  (λ o nm q e p => xs_setA H.wk ((h o).se Γ) ((h e).se Γ)) (λ e p => xs_ex ((h e).se Γ)) (λ x q e p => xs_aug ((h e).se Γ)) (λ t a b p ha hb => xs_if ((h t).st Γ) (xb_all a ha) (xb_all b hb))
  (λ t k s b p hb => xs_for H.wo ((h s).se Γ) (xb_all b hb)) (λ t b p hb => xs_while ((h t).st Γ) (xb_all b hb)) (λ e p => xs_ret ((h e).se Γ))
  (λ _ m => nomatch m) (λ a r ha hr e m => (aP.mp m).elim (λ q => q ▸ ha) (hr e)) b
theorem xb_any (H : Gives F O n) (b : List SX) : XB F O n Γ b := xb_all b λ x _ => xs_any H x
structure Base (F : Fx) : Prop where
 wo : Wo F
 wk : Wk F
 sort : SortOk F
 fns : ∀ f fd, F.pr.funs[f]? = some fd -> ∃ r, FnOk F fd (F.fn f) r
theorem runN_sound (B : Base F) : ∀ n, Fns F (F.pr.orc (runN F.pr n)) n
 | 0 => λ f vs hvs σ A s α Q e => False.elim e
 | n + 1 => λ f vs hvs σ A s α Q e => OW.get (show OW (F.pr.funs[f]?) λ fd => runDef (F.pr.orc (runN F.pr n)) fd vs σ Q from e) λ fd hfd e => by
  obtain ⟨r, X⟩ := B.fns f fd hfd
  exact sf_def B.wo B.wk.kin X (λ b => xb_any ⟨B.wo, B.wk, runN_sound B n, B.sort, λ _ _ => rfl, λ _ => rfl⟩ b) vs hvs σ A s α Q e
end
mutual
theorem okY_up : ∀ (x : aA) (k m : Nat), k <= m -> okY x k = true -> okY x m = true
 | .none, _, _, _, h => aN h
 | .bool _, _, _, _, h => aN h
 | .int _, _, _, _, _ => rfl
 | .str _, _, _, _, h => h
 | .dict _, _, _, _, h => aN h
 | .list _, _, _, _, h => aN h
 | .tuple xs, k, m, hk, h => by
  cases k with
  | zero => exact aN h
  | succ k => cases m with
   | zero => exact (Nat.not_succ_le_zero _ hk).elim
   | succ m => exact okYs_up xs k m (b9 hk) h
theorem okYs_up : ∀ (xs : List aA) (k m : Nat), k <= m -> okYs xs k = true -> okYs xs m = true
 | [], _, _, _, _ => rfl
 | x :: xs, k, m, hk, h => fP (okY_up x k m hk (fG h)) (okYs_up xs k m hk (and2 h))
end
section
variable {F : Fx} {A : bH} {E : aJ -> aK -> Prop} {s : aK} {α β : Pl} {n : Nat}
theorem okK_ok (hn : n <= 8) {x : aA} (o : okK n x = true) : okK 8 x = true ∧ okD 8 x = true := have h := okY_up x n 8 hn o; ⟨h, okY_okX x 8 h⟩
theorem okYs_mem {xs : List aA} {x : aA} (o : okYs xs n = true) (m : x ∈ xs) : okK n x = true := by
 induction xs with
 | nil => exact nomatch m
 | cons y r ih => exact (aP.mp m).elim (λ e => e ▸ fG o) (ih (and2 o))
theorem lt_int_rc {a b : Int} {t u : Tok} {Q : aJ -> aK -> Prop} (h : Q (.bool (decide (a < b))) s) : aQ F.m A (richCompare .Lt (.int a t) (.int b u)) Q E s :=
 wpAny_richCompare_same (op := .Lt) (typeIs_int s a t) (typeIs_int s b u) slot_int_lt (call_int_lt ⟨(λ e => nomatch e), h⟩)
structure LtI (F : Fx) (s : aK) (α β : Pl) (vs us : List aJ) (xs ys : List aA) (c : Bool) (rest : List (aJ × aJ)) (vs' us' : List aJ) (xs' ys' : List aA) : Prop where
 zip : rest = List.zip vs' us'
 rx : fL F s.heap α vs' xs'
 ry : fL F s.heap β us' ys'
 lt : ltDs xs' ys' = some c
 mx : ∀ x ∈ xs', x ∈ xs
 my : ∀ y ∈ ys', y ∈ ys
 len : decide (vs'.length < us'.length) = decide (vs.length < us.length)
theorem ltDs_cons {x y : aA} {r q : List aA} {c : Bool} (h : ltDs (x :: r) (y :: q) = some c) : (eqD x y = true ∧ ltDs r q = some c) ∨ (eqD x y = false ∧ ltD x y = some c) := by
 have h : (if eqD x y = true then ltDs r q else ltD x y) = some c := h
 cases e : eqD x y with
 | true => rw [if_pos e] at h; exact .inl ⟨rfl, h⟩
 | false => rw [if_neg (by rw [e]; exact bO)] at h; exact .inr ⟨rfl, h⟩
theorem tuple_lt_tree {a b : av} {vs us : List aJ} {P' : PySem.Fin -> aK -> Prop} (ha : s.heap.get? a = some (tupObj vs)) (hb : s.heap.get? b = some (tupObj us))
 {xs ys : List aA} {c : Bool} (rx : fL F s.heap α vs xs) (ry : fL F s.heap β us ys) (ox : ∀ x ∈ xs, okD 8 x = true) (oy : ∀ y ∈ ys, okD 8 y = true) (hu : A.units + 8 < cLine)
 (ih : ∀ (u v : aJ) (x y : aA) (c : Bool) (Q : Bool -> aK -> Prop), x ∈ xs -> y ∈ ys -> Rd F s.heap α u x -> Rd F s.heap β v y -> ltD x y = some c -> Q c s -> aQ F.m A (richCompare .Lt u v) (PyProof.Rows.BoolBack Q) E s)
 (hc : ltDs xs ys = some c) (h : P' (.done (.ret (.bool c))) s) : aQ F.m A (bb.«tuple.__lt__» ⟨[.ref a, .ref b], []⟩) P' E s := by
 show aQ _ _ (isInstance (.ref b) (.type "tuple") >>= _) _ _ s
 refine aC (wpAny_isInstance ⟨_, hb, rfl⟩ isSubtype_tuple_tuple ?_)
 refine aC (wpAny_tupleItemsOf ha rfl ?_)
 refine aC (wpAny_tupleItemsOf hb rfl ?_)
 refine aC ?_
 refine cn _ (λ rest r s' => r.1 = none ∧ s' = s ∧ ∃ vs' us' xs' ys', LtI F s α β vs us xs ys c rest vs' us' xs' ys') _ ?_ ?_ _ _ ⟨rfl, rfl, vs, us, xs, ys, rfl, rx, ry, hc, λ _ h => h, λ _ h => h, rfl⟩
 · intro p rest r s' q
   obtain ⟨hr, rfl, vs', us', xs', ys', hz, hx', hy', hlt, mx, my, hlen⟩ := q
   cases hx' with
   | nil => exact nomatch hz
   | @cons u' x vs'' xs'' h1 hx'' =>
    cases hy' with
    | nil => exact nomatch hz
    | @cons v' y us'' ys'' h2 hy'' =>
     obtain ⟨rfl, rfl⟩ := dH hz
     have hxm := mx x (.head _)
     have hym := my y (.head _)
     refine aC (eqBool_rd hu h1 h2 (ox x hxm) (oy y hym) ?_)
     rcases ltDs_cons hlt with ⟨he, hlt⟩ | ⟨he, hlt⟩
     · rw [he]
       exact aI ⟨rfl, rfl, vs'', us'', xs'', ys'', rfl, hx'', hy'', hlt, λ z hz => mx z (.tail _ hz), λ z hz => my z (.tail _ hz), (decide_eq_decide.mpr Nat.succ_lt_succ_iff).symm.trans hlen⟩
     · rw [he]
       refine aC (cW ?_)
       refine aC (ah (ih _ _ x y c (λ c' t => c' = c ∧ t = s') hxm hym h1 h2 hlt ⟨rfl, rfl⟩) (λ z t hz => ?_) λ _ _ e => e)
       obtain ⟨c', rfl, rfl, rfl⟩ := hz
       exact aC (aI (aI (aI h)))
 · intro r s' q
   obtain ⟨r1, r2⟩ := r
   obtain ⟨hr, rfl, vs', us', xs', ys', hz, hx', hy', hlt, mx, my, hlen⟩ := q
   obtain rfl : r1 = none := hr
   refine aI ?_
   show P' (.done (.ret (.bool (decide (vs.toArray.size < us.toArray.size))))) s'
   rw [show decide (vs.toArray.size < us.toArray.size) = c by
    rw [aa, aa, <- hlen]
    cases hx' with
    | nil => cases hy' with
     | nil => exact aY hlt
     | cons => exact (decide_eq_true (Nat.zero_lt_succ _)).trans (aY hlt)
    | cons => cases hy' with
     | nil => exact aY hlt
     | cons => exact nomatch hz]
   exact h
theorem int_of {v : aJ} {i : Int} (r : Rd F s.heap α v (.int i)) : ∃ t, v = .int i t := r.E (C := λ v => ∃ t, v = .int i t) λ t => ⟨t, rfl⟩
theorem tup_of {v : aJ} {xs : List aA} (r : Rd F s.heap α v (.tuple xs)) : ∃ a vs, v = .ref a ∧ s.heap.get? a = some (tupObj vs) ∧ fL F s.heap α vs xs := r.E (C := λ v => ∃ a vs, v = .ref a ∧ s.heap.get? a = some (tupObj vs) ∧ fL F s.heap α vs xs) λ a vs g _ q => ⟨a, vs, rfl, g, q⟩
theorem lt_rd : ∀ (n : Nat) (A : bH) (x y : aA) (u v : aJ) (c : Bool) (Q : Bool -> aK -> Prop), n <= 8 -> A.units + n + 8 < cLine -> okK n x = true -> okK n y = true -> Rd F s.heap α u x -> Rd F s.heap β v y -> ltD x y = some c -> Q c s ->
 aQ F.m A (richCompare .Lt u v) (PyProof.Rows.BoolBack Q) E s := by
 intro n
 induction n with
 | zero =>
  intro A x y u v c Q _ hu ox oy rx ry hc h
  cases x with
  | int a => cases y with
   | int b =>
    obtain rfl := aY hc
    obtain ⟨t, rfl⟩ := int_of rx
    obtain ⟨t', rfl⟩ := int_of ry
    exact lt_int_rc ⟨_, rfl, h⟩
   | _ => exact nomatch hc
  | tuple => exact nomatch ox
  | _ => exact nomatch hc
 | succ n ih =>
  intro A x y u v c Q hn hu ox oy rx ry hc h
  cases x with
  | int a => cases y with
   | int b =>
    obtain rfl := aY hc
    obtain ⟨t, rfl⟩ := int_of rx
    obtain ⟨t', rfl⟩ := int_of ry
    exact lt_int_rc ⟨_, rfl, h⟩
   | _ => exact nomatch hc
  | tuple xs => cases y with
   | tuple ys =>
    obtain ⟨a, vs, rfl, g, rs⟩ := tup_of rx
    obtain ⟨b, us, rfl, g', rs'⟩ := tup_of ry
    refine wpAny_richCompare_same_room (op := .Lt) ⟨_, g, rfl⟩ ⟨_, g', rfl⟩ eP ?_ (by lia)
    refine bf eP ⟨_, g, rfl⟩ PySem.F.entry_tuple_lt ?_ (PySem.F.args_tuple_lt_2 _ _)
    refine tuple_lt_tree g g' rs rs' (λ x hx => (okK_ok (ab hn) (okYs_mem ox hx)).2) (λ x hx => (okK_ok (ab hn) (okYs_mem oy hx)).2) (show A.units + 1 + 8 < cLine by lia) (λ u v x y c Q hx hy r1 r2 hc h => ?_) hc ⟨_, rfl, (λ e => nomatch e), _, rfl, h⟩
    exact ih A.in1 x y u v c Q (ab hn) (show A.units + 1 + n + 8 < cLine by lia) (okYs_mem ox hx) (okYs_mem oy hy) r1 r2 hc h
   | _ => exact nomatch hc
  | _ => exact nomatch hc
end
noncomputable def insAll (x : Nat) : List Nat -> List (List Nat)
 | [] => [[x]]
 | y :: r => (x :: y :: r) :: (insAll x r).map (y :: ·)
noncomputable def perms : List Nat -> List (List Nat)
 | [] => [[]]
 | x :: r => (perms r).flatMap (insAll x)
theorem mem_insAll (x : Nat) : ∀ (s t : List Nat), s ++ x :: t ∈ insAll x (s ++ t)
 | [], [] => by simp [insAll]
 | [], y :: r => by simp [insAll]
 | y :: s, t => by
  simp only [List.cons_append, insAll, aP, aj]
  exact .inr ⟨_, mem_insAll x s t, rfl⟩
theorem mem_perms : ∀ (l p : List Nat), p.Perm l -> p ∈ perms l
 | [], p, h => by rw [List.perm_nil.mp h]; simp [perms]
 | x :: r, p, h => by
  obtain ⟨s, t, rfl⟩ := List.append_of_mem (h.mem_iff.mpr (bu (a := x) (l := r)))
  have h2 : (s ++ t).Perm r := (List.perm_middle.symm.trans h).cons_inv
  simp only [perms, List.mem_flatMap]
  exact ⟨_, mem_perms r _ h2, mem_insAll x s t⟩
noncomputable def chk (n : Nat) (π : List Nat) : KasT (Array Nat) -> Bool
 | .ret p => p.toList.map (λ i => π.getD i 0) == cN n && p.toList.all (λ i => decide (i < n))
 | .ask i j k => i != j && decide (i < n) && decide (j < n) && chk n π (k (decide (π.getD i 0 < π.getD j 0)))
noncomputable def chkAll (n : Nat) : Bool := (perms (cN n)).all λ π => chk n π (kas_sort n)
theorem chk2 : chkAll 2 = true := by kernel_rfl
theorem chk3 : chkAll 3 = true := by kernel_rfl
theorem chk4 : chkAll 4 = true := by kernel_rfl
theorem chk_wp {n : Nat} {π : List Nat} {ask : Nat -> Nat -> (Bool -> aK -> Prop) -> aK -> Prop} {Q : Array Nat -> aK -> Prop} {s : aK}
 (ha : ∀ (i j : Nat) (C : Bool -> aK -> Prop), i ≠ j -> i < n -> j < n -> C (decide (π.getD i 0 < π.getD j 0)) s -> ask i j C s)
 (hq : ∀ p : Array Nat, p.toList.map (λ i => π.getD i 0) = cN n -> (∀ i ∈ p.toList, i < n) -> Q p s) : ∀ t : KasT (Array Nat), chk n π t = true -> t.kasWp ask Q s
 | .ret p, h => by
  simp only [chk, bl, beq_iff_eq, aT, decide_eq_true_eq] at h
  exact hq p h.1 h.2
 | .ask i j k, h => by
  simp only [chk, bl, bne_iff_ne, ne_eq, decide_eq_true_eq] at h
  exact ha i j _ h.1.1.1 h.1.1.2 h.1.2 (chk_wp ha hq _ h.2)
theorem perm_pull {α β : Type} (f : β -> α) : ∀ {xs ys : List α}, xs.Perm ys -> ∀ l : List β, ys = l.map f -> ∃ l' : List β, l'.Perm l ∧ xs = l'.map f := by
 intro xs ys h
 induction h with
 | nil => intro l e; exact ⟨l, .refl _, e⟩
 | cons x h ih =>
  intro l e
  cases l with
  | nil => simp at e
  | cons b l =>
   simp only [ba, List.cons.injEq] at e
   obtain ⟨l', h1, h2⟩ := ih l e.2
   exact ⟨b :: l', h1.cons _, by simp [e.1, h2]⟩
 | swap x y r =>
  intro l e
  match l, e with
  | [], e => simp at e
  | [b], e => simp at e
  | b :: c :: l, e =>
   simp only [ba, List.cons.injEq] at e
   exact ⟨c :: b :: l, .swap _ _ _, by simp [e.1, e.2.1, e.2.2]⟩
 | trans h1 h2 ih1 ih2 =>
  intro l e
  obtain ⟨l1, p1, e1⟩ := ih2 l e
  obtain ⟨l2, p2, e2⟩ := ih1 l1 e1
  exact ⟨l2, p2.trans p1, e2⟩
theorem insD_perm (x : aA) : ∀ (l : List aA) {r : List aA}, insD x l = some r -> r.Perm (x :: l)
 | [], r, h => by simp only [insD, cK] at h; subst h; exact .refl _
 | y :: l, r, h => by
  simp only [insD] at h
  split at h
  · cases h; exact .refl _
  · obtain ⟨q, h1, rfl⟩ := aZ.mp h
    exact ((insD_perm x l h1).cons y).trans (.swap _ _ _)
  · cases h
theorem isortD_perm : ∀ (l : List aA) {r : List aA}, isortD l = some r -> r.Perm l
 | [], r, h => by simp only [isortD, cK] at h; subst h; exact .refl _
 | x :: l, r, h => by
  simp only [isortD, bK] at h
  obtain ⟨q, h1, h2⟩ := h
  exact (insD_perm x q h2).trans ((isortD_perm l h1).cons x)
theorem chain_at : ∀ {ys : List aA}, chain ys = true -> ∀ (i j : Nat) (x y : aA), i < j -> ys[i]? = some x -> ys[j]? = some y -> ltD x y = some true ∧ ltD y x = some false
 | [], _, i, j, x, y, _, hi, _ => by simp at hi
 | z :: r, h, i, j, x, y, hij, hi, hj => by
  simp only [chain, bl, aT, beq_iff_eq] at h
  cases j with
  | zero => lia
  | succ j =>
   rw [List.getElem?_cons_succ] at hj
   cases i with
   | zero =>
    simp only [List.getElem?_cons_zero, cK] at hi
    subst hi
    exact h.1 y (a7 hj)
   | succ i =>
    rw [List.getElem?_cons_succ] at hi
    exact chain_at h.2 i j x y (by lia) hi hj
structure Few (xs ys : List aA) (π : List Nat) : Prop where
 perm : π.Perm (cN xs.length)
 at_ : ∀ i, i < xs.length -> xs[i]? = ys[π.getD i 0]?
 ne : ∀ i j, i < xs.length -> j < xs.length -> i ≠ j -> π.getD i 0 ≠ π.getD j 0
 len : ys.length = xs.length
 lt : ∀ i, i < xs.length -> π.getD i 0 < xs.length
theorem few {xs ys : List aA} (h : ys.Perm xs) : ∃ π : List Nat, Few xs ys π := by
 have e : ys = (cN ys.length).map (λ i => ys.getD i .none) := by
  apply List.ext_getElem?
  intro i
  rw [a6]
  by_cases hi : i < ys.length
  · rw [List.getElem?_range hi]; simp [hi]
  · rw [bS (by lia), bS (by simp; lia)]; rfl
 obtain ⟨π, h1, h2⟩ := perm_pull (λ i => ys.getD i .none) h.symm _ e
 have hl : ys.length = xs.length := h.length_eq
 have hπ : π.length = xs.length := by rw [h1.length_eq, List.length_range, hl]
 have lt : ∀ i, i < xs.length -> π.getD i 0 < xs.length := by
  intro i hi
  have hm : π.getD i 0 ∈ π := by
   rw [az, aO (by lia), di]; exact eW _
  have := h1.mem_iff.mp hm
  rw [b7, hl] at this; exact this
 refine ⟨π, hl ▸ h1, λ i hi => ?_, λ i j hi hj hne e => ?_, hl, lt⟩
 · have hp := lt i hi
   conv => lhs; rw [h2]
   rw [a6, aO (by lia : i < π.length)]
   have e3 : π.getD i 0 = π[i]'(by lia) := by rw [az, aO (by lia), di]
   rw [e3] at hp ⊢
   simp [hl, hp]
 · have hnd : π.Nodup := h1.nodup_iff.mpr List.nodup_range
   rw [az, aO (by lia), di, az, aO (by lia), di] at e
   have hpw := d0.mp hnd
   rcases Nat.lt_or_gt_of_ne hne with q | q
   · exact hpw i j (by lia) (by lia) q e
   · exact hpw j i (by lia) (by lia) q e.symm
theorem Few.ask {xs ys : List aA} {π : List Nat} (F : Few xs ys π) (hc : chain ys = true) {i j : Nat} (hi : i < xs.length) (hj : j < xs.length) (hne : i ≠ j) {x y : aA} (hx : xs[i]? = some x) (hy : xs[j]? = some y) :
 ltD x y = some (decide (π.getD i 0 < π.getD j 0)) := by
 rw [F.at_ i hi] at hx
 rw [F.at_ j hj] at hy
 have := F.ne i j hi hj hne
 by_cases h : π.getD i 0 < π.getD j 0
 · rw [(chain_at hc _ _ _ _ h hx hy).1, decide_eq_true h]
 · rw [(chain_at hc _ _ _ _ (by lia) hy hx).2, decide_eq_false h]
theorem Few.chk {xs ys : List aA} {π : List Nat} (F : Few xs ys π) (h2 : 2 <= xs.length) (h4 : xs.length <= 4) : chk xs.length π (kas_sort xs.length) = true := by
 have hm := mem_perms _ _ F.perm
 have : chkAll xs.length = true := by
  have : xs.length = 2 ∨ xs.length = 3 ∨ xs.length = 4 := by lia
  rcases this with e | e | e <;> rw [e]
  · exact chk2
  · exact chk3
  · exact chk4
 exact aT.mp this π hm
theorem Few.out {xs ys : List aA} {π : List Nat} (F : Few xs ys π) {p : List Nat} (hp : p.map (λ i => π.getD i 0) = cN xs.length) (hl : ∀ i ∈ p, i < xs.length) : p.map (λ i => xs[i]?) = ys.map some := by
 have h1 : p.map (λ i => xs[i]?) = (p.map (λ i => π.getD i 0)).map (λ k => ys[k]?) := by
  rw [bE]
  exact cY λ i hi => F.at_ i (hl i hi)
 rw [h1, hp]
 apply List.ext_getElem?
 intro i
 rw [a6, a6, <- F.len]
 by_cases hi : i < ys.length
 · rw [List.getElem?_range hi]; simp [hi]
 · rw [bS (by simp; lia), bS (by lia)]; rfl
theorem insI_perm (x : Int) : ∀ l : List Int, (insI x l).Perm (x :: l)
 | [] => .refl _
 | y :: r => by
  unfold insI; split
  · exact .refl _
  · exact ((insI_perm x r).cons y).trans (.swap _ _ _)
theorem isortI_perm : ∀ l : List Int, (isortI l).Perm l
 | [] => .refl _
 | x :: r => (insI_perm x _).trans ((isortI_perm r).cons x)
theorem insI_sorted {x : Int} {l : List Int} (h : l.Pairwise (· <= ·)) : (insI x l).Pairwise (· <= ·) := by
 induction l with
 | nil => simp [insI]
 | cons y r ih =>
  rw [bD] at h
  unfold insI; split
  · rename_i c
    rw [bD]
    refine ⟨λ z hz => ?_, bD.mpr h⟩
    rcases aP.mp hz with rfl | hz
    · exact c
    · exact Int.le_trans c (h.1 z hz)
  · rename_i c
    rw [bD]
    refine ⟨λ z hz => ?_, ih h.2⟩
    rcases aP.mp ((insI_perm x r).mem_iff.mp hz) with rfl | hz
    · lia
    · exact h.1 z hz
theorem fj : ∀ l : List Int, (isortI l).Pairwise (· <= ·)
 | [] => .nil
 | x :: r => insI_sorted (fj r)
theorem sorted_eq {l m : List Int} (h : l.Perm m) (hl : l.Pairwise (· <= ·)) (hm : m.Pairwise (· <= ·)) : l = m := by
 induction l generalizing m with
 | nil => exact (List.nil_perm.mp h).symm
 | cons a r ih =>
  cases m with
  | nil => exact absurd h.length_eq (by simp)
  | cons b q =>
   have h1 := h
   rw [bD] at hl hm
   have e : a = b := by
    have ha : a ∈ b :: q := h.mem_iff.mp (.head _)
    have hb : b ∈ a :: r := h.mem_iff.mpr (.head _)
    rcases aP.mp ha with e | ha
    · exact e
    rcases aP.mp hb with e | hb
    · exact e.symm
    have h1 := hl.1 b hb
    have h2 := hm.1 a ha
    lia
   subst e
   rw [ih h1.cons_inv hl.2 hm.2]
theorem ints_rd {F : Fx} {h : Heap} {α : Pl} {vs : List aJ} {ns : List Int} (r : IntsAre vs ns) : fL F h α vs (ns.map .int) :=
 r.rec (motive := λ vs ns _ => fL F h α vs (ns.map .int)) .nil λ n t {vs ns} _ ih => .cons (Rd.int n t) ih
theorem ints_eq : ∀ {xs : List aA} {is : List Int}, ints? xs = some is -> xs = is.map .int
 | [], is, h => by obtain rfl := aY h; rfl
 | x :: r, is, h => by
  cases x with
  | int i =>
   obtain ⟨q, h1, rfl⟩ := aZ.mp (show (ints? r).map (i :: ·) = some is from h)
   rw [ints_eq h1]; rfl
  | _ => exact nomatch h
theorem rdAll_pick {F : Fx} {h : Heap} {α : Pl} {vs : List aJ} {xs : List aA} (r : fL F h α vs xs) : ∀ (p : List Nat) (ys : List aA), p.map (λ i => xs[i]?) = ys.map some -> fL F h α (p.map λ i => vs.getD i .none) ys
 | [], [], _ => .nil
 | [], _ :: _, e => by simp at e
 | _ :: _, [], e => by simp at e
 | i :: p, y :: ys, e => by
  simp only [ba, List.cons.injEq] at e
  obtain ⟨v, h1, h2⟩ := r.get e.1
  refine .cons ?_ (rdAll_pick r p ys e.2)
  show Rd F h α (vs.getD i .none) y
  rw [az, h1]; exact h2
section
variable {F : Fx} {A : bH} {E : aJ -> aK -> Prop} {s : aK} {α : Pl}
theorem tup_shape {n : Nat} {h : Heap} {v : aJ} {x : aA} (r : Rd F h α v x) (t : isTup x = true) : ∃ a vs xs, v = .ref a ∧ h.get? a = some (tupObj vs) ∧ x = .tuple xs ∧ fL F h α vs xs := by
 cases x with
 | tuple xs => exact r.E (C := λ v => ∃ a vs ys, v = .ref a ∧ h.get? a = some (tupObj vs) ∧ aA.tuple xs = .tuple ys ∧ fL F h α vs ys) λ a vs g _ q => ⟨a, vs, xs, rfl, g, rfl, q⟩
 | _ => exact nomatch t
theorem tupT_tup {x : aA} (t : tupT x = true) : isTup x = true := by
 cases x with
 | tuple => rfl
 | _ => exact nomatch t
theorem lt_false {u v : aJ} {x y : aA} {c : Bool} {Q : Bool -> aK -> Prop} (hu : A.units + 16 < cLine) (ox : okK 8 x = true) (oy : okK 8 y = true) (rx : Rd F s.heap α u x) (ry : Rd F s.heap α v y) (hc : ltD x y = some c) (h : Q c s) :
 aQ F.m A (oneLt' false u v) Q E s := by
 refine kat_one u v (ah (show aQ F.m A (richCompare .Lt u v) _ E s from lt_rd 8 A x y u v c Q (by lia) (by lia) ox oy rx ry hc h) (λ z s' hz => ?_) λ _ _ e => e)
 obtain ⟨b, rfl, hb⟩ := hz
 exact hb
theorem lt_true {u v : aJ} {x y : aA} {c : Bool} {Q : Bool -> aK -> Prop} (hu : A.units + 17 < cLine) (ox : okK 8 x = true) (oy : okK 8 y = true) (tx : isTup x = true) (ty : isTup y = true) (rx : Rd F s.heap α u x) (ry : Rd F s.heap α v y) (hc : ltD x y = some c) (h : Q c s) :
 aQ F.m A (oneLt' true u v) Q E s := by
 obtain ⟨a, vs, xs, rfl, g, rfl, rs⟩ := tup_shape (n := 0) rx tx
 obtain ⟨b, us, ys, rfl, g', rfl, rs'⟩ := tup_shape (n := 0) ry ty
 rw [oneLt'_eq]
 simp only [if_true]
 refine aC (wpAny_cRoomFor (by lia) ?_)
 refine aC (wpAny_callSpecialIfBound?_slot ⟨_, g, rfl⟩ eP (bf eP ⟨_, g, rfl⟩ PySem.F.entry_tuple_lt ?_ (PySem.F.args_tuple_lt_2 _ _)))
 refine tuple_lt_tree g g' rs rs' (λ x hx => (okK_ok (n := 7) (by lia) (okYs_mem ox hx)).2) (λ x hx => (okK_ok (n := 7) (by lia) (okYs_mem oy hx)).2) (show A.units + 1 + 8 < cLine by lia) (λ u v x y c Q hx hy r1 r2 hc h => ?_) hc ⟨_, rfl, ?_⟩
 · exact lt_rd 7 A.in1 x y u v c Q (by lia) (show A.units + 1 + 7 + 8 < cLine by lia) (okYs_mem ox hx) (okYs_mem oy hy) r1 r2 hc h
 · exact wpAny_truthy_bool h
theorem lex_rd {Q : Bool -> aK -> Prop} {fin c : Bool} (hu : A.units + 16 < cLine) (hq : Q c s) : ∀ (xs ys : List aA) (vs us : List aJ) (i : Nat), fL F s.heap α vs xs -> fL F s.heap α us ys -> okYs xs 7 = true -> okYs ys 7 = true -> ltDs xs ys = some c -> fin = decide (vs.length < us.length) ->
 KatLex F.prog F.w A false fin Q (vs.zip us) i s := by
 intro xs
 induction xs with
 | nil =>
  intro ys vs us i r r' _ _ hc hf
  have h0 := dI r.length
  have h1 := r'.length
  subst h0
  subst hf
  refine kat_nil (show Q (decide (0 < us.length)) s from ?_)
  rw [h1]
  cases ys with
  | nil => obtain rfl := aY hc; exact hq
  | cons y ys => obtain rfl := aY hc; rw [decide_eq_true (show 0 < (y :: ys).length from Nat.zero_lt_succ _)]; exact hq
 | cons x xs ih =>
  intro ys vs us i r r' ox oy hc hf
  refine r.E (C := λ vs => fin = decide (vs.length < us.length) -> KatLex F.prog F.w A false fin Q (vs.zip us) i s) (λ v vs r1 rs hf => ?_) hf
  cases ys with
  | nil =>
   have h0 := dI r'.length
   subst h0
   subst hf
   obtain rfl := aY hc
   exact kat_nil hq
  | cons y ys =>
   refine r'.E (C := λ us => fin = decide ((v :: vs).length < us.length) -> KatLex F.prog F.w A false fin Q ((v :: vs).zip us) i s) (λ u us r2 rs' hf => ?_) hf
   refine kat_cons (eqBool_rd (by lia) r1 r2 (okK_ok (n := 7) (by lia) (fG ox)).2 (okK_ok (n := 7) (by lia) (fG oy)).2 ?_)
   rcases ltDs_cons hc with ⟨he, hc⟩ | ⟨he, hc⟩
   · rw [he]
     exact kat_yes (ih ys vs us (i + 1) rs rs' (and2 ox) (and2 oy) hc (hf.trans (decide_eq_decide.mpr Nat.succ_lt_succ_iff)))
   · rw [he]
     exact kat_no (lt_false hu (okK_ok (n := 7) (by lia) (fG ox)).1 (okK_ok (n := 7) (by lia) (fG oy)).1 r1 r2 hc hq)
noncomputable def KOk (κ : SortKind) : Prop := κ = general' ∨ κ = oneType' ∨ κ = tuples' false
theorem key_lt {κ : SortKind} (hκ : KOk κ) {u v : aJ} {x y : aA} {c : Bool} {Q : Bool -> aK -> Prop} (hu : A.units + 17 < cLine) (ox : okK 8 x = true) (oy : okK 8 y = true) (tx : isTup x = true) (ty : isTup y = true) (rx : Rd F s.heap α u x) (ry : Rd F s.heap α v y) (hc : ltD x y = some c) (h : Q c s) :
 aQ F.m A (keyLt' κ u v) Q E s := by
 rcases hκ with rfl | rfl | rfl
 · exact lt_false (by lia) ox oy rx ry hc h
 · exact lt_true hu ox oy tx ty rx ry hc h
 · obtain ⟨a, vs, xs, rfl, g, rfl, rs⟩ := tup_shape (n := 0) rx tx
   obtain ⟨b, us, ys, rfl, g', rfl, rs'⟩ := tup_shape (n := 0) ry ty
   refine kat_lt g rfl g' rfl ?_
   exact lex_rd (by lia) h xs ys vs us 0 rs rs' ox oy hc (by rw [aa, aa])
noncomputable def AllTup (h : Heap) (v : aJ) : Prop := ∃ a vs, v = .ref a ∧ h.get? a = some (tupObj vs)
theorem AllTup.type {v : aJ} (t : AllTup s.heap v) : s.TypeIs v "tuple" := by obtain ⟨a, vs, rfl, g⟩ := t; exact ⟨_, g, rfl⟩
theorem firsts_rd : ∀ (xs : List aA) (vs : List aJ) {Q : List (Option aJ) -> aK -> Prop}, fL F s.heap α vs xs -> xs.all tupT = true -> (∀ fs : List (Option aJ), (∀ u : aJ, some u ∈ fs -> AllTup s.heap u) -> Q fs s) -> aQ F.m A (vs.mapM firstOfTuple') Q E s
 | [], vs, Q, r, _, h => by
  obtain rfl := dI r.length
  rw [List.mapM_nil]; exact aI (h [] λ u hu => nomatch hu)
 | x :: xs, vs, Q, r, t, h => by
  refine r.E (C := λ vs => aQ F.m A (vs.mapM firstOfTuple') Q E s) λ v vs r rs => ?_
  have t : (tupT x && xs.all tupT) = true := t
  obtain ⟨a, us, ys, rfl, g, rfl, rs1⟩ := tup_shape (n := 0) r (tupT_tup (fG t))
  show aQ F.m A ((aJ.ref a :: vs).mapM firstOfTuple') Q E s
  rw [List.mapM_cons]
  refine aC ?_
  rw [kas_first_eq]
  refine aC (eY (T := "tuple") ⟨_, g, rfl⟩ ?_)
  rw [if_neg (by first | decide | simp)]
  refine aC (listItems_at g rfl (aI ?_))
  refine aC (firsts_rd xs vs (Q := λ bs s' => aQ F.m A (pure (us.toArray[0]? :: bs)) Q E s') rs (and2 t) λ fs hf => aI (h _ λ u hu => ?_))
  rcases aP.mp hu with e | hu
  · cases rs1 with
    | nil => exact nomatch e
    | cons r2 _ =>
     obtain rfl := aY e
     obtain ⟨b, us, _, rfl, g2, _⟩ := tup_shape (n := 0) r2 (fG (fG t))
     exact ⟨b, us, rfl, g2⟩
  · exact hf u hu
theorem oneType_tup (l : List aJ) {Q : Option aJ -> aK -> Prop} (ht : ∀ v ∈ l, AllTup s.heap v) (h : ∀ o : Option aJ, (∀ t, o = some t -> t = .type "tuple") -> Q o s) : aQ F.m A (oneTypeOnly' l.toArray) Q E s := by
 rw [oneTypeOnly'_eq, List.mapM_toArray, map_eq_pure_bind]
 refine aC (aC (kas_mapM (r := eC "tuple") _ (λ v hv Q' hq => eY (ht v hv).type hq) (aI ?_)))
 cases l with
 | nil => exact aI (h none λ t e => nomatch e)
 | cons v l =>
  have h0 : (List.map (λ _ => eC "tuple") (v :: l)).toArray[0]? = some (eC "tuple") := by simp
  rw [h0]
  refine aI ?_
  split
  · exact h _ λ t e => by cases e; rfl
  · exact h _ λ t e => nomatch e
theorem kind_rd {vs : List aJ} {xs : List aA} {Q : SortKind -> aK -> Prop} (r : fL F s.heap α vs xs) (t : xs.all tupT = true) (h : ∀ κ, KOk κ -> Q κ s) : aQ F.m A (keyKind' vs.toArray) Q E s := by
 rw [keyKind'_eq, List.mapM_toArray, map_eq_pure_bind]
 refine aC (aC (firsts_rd xs vs r t λ fs hf => aI ?_))
 split
 · refine aC (cW ?_)
   have e : fs.toArray.filterMap id = (fs.filterMap id).toArray := by simp
   rw [e]
   refine aC (oneType_tup _ (λ v hv => hf v ?_) λ o ho => aI ?_)
   · obtain ⟨x, h1, h2⟩ := List.mem_filterMap.mp hv
     simp only [id] at h2; subst h2; exact h1
   · refine h _ (.inr (.inr ?_))
     cases o with
     | none => rfl
     | some t => rw [ho t rfl]; rfl
 · split
   · exact aI (h _ (.inl rfl))
   · refine aC (oneType_tup vs (λ v hv => ?_) λ o ho => aI (h _ ?_))
     · obtain ⟨x, hx, rx⟩ := r.mem hv
       obtain ⟨b, us, _, rfl, g2, _⟩ := tup_shape (n := 0) rx (tupT_tup (aT.mp t x hx))
       exact ⟨b, us, rfl, g2⟩
     · split
       · exact .inr (.inl rfl)
       · exact .inl rfl
end
section
variable {F : Fx} {A : bH} {E : aJ -> aK -> Prop} {s : aK} {α : Pl}
theorem lsort_few {hb : Heap} {a : av} {vs : List aJ} {n : Nat} {xs ys : List aA} {P' : PySem.Fin -> aK -> Prop} (k : ∀ b o, hb.get? b = some o -> s.heap.get? b = some o) (hn : hb.get? a = none)
 (ho : s.heap.get? a = some (seqObj "list" vs.toArray n)) (r : fL F hb α vs xs) (h4 : xs.length <= 4) (ok : xs.all (okK 8) = true) (tt : xs.all tupT = true) (e : isortD xs = some ys) (hc : chain ys = true) (hu : A.units + 30 < cLine)
 (h : ∀ (out : List aJ) (h' : Heap) (m : Nat), (∀ b o, hb.get? b = some o -> h'.get? b = some o) -> h'.get? a = some (fV out m) -> fL F hb α out ys -> P' (.done (.ret .none)) { s with heap := h' }) :
 aQ F.m A (bb.«list.sort» ⟨[.ref a], []⟩) P' E s := by
 rw [list_sort_plain]
 have hl : vs.length = xs.length := r.length
 have ha : a < s.heap.objs.size := cu ho
 have ne : ∀ b o, hb.get? b = some o -> b ≠ a := λ b o q e => by subst e; rw [hn] at q; cases q
 refine aC (listItems_at ho rfl ?_)
 refine aC (listUpdate_at ho rfl ?_ (by rw [aa, dD]; lia) (bA _))
 obtain ⟨e1, ho1⟩ : ∃ e1, (s.heap.update a (bw λ _ => #[])).get? a = some (seqObj "list" #[] e1) := ⟨_, get?_update_seq ho (λ _ => #[])⟩
 refine aC (seqEpoch_at ho1 rfl ?_)
 refine aC (wpAny_newTuple ?_ (by show vs.length <= _; rw [dD]; lia))
 refine aC (wpAny_newList ?_ (bA _))
 refine bJ ?_
 have ho6 : (((s.heap.update a (bw λ _ => #[])).push (seqObj "tuple" vs.toArray 0)).push (seqObj "list" #[] 0)).get? a = some (seqObj "list" #[] e1) := by
  rw [Heap.get?_push_ne _ _ _ (by rw [size_push', Heap.size_update]; exact dy (Nat.lt_succ_of_lt ha)), Heap.get?_push_ne _ _ _ (by rw [Heap.size_update]; exact dy ha)]
  exact ho1
 show aQ F.m A _ P' E { s with heap := ((s.heap.update a (bw λ _ => #[])).push (seqObj "tuple" vs.toArray 0)).push (seqObj "list" #[] 0) }
 have k6 : ∀ b o, hb.get? b = some o -> (((s.heap.update a (bw λ _ => #[])).push (seqObj "tuple" vs.toArray 0)).push (seqObj "list" #[] 0)).get? b = some o := λ b o q =>
  ay _ (ay _ (by rw [Heap.get?_update_ne _ _ _ _ (ne b o q)]; exact k b o q))
 generalize (((s.heap.update a (bw λ _ => #[])).push (seqObj "tuple" vs.toArray 0)).push (seqObj "list" #[] 0)) = H at ho6 k6 ⊢
 have fin : ∀ (out : List aJ) , fL F hb α out ys -> P' (.done (.ret .none)) { s with heap := H.update a (bw λ _ => out.toArray) } := by
  intro out q
  obtain ⟨m, g⟩ : ∃ m, (H.update a (bw λ _ => out.toArray)).get? a = some (seqObj "list" out.toArray m) := ⟨_, get?_update_seq ho6 (λ _ => out.toArray)⟩
  exact h out _ m (λ b o q => by rw [Heap.get?_update_ne _ _ _ _ (ne b o q)]; exact k6 b o q) g q
 dsimp only
 by_cases h2 : vs.toArray.size < 2
 · rw [if_pos h2, if_pos h2]
   refine aC (aI ?_)
   rw [StateT.run_pure]
   refine aC (aI ?_)
   dsimp only
   refine aC (seqEpoch_at ho6 rfl ?_)
   have hys : ys = xs := by
    rw [aa] at h2
    match xs, hl, e with
    | [], _, e => simp only [isortD, cK] at e; exact e.symm
    | [x], _, e => simp only [isortD, Option.bind_some, insD, cK] at e; exact e.symm
    | x :: y :: r, hl, _ => simp at hl; lia
   have hz : (arrOf (SortSt.mk' general' (vs.toArray.zip vs.toArray) #[] 7 none)).map (·.2) = vs.toArray := by
    show (vs.toArray.zip vs.toArray).map (·.2) = vs.toArray
    apply Array.toList_inj.mp
    simp
    apply List.map_snd_zip
    exact aW _
   refine aC (listUpdate_at ho6 rfl ?_ (by simp) (by rw [hz, aa, dD]; lia))
   rw [hz]
   simp only [bne_self_eq_false, bv, if_false]
   exact aI (fin vs (hys ▸ r))
 · rw [if_neg h2, if_neg h2]
   rw [aa] at h2
   obtain ⟨π, Fw⟩ := few (isortD_perm xs e)
   have r6 : fL F H α vs xs := fL.mv ⟨λ a o e n _ => ⟨k6 a o e, n⟩, λ _ _ e => e⟩ r
   refine aC (kind_rd (s := { s with heap := H }) r6 tt λ κ hκ => ?_)
   have hw : (kas_sort vs.length).kasWp (kas_ask F.prog F.w A κ vs) (λ p s' => s' = { s with heap := H } ∧ fL F hb α (p.toList.map λ i => vs.getD i .none) ys) { s with heap := H } := by
    rw [hl]
    refine chk_wp (λ i j C hne hi hj hC => ?_) (λ p hp hlt => ⟨rfl, rdAll_pick r _ _ (Fw.out hp hlt)⟩) _ (Fw.chk (by lia) h4)
    obtain ⟨x, hx⟩ : ∃ x, xs[i]? = some x := ⟨_, aO hi⟩
    obtain ⟨y, hy⟩ : ∃ y, xs[j]? = some y := ⟨_, aO hj⟩
    obtain ⟨u, hu1, ru⟩ := r6.get hx
    obtain ⟨v, hv1, rv⟩ := r6.get hy
    have mx := a7 hx
    have my := a7 hy
    unfold kas_ask
    rw [az, hu1, az, hv1]
    exact key_lt (s := { s with heap := H }) hκ (by lia) (aT.mp ok x mx) (aT.mp ok y my) (tupT_tup (aT.mp tt x mx)) (tupT_tup (aT.mp tt y my)) ru rv (Fw.ask hc hi hj hne hx hy) hC
   refine aC (ah (kat_run (Q := λ st' s' => ∃ p : Array Nat, p.size = vs.length ∧ arrOf st' = p.map (kas_item (vs.toArray.zip vs.toArray)) ∧ failedOf st' = none ∧ s' = { s with heap := H } ∧ fL F hb α (p.toList.map λ i => vs.getD i .none) ys)
    rfl (by lia) (by lia) (λ p' st' s' a1 a2 a3 a4 => ⟨p', a1, a2, a3, a4⟩) hw) ?_ λ _ _ e => e)
   rintro ⟨⟨⟩, st'⟩ s' ⟨p, hp, har, hf, rfl, hr⟩
   dsimp only
   refine aC (seqEpoch_at ho6 rfl ?_)
   have hz := kat_snds (ks := vs) (vs := vs) rfl har
   refine aC (listUpdate_at ho6 rfl ?_ (by simp) (by rw [hz, aa, aG, ac, hp, dD]; lia))
   rw [hf, hz]
   simp only [bne_self_eq_false, bv, if_false]
   exact aI (fin _ hr)
theorem lsort {hb : Heap} {a : av} {vs : List aJ} {n : Nat} {xs ys : List aA} {P' : PySem.Fin -> aK -> Prop} (k : ∀ b o, hb.get? b = some o -> s.heap.get? b = some o) (hn : hb.get? a = none)
 (ho : s.heap.get? a = some (seqObj "list" vs.toArray n)) (r : fL F hb α vs xs) (e : sortD xs = some ys) (hu : A.units + 30 < cLine)
 (h : ∀ (out : List aJ) (h' : Heap) (m : Nat), (∀ b o, hb.get? b = some o -> h'.get? b = some o) -> h'.get? a = some (fV out m) -> fL F hb α out ys -> P' (.done (.ret .none)) { s with heap := h' }) :
 aQ F.m A (bb.«list.sort» ⟨[.ref a], []⟩) P' E s := by
 unfold sortD at e
 split at e
 · rename_i is hi
   split at e
   · rename_i h64
     cases e
     obtain ⟨is', I, ei⟩ := ints_go r (R := λ z => z = is) (by rw [hi]; rfl)
     rw [ei] at I
     have hl : vs.length = is.length := by rw [r.length, ints_eq hi, aG]
     refine list_sort_tree ho I (by lia) λ out ns' a1 a2 a3 => ?_
     obtain ⟨m, g⟩ := sortedHeap_at (n := n) (out := out) ho
     refine h out.toList _ m (λ b o q => ?_) (by rw [g]) ?_
     · have hb' := k b o q
       have hne : b ≠ a := λ e => by subst e; rw [hn] at q; cases q
       rw [sortedHeap_old hne (cu hb')]
       exact hb'
     · rw [sorted_eq (a2.trans (isortI_perm is).symm) a3 (fj is)] at a1
       exact ints_rd a1
   · cases e
 · split at e
   · rename_i hq
     obtain ⟨zs, h1, h2⟩ := bK.mp e
     split at h2
     · rename_i hc
       cases h2
       simp only [bl, decide_eq_true_eq] at hq
       exact lsort_few k hn ho r hq.1.1 hq.1.2 hq.2 h1 hc hu h
     · cases h2
   · cases e
theorem sorted_go {hb : Heap} {x : aJ} {xs ys : List aA} {Q : aJ -> aK -> Prop} (e : sortD xs = some ys) (hu : A.units + 40 < cLine) (hl : xs.length <= 64)
 (hcol : ∀ (K : List aJ -> aK -> Prop), (∀ (vs : List aJ) (s' : aK), (∀ b o, hb.get? b = some o -> s'.heap.get? b = some o) -> fL F hb α vs xs -> s'.gens = s.gens -> s'.os = s.os -> K vs s') -> aQ F.m A.in1 (collect x) K E s)
 (h : ∀ (a : av) (out : List aJ) (s' : aK) (m : Nat), hb.get? a = none -> (∀ b o, hb.get? b = some o -> s'.heap.get? b = some o) -> s'.heap.get? a = some (fV out m) -> fL F hb α out ys -> s'.gens = s.gens -> s'.os = s.os -> Q (.ref a) s') :
 aQ F.m A (call (.builtin "sorted") [x]) Q E s := by
 refine Calls.call_function_entry kind_sorted plain_sorted entry_sorted (args_sorted1 _) ?_
 unfold bb.«sorted»
 refine aC (m := checkCount "sorted" 1 1 _) (aI ?_)
 refine aC (hcol _ λ vs s' k r hg hos => ?_)
 have hl2 := r.length
 refine aC (wpAny_newList ?_ (by rw [dD]; lia))
 have hn : hb.get? s'.heap.objs.size = none := by
  cases q : hb.get? s'.heap.objs.size with
  | none => rfl
  | some o => have := k _ _ q; rw [ax (aW _)] at this; cases this
 have hoL : (s'.heap.push (seqObj "list" vs.toArray 0)).get? s'.heap.objs.size = some (seqObj "list" vs.toArray 0) := ao _ rfl
 refine aC (bJ (bf slot_list_sort ⟨_, hoL, rfl⟩ entry_list_sort (lsort (s := { s' with heap := s'.heap.push (seqObj "list" vs.toArray 0) }) (λ b o q => ay _ (k b o q)) hn hoL r e (by show A.units + 1 + 1 + 30 < cLine; lia) λ out h' m k' g q => ⟨_, rfl, ?_⟩) (args_list_sort _)))
 exact aI ⟨_, rfl, h _ out _ m hn k' g q hg hos⟩
end
section
variable {F : Fx} {A : bH} {E : aJ -> aK -> Prop} {s : aK} {α : Pl} {σ : fE} {h : Heap} {Q : Ps} {x : aJ} {u : V}
theorem hash_int {P : bQ} (i : Int) : fT P (.int i) = hashInt i := by
 have h : fT P (.int i) = reduceHash (rawHash i) := rfl
 obtain ⟨a, b⟩ := rawHash_range i
 rw [h]
 unfold reduceHash hashInt
 rw [if_pos (fP (decide_eq_true a) (decide_eq_true b))]
theorem rdAll_of : ∀ {vs : List aJ} {xs : List aA}, vs.length = xs.length -> (∀ (i : Nat) (v : aJ) (x : aA), vs[i]? = some v -> xs[i]? = some x -> Rd F h α v x) -> fL F h α vs xs
 | [], [], _, _ => .nil
 | v :: vs, x :: xs, hl, h => .cons (h 0 v x rfl rfl) (rdAll_of (eH hl) λ i u y hu hy => h (i + 1) u y hu hy)
 | [], _ :: _, hl, _ => nomatch hl
 | _ :: _, [], hl, _ => nomatch hl
theorem keys_int : ∀ {kvs : List (aA × V)} {es : List bC} {is : List Int}, REs F h α es kvs -> ints? (kvs.map (·.1)) = some is ->
 ∃ kvI : List (Int × aJ), kvI.map (·.1) = is ∧ Pairs (dE F.prog F.w) es kvI ∧ ∀ e ∈ es, ∃ k, (dE F.prog F.w).is k e.key = true ∧ e.hash = (dE F.prog F.w).hash k
 | [], es, is, r, e => by
  obtain rfl := dI r.length
  obtain rfl := aY e
  exact ⟨[], rfl, .nil, λ _ m => nomatch m⟩
 | p :: kvs, es, is, r, e => r.E (C := λ es => ∃ kvI : List (Int × aJ), kvI.map (·.1) = is ∧ Pairs (dE F.prog F.w) es kvI ∧ ∀ e ∈ es, ∃ k, (dE F.prog F.w).is k e.key = true ∧ e.hash = (dE F.prog F.w).hash k) λ d es r1 rs => by
  obtain ⟨k, v⟩ := p
  have key := r1.key
  have hash := r1.hash
  cases k with
  | int i =>
   obtain ⟨q, h1, rfl⟩ := aZ.mp (show (ints? (kvs.map (·.1))).map (i :: ·) = some is from e)
   obtain ⟨kvI, e1, e2, e3⟩ := keys_int rs h1
   obtain ⟨dh, dk, dv⟩ := d
   obtain ⟨t, rfl⟩ : ∃ t, dk = .int i t := key.E (C := λ v => ∃ t, v = .int i t) λ t => ⟨t, rfl⟩
   refine ⟨(i, dv) :: kvI, congrArg (i :: ·) e1, .cons (intKind_is _ _ _ _) rfl e2, λ e he => ?_⟩
   rcases aP.mp he with rfl | he
   · exact ⟨i, intKind_is _ _ _ _, hash.trans (hash_int i)⟩
   · exact e3 e he
  | _ => exact nomatch e
theorem sortD_len {xs ys : List aA} (e : sortD xs = some ys) : xs.length <= 64 := by
 unfold sortD at e
 split at e
 · rename_i is hi
   split at e
   · rw [ints_eq hi, aG]; lia
   · cases e
 · split at e
   · rename_i hq
     exact aE (of_decide_eq_true (fG (fG hq))) (by decide)
   · cases e
theorem sorted_out (S : St F s.heap α σ) {a : av} {out : List aJ} {s' : aK} {m : Nat} {ys : List aA} (q : Q (.d (.list ys)) σ) (hn : s.heap.get? a = none) (k : ∀ b o, s.heap.get? b = some o -> s'.heap.get? b = some o) (g : s'.heap.get? a = some (fV out m))
 (r : fL F s.heap α out ys) (hg : s'.gens = s.gens) (ho : s'.os = s.os) : QE F s α Q (.ref a) s' :=
 qe_new q S k hg ho (.d (.list g (λ h => S.live _ h hn) (r.mv (mv_new k))))
theorem sorted_ok (W : Wo F) (hh : A.handled = none) (hu : A.units + 100 < cLine) (S : St F s.heap α σ) (r : RV F s.heap α x u) (e : OW (biD σ 3 [u]) λ z => Q z σ) :
 aQ F.m A (call (.builtin "sorted") [x]) (QE F s α Q) E s := by
 refine OW.or e (λ e => ?_) λ e => ?_
 · refine lst_go S r e.bind λ a vs n xs g q e => ?_
   refine OW.get e.map λ ys h1 w => ?_
   have hl := q.length
   have h64 := sortD_len h1
   refine sorted_go (hb := s.heap) h1 (by lia) h64 (λ K hK => ?_) λ a out s' m hn k g r hg ho => sorted_out S w hn k g r hg ho
   refine collect_list (isList_of g) (hK vs _ (λ b o q => ?_) q rfl rfl) (by rw [dD]; lia)
   show ((s.heap.push (seqObj "list" #[] 0)).update s.heap.objs.size (bw (· ++ vs.toArray))).get? b = some o
   rw [Heap.get?_update_ne _ _ _ _ (dy (cu q))]
   exact ay _ q
 · refine dict_go W S r e.bind λ a es n kvs g hns rs ap e => ?_
   refine OW.get e.bind λ is h2 e => e.ck λ h64 w => ?_
   have h64 := of_decide_eq_true h64
   obtain ⟨kvI, e1, e2, e3⟩ := keys_int rs h2
   have hs : sortD (is.map .int) = some ((isortI is).map .int) := by
    unfold sortD
    rw [show ints? (is.map aS) = some is by rw [<- ints_eq h2]; exact h2]
    exact if_pos h64
   have hln : kvI.length = is.length := by rw [<- e1, aG]
   have hnd : (kvI.map (·.1)).Nodup := by
    rw [e1]
    have hpi := ints_eq h2
    rw [hpi] at ap
    exact (List.pairwise_map.mp ap).imp λ {a b} hab (e : a = b) => bO (hab.symm.trans (decide_eq_true e))
   have hm : s.heap.DictAt (dE F.prog F.w) a kvI n := ⟨_, es.toArray, g, ⟨rfl, rfl, rfl⟩, rfl, λ e he => e3 e (by rwa [List.mem_toArray] at he), e2, hnd⟩
   refine sorted_go (hb := s.heap) hs (by lia) (by rw [aG]; lia) (λ K hK => ?_) λ a out s' m hn k g r hg ho => sorted_out S w hn k g r hg ho
   refine kdu_collect (kdl_dict (knd := dE F.prog F.w) (kvs := kvI) (ep := n) hns) (by exact hh) hm (by rw [dD]; lia) λ h' tk acc k hacc => ?_
   refine hK acc.toList _ k (rdAll_of (by rw [ac, hacc.1, aG, hln]) λ i v y hv hy => ?_) rfl rfl
   obtain ⟨k', x', h3, h4⟩ := hacc.2 i v (by rw [<- bR]; exact hv)
   have h5 : is[i]? = some k' := by rw [<- e1, a6, h3]; rfl
   rw [a6, h5] at hy
   cases hy
   obtain ⟨t, rfl⟩ := aJ.isInt_shape h4
   exact .int _ _
end
noncomputable def Rise (xs : Array Nat) : Prop := xs.toList.Pairwise (· < ·)
theorem Rise.at_ {xs : Array Nat} (R : Rise xs) {i j : Nat} (hij : i < j) (hj : j < xs.size) : xs.getD i 0 < xs.getD j 0 := by
 have := d0.mp R i j (by simpa using cU hij hj) (by simpa using hj) hij
 simpa [db, hj, cU hij hj] using this
theorem below_go {xs : Array Nat} (R : Rise xs) (j : Nat) : ∀ (f lo hi : Nat), hi <= xs.size -> lo <= hi -> hi - lo <= f -> (∀ i, i < lo -> xs.getD i 0 < j) -> (∀ i, hi <= i -> i < xs.size -> j <= xs.getD i 0) ->
 (∀ i, i < dm xs j f lo hi -> xs.getD i 0 < j) ∧ (∀ i, dm xs j f lo hi <= i -> i < xs.size -> j <= xs.getD i 0) ∧ dm xs j f lo hi <= xs.size := by
 intro f
 induction f with
 | zero =>
  intro lo hi h1 h2 h3 a b
  have : lo = hi := by lia
  subst this
  simp only [dm]
  exact ⟨a, b, h1⟩
 | succ f ih =>
  intro lo hi h1 h2 h3 a b
  simp only [dm]
  by_cases hl : lo < hi
  · have hg : xs.getD ((lo + hi) / 2) j = xs.getD ((lo + hi) / 2) 0 := by
     rw [db, dif_pos (by lia), db, dif_pos (by lia)]
    rw [if_pos hl, hg]
    by_cases hm : xs.getD ((lo + hi) / 2) 0 < j
    · rw [if_pos hm]
      refine ih _ _ h1 (by lia) (by lia) (λ i hi' => ?_) b
      rcases dz i ((lo + hi) / 2) with q | q
      · exact cU (R.at_ q (by lia)) hm
      · have : i = (lo + hi) / 2 := by lia
        rw [this]; exact hm
    · rw [if_neg hm]
      refine ih _ _ (by lia) (by lia) (by lia) a (λ i hi' hs => ?_)
      rcases dz ((lo + hi) / 2) i with q | q
      · exact aE (Nat.le_of_not_lt hm) (bt (R.at_ q hs))
      · have : i = (lo + hi) / 2 := by lia
        rw [this]; exact Nat.le_of_not_lt hm
  · rw [if_neg hl]
    have : lo = hi := by lia
    subst this
    exact ⟨a, b, h1⟩
theorem below_spec {xs : Array Nat} (R : Rise xs) (j : Nat) : (∀ i, i < ar xs j -> xs.getD i 0 < j) ∧ (∀ i, ar xs j <= i -> i < xs.size -> j <= xs.getD i 0) ∧ ar xs j <= xs.size :=
 below_go R j xs.size 0 xs.size (aW _) (bA _) (by lia) (λ i h => by lia) (λ i h1 h2 => by lia)
theorem below_at {xs : Array Nat} (R : Rise xs) {i : Nat} (hi : i < xs.size) : ar xs (xs.getD i 0) = i := by
 obtain ⟨a, b, c⟩ := below_spec R (xs.getD i 0)
 rcases Nat.lt_trichotomy (ar xs (xs.getD i 0)) i with h | h | h
 · have := b _ (aW _) (by lia)
   have := R.at_ h hi
   lia
 · exact h
 · exact absurd (a i h) (be _)
theorem below_next {xs : Array Nat} (R : Rise xs) {i : Nat} (hi : i < xs.size) : ar xs (xs.getD i 0 + 1) = i + 1 := by
 obtain ⟨a, b, c⟩ := below_spec R (xs.getD i 0 + 1)
 rcases Nat.lt_trichotomy (ar xs (xs.getD i 0 + 1)) (i + 1) with h | h | h
 · have := b i (by lia) hi
   lia
 · exact h
 · have h1 := a (i + 1) h
   have h2 : xs.getD i 0 < xs.getD (i + 1) 0 := R.at_ (cQ i) (by lia)
   lia
theorem below_zero {xs : Array Nat} (R : Rise xs) : ar xs 0 = 0 := by
 obtain ⟨a, b, c⟩ := below_spec R 0
 rcases Nat.eq_zero_or_pos (ar xs 0) with h | h
 · exact h
 · exact absurd (a 0 h) (by lia)
theorem ins_list {α : Type} (xs : Array α) (p : Nat) (x : α) : (cm xs p x).toList = xs.toList.take p ++ x :: xs.toList.drop p := by
 rw [aX.toList_insertAt]
 try simp
theorem rise_ins {xs : Array Nat} (R : Rise xs) {j : Nat} (hj : xs[ar xs j]? ≠ some j) : Rise (cm xs (ar xs j) j) := by
 obtain ⟨a, b, c⟩ := below_spec R j
 unfold Rise
 rw [ins_list, List.pairwise_append]
 have R' := R
 unfold Rise at R'
 rw [<- bZ (ar xs j) xs.toList, List.pairwise_append] at R'
 have hd : ∀ y ∈ xs.toList.drop (ar xs j), j < y := by
  intro y hy
  obtain ⟨i, hi, rfl⟩ := cH hy
  rw [List.getElem_drop, Array.getElem_toList]
  rw [cg, ac] at hi
  have h1 := b (ar xs j + i) (by lia) (by lia)
  rw [db, dif_pos (by lia)] at h1
  rcases eK h1 with h | h
  · exact h
  · exfalso
    rcases Nat.eq_zero_or_pos i with q | q
    · subst q
      apply hj
      rw [bL (by lia)]
      simpa using h.symm
    · have h2 := R.at_ (show ar xs j < ar xs j + i by lia) (by lia)
      have h3 := b (ar xs j) (aW _) (by lia)
      rw [show xs.getD (ar xs j + i) 0 = xs[ar xs j + i]'(by lia) by rw [db, dif_pos (by lia)]; rfl, show xs[ar xs j + i]'(by lia) = j from h.symm] at h2
      lia
 have ht : ∀ y ∈ xs.toList.take (ar xs j), y < j := by
  intro y hy
  obtain ⟨i, hi, rfl⟩ := cH hy
  rw [List.getElem_take, Array.getElem_toList]
  rw [dq, ac] at hi
  have h1 := a i (by lia)
  rw [db, dif_pos (by lia)] at h1
  exact h1
 refine ⟨R'.1, bD.mpr ⟨hd, R'.2.1⟩, λ x hx y hy => ?_⟩
 rcases aP.mp hy with rfl | hy
 · exact ht x hx
 · exact cU (ht x hx) (hd y hy)
structure STab (led : Bool) (t : aX) (n : Nat) : Prop where
 fits : t.fits n = true
 rise : Rise t.place
 dum : t.dummies = #[]
 led : t.led = led
theorem STab.size {led : Bool} {t : aX} {n : Nat} (T : STab led t n) : t.place.size = n := by
 have := T.fits
 simp only [aX.fits, bl, beq_iff_eq] at this
 exact this.1
theorem STab.plain {led : Bool} {t : aX} {n : Nat} (T : STab led t n) : STab led { t with plain := false } n := ⟨aX.fits_plain_off T.fits, T.rise, T.dum, T.led⟩
theorem rise_range (n : Nat) : Rise (Array.range n) := by
 unfold Rise
 rw [Array.toList_range]
 exact List.pairwise_lt_range
theorem stab_in {led : Bool} {t : aX} {n : Nat} (h : t.led = led) : STab led (t.standIn n) n := ⟨aX.standIn_fits t n, rise_range n, rfl, h⟩
theorem stab_fresh (led : Bool) : STab led (.fresh 0 0 led) 0 := ⟨rfl, List.Pairwise.nil, rfl, rfl⟩
theorem has_nil (j : Nat) : aX.has #[] j = false := by simp [aX.has]
theorem probe_empty {t : aX} (hd : t.dummies = #[]) (ha : Nat -> Int) (h : Int) : ∀ (f : Nat) (p : eG) (j : Nat) (d : Option Nat), p.dummy = none -> cb t ha h f p = some (.empty j d) -> d = none ∧ t.slot j = .empty
 | 0, p, j, d, _, e => by simp [cb] at e
 | f + 1, p, j, d, hp, e => by
  simp only [cb] at e
  have adv : (t.advance p).dummy = none := by
   unfold aX.advance
   split
   · exact hp
   · exact hp
  split at e
  · rename_i hs
    cases e
    exact ⟨hp, hs⟩
  · rename_i hs
    unfold aX.slot at hs
    dsimp only at hs
    rw [hd, has_nil] at hs
    split at hs <;> simp at hs
  · split at e
    · cases e
    · exact probe_empty hd ha h f _ j d adv e
theorem slot_empty {t : aX} {j : Nat} (h : t.slot j = .empty) : t.place[ar t.place j]? ≠ some j := by
 intro e
 unfold aX.slot at h
 dsimp only at h
 rw [e] at h
 simp at h
theorem put_tab {led : Bool} {t : aX} {n : Nat} (T : STab led t n) {j : Nat} (h : t.slot j = .empty) : Rise (t.put j).1.place ∧ (t.put j).1.dummies = #[] ∧ (t.put j).1.led = led ∧ (t.put j).1.place.size = n + 1 := by
 unfold aX.put
 dsimp only
 rw [T.dum, has_nil]
 refine ⟨rise_ins T.rise (slot_empty h), rfl, T.led, ?_⟩
 rw [<- ac, (aX.insertAt_perm _ _ _).length_eq, ac, Array.size_push, T.size]
theorem layNew_tab {led : Bool} {t : aX} {es : Array (Int × aJ)} (T : STab led t es.size) (h : Int) (x : aJ) : STab led (layNew t es h x).2.1 (layNew t es h x).1.size := by
 have hf := layNew_fits t es h x
 unfold layNew at hf ⊢
 split
 · rename_i slot wd hs
   rw [hs] at hf
   dsimp only at hf ⊢
   unfold aX.freeSlot at hs
   split at hs
   · rename_i j d he
     simp only [cK, Prod.mk.injEq] at hs
     obtain ⟨rfl, h2⟩ := probe_empty T.dum _ _ _ _ _ _ rfl he
     obtain ⟨hs1, hs2⟩ := hs
     simp only [Option.getD_none] at hs1
     subst hs1
     obtain ⟨p1, p2, p3, p4⟩ := put_tab T h2
     refine ⟨hf, ?_, ?_, ?_⟩
     · unfold aX.orStandIn; split
       · exact p1
       · exact rise_range _
     · unfold aX.orStandIn; split
       · exact p2
       · rfl
     · unfold aX.orStandIn; split
       · exact p3
       · exact p3
   · cases hs
 · dsimp only
   rw [Array.size_push]
   exact stab_in T.led
theorem laid_tab {mask finger moves : Nat} {led plain : Bool} {hs : Array Int} {t : aX} {order : Array Nat} (h : aX.laid mask finger moves led plain hs = some (t, order)) : Rise t.place ∧ t.dummies = #[] ∧ t.led = led := by
 unfold aX.laid at h
 obtain ⟨owner, h1, h2⟩ := bK.mp h
 simp only [pure, cK, Prod.mk.injEq] at h2
 obtain ⟨rfl, _⟩ := h2
 refine ⟨?_, rfl, rfl⟩
 unfold Rise
 dsimp only
 rw [List.map_filterMap]
 rw [List.pairwise_filterMap]
 refine List.pairwise_lt_range.imp λ {a b} hab x hx y hy => ?_
 cases ha : owner.getD a none <;> rw [ha] at hx <;> simp at hx
 cases hb : owner.getD b none <;> rw [hb] at hy <;> simp at hy
 subst hx; subst hy; exact hab
theorem relayAll_tab {led : Bool} {t : aX} {es : Array (Int × aJ)} (hl : t.led = led) (wanted : Nat) : STab led (relayAll t es wanted).2.1 (relayAll t es wanted).1.size := by
 have hf := relayAll_fits t es wanted
 unfold relayAll at hf ⊢
 split
 · rename_i t' order hr
   rw [hr] at hf
   dsimp only at hf ⊢
   unfold aX.relaid at hr
   obtain ⟨h1, h2, h3⟩ := laid_tab hr
   split
   · rename_i hc
     rw [if_pos hc] at hf
     exact ⟨hf, h1, h2, h3.trans hl⟩
   · exact stab_in hl
 · exact stab_in hl
theorem ent_set_iter : entryFor table "set.__iter__" = some bb.«frozenset.__iter__» := entryFor_alias (id' := "frozenset.__iter__") (by kernel_rfl) rfl (by decide +kernel) (by kernel_rfl)
theorem erase_perm {α : Type} : ∀ {l : List α} {i : Nat} (hi : i < l.length), (l[i] :: l.eraseIdx i).Perm l
 | x :: l, 0, _ => .refl _
 | x :: l, i + 1, hi => by
  have := erase_perm (l := l) (i := i) (by simpa using hi)
  simp only [List.getElem_cons_succ, List.eraseIdx_cons_succ]
  exact (List.Perm.swap _ _ _).trans (this.cons x)
theorem sl_si_next : Slot "set_iterator" "__next__" "set_iterator.__next__" :=
 .of (owner := "set_iterator") (n := "__next__") (by rw [typeLookup_type, builtinLookup_eq_fast]; kernel_rfl) (by decide +kernel) (by decide +kernel) (by decide +kernel)
  (by first | exact .inl (by decide +kernel) | exact .inr (by decide +kernel)) (by rw [isSubtype_type]; kernel_rfl)
theorem ent_si_next : entryFor table "set_iterator.__next__" = some bb.«set_iterator.__next__» := entryFor_of_tree (by kernel_rfl)
theorem ow_si : Manifest.owners.lookup (String.ofList ['r', 'o', 't', 'a', 'r', 'e', 't', 'i', '_', 't', 'e', 's'].reverse) = some Manifest.sig_set_iterator := by kernel_rfl
theorem ar_si_next (a : aJ) : argsOk "set_iterator.__next__" ⟨[a], []⟩ := by
 unfold argsOk; rw [signature?_of (id := "set_iterator.__next__") (n := ['_', '_', 't', 'x', 'e', 'n', '_', '_']) (o := ['r', 'o', 't', 'a', 'r', 'e', 't', 'i', '_', 't', 'e', 's']) (by kernel_rfl) ow_si]; kernel_rfl
noncomputable abbrev setObj (es : Array (Int × aJ)) (ep : Nat) (t : aX) : Obj := { cls := .type "set", data := .set es ep t }
noncomputable abbrev siObj (a b c d e : aJ) : Obj := { cls := .type "set_iterator", data := .fields #[a, b, c, d, e] }
section
variable {prog : eZ} {w : World} {A : bH} {E : aJ -> aK -> Prop} {s : aK}
theorem wpAny_choose {src : Source} {n : Nat} {Q : Nat -> aK -> Prop} (hn : n ≠ 0) (h : ∀ i d, i < n -> Q i { s with drawn := d }) : aQ (model prog w) A (choose src n) Q E s := by
 intro Γ p hΓ
 show Sem.wp (model prog w) Γ (Sem.choose src n Sem.pure) _ _ p s
 rw [Sem.wp_choose]
 exact ⟨hn, by rw [Sem.wp_pure]; exact h _ _ (Nat.mod_lt _ (Nat.pos_of_ne_zero hn))⟩
theorem wpAny_draw {α : Type} : ∀ (n : Nat) (xs : List α) {s : aK} {Q : List α -> aK -> Prop}, n = xs.length -> (∀ ys d, ys.Perm xs -> Q ys { s with drawn := d }) -> aQ (model prog w) A (drawOrder n xs) Q E s
 | 0, xs, s, Q, hn, h => by
  have : xs = [] := List.length_eq_zero_iff.mp hn.symm
  subst this
  unfold drawOrder
  exact aI (h [] s.drawn (.refl _))
 | n + 1, [], s, Q, hn, h => by simp at hn
 | n + 1, x :: xs, s, Q, hn, h => by
  unfold drawOrder
  refine aC (wpAny_choose (by simp) λ i d hi => ?_)
  obtain ⟨y, hy⟩ : ∃ y, (x :: xs)[i]? = some y := ⟨_, aO hi⟩
  simp only [hy]
  refine aC (wpAny_draw n ((x :: xs).eraseIdx i) (by rw [List.length_eraseIdx_of_lt hi]; simp at hn ⊢; lia) λ ys d' hp => ?_)
  refine aI (h (y :: ys) d' ?_)
  have e : y = (x :: xs)[i]'hi := by rw [aO hi] at hy; exact (aY hy).symm
  exact (hp.cons y).trans (by rw [e]; exact erase_perm hi)
theorem pick_go {α : Type} (next : Nat -> Nat) : ∀ (f k : Nat) (left : List α) (out : Array α), f = left.length -> (pickOrder.go next f k left out).toList.Perm (out.toList ++ left)
 | 0, k, left, out, hf => by
  have : left = [] := List.length_eq_zero_iff.mp hf.symm
  subst this
  simp [pickOrder.go]
 | f + 1, k, left, out, hf => by
  unfold pickOrder.go
  have hpos : 0 < left.length := by lia
  have hlt : next k % left.length < left.length := Nat.mod_lt _ hpos
  rw [aO hlt]
  dsimp only
  refine (pick_go next f (k + 1) _ _ (by rw [List.length_eraseIdx_of_lt hlt]; lia)).trans ?_
  rw [Array.toList_push, aw]
  exact List.Perm.append_left _ (erase_perm hlt)
theorem pick_perm {α : Type} (next : Nat -> Nat) (xs : Array α) : (pickOrder next xs).toList.Perm xs.toList := by
 have := pick_go next xs.size 0 xs.toList #[] (by simp)
 simpa [pickOrder] using this
theorem set_type {a : av} {es : Array (Int × aJ)} {ep : Nat} {t : aX} (g : s.heap.get? a = some (setObj es ep t)) : s.TypeIs (.ref a) "set" := ⟨_, g, rfl⟩
inductive SI (w : World) (h : Heap) (I a : av) (es : Array (Int × aJ)) (ep : Nat) (t : aX) (ord : List aJ) (pl : av) : Nat -> Prop
 | text {i : Nat} (b : w.params.followText "set-order" = true) (ho : ord = (pickOrder (w.params.setOrder a ep) es).toList.map (·.2))
  (g : h.get? I = some (siObj (.int 0 0) (.int i 0) (.ref a) (.int es.size 0) (.int ep 0))) : SI w h I a es ep t ord pl i
 | led {i : Nat} {slot : Nat} (b : w.params.followText "set-order" = false) (hd : t.plain = true ∨ es.size <= 1) (ho : ord = es.toList.map (·.2)) (hb : ar t.place slot = i)
  (g : h.get? I = some (siObj (.int slot 0) (.int i 0) (.ref a) (.int es.size 0) (.int ep 0))) : SI w h I a es ep t ord pl i
 | drawn {i : Nat} {ps : List Nat} (hlt : ∀ p ∈ ps, p < es.size) (ho : ord.map some = ps.map λ p => (es[p]?).map (·.2))
  (g : h.get? I = some (siObj (.ref pl) (.int i 0) (.ref a) (.int es.size 0) (.int ep 0))) (gp : h.get? pl = some (tupObj (ps.map λ (p : Nat) => rawInt p))) : SI w h I a es ep t ord pl i
end
theorem sl_si_iter : Slot "set_iterator" "__iter__" "set_iterator.__iter__" :=
 .of (owner := "set_iterator") (n := "__iter__") (by rw [typeLookup_type, builtinLookup_eq_fast]; kernel_rfl) (by decide +kernel) (by decide +kernel) (by decide +kernel)
  (by first | exact .inl (by decide +kernel) | exact .inr (by decide +kernel)) (by rw [isSubtype_type]; kernel_rfl)
theorem ar_si_iter (a : aJ) : argsOk "set_iterator.__iter__" ⟨[a], []⟩ := by
 unfold argsOk; rw [signature?_of (id := "set_iterator.__iter__") (n := ['_', '_', 'r', 'e', 't', 'i', '_', '_']) (o := ['r', 'o', 't', 'a', 'r', 'e', 't', 'i', '_', 't', 'e', 's']) (by kernel_rfl) ow_si]; kernel_rfl
theorem ent_si_iter : entryFor table "set_iterator.__iter__" = some bb.«dict_keyiterator.__iter__» := entryFor_alias (id' := "dict_keyiterator.__iter__") (by kernel_rfl) rfl (by decide +kernel) (by kernel_rfl)
section
variable {prog : eZ} {w : World} {A : bH} {E : aJ -> aK -> Prop} {s : aK} {a : av} {es : Array (Int × aJ)} {ep : Nat} {t : aX}
theorem setsByText_wp {Q : Bool -> aK -> Prop} (h : Q (w.params.followText "set-order") s) : aQ (model prog w) A setsByText Q E s := by
 unfold setsByText
 exact aC (eo (aI h))
noncomputable def LedOk (w : World) (t : aX) (n : Nat) : Prop := STab (!w.params.followText "set-order") t n
theorem pyIter_set {Q : aJ -> aK -> Prop} (g : s.heap.get? a = some (setObj es ep t)) (T : LedOk w t es.size) (hz : es.size <= 1000)
 (h : ∀ (I pl : av) (h' : Heap) (d : Drawn) (ord : List aJ), (∀ b o, s.heap.get? b = some o -> h'.get? b = some o) -> s.heap.get? I = none -> s.heap.get? pl = none -> ord.Perm (es.toList.map (·.2)) -> SI w h' I a es ep t ord pl 0 -> Q (.ref I) { s with heap := h', drawn := d }) :
 aQ (model prog w) A (pyIter (.ref a)) Q E s := by
 refine wpAny_pyIter_slot (set_type g) F.slot_set_iter (bf F.slot_set_iter (set_type g) ent_set_iter ?_ (F.args_set_iter_1 _))
 unfold bb.«frozenset.__iter__»
 refine aC (m := bb.Frozenset.slot0 "__iter__" _) ?_
 show aQ _ _ (pure a) _ _ s
 refine aI ?_
 refine aC ?_
 unfold bb.Frozenset.sizeOf
 refine aC (wpAny_setEntries_of g rfl T.fits (aI ?_))
 refine aC ?_
 unfold setDrawn
 refine aC (bp g rfl T.fits ?_)
 dsimp only
 refine aC (setsByText_wp (aI ?_))
 show aQ _ _ (if (!w.params.followText "set-order" && (!t.plain && decide (es.size > 1))) = true then _ else _) _ _ s
 have fin : ∀ (first : aJ) (s₁ : aK), (∀ b o, s.heap.get? b = some o -> s₁.heap.get? b = some o) -> s₁.gens = s.gens -> s₁.os = s.os -> s₁.toks = s.toks ->
  (∀ ord : List aJ, True) -> (∃ (ord : List aJ) (pl : av), s.heap.get? pl = none ∧ ord.Perm (es.toList.map (·.2)) ∧ ∀ h', (∀ b o, s₁.heap.get? b = some o -> h'.get? b = some o) -> h'.get? s₁.heap.objs.size = some (siObj first (.int 0 0) (.ref a) (.int es.size 0) (.int ep 0)) -> SI w h' s₁.heap.objs.size a es ep t ord pl 0) ->
  aQ (model prog w) A.in1 (do ret (<- newFields "set_iterator" [first, rawInt 0, .ref a, rawInt es.size, rawInt (<- setEpoch a)])) (λ fin s' => ∃ v, fin = .done (.ret v) ∧ ∃ T' r, s'.TypeIs v T' ∧ typeLookup (.type T') "__next__" = pure (some r) ∧ Q v s') E s₁ := by
  intro first s₁ k hg ho ht _ z
  obtain ⟨ord, pl, hpl, hp, hs⟩ := z
  refine aC (wpAny_setEpoch_of (k _ _ g) rfl T.fits ?_)
  refine aC ?_
  unfold newFields
  refine ca ?_ (by size_fits)
  refine aI ⟨_, rfl, "set_iterator", _, ⟨_, ao _ rfl, rfl⟩, sl_si_next.lookup, ?_⟩
  have hn : s.heap.get? s₁.heap.objs.size = none := by
   cases q : s.heap.get? s₁.heap.objs.size with
   | none => rfl
   | some o => have := k _ _ q; rw [ax (aW _)] at this; cases this
  have := h s₁.heap.objs.size pl (s₁.heap.push (siObj first (.int 0 0) (.ref a) (.int es.size 0) (.int ep 0))) s₁.drawn ord (λ b o q => ay _ (k b o q)) hn hpl hp (hs _ (λ b o q => ay _ q) (ao _ rfl))
  obtain ⟨hh, gg, dd, tt, oo⟩ := s₁
  simp only at hg ho ht
  subst hg; subst ho; subst ht
  exact this
 by_cases hb : w.params.followText "set-order" = true
 · rw [if_neg (by simp [hb])]
   refine aC (aI ?_)
   exact fin (.int 0 0) s (λ b o q => q) rfl rfl rfl (λ _ => trivial) ⟨_, s.heap.objs.size, (ax (aW _)), (pick_perm (w.params.setOrder a ep) es).map _, λ h' k g' => .text hb rfl g'⟩
 · have hb' : w.params.followText "set-order" = false := by simpa using hb
   by_cases hd : (!t.plain && decide (es.size > 1)) = true
   · rw [if_pos (by simp [hb', hd])]
     refine aC (wpAny_draw es.size (cN es.size) (by simp) λ ps d hp => ?_)
     have hl : ps.length = es.size := by rw [hp.length_eq, List.length_range]
     have hlm : (ps.map λ (p : Nat) => rawInt p).length <= sizeLine := by rw [aG, hl, dD]; lia
     refine aC (wpAny_newTuple ?_ hlm)
     have hm : ∀ p ∈ ps, p < es.size := λ p hq => by have := hp.mem_iff.mp hq; simpa using this
     refine fin (.ref s.heap.objs.size) { s with heap := s.heap.push (tupObj (ps.map λ (p : Nat) => rawInt p)), drawn := d } (λ b o q => ay _ q) rfl rfl rfl (λ _ => trivial) ⟨ps.map λ p => (es.toList.map (·.2)).getD p .none, s.heap.objs.size, (ax (aW _)), ?_, λ h' k g' => ?_⟩
     · have e : (es.toList.map (·.2)) = (cN es.size).map λ p => (es.toList.map (·.2)).getD p .none := by
        apply List.ext_getElem?
        intro i
        rw [a6, a6]
        by_cases hi : i < es.size
        · rw [List.getElem?_range hi]; simp [hi]
        · rw [bS (by simp; lia), bS (by simp; lia)]; rfl
       conv => rhs; rw [e]
       exact hp.map _
     · refine .drawn hm ?_ g' (k _ _ (ao _ rfl))
       rw [bE]
       refine cY λ p hq => ?_
       have := hm p hq
       simp [this]
   · rw [if_neg (by simp [hb', hd])]
     refine aC (aI ?_)
     refine fin (.int 0 0) s (λ b o q => q) rfl rfl rfl (λ _ => trivial) ⟨_, s.heap.objs.size, (ax (aW _)), .refl _, λ h' k g' => .led (slot := 0) hb' ?_ rfl (below_zero T.rise) g'⟩
     simp only [bl, cw, decide_eq_true_eq, not_and, Nat.not_lt] at hd
     cases hp : t.plain with
     | true => exact .inl rfl
     | false => exact .inr (hd hp)
end
section
variable {prog : eZ} {w : World} {A : bH} {E : aJ -> aK -> Prop} {s : aK} {a I pl : av} {es : Array (Int × aJ)} {ep : Nat} {t : aX} {ord : List aJ}
theorem SI.obj {h : Heap} {i : Nat} (x : SI w h I a es ep t ord pl i) : ∃ first, h.get? I = some (siObj first (.int i 0) (.ref a) (.int es.size 0) (.int ep 0)) := by
 cases x with
 | text _ _ g => exact ⟨_, g⟩
 | led _ _ _ _ g => exact ⟨_, g⟩
 | drawn _ _ g _ => exact ⟨_, g⟩
theorem SI.frame {h h' : Heap} {i : Nat} (x : SI w h I a es ep t ord pl i) (k1 : ∀ o, h.get? I = some o -> h'.get? I = some o) (k2 : ∀ o, h.get? pl = some o -> h'.get? pl = some o) : SI w h' I a es ep t ord pl i := by
 cases x with
 | text b ho g => exact .text b ho (k1 _ g)
 | led b hd ho hb g => exact .led b hd ho hb (k1 _ g)
 | drawn hlt ho g gp => exact .drawn hlt ho (k1 _ g) (k2 _ gp)
theorem setNext_text {Q : Option (aJ × Nat) -> aK -> Prop} {slot i : Nat} (g : s.heap.get? a = some (setObj es ep t)) (T : LedOk w t es.size) (b : w.params.followText "set-order" = true)
 (h : Q (((pickOrder (w.params.setOrder a ep) es)[i]?).map λ e => (e.2, slot)) s) : aQ (model prog w) A (setNext a slot i ep) Q E s := by
 unfold setNext
 refine aC (bp g rfl T.fits ?_)
 dsimp only
 refine aC (setsByText_wp ?_)
 rw [if_pos b]
 simp only [bne_self_eq_false, bv, if_false]
 refine aC ?_
 unfold setWalk
 refine aC (bp g rfl T.fits ?_)
 dsimp only
 refine aC (setsByText_wp ?_)
 rw [if_pos b]
 exact aC (eo (aI (aI h)))
theorem setNext_led {Q : Option (aJ × Nat) -> aK -> Prop} {slot i : Nat} (g : s.heap.get? a = some (setObj es ep t)) (T : LedOk w t es.size) (b : w.params.followText "set-order" = false) (hd : t.plain = true ∨ es.size <= 1)
 (h : Q (match es[ar t.place slot]?, t.place[ar t.place slot]? with | some (_, x), some j => some (x, j + 1) | _, _ => none) s) : aQ (model prog w) A (setNext a slot i ep) Q E s := by
 unfold setNext
 refine aC (bp g rfl T.fits ?_)
 dsimp only
 refine aC (setsByText_wp ?_)
 rw [if_neg (by simp [b])]
 have e1 : (!t.plain && decide (es.size > 1)) = false := by
  rcases hd with q | q
  · simp [q]
  · simp [Nat.not_lt.mpr q]
 have e2 : t.led = true := by rw [T.led, b]; rfl
 show aQ _ _ (if (!t.plain && decide (es.size > 1)) = true then _ else _) _ _ s
 rw [if_neg (by simp [e1])]
 refine aC (m := if (!t.led && !es.isEmpty) = true then unsupported "set:maker-not-led" else pure ()) ?_
 rw [if_neg (by simp [e2])]
 exact aI (aI h)
theorem si_item {i : Nat} {v : aJ} {Q : Option aJ -> aK -> Prop} (g : s.heap.get? a = some (setObj es ep t)) (T : LedOk w t es.size) (x : SI w s.heap I a es ep t ord pl i) (hi : ord[i]? = some v)
 (hQ : ∀ h', SI w h' I a es ep t ord pl (i + 1) -> b8 I s.heap h' -> Q (some v) { s with heap := h' }) : aQ (model prog w) A (pyNext (.ref I)) Q E s := by
 obtain ⟨first, g'⟩ := x.obj
 unfold pyNext
 refine aC (wpAny_attempt (dL (name := aD "__next__") ⟨_, g', rfl⟩ sl_si_next (bf sl_si_next ⟨_, g', rfl⟩ ent_si_next ?_ (ar_si_next _))))
 unfold bb.«set_iterator.__next__»
 refine aC (aI ?_)
 refine aC (wpAny_fieldsOf g' rfl ?_)
 dsimp only
 refine aC (wpAny_setEntries_of g rfl T.fits ?_)
 rw [if_neg (by simp)]
 cases x with
 | text b ho g2 =>
  have e := g2.symm.trans g'; cases e
  refine aC (setNext_text g T b ?_)
  have hv : ((pickOrder (w.params.setOrder a ep) es)[i]?).map (·.2) = some v := by
   rw [ho, a6, bR] at hi; exact hi
  obtain ⟨e, h1, rfl⟩ := aZ.mp hv
  simp only [bT, h1, Option.map_some]
  refine aC (b6 g2 (by simp) λ h1 g3 b1 => ?_)
  refine aC (b6 (s := { s with heap := h1 }) g3 (by simp) λ h2 g4 b2 => ?_)
  exact aI ⟨_, rfl, aI (hQ h2 (.text b ho (by simpa [rawInt] using g4)) (b1.trans b2))⟩
 | led b hd ho hb g2 =>
  have e := g2.symm.trans g'; cases e
  refine aC (setNext_led g T b hd ?_)
  have hv : (es[i]?).map (·.2) = some v := by
   rw [ho, a6, bR] at hi; exact hi
  obtain ⟨e, h1, rfl⟩ := aZ.mp hv
  have hlt : i < es.size := by
   rcases dz i es.size with q | q
   · exact q
   · rw [cZ q] at h1; cases h1
  have hp : t.place[i]? = some (t.place.getD i 0) := by
   rw [bL (by rw [T.size]; exact hlt), db, dif_pos (by rw [T.size]; exact hlt)]; rfl
  simp only [bT, hb, h1, hp]
  refine aC (b6 g2 (by simp) λ h1 g3 b1 => ?_)
  refine aC (b6 (s := { s with heap := h1 }) g3 (by simp) λ h2 g4 b2 => ?_)
  exact aI ⟨_, rfl, aI (hQ h2 (.led (slot := t.place.getD i 0 + 1) b hd ho (below_next T.rise (by rw [T.size]; exact hlt)) (by simpa [rawInt] using g4)) (b1.trans b2))⟩
 | drawn hlt ho g2 gp =>
  rename_i ps
  have e := g2.symm.trans g'; cases e
  have hne : pl ≠ I := λ e => by
   subst e; rw [g2] at gp
   have := congrArg Obj.cls (aY gp); simp at this
  have hv : (ps[i]?).map (λ p => (es[p]?).map (·.2)) = some (some v) := by
   rw [<- a6, <- ho, a6, hi]; rfl
  obtain ⟨p, h1, h2⟩ := aZ.mp hv
  obtain ⟨e, h3, rfl⟩ := aZ.mp h2
  refine aC ?_
  unfold seqItems?
  refine aC (wpAny_load gp (aI ?_))
  simp only [bT, bF, a6, h1, Option.map_some, rawInt]
  refine aC ?_
  unfold setNextDrawn
  refine aC (bp g rfl T.fits ?_)
  dsimp only
  simp only [bne_self_eq_false, bv, if_false, bT, h3]
  refine aI ?_
  refine aC (b6 g2 (by simp) λ h1 g3 b1 => ?_)
  exact aI ⟨_, rfl, aI (hQ h1 (.drawn hlt ho (by simpa [rawInt] using g3) (by rw [b1.2 pl hne]; exact gp)) b1)⟩
theorem stop_tail {β : Type} {Q : β -> aK -> Prop} {E' : aJ -> aK -> Prop} (hh : A.handled = none) (h : ∀ (e : aJ) (h' : Heap), ({ s with heap := h' } : aK).TypeIs e "StopIteration" -> (∀ b o, s.heap.get? b = some o -> h'.get? b = some o) -> E' e { s with heap := h' }) :
 aQ (model prog w) A (newExc (.type "StopIteration") [] >>= λ e => (raiseNew e : Sem β)) Q E' s := by
 refine aC ?_
 simp only [newExc, newTuple]
 refine aC (ca ?_ (by size_fits))
 refine aC (m := firstArgMember _ _) (wpAny_of_eq (a := aJ.none) (by first | rfl | (simp only [firstArgMember]; rfl)) ?_)
 refine ca ?_ (by size_fits)
 simp only [raiseNew]
 refine aC (wpAny_handled ?_)
 rw [hh]
 refine aC (aI (wpAny_throw ?_))
 exact h _ _ ⟨_, ao _ rfl, rfl⟩ λ b o q => ay _ (ay _ q)
theorem si_end {i : Nat} {Q : Option aJ -> aK -> Prop} (hh : A.handled = none) (g : s.heap.get? a = some (setObj es ep t)) (T : LedOk w t es.size) (x : SI w s.heap I a es ep t ord pl i) (hi : ord.length <= i)
 (hQ : ∀ h', (∀ b o, b ≠ I -> s.heap.get? b = some o -> h'.get? b = some o) -> Q none { s with heap := h' }) : aQ (model prog w) A (pyNext (.ref I)) Q E s := by
 obtain ⟨first, g'⟩ := x.obj
 unfold pyNext
 refine aC (wpAny_attempt (dL (name := aD "__next__") ⟨_, g', rfl⟩ sl_si_next (bf sl_si_next ⟨_, g', rfl⟩ ent_si_next ?_ (ar_si_next _))))
 unfold bb.«set_iterator.__next__»
 refine aC (aI ?_)
 refine aC (wpAny_fieldsOf g' rfl ?_)
 dsimp only
 refine aC (wpAny_setEntries_of g rfl T.fits ?_)
 rw [if_neg (by simp)]
 have out : ∀ (h1 : Heap), b8 I s.heap h1 -> aQ (model prog w) A.in1 (newExc (.type "StopIteration") [] >>= λ e => raiseNew e) (λ fin s' => ∃ v, fin = PySem.Fin.done (.ret v) ∧ aQ (model prog w) A (pure (some v)) Q E s')
  (λ e s' => aQ (model prog w) A (do if <- isInstance e (.type "StopIteration") then pure none else throw e) Q E s') { s with heap := h1 } := by
  intro h1 b1
  refine stop_tail hh λ e h' hT k => ?_
  refine aC (wpAny_isInstance (T := "StopIteration") (b := true) hT isSubtype_stop ?_)
  exact aI (hQ h' λ b o hne q => k b o (by rw [show (({ s with heap := h1 } : aK)).heap = h1 from rfl, b1.2 b hne]; exact q))
 cases x with
 | text b ho g2 =>
  have e := g2.symm.trans g'; cases e
  have hn : (pickOrder (w.params.setOrder a ep) es)[i]? = none := by
   rw [cZ]
   rw [ho, aG, ac] at hi; exact hi
  refine aC (setNext_text g T b ?_)
  simp only [bT, hn, Option.map_none]
  refine aC (b6 g2 (by simp) λ h1 g3 b1 => ?_)
  exact out h1 b1
 | led b hd ho hb g2 =>
  have e := g2.symm.trans g'; cases e
  have hn : es[i]? = none := by
   rw [cZ]
   rw [ho, aG, ac] at hi; exact hi
  refine aC (setNext_led g T b hd ?_)
  simp only [bT, hb, hn]
  refine aC (b6 g2 (by simp) λ h1 g3 b1 => ?_)
  exact out h1 b1
 | drawn hlt ho g2 gp =>
  rename_i ps
  have e := g2.symm.trans g'; cases e
  have hn : ps[i]? = none := by
   rw [bS]
   have := congrArg bP ho
   rw [aG, aG] at this; lia
  refine aC ?_
  unfold seqItems?
  refine aC (wpAny_load gp (aI ?_))
  simp only [bT, bF, a6, hn, Option.map_none, rawInt]
  refine aC (b6 g2 (by simp) λ h1 g3 b1 => ?_)
  refine aC (b6 (s := { s with heap := h1 }) g3 (by simp) λ h2 g4 b2 => ?_)
  exact out h2 (b1.trans b2)
end
section
variable {prog : eZ} {w : World} {A : bH} {E : aJ -> aK -> Prop} {s : aK} {a I pl : av} {es : Array (Int × aJ)} {ep : Nat} {t : aX} {ord : List aJ}
theorem walks_set (hh : A.handled = none) (hne : a ≠ I) (T : LedOk w t es.size) :
 Walks prog w A I [I, a, pl] [I] ord.length (λ i v => ord[i]? = some v) (λ i h => h.get? a = some (setObj es ep t) ∧ SI w h I a es ep t ord pl i) where
 sub := λ b hb => by simp at hb; simp [hb]
 frame := λ _ _ _ st hk => ⟨hk a (by simp) _ st.1, st.2.frame (hk I (by simp)) (hk pl (by simp))⟩
 item := λ i s Q E hi st hQ => by
  obtain ⟨v, hv⟩ : ∃ v, ord[i]? = some v := ⟨_, aO hi⟩
  refine si_item st.1 T st.2 hv λ h' x b => ?_
  exact hQ v h' s.toks hv ⟨by rw [b.2 a hne]; exact st.1, x⟩ λ c o hc q => by rw [b.2 c (by simpa using hc)]; exact q
 done := λ s Q E st hQ => si_end hh st.1 T st.2 (aW _) λ h' k => hQ h' s.toks λ c o hc q => k c o (by simpa using hc) q
 self := λ i s Q E st hQ => by
  obtain ⟨first, g⟩ := st.2.obj
  refine wpAny_pyIter_slot (T := "set_iterator") ⟨_, g, rfl⟩ sl_si_iter (bf sl_si_iter ⟨_, g, rfl⟩ ent_si_iter ?_ (ar_si_iter _))
  show aQ _ _ (ret (.ref I)) _ _ s
  exact aI ⟨_, rfl, "set_iterator", _, ⟨_, g, rfl⟩, sl_si_next.lookup, hQ⟩
theorem hint_set {Q : Bool -> aK -> Prop} (hT : s.TypeIs (.ref a) "set") (h : Q false s) : aQ (model prog w) A (bb.List.listLengthHint (.ref a)) Q E s := by
 unfold bb.List.listLengthHint
 refine aC (wpAny_specialOf hT PySem.F.slot_set_len.lookup ?_)
 generalize hid : ("set.__len__" : String) = id0
 wp_delta
 rw [show splitId id0 = some ("set", "__len__") from by subst hid; decide +kernel]
 subst hid
 refine aC (wpAny_isInstance (T := "set") (b := true) hT (by rw [isSubtype_type]; kernel_rfl) ?_)
 refine b0 (λ hab => absurd hab (by decide)) (λ _ => ?_)
 refine b0 (λ _ => ?_) (λ hab => absurd (by decide +kernel) hab)
 refine aC (eY hT ?_)
 exact aI h
theorem collect_set {R : List aJ -> aK -> Prop} (hh : A.handled = none) (g : s.heap.get? a = some (setObj es ep t)) (T : LedOk w t es.size) (hz : es.size <= 1000)
 (h : ∀ (h' : Heap) (tk : Nat) (d : Drawn) (vs : List aJ), (∀ b o, s.heap.get? b = some o -> h'.get? b = some o) -> vs.Perm (es.toList.map (·.2)) -> R vs { s with heap := h', toks := tk, drawn := d }) :
 aQ (model prog w) A (collect (.ref a)) R E s := by
 have halt : a < s.heap.objs.size := cu g
 unfold collect
 refine aC (wpAny_runValue (dB entry_proto_collect' ?_))
 rw [cR PySem.F.plain_proto_collect _]
 show aQ _ A.in1 (newList [] >>= λ l => again (.builtin "list.__iadd__" ⟨[l, .ref a], []⟩)) _ _ s
 refine aC (ca ?_)
 refine aI ⟨eN PySem.F.plain_list_iadd _, dB entry_list_iadd' ?_⟩
 rw [cR PySem.F.plain_list_iadd _]
 have hS₁ : (s.heap.push { cls := .type "list", data := .seq ([] : List aJ).toArray }).get? s.heap.objs.size = some { cls := .type "list", data := .seq #[] } := ao _ rfl
 have k1 : ∀ b o, s.heap.get? b = some o -> (s.heap.push { cls := .type "list", data := .seq ([] : List aJ).toArray }).get? b = some o := λ b o q => ay _ q
 show aQ _ A.in1 (bb.List.listExtendWith (.ref s.heap.objs.size) (.ref a) (.ref s.heap.objs.size)) _ _ _
 generalize hH : s.heap.push { cls := .type "list", data := .seq ([] : List aJ).toArray } = H at hS₁ k1 ⊢
 unfold bb.List.listExtendWith
 refine aC (eY (T := "set") (set_type (s := { s with heap := H }) (k1 _ _ g)) ?_)
 have h1 : bb.List.listSameRef (.ref s.heap.objs.size) (.ref a) = false := by simp [bb.List.listSameRef, Nat.ne_of_gt halt]
 have hn1 : (eC "set" == eC "list") = false := by decide
 have hn2 : (eC "set" == eC "tuple") = false := by decide
 simp only [h1, hn1, hn2, dS, bv, if_false]
 refine aC (pyIter_set (s := { s with heap := H }) (k1 _ _ g) T hz λ I pl h' d ord k2 nI npl hp hx => ?_)
 have gS := k2 _ _ hS₁
 have ga := k2 _ _ (k1 _ _ g)
 have hSI : s.heap.objs.size ≠ I := λ e => by subst e; rw [hS₁] at nI; cases nI
 have hSp : s.heap.objs.size ≠ pl := λ e => by subst e; rw [hS₁] at npl; cases npl
 have haI : a ≠ I := λ e => by subst e; have := k1 _ _ g; rw [show (({ s with heap := H } : aK)).heap = H from rfl] at nI; rw [nI] at this; cases this
 have hol : ord.length = es.size := by rw [hp.length_eq, aG, ac]
 refine aC (bJ (hint_set (s := { s with heap := h', drawn := d }) (set_type (s := { s with heap := h', drawn := d }) ga) ?_))
 have key : ∀ (h₁ : Heap) (c₁ : Nat), (h₁.get? a = some (setObj es ep t) ∧ SI w h₁ I a es ep t ord pl 0) -> (∀ b o, b ≠ s.heap.objs.size -> h'.get? b = some o -> h₁.get? b = some o) ->
  h₁.get? s.heap.objs.size = some { cls := .type "list", data := .seq #[] c₁ } -> eO (model prog w) A (.builtin "list.extend.loop" ⟨[.ref s.heap.objs.size, .ref I, .ref s.heap.objs.size], []⟩)
   (λ r s' => ∃ v, r = .ok (.ret v) ∧ aQ (model prog w) A (match v with | .ref a => (do match (<- load a).data with | .seq xs _ => pure xs.toList | _ => unsupported "internal:collect") | _ => unsupported "internal:collect") R E s') { s with heap := h₁, drawn := d } := by
  intro h₁ c₁ hst hk hS2
  refine codeAny_extend_loopS (walks_set (prog := prog) (A := A.in1) hh haI T).toS (by rw [hol, dD]; lia) s.heap.objs.size (by simp only [aP, cf, or_false, not_or]; exact ⟨hSI, Nat.ne_of_gt halt, hSp⟩) (.ref s.heap.objs.size) ord.length 0 _ #[] c₁ (by lia) (bA _) hst hS2 (ItemsOf.nil _) λ s' acc' c' hm hS' hacc => ?_
  rw [Moved.eq_with hm]
  refine ⟨_, rfl, ?_⟩
  dsimp only
  refine aC (wpAny_load hS' (aI ?_))
  refine h s'.heap s'.toks d acc'.toList (λ b o q => ?_) ?_
  · have hbS : b ≠ s.heap.objs.size := dy (cu q)
    have hbI : b ≠ I := λ e => by subst e; have := k1 _ _ q; rw [show (({ s with heap := H } : aK)).heap = H from rfl] at nI; rw [nI] at this; cases this
    exact hm.heap b o (by simp only [aP, cf, or_false, not_or]; exact ⟨hbS, hbI⟩) (hk b o hbS (k2 _ _ (k1 _ _ q)))
  · have : acc'.toList = ord := by
     apply List.ext_getElem?
     intro i
     by_cases hi : i < acc'.size
     · have e1 : acc'[i]? = some acc'[i] := bL hi
       rw [bR, e1]; exact (hacc.2 i _ e1).symm
     · have := hacc.1
       rw [bR, cZ (by lia), bS (by lia)]
    rw [this]; exact hp
 refine b0 (λ _ => ?_) (λ _ => aI ⟨eN PySem.F.plain_extend_loop _, dZ (key _ _ ⟨ga, hx⟩ (λ b o _ q => q) gS) λ r s' q => by obtain ⟨v, rfl, q⟩ := q; exact q⟩)
 refine aC (cW ?_)
 refine aC ?_
 show aQ _ _ (updateSeq s.heap.objs.size (·.push .none) >>= λ _ => updateSeq s.heap.objs.size (·.pop)) _ _ _
 refine aC (wpAny_updateSeq gS rfl ?_)
 have hS₂ := cj (bw (·.push aJ.none)) gS rfl
 refine wpAny_updateSeq (hz := by seq_fits) hS₂ rfl ?_
 have hS₃ := cj (bw (·.pop)) hS₂ rfl
 have oth : ∀ b o, b ≠ s.heap.objs.size -> h'.get? b = some o -> ((h'.update s.heap.objs.size (bw (·.push aJ.none))).update s.heap.objs.size (bw (·.pop))).get? b = some o := λ b o hb e =>
  (Heap.get?_update_other _ _ (Ne.symm hb)).trans ((Heap.get?_update_other _ _ (Ne.symm hb)).trans e)
 refine aI ⟨eN PySem.F.plain_extend_loop _, dZ (key _ _ ⟨oth _ _ (dy halt) ga, hx.frame (λ o q => oth _ _ (Ne.symm hSI) q) (λ o q => oth _ _ (Ne.symm hSp) q)⟩ oth hS₃) λ r s' q => by obtain ⟨v, rfl, q⟩ := q; exact q⟩
end
section
variable {prog : eZ} {w : World} {A : bH} {E : aJ -> aK -> Prop} {s : aK} {a : av} {es : Array (Int × aJ)} {ep : Nat} {t : aX}
theorem store_tab {es' : Array (Int × aJ)} {t' : aX} {Q : Unit -> aK -> Prop} (g : s.heap.get? a = some (setObj es ep t)) (hz : es'.size <= sizeLine)
 (hQ : ∀ h', h'.get? a = some (setObj es' (ep + 1) t') -> b8 a s.heap h' -> Q () { s with heap := h' }) : aQ (model prog w) A (storeSet a es' t') Q E s := by
 refine wpAny_storeSet_of g rfl ?_ hz
 refine hQ _ ?_ (eU _ _ _)
 have := cj (Obj.putSet es' t') g (by rw [putSet_of es' t' rfl]; rfl)
 rw [putSet_of es' t' rfl] at this; exact this
theorem add_scan {k : Int} {tk : Tok} {Q : aK -> Prop} (g : s.heap.get? a = some (setObj es ep t)) (T : LedOk w t es.size) (hb : es.size + 1 < scanBound) (hel : PySem.ElemsOf (dE prog w) es.toList)
 (hf : (∃ e ∈ es.toList, (dE prog w).is k e.2 = true) -> ∀ tk', Q { s with toks := tk' })
 (hn : (∀ e ∈ es.toList, (dE prog w).is k e.2 = false) -> ∀ (h' : Heap) (es' : Array (Int × aJ)) (ep' : Nat) (t' : aX) (tk' : Nat), h'.get? a = some (setObj es' ep' t') -> LedOk w t' es'.size -> es'.toList.Perm (es.toList ++ [(hashInt k, .int k tk)]) -> b8 a s.heap h' -> Q { s with heap := h', toks := tk' }) :
 aQ (model prog w) A (setAdd a (.int k tk)) (λ _ s' => Q s') E s := by
 unfold setAdd
 refine bJ ?_
 refine aC ((dE prog w).pyHash (k := k) (intKind_is _ _ _ _) ?_)
 have hsc : aJ.scannable (.int k tk) = true := rfl
 unfold setAddHashed setAddHashedIn
 refine bJ (aC (bp (s := { s with toks := s.toks + 1 }) g rfl T.fits ?_))
 dsimp only
 rw [byScan_of hsc (by lia) hel]
 simp only [↓reduceIte]
 unfold setAddByScan
 refine aC ?_
 refine aC (cW ?_)
 refine aC (wpAny_setScan_of (k := k) (intKind_is _ _ _ _) g rfl T.fits hel ?_)
 cases hr : List.findIdx? (λ e => (dE prog w).is k e.2) es.toList with
 | some j =>
  dsimp only
  obtain ⟨hj, hpj, _⟩ := cp.mp hr
  exact aI (aI (hf ⟨es.toList[j], eW hj, hpj⟩ _))
 | none =>
  dsimp only
  have hno : ∀ e ∈ es.toList, (dE prog w).is k e.2 = false := λ e he => by
   have := List.findIdx?_eq_none_iff.mp hr e he; simpa using this
  have hgw : ∀ (b : Bool) {s₁ : aK} {Q' : Unit -> aK -> Prop}, Q' () s₁ -> aQ (model prog w) A (match b with | true => rule "set.scan.the-table-gave-way" | false => pure ()) Q' E s₁ :=
   λ b s₁ Q' hq => by cases b <;> first | exact aI hq | exact cW hq
  have hperm := layNew_perm t es ((dE prog w).hash k) (.int k tk)
  have htab := layNew_tab T ((dE prog w).hash k) (.int k tk)
  generalize hL : layNew t es ((dE prog w).hash k) (.int k tk) = L at hperm htab ⊢
  obtain ⟨es1, t1, wasDummy, gave⟩ := L
  dsimp only at hperm htab ⊢
  rw [Array.toList_push] at hperm
  have hsz : es1.size = es.size + 1 := by rw [<- ac, hperm.length_eq, aH, ac]; rfl
  have hfit : es1.size <= sizeLine := fits_of_scanBound (by rw [hsz]; exact hb)
  refine aC (hgw _ ?_)
  have tail : ∀ t2 : aX, LedOk w t2 es1.size -> aQ (model prog w) A (do
   storeSet a es1 t2
   if (!wasDummy && t2.tooFull) = true then do
    (match (relayAll t2 es1 (dU es1.size)).2.2 with | true => rule "set.scan.the-table-gave-way" | false => pure ())
    storeSet a (relayAll t2 es1 (dU es1.size)).1 (relayAll t2 es1 (dU es1.size)).2.1
    pure (some true)
    else pure (some true)) (λ r s' => r = some true ∧ Q s') E { s with toks := s.toks + 1 } := by
   intro t2 T2
   refine aC (store_tab (s := { s with toks := s.toks + 1 }) g hfit λ h1 g1 b1 => ?_)
   split
   · have hp := relayAll_perm t2 es1 (dU es1.size)
     have ht := relayAll_tab (es := es1) T2.led (dU es1.size)
     generalize hRl : relayAll t2 es1 (dU es1.size) = Rl at hp ht ⊢
     obtain ⟨es2, t3, gave2⟩ := Rl
     dsimp only at hp ht ⊢
     have hsz2 : es2.size = es1.size := by rw [<- ac, hp.length_eq, ac]
     refine aC (hgw _ ?_)
     refine aC (store_tab (s := { s with heap := h1, toks := s.toks + 1 }) g1 (by rw [hsz2]; exact hfit) λ h2 g2 b2 => ?_)
     exact aI ⟨rfl, hn hno h2 es2 _ t3 _ g2 ht (hp.trans hperm) (b1.trans b2)⟩
   · exact aI ⟨rfl, hn hno h1 es1 _ t2 _ g1 T2 hperm b1⟩
  have fin : ∀ (t2 : aX), LedOk w t2 es1.size -> True := λ _ _ => trivial
  split
  · refine aC ?_
    rw [hashByValue_scannable 8 hsc]
    refine aI ?_
    refine ah (tail _ ?_) (λ r s' q => ?_) λ _ _ q => q
    · split
      · exact htab
      · exact htab.plain
    · obtain ⟨rfl, q⟩ := q
      exact aI q
  · refine aC (aI ?_)
    simp only [↓reduceIte]
    refine ah (tail _ htab) (λ r s' q => ?_) λ _ _ q => q
    obtain ⟨rfl, q⟩ := q
    exact aI q
end
noncomputable abbrev T7 : aX := aX.fresh 0 0 true
noncomputable def path (h : Int) : Nat -> eG
 | 0 => T7.probeStart h
 | k + 1 => T7.advance (path h k)
theorem adv7 {t : aX} (hm : t.mask = 7) (p : eG) : t.advance p = T7.advance p := by
 unfold aX.advance
 rw [hm]; rfl
theorem start7 {t : aX} (hm : t.mask = 7) (h : Int) : t.probeStart h = path h 0 := by
 unfold path aX.probeStart
 rw [hm]; rfl
theorem runEnd7 (i : Nat) : aX.runEnd 7 i - i = 0 := by
 unfold aX.runEnd; split <;> lia
structure At7 (p : eG) : Prop where
 more : p.more = 0
 ji : p.j = p.i
 lt : p.i < 8
 dummy : p.dummy = none
theorem at7_step {p : eG} (P : At7 p) : At7 (T7.advance p) ∧ (T7.advance p).i = (p.i * 5 + 1 + p.perturb / 32) % 8 ∧ (T7.advance p).perturb = p.perturb / 32 := by
 unfold aX.advance
 rw [if_neg (by rw [P.more]; lia)]
 have e : aX.leap T7.mask p.i p.perturb = ((p.i * 5 + 1 + p.perturb / 32) % 8, p.perturb / 32) := rfl
 rw [e]
 exact ⟨⟨runEnd7 _, rfl, Nat.mod_lt _ (by decide), P.dummy⟩, rfl, rfl⟩
theorem path_at (h : Int) : ∀ k, At7 (path h k)
 | 0 => by
  unfold path aX.probeStart
  exact ⟨runEnd7 _, rfl, Nat.mod_lt _ (by decide), rfl⟩
 | k + 1 => (at7_step (path_at h k)).1
theorem path_pert (h : Int) : ∀ k, (path h k).perturb = aX.bits h / 32 ^ k
 | 0 => by simp [path, aX.probeStart]
 | k + 1 => by
  rw [show path h (k + 1) = T7.advance (path h k) from rfl, (at7_step (path_at h k)).2.2, path_pert h k, Nat.div_div_eq_div_mul, Nat.pow_succ]
theorem bits_lt (h : Int) : aX.bits h < 2 ^ 64 := by
 unfold aX.bits
 lia
noncomputable def it7 (i : Nat) : Nat -> Nat
 | 0 => i
 | m + 1 => (it7 i m * 5 + 1) % 8
theorem it7_all : (cN 8).all (λ i => (cN 8).all λ j => (cN 8).any λ m => it7 i m == j) = true := by decide +kernel
theorem path_late (h : Int) : ∀ m, (path h (13 + m)).i = it7 (path h 13).i m
 | 0 => rfl
 | m + 1 => by
  rw [show 13 + (m + 1) = (13 + m) + 1 from rfl, show path h (13 + m + 1) = T7.advance (path h (13 + m)) from rfl, (at7_step (path_at h _)).2.1, path_late h m, path_pert]
  have hb := bits_lt h
  have : aX.bits h / 32 ^ (13 + m) = 0 := by
   apply Nat.div_eq_of_lt
   calc aX.bits h < 2 ^ 64 := hb
    _ <= 32 ^ 13 := by decide
    _ <= 32 ^ (13 + m) := cy (by decide) (by lia)
  rw [this]; rfl
theorem path_all (h : Int) {j : Nat} (hj : j < 8) : ∃ k, k <= 20 ∧ (path h k).j = j := by
 have := it7_all
 rw [aT] at this
 have h1 := this (path h 13).i (b7.mpr (path_at h 13).lt)
 rw [aT] at h1
 have h2 := h1 j (b7.mpr hj)
 rw [bW] at h2
 obtain ⟨m, hm, e⟩ := h2
 rw [b7] at hm
 refine ⟨13 + m, by lia, ?_⟩
 rw [(path_at h _).ji, path_late]
 exact beq_iff_eq.mp e
theorem least {P : Nat -> Prop} (d : ∀ k, P k ∨ ¬ P k) : ∀ n, (∃ k, k <= n ∧ P k) -> ∃ K, K <= n ∧ P K ∧ ∀ k, k < K -> ¬ P k
 | 0, ⟨k, hk, p⟩ => ⟨0, aW _, by
  have : k = 0 := by lia
  rw [this] at p; exact p, λ k h => by lia⟩
 | n + 1, ⟨k, hk, p⟩ => by
  rcases (show (∃ k, k <= n ∧ P k) ∨ ¬ (∃ k, k <= n ∧ P k) from Classical.em _) with q | q
  · obtain ⟨K, a, b, c⟩ := least d n q
    exact ⟨K, by lia, b, c⟩
  · have : k = n + 1 := by
     rcases dz n k with r | r
     · lia
     · exact absurd ⟨k, r, p⟩ q
    subst this
    exact ⟨_, aW _, p, λ k' hk' p' => q ⟨k', by lia, p'⟩⟩
theorem slot_cases {t : aX} (hr : Rise t.place) (hd : t.dummies = #[]) (j : Nat) : (t.slot j = .empty ∧ j ∉ t.place.toList) ∨ (∃ i, t.slot j = .live i ∧ t.place[i]? = some j) := by
 unfold aX.slot
 dsimp only
 by_cases h : (t.place[ar t.place j]? == some j) = true
 · rw [if_pos h]
   exact .inr ⟨_, rfl, beq_iff_eq.mp h⟩
 · rw [if_neg h, hd, has_nil, if_neg (by simp)]
   refine .inl ⟨rfl, λ hm => ?_⟩
   obtain ⟨i, hi, e⟩ := cH hm
   rw [ac] at hi
   rw [Array.getElem_toList] at e
   have e2 : t.place.getD i 0 = j := by rw [db, dif_pos hi]; exact e
   apply h
   rw [<- e2, below_at hr hi, bL hi, e, e2]
   simp
structure First (t : aX) (h : Int) (K : Nat) : Prop where
 le : K <= 20
 empty : t.slot (path h K).j = .empty
 live : ∀ k, k < K -> ∃ i, t.slot (path h k).j = .live i ∧ t.place[i]? = some (path h k).j
theorem first {t : aX} (hr : Rise t.place) (hd : t.dummies = #[]) (hs : t.place.size <= 3) (h : Int) : ∃ K, First t h K := by
 obtain ⟨j, hj, hn⟩ : ∃ j, j < 8 ∧ j ∉ t.place.toList := by
  have hl : t.place.toList.length <= 3 := by simpa using hs
  generalize t.place.toList = l at hl
  match l, hl with
  | [], _ => exact ⟨0, by decide, by simp⟩
  | [a], _ =>
   by_cases q : a = 0
   · exact ⟨1, by decide, by simp; lia⟩
   · exact ⟨0, by decide, by simp; lia⟩
  | [a, b], _ =>
   by_cases q0 : a = 0 ∨ b = 0
   · by_cases q1 : a = 1 ∨ b = 1
     · exact ⟨2, by decide, by simp; lia⟩
     · exact ⟨1, by decide, by simp; lia⟩
   · exact ⟨0, by decide, by simp; lia⟩
  | [a, b, c], _ =>
   by_cases q0 : a = 0 ∨ b = 0 ∨ c = 0
   · by_cases q1 : a = 1 ∨ b = 1 ∨ c = 1
     · by_cases q2 : a = 2 ∨ b = 2 ∨ c = 2
       · exact ⟨3, by decide, by simp; lia⟩
       · exact ⟨2, by decide, by simp; lia⟩
     · exact ⟨1, by decide, by simp; lia⟩
   · exact ⟨0, by decide, by simp; lia⟩
  | _ :: _ :: _ :: _ :: _, h => simp at h
 obtain ⟨k, hk, e⟩ := path_all h hj
 have hem : ∃ k, k <= 20 ∧ t.slot (path h k).j = .empty := ⟨k, hk, by
  rcases slot_cases hr hd (path h k).j with q | ⟨i, _, q⟩
  · exact q.1
  · rw [e] at q
    exact absurd (a7 (by rw [bR]; exact q)) hn⟩
 obtain ⟨K, a, b, c⟩ := least (λ k => Classical.em _) 20 hem
 refine ⟨K, a, b, λ k hk => ?_⟩
 rcases slot_cases hr hd (path h k).j with q | q
 · exact absurd q.1 (c k hk)
 · exact q
theorem probe_road {t : aX} {h : Int} {K : Nat} (hm : t.mask = 7) (F : First t h K) (ha : Nat -> Int) : ∀ (f k : Nat), k <= K -> K - k < f ->
 (cb t ha h f (path h k) = some (.empty (path h K).j none) ∧ ∀ k', k <= k' -> k' < K -> ∀ i, t.slot (path h k').j = .live i -> (ha i == h) = false) ∨
 (∃ k' i, k <= k' ∧ k' < K ∧ t.slot (path h k').j = .live i ∧ (ha i == h) = true ∧ cb t ha h f (path h k) = some (.candidate (path h k').j i (path h (k' + 1))) ∧ ∀ k2, k <= k2 -> k2 < k' -> ∀ i, t.slot (path h k2).j = .live i -> (ha i == h) = false)
 | 0, k, _, h0 => by lia
 | f + 1, k, hk, hf => by
  simp only [cb]
  rcases eK hk with q | q
  · obtain ⟨i, hi, _⟩ := F.live k q
    rw [hi]
    dsimp only
    cases hh : (ha i == h) with
    | true =>
     refine .inr ⟨k, i, aW _, q, hi, hh, ?_, λ k2 a b => by lia⟩
     simp only [if_true]
     rw [adv7 hm]; rfl
    | false =>
     simp only [bv, if_false]
     rw [adv7 hm]
     rcases probe_road hm F ha f (k + 1) q (by lia) with ⟨a, b⟩ | ⟨k', i', a, b, c, d, e, g⟩
     · refine .inl ⟨a, λ k' h1 h2 j hj => ?_⟩
       rcases eK h1 with r | r
       · exact b k' r h2 j hj
       · subst r; rw [hi] at hj; cases hj; exact hh
     · refine .inr ⟨k', i', by lia, b, c, d, e, λ k2 h1 h2 j hj => ?_⟩
       rcases eK h1 with r | r
       · exact g k2 r h2 j hj
       · subst r; rw [hi] at hj; cases hj; exact hh
  · subst q
    rw [F.empty]
    dsimp only
    exact .inl ⟨by rw [(path_at h k).dummy], λ k' a b => by lia⟩
section
variable {F : Fx} {A : bH} {E : aJ -> aK -> Prop} {s : aK} {α : Pl}
theorem key_ind {P : Nat -> aJ -> Prop} (hi : ∀ n i t, P n (.int i t)) (hx : ∀ n x t, P n (.str x t)) (ht : ∀ n (a : av) (vs : List aJ), s.heap.get? a = some (tupObj vs) -> (∀ v ∈ vs, P n v) -> P (n + 1) (.ref a)) {x : aA} {v : aJ} (r : Rd F s.heap α v x) : ∀ n, okK n x = true -> P n v :=
 Rd.rec (motive_1 := λ v x _ => ∀ n, okY x n = true -> P n v) (motive_2 := λ vs xs _ => ∀ n, okYs xs n = true -> ∀ v ∈ vs, P n v)
  (λ _ k => aN k) (λ _ _ k => aN k) (λ i t n _ => hi n i t) (λ x t n _ => hx n x t)
  (λ {a vs xs} g _ _ ih n k => by
   cases n with
   | zero => exact aN k
   | succ n => exact ht n a vs g (ih n k))
  (λ _ _ _ _ _ k => aN k) (λ _ _ _ _ _ _ _ _ _ _ k => aN k) (λ _ _ _ m => nomatch m) (λ _ _ ih ih2 n k v m => (aP.mp m).elim (λ e => e ▸ ih n (fG k)) λ m => ih2 n (and2 k) v m) r
theorem ocs_rd (n : Nat) (x : aA) (v : aJ) (Q : Bool -> aK -> Prop) (o : okK n x = true) (r : Rd F s.heap α v x) : Q false s -> aQ F.m A (ofAClassStatement n v) Q E s := by
 refine key_ind (P := λ n v => ∀ {Q : Bool -> aK -> Prop}, Q false s -> aQ F.m A (ofAClassStatement n v) Q E s) (λ n i t Q h => ?_) (λ n x t Q h => ?_) (λ n c vs g ih Q h => ?_) r n o
 · cases n <;> exact aI h
 · cases n <;> exact aI h
 · have hT : s.TypeIs (.ref c) "tuple" := ⟨_, g, rfl⟩
   unfold ofAClassStatement
   refine aC (eY hT ?_)
   dsimp only
   rw [if_pos (by decide)]
   refine aC (aI ?_)
   simp only [Bool.not_true, bv, if_false]
   refine aC ?_
   unfold seqItems?
   refine aC (wpAny_load g (aI ?_))
   dsimp only
   refine aC ?_
   show aQ _ _ (forIn vs.toArray _ _) _ _ s
   rw [<- Array.forIn_toList]
   refine cn _ (λ rest r s' => r.1 = none ∧ s' = s ∧ ∀ v ∈ rest, v ∈ vs) _ ?_ ?_ _ _ ⟨rfl, rfl, λ v hv => hv⟩
   · rintro v rest r s' ⟨hr, rfl, hall⟩
     exact aC (ih v (hall v (.head _)) (aI ⟨rfl, rfl, λ u hu' => hall u (.tail _ hu')⟩))
   · rintro ⟨r1, r2⟩ s' ⟨hr, rfl, _⟩
     cases hr
     exact aI h
theorem seen_rd {x : aA} {v : aJ} {vs : List aJ} {Q : Bool -> aK -> Prop} (ox : okK 8 x = true) (rx : Rd F s.heap α v x) (hv : ∀ u ∈ vs, ∃ y, okK 8 y = true ∧ Rd F s.heap α u y) (h : Q false s) : aQ F.m A (searchCouldBeSeen v vs) Q E s := by
 unfold searchCouldBeSeen
 refine aC ?_
 refine cn _ (λ rest r s' => r.1 = none ∧ s' = s ∧ ∀ u ∈ rest, u ∈ vs) _ ?_ ?_ _ _ ⟨rfl, rfl, λ v hv => hv⟩
 · rintro u rest r s' ⟨hr, rfl, hall⟩
   obtain ⟨y, oy, ry⟩ := hv u (hall u (.head _))
   have inv : (none : Option Bool) = none ∧ s' = s' ∧ ∀ u ∈ rest, u ∈ vs := ⟨rfl, rfl, λ u hu' => hall u (.tail _ hu')⟩
   dsimp only
   refine b0 (λ _ => aI inv) (λ _ => ?_)
   refine aC (quiet_rd rx 8 ox (aC (quiet_rd ry 8 oy ?_)))
   refine aC (ocs_rd 8 x v _ ox rx (aC (ocs_rd 8 y u _ oy ry ?_)))
   exact aI inv
 · rintro ⟨r1, r2⟩ s' ⟨hr, rfl, _⟩
   cases hr
   exact aI h
theorem hbv_rd (n : Nat) (x : aA) (v : aJ) (Q : Bool -> aK -> Prop) (o : okK n x = true) (r : Rd F s.heap α v x) : (∀ b, Q b s) -> aQ F.m A (hashByValue n v) Q E s := by
 refine key_ind (P := λ n v => ∀ {Q : Bool -> aK -> Prop}, (∀ b, Q b s) -> aQ F.m A (hashByValue n v) Q E s) (λ n i t Q h => ?_) (λ n x t Q h => ?_) (λ n c vs g ih Q h => ?_) r n o
 · cases n <;> exact aI (h _)
 · cases n <;> exact aI (h _)
 · have hT : s.TypeIs (.ref c) "tuple" := ⟨_, g, rfl⟩
   unfold hashByValue
   refine aC (wpAny_specialOf hT PySem.F.slot_tuple_hash.lookup ?_)
   dsimp only
   refine aC ?_
   unfold seqItems?
   refine aC (wpAny_load g (aI ?_))
   refine aC ?_
   show aQ _ _ (forIn vs.toArray _ _) _ _ s
   rw [<- Array.forIn_toList]
   refine cn _ (λ rest r s' => s' = s ∧ ∀ v ∈ rest, v ∈ vs) _ ?_ ?_ _ _ ⟨rfl, λ v hv => hv⟩
   · rintro v rest r s' ⟨rfl, hall⟩
     refine aC (ih v (hall v (.head _)) λ b => ?_)
     cases b with
     | true => exact aI ⟨rfl, λ u hu' => hall u (.tail _ hu')⟩
     | false => exact aI (aI (h _))
   · rintro ⟨r1, r2⟩ s' ⟨rfl, _⟩
     cases r1 with
     | none => exact aI (h _)
     | some b => exact aI (h _)
end
section
variable {F : Fx} {A : bH} {E : aJ -> aK -> Prop} {s : aK} {a : av} {es : Array (Int × aJ)} {ep : Nat} {t : aX} {α : Pl}
structure Els (F : Fx) (h : Heap) (α : Pl) (es : List (Int × aJ)) (ys : List aA) : Prop where
 len : es.length = ys.length
 at_ : ∀ (i : Nat) (e : Int × aJ) (y : aA), es[i]? = some e -> ys[i]? = some y -> e.1 = fT F.w.params y ∧ Rd F h α e.2 y ∧ okK 8 y = true ∧ isTup y = true
theorem srch {x : aA} {v : aJ} {ys : List aA} {K : Nat} {Q : SetFound -> aK -> Prop} (hu : A.units + 8 < cLine) (g : s.heap.get? a = some (setObj es ep t)) (T : LedOk F.w t es.size) (hm : t.mask = 7) (Fs : First t (fT F.w.params x) K)
 (L : Els F s.heap α es.toList ys) (ox : okK 8 x = true) (rx : Rd F s.heap α v x)
 (hf : ∀ r, (∃ (i : Nat) (y : aA), ys[i]? = some y ∧ eqD y x = true) -> Q (.there r) s)
 (hn : (∀ k, k < K -> ∀ (i : Nat) (y : aA), t.slot (path (fT F.w.params x) k).j = .live i -> ys[i]? = some y -> eqD y x = false) -> Q (.free (path (fT F.w.params x) K).j false) s) :
 ∀ (m k fuel : Nat) (stand : Option eG), k + m = K -> m < fuel -> stand.getD (t.probeStart (fT F.w.params x)) = path (fT F.w.params x) k ->
  (∀ k', k' < k -> ∀ (i : Nat) (y : aA), t.slot (path (fT F.w.params x) k').j = .live i -> ys[i]? = some y -> eqD y x = false) ->
  aQ F.m A (setSearchFrom a v (fT F.w.params x) true fuel stand) Q E s := by
 intro m
 induction m using Nat.strongRecOn with
 | ind m ih =>
  intro k fuel stand hk hfu hst pre
  obtain ⟨f, rfl⟩ : ∃ f, fuel = f + 1 := ⟨fuel - 1, by lia⟩
  rw [setSearchFrom]
  refine aC (bp g rfl T.fits ?_)
  dsimp only
  rw [if_neg (by simp [aX.gaveWay, hm]), hst]
  generalize hp : aX.probe t _ (fT F.w.params x) (path (fT F.w.params x) k) = met
  have hp' : cb t (W.hashAt es) (fT F.w.params x) (10 * aX.turns 7) (path (fT F.w.params x) k) = met := by
   rw [<- hm]; exact hp
  have apart : ∀ (i : Nat) (y : aA), ys[i]? = some y -> (W.hashAt es i == fT F.w.params x) = false -> eqD y x = false := by
   intro i y hy hh
   cases q : eqD y x with
   | false => rfl
   | true =>
    have hl : i < es.toList.length := by rw [L.len]; exact (aR.mp hy).1
    obtain ⟨h1, h2, h3, h4⟩ := L.at_ i _ y (aO hl) hy
    have e : y = x := (eqD_true h3).mp q
    rw [ac] at hl
    have : W.hashAt es i = fT F.w.params x := by
     unfold W.hashAt
     rw [bL hl]
     rw [<- e, <- h1]
     simp
    rw [this] at hh; simp at hh
  rcases probe_road hm Fs (W.hashAt es) (10 * aX.turns 7) k (by lia) (by have := Fs.le; show K - k < 10 * (7 + 15); lia) with ⟨e1, e2⟩ | ⟨k', i, h1, h2, h3, h4, h5, h6⟩
  · rw [e1] at hp'
    subst hp'
    dsimp only
    refine aI (hn λ k' hk' i y hi hy => ?_)
    rcases dz k' k with q | q
    · exact pre k' q i y hi hy
    · exact apart i y hy (e2 k' q hk' i hi)
  · rw [h5] at hp'
    subst hp'
    dsimp only
    obtain ⟨i2, l1, l2⟩ := Fs.live k' h2
    rw [h3] at l1
    cases l1
    have hlt : i < es.size := by
     rw [<- T.size]
     rcases dz i t.place.size with q | q
     · exact q
     · rw [cZ q] at l2; cases l2
    obtain ⟨e, he⟩ : ∃ e, es[i]? = some e := ⟨_, bL hlt⟩
    obtain ⟨y, hy⟩ : ∃ y, ys[i]? = some y := ⟨_, aO (by rw [<- L.len]; simpa using hlt)⟩
    obtain ⟨a1, a2, a3, a4⟩ := L.at_ i e y (by rw [bR]; exact he) hy
    obtain ⟨c, us, _, ec, gc, _⟩ := tup_shape (n := 0) a2 a4
    have rest : aQ F.m A (do
     let some (_, y) := es[i]? | unsupported "internal:set-entry"
     let equal <- holding [y] (eqBool y v)
     let (es', _, t') <- setState a
     if true && equal then return .there none
     let some same := t'.sameMemory t.moves t.mask | unsupported "set.changed-during-lookup:is-the-new-block-at-the-old-address"
     let still <- match (if same then t'.slot (path (fT F.w.params x) k').j else .empty) with
      | .live i' => match es'[i']? with
       | some (_, y') => do pure (if <- isSame y' y then some i' else none)
       | none => pure none
      | _ => pure none
     match still with
     | none => rule "set.search.anew"; setSearchFrom a v (fT F.w.params x) true f none
     | some i' => if equal then return .there (some i') else setSearchFrom a v (fT F.w.params x) true f (some (path (fT F.w.params x) (k' + 1)))) Q E s := by
     rw [he]
     dsimp only
     refine aC (bJ (eqBool_rd hu a2 rx (okY_okX y 8 a3) (okY_okX x 8 ox) ?_))
     refine aC (bp g rfl T.fits ?_)
     dsimp only
     cases q : eqD y x with
     | true =>
      simp only [Bool.and_self, if_true]
      exact aI (hf none ⟨i, y, hy, q⟩)
     | false =>
      simp only [Bool.and_false, bv, if_false]
      have hsm : t.sameMemory t.moves t.mask = some true := by simp [aX.sameMemory]
      rw [hsm]
      dsimp only
      simp only [if_true, h3, he]
      refine aC ?_
      rw [ec]
      refine wpAny_isSame_ref_self (aC (aI ?_))
      simp only [if_true]
      refine ih (K - (k' + 1)) (by lia) (k' + 1) f _ (by lia) (by lia) rfl λ k2 hk2 j z hj hz => ?_
      rcases dz k2 k with r | r
      · exact pre k2 r j z hj hz
      · rcases eK (Nat.le_of_lt_succ hk2) with r2 | r2
        · exact apart j z hz (h6 k2 r r2 j hj)
        · subst r2
          rw [h3] at hj; cases hj
          rw [hy] at hz; cases hz
          exact q
    by_cases hl : (!t.led) = true
    · rw [if_pos hl]
      refine aC (seen_rd ox rx (λ u hu2 => ?_) ?_)
      · obtain ⟨e3, m1, rfl⟩ := aj.mp hu2
        have m2 : e3 ∈ es.toList := by
         have := Array.mem_toList_iff.mp m1
         exact Array.mem_toList_iff.mpr (Array.mem_filter.mp this).1
        obtain ⟨j, hj, ej⟩ := cH m2
        obtain ⟨z, hz⟩ : ∃ z, ys[j]? = some z := ⟨_, aO (by rw [<- L.len]; exact hj)⟩
        obtain ⟨_, b2, b3, _⟩ := L.at_ j e3 z (by rw [aO hj, ej]) hz
        exact ⟨z, b3, b2⟩
      · simp only [bv, if_false]
        exact rest
    · rw [if_neg hl]
      exact rest
end
theorem zip_ins {α β : Type} {as : List α} {bs : List β} (hl : as.length = bs.length) (p : Nat) (a : α) (b : β) {pr : α × β} (h : pr ∈ (as.take p ++ a :: as.drop p).zip (bs.take p ++ b :: bs.drop p)) : pr = (a, b) ∨ pr ∈ as.zip bs := by
 have e : as.zip bs = (as.take p).zip (bs.take p) ++ (as.drop p).zip (bs.drop p) := by
  rw [<- List.zip_append (by simp [hl]), bZ, bZ]
 rw [List.zip_append (by simp [hl]), List.zip_cons_cons] at h
 rw [e]
 simp only [ae, aP] at h ⊢
 rcases h with h | h | h
 · exact .inr (.inl h)
 · exact .inl h
 · exact .inr (.inr h)
section
variable {F : Fx} {h : Heap} {α : Pl} {es : List (Int × aJ)} {ys : List aA}
theorem Els.mem (L : Els F h α es ys) {pr : (Int × aJ) × aA} (m : pr ∈ es.zip ys) : pr.1.1 = fT F.w.params pr.2 ∧ Rd F h α pr.1.2 pr.2 ∧ okK 8 pr.2 = true ∧ isTup pr.2 = true := by
 obtain ⟨i, hi, e⟩ := cH m
 have h1 : (es.zip ys)[i]? = some pr := by rw [aO hi, e]
 rw [d9] at h1
 exact L.at_ i pr.1 pr.2 h1.1 h1.2
theorem Els.of (hl : es.length = ys.length) (m : ∀ pr ∈ es.zip ys, pr.1.1 = fT F.w.params pr.2 ∧ Rd F h α pr.1.2 pr.2 ∧ okK 8 pr.2 = true ∧ isTup pr.2 = true) : Els F h α es ys := by
 refine ⟨hl, λ i e y he hy => ?_⟩
 exact m (e, y) (a7 (i := i) (d9.mpr ⟨he, hy⟩))
theorem Els.ins (L : Els F h α es ys) (p : Nat) {x : aA} {v : aJ} (rx : Rd F h α v x) (ox : okK 8 x = true) (tx : isTup x = true) : Els F h α (es.take p ++ (fT F.w.params x, v) :: es.drop p) (ys.take p ++ x :: ys.drop p) := by
 refine Els.of (by simp [L.len]) λ pr m => ?_
 rcases zip_ins L.len p _ _ m with rfl | m
 · exact ⟨rfl, rx, ox, tx⟩
 · exact L.mem m
theorem Els.rd (L : Els F h α es ys) : fL F h α (es.map (·.2)) ys := by
 refine rdAll_of (by rw [aG, L.len]) λ i v y hv hy => ?_
 rw [a6] at hv
 obtain ⟨e, he, rfl⟩ := aZ.mp hv
 exact (L.at_ i e y he hy).2.1
end
theorem ins_perm {α : Type} (x : α) (ys : List α) (p : Nat) : (ys.take p ++ x :: ys.drop p).Perm (x :: ys) := by
 have := List.perm_middle (a := x) (l₁ := ys.take p) (l₂ := ys.drop p)
 rw [bZ] at this; exact this
noncomputable def Reach (pl : List Nat) (es : List (Int × aJ)) : Prop := ∀ pr ∈ pl.zip es, ∃ k, pr.1 = (path pr.2.1 k).j ∧ ∀ k', k' < k -> (path pr.2.1 k').j ∈ pl
theorem put7 {led : Bool} {t : aX} {n j : Nat} (T : STab led t n) (hm : t.mask = 7) (hn : n <= 3) (h : t.slot j = .empty) : STab led (t.put j).1 (n + 1) ∧ (t.put j).1.mask = 7 ∧ (t.put j).1.tooFull = false := by
 obtain ⟨p1, p2, p3, p4⟩ := put_tab T h
 have hm' : (t.put j).1.mask = 7 := by unfold aX.put; exact hm
 have hfill : (t.put j).1.fill = n + 1 := by unfold aX.fill; rw [p2, p4]; rfl
 refine ⟨⟨?_, p1, p2, p3⟩, hm', ?_⟩
 · simp only [aX.fits, p4, hfill, hm', beq_self_eq_true, Bool.true_and, decide_eq_true_eq]; lia
 · simp only [aX.tooFull, hfill, hm']
   simp only [ge_iff_le, decide_eq_false_iff_not]; lia
section
variable {F : Fx} {A : bH} {E : aJ -> aK -> Prop} {s : aK} {a : av} {es : Array (Int × aJ)} {ep : Nat} {t : aX} {α : Pl}
theorem add_road {x : aA} {v : aJ} {ys : List aA} {Q : aK -> Prop} (hu : A.units + 8 < cLine) (g : s.heap.get? a = some (setObj es ep t)) (T : LedOk F.w t es.size) (hm : t.mask = 7) (Rc : Reach t.place.toList es.toList) (hsz : es.size <= 3)
 (L : Els F s.heap α es.toList ys) (ox : okK 8 x = true) (tx : isTup x = true) (rx : Rd F s.heap α v x)
 (hf : (∃ (i : Nat) (y : aA), ys[i]? = some y ∧ eqD y x = true) -> ∀ tk, Q { s with toks := tk })
 (hn : (∀ y ∈ ys, eqD y x = false) -> ∀ (h' : Heap) (es' : Array (Int × aJ)) (ep' : Nat) (t' : aX) (tk : Nat) (p : Nat), h'.get? a = some (setObj es' ep' t') -> LedOk F.w t' es'.size -> t'.mask = 7 -> Reach t'.place.toList es'.toList ->
  es'.size = es.size + 1 -> es'.toList = es.toList.take p ++ (fT F.w.params x, v) :: es.toList.drop p -> b8 a s.heap h' -> Q { s with heap := h', toks := tk }) :
 aQ F.m A (setAdd a v) (λ _ s' => Q s') E s := by
 obtain ⟨c, us, _, rfl, gc, _⟩ := tup_shape (n := 0) rx tx
 unfold setAdd
 refine bJ ?_
 refine aC (pyHash_rd hu ox rx λ tk => ?_)
 unfold setAddHashed setAddHashedIn
 refine bJ (aC (bp (s := { s with toks := tk }) g rfl T.fits ?_))
 dsimp only
 rw [if_neg (by simp [byScan, aJ.scannable])]
 obtain ⟨K, Fk⟩ := first T.rise T.dum (by rw [T.size]; exact hsz) (fT F.w.params x)
 refine aC ?_
 unfold setSearch
 refine srch (s := { s with toks := tk }) (K := K) hu g T hm Fk L ox rx (λ r hr => ?_) (λ hno => ?_) K 0 100000 none (by lia) (by have := Fk.le; lia) (by rw [Option.getD_none, start7 hm]) (λ k' hk' => by lia)
 · exact aI (hf hr tk)
 · dsimp only
   refine aC (bp (s := { s with toks := tk }) g rfl T.fits ?_)
   dsimp only
   obtain ⟨T1, m1, f1⟩ := put7 T hm hsz Fk.empty
   have hp2 : (t.put (path (fT F.w.params x) K).j).2 = ar t.place (path (fT F.w.params x) K).j := rfl
   have hp1 : (t.put (path (fT F.w.params x) K).j).1.place = cm t.place (ar t.place (path (fT F.w.params x) K).j) (path (fT F.w.params x) K).j := rfl
   generalize t.put (path (fT F.w.params x) K).j = pt at T1 m1 f1 hp1 hp2 ⊢
   obtain ⟨t1, p⟩ := pt
   dsimp only at T1 m1 f1 hp1 hp2 ⊢
   have hall : ∀ y ∈ ys, eqD y x = false := by
    intro y hy
    cases q : eqD y x with
    | false => rfl
    | true =>
     obtain ⟨i, hi, rfl⟩ := cH hy
     have hli : i < es.size := by have := L.len; rw [ac] at this; lia
     have hlp : i < t.place.size := by rw [T.size]; exact hli
     obtain ⟨b1, b2, b3, b4⟩ := L.at_ i es[i] ys[i] (by rw [bR]; exact bL hli) (aO hi)
     have ex : ys[i] = x := (eqD_true b3).mp q
     have hz : (t.place.toList.zip es.toList)[i]? = some (t.place[i], es[i]) := d9.mpr ⟨by rw [bR]; exact bL hlp, by rw [bR]; exact bL hli⟩
     obtain ⟨k0, r1, r2⟩ := Rc _ (a7 hz)
     dsimp only at r1 r2
     rw [b1, ex] at r1 r2
     have hK : (path (fT F.w.params x) K).j ∉ t.place.toList := by
      rcases slot_cases T.rise T.dum (path (fT F.w.params x) K).j with c | ⟨i', c, _⟩
      · exact c.2
      · rw [Fk.empty] at c; cases c
     have hk0 : k0 < K := by
      rcases Nat.lt_trichotomy k0 K with c | c | c
      · exact c
      · subst c
        exact absurd (by rw [<- r1]; exact a7 (i := i) (by rw [bR]; exact bL hlp)) hK
      · exact absurd (r2 K c) hK
     obtain ⟨i', s1, s2⟩ := Fk.live k0 hk0
     have : i' = i := by
      have hlt : i' < t.place.size := by
       rcases dz i' t.place.size with c | c
       · exact c
       · rw [cZ c] at s2; cases s2
      rw [bL hlt, <- r1] at s2
      have h1 := below_at T.rise hlt
      have h2 := below_at T.rise hlp
      rw [db, dif_pos hlt] at h1
      rw [db, dif_pos hlp] at h2
      have s3 : t.place[i'] = t.place[i] := aY s2
      have h1' : ar t.place t.place[i'] = i' := h1
      rw [s3] at h1'
      exact h1'.symm.trans h2
     subst this
     have := hno k0 hk0 i' ys[i'] s1 (aO hi)
     rw [this] at q; cases q
   have hes : (cm es p (fT F.w.params x, aJ.ref c)).toList = es.toList.take p ++ (fT F.w.params x, aJ.ref c) :: es.toList.drop p := ins_list _ _ _
   have hsz1 : (cm es p (fT F.w.params x, aJ.ref c)).size = es.size + 1 := by
    rw [<- ac, (aX.insertAt_perm _ _ _).length_eq, ac, Array.size_push]
   have Rc1 : Reach t1.place.toList (cm es p (fT F.w.params x, aJ.ref c)).toList := by
    intro pr hpr
    rw [hes, hp1, ins_list, <- hp2] at hpr
    have sub : ∀ j, j ∈ t.place.toList -> j ∈ t1.place.toList := by
     intro j hj
     rw [hp1, ins_list]
     rw [<- bZ (ar t.place (path (fT F.w.params x) K).j) t.place.toList] at hj
     rcases ae.mp hj with c | c
     · exact a8 _ c
     · exact aV _ (cV _ c)
    rcases zip_ins (by rw [ac, ac, T.size]) p _ _ hpr with rfl | hpr
    · refine ⟨K, rfl, λ k' hk' => sub _ ?_⟩
      obtain ⟨i, _, s2⟩ := Fk.live k' hk'
      exact a7 (i := i) (by rw [bR]; exact s2)
    · obtain ⟨k0, r1, r2⟩ := Rc _ hpr
      exact ⟨k0, r1, λ k' hk' => sub _ (r2 k' hk')⟩
   have tail : ∀ t2 : aX, LedOk F.w t2 (es.size + 1) -> t2.mask = 7 -> t2.tooFull = false -> t2.place = t1.place -> aQ F.m A (do
    storeSet a (cm es p (fT F.w.params x, aJ.ref c)) t2
    if (!false && t2.tooFull) = true then do
     setRelay a (dU (es.size + 1))
     return true
    else return true) (λ _ s' => Q s') E { s with toks := tk } := by
    intro t2 T2 m2 f2 p2
    refine aC (store_tab (s := { s with toks := tk }) g (by rw [hsz1, dD]; lia) λ h1 g1 b1 => ?_)
    rw [if_neg (by simp [f2])]
    exact aI (hn hall h1 _ _ t2 tk p g1 (by rw [hsz1]; exact T2) m2 (by rw [p2]; exact Rc1) hsz1 hes b1)
   split
   · refine aC (hbv_rd (s := { s with toks := tk }) 8 x (.ref c) _ ox rx λ b => ?_)
     cases b with
     | true => exact tail t1 T1 m1 f1 rfl
     | false => exact tail { t1 with plain := false } T1.plain m1 f1 rfl
   · refine aC (aI ?_)
     exact tail t1 T1 m1 f1 rfl
end
noncomputable def stepD (cur : List aA) (x : aA) : List aA := if cur.any (eqD x) then cur else x :: cur
theorem fold_dedup : ∀ (xs seen : List aA), (xs.foldl stepD seen).Perm (dedup xs seen ++ seen)
 | [], seen => by simp [dedup]
 | x :: r, seen => by
  simp only [eh, dedup, stepD]
  split
  · exact fold_dedup r seen
  · exact (fold_dedup r (x :: seen)).trans List.perm_middle
theorem stepD_len (cur : List aA) (x : aA) : (stepD cur x).length <= cur.length + 1 := by
 unfold stepD; split
 · lia
 · simp
section
variable {prog : eZ} {w : World} {A : bH} {s : aK}
theorem update_loop {R : Result -> aK -> Prop} {I l S : av} {vs : List aJ} {St : Nat -> Heap -> Prop} (W : Walks prog w A.in1 I [I, l] [I] vs.length (λ i v => vs[i]? = some v) St) (hSI : S ≠ I) (hSl : S ≠ l) {hb : Heap} (nS : hb.get? S = none) (nI : hb.get? I = none)
 {xs : List aA} (hl : vs.length = xs.length) (Inv : List aA -> Heap -> Prop) (hfr : ∀ cur h h', Inv cur h -> (∀ o, h.get? S = some o -> h'.get? S = some o) -> Inv cur h')
 (hadd : ∀ (i : Nat) (v : aJ) (x : aA) (cur : List aA) (s' : aK) (Q : aK -> Prop), vs[i]? = some v -> xs[i]? = some x -> (∀ b o, hb.get? b = some o -> s'.heap.get? b = some o) -> Inv cur s'.heap -> cur.length <= i ->
  (∀ h' tk, Inv (stepD cur x) h' -> b8 S s'.heap h' -> Q { s' with heap := h', toks := tk }) -> aQ (model prog w) A.in1 (setAdd S v) (λ _ s'' => Q s'') (λ e s'' => R (.error e) s'') s') :
 ∀ (k i : Nat) (cur : List aA) (s : aK), vs.length - i = k -> i <= vs.length -> St i s.heap -> Inv cur s.heap -> cur.length <= i -> (∀ b o, hb.get? b = some o -> s.heap.get? b = some o) ->
  (∀ h' tk, Inv ((xs.drop i).foldl stepD cur) h' -> (∀ b o, hb.get? b = some o -> h'.get? b = some o) -> R (.ok (.ret .none)) { s with heap := h', toks := tk }) ->
  eO (model prog w) A (.builtin "set.update.loop" ⟨[.ref S, .ref I], []⟩) R s := by
 intro k
 induction k with
 | zero =>
  intro i cur s hk hi hst hinv hcl kb hR
  have hin : i = vs.length := by lia
  subst hin
  refine dB e7 ?_
  rw [cR dP _]
  show aQ _ A.in1 (pyNext (.ref I) >>= _) _ _ s
  refine aC (W.done s _ _ hst λ h' tk hk' => ?_)
  show aQ _ A.in1 (ret aJ.none) _ _ _
  refine aI (hR h' tk ?_ λ b o q => hk' b o (λ c => ?_) (kb b o q))
  · rw [hl, List.drop_length]
    exact hfr _ _ _ hinv λ o q => hk' S o (by simpa using hSI) q
  · rw [aM] at c; subst c; rw [nI] at q; cases q
 | succ k ih =>
  intro i cur s hk hi hst hinv hcl kb hR
  have hlt : i < vs.length := by lia
  refine dB e7 ?_
  rw [cR dP _]
  show aQ _ A.in1 (pyNext (.ref I) >>= _) _ _ s
  refine aC (W.item i s _ _ hlt hst λ v h' tk hv hst' hk' => ?_)
  obtain ⟨x, hx⟩ : ∃ x, xs[i]? = some x := ⟨_, aO (by lia)⟩
  have kb' : ∀ b o, hb.get? b = some o -> h'.get? b = some o := λ b o q => hk' b o (λ c => by rw [aM] at c; subst c; rw [nI] at q; cases q) (kb b o q)
  show aQ _ A.in1 (holding [v] (setAdd S v) >>= _) _ _ _
  refine aC (bJ (hadd i v x cur { s with heap := h', toks := tk } _ hv hx kb' (hfr _ _ _ hinv λ o q => hk' S o (by simpa using hSI) q) hcl λ h2 tk2 hinv2 b2 => ?_))
  have kb2 : ∀ b o, hb.get? b = some o -> h2.get? b = some o := λ b o q => by
   rw [b2.2 b (λ c => by subst c; rw [nS] at q; cases q)]; exact kb' b o q
  refine aI ⟨eN dP _, ih (i + 1) (stepD cur x) _ (by lia) hlt (W.frame _ _ _ hst' λ b hb' o q => ?_) hinv2 (aE (stepD_len cur x) (by lia)) kb2 λ h3 tk3 hinv3 kb3 => ?_⟩
  · have hne : b ≠ S := by
     rcases aP.mp hb' with c | c
     · subst c; exact Ne.symm hSI
     · rw [aM] at c; subst c; exact Ne.symm hSl
    show h2.get? b = some o
    rw [b2.2 b hne]; exact q
  · refine hR h3 tk3 ?_ kb3
    have : xs.drop i = x :: xs.drop (i + 1) := by
     rw [List.drop_eq_getElem_cons (by lia)]
     rw [aO (by lia)] at hx
     rw [aY hx]
    rw [this, eh]
    exact hinv3
end
section
variable {prog : eZ} {w : World} {A : bH} {E : aJ -> aK -> Prop} {s : aK}
noncomputable abbrev newSetObj (w : World) : Obj := { cls := .type "set", dict := none, data := .set #[] 0 (.fresh 0 0 (!w.params.followText "set-order")) }
theorem new_set_led (a : aJ) {Q₁ : aJ -> aK -> Prop} (h : Q₁ (.ref s.heap.objs.size) { s with heap := s.heap.push (newSetObj w) }) :
 eO (model prog w) A (.call (.builtin "set.__new__") ⟨[.type "set", a], []⟩) (wants Q₁ E) s := by
 refine codeAny_of_tree ?_
 show aQ _ A.in1 (do checkBuiltinCall "set.__new__" ⟨[.type "set", a], []⟩; again (.builtin "set.__new__" ⟨[.type "set", a], []⟩)) _ _ s
 refine aC (wpAny_of_eq (F.newCall_set_1 a) (aI ⟨eN F.plain_set_new _, dB F.entry_set_new ?_⟩))
 rw [cR F.plain_set_new _]
 unfold bb.«set.__new__» bb.Frozenset.newClass
 have hsub := sub_set_self
 obtain ⟨hp, g, d, tk, os⟩ := s
 dsimp only
 wp_walk
 refine eo (aI ?_)
 dsimp only
 simp only [newObj]
 refine aC (wpAny_alloc (aI ?_))
 exact aI h
set_option maxRecDepth 100000 in
set_option maxHeartbeats 3200000 in
theorem set_of_list {l : av} {vs : List aJ} {n : Nat} {xs : List aA} {Q : aJ -> aK -> Prop} (hh : A.handled = none) (g : s.heap.get? l = some (fV vs n)) (hl : vs.length = xs.length)
 (Inv : List aA -> Heap -> Prop) (hfr : ∀ cur h h', Inv cur h -> (∀ o, h.get? s.heap.objs.size = some o -> h'.get? s.heap.objs.size = some o) -> Inv cur h')
 (h0 : ∀ h' : Heap, h'.get? s.heap.objs.size = some (newSetObj w) -> Inv [] h')
 (hadd : ∀ (A' : bH) (E' : aJ -> aK -> Prop) (i : Nat) (v : aJ) (x : aA) (cur : List aA) (s' : aK) (Q : aK -> Prop), A'.units <= A.units + 10 -> vs[i]? = some v -> xs[i]? = some x -> (∀ b o, s.heap.get? b = some o -> s'.heap.get? b = some o) -> Inv cur s'.heap -> cur.length <= i ->
  (∀ h' tk, Inv (stepD cur x) h' -> b8 s.heap.objs.size s'.heap h' -> Q { s' with heap := h', toks := tk }) -> aQ (model prog w) A' (setAdd s.heap.objs.size v) (λ _ s'' => Q s'') E' s')
 (h : ∀ (h' : Heap) (tk : Nat), Inv (xs.foldl stepD []) h' -> (∀ b o, s.heap.get? b = some o -> h'.get? b = some o) -> Q (.ref s.heap.objs.size) { s with heap := h', toks := tk }) :
 aQ (model prog w) A (call (.type "set") [.ref l]) Q E s := by
 obtain ⟨c, tl, hmro⟩ := F.called_set.mro
 have hmade := F.called_set.made
 have hsub := F.called_set.sub
 refine wpAny_call (codeAny_of_tree ?_)
 show aQ _ _ (callAny (.type "set") _) _ _ _
 refine aI ⟨Code.quiet_builtin _ (by decide +kernel), dB F.entry_type_call ?_⟩
 rw [bH.under_plain (weight_type_call_type "set" [.ref l] []) rfl]
 have h1 := F.called_set.notType
 have h2 := F.called_set.canCreate
 have hct := F.typeCall_set_1 (.ref l)
 repeat (any_goals (first | assumption | wp_step))
 refine dZ (new_set_led (.ref l) (E := E) (Q₁ := λ obj s₁ => obj = .ref s.heap.objs.size ∧ s₁ = { s with heap := s.heap.push (newSetObj w) }) ⟨rfl, rfl⟩) λ r s₁ hr => ?_
 cases r with
 | error e => exact hr
 | ok fl =>
  cases fl with
  | ret obj =>
   obtain ⟨rfl, rfl⟩ := hr
   have hS : (s.heap.push (newSetObj w)).get? s.heap.objs.size = some (newSetObj w) := ao _ rfl
   have hT : aK.TypeIs { s with heap := s.heap.push (newSetObj w) } (.ref s.heap.objs.size) "set" := ⟨_, hS, rfl⟩
   have hli := F.called_set.init.lookup
   have hbi := F.called_set.init.bind (.ref s.heap.objs.size)
   repeat (any_goals (first | assumption | wp_step))
   refine dZ (codeAny_call_builtin (R := wants (λ r s₂ => r = .none ∧ ∃ h' tk, s₂ = { s with heap := h', toks := tk } ∧ Inv (xs.foldl stepD []) h' ∧
    (∀ b o, s.heap.get? b = some o -> h'.get? b = some o)) E) F.called_set.init.plain F.entry_set_init (check_set_init_1 hT ?_)) λ r₂ s₂ hr₂ => ?_
   · have hol' : (s.heap.push (newSetObj w)).get? l = some (fV vs n) := ay _ g
     have hsls := F.sub_list_set
     have hslf := F.sub_list_frozenset
     have hne : (eC "list" == eC "dict") = false := by decide
     have hl1 : (s.heap.push (newSetObj w)).IsList l vs.toArray := ⟨_, hol', rfl, n, rfl⟩
     unfold bb.«set.__init__» noKeywords bb.Frozenset.updateFrom
     generalize hPI : pyIter = PI
     wp_walk
     subst hPI
     refine wpAny_pyIter_list hl1 ?_
     refine aC (wpAny_runValue ?_)
     have hlS : l < s.heap.objs.size := cu g
     have hh3 : A.in1.in1.in1.handled = none := by simp [hh]
     have hz : (s.heap.push (newSetObj w)).objs.size = s.heap.objs.size + 1 := Heap.size_push _ _
     have gS : ((s.heap.push (newSetObj w)).push { cls := .type "list_iterator", data := .fields #[.ref l, .int 0 0] }).get? s.heap.objs.size = some (newSetObj w) := ay _ hS
     have gI : ((s.heap.push (newSetObj w)).push { cls := .type "list_iterator", data := .fields #[.ref l, .int 0 0] }).get? (s.heap.push (newSetObj w)).objs.size = some { cls := .type "list_iterator", data := .fields #[.ref l, .int 0 0] } := ao _ rfl
     have nSI : s.heap.objs.size ≠ (s.heap.push (newSetObj w)).objs.size := by rw [hz]; omega
     have nIn : s.heap.get? (s.heap.push (newSetObj w)).objs.size = none := ax (by rw [hz]; omega)
     have W0 := Walks.list (prog := prog) (w := w) hh3 (s.heap.push (newSetObj w)).objs.size l (by rw [hz]; exact dy (Nat.lt_succ_of_lt hlS)) vs.toArray
     rw [aa] at W0
     simp only [bF] at W0
     refine update_loop (A := A.in1.in1) W0 nSI (Nat.ne_of_gt hlS) (hb := s.heap) (ax (aW _)) nIn hl Inv hfr
      (λ i v x cur s' Q h1 h2 h3 h4 h5 h6 => hadd _ _ i v x cur s' Q (by show A.units + 1 + 1 + 1 <= A.units + 10; omega) h1 h2 h3 h4 h5 h6) (vs.length - 0) 0 [] _ rfl (bA _)
      ⟨⟨_, gI, rfl, rfl⟩, hl1.push _⟩ (h0 _ gS) (aW _) (λ b o q => ay _ (ay _ q)) λ h' tk hi hk => ?_
     show aQ _ _ _ _ _ _
     refine aI ?_
     show aQ _ _ (ret aJ.none) _ _ _
     exact aI ⟨rfl, h', tk, rfl, hi, hk⟩
   · cases r₂ with
     | error e => exact hr₂
     | ok fl₂ =>
      cases fl₂ with
      | ret r =>
       obtain ⟨rfl, h', tk, rfl, hS', hk'⟩ := hr₂
       repeat (any_goals (first | assumption | wp_step))
       exact h _ _ hS' hk'
      | _ => exact hr₂.elim
  | _ => exact hr.elim
end
theorem chain_pw : ∀ {ys : List aA}, chain ys = true ↔ ys.Pairwise λ a b => ltD a b = some true ∧ ltD b a = some false
 | [] => by simp [chain]
 | x :: r => by
  simp only [chain, bl, aT, beq_iff_eq, bD, chain_pw (ys := r)]
theorem insD_mid {x : aA} {t : List aA} (ht : ∀ y ∈ t, ltD x y = some true) : ∀ (s : List aA), (∀ y ∈ s, ltD x y = some false) -> insD x (s ++ t) = some (s ++ x :: t)
 | [], _ => by
  cases t with
  | nil => rfl
  | cons y r => simp only [bc, insD, ht y (.head _)]
 | y :: s, hs => by
  simp only [List.cons_append, insD, hs y (.head _), insD_mid ht s λ z hz => hs z (.tail _ hz), Option.map_some]
theorem isortD_chain : ∀ (xs : List aA) {ys : List aA}, chain ys = true -> xs.Perm ys -> isortD xs = some ys
 | [], ys, _, p => by rw [List.nil_perm.mp p]; rfl
 | x :: r, ys, hc, p => by
  obtain ⟨s, t, rfl⟩ := List.append_of_mem (p.mem_iff.mp (bu (a := x) (l := r)))
  have p2 : r.Perm (s ++ t) := (p.trans List.perm_middle).cons_inv
  have hw := chain_pw.mp hc
  rw [List.pairwise_append, bD] at hw
  have hc2 : chain (s ++ t) = true := chain_pw.mpr (List.pairwise_append.mpr ⟨hw.1, hw.2.1.2, λ a ha b hb => hw.2.2 a ha b (.tail _ hb)⟩)
  simp only [isortD, isortD_chain r hc2 p2, Option.bind_some]
  exact insD_mid (λ y hy => (hw.2.1.1 y hy).1) s λ y hy => (hw.2.2 y hy x (.head _)).2
theorem ints_map' : ∀ (is : List Int), ints? (is.map .int) = some is
 | [] => rfl
 | i :: r => by simp only [ba, ints?, ints_map' r, Option.map_some]
theorem sortD_perm {xs xs' ys : List aA} (e : sortD xs = some ys) (p : xs'.Perm xs) : sortD xs' = some ys := by
 unfold sortD at e
 split at e
 · rename_i is hi
   split at e
   · rename_i hl
     cases e
     obtain ⟨is', p1, rfl⟩ := perm_pull aS p is (ints_eq hi)
     simp only [sortD, ints_map']
     rw [if_pos (by rw [p1.length_eq]; exact hl), sorted_eq ((isortI_perm is').trans (p1.trans (isortI_perm is).symm)) (fj _) (fj _)]
   · cases e
 · rename_i hno
   split at e
   · rename_i hq
     obtain ⟨zs, h1, h2⟩ := bK.mp e
     split at h2
     · rename_i hc
       cases h2
       have hno' : ints? xs' = none := by
        cases q : ints? xs' with
        | none => rfl
        | some is' =>
         rw [ints_eq q] at p
         obtain ⟨is2, _, e2⟩ := perm_pull aS p.symm is' rfl
         rw [e2, ints_map'] at hno; cases hno
       have h5 : isortD xs' = some ys := isortD_chain xs' hc (p.trans (isortD_perm xs h1).symm)
       have hq' : (decide (xs'.length <= 4) && xs'.all (okK 8) && xs'.all tupT) = true := by
        simp only [bl, decide_eq_true_eq, aT] at hq ⊢
        exact ⟨⟨by rw [p.length_eq]; exact hq.1.1, λ y hy => hq.1.2 y (p.mem_iff.mp hy)⟩, λ y hy => hq.2 y (p.mem_iff.mp hy)⟩
       simp only [sortD, hno', hq', if_true, h5, Option.bind_some, hc]
     · cases h2
   · cases e
section
variable {F : Fx} {A : bH} {E : aJ -> aK -> Prop} {s : aK} {α : Pl} {σ : fE}
noncomputable def SInt (F : Fx) (S : av) (cur : List aA) (h : Heap) : Prop :=
 ∃ (es : Array (Int × aJ)) (ep : Nat) (t : aX) (ns : List Int), h.get? S = some (setObj es ep t) ∧ LedOk F.w t es.size ∧ PySem.ElemsOf (dE F.prog F.w) es.toList ∧ IntsAre (es.toList.map (·.2)) ns ∧ (ns.map aS).Perm cur
noncomputable def STup (F : Fx) (hb : Heap) (α : Pl) (S : av) (cur : List aA) (h : Heap) : Prop :=
 ∃ (es : Array (Int × aJ)) (ep : Nat) (t : aX) (ys : List aA), h.get? S = some (setObj es ep t) ∧ LedOk F.w t es.size ∧ t.mask = 7 ∧ Reach t.place.toList es.toList ∧ Els F hb α es.toList ys ∧ ys.Perm cur
theorem any_iff {cur : List aA} {x : aA} (ox : okK 8 x = true) : cur.any (eqD x) = true ↔ x ∈ cur := by
 rw [bW]
 exact ⟨λ ⟨y, h1, h2⟩ => by rw [(eqD_true ox).mp h2]; exact h1, λ h => ⟨x, h, (eqD_true ox).mpr rfl⟩⟩
theorem ints_perm {vs : List aJ} {ns : List Int} (I : IntsAre vs ns) : ∀ {vs' : List aJ}, vs'.Perm vs -> ∃ ns', ns'.Perm ns ∧ IntsAre vs' ns' := by
 intro vs' p
 induction p generalizing ns with
 | nil => cases I; exact ⟨[], .refl _, .nil⟩
 | cons v _ ih =>
  cases I with
  | cons n t r =>
   obtain ⟨ns', p1, r1⟩ := ih r
   exact ⟨n :: ns', p1.cons n, .cons n t r1⟩
 | swap v u l =>
  cases I with
  | cons n t r => cases r with
   | cons n2 t2 r => exact ⟨n2 :: n :: _, .swap _ _ _, .cons n2 t2 (.cons n t r)⟩
 | trans _ _ ih1 ih2 =>
  obtain ⟨n2, p2, r2⟩ := ih2 I
  obtain ⟨n1, p1, r1⟩ := ih1 r2
  exact ⟨n1, p1.trans p2, r1⟩
theorem rdAll_perm {h : Heap} {α : Pl} {vs : List aJ} {xs : List aA} (R : fL F h α vs xs) : ∀ {vs' : List aJ}, vs'.Perm vs -> ∃ xs', xs'.Perm xs ∧ fL F h α vs' xs' := by
 intro vs' p
 induction p generalizing xs with
 | nil => cases R; exact ⟨[], .refl _, .nil⟩
 | cons v _ ih =>
  cases R with
  | cons a r =>
   obtain ⟨ns', p1, r1⟩ := ih r
   exact ⟨_ :: ns', p1.cons _, .cons a r1⟩
 | swap v u l =>
  cases R with
  | cons a r => cases r with
   | cons b r => exact ⟨_ :: _ :: _, .swap _ _ _, .cons b (.cons a r)⟩
 | trans _ _ ih1 ih2 =>
  obtain ⟨n2, p2, r2⟩ := ih2 R
  obtain ⟨n1, p1, r1⟩ := ih1 r2
  exact ⟨n1, p1.trans p2, r1⟩
theorem ints_app {vs us : List aJ} {ns ms : List Int} (a : IntsAre vs ns) (b : IntsAre us ms) : IntsAre (vs ++ us) (ns ++ ms) := by
 induction a with
 | nil => exact b
 | cons n t _ ih => exact .cons n t ih
theorem add_int {S : av} {k : Int} {tk : Tok} {cur : List aA} {Q : aK -> Prop} (hi : SInt F S cur s.heap) (hl : cur.length + 1 < scanBound)
 (h : ∀ h' tk', SInt F S (stepD cur (.int k)) h' -> b8 S s.heap h' -> Q { s with heap := h', toks := tk' }) : aQ F.m A (setAdd S (.int k tk)) (λ _ s' => Q s') E s := by
 obtain ⟨es, ep, t, ns, g, T, hel, I, hp⟩ := hi
 have hsz : es.size = cur.length := by rw [<- ac, <- hp.length_eq, aG, <- I.length, aG]
 have hmem : (∃ e ∈ es.toList, (dE F.prog F.w).is k e.2 = true) ↔ (aS k) ∈ cur := by
  rw [<- hp.mem_iff, aj]
  constructor
  · rintro ⟨e, he, hk⟩
    obtain ⟨t, ht⟩ := aJ.isInt_shape hk
    have : e.2 ∈ es.toList.map (·.2) := aj.mpr ⟨e, he, rfl⟩
    obtain ⟨i, hi, hx⟩ := cH this
    obtain ⟨t', e2⟩ := I.int_at i e.2 (by rw [aO hi, hx])
    rw [ht] at e2
    cases e2
    refine ⟨ns.getD i 0, ?_, rfl⟩
    have hli : i < ns.length := by rw [<- I.length]; exact hi
    rw [az, aO hli, di]; exact eW _
  · rintro ⟨m, hm, e⟩
    cases e
    obtain ⟨i, hi, hx⟩ := cH hm
    have hlv : i < (es.toList.map (·.2)).length := by rw [I.length]; exact hi
    obtain ⟨t', e2⟩ := I.int_at i _ (aO hlv)
    rw [List.getElem_map] at e2
    refine ⟨es.toList[i]'(by simpa using hlv), eW _, ?_⟩
    rw [e2, az, aO hi, di, hx]
    exact intKind_is _ _ _ _
 have ok : okK 8 (.int k) = true := rfl
 refine add_scan g T (by rw [hsz]; exact hl) hel (λ hy tk' => ?_) λ hno h' es' ep' t' tk' g' T' hp' b => ?_
 · have := h s.heap tk' ⟨es, ep, t, ns, g, T, hel, I, by
    unfold stepD; rw [if_pos ((any_iff ok).mpr (hmem.mp hy))]; exact hp⟩ (b8.refl _ _)
   exact this
 · have hnot : ¬ (aS k) ∈ cur := λ c => by
    obtain ⟨e, he, hk⟩ := hmem.mpr c
    rw [hno e he] at hk; cases hk
   have hpv : (es'.toList.map (·.2)).Perm (es.toList.map (·.2) ++ [aJ.int k tk]) := by
    have := hp'.map (·.2); simpa using this
   obtain ⟨ns', p1, I'⟩ := ints_perm (ints_app I (.cons k tk .nil)) hpv
   refine h h' tk' ⟨es', ep', t', ns', g', T', (hel.push (k := k) (intKind_is _ _ k tk) rfl).perm hp', I', ?_⟩ b
   unfold stepD
   rw [if_neg (λ c => hnot ((any_iff ok).mp c))]
   refine (p1.map _).trans ?_
   rw [aU]
   exact (List.perm_append_comm).trans (hp.cons _)
theorem add_tup {hb : Heap} {S : av} {x : aA} {v : aJ} {cur : List aA} {Q : aK -> Prop} (hu : A.units + 8 < cLine) (hi : STup F hb α S cur s.heap) (kb : ∀ b o, hb.get? b = some o -> s.heap.get? b = some o) (hl : cur.length <= 3)
 (ox : okK 8 x = true) (tx : isTup x = true) (rx : Rd F hb α v x)
 (h : ∀ h' tk', STup F hb α S (stepD cur x) h' -> b8 S s.heap h' -> Q { s with heap := h', toks := tk' }) : aQ F.m A (setAdd S v) (λ _ s' => Q s') E s := by
 obtain ⟨es, ep, t, ys, g, T, hm, Rc, L, hp⟩ := hi
 have hsz : es.size = cur.length := by rw [<- ac, L.len, hp.length_eq]
 have up : ∀ {u : aJ} {y : aA}, Rd F hb α u y -> Rd F s.heap α u y := λ r => r.mv ⟨λ b o e n _ => ⟨kb b o e, n⟩, λ _ _ e => e⟩
 have L' : Els F s.heap α es.toList ys := ⟨L.len, λ i e y h1 h2 => by obtain ⟨a, b, c, d⟩ := L.at_ i e y h1 h2; exact ⟨a, up b, c, d⟩⟩
 refine add_road hu g T hm Rc (by rw [hsz]; exact hl) L' ox tx (up rx) (λ ⟨i, y, hy, he⟩ tk => ?_) λ hall h' es' ep' t' tk p g' T' m' Rc' hsz' hes b => ?_
 · have hmy := a7 hy
   have hli : i < es.toList.length := by rw [L.len]; exact (aR.mp hy).1
   have oy := (L.at_ i _ y (aO hli) hy).2.2.1
   have e2 := (eqD_true oy).mp he
   subst e2
   exact h s.heap tk ⟨es, ep, t, ys, g, T, hm, Rc, L, by
    unfold stepD; rw [if_pos ((any_iff ox).mpr (hp.mem_iff.mp hmy))]; exact hp⟩ (b8.refl _ _)
 · have hnot : ¬ x ∈ cur := λ c => by
    have := hall x (hp.mem_iff.mpr c)
    rw [(eqD_true ox).mpr rfl] at this; cases this
   refine h h' tk ⟨es', ep', t', _, g', T', m', Rc', by rw [hes]; exact L.ins p rx ox tx, ?_⟩ b
   unfold stepD
   rw [if_neg (λ c => hnot ((any_iff ox).mp c))]
   exact (ins_perm x ys p).trans (hp.cons x)
section
variable {α : Pl}
theorem sorted_any {hb : Heap} {x : aJ} {xs ys : List aA} {Q : aJ -> aK -> Prop} (e : sortD xs = some ys) (hu : A.units + 40 < cLine) (hl : xs.length <= 64)
 (hcol : ∀ (K : List aJ -> aK -> Prop), (∀ (vs : List aJ) (xs' : List aA) (s' : aK), xs'.Perm xs -> (∀ b o, hb.get? b = some o -> s'.heap.get? b = some o) -> fL F hb α vs xs' -> s'.gens = s.gens -> s'.os = s.os -> K vs s') -> aQ F.m A.in1 (collect x) K E s)
 (h : ∀ (a : av) (out : List aJ) (s' : aK) (m : Nat), hb.get? a = none -> (∀ b o, hb.get? b = some o -> s'.heap.get? b = some o) -> s'.heap.get? a = some (fV out m) -> fL F hb α out ys -> s'.gens = s.gens -> s'.os = s.os -> Q (.ref a) s') :
 aQ F.m A (call (.builtin "sorted") [x]) Q E s := by
 refine Calls.call_function_entry kind_sorted plain_sorted entry_sorted (args_sorted1 _) ?_
 unfold bb.«sorted»
 refine aC (m := checkCount "sorted" 1 1 _) (aI ?_)
 refine aC (hcol _ λ vs xs' s' px k r hg hos => ?_)
 have hl2 := r.length
 have hl3 := px.length_eq
 refine aC (wpAny_newList ?_ (by rw [dD]; lia))
 have hn : hb.get? s'.heap.objs.size = none := by
  cases q : hb.get? s'.heap.objs.size with
  | none => rfl
  | some o => have := k _ _ q; rw [ax (aW _)] at this; cases this
 have hoL : (s'.heap.push (seqObj "list" vs.toArray 0)).get? s'.heap.objs.size = some (seqObj "list" vs.toArray 0) := ao _ rfl
 refine aC (bJ (bf slot_list_sort ⟨_, hoL, rfl⟩ entry_list_sort (lsort (s := { s' with heap := s'.heap.push (seqObj "list" vs.toArray 0) }) (λ b o q => ay _ (k b o q)) hn hoL r (sortD_perm e px) (by show A.units + 1 + 1 + 30 < cLine; lia) λ out h' m k' g q => ⟨_, rfl, ?_⟩) (args_list_sort _)))
 exact aI ⟨_, rfl, h _ out _ m hn k' g q hg hos⟩
end
theorem stepD_dedup_len (xs : List aA) : (xs.foldl stepD []).length <= xs.length := by
 have go : ∀ (xs seen : List aA), (xs.foldl stepD seen).length <= seen.length + xs.length := by
  intro xs
  induction xs with
  | nil => intro seen; simp
  | cons x r ih =>
   intro seen
   have := ih (stepD seen x)
   have := stepD_len seen x
   simp only [eh, am]; lia
 simpa using go xs []
theorem dedup_mem {x : aA} (ox : okK 8 x = true) : ∀ (xs seen : List aA), x ∈ xs -> x ∉ seen -> x ∈ dedup xs seen
 | [], _, h, _ => by cases h
 | y :: r, seen, h, hn => by
  simp only [dedup]
  split
  · rename_i hs
    rcases aP.mp h with rfl | h
    · exact absurd ((any_iff ox).mp hs) hn
    · exact dedup_mem ox r seen h hn
  · by_cases e : x = y
    · subst e; exact .head _
    · rcases aP.mp h with q | h
      · exact absurd q e
      · exact .tail _ (dedup_mem ox r (y :: seen) h (by simp [e, hn]))
theorem conv_ints : ∀ {l : List aA}, (∀ y ∈ l, ∃ k, y = aS k) -> ∃ is : List Int, l = is.map aS
 | [], _ => ⟨[], rfl⟩
 | y :: r, h => by
  obtain ⟨k, rfl⟩ := h y (.head _)
  obtain ⟨is, rfl⟩ := conv_ints λ z hz => h z (.tail _ hz)
  exact ⟨k :: is, rfl⟩
theorem few_tup {xs ys : List aA} (hi : ints? xs = none) (ok : ∀ x ∈ xs, okK 8 x = true) (h1 : sortD (dedup xs []) = some ys) : ∀ x ∈ xs, isTup x = true := by
 intro x hx
 have hd := dedup_mem (ok x hx) xs [] hx (λ m => nomatch m)
 unfold sortD at h1
 split at h1
 · rename_i is2 hi2
   exfalso
   obtain ⟨is, e2⟩ := conv_ints (l := xs) λ y hy => by
    have := dedup_mem (ok y hy) xs [] hy (λ m => nomatch m)
    rw [ints_eq hi2] at this
    obtain ⟨k, _, rfl⟩ := aj.mp this
    exact ⟨k, rfl⟩
   rw [e2, ints_map'] at hi; cases hi
 · split at h1
   · rename_i hc
     exact tupT_tup (aT.mp (and2 hc) x hd)
   · cases h1
theorem sortedset_ok {Q : Ps} {x : aJ} {u : V} (hh : A.handled = none) (hu : A.units + 100 < cLine) (S : St F s.heap α σ) (r : RV F s.heap α x u) (e : OW (biD σ 4 [u]) λ z => Q z σ) :
 aQ F.m A (call (.type "set") [x]) (λ y s' => aQ F.m A (call (.builtin "sorted") [y]) (QE F s α Q) E s') E s := by
 refine lst_go S r (OW.bind e) λ a vs n xs g q e => ?_
 refine e.bind.ck λ hq e => ?_
 refine OW.get e.map λ ys h1 wq => ?_
 have ok : ∀ x ∈ xs, okK 8 x = true := aT.mp (and2 hq)
 have h64 : xs.length <= 64 := of_decide_eq_true (and2 (fG hq))
 have hl := q.length
 have hfd : (xs.foldl stepD []).Perm (dedup xs []) := by simpa using fold_dedup xs []
 have h1' := sortD_perm h1 hfd
 have fin : ∀ (h' : Heap) (tk : Nat) (es : Array (Int × aJ)) (ep : Nat) (t : aX) (zs : List aA), h'.get? s.heap.objs.size = some (setObj es ep t) -> LedOk F.w t es.size -> es.size <= 1000 -> fL F s.heap α (es.toList.map (·.2)) zs -> zs.Perm (xs.foldl stepD []) -> (∀ b o, s.heap.get? b = some o -> h'.get? b = some o) ->
  aQ F.m A (call (.builtin "sorted") [.ref s.heap.objs.size]) (QE F s α Q) E { s with heap := h', toks := tk } := by
  intro h' tk es ep t zs g' T hz rz pz k
  refine sorted_any (s := { s with heap := h', toks := tk }) (hb := s.heap) (xs := xs.foldl stepD []) h1' (by lia) (sortD_len h1') (λ K hK => ?_) λ a out s' m hn k g r hg ho => sorted_out S wq hn k g r hg ho
  refine collect_set (s := { s with heap := h', toks := tk }) (by exact hh) g' T hz λ h2 tk2 d vs2 k2 p2 => ?_
  obtain ⟨zs', pz', rz'⟩ := rdAll_perm rz p2
  exact hK vs2 zs' _ (pz'.trans pz) (λ b o q => k2 b o (k b o q)) rz' rfl rfl
 have hfl := stepD_dedup_len xs
 cases hi : ints? xs with
 | some is =>
  have hxe := ints_eq hi
  refine set_of_list hh g hl (SInt F s.heap.objs.size) (λ cur h h' z k => by
   obtain ⟨es, ep, t, ns, c1, c2⟩ := z
   exact ⟨es, ep, t, ns, k _ c1, c2⟩)
   (λ h' c => ⟨#[], 0, _, [], c, stab_fresh _, (λ e he => nomatch he), .nil, .refl _⟩) (λ A' E' i v x cur s' Q hA hv hx kb inv hcl hQ => ?_) λ h' tk z k => ?_
  · have hil : i < xs.length := (aR.mp hx).1
    obtain ⟨v', hv', rv⟩ := q.get hx
    rw [hv] at hv'; cases hv'
    rw [hxe, a6] at hx
    obtain ⟨kk, _, rfl⟩ := aZ.mp hx
    obtain ⟨tk, rfl⟩ := int_of rv
    exact add_int inv (by have : scanBound = 4096 := rfl; lia) hQ
  · obtain ⟨es, ep, t, ns, c1, c2, c3, c4, c5⟩ := z
    have hsz : es.size <= 64 := by
     have h1 := c5.length_eq
     have h2 := c4.length
     rw [aG, ac] at h2
     rw [aG] at h1
     lia
    exact fin h' tk es ep t _ c1 c2 (by lia) (ints_rd c4) c5 k
 | none =>
  have h4 : xs.length <= 4 := by
   have := fG (fG hq)
   rw [hi] at this
   rcases (cX ..).mp this with c | c
   · exact of_decide_eq_true c
   · exact nomatch c
  have htt := few_tup hi ok h1
  refine set_of_list hh g hl (STup F s.heap α s.heap.objs.size) (λ cur h h' z k => by
   obtain ⟨es, ep, t, ns, c1, c2⟩ := z
   exact ⟨es, ep, t, ns, k _ c1, c2⟩)
   (λ h' c => ⟨#[], 0, _, [], c, stab_fresh _, rfl, (λ pr hpr => nomatch hpr), ⟨rfl, (λ i e y he _ => nomatch he)⟩, .refl _⟩) (λ A' E' i v x cur s' Q hA hv hx kb inv hcl hQ => ?_) λ h' tk z k => ?_
  · have hil : i < xs.length := (aR.mp hx).1
    obtain ⟨v', hv', rv⟩ := q.get hx
    rw [hv] at hv'; cases hv'
    have hm := a7 hx
    exact add_tup (by lia) inv kb (by lia) (ok x hm) (htt x hm) rv hQ
  · obtain ⟨es, ep, t, zs, c1, c2, c3, c4, c5, c6⟩ := z
    have hsz : es.size <= 64 := by
     have h1 := c5.len
     have h2 := c6.length_eq
     rw [ac] at h1
     lia
    exact fin h' tk es ep t zs c1 c2 (by lia) c5.rd c6 k
theorem sort_all (W : Wo F) : SortOk F :=
 ⟨λ A E s α σ x u Q hh hu S r e => sorted_ok W hh hu S r e, λ A E s α σ x u Q hh hu S r e => sortedset_ok hh hu S r e⟩
end
end Mine
namespace Mine.Law
open PySem
@[irreducible] noncomputable def runM (n : Nat) : Nat -> List V -> fE -> Ps -> Prop := runN prg n
noncomputable abbrev OO (n : Nat) : Orc := prg.orc (runM n)
theorem runM_succ {n f : Nat} {vs : List V} {σ : fE} {Q : Ps} : runM (n + 1) f vs σ Q = OW (prg.funs[f]?) λ fd => runDef (OO n) fd vs σ Q := by kernel_rfl
section
variable {σ σ' : fE} {x y v : V} {Q : V × fE -> Prop}
theorem ow {β : Type} {o : Option β} {a : β} {Q : β -> Prop} (h : o = some a) (q : Q a) : OW o Q := by subst h; exact q
theorem cT {c : Bool} {P R : Prop} (h : c = true) (p : P) : cond c P R := by subst h; exact p
theorem cF {c : Bool} {P R : Prop} (h : c = false) (p : R) : cond c P R := by subst h; exact p
theorem cB {c : Bool} {P R : Prop} (h : c = true -> P) (k : c = false -> R) : cond c P R := by
 cases c with
 | true => exact h rfl
 | false => exact k rfl
theorem w_att {n : Nat} (h : attD σ x n = some v) (q : Q (v, σ)) : OW (op2 σ x y (.att n)) Q := by
 show OW ((attD σ x n).map _) _; rw [h]; exact q
theorem fM (h : subD σ x y = some v) (q : Q (v, σ)) : OW (op2 σ x y (.sub ())) Q := by
 show OW ((subD σ x y).map _) _; rw [h]; exact q
theorem w_bin {o : Operator} (h : binD σ o x y = some v) (q : Q (v, σ)) : OW (op2 σ x y (.bin o)) Q := by
 show OW ((binD σ o x y).map _) _; rw [h]; exact q
theorem w_cmp {o : CmpOp} {b : Bool} (h : cmpD σ o x y = some b) (q : Q (.d (.bool b), σ)) : OW (op2 σ x y (.cmp o)) Q := by
 show OW ((cmpD σ o x y).map _) _; rw [h]; exact q
theorem w_pre {p : Nat × List aA} {Q : Unit -> Prop} (h : cellL σ x = some p) (q : Q ()) : OW (pre2 σ x (.app ())) Q := by
 show OW ((cellL σ x).map _) _; rw [h]; exact q
theorem w_app (h : appendD σ x y = some σ') (q : Q (.d .none, σ')) : OW (op2 σ x y (.app ())) Q := by
 show OW ((appendD σ x y).map _) _; rw [h]; exact q
theorem w_prx {p : Nat × List aA} {Q : Unit -> Prop} (h : cellL σ x = some p) (q : Q ()) : OW (pre2 σ x (.ext ())) Q := by
 show OW ((cellL σ x).map _) _; rw [h]; exact q
theorem w_ext (h : extendD σ x y = some σ') (q : Q (.d .none, σ')) : OW (op2 σ x y (.ext ())) Q := by
 show OW ((extendD σ x y).map _) _; rw [h]; exact q
theorem w_bi {b : Nat} {vs : List V} {Q : V -> Prop} (h : biD σ b vs = some v) (q : Q v) : OW (biD σ b vs) Q := by rw [h]; exact q
theorem w_setI {z : V} {Q : fE -> Prop} (h : setID σ x y z = some σ') (q : Q σ') : OW (setID σ x y z) Q := by rw [h]; exact q
end
theorem rg {n f : Nat} {fd : fI} {vs : List V} {σ : fE} {Q : Ps} (h : prg.funs[f]? = some fd) (q : runDef (OO n) fd vs σ λ v σ' => WP (fin σ.length v σ') Q) : fY (OO (n + 1)) f vs σ Q := ⟨Eq.mpr runM_succ (ow h q)⟩
noncomputable def fN (R : List aA) (t : Int) : Option aA := cond (decide (0 <= t)) R[t.toNat]? none
section
variable {R R' : List aA} {t s : Int} {r : aA}
theorem rowAt_iff : fN R t = some r ↔ 0 <= t ∧ R[t.toNat]? = some r := by
 unfold fN
 by_cases h : 0 <= t
 · rw [decide_eq_true h]; exact ⟨λ q => ⟨h, q⟩, λ q => q.2⟩
 · rw [decide_eq_false h]; exact ⟨λ q => (nomatch q), λ q => (h q.1).elim⟩
theorem rowAt_lt (h : fN R t = some r) : 0 <= t ∧ t < R.length := by
 obtain ⟨h0, h1⟩ := rowAt_iff.mp h
 have := (aR.mp h1).1
 exact ⟨h0, by lia⟩
theorem rowAt_mem (h : fN R t = some r) : r ∈ R := a7 (rowAt_iff.mp h).2
theorem atD_row (hf : fits R = true) (h : fN R t = some r) : atD R (.int t) = some (.d r) := by
 obtain ⟨h0, h1⟩ := rowAt_lt h
 have e : idx t R.length = some t.toNat := by unfold idx; rw [if_pos h0, if_pos h1]
 show (ck (fits R) ()).bind (λ _ => (idx t R.length).bind λ n => (R[n]?).map V.d) = _
 rw [hf, e]
 show (R[t.toNat]?).map V.d = _
 rw [(rowAt_iff.mp h).2]; rfl
theorem rowAt_new : fN (R ++ [r]) (R.length : Int) = some r := rowAt_iff.mpr ⟨bj _, by rw [bT, bg (aW _), dN]; rfl⟩
theorem fK (h : R <+: R') (e : fN R t = some r) : fN R' t = some r := by
 obtain ⟨S, rfl⟩ := h
 obtain ⟨h0, h1⟩ := rowAt_iff.mp e
 exact rowAt_iff.mpr ⟨h0, by rw [bM (aR.mp h1).1]; exact h1⟩
theorem rowAt_inj (hd : R.Nodup) (h : fN R s = some r) (h' : fN R t = some r) : s = t := by
 obtain ⟨h0, h1⟩ := rowAt_iff.mp h
 obtain ⟨h0', h1'⟩ := rowAt_iff.mp h'
 have := (List.getElem?_inj (aR.mp h1).1 hd).mp (h1.trans h1'.symm)
 lia
end
noncomputable def ixFrom : Nat -> List aA -> List (aA × V)
 | _, [] => []
 | i, r :: R => (r, .d (.int i)) :: ixFrom (i + 1) R
noncomputable abbrev ixOf (R : List aA) : List (aA × V) := ixFrom 0 R
theorem ixFrom_push (r : aA) : ∀ (i : Nat) (R : List aA), ixFrom i (R ++ [r]) = ixFrom i R ++ [(r, .d (.int ((i + R.length : Nat) : Int)))]
 | _, [] => rfl
 | i, a :: R => congrArg ((a, _) :: ·) ((ixFrom_push r (i + 1) R).trans (by rw [am, dO, dY]; rfl))
theorem ixFrom_length : ∀ (i : Nat) (R : List aA), (ixFrom i R).length = R.length
 | _, [] => rfl
 | i, _ :: R => congrArg eE (ixFrom_length (i + 1) R)
theorem look_ix {k : aA} (ok : okK 8 k = true) : ∀ (R : List aA) (i : Nat), (k ∉ R ∧ look k (ixFrom i R) = none) ∨ ∃ j, R[j]? = some k ∧ look k (ixFrom i R) = some (.d (.int ((i + j : Nat) : Int)))
 | [], _ => .inl ⟨cf, rfl⟩
 | r :: R, i => by
  show (_ ∧ cond (eqD r k) _ (look k (ixFrom (i + 1) R)) = _) ∨ ∃ j, _ ∧ cond (eqD r k) _ (look k (ixFrom (i + 1) R)) = _
  cases q : eqD r k with
  | true => exact .inr ⟨0, congrArg some (eqD_iff r k q), rfl⟩
  | false => exact (look_ix ok R (i + 1)).imp (λ h => ⟨λ m => (aP.mp m).elim (λ e => by rw [(eqD_true (e ▸ ok)).mpr e.symm] at q; cases q) h.1, h.2⟩) λ ⟨j, h1, h2⟩ => ⟨j + 1, h1, h2.trans (by rw [dO, dY])⟩
theorem putKV_app {k : aA} {v : V} : ∀ {a : List (aA × V)}, look k a = none -> putKV k v a = a ++ [(k, v)]
 | [], _ => rfl
 | p :: r, h => by
  have h : cond (eqD p.1 k) (some p.2) (look k r) = none := h
  show cond (eqD p.1 k) _ (p :: putKV k v r) = _
  cases q : eqD p.1 k with
  | true => rw [q] at h; cases h
  | false => rw [q] at h; exact congrArg (p :: ·) (putKV_app h)
noncomputable def tabFs : List (Nat × V) := [(0, .l 2), (1, .l 3), (2, .l 4), (3, .l 5), (4, .l 6), (5, .l 7), (6, .l 8), (7, .l 9), (8, .d (.int 0)), (9, .d (.int 0))]
noncomputable abbrev TS (c : fH) (τ : fE) (R : List aA) : fE := c :: .inst 0 tabFs :: .list R :: .dict (ixOf R) :: τ
noncomputable def Cl (c : fH) (τ : fE) : Bool := c.below (τ.length + 4) && (τ.all (fH.below (τ.length + 4)) && bV 6 τ.length)
structure Good (R : List aA) : Prop where
 ok : ∀ r ∈ R, okK 8 r = true
 nd : R.Nodup
structure Gr (R R' : List aA) (c : Nat) : Prop where
 pre : R <+: R'
 good : Good R'
 len : R'.length <= R.length + c
section
variable {c : fH} {τ υ : fE} {R R' S : List aA} {n i j : Nat}
theorem Gr.refl (h : Good R) : Gr R R n := ⟨bz _, h, ea ..⟩
theorem Gr.trans (h : Gr R R' i) (k : Gr R' S j) : Gr R S (i + j) := ⟨h.pre.trans k.pre, k.good, by have := h.len; have := k.len; lia⟩
theorem Gr.mono (h : Gr R S i) (k : i <= j) : Gr R S j := ⟨h.pre, h.good, by have := h.len; lia⟩
theorem below_mono {i j : Nat} (hk : i <= j) {c : fH} (h : c.below i = true) : c.below j = true := by
 have k : ∀ v : V, v.below i = true -> v.below j = true := λ v h => by
  cases v with
  | d => rfl
  | l m => exact a9.mpr (bx (a9.mp h) hk)
 cases c with
 | list => rfl
 | dict kvs => exact aT.mpr λ p hp => k _ (aT.mp h p hp)
 | inst c fs => exact aT.mpr λ p hp => k _ (aT.mp h p hp)
theorem all_mono {i j : Nat} (hk : i <= j) (h : τ.all (fH.below i) = true) : τ.all (fH.below j) = true := aT.mpr λ x hx => below_mono hk (aT.mp h x hx)
theorem fh (h : Cl c τ = true) (k : υ.all (fH.below (τ.length + 4)) = true) : Cl c (τ ++ υ) = true := by
 have l : τ.length + 4 <= (τ ++ υ).length + 4 := by rw [aH]; lia
 refine fP (below_mono l (fG h)) (fP ?_ (dA.mpr (aE (aF (and2 (and2 h))) (Nat.le_of_add_le_add_right l))))
 rw [List.all_append, all_mono l (fG (and2 h)), all_mono l k]; rfl
theorem ix_below (m : Nat) : ∀ (R : List aA) (i : Nat), ((ixFrom i R).all λ p => p.2.below m) = true
 | [], _ => rfl
 | _ :: R, i => ix_below m R (i + 1)
theorem cl_all (h : Cl c τ = true) (R : List aA) : (TS c τ R).all (fH.below (τ.length + 4)) = true := by
 have l := aF (and2 (and2 h))
 refine fP (fG h) (fP ?_ (fP rfl (fP (ix_below _ R 0) (fG (and2 h)))))
 exact below_mono (i := 10) (by lia) (by decide)
theorem w_keep {Q : V × fE -> Prop} {x : aA} (h : Cl c τ = true) (q : Q (.d x, TS c τ R)) : OW (keep (τ.length + 4) (.d x) (TS c (τ ++ υ) R)) Q := by
 have e : (TS c (τ ++ υ) R).take (τ.length + 4) = TS c τ R := by
  show c :: _ :: _ :: _ :: (τ ++ υ).take τ.length = _
  rw [List.take_left']; rfl
 unfold keep
 rw [e, cl_all h R]; exact q
theorem w_fin {Q : V × fE -> Prop} {x : aA} (h : Cl c τ = true) (q : Q (.d x, TS c τ R)) : OW (fin (τ.length + 4) (.d x) (TS c τ R)) Q := by
 have := w_keep (υ := []) (x := x) h q
 rw [aq] at this; exact this
theorem w_fina {Q : V × fE -> Prop} {x : aA} (h : Cl c τ = true) (q : Q (.d x, TS c τ R)) : OW (fin (τ.length + 4) (.d x) (TS c (τ ++ υ) R)) Q := w_keep h q
theorem w_finl {Q : V × fE -> Prop} {xs : List aA} (h : Cl c τ = true) (hx : (τ ++ υ)[j]? = some (.list xs)) (hj : au j τ.length = false) (q : Q (.d (.list xs), TS c τ R)) : OW (fin (τ.length + 4) (.l (j + 4)) (TS c (τ ++ υ) R)) Q := by
 have e : OW ((TS c (τ ++ υ) R)[j + 4]?) (λ d => OW (match cL d with
  | some xs => keep (τ.length + 4) (.d (.list xs)) (TS c (τ ++ υ) R)
  | none => some (.l (j + 4), TS c (τ ++ υ) R)) Q) := ow hx (w_keep h q)
 show OW (cond (au (j + 4) (τ.length + 4)) _ _) Q
 rw [show au (j + 4) (τ.length + 4) = false from bY.mpr λ z => bY.mp hj (a9.mpr (Nat.lt_of_add_lt_add_right (a9.mp z)))]
 show OW (((TS c (τ ++ υ) R)[j + 4]?).bind _) Q
 rw [show (TS c (τ ++ υ) R)[j + 4]? = _ from hx]
 exact w_keep h q
end
section
variable {c : fH} {τ : fE} {R R' : List aA} {n j : Nat} {t : Int} {r : aA} {Q : Ps}
theorem fO {xs : List aA} (h : xs.length <= 2 ^ 20) : fits xs = true := decide_eq_true h
theorem put_new (C : Cl c τ = true) (hl : R.length < 2 ^ 20) {row : aA} (ok : okK 8 row = true) (h2 : look row (ixOf R) = none) (k : Q (.d (.int R.length)) (TS c τ (R ++ [row]))) : fY (OO (n + 1)) 1 [.l 1, .d row] (TS c τ R) Q := by
 have f := fO (bt hl)
 have e1 : cmpD (TS c τ R) .In (.d row) (.l 3) = some false := by
  show ck (okY row 8) (look row (ixOf R)).isSome = _
  rw [show okY row 8 = true from ok, h2]; rfl
 have e2 : biD (TS c τ R) 0 [.l 2] = some (.d (.int R.length)) := by
  show ck (fits R) (num R.length) = _
  rw [f]; rfl
 have e3 : appendD (TS c τ R) (.l 2) (.d row) = some (c :: .inst 0 tabFs :: .list (R ++ [row]) :: .dict (ixOf R) :: τ) := by
  show ck (fits R) _ = _
  rw [f]; rfl
 have hx : ixOf (R ++ [row]) = ixOf R ++ [(row, .d (.int R.length))] := (ixFrom_push row 0 R).trans (by rw [bB])
 have e4 : setID (c :: .inst 0 tabFs :: .list (R ++ [row]) :: .dict (ixOf R) :: τ) (.l 3) (.d row) (.d (.int R.length)) = some (TS c τ (R ++ [row])) := by
  show (ck (okY row 8 && decide ((ixOf R).length <= 2 ^ 20)) _).or _ = _
  rw [show okY row 8 = true from ok, ixFrom_length, decide_eq_true (bt hl), putKV_app h2, <- hx]; rfl
 exact rg rfl <| w_cmp e1 (w_bi e2 (w_app e3 (w_setI e4 (w_fin C k))))
theorem put_ok (C : Cl c τ = true) (G : Good R) (hl : R.length < 2 ^ 20) {row : aA} (ok : okK 8 row = true) (k : ∀ R' t, Gr R R' 1 -> fN R' t = some row -> Q (.d (.int t)) (TS c τ R')) : fY (OO (n + 1)) 1 [.l 1, .d row] (TS c τ R) Q := by
 rcases look_ix (k := row) ok R 0 with ⟨h1, h2⟩ | ⟨j, h1, h2⟩
 · exact put_new C hl ok h2 (k _ _ ⟨dJ _ _, ⟨λ r hr => (ae.mp hr).elim (G.ok r) λ q => aM.mp q ▸ ok, List.nodup_append.mpr ⟨G.nd, bI .., λ a ha b hb e => h1 (aM.mp hb ▸ e ▸ ha)⟩⟩, c8 aH⟩ rowAt_new)
 · have e1 : cmpD (TS c τ R) .In (.d row) (.l 3) = some true := by
    show ck (okY row 8) (look row (ixOf R)).isSome = _
    rw [show okY row 8 = true from ok, h2]; rfl
   have e2 : subD (TS c τ R) (.l 3) (.d row) = some (.d (.int ((0 + j : Nat) : Int))) := by
    show (ck (okY row 8) ()).bind (λ _ => look row (ixOf R)) = _
    rw [show okY row 8 = true from ok]; exact h2
   exact rg rfl <| w_cmp e1 (fM e2 (w_fin C (k _ _ (.refl G) (rowAt_iff.mpr ⟨bj _, by rw [bB, bT]; exact h1⟩))))
end
section
variable {ρ : Loc} {σ : fE} {t : Tg} {it : It} {xs : List aA} {i j : Nat}
theorem loop_go {b : Loc -> fE -> Fs -> Prop} {Q : Fs} (I : Nat -> Loc -> fE -> Prop) (hI : ∀ i ρ σ, I i ρ σ -> it.at σ i = some xs[i]?)
 (step : ∀ i x ρ σ (K : Fs), xs[i]? = some x -> I i ρ σ -> (∀ ρ' σ', I (i + 1) ρ' σ' -> K .next ρ' σ') -> (∀ v ρ' σ', Q (.ret v) ρ' σ' -> K (.ret v) ρ' σ') -> OW (t.put ρ x) λ ρ₁ => b ρ₁ σ K) (fin : ∀ ρ σ, I xs.length ρ σ -> Q .next ρ σ) :
 ∀ (k i : Nat) (ρ : Loc) (σ : fE), i + k = xs.length -> I i ρ σ -> evLoop b t it k i ρ σ Q
 | 0, i, ρ, σ, hk, h => by
  have hk : i = xs.length := hk
  subst hk
  exact ow (hI _ ρ σ h) (by rw [bS (aW _)]; exact fin ρ σ h)
 | k + 1, i, ρ, σ, hk, h => ow (hI i ρ σ h) (by
  have hl : i < xs.length := hk ▸ Nat.lt_add_of_pos_right (Nat.succ_pos k)
  rw [aO hl]
  exact step i _ ρ σ _ (aO hl) h (λ ρ' σ' h => loop_go I hI step fin k (i + 1) ρ' σ' (by rw [dO]; exact hk) h) λ v ρ' σ' q => q)
theorem loop {b : Loc -> fE -> Fs -> Prop} {Q : Fs} (I : Nat -> Loc -> fE -> Prop) (hI : ∀ i ρ σ, I i ρ σ -> it.at σ i = some xs[i]?) (h0 : I 0 ρ σ)
 (step : ∀ i x ρ σ (K : Fs), xs[i]? = some x -> I i ρ σ -> (∀ ρ' σ', I (i + 1) ρ' σ' -> K .next ρ' σ') -> (∀ v ρ' σ', Q (.ret v) ρ' σ' -> K (.ret v) ρ' σ') -> OW (t.put ρ x) λ ρ₁ => b ρ₁ σ K) (fin : ∀ ρ σ, I xs.length ρ σ -> Q .next ρ σ) : evLoop b t it xs.length 0 ρ σ Q :=
 loop_go I hI step fin xs.length 0 ρ σ (bB _) h0
noncomputable def rngF : Nat -> Nat -> List aA
 | _, 0 => []
 | i, k + 1 => .int i :: rngF (i + 1) k
noncomputable abbrev rng (k : Nat) : List aA := rngF 0 k
theorem rng_length : ∀ (k i : Nat), (rngF i k).length = k
 | 0, _ => rfl
 | k + 1, i => congrArg eE (rng_length k (i + 1))
theorem rng_get : ∀ (k i j : Nat), (rngF i k)[j]? = cond (au j k) (some (.int ((i + j : Nat) : Int))) none
 | 0, _, _ => rfl
 | k + 1, i, 0 => rfl
 | k + 1, i, j + 1 => (rng_get k (i + 1) j).trans (by rw [dO, dY]; rfl)
theorem at_rng (k : Nat) (i : Nat) (σ : fE) : (It.rng k).at σ i = some (rng k)[i]? := by rw [rng_get, bB]; rfl
theorem comp_go {α : Type} {ps : List α} (f : α -> aA) {turn : Loc -> fE -> (fE -> Prop) -> Prop} {P : fE -> Prop} (g : α -> List aA) (N : Nat) (hit : ∀ acc i, it.at (σ ++ [fH.list acc]) i = some (ps.map f)[i]?)
 (step : ∀ p ∈ ps, ∀ (acc : List aA) (K : fE -> Prop), acc.length + (g p).length <= N -> K (σ ++ [.list (acc ++ g p)]) -> OW (t.put ρ (f p)) λ ρ₁ => turn ρ₁ (σ ++ [.list acc]) K) :
 ∀ (ys : List α) (k i : Nat) (acc : List aA), ps.drop i = ys -> ys.length = k -> acc.length + (ys.flatMap g).length <= N -> P (σ ++ [.list (acc ++ ys.flatMap g)]) -> fq turn t it ρ k i (σ ++ [.list acc]) P
 | [], k, i, acc, hd, hk, hN, q => by
  subst hk
  rw [List.flatMap_nil, aq] at q
  exact ow (hit acc i) (by rw [a6, bS (List.drop_eq_nil_iff.mp hd)]; exact q)
 | y :: ys, k, i, acc, hd, hk, hN, q => by
  subst hk
  have hi : ps[i]? = some y := by rw [<- List.head?_drop, hd]; rfl
  have hd2 : ps.drop (i + 1) = ys := by rw [<- List.tail_drop, hd]; rfl
  rw [bX, aH, <- dY] at hN
  refine ow (hit acc i) ?_
  rw [a6, hi]
  refine step y (a7 hi) acc _ (aE (ea ..) hN) (comp_go f g N hit step ys ys.length (i + 1) (acc ++ g y) hd2 rfl (by rw [aH]; exact hN) (by rw [aw, <- bX]; exact q))
theorem comp {α : Type} {ps : List α} (f : α -> aA) {turn : Loc -> fE -> (fE -> Prop) -> Prop} {P : fE -> Prop} {acc : List aA} (g : α -> List aA) (N : Nat) (hit : ∀ acc i, it.at (σ ++ [fH.list acc]) i = some (ps.map f)[i]?) (hN : acc.length + (ps.flatMap g).length <= N)
 (step : ∀ p ∈ ps, ∀ (acc : List aA) (K : fE -> Prop), acc.length + (g p).length <= N -> K (σ ++ [.list (acc ++ g p)]) -> OW (t.put ρ (f p)) λ ρ₁ => turn ρ₁ (σ ++ [.list acc]) K)
 (q : P (σ ++ [.list (acc ++ ps.flatMap g)])) : fq turn t it ρ ps.length 0 (σ ++ [.list acc]) P := comp_go f g N hit step ps ps.length 0 acc rfl rfl hN q
theorem compM {α : Type} {ps : List α} (f : α -> aA) {turn : Loc -> fE -> (fE -> Prop) -> Prop} {P : fE -> Prop} {acc : List aA} (g : α -> List aA) (N : Nat) (hit : ∀ acc i, it.at (σ ++ [fH.list acc]) i = some (ps.map f)[i]?) (hN : acc.length + (ps.flatMap g).length <= N)
 (step : ∀ p ∈ ps, ∀ (acc : List aA) (K : fE -> Prop), acc.length + (g p).length <= N -> K (σ ++ [.list (acc ++ g p)]) -> OW (t.put ρ (f p)) λ ρ₁ => turn ρ₁ (σ ++ [.list acc]) K)
 (q : P (σ ++ [.list (acc ++ ps.flatMap g)])) : fq turn t it ρ (ps.map f).length 0 (σ ++ [.list acc]) P := by
 rw [aG]; exact comp f g N hit hN step q
theorem flat_filter {α β : Type} (p : α -> Bool) (h : α -> β) : ∀ l : List α, (l.flatMap λ z => cond (p z) [h z] []) = (l.filter p).map h
 | [] => rfl
 | a :: r => by
  rw [bX, List.filter_cons, flat_filter p h r]
  cases p a <;> rfl
theorem fW {α β : Type} (h : α -> β) : ∀ l : List α, (l.flatMap λ z => [h z]) = l.map h
 | [] => rfl
 | a :: r => congrArg (h a :: ·) (fW h r)
theorem getc {α : Type} : ∀ (l : List α) (a : α), (l ++ [a])[l.length]? = some a
 | [], _ => rfl
 | _ :: l, a => getc l a
theorem setc {α : Type} : ∀ (l : List α) (a b : α), (l ++ [a]).set l.length b = l ++ [b]
 | [], _, _ => rfl
 | x :: l, a, b => congrArg (x :: ·) (setc l a b)
theorem w_appc {acc : List aA} {x : aA} {Q : fE -> Prop} (h : acc.length <= 2 ^ 20) (q : Q (σ ++ [.list (acc ++ [x])])) : OW (appendD (σ ++ [.list acc]) (.l σ.length) (.d x)) Q := by
 show OW ((((σ ++ [fH.list acc])[σ.length]?).bind λ c => (cL c).map λ xs => (σ.length, xs)).bind _) Q
 rw [getc]
 show OW (ck (fits acc) _) Q
 rw [fO h]
 show Q ((σ ++ [fH.list acc]).set σ.length (.list (acc ++ [x])))
 rw [setc]; exact q
theorem split_at {α : Type} : ∀ {l : List α} {i : Nat} {x : α}, l[i]? = some x -> l = l.take i ++ x :: l.drop (i + 1) ∧ l.take (i + 1) = l.take i ++ [x]
 | _ :: _, 0, _, h => by cases h; exact ⟨rfl, rfl⟩
 | a :: l, i + 1, x, h => have q := split_at (l := l) h; ⟨congrArg (a :: ·) q.1, congrArg (a :: ·) q.2⟩
theorem loopA {α : Type} {ps : List α} (f : α -> aA) {b : Loc -> fE -> Fs -> Prop} {Q : Fs} (I : List α -> Loc -> fE -> Prop) (hI : ∀ i done ρ σ, I done ρ σ -> it.at σ i = some (ps.map f)[i]?) (h0 : I [] ρ σ)
 (step : ∀ done p rest ρ σ (K : Fs), ps = done ++ p :: rest -> I done ρ σ -> (∀ ρ' σ', I (done ++ [p]) ρ' σ' -> K .next ρ' σ') -> (∀ v ρ' σ', Q (.ret v) ρ' σ' -> K (.ret v) ρ' σ') -> OW (t.put ρ (f p)) λ ρ₁ => b ρ₁ σ K) (fin : ∀ ρ σ, I ps ρ σ -> Q .next ρ σ) : evLoop b t it ps.length 0 ρ σ Q := by
 have e : (ps.map f).length = ps.length := aG ..
 have := loop (it := it) (xs := ps.map f) (b := b) (Q := Q) (t := t) (λ i => I (ps.take i)) (λ i ρ σ h => hI i _ ρ σ h) h0 (λ i x ρ σ K hx h k => by
  rw [a6] at hx
  obtain ⟨p, hp, rfl⟩ := aZ.mp hx
  have q := split_at hp
  rw [q.2] at k
  exact step _ p _ ρ σ K q.1 h k) (by rw [e, List.take_length]; exact fin)
 rw [e] at this; exact this
theorem loopM {α : Type} {ps : List α} (f : α -> aA) {b : Loc -> fE -> Fs -> Prop} {Q : Fs} (I : List α -> Loc -> fE -> Prop) (hI : ∀ i done ρ σ, I done ρ σ -> it.at σ i = some (ps.map f)[i]?) (h0 : I [] ρ σ)
 (step : ∀ done p rest ρ σ (K : Fs), ps = done ++ p :: rest -> I done ρ σ -> (∀ ρ' σ', I (done ++ [p]) ρ' σ' -> K .next ρ' σ') -> (∀ v ρ' σ', Q (.ret v) ρ' σ' -> K (.ret v) ρ' σ') -> OW (t.put ρ (f p)) λ ρ₁ => b ρ₁ σ K) (fin : ∀ ρ σ, I ps ρ σ -> Q .next ρ σ) : evLoop b t it (ps.map f).length 0 ρ σ Q := by
 rw [aG]; exact loopA f I hI h0 step fin
end
section
variable {c : fH} {τ σ : fE} {R R' : List aA} {n : Nat} {t k : Int} {r x y : aA} {xs ys : List aA} {Q : Ps} {as : List Int} {u : V}
theorem fv (h : fg σ u = some xs) (hf : fits xs = true) (hr : fN xs t = some r) : subD σ u (.d (.int t)) = some (.d r) := by
 show ((fg σ u).bind λ xs => atD xs (.int t)).or _ = _
 rw [h]
 show (atD xs (.int t)).or _ = _
 rw [atD_row hf hr]; rfl
theorem fQ (hf : fits R = true) (h : fN R t = some r) : subD (TS c τ R) (.l 2) (.d (.int t)) = some (.d r) := fv rfl hf h
theorem fits_cons {x : aA} (h : xs.length <= 1000) : fits (x :: xs) = true := fO (aE (bG h) (by decide))
theorem a0 (h : xs.length <= 1000) : subD σ (.d (.tuple (x :: xs))) (.d (.int 0)) = some (.d x) := fv (xs := x :: xs) rfl (fits_cons h) rfl
theorem a1 (h : (y :: xs).length <= 1000) : subD σ (.d (.tuple (x :: y :: xs))) (.d (.int 1)) = some (.d y) := fv (xs := x :: y :: xs) rfl (fits_cons h) rfl
theorem ok_ints : ∀ ys : List Int, okXs (ys.map aS) 8 = true
 | [] => rfl
 | _ :: r => ok_ints r
theorem any_ints (x : Int) : ∀ ys : List Int, ((ys.map aS).any λ y => eqD y (.int x)) = decide (x ∈ ys)
 | [] => (decide_eq_false cf).symm
 | a :: r => by
  show (decide (a = x) || (r.map aS).any λ y => eqD y (.int x)) = _
  rw [any_ints x r]
  by_cases h : a = x
  · rw [decide_eq_true h, h]; exact (decide_eq_true (bu ..)).symm
  · rw [decide_eq_false h, Bool.false_or]
    exact decide_eq_decide.mpr ⟨cV _, λ m => (aP.mp m).resolve_left λ e => h e.symm⟩
theorem in_ints (x : Int) (ys : List Int) (h : fg σ u = some (ys.map .int)) : cmpD σ .In (.d (.int x)) u = some (decide (x ∈ ys)) := by
 show ((fg σ u).bind λ xs => ck (okXs xs 8) (xs.any λ y => eqD y (.int x))).or _ = _
 rw [h]
 show (ck (okXs (ys.map .int) 8) ((ys.map aS).any λ y => eqD y (.int x))).or _ = _
 rw [ok_ints, any_ints]; rfl
def Kd (R : List aA) (t k : Int) : Prop := ∃ xs, fN R t = some (.tuple (.int k :: xs)) ∧ xs.length <= 10
inductive Atoms (R : List aA) (t : Int) : List Int -> Prop
 | one {k : Int} : t ≠ 2 -> k ≠ 6 -> Kd R t k -> Atoms R t [t]
 | many {as : List Int} : t ≠ 2 -> as.length <= 100 -> fN R t = some (.tuple [.int 6, .tuple (as.map .int)]) -> as.length ≠ 1 -> Atoms R t as
theorem Kd.pre (h : Kd R t k) (p : R <+: R') : Kd R' t k := let ⟨xs, h1, h2⟩ := h; ⟨xs, fK p h1, h2⟩
theorem Atoms.pre (h : Atoms R t as) (p : R <+: R') : Atoms R' t as := h.casesOn (λ h0 h1 h2 => .one h0 h1 (h2.pre p)) λ h0 h1 h2 h3 => .many h0 h1 (fK p h2) h3
theorem le10 {n : Nat} (h : n <= 10) : n <= 1000 := aE h (by decide)
theorem parts_of_ok (C : Cl c τ = true) (hf : fits R = true) (h : Atoms R t as) (q : Q (.d (.tuple (as.map .int))) (TS c τ R)) : fY (OO (n + 1)) 10 [.l 1, .d (.int t)] (TS c τ R) Q := by
 cases h with
 | @one k h0 h1 h2 =>
  obtain ⟨xs, h2, h3⟩ := h2
  exact rg rfl <| cF (c := decide (t = 2)) (decide_eq_false h0) (fM (fQ hf h2) (fM (a0 (le10 h3)) (cF (c := decide (k = 6)) (decide_eq_false h1) (w_fin C q))))
 | many h0 h1 h2 h3 => exact rg rfl <| cF (c := decide (t = 2)) (decide_eq_false h0) (fM (fQ hf h2) (w_fin C q))
noncomputable def wholeOf (k : Int) : Int := cond (decide (k = 3)) 6 (cond (decide (k = 18)) 6 (cond (decide (k = 4)) 7 (-1)))
theorem whole_ok (C : Cl c τ = true) (hx : xs.length <= 10) (h5 : k ≠ 5) (q : Q (.d (.int (wholeOf k))) (TS c τ R)) : fY (OO (n + 1)) 11 [.d (.tuple (.int k :: xs))] (TS c τ R) Q := by
 unfold wholeOf at q
 refine rg rfl <| fM (a0 (le10 hx)) ?_
 cases h3 : decide (k = 3) with
 | true => rw [h3] at q; exact cT h3 (cT h3 (w_fin C q))
 | false =>
  rw [h3] at q
  refine cF h3 ?_
  cases h18 : decide (k = 18) with
  | true => rw [h18] at q; exact cT h18 (w_fin C q)
  | false =>
   rw [h18] at q
   refine cF h18 ?_
   cases h4 : decide (k = 4) with
   | true => rw [h4] at q; exact cT h4 (w_fin C q)
   | false => rw [h4] at q; exact cF h4 (cF (c := decide (k = 5)) (decide_eq_false h5) (w_fin C q))
end
section
variable {c : fH} {τ σ : fE} {R R' : List aA} {n j g : Nat} {t k x : Int} {r y : aA} {xs : List aA} {Q : Ps} {as bs ks : List Int}
structure Plain (R : List aA) (t k : Int) : Prop where
 n5 : k ≠ 5
 n6 : k ≠ 6
 row : (Kd R t k ∧ k ∉ [2, 3, 4, 5, 8]) ∨ ∃ y, fN R t = some (.tuple [.int k, y, .int 0])
theorem Plain.kd (h : Plain R t k) : Kd R t k := h.row.elim (λ h => h.1) λ ⟨y, h⟩ => ⟨_, h, (by decide : 2 <= 10)⟩
theorem Plain.pre (h : Plain R t k) (p : R <+: R') : Plain R' t k := ⟨h.n5, h.n6, h.row.imp (λ q => ⟨q.1.pre p, q.2⟩) λ ⟨y, h⟩ => ⟨y, fK p h⟩⟩
theorem marked {b : Bool} (h : decide (k ∈ [2, 3, 4, 5, 8]) = b) : (([2, 3, 4, 5, 8].map aS).any λ y => eqD y (.int k)) = b := (any_ints k [2, 3, 4, 5, 8]).trans h
theorem twin_ok (C : Cl c τ = true) (hf : fits R = true) (h : Plain R t k) (q : Q (.d (.int (-1))) (TS c τ R)) : fY (OO (n + 1)) 12 [.l 1, .d (.int t)] (TS c τ R) Q := by
 rcases h.row with ⟨⟨xs, h1, h2⟩, h3⟩ | ⟨y, h1⟩
 · exact rg rfl <| fM (fQ hf h1) (fM (a0 (le10 h2)) (cF (marked (decide_eq_false h3)) (cF (marked (decide_eq_false h3)) (w_fin C q))))
 · refine rg rfl <| fM (fQ hf h1) ?_
   cases h3 : decide (k ∈ [2, 3, 4, 5, 8]) with
   | true => exact cT (marked h3) (w_fin C q)
   | false => exact cF (marked h3) (cF (marked h3) (w_fin C q))
noncomputable def fb : List Int -> List (aA × V)
 | [] => []
 | k :: r => (.int k, .d (.int 1)) :: fb r
noncomputable def addK : List Int -> Int -> List Int
 | [], k => [k]
 | a :: r, k => cond (decide (a = k)) (a :: r) (a :: addK r k)
noncomputable def addAll (ks as : List Int) : List Int := as.foldl addK ks
theorem look_got (k : Int) : ∀ ks : List Int, (look (.int k) (fb ks)).isSome = decide (k ∈ ks)
 | [] => (decide_eq_false cf).symm
 | a :: r => by
  show (cond (decide (a = k)) _ (look (.int k) (fb r))).isSome = _
  by_cases h : a = k
  · rw [decide_eq_true h, h]; exact (decide_eq_true (bu ..)).symm
  · rw [decide_eq_false h]
    exact (look_got k r).trans (decide_eq_decide.mpr ⟨cV _, λ m => (aP.mp m).resolve_left λ e => h e.symm⟩)
theorem put_got (k : Int) : ∀ ks : List Int, putKV (.int k) (.d (.int 1)) (fb ks) = fb (addK ks k)
 | [] => rfl
 | a :: r => by
  show cond (decide (a = k)) _ (_ :: putKV (.int k) _ (fb r)) = fb (cond (decide (a = k)) _ _)
  cases decide (a = k) with
  | true => rfl
  | false => exact congrArg (_ :: ·) (put_got k r)
theorem mem_addK : ∀ {ks : List Int}, x ∈ addK ks k ↔ x ∈ ks ∨ x = k
 | [] => aM.trans ⟨.inr, λ h => h.elim (λ m => nomatch m) id⟩
 | a :: r => by
  show x ∈ cond (decide (a = k)) _ _ ↔ _
  by_cases h : a = k
  · rw [decide_eq_true h]; subst h; exact ⟨.inl, λ q => q.elim id λ e => e ▸ bu ..⟩
  · rw [decide_eq_false h]; exact aP.trans ((or_congr_right mem_addK).trans (or_assoc.symm.trans (or_congr_left aP.symm)))
theorem mem_addAll : ∀ {as ks : List Int}, x ∈ addAll ks as ↔ x ∈ ks ∨ x ∈ as
 | [], ks => ⟨.inl, λ h => h.elim id λ m => nomatch m⟩
 | a :: r, ks => (mem_addAll (as := r)).trans ((or_congr_left mem_addK).trans (or_assoc.trans (or_congr_right aP.symm)))
theorem nodup_addK : ∀ {ks : List Int}, ks.Nodup -> (addK ks k).Nodup
 | [], _ => bI ..
 | a :: r, h => by
  show List.Nodup (cond (decide (a = k)) (a :: r) (a :: addK r k))
  by_cases e : a = k
  · rw [decide_eq_true e]; exact h
  · rw [decide_eq_false e]; exact bq.mpr ⟨λ m => (mem_addK.mp m).elim (bq.mp h).1 e, nodup_addK (bq.mp h).2⟩
theorem nodup_addAll : ∀ {as ks : List Int}, ks.Nodup -> (addAll ks as).Nodup
 | [], _, h => h
 | _ :: r, _, h => nodup_addAll (as := r) (nodup_addK h)
theorem addAll_app : addAll ks (as ++ bs) = addAll (addAll ks as) bs := List.foldl_append
theorem in_got (hg : σ[g]? = some (.dict (fb ks))) {b : Bool} (h : decide (x ∈ ks) = b) : cmpD σ .In (.d (.int x)) (.l g) = some b := by
 show (((σ[g]?).bind cL).bind λ xs => ck (okXs xs 8) (xs.any λ y => eqD y (.int x))).or (((σ[g]?).bind cD).bind λ kvs => ck true (look (.int x) kvs).isSome) = _
 rw [hg]
 exact congrArg some ((look_got x ks).trans h)
theorem nin_got (hg : σ[g]? = some (.dict (fb ks))) {b : Bool} (h : decide (x ∈ ks) = b) : cmpD σ .NotIn (.d (.int x)) (.l g) = some (!b) := by
 show (cmpD σ .In (.d (.int x)) (.l g)).map (!·) = _
 rw [in_got hg h]; rfl
theorem beside_ok (C : Cl c τ = true) (hg : τ[j]? = some (.dict (fb ks))) (hf : fits R = true) (h : Plain R t k) (hp : (-1 : Int) ∉ ks) (q : Q (.d (.bool (!decide (wholeOf k ∈ ks)))) (TS c τ R)) :
 fY (OO (n + 2)) 14 [.l 1, .l (j + 4), .d (.int t)] (TS c τ R) Q := by
 obtain ⟨xs, h1, h2⟩ := h.kd
 exact rg rfl <| twin_ok C hf h (w_cmp (in_got (σ := TS c τ R) hg (decide_eq_false hp)) (fM (fQ hf h1) (whole_ok C h2 h.n5 (w_cmp (nin_got (σ := TS c τ R) hg rfl) (w_fin C q)))))
theorem top_ok (C : Cl c τ = true) (hg : τ[j]? = some (.dict (fb ks))) (h : (cond (decide (0 ∈ ks)) 0 (cond (decide (13 ∈ ks)) 13 (cond (decide (1 ∈ ks)) 1 (-1)))) = t) (q : Q (.d (.int t)) (TS c τ R)) : fY (OO (n + 1)) 15 [.l (j + 4)] (TS c τ R) Q := by
 have m := λ (x : Int) {b : Bool} (h : decide (x ∈ ks) = b) => in_got (σ := TS c τ R) (g := j + 4) hg h
 cases h0 : decide (0 ∈ ks) with
 | true => rw [h0] at h; obtain rfl := h; exact rg rfl <| w_cmp (m 0 h0) (w_fin C q)
 | false =>
  rw [h0] at h
  cases h13 : decide (13 ∈ ks) with
  | true => rw [h13] at h; obtain rfl := h; exact rg rfl <| w_cmp (m 0 h0) (w_cmp (m 13 h13) (w_fin C q))
  | false =>
   rw [h13] at h
   cases h1 : decide (1 ∈ ks) with
   | true => rw [h1] at h; obtain rfl := h; exact rg rfl <| w_cmp (m 0 h0) (w_cmp (m 13 h13) (w_cmp (m 1 h1) (w_fin C q)))
   | false => rw [h1] at h; obtain rfl := h; exact rg rfl <| w_cmp (m 0 h0) (w_cmp (m 13 h13) (w_cmp (m 1 h1) (w_fin C q)))
theorem join_ok (C : Cl c τ = true) (hg : τ[j]? = some (.dict (fb ks))) (h8 : (8 : Int) ∉ ks) (h14 : (14 : Int) ∉ ks) (q : Q (.d .none) (TS c τ R)) : fY (OO (n + 1)) 13 [.l (j + 4)] (TS c τ R) Q :=
 rg rfl <| w_cmp (in_got (σ := TS c τ R) hg (decide_eq_false h8)) (w_cmp (in_got (σ := TS c τ R) hg (decide_eq_false h14)) (w_fin C q))
end
section
variable {a x y : Int} {l m r X Y A B : List Int}
theorem insI_perm (x : Int) : ∀ l : List Int, (insI x l).Perm (x :: l)
 | [] => .refl _
 | a :: r => by
  show (if x <= a then x :: a :: r else a :: insI x r).Perm _
  split
  · exact .refl _
  · exact ((insI_perm x r).cons a).trans (.swap x a r)
theorem isortI_perm : ∀ l : List Int, (isortI l).Perm l
 | [] => .refl _
 | a :: r => (insI_perm a (isortI r)).trans ((isortI_perm r).cons a)
theorem mem_isortI : y ∈ isortI l ↔ y ∈ l := (isortI_perm l).mem_iff
theorem isortI_length (l : List Int) : (isortI l).length = l.length := (isortI_perm l).length_eq
theorem insI_sorted : ∀ {l : List Int}, l.Pairwise (· < ·) -> x ∉ l -> (insI x l).Pairwise (· < ·)
 | [], _, _ => bI ..
 | a :: r, h, hx => by
  have h1 := (bD.mp h).1
  have h2 := (bD.mp h).2
  show (if x <= a then x :: a :: r else a :: insI x r).Pairwise (· < ·)
  have ne : x ≠ a := λ e => hx (e ▸ bu ..)
  split
  · exact .cons (λ y hy => (aP.mp hy).elim (λ e => e ▸ by lia) λ hy => Int.lt_trans (by lia) (h1 y hy)) h
  · exact .cons (λ y hy => (aP.mp ((insI_perm x r).mem_iff.mp hy)).elim (λ e => e ▸ by lia) (h1 y)) (insI_sorted h2 λ m => hx (.tail _ m))
theorem fj : ∀ {l : List Int}, l.Nodup -> (isortI l).Pairwise (· < ·)
 | [], _ => .nil
 | a :: r, h => insI_sorted (fj (bq.mp h).2) λ m => (bq.mp h).1 (mem_isortI.mp m)
theorem sorted_ext : ∀ {l m : List Int}, l.Pairwise (· < ·) -> m.Pairwise (· < ·) -> (∀ x, x ∈ l ↔ x ∈ m) -> l = m
 | [], m, _, _, h => (List.eq_nil_iff_forall_not_mem.mpr λ a ha => nomatch (h a).mpr ha).symm
 | a :: r, [], _, _, h => nomatch (h a).mp (.head _)
 | a :: r, b :: s, hl, hm, h => by
  have l1 := (bD.mp hl).1
  have m1 := (bD.mp hm).1
  have l2 := (bD.mp hl).2
  have m2 := (bD.mp hm).2
  have e : a = b := by
   rcases aP.mp ((h a).mp (.head _)) with e | e
   · exact e
   · rcases aP.mp ((h b).mpr (.head _)) with e' | e'
     · exact e'.symm
     · exact (Int.lt_irrefl _ (Int.lt_trans (l1 b e') (m1 a e))).elim
  subst e
  have dr : ∀ {t : List Int} {x : Int}, (∀ y ∈ t, a < y) -> x ∈ t -> x ≠ a := λ h m e => Int.lt_irrefl _ (e ▸ h _ m)
  rw [sorted_ext l2 m2 λ x => ⟨λ hx => (aP.mp ((h x).mp (.tail _ hx))).resolve_left (dr l1 hx), λ hx => (aP.mp ((h x).mpr (.tail _ hx))).resolve_left (dr m1 hx)⟩]
theorem ints_map : ∀ l : List Int, ints? (l.map .int) = some l
 | [] => rfl
 | a :: r => by show (ints? (r.map .int)).map (a :: ·) = _; rw [ints_map r]; rfl
def Kept (X : List Int) (t : Int) : Prop := (t = 16 ∨ t = 17) -> (6 : Int) ∉ X
noncomputable def keepB (X : List Int) (t : Int) : Bool := !((decide (t = 16) || decide (t = 17)) && decide ((6 : Int) ∈ X))
theorem keepB_iff : keepB X x = true ↔ Kept X x := by
 unfold keepB Kept
 by_cases h : (6 : Int) ∈ X
 · rw [decide_eq_true h, Bool.and_true, cw, Bool.or_eq_false_iff]
   exact ⟨λ q e => absurd e (not_or.mpr ⟨of_decide_eq_false q.1, of_decide_eq_false q.2⟩), λ q => have q := not_or.mp λ e => q e h; ⟨decide_eq_false q.1, decide_eq_false q.2⟩⟩
 · rw [decide_eq_false h, Bool.and_false]; exact ⟨λ _ _ => h, λ _ => rfl⟩
noncomputable def uni (X : List Int) : List Int := cond (decide (0 ∈ X)) [0] (cond (decide (1 ∈ X)) [1] (isortI ((addAll [] X).filter (keepB X))))
theorem uni_cases {C : List Int -> Prop} (h0 : 0 ∈ X -> C [0]) (h1 : 0 ∉ X -> 1 ∈ X -> C [1]) (h2 : 0 ∉ X -> 1 ∉ X -> C (isortI ((addAll [] X).filter (keepB X)))) : C (uni X) := by
 unfold uni
 by_cases a : 0 ∈ X
 · rw [decide_eq_true a]; exact h0 a
 · rw [decide_eq_false a]
   by_cases b : 1 ∈ X
   · rw [decide_eq_true b]; exact h1 a b
   · rw [decide_eq_false b]; exact h2 a b
theorem uni_sorted (X : List Int) : (uni X).Pairwise (· < ·) :=
 uni_cases (λ _ => bI ..) (λ _ _ => bI ..) λ _ _ => fj ((nodup_addAll .nil).filter _)
def InU (X : List Int) (x : Int) : Prop := x ∈ X ∧ (x ≠ 0 -> 0 ∉ X ∧ (x ≠ 1 -> 1 ∉ X ∧ Kept X x))
theorem mem_all : x ∈ addAll [] X ↔ x ∈ X := mem_addAll.trans ⟨λ h => h.elim (λ m => nomatch m) id, .inr⟩
theorem mem_uni : x ∈ uni X ↔ InU X x := by
 refine uni_cases (C := λ u => x ∈ u ↔ InU X x) (λ h0 => aM.trans ⟨λ e => e ▸ ⟨h0, λ q => (q rfl).elim⟩, λ q => Decidable.byContradiction λ n => (q.2 n).1 h0⟩)
  (λ h0 h1 => aM.trans ⟨λ e => e ▸ ⟨h1, λ _ => ⟨h0, λ q => (q rfl).elim⟩⟩, λ q => Decidable.byContradiction λ n => ((q.2 λ e => h0 (e ▸ q.1)).2 n).1 h1⟩)
  λ h0 h1 => mem_isortI.trans (bh.trans ⟨λ q => ⟨mem_all.mp q.1, λ _ => ⟨h0, λ _ => ⟨h1, keepB_iff.mp q.2⟩⟩⟩, λ q => ⟨mem_all.mpr q.1, keepB_iff.mpr ((q.2 λ e => h0 (e ▸ q.1)).2 λ e => h1 (e ▸ q.1)).2⟩⟩)
theorem uni_ext (h : ∀ x, InU X x ↔ InU Y x) : uni X = uni Y := sorted_ext (uni_sorted X) (uni_sorted Y) λ x => mem_uni.trans ((h x).trans mem_uni.symm)
theorem InU.congr (h : ∀ x, x ∈ X ↔ x ∈ Y) (q : InU X x) : InU Y x := ⟨(h x).mp q.1, λ n => have q := q.2 n; ⟨λ z => q.1 ((h 0).mpr z), λ n => have q := q.2 n; ⟨λ z => q.1 ((h 1).mpr z), λ e z => q.2 e ((h 6).mpr z)⟩⟩⟩
theorem uni_congr (h : ∀ x, x ∈ X ↔ x ∈ Y) : uni X = uni Y := uni_ext λ x => ⟨.congr h, .congr λ x => (h x).symm⟩
theorem uni_ne (h : X ≠ []) : uni X ≠ [] := λ e => by
 have no : ∀ x, ¬ InU X x := λ x q => nomatch e ▸ mem_uni.mpr q
 have n0 : 0 ∉ X := λ h => no 0 ⟨h, λ q => (q rfl).elim⟩
 have n1 : 1 ∉ X := λ h => no 1 ⟨h, λ _ => ⟨n0, λ q => (q rfl).elim⟩⟩
 have n6 : 6 ∉ X := λ h => no 6 ⟨h, λ _ => ⟨n0, λ _ => ⟨n1, λ e => absurd e (by decide)⟩⟩⟩
 obtain ⟨a, ha⟩ := List.exists_mem_of_ne_nil X h
 exact no a ⟨ha, λ _ => ⟨n0, λ _ => ⟨n1, λ _ => n6⟩⟩⟩
theorem uni_sub (h : x ∈ uni X) : x ∈ X := (mem_uni.mp h).1
theorem uni_one (x : Int) : uni [x] = [x] := sorted_ext (uni_sorted _) (bI ..) λ y => mem_uni.trans ⟨λ q => q.1, λ m => by
 obtain rfl := aM.mp m
 exact ⟨m, λ h => ⟨λ z => h (aM.mp z).symm, λ h => ⟨λ z => h (aM.mp z).symm, λ e z => by have := aM.mp z; lia⟩⟩⟩⟩
theorem uni_uni (A B : List Int) : uni (A ++ uni B) = uni (A ++ B) := by
 have ap : ∀ {x : Int} {C : List Int}, x ∈ A ++ C ↔ x ∈ A ∨ x ∈ C := ae
 have u0 : 0 ∈ uni B ↔ 0 ∈ B := ⟨uni_sub, λ h => mem_uni.mpr ⟨h, λ q => (q rfl).elim⟩⟩
 have u1 : 0 ∉ B -> (1 ∈ uni B ↔ 1 ∈ B) := λ n0 => ⟨uni_sub, λ h => mem_uni.mpr ⟨h, λ _ => ⟨n0, λ q => (q rfl).elim⟩⟩⟩
 have u6 : 0 ∉ B -> 1 ∉ B -> (6 ∈ uni B ↔ 6 ∈ B) := λ n0 n1 => ⟨uni_sub, λ h => mem_uni.mpr ⟨h, λ _ => ⟨n0, λ _ => ⟨n1, λ e => absurd e (by decide)⟩⟩⟩⟩
 refine uni_ext λ x => ⟨λ q => ⟨ap.mpr ((ap.mp q.1).imp id uni_sub), λ n => ?_⟩, λ q => ⟨ap.mpr ((ap.mp q.1).imp id λ m => ?_), λ n => ?_⟩⟩
 · have q1 := q.2 n
   have n0 : 0 ∉ B := λ m => q1.1 (ap.mpr (.inr (u0.mpr m)))
   refine ⟨λ m => q1.1 (ap.mpr ((ap.mp m).imp id u0.mpr)), λ n => have q2 := q1.2 n; ⟨λ m => q2.1 (ap.mpr ((ap.mp m).imp id (u1 n0).mpr)), λ e m => q2.2 e (ap.mpr ((ap.mp m).imp id (u6 n0 λ m => q2.1 (ap.mpr (.inr ((u1 n0).mpr m)))).mpr))⟩⟩
 · exact mem_uni.mpr ⟨m, λ n => have q1 := q.2 n; ⟨λ m => q1.1 (ap.mpr (.inr m)), λ n => have q2 := q1.2 n; ⟨λ m => q2.1 (ap.mpr (.inr m)), λ e m => q2.2 e (ap.mpr (.inr m))⟩⟩⟩
 · have q1 := q.2 n
   exact ⟨λ m => q1.1 (ap.mpr ((ap.mp m).imp id uni_sub)), λ n => have q2 := q1.2 n; ⟨λ m => q2.1 (ap.mpr ((ap.mp m).imp id uni_sub)), λ e m => q2.2 e (ap.mpr ((ap.mp m).imp id uni_sub))⟩⟩
end
section
variable {c : fH} {τ υ σ : fE} {R : List aA} {i : Nat} {t k x : Int} {r : aA} {xs : List aA} {as ks : List Int} {v : V}
structure UOk (R : List aA) (t : Int) : Prop where
 plain : ∃ k, Plain R t k ∧ k ≠ 18 ∧ (k = 3 ↔ t = 16 ∨ t = 17)
 pos : 0 <= t
 no : t ∉ [8, 13, 14, 7, 2]
theorem addK_length (k : Int) : ∀ ks : List Int, (addK ks k).length <= ks.length + 1
 | [] => aW _
 | a :: r => by
  show (cond (decide (a = k)) (a :: r) (a :: addK r k)).length <= _
  cases decide (a = k) with
  | true => exact eM _
  | false => exact bG (addK_length k r)
theorem addAll_length : ∀ (as ks : List Int), (addAll ks as).length <= ks.length + as.length
 | [], ks => aW _
 | a :: r, ks => aE (addAll_length r (addK ks a)) (by have := addK_length a ks; show _ <= _ + (r.length + 1); lia)
theorem got_length : ∀ ks : List Int, (fb ks).length = ks.length
 | [] => rfl
 | _ :: r => congrArg eE (got_length r)
theorem got_keys : ∀ ks : List Int, (fb ks).map (·.1) = ks.map aS
 | [] => rfl
 | _ :: r => congrArg (_ :: ·) (got_keys r)
theorem got_below (m : Nat) : ∀ ks : List Int, (fH.dict (fb ks)).below m = true
 | [] => rfl
 | _ :: r => got_below m r
theorem set_got (hl : ks.length <= 2 ^ 20) : setID (TS c (τ ++ [.dict (fb ks)]) R) (.l (τ.length + 4)) (.d (.int k)) (.d (.int 1)) = some (TS c (τ ++ [.dict (fb (addK ks k))]) R) := by
 show (((((τ ++ [fH.dict (fb ks)])[τ.length]?).bind λ c => (cD c).map λ xs => (τ.length + 4, xs)).bind _)).or _ = _
 rw [getc]
 show (ck (true && decide ((fb ks).length <= 2 ^ 20)) (c :: _ :: _ :: _ :: (τ ++ [fH.dict (fb ks)]).set τ.length (.dict (putKV (.int k) (.d (.int 1)) (fb ks))))).or _ = _
 rw [got_length, decide_eq_true hl, put_got, setc]; rfl
noncomputable def base : List aA := (match k_FIRST_ROWS with | .tuple xs => xs | _ => []) ++ [.tuple [.int 3, .str (aD "a"), .int 0], .tuple [.int 3, .str (aD "b"), .int 0], .tuple [.int 4, .int 1, .int 0], .tuple [.int 10, .int 0]]
theorem base_2 : fN base 2 = some (.tuple [.int 1, .str (aD "never")]) := rfl
theorem base_atoms (B : base <+: R) (t k : Int) (xs : List aA) (h : fN base t = some (.tuple (.int k :: xs))) (hl : xs.length <= 10) (h2 : t ≠ 2) (h6 : k ≠ 6) : Atoms R t [t] := .one h2 h6 ⟨xs, fK B h, hl⟩
theorem at_seq {v : V} {xs : List aA} (h : fg σ v = some xs) (i : Nat) : (It.seq v).at σ i = some xs[i]? := by
 show (fg σ v).map _ = _; rw [h]; rfl
theorem len_seq {v : V} {xs : List aA} (h : fg σ v = some xs) : (It.seq v).len σ = some xs.length := by
 show (fg σ v).map _ = _; rw [h]; rfl
theorem seq_push {v : V} {xs : List aA} (h : fg (TS c τ R) v = some xs) : fg (TS c (τ ++ υ) R) v = some xs := by
 cases v with
 | d x => exact h
 | l i =>
  have h : ((TS c τ R)[i]?).bind cL = some xs := h
  obtain ⟨d, h1, h2⟩ := bK.mp h
  show ((TS c τ R ++ υ)[i]?).bind cL = some xs
  rw [bM (aR.mp h1).1, h1]; exact h2
theorem ok_union (X : List Int) : okK 8 (.tuple [.int 6, .tuple (X.map .int)]) = true := by
 have : ∀ X : List Int, okYs (X.map aS) 6 = true := λ X => by
  induction X with
  | nil => rfl
  | cons a r ih => exact ih
 show (true && (okYs (X.map aS) 6 && true)) = true
 rw [this]; rfl
theorem kept_eq (h : UOk R x) (k7 : (7 : Int) ∉ ks) (km : (-1 : Int) ∉ ks) : ∃ k, Plain R x k ∧ (!decide (wholeOf k ∈ ks)) = keepB ks x := by
 obtain ⟨k, hp, h18, h3⟩ := h.plain
 refine ⟨k, hp, ?_⟩
 unfold keepB wholeOf
 by_cases c3 : k = 3
 · have : (decide (x = 16) || decide (x = 17)) = true := (cX _ _).mpr ((h3.mp c3).imp decide_eq_true decide_eq_true)
   rw [decide_eq_true c3, this, Bool.true_and]; rfl
 · have : (decide (x = 16) || decide (x = 17)) = false := Bool.or_eq_false_iff.mpr ⟨decide_eq_false λ e => c3 (h3.mpr (.inl e)), decide_eq_false λ e => c3 (h3.mpr (.inr e))⟩
   rw [decide_eq_false c3, decide_eq_false h18, this, Bool.false_and]
   show (!decide (cond (decide (k = 4)) 7 (-1) ∈ ks)) = true
   cases decide (k = 4) with
   | true => exact congrArg (!·) (decide_eq_false k7)
   | false => exact congrArg (!·) (decide_eq_false km)
end
section
variable {c : fH} {τ σ : fE} {R : List aA} {n i : Nat} {as ks : List Int} {v : V}
noncomputable abbrev ρu (v : V) (m : Nat) (a b : Option V) : Loc := [some (.l 1), some v, some (.l m), a, b, none, none, none, none, none]
theorem union_loop {K : Fs} (C : Cl c τ = true) (hf : fits R = true) {ps : List (Int × List Int)} (hv : fg (TS c τ R) v = some (ps.map λ p => .int p.1)) (ha : ∀ p ∈ ps, Atoms R p.1 p.2) (hn2 : (ps.flatMap (·.2)).length <= 1000)
 (q : ∀ a b : Option V, K .next (ρu v (τ.length + 4) a b) (TS c (τ ++ [.dict (fb (addAll [] (ps.flatMap (·.2))))]) R)) :
 evX (OO (n + 2)) (.forL (.one 3) (.ex ()) (.v 1) [.forL (.one 4) (.ex ()) (.mk (.call 10) [(.v 0), (.v 3)]) [.setI (.v 2) (.v 4) (.c (.int 1))]]) (ρu v (τ.length + 4) none none) (TS c (τ ++ [.dict []]) R) K := by
 have CG : ∀ ks, Cl c (τ ++ [.dict (fb ks)]) = true := λ ks => fh C (fP (got_below _ ks) rfl)
 refine ow (o := It.len _ _) ((len_seq (seq_push hv)).trans (congrArg some (aG ..))) ?_
 refine loopA (λ p : Int × List Int => .int p.1) (λ done ρ σ => ∃ a b : Option V, ρ = ρu v (τ.length + 4) a b ∧ σ = TS c (τ ++ [.dict (fb (addAll [] (done.flatMap (·.2))))]) R) (λ i done ρ σ ⟨a, b, _, h⟩ => h ▸ at_seq (seq_push hv) i) ⟨none, none, rfl, rfl⟩ (λ done p rest ρ σ K hp ⟨a, b, hρ, hσ⟩ kn kr => ?_) λ ρ σ ⟨a, b, hρ, hσ⟩ => hρ ▸ hσ ▸ q a b
 subst hρ hσ
 have hd : (done.flatMap (·.2)).length + p.2.length <= 1000 := by
  rw [hp, ew, bX, aH, aH] at hn2; lia
 refine parts_of_ok (n := n + 1) (CG _) hf (ha p (hp ▸ aV _ (.head _))) ?_
 refine loopM aS (λ d2 ρ σ => ∃ b : Option V, ρ = ρu v (τ.length + 4) (some (.d (.int p.1))) b ∧ σ = TS c (τ ++ [.dict (fb (addAll [] (done.flatMap (·.2) ++ d2)))]) R) (λ i d2 ρ σ _ => rfl) ⟨b, rfl, by rw [aq]⟩ (λ d2 z r2 ρ σ K hz ⟨b, hρ, hσ⟩ kn kr => ?_) λ ρ σ ⟨b, hρ, hσ⟩ => ?_
 · subst hρ hσ
   have hl : (addAll [] (done.flatMap (·.2) ++ d2)).length <= 2 ^ 20 := by
    have h1 := addAll_length (done.flatMap (·.2) ++ d2) []
    have h2 : p.2.length = d2.length + (r2.length + 1) := by rw [hz, aH]; rfl
    rw [aH] at h1
    have h1 : (addAll [] (done.flatMap (·.2) ++ d2)).length <= 0 + _ := h1
    lia
   exact w_setI (set_got hl) (kn _ _ ⟨_, rfl, by rw [<- aw, addAll_app (as := done.flatMap (·.2) ++ d2)]; rfl⟩)
 · subst hρ hσ
   exact kn _ _ ⟨_, _, rfl, by rw [ew, bX, List.flatMap_nil, aq]⟩
end
section
variable {c : fH} {τ υ σ : fE} {R R' : List aA} {n i j g : Nat} {t k x : Int} {xs ys : List aA} {Q : Ps} {ks X : List Int} {v : V}
theorem sort_got (hl : ks.length < 64) (hg : σ[g]? = some (.dict (fb ks))) : biD σ 3 [.l g] = some (.d (.list ((isortI ks).map .int))) := by
 show ((((σ[g]?).bind cL).bind λ xs => (sortD xs).map λ ys => V.d (.list ys)).or (((σ[g]?).bind cD).bind _)) = _
 rw [hg]
 show ((ints? ((fb ks).map (·.1))).bind λ is => ck (decide (is.length < 64)) (V.d (.list ((isortI is).map .int)))) = _
 rw [got_keys, ints_map]
 show ck (decide (ks.length < 64)) _ = _
 rw [decide_eq_true hl]; rfl
theorem w_tr {Q : Bool -> Prop} {b : Bool} (h : truth σ v = some b) (q : Q b) : OW (truth σ v) Q := by rw [h]; exact q
theorem len_list (h : xs.length <= 2 ^ 20) : biD σ 0 [.d (.list xs)] = some (.d (.int xs.length)) := by
 show ck (fits xs) _ = _; rw [fO h]; rfl
theorem tup_list (h : xs.length <= 2 ^ 20) : biD σ 1 [.d (.list xs)] = some (.d (.tuple xs)) := by
 show ck (fits xs) _ = _; rw [fO h]; rfl
set_option maxHeartbeats 40000 in
theorem union_end {K : Ps} (C : Cl c τ = true) (G : Good R) (hf : R.length < 2 ^ 20) (B : base <+: R) {a b : Option V} (hu : ∀ x ∈ ks, UOk R x) (hnd : ks.Nodup) (hl : ks.length < 64) (m8 : 8 ∉ ks) (m14 : 14 ∉ ks) (m7 : 7 ∉ ks) (mm : -1 ∉ ks) (hX : X = (isortI ks).filter (keepB ks)) (hne : X ≠ [])
 (q : ∀ R' t, Gr R R' 1 -> Atoms R' t X -> Q (.d (.int t)) (TS c τ R')) :
 fc (OO (n + 2)) (f_union.body.drop 4) [some (.l 1), some v, some (.l (τ.length + 4)), a, b, some (.d (.int (-1))), none, none, none, none] (TS c (τ ++ [.dict (fb ks)]) R) (kend λ v σ' => WP (fin (τ.length + 4) v σ') Q) := by
 have CG : Cl c (τ ++ [.dict (fb ks)]) = true := fh C (fP (got_below _ ks) rfl)
 have ff := fO (bt hf)
 refine join_ok (n := n + 1) CG (getc _ _) m8 m14 (w_bi (sort_got hl (getc τ _)) ?_)
 refine compM aS (λ z => cond (keepB ks z) [.int z] []) 64 (λ acc i => rfl) ?_ (λ z hz acc K hN hk => ?_) ?_
 · rw [flat_filter, aG]
   show 0 + _ <= _
   rw [bB]
   exact aE (bn _ _) (by rw [isortI_length]; exact bt hl)
 · obtain ⟨k, hp, he⟩ := kept_eq (hu z (mem_isortI.mp hz)) m7 mm
   refine beside_ok (n := n) (c := c) (τ := τ ++ [fH.dict (fb ks)] ++ [fH.list acc]) (R := R) (j := τ.length) (fh CG rfl) ((bM (by rw [aH]; exact cQ _)).trans (getc _ _)) ff hp mm ?_
   rw [he]
   cases hk2 : keepB ks z with
   | true => rw [hk2] at hk; exact w_appc (σ := TS c (τ ++ [.dict (fb ks)]) R) (by lia) hk
   | false => rw [hk2, cond_false, aq] at hk; exact hk
 · rw [flat_filter, <- hX]
   refine w_finl (c := c) (τ := τ ++ [fH.dict (fb ks)]) (υ := [fH.list (X.map .int)]) (j := (τ ++ [fH.dict (fb ks)]).length) CG (getc _ _) (bY.mpr λ h => be _ (a9.mp h)) ?_
   have lX : X.length < 64 := ci (hX ▸ bn _ _) (by rw [isortI_length]; exact hl)
   have fX : (X.map aS).length <= 2 ^ 20 := by rw [aG]; lia
   have fe : truth (TS c (τ ++ [.dict (fb ks)]) R) (.d (.list (X.map .int))) = some true := by
    show ck (fits (X.map .int)) (!(X.map aS).isEmpty) = _
    rw [fO fX]
    cases X with
    | nil => exact (hne rfl).elim
    | cons => rfl
   refine w_tr fe (w_bi (len_list fX) ?_)
   by_cases h1 : X.length = 1
   · obtain ⟨x, rfl⟩ := eQ.mp h1
     obtain ⟨k, hp, _⟩ := (hu x (mem_isortI.mp (bh.mp (hX ▸ List.mem_singleton_self x)).1)).plain
     have ux := hu x (mem_isortI.mp (bh.mp (hX ▸ List.mem_singleton_self x)).1)
     exact w_fina C (q R x (.refl G) (.one (λ e => ux.no (by rw [e]; decide)) hp.n6 hp.kd))
   · have l1 : decide (((X.map aS).length : Int) = 1) = false := decide_eq_false (by rw [aG]; lia)
     have l2 : decide ((400 : Int) < ((X.map aS).length : Int)) = false := decide_eq_false (by rw [aG]; lia)
     refine cF l1 (w_bi (len_list fX) (cF l2 (w_bi (tup_list fX) ?_)))
     refine put_ok (n := n + 1) (c := c) (τ := τ ++ [fH.dict (fb ks)]) CG G hf (ok_union X) λ R' t g hr => w_fina C (q R' t g (.many (λ e => ?_) ?_ hr h1))
     · subst e
       exact nomatch hr.symm.trans (fK (B.trans g.pre) base_2)
     · lia
end
section
variable {c : fH} {τ : fE} {R R' : List aA} {n : Nat} {t x : Int} {Q : Ps} {ks X : List Int} {v : V}
theorem uni_all (X : List Int) : uni X = cond (decide (0 ∈ addAll [] X)) [0] (cond (decide (1 ∈ addAll [] X)) [1] ((isortI (addAll [] X)).filter (keepB (addAll [] X)))) := by
 rw [<- uni_congr (X := addAll [] X) λ x => mem_all]
 unfold uni
 cases decide (0 ∈ addAll [] X) with
 | true => rfl
 | false =>
  cases decide (1 ∈ addAll [] X) with
  | true => rfl
  | false =>
   have nd : (addAll [] X).Nodup := nodup_addAll .nil
   refine sorted_ext (fj ((nodup_addAll .nil).filter _)) ((fj nd).filter _) λ x => mem_isortI.trans (bh.trans (Iff.trans (and_congr_left λ _ => ?_) bh.symm))
   exact mem_all.trans mem_isortI.symm
theorem union_ok (C : Cl c τ = true) (G : Good R) (hf : R.length < 2 ^ 20) (B : base <+: R) {ps : List (Int × List Int)} (hv : fg (TS c τ R) v = some (ps.map λ p => .int p.1)) (ha : ∀ p ∈ ps, Atoms R p.1 p.2)
 (hu : ∀ x ∈ ps.flatMap (·.2), UOk R x) (hne : ps.flatMap (·.2) ≠ []) (hn : (addAll [] (ps.flatMap (·.2))).length <= 60) (hn2 : (ps.flatMap (·.2)).length <= 1000)
 (q : ∀ R' t, Gr R R' 1 -> Atoms R' t (uni (ps.flatMap (·.2))) -> Q (.d (.int t)) (TS c τ R')) : fY (OO (n + 3)) 16 [.l 1, v] (TS c τ R) Q := by
 refine rg rfl <| union_loop (n := n) C (fO (bt hf)) hv ha hn2 λ a b => ?_
 have me : ∀ x, x ∈ addAll [] (ps.flatMap (·.2)) -> UOk R x := λ x h => hu x (mem_all.mp h)
 have no : ∀ x ∈ [8, 13, 14, 7, 2], x ∉ addAll [] (ps.flatMap (·.2)) := λ x hx h => (me x h).no hx
 have nm : -1 ∉ addAll [] (ps.flatMap (·.2)) := λ h => absurd (me _ h).pos (by decide)
 have ua := uni_all (ps.flatMap (·.2))
 have un := uni_ne hne
 generalize uni (ps.flatMap (·.2)) = X at *
 have nd : (addAll [] (ps.flatMap (·.2))).Nodup := nodup_addAll .nil
 generalize addAll [] (ps.flatMap (·.2)) = ks at *
 have CG : Cl c (τ ++ [.dict (fb ks)]) = true := fh C (fP (got_below _ ks) rfl)
 refine top_ok (n := n + 1) CG (getc _ _) rfl ?_
 rw [decide_eq_false (no 13 (by decide)), cond_false]
 cases c0 : decide (0 ∈ ks) with
 | true => rw [c0] at ua; exact w_fina C (q R 0 (.refl G) (ua ▸ base_atoms B 0 1 _ rfl (by decide) (by decide) (by decide)))
 | false =>
  rw [c0] at ua
  cases c1 : decide (1 ∈ ks) with
  | true => rw [c1] at ua; exact w_fina C (q R 1 (.refl G) (ua ▸ base_atoms B 1 1 _ rfl (by decide) (by decide) (by decide)))
  | false =>
   rw [c1] at ua
   exact union_end (n := n) (K := Q) C G hf B me nd (ci hn (by decide)) (no 8 (by decide)) (no 14 (by decide)) (no 7 (by decide)) nm ua un q
end
section
variable {α β : Type} {p q : α -> Bool} {l m done rest : List α} {a : α} {k f : Nat}
noncomputable def up1 (b : Bool) (k : Nat) : Nat := Nat.casesOn k (cond b 1 0) λ k => k + 2
noncomputable def cntP (p : α -> Bool) : List α -> Nat
 | [] => 0
 | a :: r => up1 (p a) (cntP p r)
theorem up1_true (k : Nat) : up1 true k = k + 1 := by cases k <;> rfl
theorem up1_pred (b : Bool) (k : Nat) : up1 b k - 1 = k := by
 cases k with
 | zero => cases b <;> rfl
 | succ k => rfl
theorem cnt_snoc (p : α -> Bool) (a : α) : ∀ l : List α, cntP p (l ++ [a]) = cond (p a) (l.length + 1) (cntP p l)
 | [] => by show up1 (p a) 0 = _; cases p a <;> rfl
 | b :: r => by
  show up1 (p b) (cntP p (r ++ [a])) = _
  rw [cnt_snoc p a r]
  cases p a <;> rfl
theorem cnt_le (p : α -> Bool) : ∀ l : List α, cntP p l <= l.length
 | [] => aW _
 | a :: r => by
  have := cnt_le p r
  have := up1_pred (p a) (cntP p r)
  show up1 _ _ <= r.length + 1
  lia
theorem cnt_any (p : α -> Bool) : ∀ l : List α, l.any p = au 0 (cntP p l)
 | [] => rfl
 | a :: r => by
  show (p a || r.any p) = au 0 (up1 (p a) (cntP p r))
  rw [cnt_any p r]
  cases cntP p r <;> cases p a <;> rfl
theorem cnt_lt (a : α) (rest : List α) : ∀ done : List α, au (done.length + 1) (cntP p (done ++ a :: rest)) = rest.any p
 | [] => by
  show au 1 (up1 (p a) (cntP p rest)) = _
  rw [cnt_any]
  cases cntP p rest <;> cases p a <;> rfl
 | b :: d => by
  rw [<- cnt_lt a rest d]
  show au (d.length + 2) (up1 (p b) (cntP p (d ++ a :: rest))) = _
  cases cntP p (d ++ a :: rest) <;> cases p b <;> rfl
theorem cnt_ilt (a : α) (done rest : List α) : decide ((done.length : Int) < (cntP p (done ++ a :: rest) : Int) - 1) = rest.any p := by
 rw [<- cnt_lt a rest done]
 refine eF.mpr ((decide_eq_true_iff ..).trans (Iff.trans ?_ (iff_of_eq a9).symm))
 lia
theorem cnt_drop (p : α -> Bool) : ∀ l : List α, (l.drop (cntP p l)).any p = false
 | [] => rfl
 | a :: r => by
  have ih := cnt_drop p r
  have h := cnt_any p r
  show ((a :: r).drop (up1 (p a) (cntP p r))).any p = false
  cases e : cntP p r with
  | zero =>
   rw [e] at h
   cases e1 : p a with
   | true => exact h
   | false => show (p a || r.any p) = false; rw [e1, h]; rfl
  | succ k => rw [e] at ih; exact ih
theorem cnt_congr : ∀ {l : List α}, (∀ a ∈ l, p a = q a) -> cntP p l = cntP q l
 | [], _ => rfl
 | a :: r, h => by
  show up1 _ _ = up1 _ _
  rw [h a (.head _), cnt_congr λ b hb => h b (.tail _ hb)]
theorem cnt_map (f : β -> α) : ∀ l : List β, cntP p (l.map f) = cntP (λ b => p (f b)) l
 | [] => rfl
 | a :: r => congrArg (up1 _) (cnt_map f r)
noncomputable def fstP (p : α -> Bool) : List α -> Option Nat
 | [] => none
 | a :: r => cond (p a) (some 0) ((fstP p r).map (· + 1))
theorem fst_snoc (p : α -> Bool) (a : α) : ∀ l : List α, fstP p (l ++ [a]) = (fstP p l).or (cond (p a) (some l.length) none)
 | [] => rfl
 | b :: r => by
  show cond (p b) _ ((fstP p (r ++ [a])).map _) = Option.or (cond (p b) _ _) _
  rw [fst_snoc p a r]
  cases p b with
  | true => rfl
  | false => cases fstP p r <;> cases p a <;> rfl
abbrev Ms := List (List Int × Int)
noncomputable def inS (ms : List Int) (s : Int) : Bool := decide (s ∈ ms)
noncomputable abbrev sgM (l : Ms) : List Int := l.map (·.2)
theorem any_in (k : Int) (f : α -> Int) : ∀ l : List α, (l.any λ x => inS [k] (f x)) = decide (k ∈ l.map f)
 | [] => (decide_eq_false cf).symm
 | a :: r => by
  show (decide (f a ∈ [k]) || r.any λ x => inS [k] (f x)) = decide (k ∈ f a :: r.map f)
  rw [any_in k f r]
  by_cases h : f a = k
  · rw [decide_eq_true (aM.mpr h)]; exact (decide_eq_true (h ▸ .head _)).symm
  · rw [decide_eq_false λ m => h (aM.mp m), Bool.false_or]
    exact decide_eq_decide.mpr ⟨.tail _, λ m => (aP.mp m).resolve_left λ e => h e.symm⟩
noncomputable def nz (s : Int) : Bool := !decide (s = 0)
noncomputable def ntl1 (e : List Int × Int) (sg : List Int) : List Int × Int := cond (decide (e.2 = 1)) (cond (decide (0 ∈ sg)) (uni (e.1 ++ [4]), 0) e) e
noncomputable def ntl : Ms -> Ms
 | [] => []
 | e :: r => ntl1 e (sgM r) :: ntl r
noncomputable def held1 (e : List Int × Int) : List Int := cond (decide (e.2 = 1)) (uni (e.1 ++ [4])) e.1
noncomputable def oneR : Ms -> Nat -> Ms
 | [], _ => []
 | e :: r, k => cond (decide (e.2 = 2)) (cond (bV k 1) (e :: r) ((uni (((e :: r).take k).flatMap held1), 2) :: (e :: r).drop k)) (e :: oneR r (k - 1))
noncomputable abbrev lastK (l : Ms) : Nat := cntP (λ e => nz e.2) l
noncomputable def settled : Ms -> Ms
 | [] => []
 | e :: r => cond (decide (e.2 = 2)) ((uni (cond (decide (1 ∈ sgM (e :: r))) [4] [] ++ ((e :: r).take (lastK (e :: r))).flatMap (·.1)), 2) :: (e :: r).drop (lastK (e :: r))) (ntl1 e (sgM r) :: settled r)
end
section
variable {l m L : Ms} {e : List Int × Int} {A X Y : List Int} {k : Nat}
def Zr (l : Ms) : Prop := (l.any λ e => nz e.2) = false
theorem Zr.cons (h : Zr (e :: l)) : e.2 = 0 ∧ Zr l := by
 have h : (nz e.2 || l.any λ e => nz e.2) = false := h
 have h := Bool.or_eq_false_iff.mp h
 exact ⟨of_decide_eq_true ((Bool.not_eq_false' ..).mp h.1), h.2⟩
theorem ntl1_zero (h : e.2 ≠ 1) (sg : List Int) : ntl1 e sg = e := by unfold ntl1; rw [decide_eq_false h]; rfl
theorem ntl_zero : ∀ {l : Ms}, Zr l -> ntl l = l
 | [], _ => rfl
 | e :: r, h => by
  show ntl1 e _ :: ntl r = _
  rw [ntl_zero h.cons.2, ntl1_zero λ q => nomatch h.cons.1.symm.trans q]
theorem settled_zero : ∀ {l : Ms}, Zr l -> settled l = l
 | [], _ => rfl
 | e :: r, h => by
  show cond (decide (e.2 = 2)) _ (ntl1 e _ :: settled r) = _
  rw [settled_zero h.cons.2, ntl1_zero (λ q => nomatch h.cons.1.symm.trans q), h.cons.1]; rfl
theorem zr_one : ∀ {l : Ms}, Zr l -> 1 ∉ sgM l
 | [], _ => cf
 | e :: r, h => λ m => (aP.mp m).elim (λ q => nomatch q.trans h.cons.1) (zr_one h.cons.2)
theorem ntl_drop : ∀ (l : Ms) (k : Nat), (ntl l).drop k = ntl (l.drop k)
 | [], k => by rw [List.drop_nil]; exact List.drop_nil
 | a :: r, 0 => rfl
 | a :: r, k + 1 => ntl_drop r k
theorem held_ntl (e : List Int × Int) (sg : List Int) : held1 (ntl1 e sg) = held1 e := by
 unfold held1 ntl1
 cases h : decide (e.2 = 1) with
 | false => rw [cond_false, h]
 | true => cases decide (0 ∈ sg) with
  | true => rfl
  | false => show cond (decide (e.2 = 1)) (uni (e.1 ++ [4])) e.1 = _; rw [h]
theorem ntl_take_held : ∀ (l : Ms) (k : Nat), ((ntl l).take k).flatMap held1 = (l.take k).flatMap held1
 | [], k => rfl
 | a :: r, 0 => rfl
 | a :: r, k + 1 => by
  show held1 (ntl1 a _) ++ ((ntl r).take k).flatMap held1 = _
  rw [held_ntl, ntl_take_held r k]; rfl
theorem uni_perm (h : X.Perm Y) : uni X = uni Y := uni_congr λ x => h.mem_iff
theorem uni_swap : uni (A ++ X ++ Y) = uni (A ++ Y ++ X) := uni_congr λ x => by
 rw [aw, aw]
 exact ae.trans ((or_congr_right ((ae.trans or_comm).trans ae.symm)).trans ae.symm)
theorem held_flat : ∀ (L : Ms) (A : List Int), uni (A ++ L.flatMap held1) = uni (A ++ (cond (decide (1 ∈ sgM L)) [4] [] ++ L.flatMap (·.1)))
 | [], A => rfl
 | e :: r, A => by
  rw [bX, <- aw, held_flat r (A ++ held1 e), bX]
  unfold held1
  by_cases h : e.2 = 1
  · rw [decide_eq_true h, cond_true, uni_swap, uni_uni, show decide ((1 : Int) ∈ sgM (e :: r)) = true from decide_eq_true (h ▸ .head _)]
    refine uni_congr λ x => ?_
    cases decide ((1 : Int) ∈ sgM r) with
    | true => simp only [cond_true, ae, aM]; grind
    | false => simp only [cond_true, cond_false, bc, ae, aM]; grind
  · rw [decide_eq_false h, cond_false, show decide ((1 : Int) ∈ sgM (e :: r)) = decide (1 ∈ sgM r) from decide_eq_decide.mpr ⟨λ m => (aP.mp m).resolve_left λ q => h q.symm, .tail _⟩, aw]
    exact uni_perm (List.Perm.append_left A (List.perm_append_comm_assoc ..))
end
section
variable {l m : Ms} {e : List Int × Int} {k f : Nat}
theorem zr_of {k : Nat} (h : lastK l = k) : Zr (l.drop k) := h ▸ cnt_drop (λ e : List Int × Int => nz e.2) l
theorem settled_eq : ∀ {l : Ms}, (∀ e ∈ l, ∃ x, e.1 = [x]) -> oneR (ntl l) (lastK l) = settled l
 | [], _ => rfl
 | e :: r, hs => by
  have ih := settled_eq (l := r) λ q hq => hs q (.tail _ hq)
  show cond (decide ((ntl1 e (sgM r)).2 = 2)) (cond (bV (lastK (e :: r)) 1) (ntl1 e (sgM r) :: ntl r) ((uni (((ntl (e :: r)).take (lastK (e :: r))).flatMap held1), 2) :: (ntl (e :: r)).drop (lastK (e :: r)))) (ntl1 e (sgM r) :: oneR (ntl r) (up1 (nz e.2) (lastK r) - 1)) = cond (decide (e.2 = 2)) _ _
  rw [up1_pred, ih]
  by_cases h2 : e.2 = 2
  · have h1 : e.2 ≠ 1 := λ q => nomatch h2.symm.trans q
    have hk : lastK (e :: r) = lastK r + 1 := by
     show up1 (nz e.2) _ = _
     rw [h2]; exact up1_true _
    have z : Zr (r.drop (lastK r)) := zr_of rfl
    rw [hk, ntl1_zero h1, decide_eq_true h2, cond_true, cond_true, ntl_take_held, ntl_drop]
    show cond (bV (lastK r + 1) 1) _ (_ :: ntl (r.drop (lastK r))) = _ :: r.drop (lastK r)
    rw [ntl_zero z]
    have spl : e :: r = (e :: r).take (lastK r + 1) ++ r.drop (lastK r) := congrArg (e :: ·) (bZ ..).symm
    have hsg : decide ((1 : Int) ∈ sgM (e :: r)) = decide (1 ∈ sgM ((e :: r).take (lastK r + 1))) := by
     refine decide_eq_decide.mpr ⟨λ m => ?_, λ m => ?_⟩
     · rw [spl] at m
       unfold sgM at m
       rw [aU] at m
       exact (ae.mp m).resolve_right (zr_one z)
     · rw [spl]; unfold sgM; rw [aU]; exact a8 _ m
    cases hr : lastK r with
    | zero =>
     rw [hr] at z hsg
     obtain ⟨x, hx⟩ := hs e (.head _)
     rw [hsg, show ntl r = r from ntl_zero z]
     have : decide ((1 : Int) ∈ [e.2]) = false := decide_eq_false λ m => h1 (aM.mp m).symm
     show e :: r = (uni (cond (decide ((1 : Int) ∈ [e.2])) [4] [] ++ (e.1 ++ [])), 2) :: r
     rw [this, aq, hx, cond_false, bc, uni_one, <- hx, <- h2]
    | succ k =>
     rw [hr] at hsg
     have := held_flat ((e :: r).take (k + 2)) []
     rw [bc, bc] at this
     rw [this, hsg]; rfl
  · have h2' : (ntl1 e (sgM r)).2 ≠ 2 := by
     unfold ntl1
     cases decide (e.2 = 1) with
     | false => exact h2
     | true => cases decide (0 ∈ sgM r) with
      | true => exact λ q => nomatch q
      | false => exact h2
    rw [decide_eq_false h2, decide_eq_false h2']; rfl
theorem oneR_none : ∀ {l : Ms} (k : Nat), fstP (λ e => decide (e.2 = 2)) l = none -> oneR l k = l
 | [], _, _ => rfl
 | e :: r, k, h => by
  have h : cond (decide (e.2 = 2)) (some 0) ((fstP (λ e => decide (e.2 = 2)) r).map (· + 1)) = none := h
  show cond (decide (e.2 = 2)) _ _ = _
  cases c : decide (e.2 = 2) with
  | true => rw [c] at h; exact nomatch h
  | false => rw [c] at h; exact congrArg (e :: ·) (oneR_none (k - 1) (e9.mp h))
theorem oneR_some : ∀ {l : Ms} {f : Nat} (k : Nat), fstP (λ e => decide (e.2 = 2)) l = some f -> oneR l k = cond (bV k (f + 1)) l (l.take f ++ (uni (((l.take k).drop f).flatMap held1), 2) :: l.drop k)
 | [], _, _, h => nomatch h
 | e :: r, f, k, h => by
  have h : cond (decide (e.2 = 2)) (some 0) ((fstP (λ e : List Int × Int => decide (e.2 = 2)) r).map (· + 1)) = some f := h
  show cond (decide (e.2 = 2)) _ (e :: oneR r (k - 1)) = _
  cases c : decide (e.2 = 2) with
  | true => rw [c] at h; obtain rfl := aY h; rfl
  | false =>
   rw [c] at h
   obtain ⟨f, h2, rfl⟩ := aZ.mp (show (fstP _ r).map (· + 1) = _ from h)
   rw [oneR_some (k - 1) h2]
   cases k with
   | zero => rfl
   | succ k =>
    show e :: cond (bV k (f + 1)) _ _ = cond (bV k (f + 1)) _ _
    cases bV k (f + 1) <;> rfl
theorem ntl_length : ∀ l : Ms, (ntl l).length = l.length
 | [] => rfl
 | _ :: r => congrArg eE (ntl_length r)
theorem oneR_length : ∀ (l : Ms) (k : Nat), (oneR l k).length <= l.length + 1
 | [], _ => bA _
 | e :: r, k => by
  show bP (cond (decide (e.2 = 2)) _ (e :: oneR r (k - 1))) <= _
  cases decide (e.2 = 2) with
  | true =>
   show bP (cond (bV k 1) _ _) <= _
   cases bV k 1 with
   | true => exact eM _
   | false => exact bG (by rw [cg]; exact Nat.sub_le ..)
  | false => exact bG (oneR_length r (k - 1))
end
section
variable {c : fH} {τ σ : fE} {R R' S : List aA} {n i g : Nat} {t k x : Int} {r y : aA} {xs : List aA} {Q : Ps} {as ms X : List Int} {u v : V} {ρ : Loc}
theorem row_mid {α : Type} (f : α -> aA) (p : α) (rest : List α) : ∀ done : List α, fN ((done ++ p :: rest).map f) (done.length : Int) = some (f p) := λ done =>
 rowAt_iff.mpr ⟨bj _, by rw [bT, aU, bg (c8 (aG ..)), aG, dN]; rfl⟩
theorem loop_s {α γ : Type} {ps : List α} {it : It} {b : Loc -> fE -> Fs -> Prop} {tg : Tg} {Q : Fs} (X : Nat -> α -> aA) (L : List α -> γ -> Loc) (S : List α -> γ -> fE) (P : List α -> γ -> Prop)
 (hat : ∀ done rest g, ps = done ++ rest -> P done g -> it.at (S done g) done.length = some (rest.head?.map (X done.length)))
 (step : ∀ done p rest g (K : Fs), ps = done ++ p :: rest -> P done g -> (∀ g', P (done ++ [p]) g' -> K .next (L (done ++ [p]) g') (S (done ++ [p]) g')) -> (∀ v ρ' σ', Q (.ret v) ρ' σ' -> K (.ret v) ρ' σ') -> OW (tg.put (L done g) (X done.length p)) λ ρ₁ => b ρ₁ (S done g) K)
 (fin : ∀ g, P ps g -> Q .next (L ps g) (S ps g)) : ∀ (rest done : List α) (g : γ), ps = done ++ rest -> P done g -> evLoop b tg it rest.length done.length (L done g) (S done g) Q
 | [], done, g, h, hP => ow (hat done [] g h hP) (by rw [aq] at h; subst h; exact fin g hP)
 | p :: rest, done, g, h, hP => ow (hat done (p :: rest) g h hP) (step done p rest g _ h hP (λ g' hP' => by
  have := loop_s X L S P hat step fin rest (done ++ [p]) g' (by rw [aw]; exact h) hP'
  rwa [aH] at this) λ v ρ σ q => q)
theorem w_rng {Q : It -> Prop} (h : n <= 2 ^ 20) (q : Q (.rng n)) : OW (itOf σ (.d (.int n)) (.range ())) Q := by
 show OW ((ck (bV n 4611686018427387903) _).map _) Q
 rw [dA.mpr (aE h (by decide))]
 exact q
theorem loopN {α γ : Type} {ps : List α} {b : Loc -> fE -> Fs -> Prop} {tg : Tg} {Q : Fs} (hl : ps.length <= 2 ^ 20) (L : List α -> γ -> Loc) (S : List α -> γ -> fE) (P : List α -> γ -> Prop) (g : γ) (h0 : P [] g)
 (step : ∀ done p rest g (K : Fs), ps = done ++ p :: rest -> P done g -> (∀ g', P (done ++ [p]) g' -> K .next (L (done ++ [p]) g') (S (done ++ [p]) g')) -> (∀ v ρ' σ', Q (.ret v) ρ' σ' -> K (.ret v) ρ' σ') -> OW (tg.put (L done g) (.int done.length)) λ ρ₁ => b ρ₁ (S done g) K)
 (fin : ∀ g, P ps g -> Q .next (L ps g) (S ps g)) : OW (itOf (S [] g) (.d (.int ps.length)) (.range ())) λ it => OW (it.len (S [] g)) λ n => evLoop b tg it n 0 (L [] g) (S [] g) Q :=
 w_rng hl <| show evLoop b tg (.rng ps.length) ps.length 0 (L [] g) (S [] g) Q from loop_s (λ i _ => .int i) L S P (λ done rest g h _ => by
  show some (cond (au done.length ps.length) _ _) = _
  rw [h, aH]
  cases rest with
  | nil => rw [show au done.length (done.length + ([] : List α).length) = false from bY.mpr λ q => be _ (a9.mp q)]; rfl
  | cons p r => rw [show au done.length (done.length + (p :: r).length) = true from a9.mpr (Nat.lt_add_of_pos_right (Nat.succ_pos _))]; rfl) step fin ps [] g rfl h0
theorem loopD {α γ : Type} {ps : List α} {b : Loc -> fE -> Fs -> Prop} {tg : Tg} {it : It} {Q : Fs} (f : α -> aA) (L : List α -> γ -> Loc) (S : List α -> γ -> fE) (P : List α -> γ -> Prop) (g : γ) (h0 : P [] g) (hs : ∀ i done g, P done g -> it.at (S done g) i = some (ps.map f)[i]?)
 (step : ∀ done p rest g (K : Fs), ps = done ++ p :: rest -> P done g -> (∀ g', P (done ++ [p]) g' -> K .next (L (done ++ [p]) g') (S (done ++ [p]) g')) -> (∀ v ρ' σ', Q (.ret v) ρ' σ' -> K (.ret v) ρ' σ') -> OW (tg.put (L done g) (f p)) λ ρ₁ => b ρ₁ (S done g) K)
 (fin : ∀ g, P ps g -> Q .next (L ps g) (S ps g)) : evLoop b tg it (ps.map f).length 0 (L [] g) (S [] g) Q := by
 rw [aG]
 exact loop_s (λ _ => f) L S P (λ done rest g h hP => by
  rw [hs _ done g hP, h, aU, bg (c8 (aG ..)), aG, dN]
  cases rest <;> rfl) step fin ps [] g rfl h0
theorem loopL {α γ : Type} {ps : List α} {b : Loc -> fE -> Fs -> Prop} {tg : Tg} {Q : Fs} (f : α -> aA) (L : List α -> γ -> Loc) (S : List α -> γ -> fE) (P : List α -> γ -> Prop) (g : γ) (h0 : P [] g) (hs : ∀ done g, P done g -> fg (S done g) v = some (ps.map f))
 (step : ∀ done p rest g (K : Fs), ps = done ++ p :: rest -> P done g -> (∀ g', P (done ++ [p]) g' -> K .next (L (done ++ [p]) g') (S (done ++ [p]) g')) -> (∀ v ρ' σ', Q (.ret v) ρ' σ' -> K (.ret v) ρ' σ') -> OW (tg.put (L done g) (f p)) λ ρ₁ => b ρ₁ (S done g) K)
 (fin : ∀ g, P ps g -> Q .next (L ps g) (S ps g)) : OW ((It.seq v).len (S [] g)) λ n => evLoop b tg (.seq v) n 0 (L [] g) (S [] g) Q :=
 ow (len_seq (hs [] g h0)) (loopD f L S P g h0 (λ i done g h => at_seq (hs done g h) i) step fin)
noncomputable def EE : List Int := [0, 1, 4, 6, 16, 17, 18, 19]
theorem u1 (B : base <+: R) (h : fN base t = some (.tuple (.int k :: xs))) (q : (decide (xs.length <= 10) && (decide (k ∉ [2, 3, 4, 5, 8, 6, 18]) && (decide (0 <= t) && decide (t ∉ [8, 13, 14, 7, 2, 16, 17])))) = true) : UOk R t := by
 have q1 := of_decide_eq_true (fG q)
 have q2 := of_decide_eq_true (fG (and2 q))
 have q3 := of_decide_eq_true (fG (and2 (and2 q)))
 have q4 := of_decide_eq_true (and2 (and2 (and2 q)))
 have no : ∀ {z : Int}, k = z -> decide (z ∈ [2, 3, 4, 5, 8, 6, 18]) = true -> False := λ e m => q2 (e ▸ of_decide_eq_true m)
 have no4 : ∀ {z : Int}, t = z -> decide (z ∈ [8, 13, 14, 7, 2, 16, 17]) = true -> False := λ e m => q4 (e ▸ of_decide_eq_true m)
 refine ⟨⟨k, ⟨λ e => no e rfl, λ e => no e rfl, .inl ⟨⟨xs, fK B h, q1⟩, λ m => q2 (a8 [6, 18] m)⟩⟩, λ e => no e rfl, λ e => (no e rfl).elim, λ e => ?_⟩, q3, λ m => q4 (a8 [16, 17] m)⟩
 exact (e.elim (λ e => no4 e rfl) λ e => no4 e rfl).elim
theorem u2 (B : base <+: R) (h : fN base t = some (.tuple [.int k, y, .int 0])) (q : ((decide (k = 3) && decide (t ∈ [16, 17])) || (decide (k = 4) && decide (t ∈ [18]))) = true) : UOk R t := by
 have h := fK B h
 rcases (cX ..).mp q with q | q
 · have hk := of_decide_eq_true (fG q)
   have ht := of_decide_eq_true (and2 q)
   have ht2 : t = 16 ∨ t = 17 := (aP.mp ht).imp id aM.mp
   exact ⟨⟨k, ⟨hk ▸ by decide, hk ▸ by decide, .inr ⟨y, h⟩⟩, hk ▸ by decide, λ _ => ht2, λ _ => hk⟩, by lia, ht2.elim (λ e => e ▸ by decide) λ e => e ▸ by decide⟩
 · have hk := of_decide_eq_true (fG q)
   have ht := aM.mp (of_decide_eq_true (and2 q))
   exact ⟨⟨k, ⟨hk ▸ by decide, hk ▸ by decide, .inr ⟨y, h⟩⟩, hk ▸ by decide, λ e => by lia, λ e => by lia⟩, ht ▸ by decide, ht ▸ by decide⟩
theorem uok_base (B : base <+: R) : ∀ {t : Int}, t ∈ EE -> UOk R t := λ {t} h =>
 (aL.mpr ⟨u1 B rfl rfl, aL.mpr ⟨u1 B rfl rfl, aL.mpr ⟨u1 B rfl rfl, aL.mpr ⟨u1 B rfl rfl, aL.mpr ⟨u2 B rfl rfl, aL.mpr ⟨u2 B rfl rfl, aL.mpr ⟨u2 B rfl rfl, aL.mpr ⟨u1 B rfl rfl, λ _ m => nomatch m⟩⟩⟩⟩⟩⟩⟩⟩ : ∀ t ∈ EE, UOk R t) t h
theorem UOk.atoms (h : UOk R t) : Atoms R t [t] := by
 obtain ⟨k, hp, _⟩ := h.plain
 exact .one (λ e => h.no (by rw [e]; decide)) hp.n6 hp.kd
theorem ee_short (h : as.Pairwise (· < ·)) (hs : ∀ x ∈ as, x ∈ EE) : as.length <= 8 := by
 have e : as = EE.filter (λ x => decide (x ∈ as)) := sorted_ext h (List.Pairwise.filter _ (by decide)) λ x => ⟨λ q => bh.mpr ⟨hs x q, decide_eq_true q⟩, λ q => of_decide_eq_true (bh.mp q).2⟩
 rw [e]; exact bn _ EE
structure KOk (R : List aA) (t : Int) (as : List Int) : Prop where
 at' : Atoms R t as
 ee : ∀ x ∈ as, x ∈ EE
 srt : as.Pairwise (· < ·)
 ne : as ≠ []
theorem KOk.pre (h : KOk R t as) (p : R <+: R') : KOk R' t as := ⟨h.at'.pre p, h.ee, h.srt, h.ne⟩
theorem KOk.len (h : KOk R t as) : as.length <= 8 := ee_short h.srt h.ee
theorem KOk.base (B : base <+: R) (h : t ∈ EE) : KOk R t [t] := ⟨(uok_base B h).atoms, λ x m => aM.mp m ▸ h, bI .., List.cons_ne_nil _ _⟩
theorem flat_len {f : Int × List Int -> List Int} : ∀ {L : List (Int × List Int)}, (∀ p ∈ L, (f p).length <= 8) -> (L.flatMap f).length <= 8 * L.length
 | [], _ => aW _
 | a :: r, h => by
  have h1 := h a (.head _)
  have h2 := flat_len (L := r) λ p hp => h p (.tail _ hp)
  rw [bX, aH, am]; lia
theorem union_k (C : Cl c τ = true) (G : Good R) (hf : R.length < 2 ^ 20) (B : base <+: R) {ps : List (Int × List Int)} (hv : fg (TS c τ R) v = some (ps.map λ p => .int p.1)) (hk : ∀ p ∈ ps, KOk R p.1 p.2) (hne : ps ≠ []) (hl : ps.length <= 100)
 (q : ∀ R' t, Gr R R' 1 -> KOk R' t (uni (ps.flatMap (·.2))) -> Q (.d (.int t)) (TS c τ R')) : fY (OO (n + 3)) 16 [.l 1, v] (TS c τ R) Q := by
 have ee : ∀ x ∈ ps.flatMap (·.2), x ∈ EE := λ x hx => let ⟨p, hp, hx⟩ := List.mem_flatMap.mp hx; (hk p hp).ee x hx
 have ne : ps.flatMap (·.2) ≠ [] := λ e => by
  obtain ⟨p, hp⟩ := List.exists_mem_of_ne_nil ps hne
  exact (hk p hp).ne (List.flatMap_eq_nil_iff.mp e p hp)
 have nd : (addAll [] (ps.flatMap (·.2))).Nodup := nodup_addAll .nil
 refine union_ok C G hf B hv (λ p hp => (hk p hp).at') (λ x hx => uok_base B (ee x hx)) ne ?_ (aE (flat_len λ p hp => (hk p hp).len) (by lia)) λ R' t g h => q R' t g ⟨h, λ x hx => ee x (uni_sub hx), uni_sorted _, uni_ne ne⟩
 have := ee_short (fj nd) λ x hx => ee x (mem_all.mp (mem_isortI.mp hx))
 rw [isortI_length] at this
 exact aE this (by decide)
theorem undef_ok (C : Cl c τ = true) (G : Good R) (hf : R.length < 2 ^ 20) (B : base <+: R) (ha : KOk R t ms) (q : ∀ R' u, Gr R R' 1 -> KOk R' u (uni (ms ++ [4])) -> Q (.d (.int u)) (TS c τ R')) : fY (OO (n + 4)) 17 [.l 1, .d (.int t)] (TS c τ R) Q :=
 rg rfl <| union_k (n := n) (ps := [(t, ms), (4, [4])]) C G hf B rfl (aL.mpr ⟨ha, aL.mpr ⟨KOk.base B (by decide), λ _ m => nomatch m⟩⟩) (List.cons_ne_nil _ _) (aF rfl) λ R' u g h => w_fin C (q R' u g h)
abbrev Qs := List (Int × List Int × Int)
noncomputable def encQ (q : Int × List Int × Int) : aA := .tuple [.int q.1, .int q.2.2]
noncomputable abbrev msQ (qs : Qs) : Ms := qs.map (·.2)
theorem last_mark_ok (C : Cl c τ = true) {qs : Qs} (hl : qs.length <= 1000) (q : Q (.d (.int ((cntP (λ q => inS ms q.2.2) qs : Int) - 1))) (TS c τ R)) : fY (OO (n + 1)) 5 [.d (.list (qs.map encQ)), .d (.tuple (ms.map .int))] (TS c τ R) Q := by
 have hm : (qs.map encQ).length <= 2 ^ 20 := by rw [aG]; lia
 refine rg rfl <| w_bi (len_list hm) ?_
 rw [aG]
 refine loopN (ps := qs) (aE hl (by decide)) (λ done x => [some (.d (.list (qs.map encQ))), some (.d (.tuple (ms.map .int))), some (.d (.int ((cntP (λ q => inS ms q.2.2) done : Int) - 1))), x]) (λ _ _ => TS c τ R) (λ _ _ => True) none trivial (λ done p rest x K hp _ kn kr => ?_) λ x _ => ?_
 rotate_left
 · exact w_fin C q
 refine fM (fv rfl (fO hm) (hp ▸ row_mid encQ p rest done)) (fM (a1 (aF rfl)) (w_cmp (in_ints _ ms rfl) ?_))
 have kn := kn (some (.d (.int done.length))) trivial
 rw [cnt_snoc] at kn
 refine cB (λ h => ?_) λ h => ?_
 · rw [show inS ms p.2.2 = true from h, cond_true, Int.natCast_add, Int.natCast_one, Int.add_sub_cancel] at kn; exact kn
 · rw [show inS ms p.2.2 = false from h, cond_false] at kn; exact kn
end
section
variable {c : fH} {τ σ : fE} {R R' S : List aA} {n i j g : Nat} {k x : Int} {r : aA} {xs : List aA} {Q : Ps} {ms : List Int} {u : V} {qs : Qs}
theorem ow_map {β γ : Type} {o : Option β} {f : β -> γ} {Q : γ -> Prop} (h : OW o λ a => Q (f a)) : OW (o.map f) Q := by cases o <;> exact h
theorem w_prel {Q : Unit -> Prop} (q : Q ()) : OW (pre2 (TS c (τ ++ [.list xs]) R) (.l (τ.length + 4)) (.app ())) Q :=
 w_pre (p := (τ.length + 4, xs)) (by show (((τ ++ [fH.list xs])[τ.length]?).bind _) = _; rw [getc]; rfl) q
theorem w_appl {Q : V × fE -> Prop} (h : xs.length <= 2 ^ 20) (q : Q (.d .none, TS c (τ ++ [.list (xs ++ [r])]) R)) : OW (op2 (TS c (τ ++ [.list xs]) R) (.l (τ.length + 4)) (.d r) (.app ())) Q := by
 show OW ((appendD (TS c (τ ++ [.list xs]) R) (.l (τ.length + 4)) (.d r)).map _) _
 have : OW (appendD (TS c τ R ++ [.list xs]) (.l (TS c τ R).length) (.d r)) λ σ => Q (.d .none, σ) := w_appc h q
 exact ow_map this
theorem w_fl {Q : V × fE -> Prop} (h : Cl c τ = true) (q : Q (.d (.list xs), TS c τ R)) : OW (fin (τ.length + 4) (.l (τ.length + 4)) (TS c (τ ++ [.list xs]) R)) Q :=
 w_finl (j := τ.length) h (getc τ _) (bY.mpr λ h => be _ (a9.mp h)) q
structure QsOk (R R' : List aA) (m : Nat) (qs : Qs) : Prop where
 gr : Gr R R' m
 ok : ∀ q ∈ qs, KOk R' q.1 q.2.1
theorem QsOk.snoc {q : Int × List Int × Int} (h : QsOk R R' i qs) (g : Gr R' S j) (k : KOk S q.1 q.2.1) : QsOk R S (i + j) (qs ++ [q]) :=
 ⟨h.gr.trans g, λ x hx => (ae.mp hx).elim (λ m => (h.ok x m).pre g.pre) λ m => aM.mp m ▸ k⟩
theorem fJ {α : Type} {f : α -> aA} {l : List α} {k : Nat} (h : l.length <= k) : (l.map f).length <= k := by rw [aG]; exact h
theorem needed_ok (C : Cl c τ = true) (G : Good R) (B : base <+: R) (hq : ∀ q ∈ qs, KOk R q.1 q.2.1) (hl : qs.length <= 50) (hf : R.length + 100 <= 2 ^ 20)
 (k : ∀ R' qs', QsOk R R' qs.length qs' -> msQ qs' = ntl (msQ qs) -> Q (.d (.list (qs'.map encQ))) (TS c τ R')) : fY (OO (n + 5)) 6 [.l 1, .d (.list (qs.map encQ))] (TS c τ R) Q := by
 have l20 : qs.length <= 2 ^ 20 := by lia
 have hm : (qs.map encQ).length <= 2 ^ 20 := fJ l20
 refine rg rfl <| last_mark_ok (n := n + 3) (ms := [0]) C (aE hl (by decide)) <| w_bi (len_list hm) ?_
 rw [aG]
 refine loopN (ps := qs) (γ := (List aA × Qs) × Option V × Option V × Option V) l20
  (λ done g => [some (.l 1), some (.d (.list (qs.map encQ))), some (.d (.int ((cntP (λ q => inS [0] q.2.2) qs : Int) - 1))), some (.l (τ.length + 4)), g.2.1, g.2.2.1, g.2.2.2]) (λ done g => TS c (τ ++ [.list (g.1.2.map encQ)]) g.1.1)
  (λ done g => QsOk R g.1.1 done.length g.1.2 ∧ g.1.2.length = done.length ∧ ∀ rest, qs = done ++ rest -> msQ g.1.2 ++ ntl (msQ rest) = ntl (msQ qs)) ((R, []), none, none, none) ⟨⟨.refl G, λ _ m => nomatch m⟩, rfl, λ rest h => h ▸ rfl⟩ (λ done p rest g K hp h kn kr => ?_) λ g h => ?_
 rotate_left
 · exact w_fl C (k _ _ h.1 ((aq _).symm.trans (h.2.2 [] (aq _).symm)))
 have hd : done.length + 1 <= 50 := by have := congrArg bP hp; rw [aH, am] at this; lia
 have hg : (g.1.2.map encQ).length <= 2 ^ 20 := fJ (by have := h.2.1; lia)
 have hk := (hq p (hp ▸ aV _ (.head _))).pre h.1.gr.pre
 have hgl := h.1.gr.len
 have nx : ∀ R' u (ms : List Int) (s : Int), Gr g.1.1 R' 1 -> KOk R' u ms -> (ms, s) = ntl1 p.2 (sgM (msQ rest)) -> K .next [some (.l 1), some (.d (.list (qs.map encQ))), some (.d (.int ((cntP (λ q => inS [0] q.2.2) qs : Int) - 1))), some (.l (τ.length + 4)), some (.d (.int done.length)), some (.d (.int p.1)), some (.d (.int p.2.2))] (TS c (τ ++ [.list (g.1.2.map encQ ++ [encQ (u, ms, s)])]) R') := λ R' u ms s hr hk he => by
  have := kn ((R', g.1.2 ++ [(u, ms, s)]), some (.d (.int done.length)), some (.d (.int p.1)), some (.d (.int p.2.2))) ⟨by rw [aH]; exact h.1.snoc hr hk, by rw [aH, aH, h.2.1]; rfl, λ r2 h2 => by
   rw [aw, hp] at h2
   obtain rfl : rest = r2 := dH (List.append_cancel_left h2) |>.2
   rw [<- h.2.2 (p :: rest) hp]
   show (g.1.2 ++ [(u, ms, s)]).map (·.2) ++ _ = g.1.2.map (·.2) ++ (ntl1 p.2 _ :: _)
   rw [aU, aw, <- he]; rfl⟩
  rw [show (g.1.2 ++ [(u, ms, s)]).map encQ = g.1.2.map encQ ++ [encQ (u, ms, s)] from aU] at this
  exact this
 refine fM (fv rfl (fO hm) (hp ▸ row_mid encQ p rest done)) ?_
 have e2 : decide ((done.length : Int) < (cntP (λ q : Int × List Int × Int => inS [0] q.2.2) qs : Int) - 1) = decide (0 ∈ sgM (msQ rest)) := by
  rw [hp, cnt_ilt]
  exact (List.any_map ..).symm.trans (any_in 0 (λ e : List Int × Int => e.2) (msQ rest))
 have nx2 := nx g.1.1 p.1 p.2.1 p.2.2 (.refl h.1.gr.good) hk
 cases c1 : decide (p.2.2 = 1) with
 | false => exact cF c1 (cF c1 (w_prel (w_appl hg (nx2 (by unfold ntl1; rw [c1]; rfl)))))
 | true =>
  cases c2 : decide (0 ∈ sgM (msQ rest)) with
  | false => exact cT c1 (cF (e2.trans c2) (w_prel (w_appl hg (nx2 (by unfold ntl1; rw [c1, c2]; rfl)))))
  | true =>
   exact cT c1 (cT (e2.trans c2) (w_prel (undef_ok (n := n) (fh C rfl) h.1.gr.good (by lia) (B.trans h.1.gr.pre) hk λ R' u gr hu => w_appl hg (nx R' u _ 0 gr hu (by unfold ntl1; rw [c1, c2]; rfl)))))
end
section
variable {c : fH} {τ σ : fE} {R : List aA} {n j f k : Nat} {x : Int} {xs ys : List aA} {Q : Ps} {u v : V} {qs : Qs}
theorem slc_list {lo hi : Option Int} (h : listOf σ u = some xs) (hd : ((dataOf u).bind λ x => (tupD x).bind λ xs => ck (fits xs) (V.d (.tuple (cut xs lo hi)))) = none) (hf : xs.length <= 2 ^ 20) : slcD σ u lo hi = some (.d (.list (cut xs lo hi))) := by
 unfold slcD
 rw [hd, h]
 show Option.or none (ck (fits xs) _) = _
 rw [fO hf]; rfl
theorem clip_nat (k n : Nat) : clip (k : Int) n = min k n := by
 unfold clip; rw [if_neg (by lia), bT]
theorem take_min {α : Type} (l : List α) (k : Nat) : l.take (min k l.length) = l.take k := by
 rcases Nat.le_total k l.length with h | h
 · rw [et h]
 · rw [Nat.min_eq_right h, List.take_length, List.take_of_length_le h]
theorem drop_min {α : Type} (l : List α) (k : Nat) : l.drop (min k l.length) = l.drop k := by
 rcases Nat.le_total k l.length with h | h
 · rw [et h]
 · rw [Nat.min_eq_right h, List.drop_length, dK h]
theorem cut_hi (xs : List aA) (k : Nat) : cut xs none (some (k : Int)) = xs.take k := by
 show xs.take (clip k xs.length) = _
 rw [clip_nat, take_min]
theorem cut_lo (xs : List aA) (k : Nat) : cut xs (some (k : Int)) none = xs.drop k := by
 show (xs.take xs.length).drop (clip k xs.length) = _
 rw [clip_nat, List.take_length, drop_min]
theorem cut_both (xs : List aA) (j k : Nat) : cut xs (some (j : Int)) (some (k : Int)) = (xs.take k).drop j := by
 show (xs.take (clip k xs.length)).drop (clip j xs.length) = _
 rw [clip_nat, clip_nat, take_min]
 rcases Nat.le_total j xs.length with h | h
 · rw [et h]
 · rw [Nat.min_eq_right h, dK (List.length_take_le' ..), dK (aE (List.length_take_le' ..) h)]
theorem w_slc {Q : V -> Prop} (hf : xs.length <= 2 ^ 20) {lo hi : Option Int} (h : cut xs lo hi = ys) (q : Q (.d (.list ys))) : OW (slcD σ (.d (.list xs)) lo hi) Q := by
 rw [slc_list rfl rfl hf, h]; exact q
theorem w_intN {Q : Option Int -> Prop} (h : k <= 2 ^ 20) (q : Q (some (k : Int))) : OW (intN (.d (.int k))) Q := by
 show OW (ck (bV k 4611686018427387903) (some (k : Int))) Q
 rw [dA.mpr (aE h (by decide))]; exact q
theorem w_cat {Q : V × fE -> Prop} (hx : xs.length <= 2 ^ 20) (hy : ys.length <= 2 ^ 20) (q : Q (.d (.list (xs ++ ys)), σ)) : OW (op2 σ (.d (.list xs)) (.d (.list ys)) (.bin .Add)) Q :=
 w_bin (by
  show (ck (fits xs && fits ys) _) = _
  rw [fO hx, fO hy]; rfl) q
noncomputable def firstI (o : Option Nat) : Int := Option.casesOn o (-1) λ f => (f : Int)
theorem firstI_snoc (b : Bool) (o : Option Nat) (k : Nat) : firstI (o.or (cond b (some k) none)) = cond (decide (firstI o < 0)) (cond b (k : Int) (-1)) (firstI o) := by
 cases o with
 | none => cases b <;> rfl
 | some f => show (f : Int) = cond (decide ((f : Int) < 0)) _ (f : Int); rw [decide_eq_false (by lia)]; rfl
noncomputable abbrev isR (q : Int × List Int × Int) : Bool := decide (q.2.2 = 2)
theorem one_rest_first {K : Fs} {p0 p1 p2 x4 x5 x6 x7 : Option V} {O : Orc} (hl : qs.length <= 2 ^ 20) (h1 : p1 = some (.d (.list (qs.map encQ)))) (q : ∀ x4, K .next [p0, p1, p2, some (.d (.int (firstI (fstP isR qs)))), x4, x5, x6, x7] (TS c τ R)) :
 evX O (.forL (.one 4) (.range ()) (.mk (.bi 0) [(.v 1)]) [
 .ite (.and (.op (.cmp .Lt) (.v 3) (.c (.int 0))) (.op (.cmp .Eq) (.op (.sub ()) (.op (.sub ()) (.v 1) (.v 4)) (.c (.int 1))) (.c (.int 2)))) [
  .asg 3 (.v 4)] []]) [p0, p1, p2, some (.d (.int (-1))), x4, x5, x6, x7] (TS c τ R) K := by
 subst h1
 refine w_bi (len_list (fJ hl)) ?_
 rw [aG]
 refine loopN (ps := qs) hl (λ done x => [p0, some (.d (.list (qs.map encQ))), p2, some (.d (.int (firstI (fstP isR done)))), x, x5, x6, x7]) (λ _ _ => TS c τ R) (λ _ _ => True) x4 trivial (λ done p rest x K hp _ kn kr => ?_) λ x _ => ?_
 rotate_left
 · exact q x
 have kn := kn (some (.d (.int done.length))) trivial
 rw [fst_snoc, firstI_snoc] at kn
 cases c1 : decide (firstI (fstP isR done) < 0) with
 | false => rw [c1] at kn; exact cF c1 (cF c1 kn)
 | true =>
  have e : firstI (fstP isR done) = -1 := by
   have := of_decide_eq_true c1
   cases h : fstP isR done with
   | none => rfl
   | some f => rw [h] at this; exact (Int.not_lt.mpr (bj f) this).elim
  rw [c1, cond_true] at kn
  refine cT c1 (fM (fv rfl (fO (fJ hl)) (hp ▸ row_mid encQ p rest done)) (fM (a1 (aF rfl)) ?_))
  refine cB (λ h => ?_) λ h => ?_
  · rw [show isR p = true from h] at kn; exact kn
  · rw [show isR p = false from h] at kn; exact e ▸ kn
end
section
variable {c : fH} {τ : fE} {R R' S : List aA} {n i j g f k : Nat} {x : Int} {r : aA} {ys : List aA} {Q : Ps} {ms : List Int} {u v : V} {qs : Qs} {ps : List (Int × List Int)}
structure PsOk (R R' : List aA) (m : Nat) (ps : List (Int × List Int)) : Prop where
 gr : Gr R R' m
 ok : ∀ q ∈ ps, KOk R' q.1 q.2
theorem PsOk.snoc {q : Int × List Int} (h : PsOk R R' i ps) (g : Gr R' S j) (k : KOk S q.1 q.2) : PsOk R S (i + j) (ps ++ [q]) :=
 ⟨h.gr.trans g, λ x hx => (ae.mp hx).elim (λ m => (h.ok x m).pre g.pre) λ m => aM.mp m ▸ k⟩
theorem s20 {a : Nat} (h : a <= 100) : a <= 2 ^ 20 := aE h (by decide)
theorem s50 {a : Nat} (h : a <= 50) : a <= 100 := aE h (by decide)
theorem fst_map {α β : Type} {p : β -> Bool} (f : α -> β) : ∀ l : List α, fstP p (l.map f) = fstP (λ a => p (f a)) l
 | [] => rfl
 | a :: r => congrArg (λ o => cond (p (f a)) (some 0) (Option.map (· + 1) o)) (fst_map f r)
theorem w_intNe {Q : Option Int -> Prop} {z : Int} (e : z = (k : Int)) (h : k <= 2 ^ 20) (q : Q (some (k : Int))) : OW (intN (.d (.int z))) Q := by
 subst e; exact w_intN h q
theorem one_rest_held {md : Qs} {K : Fs} {p1 p2 p3 p4 : Option V} (C : Cl c τ = true) (G : Good R) (B : base <+: R) (hq : ∀ q ∈ md, KOk R q.1 q.2.1) (hl : md.length <= 50) (hf : R.length + 100 <= 2 ^ 20)
 (k : ∀ R' ps x6 x7, PsOk R R' md.length ps -> ps.length = md.length -> ps.flatMap (·.2) = (msQ md).flatMap held1 -> K .next [some (.l 1), p1, p2, p3, p4, some (.l (τ.length + 4)), x6, x7] (TS c (τ ++ [.list (ps.map λ p => .int p.1)]) R')) :
 OW ((It.seq (.d (.list (md.map encQ)))).len (TS c (τ ++ [.list []]) R)) λ m => evLoop (fc (OO (n + 4)) [.ex (.op (.app ()) (.v 5) (.ite (.op (.cmp .Eq) (.v 7) (.c (.int 1))) (.mk (.call 17) [(.v 0), (.v 6)]) (.v 6)))]) (.many [6, 7]) (.seq (.d (.list (md.map encQ)))) m 0 [some (.l 1), p1, p2, p3, p4, some (.l (τ.length + 4)), none, none] (TS c (τ ++ [.list []]) R) K := by
 refine loopL (ps := md) (γ := (List aA × List (Int × List Int)) × Option V × Option V) encQ (λ done g => [some (.l 1), p1, p2, p3, p4, some (.l (τ.length + 4)), g.2.1, g.2.2]) (λ done g => TS c (τ ++ [.list (g.1.2.map λ p => .int p.1)]) g.1.1)
  (λ done g => PsOk R g.1.1 done.length g.1.2 ∧ g.1.2.map (·.2) = done.map λ q => held1 q.2) ((R, []), none, none) ⟨⟨.refl G, λ _ m => nomatch m⟩, rfl⟩ (λ done g _ => rfl) (λ done p rest g K hp h kn kr => ?_) λ g h => ?_
 rotate_left
 · refine k _ _ _ _ h.1 (by have := congrArg bP h.2; rwa [aG, aG] at this) ?_
   rw [List.flatMap_def, h.2, List.flatMap_def, bE]; rfl
 have hd : done.length + 1 <= 50 := by have := congrArg bP hp; rw [aH, am] at this; lia
 have hlen : g.1.2.length = done.length := by have := congrArg bP h.2; rwa [aG, aG] at this
 have hg : (g.1.2.map λ p => aS p.1).length <= 2 ^ 20 := fJ (by lia)
 have hk := (hq p (hp ▸ aV _ (.head _))).pre h.1.gr.pre
 have hgl := h.1.gr.len
 have nx : ∀ R' u (ms : List Int), Gr g.1.1 R' 1 -> KOk R' u ms -> ms = held1 p.2 -> K .next [some (.l 1), p1, p2, p3, p4, some (.l (τ.length + 4)), some (.d (.int p.1)), some (.d (.int p.2.2))] (TS c (τ ++ [.list ((g.1.2.map λ p => aS p.1) ++ [.int u])]) R') := λ R' u ms hr hk he => by
  have := kn ((R', g.1.2 ++ [(u, ms)]), some (.d (.int p.1)), some (.d (.int p.2.2))) ⟨by rw [aH]; exact h.1.snoc hr hk, by
   show (g.1.2 ++ [(u, ms)]).map (·.2) = _
   rw [aU, h.2, aU, he]; rfl⟩
  rw [show (g.1.2 ++ [(u, ms)]).map (λ p => aS p.1) = (g.1.2.map λ p => .int p.1) ++ [.int u] from aU] at this
  exact this
 refine w_prel ?_
 cases c1 : decide (p.2.2 = 1) with
 | false => exact cF c1 (w_appl hg (nx g.1.1 p.1 p.2.1 (.refl h.1.gr.good) hk (by unfold held1; rw [c1]; rfl)))
 | true => exact cT c1 (undef_ok (n := n) (fh C rfl) h.1.gr.good (by lia) (B.trans h.1.gr.pre) hk λ R' u gr hu => w_appl hg (nx R' u _ gr hu (by unfold held1; rw [c1]; rfl)))
theorem one_rest_ok (C : Cl c τ = true) (G : Good R) (B : base <+: R) (hq : ∀ q ∈ qs, KOk R q.1 q.2.1) (hl : qs.length <= 49) (hf : R.length + 200 <= 2 ^ 20) (hk : k <= qs.length)
 (K : ∀ R' qs', QsOk R R' (qs.length + 1) qs' -> msQ qs' = oneR (msQ qs) k -> Q (.d (.list (qs'.map encQ))) (TS c τ R')) : fY (OO (n + 5)) 7 [.l 1, .d (.list (qs.map encQ)), .d (.int ((k : Int) - 1))] (TS c τ R) Q := by
 have l49 : qs.length <= 100 := aE hl (by decide)
 have hm : (qs.map encQ).length <= 2 ^ 20 := fJ (s20 l49)
 have hms : ∀ o, fstP isR qs = o -> fstP (λ e : List Int × Int => decide (e.2 = 2)) (msQ qs) = o := λ o h => (fst_map ..).trans h
 have same : oneR (msQ qs) k = msQ qs -> Q (.d (.list (qs.map encQ))) (TS c τ R) := λ e => K R qs ⟨.refl G, hq⟩ e.symm
 refine rg rfl <| one_rest_first (s20 l49) rfl λ x4 => ?_
 cases hF : fstP isR qs with
 | none => exact w_fin C (same (oneR_none k (hms _ hF)))
 | some f =>
  have hO := oneR_some k (hms _ hF)
  by_cases hkf : k <= f + 1
  · rw [dA.mpr hkf] at hO
    exact cT (c := decide ((k : Int) - 1 <= (f : Int))) (decide_eq_true (by lia)) (w_fin C (same hO))
  · rw [show bV k (f + 1) = false from bY.mpr λ q => hkf (dA.mp q)] at hO
    have k100 := aE hk l49
    have fk : f <= k := bt (Nat.lt_of_succ_lt (Nat.not_le.mp hkf))
    have f20 := s20 (aE fk k100)
    refine cF (c := decide ((k : Int) - 1 <= (f : Int))) (decide_eq_false (by lia)) (w_intN f20 (w_intNe (k := k) (Int.sub_add_cancel ..) (s20 k100) (w_slc (ys := ((qs.take k).drop f).map encQ) hm (by rw [cut_both, c9, dR]) ?_)))
    have ml : ((qs.take k).drop f).length = k - f := by rw [cg, dq, et hk]
    have mo : ∀ q ∈ (qs.take k).drop f, KOk R q.1 q.2.1 := λ q h => hq q (List.mem_of_mem_take (List.mem_of_mem_drop h))
    have mk : ((qs.take k).drop f).length <= qs.length := ml ▸ aE (Nat.sub_le ..) hk
    refine one_rest_held (n := n) C G B mo (aE mk (Nat.le_succ_of_le hl)) (aE (bU (by decide) _) hf) λ R₁ ps x6 x7 hp hpl he => w_intN f20 (w_slc (ys := (qs.take f).map encQ) hm (by rw [cut_hi, dR]) ?_)
    have g1 := aE hp.gr.len (bU mk _)
    have g3 : R₁.length < 2 ^ 20 := by clear ml mk hpl; lia
    refine union_k (n := n + 1) (ps := ps) (fh C rfl) hp.gr.good g3 (B.trans hp.gr.pre) (congrArg (·.bind cL) (getc τ _)) hp.ok (λ e => by rw [e] at hpl; exact Nat.sub_ne_zero_of_lt (Nat.lt_of_succ_lt (Nat.not_le.mp hkf)) (hpl.trans ml).symm) (hpl ▸ aE mk l49) λ R₂ u g2 hu => ?_
    have gp := hp.gr.pre.trans g2.pre
    have tl : (qs.take f).length <= 100 := aE (List.length_take_le ..) (aE fk k100)
    refine w_cat (fJ (s20 tl)) (aF rfl) (w_intNe (k := k) (Int.sub_add_cancel ..) (s20 k100) (w_slc (ys := (qs.drop k).map encQ) hm (by rw [cut_lo, c9]) (w_cat ?_ (fJ (s20 (aE (cg .. ▸ Nat.sub_le ..) l49))) (w_fina C ?_))))
    · rw [aH, aG]; exact aE (bG tl) (by decide)
    · have := K R₂ (qs.take f ++ (u, uni (ps.flatMap (·.2)), 2) :: qs.drop k) ⟨(hp.gr.trans g2).mono (bG mk), λ q m => ?_⟩ ?_
      · rw [aw]
        rw [aU] at this
        exact this
      · rcases ae.mp m with m | m
        · exact (hq q (List.mem_of_mem_take m)).pre gp
        rcases aP.mp m with rfl | m
        · exact hu
        · exact (hq q (List.mem_of_mem_drop m)).pre gp
      · rw [hO, he]
        show (qs.take f ++ _ :: qs.drop k).map (·.2) = (qs.map (·.2)).take f ++ (uni ((((qs.map (·.2)).take k).drop f).flatMap held1), 2) :: (qs.map (·.2)).drop k
        rw [aU, <- dR, <- dR, <- c9, <- c9]; rfl
end
inductive Lst (R : List aA) (ro id : Int) : Ms -> Prop
 | one {q : Int × List Int × Int} : q.2.2 = 2 -> Atoms R q.1 q.2.1 -> fN R id = some (.tuple [.int 11, .int q.1, .int ro]) -> Lst R ro id (msQ [q])
 | many {qs : Qs} : (∀ q ∈ qs, Atoms R q.1 q.2.1) -> qs.length <= 50 -> (∀ q, qs = [q] -> q.2.2 ≠ 2) -> fN R id = some (.tuple [.int 12, .tuple (qs.map encQ), .int ro]) -> Lst R ro id (msQ qs)
section
variable {c : fH} {τ : fE} {R R' : List aA} {n i g k : Nat} {t x ro id : Int} {r : aA} {Q : Ps} {ms : List Int} {v : V} {qs : Qs} {l : Ms}
theorem Lst.pre (h : Lst R ro id l) (p : R <+: R') : Lst R' ro id l := h.casesOn (λ h0 h1 h2 => .one h0 (h1.pre p) (fK p h2)) λ h0 h1 h2 h3 => .many (λ q m => (h0 q m).pre p) h1 h2 (fK p h3)
theorem ok_enc (m : Nat) : ∀ qs : Qs, okYs (qs.map encQ) (m + 1) = true
 | [] => rfl
 | q :: r => ok_enc m r
theorem ok_row (qs : Qs) (ro : Int) : okK 8 (.tuple [.int 12, .tuple (qs.map encQ), .int ro]) = true := by
 show (true && (okYs (qs.map encQ) 6 && (true && true))) = true
 rw [ok_enc]; rfl
theorem cnt_zero {α : Type} {p : α -> Bool} : ∀ {l : List α}, (∀ a ∈ l, p a = false) -> cntP p l = 0
 | [], _ => rfl
 | a :: r, h => by
  show up1 (p a) _ = 0
  rw [h a (.head _), cnt_zero λ b hb => h b (.tail _ hb)]; rfl
theorem cnt_pos {α : Type} {p : α -> Bool} {l : List α} {a : α} (h : a ∈ l) (k : p a = true) : 0 < cntP p l :=
 a9.mp ((cnt_any p l).symm.trans (bW.mpr ⟨a, h, k⟩))
theorem rows_lc {p2 p3 p4 p5 p6 p7 p8 : Option V} {O : Orc} (C : Cl c τ = true) (hl : qs.length <= 100) (q : Q (.d (.list (qs.map encQ))) (TS c τ R)) :
 evE O (.lc false (.mk (.tup ()) [(.v 5), (.v 6)]) (.many [5, 6]) (.ex ()) (.v 1) (.c (.bool true))) [p2, some (.d (.tuple (qs.map encQ))), p3, p4, p5, p6, p7, p8] (TS c τ R) Q := by
 refine compM encQ (λ q => [encQ q]) 100 (λ acc i => rfl) ?_ (λ q hq acc K hN hk => ?_) ?_
 · rw [fW]; show 0 + _ <= _; rw [bB, aG]; exact hl
 · exact w_appc (s20 (ab hN)) hk
 · rw [fW]
   exact w_fl C q
theorem sg_in {q : Int × List Int × Int} (h : q.2.2 = 0 ∨ q.2.2 = 1 ∨ q.2.2 = 2) : inS [3] q.2.2 = false ∧ inS [2, 1] q.2.2 = nz q.2.2 := by
 rcases h with h | h | h <;> rw [h] <;> exact ⟨rfl, rfl⟩
theorem tuple_ok (C : Cl c τ = true) (G : Good R) (B : base <+: R) (hq : ∀ q ∈ qs, KOk R q.1 q.2.1) (hs : ∀ q ∈ qs, ∃ x, q.2.1 = [x]) (hg : ∀ q ∈ qs, q.2.2 = 0 ∨ q.2.2 = 1 ∨ q.2.2 = 2) (hl : qs.length <= 20) (hf : R.length + 300 <= 2 ^ 20)
 (k : ∀ R' t, Gr R R' (2 * qs.length + 2) -> Lst R' ro t (settled (msQ qs)) -> Q (.d (.int t)) (TS c τ R')) : fY (OO (n + 6)) 8 [.l 1, .d (.tuple (qs.map encQ)), .d (.int ro)] (TS c τ R) Q := by
 have l50 : qs.length <= 50 := aE hl (by decide)
 refine rg rfl <| rows_lc C (s50 l50) <| last_mark_ok (n := n + 4) (ms := [3]) C (aE hl (by decide)) ?_
 rw [cnt_zero λ q m => (sg_in (hg q m)).1]
 refine last_mark_ok (n := n + 4) (ms := [2, 1]) C (aE hl (by decide)) ?_
 rw [cnt_congr λ q m => (sg_in (hg q m)).2]
 refine needed_ok (n := n) C G B hq l50 (aE (bU (by decide) _) hf) λ R₁ qs₁ h1 e1 => ?_
 have l1 : qs₁.length = qs.length := by
  have := congrArg bP e1
  rwa [ntl_length, aG, aG] at this
 have g1 := h1.gr.len
 have hset : oneR (msQ qs₁) (cntP (λ q : Int × List Int × Int => nz q.2.2) qs) = settled (msQ qs) := by
  rw [e1, <- settled_eq λ e he => ?_]
  · congr 1; exact (cnt_map (p := λ e : List Int × Int => nz e.2) (·.2) qs).symm
  · obtain ⟨q, m, rfl⟩ := aj.mp he; exact hs q m
 refine one_rest_ok (n := n) C h1.gr.good (B.trans h1.gr.pre) h1.ok (by lia) (by lia) (l1 ▸ cnt_le _ qs) λ R₂ qs₂ h2 e2 => ?_
 have l2 : qs₂.length <= 21 := by
  have := oneR_length (msQ qs₁) (cntP (λ q : Int × List Int × Int => nz q.2.2) qs)
  rw [<- e2, aG, aG] at this; lia
 have g2 := h2.gr.len
 rw [l1] at g2
 have hm2 : (qs₂.map encQ).length <= 2 ^ 20 := fJ (s20 (aE l2 (by decide)))
 have hgr : ∀ {R'}, Gr R₂ R' 1 -> Gr R R' (2 * qs.length + 2) := λ g => ((h1.gr.trans h2.gr).trans g).mono (by lia)
 rw [hset] at e2
 have put : (∀ q, qs₂ = [q] -> q.2.2 ≠ 2) -> fY (OO (n + 5)) 1 [.l 1, .d (.tuple [.int 12, .tuple (qs₂.map encQ), .int ro])] (TS c τ R₂) λ v σ' => WP (fin (τ.length + 4) v σ') Q := λ h =>
  put_ok (n := n + 4) C h2.gr.good (by lia) (ok_row qs₂ ro) λ R₃ t g hr => w_fin C (k R₃ t (hgr g) (e2 ▸ .many (λ q m => ((h2.ok q m).pre g.pre).at') (aE l2 (by decide)) h hr))
 by_cases c1 : qs₂.length = 1
 · obtain ⟨q, rfl⟩ := eQ.mp c1
   by_cases c2 : q.2.2 = 2
   · have f2 : R₂.length < 2 ^ 20 := by lia
     refine cT (c := decide (q.2.2 = 2)) (decide_eq_true c2) (rg rfl <| put_ok (n := n + 3) C h2.gr.good f2 rfl λ R₃ t g hr => w_fin C (w_fin C (k R₃ t (hgr g) (e2 ▸ .one c2 ((h2.ok q (.head _)).pre g.pre).at' hr))))
   · exact cF (c := decide (q.2.2 = 2)) (decide_eq_false c2) (put λ q' e => by obtain rfl := dH e |>.1; exact c2)
 · have c1' : decide (((qs₂.map encQ).length : Int) = 1) = false := decide_eq_false (by rw [aG]; lia)
   exact w_bi (len_list hm2) (cF c1' (cF c1' (w_bi (tup_list hm2) (put λ q e => (c1 (e ▸ rfl)).elim))))
theorem tuple_spread (C : Cl c τ = true) (G : Good R) (hq : ∀ q ∈ qs, Atoms R q.1 q.2.1) (hs : ∃ q ∈ qs, q.2.2 = 3) (hl : qs.length <= 20) (hf : R.length + 300 <= 2 ^ 20)
 (k : ∀ R' t, Gr R R' 1 -> Lst R' ro t (msQ qs) -> Q (.d (.int t)) (TS c τ R')) : fY (OO (n + 6)) 8 [.l 1, .d (.tuple (qs.map encQ)), .d (.int ro)] (TS c τ R) Q := by
 have l50 : qs.length <= 50 := aE hl (by decide)
 refine rg rfl <| rows_lc C (s50 l50) <| last_mark_ok (n := n + 4) (ms := [3]) C (aE hl (by decide)) ?_
 obtain ⟨q, m, hq3⟩ := hs
 have hp : 0 < cntP (λ q : Int × List Int × Int => inS [3] q.2.2) qs := cnt_pos m (by rw [hq3]; rfl)
 refine cF (c := decide (((cntP (λ q : Int × List Int × Int => inS [3] q.2.2) qs : Nat) : Int) - 1 < 0)) (decide_eq_false (by lia)) (w_bi (tup_list (fJ (s20 (s50 l50)))) (put_ok (n := n + 4) C G (by lia) (ok_row qs ro) λ R₃ t g hr => w_fin C (k R₃ t g (.many (λ q m => (hq q m).pre g.pre) l50 (λ q' e => ?_) hr))))
 subst e
 rw [<- aM.mp m, hq3]; decide
end
noncomputable def OPN : List Int := [10, 14, 15, 16, 17, 19]
abbrev Flat := List (Int × Int)
noncomputable def encE (p : Int × Int) : aA := .tuple [.int p.1, .int p.2]
inductive Opn (R : List aA) (t : Int) : Bool -> Prop
 | kind {k : Int} : Kd R t k -> k ∉ [6, 7, 12, 18] -> Opn R t (decide (k ∈ OPN))
 | tup {es : Flat} {ro : Int} : fN R t = some (.tuple [.int 12, .tuple (es.map encE), .int ro]) -> es.length <= 100 -> Opn R t (es.any λ p => decide (p.2 = 3))
inductive OpE (R : List aA) (t : Int) : Bool -> Prop
 | one {b : Bool} : Opn R t b -> OpE R t b
 | met {f : Nat -> Int} (ps : List Nat) (g : Nat -> Bool) : fN R t = some (.tuple [.int 7, .tuple (ps.map λ k => .int (f k))]) -> (∀ p ∈ ps, Opn R (f p) (g p)) -> OpE R t (ps.any g)
inductive LpOk (R : List aA) (t : Int) : Int -> Prop
 | id {k : Int} : Kd R t k -> k ≠ 7 -> LpOk R t t
 | opn {xs : List aA} : fN R t = some (.tuple [.int 7, .tuple xs]) -> OpE R t true -> LpOk R t t
 | met {f : Nat -> Int} (ps : List Nat) (l : Nat -> Bool) : fN R t = some (.tuple [.int 7, .tuple (ps.map λ k => .int (f k))]) -> OpE R t false -> (∀ p ∈ ps, ∃ k, Kd R (f p) k ∧ l p = decide (k ∈ [11, 12])) -> LpOk R t (((ps.find? l).map f).getD t)
inductive Cut (R : List aA) (t : Int) : Flat -> Prop
 | arr {p e ro : Int} : LpOk R t p -> fN R p = some (.tuple [.int 11, .int e, .int ro]) -> Cut R t [(e, 2)]
 | tup {p ro : Int} {es : Flat} : LpOk R t p -> es.length <= 100 -> fN R p = some (.tuple [.int 12, .tuple (es.map encE), .int ro]) -> Cut R t es
 | any {k : Int} : t = 0 -> Kd R 0 k -> k ∉ [7, 11, 12] -> Cut R t [(0, 2)]
 | els {p k : Int} {b : Bool} : LpOk R t p -> Kd R p k -> k ∉ [11, 12] -> t ≠ 0 -> OpE R t b -> Cut R t [cond b (t, 3) (1, 2)]
section
variable {c : fH} {τ σ : fE} {R R' : List aA} {n i f : Nat} {t x ro id k p : Int} {y : aA} {xs : List aA} {Q : Ps} {ps : List Int} {b : Bool} {fl : Flat}
theorem Opn.pre (h : Opn R t b) (p : R <+: R') : Opn R' t b := h.casesOn (λ h1 h2 => .kind (h1.pre p) h2) λ h1 h2 => .tup (fK p h1) h2
theorem OpE.pre (h : OpE R t b) (p : R <+: R') : OpE R' t b := h.casesOn (λ h => .one (h.pre p)) λ ps g h1 h2 => .met ps g (fK p h1) λ q m => (h2 q m).pre p
theorem LpOk.pre (h : LpOk R t x) (p : R <+: R') : LpOk R' t x := h.casesOn (λ h1 h2 => .id (h1.pre p) h2) (λ h1 h2 => .opn (fK p h1) (h2.pre p)) λ ps l h1 h2 h3 => .met ps l (fK p h1) (h2.pre p) λ q m => let ⟨k, a, b⟩ := h3 q m; ⟨k, a.pre p, b⟩
theorem Cut.pre (h : Cut R t fl) (p : R <+: R') : Cut R' t fl := h.casesOn (λ h1 h2 => .arr (h1.pre p) (fK p h2)) (λ h1 h2 h3 => .tup (h1.pre p) h2 (fK p h3)) (λ h0 h1 h2 => .any h0 (h1.pre p) h2) λ h1 h2 h3 h4 h5 => .els (h1.pre p) (h2.pre p) h3 h4 (h5.pre p)
theorem nin {l : List Int} {k z : Int} (h : k ∉ l) (m : decide (z ∈ l) = true) : decide (k = z) = false := decide_eq_false λ e => h (e ▸ of_decide_eq_true m)
theorem mem_c (l : List Int) {b : Bool} (h : decide (k ∈ l) = b) : ((l.map aS).any λ y => eqD y (.int k)) = b := (any_ints k l).trans h
theorem open_ok (C : Cl c τ = true) (hf : fits R = true) (h : Opn R t b) (q : Q (.d (.bool b)) (TS c τ R)) : fY (OO (n + 1)) 26 [.l 1, .d (.int t)] (TS c τ R) Q := by
 cases h with
 | @kind k h1 h2 =>
  obtain ⟨xs, h1, h3⟩ := h1
  have z := λ {f : V × fE -> Prop} => fM (σ := TS c τ R) (Q := f) (a0 (x := .int k) (le10 h3))
  refine rg rfl <| fM (fQ hf h1) (z ?_)
  cases ho : decide (k ∈ OPN) with
  | true => rw [ho] at q; exact cT (mem_c OPN ho) (w_fin C q)
  | false => rw [ho] at q; refine cF (mem_c OPN ho) ?_; exact z (cF (nin h2 rfl) (z (cF (nin h2 rfl) (z (cF (nin h2 rfl) (z (cF (nin h2 rfl) (w_fin C q))))))))
 | @tup es ro h1 h2 =>
  refine rg rfl <| fM (fQ hf h1) (loopD (ps := es) (γ := Option V) encE (λ _ x => [some (.l 1), some (.d (.int t)), some (.d (.tuple [.int 12, .tuple (es.map encE), .int ro])), none, x, none]) (λ _ _ => TS c τ R) (λ done _ => (done.any λ p => decide (p.2 = 3)) = false) none rfl (λ _ _ _ _ => rfl) (λ done p rest g K hp h kn kr => ?_) λ g h => ?_)
  rotate_left
  · rw [h] at q; exact w_fin C q
  refine cB (λ h3 => ?_) λ h3 => ?_
  · rw [show (es.any λ p => decide (p.2 = 3)) = true from bW.mpr ⟨p, hp ▸ aV _ (.head _), h3⟩] at q
    exact kr _ _ _ (w_fin C q)
  · exact kn (some (.d (encE p))) (by rw [List.any_append, h]; show (decide (p.2 = 3) || false) = false; rw [show decide (p.2 = 3) = false from h3]; rfl)
theorem ope_ok (C : Cl c τ = true) (hf : fits R = true) (h : OpE R t b) (q : Q (.d (.bool b)) (TS c τ R)) : fY (OO (n + 2)) 26 [.l 1, .d (.int t)] (TS c τ R) Q := by
 cases h with
 | one h => exact open_ok C hf h q
 | @met f ps g h1 h2 =>
  refine rg rfl <| fM (fQ hf h1) (loopD (ps := ps) (γ := Option V) (λ k => .int (f k)) (λ _ x => [some (.l 1), some (.d (.int t)), some (.d (.tuple [.int 7, .tuple (ps.map λ k => .int (f k))])), x, none, none]) (λ _ _ => TS c τ R) (λ done _ => (done.any g) = false) none rfl (λ _ _ _ _ => rfl) (λ done p rest x K hp h kn kr => ?_) λ x h => ?_)
  rotate_left
  · rw [h] at q; exact w_fin C q
  have hm : p ∈ ps := hp ▸ aV _ (.head _)
  refine open_ok (n := n) C hf (h2 p hm) (cB (λ h3 => ?_) λ h3 => ?_)
  · rw [show ps.any g = true from bW.mpr ⟨p, hm, h3⟩] at q
    exact kr _ _ _ (w_fin C q)
  · exact kn (some (.d (.int (f p)))) (by rw [List.any_append, h]; show (g p || false) = false; rw [h3]; rfl)
theorem lp_ok (C : Cl c τ = true) (hf : fits R = true) (h : LpOk R t x) (q : Q (.d (.int x)) (TS c τ R)) : fY (OO (n + 3)) 31 [.l 1, .d (.int t)] (TS c τ R) Q := by
 cases h with
 | @id k h1 h2 =>
  obtain ⟨xs, h1, h3⟩ := h1
  exact rg rfl <| fM (fQ hf h1) (fM (a0 (le10 h3)) (cF (c := decide (k = 7)) (decide_eq_false h2) (cF (c := decide (k = 7)) (decide_eq_false h2) (w_fin C q))))
 | opn h1 h2 => exact rg rfl <| fM (fQ hf h1) (ope_ok (n := n) C hf h2 (w_fin C q))
 | @met f ps l h1 h2 h3 =>
  refine rg rfl <| fM (fQ hf h1) (ope_ok (n := n) C hf h2 (loopD (ps := ps) (γ := Option V) (λ k => .int (f k)) (λ _ x => [some (.l 1), some (.d (.int t)), some (.d (.tuple [.int 7, .tuple (ps.map λ k => .int (f k))])), x]) (λ _ _ => TS c τ R) (λ done _ => done.find? l = none) none rfl (λ _ _ _ _ => rfl) (λ done p rest x K hp h kn kr => ?_) λ x h => ?_))
  rotate_left
  · rw [h] at q; exact w_fin C q
  obtain ⟨k, ⟨xs, h4, h5⟩, h6⟩ := h3 p (hp ▸ aV _ (.head _))
  refine fM (fQ hf h4) (fM (a0 (le10 h5)) ?_)
  cases h7 : decide (k ∈ [11, 12]) with
  | true =>
   refine cT (mem_c [11, 12] h7) ?_
   rw [show ps.find? l = some p by rw [hp, List.find?_append, h, List.find?_cons, h6, h7]; rfl] at q
   exact kr _ _ _ (w_fin C q)
  | false => exact cF (mem_c [11, 12] h7) <| kn (some (.d (.int (f p)))) (by rw [List.find?_append, h, List.find?_cons, h6, h7]; rfl)
theorem cut_ok (C : Cl c τ = true) (hf : fits R = true) (h : Cut R t fl) (q : Q (.d (.list (fl.map encE))) (TS c τ R)) : fY (OO (n + 4)) 32 [.l 1, .d (.tuple [.int t, .int 3])] (TS c τ R) Q := by
 cases h with
 | arr h1 h2 => exact rg rfl <| lp_ok (n := n) C hf h1 (fM (fQ hf h2) (w_fin C q))
 | @tup p ro es h1 h2 h3 =>
  refine rg rfl <| lp_ok (n := n) C hf h1 (fM (fQ hf h3) (compM encE (λ q => [encE q]) 100 (λ acc i => rfl) ?_ (λ q hq acc K hN hk => ?_) ?_))
  · rw [fW]; show 0 + _ <= _; rw [bB, aG]; exact h2
  · exact w_appc (s20 (ab hN)) hk
  · rw [fW]
    exact w_fl C (w_fin C q)
 | @any k h0 h1 h2 =>
  subst h0
  have h7 : k ≠ 7 := λ e => h2 (e ▸ .head _)
  obtain ⟨xs, h3, h4⟩ := h1
  have z := λ {f : V × fE -> Prop} => fM (σ := TS c τ R) (Q := f) (a0 (x := .int k) (le10 h4))
  exact rg rfl <| lp_ok (n := n) C hf (.id ⟨xs, h3, h4⟩ h7) (fM (fQ hf h3) (z (cF (nin h2 rfl) (z (cF (nin h2 rfl) (w_fin C q))))))
 | @els p k b h1 h2 h3 h4 h5 =>
  obtain ⟨xs, h6, h7⟩ := h2
  have z := λ {f : V × fE -> Prop} => fM (σ := TS c τ R) (Q := f) (a0 (x := .int k) (le10 h7))
  refine rg rfl <| lp_ok (n := n) C hf h1 (fM (fQ hf h6) (z (cF (nin h3 rfl) (z (cF (nin h3 rfl) (cF (c := decide (t = 0)) (decide_eq_false h4) (ope_ok (n := n + 1) C hf h5 ?_)))))))
  cases b with
  | true => exact w_fin C q
  | false => exact w_fin C q
end
noncomputable def encP (p : Str × Int) : aA := .tuple [.str p.1, .int p.2, .int 0, .int 0]
noncomputable abbrev leafNo : List Int := [11, 14, 15, 16, 17, 6, 7, 8, 9, 19, 18, 12, 13]
inductive Fine : aA -> List Int -> Prop
 | leaf {k : Int} {xs : List aA} : k ∉ leafNo -> xs.length <= 10 -> Fine (.tuple (.int k :: xs)) []
 | arr {e ro : Int} : Fine (.tuple [.int 11, .int e, .int ro]) [e]
 | kof {e : Int} : Fine (.tuple [.int 14, .int e]) [e]
 | idx {a b : Int} : Fine (.tuple [.int 15, .int a, .int b]) [a, b]
 | uni {ks : List Int} : ks.length <= 100 -> Fine (.tuple [.int 6, .tuple (ks.map .int)]) ks
 | met {ks : List Int} : ks.length <= 100 -> Fine (.tuple [.int 7, .tuple (ks.map .int)]) ks
 | obj {ps : List (Str × Int)} : ps.length <= 100 -> Fine (.tuple [.int 8, .tuple (ps.map encP), .tuple [], .tuple [], .tuple [], .tuple [], .int 0]) (ps.map (·.2))
 | tup {es : Flat} {ro : Int} : es.length <= 100 -> Fine (.tuple [.int 12, .tuple (es.map encE), .int ro]) (es.map (·.1))
noncomputable def toI (x : aA) : Int := (intD x).getD 0
noncomputable def tupL (x : aA) : List aA := (tupD x).getD []
noncomputable def nthL (n : Nat) (l : List aA) : aA := (l[n]?).getD .none
noncomputable def kidsK (k : Int) (xs : List aA) : List Int :=
 cond (decide (k = 11)) [toI (nthL 0 xs)] (cond (decide (k = 14)) [toI (nthL 0 xs)] (cond (decide (k = 15)) [toI (nthL 0 xs), toI (nthL 1 xs)]
  (cond (decide (k = 6)) ((tupL (nthL 0 xs)).map toI) (cond (decide (k = 7)) ((tupL (nthL 0 xs)).map toI)
  (cond (decide (k = 8)) ((tupL (nthL 0 xs)).map λ x => toI (nthL 1 (tupL x))) (cond (decide (k = 12)) ((tupL (nthL 0 xs)).map λ x => toI (nthL 0 (tupL x))) []))))))
noncomputable def kidsOf (row : aA) : List Int := kidsK (toI (nthL 0 (tupL row))) (tupL row).tail
section
variable {c : fH} {τ σ : fE} {R : List aA} {n i f : Nat} {ro k p : Int} {row : aA} {xs : List aA} {Q : Ps} {ks : List Int} {v : V} {b : Bool} {O : Orc}
theorem map_back {α β : Type} {f : α -> β} {g : β -> α} (h : ∀ a, g (f a) = a) (l : List α) : (l.map f).map g = l := by
 rw [bE]
 exact (cY λ a _ => h a).trans (List.map_id l)
theorem Fine.kids (h : Fine row ks) : kidsOf row = ks := by
 cases h with
 | @leaf k xs hk hl =>
  show kidsK k xs = []
  unfold kidsK
  rw [nin hk rfl, nin hk rfl, nin hk rfl, nin hk rfl, nin hk rfl, nin hk rfl, nin hk rfl]; rfl
 | arr => rfl
 | kof => rfl
 | idx => rfl
 | uni => exact map_back (λ _ => rfl) ks
 | met => exact map_back (λ _ => rfl) ks
 | obj => exact bE
 | tup => exact bE
theorem Fine.kind (h : Fine row ks) : ∃ k xs, row = .tuple (.int k :: xs) ∧ xs.length <= 10 ∧ k ∉ [13, 16, 17] := by
 have e : ∀ {k : Int}, decide (k ∉ [13, 16, 17]) = true -> k ∉ [13, 16, 17] := of_decide_eq_true
 have l : ∀ {n : Nat}, bV n 10 = true -> n <= 10 := aF
 cases h with
 | @leaf k xs hk hl => exact ⟨k, xs, rfl, hl, λ m => hk (aL.mpr ⟨by decide, aL.mpr ⟨by decide, aL.mpr ⟨by decide, λ _ m => nomatch m⟩⟩⟩ k m)⟩
 | arr => exact ⟨_, _, rfl, l rfl, e rfl⟩
 | kof => exact ⟨_, _, rfl, l rfl, e rfl⟩
 | idx => exact ⟨_, _, rfl, l rfl, e rfl⟩
 | uni => exact ⟨_, _, rfl, l rfl, e rfl⟩
 | met => exact ⟨_, _, rfl, l rfl, e rfl⟩
 | obj => exact ⟨_, _, rfl, l rfl, e rfl⟩
 | tup => exact ⟨_, _, rfl, l rfl, e rfl⟩
theorem copy_ok {α : Type} {ps : List α} {f : α -> aA} {it : It} {e : EX} {p0 p1 p2 p3 p4 p5 p6 : Option V} {P : fE -> Prop} (g : α -> Int) (hl : ps.length <= 100) (hit : ∀ acc i, it.at (TS c τ R ++ [fH.list acc]) i = some (ps.map f)[i]?)
 (he : ∀ a acc (Q : Ps), Q (.d (.int (g a))) (TS c τ R ++ [.list acc]) -> evE O e [p0, p1, p2, p3, some (.d (f a)), p5, p6] (TS c τ R ++ [.list acc]) Q) (q : P (TS c (τ ++ [.list ((ps.map g).map .int)]) R)) :
 fq (sTurn (evE O (.c (.bool true))) (evE O e) (τ.length + 4)) (.one 4) it [p0, p1, p2, p3, p4, p5, p6] (ps.map f).length 0 (TS c τ R ++ [.list []]) P := by
 refine compM f (λ a => [.int (g a)]) 100 hit ?_ (λ a ha acc K hN hk => he a acc _ (w_appc (s20 (ab hN)) hk)) ?_
 · rw [fW]; show 0 + _ <= _; rw [bB, aG]; exact hl
 · rw [fW, show (ps.map λ a => aS (g a)) = (ps.map g).map .int from bE.symm]; exact q
theorem copy_ints {it : It} {p0 p1 p2 p3 p4 p5 p6 : Option V} {P : fE -> Prop} (ks : List Int) (hl : ks.length <= 100) (hit : ∀ acc i, it.at (TS c τ R ++ [fH.list acc]) i = some (ks.map .int)[i]?) (q : P (TS c (τ ++ [.list (ks.map .int)]) R)) :
 fq (sTurn (evE O (.c (.bool true))) (evE O (.v 4)) (τ.length + 4)) (.one 4) it [p0, p1, p2, p3, p4, p5, p6] (ks.map aS).length 0 (TS c τ R ++ [.list []]) P :=
 copy_ok (e := .v 4) (λ k => k) hl hit (λ a acc Q q => q) (by rw [List.map_id']; exact q)
noncomputable def spansL : List (aA × V) := [(.int 11, .d (.tuple [.int 1, .int 2])), (.int 14, .d (.tuple [.int 1, .int 2])), (.int 15, .d (.tuple [.int 1, .int 3])), (.int 16, .d (.tuple [.int 1, .int 5])), (.int 17, .d (.tuple [.int 2, .int 5]))]
theorem nin' {l : List Int} {k z : Int} (h : k ∉ l) (m : decide (z ∈ l) = true) : decide (z = k) = false := decide_eq_false λ e => h (e ▸ of_decide_eq_true m)
theorem spans_no (h : k ∉ leafNo) : (look (.int k) spansL).isSome = false := by
 show Option.isSome (cond (decide (11 = k)) _ (cond (decide (14 = k)) _ (cond (decide (15 = k)) _ (cond (decide (16 = k)) _ (cond (decide (17 = k)) _ none))))) = false
 rw [nin' h rfl, nin' h rfl, nin' h rfl, nin' h rfl, nin' h rfl]; rfl
theorem object_kids_ok (C : Cl c τ = true) {ps : List (Str × Int)} (hl : ps.length <= 100) (q : Q (.d (.list ((ps.map (·.2)).map .int))) (TS c τ R)) :
 fY (OO (n + 2)) 19 [.d (.tuple [.int 8, .tuple (ps.map encP), .tuple [], .tuple [], .tuple [], .tuple [], .int 0])] (TS c τ R) Q := by
 refine rg rfl <| compM encP (λ p => [.int p.2]) 100 (λ acc i => rfl) ?_ (λ p hp acc K hN hk => w_appc (s20 (ab hN)) hk) ?_
 · rw [fW]; show 0 + _ <= _; rw [bB, aG]; exact hl
 · rw [fW, bc, show (ps.map λ p => aS p.2) = (ps.map (·.2)).map .int from bE.symm]
   have C2 : Cl c (τ ++ [.list ((ps.map (·.2)).map .int)]) = true := fh C rfl
   have hm : ((ps.map (·.2)).map aS).length <= 2 ^ 20 := fJ (by rw [aG]; exact s20 hl)
   have ad : binD (TS c (τ ++ [.list ((ps.map (·.2)).map .int)]) R) .Add (.l (τ.length + 4)) (.d (.list [])) = some (.d (.list ((ps.map (·.2)).map .int))) := by
    show Option.or none (((((τ ++ [fH.list ((ps.map (·.2)).map .int)])[τ.length]?).bind cL).bind _)) = _
    rw [getc]
    show Option.or none (ck (fits ((ps.map (·.2)).map .int) && true) (V.d (.list (_ ++ [])))) = _
    rw [fO hm, aq]; rfl
   refine rg rfl <| w_fin C2 <| w_bin ad <| rg rfl <| w_fin C2 <| w_cat hm (bA _) ?_
   rw [aq]; exact w_fina C q
theorem row_kids_ok (C : Cl c τ = true) (h : Fine row ks) (q : Q (.d (.list (ks.map .int))) (TS c τ R)) : fY (OO (n + 3)) 20 [.d row] (TS c τ R) Q := by
 cases h with
 | @leaf k xs hk hl =>
  exact rg rfl <| fM (a0 (le10 hl)) (cF (spans_no hk) (cF (nin hk rfl) (cF (nin hk rfl) (cF (nin hk rfl) (cF (nin hk rfl) (cF (nin hk rfl) (cF (nin hk rfl) (cF (nin hk rfl) (cF (nin hk rfl) (w_fin C q))))))))))
 | @arr e ro => exact rg rfl <| w_appc (σ := TS c τ R) (acc := []) (bA _) (w_fl (xs := [.int e]) C (w_fin C q))
 | @kof e => exact rg rfl <| w_appc (σ := TS c τ R) (acc := []) (bA _) (w_fl (xs := [.int e]) C (w_fin C q))
 | @idx a b => exact rg rfl <| w_appc (σ := TS c τ R) (acc := []) (bA _) (w_appc (σ := TS c τ R) (acc := [.int a]) (aF rfl) (w_fl (xs := [.int a, .int b]) C (w_fin C q)))
 | uni hl => exact rg rfl <| copy_ints ks hl (λ _ _ => rfl) (w_fl C (w_fin C q))
 | met hl => exact rg rfl <| copy_ints ks hl (λ _ _ => rfl) (w_fl C (w_fin C q))
 | obj hl => exact rg rfl <| object_kids_ok C hl (w_fin C q)
 | tup hl => exact rg rfl <| copy_ok (f := encE) (e := .op (.sub ()) (.v 4) (.c (.int 0))) (·.1) hl (λ _ _ => rfl) (λ a acc Q q => q) (w_fl C (w_fin C q))
end
section
variable {c : fH} {τ σ : fE} {R R' : List aA} {n i f : Nat} {t x k p s : Int} {r row : aA} {xs : List aA} {Q : Ps} {ks ws seen U : List Int} {v : V} {h : Bool}
theorem binds_ok (C : Cl c τ = true) (h : Fine row ks) (q : Q (.d (.tuple [])) (TS c τ R)) : fY (OO (n + 1)) 21 [.d row] (TS c τ R) Q := by
 obtain ⟨k, xs, rfl, hl, hk⟩ := h.kind
 have z := λ {f : V × fE -> Prop} => fM (σ := TS c τ R) (Q := f) (a0 (x := .int k) (le10 hl))
 refine rg rfl <| z (cF (nin hk rfl) ?_)
 refine z (cF (nin hk rfl) ?_)
 exact z (cF (nin hk rfl) (w_fin C q))
theorem inner_ok (C : Cl c τ = true) (h : Fine row ks) (q : Q (.d (.list (ks.map .int))) (TS c τ R)) : fY (OO (n + 4)) 22 [.l 1, .d row] (TS c τ R) Q :=
 rg rfl <| row_kids_ok (n := n) C h (binds_ok (n := n + 2) C h (w_fin C q))
def ClK (R : List aA) (X : List Int) : Prop := ∀ s ∈ X, ∀ row, fN R s = some row -> ∀ k ∈ kidsOf row, k ∈ X
structure FineAt (R : List aA) (s : Int) (row : aA) (ks : List Int) : Prop where
 at' : fN R s = some row
 fine : Fine row ks
 ten : ∀ xs, row = .tuple (.int 10 :: xs) -> s = 19
def Cv (R : List aA) (U : List Int) : Prop := ∀ s ∈ U, ∃ row ks, FineAt R s row ks ∧ ∀ k ∈ ks, k ∈ U
def Has (R : List aA) (t : Int) (h : Bool) (m : Nat) : Prop := ∃ U : List Int, U.length <= m ∧ t ∈ U ∧ Cv R U ∧ (19 ∈ U -> h = true) ∧ (h = true -> ∀ X, ClK R X -> t ∈ X -> 19 ∈ X)
theorem Has.pre (h' : Has R t h n) (p : R <+: R') : Has R' t h n :=
 let ⟨U, h1, h2, h3, h4, h5⟩ := h'
 ⟨U, h1, h2, λ s m => let ⟨row, ks, a, b⟩ := h3 s m; ⟨row, ks, ⟨fK p a.at', a.fine, a.ten⟩, b⟩, h4, λ e X hX => h5 e X λ s m row hr => hX s m row (fK p hr)⟩
theorem Has.mono (h' : Has R t h n) (p : n <= i) : Has R t h i := let ⟨U, h1, h2⟩ := h'; ⟨U, aE h1 p, h2⟩
theorem has_list : ∀ {hs : List (Int × Bool × Nat)}, (∀ x ∈ hs, Has R x.1 x.2.1 x.2.2) -> ∃ U : List Int, U.length <= (hs.map (·.2.2)).sum ∧ (∀ x ∈ hs, x.1 ∈ U) ∧ Cv R U ∧ (19 ∈ U -> hs.any (·.2.1) = true)
 | [], _ => ⟨[], aW _, (λ _ m => nomatch m), (λ _ m => nomatch m), (λ m => nomatch m)⟩
 | a :: r, h => by
  obtain ⟨U, h1, h2, h3, h4⟩ := has_list (hs := r) λ x m => h x (.tail _ m)
  obtain ⟨V, k1, k2, k3, k4, k5⟩ := h a (.head _)
  refine ⟨V ++ U, ?_, aL.mpr ⟨a8 _ k2, λ x m => aV _ (h2 x m)⟩, λ s m => (ae.mp m).elim (λ m => ?_) λ m => ?_, λ m => (cX ..).mpr ((ae.mp m).imp k4 h4)⟩
  · rw [aH, ba, List.sum_cons]; exact dj k1 h1
  · obtain ⟨row, ks, a, b⟩ := k3 s m; exact ⟨row, ks, a, λ k m => a8 _ (b k m)⟩
  · obtain ⟨row, ks, a, b⟩ := h3 s m; exact ⟨row, ks, a, λ k m => aV _ (b k m)⟩
theorem Has.node {hs : List (Int × Bool × Nat)} (h1 : FineAt R t row (hs.map (·.1))) (h2 : ∀ x ∈ hs, Has R x.1 x.2.1 x.2.2) (hm : 1 + (hs.map (·.2.2)).sum <= n) : Has R t (decide (t = 19) || hs.any (·.2.1)) n := by
 obtain ⟨U, k1, k2, k3, k4⟩ := has_list h2
 refine ⟨t :: U, aE (by rw [am, cC]; exact bU k1 1) hm, .head _, aL.mpr ⟨⟨row, _, h1, λ k m => ?_⟩, λ s m => ?_⟩, λ m => (cX ..).mpr ((aP.mp m).imp (λ e => decide_eq_true e.symm) k4), λ e X hX hm => ?_⟩
 · obtain ⟨x, hx, rfl⟩ := aj.mp m; exact .tail _ (k2 x hx)
 · obtain ⟨row, ks, a, b⟩ := k3 s m; exact ⟨row, ks, a, λ k m => .tail _ (b k m)⟩
 · rcases (cX ..).mp e with e | e
   · exact of_decide_eq_true e ▸ hm
   · obtain ⟨x, hx, hh⟩ := bW.mp e
     obtain ⟨_, _, _, _, _, h5⟩ := h2 x hx
     exact h5 hh X hX (hX t hm row h1.at' x.1 (h1.fine.kids ▸ dG hx))
theorem get2a {α : Type} (a b : α) : ∀ τ : List α, (τ ++ [a] ++ [b])[τ.length]? = some a
 | [] => rfl
 | _ :: τ => get2a a b τ
theorem get2b {α : Type} (a b : α) : ∀ τ : List α, (τ ++ [a] ++ [b])[τ.length + 1]? = some b
 | [] => rfl
 | _ :: τ => get2b a b τ
theorem set2a {α : Type} (a b d : α) : ∀ τ : List α, (τ ++ [a] ++ [b]).set τ.length d = τ ++ [d] ++ [b]
 | [] => rfl
 | x :: τ => congrArg (x :: ·) (set2a a b d τ)
theorem set2b {α : Type} (a b d : α) : ∀ τ : List α, (τ ++ [a] ++ [b]).set (τ.length + 1) d = τ ++ [a] ++ [d]
 | [] => rfl
 | x :: τ => congrArg (x :: ·) (set2b a b d τ)
noncomputable abbrev DS (c : fH) (τ : fE) (R : List aA) (seen ws : List Int) : fE := TS c (τ ++ [.dict (fb seen)] ++ [.list (ws.map .int)]) R
noncomputable abbrev rho (t : Int) (m : Nat) (x : Option V) : Loc := [some (.l 1), some (.d (.int t)), some (.l m), some (.l (m + 1)), x]
noncomputable def reB : List ST := [
 .asg 4 (.op (.pop ()) (.v 3) (.c .none)),
 .ite (.and (.op (.cmp .GtE) (.v 4) (.c (.int 0))) (.op (.cmp .NotIn) (.v 4) (.v 2))) [
  .setI (.v 2) (.v 4) (.c (.int 1)),
  .ex (.op (.ext ()) (.v 3) (.mk (.call 22) [(.v 0), (.op (.sub ()) (.op (.att 0) (.v 0) (.c .none)) (.v 4))]))] []]
structure Dfs (R : List aA) (U : List Int) (t : Int) (seen ws : List Int) : Prop where
 nd : seen.Nodup
 sub : ∀ s ∈ seen, s ∈ U
 wait : ∀ s ∈ ws, s ∈ U
 inv : ∀ s ∈ seen, ∀ row, fN R s = some row -> ∀ k ∈ kidsOf row, k ∈ seen ∨ k ∈ ws
 has : t ∈ seen ∨ t ∈ ws
theorem Dfs.skip (d : Dfs R U t seen (ws ++ [k])) (hk : k ∈ seen) : Dfs R U t seen ws := by
 have z : ∀ {z : Int}, z ∈ seen ∨ z ∈ ws ++ [k] -> z ∈ seen ∨ z ∈ ws := λ h => h.elim .inl λ m => (ae.mp m).elim .inr λ m => .inl (aM.mp m ▸ hk)
 exact ⟨d.nd, d.sub, λ s m => d.wait s (a8 _ m), λ s m row hr k' m' => z (d.inv s m row hr k' m'), z d.has⟩
theorem Dfs.take (d : Dfs R U t seen (ws ++ [k])) (hk : k ∉ seen) (hr : fN R k = some row) (hf : Fine row ks) (hU : ∀ k ∈ ks, k ∈ U) : Dfs R U t (seen ++ [k]) (ws ++ ks) := by
 have z : ∀ {z : Int}, z ∈ seen ∨ z ∈ ws ++ [k] -> z ∈ seen ++ [k] ∨ z ∈ ws ++ ks := λ h => h.elim (λ m => .inl (a8 _ m)) λ m => (ae.mp m).elim (λ m => .inr (a8 _ m)) λ m => .inl (aV _ m)
 refine ⟨List.nodup_append.mpr ⟨d.nd, bI .., λ a ha b hb e => hk (aM.mp hb ▸ e ▸ ha)⟩, λ s m => (ae.mp m).elim (d.sub s) λ m => aM.mp m ▸ d.wait k (aV _ (.head _)), λ s m => (ae.mp m).elim (λ m => d.wait s (a8 _ m)) (hU s), λ s m row' hr' k' m' => ?_, z d.has⟩
 rcases ae.mp m with m | m
 · exact z (d.inv s m row' hr' k' m')
 · rw [aM.mp m, hr] at hr'
   obtain rfl := aY hr'
   exact .inr (aV _ (hf.kids ▸ m'))
end
section
variable {c : fH} {τ σ σ' : fE} {R : List aA} {n : Nat} {t x k s : Int} {r y row : aA} {xs : List aA} {Q : Ps} {ks ws seen U os : List Int} {u v : V} {h : Bool}
theorem w_pop {Q : V × fE -> Prop} {z : aA} (h : popD σ u = some (v, σ')) (q : Q (v, σ')) : OW (op2 σ u (.d z) (.pop ())) Q := by
 show OW (popD σ u) Q; rw [h]; exact q
theorem cell2 : cellL (DS c τ R seen ws) (.l (τ.length + 4 + 1)) = some (τ.length + 4 + 1, ws.map .int) := by
 show (((τ ++ [fH.dict (fb seen)] ++ [fH.list (ws.map .int)])[τ.length + 1]?).bind _) = _
 rw [get2b]; rfl
theorem pop2 (hl : ws.length + 1 <= 2 ^ 20) : popD (DS c τ R seen (ws ++ [k])) (.l (τ.length + 4 + 1)) = some (.d (.int k), DS c τ R seen ws) := by
 have e : (ws ++ [k]).map aS = ws.map .int ++ [.int k] := aU
 show (cellL _ _).bind _ = _
 rw [cell2]
 show (((ws ++ [k]).map aS).getLast?).bind (λ x => ck (fits _) (V.d x, c :: _ :: _ :: _ :: (τ ++ [fH.dict (fb seen)] ++ [fH.list ((ws ++ [k]).map .int)]).set (τ.length + 1) (.list ((ws ++ [k]).map aS).dropLast))) = _
 rw [set2b, e, List.getLast?_concat, List.dropLast_concat]
 show ck (fits (ws.map .int ++ [.int k])) _ = _
 rw [fO (by rw [aH, aG]; exact hl)]; rfl
theorem addK_new : ∀ {ks : List Int}, k ∉ ks -> addK ks k = ks ++ [k]
 | [], _ => rfl
 | a :: r, h => by
  show cond (decide (a = k)) _ (a :: addK r k) = _
  rw [show decide (a = k) = false from decide_eq_false λ e => h (e ▸ .head _), addK_new λ m => h (.tail _ m)]; rfl
theorem set2 (hk : k ∉ seen) (hl : seen.length <= 2 ^ 20) : setID (DS c τ R seen ws) (.l (τ.length + 4)) (.d (.int k)) (.d (.int 1)) = some (DS c τ R (seen ++ [k]) ws) := by
 show (((((τ ++ [fH.dict (fb seen)] ++ [fH.list (ws.map .int)])[τ.length]?).bind λ c => (cD c).map λ xs => (τ.length + 4, xs)).bind _)).or _ = _
 rw [get2a]
 show (ck (true && decide ((fb seen).length <= 2 ^ 20)) (c :: _ :: _ :: _ :: (τ ++ [fH.dict (fb seen)] ++ [fH.list (ws.map .int)]).set τ.length (.dict (putKV (.int k) (.d (.int 1)) (fb seen))))).or _ = _
 rw [got_length, decide_eq_true hl, put_got, set2a, addK_new hk]; rfl
theorem ext2 (h1 : ws.length <= 2 ^ 20) (h2 : ks.length <= 2 ^ 20) : extendD (DS c τ R seen ws) (.l (τ.length + 4 + 1)) (.d (.list (ks.map .int))) = some (DS c τ R seen (ws ++ ks)) := by
 show (cellL _ _).bind _ = _
 rw [cell2]
 show ck (fits (ws.map .int) && fits (ks.map .int)) (c :: _ :: _ :: _ :: (τ ++ [fH.dict (fb seen)] ++ [fH.list (ws.map .int)]).set (τ.length + 1) (.list (ws.map .int ++ ks.map .int))) = _
 rw [fO (fJ h1), fO (fJ h2), set2b, <- aU]; rfl
theorem Fine.len (h : Fine row ks) : ks.length <= 100 := by
 cases h with
 | leaf => exact bA _
 | arr => exact aF rfl
 | kof => exact aF rfl
 | idx => exact aF rfl
 | uni h => exact h
 | met h => exact h
 | obj h => rw [aG]; exact h
 | tup h => rw [aG]; exact h
theorem cl2 (C : Cl c τ = true) (seen : List Int) (xs : List aA) : Cl c (τ ++ [.dict (fb seen)] ++ [.list xs]) = true := fh (fh C (fP (got_below _ seen) rfl)) rfl
theorem dfs (C : Cl c τ = true) (hf : fits R = true) (cv : Cv R U) (hU : U.length <= 60) {K : Fs} (fin : ∀ seen x, Dfs R U t seen [] -> K .next (rho t (τ.length + 4) x) (DS c τ R seen [])) :
 ∀ (N : Nat) (seen ws : List Int) (x : Option V), N <= 10000 -> 101 * (60 - seen.length) + ws.length < N -> Dfs R U t seen ws -> wIter (evE (OO (n + 4)) (.v 3)) (fc (OO (n + 4)) reB) N (rho t (τ.length + 4) x) (DS c τ R seen ws) K
 | 0, _, _, _, _, h, _ => (Nat.not_lt_zero _ h).elim
 | N + 1, seen, ws, x, hN, hm, d => by
  have tr : ∀ ws : List Int, ws.length <= 2 ^ 20 -> truth (DS c τ R seen ws) (.l (τ.length + 4 + 1)) = some (!(ws.map aS).isEmpty) := λ ws hl => by
   show ((τ ++ [fH.dict (fb seen)] ++ [fH.list (ws.map .int)])[τ.length + 1]?).bind _ = _
   rw [get2b]
   show ck (fits (ws.map .int)) _ = _
   rw [fO (fJ hl)]; rfl
  have hs := d.nd.length_le_of_subset d.sub
  rcases List.eq_nil_or_concat ws with rfl | ⟨ws, k, rfl⟩
  · exact w_tr (tr [] (bA _)) (fin seen x d)
  · rw [List.concat_eq_append] at hm d ⊢
    rw [aH] at hm
    have hm : 101 * (60 - seen.length) + (ws.length + 1) < N + 1 := hm
    have l1 : ws.length + 1 <= 2 ^ 20 := by lia
    obtain ⟨row, ks, hr, hk⟩ := cv k (d.wait k (aV _ (.head _)))
    have tw := tr (ws ++ [k]) (by rw [aH]; exact l1)
    rw [aU, show (ws.map aS ++ [k].map aS).isEmpty = false by cases ws <;> rfl] at tw
    refine w_tr tw (w_pop (pop2 l1) (cT (c := decide (0 <= k)) (decide_eq_true (rowAt_lt hr.at').1) ?_))
    by_cases m : k ∈ seen
    · exact w_cmp (nin_got (σ := DS c τ R seen ws) (get2a _ _ τ) (decide_eq_true m)) (dfs C hf cv hU fin N seen ws (some (.d (.int k))) (ab hN) (Nat.lt_of_succ_lt_succ hm) (d.skip m))
    · have d2 := d.take m hr.at' hr.fine hk
      have hs2 := d2.nd.length_le_of_subset d2.sub
      have lk := hr.fine.len
      rw [aH] at hs2
      have hs2 : seen.length + 1 <= U.length := hs2
      refine w_cmp (nin_got (σ := DS c τ R seen ws) (get2a _ _ τ) (decide_eq_false m)) (w_setI (set2 m (by lia)) (w_prx cell2 (fM (fQ hf hr.at') (inner_ok (n := n) (cl2 C _ _) hr.fine (w_ext (ext2 (ab l1) (by lia)) ?_)))))
      exact dfs C hf cv hU fin N (seen ++ [k]) (ws ++ ks) (some (.d (.int k))) (ab hN) (by rw [aH, aH]; show 101 * (60 - (seen.length + 1)) + _ < _; lia) d2
theorem reached_ok (C : Cl c τ = true) (hf : fits R = true) (H : Has R t h 60) (k : ∀ os : List Int, os.Nodup -> decide (19 ∈ os) = h -> (∀ s ∈ os, ∃ row ks, FineAt R s row ks) -> os.length <= 60 -> Q (.d (.list (os.map .int))) (TS c τ R)) : fY (OO (n + 5)) 23 [.l 1, .d (.int t)] (TS c τ R) Q := by
 obtain ⟨U, hU, ht, cv, h1, h2⟩ := H
 refine rg rfl <| Exists.intro 7000 ?_
 show wIter _ (fc _ reB) 7000 [some (.l 1), some (.d (.int t)), some (.l (τ.length + 4)), some (.l (TS c τ R ++ [fH.dict []]).length), none] _ _
 rw [show (TS c τ R ++ [fH.dict []]).length = τ.length + 4 + 1 from aH]
 refine dfs (n := n) (U := U) (t := t) C hf cv hU (λ seen x d => ?_) 7000 [] [t] none (by decide) (by decide : 101 * (60 - 0) + 1 < 7000) ⟨.nil, (λ _ m => nomatch m), λ s m => aM.mp m ▸ ht, (λ _ m => nomatch m), .inr (.head _)⟩
 have hs := aE (d.nd.length_le_of_subset d.sub) hU
 refine w_bi (sort_got (σ := DS c τ R seen []) (ci hs (by decide)) (get2a _ _ τ)) ?_
 have := k (isortI seen) ((isortI_perm seen).nodup_iff.mpr d.nd) ?_ (λ s m => ?_) (by rw [isortI_length]; exact hs)
 · show OW (fin _ _ (TS c (τ ++ [fH.dict (fb seen)] ++ [fH.list []]) R)) _
   rw [aw]; exact w_fina C this
 · rw [decide_eq_decide.mpr (mem_isortI (y := 19) (l := seen))]
   refine eF.mpr ((decide_eq_true_iff ..).trans ⟨λ m => h1 (d.sub 19 m), λ e => h2 e seen (λ s m row hr k m' => (d.inv s m row hr k m').resolve_right λ m => nomatch m) (d.has.resolve_right λ m => nomatch m)⟩)
 · obtain ⟨row, ks, a, _⟩ := cv s (d.sub s (mem_isortI.mp m)); exact ⟨row, ks, a⟩
end
section
variable {c : fH} {τ υ : fE} {R : List aA} {n i : Nat} {t k z : Int} {r row : aA} {xs : List aA} {Q : Ps} {ks U os : List Int} {v : V} {h : Bool}
theorem flat_one (k : Int) : ∀ {os : List Int}, os.Nodup -> (os.flatMap λ z => cond (decide (z = k)) [aS 0] []) = cond (decide (k ∈ os)) [.int 0] []
 | [], _ => by rw [decide_eq_false cf]; rfl
 | a :: r, hn => by
  have hn := bq.mp hn
  rw [bX, flat_one k hn.2]
  by_cases e : a = k
  · subst e
    rw [decide_eq_true rfl, decide_eq_false hn.1, decide_eq_true (bu ..)]; rfl
  · rw [decide_eq_false e, decide_eq_decide.mpr ⟨λ m => (aP.mp m).resolve_left λ q => e q.symm, .tail a⟩]; rfl
theorem any_none {α : Type} : ∀ os : List α, anyD (os.map λ _ => aA.tuple []) = some false
 | [] => rfl
 | _ :: r => any_none r
theorem flat_le {α : Type} {g : α -> List aA} : ∀ {l : List α}, (∀ a, (g a).length <= 1) -> (l.flatMap g).length <= l.length
 | [], _ => aW _
 | a :: r, h => by rw [bX, aH, am, cC]; exact dj (flat_le h) (h a)
theorem free_ok (C : Cl c τ = true) (hf : fits R = true) (B : base <+: R) (H : Has R t h 60) (q : Q (.d (.tuple (cond h [.int 0] []))) (TS c τ R)) : fY (OO (n + 6)) 24 [.l 1, .d (.int t)] (TS c τ R) Q := by
 have h0 : 0 <= t := let ⟨U, _, m, cv, _⟩ := H; let ⟨row, ks, a, _⟩ := cv t m; (rowAt_lt a.at').1
 have CL := λ acc : List aA => fh (υ := [.list acc]) C rfl
 refine rg rfl <| cF (c := decide (t < 0)) (decide_eq_false (Int.not_lt.mpr h0)) (reached_ok (n := n) C hf H λ os hn h19 hfi hl => ?_)
 refine compM aS (λ _ => [.tuple []]) 100 (λ acc i => rfl) ?_ (λ z hz acc K hN hk => ?_) ?_
 · exact aE (bU (flat_le (g := λ _ => [aA.tuple []]) λ _ => aW 1) _) ((bB _).symm ▸ aE hl (by decide))
 · obtain ⟨row, ks, a⟩ := hfi z hz
   exact fM (fQ (c := c) (τ := τ ++ [.list acc]) hf a.at') (binds_ok (n := n + 4) (CL acc) a.fine (w_appc (s20 (ab hN)) hk))
 rw [fW, bc]
 refine w_fl C (w_bi (v := .d (.bool false)) (by show (anyD _).map _ = _; rw [any_none]; rfl) ?_)
 refine compM aS (λ z => cond (decide (z = 19)) [.int 0] []) 100 (λ acc i => rfl) ?_ (λ z hz acc K hN hk => ?_) ?_
 · exact aE (bU (flat_le (g := λ z => cond (decide (z = 19)) [aS 0] []) λ z => by cases decide (z = 19) <;> exact aF rfl) _) ((bB _).symm ▸ aE hl (by decide))
 · obtain ⟨row, ks, a⟩ := hfi z hz
   have b19 : fN R 19 = some (.tuple [.int 10, .int 0]) := fK B rfl
   by_cases e : z = 19
   · subst e
     exact fM (fQ (c := c) (τ := τ ++ [.list acc]) hf b19) (fM (fQ (c := c) (τ := τ ++ [.list acc]) hf b19) (w_appc (s20 (ab hN)) hk))
   · obtain ⟨k, xs, rfl, hx, _⟩ := a.fine.kind
     rw [decide_eq_false e] at hk
     exact fM (fQ (c := c) (τ := τ ++ [.list acc]) hf a.at') (fM (a0 (le10 hx)) (cF (c := decide (k = 10)) (decide_eq_false λ e' => e (a.ten xs (by rw [e']))) (aq acc ▸ hk)))
 rw [flat_one 19 hn, h19, bc]
 refine w_fl C (w_bi (v := .d (.list (cond h [.int 0] []))) (by cases h <;> rfl) (w_bi (v := .d (.tuple (cond h [.int 0] []))) (by cases h <;> rfl) (w_fin C q)))
theorem has_ok (C : Cl c τ = true) (hf : fits R = true) (B : base <+: R) (H : Has R t h 60) (q : Q (.d (.bool h)) (TS c τ R)) : fY (OO (n + 7)) 25 [.l 1, .d (.int t)] (TS c τ R) Q :=
 rg rfl <| free_ok (n := n) C hf B H (by cases h <;> exact w_fin C q)
end
noncomputable def hostFs : List (Nat × V) := [(10, .l 1), (11, .d (.int 0)), (12, .d (.int 200)), (13, .d (.int 40))]
abbrev Ht (τ : fE) : Prop := τ[9]? = some (.inst 1 hostFs)
noncomputable def sA : Str := aD "a"
noncomputable def sB : Str := aD "b"
noncomputable def sC : Str := aD "c"
noncomputable def objRow (x y : Int) : aA := .tuple [.int 8, .tuple [encP (sA, x), encP (sB, y)], .tuple [], .tuple [], .tuple [], .tuple [], .int 0]
section
variable {c : fH} {τ υ σ : fE} {R : List aA} {n j f : Nat} {t x k p z o : Int} {y row : aA} {xs : List aA} {Q : Ps} {h : Bool} {a b : Str}
theorem ht_push (H : Ht τ) : Ht (τ ++ υ) := (bM (aR.mp H).1).trans H
theorem host_ci (H : Ht τ) : cellI (TS c τ R) (.l 13) = some (13, 1, hostFs) := by
 show (τ[9]?).bind _ = _; rw [H]; rfl
theorem w_h {Q : V × fE -> Prop} {y : V} (H : Ht τ) (q : Q (.l 1, TS c τ R)) : OW (op2 (TS c τ R) (.l 13) y (.att 10)) Q :=
 w_att (by show (cellI _ _).bind _ = _; rw [host_ci H]; rfl) q
theorem w_ci {Q : Nat × Nat × List (Nat × V) -> Prop} (H : Ht τ) (q : Q (13, 1, hostFs)) : OW (cellI (TS c τ R) (.l 13)) Q := ow (host_ci H) q
theorem put_old (C : Cl c τ = true) (G : Good R) (h : fN R t = some row) (q : Q (.d (.int t)) (TS c τ R)) : fY (OO (n + 1)) 1 [.l 1, .d row] (TS c τ R) Q := by
 have ok := G.ok row (rowAt_mem h)
 rcases look_ix (k := row) ok R 0 with ⟨h1, h2⟩ | ⟨j, h1, h2⟩
 · exact (h1 (rowAt_mem h)).elim
 · have e0 : cmpD (TS c τ R) .In (.d row) (.l 3) = some true := by
    show ck (okY row 8) (look row (ixOf R)).isSome = _
    rw [show okY row 8 = true from ok, h2]; rfl
   have e2 : subD (TS c τ R) (.l 3) (.d row) = some (.d (.int ((0 + j : Nat) : Int))) := by
    show (ck (okY row 8) ()).bind (λ _ => look row (ixOf R)) = _
    rw [show okY row 8 = true from ok]; exact h2
   obtain rfl : t = ((0 + j : Nat) : Int) := rowAt_inj G.nd h (rowAt_iff.mpr ⟨bj _, by rw [bB, bT]; exact h1⟩)
   exact rg rfl <| w_cmp e0 (fM e2 (w_fin C q))
theorem force_id (C : Cl c τ = true) (H : Ht τ) (hf : fits R = true) (h : Kd R t k) (hk : k ∉ [15, 18]) (q : Q (.d (.int t)) (TS c τ R)) : fY (OO (n + 1)) 40 [.l 13, .d (.int t)] (TS c τ R) Q := by
 obtain ⟨xs, h1, h2⟩ := h
 have z := λ {f : V × fE -> Prop} => fM (σ := TS c τ R) (Q := f) (a0 (x := .int k) (le10 h2))
 exact rg rfl <| w_h H (fM (fQ hf h1) (z (cF (nin hk rfl) (z (cF (nin hk rfl) (w_fin C q))))))
theorem force_par (C : Cl c τ = true) (H : Ht τ) (G : Good R) (hf : fits R = true) (B : base <+: R) (h : fN R t = some (.tuple [.int 15, .int 19, .int p])) (q : Q (.d (.int t)) (TS c τ R)) : fY (OO (n + 4)) 40 [.l 13, .d (.int t)] (TS c τ R) Q := by
 have b19 : fN R 19 = some (.tuple [.int 10, .int 0]) := fK B rfl
 exact rg rfl <| w_h H (fM (fQ hf h) (rg rfl <| w_h H (rg rfl <| fM (fQ hf b19) (put_old (n := n) C G h (w_fin C (w_fin C (w_fin C q)))))))
theorem e_str {p : Bool} (h : (low a && low b) = true) (e : decide (a = b) = p) : cmpD σ .Eq (.d (.str a)) (.d (.str b)) = some p := by
 show ck (low a && low b) (decide (a = b)) = _
 rw [h, e]; rfl
theorem word_ok (C : Cl c τ = true) (hf : fits R = true) (h : fN R x = some (.tuple [.int 3, .str a, .int 0])) (q : Q (.d (.str a)) (TS c τ R)) : fY (OO (n + 2)) 28 [.l 1, .d (.int x)] (TS c τ R) Q :=
 rg rfl <| fM (fQ hf h) (rg rfl <| fM (fQ hf h) (w_fin C (w_fin C q)))
theorem eAA : cmpD σ .Eq (.d (.str sA)) (.d (.str sA)) = some true := e_str (by decide +kernel) (by decide +kernel)
theorem eAC : cmpD σ .Eq (.d (.str sA)) (.d (.str sC)) = some false := e_str (by decide +kernel) (by decide +kernel)
theorem eBC : cmpD σ .Eq (.d (.str sB)) (.d (.str sC)) = some false := e_str (by decide +kernel) (by decide +kernel)
theorem find_a (C : Cl c τ = true) {y : Int} (q : Q (.d (encP (sA, x))) (TS c τ R)) : fY (OO (n + 1)) 35 [.d (objRow x y), .d (.str sA)] (TS c τ R) Q :=
 rg rfl <| w_cmp eAA (w_fin C q)
theorem find_c (C : Cl c τ = true) {y : Int} (q : Q (.d .none) (TS c τ R)) : fY (OO (n + 1)) 35 [.d (objRow x y), .d (.str sC)] (TS c τ R) Q :=
 rg rfl <| w_cmp eAC (w_cmp eBC (w_fin C q))
inductive Mem (x : Int) : Str -> Int -> Prop
 | a : Mem x sA x
 | c : Mem x sC 13
theorem read_obj (C : Cl c τ = true) (hf : fits R = true) {y : Int} (ho : fN R o = some (objRow x y)) (h0 : o ≠ 0) (hi : fN R p = some (.tuple [.int 3, .str a, .int 0])) (h7 : p ≠ 7) (hm : Mem x a z) (q : Q (.d (.int z)) (TS c τ R)) :
 fY (OO (n + 3)) 37 [.l 1, .d (.tuple [.int 15, .int o, .int p])] (TS c τ R) Q := by
 refine rg rfl <| fM (fQ hf ho) (cF (c := decide (o = 0)) (decide_eq_false h0) (word_ok (n := n) C hf hi ?_))
 cases hm with
 | a => exact find_a (n := n + 1) C (rg rfl <| w_fin C (w_fin C q))
 | c => exact find_c (n := n + 1) C (cF (c := decide (p = 7)) (decide_eq_false h7) (cF (c := decide (p = 7)) (decide_eq_false h7) (w_fin C q)))
theorem force_obj (C : Cl c τ = true) (H : Ht τ) (hf : fits R = true) {y : Int} (h : fN R t = some (.tuple [.int 15, .int o, .int p])) (ho : fN R o = some (objRow x y)) (h0 : o ≠ 0) (hi : fN R p = some (.tuple [.int 3, .str a, .int 0])) (h7 : p ≠ 7) (hm : Mem x a z) (q : Q (.d (.int z)) (TS c τ R)) :
 fY (OO (n + 5)) 40 [.l 13, .d (.int t)] (TS c τ R) Q :=
 rg rfl <| w_h H (fM (fQ hf h) (rg rfl <| w_h H (read_obj (n := n) C hf ho h0 hi h7 hm (w_fin C (w_fin C q)))))
theorem spread_of (C : Cl c τ = true) (H : Ht τ) (hf : fits R = true) (B : base <+: R) (F : ∀ {Q : Ps}, Q (.d (.int z)) (TS c τ R) -> fY (OO (n + 7)) 40 [.l 13, .d (.int t)] (TS c τ R) Q) (hR : Has R t h 60) (hx : Kd R z k) (q : Q (.d (.int (cond (h && !decide (k ∈ [11, 12])) t z))) (TS c τ R)) :
 fY (OO (n + 8)) 29 [.l 13, .d (.int t)] (TS c τ R) Q := by
 obtain ⟨xs, h1, h2⟩ := hx
 refine rg rfl <| w_ci H (F (w_h H (has_ok (n := n) C hf B hR ?_)))
 cases h with
 | false => exact w_fin C q
 | true =>
  refine w_h H (fM (fQ hf h1) (fM (a0 (le10 h2)) ?_))
  cases e : decide (k ∈ [11, 12]) with
  | true => rw [e] at q; exact cF (congrArg (!·) (mem_c [11, 12] e)) (w_fin C q)
  | false => rw [e] at q; exact cT (congrArg (!·) (mem_c [11, 12] e)) (w_fin C q)
end
inductive Sk (R : List aA) (t : Int) : Int -> Prop
 | same {k : Int} {h : Bool} : Kd R t k -> k ∉ [15, 18] -> Has R t h 60 -> Sk R t t
 | par {i : Int} {h : Bool} : fN R t = some (.tuple [.int 15, .int 19, .int i]) -> Has R t h 60 -> Sk R t t
 | obj {o x y p z k : Int} {a : Str} {h : Bool} : fN R t = some (.tuple [.int 15, .int o, .int p]) -> fN R o = some (objRow x y) -> o ≠ 0 -> fN R p = some (.tuple [.int 3, .str a, .int 0]) -> p ≠ 7 -> Mem x a z ->
  Has R t h 60 -> Kd R z k -> Sk R t (cond (h && !decide (k ∈ [11, 12])) t z)
section
variable {c : fH} {τ : fE} {R R' : List aA} {n : Nat} {t z : Int} {Q : Ps}
theorem Sk.pre (h : Sk R t z) (p : R <+: R') : Sk R' t z :=
 h.casesOn (λ h1 h2 h3 => .same (h1.pre p) h2 (h3.pre p)) (λ h1 h2 => .par (fK p h1) (h2.pre p)) λ h1 h2 h3 h4 h5 h6 h7 h8 => .obj (fK p h1) (fK p h2) h3 (fK p h4) h5 h6 (h7.pre p) (h8.pre p)
theorem sk_ok (C : Cl c τ = true) (H : Ht τ) (G : Good R) (hf : fits R = true) (B : base <+: R) (h : Sk R t z) (q : Q (.d (.int z)) (TS c τ R)) : fY (OO (n + 8)) 29 [.l 13, .d (.int t)] (TS c τ R) Q := by
 cases h with
 | same h1 h2 h3 => exact spread_of (n := n) C H hf B (λ q => force_id (n := n + 6) C H hf h1 h2 q) h3 h1 (by rw [Bool.cond_self]; exact q)
 | par h1 h2 => exact spread_of (n := n) C H hf B (λ q => force_par (n := n + 3) C H G hf B h1 q) h2 ⟨_, h1, aF rfl⟩ (by rw [Bool.cond_self]; exact q)
 | obj h1 h2 h3 h4 h5 h6 h7 h8 => exact spread_of (n := n) C H hf B (λ q => force_obj (n := n + 2) C H hf h1 h2 h3 h4 h5 h6 q) h7 h8 q
end
structure ElOk (R : List aA) (e : Int × Int) : Prop where
 at' : Atoms R e.1 [e.1]
 sg : e.2 = 3 ∨ (e.1 ∈ EE ∧ (e.2 = 0 ∨ e.2 = 1 ∨ e.2 = 2))
structure FlatOk (R : List aA) (f : Flat) : Prop where
 len : f.length <= 3
 ok : ∀ e ∈ f, ElOk R e
structure DC (R : List aA) (t : Int) (f : Flat) : Prop where
 sk : Sk R t t
 no : t ∉ [2, 13]
 kd : ∃ k, k ≠ 6 ∧ Kd R t k
 cut : Cut R t f
 flat : FlatOk R f
structure DF (R : List aA) (t t' : Int) (f : Flat) : Prop where
 sk : Sk R t t'
 dc : DC R t' f
inductive DU (R : List aA) (u : Int) (f g : Flat) : Prop
 | mk {p q p' q' : Int} : Sk R u u -> u ∉ [2, 13] -> fN R u = some (.tuple [.int 6, .tuple [.int p, .int q]]) -> DF R p p' f -> DF R q q' g -> DU R u f g
theorem DU.sk {R : List aA} {u : Int} {f g : Flat} (h : DU R u f g) : Sk R u u := h.casesOn λ a _ _ _ _ => a
structure El where
 t : Int
 s : Int
 cs : List Flat
 lost : Option Int
namespace El
inductive Closed (R : List aA) : El -> Prop
 | n {t s : Int} : s ≠ 3 -> FlatOk R [(t, s)] -> Closed R ⟨t, s, [[(t, s)]], none⟩
 | f {t : Int} {f : Flat} : DC R t f -> Closed R ⟨t, 3, [f], none⟩
 | u {t : Int} {f g : Flat} : DU R t f g -> Closed R ⟨t, 3, [f, g], none⟩
inductive Ok (R : List aA) : El -> Prop
 | n {t s : Int} : s ≠ 3 -> FlatOk R [(t, s)] -> Ok R ⟨t, s, [[(t, s)]], none⟩
 | f {t t' : Int} {f : Flat} : DF R t t' f -> Ok R ⟨t, 3, [f], none⟩
 | u {t u : Int} {f g : Flat} : Sk R t u -> DU R u f g -> Ok R ⟨t, 3, [f, g], none⟩
 | l {t x : Int} : Sk R t x -> x ∈ [2, 13] -> Ok R ⟨t, 3, [], some x⟩
noncomputable def isU (o : El) : Bool := au 1 o.cs.length
noncomputable def fl (o : El) : Flat := o.cs.headD []
noncomputable def row (o : El) : aA := .tuple [.int o.t, .int o.s]
end El
section
variable {c : fH} {τ σ : fE} {R R' : List aA} {n : Nat} {t t' x k p s o : Int} {r y row : aA} {xs : List aA} {Q : Ps} {u v : V} {h : Bool} {f g : Flat} {e : Int × Int} {w : El} {os : List El}
theorem ElOk.pre (h : ElOk R e) (p : R <+: R') : ElOk R' e := ⟨h.at'.pre p, h.sg⟩
theorem FlatOk.pre (h : FlatOk R f) (p : R <+: R') : FlatOk R' f := ⟨h.len, λ e m => (h.ok e m).pre p⟩
theorem DC.pre (h : DC R t f) (p : R <+: R') : DC R' t f := ⟨h.sk.pre p, h.no, let ⟨k, a, b⟩ := h.kd; ⟨k, a, b.pre p⟩, h.cut.pre p, h.flat.pre p⟩
theorem DF.pre (h : DF R t t' f) (p : R <+: R') : DF R' t t' f := ⟨h.sk.pre p, h.dc.pre p⟩
theorem DU.pre (h : DU R t f g) (p : R <+: R') : DU R' t f g := h.casesOn λ a b c d e => ⟨a.pre p, b, fK p c, d.pre p, e.pre p⟩
theorem El.Ok.pre (h : El.Ok R w) (p : R <+: R') : El.Ok R' w := h.casesOn (λ a b => .n a (b.pre p)) (λ a => .f (a.pre p)) (λ a b => .u (a.pre p) (b.pre p)) λ a b => .l (a.pre p) b
theorem El.Closed.ok (h : El.Closed R w) : El.Ok R w := h.casesOn (λ a b => .n a b) (λ a => .f ⟨a.sk, a⟩) λ a => .u a.sk a
theorem El.Closed.pre (h : El.Closed R w) (p : R <+: R') : El.Closed R' w := h.casesOn (λ a b => .n a (b.pre p)) (λ a => .f (a.pre p)) λ a => .u (a.pre p)
theorem El.Closed.fl (h : El.Closed R w) (hu : w.isU = false) : FlatOk R w.fl := by
 cases h with
 | n _ h => exact h
 | f h => exact h.flat
 | u _ => exact nomatch hu
theorem places_ok (C : Cl c τ = true) (hf : fits R = true) (hv : fg (TS c τ R) v = some (os.map El.row)) (hc : ∀ o ∈ os, El.Closed R o) (hl : os.length <= 100)
 (kn : (∀ o ∈ os, o.isU = false) -> Q (.d (.int (-1))) (TS c τ R)) (ku : ∀ (done : List El) (o : El) (rest : List El), os = done ++ o :: rest -> o.isU = true -> Q (.d (.int done.length)) (TS c τ R)) : fY (OO (n + 1)) 30 [.l 1, v] (TS c τ R) Q := by
 have hm : (os.map El.row).length <= 2 ^ 20 := fJ (s20 hl)
 refine rg rfl <| w_bi (v := .d (.int (os.map El.row).length)) (by show (fg _ v).bind _ = _; rw [hv]; show ck (fits _) _ = _; rw [fO hm]; rfl) ?_
 rw [aG]
 refine loopN (ps := os) (s20 hl) (λ _ x => [some (.l 1), some v, x]) (λ _ _ => TS c τ R) (λ done _ => ∀ o ∈ done, o.isU = false) none (λ _ m => nomatch m) (λ done o rest x K hp h kn' kr => ?_) λ x h => ?_
 rotate_left
 · exact w_fin C (kn h)
 have nx : o.isU = false -> K .next [some (.l 1), some v, some (.d (.int done.length))] (TS c τ R) := λ hu => kn' (some (.d (.int done.length))) λ o m => (ae.mp m).elim (h o) λ m => aM.mp m ▸ hu
 have at' := λ {Q : V × fE -> Prop} => fM (Q := Q) (fv hv (fO hm) (hp ▸ row_mid El.row o rest done))
 have cl := hc o (hp ▸ aV _ (.head _))
 refine at' ?_
 cases cl with
 | @n t s h1 h2 => exact cF (c := decide (s = 3)) (decide_eq_false h1) (cF (c := decide (s = 3)) (decide_eq_false h1) (nx rfl))
 | @f t f h1 =>
  obtain ⟨k, h2, xs, h3, h4⟩ := h1.kd
  exact at' (fM (fQ hf h3) (fM (a0 (le10 h4)) (cF (c := decide (k = 6)) (decide_eq_false h2) (nx rfl))))
 | u h1 =>
  obtain ⟨_, _, h2, _, _⟩ := h1
  exact at' (fM (fQ hf h2) (kr _ _ _ (w_fin C (ku done _ rest hp rfl))))
end
noncomputable def msF (f : Flat) : Ms := f.map λ e => ([e.1], e.2)
noncomputable def has3 (f : Flat) : Bool := f.any λ e => decide (e.2 = 3)
noncomputable def settle (f : Flat) : Ms := cond (has3 f) (msF f) (settled (msF f))
noncomputable def prod : List (List Flat) -> List Flat
 | [] => [[]]
 | cs :: r => cs.flatMap λ f => (prod r).map (f ++ ·)
structure Bd (R : List aA) (ro : Int) (S : List Ms) (ids : List Int) : Prop where
 l : ∀ i ∈ ids, ∃ ms ∈ S, Lst R ro i ms
 r : ∀ ms ∈ S, ∃ i ∈ ids, Lst R ro i ms
theorem Bd.pre {R R' : List aA} {ro : Int} {S : List Ms} {ids : List Int} (h : Bd R ro S ids) (p : R <+: R') : Bd R' ro S ids :=
 ⟨λ i m => (h.l i m).imp λ _ a => ⟨a.1, a.2.pre p⟩, λ i m => (h.r i m).imp λ _ a => ⟨a.1, a.2.pre p⟩⟩
inductive Got (R : List aA) (ro t : Int) (S : List Ms) (c : Nat) : Prop
 | mk {ids : List Int} : Atoms R t ids -> ids ≠ [] -> ids.length <= 2 ^ c -> ids.Pairwise (· < ·) -> Bd R ro S ids -> Got R ro t S c
section
variable {c : fH} {τ : fE} {R R' : List aA} {n d : Nat} {t x ro id k s z o : Int} {r row : aA} {xs : List aA} {Q : Ps} {u : V} {h : Bool} {f g : Flat} {e : Int × Int} {os : List El} {cs : List Flat} {l : Ms}
theorem mem_prod_cons {x : Flat} {r : List (List Flat)} : x ∈ prod (cs :: r) ↔ ∃ f ∈ cs, ∃ b ∈ prod r, f ++ b = x :=
 List.mem_flatMap.trans (exists_congr λ _ => and_congr_right λ _ => aj)
theorem prod_split {D : List (List Flat)} : ∀ {A : List (List Flat)} {x : Flat}, x ∈ prod (A ++ [f, g] :: D) ↔ x ∈ prod (A ++ [f] :: D) ∨ x ∈ prod (A ++ [g] :: D)
 | [], x => by
  show x ∈ _ ++ (_ ++ []) ↔ x ∈ _ ++ [] ∨ x ∈ _ ++ []
  rw [aq, aq]; exact ae
 | a :: A, x => by
  refine mem_prod_cons.trans ⟨λ h => ?_, λ h => ?_⟩
  · obtain ⟨f, hf, b, hb, e⟩ := h
    exact (prod_split.mp hb).imp (λ hb => mem_prod_cons.mpr ⟨f, hf, b, hb, e⟩) λ hb => mem_prod_cons.mpr ⟨f, hf, b, hb, e⟩
  · rcases h with h | h
    · obtain ⟨f, hf, b, hb, e⟩ := mem_prod_cons.mp h; exact ⟨f, hf, b, prod_split.mpr (.inl hb), e⟩
    · obtain ⟨f, hf, b, hb, e⟩ := mem_prod_cons.mp h; exact ⟨f, hf, b, prod_split.mpr (.inr hb), e⟩
theorem prod_flat : ∀ {os : List El}, (∀ o ∈ os, El.Closed R o) -> (∀ o ∈ os, o.isU = false) -> prod (os.map El.cs) = [os.flatMap El.fl]
 | [], _, _ => rfl
 | o :: r, h, hu => by
  have ih := prod_flat (os := r) (λ q hq => h q (.tail _ hq)) λ q hq => hu q (.tail _ hq)
  have ho := h o (.head _)
  have hu := hu o (.head _)
  show o.cs.flatMap (λ f => (prod (r.map El.cs)).map (f ++ ·)) = [o.fl ++ r.flatMap El.fl]
  rw [ih]
  cases ho with
  | n => rfl
  | f => rfl
  | u => exact nomatch hu
noncomputable def kindAt (R : List aA) (s : Int) : Int := toI (nthL 0 (tupL ((fN R s).getD .none)))
theorem kd_no {L : List Int} (B : base <+: R) (hL : (L.all λ s => decide (kindAt base s ∈ [1, 2, 3])) = true) (h : Kd R t k) (hk : k ∉ [1, 2, 3]) : t ∉ L := λ m => by
 obtain ⟨xs, h1, _⟩ := h
 have e := of_decide_eq_true (aT.mp hL t m)
 unfold kindAt at e
 cases hb : fN base t with
 | none => rw [hb] at e; exact absurd e (by decide)
 | some row =>
  rw [hb] at e
  obtain rfl := aY ((fK B hb).symm.trans h1)
  exact hk e
theorem Lst.kd (h : Lst R ro t l) : ∃ k, k ∈ [11, 12] ∧ Kd R t k := by
 cases h with
 | one _ _ h => exact ⟨11, by decide, _, h, aF rfl⟩
 | many _ _ _ h => exact ⟨12, by decide, _, h, aF rfl⟩
theorem uok_list (B : base <+: R) (hk : k ∈ [11, 12]) (h : Kd R t k) : UOk R t ∧ t ∉ [0, 1, 16, 17, 6, 2, 13, 7, 8, 14] := by
 have hk' : k = 11 ∨ k = 12 := (aP.mp hk).imp id aM.mp
 have no := kd_no (L := [0, 1, 16, 17, 6, 2, 13, 7, 8, 14]) B rfl h (by rcases hk' with rfl | rfl <;> decide)
 obtain ⟨xs, h1, _⟩ := id h
 have z : ∀ {s : Int}, decide (s ∈ [0, 1, 16, 17, 6, 2, 13, 7, 8, 14]) = true -> t ≠ s := λ m e => no (e ▸ of_decide_eq_true m)
 refine ⟨⟨⟨k, ⟨by lia, by lia, .inl ⟨h, ?_⟩⟩, by lia, λ e => by lia, λ e => (e.elim (z rfl) (z rfl)).elim⟩, (rowAt_lt h1).1, λ m => ?_⟩, no⟩
 · rcases hk' with rfl | rfl <;> decide
 · exact no (aL.mpr ⟨by decide, aL.mpr ⟨by decide, aL.mpr ⟨by decide, aL.mpr ⟨by decide, aL.mpr ⟨by decide, λ _ m => nomatch m⟩⟩⟩⟩⟩ t m)
theorem uni_length {X : List Int} (h : X ≠ []) : (uni X).length <= X.length := by
 have h1 : 1 <= X.length := List.length_pos_iff.mpr h
 refine uni_cases (C := λ u => u.length <= X.length) (λ _ => h1) (λ _ _ => h1) λ _ _ => ?_
 rw [isortI_length]
 exact aE (bn ..) (aE (addAll_length X []) (c8 (bB _)))
theorem uni_plain {X : List Int} (h : ∀ x ∈ X, x ∉ [0, 1, 16, 17]) : x ∈ uni X ↔ x ∈ X :=
 ⟨uni_sub, λ m => mem_uni.mpr ⟨m, λ _ => ⟨λ z => h 0 z (by decide), λ _ => ⟨λ z => h 1 z (by decide), λ e => (e.elim (λ e => h x m (by rw [e]; decide)) λ e => h x m (by rw [e]; decide)).elim⟩⟩⟩⟩
theorem made_ok (C : Cl c τ = true) (G : Good R) (B : base <+: R) (hfl : ∀ e ∈ f, ElOk R e) (hl : f.length <= 9) (hf : R.length + 300 <= 2 ^ 20) (q : ∀ R' t, Gr R R' 20 -> Lst R' ro t (settle f) -> Q (.d (.int t)) (TS c τ R')) :
 fY (OO (n + 6)) 8 [.l 1, .d (.tuple (f.map encE)), .d (.int ro)] (TS c τ R) Q := by
 have e1 : (f.map λ e => (e.1, [e.1], e.2)).map encQ = f.map encE := bE
 have e2 : msQ (f.map λ e => (e.1, [e.1], e.2)) = msF f := bE
 have l20 : (f.map λ e : Int × Int => (e.1, [e.1], e.2)).length <= 20 := by rw [aG]; exact aE hl (by decide)
 rw [<- e1]
 unfold settle at q
 cases h3 : has3 f with
 | true =>
  rw [h3] at q
  refine tuple_spread (n := n) C G (λ q hq => ?_) ?_ l20 hf λ R' t g h => q R' t (g.mono (by decide)) (e2 ▸ h)
  · obtain ⟨e, he, rfl⟩ := aj.mp hq; exact (hfl e he).at'
  · obtain ⟨e, he, h⟩ := bW.mp h3
    exact ⟨_, dG he, of_decide_eq_true h⟩
 | false =>
  rw [h3] at q
  have hno : ∀ e ∈ f, e.1 ∈ EE ∧ (e.2 = 0 ∨ e.2 = 1 ∨ e.2 = 2) := λ e he => (hfl e he).sg.resolve_left λ h => bO (h3.symm.trans (bW.mpr ⟨e, he, decide_eq_true h⟩))
  refine tuple_ok (n := n) C G B (λ q hq => ?_) (λ q hq => ?_) (λ q hq => ?_) l20 hf λ R' t g h => q R' t (g.mono (by rw [aG]; lia)) (e2 ▸ h)
  · obtain ⟨e, he, rfl⟩ := aj.mp hq
    exact ⟨(hfl e he).at', λ x m => aM.mp m ▸ (hno e he).1, bI .., List.cons_ne_nil _ _⟩
  · obtain ⟨e, he, rfl⟩ := aj.mp hq; exact ⟨_, rfl⟩
  · obtain ⟨e, he, rfl⟩ := aj.mp hq; exact (hno e he).2
end
noncomputable def grw : Nat -> Nat
 | 0 => 20
 | c + 1 => 2 * grw c + 1
noncomputable abbrev SS (els : List El) : List Ms := (prod (els.map El.cs)).map settle
def Res (R : List aA) (ro x : Int) (els : List El) (c : Nat) : Prop := els.findSome? El.lost = some x ∨ (els.findSome? El.lost = none ∧ Got R ro x (SS els) c)
def SpOk (c' : Nat) : Prop := ∀ {n : Nat} {c : fH} {τ : fE} {R : List aA} {v : V} {els : List El} {ro : Int} {Q : Ps}, Cl c τ = true -> Ht τ -> Good R -> base <+: R -> R.length + grw c' + 300 <= 2 ^ 20 -> fg (TS c τ R) v = some (els.map El.row) -> (∀ o ∈ els, El.Ok R o) -> els.length <= 3 -> (els.filter El.isU).length <= c' ->
 (∀ R' x, Gr R R' (grw c') -> Res R' ro x els c' -> Q (.d (.int x)) (TS c τ R')) -> fY (OO (n + 2 * c' + 9)) 34 [.l 13, v, .d (.int ro)] (TS c τ R) Q
section
variable {c : fH} {τ υ : fE} {R R' : List aA} {n i j d c' : Nat} {t x ro k p z z' o : Int} {r row : aA} {xs ys : List aA} {Q : Ps} {u v : V} {h : Bool} {f g : Flat} {e : Int × Int} {w : El} {els done rest : List El} {S : List Ms} {cs : List Flat} {l : Ms}
theorem grw_ge : ∀ c, 20 <= grw c
 | 0 => aW _
 | c + 1 => by have := grw_ge c; show _ <= 2 * grw c + 1; lia
theorem w_slcl {Q : V -> Prop} {lo hi : Option Int} (h : τ[j]? = some (.list xs)) (hf : xs.length <= 2 ^ 20) (hc : cut xs lo hi = ys) (q : Q (.d (.list ys))) : OW (slcD (TS c (τ ++ υ) R) (.l (j + 4)) lo hi) Q := by
 rw [slc_list (xs := xs) (by show ((τ ++ υ)[j]?).bind cL = _; rw [bM (aR.mp h).1, h]; rfl) rfl hf, hc]; exact q
theorem cut_mid_lo {α : Type} (f : α -> aA) (o : α) (done rest : List α) : cut ((done ++ o :: rest).map f) none (some (done.length : Int)) = done.map f := by
 rw [cut_hi, <- dR, List.take_left]
theorem cut_mid_hi {α : Type} (f : α -> aA) (o : α) (done rest : List α) : cut ((done ++ o :: rest).map f) (some ((done.length + 1 : Nat) : Int)) none = rest.map f := by
 rw [cut_lo, <- c9, List.drop_append]
 rw [dK (eM _), Nat.add_sub_cancel_left]; rfl
theorem su_part {K : Fs} {w : El} {x7 : Option V} (H : SpOk c') (C : Cl c τ = true) (T : Ht τ) (G : Good R) (B : base <+: R) (hf : R.length + grw c' + 300 <= 2 ^ 20) (hv : τ[j]? = some (.list ((done ++ w :: rest).map El.row)))
 (hc : ∀ o ∈ done ++ rest, El.Closed R o) (hl : (done ++ w :: rest).length <= 3) (hz : DF R z z' f) (hu : ((done ++ rest).filter El.isU).length <= c') (hx : xs.length <= 2)
 (k : ∀ R' x x7, Gr R R' (grw c') -> Got R' ro x (SS (done ++ ⟨z, 3, [f], none⟩ :: rest)) c' -> K .next [some (.l 13), some (.l (j + 4)), some (.d (.int done.length)), some (.d (.int ro)), some (.l 1), some (.l (τ.length + 4)), some (.d (.int z)), x7] (TS c (τ ++ [.list (xs ++ [.int x])]) R')) :
 fc (OO (n + 2 * c' + 9)) [.asg 7 (.op (.bin .Add) (.op (.bin .Add) (.slc (.v 1) (.c .none) (.v 2)) (.mk (.lst ()) [(.mk (.tup ()) [(.v 6), (.c (.int 3))])])) (.slc (.v 1) (.op (.bin .Add) (.v 2) (.c (.int 1))) (.c .none))),
  .ex (.op (.app ()) (.v 5) (.mk (.call 34) [(.v 0), (.v 7), (.v 3)]))] [some (.l 13), some (.l (j + 4)), some (.d (.int done.length)), some (.d (.int ro)), some (.l 1), some (.l (τ.length + 4)), some (.d (.int z)), x7] (TS c (τ ++ [.list xs]) R) K := by
 have hm : ((done ++ w :: rest).map El.row).length <= 2 ^ 20 := fJ (s20 (aE hl (by decide)))
 have hl' := hl
 rw [aH, am] at hl'
 have d20 : done.length + 1 <= 100 := by lia
 have mem : ∀ {P : El -> Prop}, (∀ o ∈ done ++ rest, P o) -> P ⟨z, 3, [f], none⟩ -> ∀ o ∈ done ++ ⟨z, 3, [f], none⟩ :: rest, P o := λ h h0 o m => (ae.mp m).elim (λ m => h o (a8 _ m)) λ m => (aP.mp m).elim (λ e => e ▸ h0) λ m => h o (aV _ m)
 refine w_intN (s20 (ab d20)) (w_slcl hv hm (cut_mid_lo El.row w done rest) (w_cat (fJ (s20 (ab d20))) (aF rfl) (w_intNe (k := done.length + 1) (Int.natCast_add ..).symm (s20 d20) (w_slcl hv hm (cut_mid_hi El.row w done rest) (w_cat ?_ (fJ (s20 (by lia))) (w_prel ?_))))))
 · rw [aH, aG]; exact s20 d20
 have ee : done.map El.row ++ [aA.tuple [.int z, .int 3]] ++ rest.map El.row = (done ++ ⟨z, 3, [f], none⟩ :: rest).map El.row := by rw [aw, aU]; rfl
 rw [ee]
 refine H (n := n) (els := done ++ ⟨z, 3, [f], none⟩ :: rest) (fh C rfl) (ht_push T) G B hf rfl (mem (λ o m => (hc o m).ok) (.f hz)) ?_ ?_ λ R' x g h => w_appl (aE hx (by decide)) (k R' x _ g (h.elim (λ h => ?_) λ h => h.2))
 · rw [aH, am]; exact hl'
 · rw [ey] at hu ⊢; exact hu
 · rw [List.findSome?_eq_none_iff.mpr (mem (P := λ o => o.lost = none) (λ o m => by cases hc o m <;> rfl) rfl)] at h; exact nomatch h
theorem Got.cat {S₁ S₂ : List Ms} {ids₁ ids₂ : List Int} (hS : ∀ ms, ms ∈ S ↔ ms ∈ S₁ ∨ ms ∈ S₂) (B : base <+: R) (h : Atoms R x (uni (ids₁ ++ ids₂))) (n1 : ids₁ ≠ []) (l1 : ids₁.length <= 2 ^ c') (l2 : ids₂.length <= 2 ^ c')
 (a : Bd R ro S₁ ids₁) (b : Bd R ro S₂ ids₂) : Got R ro x S (c' + 1) := by
 have hne : ids₁ ++ ids₂ ≠ [] := λ e => n1 (List.append_eq_nil_iff.mp e).1
 have hL : ∀ i ∈ ids₁ ++ ids₂, ∃ ms ∈ S, Lst R ro i ms := λ i m => (ae.mp m).elim (λ m => (a.l i m).imp λ ms a => ⟨(hS ms).mpr (.inl a.1), a.2⟩) λ m => (b.l i m).imp λ ms a => ⟨(hS ms).mpr (.inr a.1), a.2⟩
 have hun : ∀ {i}, i ∈ uni (ids₁ ++ ids₂) ↔ i ∈ ids₁ ++ ids₂ := uni_plain λ i m hi => by
  obtain ⟨ms, _, hl⟩ := hL i m
  obtain ⟨k, hk, h⟩ := hl.kd
  exact (uok_list B hk h).2 (a8 [6, 2, 13, 7, 8, 14] hi)
 refine .mk h (uni_ne hne) ?_ (uni_sorted _) ⟨λ i m => hL i (hun.mp m), λ ms m => ((hS ms).mp m).elim (λ m => (a.r ms m).imp λ i a => ⟨hun.mpr (a8 _ a.1), a.2⟩) λ m => (b.r ms m).imp λ i a => ⟨hun.mpr (aV _ a.1), a.2⟩⟩
 refine aE (uni_length hne) ?_
 rw [aH, Nat.pow_succ, Nat.mul_two]
 exact dj l1 l2
theorem su_ok (hc1 : c' <= 1) (H : SpOk c') (C : Cl c τ = true) (T : Ht τ) (G : Good R) (B : base <+: R) (hf : R.length + (2 * grw c' + 1) + 300 <= 2 ^ 20) (hv : τ[j]? = some (.list ((done ++ w :: rest).map El.row))) (hw : El.Closed R w) (hwu : w.isU = true)
 (hc : ∀ o ∈ done ++ rest, El.Closed R o) (hl : (done ++ w :: rest).length <= 3) (hu : ((done ++ rest).filter El.isU).length <= c')
 (k : ∀ R' x, Gr R R' (2 * grw c' + 1) -> Got R' ro x (SS (done ++ w :: rest)) (c' + 1) -> Q (.d (.int x)) (TS c τ R')) : fY (OO (n + 2 * c' + 10)) 33 [.l 13, .l (j + 4), .d (.int done.length), .d (.int ro)] (TS c τ R) Q := by
 cases hw with
 | n => exact nomatch hwu
 | f => exact nomatch hwu
 | @u t f g hd =>
  cases hd with
  | @mk p q p' q' _ _ h2 hp hq =>
  have hm : ((done ++ (⟨t, 3, [f, g], none⟩ : El) :: rest).map El.row).length <= 2 ^ 20 := fJ (s20 (aE hl (by decide)))
  have hr : fg (TS c (τ ++ [.list []]) R) (.l (j + 4)) = some ((done ++ (⟨t, 3, [f, g], none⟩ : El) :: rest).map El.row) := seq_push (by show (τ[j]?).bind cL = _; rw [hv]; rfl)
  refine rg rfl <| w_h T (fM (fv hr (fO hm) (row_mid El.row _ rest done)) (fM (fQ (fO (by lia)) h2) ?_))
  refine su_part (n := n) (xs := []) H C T G B (by lia) hv hc hl hp hu (bA _) λ R₁ x₁ _ g1 h1 => ?_
  have gl1 := g1.len
  refine su_part (n := n) (xs := [.int x₁]) H C T g1.good (B.trans g1.pre) (by lia) hv (λ o m => (hc o m).pre g1.pre) hl (hq.pre g1.pre) hu (aF rfl) λ R₂ x₂ _ g2 h2 => ?_
  have gl2 := g2.len
  cases h1 with
  | @mk ids₁ a1 a2 a3 a4 a5 =>
  cases h2 with
  | @mk ids₂ b1 b2 b3 b4 b5 =>
  have e : ([(x₁, ids₁), (x₂, ids₂)] : List (Int × List Int)).flatMap (·.2) = ids₁ ++ ids₂ := congrArg (ids₁ ++ ·) (aq ids₂)
  have B2 := B.trans (g1.pre.trans g2.pre)
  have l1 : ids₁.length <= 2 := aE a3 (cy (n := 2) (by decide) hc1)
  have l2 : ids₂.length <= 2 := aE b3 (cy (n := 2) (by decide) hc1)
  have al := addAll_length (ids₁ ++ ids₂) []
  have l4 : (ids₁ ++ ids₂).length <= 4 := by rw [aH]; exact dj l1 l2
  refine union_ok (n := n + 2 * c' + 6) (ps := [(x₁, ids₁), (x₂, ids₂)]) (fh C rfl) g2.good (by lia) B2 (congrArg (·.bind cL) (getc τ _)) (aL.mpr ⟨a1.pre g2.pre, aL.mpr ⟨b1, λ _ m => nomatch m⟩⟩) (e ▸ λ z m => ?_) (e ▸ λ h => a2 (List.append_eq_nil_iff.mp h).1) (e ▸ aE al ((bB _).symm ▸ aE l4 (by decide))) (e ▸ aE l4 (by decide)) λ R₃ x g3 h3 => w_fina C (k R₃ x (((g1.trans g2).trans g3).mono (by lia)) ?_)
  · rcases ae.mp m with m | m
    · obtain ⟨ms, _, hl⟩ := a5.l z m
      obtain ⟨k, hk, h⟩ := hl.kd
      exact (uok_list B2 hk (h.pre g2.pre)).1
    · obtain ⟨ms, _, hl⟩ := b5.l z m
      obtain ⟨k, hk, h⟩ := hl.kd
      exact (uok_list B2 hk h).1
  · rw [e] at h3
    refine Got.cat (S₁ := SS (done ++ ⟨p, 3, [f], none⟩ :: rest)) (S₂ := SS (done ++ ⟨q, 3, [g], none⟩ :: rest)) (λ ms => ?_) (B2.trans g3.pre) h3 a2 a3 b3 (a5.pre (g2.pre.trans g3.pre)) (b5.pre g3.pre)
    have sp : ∀ {z : Int} {cs : List Flat}, (done ++ (⟨z, 3, cs, none⟩ : El) :: rest).map El.cs = done.map El.cs ++ cs :: rest.map El.cs := aU
    unfold SS
    rw [sp, sp, sp]
    refine ⟨λ m => ?_, λ m => ?_⟩
    · obtain ⟨x, hx, rfl⟩ := aj.mp m
      exact (prod_split.mp hx).imp dG dG
    · rcases m with m | m
      · obtain ⟨x, hx, rfl⟩ := aj.mp m; exact dG (prod_split.mpr (.inl hx))
      · obtain ⟨x, hx, rfl⟩ := aj.mp m; exact dG (prod_split.mpr (.inr hx))
end
section
variable {c : fH} {τ υ : fE} {R : List aA} {n d : Nat} {t t' x id p s o : Int} {r row : aA} {Q : Ps} {u v : V} {ρ : Loc} {h : Bool} {f g : Flat} {e : Int × Int} {w : El} {os els done rest : List El} {cs : List Flat} {l : Ms}
theorem loop1 {K : Fs} {p2 : Option V} (C : Cl c τ = true) (T : Ht τ) (G : Good R) (B : base <+: R) (hf : fits R = true) (hv : fg (TS c τ R) v = some (els.map El.row)) (hok : ∀ o ∈ els, El.Ok R o) (hl : els.length <= 100)
 (kr : ∀ (x : Int) (ρ : Loc) (os : List aA), els.findSome? El.lost = some x -> K (.ret (.d (.int x))) ρ (TS c (τ ++ [.list os]) R))
 (kn : ∀ (os : List El) x5, (∀ o ∈ os, El.Closed R o) -> os.map El.cs = els.map El.cs -> els.findSome? El.lost = none -> K .next [some (.l 13), some v, p2, some (.l 1), some (.l (τ.length + 4)), x5, none, none] (TS c (τ ++ [.list (os.map El.row)]) R)) :
 OW ((It.seq v).len (TS c (τ ++ [.list []]) R)) λ m => evLoop (fc (OO (n + 8)) [
 .ite (.op (.cmp .Eq) (.op (.sub ()) (.v 5) (.c (.int 1))) (.c (.int 3))) [
  .asg 5 (.mk (.tup ()) [(.mk (.call 29) [(.v 0), (.op (.sub ()) (.v 5) (.c (.int 0)))]), (.c (.int 3))]),
  .ite (.or (.op (.cmp .Eq) (.op (.sub ()) (.v 5) (.c (.int 0))) (.c (.int 2))) (.op (.cmp .Eq) (.op (.sub ()) (.v 5) (.c (.int 0))) (.c (.int 13)))) [
   .ret (.op (.sub ()) (.v 5) (.c (.int 0)))] []] [],
 .ex (.op (.app ()) (.v 4) (.v 5))]) (.one 5) (.seq v) m 0 [some (.l 13), some v, p2, some (.l 1), some (.l (τ.length + 4)), none, none, none] (TS c (τ ++ [.list []]) R) K := by
 refine loopL (ps := els) (γ := List El × Option V) El.row (λ _ g => [some (.l 13), some v, p2, some (.l 1), some (.l (τ.length + 4)), g.2, none, none]) (λ _ g => TS c (τ ++ [.list (g.1.map El.row)]) R)
  (λ done g => (∀ o ∈ g.1, El.Closed R o) ∧ g.1.map El.cs = done.map El.cs ∧ done.findSome? El.lost = none) ([], none) ⟨(λ _ m => nomatch m), rfl, rfl⟩ (λ _ _ _ => seq_push hv) (λ done o rest g K' hp h kn' kr' => ?_) λ g h => ?_
 rotate_left
 · exact kn g.1 g.2 h.1 h.2.1 h.2.2
 have hd : done.length <= els.length := by rw [hp, aH]; exact ea ..
 have hgl : g.1.length = done.length := by have := congrArg bP h.2.1; rwa [aG, aG] at this
 have hg : (g.1.map El.row).length <= 2 ^ 20 := fJ (s20 (hgl ▸ aE hd hl))
 have nx : ∀ w : El, El.Closed R w -> w.cs = o.cs -> o.lost = none -> K' .next [some (.l 13), some v, p2, some (.l 1), some (.l (τ.length + 4)), some (.d w.row), none, none] (TS c (τ ++ [.list (g.1.map El.row ++ [w.row])]) R) := λ w h1 h2 h3 => by
  have := kn' (g.1 ++ [w], some (.d w.row)) ⟨λ o m => (ae.mp m).elim (h.1 o) λ m => aM.mp m ▸ h1, by
   show (g.1 ++ [w]).map El.cs = _
   rw [aU, aU, h.2.1]
   show _ ++ [w.cs] = _
   rw [h2]; rfl, by rw [eV, h.2.2, List.findSome?_cons, h3]; rfl⟩
  rw [show (g.1 ++ [w]).map El.row = g.1.map El.row ++ [w.row] from aU] at this
  exact this
 have ok := hok o (hp ▸ aV _ (.head _))
 have sk := λ {t t' : Int} {Q : Ps} (h : Sk R t t') => sk_ok (n := n) (Q := Q) (fh C rfl) (ht_push T (υ := [.list (g.1.map El.row)])) G hf B h
 cases ok with
 | @n t s h1 h2 => exact cF (c := decide (s = 3)) (decide_eq_false h1) (w_prel (w_appl hg (nx ⟨t, s, [[(t, s)]], none⟩ (.n h1 h2) rfl rfl)))
 | @f t t' f h1 => exact sk h1.sk (cF (nin h1.dc.no rfl) (cF (nin h1.dc.no rfl) (w_prel (w_appl hg (nx ⟨t', 3, [f], none⟩ (.f h1.dc) rfl rfl)))))
 | @u t u f g' h1 h2 =>
  obtain ⟨_, no, _, _, _⟩ := id h2
  exact sk h1 (cF (nin no rfl) (cF (nin no rfl) (w_prel (w_appl hg (nx ⟨u, 3, [f, g'], none⟩ (.u h2) rfl rfl)))))
 | @l t x h1 h2 =>
  have hL : els.findSome? El.lost = some x := by rw [hp, eV, h.2.2]; rfl
  have q := kr' (.d (.int x)) [some (.l 13), some v, p2, some (.l 1), some (.l (τ.length + 4)), some (.d (.tuple [.int x, .int 3])), none, none] _ (kr x _ (g.1.map El.row) hL)
  refine sk h1 ?_
  rcases aP.mp h2 with rfl | h2
  · exact q
  · obtain rfl := aM.mp h2; exact q
theorem fl_len : ∀ {os : List El}, (∀ o ∈ os, El.Closed R o) -> (∀ o ∈ os, o.isU = false) -> (os.flatMap El.fl).length <= 3 * os.length
 | [], _, _ => bA _
 | o :: r, h, hu => by
  have h1 := ((h o (.head _)).fl (hu o (.head _))).len
  have h2 := fl_len (os := r) (λ q m => h q (.tail _ m)) λ q m => hu q (.tail _ m)
  rw [bX, aH, am]; lia
theorem loop2 {K : Fs} {p0 p1 p2 x5 : Option V} (C : Cl c τ = true) (hf : fits R = true) (hc : ∀ o ∈ os, El.Closed R o) (hu : ∀ o ∈ os, o.isU = false) (hl : os.length <= 30)
 (kn : ∀ x5, K .next [p0, p1, p2, some (.l 1), some (.l (τ.length + 4)), x5, some (.d (.int (-1))), some (.l (τ.length + 4 + 1))] (TS c (τ ++ [.list (os.map El.row)] ++ [.list ((os.flatMap El.fl).map encE)]) R)) :
 OW ((It.seq (.l (τ.length + 4))).len (TS c (τ ++ [.list (os.map El.row)] ++ [.list []]) R)) λ m => evLoop (fc (OO (n + 4)) [
 .ite (.op (.cmp .Eq) (.op (.sub ()) (.v 5) (.c (.int 1))) (.c (.int 3))) [
  .ex (.op (.ext ()) (.v 7) (.mk (.call 32) [(.v 3), (.v 5)]))] [
  .ex (.op (.app ()) (.v 7) (.v 5))],
 .ite (.op (.cmp .Gt) (.mk (.bi 0) [(.v 7)]) (.c (.int 10000))) [
  .bad] []]) (.one 5) (.seq (.l (τ.length + 4))) m 0 [p0, p1, p2, some (.l 1), some (.l (τ.length + 4)), x5, some (.d (.int (-1))), some (.l (τ.length + 4 + 1))] (TS c (τ ++ [.list (os.map El.row)] ++ [.list []]) R) K := by
 refine loopL (v := .l (τ.length + 4)) (ps := os) (γ := Option V) El.row (λ _ x5 => [p0, p1, p2, some (.l 1), some (.l (τ.length + 4)), x5, some (.d (.int (-1))), some (.l (τ.length + 4 + 1))]) (λ done _ => TS c (τ ++ [.list (os.map El.row)] ++ [.list ((done.flatMap El.fl).map encE)]) R)
  (λ _ _ => True) x5 trivial (λ done _ _ => congrArg (·.bind cL) (get2a _ _ τ)) (λ done o rest x5 K' hp _ kn' kr' => ?_) λ x5 _ => ?_
 rotate_left
 · exact kn x5
 have mem : ∀ q ∈ done ++ [o], q ∈ os := λ q m => by rw [hp]; exact (ae.mp m).elim (a8 _) λ m => aV _ (by rw [aM.mp m]; exact .head _)
 have hd := fl_len (os := done ++ [o]) (λ q m => hc q (mem q m)) λ q m => hu q (mem q m)
 have hdl : (done ++ [o]).length <= os.length := by rw [hp, aH, aH]; exact bU (bG (bA _)) _
 have h100 : ((done ++ [o]).flatMap El.fl).length <= 100 := aE hd (aE (bm 3 (aE hdl hl)) (by decide))
 have e : (done ++ [o]).flatMap El.fl = done.flatMap El.fl ++ o.fl := by rw [ew, bX, List.flatMap_nil, aq]
 have h99 : (done.flatMap El.fl).length <= 2 ^ 20 := by rw [e, aH] at h100; exact s20 (aE (ea ..) h100)
 have kn' := kn' (some (.d o.row)) trivial
 have cell : ∀ X : List aA, (τ ++ [fH.list (os.map El.row)] ++ [.list X])[τ.length + 1]? = some (.list X) := λ X => get2b _ _ τ
 have len : ∀ {Q : V -> Prop} {X : List aA}, X.length <= 100 -> Q (.d (.int X.length)) -> OW (biD (TS c (τ ++ [.list (os.map El.row)] ++ [.list X]) R) 0 [.l (τ.length + 4 + 1)]) Q := λ {Q X} hX q => w_bi (v := .d (.int X.length)) (by
  show (((τ ++ [fH.list (os.map El.row)] ++ [.list X])[τ.length + 1]?).bind cL).bind _ = _
  rw [cell]; show ck (fits X) _ = _; rw [fO (s20 hX)]; rfl) q
 have cl : ∀ X : List aA, cellL (TS c (τ ++ [.list (os.map El.row)] ++ [.list X]) R) (.l (τ.length + 4 + 1)) = some (τ.length + 4 + 1, X) := λ X => by
  show ((τ ++ [fH.list (os.map El.row)] ++ [.list X])[τ.length + 1]?).bind _ = _
  rw [cell]; rfl
 have fin : ∀ {X : List aA} {P P' : Prop}, X.length <= 100 -> P' -> cond (decide ((10000 : Int) < (X.length : Int))) P P' := λ {X P P'} hX p => cF (decide_eq_false (by lia)) p
 rw [e, aU] at kn'
 have h100' : ((done.flatMap El.fl).map encE ++ o.fl.map encE).length <= 100 := by rw [<- aU, <- e, aG]; exact h100
 have co := hc o (mem o (aV _ (.head _)))
 have uo := hu o (mem o (aV _ (.head _)))
 cases co with
 | @n t s h1 h2 =>
  have app : appendD (TS c (τ ++ [.list (os.map El.row)] ++ [.list ((done.flatMap El.fl).map encE)]) R) (.l (τ.length + 4 + 1)) (.d (encE (t, s))) = some (TS c (τ ++ [.list (os.map El.row)] ++ [.list ((done.flatMap El.fl).map encE ++ [encE (t, s)])]) R) := by
   show (cellL _ _).bind _ = _
   rw [cl]
   show ck (fits ((done.flatMap El.fl).map encE)) (c :: _ :: _ :: _ :: (τ ++ [fH.list (os.map El.row)] ++ [fH.list ((done.flatMap El.fl).map encE)]).set (τ.length + 1) _) = _
   rw [fO (fJ h99), set2b]; rfl
  exact cF (c := decide (s = 3)) (decide_eq_false h1) (w_pre (cl _) (w_app app (len h100' (fin h100' kn'))))
 | @f t f h1 =>
  have ext : extendD (TS c (τ ++ [.list (os.map El.row)] ++ [.list ((done.flatMap El.fl).map encE)]) R) (.l (τ.length + 4 + 1)) (.d (.list (f.map encE))) = some (TS c (τ ++ [.list (os.map El.row)] ++ [.list ((done.flatMap El.fl).map encE ++ f.map encE)]) R) := by
   show (cellL _ _).bind _ = _
   rw [cl]
   show ck (fits ((done.flatMap El.fl).map encE) && fits (f.map encE)) (c :: _ :: _ :: _ :: (τ ++ [fH.list (os.map El.row)] ++ [fH.list ((done.flatMap El.fl).map encE)]).set (τ.length + 1) _) = _
   rw [fO (fJ h99), fO (fJ (aE h1.flat.len (by decide))), set2b]; rfl
  exact w_prx (cl _) (cut_ok (n := n) (fh (fh C rfl) rfl) hf h1.cut (w_ext ext (len h100' (fin h100' kn'))))
 | u => exact nomatch uo
end
section
variable {c : fH} {τ σ' : fE} {R R' : List aA} {n i j d c' m : Nat} {t x ro k o : Int} {r row : aA} {Q : Ps} {v : V} {ρ : Loc} {h : Bool} {f g : Flat} {e : Int × Int} {os els done rest : List El} {S : List Ms} {cs : List Flat} {l : Ms}
theorem w_fina2 {Q : V × fE -> Prop} {a b : fH} (C : Cl c τ = true) (q : Q (.d r, TS c τ R)) : OW (fin (τ.length + 4) (.d r) (TS c (τ ++ [a] ++ [b]) R)) Q := by
 rw [aw]; exact w_fina C q
theorem splice_tail {p0 p1 x5 : Option V} (hm : m = τ.length + 4 + 1) (C : Cl c τ = true) (G : Good R) (B : base <+: R) (hf : R.length + 300 <= 2 ^ 20) (hc : ∀ o ∈ os, El.Closed R o) (hu : ∀ o ∈ os, o.isU = false) (hl : os.length <= 3)
 (k : ∀ R' x, Gr R R' 20 -> Got R' ro x (SS os) 0 -> Q (.d (.int x)) (TS c τ R')) :
 fc (OO (n + 8)) (f_splice.body.drop 6) [p0, p1, some (.d (.int ro)), some (.l 1), some (.l (τ.length + 4)), x5, some (.d (.int (-1))), some (.l m)] (TS c (τ ++ [.list (os.map El.row)] ++ [.list []]) R) (kend λ v σ' => WP (fin (τ.length + 4) v σ') Q) := by
 subst hm
 refine loop2 (n := n + 4) C (fO (by lia)) hc hu (aE hl (by decide)) λ x5 => ?_
 have h9 : (os.flatMap El.fl).length <= 9 := aE (fl_len hc hu) (bm 3 hl)
 have hX : ((os.flatMap El.fl).map encE).length <= 2 ^ 20 := fJ (s20 (aE h9 (by decide)))
 refine w_bi (v := .d (.tuple ((os.flatMap El.fl).map encE))) (by
  show (((τ ++ [fH.list (os.map El.row)] ++ [fH.list ((os.flatMap El.fl).map encE)])[τ.length + 1]?).bind cL).bind _ = _
  rw [get2b]; show ck (fits _) _ = _; rw [fO hX]; rfl) ?_
 refine made_ok (n := n + 2) (fh (fh C rfl) rfl) G B (λ e m => ?_) h9 hf λ R' t g h => w_fina2 C (k R' t g ?_)
 · obtain ⟨o, ho, he⟩ := List.mem_flatMap.mp m
   exact ((hc o ho).fl (hu o ho)).ok e he
 · obtain ⟨kk, h1, h2⟩ := h.kd
   have e : SS os = [settle (os.flatMap El.fl)] := by unfold SS; rw [prod_flat hc hu]; rfl
   exact .mk (uok_list (B.trans g.pre) h1 h2).1.atoms (List.cons_ne_nil _ _) (aW _) (bI ..) ⟨λ i m => ⟨_, e ▸ .head _, aM.mp m ▸ h⟩, λ ms m => ⟨t, .head _, by rw [e] at m; exact aM.mp m ▸ h⟩⟩
theorem Got.more {i : Nat} (h : Got R ro x S i) (k : i <= j) : Got R ro x S j := h.casesOn λ a b d e f => .mk a b (aE d (cy (by decide) k)) e f
theorem splice_step (hc2 : c' <= 2) (H : ∀ d, c' = d + 1 -> SpOk d) : SpOk c' := by
 intro n c τ R v els ro Q C T G B hf hv hok hl hcu k
 have g20 := grw_ge c'
 have ff : fits R = true := fO (by lia)
 refine rg rfl <| w_h T <| loop1 (n := n + 2 * c') C T G B ff hv hok (aE hl (by decide)) (λ x ρ X hx => w_fina C (k R x (.refl G) (.inl hx))) λ os x5 h1 h2 h3 => ?_
 have hol : os.length <= 3 := by have := congrArg bP h2; rw [aG, aG] at this; exact this ▸ hl
 have eS : SS os = SS els := congrArg (λ l => (prod l).map settle) h2
 refine places_ok (n := n + 2 * c' + 7) (fh C rfl) ff (congrArg (·.bind cL) (getc τ _)) h1 (aE hol (by decide)) (λ hu => ?_) λ done o rest hp ho => ?_
 · exact splice_tail (n := n + 2 * c') (congrArg (· + 4) (aH ..)) C G B (by lia) h1 hu hol λ R' x g h => k R' x (g.mono g20) (.inr ⟨h3, eS ▸ h.more (bA _)⟩)
 · have hfl : (os.filter El.isU).length <= c' := by
    have e : ∀ L : List El, (L.filter El.isU).length = ((L.map El.cs).filter λ c => au 1 c.length).length := λ L => by rw [List.filter_map, aG]; rfl
    rw [e, h2, <- e]; exact hcu
   subst hp
   rw [ey, List.filter_cons, if_pos ho, aH, am] at hfl
   cases c' with
   | zero => exact (Nat.not_succ_le_zero _ hfl).elim
   | succ d =>
    refine su_ok (n := n) (c' := d) (j := τ.length) (b9 hc2) (H d rfl) (fh C rfl) (ht_push T) G B hf (getc τ _) (h1 o (aV _ (.head _))) ho (λ q m => h1 q ((ae.mp m).elim (a8 _) λ m => aV _ (.tail _ m))) hol (by rw [ey, aH]; exact b9 hfl) λ R' x g h => w_fina C (k R' x g (.inr ⟨h3, eS ▸ h⟩))
theorem splice_ok : ∀ c', c' <= 2 -> SpOk c'
 | 0, h => splice_step h λ d e => nomatch e
 | c + 1, h => splice_step h λ d e => eH e ▸ splice_ok c (ab h)
end
noncomputable abbrev kS (s : String) : aA := .str (aD s)
noncomputable def fF (nums : List Int) (a : Nat) : fH := .dict [(kS "nums", .d (.list (nums.map .int))), (kS "at", .d (.int (a : Int)))]
noncomputable def brandRow (s : String) : aA := .tuple [.int 8, .tuple [encP (aD s, 6)], .tuple [], .tuple [], .tuple [], .tuple [], .int 0]
noncomputable def laid : List aA := [
 .tuple [.int 11, .int 6, .int 0], .tuple [.int 11, .int 18, .int 1],
 .tuple [.int 12, .tuple ([((16 : Int), (0 : Int))].map encE), .int 0],
 .tuple [.int 12, .tuple ([((17 : Int), (0 : Int)), (16, 0)].map encE), .int 1],
 .tuple [.int 12, .tuple ([((16 : Int), (1 : Int)), (6, 2)].map encE), .int 1],
 .tuple [.int 12, .tuple (([] : Flat).map encE), .int 0],
 .tuple [.int 12, .tuple ([((18 : Int), (0 : Int)), (6, 2), (17, 0)].map encE), .int 0],
 .tuple [.int 11, .int 19, .int 0],
 .tuple [.int 12, .tuple ([((19 : Int), (3 : Int)), (17, 0)].map encE), .int 0],
 brandRow "brand", brandRow "other", .tuple [.int 1, kS "string"], .tuple [.int 10, .int 0], .tuple [.int 14, .int 19], .tuple [.int 15, .int 19, .int 16]]
noncomputable def places : List Int := [16, 17, 18, 6, 19]
noncomputable def wKV : List (aA × V) := [(kS "tab", .l 1), (kS "laid", .d (.tuple laid)), (kS "pool", .l 10), (kS "places", .d (.tuple (places.map .int))), (kS "asked", .l 11)]
noncomputable def mkT (pool : List Int) (A : List aA) (υ : fE) : fE := .list [.none] :: .list [.int (-1)] :: .list [.int (-1)] :: .list [kS "T"] :: .dict [] :: .dict [] :: .list (pool.map .int) :: .list A :: .dict wKV :: .inst 1 hostFs :: υ
def Low (υ : fE) : Prop := υ.all (fH.below 0) = true
structure T4 where
 t : Int
 cs : List Flat
 h : Bool
 lost : Int
noncomputable def encFE (e : Int × Int) : aA := .tuple [.tuple [.int e.1], .int e.2]
noncomputable def encC (f : Flat) : aA := .list (f.map encFE)
noncomputable def fZ (x : T4) : aA := .tuple [.int x.t, .list (x.cs.map encC), .bool x.h, .int x.lost]
noncomputable def stays (t : Int) (h : Bool) : T4 := ⟨t, [[(t, 3)]], h, -1⟩
noncomputable def pa (pool : List Int) (k : Nat) : Int := pool.getD k 0
noncomputable def laidF : Nat -> Flat
 | 0 => [(6, 2)]
 | 1 => [(18, 2)]
 | 2 => [(16, 0)]
 | 3 => [(17, 0), (16, 0)]
 | 4 => [(16, 1), (6, 2)]
 | 5 => []
 | 6 => [(18, 0), (6, 2), (17, 0)]
 | 7 => [(19, 2)]
 | 8 => [(19, 3), (17, 0)]
 | _ => []
noncomputable def memF (pool : List Int) (k : Nat) : Flat := cond (au 11 k) [(pa pool k, 3)] (cond (au 8 k) [(1, 2)] (laidF k))
noncomputable def hangs (k : Nat) : Bool := decide (6 < (k : Int)) && (!decide ((k : Int) = 9) && (!decide ((k : Int) = 10) && !decide ((k : Int) = 11)))
noncomputable def memT (pool : List Int) (k : Nat) : T4 := ⟨pa pool k, [memF pool k], hangs k, -1⟩
section
variable {υ σ τ : fE} {R : List aA} {pool nums : List Int} {a n k : Nat} {A : List aA} {Q : Ps} {u v : V} {r : List (aA × V)} {p : aA × V} {x y : aA} {xs : List aA}
theorem ls_cl (h : Low υ) : Cl (fF nums a) (mkT pool A υ) = true := by
 refine fP rfl (fP ?_ rfl)
 have := all_mono (bA (υ.length + 14)) h
 exact fP rfl (fP rfl (fP rfl (fP rfl (fP rfl (fP rfl (fP rfl (fP rfl (fP rfl (fP rfl this)))))))))
theorem low_push (h : Low υ) (xs : List aA) : Low (υ ++ [.list xs]) := by
 unfold Low at *; rw [List.all_append, h]; rfl
theorem ls_ht : Ht (mkT pool A υ) := rfl
theorem look_hit (h : eqD p.1 x = true) : look x (p :: r) = some p.2 := by
 show cond (eqD p.1 x) _ _ = _; rw [h]; rfl
theorem look_miss (h : eqD p.1 x = false) : look x (p :: r) = look x r := by
 show cond (eqD p.1 x) _ _ = _; rw [h]; rfl
theorem w_dict {Q : V × fE -> Prop} {kvs : List (aA × V)} (hs : fg σ u = none) (hd : dictOf σ u = some kvs) (hk : okK 8 x = true) (hl : look x kvs = some v) (q : Q (v, σ)) : OW (op2 σ u (.d x) (.sub ())) Q :=
 fM (by
  show ((fg σ u).bind λ xs => atD xs x).or ((dictOf σ u).bind _) = _
  rw [hs, hd]
  show Option.or none ((ck (okY x 8) ()).bind λ _ => look x kvs) = _
  rw [show okY x 8 = true from hk, hl]; rfl) q
theorem kg : (eqD (kS "nums") (kS "nums") && (!eqD (kS "nums") (kS "at") && (eqD (kS "at") (kS "at") && (okK 8 (kS "nums") && okK 8 (kS "at"))))) = true := by decide +kernel
theorem not_f {b : Bool} (h : (!b) = true) : b = false := (cw _).mp h
theorem w_nums {Q : V × fE -> Prop} (q : Q (.d (.list (nums.map .int)), TS (fF nums a) τ R)) : OW (op2 (TS (fF nums a) τ R) (.l 0) (.d (kS "nums")) (.sub ())) Q :=
 w_dict rfl rfl (fG (and2 (and2 (and2 kg)))) (look_hit (fG kg)) q
theorem w_at {Q : V × fE -> Prop} (q : Q (.d (.int (a : Int)), TS (fF nums a) τ R)) : OW (op2 (TS (fF nums a) τ R) (.l 0) (.d (kS "at")) (.sub ())) Q :=
 w_dict rfl rfl (and2 (and2 (and2 (and2 kg)))) ((look_miss (not_f (fG (and2 kg)))).trans (look_hit (fG (and2 (and2 kg))))) q
theorem g_set : setID (TS (fF nums a) τ R) (.l 0) (.d (kS "at")) (.d (.int ((a : Int) + 1))) = some (TS (fF nums (a + 1)) τ R) := by
 show (ck (okY (kS "at") 8 && true) (fH.dict (cond (eqD (kS "nums") (kS "at")) _ (_ :: cond (eqD (kS "at") (kS "at")) _ _)) :: _)).or _ = _
 rw [show okY (kS "at") 8 = true from and2 (and2 (and2 (and2 kg))), not_f (fG (and2 kg)), fG (and2 (and2 kg))]; rfl
theorem w_mod {Q : V × fE -> Prop} {i k : Int} (h : 0 < k) (q : Q (.d (.int (i % k)), σ)) : OW (op2 σ (.d (.int i)) (.d (.int k)) (.bin .Mod)) Q :=
 w_bin (by show ck (decide (0 < k)) _ = _; rw [decide_eq_true h]; rfl) q
theorem int_at : ∀ {l : List Int} {i : Nat}, i < l.length -> ∃ x : Int, fN (l.map .int) (i : Int) = some (.int x) := λ {l i} h => ⟨l[i], rowAt_iff.mpr ⟨bj _, by rw [bT, a6, aO h]; rfl⟩⟩
noncomputable abbrev lawB : List Int := [4, 3, 1, 1, 1, 9, 0, 6, 7, 0, 0, 3, 1, 1, 0, 5, 10, 0, 1, 2, 1, 1, 2, 0, 25]
theorem take_gen (C : Cl (fF nums (a + 1)) τ = true) (hn : nums.length <= 40) {k : Int} (hk : 0 < k) (q : ∀ y : Int, 0 <= y -> y < k -> Q (.d (.int y)) (TS (fF nums (a + 1)) τ R)) : fY (OO (n + 1)) 41 [.l 0, .d (.int k)] (TS (fF nums a) τ R) Q := by
 have hm : (nums.map aS).length <= 2 ^ 20 := fJ (s20 (aE hn (by decide)))
 refine rg rfl <| w_at (w_setI g_set (w_nums (w_bi (len_list hm) ?_)))
 have fin : ∀ x : Int, Q (.d (.int (x % k))) (TS (fF nums (a + 1)) τ R) := λ x => q _ (Int.emod_nonneg _ (Int.ne_of_gt hk)) (Int.emod_lt_of_pos _ hk)
 by_cases c : a < nums.length
 · obtain ⟨x, hx⟩ := int_at c
   exact cT (c := decide ((a : Int) < ((nums.map aS).length : Int))) (decide_eq_true (by rw [aG]; lia)) (w_nums (fM (fv rfl (fO hm) hx) (w_mod hk (w_fin C (fin x)))))
 · have e : (a : Int) % 25 = ((a % 25 : Nat) : Int) := by lia
   obtain ⟨x, hx⟩ := int_at (l := lawB) (show a % 25 < lawB.length from Nat.mod_lt _ (by decide))
   rw [<- e] at hx
   exact cF (c := decide ((a : Int) < ((nums.map aS).length : Int))) (decide_eq_false (by rw [aG]; lia)) (fM (fv (xs := lawB.map .int) rfl rfl hx) (w_mod hk (w_fin C (fin x))))
theorem take_ok (h : Low υ) (hn : nums.length <= 40) {k : Int} (hk : 0 < k) (q : ∀ y : Int, 0 <= y -> y < k -> Q (.d (.int y)) ((TS (fF nums (a + 1)) (mkT pool A υ) R))) : fY (OO (n + 1)) 41 [.l 0, .d (.int k)] ((TS (fF nums a) (mkT pool A υ) R)) Q := take_gen (ls_cl h) hn hk q
end
section
variable {υ σ : fE} {R : List aA} {pool : List Int} {n k i : Nat} {A : List aA} {Q : Ps} {v : V} {p : aA × V} {r x : aA} {xs : List aA} {t : Int} {c : fH} {τ : fE} {es : Flat}
theorem look_fst : ∀ {l : List (aA × V)} {i : Nat}, fstP (λ p => eqD p.1 x) l = some i -> look x l = (l[i]?).map (·.2)
 | [], _, h => nomatch h
 | p :: r, i, h => by
  have h : cond (eqD p.1 x) (some 0) ((fstP (λ p : aA × V => eqD p.1 x) r).map (· + 1)) = some i := h
  show cond (eqD p.1 x) _ (look x r) = _
  cases e : eqD p.1 x with
  | true => rw [e] at h; obtain rfl := aY h; rfl
  | false =>
   rw [e] at h
   obtain ⟨j, h2, rfl⟩ := aZ.mp (show (fstP _ r).map (· + 1) = _ from h)
   exact look_fst h2
structure WS (pool : List Int) (A : List aA) (τ : fE) : Prop where
 pl : τ[6]? = some (.list (pool.map .int))
 ask : τ[7]? = some (.list A)
 kv : τ[8]? = some (.dict wKV)
theorem WS.push (h : WS pool A τ) : WS pool A (τ ++ υ) := ⟨(bM (aR.mp h.pl).1).trans h.pl, (bM (aR.mp h.ask).1).trans h.ask, (bM (aR.mp h.kv).1).trans h.kv⟩
theorem ws_mk : WS pool A (mkT pool A υ) := ⟨rfl, rfl, rfl⟩
theorem w_key {Q : V × fE -> Prop} (hw : WS pool A τ) (i : Nat) (h : (okK 8 x && decide (fstP (λ p => eqD p.1 x) wKV = some i)) = true) (hv : (wKV[i]?).map (·.2) = some v) (q : Q (v, TS c τ R)) : OW (op2 (TS c τ R) (.l 12) (.d x) (.sub ())) Q :=
 w_dict (kvs := wKV) (by show (τ[8]?).bind cL = _; rw [hw.kv]; rfl) (by show (τ[8]?).bind cD = _; rw [hw.kv]; rfl) (fG h) ((look_fst (of_decide_eq_true (and2 h))).trans hv) q
theorem w_tab {Q : V × fE -> Prop} (hw : WS pool A τ) (q : Q (.l 1, TS c τ R)) : OW (op2 (TS c τ R) (.l 12) (.d (kS "tab")) (.sub ())) Q := w_key hw 0 (by decide +kernel) rfl q
theorem w_laid {Q : V × fE -> Prop} (hw : WS pool A τ) (q : Q (.d (.tuple laid), TS c τ R)) : OW (op2 (TS c τ R) (.l 12) (.d (kS "laid")) (.sub ())) Q := w_key hw 1 (by decide +kernel) rfl q
theorem w_pool {Q : V × fE -> Prop} (hw : WS pool A τ) (q : Q (.l 10, TS c τ R)) : OW (op2 (TS c τ R) (.l 12) (.d (kS "pool")) (.sub ())) Q := w_key hw 2 (by decide +kernel) rfl q
theorem w_places {Q : V × fE -> Prop} (hw : WS pool A τ) (q : Q (.d (.tuple (places.map .int)), TS c τ R)) : OW (op2 (TS c τ R) (.l 12) (.d (kS "places")) (.sub ())) Q := w_key hw 3 (by decide +kernel) rfl q
theorem w_asked {Q : V × fE -> Prop} (hw : WS pool A τ) (q : Q (.l 11, TS c τ R)) : OW (op2 (TS c τ R) (.l 12) (.d (kS "asked")) (.sub ())) Q := w_key hw 4 (by decide +kernel) rfl q
theorem pool_row (hp : pool.length = 15) (hk : k < 15) : fN (pool.map .int) (k : Int) = some (.int (pa pool k)) := by
 have h : k < pool.length := hp ▸ hk
 refine rowAt_iff.mpr ⟨bj _, ?_⟩
 unfold pa
 rw [bT, a6, az, aO h]; rfl
theorem w_pa {Q : V × fE -> Prop} (hw : WS pool A τ) (hp : pool.length = 15) (hk : k < 15) (q : Q (.d (.int (pa pool k)), TS c τ R)) : OW (op2 (TS c τ R) (.l 10) (.d (.int (k : Int))) (.sub ())) Q :=
 fM (fv (xs := pool.map .int) (by show (τ[6]?).bind cL = _; rw [hw.pl]; rfl) (fO (fJ (by rw [hp]; decide))) (pool_row hp hk)) q
theorem stays_ok {h : Bool} (C : Cl c τ = true) (q : Q (.d (fZ (stays t h))) (TS c τ R)) : fY (OO (n + 1)) 44 [.d (.int t), .d (.bool h)] (TS c τ R) Q := rg rfl <| w_fin C q
theorem flat_go {p0 p1 p2 p3 p4 p5 p6 p7 : Option V} {O : Orc} {P : fE -> Prop} (es : Flat) (hl : es.length <= 100) (q : P (TS c (τ ++ [.list (es.map encFE)]) R)) :
 fq (sTurn (evE O (.c (.bool true))) (evE O (.mk (.tup ()) [(.mk (.tup ()) [(.v 5)]), (.v 6)])) (τ.length + 4)) (.many [5, 6]) (.seq (.d (.tuple (es.map encE)))) [p0, p1, p2, p3, p4, p5, p6, p7] (es.map encE).length 0 (TS c τ R ++ [.list []]) P := by
 refine compM encE (λ e => [encFE e]) 100 (λ acc i => rfl) ?_ (λ e he acc K hN hk => w_appc (s20 (ab hN)) hk) ?_
 · rw [fW]; show 0 + _ <= _; rw [bB, aG]; exact hl
 · rw [fW]; exact q
inductive LR : aA -> Flat -> Prop
 | arr {e ro : Int} : LR (.tuple [.int 11, .int e, .int ro]) [(e, 2)]
 | tup {es : Flat} {ro : Int} : bV es.length 3 = true -> LR (.tuple [.int 12, .tuple (es.map encE), .int ro]) es
theorem laid_lr (hk : k < 9) : ∃ r, fN laid (k : Int) = some r ∧ LR r (laidF k) :=
 (aL.mpr ⟨⟨_, rfl, .arr⟩, aL.mpr ⟨⟨_, rfl, .arr⟩, aL.mpr ⟨⟨_, rfl, .tup rfl⟩, aL.mpr ⟨⟨_, rfl, .tup rfl⟩, aL.mpr ⟨⟨_, rfl, .tup rfl⟩, aL.mpr ⟨⟨_, rfl, .tup rfl⟩, aL.mpr ⟨⟨_, rfl, .tup rfl⟩, aL.mpr ⟨⟨_, rfl, .arr⟩, aL.mpr ⟨⟨_, rfl, .tup rfl⟩, λ _ m => nomatch m⟩⟩⟩⟩⟩⟩⟩⟩⟩ : ∀ k ∈ [0, 1, 2, 3, 4, 5, 6, 7, 8], ∃ r, fN laid ((k : Nat) : Int) = some r ∧ LR r (laidF k)) k (b7.mpr hk)
theorem blt_int (j k : Nat) : decide ((j : Int) < (k : Int)) = au j k := by
 refine eF.mpr ((decide_eq_true_iff ..).trans (Iff.trans ?_ (iff_of_eq a9).symm)); lia
theorem hangs_lt (hk : k < 9) : hangs k = decide (6 < (k : Int)) := by
 unfold hangs
 rw [decide_eq_false (p := (k : Int) = 9) (by lia), decide_eq_false (p := (k : Int) = 10) (by lia), decide_eq_false (p := (k : Int) = 11) (by lia)]
 exact Bool.and_true _
theorem hangs_gt (hk : 11 < k) : hangs k = true := by
 unfold hangs
 rw [decide_eq_true (p := (6 : Int) < k) (by lia), decide_eq_false (p := (k : Int) = 9) (by lia), decide_eq_false (p := (k : Int) = 10) (by lia), decide_eq_false (p := (k : Int) = 11) (by lia)]; rfl
theorem member_ok (C : Cl c τ = true) (hw : WS pool A τ) (hp : pool.length = 15) (hk : k < 15) (q : Q (.d (fZ (memT pool k))) (TS c τ R)) : fY (OO (n + 2)) 45 [.l 12, .d (.int (k : Int))] (TS c τ R) Q := by
 have b := λ j => blt_int j k
 refine rg rfl <| w_pool hw (w_pa hw hp hk ?_)
 unfold memT memF at q
 cases c1 : au 11 k with
 | true =>
  rw [c1, hangs_gt (a9.mp c1)] at q
  exact cT ((b 11).trans c1) (stays_ok (n := n) C (w_fin C q))
 | false =>
  rw [c1, cond_false] at q
  refine cF ((b 11).trans c1) ?_
  cases c2 : au 8 k with
  | true =>
   have k11 : ¬ 11 < k := λ h => bO (c1.symm.trans (a9.mpr h))
   have k8 := a9.mp c2
   have k3 : k = 9 ∨ k = 10 ∨ k = 11 := by lia
   rw [c2, show hangs k = false by rcases k3 with rfl | rfl | rfl <;> rfl] at q
   exact cT ((b 8).trans c2) (w_fin C q)
  | false =>
   have k9 : k < 9 := Nat.lt_succ_of_le (Nat.not_lt.mp λ h => bO (c2.symm.trans (a9.mpr h)))
   rw [c2, cond_false, hangs_lt k9] at q
   obtain ⟨r, hr, lr⟩ := laid_lr k9
   generalize laidF k = es at q lr
   refine cF ((b 8).trans c2) (w_laid hw (fM (fv rfl rfl hr) ?_))
   cases lr with
   | arr => exact w_appc (σ := TS c τ R) (acc := []) (bA _) (w_fl (xs := [_]) C (w_fin C q))
   | tup hl => exact flat_go es (aE (aF hl) (by decide)) (w_fl C (w_fin C q))
end
structure World (R : List aA) (pool : List Int) : Prop where
 good : Good R
 base : base <+: R
 plen : pool.length = 15
 row : ∀ k : Nat, k < 15 -> ∀ r, fN laid (k : Int) = some r -> fN R (pa pool k) = some r
structure TD (R : List aA) (pool : List Int) (m : Nat) (x : T4) (e : El) : Prop where
 t : e.t = x.t
 s : e.s = 3
 cs : ∀ f, f ∈ e.cs ↔ f ∈ x.cs
 len : x.cs.length = e.cs.length
 lost : x.lost = e.lost.getD (-1)
 has : Has R x.t x.h m
 kd : ∃ k, Kd R x.t k ∧ decide (k ∈ [11, 12]) = decide (x.t ∈ pool.take 9)
 ok : El.Ok R e
inductive El.One (R : List aA) : El -> Prop
 | c {e : El} : El.Closed R e -> El.One R e
 | l {y : Int} : y ∈ [2, 13] -> Sk R y y -> El.One R ⟨y, 3, [], some y⟩
noncomputable def opnK (k : Nat) : Bool := decide (k = 8) || au 11 k
structure PoolOk (R : List aA) (pool : List Int) (k : Nat) : Prop where
 has : Has R (pa pool k) (hangs k) 4
 dc : DC R (pa pool k) (memF pool k)
 kd : ∃ c, Kd R (pa pool k) c ∧ decide (c ∈ [11, 12]) = au k 9
 opn : Opn R (pa pool k) (opnK k)
 lp : LpOk R (pa pool k) (pa pool k)
 nz : pa pool k ≠ 0
section
variable {R R' : List aA} {pool : List Int} {a n k i m : Nat} {r x row : aA} {xs : List aA} {t e c : Int} {es : Flat} {h : Bool} {w : T4} {o : El}
theorem World.gr (W : World R pool) (g : Gr R R' n) : World R' pool := ⟨g.good, W.base.trans g.pre, W.plen, λ k hk r h => fK g.pre (W.row k hk r h)⟩
theorem TD.pre (h : TD R pool m w o) (p : R <+: R') : TD R' pool m w o := ⟨h.t, h.s, h.cs, h.len, h.lost, h.has.pre p, h.kd.imp λ _ a => ⟨a.1.pre p, a.2⟩, h.ok.pre p⟩
theorem TD.mono (h : TD R pool m w o) (p : m <= n) : TD R pool n w o := ⟨h.t, h.s, h.cs, h.len, h.lost, h.has.mono p, h.kd, h.ok⟩
theorem El.One.pre (h : El.One R o) (p : R <+: R') : El.One R' o := h.casesOn (λ a => .c (a.pre p)) λ a b => .l a (b.pre p)
theorem kd_fun (h : Kd R t c) (h' : Kd R t e) : c = e := by
 obtain ⟨xs, h1, _⟩ := h
 obtain ⟨ys, h2, _⟩ := h'
 cases h1.symm.trans h2; rfl
theorem not19 (B : base <+: R) (h : Kd R t c) (hk : c ≠ 10) : t ≠ 19 := λ e => by
 subst e; exact hk (kd_fun h ⟨[.int 0], fK B rfl, aF rfl⟩)
theorem has_leaf (h : fN R t = some (.tuple (.int c :: xs))) (hc : (decide (c ∉ leafNo) && bV xs.length 10) = true) (h10 : c = 10 -> t = 19) : Has R t (decide (t = 19)) 1 := by
 have := Has.node (n := 1) (hs := []) ⟨h, .leaf (of_decide_eq_true (fG hc)) (aF (and2 hc)), λ ys e => by cases e; exact h10 rfl⟩ (λ _ m => nomatch m) (aW _)
 rwa [List.any_nil, dS] at this
theorem has_base (B : base <+: R) (h : fN base t = some (.tuple (.int c :: xs))) (hc : (decide (c ∉ leafNo) && bV xs.length 10) = true) (h10 : (!decide (c = 10) || decide (t = 19)) = true) : Has R t (decide (t = 19)) 1 :=
 has_leaf (fK B h) hc λ e => by rw [decide_eq_true e] at h10; exact of_decide_eq_true h10
noncomputable def EL : List Int := [6, 16, 17, 18, 19]
theorem has_elem (B : base <+: R) : ∀ {t : Int}, t ∈ EL -> Has R t (decide (t = 19)) 1 := λ {t} h =>
 (aL.mpr ⟨has_base B rfl rfl rfl, aL.mpr ⟨has_base B rfl rfl rfl, aL.mpr ⟨has_base B rfl rfl rfl, aL.mpr ⟨has_base B rfl rfl rfl, aL.mpr ⟨has_base B rfl rfl rfl, λ _ m => nomatch m⟩⟩⟩⟩⟩ : ∀ t ∈ EL, Has R t (decide (t = 19)) 1) t h
theorem has_node {hs : List (Int × Bool × Nat)} (B : base <+: R) (h : fN R t = some (.tuple (.int c :: xs))) (hl : xs.length <= 10) (hc : c ≠ 10) (hF : Fine (.tuple (.int c :: xs)) (hs.map (·.1))) (h2 : ∀ x ∈ hs, Has R x.1 x.2.1 x.2.2) (hm : 1 + (hs.map (·.2.2)).sum <= n) : Has R t (hs.any (·.2.1)) n := by
 have := Has.node ⟨h, hF, λ ys e => by cases e; exact (hc rfl).elim⟩ h2 hm
 rwa [decide_eq_false (not19 B ⟨xs, h, hl⟩ hc), Bool.false_or] at this
theorem has_elems {es' : List Int} (B : base <+: R) (h : fN R t = some (.tuple (.int c :: xs))) (hl : xs.length <= 10) (hc : c ≠ 10) (hF : Fine (.tuple (.int c :: xs)) es') (he : ∀ e ∈ es', e ∈ EL) (h3 : es'.length <= 3) : Has R t (es'.any λ e => decide (e = 19)) 4 := by
 have := has_node (n := 4) (hs := es'.map λ e => (e, decide (e = 19), 1)) B h hl hc (by rw [bE]; exact (List.map_id es').symm ▸ hF) (λ x m => by obtain ⟨e, hm, rfl⟩ := aj.mp m; exact has_elem B (he e hm)) ?_
 · rwa [List.any_map] at this
 · have : ∀ l : List Int, ((l.map λ e => (e, decide (e = 19), 1)).map (·.2.2)).sum = l.length := λ l => by
    induction l with
    | nil => rfl
    | cons a r ih => rw [ba, ba, List.sum_cons, ih, am, cC]
   rw [this, cC]; exact bG h3
theorem mem_take9 (hk : k < 9) (hp : pool.length = 15) : pa pool k ∈ pool.take 9 := by
 have h : k < (pool.take 9).length := by rw [dq, hp]; exact hk
 have e : (pool.take 9)[k] = pa pool k := by
  unfold pa; rw [List.getElem_take, az, aO (hp ▸ cU hk (by decide))]; rfl
 exact e ▸ eW h
theorem World.lists (W : World R pool) (h : t ∈ pool.take 9) (hk : Kd R t c) : c ∈ [11, 12] := by
 obtain ⟨i, hi, rfl⟩ := List.mem_iff_getElem.mp h
 have hi9 : i < 9 := by rw [dq, W.plen] at hi; exact hi
 have e : (pool.take 9)[i] = pa pool i := by
  unfold pa; rw [List.getElem_take, az, aO (show i < pool.length from W.plen ▸ cU hi9 (by decide))]; rfl
 rw [e] at hk
 obtain ⟨r, hr, lr⟩ := laid_lr hi9
 have h2 := W.row i (cU hi9 (by decide)) r hr
 generalize laidF i = es at lr
 cases lr with
 | arr => rw [kd_fun hk ⟨_, h2, aF rfl⟩]; decide
 | tup => rw [kd_fun hk ⟨_, h2, aF rfl⟩]; decide
theorem World.nolist (W : World R pool) (h : Kd R t c) (hk : decide (c ∈ [11, 12]) = false) : decide (c ∈ [11, 12]) = decide (t ∈ pool.take 9) :=
 hk.trans (decide_eq_false λ m => of_decide_eq_false hk (W.lists m h)).symm
end
section
variable {R : List aA} {pool : List Int} {a n k m : Nat} {r x row : aA} {xs : List aA} {t e c z : Int} {es f : Flat} {h : Bool}
noncomputable def signs : List Int := [3, 0, 1, 2]
theorem sg_of {s : Int} (h : s ∈ signs) : s = 3 ∨ s = 0 ∨ s = 1 ∨ s = 2 := (aP.mp h).imp id λ h => (aP.mp h).imp id λ h => (aP.mp h).imp id aM.mp
theorem flat_ok (B : base <+: R) (hl : f.length <= 3) (h : ∀ e ∈ f, e.1 ∈ EE ∧ e.2 ∈ signs) : FlatOk R f :=
 ⟨hl, λ e he => ⟨(uok_base B (h e he).1).atoms, (sg_of (h e he).2).imp id λ q => ⟨(h e he).1, q⟩⟩⟩
noncomputable def chkF (k : Nat) : Bool := ((laidF k).all λ e => decide (e.1 ∈ EL) && decide (e.2 ∈ signs)) && (decide (hangs k = (laidF k).any λ e => decide (e.1 = 19)) && (decide (opnK k = (laidF k).any λ e => decide (e.2 = 3)) && bV (laidF k).length 3))
theorem chk_ok : ([0, 1, 2, 3, 4, 5, 6, 7, 8].all chkF) = true := by decide +kernel
theorem memF_lt (hk : k < 9) : memF pool k = laidF k := by
 unfold memF
 rw [show au 11 k = false from bY.mpr λ q => Nat.lt_asymm hk (cU (by decide) (a9.mp q)), show au 8 k = false from bY.mpr λ q => Nat.not_lt.mpr (a9.mp q) hk]; rfl
theorem memF_ge (hk : 9 <= k) : memF pool k = [cond (opnK k) (pa pool k, 3) (1, 2)] := by
 unfold memF opnK
 rw [show au 8 k = true from a9.mpr hk, decide_eq_false λ e : k = 8 => absurd (e ▸ hk) (by decide), Bool.false_or]
 cases au 11 k <;> rfl
theorem el_ee : ∀ {x : Int}, x ∈ EL -> x ∈ EE := λ {x} h => (aL.mpr ⟨by decide, aL.mpr ⟨by decide, aL.mpr ⟨by decide, aL.mpr ⟨by decide, aL.mpr ⟨by decide, λ _ m => nomatch m⟩⟩⟩⟩⟩ : ∀ x ∈ EL, x ∈ EE) x h
theorem pool_mk (W : World R pool) (hk : k < 9) (hkd : Kd R (pa pool k) c) (hc : c ∈ [11, 12]) (has : Has R (pa pool k) (hangs k) 4) (cut : Cut R (pa pool k) (laidF k)) (opn : Opn R (pa pool k) (opnK k)) (fl : FlatOk R (laidF k)) (lp : LpOk R (pa pool k) (pa pool k)) (sk : decide (c ∉ [15, 18, 6]) = true) : PoolOk R pool k := by
 have no := (uok_list W.base hc hkd).2
 have z := of_decide_eq_true sk
 refine ⟨has, ⟨.same hkd (λ m => z (a8 [6] m)) (has.mono (by decide)), λ m => no ?_, ⟨c, λ e => z (by rw [e]; decide), hkd⟩, memF_lt hk ▸ cut, memF_lt hk ▸ fl⟩, ⟨c, hkd, (decide_eq_true hc).trans (a9.mpr hk).symm⟩, opn, lp, λ e => no (by rw [e]; decide)⟩
 rcases aP.mp m with e | m
 · rw [e]; decide
 · rw [aM.mp m]; decide
theorem pool_list (W : World R pool) (hk : k < 9) : PoolOk R pool k := by
 obtain ⟨r, hr, lr⟩ := laid_lr hk
 have h := W.row k (cU hk (by decide)) r hr
 have ck : chkF k = true := aT.mp chk_ok k (b7.mpr hk)
 have c2 := of_decide_eq_true (fG (and2 ck))
 have c3 := of_decide_eq_true (fG (and2 (and2 ck)))
 have c4 := aF (and2 (and2 (and2 ck)))
 have c1 : ∀ e ∈ laidF k, e.1 ∈ EL ∧ e.2 ∈ signs := λ e m => have q := aT.mp (fG ck) e m; ⟨of_decide_eq_true (fG q), of_decide_eq_true (and2 q)⟩
 have fl := flat_ok W.base c4 λ e m => ⟨el_ee (c1 e m).1, (c1 e m).2⟩
 have c1' : ∀ e ∈ (laidF k).map (·.1), e ∈ EL := λ e m => by obtain ⟨q, hq, rfl⟩ := aj.mp m; exact (c1 q hq).1
 have ha : ∀ {c xs}, fN R (pa pool k) = some (.tuple (.int c :: xs)) -> xs.length <= 10 -> c ≠ 10 -> Fine (.tuple (.int c :: xs)) ((laidF k).map (·.1)) -> Has R (pa pool k) (hangs k) 4 := λ a b c d => by
  have := has_elems W.base a b c d c1' (by rw [aG]; exact c4)
  rw [List.any_map] at this
  rw [c2]; exact this
 have mk := λ {c} => pool_mk (c := c) W hk
 generalize laidF k = es at lr mk fl ha c3
 cases lr with
 | @arr e ro =>
  have kd : Kd R (pa pool k) 11 := ⟨_, h, aF rfl⟩
  exact mk kd (by decide) (ha h (aF rfl) (by decide) .arr) (.arr (.id kd (by decide)) h) (c3 ▸ .kind kd (by decide)) fl (.id kd (by decide)) rfl
 | tup hl =>
  have kd : Kd R (pa pool k) 12 := ⟨_, h, aF rfl⟩
  have l100 := aE (aF hl) (by decide : 3 <= 100)
  exact mk kd (by decide) (ha h (aF rfl) (by decide) (.tup l100)) (.tup (.id kd (by decide)) l100 h) (c3 ▸ .tup h l100) fl (.id kd (by decide)) rfl
theorem pool_else (W : World R pool) (hk : k < 15) (h9 : 9 <= k) (hr : fN laid (k : Int) = some (.tuple (.int c :: xs))) (hl : bV xs.length 10 = true) (hc : decide (c ∉ [6, 7, 12, 18, 11]) = true) (has : Has R (pa pool k) (hangs k) 4) (sk : Sk R (pa pool k) (pa pool k)) (no : pa pool k ∉ [0, 2, 13]) (ho : opnK k = decide (c ∈ OPN)) : PoolOk R pool k := by
 have h := W.row k hk _ hr
 have kd : Kd R (pa pool k) c := ⟨xs, h, aF hl⟩
 have z := of_decide_eq_true hc
 have lp : LpOk R (pa pool k) (pa pool k) := .id kd λ e => z (by rw [e]; decide)
 have opn : Opn R (pa pool k) (opnK k) := ho ▸ .kind kd λ m => z (a8 [11] m)
 have n0 : pa pool k ≠ 0 := λ e => no (by rw [e]; decide)
 have n2 : pa pool k ≠ 2 := λ e => no (by rw [e]; decide)
 have c11 : c ∉ [11, 12] := λ m => (aP.mp m).elim (λ e => z (by rw [e]; decide)) λ m => z (by rw [aM.mp m]; decide)
 refine ⟨has, ⟨sk, λ m => no (.tail _ m), ⟨c, λ e => z (by rw [e]; decide), kd⟩, ?_, ?_⟩, ⟨c, kd, (decide_eq_false c11).trans (bY.mpr λ q => Nat.not_lt.mpr h9 (a9.mp q)).symm⟩, opn, lp, n0⟩
 · rw [memF_ge h9]; exact .els lp kd c11 n0 (.one opn)
 · rw [memF_ge h9]
   cases opnK k with
   | true => exact ⟨aF rfl, λ e m => aM.mp m ▸ ⟨.one n2 (λ e => z (by rw [e]; decide)) kd, .inl rfl⟩⟩
   | false => exact flat_ok W.base (aF rfl) λ e m => aM.mp m ▸ ⟨(by decide : (1 : Int) ∈ EE), (by decide : (2 : Int) ∈ signs)⟩
theorem World.p11 (W : World R pool) : pa pool 11 = 6 := rowAt_inj W.good.nd (W.row 11 (by decide) _ rfl) (fK W.base rfl)
theorem World.p12 (W : World R pool) : pa pool 12 = 19 := rowAt_inj W.good.nd (W.row 12 (by decide) _ rfl) (fK W.base rfl)
theorem pool_ok (W : World R pool) (hk : k < 15) : PoolOk R pool k := by
 have B := W.base
 by_cases h9 : k < 9
 · exact pool_list W h9
 have l : ∀ {n : Nat}, bV n 10 = true -> n <= 10 := aF
 have no : ∀ {c : Int} {t : Int}, Kd R t c -> decide (c ∉ [1, 2, 3]) = true -> t ∉ [0, 2, 13] := λ h q => kd_no B rfl h (of_decide_eq_true q)
 have sm : ∀ {c t : Int} {h : Bool}, Kd R t c -> decide (c ∉ [15, 18]) = true -> Has R t h 4 -> Sk R t t := λ a b c => .same a (of_decide_eq_true b) (c.mono (by decide))
 have brand : ∀ {k : Nat} (s : String), k < 15 -> 9 <= k -> fN laid (k : Int) = some (brandRow s) -> hangs k = false -> opnK k = false -> PoolOk R pool k := λ {k} s hk h9 hr hh ho => by
  have h := W.row k hk _ hr
  have kd : Kd R (pa pool k) 8 := ⟨_, h, l rfl⟩
  have ha : Has R (pa pool k) (hangs k) 4 := hh ▸ has_elems (es' := [6]) B h (l rfl) (by decide) (Fine.obj (ps := [(aD s, 6)]) (aF rfl)) (by decide) (by decide)
  exact pool_else W hk h9 hr rfl rfl ha (sm kd rfl ha) (no kd rfl) ho
 have hc : k = 9 ∨ k = 10 ∨ k = 11 ∨ k = 12 ∨ k = 13 ∨ k = 14 := by lia
 rcases hc with rfl | rfl | rfl | rfl | rfl | rfl
 · exact brand "brand" hk (by decide) rfl rfl rfl
 · exact brand "other" hk (by decide) rfl rfl rfl
 · have h := W.row 11 hk _ rfl
   have kd : Kd R (pa pool 11) 1 := ⟨_, h, l rfl⟩
   have ha : Has R (pa pool 11) (hangs 11) 4 := by
    have := has_leaf h rfl λ e => absurd e (by decide)
    rw [decide_eq_false (not19 B kd (by decide))] at this; exact this.mono (by decide)
   exact pool_else W hk (by decide) rfl rfl rfl ha (sm kd rfl ha) (W.p11 ▸ by decide) rfl
 · have h := W.row 12 hk _ rfl
   have kd : Kd R (pa pool 12) 10 := ⟨_, h, l rfl⟩
   have ha : Has R (pa pool 12) (hangs 12) 4 := by
    have := has_leaf h rfl λ _ => W.p12
    rw [decide_eq_true W.p12] at this; exact this.mono (by decide)
   exact pool_else W hk (by decide) rfl rfl rfl ha (sm kd rfl ha) (W.p12 ▸ by decide) rfl
 · have h := W.row 13 hk _ rfl
   have kd : Kd R (pa pool 13) 14 := ⟨_, h, l rfl⟩
   have ha : Has R (pa pool 13) (hangs 13) 4 := has_elems (es' := [19]) B h (l rfl) (by decide) .kof (by decide) (by decide)
   exact pool_else W hk (by decide) rfl rfl rfl ha (sm kd rfl ha) (no kd rfl) rfl
 · have h := W.row 14 hk _ rfl
   have kd : Kd R (pa pool 14) 15 := ⟨_, h, l rfl⟩
   have ha : Has R (pa pool 14) (hangs 14) 4 := has_elems (es' := [19, 16]) B h (l rfl) (by decide) .idx (by decide) (by decide)
   exact pool_else W hk (by decide) rfl rfl rfl ha (.par h (ha.mono (by decide))) (no kd rfl) rfl
theorem mem_td (W : World R pool) (hk : k < 15) : TD R pool 4 (memT pool k) ⟨pa pool k, 3, [memF pool k], none⟩ ∧ DC R (pa pool k) (memF pool k) := by
 have P := pool_ok W hk
 refine ⟨⟨rfl, rfl, λ f => Iff.rfl, rfl, rfl, P.has, P.kd.imp λ c a => ⟨a.1, ?_⟩, .f ⟨P.dc.sk, P.dc⟩⟩, P.dc⟩
 cases h : au k 9 with
 | true => exact a.2.trans (h.trans (decide_eq_true (mem_take9 (a9.mp h) W.plen)).symm)
 | false => exact W.nolist a.1 (a.2.trans h)
end
noncomputable def metO (ks : List Nat) : Bool := ks.any opnK
noncomputable def metL (ks : List Nat) : Option Nat := ks.find? λ k => au k 9
noncomputable def metF (pool : List Int) (ks : List Nat) (t : Int) : Flat := cond (metO ks) [(t, 3)] (((metL ks).map (memF pool)).getD [(1, 2)])
noncomputable def metP (pool : List Int) (ks : List Nat) (t : Int) : Int := cond (metO ks) t (((metL ks).map (pa pool)).getD t)
noncomputable def metT (pool : List Int) (ks : List Nat) (t : Int) : T4 := ⟨t, [metF pool ks t], ks.any hangs, -1⟩
noncomputable def encA (t p : Int) (f : Flat) : aA := .tuple [.int t, .int p, encC f]
inductive AskOk (R : List aA) : aA -> Prop
 | mk {t p : Int} {f : Flat} : LpOk R t p -> Cut R t f -> f.length <= 3 -> AskOk R (encA t p f)
section
variable {R R' : List aA} {pool : List Int} {a n k m : Nat} {r x row : aA} {t e c : Int} {es f : Flat} {h : Bool} {ks : List Nat}
theorem AskOk.pre (h : AskOk R x) (p : R <+: R') : AskOk R' x := h.casesOn λ a b c => .mk (a.pre p) (b.pre p) c
theorem cut_list (W : World R pool) (hk : k < 9) (lp : LpOk R t (pa pool k)) : Cut R t (laidF k) := by
 obtain ⟨r, hr, lr⟩ := laid_lr hk
 have h := W.row k (cU hk (by decide)) r hr
 generalize laidF k = es at lr
 cases lr with
 | arr => exact .arr lp h
 | tup hl => exact .tup lp (aE (aF hl) (by decide)) h
theorem met_td (W : World R pool) (hk : ∀ k ∈ ks, k < 15) (hl : ks.length <= 3) (h : fN R t = some (.tuple [.int 7, .tuple (ks.map λ k => .int (pa pool k))])) :
 TD R pool 13 (metT pool ks t) ⟨t, 3, [metF pool ks t], none⟩ ∧ DC R t (metF pool ks t) ∧ AskOk R (encA t (metP pool ks t) (metF pool ks t)) := by
 have B := W.base
 have kd : Kd R t 7 := ⟨_, h, aF rfl⟩
 have no : t ∉ [0, 2, 13] := kd_no B rfl kd (by decide)
 have n0 : t ≠ 0 := λ e => no (by rw [e]; decide)
 have n2 : t ≠ 2 := λ e => no (by rw [e]; decide)
 have ope : OpE R t (metO ks) := .met ks opnK h λ k m => (pool_ok W (hk k m)).opn
 have em : (ks.map λ k => aS (pa pool k)) = (ks.map (pa pool)).map .int := bE.symm
 have has : Has R t (ks.any hangs) 13 := by
  have h' := h
  rw [em] at h'
  have hF : Fine (.tuple [.int 7, .tuple ((ks.map (pa pool)).map .int)]) (ks.map (pa pool)) := .met (by rw [aG]; exact aE hl (by decide))
  have := has_node (n := 13) (hs := ks.map λ k => (pa pool k, hangs k, 4)) B h' (aF rfl) (by decide) ((bE (f := λ k => (pa pool k, hangs k, 4)) (g := λ x : Int × Bool × Nat => x.1) (l := ks)).symm ▸ hF) (λ x m => by obtain ⟨k, hm, rfl⟩ := aj.mp m; exact (pool_ok W (hk k hm)).has) ?_
  · rwa [List.any_map] at this
  · have : ∀ l : List Nat, ((l.map λ k => (pa pool k, hangs k, 4)).map (·.2.2)).sum = 4 * l.length := λ l => by
     induction l with
     | nil => rfl
     | cons a r ih => rw [ba, ba, List.sum_cons, ih, am, Nat.mul_succ, cC]
    rw [this, cC]; exact bG (bm 4 hl)
 have key : LpOk R t (metP pool ks t) ∧ Cut R t (metF pool ks t) ∧ FlatOk R (metF pool ks t) := by
  unfold metP metF
  cases ho : metO ks with
  | true =>
   rw [ho] at ope
   have lp : LpOk R t t := .opn h ope
   exact ⟨lp, .els (b := true) lp kd (by decide) n0 ope, aF rfl, λ e m => aM.mp m ▸ ⟨.one n2 (by decide) kd, .inl rfl⟩⟩
  | false =>
   rw [ho] at ope
   have lp := LpOk.met (R := R) ks (λ k => au k 9) h ope λ k m => (pool_ok W (hk k m)).kd.imp λ c a => ⟨a.1, a.2.symm⟩
   show LpOk R t (((metL ks).map (pa pool)).getD t) ∧ Cut R t (((metL ks).map (memF pool)).getD [(1, 2)]) ∧ FlatOk R (((metL ks).map (memF pool)).getD [(1, 2)])
   cases hf : metL ks with
   | none =>
    rw [show ks.find? (λ k => au k 9) = none from hf] at lp
    exact ⟨lp, .els (b := false) lp kd (by decide) n0 ope, flat_ok B (aF rfl) λ e m => aM.mp m ▸ ⟨(by decide : (1 : Int) ∈ EE), (by decide : (2 : Int) ∈ signs)⟩⟩
   | some k =>
    rw [show ks.find? (λ k => au k 9) = some k from hf] at lp
    have h9 : k < 9 := a9.mp (List.find?_some (p := λ k => au k 9) hf)
    exact ⟨lp, show Cut R t (memF pool k) from memF_lt h9 ▸ cut_list W h9 lp, (pool_ok W (hk k (List.mem_of_find?_eq_some hf))).dc.flat⟩
 have sk : Sk R t t := .same kd (by decide) (has.mono (by decide))
 have dc : DC R t (metF pool ks t) := ⟨sk, λ m => no (.tail _ m), ⟨7, by decide, kd⟩, key.2.1, key.2.2⟩
 exact ⟨⟨rfl, rfl, λ f => Iff.rfl, rfl, rfl, has, ⟨7, kd, W.nolist kd (by decide)⟩, .f ⟨sk, dc⟩⟩, dc, .mk key.1 key.2.1 key.2.2.len⟩
end
noncomputable def natD (ks : List Nat) : List aA := ks.map λ (k : Nat) => .int (k : Int)
section
variable {σ : fE} {R : List aA} {pool : List Int} {a k i m : Nat} {A : List aA} {Q : Ps} {v : V} {r x : aA} {xs : List aA} {e : Int} {c : fH} {τ : fE} {h : Bool} {ks : List Nat} {O : Orc}
theorem list_seq (h : listOf σ v = some xs) : fg σ v = some xs := by
 cases v with
 | d x =>
  have h : listD x = some xs := h
  show (listD x).or (tupD x) = _
  rw [h]; rfl
 | l i => exact h
theorem ok_kint (c : Int) (X : List Int) : okK 8 (.tuple [.int c, .tuple (X.map .int)]) = true := ok_union X
theorem and4 {b1 b2 b3 b4 : Bool} (P : Bool -> Prop) (q : P (b1 && (b2 && (b3 && b4)))) : cond b1 (cond b2 (cond b3 (P b4) (P b3)) (P b2)) (P b1) := by
 cases b1 <;> cases b2 <;> cases b3 <;> exact q
theorem any_bool (g : Nat -> Bool) : ∀ ks : List Nat, anyD (ks.map λ k => aA.bool (g k)) = some (ks.any g)
 | [] => rfl
 | k :: r => by
  show cond (g k) (some true) (anyD (r.map λ k => .bool (g k))) = some (g k || r.any g)
  rw [any_bool g r]
  cases g k <;> rfl
theorem max_gt (k : Int) : ∀ (r : List Int) (a : Int), decide (k < r.foldl max a) = (decide (k < a) || r.any λ x => decide (k < x))
 | [], a => (dS _).symm
 | b :: s, a => by
  rw [eh, max_gt k s, List.any_cons, <- Bool.or_assoc]
  congr 1
  rw [<- Bool.decide_or]
  exact decide_eq_decide.mpr (by lia)
theorem ask_cell (hw : WS pool A τ) : cellL (TS c τ R) (.l 11) = some (11, A) := by
 show (τ[7]?).bind _ = _; rw [hw.ask]; rfl
theorem ask_app (hw : WS pool A τ) (hA : A.length <= 2 ^ 20) : appendD (TS c τ R) (.l 11) (.d x) = some (TS c (τ.set 7 (.list (A ++ [x]))) R) := by
 show (cellL _ _).bind _ = _
 rw [ask_cell hw]
 show ck (fits A) _ = _
 rw [fO hA]; rfl
theorem all_set {p : fH -> Bool} {d : fH} (hd : p d = true) : ∀ {l : fE} {i : Nat}, l.all p = true -> (l.set i d).all p = true
 | [], _, _ => rfl
 | a :: r, 0, h => fP hd (and2 (show (p a && r.all p) = true from h))
 | a :: r, i + 1, h => have h : (p a && r.all p) = true := h; fP (fG h) (all_set hd (and2 h))
theorem cl_set (C : Cl c τ = true) (X : List aA) : Cl c (τ.set 7 (.list X)) = true := by
 unfold Cl at *
 rw [List.length_set]
 exact fP (fG C) (fP (all_set rfl (fG (and2 C))) (and2 (and2 C)))
theorem w_fins {Q : V × fE -> Prop} {X : List aA} (C : Cl c τ = true) (q : Q (.d x, TS c (τ.set 7 (.list X)) R)) : OW (fin (τ.length + 4) (.d x) (TS c (τ.set 7 (.list X)) R)) Q := by
 have := w_fin (cl_set C X) q
 rwa [List.length_set] at this
theorem nat_map : natD ks = (ks.map λ k : Nat => (k : Int)).map .int := bE.symm
theorem met_lc1 {it : It} {P : fE -> Prop} {p1 p2 p3 p4 p5 p6 p7 p8 p9 p10 : Option V} (hw : WS pool A τ) (hp : pool.length = 15) (hk : ∀ k ∈ ks, k < 15) (hl : ks.length <= 3) (hit : ∀ acc i, it.at (TS c τ R ++ [fH.list acc]) i = some (natD ks)[i]?) (q : P (TS c (τ ++ [.list (ks.map λ k => .int (pa pool k))]) R)) :
 fq (sTurn (evE O (.c (.bool true))) (evE O (.op (.sub ()) (.op (.sub ()) (.v 0) (.c (kS "pool"))) (.v 8))) (τ.length + 4)) (.one 8) it [some (.l 12), p1, p2, p3, p4, p5, p6, p7, p8, p9, p10] (natD ks).length 0 (TS c τ R ++ [.list []]) P := by
 refine compM (λ k : Nat => aS (k : Int)) (λ k => [.int (pa pool k)]) 100 hit ?_ (λ k m acc K hN hK => w_pool (τ := τ ++ [.list acc]) hw.push (w_pa (τ := τ ++ [.list acc]) hw.push hp (hk k m) (w_appc (s20 (ab hN)) hK))) ?_
 · rw [fW]; show 0 + _ <= _; rw [bB, aG]; exact aE hl (by decide)
 · rw [fW]; exact q
theorem met_lc2 {it : It} {P : fE -> Prop} {p0 p1 p2 p3 p4 p5 p6 p7 p8 p9 p10 : Option V} (hl : ks.length <= 3) (hit : ∀ acc i, it.at (TS c τ R ++ [fH.list acc]) i = some (natD ks)[i]?) (q : P (TS c (τ ++ [.list (ks.map λ k => .bool (hangs k))]) R)) :
 fq (sTurn (evE O (.c (.bool true))) (evE O (.and (.op (.cmp .Gt) (.v 8) (.c (.int 6))) (.and (.op (.cmp .NotEq) (.v 8) (.c (.int 9))) (.and (.op (.cmp .NotEq) (.v 8) (.c (.int 10))) (.op (.cmp .NotEq) (.v 8) (.c (.int 11))))))) (τ.length + 4)) (.one 8) it [p0, p1, p2, p3, p4, p5, p6, p7, p8, p9, p10] (natD ks).length 0 (TS c τ R ++ [.list []]) P := by
 refine compM (λ k : Nat => aS (k : Int)) (λ k => [.bool (hangs k)]) 100 hit ?_ (λ k m acc K hN hK => ?_) ?_
 · rw [fW]; show 0 + _ <= _; rw [bB, aG]; exact aE hl (by decide)
 · exact and4 (λ b => OW (appendD (TS c τ R ++ [.list acc]) (.l (τ.length + 4)) (.d (.bool b))) K) (w_appc (s20 (ab hN)) hK)
 · rw [fW]; exact q
theorem met_lc3 {it : It} {P : fE -> Prop} {p0 p1 p2 p3 p4 p5 p6 p7 p8 p9 p10 : Option V} (hl : ks.length <= 3) (hit : ∀ acc i, it.at (TS c τ R ++ [fH.list acc]) i = some (natD ks)[i]?) (q : P (TS c (τ ++ [.list (natD (ks.filter λ k => au k 9))]) R)) :
 fq (sTurn (evE O (.op (.cmp .Lt) (.v 8) (.c (.int 9)))) (evE O (.v 8)) (τ.length + 4)) (.one 8) it [p0, p1, p2, p3, p4, p5, p6, p7, p8, p9, p10] (natD ks).length 0 (TS c τ R ++ [.list []]) P := by
 refine compM (λ k : Nat => aS (k : Int)) (λ k => cond (au k 9) [.int (k : Int)] []) 100 hit ?_ (λ k m acc K hN hK => ?_) ?_
 · exact aE (bU (flat_le (g := λ k => cond (au k 9) [aS ((k : Nat) : Int)] []) λ k => by cases au k 9 <;> exact aF rfl) _) ((bB _).symm ▸ aE hl (by decide))
 · cases h : au k 9 with
   | true => rw [h] at hK hN; exact cT ((blt_int k 9).trans h) (w_appc (s20 (ab hN)) hK)
   | false => rw [h] at hK; exact cF ((blt_int k 9).trans h) (aq acc ▸ hK)
 · rw [flat_filter]; exact q
theorem opn_hangs (h : opnK k = true) : hangs k = true := by
 rcases (cX ..).mp h with h | h
 · rw [of_decide_eq_true h]; rfl
 · exact hangs_gt (a9.mp h)
theorem metO_eq : metO ks = (decide ((8 : Int) ∈ ks.map λ k : Nat => (k : Int)) || ks.any λ k => decide ((11 : Int) < (k : Int))) := by
 have : ∀ ks : List Nat, ks.any opnK = ((ks.any λ k => decide (k = 8)) || ks.any λ k => au 11 k) := λ ks => by
  induction ks with
  | nil => rfl
  | cons a r ih =>
   rw [List.any_cons, List.any_cons, List.any_cons, ih]
   show ((decide (a = 8) || au 11 a) || _) = _
   cases decide (a = 8) <;> cases au 11 a <;> cases (r.any λ k => decide (k = 8)) <;> rfl
 unfold metO
 rw [this, show (λ k : Nat => decide ((11 : Int) < (k : Int))) = λ k => au 11 k from funext λ k => blt_int 11 k]
 congr 1
 refine eF.mpr (bW.trans (Iff.trans ⟨λ h => ?_, λ h => ?_⟩ (decide_eq_true_iff ..).symm))
 · obtain ⟨k, m, e⟩ := h; exact aj.mpr ⟨k, m, by rw [of_decide_eq_true e]; rfl⟩
 · obtain ⟨k, m, e⟩ := aj.mp h; exact ⟨k, m, decide_eq_true (by lia)⟩
end
section
variable {υ σ : fE} {R R' : List aA} {pool : List Int} {n k i m : Nat} {A : List aA} {Q : Ps} {u v : V} {r : aA} {xs : List aA} {t e z : Int} {c : fH} {τ : fE} {f : Flat} {h : Bool} {w : T4} {ks : List Nat} {O : Orc}
theorem nil_step {ρ : Loc} {Q : Fs} (q : Q .next ρ σ) : fc O [] ρ σ Q := q
theorem kfl_step {ρ : Loc} {r : List ST} {K K' : Fs} (q : fc O r ρ σ K) : kfl (λ ρ σ => fc O r ρ σ K) K' .next ρ σ := q
theorem w_len {Q : Nat -> Prop} (h : fg σ v = some xs) (q : Q xs.length) : OW ((It.seq v).len σ) Q := ow (len_seq h) q
theorem met_tail {p1 p7 p8 p9 p10 p6 p5 : Option V} (C : Cl c τ = true) (hw : WS pool A τ) (hp : pool.length = 15) (hA : A.length <= 900) (hk : ∀ k ∈ ks, k < 15) (hl : ks.length <= 3) (ho : metO ks = false)
 (q : Q (.d (fZ (metT pool ks t))) (TS c (τ.set 7 (.list (A ++ [encA t (metP pool ks t) (metF pool ks t)]))) R)) :
 fc (OO (n + 2)) (f_law_met.body.drop 4) [some (.l 12), p1, some (.d (.int t)), some (.d (.bool (ks.any hangs))), some (.d (.list (natD (ks.filter λ k => au k 9)))), p5, p6, p7, p8, p9, p10] (TS c τ R) (kend λ v σ' => WP (fin (τ.length + 4) v σ') Q) := by
 have A20 : A.length <= 2 ^ 20 := aE hA (by decide)
 have hh : (ks.filter λ k => au k 9).head? = metL ks := List.head?_filter ..
 have fl := aE (bn (λ k => au k 9) ks) hl
 have fm : ∀ k ∈ ks.filter (λ k => au k 9), k ∈ ks := λ k m => (bh.mp m).1
 unfold metT metP metF at q
 rw [ho] at q
 generalize ks.filter (λ k => au k 9) = ls at hh fl fm
 have hn : (natD ls).length <= 2 ^ 20 := fJ (aE fl (by decide))
 refine w_bi (len_list hn) ?_
 cases ls with
 | nil =>
  rw [<- hh] at q
  exact w_asked hw (w_pre (ask_cell hw) (w_app (ask_app hw A20) (w_fins C q)))
 | cons k r =>
  rw [<- hh] at q
  have h1000 : (natD r).length <= 1000 := fJ (aE (ab fl) (by decide))
  have k15 := hk k (fm k (.head _))
  have z := λ {f : V × fE -> Prop} (q : f (.d (.int (k : Int)), TS c τ R)) => fM (σ := TS c τ R) (Q := f) (fv (u := .d (.list (natD (k :: r)))) (xs := natD (k :: r)) (t := 0) rfl (fO hn) rfl) q
  refine cT (c := decide ((0 : Int) < ((natD (k :: r)).length : Int))) (decide_eq_true (by show (0 : Int) < (((natD r).length + 1 : Nat) : Int); lia)) (z (member_ok (n := n) C hw hp k15 (w_pool hw (z (w_pa hw hp k15 (w_asked hw (w_pre (ask_cell hw) (w_app (ask_app hw A20) (w_fins C q)))))))))
theorem sub_cs {w : T4} : subD σ (.d (fZ w)) (.d (.int 1)) = some (.d (.list (w.cs.map encC))) := rfl
theorem sub_c0 {f : Flat} : subD σ (.d (.list [encC f])) (.d (.int 0)) = some (.d (encC f)) := rfl
theorem met_open0 {p1 p3 p4 p5 p6 p7 p8 p9 p10 : Option V} {K : Fs} {X L D : aA} (h0 : ∀ σ, subD σ (.d X) (.d (.int 1)) = some (.d L)) (h1 : ∀ σ, subD σ (.d L) (.d (.int 0)) = some (.d D)) (hs : ∀ {Q : Ps}, Q (.d X) (TS c τ R) -> fY (OO (n + 2)) 44 [.d (.int t), .d (.bool true)] (TS c τ R) Q)
 (hw : WS pool A τ) (hA : A.length <= 2 ^ 20) (q : ∀ ρ, K (.ret (.d X)) ρ (TS c (τ.set 7 (.list (A ++ [.tuple [.int t, .int t, D]]))) R)) :
 fc (OO (n + 2)) [.asg 5 (.mk (.call 44) [(.v 2), (.c (.bool true))]), .ex (.op (.app ()) (.op (.sub ()) (.v 0) (.c (kS "asked"))) (.mk (.tup ()) [(.v 2), (.v 2), (.op (.sub ()) (.op (.sub ()) (.v 5) (.c (.int 1))) (.c (.int 0)))])), .ret (.v 5)] [some (.l 12), p1, some (.d (.int t)), p3, p4, p5, p6, p7, p8, p9, p10] (TS c τ R) K := by
 refine hs ?_
 refine w_asked hw ?_
 refine w_pre (ask_cell hw) ?_
 refine fM (h0 _) ?_
 refine fM (h1 _) ?_
 refine w_app (ask_app hw hA) ?_
 exact q _
theorem met_open {p1 p3 p4 p5 p6 p7 p8 p9 p10 : Option V} {K : Fs} (C : Cl c τ = true) (hw : WS pool A τ) (hA : A.length <= 2 ^ 20) (q : ∀ ρ, K (.ret (.d (fZ (stays t true)))) ρ (TS c (τ.set 7 (.list (A ++ [encA t t [(t, 3)]]))) R)) :
 fc (OO (n + 2)) [.asg 5 (.mk (.call 44) [(.v 2), (.c (.bool true))]), .ex (.op (.app ()) (.op (.sub ()) (.v 0) (.c (kS "asked"))) (.mk (.tup ()) [(.v 2), (.v 2), (.op (.sub ()) (.op (.sub ()) (.v 5) (.c (.int 1))) (.c (.int 0)))])), .ret (.v 5)] [some (.l 12), p1, some (.d (.int t)), p3, p4, p5, p6, p7, p8, p9, p10] (TS c τ R) K :=
 met_open0 (X := fZ (stays t true)) (L := .list [encC [(t, 3)]]) (D := encC [(t, 3)]) (λ _ => sub_cs) (λ _ => sub_c0) (λ q => stays_ok (n := n + 1) C q) hw hA q
theorem met_ok (C : Cl c τ = true) (hw : WS pool A τ) (W : World R pool) (hf : R.length < 2 ^ 20) (hA : A.length <= 900) (hv : ∀ R, listOf (TS c τ R) v = some (natD ks)) (hk : ∀ k ∈ ks, k < 15) (hl : ks.length <= 3) (hne : ks ≠ [])
 (q : ∀ R' t, Gr R R' 1 -> fN R' t = some (.tuple [.int 7, .tuple (ks.map λ k => .int (pa pool k))]) -> Q (.d (fZ (metT pool ks t))) (TS c (τ.set 7 (.list (A ++ [encA t (metP pool ks t) (metF pool ks t)]))) R')) : fY (OO (n + 3)) 46 [.l 12, v] (TS c τ R) Q := by
 have A20 : A.length <= 2 ^ 20 := aE hA (by decide)
 have sq : ∀ R, fg (TS c τ R) v = some (natD ks) := λ R => list_seq (hv R)
 have it : ∀ R acc i, (It.seq v).at (TS c τ R ++ [fH.list acc]) i = some (natD ks)[i]? := λ R acc i => at_seq (seq_push (υ := [.list acc]) (sq R)) i
 have l3 : (ks.map λ k => aS (pa pool k)).length <= 2 ^ 20 := fJ (aE hl (by decide))
 have em : (ks.map λ k => aS (pa pool k)) = (ks.map (pa pool)).map .int := bE.symm
 refine rg rfl <| w_tab hw <| w_len (sq R) <| met_lc1 hw W.plen hk hl (it R) <| w_fl C <| w_bi (tup_list l3) <| put_ok (n := n + 1) C W.good hf (em ▸ ok_kint 7 _) λ R' t g hr => ?_
 have q := q R' t g hr
 refine w_len (sq R') <| met_lc2 hl (it R') <| w_fl C <| w_bi (v := .d (.bool (ks.any hangs))) (by show (anyD _).map _ = _; rw [any_bool]; rfl) <| w_len (sq R') <| met_lc3 hl (it R') <| w_fl C ?_
 refine w_cmp (b := decide ((8 : Int) ∈ ks.map λ k : Nat => (k : Int))) (in_ints 8 _ ((sq R').trans (congrArg some nat_map))) ?_
 have ho := metO_eq (ks := ks)
 have fin : metO ks = true -> Q (.d (fZ (stays t true))) (TS c (τ.set 7 (.list (A ++ [encA t t [(t, 3)]]))) R') := λ ho => by
  have ha : ks.any hangs = true := by
   obtain ⟨k, m, h⟩ := bW.mp ho
   exact bW.mpr ⟨k, m, opn_hangs h⟩
  unfold metT metP metF at q
  rw [ho, ha] at q; exact q
 cases h8 : decide ((8 : Int) ∈ ks.map λ k : Nat => (k : Int)) with
 | true =>
  rw [h8] at ho
  exact met_open (n := n) C hw A20 λ ρ => w_fins C (fin ho)
 | false =>
  rw [h8, Bool.false_or] at ho
  obtain ⟨mx, hmx, e⟩ : ∃ mx : Int, biD (TS c τ R') 6 [v] = some (.d (.int mx)) ∧ decide ((11 : Int) < mx) = metO ks := by
   obtain ⟨k0, r, ek⟩ := List.exists_cons_of_ne_nil hne
   refine ⟨(r.map λ k : Nat => (k : Int)).foldl max (k0 : Int), ?_, ?_⟩
   · show ((listOf (TS c τ R') v).bind _) = _
     rw [hv R', nat_map]
     show ((ints? _).bind _) = _
     rw [ints_map]
     show ((ck (decide ((ks.map λ k : Nat => (k : Int)).length <= 64)) ()).bind _) = _
     rw [aG, decide_eq_true (aE hl (by decide)), ek]; rfl
   · rw [max_gt, ho, List.any_map, ek]; rfl
  refine w_bi hmx ?_
  cases hm : metO ks with
  | true =>
   refine cT (e.trans hm) ?_
   exact met_open (n := n) C hw A20 λ ρ => w_fins C (fin hm)
  | false =>
   refine cF (e.trans hm) (nil_step (kfl_step ?_))
   exact met_tail (n := n) C hw W.plen hA hk hl hm q
end
section
variable {σ : fE} {R : List aA} {k i m j : Nat} {v : V} {c : fH} {τ : fE} {ks : List Nat} {O : Orc}
theorem nat_in (h : τ[j]? = some (.list (natD ks))) (k : Nat) : cmpD (TS c τ R) .In (.d (.int (k : Int))) (.l (j + 4)) = some (decide (k ∈ ks)) := by
 refine (in_ints (σ := TS c τ R) (k : Int) (ks.map λ k : Nat => (k : Int)) (by show (τ[j]?).bind cL = _; rw [h]; exact congrArg some nat_map)).trans (congrArg some (decide_eq_decide.mpr ⟨λ m => ?_, λ m => aj.mpr ⟨k, m, rfl⟩⟩))
 obtain ⟨i, hi, e⟩ := aj.mp m
 exact Int.ofNat.inj e ▸ hi
theorem pick_ok {K : Fs} {p0 p1 p3 p5 p6 p7 : Option V} (h : τ[j]? = some (.list (natD ks))) (hl : ks.length <= 2) (hk : k < 15) (q : ∀ k' : Nat, k' < 15 -> k' ∉ ks -> K .next [p0, p1, some (.l (j + 4)), p3, some (.d (.int (k' : Int))), p5, p6, p7] (TS c τ R)) :
 evX O (.whl (.op (.cmp .In) (.v 4) (.v 2)) [.asg 4 (.op (.bin .Mod) (.op (.bin .Add) (.v 4) (.c (.int 1))) (.c (.int 15)))]) [p0, p1, some (.l (j + 4)), p3, some (.d (.int (k : Int))), p5, p6, p7] (TS c τ R) K := by
 have e : ∀ k : Nat, ((k : Int) + 1) % 15 = (((k + 1) % 15 : Nat) : Int) := λ k => by lia
 have lt : ∀ k : Nat, (k + 1) % 15 < 15 := λ k => Nat.mod_lt _ (by decide)
 refine Exists.intro 3 (w_cmp (nat_in h k) ?_)
 by_cases m0 : k ∈ ks
 · rw [decide_eq_true m0]
   show wIter (evE O (.op (.cmp .In) (.v 4) (.v 2))) (fc O [.asg 4 (.op (.bin .Mod) (.op (.bin .Add) (.v 4) (.c (.int 1))) (.c (.int 15)))]) 2 [p0, p1, some (.l (j + 4)), p3, some (.d (.int (((k : Int) + 1) % 15))), p5, p6, p7] (TS c τ R) K
   rw [e]
   refine w_cmp (nat_in h _) ?_
   by_cases m1 : (k + 1) % 15 ∈ ks
   · rw [decide_eq_true m1]
     show wIter (evE O (.op (.cmp .In) (.v 4) (.v 2))) (fc O [.asg 4 (.op (.bin .Mod) (.op (.bin .Add) (.v 4) (.c (.int 1))) (.c (.int 15)))]) 1 [p0, p1, some (.l (j + 4)), p3, some (.d (.int (((((k + 1) % 15 : Nat) : Int) + 1) % 15))), p5, p6, p7] (TS c τ R) K
     rw [e]
     have m2 : ((k + 1) % 15 + 1) % 15 ∉ ks := λ m2 => by
      have nd : [k, (k + 1) % 15, ((k + 1) % 15 + 1) % 15].Nodup := bq.mpr ⟨λ m => ?_, bq.mpr ⟨λ m => ?_, bI ..⟩⟩
      · exact absurd (aE (nd.length_le_of_subset (aL.mpr ⟨m0, aL.mpr ⟨m1, aL.mpr ⟨m2, λ _ m => nomatch m⟩⟩⟩)) hl) (Nat.not_le.mpr (cQ 2))
      · rcases aP.mp m with e | m
        · lia
        · have := aM.mp m; lia
      · have := aM.mp m; lia
     exact w_cmp (nat_in h _) (by rw [decide_eq_false m2]; exact q _ (lt _) m2)
   · rw [decide_eq_false m1]; exact q _ (lt k) m1
 · rw [decide_eq_false m0]; exact q k hk m0
end
inductive AG (A : List aA) (R : List aA) (c : Nat) : List aA -> Prop
 | mk {B : List aA} : B.length <= c -> (∀ y ∈ B, AskOk R y) -> AG A R c (A ++ B)
section
variable {R R' : List aA} {a n k i m j : Nat} {A A' B : List aA} {Q : Ps} {v : V} {c : fH} {z : Int}
theorem AG.refl : AG A R n A := by
 have := AG.mk (A := A) (R := R) (c := n) (B := []) (bA _) λ _ m => nomatch m
 rwa [aq] at this
theorem AG.trans (h : AG A R i A') (k : AG A' R' j B) (p : R <+: R') : AG A R' (i + j) B := by
 cases h with
 | @mk B h1 h2 => cases k with
  | @mk D k1 k2 =>
   rw [aw]
   exact .mk (by rw [aH]; exact dj h1 k1) λ y m => (ae.mp m).elim (λ m => (h2 y m).pre p) (k2 y)
theorem AG.mono (h : AG A R i A') (k : i <= j) : AG A R j A' := h.casesOn λ a b => .mk (aE a k) b
theorem AG.len (h : AG A R i A') : A'.length <= A.length + i := h.casesOn λ a _ => by rw [aH]; exact bU a _
theorem loopNz {α γ : Type} {ps : List α} {b : Loc -> fE -> Fs -> Prop} {tg : Tg} {Q : Fs} (hz : z = (ps.length : Int)) (hl : ps.length <= 2 ^ 20) (L : List α -> γ -> Loc) (S : List α -> γ -> fE) (P : List α -> γ -> Prop) (g : γ) (h0 : P [] g)
 (step : ∀ done p rest g (K : Fs), ps = done ++ p :: rest -> P done g -> (∀ g', P (done ++ [p]) g' -> K .next (L (done ++ [p]) g') (S (done ++ [p]) g')) -> (∀ v ρ' σ', Q (.ret v) ρ' σ' -> K (.ret v) ρ' σ') -> OW (tg.put (L done g) (.int done.length)) λ ρ₁ => b ρ₁ (S done g) K)
 (fin : ∀ g, P ps g -> Q .next (L ps g) (S ps g)) : OW (itOf (S [] g) (.d (.int z)) (.range ())) λ it => OW (it.len (S [] g)) λ n => evLoop b tg it n 0 (L [] g) (S [] g) Q := by
 subst hz; exact loopN hl L S P g h0 step fin
end
section
variable {υ : fE} {R : List aA} {pool nums : List Int} {a n k m j : Nat} {A : List aA} {v : V} {c : fH} {τ : fE} {ks : List Nat} {O : Orc} {z : Int}
theorem pick_okz {K : Fs} {p0 p1 p3 p5 p6 p7 : Option V} (hz : z = (k : Int)) (h : τ[j]? = some (.list (natD ks))) (hl : ks.length <= 2) (hk : k < 15) (q : ∀ k' : Nat, k' < 15 -> k' ∉ ks -> K .next [p0, p1, some (.l (j + 4)), p3, some (.d (.int (k' : Int))), p5, p6, p7] (TS c τ R)) :
 evX O (.whl (.op (.cmp .In) (.v 4) (.v 2)) [.asg 4 (.op (.bin .Mod) (.op (.bin .Add) (.v 4) (.c (.int 1))) (.c (.int 15)))]) [p0, p1, some (.l (j + 4)), p3, some (.d (.int z)), p5, p6, p7] (TS c τ R) K := by
 subst hz; exact pick_ok h hl hk q
theorem meet_picks {K : Fs} {y : Int} (h : Low υ) (hn : nums.length <= 40) (h0 : 0 <= y) (h2 : y < 2)
 (kn : ∀ a' ks x3 x4, ks.length <= 3 -> ks ≠ [] -> (∀ k ∈ ks, k < 15) -> K .next [some (.l 0), some (.l 12), some (.l (υ.length + 10 + 4)), x3, x4, none, none, none] ((TS (fF nums a') (mkT pool A (υ ++ [.list (natD ks)])) R))) :
 OW (itOf ((TS (fF nums a) (mkT pool A (υ ++ [.list []])) R)) (.d (.int (2 + y))) (.range ())) λ it => OW (it.len ((TS (fF nums a) (mkT pool A (υ ++ [.list []])) R))) λ n' => evLoop (fc (OO (n + 3)) [
 .asg 4 (.mk (.call 41) [(.v 0), (.c (.int 26))]),
 .asg 4 (.ite (.op (.cmp .Gt) (.v 4) (.c (.int 14))) (.op (.bin .Sub) (.v 4) (.c (.int 15))) (.v 4)),
 .whl (.op (.cmp .In) (.v 4) (.v 2)) [
  .asg 4 (.op (.bin .Mod) (.op (.bin .Add) (.v 4) (.c (.int 1))) (.c (.int 15)))],
 .ex (.op (.app ()) (.v 2) (.v 4))]) (.one 3) it n' 0 [some (.l 0), some (.l 12), some (.l (υ.length + 10 + 4)), none, none, none, none, none] ((TS (fF nums a) (mkT pool A (υ ++ [.list []])) R)) K := by
 obtain ⟨c, hc⟩ : ∃ c : Nat, 2 + y = (c : Int) := ⟨(2 + y).toNat, by lia⟩
 have hc3 : c <= 3 := by lia
 have hc2 : 0 < c := by lia
 refine loopNz (ps := bo c ()) (γ := (Nat × List Nat) × Option V × Option V) (by rw [bN]; exact hc) (by rw [bN]; exact aE hc3 (by decide)) (λ _ g => [some (.l 0), some (.l 12), some (.l (υ.length + 10 + 4)), g.2.1, g.2.2, none, none, none]) (λ _ g => (TS (fF nums g.1.1) (mkT pool A (υ ++ [.list (natD g.1.2)])) R))
  (λ done g => g.1.2.length = done.length ∧ ∀ k ∈ g.1.2, k < 15) ((a, []), none, none) ⟨rfl, λ _ m => nomatch m⟩ (λ done p rest g K' hp hg kn' kr => ?_) λ g hg => ?_
 rotate_left
 · have l : g.1.2.length = c := hg.1.trans (bN ..)
   exact kn g.1.1 g.1.2 g.2.1 g.2.2 (l ▸ hc3) (λ e => by rw [e] at l; exact Nat.ne_of_gt hc2 l.symm) hg.2
 have hd : done.length + 1 <= 3 := by
  have := congrArg bP hp
  rw [bN, aH, am] at this; lia
 refine take_ok (n := n + 2) (υ := υ ++ [.list (natD g.1.2)]) (low_push h _) hn (k := 26) (by decide) λ z z0 z26 => ?_
 have go : ∀ (w : Int) (k : Nat), w = (k : Int) -> k < 15 -> fc (OO (n + 3)) [.whl (.op (.cmp .In) (.v 4) (.v 2)) [.asg 4 (.op (.bin .Mod) (.op (.bin .Add) (.v 4) (.c (.int 1))) (.c (.int 15)))], .ex (.op (.app ()) (.v 2) (.v 4))] [some (.l 0), some (.l 12), some (.l (υ.length + 10 + 4)), some (.d (.int done.length)), some (.d (.int w)), none, none, none] ((TS (fF nums (g.1.1 + 1)) (mkT pool A (υ ++ [.list (natD g.1.2)])) R)) K' := λ w k hw hk => by
  refine pick_okz (τ := mkT pool A (υ ++ [.list (natD g.1.2)])) (j := υ.length + 10) (ks := g.1.2) hw (show (mkT pool A (υ ++ [.list (natD g.1.2)]))[υ.length + 10]? = some (.list (natD g.1.2)) from getc υ _) (by lia) hk λ k' k15 nk => ?_
  refine w_prel (τ := mkT pool A υ) ?_
  refine w_appl (τ := mkT pool A υ) (fJ (by lia)) ?_
  have := kn' ((g.1.1 + 1, g.1.2 ++ [k']), some (.d (.int done.length)), some (.d (.int (k' : Int)))) ⟨by show (g.1.2 ++ [k']).length = _; rw [aH, aH, hg.1]; rfl, λ k m => (ae.mp m).elim (hg.2 k) λ m => aM.mp m ▸ k15⟩
  rw [show natD (g.1.2 ++ [k']) = natD g.1.2 ++ [.int (k' : Int)] from aU] at this
  exact this
 cases h14 : decide ((14 : Int) < z) with
 | true =>
  have := of_decide_eq_true h14
  refine cT h14 ?_
  exact go (z - 15) (z - 15).toNat (by lia) (by lia)
 | false =>
  have := of_decide_eq_false h14
  refine cF h14 ?_
  exact go z z.toNat (by lia) (by lia)
end
section
variable {υ : fE} {R : List aA} {a n k i m : Nat} {v : V} {c : fH} {τ : fE} {ks : List Nat} {O : Orc} {xs : List aA}
theorem list_push (h : listOf (TS c τ R) v = some xs) : listOf (TS c (τ ++ υ) R) v = some xs := by
 cases v with
 | d x => exact h
 | l i =>
  have h : ((TS c τ R)[i]?).bind cL = some xs := h
  obtain ⟨d, h1, h2⟩ := bK.mp h
  show ((TS c τ R ++ υ)[i]?).bind cL = some xs
  rw [bM (aR.mp h1).1, h1]; exact h2
theorem rev_go {P : fE -> Prop} {p0 p1 p2 p3 p4 p5 p6 p7 : Option V} (hv : listOf (TS c τ R) v = some (natD ks)) (hl : ks.length <= 3) (q : P (TS c (τ ++ [.list (natD ks.reverse)]) R)) :
 OW (itOf (TS c τ R) v (.rev ())) λ it => OW (it.len (TS c τ R)) λ n => fq (sTurn (evE O (.c (.bool true))) (evE O (.v 5)) (τ.length + 4)) (.one 5) it [p0, p1, p2, p3, p4, p5, p6, p7] n 0 (TS c τ R ++ [.list []]) P := by
 refine ow (a := It.rev v (natD ks).length) (by show (listOf _ v).map _ = _; rw [hv]; rfl) ?_
 show fq _ _ _ _ (natD ks).length _ _ _
 have e : (natD ks).length = (ks.reverse.map λ k : Nat => aS (k : Int)).length := by
  show (ks.map _).length = _
  rw [aG, aG, eA]
 have hit : ∀ acc i, (It.rev v (natD ks).length).at (TS c τ R ++ [fH.list acc]) i = some (ks.reverse.map λ k : Nat => aS (k : Int))[i]? := λ acc i => by
  show (listOf (TS c (τ ++ [.list acc]) R) v).bind _ = _
  rw [list_push hv]
  rw [List.map_reverse]
  show cond (au i (natD ks).length) (((natD ks)[(natD ks).length - 1 - i]?).map some) (some none) = some (natD ks).reverse[i]?
  cases h : au i (natD ks).length with
  | true =>
   have hi := a9.mp h
   rw [List.getElem?_reverse hi, aO (show (natD ks).length - 1 - i < (natD ks).length by lia)]; rfl
  | false =>
   rw [bS (l := (natD ks).reverse) (by rw [eA]; exact Nat.not_lt.mp λ q => bO (h.symm.trans (a9.mpr q)))]; rfl
 generalize (It.rev v (natD ks).length) = it at hit
 rw [e]
 refine compM (λ k : Nat => aS (k : Int)) (λ k => [.int (k : Int)]) 100 hit ?_ (λ k m acc K hN hK => w_appc (s20 (ab hN)) hK) ?_
 · rw [fW]; show 0 + _ <= _; rw [bB, aG, eA]; exact aE hl (by decide)
 · rw [fW]; exact q
end
section
variable {υ : fE} {R R' : List aA} {pool nums : List Int} {a n k m : Nat} {A A' : List aA} {Q : Ps} {τ : fE} {ks : List Nat}
theorem meet_ok (h : Low υ) (hn : nums.length <= 40) (W : World R pool) (hf : R.length + 10 < 2 ^ 20) (hA : A.length <= 800)
 (q : ∀ a' R' A' x t f, Gr R R' 2 -> AG A R' 2 A' -> TD R' pool 13 x ⟨t, 3, [f], none⟩ -> DC R' t f -> Q (.d (fZ x)) ((TS (fF nums a') (mkT pool A' υ) R'))) : fY (OO (n + 4)) 47 [.l 0, .l 12] ((TS (fF nums a) (mkT pool A υ) R)) Q := by
 refine rg rfl ?_
 refine take_ok (n := n + 2) (υ := υ ++ [.list []]) (low_push h _) hn (k := 2) (by decide) λ y y0 y2 => ?_
 refine meet_picks (n := n) h hn y0 y2 λ a' ks x3 x4 hl hne hk => ?_
 have lv : ∀ R A, listOf ((TS (fF nums a') (mkT pool A (υ ++ [.list (natD ks)])) R)) (.l (υ.length + 10 + 4)) = some (natD ks) := λ R A => by
  show ((υ ++ [fH.list (natD ks)])[υ.length]?).bind cL = _; rw [getc]; rfl
 have C : ∀ A, Cl (fF nums a') (mkT pool A (υ ++ [.list (natD ks)])) = true := λ A => ls_cl (low_push h _)
 refine rev_go (lv R A) hl ?_
 refine w_fl (C A) ?_
 refine met_ok (n := n) (C A) ws_mk W (by lia) (by lia) (ks := ks.reverse) (λ _ => rfl) (λ k m => hk k (List.mem_reverse.mp m)) (by rw [eA]; exact hl) (λ e => hne (List.reverse_eq_nil_iff.mp e)) λ R₁ t₁ g1 r1 => ?_
 have gl := g1.len
 have W1 := W.gr g1
 have D1 := met_td W1 (λ k m => hk k (List.mem_reverse.mp m)) (by rw [eA]; exact hl) r1
 refine met_ok (n := n) (τ := mkT pool (A ++ [encA t₁ (metP pool ks.reverse t₁) (metF pool ks.reverse t₁)]) (υ ++ [.list (natD ks)])) (C _) ws_mk W1 (by lia) (by rw [aH]; show _ + 1 <= 900; lia) (λ R => lv R _) hk hl hne λ R₂ t₂ g2 r2 => ?_
 have D2 := met_td (W1.gr g2) hk hl r2
 have one : ∀ {R : List aA} {A : List aA} {x : aA}, AskOk R x -> AG A R 1 (A ++ [x]) := λ h => .mk (aW 1) λ y m => aM.mp m ▸ h
 exact w_fina (τ := mkT pool (A ++ [encA t₁ (metP pool ks.reverse t₁) (metF pool ks.reverse t₁)] ++ [encA t₂ (metP pool ks t₂) (metF pool ks t₂)]) υ) (υ := [.list (natD ks)]) (ls_cl h) (q a' R₂ _ _ t₂ _ (g1.trans g2) ((one D1.2.2).trans (one D2.2.2) g2.pre) D2.1 D2.2.1)
end
section
variable {υ : fE} {R R' : List aA} {pool nums : List Int} {a n k : Nat} {A A' : List aA} {Q : Ps} {c : fH} {z : Int}
theorem plain_ok (h : Low υ) (hn : nums.length <= 40) (W : World R pool) (hf : R.length + 10 < 2 ^ 20) (hA : A.length <= 800)
 (q : ∀ a' R' A' x t f, Gr R R' 2 -> AG A R' 2 A' -> TD R' pool 13 x ⟨t, 3, [f], none⟩ -> DC R' t f -> Q (.d (fZ x)) ((TS (fF nums a') (mkT pool A' υ) R'))) : fY (OO (n + 5)) 48 [.l 0, .l 12] ((TS (fF nums a) (mkT pool A υ) R)) Q := by
 refine rg rfl <| take_ok (n := n + 3) h hn (k := 3) (by decide) λ y y0 y3 => ?_
 by_cases c : y = 0
 · refine cT (c := decide (y = 0)) (decide_eq_true c) ?_
   refine take_ok (n := n + 3) h hn (k := 15) (by decide) λ z z0 z15 => ?_
   obtain ⟨k, rfl⟩ : ∃ k : Nat, z = (k : Int) := ⟨z.toNat, by lia⟩
   have k15 : k < 15 := by lia
   have D := mem_td W k15
   exact member_ok (n := n + 2) (ls_cl h) ws_mk W.plen k15 (w_fin (ls_cl h) (q _ R A _ _ _ (.refl W.good) .refl (D.1.mono (by decide)) D.2))
 · refine cF (c := decide (y = 0)) (decide_eq_false c) ?_
   exact meet_ok (n := n) h hn W hf hA λ a' R' A' x t f g ag td dc => w_fin (ls_cl h) (q a' R' A' x t f g ag td dc)
end
section
variable {σ : fE} {R R' : List aA} {pool : List Int} {a n k m : Nat} {B : List aA} {Q : Ps} {u : V} {c : fH} {τ : fE} {z x o q p : Int} {w : T4} {e : El} {s : Str} {b h d : Bool}
theorem str_ok (C : Cl c τ = true) (G : Good R) (hl : R.length < 2 ^ 20) (ok : okK 8 (.tuple [.int 3, .str s, .int 0]) = true) (q : ∀ R' t, Gr R R' 1 -> fN R' t = some (.tuple [.int 3, .str s, .int 0]) -> Q (.d (.int t)) (TS c τ R')) : fY (OO (n + 2)) 2 [.l 1, .d (.str s)] (TS c τ R) Q :=
 rg rfl <| put_ok (n := n) C G hl ok λ R' t g h => w_fin C (q R' t g h)
theorem nin_ints (x : Int) (ys : List Int) (h : fg σ u = some (ys.map .int)) : cmpD σ .NotIn (.d (.int x)) u = some (!decide (x ∈ ys)) := congrArg (Option.map (!·)) (in_ints x ys h)
theorem kd_obj {x y : Int} (h : fN R o = some (objRow x y)) : Kd R o 8 := ⟨_, h, aF rfl⟩
noncomputable def undT (pool : List Int) (q : Int) (w : T4) (b : Bool) : T4 := cond ((w.h || b) && !decide (w.t ∈ pool.take 9)) (stays q true) ⟨q, w.cs, w.h || b, w.lost⟩
noncomputable abbrev undS (w : T4) : Str := cond (decide (w.lost = 13)) sC sA
theorem und_td (W : World R pool) (D : TD R pool m w e) (hm : m <= 40) (he : El.One R e) (ho : fN R o = some (objRow w.t (cond b 19 6))) (hi : fN R p = some (.tuple [.int 3, .str (undS w), .int 0])) (hq : fN R q = some (.tuple [.int 15, .int o, .int p])) :
 ∃ e', TD R pool (m + 4) (undT pool q w b) e' ∧ (e.cs.length = 1 -> e'.cs.length = 1) := by
 have B := W.base
 have ko := kd_obj ho
 have ki : Kd R p 3 := ⟨_, hi, aF rfl⟩
 have kq : Kd R q 15 := ⟨_, hq, aF rfl⟩
 have o0 : o ≠ 0 := λ z => kd_no (L := [0]) B rfl ko (by decide) (z ▸ .head _)
 have nq : q ∉ [0, 2, 13] := kd_no B rfl kq (by decide)
 have rb : Has R (cond b 19 6) b 1 := by
  cases b with
  | true => exact has_elem B (t := 19) (by decide)
  | false => exact has_elem B (t := 6) (by decide)
 have ro : Has R o (w.h || (b || false)) (m + 2) := has_node (n := m + 2) (hs := [(w.t, w.h, m), (cond b 19 6, b, 1)]) B ho (aF rfl) (by decide) (Fine.obj (ps := [(sA, w.t), (sB, cond b 19 6)]) (aF rfl)) (aL.mpr ⟨D.has, aL.mpr ⟨rb, λ _ m => nomatch m⟩⟩) (c8 (cC 1 (m + 1)))
 have ri := has_leaf hi rfl λ e => absurd e (by decide)
 rw [decide_eq_false (not19 B ki (by decide))] at ri
 rw [dS] at ro
 have i7 : p ≠ 7 := λ z => absurd (kd_fun (z ▸ ki) ⟨_, fK B rfl, aF rfl⟩ : (3 : Int) = 1) (by decide)
 have rq : Has R q ((w.h || b) || (false || false)) (m + 4) := has_node (n := m + 4) (hs := [(o, _, m + 2), (p, false, 1)]) B hq (aF rfl) (by decide) .idx (aL.mpr ⟨ro, aL.mpr ⟨ri, λ _ m => nomatch m⟩⟩) (c8 (cC 1 (m + 3)))
 rw [show (false || false) = false from rfl, dS] at rq
 have hasq : Has R q (w.h || b) 60 := rq.mono (by lia)
 have kdq : ∃ k, Kd R q k ∧ decide (k ∈ [11, 12]) = decide (q ∈ pool.take 9) := ⟨15, kq, W.nolist kq (by decide)⟩
 have fin1 : Sk R q q -> (w.h || b) = true -> ∃ e', TD R pool (m + 4) (stays q true) e' ∧ (e.cs.length = 1 -> e'.cs.length = 1) := λ sk hb => by
  rw [hb] at rq
  exact ⟨⟨q, 3, [[(q, 3)]], none⟩, ⟨rfl, rfl, λ f => Iff.rfl, rfl, rfl, rq, kdq, .f ⟨sk, sk, λ m => nq (.tail _ m), ⟨15, by decide, kq⟩, .els (b := true) (.id kq (by decide)) kq (by decide) (λ z => nq (z ▸ .head _)) (.one (.kind kq (by decide))), aF rfl, λ e m => aM.mp m ▸ ⟨.one (λ z => nq (z ▸ .tail _ (.head _))) (by decide) kq, .inl rfl⟩⟩⟩, λ _ => rfl⟩
 have fin2 : El.Ok R ⟨q, 3, e.cs, e.lost⟩ -> ∃ e', TD R pool (m + 4) ⟨q, w.cs, w.h || b, w.lost⟩ e' ∧ (e.cs.length = 1 -> e'.cs.length = 1) := λ ok =>
  ⟨⟨q, 3, e.cs, e.lost⟩, ⟨rfl, rfl, D.cs, D.len, D.lost, rq, kdq, ok⟩, id⟩
 have ht := D.t
 have hs := D.s
 have hl := D.lost
 unfold undT
 cases c : decide (w.lost = 13) with
 | false =>
  rw [show undS w = sA by unfold undS; rw [c]; rfl] at hi
  obtain ⟨k, hk, hd⟩ := D.kd
  have sk := Sk.obj hq ho o0 hi i7 .a hasq hk
  rw [hd] at sk
  cases d : (w.h || b) && !decide (w.t ∈ pool.take 9) with
  | true => rw [d] at sk; exact fin1 sk (fG d)
  | false =>
   rw [d] at sk
   refine fin2 ?_
   rw [<- ht] at sk
   cases he with
   | c h => cases h with
    | n h3 => exact (h3 hs).elim
    | f h => exact .f ⟨sk, h⟩
    | u h => exact .u sk h
   | l hy h => exact .l sk hy
 | true =>
  rw [show undS w = sC by unfold undS; rw [c]; rfl] at hi
  have k13 : Kd R 13 1 := ⟨_, fK B rfl, aF rfl⟩
  have sk := Sk.obj hq ho o0 hi i7 .c hasq k13
  have no : ∀ {P : Prop}, w.lost = -1 -> P := λ h => absurd (h.symm.trans (of_decide_eq_true c)) (by decide)
  cases he with
  | c h => cases h with
   | n => exact no hl
   | f => exact no hl
   | u => exact no hl
  | @l y hy h =>
   have e13 : y = 13 := hl.symm.trans (of_decide_eq_true c)
   subst e13
   have nl : decide (w.t ∈ pool.take 9) = false := decide_eq_false λ m => absurd (W.lists ((show w.t = 13 from ht.symm) ▸ m) k13) (by decide)
   rw [nl]
   rw [show decide ((1 : Int) ∈ [11, 12]) = false from rfl] at sk
   cases d : (w.h || b) && !false with
   | true => rw [d] at sk; exact fin1 sk (fG d)
   | false => rw [d] at sk; exact fin2 (.l sk hy)
end
section
variable {υ σ : fE} {R R' : List aA} {pool nums : List Int} {a n k : Nat} {A : List aA} {Q : Ps} {v : V} {c : fH} {τ : fE} {O : Orc} {z x o q p : Int} {xs : List aA} {w : T4} {s : Str} {b h d : Bool}
theorem w_nine {Q : V × fE -> Prop} (hw : WS pool A τ) (hp : pool.length = 15) (q : Q (.d (.bool (!decide (x ∈ pool.take 9))), TS c τ R)) : OW (slcD (TS c τ R) (.l 10) none (some 9)) λ v => OW (op2 (TS c τ R) (.d (.int x)) v (.cmp .NotIn)) Q := by
 rw [slc_list (xs := pool.map .int) (by show (τ[6]?).bind cL = _; rw [hw.pl]; rfl) rfl (fJ (by rw [hp]; decide)), show cut (pool.map aS) none (some 9) = _ from cut_hi _ 9, <- dR]
 exact w_cmp (nin_ints x (pool.take 9) rfl) q
theorem under_tail {K : Fs} {v3 v9 v10 : Option V} (C : Cl c τ = true) (hw : WS pool A τ) (hp : pool.length = 15) (k : ∀ ρ, K (.ret (.d (fZ (undT pool q w b)))) ρ (TS c τ R)) :
 fc (OO (n + 2)) (f_law_under.body.drop 6) [some (.l 0), some (.l 12), some (.d (fZ w)), v3, some (.d (.int w.t)), some (.d (.list (w.cs.map encC))), some (.d (.bool w.h)), some (.d (.int w.lost)), some (.d (.bool b)), v9, v10, some (.d (.int q))] (TS c τ R) K := by
 unfold undT at k
 have D : ∀ {Q : V × fE -> Prop}, Q (.d (.bool (!decide (w.t ∈ pool.take 9))), TS c τ R) -> OW (op2 (TS c τ R) (.l 12) (.d (kS "pool")) (.sub ())) λ p => OW (slcD p.2 p.1 none (some 9)) λ v => OW (op2 p.2 (.d (.int w.t)) v (.cmp .NotIn)) Q := λ q => w_pool hw (w_nine hw hp q)
 generalize (!decide (w.t ∈ pool.take 9)) = d at k D
 cases hh : w.h with
 | true =>
  rw [hh] at k
  refine D ?_
  cases d with
  | true =>
   refine stays_ok (n := n + 1) C ?_
   exact k _
  | false => exact k _
 | false =>
  rw [hh] at k
  cases b with
  | true =>
   refine D ?_
   cases d with
   | true =>
    refine stays_ok (n := n + 1) C ?_
    exact k _
   | false => exact k _
  | false => exact k _
theorem two_str {Q : Ps} {a b : Str} (q : fY O 2 [.l 1, .d (.str (cond d a b))] σ Q) : cond d (fY O 2 [.l 1, .d (.str a)] σ Q) (fY O 2 [.l 1, .d (.str b)] σ Q) := by cases d <;> exact q
theorem obj_ok (x y : Int) : okK 8 (objRow x y) = true := by
 have h : (okK 8 (.str sA) && okK 8 (.str sB)) = true := by decide +kernel
 exact fP (fP (fP (fG h) rfl) (fP (fP (and2 h) rfl) rfl)) rfl
theorem under_rest {K : Fs} (hz : z = cond b 19 6) (h : Low υ) (W : World R pool) (hf : R.length + 10 < 2 ^ 20)
 (k : ∀ R' o p q ρ, Gr R R' 3 -> fN R' o = some (objRow w.t (cond b 19 6)) -> fN R' p = some (.tuple [.int 3, .str (undS w), .int 0]) -> fN R' q = some (.tuple [.int 15, .int o, .int p]) -> K (.ret (.d (fZ (undT pool q w b)))) ρ ((TS (fF nums a) (mkT pool A υ) R'))) :
 fc (OO (n + 2)) (f_law_under.body.drop 4) [some (.l 0), some (.l 12), some (.d (fZ w)), some (.l 1), some (.d (.int w.t)), some (.d (.list (w.cs.map encC))), some (.d (.bool w.h)), some (.d (.int w.lost)), some (.d (.bool b)), some (.d (.int z)), none, none] ((TS (fF nums a) (mkT pool A υ) R)) K := by
 subst hz
 have C := ls_cl (nums := nums) (a := a) (pool := pool) (A := A) h
 refine put_ok (n := n + 1) (row := objRow w.t (cond b 19 6)) C W.good (by lia) (obj_ok _ _) λ R₁ o g1 r1 => ?_
 have l1 := g1.len
 refine two_str ?_
 refine str_ok (n := n) (s := undS w) C g1.good (by lia) (by unfold undS; cases decide (w.lost = 13) <;> decide +kernel) λ R₂ p g2 r2 => ?_
 have l2 := g2.len
 refine put_ok (n := n + 1) (row := .tuple [.int 15, .int o, .int p]) C g2.good (by lia) rfl λ R₃ q g3 r3 => ?_
 exact kfl_step (under_tail (n := n) C ws_mk W.plen λ ρ => k R₃ o p q ρ ((g1.trans g2).trans g3) (fK (g2.pre.trans g3.pre) r1) (fK g3.pre r2) r3)
end
section
variable {υ : fE} {R R' : List aA} {pool nums : List Int} {a n k m : Nat} {A : List aA} {Q : Ps} {c : fH} {τ : fE} {z x o q p : Int} {xs : List aA} {w : T4} {e : El} {b h d : Bool}
theorem w_place {Q : V × fE -> Prop} (hw : WS pool A τ) (h : fN (places.map .int) z = some (.int x)) (q : Q (.d (.int x), TS c τ R)) : OW (op2 (TS c τ R) (.l 12) (.d (kS "places")) (.sub ())) λ p => OW (pre2 p.2 p.1 (.sub ())) λ _ => OW (op2 p.2 p.1 (.d (.int z)) (.sub ())) Q :=
 w_places hw (fM (fv (xs := places.map .int) rfl rfl h) q)
theorem under_body {K : Fs} (h : Low υ) (hn : nums.length <= 40) (W : World R pool) (hf : R.length + 10 < 2 ^ 20)
 (k : ∀ b R' o p q ρ, Gr R R' 3 -> fN R' o = some (objRow w.t (cond b 19 6)) -> fN R' p = some (.tuple [.int 3, .str (undS w), .int 0]) -> fN R' q = some (.tuple [.int 15, .int o, .int p]) -> K (.ret (.d (fZ (undT pool q w b)))) ρ ((TS (fF nums (a + 1)) (mkT pool A υ) R'))) :
 fc (OO (n + 2)) f_law_under.body [some (.l 0), some (.l 12), some (.d (fZ w)), none, none, none, none, none, none, none, none, none] ((TS (fF nums a) (mkT pool A υ) R)) K := by
 refine w_tab (pool := pool) (A := A) ws_mk ?_
 refine take_ok (n := n + 1) h hn (k := 3) (by decide) λ y y0 y3 => ?_
 cases hb : decide (y = 0) with
 | true =>
  refine cT hb ?_
  refine w_place (pool := pool) (A := A) ws_mk rfl ?_
  refine kfl_step (K' := K) ?_
  exact under_rest (n := n) (a := a + 1) (A := A) (w := w) (b := decide (y = 0)) (by rw [hb]; rfl) h W hf (k _)
 | false =>
  refine cF hb ?_
  refine kfl_step (K' := K) ?_
  exact under_rest (n := n) (a := a + 1) (A := A) (w := w) (b := decide (y = 0)) (by rw [hb]; rfl) h W hf (k _)
theorem under_ok (h : Low υ) (hn : nums.length <= 40) (W : World R pool) (hf : R.length + 10 < 2 ^ 20) (D : TD R pool m w e) (hm : m <= 40) (he : El.One R e)
 (q : ∀ a' R' y e', Gr R R' 3 -> TD R' pool (m + 4) y e' -> (e.cs.length = 1 -> e'.cs.length = 1) -> Q (.d (fZ y)) ((TS (fF nums a') (mkT pool A υ) R'))) : fY (OO (n + 3)) 50 [.l 0, .l 12, .d (fZ w)] ((TS (fF nums a) (mkT pool A υ) R)) Q := by
 refine rg rfl ?_
 refine under_body (n := n) h hn W hf λ b R' o p q' ρ g r1 r2 r3 => ?_
 obtain ⟨e', t, l⟩ := und_td (W.gr g) (D.pre g.pre) hm (he.pre g.pre) r1 r2 r3
 exact w_fin (ls_cl h) (q _ R' _ e' g t l)
end
section
variable {υ : fE} {R R' : List aA} {pool nums : List Int} {a n k m : Nat} {A A' : List aA} {u v : V} {c : fH} {τ : fE} {ks : List Nat} {z x q p t t' : Int} {xs : List aA} {w y : T4} {e : El} {s : Str} {b h d : Bool} {f g : Flat}
inductive TF (R : List aA) (pool : List Int) (w : T4) : Prop
 | mk {e : El} : TD R pool 17 w e -> e.cs.length = 1 -> TF R pool w
theorem TF.pre (h : TF R pool w) (p : R <+: R') : TF R' pool w := h.casesOn λ a b => .mk (a.pre p) b
theorem TF.df (h : TF R pool w) : ∃ t f, DF R w.t t f ∧ (∀ g, g ∈ w.cs ↔ g = f) ∧ w.cs.length = 1 := by
 cases h with
 | @mk e D l =>
  have ht := D.t
  have hs := D.s
  have hc := D.cs
  have hl := D.len.trans l
  cases D.ok with
  | n h => exact (h hs).elim
  | @f t t' f h => exact ⟨t', f, ht ▸ h, λ g => (hc g).symm.trans aM, hl⟩
  | u => exact absurd (show (2 : Nat) = 1 from l) (by decide)
  | l => exact absurd (show (0 : Nat) = 1 from l) (by decide)
noncomputable def jB : List ST := [
 .asg 4 (.mk (.call 48) [(.v 0), (.v 1)]),
 .ite (.op (.cmp .Eq) (.mk (.call 41) [(.v 0), (.c (.int 3))]) (.c (.int 0))) [
  .asg 4 (.mk (.call 50) [(.v 0), (.v 1), (.v 4)])] [],
 .ex (.op (.app ()) (.v 2) (.v 4))]
theorem turn_ok {K : Fs} {x3 x4 : Option V} (h : Low υ) (hn : nums.length <= 40) (W : World R pool) (hf : R.length + 20 < 2 ^ 20) (hA : A.length <= 790) (hx : xs.length <= 100)
 (k : ∀ a' R' A' x, Gr R R' 5 -> AG A R' 2 A' -> TF R' pool x -> K .next [some (.l 0), some (.l 12), some (.l (υ.length + 10 + 4)), x3, some (.d (fZ x)), none] ((TS (fF nums a') (mkT pool A' (υ ++ [.list (xs ++ [fZ x])])) R'))) :
 fc (OO (n + 5)) jB [some (.l 0), some (.l 12), some (.l (υ.length + 10 + 4)), x3, x4, none] ((TS (fF nums a) (mkT pool A (υ ++ [.list xs])) R)) K := by
 refine plain_ok (n := n) (low_push h _) hn W (by lia) (by lia) λ a₁ R₁ A₁ x t f g ag D dc => ?_
 have l := g.len
 have hx' : xs.length <= 2 ^ 20 := aE hx (by decide)
 refine take_ok (n := n + 4) (low_push h _) hn (k := 3) (by decide) λ y y0 y3 => ?_
 cases hb : decide (y = 0) with
 | true =>
  refine cT hb ?_
  refine under_ok (n := n + 2) (low_push h _) hn (W.gr g) (by lia) D (by decide) (.c (.f dc)) λ a₂ R₂ x₂ e₂ g₂ D₂ l₂ => ?_
  refine w_prel (τ := mkT pool A₁ υ) ?_
  refine w_appl (τ := mkT pool A₁ υ) hx' ?_
  exact k a₂ R₂ A₁ x₂ (g.trans g₂) (ag.trans (.refl (n := 0)) g₂.pre) (.mk D₂ (l₂ rfl))
 | false =>
  refine cF hb ?_
  refine w_prel (τ := mkT pool A₁ υ) ?_
  refine w_appl (τ := mkT pool A₁ υ) hx' ?_
  exact k _ R₁ A₁ x (g.mono (by decide)) ag (.mk (D.mono (by decide)) rfl)
theorem uni_td (W : World R pool) (X : TF R pool w) (Y : TF R pool y) (hu : fN R x = some (.tuple [.int 6, .tuple [.int p, .int q]])) (h : (p = w.t ∧ q = y.t) ∨ (p = y.t ∧ q = w.t)) :
 ∃ e, TD R pool 35 ⟨x, w.cs ++ y.cs, w.h || y.h, -1⟩ e ∧ El.Closed R e := by
 have kd : Kd R x 6 := ⟨_, hu, aF rfl⟩
 have no : x ∉ [0, 2, 13] := kd_no W.base rfl kd (by decide)
 obtain ⟨t1, f1, d1, c1, l1⟩ := X.df
 obtain ⟨t2, f2, d2, c2, l2⟩ := Y.df
 have hx : Has R w.t w.h 17 := X.casesOn λ a _ => a.has
 have hy : Has R y.t y.h 17 := Y.casesOn λ a _ => a.has
 have has : Has R x (w.h || y.h) 35 := by
  rcases h with ⟨rfl, rfl⟩ | ⟨rfl, rfl⟩
  · have : Has R x (w.h || (y.h || false)) 35 := has_node (n := 35) (hs := [(w.t, w.h, 17), (y.t, y.h, 17)]) W.base hu (aF rfl) (by decide) (.uni (ks := [w.t, y.t]) (aF rfl)) (aL.mpr ⟨hx, aL.mpr ⟨hy, λ _ m => nomatch m⟩⟩) (aF rfl)
    rwa [dS] at this
  · have : Has R x (y.h || (w.h || false)) 35 := has_node (n := 35) (hs := [(y.t, y.h, 17), (w.t, w.h, 17)]) W.base hu (aF rfl) (by decide) (.uni (ks := [y.t, w.t]) (aF rfl)) (aL.mpr ⟨hy, aL.mpr ⟨hx, λ _ m => nomatch m⟩⟩) (aF rfl)
    rwa [dS, Bool.or_comm] at this
 have sk : Sk R x x := .same kd (by decide) (has.mono (by decide))
 have mk : ∀ {f g : Flat}, DU R x f g -> (∀ z, z = f1 ∨ z = f2 ↔ z = f ∨ z = g) -> ∃ e, TD R pool 35 ⟨x, w.cs ++ y.cs, w.h || y.h, -1⟩ e ∧ El.Closed R e := λ {f g} du hz =>
  ⟨⟨x, 3, [f, g], none⟩, ⟨rfl, rfl, λ z => (aP.trans (or_congr_right aM)).trans ((hz z).symm.trans ((or_congr (c1 z).symm (c2 z).symm).trans ae.symm)), (aH).trans (by rw [l1, l2]; rfl), rfl, has, ⟨6, kd, W.nolist kd (by decide)⟩, .u sk du⟩, .u du⟩
 rcases h with ⟨rfl, rfl⟩ | ⟨rfl, rfl⟩
 · exact mk (.mk sk (λ m => no (.tail _ m)) hu d1 d2) λ z => Iff.rfl
 · exact mk (.mk sk (λ m => no (.tail _ m)) hu d2 d1) λ z => or_comm
end
section
variable {υ : fE} {R R' : List aA} {pool nums : List Int} {a n k m : Nat} {A A' : List aA} {Q : Ps} {u v : V} {c : fH} {τ : fE} {z x q p t : Int} {xs : List aA} {w y : T4} {e : El} {b h d : Bool} {f g : Flat}
theorem sort2 (x y : Int) : ∃ p q : Int, ((p = x ∧ q = y) ∨ (p = y ∧ q = x)) ∧ isortI [x, y] = [p, q] := by
 by_cases c : x <= y
 · exact ⟨x, y, .inl ⟨rfl, rfl⟩, if_pos c⟩
 · exact ⟨y, x, .inr ⟨rfl, rfl⟩, if_neg c⟩
theorem joined_end {K : Fs} {x3 x4 : Option V} (h : Low υ) (W : World R pool) (hf : R.length + 20 < 2 ^ 20) (X : TF R pool w) (Y : TF R pool y)
 (k : ∀ R' x e ρ, Gr R R' 1 -> TD R' pool 35 x e -> El.Closed R' e -> K (.ret (.d (fZ x))) ρ ((TS (fF nums a) (mkT pool A (υ ++ [.list [fZ w, fZ y]])) R'))) :
 fc (OO (n + 5)) (f_law_joined.body.drop 2) [some (.l 0), some (.l 12), some (.l (υ.length + 10 + 4)), x3, x4, none] ((TS (fF nums a) (mkT pool A (υ ++ [.list [fZ w, fZ y]])) R)) K := by
 have sq : ∀ R, fg ((TS (fF nums a) (mkT pool A (υ ++ [.list [fZ w, fZ y]])) R)) (.l (υ.length + 10 + 4)) = some [fZ w, fZ y] := λ R => by
  show (((υ ++ [fH.list [fZ w, fZ y]])[υ.length]?).bind cL) = _; rw [getc]; rfl
 have s0 : ∀ {Q : V × fE -> Prop} {R}, Q (.d (fZ w), (TS (fF nums a) (mkT pool A (υ ++ [.list [fZ w, fZ y]])) R)) -> OW (op2 ((TS (fF nums a) (mkT pool A (υ ++ [.list [fZ w, fZ y]])) R)) (.l (υ.length + 10 + 4)) (.d (.int 0)) (.sub ())) Q := λ q => fM (fv (sq _) rfl rfl) q
 have s1 : ∀ {Q : V × fE -> Prop} {R}, Q (.d (fZ y), (TS (fF nums a) (mkT pool A (υ ++ [.list [fZ w, fZ y]])) R)) -> OW (op2 ((TS (fF nums a) (mkT pool A (υ ++ [.list [fZ w, fZ y]])) R)) (.l (υ.length + 10 + 4)) (.d (.int 1)) (.sub ())) Q := λ q => fM (fv (sq _) rfl rfl) q
 have C := ls_cl (nums := nums) (a := a) (pool := pool) (A := A) (low_push h [fZ w, fZ y])
 refine s0 ?_
 refine s1 ?_
 cases e : decide (w.t = y.t) with
 | true =>
  refine cT e ?_
  have D := mem_td W (k := 2) (by decide)
  refine member_ok (n := n + 3) C ws_mk W.plen (k := 2) (by decide) ?_
  exact k R _ _ _ (.refl W.good) (D.1.mono (by decide)) (.f D.2)
 | false =>
  refine cF e ?_
  obtain ⟨p, q, hpq, hs⟩ := sort2 w.t y.t
  refine w_tab (pool := pool) (A := A) ws_mk ?_
  refine s0 ?_
  refine s1 ?_
  refine w_bi (v := .d (.tuple [.int p, .int q])) (congrArg (λ l : List Int => biD ((TS (fF nums a) (mkT pool A (υ ++ [.list [fZ w, fZ y]])) R)) 1 [V.d (.list (l.map .int))]) hs) ?_
  refine put_ok (n := n + 4) (row := .tuple [.int 6, .tuple [.int p, .int q]]) C W.good (by lia) rfl λ R₁ u g1 r1 => ?_
  obtain ⟨e', D, cl⟩ := uni_td (W.gr g1) (X.pre g1.pre) (Y.pre g1.pre) r1 hpq
  have cl2 : ∀ {w}, TF R pool w -> (w.cs.map encC).length <= 2 ^ 20 := λ h => by obtain ⟨_, _, _, _, l⟩ := h.df; rw [aG, l]; decide
  refine s0 ?_
  refine s1 ?_
  refine w_cat (cl2 X) (cl2 Y) ?_
  rw [<- aU]
  refine s0 ?_
  have fin : ∀ ρ, K (.ret (.d (fZ ⟨u, w.cs ++ y.cs, w.h || y.h, -1⟩))) ρ ((TS (fF nums a) (mkT pool A (υ ++ [.list [fZ w, fZ y]])) R₁)) := λ ρ => k R₁ _ e' ρ g1 D cl
  cases hw : w.h with
  | true =>
   rw [show (w.h || y.h) = w.h by rw [hw]; rfl] at fin
   exact cT hw (fin _)
  | false =>
   rw [show (w.h || y.h) = y.h by rw [hw]; rfl] at fin
   refine cF hw ?_
   refine s1 ?_
   exact fin _
theorem len2 {α : Type} {l : List α} (h : l.length = 2) : ∃ a b, l = [a, b] := by
 obtain ⟨a, r, rfl⟩ := List.exists_cons_of_length_eq_add_one h
 obtain ⟨b, rfl⟩ := eQ.mp (eH h)
 exact ⟨a, b, rfl⟩
theorem joined_loop {K : Fs} (h : Low υ) (hn : nums.length <= 40) (W : World R pool) (hf : R.length + 40 < 2 ^ 20) (hA : A.length <= 700)
 (k : ∀ a' R' A' x y x3 x4, Gr R R' 10 -> AG A R' 4 A' -> TF R' pool x -> TF R' pool y -> K .next [some (.l 0), some (.l 12), some (.l (υ.length + 10 + 4)), x3, x4, none] ((TS (fF nums a') (mkT pool A' (υ ++ [.list [fZ x, fZ y]])) R'))) :
 OW (itOf ((TS (fF nums a) (mkT pool A (υ ++ [.list []])) R)) (.d (.int 2)) (.range ())) λ it => OW (it.len ((TS (fF nums a) (mkT pool A (υ ++ [.list []])) R))) λ n' => evLoop (fc (OO (n + 5)) jB) (.one 3) it n' 0 [some (.l 0), some (.l 12), some (.l (υ.length + 10 + 4)), none, none, none] ((TS (fF nums a) (mkT pool A (υ ++ [.list []])) R)) K := by
 refine loopNz (ps := [(), ()]) (γ := (Nat × List aA × List aA) × List T4 × Option V × Option V) rfl (aF rfl) (λ _ g => [some (.l 0), some (.l 12), some (.l (υ.length + 10 + 4)), g.2.2.1, g.2.2.2, none]) (λ _ g => (TS (fF nums g.1.1) (mkT pool g.1.2.2 (υ ++ [.list (g.2.1.map fZ)])) g.1.2.1))
  (λ done g => Gr R g.1.2.1 (5 * done.length) ∧ AG A g.1.2.1 (2 * done.length) g.1.2.2 ∧ g.2.1.length = done.length ∧ ∀ x ∈ g.2.1, TF g.1.2.1 pool x) ((a, R, A), [], none, none) ⟨.refl W.good, .refl, rfl, λ _ m => nomatch m⟩ (λ done p rest g K' hp hg kn' kr => ?_) λ g hg => ?_
 rotate_left
 · obtain ⟨g1, ag, l, hx⟩ := hg
   obtain ⟨x, y, e⟩ := len2 l
   rw [e] at hx
   have := k g.1.1 g.1.2.1 g.1.2.2 x y g.2.2.1 g.2.2.2 g1 ag (hx x (.head _)) (hx y (.tail _ (.head _)))
   rw [e]
   exact this
 obtain ⟨g1, ag, l, hx⟩ := hg
 have gl := g1.len
 have al := ag.len
 have hd : done.length <= 1 := by
  have := congrArg bP hp
  rw [aH, am] at this; simp only [am, eg] at this; lia
 refine turn_ok (n := n) (a := g.1.1) (R := g.1.2.1) (A := g.1.2.2) (xs := g.2.1.map fZ) h hn (W.gr g1) (by lia) (by lia) (by rw [aG]; lia) λ a' R' A' x g2 ag2 t => ?_
 have := kn' ((a', R', A'), g.2.1 ++ [x], some (.d (.int done.length)), some (.d (fZ x))) ⟨by rw [aH]; exact g1.trans g2, by rw [aH]; exact ag.trans ag2 g2.pre, by show (g.2.1 ++ [x]).length = _; rw [aH, aH, l]; rfl, λ z m => (ae.mp m).elim (λ m => (hx z m).pre g2.pre) λ m => aM.mp m ▸ t⟩
 rw [show (g.2.1 ++ [x]).map fZ = g.2.1.map fZ ++ [fZ x] from aU] at this
 exact this
theorem joined_body {K : Fs} (h : Low υ) (hn : nums.length <= 40) (W : World R pool) (hf : R.length + 40 < 2 ^ 20) (hA : A.length <= 700)
 (k : ∀ a' R' A' xs x e ρ, Gr R R' 11 -> AG A R' 4 A' -> TD R' pool 35 x e -> El.Closed R' e -> K (.ret (.d (fZ x))) ρ ((TS (fF nums a') (mkT pool A' (υ ++ [.list xs])) R'))) :
 fc (OO (n + 5)) f_law_joined.body [some (.l 0), some (.l 12), none, none, none, none] ((TS (fF nums a) (mkT pool A υ) R)) K := by
 refine joined_loop (n := n) h hn W hf hA λ a' R' A' x y x3 x4 g1 ag X Y => ?_
 have gl := g1.len
 refine kfl_step (K' := K) ?_
 exact joined_end (n := n) h (W.gr g1) (by lia) X Y λ R' z e ρ g2 D cl => k _ R' _ _ z e ρ (g1.trans g2) (ag.trans (.refl (n := 0)) g2.pre) D cl
theorem joined_ok (h : Low υ) (hn : nums.length <= 40) (W : World R pool) (hf : R.length + 40 < 2 ^ 20) (hA : A.length <= 700)
 (q : ∀ a' R' A' x e, Gr R R' 11 -> AG A R' 4 A' -> TD R' pool 35 x e -> El.Closed R' e -> Q (.d (fZ x)) ((TS (fF nums a') (mkT pool A' υ) R'))) : fY (OO (n + 6)) 49 [.l 0, .l 12] ((TS (fF nums a) (mkT pool A υ) R)) Q := by
 refine rg rfl ?_
 refine joined_body (n := n) h hn W hf hA λ a' R' A' xs x e ρ g ag D cl => ?_
 exact w_fina (τ := mkT pool A' υ) (ls_cl h) (q a' R' A' x e g ag D cl)
end
structure ED (R : List aA) (x : T4) (s : Int) (e : El) : Prop where
 t : e.t = x.t
 s : e.s = s
 cs : ∀ f, f ∈ e.cs ↔ f ∈ x.cs
 len : x.cs.length = e.cs.length
 lost : x.lost = e.lost.getD (-1)
 ok : El.Ok R e
noncomputable def encD (x : T4) (s : Int) : aA := .tuple [fZ x, .int s]
section
variable {υ : fE} {R R' : List aA} {pool nums : List Int} {a n k i m j : Nat} {A A' B : List aA} {Q : Ps} {u : V} {c : fH} {z x q p t y s : Int} {xs : List aA} {w : T4} {e : El} {h d : Bool} {f g : Flat} {l : List Int}
theorem ED.pre (h : ED R w s e) (p : R <+: R') : ED R' w s e := ⟨h.t, h.s, h.cs, h.len, h.lost, h.ok.pre p⟩
theorem TD.ed (h : TD R pool m w e) : ED R w 3 e := ⟨h.t, h.s, h.cs, h.len, h.lost, h.ok⟩
theorem at_mem (h0 : 0 <= z) (h : z < l.length) : ∃ x ∈ l, fN (l.map .int) z = some (.int x) := by
 obtain ⟨i, rfl⟩ : ∃ i : Nat, z = (i : Int) := ⟨z.toNat, (Int.toNat_of_nonneg h0).symm⟩
 obtain ⟨x, hx⟩ := int_at (Int.ofNat_lt.mp h)
 obtain ⟨y, hy, e⟩ := aj.mp (rowAt_mem hx)
 cases e
 exact ⟨_, hy, hx⟩
theorem any_ed (B : base <+: R) : ED R ⟨0, [[(0, 2)]], false, -1⟩ 3 ⟨0, 3, [[(0, 2)]], none⟩ := by
 have kd : Kd R 0 1 := ⟨_, fK B rfl, aF rfl⟩
 have sk : Sk R 0 0 := .same kd (by decide) ((has_base B rfl rfl rfl).mono (by decide))
 exact ⟨rfl, rfl, λ f => Iff.rfl, rfl, rfl, .f ⟨sk, sk, by decide, ⟨1, by decide, kd⟩, .any rfl kd (by decide), flat_ok B (aF rfl) λ e m => aM.mp m ▸ ⟨(by decide : (0 : Int) ∈ EE), (by decide : (2 : Int) ∈ signs)⟩⟩⟩
theorem lost_td (W : World R pool) (hy : y ∈ [2, 13]) : TD R pool 1 ⟨y, [], false, y⟩ ⟨y, 3, [], some y⟩ ∧ El.One R ⟨y, 3, [], some y⟩ := by
 have h : ∀ y : Int, Kd R y 1 -> Has R y false 1 -> y ∈ [2, 13] -> TD R pool 1 ⟨y, [], false, y⟩ ⟨y, 3, [], some y⟩ ∧ El.One R ⟨y, 3, [], some y⟩ := λ y kd ha hy => by
  have sk : Sk R y y := .same kd (by decide) (ha.mono (by decide))
  exact ⟨⟨rfl, rfl, λ f => Iff.rfl, rfl, rfl, ha, ⟨1, kd, W.nolist kd (by decide)⟩, .l sk hy⟩, .l hy sk⟩
 rcases aP.mp hy with rfl | m
 · exact h 2 ⟨_, fK W.base rfl, aF rfl⟩ (has_base W.base rfl rfl rfl) hy
 · obtain rfl := aM.mp m
   exact h 13 ⟨_, fK W.base rfl, aF rfl⟩ (has_base W.base rfl rfl rfl) hy
theorem element_body {K : Fs} (h : Low υ) (hn : nums.length <= 40) (W : World R pool) (hf : R.length + 60 < 2 ^ 20) (hA : A.length <= 600)
 (k : ∀ a' R' A' x s e ρ, Gr R R' 14 -> AG A R' 4 A' -> ED R' x s e -> K (.ret (.d (encD x s))) ρ ((TS (fF nums a') (mkT pool A' υ) R'))) :
 fc (OO (n + 7)) f_law_element.body [some (.l 0), some (.l 12), none, none, none, none, none] ((TS (fF nums a) (mkT pool A υ) R)) K := by
 have B := W.base
 have g0 : Gr R R 14 := .refl W.good
 have un : ∀ {Q : Ps} {a₁ R₁ A₁ w e c m}, Gr R R₁ c -> c <= 11 -> AG A R₁ 4 A₁ -> TD R₁ pool m w e -> m <= 40 -> El.One R₁ e -> (∀ a₂ R₂ y e₂, Gr R R₂ 14 -> AG A R₂ 4 A₁ -> ED R₂ y 3 e₂ -> Q (.d (fZ y)) ((TS (fF nums a₂) (mkT pool A₁ υ) R₂))) -> fY (OO (n + 7)) 50 [.l 0, .l 12, .d (fZ w)] ((TS (fF nums a₁) (mkT pool A₁ υ) R₁)) Q := λ {Q a₁ R₁ A₁ w e c m} g hc ag D hm ho q => by
  have gl := g.len
  exact under_ok (n := n + 4) h hn (W.gr g) (by lia) D hm ho λ a₂ R₂ y e₂ g₂ D₂ _ => q a₂ R₂ y e₂ ((g.trans g₂).mono (by lia)) (ag.trans (.refl (n := 0)) g₂.pre) D₂.ed
 have hf10 : R.length + 10 < 2 ^ 20 := by lia
 have hA8 : A.length <= 800 := aE hA (by decide)
 refine take_ok (n := n + 6) h hn (k := 9) (by decide) λ s s0 s9 => ?_
 by_cases c0 : s = 0
 · refine cT (c := decide (s = 0)) (decide_eq_true c0) ?_
   refine w_places (pool := pool) (A := A) ws_mk ?_
   refine take_ok (n := n + 6) h hn (k := 5) (by decide) λ k5 k0 k5 => ?_
   obtain ⟨t, ht, e⟩ := at_mem (l := places) k0 k5
   refine fM (fv (xs := places.map .int) rfl rfl e) ?_
   refine take_ok (n := n + 6) h hn (k := 3) (by decide) λ g g0' g3 => ?_
   obtain ⟨u, hu, e⟩ := at_mem (l := [0, 1, 2]) g0' g3
   refine fM (fv (xs := [0, 1, 2].map .int) rfl rfl e) ?_
   refine k _ R A ⟨t, [[(t, u)]], false, -1⟩ u ⟨t, u, [[(t, u)]], none⟩ _ g0 .refl ⟨rfl, rfl, λ f => Iff.rfl, rfl, rfl, .n ?_ (flat_ok B (aF rfl) λ e m => aM.mp m ▸ ⟨?_, ?_⟩)⟩
   · exact λ e => absurd (e ▸ hu : (3 : Int) ∈ [0, 1, 2]) (by decide)
   · exact (by decide : ∀ t ∈ places, t ∈ EE) t ht
   · exact .tail _ hu
 refine cF (c := decide (s = 0)) (decide_eq_false c0) ?_
 by_cases c4 : s < 4
 · refine cT (c := decide (s < 4)) (decide_eq_true c4) ?_
   refine meet_ok (n := n + 3) h hn W hf10 hA8 λ a' R' A' x t f g ag D dc => ?_
   exact k _ R' A' x 3 _ _ (g.mono (by decide)) (ag.mono (by decide)) D.ed
 refine cF (c := decide (s < 4)) (decide_eq_false c4) ?_
 by_cases c4' : s = 4
 · refine cT (c := decide (s = 4)) (decide_eq_true c4') ?_
   refine take_ok (n := n + 6) h hn (k := 15) (by decide) λ z z0 z15 => ?_
   obtain ⟨j, rfl⟩ : ∃ j : Nat, z = (j : Int) := ⟨z.toNat, (Int.toNat_of_nonneg z0).symm⟩
   have j15 : j < 15 := Int.ofNat_lt.mp z15
   refine member_ok (n := n + 5) (ls_cl h) ws_mk W.plen j15 ?_
   exact k _ R A _ 3 _ _ g0 .refl (mem_td W j15).1.ed
 refine cF (c := decide (s = 4)) (decide_eq_false c4') ?_
 by_cases c5 : s = 5
 · refine cT (c := decide (s = 5)) (decide_eq_true c5) ?_
   refine joined_ok (n := n + 1) h hn W (by lia) (aE hA (by decide)) λ a' R' A' x e g ag D cl => ?_
   exact k _ R' A' x 3 _ _ (g.mono (by decide)) ag D.ed
 refine cF (c := decide (s = 5)) (decide_eq_false c5) ?_
 by_cases c6 : s = 6
 · refine cT (c := decide (s = 6)) (decide_eq_true c6) ?_
   refine meet_ok (n := n + 3) h hn W hf10 hA8 λ a' R' A' x t f g ag D dc => ?_
   refine un g (by decide) (ag.mono (by decide)) D (by decide) (.c (.f dc)) λ a₂ R₂ y e₂ g₂ ag₂ D₂ => ?_
   exact k _ R₂ A' y 3 e₂ _ g₂ ag₂ D₂
 refine cF (c := decide (s = 6)) (decide_eq_false c6) ?_
 by_cases c7 : s = 7
 · refine cT (c := decide (s = 7)) (decide_eq_true c7) ?_
   refine take_ok (n := n + 6) h hn (k := 2) (by decide) λ z z0 z2 => ?_
   by_cases cz : z = 0
   · refine cT (c := decide (z = 0)) (decide_eq_true cz) ?_
     refine joined_ok (n := n + 1) h hn W (by lia) (aE hA (by decide)) λ a' R' A' x e g ag D cl => ?_
     refine un g (by decide) ag D (by decide) (.c cl) λ a₂ R₂ y e₂ g₂ ag₂ D₂ => ?_
     exact k _ R₂ A' y 3 e₂ _ g₂ ag₂ D₂
   · refine cF (c := decide (z = 0)) (decide_eq_false cz) ?_
     refine plain_ok (n := n + 2) h hn W hf10 hA8 λ a' R' A' x t f g ag D dc => ?_
     refine un g (by decide) (ag.mono (by decide)) D (by decide) (.c (.f dc)) λ a₂ R₂ y e₂ g₂ ag₂ D₂ => ?_
     exact k _ R₂ A' y 3 e₂ _ g₂ ag₂ D₂
 refine cF (c := decide (s = 7)) (decide_eq_false c7) ?_
 refine take_ok (n := n + 6) h hn (k := 6) (by decide) λ z z0 z6 => ?_
 by_cases cz : z < 2
 · refine cT (c := decide (z < 2)) (decide_eq_true cz) ?_
   exact k _ R A _ 3 _ _ g0 .refl (any_ed B)
 refine cF (c := decide (z < 2)) (decide_eq_false cz) ?_
 obtain ⟨y, hy, e⟩ := at_mem (z := z % 2) (l := [2, 13]) (Int.emod_nonneg _ (by decide)) (Int.emod_lt_of_pos _ (by decide))
 have D := lost_td W hy
 refine fM (fv (xs := [2, 13].map .int) rfl rfl e) ?_
 refine fM (fv (xs := [2, 13].map .int) rfl rfl e) ?_
 by_cases cz4 : z < 4
 · refine cT (c := decide (z < 4)) (decide_eq_true cz4) ?_
   exact k _ R A ⟨y, [], false, y⟩ 3 _ _ g0 .refl D.1.ed
 refine cF (c := decide (z < 4)) (decide_eq_false cz4) ?_
 refine un (w := ⟨y, [], false, y⟩) (.refl W.good (n := 0)) (by decide) .refl D.1 (by decide) D.2 λ a₂ R₂ y e₂ g₂ ag₂ D₂ => ?_
 exact k _ R₂ A y 3 e₂ _ g₂ ag₂ D₂
theorem element_ok (h : Low υ) (hn : nums.length <= 40) (W : World R pool) (hf : R.length + 60 < 2 ^ 20) (hA : A.length <= 600)
 (q : ∀ a' R' A' x s e, Gr R R' 14 -> AG A R' 4 A' -> ED R' x s e -> Q (.d (encD x s)) ((TS (fF nums a') (mkT pool A' υ) R'))) : fY (OO (n + 8)) 51 [.l 0, .l 12] ((TS (fF nums a) (mkT pool A υ) R)) Q := by
 refine rg rfl ?_
 refine element_body (n := n) h hn W hf hA λ a' R' A' x s e ρ g ag D => ?_
 exact w_fin (ls_cl h) (q a' R' A' x s e g ag D)
end
end Mine.Law
namespace Mine.Law
open PySem Std
noncomputable def encM (e : List Int × Int) : aA := .tuple [.tuple (e.1.map .int), .int e.2]
noncomputable def fu (m : Ms) : aA := .tuple (m.map encM)
noncomputable abbrev cP : List Int × Int -> List Int × Int -> Ordering := compareLex (compareOn λ x => x.1) (compareOn λ x => x.2)
noncomputable abbrev cM : Ms -> Ms -> Ordering := cr cP
theorem lawP : LawfulEqCmp cP := ⟨λ {a b} h => Prod.ext (LawfulEqCmp.eq_of_compare (compareLex_eq_eq.mp h).1) (LawfulEqCmp.eq_of_compare (compareLex_eq_eq.mp h).2)⟩
structure Enc {α : Type} (f : α -> aA) (c : α -> α -> Ordering) : Prop where
 eq : ∀ a b, eqD (f a) (f b) = (c a b).isEq
 lt : ∀ a b, ltD (f a) (f b) = some (c a b).isLT
section
variable {α : Type} {f : α -> aA} {c : α -> α -> Ordering} {x : α} {l m s : List α}
theorem Enc.eqs (h : Enc f c) : ∀ a b : List α, eqDs (a.map f) (b.map f) = (cr c a b).isEq
 | [], [] => rfl
 | [], _ :: _ => rfl
 | _ :: _, [] => rfl
 | x :: r, y :: q => by
  rw [List.compareLex_cons_cons]
  show (eqD (f x) (f y) && eqDs (r.map f) (q.map f)) = _
  rw [h.eq, h.eqs r q]
  cases c x y <;> rfl
theorem Enc.lts (h : Enc f c) : ∀ a b : List α, ltDs (a.map f) (b.map f) = some (cr c a b).isLT
 | [], [] => rfl
 | [], _ :: _ => rfl
 | _ :: _, [] => rfl
 | x :: r, y :: q => by
  rw [List.compareLex_cons_cons]
  show (if eqD (f x) (f y) = true then ltDs (r.map f) (q.map f) else ltD (f x) (f y)) = _
  rw [h.eq, h.lt, h.lts r q]
  cases c x y <;> rfl
theorem enc_int : Enc aS compare :=
 ⟨λ a b => eF.mpr ((decide_eq_true_iff ..).trans (Int.compare_eq_eq.symm.trans Ordering.isEq_iff_eq_eq.symm)), λ a b => congrArg some (eF.mpr ((decide_eq_true_iff ..).trans (Int.compare_eq_lt.symm.trans Ordering.isLT_iff_eq_lt.symm)))⟩
theorem enc_M : Enc encM cP := by
 have e : ∀ a b, cP a b = (cr compare a.1 b.1).then (compare a.2 b.2) := λ _ _ => rfl
 refine ⟨λ a b => ?_, λ a b => ?_⟩
 · show (eqDs (a.1.map .int) (b.1.map .int) && (eqD (.int a.2) (.int b.2) && true)) = _
   rw [e, enc_int.eqs, enc_int.eq]
   cases cr compare a.1 b.1 <;> cases compare a.2 b.2 <;> rfl
 · show (if eqDs (a.1.map .int) (b.1.map .int) = true then (if eqD (.int a.2) (.int b.2) = true then some false else ltD (.int a.2) (.int b.2)) else ltDs (a.1.map .int) (b.1.map .int)) = _
   rw [e, enc_int.eqs, enc_int.eq, enc_int.lt, enc_int.lts]
   cases cr compare a.1 b.1 <;> cases compare a.2 b.2 <;> rfl
theorem enc_Ms : Enc fu cM := ⟨enc_M.eqs, enc_M.lts⟩
theorem Enc.iff [LawfulEqCmp c] (h : Enc f c) (a b : α) : eqD (f a) (f b) = true ↔ a = b := by
 rw [h.eq]
 exact Ordering.isEq_iff_eq_eq.trans LawfulEqCmp.compare_eq_iff_eq
theorem Enc.dedup [LawfulEqCmp c] (h : Enc f c) : ∀ l s : List α, ∃ d : List α, dedup (l.map f) (s.map f) = d.map f ∧ d.Nodup ∧ (∀ x, x ∈ d ↔ x ∈ l ∧ x ∉ s) ∧ d.length <= l.length
 | [], s => ⟨[], rfl, .nil, λ x => ⟨(λ m => nomatch m), λ m => m.1⟩, aW _⟩
 | x :: r, s => by
  have e : (s.map f).any (eqD (f x)) = true ↔ x ∈ s := by
   rw [List.any_map, bW]
   exact ⟨λ ⟨y, m, e⟩ => (h.iff x y).mp e ▸ m, λ m => ⟨x, m, (h.iff x x).mpr rfl⟩⟩
  show ∃ d : List α, (if (s.map f).any (eqD (f x)) = true then Mine.dedup (r.map f) (s.map f) else f x :: Mine.dedup (r.map f) ((x :: s).map f)) = d.map f ∧ _
  by_cases c : x ∈ s
  · obtain ⟨d, h1, h2, h3, h4⟩ := h.dedup r s
    rw [if_pos (e.mpr c)]
    exact ⟨d, h1, h2, λ y => (h3 y).trans ⟨λ q => ⟨.tail _ q.1, q.2⟩, λ q => ⟨(aP.mp q.1).resolve_left λ e => q.2 (e ▸ c), q.2⟩⟩, Nat.le_succ_of_le h4⟩
  · obtain ⟨d, h1, h2, h3, h4⟩ := h.dedup r (x :: s)
    rw [if_neg λ q => c (e.mp q), h1]
    refine ⟨x :: d, rfl, bq.mpr ⟨λ m => ((h3 x).mp m).2 (.head _), h2⟩, λ y => ⟨λ m => ?_, λ q => ?_⟩, bG h4⟩
    · rcases aP.mp m with rfl | m
      · exact ⟨.head _, c⟩
      · exact ⟨.tail _ ((h3 y).mp m).1, λ q => ((h3 y).mp m).2 (.tail _ q)⟩
    · by_cases z : y = x
      · exact z ▸ .head _
      · exact .tail _ ((h3 y).mpr ⟨(aP.mp q.1).resolve_left z, λ m => (aP.mp m).elim z q.2⟩)
noncomputable abbrev Up (c : α -> α -> Ordering) (l : List α) : Prop := l.Pairwise λ a b => c a b = .lt
theorem Enc.ins [TransCmp c] (h : Enc f c) : ∀ {l : List α}, Up c l -> (∀ y ∈ l, c x y ≠ .eq) -> ∃ m : List α, insD (f x) (l.map f) = some (m.map f) ∧ m.Perm (x :: l) ∧ Up c m
 | [], _, _ => ⟨[x], rfl, .refl _, bI ..⟩
 | y :: r, hl, hx => by
  obtain ⟨h1, h2⟩ := bD.mp hl
  have e : insD (f x) ((y :: r).map f) = (cond (c x y).isLT (some (f x :: f y :: r.map f)) ((insD (f x) (r.map f)).map (f y :: ·))) := by
   show (match ltD (f x) (f y) with | some true => _ | some false => _ | none => _) = _
   rw [h.lt]; cases c x y <;> rfl
  rw [e]
  cases o : c x y with
  | eq => exact (hx y (.head _) o).elim
  | lt => exact ⟨x :: y :: r, rfl, .refl _, bD.mpr ⟨λ z m => (aP.mp m).elim (λ e => e ▸ o) λ m => TransCmp.lt_trans o (h1 z m), hl⟩⟩
  | gt =>
   obtain ⟨m, k1, k2, k3⟩ := h.ins h2 λ y m => hx y (.tail _ m)
   refine ⟨y :: m, ?_, (k2.cons y).trans (.swap x y r), bD.mpr ⟨λ z q => ?_, k3⟩⟩
   · show (insD (f x) (r.map f)).map _ = _; rw [k1]; rfl
   · exact (aP.mp (k2.mem_iff.mp q)).elim (λ e => e ▸ OrientedCmp.gt_iff_lt.mp o) (h1 z)
theorem Enc.isort [TransCmp c] [LawfulEqCmp c] (h : Enc f c) : ∀ {l : List α}, l.Nodup -> ∃ m : List α, isortD (l.map f) = some (m.map f) ∧ m.Perm l ∧ Up c m
 | [], _ => ⟨[], rfl, .refl _, .nil⟩
 | x :: r, hl => by
  obtain ⟨h1, h2⟩ := bq.mp hl
  obtain ⟨m, k1, k2, k3⟩ := h.isort h2
  obtain ⟨d, j1, j2, j3⟩ := h.ins (x := x) k3 λ y q e => h1 (LawfulEqCmp.eq_of_compare e ▸ k2.mem_iff.mp q)
  refine ⟨d, ?_, j2.trans (k2.cons x), j3⟩
  show (isortD (r.map f)).bind _ = _
  rw [k1]; exact j1
theorem Enc.chain [OrientedCmp c] (h : Enc f c) : ∀ {l : List α}, Up c l -> chain (l.map f) = true
 | [], _ => rfl
 | x :: r, hl => by
  obtain ⟨h1, h2⟩ := bD.mp hl
  refine fP (aT.mpr λ z m => ?_) (h.chain h2)
  obtain ⟨y, hy, rfl⟩ := aj.mp m
  have e := h1 y hy
  rw [h.lt, h.lt, OrientedCmp.gt_iff_lt.mpr e, e]; rfl
theorem Up.ext [TransCmp c] (h : Up c l) (k : Up c m) (e : ∀ x, x ∈ l ↔ x ∈ m) : l = m := by
 have nd : ∀ {l : List α}, Up c l -> l.Nodup := λ h => h.imp λ {a b} h e => by subst e; exact absurd (h.symm.trans (ReflCmp.compare_self (cmp := c))) (by decide)
 exact ((List.perm_ext_iff_of_nodup (nd h) (nd k)).mpr e).eq_of_pairwise (λ a b _ _ h1 h2 => absurd (h1.symm.trans (OrientedCmp.gt_iff_lt.mpr h2)) (by decide)) h k
end
theorem ok_is (n : Nat) : ∀ X : List Int, okYs (X.map aS) n = true
 | [] => rfl
 | _ :: r => ok_is n r
theorem ok_Ms (n : Nat) : ∀ l : Ms, okYs (l.map encM) (n + 2) = true
 | [] => rfl
 | e :: r => fP (fP (ok_is n e.1) rfl) (ok_Ms n r)
theorem tup_Ms : ∀ l : Ms, (l.map encM).all isTup = true
 | [] => rfl
 | _ :: r => tup_Ms r
theorem all_map {α : Type} {p : aA -> Bool} {f : α -> aA} (h : ∀ a, p (f a) = true) : ∀ l : List α, (l.map f).all p = true
 | [] => rfl
 | a :: r => fP (h a) (all_map h r)
theorem sort_Ms {l : List Ms} (hl : l.Nodup) (h4 : l.length <= 4) : ∃ m, sortD (l.map fu) = some (m.map fu) ∧ m.Perm l ∧ Up cM m := by
 have := lawP
 cases l with
 | nil => exact ⟨[], rfl, .refl _, .nil⟩
 | cons x r =>
  obtain ⟨m, h1, h2, h3⟩ := enc_Ms.isort hl
  refine ⟨m, ?_, h2, h3⟩
  show (if (decide (((x :: r).map fu).length <= 4) && ((x :: r).map fu).all (okK 8) && ((x :: r).map fu).all tupT) = true then (isortD ((x :: r).map fu)).bind λ ys => if chain ys = true then some ys else none else none) = _
  rw [if_pos (fP (fP (decide_eq_true (by rw [aG]; exact h4)) (all_map (λ a => ok_Ms 5 a) _)) (all_map tup_Ms _)), h1]
  exact if_pos (enc_Ms.chain h3)
end Mine.Law
namespace Mine.Law
open PySem
section
variable {σ : fE} {R : List aA} {pool : List Int} {a n k m : Nat} {A : List aA} {Q : Ps} {v : V} {c : fH} {τ : fE} {O : Orc} {x q : Int} {X Y ts : List Int}
theorem set_ints (h : X.length <= 60) (e : ∀ x, x ∈ X ↔ x ∈ Y) (hY : Y.Pairwise (· < ·)) : biD σ 4 [.d (.list (X.map .int))] = some (.d (.list (Y.map .int))) := by
 obtain ⟨d, h1, h2, h3, h4⟩ := enc_int.dedup X []
 have ed : isortI d = Y := sorted_ext (fj h2) hY λ x => mem_isortI.trans ((h3 x).trans ⟨λ q => (e x).mp q.1, λ m => ⟨(e x).mpr m, λ m => nomatch m⟩⟩)
 have hd : sortD (dedup (X.map .int) []) = some (Y.map .int) := by
  rw [show dedup (X.map .int) [] = _ from h1]
  unfold sortD
  rw [ints_map]
  show (if d.length < 64 then some ((isortI d).map aS) else none) = _
  rw [if_pos (ci h4 (ci h (by decide))), ed]
 show ((ck ((decide ((X.map aS).length <= 4) || (ints? (X.map .int)).isSome) && decide ((X.map aS).length <= 64) && (X.map aS).all (okK 8)) ()).bind λ _ => (sortD (dedup (X.map .int) [])).map λ ys => V.d (.list ys)) = _
 rw [hd, ints_map, decide_eq_true (by rw [aG]; exact aE h (by decide) : (X.map aS).length <= 64), all_map (λ a => rfl) X, Bool.or_comm]; rfl
theorem uni_tail {K : Fs} {x3 x4 x5 : Option V} (C : Cl c τ = true) (hl : X.length <= 60) (h0 : decide (0 ∈ X) = false) (h1 : decide (1 ∈ X) = false) (ht : ∀ x ∈ X, keepB X x = !decide (x ∈ ts))
 (k : ∀ ρ, K (.ret (.d (.tuple ((uni X).map .int)))) ρ (TS c τ R)) :
 fc O (f_law_union.body.drop 2) [some (.l 12), some (.d (.list (X.map .int))), some (.d (.tuple (ts.map .int))), x3, x4, x5] (TS c τ R) K := by
 have eu : uni X = isortI ((addAll [] X).filter (keepB X)) := by unfold uni; rw [h0, h1]; rfl
 have X20 := s20 (aE hl (by decide))
 have go : ∀ {P : fE -> Prop}, P (TS c (τ ++ [.list ((X.filter (keepB X)).map .int)]) R) -> fq (sTurn (evE O (.op (.cmp .NotIn) (.v 3) (.v 2))) (evE O (.v 3)) (τ.length + 4)) (.one 3) (.seq (.d (.list (X.map .int)))) [some (.l 12), some (.d (.list (X.map .int))), some (.d (.tuple (ts.map .int))), x3, x4, x5] (X.map aS).length 0 (TS c τ R ++ [.list []]) P := λ q => by
  refine compM aS (λ x => cond (keepB X x) [.int x] []) 100 (λ _ _ => rfl) ?_ (λ x m acc K hN hK => ?_) ?_
  · exact aE (bU (flat_le (g := λ x => cond (keepB X x) [aS x] []) λ x => by cases keepB X x <;> exact aF rfl) _) ((bB _).symm ▸ aE hl (by decide))
  · refine w_cmp (nin_ints x ts rfl) ?_
    rw [<- ht x m]
    cases h : keepB X x with
    | true => rw [h] at hK hN; exact w_appc (s20 (ab hN)) hK
    | false => rw [h] at hK; exact aq acc ▸ hK
  · rw [flat_filter]; exact q
 refine go ?_
 refine w_fl C ?_
 have fl : (X.filter (keepB X)).length <= 60 := aE (bn ..) hl
 refine w_bi (set_ints (Y := uni X) fl (λ x => ?_) (uni_sorted X)) ?_
 · rw [eu]
   exact bh.trans ((and_congr_left λ _ => mem_all.symm).trans (bh.symm.trans mem_isortI.symm))
 · refine w_bi (tup_list ?_) (k _)
   rw [aG, eu, isortI_length]
   exact aE (bn ..) (aE (addAll_length X []) ((bB X.length).symm ▸ X20))
theorem lawuni_ok (C : Cl c τ = true) (hw : WS pool A τ) (hl : X.length <= 60) (q : Q (.d (.tuple ((uni X).map .int))) (TS c τ R)) : fY (OO (n + 1)) 52 [.l 12, .d (.list (X.map .int))] (TS c τ R) Q := by
 refine rg rfl ?_
 refine w_cmp (in_ints 0 X rfl) ?_
 cases h0 : decide (0 ∈ X) with
 | true =>
  refine w_cmp (in_ints 0 X rfl) ?_
  refine cT h0 ?_
  refine w_fin C ?_
  rwa [show uni X = [0] by unfold uni; rw [h0]; rfl] at q
 | false =>
  refine w_cmp (in_ints 1 X rfl) ?_
  cases h1 : decide (1 ∈ X) with
  | true =>
   refine w_cmp (in_ints 0 X rfl) ?_
   refine cF h0 ?_
   refine w_fin C ?_
   rwa [show uni X = [1] by unfold uni; rw [h0, h1]; rfl] at q
  | false =>
   refine w_cmp (in_ints 6 X rfl) ?_
   cases h6 : decide (6 ∈ X) with
   | true =>
    refine w_places hw ?_
    refine uni_tail (ts := [16, 17]) C hl h0 h1 (λ x _ => ?_) λ ρ => w_fin C q
    unfold keepB
    rw [h6, Bool.and_true]
    exact congrArg (!·) ((Bool.decide_or ..).symm.trans (decide_eq_decide.mpr ((or_congr_right aM.symm).trans aP.symm)))
   | false =>
    exact uni_tail (ts := []) C hl h0 h1 (λ x _ => by unfold keepB; rw [h6, Bool.and_false]; rfl) λ ρ => w_fin C q
end
noncomputable abbrev ks1 (l : Ms) : List Int := l.flatMap (·.1)
noncomputable def ixs : Nat -> List Int -> List (Nat × Int)
 | _, [] => []
 | i, s :: r => (i, s) :: ixs (i + 1) r
noncomputable def spG (p : Nat × Int) : List aA := cond (nz p.2) [.int (p.1 : Int)] []
noncomputable abbrev spare (sg : List Int) : List aA := (ixs 0 sg).flatMap spG
noncomputable def lastO (i k : Nat) : Option aA := Nat.casesOn k none λ k => some (.int ((i + k : Nat) : Int))
section
variable {σ : fE} {R : List aA} {pool : List Int} {a n k i m : Nat} {A xs : List aA} {v : V} {c : fH} {τ : fE} {z x q p y s : Int} {I : List Int} {l out pre suf r w : Ms} {e : List Int × Int}
theorem spare_last : ∀ (sg : List Int) (i : Nat), ((ixs i sg).flatMap spG).getLast? = lastO i (cntP nz sg)
 | [], _ => rfl
 | s :: r, i => by
  show (spG (i, s) ++ (ixs (i + 1) r).flatMap spG).getLast? = lastO i (up1 (nz s) (cntP nz r))
  rw [List.getLast?_append, spare_last r (i + 1)]
  unfold spG
  cases cntP nz r with
  | zero => cases nz s <;> rfl
  | succ k => show some (aS ((i + 1 + k : Nat) : Int)) = some (.int ((i + (k + 1) : Nat) : Int)); rw [dY, cC 1 k]
theorem ixs_rng : ∀ (sg : List Int) (i : Nat), (ixs i sg).map (λ p => aS (p.1 : Int)) = rngF i sg.length
 | [], _ => rfl
 | _ :: r, i => congrArg (_ :: ·) (ixs_rng r (i + 1))
theorem ixs_get : ∀ (sg : List Int) (i : Nat) (p : Nat × Int), p ∈ ixs i sg -> i <= p.1 ∧ sg[p.1 - i]? = some p.2
 | [], _, _, h => nomatch h
 | s :: r, i, p, h => by
  rcases aP.mp h with rfl | h
  · exact ⟨aW _, by rw [dN]; rfl⟩
  · obtain ⟨h1, h2⟩ := ixs_get r (i + 1) p h
    refine ⟨ab h1, ?_⟩
    rw [show p.1 - i = (p.1 - (i + 1)) + 1 by lia]; exact h2
theorem at_last {y' : aA} (h : xs.getLast? = some y') (hl : xs.length <= 2 ^ 20) : subD σ (.d (.list xs)) (.d (.int (-1))) = some (.d y') := by
 obtain ⟨k, hk⟩ : ∃ k, xs.length = k + 1 := by
  cases xs with
  | nil => exact nomatch h
  | cons a r => exact ⟨r.length, rfl⟩
 have e : idx (-1) xs.length = some k := by
  unfold idx
  rw [if_neg (by decide), hk, if_pos (by lia)]
  exact congrArg some (by lia)
 show ((ck (fits xs) ()).bind λ _ => (idx (-1) xs.length).bind λ n => (xs[n]?).map V.d).or _ = _
 rw [fO hl, e]
 show ((xs[k]?).map V.d).or _ = _
 rw [List.getLast?_eq_getElem?, hk] at h
 rw [show xs[k]? = some y' from h]; rfl
noncomputable def fB : List ST := [.asg 2 (.op (.bin .Add) (.v 2) (.mk (.bi 2) [(.v 8)]))]
noncomputable def wR : List ST := [
 .forL (.many [8, 9]) (.ex ()) (.slc (.v 1) (.v 5) (.op (.bin .Add) (.op (.sub ()) (.v 6) (.c (.int (-1)))) (.c (.int 1)))) fB,
 .ex (.op (.app ()) (.v 7) (.mk (.tup ()) [(.mk (.call 52) [(.v 0), (.v 2)]), (.c (.int 2))])),
 .asg 5 (.op (.sub ()) (.v 6) (.c (.int (-1))))]
noncomputable abbrev sR (m : Nat) (l : Ms) (p : Int) (x2 x3 x8 x9 : Option V) : Loc :=
 [some (.l 12), some (.d (.list (l.map encM))), x2, x3, some (.d (.list ((sgM l).map .int))), some (.d (.int p)), some (.d (.list (spare (sgM l)))), some (.l m), x8, x9, none, none, none]
theorem sum_one : ∀ {L : Ms}, (∀ z ∈ L, ∃ x, z.1 = [x]) -> (L.flatMap (·.1)).length = L.length
 | [], _ => rfl
 | z :: r, h => by
  obtain ⟨x, hx⟩ := h z (.head _)
  rw [bX, aH, hx, sum_one λ y m => h y (.tail _ m), am, cC]; rfl
theorem lst_tup (h : xs.length <= 2 ^ 20) : biD σ 2 [.d (.tuple xs)] = some (.d (.list xs)) := by
 show ck (fits xs) _ = _; rw [fO h]; rfl
theorem set_rest {K : Fs} {q : Nat} {x3 x8 x9 : Option V} (C : Cl c τ = true) (hw : WS pool A τ) (hl : l.length <= 9) (h1 : ∀ e ∈ l, ∃ x, e.1 = [x]) (hI : I.length <= 1) (he : l = pre ++ suf) (hq : cntP nz (sgM l) = pre.length + q + 1) (ho : out.length <= 9)
 (k : ∀ x2 x8 x9, K .next (sR (τ.length + 4) l ((pre.length + q : Nat) : Int) x2 x3 x8 x9) (TS c (τ ++ [.list ((out ++ [(uni (I ++ ks1 (suf.take (q + 1))), 2)]).map encM)]) R)) :
 fc (OO (n + 1)) wR (sR (τ.length + 4) l pre.length (some (.d (.list (I.map .int)))) x3 x8 x9) (TS c (τ ++ [.list (out.map encM)]) R) K := by
 have hsp : (spare (sgM l)).getLast? = some (.int ((pre.length + q : Nat) : Int)) := by
  have := spare_last (sgM l) 0
  rw [hq] at this
  rw [this]; show some (aS ((0 + (pre.length + q) : Nat) : Int)) = _; rw [bB]
 have hln : (spare (sgM l)).length <= 2 ^ 20 := by
  have e : (ixs 0 (sgM l)).length = l.length := by
   have := congrArg bP (ixs_rng (sgM l) 0)
   rw [aG, rng_length] at this
   rw [this]; exact aG ..
  exact aE (flat_le (g := spG) λ p => by unfold spG; cases nz p.2 <;> exact aF rfl) (e ▸ aE hl (by decide))
 have pl : pre.length + suf.length = l.length := by rw [he, aH]
 have qs : pre.length + q + 1 <= l.length := hq ▸ aE (cnt_le nz (sgM l)) (c8 (aG ..))
 have hm : (l.map encM).length <= 2 ^ 20 := fJ (aE hl (by decide))
 have hw1 : ∀ z ∈ suf.take (q + 1), ∃ x, z.1 = [x] := λ z m => h1 z (by rw [he]; exact aV _ (List.mem_of_mem_take m))
 have hwl : (suf.take (q + 1)).length <= 9 := aE (List.length_take_le' ..) (by lia)
 refine w_intN (k := pre.length) (by lia) ?_
 refine fM (at_last hsp hln) ?_
 refine w_intNe (k := pre.length + q + 1) rfl (by lia) ?_
 refine w_slc (ys := (suf.take (q + 1)).map encM) hm (by rw [cut_both, <- dR, <- c9, he, dY, List.take_length_add_append, List.drop_left]) ?_
 generalize suf.take (q + 1) = w at *
 refine loopL (v := .d (.list (w.map encM))) (ps := w) (γ := List Int × Option V × Option V) encM (λ _ g => sR (τ.length + 4) l pre.length (some (.d (.list (g.1.map .int)))) x3 g.2.1 g.2.2) (λ _ _ => TS c (τ ++ [.list (out.map encM)]) R) (λ done g => g.1 = I ++ ks1 done) (I, x8, x9) (aq I).symm (λ _ _ _ => rfl) (λ done z rest g K' hp hg kn kr => ?_) λ g hg => ?_
 · have z1 := hw1 z (by rw [hp]; exact aV _ (.head _))
   have dl : done.length <= 9 := aE (by rw [hp, aH]; exact ea ..) hwl
   have gl : g.1.length <= 10 := by rw [hg, aH, sum_one λ y m => hw1 y (by rw [hp]; exact a8 _ m)]; lia
   have zl : (z.1.map aS).length <= 2 ^ 20 := by obtain ⟨x, hx⟩ := z1; rw [hx]; exact aF rfl
   refine w_bi (lst_tup zl) ?_
   refine w_cat (fJ (aE gl (by decide))) zl ?_
   rw [<- aU]
   exact kn (g.1 ++ z.1, _, _) (by show g.1 ++ z.1 = I ++ ks1 (done ++ [z]); rw [hg, aw]; unfold ks1; rw [ew, List.flatMap_singleton])
 · refine w_prel ?_
   have gl : g.1.length <= 60 := by rw [hg, aH, sum_one hw1]; lia
   rw [<- hg] at k
   refine lawuni_ok (n := n) (fh C rfl) hw.push gl ?_
   refine w_appl (fJ (aE ho (by decide))) ?_
   refine fM (at_last hsp hln) ?_
   rw [aU] at k
   exact k _ _ _
end
noncomputable def wC : EX := .op (.cmp .Lt) (.v 5) (.mk (.bi 0) [(.v 1)])
noncomputable def wD : List ST := [
 .asgT [2, 3] (.op (.sub ()) (.v 1) (.v 5)),
 .ite (.op (.cmp .Eq) (.v 3) (.c (.int 2))) (.asg 2 (.ite (.op (.cmp .In) (.c (.int 1)) (.slc (.v 4) (.v 5) (.c .none))) (.mk (.lst ()) [(.c (.int 4))]) (.mk (.lst ()) [])) :: wR) [
  .ite (.and (.op (.cmp .Eq) (.v 3) (.c (.int 1))) (.op (.cmp .In) (.c (.int 0)) (.slc (.v 4) (.v 5) (.c .none)))) [
   .ex (.op (.app ()) (.v 7) (.mk (.tup ()) [(.mk (.call 52) [(.v 0), (.op (.bin .Add) (.mk (.bi 2) [(.v 2)]) (.mk (.lst ()) [(.c (.int 4))]))]), (.c (.int 0))]))] [
   .ex (.op (.app ()) (.v 7) (.mk (.tup ()) [(.v 2), (.v 3)]))]],
 .aug 5 (.c (.int 1))]
section
variable {υ σ : fE} {R : List aA} {pool : List Int} {a n m : Nat} {A : List aA} {Q : Ps} {c : fH} {τ : fE} {z x q p y : Int} {X I : List Int} {l out pre suf r : Ms} {e : List Int × Int}
theorem cnt_app {α : Type} {p : α -> Bool} {D : List α} {k : Nat} (h : cntP p D = k + 1) : ∀ L : List α, cntP p (L ++ D) = L.length + k + 1
 | [] => h.trans (by rw [eg, bB])
 | a :: L => by
  show up1 (p a) (cntP p (L ++ D)) = _
  rw [cnt_app h L, am, dO L.length 1 k]; rfl
theorem sub_mid {σ : fE} (hl : l.length <= 9) (he : l = pre ++ e :: r) : subD σ (.d (.list (l.map encM))) (.d (.int (pre.length : Int))) = some (.d (encM e)) :=
 fv rfl (fO (fJ (aE hl (by decide)))) (he ▸ row_mid encM e r pre)
theorem set_while {K : Fs} (C : Cl c τ = true) (hw : WS pool A τ) (hl : l.length <= 9) (h1 : ∀ e ∈ l, ∃ x, e.1 = [x]) :
 ∀ (k : Nat) (pre suf out : Ms) (z : Int) (x2 x3 x8 x9 : Option V), suf.length < k -> z = (pre.length : Int) -> l = pre ++ suf -> out.length <= pre.length ->
  (∀ z x2 x3 x8 x9, K .next (sR (τ.length + 4) l z x2 x3 x8 x9) (TS c (τ ++ [.list ((out ++ settled suf).map encM)]) R)) ->
  wIter (evE (OO (n + 1)) wC) (fc (OO (n + 1)) wD) k (sR (τ.length + 4) l z x2 x3 x8 x9) (TS c (τ ++ [.list (out.map encM)]) R) K
 | 0, _, _, _, _, _, _, _, _, h, _, _, _, _ => absurd h (Nat.not_lt_zero _)
 | k + 1, pre, suf, out, z, x2, x3, x8, x9, hk, hz, he, ho, q => by
  subst hz
  have hm : (l.map encM).length <= 2 ^ 20 := fJ (aE hl (by decide))
  have pl : pre.length + suf.length = l.length := by rw [he, aH]
  refine w_bi (len_list hm) ?_
  cases suf with
  | nil =>
   refine cF (c := decide ((pre.length : Int) < ((l.map encM).length : Int))) (decide_eq_false (by rw [aG, <- pl]; exact Int.lt_irrefl _)) ?_
   have := q (pre.length : Int) x2 x3 x8 x9
   rw [show settled [] = [] from rfl, aq] at this
   exact this
  | cons e r =>
   rw [am] at pl
   refine cT (c := decide ((pre.length : Int) < ((l.map encM).length : Int))) (decide_eq_true (by rw [aG, <- pl]; lia)) ?_
   refine fM (sub_mid hl he) ?_
   have h8 : out.length <= 9 := aE ho (by lia)
   have o20 := fJ (f := encM) (l := out) (aE h8 (by decide : 9 <= 2 ^ 20))
   have C' := fh (υ := [.list (out.map encM)]) C rfl
   have hsl : ∀ {Q : V -> Prop}, Q (.d (.list ((sgM (e :: r)).map .int))) -> OW (slcD (TS c (τ ++ [.list (out.map encM)]) R) (.d (.list ((sgM l).map .int))) (some (pre.length : Int)) none) Q := λ q => w_slc (fJ (by rw [aG]; exact aE hl (by decide))) (by rw [cut_lo, <- c9, he]; unfold sgM; rw [aU, List.drop_left' (aG ..)]) q
   have p20 : pre.length <= 2 ^ 20 := by lia
   cases h2 : decide (e.2 = 2) with
   | true =>
    have e2 := of_decide_eq_true h2
    refine cT h2 ?_
    obtain ⟨I, hI⟩ : ∃ I, I = cond (decide (1 ∈ sgM (e :: r))) [(4 : Int)] [] := ⟨_, rfl⟩
    have hk1 : lastK (e :: r) = lastK r + 1 := by
     show up1 (nz e.2) _ = _
     rw [e2]; exact up1_true _
    have hset : settled (e :: r) = (uni (I ++ ks1 ((e :: r).take (lastK r + 1))), 2) :: (e :: r).drop (lastK r + 1) := by
     show cond (decide (e.2 = 2)) _ _ = _
     rw [h2, hk1, hI]; rfl
    have rest : ∀ {K' : Fs} {x3 : Option V}, (∀ x2 x8 x9, K' .next (sR (τ.length + 4) l ((pre.length + lastK r : Nat) : Int) x2 x3 x8 x9) (TS c (τ ++ [.list ((out ++ [(uni (I ++ ks1 ((e :: r).take (lastK r + 1))), 2)]).map encM)]) R)) -> fc (OO (n + 1)) wR (sR (τ.length + 4) l pre.length (some (.d (.list (I.map .int)))) x3 x8 x9) (TS c (τ ++ [.list (out.map encM)]) R) K' := λ k => by
     refine set_rest (n := n) C hw hl h1 ?_ he ?_ h8 k
     · rw [hI]; cases decide (1 ∈ sgM (e :: r)) <;> exact aF rfl
     · have : cntP nz (sgM (e :: r)) = lastK r + 1 := (cnt_map _ _).trans hk1
       rw [he]; unfold sgM; rw [aU, cnt_app this, aG]
    have fin : ∀ z x2 x3 x8 x9, z = ((pre.length + lastK r : Nat) : Int) + 1 -> wIter (evE (OO (n + 1)) wC) (fc (OO (n + 1)) wD) k (sR (τ.length + 4) l z x2 x3 x8 x9) (TS c (τ ++ [.list ((out ++ [(uni (I ++ ks1 ((e :: r).take (lastK r + 1))), 2)]).map encM)]) R) K := λ z x2 x3 x8 x9 hz => by
     have tl : ((e :: r).take (lastK r + 1)).length = lastK r + 1 := List.length_take_of_le (bG (cnt_le ..))
     refine set_while C hw hl h1 k (pre ++ (e :: r).take (lastK r + 1)) ((e :: r).drop (lastK r + 1)) _ z x2 x3 x8 x9 ?_ ?_ ?_ ?_ λ z x2 x3 x8 x9 => ?_
     · exact ci (show (r.drop (lastK r)).length <= r.length by rw [cg]; exact Nat.sub_le ..) (Nat.lt_of_succ_lt_succ hk)
     · rw [aH, tl]; exact hz
     · rw [aw, bZ]; exact he
     · rw [aH, aH, tl]; exact dj ho (bG (bA _))
     · rw [settled_zero (zr_of hk1), aw]
       have := q z x2 x3 x8 x9
       rw [hset] at this
       exact this
    refine w_intN p20 ?_
    refine hsl ?_
    refine w_cmp (in_ints 1 (sgM (e :: r)) rfl) ?_
    cases hb : decide (1 ∈ sgM (e :: r)) with
    | true =>
     rw [hb] at hI
     subst hI
     refine kfl_step (K' := K) ?_
     refine rest λ x2 x8 x9 => ?_
     exact fin _ _ _ _ _ rfl
    | false =>
     rw [hb] at hI
     subst hI
     refine kfl_step (K' := K) ?_
     refine rest λ x2 x8 x9 => ?_
     exact fin _ _ _ _ _ rfl
   | false =>
    refine cF h2 ?_
    have hset : settled (e :: r) = ntl1 e (sgM r) :: settled r := by
     show cond (decide (e.2 = 2)) _ _ = _
     rw [h2]; rfl
    have fin : ∀ (d : List Int × Int) z x2 x3 x8 x9, ntl1 e (sgM r) = d -> z = (pre.length : Int) + 1 -> wIter (evE (OO (n + 1)) wC) (fc (OO (n + 1)) wD) k (sR (τ.length + 4) l z x2 x3 x8 x9) (TS c (τ ++ [.list (out.map encM ++ [encM d])]) R) K := λ d z x2 x3 x8 x9 hd hz => by
     have := set_while C hw hl h1 k (pre ++ [e]) r (out ++ [d]) z x2 x3 x8 x9 (Nat.lt_of_succ_lt_succ hk) (by rw [aH]; exact hz) (by rw [aw]; exact he) (by rw [aH, aH]; exact bG ho) λ z x2 x3 x8 x9 => by
      have := q z x2 x3 x8 x9
      rw [hset, hd] at this
      rw [aw]; exact this
     rw [aU] at this
     exact this
    cases h1' : decide (e.2 = 1) with
    | true =>
     refine cT h1' ?_
     refine w_intN p20 ?_
     refine hsl ?_
     refine w_cmp (in_ints 0 (sgM (e :: r)) rfl) ?_
     have e1 := of_decide_eq_true h1'
     have h0r : decide (0 ∈ sgM (e :: r)) = decide (0 ∈ sgM r) := decide_eq_decide.mpr ⟨λ m => (aP.mp m).resolve_left λ z => absurd (z.trans e1) (by decide), .tail _⟩
     rw [h0r]
     cases h0 : decide (0 ∈ sgM r) with
     | true =>
      obtain ⟨y, hy⟩ := h1 e (by rw [he]; exact aV _ (.head _))
      have el : e.1.length <= 1 := by rw [hy]; exact aW 1
      refine w_prel ?_
      refine w_bi (lst_tup (fJ (aE el (by decide)))) ?_
      refine w_cat (fJ (aE el (by decide))) (aF rfl) ?_
      have law : ∀ {Q : Ps}, Q (.d (.tuple ((uni (e.1 ++ [4])).map .int))) (TS c (τ ++ [.list (out.map encM)]) R) -> fY (OO (n + 1)) 52 [.l 12, .d (.list (e.1.map .int ++ [.int 4]))] (TS c (τ ++ [.list (out.map encM)]) R) Q := λ q => by
       have := lawuni_ok (n := n) (X := e.1 ++ [4]) C' hw.push (by rw [aH]; exact aE (bG el) (by decide)) q
       rw [aU] at this
       exact this
      refine law ?_
      refine w_appl o20 ?_
      exact fin (uni (e.1 ++ [4]), 0) _ _ _ _ _ (by unfold ntl1; rw [h1', h0]; rfl) rfl
     | false =>
      refine w_prel ?_
      refine w_appl (r := encM e) o20 ?_
      exact fin e _ _ _ _ _ (by unfold ntl1; rw [h1', h0]; rfl) rfl
    | false =>
     refine cF h1' ?_
     refine cF h1' ?_
     refine w_prel ?_
     refine w_appl (r := encM e) o20 ?_
     exact fin e _ _ _ _ _ (by unfold ntl1; rw [h1']; rfl) rfl
end
section
variable {υ σ : fE} {R : List aA} {pool : List Int} {a n i m k : Nat} {A xs : List aA} {Q : Ps} {v : V} {c : fH} {τ : fE} {O : Orc} {z x q p t : Int} {X : List Int} {l out pre suf r : Ms} {e : List Int × Int}
theorem ret_len {α : Type} {g : α -> List aA} {l : List α} (h : ∀ a, (g a).length <= 1) (hl : l.length <= 100) : ([] : List aA).length + (l.flatMap g).length <= 100 :=
 aE (bU (flat_le h) _) ((bB _).symm ▸ hl)
theorem set_signs {P : fE -> Prop} (p0 p1 p2 p3 p4 p5 p6 p7 p8 p9 p10 p11 p12 : Option V) (hl : l.length <= 9) (q : P (TS c (τ ++ [.list ((sgM l).map .int)]) R)) :
 fq (sTurn (evE O (.c (.bool true))) (evE O (.v 11)) (τ.length + 4)) (.many [10, 11]) (.seq (.d (.list (l.map encM)))) [p0, p1, p2, p3, p4, p5, p6, p7, p8, p9, p10, p11, p12] (l.map encM).length 0 (TS c τ R ++ [.list []]) P := by
 refine compM encM (λ e => [.int e.2]) 100 (λ _ _ => rfl) (ret_len (λ _ => aW 1) (aE hl (by decide))) (λ e m acc K hN hK => ?_) ?_
 · exact w_appc (s20 (ab hN)) hK
 · rw [fW, bc]
   rw [show (sgM l).map aS = l.map λ e => aS e.2 from bE] at q
   exact q
theorem set_spare {P : fE -> Prop} (p0 p1 p2 p3 p5 p6 p7 p8 p9 p10 p11 p12 : Option V) (hl : X.length <= 9) (q : P (TS c (τ ++ [.list (spare X)]) R)) :
 fq (sTurn (evE O (.op (.cmp .NotEq) (.op (.sub ()) (.v 4) (.v 10)) (.c (.int 0)))) (evE O (.v 10)) (τ.length + 4)) (.one 10) (.rng X.length) [p0, p1, p2, p3, some (.d (.list (X.map .int))), p5, p6, p7, p8, p9, p10, p11, p12] X.length 0 (TS c τ R ++ [.list []]) P := by
 have hlen : (ixs 0 X).length = X.length := by
  have := congrArg bP (ixs_rng X 0)
  rwa [aG, rng_length] at this
 have := comp (t := .one 10) (ρ := [p0, p1, p2, p3, some (.d (.list (X.map .int))), p5, p6, p7, p8, p9, p10, p11, p12]) (σ := TS c τ R) (it := .rng X.length) (turn := sTurn (evE O (.op (.cmp .NotEq) (.op (.sub ()) (.v 4) (.v 10)) (.c (.int 0)))) (evE O (.v 10)) (τ.length + 4)) (P := P) (acc := []) (ps := ixs 0 X) (λ p => aS (p.1 : Int)) spG 100 (λ acc i => by rw [ixs_rng]; exact at_rng _ _ _) (ret_len (λ p => by unfold spG; cases nz p.2 <;> exact aF rfl) (hlen ▸ aE hl (by decide))) (λ p m acc K hN hK => ?_) q
 · rwa [hlen] at this
 · obtain ⟨_, hg⟩ := ixs_get X 0 p m
   refine fM (fv (xs := X.map .int) (r := .int p.2) rfl (fO (fJ (aE hl (by decide)))) (rowAt_iff.mpr ⟨bj _, by rw [bT, a6]; exact congrArg _ hg⟩)) ?_
   unfold spG nz at hK hN
   cases h : decide (p.2 = 0) with
   | true => rw [h] at hK; exact cF (congrArg (!·) h) (aq acc ▸ hK)
   | false => rw [h] at hK hN; exact cT (congrArg (!·) h) (w_appc (s20 (ab hN)) hK)
theorem tup_seq (h : fg σ v = some xs) (hf : xs.length <= 2 ^ 20) : biD σ 1 [v] = some (.d (.tuple xs)) := by
 show (fg σ v).bind _ = _; rw [h]; show ck (fits xs) _ = _; rw [fO hf]; rfl
theorem settled_length : ∀ l : Ms, (settled l).length <= l.length
 | [] => aW _
 | e :: r => by
  show bP (cond (decide (e.2 = 2)) ((_, _) :: (e :: r).drop (lastK (e :: r))) (_ :: settled r)) <= _
  cases h : decide (e.2 = 2) with
  | true =>
   have : lastK (e :: r) = lastK r + 1 := by
    show up1 (nz e.2) _ = _
    rw [of_decide_eq_true h]; exact up1_true _
   rw [this]
   exact bG (by show (r.drop (lastK r)).length <= _; rw [cg]; exact Nat.sub_le ..)
  | false => exact bG (settled_length r)
theorem lawset_body {K : Fs} (C : Cl c τ = true) (hw : WS pool A τ) (hl : l.length <= 9) (h1 : ∀ e ∈ l, ∃ x, e.1 = [x]) (k : ∀ ρ υ, K (.ret (.d (fu (cond (decide (3 ∈ sgM l)) l (settled l))))) ρ (TS c (τ ++ υ) R)) :
 fc (OO (n + 1)) f_law_settled.body [some (.l 12), some (.d (.list (l.map encM))), none, none, none, none, none, none, none, none, none, none, none] (TS c τ R) K := by
 have hm : (l.map encM).length <= 2 ^ 20 := fJ (aE hl (by decide))
 have hs : (sgM l).length <= 9 := (aG ..).symm ▸ hl
 refine set_signs _ _ _ _ _ _ _ _ _ _ _ _ _ hl ?_
 refine w_fl C ?_
 refine w_cmp (in_ints 3 (sgM l) rfl) ?_
 cases h3 : decide (3 ∈ sgM l) with
 | true =>
  rw [h3] at k
  refine w_bi (tup_list hm) ?_
  have := k [some (.l 12), some (.d (.list (l.map encM))), none, none, some (.d (.list ((sgM l).map .int))), none, none, none, none, none, none, none, none] []
  rw [aq] at this
  exact this
 | false =>
  rw [h3] at k
  refine w_bi (len_list hm) ?_
  rw [aG]
  refine w_rng (aE hl (by decide)) ?_
  have sp := λ {P : fE -> Prop} (q : P (TS c (τ ++ [.list (spare (sgM l))]) R)) => set_spare (O := OO (n + 1)) (some (.l 12)) (some (.d (.list (l.map encM)))) none none none none none none none none none none hs q
  rw [aG] at sp
  refine sp ?_
  refine w_fl C ?_
  refine Exists.intro (l.length + 1) ?_
  refine set_while (out := []) (pre := []) (suf := l) C hw hl h1 _ _ _ _ _ _ (cQ _) rfl rfl (aW _) λ z x2 x3 x8 x9 => ?_
  have sl : ((settled l).map encM).length <= 2 ^ 20 := fJ (aE (settled_length l) (aE hl (by decide)))
  refine w_bi (tup_seq (by show ((τ ++ [fH.list ((settled l).map encM)])[τ.length]?).bind cL = _; rw [getc]; rfl) sl) ?_
  exact k _ _
theorem lawset_ok (C : Cl c τ = true) (hw : WS pool A τ) (hl : l.length <= 9) (h1 : ∀ e ∈ l, ∃ x, e.1 = [x]) (q : Q (.d (fu (cond (decide (3 ∈ sgM l)) l (settled l)))) (TS c τ R)) : fY (OO (n + 2)) 53 [.l 12, .d (.list (l.map encM))] (TS c τ R) Q := by
 refine rg rfl ?_
 refine lawset_body (n := n) C hw hl h1 λ ρ υ => ?_
 exact w_fina C q
end
noncomputable def rowL (R : List aA) (t : Int) : List aA := tupL ((fN R t).getD .none)
noncomputable def atomsOf (R : List aA) (t : Int) : List Int := cond (decide (toI (nthL 0 (rowL R t)) = 6)) ((tupL (nthL 1 (rowL R t))).map toI) [t]
noncomputable def msOf (R : List aA) (i : Int) : Ms := cond (decide (toI (nthL 0 (rowL R i)) = 11)) [(atomsOf R (toI (nthL 1 (rowL R i))), 2)] ((tupL (nthL 1 (rowL R i))).map λ y => (atomsOf R (toI (nthL 0 (tupL y))), toI (nthL 1 (tupL y))))
section
variable {υ σ : fE} {R : List aA} {a n m k : Nat} {xs : List aA} {Q : Ps} {v : V} {c : fH} {τ : fE} {x q t y s i ro : Int} {as : List Int} {l out r ms : Ms} {e : List Int × Int} {qs rs : Qs} {out : List aA}
theorem atomsOf_eq (h : Atoms R t as) : atomsOf R t = as := by
 unfold atomsOf rowL
 cases h with
 | @one k h0 h6 h =>
  obtain ⟨xs, h, _⟩ := h
  rw [h]
  show cond (decide (k = 6)) _ [t] = [t]
  rw [decide_eq_false h6]; rfl
 | many h0 hl h h1 => rw [h]; exact map_back (λ _ => rfl) as
theorem msOf_eq (h : Lst R ro i ms) : msOf R i = ms := by
 unfold msOf rowL
 cases h with
 | @one q h2 ha h =>
  rw [h]
  show [(atomsOf R q.1, (2 : Int))] = [q.2]
  rw [atomsOf_eq ha, <- h2]
 | @many qs ha hl hn h =>
  rw [h]
  show (qs.map encQ).map (λ y => (atomsOf R (toI (nthL 0 (tupL y))), toI (nthL 1 (tupL y)))) = _
  rw [bE]
  exact cY λ q m => congrArg (·, q.2.2) (atomsOf_eq (ha q m))
theorem atoms_inj (G : Good R) (h : Atoms R t as) (k : Atoms R s as) : t = s := by
 cases h with
 | one => cases k with
  | one => rfl
  | many _ _ _ h => exact (h rfl).elim
 | many _ _ h h1 => cases k with
  | one => exact (h1 rfl).elim
  | many _ _ k _ => exact rowAt_inj G.nd h k
theorem qs_inj (G : Good R) : ∀ {qs rs : Qs}, (∀ q ∈ qs, Atoms R q.1 q.2.1) -> (∀ q ∈ rs, Atoms R q.1 q.2.1) -> msQ qs = msQ rs -> qs = rs
 | [], [], _, _, _ => rfl
 | [], _ :: _, _, _, h => nomatch h
 | _ :: _, [], _, _, h => nomatch h
 | a :: qs, b :: rs, h1, h2, h => by
  have e : a.2 = b.2 := (dH h).1
  have ha := h1 a (.head _)
  rw [e] at ha
  rw [qs_inj G (λ q m => h1 q (.tail _ m)) (λ q m => h2 q (.tail _ m)) (dH h).2, Prod.ext (atoms_inj G ha (h2 b (.head _))) e]
theorem lst_inj (G : Good R) {ns : Ms} (h : Lst R ro i ms) (k : Lst R ro x ns) (e : ms = ns) : i = x := by
 cases h with
 | @one q h2 ha h => cases k with
  | @one q' k2 ka k =>
   obtain rfl : q = q' := (dH (qs_inj G (cq.mpr ha) (cq.mpr ka) e)).1
   exact rowAt_inj G.nd h k
  | many ka _ kn k => exact (kn q (qs_inj G (cq.mpr ha) ka e).symm h2).elim
 | many ha _ hn h => cases k with
  | @one q' k2 ka k => exact (hn q' (qs_inj G ha (cq.mpr ka) e) k2).elim
  | many ka _ _ k => obtain rfl := qs_inj G ha ka e; exact rowAt_inj G.nd h k
theorem atoms_ok (C : Cl c τ = true) (hf : fits R = true) (h : Atoms R t as) (q : Q (.d (.tuple (as.map .int))) (TS c τ R)) : fY (OO (n + 1)) 55 [.l 1, .d (.int t)] (TS c τ R) Q := by
 cases h with
 | @one k h0 h6 h =>
  obtain ⟨xs, h, hl⟩ := h
  exact rg rfl <| fM (fQ hf h) (fM (a0 (le10 hl)) (cF (c := decide (k = 6)) (decide_eq_false h6) (w_fin C q)))
 | many h0 hl h h1 =>
  refine rg rfl <| fM (fQ hf h) (fM (fQ hf h) (w_bi (tup_seq rfl (fJ (aE hl (by decide)))) (w_fin C q)))
noncomputable def vB : List ST := [
 .asg 5 (.op (.sub ()) (.op (.att 0) (.v 0) (.c .none)) (.v 4)),
 .ite (.or (.op (.cmp .NotIn) (.op (.sub ()) (.v 5) (.c (.int 0))) (.mk (.tup ()) [(.c (.int 11)), (.c (.int 12))])) (.op (.cmp .NotEq) (.op (.sub ()) (.v 5) (.c (.int 2))) (.v 2))) [
  .ret (.mk (.lst ()) [])] [],
 .ite (.op (.cmp .Eq) (.op (.sub ()) (.v 5) (.c (.int 0))) (.c (.int 11))) [
  .ex (.op (.app ()) (.v 3) (.mk (.tup ()) [(.mk (.tup ()) [(.mk (.call 55) [(.v 0), (.op (.sub ()) (.v 5) (.c (.int 1)))]), (.c (.int 2))])]))] [
  .ex (.op (.app ()) (.v 3) (.mk (.bi 1) [(.lc false (.mk (.tup ()) [(.mk (.call 55) [(.v 0), (.v 6)]), (.v 7)]) (.many [6, 7]) (.ex ()) (.op (.sub ()) (.v 5) (.c (.int 1))) (.c (.bool true)))])),
  .ite (.and (.op (.cmp .Eq) (.mk (.bi 0) [(.op (.sub ()) (.v 5) (.c (.int 1)))]) (.c (.int 1))) (.op (.cmp .Eq) (.op (.sub ()) (.op (.sub ()) (.op (.sub ()) (.v 5) (.c (.int 1))) (.c (.int 0))) (.c (.int 1))) (.c (.int 2)))) [
   .ret (.mk (.lst ()) [])] []]]
theorem len_tup (h : xs.length <= 2 ^ 20) : biD σ 0 [.d (.tuple xs)] = some (.d (.int xs.length)) := by
 show ck (fits xs) _ = _; rw [fO h]; rfl
theorem seen_lc {P : fE -> Prop} {p1 p2 p3 p4 p5 p6 p7 p8 : Option V} (C : Cl c τ = true) (hf : fits R = true) (ha : ∀ q ∈ qs, Atoms R q.1 q.2.1) (hl : qs.length <= 50) (q : P (TS c (τ ++ [.list ((msQ qs).map encM)]) R)) :
 fq (sTurn (evE (OO (n + 1)) (.c (.bool true))) (evE (OO (n + 1)) (.mk (.tup ()) [(.mk (.call 55) [(.v 0), (.v 6)]), (.v 7)])) (τ.length + 4)) (.many [6, 7]) (.seq (.d (.tuple (qs.map encQ)))) [some (.l 1), p1, p2, p3, p4, p5, p6, p7, p8] (qs.map encQ).length 0 (TS c τ R ++ [.list []]) P := by
 refine compM encQ (λ q => [encM q.2]) 100 (λ _ _ => rfl) (ret_len (λ _ => aW 1) (aE hl (by decide))) (λ q m acc K hN hK => ?_) ?_
 · refine atoms_ok (n := n) (τ := τ ++ [.list acc]) (fh C rfl) hf (ha q m) ?_
   exact w_appc (s20 (ab hN)) hK
 · rw [fW, bc]
   rw [show (msQ qs).map encM = qs.map λ q => encM q.2 from bE] at q
   exact q
theorem seen_turn {K : Fs} {p1 x5 : Option V} (C : Cl c τ = true) (hf : fits R = true) (h : Lst R ro i ms) (ho : out.length <= 1000) (k : ∀ x5, K .next [some (.l 1), p1, some (.d (.int ro)), some (.l (τ.length + 4)), some (.d (.int i)), x5, none, none, none] (TS c (τ ++ [.list (out ++ [fu ms])]) R)) :
 fc (OO (n + 1)) vB [some (.l 1), p1, some (.d (.int ro)), some (.l (τ.length + 4)), some (.d (.int i)), x5, none, none, none] (TS c (τ ++ [.list out]) R) K := by
 have C' := fh (υ := [.list out]) C rfl
 have hro : (!decide (ro = ro)) = false := congrArg (!·) (decide_eq_true rfl)
 have h20 : out.length <= 2 ^ 20 := aE ho (by decide)
 cases h with
 | @one q h2 ha h =>
  refine fM (fQ hf h) ?_
  refine cF hro ?_
  refine w_prel ?_
  refine atoms_ok (n := n) C' hf ha ?_
  refine w_appl (r := .tuple [.tuple [.tuple (q.2.1.map .int), .int 2]]) h20 ?_
  rw [show aA.tuple [.tuple [.tuple (q.2.1.map .int), .int 2]] = fu (msQ [q]) by show _ = aA.tuple [.tuple [.tuple (q.2.1.map .int), .int q.2.2]]; rw [h2]]
  exact k _
 | @many qs ha hl hn h =>
  refine fM (fQ hf h) ?_
  refine cF hro ?_
  refine w_prel ?_
  refine seen_lc C' hf ha hl ?_
  refine w_fl C' ?_
  refine w_bi (tup_list (fJ (by rw [aG]; exact aE hl (by decide)))) ?_
  refine w_appl (r := fu (msQ qs)) h20 ?_
  refine w_bi (len_tup (fJ (aE hl (by decide)))) ?_
  by_cases c1 : qs.length = 1
  · obtain ⟨q, rfl⟩ := eQ.mp c1
    exact cF (c := decide (q.2.2 = 2)) (decide_eq_false (hn q rfl)) (k _)
  · have c1' : decide (((qs.map encQ).length : Int) = 1) = false := decide_eq_false (by rw [aG]; lia)
    refine cF c1' ?_
    refine cF c1' ?_
    exact k _
end
def SortTo (M : List Ms) (S : List aA) : Prop := ∀ d : List Ms, d.Nodup -> (∀ x, x ∈ d ↔ x ∈ M) -> d.length <= 4 -> sortD (d.map fu) = some S
noncomputable def stepF (fs cs : List Flat) : List Flat := fs.flatMap λ f => cs.map (f ++ ·)
noncomputable def forms (L : List (List Flat)) : List Flat := L.foldl stepF [[]]
section
variable {υ : fE} {R : List aA} {n m k : Nat} {xs S : List aA} {Q : Ps} {v : V} {c : fH} {τ : fE} {x q i ro got : Int} {ids : List Int} {l r : Ms} {e : List Int × Int} {f : Flat} {fs cs : List Flat} {M : List Ms}
theorem sort_to {d : List Ms} (h1 : d.Nodup) (h2 : ∀ x, x ∈ d ↔ x ∈ M) (h3 : d.length <= 4) : ∃ S : List Ms, SortTo M (S.map fu) := by
 obtain ⟨m, k1, k2, k3⟩ := sort_Ms h1 h3
 refine ⟨m, λ d' j1 j2 j3 => ?_⟩
 obtain ⟨m', i1, i2, i3⟩ := sort_Ms j1 j3
 rw [i1, i3.ext k3 λ x => (i2.mem_iff.trans (j2 x)).trans ((h2 x).symm.trans k2.mem_iff.symm)]
theorem seen_body {K : Fs} (C : Cl c τ = true) (hf : fits R = true) (ha : Atoms R got ids) (hL : ∀ i ∈ ids, Lst R ro i (msOf R i)) (hl : ids.length <= 4) (hs : sortD ((ids.map (msOf R)).map fu) = some S)
 (k : ∀ ρ υ, K (.ret (.d (.list S))) ρ (TS c (τ ++ υ) R)) :
 fc (OO (n + 1)) f_law_seen.body [some (.l 1), some (.d (.int got)), some (.d (.int ro)), none, none, none, none, none, none] (TS c τ R) K := by
 refine atoms_ok (n := n) (τ := τ ++ [.list []]) (fh C rfl) hf ha ?_
 refine loopL (v := .d (.tuple (ids.map .int))) (ps := ids) (γ := Option V × Option V) .int (λ _ g => [some (.l 1), some (.d (.int got)), some (.d (.int ro)), some (.l (τ.length + 4)), g.1, g.2, none, none, none]) (λ done _ => TS c (τ ++ [.list ((done.map (msOf R)).map fu)]) R) (λ _ _ => True) (none, none) trivial (λ _ _ _ => rfl) (λ done i rest g K' hp hg kn kr => ?_) λ g hg => ?_
 · refine seen_turn (n := n) C hf (hL i (by rw [hp]; exact aV _ (.head _))) ?_ λ x5 => ?_
   · have := congrArg bP hp
     rw [aH] at this
     rw [aG, aG]; lia
   · have := kn (some (.d (.int i)), x5) trivial
     rw [aU, aU] at this
     exact this
 · refine w_bi (v := .d (.list S)) ?_ ?_
   · show (((((τ ++ [fH.list ((ids.map (msOf R)).map fu)])[τ.length]?).bind cL).bind λ xs => (sortD xs).map λ ys => V.d (.list ys)).or _) = _
     rw [getc]
     show (((sortD ((ids.map (msOf R)).map fu)).map λ ys => V.d (.list ys)).or _) = _
     rw [hs]; rfl
   · exact k _ _
theorem seen_ok (C : Cl c τ = true) (hf : fits R = true) (ha : Atoms R got ids) (hL : ∀ i ∈ ids, Lst R ro i (msOf R i)) (hl : ids.length <= 4) (hs : sortD ((ids.map (msOf R)).map fu) = some S)
 (q : Q (.d (.list S)) (TS c τ R)) : fY (OO (n + 2)) 56 [.l 1, .d (.int got), .d (.int ro)] (TS c τ R) Q := by
 refine rg rfl ?_
 refine seen_body (n := n) C hf ha hL hl hs λ ρ υ => ?_
 exact w_fina C q
theorem fold_forms : ∀ (L : List (List Flat)) (fs : List Flat), L.foldl stepF fs = fs.flatMap λ f => (prod L).map (f ++ ·)
 | [], fs => by
  show fs = fs.flatMap λ f => [f ++ []]
  rw [fW]
  exact ((cY λ f _ => aq f).trans (List.map_id fs)).symm
 | cs :: r, fs => by
  show r.foldl stepF (stepF fs cs) = _
  rw [fold_forms r]
  unfold stepF
  rw [List.flatMap_assoc]
  refine congrArg (List.flatMap · fs) (funext λ f => ?_)
  show (cs.map (f ++ ·)).flatMap _ = (cs.flatMap λ g => (prod r).map (g ++ ·)).map (f ++ ·)
  rw [List.flatMap_map, List.map_flatMap]
  refine congrArg (List.flatMap · cs) (funext λ g => ?_)
  rw [bE]
  exact cY λ h _ => aw ..
theorem forms_eq (L : List (List Flat)) : forms L = prod L := by
 unfold forms
 rw [fold_forms]
 show List.append _ [] = _
 exact (aq _).trans ((cY λ f _ => bc f).trans (List.map_id _))
theorem forms_snoc (L : List (List Flat)) (cs : List Flat) : forms (L ++ [cs]) = stepF (forms L) cs := List.foldl_append
theorem stepF_length (cs : List Flat) : ∀ fs : List Flat, (stepF fs cs).length = fs.length * cs.length
 | [] => (Nat.zero_mul _).symm
 | f :: r => by
  show (cs.map (f ++ ·) ++ stepF r cs).length = _
  rw [aH, stepF_length cs r, aG, am, Nat.succ_mul, cC]
theorem stepF_enc : (fs.flatMap λ f => cs.map λ c => encC (f ++ c)) = (stepF fs cs).map encC := by
 unfold stepF
 rw [List.map_flatMap]
 exact congrArg (List.flatMap · fs) (funext λ f => by rw [bE]; rfl)
theorem encC_msF (f : Flat) : encC f = .list ((msF f).map encM) := by
 unfold msF
 rw [bE]; rfl
theorem has3_eq : ∀ f : Flat, has3 f = decide (3 ∈ sgM (msF f)) := λ f => by
 have := any_in 3 (λ e : Int × Int => e.2) f
 unfold msF sgM
 rw [bE]
 refine Eq.trans ?_ this
 exact congrArg f.any (funext λ e => decide_eq_decide.mpr aM.symm)
end
section
variable {υ σ : fE} {R : List aA} {pool : List Int} {a n m k : Nat} {A S : List aA} {Q : Ps} {v : V} {c : fH} {τ : fE} {O : Orc} {x q p : Int} {l w : Ms} {e : List Int × Int} {f : Flat} {fs cs : List Flat} {M : List Ms} {ts : List T4} {w : T4}
theorem set_ms (hS : SortTo M S) (h4 : M.length <= 4) : biD σ 4 [.d (.list (M.map fu))] = some (.d (.list S)) := by
 have := lawP
 obtain ⟨d, k1, k2, k3, k4⟩ := enc_Ms.dedup M []
 have h := hS d k2 (λ x => (k3 x).trans ⟨And.left, λ m => ⟨m, λ m => nomatch m⟩⟩) (aE k4 h4)
 have l : (M.map fu).length <= 4 := by rw [aG]; exact h4
 show ((ck ((decide ((M.map fu).length <= 4) || (ints? (M.map fu)).isSome) && decide ((M.map fu).length <= 64) && (M.map fu).all (okK 8)) ()).bind λ _ => (sortD (dedup (M.map fu) [])).map λ ys => V.d (.list ys)) = _
 rw [decide_eq_true l, decide_eq_true (aE l (by decide : 4 <= 64)), all_map (λ a => ok_Ms 5 a) M, show dedup (M.map fu) [] = _ from k1, h]; rfl
theorem lc_two {P : fE -> Prop} {p1 p5 p6 : Option V} (h1 : fs.length <= 4) (h2 : w.cs.length <= 2) (h3 : ∀ f ∈ fs, f.length <= 9) (h4 : ∀ c ∈ w.cs, c.length <= 3) (q : P (TS c (τ ++ [.list ((stepF fs w.cs).map encC)]) R)) :
 fq (sIn (sTurn always (evE O (.op (.bin .Add) (.v 4) (.v 5))) (τ.length + 4)) (.one 5) (evE O (.op (.sub ()) (.v 3) (.c (.int 1)))) (.ex ())) (.one 4) (.seq (.d (.list (fs.map encC)))) [some (.l 12), p1, some (.d (.list (fs.map encC))), some (.d (fZ w)), none, p5, p6] (fs.map encC).length 0 (TS c τ R ++ [.list []]) P := by
 refine compM encC (λ f => w.cs.map λ c => encC (f ++ c)) 100 (λ _ _ => rfl) ?_ (λ f m acc K hN hK => ?_) ?_
 · rw [stepF_enc, aG, stepF_length, eg, bB]
   exact aE (Nat.mul_le_mul h1 h2) (by decide)
 · refine compM encC (λ c => [encC (f ++ c)]) 100 (λ _ _ => rfl) (by rw [fW]; exact hN) (λ c mc acc K hN hK => ?_) (by rw [fW]; exact hK)
   refine w_cat (fJ (aE (h3 f m) (by decide))) (fJ (aE (h4 c mc) (by decide))) ?_
   rw [<- aU]
   exact w_appc (s20 (ab hN)) hK
 · rw [stepF_enc]; exact q
theorem lc_set {P : fE -> Prop} {p1 p2 p3 p5 p6 : Option V} (C : Cl c τ = true) (hw : WS pool A τ) (h1 : fs.length <= 4) (h3 : ∀ f ∈ fs, f.length <= 9) (q : P (TS c (τ ++ [.list ((fs.map settle).map fu)]) R)) :
 fq (sTurn (evE (OO (n + 2)) (.c (.bool true))) (evE (OO (n + 2)) (.mk (.call 53) [(.v 0), (.v 4)])) (τ.length + 4)) (.one 4) (.seq (.d (.list (fs.map encC)))) [some (.l 12), p1, p2, p3, none, p5, p6] (fs.map encC).length 0 (TS c τ R ++ [.list []]) P := by
 refine compM encC (λ f => [fu (settle f)]) 100 (λ _ _ => rfl) (ret_len (λ _ => aW 1) (aE h1 (by decide))) (λ f m acc K hN hK => ?_) ?_
 · have := lawset_ok (n := n) (l := msF f) (fh (υ := [.list acc]) C rfl) (hw.push (υ := [.list acc])) (R := R) (Q := λ v σ => OW (appendD σ (.l (τ.length + 4)) v) K) (by unfold msF; rw [aG]; exact h3 f m) (λ e he => by obtain ⟨p, _, rfl⟩ := aj.mp he; exact ⟨_, rfl⟩) (by rw [<- has3_eq]; exact w_appc (σ := TS c τ R) (s20 (ab hN)) hK)
   rw [<- encC_msF] at this
   exact this
 · rw [fW, bc]
   rw [bE] at q
   exact q
theorem forms_body {K : Fs} (C : Cl c τ = true) (hw : WS pool A τ) (hv : fg (TS c τ R) v = some (ts.map fZ)) (hl : ts.length <= 3) (hc : ∀ x ∈ ts, x.cs.length <= 2 ∧ ∀ c ∈ x.cs, c.length <= 3) (h4 : (prod (ts.map (·.cs))).length <= 4) (hS : SortTo ((prod (ts.map (·.cs))).map settle) S)
 (k : ∀ ρ, K (.ret (.d (.list S))) ρ (TS c τ R)) :
 fc (OO (n + 2)) f_law_forms.body [some (.l 12), some v, none, none, none, none, none] (TS c τ R) K := by
 refine loopL (v := v) (ps := ts) (γ := List Flat × Option V) fZ (λ _ g => [some (.l 12), some v, some (.d (.list (g.1.map encC))), g.2, none, none, none]) (λ _ _ => TS c τ R) (λ done g => g.1 = forms (done.map (·.cs)) ∧ g.1.length <= 2 ^ done.length ∧ ∀ f ∈ g.1, f.length <= 3 * done.length) ([[]], none) ⟨rfl, aW _, λ f m => by rw [aM.mp m]; exact aW _⟩ (λ _ _ _ => hv) (λ done x rest g K' hp hg kn kr => ?_) λ g hg => ?_
 · obtain ⟨e, l2, l3⟩ := hg
   have hd : done.length <= 2 := by
    have := congrArg bP hp
    rw [aH, am] at this; lia
   obtain ⟨c2, c3⟩ := hc x (by rw [hp]; exact aV _ (.head _))
   have p4 : 2 ^ done.length <= 2 ^ 2 := cy (by decide) hd
   refine lc_two (aE l2 p4) c2 (λ f m => aE (l3 f m) (aE (bm 3 hd) (by decide))) c3 ?_
   refine w_fl C ?_
   refine kn (stepF g.1 x.cs, _) ⟨?_, ?_, λ f m => ?_⟩
   · rw [aU]; exact e ▸ (forms_snoc _ _).symm
   · show (stepF g.1 x.cs).length <= _
     rw [stepF_length, aH]; exact Nat.mul_le_mul l2 c2
   · obtain ⟨h, hm, m⟩ := List.mem_flatMap.mp m
     obtain ⟨d, hd, rfl⟩ := aj.mp m
     rw [aH, aH]
     exact dj (l3 h hm) (c3 d hd)
 · obtain ⟨e, l2, l3⟩ := hg
   rw [forms_eq] at e
   rw [<- e] at h4 hS
   refine lc_set (n := n) C hw h4 (λ f m => aE (l3 f m) (bm 3 hl)) ?_
   refine w_fl C ?_
   refine w_bi (set_ms hS (by rw [aG]; exact h4)) ?_
   exact k _
theorem forms_ok (C : Cl c τ = true) (hw : WS pool A τ) (hv : fg (TS c τ R) v = some (ts.map fZ)) (hl : ts.length <= 3) (hc : ∀ x ∈ ts, x.cs.length <= 2 ∧ ∀ c ∈ x.cs, c.length <= 3) (h4 : (prod (ts.map (·.cs))).length <= 4) (hS : SortTo ((prod (ts.map (·.cs))).map settle) S)
 (q : Q (.d (.list S)) (TS c τ R)) : fY (OO (n + 3)) 54 [.l 12, v] (TS c τ R) Q := by
 refine rg rfl ?_
 refine forms_body (n := n) C hw hv hl hc h4 hS λ ρ => ?_
 exact w_fin C q
end
abbrev Tm := T4 × Int × El
noncomputable abbrev tD (xs : List Tm) : List aA := xs.map λ x => fZ x.1
noncomputable abbrev eD (xs : List Tm) : List aA := xs.map λ x => x.2.2.row
noncomputable def wP : List ST := [
 .ex (.op (.app ()) (.v 4) (.v 7)),
 .ex (.op (.app ()) (.v 5) (.mk (.tup ()) [(.op (.sub ()) (.v 7) (.c (.int 0))), (.v 8)]))]
noncomputable def wRow : List ST :=
 .asgT [7, 8] (.mk (.call 51) [(.v 0), (.v 1)]) ::
 .ite (.and (.op (.cmp .Gt) (.mk (.bi 0) [(.op (.sub ()) (.v 7) (.c (.int 1)))]) (.c (.int 1))) (.op (.cmp .Gt) (.mk (.bi 0) [(.lc false (.v 11) (.one 11) (.ex ()) (.v 4) (.op (.cmp .Gt) (.mk (.bi 0) [(.op (.sub ()) (.v 11) (.c (.int 1)))]) (.c (.int 1))))]) (.c (.int 1)))) [
  .asg 7 (.mk (.call 45) [(.v 1), (.c (.int 2))]),
  .asg 8 (.c (.int 3))] [] :: wP
section
variable {R : List aA} {n m j k : Nat} {u : V} {c : fH} {τ : fE} {O : Orc} {t s : Int} {cs : List Flat} {w : T4} {e : El} {xs : List Tm} {ys : List aA} {d : fH} {r : aA}
theorem cell_at (h : τ[j]? = some (.list ys)) : cellL (TS c τ R) (.l (j + 4)) = some (j + 4, ys) := by
 show (τ[j]?).bind _ = _; rw [h]; rfl
theorem app_at (h : τ[j]? = some (.list ys)) (hl : ys.length <= 2 ^ 20) {τ' : fE} (hs : τ.set j (.list (ys ++ [r])) = τ') : appendD (TS c τ R) (.l (j + 4)) (.d r) = some (TS c τ' R) := by
 show (cellL _ _).bind _ = _
 rw [cell_at h]
 show ck (fits ys) (TS c (τ.set j _) R) = _
 rw [fO hl, hs]; rfl
theorem ed_isU (D : ED R w s e) : decide ((1 : Int) < ((w.cs.map encC).length : Int)) = e.isU := by
 rw [aG, D.len]; exact blt_int 1 _
theorem El.flats (h : El.Ok R e) : e.cs.length <= 2 ∧ ∀ f ∈ e.cs, FlatOk R f := by
 cases h with
 | n _ h => exact ⟨eM 1, λ f m => aM.mp m ▸ h⟩
 | f h => exact ⟨eM 1, λ f m => aM.mp m ▸ h.dc.flat⟩
 | u _ h => obtain ⟨_, _, _, h1, h2⟩ := h; exact ⟨aW 2, aL.mpr ⟨h1.dc.flat, cq.mpr h2.dc.flat⟩⟩
 | l => exact ⟨bA 2, λ f m => nomatch m⟩
theorem row_put {K : Fs} {p0 p1 p2 p3 p6 p9 p10 p11 p12 p13 : Option V} (hx : xs.length <= 10) (hm : m = τ.length + 1 + 4) (D : ED R w s e)
 (k : K .next [p0, p1, p2, p3, some (.l (τ.length + 4)), some (.l m), p6, some (.d (fZ w)), some (.d (.int s)), p9, p10, p11, p12, p13] (TS c (τ ++ [.list (tD (xs ++ [(w, s, e)]))] ++ [.list (eD (xs ++ [(w, s, e)]))]) R)) :
 fc O wP [p0, p1, p2, p3, some (.l (τ.length + 4)), some (.l m), p6, some (.d (fZ w)), some (.d (.int s)), p9, p10, p11, p12, p13] (TS c (τ ++ [.list (tD xs)] ++ [.list (eD xs)]) R) K := by
 subst hm
 have h20 : ∀ f : Tm -> aA, (xs.map f).length <= 2 ^ 20 := λ f => fJ (aE hx (by decide))
 have hr : e.row = .tuple [.int w.t, .int s] := by unfold El.row; rw [D.t, D.s]
 unfold tD eD at k
 rw [aU, aU] at k
 refine w_pre (cell_at (get2a ..)) ?_
 refine w_app (app_at (get2a ..) (h20 _) (set2a ..)) ?_
 refine w_pre (cell_at (get2b ..)) ?_
 refine w_app (app_at (r := .tuple [.int w.t, .int s]) (get2b ..) (h20 _) (set2b ..)) ?_
 rw [<- hr]
 exact k
end
section
variable {υ : fE} {R R' : List aA} {pool nums : List Int} {a n m k : Nat} {A A' : List aA} {v : V} {c : fH} {τ : fE} {O : Orc} {z q p s i : Int} {w : T4} {e : El} {xs : List Tm} {d : fH}
theorem row_lc {P : fE -> Prop} {p0 p1 p2 p3 p4 p5 p6 p7 p8 p9 p10 p11 p12 p13 : Option V} (hx : xs.length <= 10) (hed : ∀ x ∈ xs, ED R x.1 x.2.1 x.2.2) (hv : fg (TS c τ R) v = some (tD xs)) (q : P (TS c (τ ++ [.list ((xs.filter λ x => x.2.2.isU).map λ x => fZ x.1)]) R)) :
 OW ((It.seq v).len (TS c τ R)) λ n => fq (sTurn (evE O (.op (.cmp .Gt) (.mk (.bi 0) [(.op (.sub ()) (.v 11) (.c (.int 1)))]) (.c (.int 1)))) (evE O (.v 11)) (τ.length + 4)) (.one 11) (.seq v) [p0, p1, p2, p3, p4, p5, p6, p7, p8, p9, p10, p11, p12, p13] n 0 (TS c τ R ++ [.list []]) P := by
 refine w_len hv ?_
 refine compM (λ x : Tm => fZ x.1) (λ x => cond x.2.2.isU [fZ x.1] []) 100 (λ acc i => at_seq (seq_push (υ := [.list acc]) hv) i) (ret_len (λ x => by cases x.2.2.isU <;> exact aF rfl) (aE hx (by decide))) (λ x mx acc K hN hK => ?_) ?_
 · have D := hed x mx
   refine w_bi (len_list (fJ (by rw [D.len]; exact aE (El.flats D.ok).1 (by decide)))) ?_
   cases h : x.2.2.isU with
   | true => rw [h] at hK hN; exact cT ((ed_isU D).trans h) (w_appc (s20 (ab hN)) hK)
   | false => rw [h] at hK; exact cF ((ed_isU D).trans h) (aq acc ▸ hK)
 · rw [flat_filter]; exact q
theorem row_turn {K : Fs} {x6 x7 x8 : Option V} (h : Low υ) (hn : nums.length <= 40) (W : World R pool) (hf : R.length + 60 < 2 ^ 20) (hA : A.length <= 600) (hm : m = υ.length + 10 + 1 + 4) (hx : xs.length <= 10) (hed : ∀ x ∈ xs, ED R x.1 x.2.1 x.2.2) (hu : (xs.filter λ x => x.2.2.isU).length <= 2)
 (k : ∀ a' R' A' x x7 x8, Gr R R' 14 -> AG A R' 4 A' -> ED R' x.1 x.2.1 x.2.2 -> ((xs ++ [x]).filter λ x => x.2.2.isU).length <= 2 -> K .next [some (.l 0), some (.l 12), some (.l 13), some (.l 1), some (.l (υ.length + 10 + 4)), some (.l m), x6, x7, x8, none, none, none, none, none] ((TS (fF nums a') (mkT pool A' (υ ++ [.list (tD (xs ++ [x]))] ++ [.list (eD (xs ++ [x]))])) R'))) :
 fc (OO (n + 8)) wRow [some (.l 0), some (.l 12), some (.l 13), some (.l 1), some (.l (υ.length + 10 + 4)), some (.l m), x6, x7, x8, none, none, none, none, none] ((TS (fF nums a) (mkT pool A (υ ++ [.list (tD xs)] ++ [.list (eD xs)])) R)) K := by
 refine element_ok (n := n) (low_push (low_push h _) _) hn W hf hA λ a₁ R₁ A₁ w s e g ag D => ?_
 have hed' : ∀ x ∈ xs, ED R₁ x.1 x.2.1 x.2.2 := λ x m => (hed x m).pre g.pre
 have cnt : ∀ x : Tm, ((xs ++ [x]).filter λ x => x.2.2.isU).length = (xs.filter λ x => x.2.2.isU).length + (cond x.2.2.isU 1 0) := λ x => by
  rw [ey, aH]
  refine congrArg (_ + ·) ?_
  cases h : x.2.2.isU with
  | true => exact congrArg bP (List.filter_cons_of_pos (p := λ x : Tm => x.2.2.isU) h)
  | false => exact congrArg bP (List.filter_cons_of_neg (p := λ x : Tm => x.2.2.isU) (bY.mp h))
 have put := λ {w s e} (D : ED R₁ w s e) (hu : ((xs ++ [(w, s, e)]).filter λ x => x.2.2.isU).length <= 2) => row_put (K := K) (O := OO (n + 8)) (τ := mkT pool A₁ υ) (c := fF nums a₁) hx hm D (k a₁ R₁ A₁ (w, s, e) (some (.d (fZ w))) (some (.d (.int s))) g ag D hu)
 refine w_bi (len_list (fJ (by rw [D.len]; exact aE (El.flats D.ok).1 (by decide)))) ?_
 cases hU : e.isU with
 | false =>
  refine cF ((ed_isU D).trans hU) ?_
  refine cF ((ed_isU D).trans hU) ?_
  refine kfl_step (K' := K) ?_
  exact put D (by rw [cnt]; show _ + cond e.isU 1 0 <= 2; rw [hU]; exact hu)
 | true =>
  refine cT ((ed_isU D).trans hU) ?_
  have C := ls_cl (nums := nums) (a := a₁) (pool := pool) (A := A₁) (low_push (low_push h (tD xs)) (eD xs))
  refine row_lc (v := .l (υ.length + 10 + 4)) (c := fF nums a₁) (τ := mkT pool A₁ (υ ++ [.list (tD xs)] ++ [.list (eD xs)])) hx hed' (by show (((υ ++ [fH.list (tD xs)] ++ [fH.list (eD xs)])[υ.length]?).bind cL) = _; rw [get2a]; rfl) ?_
  refine w_fl (τ := mkT pool A₁ (υ ++ [.list (tD xs)] ++ [.list (eD xs)])) C ?_
  have fl : (xs.filter λ x => x.2.2.isU).length <= 10 := aE (bn ..) hx
  refine w_bi (len_list (fJ (aE fl (by decide)))) ?_
  have b1 : decide ((1 : Int) < (((xs.filter λ x => x.2.2.isU).map λ x => fZ x.1).length : Int)) = au 1 (xs.filter λ x => x.2.2.isU).length := (blt_int 1 _).trans (congrArg (au 1) (aG ..))
  cases c : au 1 (xs.filter λ x => x.2.2.isU).length with
  | true =>
   refine cT (b1.trans c) ?_
   have D2 := (mem_td (W.gr g) (k := 2) (by decide)).1.ed
   refine member_ok (n := n + 6) C ws_mk W.plen (k := 2) (by decide) ?_
   refine kfl_step (K' := K) ?_
   exact put D2 (by rw [cnt]; exact hu)
  | false =>
   refine cF (b1.trans c) ?_
   refine kfl_step (K' := K) ?_
   exact put D (by rw [cnt]; show _ + cond e.isU 1 0 <= 2; rw [hU]; exact bG (Nat.not_lt.mp λ z => bY.mp c (a9.mpr z)))
end
section
variable {υ σ : fE} {R R' : List aA} {pool nums : List Int} {a n m k : Nat} {A A' : List aA} {c : fH} {z p y i ro got : Int} {ids : List Int} {cs : List Flat} {S : List Ms} {e : El} {xs : List Tm} {d : fH} {r : aA}
theorem prod_congr {α : Type} {f g : α -> List Flat} : ∀ {xs : List α}, (∀ x ∈ xs, ∀ c, c ∈ f x ↔ c ∈ g x) -> ∀ y, y ∈ prod (xs.map f) ↔ y ∈ prod (xs.map g)
 | [], _, y => Iff.rfl
 | x :: r, h, y => by
  have ih := prod_congr (xs := r) λ z m => h z (.tail _ m)
  exact mem_prod_cons.trans ((exists_congr λ c => and_congr (h x (.head _) c) (exists_congr λ b => and_congr_left λ _ => ih b)).trans mem_prod_cons.symm)
theorem flat_const {α β : Type} {g : α -> List β} {k : Nat} (h : ∀ a, (g a).length = k) : ∀ l : List α, (l.flatMap g).length = l.length * k
 | [] => (Nat.zero_mul _).symm
 | a :: r => by rw [bX, aH, flat_const h r, h, am, Nat.succ_mul, cC]
theorem prod_count : ∀ L : List (List Flat), (∀ c ∈ L, c.length <= 2) -> (prod L).length <= 2 ^ (L.filter λ c => au 1 c.length).length
 | [], _ => aW _
 | c :: r, h => by
  have ih := prod_count r λ d m => h d (.tail _ m)
  have e : (prod (c :: r)).length = c.length * (prod r).length := flat_const (g := λ f => (prod r).map (f ++ ·)) (λ f => aG ..) c
  rw [e]
  cases hb : au 1 c.length with
  | true =>
   rw [List.filter_cons_of_pos (p := λ c : List Flat => au 1 c.length) hb, am, Nat.pow_succ, Nat.mul_comm]
   exact Nat.mul_le_mul ih (h c (.head _))
  | false =>
   rw [List.filter_cons_of_neg (p := λ c : List Flat => au 1 c.length) (bY.mp hb)]
   exact aE (Nat.mul_le_mul_right _ (Nat.not_lt.mp λ z => bY.mp hb (a9.mpr z))) (by rw [Nat.one_mul]; exact ih)
theorem okX_is (n : Nat) : ∀ X : List Int, okXs (X.map aS) n = true
 | [] => rfl
 | _ :: r => okX_is n r
theorem okX_M (n : Nat) : ∀ l : Ms, okXs (l.map encM) (n + 2) = true
 | [] => rfl
 | e :: r => fP (fP (okX_is _ e.1) rfl) (okX_M n r)
theorem okX_Ms : ∀ S : List Ms, okXs (S.map fu) 7 = true
 | [] => rfl
 | m :: r => fP (okX_M 4 m) (okX_Ms r)
theorem cmp_same (S : List Ms) : cmpD σ .Eq (.d (.list (S.map fu))) (.d (.list (S.map fu))) = some true := by
 have e : eqDs (S.map fu) (S.map fu) = true := by
  rw [enc_Ms.eqs, Std.ReflCmp.compare_self (cmp := cr cM)]; rfl
 show ck (okXs (S.map fu) 7 && okXs (S.map fu) 7) (eqDs (S.map fu) (S.map fu)) = _
 rw [okX_Ms, e]; rfl
theorem row_same (G : Good R) (hed : ∀ x ∈ xs, ED R x.1 x.2.1 x.2.2) (hg : Got R ro got (SS (xs.map (·.2.2))) 2) :
 ∃ S : List Ms, ∃ ids : List Int, Atoms R got ids ∧ ids.length <= 4 ∧ (∀ i ∈ ids, Lst R ro i (msOf R i)) ∧ sortD ((ids.map (msOf R)).map fu) = some (S.map fu) ∧ SortTo ((prod ((xs.map (·.1)).map (·.cs))).map settle) (S.map fu) := by
 cases hg with
 | @mk ids ha hne hl hp hb =>
  have hmem : ∀ f, f ∈ prod ((xs.map (·.2.2)).map El.cs) ↔ f ∈ prod ((xs.map (·.1)).map (·.cs)) := λ f => by
   rw [bE, bE]
   exact prod_congr (λ x m c => (hed x m).cs c) f
  have hM : ∀ ms, ms ∈ SS (xs.map (·.2.2)) ↔ ms ∈ (prod ((xs.map (·.1)).map (·.cs))).map settle := λ ms => aj.trans ((exists_congr λ f => and_congr_left λ _ => hmem f).trans aj.symm)
  have hL : ∀ i ∈ ids, Lst R ro i (msOf R i) := λ i m => by
   obtain ⟨ms, _, h⟩ := hb.l i m
   exact (msOf_eq h).symm ▸ h
  have nd : (ids.map (msOf R)).Nodup := List.pairwise_map.mpr (hp.imp_of_mem λ {a b} ma mb hab e => Int.ne_of_lt hab (lst_inj G (hL a ma) (hL b mb) e))
  have mem : ∀ x, x ∈ ids.map (msOf R) ↔ x ∈ (prod ((xs.map (·.1)).map (·.cs))).map settle := λ x => (Iff.intro (λ m => by
   obtain ⟨i, hi, rfl⟩ := aj.mp m
   obtain ⟨ms, h1, h2⟩ := hb.l i hi
   exact (msOf_eq h2).symm ▸ h1) λ m => by
   obtain ⟨i, hi, h⟩ := hb.r x m
   exact aj.mpr ⟨i, hi, msOf_eq h⟩).trans (hM x)
  have l4 : (ids.map (msOf R)).length <= 4 := by rw [aG]; exact hl
  obtain ⟨S, hS⟩ := sort_to nd mem l4
  exact ⟨S, ids, ha, hl, hL, hS _ nd mem l4, hS⟩
theorem row_loop {K : Fs} (h : Low υ) (hn : nums.length <= 40) (W : World R pool) (hf : R.length + 1000 < 2 ^ 20) (hA : A.length <= 500) (hm : m = υ.length + 10 + 1 + 4) (z0 : 0 <= z) (z3 : z < 3)
 (k : ∀ a' R' A' xs x6 x7 x8, Gr R R' 42 -> AG A R' 12 A' -> xs.length <= 3 -> (∀ x ∈ xs, ED R' x.1 x.2.1 x.2.2) -> (xs.filter λ x => x.2.2.isU).length <= 2 -> K .next [some (.l 0), some (.l 12), some (.l 13), some (.l 1), some (.l (υ.length + 10 + 4)), some (.l m), x6, x7, x8, none, none, none, none, none] ((TS (fF nums a') (mkT pool A' (υ ++ [.list (tD xs)] ++ [.list (eD xs)])) R'))) :
 OW (itOf ((TS (fF nums a) (mkT pool A (υ ++ [.list []] ++ [.list []])) R)) (.d (.int (1 + z))) (.range ())) λ it => OW (it.len ((TS (fF nums a) (mkT pool A (υ ++ [.list []] ++ [.list []])) R))) λ n' => evLoop (fc (OO (n + 8)) wRow) (.one 6) it n' 0 [some (.l 0), some (.l 12), some (.l 13), some (.l 1), some (.l (υ.length + 10 + 4)), some (.l m), none, none, none, none, none, none, none, none] ((TS (fF nums a) (mkT pool A (υ ++ [.list []] ++ [.list []])) R)) K := by
 obtain ⟨c, hc⟩ : ∃ c : Nat, 1 + z = (c : Int) := ⟨(1 + z).toNat, by lia⟩
 have hc3 : c <= 3 := by lia
 refine loopNz (ps := bo c ()) (γ := (Nat × List aA × List aA) × List Tm × Option V × Option V × Option V) (by rw [bN]; exact hc) (by rw [bN]; exact aE hc3 (by decide)) (λ _ g => [some (.l 0), some (.l 12), some (.l 13), some (.l 1), some (.l (υ.length + 10 + 4)), some (.l m), g.2.2.1, g.2.2.2.1, g.2.2.2.2, none, none, none, none, none]) (λ _ g => (TS (fF nums g.1.1) (mkT pool g.1.2.2 (υ ++ [.list (tD g.2.1)] ++ [.list (eD g.2.1)])) g.1.2.1))
  (λ done g => Gr R g.1.2.1 (14 * done.length) ∧ AG A g.1.2.1 (4 * done.length) g.1.2.2 ∧ g.2.1.length = done.length ∧ (∀ x ∈ g.2.1, ED g.1.2.1 x.1 x.2.1 x.2.2) ∧ (g.2.1.filter λ x => x.2.2.isU).length <= 2) ((a, R, A), [], none, none, none) ⟨.refl W.good, .refl, rfl, (λ _ m => nomatch m), bA _⟩ (λ done p rest g K' hp hg kn' kr => ?_) λ g hg => ?_
 rotate_left
 · obtain ⟨g1, ag, l, hx, hu⟩ := hg
   rw [bN] at g1 ag l
   exact k _ _ _ _ _ _ _ (g1.mono (bm 14 hc3)) (ag.mono (bm 4 hc3)) (l ▸ hc3) hx hu
 obtain ⟨g1, ag, l, hx, hu⟩ := hg
 have hd : done.length + 1 <= 3 := by
  have := congrArg bP hp
  rw [bN, aH, am] at this; lia
 have gl := g1.len
 have al := ag.len
 refine row_turn (n := n) (a := g.1.1) (A := g.1.2.2) (xs := g.2.1) h hn (W.gr g1) (by lia) (by lia) hm (by lia) hx hu λ a' R' A' x x7 x8 g2 ag2 D hu' => ?_
 exact kn' ((a', R', A'), g.2.1 ++ [x], _, x7, x8) ⟨by rw [aH]; exact g1.trans g2, by rw [aH]; exact ag.trans ag2 g2.pre, by show (g.2.1 ++ [x]).length = _; rw [aH, aH, l]; rfl, λ z m => (ae.mp m).elim (λ m => (hx z m).pre g2.pre) λ m => aM.mp m ▸ D, hu'⟩
end
section
variable {υ : fE} {R R' : List aA} {pool nums : List Int} {a n m j k : Nat} {A : List aA} {u v : V} {c : fH} {τ : fE} {O : Orc} {o y ro got : Int} {ids : List Int} {cs : List Flat} {S : List Ms} {ts : List T4} {w : T4} {e : El} {xs : List Tm} {d : fH}
theorem row_count (hed : ∀ x ∈ xs, ED R x.1 x.2.1 x.2.2) (hu : (xs.filter λ x => x.2.2.isU).length <= 2) : (prod ((xs.map (·.1)).map (·.cs))).length <= 4 := by
 refine aE (prod_count _ λ c m => ?_) (show _ <= 2 ^ 2 from cy (by decide) ?_)
 · obtain ⟨w, hw, rfl⟩ := aj.mp m
   obtain ⟨x, hx, rfl⟩ := aj.mp hw
   rw [(hed x hx).len]; exact (El.flats (hed x hx).ok).1
 · rw [List.filter_map, aG, List.filter_map, aG]
   refine aE (c8 (congrArg bP (List.filter_congr λ x m => ?_))) hu
   show au 1 x.1.cs.length = _
   rw [(hed x m).len]; rfl
noncomputable def lB : List ST := [.ite (.op (.cmp .GtE) (.op (.sub ()) (.v 7) (.c (.int 3))) (.c (.int 0))) [.ret (.op (.cmp .Eq) (.v 10) (.op (.sub ()) (.v 7) (.c (.int 3))))] []]
theorem row_lost {K : Fs} {p0 p1 p2 p3 p5 p6 x7 p8 p9 p11 p12 p13 : Option V} (hv : fg (TS c τ R) (.l j) = some (tD xs)) (hed : ∀ x ∈ xs, ED R x.1 x.2.1 x.2.2) (hres : ∀ y, xs.findSome? (λ x => x.2.2.lost) = some y -> got = y) (kr : ∀ ρ, K (.ret (.d (.bool true))) ρ (TS c τ R)) (kn : ∀ x7, xs.findSome? (λ x => x.2.2.lost) = none -> K .next [p0, p1, p2, p3, some (.l j), p5, p6, x7, p8, p9, some (.d (.int got)), p11, p12, p13] (TS c τ R)) :
 OW ((It.seq (.l j)).len (TS c τ R)) λ n => evLoop (fc O lB) (.one 7) (.seq (.l j)) n 0 [p0, p1, p2, p3, some (.l j), p5, p6, x7, p8, p9, some (.d (.int got)), p11, p12, p13] (TS c τ R) K := by
 refine loopL (ps := xs) (γ := Option V) (λ x => fZ x.1) (λ _ g => [p0, p1, p2, p3, some (.l j), p5, p6, g, p8, p9, some (.d (.int got)), p11, p12, p13]) (λ _ _ => TS c τ R) (λ done _ => done.findSome? (λ x => x.2.2.lost) = none) x7 rfl (λ _ _ _ => hv) (λ done x rest g K' hp hg kn' kr' => ?_) λ g hg => kn g hg
 have D := hed x (by rw [hp]; exact aV _ (.head _))
 have hl := D.lost
 cases h : x.2.2.lost with
 | none =>
  rw [h] at hl
  exact cF (c := decide ((0 : Int) <= x.1.lost)) (decide_eq_false (by rw [hl]; decide)) (kn' (some (.d (fZ x.1))) (by rw [eV, hg, List.findSome?_cons, h]; rfl))
 | some y =>
  rw [h] at hl
  have hy : y ∈ [2, 13] := by
   have ok := D.ok
   generalize x.2.2 = e at ok h
   cases ok with
   | n => exact nomatch h
   | f => exact nomatch h
   | u => exact nomatch h
   | l _ m => obtain rfl := aY h; exact m
  have y0 : (0 : Int) <= x.1.lost := by
   rw [hl]
   exact (by decide : ∀ y ∈ [(2 : Int), 13], 0 <= y) y hy
  have e : got = x.1.lost := (hres y (by rw [hp, eV, hg, List.findSome?_cons, h]; rfl)).trans hl.symm
  refine cT (c := decide ((0 : Int) <= x.1.lost)) (decide_eq_true y0) (kr' _ _ _ ?_)
  show K (.ret (.d (.bool (decide (got = x.1.lost))))) _ _
  rw [decide_eq_true e]; exact kr _
theorem row_end {K : Fs} {x6 x7 x8 : Option V} (h : Low υ) (hn : nums.length <= 40) (W : World R pool) (hf : R.length + 900 < 2 ^ 20) (hm : m = υ.length + 10 + 1 + 4) (hx : xs.length <= 3) (hed : ∀ x ∈ xs, ED R x.1 x.2.1 x.2.2) (hu : (xs.filter λ x => x.2.2.isU).length <= 2)
 (k : ∀ ρ a' R', Gr R R' 83 -> K (.ret (.d (.bool true))) ρ ((TS (fF nums a') (mkT pool A (υ ++ [.list (tD xs)] ++ [.list (eD xs)])) R'))) :
 fc (OO (n + 13)) (f_law_row_right.body.drop 4) [some (.l 0), some (.l 12), some (.l 13), some (.l 1), some (.l (υ.length + 10 + 4)), some (.l m), x6, x7, x8, none, none, none, none, none] ((TS (fF nums a) (mkT pool A (υ ++ [.list (tD xs)] ++ [.list (eD xs)])) R)) K := by
 refine take_ok (n := n + 12) (low_push (low_push h _) _) hn (k := 2) (by decide) λ ro r0 r2 => ?_
 have C := ls_cl (nums := nums) (a := a + 1) (pool := pool) (A := A) (low_push (low_push h (tD xs)) (eD xs))
 have hvA : ∀ R, fg ((TS (fF nums (a + 1)) (mkT pool A (υ ++ [.list (tD xs)] ++ [.list (eD xs)])) R)) (.l (υ.length + 10 + 4)) = some (tD xs) := λ R => by show (((υ ++ [fH.list (tD xs)] ++ [fH.list (eD xs)])[υ.length]?).bind cL) = _; rw [get2a]; rfl
 have hvB : fg ((TS (fF nums (a + 1)) (mkT pool A (υ ++ [.list (tD xs)] ++ [.list (eD xs)])) R)) (.l m) = some ((xs.map (·.2.2)).map El.row) := by
  subst hm
  show (((υ ++ [fH.list (tD xs)] ++ [fH.list (eD xs)])[υ.length + 1]?).bind cL) = _
  rw [get2b, bE]; rfl
 refine splice_ok 2 (aW 2) (n := n) (τ := mkT pool A (υ ++ [.list (tD xs)] ++ [.list (eD xs)])) C ls_ht W.good W.base (show R.length + 83 + 300 <= 2 ^ 20 by lia) hvB (λ o m => by obtain ⟨x, hx, rfl⟩ := aj.mp m; exact (hed x hx).ok) (by rw [aG]; exact hx) (by rw [List.filter_map, aG]; exact hu) λ R₂ got g res => ?_
 have W2 := W.gr g
 have hed2 : ∀ x ∈ xs, ED R₂ x.1 x.2.1 x.2.2 := λ x m => (hed x m).pre g.pre
 have gl : R₂.length <= R.length + 83 := g.len
 unfold Res at res
 rw [List.findSome?_map] at res
 have kk := λ ρ => k ρ (a + 1) R₂ g
 refine row_lost (τ := mkT pool A (υ ++ [.list (tD xs)] ++ [.list (eD xs)])) (hvA R₂) hed2 (λ y hy => ?_) (λ ρ => ?_) λ x7 hno => ?_
 · rcases res with e | ⟨e, _⟩
   · exact aY (e.symm.trans hy)
   · exact nomatch e.symm.trans hy
 · exact kk ρ
 · rcases res with e | ⟨_, hg⟩
   · exact nomatch e.symm.trans hno
   · obtain ⟨S, ids, h1, h2, h3, h4, h5⟩ := row_same W2.good hed2 hg
     refine seen_ok (n := n + 11) C (fO (by lia)) h1 h3 h2 h4 ?_
     refine forms_ok (n := n + 10) (ts := xs.map (·.1)) C ws_mk (by rw [hvA, bE]; rfl) (by rw [aG]; exact hx) (λ w m => ?_) (row_count hed2 hu) h5 ?_
     · obtain ⟨x, hx, rfl⟩ := aj.mp m
       have D := hed2 x hx
       exact ⟨by rw [D.len]; exact (El.flats D.ok).1, λ c hc => ((El.flats D.ok).2 c ((D.cs c).mpr hc)).len⟩
     · exact w_cmp (cmp_same S) (kk _)
end
section
variable {υ : fE} {R R' : List aA} {pool nums : List Int} {a n k : Nat} {A A' : List aA} {Q : Ps} {τ : fE}
theorem row_body {K : Fs} (h : Low υ) (hn : nums.length <= 40) (W : World R pool) (hf : R.length + 1000 < 2 ^ 20) (hA : A.length <= 500)
 (k : ∀ ρ a' R' A' υ', Gr R R' 130 -> AG A R' 12 A' -> K (.ret (.d (.bool true))) ρ ((TS (fF nums a') (mkT pool A' (υ ++ υ')) R'))) :
 fc (OO (n + 13)) f_law_row_right.body [some (.l 0), some (.l 12), some (.l 13), none, none, none, none, none, none, none, none, none, none, none] ((TS (fF nums a) (mkT pool A υ) R)) K := by
 refine w_tab (pool := pool) (A := A) ws_mk ?_
 refine take_ok (n := n + 12) (υ := υ ++ [.list []] ++ [.list []]) (low_push (low_push h _) _) hn (k := 3) (by decide) λ y y0 y3 => ?_
 have hm : (υ ++ [fH.list []]).length + 10 + 4 = υ.length + 10 + 1 + 4 := congrArg (· + 14) aH
 refine row_loop (n := n + 5) h hn W hf hA hm y0 y3 λ a' R' A' xs x6 x7 x8 g ag hx hed hu => ?_
 have gl := g.len
 refine kfl_step (K' := K) ?_
 refine row_end (n := n) h hn (W.gr g) (by lia) hm hx hed hu λ ρ a₂ R₂ g₂ => ?_
 have := k ρ a₂ R₂ A' ([.list (tD xs)] ++ [.list (eD xs)]) ((g.trans g₂).mono (by decide)) (ag.trans (.refl (n := 0)) g₂.pre)
 rw [<- aw] at this
 exact this
theorem row_ok (h : Low υ) (hn : nums.length <= 40) (W : World R pool) (hf : R.length + 1000 < 2 ^ 20) (hA : A.length <= 500)
 (q : ∀ a' R' A', Gr R R' 130 -> AG A R' 12 A' -> Q (.d (.bool true)) ((TS (fF nums a') (mkT pool A' υ) R'))) : fY (OO (n + 14)) 57 [.l 0, .l 12, .l 13] ((TS (fF nums a) (mkT pool A υ) R)) Q := by
 refine rg rfl ?_
 refine row_body (n := n) h hn W hf hA λ ρ a' R' A' υ' g ag => ?_
 exact w_fina (τ := mkT pool A' υ) (ls_cl h) (q a' R' A' g ag)
end
section
variable {R : List aA} {nums : List Int} {a n m i j k : Nat} {Q : Ps} {v : V} {c : fH} {τ : fE} {row : aA} {b d e : List aA}
theorem base_ok : ∀ r ∈ base, okK 8 r = true := aT.mp (by decide +kernel)
theorem base_nodup : base.Nodup := List.Pairwise.imp_of_mem (λ {a b} ha _ e hab => bO (e.symm.trans ((eqD_true (base_ok a ha)).mpr hab))) (distinct_iff (show distinct base = true by decide +kernel))
theorem base_good : Good base := ⟨base_ok, base_nodup⟩
theorem put_b (C : Cl c τ = true) (h : base[i]? = some row) (q : Q (.d (.int (i : Int))) (TS c τ (base.take (i + 1)))) : fY (OO (n + 1)) 1 [.l 1, .d row] (TS c τ (base.take i)) Q := by
 have hi : i < base.length := (aR.mp h).1
 have hl : (base.take i).length = i := List.length_take_of_le (bt hi)
 have ok := base_ok row (a7 h)
 refine put_new C (ci (aE (c8 hl) (bt hi)) (show base.length < 2 ^ 20 by decide +kernel)) ok ?_ ?_
 · rcases look_ix (k := row) ok (base.take i) 0 with ⟨_, h2⟩ | ⟨j, h1, _⟩
   · exact h2
   · have hj : j < i := hl ▸ (aR.mp h1).1
     rw [e8 hj] at h1
     exact absurd ((List.getElem?_inj (cU hj hi) base_nodup).mp (h1.trans h.symm)) (dy hj)
 · rw [hl, show base.take i ++ [row] = base.take (i + 1) by rw [List.take_add_one, h]; rfl]; exact q
noncomputable abbrev tb (b d e : List aA) : fE := [.list [.none], .list b, .list d, .list e, .dict [], .dict []]
theorem tb_cl : Cl (fF nums a) (tb b d e) = true := rfl
theorem init_loop {K : Fs} (k : ∀ ρ, K .next ρ (TS (fF nums a) (tb [] [] []) (base.take 16))) : OW ((It.seq (.d k_FIRST_ROWS)).len (TS (fF nums a) (tb [] [] []) [])) λ m => evLoop (fc (OO (n + 1)) [.ex (.meth (.v 0) 0 [(.v 1)])]) (.one 1) (.seq (.d k_FIRST_ROWS)) m 0 [some (.l 1), none] (TS (fF nums a) (tb [] [] []) []) K := by
 refine loopL (ps := base.take 16) (γ := Option V) (λ x => x) (λ _ g => [some (.l 1), g]) (λ done _ => TS (fF nums a) (tb [] [] []) (base.take done.length)) (λ _ _ => True) none trivial (λ _ _ _ => rfl) (λ done row rest g K' hp hg kn kr => ?_) λ g hg => k _
 have h : (base.take 16)[done.length]? = some row := by rw [hp, bg (aW _), dN]; rfl
 have hi : done.length < 16 := bx (aR.mp h).1 (List.length_take_le ..)
 rw [e8 hi] at h
 refine put_b (n := n) tb_cl h ?_
 have := kn (some (.d row)) trivial
 rw [aH] at this
 exact this
theorem init_sets : runM (n + 2) 0 [.l 1] [fF nums a, .inst 0 []] Q = fc (OO (n + 1)) (f_TypeTable_init.body.drop 10) [some (.l 1), none] (TS (fF nums a) (tb [] [] []) []) (kend Q) := by
 kernel_rfl
theorem init_ok (q : Q (.d .none) (TS (fF nums a) (tb [] [] []) (base.take 16))) : runM (n + 2) 0 [.l 1] [fF nums a, .inst 0 []] Q := by
 rw [init_sets]
 exact init_loop (n := n) λ ρ => q
theorem brand_ok (s : String) (C : Cl c τ = true) (q : Q (.d (brandRow s)) (TS c τ R)) : fY (OO (n + 1)) 42 [v, .d (kS s)] (TS c τ R) Q := rg rfl <| w_fin C q
theorem param_apps {K : Fs} {O : Orc} : fc O f_new_param.body [some (.l 1), some (.d (kS "T")), some (.d (.int (-1))), some (.d (.int (-1))), none] (TS (fF nums a) (tb [] [] []) R) K = fc O (f_new_param.body.drop 4) [some (.l 1), some (.d (kS "T")), some (.d (.int (-1))), some (.d (.int (-1))), some (.d (.int 0))] (TS (fF nums a) (tb [.int (-1)] [.int (-1)] [kS "T"]) R) K := by
 kernel_rfl
theorem param_body {K : Fs} (k : ∀ ρ, K (.ret (.d (.int 19))) ρ (TS (fF nums a) (tb [.int (-1)] [.int (-1)] [kS "T"]) base)) : fc (OO (n + 1)) f_new_param.body [some (.l 1), some (.d (kS "T")), some (.d (.int (-1))), some (.d (.int (-1))), none] (TS (fF nums a) (tb [] [] []) (base.take 19)) K := by
 rw [param_apps]
 exact put_b (n := n) (i := 19) (τ := tb [.int (-1)] [.int (-1)] [kS "T"]) tb_cl rfl (k _)
theorem param_ok (q : Q (.d (.int 19)) (TS (fF nums a) (tb [.int (-1)] [.int (-1)] [kS "T"]) base)) : fY (OO (n + 2)) 9 [.l 1, .d (kS "T"), .d (.int (-1)), .d (.int (-1))] (TS (fF nums a) (tb [] [] []) (base.take 19)) Q := by
 refine rg rfl ?_
 refine param_body (n := n) λ ρ => ?_
 have e := w_fin (Q := λ p => Q p.1 p.2) (c := fF nums a) (τ := tb [.int (-1)] [.int (-1)] [kS "T"]) (R := base) tb_cl q
 exact e
theorem reach_all : ([0, 1, 2, 3, 4, 5, 6, 7, 8, 9, 10, 11, 12, 13, 14].all λ b => [1, 2, 4, 7, 8, 11, 13, 14].all λ s => [0, 1, 2, 3, 4, 5, 6, 7, 8, 9, 10, 11, 12, 13, 14].all λ k => [0, 1, 2, 3, 4, 5, 6, 7, 8, 9, 10, 11, 12, 13, 14].any λ l => decide ((b + l * s) % 15 = k)) = true := by decide +kernel
end
noncomputable abbrev P1 : fE := tb [.int (-1)] [.int (-1)] [kS "T"]
noncomputable def gB : List ST := [
 .asg 11 (.op (.bin .Mod) (.op (.bin .Add) (.v 7) (.op (.bin .Mult) (.v 10) (.v 8))) (.c (.int 15))),
 .setI (.v 9) (.v 11) (.meth (.v 1) 0 [(.op (.sub ()) (.v 6) (.v 11))])]
inductive Filled (R : List aA) (pool : List Int) (k : Nat) : Prop
 | mk {t : Int} {r : aA} : pool[k]? = some t -> laid[k]? = some r -> fN R t = some r -> Filled R pool k
section
variable {σ : fE} {R R' : List aA} {pool nums : List Int} {a n i j k b s : Nat} {c : fH} {row : aA} {xs : List aA} {t z : Int}
theorem laid_ok : ∀ r ∈ laid, okK 8 r = true := aT.mp (by decide +kernel)
theorem mul_nat (hi : i <= 1000) (hs : s <= 1000) : binD σ .Mult (.d (.int (i : Int))) (.d (.int (s : Int))) = some (.d (.int ((i : Int) * (s : Int)))) := by
 have h : ∀ {n : Nat}, n <= 1000 -> small (n : Int) = true := λ h => dA.mpr (aE h (by decide))
 show ck (small (i : Int) && small (s : Int)) _ = _
 rw [h hi, h hs]; rfl
theorem pool_set (hl : pool.length = 15) (hk : k < 15) (hz : z = (k : Int)) : setID (TS c (P1 ++ [.list (pool.map .int)]) R) (.l 10) (.d (.int z)) (.d (.int t)) = some (TS c (P1 ++ [.list ((pool.set k t).map .int)]) R) := by
 subst hz
 show ck (decide (0 <= (k : Int)) && decide ((k : Int) < ((pool.map aS).length : Int)) && fits (pool.map .int)) (TS c (P1 ++ [.list ((pool.map aS).set k (.int t))]) R) = _
 rw [decide_eq_true (bj k), decide_eq_true (by rw [aG, hl]; lia : (k : Int) < ((pool.map aS).length : Int)), fO (fJ (by rw [hl]; decide)), List.map_set]; rfl
theorem fill_loop {K : Fs} {p0 p2 p3 p4 p5 : Option V} (hb : b < 15) (hs : s < 15)
 (k : ∀ R pool x10 x11, Gr base R 15 -> pool.length = 15 -> (∀ l, l < 15 -> Filled R pool ((b + l * s) % 15)) -> K .next [p0, some (.l 1), p2, p3, p4, p5, some (.d (.tuple laid)), some (.d (.int (b : Int))), some (.d (.int (s : Int))), some (.l 10), x10, x11, none, none, none, none] (TS (fF nums a) (P1 ++ [.list (pool.map .int)]) R)) :
 OW (itOf (TS (fF nums a) (P1 ++ [.list ((bo 15 (0 : Int)).map .int)]) base) (.d (.int 15)) (.range ())) λ it => OW (it.len (TS (fF nums a) (P1 ++ [.list ((bo 15 (0 : Int)).map .int)]) base)) λ n' => evLoop (fc (OO (n + 1)) gB) (.one 10) it n' 0 [p0, some (.l 1), p2, p3, p4, p5, some (.d (.tuple laid)), some (.d (.int (b : Int))), some (.d (.int (s : Int))), some (.l 10), none, none, none, none, none, none] (TS (fF nums a) (P1 ++ [.list ((bo 15 (0 : Int)).map .int)]) base) K := by
 refine loopNz (ps := bo 15 ()) (γ := (List aA × List Int) × Option V × Option V) rfl (aF rfl) (λ _ g => [p0, some (.l 1), p2, p3, p4, p5, some (.d (.tuple laid)), some (.d (.int (b : Int))), some (.d (.int (s : Int))), some (.l 10), g.2.1, g.2.2, none, none, none, none]) (λ _ g => TS (fF nums a) (P1 ++ [.list (g.1.2.map .int)]) g.1.1)
  (λ done g => Gr base g.1.1 done.length ∧ g.1.2.length = 15 ∧ ∀ l, l < done.length -> Filled g.1.1 g.1.2 ((b + l * s) % 15)) ((base, bo 15 0), none, none) ⟨.refl base_good, rfl, λ l h => absurd h (Nat.not_lt_zero _)⟩ (λ done p rest g K' hp hg kn kr => ?_) λ g hg => k _ _ _ _ hg.1 hg.2.1 hg.2.2
 obtain ⟨g1, pl, fl⟩ := hg
 have hd : done.length < 15 := by
  have := congrArg bP hp
  rw [bN, aH, am] at this; lia
 have gl : g.1.1.length <= 20 + done.length := g1.len
 obtain ⟨j, hj⟩ : ∃ j, (b + done.length * s) % 15 = j := ⟨_, rfl⟩
 have j15 : j < 15 := hj ▸ Nat.mod_lt _ (by decide)
 have hz : ((b : Int) + (done.length : Int) * (s : Int)) % 15 = (j : Int) := by rw [<- hj]; exact (congrArg (λ x : Int => ((b : Int) + x) % 15) (Int.natCast_mul done.length s).symm).trans (by lia)
 obtain ⟨row, hr⟩ : ∃ row, laid[j]? = some row := ⟨_, aO (show j < laid.length from j15)⟩
 refine w_bin (mul_nat (aE (bt hd) (by decide)) (aE (bt hs) (by decide))) ?_
 refine fM (fv (xs := laid) (r := row) rfl rfl (rowAt_iff.mpr ⟨by rw [hz]; exact bj j, by rw [hz]; exact hr⟩)) ?_
 have C : Cl (fF nums a) (P1 ++ [.list (g.1.2.map .int)]) = true := rfl
 refine put_ok (n := n) C g1.good (by lia) (laid_ok row (a7 hr)) λ R' t g2 h2 => ?_
 refine w_setI (pool_set pl j15 hz) ?_
 refine kn ((R', g.1.2.set j t), _, _) ⟨by rw [aH]; exact g1.trans g2, by show (g.1.2.set j t).length = 15; rw [List.length_set]; exact pl, λ l hl => ?_⟩
 rw [aH] at hl
 by_cases e : (b + l * s) % 15 = j
 · rw [e]
   exact .mk (List.getElem?_set_self (by rw [pl]; exact j15)) hr h2
 · have hl' : l < done.length := Nat.lt_of_le_of_ne (Nat.le_of_lt_succ hl) λ z => e (z ▸ hj)
   cases fl l hl' with
   | mk q1 q2 q3 => exact .mk ((List.getElem?_set_ne (Ne.symm e)).trans q1) q2 (fK g2.pre q3)
end
noncomputable abbrev wT (pool : List Int) : fE := P1 ++ [.list (pool.map .int), .list [], .dict wKV]
section
variable {σ : fE} {R : List aA} {pool nums : List Int} {a n m i k b s : Nat} {Q : Ps} {u v : V} {c : fH} {τ : fE} {xs : List aA} {t z : Int}
theorem str_b (s : String) (h : base[i]? = some (.tuple [.int 3, kS s, .int 0])) (q : Q (.d (.int (i : Int))) (TS (fF nums a) (tb [] [] []) (base.take (i + 1)))) : fY (OO (n + 2)) 2 [.l 1, .d (kS s)] (TS (fF nums a) (tb [] [] []) (base.take i)) Q :=
 rg rfl <| put_b (n := n) tb_cl h <| w_fin tb_cl q
theorem num_b (h : base[i]? = some (.tuple [.int 4, .int 1, .int 0])) (q : Q (.d (.int (i : Int))) (TS (fF nums a) (tb [] [] []) (base.take (i + 1)))) : fY (OO (n + 2)) 3 [.l 1, .d (.int 1)] (TS (fF nums a) (tb [] [] []) (base.take i)) Q :=
 rg rfl <| put_b (n := n) tb_cl h <| w_fin tb_cl q
theorem zeros {O : Orc} {P : fE -> Prop} {p0 p1 p2 p3 p4 p5 p6 p7 p8 : Option V} (hl : xs.length <= 100) (q : P (TS c (P1 ++ [.list (xs.flatMap λ _ => [.int 0])]) R)) :
 fq (sTurn (evE O (.c (.bool true))) (evE O (.c (.int 0))) 10) (.one 13) (.seq (.d (.tuple xs))) [p0, p1, p2, p3, p4, p5, p6, p7, p8, none, none, none, none, none, none, none] xs.length 0 (TS c P1 R ++ [.list []]) P :=
 comp (σ := TS c P1 R) (ps := xs) (t := .one 13) (λ x => x) (λ _ => [.int 0]) 100 (λ _ i => congrArg (λ l : List aA => some l[i]?) (List.map_id xs).symm) (ret_len (λ _ => aW 1) hl) (λ p m acc K hN hK => w_appc (σ := TS c P1 R) (s20 (ab hN)) hK) q
theorem world_new {K : Fs} : fc (OO (n + 3)) f_law_world.body [some (.l 0), none, none, none, none, none, none, none, none, none, none, none, none, none, none, none] [fF nums 0] K = runM (n + 3) 0 [.l 1] [fF nums 0, .inst 0 []] λ v σ => OW ((dataOf v).bind λ x => ck (isNoneD x) ()) λ _ => fc (OO (n + 3)) (f_law_world.body.drop 1) [some (.l 0), some (.l 1), none, none, none, none, none, none, none, none, none, none, none, none, none, none] σ K := by
 kernel_rfl
theorem world_end {K : Fs} (hn : nums.length <= 40) (b15 : b < 15) (k : ∀ R pool ρ, World R pool -> R.length <= 35 -> K (.ret (.l 12)) ρ (TS (fF nums 2) (wT pool) R)) (hx : laid = xs) :
 fc (OO (n + 3)) (f_law_world.body.drop 7) [some (.l 0), some (.l 1), some (.d (.int 16)), some (.d (.int 17)), some (.d (.int 18)), some (.d (.int 19)), some (.d (.tuple xs)), some (.d (.int (b : Int))), none, none, none, none, none, none, none, none] (TS (fF nums 1) P1 base) K := by
 refine take_gen (n := n + 2) (τ := P1) tb_cl hn (k := 8) (by decide) λ z z0 z8 => ?_
 obtain ⟨x, hx8, e⟩ := at_mem (l := [1, 2, 4, 7, 8, 11, 13, 14]) z0 z8
 obtain ⟨s, rfl, hs⟩ : ∃ s : Nat, x = (s : Int) ∧ s ∈ ([1, 2, 4, 7, 8, 11, 13, 14] : List Nat) := by
  obtain ⟨s, hs, e⟩ := aj.mp (show x ∈ List.map (λ n : Nat => (n : Int)) [1, 2, 4, 7, 8, 11, 13, 14] from hx8)
  exact ⟨s, e.symm, hs⟩
 have s15 : s < 15 := (by decide : ∀ s ∈ ([1, 2, 4, 7, 8, 11, 13, 14] : List Nat), s < 15) s hs
 refine fM (fv (u := .d (.tuple ([1, 2, 4, 7, 8, 11, 13, 14].map .int))) (xs := [1, 2, 4, 7, 8, 11, 13, 14].map .int) rfl (fO (aF rfl)) e) ?_
 refine zeros (by rw [<- hx]; exact aF rfl) ?_
 subst hx
 refine fill_loop (n := n + 2) (a := 2) b15 s15 λ R pool x10 x11 g pl fl => ?_
 refine k R pool _ ⟨g.good, g.pre, pl, λ k hk r hr => ?_⟩ g.len
 have h1 := aT.mp (aT.mp (aT.mp reach_all b (b7.mpr b15)) s hs) k (b7.mpr hk)
 obtain ⟨l, hl, e⟩ := bW.mp h1
 have f := fl l (b7.mp hl)
 rw [of_decide_eq_true e] at f
 cases f with
 | mk q1 q2 q3 =>
  obtain rfl := aY (q2.symm.trans (rowAt_iff.mp hr).2)
  unfold pa
  rw [az, q1]; exact q3
theorem world_body {K : Fs} (hn : nums.length <= 40) (k : ∀ R pool ρ, World R pool -> R.length <= 35 -> K (.ret (.l 12)) ρ (TS (fF nums 2) (wT pool) R)) :
 fc (OO (n + 3)) f_law_world.body [some (.l 0), none, none, none, none, none, none, none, none, none, none, none, none, none, none, none] [fF nums 0] K := by
 rw [world_new]
 refine init_ok (n := n + 1) ?_
 refine str_b (n := n + 1) (i := 16) "a" rfl ?_
 refine str_b (n := n + 1) (i := 17) "b" rfl ?_
 refine num_b (n := n + 1) (i := 18) rfl ?_
 refine param_ok (n := n + 1) ?_
 refine brand_ok (n := n + 2) "brand" (τ := P1) tb_cl ?_
 refine brand_ok (n := n + 2) "other" (τ := P1) tb_cl ?_
 refine take_gen (n := n + 2) (τ := P1) tb_cl hn (k := 15) (by decide) λ y y0 y15 => ?_
 obtain ⟨b, rfl⟩ : ∃ b : Nat, y = (b : Int) := ⟨y.toNat, (Int.toNat_of_nonneg y0).symm⟩
 refine kfl_step (K' := K) ?_
 exact world_end (n := n) hn (Int.ofNat_lt.mp y15) k rfl
end
section
variable {σ : fE} {R : List aA} {pool nums : List Int} {a n m k : Nat} {A : List aA} {Q : Ps} {v : V} {c : fH} {τ : fE} {t p : Int} {f : Flat}
theorem ne_same : cmpD σ .NotEq (.d (encC f)) (.d (encC f)) = some false := by
 rw [encC_msF]
 have e : eqDs ((msF f).map encM) ((msF f).map encM) = true := by
  rw [enc_M.eqs, Std.ReflCmp.compare_self (cmp := cr cP)]; rfl
 show (ck (okXs ((msF f).map encM) 7 && okXs ((msF f).map encM) 7) (eqDs ((msF f).map encM) ((msF f).map encM))).map (!·) = _
 rw [okX_M, e]; rfl
noncomputable def aB : List ST := [
 .ite (.op (.cmp .NotEq) (.mk (.call 31) [(.op (.sub ()) (.v 2) (.c (.str (aD "tab")))), (.v 5)]) (.v 6)) [
  .ret (.c (.bool false))] [],
 .ite (.op (.cmp .NotEq) (.lc false (.mk (.tup ()) [(.mk (.tup ()) [(.v 8)]), (.v 9)]) (.many [8, 9]) (.ex ()) (.mk (.call 32) [(.op (.sub ()) (.v 2) (.c (.str (aD "tab")))), (.mk (.tup ()) [(.v 5), (.c (.int 3))])]) (.c (.bool true))) (.v 7)) [
  .ret (.c (.bool false))] []]
theorem asked_lc {O : Orc} {P : fE -> Prop} {p0 p1 p2 p3 p4 p5 p6 p7 p8 p9 p10 : Option V} (hl : f.length <= 3) (q : P (TS c (τ ++ [.list (f.map encFE)]) R)) :
 fq (sTurn (evE O (.c (.bool true))) (evE O (.mk (.tup ()) [(.mk (.tup ()) [(.v 8)]), (.v 9)])) (τ.length + 4)) (.many [8, 9]) (.seq (.d (.list (f.map encE)))) [p0, p1, p2, p3, p4, p5, p6, p7, p8, p9, p10] (f.map encE).length 0 (TS c τ R ++ [.list []]) P := by
 refine compM encE (λ e => [encFE e]) 100 (λ _ _ => rfl) (ret_len (λ _ => aW 1) (aE hl (by decide))) (λ e m acc K hN hK => w_appc (s20 (ab hN)) hK) ?_
 rw [fW]; exact q
theorem asked_turn {K : Fs} {x0 x1 x3 x4 : Option V} (C : Cl c τ = true) (hw : WS pool A τ) (hf : fits R = true) (h1 : LpOk R t p) (h2 : Cut R t f) (h3 : f.length <= 3) (k : K .next [x0, x1, some (.l 12), x3, x4, some (.d (.int t)), some (.d (.int p)), some (.d (encC f)), none, none, none] (TS c τ R)) :
 fc (OO (n + 4)) aB [x0, x1, some (.l 12), x3, x4, some (.d (.int t)), some (.d (.int p)), some (.d (encC f)), none, none, none] (TS c τ R) K := by
 refine w_tab hw ?_
 refine lp_ok (n := n + 1) C hf h1 ?_
 refine cF (c := !decide (p = p)) (congrArg (!·) (decide_eq_true rfl)) ?_
 refine w_tab hw ?_
 refine cut_ok (n := n) C hf h2 ?_
 refine asked_lc h3 ?_
 refine w_fl C ?_
 exact w_cmp ne_same k
end
section
variable {R R' : List aA} {pool nums : List Int} {a n k : Nat} {A A' : List aA} {v : V} {c : fH} {t z p : Int}
theorem law_rows {K : Fs} {p0 : Option V} (hn : nums.length <= 40) (W : World R pool) (hf : R.length <= 1000) (z0 : 0 <= z) (z1 : z <= 2)
 (k : ∀ a' R' A' x4, Gr R R' 260 -> AG [] R' 24 A' -> K .next [p0, some (.l 0), some (.l 12), some (.l 13), x4, none, none, none, none, none, none] ((TS (fF nums a') (mkT pool A' []) R'))) :
 OW (itOf ((TS (fF nums a) (mkT pool [] []) R)) (.d (.int z)) (.range ())) λ it => OW (it.len ((TS (fF nums a) (mkT pool [] []) R))) λ n' => evLoop (fc (OO (n + 14)) [.ite (.not (.mk (.call 57) [(.v 1), (.v 2), (.v 3)])) [.ret (.c (.bool false))] []]) (.one 4) it n' 0 [p0, some (.l 0), some (.l 12), some (.l 13), none, none, none, none, none, none, none] ((TS (fF nums a) (mkT pool [] []) R)) K := by
 obtain ⟨c, rfl⟩ : ∃ c : Nat, z = (c : Int) := ⟨z.toNat, by lia⟩
 have hc : c <= 2 := by lia
 refine loopNz (ps := bo c ()) (γ := (Nat × List aA × List aA) × Option V) (by rw [bN]) (by rw [bN]; exact aE hc (by decide)) (λ _ g => [p0, some (.l 0), some (.l 12), some (.l 13), g.2, none, none, none, none, none, none]) (λ _ g => (TS (fF nums g.1.1) (mkT pool g.1.2.2 []) g.1.2.1))
  (λ done g => Gr R g.1.2.1 (130 * done.length) ∧ AG [] g.1.2.1 (12 * done.length) g.1.2.2) ((a, R, []), none) ⟨.refl W.good, .refl⟩ (λ done p rest g K' hp hg kn kr => ?_) λ g hg => ?_
 · obtain ⟨g1, ag⟩ := hg
   have hd : done.length + 1 <= 2 := by
    have := congrArg bP hp
    rw [bN, aH, am] at this; lia
   have gl := g1.len
   have al := ag.len
   refine row_ok (n := n) rfl hn (W.gr g1) (by lia) (aE al (by rw [eg, bB]; lia)) λ a' R' A' g2 ag2 => ?_
   exact kn ((a', R', A'), _) ⟨by rw [aH]; exact g1.trans g2, by rw [aH]; exact ag.trans ag2 g2.pre⟩
 · rw [bN] at hg
   exact k _ _ _ _ (hg.1.mono (bm 130 hc)) (hg.2.mono (bm 12 hc))
theorem law_asked {K : Fs} {p0 x4 : Option V} (W : World R pool) (hf : fits R = true) (hA : ∀ y ∈ A, AskOk R y)
 (k : ∀ x5 x6 x7, K .next [p0, some (.l 0), some (.l 12), some (.l 13), x4, x5, x6, x7, none, none, none] ((TS (fF nums a) (mkT pool A []) R))) :
 OW ((It.seq (.l 11)).len ((TS (fF nums a) (mkT pool A []) R))) λ n' => evLoop (fc (OO (n + 4)) aB) (.many [5, 6, 7]) (.seq (.l 11)) n' 0 [p0, some (.l 0), some (.l 12), some (.l 13), x4, none, none, none, none, none, none] ((TS (fF nums a) (mkT pool A []) R)) K := by
 refine loopL (ps := A) (γ := Option V × Option V × Option V) (λ x => x) (λ _ g => [p0, some (.l 0), some (.l 12), some (.l 13), x4, g.1, g.2.1, g.2.2, none, none, none]) (λ _ _ => (TS (fF nums a) (mkT pool A []) R)) (λ _ _ => True) (none, none, none) trivial (λ _ _ _ => congrArg some (List.map_id A).symm) (λ done x rest g K' hp hg kn kr => ?_) λ g hg => k _ _ _
 have hx := hA x (by rw [hp]; exact aV _ (.head _))
 cases hx with
 | mk h1 h2 h3 => exact asked_turn (n := n) (ls_cl rfl) ws_mk hf h1 h2 h3 (kn (_, _, _) trivial)
theorem law_pool {K : Fs} {p0 x4 x5 x6 x7 : Option V} (W : World R pool) (hf : fits R = true)
 (k : ∀ x5, K .next [p0, some (.l 0), some (.l 12), some (.l 13), x4, x5, x6, x7, none, none, none] ((TS (fF nums a) (mkT pool A []) R))) :
 OW ((It.seq (.l 10)).len ((TS (fF nums a) (mkT pool A []) R))) λ n' => evLoop (fc (OO (n + 4)) [.ite (.op (.cmp .NotEq) (.mk (.call 31) [(.op (.sub ()) (.v 2) (.c (.str (aD "tab")))), (.v 5)]) (.v 5)) [.ret (.c (.bool false))] []]) (.one 5) (.seq (.l 10)) n' 0 [p0, some (.l 0), some (.l 12), some (.l 13), x4, x5, x6, x7, none, none, none] ((TS (fF nums a) (mkT pool A []) R)) K := by
 refine loopL (ps := pool) (γ := Option V) .int (λ _ g => [p0, some (.l 0), some (.l 12), some (.l 13), x4, g, x6, x7, none, none, none]) (λ _ _ => (TS (fF nums a) (mkT pool A []) R)) (λ _ _ => True) x5 trivial (λ _ _ _ => rfl) (λ done t rest g K' hp hg kn kr => ?_) λ g hg => k _
 have hd : done.length < 15 := by
  have := congrArg bP hp
  rw [W.plen, aH, am] at this; lia
 have e : pa pool done.length = t := by
  unfold pa
  rw [hp, az, bg (aW _), dN]; rfl
 refine w_tab (pool := pool) (A := A) ws_mk ?_
 refine lp_ok (n := n + 1) (ls_cl rfl) hf (e ▸ (pool_ok W hd).lp) ?_
 exact cF (c := !decide (t = t)) (congrArg (!·) (decide_eq_true rfl)) (kn _ trivial)
end
section
variable {σ : fE} {R R' : List aA} {pool nums : List Int} {a n k : Nat} {A A' : List aA} {Q : Ps} {τ : fE} {xs : List aA} {t z p : Int} {f : Flat}
theorem law_after {K : Fs} {p0 : Option V} (hn : nums.length <= 40) (W : World R pool) (hR : R.length <= 35) (k : ∀ ρ σ, K (.ret (.d (.bool true))) ρ σ) :
 fc (OO 39) (f_law.body.drop 3) [p0, some (.l 0), some (.l 12), some (.l 13), none, none, none, none, none, none, none] ((TS (fF nums 2) (mkT pool [] []) R)) K := by
 have hm : (nums.map aS).length <= 2 ^ 20 := fJ (s20 (aE hn (by decide)))
 refine w_nums ?_
 refine w_bi (len_list hm) ?_
 rw [aG]
 refine law_rows (n := 25) hn W (by lia) (z := 1 + min ((nums.length : Int) / 16) 1) (by lia) (by lia) λ a' R' A' x4 g ag => ?_
 have gl := g.len
 have W1 := W.gr g
 refine kfl_step (K' := K) ?_
 refine meet_ok (n := 35) rfl hn W1 (by lia) (aE ag.len (by decide)) λ a₂ R₂ A₂ x t f g2 ag2 td dc => ?_
 have gl2 := g2.len
 have W2 := W1.gr g2
 have hf2 : fits R₂ = true := fO (by lia)
 have ask : ∀ y ∈ A₂, AskOk R₂ y := by
  cases ag.trans ag2 g2.pre with
  | mk _ h => exact h
 refine w_asked (pool := pool) (A := A₂) ws_mk ?_
 refine law_asked (n := 35) W2 hf2 ask λ x5 x6 x7 => ?_
 refine kfl_step (K' := K) ?_
 refine w_pool (pool := pool) (A := A₂) ws_mk ?_
 refine law_pool (n := 35) W2 hf2 λ x5 => ?_
 exact k _ _
theorem law_host {K : Fs} {p0 : Option V} {P : Prop} (hn : nums.length <= 40) (W : World R pool) (hR : R.length <= 35) (k : ∀ ρ σ, K (.ret (.d (.bool true))) ρ σ) (e : P = fc (OO 39) (f_law.body.drop 3) [p0, some (.l 0), some (.l 12), some (.l 13), none, none, none, none, none, none, none] ((TS (fF nums 2) (mkT pool [] []) R)) K) : P := e ▸ law_after hn W hR k
theorem world_ok (hn : nums.length <= 40) (q : ∀ R pool, World R pool -> R.length <= 35 -> Q (.l 12) (TS (fF nums 2) (wT pool) R)) : fY (OO (n + 4)) 43 [.l 0] [fF nums 0] Q := by
 refine rg rfl ?_
 refine world_body (n := n) hn λ R pool ρ W hR => ?_
 have e := ow (o := fin 1 (.l 12) (TS (fF nums 2) (wT pool) R)) (Q := λ p => Q p.1 p.2) (a := (.l 12, TS (fF nums 2) (wT pool) R)) rfl (q R pool W hR)
 exact e
theorem law_body {K : Fs} {xs : List Int} (hx : xs.length <= 63) (k : ∀ ρ σ, K (.ret (.d (.bool true))) ρ σ) :
 fc (OO 39) f_law.body [some (.d (.list (xs.map .int))), none, none, none, none, none, none, none, none, none, none] [] K := by
 refine w_slc (xs := xs.map .int) (ys := (xs.take 40).map .int) (fJ (aE hx (by decide))) (by rw [show (some 40 : Option Int) = some ((40 : Nat) : Int) from rfl, cut_hi, dR]) ?_
 have hn : (xs.take 40).length <= 40 := List.length_take_le ..
 generalize xs.take 40 = nums at hn
 refine world_ok (n := 35) hn λ R pool W hR => ?_
 refine w_tab (pool := pool) (A := []) (τ := wT pool) ⟨rfl, rfl, rfl⟩ ?_
 refine law_host (p0 := some (.d (.list (xs.map .int)))) (R := R) (pool := pool) (K := K) hn W hR k ?_
 kernel_rfl
theorem law_true (xs : List Int) (hx : xs.length <= 63) (q : ∀ σ, Q (.d (.bool true)) σ) : runN prg 40 58 [.d (.list (xs.map .int))] [] Q := by
 have h : fc (OO 39) f_law.body [some (.d (.list (xs.map .int))), none, none, none, none, none, none, none, none, none, none] [] (kend Q) := law_body hx λ ρ σ => q σ
 exact Eq.mpr (by kernel_rfl : runN prg 40 58 [.d (.list (xs.map .int))] [] Q = fc (OO 39) f_law.body [some (.d (.list (xs.map .int))), none, none, none, none, none, none, none, none, none, none] [] (kend Q)) h
end
end Mine.Law
namespace Mine.H
open PySem PySem.W PySem.Calls PyProof.Rows
section
set_option maxRecDepth 100000
noncomputable abbrev pg : eZ := PySem.Challenge.rw_xw0127_01.row.toRowW.prog
noncomputable abbrev bd : List Stmt := behindTheImports pg
noncomputable def nth : List Stmt -> Nat -> Stmt
 | [], _ => default
 | s :: _, 0 => s
 | _ :: r, n + 1 => nth r n
noncomputable def st (i : Nat) : Stmt := nth bd i
noncomputable def sb (i j : Nat) : Stmt := match st i with
 | .ClassDef _ _ _ b _ _ _ _ _ _ _ => nth b j
 | s => s
noncomputable def tp (vs : List aJ) : Obj := { cls := .type "tuple", data := .seq vs.toArray }
noncomputable def E : Obj := tp []
noncomputable def fd (c : aJ) (vs : List aJ) : Obj := { cls := c, data := .fields vs.toArray }
noncomputable def fl (vs : List aJ) : Obj := fd .none vs
noncomputable def fr (l : List (Option aJ)) : Obj := { cls := .type "frame", data := .plain, slots := l.toArray }
noncomputable def ss : Nat -> List Str -> List aJ
 | _, [] => []
 | t, x :: r => .str x t :: ss (t + 1) r
noncomputable def c3 : List (Int × Nat) -> List aJ
 | [] => []
 | (l, a) :: r => .int l 0 :: .int (if l == 7 || l == 12 then 4 else 0) 0 :: .ref a :: c3 r
noncomputable def ks (P : bQ) : List (Str × Nat × aJ) -> List bC
 | [] => []
 | (x, t, v) :: r => ⟨eL P x, .str x t, v⟩ :: ks P r
noncomputable def dc (P : bQ) (l : List (Str × Nat × aJ)) (n : Nat) : Obj := { cls := .type "dict", data := .dict (ks P l).toArray n }
noncomputable def ki : List (Int × Nat × aJ) -> List bC
 | [] => []
 | (x, t, v) :: r => ⟨x, .int x t, v⟩ :: ki r
noncomputable def dci (l : List (Int × Nat × aJ)) (n : Nat) : Obj := { cls := .type "dict", data := .dict (ki l).toArray n }
noncomputable def ty (x : Str) (b m : List aJ) (a : av) (s : List aJ) (l : List (Option aJ)) : Obj := { cls := .type "type", data := .cls { name := x, qualname := x, bases := b, mro := m, ns := a, subclasses := s }, slots := l.toArray }
noncomputable def locs : List (Str × dF) -> List Str
 | [] => []
 | (x, .local) :: r => x :: locs r
 | _ :: r => locs r
noncomputable def df (s : Stmt) (ql : Str) (a t : Nat) (v : Bool) (m d : aJ) : List Obj := match s with
 | .FunctionDef name args body _ _ _ scope _ _ pos =>
  let vs := locs scope.names
  let k := match v with | true => vs.length | false => 0
  let r := match v with | true => a + 4 | false => a + 2
  let f := λ (g : av) (d m c : aJ) => Data.func { name, qualname := ql, params := args, body := .stmts body, scope, globals := g, closure := [], defaults := d, kwdefaults := .none, pyModule := m, code := c }
  let V := λ i => match v with | true => aJ.ref (a + i) | false => .none
  E :: fl [] :: ((match v with | true => [tp (ss (t + 3) vs), E] | false => []) ++ [{ cls := .none, data := f 0 .none .none .none },
   fd (.type "code") [.str name t, .str ql (t + 1), .str "/claim/cut.py" (t + 2), .int pos.line 0, .int args.args.length 0, .int 0 0, .int 0 0, .int 3 0, .ref a, .bool true, .int 181 0, .ref (a + 1), .none, V 2, V 3, .ref r, .int (t + 3 + k : Nat) 0, .int pos.line 0, .str "/claim/cut.py" (t + 4 + k)],
   { cls := .type "function", data := f 3 d m (.ref (r + 1)) }])
 | _ => []
noncomputable def CS : List aJ := c3 ([(1, 20), (5, 27), (10, 48), (56, 98), (82, 134), (84, 142), (86, 150), (88, 157), (94, 164), (104, 171), (115, 177), (123, 185), (129, 192), (136, 199), (145, 206), (150, 213), (154, 220), (158, 227), (163, 232), (180, 239), (182, 246), (184, 251), (190, 256), (195, 261), (211, 268), (219, 275), (225, 282), (234, 289), (245, 294), (252, 299), (268, 306), (273, 314), (290, 321), (305, 328), (309, 335), (311, 342), (326, 347), (343, 354), (354, 361), (362, 368), (367, 375), (372, 382), (379, 387), (390, 394), (397, 401), (421, 408), (483, 555), (493, 588), (498, 595), (501, 602)] ++ [(512, 609), (518, 616), (537, 657), (542, 664), (544, 669), (559, 676), (561, 681), (570, 686), (585, 691), (595, 698), (599, 705), (610, 712), (620, 719), (641, 724), (646, 729), (667, 734), (672, 741), (674, 746), (687, 751), (704, 756)])
noncomputable abbrev G := List (Str × Nat × aJ)
noncomputable def gs0 : G := [("__doc__", 166, .none), ("__package__", 167, .none), ("__loader__", 168, .builtin "__main__.__loader__#opaque"), ("__spec__", 169, .none), ("__annotations__", 170, .ref 6), ("__builtins__", 171, .ref 4), ("__file__", 173, .str "/claim/cut.py" 172), ("__cached__", 174, .none), ("_wall", 193, .ref 21), ("KeepError", 226, .ref 39), ("TooDeep", 255, .ref 60), ("Y_KEY", 259, .int 1 258), ("Y_BOOL", 261, .int 2 260), ("Y_STR", 263, .int 3 262), ("Y_NUM", 265, .int 4 264), ("Y_ENUM", 267, .int 5 266), ("Y_UNION", 269, .int 6 268), ("Y_INTER", 271, .int 7 270), ("Y_OBJ", 273, .int 8 272), ("Y_REF", 275, .int 9 274), ("Y_PARAM", 277, .int 10 276), ("Y_ARRAY", 279, .int 11 278), ("Y_TUPLE", 281, .int 12 280), ("Y_SIG", 283, .int 13 282), ("Y_KEYOF", 285, .int 14 284), ("Y_INDEX", 287, .int 15 286), ("Y_COND", 289, .int 16 288), ("Y_MAPPED", 291, .int 17 290), ("Y_TPL", 293, .int 18 292), ("Y_ALIAS", 295, .int 19 294)]
noncomputable def gs1 : G := [("ANY", 297, .int 0 296), ("UNKNOWN", 299, .int 1 298), ("NEVER", 301, .int 2 300), ("UNDEF", 303, .int 4 302), ("NULLT", 305, .int 5 304), ("STRING", 307, .int 6 306), ("NUMBER", 309, .int 7 308), ("FALSE_T", 311, .int 8 310), ("TRUE_T", 313, .int 9 312), ("ERR", 315, .int 13 314), ("FRESH_F", 317, .int 14 316), ("FRESH_T", 319, .int 15 318), ("P_OPT", 321, .int 1 320), ("E_NEED", 323, .int 0 322), ("E_OPT", 325, .int 1 324), ("E_REST", 327, .int 2 326), ("E_SPREAD", 329, .int 3 328), ("MAX_UNION", 331, .int 400 330), ("FIRST_ROWS", 353, .ref 85), ("MARKED_ROWS", 354, .ref 86), ("KID_SPANS", 370, .ref 87), ("TypeTable", 425, .ref 123), ("str_type", 435, .ref 135), ("num_type", 445, .ref 143), ("array_type", 455, .ref 151), ("last_mark", 465, .ref 158), ("needed_to_last", 478, .ref 165), ("one_rest", 492, .ref 172), ("tuple_type", 499, .ref 178), ("new_param", 514, .ref 186)]
noncomputable def gs2 : G := [("parts_of", 523, .ref 193), ("whole_of_row", 531, .ref 200), ("regular_twin", 540, .ref 207), ("join_bools", 547, .ref 214), ("stays_beside", 556, .ref 221), ("top_of", 564, .ref 228), ("union", 570, .ref 233), ("add_undef", 578, .ref 240), ("index_kids", 585, .ref 247), ("sig_kids", 591, .ref 252), ("object_kids", 597, .ref 257), ("row_kids", 603, .ref 262), ("row_binds", 610, .ref 269), ("inner_kids", 620, .ref 276), ("reached", 631, .ref 283), ("row_free", 643, .ref 290), ("free_round", 649, .ref 295), ("free_params", 655, .ref 300), ("has_params", 663, .ref 307), ("MOST_CROSSED", 667, .int 200 666), ("OPEN_KINDS", 668, .ref 308), ("is_open", 680, .ref 315), ("unit_word", 689, .ref 322), ("key_text", 697, .ref 329), ("glue", 705, .ref 336), ("hole_pieces", 718, .ref 343), ("cross_holes", 724, .ref 348), ("one_template", 736, .ref 355), ("tpl_kind", 748, .ref 362), ("MOST_ELEMS", 752, .int 10000 751)]
noncomputable def gs3 : G := [("kindsplice_spread_kind", 761, .ref 369), ("union_places", 770, .ref 376), ("kindsplice_list_part", 780, .ref 383), ("cut_open", 786, .ref 388), ("splice_union", 800, .ref 395), ("splice", 814, .ref 402), ("MOST_ROUNDS", 818, .int 200 817), ("MOST_SHAPES", 820, .int 40 819), ("Thin", 1006, .ref 545), ("RefHost", 1048, .ref 580), ("find_prop", 1057, .ref 589), ("read_type", 1065, .ref 596), ("table_read", 1078, .ref 603), ("put_name", 1086, .ref 610), ("NameHost", 1140, .ref 648), ("_law_base", 1168, .ref 651), ("_law_take", 1178, .ref 658), ("_law_brand", 1186, .ref 665), ("_law_world", 1192, .ref 670), ("_law_stays", 1200, .ref 677), ("_law_member", 1206, .ref 682), ("_law_met", 1212, .ref 687), ("_law_meet", 1218, .ref 692), ("_law_plain", 1226, .ref 699), ("_law_joined", 1238, .ref 706), ("_law_under", 1256, .ref 713), ("_law_element", 1269, .ref 720), ("_law_union", 1275, .ref 725), ("_law_settled", 1281, .ref 730), ("_law_forms", 1287, .ref 735)]
noncomputable def gs4 : G := [("_law_atoms", 1295, .ref 742), ("_law_seen", 1301, .ref 747), ("_law_row_right", 1307, .ref 752), ("law", 1313, .ref 757)]
noncomputable def GS : G := gs0 ++ (gs1 ++ (gs2 ++ (gs3 ++ (gs4))))
noncomputable def m0 : aJ := .str "__main__" 164
noncomputable def m1 : aJ := .str "kindkeep.diags" 194
noncomputable def m2 : aJ := .str "kindkeep.types" 256
noncomputable def m3 : aJ := .str "kindkeep.kindtpl" 664
noncomputable def m4 : aJ := .str "kindkeep.kindsplice" 749
noncomputable def m5 : aJ := .str "kindkeep.hosts" 815
noncomputable def m6 : aJ := .str "kindkeep.keyhost" 1066
noncomputable def m7 : aJ := .str "law_xw0127_01" 1141
noncomputable def ob0 (P : bQ) (n c : Nat) : List Obj := [E, fl (CS.take c), fd (.type "code") [.str "<module>" 182, .str "<module>" 183, .str "/claim/cut.py" 184, .int 1 0, .int 0 0, .int 0 0, .int 0 0, .int 0 0, .ref 11, .bool false, .int 181 0, .ref 12, .none, .none, .none, .none, .int 185 0, .int 1 0, .str "/claim/cut.py" 186], fr [some (.ref 13), some (.ref 3), some (.ref 3), none, some (.str "__main__" 164), none, some (.ref 0)]] ++ (
 df (st 0) "_wall" 15 187 true m0 (.none) ++ (
 [tp [.type "Exception"], fd (.type "builtin_function_or_method") [.builtin "type.__prepare__", .type "type"], dc P [("__module__", 203, .str "kindkeep.diags" 194), ("__qualname__", 205, .str "KeepError" 204), ("__firstlineno__", 207, .int 5 206), ("__init__", 216, .ref 36), ("__static_attributes__", 219, .ref 37)] 5, E, fd (.none) [.int 7 0, .int 4 0, .ref 35], fd (.type "code") [.str "KeepError" 198, .str "KeepError" 199, .str "/claim/cut.py" 200, .int 5 0, .int 0 0, .int 0 0, .int 0 0, .int 0 0, .ref 25, .bool false, .int 181 0, .ref 26, .none, .none, .none, .none, .int 201 0, .int 5 0, .str "/claim/cut.py" 202], fr [some (.ref 27), some (.ref 3), some (.ref 24), none, some (.str "kindkeep.diags" 194), none, some (.ref 0)], tp [.str "" 208]] ++ (
 df (sb 2 0) "KeepError.__init__" 30 209 true m1 (.ref 29) ++ (
 [tp (ss 217 ["number", "text"]), dc P [("__module__", 203, .str "kindkeep.diags" 194), ("__firstlineno__", 207, .int 5 206), ("__init__", 216, .ref 36), ("__static_attributes__", 219, .ref 37), ("__weakref__", 221, .ref 40), ("__doc__", 222, .none)] 3, ty "KeepError" [.type "Exception"] [.ref 39, .type "Exception", .type "BaseException", .type "object"] 38 (if bV 63 n then [.ref 60] else []) [some (.ref 22), none, some (.str "KeepError" 196), some (.str "KeepError" 204), some (.builtin "Exception.__new__"), some (.bool true)], fd (.type "getset_descriptor") [.str "__weakref__" 220, .ref 39, .builtin "ExceptionGroup.__weakref__", .none], fd (.type "super") [.ref 39, .ref 39, .ref 39], fd (.type "builtin_function_or_method") [.builtin "object.__init_subclass__", .ref 39], tp [.ref 39], fd (.type "builtin_function_or_method") [.builtin "type.__prepare__", .type "type"], dc P [("__module__", 234, .str "kindkeep.diags" 194), ("__qualname__", 236, .str "TooDeep" 235), ("__firstlineno__", 238, .int 10 237), ("__init__", 249, .ref 57), ("__static_attributes__", 252, .ref 58)] 5, E, fd (.none) [.int 12 0, .int 4 0, .ref 56], fd (.type "code") [.str "TooDeep" 229, .str "TooDeep" 230, .str "/claim/cut.py" 231, .int 10 0, .int 0 0, .int 0 0, .int 0 0, .int 0 0, .ref 46, .bool false, .int 181 0, .ref 47, .none, .none, .none, .none, .int 232 0, .int 10 0, .str "/claim/cut.py" 233], fr [some (.ref 48), some (.ref 3), some (.ref 45), none, some (.str "kindkeep.diags" 194), none, some (.ref 0)], tp [.int 2589 239, .str "" 240]] ++ (
 df (sb 3 0) "TooDeep.__init__" 51 241 true m1 (.ref 50) ++ (
 [tp (ss 250 ["number", "text"]), dc P [("__module__", 234, .str "kindkeep.diags" 194), ("__firstlineno__", 238, .int 10 237), ("__init__", 249, .ref 57), ("__static_attributes__", 252, .ref 58), ("__doc__", 253, .none)] 2, ty "TooDeep" [.ref 39] [.ref 60, .ref 39, .type "Exception", .type "BaseException", .type "object"] 59 ([]) [some (.ref 43), none, some (.str "TooDeep" 227), some (.str "TooDeep" 235), some (.builtin "Exception.__new__"), some (.bool true)], fd (.type "super") [.ref 60, .ref 60, .ref 60], fd (.type "builtin_function_or_method") [.builtin "object.__init_subclass__", .ref 60], tp [.int 1 258, .str "any" 332], tp [.int 1 258, .str "unknown" 333], tp [.int 1 258, .str "never" 334], tp [.int 1 258, .str "void" 335], tp [.int 1 258, .str "undefined" 336], tp [.int 1 258, .str "null" 337], tp [.int 1 258, .str "string" 338], tp [.int 1 258, .str "number" 339], tp [.int 2 260, .int 0 340, .int 0 341], tp [.int 2 260, .int 1 342, .int 0 343], tp [.int 1 258, .str "object" 344], E, E, E, E, E, tp [.int 8 272, .ref 74, .ref 75, .ref 76, .ref 77, .ref 78, .int 0 345], tp [.int 8 346, .int 9 347], tp [.int 6 268, .ref 80], tp [.int 1 258, .str "error" 348], tp [.int 2 260, .int 0 349, .int 1 350], tp [.int 2 260, .int 1 351, .int 1 352], tp [.ref 63, .ref 64, .ref 65, .ref 66, .ref 67, .ref 68, .ref 69, .ref 70, .ref 71, .ref 72, .ref 73, .ref 79, .ref 81, .ref 82, .ref 83, .ref 84], tp [.int 2 260, .int 3 262, .int 4 264, .int 5 266, .int 8 272], dci [(11, 278, .ref 88), (14, 284, .ref 89), (15, 286, .ref 90), (16, 288, .ref 91), (17, 290, .ref 92)] 5, tp [.int 1 355, .int 2 356], tp [.int 1 357, .int 2 358], tp [.int 1 359, .int 3 360], tp [.int 1 361, .int 5 362], tp [.int 2 363, .int 5 364], E, fd (.type "builtin_function_or_method") [.builtin "type.__prepare__", .type "type"], dc P [("__module__", 378, .str "kindkeep.types" 256), ("__qualname__", 380, .str "TypeTable" 379), ("__firstlineno__", 382, .int 56 381), ("__init__", 390, .ref 106), ("row", 398, .ref 113), ("put", 407, .ref 120), ("__static_attributes__", 418, .ref 121)] 7, E, fd (.none) [.int 58 0, .int 4 0, .ref 105, .int 72 0, .int 4 0, .ref 112, .int 75 0, .int 4 0, .ref 119], fd (.type "code") [.str "TypeTable" 373, .str "TypeTable" 374, .str "/claim/cut.py" 375, .int 56 0, .int 0 0, .int 0 0, .int 0 0, .int 0 0, .ref 96, .bool false, .int 181 0, .ref 97, .none, .none, .none, .none, .int 376 0, .int 56 0, .str "/claim/cut.py" 377], fr [some (.ref 98), some (.ref 3), some (.ref 95), none, some (.str "kindkeep.types" 256), none, some (.ref 0)]] ++ (
 df (sb 45 0) "TypeTable.__init__" 100 383 true m2 (.none) ++ (
 df (sb 45 1) "TypeTable.row" 107 391 true m2 (.none) ++ (
 df (sb 45 2) "TypeTable.put" 114 399 true m2 (.none) ++ (
 [tp (ss 408 ["bounds", "decls", "defaults", "index", "names", "origins", "putting", "renamed", "rows", "shaping"]), dc P [("__module__", 378, .str "kindkeep.types" 256), ("__firstlineno__", 382, .int 56 381), ("__init__", 390, .ref 106), ("row", 398, .ref 113), ("put", 407, .ref 120), ("__static_attributes__", 418, .ref 121), ("__dict__", 420, .ref 124), ("__weakref__", 422, .ref 125), ("__doc__", 423, .none)] 4, ty "TypeTable" [.type "object"] [.ref 123, .type "object"] 122 ([]) [none, none, some (.str "TypeTable" 371), some (.str "TypeTable" 379), some (.builtin "object.__new__"), some (.bool true)], fd (.type "getset_descriptor") [.str "__dict__" 419, .ref 123, .builtin "function.__dict__", .builtin "function.__dict__#set"], fd (.type "getset_descriptor") [.str "__weakref__" 421, .ref 123, .builtin "ExceptionGroup.__weakref__", .none], fd (.type "super") [.ref 123, .ref 123, .ref 123], fd (.type "builtin_function_or_method") [.builtin "object.__init_subclass__", .ref 123], tp [.int 0 426]] ++ (
 df (st 46) "str_type" 129 427 true m2 (.ref 128) ++ (
 [tp [.int 0 436]] ++ (
 df (st 47) "num_type" 137 437 true m2 (.ref 136) ++ (
 [tp [.int 0 446]] ++ (
 df (st 48) "array_type" 145 447 true m2 (.ref 144) ++ (
 df (st 49) "last_mark" 152 456 true m2 (.none) ++ (
 df (st 50) "needed_to_last" 159 466 true m2 (.none) ++ (
 df (st 51) "one_rest" 166 479 true m2 (.none) ++ (
 [tp [.int 0 493]] ++ (
 df (st 52) "tuple_type" 174 494 false m2 (.ref 173) ++ (
 [tp [.int (-1) 501, .int (-1) 503]] ++ (
 df (st 53) "new_param" 180 504 true m2 (.ref 179) ++ (
 df (st 54) "parts_of" 187 515 true m2 (.none) ++ (
 df (st 55) "whole_of_row" 194 524 true m2 (.none)))))))))))))))))))))))))
noncomputable def ob1 (P : bQ) (n c : Nat) : List Obj := df (st 56) "regular_twin" 201 532 true m2 (.none) ++ (
 df (st 57) "join_bools" 208 541 true m2 (.none) ++ (
 df (st 58) "stays_beside" 215 548 true m2 (.none) ++ (
 df (st 59) "top_of" 222 557 true m2 (.none) ++ (
 df (st 60) "union" 229 565 false m2 (.none) ++ (
 df (st 61) "add_undef" 234 571 true m2 (.none) ++ (
 df (st 62) "index_kids" 241 579 true m2 (.none) ++ (
 df (st 63) "sig_kids" 248 586 false m2 (.none) ++ (
 df (st 64) "object_kids" 253 592 false m2 (.none) ++ (
 df (st 65) "row_kids" 258 598 false m2 (.none) ++ (
 df (st 66) "row_binds" 263 604 true m2 (.none) ++ (
 df (st 67) "inner_kids" 270 611 true m2 (.none) ++ (
 df (st 68) "reached" 277 621 true m2 (.none) ++ (
 df (st 69) "row_free" 284 632 true m2 (.none) ++ (
 df (st 70) "free_round" 291 644 false m2 (.none) ++ (
 df (st 71) "free_params" 296 650 false m2 (.none) ++ (
 df (st 72) "has_params" 301 656 true m2 (.none) ++ (
 [tp [.int 10 276, .int 14 284, .int 15 286, .int 16 288, .int 17 290, .int 19 294]] ++ (
 df (st 76) "is_open" 309 669 true m3 (.none) ++ (
 df (st 77) "unit_word" 316 681 true m3 (.none) ++ (
 df (st 78) "key_text" 323 690 true m3 (.none) ++ (
 df (st 79) "glue" 330 698 true m3 (.none) ++ (
 df (st 80) "hole_pieces" 337 706 true m3 (.none) ++ (
 df (st 81) "cross_holes" 344 719 false m3 (.none) ++ (
 df (st 82) "one_template" 349 725 true m3 (.none)))))))))))))))))))))))))
noncomputable def ob2 (P : bQ) (n c : Nat) : List Obj := df (st 83) "tpl_kind" 356 737 true m3 (.none) ++ (
 df (st 86) "kindsplice_spread_kind" 363 753 true m4 (.none) ++ (
 df (st 87) "union_places" 370 762 true m4 (.none) ++ (
 df (st 88) "kindsplice_list_part" 377 771 true m4 (.none) ++ (
 df (st 89) "cut_open" 384 781 false m4 (.none) ++ (
 df (st 90) "splice_union" 389 787 true m4 (.none) ++ (
 df (st 91) "splice" 396 801 true m4 (.none) ++ (
 [E, fd (.type "builtin_function_or_method") [.builtin "type.__prepare__", .type "type"], dc P [("__module__", 828, .str "kindkeep.hosts" 815), ("__qualname__", 830, .str "Thin" 829), ("__firstlineno__", 832, .int 421 831), ("__init__", 840, .ref 416), ("force", 848, .ref 423), ("put_deferred", 856, .ref 430), ("put_cond", 865, .ref 437), ("lay_row", 874, .ref 444), ("bound", 882, .ref 451), ("shape", 890, .ref 458), ("fits", 899, .ref 465), ("lies", 908, .ref 472), ("infers", 918, .ref 479), ("tpl_fits", 927, .ref 486), ("shape_fits", 936, .ref 493), ("put_in", 945, .ref 500), ("own_sig", 954, .ref 507), ("forget", 961, .ref 514), ("list_prop", 970, .ref 521), ("list_index", 978, .ref 528), ("elem_met", 986, .ref 535), ("error_class", 993, .ref 542), ("__static_attributes__", 999, .ref 543)] 23, E, fd (.none) [.int 423 0, .int 4 0, .ref 415, .int 430 0, .int 4 0, .ref 422, .int 433 0, .int 4 0, .ref 429, .int 436 0, .int 4 0, .ref 436, .int 439 0, .int 4 0, .ref 443, .int 442 0, .int 4 0, .ref 450, .int 445 0, .int 4 0, .ref 457, .int 448 0, .int 4 0, .ref 464, .int 451 0, .int 4 0, .ref 471, .int 454 0, .int 4 0, .ref 478, .int 457 0, .int 4 0, .ref 485, .int 460 0, .int 4 0, .ref 492, .int 463 0, .int 4 0, .ref 499, .int 466 0, .int 4 0, .ref 506, .int 469 0, .int 4 0, .ref 513, .int 472 0, .int 4 0, .ref 520, .int 475 0, .int 4 0, .ref 527, .int 478 0, .int 4 0, .ref 534, .int 481 0, .int 4 0, .ref 541], fd (.type "code") [.str "Thin" 823, .str "Thin" 824, .str "/claim/cut.py" 825, .int 421 0, .int 0 0, .int 0 0, .int 0 0, .int 0 0, .ref 406, .bool false, .int 181 0, .ref 407, .none, .none, .none, .none, .int 826 0, .int 421 0, .str "/claim/cut.py" 827], fr [some (.ref 408), some (.ref 3), some (.ref 405), none, some (.str "kindkeep.hosts" 815), none, some (.ref 0)]] ++ (
 df (sb 95 0) "Thin.__init__" 410 833 true m5 (.none) ++ (
 df (sb 95 1) "Thin.force" 417 841 true m5 (.none) ++ (
 df (sb 95 2) "Thin.put_deferred" 424 849 true m5 (.none) ++ (
 df (sb 95 3) "Thin.put_cond" 431 857 true m5 (.none) ++ (
 df (sb 95 4) "Thin.lay_row" 438 866 true m5 (.none) ++ (
 df (sb 95 5) "Thin.bound" 445 875 true m5 (.none) ++ (
 df (sb 95 6) "Thin.shape" 452 883 true m5 (.none) ++ (
 df (sb 95 7) "Thin.fits" 459 891 true m5 (.none) ++ (
 df (sb 95 8) "Thin.lies" 466 900 true m5 (.none) ++ (
 df (sb 95 9) "Thin.infers" 473 909 true m5 (.none) ++ (
 df (sb 95 10) "Thin.tpl_fits" 480 919 true m5 (.none) ++ (
 df (sb 95 11) "Thin.shape_fits" 487 928 true m5 (.none) ++ (
 df (sb 95 12) "Thin.put_in" 494 937 true m5 (.none) ++ (
 df (sb 95 13) "Thin.own_sig" 501 946 true m5 (.none) ++ (
 df (sb 95 14) "Thin.forget" 508 955 true m5 (.none) ++ (
 df (sb 95 15) "Thin.list_prop" 515 962 true m5 (.none) ++ (
 df (sb 95 16) "Thin.list_index" 522 971 true m5 (.none)))))))))))))))))))))))))
noncomputable def ob3 (P : bQ) (n c : Nat) : List Obj := df (sb 95 17) "Thin.elem_met" 529 979 true m5 (.none) ++ (
 df (sb 95 18) "Thin.error_class" 536 987 true m5 (.none) ++ (
 [tp (ss 994 ["deep", "lib", "most_deep", "most_rounds", "tab"]), dc P [("__module__", 828, .str "kindkeep.hosts" 815), ("__firstlineno__", 832, .int 421 831), ("__init__", 840, .ref 416), ("force", 848, .ref 423), ("put_deferred", 856, .ref 430), ("put_cond", 865, .ref 437), ("lay_row", 874, .ref 444), ("bound", 882, .ref 451), ("shape", 890, .ref 458), ("fits", 899, .ref 465), ("lies", 908, .ref 472), ("infers", 918, .ref 479), ("tpl_fits", 927, .ref 486), ("shape_fits", 936, .ref 493), ("put_in", 945, .ref 500), ("own_sig", 954, .ref 507), ("forget", 961, .ref 514), ("list_prop", 970, .ref 521), ("list_index", 978, .ref 528), ("elem_met", 986, .ref 535), ("error_class", 993, .ref 542), ("__static_attributes__", 999, .ref 543), ("__dict__", 1001, .ref 546), ("__weakref__", 1003, .ref 547), ("__doc__", 1004, .none)] 4, ty "Thin" [.type "object"] [.ref 545, .type "object"] 544 (if bV 583 n then [.ref 580] else []) [none, none, some (.str "Thin" 821), some (.str "Thin" 829), some (.builtin "object.__new__"), some (.bool true)], fd (.type "getset_descriptor") [.str "__dict__" 1000, .ref 545, .builtin "function.__dict__", .builtin "function.__dict__#set"], fd (.type "getset_descriptor") [.str "__weakref__" 1002, .ref 545, .builtin "ExceptionGroup.__weakref__", .none], fd (.type "super") [.ref 545, .ref 545, .ref 545], fd (.type "builtin_function_or_method") [.builtin "object.__init_subclass__", .ref 545], tp [.ref 545], fd (.type "builtin_function_or_method") [.builtin "type.__prepare__", .type "type"], dc P [("__module__", 1014, .str "kindkeep.hosts" 815), ("__qualname__", 1016, .str "RefHost" 1015), ("__firstlineno__", 1018, .int 483 1017), ("shape", 1026, .ref 563), ("fits", 1035, .ref 570), ("lies", 1044, .ref 577), ("__static_attributes__", 1045, .ref 578)] 7, E, fd (.none) [.int 485 0, .int 4 0, .ref 562, .int 488 0, .int 4 0, .ref 569, .int 491 0, .int 4 0, .ref 576], fd (.type "code") [.str "RefHost" 1009, .str "RefHost" 1010, .str "/claim/cut.py" 1011, .int 483 0, .int 0 0, .int 0 0, .int 0 0, .int 0 0, .ref 553, .bool false, .int 181 0, .ref 554, .none, .none, .none, .none, .int 1012 0, .int 483 0, .str "/claim/cut.py" 1013], fr [some (.ref 555), some (.ref 3), some (.ref 552), none, some (.str "kindkeep.hosts" 815), none, some (.ref 0)]] ++ (
 df (sb 96 0) "RefHost.shape" 557 1019 true m5 (.none) ++ (
 df (sb 96 1) "RefHost.fits" 564 1027 true m5 (.none) ++ (
 df (sb 96 2) "RefHost.lies" 571 1036 true m5 (.none) ++ (
 [E, dc P [("__module__", 1014, .str "kindkeep.hosts" 815), ("__firstlineno__", 1018, .int 483 1017), ("shape", 1026, .ref 563), ("fits", 1035, .ref 570), ("lies", 1044, .ref 577), ("__static_attributes__", 1045, .ref 578), ("__doc__", 1046, .none)] 2, ty "RefHost" [.ref 545] [.ref 580, .ref 545, .type "object"] 579 (if bV 651 n then [.ref 648] else []) [some (.ref 550), none, some (.str "RefHost" 1007), some (.str "RefHost" 1015), some (.builtin "object.__new__"), some (.bool true)], fd (.type "super") [.ref 580, .ref 580, .ref 580], fd (.type "builtin_function_or_method") [.builtin "object.__init_subclass__", .ref 580]] ++ (
 df (st 97) "find_prop" 583 1049 true m5 (.none) ++ (
 df (st 98) "read_type" 590 1058 true m5 (.none) ++ (
 df (st 100) "table_read" 597 1068 true m6 (.none) ++ (
 df (st 101) "put_name" 604 1079 true m6 (.none) ++ (
 [tp [.ref 580], fd (.type "builtin_function_or_method") [.builtin "type.__prepare__", .type "type"], dc P [("__module__", 1094, .str "kindkeep.keyhost" 1066), ("__qualname__", 1096, .str "NameHost" 1095), ("__firstlineno__", 1098, .int 518 1097), ("__init__", 1106, .ref 624), ("force", 1115, .ref 631), ("put_deferred", 1123, .ref 638), ("put_in", 1132, .ref 645), ("__static_attributes__", 1137, .ref 646)] 8, E, fd (.none) [.int 520 0, .int 4 0, .ref 623, .int 526 0, .int 4 0, .ref 630, .int 530 0, .int 4 0, .ref 637, .int 533 0, .int 4 0, .ref 644], fd (.type "code") [.str "NameHost" 1089, .str "NameHost" 1090, .str "/claim/cut.py" 1091, .int 518 0, .int 0 0, .int 0 0, .int 0 0, .int 0 0, .ref 614, .bool false, .int 181 0, .ref 615, .none, .none, .none, .none, .int 1092 0, .int 518 0, .str "/claim/cut.py" 1093], fr [some (.ref 616), some (.ref 3), some (.ref 613), none, some (.str "kindkeep.keyhost" 1066), none, some (.ref 0)]] ++ (
 df (sb 102 0) "NameHost.__init__" 618 1099 true m6 (.none) ++ (
 df (sb 102 1) "NameHost.force" 625 1107 true m6 (.none) ++ (
 df (sb 102 2) "NameHost.put_deferred" 632 1116 true m6 (.none) ++ (
 df (sb 102 3) "NameHost.put_in" 639 1124 true m6 (.none) ++ (
 [tp (ss 1133 ["deep", "most_deep", "most_rounds", "tab"]), dc P [("__module__", 1094, .str "kindkeep.keyhost" 1066), ("__firstlineno__", 1098, .int 518 1097), ("__init__", 1106, .ref 624), ("force", 1115, .ref 631), ("put_deferred", 1123, .ref 638), ("put_in", 1132, .ref 645), ("__static_attributes__", 1137, .ref 646), ("__doc__", 1138, .none)] 2, ty "NameHost" [.ref 580] [.ref 648, .ref 580, .ref 545, .type "object"] 647 ([]) [some (.ref 611), none, some (.str "NameHost" 1087), some (.str "NameHost" 1095), some (.builtin "object.__new__"), some (.bool true)], fd (.type "super") [.ref 648, .ref 648, .ref 648], fd (.type "builtin_function_or_method") [.builtin "object.__init_subclass__", .ref 648], tp [.int 4 1143, .int 3 1144, .int 1 1145, .int 1 1146, .int 1 1147, .int 9 1148, .int 0 1149, .int 6 1150, .int 7 1151, .int 0 1152, .int 0 1153, .int 3 1154, .int 1 1155, .int 1 1156, .int 0 1157, .int 5 1158, .int 10 1159, .int 0 1160, .int 1 1161, .int 2 1162, .int 1 1163, .int 1 1164, .int 2 1165, .int 0 1166, .int 25 1167]] ++ (
 df (st 105) "_law_take" 652 1169 true m7 (.none) ++ (
 df (st 106) "_law_brand" 659 1179 true m7 (.none) ++ (
 df (st 107) "_law_world" 666 1187 false m7 (.none) ++ (
 df (st 108) "_law_stays" 671 1193 true m7 (.none) ++ (
 df (st 109) "_law_member" 678 1201 false m7 (.none) ++ (
 df (st 110) "_law_met" 683 1207 false m7 (.none) ++ (
 df (st 111) "_law_meet" 688 1213 false m7 (.none) ++ (
 df (st 112) "_law_plain" 693 1219 true m7 (.none)))))))))))))))))))))))))
noncomputable def ob4 (P : bQ) (n c : Nat) : List Obj := df (st 113) "_law_joined" 700 1227 true m7 (.none) ++ (
 df (st 114) "_law_under" 707 1239 true m7 (.none) ++ (
 df (st 115) "_law_element" 714 1257 true m7 (.none) ++ (
 df (st 116) "_law_union" 721 1270 false m7 (.none) ++ (
 df (st 117) "_law_settled" 726 1276 false m7 (.none) ++ (
 df (st 118) "_law_forms" 731 1282 false m7 (.none) ++ (
 df (st 119) "_law_atoms" 736 1288 true m7 (.none) ++ (
 df (st 120) "_law_seen" 743 1296 false m7 (.none) ++ (
 df (st 121) "_law_row_right" 748 1302 false m7 (.none) ++ (
 df (st 122) "law" 753 1308 false m7 (.none))))))))))
noncomputable def OB (P : bQ) (n c : Nat) : List Obj := ob0 P n c ++ (ob1 P n c ++ (ob2 P n c ++ (ob3 P n c ++ (ob4 P n c))))
noncomputable def o2 (P : bQ) (n : Nat) : Obj := match bV 43 n with
 | true => { cls := .none, data := .dict (ks P [("type.__subclasses__.Exception.0", 223, .int 39 0), ("type.__subclasses__.Exception.n", 224, .int 1 0)]).toArray 2 }
 | false => { cls := .none, data := .dict #[] }
noncomputable def o3 (P : bQ) (m : Nat) (nm : aJ) : Obj := dc P (("__name__", 165, nm) :: GS.take m) (m + 1)
noncomputable def LO (P : bQ) (n m c : Nat) (nm : aJ) : List Obj := (boot_o_0 P :: boot_o_1 P :: o2 P n :: o3 P m nm :: boot_o_4 P :: boot_o_5 P :: boot_o_6 P :: boot_o_7 P :: boot_o_8 P :: boot_o_9 P :: boot_o_10 P :: OB P n c).take n
noncomputable def sp : List Obj -> List Obj × List Obj
 | [] => ([], [])
 | x :: r => (x :: (sp r).2, (sp r).1)
noncomputable def mk : Nat -> List Obj -> BT
 | 0, _ => .nil
 | _ + 1, [] => .nil
 | f + 1, x :: r => .node x (mk f (sp r).1) (mk f (sp r).2)
noncomputable def sh (n m c : Nat) (nm : aJ) (t : Nat) (w : World) (os : OsState) : SharedT := ⟨mk 12 (LO w.params n m c nm), n, {}, #[], {}, t, os⟩
noncomputable abbrev ev : Env := { scope := pg.main.scope, locals := mainNs, globals := mainNs, cells := [], code := .ref 13, frame := some 14 }
noncomputable abbrev cE : Code := .body bd ev
noncomputable abbrev p0 : Pos := ⟨0, 0, 0, 0⟩
noncomputable abbrev fr0 : List Frame := [topFrame p0]
noncomputable def sl (a b : Nat) : List Stmt := (bd.drop a).take b
noncomputable abbrev tS := PySem.W.Fast.tw10110043849684766642
noncomputable abbrev tT := PySem.W.Fast.tw14364793385576792824
theorem eT : tT = treeTable := PySem.W.Fast.te14364793385576792824.symm
theorem seg {n a b : Nat} {S S' : World -> OsState -> SharedT} {p p' : Pos} (h : ∀ w, (λ os => tS tT pg w 11 (some (.ref 6)) 1 n (S w os) (ch (sl a b) ev cE p fr0)) = λ os => some (.next, S' w os, cE, p')) (w : World) (os : OsState) :
 segRun treeTable pg w 11 (some (.ref 6)) 1 n (S w os).abs (ch (sl a b) ev cE p fr0) = some (.next, (S' w os).abs, cE, p') := by
 have e := congrFun (h w) os
 rw [show tS = segRunT from PySem.W.Fast.te10110043849684766642.symm, eT] at e
 exact segRun_of e
theorem q0 (w : World) : (λ os => tS tT pg w 11 (some (.ref 6)) 1 270 ((sh 15 8 0 (.str "__main__" 164) 187) w os) (ch (sl 0 3) ev cE p0 fr0)) = λ os => some (.next, (sh 43 10 6 m1 227) w os, cE, ⟨5, 0, 9, 24⟩) := by kernel_rfl
theorem q1 (w : World) : (λ os => tS tT pg w 11 (some (.ref 6)) 1 431 ((sh 43 10 6 m1 227) w os) (ch (sl 3 21) ev cE ⟨5, 0, 9, 24⟩ fr0)) = λ os => some (.next, (sh 63 30 9 m2 296) w os, cE, ⟨34, 0, 34, 7⟩) := by kernel_rfl
theorem q2 (w : World) : (λ os => tS tT pg w 11 (some (.ref 6)) 1 290 ((sh 63 30 9 m2 296) w os) (ch (sl 24 20) ev cE ⟨34, 0, 34, 7⟩ fr0)) = λ os => some (.next, (sh 87 50 9 m2 355) w os, cE, ⟨54, 0, 54, 11⟩) := by kernel_rfl
theorem q3f (w : World) : (λ os => tS tT pg (w.withFollow "special-get-raises" false) 11 (some (.ref 6)) 1 96 ((sh 87 50 9 m2 355) (w.withFollow "special-get-raises" false) os) (ch (sl 44 1) ev cE ⟨54, 0, 54, 11⟩ fr0)) = λ os => some (.next, (sh 93 51 9 m2 371) (w.withFollow "special-get-raises" false) os, cE, ⟨55, 0, 55, 9⟩) := by kernel_rfl
theorem q3t (w : World) : (λ os => tS tT pg (w.withFollow "special-get-raises" true) 11 (some (.ref 6)) 1 96 ((sh 87 50 9 m2 355) (w.withFollow "special-get-raises" true) os) (ch (sl 44 1) ev cE ⟨54, 0, 54, 11⟩ fr0)) = λ os => some (.next, (sh 93 51 9 m2 371) (w.withFollow "special-get-raises" true) os, cE, ⟨55, 0, 55, 9⟩) := by kernel_rfl
theorem q3 (w : World) : (λ os => tS tT pg w 11 (some (.ref 6)) 1 96 ((sh 87 50 9 m2 355) w os) (ch (sl 44 1) ev cE ⟨54, 0, 54, 11⟩ fr0)) = λ os => some (.next, (sh 93 51 9 m2 371) w os, cE, ⟨55, 0, 55, 9⟩) := byRow2 (P := λ w => (λ os => tS tT pg w 11 (some (.ref 6)) 1 96 ((sh 87 50 9 m2 355) w os) (ch (sl 44 1) ev cE ⟨54, 0, 54, 11⟩ fr0)) = λ os => some (.next, (sh 93 51 9 m2 371) w os, cE, ⟨55, 0, 55, 9⟩)) "special-get-raises" q3f q3t w
theorem q4 (w : World) : (λ os => tS tT pg w 11 (some (.ref 6)) 1 428 ((sh 93 51 9 m2 371) w os) (ch (sl 45 5) ev cE ⟨55, 0, 55, 9⟩ fr0)) = λ os => some (.next, (sh 159 56 24 m2 466) w os, cE, ⟨88, 0, 93, 16⟩) := by kernel_rfl
theorem q5 (w : World) : (λ os => tS tT pg w 11 (some (.ref 6)) 1 413 ((sh 159 56 24 m2 466) w os) (ch (sl 50 13) ev cE ⟨88, 0, 93, 16⟩ fr0)) = λ os => some (.next, (sh 248 69 63 m2 586) w os, cE, ⟨182, 0, 183, 42⟩) := by kernel_rfl
theorem q6 (w : World) : (λ os => tS tT pg w 11 (some (.ref 6)) 1 424 ((sh 248 69 63 m2 586) w os) (ch (sl 63 16) ev cE ⟨182, 0, 183, 42⟩ fr0)) = λ os => some (.next, (sh 330 84 102 m3 698) w os, cE, ⟨305, 0, 308, 15⟩) := by kernel_rfl
theorem q7 (w : World) : (λ os => tS tT pg w 11 (some (.ref 6)) 1 397 ((sh 330 84 102 m3 698) w os) (ch (sl 79 16) ev cE ⟨305, 0, 308, 15⟩ fr0)) = λ os => some (.next, (sh 403 98 135 m5 821) w os, cE, ⟨420, 0, 420, 11⟩) := by kernel_rfl
theorem q8 (w : World) : (λ os => tS tT pg w 11 (some (.ref 6)) 1 812 ((sh 403 98 135 m5 821) w os) (ch (sl 95 1) ev cE ⟨420, 0, 420, 11⟩ fr0)) = λ os => some (.next, (sh 550 99 138 m5 1007) w os, cE, ⟨421, 0, 482, 17⟩) := by kernel_rfl
theorem q9 (w : World) : (λ os => tS tT pg w 11 (some (.ref 6)) 1 414 ((sh 550 99 138 m5 1007) w os) (ch (sl 96 5) ev cE ⟨421, 0, 482, 17⟩ fr0)) = λ os => some (.next, (sh 604 103 150 m6 1079) w os, cE, ⟨501, 0, 511, 41⟩) := by kernel_rfl
theorem q10 (w : World) : (λ os => tS tT pg w 11 (some (.ref 6)) 1 400 ((sh 604 103 150 m6 1079) w os) (ch (sl 101 3) ev cE ⟨501, 0, 511, 41⟩ fr0)) = λ os => some (.next, (sh 651 105 156 m7 1143) w os, cE, ⟨535, 0, 535, 8⟩) := by kernel_rfl
theorem q11 (w : World) : (λ os => tS tT pg w 11 (some (.ref 6)) 1 423 ((sh 651 105 156 m7 1143) w os) (ch (sl 104 14) ev cE ⟨535, 0, 535, 8⟩ fr0)) = λ os => some (.next, (sh 731 119 195 m7 1282) w os, cE, ⟨646, 0, 666, 21⟩) := by kernel_rfl
theorem q12 (w : World) : (λ os => tS tT pg w 11 (some (.ref 6)) 1 135 ((sh 731 119 195 m7 1282) w os) (ch (sl 118 5) ev cE ⟨646, 0, 666, 21⟩ fr0)) = λ os => some (.next, (sh 758 124 210 m7 1314) w os, cE, ⟨704, 0, 720, 15⟩) := by kernel_rfl
theorem bd_is : bd = sl 0 3 ++ (sl 3 21 ++ (sl 24 20 ++ (sl 44 1 ++ (sl 45 5 ++ (sl 50 13 ++ (sl 63 16 ++ (sl 79 16 ++ (sl 95 1 ++ (sl 96 5 ++ (sl 101 3 ++ (sl 104 14 ++ (sl 118 5 ++ [])))))))))))) := by kernel_rfl
noncomputable abbrev SF := (sh 758 124 210 m7 1314)
noncomputable abbrev pF : Pos := ⟨704, 0, 720, 15⟩
noncomputable def H1 (P : bQ) : Heap := ⟨(LO P 758 124 210 m7).toArray, {}⟩
noncomputable abbrev tG := PySem.W.Fast.tw15667345088766844465
noncomputable abbrev tR := PySem.W.Fast.tw14082659384304107361
theorem q_pre (w : World) : (λ os => tG tT pg w 11 (some (.ref 6)) 12 ⟨boot_heap w.params, #[], boot_drawn, boot_toks, os⟩ (topStub pg)) = λ os => some ((sh 15 8 0 (.str "__main__" 164) 187 w os).abs, ⟨PySem.W.Fast.tw11892475500146522536 tT cE, cE, p0, fr0⟩) := by kernel_rfl
theorem q_blk (w : World) : (λ os => segRun treeTable pg w 11 (some (.ref 6)) 1 1 (sh 15 8 0 (.str "__main__" 164) 187 w os).abs (blockOf bd ev cE p0 fr0)) = λ os => some (.next, (sh 15 8 0 (.str "__main__" 164) 187 w os).abs, cE, p0) := by kernel_rfl
theorem q_fin (w : World) : (λ os => tR tT pg w 11 (some (.ref 6)) 2 (SF w os).abs ⟨doneF .next, cE, pF, fr0⟩) = λ os => some ⟨H1 w.params, #[], {}, 1314, os⟩ := by kernel_rfl
theorem run_top (w : World) (os : OsState) : topRun treeTable pg w 11 (some (.ref 6)) (12 + (1 + (270 + (431 + (290 + (96 + (428 + (413 + (424 + (397 + (812 + (414 + (400 + (423 + (135 + 2))))))))))))))) ⟨boot_heap w.params, #[], boot_drawn, boot_toks, os⟩ (topStub pg) = some ⟨H1 w.params, #[], {}, 1314, os⟩ := by
 have e0 := congrFun (q_pre w) os
 have e1 := congrFun (q_fin w) os
 rw [show tG = topGo from PySem.W.Fast.te15667345088766844465.symm, eT, show PySem.W.Fast.tw11892475500146522536 = denote from PySem.W.Fast.te11892475500146522536.symm] at e0
 rw [show tR = topRun from PySem.W.Fast.te14082659384304107361.symm, eT] at e1
 refine go_top e0 (piece_block (congrFun (q_blk w) os) ?_)
 rw [show restOf bd ev cE p0 fr0 = restOf (sl 0 3 ++ (sl 3 21 ++ (sl 24 20 ++ (sl 44 1 ++ (sl 45 5 ++ (sl 50 13 ++ (sl 63 16 ++ (sl 79 16 ++ (sl 95 1 ++ (sl 96 5 ++ (sl 101 3 ++ (sl 104 14 ++ (sl 118 5 ++ []))))))))))))) ev cE p0 fr0 from congrArg (λ b => restOf b ev cE p0 fr0) bd_is]
 exact dM (seg q0 w os) (dM (seg q1 w os) (dM (seg q2 w os) (dM (seg q3 w os) (dM (seg q4 w os) (dM (seg q5 w os) (dM (seg q6 w os) (dM (seg q7 w os) (dM (seg q8 w os) (dM (seg q9 w os) (dM (seg q10 w os) (dM (seg q11 w os) (dM (seg q12 w os) (piece_nil e1)))))))))))))
end
section
set_option maxRecDepth 100000
set_option maxHeartbeats 4000000
noncomputable def vw : eZ := { pg with main := { pg.main with body := [st 122] } }
noncomputable def LS : List Str := ((GS.drop 8).take 115).map (·.1)
noncomputable def num : Nat -> List Obj -> Frag
 | _, [] => []
 | i, o :: r => (i, o) :: num (i + 1) r
noncomputable def K (P : bQ) : Frag := num 0 (LO P 758 124 222 m7)
noncomputable abbrev hS (w : World) (os : OsState) : aK := ⟨H1 w.params, #[], {}, 1314, os⟩
theorem h_open : ∀ w : World, (fencedOpening treeTable pg w 9966).map (λ s => (s.heap, s.gens, s.drawn, s.toks)) = some (boot_heap w.params, #[], boot_drawn, boot_toks) :=
 boot_open (by kernel_rfl) (by kernel_rfl) (λ s => by kernel_rfl)
theorem h_size (w : World) : ((boot_heap w.params).isNs dT && (#[] : Array GenState).size == 0, (boot_heap w.params).objs.size, (boot_heap w.params).nsMap dT "__annotations__") = (true, 11, some (.ref 6)) := by kernel_rfl
theorem h_st (w : World) (os : OsState) : (staticsOk (importedModules pg.main.body) (boot_heap w.params) (H1 w.params) && namesBound pg (H1 w.params) && gensDone (hS w os) && laidKept (boot_heap w.params) (H1 w.params)) = true := by kernel_rfl
theorem h_seen (w : World) (os : OsState) : PySem.W.Fast.tw4187177175401517315 vw LS (importedModules pg.main.body) (λ _ => true) true (hS w os) = openGood vw LS := by kernel_rfl
noncomputable def live : List Obj -> Bool
 | [] => true
 | o :: r => (match o with | ⟨_, _, .freed, _⟩ => false | _ => true) && live r
theorem live_get {pre r : List Obj} {o : Obj} {life : Life} (h : (match o with | ⟨_, _, .freed, _⟩ => false | _ => true) = true) : Heap.get? ⟨(pre ++ o :: r).toArray, life⟩ pre.length = some o := by
 unfold Heap.get?
 rw [show (pre ++ o :: r).toArray[pre.length]? = some o by simp]
 obtain ⟨c, d, x, s⟩ := o
 cases x <;> first | rfl | cases h
theorem num_eq (life : Life) : ∀ (r pre : List Obj), live r = true -> (List.range' pre.length r.length).map (Heap.get? ⟨(pre ++ r).toArray, life⟩) = (num pre.length r).map λ p => some p.2
 | [], _, _ => rfl
 | o :: r, pre, h => by
  have h := Bool.and_eq_true_iff.mp h
  have e := num_eq life r (pre ++ [o]) h.2
  rw [aw, aH] at e
  rw [am, List.range'_succ, ba, live_get h.1, num, ba]
  exact congrArg _ e
theorem h_live (P : bQ) : live (LO P 758 124 222 m7) = true := by kernel_rfl
theorem h_len (P : bQ) : (LO P 758 124 222 m7).length = 758 := by kernel_rfl
theorem h_K (w : World) : (cN 758).map (H1 w.params).get? = (K w.params).map λ p => some p.2 := by
 have := num_eq {} (LO w.params 758 124 222 m7) [] (h_live _)
 rw [h_len, eg, <- List.range_eq_range'] at this
 exact this
theorem h_as (P : bQ) : cN 758 = (K P).map (·.1) := by kernel_rfl
theorem h_left : LeftO pg vw LS (λ _ => true) (λ s => (cN 758).map s.heap.get?) (λ w => (K w.params).map λ p => some p.2) 9966 :=
 LeftO.of_pieces h_open h_size run_top (by kernel_rfl) λ w => funext λ os => looks_pair (h_st w os) (looks_pair ((congrFun (congrFun (congrFun (congrFun (congrFun (congrFun PySem.W.Fast.te4187177175401517315 _) _) _) _) _) _).trans (h_seen w os)) (h_K w))
end
section
set_option maxRecDepth 100000
set_option maxHeartbeats 4000000
section
open TablesWhole
variable {A : Alg Bool} {top sc : Scope} {cx : TablesWhole.Ctx}
theorem wss_app (hb : A.both = and) (hu : A.unit = true) (b : List Stmt) : ∀ (a : List Stmt), wSs A top cx sc (a ++ b) = (wSs A top cx sc a && wSs A top cx sc b)
 | [] => by
  show wSs A top cx sc b = (A.unit && _)
  rw [hu]; rfl
 | s :: a => by
  show A.both _ (wSs A top cx sc (a ++ b)) = (A.both _ _ && _)
  rw [wss_app hb hu b a, hb]; exact (Bool.and_assoc ..).symm
theorem wss_cut (hb : A.both = and) (hu : A.unit = true) (k : Nat) {l : List Stmt} (h1 : wSs A top cx sc (l.take k) = true) (h2 : wSs A top cx sc (l.drop k) = true) : wSs A top cx sc l = true := by
 rw [<- bZ k l, wss_app hb hu, h1, h2]; rfl
theorem wm_of {m : Module} (hb : A.both = and) (hu : A.unit = true) (he : A.enter m.scope = true) (hc : ∀ w n, A.check w m.scope n (noTwice m.scope) = true) {g : List Str} (hg : wSs gather m.scope ⟨m.scope, [], [], [], none⟩ m.scope m.body = g) (h : wSs A m.scope ⟨m.scope, [], g, [], none⟩ m.scope m.body = true) : wModule A m = true := by
 subst hg
 show A.both (A.enter m.scope) (A.both (A.check _ _ _ _) (A.both (wSs A _ _ _ _) A.unit)) = true
 rw [he, hc, h, hb, hu]; rfl
theorem tw_of {p : eZ} (h : wModule holds p.main = true) (h1 : p.modules = []) (h2 : p.parses = []) (h3 : p.harvested = []) : p.tablesWhole = true := by
 show (wModule holds p.main && (holds.all (p.modules.map _) && (holds.all (p.parses.map _) && (holds.all (p.harvested.map _) && true)))) = true
 rw [h, h1, h2, h3]; rfl
end
theorem nr_lk {s : Bool} {f : Str -> Bool} {a b c : Str} {l : List Stmt} (ha : f a = false) (hb : f b = false) (hc : f c = false) (h : PySem.W.Fast.tw8326940854005059898 { strict := s, foot := none, bare := [] } l = true) : PySem.W.Fast.tw8326940854005059898 { strict := s, foot := none, bare := R.filterR f [a, b, c] } l = true := by
 rw [show R.filterR f [a, b, c] = [] by simp [R.filterR, ha, hb, hc]]; exact h
theorem h_told : TablesWhole.wSs TablesWhole.gather pg.main.scope ⟨pg.main.scope, [], [], [], none⟩ pg.main.scope pg.main.body = [] := by
 rw [bk]
 kernel_rfl
theorem h_names : namesResolve pg = true := by
 refine wm_of rfl rfl rfl (λ _ _ => rfl) h_told ?_
 iterate 7 (refine wss_cut rfl rfl 15 (by
  as_aux_lemma =>
   rw [bk]
   kernel_rfl) ?_)
 as_aux_lemma =>
  rw [bk]
  kernel_rfl
theorem h_twice : TablesWhole.noTwice pg.main.scope = true := by
 rw [PySem.W.Fast.te8331962902438777018]
 kernel_rfl
theorem h_whole : TablesWhole.wModule TablesWhole.holds pg.main = true := by
 refine wm_of rfl rfl rfl (λ _ _ => h_twice) h_told ?_
 iterate 7 (refine wss_cut rfl rfl 15 (by
  as_aux_lemma =>
   rw [bk]
   kernel_rfl) ?_)
 as_aux_lemma =>
  rw [bk]
  kernel_rfl
theorem h_bare : pg.bare := ⟨rfl, rfl, rfl, rfl, rfl, tw_of h_whole rfl rfl rfl⟩
theorem h_well : PySem.Challenge.rw_xw0127_01.wellSaid = true := by
 rw [show @OpenLaw.wellSaid = PySem.W.Fast.tw9446332074065402090 from PySem.W.Fast.te9446332074065402090]
 iterate 34 (refine look_both ?_ (by as_aux_lemma => kernel_rfl))
 refine look_both (look_both (look_both ?_ ((congrFun PySem.W.Fast.te8377067652309620493 _).symm.trans h_names)) (by as_aux_lemma => kernel_rfl)) ?_
 rotate_left
 refine nr_lk (by as_aux_lemma => kernel_rfl) (by as_aux_lemma => kernel_rfl) (by as_aux_lemma => kernel_rfl) ?_
 as_aux_lemma => kernel_rfl
 iterate 1 (refine look_both ?_ (by as_aux_lemma => kernel_rfl))
 as_aux_lemma => kernel_rfl
theorem h_chain : chainsOk vw = true := by kernel_rfl
theorem h_imp : bearImports (behindTheImports pg) = false := by kernel_rfl
theorem h_tame : (opening pg).tameTopW = true := by kernel_rfl
theorem h_fr : (frees PySem.Challenge.rw_xw0127_01.row.toRowW && PySem.Challenge.rw_xw0127_01.row.toRowW.within.isEmpty) = true := by kernel_rfl
theorem h_ok : (chainsOk vw && opensWell pg && (frees PySem.Challenge.rw_xw0127_01.row.toRowW && PySem.Challenge.rw_xw0127_01.row.toRowW.within.isEmpty)) = true :=
 look_both (look_both h_chain (look_both h_tame (by rw [h_imp]; rfl))) h_fr
theorem hd {d : DefRec} {kwd : List (Str × Expr)} (hdef : defOf vw PySem.Challenge.rw_xw0127_01.row.name = some (d, kwd)) (hp : pg.theDef PySem.Challenge.rw_xw0127_01.row.name = some (d.params, d.body, d.scope)) (hk : kwWritten? d.params.kwonlyargs d.params.kw_defaults = some kwd)
 (hw : PySem.Challenge.rw_xw0127_01.row.toRowW.promised)
 (call : WalkO vw LS (λ _ _ => True) (InK K) PySem.Challenge.rw_xw0127_01.row.toRowW d kwd λ f vs => PySem.call f vs) : PySem.Challenge.rw_xw0127_01.Holds :=
 holds_law h_well λ said => holds_open h_left (λ w s e => InK.of h_as w s e) InK.keeps (λ _ _ => trivial) (λ _ _ _ _ _ => trivial) hdef hp hk (λ s _ => recFacts_nil rfl) rfl said h_ok h_bare hw call
noncomputable def D : DefRec := match st 122 with
 | .FunctionDef name args body _ _ _ scope _ _ pos => { name, params := args, body, scope, pos }
 | _ => { name := "", params := default, body := [], scope := default, pos := default }
theorem h_wit : PySem.Challenge.rw_xw0127_01.row.toRowW.promised := ⟨[.list []], by kernel_rfl, by kernel_rfl⟩
theorem hd' (call : WalkO vw LS (λ _ _ => True) (InK K) PySem.Challenge.rw_xw0127_01.row.toRowW D [] λ f vs => PySem.call f vs) : PySem.Challenge.rw_xw0127_01.Holds :=
 hd (by kernel_rfl) (by kernel_rfl) (by kernel_rfl) h_wit call
end
end Mine.H
namespace Mine
open PySem PySem.Calls PyProof.Rows PySem.W
section
set_option maxRecDepth 100000
set_option maxHeartbeats 4000000
noncomputable abbrev KK (P : bQ) : Frag := Mine.H.K P
noncomputable def fnA : List av := [106, 120, 135, 143, 151, 158, 165, 172, 178, 186, 193, 200, 207, 214, 221, 228, 233, 240, 247, 257, 262, 269, 276, 283, 300, 307, 315, 322, 329, 369, 376, 383, 388, 395, 402, 589, 596, 603, 610, 624, 631, 658, 665, 670, 677, 682, 687, 692, 699, 706, 713, 720, 725, 730, 735, 742, 747, 752, 757]
noncomputable def fnAt (i : Nat) : av := fnA.getD i 106
noncomputable def clsA (c : Nat) : av := cond (Nat.beq c 0) 123 648
noncomputable def oRec : Option Obj -> FnRec
 | some ⟨oc, od, .func fd, osl⟩ => ⟨fd.name, fd.qualname, fd.params, (match fd.body with | .stmts b => b | _ => []), fd.scope, fd.defaults, fd.kwdefaults, fd.doc, fd.pyModule, fd.code, fd.closureTuple, oc, fd.annotations, od, osl, fd.params.args.map (·.arg)⟩
 | _ => ⟨"", "", ⟨[], [], none, [], [], none, []⟩, [], ⟨.function, [], false, false, []⟩, .none, .none, .none, .none, .none, .none, .none, none, none, #[], []⟩
noncomputable abbrev R (P : bQ) (i : Nat) : FnRec := oRec ((KK P).lookup (fnAt i))
noncomputable def posOk (l : List (Str × Nat)) : List Str -> Nat -> Bool
 | [], _ => true
 | x :: r, i => (l.lookup x == some i) && posOk l r (i + 1)
theorem posOk_at {l : List (Str × Nat)} : ∀ {pn : List Str} {k : Nat}, posOk l pn k = true -> ∀ (i : Nat) (x : Str), pn[i]? = some x -> l.lookup x = some (k + i)
 | [], _, _, i, x, h => nomatch h
 | y :: r, k, e, i, x, h => by
  cases i with
  | zero => obtain rfl := aY h; exact eq_of_beq (fG e)
  | succ i => exact (posOk_at (and2 e) i x h).trans (by rw [dY, cC 1 i])
noncomputable def dTup (o : Option Obj) : av := match o with
 | some ⟨_, _, .func fd, _⟩ => (match fd.defaults with | .ref T => T | _ => 0)
 | _ => 0
noncomputable def dArr (o : Option Obj) : List aJ := match o with
 | some ⟨_, _, .seq items _, _⟩ => items.toList
 | _ => []
noncomputable def vi : aJ -> Int × Nat
 | .int i t => (i, t)
 | _ => (0, 0)
theorem vi_rd {F : Fx} {h : Heap} {α : Pl} : ∀ vs : List aJ, fL F h α (vs.map λ v => .int (vi v).1 (vi v).2) (vs.map λ v => .int (vi v).1)
 | [] => .nil
 | _ :: r => .cons (.int _ _) (vi_rd r)
noncomputable def dW (P : bQ) (i : Nat) : List aJ := dArr ((KK P).lookup (dTup ((KK P).lookup (fnAt i))))
noncomputable def dV (P : bQ) (i k : Nat) : List aJ := (dW P i).drop ((dW P i).length - ((R P i).pn.length - k))
noncomputable def takes (k : Nat) (p : Nat × fI) : Bool := bV k p.2.np && bV p.2.np (k + p.2.dfl.length)
noncomputable def nums : List fI -> Nat -> List (Nat × fI)
 | [], _ => []
 | f :: r, i => (i, f) :: nums r (i + 1)
theorem nums_at : ∀ {l : List fI} {i j : Nat} {f : fI}, l[j]? = some f -> (i + j, f) ∈ nums l i
 | [], _, _, _, h => nomatch h
 | g :: r, i, j, f, h => by
  cases j with
  | zero => obtain rfl := aY h; exact .head _
  | succ j => exact .tail _ (by have := nums_at (i := i + 1) (j := j) (l := r) h; rwa [dO, dY] at this)
noncomputable def fl : List (Nat × fI) := nums prg.funs 0
noncomputable def defB (P : bQ) (p : Nat × fI) : Bool :=
 codeIn (KK P) (R P p.1).cdv (R P p.1).qual && ((R P p.1).scope.kind == .function && (!(R P p.1).scope.isCoroutine && (!(R P p.1).scope.isGenerator && (cxOk (R P p.1).scope.names (R P p.1).cx && (Nat.beq (R P p.1).pn.length p.2.np && (posOk (R P p.1).cx.vars (R P p.1).pn 0 && (bV p.2.np 4 && !takes 0 p)))))))
theorem all_cut {β : Type} {f : β -> Bool} (k : Nat) {l : List β} (h1 : (l.take k).all f = true) (h2 : (l.drop k).all f = true) : l.all f = true := by
 rw [<- bZ k l, List.all_append, h1, h2]; rfl
theorem map_cut {β γ : Type} {f g : β -> γ} (k : Nat) {l : List β} (h1 : (l.take k).map f = (l.take k).map g) (h2 : (l.drop k).map f = (l.drop k).map g) : l.map f = l.map g := by
 rw [<- bZ k l, aU, aU, h1, h2]
theorem def_1 (P : bQ) : (fl.take 20).all (defB P) = true := by kernel_rfl
theorem def_2 (P : bQ) : ((fl.drop 20).take 20).all (defB P) = true := by kernel_rfl
theorem def_3 (P : bQ) : ((fl.drop 20).drop 20).all (defB P) = true := by kernel_rfl
theorem def_all (P : bQ) : fl.all (defB P) = true := all_cut 20 (def_1 P) (all_cut 20 (def_2 P) (def_3 P))
theorem at_map {β γ : Type} {l : List β} {f g : β -> γ} (e : l.map f = l.map g) {a : β} (h : a ∈ l) : f a = g a := List.map_inj_left.mp e a h
theorem rec_all (P : bQ) : fl.map (λ p => (KK P).lookup (fnAt p.1)) = fl.map λ p => some ⟨(R P p.1).oc, (R P p.1).od, .func (R P p.1).fd, (R P p.1).osl⟩ := by kernel_rfl
theorem dfl_all (P : bQ) : fl.map (λ p => (dW P p.1, p.2.dfl)) = fl.map λ p => ((dW P p.1).map λ v => .int (vi v).1 (vi v).2, (dW P p.1).map λ v => .int (vi v).1) := by kernel_rfl
theorem dV_rd {F : Fx} {h : Heap} {α : Pl} {P : bQ} {p : Nat × fI} (m : p ∈ fl) (q : (R P p.1).pn.length = p.2.np) (k : Nat) : fL F h α (dV P p.1 k) (p.2.dfl.drop (p.2.dfl.length - (p.2.np - k))) := by
 have e := at_map (dfl_all P) m
 have e1 : dW P p.1 = (dW P p.1).map λ v => .int (vi v).1 (vi v).2 := congrArg Prod.fst e
 have e2 : p.2.dfl = (dW P p.1).map λ v => .int (vi v).1 := congrArg Prod.snd e
 have r := vi_rd (F := F) (h := h) (α := α) ((dW P p.1).drop ((dW P p.1).length - (p.2.np - k)))
 rw [c9, c9, <- e1, <- e2] at r
 have l : p.2.dfl.length = (dW P p.1).length := (congrArg bP e2).trans (aG ..)
 unfold dV
 rw [q, l]; exact r
end
section
set_option maxRecDepth 100000
set_option maxHeartbeats 4000000
theorem sx_back (P : bQ) : fl.map (λ p => dXs (bodyA (R P p.1).body)) = fl.map λ p => (R P p.1).body := by kernel_rfl
theorem sx_r1 (P : bQ) : (fl.take 15).map (λ p => eXs tb (R P p.1).cx (bodyA (R P p.1).body)) = (fl.take 15).map λ p => p.2.body := by kernel_rfl
theorem sx_r2 (P : bQ) : ((fl.drop 15).take 15).map (λ p => eXs tb (R P p.1).cx (bodyA (R P p.1).body)) = ((fl.drop 15).take 15).map λ p => p.2.body := by kernel_rfl
theorem sx_r3 (P : bQ) : (((fl.drop 15).drop 15).take 15).map (λ p => eXs tb (R P p.1).cx (bodyA (R P p.1).body)) = (((fl.drop 15).drop 15).take 15).map λ p => p.2.body := by kernel_rfl
theorem sx_r4 (P : bQ) : (((fl.drop 15).drop 15).drop 15).map (λ p => eXs tb (R P p.1).cx (bodyA (R P p.1).body)) = (((fl.drop 15).drop 15).drop 15).map λ p => p.2.body := by kernel_rfl
theorem sx_run (P : bQ) : fl.map (λ p => eXs tb (R P p.1).cx (bodyA (R P p.1).body)) = fl.map λ p => p.2.body := map_cut 15 (sx_r1 P) (map_cut 15 (sx_r2 P) (map_cut 15 (sx_r3 P) (sx_r4 P)))
theorem bt_1 (P : bQ) (S : Setting) (a : aJ) : (fl.filter (takes 1)).map (λ p => peek (KK P) S (bindArgs (R P p.1).fd ⟨[a], []⟩)) = (fl.filter (takes 1)).map λ p => some ((R P p.1).pn.zip ([a] ++ dV P p.1 1)) := by kernel_rfl
theorem bt_2 (P : bQ) (S : Setting) (a b : aJ) : (fl.filter (takes 2)).map (λ p => peek (KK P) S (bindArgs (R P p.1).fd ⟨[a, b], []⟩)) = (fl.filter (takes 2)).map λ p => some ((R P p.1).pn.zip ([a, b] ++ dV P p.1 2)) := by kernel_rfl
theorem bt_3 (P : bQ) (S : Setting) (a b c : aJ) : (fl.filter (takes 3)).map (λ p => peek (KK P) S (bindArgs (R P p.1).fd ⟨[a, b, c], []⟩)) = (fl.filter (takes 3)).map λ p => some ((R P p.1).pn.zip ([a, b, c] ++ dV P p.1 3)) := by kernel_rfl
theorem bt_4 (P : bQ) (S : Setting) (a b c d : aJ) : (fl.filter (takes 4)).map (λ p => peek (KK P) S (bindArgs (R P p.1).fd ⟨[a, b, c, d], []⟩)) = (fl.filter (takes 4)).map λ p => some ((R P p.1).pn.zip ([a, b, c, d] ++ dV P p.1 4)) := by kernel_rfl
end
section
set_option maxRecDepth 100000
set_option maxHeartbeats 400000
theorem bt_all (P : bQ) (S : Setting) {p : Nat × fI} (h : p ∈ fl) (h4 : p.2.np <= 4) (h0 : takes 0 p = false) (vs : List aJ) (k : Nat) (hk : vs.length = k) (t : takes k p = true) : peek (KK P) S (bindArgs (R P p.1).fd ⟨vs, []⟩) = some ((R P p.1).pn.zip (vs ++ dV P p.1 k)) := by
 have l4 : k <= 4 := aE (aF (fG t)) h4
 have m := bh.mpr ⟨h, t⟩
 subst hk
 rcases vs with _ | ⟨a, _ | ⟨b, _ | ⟨c, _ | ⟨d, _ | ⟨_, r⟩⟩⟩⟩⟩
 · exact absurd (h0.symm.trans t) bO
 · have e := at_map (bt_1 P S a) m; exact e
 · have e := at_map (bt_2 P S a b) m; exact e
 · have e := at_map (bt_3 P S a b c) m; exact e
 · have e := at_map (bt_4 P S a b c d) m; exact e
 · exact absurd (b9 (b9 (b9 (b9 l4)))) (Nat.not_succ_le_zero _)
theorem fns_ok {F : Fx} (hK : F.K = KK F.P) (hT : F.T = tb) (hpr : F.pr = prg) (hfn : F.fn = fnAt) (hX : F.K.In F.h₀) (i : Nat) (fd : fI) (h : F.pr.funs[i]? = some fd) : ∃ r, FnOk F fd (F.fn i) r := by
 rw [hpr] at h
 have m : (i, fd) ∈ fl := by have := nums_at (i := 0) h; rwa [bB] at this
 have d := aT.mp (def_all F.P) _ m
 have d2 := fG d
 have d := and2 d
 have d3 := fG d
 have d := and2 d
 have d4 := fG d
 have d := and2 d
 have d5 := fG d
 have d := and2 d
 have d6 := fG d
 have d := and2 d
 have d7 := fG d
 have d := and2 d
 have d8 := fG d
 have d := and2 d
 rw [hfn]
 refine ⟨R F.P i, ?_⟩
 refine ⟨by rw [hK]; exact at_map (rec_all F.P) m, by rw [hK]; exact d2, eq_of_beq d3, (cw _).mp d4, (cw _).mp d5, d6, ⟨bodyA (R F.P i).body, at_map (sx_back F.P) m, by rw [hT]; exact at_map (sx_run F.P) m⟩, Nat.eq_of_beq_eq_true d7, λ j x e => ?_, λ s vs X l1 l2 => ?_⟩
 · have := posOk_at d8 j x e
   rwa [bB] at this
 · rw [hK] at X
   have t : takes vs.length (i, fd) = true := fP (dA.mpr l1) (dA.mpr l2)
   have h4 := aF (fG d)
   have h0 : takes 0 (i, fd) = false := (cw _).mp (and2 d)
   exact ⟨_, dV_rd m (Nat.eq_of_beq_eq_true d7) _, kp_binds X λ S => bt_all F.P S m h4 h0 vs _ rfl t⟩
end
section
set_option maxRecDepth 100000
set_option maxHeartbeats 400000
noncomputable def tupA : List av := 308 :: 651 :: (List.range' 63 24 ++ List.range' 88 6)
noncomputable def dctA : List av := [87, 95]
noncomputable def dEnt (o : Option Obj) : List bC × Nat := match o with
 | some ⟨_, _, .dict es n, _⟩ => (es.toList, n)
 | _ => ([], 0)
theorem tupA_all (P : bQ) : tupA.map (λ a => (KK P).lookup a) = tupA.map λ a => some (tupObj (dArr ((KK P).lookup a))) := by kernel_rfl
theorem dctA_all (P : bQ) : dctA.map (λ a => (KK P).lookup a) = dctA.map λ a => some (fR (dEnt ((KK P).lookup a)).1 (dEnt ((KK P).lookup a)).2) := by kernel_rfl
noncomputable def optB {β : Type} (o : Option β) (f : β -> Bool) : Bool := Option.casesOn o false f
theorem optB_ok {β : Type} {o : Option β} {f : β -> Bool} (h : optB o f = true) : ∃ b, o = some b ∧ f b = true := by
 cases o with
 | none => exact nomatch h
 | some b => exact ⟨b, rfl, h⟩
mutual
noncomputable def rdB (K : Frag) (P : bQ) : aA -> aJ -> Bool
 | .none, v => v == .none
 | .bool b, v => v == .bool b
 | .int i, v => match v with | .int j _ => i == j | _ => false
 | .str x, v => match v with | .str y _ => x == y | _ => false
 | .tuple xs, v => match v with
  | .ref a => tupA.contains a && rdsB K P xs (dArr (K.lookup a))
  | _ => false
 | .list _, _ => false
 | .dict kvs, v => match v with
  | .ref a => dctA.contains a && (!(a == eB) && rdkB K P kvs (dEnt (K.lookup a)).1)
  | _ => false
noncomputable def rdsB (K : Frag) (P : bQ) : List aA -> List aJ -> Bool
 | [], vs => vs.isEmpty
 | x :: xs, vs => match vs with
  | v :: vs => rdB K P x v && rdsB K P xs vs
  | [] => false
noncomputable def rdkB (K : Frag) (P : bQ) : List (aA × aA) -> List bC -> Bool
 | [], es => es.isEmpty
 | p :: kvs, es => match es with
  | e :: es => (e.hash == fT P p.1 && (rdB K P p.1 e.key && rdB K P p.2 e.val)) && rdkB K P kvs es
  | [] => false
end
section
variable {F : Fx}
structure RdKv (F : Fx) (es : List bC) (kvs : List (aA × aA)) : Prop where
 hash : es.map (·.hash) = kvs.map (λ p => fT F.P p.1)
 keys : fL F F.h₀ [] (es.map (·.key)) (kvs.map (·.1))
 vals : fL F F.h₀ [] (es.map (·.val)) (kvs.map (·.2))
theorem no_own (a : av) : ¬ Own [] a := λ ⟨i, p, e, _⟩ => nomatch e6.symm.trans e
mutual
theorem rdB_rd {K : Frag} (hK : K = KK F.P) (X : K.In F.h₀) : ∀ (d : aA) (v : aJ), rdB K F.P d v = true -> Rd F F.h₀ [] v d
 | .none, v, e => by
  obtain rfl : v = .none := eq_of_beq e
  exact .none
 | .bool b, v, e => by
  obtain rfl : v = .bool b := eq_of_beq e
  exact .bool b
 | .int i, v, e => by
  cases v with
  | int j t => obtain rfl : i = j := eq_of_beq e; exact .int _ _
  | _ => exact nomatch e
 | .str x, v, e => by
  cases v with
  | str j t => obtain rfl : x = j := eq_of_beq e; exact .str _ _
  | _ => exact nomatch e
 | .list _, v, e => nomatch e
 | .tuple xs, v, e => by
  cases v with
  | ref a =>
   have q : K.lookup a = some (tupObj (dArr (K.lookup a))) := by rw [hK]; exact at_map (tupA_all F.P) (cJ.mp (fG e))
   exact .tuple (X _ _ q) (no_own _) (rdsB_rd hK X xs _ (and2 e))
  | _ => exact nomatch e
 | .dict kvs, v, e => by
  cases v with
  | ref a =>
   have q : K.lookup a = some (fR (dEnt (K.lookup a)).1 (dEnt (K.lookup a)).2) := by rw [hK]; exact at_map (dctA_all F.P) (cJ.mp (fG e))
   have r := rdkB_rd hK X kvs _ (and2 (and2 e))
   exact .dict (X _ _ q) (X _ _ q) (no_own _) ((cw _).mp (fG (and2 e))) r.hash r.keys r.vals
  | _ => exact nomatch e
theorem rdsB_rd {K : Frag} (hK : K = KK F.P) (X : K.In F.h₀) : ∀ (xs : List aA) (vs : List aJ), rdsB K F.P xs vs = true -> fL F F.h₀ [] vs xs
 | [], vs, e => by obtain rfl := List.isEmpty_iff.mp e; exact .nil
 | x :: xs, vs, e => by
  cases vs with
  | nil => exact nomatch e
  | cons v vs => exact .cons (rdB_rd hK X x v (fG e)) (rdsB_rd hK X xs vs (and2 e))
theorem rdkB_rd {K : Frag} (hK : K = KK F.P) (X : K.In F.h₀) : ∀ (kvs : List (aA × aA)) (es : List bC), rdkB K F.P kvs es = true -> RdKv F es kvs
 | [], es, e => by obtain rfl := List.isEmpty_iff.mp e; exact ⟨rfl, .nil, .nil⟩
 | p :: kvs, es, e => by
  cases es with
  | nil => exact nomatch e
  | cons d es =>
   have r := rdkB_rd hK X kvs es (and2 e)
   obtain ⟨p1, p2⟩ := p
   have h := fG e
   exact ⟨congr (congrArg _ (eq_of_beq (fG h))) r.hash, .cons (rdB_rd hK X p1 d.key (fG (and2 h))) r.keys, .cons (rdB_rd hK X p2 d.val (and2 (and2 h))) r.vals⟩
end
end
noncomputable def gvV (K : Frag) (P : bQ) : GV -> aJ -> Bool
 | .fn f, v => v == .ref (fnAt f)
 | .cls c, v => v == .ref (clsA c) && (prg.init.lookup c).isSome
 | .data d, v => rdB K P d v
noncomputable def gvB (K : Frag) (P : bQ) (p : Str × GV) : Bool := optB (nsIn K dT p.1) λ o => optB o λ v => gvV K P p.2 v
theorem gv_all (P : bQ) : tb.globs.all (gvB (KK P) P) = true := by kernel_rfl
noncomputable def FX (prog : eZ) (w : World) (h : Heap) (mg mb : Str -> Option aJ) : Fx := { prog, w, h₀ := h, cls := clsA, T := tb, mg, mb, K := KK w.params, pr := prg, fn := fnAt }
theorem wk_once : ∀ (k k' : Nat) (x : Str), tb.attrs[k]? = some x -> tb.attrs[k']? = some x -> k = k' := by
 have hn : tb.attrs.Nodup := by decide +kernel
 intro k k' x h h'
 exact (List.getElem?_inj (aR.mp h).1 hn).mp (h.trans h'.symm)
theorem wk_apart : ∀ (n k : Nat) (x : Str), tb.meths[n]? = some x -> tb.attrs[k]? ≠ some x := by
 have h : tb.meths.all (λ x => !tb.attrs.contains x) = true := by decide +kernel
 intro n k x h1 h2
 have := aT.mp h x (a7 h1)
 rw [cJ.mpr (a7 h2)] at this
 cases this
noncomputable def clsB (K : Frag) (c : Nat) : Bool :=
 findIn K (.ref (clsA c)) "__getattribute__" == some (some (.builtin "object.__getattribute__")) && (findIn K (.ref (clsA c)) "__setattr__" == some (some (.builtin "object.__setattr__")) && (findIn K (.ref (clsA c)) "__getattr__" == some none &&
 (plainOver K (clsA c) && ((clsIn K (clsA c)).any (·.hasDict) && (makesIn K (clsA c) && (keepIn K (.ref (clsA c)) && tb.attrs.all (λ x => findIn K (.ref (clsA c)) x == some none)))))))
theorem cls_01 (P : bQ) : [0, 1].all (clsB (KK P)) = true := by kernel_rfl
noncomputable def initB (K : Frag) (p : Nat × Nat) : Bool := au p.1 2 && (findIn K (.ref (clsA p.1)) "__init__" == some (some (.ref (fnAt p.2))) && typeIn K (.ref (fnAt p.2)) == some (.type "function"))
noncomputable def methB (K : Frag) (p : (Nat × Nat) × Nat) : Bool := match tb.meths[p.1.2]? with
 | some x => findIn K (.ref (clsA p.1.1)) x == some (some (.ref (fnAt p.2))) && typeIn K (.ref (fnAt p.2)) == some (.type "function")
 | none => true
theorem init_all (P : bQ) : prg.init.all (initB (KK P)) = true := by kernel_rfl
theorem meth_all (P : bQ) : prg.meth.all (methB (KK P)) = true := by kernel_rfl
theorem bi_none (P : bQ) : biVal.all (λ p => nsIn (KK P) dT p.1 == some none) = true := by kernel_rfl
theorem bi_boot : biVal.all (λ p => bootBuiltins p.1 == some p.2 && p.1 != ("__name__" : Str)) = true := by kernel_rfl
end
section
set_option maxRecDepth 100000
set_option maxHeartbeats 400000
section
variable {prog : eZ} {w : World} {h : Heap} {mg mb : Str -> Option aJ}
theorem gv_at (P : bQ) {x : Str} {g : GV} (e : tb.globs.lookup x = some g) : gvB (KK P) P (x, g) = true := aT.mp (gv_all P) _ (mem_of_lookup e)
theorem gv_ok {P : bQ} {x : Str} {g : GV} (e : tb.globs.lookup x = some g) : ∃ v, nsIn (KK P) dT x = some (some v) ∧ gvV (KK P) P g v = true := by
 obtain ⟨o, h1, q⟩ := optB_ok (gv_at P e)
 obtain ⟨v, rfl, q⟩ := optB_ok q
 exact ⟨v, h1, q⟩
theorem look_all {β γ : Type} [BEq β] [LawfulBEq β] {l : List (β × γ)} {x : β} {y : γ} {p : β × γ -> Bool} (a : l.all p = true) (e : l.lookup x = some y) : p (x, y) = true := by
 induction l with
 | nil => exact nomatch e
 | cons q r ih =>
  rw [dn] at e
  split at e
  · rename_i z
    obtain rfl := aY e
    rw [eq_of_beq z]; exact fG a
  · exact ih (and2 a) e
theorem wk_head (X : (KK w.params).In h) : Wk (FX prog w h mg mb) := by
 have hc : ∀ c, c < 2 -> clsB (KK w.params) c = true := λ c hc => aT.mp (cls_01 w.params) c (b7.mpr hc)
 exact {
  kin := X
  once := wk_once
  ga := λ c h => eq_of_beq (fG (hc c h))
  sa := λ c h => eq_of_beq (fG (and2 (hc c h)))
  gattr := λ c h => eq_of_beq (fG (and2 (and2 (hc c h))))
  apart := wk_apart
  plain := λ c h => fG (and2 (and2 (and2 (hc c h))))
  hasd := λ c h => fG (and2 (and2 (and2 (and2 (hc c h)))))
  makes := λ c h => fG (and2 (and2 (and2 (and2 (and2 (hc c h))))))
  keep := λ c h => fG (and2 (and2 (and2 (and2 (and2 (and2 (hc c h)))))))
  noatt := λ c k x h e => eq_of_beq (aT.mp (and2 (and2 (and2 (and2 (and2 (and2 (and2 (hc c h)))))))) x (a7 e))
  init := λ c f e => by
   have q := look_all (init_all w.params) e
   exact ⟨a9.mp (fG q), eq_of_beq (fG (and2 q)), eq_of_beq (and2 (and2 q))⟩
  cini := λ x c e => by
   obtain ⟨v, h1, q⟩ := gv_ok (P := w.params) e
   exact ez.mp (and2 q)
  meth := λ c n f x e e2 => by
   have q := look_all (meth_all w.params) e
   unfold methB at q
   rw [show tb.meths[((c, n), f).1.2]? = some x from e2] at q
   exact ⟨eq_of_beq (fG q), eq_of_beq (and2 q)⟩ }
theorem wo_head (X : (KK w.params).In h) (G : h.Ns dT mg) (B : h.Ns builtinsNs mb) (lim : h.NoLimit) (hb : ∀ x : Str, x ≠ "__name__" -> mb x = bootBuiltins x) (sys : ∃ o, h.get? eB = some o) : Wo (FX prog w h mg mb) where
 g := G
 b := B
 lim := lim
 sys := sys
 data := λ x d e => by
  obtain ⟨v, h1, q⟩ := gv_ok (P := w.params) e
  exact ⟨v, mg_of X G h1, rdB_rd (F := FX prog w h mg mb) rfl X _ v q⟩
 fn := λ x f e => by
  obtain ⟨v, h1, q⟩ := gv_ok (P := w.params) e
  obtain rfl := eq_of_beq q
  exact mg_of X G h1
 fo := λ f => by
  have key : ∀ i fd, (i, fd) ∈ fl -> ∃ o fd, h.get? (fnAt i) = some o ∧ o.data = .func fd := λ i fd m =>
   ⟨_, _, X _ _ (at_map (rec_all w.params) m), rfl⟩
  by_cases c : f < prg.funs.length
  · have := nums_at (i := 0) (aO c)
    rw [bB] at this
    exact key f _ this
  · have e : fnAt f = fnAt 0 := by
     unfold fnAt
     rw [az, bS (show fnA.length <= f from Nat.not_lt.mp c)]; rfl
    show ∃ o fd, h.get? (fnAt f) = some o ∧ o.data = .func fd
    rw [e]
    exact key 0 _ (nums_at (i := 0) (j := 0) (l := prg.funs) rfl)
 cls := λ x c e => by
  obtain ⟨v, h1, q⟩ := gv_ok (P := w.params) e
  obtain rfl := eq_of_beq (fG q)
  exact mg_of X G h1
 bi := λ x v e _ => by
  have h1 := look_all (bi_none w.params) e
  have h2 := look_all bi_boot e
  exact ⟨mg_none_of X G (eq_of_beq h1), (hb x (bne_iff_ne.mp (and2 h2))).trans (eq_of_beq (fG h2))⟩
theorem base_head (X : (KK w.params).In h) (G : h.Ns dT mg) (B : h.Ns builtinsNs mb) (lim : h.NoLimit) (hb : ∀ x : Str, x ≠ "__name__" -> mb x = bootBuiltins x) (sys : ∃ o, h.get? eB = some o) : Base (FX prog w h mg mb) :=
 have W := wo_head X G B lim hb sys
 ⟨W, wk_head X, sort_all W, λ i fd e => fns_ok rfl rfl rfl rfl X i fd e⟩
theorem law_runs {s : aK} {fa l : av} {vs : List aJ} {xs : List Int} {Q : aJ -> aK -> Prop} {E : aJ -> aK -> Prop}
 (X : (KK w.params).In s.heap) (G : s.heap.Ns dT mg) (B : s.heap.Ns builtinsNs mb) (lim : s.heap.NoLimit) (hb : ∀ x : Str, x ≠ "__name__" -> mb x = bootBuiltins x) (sys : ∃ o, s.heap.get? eB = some o)
 (hmg : mg ("law" : Str) = some (.ref fa)) (g : s.heap.get? l = some { cls := .type "list", data := .seq vs.toArray }) (I : IntsAre vs xs) (hl : xs.length <= 63)
 (h : ∀ s' : aK, (∀ b o, s.heap.get? b = some o -> s'.heap.get? b = some o) -> s'.gens = s.gens -> s'.os = s.os -> Q (.bool true) s') : aQ (model prog w) callerA (call (.ref fa) [.ref l]) Q E s := by
 have Bh := base_head (prog := prog) X G B lim hb sys
 have hfa : fa = fnAt 58 := by
  have := Bh.wo.fn ("law" : Str) 58 (by kernel_rfl)
  exact aJ.ref.inj (aY (hmg.symm.trans this))
 subst hfa
 have S0 : St (FX prog w s.heap mg mb) s.heap [] [] := ⟨λ b o e => e, rfl, λ a ha => (no_own a ha).elim, λ a ha => (no_own a ha).elim, λ i j p q a h => (nomatch e6.symm.trans h), λ i c p h => (nomatch e6.symm.trans h)⟩
 have r0 : RVs (FX prog w s.heap mg mb) s.heap [] [.ref l] [.d (.list (xs.map .int))] := .cons (.d (.list (n := 0) g (no_own _) (ints_rd I))) .nil
 have hr : runN prg 40 58 [.d (.list (xs.map .int))] [] (λ v _ => v = .d (.bool true)) := Law.law_true xs hl λ σ => rfl
 refine wpAny_call (dZ (runN_sound Bh 40 58 [.d (.list (xs.map .int))] [.ref l] [] callerA s [] _ hr ⟨rfl, by decide, by decide⟩ S0 r0) λ r s' hq => ?_)
 obtain ⟨hv, rfl, q⟩ := hq
 cases q with
 | mk e f S' rv =>
  subst e
  obtain rfl : hv = .bool true := rv.rd.E (C := λ v => v = .bool true) rfl
  exact h s' (λ b o e => f.keep b o id (no_own b) e) f.gens f.os
end
end
end Mine
end
open PySem PySem.W PySem.Calls PyProof.Rows Mine
set_option maxRecDepth 100000 in
set_option maxHeartbeats 8000000 in
theorem PySem.Challenge.cw_xw0127_01_holds : PySem.Challenge.rw_xw0127_01.Holds :=
 Mine.H.hd' (by
  intro w s₀ s₁ mg mb G Y fa o pm cd doc dV kV ho hd1 hcd hD hmg hg args vals as hpre hlay hrd hwl hlo
  have KX : (Mine.H.K w.params).In s₁.heap := Y
  have hn : Mine.H.D.name = ("law" : Str) := by kernel_rfl
  rw [hn] at hmg
  refine Ground.open G ?_
  intro T B D TE TW
  wrow_args hpre hlay hrd hwl hlo
  rename_i hL ra w1 r0 hI hr hc hc'
  have sys : ∃ o, s₁.heap.get? sysModules = some o := by
    obtain ⟨mm, ⟨o, es, ep, e, _⟩, _⟩ := (T.seer (by decide +kernel)).mods
    exact ⟨o, e⟩
  cases w1 with
  | list g ws =>
    rename_i vs
    obtain ⟨o2, e1, _, n2, e2⟩ := hL
    rw [g] at e1
    cases e1
    simp only [Data.seq.injEq] at e2
    have e3 := congrArg Array.toList e2.1
    dsimp only at e3
    rw [← e3] at hI
    refine law_runs KX T.g T.b T.nolimit T.builtins sys hmg g hI (by omega) fun s' k hgens hos => ?_
    refine ⟨.inl ⟨_, .bool true, [], rfl, fun _ => rfl, ?_, ?_, fun _ => ⟨.nil, fun _ h => nomatch h⟩⟩, .of_keep k, hos, .of_eq (hgens.trans hg)⟩
    · exact .bool true
    · first | rfl | kernel_rfl)
