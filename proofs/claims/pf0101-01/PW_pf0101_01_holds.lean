import PyProof.Rows.All
import Wide.All
import OpenK.AllK
import Wide.FinOn
import PyProof.ExcInit
import PyProof.ExcBaseAll.Exception
import PyProof.InstStoreFacts
import PyProof.ExcAttrAll.Exception
import PySem.Challenge.RW_pf0101_01
/-! Ev -/
section
set_option Elab.async false
set_option genSizeOf false
set_option linter.all false
open PySem PySem.W PyProof.Rows
set_option maxRecDepth 100000
set_option genSizeOf false
namespace Mine
/-- a goal is hidden while what is known is taken apart -/
theorem byC {P : Prop} (h : ¬ P → False) : P := Classical.byContradiction h

/-- abstract values -/
inductive V where
  | none | bool (b : Bool) | int (i : Int) | str (s : List Nat) | tup (l : List V) | rng (a c : Int) (n : Nat) | obj (k : Nat)
  deriving Inhabited
/-- abstract objects; `flist`, `fdict`: frozen, read alone -/
inductive O where
  | list (l : List V) | flist (l : List V) | dict (es : List (Int × V)) | fdict (es : List (Int × V)) | sdict (es : List (List Nat × V)) | inst (c : Nat) (as : List (Nat × V))
  deriving Inhabited

inductive Op where | add | sub | mul | fdiv | mod | and | or | xor | shl | shr
  deriving DecidableEq
inductive Cm where | eq | ne | lt | le | gt | ge | is_ | isnt | in_ | notin
  deriving DecidableEq
inductive Bi where | range1 | range2 | range3 | len | str | sum
  deriving DecidableEq

mutual
/-- expressions -/
inductive X where
  | bad
  | cint (i : Int) | cstr (s : List Nat) | cbool (b : Bool) | cnone
  | loc (i : Nat) | glob (g : Nat)
  | bin (op : Op) (l r : X)
  | neg (x : X) | inv (x : X) | not (x : X)
  | and_ (l : List X) | or_ (l : List X)
  | cmp (op : Cm) (l r : X) | cmp2 (op1 op2 : Cm) (a b c : X)
  | ite (c : T) (a b : X)
  | call (f : Nat) (args : List X) | new (c : Nat) (args : List X)
  | bi (b : Bi) (args : List X)
  | append (o a : X) | join (s : X) (a : X) | find (o a : X) | lower (o : X) | get (o k d : X)
  | attr (o : X) (a : Nat)
  | idx (o i : X) | slice0 (o hi : X) | slice (o lo hi : X)
  | tup (l : List X) | list (l : List X) | dict0 | sdict (kvs : List X)
  | comp (elt : X) (slot : Nat) (iter : X) (ifs : List T) (caps : List Nat)
/-- tests -/
inductive T where
  | val (x : X) | not (t : T) | and_ (l : List T) | or_ (l : List T)
  | cmp (op : Cm) (l r : X) | cmp2 (op1 op2 : Cm) (a b c : X)
end

inductive S where
  | bad
  | assign (slot : Nat) (e : X) | assignTup (slots : List Nat) (e : X)
  | assignAttr (o : X) (a : Nat) (e : X) | assignIdx (o i e : X)
  | aug (slot : Nat) (op : Op) (e : X) | augAttr (o : X) (a : Nat) (op : Op) (e : X) | augIdx (o i : X) (op : Op) (e : X)
  | ret (e : X) | expr (e : X) | if_ (c : T) (t e : List S)
  | for_ (slot : Nat) (it : X) (body : List S) | forTup (slots : List Nat) (it : X) (body : List S)
  | while_ (c : T) (body : List S) | cont
  | raise_ (e : X) | tryRet (f : Nat) (args : List X)
  deriving Inhabited

/-- how a call ends -/
inductive CR where | ret (v : V) | exc (v : V)
  deriving Inhabited
/-- how a statement ends -/
inductive R where | next | cont | ret (v : V) | exc (v : V)
  deriving Inhabited

noncomputable abbrev Hp := List O
noncomputable abbrev Lo := List (Option V)
noncomputable abbrev CF := Nat → List V → Hp → Option (CR × Hp)
structure Cx where
  cf : CF
  gl : List V
  init : Nat → Nat      -- the __init__ of a class

/-! looks: a value's shape, without matchers -/
section
variable {α β : Type}
noncomputable def onV (v : V) (n : α) (b : Bool → α) (i : Int → α) (s : List Nat → α) (t : List V → α) (r : Int → Int → Nat → α) (o : Nat → α) : α := @V.casesOn (fun q_ => α) v n b i s t r o
noncomputable def onO (x : Option O) (n : α) (l : List V → α) (fl : List V → α) (d : List (Int × V) → α) (fd : List (Int × V) → α) (sd : List (List Nat × V) → α) (ins : Nat → List (Nat × V) → α) : α :=
  Option.casesOn (motive := fun q_ => α) x n fun o => O.casesOn (motive := fun q_ => α) o l fl d fd sd ins
noncomputable def vInt (v : V) (f : Int → Option α) : Option α := onV v none (fun q_ => none) f (fun q_ => none) (fun q_ => none) (fun q_ q_ q_ => none) fun q_ => none
noncomputable def vStr (v : V) (f : List Nat → Option α) : Option α := onV v none (fun q_ => none) (fun q_ => none) f (fun q_ => none) (fun q_ q_ q_ => none) fun q_ => none
noncomputable def vTup (v : V) (f : List V → Option α) : Option α := onV v none (fun q_ => none) (fun q_ => none) (fun q_ => none) f (fun q_ q_ q_ => none) fun q_ => none
noncomputable def vObj (v : V) (f : Nat → Option α) : Option α := onV v none (fun q_ => none) (fun q_ => none) (fun q_ => none) (fun q_ => none) (fun q_ q_ q_ => none) f
noncomputable def vNone (v : V) (x : Option α) : Option α := onV v x (fun q_ => none) (fun q_ => none) (fun q_ => none) (fun q_ => none) (fun q_ q_ q_ => none) fun q_ => none
noncomputable def oList (x : Option O) (f : List V → Option α) : Option α := onO x none f (fun q_ => none) (fun q_ => none) (fun q_ => none) (fun q_ => none) fun q_ q_ => none
noncomputable def oD (x : Option O) (f : List (Int × V) → Option α) : Option α := onO x none (fun q_ => none) (fun q_ => none) f (fun q_ => none) (fun q_ => none) fun q_ q_ => none
noncomputable def oSd (x : Option O) (f : List (List Nat × V) → Option α) : Option α := onO x none (fun q_ => none) (fun q_ => none) (fun q_ => none) (fun q_ => none) f fun q_ q_ => none
noncomputable def oInst (x : Option O) (f : Nat → List (Nat × V) → Option α) : Option α := onO x none (fun q_ => none) (fun q_ => none) (fun q_ => none) (fun q_ => none) (fun q_ => none) f
noncomputable def natI (i : Int) (f : Nat → Option α) : Option α := Int.casesOn (motive := fun q_ => Option α) i f fun q_ => none
noncomputable def vNat (v : V) (f : Nat → Option α) : Option α := vInt v fun i => natI i f
noncomputable def grd (b : Bool) (x : Option α) : Option α := Bool.casesOn (motive := fun q_ => Option α) b none x
noncomputable def lCons (l : List β) (f : β → List β → Option α) : Option α := List.casesOn (motive := fun q_ => Option α) l none f
noncomputable def lNil (l : List β) (x : Option α) : Option α := List.casesOn (motive := fun q_ => Option α) l x fun q_ q_ => none
noncomputable def sGet (o : Option (Option V)) (f : V → Option α) : Option α := Option.casesOn (motive := fun q_ => Option α) o none fun o => Option.casesOn (motive := fun q_ => Option α) o none f
noncomputable def crRet (r : CR) (f : V → Option α) : Option α := CR.casesOn (motive := fun q_ => Option α) r f fun q_ => none
noncomputable def lOne (l : List β) (f : β → Option α) : Option α := lCons l fun a r => lNil r (f a)
noncomputable def lTwo (l : List β) (f : β → β → Option α) : Option α := lCons l fun a r => lOne r fun b => f a b
noncomputable def opAdd (op : Op) (x : Option α) : Option α := Op.casesOn (motive := fun q_ => Option α) op x none none none none none none none none none
noncomputable def opMul (op : Op) (x : Option α) : Option α := Op.casesOn (motive := fun q_ => Option α) op none none x none none none none none none none
/-- a step 1 or -1 -/
noncomputable def stepI (c : Int) (x y : Option α) : Option α := Int.casesOn (motive := fun q_ => Option α) c (fun n => Nat.casesOn (motive := fun q_ => Option α) n none fun m => Nat.casesOn (motive := fun q_ => Option α) m x fun q_ => none)
  fun n => Nat.casesOn (motive := fun q_ => Option α) n y fun q_ => none
variable {n : α} {b : Bool → α} {i : Int → α} {s : List Nat → α} {t : List V → α} {r : Int → Int → Nat → α} {o : Nat → α}
@[simp] theorem onV_none : onV .none n b i s t r o = n := rfl
@[simp] theorem onV_bool {x : Bool} : onV (.bool x) n b i s t r o = b x := rfl
@[simp] theorem onV_int {x : Int} : onV (.int x) n b i s t r o = i x := rfl
@[simp] theorem onV_str {x : List Nat} : onV (.str x) n b i s t r o = s x := rfl
@[simp] theorem onV_tup {x : List V} : onV (.tup x) n b i s t r o = t x := rfl
@[simp] theorem onV_rng {x y : Int} {z : Nat} : onV (.rng x y z) n b i s t r o = r x y z := rfl
@[simp] theorem onV_obj {x : Nat} : onV (.obj x) n b i s t r o = o x := rfl
variable {l : List V → α} {fl : List V → α} {d : List (Int × V) → α} {fd : List (Int × V) → α} {sd : List (List Nat × V) → α} {ins : Nat → List (Nat × V) → α}
@[simp] theorem onO_none : onO none n l fl d fd sd ins = n := rfl
@[simp] theorem onO_list {x : List V} : onO (some (.list x)) n l fl d fd sd ins = l x := rfl
@[simp] theorem onO_fl {x : List V} : onO (some (.flist x)) n l fl d fd sd ins = fl x := rfl
@[simp] theorem onO_d {x : List (Int × V)} : onO (some (.dict x)) n l fl d fd sd ins = d x := rfl
@[simp] theorem onO_fd {x : List (Int × V)} : onO (some (.fdict x)) n l fl d fd sd ins = fd x := rfl
@[simp] theorem onO_sd {x : List (List Nat × V)} : onO (some (.sdict x)) n l fl d fd sd ins = sd x := rfl
@[simp] theorem onO_inst {c : Nat} {x : List (Nat × V)} : onO (some (.inst c x)) n l fl d fd sd ins = ins c x := rfl
@[simp] theorem vInt_int {x : Int} {f : Int → Option α} : vInt (.int x) f = f x := rfl
@[simp] theorem vStr_str {x : List Nat} {f : List Nat → Option α} : vStr (.str x) f = f x := rfl
@[simp] theorem vTup_tup {x : List V} {f : List V → Option α} : vTup (.tup x) f = f x := rfl
@[simp] theorem vObj_obj {x : Nat} {f : Nat → Option α} : vObj (.obj x) f = f x := rfl
@[simp] theorem vNone_none {x : Option α} : vNone .none x = x := rfl
@[simp] theorem oList_list {x : List V} {f : List V → Option α} : oList (some (.list x)) f = f x := rfl
@[simp] theorem oD_d {x : List (Int × V)} {f : List (Int × V) → Option α} : oD (some (.dict x)) f = f x := rfl
@[simp] theorem oSd_sd {x : List (List Nat × V)} {f : List (List Nat × V) → Option α} : oSd (some (.sdict x)) f = f x := rfl
@[simp] theorem oInst_inst {c : Nat} {x : List (Nat × V)} {f : Nat → List (Nat × V) → Option α} : oInst (some (.inst c x)) f = f c x := rfl
@[simp] theorem natI_nat {x : Nat} {f : Nat → Option α} : natI (x : Int) f = f x := rfl
@[simp] theorem natI_ofNat {x : Nat} {f : Nat → Option α} : natI (.ofNat x) f = f x := rfl
@[simp] theorem natI_0 {f : Nat → Option α} : natI 0 f = f 0 := rfl
@[simp] theorem natI_1 {f : Nat → Option α} : natI 1 f = f 1 := rfl
@[simp] theorem natI_2 {f : Nat → Option α} : natI 2 f = f 2 := rfl
@[simp] theorem natI_3 {f : Nat → Option α} : natI 3 f = f 3 := rfl
@[simp] theorem natI_4 {f : Nat → Option α} : natI 4 f = f 4 := rfl
@[simp] theorem natI_5 {f : Nat → Option α} : natI 5 f = f 5 := rfl
@[simp] theorem natI_6 {f : Nat → Option α} : natI 6 f = f 6 := rfl
@[simp] theorem natI_7 {f : Nat → Option α} : natI 7 f = f 7 := rfl
@[simp] theorem natI_8 {f : Nat → Option α} : natI 8 f = f 8 := rfl
@[simp] theorem natI_12 {f : Nat → Option α} : natI 12 f = f 12 := rfl
@[simp] theorem natI_14 {f : Nat → Option α} : natI 14 f = f 14 := rfl
@[simp] theorem natI_16 {f : Nat → Option α} : natI 16 f = f 16 := rfl
@[simp] theorem vNat_int {x : Int} {f : Nat → Option α} : vNat (.int x) f = natI x f := rfl
@[simp] theorem grd_true {x : Option α} : grd true x = x := rfl
@[simp] theorem grd_false {x : Option α} : grd false x = none := rfl
@[simp] theorem lCons_cons {a : β} {r : List β} {f : β → List β → Option α} : lCons (a :: r) f = f a r := rfl
@[simp] theorem lCons_nil {f : β → List β → Option α} : lCons [] f = none := rfl
@[simp] theorem lNil_nil {x : Option α} : lNil ([] : List β) x = x := rfl
@[simp] theorem sGet_some {v : V} {f : V → Option α} : sGet (some (some v)) f = f v := rfl
@[simp] theorem crRet_ret {v : V} {f : V → Option α} : crRet (.ret v) f = f v := rfl
@[simp] theorem lOne_one {a : β} {f : β → Option α} : lOne [a] f = f a := rfl
@[simp] theorem lTwo_two {a b : β} {f : β → β → Option α} : lTwo [a, b] f = f a b := rfl
@[simp] theorem opAdd_add {x : Option α} : opAdd .add x = x := rfl
@[simp] theorem opMul_mul {x : Option α} : opMul .mul x = x := rfl
@[simp] theorem stepI_one {x y : Option α} : stepI 1 x y = x := rfl
@[simp] theorem stepI_neg {x y : Option α} : stepI (-1) x y = y := rfl
/-- what a look that gives something says -/
theorem nope {P : Prop} {r : α} (h : none = some r) : P := by cases h
variable {P : Prop} {v : V} {x : Option O} {q : α}
theorem vInt_in {f : Int → Option α} (h : vInt v f = some q) (k : ∀ i, v = .int i → f i = some q → P) : P := by cases v with | int i => exact k i rfl h | _ => exact nope h
theorem vStr_in {f : List Nat → Option α} (h : vStr v f = some q) (k : ∀ i, v = .str i → f i = some q → P) : P := by cases v with | str i => exact k i rfl h | _ => exact nope h
theorem vTup_in {f : List V → Option α} (h : vTup v f = some q) (k : ∀ i, v = .tup i → f i = some q → P) : P := by cases v with | tup i => exact k i rfl h | _ => exact nope h
theorem vObj_in {f : Nat → Option α} (h : vObj v f = some q) (k : ∀ i, v = .obj i → f i = some q → P) : P := by cases v with | obj i => exact k i rfl h | _ => exact nope h
theorem vNone_in {y : Option α} (h : vNone v y = some q) (k : v = .none → y = some q → P) : P := by cases v with | none => exact k rfl h | _ => exact nope h
theorem oList_in {f : List V → Option α} (h : oList x f = some q) (k : ∀ l, x = some (.list l) → f l = some q → P) : P := by
  cases x with
  | none => exact nope h
  | some o => cases o with | list l => exact k l rfl h | _ => exact nope h
theorem oD_in {f : List (Int × V) → Option α} (h : oD x f = some q) (k : ∀ l, x = some (.dict l) → f l = some q → P) : P := by
  cases x with
  | none => exact nope h
  | some o => cases o with | dict l => exact k l rfl h | _ => exact nope h
theorem oSd_in {f : List (List Nat × V) → Option α} (h : oSd x f = some q) (k : ∀ l, x = some (.sdict l) → f l = some q → P) : P := by
  cases x with
  | none => exact nope h
  | some o => cases o with | sdict l => exact k l rfl h | _ => exact nope h
theorem oInst_in {f : Nat → List (Nat × V) → Option α} (h : oInst x f = some q) (k : ∀ c l, x = some (.inst c l) → f c l = some q → P) : P := by
  cases x with
  | none => exact nope h
  | some o => cases o with | inst c l => exact k c l rfl h | _ => exact nope h
theorem natI_in {i : Int} {f : Nat → Option α} (h : natI i f = some q) (k : ∀ n : Nat, i = n → f n = some q → P) : P := by cases i with | ofNat n => exact k n rfl h | negSucc n => exact nope h
theorem vNat_in {f : Nat → Option α} (h : vNat v f = some q) (k : ∀ n : Nat, v = .int n → f n = some q → P) : P := vInt_in h fun q_ e h => natI_in h fun n e2 h => k n (by rw [e, e2]) h
theorem grd_in {b : Bool} {y : Option α} (h : grd b y = some q) (k : b = true → y = some q → P) : P := by cases b with | true => exact k rfl h | false => exact nope h
theorem lCons_in {l : List β} {f : β → List β → Option α} (h : lCons l f = some q) (k : ∀ a r, l = a :: r → f a r = some q → P) : P := by cases l with | cons a r => exact k a r rfl h | nil => exact nope h
theorem lNil_in {l : List β} {y : Option α} (h : lNil l y = some q) (k : l = [] → y = some q → P) : P := by cases l with | nil => exact k rfl h | cons a r => exact nope h
theorem sGet_in {o : Option (Option V)} {f : V → Option α} (h : sGet o f = some q) (k : ∀ v, o = some (some v) → f v = some q → P) : P := by
  cases o with
  | none => exact nope h
  | some o => cases o with | none => exact nope h | some v => exact k v rfl h
theorem crRet_in {o : CR} {f : V → Option α} (h : crRet o f = some q) (k : ∀ v, o = .ret v → f v = some q → P) : P := by cases o with | ret v => exact k v rfl h | exc v => exact nope h
theorem lOne_in {l : List β} {f : β → Option α} (h : lOne l f = some q) (k : ∀ a, l = [a] → f a = some q → P) : P := lCons_in h fun a q_ e h => lNil_in h fun e2 h => k a (by rw [e, e2]) h
theorem lTwo_in {l : List β} {f : β → β → Option α} (h : lTwo l f = some q) (k : ∀ a b, l = [a, b] → f a b = some q → P) : P := lCons_in h fun a q_ e h => lOne_in h fun b e2 h => k a b (by rw [e, e2]) h
theorem opAdd_in {op : Op} {y : Option α} (h : opAdd op y = some q) (k : op = .add → y = some q → P) : P := by cases op with | add => exact k rfl h | _ => exact nope h
theorem opMul_in {op : Op} {y : Option α} (h : opMul op y = some q) (k : op = .mul → y = some q → P) : P := by cases op with | mul => exact k rfl h | _ => exact nope h
theorem stepI_in {c : Int} {x y : Option α} (h : stepI c x y = some q) (k1 : c = 1 → x = some q → P) (k2 : c = -1 → y = some q → P) : P := by
  cases c with
  | ofNat n =>
    cases n with
    | zero => exact nope h
    | succ m => cases m with | zero => exact k1 rfl h | succ _ => exact nope h
  | negSucc n => cases n with | zero => exact k2 rfl h | succ _ => exact nope h
theorem bind_in {γ : Type} {o : Option γ} {f : γ → Option α} (h : o.bind f = some q) (k : ∀ a, o = some a → f a = some q → P) : P := by cases o with | none => exact nope h | some a => exact k a rfl h
theorem some_in {a b : α} (h : some a = some b) (k : a = b → P) : P := k (Option.some.inj h)
end

/-! the pure operations -/
noncomputable def small (a : Int) : Bool := Nat.blt a.natAbs 18446744073709551616
noncomputable def ibin (op : Op) (a b : Int) : Option Int := Op.casesOn (motive := fun q_ => Option Int) op
  (some (a + b))
  (some (a - b))
  (grd (small a) (some (a * b)))
  (grd (!(b == 0)) (grd (small a && Nat.blt b.natAbs 1073741824) (some (Int.fdiv a b))))
  (grd (!(b == 0)) (some (Int.fmod a b)))
  (some (Builtin.bitAnd a b))
  (some (Builtin.bitOr a b))
  (some (Builtin.bitXor a b))
  (natI b fun n => grd (small a && Nat.ble n 1000000) (some (a * Int.ofNat (2 ^ n))))
  (natI b fun n => some (Int.fdiv a (Int.ofNat (2 ^ n))))
section
variable {a b : Int}
@[simp] theorem ibin_add : ibin .add a b = some (a + b) := rfl
@[simp] theorem ibin_sub : ibin .sub a b = some (a - b) := rfl
@[simp] theorem ibin_mul : ibin .mul a b = grd (small a) (some (a * b)) := rfl
@[simp] theorem ibin_fdiv : ibin .fdiv a b = grd (!(b == 0)) (grd (small a && Nat.blt b.natAbs 1073741824) (some (Int.fdiv a b))) := rfl
@[simp] theorem ibin_mod : ibin .mod a b = grd (!(b == 0)) (some (Int.fmod a b)) := rfl
@[simp] theorem ibin_and : ibin .and a b = some (Builtin.bitAnd a b) := rfl
@[simp] theorem ibin_or : ibin .or a b = some (Builtin.bitOr a b) := rfl
@[simp] theorem ibin_xor : ibin .xor a b = some (Builtin.bitXor a b) := rfl
@[simp] theorem ibin_shl : ibin .shl a b = natI b fun n => grd (small a && Nat.ble n 1000000) (some (a * Int.ofNat (2 ^ n))) := rfl
@[simp] theorem ibin_shr : ibin .shr a b = natI b fun n => some (Int.fdiv a (Int.ofNat (2 ^ n))) := rfl
end

noncomputable def fits (n : Nat) : Bool := Nat.ble n 100000
noncomputable def allInt : List V → Option (List Int)
  | [] => some []
  | v :: r => vInt v fun i => (allInt r).bind fun l => some (i :: l)
noncomputable def allStr : List V → Option (List (List Nat))
  | [] => some []
  | v :: r => vStr v fun i => (allStr r).bind fun l => some (i :: l)

noncomputable def rep (n : Nat) (l : List V) : List V := match n with | 0 => [] | n + 1 => l ++ rep n l

noncomputable def binV (op : Op) (a b : V) (H : Hp) : Option (V × Hp) := onV a none (fun q_ => none)
  (fun x => vInt b fun y => (ibin op x y).bind fun z => some (.int z, H))
  (fun x => vStr b fun y => opAdd op (grd (fits (x.length + y.length)) (some (.str (x ++ y), H))))
  (fun q_ => none) (fun q_ q_ q_ => none)
  fun k => onV b none (fun q_ => none)
    (fun y => opMul op (oList H[k]? fun l => lOne l fun x => natI y fun n => grd (fits n) (some (.obj H.length, H ++ [.list (List.replicate n x)]))))
    (fun q_ => none) (fun q_ => none) (fun q_ q_ q_ => none)
    fun j => opAdd op (oList H[k]? fun x => oList H[j]? fun y => grd (fits (x.length + y.length)) (some (.obj H.length, H ++ [.list (x ++ y)])))

noncomputable def eqInts : List Int → List Int → Bool
  | [], b => b.isEmpty
  | a :: r, l => List.casesOn (motive := fun q_ => Bool) l false fun b s => (a == b) && eqInts r s
noncomputable def eqNats : List Nat → List Nat → Bool
  | [], b => b.isEmpty
  | a :: r, l => List.casesOn (motive := fun q_ => Bool) l false fun b s => (Nat.beq a b) && eqNats r s
@[simp] theorem eqInts_nil {b : List Int} : eqInts [] b = b.isEmpty := rfl
@[simp] theorem eqInts_cons {a b : Int} {r s : List Int} : eqInts (a :: r) (b :: s) = ((a == b) && eqInts r s) := rfl
@[simp] theorem eqNats_nil {b : List Nat} : eqNats [] b = b.isEmpty := rfl
@[simp] theorem eqNats_cons {a b : Nat} {r s : List Nat} : eqNats (a :: r) (b :: s) = ((Nat.beq a b) && eqNats r s) := rfl
noncomputable def allTup : List V → Option (List (List Int))
  | [] => some []
  | v :: r => vTup v fun l => (allInt l).bind fun l => (allTup r).bind fun t => some (l :: t)
noncomputable def memT (l : List Int) : List (List Int) → Bool
  | [] => false
  | l' :: r => eqInts l' l || memT l r
noncomputable def getI (k : Int) : List (Int × V) → Option V
  | [] => none
  | (j, v) :: r => match j == k with | true => some v | false => getI k r
noncomputable def mapI (k : Int) (v : V) : List (Int × V) → List (Int × V)
  | [] => []
  | (j, w) :: r => match j == k with | true => (j, v) :: mapI k v r | false => (j, w) :: mapI k v r
noncomputable def putI (k : Int) (v : V) (es : List (Int × V)) : List (Int × V) := match (getI k es).isSome with
  | true => mapI k v es
  | false => es ++ [(k, v)]
noncomputable def getS (k : List Nat) : List (List Nat × V) → Option V
  | [] => none
  | (j, v) :: r => match eqNats j k with | true => some v | false => getS k r
noncomputable def mapS (k : List Nat) (v : V) : List (List Nat × V) → List (List Nat × V)
  | [] => []
  | (j, w) :: r => match eqNats j k with | true => (j, v) :: mapS k v r | false => (j, w) :: mapS k v r
noncomputable def putS (k : List Nat) (v : V) (es : List (List Nat × V)) : List (List Nat × V) := match (getS k es).isSome with
  | true => mapS k v es
  | false => es ++ [(k, v)]
/-- two rows of ints -/
noncomputable def eqL (x y : List V) : Option Bool := (allInt x).bind fun x => (allInt y).bind fun y => some (eqInts x y)
noncomputable def eqV (a b : V) (H : Hp) : Option Bool := onV a none (fun q_ => none)
  (fun x => vInt b fun y => some (x == y))
  (fun x => vStr b fun y => some (eqNats x y))
  (fun x => vTup b fun y => eqL x y)
  (fun q_ q_ q_ => none)
  fun k => vObj b fun j => oList H[k]? fun x => oList H[j]? fun y => eqL x y
noncomputable def isNone (v : V) : Bool := onV v true (fun q_ => false) (fun q_ => false) (fun q_ => false) (fun q_ => false) (fun q_ q_ q_ => false) fun q_ => false
noncomputable def inV (a b : V) (H : Hp) : Option Bool := onV a none (fun q_ => none)
  (fun i => vObj b fun k => oD H[k]? fun es => some (getI i es).isSome)
  (fun q_ => none)
  (fun l => vObj b fun k => (allInt l).bind fun l => oList H[k]? fun xs => (allTup xs).bind fun ts => some (memT l ts))
  (fun q_ q_ q_ => none) fun q_ => none
noncomputable def cmpV (op : Cm) (a b : V) (H : Hp) : Option Bool := Cm.casesOn (motive := fun q_ => Option Bool) op
  (eqV a b H)
  ((eqV a b H).bind fun r => some (!r))
  (vInt a fun x => vInt b fun y => some (decide (x < y)))
  (vInt a fun x => vInt b fun y => some (decide (x ≤ y)))
  (vInt a fun x => vInt b fun y => some (decide (y < x)))
  (vInt a fun x => vInt b fun y => some (decide (y ≤ x)))
  (vNone b (some (isNone a)))
  (vNone b (some (!isNone a)))
  (inV a b H)
  ((inV a b H).bind fun r => some (!r))
section
variable {a b : V} {H : Hp}
@[simp] theorem cmpV_eq : cmpV .eq a b H = eqV a b H := rfl
@[simp] theorem cmpV_ne : cmpV .ne a b H = (eqV a b H).bind fun r => some (!r) := rfl
@[simp] theorem cmpV_lt : cmpV .lt a b H = vInt a fun x => vInt b fun y => some (decide (x < y)) := rfl
@[simp] theorem cmpV_le : cmpV .le a b H = vInt a fun x => vInt b fun y => some (decide (x ≤ y)) := rfl
@[simp] theorem cmpV_gt : cmpV .gt a b H = vInt a fun x => vInt b fun y => some (decide (y < x)) := rfl
@[simp] theorem cmpV_ge : cmpV .ge a b H = vInt a fun x => vInt b fun y => some (decide (y ≤ x)) := rfl
@[simp] theorem cmpV_is : cmpV .is_ a b H = vNone b (some (isNone a)) := rfl
@[simp] theorem cmpV_isnt : cmpV .isnt a b H = vNone b (some (!isNone a)) := rfl
@[simp] theorem cmpV_in : cmpV .in_ a b H = inV a b H := rfl
@[simp] theorem cmpV_notin : cmpV .notin a b H = (inV a b H).bind fun r => some (!r) := rfl
end
noncomputable def truthyV (v : V) : Option Bool := onV v (some false) some (fun i => some (i != 0)) (fun q_ => none) (fun q_ => none) (fun q_ q_ q_ => none) fun q_ => none

noncomputable def getAttr' (a : Nat) : List (Nat × V) → Option V
  | [] => none
  | (b, v) :: r => match Nat.beq b a with | true => some v | false => getAttr' a r
noncomputable def putAttr (a : Nat) (v : V) : List (Nat × V) → List (Nat × V)
  | [] => [(a, v)]
  | (b, w) :: r => match Nat.beq b a with | true => (a, v) :: r | false => (b, w) :: putAttr a v r
noncomputable def attrV (o : V) (a : Nat) (H : Hp) : Option V := vObj o fun k => oInst H[k]? fun q_ as => getAttr' a as
noncomputable def setAttrV (o : V) (a : Nat) (v : V) (H : Hp) : Option Hp := vObj o fun k => oInst H[k]? fun c as => grd (Nat.ble as.length 500) (some (H.set k (.inst c (putAttr a v as))))
noncomputable def idxV (o i : V) (H : Hp) : Option V := onV o none (fun q_ => none) (fun q_ => none)
  (fun s => vNat i fun n => grd (fits n) ((s[n]?).bind fun c => some (.str [c])))
  (fun l => vNat i fun n => grd (fits n) l[n]?)
  (fun q_ q_ q_ => none)
  fun k => onO H[k]? none
    (fun l => vNat i fun n => grd (fits n) l[n]?) (fun q_ => none)
    (fun es => vInt i fun i => getI i es)
    (fun es => vInt i fun i => getI i es)
    (fun es => vStr i fun s => getS s es)
    fun q_ q_ => none
noncomputable def setIdxV (o i v : V) (H : Hp) : Option Hp := vObj o fun k => onO H[k]? none
  (fun l => vNat i fun n => grd (fits n && Nat.blt n l.length) (some (H.set k (.list (l.set n v))))) (fun q_ => none)
  (fun es => vInt i fun i => grd (fits es.length) (some (H.set k (.dict (putI i v es)))))
  (fun q_ => none)
  (fun es => vStr i fun i => grd (fits es.length) (some (H.set k (.sdict (putS i v es)))))
  fun q_ q_ => none
noncomputable def sliceV (o : V) (lo : Nat) (hi : V) (H : Hp) : Option (V × Hp) := vNat hi fun h => grd (fits h) (vObj o fun k => onO H[k]? none
  (fun l => grd (fits l.length) (some (.obj H.length, H ++ [.list ((l.take h).drop lo)])))
  (fun l => grd (fits l.length) (some (.obj H.length, H ++ [.list ((l.take h).drop lo)])))
  (fun q_ => none) (fun q_ => none) (fun q_ => none) fun q_ q_ => none)

noncomputable def rngL (a c : Int) : Nat → List V
  | 0 => []
  | n + 1 => .int a :: rngL (a + c) c n
noncomputable def rngN (a b c : Int) : Option Nat := grd (Nat.blt a.natAbs 1000000000 && Nat.blt b.natAbs 1000000000) (stepI c (some (b - a).toNat) (some (a - b).toNat))
noncomputable def joinL (sep : List Nat) : List (List Nat) → List Nat
  | [] => []
  | [x] => x
  | x :: r => x ++ sep ++ joinL sep r
noncomputable def digits (n : Nat) : List Nat := (Nat.toDigits 10 n).map Char.toNat
noncomputable def sumL : List Int → Int → Int
  | [], a => a
  | x :: r, a => sumL r (a + x)
noncomputable def findL (c : Nat) : List Nat → Nat → Int
  | [], _ => -1
  | x :: r, i => match Nat.beq x c with | true => Int.ofNat i | false => findL c r (i + 1)
noncomputable def lowerC (c : Nat) : Nat := match Nat.ble 65 c && Nat.ble c 90 with | true => c + 32 | false => c
noncomputable def ascii (s : List Nat) : Bool := s.all fun c => Nat.blt c 128

noncomputable def biV (b : Bi) (args : List V) (H : Hp) : Option (V × Hp) := Bi.casesOn (motive := fun q_ => Option (V × Hp)) b
  (lOne args fun v => vInt v fun b => (rngN 0 b 1).bind fun n => some (.rng 0 1 n, H))
  (lTwo args fun v w => vInt v fun a => vInt w fun b => (rngN a b 1).bind fun n => some (.rng a 1 n, H))
  (lCons args fun u r => lTwo r fun v w => vInt u fun a => vInt v fun b => vInt w fun c => (rngN a b c).bind fun n => some (.rng a c n, H))
  (lOne args fun v => onV v none (fun q_ => none) (fun q_ => none)
    (fun s => grd (fits s.length) (some (.int (Int.ofNat s.length), H)))
    (fun q_ => none) (fun q_ q_ q_ => none)
    fun k => oList H[k]? fun l => grd (fits l.length) (some (.int (Int.ofNat l.length), H)))
  (lOne args fun v => vNat v fun n => grd (Nat.blt n 100) (some (.str (digits n), H)))
  (lOne args fun v => vObj v fun k => oList H[k]? fun l => (allInt l).bind fun l => some (.int (sumL l 0), H))
section
variable {a b c v : V} {H : Hp}
@[simp] theorem biV_r1 : biV .range1 [v] H = vInt v fun b => (rngN 0 b 1).bind fun n => some (.rng 0 1 n, H) := rfl
@[simp] theorem biV_r2 : biV .range2 [a, b] H = vInt a fun a => vInt b fun b => (rngN a b 1).bind fun n => some (.rng a 1 n, H) := rfl
@[simp] theorem biV_r3 : biV .range3 [a, b, c] H = vInt a fun a => vInt b fun b => vInt c fun c => (rngN a b c).bind fun n => some (.rng a c n, H) := rfl
@[simp] theorem biV_len {k : Nat} : biV .len [.obj k] H = oList H[k]? fun l => grd (fits l.length) (some (.int (Int.ofNat l.length), H)) := rfl
@[simp] theorem biV_lens {s : List Nat} : biV .len [.str s] H = grd (fits s.length) (some (.int (Int.ofNat s.length), H)) := rfl
@[simp] theorem biV_str : biV .str [v] H = vNat v fun n => grd (Nat.blt n 100) (some (.str (digits n), H)) := rfl
@[simp] theorem biV_sum : biV .sum [v] H = vObj v fun k => oList H[k]? fun l => (allInt l).bind fun l => some (.int (sumL l 0), H) := rfl
end

noncomputable def totalLen : List (List Nat) → Nat
  | [] => 0
  | x :: r => x.length + totalLen r
noncomputable def joinV (s a : V) (H : Hp) : Option V := vStr s fun s => vObj a fun k => oList H[k]? fun l => (allStr l).bind fun l => grd (fits ((s.length + 1) * (l.length + 1) + totalLen l)) (some (.str (joinL s l)))
noncomputable def letters : List Nat := [46, 80, 78, 66, 82, 81, 75, 46, 46, 112, 110, 98, 114, 113, 107]
noncomputable def findV (o a : V) : Option V := vStr o fun s => vStr a fun t => lOne t fun c => grd (eqNats s letters && Nat.blt c 128) (some (.int (findL c letters 0)))
noncomputable def lowerV (o : V) : Option V := vStr o fun t => lOne t fun c => grd (Nat.blt c 128) (some (.str [lowerC c]))
noncomputable def getV (o k d : V) (H : Hp) : Option V := vObj o fun j => oD H[j]? fun es => vInt k fun k => some ((getI k es).getD d)
noncomputable def appendV (o v : V) (H : Hp) : Option Hp := vObj o fun k => oList H[k]? fun l => grd (fits l.length) (some (H.set k (.list (l ++ [v]))))
noncomputable def isListV (o : V) (H : Hp) : Bool := (vObj o fun k => oList H[k]? some).isSome
noncomputable def isDictV (o : V) (H : Hp) : Bool := (vObj o fun k => oD H[k]? some).isSome
/-- the n-th item of what is iterated: some none: at its end -/
noncomputable def nextV (o : V) (H : Hp) (n : Nat) : Option (Option V) := onV o none (fun q_ => none) (fun q_ => none)
  (fun s => grd (ascii s) (some ((s[n]?).bind fun c => some (.str [c]))))
  (fun l => some l[n]?)
  (fun a c m => some (grd (Nat.blt n m) (some (.int (a + Int.ofNat n * c)))))
  fun k => onO H[k]? none (fun l => some l[n]?) (fun q_ => none) (fun q_ => none) (fun es => some ((es[n]?).bind fun e => some (.int e.1))) (fun q_ => none) fun q_ q_ => none
/-- what is iterated: a dict is frozen meanwhile -/
noncomputable def freeze (o : V) (H : Hp) : Option Hp := onV o none (fun q_ => none) (fun q_ => none)
  (fun s => grd (ascii s && fits s.length) (some H))
  (fun l => grd (fits l.length) (some H))
  (fun q_ q_ m => grd (fits m) (some H))
  fun k => onO H[k]? none (fun q_ => some H) (fun q_ => none) (fun es => grd (fits es.length) (some (H.set k (.fdict es)))) (fun q_ => none) (fun q_ => none) fun q_ q_ => none
noncomputable def thaw (o : V) (H : Hp) : Hp := onV o H (fun q_ => H) (fun q_ => H) (fun q_ => H) (fun q_ => H) (fun q_ q_ q_ => H)
  fun k => onO H[k]? H (fun q_ => H) (fun q_ => H) (fun q_ => H) (fun es => H.set k (.dict es)) (fun q_ => H) fun q_ q_ => H

theorem onO_in {α : Type} {P : Prop} {x : Option O} {q : α} {l fl : List V → Option α} {d fd : List (Int × V) → Option α} {sd : List (List Nat × V) → Option α} {ins : Nat → List (Nat × V) → Option α} (h : onO x none l fl d fd sd ins = some q)
    (kl : ∀ a, x = some (.list a) → l a = some q → P) (kfl : ∀ a, x = some (.flist a) → fl a = some q → P) (kd : ∀ a, x = some (.dict a) → d a = some q → P) (kfd : ∀ a, x = some (.fdict a) → fd a = some q → P)
    (ksd : ∀ a, x = some (.sdict a) → sd a = some q → P) (kin : ∀ c a, x = some (.inst c a) → ins c a = some q → P) : P := by
  cases x with
  | none => exact nope h
  | some o =>
    cases o with
    | list a => exact kl a rfl h
    | flist a => exact kfl a rfl h
    | dict a => exact kd a rfl h
    | fdict a => exact kfd a rfl h
    | sdict a => exact ksd a rfl h
    | inst c a => exact kin c a rfl h
theorem thaw_in {P : Prop} {o : V} {H : Hp} (k1 : thaw o H = H → P) (k2 : ∀ k es, o = .obj k → H[k]? = some (.fdict es) → thaw o H = H.set k (.dict es) → P) : P := by
  cases o with
  | obj k =>
    have hO : ∀ {x : Option O}, H[k]? = x → thaw (.obj k) H = onO x H (fun q_ => H) (fun q_ => H) (fun q_ => H) (fun es => H.set k (.dict es)) (fun q_ => H) fun q_ q_ => H := fun e => by rw [← e]; rfl
    cases e : H[k]? with
    | none => exact k1 (hO e)
    | some ob =>
      cases ob with
      | fdict es => exact k2 k es rfl e (hO e)
      | _ => exact k1 (hO e)
  | _ => exact k1 rfl
noncomputable def setSlots : List Nat → List V → Lo → Option Lo
  | [], vs, σ => lNil vs (some σ)
  | i :: r, vs, σ => lCons vs fun v s => setSlots r s (σ.set i (some v))

/-- a loop: `fuel` turns at most, `i` turns made -/
noncomputable def loop (next : Hp → Nat → Option (Option V)) (body : V → Lo → Hp → Option (R × Lo × Hp)) : Nat → Nat → Lo → Hp → Option (R × Lo × Hp)
  | 0, _, _, _ => none
  | f + 1, i, σ, H => match next H i with
    | none => none
    | some none => some (.next, σ, H)
    | some (some v) => match body v σ H with
      | some (.next, σ, H) => loop next body f (i + 1) σ H
      | some (.cont, σ, H) => loop next body f (i + 1) σ H
      | some (.ret w, σ, H) => some (.ret w, σ, H)
      | some (.exc _, _, _) => none
      | none => none
noncomputable def whileL (test : Lo → Hp → Option (Bool × Hp)) (body : Lo → Hp → Option (R × Lo × Hp)) : Nat → Lo → Hp → Option (R × Lo × Hp)
  | 0, _, _ => none
  | f + 1, σ, H => match test σ H with
    | none => none
    | some (false, H) => some (.next, σ, H)
    | some (true, H) => match body σ H with
      | some (.next, σ, H) => whileL test body f σ H
      | some (.cont, σ, H) => whileL test body f σ H
      | some (.ret w, σ, H) => some (.ret w, σ, H)
      | some (.exc _, _, _) => none
      | none => none
/-- a comprehension's turns -/
noncomputable def loopC (next : Hp → Nat → Option (Option V)) (body : V → Hp → Option (Option V × Hp)) : Nat → Nat → List V → Hp → Option (List V × Hp)
  | 0, _, _, _ => none
  | f + 1, i, acc, H => match next H i with
    | none => none
    | some none => some (acc, H)
    | some (some v) => match body v H with
      | some (some w, H) => loopC next body f (i + 1) (acc ++ [w]) H
      | some (none, H) => loopC next body f (i + 1) acc H
      | none => none

theorem loop_in {P : Prop} {next : Hp → Nat → Option (Option V)} {body : V → Lo → Hp → Option (R × Lo × Hp)} {f i : Nat} {σ : Lo} {H : Hp} {r : R × Lo × Hp} (h : loop next body (f + 1) i σ H = some r)
    (k0 : next H i = some none → r = (.next, σ, H) → P) (k1 : ∀ v fl σ2 H2, next H i = some (some v) → body v σ H = some (fl, σ2, H2) → (fl = .next ∨ fl = .cont) → loop next body f (i + 1) σ2 H2 = some r → P)
    (k2 : ∀ v w σ2 H2, next H i = some (some v) → body v σ H = some (.ret w, σ2, H2) → r = (.ret w, σ2, H2) → P) : P := by
  unfold loop at h
  cases e : next H i with
  | none => rw [e] at h; exact nope h
  | some o =>
    rw [e] at h
    cases o with
    | none => exact k0 e (Option.some.inj h).symm
    | some v =>
      dsimp only at h
      cases e2 : body v σ H with
      | none => rw [e2] at h; exact nope h
      | some b =>
        rw [e2] at h
        obtain ⟨b, σ2, H2⟩ := b
        cases b with
        | next => exact k1 v _ σ2 H2 e e2 (.inl rfl) h
        | cont => exact k1 v _ σ2 H2 e e2 (.inr rfl) h
        | ret w => exact k2 v w σ2 H2 e e2 (Option.some.inj h).symm
        | exc w => exact nope h
theorem while_in {P : Prop} {test : Lo → Hp → Option (Bool × Hp)} {body : Lo → Hp → Option (R × Lo × Hp)} {f : Nat} {σ : Lo} {H : Hp} {r : R × Lo × Hp} (h : whileL test body (f + 1) σ H = some r)
    (k0 : ∀ H1, test σ H = some (false, H1) → r = (.next, σ, H1) → P) (k1 : ∀ H1 fl σ2 H2, test σ H = some (true, H1) → body σ H1 = some (fl, σ2, H2) → (fl = .next ∨ fl = .cont) → whileL test body f σ2 H2 = some r → P)
    (k2 : ∀ H1 w σ2 H2, test σ H = some (true, H1) → body σ H1 = some (.ret w, σ2, H2) → r = (.ret w, σ2, H2) → P) : P := by
  unfold whileL at h
  cases e : test σ H with
  | none => rw [e] at h; exact nope h
  | some o =>
    rw [e] at h
    obtain ⟨o, H1⟩ := o
    cases o with
    | false => exact k0 H1 e (Option.some.inj h).symm
    | true =>
      dsimp only at h
      cases e2 : body σ H1 with
      | none => rw [e2] at h; exact nope h
      | some b =>
        rw [e2] at h
        obtain ⟨b, σ2, H2⟩ := b
        cases b with
        | next => exact k1 H1 _ σ2 H2 e e2 (.inl rfl) h
        | cont => exact k1 H1 _ σ2 H2 e e2 (.inr rfl) h
        | ret w => exact k2 H1 w σ2 H2 e e2 (Option.some.inj h).symm
        | exc w => exact nope h
theorem loopC_in {P : Prop} {next : Hp → Nat → Option (Option V)} {body : V → Hp → Option (Option V × Hp)} {f i : Nat} {acc : List V} {H : Hp} {r : List V × Hp} (h : loopC next body (f + 1) i acc H = some r)
    (k0 : next H i = some none → r = (acc, H) → P) (k1 : ∀ v w H2, next H i = some (some v) → body v H = some (some w, H2) → loopC next body f (i + 1) (acc ++ [w]) H2 = some r → P)
    (k2 : ∀ v H2, next H i = some (some v) → body v H = some (none, H2) → loopC next body f (i + 1) acc H2 = some r → P) : P := by
  unfold loopC at h
  cases e : next H i with
  | none => rw [e] at h; exact nope h
  | some o =>
    rw [e] at h
    cases o with
    | none => exact k0 e (Option.some.inj h).symm
    | some v =>
      dsimp only at h
      cases e2 : body v H with
      | none => rw [e2] at h; exact nope h
      | some b =>
        rw [e2] at h
        obtain ⟨b, H2⟩ := b
        cases b with
        | none => exact k2 v H2 e e2 h
        | some w => exact k1 v w H2 e e2 h
noncomputable def turns : Nat := 1000
noncomputable def okRet (o : Option (CR × Hp)) : Option (V × Hp) := o.bind fun p => crRet p.1 fun v => some (v, p.2)
noncomputable def newDone (k : Nat) (o : Option (CR × Hp)) : Option (V × Hp) := o.bind fun p => crRet p.1 fun v => vNone v (some (.obj k, p.2))

mutual
noncomputable def evE (c : Cx) (σ : Lo) : X → Hp → Option (V × Hp)
  | .bad, _ => none
  | .cint i, H => some (.int i, H)
  | .cstr s, H => some (.str s, H)
  | .cbool b, H => some (.bool b, H)
  | .cnone, H => some (.none, H)
  | .loc i, H => sGet σ[i]? fun v => some (v, H)
  | .glob g, H => (c.gl[g]?).bind fun v => some (v, H)
  | .bin op l r, H => (evE c σ l H).bind fun a => (evE c σ r a.2).bind fun b => binV op a.1 b.1 b.2
  | .neg x, H => (evE c σ x H).bind fun a => vInt a.1 fun i => some (.int (-i), a.2)
  | .inv x, H => (evE c σ x H).bind fun a => vInt a.1 fun i => some (.int (-i - 1), a.2)
  | .not x, H => (evE c σ x H).bind fun a => (truthyV a.1).bind fun b => some (.bool (!b), a.2)
  | .and_ l, H => evAnd c σ l H
  | .or_ l, H => evOr c σ l H
  | .cmp op l r, H => (evE c σ l H).bind fun a => (evE c σ r a.2).bind fun b => (cmpV op a.1 b.1 b.2).bind fun t => some (.bool t, b.2)
  | .cmp2 op1 op2 x y z, H => (evE c σ x H).bind fun a => (evE c σ y a.2).bind fun b => (cmpV op1 a.1 b.1 b.2).bind fun t => match t with
    | true => (evE c σ z b.2).bind fun d => (cmpV op2 b.1 d.1 d.2).bind fun t => some (.bool t, d.2)
    | false => some (.bool false, b.2)
  | .ite t x y, H => (evT c σ t H).bind fun b => match b.1 with | true => evE c σ x b.2 | false => evE c σ y b.2
  | .call f args, H => (evL c σ args H).bind fun a => okRet (c.cf f a.1 a.2)
  | .new k args, H => (evL c σ args H).bind fun a => newDone a.2.length (c.cf (c.init k) (.obj a.2.length :: a.1) (a.2 ++ [.inst k []]))
  | .bi b args, H => (evL c σ args H).bind fun a => biV b a.1 a.2
  | .append o x, H => (evE c σ o H).bind fun a => grd (isListV a.1 a.2) ((evE c σ x a.2).bind fun b => (appendV a.1 b.1 b.2).bind fun H => some (.none, H))
  | .join s x, H => (evE c σ s H).bind fun a => (evE c σ x a.2).bind fun b => (joinV a.1 b.1 b.2).bind fun v => some (v, b.2)
  | .find o x, H => (evE c σ o H).bind fun a => (evE c σ x a.2).bind fun b => (findV a.1 b.1).bind fun v => some (v, b.2)
  | .lower o, H => (evE c σ o H).bind fun a => (lowerV a.1).bind fun v => some (v, a.2)
  | .get o k d, H => (evE c σ o H).bind fun a => grd (isDictV a.1 a.2) ((evE c σ k a.2).bind fun b => (evE c σ d b.2).bind fun e => (getV a.1 b.1 e.1 e.2).bind fun v => some (v, e.2))
  | .attr o a, H => (evE c σ o H).bind fun p => (attrV p.1 a p.2).bind fun v => some (v, p.2)
  | .idx o i, H => (evE c σ o H).bind fun a => (evE c σ i a.2).bind fun b => (idxV a.1 b.1 b.2).bind fun v => some (v, b.2)
  | .slice0 o hi, H => (evE c σ o H).bind fun a => (evE c σ hi a.2).bind fun b => sliceV a.1 0 b.1 b.2
  | .slice o lo hi, H => (evE c σ o H).bind fun a => (evE c σ lo a.2).bind fun d => (evE c σ hi d.2).bind fun b => vNat d.1 fun n => grd (fits n) (sliceV a.1 n b.1 b.2)
  | .tup l, H => (evL c σ l H).bind fun a => some (.tup a.1, a.2)
  | .list l, H => (evL c σ l H).bind fun a => some (.obj a.2.length, a.2 ++ [.list a.1])
  | .dict0, H => some (.obj H.length, H ++ [.dict []])
  | .sdict kvs, H => (evP c σ kvs [] (H ++ [.sdict []])).bind fun a => oSd a.2[H.length]? fun es => lNil es (some (.obj H.length, a.2.set H.length (.sdict a.1)))
  | .comp elt slot it ifs _, H => (evE c σ it H).bind fun a => (freeze a.1 a.2).bind fun H₀ =>
    (loopC (nextV a.1) (fun v H' => (evTA c (σ.set slot (some v)) ifs H').bind fun b => match b.1 with
        | true => (evE c (σ.set slot (some v)) elt b.2).bind fun w => some (some w.1, w.2)
        | false => some (none, b.2)) turns 0 [] H₀).bind fun r => some (.obj r.2.length, thaw a.1 r.2 ++ [.list r.1])
noncomputable def evL (c : Cx) (σ : Lo) : List X → Hp → Option (List V × Hp)
  | [], H => some ([], H)
  | x :: r, H => (evE c σ x H).bind fun a => (evL c σ r a.2).bind fun b => some (a.1 :: b.1, b.2)
noncomputable def evP (c : Cx) (σ : Lo) : List X → List (List Nat × V) → Hp → Option (List (List Nat × V) × Hp)
  | [], es, H => some (es, H)
  | [_], _, _ => none
  | x :: y :: r, es, H => (evE c σ x H).bind fun a => (evE c σ y a.2).bind fun b => vStr a.1 fun k => evP c σ r (putS k b.1 es) b.2
noncomputable def evAnd (c : Cx) (σ : Lo) : List X → Hp → Option (V × Hp)
  | [], _ => none
  | x :: r, H => (evE c σ x H).bind fun a => match r.isEmpty with
    | true => some a
    | false => (truthyV a.1).bind fun b => match b with | true => evAnd c σ r a.2 | false => some a
noncomputable def evOr (c : Cx) (σ : Lo) : List X → Hp → Option (V × Hp)
  | [], _ => none
  | x :: r, H => (evE c σ x H).bind fun a => match r.isEmpty with
    | true => some a
    | false => (truthyV a.1).bind fun b => match b with | true => some a | false => evOr c σ r a.2
noncomputable def evT (c : Cx) (σ : Lo) : T → Hp → Option (Bool × Hp)
  | .not x, H => (evT c σ x H).bind fun a => some (!a.1, a.2)
  | .and_ l, H => evTA c σ l H
  | .or_ l, H => evTO c σ l H
  | .cmp op l r, H => (evE c σ l H).bind fun a => (evE c σ r a.2).bind fun b => (cmpV op a.1 b.1 b.2).bind fun t => some (t, b.2)
  | .cmp2 op1 op2 x y z, H => (evE c σ x H).bind fun a => (evE c σ y a.2).bind fun b => (cmpV op1 a.1 b.1 b.2).bind fun t => match t with
    | true => (evE c σ z b.2).bind fun d => (cmpV op2 b.1 d.1 d.2).bind fun t => some (t, d.2)
    | false => some (false, b.2)
  | .val x, H => (evE c σ x H).bind fun a => (truthyV a.1).bind fun b => some (b, a.2)
noncomputable def evTA (c : Cx) (σ : Lo) : List T → Hp → Option (Bool × Hp)
  | [], H => some (true, H)
  | x :: r, H => (evT c σ x H).bind fun a => match a.1 with | true => evTA c σ r a.2 | false => some (false, a.2)
noncomputable def evTO (c : Cx) (σ : Lo) : List T → Hp → Option (Bool × Hp)
  | [], H => some (false, H)
  | x :: r, H => (evT c σ x H).bind fun a => match a.1 with | true => some (true, a.2) | false => evTO c σ r a.2
end

/-- a comprehension's turn -/
noncomputable def compT (c : Cx) (σ : Lo) (slot : Nat) (elt : X) (ifs : List T) (v : V) (H' : Hp) : Option (Option V × Hp) := (evTA c (σ.set slot (some v)) ifs H').bind fun b => match b.1 with
  | true => (evE c (σ.set slot (some v)) elt b.2).bind fun w => some (some w.1, w.2)
  | false => some (none, b.2)
noncomputable def unpackV (v : V) (n : Nat) : Option (List V) := vTup v fun l => grd (Nat.beq l.length n) (some l)
noncomputable def isObj (v : V) : Bool := onV v false (fun q_ => false) (fun q_ => false) (fun q_ => false) (fun q_ => false) (fun q_ q_ q_ => false) fun q_ => true

mutual
noncomputable def evS (c : Cx) : S → Lo → Hp → Option (R × Lo × Hp)
  | .bad, _, _ => none
  | .assign i e, σ, H => (evE c σ e H).bind fun a => some (.next, σ.set i (some a.1), a.2)
  | .assignTup is e, σ, H => (evE c σ e H).bind fun a => (unpackV a.1 is.length).bind fun l => (setSlots is l σ).bind fun σ => some (.next, σ, a.2)
  | .assignAttr o a e, σ, H => (evE c σ e H).bind fun v => (evE c σ o v.2).bind fun x => (setAttrV x.1 a v.1 x.2).bind fun H => some (.next, σ, H)
  | .assignIdx o i e, σ, H => (evE c σ e H).bind fun v => (evE c σ o v.2).bind fun x => (evE c σ i x.2).bind fun y => (setIdxV x.1 y.1 v.1 y.2).bind fun H => some (.next, σ, H)
  | .aug i op e, σ, H => sGet σ[i]? fun old => (evE c σ e H).bind fun v => (binV op old v.1 v.2).bind fun r => grd (!isObj r.1) (some (.next, σ.set i (some r.1), r.2))
  | .augAttr o a op e, σ, H => (evE c σ o H).bind fun x => (attrV x.1 a x.2).bind fun old => (evE c σ e x.2).bind fun v => (binV op old v.1 v.2).bind fun r => vInt r.1 fun q_ => (setAttrV x.1 a r.1 r.2).bind fun H => some (.next, σ, H)
  | .augIdx o i op e, σ, H => (evE c σ o H).bind fun x => (evE c σ i x.2).bind fun y => (idxV x.1 y.1 y.2).bind fun old => (evE c σ e y.2).bind fun v => (binV op old v.1 v.2).bind fun r => vInt r.1 fun q_ => (setIdxV x.1 y.1 r.1 r.2).bind fun H => some (.next, σ, H)
  | .ret e, σ, H => (evE c σ e H).bind fun a => some (.ret a.1, σ, a.2)
  | .expr e, σ, H => (evE c σ e H).bind fun a => vNone a.1 (some (.next, σ, a.2))
  | .if_ t x y, σ, H => (evT c σ t H).bind fun b => match b.1 with | true => evB c x σ b.2 | false => evB c y σ b.2
  | .for_ i it body, σ, H => (evE c σ it H).bind fun a => (freeze a.1 a.2).bind fun H₀ =>
    (loop (nextV a.1) (fun v σ H' => evB c body (σ.set i (some v)) H') turns 0 σ H₀).bind fun r => some (r.1, r.2.1, thaw a.1 r.2.2)
  | .forTup is it body, σ, H => (evE c σ it H).bind fun a => (freeze a.1 a.2).bind fun H₀ =>
    (loop (nextV a.1) (fun v σ H' => (unpackV v is.length).bind fun l => (setSlots is l σ).bind fun σ => evB c body σ H') turns 0 σ H₀).bind fun r => some (r.1, r.2.1, thaw a.1 r.2.2)
  | .while_ t body, σ, H => whileL (fun σ H => evT c σ t H) (fun σ H => evB c body σ H) turns σ H
  | .cont, σ, H => some (.cont, σ, H)
  | .raise_ e, σ, H => (evE c σ e H).bind fun a => vInt a.1 fun i => some (.exc (.int i), σ, a.2)
  | .tryRet f args, σ, H => (evL c σ args H).bind fun a => (c.cf f a.1 a.2).bind fun p => CR.casesOn (motive := fun q_ => Option (R × Lo × Hp)) p.1 (fun v => some (.ret v, σ, p.2)) fun v => vInt v fun i => some (.ret (.int (-i)), σ, p.2)
noncomputable def evB (c : Cx) : List S → Lo → Hp → Option (R × Lo × Hp)
  | [], σ, H => some (.next, σ, H)
  | s :: r, σ, H => match evS c s σ H with
    | some (.next, σ, H) => evB c r σ H
    | some (.cont, σ, H) => some (.cont, σ, H)
    | some (.ret v, σ, H) => some (.ret v, σ, H)
    | some (.exc v, σ, H) => some (.exc v, σ, H)
    | none => none
end

/-- a def: how many parameters, how many slots, its body -/
structure Fn where
  np : Nat
  ns : Nat
  body : List S
  deriving Inhabited

noncomputable def endOf (o : Option (R × Lo × Hp)) : Option (CR × Hp) := o.bind fun p => R.casesOn (motive := fun q_ => Option (CR × Hp)) p.1 (some (.ret .none, p.2.2)) none (fun v => some (.ret v, p.2.2)) fun v => some (.exc v, p.2.2)
@[simp] theorem endOf_next {σ : Lo} {H : Hp} : endOf (some (.next, σ, H)) = some (.ret .none, H) := rfl
@[simp] theorem endOf_ret {v : V} {σ : Lo} {H : Hp} : endOf (some (.ret v, σ, H)) = some (.ret v, H) := rfl
@[simp] theorem endOf_exc {v : V} {σ : Lo} {H : Hp} : endOf (some (.exc v, σ, H)) = some (.exc v, H) := rfl
@[simp] theorem endOf_none : endOf none = none := rfl
noncomputable def run (fs : List Fn) (gl : List V) (init : Nat → Nat) : Nat → CF
  | 0, _, _, _ => none
  | d + 1, f, args, H => (fs[f]?).bind fun fn => grd (Nat.beq args.length fn.np) (endOf (evB ⟨run fs gl init d, gl, init⟩ fn.body (args.map some ++ List.replicate (fn.ns - fn.np) none) H))
end Mine
end
/-! Fns -/
section
set_option Elab.async false
set_option genSizeOf false
set_option linter.all false
set_option maxRecDepth 100000
namespace Mine
/-- 0: 0=side 1=kind -/
noncomputable def b_make_piece : List S := [
  .ret (.bin .add (.bin .mul (.loc 0) (.cint 8)) (.loc 1))]
/-- 1: 0=piece -/
noncomputable def b_side_of : List S := [
  .ret (.bin .shr (.loc 0) (.cint 3))]
/-- 2: 0=piece -/
noncomputable def b_kind_of : List S := [
  .ret (.bin .and (.loc 0) (.cint 7))]
/-- 3: 0=number -/
noncomputable def b_is_piece : List S := [
  .ret (.and_ [(.cmp2 .lt .lt (.cint 0) (.loc 0) (.cint 15)), (.cmp .ne (.loc 0) (.cint 7)), (.cmp .ne (.loc 0) (.cint 8))])]
/-- 4: 0=piece -/
noncomputable def b_letter_of : List S := [
  .if_ (.and_ [(.cmp .ne (.loc 0) (.glob 8)), (.not (.val (.call 3 [(.loc 0)])))]) [.bad] [],
  .ret (.idx (.glob 14) (.loc 0))]
/-- 5: 0=letter -/
noncomputable def b_piece_of : List S := [
  .if_ (.or_ [(.cmp .ne (.bi .len [(.loc 0)]) (.cint 1)), (.cmp .eq (.loc 0) (.cstr [46]))]) [.ret (.neg (.cint 1))] [],
  .ret (.find (.glob 14) (.loc 0))]
/-- 6: 0=origin 1=to 2=special 3=promo 4=field -/
noncomputable def b_pack_move : List S := [
  .assign 4 (.cint 0),
  .if_ (.cmp .eq (.loc 2) (.glob 10)) [.assign 4 (.bin .sub (.loc 3) (.glob 4))] [],
  .ret (.bin .or (.bin .or (.bin .or (.loc 1) (.bin .shl (.loc 0) (.cint 6))) (.bin .shl (.loc 4) (.cint 12))) (.bin .shl (.loc 2) (.cint 14)))]
/-- 7: 0=move -/
noncomputable def b_move_from : List S := [
  .ret (.bin .and (.bin .shr (.loc 0) (.cint 6)) (.cint 63))]
/-- 8: 0=move -/
noncomputable def b_move_to : List S := [
  .ret (.bin .and (.loc 0) (.cint 63))]
/-- 9: 0=move -/
noncomputable def b_move_special : List S := [
  .ret (.bin .and (.bin .shr (.loc 0) (.cint 14)) (.cint 3))]
/-- 10: 0=move -/
noncomputable def b_move_promo : List S := [
  .if_ (.cmp .ne (.bin .and (.bin .shr (.loc 0) (.cint 14)) (.cint 3)) (.glob 10)) [.ret (.glob 2)] [],
  .ret (.bin .add (.bin .and (.bin .shr (.loc 0) (.cint 12)) (.cint 3)) (.glob 4))]
/-- 11: 0=geo 1=square -/
noncomputable def b_book_square : List S := [
  .ret (.bin .or (.bin .mod (.loc 1) (.attr (.loc 0) 0)) (.bin .shl (.bin .fdiv (.loc 1) (.attr (.loc 0) 0)) (.cint 3)))]
/-- 12: 0=geo 1=number 2=file 3=rank -/
noncomputable def b_board_square : List S := [
  .assign 2 (.bin .and (.loc 1) (.cint 7)),
  .assign 3 (.bin .and (.bin .shr (.loc 1) (.cint 3)) (.cint 7)),
  .if_ (.or_ [(.cmp .ge (.loc 2) (.attr (.loc 0) 0)), (.cmp .ge (.loc 3) (.attr (.loc 0) 1))]) [.ret (.neg (.cint 1))] [],
  .ret (.bin .add (.bin .mul (.loc 3) (.attr (.loc 0) 0)) (.loc 2))]
/-- 13: 0=geo 1=king_from 2=king_to 3=index 4=castle -/
noncomputable def b_castle_of : List S := [
  .for_ 3 (.bi .range1 [(.cint 4)]) [.assign 4 (.idx (.attr (.loc 0) 2) (.loc 3)), .if_ (.and_ [(.cmp .isnt (.loc 4) .cnone), (.cmp .eq (.idx (.loc 4) (.cint 0)) (.loc 1)), (.cmp .eq (.idx (.loc 4) (.cint 1)) (.loc 2))]) [.ret (.loc 3)] []],
  .ret (.neg (.cint 1))]
/-- 14: 0=geo 1=move 2=origin 3=to 4=index 5=promo -/
noncomputable def b_book_move : List S := [
  .assign 2 (.call 7 [(.loc 1)]),
  .assign 3 (.call 8 [(.loc 1)]),
  .if_ (.cmp .eq (.call 9 [(.loc 1)]) (.glob 12)) [.assign 4 (.call 13 [(.loc 0), (.loc 2), (.loc 3)]), .if_ (.cmp .lt (.loc 4) (.cint 0)) [.raise_ (.loc 1)] [], .assign 3 (.idx (.idx (.attr (.loc 0) 2) (.loc 4)) (.cint 2))] [],
  .assign 5 (.cint 0),
  .if_ (.cmp .eq (.call 9 [(.loc 1)]) (.glob 10)) [.assign 5 (.bin .sub (.call 10 [(.loc 1)]) (.cint 1))] [],
  .ret (.bin .or (.bin .or (.call 11 [(.loc 0), (.loc 3)]) (.bin .shl (.call 11 [(.loc 0), (.loc 2)]) (.cint 6))) (.bin .shl (.loc 5) (.cint 12)))]
/-- 15: 0=pos 1=origin 2=to 3=index 4=castle -/
noncomputable def b_castling_of : List S := [
  .for_ 3 (.bi .range1 [(.cint 4)]) [.assign 4 (.idx (.attr (.attr (.loc 0) 3) 2) (.loc 3)), .if_ (.and_ [(.cmp .isnt (.loc 4) .cnone), (.cmp .eq (.bin .shr (.loc 3) (.cint 1)) (.attr (.loc 0) 4)), (.cmp .eq (.idx (.loc 4) (.cint 0)) (.loc 1)), (.cmp .eq (.idx (.loc 4) (.cint 2)) (.loc 2))]) [.ret (.call 6 [(.loc 1), (.idx (.loc 4) (.cint 1)), (.glob 12), (.glob 2)])] []],
  .ret (.glob 13)]
/-- 16: 0=pos 1=number 2=geo 3=to 4=origin 5=promo 6=piece -/
noncomputable def b_board_move : List S := [
  .assign 2 (.attr (.loc 0) 3),
  .if_ (.or_ [(.cmp .lt (.loc 1) (.cint 0)), (.cmp .ge (.loc 1) (.cint 32768))]) [.ret (.glob 13)] [],
  .assign 3 (.call 12 [(.loc 2), (.loc 1)]),
  .assign 4 (.call 12 [(.loc 2), (.bin .shr (.loc 1) (.cint 6))]),
  .assign 5 (.bin .shr (.loc 1) (.cint 12)),
  .if_ (.or_ [(.cmp .lt (.loc 3) (.cint 0)), (.cmp .lt (.loc 4) (.cint 0)), (.cmp .eq (.loc 3) (.loc 4))]) [.ret (.glob 13)] [],
  .assign 6 (.idx (.attr (.loc 0) 5) (.loc 4)),
  .if_ (.or_ [(.cmp .eq (.loc 6) (.glob 8)), (.cmp .ne (.call 1 [(.loc 6)]) (.attr (.loc 0) 4))]) [.ret (.glob 13)] [],
  .if_ (.and_ [(.cmp .eq (.loc 6) (.call 0 [(.attr (.loc 0) 4), (.glob 7)])), (.cmp .eq (.idx (.attr (.loc 0) 5) (.loc 3)) (.call 0 [(.attr (.loc 0) 4), (.glob 5)]))]) [.if_ (.cmp .ne (.loc 5) (.cint 0)) [.ret (.glob 13)] [], .ret (.call 15 [(.loc 0), (.loc 4), (.loc 3)])] [],
  .if_ (.cmp .eq (.call 2 [(.loc 6)]) (.glob 3)) [.ret (.call 17 [(.loc 0), (.loc 4), (.loc 3), (.loc 5)])] [],
  .if_ (.cmp .ne (.loc 5) (.cint 0)) [.ret (.glob 13)] [],
  .ret (.call 6 [(.loc 4), (.loc 3), (.glob 9), (.glob 2)])]
/-- 17: 0=pos 1=origin 2=to 3=promo 4=last -/
noncomputable def b_board_pawn_move : List S := [
  .assign 4 (.bin .sub (.attr (.attr (.loc 0) 3) 1) (.cint 1)),
  .if_ (.cmp .ne (.attr (.loc 0) 4) (.glob 0)) [.assign 4 (.cint 0)] [],
  .if_ (.cmp .eq (.bin .fdiv (.loc 2) (.attr (.attr (.loc 0) 3) 0)) (.loc 4)) [.if_ (.or_ [(.cmp .lt (.loc 3) (.bin .sub (.glob 4) (.cint 1))), (.cmp .gt (.loc 3) (.bin .sub (.glob 6) (.cint 1)))]) [.ret (.glob 13)] [], .ret (.call 6 [(.loc 1), (.loc 2), (.glob 10), (.bin .add (.loc 3) (.cint 1))])] [],
  .if_ (.cmp .ne (.loc 3) (.cint 0)) [.ret (.glob 13)] [],
  .if_ (.and_ [(.cmp .eq (.loc 2) (.attr (.loc 0) 6)), (.cmp .ne (.bin .mod (.loc 2) (.attr (.attr (.loc 0) 3) 0)) (.bin .mod (.loc 1) (.attr (.attr (.loc 0) 3) 0)))]) [.ret (.call 6 [(.loc 1), (.loc 2), (.glob 11), (.glob 2)])] [],
  .ret (.call 6 [(.loc 1), (.loc 2), (.glob 9), (.glob 2)])]
/-- 18: 0=cells 1=text 2=gap 3=piece -/
noncomputable def b_write_row : List S := [
  .assign 1 (.cstr []),
  .assign 2 (.cint 0),
  .for_ 3 (.loc 0) [.if_ (.cmp .eq (.loc 3) (.glob 8)) [.aug 2 .add (.cint 1)] [.if_ (.cmp .gt (.loc 2) (.cint 0)) [.aug 1 .add (.bi .str [(.loc 2)])] [], .assign 2 (.cint 0), .aug 1 .add (.call 4 [(.loc 3)])]],
  .if_ (.cmp .gt (.loc 2) (.cint 0)) [.aug 1 .add (.bi .str [(.loc 2)])] [],
  .ret (.loc 1)]
/-- 19: 0=board 1=files 2=rows 3=at -/
noncomputable def b_write_board : List S := [
  .assign 2 (.list []),
  .assign 3 (.bi .len [(.loc 0)]),
  .while_ (.cmp .gt (.loc 3) (.cint 0)) [.aug 3 .sub (.loc 1), .expr (.append (.loc 2) (.call 18 [(.slice (.loc 0) (.loc 3) (.bin .add (.loc 3) (.loc 1)))]))],
  .ret (.join (.cstr [47]) (.loc 2))]
/-- 20: 0=rights 1=text 2=index -/
noncomputable def b_write_rights : List S := [
  .assign 1 (.cstr []),
  .for_ 2 (.bi .range1 [(.cint 4)]) [.if_ (.val (.bin .and (.bin .shr (.loc 0) (.loc 2)) (.cint 1))) [.aug 1 .add (.idx (.glob 15) (.loc 2))] []],
  .if_ (.cmp .eq (.loc 1) (.cstr [])) [.ret (.cstr [45])] [],
  .ret (.loc 1)]
/-- 21: 0=geo 1=king 2=text 3=file -/
noncomputable def b_start_row : List S := [
  .assign 1 (.bin .fdiv (.attr (.loc 0) 0) (.cint 2)),
  .assign 2 (.cstr []),
  .for_ 3 (.bi .range1 [(.attr (.loc 0) 0)]) [.if_ (.cmp .eq (.loc 3) (.loc 1)) [.aug 2 .add (.cstr [75])] [.if_ (.or_ [(.cmp .eq (.loc 3) (.cint 0)), (.cmp .eq (.loc 3) (.bin .sub (.attr (.loc 0) 0) (.cint 1)))]) [.aug 2 .add (.cstr [82])] [.aug 2 .add (.cstr [46])]]],
  .ret (.loc 2)]
/-- 22: 0=geo 1=first 2=board 3=file 4=letter -/
noncomputable def b_start_board : List S := [
  .if_ (.and_ [(.cmp .eq (.attr (.loc 0) 0) (.cint 8)), (.cmp .eq (.attr (.loc 0) 1) (.cint 8))]) [.ret (.glob 16)] [],
  .assign 1 (.comp (.ite (.cmp .ne (.loc 4) (.cstr [46])) (.call 5 [(.loc 4)]) (.glob 8)) 4 (.call 21 [(.loc 0)]) [] []),
  .assign 2 (.bin .add (.loc 1) (.bin .mul (.list [(.glob 8)]) (.bin .sub (.attr (.loc 0) 7) (.attr (.loc 0) 0)))),
  .for_ 3 (.bi .range1 [(.attr (.loc 0) 0)]) [.if_ (.cmp .ne (.idx (.loc 1) (.loc 3)) (.glob 8)) [.assignIdx (.loc 2) (.bin .add (.bin .sub (.attr (.loc 0) 7) (.attr (.loc 0) 0)) (.loc 3)) (.bin .add (.idx (.loc 1) (.loc 3)) (.cint 8))] [], .if_ (.cmp .ge (.attr (.loc 0) 1) (.cint 4)) [.assignIdx (.loc 2) (.bin .add (.attr (.loc 0) 0) (.loc 3)) (.glob 3), .assignIdx (.loc 2) (.bin .add (.bin .sub (.attr (.loc 0) 7) (.bin .mul (.cint 2) (.attr (.loc 0) 0))) (.loc 3)) (.call 0 [(.glob 1), (.glob 3)])] []],
  .ret (.call 19 [(.loc 2), (.attr (.loc 0) 0)])]
/-- 23: 0=geo 1=rights 2=index -/
noncomputable def b_start_fen : List S := [
  .assign 1 (.cint 0),
  .for_ 2 (.bi .range1 [(.cint 4)]) [.if_ (.cmp .isnt (.idx (.attr (.loc 0) 2) (.loc 2)) .cnone) [.aug 1 .or (.bin .shl (.cint 1) (.loc 2))] []],
  .ret (.bin .add (.bin .add (.bin .add (.call 22 [(.loc 0)]) (.cstr [32, 119, 32])) (.call 20 [(.loc 1)])) (.cstr [32, 45, 32, 48, 32, 49]))]
/-- 24: 0=d -/
noncomputable def b_is_growing : List S := [
  .ret (.or_ [(.cmp .gt (.idx (.glob 18) (.loc 0)) (.cint 0)), (.cmp .eq (.loc 0) (.cint 1))])]
/-- 25: 0=geo 1=row 2=column 3=r 4=f -/
noncomputable def b_add_masks : List S := [
  .assign 1 (.bin .sub (.bin .shl (.cint 1) (.attr (.loc 0) 0)) (.cint 1)),
  .assign 2 (.cint 0),
  .for_ 3 (.bi .range1 [(.attr (.loc 0) 1)]) [.expr (.append (.attr (.loc 0) 8) (.bin .shl (.loc 1) (.bin .mul (.loc 3) (.attr (.loc 0) 0)))), .aug 2 .or (.bin .shl (.cint 1) (.bin .mul (.loc 3) (.attr (.loc 0) 0)))],
  .for_ 4 (.bi .range1 [(.attr (.loc 0) 0)]) [.expr (.append (.attr (.loc 0) 9) (.bin .shl (.loc 2) (.loc 4)))]]
/-- 26: 0=geo 1=d 2=edge -/
noncomputable def b_inner_squares : List S := [
  .assign 2 (.cint 0),
  .if_ (.cmp .gt (.idx (.glob 17) (.loc 1)) (.cint 0)) [.aug 2 .or (.idx (.attr (.loc 0) 9) (.bin .sub (.attr (.loc 0) 0) (.cint 1)))] [],
  .if_ (.cmp .lt (.idx (.glob 17) (.loc 1)) (.cint 0)) [.aug 2 .or (.idx (.attr (.loc 0) 9) (.cint 0))] [],
  .if_ (.cmp .gt (.idx (.glob 18) (.loc 1)) (.cint 0)) [.aug 2 .or (.idx (.attr (.loc 0) 8) (.bin .sub (.attr (.loc 0) 1) (.cint 1)))] [],
  .if_ (.cmp .lt (.idx (.glob 18) (.loc 1)) (.cint 0)) [.aug 2 .or (.idx (.attr (.loc 0) 8) (.cint 0))] [],
  .ret (.bin .and (.attr (.loc 0) 10) (.inv (.loc 2)))]
/-- 27: 0=geo 1=d 2=inner 3=delta 4=ray 5=order 6=square 7=goal -/
noncomputable def b_add_rays : List S := [
  .assignAttr (.loc 0) 11 (.bin .mul (.list [(.cint 0)]) (.attr (.loc 0) 7)),
  .for_ 1 (.bi .range1 [(.cint 8)]) [.assign 2 (.call 26 [(.loc 0), (.loc 1)]), .assign 3 (.bin .add (.bin .mul (.idx (.glob 18) (.loc 1)) (.attr (.loc 0) 0)) (.idx (.glob 17) (.loc 1))), .assign 4 (.bin .mul (.list [(.cint 0)]) (.attr (.loc 0) 7)), .assign 5 (.bi .range1 [(.attr (.loc 0) 7)]), .if_ (.val (.call 24 [(.loc 1)])) [.assign 5 (.bi .range3 [(.bin .sub (.attr (.loc 0) 7) (.cint 1)), (.neg (.cint 1)), (.neg (.cint 1))])] [], .for_ 6 (.loc 5) [.if_ (.val (.bin .and (.bin .shr (.loc 2) (.loc 6)) (.cint 1))) [.assign 7 (.bin .add (.loc 6) (.loc 3)), .assignIdx (.loc 4) (.loc 6) (.bin .or (.idx (.loc 4) (.loc 7)) (.bin .shl (.cint 1) (.loc 7))), .augIdx (.attr (.loc 0) 11) (.loc 6) .or (.bin .shl (.cint 1) (.loc 7))] []], .expr (.append (.attr (.loc 0) 12) (.loc 4))]]
/-- 28: 0=geo 1=square -/
noncomputable def b_add_pawns : List S := [
  .for_ 1 (.bi .range1 [(.attr (.loc 0) 7)]) [.expr (.append (.idx (.attr (.loc 0) 13) (.cint 0)) (.bin .and (.idx (.attr (.loc 0) 11) (.loc 1)) (.bin .or (.idx (.idx (.attr (.loc 0) 12) (.cint 4)) (.loc 1)) (.idx (.idx (.attr (.loc 0) 12) (.cint 7)) (.loc 1))))), .expr (.append (.idx (.attr (.loc 0) 13) (.cint 1)) (.bin .and (.idx (.attr (.loc 0) 11) (.loc 1)) (.bin .or (.idx (.idx (.attr (.loc 0) 12) (.cint 5)) (.loc 1)) (.idx (.idx (.attr (.loc 0) 12) (.cint 6)) (.loc 1)))))]]
/-- 29: 0=geo 1=files 2=not_first 3=not_last 4=not_first_two 5=not_last_two 6=square 7=b 8=near 9=far 10=found -/
noncomputable def b_add_knights : List S := [
  .assign 1 (.attr (.loc 0) 0),
  .assign 2 (.bin .and (.attr (.loc 0) 10) (.inv (.idx (.attr (.loc 0) 9) (.cint 0)))),
  .assign 3 (.bin .and (.attr (.loc 0) 10) (.inv (.idx (.attr (.loc 0) 9) (.bin .sub (.loc 1) (.cint 1))))),
  .assign 4 (.bin .and (.loc 2) (.inv (.idx (.attr (.loc 0) 9) (.cint 1)))),
  .assign 5 (.bin .and (.loc 3) (.inv (.idx (.attr (.loc 0) 9) (.bin .sub (.loc 1) (.cint 2))))),
  .for_ 6 (.bi .range1 [(.attr (.loc 0) 7)]) [.assign 7 (.bin .shl (.cint 1) (.loc 6)), .assign 8 (.bin .or (.bin .and (.bin .shl (.loc 7) (.cint 1)) (.loc 2)) (.bin .and (.bin .shr (.loc 7) (.cint 1)) (.loc 3))), .assign 9 (.bin .or (.bin .and (.bin .shl (.loc 7) (.cint 2)) (.loc 4)) (.bin .and (.bin .shr (.loc 7) (.cint 2)) (.loc 5))), .assign 10 (.bin .or (.bin .or (.bin .or (.bin .shl (.loc 8) (.bin .mul (.cint 2) (.loc 1))) (.bin .shr (.loc 8) (.bin .mul (.cint 2) (.loc 1)))) (.bin .shl (.loc 9) (.loc 1))) (.bin .shr (.loc 9) (.loc 1))), .expr (.append (.attr (.loc 0) 14) (.bin .and (.loc 10) (.attr (.loc 0) 10)))]]
/-- 30: 0=geo 1=start 2=index 3=base 4=corner 5=way 6=goal -/
noncomputable def b_add_castles : List S := [
  .assignAttr (.loc 0) 15 (.bin .mul (.list [(.cint 0)]) (.attr (.loc 0) 7)),
  .assign 1 (.bin .fdiv (.attr (.loc 0) 0) (.cint 2)),
  .for_ 2 (.bi .range1 [(.cint 4)]) [.assign 3 (.bin .mul (.bin .mul (.bin .shr (.loc 2) (.cint 1)) (.bin .sub (.attr (.loc 0) 1) (.cint 1))) (.attr (.loc 0) 0)), .assign 4 (.bin .sub (.attr (.loc 0) 0) (.cint 1)), .assign 5 (.cint 1), .if_ (.val (.bin .and (.loc 2) (.cint 1))) [.assign 4 (.cint 0), .assign 5 (.neg (.cint 1))] [], .assign 6 (.bin .add (.loc 1) (.bin .mul (.cint 2) (.loc 5))), .if_ (.and_ [(.val (.attr (.loc 0) 16)), (.cmp .gt (.bin .mul (.bin .sub (.loc 4) (.loc 6)) (.loc 5)) (.cint 0))]) [.expr (.append (.attr (.loc 0) 2) (.tup [(.bin .add (.loc 3) (.loc 1)), (.bin .add (.loc 3) (.loc 6)), (.bin .add (.loc 3) (.loc 4)), (.bin .sub (.bin .add (.loc 3) (.loc 6)) (.loc 5))])), .augIdx (.attr (.loc 0) 15) (.bin .add (.loc 3) (.loc 1)) .or (.bin .shl (.cint 1) (.loc 2)), .augIdx (.attr (.loc 0) 15) (.bin .add (.loc 3) (.loc 4)) .or (.bin .shl (.cint 1) (.loc 2))] [.expr (.append (.attr (.loc 0) 2) .cnone)]]]
/-- 31: 0=files 1=ranks 2=has_double 3=has_castling 4=geo -/
noncomputable def b_make_geometry : List S := [
  .if_ (.or_ [(.cmp .lt (.loc 0) (.cint 2)), (.cmp .gt (.loc 0) (.cint 8)), (.cmp .lt (.loc 1) (.cint 3)), (.cmp .gt (.loc 1) (.cint 8))]) [.bad] [],
  .assign 4 (.new 0 [(.loc 0), (.loc 1), (.loc 2), (.loc 3)]),
  .expr (.call 25 [(.loc 4)]),
  .expr (.call 27 [(.loc 4)]),
  .expr (.call 28 [(.loc 4)]),
  .expr (.call 29 [(.loc 4)]),
  .expr (.call 30 [(.loc 4)]),
  .ret (.loc 4)]
/-- 32: 0=pos 1=piece 2=s 3=bit -/
noncomputable def b_put_piece : List S := [
  .assign 3 (.bin .shl (.cint 1) (.loc 2)),
  .assignIdx (.attr (.loc 0) 5) (.loc 2) (.loc 1),
  .augIdx (.attr (.loc 0) 17) (.call 2 [(.loc 1)]) .or (.loc 3),
  .augIdx (.attr (.loc 0) 18) (.call 1 [(.loc 1)]) .or (.loc 3),
  .augAttr (.loc 0) 19 .xor (.idx (.idx (.attr (.attr (.loc 0) 20) 21) (.loc 1)) (.loc 2))]
/-- 33:  -/
noncomputable def b_law_broad : List S := [
  .ret (.list [(.tup [(.cint 7), (.cint 4)]), (.tup [(.cint 8), (.cint 8)]), (.tup [(.cint 8), (.cint 3)]), (.tup [(.cint 5), (.cint 5)]), (.tup [(.cint 7), (.cint 8)]), (.tup [(.cint 4), (.cint 6)])])]
/-- 34: 0=purse 1=many -/
noncomputable def b_law_pull : List S := [
  .augIdx (.loc 0) (.cstr [115, 112, 101, 110, 116]) .add (.cint 1),
  .if_ (.cmp .gt (.idx (.loc 0) (.cstr [115, 112, 101, 110, 116])) (.bi .len [(.idx (.loc 0) (.cstr [99, 101, 108, 108, 115]))])) [.ret (.cint 0)] [],
  .ret (.bin .mod (.idx (.idx (.loc 0) (.cstr [99, 101, 108, 108, 115])) (.bin .sub (.idx (.loc 0) (.cstr [115, 112, 101, 110, 116])) (.cint 1))) (.loc 1))]
/-- 35: 0=files 1=ranks 2=has_any 3=rows 4=index 5=low 6=middle -/
noncomputable def b_law_table : List S := [
  .assign 3 (.list []),
  .for_ 4 (.tup [(.cint 0), (.cint 1), (.cint 2), (.cint 3)]) [.assign 5 (.ite (.cmp .lt (.loc 4) (.cint 2)) (.cint 0) (.bin .sub (.bin .mul (.loc 0) (.loc 1)) (.loc 0))), .assign 6 (.bin .fdiv (.loc 0) (.cint 2)), .if_ (.and_ [(.val (.loc 2)), (.cmp .eq (.bin .mod (.loc 4) (.cint 2)) (.cint 0)), (.cmp .lt (.bin .add (.loc 6) (.cint 2)) (.bin .sub (.loc 0) (.cint 1)))]) [.expr (.append (.loc 3) (.tup [(.loc 4), (.bin .add (.loc 5) (.loc 6)), (.bin .add (.bin .add (.loc 5) (.loc 6)) (.cint 2)), (.bin .sub (.bin .add (.loc 5) (.loc 0)) (.cint 1))]))] [], .if_ (.and_ [(.val (.loc 2)), (.cmp .eq (.bin .mod (.loc 4) (.cint 2)) (.cint 1)), (.cmp .gt (.bin .sub (.loc 6) (.cint 2)) (.cint 0))]) [.expr (.append (.loc 3) (.tup [(.loc 4), (.bin .add (.loc 5) (.loc 6)), (.bin .sub (.bin .add (.loc 5) (.loc 6)) (.cint 2)), (.loc 5)]))] []],
  .ret (.loc 3)]
/-- 36: 0=files 1=square -/
noncomputable def b_law_spot : List S := [
  .ret (.bin .add (.bin .mod (.loc 1) (.loc 0)) (.bin .mul (.bin .fdiv (.loc 1) (.loc 0)) (.cint 8)))]
/-- 37: 0=purse 1=files 2=ranks 3=men 4=side 5=low 6=corner 7=what -/
noncomputable def b_law_laid : List S := [
  .assign 3 .dict0,
  .for_ 4 (.tup [(.cint 0), (.cint 1)]) [.assign 5 (.bin .mul (.loc 4) (.bin .sub (.bin .mul (.loc 1) (.loc 2)) (.loc 1))), .assignIdx (.loc 3) (.bin .add (.bin .add (.loc 5) (.bin .fdiv (.loc 1) (.cint 2))) (.bin .fdiv (.call 34 [(.loc 0), (.cint 5)]) (.cint 4))) (.bin .add (.bin .mul (.cint 8) (.loc 4)) (.cint 6)), .for_ 6 (.tup [(.loc 5), (.bin .sub (.bin .add (.loc 5) (.loc 1)) (.cint 1))]) [.assign 7 (.idx (.list [(.bin .add (.bin .mul (.cint 8) (.loc 4)) (.cint 4)), (.bin .add (.bin .mul (.cint 8) (.loc 4)) (.cint 4)), (.bin .add (.bin .mul (.cint 8) (.loc 4)) (.cint 4)), (.bin .sub (.cint 12) (.bin .mul (.cint 8) (.loc 4))), (.cint 0)]) (.call 34 [(.loc 0), (.cint 5)])), .if_ (.and_ [(.cmp .notin (.loc 6) (.loc 3)), (.cmp .gt (.loc 7) (.cint 0))]) [.assignIdx (.loc 3) (.loc 6) (.loc 7)] []]],
  .ret (.loc 3)]
/-- 38: 0=signs 1=text 2=dots 3=sign -/
noncomputable def b_law_row : List S := [
  .assign 1 (.cstr []),
  .assign 2 (.cint 0),
  .for_ 3 (.loc 0) [.if_ (.and_ [(.cmp .ne (.loc 3) (.cstr [46])), (.cmp .gt (.loc 2) (.cint 0))]) [.assign 1 (.bin .add (.loc 1) (.idx (.cstr [49, 50, 51, 52, 53, 54, 55, 56]) (.bin .sub (.loc 2) (.cint 1))))] [], .assign 2 (.ite (.cmp .eq (.loc 3) (.cstr [46])) (.bin .add (.loc 2) (.cint 1)) (.cint 0)), .if_ (.cmp .ne (.loc 3) (.cstr [46])) [.assign 1 (.bin .add (.loc 1) (.loc 3))] []],
  .ret (.ite (.cmp .eq (.loc 2) (.cint 0)) (.loc 1) (.bin .add (.loc 1) (.idx (.cstr [49, 50, 51, 52, 53, 54, 55, 56]) (.bin .sub (.loc 2) (.cint 1)))))]
/-- 39: 0=files 1=ranks 2=table 3=white 4=black 5=rows 6=rights 7=row 8=sign 9=turn -/
noncomputable def b_law_begin : List S := [
  .assign 3 (.bin .add (.bin .add (.list [(.cstr [82])]) (.bin .mul (.list [(.cstr [46])]) (.bin .sub (.loc 0) (.cint 2)))) (.list [(.cstr [82])])),
  .assignIdx (.loc 3) (.bin .fdiv (.loc 0) (.cint 2)) (.cstr [75]),
  .if_ (.cmp .eq (.tup [(.loc 0), (.loc 1)]) (.tup [(.cint 8), (.cint 8)])) [.assign 3 (.list [(.cstr [82]), (.cstr [78]), (.cstr [66]), (.cstr [81]), (.cstr [75]), (.cstr [66]), (.cstr [78]), (.cstr [82])])] [],
  .assign 4 (.comp (.lower (.loc 8)) 8 (.loc 3) [] []),
  .assign 5 (.bin .add (.bin .add (.list [(.loc 4)]) (.comp (.bin .mul (.list [(.cstr [46])]) (.loc 0)) 9 (.bi .range1 [(.bin .sub (.loc 1) (.cint 2))]) [] [0])) (.list [(.loc 3)])),
  .if_ (.cmp .gt (.loc 1) (.cint 3)) [.assignIdx (.loc 5) (.cint 1) (.bin .mul (.list [(.cstr [112])]) (.loc 0)), .assignIdx (.loc 5) (.bin .sub (.loc 1) (.cint 2)) (.bin .mul (.list [(.cstr [80])]) (.loc 0))] [],
  .assign 6 (.join (.cstr []) (.comp (.idx (.cstr [75, 81, 107, 113]) (.idx (.loc 7) (.cint 0))) 7 (.loc 2) [] [])),
  .ret (.bin .add (.bin .add (.bin .add (.join (.cstr [47]) (.comp (.call 38 [(.loc 7)]) 7 (.loc 5) [] [])) (.cstr [32, 119, 32])) (.ite (.cmp .ne (.loc 6) (.cstr [])) (.loc 6) (.cstr [45]))) (.cstr [32, 45, 32, 48, 32, 49]))]
/-- 40: 0=geo 1=move 2=fault -/
noncomputable def b_law_told : List S := [
  .tryRet 14 [(.loc 0), (.loc 1)]]
/-- 41: 0=pos 1=table 2=files 3=men 4=promo 5=king 6=low 7=goal 8=due 9=number 10=row 11=square -/
noncomputable def b_law_king_right : List S := [
  .assign 5 (.idx (.comp (.loc 11) 11 (.loc 3) [(.cmp .eq (.idx (.loc 3) (.loc 11)) (.bin .add (.bin .mul (.cint 8) (.attr (.loc 0) 4)) (.cint 6)))] [0, 3]) (.cint 0)),
  .assign 6 (.bin .mul (.bin .fdiv (.loc 5) (.loc 2)) (.loc 2)),
  .for_ 7 (.bi .range2 [(.loc 6), (.bin .add (.loc 6) (.loc 2))]) [.if_ (.cmp .eq (.loc 7) (.loc 5)) [.cont] [], .assign 8 (.bin .add (.bin .mul (.cint 64) (.loc 5)) (.loc 7)), .if_ (.cmp .eq (.get (.loc 3) (.loc 7) (.cint 0)) (.bin .add (.bin .mul (.cint 8) (.attr (.loc 0) 4)) (.cint 4))) [.assign 8 (.bi .sum [(.comp (.bin .add (.bin .add (.cint 49152) (.bin .mul (.cint 64) (.loc 5))) (.idx (.loc 10) (.cint 2))) 10 (.loc 1) [(.cmp .eq (.tup [(.idx (.loc 10) (.cint 1)), (.idx (.loc 10) (.cint 3))]) (.tup [(.loc 5), (.loc 7)]))] [5, 7])])] [], .assign 9 (.bin .add (.call 36 [(.loc 2), (.loc 7)]) (.bin .mul (.cint 64) (.call 36 [(.loc 2), (.loc 5)]))), .if_ (.or_ [(.cmp .ne (.call 16 [(.loc 0), (.loc 9)]) (.loc 8)), (.and_ [(.cmp .gt (.loc 4) (.cint 0)), (.cmp .ne (.call 16 [(.loc 0), (.bin .add (.loc 9) (.bin .mul (.cint 4096) (.loc 4)))]) (.cint 0))])]) [.ret (.cbool false)] []],
  .ret (.cbool true)]
/-- 42: 0=script 1=purse 2=files 3=ranks 4=has_any 5=table 6=geo 7=size 8=pos 9=men 10=square 11=low 12=one 13=two 14=steps 15=meant 16=index 17=home 18=goal 19=corner 20=piece 21=row -/
noncomputable def b_law : List S := [
  .assign 1 (.sdict [(.cstr [99, 101, 108, 108, 115]), (.slice0 (.loc 0) (.cint 14)), (.cstr [115, 112, 101, 110, 116]), (.cint 0)]),
  .assignTup [2, 3] (.idx (.call 33 []) (.call 34 [(.loc 1), (.cint 6)])),
  .assign 4 (.cmp .ne (.call 34 [(.loc 1), (.cint 4)]) (.cint 3)),
  .assign 5 (.call 35 [(.loc 2), (.loc 3), (.loc 4)]),
  .assign 6 (.call 31 [(.loc 2), (.loc 3), (.cbool true), (.loc 4)]),
  .assign 7 (.bin .mul (.loc 2) (.loc 3)),
  .assign 8 (.new 1 [(.loc 6), (.new 2 [(.comp (.bin .mul (.list [(.cint 0)]) (.loc 7)) 20 (.bi .range1 [(.cint 15)]) [] [7]), (.bin .mul (.list [(.cint 0)]) (.loc 2)), (.bin .mul (.list [(.cint 0)]) (.cint 16)), (.cint 0)])]),
  .assignAttr (.loc 8) 4 (.call 34 [(.loc 1), (.cint 2)]),
  .assign 9 (.call 37 [(.loc 1), (.loc 2), (.loc 3)]),
  .for_ 10 (.loc 9) [.expr (.call 32 [(.loc 8), (.idx (.loc 9) (.loc 10)), (.loc 10)])],
  .for_ 11 (.tup [(.cint 0), (.bin .sub (.loc 7) (.loc 2))]) [.for_ 12 (.bi .range2 [(.loc 11), (.bin .add (.loc 11) (.loc 2))]) [.for_ 13 (.bi .range2 [(.loc 11), (.bin .add (.loc 11) (.loc 2))]) [.if_ (.cmp .eq (.loc 12) (.loc 13)) [.cont] [], .assign 14 (.comp (.idx (.loc 21) (.cint 0)) 21 (.loc 5) [(.cmp .eq (.tup [(.idx (.loc 21) (.cint 1)), (.idx (.loc 21) (.cint 2))]) (.tup [(.loc 12), (.loc 13)]))] [12, 13]), .if_ (.cmp .ne (.call 13 [(.loc 6), (.loc 12), (.loc 13)]) (.ite (.cmp .ne (.loc 14) (.list [])) (.idx (.loc 14) (.cint 0)) (.neg (.cint 1)))) [.ret (.cbool false)] [], .assign 15 (.comp (.idx (.loc 21) (.cint 2)) 21 (.loc 5) [(.cmp .eq (.tup [(.bin .fdiv (.idx (.loc 21) (.cint 0)) (.cint 2)), (.idx (.loc 21) (.cint 1)), (.idx (.loc 21) (.cint 3))]) (.tup [(.attr (.loc 8) 4), (.loc 12), (.loc 13)]))] [8, 12, 13]), .if_ (.cmp .ne (.call 15 [(.loc 8), (.loc 12), (.loc 13)]) (.ite (.cmp .ne (.loc 15) (.list [])) (.bin .add (.bin .add (.cint 49152) (.bin .mul (.cint 64) (.loc 12))) (.idx (.loc 15) (.cint 0))) (.cint 0))) [.ret (.cbool false)] []]]],
  .forTup [16, 17, 18, 19] (.loc 5) [.if_ (.cmp .ne (.call 40 [(.loc 6), (.bin .add (.bin .add (.cint 49152) (.bin .mul (.cint 64) (.loc 17))) (.loc 18))]) (.bin .add (.call 36 [(.loc 2), (.loc 19)]) (.bin .mul (.cint 64) (.call 36 [(.loc 2), (.loc 17)])))) [.ret (.cbool false)] []],
  .assign 11 (.bin .mul (.call 34 [(.loc 1), (.cint 2)]) (.bin .sub (.loc 7) (.loc 2))),
  .assignTup [12, 13] (.tup [(.bin .add (.loc 11) (.call 34 [(.loc 1), (.loc 2)])), (.bin .add (.loc 11) (.call 34 [(.loc 1), (.loc 2)]))]),
  .if_ (.and_ [(.cmp .notin (.tup [(.loc 12), (.loc 13)]) (.comp (.tup [(.idx (.loc 21) (.cint 1)), (.idx (.loc 21) (.cint 2))]) 21 (.loc 5) [] [])), (.cmp .ne (.call 40 [(.loc 6), (.bin .add (.bin .add (.cint 49152) (.bin .mul (.cint 64) (.loc 12))) (.loc 13))]) (.neg (.bin .add (.bin .add (.cint 49152) (.bin .mul (.cint 64) (.loc 12))) (.loc 13))))]) [.ret (.cbool false)] [],
  .if_ (.cmp .ne (.call 23 [(.loc 6)]) (.call 39 [(.loc 2), (.loc 3), (.loc 5)])) [.ret (.cbool false)] [],
  .ret (.call 41 [(.loc 8), (.loc 5), (.loc 2), (.loc 9), (.call 34 [(.loc 1), (.cint 5)])])]
/-- 43: 0=self 1=files 2=ranks 3=has_double 4=has_castling -/
noncomputable def b_Geometry_init : List S := [
  .assignAttr (.loc 0) 0 (.loc 1),
  .assignAttr (.loc 0) 1 (.loc 2),
  .assignAttr (.loc 0) 7 (.bin .mul (.loc 1) (.loc 2)),
  .assignAttr (.loc 0) 10 (.bin .sub (.bin .shl (.cint 1) (.bin .mul (.loc 1) (.loc 2))) (.cint 1)),
  .assignAttr (.loc 0) 22 (.and_ [(.loc 3), (.cmp .ge (.loc 2) (.cint 5))]),
  .assignAttr (.loc 0) 16 (.loc 4),
  .assignAttr (.loc 0) 9 (.list []),
  .assignAttr (.loc 0) 8 (.list []),
  .assignAttr (.loc 0) 12 (.list []),
  .assignAttr (.loc 0) 11 (.list []),
  .assignAttr (.loc 0) 14 (.list []),
  .assignAttr (.loc 0) 13 (.list [(.list []), (.list [])]),
  .assignAttr (.loc 0) 2 (.list []),
  .assignAttr (.loc 0) 15 (.list [])]
/-- 44: 0=self 1=geo 2=zob -/
noncomputable def b_Position_init : List S := [
  .assignAttr (.loc 0) 3 (.loc 1),
  .assignAttr (.loc 0) 20 (.loc 2),
  .assignAttr (.loc 0) 5 (.bin .mul (.list [(.glob 8)]) (.attr (.loc 1) 7)),
  .assignAttr (.loc 0) 17 (.bin .mul (.list [(.cint 0)]) (.cint 7)),
  .assignAttr (.loc 0) 18 (.list [(.cint 0), (.cint 0)]),
  .assignAttr (.loc 0) 4 (.glob 0),
  .assignAttr (.loc 0) 23 (.cint 0),
  .assignAttr (.loc 0) 6 (.neg (.cint 1)),
  .assignAttr (.loc 0) 24 (.cint 0),
  .assignAttr (.loc 0) 10 (.cint 1),
  .assignAttr (.loc 0) 19 (.cint 0),
  .assignAttr (.loc 0) 25 (.list [])]
/-- 45: 0=self 1=pieces 2=ep 3=rights 4=side -/
noncomputable def b_Zobrist_init : List S := [
  .assignAttr (.loc 0) 21 (.loc 1),
  .assignAttr (.loc 0) 6 (.loc 2),
  .assignAttr (.loc 0) 23 (.loc 3),
  .assignAttr (.loc 0) 4 (.loc 4)]
noncomputable def fnTab : List Fn := [
  ⟨2, 2, b_make_piece⟩,
  ⟨1, 1, b_side_of⟩,
  ⟨1, 1, b_kind_of⟩,
  ⟨1, 1, b_is_piece⟩,
  ⟨1, 1, b_letter_of⟩,
  ⟨1, 1, b_piece_of⟩,
  ⟨4, 5, b_pack_move⟩,
  ⟨1, 1, b_move_from⟩,
  ⟨1, 1, b_move_to⟩,
  ⟨1, 1, b_move_special⟩,
  ⟨1, 1, b_move_promo⟩,
  ⟨2, 2, b_book_square⟩,
  ⟨2, 4, b_board_square⟩,
  ⟨3, 5, b_castle_of⟩,
  ⟨2, 6, b_book_move⟩,
  ⟨3, 5, b_castling_of⟩,
  ⟨2, 7, b_board_move⟩,
  ⟨4, 5, b_board_pawn_move⟩,
  ⟨1, 4, b_write_row⟩,
  ⟨2, 4, b_write_board⟩,
  ⟨1, 3, b_write_rights⟩,
  ⟨1, 4, b_start_row⟩,
  ⟨1, 5, b_start_board⟩,
  ⟨1, 3, b_start_fen⟩,
  ⟨1, 1, b_is_growing⟩,
  ⟨1, 5, b_add_masks⟩,
  ⟨2, 3, b_inner_squares⟩,
  ⟨1, 8, b_add_rays⟩,
  ⟨1, 2, b_add_pawns⟩,
  ⟨1, 11, b_add_knights⟩,
  ⟨1, 7, b_add_castles⟩,
  ⟨4, 5, b_make_geometry⟩,
  ⟨3, 4, b_put_piece⟩,
  ⟨0, 0, b_law_broad⟩,
  ⟨2, 2, b_law_pull⟩,
  ⟨3, 7, b_law_table⟩,
  ⟨2, 2, b_law_spot⟩,
  ⟨3, 8, b_law_laid⟩,
  ⟨1, 4, b_law_row⟩,
  ⟨3, 10, b_law_begin⟩,
  ⟨2, 3, b_law_told⟩,
  ⟨5, 12, b_law_king_right⟩,
  ⟨1, 22, b_law⟩,
  ⟨5, 5, b_Geometry_init⟩,
  ⟨3, 3, b_Position_init⟩,
  ⟨5, 5, b_Zobrist_init⟩]
noncomputable def glTab : List V := [.int 0, .int 1, .int 0, .int 1, .int 2, .int 4, .int 5, .int 6, .int 0, .int 0, .int 1, .int 2, .int 3, .int 0, .str [46, 80, 78, 66, 82, 81, 75, 46, 46, 112, 110, 98, 114, 113, 107], .str [75, 81, 107, 113], .str [114, 110, 98, 113, 107, 98, 110, 114, 47, 112, 112, 112, 112, 112, 112, 112, 112, 47, 56, 47, 56, 47, 56, 47, 56, 47, 80, 80, 80, 80, 80, 80, 80, 80, 47, 82, 78, 66, 81, 75, 66, 78, 82], .tup [.int 0, .int 1, .int 0, .int (-1), .int 1, .int 1, .int (-1), .int (-1)], .tup [.int 1, .int 0, .int (-1), .int 0, .int 1, .int (-1), .int (-1), .int 1]]
noncomputable def initTab (c : Nat) : Nat := match c with | 0 => 43 | 1 => 44 | 2 => 45 | _ => 1000
/-! names, for the matching with the text -/
open PySem in
noncomputable def nmTab : List (List Str) := [
  [Str.ofString "side", Str.ofString "kind"],
  [Str.ofString "piece"],
  [Str.ofString "piece"],
  [Str.ofString "number"],
  [Str.ofString "piece"],
  [Str.ofString "letter"],
  [Str.ofString "origin", Str.ofString "to", Str.ofString "special", Str.ofString "promo", Str.ofString "field"],
  [Str.ofString "move"],
  [Str.ofString "move"],
  [Str.ofString "move"],
  [Str.ofString "move"],
  [Str.ofString "geo", Str.ofString "square"],
  [Str.ofString "geo", Str.ofString "number", Str.ofString "file", Str.ofString "rank"],
  [Str.ofString "geo", Str.ofString "king_from", Str.ofString "king_to", Str.ofString "index", Str.ofString "castle"],
  [Str.ofString "geo", Str.ofString "move", Str.ofString "origin", Str.ofString "to", Str.ofString "index", Str.ofString "promo"],
  [Str.ofString "pos", Str.ofString "origin", Str.ofString "to", Str.ofString "index", Str.ofString "castle"],
  [Str.ofString "pos", Str.ofString "number", Str.ofString "geo", Str.ofString "to", Str.ofString "origin", Str.ofString "promo", Str.ofString "piece"],
  [Str.ofString "pos", Str.ofString "origin", Str.ofString "to", Str.ofString "promo", Str.ofString "last"],
  [Str.ofString "cells", Str.ofString "text", Str.ofString "gap", Str.ofString "piece"],
  [Str.ofString "board", Str.ofString "files", Str.ofString "rows", Str.ofString "at"],
  [Str.ofString "rights", Str.ofString "text", Str.ofString "index"],
  [Str.ofString "geo", Str.ofString "king", Str.ofString "text", Str.ofString "file"],
  [Str.ofString "geo", Str.ofString "first", Str.ofString "board", Str.ofString "file", Str.ofString "letter"],
  [Str.ofString "geo", Str.ofString "rights", Str.ofString "index"],
  [Str.ofString "d"],
  [Str.ofString "geo", Str.ofString "row", Str.ofString "column", Str.ofString "r", Str.ofString "f"],
  [Str.ofString "geo", Str.ofString "d", Str.ofString "edge"],
  [Str.ofString "geo", Str.ofString "d", Str.ofString "inner", Str.ofString "delta", Str.ofString "ray", Str.ofString "order", Str.ofString "square", Str.ofString "goal"],
  [Str.ofString "geo", Str.ofString "square"],
  [Str.ofString "geo", Str.ofString "files", Str.ofString "not_first", Str.ofString "not_last", Str.ofString "not_first_two", Str.ofString "not_last_two", Str.ofString "square", Str.ofString "b", Str.ofString "near", Str.ofString "far", Str.ofString "found"],
  [Str.ofString "geo", Str.ofString "start", Str.ofString "index", Str.ofString "base", Str.ofString "corner", Str.ofString "way", Str.ofString "goal"],
  [Str.ofString "files", Str.ofString "ranks", Str.ofString "has_double", Str.ofString "has_castling", Str.ofString "geo"],
  [Str.ofString "pos", Str.ofString "piece", Str.ofString "s", Str.ofString "bit"],
  [],
  [Str.ofString "purse", Str.ofString "many"],
  [Str.ofString "files", Str.ofString "ranks", Str.ofString "has_any", Str.ofString "rows", Str.ofString "index", Str.ofString "low", Str.ofString "middle"],
  [Str.ofString "files", Str.ofString "square"],
  [Str.ofString "purse", Str.ofString "files", Str.ofString "ranks", Str.ofString "men", Str.ofString "side", Str.ofString "low", Str.ofString "corner", Str.ofString "what"],
  [Str.ofString "signs", Str.ofString "text", Str.ofString "dots", Str.ofString "sign"],
  [Str.ofString "files", Str.ofString "ranks", Str.ofString "table", Str.ofString "white", Str.ofString "black", Str.ofString "rows", Str.ofString "rights", Str.ofString "row", Str.ofString "sign", Str.ofString "turn"],
  [Str.ofString "geo", Str.ofString "move", Str.ofString "fault"],
  [Str.ofString "pos", Str.ofString "table", Str.ofString "files", Str.ofString "men", Str.ofString "promo", Str.ofString "king", Str.ofString "low", Str.ofString "goal", Str.ofString "due", Str.ofString "number", Str.ofString "row", Str.ofString "square"],
  [Str.ofString "script", Str.ofString "purse", Str.ofString "files", Str.ofString "ranks", Str.ofString "has_any", Str.ofString "table", Str.ofString "geo", Str.ofString "size", Str.ofString "pos", Str.ofString "men", Str.ofString "square", Str.ofString "low", Str.ofString "one", Str.ofString "two", Str.ofString "steps", Str.ofString "meant", Str.ofString "index", Str.ofString "home", Str.ofString "goal", Str.ofString "corner", Str.ofString "piece", Str.ofString "row"],
  [Str.ofString "self", Str.ofString "files", Str.ofString "ranks", Str.ofString "has_double", Str.ofString "has_castling"],
  [Str.ofString "self", Str.ofString "geo", Str.ofString "zob"],
  [Str.ofString "self", Str.ofString "pieces", Str.ofString "ep", Str.ofString "rights", Str.ofString "side"]]
noncomputable def visTab : List Nat := [2, 1, 1, 1, 1, 1, 5, 1, 1, 1, 1, 2, 4, 5, 6, 5, 7, 5, 4, 4, 3, 4, 4, 3, 1, 5, 3, 8, 2, 11, 7, 5, 4, 0, 2, 7, 2, 8, 4, 7, 3, 10, 20, 5, 3, 5]
open PySem in
noncomputable def fnNames : List Str := [Str.ofString "make_piece", Str.ofString "side_of", Str.ofString "kind_of", Str.ofString "is_piece", Str.ofString "letter_of", Str.ofString "piece_of", Str.ofString "pack_move", Str.ofString "move_from", Str.ofString "move_to", Str.ofString "move_special", Str.ofString "move_promo", Str.ofString "book_square", Str.ofString "board_square", Str.ofString "castle_of", Str.ofString "book_move", Str.ofString "castling_of", Str.ofString "board_move", Str.ofString "board_pawn_move", Str.ofString "write_row", Str.ofString "write_board", Str.ofString "write_rights", Str.ofString "start_row", Str.ofString "start_board", Str.ofString "start_fen", Str.ofString "is_growing", Str.ofString "add_masks", Str.ofString "inner_squares", Str.ofString "add_rays", Str.ofString "add_pawns", Str.ofString "add_knights", Str.ofString "add_castles", Str.ofString "make_geometry", Str.ofString "put_piece", Str.ofString "_law_broad", Str.ofString "_law_pull", Str.ofString "_law_table", Str.ofString "_law_spot", Str.ofString "_law_laid", Str.ofString "_law_row", Str.ofString "_law_begin", Str.ofString "_law_told", Str.ofString "_law_king_right", Str.ofString "law", Str.ofString "Geometry.__init__", Str.ofString "Position.__init__", Str.ofString "Zobrist.__init__"]
open PySem in
noncomputable def glNames : List Str := [Str.ofString "WHITE", Str.ofString "BLACK", Str.ofString "NO_KIND", Str.ofString "PAWN", Str.ofString "KNIGHT", Str.ofString "ROOK", Str.ofString "QUEEN", Str.ofString "KING", Str.ofString "EMPTY", Str.ofString "NORMAL", Str.ofString "PROMOTION", Str.ofString "EN_PASSANT", Str.ofString "CASTLING", Str.ofString "NO_MOVE", Str.ofString "LETTERS", Str.ofString "RIGHT_LETTERS", Str.ofString "FULL_START", Str.ofString "STEP_FILES", Str.ofString "STEP_RANKS"]
open PySem in
noncomputable def attrNames : List Str := [Str.ofString "files", Str.ofString "ranks", Str.ofString "castles", Str.ofString "geo", Str.ofString "side", Str.ofString "board", Str.ofString "ep", Str.ofString "size", Str.ofString "rank_masks", Str.ofString "file_masks", Str.ofString "full", Str.ofString "king", Str.ofString "rays", Str.ofString "pawn", Str.ofString "knight", Str.ofString "rights_lost", Str.ofString "has_castling", Str.ofString "kinds", Str.ofString "sides", Str.ofString "key", Str.ofString "zob", Str.ofString "pieces", Str.ofString "has_double", Str.ofString "rights", Str.ofString "half", Str.ofString "history"]
open PySem in
noncomputable def clsNames : List Str := [Str.ofString "Geometry", Str.ofString "Position", Str.ofString "Zobrist"]
end Mine
end
/-! Snd1 -/
section
set_option Elab.async false
set_option genSizeOf false
set_option linter.all false
set_option maxRecDepth 100000
open PySem PySem.W PyProof.Rows
namespace Mine

/-- what is fixed: the program, the world, the written heap, the heap before the call -/
structure Gx where
  prog : Program
  w : World
  K : Frag
  base : Heap
  clsA : Nat → Addr
  attrN : List Str

noncomputable abbrev Rho := List (Addr × Addr)
noncomputable def strV (s : List Nat) : Str := ⟨s.toArray⟩

mutual
noncomputable def RepV (h : Heap) (ρ : Rho) : V → Value → Prop
  | .none, x => x = .none
  | .bool b, x => x = .bool b
  | .int i, x => ∃ t, x = .int i t
  | .str s, x => ∃ t, x = .str (strV s) t
  | .tup l, x => ∃ a xs, x = .ref a ∧ h.IsTuple a xs.toArray ∧ RepL h ρ l xs
  | .rng a c n, x => ∃ r b t u v, x = .ref r ∧ IsRange h r a b c t u v ∧ Builtin.Range.small a b c = true ∧ Builtin.Range.rangeSize a b c = (n : Int)
  | .obj k, x => ∃ a m, x = .ref a ∧ ρ[k]? = some (a, m)
noncomputable def RepL (h : Heap) (ρ : Rho) : List V → List Value → Prop
  | [], xs => xs = []
  | v :: r, xs => ∃ y ys, xs = y :: ys ∧ RepV h ρ v y ∧ RepL h ρ r ys
end

/-- objects that nothing changes -/
noncomputable def Fix (o : Obj) : Prop := (o.cls = .type "tuple" ∨ o.cls = .type "range" ∨ o.data = .plain) ∧ (∀ es n, o.data ≠ .dict es n) ∧ ∀ v, o.data ≠ .cell v

noncomputable def KeepFix (h h' : Heap) : Prop := ∀ a o, h.get? a = some o → Fix o → h'.get? a = some o
noncomputable def Pre (ρ ρ' : Rho) : Prop := ∃ t, ρ' = ρ ++ t
theorem Pre.refl (ρ : Rho) : Pre ρ ρ := ⟨[], by simp⟩
theorem Pre.trans {a b c : Rho} (x : Pre a b) (y : Pre b c) : Pre a c := by
  obtain ⟨t, rfl⟩ := x; obtain ⟨u, rfl⟩ := y; exact ⟨t ++ u, by simp⟩
theorem Pre.get {ρ ρ' : Rho} (x : Pre ρ ρ') {k : Nat} {p : Addr × Addr} (h : ρ[k]? = some p) : ρ'[k]? = some p := by
  refine byC fun nG => ?_
  obtain ⟨t, rfl⟩ := x
  refine nG ?_; rw [List.getElem?_append_left (List.getElem?_eq_some_iff.mp h).1]; exact h

mutual
theorem RepV.mono {h h' : Heap} {ρ ρ' : Rho} (kf : KeepFix h h') (pr : Pre ρ ρ') : ∀ {v : V} {x : Value}, RepV h ρ v x → RepV h' ρ' v x
  | .none, _, e => e
  | .bool _, _, e => e
  | .int _, _, e => e
  | .str _, _, e => e
  | .tup l, _, e => by
    refine byC fun nG => ?_
    obtain ⟨a, xs, rfl, ⟨o, ho, hc, n, hd⟩, hl⟩ := e
    refine nG ?_
    exact ⟨a, xs, rfl, ⟨o, kf a o ho ⟨.inl hc, by rw [hd]; exact ⟨(fun q_ q_ z => nomatch z), fun q_ z => nomatch z⟩⟩, hc, n, hd⟩, RepL.mono kf pr hl⟩
  | .rng a c n, _, e => by
    refine byC fun nG => ?_
    obtain ⟨r, b, t, u, v, rfl, hr, hs, hn⟩ := e
    refine nG ?_
    exact ⟨r, b, t, u, v, rfl, kf _ _ hr ⟨.inr (.inl rfl), (fun q_ q_ z => nomatch z), fun q_ z => nomatch z⟩, hs, hn⟩
  | .obj k, _, e => by
    refine byC fun nG => ?_
    obtain ⟨a, m, rfl, hk⟩ := e
    refine nG ?_
    exact ⟨a, m, rfl, pr.get hk⟩
theorem RepL.mono {h h' : Heap} {ρ ρ' : Rho} (kf : KeepFix h h') (pr : Pre ρ ρ') : ∀ {l : List V} {xs : List Value}, RepL h ρ l xs → RepL h' ρ' l xs
  | [], _, e => e
  | _ :: _, _, e => by
    refine byC fun nG => ?_
    obtain ⟨y, ys, rfl, h1, h2⟩ := e
    refine nG ?_
    exact ⟨y, ys, rfl, RepV.mono kf pr h1, RepL.mono kf pr h2⟩
end
theorem RepL.length {h : Heap} {ρ : Rho} : ∀ {l : List V} {xs : List Value}, RepL h ρ l xs → xs.length = l.length
  | [], _, e => by rw [RepL] at e; rw [e]; rfl
  | _ :: _, _, e => by rw [RepL] at e; obtain ⟨y, ys, rfl, h1, h2⟩ := e; simp [RepL.length h2]
theorem RepL.get {h : Heap} {ρ : Rho} : ∀ {l : List V} {xs : List Value} {i : Nat} {v : V}, RepL h ρ l xs → l[i]? = some v → ∃ x, xs[i]? = some x ∧ RepV h ρ v x
  | [], _, _, _, _, e => by simp at e
  | v :: r, _, i, w, e, q => by
    refine byC fun nG => ?_
    obtain ⟨y, ys, rfl, h1, h2⟩ := e
    cases i with
    | zero => simp at q; subst q; refine nG ?_; exact ⟨y, rfl, h1⟩
    | succ i => simp at q; refine nG ?_; simpa using RepL.get h2 q
theorem RepL.none {h : Heap} {ρ : Rho} {l : List V} {xs : List Value} {i : Nat} (e : RepL h ρ l xs) (q : l[i]? = none) : xs[i]? = none := by
  rw [List.getElem?_eq_none_iff] at q ⊢
  rw [e.length]; exact q
theorem RepL.app {h : Heap} {ρ : Rho} : ∀ {l l' : List V} {xs xs' : List Value}, RepL h ρ l xs → RepL h ρ l' xs' → RepL h ρ (l ++ l') (xs ++ xs')
  | [], _, _, _, e, e' => by cases e; exact e'
  | _ :: _, _, _, _, e, e' => by
    refine byC fun nG => ?_
    obtain ⟨y, ys, rfl, h1, h2⟩ := e
    refine nG ?_
    exact ⟨y, ys ++ _, rfl, h1, RepL.app h2 e'⟩
theorem RepL.one {h : Heap} {ρ : Rho} {v : V} {x : Value} (e : RepV h ρ v x) : RepL h ρ [v] [x] := ⟨x, [], rfl, e, rfl⟩
theorem RepL.set {h : Heap} {ρ : Rho} {v : V} {x : Value} (e' : RepV h ρ v x) : ∀ {l : List V} {xs : List Value} {i : Nat}, RepL h ρ l xs → RepL h ρ (l.set i v) (xs.set i x)
  | [], _, _, e => by cases e; rfl
  | w :: r, _, i, e => by
    refine byC fun nG => ?_
    obtain ⟨y, ys, rfl, h1, h2⟩ := e
    cases i with
    | zero => refine nG ?_; exact ⟨x, ys, rfl, e', h2⟩
    | succ i => refine nG ?_; exact ⟨y, ys.set i x, rfl, h1, RepL.set e' h2⟩
theorem RepL.take {h : Heap} {ρ : Rho} : ∀ {l : List V} {xs : List Value} (n : Nat), RepL h ρ l xs → RepL h ρ (l.take n) (xs.take n)
  | [], _, n, e => by cases e; simp [RepL]
  | w :: r, _, n, e => by
    refine byC fun nG => ?_
    obtain ⟨y, ys, rfl, h1, h2⟩ := e
    cases n with
    | zero => refine nG ?_; simp [RepL]
    | succ n => refine nG ?_; exact ⟨y, ys.take n, rfl, h1, RepL.take n h2⟩
theorem RepL.drop {h : Heap} {ρ : Rho} : ∀ {l : List V} {xs : List Value} (n : Nat), RepL h ρ l xs → RepL h ρ (l.drop n) (xs.drop n)
  | [], _, n, e => by cases e; simp [RepL]
  | w :: r, _, n, e => by
    have e0 := e
    refine byC fun nG => ?_
    obtain ⟨y, ys, rfl, h1, h2⟩ := e
    cases n with
    | zero => refine nG ?_; exact e0
    | succ n => refine nG ?_; exact RepL.drop n h2
theorem RepL.replicate {h : Heap} {ρ : Rho} {v : V} {x : Value} (e : RepV h ρ v x) : ∀ n, RepL h ρ (List.replicate n v) (List.replicate n x)
  | 0 => rfl
  | n + 1 => ⟨x, _, rfl, e, RepL.replicate e n⟩
theorem RepL.nil {h : Heap} {ρ : Rho} : RepL h ρ [] [] := rfl
theorem RepL.cons {h : Heap} {ρ : Rho} {v : V} {x : Value} {l : List V} {xs : List Value} (e : RepV h ρ v x) (e' : RepL h ρ l xs) : RepL h ρ (v :: l) (x :: xs) := ⟨x, xs, rfl, e, e'⟩

/-- a dict's entries -/
noncomputable def RepI (h : Heap) (ρ : Rho) : List (Int × V) → List (Int × Value) → Prop
  | [], kv => kv = []
  | (k, v) :: r, kv => ∃ x s, kv = (k, x) :: s ∧ RepV h ρ v x ∧ RepI h ρ r s
noncomputable def RepS (h : Heap) (ρ : Rho) : List (List Nat × V) → List (Str × Value) → Prop
  | [], kv => kv = []
  | (k, v) :: r, kv => ∃ x s, kv = (strV k, x) :: s ∧ RepV h ρ v x ∧ RepS h ρ r s
noncomputable def RepA (nm : List Str) (h : Heap) (ρ : Rho) : List (Nat × V) → List DictEntry → Prop
  | [], es => es = []
  | (a, v) :: r, es => ∃ n hsh t x s, nm[a]? = some n ∧ es = ⟨hsh, .str n t, x⟩ :: s ∧ RepV h ρ v x ∧ RepA nm h ρ r s

noncomputable def O.frozen : O → Bool
  | .flist _ => true
  | .fdict _ => true
  | _ => false

noncomputable def O.tag : O → Nat
  | .list _ => 0
  | .flist _ => 1
  | .dict _ => 2
  | .fdict _ => 2
  | .sdict _ => 3
  | .inst _ _ => 4

noncomputable def RepO (G : Gx) (h : Heap) (ρ : Rho) (p : Addr × Addr) : O → Prop
  | .list l => p.1 = p.2 ∧ ∃ xs, h.PlainList p.1 xs.toArray ∧ RepL h ρ l xs
  | .flist l => p.1 = p.2 ∧ ∃ xs, h.IsList p.1 xs.toArray ∧ RepL h ρ l xs
  | .dict es => p.1 = p.2 ∧ (p.1 == sysModules) = false ∧ ∃ kvs, h.DictOf (intKind G.prog G.w) p.1 kvs ∧ RepI h ρ es kvs
  | .fdict es => p.1 = p.2 ∧ (p.1 == sysModules) = false ∧ ∃ kvs, h.DictOf (intKind G.prog G.w) p.1 kvs ∧ RepI h ρ es kvs
  | .sdict es => p.1 = p.2 ∧ (p.1 == sysModules) = false ∧ ∃ kvs, h.DictOf (strKind G.prog G.w) p.1 kvs ∧ RepS h ρ es kvs
  | .inst c as => c < 3 ∧ h.get? p.1 = some (instObj (G.clsA c) p.2) ∧ ∃ es n, h.get? p.2 = some (dictOf es n) ∧ RepA G.attrN h ρ as es

theorem RepI.mono {h h' : Heap} {ρ ρ' : Rho} (kf : KeepFix h h') (pr : Pre ρ ρ') : ∀ {l : List (Int × V)} {xs}, RepI h ρ l xs → RepI h' ρ' l xs
  | [], _, e => e
  | _ :: _, _, e => by obtain ⟨x, s, rfl, h1, h2⟩ := e; exact ⟨x, s, rfl, h1.mono kf pr, RepI.mono kf pr h2⟩
theorem RepS.mono {h h' : Heap} {ρ ρ' : Rho} (kf : KeepFix h h') (pr : Pre ρ ρ') : ∀ {l : List (List Nat × V)} {xs}, RepS h ρ l xs → RepS h' ρ' l xs
  | [], _, e => e
  | _ :: _, _, e => by obtain ⟨x, s, rfl, h1, h2⟩ := e; exact ⟨x, s, rfl, h1.mono kf pr, RepS.mono kf pr h2⟩
theorem RepA.mono {nm : List Str} {h h' : Heap} {ρ ρ' : Rho} (kf : KeepFix h h') (pr : Pre ρ ρ') : ∀ {l : List (Nat × V)} {xs}, RepA nm h ρ l xs → RepA nm h' ρ' l xs
  | [], _, e => e
  | _ :: _, _, e => by obtain ⟨n, hsh, t, x, s, hn, rfl, h1, h2⟩ := e; exact ⟨n, hsh, t, x, s, hn, rfl, h1.mono kf pr, RepA.mono kf pr h2⟩

/-- an address that may be written -/
noncomputable def Owned (ρ : Rho) (H : Hp) (a : Addr) : Prop := ∃ (k : Nat) (p : Addr × Addr) (o : O), ρ[k]? = some p ∧ H[k]? = some o ∧ o.frozen = false ∧ p.2 = a

structure Sta (G : Gx) (ρ : Rho) (H : Hp) (h : Heap) : Prop where
  len : ρ.length = H.length
  rep : ∀ (k : Nat) (p : Addr × Addr) (o : O), ρ[k]? = some p → H[k]? = some o → RepO G h ρ p o
  inj : ∀ (k j : Nat) (p q : Addr × Addr), ρ[k]? = some p → ρ[j]? = some q → p.2 = q.2 → k = j
  base : ∀ b o, G.base.get? b = some o → h.get? b = some o
  low : ∀ a, Owned ρ H a → G.base.get? a = none

/-- kept; of what holds a dict the slots may be others (a frame's, when a traceback is made) -/
noncomputable def Same (o : Obj) (r : Option Obj) : Prop := ∃ sl, r = some { o with slots := sl } ∧ ((∀ es n, o.data ≠ .dict es n) → sl = o.slots)
theorem Same.of {o : Obj} {r : Option Obj} (e : r = some o) : Same o r := ⟨o.slots, e, fun q_ => rfl⟩
theorem Same.eq {o : Obj} {r : Option Obj} (x : Same o r) (nd : ∀ es n, o.data ≠ .dict es n) : r = some o := by
  refine byC fun nG => ?_
  obtain ⟨sl, e, h⟩ := x
  refine nG ?_
  rw [e, h nd]

structure Step (F : Addr → Prop) (ρ : Rho) (H : Hp) (h : Heap) (ρ' : Rho) (H' : Hp) (h' : Heap) : Prop where
  pre : Pre ρ ρ'
  fix : KeepFix h h'
  keep : ∀ b o, h.get? b = some o → ¬ Owned ρ H b → ¬ F b → Same o (h'.get? b)
  new : ∀ a, Owned ρ' H' a → Owned ρ H a ∨ h.get? a = none
  live : ∀ b o, h.get? b = some o → ∃ o', h'.get? b = some o'
  fresh : ∀ p, p ∈ ρ' → p ∈ ρ ∨ h.get? p.2 = none
  kin : ∀ (k : Nat) o, H[k]? = some o → ∃ o', H'[k]? = some o' ∧ o'.tag = o.tag

noncomputable def NoF : Addr → Prop := fun q_ => False

theorem Step.keepX {F : Addr → Prop} {ρ ρ1 : Rho} {H H1 : Hp} {h h1 : Heap} (x : Step F ρ H h ρ1 H1 h1) {b : Addr} {o : Obj} (e : h.get? b = some o) (n : ¬ Owned ρ H b) (f : ¬ F b) (nd : ∀ es k, o.data ≠ .dict es k) : h1.get? b = some o := (x.keep b o e n f).eq nd
theorem Step.keepNs {F : Addr → Prop} {ρ ρ1 : Rho} {H H1 : Hp} {h h1 : Heap} (x : Step F ρ H h ρ1 H1 h1) {b : Addr} {m : Str → Option Value} (e : h.Ns b m) (n : ¬ Owned ρ H b) (f : ¬ F b) : h1.Ns b m := by
  refine byC fun nG => ?_
  obtain ⟨o, es, ep, e1, e2, e3⟩ := e
  obtain ⟨sl, e4, _⟩ := x.keep b o e1 n f
  refine nG ?_
  exact ⟨_, es, ep, e4, e2, e3⟩
theorem Step.keepCell {F : Addr → Prop} {ρ ρ1 : Rho} {H H1 : Hp} {h h1 : Heap} (x : Step F ρ H h ρ1 H1 h1) {b : Addr} {m : Option Value} (e : h.IsCell b m) (n : ¬ Owned ρ H b) (f : ¬ F b) : h1.IsCell b m := by
  refine byC fun nG => ?_
  obtain ⟨o, e1, e2⟩ := e
  obtain ⟨sl, e4, _⟩ := x.keep b o e1 n f
  refine nG ?_
  exact ⟨_, e4, e2⟩
theorem Step.keepPl {F : Addr → Prop} {ρ ρ1 : Rho} {H H1 : Hp} {h h1 : Heap} (x : Step F ρ H h ρ1 H1 h1) {b : Addr} {xs : Array Value} (e : h.PlainList b xs) (n : ¬ Owned ρ H b) (f : ¬ F b) : h1.PlainList b xs := by
  obtain ⟨k, e1⟩ := e
  exact ⟨k, x.keepX e1 n f (fun q_ q_ z => nomatch z)⟩

theorem Step.refl (F : Addr → Prop) (ρ : Rho) (H : Hp) (h : Heap) : Step F ρ H h ρ H h := ⟨.refl _, fun q_ q_ e q_ => e, fun q_ q_ e q_ q_ => .of e, fun q_ e => .inl e, fun q_ o e => ⟨o, e⟩, fun q_ e => .inl e, fun q_ o e => ⟨o, e, rfl⟩⟩
theorem Step.trans {F : Addr → Prop} {ρ : Rho} {H : Hp} {h : Heap} {ρ1 : Rho} {H1 : Hp} {h1 : Heap} {ρ2 : Rho} {H2 : Hp} {h2 : Heap} (x : Step F ρ H h ρ1 H1 h1) (y : Step F ρ1 H1 h1 ρ2 H2 h2) : Step F ρ H h ρ2 H2 h2 where
  pre := x.pre.trans y.pre
  fix := fun a o e f => y.fix a o (x.fix a o e f) f
  keep := fun b o e n f => by
    refine byC fun nG => ?_
    obtain ⟨sl, e1, h1⟩ := x.keep b o e n f
    obtain ⟨sl2, e2, h2⟩ := y.keep b _ e1 (fun q => (x.new b q).elim n fun l => by rw [e] at l; cases l) f
    refine nG ?_
    exact ⟨sl2, e2, fun nd => (h2 nd).trans (h1 nd)⟩
  new := fun a q => (y.new a q).elim (fun q => x.new a q) fun l => .inr (by
    cases e : h.get? a with
    | none => rfl
    | some o => obtain ⟨o', e'⟩ := x.live a o e; rw [e'] at l; cases l)
  live := fun b o e => let ⟨o', e'⟩ := x.live b o e; y.live b o' e'
  fresh := fun p q => (y.fresh p q).elim (fun q => x.fresh p q) fun l => .inr (by
    cases e : h.get? p.2 with
    | none => rfl
    | some o => obtain ⟨o', e'⟩ := x.live _ o e; rw [e'] at l; cases l)
  kin := fun k o e => let ⟨o1, e1, t1⟩ := x.kin k o e; let ⟨o2, e2, t2⟩ := y.kin k o1 e1; ⟨o2, e2, t2.trans t1⟩
theorem Step.wide {F F' : Addr → Prop} {ρ ρ1 : Rho} {H H1 : Hp} {h h1 : Heap} (x : Step F ρ H h ρ1 H1 h1) (k : ∀ a, F a → F' a) : Step F' ρ H h ρ1 H1 h1 :=
  ⟨x.pre, x.fix, fun b o e n f => x.keep b o e n fun q => f (k b q), x.new, x.live, x.fresh, x.kin⟩
theorem Step.ofNo {F : Addr → Prop} {ρ ρ1 : Rho} {H H1 : Hp} {h h1 : Heap} (x : Step NoF ρ H h ρ1 H1 h1) : Step F ρ H h ρ1 H1 h1 := x.wide fun q_ f => f.elim
/-- addresses that did not stand at the start may be left out of F -/
theorem Step.narrow {F F' : Addr → Prop} {ρ ρ1 : Rho} {H H1 : Hp} {h h1 : Heap} (x : Step F ρ H h ρ1 H1 h1) (k : ∀ a, F a → F' a ∨ h.get? a = none) : Step F' ρ H h ρ1 H1 h1 :=
  ⟨x.pre, x.fix, fun b o e n f => x.keep b o e n fun q => (k b q).elim f (fun l => by rw [e] at l; cases l), x.new, x.live, x.fresh, x.kin⟩
/-- more in the heap, nothing else -/
theorem Step.ext {F : Addr → Prop} {ρ : Rho} {H : Hp} {h h' : Heap} (k : ∀ b o, h.get? b = some o → h'.get? b = some o) : Step F ρ H h ρ H h' :=
  ⟨.refl _, fun a o e q_ => k a o e, fun b o e q_ q_ => .of (k b o e), fun q_ q => .inl q, fun b o e => ⟨o, k b o e⟩, fun q_ e => .inl e, fun q_ o e => ⟨o, e, rfl⟩⟩
theorem Step.push {F : Addr → Prop} {ρ : Rho} {H : Hp} {h : Heap} (o : Obj) : Step F ρ H h ρ H (h.push o) := .ext (fun q_ q_ e => Heap.get?_push_of_some _ e)

theorem RepO.keep {G : Gx} {h h' : Heap} {ρ ρ' : Rho} {p : Addr × Addr} {o : O} (kf : KeepFix h h') (pr : Pre ρ ρ') (k1 : ∀ q, h.get? p.1 = some q → h'.get? p.1 = some q) (k2 : ∀ q, h.get? p.2 = some q → h'.get? p.2 = some q)
    (e : RepO G h ρ p o) : RepO G h' ρ' p o := by
  refine byC fun nG => ?_
  cases o with
  | list l => obtain ⟨e1, xs, ⟨n, ho⟩, hl⟩ := e; refine nG ?_; exact ⟨e1, xs, ⟨n, k1 _ ho⟩, hl.mono kf pr⟩
  | flist l => obtain ⟨e1, xs, ⟨o, ho, r⟩, hl⟩ := e; refine nG ?_; exact ⟨e1, xs, ⟨o, k1 _ ho, r⟩, hl.mono kf pr⟩
  | dict l => obtain ⟨e1, e2, xs, ⟨o, es, ep, ho, r⟩, hl⟩ := e; refine nG ?_; exact ⟨e1, e2, xs, ⟨o, es, ep, k1 _ ho, r⟩, hl.mono kf pr⟩
  | fdict l => obtain ⟨e1, e2, xs, ⟨o, es, ep, ho, r⟩, hl⟩ := e; refine nG ?_; exact ⟨e1, e2, xs, ⟨o, es, ep, k1 _ ho, r⟩, hl.mono kf pr⟩
  | sdict l => obtain ⟨e1, e2, xs, ⟨o, es, ep, ho, r⟩, hl⟩ := e; refine nG ?_; exact ⟨e1, e2, xs, ⟨o, es, ep, k1 _ ho, r⟩, hl.mono kf pr⟩
  | inst c as => obtain ⟨e0, e1, es, n, e2, hl⟩ := e; refine nG ?_; exact ⟨e0, k1 _ e1, es, n, k2 _ e2, hl.mono kf pr⟩

/-- what stands at an object's first address is fixed or is its second -/
theorem RepO.first {G : Gx} {h : Heap} {ρ : Rho} {p : Addr × Addr} {o : O} (e : RepO G h ρ p o) : p.1 = p.2 ∨ ∃ q, h.get? p.1 = some q ∧ Fix q := by
  refine byC fun nG => ?_
  cases o with
  | list l => refine nG ?_; exact .inl e.1
  | flist l => refine nG ?_; exact .inl e.1
  | dict l => refine nG ?_; exact .inl e.1
  | fdict l => refine nG ?_; exact .inl e.1
  | sdict l => refine nG ?_; exact .inl e.1
  | inst c as => refine nG ?_; exact .inr ⟨_, e.2.1, .inr (.inr rfl), (fun q_ q_ z => nomatch z), fun q_ z => nomatch z⟩
theorem RepO.there {G : Gx} {h : Heap} {ρ : Rho} {p : Addr × Addr} {o : O} (e : RepO G h ρ p o) : ∃ q, h.get? p.2 = some q ∧ ¬ Fix q := by
  have nf : ∀ {q : Obj}, (q.cls = .type "list" ∨ q.cls = .type "dict") → q.data ≠ .plain → ¬ Fix q := by
    intro q hc hd f
    refine byC fun nG => ?_
    rcases f.1 with f | f | f
    · rcases hc with c | c <;> rw [c] at f <;> simp at f
    · rcases hc with c | c <;> rw [c] at f <;> simp at f
    · refine nG ?_
      exact hd f
  have li : ∀ {a : Addr} {l : Array Value}, h.IsList a l → ∃ q, h.get? a = some q ∧ ¬ Fix q := by
    intro a l ⟨o, ho, hc, n, hd⟩
    exact ⟨o, ho, nf (.inl hc) (by rw [hd]; intro z; cases z)⟩
  have di : ∀ {Kk : Type} [DecidableEq Kk] {knd : KeyKind G.prog G.w Kk} {a : Addr} {l}, h.DictOf knd a l → ∃ q, h.get? a = some q ∧ ¬ Fix q := by
    intro Kk _ knd a l ⟨o, es, ep, ho, hx, hd, _⟩
    exact ⟨o, ho, nf (.inr hx.1) (by rw [hd]; intro z; cases z)⟩
  refine byC fun nG => ?_
  cases o with
  | list l => obtain ⟨e1, xs, hl, _⟩ := e; refine nG ?_; rw [← e1]; exact li hl.isList
  | flist l => obtain ⟨e1, xs, hl, _⟩ := e; refine nG ?_; rw [← e1]; exact li hl
  | dict l => obtain ⟨e1, _, xs, hl, _⟩ := e; refine nG ?_; rw [← e1]; exact di hl
  | fdict l => obtain ⟨e1, _, xs, hl, _⟩ := e; refine nG ?_; rw [← e1]; exact di hl
  | sdict l => obtain ⟨e1, _, xs, hl, _⟩ := e; refine nG ?_; rw [← e1]; exact di hl
  | inst c as => obtain ⟨_, _, es, n, e2, _⟩ := e; refine nG ?_; exact ⟨_, e2, nf (.inr rfl) (by intro z; cases z)⟩

theorem Sta.ext {G : Gx} {ρ : Rho} {H : Hp} {h h' : Heap} (S : Sta G ρ H h) (k : ∀ b o, h.get? b = some o → h'.get? b = some o) : Sta G ρ H h' where
  len := S.len
  rep := fun i p o a b => (S.rep i p o a b).keep (fun c q e q_ => k c q e) (.refl _) (fun q e => k _ q e) (fun q e => k _ q e)
  inj := S.inj
  base := fun b o e => k b o (S.base b o e)
  low := S.low
theorem Sta.push {G : Gx} {ρ : Rho} {H : Hp} {h : Heap} (S : Sta G ρ H h) (o : Obj) : Sta G ρ H (h.push o) := S.ext (fun q_ q_ e => Heap.get?_push_of_some _ e)

theorem Sta.there {G : Gx} {ρ : Rho} {H : Hp} {h : Heap} (S : Sta G ρ H h) {k : Nat} {p : Addr × Addr} (e : ρ[k]? = some p) : h.get? p.2 ≠ none := by
  have hk := (List.getElem?_eq_some_iff.mp e).1
  rw [S.len] at hk
  refine byC fun nG => ?_
  obtain ⟨q, hq, _⟩ := (S.rep k p _ e (List.getElem?_eq_getElem hk)).there
  refine nG ?_; rw [hq]; intro z; cases z
theorem Sta.at {G : Gx} {ρ : Rho} {H : Hp} {h : Heap} (S : Sta G ρ H h) {k : Nat} {o : O} (e : H[k]? = some o) : ∃ p, ρ[k]? = some p ∧ RepO G h ρ p o := by
  have hk := (List.getElem?_eq_some_iff.mp e).1
  rw [← S.len] at hk
  exact ⟨_, List.getElem?_eq_getElem hk, S.rep k _ o (List.getElem?_eq_getElem hk) e⟩

theorem owned_set {ρ : Rho} {H : Hp} {k : Nat} {o o' : O} (e : H[k]? = some o) (f : o'.frozen = o.frozen) (a : Addr) : Owned ρ (H.set k o') a ↔ Owned ρ H a := by
  have hk := (List.getElem?_eq_some_iff.mp e).1
  constructor
  · rintro ⟨j, p, q, h1, h2, h3, h4⟩
    refine byC fun nG => ?_
    by_cases hj : k = j
    · subst hj
      rw [List.getElem?_set_self hk] at h2
      cases h2
      refine nG ?_
      exact ⟨k, p, o, h1, e, f ▸ h3, h4⟩
    · rw [List.getElem?_set_ne hj] at h2
      refine nG ?_
      exact ⟨j, p, q, h1, h2, h3, h4⟩
  · rintro ⟨j, p, q, h1, h2, h3, h4⟩
    refine byC fun nG => ?_
    by_cases hj : k = j
    · subst hj
      rw [e] at h2
      cases h2
      refine nG ?_
      exact ⟨k, p, o', h1, List.getElem?_set_self hk, f.symm ▸ h3, h4⟩
    · refine nG ?_
      exact ⟨j, p, q, h1, by rw [List.getElem?_set_ne hj]; exact h2, h3, h4⟩

/-- one object is written -/
theorem Sta.write {G : Gx} {ρ : Rho} {H : Hp} {h h' : Heap} (S : Sta G ρ H h) {k : Nat} {p : Addr × Addr} {o o' : O} (ek : ρ[k]? = some p) (eo : H[k]? = some o) (fo : o.frozen = false) (fo' : o'.frozen = false)
    (hs : Heap.SameBut p.2 h h') (tg : o'.tag = o.tag) (hr : KeepFix h h' → RepO G h' ρ p o') : Sta G ρ (H.set k o') h' ∧ Step NoF ρ H h ρ (H.set k o') h' := by
  have hk := (List.getElem?_eq_some_iff.mp eo).1
  have own : Owned ρ H p.2 := ⟨k, p, o, ek, eo, fo, rfl⟩
  have kf : KeepFix h h' := fun a q e f => by
    refine byC fun nG => ?_
    by_cases ha : a = p.2
    · subst ha
      obtain ⟨q', hq', nf⟩ := (S.rep k p o ek eo).there
      rw [e] at hq'; cases hq'; exact absurd f nf
    · refine nG ?_; rw [hs.2 a ha]; exact e
  have ow := owned_set (ρ := ρ) eo (fo'.trans fo.symm)
  refine ⟨⟨by rw [List.length_set]; exact S.len, fun j q r e1 e2 => ?_, S.inj, fun b q e => ?_, fun a q => S.low a ((ow a).mp q)⟩, ⟨.refl _, kf, fun b q e n q_ => ?_, fun a q => .inl ((ow a).mp q), fun b q e => ?_, fun q_ e => .inl e, fun j q e => by
    refine byC fun nG => ?_
    by_cases hj : k = j
    · subst hj; rw [eo] at e; cases e; refine nG ?_; exact ⟨o', List.getElem?_set_self hk, tg⟩
    · refine nG ?_
      exact ⟨q, by rw [List.getElem?_set_ne hj]; exact e, rfl⟩⟩⟩
  · refine byC fun nG => ?_
    by_cases hj : k = j
    · subst hj
      rw [List.getElem?_set_self hk] at e2
      cases e2
      rw [ek] at e1; cases e1
      refine nG ?_
      exact hr kf
    · rw [List.getElem?_set_ne hj] at e2
      have R := S.rep j q r e1 e2
      have ne2 : q.2 ≠ p.2 := fun z => hj (S.inj k j p q ek e1 z.symm)
      refine nG ?_
      refine R.keep kf (.refl _) (fun x ex => ?_) (fun x ex => (hs.2 _ ne2).trans ex)
      refine byC fun nG => ?_
      rcases R.first with z | ⟨x', hx', fx⟩
      · refine nG ?_; rw [z] at ex ⊢; exact (hs.2 _ ne2).trans ex
      · rw [hx'] at ex; cases ex; refine nG ?_; exact kf _ _ hx' fx
  · rw [hs.2 b]
    · exact S.base b q e
    · rintro rfl; rw [S.low _ own] at e; cases e
  · refine Same.of ?_
    rw [hs.2 b]
    · exact e
    · rintro rfl; exact n own
  · refine byC fun nG => ?_
    by_cases hb : b = p.2
    · subst hb
      obtain ⟨q', hq', _⟩ := (hr kf).there
      refine nG ?_
      exact ⟨q', hq'⟩
    · refine nG ?_
      exact ⟨q, by rw [hs.2 b hb]; exact e⟩

/-- an object is made: its second address is new -/
theorem Sta.alloc {G : Gx} {ρ : Rho} {H : Hp} {h h' : Heap} (S : Sta G ρ H h) {p : Addr × Addr} {o : O} (k : ∀ b q, h.get? b = some q → h'.get? b = some q) (hp : h.get? p.2 = none)
    (hr : RepO G h' (ρ ++ [p]) p o) : Sta G (ρ ++ [p]) (H ++ [o]) h' ∧ Step NoF ρ H h (ρ ++ [p]) (H ++ [o]) h' := by
  have kf : KeepFix h h' := fun a q e q_ => k a q e
  have pr : Pre ρ (ρ ++ [p]) := ⟨[p], rfl⟩
  have getρ : ∀ j q, (ρ ++ [p])[j]? = some q → ρ[j]? = some q ∨ (j = ρ.length ∧ q = p) := fun j q e => by
    refine byC fun nG => ?_
    rcases Nat.lt_or_ge j ρ.length with l | l
    · rw [List.getElem?_append_left l] at e; refine nG ?_; exact .inl e
    · rw [List.getElem?_append_right l] at e
      rcases Nat.eq_zero_or_pos (j - ρ.length) with q0 | q0
      · rw [q0] at e; simp at e; refine nG ?_; exact .inr ⟨by omega, e.symm⟩
      · rw [List.getElem?_eq_none (by simp; omega)] at e; cases e
  have getH : ∀ j r, (H ++ [o])[j]? = some r → j < H.length → H[j]? = some r := fun j r e l => by
    rw [List.getElem?_append_left l] at e; exact e
  have own : ∀ a, Owned (ρ ++ [p]) (H ++ [o]) a → Owned ρ H a ∨ a = p.2 := by
    rintro a ⟨j, q, r, h1, h2, h3, h4⟩
    refine byC fun nG => ?_
    rcases getρ j q h1 with h1 | ⟨rfl, rfl⟩
    · refine nG ?_
      exact .inl ⟨j, q, r, h1, getH j r h2 (by rw [← S.len]; exact (List.getElem?_eq_some_iff.mp h1).1), h3, h4⟩
    · refine nG ?_
      exact .inr h4.symm
  refine ⟨⟨by simp [S.len], fun j q r e1 e2 => ?_, fun i j q r e1 e2 e3 => ?_, fun b q e => k b q (S.base b q e), fun a q => ?_⟩, ⟨pr, kf, fun b q e q_ q_ => .of (k b q e), fun a q => (own a q).imp id (fun e => by rw [e]; exact hp), fun b o e => ⟨o, k b o e⟩, fun q e => (List.mem_append.mp e).imp id fun e => by rw [List.mem_singleton.mp e]; exact hp, fun j q e => ⟨q, by rw [List.getElem?_append_left (List.getElem?_eq_some_iff.mp e).1]; exact e, rfl⟩⟩⟩
  · refine byC fun nG => ?_
    rcases getρ j q e1 with h1 | ⟨rfl, rfl⟩
    · have e2' := getH j r e2 (by rw [← S.len]; exact (List.getElem?_eq_some_iff.mp h1).1)
      refine nG ?_
      exact (S.rep j q r h1 e2').keep kf pr (fun x e => k _ x e) (fun x e => k _ x e)
    · rw [S.len] at e2
      rw [List.getElem?_append_right (Nat.le_refl _), Nat.sub_self] at e2
      simp at e2
      subst e2
      refine nG ?_
      exact hr
  · refine byC fun nG => ?_
    rcases getρ i q e1 with h1 | ⟨rfl, rfl⟩ <;> rcases getρ j r e2 with h2 | ⟨rfl, rfl⟩
    · refine nG ?_
      exact S.inj i j q r h1 h2 e3
    · exact absurd (by rw [e3]; exact hp) (S.there h1)
    · exact absurd (by rw [← e3]; exact hp) (S.there h2)
    · refine nG ?_
      rfl
  · refine byC fun nG => ?_
    rcases own a q with q | rfl
    · refine nG ?_
      exact S.low a q
    · refine nG ?_
      cases e : G.base.get? p.2 with
      | none => rfl
      | some o => rw [S.base _ _ e] at hp; cases hp

/-- freezing and thawing -/
theorem Sta.freeze {G : Gx} {ρ : Rho} {H : Hp} {h : Heap} (S : Sta G ρ H h) {k : Nat} {es : List (Int × V)} (eo : H[k]? = some (.dict es)) : Sta G ρ (H.set k (.fdict es)) h ∧ (∀ a, Owned ρ (H.set k (.fdict es)) a → Owned ρ H a) := by
  have hk := (List.getElem?_eq_some_iff.mp eo).1
  have own : ∀ a, Owned ρ (H.set k (.fdict es)) a → Owned ρ H a := by
    rintro a ⟨j, p, q, h1, h2, h3, h4⟩
    refine byC fun nG => ?_
    by_cases hj : k = j
    · subst hj
      rw [List.getElem?_set_self hk] at h2
      cases h2; cases h3
    · rw [List.getElem?_set_ne hj] at h2
      refine nG ?_
      exact ⟨j, p, q, h1, h2, h3, h4⟩
  refine ⟨⟨by rw [List.length_set]; exact S.len, fun j q r e1 e2 => ?_, S.inj, S.base, fun a q => S.low a (own a q)⟩, own⟩
  refine byC fun nG => ?_
  by_cases hj : k = j
  · subst hj
    rw [List.getElem?_set_self hk] at e2
    cases e2
    refine nG ?_
    exact S.rep k q (.dict es) e1 eo
  · rw [List.getElem?_set_ne hj] at e2
    refine nG ?_
    exact S.rep j q r e1 e2
theorem Sta.thaw {G : Gx} {ρ : Rho} {H : Hp} {h : Heap} (S : Sta G ρ H h) {k : Nat} {p : Addr × Addr} {es : List (Int × V)} (ek : ρ[k]? = some p) (eo : H[k]? = some (.fdict es)) (hp : G.base.get? p.2 = none) :
    Sta G ρ (H.set k (.dict es)) h ∧ (∀ a, Owned ρ (H.set k (.dict es)) a → Owned ρ H a ∨ a = p.2) := by
  have hk := (List.getElem?_eq_some_iff.mp eo).1
  have own : ∀ a, Owned ρ (H.set k (.dict es)) a → Owned ρ H a ∨ a = p.2 := by
    rintro a ⟨j, q, r, h1, h2, h3, h4⟩
    refine byC fun nG => ?_
    by_cases hj : k = j
    · subst hj
      rw [ek] at h1; cases h1
      refine nG ?_
      exact .inr h4.symm
    · rw [List.getElem?_set_ne hj] at h2
      refine nG ?_
      exact .inl ⟨j, q, r, h1, h2, h3, h4⟩
  refine ⟨⟨by rw [List.length_set]; exact S.len, fun j q r e1 e2 => ?_, S.inj, S.base, fun a q => (own a q).elim (S.low a) (fun e => by rw [e]; exact hp)⟩, own⟩
  refine byC fun nG => ?_
  by_cases hj : k = j
  · subst hj
    rw [List.getElem?_set_self hk] at e2
    cases e2
    refine nG ?_
    exact S.rep k q (.fdict es) e1 eo
  · rw [List.getElem?_set_ne hj] at e2
    refine nG ?_
    exact S.rep j q r e1 e2
end Mine
end
/-! Snd2 -/
section
set_option Elab.async false
set_option genSizeOf false
set_option linter.all false
set_option maxRecDepth 100000
open PySem PySem.W PyProof.Rows PySem.SeqAt
namespace Mine

noncomputable def opPy : Op → Operator
  | .add => .Add | .sub => .Sub | .mul => .Mult | .fdiv => .FloorDiv | .mod => .Mod | .and => .BitAnd | .or => .BitOr | .xor => .BitXor | .shl => .LShift | .shr => .RShift
noncomputable def cmPy : Cm → CmpOp
  | .eq => .Eq | .ne => .NotEq | .lt => .Lt | .le => .LtE | .gt => .Gt | .ge => .GtE | .is_ => .Is | .isnt => .IsNot | .in_ => .In | .notin => .NotIn

theorem small_lt {a : Int} (h : small a = true) : a.natAbs < 2 ^ 64 := by
  unfold small at h
  have := Nat.le_of_ble_eq_true h
  omega
theorem fits_le {n : Nat} (h : fits n = true) : n ≤ 100000 := Nat.le_of_ble_eq_true h
theorem fits_size {n : Nat} (h : fits n = true) : n ≤ sizeLine := Nat.le_trans (fits_le h) (by rw [sizeLine_eq]; decide)
theorem pow_cast (n : Nat) : (2 : Int) ^ n = Int.ofNat (2 ^ n) := by
  show (2 : Int) ^ n = ((2 ^ n : Nat) : Int)
  simp
theorem bits_small {a : Int} (h : small a = true) : Builtin.Int.intBits a ≤ 64 := by
  have h1 := small_lt h
  exact PySem.intBits_le_64 (by omega) (by omega)

section
variable {prog : Program} {w : World} {A : Around} {E : Value → Shared → Prop} {s : Shared}

theorem ibin_in {P : Op → Int → Prop} {op : Op} {a b c : Int} (h : ibin op a b = some c) (add : P .add (a + b)) (sub : P .sub (a - b)) (mul : small a = true → P .mul (a * b))
    (fdiv : (!(b == 0)) = true → (small a && Nat.blt b.natAbs 1073741824) = true → P .fdiv (Int.fdiv a b)) (mod : (!(b == 0)) = true → P .mod (Int.fmod a b)) (and_ : P .and (Builtin.bitAnd a b)) (or_ : P .or (Builtin.bitOr a b)) (xor : P .xor (Builtin.bitXor a b))
    (shl : ∀ n : Nat, b = n → (small a && Nat.ble n 1000000) = true → P .shl (a * 2 ^ n)) (shr : ∀ n : Nat, b = n → P .shr (Int.fdiv a (2 ^ n))) : P op c := by
  cases op with
  | add => exact some_in h fun e => e ▸ add
  | sub => exact some_in h fun e => e ▸ sub
  | mul => exact grd_in h fun q h => some_in h fun e => e ▸ mul q
  | fdiv => exact grd_in h fun q h => grd_in h fun q2 h => some_in h fun e => e ▸ fdiv q q2
  | mod => exact grd_in h fun q h => some_in h fun e => e ▸ mod q
  | and => exact some_in h fun e => e ▸ and_
  | or => exact some_in h fun e => e ▸ or_
  | xor => exact some_in h fun e => e ▸ xor
  | shl => exact natI_in h fun n q h => grd_in h fun q2 h => some_in h fun e => e ▸ pow_cast n ▸ shl n q q2
  | shr => exact natI_in h fun n q h => some_in h fun e => e ▸ pow_cast n ▸ shr n q
theorem ne0 {b : Int} (h : (!(b == 0)) = true) : b ≠ 0 := by simpa using h
theorem np_small {a b : Int} (h : (small a && Nat.blt b.natAbs 1073741824) = true) : Builtin.divisionGoesByPylong a b = false :=
  PyProof.noPylong_small (Nat.le_of_ble_eq_true (Bool.and_eq_true_iff.mp h).2)
theorem shl_ok {a : Int} {n : Nat} (h : (small a && Nat.ble n 1000000) = true) : ((n : Nat) : Int) ≤ 1000000 ∧ a.natAbs < 2 ^ 64 := by
  rw [Bool.and_eq_true] at h
  exact ⟨Int.ofNat_le.mpr (Nat.le_of_ble_eq_true h.2), small_lt h.1⟩
theorem bin_int {op : Op} {a b c : Int} {t u : Tok} {Q : Value → Shared → Prop} (h : ibin op a b = some c) (q : ∀ t tk, Q (.int c t) { s with toks := tk }) :
    wpAny (model prog w) A (binaryOp (opPy op) (.int a t) (.int b u)) Q E s := by
  refine ibin_in (P := fun op c => (∀ t tk, Q (.int c t) { s with toks := tk }) → wpAny (model prog w) A (binaryOp (opPy op) (.int a t) (.int b u)) Q E s) h (fun q => add_int (q _ _)) (fun q => sub_int (q _ _))
    (fun hs q => PyProof.Rows.mul_int (q _ _) (IntMulOk.of_left (bits_small hs))) (fun h0 hs q => floordiv_int (ne0 h0) (q _ _) (.inl (np_small hs))) (fun h0 q => mod_int (ne0 h0) (q _ _)) (fun q => and_int (q _ _)) (fun q => or_int (q _ _)) (fun q => xor_int (q _ _))
    (fun n e hs q => ?_) (fun n e q => ?_) q
  · subst e; exact lshift_int_small (Int.natCast_nonneg n) (Int.le_trans (shl_ok hs).1 (by decide)) (shl_ok hs).2 (q _ _)
  · subst e; exact rshift_int (Int.natCast_nonneg n) (q _ _)
theorem inp_int {op : Op} {a b c : Int} {t u : Tok} {Q : Value → Shared → Prop} (h : ibin op a b = some c) (q : ∀ t tk, Q (.int c t) { s with toks := tk }) :
    wpAny (model prog w) A (inplaceOp (opPy op) (.int a t) (.int b u)) Q E s := by
  refine ibin_in (P := fun op c => (∀ t tk, Q (.int c t) { s with toks := tk }) → wpAny (model prog w) A (inplaceOp (opPy op) (.int a t) (.int b u)) Q E s) h (fun q => iadd_int (q _ _)) (fun q => isub_int (q _ _))
    (fun hs q => PyProof.Rows.imul_int (q _ _) (IntMulOk.of_left (bits_small hs))) (fun h0 hs q => ifloordiv_int (ne0 h0) (q _ _) (.inl (np_small hs))) (fun h0 q => imod_int (ne0 h0) (q _ _)) (fun q => iand_int (q _ _)) (fun q => ior_int (q _ _)) (fun q => ixor_int (q _ _))
    (fun n e hs q => ?_) (fun n e q => ?_) q
  · subst e; exact ilshift_int_small (Int.natCast_nonneg n) (Int.le_trans (shl_ok hs).1 (by decide)) (shl_ok hs).2 (q _ _)
  · subst e; exact irshift_int (Int.natCast_nonneg n) (q _ _)
end

theorem strV_len (x : List Nat) : (strV x).length = x.length := by simp [strV, Str.length]
theorem strV_app (x y : List Nat) : strV x ++ strV y = strV (x ++ y) := by
  show Str.mk _ = _
  simp [strV]

/-- what a pure step gives -/
noncomputable def Gives (G : Gx) (ρ : Rho) (H : Hp) (s : Shared) (r : V × Hp) (Q : Value → Shared → Prop) : Prop :=
  ∀ ρ' h' tk x, Sta G ρ' r.2 h' → Step NoF ρ H s.heap ρ' r.2 h' → RepV h' ρ' r.1 x → Q x { s with heap := h', toks := tk }
theorem Gives.here {G : Gx} {ρ : Rho} {H : Hp} {s : Shared} {v : V} {Q : Value → Shared → Prop} (g : Gives G ρ H s (v, H) Q) (S : Sta G ρ H s.heap) {x : Value} (e : RepV s.heap ρ v x) (tk : Nat) : Q x { s with toks := tk } :=
  g ρ s.heap tk x S (.refl _ _ _ _) e

section
variable {G : Gx} {A : Around} {E : Value → Shared → Prop} {s : Shared} {ρ : Rho} {H : Hp} {Q : Value → Shared → Prop}

/-- a list is made -/
theorem give_list {l : List V} {xs : List Value} {h' : Heap} {tk : Nat} (S : Sta G ρ H s.heap) (hl : RepL s.heap ρ l xs) (k : ∀ b o, s.heap.get? b = some o → h'.get? b = some o)
    (a : Addr) (ha : s.heap.get? a = none) (e : h'.PlainList a xs.toArray) (g : Gives G ρ H s (.obj H.length, H ++ [.list l]) Q) : Q (.ref a) { s with heap := h', toks := tk } := by
  have kf : KeepFix s.heap h' := fun a q e q_ => k a q e
  obtain ⟨S', T'⟩ := S.alloc (p := (a, a)) (o := .list l) k ha ⟨rfl, xs, e, hl.mono kf ⟨_, rfl⟩⟩
  refine g (ρ ++ [(a, a)]) h' tk (.ref a) S' T' ⟨a, a, rfl, ?_⟩
  rw [← S.len]; simp
theorem plain_push (h : Heap) (xs : Array Value) (n : Nat) : (h.push { cls := .type "list", data := .seq xs n }).PlainList h.objs.size xs := ⟨n, Heap.get?_push_size _ rfl⟩
theorem push_keep (h : Heap) (o : Obj) : ∀ b q, h.get? b = some q → (h.push o).get? b = some q := fun q_ q_ e => Heap.get?_push_of_some _ e
theorem top_none (h : Heap) : h.get? h.objs.size = none := by
  cases e : h.get? h.objs.size with
  | none => rfl
  | some o => exact absurd (Heap.lt_size e) (Nat.lt_irrefl _)
theorem none_of_le {h : Heap} {a : Addr} (l : h.objs.size ≤ a) : h.get? a = none := by
  cases e : h.get? a with
  | none => rfl
  | some o => exact absurd (Heap.lt_size e) (Nat.not_lt.mpr l)

theorem Sta.list {h : Heap} {k : Nat} {l : List V} {x : Value} (S : Sta G ρ H h) (r : RepV h ρ (.obj k) x) (e : H[k]? = some (.list l)) : ∃ a xs, x = .ref a ∧ ρ[k]? = some (a, a) ∧ h.PlainList a xs.toArray ∧ RepL h ρ l xs := by
  refine byC fun nG => ?_
  obtain ⟨a, m, rfl, hk⟩ := r
  obtain ⟨e1, xs, hl, hr⟩ := S.rep k _ _ hk e
  cases e1
  refine nG ?_
  exact ⟨a, xs, rfl, hk, hl, hr⟩

theorem fold_rep (x : Value) : ∀ n (acc : Array Value), List.foldl (fun x1 x2 => x1 ++ x2) acc (List.replicate n #[x]) = acc ++ (List.replicate n x).toArray
  | 0, acc => by simp
  | n + 1, acc => by
    rw [List.replicate_succ, List.foldl_cons, fold_rep x n]
    apply Array.ext'
    simp [List.replicate_succ]

theorem mul_raw {l : Addr} {y : Value} {k : Nat} {x : Int} {u : Tok} (hl : s.heap.get? l = some { cls := .type "list", dict := none, data := .seq #[y] k, slots := #[] }) (h0 : 0 ≤ x) (h1 : x ≤ 100000)
    (h : Q (.ref s.heap.objs.size) { s with heap := s.heap.push { cls := .type "list", data := .seq (List.replicate x.toNat y).toArray } }) :
    wpAny (model G.prog G.w) A (binaryOp .Mult (.ref l) (.int x u)) Q E s := by
  have hz : (#[y] : Array Value).size * x.toNat ≤ 2 ^ 24 := by
    show 1 * x.toNat ≤ 2 ^ 24
    omega
  refine wpAny_binaryOp_repeat_ref (T := "list") (U := "int") (by decide) ⟨_, hl, rfl⟩ (fun s' => typeIs_int s' x u) noFill_list_mul F.fills_int_mul F.slot_int_rmul repeat_list F.slot_int_index.lookup
    (call_meets F.slot_int_rmul (typeIs_int s x u) F.entry_int_rmul (F.args_int_rmul_2 _ _) (int___rmul___int_list x u l #[y] k)
      ⟨hl, rfl, ⟨_, hl, rfl⟩, call_meets F.slot_list_mul ⟨_, hl, rfl⟩ F.entry_list_mul (F.args_list_mul_2 _ _)
        (AutoListH.list___mul___list_int_3 l #[y] k x u (by simp [Builtin.List.listFitsIndex]; omega) (by omega) (by simp [Builtin.List.listTooLong, sizeLine]; omega))
        ⟨hl, ?_⟩⟩)
  have e : (List.foldl (fun x1 x2 => x1 ++ x2) #[] (List.replicate (if (#[y] : Array Value).isEmpty = true then 0 else x.toNat) #[y])) = (List.replicate x.toNat y).toArray := by
    rw [if_neg (by simp)]
    simpa using fold_rep y x.toNat #[]
  rw [e]
  exact h

theorem binV_in {P : Prop} {op : Op} {a b : V} {r : V × Hp} (h : binV op a b H = some r) (i : ∀ x y z, a = .int x → b = .int y → ibin op x y = some z → r = (.int z, H) → P)
    (s : ∀ x y, a = .str x → b = .str y → op = .add → fits (x.length + y.length) = true → r = (.str (x ++ y), H) → P)
    (m : ∀ k x (n : Nat), a = .obj k → b = .int n → op = .mul → H[k]? = some (.list [x]) → fits n = true → r = (.obj H.length, H ++ [.list (List.replicate n x)]) → P)
    (l : ∀ k j x y, a = .obj k → b = .obj j → op = .add → H[k]? = some (.list x) → H[j]? = some (.list y) → fits (x.length + y.length) = true → r = (.obj H.length, H ++ [.list (x ++ y)]) → P) : P := by
  cases a with
  | int x => exact vInt_in h fun y e h => bind_in h fun z e2 h => i x y z rfl e e2 (Option.some.inj h).symm
  | str x => exact vStr_in h fun y e h => opAdd_in h fun e2 h => grd_in h fun e3 h => s x y rfl e e2 e3 (Option.some.inj h).symm
  | obj k =>
    cases b with
    | int y => exact opMul_in h fun e2 h => oList_in h fun l e3 h => lOne_in h fun x e4 h => natI_in h fun n e5 h => grd_in h fun e6 h => m k x n rfl (congrArg _ e5) e2 (e4 ▸ e3) e6 (Option.some.inj h).symm
    | obj j => exact opAdd_in h fun e2 h => oList_in h fun x e3 h => oList_in h fun y e4 h => grd_in h fun e5 h => l k j x y rfl rfl e2 e3 e4 e5 (Option.some.inj h).symm
    | _ => exact nope h
  | _ => exact nope h

theorem bin_snd {op : Op} {a b : V} {r : V × Hp} {x y : Value} (h : binV op a b H = some r) (S : Sta G ρ H s.heap) (ra : RepV s.heap ρ a x) (rb : RepV s.heap ρ b y) (g : Gives G ρ H s r Q) :
    wpAny (model G.prog G.w) A (binaryOp (opPy op) x y) Q E s := by
  refine byC fun nG => binV_in h (fun m n z ea eb hz er => ?_) (fun m n ea eb eo hf er => ?_) (fun k v n ea eb eo e1 hf er => ?_) (fun k j l m ea eb eo e1 e2 hf er => ?_)
  · subst ea eb er
    obtain ⟨t, rfl⟩ := ra
    obtain ⟨u, rfl⟩ := rb
    exact nG (bin_int hz fun t tk => g.here S ⟨t, rfl⟩ tk)
  · subst ea eb er eo
    obtain ⟨t, rfl⟩ := ra
    obtain ⟨u, rfl⟩ := rb
    refine nG (PyProof.Rows.add_str (fun t' tk => ?_) (by rw [strV_len, strV_len]; exact fits_size hf))
    rw [strV_app]
    exact g.here S ⟨t', rfl⟩ tk
  · subst ea eb er eo
    obtain ⟨a, xs, rfl, _, ⟨c, ho⟩, hl⟩ := S.list ra e1
    obtain ⟨u, rfl⟩ := rb
    obtain ⟨y, ys, rfl, h1, h2⟩ := hl
    cases h2
    exact nG (mul_raw ho (Int.natCast_nonneg n) (Int.ofNat_le.mpr (fits_le hf)) (give_list (tk := s.toks) S (RepL.replicate h1 n) (push_keep _ _) _ (top_none _) (plain_push _ _ _) g))
  · subst ea eb er eo
    obtain ⟨a, xs, rfl, _, ⟨n, ho⟩, hl⟩ := S.list ra e1
    obtain ⟨b, ys, rfl, _, ⟨n2, ho2⟩, hl2⟩ := S.list rb e2
    have hsz : xs.toArray.size + ys.toArray.size ≤ sizeLine := by rw [List.size_toArray, List.size_toArray, hl.length, hl2.length]; exact fits_size hf
    refine nG (concat_meets ⟨_, ho, rfl⟩ ⟨_, ho2, rfl⟩ noFill_list_add seq_list_add PySem.F.slot_list_add PySem.F.entry_list_add (PySem.F.args_list_add_2 _ _) (list_addW a b xs.toArray ys.toArray n n2 none none #[] #[] hsz) ⟨ho, ho2, ?_⟩)
    rw [List.append_toArray]
    exact give_list (tk := s.toks) S (hl.app hl2) (push_keep _ _) _ (top_none _) (plain_push _ _ _) g

theorem inp_snd {op : Op} {a b : V} {r : V × Hp} {x y : Value} (h : binV op a b H = some r) (hr : ∀ k, r.1 ≠ .obj k) (S : Sta G ρ H s.heap) (ra : RepV s.heap ρ a x) (rb : RepV s.heap ρ b y) (g : Gives G ρ H s r Q) :
    wpAny (model G.prog G.w) A (inplaceOp (opPy op) x y) Q E s := by
  refine byC fun nG => binV_in h (fun m n z ea eb hz er => ?_) (fun m n ea eb eo hf er => ?_) (fun k v n ea eb eo e1 hf er => hr _ (by rw [er])) (fun k j l m ea eb eo e1 e2 hf er => hr _ (by rw [er]))
  · subst ea eb er
    obtain ⟨t, rfl⟩ := ra
    obtain ⟨u, rfl⟩ := rb
    exact nG (inp_int hz fun t tk => g.here S ⟨t, rfl⟩ tk)
  · subst ea eb er eo
    obtain ⟨t, rfl⟩ := ra
    obtain ⟨u, rfl⟩ := rb
    refine nG (PyProof.Rows.iadd_str (fun t' tk => ?_) (by rw [strV_len, strV_len]; exact fits_size hf))
    rw [strV_app]
    exact g.here S ⟨t', rfl⟩ tk

theorem truthy_snd {v : V} {b : Bool} {x : Value} {Q : Bool → Shared → Prop} (h : truthyV v = some b) (r : RepV s.heap ρ v x) (q : ∀ tk, Q b { s with toks := tk }) : wpAny (model G.prog G.w) A (truthy x) Q E s := by
  refine byC fun nG => ?_
  cases v with
  | none => cases h; cases r; exact nG (PyProof.Rows.truthy_none (q _))
  | bool b => cases h; cases r; exact nG (wpAny_truthy_bool (q _))
  | int i => cases h; obtain ⟨t, rfl⟩ := r; exact nG (P.truthy_int (q _))
  | _ => exact nope h

theorem eqInts_eq : ∀ (a b : List Int), eqInts a b = decide (a = b)
  | [], [] => rfl
  | [], _ :: _ => rfl
  | _ :: _, [] => rfl
  | x :: r, y :: t => by
    rw [eqInts_cons, eqInts_eq r t]
    by_cases h : x = y <;> simp [h]
theorem eqNats_eq : ∀ (a b : List Nat), eqNats a b = decide (a = b)
  | [], [] => rfl
  | [], _ :: _ => rfl
  | _ :: _, [] => rfl
  | x :: r, y :: t => by
    rw [eqNats_cons, eqNats_eq r t, BT.beq_eq]
    by_cases h : x = y <;> simp [h]
theorem strV_inj {a b : List Nat} : strV a = strV b ↔ a = b := by
  constructor
  · intro h
    have : (strV a).cps.toList = (strV b).cps.toList := by rw [h]
    simpa [strV] using this
  · rintro rfl; rfl
theorem ints_of {h : Heap} : ∀ {l : List V} {ns : List Int} {xs : List Value}, allInt l = some ns → RepL h ρ l xs → IntsAre xs ns
  | [], _, _, e, r => by cases e; cases r; exact .nil
  | v :: l, ns, _, e, ⟨y, ys, e0, h1, h2⟩ => by
    refine byC fun nG => vInt_in e fun i ev e => bind_in e fun ms e1 e2 => ?_
    subst e0 ev
    obtain ⟨t, rfl⟩ := h1
    cases e2
    exact nG (.cons i t (ints_of e1 h2))
theorem reads_tup {h : Heap} {l : List V} {ns : List Int} {x : Value} (r : RepV h ρ (.tup l) x) (e : allInt l = some ns) : Reads h x (.tuple (ns.map PyData.int)) [] := by
  refine byC fun nG => ?_
  obtain ⟨a, xs, rfl, ⟨o, ho, hc, n, hd⟩, hl⟩ := r
  refine nG ?_
  exact Reads.tuple ho hc hd (by simpa using readsAll_of_ints (ints_of e hl))
theorem shaped_tup (ns : List Int) : SeqAt.shaped (.tuple (ns.map PyData.int)) = true := by
  have h1 := W.depthAll_ints ns
  have h2 : PyData.depth (.tuple (ns.map PyData.int)) ≤ 64 := by simp only [PyData.depth]; omega
  show (PyData.canLay0 (.tuple (ns.map PyData.int)) && decide (PyData.depth (.tuple (ns.map PyData.int)) ≤ 64)) = true
  rw [Bool.and_eq_true]
  exact ⟨by simp only [PyData.canLay0]; exact canLayAll0_ints ns, decide_eq_true h2⟩

theorem strV_eqN (m n : List Nat) : (strV m == strV n) = eqNats m n := by rw [eqNats_eq, Bool.eq_iff_iff, beq_iff_eq, decide_eq_true_iff, strV_inj]
theorem eqL_in {P : Prop} {x y : List V} {r : Bool} (h : eqL x y = some r) (k : ∀ m n, allInt x = some m → allInt y = some n → r = decide (m = n) → P) : P :=
  bind_in h fun m e1 h => bind_in h fun n e2 h => k m n e1 e2 ((Option.some.inj h).symm.trans (eqInts_eq m n))
theorem eqV_in {P : Prop} {a b : V} {r : Bool} (h : eqV a b H = some r) (i : ∀ x y, a = .int x → b = .int y → r = (x == y) → P) (s : ∀ x y, a = .str x → b = .str y → r = (strV x == strV y) → P)
    (t : ∀ x y m n, a = .tup x → b = .tup y → allInt x = some m → allInt y = some n → r = decide (m = n) → P)
    (l : ∀ k j x y m n, a = .obj k → b = .obj j → H[k]? = some (.list x) → H[j]? = some (.list y) → allInt x = some m → allInt y = some n → r = decide (m = n) → P) : P := by
  cases a with
  | int x => exact vInt_in h fun y e h => i x y rfl e (Option.some.inj h).symm
  | str x => exact vStr_in h fun y e h => s x y rfl e ((Option.some.inj h).symm.trans (strV_eqN x y).symm)
  | tup x => exact vTup_in h fun y e h => eqL_in h fun m n e1 e2 e3 => t x y m n rfl e e1 e2 e3
  | obj k => exact vObj_in h fun j e h => oList_in h fun x e3 h => oList_in h fun y e4 h => eqL_in h fun m n e1 e2 e5 => l k j x y m n rfl e e3 e4 e1 e2 e5
  | _ => exact nope h
theorem eq_snd {a b : V} {r : Bool} {x y : Value} (h : eqV a b H = some r) (S : Sta G ρ H s.heap) (hu : A.units + 64 < cLine) (ra : RepV s.heap ρ a x) (rb : RepV s.heap ρ b y) (q : Q (.bool r) s) :
    wpAny (model G.prog G.w) A (compareOp .Eq x y) Q E s := by
  refine byC fun nG => eqV_in h (fun m n ea eb er => ?_) (fun m n ea eb er => ?_) (fun l l2 m n ea eb e1 e2 er => ?_) (fun k j l l2 m n ea eb e1 e2 f1 f2 er => ?_)
  · subst ea eb er; obtain ⟨t, rfl⟩ := ra; obtain ⟨u, rfl⟩ := rb; exact nG (P.eq_int q)
  · subst ea eb er; obtain ⟨t, rfl⟩ := ra; obtain ⟨u, rfl⟩ := rb; exact nG (PyProof.Rows.eq_str q)
  · subst ea eb er
    refine nG (eq_dataH_same (reads_tup ra e1) (reads_tup rb e2) (shaped_tup _) (shaped_tup _) hu (by simp only [noMix]; exact noMix_ints _ _) ?_)
    simp only [PySem.Spec.same]; rw [same_ints]; exact q
  · subst ea eb er
    obtain ⟨a, xs, rfl, _, hl, hr⟩ := S.list ra e1
    obtain ⟨b, ys, rfl, _, hl', hr'⟩ := S.list rb e2
    exact nG (eq_intsK hl.isList (ints_of f1 hr) hl'.isList (ints_of f2 hr') hu q)
theorem ne_snd {a b : V} {r : Bool} {x y : Value} (h : eqV a b H = some r) (S : Sta G ρ H s.heap) (hu : A.units + 64 < cLine) (ra : RepV s.heap ρ a x) (rb : RepV s.heap ρ b y) (q : Q (.bool (!r)) s) :
    wpAny (model G.prog G.w) A (compareOp .NotEq x y) Q E s := by
  refine byC fun nG => eqV_in h (fun m n ea eb er => ?_) (fun m n ea eb er => ?_) (fun l l2 m n ea eb e1 e2 er => ?_) (fun k j l l2 m n ea eb e1 e2 f1 f2 er => ?_)
  · subst ea eb er; obtain ⟨t, rfl⟩ := ra; obtain ⟨u, rfl⟩ := rb; exact nG (P.ne_int q)
  · subst ea eb er; obtain ⟨t, rfl⟩ := ra; obtain ⟨u, rfl⟩ := rb; exact nG (PyProof.Rows.ne_str q)
  · subst ea eb er
    refine nG (ne_dataH_same (reads_tup ra e1) (reads_tup rb e2) (shaped_tup _) (shaped_tup _) hu (by simp only [noMix]; exact noMix_ints _ _) ?_)
    simp only [PySem.Spec.same]; rw [same_ints]; exact q
  · subst ea eb er
    obtain ⟨a, xs, rfl, _, hl, hr⟩ := S.list ra e1
    obtain ⟨b, ys, rfl, _, hl', hr'⟩ := S.list rb e2
    exact nG (ne_intsK hl.isList (ints_of f1 hr) hl'.isList (ints_of f2 hr') hu q)
end
end Mine
end
/-! Snd3 -/
section
set_option Elab.async false
set_option genSizeOf false
set_option linter.all false
set_option maxRecDepth 100000
open PySem PySem.W PyProof.Rows PySem.SeqAt
namespace Mine

/-- what is asked of the written heap about classes -/
structure ClsOk (G : Gx) (fa : Nat → Addr) (init : Nat → Nat) : Prop where
  inj : ∀ (a b : Nat) n, G.attrN[a]? = some n → G.attrN[b]? = some n → a = b
  plain : ∀ (c a : Nat) n, c < 3 → G.attrN[a]? = some n → plainGet G.K (G.clsA c) n = true ∧ findIn G.K (.ref (G.clsA c)) n = some none
  dict : ∀ c, c < 3 → hasDictIn G.K (G.clsA c) = true
  over : ∀ c, c < 3 → plainOver G.K (G.clsA c) = true
  store : ∀ c, c < 3 → findIn G.K (.ref (G.clsA c)) "__setattr__" = some (some (.builtin "object.__setattr__"))
  makes : ∀ c, c < 3 → makesIn G.K (G.clsA c) = true
  init : ∀ c, c < 3 → findIn G.K (.ref (G.clsA c)) "__init__" = some (some (.ref (fa (init c)))) ∧ typeIn G.K (.ref (fa (init c))) = some (.type "function")
  keep : ∀ c, c < 3 → keepIn G.K (.ref (G.clsA c)) = true
  inK : ∀ a o, G.K.lookup a = some o → G.base.get? a = some o

section
variable {G : Gx} {A : Around} {E : Value → Shared → Prop} {s : Shared} {ρ : Rho} {H : Hp} {fa : Nat → Addr} {init : Nat → Nat}

theorem Sta.inK {h : Heap} (S : Sta G ρ H h) (C : ClsOk G fa init) : G.K.In h := fun a o e => S.base a o (C.inK a o e)

theorem repV_handed {h : Heap} {v : V} {x : Value} (r : RepV h ρ v x) : handedIn x = true := by
  refine byC fun nG => ?_
  cases v with
  | none => cases r; refine nG ?_; rfl
  | bool => cases r; refine nG ?_; rfl
  | int => obtain ⟨t, rfl⟩ := r; refine nG ?_; rfl
  | str => obtain ⟨t, rfl⟩ := r; refine nG ?_; rfl
  | tup => obtain ⟨a, xs, rfl, _⟩ := r; refine nG ?_; rfl
  | rng => obtain ⟨a, b, t, u, v, rfl, _⟩ := r; refine nG ?_; rfl
  | obj => obtain ⟨a, m, rfl, _⟩ := r; refine nG ?_; rfl

theorem repA_get {h : Heap} (inj : ∀ (a b : Nat) n, G.attrN[a]? = some n → G.attrN[b]? = some n → a = b) {a : Nat} {n : Str} (hn : G.attrN[a]? = some n) : ∀ {as : List (Nat × V)} {es : List DictEntry}, RepA G.attrN h ρ as es →
    match getAttr' a as with | some v => ∃ x, getL n es = some (some x) ∧ RepV h ρ v x | none => getL n es = some none
  | [], es, r => by cases r; rfl
  | (b, w) :: as, es, r => by
    refine byC fun nG => ?_
    obtain ⟨m, hsh, t, x, s, hm, rfl, h1, h2⟩ := r
    have ih := repA_get inj hn h2
    refine nG ?_
    unfold getAttr'
    rw [BT.beq_eq]
    refine byC fun nG => ?_
    by_cases e : b = a
    · subst e
      rw [hn] at hm; cases hm
      refine nG ?_
      simp only [decide_true]
      exact ⟨x, by simp [getL, Value.isStr], h1⟩
    · have ne : (m == n) = false := by
        apply beq_eq_false_iff_ne.mpr
        rintro rfl
        exact e (inj b a _ hm hn)
      have e2 : getL n (⟨hsh, .str m t, x⟩ :: s) = getL n s := by
        simp [getL, Value.isStr, ne, DictEntry.refKey]
      refine nG ?_
      simp only [e, decide_false, e2]
      exact ih

theorem repA_put {h : Heap} (inj : ∀ (a b : Nat) n, G.attrN[a]? = some n → G.attrN[b]? = some n → a = b) {a : Nat} {n : Str} (hn : G.attrN[a]? = some n) {v : V} {x : Value} (rv : RepV h ρ v x) (hsh : Int) (t : Tok) :
    ∀ {as : List (Nat × V)} {es : List DictEntry}, RepA G.attrN h ρ as es → RepA G.attrN h ρ (putAttr a v as) (putL n hsh (.str n t) x es)
  | [], es, r => by cases r; exact ⟨n, hsh, t, x, [], hn, rfl, rv, rfl⟩
  | (b, w) :: as, es, r => by
    refine byC fun nG => ?_
    obtain ⟨m, hsh', t', y, s, hm, rfl, h1, h2⟩ := r
    have ih := repA_put inj hn rv hsh t h2
    refine nG ?_
    unfold putAttr
    rw [BT.beq_eq]
    refine byC fun nG => ?_
    by_cases e : b = a
    · subst e
      rw [hn] at hm; cases hm
      refine nG ?_
      simp only [decide_true]
      simp only [putL, Value.isStr, beq_self_eq_true, if_true]
      exact ⟨n, hsh', t', x, s, hn, rfl, rv, h2⟩
    · have ne : (m == n) = false := by
        apply beq_eq_false_iff_ne.mpr
        rintro rfl
        exact e (inj b a _ hm hn)
      refine nG ?_
      simp only [e, decide_false]
      simp only [putL, Value.isStr, ne, Bool.false_eq_true, if_false]
      exact ⟨m, hsh', t', y, _, hm, rfl, h1, ih⟩
theorem repA_len {h : Heap} {nm : List Str} : ∀ {as : List (Nat × V)} {es : List DictEntry}, RepA nm h ρ as es → es.length = as.length
  | [], es, r => by cases r; rfl
  | (b, w) :: as, es, r => by
    refine byC fun nG => ?_
    obtain ⟨m, hsh', t', y, s, hm, rfl, h1, h2⟩ := r
    refine nG ?_
    simp [repA_len h2]
theorem putL_len (n : Str) (hsh : Int) (k v : Value) : ∀ es : List DictEntry, (putL n hsh k v es).length ≤ es.length + 1
  | [] => by simp [putL]
  | e :: r => by
    unfold putL
    split
    · simp
    · have := putL_len n hsh k v r
      simp; omega

/-- an object's shell and dict -/
theorem Sta.inst {h : Heap} {k : Nat} {c : Nat} {as : List (Nat × V)} {x : Value} (S : Sta G ρ H h) (r : RepV h ρ (.obj k) x) (e : H[k]? = some (.inst c as)) :
    c < 3 ∧ ∃ a m es n, x = .ref a ∧ ρ[k]? = some (a, m) ∧ h.get? a = some (instObj (G.clsA c) m) ∧ h.get? m = some (dictOf es n) ∧ RepA G.attrN h ρ as es := by
  refine byC fun nG => ?_
  obtain ⟨a, m, rfl, hk⟩ := r
  obtain ⟨e0, e1, es, n, e2, hr⟩ := S.rep k _ _ hk e
  refine nG ?_
  exact ⟨e0, a, m, es, n, rfl, hk, e1, e2, hr⟩

theorem attr_snd {o v : V} {a : Nat} {n : Str} {x : Value} {expr : Bool} {Q : Value → Shared → Prop} (C : ClsOk G fa init) (S : Sta G ρ H s.heap) (h : attrV o a H = some v) (hn : G.attrN[a]? = some n) (r : RepV s.heap ρ o x)
    (q : ∀ tk y, RepV s.heap ρ v y → Q y { s with toks := tk }) : wpAny (model G.prog G.w) A (getAttr x n expr) Q E s := by
  refine byC fun nG => vObj_in h fun k eo h1_ => oInst_in h1_ fun c as e hv => ?_
  clear h h1_
  subst eo
  obtain ⟨hcn, a', m, es, nn, rfl, hk, h1, h2, hr⟩ := S.inst r e
  have g := repA_get C.inj hn hr
  rw [hv] at g
  obtain ⟨y, g1, g2⟩ := g
  obtain ⟨p1, p2⟩ := C.plain c a n hcn hn
  have I : InstAt s.heap a' (instObj (G.clsA c) m) (G.clsA c) (some (dictOf es nn)) := ⟨h1, rfl, rfl, h2⟩
  exact nG (get_value (S.inK C) I (plainGet_of p1).1 (findObj_own (C.dict c hcn) p2 rfl g1) (repV_handed g2) (q _ y g2))

theorem set_raw {prog : Program} {w : World} {K : Frag} {x dx Cc : Addr} {es : List DictEntry} {n : Nat} {name : Str} {v : Value} {Q : Unit → Shared → Prop} (X : K.In s.heap) (I : InstAt s.heap x (instObj Cc dx) Cc (some (dictOf es n)))
    (hs : findIn K (.ref Cc) "__setattr__" = some (some (.builtin "object.__setattr__"))) (hp : plainOver K Cc = true) (ht : takerIn K Cc name = some none) (hh : hasDictIn K Cc = true) (hl : (getL name es).isSome = true) (hz : es.length ≤ 999)
    (h : ∀ h' hsh t, h'.get? dx = some (dictOf (putL name hsh (.str name t) v es) (putN name es n)) → Heap.SameBut dx s.heap h' → Q () { s with heap := h', toks := s.toks + 2 }) :
    wpAny (model prog w) A (setAttr (.ref x) name v) Q E s := by
  refine set_plain X I hs (osa_open (s := { s with toks := s.toks + 1 }) X I hp ht fun b => ?_)
  refine byC fun nG => ?_
  obtain ⟨cd, hc, hd'⟩ := any_some hh
  have D : s.heap.get? dx = some (dictOf es n) := I.dict
  have D' : (s.heap.update dx (Obj.putName name (PyData.keyHash w.params name) (.str name (s.toks + 1)) v)).get? dx = some (dictOf (putL name (PyData.keyHash w.params name) (.str name (s.toks + 1)) v es) (putN name es n)) := by
    rw [Heap.get?_update_self _ D (by rw [putName_dict]; rfl), putName_dict]
  refine nG ?_
  refine wpAny_bind (wpAny_pure (wpAny_bind (wpAny_bind (wpAny_loadPart I.at_ (wpAny_bind (Looks.here (s := { s with toks := s.toks + 1 }) (looks_clsIn X hc) ?_))))))
  rw [hd']
  refine wpAny_pure (a := some dx) (wpAny_bind (wpAny_pure (wpAny_bind ?_)))
  unfold nsSet
  refine wpAny_bind (wpAny_bind (wpAny_askSetting (wpAny_pure (wpAny_bind (wpAny_mkText (wpAny_bind (wpAny_loadPart D ?_)))))))
  have c : (!(es.toArray).any (·.key.isStr name) && (es.toArray).any (·.refKey)) = false := by
    rw [← Array.any_toList, ← Array.any_toList]
    unfold getL at hl
    refine byC fun nG => ?_
    split at hl
    · rename_i en he
      refine nG ?_; rw [List.any_eq_true.mpr ⟨en, List.mem_of_find?_eq_some he, List.find?_some he⟩]; rfl
    · split at hl
      · cases hl
      · rename_i z; rw [Bool.not_eq_true] at z; refine nG ?_; simp [z]
  dsimp only
  rw [aRefKeyMayBeTheName_at, c]
  refine wpAny_updatePart D ?_
  refine wpAny_bind (wpAny_lookBehind D' (pastItsLine_dict (by rw [List.size_toArray, sizeLine_eq]; have := putL_len name (PyData.keyHash w.params name) (.str name (s.toks + 1)) v es; omega)) ?_)
  exact wpAny_pure (h _ _ _ D' (Heap.SameBut.update ..))

theorem setattr_snd {o v : V} {a : Nat} {n : Str} {x y : Value} {H' : Hp} {Q : Unit → Shared → Prop} (C : ClsOk G fa init) (S : Sta G ρ H s.heap) (h : setAttrV o a v H = some H') (hn : G.attrN[a]? = some n)
    (r : RepV s.heap ρ o x) (rv : RepV s.heap ρ v y) (q : ∀ h' tk, Sta G ρ H' h' → Step NoF ρ H s.heap ρ H' h' → Q () { s with heap := h', toks := tk }) : wpAny (model G.prog G.w) A (setAttr x n y) Q E s := by
  refine byC fun nG => vObj_in h fun k eo h1_ => oInst_in h1_ fun c as e h2_ => grd_in h2_ fun hz h3_ => some_in h3_ fun eH => ?_
  clear h h1_ h2_ h3_
  subst eo eH
  obtain ⟨hcn, a', m, es, nn, rfl, hk, h1, h2, hr⟩ := S.inst r e
  obtain ⟨p1, p2⟩ := C.plain c a n hcn hn
  have I : InstAt s.heap a' (instObj (G.clsA c) m) (G.clsA c) (some (dictOf es nn)) := ⟨h1, rfl, rfl, h2⟩
  have g := repA_get C.inj hn hr
  have gs : (getL n es).isSome = true := by
    cases eg : getAttr' a as with
    | some v => rw [eg] at g; obtain ⟨_, g, _⟩ := g; rw [g]; rfl
    | none => rw [eg] at g; rw [g]; rfl
  refine nG (set_raw (S.inK C) I (C.store c hcn) (C.over c hcn) (by unfold takerIn; rw [p2]; rfl) (C.dict c hcn) gs (by rw [repA_len hr]; exact Nat.le_trans (Nat.le_of_ble_eq_true hz) (by decide)) fun h' hsh t e1 e2 => ?_)
  have ne : a' ≠ m := by rintro rfl; rw [h1] at h2; cases h2
  obtain ⟨S', T'⟩ := S.write (o' := .inst c (putAttr a v as)) hk e rfl rfl e2 rfl fun kf => ⟨hcn, (e2.2 _ ne).trans h1, _, _, e1, repA_put C.inj hn (rv.mono kf (.refl _)) hsh t (hr.mono kf (.refl _))⟩
  exact q h' _ S' T'
end
end Mine
end
/-! Snd4 -/
section
set_option Elab.async false
set_option genSizeOf false
set_option linter.all false
set_option maxRecDepth 100000
open PySem PySem.W PyProof.Rows PySem.SeqAt
namespace Mine
section
variable {G : Gx} {A : Around} {E : Value → Shared → Prop} {s : Shared} {ρ : Rho} {H : Hp} {fa : Nat → Addr} {init : Nat → Nat} {Q : Value → Shared → Prop}

theorem isnone_snd {v : V} {x : Value} (r : RepV s.heap ρ v x) : plainIs x .none = true ∧ (x == .none) = isNone v := by
  refine byC fun nG => ?_
  cases v with
  | none => cases r; refine nG ?_; exact ⟨rfl, rfl⟩
  | bool => cases r; refine nG ?_; exact ⟨rfl, rfl⟩
  | int => obtain ⟨t, rfl⟩ := r; refine nG ?_; exact ⟨rfl, rfl⟩
  | str => obtain ⟨t, rfl⟩ := r; refine nG ?_; exact ⟨rfl, rfl⟩
  | tup => obtain ⟨a, xs, rfl, _⟩ := r; refine nG ?_; exact ⟨rfl, rfl⟩
  | rng => obtain ⟨a, b, t, u, v, rfl, _⟩ := r; refine nG ?_; exact ⟨rfl, rfl⟩
  | obj => obtain ⟨a, m, rfl, _⟩ := r; refine nG ?_; exact ⟨rfl, rfl⟩

/-! dicts -/
theorem repI_get {h : Heap} (k : Int) : ∀ {es : List (Int × V)} {kvs : List (Int × Value)}, RepI h ρ es kvs →
    match getI k es with | some v => ∃ x, valueAt kvs k = some x ∧ RepV h ρ v x | none => valueAt kvs k = none
  | [], kvs, r => by cases r; rfl
  | (j, v) :: es, kvs, r => by
    refine byC fun nG => ?_
    obtain ⟨x, s, rfl, h1, h2⟩ := r
    have ih := repI_get k h2
    refine nG ?_
    unfold getI
    refine byC fun nG => ?_
    by_cases e : j = k
    · subst e
      refine nG ?_
      simp only [beq_self_eq_true]
      exact ⟨x, by simp [valueAt], h1⟩
    · have e2 : valueAt ((j, x) :: s) k = valueAt s k := by simp [valueAt, e]
      have e3 : (j == k) = false := beq_eq_false_iff_ne.mpr e
      refine nG ?_
      simp only [e3, e2]
      exact ih
theorem repS_get {h : Heap} (k : List Nat) : ∀ {es : List (List Nat × V)} {kvs : List (Str × Value)}, RepS h ρ es kvs →
    match getS k es with | some v => ∃ x, valueAt kvs (strV k) = some x ∧ RepV h ρ v x | none => valueAt kvs (strV k) = none
  | [], kvs, r => by cases r; rfl
  | (j, v) :: es, kvs, r => by
    refine byC fun nG => ?_
    obtain ⟨x, s, rfl, h1, h2⟩ := r
    have ih := repS_get k h2
    refine nG ?_
    unfold getS
    rw [eqNats_eq]
    refine byC fun nG => ?_
    by_cases e : j = k
    · subst e
      refine nG ?_
      simp only [decide_true]
      exact ⟨x, by simp [valueAt], h1⟩
    · have e2 : valueAt ((strV j, x) :: s) (strV k) = valueAt s (strV k) := by simp [valueAt, strV_inj, e]
      refine nG ?_
      simp only [e, decide_false, e2]
      exact ih
theorem mapOf_of {K : Type} [DecidableEq K] {knd : KeyKind G.prog G.w K} {h : Heap} {a : Addr} {kvs : List (K × Value)} (d : h.DictOf knd a kvs) : h.MapOf knd a (valueAt kvs) := d.mapOf

theorem any_isSome {K : Type} [DecidableEq K] (kvs : List (K × Value)) (k : K) : kvs.any (fun kv => decide (kv.1 = k)) = (valueAt kvs k).isSome := by
  unfold valueAt
  rw [Option.isSome_map]
  induction kvs with
  | nil => rfl
  | cons p r ih =>
    rw [List.any_cons, List.find?_cons]
    refine byC fun nG => ?_
    by_cases e : p.1 = k
    · refine nG ?_
      simp [e]
    · refine nG ?_
      simp [e, ih]
theorem repI_map {h : Heap} (k : Int) {v : V} {y : Value} (rv : RepV h ρ v y) : ∀ {es : List (Int × V)} {kvs : List (Int × Value)}, RepI h ρ es kvs → RepI h ρ (mapI k v es) (kvs.map fun kv => if kv.1 = k then (kv.1, y) else kv)
  | [], kvs, r => by cases r; rfl
  | (j, w) :: es, kvs, r => by
    refine byC fun nG => ?_
    obtain ⟨x, s, rfl, h1, h2⟩ := r
    have ih := repI_map k rv h2
    refine nG ?_
    unfold mapI
    refine byC fun nG => ?_
    by_cases e : j = k
    · subst e
      refine nG ?_
      simp only [beq_self_eq_true, List.map_cons, if_true]
      exact ⟨y, _, rfl, rv, ih⟩
    · have e3 : (j == k) = false := beq_eq_false_iff_ne.mpr e
      refine nG ?_
      simp only [e3, List.map_cons, e, if_false]
      exact ⟨x, _, rfl, h1, ih⟩
theorem repS_map {h : Heap} (k : List Nat) {v : V} {y : Value} (rv : RepV h ρ v y) : ∀ {es : List (List Nat × V)} {kvs : List (Str × Value)}, RepS h ρ es kvs → RepS h ρ (mapS k v es) (kvs.map fun kv => if kv.1 = strV k then (kv.1, y) else kv)
  | [], kvs, r => by cases r; rfl
  | (j, w) :: es, kvs, r => by
    refine byC fun nG => ?_
    obtain ⟨x, s, rfl, h1, h2⟩ := r
    have ih := repS_map k rv h2
    refine nG ?_
    unfold mapS
    rw [eqNats_eq]
    refine byC fun nG => ?_
    by_cases e : j = k
    · subst e
      refine nG ?_
      simp only [decide_true, List.map_cons, if_true]
      exact ⟨y, _, rfl, rv, ih⟩
    · refine nG ?_
      simp only [e, decide_false, List.map_cons, strV_inj, if_false]
      exact ⟨x, _, rfl, h1, ih⟩
theorem repI_snoc {h : Heap} {k : Int} {v : V} {y : Value} (rv : RepV h ρ v y) : ∀ {es : List (Int × V)} {kvs : List (Int × Value)}, RepI h ρ es kvs → RepI h ρ (es ++ [(k, v)]) (kvs ++ [(k, y)])
  | [], kvs, r => by cases r; exact ⟨y, [], rfl, rv, rfl⟩
  | (j, w) :: es, kvs, r => by
    refine byC fun nG => ?_
    obtain ⟨x, s, rfl, h1, h2⟩ := r
    refine nG ?_
    exact ⟨x, _, rfl, h1, repI_snoc rv h2⟩
theorem repS_snoc {h : Heap} {k : List Nat} {v : V} {y : Value} (rv : RepV h ρ v y) : ∀ {es : List (List Nat × V)} {kvs : List (Str × Value)}, RepS h ρ es kvs → RepS h ρ (es ++ [(k, v)]) (kvs ++ [(strV k, y)])
  | [], kvs, r => by cases r; exact ⟨y, [], rfl, rv, rfl⟩
  | (j, w) :: es, kvs, r => by
    refine byC fun nG => ?_
    obtain ⟨x, s, rfl, h1, h2⟩ := r
    refine nG ?_
    exact ⟨x, _, rfl, h1, repS_snoc rv h2⟩
theorem repI_put {h : Heap} (k : Int) {v : V} {y : Value} (rv : RepV h ρ v y) {es : List (Int × V)} {kvs : List (Int × Value)} (r : RepI h ρ es kvs) : RepI h ρ (putI k v es) (stored kvs k y) := by
  have g := repI_get k r
  unfold putI stored
  rw [any_isSome]
  cases e : getI k es with
  | some w =>
    rw [e] at g
    obtain ⟨x, g1, _⟩ := g
    simp only [g1, Option.isSome_some, if_true]
    exact repI_map k rv r
  | none =>
    rw [e] at g
    simp only [g, Option.isSome_none, Bool.false_eq_true, if_false]
    exact repI_snoc rv r
theorem repS_put {h : Heap} (k : List Nat) {v : V} {y : Value} (rv : RepV h ρ v y) {es : List (List Nat × V)} {kvs : List (Str × Value)} (r : RepS h ρ es kvs) : RepS h ρ (putS k v es) (stored kvs (strV k) y) := by
  have g := repS_get k r
  unfold putS stored
  rw [any_isSome]
  cases e : getS k es with
  | some w =>
    rw [e] at g
    obtain ⟨x, g1, _⟩ := g
    simp only [g1, Option.isSome_some, if_true]
    exact repS_map k rv r
  | none =>
    rw [e] at g
    simp only [g, Option.isSome_none, Bool.false_eq_true, if_false]
    exact repS_snoc rv r
theorem repI_len {h : Heap} : ∀ {es : List (Int × V)} {kvs : List (Int × Value)}, RepI h ρ es kvs → kvs.length = es.length
  | [], kvs, r => by cases r; rfl
  | (j, w) :: es, kvs, r => by
    refine byC fun nG => ?_
    obtain ⟨x, s, rfl, h1, h2⟩ := r
    refine nG ?_
    simp [repI_len h2]
theorem repS_len {h : Heap} : ∀ {es : List (List Nat × V)} {kvs : List (Str × Value)}, RepS h ρ es kvs → kvs.length = es.length
  | [], kvs, r => by cases r; rfl
  | (j, w) :: es, kvs, r => by
    refine byC fun nG => ?_
    obtain ⟨x, s, rfl, h1, h2⟩ := r
    refine nG ?_
    simp [repS_len h2]

theorem Sta.dict {h : Heap} {k : Nat} {es : List (Int × V)} {x : Value} (S : Sta G ρ H h) (r : RepV h ρ (.obj k) x) (e : H[k]? = some (.dict es) ∨ H[k]? = some (.fdict es)) :
    ∃ a kvs, x = .ref a ∧ ρ[k]? = some (a, a) ∧ (a == sysModules) = false ∧ h.DictOf (intKind G.prog G.w) a kvs ∧ RepI h ρ es kvs := by
  refine byC fun nG => ?_
  obtain ⟨a, m, rfl, hk⟩ := r
  refine nG ?_
  rcases e with e | e <;>
  · refine byC fun nG => ?_
    obtain ⟨e1, e2, kvs, hl, hr⟩ := S.rep k _ _ hk e
    cases e1
    refine nG ?_
    exact ⟨a, kvs, rfl, hk, e2, hl, hr⟩
theorem Sta.sdict {h : Heap} {k : Nat} {es : List (List Nat × V)} {x : Value} (S : Sta G ρ H h) (r : RepV h ρ (.obj k) x) (e : H[k]? = some (.sdict es)) :
    ∃ a kvs, x = .ref a ∧ ρ[k]? = some (a, a) ∧ (a == sysModules) = false ∧ h.DictOf (strKind G.prog G.w) a kvs ∧ RepS h ρ es kvs := by
  refine byC fun nG => ?_
  obtain ⟨a, m, rfl, hk⟩ := r
  obtain ⟨e1, e2, kvs, hl, hr⟩ := S.rep k _ _ hk e
  cases e1
  refine nG ?_
  exact ⟨a, kvs, rfl, hk, e2, hl, hr⟩
theorem intKind_is (i : Int) (t : Tok) : (intKind G.prog G.w).is i (.int i t) = true := by simp [intKind, Value.isInt]

theorem reads_tups {h : Heap} : ∀ {l : List V} {ts : List (List Int)} {xs : List Value}, allTup l = some ts → RepL h ρ l xs → ReadsAll h xs (ts.map fun ns => .tuple (ns.map PyData.int)) []
  | [], _, _, e, r => by cases e; cases r; exact .nil
  | v :: l, ts, _, e, r => by
    refine byC fun nG => vTup_in e fun i ev e => bind_in e fun ms e1 e => bind_in e fun us e3 e4 => ?_
    subst ev
    obtain ⟨y, ys, rfl, h1, h2⟩ := r
    cases e4
    exact nG (.cons (reads_tup h1 e1) (reads_tups e3 h2))
theorem canLayAll_tups : ∀ ts : List (List Int), PyData.canLayAll0 (ts.map fun ns => .tuple (ns.map PyData.int)) = true
  | [] => by simp [PyData.canLayAll0]
  | n :: r => by simp [PyData.canLayAll0, PyData.canLay0, canLayAll_tups r, canLayAll0_ints]
theorem depthAll_tups : ∀ ts : List (List Int), PyData.depthAll (ts.map fun ns => .tuple (ns.map PyData.int)) ≤ 2
  | [] => by simp [PyData.depthAll]
  | n :: r => by
    have := depthAll_tups r
    have h1 := W.depthAll_ints n
    simp only [List.map_cons, PyData.depthAll, PyData.depth]
    omega
theorem shaped_tups (ts : List (List Int)) : SeqAt.shaped (.list (ts.map fun ns => .tuple (ns.map PyData.int))) = true := by
  have h1 := depthAll_tups ts
  have h2 : PyData.depth (.list (ts.map fun ns => .tuple (ns.map PyData.int))) ≤ 64 := by simp only [PyData.depth]; omega
  show (PyData.canLay0 (.list _) && decide (PyData.depth (.list _) ≤ 64)) = true
  rw [Bool.and_eq_true]
  exact ⟨by simp only [PyData.canLay0]; exact canLayAll_tups ts, decide_eq_true h2⟩
theorem memT_count (l : List Int) : ∀ ts : List (List Int), decide (Spec.countIn (.tuple (l.map PyData.int)) (ts.map fun ns => .tuple (ns.map PyData.int)) ≠ 0) = memT l ts := by
  intro ts
  have key : ∀ ts : List (List Int), (ts.map fun ns => PyData.tuple (ns.map PyData.int)).any (fun y => PyData.eqv y (.tuple (l.map PyData.int))) = memT l ts := by
    intro ts
    induction ts with
    | nil => rfl
    | cons t r ih =>
      rw [List.map_cons, List.any_cons, ih, memT, eqInts_eq]
      congr 1
      rw [← same_eq_eqv _ _ (by simp only [noMix]; exact noMix_ints _ _)]
      simp only [PySem.Spec.same]; rw [same_ints]
  rw [← key ts]
  exact (any_eqv_countIn _ _ (fun y hy => by
    refine byC fun nG => ?_
    obtain ⟨ns, _, rfl⟩ := List.mem_map.mp hy
    refine nG ?_; simp only [noMix]; exact noMix_ints _ _)).symm

theorem inV_in {P : Prop} {a b : V} {r : Bool} (h : inV a b H = some r) (d : ∀ i k es, a = .int i → b = .obj k → H[k]? = some (.dict es) → r = (getI i es).isSome → P)
    (t : ∀ l k ms xs ts, a = .tup l → b = .obj k → allInt l = some ms → H[k]? = some (.list xs) → allTup xs = some ts → r = memT ms ts → P) : P := by
  cases a with
  | int i => exact vObj_in h fun k e h => oD_in h fun es e2 h => d i k es rfl e e2 (Option.some.inj h).symm
  | tup l => exact vObj_in h fun k e h => bind_in h fun ms e1 h => oList_in h fun xs e2 h => bind_in h fun ts e3 h => t l k ms xs ts rfl e e1 e2 e3 (Option.some.inj h).symm
  | _ => exact nope h
theorem has_get {h : Heap} {i : Int} {es : List (Int × V)} {kvs : List (Int × Value)} (r : RepI h ρ es kvs) : (valueAt kvs i).isSome = (getI i es).isSome := by
  have g := repI_get i r
  cases e2 : getI i es with
  | some w => rw [e2] at g; obtain ⟨_, g, _⟩ := g; rw [g]; rfl
  | none => rw [e2] at g; rw [g]; rfl
theorem noMixs {ns : List Int} {ts : List (List Int)} : ∀ y ∈ ts.map fun ns => PyData.tuple (ns.map PyData.int), SeqAt.noMix y (.tuple (ns.map PyData.int)) = true := fun y hy => by
  obtain ⟨ns, _, rfl⟩ := List.mem_map.mp hy
  simp only [noMix]; exact noMix_ints _ _
theorem inp_in {a b : V} {r : Bool} {x y : Value} (h : inV a b H = some r) (S : Sta G ρ H s.heap) (hu : A.units + 70 < cLine) (ra : RepV s.heap ρ a x) (rb : RepV s.heap ρ b y) :
    (∀ {Q : Value → Shared → Prop}, (∀ tk, Q (.bool r) { s with toks := tk }) → wpAny (model G.prog G.w) A (compareOp .In x y) Q E s) ∧ (∀ {Q : Value → Shared → Prop}, (∀ tk, Q (.bool (!r)) { s with toks := tk }) → wpAny (model G.prog G.w) A (compareOp .NotIn x y) Q E s) := by
  refine byC fun nG => inV_in h (fun i k es ea eb e er => ?_) (fun l k ms xs ts ea eb f1 e h1 er => ?_)
  · subst ea eb er
    obtain ⟨t, rfl⟩ := ra
    obtain ⟨a', kvs, rfl, _, lo, hd, hr⟩ := S.dict rb (.inl e)
    refine nG ⟨fun q => wpAny_in_of (intKind_is i t) lo (mapOf_of hd) ?_, fun q => wpAny_notIn_of (intKind_is i t) lo (mapOf_of hd) ?_⟩ <;>
    · rw [has_get hr]; exact q _
  · subst ea eb er
    obtain ⟨a', zs, rfl, _, ⟨n, ho⟩, hr⟩ := S.list rb e
    have rl := Reads.list ho rfl rfl (reads_tups h1 hr)
    refine nG ⟨fun q => in_list_dataH rl (reads_tup ra f1) (shaped_tups _) (shaped_tup _) (by omega) noMixs ?_, fun q => notIn_list_dataH rl (reads_tup ra f1) (shaped_tups _) (shaped_tup _) (by omega) noMixs ?_⟩ <;>
    · rw [memT_count]; exact q s.toks
theorem cmp_snd {op : Cm} {a b : V} {r : Bool} {x y : Value} (h : cmpV op a b H = some r) (S : Sta G ρ H s.heap) (hu : A.units + 70 < cLine) (ra : RepV s.heap ρ a x) (rb : RepV s.heap ρ b y) (q : ∀ tk, Q (.bool r) { s with toks := tk }) :
    wpAny (model G.prog G.w) A (compareOp (cmPy op) x y) Q E s := by
  have two : ∀ {f : Int → Int → Bool}, (vInt a fun x => vInt b fun y => some (f x y)) = some r → ∃ m n t u, x = .int m t ∧ y = .int n u ∧ r = f m n := fun h =>
    vInt_in h fun m ea h => vInt_in h fun n eb h => by subst ea eb; obtain ⟨t, rfl⟩ := ra; obtain ⟨u, rfl⟩ := rb; exact ⟨m, n, t, u, rfl, rfl, (Option.some.inj h).symm⟩
  cases op with
  | eq => exact eq_snd h S (by omega) ra rb (q s.toks)
  | ne => exact bind_in h fun t h1 h2 => some_in h2 fun e => by subst e; exact ne_snd h1 S (by omega) ra rb (q s.toks)
  | lt => obtain ⟨m, n, t, u, rfl, rfl, rfl⟩ := two h; exact P.lt_int (q s.toks)
  | le => obtain ⟨m, n, t, u, rfl, rfl, rfl⟩ := two h; exact P.le_int (q s.toks)
  | gt => obtain ⟨m, n, t, u, rfl, rfl, rfl⟩ := two h; exact P.gt_int (q s.toks)
  | ge => obtain ⟨m, n, t, u, rfl, rfl, rfl⟩ := two h; exact P.ge_int (q s.toks)
  | is_ =>
    exact vNone_in h fun eb h => some_in h fun er => by
      subst eb er; cases rb
      exact wpAny_is_plain (isnone_snd ra).1 (by rw [(isnone_snd ra).2]; exact q s.toks)
  | isnt =>
    exact vNone_in h fun eb h => some_in h fun er => by
      subst eb er; cases rb
      exact wpAny_isNot_plain (isnone_snd ra).1 (by rw [(isnone_snd ra).2]; exact q s.toks)
  | in_ => exact (inp_in h S hu ra rb).1 q
  | notin => exact bind_in h fun t h1 h2 => some_in h2 fun e => by subst e; exact (inp_in h1 S hu ra rb).2 q
end
end Mine
end
/-! Snd5 -/
section
set_option Elab.async false
set_option genSizeOf false
set_option linter.all false
set_option maxRecDepth 100000
open PySem PySem.W PyProof.Rows PySem.SeqAt
namespace Mine

theorem set_plainL {prog : Program} {w : World} {A : Around} {E : Value → Shared → Prop} {s : Shared} {l : Addr} {items : Array Value} {k : Int} {t : Tok} {v : Value} {Q : Unit → Shared → Prop} (hl : s.heap.PlainList l items) (h0 : 0 ≤ k) (hfit : k < 2 ^ 63) (hn : k < items.size)
    (hQ : ∀ h', h'.PlainList l (items.setIfInBounds k.toNat v) → Heap.SameBut l s.heap h' → Q () { s with heap := h' }) :
    wpAny (model prog w) A (setItem (.ref l) (.int k t) v) Q E s := by
  obtain ⟨n, ho⟩ := id hl
  have hL := hl.isList
  unfold setItem
  try with_reducible refine wpAny_holding ?_
  first | refine wpAny_bind (wpAny_pure ?_) | skip
  refine wpAny_bind (wpAny_sequenceKey hL.typeIs (by decide) ?_)
  refine wpAny_bind (wpAny_callSpecial?_slot (name := Str.ofString "__setitem__") hL.typeIs slot_list_setitem
    (wpAny_call_entry slot_list_setitem hL.typeIs entry_list_setitem ?_ (args_list_setitem _ _ _)))
  show wpAny _ _ (Builtin.List.listSubscript? (.int k t) >>= _) _ _ s
  refine wpAny_bind (wpAny_listSubscript_int (fitsIndex_of h0 hfit) ?_)
  clear hfit
  refine byC fun nG => ?_
  obtain ⟨j, rfl⟩ := Int.eq_ofNat_of_zero_le h0
  have hj : j < items.size := by omega
  have hx' : items[j]? = some items[j] := Array.getElem?_eq_getElem hj
  refine nG ?_
  show wpAny _ _ ((seqItemAt l j >>= fun r => pure (r.map (j, ·))) >>= _) _ _ s
  refine wpAny_bind (wpAny_bind (wpAny_seqItemAt ho rfl (wpAny_pure ?_)))
  rw [hx']
  show wpAny _ _ (setSeqItemAt l j v >>= _) _ _ s
  have e : Obj.mapSeq (·.setIfInBounds j v) { cls := .type "list", data := .seq items n } = { cls := .type "list", data := .seq (items.setIfInBounds j v) n } := by
    simp [Obj.mapSeq]
  have hfin : (s.heap.update l (Obj.mapSeq (·.setIfInBounds j v))).PlainList l (items.setIfInBounds j v) := ⟨n, by
    rw [Heap.get?_update_self _ ho (by rw [e]; rfl), e]⟩
  refine wpAny_bind (wpAny_setSeqItemAt ho rfl ?_)
  first
    | exact wpAny_bind (wpAny_pure (wpAny_pure ⟨.none, rfl, wpAny_pure (hQ _ hfin (Heap.SameBut.update ..))⟩))
    | exact wpAny_pure ⟨.none, rfl, wpAny_pure (hQ _ hfin (Heap.SameBut.update ..))⟩

theorem nat_fits {n : Nat} (h : n < 2 ^ 63) : (decide ((n : Int) < -(2 ^ 63 : Int)) || decide ((n : Int) ≥ 2 ^ 63)) = false := by
  rw [Bool.or_eq_false_iff, decide_eq_false_iff_not, decide_eq_false_iff_not]
  exact ⟨Int.not_lt.mpr (Int.le_trans (by decide) (Int.natCast_nonneg n)), Int.not_le.mpr (Int.ofNat_lt.mpr h)⟩
theorem run_eq {α : Type} (xs : List α) (lo h : Nat) : (xs.drop (min lo xs.length)).take (min h xs.length - min lo xs.length) = (xs.take h).drop lo := by
  rw [List.drop_take]
  refine byC fun nG => ?_
  rcases Nat.le_total lo xs.length with l1 | l1
  · refine nG ?_
    rw [Nat.min_eq_left l1]
    refine byC fun nG => ?_
    rcases Nat.le_total h xs.length with l2 | l2
    · refine nG ?_
      rw [Nat.min_eq_left l2]
    · refine nG ?_
      rw [Nat.min_eq_right l2, List.take_of_length_le (by simp), List.take_of_length_le (by simp; omega)]
  · refine nG ?_
    rw [Nat.min_eq_right l1, List.drop_of_length_le (Nat.le_refl _), List.drop_of_length_le l1]
    simp

section
variable {G : Gx} {A : Around} {E : Value → Shared → Prop} {s : Shared} {ρ : Rho} {H : Hp} {fa : Nat → Addr} {init : Nat → Nat} {Q : Value → Shared → Prop}

/-- an item, and the type that says how `[]` is looked up -/
theorem item_snd {o i v : V} {x y : Value} (h : idxV o i H = some v) (S : Sta G ρ H s.heap) (ro : RepV s.heap ρ o x) (ri : RepV s.heap ρ i y) (q : ∀ tk z, RepV s.heap ρ v z → Q z { s with toks := tk }) :
    wpAny (model G.prog G.w) A (getItem x y) Q E s ∧ ∃ T id, s.TypeIs x T ∧ typeLookup (.type T) "__getitem__" = pure (some (.builtin id)) := by
  have atI : ∀ {k : Nat} {es : List (Int × V)}, o = .obj k → (H[k]? = some (.dict es) ∨ H[k]? = some (.fdict es)) → (vInt i fun i => getI i es) = some v → wpAny (model G.prog G.w) A (getItem x y) Q E s ∧ ∃ T id, s.TypeIs x T ∧ typeLookup (.type T) "__getitem__" = pure (some (.builtin id)) := fun {k es} eo e h => vInt_in h fun j ei hv => by
    subst eo ei
    obtain ⟨a, kvs, rfl, _, lo, hd, hr⟩ := S.dict ro e
    obtain ⟨t, rfl⟩ := ri
    have g := repI_get j hr
    rw [hv] at g
    obtain ⟨z, g1, g2⟩ := g
    exact ⟨wpAny_getItem_of (intKind_is j t) (mapOf_of hd) g1 (q _ z g2), _, _, (mapOf_of hd).typeIs, slot_dict_getitem.lookup⟩
  refine byC fun nG => ?_
  cases o with
  | str l =>
    refine vNat_in h fun n ei h1_ => grd_in h1_ fun hf h2_ => bind_in h2_ fun c h1 h2 => some_in h2 fun ev => ?_
    clear h h1_ h2_ h2
    subst ei ev
    obtain ⟨t, rfl⟩ := ro
    obtain ⟨u, rfl⟩ := ri
    have hn := fits_le hf
    have hlt : n < l.length := (List.getElem?_eq_some_iff.mp h1).1
    refine nG ⟨PyProof.Rows.getItem_str (c := c) ?_ ?_ (q _ _ ⟨_, rfl⟩), _, _, typeIs_str s _ _, slot_str_getitem.lookup⟩
    · exact nat_fits (Nat.lt_of_le_of_lt hn (by decide))
    · rw [seqIndex_of (Int.natCast_nonneg n) (by rw [strV_len]; exact Int.ofNat_lt.mpr hlt)]
      show (strV l).cps[n]? = some c
      simpa [strV] using h1
  | tup l =>
    refine vNat_in h fun n ei h1_ => grd_in h1_ fun hf hv => ?_
    clear h h1_
    subst ei
    obtain ⟨a, xs, rfl, ht, hr⟩ := ro
    obtain ⟨t, rfl⟩ := ri
    obtain ⟨z, hz, rz⟩ := hr.get hv
    have hn := fits_le hf
    exact nG ⟨PyProof.Rows.getItem_tuple (j := n) ht (Int.le_trans (by decide) (Int.natCast_nonneg n)) (Int.ofNat_lt.mpr (Nat.lt_of_le_of_lt hn (by decide))) (seqIndex_of (Int.natCast_nonneg n) (Int.ofNat_lt.mpr (List.getElem?_eq_some_iff.mp hz).1)) (by simpa using hz) (q s.toks z rz), _, _, ht.typeIs, slot_tuple_getitem.lookup⟩
  | obj k =>
    have hO : ∀ {x : Option O}, H[k]? = x → idxV (.obj k) i H = onO x none (fun l => vNat i fun n => grd (fits n) l[n]?) (fun q_ => none) (fun es => vInt i fun i => getI i es) (fun es => vInt i fun i => getI i es) (fun es => vStr i fun s => getS s es) fun q_ q_ => none := fun e => by rw [← e]; rfl
    cases e : H[k]? with
    | none => exact nope ((hO e).symm.trans h)
    | some ob =>
      have h := (hO e).symm.trans h
      cases ob with
      | list l =>
        refine vNat_in h fun n ei h1_ => grd_in h1_ fun hf hv => ?_
        clear h h1_
        subst ei
        obtain ⟨a, xs, rfl, _, hl, hr⟩ := S.list ro e
        obtain ⟨t, rfl⟩ := ri
        obtain ⟨z, hz, rz⟩ := hr.get hv
        exact nG ⟨wpAny_getItem_list hl.isList (Int.natCast_nonneg n) (Int.ofNat_lt.mpr (Nat.lt_of_le_of_lt (fits_le hf) (by decide))) (by simpa using hz) (q s.toks z rz), _, _, hl.isList.typeIs, slot_list_getitem.lookup⟩
      | dict es => exact nG (atI rfl (.inl e) h)
      | fdict es => exact nG (atI rfl (.inr e) h)
      | sdict es =>
        refine vStr_in h fun j ei hv => ?_
        clear h
        subst ei
        obtain ⟨a, kvs, rfl, _, lo, hd, hr⟩ := S.sdict ro e
        obtain ⟨t, rfl⟩ := ri
        have g := repS_get j hr
        rw [hv] at g
        obtain ⟨z, g1, g2⟩ := g
        exact nG ⟨wpAny_getItem_of (strKind_is G.prog G.w (strV j) t) (mapOf_of hd) g1 (q _ z g2), _, _, (mapOf_of hd).typeIs, slot_dict_getitem.lookup⟩
      | _ => exact nope h
  | _ => exact nope h

noncomputable def NotSlice (e : PySem.Expr) : Prop := ∀ l u p, e ≠ .Slice l u none p
theorem subscripted_plain {e : PySem.Expr} (n : NotSlice e) (o i : Value) : subscripted e false o i = operate [o, i] (getItem o i) := by
  cases e with
  | Slice l u st p =>
    cases st with
    | none => exact absurd rfl (n _ _ _)
    | some _ => rfl
  | _ => rfl

theorem idx_snd {o i v : V} {x y : Value} {value slice : PySem.Expr} (n : NotSlice slice) (h : idxV o i H = some v) (S : Sta G ρ H s.heap) (ro : RepV s.heap ρ o x) (ri : RepV s.heap ρ i y) (q : ∀ tk z, RepV s.heap ρ v z → Q z { s with toks := tk }) :
    wpAny (model G.prog G.w) A (subscriptTail value slice x y) Q E s := by
  refine byC fun nG => ?_
  obtain ⟨g, T, id, hT, hl⟩ := item_snd (A := A) (E := E) h S ro ri q
  refine nG ?_
  exact tail_any hT hl g (subscripted_plain n _ _)

theorem setidx_snd {o i v : V} {x y z : Value} {H' : Hp} {Q : Unit → Shared → Prop} (h : setIdxV o i v H = some H') (S : Sta G ρ H s.heap) (ro : RepV s.heap ρ o x) (ri : RepV s.heap ρ i y) (rv : RepV s.heap ρ v z)
    (q : ∀ h' tk, Sta G ρ H' h' → Step NoF ρ H s.heap ρ H' h' → Q () { s with heap := h', toks := tk }) : wpAny (model G.prog G.w) A (setItem x y z) Q E s := by
  refine byC fun nG => vObj_in h fun k eo h1_ => ?_
  clear h
  have h := h1_; clear h1_
  subst eo
  have hO : ∀ {x : Option O}, H[k]? = x → setIdxV (.obj k) i v H = onO x none (fun l => vNat i fun n => grd (fits n && Nat.blt n l.length) (some (H.set k (.list (l.set n v))))) (fun q_ => none)
    (fun es => vInt i fun i => grd (fits es.length) (some (H.set k (.dict (putI i v es))))) (fun q_ => none) (fun es => vStr i fun i => grd (fits es.length) (some (H.set k (.sdict (putS i v es))))) fun q_ q_ => none := fun e => by rw [← e]; rfl
  cases e : H[k]? with
  | none => exact nope ((hO e).symm.trans h)
  | some ob =>
    have h := (hO e).symm.trans h
    cases ob with
    | list l =>
      refine vNat_in h fun n ei h1_ => grd_in h1_ fun hf h2_ => some_in h2_ fun eH => ?_
      clear h h1_ h2_
      subst ei eH
      obtain ⟨a, xs, rfl, hk, hl, hr⟩ := S.list ro e
      obtain ⟨t, rfl⟩ := ri
      have hn := fits_le (Bool.and_eq_true_iff.mp hf).1
      have hlt : n < l.length := Nat.le_of_ble_eq_true (Bool.and_eq_true_iff.mp hf).2
      refine nG (set_plainL hl (Int.natCast_nonneg n) (Int.ofNat_lt.mpr (Nat.lt_of_le_of_lt hn (by decide))) (Int.ofNat_lt.mpr (by rw [List.size_toArray, hr.length]; exact hlt)) fun h' e1 e2 => ?_)
      obtain ⟨S', T'⟩ := S.write (o' := .list (l.set n v)) hk e rfl rfl e2 rfl fun kf => ⟨rfl, xs.set n z, by simpa using e1, (RepL.set rv hr).mono kf (.refl _)⟩
      exact q h' s.toks S' T'
    | dict es =>
      refine vInt_in h fun j ei h1_ => grd_in h1_ fun hf h2_ => some_in h2_ fun eH => ?_
      clear h h1_ h2_
      subst ei eH
      obtain ⟨a, kvs, rfl, hk, lo, hd, hr⟩ := S.dict ro (.inl e)
      obtain ⟨t, rfl⟩ := ri
      refine nG (wpAny_setItem_pairs (intKind_is j t) hd (fun h' e1 e2 => ?_) (by rw [repI_len hr]; exact fits_size hf))
      obtain ⟨S', T'⟩ := S.write (o' := .dict (putI j v es)) hk e rfl rfl e2 rfl fun kf => ⟨rfl, lo, _, e1, (repI_put j rv hr).mono kf (.refl _)⟩
      exact q h' _ S' T'
    | sdict es =>
      refine vStr_in h fun j ei h1_ => grd_in h1_ fun hf h2_ => some_in h2_ fun eH => ?_
      clear h h1_ h2_
      subst ei eH
      obtain ⟨a, kvs, rfl, hk, lo, hd, hr⟩ := S.sdict ro e
      obtain ⟨t, rfl⟩ := ri
      refine nG (wpAny_setItem_pairs (strKind_is G.prog G.w (strV j) t) hd (fun h' e1 e2 => ?_) (by rw [repS_len hr]; exact fits_size hf))
      obtain ⟨S', T'⟩ := S.write (o' := .sdict (putS j v es)) hk e rfl rfl e2 rfl fun kf => ⟨rfl, lo, _, e1, (repS_put j rv hr).mono kf (.refl _)⟩
      exact q h' _ S' T'
    | _ => exact nope h

/-- a slice: the second bound stands, the first may be left out -/
theorem slice_snd {o : V} {lo : Nat} {hi : V} {r : V × Hp} {x y vl : Value} {value : PySem.Expr} {l u : Option PySem.Expr} {p : Pos} (h : sliceV o lo hi H = some r) (S : Sta G ρ H s.heap) (ro : RepV s.heap ρ o x) (rh : RepV s.heap ρ hi y)
    (hlo : (vl = .none ∧ lo = 0) ∨ ∃ t, vl = .int (Int.ofNat lo) t) (g : Gives G ρ H s r Q) {tk : Nat} :
    wpAny (model G.prog G.w) A (subscriptTail value (.Slice l u none p) x (.ref s.heap.objs.size)) Q E { s with heap := s.heap.push { cls := .type "slice", data := .fields #[vl, y, .none] }, toks := tk } := by
  have pick : ∃ lo' : Option Int, IsPart vl lo' ∧ ∀ (xs : List Value) (hn : Nat), slicePick xs.toArray lo' (some (hn : Int)) none = ((xs.take hn).drop lo).toArray := by
    refine byC fun nG => ?_
    rcases hlo with ⟨rfl, rfl⟩ | ⟨t, rfl⟩
    · refine nG ?_
      exact ⟨none, .none, fun xs hn => by rw [slicePick_upto']; simp⟩
    · refine nG ?_
      exact ⟨some (Int.ofNat lo), .int _ t, fun xs hn => by
        rw [slicePick_plain]
        simp only [Option.elim]
        rw [show Int.ofNat lo = ((lo : Nat) : Int) from rfl, clipAt_nat, clipAt_nat]
        simpa using run_eq xs lo hn⟩
  refine byC fun nG => ?_
  obtain ⟨lo', hpart, hpick⟩ := pick
  have main : ∀ (a : Addr) (xs : List Value) (lv : List V) (hn : Nat) (u' : Tok), x = .ref a → s.heap.IsList a xs.toArray → RepL s.heap ρ lv xs → lv.length ≤ 100000 → r = (.obj H.length, H ++ [.list ((lv.take hn).drop lo)]) → y = .int (Int.ofNat hn) u' →
      wpAny (model G.prog G.w) A (subscriptTail value (.Slice l u none p) x (.ref s.heap.objs.size)) Q E { s with heap := s.heap.push { cls := .type "slice", data := .fields #[vl, y, .none] }, toks := tk } := by
    intro a xs lv hn u' ex hl hr hz er ey
    subst ex er ey
    have hl' := hl.push { cls := .type "slice", data := .fields #[vl, .int (Int.ofNat hn) u', .none] }
    refine tail_any (ops := [.ref s.heap.objs.size, .ref a]) hl'.typeIs slot_list_getitem.lookup (wpAny_getItem_list_slice hl' (Heap.IsSliceOf.new ..) hpart (.int (Int.ofNat hn) u') .none (by simp) ?_ (by rw [List.size_toArray, hr.length, sizeLine_eq]; omega)) rfl
    rw [show some (Int.ofNat hn) = some ((hn : Nat) : Int) from rfl, hpick xs hn]
    have pl := plain_push (s.heap.push { cls := .type "slice", data := .fields #[vl, .int (Int.ofNat hn) u', .none] }) ((xs.take hn).drop lo).toArray 0
    exact give_list (tk := tk) S ((hr.take hn).drop lo) (fun b o e => Heap.get?_push_of_some _ (Heap.get?_push_of_some _ e)) _ (none_of_le (by rw [Heap.size_push]; exact Nat.le_succ _)) pl g
  refine vNat_in h fun hn ei h1_ => grd_in h1_ fun q_ h2_ => vObj_in h2_ fun k eo hs => ?_
  clear h h1_ h2_
  subst ei eo
  obtain ⟨u', hy⟩ := rh
  have hO : ∀ {x : Option O}, H[k]? = x → (onO H[k]? none (fun l => grd (fits l.length) (some (V.obj H.length, H ++ [O.list ((l.take hn).drop lo)]))) (fun l => grd (fits l.length) (some (V.obj H.length, H ++ [O.list ((l.take hn).drop lo)]))) (fun q_ => none) (fun q_ => none) (fun q_ => none) fun q_ q_ => none) =
    onO x none (fun l => grd (fits l.length) (some (V.obj H.length, H ++ [O.list ((l.take hn).drop lo)]))) (fun l => grd (fits l.length) (some (V.obj H.length, H ++ [O.list ((l.take hn).drop lo)]))) (fun q_ => none) (fun q_ => none) (fun q_ => none) fun q_ q_ => none := fun e => by rw [e]
  cases e : H[k]? with
  | none => exact nope ((hO e).symm.trans hs)
  | some ob =>
    have h := (hO e).symm.trans hs
    cases ob with
    | flist l =>
      refine grd_in h fun hf h1_ => some_in h1_ fun er => ?_
      clear h h1_
      obtain ⟨a, m, rfl, hk⟩ := ro
      obtain ⟨e1, xs, hl, hr⟩ := S.rep _ _ _ hk e
      exact nG (main a xs _ hn u' rfl hl hr (fits_le hf) er.symm hy)
    | list l =>
      refine grd_in h fun hf h1_ => some_in h1_ fun er => ?_
      clear h h1_
      obtain ⟨a, xs, rfl, hk, hl, hr⟩ := S.list ro e
      exact nG (main a xs _ hn u' rfl hl.isList hr (fits_le hf) er.symm hy)
    | _ => exact nope h
end
end Mine
end
/-! Snd6 -/
section
set_option Elab.async false
set_option genSizeOf false
set_option linter.all false
set_option maxRecDepth 100000
open PySem PySem.W PyProof.Rows PySem.SeqAt
namespace Mine
theorem small_b {a : Int} (h : Nat.blt a.natAbs 1000000000 = true) : -(2 ^ 61) ≤ a ∧ a < 2 ^ 61 := by
  have h1 := Nat.le_of_ble_eq_true h
  omega
theorem rng_in {P : Prop} {a b c : Int} {n : Nat} (h : rngN a b c = some n) (k : (-(2 ^ 61) ≤ a ∧ a < 2 ^ 61) → (-(2 ^ 61) ≤ b ∧ b < 2 ^ 61) → stepI c (some (b - a).toNat) (some (a - b).toNat) = some n → P) : P :=
  grd_in h fun hs h => k (small_b (Bool.and_eq_true_iff.mp hs).1) (small_b (Bool.and_eq_true_iff.mp hs).2) h
theorem lim1 : -(2 ^ 62 : Int) ≤ -(2 ^ 61) := by decide
theorem lim2 : (2 ^ 61 : Int) ≤ 2 ^ 62 := by decide
theorem toNat_if (x : Int) : (x.toNat : Int) = if 0 < x then x else 0 := by split <;> omega
theorem rng_up {a b : Int} {n : Nat} (h : rngN a b 1 = some n) : Builtin.Range.small a b 1 = true ∧ Builtin.Range.rangeSize a b 1 = (n : Int) := by
  refine byC fun nG => rng_in h fun ha hb h => some_in h fun e => nG ⟨small_one (Int.le_trans lim1 ha.1) (Int.lt_of_lt_of_le ha.2 lim2) (Int.le_trans lim1 hb.1) (Int.lt_of_lt_of_le hb.2 lim2), ?_⟩
  rw [rangeSize_one, ← e, toNat_if]
  simp only [Int.sub_pos, gt_iff_lt]
theorem fits_long {x : Int} (h1 : -(2 ^ 63) ≤ x) (h2 : x < 2 ^ 63) : Builtin.Range.rangeFitsLong x = true := by
  unfold Builtin.Range.rangeFitsLong
  rw [decide_eq_true h1, decide_eq_true h2]; rfl
theorem rng_down {a b : Int} {n : Nat} (h : rngN a b (-1) = some n) : Builtin.Range.small a b (-1) = true ∧ Builtin.Range.rangeSize a b (-1) = (n : Int) := by
  refine byC fun nG => rng_in h fun ⟨a1, a2⟩ ⟨b1, b2⟩ h => some_in h fun e => ?_
  clear h
  have f : Builtin.Range.rangeSize a b (-1) = (n : Int) := by
    show (if a > b then (a - b - 1) / 1 + 1 else 0) = _
    rw [← e, toNat_if, Int.ediv_one, Int.sub_add_cancel]
    simp only [Int.sub_pos, gt_iff_lt]
  refine nG ⟨?_, f⟩
  unfold Builtin.Range.small
  rw [f, fits_long (x := a) (by omega) (by omega), fits_long (x := b) (by omega) (by omega), fits_long (x := (n : Int)) (by omega) (by omega)]
  show (_ || Builtin.Range.rangeFitsLong (b + 0)) = true
  rw [Int.add_zero, fits_long (by omega) (by omega), Bool.or_true]
theorem rng_step {a b c : Int} {n : Nat} (h : rngN a b c = some n) : c = 1 ∨ c = -1 := rng_in h fun q_ q_ h => stepI_in h (fun e q_ => .inl e) fun e q_ => .inr e

theorem rng_both {a b c : Int} {n : Nat} (h : rngN a b c = some n) : Builtin.Range.small a b c = true ∧ Builtin.Range.rangeSize a b c = (n : Int) := by
  rcases rng_step h with rfl | rfl
  · exact rng_up h
  · exact rng_down h
theorem step1 {a b c : Int} {n : Nat} (h : rngN a b c = some n) : c ≠ 0 ∧ c.natAbs < 1073741824 := by rcases rng_step h with rfl | rfl <;> decide

theorem digits_eq : ∀ n : Nat, n < 100 → (Str.ofString (toString (n : Int))) = strV (digits n) := by
  intro n hn
  have : (List.range 100).all (fun n => decide ((Str.ofString (toString (n : Int))) = strV (digits n))) = true := by decide +kernel
  exact of_decide_eq_true (List.all_eq_true.mp this n (List.mem_range.mpr hn))
theorem find_eq : ∀ c : Nat, c < 128 → Txt.find (strV letters) (strV [c]) = findL c letters 0 := by
  intro c hc
  have : (List.range 128).all (fun c => decide (Txt.find (strV letters) (strV [c]) = findL c letters 0)) = true := by decide +kernel
  exact of_decide_eq_true (List.all_eq_true.mp this c (List.mem_range.mpr hc))
theorem lower_eq : ∀ c : Nat, c < 128 → Txt.lower (strV [c]) = strV [lowerC c] := by
  intro c hc
  have : (List.range 128).all (fun c => decide (Txt.lower (strV [c]) = strV [lowerC c])) = true := by decide +kernel
  exact of_decide_eq_true (List.all_eq_true.mp this c (List.mem_range.mpr hc))
theorem join_eq (sep : List Nat) : ∀ l : List (List Nat), Txt.join (strV sep) (l.map strV) = strV (joinL sep l) := by
  intro l
  show Builtin.Str.glued _ _ = _
  rw [StrLaws.glued_eq_join]
  induction l with
  | nil => rfl
  | cons x r ih =>
    refine byC fun nG => ?_
    cases r with
    | nil => refine nG ?_; rfl
    | cons y r =>
      refine nG ?_
      show strV x ++ strV sep ++ Str.join (strV sep) (strV y :: r.map strV) = _
      rw [show Str.join (strV sep) (strV y :: r.map strV) = _ from ih, strV_app, strV_app]
      rfl
theorem strs_of {h : Heap} {ρ : Rho} : ∀ {l : List V} {ns : List (List Nat)} {xs : List Value}, allStr l = some ns → RepL h ρ l xs → StrsAre xs (ns.map strV)
  | [], _, _, e, r => by cases e; cases r; exact .nil
  | v :: l, ns, _, e, r => by
    refine byC fun nG => vStr_in e fun i ev e => bind_in e fun ms e1 e2 => ?_
    subst ev
    obtain ⟨y, ys, rfl, ⟨t, rfl⟩, h2⟩ := r
    cases e2
    exact nG (.cons _ t (strs_of e1 h2))
theorem sumL_eq : ∀ (l : List Int) (a : Int), sumL l a = a + l.sum
  | [], a => by simp [sumL]
  | x :: r, a => by rw [sumL, sumL_eq r]; simp; omega
theorem total_eq : ∀ l : List (List Nat), ((l.map strV).map (·.length)).sum = totalLen l
  | [] => rfl
  | x :: r => by
    show (strV x).length + ((r.map strV).map (·.length)).sum = _
    rw [total_eq r, strV_len]; rfl

section
variable {G : Gx} {A : Around} {E : Value → Shared → Prop} {s : Shared} {ρ : Rho} {H : Hp} {fa : Nat → Addr} {init : Nat → Nat} {Q : Value → Shared → Prop}

noncomputable def biPy : Bi → Value
  | .range1 => .type "range" | .range2 => .type "range" | .range3 => .type "range" | .len => .builtin "len" | .str => .type "str" | .sum => .builtin "sum"

/-- a value is handed back behind more in the heap -/
theorem Gives.more {r : V × Hp} {h' : Heap} {tk : Nat} {x : Value} (g : Gives G ρ H s r Q) (e : r.2 = H) (S : Sta G ρ H s.heap) (k : ∀ b o, s.heap.get? b = some o → h'.get? b = some o) (rx : RepV h' ρ r.1 x) : Q x { s with heap := h', toks := tk } := by
  refine byC fun nG => ?_
  obtain ⟨v, H'⟩ := r
  cases e
  refine nG ?_
  exact g ρ h' tk x (S.ext k) (.ext k) rx

theorem bi_snd {b : Bi} {args : List V} {xs : List Value} {r : V × Hp} (h : biV b args H = some r) (hA : A.handled = none) (S : Sta G ρ H s.heap) (ra : RepL s.heap ρ args xs) (g : Gives G ρ H s r Q) :
    wpAny (model G.prog G.w) A (call (biPy b) xs) Q E s := by
  have one : ∀ {v : V}, args = [v] → ∃ y, xs = [y] ∧ RepV s.heap ρ v y := fun e => by subst e; obtain ⟨y, ys, rfl, r, ra⟩ := ra; cases ra; exact ⟨y, rfl, r⟩
  refine byC fun nG => ?_
  cases b with
  | range1 =>
    refine lOne_in h fun v ea h1_ => vInt_in h1_ fun i ev h2_ => bind_in h2_ fun n h1 h2 => some_in h2 fun er => ?_
    clear h h1_ h2_ h2
    obtain ⟨y, rfl, r⟩ := one ea
    subst ev er
    obtain ⟨t, rfl⟩ := r
    obtain ⟨q1, q2⟩ := rng_up h1
    exact nG (call_range_1 (g.more (tk := s.toks + 1 + 1) rfl S (push_keep _ _) ⟨_, _, _, _, _, rfl, IsRange.new .., q1, q2⟩))
  | range2 =>
    refine lTwo_in h fun v w ea h1_ => vInt_in h1_ fun i ev h2_ => vInt_in h2_ fun j ew h3_ => bind_in h3_ fun n h1 h2 => some_in h2 fun er => ?_
    clear h h1_ h2_ h3_ h2
    subst ea ev ew er
    obtain ⟨y, ys, rfl, ⟨t, rfl⟩, ra⟩ := ra
    obtain ⟨y, ys, rfl, ⟨u, rfl⟩, ra⟩ := ra
    cases ra
    obtain ⟨q1, q2⟩ := rng_up h1
    exact nG (call_range_2 (g.more (tk := s.toks + 1) rfl S (push_keep _ _) ⟨_, _, _, _, _, rfl, IsRange.new .., q1, q2⟩))
  | range3 =>
    refine lCons_in h fun u as ea h1_ => lTwo_in h1_ fun v w eb h2_ => vInt_in h2_ fun i eu h3_ => vInt_in h3_ fun j ev h4_ => vInt_in h4_ fun m ew h5_ => bind_in h5_ fun n h1 h2 => some_in h2 fun er => ?_
    clear h h1_ h2_ h3_ h4_ h5_ h2
    subst ea eb eu ev ew er
    obtain ⟨y, ys, rfl, ⟨t, rfl⟩, ra⟩ := ra
    obtain ⟨y, ys, rfl, ⟨u, rfl⟩, ra⟩ := ra
    obtain ⟨y, ys, rfl, ⟨v, rfl⟩, ra⟩ := ra
    cases ra
    exact nG (call_range_3 (step1 h1).1 (g.more (tk := s.toks) rfl S (push_keep _ _) ⟨_, _, _, _, _, rfl, IsRange.new .., (rng_both h1).1, (rng_both h1).2⟩) (.inl (PyProof.noPylong_small (step1 h1).2)))
  | len =>
    refine lOne_in h fun v ea h1_ => ?_
    clear h
    have h := h1_; clear h1_
    obtain ⟨y, rfl, r1⟩ := one ea
    cases v with
    | str l =>
      refine grd_in h fun hf h1_ => some_in h1_ fun er => ?_
      clear h h1_
      subst er
      obtain ⟨t, rfl⟩ := r1
      refine nG (P.len_str (by rw [strV_len]; have := fits_le hf; omega) ?_)
      rw [strV_len]
      exact g.here S ⟨_, rfl⟩ _
    | obj k =>
      refine oList_in h fun l e h1_ => grd_in h1_ fun hf h2_ => some_in h2_ fun er => ?_
      clear h h1_ h2_
      subst er
      obtain ⟨a, zs, rfl, hk, hl, hr⟩ := S.list r1 e
      refine nG (Calls.call_len_list hl.isList (by rw [List.size_toArray, hr.length]; have := fits_le hf; omega) ?_)
      rw [List.size_toArray, hr.length]
      exact g.here S ⟨_, rfl⟩ _
    | _ => exact nope h
  | str =>
    refine lOne_in h fun v ea h1_ => vNat_in h1_ fun n ev h2_ => grd_in h2_ fun hf h3_ => some_in h3_ fun er => ?_
    clear h h1_ h2_ h3_
    obtain ⟨y, rfl, r1⟩ := one ea
    subst ev er
    obtain ⟨t, rfl⟩ := r1
    have hn : n < 100 := Nat.le_of_ble_eq_true hf
    refine nG (P.str_of_int (by
      show (Int.natAbs ((n : Nat) : Int)).log2 < 1920
      rw [Int.natAbs_natCast]
      exact Nat.lt_of_le_of_lt (Nat.log2_le_self n) (Nat.lt_trans hn (by decide))) ?_)
    rw [show ((toString ((n : Nat) : Int) : String) : Str) = strV (digits n) from digits_eq n hn]
    exact g.here S ⟨_, rfl⟩ _
  | sum =>
    refine lOne_in h fun v ea h1_ => vObj_in h1_ fun k ev h2_ => oList_in h2_ fun l e h3_ => bind_in h3_ fun ns h1 h2 => some_in h2 fun er => ?_
    clear h h1_ h2_ h3_ h2
    obtain ⟨y, rfl, r1⟩ := one ea
    subst ev er
    obtain ⟨a, zs, rfl, hk, hl, hr⟩ := S.list r1 e
    have hi := ints_of h1 hr
    obtain ⟨xs, ex⟩ := hi.allInts.items
    have hs : preSum (numAt xs) xs.size = ns.sum := by
      rw [preSum_eq, List.take_of_length_le (by simp), ← nums_intItems, ← ex]
      rw [show zs.toArray.toList = zs from rfl, hi.numsOf]
    refine nG (sum_intListG (xs := xs) hA (by rw [← ex]; exact hl.isList) fun h' tk t' hk' => ?_)
    rw [hs]
    refine g.more rfl S hk' ⟨t', ?_⟩
    rw [sumL_eq, Int.zero_add]

theorem join_snd {o a v : V} {x y : Value} (h : joinV o a H = some v) (S : Sta G ρ H s.heap) (ro : RepV s.heap ρ o x) (ra : RepV s.heap ρ a y) (q : ∀ tk z, RepV s.heap ρ v z → Q z { s with toks := tk }) :
    ∃ sx t, x = .str sx t ∧ wpAny (model G.prog G.w) A (call (.builtin "str.join") [x, y]) Q E s := by
  refine byC fun nG => vStr_in h fun sp eo h1_ => vObj_in h1_ fun k ea h2_ => oList_in h2_ fun l e h3_ => bind_in h3_ fun ns h1 h4_ => grd_in h4_ fun hf h5_ => some_in h5_ fun er => ?_
  clear h h1_ h2_ h3_ h4_ h5_
  subst eo ea er
  obtain ⟨t, rfl⟩ := ro
  obtain ⟨a, zs, rfl, hk, hl, hr⟩ := S.list ra e
  have hi := strs_of h1 hr
  have hn := fits_le hf
  refine nG ⟨_, t, rfl, join_list hl.isList (by simpa using hi) ?_ fun t' tk => ?_⟩
  · rw [total_eq, strV_len]
    simp only [List.length_map]
    have e1 : (sp.length + 1) * (ns.length + 1) = sp.length * ns.length + sp.length + ns.length + 1 := by
      rw [Nat.add_mul, Nat.mul_add]; omega
    have e2 : ns.length * sp.length = sp.length * ns.length := Nat.mul_comm _ _
    omega
  · rw [join_eq]
    exact q tk _ ⟨t', rfl⟩

theorem find_snd {o a v : V} {x y : Value} (h : findV o a = some v) (S : Sta G ρ H s.heap) (ro : RepV s.heap ρ o x) (ra : RepV s.heap ρ a y) (q : ∀ tk z, RepV s.heap ρ v z → Q z { s with toks := tk }) :
    ∃ sx t, x = .str sx t ∧ wpAny (model G.prog G.w) A (call (.builtin "str.find") [x, y]) Q E s := by
  refine byC fun nG => vStr_in h fun sp eo h1_ => vStr_in h1_ fun sq ea h2_ => lOne_in h2_ fun c ec h3_ => grd_in h3_ fun hf h4_ => some_in h4_ fun er => ?_
  clear h h1_ h2_ h3_ h4_
  subst eo ea ec er
  have e : sp = letters := by simpa [eqNats_eq] using (Bool.and_eq_true_iff.mp hf).1
  subst e
  obtain ⟨t, rfl⟩ := ro
  obtain ⟨u, rfl⟩ := ra
  refine nG ⟨_, t, rfl, SC.find ?_⟩
  rw [find_eq c (Nat.le_of_ble_eq_true (Bool.and_eq_true_iff.mp hf).2)]
  exact q _ _ ⟨_, rfl⟩
theorem lower_snd {o v : V} {x : Value} (h : lowerV o = some v) (S : Sta G ρ H s.heap) (ro : RepV s.heap ρ o x) (q : ∀ tk z, RepV s.heap ρ v z → Q z { s with toks := tk }) :
    ∃ sx t, x = .str sx t ∧ wpAny (model G.prog G.w) A (call (.builtin "str.lower") [x]) Q E s := by
  refine byC fun nG => vStr_in h fun sp eo h1_ => lOne_in h1_ fun c ec h2_ => grd_in h2_ fun hf h3_ => some_in h3_ fun er => ?_
  clear h h1_ h2_ h3_
  subst eo ec er
  have hc : c < 128 := Nat.le_of_ble_eq_true hf
  obtain ⟨t, rfl⟩ := ro
  refine nG ⟨_, t, rfl, SC.lower (by rw [lower_eq c hc, strV_len]; rfl) ?_⟩
  rw [lower_eq c hc]
  exact q _ _ ⟨_, rfl⟩
theorem get_snd {o k d v : V} {x y z : Value} (h : getV o k d H = some v) (S : Sta G ρ H s.heap) (ro : RepV s.heap ρ o x) (rk : RepV s.heap ρ k y) (rd : RepV s.heap ρ d z) (q : ∀ tk z, RepV s.heap ρ v z → Q z { s with toks := tk }) :
    ∃ a kvs, x = .ref a ∧ s.heap.DictOf (intKind G.prog G.w) a kvs ∧ wpAny (model G.prog G.w) A (call (.builtin "dict.get") [x, y, z]) Q E s := by
  refine byC fun nG => vObj_in h fun j eo h1_ => oD_in h1_ fun es e h2_ => vInt_in h2_ fun i ek h3_ => some_in h3_ fun ev => ?_
  clear h h1_ h2_ h3_
  subst eo ek ev
  obtain ⟨a, kvs, rfl, _, lo, hd, hr⟩ := S.dict ro (.inl e)
  obtain ⟨t, rfl⟩ := rk
  refine nG ⟨a, kvs, rfl, hd, call_meetsIn PySem.F.slot_dict_get (mapOf_of hd).typeIs PySem.F.entry_dict_get (PySem.F.args_dict_get_3 _ _ _) (meets_dict_get_default _ a (intKind_is i t) lo z) ⟨_, mapOf_of hd, ?_⟩⟩
  have g := repI_get i hr
  cases e2 : getI i es with
  | some w =>
    rw [e2] at g
    obtain ⟨u, g1, g2⟩ := g
    rw [g1]
    exact q _ u (by rw [e2]; exact g2)
  | none =>
    rw [e2] at g
    rw [g]
    exact q _ z (by rw [e2]; exact rd)
theorem append_snd {o v : V} {x y : Value} {H' : Hp} (h : appendV o v H = some H') (S : Sta G ρ H s.heap) (ro : RepV s.heap ρ o x) (rv : RepV s.heap ρ v y)
    (q : ∀ h' tk, Sta G ρ H' h' → Step NoF ρ H s.heap ρ H' h' → Q .none { s with heap := h', toks := tk }) :
    ∃ a xs, x = .ref a ∧ s.heap.PlainList a xs ∧ wpAny (model G.prog G.w) A (call (.builtin "list.append") [x, y]) Q E s := by
  refine byC fun nG => vObj_in h fun k eo h1_ => oList_in h1_ fun l e h2_ => grd_in h2_ fun hf h3_ => some_in h3_ fun eH => ?_
  clear h h1_ h2_ h3_
  subst eo eH
  obtain ⟨a, xs, rfl, hk, hl, hr⟩ := S.list ro e
  refine nG ⟨a, xs.toArray, rfl, hl, wpAny_list_append_plain hl (fun h' e1 e2 => ?_) (by rw [List.size_toArray, hr.length]; exact Nat.le_trans (fits_le hf) (by decide))⟩
  obtain ⟨S', T'⟩ := S.write (o' := .list (l ++ [v])) hk e rfl rfl e2 rfl fun kf => ⟨rfl, xs ++ [y], by simpa using e1, (hr.app (RepL.one rv)).mono kf (.refl _)⟩
  exact q h' s.toks S' T'
end
end Mine
end
/-! Snd7 -/
section
set_option Elab.async false
set_option genSizeOf false
set_option linter.all false
set_option maxRecDepth 100000
set_option linter.unusedVariables false
open PySem PySem.W PyProof.Rows
namespace Mine

/-! matching with the text -/
structure Mx where
  sc : Scope
  nm : List Str
  vis : List Nat

noncomputable def biName : Bi → Str
  | .range1 => "range" | .range2 => "range" | .range3 => "range" | .len => "len" | .str => "str" | .sum => "sum"
noncomputable def globB (M : Mx) (n : Str) : Bool := M.sc.names.lookup n == some .globalImplicit && !(n == ("__debug__" : Str))
noncomputable def slotB (M : Mx) (i : Nat) (n : Str) : Bool := M.vis.contains i && M.nm[i]? == some n && !(n == ("__debug__" : Str)) && !(n == ("__classdict__" : Str))
noncomputable def noCall : PySem.Expr → Bool
  | .Call .. => false
  | _ => true
noncomputable def notSliceB : PySem.Expr → Bool
  | .Slice .. => false
  | _ => true
noncomputable def noSet : PySem.Expr → Bool
  | .Set .. => false
  | _ => true
noncomputable def noComp : PySem.Expr → Bool
  | .ListComp .. => false | .SetComp .. => false | .DictComp .. => false
  | _ => true
noncomputable def plainTest : PySem.Expr → Bool
  | .UnaryOp .Not _ _ => false | .BoolOp .. => false | .IfExp .. => false | .Compare .. => false
  | _ => true
noncomputable def relS (sc outer : Scope) : Scope :=
  { sc with names := sc.names.map fun (n, k) => if (k == .free && outer.kind == .function && outer.names.lookup n == some .cell) then (n, .cell) else (n, k) }
noncomputable def compB (M : Mx) (sc : Scope) (x : Str) (slot : Nat) (caps : List Nat) : Bool :=
  sc.kind == .function && (sc.names.all fun y => !(y.2 == .cell)) && (sc.names.all fun y => !(y.2 == .local) || sc.names.lookup y.1 == some .local) &&
  sc.names.lookup x == some .local && (relS sc M.sc).names.lookup x == some .local && M.nm[slot]? == some x && !(M.vis.contains slot) && !(x == ("__debug__" : Str)) &&
  (sc.names.all fun y => !(y.2 == .free) || (M.vis.any fun i => M.nm[i]? == some y.1 && (M.sc.names.lookup y.1 == some .cell || M.sc.names.lookup y.1 == some .free))) &&
  caps.all fun i => M.vis.contains i && match M.nm[i]? with | some n => (relS sc M.sc).names.lookup n == some .cell && sc.names.lookup n == some .free | none => false

/-! looks at the text (printed by gen7.py) -/
noncomputable def onConst (e : PySem.Expr) (f : Const → Bool) : Bool := @PySem.Expr.casesOn (fun q_ => Bool) e (fun q_ q_ q_ => false) (fun q_ q_ q_ => false) (fun q_ q_ q_ q_ => false) (fun q_ q_ q_ => false) (fun q_ q_ q_ q_ => false) (fun q_ q_ q_ q_ => false) (fun q_ q_ q_ => false) (fun q_ q_ q_ => false) (fun q_ q_ q_ q_ => false) (fun q_ q_ q_ q_ => false) (fun q_ q_ q_ q_ q_ => false) (fun q_ q_ q_ q_ => false) (fun q_ q_ => false) (fun q_ q_ => false) (fun q_ q_ => false) (fun q_ q_ q_ q_ => false) (fun q_ q_ q_ q_ => false) (fun q_ q_ q_ q_ => false) (fun q_ q_ => false) (fun c q_ q_ => f c) (fun q_ q_ q_ => false) (fun q_ q_ q_ => false) (fun q_ q_ => false) (fun q_ q_ => false) (fun q_ q_ => false) (fun q_ q_ q_ => false) (fun q_ q_ q_ q_ => false)
theorem onConst_in {P : PySem.Expr → Prop} {e : PySem.Expr} {f : Const → Bool} (h : onConst e f = true) (k : ∀ c k' p, f c = true → P (.Constant c k' p)) : P e :=
  @PySem.Expr.casesOn (fun e => onConst e f = true → P e) e (fun q_ q_ q_ h => (Bool.false_ne_true h).elim) (fun q_ q_ q_ h => (Bool.false_ne_true h).elim) (fun q_ q_ q_ q_ h => (Bool.false_ne_true h).elim) (fun q_ q_ q_ h => (Bool.false_ne_true h).elim) (fun q_ q_ q_ q_ h => (Bool.false_ne_true h).elim) (fun q_ q_ q_ q_ h => (Bool.false_ne_true h).elim) (fun q_ q_ q_ h => (Bool.false_ne_true h).elim) (fun q_ q_ q_ h => (Bool.false_ne_true h).elim) (fun q_ q_ q_ q_ h => (Bool.false_ne_true h).elim) (fun q_ q_ q_ q_ h => (Bool.false_ne_true h).elim) (fun q_ q_ q_ q_ q_ h => (Bool.false_ne_true h).elim) (fun q_ q_ q_ q_ h => (Bool.false_ne_true h).elim) (fun q_ q_ h => (Bool.false_ne_true h).elim) (fun q_ q_ h => (Bool.false_ne_true h).elim) (fun q_ q_ h => (Bool.false_ne_true h).elim) (fun q_ q_ q_ q_ h => (Bool.false_ne_true h).elim) (fun q_ q_ q_ q_ h => (Bool.false_ne_true h).elim) (fun q_ q_ q_ q_ h => (Bool.false_ne_true h).elim) (fun q_ q_ h => (Bool.false_ne_true h).elim) k (fun q_ q_ q_ h => (Bool.false_ne_true h).elim) (fun q_ q_ q_ h => (Bool.false_ne_true h).elim) (fun q_ q_ h => (Bool.false_ne_true h).elim) (fun q_ q_ h => (Bool.false_ne_true h).elim) (fun q_ q_ h => (Bool.false_ne_true h).elim) (fun q_ q_ q_ h => (Bool.false_ne_true h).elim) (fun q_ q_ q_ q_ h => (Bool.false_ne_true h).elim) h
noncomputable def onName (e : PySem.Expr) (f : Str → Bool) : Bool := @PySem.Expr.casesOn (fun q_ => Bool) e (fun q_ q_ q_ => false) (fun q_ q_ q_ => false) (fun q_ q_ q_ q_ => false) (fun q_ q_ q_ => false) (fun q_ q_ q_ q_ => false) (fun q_ q_ q_ q_ => false) (fun q_ q_ q_ => false) (fun q_ q_ q_ => false) (fun q_ q_ q_ q_ => false) (fun q_ q_ q_ q_ => false) (fun q_ q_ q_ q_ q_ => false) (fun q_ q_ q_ q_ => false) (fun q_ q_ => false) (fun q_ q_ => false) (fun q_ q_ => false) (fun q_ q_ q_ q_ => false) (fun q_ q_ q_ q_ => false) (fun q_ q_ q_ q_ => false) (fun q_ q_ => false) (fun q_ q_ q_ => false) (fun q_ q_ q_ => false) (fun q_ q_ q_ => false) (fun q_ q_ => false) (fun n q_ => f n) (fun q_ q_ => false) (fun q_ q_ q_ => false) (fun q_ q_ q_ q_ => false)
theorem onName_in {P : PySem.Expr → Prop} {e : PySem.Expr} {f : Str → Bool} (h : onName e f = true) (k : ∀ n p, f n = true → P (.Name n p)) : P e :=
  @PySem.Expr.casesOn (fun e => onName e f = true → P e) e (fun q_ q_ q_ h => (Bool.false_ne_true h).elim) (fun q_ q_ q_ h => (Bool.false_ne_true h).elim) (fun q_ q_ q_ q_ h => (Bool.false_ne_true h).elim) (fun q_ q_ q_ h => (Bool.false_ne_true h).elim) (fun q_ q_ q_ q_ h => (Bool.false_ne_true h).elim) (fun q_ q_ q_ q_ h => (Bool.false_ne_true h).elim) (fun q_ q_ q_ h => (Bool.false_ne_true h).elim) (fun q_ q_ q_ h => (Bool.false_ne_true h).elim) (fun q_ q_ q_ q_ h => (Bool.false_ne_true h).elim) (fun q_ q_ q_ q_ h => (Bool.false_ne_true h).elim) (fun q_ q_ q_ q_ q_ h => (Bool.false_ne_true h).elim) (fun q_ q_ q_ q_ h => (Bool.false_ne_true h).elim) (fun q_ q_ h => (Bool.false_ne_true h).elim) (fun q_ q_ h => (Bool.false_ne_true h).elim) (fun q_ q_ h => (Bool.false_ne_true h).elim) (fun q_ q_ q_ q_ h => (Bool.false_ne_true h).elim) (fun q_ q_ q_ q_ h => (Bool.false_ne_true h).elim) (fun q_ q_ q_ q_ h => (Bool.false_ne_true h).elim) (fun q_ q_ h => (Bool.false_ne_true h).elim) (fun q_ q_ q_ h => (Bool.false_ne_true h).elim) (fun q_ q_ q_ h => (Bool.false_ne_true h).elim) (fun q_ q_ q_ h => (Bool.false_ne_true h).elim) (fun q_ q_ h => (Bool.false_ne_true h).elim) k (fun q_ q_ h => (Bool.false_ne_true h).elim) (fun q_ q_ q_ h => (Bool.false_ne_true h).elim) (fun q_ q_ q_ q_ h => (Bool.false_ne_true h).elim) h
noncomputable def onBin (e : PySem.Expr) (f : PySem.Expr → Operator → PySem.Expr → Bool) : Bool := @PySem.Expr.casesOn (fun q_ => Bool) e (fun q_ q_ q_ => false) (fun q_ q_ q_ => false) (fun l o r q_ => f l o r) (fun q_ q_ q_ => false) (fun q_ q_ q_ q_ => false) (fun q_ q_ q_ q_ => false) (fun q_ q_ q_ => false) (fun q_ q_ q_ => false) (fun q_ q_ q_ q_ => false) (fun q_ q_ q_ q_ => false) (fun q_ q_ q_ q_ q_ => false) (fun q_ q_ q_ q_ => false) (fun q_ q_ => false) (fun q_ q_ => false) (fun q_ q_ => false) (fun q_ q_ q_ q_ => false) (fun q_ q_ q_ q_ => false) (fun q_ q_ q_ q_ => false) (fun q_ q_ => false) (fun q_ q_ q_ => false) (fun q_ q_ q_ => false) (fun q_ q_ q_ => false) (fun q_ q_ => false) (fun q_ q_ => false) (fun q_ q_ => false) (fun q_ q_ q_ => false) (fun q_ q_ q_ q_ => false)
theorem onBin_in {P : PySem.Expr → Prop} {e : PySem.Expr} {f : PySem.Expr → Operator → PySem.Expr → Bool} (h : onBin e f = true) (k : ∀ l o r p, f l o r = true → P (.BinOp l o r p)) : P e :=
  @PySem.Expr.casesOn (fun e => onBin e f = true → P e) e (fun q_ q_ q_ h => (Bool.false_ne_true h).elim) (fun q_ q_ q_ h => (Bool.false_ne_true h).elim) k (fun q_ q_ q_ h => (Bool.false_ne_true h).elim) (fun q_ q_ q_ q_ h => (Bool.false_ne_true h).elim) (fun q_ q_ q_ q_ h => (Bool.false_ne_true h).elim) (fun q_ q_ q_ h => (Bool.false_ne_true h).elim) (fun q_ q_ q_ h => (Bool.false_ne_true h).elim) (fun q_ q_ q_ q_ h => (Bool.false_ne_true h).elim) (fun q_ q_ q_ q_ h => (Bool.false_ne_true h).elim) (fun q_ q_ q_ q_ q_ h => (Bool.false_ne_true h).elim) (fun q_ q_ q_ q_ h => (Bool.false_ne_true h).elim) (fun q_ q_ h => (Bool.false_ne_true h).elim) (fun q_ q_ h => (Bool.false_ne_true h).elim) (fun q_ q_ h => (Bool.false_ne_true h).elim) (fun q_ q_ q_ q_ h => (Bool.false_ne_true h).elim) (fun q_ q_ q_ q_ h => (Bool.false_ne_true h).elim) (fun q_ q_ q_ q_ h => (Bool.false_ne_true h).elim) (fun q_ q_ h => (Bool.false_ne_true h).elim) (fun q_ q_ q_ h => (Bool.false_ne_true h).elim) (fun q_ q_ q_ h => (Bool.false_ne_true h).elim) (fun q_ q_ q_ h => (Bool.false_ne_true h).elim) (fun q_ q_ h => (Bool.false_ne_true h).elim) (fun q_ q_ h => (Bool.false_ne_true h).elim) (fun q_ q_ h => (Bool.false_ne_true h).elim) (fun q_ q_ q_ h => (Bool.false_ne_true h).elim) (fun q_ q_ q_ q_ h => (Bool.false_ne_true h).elim) h
noncomputable def onUn (e : PySem.Expr) (f : UnaryOp → PySem.Expr → Bool) : Bool := @PySem.Expr.casesOn (fun q_ => Bool) e (fun q_ q_ q_ => false) (fun q_ q_ q_ => false) (fun q_ q_ q_ q_ => false) (fun o x q_ => f o x) (fun q_ q_ q_ q_ => false) (fun q_ q_ q_ q_ => false) (fun q_ q_ q_ => false) (fun q_ q_ q_ => false) (fun q_ q_ q_ q_ => false) (fun q_ q_ q_ q_ => false) (fun q_ q_ q_ q_ q_ => false) (fun q_ q_ q_ q_ => false) (fun q_ q_ => false) (fun q_ q_ => false) (fun q_ q_ => false) (fun q_ q_ q_ q_ => false) (fun q_ q_ q_ q_ => false) (fun q_ q_ q_ q_ => false) (fun q_ q_ => false) (fun q_ q_ q_ => false) (fun q_ q_ q_ => false) (fun q_ q_ q_ => false) (fun q_ q_ => false) (fun q_ q_ => false) (fun q_ q_ => false) (fun q_ q_ q_ => false) (fun q_ q_ q_ q_ => false)
theorem onUn_in {P : PySem.Expr → Prop} {e : PySem.Expr} {f : UnaryOp → PySem.Expr → Bool} (h : onUn e f = true) (k : ∀ o x p, f o x = true → P (.UnaryOp o x p)) : P e :=
  @PySem.Expr.casesOn (fun e => onUn e f = true → P e) e (fun q_ q_ q_ h => (Bool.false_ne_true h).elim) (fun q_ q_ q_ h => (Bool.false_ne_true h).elim) (fun q_ q_ q_ q_ h => (Bool.false_ne_true h).elim) k (fun q_ q_ q_ q_ h => (Bool.false_ne_true h).elim) (fun q_ q_ q_ q_ h => (Bool.false_ne_true h).elim) (fun q_ q_ q_ h => (Bool.false_ne_true h).elim) (fun q_ q_ q_ h => (Bool.false_ne_true h).elim) (fun q_ q_ q_ q_ h => (Bool.false_ne_true h).elim) (fun q_ q_ q_ q_ h => (Bool.false_ne_true h).elim) (fun q_ q_ q_ q_ q_ h => (Bool.false_ne_true h).elim) (fun q_ q_ q_ q_ h => (Bool.false_ne_true h).elim) (fun q_ q_ h => (Bool.false_ne_true h).elim) (fun q_ q_ h => (Bool.false_ne_true h).elim) (fun q_ q_ h => (Bool.false_ne_true h).elim) (fun q_ q_ q_ q_ h => (Bool.false_ne_true h).elim) (fun q_ q_ q_ q_ h => (Bool.false_ne_true h).elim) (fun q_ q_ q_ q_ h => (Bool.false_ne_true h).elim) (fun q_ q_ h => (Bool.false_ne_true h).elim) (fun q_ q_ q_ h => (Bool.false_ne_true h).elim) (fun q_ q_ q_ h => (Bool.false_ne_true h).elim) (fun q_ q_ q_ h => (Bool.false_ne_true h).elim) (fun q_ q_ h => (Bool.false_ne_true h).elim) (fun q_ q_ h => (Bool.false_ne_true h).elim) (fun q_ q_ h => (Bool.false_ne_true h).elim) (fun q_ q_ q_ h => (Bool.false_ne_true h).elim) (fun q_ q_ q_ q_ h => (Bool.false_ne_true h).elim) h
noncomputable def onBool (e : PySem.Expr) (f : BoolOp → List PySem.Expr → Bool) : Bool := @PySem.Expr.casesOn (fun q_ => Bool) e (fun o l q_ => f o l) (fun q_ q_ q_ => false) (fun q_ q_ q_ q_ => false) (fun q_ q_ q_ => false) (fun q_ q_ q_ q_ => false) (fun q_ q_ q_ q_ => false) (fun q_ q_ q_ => false) (fun q_ q_ q_ => false) (fun q_ q_ q_ q_ => false) (fun q_ q_ q_ q_ => false) (fun q_ q_ q_ q_ q_ => false) (fun q_ q_ q_ q_ => false) (fun q_ q_ => false) (fun q_ q_ => false) (fun q_ q_ => false) (fun q_ q_ q_ q_ => false) (fun q_ q_ q_ q_ => false) (fun q_ q_ q_ q_ => false) (fun q_ q_ => false) (fun q_ q_ q_ => false) (fun q_ q_ q_ => false) (fun q_ q_ q_ => false) (fun q_ q_ => false) (fun q_ q_ => false) (fun q_ q_ => false) (fun q_ q_ q_ => false) (fun q_ q_ q_ q_ => false)
theorem onBool_in {P : PySem.Expr → Prop} {e : PySem.Expr} {f : BoolOp → List PySem.Expr → Bool} (h : onBool e f = true) (k : ∀ o l p, f o l = true → P (.BoolOp o l p)) : P e :=
  @PySem.Expr.casesOn (fun e => onBool e f = true → P e) e k (fun q_ q_ q_ h => (Bool.false_ne_true h).elim) (fun q_ q_ q_ q_ h => (Bool.false_ne_true h).elim) (fun q_ q_ q_ h => (Bool.false_ne_true h).elim) (fun q_ q_ q_ q_ h => (Bool.false_ne_true h).elim) (fun q_ q_ q_ q_ h => (Bool.false_ne_true h).elim) (fun q_ q_ q_ h => (Bool.false_ne_true h).elim) (fun q_ q_ q_ h => (Bool.false_ne_true h).elim) (fun q_ q_ q_ q_ h => (Bool.false_ne_true h).elim) (fun q_ q_ q_ q_ h => (Bool.false_ne_true h).elim) (fun q_ q_ q_ q_ q_ h => (Bool.false_ne_true h).elim) (fun q_ q_ q_ q_ h => (Bool.false_ne_true h).elim) (fun q_ q_ h => (Bool.false_ne_true h).elim) (fun q_ q_ h => (Bool.false_ne_true h).elim) (fun q_ q_ h => (Bool.false_ne_true h).elim) (fun q_ q_ q_ q_ h => (Bool.false_ne_true h).elim) (fun q_ q_ q_ q_ h => (Bool.false_ne_true h).elim) (fun q_ q_ q_ q_ h => (Bool.false_ne_true h).elim) (fun q_ q_ h => (Bool.false_ne_true h).elim) (fun q_ q_ q_ h => (Bool.false_ne_true h).elim) (fun q_ q_ q_ h => (Bool.false_ne_true h).elim) (fun q_ q_ q_ h => (Bool.false_ne_true h).elim) (fun q_ q_ h => (Bool.false_ne_true h).elim) (fun q_ q_ h => (Bool.false_ne_true h).elim) (fun q_ q_ h => (Bool.false_ne_true h).elim) (fun q_ q_ q_ h => (Bool.false_ne_true h).elim) (fun q_ q_ q_ q_ h => (Bool.false_ne_true h).elim) h
noncomputable def onCmp (e : PySem.Expr) (f : PySem.Expr → List CmpOp → List PySem.Expr → Bool) : Bool := @PySem.Expr.casesOn (fun q_ => Bool) e (fun q_ q_ q_ => false) (fun q_ q_ q_ => false) (fun q_ q_ q_ q_ => false) (fun q_ q_ q_ => false) (fun q_ q_ q_ q_ => false) (fun q_ q_ q_ q_ => false) (fun q_ q_ q_ => false) (fun q_ q_ q_ => false) (fun q_ q_ q_ q_ => false) (fun q_ q_ q_ q_ => false) (fun q_ q_ q_ q_ q_ => false) (fun q_ q_ q_ q_ => false) (fun q_ q_ => false) (fun q_ q_ => false) (fun q_ q_ => false) (fun x os l q_ => f x os l) (fun q_ q_ q_ q_ => false) (fun q_ q_ q_ q_ => false) (fun q_ q_ => false) (fun q_ q_ q_ => false) (fun q_ q_ q_ => false) (fun q_ q_ q_ => false) (fun q_ q_ => false) (fun q_ q_ => false) (fun q_ q_ => false) (fun q_ q_ q_ => false) (fun q_ q_ q_ q_ => false)
theorem onCmp_in {P : PySem.Expr → Prop} {e : PySem.Expr} {f : PySem.Expr → List CmpOp → List PySem.Expr → Bool} (h : onCmp e f = true) (k : ∀ x os l p, f x os l = true → P (.Compare x os l p)) : P e :=
  @PySem.Expr.casesOn (fun e => onCmp e f = true → P e) e (fun q_ q_ q_ h => (Bool.false_ne_true h).elim) (fun q_ q_ q_ h => (Bool.false_ne_true h).elim) (fun q_ q_ q_ q_ h => (Bool.false_ne_true h).elim) (fun q_ q_ q_ h => (Bool.false_ne_true h).elim) (fun q_ q_ q_ q_ h => (Bool.false_ne_true h).elim) (fun q_ q_ q_ q_ h => (Bool.false_ne_true h).elim) (fun q_ q_ q_ h => (Bool.false_ne_true h).elim) (fun q_ q_ q_ h => (Bool.false_ne_true h).elim) (fun q_ q_ q_ q_ h => (Bool.false_ne_true h).elim) (fun q_ q_ q_ q_ h => (Bool.false_ne_true h).elim) (fun q_ q_ q_ q_ q_ h => (Bool.false_ne_true h).elim) (fun q_ q_ q_ q_ h => (Bool.false_ne_true h).elim) (fun q_ q_ h => (Bool.false_ne_true h).elim) (fun q_ q_ h => (Bool.false_ne_true h).elim) (fun q_ q_ h => (Bool.false_ne_true h).elim) k (fun q_ q_ q_ q_ h => (Bool.false_ne_true h).elim) (fun q_ q_ q_ q_ h => (Bool.false_ne_true h).elim) (fun q_ q_ h => (Bool.false_ne_true h).elim) (fun q_ q_ q_ h => (Bool.false_ne_true h).elim) (fun q_ q_ q_ h => (Bool.false_ne_true h).elim) (fun q_ q_ q_ h => (Bool.false_ne_true h).elim) (fun q_ q_ h => (Bool.false_ne_true h).elim) (fun q_ q_ h => (Bool.false_ne_true h).elim) (fun q_ q_ h => (Bool.false_ne_true h).elim) (fun q_ q_ q_ h => (Bool.false_ne_true h).elim) (fun q_ q_ q_ q_ h => (Bool.false_ne_true h).elim) h
noncomputable def onIf (e : PySem.Expr) (f : PySem.Expr → PySem.Expr → PySem.Expr → Bool) : Bool := @PySem.Expr.casesOn (fun q_ => Bool) e (fun q_ q_ q_ => false) (fun q_ q_ q_ => false) (fun q_ q_ q_ q_ => false) (fun q_ q_ q_ => false) (fun q_ q_ q_ q_ => false) (fun t x y q_ => f t x y) (fun q_ q_ q_ => false) (fun q_ q_ q_ => false) (fun q_ q_ q_ q_ => false) (fun q_ q_ q_ q_ => false) (fun q_ q_ q_ q_ q_ => false) (fun q_ q_ q_ q_ => false) (fun q_ q_ => false) (fun q_ q_ => false) (fun q_ q_ => false) (fun q_ q_ q_ q_ => false) (fun q_ q_ q_ q_ => false) (fun q_ q_ q_ q_ => false) (fun q_ q_ => false) (fun q_ q_ q_ => false) (fun q_ q_ q_ => false) (fun q_ q_ q_ => false) (fun q_ q_ => false) (fun q_ q_ => false) (fun q_ q_ => false) (fun q_ q_ q_ => false) (fun q_ q_ q_ q_ => false)
theorem onIf_in {P : PySem.Expr → Prop} {e : PySem.Expr} {f : PySem.Expr → PySem.Expr → PySem.Expr → Bool} (h : onIf e f = true) (k : ∀ t x y p, f t x y = true → P (.IfExp t x y p)) : P e :=
  @PySem.Expr.casesOn (fun e => onIf e f = true → P e) e (fun q_ q_ q_ h => (Bool.false_ne_true h).elim) (fun q_ q_ q_ h => (Bool.false_ne_true h).elim) (fun q_ q_ q_ q_ h => (Bool.false_ne_true h).elim) (fun q_ q_ q_ h => (Bool.false_ne_true h).elim) (fun q_ q_ q_ q_ h => (Bool.false_ne_true h).elim) k (fun q_ q_ q_ h => (Bool.false_ne_true h).elim) (fun q_ q_ q_ h => (Bool.false_ne_true h).elim) (fun q_ q_ q_ q_ h => (Bool.false_ne_true h).elim) (fun q_ q_ q_ q_ h => (Bool.false_ne_true h).elim) (fun q_ q_ q_ q_ q_ h => (Bool.false_ne_true h).elim) (fun q_ q_ q_ q_ h => (Bool.false_ne_true h).elim) (fun q_ q_ h => (Bool.false_ne_true h).elim) (fun q_ q_ h => (Bool.false_ne_true h).elim) (fun q_ q_ h => (Bool.false_ne_true h).elim) (fun q_ q_ q_ q_ h => (Bool.false_ne_true h).elim) (fun q_ q_ q_ q_ h => (Bool.false_ne_true h).elim) (fun q_ q_ q_ q_ h => (Bool.false_ne_true h).elim) (fun q_ q_ h => (Bool.false_ne_true h).elim) (fun q_ q_ q_ h => (Bool.false_ne_true h).elim) (fun q_ q_ q_ h => (Bool.false_ne_true h).elim) (fun q_ q_ q_ h => (Bool.false_ne_true h).elim) (fun q_ q_ h => (Bool.false_ne_true h).elim) (fun q_ q_ h => (Bool.false_ne_true h).elim) (fun q_ q_ h => (Bool.false_ne_true h).elim) (fun q_ q_ q_ h => (Bool.false_ne_true h).elim) (fun q_ q_ q_ q_ h => (Bool.false_ne_true h).elim) h
noncomputable def onCallK (e : PySem.Expr) (f : PySem.Expr → List PySem.Expr → List Keyword → Pos → Bool) : Bool := @PySem.Expr.casesOn (fun q_ => Bool) e (fun q_ q_ q_ => false) (fun q_ q_ q_ => false) (fun q_ q_ q_ q_ => false) (fun q_ q_ q_ => false) (fun q_ q_ q_ q_ => false) (fun q_ q_ q_ q_ => false) (fun q_ q_ q_ => false) (fun q_ q_ q_ => false) (fun q_ q_ q_ q_ => false) (fun q_ q_ q_ q_ => false) (fun q_ q_ q_ q_ q_ => false) (fun q_ q_ q_ q_ => false) (fun q_ q_ => false) (fun q_ q_ => false) (fun q_ q_ => false) (fun q_ q_ q_ q_ => false) (fun g l ks p => f g l ks p) (fun q_ q_ q_ q_ => false) (fun q_ q_ => false) (fun q_ q_ q_ => false) (fun q_ q_ q_ => false) (fun q_ q_ q_ => false) (fun q_ q_ => false) (fun q_ q_ => false) (fun q_ q_ => false) (fun q_ q_ q_ => false) (fun q_ q_ q_ q_ => false)
theorem onCallK_in {P : PySem.Expr → Prop} {e : PySem.Expr} {f : PySem.Expr → List PySem.Expr → List Keyword → Pos → Bool} (h : onCallK e f = true) (k : ∀ g l ks p, f g l ks p = true → P (.Call g l ks p)) : P e :=
  @PySem.Expr.casesOn (fun e => onCallK e f = true → P e) e (fun q_ q_ q_ h => (Bool.false_ne_true h).elim) (fun q_ q_ q_ h => (Bool.false_ne_true h).elim) (fun q_ q_ q_ q_ h => (Bool.false_ne_true h).elim) (fun q_ q_ q_ h => (Bool.false_ne_true h).elim) (fun q_ q_ q_ q_ h => (Bool.false_ne_true h).elim) (fun q_ q_ q_ q_ h => (Bool.false_ne_true h).elim) (fun q_ q_ q_ h => (Bool.false_ne_true h).elim) (fun q_ q_ q_ h => (Bool.false_ne_true h).elim) (fun q_ q_ q_ q_ h => (Bool.false_ne_true h).elim) (fun q_ q_ q_ q_ h => (Bool.false_ne_true h).elim) (fun q_ q_ q_ q_ q_ h => (Bool.false_ne_true h).elim) (fun q_ q_ q_ q_ h => (Bool.false_ne_true h).elim) (fun q_ q_ h => (Bool.false_ne_true h).elim) (fun q_ q_ h => (Bool.false_ne_true h).elim) (fun q_ q_ h => (Bool.false_ne_true h).elim) (fun q_ q_ q_ q_ h => (Bool.false_ne_true h).elim) k (fun q_ q_ q_ q_ h => (Bool.false_ne_true h).elim) (fun q_ q_ h => (Bool.false_ne_true h).elim) (fun q_ q_ q_ h => (Bool.false_ne_true h).elim) (fun q_ q_ q_ h => (Bool.false_ne_true h).elim) (fun q_ q_ q_ h => (Bool.false_ne_true h).elim) (fun q_ q_ h => (Bool.false_ne_true h).elim) (fun q_ q_ h => (Bool.false_ne_true h).elim) (fun q_ q_ h => (Bool.false_ne_true h).elim) (fun q_ q_ q_ h => (Bool.false_ne_true h).elim) (fun q_ q_ q_ q_ h => (Bool.false_ne_true h).elim) h
noncomputable def onAttr (e : PySem.Expr) (f : PySem.Expr → Str → Pos → Bool) : Bool := @PySem.Expr.casesOn (fun q_ => Bool) e (fun q_ q_ q_ => false) (fun q_ q_ q_ => false) (fun q_ q_ q_ q_ => false) (fun q_ q_ q_ => false) (fun q_ q_ q_ q_ => false) (fun q_ q_ q_ q_ => false) (fun q_ q_ q_ => false) (fun q_ q_ q_ => false) (fun q_ q_ q_ q_ => false) (fun q_ q_ q_ q_ => false) (fun q_ q_ q_ q_ q_ => false) (fun q_ q_ q_ q_ => false) (fun q_ q_ => false) (fun q_ q_ => false) (fun q_ q_ => false) (fun q_ q_ q_ q_ => false) (fun q_ q_ q_ q_ => false) (fun q_ q_ q_ q_ => false) (fun q_ q_ => false) (fun q_ q_ q_ => false) (fun o n p => f o n p) (fun q_ q_ q_ => false) (fun q_ q_ => false) (fun q_ q_ => false) (fun q_ q_ => false) (fun q_ q_ q_ => false) (fun q_ q_ q_ q_ => false)
theorem onAttr_in {P : PySem.Expr → Prop} {e : PySem.Expr} {f : PySem.Expr → Str → Pos → Bool} (h : onAttr e f = true) (k : ∀ o n p, f o n p = true → P (.Attribute o n p)) : P e :=
  @PySem.Expr.casesOn (fun e => onAttr e f = true → P e) e (fun q_ q_ q_ h => (Bool.false_ne_true h).elim) (fun q_ q_ q_ h => (Bool.false_ne_true h).elim) (fun q_ q_ q_ q_ h => (Bool.false_ne_true h).elim) (fun q_ q_ q_ h => (Bool.false_ne_true h).elim) (fun q_ q_ q_ q_ h => (Bool.false_ne_true h).elim) (fun q_ q_ q_ q_ h => (Bool.false_ne_true h).elim) (fun q_ q_ q_ h => (Bool.false_ne_true h).elim) (fun q_ q_ q_ h => (Bool.false_ne_true h).elim) (fun q_ q_ q_ q_ h => (Bool.false_ne_true h).elim) (fun q_ q_ q_ q_ h => (Bool.false_ne_true h).elim) (fun q_ q_ q_ q_ q_ h => (Bool.false_ne_true h).elim) (fun q_ q_ q_ q_ h => (Bool.false_ne_true h).elim) (fun q_ q_ h => (Bool.false_ne_true h).elim) (fun q_ q_ h => (Bool.false_ne_true h).elim) (fun q_ q_ h => (Bool.false_ne_true h).elim) (fun q_ q_ q_ q_ h => (Bool.false_ne_true h).elim) (fun q_ q_ q_ q_ h => (Bool.false_ne_true h).elim) (fun q_ q_ q_ q_ h => (Bool.false_ne_true h).elim) (fun q_ q_ h => (Bool.false_ne_true h).elim) (fun q_ q_ q_ h => (Bool.false_ne_true h).elim) k (fun q_ q_ q_ h => (Bool.false_ne_true h).elim) (fun q_ q_ h => (Bool.false_ne_true h).elim) (fun q_ q_ h => (Bool.false_ne_true h).elim) (fun q_ q_ h => (Bool.false_ne_true h).elim) (fun q_ q_ q_ h => (Bool.false_ne_true h).elim) (fun q_ q_ q_ q_ h => (Bool.false_ne_true h).elim) h
noncomputable def onSub (e : PySem.Expr) (f : PySem.Expr → PySem.Expr → Bool) : Bool := @PySem.Expr.casesOn (fun q_ => Bool) e (fun q_ q_ q_ => false) (fun q_ q_ q_ => false) (fun q_ q_ q_ q_ => false) (fun q_ q_ q_ => false) (fun q_ q_ q_ q_ => false) (fun q_ q_ q_ q_ => false) (fun q_ q_ q_ => false) (fun q_ q_ q_ => false) (fun q_ q_ q_ q_ => false) (fun q_ q_ q_ q_ => false) (fun q_ q_ q_ q_ q_ => false) (fun q_ q_ q_ q_ => false) (fun q_ q_ => false) (fun q_ q_ => false) (fun q_ q_ => false) (fun q_ q_ q_ q_ => false) (fun q_ q_ q_ q_ => false) (fun q_ q_ q_ q_ => false) (fun q_ q_ => false) (fun q_ q_ q_ => false) (fun q_ q_ q_ => false) (fun o i q_ => f o i) (fun q_ q_ => false) (fun q_ q_ => false) (fun q_ q_ => false) (fun q_ q_ q_ => false) (fun q_ q_ q_ q_ => false)
theorem onSub_in {P : PySem.Expr → Prop} {e : PySem.Expr} {f : PySem.Expr → PySem.Expr → Bool} (h : onSub e f = true) (k : ∀ o i p, f o i = true → P (.Subscript o i p)) : P e :=
  @PySem.Expr.casesOn (fun e => onSub e f = true → P e) e (fun q_ q_ q_ h => (Bool.false_ne_true h).elim) (fun q_ q_ q_ h => (Bool.false_ne_true h).elim) (fun q_ q_ q_ q_ h => (Bool.false_ne_true h).elim) (fun q_ q_ q_ h => (Bool.false_ne_true h).elim) (fun q_ q_ q_ q_ h => (Bool.false_ne_true h).elim) (fun q_ q_ q_ q_ h => (Bool.false_ne_true h).elim) (fun q_ q_ q_ h => (Bool.false_ne_true h).elim) (fun q_ q_ q_ h => (Bool.false_ne_true h).elim) (fun q_ q_ q_ q_ h => (Bool.false_ne_true h).elim) (fun q_ q_ q_ q_ h => (Bool.false_ne_true h).elim) (fun q_ q_ q_ q_ q_ h => (Bool.false_ne_true h).elim) (fun q_ q_ q_ q_ h => (Bool.false_ne_true h).elim) (fun q_ q_ h => (Bool.false_ne_true h).elim) (fun q_ q_ h => (Bool.false_ne_true h).elim) (fun q_ q_ h => (Bool.false_ne_true h).elim) (fun q_ q_ q_ q_ h => (Bool.false_ne_true h).elim) (fun q_ q_ q_ q_ h => (Bool.false_ne_true h).elim) (fun q_ q_ q_ q_ h => (Bool.false_ne_true h).elim) (fun q_ q_ h => (Bool.false_ne_true h).elim) (fun q_ q_ q_ h => (Bool.false_ne_true h).elim) (fun q_ q_ q_ h => (Bool.false_ne_true h).elim) k (fun q_ q_ h => (Bool.false_ne_true h).elim) (fun q_ q_ h => (Bool.false_ne_true h).elim) (fun q_ q_ h => (Bool.false_ne_true h).elim) (fun q_ q_ q_ h => (Bool.false_ne_true h).elim) (fun q_ q_ q_ q_ h => (Bool.false_ne_true h).elim) h
noncomputable def onSliceO (e : PySem.Expr) (f : Option PySem.Expr → Option PySem.Expr → Option PySem.Expr → Bool) : Bool := @PySem.Expr.casesOn (fun q_ => Bool) e (fun q_ q_ q_ => false) (fun q_ q_ q_ => false) (fun q_ q_ q_ q_ => false) (fun q_ q_ q_ => false) (fun q_ q_ q_ q_ => false) (fun q_ q_ q_ q_ => false) (fun q_ q_ q_ => false) (fun q_ q_ q_ => false) (fun q_ q_ q_ q_ => false) (fun q_ q_ q_ q_ => false) (fun q_ q_ q_ q_ q_ => false) (fun q_ q_ q_ q_ => false) (fun q_ q_ => false) (fun q_ q_ => false) (fun q_ q_ => false) (fun q_ q_ q_ q_ => false) (fun q_ q_ q_ q_ => false) (fun q_ q_ q_ q_ => false) (fun q_ q_ => false) (fun q_ q_ q_ => false) (fun q_ q_ q_ => false) (fun q_ q_ q_ => false) (fun q_ q_ => false) (fun q_ q_ => false) (fun q_ q_ => false) (fun q_ q_ q_ => false) (fun a b c q_ => f a b c)
theorem onSliceO_in {P : PySem.Expr → Prop} {e : PySem.Expr} {f : Option PySem.Expr → Option PySem.Expr → Option PySem.Expr → Bool} (h : onSliceO e f = true) (k : ∀ a b c p, f a b c = true → P (.Slice a b c p)) : P e :=
  @PySem.Expr.casesOn (fun e => onSliceO e f = true → P e) e (fun q_ q_ q_ h => (Bool.false_ne_true h).elim) (fun q_ q_ q_ h => (Bool.false_ne_true h).elim) (fun q_ q_ q_ q_ h => (Bool.false_ne_true h).elim) (fun q_ q_ q_ h => (Bool.false_ne_true h).elim) (fun q_ q_ q_ q_ h => (Bool.false_ne_true h).elim) (fun q_ q_ q_ q_ h => (Bool.false_ne_true h).elim) (fun q_ q_ q_ h => (Bool.false_ne_true h).elim) (fun q_ q_ q_ h => (Bool.false_ne_true h).elim) (fun q_ q_ q_ q_ h => (Bool.false_ne_true h).elim) (fun q_ q_ q_ q_ h => (Bool.false_ne_true h).elim) (fun q_ q_ q_ q_ q_ h => (Bool.false_ne_true h).elim) (fun q_ q_ q_ q_ h => (Bool.false_ne_true h).elim) (fun q_ q_ h => (Bool.false_ne_true h).elim) (fun q_ q_ h => (Bool.false_ne_true h).elim) (fun q_ q_ h => (Bool.false_ne_true h).elim) (fun q_ q_ q_ q_ h => (Bool.false_ne_true h).elim) (fun q_ q_ q_ q_ h => (Bool.false_ne_true h).elim) (fun q_ q_ q_ q_ h => (Bool.false_ne_true h).elim) (fun q_ q_ h => (Bool.false_ne_true h).elim) (fun q_ q_ q_ h => (Bool.false_ne_true h).elim) (fun q_ q_ q_ h => (Bool.false_ne_true h).elim) (fun q_ q_ q_ h => (Bool.false_ne_true h).elim) (fun q_ q_ h => (Bool.false_ne_true h).elim) (fun q_ q_ h => (Bool.false_ne_true h).elim) (fun q_ q_ h => (Bool.false_ne_true h).elim) (fun q_ q_ q_ h => (Bool.false_ne_true h).elim) k h
noncomputable def onTup (e : PySem.Expr) (f : List PySem.Expr → Bool) : Bool := @PySem.Expr.casesOn (fun q_ => Bool) e (fun q_ q_ q_ => false) (fun q_ q_ q_ => false) (fun q_ q_ q_ q_ => false) (fun q_ q_ q_ => false) (fun q_ q_ q_ q_ => false) (fun q_ q_ q_ q_ => false) (fun q_ q_ q_ => false) (fun q_ q_ q_ => false) (fun q_ q_ q_ q_ => false) (fun q_ q_ q_ q_ => false) (fun q_ q_ q_ q_ q_ => false) (fun q_ q_ q_ q_ => false) (fun q_ q_ => false) (fun q_ q_ => false) (fun q_ q_ => false) (fun q_ q_ q_ q_ => false) (fun q_ q_ q_ q_ => false) (fun q_ q_ q_ q_ => false) (fun q_ q_ => false) (fun q_ q_ q_ => false) (fun q_ q_ q_ => false) (fun q_ q_ q_ => false) (fun q_ q_ => false) (fun q_ q_ => false) (fun q_ q_ => false) (fun l q_ q_ => f l) (fun q_ q_ q_ q_ => false)
theorem onTup_in {P : PySem.Expr → Prop} {e : PySem.Expr} {f : List PySem.Expr → Bool} (h : onTup e f = true) (k : ∀ l k' p, f l = true → P (.Tuple l k' p)) : P e :=
  @PySem.Expr.casesOn (fun e => onTup e f = true → P e) e (fun q_ q_ q_ h => (Bool.false_ne_true h).elim) (fun q_ q_ q_ h => (Bool.false_ne_true h).elim) (fun q_ q_ q_ q_ h => (Bool.false_ne_true h).elim) (fun q_ q_ q_ h => (Bool.false_ne_true h).elim) (fun q_ q_ q_ q_ h => (Bool.false_ne_true h).elim) (fun q_ q_ q_ q_ h => (Bool.false_ne_true h).elim) (fun q_ q_ q_ h => (Bool.false_ne_true h).elim) (fun q_ q_ q_ h => (Bool.false_ne_true h).elim) (fun q_ q_ q_ q_ h => (Bool.false_ne_true h).elim) (fun q_ q_ q_ q_ h => (Bool.false_ne_true h).elim) (fun q_ q_ q_ q_ q_ h => (Bool.false_ne_true h).elim) (fun q_ q_ q_ q_ h => (Bool.false_ne_true h).elim) (fun q_ q_ h => (Bool.false_ne_true h).elim) (fun q_ q_ h => (Bool.false_ne_true h).elim) (fun q_ q_ h => (Bool.false_ne_true h).elim) (fun q_ q_ q_ q_ h => (Bool.false_ne_true h).elim) (fun q_ q_ q_ q_ h => (Bool.false_ne_true h).elim) (fun q_ q_ q_ q_ h => (Bool.false_ne_true h).elim) (fun q_ q_ h => (Bool.false_ne_true h).elim) (fun q_ q_ q_ h => (Bool.false_ne_true h).elim) (fun q_ q_ q_ h => (Bool.false_ne_true h).elim) (fun q_ q_ q_ h => (Bool.false_ne_true h).elim) (fun q_ q_ h => (Bool.false_ne_true h).elim) (fun q_ q_ h => (Bool.false_ne_true h).elim) (fun q_ q_ h => (Bool.false_ne_true h).elim) k (fun q_ q_ q_ q_ h => (Bool.false_ne_true h).elim) h
noncomputable def onList (e : PySem.Expr) (f : List PySem.Expr → Bool) : Bool := @PySem.Expr.casesOn (fun q_ => Bool) e (fun q_ q_ q_ => false) (fun q_ q_ q_ => false) (fun q_ q_ q_ q_ => false) (fun q_ q_ q_ => false) (fun q_ q_ q_ q_ => false) (fun q_ q_ q_ q_ => false) (fun q_ q_ q_ => false) (fun q_ q_ q_ => false) (fun q_ q_ q_ q_ => false) (fun q_ q_ q_ q_ => false) (fun q_ q_ q_ q_ q_ => false) (fun q_ q_ q_ q_ => false) (fun q_ q_ => false) (fun q_ q_ => false) (fun q_ q_ => false) (fun q_ q_ q_ q_ => false) (fun q_ q_ q_ q_ => false) (fun q_ q_ q_ q_ => false) (fun q_ q_ => false) (fun q_ q_ q_ => false) (fun q_ q_ q_ => false) (fun q_ q_ q_ => false) (fun q_ q_ => false) (fun q_ q_ => false) (fun l q_ => f l) (fun q_ q_ q_ => false) (fun q_ q_ q_ q_ => false)
theorem onList_in {P : PySem.Expr → Prop} {e : PySem.Expr} {f : List PySem.Expr → Bool} (h : onList e f = true) (k : ∀ l p, f l = true → P (.List l p)) : P e :=
  @PySem.Expr.casesOn (fun e => onList e f = true → P e) e (fun q_ q_ q_ h => (Bool.false_ne_true h).elim) (fun q_ q_ q_ h => (Bool.false_ne_true h).elim) (fun q_ q_ q_ q_ h => (Bool.false_ne_true h).elim) (fun q_ q_ q_ h => (Bool.false_ne_true h).elim) (fun q_ q_ q_ q_ h => (Bool.false_ne_true h).elim) (fun q_ q_ q_ q_ h => (Bool.false_ne_true h).elim) (fun q_ q_ q_ h => (Bool.false_ne_true h).elim) (fun q_ q_ q_ h => (Bool.false_ne_true h).elim) (fun q_ q_ q_ q_ h => (Bool.false_ne_true h).elim) (fun q_ q_ q_ q_ h => (Bool.false_ne_true h).elim) (fun q_ q_ q_ q_ q_ h => (Bool.false_ne_true h).elim) (fun q_ q_ q_ q_ h => (Bool.false_ne_true h).elim) (fun q_ q_ h => (Bool.false_ne_true h).elim) (fun q_ q_ h => (Bool.false_ne_true h).elim) (fun q_ q_ h => (Bool.false_ne_true h).elim) (fun q_ q_ q_ q_ h => (Bool.false_ne_true h).elim) (fun q_ q_ q_ q_ h => (Bool.false_ne_true h).elim) (fun q_ q_ q_ q_ h => (Bool.false_ne_true h).elim) (fun q_ q_ h => (Bool.false_ne_true h).elim) (fun q_ q_ q_ h => (Bool.false_ne_true h).elim) (fun q_ q_ q_ h => (Bool.false_ne_true h).elim) (fun q_ q_ q_ h => (Bool.false_ne_true h).elim) (fun q_ q_ h => (Bool.false_ne_true h).elim) (fun q_ q_ h => (Bool.false_ne_true h).elim) k (fun q_ q_ q_ h => (Bool.false_ne_true h).elim) (fun q_ q_ q_ q_ h => (Bool.false_ne_true h).elim) h
noncomputable def onDict (e : PySem.Expr) (f : List (Option PySem.Expr) → List PySem.Expr → Bool) : Bool := @PySem.Expr.casesOn (fun q_ => Bool) e (fun q_ q_ q_ => false) (fun q_ q_ q_ => false) (fun q_ q_ q_ q_ => false) (fun q_ q_ q_ => false) (fun q_ q_ q_ q_ => false) (fun q_ q_ q_ q_ => false) (fun ks vs q_ => f ks vs) (fun q_ q_ q_ => false) (fun q_ q_ q_ q_ => false) (fun q_ q_ q_ q_ => false) (fun q_ q_ q_ q_ q_ => false) (fun q_ q_ q_ q_ => false) (fun q_ q_ => false) (fun q_ q_ => false) (fun q_ q_ => false) (fun q_ q_ q_ q_ => false) (fun q_ q_ q_ q_ => false) (fun q_ q_ q_ q_ => false) (fun q_ q_ => false) (fun q_ q_ q_ => false) (fun q_ q_ q_ => false) (fun q_ q_ q_ => false) (fun q_ q_ => false) (fun q_ q_ => false) (fun q_ q_ => false) (fun q_ q_ q_ => false) (fun q_ q_ q_ q_ => false)
theorem onDict_in {P : PySem.Expr → Prop} {e : PySem.Expr} {f : List (Option PySem.Expr) → List PySem.Expr → Bool} (h : onDict e f = true) (k : ∀ ks vs p, f ks vs = true → P (.Dict ks vs p)) : P e :=
  @PySem.Expr.casesOn (fun e => onDict e f = true → P e) e (fun q_ q_ q_ h => (Bool.false_ne_true h).elim) (fun q_ q_ q_ h => (Bool.false_ne_true h).elim) (fun q_ q_ q_ q_ h => (Bool.false_ne_true h).elim) (fun q_ q_ q_ h => (Bool.false_ne_true h).elim) (fun q_ q_ q_ q_ h => (Bool.false_ne_true h).elim) (fun q_ q_ q_ q_ h => (Bool.false_ne_true h).elim) k (fun q_ q_ q_ h => (Bool.false_ne_true h).elim) (fun q_ q_ q_ q_ h => (Bool.false_ne_true h).elim) (fun q_ q_ q_ q_ h => (Bool.false_ne_true h).elim) (fun q_ q_ q_ q_ q_ h => (Bool.false_ne_true h).elim) (fun q_ q_ q_ q_ h => (Bool.false_ne_true h).elim) (fun q_ q_ h => (Bool.false_ne_true h).elim) (fun q_ q_ h => (Bool.false_ne_true h).elim) (fun q_ q_ h => (Bool.false_ne_true h).elim) (fun q_ q_ q_ q_ h => (Bool.false_ne_true h).elim) (fun q_ q_ q_ q_ h => (Bool.false_ne_true h).elim) (fun q_ q_ q_ q_ h => (Bool.false_ne_true h).elim) (fun q_ q_ h => (Bool.false_ne_true h).elim) (fun q_ q_ q_ h => (Bool.false_ne_true h).elim) (fun q_ q_ q_ h => (Bool.false_ne_true h).elim) (fun q_ q_ q_ h => (Bool.false_ne_true h).elim) (fun q_ q_ h => (Bool.false_ne_true h).elim) (fun q_ q_ h => (Bool.false_ne_true h).elim) (fun q_ q_ h => (Bool.false_ne_true h).elim) (fun q_ q_ q_ h => (Bool.false_ne_true h).elim) (fun q_ q_ q_ q_ h => (Bool.false_ne_true h).elim) h
noncomputable def onComp (e : PySem.Expr) (f : PySem.Expr → List PySem.Comprehension → Scope → Bool) : Bool := @PySem.Expr.casesOn (fun q_ => Bool) e (fun q_ q_ q_ => false) (fun q_ q_ q_ => false) (fun q_ q_ q_ q_ => false) (fun q_ q_ q_ => false) (fun q_ q_ q_ q_ => false) (fun q_ q_ q_ q_ => false) (fun q_ q_ q_ => false) (fun q_ q_ q_ => false) (fun x gs sc q_ => f x gs sc) (fun q_ q_ q_ q_ => false) (fun q_ q_ q_ q_ q_ => false) (fun q_ q_ q_ q_ => false) (fun q_ q_ => false) (fun q_ q_ => false) (fun q_ q_ => false) (fun q_ q_ q_ q_ => false) (fun q_ q_ q_ q_ => false) (fun q_ q_ q_ q_ => false) (fun q_ q_ => false) (fun q_ q_ q_ => false) (fun q_ q_ q_ => false) (fun q_ q_ q_ => false) (fun q_ q_ => false) (fun q_ q_ => false) (fun q_ q_ => false) (fun q_ q_ q_ => false) (fun q_ q_ q_ q_ => false)
theorem onComp_in {P : PySem.Expr → Prop} {e : PySem.Expr} {f : PySem.Expr → List PySem.Comprehension → Scope → Bool} (h : onComp e f = true) (k : ∀ x gs sc p, f x gs sc = true → P (.ListComp x gs sc p)) : P e :=
  @PySem.Expr.casesOn (fun e => onComp e f = true → P e) e (fun q_ q_ q_ h => (Bool.false_ne_true h).elim) (fun q_ q_ q_ h => (Bool.false_ne_true h).elim) (fun q_ q_ q_ q_ h => (Bool.false_ne_true h).elim) (fun q_ q_ q_ h => (Bool.false_ne_true h).elim) (fun q_ q_ q_ q_ h => (Bool.false_ne_true h).elim) (fun q_ q_ q_ q_ h => (Bool.false_ne_true h).elim) (fun q_ q_ q_ h => (Bool.false_ne_true h).elim) (fun q_ q_ q_ h => (Bool.false_ne_true h).elim) k (fun q_ q_ q_ q_ h => (Bool.false_ne_true h).elim) (fun q_ q_ q_ q_ q_ h => (Bool.false_ne_true h).elim) (fun q_ q_ q_ q_ h => (Bool.false_ne_true h).elim) (fun q_ q_ h => (Bool.false_ne_true h).elim) (fun q_ q_ h => (Bool.false_ne_true h).elim) (fun q_ q_ h => (Bool.false_ne_true h).elim) (fun q_ q_ q_ q_ h => (Bool.false_ne_true h).elim) (fun q_ q_ q_ q_ h => (Bool.false_ne_true h).elim) (fun q_ q_ q_ q_ h => (Bool.false_ne_true h).elim) (fun q_ q_ h => (Bool.false_ne_true h).elim) (fun q_ q_ q_ h => (Bool.false_ne_true h).elim) (fun q_ q_ q_ h => (Bool.false_ne_true h).elim) (fun q_ q_ q_ h => (Bool.false_ne_true h).elim) (fun q_ q_ h => (Bool.false_ne_true h).elim) (fun q_ q_ h => (Bool.false_ne_true h).elim) (fun q_ q_ h => (Bool.false_ne_true h).elim) (fun q_ q_ q_ h => (Bool.false_ne_true h).elim) (fun q_ q_ q_ q_ h => (Bool.false_ne_true h).elim) h
noncomputable def onAssignL (e : PySem.Stmt) (f : List PySem.Expr → PySem.Expr → Bool) : Bool := @PySem.Stmt.casesOn (fun q_ => Bool) e (fun q_ q_ q_ q_ q_ q_ q_ q_ q_ q_ => false) (fun q_ q_ q_ q_ q_ q_ q_ q_ q_ q_ => false) (fun q_ q_ q_ q_ q_ q_ q_ q_ q_ q_ q_ => false) (fun q_ q_ => false) (fun q_ q_ => false) (fun ts v q_ => f ts v) (fun q_ q_ q_ q_ q_ q_ q_ => false) (fun q_ q_ q_ q_ => false) (fun q_ q_ q_ q_ q_ => false) (fun q_ q_ q_ q_ q_ => false) (fun q_ q_ q_ q_ q_ => false) (fun q_ q_ q_ q_ => false) (fun q_ q_ q_ q_ => false) (fun q_ q_ q_ => false) (fun q_ q_ q_ => false) (fun q_ q_ q_ => false) (fun q_ q_ q_ => false) (fun q_ q_ q_ q_ q_ => false) (fun q_ q_ q_ q_ q_ => false) (fun q_ q_ q_ => false) (fun q_ q_ => false) (fun q_ q_ q_ q_ => false) (fun q_ q_ => false) (fun q_ q_ => false) (fun q_ q_ => false) (fun q_ => false) (fun q_ => false) (fun q_ => false)
theorem onAssignL_in {P : PySem.Stmt → Prop} {e : PySem.Stmt} {f : List PySem.Expr → PySem.Expr → Bool} (h : onAssignL e f = true) (k : ∀ ts v p, f ts v = true → P (.Assign ts v p)) : P e :=
  @PySem.Stmt.casesOn (fun e => onAssignL e f = true → P e) e (fun q_ q_ q_ q_ q_ q_ q_ q_ q_ q_ h => (Bool.false_ne_true h).elim) (fun q_ q_ q_ q_ q_ q_ q_ q_ q_ q_ h => (Bool.false_ne_true h).elim) (fun q_ q_ q_ q_ q_ q_ q_ q_ q_ q_ q_ h => (Bool.false_ne_true h).elim) (fun q_ q_ h => (Bool.false_ne_true h).elim) (fun q_ q_ h => (Bool.false_ne_true h).elim) k (fun q_ q_ q_ q_ q_ q_ q_ h => (Bool.false_ne_true h).elim) (fun q_ q_ q_ q_ h => (Bool.false_ne_true h).elim) (fun q_ q_ q_ q_ q_ h => (Bool.false_ne_true h).elim) (fun q_ q_ q_ q_ q_ h => (Bool.false_ne_true h).elim) (fun q_ q_ q_ q_ q_ h => (Bool.false_ne_true h).elim) (fun q_ q_ q_ q_ h => (Bool.false_ne_true h).elim) (fun q_ q_ q_ q_ h => (Bool.false_ne_true h).elim) (fun q_ q_ q_ h => (Bool.false_ne_true h).elim) (fun q_ q_ q_ h => (Bool.false_ne_true h).elim) (fun q_ q_ q_ h => (Bool.false_ne_true h).elim) (fun q_ q_ q_ h => (Bool.false_ne_true h).elim) (fun q_ q_ q_ q_ q_ h => (Bool.false_ne_true h).elim) (fun q_ q_ q_ q_ q_ h => (Bool.false_ne_true h).elim) (fun q_ q_ q_ h => (Bool.false_ne_true h).elim) (fun q_ q_ h => (Bool.false_ne_true h).elim) (fun q_ q_ q_ q_ h => (Bool.false_ne_true h).elim) (fun q_ q_ h => (Bool.false_ne_true h).elim) (fun q_ q_ h => (Bool.false_ne_true h).elim) (fun q_ q_ h => (Bool.false_ne_true h).elim) (fun q_ h => (Bool.false_ne_true h).elim) (fun q_ h => (Bool.false_ne_true h).elim) (fun q_ h => (Bool.false_ne_true h).elim) h
noncomputable def onAug (e : PySem.Stmt) (f : PySem.Expr → Operator → PySem.Expr → Bool) : Bool := @PySem.Stmt.casesOn (fun q_ => Bool) e (fun q_ q_ q_ q_ q_ q_ q_ q_ q_ q_ => false) (fun q_ q_ q_ q_ q_ q_ q_ q_ q_ q_ => false) (fun q_ q_ q_ q_ q_ q_ q_ q_ q_ q_ q_ => false) (fun q_ q_ => false) (fun q_ q_ => false) (fun q_ q_ q_ => false) (fun q_ q_ q_ q_ q_ q_ q_ => false) (fun t o v q_ => f t o v) (fun q_ q_ q_ q_ q_ => false) (fun q_ q_ q_ q_ q_ => false) (fun q_ q_ q_ q_ q_ => false) (fun q_ q_ q_ q_ => false) (fun q_ q_ q_ q_ => false) (fun q_ q_ q_ => false) (fun q_ q_ q_ => false) (fun q_ q_ q_ => false) (fun q_ q_ q_ => false) (fun q_ q_ q_ q_ q_ => false) (fun q_ q_ q_ q_ q_ => false) (fun q_ q_ q_ => false) (fun q_ q_ => false) (fun q_ q_ q_ q_ => false) (fun q_ q_ => false) (fun q_ q_ => false) (fun q_ q_ => false) (fun q_ => false) (fun q_ => false) (fun q_ => false)
theorem onAug_in {P : PySem.Stmt → Prop} {e : PySem.Stmt} {f : PySem.Expr → Operator → PySem.Expr → Bool} (h : onAug e f = true) (k : ∀ t o v p, f t o v = true → P (.AugAssign t o v p)) : P e :=
  @PySem.Stmt.casesOn (fun e => onAug e f = true → P e) e (fun q_ q_ q_ q_ q_ q_ q_ q_ q_ q_ h => (Bool.false_ne_true h).elim) (fun q_ q_ q_ q_ q_ q_ q_ q_ q_ q_ h => (Bool.false_ne_true h).elim) (fun q_ q_ q_ q_ q_ q_ q_ q_ q_ q_ q_ h => (Bool.false_ne_true h).elim) (fun q_ q_ h => (Bool.false_ne_true h).elim) (fun q_ q_ h => (Bool.false_ne_true h).elim) (fun q_ q_ q_ h => (Bool.false_ne_true h).elim) (fun q_ q_ q_ q_ q_ q_ q_ h => (Bool.false_ne_true h).elim) k (fun q_ q_ q_ q_ q_ h => (Bool.false_ne_true h).elim) (fun q_ q_ q_ q_ q_ h => (Bool.false_ne_true h).elim) (fun q_ q_ q_ q_ q_ h => (Bool.false_ne_true h).elim) (fun q_ q_ q_ q_ h => (Bool.false_ne_true h).elim) (fun q_ q_ q_ q_ h => (Bool.false_ne_true h).elim) (fun q_ q_ q_ h => (Bool.false_ne_true h).elim) (fun q_ q_ q_ h => (Bool.false_ne_true h).elim) (fun q_ q_ q_ h => (Bool.false_ne_true h).elim) (fun q_ q_ q_ h => (Bool.false_ne_true h).elim) (fun q_ q_ q_ q_ q_ h => (Bool.false_ne_true h).elim) (fun q_ q_ q_ q_ q_ h => (Bool.false_ne_true h).elim) (fun q_ q_ q_ h => (Bool.false_ne_true h).elim) (fun q_ q_ h => (Bool.false_ne_true h).elim) (fun q_ q_ q_ q_ h => (Bool.false_ne_true h).elim) (fun q_ q_ h => (Bool.false_ne_true h).elim) (fun q_ q_ h => (Bool.false_ne_true h).elim) (fun q_ q_ h => (Bool.false_ne_true h).elim) (fun q_ h => (Bool.false_ne_true h).elim) (fun q_ h => (Bool.false_ne_true h).elim) (fun q_ h => (Bool.false_ne_true h).elim) h
noncomputable def onRet (e : PySem.Stmt) (f : Option PySem.Expr → Bool) : Bool := @PySem.Stmt.casesOn (fun q_ => Bool) e (fun q_ q_ q_ q_ q_ q_ q_ q_ q_ q_ => false) (fun q_ q_ q_ q_ q_ q_ q_ q_ q_ q_ => false) (fun q_ q_ q_ q_ q_ q_ q_ q_ q_ q_ q_ => false) (fun v q_ => f v) (fun q_ q_ => false) (fun q_ q_ q_ => false) (fun q_ q_ q_ q_ q_ q_ q_ => false) (fun q_ q_ q_ q_ => false) (fun q_ q_ q_ q_ q_ => false) (fun q_ q_ q_ q_ q_ => false) (fun q_ q_ q_ q_ q_ => false) (fun q_ q_ q_ q_ => false) (fun q_ q_ q_ q_ => false) (fun q_ q_ q_ => false) (fun q_ q_ q_ => false) (fun q_ q_ q_ => false) (fun q_ q_ q_ => false) (fun q_ q_ q_ q_ q_ => false) (fun q_ q_ q_ q_ q_ => false) (fun q_ q_ q_ => false) (fun q_ q_ => false) (fun q_ q_ q_ q_ => false) (fun q_ q_ => false) (fun q_ q_ => false) (fun q_ q_ => false) (fun q_ => false) (fun q_ => false) (fun q_ => false)
theorem onRet_in {P : PySem.Stmt → Prop} {e : PySem.Stmt} {f : Option PySem.Expr → Bool} (h : onRet e f = true) (k : ∀ v p, f v = true → P (.Return v p)) : P e :=
  @PySem.Stmt.casesOn (fun e => onRet e f = true → P e) e (fun q_ q_ q_ q_ q_ q_ q_ q_ q_ q_ h => (Bool.false_ne_true h).elim) (fun q_ q_ q_ q_ q_ q_ q_ q_ q_ q_ h => (Bool.false_ne_true h).elim) (fun q_ q_ q_ q_ q_ q_ q_ q_ q_ q_ q_ h => (Bool.false_ne_true h).elim) k (fun q_ q_ h => (Bool.false_ne_true h).elim) (fun q_ q_ q_ h => (Bool.false_ne_true h).elim) (fun q_ q_ q_ q_ q_ q_ q_ h => (Bool.false_ne_true h).elim) (fun q_ q_ q_ q_ h => (Bool.false_ne_true h).elim) (fun q_ q_ q_ q_ q_ h => (Bool.false_ne_true h).elim) (fun q_ q_ q_ q_ q_ h => (Bool.false_ne_true h).elim) (fun q_ q_ q_ q_ q_ h => (Bool.false_ne_true h).elim) (fun q_ q_ q_ q_ h => (Bool.false_ne_true h).elim) (fun q_ q_ q_ q_ h => (Bool.false_ne_true h).elim) (fun q_ q_ q_ h => (Bool.false_ne_true h).elim) (fun q_ q_ q_ h => (Bool.false_ne_true h).elim) (fun q_ q_ q_ h => (Bool.false_ne_true h).elim) (fun q_ q_ q_ h => (Bool.false_ne_true h).elim) (fun q_ q_ q_ q_ q_ h => (Bool.false_ne_true h).elim) (fun q_ q_ q_ q_ q_ h => (Bool.false_ne_true h).elim) (fun q_ q_ q_ h => (Bool.false_ne_true h).elim) (fun q_ q_ h => (Bool.false_ne_true h).elim) (fun q_ q_ q_ q_ h => (Bool.false_ne_true h).elim) (fun q_ q_ h => (Bool.false_ne_true h).elim) (fun q_ q_ h => (Bool.false_ne_true h).elim) (fun q_ q_ h => (Bool.false_ne_true h).elim) (fun q_ h => (Bool.false_ne_true h).elim) (fun q_ h => (Bool.false_ne_true h).elim) (fun q_ h => (Bool.false_ne_true h).elim) h
noncomputable def onExpr (e : PySem.Stmt) (f : PySem.Expr → Bool) : Bool := @PySem.Stmt.casesOn (fun q_ => Bool) e (fun q_ q_ q_ q_ q_ q_ q_ q_ q_ q_ => false) (fun q_ q_ q_ q_ q_ q_ q_ q_ q_ q_ => false) (fun q_ q_ q_ q_ q_ q_ q_ q_ q_ q_ q_ => false) (fun q_ q_ => false) (fun q_ q_ => false) (fun q_ q_ q_ => false) (fun q_ q_ q_ q_ q_ q_ q_ => false) (fun q_ q_ q_ q_ => false) (fun q_ q_ q_ q_ q_ => false) (fun q_ q_ q_ q_ q_ => false) (fun q_ q_ q_ q_ q_ => false) (fun q_ q_ q_ q_ => false) (fun q_ q_ q_ q_ => false) (fun q_ q_ q_ => false) (fun q_ q_ q_ => false) (fun q_ q_ q_ => false) (fun q_ q_ q_ => false) (fun q_ q_ q_ q_ q_ => false) (fun q_ q_ q_ q_ q_ => false) (fun q_ q_ q_ => false) (fun q_ q_ => false) (fun q_ q_ q_ q_ => false) (fun q_ q_ => false) (fun q_ q_ => false) (fun v q_ => f v) (fun q_ => false) (fun q_ => false) (fun q_ => false)
theorem onExpr_in {P : PySem.Stmt → Prop} {e : PySem.Stmt} {f : PySem.Expr → Bool} (h : onExpr e f = true) (k : ∀ v p, f v = true → P (.Expr v p)) : P e :=
  @PySem.Stmt.casesOn (fun e => onExpr e f = true → P e) e (fun q_ q_ q_ q_ q_ q_ q_ q_ q_ q_ h => (Bool.false_ne_true h).elim) (fun q_ q_ q_ q_ q_ q_ q_ q_ q_ q_ h => (Bool.false_ne_true h).elim) (fun q_ q_ q_ q_ q_ q_ q_ q_ q_ q_ q_ h => (Bool.false_ne_true h).elim) (fun q_ q_ h => (Bool.false_ne_true h).elim) (fun q_ q_ h => (Bool.false_ne_true h).elim) (fun q_ q_ q_ h => (Bool.false_ne_true h).elim) (fun q_ q_ q_ q_ q_ q_ q_ h => (Bool.false_ne_true h).elim) (fun q_ q_ q_ q_ h => (Bool.false_ne_true h).elim) (fun q_ q_ q_ q_ q_ h => (Bool.false_ne_true h).elim) (fun q_ q_ q_ q_ q_ h => (Bool.false_ne_true h).elim) (fun q_ q_ q_ q_ q_ h => (Bool.false_ne_true h).elim) (fun q_ q_ q_ q_ h => (Bool.false_ne_true h).elim) (fun q_ q_ q_ q_ h => (Bool.false_ne_true h).elim) (fun q_ q_ q_ h => (Bool.false_ne_true h).elim) (fun q_ q_ q_ h => (Bool.false_ne_true h).elim) (fun q_ q_ q_ h => (Bool.false_ne_true h).elim) (fun q_ q_ q_ h => (Bool.false_ne_true h).elim) (fun q_ q_ q_ q_ q_ h => (Bool.false_ne_true h).elim) (fun q_ q_ q_ q_ q_ h => (Bool.false_ne_true h).elim) (fun q_ q_ q_ h => (Bool.false_ne_true h).elim) (fun q_ q_ h => (Bool.false_ne_true h).elim) (fun q_ q_ q_ q_ h => (Bool.false_ne_true h).elim) (fun q_ q_ h => (Bool.false_ne_true h).elim) (fun q_ q_ h => (Bool.false_ne_true h).elim) k (fun q_ h => (Bool.false_ne_true h).elim) (fun q_ h => (Bool.false_ne_true h).elim) (fun q_ h => (Bool.false_ne_true h).elim) h
noncomputable def onIfS (e : PySem.Stmt) (f : PySem.Expr → List PySem.Stmt → List PySem.Stmt → Bool) : Bool := @PySem.Stmt.casesOn (fun q_ => Bool) e (fun q_ q_ q_ q_ q_ q_ q_ q_ q_ q_ => false) (fun q_ q_ q_ q_ q_ q_ q_ q_ q_ q_ => false) (fun q_ q_ q_ q_ q_ q_ q_ q_ q_ q_ q_ => false) (fun q_ q_ => false) (fun q_ q_ => false) (fun q_ q_ q_ => false) (fun q_ q_ q_ q_ q_ q_ q_ => false) (fun q_ q_ q_ q_ => false) (fun q_ q_ q_ q_ q_ => false) (fun q_ q_ q_ q_ q_ => false) (fun q_ q_ q_ q_ q_ => false) (fun q_ q_ q_ q_ => false) (fun t x y q_ => f t x y) (fun q_ q_ q_ => false) (fun q_ q_ q_ => false) (fun q_ q_ q_ => false) (fun q_ q_ q_ => false) (fun q_ q_ q_ q_ q_ => false) (fun q_ q_ q_ q_ q_ => false) (fun q_ q_ q_ => false) (fun q_ q_ => false) (fun q_ q_ q_ q_ => false) (fun q_ q_ => false) (fun q_ q_ => false) (fun q_ q_ => false) (fun q_ => false) (fun q_ => false) (fun q_ => false)
theorem onIfS_in {P : PySem.Stmt → Prop} {e : PySem.Stmt} {f : PySem.Expr → List PySem.Stmt → List PySem.Stmt → Bool} (h : onIfS e f = true) (k : ∀ t x y p, f t x y = true → P (.If t x y p)) : P e :=
  @PySem.Stmt.casesOn (fun e => onIfS e f = true → P e) e (fun q_ q_ q_ q_ q_ q_ q_ q_ q_ q_ h => (Bool.false_ne_true h).elim) (fun q_ q_ q_ q_ q_ q_ q_ q_ q_ q_ h => (Bool.false_ne_true h).elim) (fun q_ q_ q_ q_ q_ q_ q_ q_ q_ q_ q_ h => (Bool.false_ne_true h).elim) (fun q_ q_ h => (Bool.false_ne_true h).elim) (fun q_ q_ h => (Bool.false_ne_true h).elim) (fun q_ q_ q_ h => (Bool.false_ne_true h).elim) (fun q_ q_ q_ q_ q_ q_ q_ h => (Bool.false_ne_true h).elim) (fun q_ q_ q_ q_ h => (Bool.false_ne_true h).elim) (fun q_ q_ q_ q_ q_ h => (Bool.false_ne_true h).elim) (fun q_ q_ q_ q_ q_ h => (Bool.false_ne_true h).elim) (fun q_ q_ q_ q_ q_ h => (Bool.false_ne_true h).elim) (fun q_ q_ q_ q_ h => (Bool.false_ne_true h).elim) k (fun q_ q_ q_ h => (Bool.false_ne_true h).elim) (fun q_ q_ q_ h => (Bool.false_ne_true h).elim) (fun q_ q_ q_ h => (Bool.false_ne_true h).elim) (fun q_ q_ q_ h => (Bool.false_ne_true h).elim) (fun q_ q_ q_ q_ q_ h => (Bool.false_ne_true h).elim) (fun q_ q_ q_ q_ q_ h => (Bool.false_ne_true h).elim) (fun q_ q_ q_ h => (Bool.false_ne_true h).elim) (fun q_ q_ h => (Bool.false_ne_true h).elim) (fun q_ q_ q_ q_ h => (Bool.false_ne_true h).elim) (fun q_ q_ h => (Bool.false_ne_true h).elim) (fun q_ q_ h => (Bool.false_ne_true h).elim) (fun q_ q_ h => (Bool.false_ne_true h).elim) (fun q_ h => (Bool.false_ne_true h).elim) (fun q_ h => (Bool.false_ne_true h).elim) (fun q_ h => (Bool.false_ne_true h).elim) h
noncomputable def onForO (e : PySem.Stmt) (f : PySem.Expr → PySem.Expr → List PySem.Stmt → List PySem.Stmt → Bool) : Bool := @PySem.Stmt.casesOn (fun q_ => Bool) e (fun q_ q_ q_ q_ q_ q_ q_ q_ q_ q_ => false) (fun q_ q_ q_ q_ q_ q_ q_ q_ q_ q_ => false) (fun q_ q_ q_ q_ q_ q_ q_ q_ q_ q_ q_ => false) (fun q_ q_ => false) (fun q_ q_ => false) (fun q_ q_ q_ => false) (fun q_ q_ q_ q_ q_ q_ q_ => false) (fun q_ q_ q_ q_ => false) (fun q_ q_ q_ q_ q_ => false) (fun t i b o q_ => f t i b o) (fun q_ q_ q_ q_ q_ => false) (fun q_ q_ q_ q_ => false) (fun q_ q_ q_ q_ => false) (fun q_ q_ q_ => false) (fun q_ q_ q_ => false) (fun q_ q_ q_ => false) (fun q_ q_ q_ => false) (fun q_ q_ q_ q_ q_ => false) (fun q_ q_ q_ q_ q_ => false) (fun q_ q_ q_ => false) (fun q_ q_ => false) (fun q_ q_ q_ q_ => false) (fun q_ q_ => false) (fun q_ q_ => false) (fun q_ q_ => false) (fun q_ => false) (fun q_ => false) (fun q_ => false)
theorem onForO_in {P : PySem.Stmt → Prop} {e : PySem.Stmt} {f : PySem.Expr → PySem.Expr → List PySem.Stmt → List PySem.Stmt → Bool} (h : onForO e f = true) (k : ∀ t i b o p, f t i b o = true → P (.For t i b o p)) : P e :=
  @PySem.Stmt.casesOn (fun e => onForO e f = true → P e) e (fun q_ q_ q_ q_ q_ q_ q_ q_ q_ q_ h => (Bool.false_ne_true h).elim) (fun q_ q_ q_ q_ q_ q_ q_ q_ q_ q_ h => (Bool.false_ne_true h).elim) (fun q_ q_ q_ q_ q_ q_ q_ q_ q_ q_ q_ h => (Bool.false_ne_true h).elim) (fun q_ q_ h => (Bool.false_ne_true h).elim) (fun q_ q_ h => (Bool.false_ne_true h).elim) (fun q_ q_ q_ h => (Bool.false_ne_true h).elim) (fun q_ q_ q_ q_ q_ q_ q_ h => (Bool.false_ne_true h).elim) (fun q_ q_ q_ q_ h => (Bool.false_ne_true h).elim) (fun q_ q_ q_ q_ q_ h => (Bool.false_ne_true h).elim) k (fun q_ q_ q_ q_ q_ h => (Bool.false_ne_true h).elim) (fun q_ q_ q_ q_ h => (Bool.false_ne_true h).elim) (fun q_ q_ q_ q_ h => (Bool.false_ne_true h).elim) (fun q_ q_ q_ h => (Bool.false_ne_true h).elim) (fun q_ q_ q_ h => (Bool.false_ne_true h).elim) (fun q_ q_ q_ h => (Bool.false_ne_true h).elim) (fun q_ q_ q_ h => (Bool.false_ne_true h).elim) (fun q_ q_ q_ q_ q_ h => (Bool.false_ne_true h).elim) (fun q_ q_ q_ q_ q_ h => (Bool.false_ne_true h).elim) (fun q_ q_ q_ h => (Bool.false_ne_true h).elim) (fun q_ q_ h => (Bool.false_ne_true h).elim) (fun q_ q_ q_ q_ h => (Bool.false_ne_true h).elim) (fun q_ q_ h => (Bool.false_ne_true h).elim) (fun q_ q_ h => (Bool.false_ne_true h).elim) (fun q_ q_ h => (Bool.false_ne_true h).elim) (fun q_ h => (Bool.false_ne_true h).elim) (fun q_ h => (Bool.false_ne_true h).elim) (fun q_ h => (Bool.false_ne_true h).elim) h
noncomputable def onWhileO (e : PySem.Stmt) (f : PySem.Expr → List PySem.Stmt → List PySem.Stmt → Bool) : Bool := @PySem.Stmt.casesOn (fun q_ => Bool) e (fun q_ q_ q_ q_ q_ q_ q_ q_ q_ q_ => false) (fun q_ q_ q_ q_ q_ q_ q_ q_ q_ q_ => false) (fun q_ q_ q_ q_ q_ q_ q_ q_ q_ q_ q_ => false) (fun q_ q_ => false) (fun q_ q_ => false) (fun q_ q_ q_ => false) (fun q_ q_ q_ q_ q_ q_ q_ => false) (fun q_ q_ q_ q_ => false) (fun q_ q_ q_ q_ q_ => false) (fun q_ q_ q_ q_ q_ => false) (fun q_ q_ q_ q_ q_ => false) (fun t b o q_ => f t b o) (fun q_ q_ q_ q_ => false) (fun q_ q_ q_ => false) (fun q_ q_ q_ => false) (fun q_ q_ q_ => false) (fun q_ q_ q_ => false) (fun q_ q_ q_ q_ q_ => false) (fun q_ q_ q_ q_ q_ => false) (fun q_ q_ q_ => false) (fun q_ q_ => false) (fun q_ q_ q_ q_ => false) (fun q_ q_ => false) (fun q_ q_ => false) (fun q_ q_ => false) (fun q_ => false) (fun q_ => false) (fun q_ => false)
theorem onWhileO_in {P : PySem.Stmt → Prop} {e : PySem.Stmt} {f : PySem.Expr → List PySem.Stmt → List PySem.Stmt → Bool} (h : onWhileO e f = true) (k : ∀ t b o p, f t b o = true → P (.While t b o p)) : P e :=
  @PySem.Stmt.casesOn (fun e => onWhileO e f = true → P e) e (fun q_ q_ q_ q_ q_ q_ q_ q_ q_ q_ h => (Bool.false_ne_true h).elim) (fun q_ q_ q_ q_ q_ q_ q_ q_ q_ q_ h => (Bool.false_ne_true h).elim) (fun q_ q_ q_ q_ q_ q_ q_ q_ q_ q_ q_ h => (Bool.false_ne_true h).elim) (fun q_ q_ h => (Bool.false_ne_true h).elim) (fun q_ q_ h => (Bool.false_ne_true h).elim) (fun q_ q_ q_ h => (Bool.false_ne_true h).elim) (fun q_ q_ q_ q_ q_ q_ q_ h => (Bool.false_ne_true h).elim) (fun q_ q_ q_ q_ h => (Bool.false_ne_true h).elim) (fun q_ q_ q_ q_ q_ h => (Bool.false_ne_true h).elim) (fun q_ q_ q_ q_ q_ h => (Bool.false_ne_true h).elim) (fun q_ q_ q_ q_ q_ h => (Bool.false_ne_true h).elim) k (fun q_ q_ q_ q_ h => (Bool.false_ne_true h).elim) (fun q_ q_ q_ h => (Bool.false_ne_true h).elim) (fun q_ q_ q_ h => (Bool.false_ne_true h).elim) (fun q_ q_ q_ h => (Bool.false_ne_true h).elim) (fun q_ q_ q_ h => (Bool.false_ne_true h).elim) (fun q_ q_ q_ q_ q_ h => (Bool.false_ne_true h).elim) (fun q_ q_ q_ q_ q_ h => (Bool.false_ne_true h).elim) (fun q_ q_ q_ h => (Bool.false_ne_true h).elim) (fun q_ q_ h => (Bool.false_ne_true h).elim) (fun q_ q_ q_ q_ h => (Bool.false_ne_true h).elim) (fun q_ q_ h => (Bool.false_ne_true h).elim) (fun q_ q_ h => (Bool.false_ne_true h).elim) (fun q_ q_ h => (Bool.false_ne_true h).elim) (fun q_ h => (Bool.false_ne_true h).elim) (fun q_ h => (Bool.false_ne_true h).elim) (fun q_ h => (Bool.false_ne_true h).elim) h
noncomputable def onCont (e : PySem.Stmt) (f : Bool) : Bool := @PySem.Stmt.casesOn (fun q_ => Bool) e (fun q_ q_ q_ q_ q_ q_ q_ q_ q_ q_ => false) (fun q_ q_ q_ q_ q_ q_ q_ q_ q_ q_ => false) (fun q_ q_ q_ q_ q_ q_ q_ q_ q_ q_ q_ => false) (fun q_ q_ => false) (fun q_ q_ => false) (fun q_ q_ q_ => false) (fun q_ q_ q_ q_ q_ q_ q_ => false) (fun q_ q_ q_ q_ => false) (fun q_ q_ q_ q_ q_ => false) (fun q_ q_ q_ q_ q_ => false) (fun q_ q_ q_ q_ q_ => false) (fun q_ q_ q_ q_ => false) (fun q_ q_ q_ q_ => false) (fun q_ q_ q_ => false) (fun q_ q_ q_ => false) (fun q_ q_ q_ => false) (fun q_ q_ q_ => false) (fun q_ q_ q_ q_ q_ => false) (fun q_ q_ q_ q_ q_ => false) (fun q_ q_ q_ => false) (fun q_ q_ => false) (fun q_ q_ q_ q_ => false) (fun q_ q_ => false) (fun q_ q_ => false) (fun q_ q_ => false) (fun q_ => false) (fun q_ => false) (fun q_ => f)
theorem onCont_in {P : PySem.Stmt → Prop} {e : PySem.Stmt} {f : Bool} (h : onCont e f = true) (k : ∀ p, f = true → P (.Continue p)) : P e :=
  @PySem.Stmt.casesOn (fun e => onCont e f = true → P e) e (fun q_ q_ q_ q_ q_ q_ q_ q_ q_ q_ h => (Bool.false_ne_true h).elim) (fun q_ q_ q_ q_ q_ q_ q_ q_ q_ q_ h => (Bool.false_ne_true h).elim) (fun q_ q_ q_ q_ q_ q_ q_ q_ q_ q_ q_ h => (Bool.false_ne_true h).elim) (fun q_ q_ h => (Bool.false_ne_true h).elim) (fun q_ q_ h => (Bool.false_ne_true h).elim) (fun q_ q_ q_ h => (Bool.false_ne_true h).elim) (fun q_ q_ q_ q_ q_ q_ q_ h => (Bool.false_ne_true h).elim) (fun q_ q_ q_ q_ h => (Bool.false_ne_true h).elim) (fun q_ q_ q_ q_ q_ h => (Bool.false_ne_true h).elim) (fun q_ q_ q_ q_ q_ h => (Bool.false_ne_true h).elim) (fun q_ q_ q_ q_ q_ h => (Bool.false_ne_true h).elim) (fun q_ q_ q_ q_ h => (Bool.false_ne_true h).elim) (fun q_ q_ q_ q_ h => (Bool.false_ne_true h).elim) (fun q_ q_ q_ h => (Bool.false_ne_true h).elim) (fun q_ q_ q_ h => (Bool.false_ne_true h).elim) (fun q_ q_ q_ h => (Bool.false_ne_true h).elim) (fun q_ q_ q_ h => (Bool.false_ne_true h).elim) (fun q_ q_ q_ q_ q_ h => (Bool.false_ne_true h).elim) (fun q_ q_ q_ q_ q_ h => (Bool.false_ne_true h).elim) (fun q_ q_ q_ h => (Bool.false_ne_true h).elim) (fun q_ q_ h => (Bool.false_ne_true h).elim) (fun q_ q_ q_ q_ h => (Bool.false_ne_true h).elim) (fun q_ q_ h => (Bool.false_ne_true h).elim) (fun q_ q_ h => (Bool.false_ne_true h).elim) (fun q_ q_ h => (Bool.false_ne_true h).elim) (fun q_ h => (Bool.false_ne_true h).elim) (fun q_ h => (Bool.false_ne_true h).elim) k h
noncomputable def onRaise (e : PySem.Stmt) (f : Option PySem.Expr → Option PySem.Expr → Bool) : Bool := @PySem.Stmt.casesOn (fun q_ => Bool) e (fun q_ q_ q_ q_ q_ q_ q_ q_ q_ q_ => false) (fun q_ q_ q_ q_ q_ q_ q_ q_ q_ q_ => false) (fun q_ q_ q_ q_ q_ q_ q_ q_ q_ q_ q_ => false) (fun q_ q_ => false) (fun q_ q_ => false) (fun q_ q_ q_ => false) (fun q_ q_ q_ q_ q_ q_ q_ => false) (fun q_ q_ q_ q_ => false) (fun q_ q_ q_ q_ q_ => false) (fun q_ q_ q_ q_ q_ => false) (fun q_ q_ q_ q_ q_ => false) (fun q_ q_ q_ q_ => false) (fun q_ q_ q_ q_ => false) (fun q_ q_ q_ => false) (fun q_ q_ q_ => false) (fun q_ q_ q_ => false) (fun x c q_ => f x c) (fun q_ q_ q_ q_ q_ => false) (fun q_ q_ q_ q_ q_ => false) (fun q_ q_ q_ => false) (fun q_ q_ => false) (fun q_ q_ q_ q_ => false) (fun q_ q_ => false) (fun q_ q_ => false) (fun q_ q_ => false) (fun q_ => false) (fun q_ => false) (fun q_ => false)
theorem onRaise_in {P : PySem.Stmt → Prop} {e : PySem.Stmt} {f : Option PySem.Expr → Option PySem.Expr → Bool} (h : onRaise e f = true) (k : ∀ x c p, f x c = true → P (.Raise x c p)) : P e :=
  @PySem.Stmt.casesOn (fun e => onRaise e f = true → P e) e (fun q_ q_ q_ q_ q_ q_ q_ q_ q_ q_ h => (Bool.false_ne_true h).elim) (fun q_ q_ q_ q_ q_ q_ q_ q_ q_ q_ h => (Bool.false_ne_true h).elim) (fun q_ q_ q_ q_ q_ q_ q_ q_ q_ q_ q_ h => (Bool.false_ne_true h).elim) (fun q_ q_ h => (Bool.false_ne_true h).elim) (fun q_ q_ h => (Bool.false_ne_true h).elim) (fun q_ q_ q_ h => (Bool.false_ne_true h).elim) (fun q_ q_ q_ q_ q_ q_ q_ h => (Bool.false_ne_true h).elim) (fun q_ q_ q_ q_ h => (Bool.false_ne_true h).elim) (fun q_ q_ q_ q_ q_ h => (Bool.false_ne_true h).elim) (fun q_ q_ q_ q_ q_ h => (Bool.false_ne_true h).elim) (fun q_ q_ q_ q_ q_ h => (Bool.false_ne_true h).elim) (fun q_ q_ q_ q_ h => (Bool.false_ne_true h).elim) (fun q_ q_ q_ q_ h => (Bool.false_ne_true h).elim) (fun q_ q_ q_ h => (Bool.false_ne_true h).elim) (fun q_ q_ q_ h => (Bool.false_ne_true h).elim) (fun q_ q_ q_ h => (Bool.false_ne_true h).elim) k (fun q_ q_ q_ q_ q_ h => (Bool.false_ne_true h).elim) (fun q_ q_ q_ q_ q_ h => (Bool.false_ne_true h).elim) (fun q_ q_ q_ h => (Bool.false_ne_true h).elim) (fun q_ q_ h => (Bool.false_ne_true h).elim) (fun q_ q_ q_ q_ h => (Bool.false_ne_true h).elim) (fun q_ q_ h => (Bool.false_ne_true h).elim) (fun q_ q_ h => (Bool.false_ne_true h).elim) (fun q_ q_ h => (Bool.false_ne_true h).elim) (fun q_ h => (Bool.false_ne_true h).elim) (fun q_ h => (Bool.false_ne_true h).elim) (fun q_ h => (Bool.false_ne_true h).elim) h
noncomputable def on1 {α : Type} (l : List α) (f : α → Bool) : Bool := match l with | [a] => f a | _ => false
theorem on1_in {α : Type} {P : List α → Prop} {l : List α} {f : α → Bool} (h : on1 l f = true) (k : ∀ a, f a = true → P [a]) : P l :=
  match l, h with
  | [a], h => k a h
noncomputable def on2 {α : Type} (l : List α) (f : α → α → Bool) : Bool := match l with | [a, b] => f a b | _ => false
theorem on2_in {α : Type} {P : List α → Prop} {l : List α} {f : α → α → Bool} (h : on2 l f = true) (k : ∀ a b, f a b = true → P [a, b]) : P l :=
  match l, h with
  | [a, b], h => k a b h
noncomputable def onCons {α : Type} (l : List α) (f : α → List α → Bool) : Bool := match l with | a :: r => f a r | [] => false
theorem onCons_in {α : Type} {P : List α → Prop} {l : List α} {f : α → List α → Bool} (h : onCons l f = true) (k : ∀ a r, f a r = true → P (a :: r)) : P l :=
  match l, h with
  | a :: r, h => k a r h
noncomputable def onSome {α : Type} (l : Option α) (f : α → Bool) : Bool := match l with | some a => f a | none => false
theorem onSome_in {α : Type} {P : Option α → Prop} {l : Option α} {f : α → Bool} (h : onSome l f = true) (k : ∀ a, f a = true → P (some a)) : P l :=
  match l, h with
  | some a, h => k a h
noncomputable def onNil {α : Type} (l : List α) (b : Bool) : Bool := match l with | [] => b | _ :: _ => false
theorem onNil_in {α : Type} {P : List α → Prop} {l : List α} {b : Bool} (h : onNil l b = true) (k : b = true → P []) : P l :=
  match l, h with
  | [], h => k h
noncomputable def onNone {α : Type} (l : Option α) (b : Bool) : Bool := match l with | none => b | some _ => false
theorem onNone_in {α : Type} {P : Option α → Prop} {l : Option α} {b : Bool} (h : onNone l b = true) (k : b = true → P none) : P l :=
  match l, h with
  | none, h => k h
theorem band {a b : Bool} (h : (a && b) = true) : a = true ∧ b = true := match a, b, h with | true, true, _ => ⟨rfl, rfl⟩
noncomputable def onCall (e : PySem.Expr) (f : PySem.Expr → List PySem.Expr → Pos → Bool) : Bool := onCallK e fun g l ks p => onNil ks (f g l p)
theorem onCall_in {P : PySem.Expr → Prop} {e : PySem.Expr} {f : PySem.Expr → List PySem.Expr → Pos → Bool} (h : onCall e f = true) (k : ∀ g l p, f g l p = true → P (.Call g l [] p)) : P e :=
  onCallK_in h fun g l ks p h => onNil_in (P := fun ks => P (.Call g l ks p)) h (k g l p)
/-- a call of a name -/
noncomputable def onFn (e : PySem.Expr) (f : Str → List PySem.Expr → Bool) : Bool := onCall e fun g l q_ => onName g fun n => f n l
theorem onFn_in {P : PySem.Expr → Prop} {e : PySem.Expr} {f : Str → List PySem.Expr → Bool} (h : onFn e f = true) (k : ∀ n q l p, f n l = true → P (.Call (.Name n q) l [] p)) : P e :=
  onCall_in h fun q_ l p h => onName_in (P := fun g => P (.Call g l [] p)) h fun n q => k n q l p
/-- a call of a method -/
noncomputable def onMeth (m : Str) (e : PySem.Expr) (f : PySem.Expr → List PySem.Expr → Bool) : Bool := onCall e fun g l p => onAttr g fun o n ap => (n == m && (noCall o && ap.endLine == p.line)) && f o l
theorem onMeth_in {P : PySem.Expr → Prop} {m : Str} {e : PySem.Expr} {f : PySem.Expr → List PySem.Expr → Bool} (h : onMeth m e f = true)
    (k : ∀ o ap l p, (noCall o && ap.endLine == p.line) = true → f o l = true → P (.Call (.Attribute o m ap) l [] p)) : P e :=
  onCall_in h fun q_ l p h => onAttr_in (P := fun g => P (.Call g l [] p)) h fun o n ap h => by
    have h1 := band h
    have h2 := band h1.1
    rw [beq_iff_eq.mp h2.1]
    exact k o ap l p h2.2 h1.2
noncomputable def onSlice (e : PySem.Expr) (f : Option PySem.Expr → PySem.Expr → Bool) : Bool := onSliceO e fun a b c => onNone c (onSome b fun b => f a b)
theorem onSlice_in {P : PySem.Expr → Prop} {e : PySem.Expr} {f : Option PySem.Expr → PySem.Expr → Bool} (h : onSlice e f = true) (k : ∀ a b p, f a b = true → P (.Slice a (some b) none p)) : P e :=
  onSliceO_in h fun a b c p h => onNone_in (P := fun c => P (.Slice a b c p)) h fun h => onSome_in (P := fun b => P (.Slice a b none p)) h fun b => k a b p
noncomputable def onAssign (e : PySem.Stmt) (f : PySem.Expr → PySem.Expr → Bool) : Bool := onAssignL e fun ts v => on1 ts fun t => f t v
theorem onAssign_in {P : PySem.Stmt → Prop} {e : PySem.Stmt} {f : PySem.Expr → PySem.Expr → Bool} (h : onAssign e f = true) (k : ∀ t v p, f t v = true → P (.Assign [t] v p)) : P e :=
  onAssignL_in h fun ts v p h => on1_in (P := fun ts => P (.Assign ts v p)) h fun t => k t v p
noncomputable def onFor (e : PySem.Stmt) (f : PySem.Expr → PySem.Expr → List PySem.Stmt → Bool) : Bool := onForO e fun t i b o => onNil o (f t i b)
theorem onFor_in {P : PySem.Stmt → Prop} {e : PySem.Stmt} {f : PySem.Expr → PySem.Expr → List PySem.Stmt → Bool} (h : onFor e f = true) (k : ∀ t i b p, f t i b = true → P (.For t i b [] p)) : P e :=
  onForO_in h fun t i b o p h => onNil_in (P := fun o => P (.For t i b o p)) h (k t i b p)
noncomputable def onWhile (e : PySem.Stmt) (f : PySem.Expr → List PySem.Stmt → Bool) : Bool := onWhileO e fun t b o => onNil o (f t b)
theorem onWhile_in {P : PySem.Stmt → Prop} {e : PySem.Stmt} {f : PySem.Expr → List PySem.Stmt → Bool} (h : onWhile e f = true) (k : ∀ t b p, f t b = true → P (.While t b [] p)) : P e :=
  onWhileO_in h fun t b o p h => onNil_in (P := fun o => P (.While t b o p)) h (k t b p)
noncomputable def onGen (gs : List PySem.Comprehension) (f : Str → PySem.Expr → List PySem.Expr → Bool) : Bool := on1 gs fun g => g.is_async == 0 && onName g.target fun x => f x g.iter g.ifs
theorem onGen_in {P : List PySem.Comprehension → Prop} {gs : List PySem.Comprehension} {f : Str → PySem.Expr → List PySem.Expr → Bool} (h : onGen gs f = true) (k : ∀ x p i l, f x i l = true → P [⟨.Name x p, i, l, 0⟩]) : P gs :=
  on1_in h fun ⟨t, i, l, a⟩ h => by
    have h1 := band h
    have e : a = 0 := beq_iff_eq.mp h1.1
    rw [e]
    exact onName_in (P := fun t => P [⟨t, i, l, 0⟩]) h1.2 fun n p => k n p i l

mutual
noncomputable def mE (M : Mx) : X → PySem.Expr → Bool
  | .bad, _ => false
  | .cint i, e => onConst e fun c => c == .int i
  | .cstr s, e => onConst e fun c => c == .str (strV s)
  | .cbool b, e => onConst e fun c => c == .bool b
  | .cnone, e => onConst e fun c => c == .none
  | .loc i, e => onName e fun n => slotB M i n
  | .glob g, e => onName e fun n => glNames[g]? == some n && globB M n
  | .bin op l r, e => onBin e fun l' o r' => o == opPy op && (mE M l l' && mE M r r')
  | .neg x, e => onUn e fun o x' => o == .USub && mE M x x'
  | .inv x, e => onUn e fun o x' => o == .Invert && mE M x x'
  | .not x, e => onUn e fun o x' => o == .Not && mE M x x'
  | .and_ l, e => onBool e fun o vs => o == .And && mL M l vs
  | .or_ l, e => onBool e fun o vs => o == .Or && mL M l vs
  | .cmp op l r, e => onCmp e fun l' os rs => os == [cmPy op] && on1 rs fun r' => noSet r' && (mE M l l' && mE M r r')
  | .cmp2 op1 op2 x y z, e => onCmp e fun x' os rs => os == [cmPy op1, cmPy op2] && on2 rs fun y' z' => noSet z' && (mE M x x' && (mE M y y' && mE M z z'))
  | .ite t x y, e => onIf e fun t' x' y' => mT M t t' && (mE M x x' && mE M y y')
  | .call f args, e => onFn e fun n args' => (Nat.blt f 43 && (fnNames[f]? == some n && globB M n)) && mL M args args'
  | .new c args, e => onFn e fun n args' => (Nat.blt c 3 && (clsNames[c]? == some n && globB M n)) && mL M args args'
  | .bi b args, e => onFn e fun n args' => (n == biName b && globB M n) && mL M args args'
  | .append o a, e => onMeth "append" e fun o' l => on1 l fun a' => mE M o o' && mE M a a'
  | .join o a, e => onMeth "join" e fun o' l => on1 l fun a' => mE M o o' && mE M a a'
  | .find o a, e => onMeth "find" e fun o' l => on1 l fun a' => mE M o o' && mE M a a'
  | .lower o, e => onMeth "lower" e fun o' l => onNil l (mE M o o')
  | .get o k d, e => onMeth "get" e fun o' l => on2 l fun k' d' => mE M o o' && (mE M k k' && mE M d d')
  | .attr o a, e => onAttr e fun o' n q_ => (attrNames[a]? == some n && noCall o') && mE M o o'
  | .idx o i, e => onSub e fun o' i' => notSliceB i' && (mE M o o' && mE M i i')
  | .slice0 o hi, e => onSub e fun o' i' => onSlice i' fun lo' hi' => onNone lo' (mE M o o' && mE M hi hi')
  | .slice o lo hi, e => onSub e fun o' i' => onSlice i' fun lo' hi' => onSome lo' fun lo' => mE M o o' && (mE M lo lo' && mE M hi hi')
  | .tup l, e => onTup e fun l' => mL M l l' && Nat.ble l.length 1000
  | .list l, e => onList e fun l' => mL M l l' && Nat.ble l.length 1000
  | .dict0, e => onDict e fun ks vs => onNil ks (onNil vs true)
  | .sdict kvs, e => onDict e fun ks vs => mP M kvs ks vs && (!kvs.isEmpty && Nat.ble kvs.length 30)
  | .comp elt slot it ifs caps, e => onComp e fun elt' gs sc => onGen gs fun x it' ifs' =>
    noSet it' && (mE M it it' && (compB M sc x slot caps && (mE ⟨relS sc M.sc, M.nm, slot :: caps⟩ elt elt' && mTs ⟨relS sc M.sc, M.nm, slot :: caps⟩ ifs ifs')))
noncomputable def mL (M : Mx) : List X → List PySem.Expr → Bool
  | [], l => onNil l true
  | x :: r, l => onCons l fun e s => mE M x e && mL M r s
noncomputable def mP (M : Mx) : List X → List (Option PySem.Expr) → List PySem.Expr → Bool
  | [], ks, vs => onNil ks (onNil vs true)
  | [_], _, _ => false
  | x :: y :: r, ks, vs => onCons ks fun k ks => onSome k fun k => onCons vs fun v vs => mE M x k && (mE M y v && mP M r ks vs)
noncomputable def mT (M : Mx) : T → PySem.Expr → Bool
  | .val x, e => plainTest e && mE M x e
  | .not t, e => onUn e fun o x => o == .Not && mT M t x
  | .and_ l, e => onBool e fun o vs => o == .And && mTs M l vs
  | .or_ l, e => onBool e fun o vs => o == .Or && mTs M l vs
  | .cmp op l r, e => onCmp e fun l' os rs => os == [cmPy op] && on1 rs fun r' => noSet r' && (mE M l l' && mE M r r')
  | .cmp2 op1 op2 x y z, e => onCmp e fun x' os rs => os == [cmPy op1, cmPy op2] && on2 rs fun y' z' => noSet z' && (mE M x x' && (mE M y y' && mE M z z'))
noncomputable def mTs (M : Mx) : List T → List PySem.Expr → Bool
  | [], l => onNil l true
  | x :: r, l => onCons l fun e s => mT M x e && mTs M r s
end

/-- a name that is stored -/
noncomputable def storeB (M : Mx) (i : Nat) (n : Str) : Bool := slotB M i n && (M.sc.names.lookup n == some .local || M.sc.names.lookup n == some .cell)
noncomputable def namesB (M : Mx) : List Nat → List PySem.Expr → Bool
  | [], l => onNil l true
  | i :: r, l => onCons l fun e s => onName e fun n => storeB M i n && namesB M r s
noncomputable def noSwapStores (M : Mx) (ts : List PySem.Expr) : PySem.Expr → Bool
  | .Tuple _ _ _ => !(ts.length == 2 || ts.length == 3) || ts.any fun | .Name n _ => !(M.sc.names.lookup n == some .local) | _ => true
  | _ => true
mutual
noncomputable def mS (M : Mx) (rz : Bool) : S → PySem.Stmt → Bool
  | .bad, _ => true
  | .assign i e, st => onAssign st fun t v => onName t fun n => storeB M i n && mE M e v
  | .assignTup is e, st => onAssign st fun t v => onTup t fun ts => (namesB M is ts && (noSwapStores M ts v && noComp v)) && mE M e v
  | .assignAttr o a e, st => onAssign st fun t v => onAttr t fun o' n q_ => (attrNames[a]? == some n && noComp v) && (mE M o o' && mE M e v)
  | .assignIdx o i e, st => onAssign st fun t v => onSub t fun o' i' => (notSliceB i' && noComp v) && (mE M o o' && (mE M i i' && mE M e v))
  | .aug i op e, st => onAug st fun t o v => o == opPy op && onName t fun n => storeB M i n && mE M e v
  | .augAttr o a op e, st => onAug st fun t p v => p == opPy op && onAttr t fun o' n q_ => attrNames[a]? == some n && (mE M o o' && mE M e v)
  | .augIdx o i op e, st => onAug st fun t p v => p == opPy op && onSub t fun o' i' => notSliceB i' && (mE M o o' && (mE M i i' && mE M e v))
  | .ret e, st => onRet st fun v => onSome v fun v => mE M e v
  | .expr e, st => onExpr st fun v => noComp v && mE M e v
  | .if_ t x y, st => onIfS st fun t' x' y' => mT M t t' && (mB M rz x x' && mB M rz y y')
  | .for_ i it body, st => onFor st fun t it' body' => onName t fun n => (storeB M i n && noSet it') && (mE M it it' && mB M false body body')
  | .forTup is it body, st => onFor st fun t it' body' => onTup t fun ts => (namesB M is ts && noSet it') && (mE M it it' && mB M false body body')
  | .while_ t body, st => onWhile st fun t' body' => mT M t t' && mB M false body body'
  | .cont, st => onCont st true
  | .raise_ e, st => onRaise st fun x c => onNone c (onSome x fun x => onFn x fun n l => on1 l fun v => (rz && (n == ("BadBook" : Str) && globB M n)) && mE M e v)
  | .tryRet _ _, _ => false
noncomputable def mB (M : Mx) (rz : Bool) : List S → List PySem.Stmt → Bool
  | [], l => onNil l true
  | s :: r, l => onCons l fun t u => mS M rz s t && mB M rz r u
end
end Mine
end
/-! Snd8 -/
section
set_option Elab.async false
set_option genSizeOf false
set_option linter.all false
set_option maxRecDepth 100000
open PySem PySem.W PyProof.Rows
namespace Mine

/-! frames -/
/-- no object of mine lies here -/
noncomputable def Out (ρ : Rho) (a : Addr) : Prop := ∀ p, p ∈ ρ → p.2 ≠ a
theorem Out.owned {ρ : Rho} {H : Hp} {a : Addr} (x : Out ρ a) : ¬ Owned ρ H a := fun ⟨_, p, _, h1, _, _, h4⟩ => x p (List.mem_of_getElem? h1) h4
theorem Out.step {F : Addr → Prop} {ρ ρ' : Rho} {H H' : Hp} {h h' : Heap} (T : Step F ρ H h ρ' H' h') {a : Addr} {o : Obj} (e : h.get? a = some o) (n : Out ρ a) : Out ρ' a :=
  fun p q z => (T.fresh p q).elim (fun q => n p q z) fun l => by rw [z, e] at l; cases l
structure FrameOk (G : Gx) (env : Env) (ρ : Rho) (h : Heap) : Prop where
  kind : env.scope.kind ≠ .module
  at_ : ∃ L o es n, env.frame = some L ∧ G.base.get? L = none ∧ h.get? L = some o ∧ o.data = .dict es n ∧ Out ρ L

structure Ok (G : Gx) (dd uu : Nat) (A : Around) (ρ : Rho) (h : Heap) : Prop where
  hand : A.handled = none
  dep : A.depth + dd ≤ 900
  uni : A.units + uu ≤ 9000
  stack : ∃ fr, A.frames = some fr ∧ ∀ env ∈ fr, FrameOk G env ρ h


theorem FrameOk.step {G : Gx} {env : Env} {F : Addr → Prop} {ρ ρ' : Rho} {H H' : Hp} {h h' : Heap} (x : FrameOk G env ρ h) (T : Step F ρ H h ρ' H' h') (n : ∀ L, env.frame = some L → ¬ F L) : FrameOk G env ρ' h' where
  kind := x.kind
  at_ := by
    refine byC fun nG => ?_
    obtain ⟨L, o, es, k, h1, h2, h3, h4, h5⟩ := x.at_
    obtain ⟨sl, h6, _⟩ := T.keep L o h3 h5.owned (n L h1)
    refine nG ?_
    exact ⟨L, _, es, k, h1, h2, h6, h4, h5.step T h3⟩
theorem Ok.step {G : Gx} {dd uu : Nat} {A : Around} {ρ ρ' : Rho} {H H' : Hp} {h h' : Heap} (x : Ok G dd uu A ρ h) (T : Step NoF ρ H h ρ' H' h') : Ok G dd uu A ρ' h' where
  hand := x.hand
  dep := x.dep
  uni := x.uni
  stack := let ⟨fr, h1, h2⟩ := x.stack; ⟨fr, h1, fun env he => (h2 env he).step T fun q_ q_ f => f⟩
theorem Ok.less {G : Gx} {dd uu dd' uu' : Nat} {A : Around} {ρ : Rho} {h : Heap} (x : Ok G dd uu A ρ h) (h1 : dd' ≤ dd) (h2 : uu' ≤ uu) : Ok G dd' uu' A ρ h :=
  ⟨x.hand, Nat.le_trans (Nat.add_le_add_left h1 _) x.dep, Nat.le_trans (Nat.add_le_add_left h2 _) x.uni, x.stack⟩

noncomputable def SlotAt (G : Gx) (env : Env) (ρ : Rho) (h : Heap) (m : Str → Option Value) (n : Str) (o : Option (Option V)) : Prop :=
  (env.kindOf n = some .local ∧ ∀ v, o = some (some v) → ∃ x, m n = some x ∧ RepV h ρ v x) ∨
  ((env.kindOf n = some .cell ∨ env.kindOf n = some .free) ∧ ∃ c y, env.cells.lookup n = some c ∧ h.IsCell c y ∧ Out ρ c ∧ c ≠ env.locals ∧ G.base.get? c = none ∧
    ∀ v, o = some (some v) → ∃ x, y = some x ∧ RepV h ρ v x)

structure Fm (G : Gx) (M : Mx) (env : Env) (σ : Lo) (ρ : Rho) (h : Heap) : Prop where
  sc : env.scope = M.sc
  kind : M.sc.kind = .function
  glob : env.globals = mainGlobals
  blt : env.builtins = builtinsNs
  inj : ∀ (i j : Nat) n, i ∈ M.vis → j ∈ M.vis → M.nm[i]? = some n → M.nm[j]? = some n → i = j
  apart : ∀ n n' c, env.cells.lookup n = some c → env.cells.lookup n' = some c → n = n'
  own : Out ρ env.locals
  low : G.base.get? env.locals = none
  slots : ∃ m, h.Ns env.locals m ∧ ∀ (i : Nat) n, i ∈ M.vis → M.nm[i]? = some n → SlotAt G env ρ h m n σ[i]?

theorem isCell_at {h h' : Heap} {c : Addr} {y : Option Value} (x : h.IsCell c y) (e : ∀ o, h.get? c = some o → h'.get? c = some o) : h'.IsCell c y := let ⟨o, ho, hd⟩ := x; ⟨o, e o ho, hd⟩
theorem ns_there {h : Heap} {a : Addr} {m} (x : h.Ns a m) : ∃ o, h.get? a = some o := let ⟨o, _, _, e, _⟩ := x; ⟨o, e⟩
theorem cell_there {h : Heap} {a : Addr} {m} (x : h.IsCell a m) : ∃ o, h.get? a = some o := let ⟨o, e, _⟩ := x; ⟨o, e⟩

theorem SlotAt.step {G : Gx} {env : Env} {ρ ρ' : Rho} {H H' : Hp} {h h' : Heap} {m : Str → Option Value} {n : Str} {o : Option (Option V)} (x : SlotAt G env ρ h m n o) (T : Step NoF ρ H h ρ' H' h') : SlotAt G env ρ' h' m n o := by
  refine byC fun nG => ?_
  rcases x with ⟨k, x⟩ | ⟨k, c, y, h1, h2, h3, h4, h5, x⟩
  · refine nG ?_
    exact .inl ⟨k, fun v e => let ⟨x, a, b⟩ := x v e; ⟨x, a, b.mono T.fix T.pre⟩⟩
  · obtain ⟨oc, hoc⟩ := cell_there h2
    refine nG ?_
    exact .inr ⟨k, c, y, h1, T.keepCell h2 h3.owned id, h3.step T hoc, h4, h5, fun v e => let ⟨x, a, b⟩ := x v e; ⟨x, a, b.mono T.fix T.pre⟩⟩
theorem Fm.step {G : Gx} {M : Mx} {env : Env} {σ : Lo} {ρ ρ' : Rho} {H H' : Hp} {h h' : Heap} (x : Fm G M env σ ρ h) (T : Step NoF ρ H h ρ' H' h') : Fm G M env σ ρ' h' := by
  refine byC fun nG => ?_
  obtain ⟨m, hn, hs⟩ := x.slots
  obtain ⟨oL, hL⟩ := ns_there hn
  refine nG ?_
  exact { x with
    own := x.own.step T hL
    slots := ⟨m, T.keepNs hn x.own.owned id, fun i n hi e => (hs i n hi e).step T⟩ }

/-- an expression's start -/
structure Now (G : Gx) (d : Nat) (M : Mx) (A : Around) (env : Env) (σ : Lo) (ρ : Rho) (H : Hp) (s : Shared) : Prop where
  sta : Sta G ρ H s.heap
  fm : Fm G M env σ ρ s.heap
  ok : Ok G (5 * d + 4) (20 * d + 17) A ρ s.heap
theorem Now.step {G : Gx} {d : Nat} {M : Mx} {A : Around} {env : Env} {σ : Lo} {ρ ρ' : Rho} {H H' : Hp} {s : Shared} {h' : Heap} (N : Now G d M A env σ ρ H s) (S : Sta G ρ' H' h') (T : Step NoF ρ H s.heap ρ' H' h') (tk : Nat) :
    Now G d M A env σ ρ' H' { s with heap := h', toks := tk } := ⟨S, N.fm.step T, N.ok.step T⟩
theorem Now.tok {G : Gx} {d : Nat} {M : Mx} {A : Around} {env : Env} {σ : Lo} {ρ : Rho} {H : Hp} {s : Shared} (N : Now G d M A env σ ρ H s) (tk : Nat) : Now G d M A env σ ρ H { s with toks := tk } := ⟨N.sta, N.fm, N.ok⟩

theorem Gives.on {G : Gx} {ρ ρ1 : Rho} {H H1 : Hp} {s : Shared} {h1 : Heap} {tk : Nat} {r : V × Hp} {Q : Value → Shared → Prop} (g : Gives G ρ H s r Q) (T : Step NoF ρ H s.heap ρ1 H1 h1) : Gives G ρ1 H1 { s with heap := h1, toks := tk } r Q :=
  fun ρ' h' tk x S' T' r' => g ρ' h' tk x S' (T.trans T') r'
theorem Gives.tok {G : Gx} {ρ : Rho} {H : Hp} {s : Shared} {tk : Nat} {r : V × Hp} {Q : Value → Shared → Prop} (g : Gives G ρ H s r Q) : Gives G ρ H { s with toks := tk } r Q := g
noncomputable def GivesL (G : Gx) (ρ : Rho) (H : Hp) (s : Shared) (r : List V × Hp) (Q : List Value → Shared → Prop) : Prop :=
  ∀ ρ' h' tk xs, Sta G ρ' r.2 h' → Step NoF ρ H s.heap ρ' r.2 h' → RepL h' ρ' r.1 xs → Q xs { s with heap := h', toks := tk }
noncomputable def GivesB (G : Gx) (ρ : Rho) (H : Hp) (s : Shared) (r : Bool × Hp) (Q : Bool → Shared → Prop) : Prop :=
  ∀ ρ' h' tk, Sta G ρ' r.2 h' → Step NoF ρ H s.heap ρ' r.2 h' → Q r.1 { s with heap := h', toks := tk }
theorem GivesL.on {G : Gx} {ρ ρ1 : Rho} {H H1 : Hp} {s : Shared} {h1 : Heap} {tk : Nat} {r : List V × Hp} {Q : List Value → Shared → Prop} (g : GivesL G ρ H s r Q) (T : Step NoF ρ H s.heap ρ1 H1 h1) : GivesL G ρ1 H1 { s with heap := h1, toks := tk } r Q :=
  fun ρ' h' tk x S' T' r' => g ρ' h' tk x S' (T.trans T') r'
theorem GivesB.on {G : Gx} {ρ ρ1 : Rho} {H H1 : Hp} {s : Shared} {h1 : Heap} {tk : Nat} {r : Bool × Hp} {Q : Bool → Shared → Prop} (g : GivesB G ρ H s r Q) (T : Step NoF ρ H s.heap ρ1 H1 h1) : GivesB G ρ1 H1 { s with heap := h1, toks := tk } r Q :=
  fun ρ' h' tk S' T' => g ρ' h' tk S' (T.trans T')

/-- the globals, of the written heap -/
structure GeOk (G : Gx) (fa : Nat → Addr) (gl : List V) : Prop where
  nolimit : G.base.NoLimit
  ns : ∃ mg mb, G.base.Ns mainGlobals mg ∧ G.base.Ns builtinsNs mb ∧
    (∀ (f : Nat) n, f < 43 → fnNames[f]? = some n → mg n = some (.ref (fa f)) ∧ keepIn G.K (.ref (fa f)) = true) ∧
    (∀ (c : Nat) n, c < 3 → clsNames[c]? = some n → mg n = some (.ref (G.clsA c))) ∧
    (∀ (g : Nat) n, glNames[g]? = some n → ∀ v, gl[g]? = some v → ∃ x, mg n = some x ∧ RepV G.base [] v x) ∧
    (∀ b : Bi, mg (biName b) = none ∧ mb (biName b) = some (biPy b))

section
variable {G : Gx} {M : Mx} {A : Around} {env : Env} {σ : Lo} {ρ : Rho} {H : Hp} {s : Shared} {Q : Value → Shared → Prop} {E : Value → Shared → Prop} {d : Nat} {fa : Nat → Addr} {gl : List V}

theorem Sta.ns {h : Heap} (S : Sta G ρ H h) {a : Addr} {m} (x : G.base.Ns a m) : h.Ns a m := x.keeps fun b o e => S.base b o e
theorem Fm.knd {h : Heap} (F : Fm G M env σ ρ h) : env.scope.kind = .function := by rw [F.sc]; exact F.kind
theorem Fm.kof {h : Heap} (F : Fm G M env σ ρ h) (n : Str) : env.kindOf n = M.sc.names.lookup n := by unfold Env.kindOf; rw [F.sc]
theorem globB_of {n : Str} (h : globB M n = true) : M.sc.names.lookup n = some .globalImplicit ∧ (n == ("__debug__" : Str)) = false := by
  unfold globB at h
  rw [Bool.and_eq_true, beq_iff_eq, Bool.not_eq_true'] at h
  exact h
theorem name_glob (N : Now G d M A env σ ρ H s) {n : Str} {pos : Pos} {mg : Str → Option Value} {x : Value} (hb : globB M n = true) (hg : G.base.Ns mainGlobals mg) (hx : mg n = some x) (q : Q x s) : wpAny (model G.prog G.w) A (eval (.Name n pos) env) Q E s := by
  obtain ⟨h1, h2⟩ := globB_of hb
  refine Calls.Name_function_global N.fm.knd (by rw [N.fm.kof]; exact h1) (Calls.loadGlobal_global (mg := mg) ?_ hx q) h2
  rw [N.fm.glob]; exact N.sta.ns hg
theorem name_blt (N : Now G d M A env σ ρ H s) {n : Str} {pos : Pos} {mg mb : Str → Option Value} {x : Value} (hb : globB M n = true) (hg : G.base.Ns mainGlobals mg) (hm : G.base.Ns builtinsNs mb) (h0 : mg n = none) (hx : mb n = some x) (q : Q x s) : wpAny (model G.prog G.w) A (eval (.Name n pos) env) Q E s := by
  obtain ⟨h1, h2⟩ := globB_of hb
  refine Calls.Name_function_global N.fm.knd (by rw [N.fm.kof]; exact h1) (Calls.loadGlobal_builtin (mg := mg) (mb := mb) ?_ h0 ?_ hx q) h2
  · rw [N.fm.glob]; exact N.sta.ns hg
  · rw [N.fm.blt]; exact N.sta.ns hm
theorem slotB_of {i : Nat} {n : Str} (h : slotB M i n = true) : i ∈ M.vis ∧ M.nm[i]? = some n ∧ (n == ("__debug__" : Str)) = false ∧ (n == ("__classdict__" : Str)) = false := by
  unfold slotB at h
  simp only [Bool.and_eq_true, beq_iff_eq, Bool.not_eq_true', List.contains_iff_mem] at h
  exact ⟨h.1.1.1, h.1.1.2, h.1.2, h.2⟩
theorem load_loc (F : Fm G M env σ ρ s.heap) {i : Nat} {n : Str} {v : V} (hb : slotB M i n = true) (hv : σ[i]? = some (some v)) (q : ∀ x, RepV s.heap ρ v x → Q x s) : wpAny (model G.prog G.w) A (loadName env n) Q E s := by
  refine byC fun nG => ?_
  obtain ⟨h1, h2, h3, h4⟩ := slotB_of hb
  obtain ⟨m, hn, hs⟩ := F.slots
  rcases hs i n h1 h2 with ⟨k, x⟩ | ⟨k, c, y, c1, c2, c3, c4, c5, x⟩
  · obtain ⟨x, hx, hr⟩ := x v hv
    refine nG ?_
    exact wpAny_loadName_local F.knd k hn hx (q x hr)
  · obtain ⟨z, rfl, hr⟩ := x v hv
    rcases k with k | k
    · refine nG ?_
      exact wpAny_loadName_cell F.knd k c1 c2 (q z hr)
    · refine nG ?_
      exact wpAny_loadName_free F.knd k c1 c2 (q z hr) h4
theorem name_loc (N : Now G d M A env σ ρ H s) {i : Nat} {n : Str} {pos : Pos} {v : V} (hb : slotB M i n = true) (hv : σ[i]? = some (some v)) (q : ∀ x, RepV s.heap ρ v x → Q x s) : wpAny (model G.prog G.w) A (eval (.Name n pos) env) Q E s :=
  wpAny_Name (load_loc N.fm hb hv q) (slotB_of hb).2.2.1

/-- the addresses that a frame's stores may change -/
noncomputable def FA (env : Env) (a : Addr) : Prop := a = env.locals ∨ ∃ n, env.cells.lookup n = some a
theorem storeB_of {i : Nat} {n : Str} (h : storeB M i n = true) : slotB M i n = true ∧ (M.sc.names.lookup n = some .local ∨ M.sc.names.lookup n = some .cell) := by
  unfold storeB at h
  simpa only [Bool.and_eq_true, Bool.or_eq_true, beq_iff_eq] using h

theorem step_same {F : Addr → Prop} {h' : Heap} {a : Addr} {o o' : Obj} (S : Sta G ρ H s.heap) (hs : Heap.SameBut a s.heap h') (nb : G.base.get? a = none) (no : Out ρ a) (fa : F a) (ho : s.heap.get? a = some o) (ho' : h'.get? a = some o') (nf : ¬ Fix o) : Sta G ρ H h' ∧ Step F ρ H s.heap ρ H h' := by
  have kf : KeepFix s.heap h' := fun b q e f => by
    refine byC fun nG => ?_
    by_cases hb : b = a
    · subst hb; rw [ho] at e; cases e; exact absurd f nf
    · refine nG ?_; rw [hs.2 b hb]; exact e
  refine ⟨⟨S.len, fun k p q e1 e2 => ?_, S.inj, fun b q e => ?_, S.low⟩, ⟨.refl _, kf, fun b q e q_ f => ?_, fun b q => .inl q, fun b q e => ?_, fun q_ e => .inl e, fun q_ o e => ⟨o, e, rfl⟩⟩⟩
  · have R := S.rep k p q e1 e2
    have hz := no p (List.mem_of_getElem? e1)
    refine R.keep kf (.refl _) (fun x ex => ?_) (fun x ex => (hs.2 _ hz).trans ex)
    refine byC fun nG => ?_
    rcases R.first with z | ⟨x', hx', fx⟩
    · refine nG ?_; rw [z] at ex ⊢; exact (hs.2 _ hz).trans ex
    · rw [hx'] at ex; cases ex; refine nG ?_; exact kf _ _ hx' fx
  · rw [hs.2 b]
    · exact S.base b q e
    · rintro rfl; rw [nb] at e; cases e
  · refine Same.of ?_
    rw [hs.2 b]
    · exact e
    · rintro rfl; exact f fa
  · refine byC fun nG => ?_
    by_cases hb : b = a
    · subst hb; refine nG ?_; exact ⟨o', ho'⟩
    · refine nG ?_
      exact ⟨q, by rw [hs.2 b hb]; exact e⟩

theorem not_fix_dict {o : Obj} {m} {h : Heap} {a : Addr} (ho : h.get? a = some o) (x : h.Ns a m) : ¬ Fix o := by
  refine byC fun nG => ?_
  obtain ⟨o', es, ep, e1, e2, _⟩ := x
  rw [ho] at e1; cases e1
  refine nG ?_
  exact fun f => f.2.1 _ _ e2
theorem not_fix_cell {o : Obj} {m} {h : Heap} {a : Addr} (ho : h.get? a = some o) (x : h.IsCell a m) : ¬ Fix o := by
  refine byC fun nG => ?_
  obtain ⟨o', e1, e2⟩ := x
  rw [ho] at e1; cases e1
  refine nG ?_
  exact fun f => f.2.2 _ e2

/-- a name is stored -/
theorem store_loc {Q : Unit → Shared → Prop} (S : Sta G ρ H s.heap) (F : Fm G M env σ ρ s.heap) {i : Nat} {n : Str} {v : V} {x : Value} (hb : storeB M i n = true) (r : RepV s.heap ρ v x)
    (q : ∀ h' tk, Sta G ρ H h' → Step (FA env) ρ H s.heap ρ H h' → Fm G M env (σ.set i (some v)) ρ h' → Q () { s with heap := h', toks := tk }) : wpAny (model G.prog G.w) A (storeName env n x) Q E s := by
  obtain ⟨hs, hk⟩ := storeB_of hb
  obtain ⟨h1, h2, h3, h4⟩ := slotB_of hs
  obtain ⟨m, hn, sl⟩ := F.slots
  have getSet : ∀ (j : Nat) (w : V), (σ.set i (some v))[j]? = some (some w) → (j = i ∧ w = v) ∨ σ[j]? = some (some w) := by
    intro j w e
    by_cases hj : i = j
    · subst hj
      rw [List.getElem?_set] at e
      simp only [if_true] at e
      split at e
      · cases e; exact .inl ⟨rfl, rfl⟩
      · cases e
    · rw [List.getElem?_set_ne hj] at e; exact .inr e
  have other : ∀ j n', j ∈ M.vis → M.nm[j]? = some n' → n' ≠ n → ∀ w, (σ.set i (some v))[j]? = some (some w) → σ[j]? = some (some w) := by
    intro j n' hj e ne w ew
    rcases getSet j w ew with ⟨rfl, _⟩ | e'
    · rw [h2] at e; cases e; exact absurd rfl ne
    · exact e'
  rcases sl i n h1 h2 with ⟨k, _⟩ | ⟨k, c, y, c1, c2, c3, c4, c5, _⟩
  · obtain ⟨oL, hL⟩ := ns_there hn
    refine wpAny_storeName_local (m := m) k hn (fun h' hn' hs' => ?_) (by rw [F.knd]; rfl)
    obtain ⟨oL', hL'⟩ := ns_there hn'
    obtain ⟨S', T'⟩ := step_same (F := FA env) S hs' F.low F.own (.inl rfl) hL hL' (not_fix_dict hL hn)
    refine q h' _ S' T' { F with slots := ⟨_, hn', fun j n' hj e => ?_⟩ }
    by_cases hnn : n' = n
    · subst hnn
      refine .inl ⟨k, fun w ew => ⟨x, by simp, ?_⟩⟩
      have := F.inj j i n' hj h1 e h2
      subst this
      rcases getSet j w ew with ⟨_, rfl⟩ | e'
      · exact r.mono T'.fix T'.pre
      · rw [List.getElem?_set] at ew
        simp only [if_true] at ew
        split at ew
        · cases ew; exact r.mono T'.fix T'.pre
        · cases ew
    · have ot := other j n' hj e hnn
      rcases sl j n' hj e with ⟨k', z⟩ | ⟨k', c, y, c1, c2, c3, c4, c5, z⟩
      · exact .inl ⟨k', fun w ew => let ⟨x', a, b⟩ := z w (ot w ew); ⟨x', by simp [hnn, a], b.mono T'.fix T'.pre⟩⟩
      · exact .inr ⟨k', c, y, c1, c2.sameBut hs' c4, c3, c4, c5, fun w ew => let ⟨x', a, b⟩ := z w (ot w ew); ⟨x', a, b.mono T'.fix T'.pre⟩⟩
  · have k2 : env.kindOf n = some .cell := by
      rcases k with k | k
      · exact k
      · rw [F.kof] at k
        rcases hk with hk | hk <;> rw [k] at hk <;> cases hk
    obtain ⟨oc, hoc⟩ := cell_there c2
    refine wpAny_storeName_cell F.knd k2 c1 c2 fun h' hc' hs' => ?_
    obtain ⟨oc', hoc'⟩ := cell_there hc'
    obtain ⟨S', T'⟩ := step_same (F := FA env) S hs' c5 c3 (.inr ⟨n, c1⟩) hoc hoc' (not_fix_cell hoc c2)
    refine q h' s.toks S' T' { F with slots := ⟨m, hn.sameBut hs' (Ne.symm c4), fun j n' hj e => ?_⟩ }
    by_cases hnn : n' = n
    · subst hnn
      refine .inr ⟨.inl k2, c, some x, c1, hc', c3, c4, c5, fun w ew => ⟨x, rfl, ?_⟩⟩
      have := F.inj j i n' hj h1 e h2
      subst this
      rw [List.getElem?_set] at ew
      simp only [if_true] at ew
      split at ew
      · cases ew; exact r.mono T'.fix T'.pre
      · cases ew
    · have ot := other j n' hj e hnn
      rcases sl j n' hj e with ⟨k', z⟩ | ⟨k', c', y', d1, d2, d3, d4, d5, z⟩
      · exact .inl ⟨k', fun w ew => let ⟨x', a, b⟩ := z w (ot w ew); ⟨x', a, b.mono T'.fix T'.pre⟩⟩
      · have hcc : c' ≠ c := fun z => hnn (F.apart n' n c (z ▸ d1) c1)
        exact .inr ⟨k', c', y', d1, d2.sameBut hs' hcc, d3, d4, d5, fun w ew => let ⟨x', a, b⟩ := z w (ot w ew); ⟨x', a, b.mono T'.fix T'.pre⟩⟩
end
end Mine
end
/-! Snd9 -/
section
set_option Elab.async false
set_option genSizeOf false
set_option linter.all false
set_option maxRecDepth 100000
open PySem PySem.W PyProof.Rows
namespace Mine

/-! iteration -/
/-- an object that the loop may change: no tuple, no dict -/
noncomputable def Nf (h : Heap) (I : Addr) : Prop := ∃ ob, h.get? I = some ob ∧ ¬ Fix ob ∧ ob.cls ≠ .type "tuple" ∧ ∀ es n, ob.data ≠ .dict es n
noncomputable def KIt (h : Heap) (ρ : Rho) (H : Hp) (I : Addr) (n : Nat) (k : Nat) : Prop := ∃ a o, ρ[k]? = some (a, a) ∧ H[k]? = some o ∧ ((o.tag = 0 ∧ h.IsListIter I a n) ∨ (o.tag = 2 ∧ ∃ od es ep, h.get? a = some od ∧ od.data = .dict es ep ∧ h.IsKeyIter I a n es.size ep ∧ ¬ Owned ρ H a))
noncomputable def It (h : Heap) (ρ : Rho) (H : Hp) (o : V) (I : Addr) (n : Nat) : Prop := Out ρ I ∧ Nf h I ∧ onV o False (fun q_ => False) (fun q_ => False)
  (fun s => ascii s = true ∧ ∃ t, h.IsStrIter I "str_ascii_iterator" (strV s) t n)
  (fun l => ∃ a xs, h.IsTupleIter I a n ∧ h.IsTuple a xs.toArray ∧ RepL h ρ l xs)
  (fun a c m => n ≤ m ∧ IsRangeIter h I (a + (n : Int) * c) ((m : Int) - (n : Int)) c)
  fun k => KIt h ρ H I n k

theorem It.step {F : Addr → Prop} {ρ ρ' : Rho} {H H' : Hp} {h h' : Heap} {o : V} {I : Addr} {n : Nat} (x : It h ρ H o I n) (T : Step F ρ H h ρ' H' h') (nI : ¬ F I) (nF : ∀ p, p ∈ ρ → ¬ F p.2) : It h' ρ' H' o I n := by
  refine byC fun nG => ?_
  obtain ⟨ho, ⟨ob, hob, nf⟩, x⟩ := x
  have keepI : ∀ q, h.get? I = some q → h'.get? I = some q := fun q e => T.keepX e ho.owned nI (by rw [hob] at e; cases e; exact nf.2.2)
  refine nG ⟨ho.step T hob, ⟨ob, keepI ob hob, nf⟩, byC fun nG => ?_⟩
  clear hob nf
  cases o with
  | tup l =>
    obtain ⟨a, xs, h1, ⟨oo, e1, e2, k, e3⟩, h3⟩ := x
    exact nG ⟨a, xs, h1.at keepI, ⟨oo, T.fix a oo e1 ⟨.inl e2, by rw [e3]; exact ⟨(fun q_ q_ z => nomatch z), fun q_ z => nomatch z⟩⟩, e2, k, e3⟩, h3.mono T.fix T.pre⟩
  | rng a c m => exact nG ⟨x.1, keepI _ x.2⟩
  | str s =>
    obtain ⟨h0, t, oo, h1, h2⟩ := x
    exact nG ⟨h0, t, oo, keepI _ h1, h2⟩
  | obj k =>
    obtain ⟨a, o, h1, h2, h3⟩ := x
    obtain ⟨o', h2', tg⟩ := T.kin k o h2
    refine nG ⟨a, o', T.pre.get h1, h2', byC fun nG => ?_⟩
    rcases h3 with ⟨t0, h3⟩ | ⟨t2, od, es, ep, d1, d2, ⟨oo, d3, d4⟩, d5⟩
    · exact nG (.inl ⟨tg.trans t0, h3.at keepI⟩)
    · obtain ⟨sl, h6, _⟩ := T.keep a od d1 d5 (nF (a, a) (List.mem_of_getElem? h1))
      refine nG (.inr ⟨tg.trans t2, _, es, ep, h6, d2, ⟨oo, keepI _ d3, d4⟩, fun q => ?_⟩)
      rcases T.new a q with q | q
      · exact d5 q
      · rw [d1] at q; exact nope q.symm
  | _ => exact x

theorem tail_keep {h1 h2 : Heap} {I : Addr} (x : Heap.ExtBut I h1 h2) (nf : ∀ o, h1.get? I = some o → ¬ Fix o) : KeepFix h1 h2 := fun a o e f => by
  refine byC fun nG => ?_
  by_cases hb : a = I
  · subst hb; exact absurd f (nf o e)
  · refine nG ?_
    exact x a o hb e
theorem tail_sta {G : Gx} {ρ : Rho} {H : Hp} {h1 h2 : Heap} {I : Addr} (S : Sta G ρ H h1) (x : Heap.ExtBut I h1 h2) (out : Out ρ I) (nf : ∀ o, h1.get? I = some o → ¬ Fix o) (nb : G.base.get? I = none) : Sta G ρ H h2 where
  len := S.len
  rep := fun k p q e1 e2 => by
    have R := S.rep k p q e1 e2
    have hz := out p (List.mem_of_getElem? e1)
    refine R.keep (tail_keep x nf) (.refl _) (fun y ey => ?_) (fun y ey => x _ _ hz ey)
    refine byC fun nG => ?_
    rcases R.first with z | ⟨x', hx', fx⟩
    · refine nG ?_; rw [z] at ey ⊢; exact x _ _ hz ey
    · rw [hx'] at ey; cases ey; refine nG ?_; exact tail_keep x nf _ _ hx' fx
  inj := S.inj
  base := fun b q e => x b q (by rintro rfl; rw [nb] at e; cases e) (S.base b q e)
  low := S.low
theorem Step.tail {F : Addr → Prop} {ρ ρ' : Rho} {H H' : Hp} {h0 h1 h2 : Heap} {I : Addr} (T : Step F ρ H h0 ρ' H' h1) (x : Heap.ExtBut I h1 h2) (nI : h0.get? I = none) : Step F ρ H h0 ρ' H' h2 := by
  have ne : ∀ b o, h0.get? b = some o → b ≠ I := fun b o e z => by rw [z, nI] at e; cases e
  exact ⟨T.pre, fun a o e f => x a o (ne a o e) (T.fix a o e f), fun b o e n f => let ⟨sl, e1, e2⟩ := T.keep b o e n f; ⟨sl, x b _ (ne b o e) e1, e2⟩, T.new, fun b o e => let ⟨o', e'⟩ := T.live b o e; ⟨o', x b o' (ne b o e) e'⟩, T.fresh, T.kin⟩

section
variable {G : Gx} {A : Around} {E : Value → Shared → Prop} {s : Shared} {ρ : Rho} {H : Hp}

theorem out_top (S : Sta G ρ H s.heap) : Out ρ s.heap.objs.size := fun p hp z => by
  obtain ⟨k, hk⟩ := List.getElem?_of_mem hp
  exact S.there hk (by rw [z]; exact top_none _)
theorem strV_cps (l : List Nat) (i : Nat) : (strV l).cps[i]? = l[i]? := by simp [strV]
theorem ascii_cps {l : List Nat} (h : ascii l = true) : (strV l).cps.all (· < 128) = true := by
  unfold ascii at h
  simp only [strV, List.all_eq_true] at h ⊢
  rw [← Array.all_toList, List.all_eq_true]
  intro c hc
  simpa [Nat.blt_eq] using h c hc

theorem freeze_in {P : Prop} {o : V} {H H₀ : Hp} (h : freeze o H = some H₀) (t : ∀ l, o = .tup l → H₀ = H → P) (r : ∀ a c m, o = .rng a c m → H₀ = H → P) (s : ∀ s, o = .str s → ascii s = true → H₀ = H → P)
    (l : ∀ k l, o = .obj k → H[k]? = some (.list l) → H₀ = H → P) (d : ∀ k es, o = .obj k → H[k]? = some (.dict es) → H₀ = H.set k (.fdict es) → P) : P := by
  cases o with
  | tup x => exact grd_in h fun q_ h => t x rfl (Option.some.inj h).symm
  | rng a c m => exact grd_in h fun q_ h => r a c m rfl (Option.some.inj h).symm
  | str x => exact grd_in h fun f h => s x rfl (Bool.and_eq_true_iff.mp f).1 (Option.some.inj h).symm
  | obj k => exact onO_in h (fun x e h => l k x rfl e (Option.some.inj h).symm) (fun q_ q_ h => nope h) (fun x e h => grd_in h fun q_ h => d k x rfl e (Option.some.inj h).symm) (fun q_ q_ h => nope h) (fun q_ q_ h => nope h) fun q_ q_ q_ h => nope h
  | _ => exact nope h
theorem nextV_in {P : Prop} {o : V} {H : Hp} {n : Nat} {v : Option V} (h : nextV o H n = some v) (t : ∀ l, o = .tup l → l[n]? = v → P) (r : ∀ a c m, o = .rng a c m → grd (Nat.blt n m) (some (.int (a + (n : Int) * c))) = v → P)
    (s : ∀ s, o = .str s → ((s[n]?).bind fun c => some (.str [c])) = v → P) (l : ∀ k l, o = .obj k → H[k]? = some (.list l) → l[n]? = v → P)
    (d : ∀ k es, o = .obj k → H[k]? = some (.fdict es) → ((es[n]?).bind fun e => some (.int e.1)) = v → P) : P := by
  cases o with
  | tup x => exact t x rfl (Option.some.inj h)
  | rng a c m => exact r a c m rfl (Option.some.inj h)
  | str x => exact grd_in h fun q_ h => s x rfl (Option.some.inj h)
  | obj k => exact onO_in h (fun x e h => l k x rfl e (Option.some.inj h)) (fun q_ q_ h => nope h) (fun q_ q_ h => nope h) (fun x e h => d k x rfl e (Option.some.inj h)) (fun q_ q_ h => nope h) fun q_ q_ q_ h => nope h
  | _ => exact nope h

/-- the object after freezing -/
theorem freeze_step {o : V} {H₀ : Hp} (h : freeze o H = some H₀) (S : Sta G ρ H s.heap) {h' : Heap} (k : ∀ b q, s.heap.get? b = some q → h'.get? b = some q) : Sta G ρ H₀ h' ∧ Step NoF ρ H s.heap ρ H₀ h' := by
  have same : H₀ = H → Sta G ρ H₀ h' ∧ Step NoF ρ H s.heap ρ H₀ h' := fun e => by rw [e]; exact ⟨S.ext k, .ext k⟩
  refine freeze_in h (fun q_ q_ => same) (fun q_ q_ q_ q_ => same) (fun q_ q_ q_ => same) (fun q_ q_ q_ q_ => same) fun kk es q_ e eH => ?_
  clear h same
  subst eH
  obtain ⟨S', ow⟩ := (S.ext k).freeze e
  refine ⟨S', .refl _, fun a o e q_ => k a o e, fun b o e q_ q_ => .of (k b o e), fun a q => .inl (ow a q), fun b o e => ⟨o, k b o e⟩, fun q_ e => .inl e, fun j q ej => ?_⟩
  by_cases hj : kk = j
  · subst hj; rw [e] at ej; cases ej; exact ⟨_, List.getElem?_set_self (List.getElem?_eq_some_iff.mp e).1, rfl⟩
  · exact ⟨q, by rw [List.getElem?_set_ne hj]; exact ej, rfl⟩

theorem new_nf {h : Heap} {cls : String} {vs : Array Value} (h1 : cls ≠ "tuple") (h2 : cls ≠ "range") : Nf (h.push { cls := .type cls, data := .fields vs }) h.objs.size :=
  ⟨_, Heap.get?_push_size _ rfl, (fun f => by
      rcases f.1 with f | f | f
      · exact h1 (by simpa using f)
      · exact h2 (by simpa using f)
      · cases f), by simpa using h1, fun q_ q_ z => nomatch z⟩
theorem it_nf {h : Heap} {I : Addr} {cls : String} {ob : Obj} {vs : Array Value} (h1 : cls ≠ "tuple") (h2 : cls ≠ "range") (e1 : h.get? I = some ob) (e2 : ob.cls = .type cls) (e3 : ob.data = .fields vs) : Nf h I := by
  refine ⟨ob, e1, fun f => ?_, by rw [e2]; simpa using h1, by rw [e3]; exact fun q_ q_ z => nomatch z⟩
  rcases f.1 with f | f | f
  · rw [e2] at f; exact h1 (by simpa using f)
  · rw [e2] at f; exact h2 (by simpa using f)
  · rw [e3] at f; cases f
theorem iter_new {o : V} {H₀ : Hp} {x : Value} {Q : Value → Shared → Prop} (h : freeze o H = some H₀) (S : Sta G ρ H s.heap) (ro : RepV s.heap ρ o x)
    (q : ∀ I h', s.heap.get? I = none → (∀ b q, s.heap.get? b = some q → h'.get? b = some q) → It h' ρ H₀ o I 0 → Q (.ref I) { s with heap := h' }) : wpAny (model G.prog G.w) A (pyIter x) Q E s := by
  have ot := out_top S
  refine byC fun nG => freeze_in h (fun l eo eH => ?_) (fun a c m eo eH => ?_) (fun t eo f eH => ?_) (fun k l eo e eH => ?_) fun k es eo e eH => ?_
  · clear h; subst eo eH
    obtain ⟨a, xs, rfl, ht, hl⟩ := ro
    exact nG (wpAny_pyIter_tuple ht (q _ _ (top_none _) (push_keep _ _) ⟨ot, new_nf (by decide) (by decide), a, xs, ⟨_, Heap.get?_push_size _ rfl, rfl, rfl⟩, ht.push _, hl.mono (fun a o e q_ => push_keep _ _ a o e) (.refl _)⟩))
  · clear h; subst eo eH
    obtain ⟨r, b, t, u, v, rfl, hr, hs, hn⟩ := ro
    refine nG (wpAny_pyIter_range hr hs (q _ _ (top_none _) (push_keep _ _) ⟨ot, new_nf (by decide) (by decide), Nat.zero_le _, ?_⟩))
    rw [hn]
    show (s.heap.push _).get? s.heap.objs.size = _
    rw [Heap.get?_push_size _ rfl]
    simp
  · clear h; subst eo eH
    obtain ⟨t', rfl⟩ := ro
    exact nG (wpAny_pyIter_ascii (ascii_cps f) (q _ _ (top_none _) (push_keep _ _) ⟨ot, new_nf (by decide) (by decide), f, t', _, Heap.get?_push_size _ rfl, rfl, rfl⟩))
  · clear h; subst eo eH
    obtain ⟨a, xs, rfl, hk, hl, hr⟩ := S.list ro e
    exact nG (wpAny_pyIter_list hl.isList (q _ _ (top_none _) (push_keep _ _) ⟨ot, new_nf (by decide) (by decide), a, _, hk, e, .inl ⟨rfl, _, Heap.get?_push_size _ rfl, rfl, rfl⟩⟩))
  · clear h; subst eo eH
    obtain ⟨a, kvs, rfl, hk, hm, hd, hr⟩ := S.dict ro (.inl e)
    obtain ⟨od, es', ep, d1, d2, d3, d4, d5, d6⟩ := id hd
    have hlen := List.getElem?_eq_some_iff.mp e |>.1
    refine nG (wpAny_pyIter_dict (ep := ep) hm ⟨od, es', d1, d2, d3, d4, d5, d6⟩ (q _ _ (top_none _) (push_keep _ _) ⟨ot, new_nf (by decide) (by decide), a, _, hk, List.getElem?_set_self hlen, .inr ⟨rfl, od, es', ep, push_keep _ _ _ _ d1, d3, ⟨_, Heap.get?_push_size _ rfl, rfl, ?_⟩, ?_⟩⟩))
    · rw [← d5.length]; simp
    · rintro ⟨j, p, r, h1, h2, h3, h4⟩
      have := S.inj k j _ _ hk h1 h4.symm
      subst this
      rw [List.getElem?_set_self hlen] at h2
      cases h2; cases h3

theorem nth_key {h : Heap} : ∀ {es : List (Int × V)} {kvs : List (Int × Value)} (n : Nat), RepI h ρ es kvs → (kvs[n]?).map (·.1) = (es[n]?).map (·.1)
  | [], _, _, r => by cases r; rfl
  | (j, w) :: es, _, 0, r => by obtain ⟨x, t, rfl, _, r2⟩ := r; rfl
  | (j, w) :: es, _, n + 1, r => by obtain ⟨x, t, rfl, _, r2⟩ := r; simpa using nth_key n r2
theorem iter_next {o : V} {I : Addr} {n : Nat} {r : Option V} {Q : Option Value → Shared → Prop} (h : nextV o H n = some r) (S : Sta G ρ H s.heap) (x : It s.heap ρ H o I n) (hh : A.handled = none)
    (qi : ∀ v, r = some v → ∀ h' tk y, Heap.ExtBut I s.heap h' → It h' ρ H o I (n + 1) → RepV h' ρ v y → Q (some y) { s with heap := h', toks := tk })
    (qe : r = none → ∀ h', Heap.ExtBut I s.heap h' → Q none { s with heap := h' }) : wpAny (model G.prog G.w) A (pyNext (.ref I)) Q E s := by
  refine byC fun nG => ?_
  obtain ⟨ho, ⟨ob, hob, nf, nt, _⟩, x⟩ := x
  have nf' : ∀ o, s.heap.get? I = some o → ¬ Fix o := fun o e => by rw [hob] at e; cases e; exact nf
  clear nf
  refine nextV_in h (fun l eo er => ?_) (fun a c m eo er => ?_) (fun t eo er => ?_) (fun k l eo e er => ?_) fun k es eo e er => ?_
  · clear h; subst eo er
    obtain ⟨a, xs, h1, h2, h3⟩ := x
    have ha : a ≠ I := by
      rintro rfl
      obtain ⟨o2, e1, e2, _⟩ := h2
      rw [hob] at e1; cases e1; exact nt e2
    clear hob nt
    cases e : l[n]? with
    | none => exact nG (wpAny_pyNext_tuple_end hh h1 h2 (by simpa using h3.none e) fun h' he => qe e h' he)
    | some v =>
      obtain ⟨y, hy, ry⟩ := h3.get e
      refine nG (wpAny_pyNext_tuple_item h1 h2 (by simpa using hy) fun h' hit hs => ?_)
      have kf := tail_keep hs.extBut nf'
      exact qi v e h' s.toks y hs.extBut ⟨ho, let ⟨_, a, b, c⟩ := hit; it_nf (by decide) (by decide) a b c, a, xs, hit, h2.extBut hs.extBut ha, h3.mono kf (.refl _)⟩ (ry.mono kf (.refl _))
  · clear h hob nt; subst eo er
    obtain ⟨h1, h2⟩ := x
    cases hb : Nat.blt n m with
    | true =>
      have hlt : n < m := Nat.le_of_ble_eq_true hb
      refine nG (wpAny_pyNext_range_item h2 (Int.sub_pos.mpr (Int.ofNat_lt.mpr hlt)) fun h' hit hs => ?_)
      rw [hb] at qi
      refine qi _ rfl h' _ _ hs.extBut ⟨ho, it_nf (by decide) (by decide) hit rfl rfl, hlt, ?_⟩ ⟨_, rfl⟩
      have e1 : a + (n : Int) * c + c = a + ((n + 1 : Nat) : Int) * c := by rw [Int.natCast_add, Int.add_mul, Int.natCast_one, Int.one_mul, Int.add_assoc]
      have e2 : ((m : Int) - (n : Int)) - 1 = (m : Int) - ((n + 1 : Nat) : Int) := by omega
      rw [e1, e2] at hit
      exact hit
    | false =>
      have hle : m ≤ n := Nat.le_of_not_lt fun q => by rw [Nat.blt_eq.mpr q] at hb; cases hb
      rw [hb] at qe
      exact nG (wpAny_pyNext_range_end hh h2 (by omega) fun h' he => qe rfl h' he)
  · clear h hob nt; subst eo er
    obtain ⟨h0, t', h1⟩ := x
    cases e : t[n]? with
    | none => exact nG (wpAny_pyNext_ascii_end hh h1 (by rw [strV_cps]; exact e) fun h' he => qe (by rw [e]; rfl) h' he)
    | some v =>
      refine nG (wpAny_pyNext_ascii_item h1 (c := v) (by rw [strV_cps]; exact e) fun h' hit hs => ?_)
      exact qi (.str [v]) (by rw [e]; rfl) h' _ _ hs.extBut ⟨ho, let ⟨_, a, b, c⟩ := hit; it_nf (by decide) (by decide) a b c, h0, t', hit⟩ ⟨_, rfl⟩
  · clear h hob nt; subst eo er
    obtain ⟨a, oo, hk, hok, x⟩ := x
    rw [e] at hok; cases hok
    rcases x with ⟨_, hit⟩ | ⟨tg, _⟩
    · obtain ⟨_, xs, hl, hr⟩ := S.rep k _ _ hk e
      have ha : a ≠ I := ho _ (List.mem_of_getElem? hk)
      cases el : l[n]? with
      | none => exact nG (wpAny_pyNext_list_end hh hit hl.isList (by simpa using hr.none el) fun h' he => qe el h' he)
      | some v =>
        obtain ⟨y, hy, ry⟩ := hr.get el
        refine nG (wpAny_pyNext_list_item hit hl.isList (by simpa using hy) fun h' hit' hs => ?_)
        exact qi v el h' s.toks y hs.extBut ⟨ho, let ⟨_, a, b, c⟩ := hit'; it_nf (by decide) (by decide) a b c, a, _, hk, e, .inl ⟨rfl, hit'⟩⟩ (ry.mono (tail_keep hs.extBut nf') (.refl _))
    · cases tg
  · clear h hob nt; subst eo er
    obtain ⟨a, oo, hk, hok, x⟩ := x
    rw [e] at hok; cases hok
    rcases x with ⟨tg, _⟩ | ⟨_, od, des, ep, d1, d2, hit, d5⟩
    · cases tg
    · obtain ⟨_, _, kvs, hd, hr⟩ := S.rep k _ _ hk e
      obtain ⟨od', es', ep', f1, f2, f3, f4, f5, f6⟩ := id hd
      have f1' : s.heap.get? a = some od' := f1
      rw [d1] at f1'; cases f1'
      rw [d2] at f3; cases f3
      have hsz : des.size = kvs.length := by rw [← f5.length]; simp
      rw [hsz] at hit
      have ha : a ≠ I := ho _ (List.mem_of_getElem? hk)
      have D : s.heap.DictAt (intKind G.prog G.w) a kvs ep := ⟨od, des, d1, f2, d2, f4, f5, f6⟩
      have nn := nth_key n hr
      clear hd hr f1 f2 f4 f5 f6
      cases el : es[n]? with
      | none =>
        rw [el] at nn
        exact nG (wpAny_pyNext_dict_end hh hit D (by simpa using nn) fun h' he => qe (by rw [el]; rfl) h' he)
      | some p =>
        rw [el] at nn
        obtain ⟨q, hq, hq1⟩ := Option.map_eq_some_iff.mp nn
        obtain ⟨qk, qv⟩ := q
        refine nG (wpAny_pyNext_dict_item hit D hq fun key h' hkey hit' hs => ?_)
        obtain ⟨t, rfl⟩ := Value.isInt_shape hkey
        refine qi (.int p.1) (by rw [el]; rfl) h' s.toks _ hs.extBut ⟨ho, let ⟨_, a, b, c⟩ := hit'; it_nf (by decide) (by decide) a b c, a, _, hk, e, .inr ⟨rfl, od, des, ep, (hs.2 a ha).trans d1, d2, ?_, d5⟩⟩ ⟨t, congrArg (Value.int · t) (show qk = p.1 from hq1)⟩
        rw [hsz]; exact hit'

theorem thaw_end {F : Addr → Prop} {o : V} {H₀ H' : Hp} {ρ' : Rho} {h' : Heap} {h : Heap} (e : freeze o H = some H₀) (S : Sta G ρ H h) (T0 : Step NoF ρ H h ρ H₀ h) (T : Step F ρ H₀ h ρ' H' h') (S' : Sta G ρ' H' h') :
    Sta G ρ' (thaw o H') h' ∧ Step F ρ H h ρ' (thaw o H') h' := by
  refine thaw_in (o := o) (H := H') (fun z => by rw [z]; exact ⟨S', T0.ofNo.trans T⟩) fun k es eo e' z => ?_
  rw [z]
  clear z
  subst eo
  have e : onO H[k]? none (fun q_ => some H) (fun q_ => none) (fun es => grd (fits es.length) (some (H.set k (.fdict es)))) (fun q_ => none) (fun q_ => none) (fun q_ q_ => none) = some H₀ := e
  refine byC fun nG => onO_in e (fun l el h => some_in h fun eH => ?_) (fun q_ q_ h => nope h) (fun es0 el h => ?_) (fun q_ q_ h => nope h) (fun q_ q_ h => nope h) fun q_ q_ q_ h => nope h
  · rw [eH] at el
    obtain ⟨o', h1, h2⟩ := T.kin k _ el
    rw [e'] at h1; cases h1; cases h2
  · obtain ⟨p, hp, _⟩ := S.at el
    have own : Owned ρ H p.2 := ⟨k, p, _, hp, el, rfl, rfl⟩
    obtain ⟨S2, ow⟩ := S'.thaw (T.pre.get hp) e' (S.low _ own)
    have T2 := T0.ofNo.trans T
    refine nG ⟨S2, T2.pre, T2.fix, T2.keep, fun a q => ?_, T2.live, T2.fresh, fun j q ej => ?_⟩
    · rcases ow a q with q | rfl
      · exact T2.new a q
      · exact .inl own
    · obtain ⟨q', e1, e2⟩ := T2.kin j q ej
      by_cases hj : k = j
      · subst hj
        rw [e'] at e1; cases e1
        exact ⟨_, List.getElem?_set_self (List.getElem?_eq_some_iff.mp e').1, e2⟩
      · exact ⟨q', by rw [List.getElem?_set_ne hj]; exact e1, e2⟩
end
end Mine
end
/-! Snd10 -/
section
set_option Elab.async false
set_option genSizeOf false
set_option linter.all false
set_option maxRecDepth 100000
open PySem PySem.W PyProof.Rows
namespace Mine

/-! comprehensions -/
noncomputable def clo (env : Env) : List (Str × NameKind) → List (Str × Addr) → List (Str × Addr)
  | [], acc => acc
  | (n, k) :: r, acc => if k == .free then clo env r ((n, (env.cells.lookup n).getD 0) :: acc) else clo env r acc
theorem closureFor_eq {env : Env} {sc : Scope} (h : ∀ y, y ∈ sc.names → y.2 = .free → ∃ c, env.cells.lookup y.1 = some c) : closureFor sc env = pure (clo env sc.names []) := by
  have key : ∀ (names : List (Str × NameKind)) (acc : List (Str × Addr)), (∀ y, y ∈ names → y.2 = .free → ∃ c, env.cells.lookup y.1 = some c) →
      (forIn names acc fun x r => match x with | (name, kind) => if (kind == NameKind.free) = true then do let c ← cellOf env name; pure (ForInStep.yield ((name, c) :: r)) else pure (ForInStep.yield r)) = (pure (clo env names acc) : Sem _) := by
    intro names
    induction names with
    | nil => intro acc _; rfl
    | cons y r ih =>
      intro acc hy
      obtain ⟨n, k⟩ := y
      rw [List.forIn_cons, clo]
      have hr := fun acc => ih acc (fun z hz => hy z (List.mem_cons_of_mem _ hz))
      by_cases hk : (k == NameKind.free) = true
      · obtain ⟨c, hc⟩ := hy (n, k) List.mem_cons_self (by simpa using hk)
        have e : cellOf env n = pure c := by unfold cellOf; rw [hc]
        simp only [hk, if_true, e, pure_bind, hc, Option.getD_some]
        exact hr _
      · simp only [hk, if_false, pure_bind, Bool.false_eq_true]
        exact hr _
  unfold closureFor
  simp only [key sc.names [] h, pure_bind]
theorem clo_mem {env : Env} : ∀ (names : List (Str × NameKind)) (acc : List (Str × Addr)), (∀ y, y ∈ names → y.2 = .free → ∃ c, env.cells.lookup y.1 = some c) → (∀ n c, (n, c) ∈ acc → env.cells.lookup n = some c) →
    (∀ n c, (n, c) ∈ clo env names acc → env.cells.lookup n = some c) ∧ (∀ p, p ∈ acc → p ∈ clo env names acc) ∧ ∀ n, (n, NameKind.free) ∈ names → ∃ c, (n, c) ∈ clo env names acc
  | [], acc, _, ha => ⟨ha, fun q_ h => h, fun n h => by cases h⟩
  | (n, k) :: r, acc, hy, ha => by
    have hr : ∀ y, y ∈ r → y.2 = .free → ∃ c, env.cells.lookup y.1 = some c := fun z hz => hy z (List.mem_cons_of_mem _ hz)
    unfold clo
    split
    · rename_i hk
      obtain ⟨c, hc⟩ := hy (n, k) List.mem_cons_self (by simpa using hk)
      obtain ⟨h1, h2, h3⟩ := clo_mem r ((n, (env.cells.lookup n).getD 0) :: acc) hr (fun n' c' h => by
        rcases List.mem_cons.mp h with e | h
        · cases e; rw [hc]; rfl
        · exact ha n' c' h)
      refine ⟨h1, fun p hp => h2 p (List.mem_cons_of_mem _ hp), fun n' hn => ?_⟩
      rcases List.mem_cons.mp hn with e | hn
      · cases e; exact ⟨_, h2 _ List.mem_cons_self⟩
      · exact h3 n' hn
    · rename_i hk
      obtain ⟨h1, h2, h3⟩ := clo_mem r acc hr ha
      refine ⟨h1, h2, fun n' hn => ?_⟩
      rcases List.mem_cons.mp hn with e | hn
      · cases e; exact absurd rfl hk
      · exact h3 n' hn
theorem lookup_of_mem {α : Type} : ∀ {l : List (Str × α)} {n : Str} {c : α}, (n, c) ∈ l → ∃ c', l.lookup n = some c'
  | (k, v) :: r, n, c, h => by
    rw [List.lookup_cons]
    cases hb : n == k with
    | true => exact ⟨v, rfl⟩
    | false =>
      refine byC fun nG => ?_
      rcases List.mem_cons.mp h with e | h
      · cases e; simp at hb
      · refine nG ?_
        exact lookup_of_mem h

section
variable {G : Gx} {A : Around} {E : Value → Shared → Prop} {s : Shared} {ρ : Rho} {H : Hp}

theorem Sta.adoptO {h : Heap} {D : Addr} {ob : O} (S : Sta G ρ H h) (out : Out ρ D) (nb : G.base.get? D = none) (hr : RepO G h (ρ ++ [(D, D)]) (D, D) ob) : Sta G (ρ ++ [(D, D)]) (H ++ [ob]) h where
  len := by simp [S.len]
  rep := fun k p o e1 e2 => by
    refine byC fun nG => ?_
    rcases Nat.lt_or_ge k ρ.length with lt | ge
    · rw [List.getElem?_append_left lt] at e1
      rw [List.getElem?_append_left (by rw [← S.len]; exact lt)] at e2
      refine nG ?_
      exact (S.rep k p o e1 e2).keep (fun q_ q_ e q_ => e) ⟨_, rfl⟩ (fun q_ e => e) (fun q_ e => e)
    · have hk : k = ρ.length := by
        have := (List.getElem?_eq_some_iff.mp e1).1
        simp at this; omega
      subst hk
      rw [List.getElem?_append_right (Nat.le_refl _), Nat.sub_self] at e1
      rw [S.len, List.getElem?_append_right (Nat.le_refl _), Nat.sub_self] at e2
      simp at e1 e2
      subst e1; subst e2
      refine nG ?_
      exact hr
  inj := fun i j p q e1 e2 e3 => by
    have get : ∀ (k : Nat) p, (ρ ++ [(D, D)])[k]? = some p → (k < ρ.length ∧ ρ[k]? = some p) ∨ (k = ρ.length ∧ p = (D, D)) := fun k p e => by
      refine byC fun nG => ?_
      rcases Nat.lt_or_ge k ρ.length with lt | ge
      · rw [List.getElem?_append_left lt] at e; refine nG ?_; exact .inl ⟨lt, e⟩
      · have hk : k = ρ.length := by
          have := (List.getElem?_eq_some_iff.mp e).1
          simp at this; omega
        subst hk
        rw [List.getElem?_append_right (Nat.le_refl _), Nat.sub_self] at e
        simp at e
        refine nG ?_
        exact .inr ⟨rfl, e.symm⟩
    refine byC fun nG => ?_
    rcases get i p e1 with ⟨_, h1⟩ | ⟨rfl, rfl⟩ <;> rcases get j q e2 with ⟨_, h2⟩ | ⟨rfl, rfl⟩
    · refine nG ?_
      exact S.inj i j p q h1 h2 e3
    · exact absurd e3 (out p (List.mem_of_getElem? h1))
    · exact absurd e3.symm (out q (List.mem_of_getElem? h2))
    · refine nG ?_
      rfl
  base := S.base
  low := fun a ⟨k, p, o, h1, h2, h3, h4⟩ => by
    refine byC fun nG => ?_
    rcases Nat.lt_or_ge k ρ.length with lt | ge
    · rw [List.getElem?_append_left lt] at h1
      rw [List.getElem?_append_left (by rw [← S.len]; exact lt)] at h2
      refine nG ?_
      exact S.low a ⟨k, p, o, h1, h2, h3, h4⟩
    · have hk : k = ρ.length := by
        have := (List.getElem?_eq_some_iff.mp h1).1
        simp at this; omega
      subst hk
      rw [List.getElem?_append_right (Nat.le_refl _), Nat.sub_self] at h1
      simp at h1
      subst h1; subst h4; refine nG ?_; exact nb

theorem Sta.adopt {h : Heap} {D : Addr} {l : List V} {xs : List Value} (S : Sta G ρ H h) (out : Out ρ D) (nb : G.base.get? D = none) (hl : h.PlainList D xs.toArray) (hr : RepL h ρ l xs) : Sta G (ρ ++ [(D, D)]) (H ++ [.list l]) h :=
  S.adoptO out nb ⟨rfl, xs, hl, hr.mono (fun q_ q_ e q_ => e) ⟨_, rfl⟩⟩

theorem Step.adoptO {F : Addr → Prop} {ρ0 : Rho} {H0 : Hp} {h0 h : Heap} {D : Addr} {o : O} (T : Step F ρ0 H0 h0 ρ H h) (len : ρ.length = H.length) (hD : h0.get? D = none) : Step F ρ0 H0 h0 (ρ ++ [(D, D)]) (H ++ [o]) h where
  pre := T.pre.trans ⟨_, rfl⟩
  fix := T.fix
  keep := T.keep
  new := fun a ⟨k, p, o, h1, h2, h3, h4⟩ => by
    refine byC fun nG => ?_
    rcases Nat.lt_or_ge k ρ.length with lt | ge
    · rw [List.getElem?_append_left lt] at h1
      rw [List.getElem?_append_left (by rw [← len]; exact lt)] at h2
      refine nG ?_
      exact T.new a ⟨k, p, o, h1, h2, h3, h4⟩
    · have hk : k = ρ.length := by
        have := (List.getElem?_eq_some_iff.mp h1).1
        simp at this; omega
      subst hk
      rw [List.getElem?_append_right (Nat.le_refl _), Nat.sub_self] at h1
      simp at h1
      subst h1; subst h4; refine nG ?_; exact .inr hD
  live := T.live
  fresh := fun p hp => (List.mem_append.mp hp).elim (T.fresh p) fun e => by rw [List.mem_singleton.mp e]; exact .inr hD
  kin := fun k o e => let ⟨o', e1, e2⟩ := T.kin k o e; ⟨o', by rw [List.getElem?_append_left (List.getElem?_eq_some_iff.mp e1).1]; exact e1, e2⟩

theorem Step.adopt {F : Addr → Prop} {ρ0 : Rho} {H0 : Hp} {h0 h : Heap} {D : Addr} {l : List V} (T : Step F ρ0 H0 h0 ρ H h) (len : ρ.length = H.length) (hD : h0.get? D = none) : Step F ρ0 H0 h0 (ρ ++ [(D, D)]) (H ++ [.list l]) h := T.adoptO len hD

theorem thaw_len (o : V) (H : Hp) : (thaw o H).length = H.length := thaw_in (fun e => by rw [e]) fun q_ q_ q_ q_ e => by rw [e, List.length_set]

theorem iter_self {o : V} {I : Addr} {n : Nat} {Q : Value → Shared → Prop} (x : It s.heap ρ H o I n) (q : Q (.ref I) s) : wpAny (model G.prog G.w) A (pyIter (.ref I)) Q E s := by
  refine byC fun nG => ?_
  obtain ⟨_, _, x⟩ := x
  cases o with
  | tup l => obtain ⟨a, xs, h1, _⟩ := x; refine nG ?_; exact wpAny_pyIter_tupleiter h1 q
  | rng a c m => refine nG ?_; exact wpAny_pyIter_rangeiter x.2 q
  | str t => obtain ⟨_, t', h1⟩ := x; refine nG ?_; exact wpAny_pyIter_striter_ascii h1 q
  | obj k =>
    obtain ⟨a, o, _, _, ⟨_, h⟩ | ⟨_, od, es, ep, _, _, h, _⟩⟩ := x
    · refine nG ?_
      exact wpAny_pyIter_listiter h q
    · refine nG ?_
      exact wpAny_pyIter_keyiter h q
  | _ => exact x.elim

noncomputable def SoundE (G : Gx) (d : Nat) (c : Cx) (M : Mx) (x : X) (e : PySem.Expr) : Prop :=
  ∀ {A env σ ρ H s r Q E}, evE c σ x H = some r → Now G d M A env σ ρ H s → Gives G ρ H s r Q → wpAny (model G.prog G.w) A (eval e env) Q E s
noncomputable def SoundTs (G : Gx) (d : Nat) (c : Cx) (M : Mx) (ts : List T) (es : List PySem.Expr) : Prop :=
  ∀ {A env σ ρ H s r Q E}, evTA c σ ts H = some r → Now G d M A env σ ρ H s → GivesB G ρ H s r Q →
    wpAny (model G.prog G.w) A (forIn es true fun c r => if r = true then do let ok ← isTrue c env (eval c env); pure (ForInStep.yield ok) else pure (ForInStep.yield r)) Q E s

theorem lookup_map_free {n : Str} {o : Scope} : ∀ {names : List (Str × NameKind)}, names.lookup n = some .free → (n, NameKind.free) ∈ names
  | (k, v) :: r, h => by
    rw [List.lookup_cons] at h
    refine byC fun nG => ?_
    cases hb : n == k with
    | true => rw [hb] at h; cases h; refine nG ?_; rw [beq_iff_eq.mp hb]; exact List.mem_cons_self
    | false => rw [hb] at h; refine nG ?_; exact List.mem_cons_of_mem _ (lookup_map_free (o := o) h)

structure CompB (M : Mx) (sc : Scope) (x : Str) (slot : Nat) (caps : List Nat) : Prop where
  kind : sc.kind = .function
  cell : ∀ y, y ∈ sc.names → y.2 ≠ .cell
  names : ∀ y, y ∈ sc.names → y.2 = .local → sc.names.lookup y.1 = some .local
  x1 : sc.names.lookup x = some .local
  x2 : (relS sc M.sc).names.lookup x = some .local
  nm : M.nm[slot]? = some x
  vis : slot ∉ M.vis
  dbg : (x == ("__debug__" : Str)) = false
  free : ∀ y, y ∈ sc.names → y.2 = .free → ∃ i, i ∈ M.vis ∧ M.nm[i]? = some y.1 ∧ (M.sc.names.lookup y.1 = some .cell ∨ M.sc.names.lookup y.1 = some .free)
  caps : ∀ i, i ∈ caps → i ∈ M.vis ∧ ∃ n, M.nm[i]? = some n ∧ (relS sc M.sc).names.lookup n = some .cell ∧ sc.names.lookup n = some .free
theorem compB_of {M : Mx} {sc : Scope} {x : Str} {slot : Nat} {caps : List Nat} (h : compB M sc x slot caps = true) : CompB M sc x slot caps := by
  unfold compB at h
  simp only [Bool.and_eq_true, beq_iff_eq, List.all_eq_true, Bool.not_eq_true', Bool.or_eq_true, List.any_eq_true, beq_eq_false_iff_ne, ne_eq] at h
  refine byC fun nG => ?_
  obtain ⟨⟨⟨⟨⟨⟨⟨⟨⟨h1, h2⟩, h3⟩, h4⟩, h5⟩, h6⟩, h7⟩, h8⟩, h9⟩, h10⟩ := h
  refine nG ?_
  refine ⟨h1, h2, fun y hy e => ?_, h4, h5, h6, ?_, ?_, fun y hy e => ?_, fun i hi => ?_⟩
  · refine byC fun nG => ?_
    rcases h3 y hy with q | q
    · exact absurd e q
    · refine nG ?_
      exact q
  · intro q; rw [← List.contains_iff_mem] at q; rw [q] at h7; cases h7
  · simpa using h8
  · refine byC fun nG => ?_
    rcases h9 y hy with q | ⟨i, q1, q2, q3⟩
    · exact absurd e q
    · refine nG ?_
      exact ⟨i, q1, q2, q3⟩
  · obtain ⟨q1, q2⟩ := h10 i hi
    refine ⟨List.contains_iff_mem.mp q1, ?_⟩
    refine byC fun nG => ?_
    split at q2
    · rename_i n hn
      simp only [Bool.and_eq_true, beq_iff_eq] at q2
      refine nG ?_
      exact ⟨n, hn, q2.1, q2.2⟩
    · cases q2

theorem Fm.free {M : Mx} {sc : Scope} {x : Str} {slot : Nat} {caps : List Nat} {env : Env} {σ : Lo} {h : Heap} (F : Fm G M env σ ρ h) (B : CompB M sc x slot caps) : ∀ y, y ∈ sc.names → y.2 = .free → ∃ c, env.cells.lookup y.1 = some c := fun z hz e => by
  refine byC fun nG => ?_
  obtain ⟨m, hns, sl⟩ := F.slots
  obtain ⟨i, i1, i2, i3⟩ := B.free z hz e
  rcases sl i z.1 i1 i2 with ⟨k, _⟩ | ⟨_, c, _, c1, _⟩
  · rw [F.kof] at k; rcases i3 with q | q <;> rw [k] at q <;> cases q
  · refine nG ?_
    exact ⟨c, c1⟩
theorem comp_frame {M : Mx} {sc : Scope} {x : Str} {slot : Nat} {caps : List Nat} {env : Env} {σ : Lo} {h : Heap} {C : Addr} {mC : Str → Option Value} {v : V} {y : Value}
    (B : CompB M sc x slot caps) (F : Fm G M env σ ρ h) (oC : Out ρ C) (bC : G.base.get? C = none) (hn : h.Ns C mC) (hm : mC x = some y) (ry : RepV h ρ v y) :
    Fm G ⟨relS sc M.sc, M.nm, slot :: caps⟩ (compEnvC sc (clo env sc.names []) C env) (σ.set slot (some v)) ρ h := by
  obtain ⟨m, hns, sl⟩ := F.slots
  have fr : ∀ z, z ∈ sc.names → z.2 = .free → ∃ c, env.cells.lookup z.1 = some c := fun z hz e => by
    obtain ⟨i, i1, i2, i3⟩ := B.free z hz e
    rcases sl i z.1 i1 i2 with ⟨k, _⟩ | ⟨_, c, _, c1, _⟩
    · rw [F.kof] at k; rcases i3 with q | q <;> rw [k] at q <;> cases q
    · exact ⟨c, c1⟩
  obtain ⟨m1, _, m3⟩ := clo_mem sc.names [] fr (fun q_ q_ h => by cases h)
  have hsc : relabel sc env = relS sc M.sc := by unfold relabel relS; rw [← F.sc]; rfl
  have neSlot : ∀ i, i ∈ caps → slot ≠ i := fun i hi z => B.vis (z ▸ (B.caps i hi).1)
  refine ⟨hsc, B.kind, F.glob, F.blt, fun i j n hi hj e1 e2 => ?_, fun n n' c e1 e2 => F.apart n n' c (m1 n c (mem_of_lookup e1)) (m1 n' c (mem_of_lookup e2)), oC, bC, mC, hn, fun i n hi e => ?_⟩
  · rcases List.mem_cons.mp hi with rfl | hi' <;> rcases List.mem_cons.mp hj with rfl | hj'
    · rfl
    · obtain ⟨_, n', a1, a2, _⟩ := B.caps j hj'
      dsimp only at e1 e2
      rw [e2] at a1; cases a1
      rw [B.nm] at e1; cases e1
      rw [B.x2] at a2; cases a2
    · obtain ⟨_, n', a1, a2, _⟩ := B.caps i hi'
      dsimp only at e1 e2
      rw [e1] at a1; cases a1
      rw [B.nm] at e2; cases e2
      rw [B.x2] at a2; cases a2
    · exact F.inj i j n (B.caps i hi').1 (B.caps j hj').1 e1 e2
  · rcases List.mem_cons.mp hi with rfl | hi'
    · dsimp only at e
      rw [B.nm] at e; cases e
      refine .inl ⟨by show (relabel sc env).names.lookup x = _; rw [hsc]; exact B.x2, fun w ew => ⟨y, hm, ?_⟩⟩
      rw [List.getElem?_set] at ew
      simp only [if_true] at ew
      split at ew
      · cases ew; exact ry
      · cases ew
    · obtain ⟨i1, n', a1, a2, a3⟩ := B.caps i hi'
      dsimp only at e
      rw [e] at a1; cases a1
      have hf := lookup_map_free (o := sc) a3
      obtain ⟨c, hc⟩ := m3 n hf
      obtain ⟨c', hc'⟩ := lookup_of_mem hc
      have ec' := m1 n c' (mem_of_lookup hc')
      rcases sl i n i1 e with ⟨k, _⟩ | ⟨_, c2, y2, d1, d2, d3, d4, d5, d6⟩
      · obtain ⟨i', i1', i2', i3'⟩ := B.free (n, .free) hf rfl
        rw [F.kof] at k; rcases i3' with q | q <;> rw [k] at q <;> cases q
      · rw [ec'] at d1; cases d1
        refine .inr ⟨.inl (by show (relabel sc env).names.lookup n = _; rw [hsc]; exact a2), c', y2, hc', d2, d3, ?_, d5, fun w ew => d6 w ?_⟩
        · rintro rfl
          obtain ⟨o1, p1, p2⟩ := d2
          obtain ⟨o2, es, ep, q1, q2, _⟩ := hn
          have q1' : h.get? c' = some o2 := q1
          rw [p1] at q1'; cases q1'
          rw [p2] at q2; cases q2
        rw [List.getElem?_set_ne (neSlot i hi')] at ew
        exact ew
end
end Mine
end
/-! Snd11 -/
section
set_option Elab.async false
set_option genSizeOf false
set_option linter.all false
set_option maxRecDepth 100000
open PySem PySem.W PyProof.Rows
namespace Mine

section
variable {G : Gx} {A : Around} {E : Value → Shared → Prop} {s : Shared} {ρ : Rho} {H : Hp}

theorem base_none {h : Heap} (S : Sta G ρ H h) {a : Addr} (e : h.get? a = none) : G.base.get? a = none := by
  cases q : G.base.get? a with
  | none => rfl
  | some o => rw [S.base a o q] at e; cases e
theorem Step.none {F : Addr → Prop} {ρ' : Rho} {H' : Hp} {h h' : Heap} (T : Step F ρ H h ρ' H' h') {a : Addr} (e : h'.get? a = none) : h.get? a = none := by
  cases q : h.get? a with
  | none => rfl
  | some o => obtain ⟨o', e'⟩ := T.live a o q; rw [e'] at e; cases e
theorem plain_nf {h : Heap} {D : Addr} {xs : Array Value} (x : h.PlainList D xs) : ∃ o, h.get? D = some o ∧ ¬ Fix o := by
  obtain ⟨n, ho⟩ := x
  refine ⟨_, ho, fun f => ?_⟩
  refine byC fun nG => ?_
  rcases f.1 with f | f | f
  · simp at f
  · simp at f
  · cases f
theorem wpAny_tests_cons {env : Env} {x : PySem.Expr} {es : List PySem.Expr} {Q : Bool → Shared → Prop} (h : wpAny (model G.prog G.w) A (isTrue x env (eval x env)) (fun b s₁ => if b = true then
      wpAny (model G.prog G.w) A (forIn es true fun c r => if r = true then do let ok ← isTrue c env (eval c env); pure (ForInStep.yield ok) else pure (ForInStep.yield r)) Q E s₁ else Q false s₁) E s) :
    wpAny (model G.prog G.w) A (forIn (x :: es) true fun c r => if r = true then do let ok ← isTrue c env (eval c env); pure (ForInStep.yield ok) else pure (ForInStep.yield r)) Q E s := by
  have off : ∀ (es : List PySem.Expr) (s : Shared), Q false s → wpAny (model G.prog G.w) A (forIn es false fun c r => if r = true then do let ok ← isTrue c env (eval c env); pure (ForInStep.yield ok) else pure (ForInStep.yield r)) Q E s := by
    intro es
    induction es with
    | nil => intro s q; exact wpAny_pure q
    | cons y r ih =>
      intro s q
      rw [List.forIn_cons]
      simp only [Bool.false_eq_true, if_false]
      exact wpAny_bind (wpAny_pure (ih s q))
  rw [List.forIn_cons]
  simp only [if_true]
  refine wpAny_bind (wpAny_bind (wpAny_mono h (fun b s₁ hb => wpAny_pure ?_) fun q_ q_ x => x))
  refine byC fun nG => ?_
  cases b with
  | true => refine nG ?_; exact hb
  | false => refine nG ?_; exact off es s₁ hb

/-- while a comprehension's turns are made -/
inductive CI (G : Gx) (ρ1 : Rho) (H₀ : Hp) (hp1 : Heap) (D C I : Addr) (s : Shared) (o : V) (body : V → Hp → Option (Option V × Hp)) (rr : List V × Hp) (f : Nat) : Shared → Prop
  | mk (ρ' : Rho) (H' : Hp) (h' : Heap) (tk : Nat) (acc : List V) (xs : List Value) (i : Nat) (m : Str → Option Value) (hl : loopC (nextV o) body f i acc H' = some rr) (hsz : acc.length + f ≤ turns)
    (S' : Sta G ρ' H' h') (T' : Step NoF ρ1 H₀ hp1 ρ' H' h') (it' : It h' ρ' H' o I i) (oD : Out ρ' D) (oC : Out ρ' C) (pl : h'.PlainList D xs.toArray) (ra : RepL h' ρ' acc xs) (ns : h'.Ns C m) : CI G ρ1 H₀ hp1 D C I s o body rr f { s with heap := h', toks := tk }
theorem comp_core {c : Cx} {M : Mx} {x : Str} {px pos : Pos} {slot : Nat} {caps : List Nat} {sc : Scope} {it elt : X} {it' elt' : PySem.Expr} {ifs : List T} {ifs' : List PySem.Expr} {env : Env} {σ : Lo} {d : Nat} {r : V × Hp}
    {RR : Value → Addr → Result → Shared → Prop} (B : CompB M sc x slot caps) (hit : SoundE G d c M it it') (helt : SoundE G d c ⟨relS sc M.sc, M.nm, slot :: caps⟩ elt elt') (hifs : SoundTs G d c ⟨relS sc M.sc, M.nm, slot :: caps⟩ ifs ifs')
    (N : Now G d M A env σ ρ H s) (hv : evE c σ (.comp elt slot it ifs caps) H = some r)
    (fin : ∀ ρ' h' tk D C m, Sta G ρ' r.2 h' → Step NoF ρ H s.heap ρ' r.2 h' → RepV h' ρ' r.1 (.ref D) → s.heap.get? C = none → Out ρ' C → h'.Ns C m → RR (.ref D) C (.ok .next) { s with heap := h', toks := tk }) :
    wpAny (model G.prog G.w) A (eval it' env) (fun xv s₁ => wpAny (model G.prog G.w) A (pyIter xv) (fun iv s₂ => wpAny (model G.prog G.w) A (newList []) (fun acc s₃ =>
      wpAny (model G.prog G.w) A (newFunctionEnv sc env.globals (clo env sc.names []) [] env.qual none .none (some env)) (fun cenv s₄ =>
        codeAny (model G.prog G.w) A (.compStart (.ListComp elt' [⟨.Name x px, it', ifs', 0⟩] sc pos) 0 iv acc { cenv with scope := relabel sc env }) (RR acc cenv.locals) s₄) E s₃) E s₂) E s₁) E s := by
  refine byC fun nG => ?_
  refine bind_in hv fun a h1 hv_ => ?_; clear hv; rename _ = _ => hv
  refine bind_in hv fun H₀ h2 hv_ => ?_; clear hv; rename _ = _ => hv
  refine bind_in hv fun rr h3 hv_ => ?_; clear hv; rename _ = _ => hv
  cases hv
  refine nG ?_
  refine hit h1 N (fun ρ1 hp1 tk1 xv S1 T1 r1 => ?_)
  refine iter_new (s := { s with heap := hp1, toks := tk1 }) h2 S1 r1 (fun I hp2 hI k2 it0 => ?_)
  dsimp only at hI k2
  have T0 : Step NoF ρ1 a.2 hp1 ρ1 H₀ hp1 := (freeze_step (s := { s with heap := hp1, toks := tk1 }) h2 S1 (fun q_ q_ e => e)).2
  obtain ⟨S2, _⟩ := freeze_step (s := { s with heap := hp1, toks := tk1 }) h2 S1 k2
  refine wpAny_newObj_type (wpAny_newFunctionEnv B.cell (by intro y hy; simp at hy) (fun hp3 hns3 hsb3 => ?_) B.kind)
  dsimp only at hns3 hsb3 ⊢
  generalize hH2 : hp2.push { cls := .type "list", dict := none, data := .seq ([] : List Value).toArray } = H2 at hns3 hsb3 ⊢
  have hC : H2.objs.size = hp2.objs.size + 1 := by rw [← hH2, Heap.size_push]
  have below : ∀ b, b < hp2.objs.size → b ≠ H2.objs.size ∧ b ≠ hp2.objs.size := fun b hb => ⟨by rw [hC]; exact Nat.ne_of_lt (Nat.lt_succ_of_lt hb), Nat.ne_of_lt hb⟩
  have hDC : hp2.objs.size ≠ H2.objs.size := by rw [hC]; exact Nat.ne_of_lt (Nat.lt_succ_self _)
  have k3 : ∀ b o, hp2.get? b = some o → hp3.get? b = some o := fun b o e => hsb3.extBut b o (below b (Heap.lt_size e)).1 (Heap.get?_push_of_some _ (hH2 ▸ Heap.get?_push_of_some _ e))
  have hacc : hp3.PlainList hp2.objs.size ([] : List Value).toArray := ⟨_, hsb3.extBut _ _ hDC (Heap.get?_push_of_some _ (hH2 ▸ Heap.get?_push_size _ rfl))⟩
  have noneD : hp2.get? hp2.objs.size = none := top_none _
  have noneC : hp2.get? H2.objs.size = none := none_of_le (by rw [hC]; exact Nat.le_succ _)
  generalize hD' : hp2.objs.size = D at *
  generalize hC' : H2.objs.size = C at *
  have noneD1 : hp1.get? D = none := by
    cases q : hp1.get? D with
    | none => rfl
    | some o => rw [k2 D o q] at noneD; cases noneD
  have noneC1 : hp1.get? C = none := by
    cases q : hp1.get? C with
    | none => rfl
    | some o => rw [k2 C o q] at noneC; cases noneC
  have outD : Out ρ1 D := fun p hp z => by
    obtain ⟨k, hk⟩ := List.getElem?_of_mem hp
    exact S1.there hk (by rw [z]; exact noneD1)
  have outC : Out ρ1 C := fun p hp z => by
    obtain ⟨k, hk⟩ := List.getElem?_of_mem hp
    exact S1.there hk (by rw [z]; exact noneC1)
  have bD := base_none S1 noneD1
  have bC := base_none S1 noneC1
  have bI := base_none S1 hI
  have S3 : Sta G ρ1 H₀ hp3 := S2.ext k3
  have T3 : Step NoF ρ1 H₀ hp1 ρ1 H₀ hp3 := .ext fun b o e => k3 b o (k2 b o e)
  have it3 : It hp3 ρ1 H₀ a.1 I 0 := it0.step (F := NoF) (.ext k3) id fun q_ q_ => id
  have hh := N.ok.hand
  have hIC : I ≠ C := by
    refine byC fun nG => ?_
    obtain ⟨_, ⟨ob, e, _⟩, _⟩ := it0
    refine nG ?_; rintro rfl; rw [noneC] at e; cases e
  have hID : I ≠ D := by
    refine byC fun nG => ?_
    obtain ⟨_, ⟨ob, e, _⟩, _⟩ := it0
    refine nG ?_; rintro rfl; rw [noneD] at e; cases e
  have loop : ∀ tk, codeAny (model G.prog G.w) A (.compLoop (.ListComp elt' [⟨.Name x px, it', ifs', 0⟩] sc pos) 0 (.ref I) (.ref D) (compEnvC sc (clo env sc.names []) C env)) (RR (.ref D) C) { s with heap := hp3, toks := tk } := by
    intro tk
    have CF := fun {ρ' : Rho} {H' : Hp} {h' : Heap} {m : Str → Option Value} {v : V} {y : Value} (T' : Step NoF ρ1 H₀ hp1 ρ' H' h') (oC : Out ρ' C) => comp_frame (mC := m) (v := v) (y := y) B (N.fm.step (T1.trans (T0.trans T'))) oC bC
    have lk : (compEnvC sc (clo env sc.names []) C env).scope.names.lookup x = some .local := lookup_relabel_local B.x1
    have kd : (sc.kind == .class || (sc.kind == .module && (compEnvC sc (clo env sc.names []) C env).locals != (compEnvC sc (clo env sc.names []) C env).globals)) = false := by rw [B.kind]; rfl
    refine codeAny_compLoop_tests (CI G ρ1 H₀ hp1 D C I s a.1 (compT c σ slot elt ifs) rr) ?_ turns ⟨ρ1, H₀, hp3, tk, [], [], 0, _, h3, (by simp), S3, T3, it3, outD, outC, hacc, RepL.nil, hns3⟩
    generalize notedBy (model G.prog G.w) A (compEnvC sc (clo env sc.names []) C env) (fun e s' => RR (.ref D) C (.error e) s') = E'
    rintro f _ ⟨ρ', H', h', tk', acc, xs, i, m, hl, hsz, S', T', it', oD, oC, pl, ra, ns⟩
    cases f with
    | zero => exact nope hl
    | succ f =>
    have nfI : ∀ o, h'.get? I = some o → ¬ Fix o := by
      obtain ⟨_, ⟨ob, e, nf, _⟩, _⟩ := it'
      intro o e'; rw [e] at e'; cases e'; exact nf
    have oI := it'.1
    have tail : ∀ {h4}, Heap.ExtBut I h' h4 → Sta G ρ' H' h4 ∧ Step NoF ρ1 H₀ hp1 ρ' H' h4 ∧ h4.Ns C m ∧ h4.PlainList D xs.toArray ∧ RepL h4 ρ' acc xs := fun {h4} ext =>
      ⟨tail_sta S' ext oI nfI bI, T'.tail ext hI, ns.at fun o e => ext C o (Ne.symm hIC) e, (let ⟨n, e⟩ := pl; ⟨n, ext D _ (Ne.symm hID) e⟩), ra.mono (tail_keep ext nfI) (.refl _)⟩
    have turn : ∀ {v bb Hb}, evTA c (σ.set slot (some v)) ifs H' = some (bb, Hb) → ∀ {h4 tk4 y}, Heap.ExtBut I h' h4 → It h4 ρ' H' a.1 I (i + 1) → RepV h4 ρ' v y → ∀ {Q : Bool → Shared → Prop},
        (∀ ρ6 h6 tk6 m6, Now G d ⟨relS sc M.sc, M.nm, slot :: caps⟩ A (compEnvC sc (clo env sc.names []) C env) (σ.set slot (some v)) ρ6 Hb { s with heap := h6, toks := tk6 } → Step NoF ρ1 H₀ hp1 ρ6 Hb h6 → It h6 ρ6 Hb a.1 I (i + 1) → Out ρ6 D → Out ρ6 C → h6.PlainList D xs.toArray → RepL h6 ρ6 acc xs → h6.Ns C m6 → Q bb { s with heap := h6, toks := tk6 }) →
        wpAny (model G.prog G.w) A (assign (.Name x px) (compEnvC sc (clo env sc.names []) C env) y) (fun q_ s₂ => wpAny (model G.prog G.w) A (forIn ifs' true fun c r => if r = true then do let ok ← isTrue c (compEnvC sc (clo env sc.names []) C env) (eval c (compEnvC sc (clo env sc.names []) C env)); pure (ForInStep.yield ok) else pure (ForInStep.yield r)) Q E' s₂) E' { s with heap := h4, toks := tk4 } := fun {v bb Hb} hb {h4 tk4 y} ext it4 ry {Q} q => by
      obtain ⟨S4, T4, ns4, pl4, ra4⟩ := tail ext
      refine wpAny_assign_Name (wpAny_storeName_local lk ns4 (fun h5 ns5 hs5 => ?_) kd)
      obtain ⟨oc, hoc⟩ := ns_there ns4
      obtain ⟨oc', hoc'⟩ := ns_there ns5
      obtain ⟨S5, Tc⟩ := step_same (s := { s with heap := h4 }) (F := fun a => a = C) S4 hs5 bC oC rfl hoc hoc' (not_fix_dict hoc ns4)
      have T5 : Step NoF ρ1 H₀ hp1 ρ' H' h5 := (T4.ofNo.trans Tc).narrow fun b e => .inr (by rw [e]; exact noneC1)
      have N5 : Now G d ⟨relS sc M.sc, M.nm, slot :: caps⟩ A (compEnvC sc (clo env sc.names []) C env) (σ.set slot (some v)) ρ' H' { s with heap := h5, toks := tk4 + 1 } :=
        ⟨S5, CF T5 oC ns5 (by simp) (ry.mono Tc.fix Tc.pre), N.ok.step (T1.trans (T0.trans T5))⟩
      have pl5 : h5.PlainList D xs.toArray := Tc.keepPl pl4 oD.owned hDC
      refine hifs hb N5 (fun ρ6 h6 tk6 S6 T6 => ?_)
      obtain ⟨oD', hoD'⟩ := plain_nf pl5
      exact q ρ6 h6 tk6 _ (N5.step S6 T6 tk6) (T5.trans T6) ((it4.step Tc hIC fun p hp => oC p hp).step T6 id fun q_ q_ => id) (oD.step T6 hoD'.1) (oC.step T6 hoc') (T6.keepPl pl5 oD.owned id) ((ra4.mono Tc.fix Tc.pre).mono T6.fix T6.pre) (T6.keepNs ns5 oC.owned id)
    refine loopC_in hl (fun hnx er => ?_) (fun v w H2 hnx hb hl2 => ?_) (fun v H2 hnx hb hl2 => ?_)
    · refine iter_next hnx S' it' hh (fun q_ z => nomatch z) (fun q_ h4 ext => ?_)
      subst er
      obtain ⟨S4, T4, ns4, pl4, ra4⟩ := tail ext
      obtain ⟨S5, T5⟩ := thaw_end h2 S1 T0 T4 S4
      have oC6 : Out (ρ' ++ [(D, D)]) C := fun p hp => by
        rcases List.mem_append.mp hp with q | q
        · exact oC p q
        · rw [List.mem_singleton.mp q]; exact hDC
      exact fin _ h4 tk' D C m (S5.adopt oD bD pl4 ra4) (T1.trans (T5.adopt (l := acc) S5.len noneD1)) ⟨D, D, rfl, by rw [← S'.len]; simp⟩ (T1.none noneC1) oC6 ns4
    · refine iter_next hnx S' it' hh (fun v' ev h4 tk4 y ext it4 ry => ?_) (fun z => nomatch z)
      cases ev
      refine bind_in hb fun b e1 e2 => ?_
      obtain ⟨bb, Hb⟩ := b
      cases bb with
      | false => cases e2
      | true =>
      refine bind_in e2 fun ww e3 e4 => turn e1 ext it4 ry fun ρ6 h6 tk6 m6 N6 T6 it6 oD6 oC6 pl6 ra6 ns6 => ?_
      cases e4
      clear hb e2 e1 tail turn hl
      rw [if_pos rfl]
      refine helt e3 N6 (fun ρ7 h7 tk7 z S7 T7 r7 => ?_)
      obtain ⟨oD6', hoD6'⟩ := plain_nf pl6
      obtain ⟨oC6', hoC6'⟩ := ns_there ns6
      have oD7 := oD6.step T7 hoD6'.1
      have ra7 := ra6.mono T7.fix T7.pre
      have pl7 : h7.PlainList D xs.toArray := T7.keepPl pl6 oD6.owned id
      have hsz' : xs.toArray.size ≤ sizeLine := by
        rw [List.size_toArray, ra7.length]
        exact Nat.le_trans (Nat.le_trans (Nat.le_add_right _ _) hsz) (by decide)
      refine wpAny_list_append_plain (hsz := hsz') pl7 fun h8 pl8 hs8 => ?_
      obtain ⟨oD7', hoD7'⟩ := plain_nf pl7
      obtain ⟨oD8', hoD8'⟩ := plain_nf pl8
      obtain ⟨S8, Td⟩ := step_same (s := { s with heap := h7 }) (F := fun a => a = D) S7 hs8 bD oD7 rfl hoD7'.1 hoD8'.1 hoD7'.2
      rw [List.push_toArray] at pl8
      exact ⟨f, Nat.lt_succ_self _, ρ7, _, h8, tk7, acc ++ [ww.1], xs ++ [z], i + 1, _, hl2, (by rw [List.length_append]; exact Nat.le_trans (Nat.le_of_eq (Nat.add_right_comm _ _ _)) hsz), S8, ((T6.trans T7).ofNo.trans Td).narrow fun b e => .inr (by rw [e]; exact noneD1),
        (it6.step T7 id fun q_ q_ => id).step Td hID fun p hp => oD7 p hp, oD7, oC6.step T7 hoC6', pl8, (ra7.mono Td.fix Td.pre).app (RepL.one (r7.mono Td.fix Td.pre)), Td.keepNs (T7.keepNs ns6 oC6.owned id) (oC6.step T7 hoC6').owned (Ne.symm hDC)⟩
    · refine iter_next hnx S' it' hh (fun v' ev h4 tk4 y ext it4 ry => ?_) (fun z => nomatch z)
      cases ev
      refine bind_in hb fun b e1 e2 => ?_
      obtain ⟨bb, Hb⟩ := b
      cases bb with
      | true => refine bind_in e2 fun ww q_ e4 => ?_; cases e4
      | false =>
      cases e2
      refine turn e1 ext it4 ry fun ρ6 h6 tk6 m6 N6 T6 it6 oD6 oC6 pl6 ra6 ns6 => ?_
      rw [if_neg (by decide)]
      exact ⟨f, Nat.lt_succ_self _, ρ6, _, h6, tk6, acc, xs, i + 1, _, hl2, Nat.le_of_succ_le hsz, N6.sta, T6, it6, oD6, oC6, pl6, ra6, ns6⟩
  exact codeAny_compStart_list (loop _) (iter_self it3 (loop _))
end
end Mine
end
/-! Snd12 -/
section
set_option Elab.async false
set_option genSizeOf false
set_option linter.all false
set_option maxRecDepth 100000
open PySem PySem.W PyProof.Rows
namespace Mine

/-! what the expressions' soundness needs -/
noncomputable def SndF (G : Gx) (fa : Nat → Addr) (d : Nat) (cf : CF) : Prop := ∀ {A : Around} {f : Nat} {args : List V} {H : Hp} {v : V} {H' : Hp} {ρ : Rho} {s : Shared} {xs : List Value} {R : Result → Shared → Prop},
  cf f args H = some (.ret v, H') → Sta G ρ H s.heap → Ok G (5 * d) (20 * d) A ρ s.heap → RepL s.heap ρ args xs →
  (∀ ρ' h' tk x, Sta G ρ' H' h' → Step NoF ρ H s.heap ρ' H' h' → RepV h' ρ' v x → R (.ok (.ret x)) { s with heap := h', toks := tk }) →
  codeAny (model G.prog G.w) A (.call (.ref (fa f)) ⟨xs, []⟩) R s

theorem under_ok {G : Gx} {A : Around} {ρ : Rho} {h : Heap} {dd uu : Nat} {C : Addr} {rest : List Value} (x : Ok G (dd + 4) (uu + 17) A ρ h) : Ok G dd uu (A.under (.builtin "type.__call__" ⟨.ref C :: rest, []⟩)) ρ h where
  hand := x.hand
  dep := by
    have e : (Code.builtin "type.__call__" ⟨.ref C :: rest, []⟩).weight = 1 := rfl
    show A.depth + (Code.builtin "type.__call__" ⟨.ref C :: rest, []⟩).weight + dd ≤ 900
    have := x.dep
    omega
  uni := by
    have e : (Code.builtin "type.__call__" ⟨.ref C :: rest, []⟩).cUnits = 1 := rfl
    show A.units + (Code.builtin "type.__call__" ⟨.ref C :: rest, []⟩).cUnits + uu ≤ 9000
    have := x.uni
    omega
  stack := x.stack

section
variable {G : Gx} {A : Around} {E : Value → Shared → Prop} {s : Shared} {ρ : Rho} {H : Hp} {fa : Nat → Addr} {init : Nat → Nat} {d : Nat} {cf : CF}

/-- an object of a class is made -/
theorem new_snd (C : ClsOk G fa init) (SF : SndF G fa d cf) {k : Nat} (hk : k < 3) {args : List V} {xs : List Value} {r : V × Hp} {Q : Value → Shared → Prop}
    (h : newDone H.length (cf (init k) (.obj H.length :: args) (H ++ [.inst k []])) = some r) (S : Sta G ρ H s.heap) (ok : Ok G (5 * d + 4) (20 * d + 17) A ρ s.heap) (ra : RepL s.heap ρ args xs) (g : Gives G ρ H s r Q) :
    wpAny (model G.prog G.w) A (call (.ref (G.clsA k)) xs) Q E s := by
  have X := S.inK C
  refine byC fun nG => bind_in h fun p hc h1 => crRet_in h1 fun v ev h2 => vNone_in h2 fun e0 h3 => some_in h3 fun er => ?_
  clear h h1 h2 h3
  obtain ⟨p1, H'⟩ := p
  subst e0
  cases ev
  subst er
  obtain ⟨hh, gg, dd, t, os⟩ := s
  have hi := C.init k hk
  refine nG ?_
  refine wpAny_call (make_core (makes_of X (C.makes k hk)) (looks_findIn X hi.1) (fun self => bind_fn X self hi.2) (.inl rfl) ?_)
  have kk : ∀ b o, hh.get? b = some o → ((hh.push emptyDict).push (instObj (G.clsA k) hh.objs.size)).get? b = some o := fun b o e => push_keep _ _ _ _ (push_keep _ _ _ _ e)
  have g2 : ((hh.push emptyDict).push (instObj (G.clsA k) hh.objs.size)).get? hh.objs.size = some (dictOf [] 0) := push_keep _ _ _ _ (Heap.get?_push_size _ rfl)
  have g1 : ((hh.push emptyDict).push (instObj (G.clsA k) hh.objs.size)).get? (hh.objs.size + 1) = some (instObj (G.clsA k) hh.objs.size) := by
    rw [← Heap.size_push hh emptyDict]; exact Heap.get?_push_size _ rfl
  obtain ⟨S', T'⟩ := S.alloc (p := (hh.objs.size + 1, hh.objs.size)) (o := .inst k []) kk (top_none _) ⟨hk, g1, [], 0, g2, rfl⟩
  have kf := T'.fix
  have pr := T'.pre
  have r0 : RepV ((hh.push emptyDict).push (instObj (G.clsA k) hh.objs.size)) (ρ ++ [(hh.objs.size + 1, hh.objs.size)]) (.obj H.length) (.ref (hh.objs.size + 1)) := ⟨_, hh.objs.size, rfl, by rw [← S.len]; simp⟩
  refine SF (s := ⟨(hh.push emptyDict).push (instObj (G.clsA k) hh.objs.size), gg, dd, t, os⟩) hc S' (under_ok (ok.step T')) (RepL.cons r0 (ra.mono kf pr)) (fun ρ' h' tk x S2 T2 r2 => ?_)
  cases r2
  refine ⟨rfl, g ρ' h' tk _ S2 (T'.trans T2) (r0.mono T2.fix T2.pre)⟩

theorem mE_star {M : Mx} {x : X} {v : PySem.Expr} {p : Pos} : mE M x (.Starred v p) = false := by
  cases x <;> rfl
noncomputable def NotStar (e : PySem.Expr) : Prop := ∀ v p, e ≠ .Starred v p
theorem mE_notStar {M : Mx} {x : X} {e : PySem.Expr} (h : mE M x e = true) : NotStar e := by
  rintro v p rfl; rw [mE_star] at h; cases h
theorem star_cons {e : PySem.Expr} {r : List PySem.Expr} {env : Env} (n : NotStar e) : starEach (e :: r) env = (false, eval e env) :: starEach r env := by
  cases e <;> first | rfl | exact absurd rfl (n _ _)
theorem assign_cons {e : PySem.Expr} {r : List PySem.Expr} {env : Env} (n : NotStar e) : assignEach (e :: r) env = (false, assign e env) :: assignEach r env := by
  cases e <;> first | rfl | exact absurd rfl (n _ _)
theorem back_cons {pos : Pos} {t : Sem Value} {r : List (Bool × Sem Value)} : backTo pos ((false, t) :: r) = (false, t) :: backTo pos r := rfl
theorem mL_plain {M : Mx} {env : Env} {pos : Pos} : ∀ {l : List X} {es : List PySem.Expr}, mL M l es = true → (backTo pos (starEach es env)).any (·.1) = false
  | [], es, h => onNil_in (P := fun es => (backTo pos (starEach es env)).any (·.1) = false) h fun q_ => rfl
  | x :: r, es, h => onCons_in (P := fun es => (backTo pos (starEach es env)).any (·.1) = false) h fun e t h => by
    rw [star_cons (mE_notStar (band h).1), back_cons]
    exact mL_plain (l := r) (es := t) (band h).2
theorem args_of {f : Value} {M : Mx} {env : Env} {pos : Pos} {l : List X} {es : List PySem.Expr} {Q : Args → Shared → Prop} (h : mL M l es = true) (q : wpAny (model G.prog G.w) A (spliced (backTo pos (starEach es env))) (fun vs s' => Q ⟨vs, []⟩ s') E s) :
    wpAny (model G.prog G.w) A (evalArgs f true (backTo pos (starEach es env)) []) Q E s := by
  refine byC fun nG => ?_
  cases es with
  | nil =>
    refine nG ?_
    unfold evalArgs
    show wpAny _ A (spliced [] >>= _) Q E s
    refine wpAny_bind (wpAny_mono q (fun vs s' h' => ?_) fun q_ q_ x => x)
    refine wpAny_holding ?_
    exact wpAny_bind (wpAny_pure (wpAny_bind (wpAny_pure (wpAny_pure h'))))
  | cons e t =>
    cases l with
    | nil => refine nG ?_; exact (Bool.false_ne_true h).elim
    | cons x r =>
      refine nG ?_
      rw [star_cons (mE_notStar (band h).1), back_cons] at q ⊢
      exact Calls.evalArgs_plain q

theorem base_eq {o : PySem.Expr} {name : Str} {env : Env} (h : noCall o = true) : attributeBase o name env (eval o env) = eval o env := by
  cases o <;> first | rfl | cases h
theorem noSet_fold {e : PySem.Expr} {env : Env} (h : noSet e = true) (x : Value) : foldedSetIterable e env x = pure x := by
  cases e <;> first | rfl | cases h
theorem noSet_marks {e : PySem.Expr} {op : CmpOp} (h : noSet e = true) : behindInMarks op e = false := by
  cases e <;> first | rfl | cases h
theorem plainTest_eq {e : PySem.Expr} {env : Env} {whole : Sem Value} (h : plainTest e = true) : isTrue e env whole = (do let v ← whole; standAt e.pos; holding [v] (truthy v)) := by
  cases e
  case UnaryOp op x p => cases op <;> first | rfl | cases h
  all_goals first | rfl | cases h
theorem notSlice_of {e : PySem.Expr} (h : notSliceB e = true) : NotSlice e := by
  rintro l u p rfl; cases h
theorem attr_any {value : PySem.Expr} {attr : Str} {pos : Pos} {env : Env} {Q : Value → Shared → Prop} (hn : noCall value = true)
    (h : wpAny (model G.prog G.w) A (eval value env) (fun o s₁ => wpAny (model G.prog G.w) A (getAttr o attr true) Q E s₁) E s) : wpAny (model G.prog G.w) A (eval (.Attribute value attr pos) env) Q E s := by
  refine Attribute_any_ h ?_
  rw [arm_eval_Attribute, base_eq hn]

theorem tag_back {k : Nat} {H' : Hp} {h h' : Heap} {ρ' : Rho} {F : Addr → Prop} {x : Value} {o : O} (S : Sta G ρ H h) (r : RepV h ρ (.obj k) x) (T : Step F ρ H h ρ' H' h') (e : H'[k]? = some o) : ∃ o', H[k]? = some o' ∧ o'.tag = o.tag := by
  refine byC fun nG => ?_
  obtain ⟨a, m, rfl, hk⟩ := r
  have lt := (List.getElem?_eq_some_iff.mp hk).1
  rw [S.len] at lt
  obtain ⟨o2, h1, h2⟩ := T.kin k _ (List.getElem?_eq_getElem lt)
  rw [e] at h1; cases h1
  refine nG ?_
  exact ⟨_, List.getElem?_eq_getElem lt, h2.symm⟩
end
end Mine
end
/-! Snd13 -/
section
set_option Elab.async false
set_option genSizeOf false
set_option linter.all false
set_option maxRecDepth 100000
open PySem PySem.W PyProof.Rows
namespace Mine

noncomputable def SoundT (G : Gx) (d : Nat) (c : Cx) (M : Mx) (t : T) (e : PySem.Expr) : Prop :=
  ∀ {A env σ ρ H s r Q E}, evT c σ t H = some r → Now G d M A env σ ρ H s → GivesB G ρ H s r Q → wpAny (model G.prog G.w) A (isTrue e env (eval e env)) Q E s
noncomputable def AllE (G : Gx) (d : Nat) (c : Cx) (M : Mx) : List X → List PySem.Expr → Prop
  | [], [] => True
  | x :: r, e :: t => SoundE G d c M x e ∧ NotStar e ∧ AllE G d c M r t
  | _, _ => False
noncomputable def AllT (G : Gx) (d : Nat) (c : Cx) (M : Mx) : List T → List PySem.Expr → Prop
  | [], [] => True
  | x :: r, e :: t => SoundT G d c M x e ∧ AllT G d c M r t
  | _, _ => False
noncomputable def AllP (G : Gx) (d : Nat) (c : Cx) (M : Mx) : List X → List (Option PySem.Expr) → List PySem.Expr → Prop
  | [], [], [] => True
  | x :: y :: r, some k :: ks, v :: vs => SoundE G d c M x k ∧ SoundE G d c M y v ∧ AllP G d c M r ks vs
  | _, _, _ => False

section
variable {G : Gx} {A : Around} {E : Value → Shared → Prop} {d : Nat} {c : Cx} {M : Mx} {env : Env} {σ : Lo}

theorem GivesB.here {ρ : Rho} {H : Hp} {s : Shared} {b : Bool} {Q : Bool → Shared → Prop} (g : GivesB G ρ H s (b, H) Q) (S : Sta G ρ H s.heap) : Q b s := g ρ s.heap s.toks S (.refl _ _ _ _)
theorem evL_len : ∀ {l : List X} {H : Hp} {r : List V × Hp}, evL c σ l H = some r → r.1.length = l.length
  | [], H, r, h => by cases h; rfl
  | x :: l, H, r, h => by
    refine byC fun nG => ?_
    refine bind_in h fun a h1 h_ => ?_; clear h; rename _ = _ => h
    refine bind_in h fun b h2 h_ => ?_; clear h; rename _ = _ => h
    cases h
    refine nG ?_
    simp [evL_len h2]

theorem evL_snd {pos : Pos} : ∀ {l : List X} {es : List PySem.Expr} {ρ : Rho} {H : Hp} {s : Shared} {r : List V × Hp} {Q : List Value → Shared → Prop}, AllE G d c M l es → evL c σ l H = some r → Now G d M A env σ ρ H s → GivesL G ρ H s r Q →
    wpAny (model G.prog G.w) A (spliced (backTo pos (starEach es env))) Q E s
  | [], [], ρ, H, s, r, Q, _, h, N, g => by
    cases h
    exact Calls.spliced_nil (g ρ s.heap s.toks [] N.sta (.refl _ _ _ _) rfl)
  | [], _ :: _, _, _, _, _, _, a, _, _, _ => a.elim
  | _ :: _, [], _, _, _, _, _, a, _, _, _ => a.elim
  | x :: l, e :: es, ρ, H, s, r, Q, ⟨a1, a2, a3⟩, h, N, g => by
    refine byC fun nG => ?_
    refine bind_in h fun a h1 h_ => ?_; clear h; rename _ = _ => h
    refine bind_in h fun b h2 h_ => ?_; clear h; rename _ = _ => h
    cases h
    refine nG ?_
    rw [star_cons a2, back_cons]
    refine Calls.spliced_cons (a1 h1 N fun ρ1 h1' tk1 y S1 T1 r1 => ?_)
    refine evL_snd a3 h2 (N.step S1 T1 tk1) fun ρ2 h2' tk2 ys S2 T2 r2 => ?_
    exact g ρ2 h2' tk2 _ S2 (T1.trans T2) (RepL.cons (r1.mono T2.fix T2.pre) r2)

theorem boolOp_step {pos : Pos} {op : BoolOp} {x y : Sem Value} {rest : List (Sem Value)} {s : Shared} {Q : Value → Shared → Prop}
    (h : wpAny (model G.prog G.w) A x (fun v s₁ => wpAny (model G.prog G.w) A (truthy v) (fun t s₂ => match op, t with
      | .And, false | .Or, true => Q v s₂
      | _, _ => wpAny (model G.prog G.w) A (boolOp pos op (y :: rest)) Q E s₂) E s₁) E s) : wpAny (model G.prog G.w) A (boolOp pos op (x :: y :: rest)) Q E s := by
  rw [boolOp]
  · refine wpAny_bind (wpAny_mono h (fun v s₁ h₁ => wpAny_bind (wpAny_standAt (wpAny_bind (wpAny_holding (wpAny_mono h₁ (fun t s₂ h₂ => ?_) fun q_ q_ e => e))))) fun q_ q_ e => e)
    cases op <;> cases t <;> first | exact wpAny_pure h₂ | exact h₂
  · intro z; cases z

theorem and_snd {pos : Pos} : ∀ {l : List X} {es : List PySem.Expr} {ρ : Rho} {H : Hp} {s : Shared} {r : V × Hp} {Q : Value → Shared → Prop}, AllE G d c M l es → evAnd c σ l H = some r → Now G d M A env σ ρ H s → Gives G ρ H s r Q →
    wpAny (model G.prog G.w) A (boolOp pos .And (evalEach es env)) Q E s
  | [], _, _, _, _, _, _, _, h, _, _ => by cases h
  | _ :: _, [], _, _, _, _, _, a, _, _, _ => a.elim
  | [x], [e], ρ, H, s, r, Q, ⟨a1, _, _⟩, h, N, g => by
    refine byC fun nG => ?_
    refine bind_in h fun a h1 h_ => ?_; clear h; rename _ = _ => h
    cases h
    refine nG ?_
    exact a1 h1 N g
  | [_], _ :: _ :: _, _, _, _, _, _, a, _, _, _ => a.2.2.elim
  | _ :: _ :: _, [_], _, _, _, _, _, a, _, _, _ => a.2.2.elim
  | x :: y :: l, e :: e' :: es, ρ, H, s, r, Q, ⟨a1, _, a3⟩, h, N, g => by
    refine byC fun nG => ?_
    refine bind_in h fun a h1 h_ => ?_; clear h; rename _ = _ => h
    refine bind_in h fun b h2 h_ => ?_; clear h; rename _ = _ => h
    refine nG ?_
    refine boolOp_step (y := eval e' env) (rest := evalEach es env) (a1 h1 N fun ρ1 h1' tk1 z S1 T1 r1 => truthy_snd h2 r1 fun tk => ?_)
    refine byC fun nG => ?_
    cases b with
    | true => refine nG ?_; exact and_snd (l := y :: l) (es := e' :: es) a3 h ((N.step S1 T1 tk1).tok tk) (Gives.on (s := s) g T1)
    | false => cases h; refine nG ?_; exact g ρ1 h1' tk z S1 T1 r1
theorem or_snd {pos : Pos} : ∀ {l : List X} {es : List PySem.Expr} {ρ : Rho} {H : Hp} {s : Shared} {r : V × Hp} {Q : Value → Shared → Prop}, AllE G d c M l es → evOr c σ l H = some r → Now G d M A env σ ρ H s → Gives G ρ H s r Q →
    wpAny (model G.prog G.w) A (boolOp pos .Or (evalEach es env)) Q E s
  | [], _, _, _, _, _, _, _, h, _, _ => by cases h
  | _ :: _, [], _, _, _, _, _, a, _, _, _ => a.elim
  | [x], [e], ρ, H, s, r, Q, ⟨a1, _, _⟩, h, N, g => by
    refine byC fun nG => ?_
    refine bind_in h fun a h1 h_ => ?_; clear h; rename _ = _ => h
    cases h
    refine nG ?_
    exact a1 h1 N g
  | [_], _ :: _ :: _, _, _, _, _, _, a, _, _, _ => a.2.2.elim
  | _ :: _ :: _, [_], _, _, _, _, _, a, _, _, _ => a.2.2.elim
  | x :: y :: l, e :: e' :: es, ρ, H, s, r, Q, ⟨a1, _, a3⟩, h, N, g => by
    refine byC fun nG => ?_
    refine bind_in h fun a h1 h_ => ?_; clear h; rename _ = _ => h
    refine bind_in h fun b h2 h_ => ?_; clear h; rename _ = _ => h
    refine nG ?_
    refine boolOp_step (y := eval e' env) (rest := evalEach es env) (a1 h1 N fun ρ1 h1' tk1 z S1 T1 r1 => truthy_snd h2 r1 fun tk => ?_)
    refine byC fun nG => ?_
    cases b with
    | false => refine nG ?_; exact or_snd (l := y :: l) (es := e' :: es) a3 h ((N.step S1 T1 tk1).tok tk) (Gives.on (s := s) g T1)
    | true => cases h; refine nG ?_; exact g ρ1 h1' tk z S1 T1 r1

theorem ta_snd : ∀ {l : List T} {es : List PySem.Expr} {ρ : Rho} {H : Hp} {s : Shared} {r : Bool × Hp} {Q : Bool → Shared → Prop}, AllT G d c M l es → evTA c σ l H = some r → Now G d M A env σ ρ H s → GivesB G ρ H s r Q →
    wpAny (model G.prog G.w) A (allTrue .And es env) Q E s
  | [], [], ρ, H, s, r, Q, _, h, N, g => by cases h; exact wpAny_allTrue_And_nil (g ρ s.heap s.toks N.sta (.refl _ _ _ _))
  | [], _ :: _, _, _, _, _, _, a, _, _, _ => a.elim
  | _ :: _, [], _, _, _, _, _, a, _, _, _ => a.elim
  | x :: l, e :: es, ρ, H, s, r, Q, ⟨a1, a2⟩, h, N, g => by
    refine byC fun nG => ?_
    refine bind_in h fun a h1 h_ => ?_; clear h; rename _ = _ => h
    refine nG ?_
    refine wpAny_allTrue_And_cons (a1 h1 N fun ρ1 h1' tk1 S1 T1 => ?_)
    refine byC fun nG => ?_
    obtain ⟨b, Hb⟩ := a
    cases b with
    | true => refine nG ?_; exact ta_snd a2 h (N.step S1 T1 tk1) (GivesB.on g T1)
    | false => cases h; refine nG ?_; exact g ρ1 h1' tk1 S1 T1
theorem to_snd : ∀ {l : List T} {es : List PySem.Expr} {ρ : Rho} {H : Hp} {s : Shared} {r : Bool × Hp} {Q : Bool → Shared → Prop}, AllT G d c M l es → evTO c σ l H = some r → Now G d M A env σ ρ H s → GivesB G ρ H s r Q →
    wpAny (model G.prog G.w) A (allTrue .Or es env) Q E s
  | [], [], ρ, H, s, r, Q, _, h, N, g => by cases h; exact wpAny_allTrue_Or_nil (g ρ s.heap s.toks N.sta (.refl _ _ _ _))
  | [], _ :: _, _, _, _, _, _, a, _, _, _ => a.elim
  | _ :: _, [], _, _, _, _, _, a, _, _, _ => a.elim
  | x :: l, e :: es, ρ, H, s, r, Q, ⟨a1, a2⟩, h, N, g => by
    refine byC fun nG => ?_
    refine bind_in h fun a h1 h_ => ?_; clear h; rename _ = _ => h
    refine nG ?_
    refine wpAny_allTrue_Or_cons (a1 h1 N fun ρ1 h1' tk1 S1 T1 => ?_)
    refine byC fun nG => ?_
    obtain ⟨b, Hb⟩ := a
    cases b with
    | false => refine nG ?_; exact to_snd a2 h (N.step S1 T1 tk1) (GivesB.on g T1)
    | true => cases h; refine nG ?_; exact g ρ1 h1' tk1 S1 T1
theorem ts_snd : ∀ {l : List T} {es : List PySem.Expr}, AllT G d c M l es → SoundTs G d c M l es
  | [], [], _ => by
    intro h N g
    cases h
    exact wpAny_pure (GivesB.here g N.sta)
  | [], _ :: _, a => a.elim
  | _ :: _, [], a => a.elim
  | x :: l, e :: es, ⟨a1, a2⟩ => by
    intro h N g
    refine byC fun nG => ?_
    refine bind_in h fun a h1 h_ => ?_; clear h; rename _ = _ => h
    refine nG ?_
    refine wpAny_tests_cons (a1 h1 N fun ρ1 h1' tk1 S1 T1 => ?_)
    refine byC fun nG => ?_
    obtain ⟨b, Hb⟩ := a
    cases b with
    | true => refine nG ?_; exact ts_snd a2 h (N.step S1 T1 tk1) (GivesB.on g T1)
    | false => cases h; refine nG ?_; exact g ρ1 h1' tk1 S1 T1

/-! a dict of strings -/
noncomputable def pairsOf (pos : Pos) (env : Env) : List (Option PySem.Expr) → List PySem.Expr → List (Sem Value × Sem Value)
  | some k :: ks, v :: vs => (eval k env, do let x ← eval v env; standAt pos; pure x) :: pairsOf pos env ks vs
  | _, _ => []
theorem pairs_shape {pos : Pos} {env : Env} : ∀ {l : List X} {ks : List (Option PySem.Expr)} {vs : List PySem.Expr}, AllP G d c M l ks vs →
    (evalEachOpt ks env).zip ((evalEach vs env).map fun v => do let x ← v; standAt pos; pure x) = (pairsOf pos env ks vs).map (fun p => (some p.1, p.2)) ∧ 2 * (pairsOf pos env ks vs).length = l.length
  | [], [], [], _ => ⟨rfl, rfl⟩
  | x :: y :: r, some k :: ks, v :: vs, ⟨_, _, a⟩ => by
    obtain ⟨h1, h2⟩ := pairs_shape (pos := pos) (env := env) a
    refine ⟨?_, by simp only [pairsOf, List.length_cons]; omega⟩
    show (some (eval k env), _) :: List.zip (evalEachOpt ks env) _ = _
    rw [h1]; rfl
  | [], [], _ :: _, a => a.elim
  | [], _ :: _, _, a => by cases a
  | [_], _, _, a => by cases a
  | _ :: _ :: _, [], _, a => by cases a
  | _ :: _ :: _, none :: _, _, a => by cases a
  | _ :: _ :: _, some _ :: _, [], a => by cases a

noncomputable def GivesP (G : Gx) (ρ : Rho) (H : Hp) (s : Shared) (es : List (List Nat × V)) (r : List (List Nat × V) × Hp) (Q : List (Value × Value) → Shared → Prop) : Prop :=
  ∀ ρ' h' tk vs, Sta G ρ' r.2 h' → Step NoF ρ H s.heap ρ' r.2 h' → (∃ kvs, Carries (PySem.strKind G.prog G.w) vs kvs ∧ ∀ kvs0, RepS h' ρ' es kvs0 → RepS h' ρ' r.1 (merged kvs0 kvs)) → Q vs { s with heap := h', toks := tk }
theorem strKind_is (k : Str) (t : Tok) : (PySem.strKind G.prog G.w).is k (.str k t) = true := by simp [PySem.strKind, Value.isStrOf]
theorem pairs_snd {pos : Pos} : ∀ {l : List X} {ks : List (Option PySem.Expr)} {vs : List PySem.Expr} {es : List (List Nat × V)} {ρ : Rho} {H : Hp} {s : Shared} {r : List (List Nat × V) × Hp} {Q : List (Value × Value) → Shared → Prop}, AllP G d c M l ks vs →
    evP c σ l es H = some r → Now G d M A env σ ρ H s → GivesP G ρ H s es r Q → wpAny (model G.prog G.w) A (evalPairs (pairsOf pos env ks vs)) Q E s
  | [], [], [], es, ρ, H, s, r, Q, _, h, N, g => by
    cases h
    exact wpAny_pure (g ρ s.heap s.toks [] N.sta (.refl _ _ _ _) ⟨[], trivial, fun q_ h => h⟩)
  | x :: y :: l, some k :: ks, v :: vs, es, ρ, H, s, r, Q, ⟨a1, a2, a3⟩, h, N, g => by
    refine byC fun nG => ?_
    refine bind_in h fun a h1 h_ => ?_; clear h; rename _ = _ => h
    refine bind_in h fun b h2 h_ => ?_; clear h; rename _ = _ => h
    refine vStr_in h fun kk ek h_ => ?_; clear h; rename _ = _ => h
    refine nG ?_
    unfold pairsOf
    rw [evalPairs]
    refine wpAny_bind (a1 h1 N fun ρ1 h1' tk1 z S1 T1 r1 => ?_)
    rw [ek] at r1
    refine byC fun nG => ?_
    obtain ⟨t, rfl⟩ := r1
    refine nG ?_
    refine wpAny_bind (wpAny_holding (wpAny_bind (a2 h2 (N.step S1 T1 tk1) fun ρ2 h2' tk2 y' S2 T2 r2 => wpAny_bind (wpAny_standAt (wpAny_pure ?_)))))
    refine wpAny_bind (wpAny_holding (pairs_snd a3 h ((N.step S1 T1 tk1).step S2 T2 tk2) fun ρ3 h3' tk3 vs' S3 T3 hc => wpAny_pure ?_))
    refine g ρ3 h3' tk3 _ S3 ((T1.trans T2).trans T3) ?_
    refine byC fun nG => ?_
    obtain ⟨kvs, c1, c2⟩ := hc
    refine nG ?_
    exact ⟨(strV kk, y') :: kvs, ⟨strKind_is _ _, rfl, c1⟩, fun kvs0 h0 => c2 _ (repS_put kk (r2.mono T3.fix T3.pre) h0)⟩
  | [], [], _ :: _, _, _, _, _, _, _, a, _, _, _ => a.elim
  | [], _ :: _, _, _, _, _, _, _, _, a, _, _, _ => by cases a
  | [_], _, _, _, _, _, _, _, _, a, _, _, _ => by cases a
  | _ :: _ :: _, [], _, _, _, _, _, _, _, a, _, _, _ => by cases a
  | _ :: _ :: _, none :: _, _, _, _, _, _, _, _, a, _, _, _ => by cases a
  | _ :: _ :: _, some _ :: _, [], _, _, _, _, _, _, a, _, _, _ => by cases a
end
end Mine
end
/-! Snd14 -/
section
set_option Elab.async false
set_option genSizeOf false
set_option linter.all false
set_option maxRecDepth 100000
open PySem PySem.W PyProof.Rows
namespace Mine

section
variable {G : Gx} {fa : Nat → Addr} {init : Nat → Nat} {d : Nat} {cf : CF} {gl : List V}

structure Amb (G : Gx) (fa : Nat → Addr) (init : Nat → Nat) (gl : List V) (d : Nat) (cf : CF) : Prop where
  C : ClsOk G fa init
  Ge : GeOk G fa gl
  an : G.attrN = attrNames
  SF : SndF G fa d cf

theorem few1 {pos : Pos} {env : Env} {a : PySem.Expr} (n : NotStar a) : ((backTo pos (starEach [a] env)).all (fun x => !x.1) && (backToKw pos (keywordEach [] env)).all (fun x => x.1.isSome)
      && decide (([a] : List PySem.Expr).length + ([] : List Keyword).length + (if ([] : List Keyword).isEmpty then 0 else 1) < 30)) = true := by
  rw [star_cons n]; rfl
theorem few2 {pos : Pos} {env : Env} {a b : PySem.Expr} (n : NotStar a) (m : NotStar b) : ((backTo pos (starEach [a, b] env)).all (fun x => !x.1) && (backToKw pos (keywordEach [] env)).all (fun x => x.1.isSome)
      && decide (([a, b] : List PySem.Expr).length + ([] : List Keyword).length + (if ([] : List Keyword).isEmpty then 0 else 1) < 30)) = true := by
  rw [star_cons n, star_cons m]; rfl
theorem tree1 {pos : Pos} {env : Env} {a : PySem.Expr} (n : NotStar a) : backTo pos (starEach [a] env) = [(false, eval a env)] := by rw [star_cons n]; rfl
theorem tree2 {pos : Pos} {env : Env} {a b : PySem.Expr} (n : NotStar a) (m : NotStar b) : backTo pos (starEach [a, b] env) = [(false, eval a env), (false, eval b env)] := by rw [star_cons n, star_cons m]; rfl

section
variable {A : Around} {E : Value → Shared → Prop} {s : Shared} {ρ : Rho} {H : Hp} {Q : Value → Shared → Prop} {M : Mx} {env : Env} {σ : Lo}

theorem call_case (B : Amb G fa init gl d cf) {f : Nat} {n : Str} {np pos : Pos} {args : List X} {args' : List PySem.Expr} {r : V × Hp} (hf : f < 43) (hn : fnNames[f]? = some n) (hb : globB M n = true) (hp : mL M args args' = true) (al : AllE G d ⟨cf, gl, init⟩ M args args')
    (hv : evE ⟨cf, gl, init⟩ σ (.call f args) H = some r) (N : Now G d M A env σ ρ H s) (g : Gives G ρ H s r Q) : wpAny (model G.prog G.w) A (eval (.Call (.Name n np) args' [] pos) env) Q E s := by
  refine byC fun nG => ?_
  refine bind_in hv fun a h1 hv_ => ?_; clear hv; rename _ = _ => hv
  obtain ⟨mg, mb, g1, g2, g3, _, _, _⟩ := B.Ge.ns
  obtain ⟨e1, e2⟩ := g3 f n hf hn
  refine nG ?_
  refine wpAny_Call_NameR (name_glob N hb g1 e1 ?_)
  refine callWith_of (P := G.K.In) (by rw [mL_plain hp]; rfl) (keeps_K e2) (args_of hp (evL_snd al h1 N fun ρ1 h1' tk1 ys S1 T1 r1 => ⟨S1.inK B.C, ?_⟩))
  refine byC fun nG => bind_in hv fun p hc hv1 => crRet_in hv1 fun v ev hv2 => some_in hv2 fun er => ?_
  clear hv hv1 hv2
  obtain ⟨p1, H'⟩ := p
  cases ev
  subst er
  exact nG (wpAny_call (B.SF (s := { s with heap := h1', toks := tk1 }) hc S1 ((N.ok.step T1).less (by omega) (by omega)) r1 fun ρ' h' tk x S' T' r' => g ρ' h' tk x S' (T1.trans T') r'))

theorem new_case (B : Amb G fa init gl d cf) {k : Nat} {n : Str} {np pos : Pos} {args : List X} {args' : List PySem.Expr} {r : V × Hp} (hk : k < 3) (hn : clsNames[k]? = some n) (hb : globB M n = true) (hp : mL M args args' = true) (al : AllE G d ⟨cf, gl, init⟩ M args args')
    (hv : evE ⟨cf, gl, init⟩ σ (.new k args) H = some r) (N : Now G d M A env σ ρ H s) (g : Gives G ρ H s r Q) : wpAny (model G.prog G.w) A (eval (.Call (.Name n np) args' [] pos) env) Q E s := by
  refine byC fun nG => ?_
  refine bind_in hv fun a h1 hv_ => ?_; clear hv; rename _ = _ => hv
  obtain ⟨mg, mb, g1, g2, _, g4, _, _⟩ := B.Ge.ns
  refine nG ?_
  refine wpAny_Call_NameR (name_glob N hb g1 (g4 k n hk hn) ?_)
  refine callWith_of (P := G.K.In) (by rw [mL_plain hp]; rfl) (keeps_K (B.C.keep k hk)) (args_of hp (evL_snd al h1 N fun ρ1 h1' tk1 ys S1 T1 r1 => ⟨S1.inK B.C, ?_⟩))
  exact new_snd (s := { s with heap := h1', toks := tk1 }) B.C B.SF hk hv S1 (N.ok.step T1) r1 (Gives.on (s := s) g T1)

theorem bi_case (B : Amb G fa init gl d cf) {b : Bi} {np pos : Pos} {args : List X} {args' : List PySem.Expr} {r : V × Hp} (hb : globB M (biName b) = true) (hp : mL M args args' = true) (al : AllE G d ⟨cf, gl, init⟩ M args args')
    (hv : evE ⟨cf, gl, init⟩ σ (.bi b args) H = some r) (N : Now G d M A env σ ρ H s) (g : Gives G ρ H s r Q) : wpAny (model G.prog G.w) A (eval (.Call (.Name (biName b) np) args' [] pos) env) Q E s := by
  refine byC fun nG => ?_
  refine bind_in hv fun a h1 hv_ => ?_; clear hv; rename _ = _ => hv
  obtain ⟨mg, mb, g1, g2, _, _, _, g6⟩ := B.Ge.ns
  refine nG ?_
  refine wpAny_Call_NameR (name_blt N hb g1 g2 (g6 b).1 (g6 b).2 ?_)
  have fin : ∀ ρ1 h1' tk1 ys, Sta G ρ1 a.2 h1' → Step NoF ρ H s.heap ρ1 a.2 h1' → RepL h1' ρ1 a.1 ys → wpAny (model G.prog G.w) A (call (biPy b) ys) Q E { s with heap := h1', toks := tk1 } := fun ρ1 h1' tk1 ys S1 T1 r1 =>
    bi_snd (s := { s with heap := h1', toks := tk1 }) hv N.ok.hand S1 r1 (Gives.on (s := s) g T1)
  cases b
  case len => exact Calls.callWith_builtin (mL_plain hp) (args_of hp (evL_snd al h1 N fun ρ1 h1' tk1 ys S1 T1 r1 => fin ρ1 h1' tk1 ys S1 T1 r1))
  case sum => exact Calls.callWith_builtin (mL_plain hp) (args_of hp (evL_snd al h1 N fun ρ1 h1' tk1 ys S1 T1 r1 => fin ρ1 h1' tk1 ys S1 T1 r1))
  all_goals exact PyProof.Rows.callWith_type (mL_plain hp) (args_of hp (evL_snd al h1 N fun ρ1 h1' tk1 ys S1 T1 r1 => fin ρ1 h1' tk1 ys S1 T1 r1))

theorem isList_of {v : V} {H : Hp} (h : isListV v H = true) : ∃ k : Nat, v = .obj k ∧ ∃ l, H[k]? = some (.list l) := by
  obtain ⟨q, h⟩ := Option.isSome_iff_exists.mp h
  exact vObj_in h fun k e h => oList_in h fun l e2 q_ => ⟨k, e, l, e2⟩
theorem isDict_of {v : V} {H : Hp} (h : isDictV v H = true) : ∃ k : Nat, v = .obj k ∧ ∃ l, H[k]? = some (.dict l) := by
  obtain ⟨q, h⟩ := Option.isSome_iff_exists.mp h
  exact vObj_in h fun k e h => oD_in h fun l e2 q_ => ⟨k, e, l, e2⟩
theorem append_case (B : Amb G fa init gl d cf) {o a : X} {o' a' : PySem.Expr} {ap pos : Pos} {r : V × Hp} (hn : noCall o' = true) (hl : (ap.endLine == pos.line) = true) (ns : NotStar a') (so : SoundE G d ⟨cf, gl, init⟩ M o o') (sa : SoundE G d ⟨cf, gl, init⟩ M a a')
    (hv : evE ⟨cf, gl, init⟩ σ (.append o a) H = some r) (N : Now G d M A env σ ρ H s) (g : Gives G ρ H s r Q) : wpAny (model G.prog G.w) A (eval (.Call (.Attribute o' "append" ap) [a'] [] pos) env) Q E s := by
  refine byC fun nG => ?_
  refine bind_in hv fun x h1 hv_ => ?_; clear hv; rename _ = _ => hv
  refine grd_in hv fun hk hv_ => ?_; clear hv; rename _ = _ => hv
  refine bind_in hv fun y h2 hv_ => ?_; clear hv; rename _ = _ => hv
  refine bind_in hv fun H' h3 hv_ => ?_; clear hv; rename _ = _ => hv
  cases hv
  refine nG ?_
  refine wpAny_Call_append (base_eq hn) (few1 ns) hl (tree1 ns) (so h1 N fun ρ1 hp1 tk1 xv S1 T1 r1 => ?_)
  refine byC fun nG => ?_
  obtain ⟨k, ek, l, el⟩ : ∃ (k : Nat), x.1 = .obj k ∧ ∃ l, x.2[k]? = some (.list l) := isList_of hk
  have r1k := r1
  rw [ek] at r1k
  obtain ⟨ad, xs, rfl, _, ⟨n, ho⟩, _⟩ := S1.list r1k el
  refine nG ?_
  refine ⟨ad, xs.toArray, rfl, ⟨_, n, ho, rfl, rfl, rfl⟩, sa h2 (N.step S1 T1 tk1) fun ρ2 hp2 tk2 yv S2 T2 r2 => ?_⟩
  refine byC fun nG => ?_
  obtain ⟨_, _, _, _, w⟩ := append_snd (A := A) (E := E) (s := { s with heap := hp2, toks := tk2 }) h3 S2 (r1.mono T2.fix T2.pre) r2 fun h' tk S3 T3 => g ρ2 h' tk .none S3 ((T1.trans T2).trans T3) rfl
  refine nG ?_
  exact w

theorem method1_case (B : Amb G fa init gl d cf) {o a : X} {o' a' : PySem.Expr} {ap pos : Pos} {nm : Str} {id T : String} (hn : noCall o' = true) (hl : (ap.endLine == pos.line) = true) (ns : NotStar a') (so : SoundE G d ⟨cf, gl, init⟩ M o o') (sa : SoundE G d ⟨cf, gl, init⟩ M a a')
    (pa : PlainAttrs T) (slot : Slot T nm id) (hty : typeOf (.builtin id) = pure (.type "method_descriptor")) {x y : V × Hp} {v : V} (h1 : evE ⟨cf, gl, init⟩ σ o H = some x) (h2 : evE ⟨cf, gl, init⟩ σ a x.2 = some y) (N : Now G d M A env σ ρ H s) (g : Gives G ρ H s (v, y.2) Q)
    (ht : ∀ {h ρ z} {s' : Shared}, Sta G ρ x.2 h → RepV h ρ x.1 z → s'.heap = h → s'.TypeIs z T ∧ ∀ a, z = .ref a → ∃ ob, h.get? a = some ob ∧ ob.dict = none)
    (hc : ∀ {ρ : Rho} {s : Shared} {z w : Value} {Q : Value → Shared → Prop}, Sta G ρ y.2 s.heap → RepV s.heap ρ x.1 z → RepV s.heap ρ y.1 w → (∀ tk u, RepV s.heap ρ v u → Q u { s with toks := tk }) → wpAny (model G.prog G.w) A (call (.builtin id) [z, w]) Q E s) :
    wpAny (model G.prog G.w) A (eval (.Call (.Attribute o' nm ap) [a'] [] pos) env) Q E s := by
  refine wpAny_Call_method (base_eq hn) (few1 ns) hl pa slot hty (so h1 N fun ρ1 hp1 tk1 xv S1 T1 r1 => ?_)
  obtain ⟨t1, t2⟩ := ht (s' := { s with heap := hp1, toks := tk1 }) S1 r1 rfl
  refine ⟨t1, t2, ?_⟩
  rw [tree1 ns]
  refine Calls.callWith_builtin rfl (Calls.evalArgs_plain (Calls.spliced_cons (sa h2 (N.step S1 T1 tk1) fun ρ2 hp2 tk2 yv S2 T2 r2 => Calls.spliced_nil ?_)))
  exact hc (s := { s with heap := hp2, toks := tk2 }) S2 (r1.mono T2.fix T2.pre) r2 fun tk u ru => g ρ2 hp2 tk u S2 (T1.trans T2) ru

theorem join_case (B : Amb G fa init gl d cf) {o a : X} {o' a' : PySem.Expr} {ap pos : Pos} {r : V × Hp} (hn : noCall o' = true) (hl : (ap.endLine == pos.line) = true) (ns : NotStar a') (so : SoundE G d ⟨cf, gl, init⟩ M o o') (sa : SoundE G d ⟨cf, gl, init⟩ M a a')
    (hv : evE ⟨cf, gl, init⟩ σ (.join o a) H = some r) (N : Now G d M A env σ ρ H s) (g : Gives G ρ H s r Q) : wpAny (model G.prog G.w) A (eval (.Call (.Attribute o' "join" ap) [a'] [] pos) env) Q E s := by
  refine byC fun nG => ?_
  refine bind_in hv fun x h1 hv_ => ?_; clear hv; rename _ = _ => hv
  refine bind_in hv fun y h2 hv_ => ?_; clear hv; rename _ = _ => hv
  refine bind_in hv fun v h3 hv_ => ?_; clear hv; rename _ = _ => hv
  cases hv
  refine nG ?_
  refine method1_case B hn hl ns so sa F.plainAttrs_str F.slot_str_join F.type_str_join h1 h2 N g (fun {hz ρz z sz} S r e => ?_) (fun S r1 r2 q => (join_snd h3 S r1 r2 q).choose_spec.choose_spec.2)
  exact vStr_in h3 fun q_ e1 q_ => by
    rw [e1] at r
    obtain ⟨t, rfl⟩ := r
    exact ⟨rfl, fun a e => nomatch e⟩

theorem find_case (B : Amb G fa init gl d cf) {o a : X} {o' a' : PySem.Expr} {ap pos : Pos} {r : V × Hp} (hn : noCall o' = true) (hl : (ap.endLine == pos.line) = true) (ns : NotStar a') (so : SoundE G d ⟨cf, gl, init⟩ M o o') (sa : SoundE G d ⟨cf, gl, init⟩ M a a')
    (hv : evE ⟨cf, gl, init⟩ σ (.find o a) H = some r) (N : Now G d M A env σ ρ H s) (g : Gives G ρ H s r Q) : wpAny (model G.prog G.w) A (eval (.Call (.Attribute o' "find" ap) [a'] [] pos) env) Q E s := by
  refine byC fun nG => ?_
  refine bind_in hv fun x h1 hv_ => ?_; clear hv; rename _ = _ => hv
  refine bind_in hv fun y h2 hv_ => ?_; clear hv; rename _ = _ => hv
  refine bind_in hv fun v h3 hv_ => ?_; clear hv; rename _ = _ => hv
  cases hv
  refine nG ?_
  refine method1_case B hn hl ns so sa F.plainAttrs_str F.slot_str_find F.type_str_find h1 h2 N g (fun {hz ρz z sz} S r e => ?_) (fun S r1 r2 q => (find_snd h3 S r1 r2 q).choose_spec.choose_spec.2)
  exact vStr_in h3 fun q_ e1 q_ => by
    rw [e1] at r
    obtain ⟨t, rfl⟩ := r
    exact ⟨rfl, fun a e => nomatch e⟩

theorem lower_case (B : Amb G fa init gl d cf) {o : X} {o' : PySem.Expr} {ap pos : Pos} {r : V × Hp} (hn : noCall o' = true) (hl : (ap.endLine == pos.line) = true) (so : SoundE G d ⟨cf, gl, init⟩ M o o')
    (hv : evE ⟨cf, gl, init⟩ σ (.lower o) H = some r) (N : Now G d M A env σ ρ H s) (g : Gives G ρ H s r Q) : wpAny (model G.prog G.w) A (eval (.Call (.Attribute o' "lower" ap) [] [] pos) env) Q E s := by
  refine byC fun nG => ?_
  refine bind_in hv fun x h1 hv_ => ?_; clear hv; rename _ = _ => hv
  refine bind_in hv fun v h3 hv_ => ?_; clear hv; rename _ = _ => hv
  cases hv
  refine nG ?_
  refine wpAny_Call_method (base_eq hn) rfl hl F.plainAttrs_str F.slot_str_lower F.type_str_lower (so h1 N fun ρ1 hp1 tk1 xv S1 T1 r1 => ?_)
  refine byC fun nG => ?_
  obtain ⟨sx, t, rfl, w⟩ := lower_snd (A := A) (E := E) (Q := Q) (s := { s with heap := hp1, toks := tk1 }) h3 S1 r1 fun tk u ru => g ρ1 hp1 tk u S1 T1 ru
  refine nG ?_
  exact ⟨rfl, (fun a e => nomatch e), Calls.callWith_builtin rfl (evalArgs_nil3 w)⟩

theorem get_case (B : Amb G fa init gl d cf) {o k dd : X} {o' k' d' : PySem.Expr} {ap pos : Pos} {r : V × Hp} (hn : noCall o' = true) (hl : (ap.endLine == pos.line) = true) (ns : NotStar k') (ms : NotStar d') (so : SoundE G d ⟨cf, gl, init⟩ M o o') (sk : SoundE G d ⟨cf, gl, init⟩ M k k') (sd : SoundE G d ⟨cf, gl, init⟩ M dd d')
    (hv : evE ⟨cf, gl, init⟩ σ (.get o k dd) H = some r) (N : Now G d M A env σ ρ H s) (g : Gives G ρ H s r Q) : wpAny (model G.prog G.w) A (eval (.Call (.Attribute o' "get" ap) [k', d'] [] pos) env) Q E s := by
  refine byC fun nG => ?_
  refine bind_in hv fun x h1 hv_ => ?_; clear hv; rename _ = _ => hv
  refine grd_in hv fun hk hv_ => ?_; clear hv; rename _ = _ => hv
  refine bind_in hv fun y h2 hv_ => ?_; clear hv; rename _ = _ => hv
  refine bind_in hv fun z h3 hv_ => ?_; clear hv; rename _ = _ => hv
  refine bind_in hv fun v h4 hv_ => ?_; clear hv; rename _ = _ => hv
  cases hv
  refine nG ?_
  refine wpAny_Call_method (base_eq hn) (few2 ns ms) hl F.plainAttrs_dict F.slot_dict_get F.type_dict_get (so h1 N fun ρ1 hp1 tk1 xv S1 T1 r1 => ?_)
  refine byC fun nG => ?_
  obtain ⟨kk, ek, es, el⟩ : ∃ (k : Nat), x.1 = .obj k ∧ ∃ l, x.2[k]? = some (.dict l) := isDict_of hk
  have r1k := r1
  rw [ek] at r1k
  obtain ⟨ad, kvs, rfl, _, _, hd, _⟩ := S1.dict r1k (.inl el)
  refine nG ?_
  refine ⟨hd.typeIs (s := { s with heap := hp1, toks := tk1 }), hd.mapOf.noDict, ?_⟩
  rw [tree2 ns ms]
  refine Calls.callWith_builtin rfl (Calls.evalArgs_plain (Calls.spliced_cons (sk h2 (N.step S1 T1 tk1) fun ρ2 hp2 tk2 yv S2 T2 r2 => Calls.spliced_cons (sd h3 ((N.step S1 T1 tk1).step S2 T2 tk2) fun ρ3 hp3 tk3 zv S3 T3 r3 => Calls.spliced_nil ?_))))
  refine byC fun nG => ?_
  obtain ⟨_, _, _, _, w⟩ := get_snd (A := A) (E := E) (Q := Q) (s := { s with heap := hp3, toks := tk3 }) h4 S3 ((r1.mono T2.fix T2.pre).mono T3.fix T3.pre) (r2.mono T3.fix T3.pre) r3 fun tk u ru => g ρ3 hp3 tk u S3 ((T1.trans T2).trans T3) ru
  refine nG ?_
  exact w
end
end
end Mine
end
/-! Snd15 -/
section
set_option Elab.async false
set_option genSizeOf false
set_option linter.all false
set_option maxRecDepth 100000
open PySem PySem.W PyProof.Rows
namespace Mine

section
variable {G : Gx} {fa : Nat → Addr} {init : Nat → Nat} {d : Nat} {cf : CF} {gl : List V}
section
variable {A : Around} {E : Value → Shared → Prop} {s : Shared} {ρ : Rho} {H : Hp} {Q : Value → Shared → Prop} {M : Mx} {env : Env} {σ : Lo}

theorem Now.cmpu (N : Now G d M A env σ ρ H s) : A.units + 70 < cLine := by
  have := N.ok.uni
  have e : cLine = 9900 := rfl
  omega
theorem cmp2_marks {o1 o2 : CmpOp} {y z : PySem.Expr} (h : noSet z = true) : lastMarks [o1, o2] [y, z] = false := by
  simp only [lastMarks]
  exact noSet_marks h

theorem tup_case {c : Cx} {l : List X} {es : List PySem.Expr} {k : Nat} {pos : Pos} {r : V × Hp} (al : AllE G d c M l es) (hl : Nat.ble l.length 1000 = true) (hv : evE c σ (.tup l) H = some r) (N : Now G d M A env σ ρ H s) (g : Gives G ρ H s r Q) :
    wpAny (model G.prog G.w) A (eval (.Tuple es k pos) env) Q E s := by
  refine byC fun nG => ?_
  refine bind_in hv fun a h1 hv_ => ?_; clear hv; rename _ = _ => hv
  cases hv
  refine nG ?_
  refine Tuple_ (evL_snd al h1 N fun ρ1 hp1 tk1 ys S1 T1 r1 => ?_)
  have hz : ys.length ≤ sizeLine := by
    rw [r1.length, evL_len h1]
    have := Nat.le_of_ble_eq_true hl
    have e : sizeLine = 2 ^ 24 := rfl
    omega
  refine wpAny_newTuple (hsz := hz) ?_
  refine g ρ1 _ tk1 _ (S1.push _) (T1.trans (.push _)) ⟨_, ys, rfl, ⟨_, Heap.get?_push_size _ rfl, rfl, _, rfl⟩, r1.mono (fun a o e q_ => push_keep _ _ a o e) (.refl _)⟩
theorem list_case {c : Cx} {l : List X} {es : List PySem.Expr} {pos : Pos} {r : V × Hp} (al : AllE G d c M l es) (hl : Nat.ble l.length 1000 = true) (hv : evE c σ (.list l) H = some r) (N : Now G d M A env σ ρ H s) (g : Gives G ρ H s r Q) :
    wpAny (model G.prog G.w) A (eval (.List es pos) env) Q E s := by
  refine byC fun nG => ?_
  refine bind_in hv fun a h1 hv_ => ?_; clear hv; rename _ = _ => hv
  cases hv
  refine nG ?_
  refine List_ (evL_snd al h1 N fun ρ1 hp1 tk1 ys S1 T1 r1 => ?_)
  have hz : ys.length ≤ sizeLine := by
    rw [r1.length, evL_len h1]
    have := Nat.le_of_ble_eq_true hl
    have e : sizeLine = 2 ^ 24 := rfl
    omega
  refine wpAny_newList (hsz := hz) ?_
  exact give_list (s := { s with heap := hp1, toks := tk1 }) (tk := tk1) S1 r1 (push_keep _ _) _ (top_none _) (plain_push _ _ _) (Gives.on (s := s) g T1)
theorem not_mods (B : Amb G fa init gl d cf) (S : Sta G ρ H s.heap) : (s.heap.objs.size == sysModules) = false := by
  have h1 : sysModules < s.heap.objs.size := modules_low (B.Ge.nolimit.keeps S.base)
  exact beq_eq_false_iff_ne.mpr (Nat.ne_of_gt h1)
theorem dict0_case {c : Cx} {pos : Pos} {r : V × Hp} (B : Amb G fa init gl d cf) (hv : evE c σ .dict0 H = some r) (N : Now G d M A env σ ρ H s) (g : Gives G ρ H s r Q) :
    wpAny (model G.prog G.w) A (eval (.Dict [] [] pos) env) Q E s := by
  cases hv
  refine wpAny_Dict_empty ?_
  obtain ⟨S', T'⟩ := N.sta.alloc (p := (s.heap.objs.size, s.heap.objs.size)) (o := .dict []) (push_keep s.heap { cls := .type "dict", data := .dict #[] }) (top_none _) ⟨rfl, not_mods B N.sta, [], Heap.DictOf.new _, rfl⟩
  exact g _ _ s.toks (.ref s.heap.objs.size) S' T' ⟨_, s.heap.objs.size, rfl, by rw [← N.sta.len]; simp⟩
theorem sdict_case {c : Cx} {l : List X} {ks : List (Option PySem.Expr)} {vs : List PySem.Expr} {pos : Pos} {r : V × Hp} (B : Amb G fa init gl d cf) (al : AllP G d c M l ks vs) (h0 : l ≠ []) (hl : Nat.ble l.length 30 = true) (hv : evE c σ (.sdict l) H = some r) (N : Now G d M A env σ ρ H s) (g : Gives G ρ H s r Q) :
    wpAny (model G.prog G.w) A (eval (.Dict ks vs pos) env) Q E s := by
  refine byC fun nG => ?_
  refine bind_in hv fun a h1 hv_ => ?_; clear hv; rename _ = _ => hv
  refine oSd_in hv fun es0 hk hv1 => lNil_in hv1 fun e0 hv2 => some_in hv2 fun er => ?_
  clear hv hv1 hv2
  subst e0 er
  obtain ⟨p1, p2⟩ := pairs_shape (pos := pos) (env := env) al
  have hl' := Nat.le_of_ble_eq_true hl
  have nm := not_mods B N.sta
  refine nG ?_
  refine wpAny_Dict_pairs (knd := PySem.strKind G.prog G.w) p1 (by
    intro e
    have : (pairsOf pos env ks vs).length = 0 := by rw [e]; rfl
    have : l.length = 0 := by omega
    exact h0 (List.length_eq_zero_iff.mp this)) (by omega) ?_
  obtain ⟨S0, T0⟩ := N.sta.alloc (p := (s.heap.objs.size, s.heap.objs.size)) (o := .sdict []) (push_keep s.heap { cls := .type "dict", data := .dict #[] }) (top_none _) ⟨rfl, nm, [], Heap.DictOf.new _, rfl⟩
  have hρ : (ρ ++ [(s.heap.objs.size, s.heap.objs.size)])[H.length]? = some (s.heap.objs.size, s.heap.objs.size) := by rw [← N.sta.len]; simp
  generalize hD : s.heap.objs.size = D at *
  have N' : Now G d M A env σ (ρ ++ [(D, D)]) (H ++ [.sdict []]) { s with heap := s.heap.push { cls := .type "dict", data := .dict #[] } } := N.step S0 T0 s.toks
  refine pairs_snd al h1 N' fun ρ1 hp1 tk1 ws S1 T1 ⟨kvs, c1, c2⟩ => ?_
  dsimp only at T1
  have hρ1 := T1.pre.get hρ
  refine byC fun nG => ?_
  obtain ⟨_, _, kvs0, hd0, hr0⟩ := S1.rep _ _ _ hρ1 hk
  rw [RepS] at hr0
  subst hr0
  refine nG ?_
  refine ⟨kvs, c1, hd0, fun h' hd' hs' => ?_⟩
  obtain ⟨S2, T2⟩ := S1.write (o' := .sdict a.1) hρ1 hk rfl rfl hs' rfl fun kf => ⟨rfl, nm, _, hd', (c2 [] rfl).mono kf (.refl _)⟩
  exact g _ h' _ (.ref D) S2 ((T0.trans T1).trans T2) ⟨D, D, rfl, hρ1⟩
end
end
end Mine
end
/-! Snd16 -/
section
set_option Elab.async false
set_option genSizeOf false
set_option linter.all false
set_option maxRecDepth 100000
open PySem PySem.W PyProof.Rows
namespace Mine

section
variable {G : Gx} {fa : Nat → Addr} {init : Nat → Nat} {d : Nat} {cf : CF} {gl : List V}

theorem Pre.nil (ρ : Rho) : Pre [] ρ := ⟨ρ, rfl⟩

mutual
theorem sndE (B : Amb G fa init gl d cf) : ∀ (x : X) (M : Mx) (e : PySem.Expr), mE M x e = true → SoundE G d ⟨cf, gl, init⟩ M x e
  | .bad, M, e, h => (Bool.false_ne_true h).elim
  | .cint i, M, e, h => by
    refine onConst_in (P := SoundE G d ⟨cf, gl, init⟩ M (.cint i)) h fun c k p h => ?_
    intro A env σ ρ H s rr Q E hv N g
    rw [beq_iff_eq.mp h]
    cases hv
    exact wpAny_Constant_int (g.here N.sta ⟨_, rfl⟩ _)
  | .cstr t, M, e, h => by
    refine onConst_in (P := SoundE G d ⟨cf, gl, init⟩ M (.cstr t)) h fun c k p h => ?_
    intro A env σ ρ H s rr Q E hv N g
    rw [beq_iff_eq.mp h]
    cases hv
    exact wpAny_Constant_str (g.here N.sta ⟨_, rfl⟩ _)
  | .cbool b, M, e, h => by
    refine onConst_in (P := SoundE G d ⟨cf, gl, init⟩ M (.cbool b)) h fun c k p h => ?_
    intro A env σ ρ H s rr Q E hv N g
    rw [beq_iff_eq.mp h]
    cases hv
    exact wpAny_Constant_bool (g.here N.sta rfl _)
  | .cnone, M, e, h => by
    refine onConst_in (P := SoundE G d ⟨cf, gl, init⟩ M (.cnone)) h fun c k p h => ?_
    intro A env σ ρ H s rr Q E hv N g
    rw [beq_iff_eq.mp h]
    cases hv
    exact wpAny_Constant_none (g.here N.sta rfl _)
  | .loc i, M, e, h => by
    refine onName_in (P := SoundE G d ⟨cf, gl, init⟩ M (.loc i)) h fun n p h => ?_
    intro A env σ ρ H s rr Q E hv N g
    exact sGet_in hv fun v hs hv => some_in hv fun er => name_loc N h hs fun x r => by subst er; exact g.here N.sta r _
  | .glob k, M, e, h => by
    refine onName_in (P := SoundE G d ⟨cf, gl, init⟩ M (.glob k)) h fun n p h => ?_
    intro A env σ ρ H s rr Q E hv N g
    have h := band h
    refine byC fun nG => ?_
    refine bind_in hv fun v h1 hv_ => ?_; clear hv; rename _ = _ => hv
    cases hv
    obtain ⟨mg, mb, g1, g2, _, _, g5, _⟩ := B.Ge.ns
    obtain ⟨x, hx, rx⟩ := g5 k _ (beq_iff_eq.mp h.1) v h1
    refine nG ?_
    exact name_glob N h.2 g1 hx (g.here N.sta (rx.mono (fun a o e q_ => N.sta.base a o e) (Pre.nil _)) _)
  | .bin op l r, M, e, h => by
    refine onBin_in (P := SoundE G d ⟨cf, gl, init⟩ M (.bin op l r)) h fun l' o r' p h => ?_
    obtain ⟨ho, h⟩ := band h
    rw [beq_iff_eq.mp ho]
    have h := band h
    intro A env σ ρ H s rr Q E hv N g
    refine byC fun nG => ?_
    refine bind_in hv fun a h1 hv_ => ?_; clear hv; rename _ = _ => hv
    refine bind_in hv fun b h2 hv_ => ?_; clear hv; rename _ = _ => hv
    refine nG ?_
    refine wpAny_BinOp (sndE B l M _ h.1 h1 N fun ρ1 hp1 tk1 x S1 T1 r1 => sndE B r M _ h.2 h2 (N.step S1 T1 tk1) fun ρ2 hp2 tk2 y S2 T2 r2 => ?_)
    exact bin_snd hv S2 (r1.mono T2.fix T2.pre) r2 fun ρ3 hp3 tk3 z S3 T3 r3 => g ρ3 hp3 tk3 z S3 ((T1.trans T2).trans T3) r3
  | .neg x, M, e, h => by
    refine onUn_in (P := SoundE G d ⟨cf, gl, init⟩ M (.neg x)) h fun o x' p h => ?_
    have h := band h
    rw [beq_iff_eq.mp h.1]
    intro A env σ ρ H s rr Q E hv N g
    refine byC fun nG => ?_
    refine bind_in hv fun a h1 hv_ => ?_; clear hv; rename _ = _ => hv
    refine vInt_in hv fun i hi hv1 => some_in hv1 fun er => nG ?_
    clear hv hv1
    subst er
    refine wpAny_UnaryOp (sndE B x M _ h.2 h1 N fun ρ1 hp1 tk1 y S1 T1 r1 => ?_)
    rw [hi] at r1
    refine byC fun nG => ?_
    obtain ⟨t, rfl⟩ := r1
    refine nG ?_
    exact P.neg_int (g ρ1 hp1 _ _ S1 T1 ⟨_, rfl⟩)
  | .inv x, M, e, h => by
    refine onUn_in (P := SoundE G d ⟨cf, gl, init⟩ M (.inv x)) h fun o x' p h => ?_
    have h := band h
    rw [beq_iff_eq.mp h.1]
    intro A env σ ρ H s rr Q E hv N g
    refine byC fun nG => ?_
    refine bind_in hv fun a h1 hv_ => ?_; clear hv; rename _ = _ => hv
    refine vInt_in hv fun i hi hv1 => some_in hv1 fun er => nG ?_
    clear hv hv1
    subst er
    refine wpAny_UnaryOp (sndE B x M _ h.2 h1 N fun ρ1 hp1 tk1 y S1 T1 r1 => ?_)
    rw [hi] at r1
    refine byC fun nG => ?_
    obtain ⟨t, rfl⟩ := r1
    refine nG ?_
    exact invert_int (g ρ1 hp1 _ _ S1 T1 ⟨_, rfl⟩)
  | .not x, M, e, h => by
    refine onUn_in (P := SoundE G d ⟨cf, gl, init⟩ M (.not x)) h fun o x' p h => ?_
    have h := band h
    rw [beq_iff_eq.mp h.1]
    intro A env σ ρ H s rr Q E hv N g
    refine byC fun nG => ?_
    refine bind_in hv fun a h1 hv_ => ?_; clear hv; rename _ = _ => hv
    refine bind_in hv fun b h2 hv_ => ?_; clear hv; rename _ = _ => hv
    cases hv
    refine nG ?_
    refine wpAny_UnaryOp (sndE B x M _ h.2 h1 N fun ρ1 hp1 tk1 y S1 T1 r1 => not_of (truthy_snd h2 r1 fun tk => ?_))
    exact g ρ1 hp1 tk _ S1 T1 rfl
  | .and_ l, M, e, h => by
    refine onBool_in (P := SoundE G d ⟨cf, gl, init⟩ M (.and_ l)) h fun o vs p h => ?_
    have h := band h
    rw [beq_iff_eq.mp h.1]
    intro A env σ ρ H s rr Q E hv N g
    rw [arm_eval_BoolOp]
    exact and_snd (sndL B l M _ h.2) hv N g
  | .or_ l, M, e, h => by
    refine onBool_in (P := SoundE G d ⟨cf, gl, init⟩ M (.or_ l)) h fun o vs p h => ?_
    have h := band h
    rw [beq_iff_eq.mp h.1]
    intro A env σ ρ H s rr Q E hv N g
    rw [arm_eval_BoolOp]
    exact or_snd (sndL B l M _ h.2) hv N g
  | .cmp op l r, M, e, h => by
    refine onCmp_in (P := SoundE G d ⟨cf, gl, init⟩ M (.cmp op l r)) h fun l' os rs p h => ?_
    have h := band h
    rw [beq_iff_eq.mp h.1]
    refine @on1_in _ (fun rs => SoundE G d ⟨cf, gl, init⟩ M (.cmp op l r) (.Compare l' [cmPy op] rs p)) _ _ h.2 fun r' h => ?_
    have ⟨hs, h⟩ := band h
    have h := band h
    intro A env σ ρ H s rr Q E hv N g
    refine byC fun nG => ?_
    refine bind_in hv fun a h1 hv_ => ?_; clear hv; rename _ = _ => hv
    refine bind_in hv fun b h2 hv_ => ?_; clear hv; rename _ = _ => hv
    refine bind_in hv fun t h3 hv_ => ?_; clear hv; rename _ = _ => hv
    cases hv
    refine nG ?_
    refine wpAny_Compare1 (sndE B l M _ h.1 h1 N fun ρ1 hp1 tk1 x S1 T1 r1 => sndE B r M _ h.2 h2 (N.step S1 T1 tk1) fun ρ2 hp2 tk2 y S2 T2 r2 => ?_) (noSet_marks hs)
    exact cmp_snd h3 S2 N.cmpu (r1.mono T2.fix T2.pre) r2 fun tk => g ρ2 hp2 tk _ S2 (T1.trans T2) rfl
  | .cmp2 op1 op2 x y z, M, e, h => by
    refine onCmp_in (P := SoundE G d ⟨cf, gl, init⟩ M (.cmp2 op1 op2 x y z)) h fun x' os rs p h => ?_
    have h := band h
    rw [beq_iff_eq.mp h.1]
    refine @on2_in _ (fun rs => SoundE G d ⟨cf, gl, init⟩ M (.cmp2 op1 op2 x y z) (.Compare x' [cmPy op1, cmPy op2] rs p)) _ _ h.2 fun y' z' h => ?_
    have ⟨hs, h⟩ := band h
    have ⟨hx, h⟩ := band h
    have ⟨hy, hz⟩ := band h
    intro A env σ ρ H s rr Q E hv N g
    refine byC fun nG => ?_
    refine bind_in hv fun a h1 hv_ => ?_; clear hv; rename _ = _ => hv
    refine bind_in hv fun b h2 hv_ => ?_; clear hv; rename _ = _ => hv
    refine bind_in hv fun t h3 hv_ => ?_; clear hv; rename _ = _ => hv
    refine nG ?_
    refine Compare_chain (sndE B x M _ hx h1 N fun ρ1 hp1 tk1 xv S1 T1 r1 => chain_link (sndE B y M _ hy h2 (N.step S1 T1 tk1) fun ρ2 hp2 tk2 yv S2 T2 r2 => ?_)) (cmp2_marks hs)
    refine cmp_snd h3 S2 N.cmpu (r1.mono T2.fix T2.pre) r2 fun tk => wpAny_truthy_bool ?_
    refine byC fun nG => ?_
    cases t with
    | true =>
      refine bind_in hv fun e3 h4 hv_ => ?_; clear hv; rename _ = _ => hv
      refine bind_in hv fun t' h5 hv_ => ?_; clear hv; rename _ = _ => hv
      cases hv
      refine nG ?_
      refine chain_last (sndE B z M _ hz h4 (((N.step S1 T1 tk1).step S2 T2 tk2).tok tk) fun ρ3 hp3 tk3 zv S3 T3 r3 => ?_)
      exact cmp_snd h5 S3 N.cmpu (r2.mono T3.fix T3.pre) r3 fun tk => g ρ3 hp3 tk _ S3 ((T1.trans T2).trans T3) rfl
    | false => cases hv; refine nG ?_; exact g ρ2 hp2 tk _ S2 (T1.trans T2) rfl
  | .ite t x y, M, e, h => by
    refine onIf_in (P := SoundE G d ⟨cf, gl, init⟩ M (.ite t x y)) h fun t' x' y' p h => ?_
    have ⟨ht, h⟩ := band h
    have ⟨hx, hy⟩ := band h
    intro A env σ ρ H s rr Q E hv N g
    refine byC fun nG => ?_
    refine bind_in hv fun a h1 hv_ => ?_; clear hv; rename _ = _ => hv
    refine nG ?_
    refine wpAny_IfExp (sndT B t M _ ht h1 N fun ρ1 hp1 tk1 S1 T1 => ?_)
    refine byC fun nG => ?_
    obtain ⟨b, Hb⟩ := a
    cases b with
    | true => refine nG ?_; exact sndE B x M _ hx hv (N.step S1 T1 tk1) fun ρ2 hp2 tk2 y S2 T2 r2 => g ρ2 hp2 tk2 y S2 (T1.trans T2) r2
    | false => refine nG ?_; exact sndE B y M _ hy hv (N.step S1 T1 tk1) fun ρ2 hp2 tk2 y S2 T2 r2 => g ρ2 hp2 tk2 y S2 (T1.trans T2) r2
  | .call f args, M, e, h => by
    refine onFn_in (P := SoundE G d ⟨cf, gl, init⟩ M (.call f args)) h fun n q args' p h => ?_
    have ⟨h, hl⟩ := band h
    have ⟨hf, h⟩ := band h
    have ⟨hn, hb⟩ := band h
    intro A env σ ρ H s rr Q E hv N g
    exact call_case B (Nat.le_of_ble_eq_true hf) (beq_iff_eq.mp hn) hb hl (sndL B args M _ hl) hv N g
  | .new k args, M, e, h => by
    refine onFn_in (P := SoundE G d ⟨cf, gl, init⟩ M (.new k args)) h fun n q args' p h => ?_
    have ⟨h, hl⟩ := band h
    have ⟨hf, h⟩ := band h
    have ⟨hn, hb⟩ := band h
    intro A env σ ρ H s rr Q E hv N g
    exact new_case B (Nat.le_of_ble_eq_true hf) (beq_iff_eq.mp hn) hb hl (sndL B args M _ hl) hv N g
  | .bi b args, M, e, h => by
    refine onFn_in (P := SoundE G d ⟨cf, gl, init⟩ M (.bi b args)) h fun n q args' p h => ?_
    have ⟨h, hl⟩ := band h
    have ⟨hn, hb⟩ := band h
    rw [beq_iff_eq.mp hn] at hb ⊢
    intro A env σ ρ H s rr Q E hv N g
    exact bi_case B hb hl (sndL B args M _ hl) hv N g
  | .append o a, M, e, h => by
    refine onMeth_in (P := SoundE G d ⟨cf, gl, init⟩ M (.append o a)) h fun o' ap l p hh h => ?_
    have ⟨hc, hl⟩ := band hh
    refine @on1_in _ (fun l => SoundE G d ⟨cf, gl, init⟩ M (.append o a) (.Call (.Attribute o' "append" ap) l [] p)) _ _ h fun a' h => ?_
    have ⟨ho, ha⟩ := band h
    intro A env σ ρ H s rr Q E hv N g
    exact append_case B hc hl (mE_notStar ha) (sndE B o M _ ho) (sndE B a M _ ha) hv N g
  | .join o a, M, e, h => by
    refine onMeth_in (P := SoundE G d ⟨cf, gl, init⟩ M (.join o a)) h fun o' ap l p hh h => ?_
    have ⟨hc, hl⟩ := band hh
    refine @on1_in _ (fun l => SoundE G d ⟨cf, gl, init⟩ M (.join o a) (.Call (.Attribute o' "join" ap) l [] p)) _ _ h fun a' h => ?_
    have ⟨ho, ha⟩ := band h
    intro A env σ ρ H s rr Q E hv N g
    exact join_case B hc hl (mE_notStar ha) (sndE B o M _ ho) (sndE B a M _ ha) hv N g
  | .find o a, M, e, h => by
    refine onMeth_in (P := SoundE G d ⟨cf, gl, init⟩ M (.find o a)) h fun o' ap l p hh h => ?_
    have ⟨hc, hl⟩ := band hh
    refine @on1_in _ (fun l => SoundE G d ⟨cf, gl, init⟩ M (.find o a) (.Call (.Attribute o' "find" ap) l [] p)) _ _ h fun a' h => ?_
    have ⟨ho, ha⟩ := band h
    intro A env σ ρ H s rr Q E hv N g
    exact find_case B hc hl (mE_notStar ha) (sndE B o M _ ho) (sndE B a M _ ha) hv N g
  | .lower o, M, e, h => by
    refine onMeth_in (P := SoundE G d ⟨cf, gl, init⟩ M (.lower o)) h fun o' ap l p hh h => ?_
    have ⟨hc, hl⟩ := band hh
    refine @onNil_in _ (fun l => SoundE G d ⟨cf, gl, init⟩ M (.lower o) (.Call (.Attribute o' "lower" ap) l [] p)) _ _ h fun h => ?_
    intro A env σ ρ H s rr Q E hv N g
    exact lower_case B hc hl (sndE B o M _ h) hv N g
  | .get o k dd, M, e, h => by
    refine onMeth_in (P := SoundE G d ⟨cf, gl, init⟩ M (.get o k dd)) h fun o' ap l p hh h => ?_
    have ⟨hc, hl⟩ := band hh
    refine @on2_in _ (fun l => SoundE G d ⟨cf, gl, init⟩ M (.get o k dd) (.Call (.Attribute o' "get" ap) l [] p)) _ _ h fun k' d' h => ?_
    have ⟨ho, h⟩ := band h
    have ⟨hk, hd⟩ := band h
    intro A env σ ρ H s rr Q E hv N g
    exact get_case B hc hl (mE_notStar hk) (mE_notStar hd) (sndE B o M _ ho) (sndE B k M _ hk) (sndE B dd M _ hd) hv N g
  | .attr o a, M, e, h => by
    refine onAttr_in (P := SoundE G d ⟨cf, gl, init⟩ M (.attr o a)) h fun o' n p h => ?_
    have ⟨h, ho⟩ := band h
    have ⟨hn, hc⟩ := band h
    intro A env σ ρ H s rr Q E hv N g
    refine byC fun nG => ?_
    refine bind_in hv fun x h1 hv_ => ?_; clear hv; rename _ = _ => hv
    refine bind_in hv fun v h2 hv_ => ?_; clear hv; rename _ = _ => hv
    cases hv
    refine nG ?_
    refine attr_any hc (sndE B o M _ ho h1 N fun ρ1 hp1 tk1 y S1 T1 r1 => ?_)
    exact attr_snd B.C S1 h2 (by rw [B.an]; exact beq_iff_eq.mp hn) r1 fun tk z rz => g ρ1 hp1 tk z S1 T1 rz
  | .idx o i, M, e, h => by
    refine onSub_in (P := SoundE G d ⟨cf, gl, init⟩ M (.idx o i)) h fun o' i' p h => ?_
    have ⟨hs, h⟩ := band h
    have ⟨ho, hi⟩ := band h
    intro A env σ ρ H s rr Q E hv N g
    refine byC fun nG => ?_
    refine bind_in hv fun a h1 hv_ => ?_; clear hv; rename _ = _ => hv
    refine bind_in hv fun b h2 hv_ => ?_; clear hv; rename _ = _ => hv
    refine bind_in hv fun v h3 hv_ => ?_; clear hv; rename _ = _ => hv
    cases hv
    refine nG ?_
    refine Subscript_ (sndE B o M _ ho h1 N fun ρ1 hp1 tk1 x S1 T1 r1 => sndE B i M _ hi h2 (N.step S1 T1 tk1) fun ρ2 hp2 tk2 y S2 T2 r2 => ?_)
    exact idx_snd (notSlice_of hs) h3 S2 (r1.mono T2.fix T2.pre) r2 fun tk z rz => g ρ2 hp2 tk z S2 (T1.trans T2) rz
  | .slice0 o hi, M, e, h => by
    refine onSub_in (P := SoundE G d ⟨cf, gl, init⟩ M (.slice0 o hi)) h fun o' i' p h => ?_
    refine onSlice_in (P := fun i => SoundE G d ⟨cf, gl, init⟩ M (.slice0 o hi) (.Subscript o' i p)) h fun lo' hi' q h => ?_
    refine onNone_in (P := fun lz => SoundE G d ⟨cf, gl, init⟩ M (.slice0 o hi) (.Subscript o' (.Slice lz (some hi') none q) p)) h fun h => ?_
    have ⟨ho, hh⟩ := band h
    intro A env σ ρ H s rr Q E hv N g
    refine byC fun nG => ?_
    refine bind_in hv fun a h1 hv_ => ?_; clear hv; rename _ = _ => hv
    refine bind_in hv fun b h2 hv_ => ?_; clear hv; rename _ = _ => hv
    refine nG ?_
    refine Subscript_ (sndE B o M _ ho h1 N fun ρ1 hp1 tk1 x S1 T1 r1 => wpAny_Slice ?_)
    rw [evalPart_none]
    refine wpAny_pure ?_
    rw [evalPart_some]
    refine sndE B hi M _ hh h2 (N.step S1 T1 tk1) fun ρ2 hp2 tk2 y S2 T2 r2 => ?_
    refine wpAny_pure ?_
    exact slice_snd (s := { s with heap := hp2, toks := tk2 }) hv S2 (r1.mono T2.fix T2.pre) r2 (.inl ⟨rfl, rfl⟩) fun ρ3 hp3 tk3 z S3 T3 r3 => g ρ3 hp3 tk3 z S3 ((T1.trans T2).trans T3) r3
  | .slice o lo hi, M, e, h => by
    refine onSub_in (P := SoundE G d ⟨cf, gl, init⟩ M (.slice o lo hi)) h fun o' i' p h => ?_
    refine onSlice_in (P := fun i => SoundE G d ⟨cf, gl, init⟩ M (.slice o lo hi) (.Subscript o' i p)) h fun lo' hi' q h => ?_
    refine onSome_in (P := fun lz => SoundE G d ⟨cf, gl, init⟩ M (.slice o lo hi) (.Subscript o' (.Slice lz (some hi') none q) p)) h fun lo' h => ?_
    have ⟨ho, h⟩ := band h
    have ⟨hl, hh⟩ := band h
    intro A env σ ρ H s rr Q E hv N g
    refine byC fun nG => ?_
    refine bind_in hv fun a h1 hv_ => ?_; clear hv; rename _ = _ => hv
    refine bind_in hv fun l h2 hv_ => ?_; clear hv; rename _ = _ => hv
    refine bind_in hv fun b h3 hv_ => ?_; clear hv; rename _ = _ => hv
    refine vNat_in hv fun n hn hv1 => grd_in hv1 fun q_ hv2 => nG ?_
    clear hv hv1
    refine Subscript_ (sndE B o M _ ho h1 N fun ρ1 hp1 tk1 x S1 T1 r1 => wpAny_Slice ?_)
    rw [evalPart_some]
    refine sndE B lo M _ hl h2 (N.step S1 T1 tk1) fun ρ2 hp2 tk2 y S2 T2 r2 => ?_
    rw [hn] at r2
    refine byC fun nG => ?_
    obtain ⟨t, rfl⟩ := r2
    refine nG ?_
    rw [evalPart_some]
    refine sndE B hi M _ hh h3 ((N.step S1 T1 tk1).step S2 T2 tk2) fun ρ3 hp3 tk3 z S3 T3 r3 => ?_
    rw [evalPart_none]
    refine wpAny_pure ?_
    exact slice_snd (s := { s with heap := hp3, toks := tk3 }) hv2 S3 ((r1.mono T2.fix T2.pre).mono T3.fix T3.pre) r3 (.inr ⟨t, rfl⟩) fun ρ4 hp4 tk4 z S4 T4 r4 => g ρ4 hp4 tk4 z S4 (((T1.trans T2).trans T3).trans T4) r4
  | .tup l, M, e, h => by
    refine onTup_in (P := SoundE G d ⟨cf, gl, init⟩ M (.tup l)) h fun l' k p h => ?_
    intro A env σ ρ H s rr Q E hv N g
    have h := band h
    exact tup_case (sndL B l M _ h.1) h.2 hv N g
  | .list l, M, e, h => by
    refine onList_in (P := SoundE G d ⟨cf, gl, init⟩ M (.list l)) h fun l' p h => ?_
    intro A env σ ρ H s rr Q E hv N g
    have h := band h
    exact list_case (sndL B l M _ h.1) h.2 hv N g
  | .dict0, M, e, h => by
    refine onDict_in (P := SoundE G d ⟨cf, gl, init⟩ M (.dict0)) h fun ks vs p h => ?_
    refine onNil_in (P := fun ks => SoundE G d ⟨cf, gl, init⟩ M (.dict0) (.Dict ks vs p)) h fun h => ?_
    refine onNil_in (P := fun vs => SoundE G d ⟨cf, gl, init⟩ M (.dict0) (.Dict [] vs p)) h fun q_ => ?_
    intro A env σ ρ H s rr Q E hv N g
    exact dict0_case B hv N g
  | .sdict kvs, M, e, h => by
    refine onDict_in (P := SoundE G d ⟨cf, gl, init⟩ M (.sdict kvs)) h fun ks vs p h => ?_
    have ⟨hp, h⟩ := band h
    have ⟨hne, hl⟩ := band h
    intro A env σ ρ H s rr Q E hv N g
    exact sdict_case B (sndP B kvs M _ _ hp) (by rintro rfl; cases hne) hl hv N g
  | .comp elt slot it ifs caps, M, e, h => by
    refine onComp_in (P := SoundE G d ⟨cf, gl, init⟩ M (.comp elt slot it ifs caps)) h fun elt' gs sc pos h => ?_
    refine onGen_in (P := fun gs => SoundE G d ⟨cf, gl, init⟩ M (.comp elt slot it ifs caps) (.ListComp elt' gs sc pos)) h fun x px it' ifs' h => ?_
    have ⟨hs, h⟩ := band h
    have ⟨hi, h⟩ := band h
    have ⟨hb, h⟩ := band h
    have ⟨he, hf⟩ := band h
    intro A env σ ρ H s rr Q E hv N g
    have CB := compB_of hb
    rw [eval_ListComp]
    have fr := N.fm.free CB
    refine wpAny_comprehension_free (use := none) rfl (fun x => noSet_fold hs x) (closureFor_eq fr) CB.kind CB.names ?_
    exact comp_core (RR := fun acc C => compPost (model G.prog G.w) _ _ none _ acc C) CB (sndE B it M _ hi) (sndE B elt _ _ he) (ts_snd (sndTs B ifs _ _ hf)) N hv fun ρ' h' tk D C m S' T' r' nC oC ns => ⟨m, ns, fun h'' hs'' => by
      obtain ⟨oc, hoc⟩ := ns_there ns
      exact g ρ' h'' tk _ (tail_sta S' hs''.extBut oC (fun o e => by rw [hoc] at e; cases e; exact not_fix_dict hoc ns) (base_none N.sta nC)) (T'.tail hs''.extBut nC) (r'.mono (tail_keep hs''.extBut fun o e => by rw [hoc] at e; cases e; exact not_fix_dict hoc ns) (.refl _))⟩
theorem sndL (B : Amb G fa init gl d cf) : ∀ (l : List X) (M : Mx) (es : List PySem.Expr), mL M l es = true → AllE G d ⟨cf, gl, init⟩ M l es
  | [], M, es, h => onNil_in (P := AllE G d ⟨cf, gl, init⟩ M []) h fun q_ => trivial
  | x :: r, M, es, h => onCons_in (P := AllE G d ⟨cf, gl, init⟩ M (x :: r)) h fun e t h => ⟨sndE B x M e (band h).1, mE_notStar (band h).1, sndL B r M t (band h).2⟩
theorem sndP (B : Amb G fa init gl d cf) : ∀ (l : List X) (M : Mx) (ks : List (Option PySem.Expr)) (vs : List PySem.Expr), mP M l ks vs = true → AllP G d ⟨cf, gl, init⟩ M l ks vs
  | [], M, ks, vs, h => onNil_in (P := fun ks => AllP G d ⟨cf, gl, init⟩ M [] ks vs) h fun h => onNil_in (P := AllP G d ⟨cf, gl, init⟩ M [] []) h fun q_ => trivial
  | [_], M, ks, vs, h => (Bool.false_ne_true h).elim
  | x :: y :: r, M, ks, vs, h => onCons_in (P := fun ks => AllP G d ⟨cf, gl, init⟩ M (x :: y :: r) ks vs) h fun k ks h => onSome_in (P := fun k => AllP G d ⟨cf, gl, init⟩ M (x :: y :: r) (k :: ks) vs) h fun k h =>
    onCons_in (P := AllP G d ⟨cf, gl, init⟩ M (x :: y :: r) (some k :: ks)) h fun v vs h => ⟨sndE B x M _ (band h).1, sndE B y M _ (band (band h).2).1, sndP B r M _ _ (band (band h).2).2⟩
theorem sndT (B : Amb G fa init gl d cf) : ∀ (t : T) (M : Mx) (e : PySem.Expr), mT M t e = true → SoundT G d ⟨cf, gl, init⟩ M t e
  | .val x, M, e, h => by
    intro hv N g
    have h := band h
    refine byC fun nG => ?_
    refine bind_in hv fun a h1 hv_ => ?_; clear hv; rename _ = _ => hv
    refine bind_in hv fun b h2 hv_ => ?_; clear hv; rename _ = _ => hv
    cases hv
    refine nG ?_
    exact wpAny_isTrue_value (sndE B x M e h.2 h1 N fun ρ1 hp1 tk1 y S1 T1 r1 => truthy_snd h2 r1 fun tk => g ρ1 hp1 tk S1 T1) (plainTest_eq h.1)
  | .not t, M, e, h => by
    refine onUn_in (P := SoundT G d ⟨cf, gl, init⟩ M (.not t)) h fun o x p h => ?_
    have h := band h
    rw [beq_iff_eq.mp h.1]
    intro A env σ ρ H s rr Q E hv N g
    refine byC fun nG => ?_
    refine bind_in hv fun a h1 hv_ => ?_; clear hv; rename _ = _ => hv
    cases hv
    refine nG ?_
    exact wpAny_isTrue_Not (sndT B t M _ h.2 h1 N fun ρ1 hp1 tk1 S1 T1 => g ρ1 hp1 tk1 S1 T1)
  | .and_ l, M, e, h => by
    refine onBool_in (P := SoundT G d ⟨cf, gl, init⟩ M (.and_ l)) h fun o vs p h => ?_
    have h := band h
    rw [beq_iff_eq.mp h.1]
    intro A env σ ρ H s rr Q E hv N g
    exact wpAny_isTrue_BoolOp (ta_snd (sndTs B l M _ h.2) hv N g)
  | .or_ l, M, e, h => by
    refine onBool_in (P := SoundT G d ⟨cf, gl, init⟩ M (.or_ l)) h fun o vs p h => ?_
    have h := band h
    rw [beq_iff_eq.mp h.1]
    intro A env σ ρ H s rr Q E hv N g
    exact wpAny_isTrue_BoolOp (to_snd (sndTs B l M _ h.2) hv N g)
  | .cmp op l r, M, e, h => by
    refine onCmp_in (P := SoundT G d ⟨cf, gl, init⟩ M (.cmp op l r)) h fun l' os rs p h => ?_
    have h := band h
    rw [beq_iff_eq.mp h.1]
    refine @on1_in _ (fun rs => SoundT G d ⟨cf, gl, init⟩ M (.cmp op l r) (.Compare l' [cmPy op] rs p)) _ _ h.2 fun r' h => ?_
    have ⟨hs, h⟩ := band h
    have h := band h
    intro A env σ ρ H s rr Q E hv N g
    refine byC fun nG => ?_
    refine bind_in hv fun a h1 hv_ => ?_; clear hv; rename _ = _ => hv
    refine bind_in hv fun b h2 hv_ => ?_; clear hv; rename _ = _ => hv
    refine bind_in hv fun t h3 hv_ => ?_; clear hv; rename _ = _ => hv
    cases hv
    refine nG ?_
    refine wpAny_isTrue_Compare1 (sndE B l M _ h.1 h1 N fun ρ1 hp1 tk1 x S1 T1 r1 => sndE B r M _ h.2 h2 (N.step S1 T1 tk1) fun ρ2 hp2 tk2 y S2 T2 r2 => ?_) (noSet_marks hs)
    exact cmp_snd h3 S2 N.cmpu (r1.mono T2.fix T2.pre) r2 fun tk => wpAny_truthy_bool (g ρ2 hp2 tk S2 (T1.trans T2))
  | .cmp2 op1 op2 x y z, M, e, h => by
    refine onCmp_in (P := SoundT G d ⟨cf, gl, init⟩ M (.cmp2 op1 op2 x y z)) h fun x' os rs p h => ?_
    have h := band h
    rw [beq_iff_eq.mp h.1]
    refine @on2_in _ (fun rs => SoundT G d ⟨cf, gl, init⟩ M (.cmp2 op1 op2 x y z) (.Compare x' [cmPy op1, cmPy op2] rs p)) _ _ h.2 fun y' z' h => ?_
    have ⟨hs, h⟩ := band h
    have ⟨hx, h⟩ := band h
    have ⟨hy, hz⟩ := band h
    intro A env σ ρ H s rr Q E hv N g
    refine byC fun nG => ?_
    refine bind_in hv fun a h1 hv_ => ?_; clear hv; rename _ = _ => hv
    refine bind_in hv fun b h2 hv_ => ?_; clear hv; rename _ = _ => hv
    refine bind_in hv fun t h3 hv_ => ?_; clear hv; rename _ = _ => hv
    refine nG ?_
    refine isTrue_chain (sndE B x M _ hx h1 N fun ρ1 hp1 tk1 xv S1 T1 r1 => test_link (sndE B y M _ hy h2 (N.step S1 T1 tk1) fun ρ2 hp2 tk2 yv S2 T2 r2 => ?_)) (cmp2_marks hs)
    refine cmp_snd h3 S2 N.cmpu (r1.mono T2.fix T2.pre) r2 fun tk => wpAny_truthy_bool ?_
    refine byC fun nG => ?_
    cases t with
    | true =>
      refine bind_in hv fun e3 h4 hv_ => ?_; clear hv; rename _ = _ => hv
      refine bind_in hv fun t' h5 hv_ => ?_; clear hv; rename _ = _ => hv
      cases hv
      refine nG ?_
      refine test_last (sndE B z M _ hz h4 (((N.step S1 T1 tk1).step S2 T2 tk2).tok tk) fun ρ3 hp3 tk3 zv S3 T3 r3 => ?_)
      exact cmp_snd h5 S3 N.cmpu (r2.mono T3.fix T3.pre) r3 fun tk => wpAny_truthy_bool (g ρ3 hp3 tk S3 ((T1.trans T2).trans T3))
    | false => cases hv; refine nG ?_; exact g ρ2 hp2 tk S2 (T1.trans T2)
theorem sndTs (B : Amb G fa init gl d cf) : ∀ (l : List T) (M : Mx) (es : List PySem.Expr), mTs M l es = true → AllT G d ⟨cf, gl, init⟩ M l es
  | [], M, es, h => onNil_in (P := AllT G d ⟨cf, gl, init⟩ M []) h fun q_ => trivial
  | x :: r, M, es, h => onCons_in (P := AllT G d ⟨cf, gl, init⟩ M (x :: r)) h fun e t h => ⟨sndT B x M e (band h).1, sndTs B r M t (band h).2⟩
end
end
end Mine
end
/-! Snd17 -/
section
set_option Elab.async false
set_option genSizeOf false
set_option linter.all false
set_option maxRecDepth 100000
open PySem PySem.W PyProof.Rows
namespace Mine

section
variable {G : Gx} {M : Mx} {env : Env} {σ : Lo} {ρ ρ' : Rho} {H H' : Hp} {h h' : Heap} {A : Around} {E : Value → Shared → Prop} {s : Shared} {d : Nat}

theorem SlotAt.stepF {F : Addr → Prop} {m : Str → Option Value} {n : Str} {o : Option (Option V)} (x : SlotAt G env ρ h m n o) (T : Step F ρ H h ρ' H' h') (nF : ∀ a, FA env a → ¬ F a) : SlotAt G env ρ' h' m n o := by
  refine byC fun nG => ?_
  rcases x with ⟨k, x⟩ | ⟨k, c, y, h1, h2, h3, h4, h5, x⟩
  · refine nG ?_
    exact .inl ⟨k, fun v e => let ⟨x, a, b⟩ := x v e; ⟨x, a, b.mono T.fix T.pre⟩⟩
  · obtain ⟨oc, hoc⟩ := cell_there h2
    refine nG ?_
    exact .inr ⟨k, c, y, h1, T.keepCell h2 h3.owned (nF c (.inr ⟨n, h1⟩)), h3.step T hoc, h4, h5, fun v e => let ⟨x, a, b⟩ := x v e; ⟨x, a, b.mono T.fix T.pre⟩⟩
theorem Fm.stepF {F : Addr → Prop} (x : Fm G M env σ ρ h) (T : Step F ρ H h ρ' H' h') (nF : ∀ a, FA env a → ¬ F a) : Fm G M env σ ρ' h' := by
  refine byC fun nG => ?_
  obtain ⟨m, hn, hs⟩ := x.slots
  obtain ⟨oL, hL⟩ := ns_there hn
  refine nG ?_
  exact { x with
    own := x.own.step T hL
    slots := ⟨m, T.keepNs hn x.own.owned (nF _ (.inl rfl)), fun i n hi e => (hs i n hi e).stepF T nF⟩ }

theorem fm_tail {I : Addr} (F : Fm G M env σ ρ h) (ext : Heap.ExtBut I h h') (nfI : ∀ o, h.get? I = some o → ¬ Fix o) (nFI : ¬ FA env I) : Fm G M env σ ρ h' := by
  refine byC fun nG => ?_
  obtain ⟨m, hn, hs⟩ := F.slots
  have ne : ∀ a, FA env a → a ≠ I := fun a f z => nFI (z ▸ f)
  have kf := tail_keep ext nfI
  refine nG ?_
  refine { F with slots := ⟨m, hn.at fun o e => ext _ o (ne _ (.inl rfl)) e, fun i n hi e => ?_⟩ }
  refine byC fun nG => ?_
  rcases hs i n hi e with ⟨k, x⟩ | ⟨k, c, y, c1, c2, c3, c4, c5, x⟩
  · refine nG ?_
    exact .inl ⟨k, fun v e => let ⟨x, a, b⟩ := x v e; ⟨x, a, b.mono kf (.refl _)⟩⟩
  · refine nG ?_
    exact .inr ⟨k, c, y, c1, isCell_at c2 fun o e => ext c o (ne c (.inr ⟨n, c1⟩)) e, c3, c4, c5, fun v e => let ⟨x, a, b⟩ := x v e; ⟨x, a, b.mono kf (.refl _)⟩⟩

structure NowS (G : Gx) (d : Nat) (M : Mx) (A : Around) (env : Env) (σ : Lo) (ρ : Rho) (H : Hp) (s : Shared) : Prop where
  now : Now G d M A env σ ρ H s
  apart : ∀ fr, A.frames = some fr → ∀ e, e ∈ fr → ∀ L, e.frame = some L → L = env.locals ∨ ¬ FA env L
  live : ∀ a, FA env a → ∃ o, s.heap.get? a = some o
  outs : ∀ a, FA env a → Out ρ a

theorem NowS.next {σ' : Lo} (N : NowS G d M A env σ ρ H s) (S' : Sta G ρ' H' h') (T : Step (FA env) ρ H s.heap ρ' H' h') (F' : Fm G M env σ' ρ' h') (tk : Nat) : NowS G d M A env σ' ρ' H' { s with heap := h', toks := tk } where
  now := ⟨S', F', by
    obtain ⟨hd, dp, un, fr, h1, h2⟩ := N.now.ok
    refine ⟨hd, dp, un, fr, h1, fun e he => ?_⟩
    obtain ⟨k, L, o, es, n, a1, a2, a3, a4, a5⟩ := h2 e he
    rcases N.apart fr h1 e he L a1 with rfl | q
    · obtain ⟨m, ⟨o', es', ep', e1, e2, _⟩, _⟩ := F'.slots
      exact ⟨k, _, o', es', ep', a1, a2, e1, e2, F'.own⟩
    · obtain ⟨sl, h6, _⟩ := T.keep L o a3 a5.owned q
      exact ⟨k, L, _, es, n, a1, a2, h6, a4, a5.step T a3⟩⟩
  apart := N.apart
  live := fun a f => let ⟨o, e⟩ := N.live a f; T.live a o e
  outs := fun a f => let ⟨o, e⟩ := N.live a f; (N.outs a f).step T e
theorem NowS.pure (N : NowS G d M A env σ ρ H s) (S' : Sta G ρ' H' h') (T : Step NoF ρ H s.heap ρ' H' h') (tk : Nat) : NowS G d M A env σ ρ' H' { s with heap := h', toks := tk } :=
  N.next S' T.ofNo (N.now.fm.step T) tk

noncomputable def GivesR (G : Gx) (M : Mx) (env : Env) (XE : V → Value → Shared → Prop) (ρ : Rho) (H : Hp) (s : Shared) (r : R × Lo × Hp) (Q : Flow → Shared → Prop) (E : Value → Shared → Prop) : Prop :=
  ∀ ρ' h' tk, Sta G ρ' r.2.2 h' → Step (FA env) ρ H s.heap ρ' r.2.2 h' → Fm G M env r.2.1 ρ' h' → match r.1 with
    | .next => Q .next { s with heap := h', toks := tk }
    | .cont => Q .cont { s with heap := h', toks := tk }
    | .ret v => ∀ x, RepV h' ρ' v x → Q (.ret x) { s with heap := h', toks := tk }
    | .exc v => ∀ e, (∀ b, e = .ref b → s.heap.get? b = none) → XE v e { s with heap := h', toks := tk } → E e { s with heap := h', toks := tk }
theorem GivesR.on {XE : V → Value → Shared → Prop} {ρ1 : Rho} {H1 : Hp} {h1 : Heap} {tk : Nat} {r : R × Lo × Hp} {Q : Flow → Shared → Prop} (g : GivesR G M env XE ρ H s r Q E) (T : Step (FA env) ρ H s.heap ρ1 H1 h1) : GivesR G M env XE ρ1 H1 { s with heap := h1, toks := tk } r Q E :=
by
  intro ρ' h' tk S' T' F'
  have z := g ρ' h' tk S' (T.trans T') F'
  obtain ⟨fl, σ', H'⟩ := r
  cases fl with
  | next => exact z
  | cont => exact z
  | ret v => exact z
  | exc v => exact fun e he => z e fun b hb => T.none (he b hb)

/-! targets -/
noncomputable def StoreOk (G : Gx) (M : Mx) (env : Env) (target : PySem.Expr) (bind : V → Lo → Option Lo) : Prop := ∀ {A : Around} {E : Value → Shared → Prop} {ρ : Rho} {H : Hp} {s : Shared} {σ : Lo} {v : V} {y : Value} {σ' : Lo} {Q : Unit → Shared → Prop},
  A.handled = none → bind v σ = some σ' → Sta G ρ H s.heap → Fm G M env σ ρ s.heap → RepV s.heap ρ v y →
  (∀ h' tk, Sta G ρ H h' → Step (FA env) ρ H s.heap ρ H h' → Fm G M env σ' ρ h' → Q () { s with heap := h', toks := tk }) → wpAny (model G.prog G.w) A (assign target env y) Q E s

theorem store_name {i : Nat} {n : Str} {pos : Pos} (hb : storeB M i n = true) : StoreOk G M env (.Name n pos) fun v σ => some (σ.set i (some v)) := by
  intro A E ρ H s σ v y σ' Q _ e S F r q
  cases e
  exact wpAny_assign_Name (store_loc S F hb r q)

theorem onName_ex {e : PySem.Expr} {f : Str → Bool} (h : onName e f = true) : ∃ n p, e = .Name n p ∧ f n = true := onName_in (P := fun e => ∃ n p, e = .Name n p ∧ f n = true) h fun n p h => ⟨n, p, rfl, h⟩
theorem names_star {env : Env} : ∀ {is : List Nat} {ts : List PySem.Expr}, namesB M is ts = true → (assignEach ts env).length = is.length ∧ (assignEach ts env).findIdx? (·.1) = none
  | [], [], _ => ⟨rfl, rfl⟩
  | [], _ :: _, h => (Bool.false_ne_true h).elim
  | i :: r, [], h => (Bool.false_ne_true h).elim
  | i :: r, t :: ts, h => by
    refine byC fun nG => ?_
    obtain ⟨n, p, rfl, h⟩ := onName_ex h
    obtain ⟨h1, h2⟩ := names_star (env := env) (is := r) (ts := ts) (band h).2
    refine nG ?_
    rw [assign_cons (fun v p z => by cases z)]
    refine ⟨congrArg Nat.succ h1, ?_⟩
    rw [List.findIdx?_cons, h2]
    rfl
theorem store_slots : ∀ {is : List Nat} {ts : List PySem.Expr} {l : List V} {xs : List Value} {σ σ' : Lo} {ρ : Rho} {H : Hp} {s : Shared} {Q : Unit → Shared → Prop}, namesB M is ts = true → setSlots is l σ = some σ' → Sta G ρ H s.heap → Fm G M env σ ρ s.heap → RepL s.heap ρ l xs →
    (∀ h' tk, Sta G ρ H h' → Step (FA env) ρ H s.heap ρ H h' → Fm G M env σ' ρ h' → Q () { s with heap := h', toks := tk }) → wpAny (model G.prog G.w) A (assignInOrder ((assignEach ts env).map (·.2)) xs) Q E s
  | [], [], l, xs, σ, σ', ρ, H, s, Q, _, e, S, F, r, q => by
    refine byC fun nG => ?_
    cases l with
    | nil => cases e; refine nG ?_; exact assignInOrder_nil (q s.heap s.toks S (.refl _ _ _ _) F)
    | cons => cases e
  | [], _ :: _, _, _, _, _, _, _, _, _, h, _, _, _, _, _ => (Bool.false_ne_true h).elim
  | _ :: _, [], _, _, _, _, _, _, _, _, h, _, _, _, _, _ => (Bool.false_ne_true h).elim
  | i :: is, t :: ts, l, xs, σ, σ', ρ, H, s, Q, h, e, S, F, r, q => by
    refine byC fun nG => ?_
    obtain ⟨n, p, rfl, h⟩ := onName_ex h
    have h := band h
    cases l with
    | nil => cases e
    | cons v l =>
      obtain ⟨y, ys, rfl, r1, r2⟩ := r
      refine nG ?_
      rw [assign_cons (fun v p z => by cases z)]
      refine assignInOrder_cons (wpAny_assign_Name (store_loc S F h.1 r1 fun h' tk S' T' F' => ?_))
      refine store_slots (s := { s with heap := h', toks := tk }) h.2 e S' F' (r2.mono T'.fix T'.pre) fun h'' tk' S'' T'' F'' => ?_
      exact q h'' tk' S'' (T'.trans T'') F''
theorem store_tup {is : List Nat} {ts : List PySem.Expr} {k : Nat} {pos : Pos} (hb : namesB M is ts = true) : StoreOk G M env (.Tuple ts k pos) fun v σ => (unpackV v is.length).bind fun l => setSlots is l σ := by
  intro A E ρ H s σ v y σ' Q hh e S F r q
  refine byC fun nG => ?_
  refine bind_in e fun l h1 e2 => ?_; clear e
  refine vTup_in h1 fun l' ev h3 => grd_in h3 fun hl h4 => some_in h4 fun el => ?_
  clear h1 h3 h4
  subst ev el
  obtain ⟨a, xs, rfl, ht, hr⟩ := r
  obtain ⟨n1, n2⟩ := names_star (env := env) hb
  have hl' : l'.length = is.length := Nat.eq_of_beq_eq_true hl
  refine nG ?_
  refine wpAny_assign_Tuple hh ht (by rw [n1, ← hl', ← hr.length]; simp) n2 fun h' he => ?_
  have k : ∀ b o, s.heap.get? b = some o → h'.get? b = some o := fun b o e => he b o (Nat.ne_of_lt (Heap.lt_size e)) e
  have T : Step NoF ρ H s.heap ρ H h' := .ext k
  refine store_slots (s := { s with heap := h' }) hb e2 (S.ext k) (F.step T) (by simpa using hr.mono T.fix T.pre) fun h'' tk S' T' F' => q h'' tk S' (T.ofNo.trans T') F'

/-! loops -/
theorem letGo_it {o : V} {I : Addr} {n : Nat} {target : PySem.Expr} {v : Value} {Q : Unit → Shared → Prop} (x : It s.heap ρ H o I n) (q : Q () s) : wpAny (model G.prog G.w) A (letOwnedTupleGo target (.ref I) v) Q E s := by
  have key : ∀ {cls : String}, ["enumerate", "zip", "dict_itemiterator", "dict_reverseitemiterator", "odict_iterator", "itertools.zip_longest", "itertools.pairwise"].contains cls = false → (∃ o, s.heap.get? I = some o ∧ o.cls = .type cls) → wpAny (model G.prog G.w) A (letOwnedTupleGo target (.ref I) v) Q E s := by
    rintro cls hc ⟨o, ho, hcl⟩
    unfold letOwnedTupleGo
    split
    · refine byC fun nG => ?_
      cases v with
      | ref a =>
        refine nG ?_
        refine wpAny_bind (wpAny_load ho ?_)
        split
        · rename_i nn vs e1 e2
          rw [hcl] at e1; cases e1
          simp only [hc, Bool.false_and, Bool.false_eq_true, if_false]
          exact wpAny_pure q
        · exact wpAny_pure q
      | _ => refine nG ?_; exact wpAny_pure q
    · refine byC fun nG => ?_
      cases v with
      | ref a =>
        refine nG ?_
        refine wpAny_bind (wpAny_load ho ?_)
        split
        · rename_i nn vs e1 e2
          rw [hcl] at e1; cases e1
          simp only [hc, Bool.false_and, Bool.false_eq_true, if_false]
          exact wpAny_pure q
        · exact wpAny_pure q
      | _ => refine nG ?_; exact wpAny_pure q
    · exact wpAny_pure q
  refine byC fun nG => ?_
  obtain ⟨_, _, x⟩ := x
  cases o with
  | tup l => obtain ⟨a, xs, ⟨oo, e1, e2, _⟩, _⟩ := x; refine nG ?_; exact key (by decide) ⟨oo, e1, e2⟩
  | rng a c m => refine nG ?_; exact key (by decide) ⟨_, x.2, rfl⟩
  | str t => obtain ⟨_, t', oo, e1, e2, _⟩ := x; refine nG ?_; exact key (by decide) ⟨oo, e1, e2⟩
  | obj k =>
    obtain ⟨a, o, _, _, ⟨_, oo, e1, e2, _⟩ | ⟨_, od, es, ep, _, _, ⟨oo, e1, e2, _⟩, _⟩⟩ := x
    · refine nG ?_
      exact key (by decide) ⟨oo, e1, e2⟩
    · refine nG ?_
      exact key (by decide) ⟨oo, e1, e2⟩
  | _ => exact x.elim

noncomputable def SoundB (G : Gx) (d : Nat) (c : Cx) (XE : V → Value → Shared → Prop) (M : Mx) (b : List S) (ss : List PySem.Stmt) : Prop :=
  ∀ {A env σ ρ H s r Q E}, evB c b σ H = some r → NowS G d M A env σ ρ H s → GivesR G M env XE ρ H s r Q E → wpAny (model G.prog G.w) A (execs ss env) Q E s
noncomputable def SoundS (G : Gx) (d : Nat) (c : Cx) (XE : V → Value → Shared → Prop) (M : Mx) (b : S) (st : PySem.Stmt) : Prop :=
  ∀ {A env σ ρ H s r Q E}, evS c b σ H = some r → NowS G d M A env σ ρ H s → GivesR G M env XE ρ H s r Q E → wpAny (model G.prog G.w) A (exec st env) Q E s

/-- while a for's turns are made -/
inductive FI (G : Gx) (d : Nat) (M : Mx) (A : Around) (env : Env) (ρ1 : Rho) (H₀ : Hp) (hp1 : Heap) (I : Addr) (s : Shared) (o : V) (body : V → Lo → Hp → Option (R × Lo × Hp)) (r : R × Lo × Hp) (f : Nat) : Shared → Prop
  | mk (ρ' : Rho) (H' : Hp) (h' : Heap) (tk : Nat) (σ' : Lo) (i : Nat) (hl : loop (nextV o) body f i σ' H' = some r) (T' : Step (FA env) ρ1 H₀ hp1 ρ' H' h') (it' : It h' ρ' H' o I i) (N' : NowS G d M A env σ' ρ' H' { s with heap := h', toks := tk }) : FI G d M A env ρ1 H₀ hp1 I s o body r f { s with heap := h', toks := tk }
inductive WI (G : Gx) (d : Nat) (M : Mx) (A : Around) (env : Env) (ρ1 : Rho) (H₀ : Hp) (s : Shared) (test : Lo → Hp → Option (Bool × Hp)) (body : Lo → Hp → Option (R × Lo × Hp)) (r : R × Lo × Hp) (f : Nat) : Shared → Prop
  | mk (ρ' : Rho) (H' : Hp) (h' : Heap) (tk : Nat) (σ' : Lo) (hl : whileL test body f σ' H' = some r) (T' : Step (FA env) ρ1 H₀ s.heap ρ' H' h') (N' : NowS G d M A env σ' ρ' H' { s with heap := h', toks := tk }) : WI G d M A env ρ1 H₀ s test body r f { s with heap := h', toks := tk }
theorem for_core {c : Cx} {XE : V → Value → Shared → Prop} {it : X} {it' target : PySem.Expr} {bind : V → Lo → Option Lo} {body : List S} {body' : List PySem.Stmt} {pos : Pos} {Q : Flow → Shared → Prop} {a : V × Hp} {H₀ : Hp} {r : R × Lo × Hp}
    (hns : noSet it' = true) (hit : SoundE G d c M it it') (hst : StoreOk G M env target bind) (hbody : SoundB G d c XE M body body')
    (h1 : evE c σ it H = some a) (h2 : freeze a.1 a.2 = some H₀) (h3 : loop (nextV a.1) (fun v σ H' => (bind v σ).bind fun σ => evB c body σ H') turns 0 σ H₀ = some r)
    (N : NowS G d M A env σ ρ H s) (g : GivesR G M env XE ρ H s (r.1, r.2.1, thaw a.1 r.2.2) Q E) :
    wpAny (model G.prog G.w) A (exec (.For target it' body' [] pos) env) Q E s := by
  refine wpAny_For ?_ (fun x => noSet_fold hns x)
  refine hit h1 N.now (fun ρ1 hp1 tk1 xv S1 T1 r1 => ?_)
  have N1 := N.pure S1 T1 tk1
  refine iter_new (s := { s with heap := hp1, toks := tk1 }) h2 S1 r1 (fun I hp2 hI k2 it0 => ?_)
  dsimp only at hI k2
  have T0 : Step NoF ρ1 a.2 hp1 ρ1 H₀ hp1 := (freeze_step (s := { s with heap := hp1, toks := tk1 }) h2 S1 (fun q_ q_ e => e)).2
  obtain ⟨S2, T02⟩ := freeze_step (s := { s with heap := hp1, toks := tk1 }) h2 S1 k2
  have bI := base_none S1 hI
  have hh := N.now.ok.hand
  have N2 : NowS G d M A env σ ρ1 H₀ { s with heap := hp2, toks := tk1 } := N1.pure S2 T02 tk1
  have nFI : ¬ FA env I := fun f => by obtain ⟨o, e⟩ := N1.live I f; rw [hI] at e; cases e
  refine codeAny_forLoop_any (FI G d M A env ρ1 H₀ hp1 I s a.1 (fun v σ H' => (bind v σ).bind fun σ => evB c body σ H') r) ?_ turns ⟨ρ1, H₀, hp2, tk1, σ, 0, h3, .ext k2, it0, N2⟩
  generalize notedBy (model G.prog G.w) A env _ = E'
  rintro f _ ⟨ρ', H', h', tk', σ', i, hl, T', it', N'⟩
  cases f with
  | zero => exact nope hl
  | succ f =>
  have nfI : ∀ o, h'.get? I = some o → ¬ Fix o := by
    obtain ⟨_, ⟨ob, e, nf, _⟩, _⟩ := it'
    intro o e'; rw [e] at e'; cases e'; exact nf
  have tail : ∀ {h4}, Heap.ExtBut I h' h4 → Sta G ρ' H' h4 ∧ Step (FA env) ρ1 H₀ hp1 ρ' H' h4 ∧ Fm G M env σ' ρ' h4 := fun {h4} ext =>
    ⟨tail_sta N'.now.sta ext it'.1 nfI bI, T'.tail ext hI, fm_tail N'.now.fm ext nfI nFI⟩
  have turn : ∀ {v fl σ6 H6}, nextV a.1 H' i = some (some v) → ((bind v σ').bind fun σ => evB c body σ H') = some (fl, σ6, H6) → ∀ {Qn : Shared → Prop} {Qf : Flow → Shared → Prop},
      (∀ ρ6 h6 tk6, Step (FA env) ρ1 H₀ hp1 ρ6 H6 h6 → It h6 ρ6 H6 a.1 I (i + 1) → NowS G d M A env σ6 ρ6 H6 { s with heap := h6, toks := tk6 } → match fl with
        | .next => Qf .next { s with heap := h6, toks := tk6 } | .cont => Qf .cont { s with heap := h6, toks := tk6 } | .ret v => ∀ x, RepV h6 ρ6 v x → Qf (.ret x) { s with heap := h6, toks := tk6 } | .exc _ => False) →
      wpAny (model G.prog G.w) A (pyNext (.ref I)) (fun r s₁ => match r with | none => Qn s₁ | some v => wpAny (model G.prog G.w) A (letOwnedTupleGo target (.ref I) v) (fun q_ s₁' => wpAny (model G.prog G.w) A (assign target env v) (fun q_ s₂ => wpAny (model G.prog G.w) A (execs body' env) Qf E' s₂) E' s₁') E' s₁) E' { s with heap := h', toks := tk' } := fun {v fl σ6 H6} hnx hb {Qn Qf} q => by
    refine iter_next hnx N'.now.sta it' hh (fun v' ev h4 tk4 y ext it4 ry => ?_) (fun z => nomatch z)
    cases ev
    obtain ⟨S4, T4, F4⟩ := tail ext
    refine bind_in hb fun σ5 e5 hr => letGo_it (s := { s with heap := h4, toks := tk4 }) it4 (hst (s := { s with heap := h4, toks := tk4 }) hh e5 S4 F4 ry fun h5 tk5 S5 T5 F5 => ?_)
    have T45 := T4.trans T5
    have out4 : ∀ p, p ∈ ρ' → ¬ FA env p.2 := fun p hp f => N'.outs p.2 f p hp rfl
    have N5 : NowS G d M A env σ5 ρ' H' { s with heap := h5, toks := tk5 } := N1.next S5 (T0.ofNo.trans T45) F5 tk5
    refine hbody hr N5 fun ρ6 h6 tk6 S6 T6 F6 => ?_
    have q6 := q ρ6 h6 tk6 (T45.trans T6) ((it4.step T5 nFI out4).step T6 nFI out4) (N5.next S6 T6 F6 tk6)
    cases fl with
    | exc _ => exact q6.elim
    | _ => exact q6
  refine loop_in hl (fun hnx er => ?_) (fun v fl σ2 H2 hnx hb hfl hl2 => ?_) (fun v w σ2 H2 hnx hb er => ?_)
  · refine iter_next hnx N'.now.sta it' hh (fun q_ z => nomatch z) (fun q_ h4 ext => ?_)
    subst er
    obtain ⟨S4, T4, F4⟩ := tail ext
    obtain ⟨S7, T7⟩ := thaw_end h2 S1 T0 T4 S4
    exact wpAny_execs_nil (g ρ' h4 tk' S7 (T1.ofNo.trans T7) F4)
  · refine turn hnx hb fun ρ6 h6 tk6 T6 it6 N6 => ?_
    have J := FI.mk (r := r) ρ6 H2 h6 tk6 σ2 (i + 1) hl2 T6 it6 N6
    rcases hfl with rfl | rfl <;> exact ⟨f, Nat.lt_succ_self _, J⟩
  · refine turn hnx hb fun ρ6 h6 tk6 T6 it6 N6 => ?_
    subst er
    intro x rx
    obtain ⟨S7, T7⟩ := thaw_end h2 S1 T0 T6 N6.now.sta
    exact g ρ6 h6 tk6 S7 (T1.ofNo.trans T7) N6.now.fm x rx

theorem while_core {c : Cx} {XE : V → Value → Shared → Prop} {t : T} {t' : PySem.Expr} {body : List S} {body' : List PySem.Stmt} {pos : Pos} {Q : Flow → Shared → Prop} {r : R × Lo × Hp}
    (ht : SoundT G d c M t t') (hbody : SoundB G d c XE M body body')
    (h3 : whileL (fun σ H => evT c σ t H) (fun σ H => evB c body σ H) turns σ H = some r)
    (N : NowS G d M A env σ ρ H s) (g : GivesR G M env XE ρ H s r Q E) :
    wpAny (model G.prog G.w) A (exec (.While t' body' [] pos) env) Q E s := by
  refine wpAny_While ?_
  refine codeAny_whileLoop (WI G d M A env ρ H s (fun σ H => evT c σ t H) (fun σ H => evB c body σ H) r) ?_ turns ⟨ρ, H, s.heap, s.toks, σ, h3, .refl _ _ _ _, N⟩
  generalize notedBy (model G.prog G.w) A env _ = E'
  rintro f _ ⟨ρ', H', h', tk', σ', hl, T', N'⟩
  cases f with
  | zero => exact nope hl
  | succ f =>
  refine while_in hl (fun H1 e1 er => ?_) (fun H1 fl σ2 H2 e1 e2 hfl hl2 => ?_) (fun H1 w σ2 H2 e1 e2 er => ?_)
  · refine ht e1 N'.now fun ρ4 h4 tk4 S4 T4 => ?_
    subst er
    exact wpAny_execs_nil (g ρ4 h4 tk4 S4 (T'.trans T4.ofNo) (N'.pure S4 T4 tk4).now.fm)
  · refine ht e1 N'.now fun ρ4 h4 tk4 S4 T4 => ?_
    have N4 := N'.pure S4 T4 tk4
    refine hbody e2 N4 fun ρ6 h6 tk6 S6 T6 F6 => ?_
    have J := WI.mk (r := r) ρ6 H2 h6 tk6 σ2 hl2 ((T'.trans T4.ofNo).trans T6) (N4.next S6 T6 F6 tk6)
    rcases hfl with rfl | rfl <;> exact ⟨f, Nat.lt_succ_self _, J⟩
  · refine ht e1 N'.now fun ρ4 h4 tk4 S4 T4 => ?_
    refine hbody e2 (N'.pure S4 T4 tk4) fun ρ6 h6 tk6 S6 T6 F6 => ?_
    subst er
    exact fun x rx => g ρ6 h6 tk6 S6 ((T'.trans T4.ofNo).trans T6) F6 x rx
end
end Mine
end
/-! Snd18 -/
section
set_option Elab.async false
set_option genSizeOf false
set_option linter.all false
set_option maxRecDepth 100000
open PySem PySem.W PyProof.Rows
namespace Mine

section
variable {G : Gx} {fa : Nat → Addr} {init : Nat → Nat} {d : Nat} {cf : CF} {gl : List V} {XE : V → Value → Shared → Prop}

theorem noComp_swaps {v : PySem.Expr} {t : Option PySem.Expr} {l : Nat} {env : Env} (h : noComp v = true) : swapsWith v t l env = pure false := by
  cases v <;> first | rfl | cases h
theorem noComp_sole {v t : PySem.Expr} {l : Nat} {env : Env} (h : noComp v = true) : swapsWithSole [t] v l env = pure false := noComp_swaps h

theorem noSwap_of {M : Mx} {ts : List PySem.Expr} {v : PySem.Expr} {k : Nat} {p : Pos} {env : Env} (h : noSwapStores M ts v = true) (hk : env.scope = M.sc) : swappedStores [.Tuple ts k p] v env = pure none := by
  cases v
  case Tuple vs kk pp =>
    unfold noSwapStores at h
    unfold swappedStores
    dsimp only
    by_cases h1 : (!(ts.length == 2 || ts.length == 3) || vs.length != ts.length || env.blockKind != .function) = true
    · simp only [h1, if_true]
    · have h1' : (!(ts.length == 2 || ts.length == 3) || vs.length != ts.length || env.blockKind != .function) = false := by simpa using h1
      have h2 : (ts.any fun | .Name n _ => !(M.sc.names.lookup n == some .local) | _ => true) = true := by
        rw [Bool.or_eq_true] at h
        refine byC fun nG => ?_
        rcases h with h | h
        · rw [h] at h1'; cases h1'
        · refine nG ?_
          exact h
      have h3 : (ts.filterMap fun
          | .Name id pos => if (env.kindOf id == some .local && pos.line == ((ts.head?.map (·.pos.line)).getD 0)) = true then some id else none
          | _ => none).length ≠ ts.length := by
        have key : ∀ (l : List PySem.Expr) (line : Nat), (l.any fun | .Name n _ => !(M.sc.names.lookup n == some .local) | _ => true) = true →
            (l.filterMap fun
              | .Name id pos => if (env.kindOf id == some .local && pos.line == line) = true then some id else none
              | _ => none).length < l.length := by
          intro l line
          induction l with
          | nil => intro h; cases h
          | cons x r ih =>
            intro h
            rw [List.any_cons, Bool.or_eq_true] at h
            have le : (r.filterMap fun
              | .Name id pos => if (env.kindOf id == some .local && pos.line == line) = true then some id else none
              | _ => none).length ≤ r.length := List.length_filterMap_le _ _
            rw [List.filterMap_cons]
            rcases h with h | h
            · split
              · simp only [List.length_cons]; omega
              · rename_i b hb
                exfalso
                split at hb
                · rename_i n pp
                  split at hb
                  · rename_i hc
                    rw [Bool.and_eq_true] at hc
                    have e1 : env.kindOf n = M.sc.names.lookup n := by unfold Env.kindOf; rw [hk]
                    rw [e1] at hc
                    dsimp only at h
                    rw [hc.1] at h; cases h
                  · cases hb
                · cases hb
            · have := ih h
              split
              · simp only [List.length_cons]; omega
              · simp only [List.length_cons]; omega
        exact Nat.ne_of_lt (key ts _ h2)
      simp only [h1', Bool.false_eq_true, if_false]
      split
      · rfl
      · refine if_pos ?_
        rw [Bool.or_eq_true]
        exact .inl (bne_iff_ne.mpr h3)
  all_goals rfl

theorem augStore_plain {i : PySem.Expr} (h : notSliceB i = true) (ov iv new : Value) : augStore i ov iv new = (do holding [new, ov, iv] (setItem ov iv new); release [new, ov, iv] []; pure .next) := by
  cases i with
  | Slice _ _ st _ => cases st <;> first | rfl | cases h
  | _ => rfl
theorem mE_listComp {M : Mx} {x : X} {a : PySem.Expr} {gs : List PySem.Comprehension} {sc : Scope} {p : Pos} (h : mE M x (.ListComp a gs sc p) = true) : ∃ elt slot it ifs caps, x = .comp elt slot it ifs caps := by
  cases x <;> first | exact ⟨_, _, _, _, _, rfl⟩ | exact (Bool.false_ne_true h).elim
theorem mE_setComp {M : Mx} {x : X} {a : PySem.Expr} {gs : List PySem.Comprehension} {sc : Scope} {p : Pos} (h : mE M x (.SetComp a gs sc p) = true) : False := by
  cases x <;> exact Bool.false_ne_true h
theorem mE_dictComp {M : Mx} {x : X} {a b : PySem.Expr} {gs : List PySem.Comprehension} {sc : Scope} {p : Pos} (h : mE M x (.DictComp a b gs sc p) = true) : False := by
  cases x <;> exact Bool.false_ne_true h
theorem mE_noComp {M : Mx} {x : X} {e : PySem.Expr} (h : mE M x e = true) : noComp e = true ∨ ∃ elt slot it ifs caps, x = .comp elt slot it ifs caps := by
  cases e
  case ListComp => exact .inr (mE_listComp h)
  case SetComp => exact (mE_setComp h).elim
  case DictComp => exact (mE_dictComp h).elim
  all_goals exact .inl rfl

section
variable {A : Around} {E : Value → Shared → Prop} {s : Shared} {ρ : Rho} {H : Hp} {Q : Flow → Shared → Prop} {M : Mx} {env : Env} {σ : Lo}

theorem GivesR.next {r : Lo × Hp} (g : GivesR G M env XE ρ H s (.next, r) Q E) {ρ' : Rho} {h' : Heap} {tk : Nat} (S : Sta G ρ' r.2 h') (T : Step (FA env) ρ H s.heap ρ' r.2 h') (F : Fm G M env r.1 ρ' h') : Q .next { s with heap := h', toks := tk } := g ρ' h' tk S T F

theorem GivesR.here (g : GivesR G M env XE ρ H s (.next, σ, H) Q E) (N : NowS G d M A env σ ρ H s) : Q .next s := g ρ s.heap s.toks N.now.sta (.refl _ _ _ _) N.now.fm
theorem comp_assign (B : Amb G fa init gl d cf) {i : Nat} {n : Str} {np pos : Pos} {elt it : X} {slot : Nat} {ifs : List T} {caps : List Nat} {v : PySem.Expr} {r : V × Hp} (hb : storeB M i n = true) (hm : mE M (.comp elt slot it ifs caps) v = true)
    (hv : evE ⟨cf, gl, init⟩ σ (.comp elt slot it ifs caps) H = some r) (N : NowS G d M A env σ ρ H s) (g : GivesR G M env XE ρ H s (.next, σ.set i (some r.1), r.2) Q E) (hsw : swapsWith v (some (.Name n np)) pos.line env = pure true) :
    wpAny (model G.prog G.w) A (exec (.Assign [.Name n np] v pos) env) Q E s := by
  refine byC fun nG => ?_
  obtain ⟨elt', gs, sc, cpos, rfl, hm2⟩ : ∃ elt' gs sc cpos, v = .ListComp elt' gs sc cpos ∧ (onGen gs fun x it' ifs' => noSet it' && (mE M it it' && (compB M sc x slot caps && (mE ⟨relS sc M.sc, M.nm, slot :: caps⟩ elt elt' && mTs ⟨relS sc M.sc, M.nm, slot :: caps⟩ ifs ifs')))) = true :=
    @onComp_in (fun v => ∃ elt' gs sc cpos, v = .ListComp elt' gs sc cpos ∧ (onGen gs fun x it' ifs' => noSet it' && (mE M it it' && (compB M sc x slot caps && (mE ⟨relS sc M.sc, M.nm, slot :: caps⟩ elt elt' && mTs ⟨relS sc M.sc, M.nm, slot :: caps⟩ ifs ifs')))) = true) _ _ hm fun a b c p h => ⟨a, b, c, p, rfl, h⟩
  obtain ⟨x, px, it', ifs', rfl, hm3⟩ : ∃ x px it' ifs', gs = [⟨.Name x px, it', ifs', 0⟩] ∧ (noSet it' && (mE M it it' && (compB M sc x slot caps && (mE ⟨relS sc M.sc, M.nm, slot :: caps⟩ elt elt' && mTs ⟨relS sc M.sc, M.nm, slot :: caps⟩ ifs ifs')))) = true :=
    @onGen_in (fun gs => ∃ x px it' ifs', gs = [⟨.Name x px, it', ifs', 0⟩] ∧ (noSet it' && (mE M it it' && (compB M sc x slot caps && (mE ⟨relS sc M.sc, M.nm, slot :: caps⟩ elt elt' && mTs ⟨relS sc M.sc, M.nm, slot :: caps⟩ ifs ifs')))) = true) _ _ hm2 fun a b c p h => ⟨a, b, c, p, rfl, h⟩
  have ⟨hs, hm⟩ := band hm3
  have ⟨hi, hm⟩ := band hm
  have ⟨hcb, hm⟩ := band hm
  have ⟨he, hf⟩ := band hm
  have CB := compB_of hcb
  have fr := N.now.fm.free CB
  refine nG ?_
  rw [exec_Assign_Name_used _ _ _ _ hsw]
  refine wpAny_bind (wpAny_standAt (wpAny_bind ?_))
  show wpAny _ A (do let _ ← comprehension (.ListComp elt' [⟨.Name x px, it', ifs', 0⟩] sc cpos) sc env _ (newList []) false (eval it' env) (some (assign (.Name n np) env))) _ _ s
  refine wpAny_bind (wpAny_mono (wpAny_comprehension_free (use := some (assign (.Name n np) env)) (Q := fun q_ s' => Q .next s') rfl (fun x => noSet_fold hs x) (closureFor_eq fr) CB.kind CB.names
    (comp_core (RR := fun acc C => compPost (model G.prog G.w) A E (some (assign (.Name n np) env)) (fun q_ s' => Q .next s') acc C) CB (sndE B it M _ hi) (sndE B elt _ _ he) (ts_snd (sndTs B ifs _ _ hf)) N.now hv ?_)) (fun q_ s' hq => wpAny_pure (wpAny_pure hq)) fun q_ q_ e => e)
  intro ρ' h' tk D C m S' T' r' nC oC ns
  show wpAny _ A (assign (.Name n np) env (.ref D)) _ _ _
  refine wpAny_assign_Name (store_loc (s := { s with heap := h', toks := tk }) S' (N.now.fm.step T') hb r' fun h2 tk2 S2 T2 F2 => ?_)
  have nF : ¬ FA env C := fun f => by obtain ⟨o, e⟩ := N.live C f; rw [nC] at e; cases e
  have ns2 : h2.Ns C m := T2.keepNs ns oC.owned nF
  obtain ⟨oc, hoc⟩ := ns_there ns2
  refine ⟨m, ns2, fun h3 hs3 => ?_⟩
  have nfx : ∀ o, h2.get? C = some o → ¬ Fix o := fun o e => by rw [hoc] at e; cases e; exact not_fix_dict hoc ns2
  exact g ρ' h3 tk2 (tail_sta S2 hs3.extBut oC nfx (base_none N.now.sta nC)) ((T'.ofNo.trans T2).tail hs3.extBut nC) (fm_tail F2 hs3.extBut nfx nF)
end

mutual
theorem sndS (B : Amb G fa init gl d cf) (rz : Bool) (HR : rz = true → ∀ (x : X) (M : Mx) (st : PySem.Stmt), mS M true (.raise_ x) st = true → SoundS G d ⟨cf, gl, init⟩ XE M (.raise_ x) st) :
    ∀ (b : S) (M : Mx) (st : PySem.Stmt), mS M rz b st = true → SoundS G d ⟨cf, gl, init⟩ XE M b st
  | .bad, M, st, h => by
    intro hv N g
    cases hv
  | .assign i e, M, st, h => by
    refine onAssign_in (P := (SoundS G d ⟨cf, gl, init⟩ XE M (.assign i e))) h fun t v pos h => ?_
    refine @onName_in (fun t => SoundS G d ⟨cf, gl, init⟩ XE M (.assign i e) (.Assign [t] v pos)) _ _ h fun n np h => ?_
    have h := band h
    intro A env σ ρ H s r Q E hv N g
    refine byC fun nG => ?_
    refine bind_in hv fun a h1 hv_ => ?_; clear hv; rename _ = _ => hv
    cases hv
    have normal : swapsWith v (some (.Name n np)) pos.line env = pure false → wpAny (model G.prog G.w) A (exec (.Assign [.Name n np] v pos) env) Q E s := fun hs =>
      wpAny_Assign_Name (sndE B e M _ h.2 h1 N.now fun ρ1 hp1 tk1 x S1 T1 r1 => store_loc (s := { s with heap := hp1, toks := tk1 }) S1 (N.now.fm.step T1) h.1 r1 fun h2 tk2 S2 T2 F2 => g ρ1 h2 tk2 S2 (T1.ofNo.trans T2) F2) hs
    rcases mE_noComp h.2 with hc | ⟨elt, slot, it, ifs, caps, rfl⟩
    · refine nG ?_
      exact normal (noComp_swaps hc)
    · cases v with
      | ListComp elt' gens sc cpos =>
        have hsw : swapsWith (.ListComp elt' gens sc cpos) (some (.Name n np)) pos.line env = pure (env.blockKind == .function && env.kindOf n == some .local && np.line == cpos.line && !(sc.names.any fun (m, k) => m == n && (k == .local || k == .cell))) := rfl
        cases hb : (env.blockKind == .function && env.kindOf n == some .local && np.line == cpos.line && !(sc.names.any fun (m, k) => m == n && (k == .local || k == .cell))) with
        | false => rw [hb] at hsw; refine nG ?_; exact normal hsw
        | true => rw [hb] at hsw; refine nG ?_; exact comp_assign B h.1 h.2 h1 N g hsw
      | _ => refine nG ?_; exact (Bool.false_ne_true h.2).elim
  | .assignTup is e, M, st, h => by
    refine onAssign_in (P := (SoundS G d ⟨cf, gl, init⟩ XE M (.assignTup is e))) h fun t v pos h => ?_
    refine @onTup_in (fun t => SoundS G d ⟨cf, gl, init⟩ XE M (.assignTup is e) (.Assign [t] v pos)) _ _ h fun ts k np h => ?_
    have ⟨h, h4⟩ := band h
    have ⟨h1, h⟩ := band h
    have ⟨h2, h3⟩ := band h
    intro A env σ ρ H s r Q E hv N g
    refine byC fun nG => ?_
    refine bind_in hv fun a e1 hv_ => ?_; clear hv; rename _ = _ => hv
    refine bind_in hv fun l e2 hv_ => ?_; clear hv; rename _ = _ => hv
    refine bind_in hv fun σ' e3 hv_ => ?_; clear hv; rename _ = _ => hv
    cases hv
    refine nG ?_
    refine wpAny_Assign_stores (sndE B e M _ h4 e1 N.now fun ρ1 hp1 tk1 x S1 T1 r1 => ?_) (noComp_sole h3) (noSwap_of h2 N.now.fm.sc)
    show wpAny _ A (assign (.Tuple ts k np) env x) _ _ _
    refine store_tup (s := { s with heap := hp1, toks := tk1 }) h1 N.now.ok.hand (show (unpackV a.1 is.length).bind (fun l => setSlots is l σ) = some σ' by rw [e2]; exact e3) S1 (N.now.fm.step T1) r1 fun h2 tk2 S2 T2 F2 => ?_
    exact g ρ1 h2 tk2 S2 (T1.ofNo.trans T2) F2
  | .assignAttr o a e, M, st, h => by
    refine onAssign_in (P := (SoundS G d ⟨cf, gl, init⟩ XE M (.assignAttr o a e))) h fun t v pos h => ?_
    refine @onAttr_in (fun t => SoundS G d ⟨cf, gl, init⟩ XE M (.assignAttr o a e) (.Assign [t] v pos)) _ _ h fun o' n p h => ?_
    have ⟨h, h'⟩ := band h
    have ⟨h1, h3⟩ := band h
    have ⟨h2, h4⟩ := band h'
    have h1 := beq_iff_eq.mp h1
    intro A env σ ρ H s r Q E hv N g
    refine byC fun nG => ?_
    refine bind_in hv fun v e1 hv_ => ?_; clear hv; rename _ = _ => hv
    refine bind_in hv fun x e2 hv_ => ?_; clear hv; rename _ = _ => hv
    refine bind_in hv fun H' e3 hv_ => ?_; clear hv; rename _ = _ => hv
    cases hv
    refine nG ?_
    refine plainObj_wpAny_Assign_Attribute (sndE B e M _ h4 e1 N.now fun ρ1 hp1 tk1 y S1 T1 r1 => sndE B o M _ h2 e2 (N.now.step S1 T1 tk1) fun ρ2 hp2 tk2 z S2 T2 r2 => ?_) (noComp_swaps h3)
    refine setattr_snd (s := { s with heap := hp2, toks := tk2 }) B.C S2 e3 (by rw [B.an]; exact h1) r2 (r1.mono T2.fix T2.pre) fun h' tk S3 T3 => ?_
    exact g ρ2 h' tk S3 ((T1.trans T2).trans T3).ofNo (N.now.fm.step ((T1.trans T2).trans T3))
  | .assignIdx o i e, M, st, h => by
    refine onAssign_in (P := (SoundS G d ⟨cf, gl, init⟩ XE M (.assignIdx o i e))) h fun t v pos h => ?_
    refine @onSub_in (fun t => SoundS G d ⟨cf, gl, init⟩ XE M (.assignIdx o i e) (.Assign [t] v pos)) _ _ h fun o' i' p h => ?_
    have ⟨h, h'⟩ := band h
    have ⟨h1, h2⟩ := band h
    have ⟨h3, h'⟩ := band h'
    have ⟨h4, h5⟩ := band h'
    intro A env σ ρ H s r Q E hv N g
    refine byC fun nG => ?_
    refine bind_in hv fun v e1 hv_ => ?_; clear hv; rename _ = _ => hv
    refine bind_in hv fun x e2 hv_ => ?_; clear hv; rename _ = _ => hv
    refine bind_in hv fun y e3 hv_ => ?_; clear hv; rename _ = _ => hv
    refine bind_in hv fun H' e4 hv_ => ?_; clear hv; rename _ = _ => hv
    cases hv
    refine nG ?_
    refine wpAny_Assign_Subscript (sndE B e M _ h5 e1 N.now fun ρ1 hp1 tk1 vv S1 T1 r1 => sndE B o M _ h3 e2 (N.now.step S1 T1 tk1) fun ρ2 hp2 tk2 ov S2 T2 r2 =>
      sndE B i M _ h4 e3 ((N.now.step S1 T1 tk1).step S2 T2 tk2) fun ρ3 hp3 tk3 iv S3 T3 r3 => ?_) (noComp_swaps h2)
    refine setidx_snd (s := { s with heap := hp3, toks := tk3 }) e4 S3 (r2.mono T3.fix T3.pre) r3 ((r1.mono T2.fix T2.pre).mono T3.fix T3.pre) fun h' tk S4 T4 => ?_
    have T := ((T1.trans T2).trans T3).trans T4
    exact g ρ3 h' tk S4 T.ofNo (N.now.fm.step T)
  | .aug i op e, M, st, h => by
    refine onAug_in (P := (SoundS G d ⟨cf, gl, init⟩ XE M (.aug i op e))) h fun t o' v pos h => ?_
    have ⟨h0, h⟩ := band h
    rw [beq_iff_eq.mp h0]
    refine @onName_in (fun t => SoundS G d ⟨cf, gl, init⟩ XE M (.aug i op e) (.AugAssign t (opPy op) v pos)) _ _ h fun n np h => ?_
    have ⟨h1, h3⟩ := band h
    intro A env σ ρ H s r Q E hv N g
    refine byC fun nG => sGet_in hv fun old ho hv_ => ?_
    clear hv; rename _ = _ => hv
    refine bind_in hv fun v e1 hv_ => ?_; clear hv; rename _ = _ => hv
    refine bind_in hv fun w e2 hv_ => ?_; clear hv; rename _ = _ => hv
    refine grd_in hv fun hno hv1 => some_in hv1 fun er => ?_
    clear hv hv1
    subst er
    have nob : ∀ k, w.1 ≠ .obj k := fun k z => by rw [z] at hno; cases hno
    refine nG ?_
    refine wpAny_AugAssign_Name (load_loc N.now.fm (storeB_of h1).1 ho fun ov r0 => sndE B e M _ h3 e1 N.now fun ρ1 hp1 tk1 y S1 T1 r1 => ?_)
    refine inp_snd (s := { s with heap := hp1, toks := tk1 }) e2 nob S1 (r0.mono T1.fix T1.pre) r1 fun ρ2 hp2 tk2 z S2 T2 r2 => ?_
    have T := T1.trans T2
    refine store_loc (s := { s with heap := hp2, toks := tk2 }) S2 (N.now.fm.step T) h1 r2 fun h3 tk3 S3 T3 F3 => ?_
    exact g ρ2 h3 tk3 S3 (T.ofNo.trans T3) F3
  | .augAttr o a op e, M, st, h => by
    refine onAug_in (P := (SoundS G d ⟨cf, gl, init⟩ XE M (.augAttr o a op e))) h fun t o' v pos h => ?_
    have ⟨h0, h⟩ := band h
    rw [beq_iff_eq.mp h0]
    refine @onAttr_in (fun t => SoundS G d ⟨cf, gl, init⟩ XE M (.augAttr o a op e) (.AugAssign t (opPy op) v pos)) _ _ h fun oo n p h => ?_
    have ⟨h1, h⟩ := band h
    have ⟨h3, h4⟩ := band h
    have h1 := beq_iff_eq.mp h1
    intro A env σ ρ H s r Q E hv N g
    refine byC fun nG => ?_
    refine bind_in hv fun x e1 hv_ => ?_; clear hv; rename _ = _ => hv
    refine bind_in hv fun old e2 hv_ => ?_; clear hv; rename _ = _ => hv
    refine bind_in hv fun v e3 hv_ => ?_; clear hv; rename _ = _ => hv
    refine bind_in hv fun w e4 hv_ => ?_; clear hv; rename _ = _ => hv
    refine vInt_in hv fun k hk hv_ => ?_
    clear hv; rename _ = _ => hv
    refine bind_in hv fun H' e5 hv_ => ?_; clear hv; rename _ = _ => hv
    cases hv
    refine nG ?_
    refine wpAny_AugAssign_AttributeAny (sndE B o M _ h3 e1 N.now fun ρ1 hp1 tk1 y S1 T1 r1 => ?_)
    refine attr_snd (s := { s with heap := hp1, toks := tk1 }) B.C S1 e2 (by rw [B.an]; exact h1) r1 fun tk z rz => ?_
    refine sndE B e M _ h4 e3 ((N.now.step S1 T1 tk1).tok tk) fun ρ2 hp2 tk2 vv S2 T2 r2 => ?_
    refine inp_snd (s := { s with heap := hp2, toks := tk2 }) e4 (by rw [hk]; intro _ z; cases z) S2 (rz.mono T2.fix T2.pre) r2 fun ρ3 hp3 tk3 nv S3 T3 r3 => ?_
    refine setattr_snd (s := { s with heap := hp3, toks := tk3 }) B.C S3 e5 (by rw [B.an]; exact h1) ((r1.mono T2.fix T2.pre).mono T3.fix T3.pre) r3 fun h' tk S4 T4 => ?_
    have T := ((T1.trans T2).trans T3).trans T4
    exact g ρ3 h' tk S4 T.ofNo (N.now.fm.step T)
  | .augIdx o i op e, M, st, h => by
    refine onAug_in (P := (SoundS G d ⟨cf, gl, init⟩ XE M (.augIdx o i op e))) h fun t o' v pos h => ?_
    have ⟨h0, h⟩ := band h
    rw [beq_iff_eq.mp h0]
    refine @onSub_in (fun t => SoundS G d ⟨cf, gl, init⟩ XE M (.augIdx o i op e) (.AugAssign t (opPy op) v pos)) _ _ h fun oo i' p h => ?_
    have ⟨h1, h⟩ := band h
    have ⟨h3, h⟩ := band h
    have ⟨h4, h5⟩ := band h
    intro A env σ ρ H s r Q E hv N g
    refine byC fun nG => ?_
    refine bind_in hv fun x e1 hv_ => ?_; clear hv; rename _ = _ => hv
    refine bind_in hv fun y e2 hv_ => ?_; clear hv; rename _ = _ => hv
    refine bind_in hv fun old e3 hv_ => ?_; clear hv; rename _ = _ => hv
    refine bind_in hv fun v e4 hv_ => ?_; clear hv; rename _ = _ => hv
    refine bind_in hv fun w e5 hv_ => ?_; clear hv; rename _ = _ => hv
    refine vInt_in hv fun k hk hv_ => ?_
    clear hv; rename _ = _ => hv
    refine bind_in hv fun H' e6 hv_ => ?_; clear hv; rename _ = _ => hv
    cases hv
    refine nG ?_
    refine wpAny_AugAssign_SubscriptAny (sndE B o M _ h3 e1 N.now fun ρ1 hp1 tk1 ov S1 T1 r1 => sndE B i M _ h4 e2 (N.now.step S1 T1 tk1) fun ρ2 hp2 tk2 iv S2 T2 r2 => ?_) (augStore_plain h1)
    refine (item_snd (s := { s with heap := hp2, toks := tk2 }) e3 S2 (r1.mono T2.fix T2.pre) r2 fun tk z rz => ?_).1
    refine sndE B e M _ h5 e4 (((N.now.step S1 T1 tk1).step S2 T2 tk2).tok tk) fun ρ3 hp3 tk3 vv S3 T3 r3 => ?_
    refine inp_snd (s := { s with heap := hp3, toks := tk3 }) e5 (by rw [hk]; intro _ z; cases z) S3 (rz.mono T3.fix T3.pre) r3 fun ρ4 hp4 tk4 nv S4 T4 r4 => ?_
    refine setidx_snd (s := { s with heap := hp4, toks := tk4 }) e6 S4 (((r1.mono T2.fix T2.pre).mono T3.fix T3.pre).mono T4.fix T4.pre) ((r2.mono T3.fix T3.pre).mono T4.fix T4.pre) r4 fun h' tk S5 T5 => ?_
    have T := (((T1.trans T2).trans T3).trans T4).trans T5
    exact g ρ4 h' tk S5 T.ofNo (N.now.fm.step T)
  | .ret e, M, st, h => by
    refine onRet_in (P := (SoundS G d ⟨cf, gl, init⟩ XE M (.ret e))) h fun vo pos h => ?_
    refine @onSome_in _ (fun vo => SoundS G d ⟨cf, gl, init⟩ XE M (.ret e) (.Return vo pos)) _ _ h fun v h => ?_
    intro A env σ ρ H s r Q E hv N g
    refine byC fun nG => ?_
    refine bind_in hv fun a e1 hv_ => ?_; clear hv; rename _ = _ => hv
    cases hv
    refine nG ?_
    exact wpAny_Return_some (sndE B e M _ h e1 N.now fun ρ1 hp1 tk1 x S1 T1 r1 => g ρ1 hp1 tk1 S1 T1.ofNo (N.now.fm.step T1) x r1)
  | .expr e, M, st, h => by
    refine onExpr_in (P := (SoundS G d ⟨cf, gl, init⟩ XE M (.expr e))) h fun v pos h => ?_
    have h := band h
    intro A env σ ρ H s r Q E hv N g
    refine byC fun nG => ?_
    refine bind_in hv fun a e1 hv_ => ?_; clear hv; rename _ = _ => hv
    refine vNone_in hv fun q_ hv1 => some_in hv1 fun er => nG ?_
    clear hv hv1
    subst er
    refine wpAny_Expr_any (sndE B e M _ h.2 e1 N.now fun ρ1 hp1 tk1 x S1 T1 r1 => g ρ1 hp1 tk1 S1 T1.ofNo (N.now.fm.step T1)) ?_ (noComp_swaps h.1)
    unfold interactive
    rw [N.now.fm.knd]; rfl
  | .if_ t x y, M, st, h => by
    refine onIfS_in (P := (SoundS G d ⟨cf, gl, init⟩ XE M (.if_ t x y))) h fun t' x' y' pos h => ?_
    have ⟨h1, h⟩ := band h
    have ⟨h2, h3⟩ := band h
    intro A env σ ρ H s r Q E hv N g
    refine byC fun nG => ?_
    refine bind_in hv fun b e1 hv_ => ?_; clear hv; rename _ = _ => hv
    refine nG ?_
    refine wpAny_If (sndT B t M _ h1 e1 N.now fun ρ1 hp1 tk1 S1 T1 => ?_)
    refine byC fun nG => ?_
    obtain ⟨bb, Hb⟩ := b
    cases bb with
    | true => refine nG ?_; exact sndB B rz HR x M _ h2 hv (N.pure S1 T1 tk1) (GivesR.on (s := s) g T1.ofNo)
    | false => refine nG ?_; exact sndB B rz HR y M _ h3 hv (N.pure S1 T1 tk1) (GivesR.on (s := s) g T1.ofNo)
  | .for_ i it body, M, st, h => by
    refine onFor_in (P := (SoundS G d ⟨cf, gl, init⟩ XE M (.for_ i it body))) h fun t it' body' pos h => ?_
    refine @onName_in (fun t => SoundS G d ⟨cf, gl, init⟩ XE M (.for_ i it body) (.For t it' body' [] pos)) _ _ h fun n np h => ?_
    have ⟨h, h'⟩ := band h
    have ⟨h1, h2⟩ := band h
    have ⟨h3, h4⟩ := band h'
    intro A env σ ρ H s r Q E hv N g
    refine byC fun nG => ?_
    refine bind_in hv fun a e1 hv_ => ?_; clear hv; rename _ = _ => hv
    refine bind_in hv fun H₀ e2 hv_ => ?_; clear hv; rename _ = _ => hv
    refine bind_in hv fun rr e3 hv_ => ?_; clear hv; rename _ = _ => hv
    cases hv
    refine nG ?_
    exact for_core h2 (sndE B it M _ h3) (store_name h1) (sndB B false (fun z => by cases z) body M _ h4) e1 e2 e3 N g
  | .forTup is it body, M, st, h => by
    refine onFor_in (P := (SoundS G d ⟨cf, gl, init⟩ XE M (.forTup is it body))) h fun t it' body' pos h => ?_
    refine @onTup_in (fun t => SoundS G d ⟨cf, gl, init⟩ XE M (.forTup is it body) (.For t it' body' [] pos)) _ _ h fun ts k np h => ?_
    have ⟨h, h'⟩ := band h
    have ⟨h1, h2⟩ := band h
    have ⟨h3, h4⟩ := band h'
    intro A env σ ρ H s r Q E hv N g
    refine byC fun nG => ?_
    refine bind_in hv fun a e1 hv_ => ?_; clear hv; rename _ = _ => hv
    refine bind_in hv fun H₀ e2 hv_ => ?_; clear hv; rename _ = _ => hv
    refine bind_in hv fun rr e3 hv_ => ?_; clear hv; rename _ = _ => hv
    cases hv
    refine nG ?_
    refine for_core h2 (sndE B it M _ h3) (store_tup h1) (sndB B false (fun z => by cases z) body M _ h4) e1 e2 ?_ N g
    rw [← e3]
    congr 1
    funext v σ' H'
    show ((unpackV v is.length).bind fun l => setSlots is l σ').bind _ = _
    rw [Option.bind_assoc]
  | .while_ t body, M, st, h => by
    refine onWhile_in (P := (SoundS G d ⟨cf, gl, init⟩ XE M (.while_ t body))) h fun t' body' pos h => ?_
    have h := band h
    intro A env σ ρ H s r Q E hv N g
    exact while_core (sndT B t M _ h.1) (sndB B false (fun z => by cases z) body M _ h.2) hv N g
  | .cont, M, st, h => by
    refine onCont_in (P := (SoundS G d ⟨cf, gl, init⟩ XE M (.cont))) h fun pos q_ => ?_
    intro A env σ ρ H s r Q E hv N g
    cases hv
    exact wpAny_Continue (g ρ s.heap s.toks N.now.sta (.refl _ _ _ _) N.now.fm)
  | .raise_ e, M, st, h => by
    have hz : rz = true := by
      refine @onRaise_in (fun q_ => rz = true) _ _ h fun xo co pos h => ?_
      refine @onNone_in _ (fun q_ => rz = true) _ _ h fun h => ?_
      refine @onSome_in _ (fun q_ => rz = true) _ _ h fun xo h => ?_
      refine @onFn_in (fun q_ => rz = true) _ _ h fun n np l cp h => ?_
      refine @on1_in _ (fun q_ => rz = true) _ _ h fun v h => ?_
      exact (band (band h).1).1
    subst hz
    exact HR rfl e M st h
  | .tryRet f args, M, st, h => (Bool.false_ne_true h).elim
theorem sndB (B : Amb G fa init gl d cf) (rz : Bool) (HR : rz = true → ∀ (x : X) (M : Mx) (st : PySem.Stmt), mS M true (.raise_ x) st = true → SoundS G d ⟨cf, gl, init⟩ XE M (.raise_ x) st) :
    ∀ (b : List S) (M : Mx) (ss : List PySem.Stmt), mB M rz b ss = true → SoundB G d ⟨cf, gl, init⟩ XE M b ss
  | [], M, ss, h => by
    refine onNil_in (P := SoundB G d ⟨cf, gl, init⟩ XE M []) h fun q_ => ?_
    intro A env σ ρ H s r Q E hv N g
    cases hv
    exact wpAny_execs_nil (g.here N)
  | b :: r, M, ss, h => by
    refine onCons_in (P := SoundB G d ⟨cf, gl, init⟩ XE M (b :: r)) h fun t u h => ?_
    have h := band h
    intro A env σ ρ H s rr Q E hv N g
    refine wpAny_execs_cons ?_
    rw [evB] at hv
    refine byC fun nG => ?_
    cases hb : evS ⟨cf, gl, init⟩ b σ H with
    | none => rw [hb] at hv; cases hv
    | some rb =>
      rw [hb] at hv
      refine nG ?_
      refine sndS B rz HR b M t h.1 hb N fun ρ1 h1 tk1 S1 T1 F1 => ?_
      refine byC fun nG => ?_
      obtain ⟨fl, σ1, H1⟩ := rb
      cases fl with
      | next => refine nG ?_; exact sndB B rz HR r M u h.2 hv (N.next S1 T1 F1 tk1) (GivesR.on (s := s) g T1)
      | cont => cases hv; refine nG ?_; exact g ρ1 h1 tk1 S1 T1 F1
      | ret v => cases hv; refine nG ?_; exact g ρ1 h1 tk1 S1 T1 F1
      | exc v => cases hv; refine nG ?_; exact g ρ1 h1 tk1 S1 T1 F1
end
end
end Mine
end
/-! Snd19 -/
section
set_option Elab.async false
set_option genSizeOf false
set_option linter.all false
set_option maxRecDepth 100000
open PySem PySem.W PyProof.Rows
namespace Mine

/-! calls -/
theorem zip_lookup {α : Type} : ∀ {ns : List Str} {vs : List α}, ns.Nodup → vs.length = ns.length → ns.filterMap (fun n => ((ns.zip vs).lookup n).map (n, ·)) = ns.zip vs ∧ ∀ n, n ∈ ns → ((ns.zip vs).lookup n).isSome = true
  | [], [], _, _ => ⟨rfl, fun n h => by cases h⟩
  | [], _ :: _, _, h => by cases h
  | _ :: _, [], _, h => by cases h
  | n :: ns, v :: vs, nd, h => by
    refine byC fun nG => ?_
    obtain ⟨n1, n2⟩ := List.nodup_cons.mp nd
    obtain ⟨i1, i2⟩ := zip_lookup (vs := vs) n2 (by simpa using h)
    have other : ∀ m, m ∈ ns → ((n :: ns).zip (v :: vs)).lookup m = (ns.zip vs).lookup m := fun m hm => by
      have : (m == n) = false := beq_eq_false_iff_ne.mpr fun z => n1 (z ▸ hm)
      rw [List.zip_cons_cons, List.lookup_cons, this]
    refine nG ?_
    refine ⟨?_, fun m hm => ?_⟩
    · rw [List.filterMap_cons]
      have e : ((n :: ns).zip (v :: vs)).lookup n = some v := by simp
      rw [e]
      simp only [Option.map_some, List.zip_cons_cons, List.cons.injEq, true_and]
      have cong : ∀ (l : List Str), (∀ m, m ∈ l → m ∈ ns) → l.filterMap (fun m => (((n, v) :: ns.zip vs).lookup m).map (m, ·)) = l.filterMap (fun m => ((ns.zip vs).lookup m).map (m, ·)) := by
        intro l
        induction l with
        | nil => intro _; rfl
        | cons x r ih =>
          intro hx
          have e2 := other x (hx x List.mem_cons_self)
          rw [List.zip_cons_cons] at e2
          rw [List.filterMap_cons, List.filterMap_cons, e2, ih fun m hm => hx m (List.mem_cons_of_mem _ hm)]
      rw [cong ns (fun q_ h => h), i1]
    · refine byC fun nG => ?_
      rcases List.mem_cons.mp hm with rfl | hm
      · refine nG ?_
        simp
      · refine nG ?_; rw [other m hm]; exact i2 m hm

theorem skipB {α : Type} {c : Bool} {a b x : Sem α} (h : c = false) (e : b = x) : (if c = true then a else b) = x := by subst h; exact e
theorem forIn_none {α β γ : Type} {l : List α} {i : β} {f : α → β → Sem (ForInStep β)} {K : β → Sem γ} {r : Sem γ} (h : l = []) (e : K i = r) : (forIn l i f >>= K) = r := by subst h; exact e
theorem bind_plain0 {nm qn : Str} {bd : FuncBody} {sc : Scope} {gl : Addr} {cl : List (Str × Addr)} {kd dc pm : Value} {an : Option Addr} {co ct : Value} {bt : Addr} {ps : List Arg} {p5 : List (Option PySem.Expr)} {p7 : List PySem.Expr} {vals : List Value} {ns : List Str}
    (hn : ps.map (·.arg) = ns) (e1 : ns.filter (fun n => ((ns.zip vals).lookup n).isNone) = []) (z1 : ns.filterMap (fun n => ((ns.zip vals).lookup n).map (n, ·)) = ns.zip vals) (hl : vals.length = ns.length) :
    bindArgs { name := nm, qualname := qn, params := { posonlyargs := [], args := ps, vararg := none, kwonlyargs := [], kw_defaults := p5, kwarg := none, defaults := p7 }, body := bd, scope := sc, globals := gl, closure := cl, defaults := .none, kwdefaults := kd, doc := dc, pyModule := pm, annotations := an, code := co, closureTuple := ct, builtins := bt } ⟨vals, []⟩ = pure (ns.zip vals) := by
  subst hn
  unfold bindArgs
  refine skipB (c := decide (vals.length > (ps.map (·.arg)).length) && true) ?_ (skipB ?_ ?_)
  · rw [hl, decide_eq_false (Nat.lt_irrefl _)]; rfl
  · show (!(List.filter (fun n => ((ps.map (·.arg)).zip vals |>.lookup n).isNone) ((ps.map (·.arg)).take ((ps.map (·.arg)).length - (List.drop (([] : List Value).length - (ps.map (·.arg)).length) ([] : List Value)).length))).isEmpty) = false
    rw [List.drop_nil, List.length_nil, Nat.sub_zero, List.take_length, e1]; rfl
  refine forIn_none (l := ((ps.map (·.arg)).drop ((ps.map (·.arg)).length - (List.drop (([] : List Value).length - (ps.map (·.arg)).length) ([] : List Value)).length)).zip (List.drop (([] : List Value).length - (ps.map (·.arg)).length) ([] : List Value))) ?_ ?_
  · rw [List.drop_nil, List.zip_nil_right]
  · show (pure (List.filterMap (fun n => (((ps.map (·.arg)).zip vals).lookup n).map (n, ·)) (ps.map (·.arg) ++ [])) : Sem _) = _
    rw [List.append_nil, z1]
theorem bind_plain {fd : FuncData} {vals : List Value} {ns : List Str} (h1 : fd.params.posonlyargs = []) (h2 : fd.params.kwonlyargs = []) (h3 : fd.params.vararg = none) (h4 : fd.params.kwarg = none) (h5 : fd.defaults = .none)
    (hn : fd.params.args.map (·.arg) = ns) (nd : ns.Nodup) (hl : vals.length = ns.length) : bindArgs fd ⟨vals, []⟩ = pure (ns.zip vals) := by
  obtain ⟨z1, z2⟩ := zip_lookup nd hl
  have e1 : ns.filter (fun n => ((ns.zip vals).lookup n).isNone) = [] := by
    rw [List.filter_eq_nil_iff]
    intro n hn' q
    have := z2 n hn'
    cases h : (ns.zip vals).lookup n with
    | none => rw [h] at this; cases this
    | some v => rw [h] at q; cases q
  obtain ⟨_, _, ⟨p1, p2, p3, p4, p5, p6, p7⟩, _, _, _, _, _⟩ := fd
  cases h1; cases h2; cases h3; cases h4; cases h5
  exact bind_plain0 hn e1 z1 hl

theorem bindL_get {kindOf : Str → Option NameKind} : ∀ {ns : List Str} {xs : List Value} {m : Str → Option Value} {n : Str}, ns.Nodup → xs.length = ns.length → kindOf n = some .local →
    (∀ (i : Nat), ns[i]? = some n → bindL kindOf (ns.zip xs) m n = xs[i]?) ∧ (n ∉ ns → bindL kindOf (ns.zip xs) m n = m n)
  | [], [], m, n, _, _, _ => ⟨fun i h => by simp at h, fun q_ => rfl⟩
  | [], _ :: _, _, _, _, h, _ => by cases h
  | _ :: _, [], _, _, _, h, _ => by cases h
  | k :: ns, x :: xs, m, n, nd, h, hk => by
    obtain ⟨n1, n2⟩ := List.nodup_cons.mp nd
    have hl : xs.length = ns.length := by simpa using h
    rw [List.zip_cons_cons, bindL]
    obtain ⟨i1, i2⟩ := bindL_get (xs := xs) (m := if kindOf k = some .local then fun y => if y = k then some x else m y else m) (n := n) n2 hl hk
    refine ⟨fun i e => ?_, fun q => ?_⟩
    · refine byC fun nG => ?_
      cases i with
      | zero =>
        simp at e; subst e
        refine nG ?_; rw [i2 n1, if_pos hk]; simp
      | succ i => refine nG ?_; simpa using i1 i (by simpa using e)
    · rw [i2 fun z => q (List.mem_cons_of_mem _ z)]
      have nk : n ≠ k := fun z => q (z ▸ List.mem_cons_self)
      split
      · simp [nk]
      · rfl
theorem bindC_get {kindOf : Str → Option NameKind} : ∀ {ns : List Str} {xs : List Value} {m : Str → Option Value} {n : Str}, ns.Nodup → xs.length = ns.length → kindOf n ≠ some .local →
    (∀ (i : Nat), ns[i]? = some n → bindC kindOf (ns.zip xs) m n = xs[i]?) ∧ (n ∉ ns → bindC kindOf (ns.zip xs) m n = m n)
  | [], [], m, n, _, _, _ => ⟨fun i h => by simp at h, fun q_ => rfl⟩
  | [], _ :: _, _, _, _, h, _ => by cases h
  | _ :: _, [], _, _, _, h, _ => by cases h
  | k :: ns, x :: xs, m, n, nd, h, hk => by
    obtain ⟨n1, n2⟩ := List.nodup_cons.mp nd
    have hl : xs.length = ns.length := by simpa using h
    rw [List.zip_cons_cons, bindC]
    obtain ⟨i1, i2⟩ := bindC_get (xs := xs) (m := if kindOf k = some .local then m else fun y => if y = k then some x else m y) (n := n) n2 hl hk
    refine ⟨fun i e => ?_, fun q => ?_⟩
    · refine byC fun nG => ?_
      cases i with
      | zero =>
        simp at e; subst e
        refine nG ?_; rw [i2 n1, if_neg hk]; simp
      | succ i => refine nG ?_; simpa using i1 i (by simpa using e)
    · rw [i2 fun z => q (List.mem_cons_of_mem _ z)]
      have nk : n ≠ k := fun z => q (z ▸ List.mem_cons_self)
      split
      · rfl
      · simp [nk]

theorem cellsFrom_some : ∀ {names : List (Str × NameKind)} {k : Nat} {acc : List (Str × Addr)} {n : Str}, ((∃ c, acc.lookup n = some c) ∨ (n, NameKind.cell) ∈ names) → ∃ c, (cellsFrom k names acc).lookup n = some c
  | [], _, _, _, h => by rcases h with h | h; exact h; cases h
  | (m, kd) :: r, k, acc, n, h => by
    unfold cellsFrom
    split
    · rename_i hk
      refine cellsFrom_some ?_
      refine byC fun nG => ?_
      rcases h with ⟨c, h⟩ | h
      · refine nG ?_
        refine .inl ?_
        rw [List.lookup_cons]
        split <;> exact ⟨_, by first | rfl | exact h⟩
      · rcases List.mem_cons.mp h with e | h
        · cases e; refine nG ?_; exact .inl ⟨k, by simp⟩
        · refine nG ?_
          exact .inr h
    · rename_i hk
      refine cellsFrom_some ?_
      refine byC fun nG => ?_
      rcases h with h | h
      · refine nG ?_
        exact .inl h
      · rcases List.mem_cons.mp h with e | h
        · cases e; exact absurd rfl hk
        · refine nG ?_
          exact .inr h
theorem mem_of_lookup_k {n : Str} {v : NameKind} : ∀ {names : List (Str × NameKind)}, names.lookup n = some v → (n, v) ∈ names
  | (k, w) :: r, h => by
    rw [List.lookup_cons] at h
    refine byC fun nG => ?_
    cases hb : n == k with
    | true => rw [hb] at h; cases h; refine nG ?_; rw [beq_iff_eq.mp hb]; exact List.mem_cons_self
    | false => rw [hb] at h; refine nG ?_; exact List.mem_cons_of_mem _ (mem_of_lookup_k h)

noncomputable def nodupB : List Str → Bool
  | [] => true
  | a :: r => !(r.any fun b => b == a) && nodupB r
theorem nodupB_of : ∀ {l : List Str}, nodupB l = true → l.Nodup
  | [], _ => .nil
  | a :: r, h => by
    simp only [nodupB, Bool.and_eq_true, Bool.not_eq_true', List.any_eq_false, beq_iff_eq] at h
    exact List.nodup_cons.mpr ⟨fun z => h.1 a z rfl, nodupB_of h.2⟩

/-- what is looked up about a def -/
noncomputable def fnIn (K : Frag) (a : Addr) : Option FuncData := (K.lookup a).bind fun o => Data.casesOn (motive := fun q_ => Option FuncData) o.data none (fun q_ => none) (fun q_ q_ => none) (fun q_ q_ => none) (fun q_ q_ q_ => none) (fun q_ q_ => none) (fun q_ => none) some (fun q_ => none) (fun q_ => none) none
theorem fnIn_of {K : Frag} {a : Addr} {fd : FuncData} (h : fnIn K a = some fd) : ∃ o, K.lookup a = some o ∧ o.data = .func fd := by
  refine bind_in h fun o h1 h2 => ⟨o, h1, ?_⟩
  cases e : o.data <;> rw [e] at h2 <;> first | exact nope h2 | exact congrArg _ (Option.some.inj h2)
noncomputable def fdH (K : Frag) (fn : Fn) (nm : List Str) (v : Nat) (fd : FuncData) : Bool :=
  fd.params.posonlyargs.isEmpty && fd.params.kwonlyargs.isEmpty && fd.params.vararg.isNone && fd.params.kwarg.isNone &&
  fd.globals == mainGlobals && fd.builtins == builtinsNs && fd.closure.isEmpty && codeIn K fd.code fd.qualname && fd.defaults == .none &&
  !fd.scope.isCoroutine && !fd.scope.isGenerator && fd.scope.kind == .function &&
  fd.params.args.map (·.arg) == nm.take fn.np && Nat.ble fn.np v && Nat.ble v nm.length && fn.ns == nm.length && nodupB (nm.take v) &&
  ((nm.take v).all fun n => fd.scope.names.lookup n == some .local || fd.scope.names.lookup n == some .cell)
noncomputable def fnB (K : Frag) (a : Addr) (fn : Fn) (nm : List Str) (v : Nat) (rz : Bool) : Bool := match fnIn K a with
  | some fd => fdH K fn nm v fd && (match fd.body with
    | .stmts body => mB ⟨fd.scope, nm, List.range v⟩ rz fn.body body
    | _ => false)
  | none => false

structure FnSh (G : Gx) (a : Addr) (fn : Fn) (nm : List Str) (v : Nat) (o : Obj) (fd : FuncData) (bd : List Stmt) : Prop where
  look : G.K.lookup a = some o
  data : o.data = .func fd
  body : fd.body = .stmts bd
  pos : fd.params.posonlyargs = []
  kwo : fd.params.kwonlyargs = []
  va : fd.params.vararg = none
  ka : fd.params.kwarg = none
  glob : fd.globals = mainGlobals
  blt : fd.builtins = builtinsNs
  clo : fd.closure = []
  code : codeIn G.K fd.code fd.qualname = true
  dfl : fd.defaults = .none
  co : fd.scope.isCoroutine = false
  gen : fd.scope.isGenerator = false
  kind : fd.scope.kind = .function
  args : fd.params.args.map (·.arg) = nm.take fn.np
  npv : fn.np ≤ v
  vn : v ≤ nm.length
  ns : fn.ns = nm.length
  nd : (nm.take v).Nodup
  kinds : ∀ n, n ∈ nm.take v → fd.scope.names.lookup n = some .local ∨ fd.scope.names.lookup n = some .cell
structure FnOk (G : Gx) (a : Addr) (fn : Fn) (nm : List Str) (v : Nat) (rz : Bool) (o : Obj) (fd : FuncData) (bd : List Stmt) : Prop extends FnSh G a fn nm v o fd bd where
  mat : mB ⟨fd.scope, nm, List.range v⟩ rz fn.body bd = true
theorem fnSh_of {G : Gx} {a : Addr} {fn : Fn} {nm : List Str} {v : Nat} {fd : FuncData} {body : List Stmt} (h1 : fnIn G.K a = some fd) (h : fdH G.K fn nm v fd = true) (hb : fd.body = .stmts body) : ∃ o, FnSh G a fn nm v o fd body := by
  refine byC fun nG => ?_
  obtain ⟨o, ho, hd⟩ := fnIn_of h1
  simp only [fdH, Bool.and_eq_true, beq_iff_eq, Bool.not_eq_true', List.all_eq_true, Bool.or_eq_true, List.isEmpty_iff, Option.isNone_iff_eq_none] at h
  refine nG ?_
  exact ⟨o, ho, hd, hb, h.1.1.1.1.1.1.1.1.1.1.1.1.1.1.1.1.1, h.1.1.1.1.1.1.1.1.1.1.1.1.1.1.1.1.2, h.1.1.1.1.1.1.1.1.1.1.1.1.1.1.1.2, h.1.1.1.1.1.1.1.1.1.1.1.1.1.1.2, h.1.1.1.1.1.1.1.1.1.1.1.1.1.2, h.1.1.1.1.1.1.1.1.1.1.1.1.2, h.1.1.1.1.1.1.1.1.1.1.1.2,
    h.1.1.1.1.1.1.1.1.1.1.2, h.1.1.1.1.1.1.1.1.1.2, h.1.1.1.1.1.1.1.1.2, h.1.1.1.1.1.1.1.2, h.1.1.1.1.1.1.2, h.1.1.1.1.1.2, Nat.le_of_ble_eq_true h.1.1.1.1.2, Nat.le_of_ble_eq_true h.1.1.1.2, h.1.1.2, nodupB_of h.1.2, h.2⟩
theorem fnB_of {G : Gx} {a : Addr} {fn : Fn} {nm : List Str} {v : Nat} {rz : Bool} (h : fnB G.K a fn nm v rz = true) : ∃ o fd body, FnOk G a fn nm v rz o fd body := by
  unfold fnB at h
  refine byC fun nG => ?_
  cases h1 : fnIn G.K a with
  | none => rw [h1] at h; cases h
  | some fd =>
    rw [h1] at h
    dsimp only at h
    rw [Bool.and_eq_true] at h
    obtain ⟨h, hm⟩ := h
    cases hb : fd.body with
    | stmts body =>
      rw [hb] at hm
      obtain ⟨o, F⟩ := fnSh_of h1 h hb
      refine nG ?_
      exact ⟨o, fd, body, F, hm⟩
    | _ => rw [hb] at hm; cases hm

section
variable {G : Gx} {fa : Nat → Addr} {init : Nat → Nat} {d : Nat} {cf : CF} {gl : List V} {XE : V → Value → Shared → Prop}
variable {A : Around} {s : Shared} {ρ : Rho} {H : Hp}

theorem live_lt (S : Sta G ρ H s.heap) {p : Addr × Addr} (hp : p ∈ ρ) : p.2 < s.heap.objs.size := by
  obtain ⟨k, hk⟩ := List.getElem?_of_mem hp
  cases e : s.heap.get? p.2 with
  | none => exact absurd e (S.there hk)
  | some o => exact Heap.lt_size e

/-- a def is entered -/
theorem enter_fn (B : Amb G fa init gl d cf) {a : Addr} {fn : Fn} {nm : List Str} {v : Nat} {o : Obj} {fd : FuncData} {body : List Stmt} (K : FnSh G a fn nm v o fd body) {args : List V} {xs : List Value} {R : Result → Shared → Prop}
    (hl : args.length = fn.np) (S : Sta G ρ H s.heap) (ok : Ok G (5 * (d + 1)) (20 * (d + 1)) A ρ s.heap) (ra : RepL s.heap ρ args xs)
    (q : ∀ env outer h₁ tk₁, env.scope = fd.scope → env.frame = some env.locals → A.frames = some outer → (A.deeper env).frames = some (env :: outer) → (∀ b, FA env b → s.heap.get? b = none) → Step NoF ρ H s.heap ρ H h₁ →
      NowS G d ⟨fd.scope, nm, List.range v⟩ (A.deeper env) env (args.map some ++ List.replicate (fn.ns - fn.np) none) ρ H { s with heap := h₁, toks := tk₁ } →
      wpAny (model G.prog G.w) (A.deeper env) (execs body env) (fun f s' => R (.ok (.ret (match f with | .ret v => v | _ => .none))) s')
        (fun e s' => wpAny (model G.prog G.w) (A.deeper env) (leaving env e) (fun q_ s'' => R (.error e) s'') (fun e' s'' => R (.error e') s'') s') { s with heap := h₁, toks := tk₁ }) :
    codeAny (model G.prog G.w) A (.call (.ref a) ⟨xs, []⟩) R s := by
  have X := S.inK B.C
  have hlen : xs.length = fn.np := ra.length.trans hl
  have ntake : (nm.take fn.np).length = fn.np := by rw [List.length_take]; exact Nat.min_eq_left (Nat.le_trans K.npv K.vn)
  have ndp : (nm.take fn.np).Nodup := by
    have e : nm.take fn.np = (nm.take v).take fn.np := by rw [List.take_take, Nat.min_eq_left K.npv]
    rw [e]; exact (List.take_sublist _ _).nodup K.nd
  have inTake : ∀ n, n ∈ nm.take fn.np → n ∈ nm.take v := fun n hn => by
    have e : nm.take fn.np = (nm.take v).take fn.np := by rw [List.take_take, Nat.min_eq_left K.npv]
    rw [e] at hn; exact List.mem_of_mem_take hn
  have hbind : bindArgs fd ⟨xs, []⟩ = pure ((nm.take fn.np).zip xs) := bind_plain K.pos K.kwo K.va K.ka K.dfl K.args ndp (by rw [hlen, ntake])
  have kindOk : ∀ n, n ∈ nm.take v → fd.scope.names.lookup n = some .local ∨ (fd.scope.names.lookup n = some .cell ∧ ∃ c, (cellsFrom (s.heap.objs.size + 1) fd.scope.names []).lookup n = some c) := fun n hn =>
    (K.kinds n hn).imp id fun q => ⟨q, cellsFrom_some (.inr (mem_of_lookup_k q))⟩
  refine codeAny_call_cells (binds := (nm.take fn.np).zip xs) ?_ (X _ _ K.look) K.data (B.Ge.nolimit.keeps S.base) (codeRec_of X K.code) K.body hbind K.clo ?_ ?_ K.co K.gen K.kind
  · have e : recursionLimit = 1000 := rfl
    have := ok.dep
    omega
  · intro y hy
    have hm : y.1 ∈ nm.take fn.np := (List.of_mem_zip hy).1
    rcases kindOk y.1 (inTake _ hm) with q | ⟨q, c, hc⟩
    · exact .inl q
    · exact .inr ⟨q, by rw [hc]; rfl⟩
  intro s₁ IC
  generalize hE : callEnvC fd s.heap.objs.size a = env at IC ⊢
  have hloc : env.locals = s.heap.objs.size := by rw [← hE]; rfl
  have hsc : env.scope = fd.scope := by rw [← hE]; rfl
  have hcl : env.cells = cellsFrom (s.heap.objs.size + 1) fd.scope.names [] := by rw [← hE]; rfl
  have hfr : env.frame = some env.locals := by rw [← hE]; rfl
  have hgl : env.globals = mainGlobals := by rw [← hE]; exact K.glob
  have hbl : env.builtins = builtinsNs := by rw [← hE]; exact K.blt
  obtain ⟨h₁, tk₁, rfl, keep⟩ := IC.done
  have kof : ∀ n, env.kindOf n = fd.scope.names.lookup n := fun n => by unfold Env.kindOf; rw [hsc]
  have S1 : Sta G ρ H h₁ := S.ext keep
  have T1 : Step NoF ρ H s.heap ρ H h₁ := .ext keep
  have ge : ∀ b, FA env b → s.heap.objs.size ≤ b := fun b f => by
    rcases f with rfl | ⟨n, hn⟩
    · rw [hloc]; exact Nat.le_refl _
    · have := IC.above n b (mem_of_lookup hn)
      rw [hloc] at this
      exact Nat.le_of_lt this
  have nonef : ∀ b, FA env b → s.heap.get? b = none := fun b f => none_of_le (ge b f)
  have outf : ∀ b, FA env b → Out ρ b := fun b f p hp z => by
    have h1 := live_lt S hp
    rw [z] at h1
    exact absurd h1 (Nat.not_lt.mpr (ge b f))
  have basef : ∀ b, FA env b → G.base.get? b = none := fun b f => base_none S (nonef b f)
  have hnsL : h₁.Ns env.locals (bindL env.kindOf ((nm.take fn.np).zip xs) fun q_ => none) := IC.toInCall.ns
  have visn : ∀ (i : Nat) n, i ∈ List.range v → nm[i]? = some n → n ∈ nm.take v := fun i n hi e => by
    have hi' := List.mem_range.mp hi
    have e' : (nm.take v)[i]? = some n := by rw [List.getElem?_take_of_lt hi']; exact e
    exact List.mem_of_getElem? e'
  have slot0 : ∀ (i : Nat) w, (args.map some ++ List.replicate (fn.ns - fn.np) none)[i]? = some (some w) → ∃ x, i < fn.np ∧ xs[i]? = some x ∧ RepV h₁ ρ w x := fun i w e => by
    rcases Nat.lt_or_ge i fn.np with lt | ge
    · rw [List.getElem?_append_left (by rw [List.length_map, hl]; exact lt), List.getElem?_map] at e
      cases ea : args[i]? with
      | none => rw [ea] at e; cases e
      | some w' =>
        rw [ea] at e
        simp at e
        subst e
        obtain ⟨x, hx, rx⟩ := ra.get ea
        exact ⟨x, lt, hx, rx.mono T1.fix T1.pre⟩
    · rw [List.getElem?_append_right (by rw [List.length_map, hl]; exact ge)] at e
      have := List.mem_of_getElem? e
      have := List.eq_of_mem_replicate this
      cases this
  have F1 : Fm G ⟨fd.scope, nm, List.range v⟩ env (args.map some ++ List.replicate (fn.ns - fn.np) none) ρ h₁ := by
    refine ⟨hsc, K.kind, hgl, hbl, fun i j n hi hj e1 e2 => ?_, fun n n' c e1 e2 => name_of_addr IC.apart (mem_of_lookup e1) (mem_of_lookup e2), outf _ (.inl rfl), basef _ (.inl rfl), _, hnsL, fun i n hi e => ?_⟩
    · have hi' := List.mem_range.mp hi
      have hj' := List.mem_range.mp hj
      have f1 : (nm.take v)[i]? = some n := by rw [List.getElem?_take_of_lt hi']; exact e1
      have f2 : (nm.take v)[j]? = some n := by rw [List.getElem?_take_of_lt hj']; exact e2
      exact (List.getElem?_inj (by rw [List.length_take, Nat.min_eq_left K.vn]; exact hi') K.nd).mp (f1.trans f2.symm)
    · have hn := visn i n hi e
      have atP : ∀ i', i' < fn.np → nm[i']? = some n → (nm.take fn.np)[i']? = some n := fun i' lt e' => by rw [List.getElem?_take_of_lt lt]; exact e'
      rcases kindOk n hn with q | ⟨q, c, hc⟩
      · refine .inl ⟨by rw [kof]; exact q, fun w ew => ?_⟩
        obtain ⟨x, lt, hx, rx⟩ := slot0 i w ew
        refine ⟨x, ?_, rx⟩
        rw [(bindL_get (kindOf := env.kindOf) (m := fun q_ => none) ndp (by rw [hlen, ntake]) (by rw [kof]; exact q)).1 i (atP i lt e)]
        exact hx
      · have hc' : env.cells.lookup n = some c := by rw [hcl]; exact hc
        refine .inr ⟨.inl (by rw [kof]; exact q), c, _, hc', IC.cell n c hc', outf c (.inr ⟨n, hc'⟩), ?_, basef c (.inr ⟨n, hc'⟩), fun w ew => ?_⟩
        · exact Nat.ne_of_gt (IC.above n c (mem_of_lookup hc'))
        · obtain ⟨x, lt, hx, rx⟩ := slot0 i w ew
          refine ⟨x, ?_, rx⟩
          rw [(bindC_get (kindOf := env.kindOf) (m := fun q_ => none) ndp (by rw [hlen, ntake]) (by rw [kof, q]; decide)).1 i (atP i lt e)]
          exact hx
  obtain ⟨outer, fr1, fr2⟩ := ok.stack
  have frOwn : ∀ {ρ' : Rho} {h' : Heap} {σ' : Lo}, Fm G ⟨fd.scope, nm, List.range v⟩ env σ' ρ' h' → FrameOk G env ρ' h' := fun F' => by
    obtain ⟨m, ⟨o', es', ep', e1, e2, _⟩, _⟩ := F'.slots
    exact ⟨by rw [hsc, K.kind]; decide, _, o', es', ep', hfr, F'.low, e1, e2, F'.own⟩
  have hframes : (A.deeper env).frames = some (env :: outer) := Around.frames_deeper fr1
  have N1 : NowS G d ⟨fd.scope, nm, List.range v⟩ (A.deeper env) env (args.map some ++ List.replicate (fn.ns - fn.np) none) ρ H { s with heap := h₁, toks := tk₁ } := by
    refine ⟨⟨S1, F1, ⟨ok.hand, ?_, ?_, env :: outer, hframes, fun e he => ?_⟩⟩, fun fr hfr' e he L hL => ?_, fun b f => ?_, outf⟩
    · show A.depth + 1 + (5 * d + 4) ≤ 900
      have := ok.dep
      omega
    · show A.units + 3 + (20 * d + 17) ≤ 9000
      have := ok.uni
      omega
    · rcases List.mem_cons.mp he with rfl | he
      · exact frOwn F1
      · exact (fr2 e he).step T1 fun q_ q_ => id
    · rw [hframes] at hfr'; cases hfr'
      rcases List.mem_cons.mp he with rfl | he
      · rw [hfr] at hL; cases hL; exact .inl rfl
      · refine .inr fun f => ?_
        obtain ⟨_, L', o', es, n, a1, a2, a3, _⟩ := fr2 e he
        rw [a1] at hL; cases hL
        rw [nonef L f] at a3; cases a3
    · rcases f with rfl | ⟨n, hn⟩
      · exact ns_there hnsL
      · exact cell_there (IC.cell n b hn)
  exact q env outer h₁ tk₁ hsc hfr fr1 hframes nonef T1 N1

/-- a def is called -/
theorem call_core (B : Amb G fa init gl d cf) (HR : ∀ (x : X) (M : Mx) (st : PySem.Stmt), mS M true (.raise_ x) st = true → SoundS G d ⟨cf, gl, init⟩ XE M (.raise_ x) st)
    {a : Addr} {fn : Fn} {nm : List Str} {v : Nat} {rz : Bool} {o : Obj} {fd : FuncData} {body : List Stmt} (K : FnOk G a fn nm v rz o fd body) {args : List V} {xs : List Value} {cr : CR} {H' : Hp} {R : Result → Shared → Prop}
    (hl : args.length = fn.np) (hv : endOf (evB ⟨cf, gl, init⟩ fn.body (args.map some ++ List.replicate (fn.ns - fn.np) none) H) = some (cr, H'))
    (S : Sta G ρ H s.heap) (ok : Ok G (5 * (d + 1)) (20 * (d + 1)) A ρ s.heap) (ra : RepL s.heap ρ args xs)
    (q : ∀ ρ' h' tk, Sta G ρ' H' h' → Step NoF ρ H s.heap ρ' H' h' → match cr with
      | .ret w => ∀ x, RepV h' ρ' w x → R (.ok (.ret x)) { s with heap := h', toks := tk }
      | .exc w => ∀ env outer e, env.scope = fd.scope → env.frame = some env.locals → A.frames = some outer → (∀ e', e' ∈ env :: outer → FrameOk G e' ρ' h') → (∀ b, e = .ref b → s.heap.get? b = none) → XE w e { s with heap := h', toks := tk } →
        wpAny (model G.prog G.w) (A.deeper env) (leaving env e) (fun q_ s'' => R (.error e) s'') (fun e' s'' => R (.error e') s'') { s with heap := h', toks := tk }) :
    codeAny (model G.prog G.w) A (.call (.ref a) ⟨xs, []⟩) R s := by
  refine enter_fn B K.toFnSh hl S ok ra fun env outer h₁ tk₁ hsc hfr fr1 hframes nonef T1 N1 => ?_
  refine byC fun nG => ?_
  cases hb : evB ⟨cf, gl, init⟩ fn.body (args.map some ++ List.replicate (fn.ns - fn.np) none) H with
  | none => rw [hb] at hv; cases hv
  | some rb =>
    rw [hb] at hv
    refine nG ?_
    refine sndB B rz (fun q_ => HR) fn.body _ _ K.mat hb N1 fun ρ2 h2 tk2 S2 T2 F2 => ?_
    have T02 : ∀ {H2 : Hp}, Step (FA env) ρ H h₁ ρ2 H2 h2 → Step NoF ρ H s.heap ρ2 H2 h2 := fun T => (T1.ofNo.trans T).narrow fun b f => .inr (nonef b f)
    refine byC fun nG => ?_
    obtain ⟨fl, σ2, H2⟩ := rb
    cases fl with
    | next => cases hv; refine nG ?_; exact q ρ2 h2 tk2 S2 (T02 T2) _ rfl
    | cont => cases hv
    | ret w => cases hv; refine nG ?_; exact fun x rx => q ρ2 h2 tk2 S2 (T02 T2) x rx
    | exc w =>
      cases hv
      refine nG ?_
      intro e hfe he
      refine q ρ2 h2 tk2 S2 (T02 T2) env outer e hsc hfr fr1 (fun e' he' => ?_) (fun b hb => T1.none (hfe b hb)) he
      have N2 := N1.next S2 T2 F2 tk2
      refine byC fun nG => ?_
      obtain ⟨fr, g1, g2⟩ := N2.now.ok.stack
      rw [hframes] at g1; cases g1
      refine nG ?_
      exact g2 e' he'
end
end Mine
end
/-! Exc1 -/
section
set_option Elab.async false
set_option genSizeOf false
set_option linter.all false
set_option maxRecDepth 100000
open PySem PySem.W PyProof.Rows
namespace Mine

/-! an exception in flight: what stands of it -/
/-- all of B stands; the frames stand; the exception has a traceback's entry whose flight is fl -/
structure Fly (B : Heap) (l : List Env) (e : Addr) (oe : Obj) (fl : Value) (h : Heap) : Prop where
  stay : B.StaysIn h
  new : B.get? e = none
  frames : h.FunFrames B l
  trc : ∃ vs T oT ts, h.get? e = some { oe with data := .fields vs } ∧ vs[1]? = some (.ref T) ∧ B.get? T = none ∧ T ≠ e ∧ h.get? T = some oT ∧ oT.data = .fields ts ∧ ts[3]? = some fl

section
variable {M : Model} {A : Around} {E : Value → Shared → Prop} {s : Shared}

theorem mapF_eq (oe : Obj) (vs : Array Value) (f : Array Value → Array Value) : Obj.mapFields f { oe with data := .fields vs } = { oe with data := .fields (f vs) } := rfl

/-- an entry is laid and the exception's second field set -/
theorem entry_laid {B : Heap} {env : Env} {outer : List Env} {L e : Addr} {oe : Obj} {vs : Array Value} {head : Value} {had : Bool} {Q : Unit → Shared → Prop}
    (hfr : A.frames = some (env :: outer)) (hl : s.heap.FunFrames B (env :: outer)) (hf : env.frame = some L) (he : s.heap.get? e = some { oe with data := .fields vs }) (hkb : B.StaysIn s.heap) (hen : B.get? e = none) (hsz : 1 < vs.size)
    (h : ∀ h', Fly B (env :: outer) e oe (rawInt L) h' → s.heap.UpToSlots h' → Q () { s with heap := h' }) :
    wpAny M A (do let a ← frameOf env; let pl ← entryPlaceOf L had; let b ← EntryCells.newEntry head a .none (rawInt L) .none pl; setField (.ref e) 1 b) Q E s := by
  have hene : e ∉ (env :: outer).filterMap (·.frame) := fun hm => by
    refine byC fun nG => ?_
    obtain ⟨_, o, ho, hnf⟩ := hl.mem hm
    rw [he] at ho; cases ho; refine nG ?_; exact hnf vs rfl
  refine wpAny_bind (wpAny_frameOf_fun hfr hl hf fun h₁ hs₁ => wpAny_bind (wpAny_entryPlaceOf fun pl hpl => ?_))
  unfold EntryCells.newEntry newFields
  refine wpAny_bind (wpAny_newObj_type ?_ (hpl.sizeOk5 _ _ _ _ _))
  generalize hob : ({ cls := .type "traceback", dict := none, data := .fields ([head, .ref L, .none, rawInt L, .none] ++ (if pl.isEmpty then List.replicate 6 Value.none else pl)).toArray } : Obj) = ob
  have hobd : ∃ ts, ob.data = .fields ts ∧ ts[3]? = some (rawInt L) := by
    subst hob
    exact ⟨_, rfl, by first | (simp; done) | (rcases hpl with rfl | ⟨_, _, _, _, _, _, _, rfl⟩ <;> simp)⟩
  have hobf : ob.isFreed = false := by subst hob; rfl
  have he₁ : h₁.get? e = some { oe with data := .fields vs } := (hs₁.2.1 e hene).trans he
  have he₂ := Heap.get?_push_of_some (h := h₁) ob he₁
  have kb₁ : B.StaysIn h₁ := fun b o hbo => (hs₁.2.1 b fun hm => by rw [(hl.mem hm).1] at hbo; cases hbo).trans (hkb b o hbo)
  have hTe : h₁.objs.size ≠ e := Nat.ne_of_gt (Heap.lt_size he₁)
  refine wpAny_setField he₂ rfl hsz (h _ ?_ ?_)
  all_goals
    have keep : ∀ b o, b ≠ e → h₁.get? b = some o → ((h₁.push ob).update e (Obj.mapFields (·.setIfInBounds 1 (Value.ref h₁.objs.size)))).get? b = some o := fun b o hbe hb => by
      rw [Heap.get?_update_other _ _ (Ne.symm hbe)]
      exact Heap.get?_push_of_some _ hb
    have noRec : ∀ b o, s.heap.get? b = some o → (∀ vs, o.data ≠ .fields vs) → b ≠ e := fun b o hb hnf q => by
      rw [q, he] at hb; cases hb; exact hnf vs rfl
  · refine byC fun nG => ?_
    obtain ⟨ts, d1, d2⟩ := hobd
    refine nG ?_
    refine ⟨fun b o hbo => keep b o (fun q => by rw [q, hen] at hbo; cases hbo) (kb₁ b o hbo), hen, hl.of_keeps fun b o hb hnf => ?_, ?_⟩
    · obtain ⟨sl, hs⟩ := hs₁.2.2 b o hb
      exact ⟨_, keep b _ (noRec b o hb hnf) hs, rfl⟩
    · refine ⟨vs.setIfInBounds 1 (.ref h₁.objs.size), h₁.objs.size, ob, ts, ?_, by simp [hsz], kb₁.fresh, hTe, ?_, d1, d2⟩
      · rw [Heap.get?_update_self _ he₂ rfl, mapF_eq]
      · rw [Heap.get?_update_other _ _ (Ne.symm hTe)]
        exact Heap.get?_push_size _ hobf
  · intro b o hb hnf
    obtain ⟨sl, hs⟩ := hs₁.2.2 b o hb
    exact ⟨sl, keep b _ (noRec b o hb hnf) hs⟩

theorem note_first {B : Heap} {env : Env} {outer : List Env} {L e : Addr} {oe : Obj} {vs : Array Value} {Q : Unit → Shared → Prop}
    (hfr : A.frames = some (env :: outer)) (hl : s.heap.FunFrames B (env :: outer)) (hf : env.frame = some L) (he : s.heap.get? e = some { oe with data := .fields vs }) (hkb : B.StaysIn s.heap) (hen : B.get? e = none) (h1 : vs[1]? = some .none)
    (h : ∀ h', Fly B (env :: outer) e oe (rawInt L) h' → s.heap.UpToSlots h' → Q () { s with heap := h' }) : wpAny M A (noteFrame (.ref e) env) Q E s := by
  unfold noteFrame
  simp only [hf]
  refine wpAny_bind (wpAny_field he rfl h1 ?_)
  rw [if_neg (by decide)]
  exact entry_laid hfr hl hf he hkb hen (Array.getElem?_eq_some_iff.mp h1).1 h

theorem note_next {B : Heap} {env : Env} {outer : List Env} {L e : Addr} {oe : Obj} {Q : Unit → Shared → Prop}
    (hfr : A.frames = some (env :: outer)) (hf : env.frame = some L) (F : Fly B (env :: outer) e oe .none s.heap)
    (h : ∀ h', Fly B (env :: outer) e oe (rawInt L) h' → s.heap.UpToSlots h' → Q () { s with heap := h' }) : wpAny M A (noteFrame (.ref e) env) Q E s := by
  refine byC fun nG => ?_
  obtain ⟨hkb, hen, hl, vs, T, oT, ts, he, h1, hnT, hTe, hT, hdT, h3⟩ := F
  refine nG ?_
  unfold noteFrame
  simp only [hf]
  refine wpAny_bind (wpAny_field he rfl h1 ?_)
  rw [if_pos (show (Value.ref T != Value.none) = true from by simp)]
  refine wpAny_bind (wpAny_field hT hdT h3 ?_)
  rw [if_neg (show ¬ ((Value.none == rawInt L) = true) from by simp [rawInt])]
  refine wpAny_bind (wpAny_setField hT hdT (Array.getElem?_eq_some_iff.mp h3).1 ?_)
  have other : ∀ b, b ≠ T → (s.heap.update T (Obj.mapFields (·.setIfInBounds 3 Value.none))).get? b = s.heap.get? b := fun b hb => Heap.get?_update_other _ _ (Ne.symm hb)
  have noRec : ∀ b o, s.heap.get? b = some o → (∀ vs, o.data ≠ .fields vs) → b ≠ T := fun b o hb hnf q => by
    rw [q, hT] at hb; cases hb; exact hnf ts hdT
  refine entry_laid (s := { s with heap := s.heap.update T (Obj.mapFields (·.setIfInBounds 3 Value.none)) }) hfr (hl.of_keeps fun b o hb hnf => ⟨o, (other b (noRec b o hb hnf)).trans hb, rfl⟩) hf ((other e (Ne.symm hTe)).trans he)
    (fun b o hbo => (other b fun q => by rw [q, hnT] at hbo; cases hbo).trans (hkb b o hbo)) hen (Array.getElem?_eq_some_iff.mp h1).1 fun h' F' u => h h' F' fun b o hb hnf => u b o ((other b (noRec b o hb hnf)).trans hb) hnf

theorem flight_none {B : Heap} {l : List Env} {e : Addr} {oe : Obj} {fl : Value} {Q : Unit → Shared → Prop} (F : Fly B l e oe fl s.heap)
    (h : ∀ h', Fly B l e oe .none h' → s.heap.UpToSlots h' → Q () { s with heap := h' }) : wpAny M A (setFlight (.ref e) none) Q E s := by
  refine byC fun nG => ?_
  obtain ⟨hkb, hen, hl, vs, T, oT, ts, he, h1, hnT, hTe, hT, hdT, h3⟩ := F
  have hsz3 : 3 < ts.size := (Array.getElem?_eq_some_iff.mp h3).1
  have other : ∀ b, b ≠ T → (s.heap.update T (Obj.mapFields (·.setIfInBounds 3 ((none : Option Addr).elim Value.none fun f => rawInt f)))).get? b = s.heap.get? b :=
    fun b hb => Heap.get?_update_other _ _ (Ne.symm hb)
  have noRec : ∀ b o, s.heap.get? b = some o → (∀ vs, o.data ≠ .fields vs) → b ≠ T := fun b o hb hnf q => by
    rw [q, hT] at hb; cases hb; exact hnf ts hdT
  refine nG ?_
  unfold setFlight
  refine wpAny_bind (wpAny_field he rfl h1 ?_)
  rw [if_pos (show (Value.ref T != Value.none) = true from by simp)]
  refine wpAny_setField hT hdT hsz3 (h _ ⟨fun b o hbo => (other b fun q => by rw [q, hnT] at hbo; cases hbo).trans (hkb b o hbo), hen, hl.of_keeps fun b o hb hnf => ⟨o, (other b (noRec b o hb hnf)).trans hb, rfl⟩, ?_⟩ fun b o hb hnf => ⟨o.slots, (other b (noRec b o hb hnf)).trans hb⟩)
  exact ⟨vs, T, _, _, (other e (Ne.symm hTe)).trans he, h1, hnT, hTe, Heap.get?_update_self _ hT (Obj.isFreed_of_fields (Obj.data_mapFields hdT _)), Obj.data_mapFields hdT _, by simp [hsz3]⟩
end
end Mine
end
/-! Exc2 -/
section
set_option Elab.async false
set_option genSizeOf false
set_option linter.all false
set_option maxRecDepth 100000
open PySem PySem.W PyProof.Rows
namespace Mine

section
variable {prog : Program} {w : World} {A : Around} {E : Value → Shared → Prop} {h : Heap} {g : Array GenState} {d : Drawn} {t : Nat} {os : OsState}
variable {nm q : Str} {C N : Addr} {bs bm bmB : List Value} {hdct : Bool} {sn : List Str} {sub : List Value} {ab : Bool} {col : Option Bool} {dd : Option Addr} {k0 k1 k2 k3 k5 : Option Value} {B newId initId : String}

theorem exc_check (F : ExcBaseFacts B newId initId bmB) (hB : bm.contains (.type B) = true) {M : Model} {rest : List Value} {Q : Unit → Shared → Prop} (hC : h.get? C = some (excClassObj nm q C N bs bm hdct sn sub ab col dd k0 k1 k2 k3 k5 newId))
    (hq : Q () ⟨h, g, d, t, os⟩) : wpAny M A (checkBuiltinCall newId ⟨.ref C :: rest, []⟩) Q E ⟨h, g, d, t, os⟩ := by
  have hc : (Value.ref C :: bm).contains (.type B) = true := by rw [List.contains_cons, hB, Bool.or_true]
  have hstar := F.noStar
  simp only [checkBuiltinCall, F.newKind, F.newSplit, F.newRow]
  repeat (first | refine wpAny_loadPart_at hC ?_ | (refine wpAny_isSubtype_exc hC ?_; rw [hc]) | refine wpAny_staticBase_exc hC ?_ | refine wpAny_madeBy_exc hC ?_ | simp only [bne_self_eq_false, Bool.false_eq_true, if_false] | wp_step)
  exact hq

theorem exc_born (F : ExcBaseFacts B newId initId bmB) (hB : bm.contains (.type B) = true) (hA : bm.contains (.type "AttributeError") = false) (hN : bm.contains (.type "NameError") = false) {rest : List Value} {R : Result → Shared → Prop}
    (hC : h.get? C = some (excClassObj nm q C N bs bm hdct sn sub ab col dd k0 k1 k2 k3 k5 newId))
    (hq : R (.ok (.ret (.ref (h.objs.size + 1)))) ⟨(h.push { cls := .type "tuple", data := .seq rest.toArray }).push
      { cls := .ref C, data := .fields #[.ref h.objs.size, .none, .none, .none, .bool false, .none] }, g, d, t, os⟩) (hrest : rest.length ≤ sizeLine) :
    codeAny (model prog w) A (.builtin newId ⟨.ref C :: rest, []⟩) R ⟨h, g, d, t, os⟩ := by
  have hends := F.ends
  have h1 : (Value.ref C :: bm).contains (.type B) = true := by rw [List.contains_cons, hB, Bool.or_true]
  have h2 : (Value.ref C :: bm).contains (.type "AttributeError") = false := by rw [List.contains_cons, hA]; rfl
  have h3 : (Value.ref C :: bm).contains (.type "NameError") = false := by rw [List.contains_cons, hN]; rfl
  refine codeAny_builtinAt F.entry ?_
  unfold Builtin.«BaseException.__new__»
  refine PySem.wpAt_bind ?_
  show PySem.wpAt _ _ _ (stack >>= _) _ _ _
  refine PySem.wpAt_bind (PySem.wpAt_stack fun p below => PySem.wpAt_of_wpAny ?_)
  wp_walk
  refine PySem.wpAt_of_wpAny ?_
  rw [F.owner]
  repeat (first | with_reducible refine wpAny_madeHere_exc F.canon hC ?_ | with_reducible refine wpAny_loadPart_at hC ?_ | (with_reducible refine wpAny_isSubtype_exc hC ?_; first | rw [h1] | rw [h2] | rw [h3]) | wp_step)
  show R _ _
  rw [Heap.size_push]
  exact hq

/-- an exception of a class with an __init__ of its own: the call comes down to the __init__ -/
theorem exc_call (F : ExcBaseFacts B newId initId bmB) (hB : bm.contains (.type B) = true) (hA : bm.contains (.type "AttributeError") = false) (hN : bm.contains (.type "NameError") = false) {K : Frag} {rest : List Value} {fI : Addr} {Q : Value → Shared → Prop}
    (X : K.In h) (hC : h.get? C = some (excClassObj nm q C N bs bm hdct sn sub ab col dd k0 k1 k2 k3 k5 newId)) (hi : findIn K (.ref C) "__init__" = some (some (.ref fI))) (ht : typeIn K (.ref fI) = some (.type "function")) (hrest : rest.length ≤ sizeLine)
    (hq : codeAny (model prog w) (A.under (.builtin "type.__call__" ⟨.ref C :: rest, []⟩)) (.call (.ref fI) ⟨.ref (h.objs.size + 1) :: rest, []⟩)
      (fun r s' => match r with | .ok (.ret v) => v = .none ∧ Q (.ref (h.objs.size + 1)) s' | .ok _ => False | .error e => E e s')
      ⟨(h.push { cls := .type "tuple", data := .seq rest.toArray }).push { cls := .ref C, data := .fields #[.ref h.objs.size, .none, .none, .none, .bool false, .none] }, g, d, t, os⟩) :
    wpAny (model prog w) A (call (.ref C) rest) Q E ⟨h, g, d, t, os⟩ := by
  have f1 := tc_lookup
  have f2 := tc_bind (.ref C)
  have hT : (⟨h, g, d, t, os⟩ : Shared).TypeIs (.ref C) "type" := ⟨_, hC, rfl⟩
  refine wpAny_call (codeAny_of_tree ?_)
  show wpAny _ _ (callAny (.ref C) _) _ _ _
  repeat (any_goals (first | assumption | with_reducible refine wpAny_loadPart_at hC ?_ | wp_step))
  refine ⟨rfl, ?_⟩
  refine codeAny_call_builtin_at (Code.quiet_builtin _ (by decide +kernel)) entry_typeCall (wpAny_check_type_call_sub hC ?_)
  repeat (first | with_reducible refine wpAny_loadPart_at hC ?_ | with_reducible refine wpAny_madeBy_exc hC ?_ | wp_step)
  refine codeAny_call_builtin_code (Code.quiet_builtin _ F.quiet) (exc_check F hB hC ?_)
  refine exc_born F hB hA hN hC ?_ hrest
  show wpAny _ _ _ _ _ _
  have k : ∀ b o, h.get? b = some o → ((h.push { cls := .type "tuple", data := .seq rest.toArray }).push { cls := .ref C, data := .fields #[.ref h.objs.size, .none, .none, .none, .bool false, .none] }).get? b = some o := fun b o e => push_keep _ _ _ _ (push_keep _ _ _ _ e)
  have hget : ((h.push { cls := .type "tuple", data := .seq rest.toArray }).push
      { cls := .ref C, data := .fields #[.ref h.objs.size, .none, .none, .none, .bool false, .none] }).get? (h.objs.size + 1) = some
      { cls := .ref C, data := .fields #[.ref h.objs.size, .none, .none, .none, .bool false, .none] } := by heap_get
  have hC₁ := k _ _ hC
  have X₁ := X.keeps k
  have hcC : (Value.ref C :: bm).contains (.ref C) = true := by simp
  unfold isInstance
  repeat (first | with_reducible refine wpAny_loadPart_at hget ?_ | wp_step)
  refine wpAny_isSubtype_exc hC₁ ?_
  rw [hcC]
  repeat (first | with_reducible refine wpAny_loadPart_at hget ?_ | wp_step)
  show wpAny _ _ (typeLookup (.ref C) _) _ _ _
  refine (looks_findIn X₁ hi).here ?_
  refine wpAny_holding (wpAny_bind ((bind_fn X₁ (.ref (h.objs.size + 1)) ht).here (wpAny_bind ?_)))
  refine wpAny_call (codeAny_mono hq fun r s' hr => ?_)
  refine byC fun nG => ?_
  cases r with
  | error e => refine nG ?_; exact hr
  | ok f =>
    cases f with
    | ret v =>
      obtain ⟨rfl, hQ⟩ := hr
      refine nG ?_
      wp_walk
      exact hQ
    | _ => exact hr.elim
end
end Mine
end
/-! Exc3 -/
section
set_option Elab.async false
set_option genSizeOf false
set_option linter.all false
set_option maxRecDepth 100000
open PySem PySem.W PyProof.Rows
namespace Mine

section
variable {prog : Program} {w : World} {A : Around} {E : Value → Shared → Prop} {s : Shared} {K : Frag} {C x : Addr} {ox : Obj} {cd : ClassData} {name : Str} {v : Value}

/-- storing on an object whose class has an exception's classes behind it -/
theorem exc_open {od : Option Obj} {tk : Tok} {R : Result → Shared → Prop} (X : K.In s.heap) (I : PySem.W.InstAt s.heap x ox C od) (hc : clsIn K C = some cd) (ne : cd.mro.isEmpty = false) (ho : cd.mro.contains (.type "object") = true)
    (hr : refuseLoop (.ref x) "__setattr__" cd.mro = pure ()) (ht : findIn K (.ref C) name = some none)
    (h : ∀ b, wpAny (model prog w) A.in1 (Builtin.ObjectAttr.storeInOwnDict (.ref x) (.ref C) (.str name tk) name v b)
      (fun fin s' => match fin with | .done f => R (.ok f) s' | .again c' => c'.quiet = true ∧ codeAny (model prog w) A c' R s') (fun e s' => R (.error e) s') s) :
    codeAny (model prog w) A (.call (.builtin "object.__setattr__") ⟨[.ref x, .str name tk, v], []⟩) R s := by
  have SF := PySem.F.store_object
  have sub : Looks (model prog w) s.heap (isInstance (.ref x) (.type "object")) true := I.type.andThen (looks_mroIn X (by unfold mroIn; rw [hc, Option.bind_some, if_neg (by rw [ne]; decide), ho]))
  refine codeAny_call_builtin SF.slot.plain SF.entry (@check_slot (model prog w) _ _ s "object.__setattr__" "object" "__setattr__" (.ref x) [.str name tk, v] [] _ SF.kind SF.split sub (SF.args (.ref x) (.str name tk) v) ?_)
  have hm : Looks (model prog w) s.heap (mroOf (.ref C)) cd.mro := (looks_clsIn X hc).andThen .now
  rw [osa_eq, refuse_eq]
  refine wpAny_bind (wpAny_bind (I.type.here (wpAny_bind (hm.here ?_))))
  rw [hr]
  refine wpAny_pure (wpAny_bind (I.type.here (wpAny_bind ((looks_findIn X ht).here (wpAny_bind (wpAny_pure ?_))))))
  exact h _

theorem exc_store {mA : Str → Option Value} {ns : List Str} {Q : Unit → Shared → Prop} (X : K.In s.heap) (hs : findIn K (.ref C) "__setattr__" = some (some (.builtin "object.__setattr__")))
    (hc : clsIn K C = some cd) (ne : cd.mro.isEmpty = false) (ho : cd.mro.contains (.type "object") = true) (hr : refuseLoop (.ref x) "__setattr__" cd.mro = pure ()) (hd : cd.hasDict = true) (ht : findIn K (.ref C) name = some none)
    (hx : s.heap.get? x = some ox) (hcl : ox.cls = .ref C) (hn : notCls ox = true) (hnc : ∀ c, ox.data ≠ .cls c) (hf : ∀ d, ({ ox with dict := d } : Obj).isFreed = false)
    (hdd : (ox.dict = none ∧ ∀ n, mA n = none) ∨ ∃ dx o, ox.dict = some dx ∧ dx ≠ x ∧ s.heap.get? dx = some o ∧ s.heap.Ns1 dx mA) (hw : Within mA ns) (hsz : ns.length ≤ 1000)
    (q : ∀ h' tk dx, dx ≠ x → (s.heap.get? dx = none ∨ ox.dict = some dx) → (∀ b o, b ≠ x → b ≠ dx → s.heap.get? b = some o → h'.get? b = some o) → h'.get? x = some { ox with dict := some dx } → h'.Ns1 dx (fun y => if y = name then some v else mA y) →
      Q () { s with heap := h', toks := tk }) : wpAny (model prog w) A (setAttr (.ref x) name v) Q E s := by
  refine byC fun nG => ?_
  rcases hdd with ⟨d0, m0⟩ | ⟨dx, od, d0, dne, dget, dns⟩
  · have I : PySem.W.InstAt s.heap x ox C none := ⟨hx, hcl, hn, by rw [d0]; trivial⟩
    refine nG ?_
    refine set_plain X I hs (exc_open (s := { s with toks := s.toks + 1 }) X I hc ne ho hr ht fun b => ?_)
    unfold Builtin.ObjectAttr.storeInOwnDict
    refine wpAny_bind (wpAny_pure (wpAny_bind ?_))
    show wpAny _ _ (instanceDict x true) _ _ _
    unfold instanceDict
    refine wpAny_bind (wpAny_loadPart hx ?_)
    rw [hcl]
    refine wpAny_bind (Looks.here (s := { s with toks := s.toks + 1 }) (looks_clsIn X hc) ?_)
    rw [hd, d0]
    simp only [Bool.not_true, Bool.false_eq_true, if_false, Bool.false_or]
    rw [if_neg (by simp [typeHasDict])]
    have hxs : x ≠ s.heap.objs.size := Nat.ne_of_lt (Heap.lt_size hx)
    have hx₁ : (s.heap.push { cls := .type "dict", data := .dict #[] }).get? x = some ox := Heap.get?_push_of_some _ hx
    have fin : wpAny (model prog w) A.in1 (do
        let d ← alloc { cls := .type "dict", data := .dict #[] }
        update x fun o => { o with dict := some d }
        dictMade (.ref C) x d) (fun a s' => wpAny (model prog w) A.in1 (match a with
          | some d => Builtin.ObjectAttr.storeInDict d (.str name s.toks) name v
          | none => Builtin.ObjectAttr.noDictFor (.ref x) (.ref C) name b) (fun fin s' => match fin with
            | .done f => (match (Except.ok f : Result) with | .ok (.ret _) => Q () s' | .ok _ => False | .error e => E e s')
            | .again c' => c'.quiet = true ∧ codeAny (model prog w) A c' (fun r s' => match r with | .ok (.ret _) => Q () s' | .ok _ => False | .error e => E e s') s') (fun e s' => E e s') s') (fun e s' => E e s') { s with toks := s.toks + 1 } := by
      refine wpAny_bind (wpAny_alloc (wpAny_bind (wpAny_update hx₁ ?_)))
      refine wpAny_pure ?_
      have hgx : ((s.heap.push { cls := .type "dict", data := .dict #[] }).update x fun o => { o with dict := some s.heap.objs.size }).get? x = some { ox with dict := some s.heap.objs.size } := Heap.get?_update_self _ hx₁ (hf _)
      have hgd : ((s.heap.push { cls := .type "dict", data := .dict #[] }).update x fun o => { o with dict := some s.heap.objs.size }).get? s.heap.objs.size = some { cls := .type "dict", data := .dict #[] } :=
        (Heap.get?_update_other _ _ hxs).trans (Heap.get?_push_size _ rfl)
      have hnd : ((s.heap.push { cls := .type "dict", data := .dict #[] }).update x fun o => { o with dict := some s.heap.objs.size }).Ns s.heap.objs.size (fun q_ => none) :=
        ⟨_, #[], _, hgd, rfl, fun e he => absurd he (by simp), fun q_ => rfl⟩
      show wpAny _ _ (Builtin.ObjectAttr.storeInDict s.heap.objs.size (.str name s.toks) name v) _ _ _
      unfold Builtin.ObjectAttr.storeInDict Builtin.ObjectAttr.newKeyGuard
      refine wpAny_bind (wpAny_pure (wpAny_bind (wpAny_nsSet1 (Heap.Ns1.of_empty hnd) fun h' hn' hs' => ?_)))
      obtain ⟨oD, esD, epD, hoD, hdD, hcD⟩ := hn'.count (Within.cons name v Within.nil)
      refine wpAny_bind (wpAny_lookBehind hoD (by rw [hdD]; exact pastItsLine_dict (Nat.le_trans hcD (by rw [List.length_cons, List.length_nil, sizeLine_eq]; omega))) ?_)
      refine wpAny_pure ?_
      refine q h' _ s.heap.objs.size (Ne.symm hxs) (.inl (top_none _)) (fun b o hb hb2 e => ?_) ((hs'.2 x hxs).trans hgx) ?_
      · exact (hs'.2 b hb2).trans ((Heap.get?_update_other _ _ (Ne.symm hb)).trans (Heap.get?_push_of_some _ e))
      · have : (fun y => if y = name then some v else mA y) = fun y => if y = name then some v else none := by funext y; rw [m0]
        rw [this]; exact hn'
    cases ex : ox.data with
    | cls c => exact absurd ex (hnc c)
    | _ => exact fin
  · have I : PySem.W.InstAt s.heap x ox C (some od) := ⟨hx, hcl, hn, by rw [d0]; exact dget⟩
    refine nG ?_
    refine set_plain X I hs (exc_open (s := { s with toks := s.toks + 1 }) X I hc ne ho hr ht fun b => ?_)
    unfold Builtin.ObjectAttr.storeInOwnDict
    refine wpAny_bind (wpAny_pure (wpAny_bind ?_))
    show wpAny _ _ (instanceDict x true) _ _ _
    unfold instanceDict
    refine wpAny_bind (wpAny_loadPart hx ?_)
    rw [hcl]
    refine wpAny_bind (Looks.here (s := { s with toks := s.toks + 1 }) (looks_clsIn X hc) ?_)
    rw [hd, d0]
    simp only [Bool.not_true, Bool.false_eq_true, if_false]
    refine wpAny_pure ?_
    show wpAny _ _ (Builtin.ObjectAttr.storeInDict dx (.str name s.toks) name v) _ _ _
    unfold Builtin.ObjectAttr.storeInDict Builtin.ObjectAttr.newKeyGuard
    refine wpAny_bind (wpAny_pure (wpAny_bind (wpAny_nsSet1 dns fun h' hn' hs' => ?_)))
    refine byC fun nG => ?_
    obtain ⟨oD, esD, epD, hoD, hdD, hcD⟩ := hn'.count (Within.cons name v hw)
    refine nG ?_
    refine wpAny_bind (wpAny_lookBehind hoD (by rw [hdD]; exact pastItsLine_dict (Nat.le_trans hcD (by rw [List.length_cons, sizeLine_eq]; omega))) ?_)
    refine wpAny_pure ?_
    refine q h' _ dx dne (.inr d0) (fun b o hb hb2 e => (hs'.2 b hb2).trans e) ?_ hn'
    rw [hs'.2 x (Ne.symm dne), hx, ← d0]
end
end Mine
end
/-! Exc4 -/
section
set_option Elab.async false
set_option genSizeOf false
set_option linter.all false
set_option maxRecDepth 100000
open PySem PySem.W PyProof.Rows
namespace Mine

section
variable {prog : Program} {w : World} {A : Around} {E : Value → Shared → Prop} {s : Shared} {K : Frag} {name : Str} {env : Env}

/-- a method's call, whatever getMethod gives -/
theorem call_attr {o : PySem.Expr} {apos pos : Pos} {args : List PySem.Expr} {Q : Value → Shared → Prop} (hn : noCall o = true) (hline : (apos.endLine == pos.line) = true)
    (hfew : ((backTo pos (starEach args env)).all (fun x => !x.1) && (backToKw pos (keywordEach [] env)).all (fun x => x.1.isSome)
      && decide (args.length + ([] : List Keyword).length + (if ([] : List Keyword).isEmpty then 0 else 1) < 30)) = true)
    (h : wpAny (model prog w) A (eval o env) (fun ov s₁ => ∀ pl, wpAny (model prog w) A (getMethod ov name pl) (fun fx s₂ => wpAny (model prog w) A (callWith pos fx.1 fx.2 (backTo pos (starEach args env)) []) Q E s₂) E s₁) E s) :
    wpAny (model prog w) A (eval (.Call (.Attribute o name apos) args [] pos) env) Q E s := by
  rw [arm_eval_Call, base_eq hn]
  refine wpAny_bind (wpAny_mono h (fun ov s₁ h₁ => wpAny_bind (wpAny_standAt ?_)) fun q_ q_ e => e)
  have hform : methodCallForm (args.length + ([] : List Keyword).length) (backTo pos (starEach args env)) (backToKw pos (keywordEach [] env)) = true := hfew
  have hpos : methodCallPos true o env apos pos = pure pos := by unfold methodCallPos; simp [hline]
  unfold methodCall
  rw [hform]
  refine wpAny_bind (wpAny_holding (wpAny_mono (h₁ _) (fun fx s₂ h₂ => ?_) fun q_ q_ e => e))
  exact wpAny_bind (wpAny_of_eq hpos h₂)

/-- what a built-in class hands out -/
theorem method_builtin {T : String} {v : Value} {pl : Sem Bool} {Q : Value × List Value → Shared → Prop} (X : K.In s.heap) (ht : typeOf (.type T) = pure (.type "type")) (hs : Manifest.isStub T = false)
    (e : findCls K (.type T) (.type "type") name = some (.val v)) (hh : handedIn v = true) (h : Q (v, []) { s with toks := s.toks + 1 }) : wpAny (model prog w) A (getMethod (.type T) name pl) Q E s := by
  have L0 : Looks (model prog w) s.heap (typeOf (.type T)) (.type "type") := Looks.of_pure ht
  have LO : Looks (model prog w) s.heap (opaqueClassAbove (.type T)) none := Looks.of_pure (by unfold opaqueClassAbove; dsimp only; rw [hs]; rfl)
  have hg : findIn K (.type "type") "__getattribute__" = some (some (.builtin "type.__getattribute__")) := type_tga
  unfold getMethod specialOf
  refine wpAny_bind (wpAny_bind (L0.here ((looks_findIn X hg).here ?_)))
  dsimp only
  rw [if_pos canon_tga]
  refine wpAny_bind (wpAny_mono (Q := fun v => Q (v, [])) (E := E) ?_ (fun q_ q_ z => wpAny_pure z) fun q_ q_ z => z)
  exact cls_open X LO L0 hg (looks_hook X (r := none) (by rfl)) (by show subIn K _ _ = _; rfl) e (wpAny_pure (handed_on hh h))

/-- the exception's fields at its birth -/
noncomputable def ExAt (h : Heap) (C e : Addr) (d : Option Addr) : Prop := ∃ tp, h.get? e = some { cls := .ref C, dict := d, data := .fields #[.ref tp, .none, .none, .none, .bool false, .none] }

variable {C N : Addr} {nm q : Str} {bs bm bmB : List Value} {hdct : Bool} {sn : List Str} {sub : List Value} {ab : Bool} {col : Option Bool} {dd : Option Addr} {k0 k1 k2 k3 k5 : Option Value} {B newId initId : String}

/-- the built-in __init__ -/
theorem base_init (F : ExcBaseFacts B newId initId bmB) (hB : bm.contains (.type B) = true) {e : Addr} {d : Option Addr} {y : Value} {Q : Value → Shared → Prop}
    (hC : s.heap.get? C = some (excClassObj nm q C N bs bm hdct sn sub ab col dd k0 k1 k2 k3 k5 newId)) (he : ExAt s.heap C e d)
    (h : ∀ h', (∀ b o, b ≠ e → s.heap.get? b = some o → h'.get? b = some o) → ExAt h' C e d → Q .none { s with heap := h' }) :
    wpAny (model prog w) A (call (.builtin initId) [.ref e, y]) Q E s := by
  refine byC fun nG => ?_
  obtain ⟨tp, he⟩ := he
  obtain ⟨hp, g, dr, t, os⟩ := s
  have hcB : (Value.ref C :: bm).contains (.type B) = true := by rw [List.contains_cons, hB, Bool.or_true]
  have hshort := F.noStar
  refine nG ?_
  refine wpAny_call (codeAny_call_builtin F.init.plain F.initEntry ?_)
  have chk : ∀ {M : Model} {Q : Unit → Shared → Prop} {A : Around} {E : Value → Shared → Prop}, Q () ⟨hp, g, dr, t, os⟩ → wpAny M A (checkBuiltinCall initId ⟨[.ref e, y], []⟩) Q E ⟨hp, g, dr, t, os⟩ := by
    intro M Q A E hq
    simp only [checkBuiltinCall, F.initKind, F.initSplit, F.initRow]
    refine wpAny_bind ?_
    unfold isInstance
    repeat (first | with_reducible refine wpAny_loadPart_at he ?_ | with_reducible refine wpAny_loadPart_at hC ?_ | wp_step)
    refine wpAny_isSubtype_exc hC ?_
    rw [hcB]
    repeat (first | wp_step)
    exact hq
  refine chk ?_
  unfold Builtin.«BaseException.__init__»
  have kp := push_keep hp { cls := .type "tuple", data := .seq #[y] }
  have he' := kp _ _ he
  refine wpAny_bind ?_
  refine wpAny_newTuple (s := ⟨hp, g, dr, t, os⟩) (items := [y]) ?_
  unfold Builtin.BaseException.bexcPut
  refine wpAny_bind (wpAny_bind (wpAny_field he' rfl (i := 0) (x := .ref tp) rfl (wpAny_bind (wpAny_setField he' rfl (show 0 < 6 by decide) ?_))))
  refine wpAny_letGo (wpAny_pure ?_)
  refine h _ (fun b o hb eb => ?_) ⟨hp.objs.size, ?_⟩
  · rw [Heap.get?_update_other _ _ (Ne.symm hb)]; exact kp b o eb
  · rw [Heap.get?_update_self _ he' rfl]; rfl
end
end Mine
end
/-! Exc5 -/
section
set_option Elab.async false
set_option genSizeOf false
set_option linter.all false
set_option maxRecDepth 100000
open PySem PySem.W PyProof.Rows
namespace Mine

/-- what is looked up about an __init__: `Base.__init__(self, ..); self.attr = x` -/
noncomputable def iniH (K : Frag) (base x : Str) (fd : FuncData) : Bool :=
  fd.closure.isEmpty && codeIn K fd.code fd.qualname && fd.defaults == .none && !fd.scope.isCoroutine && !fd.scope.isGenerator && fd.scope.kind == .function && fd.globals == mainGlobals && fd.builtins == builtinsNs &&
  fd.params.posonlyargs.isEmpty && fd.params.kwonlyargs.isEmpty && fd.params.vararg.isNone && fd.params.kwarg.isNone && fd.params.args.map (·.arg) == [("self" : Str), x] &&
  fd.scope.names.lookup ("self" : Str) == some .local && fd.scope.names.lookup x == some .local && fd.scope.names.lookup base == some .globalImplicit && !(x == ("self" : Str)) && !(x == ("__debug__" : Str)) && !(base == ("__debug__" : Str))

structure IniOk (K : Frag) (f : Addr) (base attr x : Str) (o : Obj) (fd : FuncData) (p1 p2 p4 p5 ap p ps p6 : Pos) (arg : PySem.Expr) : Prop where
  look : K.lookup f = some o
  data : o.data = .func fd
  body : ∃ pb pz, fd.body = .stmts [.Expr (.Call (.Attribute (.Name base p1) "__init__" ap) [.Name "self" p2, arg] [] p) ps, .Assign [.Attribute (.Name "self" p4) attr pb] (.Name x p5) pz]
  pos : fd.params.posonlyargs = []
  kwo : fd.params.kwonlyargs = []
  va : fd.params.vararg = none
  ka : fd.params.kwarg = none
  clo : fd.closure = []
  code : codeIn K fd.code fd.qualname = true
  dfl : fd.defaults = .none
  co : fd.scope.isCoroutine = false
  gen : fd.scope.isGenerator = false
  kind : fd.scope.kind = .function
  glob : fd.globals = mainGlobals
  blt : fd.builtins = builtinsNs
  args : fd.params.args.map (·.arg) = [("self" : Str), x]
  line : (ap.endLine == p.line) = true
  k1 : fd.scope.names.lookup ("self" : Str) = some .local
  k2 : fd.scope.names.lookup x = some .local
  k3 : fd.scope.names.lookup base = some .globalImplicit
  ne : x ≠ "self"
  d1 : (x == ("__debug__" : Str)) = false
  d2 : (base == ("__debug__" : Str)) = false
  arg : (∃ c k, arg = .Constant (.str c) k p6) ∨ arg = .Name x p6
structure IniSh (K : Frag) (f : Addr) (base attr x : Str) : Prop where
  flags : (fnIn K f).map (iniH K base x) = some true
  body : ∃ p1 p2 p4 p5 ap p ps p6 arg pb pz, (fnIn K f).map (·.body) = some (.stmts [.Expr (.Call (.Attribute (.Name base p1) "__init__" ap) [.Name "self" p2, arg] [] p) ps, .Assign [.Attribute (.Name "self" p4) attr pb] (.Name x p5) pz]) ∧
    (ap.endLine == p.line) = true ∧ ((∃ c k, arg = .Constant (.str c) k p6) ∨ arg = .Name x p6)
theorem iniB_of {K : Frag} {f : Addr} {base attr x : Str} (I : IniSh K f base attr x) : ∃ o fd p1 p2 p4 p5 ap p ps p6 arg, IniOk K f base attr x o fd p1 p2 p4 p5 ap p ps p6 arg := by
  refine byC fun nG => ?_
  obtain ⟨p1, p2, p4, p5, ap, p, ps, p6, arg, pb, pz, hb, hl, harg⟩ := I.body
  obtain ⟨fd, h1, h⟩ := Option.map_eq_some_iff.mp I.flags
  rw [h1] at hb
  obtain ⟨o, ho, hd⟩ := fnIn_of h1
  simp only [iniH, Bool.and_eq_true, Bool.not_eq_true', List.isEmpty_iff, Option.isNone_iff_eq_none] at h
  refine nG ?_
  exact ⟨o, fd, p1, p2, p4, p5, ap, p, ps, p6, arg, ho, hd, ⟨pb, pz, Option.some.inj hb⟩, h.1.1.1.1.1.1.1.1.1.1.2, h.1.1.1.1.1.1.1.1.1.2, h.1.1.1.1.1.1.1.1.2, h.1.1.1.1.1.1.1.2, h.1.1.1.1.1.1.1.1.1.1.1.1.1.1.1.1.1.1, h.1.1.1.1.1.1.1.1.1.1.1.1.1.1.1.1.1.2,
    beq_iff_eq.mp h.1.1.1.1.1.1.1.1.1.1.1.1.1.1.1.1.2, h.1.1.1.1.1.1.1.1.1.1.1.1.1.1.1.2, h.1.1.1.1.1.1.1.1.1.1.1.1.1.1.2, beq_iff_eq.mp h.1.1.1.1.1.1.1.1.1.1.1.1.1.2, beq_iff_eq.mp h.1.1.1.1.1.1.1.1.1.1.1.1.2, beq_iff_eq.mp h.1.1.1.1.1.1.1.1.1.1.1.2,
    beq_iff_eq.mp h.1.1.1.1.1.1.2, hl, beq_iff_eq.mp h.1.1.1.1.1.2, beq_iff_eq.mp h.1.1.1.1.2, beq_iff_eq.mp h.1.1.1.2, beq_eq_false_iff_ne.mp h.1.1.2, h.1.2, h.2, harg⟩

/-- of the class: what a store on such an object needs -/
structure ExSt (K : Frag) (C : Addr) : Prop where
  sa : findIn K (.ref C) "__setattr__" = some (some (.builtin "object.__setattr__"))
  cd : ∃ cd, clsIn K C = some cd ∧ cd.mro.isEmpty = false ∧ cd.mro.contains (.type "object") = true ∧ (∀ self, refuseLoop self "__setattr__" cd.mro = pure ()) ∧ cd.hasDict = true
  at_ : findIn K (.ref C) "at" = some none
  text : findIn K (.ref C) "text" = some none

section
variable {prog : Program} {w : World} {A : Around} {s : Shared} {K : Frag} {C e f : Addr} {base attr x : Str} {o : Obj} {fd : FuncData} {p1 p2 p4 p5 ap p ps p6 : Pos} {arg : PySem.Expr}

theorem ini_walk (I : IniOk K f base attr x o fd p1 p2 p4 p5 ap p ps p6 arg) (ES : ExSt K C) (ha : attr = "at" ∨ attr = "text") (X : K.In s.heap) (hlim : s.heap.NoLimit) (hroom : A.depth < recursionLimit) {y : Value} {R : Result → Shared → Prop}
    (he : ExAt s.heap C e none) (hKe : K.lookup e = none)
    (sup : ∀ {env : Env} {h₁ : Heap} {tk : Nat} {E : Value → Shared → Prop} {Q : Value → Shared → Prop}, (∀ b o, s.heap.get? b = some o → h₁.get? b = some o) → env.scope = fd.scope → env.globals = mainGlobals → env.builtins = builtinsNs →
      ∀ (self : ∀ {s' : Shared} {E Q}, (∀ b o, b ≠ e → h₁.get? b = some o → s'.heap.get? b = some o) → Q (.ref e) s' → wpAny (model prog w) (A.deeper env) (eval (.Name "self" p2) env) Q E s')
        (argv : ∀ {s' : Shared} {E Q}, (∀ b o, b ≠ e → h₁.get? b = some o → s'.heap.get? b = some o) → (∀ v tk, Q v { s' with toks := tk }) → wpAny (model prog w) (A.deeper env) (eval arg env) Q E s'),
      (∀ v h' tk d (mA : Str → Option Value), Within mA ["text"] → (∀ b o, b ≠ e → h₁.get? b = some o → h'.get? b = some o) → ExAt h' C e d → ((d = none ∧ ∀ n, mA n = none) ∨ ∃ dx od, d = some dx ∧ dx ≠ e ∧ h₁.get? dx = none ∧ h'.get? dx = some od ∧ h'.Ns1 dx mA) → Q v { s with heap := h', toks := tk }) →
      wpAny (model prog w) (A.deeper env) (eval (.Call (.Attribute (.Name base p1) "__init__" ap) [.Name "self" p2, arg] [] p) env) Q E { s with heap := h₁, toks := tk })
    (q : ∀ h' tk dx (mA : Str → Option Value), Within mA ["text"] → (∀ b o, b ≠ e → s.heap.get? b = some o → h'.get? b = some o) → dx ≠ e → s.heap.get? dx = none → ExAt h' C e (some dx) → h'.Ns1 dx (fun z => if z = attr then some y else mA z) → R (.ok (.ret .none)) { s with heap := h', toks := tk }) :
    codeAny (model prog w) A (.call (.ref f) ⟨[.ref e, y], []⟩) R s := by
  refine byC fun nG => ?_
  obtain ⟨pb, pz, hbody⟩ := I.body
  have nd : ([("self" : Str), x] : List Str).Nodup := List.nodup_cons.mpr ⟨by simp [Ne.symm I.ne], List.nodup_cons.mpr ⟨by simp, .nil⟩⟩
  have hbind : bindArgs fd ⟨[.ref e, y], []⟩ = pure ([("self" : Str), x].zip [.ref e, y]) := bind_plain I.pos I.kwo I.va I.ka I.dfl I.args nd rfl
  refine nG ?_
  refine codeAny_call_cells hroom (X _ _ I.look) I.data hlim (codeRec_of X I.code) hbody hbind I.clo (fun z hz => ?_) (fun s₁ IC => ?_) I.co I.gen I.kind
  · simp only [List.zip_cons_cons, List.zip_nil_left, List.mem_cons, List.not_mem_nil, or_false] at hz
    refine byC fun nG => ?_
    rcases hz with rfl | rfl
    · refine nG ?_
      exact .inl I.k1
    · refine nG ?_
      exact .inl I.k2
  generalize hE : callEnvC fd s.heap.objs.size f = env at IC ⊢
  have hloc : env.locals = s.heap.objs.size := by rw [← hE]; rfl
  have hsc : env.scope = fd.scope := by rw [← hE]; rfl
  have hgl : env.globals = mainGlobals := by rw [← hE]; exact I.glob
  have hbl : env.builtins = builtinsNs := by rw [← hE]; exact I.blt
  have hkd : env.scope.kind = .function := by rw [hsc]; exact I.kind
  have kof : ∀ n, env.kindOf n = fd.scope.names.lookup n := fun n => by unfold Env.kindOf; rw [hsc]
  refine byC fun nG => ?_
  obtain ⟨h₁, tk₁, rfl, keep⟩ := IC.done
  have hns : h₁.Ns env.locals (bindL env.kindOf ([("self" : Str), x].zip [.ref e, y]) fun q_ => none) := IC.toInCall.ns
  obtain ⟨tp, he0⟩ := id he
  have eL : env.locals ≠ e := fun z => by rw [hloc] at z; rw [← z, top_none] at he0; cases he0
  have mself : bindL env.kindOf ([("self" : Str), x].zip [.ref e, y]) (fun q_ => none) "self" = some (.ref e) := (bindL_get (kindOf := env.kindOf) (m := fun q_ => none) nd rfl (by rw [kof]; exact I.k1)).1 0 rfl
  have mx : bindL env.kindOf ([("self" : Str), x].zip [.ref e, y]) (fun q_ => none) x = some y := (bindL_get (kindOf := env.kindOf) (m := fun q_ => none) nd rfl (by rw [kof]; exact I.k2)).1 1 rfl
  have nsAt : ∀ {h' : Heap}, (∀ b o, b ≠ e → h₁.get? b = some o → h'.get? b = some o) → h'.Ns env.locals (bindL env.kindOf ([("self" : Str), x].zip [.ref e, y]) fun q_ => none) := fun k => hns.at fun o eo => k _ o eL eo
  have ldSelf : ∀ {pp : Pos} {s' : Shared} {E : Value → Shared → Prop} {Q : Value → Shared → Prop}, (∀ b o, b ≠ e → h₁.get? b = some o → s'.heap.get? b = some o) → Q (.ref e) s' → wpAny (model prog w) (A.deeper env) (eval (.Name "self" pp) env) Q E s' := fun k hq =>
    wpAny_Name (wpAny_loadName_local hkd (by rw [kof]; exact I.k1) (nsAt k) mself hq) (by decide)
  have ldX : ∀ {pp : Pos} {s' : Shared} {E : Value → Shared → Prop} {Q : Value → Shared → Prop}, (∀ b o, b ≠ e → h₁.get? b = some o → s'.heap.get? b = some o) → Q y s' → wpAny (model prog w) (A.deeper env) (eval (.Name x pp) env) Q E s' := fun k hq =>
    wpAny_Name (wpAny_loadName_local hkd (by rw [kof]; exact I.k2) (nsAt k) mx hq) I.d1
  refine nG ?_
  refine wpAny_execs_cons (wpAny_Expr_any ?_ (by unfold interactive; rw [hkd]; rfl))
  refine sup (tk := tk₁) keep hsc hgl hbl (fun k hq => ldSelf k hq) (fun {s' E Q} k hq => ?_) fun v h2 tk2 d mA hwm k2 he2 hd2 => ?_
  · refine byC fun nG => ?_
    rcases I.arg with ⟨c, kk, rfl⟩ | rfl
    · refine nG ?_
      exact wpAny_Constant_str (hq _ _)
    · refine nG ?_
      exact ldX k (hq y s'.toks)
  dsimp only
  refine wpAny_execs_cons (plainObj_wpAny_Assign_Attribute (ldX (s' := { s with heap := h2, toks := tk2 }) k2 (ldSelf (s' := { s with heap := h2, toks := tk2 }) k2 ?_)))
  refine byC fun nG => ?_
  obtain ⟨cd, c1, c2, c3, c4, c5⟩ := ES.cd
  obtain ⟨tp2, he2'⟩ := he2
  have kk : ∀ b o, b ≠ e → s.heap.get? b = some o → h2.get? b = some o := fun b o hb eo => k2 b o hb (keep b o eo)
  have X2 : K.In h2 := fun b o eo => kk b o (fun z => by rw [z, hKe] at eo; cases eo) (X b o eo)
  refine nG ?_
  refine exc_store (s := { s with heap := h2, toks := tk2 }) (mA := mA) (ns := ["text"]) X2 ES.sa c1 c2 c3 (c4 _) c5 (by rcases ha with rfl | rfl; exact ES.at_; exact ES.text) he2' rfl rfl (fun c z => by cases z) (fun d' => rfl) ?_ hwm (by decide) fun h3 tk3 dx dne dnew k3 e3 ns3 => ?_
  · refine byC fun nG => ?_
    rcases hd2 with ⟨rfl, m0⟩ | ⟨dx, od, rfl, d1, d2, d3, d4⟩
    · refine nG ?_
      exact .inl ⟨rfl, m0⟩
    · refine nG ?_
      exact .inr ⟨dx, od, rfl, d1, d3, d4⟩
  have dxnew : s.heap.get? dx = none := by
    refine byC fun nG => ?_
    rcases dnew with dnew | dnew
    · refine nG ?_
      cases q : s.heap.get? dx with
      | none => rfl
      | some oo => rw [kk dx oo dne q] at dnew; cases dnew
    · rcases hd2 with ⟨rfl, m0⟩ | ⟨dx', od, rfl, d1, d2, d3, d4⟩
      · cases dnew
      · cases dnew
        refine nG ?_
        cases q : s.heap.get? dx with
        | none => rfl
        | some oo => rw [keep dx oo q] at d2; cases d2
  refine wpAny_execs_nil (q h3 tk3 dx mA hwm (fun b o hb eo => ?_) dne dxnew ⟨tp2, e3⟩ ns3)
  exact k3 b o hb (fun z => by rw [z, dxnew] at eo; cases eo) (kk b o hb eo)
end
end Mine
end
/-! Exc6 -/
section
set_option Elab.async false
set_option genSizeOf false
set_option linter.all false
set_option maxRecDepth 100000
open PySem PySem.W PyProof.Rows
namespace Mine

/-- what is asked of the written heap about the exception -/
structure BadOk (G : Gx) (BB CE fB fC : Addr) : Prop where
  cls : ∃ nm q N bs hdct sn sub ab col dd k0 k1 k2 k3 k5, G.K.lookup BB = some (excClassObj nm q BB N bs [.ref CE, .type "Exception", .type "BaseException", .type "object"] hdct sn sub ab col dd k0 k1 k2 k3 k5 "Exception.__new__")
  ini : findIn G.K (.ref BB) "__init__" = some (some (.ref fB)) ∧ typeIn G.K (.ref fB) = some (.type "function")
  st : ExSt G.K BB
  sup1 : specialIn G.K (.ref CE) "__getattribute__" = some (some (.builtin "type.__getattribute__"))
  sup2 : readsIn G.K CE (.type "type") = true
  sup3 : findCls G.K (.ref CE) (.type "type") "__init__" = some (.val (.ref fC))
  sup4 : keepIn G.K (.ref fC) = true
  sup5 : findCls G.K (.type "Exception") (.type "type") "__init__" = some (.val (.builtin "Exception.__init__"))
  iB : IniSh G.K fB "ChessError" "at" "at"
  iC : IniSh G.K fC "Exception" "text" "text"
  keep : keepIn G.K (.ref BB) = true
  ga : findIn G.K (.ref BB) "__getattribute__" = some (some (.builtin "BaseException.__getattribute__"))
  gt : findIn G.K (.ref BB) "__getattr__" = some none
  hd : hasDictIn G.K BB = true
  mro : ∃ cd, clsIn G.K BB = some cd ∧ cd.mro.isEmpty = false ∧ cd.mro.contains (.type "BaseException") = true
  names : ∃ mg mb, G.base.Ns mainGlobals mg ∧ G.base.Ns builtinsNs mb ∧ mg "BadBook" = some (.ref BB) ∧ mg "ChessError" = some (.ref CE) ∧ mg "Exception" = none ∧ mb "Exception" = some (.type "Exception")

theorem has_exc (CE : Addr) : ([.ref CE, .type "Exception", .type "BaseException", .type "object"] : List Value).contains (.type "Exception") = true := by simp
theorem no_attr (CE : Addr) : ([.ref CE, .type "Exception", .type "BaseException", .type "object"] : List Value).contains (.type "AttributeError") = false := by simp
theorem no_name (CE : Addr) : ([.ref CE, .type "Exception", .type "BaseException", .type "object"] : List Value).contains (.type "NameError") = false := by simp
section
variable {G : Gx} {A : Around} {E : Value → Shared → Prop} {s : Shared} {BB CE fB fC : Addr}

theorem ini_C (B : BadOk G BB CE fB fC) {e : Addr} {y : Value} {R : Result → Shared → Prop} (hb : ∀ b o, G.base.get? b = some o → s.heap.get? b = some o) (X : G.K.In s.heap) (hlim : s.heap.NoLimit) (hroom : A.depth < recursionLimit) (he : ExAt s.heap BB e none) (hKe : G.K.lookup e = none) (hBe : G.base.get? e = none)
    (q : ∀ h' tk dx (mA : Str → Option Value), (∀ b o, b ≠ e → s.heap.get? b = some o → h'.get? b = some o) → dx ≠ e → s.heap.get? dx = none → ExAt h' BB e (some dx) → h'.Ns1 dx mA → Within mA ["text"] → R (.ok (.ret .none)) { s with heap := h', toks := tk }) :
    codeAny (model G.prog G.w) A (.call (.ref fC) ⟨[.ref e, y], []⟩) R s := by
  refine byC fun nG => ?_
  obtain ⟨o, fd, p1, p2, p4, p5, ap, p, ps, p6, arg, I⟩ := iniB_of B.iC
  obtain ⟨nm, qq, N, bs, hdct, sn, sub, ab, col, dd, k0, k1, k2, k3, k5, hcls⟩ := B.cls
  obtain ⟨mg, mb, g1, g2, _, _, g5, g6⟩ := B.names
  have hns : NotStar arg := by
    intro v pp z
    refine byC fun nG => ?_
    rcases I.arg with ⟨c, k, rfl⟩ | rfl <;> cases z
  refine nG ?_
  refine ini_walk I B.st (.inr rfl) X hlim hroom he hKe (fun {env h₁ tk E Q} keep hsc hgl hbl self argv fin => ?_) fun h' tk dx mA hw k1 k2 k3 k4 k5 => q h' tk dx _ k1 k2 k3 k4 k5 ?_
  · have X1 : G.K.In h₁ := X.keeps keep
    have b1 : ∀ b o, G.base.get? b = some o → h₁.get? b = some o := fun b o eo => keep b o (hb b o eo)
    refine call_attr rfl I.line (few2 (fun q_ q_ z => by cases z) hns) (Calls.Name_function_global (by rw [hsc]; exact I.kind) (by unfold Env.kindOf; rw [hsc]; exact I.k3) (Calls.loadGlobal_builtin (mg := mg) (mb := mb) (by rw [hgl]; exact g1.keeps b1) g5 (by rw [hbl]; exact g2.keeps b1) g6 ?_) I.d2)
    intro pl
    refine method_builtin (s := { s with heap := h₁, toks := tk }) X1 (by kernel_rfl) (by kernel_rfl) B.sup5 (by decide) ?_
    refine Calls.callWith_builtin (by rw [tree2 (fun q_ q_ z => by cases z) hns]; rfl) ?_
    rw [tree2 (fun q_ q_ z => by cases z) hns]
    refine Calls.evalArgs_plain (Calls.spliced_cons (self (fun q_ q_ q_ eo => eo) (Calls.spliced_cons (argv (fun q_ q_ q_ eo => eo) fun v tk2 => Calls.spliced_nil ?_))))
    obtain ⟨tp, he0⟩ := he
    refine base_init (s := { s with heap := h₁, toks := tk2 }) PySem.F.excBase_Exception (bm := [.ref CE, .type "Exception", .type "BaseException", .type "object"]) (has_exc CE) (X1 _ _ hcls) ⟨tp, keep _ _ he0⟩ fun h' k' e' => ?_
    exact fin .none h' tk2 none (fun q_ => none) (fun y h => absurd rfl h) k' e' (.inl ⟨rfl, fun q_ => rfl⟩)
  · intro z hz
    dsimp only at hz
    refine byC fun nG => ?_
    by_cases hzz : z = "text"
    · refine nG ?_
      simp [hzz]
    · rw [if_neg hzz] at hz
      refine nG ?_
      exact hw z hz

theorem ini_B (B : BadOk G BB CE fB fC) {e : Addr} {y : Value} {R : Result → Shared → Prop} (hb : ∀ b o, G.base.get? b = some o → s.heap.get? b = some o) (X : G.K.In s.heap) (hlim : s.heap.NoLimit) (hroom : A.depth + 1 < recursionLimit) (he : ExAt s.heap BB e none) (hKe : G.K.lookup e = none) (hBe : G.base.get? e = none)
    (q : ∀ h' tk dx (mA : Str → Option Value), (∀ b o, b ≠ e → s.heap.get? b = some o → h'.get? b = some o) → dx ≠ e → s.heap.get? dx = none → ExAt h' BB e (some dx) → h'.Ns1 dx mA → mA "at" = some y → R (.ok (.ret .none)) { s with heap := h', toks := tk }) :
    codeAny (model G.prog G.w) A (.call (.ref fB) ⟨[.ref e, y], []⟩) R s := by
  refine byC fun nG => ?_
  obtain ⟨o, fd, p1, p2, p4, p5, ap, p, ps, p6, arg, I⟩ := iniB_of B.iB
  obtain ⟨mg, mb, g1, g2, _, g4, _, _⟩ := B.names
  have hns : NotStar arg := by
    intro v pp z
    refine byC fun nG => ?_
    rcases I.arg with ⟨c, k, rfl⟩ | rfl <;> cases z
  refine nG ?_
  refine ini_walk I B.st (.inl rfl) X hlim (Nat.lt_of_succ_lt hroom) he hKe (fun {env h₁ tk E Q} keep hsc hgl hbl self argv fin => ?_) fun h' tk dx mA hw k1 k2 k3 k4 k5 => q h' tk dx _ k1 k2 k3 k4 k5 (by simp)
  have X1 : G.K.In h₁ := X.keeps keep
  have b1 : ∀ b o, G.base.get? b = some o → h₁.get? b = some o := fun b o eo => keep b o (hb b o eo)
  refine call_attr rfl I.line (few2 (fun q_ q_ z => by cases z) hns) (Calls.Name_function_global (by rw [hsc]; exact I.kind) (by unfold Env.kindOf; rw [hsc]; exact I.k3) (Calls.loadGlobal_global (mg := mg) (by rw [hgl]; exact g1.keeps b1) g4 ?_) I.d2)
  intro pl
  refine method_cls (s := { s with heap := h₁, toks := tk }) X1 B.sup1 (cls_value (s := { s with heap := h₁, toks := tk }) X1 B.sup2 B.sup3 rfl ?_)
  refine callWith_of (P := G.K.In) (by rw [tree2 (fun q_ q_ z => by cases z) hns]; rfl) (keeps_K B.sup4) ?_
  rw [tree2 (fun q_ q_ z => by cases z) hns]
  refine Calls.evalArgs_plain (Calls.spliced_cons (self (fun q_ q_ q_ eo => eo) (Calls.spliced_cons (argv (fun q_ q_ q_ eo => eo) fun v tk2 => Calls.spliced_nil ⟨X1, ?_⟩))))
  obtain ⟨tp, he0⟩ := id he
  refine wpAny_call (ini_C (s := { s with heap := h₁, toks := tk2 }) B b1 X1 (hlim.keeps keep) hroom ⟨tp, keep _ _ he0⟩ hKe hBe fun h' tk3 dx mA k' ne dnew e' ns' hw => ?_)
  refine byC fun nG => ?_
  obtain ⟨od, _, _, hod, _⟩ := id ns'
  refine nG ?_
  exact fin .none h' tk3 (some dx) mA hw k' e' (.inr ⟨dx, od, rfl, ne, dnew, hod, ns'⟩)

/-- the exception is made -/
theorem exc_made (B : BadOk G BB CE fB fC) {y : Value} {Q : Value → Shared → Prop} (hb : ∀ b o, G.base.get? b = some o → s.heap.get? b = some o) (X : G.K.In s.heap) (hlim : s.heap.NoLimit) (hroom : A.depth + 2 < recursionLimit)
    (q : ∀ h' tk e dx mA, (∀ b o, s.heap.get? b = some o → h'.get? b = some o) → s.heap.get? e = none → s.heap.get? dx = none → dx ≠ e → ExAt h' BB e (some dx) → h'.Ns1 dx mA → mA "at" = some y → Q (.ref e) { s with heap := h', toks := tk }) :
    wpAny (model G.prog G.w) A (call (.ref BB) [y]) Q E s := by
  refine byC fun nG => ?_
  obtain ⟨nm, qq, N, bs, hdct, sn, sub, ab, col, dd, k0, k1, k2, k3, k5, hcls⟩ := B.cls
  obtain ⟨h, g, d, t, os⟩ := s
  have k : ∀ b o, h.get? b = some o → ((h.push { cls := .type "tuple", data := .seq #[y] }).push { cls := .ref BB, data := .fields #[.ref h.objs.size, .none, .none, .none, .bool false, .none] }).get? b = some o := fun b o e => push_keep _ _ _ _ (push_keep _ _ _ _ e)
  have noE : h.get? (h.objs.size + 1) = none := none_of_le (Nat.le_succ _)
  refine nG ?_
  refine exc_call PySem.F.excBase_Exception (bm := [.ref CE, .type "Exception", .type "BaseException", .type "object"]) (has_exc CE) (no_attr CE) (no_name CE) X (X _ _ hcls) B.ini.1 B.ini.2 (by rw [sizeLine_eq]; show 1 ≤ _; omega) ?_
  refine ini_B (s := ⟨(h.push { cls := .type "tuple", data := .seq #[y] }).push { cls := .ref BB, data := .fields #[.ref h.objs.size, .none, .none, .none, .bool false, .none] }, g, d, t, os⟩) B (fun b o e => k b o (hb b o e)) (X.keeps k) (hlim.keeps k) ?_ ⟨h.objs.size, by heap_get⟩ ?_ ?_ fun h' tk dx mA kk ne dnew he ns hat => ⟨rfl, ?_⟩
  · show A.depth + 1 + 1 < recursionLimit
    exact hroom
  · cases q : G.K.lookup (h.objs.size + 1) with
    | none => rfl
    | some o => rw [X _ _ q] at noE; cases noE
  · cases q : G.base.get? (h.objs.size + 1) with
    | none => rfl
    | some o => rw [hb _ _ q] at noE; cases noE
  · refine q h' tk (h.objs.size + 1) dx mA (fun b o e => kk b o (fun z => by rw [z, noE] at e; cases e) (k b o e)) noE ?_ ne he ns hat
    cases q : h.get? dx with
    | none => rfl
    | some o => rw [k _ _ q] at dnew; cases dnew
end
end Mine
end
/-! Exc7 -/
section
set_option Elab.async false
set_option genSizeOf false
set_option linter.all false
set_option maxRecDepth 100000
open PySem PySem.W PyProof.Rows
namespace Mine

/-- an exception that carries v -/
noncomputable def XEB (G : Gx) (BB : Addr) (v : V) (er : Value) (s : Shared) : Prop :=
  ∃ i e dx mA t, v = .int i ∧ er = .ref e ∧ G.base.get? e = none ∧ ExAt s.heap BB e (some dx) ∧ s.heap.Ns1 dx mA ∧ mA "at" = some (.int i t)

section
variable {M : Model} {A : Around} {E : Value → Shared → Prop} {env : Env} {C N : Addr} {nm q : Str} {bs bm : List Value} {hdct : Bool} {sn : List Str} {sub : List Value} {ab : Bool} {col : Option Bool} {dd : Option Addr} {k0 k1 k2 k3 k5 : Option Value} {newId : String}

theorem raise_made {s : Shared} {x : Sem Value} {Q : Flow → Shared → Prop} (hbase : bm.contains (.type "BaseException") = true) (hh : A.handled = none)
    (h : wpAny M A x (fun v s₁ => ∃ e d, v = .ref e ∧ s₁.heap.get? C = some (excClassObj nm q C N bs bm hdct sn sub ab col dd k0 k1 k2 k3 k5 newId) ∧ ExAt s₁.heap C e d ∧ E (.ref e) s₁) E s) :
    wpAny M A (raiseStmt env (some x) none) Q E s := by
  have hcB : (Value.ref C :: bm).contains (.type "BaseException") = true := by rw [List.contains_cons, hbase, Bool.or_true]
  unfold raiseStmt
  refine wpAny_bind (wpAny_mono h (fun v s₁ h₁ => ?_) fun q_ q_ x => x)
  refine byC fun nG => ?_
  obtain ⟨e, dx, rfl, hC, ⟨tp, he⟩, hE⟩ := h₁
  obtain ⟨hp, g, d, tk, os⟩ := s₁
  refine nG ?_
  repeat (first | with_reducible refine wpAny_loadPart_at he ?_ | with_reducible refine wpAny_loadPart_at hC ?_ | (with_reducible refine wpAny_isSubtype_exc hC ?_; rw [hcB]) | wp_step)
  exact wpAny_raiseNew_none hh hE
end

section
variable {G : Gx} {fa : Nat → Addr} {init : Nat → Nat} {d : Nat} {cf : CF} {gl : List V} {BB CE fB fC : Addr}

theorem has_base (CE : Addr) : ([.ref CE, .type "Exception", .type "BaseException", .type "object"] : List Value).contains (.type "BaseException") = true := by simp

theorem raise_snd (B : Amb G fa init gl d cf) (K : BadOk G BB CE fB fC) (x : X) (M : Mx) (st : PySem.Stmt) (h : mS M true (.raise_ x) st = true) : SoundS G d ⟨cf, gl, init⟩ (XEB G BB) M (.raise_ x) st := by
  refine onRaise_in (P := SoundS G d ⟨cf, gl, init⟩ (XEB G BB) M (.raise_ x)) h fun xo co pos h => ?_
  refine @onNone_in _ (fun co => SoundS G d ⟨cf, gl, init⟩ (XEB G BB) M (.raise_ x) (.Raise xo co pos)) _ _ h fun h => ?_
  refine @onSome_in _ (fun xo => SoundS G d ⟨cf, gl, init⟩ (XEB G BB) M (.raise_ x) (.Raise xo none pos)) _ _ h fun xo h => ?_
  refine @onFn_in (fun xo => SoundS G d ⟨cf, gl, init⟩ (XEB G BB) M (.raise_ x) (.Raise (some xo) none pos)) _ _ h fun n np l cp h => ?_
  refine @on1_in _ (fun l => SoundS G d ⟨cf, gl, init⟩ (XEB G BB) M (.raise_ x) (.Raise (some (.Call (.Name n np) l [] cp)) none pos)) _ _ h fun v h => ?_
  have ⟨h, hm⟩ := band h
  have ⟨h, hb⟩ := band (band h).2
  rw [beq_iff_eq.mp h] at hb ⊢
  intro A env σ ρ H s r Q E hv N g
  refine byC fun nG => ?_
  refine bind_in hv fun a h1 hv_ => ?_; clear hv; rename _ = _ => hv
  refine vInt_in hv fun i hi hv1 => some_in hv1 fun er => ?_
  clear hv hv1
  subst er
  obtain ⟨nm, qq, NN, bs, hdct, sn, sub, ab, col, dd, k0, k1, k2, k3, k5, hcls⟩ := K.cls
  obtain ⟨mg, mb, g1, g2, g3, _, _, _⟩ := K.names
  have ok := N.now.ok
  refine nG ?_
  rw [arm_exec_Raise]
  show wpAny _ A (do standAt pos; raiseStmt env (some (do let z ← eval (.Call (.Name "BadBook" np) [v] [] cp) env; standAt pos; pure z)) none) Q E s
  refine wpAny_bind (wpAny_standAt (raise_made (C := BB) (nm := nm) (q := qq) (N := NN) (bs := bs) (bm := [.ref CE, .type "Exception", .type "BaseException", .type "object"]) (hdct := hdct) (sn := sn) (sub := sub) (ab := ab) (col := col) (dd := dd) (k0 := k0) (k1 := k1) (k2 := k2) (k3 := k3) (k5 := k5) (newId := "Exception.__new__") (has_base CE) ok.hand ?_))
  have ns := mE_notStar hm
  refine wpAny_bind (wpAny_Call_NameR (name_glob N.now hb g1 g3 ?_))
  refine callWith_of (P := G.K.In) (by rw [tree1 ns]; rfl) (keeps_K K.keep) ?_
  rw [tree1 ns]
  refine Calls.evalArgs_plain (Calls.spliced_cons (sndE B x M v hm h1 N.now fun ρ1 hp1 tk1 y S1 T1 r1 => Calls.spliced_nil ⟨S1.inK B.C, ?_⟩))
  rw [hi] at r1
  refine byC fun nG => ?_
  obtain ⟨t, rfl⟩ := r1
  refine nG ?_
  refine exc_made (s := { s with heap := hp1, toks := tk1 }) K S1.base (S1.inK B.C) (B.Ge.nolimit.keeps S1.base) (by
    have := ok.dep
    have e : recursionLimit = 1000 := rfl
    omega) fun h' tk e dx mA kk noE noD ne he hns hat => wpAny_bind (wpAny_standAt (wpAny_pure ⟨e, some dx, rfl, kk _ _ (S1.inK B.C _ _ hcls), he, ?_⟩))
  have T2 : Step NoF ρ H s.heap ρ1 a.2 h' := T1.trans (.ext kk)
  exact g ρ1 h' tk (S1.ext kk) T2.ofNo (N.now.fm.step T2) (.ref e) (fun b z => by cases z; exact T1.none noE) ⟨i, e, dx, mA, t, rfl, rfl, base_none S1 noE, he, hns, hat⟩
end
end Mine
end
/-! Exc8 -/
section
set_option Elab.async false
set_option genSizeOf false
set_option linter.all false
set_option maxRecDepth 100000
open PySem PySem.W PyProof.Rows
namespace Mine

section
variable {prog : Program} {w : World} {A : Around} {E : Value → Shared → Prop} {s : Shared} {K : Frag} {C x : Addr} {ox : Obj} {od : Option Obj} {name : Str} {Q : Value → Shared → Prop}

/-- an exception's own attribute -/
theorem exc_get {v : Value} {cd : ClassData} {expr : Bool} (X : K.In s.heap) (I : PySem.W.InstAt s.heap x ox C od) (hga : findIn K (.ref C) "__getattribute__" = some (some (.builtin "BaseException.__getattribute__"))) (hk : findIn K (.ref C) "__getattr__" = some none)
    (hc : clsIn K C = some cd) (ne : cd.mro.isEmpty = false) (ho : cd.mro.contains (.type "BaseException") = true) (hf : findObj K C od name = some (.value v)) (hh : handedIn v = true) (h : Q v { s with toks := s.toks + 1 }) :
    wpAny (model prog w) A (getAttr (.ref x) name expr) Q E s := by
  have FB := PySem.F.attrBase_Exception
  have L0 := I.type (M := model prog w)
  have sub : Looks (model prog w) s.heap (isInstance (.ref x) (.type "BaseException")) true := L0.andThen (looks_mroIn X (by unfold mroIn; rw [hc, Option.bind_some, if_neg (by rw [ne]; decide), ho]))
  have hb : Looks (model prog w) s.heap (hookBefore (.ref C)) none := looks_hook X (by show (if onTheHeap (.ref C) = true then findIn K (.ref C) "__getattr__" else some none) = some none; exact (if_pos (by rfl)).trans hk)
  refine wpAny_bind (wpAny_mkText (wpAny_holding (wpAny_bind (L0 _ _ _ _ (fun q_ q_ e => e) (wpAny_bind (looks_findIn X hga _ _ _ _ (fun q_ q_ e => e) ?_))))))
  dsimp only
  rw [show (onTheHeap (Value.ref C) && Value.builtin "BaseException.__getattribute__" == Value.builtin "object.__getattribute__") = false from by
    rw [show (Value.builtin "BaseException.__getattribute__" == Value.builtin "object.__getattribute__") = false from by decide +kernel, Bool.and_false], if_neg (by decide)]
  refine wpAny_bind (hb _ _ _ _ (fun q_ q_ e => e) (wpAny_bind (wpAny_attempt (wpAny_holding ?_))))
  unfold callGetattribute
  rw [show (expr && onTheHeap (Value.builtin "BaseException.__getattribute__")) = false from Bool.and_false _, if_neg (by decide)]
  unfold boundAndCalled
  rw [FB.ga.bind]
  refine wpAny_bind (wpAny_pure ?_)
  show wpAny _ _ (call (.builtin "BaseException.__getattribute__") [.ref x, .str name s.toks]) _ _ _
  refine wpAny_call (codeAny_call_builtin FB.ga.plain PySem.F.entry_bexc_ga ?_)
  refine @check_slot (model prog w) _ _ { s with toks := s.toks + 1 } "BaseException.__getattribute__" "BaseException" "__getattribute__" (.ref x) [.str name s.toks] [] _ (by decide +kernel) (by decide +kernel) sub (PySem.F.args_bexc_ga _ _) ?_
  have L1 := looks_find (M := model prog w) X I hf
  unfold Builtin.«object.__getattribute__»
  refine wpAny_bind (wpAny_pure (wpAny_bind (wpAny_pure (wpAny_bind (L0 _ _ _ _ (fun q_ q_ e => e) (wpAny_bind (L1 _ _ _ _ (fun q_ q_ e => e) ?_)))))))
  refine wpAny_pure ?_
  exact handed_on hh h
end
end Mine
end
/-! Exc9 -/
section
set_option Elab.async false
set_option genSizeOf false
set_option linter.all false
set_option maxRecDepth 100000
open PySem PySem.W PyProof.Rows
namespace Mine

section
variable {G : Gx} {ρ ρ0 : Rho} {H H0 : Hp} {h h0 h' : Heap} {BB e : Addr}

theorem out_exc (S : Sta G ρ H h) {d : Option Addr} (he : ExAt h BB e d) : Out ρ e := fun p hp z => by
  refine byC fun nG => ?_
  obtain ⟨tp, he⟩ := he
  obtain ⟨k, hk⟩ := List.getElem?_of_mem hp
  have lt := (List.getElem?_eq_some_iff.mp hk).1
  rw [S.len] at lt
  have R := S.rep k p _ hk (List.getElem?_eq_getElem lt)
  have no : ∀ (o : Obj) (T : String), h.get? p.2 = some o → o.cls = .type T → False := fun o T h1 h2 => by
    refine byC fun nG => ?_
    rw [z, he] at h1; cases h1; cases h2
  cases eo : H[k] with
  | list l => rw [eo] at R; obtain ⟨e1, xs, ⟨n, ho⟩, _⟩ := R; rw [e1] at ho; refine nG ?_; exact no _ _ ho rfl
  | flist l => rw [eo] at R; obtain ⟨e1, xs, ⟨o, ho, hc, _⟩, _⟩ := R; rw [e1] at ho; refine nG ?_; exact no _ _ ho hc
  | dict l => rw [eo] at R; obtain ⟨e1, _, xs, ⟨o, es, ep, ho, hc, _⟩, _⟩ := R; rw [e1] at ho; refine nG ?_; exact no _ _ ho hc.1
  | fdict l => rw [eo] at R; obtain ⟨e1, _, xs, ⟨o, es, ep, ho, hc, _⟩, _⟩ := R; rw [e1] at ho; refine nG ?_; exact no _ _ ho hc.1
  | sdict l => rw [eo] at R; obtain ⟨e1, _, xs, ⟨o, es, ep, ho, hc, _⟩, _⟩ := R; rw [e1] at ho; refine nG ?_; exact no _ _ ho hc.1
  | inst c as => rw [eo] at R; obtain ⟨_, _, es, n, ho, _⟩ := R; refine nG ?_; exact no _ _ ho rfl

theorem funFrames_of {B0 : Heap} : ∀ {l : List Env}, (∀ env, env ∈ l → FrameOk G env ρ h) → (∀ env, env ∈ l → ∀ L, env.frame = some L → B0.get? L = none) → h.FunFrames B0 l
  | [], _, _ => trivial
  | env :: l, h1, h2 => by
    refine byC fun nG => ?_
    obtain ⟨k, L, o, es, n, a1, a2, a3, a4, _⟩ := h1 env List.mem_cons_self
    refine nG ?_
    exact ⟨k, ⟨L, o, a1, h2 env List.mem_cons_self L a1, a3, fun vs z => by rw [a4] at z; cases z⟩, funFrames_of (fun e he => h1 e (List.mem_cons_of_mem _ he)) fun e he => h2 e (List.mem_cons_of_mem _ he)⟩

/-- what is left when the exception and the frames are hidden -/
noncomputable def bare (h : Heap) (e : Addr) (l : List Env) : Heap := hideAll h (e :: l.filterMap (·.frame))
theorem bare_stays (h : Heap) (e : Addr) (l : List Env) : (bare h e l).StaysIn h := fun q_ q_ => of_hideAll _
theorem bare_e (h : Heap) (e : Addr) (l : List Env) : (bare h e l).get? e = none := hideAll_none _ (.head _)
theorem bare_frame (h : Heap) (e : Addr) (l : List Env) : ∀ env, env ∈ l → ∀ L, env.frame = some L → (bare h e l).get? L = none := fun env he L hL => hideAll_none _ (.tail _ (List.mem_filterMap.mpr ⟨env, he, hL⟩))
theorem bare_get {l : List Env} {b : Addr} {o : Obj} (h1 : h.get? b = some o) (h2 : b ≠ e) (h3 : ∀ env, env ∈ l → env.frame ≠ some b) : (bare h e l).get? b = some o := hideAll_get _ h1 fun m => by
  refine byC fun nG => ?_
  rcases List.mem_cons.mp m with z | m
  · refine nG ?_
    exact h2 z
  · obtain ⟨env, he, hf⟩ := List.mem_filterMap.mp m
    refine nG ?_
    exact h3 env he hf

theorem Fly.tail {B0 : Heap} {env : Env} {l : List Env} {oe : Obj} {fl : Value} (F : Fly B0 (env :: l) e oe fl h) : Fly B0 l e oe fl h := ⟨F.stay, F.new, F.frames.2.2, F.trc⟩

/-- after the traceback's work -/
theorem near {l l' : List Env} {oe : Obj} {fl : Value} {d : Option Addr} (T : Step NoF ρ0 H0 h0 ρ H h) (S : Sta G ρ H h) (hne : h0.get? e = none) (hbe : G.base.get? e = none) (he : ExAt h BB e d) (fr : ∀ env, env ∈ l → FrameOk G env ρ h)
    (F : Fly (bare h e l) l' e oe fl h') (u : h.UpToSlots h') : Sta G ρ H h' ∧ Step NoF ρ0 H0 h0 ρ H h' := by
  have oute := out_exc S he
  obtain ⟨tp, he'⟩ := id he
  -- an object that is no frame and not the exception stands as it was
  have exact : ∀ b o, h.get? b = some o → b ≠ e → (∀ env, env ∈ l → env.frame ≠ some b) → h'.get? b = some o := fun b o h1 h2 h3 => F.stay b o (bare_get h1 h2 h3)
  have isFr : ∀ b o, h.get? b = some o → (∃ env, env ∈ l ∧ env.frame = some b) → ∃ es n, o.data = .dict es n := fun b o h1 ⟨env, q1, q2⟩ => by
    refine byC fun nG => ?_
    obtain ⟨_, L, o', es, n, a1, _, a3, a4, _⟩ := fr env q1
    rw [q2] at a1; cases a1
    rw [h1] at a3; cases a3
    refine nG ?_
    exact ⟨es, n, a4⟩
  have notFr : ∀ b, ¬ (∃ env, env ∈ l ∧ env.frame = some b) → ∀ env, env ∈ l → env.frame ≠ some b := fun b n env q1 q2 => n ⟨env, q1, q2⟩
  have outFr : ∀ b, (∃ env, env ∈ l ∧ env.frame = some b) → Out ρ b := fun b ⟨env, q1, q2⟩ => by
    refine byC fun nG => ?_
    obtain ⟨_, L, _, _, _, a1, _, _, _, a5⟩ := fr env q1
    rw [q2] at a1; cases a1; refine nG ?_; exact a5
  have baseFr : ∀ b, (∃ env, env ∈ l ∧ env.frame = some b) → G.base.get? b = none := fun b ⟨env, q1, q2⟩ => by
    refine byC fun nG => ?_
    obtain ⟨_, L, _, _, _, a1, a2, _⟩ := fr env q1
    rw [q2] at a1; cases a1; refine nG ?_; exact a2
  have kf : KeepFix h h' := fun a o e1 f => by
    refine byC fun nG => ?_
    by_cases z : a = e
    · subst z; rw [he'] at e1; cases e1
      exfalso
      rcases f.1 with f | f | f <;> cases f
    · by_cases q : ∃ env, env ∈ l ∧ env.frame = some a
      · obtain ⟨es, n, hd⟩ := isFr a o e1 q
        exact absurd hd (f.2.1 es n)
      · refine nG ?_
        exact exact a o e1 z (notFr a q)
  refine ⟨⟨S.len, fun k p o e1 e2 => ?_, S.inj, fun b o e1 => ?_, S.low⟩, ⟨T.pre, fun a o e1 f => kf a o (T.fix a o e1 f) f, fun b o e1 n f => ?_, T.new, fun b o e1 => ?_, T.fresh, T.kin⟩⟩
  · have R := S.rep k p o e1 e2
    have hp := List.mem_of_getElem? e1
    have k2 : ∀ q, h.get? p.2 = some q → h'.get? p.2 = some q := fun q e => exact _ q e (oute p hp) (notFr _ fun z => outFr _ z p hp rfl)
    refine R.keep kf (.refl _) (fun x ex => ?_) k2
    refine byC fun nG => ?_
    rcases R.first with z | ⟨x', hx', fx⟩
    · refine nG ?_; rw [z] at ex ⊢; exact k2 x ex
    · rw [hx'] at ex; cases ex; refine nG ?_; exact kf _ _ hx' fx
  · have hb := S.base b o e1
    exact exact b o hb (fun z => by rw [z, hbe] at e1; cases e1) (notFr b fun z => by rw [baseFr b z] at e1; cases e1)
  · refine byC fun nG => ?_
    obtain ⟨sl, h1, h2⟩ := T.keep b o e1 n f
    have ze : b ≠ e := fun z => by rw [z, hne] at e1; cases e1
    by_cases q : ∃ env, env ∈ l ∧ env.frame = some b
    · obtain ⟨es, nn, hd⟩ := isFr b _ h1 q
      obtain ⟨sl2, h3⟩ := u b _ h1 (fun vs z => by rw [hd] at z; cases z)
      refine nG ?_
      exact ⟨sl2, h3, fun nd => absurd hd (nd es nn)⟩
    · refine nG ?_
      exact ⟨sl, exact b _ h1 ze (notFr b q), h2⟩
  · refine byC fun nG => ?_
    obtain ⟨o', h1⟩ := T.live b o e1
    have ze : b ≠ e := fun z => by rw [z, hne] at e1; cases e1
    by_cases q : ∃ env, env ∈ l ∧ env.frame = some b
    · obtain ⟨es, nn, hd⟩ := isFr b _ h1 q
      obtain ⟨sl2, h3⟩ := u b _ h1 (fun vs z => by rw [hd] at z; cases z)
      refine nG ?_
      exact ⟨_, h3⟩
    · refine nG ?_
      exact ⟨o', exact b _ h1 ze (notFr b q)⟩
end
end Mine
end
/-! Exc95 -/
section
set_option Elab.async false
set_option genSizeOf false
set_option linter.all false
set_option maxRecDepth 100000
open PySem PySem.W PyProof.Rows
namespace Mine

theorem lookIn_ns {h : Heap} {a : Addr} {m : Str → Option Value} {o : Obj} {n : Str} {v : Value} (x : h.Ns a m) (ho : h.get? a = some o) (hv : m n = some v) : lookIn n o = some (some v) := by
  obtain ⟨o', es, ep, e1, e2, _, e4⟩ := x
  rw [ho] at e1; cases e1
  have := e4 n
  rw [hv] at this
  unfold nsFind findBy at this
  unfold lookIn
  rw [e2]
  simp only [← Array.find?_toList] at this ⊢
  cases q : List.find? (fun e => e.key.isStr n) es.toList with
  | none => rw [q] at this; cases this
  | some e => rw [q] at this; simp at this; simp [this]

section
variable {G : Gx} {fa : Nat → Addr} {init : Nat → Nat} {gl : List V} {BB CE fB fC : Addr} {A : Around} {E : Value → Shared → Prop} {s : Shared} {ρ ρ0 : Rho} {H H0 : Hp} {h0 : Heap}

theorem handle_bad (K : BadOk G BB CE fB fC) (C : ClsOk G fa init) {env : Env} {B : Heap} {l : List Env} {e dx : Addr} {oe : Obj} {fl : Value} {m mA : Str → Option Value} {i : Int} {t : Tok}
    {pb pu pa pf2 pr2 ph : Pos} {Q : Flow → Shared → Prop}
    (hk : env.scope.kind = .function) (hl : env.kindOf "fault" = some .local) (hbb : env.kindOf "BadBook" = some .globalImplicit) (hgl : env.globals = mainGlobals)
    (own : Out ρ env.locals) (low : G.base.get? env.locals = none)
    (hcl : oe.cls = .ref BB) (hd : oe.dict = some dx) (F : Fly B l e oe fl s.heap) (hm : s.heap.Ns env.locals m) (hA : s.heap.Ns dx mA) (hat : mA "at" = some (.int i t))
    (nr : ∀ h', Fly B l e oe .none h' → s.heap.UpToSlots h' → Sta G ρ H h' ∧ Step NoF ρ0 H0 h0 ρ H h') (nr0 : Sta G ρ H s.heap)
    (q : ∀ h' tk t', Sta G ρ H h' → (∀ {FF : Addr → Prop}, FF env.locals → Step FF ρ0 H0 h0 ρ H h') → Q (.ret (.int (-i) t')) { s with heap := h', toks := tk }) :
    wpAny (model G.prog G.w) A (handleBy (.ref e) env [.ExceptHandler (some (.Name "BadBook" pb)) (some "fault") [.Return (some (.UnaryOp .USub (.Attribute (.Name "fault" pf2) "at" pa) pu)) pr2] ph]) Q E s := by
  refine byC fun nG => ?_
  obtain ⟨nm, qq, N, bs, hdct, sn, sub, ab, col, dd, k0, k1, k2, k3, k5, hcls⟩ := K.cls
  obtain ⟨mg, mb, g1, g2, g3, _, _, _⟩ := K.names
  obtain ⟨vs, T, oT, ts, he, _⟩ := id F.trc
  refine nG ?_
  refine wpAny_handleBy_cons ?_ (by intro z; cases z)
  refine codeAny_handlers_test (Calls.Name_function_global hk hbb (Calls.loadGlobal_global (mg := mg) (by rw [hgl]; exact nr0.ns g1) g3 ?_) (by decide))
  refine byC fun nG => ?_
  obtain ⟨hp, gg, dr, tk, os⟩ := s
  refine nG ?_
  refine wpAny_excMatches_sub_self (nr0.inK C _ _ hcls) he hcl (has_base CE) ?_
  rw [if_pos rfl]
  refine codeAny_handlers_suite_as (flight_none (s := ⟨hp, gg, dr, tk, os⟩) F fun h1 F1 u1 => ?_)
  refine byC fun nG => ?_
  obtain ⟨S1, T1⟩ := nr h1 F1 u1
  have hm1 : h1.Ns env.locals m := u1.ns hm
  have hA1 : h1.Ns dx mA := u1.ns hA
  obtain ⟨vs1, _, _, _, he1, _⟩ := id F1.trc
  obtain ⟨oL, hL⟩ := ns_there hm1
  have nfL := not_fix_dict hL hm1
  refine nG ?_
  refine wpAny_storeName_local (s := ⟨h1, gg, dr, tk, os⟩) (m := m) hl hm1 (fun h2 hn2 hs2 => ?_) (by rw [hk]; rfl)
  refine byC fun nG => ?_
  obtain ⟨oL2, hL2⟩ := ns_there hn2
  obtain ⟨S2, T2⟩ := step_same (s := ⟨h1, gg, dr, tk, os⟩) (F := fun a => a = env.locals) S1 hs2 low own rfl hL hL2 nfL
  have neL : e ≠ env.locals := fun z => by
    rw [z] at he1
    refine byC fun nG => ?_
    obtain ⟨o', es, ep, e1, e2, _⟩ := hm1
    rw [he1] at e1; cases e1; cases e2
  have he2 := (hs2.2 e neL).trans he1
  obtain ⟨mA2, hA2, hat2⟩ : ∃ mA2, h2.Ns dx mA2 ∧ mA2 "at" = some (.int i t) := by
    refine byC fun nG => ?_
    by_cases z : dx = env.locals
    · subst z
      refine nG ?_
      refine ⟨_, hn2, ?_⟩
      rw [if_neg (by decide), ← hA1.agree hm1]; exact hat
    · refine nG ?_
      exact ⟨mA, hA1.sameBut hs2 z, hat⟩
  obtain ⟨od, hod⟩ := ns_there hA2
  have X2 := S2.inK C
  have I : PySem.W.InstAt h2 e { oe with data := .fields vs1 } BB (some od) := ⟨he2, hcl, rfl, by show (match oe.dict, some od with | some dx, some o => h2.get? dx = some o | none, none => True | _, _ => False); rw [hd]; exact hod⟩
  obtain ⟨cd, c1, c2, c3⟩ := K.mro
  refine nG ?_
  refine wpAny_execs_cons (wpAny_Return_some (wpAny_UnaryOp (attr_any (by rfl) (wpAny_Name (wpAny_loadName_local hk hl hn2 (by rw [if_pos rfl]) ?_) (by decide)))))
  refine exc_get (K := G.K) X2 I K.ga K.gt c1 c2 c3 (findObj_own K.hd K.st.at_ (by rfl) (lookIn_ns hA2 hod hat2)) (by rfl) (P.neg_int ?_)
  refine wpAny_nameGoes hl hn2 (by rw [hk]; rfl) fun h3 m3 hn3 hs3 => ?_
  refine byC fun nG => ?_
  obtain ⟨oL3, hL3⟩ := ns_there hn3
  obtain ⟨S3, T3⟩ := step_same (s := ⟨h2, gg, dr, tk, os⟩) (F := fun a => a = env.locals) S2 hs3 low own rfl hL2 hL3 (not_fix_dict hL2 hn2)
  refine nG ?_
  exact q h3 _ _ S3 fun {FF} hF => (T1.ofNo.trans ((T2.trans T3).narrow fun b f => .inl (f ▸ hF)))
end
end Mine
end
/-! Exc10 -/
section
set_option Elab.async false
set_option genSizeOf false
set_option linter.all false
set_option maxRecDepth 100000
open PySem PySem.W PyProof.Rows
namespace Mine

/-- `try: return book_move(geo, move)` and what is done about BadBook -/
structure ToldSh (K : Frag) (a : Addr) (fn : Fn) (nm : List Str) (v : Nat) : Prop where
  flags : (fnIn K a).map (fdH K fn nm v) = some true
  body : ∃ f p1 p2 pc pr p3 p4 p5 pu pr2 ph pt a1 a2, (fnIn K a).map (·.body) = some (.stmts [.Try [.Return (some (.Call (.Name "book_move" f) [.Name a1 p1, .Name a2 p2] [] pc)) pr] [.ExceptHandler (some (.Name "BadBook" p3)) (some "fault") [.Return (some (.UnaryOp .USub (.Attribute (.Name "fault" p4) "at" p5) pu)) pr2] ph] [] [] pt]) ∧
    (fnIn K a).map (fun fd => globB ⟨fd.scope, nm, List.range v⟩ "book_move" && mL ⟨fd.scope, nm, List.range v⟩ [.loc 0, .loc 1] [.Name a1 p1, .Name a2 p2] && globB ⟨fd.scope, nm, List.range v⟩ "BadBook" && fd.scope.names.lookup ("fault" : Str) == some .local) = some true

section
variable {G : Gx} {fa : Nat → Addr} {init : Nat → Nat} {d : Nat} {cf0 cf1 : CF} {gl : List V} {BB CE fB fC : Addr} {A : Around} {s : Shared} {ρ : Rho} {H : Hp}

theorem gen_q {M : Model} {A : Around} {t : Sem Flow} {Q : Flow → Shared → Prop} {E : Value → Shared → Prop} {s : Shared} {R : Result → Shared → Prop} (h : ∀ x s', R (.ok (.ret x)) s' → Q (.ret x) s')
    (k : ∀ Q' E', (∀ x s', R (.ok (.ret x)) s' → Q' (.ret x) s') → wpAny M A t Q' E' s) : wpAny M A t Q E s := k Q E h
theorem told_core (B0 : Amb G fa init gl d cf0) (B1 : Amb G fa init gl (d + 1) cf1) (Kb : BadOk G BB CE fB fC)
    {fn : Fn} {nm : List Str} {v : Nat} (K : ToldSh G.K (fa 40) fn nm v)
    {fn14 : Fn} {nm14 : List Str} {v14 : Nat} {o14 : Obj} {fd14 : FuncData} {body14 : List Stmt} (F14 : FnOk G (fa 14) fn14 nm14 v14 true o14 fd14 body14)
    (h14 : ∀ args H, cf1 14 args H = if Nat.beq args.length fn14.np = true then endOf (evB ⟨cf0, gl, init⟩ fn14.body (args.map some ++ List.replicate (fn14.ns - fn14.np) none) H) else none)
    {args : List V} {xs : List Value} {w : V} {σ' : Lo} {H' : Hp} {R : Result → Shared → Prop} (hl : args.length = fn.np)
    (hv : evS ⟨cf1, gl, init⟩ (.tryRet 14 [.loc 0, .loc 1]) (args.map some ++ List.replicate (fn.ns - fn.np) none) H = some (.ret w, σ', H'))
    (S : Sta G ρ H s.heap) (ok : Ok G (5 * (d + 1 + 1)) (20 * (d + 1 + 1)) A ρ s.heap) (ra : RepL s.heap ρ args xs)
    (q : ∀ ρ' h' tk x, Sta G ρ' H' h' → Step NoF ρ H s.heap ρ' H' h' → RepV h' ρ' w x → R (.ok (.ret x)) { s with heap := h', toks := tk }) :
    codeAny (model G.prog G.w) A (.call (.ref (fa 40)) ⟨xs, []⟩) R s := by
  refine byC fun nG => ?_
  obtain ⟨f, p1, p2, pc, pr, pb, pf2, pa, pu, pr2, ph, pt, a1, a2, hb, hk⟩ := K.body
  obtain ⟨fd, hfd, hfl⟩ := Option.map_eq_some_iff.mp K.flags
  rw [hfd] at hb hk
  obtain ⟨o, T⟩ := fnSh_of hfd hfl (Option.some.inj hb)
  have hk := Option.some.inj hk
  rw [Bool.and_eq_true, Bool.and_eq_true, Bool.and_eq_true] at hk
  obtain ⟨⟨⟨e2, hm⟩, e6⟩, e10⟩ := hk
  have e10 := beq_iff_eq.mp e10
  clear hb hfl K
  refine nG ?_
  refine enter_fn B1 T hl S ok ra fun env outer h₁ tk₁ hsc hfr fr1 hframes nonef T1 N1 => ?_
  refine gen_q (R := R) (fun q_ q_ h => h) fun Q' E' hq => ?_
  refine byC fun nG => ?_
  refine bind_in hv fun a h1 hv_ => ?_; clear hv; rename _ = _ => hv
  obtain ⟨mg, mb, g1, g2, g3, _, _, _⟩ := B1.Ge.ns
  obtain ⟨n1, n2⟩ := g3 14 "book_move" (by decide) (by rfl)
  refine nG ?_
  refine wpAny_execs_cons (wpAny_Try_except ?_)
  refine wpAny_execs_cons (wpAny_Return_some (wpAny_Call_NameR (name_glob N1.now e2 g1 n1 ?_)))
  refine callWith_of (P := G.K.In) (by rw [mL_plain hm]; rfl) (keeps_K n2) (args_of hm (evL_snd (sndL B1 _ _ _ hm) h1 N1.now fun ρ2 hp2 tk2 ys S2 T2 r2 => ⟨S2.inK B1.C, wpAny_call ?_⟩))
  dsimp only at hv
  rw [h14] at hv
  by_cases hz : Nat.beq a.1.length fn14.np = true
  rotate_left
  · rw [if_neg hz] at hv; cases hv
  rw [if_pos hz] at hv
  refine byC fun nG => ?_
  cases hr : endOf (evB ⟨cf0, gl, init⟩ fn14.body (a.1.map some ++ List.replicate (fn14.ns - fn14.np) none) a.2) with
  | none => rw [hr] at hv; cases hv
  | some rr =>
    obtain ⟨cr, H3⟩ := rr
    rw [hr] at hv
    refine nG ?_
    refine call_core (s := { s with heap := hp2, toks := tk2 }) B0 (raise_snd B0 Kb) F14 (Nat.eq_of_beq_eq_true hz) hr S2 ((N1.now.ok.step T2).less (by omega) (by omega)) r2 fun ρ3 hp3 tk3 S3 T3 => ?_
    refine byC fun nG => ?_
    cases cr with
    | ret w' =>
      cases hv
      refine nG ?_
      exact fun x rx => hq _ _ (q ρ3 hp3 tk3 x S3 ((T1.trans T2).trans T3) rx)
    | exc w' =>
      refine nG ?_
      intro envB outerB e' esc efr efs ffs efresh eX
      refine byC fun nG => ?_
      obtain ⟨i, e, dx, mA, t, rfl, rfl, hbe, hex, hns, hat⟩ := eX
      cases hv
      rw [hframes] at efs; cases efs
      have T03 : Step NoF ρ H s.heap ρ3 H3 hp3 := (T1.trans T2).trans T3
      have F3 := (N1.now.fm.step T2).step T3
      obtain ⟨m, hm, _⟩ := F3.slots
      have hne : s.heap.get? e = none := (T1.trans T2).none (efresh e rfl)
      obtain ⟨tp, hex'⟩ := id hex
      have hfr2 : ((A.deeper env).deeper envB).frames = some (envB :: env :: outer) := Around.frames_deeper hframes
      have hff : hp3.FunFrames (bare hp3 e (envB :: env :: outer)) (envB :: env :: outer) := funFrames_of ffs (bare_frame hp3 e _)
      refine nG ?_
      unfold leaving
      refine wpAny_bind (note_first (oe := ⟨.ref BB, some dx, .fields #[.ref tp, .none, .none, .none, .bool false, .none], #[]⟩) (vs := #[.ref tp, .none, .none, .none, .bool false, .none]) hfr2 hff efr hex' (bare_stays _ _ _) (bare_e _ _ _) (by rfl) fun h4 F4 u4 => flight_none F4 fun h5 F5 u5 => ?_)
      refine note_next hframes hfr F5.tail fun h6 F6 u6 => flight_none F6 fun h7 F7 u7 => ?_
      have u37 : hp3.UpToSlots h7 := ((u4.trans u5).trans u6).trans u7
      have nr : ∀ h', Fly (bare hp3 e (envB :: env :: outer)) (env :: outer) e ⟨.ref BB, some dx, .fields #[.ref tp, .none, .none, .none, .bool false, .none], #[]⟩ .none h' → hp3.UpToSlots h' → Sta G ρ3 H3 h' ∧ Step NoF ρ H s.heap ρ3 H3 h' := fun h' F u => near T03 S3 hne hbe hex ffs F u
      refine handle_bad (s := { s with heap := h7, toks := tk3 }) (oe := ⟨.ref BB, some dx, .fields #[.ref tp, .none, .none, .none, .bool false, .none], #[]⟩) (dx := dx) (mA := mA) Kb B1.C F3.knd ((F3.kof _).trans e10) ((F3.kof _).trans (globB_of e6).1) F3.glob F3.own F3.low rfl rfl F7 (u37.ns hm) (u37.ns hns.ns) hat (fun h' F u => nr h' F (u37.trans u)) (nr h7 F7 u37).1 fun h' tk t' S' T' => ?_
      exact hq _ _ (q ρ3 h' tk _ S' ((T' (FF := FA env) (.inl rfl)).narrow fun b f => .inr (nonef b f)) ⟨_, rfl⟩)
end
end Mine
end
/-! All1 -/
section
set_option Elab.async false
set_option genSizeOf false
set_option linter.all false
set_option maxRecDepth 100000
open PySem PySem.W PyProof.Rows
namespace Mine

structure TabOk (G : Gx) (fa : Nat → Addr) : Prop where
  fns : ∀ f, f < 46 → f ≠ 40 → fnB G.K (fa f) (fnTab.getD f default) (nmTab.getD f []) (visTab.getD f 0) (Nat.beq f 14) = true
  told : ToldSh G.K (fa 40) (fnTab.getD 40 default) (nmTab.getD 40 []) (visTab.getD 40 0)

theorem fn14 : fnTab[14]? = some (fnTab.getD 14 default) := rfl
theorem fn40 : fnTab[40]? = some (fnTab.getD 40 default) := rfl
theorem bd40 : (fnTab.getD 40 default).body = [.tryRet 14 [.loc 0, .loc 1]] := rfl
theorem fnLen : fnTab.length = 46 := rfl

theorem tryRet_ret {c : Cx} {f : Nat} {args : List X} {σ σ' : Lo} {H H' : Hp} {fl : R} (h : evS c (.tryRet f args) σ H = some (fl, σ', H')) : ∃ v, fl = .ret v := by
  refine bind_in h fun a q_ h1 => bind_in h1 fun p q_ h2 => ?_
  obtain ⟨p1, H1⟩ := p
  cases p1 with
  | ret v => exact some_in h2 fun e => ⟨v, (congrArg Prod.fst e).symm⟩
  | exc v => exact vInt_in h2 fun i q_ h3 => some_in h3 fun e => ⟨_, (congrArg Prod.fst e).symm⟩

section
variable {G : Gx} {fa : Nat → Addr} {BB CE fB fC : Addr}

theorem snd_step (C : ClsOk G fa initTab) (Ge : GeOk G fa glTab) (an : G.attrN = attrNames) (Kb : BadOk G BB CE fB fC) (T : TabOk G fa) {d : Nat} (B : Amb G fa initTab glTab d (run fnTab glTab initTab d))
    (low : d = 0 ∨ ∃ k, d = k + 1 ∧ SndF G fa k (run fnTab glTab initTab k)) : SndF G fa (d + 1) (run fnTab glTab initTab (d + 1)) := by
  intro A f args H v H' ρ s xs R hv S ok ra q
  refine byC fun nG => bind_in hv fun fn hf hv1 => grd_in hv1 fun hz hv2 => ?_
  clear hv hv1; rename _ = _ => hv
  have hlt : f < 46 := fnLen ▸ (List.getElem?_eq_some_iff.mp hf).1
  have hfn : fnTab.getD f default = fn := by rw [List.getD_eq_getElem?_getD, hf]; rfl
  have hl := Nat.eq_of_beq_eq_true hz
  by_cases h40 : f = 40
  · subst h40
    have efn : fn = fnTab.getD 40 default := hfn.symm
    subst efn
    rw [bd40] at hv
    cases hs : evS ⟨run fnTab glTab initTab d, glTab, initTab⟩ (.tryRet 14 [.loc 0, .loc 1]) (args.map some ++ List.replicate ((fnTab.getD 40 default).ns - (fnTab.getD 40 default).np) none) H with
    | none => rw [evB, hs] at hv; cases hv
    | some r3 =>
      obtain ⟨fl, σ', H2⟩ := r3
      obtain ⟨w, rfl⟩ := tryRet_ret hs
      rw [evB, hs] at hv
      cases hv
      rcases low with rfl | ⟨k, rfl, low⟩
      · exfalso
        refine bind_in hs fun a q_ hs_ => ?_; clear hs; rename _ = _ => hs
        cases hs
      · obtain ⟨o14, fd14, body14, K14⟩ := fnB_of (T.fns 14 (by decide) (by decide))
        refine nG ?_
        refine told_core ⟨C, Ge, an, low⟩ B Kb T.told K14 (fun args H => ?_) hl hs S ok ra q
        show grd (Nat.beq args.length (fnTab.getD 14 default).np) _ = _
        cases hq : Nat.beq args.length (fnTab.getD 14 default).np with
        | true => rfl
        | false => rfl
  · obtain ⟨o, fd, body, K⟩ := fnB_of (T.fns f hlt h40)
    rw [hfn] at K
    refine nG ?_
    exact call_core B (raise_snd B Kb) K hl hv S ok ra fun ρ' h' tk S' T' x rx => q ρ' h' tk x S' T' rx

theorem snd_all (C : ClsOk G fa initTab) (Ge : GeOk G fa glTab) (an : G.attrN = attrNames) (Kb : BadOk G BB CE fB fC) (T : TabOk G fa) : ∀ d, SndF G fa d (run fnTab glTab initTab d) ∧ SndF G fa (d + 1) (run fnTab glTab initTab (d + 1)) := by
  have z : SndF G fa 0 (run fnTab glTab initTab 0) := fun hv => by cases hv
  intro d
  induction d with
  | zero => exact ⟨z, snd_step C Ge an Kb T ⟨C, Ge, an, z⟩ (.inl rfl)⟩
  | succ d ih => exact ⟨ih.2, snd_step C Ge an Kb T ⟨C, Ge, an, ih.2⟩ (.inr ⟨d, rfl, ih.1⟩)⟩
end
end Mine
end
/-! KF -/
section
set_option Elab.async false
set_option genSizeOf false
set_option linter.all false
set_option maxRecDepth 100000
set_option maxHeartbeats 4000000
open PySem PySem.W PyProof.Rows
namespace Mine
noncomputable def faTab : List Nat := [79, 86, 93, 100, 107, 114, 121, 128, 135, 142, 149, 156, 163, 170, 177, 184, 191, 198, 205, 212, 219, 226, 231, 238, 268, 275, 282, 289, 296, 303, 310, 317, 345, 373, 380, 387, 394, 401, 408, 413, 420, 425, 430, 254, 331, 359]
noncomputable def clsTab : List Nat := [257, 334, 362]
noncomputable def faF (i : Nat) : Addr := faTab.getD i 0
noncomputable def clsF (i : Nat) : Addr := clsTab.getD i 0
noncomputable def isNo : Option (Option Value) → Bool | some none => true | _ => false
theorem isNo_of {x : Option (Option Value)} (h : isNo x = true) : x = some none := by unfold isNo at h; split at h <;> first | rfl | cases h
noncomputable def isRefTo (b : Addr) : Option (Option Value) → Bool | some (some (.ref a)) => Nat.beq a b | _ => false
theorem isRefTo_of {x : Option (Option Value)} {b : Addr} (h : isRefTo b x = true) : x = some (some (.ref b)) := by
  refine byC fun nG => ?_
  unfold isRefTo at h; split at h
  · refine nG ?_
    rw [Nat.eq_of_beq_eq_true h]
  · cases h
noncomputable def tabB (K : Frag) : Bool := (List.range 46).all fun f => Nat.beq f 40 || fnB K (faF f) (fnTab.getD f default) (nmTab.getD f []) (visTab.getD f 0) (Nat.beq f 14)
noncomputable def plainB (K : Frag) : Bool := (List.range 3).all fun c => attrNames.all fun n => plainGet K (clsF c) n && isNo (findIn K (.ref (clsF c)) n)
noncomputable def clsB (K : Frag) : Bool := (List.range 3).all fun c => hasDictIn K (clsF c) && plainOver K (clsF c) && makesIn K (clsF c) && keepIn K (.ref (clsF c)) && isRefTo (faF (initTab c)) (findIn K (.ref (clsF c)) "__init__")
theorem nsIn_get {K : Frag} {h : Heap} {a : Addr} {m : Str → Option Value} {n : Str} {v : Option Value} (X : K.In h) (N : h.Ns a m) (e : nsIn K a n = some v) : m n = v := by
  unfold nsIn at e
  split at e; rotate_left; (· cases e)
  rename_i oc od es ep sl hk
  refine byC fun nG => ?_
  obtain ⟨o', es', ep', e1, e2, e3, e4⟩ := N
  rw [X _ _ hk] at e1; cases e1; cases e2
  have := e4 n
  unfold nsFind findBy at this
  rw [← Array.find?_toList] at this
  split at e
  · rename_i en he; rw [he] at this; cases e; refine nG ?_; exact this.symm
  · rename_i he; rw [he] at this; split at e <;> cases e; refine nG ?_; exact this.symm

mutual
noncomputable def repB (K : Frag) : V → Value → Bool
  | .none, x => (match x with | .none => true | _ => false)
  | .bool b, x => (match x with | .bool c => b == c | _ => false)
  | .int i, x => (match x with | .int j _ => i == j | _ => false)
  | .str s, x => (match x with | .str t _ => t == strV s | _ => false)
  | .tup l, x => (match x with
    | .ref a => (match K.lookup a with
      | some ⟨.type T, _, .seq items _, _⟩ => T == "tuple" && repLB K l items.toList
      | _ => false)
    | _ => false)
  | .rng _ _ _, _ => false
  | .obj _, _ => false
noncomputable def repLB (K : Frag) : List V → List Value → Bool
  | [], xs => xs.isEmpty
  | v :: r, xs => (match xs with | x :: t => repB K v x && repLB K r t | [] => false)
end
mutual
theorem repB_of {K : Frag} {h : Heap} (X : K.In h) : ∀ (v : V) (x : Value), repB K v x = true → RepV h [] v x
  | .none, x, e => by unfold repB at e; split at e <;> first | (cases e; done) | rfl
  | .bool b, x, e => by
    unfold repB at e; split at e <;> first | (cases e; done) | skip
    rw [beq_iff_eq] at e; rw [RepV, e]
  | .int i, x, e => by
    unfold repB at e; split at e <;> first | (cases e; done) | skip
    rw [beq_iff_eq] at e; rw [RepV, e]; exact ⟨_, rfl⟩
  | .str s, x, e => by
    unfold repB at e; split at e <;> first | (cases e; done) | skip
    rw [beq_iff_eq] at e; rw [RepV, e]; exact ⟨_, rfl⟩
  | .tup l, x, e => by
    refine byC fun nG => ?_
    unfold repB at e; split at e <;> first | (cases e; done) | skip
    rename_i a
    split at e <;> first | (cases e; done) | skip
    rename_i T dc items nn sl hk
    rw [Bool.and_eq_true, beq_iff_eq] at e
    obtain ⟨rfl, e⟩ := e
    refine nG ?_
    rw [RepV]
    exact ⟨a, items.toList, rfl, ⟨_, X _ _ hk, rfl, nn, rfl⟩, repLB_of X l _ e⟩
  | .rng _ _ _, _, e => by cases e
  | .obj _, _, e => by cases e
theorem repLB_of {K : Frag} {h : Heap} (X : K.In h) : ∀ (l : List V) (xs : List Value), repLB K l xs = true → RepL h [] l xs
  | [], xs, e => by unfold repLB at e; rw [List.isEmpty_iff] at e; rw [e]; rfl
  | v :: r, xs, e => by
    unfold repLB at e; split at e <;> first | (cases e; done) | skip
    rw [Bool.and_eq_true] at e
    rw [RepL]
    exact ⟨_, _, rfl, repB_of X v _ e.1, repLB_of X r _ e.2⟩
end
noncomputable def fnNsB (K : Frag) : Bool := (List.range 43).all fun f => isRefTo (faF f) (nsIn K mainGlobals (fnNames.getD f "")) && keepIn K (.ref (faF f))
noncomputable def clsNsB (K : Frag) : Bool := (List.range 3).all fun c => isRefTo (clsF c) (nsIn K mainGlobals (clsNames.getD c ""))
noncomputable def glNsB (K : Frag) : Bool := (List.range 19).all fun g => match nsIn K mainGlobals (glNames.getD g "") with
  | some (some x) => repB K (glTab.getD g default) x
  | _ => false
theorem k_boot (b : Bi) : bootBuiltins (biName b) = some (biPy b) := by cases b <;> kernel_rfl
theorem bi_notname (b : Bi) : biName b ≠ "__name__" := by cases b <;> decide
noncomputable def isBi (b : String) : Option (Option Value) → Bool | some (some (.builtin a)) => a == b | _ => false
theorem isBi_of {x : Option (Option Value)} {b : String} (h : isBi b x = true) : x = some (some (.builtin b)) := by
  refine byC fun nG => ?_
  unfold isBi at h; split at h
  · refine nG ?_
    rw [beq_iff_eq.mp h]
  · cases h
noncomputable def isTy (b : String) : Option Value → Bool | some (.type a) => a == b | _ => false
theorem isTy_of {x : Option Value} {b : String} (h : isTy b x = true) : x = some (.type b) := by
  refine byC fun nG => ?_
  unfold isTy at h; split at h
  · refine nG ?_
    rw [beq_iff_eq.mp h]
  · cases h
theorem refuse70 (self : Value) : refuseLoop self "__setattr__" [Value.ref 70, .ref 31, .type "Exception", .type "BaseException", .type "object"] = pure () := by kernel_rfl
theorem k_n4 : bootBuiltins "Exception" = some (.type "Exception") := by kernel_rfl
/-- what is asked of the written heap, all of it evaluated by the kernel -/
structure KF (K : Frag) : Prop where
  tab : tabB K = true
  told : ToldSh K (faF 40) (fnTab.getD 40 default) (nmTab.getD 40 []) (visTab.getD 40 0)
  plain : plainB K = true
  cls : clsB K = true
  store : ((List.range 3).all fun c => isBi "object.__setattr__" (findIn K (.ref (clsF c)) "__setattr__") && isTy "function" (typeIn K (.ref (faF (initTab c))))) = true
  fnNs : fnNsB K = true
  clsNs : clsNsB K = true
  glNs : glNsB K = true
  bi : ∀ b, nsIn K mainGlobals (biName b) = some none
  exc : ∃ nm q N bs hdct sn sub ab col dd k0 k1 k2 k3 k5, K.lookup 70 = some (excClassObj nm q 70 N bs [.ref 31, .type "Exception", .type "BaseException", .type "object"] hdct sn sub ab col dd k0 k1 k2 k3 k5 "Exception.__new__")
  ini : findIn K (.ref 70) "__init__" = some (some (.ref 67)) ∧ typeIn K (.ref 67) = some (.type "function")
  sa : findIn K (.ref 70) "__setattr__" = some (some (.builtin "object.__setattr__"))
  at_ : findIn K (.ref 70) "at" = some none
  text : findIn K (.ref 70) "text" = some none
  cd70 : ((clsIn K 70).map fun cd => (cd.mro, cd.hasDict)) = some ([Value.ref 70, .ref 31, .type "Exception", .type "BaseException", .type "object"], true)
  sup1 : specialIn K (.ref 31) "__getattribute__" = some (some (.builtin "type.__getattribute__"))
  sup2 : readsIn K 31 (.type "type") = true
  sup3 : findCls K (.ref 31) (.type "type") "__init__" = some (.val (.ref 28))
  sup4 : keepIn K (.ref 28) = true
  sup5 : findCls K (.type "Exception") (.type "type") "__init__" = some (.val (.builtin "Exception.__init__"))
  iB : IniSh K 67 "ChessError" "at" "at"
  iC : IniSh K 28 "Exception" "text" "text"
  keep : keepIn K (.ref 70) = true
  ga : findIn K (.ref 70) "__getattribute__" = some (some (.builtin "BaseException.__getattribute__"))
  gt : findIn K (.ref 70) "__getattr__" = some none
  hd : hasDictIn K 70 = true
  n1 : nsIn K mainGlobals "BadBook" = some (some (.ref 70))
  n2 : nsIn K mainGlobals "ChessError" = some (some (.ref 31))
  n3 : nsIn K mainGlobals "Exception" = some none
theorem KF.cd {K : Frag} (F : KF K) : ∃ cd, clsIn K 70 = some cd ∧ cd.mro = [Value.ref 70, .ref 31, .type "Exception", .type "BaseException", .type "object"] ∧ cd.hasDict = true := by
  have h1 := F.cd70
  cases h : clsIn K 70 with
  | none => rw [h] at h1; cases h1
  | some cd => rw [h] at h1; have := Option.some.inj h1; exact ⟨cd, rfl, congrArg Prod.fst this, congrArg Prod.snd this⟩
theorem KF.st {K : Frag} (F : KF K) : ExSt K 70 := by
  refine byC fun nG => ?_
  obtain ⟨cd, h1, h2, h3⟩ := F.cd
  refine nG ?_
  exact ⟨F.sa, ⟨cd, h1, by rw [h2]; rfl, by rw [h2]; simp, fun self => by rw [h2]; exact refuse70 self, h3⟩, F.at_, F.text⟩
theorem KF.mro {K : Frag} (F : KF K) : ∃ cd, clsIn K 70 = some cd ∧ cd.mro.isEmpty = false ∧ cd.mro.contains (.type "BaseException") = true := by
  refine byC fun nG => ?_
  obtain ⟨cd, h1, h2, h3⟩ := F.cd
  refine nG ?_
  exact ⟨cd, h1, by rw [h2]; rfl, by rw [h2]; simp⟩
end Mine
end
/-! Enter -/
section
set_option Elab.async false
set_option genSizeOf false
set_option linter.all false
set_option maxRecDepth 100000
set_option maxHeartbeats 4000000
open PySem PySem.W PyProof.Rows
namespace Mine
theorem items_int {R : WRecords} : ∀ {xs : List WData}, WShape.hasItems R xs .int = true → ∃ ns : List Int, xs = ns.map .int
  | [], _ => ⟨[], rfl⟩
  | d :: r, h => by
    have h' : WShape.has R d .int = true ∧ WShape.hasItems R r .int = true := by simpa [WShape.hasItems] using h
    refine byC fun nG => ?_
    obtain ⟨i, rfl⟩ := hasW_int h'.1
    obtain ⟨ns, rfl⟩ := items_int h'.2
    refine nG ?_
    exact ⟨i :: ns, rfl⟩
theorem ints_repL {R : WRecords} {cl : Str → Option Addr} {h : Heap} {ρ : Rho} : ∀ {ns : List Int} {vs : List Value} {as : List Addr}, ReadsAllW R cl h vs (ns.map .int) as → RepL h ρ (ns.map .int) vs
  | [], _, _, r => by cases r; rfl
  | i :: ns, _, _, r => by
    refine byC fun nG => ?_
    cases r with
    | cons r1 r2 =>
      cases r1 with
      | int _ t => refine nG ?_; exact ⟨_, _, rfl, ⟨t, rfl⟩, ints_repL r2⟩
theorem few_of {ns : List Int} (h : (Challenge.rw_pf0101_01.row.toRowW.pre).holds Challenge.rw_pf0101_01.row.toRowW.records { args := [.list (ns.map .int)] } = true) : ns.length ≤ 63 := by
  by_cases q : ns.length ≤ 63
  · exact q
  · exfalso
    revert h
    show ¬ (WTm.holds [] (.and (.not (.lt (.lit (.int 63)) (.len (.arg 0)))) (.lit (.bool true))) { args := [.list (ns.map .int)] } = true)
    have hl : less? (.int 63) (.int (ns.length : Int)) = some true := by
      show some (decide ((63 : Int) < (ns.length : Int))) = some true
      rw [decide_eq_true (by omega)]
    simp [WTm.holds, WTm.value, hl]

theorem hpost (ns : List Int) : Challenge.rw_pf0101_01.row.claim.post [WData.list (List.map WData.int ns)] (WData.bool true) [WData.list (List.map WData.int ns)] = true := by
  show (WShape.has [] (.bool true) .bool && WTm.holds [] (.eq .res (.lit (.bool true))) _) = true
  have e : same (.bool true) (.bool true) = true := by decide +kernel
  simp [WShape.has, WShape.arms, WTm.holds, WTm.value, e]
section
variable {w : World} {base : Heap} {K : Frag}
noncomputable abbrev G0 (w : World) (base : Heap) (K : Frag) : Gx := ⟨Challenge.rw_pf0101_01.row.toRowW.prog, w, K, base, clsF, attrNames⟩

theorem attr_inj : ∀ (a b : Nat) n, attrNames[a]? = some n → attrNames[b]? = some n → a = b := by
  have nd : attrNames.Nodup := nodupB_of (by decide +kernel)
  intro a b n h1 h2
  exact (List.getElem?_inj (List.getElem?_eq_some_iff.mp h1).1 nd).mp (h1.trans h2.symm)
theorem mem_attr {a : Nat} {n : Str} (h : attrNames[a]? = some n) : n ∈ attrNames := List.mem_of_getElem? h

theorem clsOk (F : KF K) (X : K.In base) : ClsOk (G0 w base K) faF initTab := by
  have p := F.plain
  have c := F.cls
  have st := F.store
  unfold plainB at p
  unfold clsB at c
  simp only [List.all_eq_true, List.mem_range, Bool.and_eq_true] at p c st
  exact ⟨attr_inj, fun c a n hc hn => ⟨(p c hc n (mem_attr hn)).1, isNo_of (p c hc n (mem_attr hn)).2⟩, fun k hk => (c k hk).1.1.1.1, fun k hk => (c k hk).1.1.1.2, fun k hk => isBi_of (st k hk).1, fun k hk => (c k hk).1.1.2,
    fun k hk => ⟨isRefTo_of (c k hk).2, isTy_of (st k hk).2⟩, fun k hk => (c k hk).1.2, X⟩

theorem geOk {mg mb : Str → Option Value} (F : KF K) (X : K.In base) (g : base.Ns mainGlobals mg) (b : base.Ns builtinsNs mb) (nl : base.NoLimit) (bt : ∀ x : Str, x ≠ "__name__" → mb x = bootBuiltins x) : GeOk (G0 w base K) faF glTab := by
  have p := F.fnNs
  have c := F.clsNs
  have q := F.glNs
  unfold fnNsB at p
  unfold clsNsB at c
  unfold glNsB at q
  simp only [List.all_eq_true, List.mem_range, Bool.and_eq_true] at p c q
  refine ⟨nl, mg, mb, g, b, fun f n hf hn => ?_, fun k n hk hn => ?_, fun k n hn v hv => ?_, fun z => ⟨nsIn_get X g (F.bi z), (bt _ (bi_notname z)).trans (k_boot z)⟩⟩
  · have e : fnNames.getD f "" = n := by rw [List.getD_eq_getElem?_getD, hn]; rfl
    have := p f hf
    rw [e] at this
    exact ⟨nsIn_get X g (isRefTo_of this.1), this.2⟩
  · have e : clsNames.getD k "" = n := by rw [List.getD_eq_getElem?_getD, hn]; rfl
    have := c k hk
    rw [e] at this
    exact nsIn_get X g (isRefTo_of this)
  · have e : glNames.getD k "" = n := by rw [List.getD_eq_getElem?_getD, hn]; rfl
    have e2 : glTab.getD k default = v := by rw [List.getD_eq_getElem?_getD, hv]; rfl
    have lt : k < 19 := (List.getElem?_eq_some_iff.mp hn).1
    have := q k lt
    rw [e, e2] at this
    refine byC fun nG => ?_
    split at this
    · rename_i x hx
      refine nG ?_
      exact ⟨x, nsIn_get X g hx, repB_of X v x this⟩
    · cases this

theorem badOk {mg mb : Str → Option Value} (F : KF K) (X : K.In base) (g : base.Ns mainGlobals mg) (b : base.Ns builtinsNs mb) (bt : ∀ x : Str, x ≠ "__name__" → mb x = bootBuiltins x) : BadOk (G0 w base K) 70 31 67 28 :=
  ⟨F.exc, F.ini, F.st, F.sup1, F.sup2, F.sup3, F.sup4, F.sup5, F.iB, F.iC, F.keep, F.ga, F.gt, F.hd, F.mro,
    ⟨mg, mb, g, b, nsIn_get X g F.n1, nsIn_get X g F.n2, nsIn_get X g F.n3, (bt _ (by decide)).trans k_n4⟩⟩

theorem tabOk (F : KF K) : TabOk (G0 w base K) faF := by
  have p := F.tab
  unfold tabB at p
  simp only [List.all_eq_true, List.mem_range, Bool.or_eq_true] at p
  refine ⟨fun f hf h40 => (p f hf).resolve_left fun z => h40 (Nat.eq_of_beq_eq_true z), F.told⟩
end

theorem law_core {D : Nat} (hD : D ≤ 100) (plain : ∀ ns : List Int, ns.length ≤ 63 → ∃ H', run fnTab glTab initTab D 42 [.obj 0] [.flist (ns.map .int)] = some (.ret (.bool true), H')) {K : Frag} (F : KF K)
    {w : World} {s₀ s₁ : Shared} {mg mb : Str → Option Value} (X : K.In s₁.heap) (g : s₁.heap.Ns mainGlobals mg) (b : s₁.heap.Ns builtinsNs mb) (nl : s₁.heap.NoLimit) (bt : ∀ x : Str, x ≠ "__name__" → mb x = bootBuiltins x)
    {a : Addr} (hmg : mg "law" = some (.ref a)) (hgens : s₁.gens = #[]) {args : List WData} {vals : List Value} {as : List Addr} (hpre : Challenge.rw_pf0101_01.row.toRowW.claim.pre args = true)
    (hread : ReadsAllW Challenge.rw_pf0101_01.row.toRowW.records (classAt s₀.heap) s₁.heap vals args as) :
    wpAny (model Challenge.rw_pf0101_01.row.toRowW.prog w) callerA (PySem.call (.ref a) vals) (fun v s' => GoodWG Challenge.rw_pf0101_01.row.toRowW.claim (classAt s₀.heap) (ExcName.means s₀.heap) args s₁ (.ok (.ret v)) s')
      (fun e s' => GoodWG Challenge.rw_pf0101_01.row.toRowW.claim (classAt s₀.heap) (ExcName.means s₀.heap) args s₁ (.error e) s') s₁ := by
  have C := clsOk (w := w) F X
  have Ge := geOk (w := w) F X g b nl bt
  have Kb := badOk (w := w) F X g b bt
  have SF : SndF (G0 w s₁.heap K) faF D (run fnTab glTab initTab D) := (snd_all C Ge rfl Kb (tabOk F) D).1
  have ea : a = faF 42 := by
    refine byC fun nG => ?_
    obtain ⟨mg', mb', g', _, hf, _⟩ := Ge.ns
    have h1 := (hf 42 "law" (by decide) (by rfl)).1
    have h2 := g.agree g' "law"
    have h3 : mg "law" = some (.ref a) := hmg
    rw [h3, h1] at h2
    cases h2; refine nG ?_; rfl
  refine byC fun nG => ?_
  subst ea
  obtain ⟨s1, s2⟩ := pre_splitW hpre
  obtain ⟨d, r', rfl, h1, h2⟩ := hasAllW_cons s1
  have := hasAllW_nil h2
  subst this
  obtain ⟨xs, rfl, h3⟩ := hasW_list h1
  obtain ⟨ns, rfl⟩ := items_int h3
  have hlen := few_of s2
  obtain ⟨H', hrun⟩ := plain ns hlen
  cases hread with
  | cons r1 r2 =>
    cases r2
    cases r1 with
    | list e1 e2 e3 e4 =>
      rename_i l ol vs n as'
      have S : Sta (G0 w s₁.heap K) [(l, l)] [.flist (ns.map .int)] s₁.heap := by
        refine ⟨rfl, fun k p o h1 h2 => ?_, fun k j p q h1 h2 q_ => ?_, fun q_ q_ e => e, fun a ⟨k, p, o, h1, h2, h3, _⟩ => ?_⟩
        · match k, h1, h2 with
          | 0, h1, h2 => cases h1; cases h2; exact ⟨rfl, vs.toList, ⟨ol, e1, e2, n, e3⟩, ints_repL e4⟩
        · match k, j, h1, h2 with
          | 0, 0, _, _ => rfl
        · match k, h1, h2 with
          | 0, h1, h2 => cases h2; cases h3
      refine nG ?_
      refine wpAny_call (SF hrun S ⟨rfl, ?_, ?_, [], rfl, fun q_ h => by cases h⟩ ⟨_, _, rfl, ⟨l, l, rfl, rfl⟩, rfl⟩ fun ρ' h' tk x S' T' r' => ?_)
      · show 1 + claimMargin + 5 * D ≤ 900
        have : claimMargin = 300 := rfl
        omega
      · show 4 + 20 * D ≤ 9000
        omega
      · cases r'
        exact ⟨.inl ⟨_, .bool true, [], rfl, fun q_ => rfl, .bool true, hpost ns, fun q_ => ⟨.nil, fun q_ h => by cases h⟩⟩, ⟨fun b o e => .inl (S'.base b o e), fun b o e => ⟨o, S'.base b o e⟩⟩, rfl, AllBare.of_eq hgens⟩
end Mine
end
/-! Pl1 -/
section
set_option Elab.async false
set_option genSizeOf false
set_option linter.all false
set_option maxRecDepth 100000
open PySem
namespace Mine
theorem lt0 {P : Nat → Prop} : ∀ i, i < 0 → P i := fun q_ h => absurd h (Nat.not_lt_zero _)
theorem ltS {P : Nat → Prop} {n : Nat} (h : ∀ i, i < n → P i) (p : P n) : ∀ i, i < n + 1 → P i := fun i hi => (Nat.lt_succ_iff_lt_or_eq.mp hi).elim (h i) fun e => e ▸ p
/-- the run's short name -/
noncomputable abbrev rn (d : Nat) : CF := run fnTab glTab initTab d
noncomputable def kCells : List Nat := [99, 101, 108, 108, 115]
noncomputable def kSpent : List Nat := [115, 112, 101, 110, 116]
noncomputable def purseO (c : Nat) (k : Nat) : O := .sdict [(kCells, .obj c), (kSpent, .int (Int.ofNat k))]
/-- what a pull gives -/
noncomputable def pullv (cs : List Int) (k : Nat) (many : Int) : Int := match cs[k]? with | some c => Int.fmod c many | none => 0
theorem ble_dec (n m : Nat) : Nat.ble n m = decide (n ≤ m) := by rw [Bool.eq_iff_iff, Nat.ble_eq, decide_eq_true_iff]
theorem r_from (d : Nat) (m : Int) (H : Hp) : rn (d + 1) 7 [.int m] H = some (.ret (.int (Builtin.bitAnd (Int.fdiv m 64) 63)), H) := rfl
theorem r_to (d : Nat) (m : Int) (H : Hp) : rn (d + 1) 8 [.int m] H = some (.ret (.int (Builtin.bitAnd m 63)), H) := rfl
theorem r_special (d : Nat) (m : Int) (H : Hp) : rn (d + 1) 9 [.int m] H = some (.ret (.int (Builtin.bitAnd (Int.fdiv m 16384) 3)), H) := rfl
theorem r_side (d : Nat) (m : Int) (H : Hp) : rn (d + 1) 1 [.int m] H = some (.ret (.int (Int.fdiv m 8)), H) := rfl
theorem r_kind (d : Nat) (m : Int) (H : Hp) : rn (d + 1) 2 [.int m] H = some (.ret (.int (Builtin.bitAnd m 7)), H) := rfl

section
variable {d p c k : Nat} {many : Int} {cs : List Int} {H : Hp}
theorem idx_spent (hp : H[p]? = some (purseO c k)) : idxV (.obj p) (.str kSpent) H = some (.int (Int.ofNat k)) := by simp only [idxV, hp, purseO, onV, onO, vNat_int, vInt, vStr, natI_0, natI_1, natI_2, natI_3, natI_4, natI_6, natI_8, natI_nat, natI_ofNat, grd_true, grd_false]; rfl
theorem idx_cells (hp : H[p]? = some (purseO c k)) : idxV (.obj p) (.str kCells) H = some (.obj c) := by simp only [idxV, hp, purseO, onV, onO, vNat_int, vInt, vStr, natI_0, natI_1, natI_2, natI_3, natI_4, natI_6, natI_8, natI_nat, natI_ofNat, grd_true, grd_false]; rfl
theorem set_spent (hp : H[p]? = some (purseO c k)) : setIdxV (.obj p) (.str kSpent) (.int (Int.ofNat k + 1)) H = some (H.set p (purseO c (k + 1))) := by simp only [setIdxV, hp, purseO, vObj, onV, onO, vNat_int, vInt, vStr, natI_0, natI_1, natI_2, natI_3, natI_4, natI_6, natI_8, natI_nat, natI_ofNat, grd_true, grd_false]; rfl
theorem r_pull (hp : H[p]? = some (purseO c k)) (hc : H[c]? = some (.list (cs.map .int))) (hpc : p ≠ c) (hl : cs.length ≤ 14) (hk : k ≤ 14) (hm : 0 < many) :
    rn (d + 1) 34 [.obj p, .int many] H = some (.ret (.int (pullv cs k many)), H.set p (purseO c (k + 1))) := by
  have lt : p < H.length := (List.getElem?_eq_some_iff.mp hp).1
  have hp' : (H.set p (purseO c (k + 1)))[p]? = some (purseO c (k + 1)) := by rw [List.getElem?_set_self lt]
  have hc' : (H.set p (purseO c (k + 1)))[c]? = some (.list (cs.map .int)) := by rw [List.getElem?_set_ne hpc]; exact hc
  have hf0 : fits cs.length = true := Nat.ble_eq_true_of_le (by omega)
  have hlen : biV .len [.obj c] (H.set p (purseO c (k + 1))) = some (.int (Int.ofNat cs.length), H.set p (purseO c (k + 1))) := by
    simp only [biV, hc', List.length_map, hf0, lOne_one, lTwo_two, lCons_cons, vInt, vNat_int, vObj, oList, onV, onO, grd_true, grd_false]
  generalize hH : H.set p (purseO c (k + 1)) = H1 at hp' hc' hlen ⊢
  let σ : Lo := [some (.obj p), some (.int many)]
  show endOf (evB ⟨run fnTab glTab initTab d, glTab, initTab⟩ b_law_pull σ H) = _
  have s1 : evS ⟨run fnTab glTab initTab d, glTab, initTab⟩ (.augIdx (.loc 0) (.cstr kSpent) .add (.cint 1)) σ H = some (.next, σ, H1) := by
    show ((idxV (.obj p) (.str kSpent) H).bind fun old => (binV .add old (.int 1) H).bind fun r => vInt r.1 fun q_ => (setIdxV (.obj p) (.str kSpent) r.1 r.2).bind fun H => some (R.next, σ, H)) = _
    rw [idx_spent hp]
    show ((setIdxV (.obj p) (.str kSpent) (.int (Int.ofNat k + 1)) H).bind fun H => some (R.next, σ, H)) = _
    rw [set_spent hp, hH]; rfl
  have t1 : evT ⟨run fnTab glTab initTab d, glTab, initTab⟩ σ (.cmp .gt (.idx (.loc 0) (.cstr kSpent)) (.bi .len [(.idx (.loc 0) (.cstr kCells))])) H1 = some (decide (Int.ofNat cs.length < Int.ofNat (k + 1)), H1) := by
    show (((idxV (.obj p) (.str kSpent) H1).bind fun v => some (v, H1)).bind fun a => (((((idxV (.obj p) (.str kCells) a.2).bind fun v => some (v, a.2)).bind fun a => some ([a.1], a.2)).bind fun a => biV .len a.1 a.2).bind fun b => (cmpV .gt a.1 b.1 b.2).bind fun t => some (t, b.2))) = _
    rw [idx_spent hp']
    show (((((idxV (.obj p) (.str kCells) H1).bind fun v => some (v, H1)).bind fun a => some ([a.1], a.2)).bind fun a => biV .len a.1 a.2).bind fun b => (cmpV .gt (.int (Int.ofNat (k + 1))) b.1 b.2).bind fun t => some (t, b.2)) = _
    rw [idx_cells hp']
    show ((biV .len [.obj c] H1).bind fun b => (cmpV .gt (.int (Int.ofNat (k + 1))) b.1 b.2).bind fun t => some (t, b.2)) = _
    rw [hlen]; rfl
  show endOf (match evS ⟨run fnTab glTab initTab d, glTab, initTab⟩ (.augIdx (.loc 0) (.cstr kSpent) .add (.cint 1)) σ H with
    | some (.next, σ, H) => evB ⟨run fnTab glTab initTab d, glTab, initTab⟩ (b_law_pull.drop 1) σ H
    | some (.cont, σ, H) => some (.cont, σ, H)
    | some (.ret v, σ, H) => some (.ret v, σ, H)
    | some (.exc v, σ, H) => some (.exc v, σ, H)
    | none => none) = _
  rw [s1]
  show endOf (match ((evT ⟨run fnTab glTab initTab d, glTab, initTab⟩ σ (.cmp .gt (.idx (.loc 0) (.cstr kSpent)) (.bi .len [(.idx (.loc 0) (.cstr kCells))])) H1).bind fun b => match b.1 with | true => some (R.ret (.int 0), σ, b.2) | false => some (R.next, σ, b.2)) with
    | some (.next, σ, H) => evB ⟨run fnTab glTab initTab d, glTab, initTab⟩ (b_law_pull.drop 2) σ H
    | some (.cont, σ, H) => some (.cont, σ, H)
    | some (.ret v, σ, H) => some (.ret v, σ, H)
    | some (.exc v, σ, H) => some (.exc v, σ, H)
    | none => none) = _
  rw [t1]
  refine byC fun nG => ?_
  by_cases q : cs.length < k + 1
  · refine nG ?_
    rw [show decide (Int.ofNat cs.length < Int.ofNat (k + 1)) = true from decide_eq_true (Int.ofNat_lt.mpr q)]
    have : cs[k]? = none := List.getElem?_eq_none (by omega)
    simp only [pullv, this]; rfl
  · refine nG ?_
    rw [show decide (Int.ofNat cs.length < Int.ofNat (k + 1)) = false from decide_eq_false (fun z => q (Int.ofNat_lt.mp z))]
    have hk' : k < cs.length := by omega
    have hg : cs[k]? = some cs[k] := List.getElem?_eq_getElem hk'
    have i1 : idxV (.obj c) (.int (Int.ofNat (k + 1) - 1)) H1 = some (.int cs[k]) := by
      have : Int.ofNat (k + 1) - 1 = Int.ofNat k := by
        show ((k + 1 : Nat) : Int) - 1 = (k : Int)
        omega
      rw [this]
      simp only [idxV, hc', onV, onO, vNat_int, vInt, vStr, natI_0, natI_1, natI_2, natI_3, natI_4, natI_6, natI_8, natI_nat, natI_ofNat, grd_true, grd_false]
      rw [show fits k = true from Nat.ble_eq_true_of_le (by omega)]
      simp [hg]
    have i2 : binV .mod (.int cs[k]) (.int many) H1 = some (.int (Int.fmod cs[k] many), H1) := by
      show ((grd (!(many == 0)) (some (Int.fmod cs[k] many))).bind fun z => some (V.int z, H1)) = _
      rw [show (many == 0) = false from beq_eq_false_iff_ne.mpr (by omega)]; rfl
    show endOf (match ((((((idxV (.obj p) (.str kCells) H1).bind fun v => some (v, H1)).bind fun a => ((((idxV (.obj p) (.str kSpent) a.2).bind fun v => some (v, a.2)).bind fun a => binV .sub a.1 (.int 1) a.2)).bind fun b => (idxV a.1 b.1 b.2).bind fun v => some (v, b.2))).bind fun a => binV .mod a.1 (.int many) a.2).bind fun a => some (R.ret a.1, σ, a.2)) with
      | some (.next, σ, H) => some (.next, σ, H)
      | some (.cont, σ, H) => some (.cont, σ, H)
      | some (.ret v, σ, H) => some (.ret v, σ, H)
      | some (.exc v, σ, H) => some (.exc v, σ, H)
      | none => none) = _
    rw [idx_cells hp']
    simp only [Option.bind_some]
    rw [idx_spent hp']
    simp only [Option.bind_some]
    rw [show binV .sub (.int (Int.ofNat (k + 1))) (.int 1) H1 = some (.int (Int.ofNat (k + 1) - 1), H1) from rfl]
    simp only [Option.bind_some]
    rw [i1]
    simp only [Option.bind_some]
    rw [i2]
    simp only [pullv, hg]
    rfl
theorem pullv_range {cs : List Int} {k : Nat} {many : Int} (hm : 0 < many) : 0 ≤ pullv cs k many ∧ pullv cs k many < many := by
  unfold pullv
  split
  · exact ⟨Int.fmod_nonneg_of_pos _ hm, Int.fmod_lt_of_pos _ hm⟩
  · exact ⟨Int.le_refl _, hm⟩
end
end Mine
end
/-! Pl3 -/
section
set_option Elab.async false
set_option genSizeOf false
set_option linter.all false
set_option maxRecDepth 100000
set_option maxHeartbeats 4000000
open PySem
namespace Mine
theorem thaw_length (a : V) (H : Hp) : (thaw a H).length = H.length := thaw_in (fun e => by rw [e]) fun q_ q_ q_ q_ e => by rw [e, List.length_set]
theorem evE_comp (c : Cx) (σ : Lo) (slot : Nat) (elt it : X) (ifs : List T) (caps : List Nat) (H : Hp) : evE c σ (.comp elt slot it ifs caps) H = (evE c σ it H).bind fun a => (freeze a.1 a.2).bind fun H₀ => (loopC (nextV a.1) (compT c σ slot elt ifs) turns 0 [] H₀).bind fun r => some (.obj r.2.length, thaw a.1 r.2 ++ [.list r.1]) := rfl
noncomputable def forT (c : Cx) (i : Nat) (body : List S) : V → Lo → Hp → Option (R × Lo × Hp) := fun v σ H' => evB c body (σ.set i (some v)) H'
noncomputable def forTT (c : Cx) (is : List Nat) (body : List S) : V → Lo → Hp → Option (R × Lo × Hp) := fun v σ H' => (unpackV v is.length).bind fun l => (setSlots is l σ).bind fun σ => evB c body σ H'
theorem evS_for (c : Cx) (i : Nat) (it : X) (body : List S) (σ : Lo) (H : Hp) : evS c (.for_ i it body) σ H = (evE c σ it H).bind fun a => (freeze a.1 a.2).bind fun H₀ => (loop (nextV a.1) (forT c i body) turns 0 σ H₀).bind fun r => some (r.1, r.2.1, thaw a.1 r.2.2) := rfl
theorem evS_forTup (c : Cx) (is : List Nat) (it : X) (body : List S) (σ : Lo) (H : Hp) : evS c (.forTup is it body) σ H = (evE c σ it H).bind fun a => (freeze a.1 a.2).bind fun H₀ => (loop (nextV a.1) (forTT c is body) turns 0 σ H₀).bind fun r => some (r.1, r.2.1, thaw a.1 r.2.2) := rfl
theorem run_succ (d f : Nat) (args : List V) (H : Hp) : rn (d + 1) f args H = (fnTab[f]?).bind fun fn => grd (Nat.beq args.length fn.np) (endOf (evB ⟨rn d, glTab, initTab⟩ fn.body (args.map some ++ List.replicate (fn.ns - fn.np) none) H)) := rfl
noncomputable abbrev cx (d : Nat) : Cx := ⟨rn d, glTab, initTab⟩
/-! rules: what an expression gives, from what its parts give -/
section
variable {c : Cx} {σ : Lo} {H H1 H2 H3 : Hp} {x y z : V}
theorem eLoc {i : Nat} (h : σ[i]? = some (some x)) : evE c σ (.loc i) H = some (x, H) := by
  show sGet σ[i]? _ = _
  rw [h]; rfl
theorem eBin {op : Op} {l r : X} {q : V × Hp} (h1 : evE c σ l H = some (x, H1)) (h2 : evE c σ r H1 = some (y, H2)) (h3 : binV op x y H2 = some q) : evE c σ (.bin op l r) H = some q := by
  show (evE c σ l H).bind _ = _
  rw [h1]
  show (evE c σ r H1).bind _ = _
  rw [h2]; exact h3
theorem eNeg {e : X} {i : Int} (h : evE c σ e H = some (.int i, H1)) : evE c σ (.neg e) H = some (.int (-i), H1) := by
  show (evE c σ e H).bind _ = _
  rw [h]; rfl
theorem sAssign {i : Nat} {e : X} (h : evE c σ e H = some (x, H1)) : evS c (.assign i e) σ H = some (.next, σ.set i (some x), H1) := by
  show (evE c σ e H).bind _ = _
  rw [h]; rfl
theorem sAssignT {is : List Nat} {e : X} {l : List V} {σ' : Lo} (h : evE c σ e H = some (.tup l, H1)) (hs : grd (Nat.beq l.length is.length) (setSlots is l σ) = some σ') : evS c (.assignTup is e) σ H = some (.next, σ', H1) := by
  show (evE c σ e H).bind _ = _
  rw [h]
  show ((grd (Nat.beq l.length is.length) (some l)).bind fun l => (setSlots is l σ).bind fun σ => some (R.next, σ, H1)) = _
  refine grd_in hs fun e1 e2 => ?_
  rw [e1]
  show ((setSlots is l σ).bind fun σ => some (R.next, σ, H1)) = _
  rw [e2]; rfl
theorem eAttr {o : X} {a : Nat} (h1 : evE c σ o H = some (x, H1)) (h2 : attrV x a H1 = some y) : evE c σ (.attr o a) H = some (y, H1) := by
  show (evE c σ o H).bind _ = _
  rw [h1]
  show (attrV x a H1).bind _ = _
  rw [h2]; rfl
theorem eIdx {o i : X} (h1 : evE c σ o H = some (x, H1)) (h2 : evE c σ i H1 = some (y, H2)) (h3 : idxV x y H2 = some z) : evE c σ (.idx o i) H = some (z, H2) := by
  show (evE c σ o H).bind _ = _
  rw [h1]
  show (evE c σ i H1).bind _ = _
  rw [h2]
  show (idxV x y H2).bind _ = _
  rw [h3]; rfl
theorem eNil : evL c σ [] H = some ([], H) := rfl
theorem eCons {e : X} {r : List X} {l : List V} (h1 : evE c σ e H = some (x, H1)) (h2 : evL c σ r H1 = some (l, H2)) : evL c σ (e :: r) H = some (x :: l, H2) := by
  show (evE c σ e H).bind _ = _
  rw [h1]
  show (evL c σ r H1).bind _ = _
  rw [h2]; rfl
theorem eTup {l : List X} {q : List V} (h : evL c σ l H = some (q, H1)) : evE c σ (.tup l) H = some (.tup q, H1) := by
  show (evL c σ l H).bind _ = _
  rw [h]; rfl
theorem eCall {f : Nat} {args : List X} {l : List V} (ha : evL c σ args H = some (l, H1)) (hc : c.cf f l H1 = some (.ret x, H2)) : evE c σ (.call f args) H = some (x, H2) := by
  show (evL c σ args H).bind _ = _
  rw [ha]
  show okRet (c.cf f l H1) = _
  rw [hc]; rfl
theorem eBi {b : Bi} {args : List X} {l : List V} {q : V × Hp} (ha : evL c σ args H = some (l, H1)) (hc : biV b l H1 = some q) : evE c σ (.bi b args) H = some q := by
  show (evL c σ args H).bind _ = _
  rw [ha]; exact hc
theorem tCmp {op : Cm} {l r : X} {b : Bool} (h1 : evE c σ l H = some (x, H1)) (h2 : evE c σ r H1 = some (y, H2)) (h3 : cmpV op x y H2 = some b) : evT c σ (.cmp op l r) H = some (b, H2) := by
  show (evE c σ l H).bind _ = _
  rw [h1]
  show (evE c σ r H1).bind _ = _
  rw [h2]
  show (cmpV op x y H2).bind _ = _
  rw [h3]; rfl
theorem sAssignIdx {o i e : X} {v : V} {H4 : Hp} (he : evE c σ e H = some (v, H1)) (ho : evE c σ o H1 = some (x, H2)) (hi : evE c σ i H2 = some (y, H3)) (hs : setIdxV x y v H3 = some H4) : evS c (.assignIdx o i e) σ H = some (.next, σ, H4) := by
  show (evE c σ e H).bind _ = _
  rw [he]
  show (evE c σ o H1).bind _ = _
  rw [ho]
  show (evE c σ i H2).bind _ = _
  rw [hi]
  show (setIdxV x y v H3).bind _ = _
  rw [hs]; rfl
theorem sAugIdx {o i e : X} {op : Op} {w v : V} {z : Int} {H4 H5 H6 : Hp} (ho : evE c σ o H = some (x, H1)) (hi : evE c σ i H1 = some (y, H2)) (hx : idxV x y H2 = some w) (he : evE c σ e H2 = some (v, H4)) (hb : binV op w v H4 = some (.int z, H5)) (hs : setIdxV x y (.int z) H5 = some H6) : evS c (.augIdx o i op e) σ H = some (.next, σ, H6) := by
  show (evE c σ o H).bind _ = _
  rw [ho]
  show (evE c σ i H1).bind _ = _
  rw [hi]
  show (idxV x y H2).bind _ = _
  rw [hx]
  show (evE c σ e H2).bind _ = _
  rw [he]
  show (binV op w v H4).bind _ = _
  rw [hb]
  show (setIdxV x y (.int z) H5).bind _ = _
  rw [hs]; rfl
theorem sAugAttr {o e : X} {a : Nat} {op : Op} {w v : V} {z : Int} {H5 H6 : Hp} (ho : evE c σ o H = some (x, H1)) (hx : attrV x a H1 = some w) (he : evE c σ e H1 = some (v, H2)) (hb : binV op w v H2 = some (.int z, H5)) (hs : setAttrV x a (.int z) H5 = some H6) : evS c (.augAttr o a op e) σ H = some (.next, σ, H6) := by
  show (evE c σ o H).bind _ = _
  rw [ho]
  show (attrV x a H1).bind _ = _
  rw [hx]
  show (evE c σ e H1).bind _ = _
  rw [he]
  show (binV op w v H2).bind _ = _
  rw [hb]
  show (setAttrV x a (.int z) H5).bind _ = _
  rw [hs]; rfl
theorem sAug {i : Nat} {e : X} {op : Op} {w v : V} {z : Int} (h : σ[i]? = some (some w)) (he : evE c σ e H = some (v, H1)) (hb : binV op w v H1 = some (.int z, H2)) : evS c (.aug i op e) σ H = some (.next, σ.set i (some (.int z)), H2) := by
  show sGet σ[i]? _ = _
  rw [h]
  show (evE c σ e H).bind _ = _
  rw [he]
  show (binV op w v H1).bind _ = _
  rw [hb]; rfl
theorem sExpr {e : X} (h : evE c σ e H = some (.none, H1)) : evS c (.expr e) σ H = some (.next, σ, H1) := by
  show (evE c σ e H).bind _ = _
  rw [h]; rfl
theorem sRet {e : X} (h : evE c σ e H = some (x, H1)) : evS c (.ret e) σ H = some (.ret x, σ, H1) := by
  show (evE c σ e H).bind _ = _
  rw [h]; rfl
theorem eAppend {o e : X} {v : V} (h1 : evE c σ o H = some (x, H1)) (hl : isListV x H1 = true) (h2 : evE c σ e H1 = some (v, H2)) (h3 : appendV x v H2 = some H3) : evE c σ (.append o e) H = some (.none, H3) := by
  show (evE c σ o H).bind _ = _
  rw [h1]
  show grd (isListV x H1) ((evE c σ e H1).bind _) = _
  rw [hl, h2]
  show (appendV x v H2).bind _ = _
  rw [h3]; rfl
theorem eGet {o k dd : X} {w : V} {H4 : Hp} (h1 : evE c σ o H = some (x, H1)) (hd : isDictV x H1 = true) (h2 : evE c σ k H1 = some (y, H2)) (h3 : evE c σ dd H2 = some (z, H4)) (h4 : getV x y z H4 = some w) : evE c σ (.get o k dd) H = some (w, H4) := by
  show (evE c σ o H).bind _ = _
  rw [h1]
  show grd (isDictV x H1) ((evE c σ k H1).bind _) = _
  rw [hd, h2]
  show (evE c σ dd H2).bind _ = _
  rw [h3]
  show (getV x y z H4).bind _ = _
  rw [h4]; rfl
theorem tOr {a b : T} {p : Bool} (h1 : evT c σ a H = some (false, H1)) (h2 : evT c σ b H1 = some (p, H2)) : evT c σ (.or_ [a, b]) H = some (p, H2) := by
  show (evT c σ a H).bind _ = _
  rw [h1]
  show (evT c σ b H1).bind _ = _
  rw [h2]; cases p <;> rfl
theorem tAnd0 {a : T} {l : List T} (h1 : evT c σ a H = some (false, H1)) : evT c σ (.and_ (a :: l)) H = some (false, H1) := by
  show (evT c σ a H).bind _ = _
  rw [h1]; rfl
theorem tAnd {a b : T} {p : Bool} (h1 : evT c σ a H = some (true, H1)) (h2 : evT c σ b H1 = some (p, H2)) : evT c σ (.and_ [a, b]) H = some (p, H2) := by
  show (evT c σ a H).bind _ = _
  rw [h1]
  show (evT c σ b H1).bind _ = _
  rw [h2]; cases p <;> rfl
theorem cEq {u v : Int} : cmpV .eq (.int u) (.int v) H = some (decide (u = v)) := rfl
theorem compT_one {slot : Nat} {elt : X} {t : T} {v w : V} {b : Bool} (ht : evT c (σ.set slot (some v)) t H = some (b, H1)) (he : evE c (σ.set slot (some v)) elt H1 = some (w, H1)) : compT c σ slot elt [t] v H = some (if b = true then some w else none, H1) := by
  show ((evT c (σ.set slot (some v)) t H).bind _).bind _ = _
  rw [ht]
  cases b with
  | true =>
    show (evE c (σ.set slot (some v)) elt H1).bind _ = _
    rw [he]; rfl
  | false => rfl
end
theorem evB_next {c : Cx} {s : S} {r : List S} {σ σ' : Lo} {H H' : Hp} (h : evS c s σ H = some (.next, σ', H')) : evB c (s :: r) σ H = evB c r σ' H' := by rw [evB, h]
theorem evB_ret {c : Cx} {s : S} {r : List S} {σ σ' : Lo} {H H' : Hp} {v : V} (h : evS c s σ H = some (.ret v, σ', H')) : evB c (s :: r) σ H = some (.ret v, σ', H') := by rw [evB, h]
theorem evB_exc {c : Cx} {s : S} {r : List S} {σ σ' : Lo} {H H' : Hp} {v : V} (h : evS c s σ H = some (.exc v, σ', H')) : evB c (s :: r) σ H = some (.exc v, σ', H') := by rw [evB, h]
theorem evB_cont {c : Cx} {s : S} {r : List S} {σ σ' : Lo} {H H' : Hp} (h : evS c s σ H = some (.cont, σ', H')) : evB c (s :: r) σ H = some (.cont, σ', H') := by rw [evB, h]
theorem evB_one {c : Cx} {s : S} {σ σ' : Lo} {H H' : Hp} (h : evS c s σ H = some (.next, σ', H')) : evB c [s] σ H = some (.next, σ', H') := evB_next h
theorem evS_if_true {c : Cx} {σ : Lo} {t : T} {x y : List S} {H H' : Hp} (h : evT c σ t H = some (true, H')) : evS c (.if_ t x y) σ H = evB c x σ H' := by
  show (evT c σ t H).bind _ = _
  rw [h]; rfl
theorem evS_if_false {c : Cx} {σ : Lo} {t : T} {x : List S} {H H' : Hp} (h : evT c σ t H = some (false, H')) : evS c (.if_ t x []) σ H = some (.next, σ, H') := by
  show (evT c σ t H).bind _ = _
  rw [h]; rfl
section
variable {c : Cx} {σ : Lo} {H H1 H2 : Hp}
theorem evT_ne {x y : X} {u v : Int} (h1 : evE c σ x H = some (.int u, H1)) (h2 : evE c σ y H1 = some (.int v, H2)) : evT c σ (.cmp .ne x y) H = some (!(u == v), H2) := tCmp h1 h2 rfl
theorem evT_ne0 {x y : X} {u : Int} (h1 : evE c σ x H = some (.int u, H1)) (h2 : evE c σ y H1 = some (.int u, H2)) : evT c σ (.cmp .ne x y) H = some (false, H2) := by
  rw [evT_ne h1 h2, beq_self_eq_true]; rfl
theorem eGlob {g : Nat} {v : V} (h : c.gl[g]? = some v) : evE c σ (.glob g) H = some (v, H) := by
  show (c.gl[g]?).bind _ = _
  rw [h]; rfl
theorem tVal {e : X} {v : V} {b : Bool} (h : evE c σ e H = some (v, H1)) (h2 : truthyV v = some b) : evT c σ (.val e) H = some (b, H1) := by
  show (evE c σ e H).bind _ = _
  rw [h]
  show (truthyV v).bind _ = _
  rw [h2]; rfl
theorem eInv {e : X} {i : Int} (h : evE c σ e H = some (.int i, H1)) : evE c σ (.inv e) H = some (.int (-i - 1), H1) := by
  show (evE c σ e H).bind _ = _
  rw [h]; rfl
theorem taC {a : T} {l : List T} {p q : Bool} (h1 : evT c σ a H = some (p, H)) (h2 : evTA c σ l H = some (q, H)) : evTA c σ (a :: l) H = some (p && q, H) := by
  show (evT c σ a H).bind _ = _
  rw [h1]
  cases p with
  | true => exact h2
  | false => rfl
theorem toC {a : T} {l : List T} {p q : Bool} (h1 : evT c σ a H = some (p, H)) (h2 : evTO c σ l H = some (q, H)) : evTO c σ (a :: l) H = some (p || q, H) := by
  show (evT c σ a H).bind _ = _
  rw [h1]
  cases p with
  | true => rfl
  | false => exact h2
theorem tAndL {l : List T} {p : Bool} (h : evTA c σ l H = some (p, H1)) : evT c σ (.and_ l) H = some (p, H1) := h
theorem tOrL {l : List T} {p : Bool} (h : evTO c σ l H = some (p, H1)) : evT c σ (.or_ l) H = some (p, H1) := h
theorem sIfRet {t : T} {e : X} {r : List S} {p : Bool} {x : V} (ht : evT c σ t H = some (p, H1)) (he : evE c σ e H1 = some (x, H1)) : evB c (.if_ t [.ret e] [] :: r) σ H = if p = true then some (.ret x, σ, H1) else evB c r σ H1 := by
  cases p with
  | true => exact evB_ret ((evS_if_true ht).trans (evB_ret (sRet he)))
  | false => exact evB_next (evS_if_false ht)
theorem no_lt {u v : Int} (h : ¬ u < v) : cmpV .lt (.int u) (.int v) H = some false := congrArg some (decide_eq_false h)
theorem no_ge {u v : Int} (h : ¬ v ≤ u) : cmpV .ge (.int u) (.int v) H = some false := congrArg some (decide_eq_false h)
theorem no_eq {u v : Int} (h : ¬ u = v) : cmpV .eq (.int u) (.int v) H = some false := congrArg some (decide_eq_false h)
theorem bInt {op : Op} {u v z : Int} (h : ibin op u v = some z) : binV op (.int u) (.int v) H = some (.int z, H) := by
  show (ibin op u v).bind _ = _
  rw [h]; rfl
end
noncomputable abbrev Cst := Option (Int × Int × Int × Int)
noncomputable def castV : Cst → V
  | none => .none
  | some (h, g, c, x) => .tup [.int h, .int g, .int c, .int x]
/-- the first of what g gives -/
noncomputable def firstI (g : Nat → Option Int) : Nat → Nat → Option Int
  | 0, _ => none
  | m + 1, i => match g i with | some v => some v | none => firstI g m (i + 1)
noncomputable def endI : Option Int → R
  | some v => .ret (.int v)
  | none => .next
theorem search_loop {b : V → Lo → Hp → Option (R × Lo × Hp)} {s0 s1 s2 : Option V} {H : Hp} {g : Nat → Option Int} {N : Nat}
    (hb : ∀ n, n < N → ∀ x w, ∃ x' w', b (.int n) [s0, s1, s2, x, w] H = some (endI (g n), [s0, s1, s2, x', w'], H)) :
    ∀ (m i f : Nat) (x w : Option V), i + m = N → m < f → ∃ x' w', loop (nextV (.rng 0 1 N)) b f i [s0, s1, s2, x, w] H = some (endI (firstI g m i), [s0, s1, s2, x', w'], H)
  | 0, i, f + 1, x, w, h, _ => by
    refine ⟨x, w, ?_⟩
    have : Nat.blt i N = false := by rw [Bool.eq_false_iff, ne_eq, Nat.blt_eq]; omega
    simp only [loop, nextV, this, firstI, endI, onV, onO, grd_true, grd_false]
  | m + 1, i, f + 1, x, w, h, hf => by
    have q : Nat.blt i N = true := by rw [Nat.blt_eq]; omega
    refine byC fun nG => ?_
    obtain ⟨x', w', e⟩ := hb i (by omega) x w
    have e0 : (0 : Int) + Int.ofNat i * 1 = (i : Int) := by simp
    cases hg : g i with
    | some v =>
      refine nG ?_
      refine ⟨x', w', ?_⟩
      rw [hg] at e
      simp only [loop, nextV, q, e0, e, firstI, hg, endI, onV, onO, grd_true, grd_false]
    | none =>
      rw [hg] at e
      obtain ⟨x2, w2, e2⟩ := search_loop hb m (i + 1) f x' w' (by omega) (by omega)
      refine nG ?_
      refine ⟨x2, w2, ?_⟩
      simp only [loop, nextV, q, e0, e, firstI, hg, onV, onO, grd_true, grd_false]
      simp only [endI] at e2 ⊢
      exact e2
/-- castle_of's turn -/
noncomputable def cofG (C : List Cst) (a b : Int) (n : Nat) : Option Int := match C[n]? with
  | some (some (h, g, _, _)) => if h = a ∧ g = b then some n else none
  | _ => none
noncomputable def cofN (C : List Cst) (a b : Int) : Int := match firstI (cofG C a b) 4 0 with | some i => i | none => -1
theorem idx_list {k : Nat} {H : Hp} {l : List V} {n : Nat} {v : V} (h : H[k]? = some (.list l)) (hn : n ≤ 100000) (hv : l[n]? = some v) : idxV (.obj k) (.int n) H = some v := by
  have : fits n = true := Nat.ble_eq_true_of_le hn
  show onO H[k]? none (fun l => grd (fits n) l[n]?) _ _ _ _ _ = _
  simp only [h, this, hv, onO_list, grd_true]
theorem ibeq (a b : Int) : (a == b) = decide (a = b) := rfl
noncomputable def bodyC : List S := [.assign 4 (.idx (.attr (.loc 0) 2) (.loc 3)), .if_ (.and_ [(.cmp .isnt (.loc 4) .cnone), (.cmp .eq (.idx (.loc 4) (.cint 0)) (.loc 1)), (.cmp .eq (.idx (.loc 4) (.cint 1)) (.loc 2))]) [.ret (.loc 3)] []]
theorem c_body {c : Cx} {g k : Nat} {H : Hp} {C : List Cst} {a b : Int} {n : Nat} {w4 : Option V} (h0 : attrV (.obj g) 2 H = some (.obj k)) (hC : H[k]? = some (.list (C.map castV))) (hl : C.length = 4) (hn : n < 4) :
    ∃ w, evB c bodyC [some (.obj g), some (.int a), some (.int b), some (.int n), w4] H =
    some (endI (cofG C a b n), [some (.obj g), some (.int a), some (.int b), some (.int n), w], H) := by
  have hq : C[n]? = some C[n] := List.getElem?_eq_getElem (by omega)
  generalize C[n] = q at hq
  have hi : idxV (.obj k) (.int n) H = some (castV q) := idx_list hC (by omega) (by simp [hq])
  refine ⟨some (castV q), ?_⟩
  have e0 : evS c (.assign 4 (.idx (.attr (.loc 0) 2) (.loc 3))) [some (.obj g), some (.int a), some (.int b), some (.int n), w4] H = some (.next, [some (.obj g), some (.int a), some (.int b), some (.int n), some (castV q)], H) := sAssign (eIdx (eAttr rfl h0) rfl hi)
  refine (evB_next e0).trans ?_
  cases q with
  | none =>
    rw [evB_one (evS_if_false (tAnd0 (tCmp rfl rfl rfl)))]
    unfold cofG
    rw [hq]; rfl
  | some q =>
    obtain ⟨h, g', c', x⟩ := q
    rw [sIfRet (p := true && (decide (h = a) && (decide (g' = b) && true))) (tAndL (taC (tCmp rfl rfl rfl) (taC (tCmp (eIdx rfl rfl rfl) rfl rfl) (taC (tCmp (eIdx rfl rfl rfl) rfl rfl) rfl)))) (eLoc rfl)]
    unfold cofG
    rw [hq]
    by_cases e1 : h = a <;> by_cases e2 : g' = b <;> simp only [e1, e2, decide_true, decide_false] <;> rfl
theorem rngN_one {a b : Int} (ha : a.natAbs < 1000000000) (hb : b.natAbs < 1000000000) : rngN a b 1 = some (b - a).toNat := by
  unfold rngN
  rw [show (Nat.blt a.natAbs 1000000000 && Nat.blt b.natAbs 1000000000) = true from by rw [Bool.and_eq_true, Nat.blt_eq, Nat.blt_eq]; exact ⟨ha, hb⟩]
  rfl
theorem ev_range1 {c : Cx} {σ : Lo} {H : Hp} {n : Nat} (h : n < 1000000000) : evE c σ (.bi .range1 [.cint n]) H = some (.rng 0 1 n, H) := by
  refine eBi (eCons rfl eNil) ?_
  show (rngN 0 n 1).bind _ = _
  rw [rngN_one (by decide) (by rw [Int.natAbs_natCast]; exact h), Int.sub_zero, Int.toNat_natCast]; rfl
theorem freeze_rng {a c : Int} {n : Nat} {H : Hp} (h : n ≤ 100000) : freeze (.rng a c n) H = some H := by
  have : fits n = true := Nat.ble_eq_true_of_le h
  show grd (fits n) _ = _
  rw [this]; rfl
theorem r_castle_of {d g k : Nat} {H : Hp} {C : List Cst} {a b : Int} (h0 : attrV (.obj g) 2 H = some (.obj k)) (hC : H[k]? = some (.list (C.map castV))) (hl : C.length = 4) :
    rn (d + 1) 13 [.obj g, .int a, .int b] H = some (.ret (.int (cofN C a b)), H) := by
  rw [run_succ]
  show endOf (evB (cx d) [.for_ 3 (.bi .range1 [(.cint (4 : Nat))]) bodyC, .ret (.neg (.cint 1))] [some (.obj g), some (.int a), some (.int b), none, none] H) = _
  rw [evB, evS_for, ev_range1 (by omega), Option.bind_some, freeze_rng (by omega), Option.bind_some]
  obtain ⟨x', w', e⟩ := search_loop (b := forT (cx d) 3 bodyC) (s0 := some (.obj g)) (s1 := some (.int a)) (s2 := some (.int b)) (H := H) (g := cofG C a b) (N := 4) (fun n hn x w => by
    obtain ⟨w', e⟩ := c_body (c := cx d) (w4 := w) h0 hC hl hn (a := a) (b := b)
    exact ⟨_, _, e⟩) 4 0 turns none none rfl (by decide)
  rw [e, Option.bind_some]
  unfold cofN
  cases firstI (cofG C a b) 4 0 with
  | some v => rfl
  | none => rfl
end Mine
end
/-! Pl4 -/
section
set_option Elab.async false
set_option genSizeOf false
set_option linter.all false
set_option maxRecDepth 100000
set_option maxHeartbeats 4000000
open PySem
namespace Mine
theorem gl2 : glTab[2]? = some (.int 0) := rfl
theorem gl12 : glTab[12]? = some (.int 3) := rfl
theorem gl10 : glTab[10]? = some (.int 1) := rfl
noncomputable def packN (o t sp : Int) : Int := Builtin.bitOr (Builtin.bitOr (Builtin.bitOr t (o * 64)) 0) (sp * 16384)
theorem r_pack {d : Nat} {o t sp pr : Int} {H : Hp} (ho : small o = true) (hs : small sp = true) (hn : sp ≠ 1) : rn (d + 1) 6 [.int o, .int t, .int sp, .int pr] H = some (.ret (.int (packN o t sp)), H) := by
  rw [run_succ]
  show endOf (evB (cx d) b_pack_move [some (.int o), some (.int t), some (.int sp), some (.int pr), none] H) = _
  have m1 : ibin .shl o 6 = some (o * 64) := by show grd (small o && true) _ = _; rw [ho]; rfl
  have m2 : ibin .shl sp 14 = some (sp * 16384) := by show grd (small sp && true) _ = _; rw [hs]; rfl
  exact congrArg endOf ((evB_next (sAssign (x := .int 0) (H1 := H) rfl)).trans ((evB_next (evS_if_false (tCmp rfl (eGlob gl10) (no_eq hn)))).trans (evB_ret (sRet (eBin (eBin (eBin rfl (eBin rfl rfl (bInt m1)) rfl) (eBin rfl rfl rfl) rfl) (eBin rfl rfl (bInt m2)) rfl)))))
noncomputable def cgofG (C : List Cst) (sd a b : Int) (n : Nat) : Option Int := match C[n]? with
  | some (some (h, g, c, _)) => if Int.fdiv n 2 = sd ∧ h = a ∧ c = b then some (packN a g 3) else none
  | _ => none
noncomputable def cgofN (C : List Cst) (sd a b : Int) : Int := match firstI (cgofG C sd a b) 4 0 with | some i => i | none => 0
noncomputable def bodyG : List S := [.assign 4 (.idx (.attr (.attr (.loc 0) 3) 2) (.loc 3)), .if_ (.and_ [(.cmp .isnt (.loc 4) .cnone), (.cmp .eq (.bin .shr (.loc 3) (.cint 1)) (.attr (.loc 0) 4)), (.cmp .eq (.idx (.loc 4) (.cint 0)) (.loc 1)), (.cmp .eq (.idx (.loc 4) (.cint 2)) (.loc 2))]) [.ret (.call 6 [(.loc 1), (.idx (.loc 4) (.cint 1)), (.glob 12), (.glob 2)])] []]
section
variable {d p g k : Nat} {H : Hp} {C : List Cst} {sd a b : Int}
theorem g_body {n : Nat} {w4 : Option V} (hp : attrV (.obj p) 3 H = some (.obj g)) (hs : attrV (.obj p) 4 H = some (.int sd)) (h0 : attrV (.obj g) 2 H = some (.obj k)) (hC : H[k]? = some (.list (C.map castV))) (hl : C.length = 4) (ha : small a = true) (hn : n < 4) :
    ∃ w, evB (cx (d + 1)) bodyG [some (.obj p), some (.int a), some (.int b), some (.int n), w4] H =
    some (endI (cgofG C sd a b n), [some (.obj p), some (.int a), some (.int b), some (.int n), w], H) := by
  have hq : C[n]? = some C[n] := List.getElem?_eq_getElem (by omega)
  generalize C[n] = q at hq
  have hi : idxV (.obj k) (.int n) H = some (castV q) := idx_list hC (by omega) (by simp [hq])
  refine ⟨some (castV q), ?_⟩
  have e0 : evS (cx (d + 1)) (.assign 4 (.idx (.attr (.attr (.loc 0) 3) 2) (.loc 3))) [some (.obj p), some (.int a), some (.int b), some (.int n), w4] H = some (.next, [some (.obj p), some (.int a), some (.int b), some (.int n), some (castV q)], H) := sAssign (eIdx (eAttr (eAttr rfl hp) h0) rfl hi)
  refine (evB_next e0).trans ?_
  cases q with
  | none =>
    rw [evB_one (evS_if_false (tAnd0 (tCmp rfl rfl rfl)))]
    unfold cgofG
    rw [hq]; rfl
  | some q =>
    obtain ⟨h, g', c', x⟩ := q
    have hpk : rn (d + 1) 6 [.int a, .int g', .int 3, .int 0] H = some (.ret (.int (packN a g' 3)), H) := r_pack ha rfl (by decide)
    rw [sIfRet (p := true && (decide (Int.fdiv n 2 = sd) && (decide (h = a) && (decide (c' = b) && true)))) (tAndL (taC (tCmp rfl rfl rfl) (taC (tCmp (eBin rfl rfl rfl) (eAttr rfl hs) rfl) (taC (tCmp (eIdx rfl rfl rfl) rfl rfl) (taC (tCmp (eIdx rfl rfl rfl) rfl rfl) rfl)))))
      (eCall (eCons rfl (eCons (eIdx rfl rfl rfl) (eCons (eGlob gl12) (eCons (eGlob gl2) eNil)))) hpk)]
    unfold cgofG
    rw [hq]
    by_cases e0 : Int.fdiv n 2 = sd <;> by_cases e1 : h = a <;> by_cases e2 : c' = b <;> simp only [e0, e1, e2, decide_true, decide_false] <;> rfl
theorem r_castling_of (hp : attrV (.obj p) 3 H = some (.obj g)) (hs : attrV (.obj p) 4 H = some (.int sd)) (h0 : attrV (.obj g) 2 H = some (.obj k)) (hC : H[k]? = some (.list (C.map castV))) (hl : C.length = 4) (ha : small a = true) :
    rn (d + 2) 15 [.obj p, .int a, .int b] H = some (.ret (.int (cgofN C sd a b)), H) := by
  rw [run_succ]
  show endOf (evB (cx (d + 1)) [.for_ 3 (.bi .range1 [(.cint (4 : Nat))]) bodyG, .ret (.glob 13)] [some (.obj p), some (.int a), some (.int b), none, none] H) = _
  rw [evB, evS_for, ev_range1 (by omega), Option.bind_some, freeze_rng (by omega), Option.bind_some]
  obtain ⟨x', w', e⟩ := search_loop (b := forT (cx (d + 1)) 3 bodyG) (s0 := some (.obj p)) (s1 := some (.int a)) (s2 := some (.int b)) (H := H) (g := cgofG C sd a b) (N := 4) (fun n hn x w => by
    obtain ⟨w', e⟩ := g_body (d := d) (w4 := w) hp hs h0 hC hl ha hn (b := b)
    exact ⟨_, _, e⟩) 4 0 turns none none rfl (by decide)
  rw [e, Option.bind_some]
  unfold cgofN
  cases firstI (cgofG C sd a b) 4 0 with
  | some v => rfl
  | none => rfl
end
noncomputable def spotN (f s : Int) : Int := Int.fmod s f + Int.fdiv s f * 8
theorem r_spot {d : Nat} {f s : Int} {H : Hp} (hf : 0 < f) (hf2 : f < 1000) (hs : 0 ≤ s) (hs2 : s < 1000) : rn (d + 1) 36 [.int f, .int s] H = some (.ret (.int (spotN f s)), H) := by
  rw [run_succ]
  show endOf (evB (cx d) b_law_spot [some (.int f), some (.int s)] H) = _
  have h1 : (f == 0) = false := by simp; omega
  have h2 : small s = true := by unfold small; rw [Nat.blt_eq]; omega
  have h3 : Nat.blt f.natAbs 1073741824 = true := by rw [Nat.blt_eq]; omega
  have h4 : small (Int.fdiv s f) = true := by
    unfold small; rw [Nat.blt_eq]
    have : Int.fdiv s f = s / f := Int.fdiv_eq_ediv_of_nonneg _ (by omega)
    rw [this]
    have h5 : 0 ≤ s / f := Int.ediv_nonneg hs (by omega)
    have h6 : s / f ≤ s := Int.ediv_le_self _ hs
    omega
  have m1 : ibin .mod s f = some (Int.fmod s f) := by show grd (!(f == 0)) _ = _; rw [h1]; rfl
  have m2 : ibin .fdiv s f = some (Int.fdiv s f) := by show grd (!(f == 0)) (grd (small s && Nat.blt f.natAbs 1073741824) _) = _; rw [h1, h2, h3]; rfl
  have m3 : ibin .mul (Int.fdiv s f) 8 = some (Int.fdiv s f * 8) := by show grd (small (Int.fdiv s f)) _ = _; rw [h4]; rfl
  exact congrArg endOf (evB_ret (sRet (eBin (eBin rfl rfl (bInt m1)) (eBin (eBin rfl rfl (bInt m2)) rfl (bInt m3)) rfl)))
end Mine
end
/-! Pl5 -/
section
set_option Elab.async false
set_option genSizeOf false
set_option linter.all false
set_option maxRecDepth 100000
set_option maxHeartbeats 4000000
open PySem
namespace Mine
theorem gl0 : glTab[0]? = some (.int 0) := rfl
theorem gl3 : glTab[3]? = some (.int 1) := rfl
theorem gl5 : glTab[5]? = some (.int 4) := rfl
theorem gl7 : glTab[7]? = some (.int 6) := rfl
theorem gl8 : glTab[8]? = some (.int 0) := rfl
theorem gl9 : glTab[9]? = some (.int 0) := rfl
theorem gl13 : glTab[13]? = some (.int 0) := rfl
noncomputable def bsqN (f r n : Int) : Int := if f ≤ Builtin.bitAnd n 7 ∨ r ≤ Builtin.bitAnd (Int.fdiv n 8) 7 then -1 else Builtin.bitAnd (Int.fdiv n 8) 7 * f + Builtin.bitAnd n 7
theorem small_of {a : Int} (h : a.natAbs < 18446744073709551616) : small a = true := by unfold small; rw [Nat.blt_eq]; exact h
section
variable {d p g k bo : Nat} {H : Hp} {C : List Cst} {sd f r n : Int} {bd : List V}
theorem r_bsq (h0 : attrV (.obj g) 0 H = some (.int f)) (h1 : attrV (.obj g) 1 H = some (.int r)) (hn : small (Builtin.bitAnd (Int.fdiv n 8) 7) = true) :
    rn (d + 1) 12 [.obj g, .int n] H = some (.ret (.int (bsqN f r n)), H) := by
  rw [run_succ]
  show endOf (evB (cx d) b_board_square [some (.obj g), some (.int n), none, none] H) = _
  have m1 : ibin .mul (Builtin.bitAnd (Int.fdiv n 8) 7) f = some (Builtin.bitAnd (Int.fdiv n 8) 7 * f) := by show grd (small _) _ = _; rw [hn]; rfl
  have e := (sIfRet (c := cx d) (σ := [some (.obj g), some (.int n), some (.int (Builtin.bitAnd n 7)), some (.int (Builtin.bitAnd (Int.fdiv n 8) 7))]) (H := H) (t := .or_ [(.cmp .ge (.loc 2) (.attr (.loc 0) 0)), (.cmp .ge (.loc 3) (.attr (.loc 0) 1))]) (e := .neg (.cint 1)) (r := [.ret (.bin .add (.bin .mul (.loc 3) (.attr (.loc 0) 0)) (.loc 2))])
    (p := decide (f ≤ Builtin.bitAnd n 7) || (decide (r ≤ Builtin.bitAnd (Int.fdiv n 8) 7) || false)) (x := .int (-1)) (tOrL (toC (tCmp rfl (eAttr rfl h0) rfl) (toC (tCmp rfl (eAttr rfl h1) rfl) rfl))) rfl)
  rw [evB_ret (sRet (eBin (eBin rfl (eAttr rfl h0) (bInt m1)) rfl rfl))] at e
  refine (congrArg endOf ((evB_next (sAssign (eBin rfl rfl rfl))).trans ((evB_next (sAssign (eBin (eBin rfl rfl rfl) rfl rfl))).trans e))).trans ?_
  unfold bsqN
  by_cases e0 : f ≤ Builtin.bitAnd n 7
  · rw [if_pos (c := f ≤ Builtin.bitAnd n 7 ∨ r ≤ Builtin.bitAnd (Int.fdiv n 8) 7) (.inl e0), decide_eq_true e0]; rfl
  · by_cases e1 : r ≤ Builtin.bitAnd (Int.fdiv n 8) 7
    · rw [if_pos (c := f ≤ Builtin.bitAnd n 7 ∨ r ≤ Builtin.bitAnd (Int.fdiv n 8) 7) (.inr e1), decide_eq_false e0, decide_eq_true e1]; rfl
    · rw [if_neg (c := f ≤ Builtin.bitAnd n 7 ∨ r ≤ Builtin.bitAnd (Int.fdiv n 8) 7) (fun z => z.elim e0 e1), decide_eq_false e0, decide_eq_false e1]; rfl
theorem r_make {a b : Int} (h : small a = true) : rn (d + 1) 0 [.int a, .int b] H = some (.ret (.int (a * 8 + b)), H) := by
  rw [run_succ]
  show endOf (evB (cx d) b_make_piece [some (.int a), some (.int b)] H) = _
  have m1 : ibin .mul a 8 = some (a * 8) := by show grd (small a) _ = _; rw [h]; rfl
  exact congrArg endOf (evB_ret (sRet (eBin (eBin rfl rfl (bInt m1)) rfl rfl)))
noncomputable def bmvN (C : List Cst) (sd king goal x promo : Int) : Int :=
  if x = sd * 8 + 4 then (if promo ≠ 0 then 0 else cgofN C sd king goal) else (if promo ≠ 0 then 0 else packN king goal 0)
theorem r_board_move {x : Int} {i j : Nat} (hp : attrV (.obj p) 3 H = some (.obj g)) (hs : attrV (.obj p) 4 H = some (.int sd)) (hb : attrV (.obj p) 5 H = some (.obj bo))
    (h0 : attrV (.obj g) 0 H = some (.int f)) (h1 : attrV (.obj g) 1 H = some (.int r)) (h2 : attrV (.obj g) 2 H = some (.obj k)) (hC : H[k]? = some (.list (C.map castV))) (hl : C.length = 4)
    (hB : H[bo]? = some (.list bd)) (hn0 : 0 ≤ n) (hn1 : n < 32768) (hsd : sd = 0 ∨ sd = 1)
    (q1 : small (Builtin.bitAnd (Int.fdiv n 8) 7) = true) (q2 : small (Builtin.bitAnd (Int.fdiv (Int.fdiv n 64) 8) 7) = true)
    (e1 : bsqN f r n = j) (e2 : bsqN f r (Int.fdiv n 64) = i) (hij : i ≠ j) (hi : i < 1000) (hj : j < 1000)
    (hK : bd[i]? = some (.int (sd * 8 + 6))) (hx : bd[j]? = some (.int x)) :
    rn (d + 3) 16 [.obj p, .int n] H = some (.ret (.int (bmvN C sd i j x (Int.fdiv n 4096))), H) := by
  rw [run_succ]
  show endOf (evB (cx (d + 2)) b_board_move [some (.obj p), some (.int n), none, none, none, none, none] H) = _
  have c1 : rn (d + 2) 12 [.obj g, .int n] H = some (.ret (.int j), H) := by rw [r_bsq h0 h1 q1, e1]
  have c2 : rn (d + 2) 12 [.obj g, .int (Int.fdiv n 64)] H = some (.ret (.int i), H) := by rw [r_bsq h0 h1 q2, e2]
  have c3 : rn (d + 2) 15 [.obj p, .int i, .int j] H = some (.ret (.int (cgofN C sd i j)), H) := r_castling_of hp hs h2 hC hl (small_of (by omega))
  have c4 : rn (d + 2) 6 [.int i, .int j, .int 0, .int 0] H = some (.ret (.int (packN i j 0)), H) := r_pack (small_of (by omega)) rfl (by decide)
  have i1 : idxV (.obj bo) (.int i) H = some (.int (sd * 8 + 6)) := idx_list hB (by omega) hK
  have i2 : idxV (.obj bo) (.int j) H = some (.int x) := idx_list hB (by omega) hx
  have n0 : ¬ n < 0 := by omega
  have n1 : ¬ 32768 ≤ n := by omega
  have n2 : ¬ (j : Int) < 0 := by omega
  have n3 : ¬ (i : Int) < 0 := by omega
  have n4 : ¬ (j : Int) = i := by omega
  have c5 : ∀ m, rn (d + 2) 0 [.int sd, .int m] H = some (.ret (.int (sd * 8 + m)), H) := fun m => r_make (by rcases hsd with rfl | rfl <;> rfl)
  have c6 : rn (d + 2) 1 [.int (sd * 8 + 6)] H = some (.ret (.int sd), H) := by rcases hsd with rfl | rfl <;> rfl
  have c7 : rn (d + 2) 2 [.int (sd * 8 + 6)] H = some (.ret (.int 6), H) := by rcases hsd with rfl | rfl <;> rfl
  have n5 : ¬ sd * 8 + 6 = 0 := by omega
  let l (i : Int) : Lo := [some (.obj p), some (.int n), some (.obj g), some (.int j), some (.int i), some (.int (Int.fdiv n 4096)), some (.int (sd * 8 + 6))]
  have s1 : evB (cx (d + 2)) b_board_move [some (.obj p), some (.int n), none, none, none, none, none] H = evB (cx (d + 2)) (b_board_move.drop 8) (l i) H :=
    (evB_next (sAssign (eAttr rfl hp))).trans <| (evB_next (evS_if_false (tOrL (toC (tCmp rfl rfl (no_lt n0)) (toC (tCmp rfl rfl (no_ge n1)) rfl))))).trans <|
    (evB_next (sAssign (eCall (eCons rfl (eCons rfl eNil)) c1))).trans <| (evB_next (sAssign (eCall (eCons rfl (eCons (eBin rfl rfl rfl) eNil)) c2))).trans <| (evB_next (sAssign (eBin rfl rfl rfl))).trans <|
    (evB_next (evS_if_false (tOrL (toC (tCmp rfl rfl (no_lt n2)) (toC (tCmp rfl rfl (no_lt n3)) (toC (tCmp rfl rfl (no_eq n4)) rfl)))))).trans <|
    (evB_next (sAssign (eIdx (eAttr rfl hb) rfl i1))).trans <| evB_next (evS_if_false (tOrL (toC (tCmp rfl (eGlob gl8) (no_eq n5)) (toC (evT_ne0 (eCall (eCons rfl eNil) c6) (eAttr rfl hs)) rfl))))
  have t8 : evT (cx (d + 2)) (l i) (.and_ [(.cmp .eq (.loc 6) (.call 0 [(.attr (.loc 0) 4), (.glob 7)])), (.cmp .eq (.idx (.attr (.loc 0) 5) (.loc 3)) (.call 0 [(.attr (.loc 0) 4), (.glob 5)]))]) H = some (decide (sd * 8 + 6 = sd * 8 + 6) && (decide (x = sd * 8 + 4) && true), H) :=
    tAndL (taC (tCmp rfl (eCall (eCons (eAttr rfl hs) (eCons (eGlob gl7) eNil)) (c5 6)) rfl) (taC (tCmp (eIdx (eAttr rfl hb) rfl i2) (eCall (eCons (eAttr rfl hs) (eCons (eGlob gl5) eNil)) (c5 4)) rfl) rfl))
  have t9 : evT (cx (d + 2)) (l i) (.cmp .ne (.loc 5) (.cint 0)) H = some (!(Int.fdiv n 4096 == 0), H) := evT_ne rfl rfl
  have rr : ∀ {e : X} {y : V} (r : List S), evE (cx (d + 2)) (l i) e H = some (y, H) → evB (cx (d + 2)) (.if_ (.cmp .ne (.loc 5) (.cint 0)) [.ret (.glob 13)] [] :: .ret e :: r) (l i) H = some (.ret (if Int.fdiv n 4096 ≠ 0 then .int 0 else y), l i, H) := fun r he => by
    rw [sIfRet t9 (eGlob gl13), evB_ret (sRet he), ibeq]
    by_cases q : Int.fdiv n 4096 = 0
    · rw [decide_eq_true q, if_neg (c := Int.fdiv n 4096 ≠ 0) (fun z => z q)]; rfl
    · rw [decide_eq_false q, if_pos (c := Int.fdiv n 4096 ≠ 0) q]; rfl
  rw [s1]
  unfold bmvN
  rw [decide_eq_true rfl, Bool.true_and, Bool.and_true] at t8
  by_cases e3 : x = sd * 8 + 4
  · rw [decide_eq_true e3] at t8
    rw [if_pos e3]
    refine (congrArg endOf (evB_ret ((evS_if_true t8).trans (rr [] (eCall (eCons rfl (eCons rfl (eCons rfl eNil))) c3))))).trans ?_
    by_cases q : Int.fdiv n 4096 = 0
    · rw [if_neg (fun z => z q), if_neg (fun z => z q)]; rfl
    · rw [if_pos q, if_pos q]; rfl
  · rw [decide_eq_false e3] at t8
    rw [if_neg e3]
    refine (congrArg endOf ((evB_next (evS_if_false t8)).trans ((evB_next (evS_if_false (tCmp (eCall (eCons rfl eNil) c7) (eGlob gl3) (no_eq (by decide))))).trans (rr [] (eCall (eCons rfl (eCons rfl (eCons (eGlob gl9) (eCons (eGlob gl2) eNil)))) c4))))).trans ?_
    by_cases q : Int.fdiv n 4096 = 0
    · rw [if_neg (fun z => z q), if_neg (fun z => z q)]; rfl
    · rw [if_pos q, if_pos q]; rfl
end
end Mine
end
/-! Pl6 -/
section
set_option Elab.async false
set_option genSizeOf false
set_option linter.all false
set_option maxRecDepth 100000
set_option maxHeartbeats 4000000
open PySem
namespace Mine
noncomputable def bkN (f s : Int) : Int := Builtin.bitOr (Int.fmod s f) (Int.fdiv s f * 8)
theorem small_fdiv {f s : Int} (hf : 0 < f) (hs : 0 ≤ s) (hs2 : s < 1000) : small (Int.fdiv s f) = true := by
  have : Int.fdiv s f = s / f := Int.fdiv_eq_ediv_of_nonneg _ (by omega)
  rw [this]
  have h5 : 0 ≤ s / f := Int.ediv_nonneg hs (by omega)
  have h6 : s / f ≤ s := Int.ediv_le_self _ hs
  exact small_of (by omega)
theorem is_lt {u v : Int} {H : Hp} (h : u < v) : cmpV .lt (.int u) (.int v) H = some true := congrArg some (decide_eq_true h)
theorem sTry {c : Cx} {σ : Lo} {H H1 H2 : Hp} {f : Nat} {args : List X} {l : List V} {i : Int} (ha : evL c σ args H = some (l, H1)) (hc : c.cf f l H1 = some (.exc (.int i), H2)) : evS c (.tryRet f args) σ H = some (.ret (.int (-i)), σ, H2) := by
  show (evL c σ args H).bind _ = _
  rw [ha]
  show (c.cf f l H1).bind _ = _
  rw [hc]; rfl
theorem sTryR {c : Cx} {σ : Lo} {H H1 H2 : Hp} {f : Nat} {args : List X} {l : List V} {v : V} (ha : evL c σ args H = some (l, H1)) (hc : c.cf f l H1 = some (.ret v, H2)) : evS c (.tryRet f args) σ H = some (.ret v, σ, H2) := by
  show (evL c σ args H).bind _ = _
  rw [ha]
  show (c.cf f l H1).bind _ = _
  rw [hc]; rfl
section
variable {d g k : Nat} {H : Hp} {C : List Cst} {f m : Int}
theorem r_bk {s : Int} (h0 : attrV (.obj g) 0 H = some (.int f)) (hf : 0 < f) (hf2 : f < 1000) (hs : 0 ≤ s) (hs2 : s < 1000) : rn (d + 1) 11 [.obj g, .int s] H = some (.ret (.int (bkN f s)), H) := by
  rw [run_succ]
  show endOf (evB (cx d) b_book_square [some (.obj g), some (.int s)] H) = _
  have h1 : (f == 0) = false := by simp; omega
  have h2 : small s = true := small_of (by omega)
  have h3 : Nat.blt f.natAbs 1073741824 = true := by rw [Nat.blt_eq]; omega
  have h4 : small (Int.fdiv s f) = true := small_fdiv hf hs hs2
  have m1 : ibin .mod s f = some (Int.fmod s f) := by show grd (!(f == 0)) _ = _; rw [h1]; rfl
  have m2 : ibin .fdiv s f = some (Int.fdiv s f) := by show grd (!(f == 0)) (grd (small s && Nat.blt f.natAbs 1073741824) _) = _; rw [h1, h2, h3]; rfl
  have m3 : ibin .shl (Int.fdiv s f) 3 = some (Int.fdiv s f * 8) := by show grd (small (Int.fdiv s f) && true) _ = _; rw [h4]; rfl
  exact congrArg endOf (evB_ret (sRet (eBin (eBin rfl (eAttr rfl h0) (bInt m1)) (eBin (eBin rfl (eAttr rfl h0) (bInt m2)) rfl (bInt m3)) rfl)))
theorem r_told_no {a b : Int} (h2 : attrV (.obj g) 2 H = some (.obj k)) (hC : H[k]? = some (.list (C.map castV))) (hl : C.length = 4)
    (e1 : Builtin.bitAnd (Int.fdiv m 64) 63 = a) (e2 : Builtin.bitAnd m 63 = b) (e3 : Builtin.bitAnd (Int.fdiv m 16384) 3 = 3) (hc : cofN C a b < 0) :
    rn (d + 3) 40 [.obj g, .int m] H = some (.ret (.int (-m)), H) := by
  have hb : rn (d + 2) 14 [.obj g, .int m] H = some (.exc (.int m), H) := by
    rw [run_succ]
    show endOf (evB (cx (d + 1)) b_book_move [some (.obj g), some (.int m), none, none, none, none] H) = _
    have c1 : rn (d + 1) 7 [.int m] H = some (.ret (.int a), H) := by rw [r_from, e1]
    have c2 : rn (d + 1) 8 [.int m] H = some (.ret (.int b), H) := by rw [r_to, e2]
    have c3 : rn (d + 1) 9 [.int m] H = some (.ret (.int 3), H) := by rw [r_special, e3]
    have c4 : rn (d + 1) 13 [.obj g, .int a, .int b] H = some (.ret (.int (cofN C a b)), H) := r_castle_of h2 hC hl
    exact congrArg endOf ((evB_next (sAssign (eCall (eCons rfl eNil) c1))).trans ((evB_next (sAssign (eCall (eCons rfl eNil) c2))).trans (evB_exc ((evS_if_true (tCmp (eCall (eCons rfl eNil) c3) (eGlob gl12) rfl)).trans
      ((evB_next (sAssign (eCall (eCons rfl (eCons rfl (eCons rfl eNil))) c4))).trans (evB_exc ((evS_if_true (tCmp rfl rfl (is_lt hc))).trans (evB_exc (σ' := [some (.obj g), some (.int m), some (.int a), some (.int b), some (.int (cofN C a b)), none]) rfl))))))))
  rw [run_succ]
  show endOf (evB (cx (d + 2)) b_law_told [some (.obj g), some (.int m), none] H) = _
  exact congrArg endOf (evB_ret (sTry rfl hb))
theorem r_told_yes {a b h' g' c' x' : Int} {n : Nat} (h0 : attrV (.obj g) 0 H = some (.int f)) (h2 : attrV (.obj g) 2 H = some (.obj k)) (hC : H[k]? = some (.list (C.map castV))) (hl : C.length = 4)
    (e1 : Builtin.bitAnd (Int.fdiv m 64) 63 = a) (e2 : Builtin.bitAnd m 63 = b) (e3 : Builtin.bitAnd (Int.fdiv m 16384) 3 = 3) (hc : cofN C a b = n) (hn : n < 4) (hq : C[n]? = some (some (h', g', c', x')))
    (hf : 0 < f) (hf2 : f < 1000) (ha : 0 ≤ a) (ha2 : a < 1000) (hc1 : 0 ≤ c') (hc2 : c' < 1000) (hs : small (bkN f a) = true) :
    rn (d + 3) 40 [.obj g, .int m] H = some (.ret (.int (Builtin.bitOr (Builtin.bitOr (bkN f c') (bkN f a * 64)) 0)), H) := by
  have hi : idxV (.obj k) (.int n) H = some (castV (some (h', g', c', x'))) := idx_list hC (by omega) (by simp [hq])
  have hb : rn (d + 2) 14 [.obj g, .int m] H = some (.ret (.int (Builtin.bitOr (Builtin.bitOr (bkN f c') (bkN f a * 64)) 0)), H) := by
    rw [run_succ]
    show endOf (evB (cx (d + 1)) b_book_move [some (.obj g), some (.int m), none, none, none, none] H) = _
    have c1 : rn (d + 1) 7 [.int m] H = some (.ret (.int a), H) := by rw [r_from, e1]
    have c2 : rn (d + 1) 8 [.int m] H = some (.ret (.int b), H) := by rw [r_to, e2]
    have c3 : rn (d + 1) 9 [.int m] H = some (.ret (.int 3), H) := by rw [r_special, e3]
    have c4 : rn (d + 1) 13 [.obj g, .int a, .int b] H = some (.ret (.int n), H) := by rw [r_castle_of h2 hC hl, hc]
    have c5 : rn (d + 1) 11 [.obj g, .int c'] H = some (.ret (.int (bkN f c')), H) := r_bk h0 hf hf2 hc1 hc2
    have c6 : rn (d + 1) 11 [.obj g, .int a] H = some (.ret (.int (bkN f a)), H) := r_bk h0 hf hf2 ha ha2
    have n0 : ¬ (n : Int) < 0 := by omega
    have i2 : idxV (castV (some (h', g', c', x'))) (.int 2) H = some (.int c') := rfl
    have s0 : small 0 = true := rfl
    have m1 : ibin .shl (bkN f a) 6 = some (bkN f a * 64) := by show grd (small (bkN f a) && true) _ = _; rw [hs]; rfl
    exact congrArg endOf ((evB_next (sAssign (eCall (eCons rfl eNil) c1))).trans ((evB_next (sAssign (eCall (eCons rfl eNil) c2))).trans ((evB_next ((evS_if_true (tCmp (eCall (eCons rfl eNil) c3) (eGlob gl12) rfl)).trans
      ((evB_next (sAssign (eCall (eCons rfl (eCons rfl (eCons rfl eNil))) c4))).trans ((evB_next (evS_if_false (tCmp rfl rfl (no_lt n0)))).trans (evB_one (sAssign (eIdx (eIdx (eAttr rfl h2) rfl hi) rfl i2))))))).trans
      ((evB_next (sAssign (x := .int 0) (H1 := H) rfl)).trans ((evB_next (evS_if_false (tCmp (eCall (eCons rfl eNil) c3) (eGlob gl10) (no_eq (by decide))))).trans
      (evB_ret (sRet (eBin (eBin (eCall (eCons rfl (eCons rfl eNil)) c5) (eBin (eCall (eCons rfl (eCons rfl eNil)) c6) rfl (bInt m1)) rfl) (eBin rfl rfl rfl) rfl))))))))
  rw [run_succ]
  show endOf (evB (cx (d + 2)) b_law_told [some (.obj g), some (.int m), none] H) = _
  exact congrArg endOf (evB_ret (sTryR rfl hb))
end
end Mine
end
/-! Pl7 -/
section
set_option Elab.async false
set_option genSizeOf false
set_option linter.all false
set_option maxRecDepth 100000
set_option maxHeartbeats 4000000
open PySem
namespace Mine
theorem loopC_pure {nx : Hp → Nat → Option (Option V)} {b : V → Hp → Option (Option V × Hp)} {H : Hp} {l : List V} {g : V → Option V} (hn : ∀ i, nx H i = some l[i]?) (hb : ∀ v ∈ l, b v H = some (g v, H)) :
    ∀ (m i f : Nat) (acc : List V), i + m = l.length → m < f → loopC nx b f i acc H = some (acc ++ (l.drop i).filterMap g, H)
  | 0, i, f + 1, acc, h, _ => by
    rw [loopC, hn, List.getElem?_eq_none (by omega), List.drop_eq_nil_of_le (by omega)]
    simp
  | m + 1, i, f + 1, acc, h, hf => by
    have lt : i < l.length := by omega
    rw [loopC, hn, List.getElem?_eq_getElem lt]
    dsimp only
    rw [hb _ (List.getElem_mem lt), List.drop_eq_getElem_cons lt]
    cases q : g l[i] with
    | none => dsimp only; rw [loopC_pure hn hb m (i + 1) f acc (by omega) (by omega), List.filterMap_cons_none q]
    | some w => dsimp only; rw [loopC_pure hn hb m (i + 1) f _ (by omega) (by omega), List.filterMap_cons_some q, List.append_assoc, List.singleton_append]
theorem comp_gen {c : Cx} {σ : Lo} {elt it : X} {slot : Nat} {ifs : List T} {caps : List Nat} {H H0 : Hp} {a : V} {l : List V} {g : V → Option V} (hit : evE c σ it H = some (a, H)) (hf : freeze a H = some H0) (hn : ∀ i, nextV a H0 i = some l[i]?) (hlen : l.length < 1000)
    (hb : ∀ v ∈ l, compT c σ slot elt ifs v H0 = some (g v, H0)) (ht : thaw a H0 = H) : evE c σ (.comp elt slot it ifs caps) H = some (.obj H.length, H ++ [.list (l.filterMap g)]) := by
  have e : H0.length = H.length := by rw [← ht, thaw_length]
  rw [evE_comp, hit, Option.bind_some, hf, Option.bind_some, loopC_pure hn hb l.length 0 turns [] (by omega) hlen, Option.bind_some]
  simp only [ht, e, List.drop_zero, List.nil_append]
theorem comp_list {c : Cx} {σ : Lo} {elt it : X} {slot : Nat} {ifs : List T} {caps : List Nat} {H : Hp} {k : Nat} {l : List V} {g : V → Option V} (hit : evE c σ it H = some (.obj k, H)) (hl : H[k]? = some (.list l)) (hlen : l.length < 1000)
    (hb : ∀ v ∈ l, compT c σ slot elt ifs v H = some (g v, H)) : evE c σ (.comp elt slot it ifs caps) H = some (.obj H.length, H ++ [.list (l.filterMap g)]) :=
  comp_gen hit (by simp only [freeze, hl, onV, onO, grd_true, grd_false]) (fun i => by simp only [nextV, hl, onV, onO, grd_true, grd_false]) hlen hb (by simp only [thaw, hl, onV, onO])
noncomputable abbrev Row := Int × Int × Int × Int
noncomputable def rowV : Row → V | (i, h, g, c) => .tup [.int i, .int h, .int g, .int c]
theorem comp_rows {c : Cx} {σ : Lo} {elt it : X} {slot : Nat} {ifs : List T} {caps : List Nat} {H : Hp} {k : Nat} {T : List Row} {g : Row → Option Int} (hit : evE c σ it H = some (.obj k, H)) (hl : H[k]? = some (.list (T.map rowV))) (hlen : T.length < 1000)
    (hb : ∀ r, r ∈ T → compT c σ slot elt ifs (rowV r) H = some ((g r).map .int, H)) : evE c σ (.comp elt slot it ifs caps) H = some (.obj H.length, H ++ [.list ((T.filterMap g).map .int)]) := by
  let gv : V → Option V := fun v => match v with | .tup [.int i, .int h, .int g', .int c] => (g (i, h, g', c)).map .int | _ => none
  have := comp_list (g := gv) (elt := elt) (slot := slot) (ifs := ifs) (caps := caps) hit hl (by simpa using hlen) (fun v hv => by
    refine byC fun nG => ?_
    obtain ⟨r, hr, rfl⟩ := List.mem_map.mp hv
    refine nG ?_
    exact hb r hr)
  rw [this]
  have e : (T.map rowV).filterMap gv = (T.filterMap g).map .int := by
    rw [List.filterMap_map, List.map_filterMap]
    rfl
  rw [e]
theorem allInt_map : ∀ (l : List Int), allInt (l.map .int) = some l
  | [] => rfl
  | x :: l => by rw [List.map_cons, allInt, allInt_map l]; rfl
theorem hp_app {H : Hp} {k : Nat} {o : O} (G : Hp) (h : H[k]? = some o) : (H ++ G)[k]? = some o := by
  rw [List.getElem?_append_left (List.getElem?_eq_some_iff.mp h).1]; exact h
theorem attr_app {H : Hp} {k a : Nat} {v : V} (G : Hp) (h : attrV (.obj k) a H = some v) : attrV (.obj k) a (H ++ G) = some v :=
  oInst_in h fun c as e hv => by
    show oInst (H ++ G)[k]? _ = _
    rw [hp_app G e]; exact hv
theorem new0 {H t : Hp} {o : O} : (H ++ o :: t)[H.length]? = some o := by
  rw [List.getElem?_append_right (Nat.le_refl _), Nat.sub_self]; rfl
theorem new1 {H t : Hp} {o o' : O} : (H ++ o :: o' :: t)[H.length + 1]? = some o' := by
  rw [List.getElem?_append_right (by omega), Nat.add_sub_cancel_left]; rfl
noncomputable def headM (a : Int) : List Int → Int
  | [] => 0
  | x :: _ => 49152 + 64 * a + x
noncomputable def stepsN (T : List Row) (a b : Int) : List Int := T.filterMap fun (i, h, g, _) => if h = a ∧ g = b then some i else none
noncomputable def meantN (T : List Row) (sd a b : Int) : List Int := T.filterMap fun (i, h, g, c) => if Int.fdiv i 2 = sd ∧ h = a ∧ c = b then some g else none
/-- what the law asks of castle_of and castling_of -/
noncomputable def okPair (C : List Cst) (T : List Row) (sd a b : Int) : Bool := cofN C a b == (stepsN T a b).headD (-1) && cgofN C sd a b == headM a (meantN T sd a b)
noncomputable def pbody : List S := match b_law.drop 10 with | .for_ _ _ [.for_ _ _ [.for_ _ _ b]] :: _ => b | _ => []
theorem ev_empty {c : Cx} {σ : Lo} {i k : Nat} {H : Hp} {l : List Int} (hσ : σ[i]? = some (some (.obj k))) (hk : H[k]? = some (.list (l.map .int))) :
    evT c σ (.cmp .ne (.loc i) (.list [])) H = some (!l.isEmpty, H ++ [.list []]) := by
  refine tCmp (eLoc hσ) rfl ?_
  show (oList (H ++ [O.list []])[k]? fun x => oList (H ++ [O.list []])[H.length]? fun y => eqL x y).bind _ = _
  rw [hp_app _ hk, new0]
  show ((allInt (l.map .int)).bind _).bind _ = _
  rw [allInt_map]
  cases l <;> rfl
theorem tern {c : Cx} {σ : Lo} {t : T} {x y : X} {H H1 : Hp} {q : Bool} {u v : V} (ht : evT c σ t H = some (q, H1)) (h1 : q = true → evE c σ x H1 = some (u, H1)) (h2 : q = false → evE c σ y H1 = some (v, H1)) : evE c σ (.ite t x y) H = some (if q = true then u else v, H1) := by
  show (evT c σ t H).bind _ = _
  rw [ht]
  cases q with
  | true => exact h1 rfl
  | false => exact h2 rfl
theorem idx_head {c : Cx} {σ : Lo} {i k : Nat} {H : Hp} {l : List Int} (hσ : σ[i]? = some (some (.obj k))) (hk : H[k]? = some (.list (l.map .int))) (h : (!l.isEmpty) = true) : evE c σ (.idx (.loc i) (.cint 0)) (H ++ [.list []]) = some (.int (l.headD (-1)), H ++ [.list []]) := by
  refine eIdx (eLoc hσ) rfl ?_
  cases l with
  | nil => cases h
  | cons x r => exact idx_list (n := 0) (hp_app _ hk) (Nat.zero_le _) rfl
theorem ev_head {c : Cx} {σ : Lo} {i k : Nat} {H : Hp} {l : List Int} (hσ : σ[i]? = some (some (.obj k))) (hk : H[k]? = some (.list (l.map .int))) :
    evE c σ (.ite (.cmp .ne (.loc i) (.list [])) (.idx (.loc i) (.cint 0)) (.neg (.cint 1))) H = some (.int (l.headD (-1)), H ++ [.list []]) := by
  rw [tern (ev_empty hσ hk) (idx_head hσ hk) (fun q_ => (rfl : evE c σ (.neg (.cint 1)) (H ++ [.list []]) = some (.int (-1), H ++ [.list []])))]
  cases l <;> rfl
theorem ev_head2 {c : Cx} {σ : Lo} {i j k : Nat} {H : Hp} {l : List Int} {a : Int} (hσ : σ[i]? = some (some (.obj k))) (hj : σ[j]? = some (some (.int a))) (hk : H[k]? = some (.list (l.map .int))) :
    evE c σ (.ite (.cmp .ne (.loc i) (.list [])) (.bin .add (.bin .add (.cint 49152) (.bin .mul (.cint 64) (.loc j))) (.idx (.loc i) (.cint 0))) (.cint 0)) H = some (.int (headM a l), H ++ [.list []]) := by
  rw [tern (ev_empty hσ hk) (fun q => eBin (eBin rfl (eBin rfl (eLoc hj) rfl) rfl) (idx_head hσ hk q) rfl) (fun q_ => (rfl : evE c σ (.cint 0) (H ++ [.list []]) = some (.int 0, H ++ [.list []])))]
  cases l <;> rfl
theorem row_int (p : Prop) [Decidable p] {q : Bool} (h : q = decide p) (x : Int) : (if q = true then some (V.int x) else none) = (if p then some x else none : Option Int).map V.int := by
  subst h
  by_cases p <;> simp [*]
section
variable {d p g k : Nat} {H : Hp} {C : List Cst} {T : List Row} {sd a b : Int} {x0 x1 x2 x3 x4 x7 x9 x10 x11 x14 x15 x16 x17 x18 x19 x20 x21 : Option V}
theorem pair_next (hT : H[4]? = some (.list (T.map rowV))) (hTl : T.length < 1000) (hp : attrV (.obj p) 3 H = some (.obj 5)) (hs : attrV (.obj p) 4 H = some (.int sd)) (h0 : attrV (.obj 5) 2 H = some (.obj k)) (hC : H[k]? = some (.list (C.map castV))) (hl : C.length = 4)
    (ha : small a = true) (hTs : ∀ r, r ∈ T → small r.1 = true) (hab : a ≠ b) (ok : okPair C T sd a b = true) :
    ∃ y14 y15 G, evB (cx (d + 2)) pbody [x0, x1, x2, x3, x4, some (.obj 4), some (.obj 5), x7, some (.obj p), x9, x10, x11, some (.int a), some (.int b), x14, x15, x16, x17, x18, x19, x20, x21] H =
      some (.next, [x0, x1, x2, x3, x4, some (.obj 4), some (.obj 5), x7, some (.obj p), x9, x10, x11, some (.int a), some (.int b), y14, y15, x16, x17, x18, x19, x20, x21], H ++ G) ∧ G.length = 4 := by
  unfold okPair at ok
  rw [Bool.and_eq_true, beq_iff_eq, beq_iff_eq] at ok
  obtain ⟨o1, o2⟩ := ok
  have hab' : ¬ a = b := hab
  let l1 := stepsN T a b
  let l2 := meantN T sd a b
  let H1 := H ++ [.list (l1.map .int)]
  let H2 := H1 ++ [.list []]
  let H3 := H2 ++ [.list (l2.map .int)]
  let H4 := H3 ++ [.list []]
  let σ0 : Lo := [x0, x1, x2, x3, x4, some (.obj 4), some (.obj 5), x7, some (.obj p), x9, x10, x11, some (.int a), some (.int b), x14, x15, x16, x17, x18, x19, x20, x21]
  let σ1 : Lo := [x0, x1, x2, x3, x4, some (.obj 4), some (.obj 5), x7, some (.obj p), x9, x10, x11, some (.int a), some (.int b), some (.obj H.length), x15, x16, x17, x18, x19, x20, x21]
  let σ2 : Lo := [x0, x1, x2, x3, x4, some (.obj 4), some (.obj 5), x7, some (.obj p), x9, x10, x11, some (.int a), some (.int b), some (.obj H.length), some (.obj H2.length), x16, x17, x18, x19, x20, x21]
  refine ⟨some (.obj H.length), some (.obj H2.length), [.list (l1.map .int), .list [], .list (l2.map .int), .list []], ?_, rfl⟩
  have f1 := ev_head (c := cx (d + 2)) (σ := σ1) (i := 14) (H := H1) (l := l1) rfl new0
  have f2 := ev_head2 (c := cx (d + 2)) (σ := σ2) (i := 15) (j := 12) (H := H3) (l := l2) rfl rfl new0
  have hp2 : attrV (.obj p) 4 H2 = some (.int sd) := attr_app _ (attr_app _ hs)
  have c1 : rn (d + 2) 13 [.obj 5, .int a, .int b] H1 = some (.ret (.int (cofN C a b)), H1) := r_castle_of (attr_app _ h0) (hp_app _ hC) hl
  have c2 : rn (d + 2) 15 [.obj p, .int a, .int b] H3 = some (.ret (.int (cgofN C sd a b)), H3) := r_castling_of (attr_app _ (attr_app _ (attr_app _ hp))) (attr_app _ hp2) (attr_app _ (attr_app _ (attr_app _ h0))) (hp_app _ (hp_app _ (hp_app _ hC))) hl ha
  have k1 : ∀ (r : Row), r ∈ T → compT (cx (d + 2)) σ0 21 (.idx (.loc 21) (.cint 0)) [(.cmp .eq (.tup [(.idx (.loc 21) (.cint 1)), (.idx (.loc 21) (.cint 2))]) (.tup [(.loc 12), (.loc 13)]))] (rowV r) H = some (((fun (i, h, g, _) => if h = a ∧ g = b then some i else none : Row → Option Int) r).map .int, H) := by
    rintro ⟨i, h, g, c⟩ _
    rw [compT_one (b := (h == a) && ((g == b) && true)) (w := .int i) rfl rfl]
    exact congrArg (fun z => some (z, H)) (row_int _ (by rw [ibeq, ibeq, Bool.and_true, Bool.decide_and]) i)
  have k2 : ∀ (r : Row), r ∈ T → compT (cx (d + 2)) σ1 21 (.idx (.loc 21) (.cint 2)) [(.cmp .eq (.tup [(.bin .fdiv (.idx (.loc 21) (.cint 0)) (.cint 2)), (.idx (.loc 21) (.cint 1)), (.idx (.loc 21) (.cint 3))]) (.tup [(.attr (.loc 8) 4), (.loc 12), (.loc 13)]))] (rowV r) H2 = some (((fun (i, h, g, c) => if Int.fdiv i 2 = sd ∧ h = a ∧ c = b then some g else none : Row → Option Int) r).map .int, H2) := by
    rintro ⟨i, h, g, c⟩ hr
    have hd : binV .fdiv (.int i) (.int 2) H2 = some (.int (Int.fdiv i 2), H2) := by
      show ((grd (small i && true) _).bind _) = _
      rw [show small i = true from hTs _ hr]; rfl
    rw [compT_one (b := (Int.fdiv i 2 == sd) && ((h == a) && ((c == b) && true))) (w := .int g) (tCmp (eTup (eCons (eBin rfl rfl hd) (eCons rfl (eCons rfl eNil)))) (eTup (eCons (eAttr rfl hp2) (eCons rfl (eCons rfl eNil)))) rfl) rfl]
    exact congrArg (fun z => some (z, H2)) (row_int _ (by rw [ibeq, ibeq, ibeq, Bool.and_true, Bool.decide_and, Bool.decide_and]) g)
  have s1 := comp_rows (caps := [12, 13]) (c := cx (d + 2)) (σ := σ0) (it := .loc 5) (k := 4) rfl hT hTl k1
  have s2 := comp_rows (caps := [8, 12, 13]) (c := cx (d + 2)) (σ := σ1) (it := .loc 5) (k := 4) rfl (hp_app _ (hp_app _ hT)) hTl k2
  show evB (cx (d + 2)) [_, _, _, _, _] σ0 H = _
  have t0 : evT (cx (d + 2)) σ0 (.cmp .eq (.loc 12) (.loc 13)) H = some (false, H) := tCmp rfl rfl (show some (a == b) = some false by rw [ibeq, decide_eq_false hab])
  rw [evB_next (evS_if_false t0)]
  rw [evB_next (σ' := σ1) (H' := H1) (sAssign s1)]
  have t1 : evT (cx (d + 2)) σ1 (.cmp .ne (.call 13 [(.loc 6), (.loc 12), (.loc 13)]) (.ite (.cmp .ne (.loc 14) (.list [])) (.idx (.loc 14) (.cint 0)) (.neg (.cint 1)))) H1 = some (false, H2) := by
    rw [evT_ne (eCall (l := [.obj 5, .int a, .int b]) rfl c1) f1, o1]; simp [l1]; rfl
  have t2 : evT (cx (d + 2)) σ2 (.cmp .ne (.call 15 [(.loc 8), (.loc 12), (.loc 13)]) (.ite (.cmp .ne (.loc 15) (.list [])) (.bin .add (.bin .add (.cint 49152) (.bin .mul (.cint 64) (.loc 12))) (.idx (.loc 15) (.cint 0))) (.cint 0))) H3 = some (false, H4) := by
    rw [evT_ne (eCall (l := [.obj p, .int a, .int b]) rfl c2) f2, o2]; simp [l2]; rfl
  rw [evB_next (evS_if_false t1)]
  rw [evB_next (σ' := σ2) (H' := H3) (sAssign s2)]
  rw [evB_next (evS_if_false t2)]
  rw [evB]
  have e4 : H4 = H ++ [.list (l1.map .int), .list [], .list (l2.map .int), .list []] := by simp [H4, H3, H2, H1]
  rw [e4]
end
end Mine
end
/-! Pl8 -/
section
set_option Elab.async false
set_option genSizeOf false
set_option linter.all false
set_option maxRecDepth 100000
set_option maxHeartbeats 4000000
open PySem
namespace Mine
theorem loop_idx {nx : Hp → Nat → Option (Option V)} {b : V → Lo → Hp → Option (R × Lo × Hp)} {P : Nat → Lo → Hp → Prop} {N : Nat} {item : Nat → V}
    (hn : ∀ σ H i, P i σ H → i < N → nx H i = some (some (item i))) (hz : ∀ σ H, P N σ H → nx H N = some none)
    (hb : ∀ i, i < N → ∀ σ H, P i σ H → ∃ r σ' H', (r = .next ∨ r = .cont) ∧ b (item i) σ H = some (r, σ', H') ∧ P (i + 1) σ' H') :
    ∀ (m i f : Nat) (σ : Lo) (H : Hp), i + m = N → m < f → P i σ H → ∃ σ' H', loop nx b f i σ H = some (.next, σ', H') ∧ P N σ' H'
  | 0, i, f + 1, σ, H, h, _, p => by
    have e : i = N := by omega
    subst e
    exact ⟨σ, H, by rw [loop, hz σ H p], p⟩
  | m + 1, i, f + 1, σ, H, h, hf, p => by
    refine byC fun nG => ?_
    obtain ⟨r, σ1, H1, hr, e1, p1⟩ := hb i (by omega) σ H p
    obtain ⟨σ2, H2, e2, p2⟩ := loop_idx hn hz hb m (i + 1) f σ1 H1 (by omega) (by omega) p1
    refine nG ?_
    refine ⟨σ2, H2, ?_, p2⟩
    rw [loop, hn σ H i p (by omega)]
    dsimp only
    rw [e1]
    rcases hr with rfl | rfl <;> exact e2
theorem for_rng {c : Cx} {i : Nat} {it : X} {body : List S} {a : Int} {N : Nat} {P : Nat → Lo → Hp → Prop} {σ : Lo} {H H1 : Hp} (hit : evE c σ it H = some (.rng a 1 N, H1)) (hN : N < 1000)
    (hb : ∀ n, n < N → ∀ σ H, P n σ H → ∃ r σ' H', (r = .next ∨ r = .cont) ∧ evB c body (σ.set i (some (.int (a + n)))) H = some (r, σ', H') ∧ P (n + 1) σ' H') (p : P 0 σ H1) :
    ∃ σ' H', evS c (.for_ i it body) σ H = some (.next, σ', H') ∧ P N σ' H' := by
  refine byC fun nG => ?_
  obtain ⟨σ', H', e, p'⟩ := loop_idx (nx := nextV (.rng a 1 N)) (b := forT c i body) (P := P) (N := N) (item := fun n => .int (a + n))
    (fun σ H n q_ hn => by
      have : Nat.blt n N = true := by rw [Nat.blt_eq]; exact hn
      simp [nextV, this]) (fun σ H q_ => by
      have : Nat.blt N N = false := by rw [Bool.eq_false_iff, ne_eq, Nat.blt_eq]; omega
      simp [nextV, this]) hb N 0 turns σ H1 (by omega) hN p
  refine nG ?_
  exact ⟨σ', H', by rw [evS_for, hit, Option.bind_some, freeze_rng (by omega), Option.bind_some, e]; rfl, p'⟩
theorem for_tup {c : Cx} {i : Nat} {it : X} {body : List S} {l : List V} {P : Nat → Lo → Hp → Prop} {σ : Lo} {H H1 : Hp} (hit : evE c σ it H = some (.tup l, H1)) (hN : l.length < 1000)
    (hb : ∀ n, n < l.length → ∀ σ H, P n σ H → ∃ r σ' H', (r = .next ∨ r = .cont) ∧ evB c body (σ.set i (some (l.getD n .none))) H = some (r, σ', H') ∧ P (n + 1) σ' H') (p : P 0 σ H1) :
    ∃ σ' H', evS c (.for_ i it body) σ H = some (.next, σ', H') ∧ P l.length σ' H' := by
  refine byC fun nG => ?_
  obtain ⟨σ', H', e, p'⟩ := loop_idx (nx := nextV (.tup l)) (b := forT c i body) (P := P) (N := l.length) (item := fun n => l.getD n .none)
    (fun σ H n q_ hn => by simp [nextV, List.getElem?_eq_getElem hn]) (fun σ H q_ => by simp [nextV]) hb l.length 0 turns σ H1 (by omega) hN p
  refine nG ?_
  exact ⟨σ', H', by rw [evS_for, hit, Option.bind_some]; simp only [freeze, onV, onO, grd_true, grd_false]; rw [show fits l.length = true from Nat.ble_eq_true_of_le (by omega)]; simp only [grd_true, Option.bind_some]; rw [e]; rfl, p'⟩
/-- the geometry's attributes, the king's goals at `kg` -/
noncomputable def geoA (f r : Nat) (full : Int) (dbl a : Bool) (kg : Nat) : List (Nat × V) := [(0, .int f), (1, .int r), (7, .int (f * r : Nat)), (10, .int full), (22, .bool dbl), (16, .bool a), (9, .obj 6), (8, .obj 7), (12, .obj 8), (11, .obj kg), (14, .obj 10), (13, .obj 13), (2, .obj 14), (15, .obj 15)]
noncomputable def fullN (f r : Nat) : Int := ((2 ^ (f * r) - 1 : Nat) : Int)
noncomputable def gaA (f r : Nat) (a : Bool) (kg : Nat) : List (Nat × V) := geoA f r (fullN f r) (decide (5 ≤ r)) a kg
noncomputable def gaB (f r : Nat) (a : Bool) : List (Nat × V) := putAttr 15 (.obj 35) (gaA f r a 17)
/-- what stands once the board is laid -/
structure Facts (f r : Nat) (C : List Cst) (T : List Row) (sd : Int) (H : Hp) : Prop where
  gi : ∃ a, H[5]? = some (.inst 0 (gaB f r a))
  tb : H[4]? = some (.list (T.map rowV))
  gf : attrV (.obj 5) 0 H = some (.int f)
  gr : attrV (.obj 5) 1 H = some (.int r)
  gs : attrV (.obj 5) 7 H = some (.int (f * r : Nat))
  gc : attrV (.obj 5) 2 H = some (.obj 14)
  cs : H[14]? = some (.list (C.map castV))
  pg : attrV (.obj 72) 3 H = some (.obj 5)
  ps : attrV (.obj 72) 4 H = some (.int sd)
  pb : attrV (.obj 72) 5 H = some (.obj 74)
theorem Facts.app {f r : Nat} {C : List Cst} {T : List Row} {sd : Int} {H : Hp} (F : Facts f r C T sd H) (G : Hp) : Facts f r C T sd (H ++ G) :=
  ⟨F.gi.imp fun q_ h => hp_app G h, hp_app G F.tb, attr_app G F.gf, attr_app G F.gr, attr_app G F.gs, attr_app G F.gc, hp_app G F.cs, attr_app G F.pg, attr_app G F.ps, attr_app G F.pb⟩
structure Shp (f r : Nat) (C : List Cst) (T : List Row) : Prop where
  cl : C.length = 4
  tl : T.length < 100
  ts : ∀ x, x ∈ T → small x.1 = true
  f1 : 0 < f
  f2 : f < 10
  r1 : 0 < r
  r2 : r < 10
theorem Shp.sz {f r : Nat} {C : List Cst} {T : List Row} (W : Shp f r C T) : f * r < 100 ∧ f ≤ f * r := by
  have h1 := W.f2; have h2 := W.r2; have h3 := W.r1
  refine ⟨?_, Nat.le_mul_of_pos_right _ h3⟩
  calc f * r ≤ 9 * 9 := Nat.mul_le_mul (by omega) (by omega)
    _ < 100 := by decide
theorem ev_range2 {c : Cx} {σ : Lo} {H : Hp} {i j f : Nat} {low : Int} (hi : σ[i]? = some (some (.int low))) (hj : σ[j]? = some (some (.int f))) (h0 : 0 ≤ low) (h1 : low < 1000) (h2 : f < 1000) : evE c σ (.bi .range2 [(.loc i), (.bin .add (.loc i) (.loc j))]) H = some (.rng low 1 f, H) := by
  refine eBi (eCons (eLoc hi) (eCons (eBin (eLoc hi) (eLoc hj) rfl) eNil)) ?_
  show (rngN low (low + f) 1).bind _ = _
  rw [rngN_one (by omega) (by omega), Option.bind_some]
  rw [show (low + f - low).toNat = f from by omega]
noncomputable def st10 : S := .for_ 11 (.tup [(.cint 0), (.bin .sub (.loc 7) (.loc 2))]) [.for_ 12 (.bi .range2 [(.loc 11), (.bin .add (.loc 11) (.loc 2))]) [.for_ 13 (.bi .range2 [(.loc 11), (.bin .add (.loc 11) (.loc 2))]) pbody]]
theorem st10_eq : b_law[10]? = some st10 := rfl
theorem pair_same {c : Cx} {a : Int} {σ : Lo} {H : Hp} (h1 : σ[12]? = some (some (.int a))) (h2 : σ[13]? = some (some (.int a))) : evB c pbody σ H = some (.cont, σ, H) := by
  have t : evT c σ (.cmp .eq (.loc 12) (.loc 13)) H = some (true, H) := tCmp (eLoc h1) (eLoc h2) (by show some (a == a) = _; rw [beq_self_eq_true])
  exact evB_cont ((evS_if_true t).trans rfl)
section
variable {d f r : Nat} {H0 : Hp} {C : List Cst} {T : List Row} {sd : Int} {x0 x1 x3 x4 x9 x10 x11 x12 x13 x14 x15 x16 x17 x18 x19 x20 x21 : Option V}
noncomputable def lowsN (f r : Nat) : List Int := [0, (f * r : Nat) - (f : Int)]
noncomputable def okPairs (f r : Nat) (C : List Cst) (T : List Row) (sd : Int) : Bool := (lowsN f r).all fun low => (List.range f).all fun i => (List.range f).all fun j => i == j || okPair C T sd (low + i) (low + j)
noncomputable def lo10 (x0 x1 x3 x4 x9 x10 : Option V) (f r : Nat) (y11 y12 y13 y14 y15 x16 x17 x18 x19 x20 x21 : Option V) : Lo := [x0, x1, some (.int f), x3, x4, some (.obj 4), some (.obj 5), some (.int (f * r : Nat)), some (.obj 72), x9, x10, y11, y12, y13, y14, y15, x16, x17, x18, x19, x20, x21]
/-- while the pairs are seen: some slots are anything, the heap has k objects more -/
inductive PJ (L : Option V → Option V → Option V → Option V → Option V → Lo) (H0 : Hp) (k : Nat) (σ : Lo) (H : Hp) : Prop
  | mk (a b c d e : Option V) (G : Hp) (hσ : σ = L a b c d e) (hH : H = H0 ++ G) (hG : G.length = k) : PJ L H0 k σ H
/-- how many objects the pairs leave behind -/
noncomputable def cntI (n m : Nat) : Nat := if n < m then 4 * (m - 1) else 4 * m
noncomputable def cntP (f : Nat) : Nat := 2 * (f * (4 * (f - 1)))
theorem cnt_step {n m : Nat} (h : n ≠ m) : cntI n m + 4 = cntI n (m + 1) := by
  unfold cntI
  split <;> split <;> omega
theorem pairs_ok (F : Facts f r C T sd H0) (W : Shp f r C T) (ok : okPairs f r C T sd = true) :
    ∃ y11 y12 y13 y14 y15 G, evS (cx (d + 2)) st10 (lo10 x0 x1 x3 x4 x9 x10 f r x11 x12 x13 x14 x15 x16 x17 x18 x19 x20 x21) H0 =
      some (.next, lo10 x0 x1 x3 x4 x9 x10 f r y11 y12 y13 y14 y15 x16 x17 x18 x19 x20 x21, H0 ++ G) ∧ G.length = cntP f := by
  have sz := W.sz
  have f1 := W.f1
  have f2 := W.f2
  have hP := for_tup (c := cx (d + 2)) (i := 11) (it := .tup [(.cint 0), (.bin .sub (.loc 7) (.loc 2))]) (l := [.int 0, .int ((f * r : Nat) - (f : Int))])
    (body := [.for_ 12 (.bi .range2 [(.loc 11), (.bin .add (.loc 11) (.loc 2))]) [.for_ 13 (.bi .range2 [(.loc 11), (.bin .add (.loc 11) (.loc 2))]) pbody]])
    (P := fun t => PJ (fun y11 y12 y13 y14 y15 => lo10 x0 x1 x3 x4 x9 x10 f r y11 y12 y13 y14 y15 x16 x17 x18 x19 x20 x21) H0 (t * (f * (4 * (f - 1)))))
    (σ := lo10 x0 x1 x3 x4 x9 x10 f r x11 x12 x13 x14 x15 x16 x17 x18 x19 x20 x21) (H := H0) (H1 := H0)
    rfl (by show 2 < 1000; decide) ?_ ⟨_, _, _, _, _, [], rfl, (List.append_nil _).symm, (Nat.zero_mul _).symm⟩
  · refine byC fun nG => ?_
    obtain ⟨σ', H', e, y11, y12, y13, y14, y15, G, rfl, rfl, hG⟩ := hP
    refine nG ?_
    exact ⟨y11, y12, y13, y14, y15, G, e, hG⟩
  · rintro t ht σ H ⟨y11, y12, y13, y14, y15, G, rfl, rfl, hG⟩
    refine byC fun nG => ?_
    obtain ⟨low, hv, hlow, l0, l1⟩ : ∃ low : Int, [V.int 0, .int ((f * r : Nat) - (f : Int))].getD t .none = .int low ∧ low ∈ lowsN f r ∧ 0 ≤ low ∧ low < 1000 := by
      have ht : t < 2 := ht
      have : t = 0 ∨ t = 1 := by omega
      refine byC fun nG => ?_
      rcases this with rfl | rfl
      · refine nG ?_
        exact ⟨0, rfl, List.mem_cons_self, by omega, by omega⟩
      · refine nG ?_
        exact ⟨_, rfl, by simp [lowsN], by omega, by omega⟩
    refine nG ?_
    rw [hv]
    have hQ := for_rng (c := cx (d + 2)) (i := 12) (it := .bi .range2 [(.loc 11), (.bin .add (.loc 11) (.loc 2))]) (body := [.for_ 13 (.bi .range2 [(.loc 11), (.bin .add (.loc 11) (.loc 2))]) pbody])
      (P := fun n => PJ (fun _ y12 y13 y14 y15 => lo10 x0 x1 x3 x4 x9 x10 f r (some (.int low)) y12 y13 y14 y15 x16 x17 x18 x19 x20 x21) H0 (t * (f * (4 * (f - 1))) + n * (4 * (f - 1))))
      (σ := lo10 x0 x1 x3 x4 x9 x10 f r (some (.int low)) y12 y13 y14 y15 x16 x17 x18 x19 x20 x21) (H := H0 ++ G) (H1 := H0 ++ G)
      (ev_range2 rfl rfl l0 l1 (by omega)) (by omega) ?_ ⟨none, _, _, _, _, _, rfl, rfl, by rw [hG, Nat.zero_mul]; rfl⟩
    · refine byC fun nG => ?_
      obtain ⟨σ', H', e, _, y12, y13, y14, y15, G', rfl, rfl, hG'⟩ := hQ
      refine nG ?_
      exact ⟨.next, _, _, .inl rfl, evB_one e, _, _, _, _, _, _, rfl, rfl, by rw [hG', Nat.add_mul, Nat.one_mul]⟩
    · rintro n hn σ H ⟨_, y12, y13, y14, y15, G, rfl, rfl, hG⟩
      have hR := for_rng (c := cx (d + 2)) (i := 13) (it := .bi .range2 [(.loc 11), (.bin .add (.loc 11) (.loc 2))]) (body := pbody)
        (P := fun m => PJ (fun _ _ y13 y14 y15 => lo10 x0 x1 x3 x4 x9 x10 f r (some (.int low)) (some (.int (low + n))) y13 y14 y15 x16 x17 x18 x19 x20 x21) H0 (t * (f * (4 * (f - 1))) + n * (4 * (f - 1)) + cntI n m))
        (σ := lo10 x0 x1 x3 x4 x9 x10 f r (some (.int low)) (some (.int (low + n))) y13 y14 y15 x16 x17 x18 x19 x20 x21) (H := H0 ++ G) (H1 := H0 ++ G)
        (ev_range2 rfl rfl l0 l1 (by omega)) (by omega) ?_ ⟨none, none, _, _, _, _, rfl, rfl, hG⟩
      · refine byC fun nG => ?_
        obtain ⟨σ', H', e, _, _, y13, y14, y15, G', rfl, rfl, hG'⟩ := hR
        refine nG ?_
        exact ⟨.next, _, _, .inl rfl, evB_one e, none, _, _, _, _, _, rfl, rfl, by rw [hG', cntI, if_pos hn, Nat.add_mul, Nat.one_mul, Nat.add_assoc]⟩
      · rintro m hm σ H ⟨_, _, y13, y14, y15, G, rfl, rfl, hG⟩
        refine byC fun nG => ?_
        by_cases q : n = m
        · subst q
          refine nG ?_
          exact ⟨.cont, _, _, .inr rfl, pair_same (a := low + n) rfl rfl, none, none, _, _, _, _, rfl, rfl, by rw [hG, cntI, cntI, if_neg (Nat.lt_irrefl n), if_pos (Nat.lt_succ_self n)]; rfl⟩
        · have F' := F.app G
          have ok' : okPair C T sd (low + n) (low + m) = true := by
            have h1 := List.all_eq_true.mp ok low hlow
            have h2 := List.all_eq_true.mp h1 n (List.mem_range.mpr hn)
            have h3 := List.all_eq_true.mp h2 m (List.mem_range.mpr hm)
            rw [Bool.or_eq_true, beq_iff_eq] at h3
            exact h3.resolve_left q
          obtain ⟨y14', y15', G', e, hG'⟩ := pair_next (d := d) (a := low + n) (b := low + m) (x0 := x0) (x1 := x1) (x2 := some (.int f)) (x3 := x3) (x4 := x4) (x7 := some (.int (f * r : Nat))) (x9 := x9) (x10 := x10) (x11 := some (.int low)) (x14 := y14) (x15 := y15) (x16 := x16) (x17 := x17) (x18 := x18) (x19 := x19) (x20 := x20) (x21 := x21)
            F'.tb (by have := W.tl; omega) F'.pg F'.ps F'.gc F'.cs W.cl (small_of (by omega)) W.ts (by omega) ok'
          refine nG ?_
          refine ⟨.next, _, _, .inl rfl, e, none, none, _, _, _, _, rfl, by rw [List.append_assoc], ?_⟩
          rw [List.length_append, hG, hG', Nat.add_assoc]
          rw [cnt_step q]
end
end Mine
end
/-! Pl9 -/
section
set_option Elab.async false
set_option genSizeOf false
set_option linter.all false
set_option maxRecDepth 100000
set_option maxHeartbeats 4000000
open PySem
namespace Mine
/-- the whole state: cells, how many spent, the board, the men -/
structure St (cs : List Int) (k f r : Nat) (C : List Cst) (T : List Row) (sd : Int) (B : List Int) (es : List (Int × Int)) (H : Hp) : Prop where
  F : Facts f r C T sd H
  pu : H[1]? = some (purseO 2 k)
  ce : H[2]? = some (.list (cs.map .int))
  bd : H[74]? = some (.list (B.map .int))
  mn : H[79]? = some (.dict (es.map fun e => (e.1, .int e.2)))
theorem hp_set1 {H : Hp} {j : Nat} {o x : O} (h : H[j]? = some o) (hj : 1 ≠ j) : (H.set 1 x)[j]? = some o := by rw [List.getElem?_set_ne hj]; exact h
theorem attr_set1 {H : Hp} {k a : Nat} {v : V} {x : O} (h : attrV (.obj k) a H = some v) (hj : 1 ≠ k) : attrV (.obj k) a (H.set 1 x) = some v := by
  refine oInst_in h fun c as e hv => ?_
  show oInst (H.set 1 x)[k]? _ = _
  rw [hp_set1 e hj]; exact hv
theorem Facts.set1 {f r : Nat} {C : List Cst} {T : List Row} {sd : Int} {H : Hp} (F : Facts f r C T sd H) (x : O) : Facts f r C T sd (H.set 1 x) :=
  ⟨F.gi.imp fun q_ h => hp_set1 h (by decide), hp_set1 F.tb (by decide), attr_set1 F.gf (by decide), attr_set1 F.gr (by decide), attr_set1 F.gs (by decide), attr_set1 F.gc (by decide), hp_set1 F.cs (by decide), attr_set1 F.pg (by decide), attr_set1 F.ps (by decide), attr_set1 F.pb (by decide)⟩
section
variable {cs : List Int} {k f r : Nat} {C : List Cst} {T : List Row} {sd : Int} {B : List Int} {es : List (Int × Int)} {H : Hp}
theorem St.app (S : St cs k f r C T sd B es H) (G : Hp) : St cs k f r C T sd B es (H ++ G) := ⟨S.F.app G, hp_app G S.pu, hp_app G S.ce, hp_app G S.bd, hp_app G S.mn⟩
theorem set1_get {H : Hp} {o x : O} (h : H[1]? = some o) : (H.set 1 x)[1]? = some x := List.getElem?_set_self (List.getElem?_eq_some_iff.mp h).1
theorem St.pulled (S : St cs k f r C T sd B es H) : St cs (k + 1) f r C T sd B es (H.set 1 (purseO 2 (k + 1))) :=
  ⟨S.F.set1 _, set1_get S.pu, hp_set1 S.ce (by decide), hp_set1 S.bd (by decide), hp_set1 S.mn (by decide)⟩
theorem St.pull {d : Nat} {many : Int} (S : St cs k f r C T sd B es H) (hl : cs.length ≤ 14) (hk : k ≤ 14) (hm : 0 < many) :
    rn (d + 1) 34 [.obj 1, .int many] H = some (.ret (.int (pullv cs k many)), H.set 1 (purseO 2 (k + 1))) := r_pull S.pu S.ce (by decide) hl hk hm
end
/-- what the law asks of book_move at a row of its table -/
noncomputable def okTold (f : Nat) (C : List Cst) : Row → Bool := fun (_, h, g, c) =>
  let m := 49152 + 64 * h + g
  Builtin.bitAnd (Int.fdiv m 64) 63 == h && Builtin.bitAnd m 63 == g && Builtin.bitAnd (Int.fdiv m 16384) 3 == 3 && decide (0 ≤ h) && decide (h < 1000) && decide (0 ≤ c) && decide (c < 1000) && small (bkN f h) &&
  (List.range 4).any fun n => cofN C h g == n && match C[n]? with
    | some (some (_, _, c', _)) => decide (0 ≤ c') && decide (c' < 1000) && Builtin.bitOr (Builtin.bitOr (bkN f c') (bkN f h * 64)) 0 == spotN f c + 64 * spotN f h
    | _ => false
noncomputable def st11 : S := .forTup [16, 17, 18, 19] (.loc 5) [.if_ (.cmp .ne (.call 40 [(.loc 6), (.bin .add (.bin .add (.cint 49152) (.bin .mul (.cint 64) (.loc 17))) (.loc 18))]) (.bin .add (.call 36 [(.loc 2), (.loc 19)]) (.bin .mul (.cint 64) (.call 36 [(.loc 2), (.loc 17)])))) [.ret (.cbool false)] []]
theorem st11_eq : b_law[11]? = some st11 := rfl
theorem for_tup_list {c : Cx} {is : List Nat} {it : X} {body : List S} {l : List V} {P : Lo → Prop} {σ : Lo} {H : Hp} {k : Nat} (hit : evE c σ it H = some (.obj k, H)) (hk : H[k]? = some (.list l)) (hN : l.length < 1000)
    (hb : ∀ v, v ∈ l → ∀ σ, P σ → ∃ σ', forTT c is body v σ H = some (.next, σ', H) ∧ P σ') (p : P σ) :
    ∃ σ', evS c (.forTup is it body) σ H = some (.next, σ', H) ∧ P σ' := by
  refine byC fun nG => ?_
  obtain ⟨σ', H', e, p', e2⟩ := loop_idx (nx := nextV (.obj k)) (b := forTT c is body) (P := fun q_ σ H' => P σ ∧ H' = H) (N := l.length) (item := fun n => l.getD n .none)
    (fun σ H' n q hn => by rw [q.2]; simp [nextV, hk, List.getElem?_eq_getElem hn]) (fun σ H' q => by rw [q.2]; simp [nextV, hk]) (fun n hn σ H' q => by
      have : l.getD n .none ∈ l := by rw [List.getD_eq_getElem?_getD, List.getElem?_eq_getElem hn]; exact List.getElem_mem hn
      refine byC fun nG => ?_
      obtain ⟨σ', e, p⟩ := hb _ this σ q.1
      refine nG ?_
      exact ⟨.next, σ', H, .inl rfl, by rw [q.2]; exact e, p, rfl⟩) l.length 0 turns σ H (by omega) hN ⟨p, rfl⟩
  subst e2
  refine nG ?_
  exact ⟨σ', by rw [evS_forTup, hit, Option.bind_some]; simp only [freeze, hk, Option.bind_some, onV, onO, grd_true, grd_false]; rw [e]; simp only [Option.bind_some, thaw, hk, onV, onO], p'⟩
section
variable {d f r : Nat} {H : Hp} {C : List Cst} {T : List Row} {sd : Int} {x0 x1 x3 x4 x9 x10 x11 x12 x13 x14 x15 x16 x17 x18 x19 x20 x21 : Option V}
theorem told_row {i h g c : Int} (F : Facts f r C T sd H) (W : Shp f r C T) (ok : okTold f C (i, h, g, c) = true) :
    rn (d + 3) 40 [.obj 5, .int (49152 + 64 * h + g)] H = some (.ret (.int (spotN f c + 64 * spotN f h)), H) ∧ 0 ≤ h ∧ h < 1000 ∧ 0 ≤ c ∧ c < 1000 := by
  unfold okTold at ok
  simp only [Bool.and_eq_true, beq_iff_eq, decide_eq_true_eq, List.any_eq_true, List.mem_range] at ok
  refine byC fun nG => ?_
  obtain ⟨⟨⟨⟨⟨⟨⟨⟨e1, e2⟩, e3⟩, h0⟩, h1⟩, c0⟩, c1⟩, hs⟩, n, hn, hc, q⟩ := ok
  refine nG ?_
  refine ⟨?_, h0, h1, c0, c1⟩
  refine byC fun nG => ?_
  split at q
  · rename_i h' g' c' x' hq
    simp only [Bool.and_eq_true, beq_iff_eq, decide_eq_true_eq] at q
    obtain ⟨⟨q0, q1⟩, q2⟩ := q
    refine nG ?_
    rw [r_told_yes F.gf F.gc F.cs W.cl e1 e2 e3 hc hn hq (by have := W.f1; omega) (by have := W.f2; omega) h0 h1 q0 q1 hs, q2]
  · cases q
theorem forTT_of {c : Cx} {is : List Nat} {body : List S} {v : V} {l : List V} {σ σ' : Lo} {H : Hp} (hu : unpackV v is.length = some l) (hs : setSlots is l σ = some σ') : forTT c is body v σ H = evB c body σ' H := by
  show (unpackV v is.length).bind _ = _
  rw [hu]
  show (setSlots is l σ).bind _ = _
  rw [hs]; rfl
theorem told_all (F : Facts f r C T sd H) (W : Shp f r C T) (ok : T.all (okTold f C) = true) :
    ∃ y16 y17 y18 y19, evS (cx (d + 3)) st11 (lo10 x0 x1 x3 x4 x9 x10 f r x11 x12 x13 x14 x15 x16 x17 x18 x19 x20 x21) H =
      some (.next, lo10 x0 x1 x3 x4 x9 x10 f r x11 x12 x13 x14 x15 y16 y17 y18 y19 x20 x21, H) := by
  have hP := for_tup_list (c := cx (d + 3)) (is := [16, 17, 18, 19]) (it := .loc 5) (H := H) (k := 4) (l := T.map rowV)
    (body := [.if_ (.cmp .ne (.call 40 [(.loc 6), (.bin .add (.bin .add (.cint 49152) (.bin .mul (.cint 64) (.loc 17))) (.loc 18))]) (.bin .add (.call 36 [(.loc 2), (.loc 19)]) (.bin .mul (.cint 64) (.call 36 [(.loc 2), (.loc 17)])))) [.ret (.cbool false)] []])
    (P := fun σ => ∃ y16 y17 y18 y19, σ = lo10 x0 x1 x3 x4 x9 x10 f r x11 x12 x13 x14 x15 y16 y17 y18 y19 x20 x21) (σ := lo10 x0 x1 x3 x4 x9 x10 f r x11 x12 x13 x14 x15 x16 x17 x18 x19 x20 x21)
    rfl F.tb (by have := W.tl; simp; omega) ?_ ⟨_, _, _, _, rfl⟩
  · refine byC fun nG => ?_
    obtain ⟨σ', e, y16, y17, y18, y19, rfl⟩ := hP
    refine nG ?_
    exact ⟨y16, y17, y18, y19, e⟩
  · rintro v hv σ ⟨y16, y17, y18, y19, rfl⟩
    refine byC fun nG => ?_
    obtain ⟨⟨i, h, g, c⟩, hr, rfl⟩ := List.mem_map.mp hv
    obtain ⟨t, h0, h1, c0, c1⟩ := told_row (d := d) F W (List.all_eq_true.mp ok _ hr)
    have f1 := W.f1; have f2 := W.f2
    refine nG ?_
    refine ⟨_, ?_, some (.int i), some (.int h), some (.int g), some (.int c), rfl⟩
    refine (forTT_of (l := [.int i, .int h, .int g, .int c]) (σ' := lo10 x0 x1 x3 x4 x9 x10 f r x11 x12 x13 x14 x15 (some (.int i)) (some (.int h)) (some (.int g)) (some (.int c)) x20 x21) rfl rfl).trans ?_
    have sp : ∀ s : Int, 0 ≤ s → s < 1000 → rn (d + 3) 36 [.int f, .int s] H = some (.ret (.int (spotN f s)), H) := fun s a b => r_spot (by omega) (by omega) a b
    refine evB_one (evS_if_false ?_)
    have e1 : evE (cx (d + 3)) (lo10 x0 x1 x3 x4 x9 x10 f r x11 x12 x13 x14 x15 (some (.int i)) (some (.int h)) (some (.int g)) (some (.int c)) x20 x21) (.call 40 [(.loc 6), (.bin .add (.bin .add (.cint 49152) (.bin .mul (.cint 64) (.loc 17))) (.loc 18))]) H = some (.int (spotN f c + 64 * spotN f h), H) :=
      eCall (eCons rfl (eCons (eBin (eBin rfl (eBin rfl rfl rfl) rfl) rfl rfl) eNil)) t
    have e2 : evE (cx (d + 3)) (lo10 x0 x1 x3 x4 x9 x10 f r x11 x12 x13 x14 x15 (some (.int i)) (some (.int h)) (some (.int g)) (some (.int c)) x20 x21) (.bin .add (.call 36 [(.loc 2), (.loc 19)]) (.bin .mul (.cint 64) (.call 36 [(.loc 2), (.loc 17)]))) H = some (.int (spotN f c + 64 * spotN f h), H) :=
      eBin (eCall (eCons rfl (eCons rfl eNil)) (sp c c0 c1)) (eBin rfl (eCall (eCons rfl (eCons rfl eNil)) (sp h h0 h1)) rfl) rfl
    rw [evT_ne e1 e2]; simp
end
end Mine
end
/-! Pl10 -/
section
set_option Elab.async false
set_option genSizeOf false
set_option linter.all false
set_option maxRecDepth 100000
set_option maxHeartbeats 4000000
open PySem
namespace Mine
noncomputable def st12 : S := .assign 11 (.bin .mul (.call 34 [(.loc 1), (.cint 2)]) (.bin .sub (.loc 7) (.loc 2)))
noncomputable def st13 : S := .assignTup [12, 13] (.tup [(.bin .add (.loc 11) (.call 34 [(.loc 1), (.loc 2)])), (.bin .add (.loc 11) (.call 34 [(.loc 1), (.loc 2)]))])
noncomputable def cmp14 : X := .comp (.tup [(.idx (.loc 21) (.cint 1)), (.idx (.loc 21) (.cint 2))]) 21 (.loc 5) [] []
noncomputable def told14 : T := .cmp .ne (.call 40 [(.loc 6), (.bin .add (.bin .add (.cint 49152) (.bin .mul (.cint 64) (.loc 12))) (.loc 13))]) (.neg (.bin .add (.bin .add (.cint 49152) (.bin .mul (.cint 64) (.loc 12))) (.loc 13)))
noncomputable def st14 : S := .if_ (.and_ [(.cmp .notin (.tup [(.loc 12), (.loc 13)]) cmp14), told14]) [.ret (.cbool false)] []
theorem st12_eq : (b_law.drop 12).take 3 = [st12, st13, st14] := rfl
noncomputable def hgV : Row → V := fun (_, h, g, _) => .tup [.int h, .int g]
theorem allTup_hg : ∀ (T : List Row), allTup (T.map hgV) = some (T.map fun (_, h, g, _) => [h, g])
  | [] => rfl
  | (i, h, g, c) :: T => by
    rw [List.map_cons]
    show (allInt [.int h, .int g]).bind (fun l => (allTup (T.map hgV)).bind fun t => some (l :: t)) = _
    rw [allTup_hg T]; rfl
noncomputable def okNot (C : List Cst) (T : List Row) (a b : Int) : Bool := memT [a, b] (T.map fun (_, h, g, _) => [h, g]) ||
  (let m := 49152 + 64 * a + b
   Builtin.bitAnd (Int.fdiv m 64) 63 == a && Builtin.bitAnd m 63 == b && Builtin.bitAnd (Int.fdiv m 16384) 3 == 3 && decide (cofN C a b < 0))
section
variable {d k f r : Nat} {cs : List Int} {H : Hp} {C : List Cst} {T : List Row} {sd : Int} {B : List Int} {es : List (Int × Int)} {x0 x1 x3 x4 x9 x10 x11 x12 x13 x14 x15 x16 x17 x18 x19 x20 x21 : Option V}
theorem not_ok {a b : Int} (F : Facts f r C T sd H) (W : Shp f r C T) (ok : okNot C T a b = true) :
    ∃ G, evS (cx (d + 3)) st14 (lo10 x0 x1 x3 x4 x9 x10 f r x11 (some (.int a)) (some (.int b)) x14 x15 x16 x17 x18 x19 x20 x21) H =
      some (.next, lo10 x0 x1 x3 x4 x9 x10 f r x11 (some (.int a)) (some (.int b)) x14 x15 x16 x17 x18 x19 x20 x21, H ++ G) ∧ G.length = 1 := by
  let σ : Lo := lo10 x0 x1 x3 x4 x9 x10 f r x11 (some (.int a)) (some (.int b)) x14 x15 x16 x17 x18 x19 x20 x21
  let G : Hp := [.list (T.map hgV)]
  refine ⟨G, evS_if_false ?_, rfl⟩
  let gv : V → Option V := fun v => match v with | .tup [.int _, .int h, .int g, .int _] => some (.tup [.int h, .int g]) | _ => none
  have s1 : evE (cx (d + 3)) σ cmp14 H = some (.obj H.length, H ++ G) := by
    have := comp_list (c := cx (d + 3)) (σ := σ) (it := .loc 5) (H := H) (k := 4) (slot := 21) (elt := .tup [(.idx (.loc 21) (.cint 1)), (.idx (.loc 21) (.cint 2))]) (ifs := []) (caps := []) (g := gv) rfl F.tb (by have := W.tl; simp; omega) (fun v hv => by
      refine byC fun nG => ?_
      obtain ⟨⟨i, h, g, c⟩, _, rfl⟩ := List.mem_map.mp hv
      refine nG ?_
      rfl)
    rw [cmp14, this]
    have e : (T.map rowV).filterMap gv = T.map hgV := by
      rw [List.filterMap_map]
      show T.filterMap (fun x => some (hgV x)) = _
      rw [List.filterMap_eq_map']
    rw [e]
  have t1 : evT (cx (d + 3)) σ (.cmp .notin (.tup [(.loc 12), (.loc 13)]) cmp14) H = some (!memT [a, b] (T.map fun (_, h, g, _) => [h, g]), H ++ G) := by
    refine tCmp (eTup (eCons rfl (eCons rfl eNil))) s1 ?_
    show ((oList (H ++ G)[H.length]? fun xs => (allTup xs).bind fun ts => some (memT [a, b] ts)).bind _) = _
    rw [show (H ++ G)[H.length]? = some (.list (T.map hgV)) from new0, oList_list, allTup_hg]; rfl
  show (evT (cx (d + 3)) σ (.cmp .notin (.tup [(.loc 12), (.loc 13)]) cmp14) H).bind _ = _
  rw [t1, Option.bind_some]
  unfold okNot at ok
  cases q : memT [a, b] (T.map fun (_, h, g, _) => [h, g]) with
  | true => rfl
  | false =>
    rw [q, Bool.false_or] at ok
    simp only [Bool.and_eq_true, beq_iff_eq, decide_eq_true_eq] at ok
    refine byC fun nG => ?_
    obtain ⟨⟨⟨e1, e2⟩, e3⟩, hc⟩ := ok
    have F' := F.app G
    have t : rn (d + 3) 40 [.obj 5, .int (49152 + 64 * a + b)] (H ++ G) = some (.ret (.int (-(49152 + 64 * a + b))), H ++ G) := r_told_no F'.gc F'.cs W.cl e1 e2 e3 hc
    have t2 : evT (cx (d + 3)) σ told14 (H ++ G) = some (false, H ++ G) := evT_ne0 (u := -(49152 + 64 * a + b)) (eCall (eCons rfl (eCons (eBin (eBin rfl (eBin rfl rfl rfl) rfl) rfl rfl) eNil)) t)
      (eNeg (eBin (eBin rfl (eBin rfl rfl rfl) rfl) rfl rfl))
    refine nG ?_
    show (evTA (cx (d + 3)) σ [told14] (H ++ G)) = _
    rw [evTA, t2]; rfl
noncomputable def okNots (f r : Nat) (C : List Cst) (T : List Row) : Bool := (lowsN f r).all fun low => (List.range f).all fun i => (List.range f).all fun j => okNot C T (low + i) (low + j)
theorem low_mem {v : Int} (h0 : 0 ≤ v) (h1 : v < 2) : v * ((f * r : Nat) - (f : Int)) ∈ lowsN f r := by
  have : v = 0 ∨ v = 1 := by omega
  rcases this with rfl | rfl <;> simp [lowsN]
theorem at12 (S : St cs k f r C T sd B es H) (W : Shp f r C T) (hl : cs.length ≤ 14) (hk : k + 2 ≤ 14) (ok : okNots f r C T = true) :
    ∃ y11 y12 y13 H', evB (cx (d + 3)) [st12, st13, st14] (lo10 x0 (some (.obj 1)) x3 x4 x9 x10 f r x11 x12 x13 x14 x15 x16 x17 x18 x19 x20 x21) H =
      some (.next, lo10 x0 (some (.obj 1)) x3 x4 x9 x10 f r y11 y12 y13 x14 x15 x16 x17 x18 x19 x20 x21, H') ∧ St cs (k + 3) f r C T sd B es H' ∧ H'.length = H.length + 1 := by
  have f1 := W.f1; have f2 := W.f2
  have S1 := S.pulled
  have S2 := S1.pulled
  have S3 := S2.pulled
  let H1 := H.set 1 (purseO 2 (k + 1))
  let H2 := H1.set 1 (purseO 2 (k + 2))
  let H3 := H2.set 1 (purseO 2 (k + 3))
  have p1 : rn (d + 3) 34 [.obj 1, .int 2] H = some (.ret (.int (pullv cs k 2)), H1) := S.pull (d := d + 2) (many := 2) hl (Nat.le_trans (Nat.le_add_right k 2) hk) (by decide)
  have p2 : rn (d + 3) 34 [.obj 1, .int f] H1 = some (.ret (.int (pullv cs (k + 1) f)), H2) := S1.pull (d := d + 2) (many := f) hl (Nat.le_of_succ_le hk) (Int.natCast_pos.mpr f1)
  have p3 : rn (d + 3) 34 [.obj 1, .int f] H2 = some (.ret (.int (pullv cs (k + 2) f)), H3) := S2.pull (d := d + 2) (many := f) hl hk (Int.natCast_pos.mpr f1)
  refine byC fun nG => ?_
  obtain ⟨v0, v1⟩ := pullv_range (cs := cs) (k := k) (many := 2) (by decide)
  obtain ⟨a0, a1⟩ := pullv_range (cs := cs) (k := k + 1) (many := f) (Int.natCast_pos.mpr f1)
  obtain ⟨b0, b1⟩ := pullv_range (cs := cs) (k := k + 2) (many := f) (Int.natCast_pos.mpr f1)
  have hlow := low_mem (f := f) (r := r) v0 v1
  generalize pullv cs k 2 = v at p1 v0 v1 hlow
  generalize pullv cs (k + 1) f = a at p2 a0 a1
  generalize pullv cs (k + 2) f = b at p3 b0 b1
  have sv : small v = true := small_of (by omega)
  refine nG ?_
  let low := v * ((f * r : Nat) - (f : Int))
  have e12 : evS (cx (d + 3)) st12 (lo10 x0 (some (.obj 1)) x3 x4 x9 x10 f r x11 x12 x13 x14 x15 x16 x17 x18 x19 x20 x21) H = some (.next, lo10 x0 (some (.obj 1)) x3 x4 x9 x10 f r (some (.int low)) x12 x13 x14 x15 x16 x17 x18 x19 x20 x21, H1) := by
    exact sAssign (eBin (eCall (eCons rfl (eCons rfl eNil)) p1) (eBin rfl rfl rfl) (by show ((grd (small v) _).bind _) = _; rw [sv]; rfl)) 
  have e13 : evS (cx (d + 3)) st13 (lo10 x0 (some (.obj 1)) x3 x4 x9 x10 f r (some (.int low)) x12 x13 x14 x15 x16 x17 x18 x19 x20 x21) H1 = some (.next, lo10 x0 (some (.obj 1)) x3 x4 x9 x10 f r (some (.int low)) (some (.int (low + a))) (some (.int (low + b))) x14 x15 x16 x17 x18 x19 x20 x21, H3) := by
    exact sAssignT (eTup (eCons (eBin rfl (eCall (eCons rfl (eCons rfl eNil)) p2) rfl) (eCons (eBin rfl (eCall (eCons rfl (eCons rfl eNil)) p3) rfl) eNil))) rfl
  have ok' : okNot C T (low + a) (low + b) = true := by
    have h1 := List.all_eq_true.mp ok low hlow
    have h2 := List.all_eq_true.mp h1 a.toNat (List.mem_range.mpr (by omega))
    have h3 := List.all_eq_true.mp h2 b.toNat (List.mem_range.mpr (by omega))
    rwa [show (a.toNat : Int) = a from Int.toNat_of_nonneg a0, show (b.toNat : Int) = b from Int.toNat_of_nonneg b0] at h3
  refine byC fun nG => ?_
  obtain ⟨G, e14, hG⟩ := not_ok (d := d) (x0 := x0) (x1 := some (.obj 1)) (x3 := x3) (x4 := x4) (x9 := x9) (x10 := x10) (x11 := some (.int low)) (x14 := x14) (x15 := x15) (x16 := x16) (x17 := x17) (x18 := x18) (x19 := x19) (x20 := x20) (x21 := x21) S3.F W ok'
  refine nG ?_
  exact ⟨_, _, _, H3 ++ G, by rw [evB_next e12, evB_next e13]; exact evB_one e14, S3.app G, by rw [List.length_append, hG]; simp [H3, H2, H1]⟩
end
end Mine
end
/-! Pl11 -/
section
set_option Elab.async false
set_option genSizeOf false
set_option linter.all false
set_option maxRecDepth 100000
set_option maxHeartbeats 4000000
open PySem
namespace Mine
theorem attr_of {H : Hp} {k a c : Nat} {as : List (Nat × V)} (h : H[k]? = some (.inst c as)) : attrV (.obj k) a H = getAttr' a as := by
  show oInst H[k]? _ = _
  rw [h]; rfl
theorem attr_keep {H H' : Hp} {k a : Nat} {v : V} (h : attrV (.obj k) a H = some v) (hk : ∀ o, H[k]? = some o → H'[k]? = some o) : attrV (.obj k) a H' = some v := by
  refine oInst_in h fun c as e hv => ?_
  show oInst H'[k]? _ = _
  rw [hk _ e]; exact hv
theorem spine {H : Hp} {N : Nat} {g : Nat → O} (h : H.length = N) (hg : ∀ i, i < N → H[i]? = some (g i)) : H = (List.range N).map g := by
  apply List.ext_getElem?
  intro i
  refine byC fun nG => ?_
  by_cases q : i < N
  · refine nG ?_; rw [hg i q]; simp [q]
  · refine nG ?_
    rw [List.getElem?_eq_none (by omega), List.getElem?_eq_none (by simp; omega)]
/-- the heap as start_fen and the law's own see it: what is not read is free -/
noncomputable def spF (N f r : Nat) (a : Bool) (C : List Cst) (T : List Row) (w : Nat → O) : Hp := (List.range N).map fun i => if i = 5 then .inst 0 (gaB f r a) else if i = 14 then .list (C.map castV) else if i = 4 then .list (T.map rowV) else w i
noncomputable def fenN (f : Nat) : Nat := 84 + cntP f + 1
noncomputable def st15 : S := .if_ (.cmp .ne (.call 23 [(.loc 6)]) (.call 39 [(.loc 2), (.loc 3), (.loc 5)])) [.ret (.cbool false)] []
theorem st15_eq : b_law[15]? = some st15 := rfl
/-- start_fen's start is the law's own -/
noncomputable def FenOk (f r : Nat) (C : List Cst) (T : List Row) : Prop := ∀ (a : Bool) (w : Nat → O), ∃ s G1 G2, rn 9 23 [.obj 5] (spF (fenN f) f r a C T w) = some (.ret (.str s), spF (fenN f) f r a C T w ++ G1) ∧
  rn 9 39 [.int f, .int r, .obj 4] (spF (fenN f) f r a C T w ++ G1) = some (.ret (.str s), (spF (fenN f) f r a C T w ++ G1) ++ G2)
theorem eqNats_self : ∀ (l : List Nat), eqNats l l = true
  | [] => rfl
  | x :: l => by rw [eqNats_cons, eqNats_self l, Nat.beq_refl]; rfl
section
variable {k f r : Nat} {cs : List Int} {H : Hp} {C : List Cst} {T : List Row} {sd : Int} {B : List Int} {es : List (Int × Int)} {x0 x1 x4 x9 x10 x11 x12 x13 x14 x15 x16 x17 x18 x19 x20 x21 : Option V}
theorem at15 (S : St cs k f r C T sd B es H) (hl : H.length = fenN f) (ok : FenOk f r C T) :
    ∃ H', evS (cx 9) st15 (lo10 x0 x1 (some (.int r)) x4 x9 x10 f r x11 x12 x13 x14 x15 x16 x17 x18 x19 x20 x21) H =
      some (.next, lo10 x0 x1 (some (.int r)) x4 x9 x10 f r x11 x12 x13 x14 x15 x16 x17 x18 x19 x20 x21, H') ∧ St cs k f r C T sd B es H' := by
  refine byC fun nG => ?_
  obtain ⟨a, gi⟩ := S.F.gi
  have e : H = spF (fenN f) f r a C T (fun i => H.getD i (.list [])) := spine hl fun i hi => by
    refine byC fun nG => ?_
    by_cases q : i = 5
    · subst q; refine nG ?_; exact gi
    · by_cases q2 : i = 14
      · subst q2; refine nG ?_; exact S.F.cs
      · by_cases q3 : i = 4
        · subst q3; refine nG ?_; exact S.F.tb
        · refine nG ?_
          simp only [q, q2, q3, if_false, List.getD_eq_getElem?_getD]
          rw [List.getElem?_eq_getElem (by omega)]; rfl
  obtain ⟨s, G1, G2, h1, h2⟩ := ok a (fun i => H.getD i (.list []))
  rw [← e] at h1 h2
  refine nG ?_
  refine ⟨(H ++ G1) ++ G2, evS_if_false ?_, (S.app G1).app G2⟩
  exact tCmp (eCall (eCons rfl eNil) h1) (eCall (eCons rfl (eCons rfl (eCons rfl eNil))) h2) (by show some (!eqNats s s) = _; rw [eqNats_self]; rfl)
end
end Mine
end
/-! Pl12 -/
section
set_option Elab.async false
set_option genSizeOf false
set_option linter.all false
set_option maxRecDepth 100000
set_option maxHeartbeats 4000000
open PySem
namespace Mine
noncomputable def getN (k : Int) : List (Int × Int) → Option Int
  | [] => none
  | (j, v) :: r => if j = k then some v else getN k r
noncomputable abbrev esV (es : List (Int × Int)) : List (Int × V) := es.map fun e => (e.1, .int e.2)
theorem getI_esV (k : Int) : ∀ (es : List (Int × Int)), getI k (esV es) = (getN k es).map .int
  | [] => rfl
  | (j, v) :: r => by
    show getI k ((j, V.int v) :: esV r) = _
    rw [getI, getN, getI_esV k r, ibeq]
    by_cases e : j = k <;> simp [e]
noncomputable def kingsN (es : List (Int × Int)) (sd : Int) : List Int := (es.map (·.1)).filterMap fun s => if getN s es = some (8 * sd + 6) then some s else none
noncomputable def dueN (T : List Row) (sd ks goal x : Int) : Int := if x = 8 * sd + 4 then sumL (T.filterMap fun (_, h, g, c) => if h = ks ∧ c = goal then some (49152 + 64 * ks + g) else none) 0 else 64 * ks + goal
noncomputable def okNum (f r : Nat) (ks goal n : Int) : Bool := decide (0 ≤ n) && decide (n < 32768) && bsqN f r n == goal && bsqN f r (Int.fdiv n 64) == ks && small (Builtin.bitAnd (Int.fdiv n 8) 7) && small (Builtin.bitAnd (Int.fdiv (Int.fdiv n 64) 8) 7)
noncomputable def okGoal (f r : Nat) (C : List Cst) (T : List Row) (sd ks goal x promo : Int) : Bool :=
  let n := spotN f goal + 64 * spotN f ks
  let n2 := n + 4096 * promo
  okNum f r ks goal n && bmvN C sd ks goal x (Int.fdiv n 4096) == dueN T sd ks goal x &&
  (decide (promo ≤ 0) || (okNum f r ks goal n2 && bmvN C sd ks goal x (Int.fdiv n2 4096) == 0))
noncomputable def krComp : X := .comp (.loc 11) 11 (.loc 3) [(.cmp .eq (.idx (.loc 3) (.loc 11)) (.bin .add (.bin .mul (.cint 8) (.attr (.loc 0) 4)) (.cint 6)))] [0, 3]
noncomputable def kb0 : S := .if_ (.cmp .eq (.loc 7) (.loc 5)) [.cont] []
noncomputable def kb1 : S := .assign 8 (.bin .add (.bin .mul (.cint 64) (.loc 5)) (.loc 7))
noncomputable def sumComp : X := .comp (.bin .add (.bin .add (.cint 49152) (.bin .mul (.cint 64) (.loc 5))) (.idx (.loc 10) (.cint 2))) 10 (.loc 1) [(.cmp .eq (.tup [(.idx (.loc 10) (.cint 1)), (.idx (.loc 10) (.cint 3))]) (.tup [(.loc 5), (.loc 7)]))] [5, 7]
noncomputable def kb2 : S := .if_ (.cmp .eq (.get (.loc 3) (.loc 7) (.cint 0)) (.bin .add (.bin .mul (.cint 8) (.attr (.loc 0) 4)) (.cint 4))) [.assign 8 (.bi .sum [sumComp])] []
noncomputable def kb3 : S := .assign 9 (.bin .add (.call 36 [(.loc 2), (.loc 7)]) (.bin .mul (.cint 64) (.call 36 [(.loc 2), (.loc 5)])))
noncomputable def kb4 : S := .if_ (.or_ [(.cmp .ne (.call 16 [(.loc 0), (.loc 9)]) (.loc 8)), (.and_ [(.cmp .gt (.loc 4) (.cint 0)), (.cmp .ne (.call 16 [(.loc 0), (.bin .add (.loc 9) (.bin .mul (.cint 4096) (.loc 4)))]) (.cint 0))])]) [.ret (.cbool false)] []
theorem kr_eq : b_law_king_right = [.assign 5 (.idx krComp (.cint 0)), .assign 6 (.bin .mul (.bin .fdiv (.loc 5) (.loc 2)) (.loc 2)), .for_ 7 (.bi .range2 [(.loc 6), (.bin .add (.loc 6) (.loc 2))]) [kb0, kb1, kb2, kb3, kb4], .ret (.cbool true)] := rfl
noncomputable def kl (f : Nat) (promo ks : Int) (y6 y7 y8 y9 y10 y11 : Option V) : Lo := [some (.obj 72), some (.obj 4), some (.int f), some (.obj 79), some (.int promo), some (.int ks), y6, y7, y8, y9, y10, y11]
section
variable {d k f r : Nat} {cs : List Int} {H : Hp} {C : List Cst} {T : List Row} {sd : Int} {B : List Int} {es : List (Int × Int)} {promo : Int} {ks goal : Nat}
theorem bm_call {x n : Int} (S : St cs k f r C T sd B es H) (W : Shp f r C T) (hsd : sd = 0 ∨ sd = 1) (hk : B[ks]? = some (sd * 8 + 6)) (hx : B[goal]? = some x) (hne : ks ≠ goal) (h1 : ks < 1000) (h2 : goal < 1000) (ok : okNum f r ks goal n = true) :
    rn (d + 3) 16 [.obj 72, .int n] H = some (.ret (.int (bmvN C sd ks goal x (Int.fdiv n 4096))), H) := by
  unfold okNum at ok
  simp only [Bool.and_eq_true, beq_iff_eq, decide_eq_true_eq] at ok
  refine byC fun nG => ?_
  obtain ⟨⟨⟨⟨⟨n0, n1⟩, e1⟩, e2⟩, q1⟩, q2⟩ := ok
  refine nG ?_
  exact r_board_move S.F.pg S.F.ps S.F.pb S.F.gf S.F.gr S.F.gc S.F.cs W.cl S.bd n0 n1 hsd q1 q2 e1 e2 hne h1 h2 (by simp [hk]) (by simp [hx])
theorem kr_turn {x : Int} {y6 y8 y9 y10 y11 : Option V} (S : St cs k f r C T sd B es H) (W : Shp f r C T) (hsd : sd = 0 ∨ sd = 1) (hk : B[ks]? = some (sd * 8 + 6)) (hx : B[goal]? = some x) (hg : (getN goal es).getD 0 = x) (hne : ks ≠ goal) (h1 : ks < 1000) (h2 : goal < 1000) (hp : 0 ≤ promo ∧ promo < 5)
    (ok : okGoal f r C T sd ks goal x promo = true) :
    ∃ z8 z9 G, evB (cx (d + 3)) [kb0, kb1, kb2, kb3, kb4] (kl f promo ks y6 (some (.int goal)) y8 y9 y10 y11) H = some (.next, kl f promo ks y6 (some (.int goal)) z8 z9 y10 y11, H ++ G) := by
  unfold okGoal at ok
  simp only [Bool.and_eq_true, beq_iff_eq] at ok
  obtain ⟨⟨o1, o2⟩, o3⟩ := ok
  have f1 := W.f1; have f2 := W.f2
  have hne' : ¬ (goal : Int) = ks := by omega
  have hget : getV (.obj 79) (.int goal) (.int 0) H = some (.int x) := by
    show oD H[79]? _ = _
    rw [S.mn]
    show some ((getI goal (esV es)).getD (.int 0)) = _
    rw [getI_esV, ← hg]
    cases getN goal es <;> rfl
  have hdict : isDictV (.obj 79) H = true := by
    show (oD H[79]? some).isSome = true
    rw [S.mn]; rfl
  have e0 : evS (cx (d + 3)) kb0 (kl f promo ks y6 (some (.int goal)) y8 y9 y10 y11) H = some (.next, kl f promo ks y6 (some (.int goal)) y8 y9 y10 y11, H) :=
    evS_if_false (tCmp rfl rfl (cEq.trans (by rw [decide_eq_false hne'])))
  have e1 : evS (cx (d + 3)) kb1 (kl f promo ks y6 (some (.int goal)) y8 y9 y10 y11) H = some (.next, kl f promo ks y6 (some (.int goal)) (some (.int (64 * ks + goal))) y9 y10 y11, H) :=
    sAssign (eBin (eBin rfl rfl rfl) rfl rfl)
  have t2 : evT (cx (d + 3)) (kl f promo ks y6 (some (.int goal)) (some (.int (64 * ks + goal))) y9 y10 y11) (.cmp .eq (.get (.loc 3) (.loc 7) (.cint 0)) (.bin .add (.bin .mul (.cint 8) (.attr (.loc 0) 4)) (.cint 4))) H = some (decide (x = 8 * sd + 4), H) :=
    tCmp (eGet rfl hdict rfl rfl hget) (eBin (eBin rfl (eAttr rfl S.F.ps) rfl) rfl rfl) cEq
  have e2 : ∃ G, evS (cx (d + 3)) kb2 (kl f promo ks y6 (some (.int goal)) (some (.int (64 * ks + goal))) y9 y10 y11) H = some (.next, kl f promo ks y6 (some (.int goal)) (some (.int (dueN T sd ks goal x))) y9 y10 y11, H ++ G) := by
    by_cases q : x = 8 * sd + 4
    · let g : Row → Option Int := fun (_, h, g, c) => if h = ks ∧ c = goal then some (49152 + 64 * ks + g) else none
      have s1 := comp_rows (c := cx (d + 3)) (σ := kl f promo ks y6 (some (.int goal)) (some (.int (64 * ks + goal))) y9 y10 y11) (it := .loc 1) (H := H) (k := 4) (slot := 10) (elt := .bin .add (.bin .add (.cint 49152) (.bin .mul (.cint 64) (.loc 5))) (.idx (.loc 10) (.cint 2))) (ifs := [(.cmp .eq (.tup [(.idx (.loc 10) (.cint 1)), (.idx (.loc 10) (.cint 3))]) (.tup [(.loc 5), (.loc 7)]))]) (caps := [5, 7]) (g := g)
        rfl S.F.tb (by have := W.tl; omega) (fun r hr => by
          obtain ⟨i, h, g', c⟩ := r
          rw [compT_one (b := (h == ks) && ((c == goal) && true)) (tCmp (eTup (eCons rfl (eCons rfl eNil))) (eTup (eCons rfl (eCons rfl eNil))) rfl) (eBin (eBin rfl (eBin rfl rfl rfl) rfl) rfl rfl)]
          exact congrArg (fun z => some (z, H)) (row_int _ (by rw [ibeq, ibeq, Bool.and_true, Bool.decide_and]) _))
      rw [decide_eq_true q] at t2
      refine ⟨[.list ((T.filterMap g).map .int)], (evS_if_true t2).trans (evB_one (sAssign (eBi (eCons s1 eNil) ?_)))⟩
      show (oList (H ++ [O.list ((T.filterMap g).map .int)])[H.length]? fun l => (allInt l).bind fun l => some (V.int (sumL l 0), _)) = _
      rw [new0, oList_list, allInt_map, dueN, if_pos q]; rfl
    · rw [decide_eq_false q] at t2
      exact ⟨[], by rw [kb2, evS_if_false t2, dueN, if_neg q, List.append_nil]⟩
  obtain ⟨G, e2⟩ := e2
  have S' := S.app G
  let n := spotN f goal + 64 * spotN f ks
  have c1 : ∀ s : Nat, s < 1000 → rn (d + 3) 36 [.int f, .int s] (H ++ G) = some (.ret (.int (spotN f s)), H ++ G) := fun s hs => r_spot (by omega) (by omega) (by omega) (by omega)
  have e3 : evS (cx (d + 3)) kb3 (kl f promo ks y6 (some (.int goal)) (some (.int (dueN T sd ks goal x))) y9 y10 y11) (H ++ G) = some (.next, kl f promo ks y6 (some (.int goal)) (some (.int (dueN T sd ks goal x))) (some (.int n)) y10 y11, H ++ G) :=
    sAssign (eBin (eCall (eCons rfl (eCons rfl eNil)) (c1 goal h2)) (eBin rfl (eCall (eCons rfl (eCons rfl eNil)) (c1 ks h1)) rfl) rfl)
  have hb1 : rn (d + 3) 16 [.obj 72, .int n] (H ++ G) = some (.ret (.int (dueN T sd ks goal x)), H ++ G) := by rw [← o2]; exact bm_call (d := d) S' W hsd hk hx hne h1 h2 o1
  have t4 : evT (cx (d + 3)) (kl f promo ks y6 (some (.int goal)) (some (.int (dueN T sd ks goal x))) (some (.int n)) y10 y11) (.cmp .ne (.call 16 [(.loc 0), (.loc 9)]) (.loc 8)) (H ++ G) = some (false, H ++ G) := evT_ne0 (eCall (eCons rfl (eCons rfl eNil)) hb1) rfl
  have tg : ∀ {σ : Lo}, σ[4]? = some (some (.int promo)) → evT (cx (d + 3)) σ (.cmp .gt (.loc 4) (.cint 0)) (H ++ G) = some (decide (0 < promo), H ++ G) := fun h => tCmp (eLoc h) rfl rfl
  have e4 : evS (cx (d + 3)) kb4 (kl f promo ks y6 (some (.int goal)) (some (.int (dueN T sd ks goal x))) (some (.int n)) y10 y11) (H ++ G) = some (.next, kl f promo ks y6 (some (.int goal)) (some (.int (dueN T sd ks goal x))) (some (.int n)) y10 y11, H ++ G) := by
    apply evS_if_false
    by_cases q : promo ≤ 0
    · exact tOr t4 (tAnd0 ((tg rfl).trans (by rw [decide_eq_false (Int.not_lt.mpr q)])))
    · rw [show decide (promo ≤ 0) = false from decide_eq_false q, Bool.false_or, Bool.and_eq_true, beq_iff_eq] at o3
      have hb2 : rn (d + 3) 16 [.obj 72, .int (n + 4096 * promo)] (H ++ G) = some (.ret (.int 0), H ++ G) := by rw [← o3.2]; exact bm_call (d := d) S' W hsd hk hx hne h1 h2 o3.1
      exact tOr t4 (tAnd ((tg rfl).trans (by rw [decide_eq_true (Int.not_le.mp q)])) (evT_ne0 (eCall (eCons rfl (eCons (eBin rfl (eBin rfl rfl rfl) rfl) eNil)) hb2) rfl))
  refine ⟨some (.int (dueN T sd ks goal x)), some (.int n), G, ?_⟩
  rw [evB_next e0, evB_next e1, evB_next e2, evB_next e3]
  exact evB_one e4
theorem kings_comp {y6 y7 y8 y9 y10 y11 y5 : Option V} (S : St cs k f r C T sd B es H) (hl : es.length < 100) : evE (cx (d + 3)) [some (.obj 72), some (.obj 4), some (.int f), some (.obj 79), some (.int promo), y5, y6, y7, y8, y9, y10, y11] krComp H = some (.obj H.length, H ++ [.list ((kingsN es sd).map .int)]) := by
  let H0 := H.set 79 (.fdict (esV es))
  have lt : 79 < H.length := (List.getElem?_eq_some_iff.mp S.mn).1
  have h0 : H0[79]? = some (.fdict (esV es)) := List.getElem?_set_self lt
  have hps : attrV (.obj 72) 4 H0 = some (.int sd) := attr_keep S.F.ps fun o e => by rw [List.getElem?_set_ne (by decide)]; exact e
  let g : V → Option V := fun v => match v with | .int s => if getN s es = some (8 * sd + 6) then some (.int s) else none | _ => none
  have s1 := comp_gen (c := cx (d + 3)) (σ := [some (.obj 72), some (.obj 4), some (.int f), some (.obj 79), some (.int promo), y5, y6, y7, y8, y9, y10, y11]) (it := .loc 3) (H := H) (H0 := H0) (a := .obj 79) (l := es.map fun e => .int e.1) (g := g) (slot := 11) (elt := .loc 11)
    (ifs := [(.cmp .eq (.idx (.loc 3) (.loc 11)) (.bin .add (.bin .mul (.cint 8) (.attr (.loc 0) 4)) (.cint 6)))]) (caps := [0, 3]) rfl
    (by simp only [freeze, S.mn, onV, onO, grd_true, grd_false]; rw [show fits (es.map fun e => (e.1, V.int e.2)).length = true from Nat.ble_eq_true_of_le (by simp; omega)]; rfl)
    (fun i => by simp only [nextV, h0, List.getElem?_map, onV, onO, grd_true, grd_false]; cases es[i]? <;> rfl) (by simp; omega)
    (fun v hv => by
      obtain ⟨e, he, rfl⟩ := List.mem_map.mp hv
      have hi : ∃ y, getN e.1 es = some y := by
        clear hv lt h0 hps H0 hl S g
        induction es with
        | nil => cases he
        | cons a t ih =>
          obtain ⟨j, w⟩ := a
          rw [getN]
          by_cases q : j = e.1
          · exact ⟨w, by rw [if_pos q]⟩
          · rw [if_neg q]
            rcases List.mem_cons.mp he with rfl | he
            · exact absurd rfl q
            · exact ih he
      obtain ⟨y, hy⟩ := hi
      have hix : idxV (.obj 79) (.int e.1) H0 = some (.int y) := by
        show onO H0[79]? _ _ _ _ _ _ _ = _
        rw [h0]
        show getI e.1 (esV es) = _
        rw [getI_esV, hy]; rfl
      rw [compT_one (tCmp (eIdx rfl rfl hix) (eBin (eBin rfl (eAttr rfl hps) rfl) rfl rfl) cEq) rfl]
      show some (_, H0) = some ((if getN e.1 es = some (8 * sd + 6) then some (V.int e.1) else none), H0)
      rw [hy]
      by_cases q : y = 8 * sd + 6 <;> simp [q])
    (by
      simp only [thaw, h0, onV, onO]
      rw [List.set_set]
      exact List.ext_getElem? fun i => by
        by_cases q : 79 = i
        · subst q; rw [List.getElem?_set_self lt]; exact S.mn.symm
        · rw [List.getElem?_set_ne q])
  rw [krComp, s1]
  have e : (es.map fun e => V.int e.1).filterMap g = (kingsN es sd).map .int := by
    unfold kingsN
    rw [List.filterMap_map, List.filterMap_map, List.map_filterMap]
    congr 1
    funext e
    simp only [Function.comp, g]
    split <;> rfl
  rw [e]
theorem king_right (S : St cs k f r C T sd B es H) (W : Shp f r C T) (hsd : sd = 0 ∨ sd = 1) (hl : es.length < 100) (hk : (kingsN es sd).head? = some (ks : Int)) (hks : ks < f * r) (hp : 0 ≤ promo ∧ promo < 5)
    (hB : B[ks]? = some (sd * 8 + 6)) (hg : ∀ n, n < f → ks / f * f + n ≠ ks → ∃ x, B[ks / f * f + n]? = some x ∧ (getN (ks / f * f + n : Nat) es).getD 0 = x ∧ okGoal f r C T sd ks (ks / f * f + n : Nat) x promo = true) :
    ∃ H', rn (d + 4) 41 [.obj 72, .obj 4, .int f, .obj 79, .int promo] H = some (.ret (.bool true), H') := by
  have sz := W.sz; have f1 := W.f1; have f2 := W.f2
  let low := ks / f * f
  have hlow : low ≤ ks := Nat.div_mul_le_self ks f
  rw [run_succ]
  show ∃ H', endOf (evB (cx (d + 3)) b_law_king_right [some (.obj 72), some (.obj 4), some (.int f), some (.obj 79), some (.int promo), none, none, none, none, none, none, none] H) = _
  rw [kr_eq]
  let G0 : Hp := [.list ((kingsN es sd).map .int)]
  have s1 : evS (cx (d + 3)) (.assign 5 (.idx krComp (.cint 0))) [some (.obj 72), some (.obj 4), some (.int f), some (.obj 79), some (.int promo), none, none, none, none, none, none, none] H = some (.next, kl f promo ks none none none none none none, H ++ G0) := by
    have i0 : idxV (.obj H.length) (.int (0 : Nat)) (H ++ G0) = some (.int ks) := idx_list (new0 : (H ++ G0)[H.length]? = some (.list ((kingsN es sd).map .int))) (Nat.zero_le _) (by
      cases q : kingsN es sd with
      | nil => rw [q] at hk; cases hk
      | cons a t => rw [q] at hk; cases hk; rfl)
    exact sAssign (eIdx (kings_comp S hl) rfl i0)
  have s2 : evS (cx (d + 3)) (.assign 6 (.bin .mul (.bin .fdiv (.loc 5) (.loc 2)) (.loc 2))) (kl f promo ks none none none none none none) (H ++ G0) = some (.next, kl f promo ks (some (.int low)) none none none none none, H ++ G0) := by
    have h1 : ((f : Int) == 0) = false := by simp; omega
    have h2 : small (ks : Int) = true := small_of (by omega)
    have h3 : Nat.blt f 1073741824 = true := Nat.blt_eq.mpr (Nat.lt_trans f2 (by decide))
    have h4 : small (Int.fdiv ks f) = true := small_fdiv (by omega) (by omega) (by omega)
    have h5 : Int.fdiv ks f * f = (low : Int) := by rw [Int.fdiv_eq_ediv_of_nonneg _ (by omega)]; simp [low]
    refine sAssign (x := .int low) (eBin (x := .int (Int.fdiv ks f)) (H1 := H ++ G0) (H2 := H ++ G0) (eBin rfl rfl ?_) rfl ?_)
    · show (grd (!((f : Int) == 0)) (grd (small ks && Nat.blt f 1073741824) _)).bind _ = _
      rw [h1, h2, h3]; rfl
    · show (grd (small (Int.fdiv ks f)) _).bind _ = _
      rw [h4, ← h5]; rfl
  have s3 := for_rng (c := cx (d + 3)) (i := 7) (it := .bi .range2 [(.loc 6), (.bin .add (.loc 6) (.loc 2))]) (body := [kb0, kb1, kb2, kb3, kb4]) (a := (low : Int)) (N := f)
    (P := fun q_ σ H' => ∃ y7 y8 y9 y10 y11 G, σ = kl f promo ks (some (.int low)) y7 y8 y9 y10 y11 ∧ H' = H ++ G) (σ := kl f promo ks (some (.int low)) none none none none none) (H := H ++ G0) (H1 := H ++ G0)
    (ev_range2 rfl rfl (Int.natCast_nonneg _) (Int.ofNat_lt.mpr (Nat.lt_of_le_of_lt hlow (Nat.lt_trans hks (Nat.lt_trans sz.1 (by decide))))) (Nat.lt_trans f2 (by decide))) (Nat.lt_trans f2 (by decide)) ?_ ⟨_, _, _, _, _, _, rfl, rfl⟩
  · obtain ⟨σ', H', e, y7, y8, y9, y10, y11, G, rfl, rfl⟩ := s3
    refine ⟨H ++ G, ?_⟩
    rw [evB_next s1, evB_next s2, evB_next e]
    rfl
  · rintro n hn σ H' ⟨y7, y8, y9, y10, y11, G, rfl, rfl⟩
    by_cases q : low + n = ks
    · refine ⟨.cont, kl f promo ks (some (.int low)) (some (.int ks)) y8 y9 y10 y11, H ++ G, .inr rfl, ?_, _, _, _, _, _, _, rfl, rfl⟩
      have : (low : Int) + n = ks := by omega
      rw [this]
      show evB (cx (d + 3)) _ (kl f promo ks (some (.int low)) (some (.int ks)) y8 y9 y10 y11) (H ++ G) = _
      exact evB_cont ((evS_if_true (tCmp rfl rfl (cEq.trans (by rw [decide_eq_true rfl])))).trans rfl)
    · obtain ⟨x, hx, hgx, ok⟩ := hg n hn q
      obtain ⟨z8, z9, G', e⟩ := kr_turn (d := d) (promo := promo) (ks := ks) (goal := low + n) (y6 := some (.int low)) (y8 := y8) (y9 := y9) (y10 := y10) (y11 := y11) (S.app G) W hsd hB hx hgx (fun z => q z.symm) (by omega) (by omega) hp ok
      refine ⟨.next, _, _, .inl rfl, e, some (.int ((low + n : Nat) : Int)), z8, z9, y10, y11, G ++ G', rfl, by rw [List.append_assoc]⟩
end
end Mine
end
/-! Pl13 -/
section
set_option Elab.async false
set_option genSizeOf false
set_option linter.all false
set_option maxRecDepth 100000
set_option maxHeartbeats 4000000
open PySem
namespace Mine
theorem sAssignAttr {c : Cx} {σ : Lo} {H H1 H2 H3 : Hp} {o e : X} {a : Nat} {v x : V} (he : evE c σ e H = some (v, H1)) (ho : evE c σ o H1 = some (x, H2)) (hs : setAttrV x a v H2 = some H3) : evS c (.assignAttr o a e) σ H = some (.next, σ, H3) := by
  show (evE c σ e H).bind _ = _
  rw [he]
  show (evE c σ o H1).bind _ = _
  rw [ho]
  show (setAttrV x a v H2).bind _ = _
  rw [hs]; rfl
theorem eList {c : Cx} {σ : Lo} {H H1 : Hp} {l : List X} {q : List V} (h : evL c σ l H = some (q, H1)) : evE c σ (.list l) H = some (.obj H1.length, H1 ++ [.list q]) := by
  show (evL c σ l H).bind _ = _
  rw [h]; rfl
/-- while the men are laid -/
structure LS (H0 : Hp) (cs : List Int) (k : Nat) (es : List (Int × Int)) (n : Nat) (H : Hp) : Prop where
  len : H.length = n
  pu : H[1]? = some (purseO 2 k)
  ce : H[2]? = some (.list (cs.map .int))
  mn : H[79]? = some (.dict (esV es))
  kp : ∀ j o, j ≠ 1 → j ≠ 79 → H0[j]? = some o → H[j]? = some o
section
variable {H0 H : Hp} {cs : List Int} {k d n : Nat} {es : List (Int × Int)}
theorem LS.app (S : LS H0 cs k es n H) (G : Hp) : LS H0 cs k es (n + G.length) (H ++ G) := ⟨by rw [List.length_append, S.len], hp_app G S.pu, hp_app G S.ce, hp_app G S.mn, fun j o h1 h2 h => hp_app G (S.kp j o h1 h2 h)⟩
theorem LS.pulled (S : LS H0 cs k es n H) : LS H0 cs (k + 1) es n (H.set 1 (purseO 2 (k + 1))) :=
  ⟨by rw [List.length_set]; exact S.len, set1_get S.pu, hp_set1 S.ce (by decide), hp_set1 S.mn (by decide), fun j o h1 h2 h => hp_set1 (S.kp j o h1 h2 h) (fun z => h1 z.symm)⟩
theorem LS.put (S : LS H0 cs k es n H) (es' : List (Int × Int)) : LS H0 cs k es' n (H.set 79 (.dict (esV es'))) :=
  ⟨by rw [List.length_set]; exact S.len, by rw [List.getElem?_set_ne (by decide)]; exact S.pu, by rw [List.getElem?_set_ne (by decide)]; exact S.ce, List.getElem?_set_self (List.getElem?_eq_some_iff.mp S.mn).1, fun j o h1 h2 h => by rw [List.getElem?_set_ne (fun z => h2 z.symm)]; exact S.kp j o h1 h2 h⟩
theorem LS.pull {many : Int} (S : LS H0 cs k es n H) (hl : cs.length ≤ 14) (hk : k ≤ 14) (hm : 0 < many) :
    rn (d + 1) 34 [.obj 1, .int many] H = some (.ret (.int (pullv cs k many)), H.set 1 (purseO 2 (k + 1))) := r_pull S.pu S.ce (by decide) hl hk hm
theorem esV_len (es : List (Int × Int)) : (esV es).length = es.length := by simp
theorem setI_new {i v : Int} (S : LS H0 cs k es n H) (hn : getN i es = none) (hl : es.length < 100) : setIdxV (.obj 79) (.int i) (.int v) H = some (H.set 79 (.dict (esV (es ++ [(i, v)])))) := by
  have h1 : fits (esV es).length = true := Nat.ble_eq_true_of_le (by rw [esV_len]; omega)
  have h2 : getI i (esV es) = none := by rw [getI_esV, hn]; rfl
  have h3 : putI i (.int v) (esV es) = esV (es ++ [(i, v)]) := by
    unfold putI
    rw [h2]
    simp [esV]
  show onO H[79]? _ _ _ _ _ _ _ = _
  rw [S.mn]
  show grd (fits (esV es).length) (some (H.set 79 (.dict (putI i (.int v) (esV es))))) = _
  rw [h1, h3]; rfl
noncomputable def whatN (s : Int) (q : Int) : Int := if q < 3 then 8 * s + 4 else if q = 3 then 12 - 8 * s else 0
noncomputable def addN (c w : Int) (es : List (Int × Int)) : List (Int × Int) := if getN c es = none ∧ 0 < w then es ++ [(c, w)] else es
noncomputable def lm1 : S := .assign 7 (.idx (.list [(.bin .add (.bin .mul (.cint 8) (.loc 4)) (.cint 4)), (.bin .add (.bin .mul (.cint 8) (.loc 4)) (.cint 4)), (.bin .add (.bin .mul (.cint 8) (.loc 4)) (.cint 4)), (.bin .sub (.cint 12) (.bin .mul (.cint 8) (.loc 4))), (.cint 0)]) (.call 34 [(.loc 0), (.cint 5)]))
noncomputable def lm2 : S := .if_ (.and_ [(.cmp .notin (.loc 6) (.loc 3)), (.cmp .gt (.loc 7) (.cint 0))]) [.assignIdx (.loc 3) (.loc 6) (.loc 7)] []
noncomputable def ll (f r : Nat) (s : Int) (y5 y6 y7 : Option V) : Lo := [some (.obj 1), some (.int f), some (.int r), some (.obj 79), some (.int s), y5, y6, y7]
theorem laid_m {f r : Nat} {s c : Int} {y5 y7 : Option V} (S : LS H0 cs k es n H) (hl : cs.length ≤ 14) (hk : k ≤ 14) (he : es.length < 100) :
    ∃ y7' H', evB (cx (d + 1)) [lm1, lm2] (ll f r s y5 (some (.int c)) y7) H = some (.next, ll f r s y5 (some (.int c)) y7', H') ∧ LS H0 cs (k + 1) (addN c (whatN s (pullv cs k 5)) es) (n + 1) H' := by
  let G : Hp := [.list [.int (8 * s + 4), .int (8 * s + 4), .int (8 * s + 4), .int (12 - 8 * s), .int 0]]
  have S1 := S.app G
  have p1 := S1.pull (d := d) (many := 5) hl hk (by decide)
  obtain ⟨q0, q1⟩ := pullv_range (cs := cs) (k := k) (many := 5) (by decide)
  generalize pullv cs k 5 = q at p1 q0 q1
  have S2 := S1.pulled
  generalize hH2 : (H ++ G).set 1 (purseO 2 (k + 1)) = H2 at p1 S2
  have hlt : H.length ≠ 1 := by have := (List.getElem?_eq_some_iff.mp S.mn).1; omega
  have hn : H2[H.length]? = some (.list [.int (8 * s + 4), .int (8 * s + 4), .int (8 * s + 4), .int (12 - 8 * s), .int 0]) := by
    rw [← hH2, List.getElem?_set_ne (fun z => hlt z.symm)]; exact new0
  have hi : idxV (.obj H.length) (.int q) H2 = some (.int (whatN s q)) := by
    have : q = 0 ∨ q = 1 ∨ q = 2 ∨ q = 3 ∨ q = 4 := by omega
    rcases this with rfl | rfl | rfl | rfl | rfl
    · exact idx_list (n := 0) hn (by decide) rfl
    · exact idx_list (n := 1) hn (by decide) rfl
    · exact idx_list (n := 2) hn (by decide) rfl
    · exact idx_list (n := 3) hn (by decide) rfl
    · exact idx_list (n := 4) hn (by decide) rfl
  have e1 : evS (cx (d + 1)) lm1 (ll f r s y5 (some (.int c)) y7) H = some (.next, ll f r s y5 (some (.int c)) (some (.int (whatN s q))), H2) := by
    exact sAssign (eIdx (eList (eCons (eBin (eBin rfl rfl rfl) rfl rfl) (eCons (eBin (eBin rfl rfl rfl) rfl rfl) (eCons (eBin (eBin rfl rfl rfl) rfl rfl) (eCons (eBin rfl (eBin rfl rfl rfl) rfl) (eCons rfl eNil)))))) (eCall (eCons rfl (eCons rfl eNil)) p1) hi)
  have hin : inV (.int c) (.obj 79) H2 = some (getN c es).isSome := by
    show oD H2[79]? _ = _
    rw [S2.mn]
    show some (getI c (esV es)).isSome = _
    rw [getI_esV]
    cases getN c es <;> rfl
  have ht : evT (cx (d + 1)) (ll f r s y5 (some (.int c)) (some (.int (whatN s q)))) (.and_ [(.cmp .notin (.loc 6) (.loc 3)), (.cmp .gt (.loc 7) (.cint 0))]) H2 = some (!(getN c es).isSome && (decide (0 < whatN s q) && true), H2) :=
    tAndL (taC (tCmp (op := .notin) rfl rfl (by show (inV (.int c) (.obj 79) H2).bind _ = _; rw [hin]; rfl)) (taC (tCmp rfl rfl rfl) rfl))
  by_cases a : getN c es = none ∧ 0 < whatN s q
  · refine ⟨some (.int (whatN s q)), H2.set 79 (.dict (esV (es ++ [(c, whatN s q)]))), ?_, ?_⟩
    · rw [a.1, decide_eq_true a.2] at ht
      exact (evB_next e1).trans (evB_one ((evS_if_true ht).trans (evB_one (sAssignIdx rfl rfl rfl (setI_new S2 a.1 he)))))
    · unfold addN
      rw [if_pos a]
      exact S2.put _
  · refine ⟨some (.int (whatN s q)), H2, ?_, ?_⟩
    · refine (evB_next e1).trans (evB_one (evS_if_false (ht.trans ?_)))
      cases h : getN c es with
      | none => rw [decide_eq_false fun z => a ⟨h, z⟩]; rfl
      | some _ => rfl
    · unfold addN
      rw [if_neg a]
      exact S2
theorem for_two {c : Cx} {i : Nat} {it : X} {body : List S} {u v : V} {σ σ1 σ2 : Lo} {H H1 H2 H3 : Hp} (hit : evE c σ it H = some (.tup [u, v], H1)) (h1 : evB c body (σ.set i (some u)) H1 = some (.next, σ1, H2)) (h2 : evB c body (σ1.set i (some v)) H2 = some (.next, σ2, H3)) :
    evS c (.for_ i it body) σ H = some (.next, σ2, H3) := by
  have e : loop (nextV (.tup [u, v])) (forT c i body) (997 + 1 + 1 + 1) 0 σ H1 = some (.next, σ2, H3) := by
    rw [loop, show nextV (.tup [u, v]) H1 0 = some (some u) from rfl]
    dsimp only
    rw [show forT c i body u σ H1 = some (.next, σ1, H2) from h1]
    dsimp only
    rw [loop, show nextV (.tup [u, v]) H2 (0 + 1) = some (some v) from rfl]
    dsimp only
    rw [show forT c i body v σ1 H2 = some (.next, σ2, H3) from h2]
    dsimp only
    rw [loop, show nextV (.tup [u, v]) H3 (0 + 1 + 1) = some none from rfl]
  rw [evS_for, hit, Option.bind_some]
  show (((some H1).bind fun H₀ => (loop (nextV (.tup [u, v])) (forT c i body) (997 + 1 + 1 + 1) 0 σ H₀).bind fun r => some (r.1, r.2.1, thaw (.tup [u, v]) r.2.2))) = _
  rw [Option.bind_some, e]
  rfl
noncomputable def lowN (f r : Nat) (s : Int) : Int := s * ((f : Int) * r - f)
noncomputable def turnN (f r : Nat) (s p w1 w2 : Int) (es : List (Int × Int)) : List (Int × Int) := addN (lowN f r s + f - 1) w2 (addN (lowN f r s) w1 (es ++ [(lowN f r s + Int.fdiv f 2 + p, 8 * s + 6)]))
noncomputable def la1 : S := .assign 5 (.bin .mul (.loc 4) (.bin .sub (.bin .mul (.loc 1) (.loc 2)) (.loc 1)))
noncomputable def la2 : S := .assignIdx (.loc 3) (.bin .add (.bin .add (.loc 5) (.bin .fdiv (.loc 1) (.cint 2))) (.bin .fdiv (.call 34 [(.loc 0), (.cint 5)]) (.cint 4))) (.bin .add (.bin .mul (.cint 8) (.loc 4)) (.cint 6))
noncomputable def la3 : S := .for_ 6 (.tup [(.loc 5), (.bin .sub (.bin .add (.loc 5) (.loc 1)) (.cint 1))]) [lm1, lm2]
theorem laid_eq : b_law_laid = [.assign 3 .dict0, .for_ 4 (.tup [(.cint 0), (.cint 1)]) [la1, la2, la3], .ret (.loc 3)] := rfl
theorem addN_len (c w : Int) (es : List (Int × Int)) : (addN c w es).length ≤ es.length + 1 := by unfold addN; split <;> simp
theorem laid_turn {f r : Nat} {s : Int} {y5 y6 y7 : Option V} (S : LS H0 cs k es n H) (hl : cs.length ≤ 14) (hk : k + 2 ≤ 14) (he : es.length < 50) (hs : small s = true) (hf : f < 10) (hn : getN (lowN f r s + Int.fdiv f 2 + Int.fdiv (pullv cs k 5) 4) es = none) :
    ∃ y5' y6' y7' H', evB (cx (d + 1)) [la1, la2, la3] (ll f r s y5 y6 y7) H = some (.next, ll f r s y5' y6' y7', H') ∧
      LS H0 cs (k + 3) (turnN f r s (Int.fdiv (pullv cs k 5) 4) (whatN s (pullv cs (k + 1) 5)) (whatN s (pullv cs (k + 2) 5)) es) (n + 2) H' := by
  have p1 := S.pull (d := d) (many := 5) hl (by omega) (by decide)
  obtain ⟨q0, q1⟩ := pullv_range (cs := cs) (k := k) (many := 5) (by decide)
  have S1 := S.pulled
  generalize hH1 : H.set 1 (purseO 2 (k + 1)) = H1 at p1 S1
  generalize pullv cs k 5 = q at *
  have sf : small (f : Int) = true := small_of (by omega)
  have e1 : evS (cx (d + 1)) la1 (ll f r s y5 y6 y7) H = some (.next, ll f r s (some (.int (lowN f r s))) y6 y7, H) := by
    have mf : ibin .mul (f : Int) r = some ((f : Int) * r) := by show grd (small (f : Int)) _ = _; rw [sf]; rfl
    have ms : ibin .mul s ((f : Int) * r - f) = some (lowN f r s) := by show grd (small s) _ = _; rw [hs]; rfl
    exact sAssign (eBin rfl (eBin (eBin rfl rfl (bInt mf)) rfl rfl) (bInt ms))
  have sq : small q = true := small_of (by omega)
  have e2 : evS (cx (d + 1)) la2 (ll f r s (some (.int (lowN f r s))) y6 y7) H = some (.next, ll f r s (some (.int (lowN f r s))) y6 y7, H1.set 79 (.dict (esV (es ++ [(lowN f r s + Int.fdiv f 2 + Int.fdiv q 4, 8 * s + 6)])))) := by
    have mf : ibin .fdiv (f : Int) 2 = some (Int.fdiv f 2) := by show grd (small (f : Int) && true) _ = _; rw [sf]; rfl
    have mq : ibin .fdiv q 4 = some (Int.fdiv q 4) := by show grd (small q && true) _ = _; rw [sq]; rfl
    exact sAssignIdx (eBin (eBin rfl rfl rfl) rfl rfl) rfl (eBin (eBin rfl (eBin rfl rfl (bInt mf)) rfl) (eBin (eCall (eCons rfl (eCons rfl eNil)) p1) rfl (bInt mq)) rfl) (setI_new S1 hn (by omega))
  have S2 := S1.put (es ++ [(lowN f r s + Int.fdiv f 2 + Int.fdiv q 4, 8 * s + 6)])
  refine byC fun nG => ?_
  obtain ⟨y7a, H3, e3, S3⟩ := laid_m (d := d) (f := f) (r := r) (s := s) (c := lowN f r s) (y5 := some (.int (lowN f r s))) (y7 := y7) S2 hl (by omega) (by simp; omega)
  have l3 := addN_len (lowN f r s) (whatN s (pullv cs (k + 1) 5)) (es ++ [(lowN f r s + Int.fdiv f 2 + Int.fdiv q 4, 8 * s + 6)])
  obtain ⟨y7b, H4, e4, S4⟩ := laid_m (d := d) (f := f) (r := r) (s := s) (c := lowN f r s + f - 1) (y5 := some (.int (lowN f r s))) (y7 := y7a) S3 hl (by omega) (by rw [List.length_append] at l3; simp at l3; omega)
  refine nG ?_
  refine ⟨some (.int (lowN f r s)), some (.int (lowN f r s + f - 1)), y7b, H4, ?_, S4⟩
  rw [evB_next e1, evB_next e2]
  apply evB_one
  exact for_two (u := .int (lowN f r s)) (v := .int (lowN f r s + f - 1)) (eTup (eCons rfl (eCons (eBin (eBin rfl rfl rfl) rfl rfl) eNil))) e3 e4
noncomputable def menN (f r : Nat) (p0 a0 b0 p1 a1 b1 : Int) : List (Int × Int) := turnN f r 1 p1 a1 b1 (turnN f r 0 p0 a0 b0 [])
theorem turnN_len (f r : Nat) (s p w1 w2 : Int) (es : List (Int × Int)) : (turnN f r s p w1 w2 es).length ≤ es.length + 3 := by
  unfold turnN
  have h1 := addN_len (lowN f r s) w1 (es ++ [(lowN f r s + Int.fdiv f 2 + p, 8 * s + 6)])
  have h2 := addN_len (lowN f r s + f - 1) w2 (addN (lowN f r s) w1 (es ++ [(lowN f r s + Int.fdiv f 2 + p, 8 * s + 6)]))
  rw [List.length_append] at h1
  simp at h1
  omega
theorem laid_call {f r : Nat} (hlen : H.length = 79) (pu : H[1]? = some (purseO 2 k)) (ce : H[2]? = some (.list (cs.map .int))) (hl : cs.length ≤ 14) (hk : k + 6 ≤ 14) (hf : f < 10)
    (hn : getN (lowN f r 1 + Int.fdiv f 2 + Int.fdiv (pullv cs (k + 3) 5) 4) (turnN f r 0 (Int.fdiv (pullv cs k 5) 4) (whatN 0 (pullv cs (k + 1) 5)) (whatN 0 (pullv cs (k + 2) 5)) []) = none) :
    ∃ H', rn (d + 2) 37 [.obj 1, .int f, .int r] H = some (.ret (.obj 79), H') ∧
      LS H cs (k + 6) (menN f r (Int.fdiv (pullv cs k 5) 4) (whatN 0 (pullv cs (k + 1) 5)) (whatN 0 (pullv cs (k + 2) 5)) (Int.fdiv (pullv cs (k + 3) 5) 4) (whatN 1 (pullv cs (k + 4) 5)) (whatN 1 (pullv cs (k + 5) 5))) 84 H' := by
  rw [run_succ]
  show ∃ H', endOf (evB (cx (d + 1)) b_law_laid [some (.obj 1), some (.int f), some (.int r), none, none, none, none, none] H) = _ ∧ _
  rw [laid_eq]
  have S0 : LS H cs k [] 80 (H ++ [.dict []]) := ⟨by rw [List.length_append, hlen]; rfl, hp_app _ pu, hp_app _ ce, by rw [← hlen]; exact new0, fun j o q_ q_ h => hp_app _ h⟩
  refine byC fun nG => ?_
  obtain ⟨a5, a6, a7, H1, e1, S1⟩ := laid_turn (d := d) (f := f) (r := r) (s := 0) (y5 := none) (y6 := none) (y7 := none) S0 hl (by omega) (by decide) rfl hf rfl
  have l1 := turnN_len f r 0 (Int.fdiv (pullv cs k 5) 4) (whatN 0 (pullv cs (k + 1) 5)) (whatN 0 (pullv cs (k + 2) 5)) []
  rw [List.length_nil] at l1
  obtain ⟨b5, b6, b7, H2, e2, S2⟩ := laid_turn (d := d) (f := f) (r := r) (s := 1) (y5 := a5) (y6 := a6) (y7 := a7) S1 hl (by omega) (by omega) rfl hf hn
  refine nG ?_
  refine ⟨H2, ?_, S2⟩
  have e0 : evS (cx (d + 1)) (.assign 3 .dict0) [some (.obj 1), some (.int f), some (.int r), none, none, none, none, none] H = some (.next, [some (.obj 1), some (.int f), some (.int r), some (.obj 79), none, none, none, none], H ++ [.dict []]) := by
    have := sAssign (c := cx (d + 1)) (σ := [some (.obj 1), some (.int f), some (.int r), none, none, none, none, none]) (i := 3) (rfl : evE (cx (d + 1)) _ .dict0 H = some (.obj H.length, H ++ [.dict []]))
    rw [hlen] at this
    exact this
  rw [evB_next e0, evB_next (for_two (u := .int 0) (v := .int 1) rfl e1 e2)]
  rfl
end
end Mine
end
/-! Pl14 -/
section
set_option Elab.async false
set_option genSizeOf false
set_option linter.all false
set_option maxRecDepth 100000
set_option maxHeartbeats 4000000
open PySem
namespace Mine
noncomputable def posA (sd key : Int) : List (Nat × V) := [(3, .obj 5), (20, .obj 71), (5, .obj 74), (17, .obj 76), (18, .obj 77), (4, .int sd), (23, .int 0), (6, .int (-1)), (24, .int 0), (10, .int 1), (19, .int key), (25, .obj 78)]
noncomputable def zsL : List V := (List.range 15).map fun i => .obj (37 + 2 * i)
/-- while the pieces are put -/
structure PS (H0 : Hp) (n : Nat) (sd : Int) (es : List (Int × Int)) (B : List Int) (H : Hp) : Prop where
  len : H.length = H0.length
  pos : ∃ key, H[72]? = some (.inst 1 (posA sd key))
  bd : H[74]? = some (.list (B.map .int))
  bl : B.length = n
  kn : ∃ K : List Int, K.length = 7 ∧ H[76]? = some (.list (K.map .int))
  sn : ∃ L : List Int, L.length = 2 ∧ H[77]? = some (.list (L.map .int))
  mn : H[79]? = some (.fdict (esV es))
  z1 : attrV (.obj 71) 21 H = some (.obj 66)
  z2 : H[66]? = some (.list zsL)
  z3 : ∀ i, i < 15 → H[37 + 2 * i]? = some (.list ((List.replicate n 0).map .int))
  kp : ∀ j o, j ≠ 72 → j ≠ 74 → j ≠ 76 → j ≠ 77 → j ≠ 79 → H0[j]? = some o → H[j]? = some o
theorem setIdx_list {k n : Nat} {H : Hp} {l : List V} {v : V} (h : H[k]? = some (.list l)) (hn : n < l.length) (hl : n ≤ 100000) : setIdxV (.obj k) (.int n) v H = some (H.set k (.list (l.set n v))) := by
  have h1 : (fits n && Nat.blt n l.length) = true := by rw [Bool.and_eq_true, Nat.blt_eq]; exact ⟨Nat.ble_eq_true_of_le hl, hn⟩
  show onO H[k]? none (fun l => grd (fits n && Nat.blt n l.length) (some (H.set k (.list (l.set n v))))) _ _ _ _ _ = _
  rw [h]
  show grd (fits n && Nat.blt n l.length) _ = _
  rw [h1]; rfl
theorem aug_or {c : Cx} {σ : Lo} {o i e : X} {H : Hp} {k n : Nat} {L : List Int} {v : Int} (ho : evE c σ o H = some (.obj k, H)) (hi : evE c σ i H = some (.int n, H)) (he : evE c σ e H = some (.int v, H)) (hL : H[k]? = some (.list (L.map .int))) (hn : n < L.length) (hl : n ≤ 100000) :
    ∃ L' : List Int, L'.length = L.length ∧ evS c (.augIdx o i .or e) σ H = some (.next, σ, H.set k (.list (L'.map .int))) := by
  have h1 : idxV (.obj k) (.int n) H = some (.int L[n]) := idx_list hL hl (by simp [hn])
  refine ⟨L.set n (Builtin.bitOr L[n] v), by simp, ?_⟩
  refine sAugIdx ho hi h1 he rfl ?_
  rw [setIdx_list hL (by simpa using hn) hl, List.map_set]
theorem attr72 {H : Hp} {sd key : Int} (h : H[72]? = some (.inst 1 (posA sd key))) (a : Nat) : attrV (.obj 72) a H = getAttr' a (posA sd key) := attr_of h
section
variable {H0 H : Hp} {n d : Nat} {sd : Int} {es : List (Int × Int)} {B : List Int}
theorem ne37 {p k : Nat} (h : p < 15) (hk : 65 < k) : 37 + 2 * p ≠ k := by omega
theorem put_turn {p s : Nat} (S : PS H0 n sd es B H) (hn : n ≤ 100) (hs : s < n) (hp : p = 4 ∨ p = 6 ∨ p = 12 ∨ p = 14) :
    ∃ H', rn (d + 2) 32 [.obj 72, .int p, .int s] H = some (.ret .none, H') ∧ PS H0 n sd es (B.set s p) H' := by
  obtain ⟨key, pos⟩ := S.pos
  obtain ⟨K, kl, kn⟩ := S.kn
  obtain ⟨L, ll, sn⟩ := S.sn
  obtain ⟨a, ha, ha'⟩ : ∃ a : Nat, Int.fdiv p 8 = a ∧ a < 2 := by rcases hp with rfl | rfl | rfl | rfl <;> first | exact ⟨0, rfl, by decide⟩ | exact ⟨1, rfl, by decide⟩
  obtain ⟨b, hb, hb'⟩ : ∃ b : Nat, Builtin.bitAnd p 7 = b ∧ b < 7 := by rcases hp with rfl | rfl | rfl | rfl <;> first | exact ⟨4, rfl, by decide⟩ | exact ⟨6, rfl, by decide⟩
  have hp15 : p < 15 := by rcases hp with rfl | rfl | rfl | rfl <;> decide
  let bit : Int := 1 * Int.ofNat (2 ^ s)
  have lt72 := (List.getElem?_eq_some_iff.mp pos).1
  have lt74 := (List.getElem?_eq_some_iff.mp S.bd).1
  have lt76 := (List.getElem?_eq_some_iff.mp kn).1
  have lt77 := (List.getElem?_eq_some_iff.mp sn).1
  rw [run_succ]
  show ∃ H', endOf (evB (cx (d + 1)) b_put_piece [some (.obj 72), some (.int p), some (.int s), none] H) = _ ∧ _
  let σ : Lo := [some (.obj 72), some (.int p), some (.int s), some (.int bit)]
  have e0 : evS (cx (d + 1)) (.assign 3 (.bin .shl (.cint 1) (.loc 2))) [some (.obj 72), some (.int p), some (.int s), none] H = some (.next, σ, H) := by
    have : Nat.ble s 1000000 = true := Nat.ble_eq_true_of_le (Nat.le_trans (Nat.le_of_lt hs) (Nat.le_trans hn (by decide)))
    refine sAssign (x := .int bit) (eBin rfl rfl ?_)
    show (grd (true && Nat.ble s 1000000) _).bind _ = _
    rw [this]; rfl
  let H1 := H.set 74 (.list ((B.set s p).map .int))
  have e1 : evS (cx (d + 1)) (.assignIdx (.attr (.loc 0) 5) (.loc 2) (.loc 1)) σ H = some (.next, σ, H1) := by
    have hset : setIdxV (.obj 74) (.int s) (.int p) H = some H1 := by rw [setIdx_list S.bd (by rw [List.length_map, S.bl]; exact hs) (Nat.le_trans (Nat.le_of_lt hs) (Nat.le_trans hn (by decide))), ← List.map_set]
    exact sAssignIdx rfl (eAttr rfl ((attr72 pos 5).trans rfl)) rfl hset
  have pos1 : H1[72]? = some (.inst 1 (posA sd key)) := by rw [List.getElem?_set_ne (by decide)]; exact pos
  have kn1 : H1[76]? = some (.list (K.map .int)) := by rw [List.getElem?_set_ne (by decide)]; exact kn
  obtain ⟨K', kl', e2⟩ := aug_or (c := cx (d + 1)) (σ := σ) (o := .attr (.loc 0) 17) (i := .call 2 [(.loc 1)]) (e := .loc 3) (H := H1) (k := 76) (n := b) (L := K) (v := bit)
    (eAttr rfl ((attr72 pos1 17).trans rfl)) (eCall (eCons rfl eNil) ((r_kind d _ _).trans (by rw [hb]))) rfl kn1 (kl ▸ hb') (Nat.le_trans (Nat.le_of_lt hb') (by decide))
  generalize hH2 : H1.set 76 (.list (K'.map .int)) = H2 at e2
  have pos2 : H2[72]? = some (.inst 1 (posA sd key)) := by rw [← hH2, List.getElem?_set_ne (by decide)]; exact pos1
  have sn2 : H2[77]? = some (.list (L.map .int)) := by rw [← hH2, List.getElem?_set_ne (by decide), List.getElem?_set_ne (by decide)]; exact sn
  obtain ⟨L', ll', e3⟩ := aug_or (c := cx (d + 1)) (σ := σ) (o := .attr (.loc 0) 18) (i := .call 1 [(.loc 1)]) (e := .loc 3) (H := H2) (k := 77) (n := a) (L := L) (v := bit)
    (eAttr rfl ((attr72 pos2 18).trans rfl)) (eCall (eCons rfl eNil) ((r_side d _ _).trans (by rw [ha]))) rfl sn2 (ll ▸ ha') (Nat.le_trans (Nat.le_of_lt ha') (by decide))
  generalize hH3 : H2.set 77 (.list (L'.map .int)) = H3 at e3
  have old : ∀ j o, j ≠ 74 → j ≠ 76 → j ≠ 77 → H[j]? = some o → H3[j]? = some o := fun j o h1 h2 h3 h => by
    rw [← hH3, List.getElem?_set_ne (fun z => h3 z.symm), ← hH2, List.getElem?_set_ne (fun z => h2 z.symm), List.getElem?_set_ne (fun z => h1 z.symm)]; exact h
  have pos3 := old 72 _ (by decide) (by decide) (by decide) pos
  have z1 : attrV (.obj 71) 21 H3 = some (.obj 66) := attr_keep S.z1 (fun o => old 71 o (by decide) (by decide) (by decide))
  have z2 : idxV (.obj 66) (.int p) H3 = some (.obj (37 + 2 * p)) := idx_list (old 66 _ (by decide) (by decide) (by decide) S.z2) (Nat.le_trans (Nat.le_of_lt hp15) (by decide)) (by simp [zsL, hp15])
  have z3 : idxV (.obj (37 + 2 * p)) (.int s) H3 = some (.int 0) := idx_list (old _ _ (ne37 hp15 (by decide)) (ne37 hp15 (by decide)) (ne37 hp15 (by decide)) (S.z3 p hp15)) (Nat.le_trans (Nat.le_of_lt hs) (Nat.le_trans hn (by decide))) (by simp [hs])
  have e4 : evS (cx (d + 1)) (.augAttr (.loc 0) 19 .xor (.idx (.idx (.attr (.attr (.loc 0) 20) 21) (.loc 1)) (.loc 2))) σ H3 = some (.next, σ, H3.set 72 (.inst 1 (posA sd (Builtin.bitXor key 0)))) := by
    have hset : setAttrV (.obj 72) 19 (.int (Builtin.bitXor key 0)) H3 = some (H3.set 72 (.inst 1 (posA sd (Builtin.bitXor key 0)))) := by
      show oInst H3[72]? _ = _
      rw [pos3]; rfl
    have a19 : attrV (.obj 72) 19 H3 = some (.int key) := by rw [attr72 pos3]; rfl
    have a20 : attrV (.obj 72) 20 H3 = some (.obj 71) := by rw [attr72 pos3]; rfl
    exact sAugAttr rfl a19 (eIdx (eIdx (eAttr (eAttr rfl a20) z1) rfl z2) rfl z3) rfl hset
  have lt3 : 72 < H3.length := by rw [← hH3, ← hH2]; simp [H1]; exact lt72
  refine ⟨H3.set 72 (.inst 1 (posA sd (Builtin.bitXor key 0))), ?_, ?_⟩
  · show endOf (evB (cx (d + 1)) [_, _, _, _, _] _ H) = _
    rw [evB_next e0, evB_next e1, evB_next e2, evB_next e3, evB_next e4]
    rfl
  · have fin : ∀ j o, j ≠ 72 → H3[j]? = some o → (H3.set 72 (.inst 1 (posA sd (Builtin.bitXor key 0))))[j]? = some o := fun j o h1 h => by rw [List.getElem?_set_ne (fun z => h1 z.symm)]; exact h
    refine ⟨by rw [List.length_set, ← hH3, List.length_set, ← hH2, List.length_set, List.length_set]; exact S.len, ⟨_, List.getElem?_set_self lt3⟩, fin 74 _ (by decide) ?_, by rw [List.length_set]; exact S.bl, ⟨K', by omega, fin 76 _ (by decide) ?_⟩, ⟨L', by omega, fin 77 _ (by decide) ?_⟩,
      fin 79 _ (by decide) (old 79 _ (by decide) (by decide) (by decide) S.mn), attr_keep z1 (fun o => fin 71 o (by decide)), fin 66 _ (by decide) (old 66 _ (by decide) (by decide) (by decide) S.z2),
      fun i hi => fin _ _ (ne37 hi (by decide)) (old _ _ (ne37 hi (by decide)) (ne37 hi (by decide)) (ne37 hi (by decide)) (S.z3 i hi)), fun j o h1 h2 h3 h4 h5 h => fin j o h1 (old j o h2 h3 h4 (S.kp j o h1 h2 h3 h4 h5 h))⟩
    · rw [← hH3, List.getElem?_set_ne (by decide), ← hH2, List.getElem?_set_ne (by decide)]
      exact List.getElem?_set_self lt74
    · rw [← hH3, List.getElem?_set_ne (by decide), ← hH2]
      exact List.getElem?_set_self (by simpa [H1] using lt76)
    · rw [← hH3]
      exact List.getElem?_set_self (by rw [← hH2]; simpa [H1] using lt77)
end
end Mine
end
/-! Pl15 -/
section
set_option Elab.async false
set_option genSizeOf false
set_option linter.all false
set_option maxRecDepth 100000
set_option maxHeartbeats 4000000
open PySem
namespace Mine
noncomputable def putB (B : List Int) (e : Int × Int) : List Int := B.set e.1.toNat e.2
noncomputable def boardN (n : Nat) (es : List (Int × Int)) : List Int := es.foldl putB (List.replicate n 0)
noncomputable abbrev Dist (es : List (Int × Int)) : Prop := es.Pairwise fun a b => a.1 ≠ b.1
theorem getN_none {k : Int} : ∀ {es : List (Int × Int)}, (∀ e, e ∈ es → e.1 ≠ k) → getN k es = none
  | [], _ => rfl
  | (j, v) :: r, h => by
    rw [getN, if_neg (h (j, v) List.mem_cons_self)]
    exact getN_none fun e he => h e (List.mem_cons_of_mem _ he)
theorem getN_mem : ∀ {es : List (Int × Int)} {e : Int × Int}, Dist es → e ∈ es → getN e.1 es = some e.2
  | (j, v) :: r, e, D, he => by
    refine byC fun nG => ?_
    rcases List.mem_cons.mp he with rfl | he
    · refine nG ?_
      rw [getN, if_pos rfl]
    · refine nG ?_
      rw [getN, if_neg ((List.pairwise_cons.mp D).1 e he)]
      exact getN_mem (List.pairwise_cons.mp D).2 he
theorem fold_get {j : Nat} : ∀ (es : List (Int × Int)) (B : List Int), Dist es → (∀ e, e ∈ es → 0 ≤ e.1) → j < B.length → (es.foldl putB B)[j]? = some ((getN j es).getD (B.getD j 0))
  | [], B, _, _, hj => by
    rw [List.foldl_nil, getN, Option.getD_none, List.getD_eq_getElem?_getD, List.getElem?_eq_getElem hj, Option.getD_some]
  | (k, v) :: r, B, D, hp, hj => by
    obtain ⟨d1, d2⟩ := List.pairwise_cons.mp D
    rw [List.foldl_cons, fold_get r _ d2 (fun e he => hp e (List.mem_cons_of_mem _ he)) (by simp only [putB, List.length_set]; exact hj), getN]
    have k0 : 0 ≤ k := hp (k, v) List.mem_cons_self
    refine byC fun nG => ?_
    by_cases q : k = j
    · refine nG ?_
      rw [if_pos q, getN_none (k := j) (fun e he z => d1 e he (by rw [q, z])), Option.getD_none, Option.getD_some]
      simp only [putB, List.getD_eq_getElem?_getD]
      rw [show k.toNat = j from by omega, List.getElem?_set_self hj, Option.getD_some]
    · refine nG ?_
      rw [if_neg q]
      congr 2
      simp only [putB, List.getD_eq_getElem?_getD]
      rw [List.getElem?_set_ne (by omega)]
theorem board_get {n j : Nat} {es : List (Int × Int)} (D : Dist es) (hp : ∀ e, e ∈ es → 0 ≤ e.1) (hj : j < n) : (boardN n es)[j]? = some ((getN j es).getD 0) := by
  unfold boardN
  rw [fold_get es _ D hp (by simpa using hj)]
  simp [List.getD_eq_getElem?_getD, hj]
noncomputable def st9 : S := .for_ 10 (.loc 9) [.expr (.call 32 [(.loc 8), (.idx (.loc 9) (.loc 10)), (.loc 10)])]
theorem st9_eq : b_law[9]? = some st9 := rfl
structure Men (n : Nat) (es : List (Int × Int)) : Prop where
  d : Dist es
  k0 : ∀ e, e ∈ es → 0 ≤ e.1 ∧ e.1 < n
  v : ∀ e, e ∈ es → e.2 = 4 ∨ e.2 = 6 ∨ e.2 = 12 ∨ e.2 = 14
  l : es.length < 50
section
variable {H : Hp} {n d f r : Nat} {sd key : Int} {es : List (Int × Int)} {x0 x1 x3 x4 x10 x11 x12 x13 x14 x15 x16 x17 x18 x19 x20 x21 : Option V} {K L : List Int}
theorem man_nat {p : Int} (h : p = 4 ∨ p = 6 ∨ p = 12 ∨ p = 14) : ∃ p' : Nat, p = p' ∧ (p' = 4 ∨ p' = 6 ∨ p' = 12 ∨ p' = 14) := by
  rcases h with rfl | rfl | rfl | rfl
  · exact ⟨4, rfl, .inl rfl⟩
  · exact ⟨6, rfl, .inr (.inl rfl)⟩
  · exact ⟨12, rfl, .inr (.inr (.inl rfl))⟩
  · exact ⟨14, rfl, .inr (.inr (.inr rfl))⟩
theorem at9 (M : Men n es) (hn : n ≤ 100) (pos : H[72]? = some (.inst 1 (posA sd key))) (bd : H[74]? = some (.list ((List.replicate n (0 : Int)).map .int))) (kl : K.length = 7) (kn : H[76]? = some (.list (K.map .int))) (ll : L.length = 2) (sn : H[77]? = some (.list (L.map .int)))
    (mn : H[79]? = some (.dict (esV es))) (z1 : attrV (.obj 71) 21 H = some (.obj 66)) (z2 : H[66]? = some (.list zsL)) (z3 : ∀ i, i < 15 → H[37 + 2 * i]? = some (.list ((List.replicate n (0 : Int)).map .int))) :
    ∃ y10 H' key', evS (cx (d + 2)) st9 (lo10 x0 x1 x3 x4 (some (.obj 79)) x10 f r x11 x12 x13 x14 x15 x16 x17 x18 x19 x20 x21) H = some (.next, lo10 x0 x1 x3 x4 (some (.obj 79)) y10 f r x11 x12 x13 x14 x15 x16 x17 x18 x19 x20 x21, H') ∧
      H'[72]? = some (.inst 1 (posA sd key')) ∧ H'[74]? = some (.list ((boardN n es).map .int)) ∧ H'[79]? = some (.dict (esV es)) ∧ H'.length = H.length ∧
      ∀ j o, j ≠ 72 → j ≠ 74 → j ≠ 76 → j ≠ 77 → j ≠ 79 → H[j]? = some o → H'[j]? = some o := by
  have lt79 := (List.getElem?_eq_some_iff.mp mn).1
  let H0 := H.set 79 (.fdict (esV es))
  have up : ∀ j o, j ≠ 79 → H[j]? = some o → H0[j]? = some o := fun j o h1 h => by rw [List.getElem?_set_ne (fun z => h1 z.symm)]; exact h
  have P0 : PS H n sd es (List.replicate n 0) H0 := ⟨by simp [H0], ⟨key, up 72 _ (by decide) pos⟩, up 74 _ (by decide) bd, by simp, ⟨K, kl, up 76 _ (by decide) kn⟩, ⟨L, ll, up 77 _ (by decide) sn⟩, List.getElem?_set_self lt79,
    attr_keep z1 (fun o => up 71 o (by decide)), up 66 _ (by decide) z2, fun i hi => up _ _ (by omega) (z3 i hi), fun j o q_ q_ q_ q_ h5 h => up j o h5 h⟩
  have hloop := loop_idx (nx := nextV (.obj 79)) (b := forT (cx (d + 2)) 10 [.expr (.call 32 [(.loc 8), (.idx (.loc 9) (.loc 10)), (.loc 10)])]) (N := es.length) (item := fun i => .int (es.getD i (0, 0)).1)
    (P := fun i σ H' => (∃ y10, σ = lo10 x0 x1 x3 x4 (some (.obj 79)) y10 f r x11 x12 x13 x14 x15 x16 x17 x18 x19 x20 x21) ∧ PS H n sd es ((es.take i).foldl putB (List.replicate n 0)) H')
    (fun σ H' i p hi => by
      show onO H'[79]? _ _ _ _ _ _ _ = _
      rw [p.2.mn]
      show some (((esV es)[i]?).bind _) = _
      rw [List.getElem?_map, List.getElem?_eq_getElem hi, List.getD_eq_getElem?_getD, List.getElem?_eq_getElem hi]; rfl)
    (fun σ H' p => by
      show onO H'[79]? _ _ _ _ _ _ _ = _
      rw [p.2.mn]
      show some (((esV es)[es.length]?).bind _) = _
      rw [List.getElem?_map, List.getElem?_eq_none (Nat.le_refl es.length)]; rfl)
    (fun i hi σ H' p => by
      refine byC fun nG => ?_
      obtain ⟨⟨y10, rfl⟩, S⟩ := p
      have he : es.getD i (0, 0) = es[i] := by rw [List.getD_eq_getElem?_getD, List.getElem?_eq_getElem hi, Option.getD_some]
      refine nG ?_
      rw [he]
      have hm : es[i] ∈ es := List.getElem_mem hi
      have hget := getN_mem M.d hm
      obtain ⟨k0, k1⟩ := M.k0 _ hm
      have hv := M.v _ hm
      generalize hee : es[i] = e at *
      obtain ⟨s, p⟩ := e
      dsimp only at hget k0 k1 hv ⊢
      refine byC fun nG => ?_
      obtain ⟨s', rfl⟩ : ∃ s' : Nat, s = s' := ⟨s.toNat, (Int.toNat_of_nonneg k0).symm⟩
      obtain ⟨p', rfl, hv'⟩ := man_nat hv
      obtain ⟨H2, e2, S2⟩ := put_turn (d := d) (p := p') (s := s') S hn (Int.ofNat_lt.mp k1) hv'
      have hix : idxV (.obj 79) (.int s') H' = some (.int p') := by
        show onO H'[79]? _ _ _ _ _ _ _ = _
        rw [S.mn]
        show getI s' (esV es) = _
        rw [getI_esV, hget]; rfl
      refine nG ?_
      refine ⟨.next, lo10 x0 x1 x3 x4 (some (.obj 79)) (some (.int s')) f r x11 x12 x13 x14 x15 x16 x17 x18 x19 x20 x21, H2, .inl rfl, ?_, ⟨_, rfl⟩, ?_⟩
      · show evB (cx (d + 2)) _ (lo10 x0 x1 x3 x4 (some (.obj 79)) (some (.int s')) f r x11 x12 x13 x14 x15 x16 x17 x18 x19 x20 x21) H' = _
        exact evB_one (sExpr (eCall (eCons rfl (eCons (eIdx rfl rfl hix) (eCons rfl eNil))) e2))
      · have : es.take (i + 1) = es.take i ++ [((s' : Int), (p' : Int))] := by rw [List.take_add_one, List.getElem?_eq_getElem hi, hee]; rfl
        rw [this, List.foldl_append]
        exact S2)
    es.length 0 turns (lo10 x0 x1 x3 x4 (some (.obj 79)) x10 f r x11 x12 x13 x14 x15 x16 x17 x18 x19 x20 x21) H0 (by omega) (by have := M.l; show es.length < 1000; omega) ⟨⟨x10, rfl⟩, P0⟩
  refine byC fun nG => ?_
  obtain ⟨σ', H1, e1, ⟨y10, rfl⟩, S1⟩ := hloop
  rw [List.take_length] at S1
  have lt1 := (List.getElem?_eq_some_iff.mp S1.mn).1
  obtain ⟨key', pos'⟩ := S1.pos
  refine nG ?_
  refine ⟨y10, H1.set 79 (.dict (esV es)), key', ?_, ?_, ?_, List.getElem?_set_self lt1, by rw [List.length_set]; exact S1.len, fun j o h1 h2 h3 h4 h5 h => ?_⟩
  · have hf : freeze (.obj 79) H = some H0 := by
      show onO H[79]? _ _ _ _ _ _ _ = _
      rw [mn]
      show grd (fits (esV es).length) _ = _
      rw [show fits (esV es).length = true from Nat.ble_eq_true_of_le (by have := M.l; simp; omega)]; rfl
    have ht : thaw (.obj 79) H1 = H1.set 79 (.dict (esV es)) := by
      show onO H1[79]? _ _ _ _ _ _ _ = _
      rw [S1.mn]; rfl
    rw [st9, evS_for]
    show (freeze (.obj 79) H).bind _ = _
    rw [hf]
    show (loop _ _ turns 0 _ H0).bind _ = _
    rw [e1]
    show some (_, _, thaw (.obj 79) H1) = _
    rw [ht]
  · rw [List.getElem?_set_ne (by decide)]; exact pos'
  · rw [List.getElem?_set_ne (by decide)]; exact S1.bd
  · rw [List.getElem?_set_ne (fun z => h5 z.symm)]; exact S1.kp j o h1 h2 h3 h4 h5 h
end
end Mine
end
/-! Geo1 -/
section
set_option Elab.async false
set_option genSizeOf false
set_option linter.all false
set_option maxRecDepth 100000
set_option maxHeartbeats 4000000
open PySem
namespace Mine
noncomputable def stepF : List Int := [0, 1, 0, -1, 1, 1, -1, -1]
noncomputable def stepR : List Int := [1, 0, -1, 0, 1, -1, -1, 1]
theorem gl17 : glTab[17]? = some (.tup (stepF.map .int)) := rfl
theorem gl18 : glTab[18]? = some (.tup (stepR.map .int)) := rfl
/-- inner_squares -/
noncomputable def innerN (full : Int) (fm rm : List Int) (f r : Nat) (sf sr : Int) : Int :=
  let e0 := if 0 < sf then Builtin.bitOr 0 (fm.getD (f - 1) 0) else 0
  let e1 := if sf < 0 then Builtin.bitOr e0 (fm.getD 0 0) else e0
  let e2 := if 0 < sr then Builtin.bitOr e1 (rm.getD (r - 1) 0) else e1
  let e3 := if sr < 0 then Builtin.bitOr e2 (rm.getD 0 0) else e2
  Builtin.bitAnd full (-e3 - 1)
theorem idx_tup {l : List Int} {n : Nat} {v : Int} {H : Hp} (hn : n ≤ 100000) (h : l[n]? = some v) : idxV (.tup (l.map .int)) (.int n) H = some (.int v) := by
  have h1 : fits n = true := Nat.ble_eq_true_of_le hn
  show grd (fits n) (l.map V.int)[n]? = _
  rw [h1, grd_true, List.getElem?_map, h]; rfl
theorem sIfOr {c : Cx} {σ : Lo} {H : Hp} {p : Prop} [Decidable p] {t : T} {e : X} {i : Nat} {u v : Int} (h : σ[i]? = some (some (.int u))) (ht : evT c σ t H = some (decide p, H)) (he : evE c σ e H = some (.int v, H)) :
    evS c (.if_ t [.aug i .or e] []) σ H = some (.next, σ.set i (some (.int (if p then Builtin.bitOr u v else u))), H) := by
  by_cases q : p
  · rw [decide_eq_true q] at ht
    rw [evS_if_true ht, evB_one (sAug h he rfl), if_pos q]
  · rw [decide_eq_false q] at ht
    obtain ⟨lt, e⟩ := List.getElem?_eq_some_iff.mp h
    rw [evS_if_false ht, if_neg q, ← e, List.set_getElem_self]
section
variable {d f r : Nat} {full sf sr : Int} {dbl a : Bool} {kg : Nat} {H : Hp} {fm rm : List Int}
theorem r_inner {dd : Nat} (hg : H[5]? = some (.inst 0 (geoA f r full dbl a kg))) (h6 : H[6]? = some (.list (fm.map .int))) (h7 : H[7]? = some (.list (rm.map .int))) (hf : fm.length = f) (hr : rm.length = r) (f1 : 0 < f) (f2 : f < 10) (r1 : 0 < r) (r2 : r < 10) (hd : dd < 8) (hsf : stepF[dd]? = some sf) (hsr : stepR[dd]? = some sr) :
    rn (d + 1) 26 [.obj 5, .int dd] H = some (.ret (.int (innerN full fm rm f r sf sr)), H) := by
  rw [run_succ]
  show endOf (evB (cx d) b_inner_squares [some (.obj 5), some (.int dd), none] H) = _
  have at0 : attrV (.obj 5) 0 H = some (.int f) := by rw [attr_of hg]; rfl
  have at1 : attrV (.obj 5) 1 H = some (.int r) := by rw [attr_of hg]; rfl
  have at9 : attrV (.obj 5) 9 H = some (.obj 6) := by rw [attr_of hg]; rfl
  have at8 : attrV (.obj 5) 8 H = some (.obj 7) := by rw [attr_of hg]; rfl
  have at10 : attrV (.obj 5) 10 H = some (.int full) := by rw [attr_of hg]; rfl
  have i1 : idxV (.tup (stepF.map .int)) (.int dd) H = some (.int sf) := idx_tup (Nat.le_trans (Nat.le_of_lt hd) (by decide)) hsf
  have i2 : idxV (.tup (stepR.map .int)) (.int dd) H = some (.int sr) := idx_tup (Nat.le_trans (Nat.le_of_lt hd) (by decide)) hsr
  have ix : ∀ {k n : Nat} {l : List Int} {i : Nat}, H[k]? = some (.list (l.map .int)) → l.length = n → n < 10 → i < n → idxV (.obj k) (.int i) H = some (.int (l.getD i 0)) := fun h e n10 hi =>
    idx_list h (Nat.le_trans (Nat.le_of_lt (Nat.lt_trans hi n10)) (by decide)) (by rw [List.getD_eq_getElem?_getD]; simp [show _ < _ from e ▸ hi])
  have j1 : idxV (.obj 6) (.int ((f : Int) - 1)) H = some (.int (fm.getD (f - 1) 0)) := by
    rw [show (f : Int) - 1 = ((f - 1 : Nat) : Int) from (Int.natCast_sub f1).symm]
    exact ix h6 hf f2 (Nat.sub_lt f1 Nat.one_pos)
  have j2 : idxV (.obj 6) (.int 0) H = some (.int (fm.getD 0 0)) := ix (i := 0) h6 hf f2 f1
  have j3 : idxV (.obj 7) (.int ((r : Int) - 1)) H = some (.int (rm.getD (r - 1) 0)) := by
    rw [show (r : Int) - 1 = ((r - 1 : Nat) : Int) from (Int.natCast_sub r1).symm]
    exact ix h7 hr r2 (Nat.sub_lt r1 Nat.one_pos)
  have j4 : idxV (.obj 7) (.int 0) H = some (.int (rm.getD 0 0)) := ix (i := 0) h7 hr r2 r1
  let l (x : Int) : Lo := [some (.obj 5), some (.int dd), some (.int x)]
  have e0 : evS (cx d) (.assign 2 (.cint 0)) [some (.obj 5), some (.int dd), none] H = some (.next, l 0, H) := rfl
  have g1 : ∀ x, evE (cx d) (l x) (.idx (.glob 17) (.loc 1)) H = some (.int sf, H) := fun x => eIdx (eGlob gl17) rfl i1
  have g2 : ∀ x, evE (cx d) (l x) (.idx (.glob 18) (.loc 1)) H = some (.int sr, H) := fun x => eIdx (eGlob gl18) rfl i2
  have e1 := fun x => sIfOr (c := cx d) (σ := l x) (H := H) (i := 2) (u := x) (t := .cmp .gt (.idx (.glob 17) (.loc 1)) (.cint 0)) (e := .idx (.attr (.loc 0) 9) (.bin .sub (.attr (.loc 0) 0) (.cint 1))) rfl (tCmp (g1 x) rfl rfl) (eIdx (eAttr rfl at9) (eBin (eAttr rfl at0) rfl rfl) j1)
  have e2 := fun x => sIfOr (c := cx d) (σ := l x) (H := H) (i := 2) (u := x) (t := .cmp .lt (.idx (.glob 17) (.loc 1)) (.cint 0)) (e := .idx (.attr (.loc 0) 9) (.cint 0)) rfl (tCmp (g1 x) rfl rfl) (eIdx (eAttr rfl at9) rfl j2)
  have e3 := fun x => sIfOr (c := cx d) (σ := l x) (H := H) (i := 2) (u := x) (t := .cmp .gt (.idx (.glob 18) (.loc 1)) (.cint 0)) (e := .idx (.attr (.loc 0) 8) (.bin .sub (.attr (.loc 0) 1) (.cint 1))) rfl (tCmp (g2 x) rfl rfl) (eIdx (eAttr rfl at8) (eBin (eAttr rfl at1) rfl rfl) j3)
  have e4 := fun x => sIfOr (c := cx d) (σ := l x) (H := H) (i := 2) (u := x) (t := .cmp .lt (.idx (.glob 18) (.loc 1)) (.cint 0)) (e := .idx (.attr (.loc 0) 8) (.cint 0)) rfl (tCmp (g2 x) rfl rfl) (eIdx (eAttr rfl at8) rfl j4)
  exact congrArg endOf ((evB_next e0).trans ((evB_next (e1 _)).trans ((evB_next (e2 _)).trans ((evB_next (e3 _)).trans ((evB_next (e4 _)).trans (evB_ret (sRet (eBin (eAttr rfl at10) (eInv (eLoc rfl)) rfl))))))))
end
end Mine
end
/-! Geo2 -/
section
set_option Elab.async false
set_option genSizeOf false
set_option linter.all false
set_option maxRecDepth 100000
set_option maxHeartbeats 4000000
open PySem
namespace Mine
/-- while a ray is built -/
structure RS (n j : Nat) (H0 H : Hp) : Prop where
  rl : ∃ l : List Int, l.length = n ∧ H[j]? = some (.list (l.map .int))
  kl : ∃ l : List Int, l.length = n ∧ H[17]? = some (.list (l.map .int))
  kp : ∀ i o, i ≠ j → i ≠ 17 → H0[i]? = some o → H[i]? = some o
  len : H.length = H0.length
noncomputable def rayB : List S := [.if_ (.val (.bin .and (.bin .shr (.loc 2) (.loc 6)) (.cint 1))) [.assign 7 (.bin .add (.loc 6) (.loc 3)), .assignIdx (.loc 4) (.loc 6) (.bin .or (.idx (.loc 4) (.loc 7)) (.bin .shl (.cint 1) (.loc 7))), .augIdx (.attr (.loc 0) 11) (.loc 6) .or (.bin .shl (.cint 1) (.loc 7))] []]
/-- a goal is on the board where the bit is set -/
noncomputable def okRay (n : Nat) (inner delta : Int) : Bool := (List.range n).all fun s => Builtin.bitAnd (Int.fdiv inner (Int.ofNat (2 ^ s))) 1 == 0 || (decide (0 ≤ (s : Int) + delta) && decide ((s : Int) + delta < n))
theorem shl_ok2 {x : Int} {n : Nat} (h : small x = true) (hn : n ≤ 1000000) : ibin .shl x (n : Int) = some (x * Int.ofNat (2 ^ n)) := by
  show grd (small x && Nat.ble n 1000000) _ = _
  rw [h, Nat.ble_eq_true_of_le hn]; rfl
noncomputable def ordN (up : Bool) (n : Nat) : V := match up with | true => .rng 0 1 n | false => .rng ((n : Int) - 1) (-1) n
section
variable {d f r n j : Nat} {full : Int} {dbl a : Bool} {H H0 : Hp} {inner delta : Int} {y0 y1 y5 y7 : Option V}
theorem ray_turn {s : Nat} (S : RS n j H0 H) (hg : H0[5]? = some (.inst 0 (geoA f r full dbl a 17))) (hj : j ≠ 5) (hj' : j ≠ 17) (hn : n ≤ 100) (hs : s < n) (ok : okRay n inner delta = true) :
    ∃ y7' H', evB (cx d) rayB [some (.obj 5), y1, some (.int inner), some (.int delta), some (.obj j), y5, some (.int s), y7] H = some (.next, [some (.obj 5), y1, some (.int inner), some (.int delta), some (.obj j), y5, some (.int s), y7'], H') ∧ RS n j H0 H' := by
  refine byC fun nG => ?_
  obtain ⟨l, ll, hl⟩ := S.rl
  obtain ⟨kl, kll, hk⟩ := S.kl
  have ok := List.all_eq_true.mp ok s (List.mem_range.mpr hs)
  rw [Bool.or_eq_true, beq_iff_eq, Bool.and_eq_true, decide_eq_true_eq, decide_eq_true_eq] at ok
  have ht : ∀ y7, evT (cx d) [some (.obj 5), y1, some (.int inner), some (.int delta), some (.obj j), y5, some (.int s), y7] (.val (.bin .and (.bin .shr (.loc 2) (.loc 6)) (.cint 1))) H = some (Builtin.bitAnd (Int.fdiv inner (Int.ofNat (2 ^ s))) 1 != 0, H) := fun y7 =>
    tVal (eBin (eBin rfl rfl rfl) rfl rfl) rfl
  by_cases q : Builtin.bitAnd (Int.fdiv inner (Int.ofNat (2 ^ s))) 1 = 0
  · refine nG ?_
    refine ⟨y7, H, ?_, S⟩
    apply evB_one
    apply evS_if_false
    rw [ht, q]; rfl
  · obtain ⟨g0, g1⟩ := ok.resolve_left q
    obtain ⟨g, hg'⟩ : ∃ g : Nat, (s : Int) + delta = g := ⟨((s : Int) + delta).toNat, (Int.toNat_of_nonneg g0).symm⟩
    have gn : g < n := Int.ofNat_lt.mp (hg' ▸ g1)
    refine nG ?_
    let v : Int := Builtin.bitOr l[g] (1 * Int.ofNat (2 ^ g))
    let H1 := H.set j (.list ((l.set s v).map .int))
    let σ : Lo := [some (.obj 5), y1, some (.int inner), some (.int delta), some (.obj j), y5, some (.int s), some (.int g)]
    have lj := (List.getElem?_eq_some_iff.mp hl).1
    have l17 := (List.getElem?_eq_some_iff.mp hk).1
    have i1 : idxV (.obj j) (.int g) H = some (.int l[g]) := idx_list hl (Nat.le_trans (Nat.le_of_lt gn) (Nat.le_trans hn (by decide))) (by simp [show g < l.length from ll ▸ gn])
    have sh : evE (cx d) σ (.bin .shl (.cint 1) (.loc 7)) H = some (.int (1 * Int.ofNat (2 ^ g)), H) := by
      refine eBin rfl rfl ?_
      show (ibin .shl 1 (g : Int)).bind _ = _
      rw [shl_ok2 rfl (Nat.le_trans (Nat.le_of_lt gn) (Nat.le_trans hn (by decide)))]; rfl
    have e0 : evS (cx d) (.assign 7 (.bin .add (.loc 6) (.loc 3))) [some (.obj 5), y1, some (.int inner), some (.int delta), some (.obj j), y5, some (.int s), y7] H = some (.next, σ, H) := by
      rw [sAssign (eBin rfl rfl rfl), hg']; rfl
    have e1 : evS (cx d) (.assignIdx (.loc 4) (.loc 6) (.bin .or (.idx (.loc 4) (.loc 7)) (.bin .shl (.cint 1) (.loc 7)))) σ H = some (.next, σ, H1) := by
      have hset : setIdxV (.obj j) (.int s) (.int v) H = some H1 := by rw [setIdx_list hl (by rw [List.length_map, ll]; exact hs) (Nat.le_trans (Nat.le_of_lt hs) (Nat.le_trans hn (by decide))), ← List.map_set]
      exact sAssignIdx (eBin (eIdx rfl rfl i1) sh rfl) rfl rfl hset
    have kp1 : ∀ i o, i ≠ j → H[i]? = some o → H1[i]? = some o := fun i o h1 h => by rw [List.getElem?_set_ne (fun z => h1 z.symm)]; exact h
    have hg1 : H1[5]? = some (.inst 0 (geoA f r full dbl a 17)) := kp1 5 _ (fun z => hj z.symm) (S.kp 5 _ (fun z => hj z.symm) (by decide) hg)
    have hk1 : H1[17]? = some (.list (kl.map .int)) := kp1 17 _ (fun z => hj' z.symm) hk
    have sh1 : evE (cx d) σ (.bin .shl (.cint 1) (.loc 7)) H1 = some (.int (1 * Int.ofNat (2 ^ g)), H1) := by
      refine eBin rfl rfl ?_
      show (ibin .shl 1 (g : Int)).bind _ = _
      rw [shl_ok2 rfl (Nat.le_trans (Nat.le_of_lt gn) (Nat.le_trans hn (by decide)))]; rfl
    refine byC fun nG => ?_
    obtain ⟨kl', kll', e2⟩ := aug_or (c := cx d) (σ := σ) (o := .attr (.loc 0) 11) (i := .loc 6) (e := .bin .shl (.cint 1) (.loc 7)) (H := H1) (k := 17) (n := s) (L := kl) (v := 1 * Int.ofNat (2 ^ g))
      (eAttr rfl ((attr_of hg1).trans rfl)) rfl sh1 hk1 (kll ▸ hs) (Nat.le_trans (Nat.le_of_lt hs) (Nat.le_trans hn (by decide)))
    refine nG ?_
    refine ⟨some (.int g), H1.set 17 (.list (kl'.map .int)), ?_, ?_⟩
    · refine evB_one ((evS_if_true ((ht y7).trans (by rw [show (Builtin.bitAnd (Int.fdiv inner (Int.ofNat (2 ^ s))) 1 != 0) = true from bne_iff_ne.mpr q]))).trans ?_)
      exact (evB_next e0).trans ((evB_next e1).trans (evB_one e2))
    · refine ⟨⟨l.set s v, by simp [ll], ?_⟩, ⟨kl', kll'.trans kll, List.getElem?_set_self (by simpa [H1] using l17)⟩, fun i o h1 h2 h => ?_, by simp [H1, S.len]⟩
      · rw [List.getElem?_set_ne (fun z => hj' z.symm)]
        exact List.getElem?_set_self lj
      · rw [List.getElem?_set_ne (fun z => h2 z.symm)]
        exact kp1 i o h1 (S.kp i o h1 h2 h)
/-- either order -/
theorem ray_loop {up : Bool} (S : RS n j H0 H) (hg : H0[5]? = some (.inst 0 (geoA f r full dbl a 17))) (hj : j ≠ 5) (hj' : j ≠ 17) (hn : n ≤ 100) (ok : okRay n inner delta = true) {y6 : Option V} :
    ∃ y6' y7' H', evS (cx d) (.for_ 6 (.loc 5) rayB) [some (.obj 5), y1, some (.int inner), some (.int delta), some (.obj j), some (ordN up n), y6, y7] H =
      some (.next, [some (.obj 5), y1, some (.int inner), some (.int delta), some (.obj j), some (ordN up n), y6', y7'], H') ∧ RS n j H0 H' := by
  generalize ho : ordN up n = o
  have hP := loop_idx (nx := nextV o) (b := forT (cx d) 6 rayB) (N := n) (item := fun i => .int ((match up with | true => i | false => n - 1 - i : Nat) : Int))
    (P := fun q_ σ H' => (∃ y6 y7, σ = [some (.obj 5), y1, some (.int inner), some (.int delta), some (.obj j), some o, y6, y7]) ∧ RS n j H0 H')
    (fun σ H' i q_ hi => by
      have : Nat.blt i n = true := by rw [Nat.blt_eq]; exact hi
      subst ho
      cases up with
      | true => simp [ordN, nextV, this]
      | false =>
        simp only [ordN, nextV, this, onV, onO, grd_true, grd_false]
        have e : (n : Int) - 1 + Int.ofNat i * -1 = ((n - 1 - i : Nat) : Int) := by
          show (n : Int) - 1 + (i : Int) * -1 = _
          omega
        rw [e])
    (fun σ H' q_ => by
      have : Nat.blt n n = false := by rw [Bool.eq_false_iff, ne_eq, Nat.blt_eq]; omega
      subst ho
      cases up <;> simp only [ordN, nextV, this, onV, onO, grd_true, grd_false])
    (fun i hi σ H' p => by
      obtain ⟨⟨y6, y7, rfl⟩, S'⟩ := p
      obtain ⟨y7', H2, e, S2⟩ := ray_turn (d := d) (s := (match up with | true => i | false => n - 1 - i : Nat)) (y1 := y1) (y5 := some o) (y7 := y7) S' hg hj hj' hn (by cases up <;> dsimp only <;> omega) ok
      exact ⟨.next, _, H2, .inl rfl, e, ⟨_, _, rfl⟩, S2⟩)
    n 0 turns [some (.obj 5), y1, some (.int inner), some (.int delta), some (.obj j), some o, y6, y7] H (by omega) (by show n < 1000; omega) ⟨⟨_, _, rfl⟩, S⟩
  obtain ⟨σ', H', e, ⟨y6', y7', rfl⟩, S'⟩ := hP
  refine ⟨y6', y7', H', ?_, S'⟩
  have hfz : ∀ H : Hp, freeze o H = some H := fun H => by subst ho; cases up <;> exact freeze_rng (by omega)
  have htw : thaw o H' = H' := by subst ho; cases up <;> rfl
  rw [evS_for]
  show (freeze o H).bind _ = _
  rw [hfz]
  show (loop _ _ turns 0 _ H).bind _ = _
  rw [e]
  show some (_, _, thaw o H') = _
  rw [htw]
end
end Mine
end
/-! Geo3 -/
section
set_option Elab.async false
set_option genSizeOf false
set_option linter.all false
set_option maxRecDepth 100000
set_option maxHeartbeats 4000000
open PySem
namespace Mine
/-- while the rays are built: i of them stand -/
structure DS (f r n : Nat) (full : Int) (dbl a : Bool) (fm rm : List Int) (i : Nat) (H0 H : Hp) : Prop where
  gi : H[5]? = some (.inst 0 (geoA f r full dbl a 17))
  h6 : H[6]? = some (.list (fm.map .int))
  h7 : H[7]? = some (.list (rm.map .int))
  rays : ∃ rl : List Nat, rl.length = i ∧ H[8]? = some (.list (rl.map .obj)) ∧ ∀ x, x ∈ rl → 18 ≤ x ∧ ∃ l : List Int, l.length = n ∧ H[x]? = some (.list (l.map .int))
  kl : ∃ l : List Int, l.length = n ∧ H[17]? = some (.list (l.map .int))
  len : H.length = 18 + 2 * i
  kp : ∀ j o, j ≠ 8 → j ≠ 17 → j < 18 → H0[j]? = some o → H[j]? = some o
theorem ev_zeros {c : Cx} {σ : Lo} {H : Hp} {e : X} {n : Nat} (he : evE c σ e (H ++ [.list [.int 0]]) = some (.int n, H ++ [.list [.int 0]])) (hn : n ≤ 100000) :
    evE c σ (.bin .mul (.list [(.cint 0)]) e) H = some (.obj (H.length + 1), H ++ [.list [.int 0], .list (List.replicate n (.int 0))]) := by
  have h0 : (H ++ [O.list [V.int 0]])[H.length]? = some (.list [.int 0]) := new0
  have h1 : fits n = true := Nat.ble_eq_true_of_le hn
  refine eBin rfl he ?_
  show (oList (H ++ [O.list [V.int 0]])[H.length]? fun l => lOne l fun x => grd (fits n) (some (V.obj (H ++ [O.list [V.int 0]]).length, (H ++ [O.list [V.int 0]]) ++ [O.list (List.replicate n x)]))) = _
  rw [h0]
  show grd (fits n) _ = _
  rw [h1, grd_true, List.length_append, List.append_assoc]; rfl
noncomputable def rayD : List S := [.assign 2 (.call 26 [(.loc 0), (.loc 1)]), .assign 3 (.bin .add (.bin .mul (.idx (.glob 18) (.loc 1)) (.attr (.loc 0) 0)) (.idx (.glob 17) (.loc 1))), .assign 4 (.bin .mul (.list [(.cint 0)]) (.attr (.loc 0) 7)), .assign 5 (.bi .range1 [(.attr (.loc 0) 7)]), .if_ (.val (.call 24 [(.loc 1)])) [.assign 5 (.bi .range3 [(.bin .sub (.attr (.loc 0) 7) (.cint 1)), (.neg (.cint 1)), (.neg (.cint 1))])] [], .for_ 6 (.loc 5) rayB, .expr (.append (.attr (.loc 0) 12) (.loc 4))]
theorem rays_eq : b_add_rays = [.assignAttr (.loc 0) 11 (.bin .mul (.list [(.cint 0)]) (.attr (.loc 0) 7)), .for_ 1 (.bi .range1 [(.cint 8)]) rayD] := rfl
noncomputable def upN (dd : Nat) : Bool := !(decide (0 < stepR.getD dd 0) || dd == 1)
theorem r_grow {d dd : Nat} {H : Hp} (hd : dd < 8) : rn (d + 1) 24 [.int dd] H = some (.ret (.bool (!upN dd)), H) := by
  refine (?_ : ∀ dd : Nat, dd < 8 → rn (d + 1) 24 [.int dd] H = some (.ret (.bool (!upN dd)), H)) dd hd
  iterate 8 refine ltS ?_ rfl
  exact lt0
noncomputable def deltaN (f dd : Nat) : Int := stepR.getD dd 0 * f + stepF.getD dd 0
noncomputable def okRays (f r : Nat) (full : Int) (fm rm : List Int) : Bool := (List.range 8).all fun dd => okRay (f * r) (innerN full fm rm f r (stepF.getD dd 0) (stepR.getD dd 0)) (deltaN f dd)
section
variable {d f r : Nat} {full : Int} {dbl a : Bool} {fm rm : List Int} {H H0 : Hp} {y2 y3 y4 y5 y6 y7 : Option V}
theorem ssr_ok : ∀ dd : Nat, dd < 8 → small (stepR.getD dd 0) = true := by
  iterate 8 refine ltS ?_ rfl
  exact lt0
theorem hsf_ok : ∀ dd : Nat, dd < 8 → stepF[dd]? = some (stepF.getD dd 0) := by
  iterate 8 refine ltS ?_ rfl
  exact lt0
theorem hsr_ok : ∀ dd : Nat, dd < 8 → stepR[dd]? = some (stepR.getD dd 0) := by
  iterate 8 refine ltS ?_ rfl
  exact lt0
theorem ne_big {j dd k : Nat} (h : j = 19 + 2 * dd) (hk : k < 19) : j ≠ k := fun e => absurd (h ▸ e ▸ hk : 19 + 2 * dd < 19) (Nat.not_lt.mpr (Nat.le_add_right _ _))
theorem ne_small {x k : Nat} (h : 18 ≤ x) (hk : k < 18) : x ≠ k := fun e => absurd (e ▸ h) (Nat.not_le.mpr hk)
theorem ray_dir {dd : Nat} (S : DS f r (f * r) full dbl a fm rm dd H0 H) (hf : fm.length = f) (hr : rm.length = r) (f1 : 0 < f) (f2 : f < 10) (r1 : 0 < r) (r2 : r < 10) (hn : f * r ≤ 100) (hd : dd < 8) (ok : okRays f r full fm rm = true) :
    ∃ z2 z3 z4 z5 z6 z7 H', evB (cx (d + 1)) rayD [some (.obj 5), some (.int dd), y2, y3, y4, y5, y6, y7] H = some (.next, [some (.obj 5), some (.int dd), z2, z3, z4, z5, z6, z7], H') ∧ DS f r (f * r) full dbl a fm rm (dd + 1) H0 H' := by
  have ok := List.all_eq_true.mp ok dd (List.mem_range.mpr hd)
  have hsf := hsf_ok dd hd
  have hsr := hsr_ok dd hd
  have c1 := r_inner (d := d) S.gi S.h6 S.h7 hf hr f1 f2 r1 r2 hd hsf hsr
  have i1 : idxV (.tup (stepF.map .int)) (.int dd) H = some (.int (stepF.getD dd 0)) := idx_tup (Nat.le_trans (Nat.le_of_lt hd) (by decide)) hsf
  have i2 : idxV (.tup (stepR.map .int)) (.int dd) H = some (.int (stepR.getD dd 0)) := idx_tup (Nat.le_trans (Nat.le_of_lt hd) (by decide)) hsr
  have ssr := ssr_ok dd hd
  have eb : deltaN f dd = stepR.getD dd 0 * f + stepF.getD dd 0 := rfl
  generalize hin : innerN full fm rm f r (stepF.getD dd 0) (stepR.getD dd 0) = inner at c1 ok
  generalize stepF.getD dd 0 = sf at i1 eb
  generalize stepR.getD dd 0 = sr at i2 eb ssr
  generalize deltaN f dd = delta at ok eb
  have at0 : attrV (.obj 5) 0 H = some (.int f) := by rw [attr_of S.gi]; rfl
  let G : Hp := [.list [.int 0], .list (List.replicate (f * r) (.int 0))]
  let H1 := H ++ G
  let j := H.length + 1
  have jl : j = 19 + 2 * dd := by show H.length + 1 = _; rw [S.len, Nat.add_right_comm]
  have g1 : H1[5]? = some (.inst 0 (geoA f r full dbl a 17)) := hp_app G S.gi
  have at7 : attrV (.obj 5) 7 H1 = some (.int (f * r : Nat)) := by rw [attr_of g1]; rfl
  have e0 : evS (cx (d + 1)) (.assign 2 (.call 26 [(.loc 0), (.loc 1)])) [some (.obj 5), some (.int dd), y2, y3, y4, y5, y6, y7] H = some (.next, [some (.obj 5), some (.int dd), some (.int inner), y3, y4, y5, y6, y7], H) := by
    exact sAssign (eCall (eCons rfl (eCons rfl eNil)) c1)
  have e1 : evS (cx (d + 1)) (.assign 3 (.bin .add (.bin .mul (.idx (.glob 18) (.loc 1)) (.attr (.loc 0) 0)) (.idx (.glob 17) (.loc 1)))) [some (.obj 5), some (.int dd), some (.int inner), y3, y4, y5, y6, y7] H = some (.next, [some (.obj 5), some (.int dd), some (.int inner), some (.int delta), y4, y5, y6, y7], H) := by
    have hm : binV .mul (.int sr) (.int f) H = some (.int (sr * f), H) := by
      show (grd (small sr) _).bind _ = _
      rw [ssr]; rfl
    rw [eb]
    exact sAssign (eBin (eBin (eIdx (eGlob gl18) rfl i2) (eAttr rfl at0) hm) (eIdx (eGlob gl17) rfl i1) rfl)
  have e2 : evS (cx (d + 1)) (.assign 4 (.bin .mul (.list [(.cint 0)]) (.attr (.loc 0) 7))) [some (.obj 5), some (.int dd), some (.int inner), some (.int delta), y4, y5, y6, y7] H = some (.next, [some (.obj 5), some (.int dd), some (.int inner), some (.int delta), some (.obj j), y5, y6, y7], H1) := by
    have at7' : attrV (.obj 5) 7 (H ++ [.list [.int 0]]) = some (.int (f * r : Nat)) := by rw [attr_of (hp_app _ S.gi)]; rfl
    exact sAssign (ev_zeros (n := f * r) (eAttr rfl at7') (Nat.le_trans hn (by decide)))
  have e3 : evS (cx (d + 1)) (.assign 5 (.bi .range1 [(.attr (.loc 0) 7)])) [some (.obj 5), some (.int dd), some (.int inner), some (.int delta), some (.obj j), y5, y6, y7] H1 = some (.next, [some (.obj 5), some (.int dd), some (.int inner), some (.int delta), some (.obj j), some (.rng 0 1 (f * r)), y6, y7], H1) := by
    refine sAssign (eBi (eCons (eAttr rfl at7) eNil) ?_)
    show (rngN 0 (f * r : Nat) 1).bind _ = _
    rw [rngN_one (by decide) (by rw [Int.natAbs_natCast]; exact Nat.lt_of_le_of_lt hn (by decide)), Int.sub_zero, Int.toNat_natCast]; rfl
  have e4 : evS (cx (d + 1)) (.if_ (.val (.call 24 [(.loc 1)])) [.assign 5 (.bi .range3 [(.bin .sub (.attr (.loc 0) 7) (.cint 1)), (.neg (.cint 1)), (.neg (.cint 1))])] []) [some (.obj 5), some (.int dd), some (.int inner), some (.int delta), some (.obj j), some (.rng 0 1 (f * r)), y6, y7] H1 =
      some (.next, [some (.obj 5), some (.int dd), some (.int inner), some (.int delta), some (.obj j), some (ordN (upN dd) (f * r)), y6, y7], H1) := by
    have t : evT (cx (d + 1)) [some (.obj 5), some (.int dd), some (.int inner), some (.int delta), some (.obj j), some (.rng 0 1 (f * r)), y6, y7] (.val (.call 24 [(.loc 1)])) H1 = some (!upN dd, H1) := by
      have hc : evE (cx (d + 1)) [some (.obj 5), some (.int dd), some (.int inner), some (.int delta), some (.obj j), some (.rng 0 1 (f * r)), y6, y7] (.call 24 [(.loc 1)]) H1 = some (.bool (!upN dd), H1) := eCall (eCons rfl eNil) (r_grow hd)
      exact tVal hc rfl
    cases hu : upN dd with
    | true => rw [hu] at t; exact evS_if_false t
    | false =>
      rw [hu] at t
      have hb : rngN (((f * r : Nat) : Int) - 1) (-1) (-1) = some (f * r) := by
        unfold rngN
        rw [show (Nat.blt (((f * r : Nat) : Int) - 1).natAbs 1000000000 && Nat.blt (-1 : Int).natAbs 1000000000) = true from by rw [Bool.and_eq_true, Nat.blt_eq, Nat.blt_eq]; exact ⟨by omega, by decide⟩]
        show some ((((f * r : Nat) : Int) - 1) - (-1)).toNat = _
        congr 1
        omega
      refine (evS_if_true t).trans (evB_one (sAssign (eBi (l := [.int ((f * r : Nat) - 1), .int (-1), .int (-1)]) (eCons (eBin (eAttr rfl at7) rfl rfl) (eCons rfl (eCons rfl eNil))) ?_)))
      show (rngN (((f * r : Nat) : Int) - 1) (-1) (-1)).bind _ = _
      rw [hb]; rfl
  have l17 := S.kl
  have R0 : RS (f * r) j H1 H1 := ⟨⟨List.replicate (f * r) 0, by simp, by rw [List.map_replicate]; exact new1⟩, l17.imp fun l h => ⟨h.1, hp_app G h.2⟩, fun q_ q_ q_ q_ h => h, rfl⟩
  refine byC fun nG => ?_
  obtain ⟨z6, z7, H2, e5, R2⟩ := ray_loop (d := d + 1) (y1 := some (.int dd)) (y6 := y6) (y7 := y7) (up := upN dd) R0 g1 (ne_big jl (by decide)) (ne_big jl (by decide)) hn ok
  obtain ⟨rl, rll, h8, hrl⟩ := S.rays
  have h8' : H2[8]? = some (.list (rl.map .obj)) := R2.kp 8 _ (ne_big jl (by decide)).symm (by decide) (hp_app G h8)
  have g2 : H2[5]? = some (.inst 0 (geoA f r full dbl a 17)) := R2.kp 5 _ (ne_big jl (by decide)).symm (by decide) g1
  refine nG ?_
  let H3 := H2.set 8 (.list ((rl ++ [j]).map .obj))
  have e6 : evS (cx (d + 1)) (.expr (.append (.attr (.loc 0) 12) (.loc 4))) [some (.obj 5), some (.int dd), some (.int inner), some (.int delta), some (.obj j), some (ordN (upN dd) (f * r)), z6, z7] H2 = some (.next, [some (.obj 5), some (.int dd), some (.int inner), some (.int delta), some (.obj j), some (ordN (upN dd) (f * r)), z6, z7], H3) := by
    have at12 : attrV (.obj 5) 12 H2 = some (.obj 8) := by rw [attr_of g2]; rfl
    have ha : appendV (.obj 8) (.obj j) H2 = some H3 := by
      show oList H2[8]? _ = _
      rw [h8']
      show grd (fits (rl.map V.obj).length) _ = _
      rw [show fits (rl.map V.obj).length = true from Nat.ble_eq_true_of_le (by simp; omega), grd_true, ← List.map_singleton, ← List.map_append]
    exact sExpr (eAppend (eAttr rfl at12) (by show (oList H2[8]? some).isSome = true; rw [h8']; rfl) rfl ha)
  refine ⟨some (.int inner), some (.int delta), some (.obj j), some (ordN (upN dd) (f * r)), z6, z7, H3, ?_, ?_⟩
  · rw [rayD, evB_next e0, evB_next e1, evB_next e2, evB_next e3, evB_next e4, evB_next e5]
    exact evB_one e6
  · have kp3 : ∀ i o, i ≠ 8 → H2[i]? = some o → H3[i]? = some o := fun i o h1 h => by rw [List.getElem?_set_ne (fun z => h1 z.symm)]; exact h
    have l8 := (List.getElem?_eq_some_iff.mp h8').1
    refine byC fun nG => ?_
    obtain ⟨l, ll, hl⟩ := R2.rl
    refine nG ?_
    refine ⟨kp3 5 _ (by decide) g2, kp3 6 _ (by decide) (R2.kp 6 _ (ne_big jl (by decide)).symm (by decide) (hp_app G S.h6)), kp3 7 _ (by decide) (R2.kp 7 _ (ne_big jl (by decide)).symm (by decide) (hp_app G S.h7)), ⟨rl ++ [j], by simp [rll], List.getElem?_set_self l8, fun x hx => ?_⟩,
      R2.kl.imp fun l h => ⟨h.1, kp3 17 _ (by decide) h.2⟩, ?_, fun i o h1 h2 h3 h => kp3 i o h1 (R2.kp i o (ne_big jl (Nat.lt_succ_of_lt h3)).symm h2 (hp_app G (S.kp i o h1 h2 h3 h)))⟩
    · refine byC fun nG => ?_
      rcases List.mem_append.mp hx with hx | hx
      · obtain ⟨x1, l', ll', hl'⟩ := hrl x hx
        have xl := (List.getElem?_eq_some_iff.mp hl').1
        refine nG ?_
        exact ⟨x1, l', ll', kp3 x _ (ne_small x1 (by decide)) (R2.kp x _ (Nat.ne_of_lt (Nat.lt_succ_of_lt xl)) (ne_small x1 (by decide)) (hp_app G hl'))⟩
      · refine nG ?_
        rw [List.mem_singleton.mp hx]
        exact ⟨by rw [jl]; exact Nat.le_trans (by decide) (Nat.le_add_right 19 _), l, ll, kp3 j _ (ne_big jl (by decide)) hl⟩
    · simp only [H3, List.length_set]
      rw [R2.len]
      simp only [H1, List.length_append, S.len, G, List.length_cons, List.length_nil]
      omega
theorem rays_call (hg : H[5]? = some (.inst 0 (geoA f r full dbl a 9))) (h6 : H[6]? = some (.list (fm.map .int))) (h7 : H[7]? = some (.list (rm.map .int))) (h8 : H[8]? = some (.list [])) (hlen : H.length = 16) (hf : fm.length = f) (hr : rm.length = r) (f1 : 0 < f) (f2 : f < 10) (r1 : 0 < r) (r2 : r < 10) (hn : f * r ≤ 100) (ok : okRays f r full fm rm = true) :
    ∃ H', rn (d + 2) 27 [.obj 5] H = some (.ret .none, H') ∧ DS f r (f * r) full dbl a fm rm 8 (H.set 5 (.inst 0 (geoA f r full dbl a 17))) H' := by
  rw [run_succ]
  show ∃ H', endOf (evB (cx (d + 1)) b_add_rays [some (.obj 5), none, none, none, none, none, none, none] H) = _ ∧ _
  rw [rays_eq]
  let G : Hp := [.list [.int 0], .list (List.replicate (f * r) (.int 0))]
  let H1 := (H ++ G).set 5 (.inst 0 (geoA f r full dbl a 17))
  have l5 := (List.getElem?_eq_some_iff.mp hg).1
  have e0 : evS (cx (d + 1)) (.assignAttr (.loc 0) 11 (.bin .mul (.list [(.cint 0)]) (.attr (.loc 0) 7))) [some (.obj 5), none, none, none, none, none, none, none] H = some (.next, [some (.obj 5), none, none, none, none, none, none, none], H1) := by
    have at7' : attrV (.obj 5) 7 (H ++ [.list [.int 0]]) = some (.int (f * r : Nat)) := by rw [attr_of (hp_app _ hg)]; rfl
    have hg2 : (H ++ G)[5]? = some (.inst 0 (geoA f r full dbl a 9)) := hp_app G hg
    have hset : setAttrV (.obj 5) 11 (.obj (H.length + 1)) (H ++ G) = some H1 := by
      show oInst (H ++ G)[5]? _ = _
      rw [hg2, hlen]; rfl
    exact sAssignAttr (ev_zeros (n := f * r) (eAttr rfl at7') (Nat.le_trans hn (by decide))) rfl hset
  have up : ∀ i o, i ≠ 5 → H[i]? = some o → H1[i]? = some o := fun i o h1 h => by rw [List.getElem?_set_ne (fun z => h1 z.symm)]; exact hp_app G h
  have D0 : DS f r (f * r) full dbl a fm rm 0 (H.set 5 (.inst 0 (geoA f r full dbl a 17))) H1 := by
    refine ⟨List.getElem?_set_self (by simp; omega), up 6 _ (by decide) h6, up 7 _ (by decide) h7, ⟨[], rfl, up 8 _ (by decide) h8, fun q_ h => by cases h⟩, ⟨List.replicate (f * r) 0, by simp, ?_⟩, by simp [H1, G, hlen], fun j o q_ q_ h3 h => ?_⟩
    · rw [List.getElem?_set_ne (by decide), List.map_replicate]
      have : (H ++ G)[H.length + 1]? = some (.list (List.replicate (f * r) (.int 0))) := new1
      rw [hlen] at this
      exact this
    · refine byC fun nG => ?_
      by_cases q : j = 5
      · subst q
        rw [List.getElem?_set_self l5] at h
        refine nG ?_
        rw [← h]
        exact List.getElem?_set_self (by simp; omega)
      · rw [List.getElem?_set_ne (fun z => q z.symm)] at h
        refine nG ?_
        exact up j o q h
  obtain ⟨σ', H', e, _, S'⟩ := for_rng (c := cx (d + 1)) (i := 1) (it := .bi .range1 [(.cint (8 : Nat))]) (body := rayD) (a := 0) (N := 8)
    (P := fun i σ H' => (∃ y1 y2 y3 y4 y5 y6 y7, σ = [some (.obj 5), y1, y2, y3, y4, y5, y6, y7]) ∧ DS f r (f * r) full dbl a fm rm i (H.set 5 (.inst 0 (geoA f r full dbl a 17))) H')
    (σ := [some (.obj 5), none, none, none, none, none, none, none]) (H := H1) (ev_range1 (by decide)) (by decide) (fun i hi σ H' p => by
      obtain ⟨⟨y1, y2, y3, y4, y5, y6, y7, rfl⟩, S⟩ := p
      obtain ⟨z2, z3, z4, z5, z6, z7, H2, e, S2⟩ := ray_dir (d := d) (y2 := y2) (y3 := y3) (y4 := y4) (y5 := y5) (y6 := y6) (y7 := y7) S hf hr f1 f2 r1 r2 hn hi ok
      rw [Int.zero_add]
      exact ⟨.next, _, H2, .inl rfl, e, ⟨_, _, _, _, _, _, _, rfl⟩, S2⟩) ⟨⟨_, _, _, _, _, _, _, rfl⟩, D0⟩
  exact ⟨H', congrArg endOf ((evB_next e0).trans (evB_one e)), S'⟩
end
end Mine
end
/-! Geo4 -/
section
set_option Elab.async false
set_option genSizeOf false
set_option linter.all false
set_option maxRecDepth 100000
set_option maxHeartbeats 4000000
open PySem
namespace Mine
theorem app_expr {c : Cx} {σ : Lo} {o x : X} {H : Hp} {k : Nat} {l : List V} {v : Int} (ho : evE c σ o H = some (.obj k, H)) (hk : H[k]? = some (.list l)) (hx : evE c σ x H = some (.int v, H)) (hl : l.length ≤ 100000) :
    evS c (.expr (.append o x)) σ H = some (.next, σ, H.set k (.list (l ++ [.int v]))) := by
  refine sExpr (eAppend ho (by show (oList H[k]? some).isSome = true; rw [hk]; rfl) hx ?_)
  show oList H[k]? _ = _
  rw [hk]
  show grd (fits l.length) _ = _
  rw [show fits l.length = true from Nat.ble_eq_true_of_le hl]; rfl
theorem eRng1 {c : Cx} {σ : Lo} {e : X} {H H1 : Hp} {n : Nat} (h : evE c σ e H = some (.int n, H1)) (hn : n < 1000000000) : evE c σ (.bi .range1 [e]) H = some (.rng 0 1 n, H1) := by
  refine eBi (eCons h eNil) ?_
  show (rngN 0 n 1).bind _ = _
  rw [rngN_one (by decide) (by rw [Int.natAbs_natCast]; exact hn), Int.sub_zero, Int.toNat_natCast]; rfl
/-- the lists that only grow -/
structure AS (ks : List Nat) (i : Nat) (H0 H : Hp) : Prop where
  gr : ∀ k, k ∈ ks → ∃ l, l.length ≤ i ∧ H[k]? = some (.list l)
  kp : ∀ j o, j ∉ ks → H0[j]? = some o → H[j]? = some o
  len : H.length = H0.length
theorem AS.put {ks : List Nat} {i k : Nat} {H0 H : Hp} {l : List V} {v : V} (S : AS ks i H0 H) (hk : k ∈ ks) (h : H[k]? = some (.list l)) (hl : l.length ≤ i) : AS ks (i + 1) H0 (H.set k (.list (l ++ [v]))) := by
  refine ⟨fun k' hk' => ?_, fun j o h1 h2 => ?_, by rw [List.length_set, S.len]⟩
  · refine byC fun nG => ?_
    by_cases q : k = k'
    · subst q
      refine nG ?_
      exact ⟨l ++ [v], by simp; omega, List.getElem?_set_self (List.getElem?_eq_some_iff.mp h).1⟩
    · obtain ⟨l', hl', h'⟩ := S.gr k' hk'
      refine nG ?_
      exact ⟨l', by omega, by rw [List.getElem?_set_ne q]; exact h'⟩
  · rw [List.getElem?_set_ne (fun z => h1 (by rw [← z]; exact hk))]
    exact S.kp j o h1 h2
noncomputable def pawnB : List S := [.expr (.append (.idx (.attr (.loc 0) 13) (.cint 0)) (.bin .and (.idx (.attr (.loc 0) 11) (.loc 1)) (.bin .or (.idx (.idx (.attr (.loc 0) 12) (.cint 4)) (.loc 1)) (.idx (.idx (.attr (.loc 0) 12) (.cint 7)) (.loc 1))))),
  .expr (.append (.idx (.attr (.loc 0) 13) (.cint 1)) (.bin .and (.idx (.attr (.loc 0) 11) (.loc 1)) (.bin .or (.idx (.idx (.attr (.loc 0) 12) (.cint 5)) (.loc 1)) (.idx (.idx (.attr (.loc 0) 12) (.cint 6)) (.loc 1)))))]
theorem pawns_eq : b_add_pawns = [.for_ 1 (.bi .range1 [(.attr (.loc 0) 7)]) pawnB] := rfl
section
variable {d f r : Nat} {full : Int} {dbl a : Bool} {fm rm : List Int} {H H0 Hx : Hp}
theorem pawn_turn {s i : Nat} (D : DS f r (f * r) full dbl a fm rm 8 Hx H0) (h13 : H0[13]? = some (.list [.obj 11, .obj 12])) (S : AS [11, 12] i H0 H) (hs : s < f * r) (hn : f * r ≤ 100) (hi : i ≤ 1000) :
    ∃ H', evB (cx d) pawnB [some (.obj 5), some (.int s)] H = some (.next, [some (.obj 5), some (.int s)], H') ∧ AS [11, 12] (i + 2) H0 H' := by
  refine byC fun nG => ?_
  obtain ⟨rl, rll, h8, hrl⟩ := D.rays
  obtain ⟨kl, kll, hk⟩ := D.kl
  -- what is read, in any heap between
  have rd : ∀ {H : Hp} {i : Nat}, AS [11, 12] i H0 H → ∀ (p u w : Nat), p < 2 → u < 8 → w < 8 →
      evE (cx d) [some (.obj 5), some (.int s)] (.idx (.attr (.loc 0) 13) (.cint p)) H = some (.obj (11 + p), H) ∧
      ∃ v, evE (cx d) [some (.obj 5), some (.int s)] (.bin .and (.idx (.attr (.loc 0) 11) (.loc 1)) (.bin .or (.idx (.idx (.attr (.loc 0) 12) (.cint u)) (.loc 1)) (.idx (.idx (.attr (.loc 0) 12) (.cint w)) (.loc 1)))) H = some (.int v, H) := fun {H i} S p u w hp hu hw => by
    have g : H[5]? = some (.inst 0 (geoA f r full dbl a 17)) := S.kp 5 _ (by decide) D.gi
    have a13 : attrV (.obj 5) 13 H = some (.obj 13) := by rw [attr_of g]; rfl
    have a11 : attrV (.obj 5) 11 H = some (.obj 17) := by rw [attr_of g]; rfl
    have a12 : attrV (.obj 5) 12 H = some (.obj 8) := by rw [attr_of g]; rfl
    have i13 : idxV (.obj 13) (.int p) H = some (.obj (11 + p)) := idx_list (S.kp 13 _ (by decide) h13) (Nat.le_trans (Nat.le_of_lt hp) (by decide)) (by
      have : p = 0 ∨ p = 1 := by omega
      rcases this with rfl | rfl <;> rfl)
    have ik : idxV (.obj 17) (.int s) H = some (.int kl[s]) := idx_list (S.kp 17 _ (by decide) hk) (Nat.le_trans (Nat.le_of_lt hs) (Nat.le_trans hn (by decide))) (by simp [show s < kl.length from kll ▸ hs])
    have ir : ∀ u, u < 8 → ∃ x v, idxV (.obj 8) (.int (u : Nat)) H = some (.obj x) ∧ idxV (.obj x) (.int s) H = some (.int v) := fun u hu => by
      have lu : u < rl.length := rll ▸ hu
      refine byC fun nG => ?_
      obtain ⟨x18, l, ll, hl⟩ := hrl rl[u] (List.getElem_mem lu)
      refine nG ?_
      exact ⟨rl[u], l[s], idx_list (S.kp 8 _ (by decide) h8) (Nat.le_trans (Nat.le_of_lt hu) (by decide)) (by simp [lu]), idx_list (S.kp _ _ (by simp; omega) hl) (Nat.le_trans (Nat.le_of_lt hs) (Nat.le_trans hn (by decide))) (by simp [show s < l.length from ll ▸ hs])⟩
    obtain ⟨x1, v1, u1, u2⟩ := ir u hu
    obtain ⟨x2, v2, w1, w2⟩ := ir w hw
    exact ⟨eIdx (eAttr rfl a13) rfl i13, Builtin.bitAnd kl[s] (Builtin.bitOr v1 v2), eBin (eIdx (eAttr rfl a11) rfl ik) (eBin (eIdx (eIdx (eAttr rfl a12) rfl u1) rfl u2) (eIdx (eIdx (eAttr rfl a12) rfl w1) rfl w2) rfl) rfl⟩
  obtain ⟨o1, v1, x1⟩ := rd S 0 4 7 (by decide) (by decide) (by decide)
  obtain ⟨l1, ll1, hl1⟩ := S.gr 11 (by decide)
  have e1 := app_expr o1 hl1 x1 (Nat.le_trans ll1 (Nat.le_trans hi (by decide)))
  have S1 := S.put (v := .int v1) (k := 11) (by decide) hl1 ll1
  obtain ⟨o2, v2, x2⟩ := rd S1 1 5 6 (by decide) (by decide) (by decide)
  obtain ⟨l2, ll2, hl2⟩ := S1.gr 12 (by decide)
  have e2 := app_expr o2 hl2 x2 (Nat.le_trans ll2 (Nat.le_trans (Nat.succ_le_succ hi) (by decide)))
  have S2 := S1.put (v := .int v2) (k := 12) (by decide) hl2 ll2
  refine nG ?_
  refine ⟨_, ?_, S2⟩
  exact (evB_next e1).trans (evB_one e2)
theorem pawns_call (D : DS f r (f * r) full dbl a fm rm 8 Hx H) (h13 : H[13]? = some (.list [.obj 11, .obj 12])) (h11 : H[11]? = some (.list [])) (h12 : H[12]? = some (.list [])) (hn : f * r ≤ 100) :
    ∃ H', rn (d + 1) 28 [.obj 5] H = some (.ret .none, H') ∧ AS [11, 12] (2 * (f * r)) H H' := by
  rw [run_succ]
  show ∃ H', endOf (evB (cx d) b_add_pawns [some (.obj 5), none] H) = _ ∧ _
  rw [pawns_eq]
  have S0 : AS [11, 12] 0 H H := ⟨fun k hk => by
    refine byC fun nG => ?_
    rcases List.mem_cons.mp hk with rfl | hk
    · refine nG ?_
      exact ⟨[], Nat.le_refl _, h11⟩
    · refine nG ?_; rw [List.mem_singleton.mp hk]; exact ⟨[], Nat.le_refl _, h12⟩, fun q_ q_ q_ h => h, rfl⟩
  have a7 : attrV (.obj 5) 7 H = some (.int (f * r : Nat)) := by rw [attr_of D.gi]; rfl
  obtain ⟨σ', H', e, _, S'⟩ := for_rng (c := cx d) (i := 1) (it := .bi .range1 [(.attr (.loc 0) 7)]) (body := pawnB) (a := 0) (N := f * r) (P := fun i σ H' => (∃ y1, σ = [some (.obj 5), y1]) ∧ AS [11, 12] (2 * i) H H') (σ := [some (.obj 5), none]) (H := H)
    (eRng1 (eAttr rfl a7) (Nat.lt_of_le_of_lt hn (by decide))) (Nat.lt_of_le_of_lt hn (by decide)) (fun i hi σ H' p => by
      obtain ⟨⟨y1, rfl⟩, S⟩ := p
      obtain ⟨H2, e, S2⟩ := pawn_turn (d := d) (s := i) D h13 S hi hn (by omega)
      rw [Int.zero_add]
      exact ⟨.next, _, H2, .inl rfl, e, ⟨_, rfl⟩, S2⟩) ⟨⟨_, rfl⟩, S0⟩
  exact ⟨H', congrArg endOf (evB_one e), S'⟩
/-! the knights -/
noncomputable def nfN (full : Int) (fm : List Int) : Int := Builtin.bitAnd full (-(fm.getD 0 0) - 1)
noncomputable def nlN (full : Int) (fm : List Int) (f : Nat) : Int := Builtin.bitAnd full (-(fm.getD (f - 1) 0) - 1)
noncomputable def nftN (full : Int) (fm : List Int) : Int := Builtin.bitAnd (nfN full fm) (-(fm.getD 1 0) - 1)
noncomputable def nltN (full : Int) (fm : List Int) (f : Nat) : Int := Builtin.bitAnd (nlN full fm f) (-(fm.getD (f - 2) 0) - 1)
noncomputable def bN (s : Nat) : Int := 1 * Int.ofNat (2 ^ s)
noncomputable def nearN (nf nl : Int) (s : Nat) : Int := Builtin.bitOr (Builtin.bitAnd (bN s * Int.ofNat (2 ^ 1)) nf) (Builtin.bitAnd (Int.fdiv (bN s) (Int.ofNat (2 ^ 1))) nl)
noncomputable def farN (nft nlt : Int) (s : Nat) : Int := Builtin.bitOr (Builtin.bitAnd (bN s * Int.ofNat (2 ^ 2)) nft) (Builtin.bitAnd (Int.fdiv (bN s) (Int.ofNat (2 ^ 2))) nlt)
noncomputable def okKn (f r : Nat) (full : Int) (fm : List Int) : Bool := (List.range (f * r)).all fun s => small (bN s) && small (nearN (nfN full fm) (nlN full fm f) s) && small (farN (nftN full fm) (nltN full fm f) s)
noncomputable def knB : List S := [.assign 7 (.bin .shl (.cint 1) (.loc 6)), .assign 8 (.bin .or (.bin .and (.bin .shl (.loc 7) (.cint 1)) (.loc 2)) (.bin .and (.bin .shr (.loc 7) (.cint 1)) (.loc 3))), .assign 9 (.bin .or (.bin .and (.bin .shl (.loc 7) (.cint 2)) (.loc 4)) (.bin .and (.bin .shr (.loc 7) (.cint 2)) (.loc 5))), .assign 10 (.bin .or (.bin .or (.bin .or (.bin .shl (.loc 8) (.bin .mul (.cint 2) (.loc 1))) (.bin .shr (.loc 8) (.bin .mul (.cint 2) (.loc 1)))) (.bin .shl (.loc 9) (.loc 1))) (.bin .shr (.loc 9) (.loc 1))), .expr (.append (.attr (.loc 0) 14) (.bin .and (.loc 10) (.attr (.loc 0) 10)))]
theorem kn_eq : b_add_knights = [.assign 1 (.attr (.loc 0) 0), .assign 2 (.bin .and (.attr (.loc 0) 10) (.inv (.idx (.attr (.loc 0) 9) (.cint 0)))), .assign 3 (.bin .and (.attr (.loc 0) 10) (.inv (.idx (.attr (.loc 0) 9) (.bin .sub (.loc 1) (.cint 1))))), .assign 4 (.bin .and (.loc 2) (.inv (.idx (.attr (.loc 0) 9) (.cint 1)))), .assign 5 (.bin .and (.loc 3) (.inv (.idx (.attr (.loc 0) 9) (.bin .sub (.loc 1) (.cint 2))))), .for_ 6 (.bi .range1 [(.attr (.loc 0) 7)]) knB] := rfl
theorem kn_turn {s i : Nat} {nf nl nft nlt : Int} {y7 y8 y9 y10 : Option V} (hg : H0[5]? = some (.inst 0 (geoA f r full dbl a 17))) (S : AS [10] i H0 H) (hi : i ≤ 1000) (hs : s < 1000) (f2 : f < 10) (s1 : small (bN s) = true) (s2 : small (nearN nf nl s) = true) (s3 : small (farN nft nlt s) = true) :
    ∃ z7 z8 z9 z10 H', evB (cx d) knB [some (.obj 5), some (.int f), some (.int nf), some (.int nl), some (.int nft), some (.int nlt), some (.int s), y7, y8, y9, y10] H = some (.next, [some (.obj 5), some (.int f), some (.int nf), some (.int nl), some (.int nft), some (.int nlt), some (.int s), z7, z8, z9, z10], H') ∧ AS [10] (i + 1) H0 H' := by
  have g : H[5]? = some (.inst 0 (geoA f r full dbl a 17)) := S.kp 5 _ (by decide) hg
  have a14 : attrV (.obj 5) 14 H = some (.obj 10) := by rw [attr_of g]; rfl
  have a10 : attrV (.obj 5) 10 H = some (.int full) := by rw [attr_of g]; rfl
  refine byC fun nG => ?_
  obtain ⟨l, ll, hl⟩ := S.gr 10 (by decide)
  refine nG ?_
  let near := nearN nf nl s
  let far := farN nft nlt s
  let found := Builtin.bitOr (Builtin.bitOr (Builtin.bitOr (near * Int.ofNat (2 ^ (2 * f))) (Int.fdiv near (Int.ofNat (2 ^ (2 * f))))) (far * Int.ofNat (2 ^ f))) (Int.fdiv far (Int.ofNat (2 ^ f)))
  have e1 : evS (cx d) (.assign 7 (.bin .shl (.cint 1) (.loc 6))) [some (.obj 5), some (.int f), some (.int nf), some (.int nl), some (.int nft), some (.int nlt), some (.int s), y7, y8, y9, y10] H = some (.next, [some (.obj 5), some (.int f), some (.int nf), some (.int nl), some (.int nft), some (.int nlt), some (.int s), some (.int (bN s)), y8, y9, y10], H) := by
    exact sAssign (eBin rfl rfl (bInt (shl_ok2 rfl (Nat.le_trans (Nat.le_of_lt hs) (by decide)))))
  have sh1 : ibin .shl (bN s) 1 = some (bN s * Int.ofNat (2 ^ 1)) := shl_ok2 (n := 1) s1 (by decide)
  have sh2 : ibin .shl (bN s) 2 = some (bN s * Int.ofNat (2 ^ 2)) := shl_ok2 (n := 2) s1 (by decide)
  have m2 : ibin .mul 2 (f : Int) = some ((2 * f : Nat) : Int) := by
    show some (2 * (f : Int)) = _
    rw [Int.natCast_mul]; rfl
  have e2 : evS (cx d) (.assign 8 (.bin .or (.bin .and (.bin .shl (.loc 7) (.cint 1)) (.loc 2)) (.bin .and (.bin .shr (.loc 7) (.cint 1)) (.loc 3)))) [some (.obj 5), some (.int f), some (.int nf), some (.int nl), some (.int nft), some (.int nlt), some (.int s), some (.int (bN s)), y8, y9, y10] H = some (.next, [some (.obj 5), some (.int f), some (.int nf), some (.int nl), some (.int nft), some (.int nlt), some (.int s), some (.int (bN s)), some (.int near), y9, y10], H) := by
    exact sAssign (eBin (eBin (eBin rfl rfl (bInt sh1)) rfl rfl) (eBin (eBin rfl rfl rfl) rfl rfl) rfl)
  have e3 : evS (cx d) (.assign 9 (.bin .or (.bin .and (.bin .shl (.loc 7) (.cint 2)) (.loc 4)) (.bin .and (.bin .shr (.loc 7) (.cint 2)) (.loc 5)))) [some (.obj 5), some (.int f), some (.int nf), some (.int nl), some (.int nft), some (.int nlt), some (.int s), some (.int (bN s)), some (.int near), y9, y10] H = some (.next, [some (.obj 5), some (.int f), some (.int nf), some (.int nl), some (.int nft), some (.int nlt), some (.int s), some (.int (bN s)), some (.int near), some (.int far), y10], H) := by
    exact sAssign (eBin (eBin (eBin rfl rfl (bInt sh2)) rfl rfl) (eBin (eBin rfl rfl rfl) rfl rfl) rfl)
  have n1 : ibin .shl near ((2 * f : Nat) : Int) = some (near * Int.ofNat (2 ^ (2 * f))) := shl_ok2 s2 (Nat.le_trans (Nat.mul_le_mul_left 2 (Nat.le_of_lt f2)) (by decide))
  have n2 : ibin .shr near ((2 * f : Nat) : Int) = some (Int.fdiv near (Int.ofNat (2 ^ (2 * f)))) := rfl
  have n3 : ibin .shl far (f : Int) = some (far * Int.ofNat (2 ^ f)) := shl_ok2 s3 (Nat.le_trans (Nat.le_of_lt f2) (by decide))
  have n4 : ibin .shr far (f : Int) = some (Int.fdiv far (Int.ofNat (2 ^ f))) := rfl
  have e4 : evS (cx d) (.assign 10 (.bin .or (.bin .or (.bin .or (.bin .shl (.loc 8) (.bin .mul (.cint 2) (.loc 1))) (.bin .shr (.loc 8) (.bin .mul (.cint 2) (.loc 1)))) (.bin .shl (.loc 9) (.loc 1))) (.bin .shr (.loc 9) (.loc 1)))) [some (.obj 5), some (.int f), some (.int nf), some (.int nl), some (.int nft), some (.int nlt), some (.int s), some (.int (bN s)), some (.int near), some (.int far), y10] H = some (.next, [some (.obj 5), some (.int f), some (.int nf), some (.int nl), some (.int nft), some (.int nlt), some (.int s), some (.int (bN s)), some (.int near), some (.int far), some (.int found)], H) := by
    exact sAssign (eBin (eBin (eBin (eBin rfl (eBin rfl rfl (bInt m2)) (bInt n1)) (eBin rfl (eBin rfl rfl (bInt m2)) (bInt n2)) rfl) (eBin rfl rfl (bInt n3)) rfl) (eBin rfl rfl (bInt n4)) rfl)
  have e5 := app_expr (c := cx d) (σ := [some (.obj 5), some (.int f), some (.int nf), some (.int nl), some (.int nft), some (.int nlt), some (.int s), some (.int (bN s)), some (.int near), some (.int far), some (.int found)]) (o := .attr (.loc 0) 14) (x := .bin .and (.loc 10) (.attr (.loc 0) 10)) (H := H) (k := 10) (l := l) (v := Builtin.bitAnd found full)
    (eAttr rfl a14) hl (eBin rfl (eAttr rfl a10) rfl) (Nat.le_trans ll (Nat.le_trans hi (by decide)))
  refine ⟨some (.int (bN s)), some (.int near), some (.int far), some (.int found), _, ?_, S.put (v := .int (Builtin.bitAnd found full)) (k := 10) (by decide) hl ll⟩
  · rw [knB, evB_next e1, evB_next e2, evB_next e3, evB_next e4]
    exact evB_one e5
theorem kn_call (hg : H[5]? = some (.inst 0 (geoA f r full dbl a 17))) (h6 : H[6]? = some (.list (fm.map .int))) (h10 : H[10]? = some (.list [])) (hf : fm.length = f) (f1 : 2 ≤ f) (f2 : f < 10) (hn : f * r ≤ 100) (ok : okKn f r full fm = true) :
    ∃ H', rn (d + 1) 29 [.obj 5] H = some (.ret .none, H') ∧ AS [10] (f * r) H H' := by
  rw [run_succ]
  show ∃ H', endOf (evB (cx d) b_add_knights [some (.obj 5), none, none, none, none, none, none, none, none, none, none] H) = _ ∧ _
  rw [kn_eq]
  have S0 : AS [10] 0 H H := ⟨fun k hk => by rw [List.mem_singleton.mp hk]; exact ⟨[], Nat.le_refl _, h10⟩, fun q_ q_ q_ h => h, rfl⟩
  have a0 : attrV (.obj 5) 0 H = some (.int f) := by rw [attr_of hg]; rfl
  have a7 : attrV (.obj 5) 7 H = some (.int (f * r : Nat)) := by rw [attr_of hg]; rfl
  have a9 : attrV (.obj 5) 9 H = some (.obj 6) := by rw [attr_of hg]; rfl
  have a10 : attrV (.obj 5) 10 H = some (.int full) := by rw [attr_of hg]; rfl
  have ix : ∀ i : Nat, i < f → idxV (.obj 6) (.int i) H = some (.int (fm.getD i 0)) := fun i hi => idx_list h6 (Nat.le_trans (Nat.le_of_lt (Nat.lt_trans hi f2)) (by decide)) (by rw [List.getD_eq_getElem?_getD]; simp [show i < fm.length from hf ▸ hi])
  have i0 : idxV (.obj 6) (.int 0) H = some (.int (fm.getD 0 0)) := ix 0 (by omega)
  have i1 : idxV (.obj 6) (.int 1) H = some (.int (fm.getD 1 0)) := ix 1 (by omega)
  have i2 : idxV (.obj 6) (.int ((f : Int) - 1)) H = some (.int (fm.getD (f - 1) 0)) := by rw [show (f : Int) - 1 = ((f - 1 : Nat) : Int) from by omega]; exact ix _ (by omega)
  have i3 : idxV (.obj 6) (.int ((f : Int) - 2)) H = some (.int (fm.getD (f - 2) 0)) := by rw [show (f : Int) - 2 = ((f - 2 : Nat) : Int) from by omega]; exact ix _ (by omega)
  let nf := nfN full fm
  let nl := nlN full fm f
  let nft := nftN full fm
  let nlt := nltN full fm f
  have e1 : evS (cx d) (.assign 1 (.attr (.loc 0) 0)) [some (.obj 5), none, none, none, none, none, none, none, none, none, none] H = some (.next, [some (.obj 5), some (.int f), none, none, none, none, none, none, none, none, none], H) := by
    exact sAssign (eAttr rfl a0)
  have e2 : evS (cx d) (.assign 2 (.bin .and (.attr (.loc 0) 10) (.inv (.idx (.attr (.loc 0) 9) (.cint 0))))) [some (.obj 5), some (.int f), none, none, none, none, none, none, none, none, none] H = some (.next, [some (.obj 5), some (.int f), some (.int nf), none, none, none, none, none, none, none, none], H) := by
    exact sAssign (eBin (eAttr rfl a10) (eInv (eIdx (eAttr rfl a9) rfl i0)) rfl)
  have e3 : evS (cx d) (.assign 3 (.bin .and (.attr (.loc 0) 10) (.inv (.idx (.attr (.loc 0) 9) (.bin .sub (.loc 1) (.cint 1)))))) [some (.obj 5), some (.int f), some (.int nf), none, none, none, none, none, none, none, none] H = some (.next, [some (.obj 5), some (.int f), some (.int nf), some (.int nl), none, none, none, none, none, none, none], H) := by
    exact sAssign (eBin (eAttr rfl a10) (eInv (eIdx (eAttr rfl a9) (eBin rfl rfl rfl) i2)) rfl)
  have e4 : evS (cx d) (.assign 4 (.bin .and (.loc 2) (.inv (.idx (.attr (.loc 0) 9) (.cint 1))))) [some (.obj 5), some (.int f), some (.int nf), some (.int nl), none, none, none, none, none, none, none] H = some (.next, [some (.obj 5), some (.int f), some (.int nf), some (.int nl), some (.int nft), none, none, none, none, none, none], H) := by
    exact sAssign (eBin rfl (eInv (eIdx (eAttr rfl a9) rfl i1)) rfl)
  have e5 : evS (cx d) (.assign 5 (.bin .and (.loc 3) (.inv (.idx (.attr (.loc 0) 9) (.bin .sub (.loc 1) (.cint 2)))))) [some (.obj 5), some (.int f), some (.int nf), some (.int nl), some (.int nft), none, none, none, none, none, none] H = some (.next, [some (.obj 5), some (.int f), some (.int nf), some (.int nl), some (.int nft), some (.int nlt), none, none, none, none, none], H) := by
    exact sAssign (eBin rfl (eInv (eIdx (eAttr rfl a9) (eBin rfl rfl rfl) i3)) rfl)
  obtain ⟨σ', H', e, _, S'⟩ := for_rng (c := cx d) (i := 6) (it := .bi .range1 [(.attr (.loc 0) 7)]) (body := knB) (a := 0) (N := f * r)
    (P := fun i σ H' => (∃ y6 y7 y8 y9 y10, σ = [some (.obj 5), some (.int f), some (.int nf), some (.int nl), some (.int nft), some (.int nlt), y6, y7, y8, y9, y10]) ∧ AS [10] i H H')
    (σ := [some (.obj 5), some (.int f), some (.int nf), some (.int nl), some (.int nft), some (.int nlt), none, none, none, none, none]) (H := H)
    (eRng1 (eAttr rfl a7) (Nat.lt_of_le_of_lt hn (by decide))) (Nat.lt_of_le_of_lt hn (by decide)) (fun i hi σ H' p => by
      obtain ⟨⟨y6, y7, y8, y9, y10, rfl⟩, S⟩ := p
      have ok := List.all_eq_true.mp ok i (List.mem_range.mpr hi)
      rw [Bool.and_eq_true, Bool.and_eq_true] at ok
      obtain ⟨z7, z8, z9, z10, H2, e, S2⟩ := kn_turn (d := d) (s := i) (y7 := y7) (y8 := y8) (y9 := y9) (y10 := y10) hg S (by omega) (by omega) f2 ok.1.1 ok.1.2 ok.2
      rw [Int.zero_add]
      exact ⟨.next, _, H2, .inl rfl, e, ⟨_, _, _, _, _, rfl⟩, S2⟩) ⟨⟨_, _, _, _, _, rfl⟩, S0⟩
  refine ⟨H', ?_, S'⟩
  rw [evB_next e1, evB_next e2, evB_next e3, evB_next e4, evB_next e5, evB_one e]
  rfl
end
end Mine
end
/-! Pl17 -/
section
set_option Elab.async false
set_option genSizeOf false
set_option linter.all false
set_option maxRecDepth 100000
set_option maxHeartbeats 4000000
open PySem
namespace Mine
/-- once the position is made -/
structure Base (cs : List Int) (f r : Nat) (C : List Cst) (T : List Row) (H : Hp) : Prop where
  len : H.length = 79
  pu : H[1]? = some (purseO 2 2)
  ce : H[2]? = some (.list (cs.map .int))
  tb : H[4]? = some (.list (T.map rowV))
  gi : ∃ a, H[5]? = some (.inst 0 (gaB f r a))
  gf : attrV (.obj 5) 0 H = some (.int f)
  gr : attrV (.obj 5) 1 H = some (.int r)
  gs : attrV (.obj 5) 7 H = some (.int (f * r : Nat))
  gc : attrV (.obj 5) 2 H = some (.obj 14)
  cs : H[14]? = some (.list (C.map castV))
  pos : H[72]? = some (.inst 1 (posA 0 0))
  bd : H[74]? = some (.list ((List.replicate (f * r) (0 : Int)).map .int))
  kn : H[76]? = some (.list ((List.replicate 7 (0 : Int)).map .int))
  sn : H[77]? = some (.list ((List.replicate 2 (0 : Int)).map .int))
  z1 : attrV (.obj 71) 21 H = some (.obj 66)
  z2 : H[66]? = some (.list zsL)
  z3 : ∀ i, i < 15 → H[37 + 2 * i]? = some (.list ((List.replicate (f * r) (0 : Int)).map .int))
noncomputable def lowM (f r : Nat) (sd : Int) : Nat := sd.toNat * (f * r - f)
noncomputable def okGoals (f r : Nat) (C : List Cst) (T : List Row) (sd : Int) : Bool := [0, 1].all fun p =>
  let ks := lowM f r sd + f / 2 + p
  (List.range f).all fun n => (lowM f r sd + n == ks) || [0, 8 * sd + 4, 12 - 8 * sd].all fun x => (List.range 5).all fun promo => okGoal f r C T sd ks (lowM f r sd + n : Nat) x promo
noncomputable def menSide (f r : Nat) (es : List (Int × Int)) (sd : Int) (p : Nat) : Bool :=
  let low := lowM f r sd
  let ks := low + f / 2 + p
  (kingsN es sd).head? == some (ks : Int) && getN ks es == some (8 * sd + 6) && ks / f * f == low && decide (ks < f * r) &&
  (List.range f).all fun n => (low + n == ks) || [0, 8 * sd + 4, 12 - 8 * sd].any fun x => (getN (low + n : Nat) es).getD 0 == x
noncomputable def menOk (f r p0 : Nat) (a0 b0 : Int) (p1 : Nat) (a1 b1 : Int) : Bool :=
  let es := menN f r p0 a0 b0 p1 a1 b1
  getN (lowN f r 1 + Int.fdiv f 2 + p1) (turnN f r 0 p0 a0 b0 []) == none && decide (Dist es) && es.all (fun e => decide (0 ≤ e.1) && decide (e.1 < (f * r : Nat)) && [4, 6, 12, 14].any fun v => e.2 == v) &&
  menSide f r es 0 p0 && menSide f r es 1 p1
noncomputable def menAll (f r : Nat) : Bool := [0, 1].all fun p0 => [4, 12, 0].all fun a0 => [4, 12, 0].all fun b0 => [0, 1].all fun p1 => [12, 4, 0].all fun a1 => [12, 4, 0].all fun b1 => menOk f r p0 a0 b0 p1 a1 b1
structure Good (f r : Nat) (C : List Cst) (T : List Row) : Prop where
  W : Shp f r C T
  pairs : ∀ sd, sd = 0 ∨ sd = 1 → okPairs f r C T sd = true
  told : T.all (okTold f C) = true
  nots : okNots f r C T = true
  fen : FenOk f r C T
  goals : ∀ sd, sd = 0 ∨ sd = 1 → okGoals f r C T sd = true
  men : menAll f r = true
theorem evB_app {c : Cx} {m : List S} : ∀ (l : List S) {σ σ' : Lo} {H H' : Hp}, evB c l σ H = some (.next, σ', H') → evB c (l ++ m) σ H = evB c m σ' H'
  | [], σ, σ', H, H', h => by rw [evB] at h; cases h; rfl
  | s :: l, σ, σ', H, H', h => by
    rw [evB] at h
    rw [List.cons_append, evB]
    cases q : evS c s σ H with
    | none => rw [q] at h; cases h
    | some w =>
      rw [q] at h
      obtain ⟨w, σ1, H1⟩ := w
      cases w with
      | next => exact evB_app l h
      | _ => cases h
theorem what0 {q : Int} (h0 : 0 ≤ q) (h1 : q < 5) : whatN 0 q ∈ [(4 : Int), 12, 0] := by
  have : q = 0 ∨ q = 1 ∨ q = 2 ∨ q = 3 ∨ q = 4 := by omega
  rcases this with rfl | rfl | rfl | rfl | rfl <;> decide
theorem what1 {q : Int} (h0 : 0 ≤ q) (h1 : q < 5) : whatN 1 q ∈ [(12 : Int), 4, 0] := by
  have : q = 0 ∨ q = 1 ∨ q = 2 ∨ q = 3 ∨ q = 4 := by omega
  rcases this with rfl | rfl | rfl | rfl | rfl <;> decide
theorem div4 {q : Int} (h0 : 0 ≤ q) (h1 : q < 5) : ∃ p : Nat, Int.fdiv q 4 = p ∧ p ∈ [0, 1] := by
  have : q = 0 ∨ q = 1 ∨ q = 2 ∨ q = 3 ∨ q = 4 := by omega
  rcases this with rfl | rfl | rfl | rfl | rfl <;> first | exact ⟨0, rfl, by decide⟩ | exact ⟨1, rfl, by decide⟩
theorem men_of {f r p0 p1 : Nat} {a0 b0 a1 b1 : Int} (h : menAll f r = true) (h1 : p0 ∈ [0, 1]) (h2 : a0 ∈ [(4 : Int), 12, 0]) (h3 : b0 ∈ [(4 : Int), 12, 0]) (h4 : p1 ∈ [0, 1]) (h5 : a1 ∈ [(12 : Int), 4, 0]) (h6 : b1 ∈ [(12 : Int), 4, 0]) : menOk f r p0 a0 b0 p1 a1 b1 = true :=
  List.all_eq_true.mp (List.all_eq_true.mp (List.all_eq_true.mp (List.all_eq_true.mp (List.all_eq_true.mp (List.all_eq_true.mp h p0 h1) a0 h2) b0 h3) p1 h4) a1 h5) b1 h6
noncomputable def st7 : S := .assignAttr (.loc 8) 4 (.call 34 [(.loc 1), (.cint 2)])
noncomputable def st8 : S := .assign 9 (.call 37 [(.loc 1), (.loc 2), (.loc 3)])
noncomputable def st16 : S := .ret (.call 41 [(.loc 8), (.loc 5), (.loc 2), (.loc 9), (.call 34 [(.loc 1), (.cint 5)])])
theorem tail_eq : b_law.drop 7 = [st7, st8, st9, st10, st11, st12, st13, st14, st15, st16] := rfl
section
variable {H : Hp} {cs : List Int} {f r : Nat} {C : List Cst} {T : List Row} {x0 x4 : Option V}
theorem after (hb : Base cs f r C T H) (G : Good f r C T) (hl : cs.length ≤ 14) :
    ∃ σ' H', evB (cx 9) (b_law.drop 7) (lo10 x0 (some (.obj 1)) (some (.int r)) x4 none none f r none none none none none none none none none none none) H = some (.ret (.bool true), σ', H') := by
  have W := G.W
  have f1 := W.f1; have f2 := W.f2; have sz := W.sz
  -- the side
  obtain ⟨d0, d1⟩ := pullv_range (cs := cs) (k := 2) (many := 2) (by decide)
  have p7 := r_pull (d := 8) (many := 2) hb.pu hb.ce (by decide) hl (by decide) (by decide)
  generalize pullv cs 2 2 = sd at d0 d1 p7
  have hsd : sd = 0 ∨ sd = 1 := by omega
  let Ha := H.set 1 (purseO 2 3)
  let Hb := Ha.set 72 (.inst 1 (posA sd 0))
  have lt1 := (List.getElem?_eq_some_iff.mp hb.pu).1
  have lt72 := (List.getElem?_eq_some_iff.mp hb.pos).1
  have up : ∀ j o, j ≠ 1 → j ≠ 72 → H[j]? = some o → Hb[j]? = some o := fun j o h1 h2 h => by
    rw [List.getElem?_set_ne (fun z => h2 z.symm), List.getElem?_set_ne (fun z => h1 z.symm)]; exact h
  have pos : Hb[72]? = some (.inst 1 (posA sd 0)) := List.getElem?_set_self (by simpa [Ha] using lt72)
  have pu : Hb[1]? = some (purseO 2 3) := by rw [List.getElem?_set_ne (by decide)]; exact List.getElem?_set_self lt1
  have ce := up 2 _ (by decide) (by decide) hb.ce
  have e7 : evS (cx 9) st7 (lo10 x0 (some (.obj 1)) (some (.int r)) x4 none none f r none none none none none none none none none none none) H = some (.next, lo10 x0 (some (.obj 1)) (some (.int r)) x4 none none f r none none none none none none none none none none none, Hb) := by
    have hpa : Ha[72]? = some (.inst 1 (posA 0 0)) := by rw [List.getElem?_set_ne (by decide)]; exact hb.pos
    have hset : setAttrV (.obj 72) 4 (.int sd) Ha = some Hb := by show oInst Ha[72]? _ = _; rw [hpa]; rfl
    have p7' : rn 9 34 [.obj 1, .int 2] H = some (.ret (.int sd), Ha) := p7
    exact sAssignAttr (eCall (eCons rfl (eCons rfl eNil)) p7') rfl hset
  -- the men
  refine byC fun nG => ?_
  obtain ⟨q00, q01⟩ := pullv_range (cs := cs) (k := 3) (many := 5) (by decide)
  obtain ⟨q10, q11⟩ := pullv_range (cs := cs) (k := 4) (many := 5) (by decide)
  obtain ⟨q20, q21⟩ := pullv_range (cs := cs) (k := 5) (many := 5) (by decide)
  obtain ⟨q30, q31⟩ := pullv_range (cs := cs) (k := 6) (many := 5) (by decide)
  obtain ⟨q40, q41⟩ := pullv_range (cs := cs) (k := 7) (many := 5) (by decide)
  obtain ⟨q50, q51⟩ := pullv_range (cs := cs) (k := 8) (many := 5) (by decide)
  obtain ⟨p0, hp0, mp0⟩ := div4 q00 q01
  obtain ⟨p1, hp1, mp1⟩ := div4 q30 q31
  have ok := men_of G.men mp0 (what0 q10 q11) (what0 q20 q21) mp1 (what1 q40 q41) (what1 q50 q51)
  unfold menOk at ok
  simp only [Bool.and_eq_true, beq_iff_eq, decide_eq_true_eq] at ok
  obtain ⟨⟨⟨⟨o1, o2⟩, o3⟩, o4⟩, o5⟩ := ok
  have l8 := laid_call (d := 7) (H := Hb) (cs := cs) (k := 3) (f := f) (r := r) (by simp [Hb, Ha, hb.len]) pu ce hl (by decide) f2 (by rw [hp0, hp1]; exact o1)
  rw [hp0, hp1] at l8
  obtain ⟨Hc, e8, S8⟩ := l8
  generalize hes : menN f r p0 (whatN 0 (pullv cs 4 5)) (whatN 0 (pullv cs 5 5)) p1 (whatN 1 (pullv cs 7 5)) (whatN 1 (pullv cs 8 5)) = es at o1 o2 o3 o4 o5 S8
  have hes50 : es.length < 50 := by
    have h1 := turnN_len f r 0 p0 (whatN 0 (pullv cs 4 5)) (whatN 0 (pullv cs 5 5)) []
    have h2 := turnN_len f r 1 p1 (whatN 1 (pullv cs 7 5)) (whatN 1 (pullv cs 8 5)) (turnN f r 0 p0 (whatN 0 (pullv cs 4 5)) (whatN 0 (pullv cs 5 5)) [])
    rw [← hes, menN]
    simp only [List.length_nil] at h1
    omega
  have M : Men (f * r) es := by
    refine ⟨o2, fun e he => ?_, fun e he => ?_, hes50⟩
    · have := List.all_eq_true.mp o3 e he
      simp only [Bool.and_eq_true, decide_eq_true_eq] at this
      exact this.1
    · have := List.all_eq_true.mp o3 e he
      simp only [Bool.and_eq_true, List.any_eq_true, beq_iff_eq] at this
      refine byC fun nG => ?_
      obtain ⟨_, v, hv, e2⟩ := this
      refine nG ?_
      rw [e2]
      simpa using hv
  have e8' : evS (cx 9) st8 (lo10 x0 (some (.obj 1)) (some (.int r)) x4 none none f r none none none none none none none none none none none) Hb = some (.next, lo10 x0 (some (.obj 1)) (some (.int r)) x4 (some (.obj 79)) none f r none none none none none none none none none none none, Hc) := by
    have e8 : rn 9 37 [.obj 1, .int f, .int r] Hb = some (.ret (.obj 79), Hc) := e8
    exact sAssign (eCall (eCons rfl (eCons rfl (eCons rfl eNil))) e8)
  have up2 : ∀ j o, j ≠ 1 → j ≠ 72 → j ≠ 79 → H[j]? = some o → Hc[j]? = some o := fun j o h1 h2 h3 h => S8.kp j o h1 h3 (up j o h1 h2 h)
  -- the board
  obtain ⟨y10, Hd, key', e9, pos9, bd9, mn9, len9, kp9⟩ := at9 (d := 7) (H := Hc) (n := f * r) (f := f) (r := r) (sd := sd) (key := 0) (es := es) (x0 := x0) (x1 := some (.obj 1)) (x3 := some (.int r)) (x4 := x4) (x10 := none) (x11 := none) (x12 := none) (x13 := none) (x14 := none) (x15 := none) (x16 := none) (x17 := none) (x18 := none) (x19 := none) (x20 := none) (x21 := none) (K := List.replicate 7 0) (L := List.replicate 2 0)
    M (Nat.le_of_lt sz.1) (S8.kp 72 _ (by decide) (by decide) pos) (up2 74 _ (by decide) (by decide) (by decide) hb.bd) rfl (up2 76 _ (by decide) (by decide) (by decide) hb.kn) rfl (up2 77 _ (by decide) (by decide) (by decide) hb.sn) S8.mn
    (attr_keep hb.z1 fun o => up2 71 o (by decide) (by decide) (by decide)) (up2 66 _ (by decide) (by decide) (by decide) hb.z2) (fun i hi => up2 _ _ (Nat.ne_of_gt (Nat.lt_of_lt_of_le (by decide) (Nat.le_add_right 37 _))) (ne37 hi (by decide)) (ne37 hi (by decide)) (hb.z3 i hi))
  have up3 : ∀ j o, j ≠ 1 → j ≠ 72 → j ≠ 74 → j ≠ 76 → j ≠ 77 → j ≠ 79 → H[j]? = some o → Hd[j]? = some o := fun j o h1 h2 h3 h4 h5 h6 h => kp9 j o h2 h3 h4 h5 h6 (up2 j o h1 h2 h6 h)
  have F9 : Facts f r C T sd Hd := ⟨hb.gi.imp fun q_ => up3 5 _ (by decide) (by decide) (by decide) (by decide) (by decide) (by decide), up3 4 _ (by decide) (by decide) (by decide) (by decide) (by decide) (by decide) hb.tb,
    attr_keep hb.gf fun o => up3 5 o (by decide) (by decide) (by decide) (by decide) (by decide) (by decide), attr_keep hb.gr fun o => up3 5 o (by decide) (by decide) (by decide) (by decide) (by decide) (by decide),
    attr_keep hb.gs fun o => up3 5 o (by decide) (by decide) (by decide) (by decide) (by decide) (by decide), attr_keep hb.gc fun o => up3 5 o (by decide) (by decide) (by decide) (by decide) (by decide) (by decide),
    up3 14 _ (by decide) (by decide) (by decide) (by decide) (by decide) (by decide) hb.cs, by rw [attr72 pos9]; rfl, by rw [attr72 pos9]; rfl, by rw [attr72 pos9]; rfl⟩
  have S9 : St cs 9 f r C T sd (boardN (f * r) es) es Hd := ⟨F9, kp9 1 _ (by decide) (by decide) (by decide) (by decide) (by decide) S8.pu, kp9 2 _ (by decide) (by decide) (by decide) (by decide) (by decide) S8.ce, bd9, mn9⟩
  -- the pairs
  obtain ⟨y11, y12, y13, y14, y15, G10, e10, len10⟩ := pairs_ok (d := 7) (x0 := x0) (x1 := some (.obj 1)) (x3 := some (.int r)) (x4 := x4) (x9 := some (.obj 79)) (x10 := y10) (x11 := none) (x12 := none) (x13 := none) (x14 := none) (x15 := none) (x16 := none) (x17 := none) (x18 := none) (x19 := none) (x20 := none) (x21 := none) S9.F W (G.pairs sd hsd)
  have S10 := S9.app G10
  obtain ⟨y16, y17, y18, y19, e11⟩ := told_all (d := 6) (x0 := x0) (x1 := some (.obj 1)) (x3 := some (.int r)) (x4 := x4) (x9 := some (.obj 79)) (x10 := y10) (x11 := y11) (x12 := y12) (x13 := y13) (x14 := y14) (x15 := y15) (x16 := none) (x17 := none) (x18 := none) (x19 := none) (x20 := none) (x21 := none) S10.F W G.told
  obtain ⟨z11, z12, z13, He, e12, S12, len12⟩ := at12 (d := 6) (x0 := x0) (x3 := some (.int r)) (x4 := x4) (x9 := some (.obj 79)) (x10 := y10) (x11 := y11) (x12 := y12) (x13 := y13) (x14 := y14) (x15 := y15) (x16 := y16) (x17 := y17) (x18 := y18) (x19 := y19) (x20 := none) (x21 := none) S10 W hl (by decide) G.nots
  obtain ⟨Hf, e15, S15⟩ := at15 (x0 := x0) (x1 := some (.obj 1)) (x4 := x4) (x9 := some (.obj 79)) (x10 := y10) (x11 := z11) (x12 := z12) (x13 := z13) (x14 := y14) (x15 := y15) (x16 := y16) (x17 := y17) (x18 := y18) (x19 := y19) (x20 := none) (x21 := none) S12 (by rw [len12, List.length_append, len9, S8.len, len10]; rfl) G.fen
  -- the king
  obtain ⟨m0, m1⟩ := pullv_range (cs := cs) (k := 12) (many := 5) (by decide)
  have p16 := S15.pull (d := 8) (many := 5) hl (by decide) (by decide)
  generalize pullv cs 12 5 = promo at m0 m1 p16
  have S16 := S15.pulled
  generalize hHg : Hf.set 1 (purseO 2 (9 + 3 + 1)) = Hg at p16 S16
  obtain ⟨ps, mps, hside⟩ : ∃ ps : Nat, ps ∈ [0, 1] ∧ menSide f r es sd ps = true := by
    refine byC fun nG => ?_
    rcases hsd with rfl | rfl
    · refine nG ?_
      exact ⟨p0, mp0, o4⟩
    · refine nG ?_
      exact ⟨p1, mp1, o5⟩
  unfold menSide at hside
  simp only [Bool.and_eq_true, beq_iff_eq, decide_eq_true_eq] at hside
  obtain ⟨⟨⟨⟨k1, k2⟩, k3⟩, k4⟩, k5⟩ := hside
  have hgoals := List.all_eq_true.mp (G.goals sd hsd) ps mps
  dsimp only at hgoals
  generalize hks : lowM f r sd + f / 2 + ps = ks at k1 k2 k3 k4 k5 hgoals
  have hks0 : ∀ e, e ∈ es → 0 ≤ e.1 := fun e he => (M.k0 e he).1
  obtain ⟨Hh, e16⟩ := king_right (d := 5) (promo := promo) (ks := ks) S16 W hsd (Nat.lt_trans hes50 (by decide)) k1 k4 ⟨m0, m1⟩ (by rw [board_get M.d hks0 k4, k2, Option.getD_some, Int.mul_comm]) (fun n hn hne => by
    rw [k3] at hne ⊢
    have hlt : lowM f r sd + n < f * r := by
      have : lowM f r sd + f ≤ f * r := by
        refine byC fun nG => ?_
        rcases hsd with rfl | rfl
        · refine nG ?_; simp only [lowM, Int.toNat_zero, Nat.zero_mul]; omega
        · refine nG ?_; simp only [lowM, Int.toNat_one, Nat.one_mul]; omega
      omega
    refine ⟨(getN (lowM f r sd + n : Nat) es).getD 0, board_get M.d hks0 hlt, rfl, ?_⟩
    have h1 := List.all_eq_true.mp k5 n (List.mem_range.mpr hn)
    rw [Bool.or_eq_true, beq_iff_eq] at h1
    have h2 := h1.resolve_left hne
    rw [List.any_eq_true] at h2
    refine byC fun nG => ?_
    obtain ⟨x, hx, h2⟩ := h2
    rw [beq_iff_eq] at h2
    refine nG ?_
    rw [h2]
    have h3 := List.all_eq_true.mp hgoals n (List.mem_range.mpr hn)
    rw [Bool.or_eq_true, beq_iff_eq] at h3
    have h4 := h3.resolve_left hne
    have h5 := List.all_eq_true.mp h4 x hx
    have h6 := List.all_eq_true.mp h5 promo.toNat (List.mem_range.mpr (by omega))
    rwa [show (promo.toNat : Int) = promo from by omega] at h6)
  have p16' : rn 9 34 [.obj 1, .int 5] Hf = some (.ret (.int promo), Hg) := p16
  have e16' : rn 9 41 [.obj 72, .obj 4, .int f, .obj 79, .int promo] Hg = some (.ret (.bool true), Hh) := e16
  refine nG ?_
  refine ⟨lo10 x0 (some (.obj 1)) (some (.int r)) x4 (some (.obj 79)) y10 f r z11 z12 z13 y14 y15 y16 y17 y18 y19 none none, Hh, ?_⟩
  rw [tail_eq, evB_next e7, evB_next e8', evB_next e9, evB_next e10, evB_next e11]
  have spl := evB_app (m := [st15, st16]) [st12, st13, st14] e12
  rw [show [st12, st13, st14, st15, st16] = [st12, st13, st14] ++ [st15, st16] from rfl, spl, evB_next e15]
  exact evB_ret (sRet (eCall (eCons rfl (eCons rfl (eCons rfl (eCons rfl (eCons (eCall (eCons rfl (eCons rfl eNil)) p16') eNil))))) e16'))
end
end Mine
end
/-! Geo5 -/
section
set_option Elab.async false
set_option genSizeOf false
set_option linter.all false
set_option maxRecDepth 100000
set_option maxHeartbeats 4000000
open PySem
namespace Mine
/-- the geometry's castles, and the law's table -/
noncomputable def castN (f r : Nat) (a : Bool) : List Cst := (List.range 4).map fun i =>
  let base : Int := if i < 2 then 0 else f * r - f
  let start : Int := base + (f / 2 : Nat)
  let way : Int := if i % 2 = 0 then 1 else -1
  let corner : Int := if i % 2 = 0 then base + f - 1 else base
  if a && decide (0 < (corner - (start + 2 * way)) * way) then some (start, start + 2 * way, corner, start + way) else none
noncomputable def tabN (f r : Nat) (a : Bool) : List Row := (List.range 4).filterMap fun i => ((castN f r a).getD i none).map fun (h, g, c, _) => ((i : Int), h, g, c)
noncomputable def rightsN (n : Nat) (C : List Cst) : List Int := (List.range n).map fun s => ((List.range 4).map fun i => match C.getD i none with | some (h, _, c, _) => if (s : Int) = h ∨ (s : Int) = c then ((2 ^ i : Nat) : Int) else 0 | none => 0).foldl (· + ·) 0
noncomputable def pre5 (l0 l1 l3 : List V) (T : List Row) : Hp := [.flist l0, purseO 2 2, .list l1, .list l3, .list (T.map rowV)]
noncomputable def kI (l : List Int) : O := .list (l.map .int)
noncomputable def zpN (f n : Nat) : Hp := (List.range 15).flatMap (fun q_ => [kI [0], kI (List.replicate n 0)]) ++ [.list zsL, kI [0], kI (List.replicate f 0), kI [0], kI (List.replicate 16 0), .inst 2 [(21, .obj 66), (6, .obj 68), (23, .obj 70), (4, .int 0)], .inst 1 (posA 0 0), kI [0], kI (List.replicate n 0), kI [0], kI (List.replicate 7 0), kI [0, 0], kI []]
noncomputable def st6X : X := .new 1 [(.loc 6), (.new 2 [(.comp (.bin .mul (.list [(.cint 0)]) (.loc 7)) 20 (.bi .range1 [(.cint 15)]) [] [7]), (.bin .mul (.list [(.cint 0)]) (.loc 2)), (.bin .mul (.list [(.cint 0)]) (.cint 16)), (.cint 0)])]
/-! the masks -/
noncomputable def fmN (f r : Nat) : List Int := (List.range f).map fun i => ((((List.range r).map fun k => 2 ^ (k * f)).foldl (· + ·) 0 * 2 ^ i : Nat) : Int)
noncomputable def rmN (f r : Nat) : List Int := (List.range r).map fun k => (((2 ^ f - 1) * 2 ^ (k * f) : Nat) : Int)
noncomputable def geoM (f r : Nat) (a : Bool) : Hp := [.inst 0 (gaA f r a 9), kI (fmN f r), kI (rmN f r), .list [], .list [], .list [], .list [], .list [], .list [.obj 11, .obj 12], .list [], .list []]
/-- the heap before add_castles, and after it: what is not read is free -/
noncomputable def spN (f r : Nat) (a : Bool) (w : Nat → O) : Hp := (List.range 34).map fun i => if i = 5 then .inst 0 (gaA f r a 17) else if i = 14 then .list [] else if i = 15 then .list [] else w i
noncomputable def spM (f r : Nat) (a : Bool) (w : Nat → O) : Hp := (List.range 36).map fun i => if i = 5 then .inst 0 (gaB f r a) else w i
structure Ready (f r : Nat) (a : Bool) : Prop where
  tab : ∀ l0 l1 l3, rn 9 35 [.int f, .int r, .bool a] [.flist l0, purseO 2 2, .list l1, .list l3] = some (.ret (.obj 4), pre5 l0 l1 l3 (tabN f r a))
  msk : ∀ l0 l1 l3 T, evB (cx 8) (b_make_geometry.take 3) [some (.int f), some (.int r), some (.bool true), some (.bool a), none] (pre5 l0 l1 l3 T) = some (.next, [some (.int f), some (.int r), some (.bool true), some (.bool a), some (.obj 5)], pre5 l0 l1 l3 T ++ geoM f r a)
  rays : okRays f r (fullN f r) (fmN f r) (rmN f r) = true
  kn : okKn f r (fullN f r) (fmN f r) = true
  add : ∀ w, rn 8 30 [.obj 5] (spN f r a w) = some (.ret .none, ((spN f r a w).set 5 (.inst 0 (gaB f r a))).set 14 (.list ((castN f r a).map castV)) ++ [kI [0], kI (rightsN (f * r) (castN f r a))])
  new : ∀ w, evE (cx 9) [some (.obj 0), some (.obj 1), some (.int f), some (.int r), some (.bool a), some (.obj 4), some (.obj 5), some (.int (f * r : Nat)), none, none, none, none, none, none, none, none, none, none, none, none, none, none] st6X (spM f r a w) = some (.obj 72, spM f r a w ++ zpN f (f * r))
  g0 : getAttr' 0 (gaB f r a) = some (.int f) ∧ getAttr' 1 (gaB f r a) = some (.int r) ∧ getAttr' 7 (gaB f r a) = some (.int (f * r : Nat)) ∧ getAttr' 2 (gaB f r a) = some (.obj 14)
  two : 2 ≤ f
  good : Good f r (castN f r a) (tabN f r a)
theorem geo_call {f r : Nat} {a : Bool} (R : Ready f r a) (l0 l1 l3 : List V) (T : List Row) :
    ∃ A, rn 9 31 [.int f, .int r, .bool true, .bool a] (pre5 l0 l1 l3 T) = some (.ret (.obj 5), A) ∧ A.length = 36 ∧ A[1]? = some (purseO 2 2) ∧ A[2]? = some (.list l1) ∧ A[4]? = some (.list (T.map rowV)) ∧ A[5]? = some (.inst 0 (gaB f r a)) ∧ A[14]? = some (.list ((castN f r a).map castV)) := by
  have W := R.good.W
  have sz := W.sz
  have f2 := W.f2
  let H0 := pre5 l0 l1 l3 T ++ geoM f r a
  refine byC fun nG => ?_
  obtain ⟨H1, e1, D1⟩ := rays_call (d := 6) (H := H0) (f := f) (r := r) (full := fullN f r) (dbl := decide (5 ≤ r)) (a := a) (fm := fmN f r) (rm := rmN f r) rfl rfl rfl rfl rfl (by simp [fmN]) (by simp [rmN]) W.f1 W.f2 W.r1 W.r2 (by omega) R.rays
  have k1 : ∀ j o, j ≠ 5 → j ≠ 8 → j ≠ 17 → j < 18 → H0[j]? = some o → H1[j]? = some o := fun j o h5 h8 h17 h18 h => D1.kp j o h8 h17 h18 (by rw [List.getElem?_set_ne (fun z => h5 z.symm)]; exact h)
  obtain ⟨H2, e2, S2⟩ := pawns_call (d := 7) D1 (k1 13 _ (by decide) (by decide) (by decide) (by decide) rfl) (k1 11 _ (by decide) (by decide) (by decide) (by decide) rfl) (k1 12 _ (by decide) (by decide) (by decide) (by decide) rfl) (by omega)
  obtain ⟨H3, e3, S3⟩ := kn_call (d := 7) (fm := fmN f r) (S2.kp 5 _ (by decide) D1.gi) (S2.kp 6 _ (by decide) D1.h6) (S2.kp 10 _ (by decide) (k1 10 _ (by decide) (by decide) (by decide) (by decide) rfl)) (by simp [fmN]) R.two W.f2 (by omega) R.kn
  have len3 : H3.length = 34 := by rw [S3.len, S2.len, D1.len]
  have k3 : ∀ j o, j ≠ 5 → j ≠ 8 → j ≠ 10 → j ≠ 11 → j ≠ 12 → j ≠ 17 → j < 18 → H0[j]? = some o → H3[j]? = some o := fun j o h5 h8 h10 h11 h12 h17 h18 h => S3.kp j o (by simp [h10]) (S2.kp j o (by simp [h11, h12]) (k1 j o h5 h8 h17 h18 h))
  have g5 : H3[5]? = some (.inst 0 (gaA f r a 17)) := S3.kp 5 _ (by decide) (S2.kp 5 _ (by decide) D1.gi)
  refine nG ?_
  let w : Nat → O := fun i => H3.getD i (.list [])
  have e : H3 = spN f r a w := spine len3 fun i hi => by
    refine byC fun nG => ?_
    by_cases q : i = 5
    · subst q; refine nG ?_; exact g5
    · by_cases q2 : i = 14
      · subst q2; refine nG ?_; exact k3 14 _ (by decide) (by decide) (by decide) (by decide) (by decide) (by decide) (by decide) rfl
      · by_cases q3 : i = 15
        · subst q3; refine nG ?_; exact k3 15 _ (by decide) (by decide) (by decide) (by decide) (by decide) (by decide) (by decide) rfl
        · refine nG ?_
          simp only [q, q2, q3, if_false, w, List.getD_eq_getElem?_getD]
          rw [List.getElem?_eq_getElem (by omega)]; rfl
  have e4 := R.add w
  rw [← e] at e4
  refine ⟨(H3.set 5 (.inst 0 (gaB f r a))).set 14 (.list ((castN f r a).map castV)) ++ [kI [0], kI (rightsN (f * r) (castN f r a))], ?_, ?_, ?_, ?_, ?_, ?_, ?_⟩
  · rw [run_succ]
    show endOf (evB (cx 8) (b_make_geometry.take 3 ++ [.expr (.call 27 [(.loc 4)]), .expr (.call 28 [(.loc 4)]), .expr (.call 29 [(.loc 4)]), .expr (.call 30 [(.loc 4)]), .ret (.loc 4)]) [some (.int f), some (.int r), some (.bool true), some (.bool a), none] (pre5 l0 l1 l3 T)) = _
    have ex : ∀ {g : Nat} {Ha Hb : Hp}, rn 8 g [.obj 5] Ha = some (.ret .none, Hb) → evS (cx 8) (.expr (.call g [(.loc 4)])) [some (.int f), some (.int r), some (.bool true), some (.bool a), some (.obj 5)] Ha = some (.next, [some (.int f), some (.int r), some (.bool true), some (.bool a), some (.obj 5)], Hb) := fun h => sExpr (eCall (eCons rfl eNil) h)
    rw [evB_app _ (R.msk l0 l1 l3 T), evB_next (ex e1), evB_next (ex e2), evB_next (ex e3), evB_next (ex e4)]
    rfl
  · simp [len3]
  · rw [List.getElem?_append_left (by simp [len3]), List.getElem?_set_ne (by decide), List.getElem?_set_ne (by decide)]
    exact k3 1 _ (by decide) (by decide) (by decide) (by decide) (by decide) (by decide) (by decide) rfl
  · rw [List.getElem?_append_left (by simp [len3]), List.getElem?_set_ne (by decide), List.getElem?_set_ne (by decide)]
    exact k3 2 _ (by decide) (by decide) (by decide) (by decide) (by decide) (by decide) (by decide) rfl
  · rw [List.getElem?_append_left (by simp [len3]), List.getElem?_set_ne (by decide), List.getElem?_set_ne (by decide)]
    exact k3 4 _ (by decide) (by decide) (by decide) (by decide) (by decide) (by decide) (by decide) rfl
  · rw [List.getElem?_append_left (by simp [len3]), List.getElem?_set_ne (by decide), List.getElem?_set_self (by omega)]
  · rw [List.getElem?_append_left (by simp [len3]), List.getElem?_set_self (by simp [len3])]
theorem new_call {f r : Nat} {a : Bool} (R : Ready f r a) {A : Hp} (len : A.length = 36) (h5 : A[5]? = some (.inst 0 (gaB f r a))) : evE (cx 9) [some (.obj 0), some (.obj 1), some (.int f), some (.int r), some (.bool a), some (.obj 4), some (.obj 5), some (.int (f * r : Nat)), none, none, none, none, none, none, none, none, none, none, none, none, none, none] st6X A = some (.obj 72, A ++ zpN f (f * r)) := by
  have e : A = spM f r a (fun i => A.getD i (.list [])) := spine len fun i hi => by
    refine byC fun nG => ?_
    by_cases q : i = 5
    · subst q; refine nG ?_; exact h5
    · refine nG ?_
      simp only [q, if_false, List.getD_eq_getElem?_getD]
      rw [List.getElem?_eq_getElem (by omega)]; rfl
  rw [e]
  exact R.new _
end Mine
end
/-! Pl16 -/
section
set_option Elab.async false
set_option genSizeOf false
set_option linter.all false
set_option maxRecDepth 100000
set_option maxHeartbeats 4000000
open PySem
namespace Mine
noncomputable def resS : Option (CR × Hp) → List Nat
  | some (.ret (.str s), _) => s
  | _ => []
noncomputable def resH (n : Nat) : Option (CR × Hp) → Hp
  | some (_, H) => H.drop n
  | _ => []
noncomputable def fenR (f r : Nat) (C : List Cst) (T : List Row) (a : Bool) (w : Nat → O) : Option (CR × Hp) := rn 9 23 [.obj 5] (spF (fenN f) f r a C T w)
noncomputable def fenG (f r : Nat) (C : List Cst) (T : List Row) (a : Bool) (w : Nat → O) : Hp := resH (fenN f) (fenR f r C T a w)
noncomputable def begR (f r : Nat) (C : List Cst) (T : List Row) (a : Bool) (w : Nat → O) : Option (CR × Hp) := rn 9 39 [.int f, .int r, .obj 4] (spF (fenN f) f r a C T w ++ fenG f r C T a w)
noncomputable def shpB (f r : Nat) (C : List Cst) (T : List Row) : Bool := C.length == 4 && decide (T.length < 100) && T.all (fun x => small x.1) && decide (0 < f) && decide (f < 10) && decide (0 < r) && decide (r < 10)
theorem shp_of {f r : Nat} {C : List Cst} {T : List Row} (h : shpB f r C T = true) : Shp f r C T := by
  unfold shpB at h
  simp only [Bool.and_eq_true, beq_iff_eq, decide_eq_true_eq, List.all_eq_true] at h
  obtain ⟨⟨⟨⟨⟨⟨h1, h2⟩, h3⟩, h4⟩, h5⟩, h6⟩, h7⟩ := h
  exact ⟨h1, h2, h3, h4, h5, h6, h7⟩

theorem new74 (a : Bool) (w : Nat → O) : evE (cx 9) [some (.obj 0), some (.obj 1), some (.int (7 : Nat)), some (.int (4 : Nat)), some (.bool a), some (.obj 4), some (.obj 5), some (.int ((7 * 4 : Nat) : Int)), none, none, none, none, none, none, none, none, none, none, none, none, none, none] st6X (spM 7 4 a w) = some (.obj 72, spM 7 4 a w ++ zpN 7 (7 * 4)) := by kernel_rfl
theorem msk74 (a : Bool) (l0 l1 l3 : List V) (T : List Row) : evB (cx 8) (b_make_geometry.take 3) [some (.int (7 : Nat)), some (.int (4 : Nat)), some (.bool true), some (.bool a), none] (pre5 l0 l1 l3 T) = some (.next, [some (.int (7 : Nat)), some (.int (4 : Nat)), some (.bool true), some (.bool a), some (.obj 5)], pre5 l0 l1 l3 T ++ geoM 7 4 a) := by kernel_rfl
theorem rays74 : okRays 7 4 (fullN 7 4) (fmN 7 4) (rmN 7 4) = true := by decide +kernel
theorem kn74 : okKn 7 4 (fullN 7 4) (fmN 7 4) = true := by decide +kernel
theorem men74 : menAll 7 4 = true := by decide +kernel
theorem tab74t (l0 l1 l3 : List V) : rn 9 35 [.int (7 : Nat), .int (4 : Nat), .bool true] [.flist l0, purseO 2 2, .list l1, .list l3] = some (.ret (.obj 4), pre5 l0 l1 l3 (tabN 7 4 true)) := by kernel_rfl
theorem add74t (w : Nat → O) : rn 8 30 [.obj 5] (spN 7 4 true w) = some (.ret .none, ((spN 7 4 true w).set 5 (.inst 0 (gaB 7 4 true))).set 14 (.list ((castN 7 4 true).map castV)) ++ [kI [0], kI (rightsN (7 * 4) (castN 7 4 true))]) := by kernel_rfl
theorem shp74t : shpB 7 4 (castN 7 4 true) (tabN 7 4 true) = true := by decide +kernel
theorem pairs74t0 : okPairs 7 4 (castN 7 4 true) (tabN 7 4 true) 0 = true := by decide +kernel
theorem goals74t0 : okGoals 7 4 (castN 7 4 true) (tabN 7 4 true) 0 = true := by decide +kernel
theorem pairs74t1 : okPairs 7 4 (castN 7 4 true) (tabN 7 4 true) 1 = true := by decide +kernel
theorem goals74t1 : okGoals 7 4 (castN 7 4 true) (tabN 7 4 true) 1 = true := by decide +kernel
theorem told74t : (tabN 7 4 true).all (okTold 7 (castN 7 4 true)) = true := by decide +kernel
theorem nots74t : okNots 7 4 (castN 7 4 true) (tabN 7 4 true) = true := by decide +kernel
theorem fen74t (a : Bool) (w : Nat → O) : fenR 7 4 (castN 7 4 true) (tabN 7 4 true) a w = some (.ret (.str (resS (fenR 7 4 (castN 7 4 true) (tabN 7 4 true) a w))), spF (fenN 7) 7 4 a (castN 7 4 true) (tabN 7 4 true) w ++ fenG 7 4 (castN 7 4 true) (tabN 7 4 true) a w) := by kernel_rfl
theorem beg74t (a : Bool) (w : Nat → O) : begR 7 4 (castN 7 4 true) (tabN 7 4 true) a w = some (.ret (.str (resS (fenR 7 4 (castN 7 4 true) (tabN 7 4 true) a w))), (spF (fenN 7) 7 4 a (castN 7 4 true) (tabN 7 4 true) w ++ fenG 7 4 (castN 7 4 true) (tabN 7 4 true) a w) ++ resH (fenN 7 + (fenG 7 4 (castN 7 4 true) (tabN 7 4 true) a w).length) (begR 7 4 (castN 7 4 true) (tabN 7 4 true) a w)) := by kernel_rfl
theorem ready74t : Ready 7 4 true where
  tab := tab74t
  msk := msk74 true
  rays := rays74
  kn := kn74
  add := add74t
  new := new74 true
  g0 := ⟨rfl, rfl, rfl, rfl⟩
  two := by decide
  good := ⟨shp_of shp74t, fun sd h => by
    rcases h with rfl | rfl
    · exact pairs74t0
    · exact pairs74t1, told74t, nots74t, fun a w => ⟨_, _, _, fen74t a w, beg74t a w⟩, fun sd h => by
    rcases h with rfl | rfl
    · exact goals74t0
    · exact goals74t1, men74⟩
theorem tab74f (l0 l1 l3 : List V) : rn 9 35 [.int (7 : Nat), .int (4 : Nat), .bool false] [.flist l0, purseO 2 2, .list l1, .list l3] = some (.ret (.obj 4), pre5 l0 l1 l3 (tabN 7 4 false)) := by kernel_rfl
theorem add74f (w : Nat → O) : rn 8 30 [.obj 5] (spN 7 4 false w) = some (.ret .none, ((spN 7 4 false w).set 5 (.inst 0 (gaB 7 4 false))).set 14 (.list ((castN 7 4 false).map castV)) ++ [kI [0], kI (rightsN (7 * 4) (castN 7 4 false))]) := by kernel_rfl
theorem shp74f : shpB 7 4 (castN 7 4 false) (tabN 7 4 false) = true := by decide +kernel
theorem pairs74f0 : okPairs 7 4 (castN 7 4 false) (tabN 7 4 false) 0 = true := by decide +kernel
theorem goals74f0 : okGoals 7 4 (castN 7 4 false) (tabN 7 4 false) 0 = true := by decide +kernel
theorem pairs74f1 : okPairs 7 4 (castN 7 4 false) (tabN 7 4 false) 1 = true := by decide +kernel
theorem goals74f1 : okGoals 7 4 (castN 7 4 false) (tabN 7 4 false) 1 = true := by decide +kernel
theorem told74f : (tabN 7 4 false).all (okTold 7 (castN 7 4 false)) = true := by decide +kernel
theorem nots74f : okNots 7 4 (castN 7 4 false) (tabN 7 4 false) = true := by decide +kernel
theorem fen74f (a : Bool) (w : Nat → O) : fenR 7 4 (castN 7 4 false) (tabN 7 4 false) a w = some (.ret (.str (resS (fenR 7 4 (castN 7 4 false) (tabN 7 4 false) a w))), spF (fenN 7) 7 4 a (castN 7 4 false) (tabN 7 4 false) w ++ fenG 7 4 (castN 7 4 false) (tabN 7 4 false) a w) := by kernel_rfl
theorem beg74f (a : Bool) (w : Nat → O) : begR 7 4 (castN 7 4 false) (tabN 7 4 false) a w = some (.ret (.str (resS (fenR 7 4 (castN 7 4 false) (tabN 7 4 false) a w))), (spF (fenN 7) 7 4 a (castN 7 4 false) (tabN 7 4 false) w ++ fenG 7 4 (castN 7 4 false) (tabN 7 4 false) a w) ++ resH (fenN 7 + (fenG 7 4 (castN 7 4 false) (tabN 7 4 false) a w).length) (begR 7 4 (castN 7 4 false) (tabN 7 4 false) a w)) := by kernel_rfl
theorem ready74f : Ready 7 4 false where
  tab := tab74f
  msk := msk74 false
  rays := rays74
  kn := kn74
  add := add74f
  new := new74 false
  g0 := ⟨rfl, rfl, rfl, rfl⟩
  two := by decide
  good := ⟨shp_of shp74f, fun sd h => by
    rcases h with rfl | rfl
    · exact pairs74f0
    · exact pairs74f1, told74f, nots74f, fun a w => ⟨_, _, _, fen74f a w, beg74f a w⟩, fun sd h => by
    rcases h with rfl | rfl
    · exact goals74f0
    · exact goals74f1, men74⟩
theorem new88 (a : Bool) (w : Nat → O) : evE (cx 9) [some (.obj 0), some (.obj 1), some (.int (8 : Nat)), some (.int (8 : Nat)), some (.bool a), some (.obj 4), some (.obj 5), some (.int ((8 * 8 : Nat) : Int)), none, none, none, none, none, none, none, none, none, none, none, none, none, none] st6X (spM 8 8 a w) = some (.obj 72, spM 8 8 a w ++ zpN 8 (8 * 8)) := by kernel_rfl
theorem msk88 (a : Bool) (l0 l1 l3 : List V) (T : List Row) : evB (cx 8) (b_make_geometry.take 3) [some (.int (8 : Nat)), some (.int (8 : Nat)), some (.bool true), some (.bool a), none] (pre5 l0 l1 l3 T) = some (.next, [some (.int (8 : Nat)), some (.int (8 : Nat)), some (.bool true), some (.bool a), some (.obj 5)], pre5 l0 l1 l3 T ++ geoM 8 8 a) := by kernel_rfl
theorem rays88 : okRays 8 8 (fullN 8 8) (fmN 8 8) (rmN 8 8) = true := by decide +kernel
theorem kn88 : okKn 8 8 (fullN 8 8) (fmN 8 8) = true := by decide +kernel
theorem men88 : menAll 8 8 = true := by decide +kernel
theorem tab88t (l0 l1 l3 : List V) : rn 9 35 [.int (8 : Nat), .int (8 : Nat), .bool true] [.flist l0, purseO 2 2, .list l1, .list l3] = some (.ret (.obj 4), pre5 l0 l1 l3 (tabN 8 8 true)) := by kernel_rfl
theorem add88t (w : Nat → O) : rn 8 30 [.obj 5] (spN 8 8 true w) = some (.ret .none, ((spN 8 8 true w).set 5 (.inst 0 (gaB 8 8 true))).set 14 (.list ((castN 8 8 true).map castV)) ++ [kI [0], kI (rightsN (8 * 8) (castN 8 8 true))]) := by kernel_rfl
theorem shp88t : shpB 8 8 (castN 8 8 true) (tabN 8 8 true) = true := by decide +kernel
theorem pairs88t0 : okPairs 8 8 (castN 8 8 true) (tabN 8 8 true) 0 = true := by decide +kernel
theorem goals88t0 : okGoals 8 8 (castN 8 8 true) (tabN 8 8 true) 0 = true := by decide +kernel
theorem pairs88t1 : okPairs 8 8 (castN 8 8 true) (tabN 8 8 true) 1 = true := by decide +kernel
theorem goals88t1 : okGoals 8 8 (castN 8 8 true) (tabN 8 8 true) 1 = true := by decide +kernel
theorem told88t : (tabN 8 8 true).all (okTold 8 (castN 8 8 true)) = true := by decide +kernel
theorem nots88t : okNots 8 8 (castN 8 8 true) (tabN 8 8 true) = true := by decide +kernel
theorem fen88t (a : Bool) (w : Nat → O) : fenR 8 8 (castN 8 8 true) (tabN 8 8 true) a w = some (.ret (.str (resS (fenR 8 8 (castN 8 8 true) (tabN 8 8 true) a w))), spF (fenN 8) 8 8 a (castN 8 8 true) (tabN 8 8 true) w ++ fenG 8 8 (castN 8 8 true) (tabN 8 8 true) a w) := by kernel_rfl
theorem beg88t (a : Bool) (w : Nat → O) : begR 8 8 (castN 8 8 true) (tabN 8 8 true) a w = some (.ret (.str (resS (fenR 8 8 (castN 8 8 true) (tabN 8 8 true) a w))), (spF (fenN 8) 8 8 a (castN 8 8 true) (tabN 8 8 true) w ++ fenG 8 8 (castN 8 8 true) (tabN 8 8 true) a w) ++ resH (fenN 8 + (fenG 8 8 (castN 8 8 true) (tabN 8 8 true) a w).length) (begR 8 8 (castN 8 8 true) (tabN 8 8 true) a w)) := by kernel_rfl
theorem ready88t : Ready 8 8 true where
  tab := tab88t
  msk := msk88 true
  rays := rays88
  kn := kn88
  add := add88t
  new := new88 true
  g0 := ⟨rfl, rfl, rfl, rfl⟩
  two := by decide
  good := ⟨shp_of shp88t, fun sd h => by
    rcases h with rfl | rfl
    · exact pairs88t0
    · exact pairs88t1, told88t, nots88t, fun a w => ⟨_, _, _, fen88t a w, beg88t a w⟩, fun sd h => by
    rcases h with rfl | rfl
    · exact goals88t0
    · exact goals88t1, men88⟩
theorem tab88f (l0 l1 l3 : List V) : rn 9 35 [.int (8 : Nat), .int (8 : Nat), .bool false] [.flist l0, purseO 2 2, .list l1, .list l3] = some (.ret (.obj 4), pre5 l0 l1 l3 (tabN 8 8 false)) := by kernel_rfl
theorem add88f (w : Nat → O) : rn 8 30 [.obj 5] (spN 8 8 false w) = some (.ret .none, ((spN 8 8 false w).set 5 (.inst 0 (gaB 8 8 false))).set 14 (.list ((castN 8 8 false).map castV)) ++ [kI [0], kI (rightsN (8 * 8) (castN 8 8 false))]) := by kernel_rfl
theorem shp88f : shpB 8 8 (castN 8 8 false) (tabN 8 8 false) = true := by decide +kernel
theorem pairs88f0 : okPairs 8 8 (castN 8 8 false) (tabN 8 8 false) 0 = true := by decide +kernel
theorem goals88f0 : okGoals 8 8 (castN 8 8 false) (tabN 8 8 false) 0 = true := by decide +kernel
theorem pairs88f1 : okPairs 8 8 (castN 8 8 false) (tabN 8 8 false) 1 = true := by decide +kernel
theorem goals88f1 : okGoals 8 8 (castN 8 8 false) (tabN 8 8 false) 1 = true := by decide +kernel
theorem told88f : (tabN 8 8 false).all (okTold 8 (castN 8 8 false)) = true := by decide +kernel
theorem nots88f : okNots 8 8 (castN 8 8 false) (tabN 8 8 false) = true := by decide +kernel
theorem fen88f (a : Bool) (w : Nat → O) : fenR 8 8 (castN 8 8 false) (tabN 8 8 false) a w = some (.ret (.str (resS (fenR 8 8 (castN 8 8 false) (tabN 8 8 false) a w))), spF (fenN 8) 8 8 a (castN 8 8 false) (tabN 8 8 false) w ++ fenG 8 8 (castN 8 8 false) (tabN 8 8 false) a w) := by kernel_rfl
theorem beg88f (a : Bool) (w : Nat → O) : begR 8 8 (castN 8 8 false) (tabN 8 8 false) a w = some (.ret (.str (resS (fenR 8 8 (castN 8 8 false) (tabN 8 8 false) a w))), (spF (fenN 8) 8 8 a (castN 8 8 false) (tabN 8 8 false) w ++ fenG 8 8 (castN 8 8 false) (tabN 8 8 false) a w) ++ resH (fenN 8 + (fenG 8 8 (castN 8 8 false) (tabN 8 8 false) a w).length) (begR 8 8 (castN 8 8 false) (tabN 8 8 false) a w)) := by kernel_rfl
theorem ready88f : Ready 8 8 false where
  tab := tab88f
  msk := msk88 false
  rays := rays88
  kn := kn88
  add := add88f
  new := new88 false
  g0 := ⟨rfl, rfl, rfl, rfl⟩
  two := by decide
  good := ⟨shp_of shp88f, fun sd h => by
    rcases h with rfl | rfl
    · exact pairs88f0
    · exact pairs88f1, told88f, nots88f, fun a w => ⟨_, _, _, fen88f a w, beg88f a w⟩, fun sd h => by
    rcases h with rfl | rfl
    · exact goals88f0
    · exact goals88f1, men88⟩
theorem new83 (a : Bool) (w : Nat → O) : evE (cx 9) [some (.obj 0), some (.obj 1), some (.int (8 : Nat)), some (.int (3 : Nat)), some (.bool a), some (.obj 4), some (.obj 5), some (.int ((8 * 3 : Nat) : Int)), none, none, none, none, none, none, none, none, none, none, none, none, none, none] st6X (spM 8 3 a w) = some (.obj 72, spM 8 3 a w ++ zpN 8 (8 * 3)) := by kernel_rfl
theorem msk83 (a : Bool) (l0 l1 l3 : List V) (T : List Row) : evB (cx 8) (b_make_geometry.take 3) [some (.int (8 : Nat)), some (.int (3 : Nat)), some (.bool true), some (.bool a), none] (pre5 l0 l1 l3 T) = some (.next, [some (.int (8 : Nat)), some (.int (3 : Nat)), some (.bool true), some (.bool a), some (.obj 5)], pre5 l0 l1 l3 T ++ geoM 8 3 a) := by kernel_rfl
theorem rays83 : okRays 8 3 (fullN 8 3) (fmN 8 3) (rmN 8 3) = true := by decide +kernel
theorem kn83 : okKn 8 3 (fullN 8 3) (fmN 8 3) = true := by decide +kernel
theorem men83 : menAll 8 3 = true := by decide +kernel
theorem tab83t (l0 l1 l3 : List V) : rn 9 35 [.int (8 : Nat), .int (3 : Nat), .bool true] [.flist l0, purseO 2 2, .list l1, .list l3] = some (.ret (.obj 4), pre5 l0 l1 l3 (tabN 8 3 true)) := by kernel_rfl
theorem add83t (w : Nat → O) : rn 8 30 [.obj 5] (spN 8 3 true w) = some (.ret .none, ((spN 8 3 true w).set 5 (.inst 0 (gaB 8 3 true))).set 14 (.list ((castN 8 3 true).map castV)) ++ [kI [0], kI (rightsN (8 * 3) (castN 8 3 true))]) := by kernel_rfl
theorem shp83t : shpB 8 3 (castN 8 3 true) (tabN 8 3 true) = true := by decide +kernel
theorem pairs83t0 : okPairs 8 3 (castN 8 3 true) (tabN 8 3 true) 0 = true := by decide +kernel
theorem goals83t0 : okGoals 8 3 (castN 8 3 true) (tabN 8 3 true) 0 = true := by decide +kernel
theorem pairs83t1 : okPairs 8 3 (castN 8 3 true) (tabN 8 3 true) 1 = true := by decide +kernel
theorem goals83t1 : okGoals 8 3 (castN 8 3 true) (tabN 8 3 true) 1 = true := by decide +kernel
theorem told83t : (tabN 8 3 true).all (okTold 8 (castN 8 3 true)) = true := by decide +kernel
theorem nots83t : okNots 8 3 (castN 8 3 true) (tabN 8 3 true) = true := by decide +kernel
theorem fen83t (a : Bool) (w : Nat → O) : fenR 8 3 (castN 8 3 true) (tabN 8 3 true) a w = some (.ret (.str (resS (fenR 8 3 (castN 8 3 true) (tabN 8 3 true) a w))), spF (fenN 8) 8 3 a (castN 8 3 true) (tabN 8 3 true) w ++ fenG 8 3 (castN 8 3 true) (tabN 8 3 true) a w) := by kernel_rfl
theorem beg83t (a : Bool) (w : Nat → O) : begR 8 3 (castN 8 3 true) (tabN 8 3 true) a w = some (.ret (.str (resS (fenR 8 3 (castN 8 3 true) (tabN 8 3 true) a w))), (spF (fenN 8) 8 3 a (castN 8 3 true) (tabN 8 3 true) w ++ fenG 8 3 (castN 8 3 true) (tabN 8 3 true) a w) ++ resH (fenN 8 + (fenG 8 3 (castN 8 3 true) (tabN 8 3 true) a w).length) (begR 8 3 (castN 8 3 true) (tabN 8 3 true) a w)) := by kernel_rfl
theorem ready83t : Ready 8 3 true where
  tab := tab83t
  msk := msk83 true
  rays := rays83
  kn := kn83
  add := add83t
  new := new83 true
  g0 := ⟨rfl, rfl, rfl, rfl⟩
  two := by decide
  good := ⟨shp_of shp83t, fun sd h => by
    rcases h with rfl | rfl
    · exact pairs83t0
    · exact pairs83t1, told83t, nots83t, fun a w => ⟨_, _, _, fen83t a w, beg83t a w⟩, fun sd h => by
    rcases h with rfl | rfl
    · exact goals83t0
    · exact goals83t1, men83⟩
theorem tab83f (l0 l1 l3 : List V) : rn 9 35 [.int (8 : Nat), .int (3 : Nat), .bool false] [.flist l0, purseO 2 2, .list l1, .list l3] = some (.ret (.obj 4), pre5 l0 l1 l3 (tabN 8 3 false)) := by kernel_rfl
theorem add83f (w : Nat → O) : rn 8 30 [.obj 5] (spN 8 3 false w) = some (.ret .none, ((spN 8 3 false w).set 5 (.inst 0 (gaB 8 3 false))).set 14 (.list ((castN 8 3 false).map castV)) ++ [kI [0], kI (rightsN (8 * 3) (castN 8 3 false))]) := by kernel_rfl
theorem shp83f : shpB 8 3 (castN 8 3 false) (tabN 8 3 false) = true := by decide +kernel
theorem pairs83f0 : okPairs 8 3 (castN 8 3 false) (tabN 8 3 false) 0 = true := by decide +kernel
theorem goals83f0 : okGoals 8 3 (castN 8 3 false) (tabN 8 3 false) 0 = true := by decide +kernel
theorem pairs83f1 : okPairs 8 3 (castN 8 3 false) (tabN 8 3 false) 1 = true := by decide +kernel
theorem goals83f1 : okGoals 8 3 (castN 8 3 false) (tabN 8 3 false) 1 = true := by decide +kernel
theorem told83f : (tabN 8 3 false).all (okTold 8 (castN 8 3 false)) = true := by decide +kernel
theorem nots83f : okNots 8 3 (castN 8 3 false) (tabN 8 3 false) = true := by decide +kernel
theorem fen83f (a : Bool) (w : Nat → O) : fenR 8 3 (castN 8 3 false) (tabN 8 3 false) a w = some (.ret (.str (resS (fenR 8 3 (castN 8 3 false) (tabN 8 3 false) a w))), spF (fenN 8) 8 3 a (castN 8 3 false) (tabN 8 3 false) w ++ fenG 8 3 (castN 8 3 false) (tabN 8 3 false) a w) := by kernel_rfl
theorem beg83f (a : Bool) (w : Nat → O) : begR 8 3 (castN 8 3 false) (tabN 8 3 false) a w = some (.ret (.str (resS (fenR 8 3 (castN 8 3 false) (tabN 8 3 false) a w))), (spF (fenN 8) 8 3 a (castN 8 3 false) (tabN 8 3 false) w ++ fenG 8 3 (castN 8 3 false) (tabN 8 3 false) a w) ++ resH (fenN 8 + (fenG 8 3 (castN 8 3 false) (tabN 8 3 false) a w).length) (begR 8 3 (castN 8 3 false) (tabN 8 3 false) a w)) := by kernel_rfl
theorem ready83f : Ready 8 3 false where
  tab := tab83f
  msk := msk83 false
  rays := rays83
  kn := kn83
  add := add83f
  new := new83 false
  g0 := ⟨rfl, rfl, rfl, rfl⟩
  two := by decide
  good := ⟨shp_of shp83f, fun sd h => by
    rcases h with rfl | rfl
    · exact pairs83f0
    · exact pairs83f1, told83f, nots83f, fun a w => ⟨_, _, _, fen83f a w, beg83f a w⟩, fun sd h => by
    rcases h with rfl | rfl
    · exact goals83f0
    · exact goals83f1, men83⟩
theorem new55 (a : Bool) (w : Nat → O) : evE (cx 9) [some (.obj 0), some (.obj 1), some (.int (5 : Nat)), some (.int (5 : Nat)), some (.bool a), some (.obj 4), some (.obj 5), some (.int ((5 * 5 : Nat) : Int)), none, none, none, none, none, none, none, none, none, none, none, none, none, none] st6X (spM 5 5 a w) = some (.obj 72, spM 5 5 a w ++ zpN 5 (5 * 5)) := by kernel_rfl
theorem msk55 (a : Bool) (l0 l1 l3 : List V) (T : List Row) : evB (cx 8) (b_make_geometry.take 3) [some (.int (5 : Nat)), some (.int (5 : Nat)), some (.bool true), some (.bool a), none] (pre5 l0 l1 l3 T) = some (.next, [some (.int (5 : Nat)), some (.int (5 : Nat)), some (.bool true), some (.bool a), some (.obj 5)], pre5 l0 l1 l3 T ++ geoM 5 5 a) := by kernel_rfl
theorem rays55 : okRays 5 5 (fullN 5 5) (fmN 5 5) (rmN 5 5) = true := by decide +kernel
theorem kn55 : okKn 5 5 (fullN 5 5) (fmN 5 5) = true := by decide +kernel
theorem men55 : menAll 5 5 = true := by decide +kernel
theorem tab55t (l0 l1 l3 : List V) : rn 9 35 [.int (5 : Nat), .int (5 : Nat), .bool true] [.flist l0, purseO 2 2, .list l1, .list l3] = some (.ret (.obj 4), pre5 l0 l1 l3 (tabN 5 5 true)) := by kernel_rfl
theorem add55t (w : Nat → O) : rn 8 30 [.obj 5] (spN 5 5 true w) = some (.ret .none, ((spN 5 5 true w).set 5 (.inst 0 (gaB 5 5 true))).set 14 (.list ((castN 5 5 true).map castV)) ++ [kI [0], kI (rightsN (5 * 5) (castN 5 5 true))]) := by kernel_rfl
theorem shp55t : shpB 5 5 (castN 5 5 true) (tabN 5 5 true) = true := by decide +kernel
theorem pairs55t0 : okPairs 5 5 (castN 5 5 true) (tabN 5 5 true) 0 = true := by decide +kernel
theorem goals55t0 : okGoals 5 5 (castN 5 5 true) (tabN 5 5 true) 0 = true := by decide +kernel
theorem pairs55t1 : okPairs 5 5 (castN 5 5 true) (tabN 5 5 true) 1 = true := by decide +kernel
theorem goals55t1 : okGoals 5 5 (castN 5 5 true) (tabN 5 5 true) 1 = true := by decide +kernel
theorem told55t : (tabN 5 5 true).all (okTold 5 (castN 5 5 true)) = true := by decide +kernel
theorem nots55t : okNots 5 5 (castN 5 5 true) (tabN 5 5 true) = true := by decide +kernel
theorem fen55t (a : Bool) (w : Nat → O) : fenR 5 5 (castN 5 5 true) (tabN 5 5 true) a w = some (.ret (.str (resS (fenR 5 5 (castN 5 5 true) (tabN 5 5 true) a w))), spF (fenN 5) 5 5 a (castN 5 5 true) (tabN 5 5 true) w ++ fenG 5 5 (castN 5 5 true) (tabN 5 5 true) a w) := by kernel_rfl
theorem beg55t (a : Bool) (w : Nat → O) : begR 5 5 (castN 5 5 true) (tabN 5 5 true) a w = some (.ret (.str (resS (fenR 5 5 (castN 5 5 true) (tabN 5 5 true) a w))), (spF (fenN 5) 5 5 a (castN 5 5 true) (tabN 5 5 true) w ++ fenG 5 5 (castN 5 5 true) (tabN 5 5 true) a w) ++ resH (fenN 5 + (fenG 5 5 (castN 5 5 true) (tabN 5 5 true) a w).length) (begR 5 5 (castN 5 5 true) (tabN 5 5 true) a w)) := by kernel_rfl
theorem ready55t : Ready 5 5 true where
  tab := tab55t
  msk := msk55 true
  rays := rays55
  kn := kn55
  add := add55t
  new := new55 true
  g0 := ⟨rfl, rfl, rfl, rfl⟩
  two := by decide
  good := ⟨shp_of shp55t, fun sd h => by
    rcases h with rfl | rfl
    · exact pairs55t0
    · exact pairs55t1, told55t, nots55t, fun a w => ⟨_, _, _, fen55t a w, beg55t a w⟩, fun sd h => by
    rcases h with rfl | rfl
    · exact goals55t0
    · exact goals55t1, men55⟩
theorem tab55f (l0 l1 l3 : List V) : rn 9 35 [.int (5 : Nat), .int (5 : Nat), .bool false] [.flist l0, purseO 2 2, .list l1, .list l3] = some (.ret (.obj 4), pre5 l0 l1 l3 (tabN 5 5 false)) := by kernel_rfl
theorem add55f (w : Nat → O) : rn 8 30 [.obj 5] (spN 5 5 false w) = some (.ret .none, ((spN 5 5 false w).set 5 (.inst 0 (gaB 5 5 false))).set 14 (.list ((castN 5 5 false).map castV)) ++ [kI [0], kI (rightsN (5 * 5) (castN 5 5 false))]) := by kernel_rfl
theorem shp55f : shpB 5 5 (castN 5 5 false) (tabN 5 5 false) = true := by decide +kernel
theorem pairs55f0 : okPairs 5 5 (castN 5 5 false) (tabN 5 5 false) 0 = true := by decide +kernel
theorem goals55f0 : okGoals 5 5 (castN 5 5 false) (tabN 5 5 false) 0 = true := by decide +kernel
theorem pairs55f1 : okPairs 5 5 (castN 5 5 false) (tabN 5 5 false) 1 = true := by decide +kernel
theorem goals55f1 : okGoals 5 5 (castN 5 5 false) (tabN 5 5 false) 1 = true := by decide +kernel
theorem told55f : (tabN 5 5 false).all (okTold 5 (castN 5 5 false)) = true := by decide +kernel
theorem nots55f : okNots 5 5 (castN 5 5 false) (tabN 5 5 false) = true := by decide +kernel
theorem fen55f (a : Bool) (w : Nat → O) : fenR 5 5 (castN 5 5 false) (tabN 5 5 false) a w = some (.ret (.str (resS (fenR 5 5 (castN 5 5 false) (tabN 5 5 false) a w))), spF (fenN 5) 5 5 a (castN 5 5 false) (tabN 5 5 false) w ++ fenG 5 5 (castN 5 5 false) (tabN 5 5 false) a w) := by kernel_rfl
theorem beg55f (a : Bool) (w : Nat → O) : begR 5 5 (castN 5 5 false) (tabN 5 5 false) a w = some (.ret (.str (resS (fenR 5 5 (castN 5 5 false) (tabN 5 5 false) a w))), (spF (fenN 5) 5 5 a (castN 5 5 false) (tabN 5 5 false) w ++ fenG 5 5 (castN 5 5 false) (tabN 5 5 false) a w) ++ resH (fenN 5 + (fenG 5 5 (castN 5 5 false) (tabN 5 5 false) a w).length) (begR 5 5 (castN 5 5 false) (tabN 5 5 false) a w)) := by kernel_rfl
theorem ready55f : Ready 5 5 false where
  tab := tab55f
  msk := msk55 false
  rays := rays55
  kn := kn55
  add := add55f
  new := new55 false
  g0 := ⟨rfl, rfl, rfl, rfl⟩
  two := by decide
  good := ⟨shp_of shp55f, fun sd h => by
    rcases h with rfl | rfl
    · exact pairs55f0
    · exact pairs55f1, told55f, nots55f, fun a w => ⟨_, _, _, fen55f a w, beg55f a w⟩, fun sd h => by
    rcases h with rfl | rfl
    · exact goals55f0
    · exact goals55f1, men55⟩
theorem new78 (a : Bool) (w : Nat → O) : evE (cx 9) [some (.obj 0), some (.obj 1), some (.int (7 : Nat)), some (.int (8 : Nat)), some (.bool a), some (.obj 4), some (.obj 5), some (.int ((7 * 8 : Nat) : Int)), none, none, none, none, none, none, none, none, none, none, none, none, none, none] st6X (spM 7 8 a w) = some (.obj 72, spM 7 8 a w ++ zpN 7 (7 * 8)) := by kernel_rfl
theorem msk78 (a : Bool) (l0 l1 l3 : List V) (T : List Row) : evB (cx 8) (b_make_geometry.take 3) [some (.int (7 : Nat)), some (.int (8 : Nat)), some (.bool true), some (.bool a), none] (pre5 l0 l1 l3 T) = some (.next, [some (.int (7 : Nat)), some (.int (8 : Nat)), some (.bool true), some (.bool a), some (.obj 5)], pre5 l0 l1 l3 T ++ geoM 7 8 a) := by kernel_rfl
theorem rays78 : okRays 7 8 (fullN 7 8) (fmN 7 8) (rmN 7 8) = true := by decide +kernel
theorem kn78 : okKn 7 8 (fullN 7 8) (fmN 7 8) = true := by decide +kernel
theorem men78 : menAll 7 8 = true := by decide +kernel
theorem tab78t (l0 l1 l3 : List V) : rn 9 35 [.int (7 : Nat), .int (8 : Nat), .bool true] [.flist l0, purseO 2 2, .list l1, .list l3] = some (.ret (.obj 4), pre5 l0 l1 l3 (tabN 7 8 true)) := by kernel_rfl
theorem add78t (w : Nat → O) : rn 8 30 [.obj 5] (spN 7 8 true w) = some (.ret .none, ((spN 7 8 true w).set 5 (.inst 0 (gaB 7 8 true))).set 14 (.list ((castN 7 8 true).map castV)) ++ [kI [0], kI (rightsN (7 * 8) (castN 7 8 true))]) := by kernel_rfl
theorem shp78t : shpB 7 8 (castN 7 8 true) (tabN 7 8 true) = true := by decide +kernel
theorem pairs78t0 : okPairs 7 8 (castN 7 8 true) (tabN 7 8 true) 0 = true := by decide +kernel
theorem goals78t0 : okGoals 7 8 (castN 7 8 true) (tabN 7 8 true) 0 = true := by decide +kernel
theorem pairs78t1 : okPairs 7 8 (castN 7 8 true) (tabN 7 8 true) 1 = true := by decide +kernel
theorem goals78t1 : okGoals 7 8 (castN 7 8 true) (tabN 7 8 true) 1 = true := by decide +kernel
theorem told78t : (tabN 7 8 true).all (okTold 7 (castN 7 8 true)) = true := by decide +kernel
theorem nots78t : okNots 7 8 (castN 7 8 true) (tabN 7 8 true) = true := by decide +kernel
theorem fen78t (a : Bool) (w : Nat → O) : fenR 7 8 (castN 7 8 true) (tabN 7 8 true) a w = some (.ret (.str (resS (fenR 7 8 (castN 7 8 true) (tabN 7 8 true) a w))), spF (fenN 7) 7 8 a (castN 7 8 true) (tabN 7 8 true) w ++ fenG 7 8 (castN 7 8 true) (tabN 7 8 true) a w) := by kernel_rfl
theorem beg78t (a : Bool) (w : Nat → O) : begR 7 8 (castN 7 8 true) (tabN 7 8 true) a w = some (.ret (.str (resS (fenR 7 8 (castN 7 8 true) (tabN 7 8 true) a w))), (spF (fenN 7) 7 8 a (castN 7 8 true) (tabN 7 8 true) w ++ fenG 7 8 (castN 7 8 true) (tabN 7 8 true) a w) ++ resH (fenN 7 + (fenG 7 8 (castN 7 8 true) (tabN 7 8 true) a w).length) (begR 7 8 (castN 7 8 true) (tabN 7 8 true) a w)) := by kernel_rfl
theorem ready78t : Ready 7 8 true where
  tab := tab78t
  msk := msk78 true
  rays := rays78
  kn := kn78
  add := add78t
  new := new78 true
  g0 := ⟨rfl, rfl, rfl, rfl⟩
  two := by decide
  good := ⟨shp_of shp78t, fun sd h => by
    rcases h with rfl | rfl
    · exact pairs78t0
    · exact pairs78t1, told78t, nots78t, fun a w => ⟨_, _, _, fen78t a w, beg78t a w⟩, fun sd h => by
    rcases h with rfl | rfl
    · exact goals78t0
    · exact goals78t1, men78⟩
theorem tab78f (l0 l1 l3 : List V) : rn 9 35 [.int (7 : Nat), .int (8 : Nat), .bool false] [.flist l0, purseO 2 2, .list l1, .list l3] = some (.ret (.obj 4), pre5 l0 l1 l3 (tabN 7 8 false)) := by kernel_rfl
theorem add78f (w : Nat → O) : rn 8 30 [.obj 5] (spN 7 8 false w) = some (.ret .none, ((spN 7 8 false w).set 5 (.inst 0 (gaB 7 8 false))).set 14 (.list ((castN 7 8 false).map castV)) ++ [kI [0], kI (rightsN (7 * 8) (castN 7 8 false))]) := by kernel_rfl
theorem shp78f : shpB 7 8 (castN 7 8 false) (tabN 7 8 false) = true := by decide +kernel
theorem pairs78f0 : okPairs 7 8 (castN 7 8 false) (tabN 7 8 false) 0 = true := by decide +kernel
theorem goals78f0 : okGoals 7 8 (castN 7 8 false) (tabN 7 8 false) 0 = true := by decide +kernel
theorem pairs78f1 : okPairs 7 8 (castN 7 8 false) (tabN 7 8 false) 1 = true := by decide +kernel
theorem goals78f1 : okGoals 7 8 (castN 7 8 false) (tabN 7 8 false) 1 = true := by decide +kernel
theorem told78f : (tabN 7 8 false).all (okTold 7 (castN 7 8 false)) = true := by decide +kernel
theorem nots78f : okNots 7 8 (castN 7 8 false) (tabN 7 8 false) = true := by decide +kernel
theorem fen78f (a : Bool) (w : Nat → O) : fenR 7 8 (castN 7 8 false) (tabN 7 8 false) a w = some (.ret (.str (resS (fenR 7 8 (castN 7 8 false) (tabN 7 8 false) a w))), spF (fenN 7) 7 8 a (castN 7 8 false) (tabN 7 8 false) w ++ fenG 7 8 (castN 7 8 false) (tabN 7 8 false) a w) := by kernel_rfl
theorem beg78f (a : Bool) (w : Nat → O) : begR 7 8 (castN 7 8 false) (tabN 7 8 false) a w = some (.ret (.str (resS (fenR 7 8 (castN 7 8 false) (tabN 7 8 false) a w))), (spF (fenN 7) 7 8 a (castN 7 8 false) (tabN 7 8 false) w ++ fenG 7 8 (castN 7 8 false) (tabN 7 8 false) a w) ++ resH (fenN 7 + (fenG 7 8 (castN 7 8 false) (tabN 7 8 false) a w).length) (begR 7 8 (castN 7 8 false) (tabN 7 8 false) a w)) := by kernel_rfl
theorem ready78f : Ready 7 8 false where
  tab := tab78f
  msk := msk78 false
  rays := rays78
  kn := kn78
  add := add78f
  new := new78 false
  g0 := ⟨rfl, rfl, rfl, rfl⟩
  two := by decide
  good := ⟨shp_of shp78f, fun sd h => by
    rcases h with rfl | rfl
    · exact pairs78f0
    · exact pairs78f1, told78f, nots78f, fun a w => ⟨_, _, _, fen78f a w, beg78f a w⟩, fun sd h => by
    rcases h with rfl | rfl
    · exact goals78f0
    · exact goals78f1, men78⟩
theorem new46 (a : Bool) (w : Nat → O) : evE (cx 9) [some (.obj 0), some (.obj 1), some (.int (4 : Nat)), some (.int (6 : Nat)), some (.bool a), some (.obj 4), some (.obj 5), some (.int ((4 * 6 : Nat) : Int)), none, none, none, none, none, none, none, none, none, none, none, none, none, none] st6X (spM 4 6 a w) = some (.obj 72, spM 4 6 a w ++ zpN 4 (4 * 6)) := by kernel_rfl
theorem msk46 (a : Bool) (l0 l1 l3 : List V) (T : List Row) : evB (cx 8) (b_make_geometry.take 3) [some (.int (4 : Nat)), some (.int (6 : Nat)), some (.bool true), some (.bool a), none] (pre5 l0 l1 l3 T) = some (.next, [some (.int (4 : Nat)), some (.int (6 : Nat)), some (.bool true), some (.bool a), some (.obj 5)], pre5 l0 l1 l3 T ++ geoM 4 6 a) := by kernel_rfl
theorem rays46 : okRays 4 6 (fullN 4 6) (fmN 4 6) (rmN 4 6) = true := by decide +kernel
theorem kn46 : okKn 4 6 (fullN 4 6) (fmN 4 6) = true := by decide +kernel
theorem men46 : menAll 4 6 = true := by decide +kernel
theorem tab46t (l0 l1 l3 : List V) : rn 9 35 [.int (4 : Nat), .int (6 : Nat), .bool true] [.flist l0, purseO 2 2, .list l1, .list l3] = some (.ret (.obj 4), pre5 l0 l1 l3 (tabN 4 6 true)) := by kernel_rfl
theorem add46t (w : Nat → O) : rn 8 30 [.obj 5] (spN 4 6 true w) = some (.ret .none, ((spN 4 6 true w).set 5 (.inst 0 (gaB 4 6 true))).set 14 (.list ((castN 4 6 true).map castV)) ++ [kI [0], kI (rightsN (4 * 6) (castN 4 6 true))]) := by kernel_rfl
theorem shp46t : shpB 4 6 (castN 4 6 true) (tabN 4 6 true) = true := by decide +kernel
theorem pairs46t0 : okPairs 4 6 (castN 4 6 true) (tabN 4 6 true) 0 = true := by decide +kernel
theorem goals46t0 : okGoals 4 6 (castN 4 6 true) (tabN 4 6 true) 0 = true := by decide +kernel
theorem pairs46t1 : okPairs 4 6 (castN 4 6 true) (tabN 4 6 true) 1 = true := by decide +kernel
theorem goals46t1 : okGoals 4 6 (castN 4 6 true) (tabN 4 6 true) 1 = true := by decide +kernel
theorem told46t : (tabN 4 6 true).all (okTold 4 (castN 4 6 true)) = true := by decide +kernel
theorem nots46t : okNots 4 6 (castN 4 6 true) (tabN 4 6 true) = true := by decide +kernel
theorem fen46t (a : Bool) (w : Nat → O) : fenR 4 6 (castN 4 6 true) (tabN 4 6 true) a w = some (.ret (.str (resS (fenR 4 6 (castN 4 6 true) (tabN 4 6 true) a w))), spF (fenN 4) 4 6 a (castN 4 6 true) (tabN 4 6 true) w ++ fenG 4 6 (castN 4 6 true) (tabN 4 6 true) a w) := by kernel_rfl
theorem beg46t (a : Bool) (w : Nat → O) : begR 4 6 (castN 4 6 true) (tabN 4 6 true) a w = some (.ret (.str (resS (fenR 4 6 (castN 4 6 true) (tabN 4 6 true) a w))), (spF (fenN 4) 4 6 a (castN 4 6 true) (tabN 4 6 true) w ++ fenG 4 6 (castN 4 6 true) (tabN 4 6 true) a w) ++ resH (fenN 4 + (fenG 4 6 (castN 4 6 true) (tabN 4 6 true) a w).length) (begR 4 6 (castN 4 6 true) (tabN 4 6 true) a w)) := by kernel_rfl
theorem ready46t : Ready 4 6 true where
  tab := tab46t
  msk := msk46 true
  rays := rays46
  kn := kn46
  add := add46t
  new := new46 true
  g0 := ⟨rfl, rfl, rfl, rfl⟩
  two := by decide
  good := ⟨shp_of shp46t, fun sd h => by
    rcases h with rfl | rfl
    · exact pairs46t0
    · exact pairs46t1, told46t, nots46t, fun a w => ⟨_, _, _, fen46t a w, beg46t a w⟩, fun sd h => by
    rcases h with rfl | rfl
    · exact goals46t0
    · exact goals46t1, men46⟩
theorem tab46f (l0 l1 l3 : List V) : rn 9 35 [.int (4 : Nat), .int (6 : Nat), .bool false] [.flist l0, purseO 2 2, .list l1, .list l3] = some (.ret (.obj 4), pre5 l0 l1 l3 (tabN 4 6 false)) := by kernel_rfl
theorem add46f (w : Nat → O) : rn 8 30 [.obj 5] (spN 4 6 false w) = some (.ret .none, ((spN 4 6 false w).set 5 (.inst 0 (gaB 4 6 false))).set 14 (.list ((castN 4 6 false).map castV)) ++ [kI [0], kI (rightsN (4 * 6) (castN 4 6 false))]) := by kernel_rfl
theorem shp46f : shpB 4 6 (castN 4 6 false) (tabN 4 6 false) = true := by decide +kernel
theorem pairs46f0 : okPairs 4 6 (castN 4 6 false) (tabN 4 6 false) 0 = true := by decide +kernel
theorem goals46f0 : okGoals 4 6 (castN 4 6 false) (tabN 4 6 false) 0 = true := by decide +kernel
theorem pairs46f1 : okPairs 4 6 (castN 4 6 false) (tabN 4 6 false) 1 = true := by decide +kernel
theorem goals46f1 : okGoals 4 6 (castN 4 6 false) (tabN 4 6 false) 1 = true := by decide +kernel
theorem told46f : (tabN 4 6 false).all (okTold 4 (castN 4 6 false)) = true := by decide +kernel
theorem nots46f : okNots 4 6 (castN 4 6 false) (tabN 4 6 false) = true := by decide +kernel
theorem fen46f (a : Bool) (w : Nat → O) : fenR 4 6 (castN 4 6 false) (tabN 4 6 false) a w = some (.ret (.str (resS (fenR 4 6 (castN 4 6 false) (tabN 4 6 false) a w))), spF (fenN 4) 4 6 a (castN 4 6 false) (tabN 4 6 false) w ++ fenG 4 6 (castN 4 6 false) (tabN 4 6 false) a w) := by kernel_rfl
theorem beg46f (a : Bool) (w : Nat → O) : begR 4 6 (castN 4 6 false) (tabN 4 6 false) a w = some (.ret (.str (resS (fenR 4 6 (castN 4 6 false) (tabN 4 6 false) a w))), (spF (fenN 4) 4 6 a (castN 4 6 false) (tabN 4 6 false) w ++ fenG 4 6 (castN 4 6 false) (tabN 4 6 false) a w) ++ resH (fenN 4 + (fenG 4 6 (castN 4 6 false) (tabN 4 6 false) a w).length) (begR 4 6 (castN 4 6 false) (tabN 4 6 false) a w)) := by kernel_rfl
theorem ready46f : Ready 4 6 false where
  tab := tab46f
  msk := msk46 false
  rays := rays46
  kn := kn46
  add := add46f
  new := new46 false
  g0 := ⟨rfl, rfl, rfl, rfl⟩
  two := by decide
  good := ⟨shp_of shp46f, fun sd h => by
    rcases h with rfl | rfl
    · exact pairs46f0
    · exact pairs46f1, told46f, nots46f, fun a w => ⟨_, _, _, fen46f a w, beg46f a w⟩, fun sd h => by
    rcases h with rfl | rfl
    · exact goals46f0
    · exact goals46f1, men46⟩
end Mine
end
/-! Pl18 -/
section
set_option Elab.async false
set_option genSizeOf false
set_option linter.all false
set_option maxRecDepth 100000
set_option maxHeartbeats 4000000
open PySem
namespace Mine
theorem zget {A Z : Hp} (h : A.length = 36) (i : Nat) {o : O} (e : Z[i]? = some o) : (A ++ Z)[36 + i]? = some o := by
  rw [List.getElem?_append_right (by omega), h, Nat.add_sub_cancel_left]; exact e
theorem base_of {A : Hp} {cs : List Int} {f r : Nat} {C : List Cst} {T : List Row} (len : A.length = 36) (pu : A[1]? = some (purseO 2 2)) (ce : A[2]? = some (.list (cs.map .int))) (tb : A[4]? = some (.list (T.map rowV)))
    {a : Bool} (g5 : A[5]? = some (.inst 0 (gaB f r a))) (g : getAttr' 0 (gaB f r a) = some (.int f) ∧ getAttr' 1 (gaB f r a) = some (.int r) ∧ getAttr' 7 (gaB f r a) = some (.int (f * r : Nat)) ∧ getAttr' 2 (gaB f r a) = some (.obj 14)) (hc : A[14]? = some (.list (C.map castV))) : Base cs f r C T (A ++ zpN f (f * r)) := by
  refine byC fun nG => ?_
  obtain ⟨g0, g1, g7, g2⟩ := g
  have h5 : (A ++ zpN f (f * r))[5]? = some (.inst 0 (gaB f r a)) := hp_app _ g5
  refine nG ?_
  refine ⟨by rw [List.length_append, len]; rfl, hp_app _ pu, hp_app _ ce, hp_app _ tb, ⟨a, h5⟩, by rw [attr_of h5]; exact g0, by rw [attr_of h5]; exact g1, by rw [attr_of h5]; exact g7, by rw [attr_of h5]; exact g2, hp_app _ hc,
    zget len 36 rfl, zget len 38 rfl, zget len 40 rfl, zget len 41 rfl, ?_, zget len 30 rfl, fun i hi => ?_⟩
  · have h71 : (A ++ zpN f (f * r))[71]? = some (.inst 2 [(21, .obj 66), (6, .obj 68), (23, .obj 70), (4, .int 0)]) := zget len 35 rfl
    rw [attr_of h71]; rfl
  · rw [show 37 + 2 * i = 36 + (1 + 2 * i) from by omega]
    refine zget len _ ?_
    revert i
    iterate 15 refine ltS ?_ rfl
    exact lt0
noncomputable def los (a2 a3 a4 a5 a6 a7 a8 : Option V) : Lo := [some (.obj 0), some (.obj 1), a2, a3, a4, a5, a6, a7, a8, none, none, none, none, none, none, none, none, none, none, none, none, none]
noncomputable def st3 : S := .assign 5 (.call 35 [(.loc 2), (.loc 3), (.loc 4)])
noncomputable def st4 : S := .assign 6 (.call 31 [(.loc 2), (.loc 3), (.cbool true), (.loc 4)])
noncomputable def st5 : S := .assign 7 (.bin .mul (.loc 2) (.loc 3))
noncomputable def st6 : S := .assign 8 st6X
theorem mid_eq : (b_law.drop 3).take 4 = [st3, st4, st5, st6] := rfl
theorem eCmp {c : Cx} {σ : Lo} {H H1 H2 : Hp} {op : Cm} {l r : X} {x y : V} {b : Bool} (h1 : evE c σ l H = some (x, H1)) (h2 : evE c σ r H1 = some (y, H2)) (h3 : cmpV op x y H2 = some b) : evE c σ (.cmp op l r) H = some (.bool b, H2) := by
  show (evE c σ l H).bind _ = _
  rw [h1]
  show (evE c σ r H1).bind _ = _
  rw [h2]
  show (cmpV op x y H2).bind _ = _
  rw [h3]; rfl
theorem mid {f r : Nat} {a : Bool} (R : Ready f r a) (l0 l1 l3 : List V) :
    ∃ A, evB (cx 9) [st3, st4, st5, st6] (los (some (.int f)) (some (.int r)) (some (.bool a)) none none none none) [.flist l0, purseO 2 2, .list l1, .list l3] =
      some (.next, los (some (.int f)) (some (.int r)) (some (.bool a)) (some (.obj 4)) (some (.obj 5)) (some (.int (f * r : Nat))) (some (.obj 72)), A ++ zpN f (f * r)) ∧
      A.length = 36 ∧ A[1]? = some (purseO 2 2) ∧ A[2]? = some (.list l1) ∧ A[4]? = some (.list ((tabN f r a).map rowV)) ∧ A[5]? = some (.inst 0 (gaB f r a)) ∧ A[14]? = some (.list ((castN f r a).map castV)) := by
  have W := R.good.W
  have f2 := W.f2
  refine byC fun nG => ?_
  obtain ⟨A, hgeo, len, a1, a2, a4, a5, a14⟩ := geo_call R l0 l1 l3 (tabN f r a)
  refine nG ?_
  refine ⟨A, ?_, len, a1, a2, a4, a5, a14⟩
  have e3 : evS (cx 9) st3 (los (some (.int f)) (some (.int r)) (some (.bool a)) none none none none) [.flist l0, purseO 2 2, .list l1, .list l3] = some (.next, los (some (.int f)) (some (.int r)) (some (.bool a)) (some (.obj 4)) none none none, pre5 l0 l1 l3 (tabN f r a)) := by
    exact sAssign (eCall (eCons rfl (eCons rfl (eCons rfl eNil))) (R.tab l0 l1 l3))
  have e4 : evS (cx 9) st4 (los (some (.int f)) (some (.int r)) (some (.bool a)) (some (.obj 4)) none none none) (pre5 l0 l1 l3 (tabN f r a)) = some (.next, los (some (.int f)) (some (.int r)) (some (.bool a)) (some (.obj 4)) (some (.obj 5)) none none, A) := by
    exact sAssign (eCall (eCons rfl (eCons rfl (eCons rfl (eCons rfl eNil)))) hgeo)
  have e5 : ∀ H, evS (cx 9) st5 (los (some (.int f)) (some (.int r)) (some (.bool a)) (some (.obj 4)) (some (.obj 5)) none none) H = some (.next, los (some (.int f)) (some (.int r)) (some (.bool a)) (some (.obj 4)) (some (.obj 5)) (some (.int (f * r : Nat))) none, H) := fun H => by
    refine sAssign (eBin rfl rfl (bInt ?_))
    show grd (small (f : Int)) _ = _
    rw [small_of (show (f : Int).natAbs < 18446744073709551616 from by omega), grd_true, Int.natCast_mul]
  rw [evB_next e3, evB_next e4, evB_next (e5 _)]
  apply evB_one
  have h := new_call R len a5
  have h : evE (cx 9) (los (some (.int f)) (some (.int r)) (some (.bool a)) (some (.obj 4)) (some (.obj 5)) (some (.int (f * r : Nat))) none) st6X A = _ := h
  exact sAssign h
noncomputable def brd : List V := [.tup [.int 7, .int 4], .tup [.int 8, .int 8], .tup [.int 8, .int 3], .tup [.int 5, .int 5], .tup [.int 7, .int 8], .tup [.int 4, .int 6]]
theorem of_ready {f r : Nat} (R : ∀ a, Ready f r a) (l0 : List V) (cs : List Int) (hl : cs.length ≤ 14) :
    ∃ σ' H', evB (cx 9) (b_law.drop 2) (los (some (.int f)) (some (.int r)) none none none none none) [.flist l0, purseO 2 1, .list (cs.map .int), .list brd] = some (.ret (.bool true), σ', H') := by
  have p2 : rn 9 34 [.obj 1, .int 4] [.flist l0, purseO 2 1, .list (cs.map .int), .list brd] = some (.ret (.int (pullv cs 1 4)), [.flist l0, purseO 2 2, .list (cs.map .int), .list brd]) := r_pull (d := 8) (k := 1) (H := [.flist l0, purseO 2 1, .list (cs.map .int), .list brd]) rfl rfl (by decide) hl (by decide) (by decide)
  generalize pullv cs 1 4 = v at p2
  let a : Bool := !(v == 3)
  have e2 : evS (cx 9) (.assign 4 (.cmp .ne (.call 34 [(.loc 1), (.cint 4)]) (.cint 3))) (los (some (.int f)) (some (.int r)) none none none none none) [.flist l0, purseO 2 1, .list (cs.map .int), .list brd] = some (.next, los (some (.int f)) (some (.int r)) (some (.bool a)) none none none none, [.flist l0, purseO 2 2, .list (cs.map .int), .list brd]) := by
    exact sAssign (eCmp (eCall (eCons rfl (eCons rfl eNil)) p2) rfl rfl)
  have Ra := R a
  refine byC fun nG => ?_
  obtain ⟨A, m, len, a1, a2, a4, a5, a14⟩ := mid Ra l0 (cs.map .int) brd
  have B := base_of (cs := cs) (f := f) (r := r) (C := castN f r a) (T := tabN f r a) (A := A) len a1 a2 a4 a5 Ra.g0 a14
  obtain ⟨σ', H', e⟩ := after (x0 := some (.obj 0)) (x4 := some (.bool a)) B Ra.good hl
  refine nG ?_
  refine ⟨σ', H', ?_⟩
  show evB (cx 9) (.assign 4 (.cmp .ne (.call 34 [(.loc 1), (.cint 4)]) (.cint 3)) :: ([st3, st4, st5, st6] ++ b_law.drop 7)) _ _ = _
  rw [evB_next e2, evB_app _ m]
  exact e
theorem plain (ns : List Int) (hn : ns.length ≤ 63) : ∃ H', run fnTab glTab initTab 10 42 [.obj 0] [.flist (ns.map .int)] = some (.ret (.bool true), H') := by
  let cs := ns.take 14
  have hl : cs.length ≤ 14 := by simp [cs]; omega
  have p1 : rn 9 34 [.obj 1, .int 6] [.flist (ns.map .int), purseO 2 0, .list (cs.map .int), .list brd] = some (.ret (.int (pullv cs 0 6)), [.flist (ns.map .int), purseO 2 1, .list (cs.map .int), .list brd]) := r_pull (d := 8) (k := 0) (H := [.flist (ns.map .int), purseO 2 0, .list (cs.map .int), .list brd]) rfl rfl (by decide) hl (by decide) (by decide)
  refine byC fun nG => ?_
  obtain ⟨v0, v1⟩ := pullv_range (cs := cs) (k := 0) (many := 6) (by decide)
  generalize pullv cs 0 6 = v at p1 v0 v1
  have hf : fits ns.length = true := Nat.ble_eq_true_of_le (by omega)
  have e0 : evS (cx 9) (.assign 1 (.sdict [(.cstr kCells), (.slice0 (.loc 0) (.cint 14)), (.cstr kSpent), (.cint 0)])) ([some (.obj 0)] ++ List.replicate 21 none) [.flist (ns.map .int)] = some (.next, los none none none none none none none, [.flist (ns.map .int), purseO 2 0, .list (cs.map .int)]) := by
    have hs : sliceV (.obj 0) 0 (.int 14) [.flist (ns.map .int), .sdict []] = some (.obj 2, [.flist (ns.map .int), .sdict [], .list (cs.map .int)]) := by
      show grd (fits (ns.map V.int).length) (some (V.obj 2, [O.flist (ns.map .int), .sdict []] ++ [O.list (((ns.map V.int).take 14).drop 0)])) = _
      rw [List.length_map, hf, grd_true, List.drop_zero, ← List.map_take]; rfl
    show ((evP (cx 9) ([some (.obj 0)] ++ List.replicate 21 none) [(.cstr kCells), (.slice0 (.loc 0) (.cint 14)), (.cstr kSpent), (.cint 0)] [] [.flist (ns.map .int), .sdict []]).bind _).bind _ = _
    have hp : evP (cx 9) ([some (.obj 0)] ++ List.replicate 21 none) [(.cstr kCells), (.slice0 (.loc 0) (.cint 14)), (.cstr kSpent), (.cint 0)] [] [.flist (ns.map .int), .sdict []] = some ([(kCells, .obj 2), (kSpent, .int 0)], [.flist (ns.map .int), .sdict [], .list (cs.map .int)]) := by
      show ((sliceV (.obj 0) 0 (.int 14) [.flist (ns.map .int), .sdict []]).bind _) = _
      rw [hs]; rfl
    rw [hp]
    rfl
  have hu : ∀ {f r : Nat}, idxV (.obj 3) (.int v) [.flist (ns.map .int), purseO 2 1, .list (cs.map .int), .list brd] = some (.tup [.int f, .int r]) →
      evS (cx 9) (.assignTup [2, 3] (.idx (.call 33 []) (.call 34 [(.loc 1), (.cint 6)]))) (los none none none none none none none) [.flist (ns.map .int), purseO 2 0, .list (cs.map .int)] = some (.next, los (some (.int f)) (some (.int r)) none none none none none, [.flist (ns.map .int), purseO 2 1, .list (cs.map .int), .list brd]) := fun {f r} h => by
    have c1 : evE (cx 9) (los none none none none none none none) (.call 33 []) [.flist (ns.map .int), purseO 2 0, .list (cs.map .int)] = some (.obj 3, [.flist (ns.map .int), purseO 2 0, .list (cs.map .int), .list brd]) := rfl
    have c2 : evE (cx 9) (los none none none none none none none) (.call 34 [(.loc 1), (.cint 6)]) [.flist (ns.map .int), purseO 2 0, .list (cs.map .int), .list brd] = some (.int v, [.flist (ns.map .int), purseO 2 1, .list (cs.map .int), .list brd]) := eCall (eCons rfl (eCons rfl eNil)) p1
    exact sAssignT (eIdx c1 c2 h) rfl
  have fin : ∀ {f r : Nat}, (∀ a, Ready f r a) → idxV (.obj 3) (.int v) [.flist (ns.map .int), purseO 2 1, .list (cs.map .int), .list brd] = some (.tup [.int f, .int r]) → ∃ H', run fnTab glTab initTab 10 42 [.obj 0] [.flist (ns.map .int)] = some (.ret (.bool true), H') := fun {f r} R h => by
    refine byC fun nG => ?_
    obtain ⟨σ', H', e⟩ := of_ready R (ns.map .int) cs hl
    refine nG ?_
    refine ⟨H', ?_⟩
    show rn (9 + 1) 42 [.obj 0] [.flist (ns.map .int)] = _
    rw [run_succ]
    show endOf (evB (cx 9) (.assign 1 (.sdict [(.cstr kCells), (.slice0 (.loc 0) (.cint 14)), (.cstr kSpent), (.cint 0)]) :: .assignTup [2, 3] (.idx (.call 33 []) (.call 34 [(.loc 1), (.cint 6)])) :: b_law.drop 2) ([some (.obj 0)] ++ List.replicate 21 none) [.flist (ns.map .int)]) = _
    rw [evB_next e0, evB_next (hu h), e]
    rfl
  have hv : v = 0 ∨ v = 1 ∨ v = 2 ∨ v = 3 ∨ v = 4 ∨ v = 5 := by omega
  rcases hv with rfl | rfl | rfl | rfl | rfl | rfl
  · refine nG ?_
    exact fin (f := 7) (r := 4) (fun a => by cases a; exact ready74f; exact ready74t) rfl
  · refine nG ?_
    exact fin (f := 8) (r := 8) (fun a => by cases a; exact ready88f; exact ready88t) rfl
  · refine nG ?_
    exact fin (f := 8) (r := 3) (fun a => by cases a; exact ready83f; exact ready83t) rfl
  · refine nG ?_
    exact fin (f := 5) (r := 5) (fun a => by cases a; exact ready55f; exact ready55t) rfl
  · refine nG ?_
    exact fin (f := 7) (r := 8) (fun a => by cases a; exact ready78f; exact ready78t) rfl
  · refine nG ?_
    exact fin (f := 4) (r := 6) (fun a => by cases a; exact ready46f; exact ready46t) rfl
end Mine
end
/-! HL -/
section
set_option linter.all false
open PySem PySem.W PyProof.Rows
set_option maxRecDepth 100000
set_option maxHeartbeats 40000000
noncomputable def Mine.lawF.tw9715576839987001255 : Unit := ()
noncomputable def Mine.lawF.tw5612073124404342763 : Unit := ()
noncomputable def Mine.lawF.tw1088427695097236831 : Unit := ()
noncomputable def Mine.lawF.tw8680581695604854346 : Unit := ()
noncomputable def Mine.lawF.tw8933450486405584128 : Unit := ()
noncomputable def Mine.lawF.tw10686597116374798135 : Unit := ()
noncomputable def Mine.lawF.tw3372198103956681624 : Unit := ()
noncomputable def Mine.lawF.tw14044395913683205940 : Unit := ()
noncomputable def Mine.lawF.tw2161739457990174221 : Unit := ()
noncomputable def Mine.lawF.tw7289057939360299398 : Unit := ()
noncomputable def Mine.lawF.tw7104000941848594876 : Unit := ()
noncomputable def Mine.lawF.tw8708391994999484081 : Unit := ()
noncomputable def Mine.lawF.tw2539891410591727822 : Unit := ()
noncomputable def Mine.lawF.tw7196588960490169032 : Unit := ()
noncomputable def Mine.lawF.tw13123419521288960303 : Unit := ()
noncomputable def Mine.lawF.tw15691063475549870083 : Unit := ()
noncomputable def Mine.lawF.tw10322393680938487512 : Unit := ()
noncomputable def Mine.lawF.tw2303693435159520252 : Unit := ()
noncomputable def Mine.lawF.tw7877337785740480330 : Unit := ()
noncomputable def Mine.lawF.tw17292216854725120081 : Unit := ()
noncomputable def Mine.lawF.tw12619227563352672659 : Unit := ()
noncomputable def Mine.lawF.tw4245353607405354887 : Unit := ()
noncomputable def Mine.lawF.tw1042493493058474138 : Unit := ()
noncomputable def Mine.lawF.tw3538092183091046568 : Unit := ()
noncomputable def Mine.lawF.tw6154411890466514055 : Unit := ()
noncomputable def Mine.lawF.tw6339483619955419253 : Unit := ()
noncomputable def Mine.lawF.tw14542684037464848409 : Unit := ()
noncomputable def Mine.lawF.tw9720697106060155818 : Unit := ()
noncomputable def Mine.lawF.tw14050313942489826297 : Unit := ()
noncomputable def Mine.lawF.tw442879225110266651 : Unit := ()
noncomputable def Mine.lawF.tw3977232585199534935 : Unit := ()
noncomputable def Mine.lawF.tw6039440210228768690 : Unit := ()
noncomputable def Mine.lawF.tw13911700725037740702 : Unit := ()
noncomputable def Mine.lawF.tw7514413129488072895 : Unit := ()
noncomputable def Mine.lawF.tw3257618666634569878 : Unit := ()
noncomputable def Mine.lawF.tw11295961047539914371 : Unit := ()
noncomputable def Mine.lawF.tw7115332440476886189 : Unit := ()
noncomputable def Mine.lawF.tw15322674085824494802 : Unit := ()
noncomputable def Mine.lawF.tw11787331884957490471 : Unit := ()
noncomputable def Mine.lawF.tw9589884501767682183 : Unit := ()
noncomputable def Mine.lawF.tw11459415897844902267 : Unit := ()
noncomputable def Mine.lawF.tw4856702698796632229 : Unit := ()
noncomputable def Mine.lawF.tw9574939539208443235 : Unit := ()
noncomputable def Mine.lawF.tw4107849962255551150 : Unit := ()
noncomputable def Mine.lawF.tw1366069302052372464 : Unit := ()
noncomputable def Mine.lawF.tw2499432166565111201 : Unit := ()
noncomputable def Mine.lawF.tw2373744680185131276 : Unit := ()
noncomputable def Mine.lawF.tw12529212085835151605 : Unit := ()
noncomputable def Mine.lawF.tw10718591086402272762 : Unit := ()
noncomputable def Mine.lawF.tw14884652985812256846 : Unit := ()
noncomputable def Mine.lawF.tw1489415909224807239 : Unit := ()
noncomputable def Mine.lawF.tw237483861766348871 : Unit := ()
noncomputable def Mine.lawF.tw3983798214652818941 : Unit := ()
noncomputable def Mine.lawF.tw8691865501151418859 : Unit := ()
noncomputable def Mine.lawF.tw11290161480073132349 : Unit := ()
noncomputable def Mine.lawF.tw15619537145475336317 : Unit := ()
noncomputable def Mine.lawF.tw10465115470018039844 : Unit := ()
noncomputable def Mine.lawF.tw14875211754210772438 : Unit := ()
noncomputable def Mine.lawF.tw13204387474605353660 : Unit := ()
noncomputable def Mine.lawF.tw11461207675677615880 : Unit := ()
noncomputable def Mine.lawF.tw8585819117520113618 : Unit := ()
noncomputable def Mine.lawF.tw6168112634421318019 : Unit := ()
noncomputable def Mine.lawF.tw6565355871321797190 : Unit := ()
noncomputable def Mine.lawF.tw9871342484292943476 : Unit := ()
noncomputable def Mine.lawF.tw5723203825104159191 : Unit := ()
noncomputable def Mine.lawF.tw7327904811974435764 : Unit := ()
noncomputable def Mine.lawF.tw7997911793112801242 : Unit := ()
noncomputable def Mine.lawF.tw9294037514464284292 : Unit := ()
noncomputable def Mine.lawF.tw15639711485240410644 : Unit := ()
noncomputable def Mine.lawF.tw10496980814505092792 : Unit := ()
noncomputable def Mine.lawF.tw6704855415082286643 : Unit := ()
noncomputable def Mine.lawF.tw8098547212428495353 : Unit := ()
noncomputable def Mine.lawF.tw12787399520584445112 : Unit := ()
noncomputable def Mine.lawF.tw9505760900894565165 : Unit := ()
noncomputable def Mine.lawF.tw3587465572654361509 : Unit := ()
noncomputable def Mine.lawF.tw6922509532692460695 : Unit := ()
noncomputable def Mine.lawF.tw7970960054184409100 : Unit := ()
noncomputable def Mine.lawF.tw8404937393156061731 : Unit := ()
noncomputable def Mine.lawF.tw5122445231289636617 : Unit := ()
noncomputable def Mine.lawF.tw13701067631559137321 : Unit := ()
noncomputable def Mine.lawF.tw17445002722390664919 : Unit := ()
noncomputable def Mine.lawF.tw17411469143806493323 : Unit := ()
noncomputable def Mine.lawF.tw619156214362845109 : Unit := ()
noncomputable def Mine.lawF.tw8443634440857190812 : Unit := ()
noncomputable def Mine.lawF.tw6491733057038746757 : Unit := ()
noncomputable def Mine.lawF.tw4226837016867344975 : Unit := ()
noncomputable def Mine.lawF.tw1116376029909544499 : Unit := ()
noncomputable def Mine.lawF.tw2373972194315562118 : Unit := ()
noncomputable def Mine.lawF.tw911612400203981867 : Unit := ()
noncomputable def Mine.lawF.tw8008627898296982269 : Unit := ()
noncomputable def Mine.lawF.tw8659415478411658102 : Unit := ()
noncomputable def Mine.lawF.tw13000639487718909860 : Unit := ()
noncomputable def Mine.lawF.tw9831539798860847620 : Unit := ()
noncomputable def Mine.lawF.tw6282747523270701253 : Unit := ()
noncomputable def Mine.lawF.tw3682819012067864116 : Unit := ()
noncomputable def Mine.lawF.tw6842632646938455067 : Unit := ()
noncomputable def Mine.lawF.tw3031879219773371530 : Unit := ()
noncomputable def Mine.lawF.tw4866909675183544216 : Unit := ()
noncomputable def Mine.lawF.tw6554391411182189886 : Unit := ()
noncomputable def Mine.lawF.tw17344813746871027559 : Unit := ()
noncomputable def Mine.lawF.tw11948818889019497487 : Unit := ()
noncomputable def Mine.lawF.tw17043701627544713987 : Unit := ()
noncomputable def Mine.lawF.tw10896016365129247855 : Unit := ()
noncomputable def Mine.lawF.tw10022597732025944169 : Unit := ()
noncomputable def Mine.lawF.tw5053998280404931807 : Unit := ()
noncomputable def Mine.lawF.tw15792203660225097872 : Unit := ()
noncomputable def Mine.lawF.tw10063400667905621513 : Unit := ()
noncomputable def Mine.lawF.tw18427672802172494198 : Unit := ()
noncomputable def Mine.lawF.tw14362396306206133593 : Unit := ()
noncomputable def Mine.lawF.tw4374788589545434620 : Unit := ()
noncomputable def Mine.lawF.tw2747772404345304961 : Unit := ()
noncomputable def Mine.lawF.tw12424077404406288405 : Unit := ()
noncomputable def Mine.lawF.tw8690768084472934570 : Unit := ()
noncomputable def Mine.lawF.tw745698697383420572 : Unit := ()
noncomputable def Mine.lawF.tw1943395614780482677 : Unit := ()
noncomputable def Mine.lawF.tw2671456379738222887 : Unit := ()
noncomputable def Mine.lawF.tw914910229220747719 : Unit := ()
noncomputable def Mine.lawF.tw7527415021762039509 : Unit := ()
noncomputable def Mine.lawF.tw2708255023280253090 : Unit := ()
noncomputable def Mine.lawF.tw10656556988184835952 : Unit := ()
noncomputable def Mine.lawF.tw12746289422896128488 : Unit := ()
noncomputable def Mine.lawF.tw6295906691674513292 : Unit := ()
noncomputable def Mine.lawF.tw5381783371021051815 : Unit := ()
noncomputable def Mine.lawF.tw15717603175150887604 : Unit := ()
noncomputable def Mine.lawF.tw15728633331655698494 : Unit := ()
noncomputable def Mine.lawF.tw15705602654895606379 : Unit := ()
noncomputable def Mine.lawF.tw5371820367463636893 : Unit := ()
noncomputable def Mine.lawF.tw7584138896682623009 : Unit := ()
noncomputable def Mine.lawF.tw2732882209593158179 : Unit := ()
noncomputable def Mine.lawF.tw10350206429960581652 : Unit := ()
noncomputable def Mine.lawF.tw6274156903913313031 : Unit := ()
noncomputable def Mine.lawF.tw2779836195586486648 : Unit := ()
noncomputable def Mine.lawF.tw12847026901630424219 : Unit := ()
noncomputable def Mine.lawF.tw703165133442808528 : Unit := ()
noncomputable def Mine.lawF.tw12842175269661062918 : Unit := ()
noncomputable def Mine.lawF.tw1302389845966481908 : Unit := ()
noncomputable def Mine.lawF.tw11223244237493248416 : Unit := ()
noncomputable def Mine.lawF.tw1247646680270783262 : Unit := ()
noncomputable def Mine.lawF.tw14235940952037593502 : Unit := ()
noncomputable def Mine.lawF.tw9742169461548638562 : Unit := ()
noncomputable def Mine.lawF.tw613748458098022371 : Unit := ()
noncomputable def Mine.lawF.tw6965665003868401477 : Unit := ()
noncomputable def Mine.lawF.tw12777903316847131004 : Unit := ()
noncomputable def Mine.lawF.tw8602983894216729589 : Unit := ()
noncomputable def Mine.lawF.tw14781053784962792287 : Unit := ()
noncomputable def Mine.lawF.tw15727022447429039076 : Unit := ()
noncomputable def Mine.lawF.tw9739120122319603036 : Unit := ()
noncomputable def Mine.lawF.tw13855113179037410992 : Unit := ()
noncomputable def Mine.lawF.tw11526942646672542866 : Unit := ()
noncomputable def Mine.lawF.tw8782567097207482553 : Unit := ()
noncomputable def Mine.lawF.tw14912932929809511422 : Unit := ()
noncomputable def Mine.lawF.tw10954872508320571278 : Unit := ()
noncomputable def Mine.lawF.tw15264016258756123682 : Unit := ()
noncomputable def Mine.lawF.tw3002340282966593912 : Unit := ()
noncomputable def Mine.lawF.tw8551163066446878771 : Unit := ()
noncomputable def Mine.lawF.tw11821834781436586316 : Unit := ()
noncomputable def Mine.lawF.tw17941021986930731067 : Unit := ()
noncomputable def Mine.lawF.tw1774815538149261202 : Unit := ()
noncomputable def Mine.lawF.tw6564180599180049602 : Unit := ()
noncomputable def Mine.lawF.tw9589174805009155475 : Unit := ()
noncomputable def Mine.lawF.tw7905234264633903697 : Unit := ()
noncomputable def Mine.lawF.tw18419070452680710895 : Unit := ()
noncomputable def Mine.lawF.tw13233003537017825274 : Unit := ()
noncomputable def Mine.lawF.tw12044963933965797713 : Unit := ()
noncomputable def Mine.lawF.tw8403137443146579118 : Unit := ()
noncomputable def Mine.lawF.tw15232288620367105957 : Unit := ()
noncomputable def Mine.lawF.tw9506357568906174859 : Unit := ()
noncomputable def Mine.lawF.tw1911631688971245924 : Unit := ()
noncomputable def Mine.lawF.tw14367741969534152818 : Unit := ()
noncomputable def Mine.lawF.tw5458701266247296494 : Unit := ()
noncomputable def Mine.lawF.tw278879421561404436 : Unit := ()
noncomputable def Mine.lawF.tw6313068624809052520 : Unit := ()
noncomputable def Mine.lawF.tw16816250144891341522 : Unit := ()
noncomputable def Mine.lawF.tw6731385959826684884 : Unit := ()
noncomputable def Mine.lawF.tw1820642164221690353 : Unit := ()
noncomputable def Mine.lawF.tw16240753872294398598 : Unit := ()
noncomputable def Mine.lawF.tw8342307366218000130 : Unit := ()
noncomputable def Mine.lawF.tw6179380265243502317 : Unit := ()
noncomputable def Mine.lawF.tw488565670025024953 : Unit := ()
noncomputable def Mine.lawF.tw2461281413970933455 : Unit := ()
noncomputable def Mine.lawF.tw5311333357083195876 : Unit := ()
noncomputable def Mine.lawF.tw15068486830625865436 : Unit := ()
noncomputable def Mine.lawF.tw6036403109715028449 : Unit := ()
noncomputable def Mine.lawF.tw12263318736631411025 : Unit := ()
noncomputable def Mine.lawF.tw7465602818161880042 : Unit := ()
noncomputable def Mine.lawF.tw9590202487037623495 : Unit := ()
noncomputable def Mine.lawF.tw13467661791494932640 : Unit := ()
noncomputable def Mine.lawF.tw11475147024994265960 : Unit := ()
noncomputable def Mine.lawF.tw10241796975528524711 : Unit := ()
noncomputable def Mine.lawF.tw1798156793872338351 : Unit := ()
noncomputable def Mine.lawF.tw6398274565418239987 : Unit := ()
noncomputable def Mine.lawF.tw17147390287081579981 : Unit := ()
noncomputable def Mine.lawF.tw7884946314335911180 : Unit := ()
noncomputable def Mine.lawF.tw3267676833838451151 : Unit := ()
noncomputable def Mine.lawF.tw17560581137820015401 : Unit := ()
noncomputable def Mine.lawF.tw14980669978049258577 : Unit := ()
noncomputable def Mine.lawF.tw20170585470360579 : Unit := ()
noncomputable def Mine.lawF.tw5548316263006958651 : Unit := ()
noncomputable def Mine.lawF.tw8226142868526129989 : Unit := ()
noncomputable def Mine.lawF.tw9989656025486487823 : Unit := ()
noncomputable def Mine.lawF.tw8427895289299704707 : Unit := ()
noncomputable def Mine.lawF.tw12741452800578121631 : Unit := ()
noncomputable def Mine.lawF.tw11377157092646866558 : Unit := ()
noncomputable def Mine.lawF.tw14395055101362836357 : Unit := ()
noncomputable def Mine.lawF.tw2919080236802734801 : Unit := ()
noncomputable def Mine.lawF.tw2393041453453758093 : Unit := ()
noncomputable def Mine.lawF.tw14110331890795026378 : Unit := ()
noncomputable def Mine.lawF.tw16606992514219994839 : Unit := ()
noncomputable def Mine.lawF.tw10343337427129979089 : Unit := ()
noncomputable def Mine.lawF.tw10045107536634691378 : Unit := ()
noncomputable def Mine.lawF.tw8609877431727356704 : Unit := ()
noncomputable def Mine.lawF.tw6769404796519930789 : Unit := ()
noncomputable def Mine.lawF.tw5284902479919911273 : Unit := ()
noncomputable def Mine.lawF.tw4954592692852891540 : Unit := ()
noncomputable def Mine.lawF.tw14651466791139455318 : Unit := ()
noncomputable def Mine.lawF.tw12414139907194454647 : Unit := ()
noncomputable def Mine.lawF.tw4799166535332879059 : Unit := ()
noncomputable def Mine.lawF.tw10563559494536168879 : Unit := ()
noncomputable def Mine.lawF.tw15282654479523385260 : Unit := ()
noncomputable def Mine.lawF.tw8029860898806519546 : Unit := ()
noncomputable def Mine.lawF.tw10817992554069338837 : Unit := ()
noncomputable def Mine.lawF.tw1997422338800611566 : Unit := ()
noncomputable def Mine.lawF.tw1305272217455353329 : Unit := ()
noncomputable def Mine.lawF.tw2275905934674929590 : Unit := ()
noncomputable def Mine.lawF.tw13377374374651321703 : Unit := ()
noncomputable def Mine.lawF.tw15350561471243907653 : Unit := ()
noncomputable def Mine.lawF.tw10928560602897197952 : Unit := ()
noncomputable def Mine.lawF.tw10971833565435747578 : Unit := ()
noncomputable def Mine.lawF.tw15075227442769172413 : Unit := ()
noncomputable def Mine.lawF.tw10201265671666135781 : Unit := ()
noncomputable def Mine.lawF.tw5873969640889879357 : Unit := ()
noncomputable def Mine.lawF.tw622167861526266480 : Unit := ()
noncomputable def Mine.lawF.tw17687392627821737435 : Unit := ()
noncomputable def Mine.lawF.tw4634178850567528114 : Unit := ()
noncomputable def Mine.lawF.tw4939286593651248380 : Unit := ()
noncomputable def Mine.lawF.tw15521839748701495222 : Unit := ()
noncomputable def Mine.lawF.tw13723531776787468597 : Unit := ()
noncomputable def Mine.lawF.tw6643104151276312235 : Unit := ()
noncomputable def Mine.lawF.tw5153324854010522752 : Unit := ()
noncomputable def Mine.lawF.tw9577491980078430150 : Unit := ()
noncomputable def Mine.lawF.tw2481944200168134807 : Unit := ()
noncomputable def Mine.lawF.tw6854668155174469383 : Unit := ()
noncomputable def Mine.lawF.tw17424554350310977465 : Unit := ()
noncomputable def Mine.lawF.tw16228645015877005897 : Unit := ()
noncomputable def Mine.lawF.tw3346185105811831394 : Unit := ()
noncomputable def Mine.lawF.tw140507012754440832 : Unit := ()
noncomputable def Mine.lawF.tw8161645235409928715 : Unit := ()
noncomputable def Mine.lawF.tw2761159434468977297 : Unit := ()
noncomputable def Mine.lawF.tw8444877077757847135 : Unit := ()
noncomputable def Mine.lawF.tw4075303491330179333 : Unit := ()
noncomputable def Mine.lawF.tw9593907164828037865 : Unit := ()
noncomputable def Mine.lawF.tw8288112125140787825 : Unit := ()
noncomputable def Mine.lawF.tw1174931352050361404 : Unit := ()
noncomputable def Mine.lawF.tw4999947962524965726 : Unit := ()
noncomputable def Mine.lawF.tw18209200664295447433 : Unit := ()
noncomputable def Mine.lawF.tw6858688183121884244 : Unit := ()
noncomputable def Mine.lawF.tw11254155950607473229 : Unit := ()
noncomputable def Mine.lawF.tw17965034123298823699 : Unit := ()
noncomputable def Mine.lawF.tw8680501375833943646 : Unit := ()
noncomputable def Mine.lawF.tw18135566126050163080 : Unit := ()
noncomputable def Mine.lawF.tw12983668714836399117 : Unit := ()
noncomputable def Mine.lawF.tw14500450885535026877 : Unit := ()
noncomputable def Mine.lawF.tw10054082792406331728 : Unit := ()
noncomputable def Mine.lawF.tw12132513702024907073 : Unit := ()
noncomputable def Mine.lawF.tw13281308517963772212 : Unit := ()
noncomputable def Mine.lawF.tw6844456529703729992 : Unit := ()
noncomputable def Mine.lawF.tw12857422113577574261 : Unit := ()
noncomputable def Mine.lawF.tw14005347758753511516 : Unit := ()
noncomputable def Mine.lawF.tw15122011386684460731 : Unit := ()
noncomputable def Mine.lawF.tw2002328545747328062 : Unit := ()
noncomputable def Mine.lawF.tw17967211052291034507 : Unit := ()
noncomputable def Mine.lawF.tw4074154424612866890 : Unit := ()
noncomputable def Mine.lawF.tw10012718999071538580 : Unit := ()
noncomputable def Mine.lawF.tw10277435097030419790 : Unit := ()
noncomputable def Mine.lawF.tw8953613744770875332 : Unit := ()
noncomputable def Mine.lawF.tw380587453162672440 : Unit := ()
noncomputable def Mine.lawF.tw3792054575793830321 : Unit := ()
noncomputable def Mine.lawF.tw7551920469131869539 : Unit := ()
noncomputable def Mine.lawF.tw1200768619792518787 : Unit := ()
noncomputable def Mine.lawF.tw5598109013643195058 : Unit := ()
noncomputable def Mine.lawF.tw666825325554575129 : Unit := ()
noncomputable def Mine.lawF.tw18019624447030736000 : Unit := ()
noncomputable def Mine.lawF.tw372745606984752739 : Unit := ()
noncomputable def Mine.lawF.tw746198474486385933 : Unit := ()
noncomputable def Mine.lawF.tw14933030784465948431 : Unit := ()
noncomputable def Mine.lawF.tw5963988231510637549 : Unit := ()
noncomputable def Mine.lawF.tw5049596803034276780 : Unit := ()
noncomputable def Mine.lawF.tw14070660260724653225 : Unit := ()
noncomputable def Mine.lawF.tw12070150171634082682 : Unit := ()
noncomputable def Mine.lawF.tw4020479497359483217 : Unit := ()
noncomputable def Mine.lawF.tw1448273828720359091 : Unit := ()
noncomputable def Mine.lawF.tw773288238805820361 : Unit := ()
noncomputable def Mine.lawF.tw15040522869795793341 : Unit := ()
noncomputable def Mine.lawF.tw2062313160483784093 : Unit := ()
noncomputable def Mine.lawF.tw5220825007674078739 : Unit := ()
noncomputable def Mine.lawF.tw9188738120253700569 : Unit := ()
noncomputable def Mine.lawF.tw8115236539040686650 : Unit := ()
noncomputable def Mine.lawF.tw13303207514559024030 : Unit := ()
noncomputable def Mine.lawF.tw17435534997765779268 : Unit := ()
noncomputable def Mine.lawF.tw8690455395149769277 : Unit := ()
noncomputable def Mine.lawF.tw9765402773730533001 : Unit := ()
noncomputable def Mine.lawF.tw13328629818369530481 : Unit := ()
noncomputable def Mine.lawF.tw6396775246570261131 : Unit := ()
noncomputable def Mine.lawF.tw5525823050451722114 : Unit := ()
noncomputable def Mine.lawF.tw14308357648054424174 : Unit := ()
noncomputable def Mine.lawF.tw8385518900351234998 : Unit := ()
noncomputable def Mine.lawF.tw1634985679757437354 : Unit := ()
noncomputable def Mine.lawF.tw12531959596826517042 : Unit := ()
noncomputable def Mine.lawF.tw9084206012975843418 : Unit := ()
noncomputable def Mine.lawF.tw9478814562888254954 : Unit := ()
noncomputable def Mine.lawF.tw17015002962612018305 : Unit := ()
noncomputable def Mine.lawF.tw10335868768473720832 : Unit := ()
noncomputable def Mine.lawF.tw2098537085094787697 : Unit := ()
noncomputable def Mine.lawF.tw3756573583370675838 : Unit := ()
noncomputable def Mine.lawF.tw17802900367501921462 : Unit := ()
noncomputable def Mine.lawF.tw7638675688415646633 : Unit := ()
noncomputable def Mine.lawF.tw7724281025693318824 : Unit := ()
noncomputable def Mine.lawF.tw10311589393366418251 : Unit := ()
noncomputable def Mine.lawF.tw3402872059902692358 : Unit := ()
noncomputable def Mine.lawF.tw1986287325162589166 : Unit := ()
noncomputable def Mine.lawF.tw1996054343130404604 : Unit := ()
noncomputable def Mine.lawF.tw14786567605683080333 : Unit := ()
noncomputable def Mine.lawF.tw14175127125508259998 : Unit := ()
noncomputable def Mine.lawF.tw14495624237884264418 : Unit := ()
noncomputable def Mine.lawF.tw16873522504760455596 : Unit := ()
noncomputable def Mine.lawF.tw15039338627362333334 : Unit := ()
noncomputable def Mine.lawF.tw1967739757272956042 : Unit := ()
noncomputable def Mine.lawF.tw18288260111557182173 : Unit := ()
noncomputable def Mine.lawF.tw9006889925769090563 : Unit := ()
noncomputable def Mine.lawF.tw12064375089279623584 : Unit := ()
noncomputable def Mine.lawF.tw2417756087186357232 : Unit := ()
noncomputable def Mine.lawF.tw4653140378511986439 : Unit := ()
noncomputable def Mine.lawF.tw4816671254735153173 : Unit := ()
noncomputable def Mine.lawF.tw17441399049569506592 : Unit := ()
noncomputable def Mine.lawF.tw11131536225975309796 : Unit := ()
noncomputable def Mine.lawF.tw2503984323172001312 : Unit := ()
noncomputable def Mine.lawF.tw14775389007413705451 : Unit := ()
noncomputable def Mine.lawF.tw2121387360402115289 : Unit := ()
noncomputable def Mine.lawF.tw8046118867104196579 : Unit := ()
noncomputable def Mine.lawF.tw12931246048647272626 : Unit := ()
noncomputable def Mine.lawF.tw9177354316377215333 : Unit := ()
noncomputable def Mine.lawF.tw5679773382308440076 : Unit := ()
noncomputable def Mine.lawF.tw17356019772309043360 : Unit := ()
noncomputable def Mine.lawF.tw9043120458992136158 : Unit := ()
noncomputable def Mine.lawF.tw9801343178012913809 : Unit := ()
noncomputable def Mine.lawF.tw9953927815090895865 : Unit := ()
noncomputable def Mine.lawF.tw8085710101599273708 : Unit := ()
noncomputable def Mine.lawF.tw15297950141496596201 : Unit := ()
noncomputable def Mine.lawF.tw6124303875026356985 : Unit := ()
noncomputable def Mine.lawF.tw11769280248741400288 : Unit := ()
noncomputable def Mine.lawF.tw4303505432034080190 : Unit := ()
noncomputable def Mine.lawF.tw11383991810138407544 : Unit := ()
noncomputable def Mine.lawF.tw17292183981787726011 : Unit := ()
noncomputable def Mine.lawF.tw15020173200871033297 : Unit := ()
noncomputable def Mine.lawF.tw2963190928775571404 : Unit := ()
noncomputable def Mine.lawF.tw16038074427557632703 : Unit := ()
noncomputable def Mine.lawF.tw11907883353451001752 : Unit := ()
noncomputable def Mine.lawF.tw4885661003290063467 : Unit := ()
noncomputable def Mine.lawF.tw17244391682589787627 : Unit := ()
noncomputable def Mine.lawF.tw4931364881698399693 : Unit := ()
noncomputable def Mine.lawF.tw13073047697671598720 : Unit := ()
noncomputable def Mine.lawF.tw4652866955927675428 : Unit := ()
noncomputable def Mine.lawF.tw4691601832314458259 : Unit := ()
noncomputable def Mine.lawF.tw15549864324266061228 : Unit := ()
noncomputable def Mine.lawF.tw13759098381524791638 : Unit := ()
noncomputable def Mine.lawF.tw7359298030198878869 : Unit := ()
noncomputable def Mine.lawF.tw6515630275591460577 : Unit := ()
noncomputable def Mine.lawF.tw2860893406604694052 : Unit := ()
noncomputable def Mine.lawF.tw9610075497516550541 : Unit := ()
noncomputable def Mine.lawF.tw4190835968937471028 : Unit := ()
noncomputable def Mine.lawF.tw15778080018074857211 : Unit := ()
noncomputable def Mine.lawF.tw18234389314871293746 : Unit := ()
noncomputable def Mine.lawF.tw12371176765138378676 : Unit := ()
noncomputable def Mine.lawF.tw14722235246149774776 : Unit := ()
noncomputable def Mine.lawF.tw4374635038894372115 : Unit := ()
noncomputable def Mine.lawF.tw5854919026006585050 : Unit := ()
noncomputable def Mine.lawF.tw9974130311723971551 : Unit := ()
noncomputable def Mine.lawF.tw9525444899809031729 : Unit := ()
noncomputable def Mine.lawF.tw5177765274452641842 : Unit := ()
noncomputable def Mine.lawF.tw17775155154468649493 : Unit := ()
noncomputable def Mine.lawF.tw5880499834116146191 : Unit := ()
noncomputable def Mine.lawF.tw2659704284361309713 : Unit := ()
noncomputable def Mine.lawF.tw9032846201413083260 : Unit := ()
noncomputable def Mine.lawF.tw12067403524182360468 : Unit := ()
noncomputable def Mine.lawF.tw2198808163380420100 : Unit := ()
noncomputable def Mine.lawF.tw15520678069430250592 : Unit := ()
noncomputable def Mine.lawF.tw15068399674888968128 : Unit := ()
noncomputable def Mine.lawF.tw8859454530762387686 : Unit := ()
noncomputable def Mine.lawF.tw17406501134418506151 : Unit := ()
noncomputable def Mine.lawF.tw463710048031914404 : Unit := ()
noncomputable def Mine.lawF.tw6867590045065084041 : Unit := ()
noncomputable def Mine.lawF.tw15195220240913944103 : Unit := ()
noncomputable def Mine.lawF.tw2054327854788837836 : Unit := ()
noncomputable def Mine.lawF.tw1252058351718300390 : Unit := ()
noncomputable def Mine.lawF.tw4056593925779566299 : Unit := ()
noncomputable def Mine.lawF.tw11318506812213201337 : Unit := ()
noncomputable def Mine.lawF.tw162163882392929883 : Unit := ()
noncomputable def Mine.lawF.tw9567436123038207017 : Unit := ()
noncomputable def Mine.lawF.tw9854012768490385136 : Unit := ()
noncomputable def Mine.lawF.tw9105197423896034840 : Unit := ()
noncomputable def Mine.lawF.tw10072703173496486978 : Unit := ()
noncomputable def Mine.lawF.tw10417262192313701759 : Unit := ()
noncomputable def Mine.lawF.tw5417061710058134100 : Unit := ()
noncomputable def Mine.lawF.tw2671141692328823855 : Unit := ()
theorem Mine.lawF : PySem.Challenge.rw_pf0101_01.Holds := by
  w_on; o_law; k_head; (case hw => w_witness2)
  intro w s₀ s₁ mg mb Gr Y a o pm cd doc dV kV hget hdata hcode hdfl hmg hgens args vals as hpre hlay hread hwell hmods
  have F : Mine.KF (Mine.lawF.heap_1_39 w.params) := by
    constructor
    case told => exact ⟨by kernel_rfl, by iterate 14 apply Exists.intro
                                          exact ⟨by with_unfolding_all rfl, by kernel_rfl⟩⟩
    case bi => intro b; cases b <;> kernel_rfl
    case exc => iterate 15 apply Exists.intro
                with_unfolding_all rfl
    case ini => exact ⟨by kernel_rfl, by kernel_rfl⟩
    case iB => exact ⟨by kernel_rfl, by iterate 11 apply Exists.intro
                                        exact ⟨by with_unfolding_all rfl, by kernel_rfl, .inl ⟨_, _, rfl⟩⟩⟩
    case iC => exact ⟨by kernel_rfl, by iterate 11 apply Exists.intro
                                        exact ⟨by with_unfolding_all rfl, by kernel_rfl, .inr rfl⟩⟩
    all_goals kernel_rfl
  exact Mine.law_core (D := 10) (by decide) Mine.plain F (kIn_of Y) Gr.T.g Gr.T.b Gr.T.nolimit Gr.T.builtins hmg hgens hpre hread
end
theorem PySem.Challenge.cw_pf0101_01_holds : PySem.Challenge.rw_pf0101_01.Holds :=
  Mine.lawF
