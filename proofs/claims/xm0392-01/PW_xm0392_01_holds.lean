import PyProof.Rows.All
import Wide.All
import OpenK.AllK
import Wide.FinOn
import PySem.Challenge.RW_xm0392_01
set_option Elab.async false
set_option maxRecDepth 100000
set_option linter.unusedVariables false
set_option linter.unusedSimpArgs false
namespace Mine
noncomputable def Z.isNeg (x : Int) : Bool := match x with
  | .ofNat _ => false
  | .negSucc _ => true
noncomputable def Z.ltB (a b : Int) : Bool := Z.isNeg (Int.sub a b)
noncomputable def Z.leB (a b : Int) : Bool := not (Z.isNeg (Int.sub b a))
noncomputable def Z.eqB (a b : Int) : Bool := match Int.sub a b with
  | .ofNat n => Nat.beq n 0
  | .negSucc _ => false
theorem Z.isNeg_iff (x : Int) : Z.isNeg x = true ↔ x < 0 := by
  cases x with
  | ofNat n => exact ⟨fun h => (by cases h), fun h => absurd h (Int.not_lt.mpr (Int.natCast_nonneg n))⟩
  | negSucc n => exact ⟨fun _ => by omega, fun _ => rfl⟩
theorem Z.ltB_iff (a b : Int) : Z.ltB a b = true ↔ a < b := by
  unfold Z.ltB
  rw [Z.isNeg_iff]
  show a - b < 0 ↔ _
  omega
theorem Z.leB_iff (a b : Int) : Z.leB a b = true ↔ a ≤ b := by
  unfold Z.leB
  rw [Bool.not_eq_true', ← Bool.not_eq_true, Z.isNeg_iff]
  show ¬ b - a < 0 ↔ _
  omega
theorem Z.eqB_iff (a b : Int) : Z.eqB a b = true ↔ a = b := by
  unfold Z.eqB
  split
  · rename_i n h
    have h' : a - b = (n : Int) := h
    constructor
    · intro e
      have := Nat.eq_of_beq_eq_true e
      omega
    · intro e
      have : n = 0 := by omega
      subst this; rfl
  · rename_i n h
    have h' : a - b = Int.negSucc n := h
    constructor
    · intro e; cases e
    · intro e; exfalso; omega
theorem BT.beq_eq (a b : Nat) : Nat.beq a b = decide (a = b) := by
  cases h : Nat.beq a b with
  | true => rw [decide_eq_true (Nat.eq_of_beq_eq_true h)]
  | false => rw [decide_eq_false (Nat.ne_of_beq_eq_false h)]

inductive V where
  | int (i : Int) | bool (b : Bool) | none | ref (n : Nat) | fn (k : Nat) | unb
inductive O where
  | list (xs : List V) | tup (xs : List V)
inductive T where
  | nil | node (v : Option O) (l r : T)
inductive BOp where
  | add | sub | mul | fdiv | mod | shl | shr | band | bor
inductive COp where
  | lt | le | gt | ge | eq | ne

noncomputable def T.get (t : T) : Nat → Option O := @T.rec (fun _ => Nat → Option O) (fun _ => Option.none)
  (fun v _ _ l r i => @Bool.rec (fun _ => Option O) (@Bool.rec (fun _ => Option O) (r (Nat.sub (Nat.div i 2) 1)) (l (Nat.div i 2)) (Nat.beq (Nat.mod i 2) 1)) v (Nat.beq i 0)) t
noncomputable def T.put (n : Nat) : T → Nat → O → T := @Nat.rec (fun _ => T → Nat → O → T) (fun t _ _ => t)
  (fun _ ih t i o => @T.rec (fun _ => T)
    (@Bool.rec (fun _ => T) (@Bool.rec (fun _ => T) (.node Option.none .nil (ih .nil (Nat.sub (Nat.div i 2) 1) o)) (.node Option.none (ih .nil (Nat.div i 2) o) .nil) (Nat.beq (Nat.mod i 2) 1)) (.node (some o) .nil .nil) (Nat.beq i 0))
    (fun v l r _ _ => @Bool.rec (fun _ => T) (@Bool.rec (fun _ => T) (.node v l (ih r (Nat.sub (Nat.div i 2) 1) o)) (.node v (ih l (Nat.div i 2) o) r) (Nat.beq (Nat.mod i 2) 1)) (.node (some o) l r) (Nat.beq i 0)) t) n

structure H where
  t : T
  n : Nat

inductive Rv where
  | err | ok (v : V) (h : H)
inductive Rl where
  | err | ok (vs : List V) (h : H)
inductive Rs where
  | err | next (env : List V) (h : H) | ret (v : V) (h : H)

noncomputable def Rv.bind (r : Rv) (f : V → H → Rv) : Rv := @Rv.rec (fun _ => Rv) .err f r
noncomputable def Rv.bindL (r : Rv) (f : V → H → Rl) : Rl := @Rv.rec (fun _ => Rl) .err f r
noncomputable def Rv.bindS (r : Rv) (f : V → H → Rs) : Rs := @Rv.rec (fun _ => Rs) .err f r
noncomputable def Rl.bind (r : Rl) (f : List V → H → Rv) : Rv := @Rl.rec (fun _ => Rv) .err f r
noncomputable def Rl.bindL (r : Rl) (f : List V → H → Rl) : Rl := @Rl.rec (fun _ => Rl) .err f r
noncomputable def Rl.bindS (r : Rl) (f : List V → H → Rs) : Rs := @Rl.rec (fun _ => Rs) .err f r
noncomputable def Rs.bind (r : Rs) (f : List V → H → Rs) : Rs := @Rs.rec (fun _ => Rs) .err f (fun v h => .ret v h) r

noncomputable def alloc (o : O) (h : H) : Rv := match Nat.ble h.n 100000 with
  | true => .ok (.ref h.n) ⟨h.t.put 20 h.n o, Nat.succ h.n⟩
  | false => .err
noncomputable def small (x : Int) : Bool := Nat.ble x.natAbs 4611686018427387904
noncomputable def few (x : Nat) : Bool := Nat.ble x 100000

noncomputable def mulI (x y : Int) (h : H) : Rv := match small x, small y with
  | true, true => .ok (.int (Int.mul x y)) h
  | _, _ => .err
noncomputable def fdivI (x y : Int) (h : H) : Rv := match Z.eqB y 0, small y with
  | false, true => .ok (.int (x.fdiv y)) h
  | _, _ => .err
noncomputable def modI (x y : Int) (h : H) : Rv := match Z.eqB y 0 with
  | false => .ok (.int (x.fmod y)) h
  | true => .err
noncomputable def shlI (x y : Int) (h : H) : Rv := match x, y with
  | .ofNat a, .ofNat k => match Nat.ble k 100, Nat.ble a 4611686018427387904 with
    | true, true => .ok (.int (.ofNat (Nat.mul a (Nat.pow 2 k)))) h
    | _, _ => .err
  | _, _ => .err
noncomputable def shrI (x y : Int) (h : H) : Rv := match x, y with
  | .ofNat a, .ofNat k => match Nat.ble k 100 with
    | true => .ok (.int (.ofNat (Nat.div a (Nat.pow 2 k)))) h
    | false => .err
  | _, _ => .err
noncomputable def bandI (x y : Int) (h : H) : Rv := match x, y with
  | .ofNat a, .ofNat b => .ok (.int (.ofNat (Nat.land a b))) h
  | _, _ => .err
noncomputable def borI (x y : Int) (h : H) : Rv := match x, y with
  | .ofNat a, .ofNat b => .ok (.int (.ofNat (Nat.lor a b))) h
  | _, _ => .err
noncomputable def intOp (op : BOp) (x y : Int) (h : H) : Rv := match op with
  | .add => .ok (.int (Int.add x y)) h
  | .sub => .ok (.int (Int.sub x y)) h
  | .mul => mulI x y h
  | .fdiv => fdivI x y h
  | .mod => modI x y h
  | .shl => shlI x y h
  | .shr => shrI x y h
  | .band => bandI x y h
  | .bor => borI x y h
noncomputable def getList (h : H) (i : Nat) : Option (List V) := match h.t.get i with
  | some (.list xs) => some xs
  | _ => Option.none
noncomputable def getSeq (h : H) (i : Nat) : Option (List V) := match h.t.get i with
  | some (.list xs) => some xs
  | some (.tup xs) => some xs
  | Option.none => Option.none
noncomputable def getTup (h : H) (i : Nat) : Option (List V) := match h.t.get i with
  | some (.tup xs) => some xs
  | _ => Option.none
noncomputable def rep : Nat → List V → List V
  | 0, _ => []
  | n + 1, xs => xs ++ rep n xs
noncomputable def catL (i j : Nat) (h : H) : Rv := match getList h i, getList h j with
  | some xs, some ys => match few xs.length, few ys.length with
    | true, true => alloc (.list (xs ++ ys)) h
    | _, _ => .err
  | _, _ => .err
noncomputable def repL (i : Nat) (k : Int) (h : H) : Rv := match getList h i, few k.natAbs with
  | some [x], true => alloc (.list (List.replicate k.toNat x)) h
  | _, _ => .err
noncomputable def binV (op : BOp) (a b : V) (h : H) : Rv := match a, b with
  | .int x, .int y => intOp op x y h
  | .ref i, .ref j => match op with
    | .add => catL i j h
    | _ => .err
  | .ref i, .int k => match op with
    | .mul => repL i k h
    | _ => .err
  | _, _ => .err

noncomputable def ltI (a b : Int) : Bool := Z.ltB a b
noncomputable def leI (a b : Int) : Bool := Z.leB a b
noncomputable def eqI (a b : Int) : Bool := Z.eqB a b


mutual
noncomputable def toD : Nat → T → V → Option PySem.PyData
  | 0, _, _ => Option.none
  | n + 1, t, v => match v with
    | .int i => some (.int i)
    | .bool b => some (.bool b)
    | .ref i => match t.get i with
      | some (.list xs) => match toDs n t xs with
        | some ds => some (.list ds)
        | Option.none => Option.none
      | some (.tup xs) => match toDs n t xs with
        | some ds => some (.tuple ds)
        | Option.none => Option.none
      | Option.none => Option.none
    | _ => Option.none
noncomputable def toDs : Nat → T → List V → Option (List PySem.PyData)
  | 0, _, _ => Option.none
  | _ + 1, _, [] => some []
  | n + 1, t, v :: vs => match toD n t v, toDs n t vs with
    | some d, some ds => some (d :: ds)
    | _, _ => Option.none
end
noncomputable def eqRef (t : T) (i j : Nat) : Option Bool := match toD 20 t (.ref i), toD 20 t (.ref j) with
  | some d, some e => match PySem.SeqAt.shaped d, PySem.SeqAt.shaped e with
    | true, true => some (PySem.PyData.eqv d e)
    | _, _ => Option.none
  | _, _ => Option.none
noncomputable def cmpV (op : COp) (a b : V) (h : H) : Rv := match a, b with
  | .int x, .int y => match op with
    | .lt => .ok (.bool (Z.ltB x y)) h
    | .le => .ok (.bool (Z.leB x y)) h
    | .gt => .ok (.bool (Z.ltB y x)) h
    | .ge => .ok (.bool (Z.leB y x)) h
    | .eq => .ok (.bool (Z.eqB x y)) h
    | .ne => .ok (.bool (not (Z.eqB x y))) h
  | .bool x, .bool y => match op with
    | .eq => .ok (.bool (x == y)) h
    | .ne => .ok (.bool (x != y)) h
    | _ => .err
  | .ref i, .ref j => match op with
    | .eq => match eqRef h.t i j with
      | some b => .ok (.bool b) h
      | Option.none => .err
    | .ne => match eqRef h.t i j with
      | some b => .ok (.bool (not b)) h
      | Option.none => .err
    | _ => .err
  | _, _ => .err

noncomputable def nth (xs : List V) : Nat → Option V := @List.rec V (fun _ => Nat → Option V) (fun _ => Option.none)
  (fun x _ ih n => @Nat.rec (fun _ => Option V) (some x) (fun n _ => ih n) n) xs
-- the place that an index means
noncomputable def place (i : Int) (n : Nat) : Option Nat := match i with
  | .ofNat k => match Nat.blt k n with
    | true => some k
    | false => Option.none
  | .negSucc k => match Nat.blt k n with
    | true => some (n - 1 - k)
    | false => Option.none
noncomputable def idxV (a i : V) (h : H) : Rv := match a, i with
  | .ref r, .int k => match getSeq h r with
    | some xs => match place k xs.length, few xs.length with
      | some p, true => match nth xs p with
        | some v => .ok v h
        | Option.none => .err
      | _, _ => .err
    | Option.none => .err
  | _, _ => .err
noncomputable def setAt (xs : List V) : Nat → V → List V := @List.rec V (fun _ => Nat → V → List V) (fun _ _ => [])
  (fun x xs ih n v => @Nat.rec (fun _ => List V) (v :: xs) (fun n _ => x :: ih n v) n) xs
noncomputable def putList (h : H) (r : Nat) (xs : List V) : H := ⟨h.t.put 20 r (.list xs), h.n⟩
noncomputable def setIdxV (a i v : V) (env : List V) (h : H) : Rs := match a, i with
  | .ref r, .int (.ofNat k) => match getList h r with
    | some xs => match Nat.blt k xs.length, few xs.length with
      | true, true => .next env (putList h r (setAt xs k v))
      | _, _ => .err
    | Option.none => .err
  | _, _ => .err
noncomputable def appendV (a v : V) (env : List V) (h : H) : Rs := match a with
  | .ref r => match getList h r with
    | some xs => match few xs.length with
      | true => .next env (putList h r (xs ++ [v]))
      | false => .err
    | Option.none => .err
  | _ => .err
noncomputable def lenV (a : V) (h : H) : Rv := match a with
  | .ref r => match getSeq h r with
    | some xs => match few xs.length with
      | true => .ok (.int (.ofNat xs.length)) h
      | false => .err
    | Option.none => .err
  | _ => .err
-- the bound of a slice, nonnegative ones alone
noncomputable def bound (v : V) : Option Nat := match v with
  | .int (.ofNat k) => some k
  | _ => Option.none
noncomputable def sliceV (a : V) (lo hi : Option Nat) (h : H) : Rv := match a with
  | .ref r => match getList h r with
    | some xs => match few xs.length with
      | true => match lo, hi with
        | Option.none, Option.none => alloc (.list xs) h
        | some l, Option.none => alloc (.list (xs.drop l)) h
        | Option.none, some u => alloc (.list (xs.take u)) h
        | some l, some u => match Nat.ble l u, Nat.ble u xs.length with
          | true, true => alloc (.list ((xs.drop l).take (Nat.sub u l))) h
          | _, _ => .err
      | false => .err
    | Option.none => .err
  | _ => .err
noncomputable def truth (v : V) : Option Bool := match v with
  | .bool b => some b
  | _ => Option.none
noncomputable def stores : List Nat → List V → List V → Option (List V)
  | [], [], env => some env
  | i :: is, v :: vs, env => stores is vs (setAt env i v)
  | _, _, _ => Option.none

abbrev Call := V → List V → H → Rv
abbrev Den := Call → List V → H → Rv
abbrev DenS := Call → List V → H → Rs
structure Fn where
  params : Nat
  extra : Nat
  body : DenS
-- what a test does with a value
noncomputable def testV (v : V) (x y : Rv) : Rv := @V.rec (fun _ => Rv) (fun _ => .err) (fun b => @Bool.rec (fun _ => Rv) y x b) .err (fun _ => .err) (fun _ => .err) .err v
noncomputable def testS (v : V) (x y : Rs) : Rs := @V.rec (fun _ => Rs) (fun _ => .err) (fun b => @Bool.rec (fun _ => Rs) y x b) .err (fun _ => .err) (fun _ => .err) .err v

noncomputable def evs (es : List Den) (C : Call) : List V → H → Rl := @List.rec Den (fun _ => List V → H → Rl) (fun _ h => .ok [] h)
  (fun e _ ih env h => (e C env h).bindL fun v h => (ih env h).bindL fun vs h => .ok (v :: vs) h) es
noncomputable def cLit (v : V) : Den := fun _ _ h => .ok v h
noncomputable def okV (v : V) (h : H) : Rv := @V.rec (fun _ => Rv) (fun i => .ok (.int i) h) (fun b => .ok (.bool b) h) (.ok .none h) (fun r => .ok (.ref r) h) (fun k => .ok (.fn k) h) .err v
noncomputable def cVar (i : Nat) : Den := fun _ env h => @Option.rec V (fun _ => Rv) .err (fun v => okV v h) (nth env i)
noncomputable def cBin (op : BOp) (a b : Den) : Den := fun C env h => (a C env h).bind fun x h => (b C env h).bind fun y h => binV op x y h
noncomputable def negV (x : V) (h : H) : Rv := match x with
  | .int i => .ok (.int (Int.neg i)) h
  | _ => .err
noncomputable def cNeg (a : Den) : Den := fun C env h => (a C env h).bind negV
noncomputable def cAnd (a b : Den) : Den := fun C env h => (a C env h).bind fun x h => testV x (b C env h) (.ok x h)
noncomputable def cOr (a b : Den) : Den := fun C env h => (a C env h).bind fun x h => testV x (.ok x h) (b C env h)
noncomputable def cCmp (op : COp) (a b : Den) : Den := fun C env h => (a C env h).bind fun x h => (b C env h).bind fun y h => cmpV op x y h
noncomputable def cIte (c a b : Den) : Den := fun C env h => (c C env h).bind fun x h => testV x (a C env h) (b C env h)
noncomputable def cCall (f : Den) (args : List Den) : Den := fun C env h => (f C env h).bind fun g h => (evs args C env h).bind fun vs h => C g vs h
noncomputable def cLen (a : Den) : Den := fun C env h => (a C env h).bind lenV
noncomputable def absV (x : V) (h : H) : Rv := match x with
  | .int i => match i with
    | .ofNat k => .ok (.int (.ofNat k)) h
    | .negSucc k => .ok (.int (.ofNat (Nat.succ k))) h
  | _ => .err
noncomputable def cAbs (a : Den) : Den := fun C env h => (a C env h).bind absV
noncomputable def minV (x y : V) (h : H) : Rv := match x, y with
  | .int i, .int j => match Z.ltB j i with
    | true => .ok (.int j) h
    | false => .ok (.int i) h
  | _, _ => .err
noncomputable def cMin (a b : Den) : Den := fun C env h => (a C env h).bind fun x h => (b C env h).bind fun y h => minV x y h
noncomputable def bitlenV (x : V) (h : H) : Rv := match x with
  | .int (.ofNat i) => match Nat.beq i 0 with
    | true => .ok (.int 0) h
    | false => .ok (.int (.ofNat (Nat.succ (Nat.log2 i)))) h
  | _ => .err
noncomputable def cBitlen (a : Den) : Den := fun C env h => (a C env h).bind bitlenV
noncomputable def cIdx (a i : Den) : Den := fun C env h => (a C env h).bind fun x h => (i C env h).bind fun y h => idxV x y h
noncomputable def bound1 (v : V) (h : H) (k : Nat → H → Rv) : Rv := match v with
  | .int (.ofNat u) => match few u with
    | true => k u h
    | false => .err
  | _ => .err
noncomputable def cSliceNN (a : Den) : Den := fun C env h => (a C env h).bind fun x h => sliceV x Option.none Option.none h
noncomputable def cSliceNS (a hi : Den) : Den := fun C env h => (a C env h).bind fun x h => (hi C env h).bind fun y h => bound1 y h fun u h => sliceV x Option.none (some u) h
noncomputable def cSliceSN (a lo : Den) : Den := fun C env h => (a C env h).bind fun x h => (lo C env h).bind fun y h => bound1 y h fun u h => sliceV x (some u) Option.none h
noncomputable def cSliceSS (a lo hi : Den) : Den := fun C env h => (a C env h).bind fun x h => (lo C env h).bind fun y h => (hi C env h).bind fun z h => bound1 y h fun l h => bound1 z h fun u h => sliceV x (some l) (some u) h
noncomputable def cList (es : List Den) : Den := fun C env h => (evs es C env h).bind fun vs h => alloc (.list vs) h
noncomputable def cTup (es : List Den) : Den := fun C env h => (evs es C env h).bind fun vs h => alloc (.tup vs) h
noncomputable def storesK (is : List Nat) (vs env : List V) (k : List V → Rv) : Rv := match stores is vs env with
  | some e => k e
  | Option.none => .err
noncomputable def compTurn (C : Call) (elt cond : Den) (slots : List Nat) (env : List V) (next : List V → H → Rv) (acc : List V) (v : V) (h : H) : Rv := match v with
  | .ref q => match getTup h q with
    | some ys => storesK slots ys env fun env' => (cond C env' h).bind fun c h => testV c ((elt C env' h).bind fun v h => match few acc.length with
        | true => next (acc ++ [v]) h
        | false => .err) (next acc h)
    | Option.none => .err
  | _ => .err
noncomputable def compLoop (get : H → Nat → Option (List V)) (C : Call) (elt cond : Den) (slots : List Nat) (r : Nat) (env : List V) (n : Nat) : Nat → List V → H → Rv := @Nat.rec (fun _ => Nat → List V → H → Rv) (fun _ _ _ => .err)
  (fun _ ih i acc h => match get h r with
    | some xs => match nth xs i with
      | Option.none => alloc (.list acc) h
      | some v => compTurn C elt cond slots env (ih (Nat.succ i)) acc v h
    | Option.none => .err) n
noncomputable def compV (C : Call) (elt cond : Den) (slots : List Nat) (env : List V) (x : V) (h : H) : Rv := match x with
  | .ref r => match h.t.get r with
    | some (.list _) => compLoop getList C elt cond slots r env 1000 0 [] h
    | some (.tup _) => compLoop getTup C elt cond slots r env 1000 0 [] h
    | Option.none => .err
  | _ => .err
noncomputable def cComp (elt : Den) (slots : List Nat) (it cond : Den) : Den := fun C env h => (it C env h).bind fun x h => compV C elt cond slots env x h

-- statements
noncomputable def sSkip : DenS := fun _ env h => .next env h
noncomputable def sFail : DenS := fun _ _ _ => .err
noncomputable def sSeq (a b : DenS) : DenS := fun C env h => (a C env h).bind fun env h => b C env h
noncomputable def sAsg (i : Nat) (e : Den) : DenS := fun C env h => (e C env h).bindS fun v h => .next (setAt env i v) h
noncomputable def storeR (is : List Nat) (vs env : List V) (h : H) : Rs := match stores is vs env with
  | some env => .next env h
  | Option.none => .err
noncomputable def sUnpackT (is : List Nat) (es : List Den) : DenS := fun C env h => (evs es C env h).bindS fun vs h => storeR is vs env h
-- the last is stored first
noncomputable def sUnpackW (is : List Nat) (es : List Den) : DenS := fun C env h => (evs es C env h).bindS fun vs h => storeR is vs.reverse env h
noncomputable def unpackV (is : List Nat) (env : List V) (v : V) (h : H) : Rs := match v with
  | .ref r => match getTup h r with
    | some vs => storeR is vs env h
    | Option.none => .err
  | _ => .err
noncomputable def sUnpack (is : List Nat) (e : Den) : DenS := fun C env h => (e C env h).bindS fun v h => unpackV is env v h
noncomputable def sSetidx (a i e : Den) : DenS := fun C env h => (e C env h).bindS fun v h => (a C env h).bindS fun x h => (i C env h).bindS fun y h => setIdxV x y v env h
noncomputable def augV (i : Nat) (op : BOp) (x y : V) (env : List V) (h : H) : Rs := match x, y with
  | .int x, .int y => (intOp op x y h).bindS fun v h => .next (setAt env i v) h
  | _, _ => .err
noncomputable def sAug (i : Nat) (op : BOp) (e : Den) : DenS := fun C env h => (cVar i C env h).bindS fun x h => (e C env h).bindS fun y h => augV i op x y env h
noncomputable def isListK (x : V) (h : H) (k : Rs) : Rs := match x with
  | .ref r => match getList h r with
    | some _ => k
    | Option.none => .err
  | _ => .err
noncomputable def sAppend (a e : Den) : DenS := fun C env h => (a C env h).bindS fun x h => isListK x h ((e C env h).bindS fun v h => appendV x v env h)
noncomputable def sExpr (e : Den) : DenS := fun C env h => (e C env h).bindS fun _ h => .next env h
noncomputable def sIff (c : Den) (a b : DenS) : DenS := fun C env h => (c C env h).bindS fun x h => testS x (a C env h) (b C env h)
noncomputable def whileLoop (c : List V → H → Rv) (b : List V → H → Rs) (n : Nat) : List V → H → Rs := @Nat.rec (fun _ => List V → H → Rs) (fun _ _ => .err)
  (fun _ ih env h => (c env h).bindS fun x h => testS x ((b env h).bind ih) (.next env h)) n
noncomputable def sWhile (c : Den) (b : DenS) : DenS := fun C => whileLoop (c C) (b C) 100000
noncomputable def rangeLoop (slot : Nat) (body : List V → H → Rs) (step : Int) (n : Nat) : Int → List V → H → Rs := @Nat.rec (fun _ => Int → List V → H → Rs) (fun _ env h => .next env h)
  (fun _ ih x env h => (body (setAt env slot (.int x)) h).bind (ih (Int.add x step))) n
noncomputable def rangeCount (a b c : Int) : Option Nat := match Z.eqB c 1 with
  | true => some (Int.sub b a).toNat
  | false => match Z.eqB c (-1) with
    | true => some (Int.sub a b).toNat
    | false => Option.none
noncomputable def rangeV (slot : Nat) (body : List V → H → Rs) (a b c : V) (env : List V) (h : H) : Rs := match a, b, c with
  | .int x, .int y, .int z => match rangeCount x y z, few x.natAbs, few y.natAbs with
    | some n, true, true => rangeLoop slot body z n x env h
    | _, _, _ => .err
  | _, _, _ => .err
noncomputable def sFor1 (i : Nat) (b : Den) (body : DenS) : DenS := fun C env h => (b C env h).bindS fun y h => rangeV i (body C) (.int 0) y (.int 1) env h
noncomputable def sFor2 (i : Nat) (a b : Den) (body : DenS) : DenS := fun C env h => (a C env h).bindS fun x h => (b C env h).bindS fun y h => rangeV i (body C) x y (.int 1) env h
noncomputable def sFor3 (i : Nat) (a b c : Den) (body : DenS) : DenS := fun C env h => (a C env h).bindS fun x h => (b C env h).bindS fun y h => (c C env h).bindS fun z h => rangeV i (body C) x y z env h
noncomputable def listLoop (slot : Nat) (r : Nat) (body : List V → H → Rs) (n : Nat) : Nat → List V → H → Rs := @Nat.rec (fun _ => Nat → List V → H → Rs) (fun _ _ _ => .err)
  (fun _ ih i env h => match getList h r with
    | some xs => match nth xs i with
      | Option.none => .next env h
      | some v => (body (setAt env slot v) h).bind (ih (Nat.succ i))
    | Option.none => .err) n
noncomputable def enumLoop (si sv : Nat) (r : Nat) (body : List V → H → Rs) (n : Nat) : Nat → List V → H → Rs := @Nat.rec (fun _ => Nat → List V → H → Rs) (fun _ _ _ => .err)
  (fun _ ih i env h => match getList h r with
    | some xs => match nth xs i with
      | Option.none => .next env h
      | some v => (body (setAt (setAt env si (.int (.ofNat i))) sv v) h).bind (ih (Nat.succ i))
    | Option.none => .err) n
-- k items are left
noncomputable def revLoop (slot : Nat) (r : Nat) (body : List V → H → Rs) (k : Nat) : List V → H → Rs := @Nat.rec (fun _ => List V → H → Rs) (fun env h => .next env h)
  (fun k ih env h => match getList h r with
    | some xs => match nth xs k with
      | some v => (body (setAt env slot v) h).bind ih
      | Option.none => .err
    | Option.none => .err) k
noncomputable def forLV (i : Nat) (body : List V → H → Rs) (x : V) (env : List V) (h : H) : Rs := match x with
  | .ref r => listLoop i r body 100000 0 env h
  | _ => .err
noncomputable def forRevV (i : Nat) (body : List V → H → Rs) (x : V) (env : List V) (h : H) : Rs := match x with
  | .ref r => match getList h r with
    | some xs => revLoop i r body xs.length env h
    | Option.none => .err
  | _ => .err
noncomputable def forEnumV (i j : Nat) (body : List V → H → Rs) (x : V) (env : List V) (h : H) : Rs := match x with
  | .ref r => enumLoop i j r body 100000 0 env h
  | _ => .err
noncomputable def sForL (i : Nat) (e : Den) (body : DenS) : DenS := fun C env h => (e C env h).bindS fun x h => forLV i (body C) x env h
noncomputable def sForRev (i : Nat) (e : Den) (body : DenS) : DenS := fun C env h => (e C env h).bindS fun x h => forRevV i (body C) x env h
noncomputable def sForEnum (i j : Nat) (e : Den) (body : DenS) : DenS := fun C env h => (e C env h).bindS fun x h => forEnumV i j (body C) x env h
noncomputable def sRet (e : Den) : DenS := fun C env h => (e C env h).bindS fun v h => .ret v h

noncomputable def backV (r : Rs) : Rv := @Rs.rec (fun _ => Rv) .err (fun _ h => .ok .none h) (fun v h => .ok v h) r
noncomputable def enter (F : Fn) (C : Call) (vs : List V) (h : H) : Rv := match Nat.beq vs.length F.params with
  | true => backV (F.body C (vs ++ List.replicate F.extra .unb) h)
  | false => .err
noncomputable def callFn (P : Nat → Option Fn) (k : Nat) (C : Call) (vs : List V) (h : H) : Rv := match P k with
  | some F => enter F C vs h
  | Option.none => .err
noncomputable def callStep (P : Nat → Option Fn) (C : Call) : Call := fun f vs h => match f with
  | .fn k => callFn P k C vs h
  | _ => .err
noncomputable def callN (P : Nat → Option Fn) (d : Nat) : Call := @Nat.rec (fun _ => Call) (fun _ _ _ => .err) (fun _ ih => callStep P ih) d
end Mine

namespace Mine
open PySem PySem.W PySem.Calls PyProof.Rows

structure Cx where
  prog : Program
  w : World
  h₀ : Heap
  mg : Str → Option Value
  mb : Str → Option Value
  fa : Nat → Addr
  g : h₀.Ns mainGlobals mg
  b : h₀.Ns builtinsNs mb
  nolimit : h₀.NoLimit

inductive VR (fa : Nat → Addr) (as : List Addr) : V → Value → Prop
  | int (i t) : VR fa as (.int i) (.int i t)
  | bool (b) : VR fa as (.bool b) (.bool b)
  | none : VR fa as .none .none
  | ref {n a} : as[n]? = some a → VR fa as (.ref n) (.ref a)
  | fn (k) : VR fa as (.fn k) (.ref (fa k))
inductive VRs (fa : Nat → Addr) (as : List Addr) : List V → List Value → Prop
  | nil : VRs fa as [] []
  | cons {v x vs xs} : VR fa as v x → VRs fa as vs xs → VRs fa as (v :: vs) (x :: xs)
def Pre (as as' : List Addr) : Prop := ∃ m, as' = as ++ m
theorem Pre.refl (as : List Addr) : Pre as as := ⟨[], (List.append_nil as).symm⟩
theorem Pre.trans {a b c : List Addr} (x : Pre a b) (y : Pre b c) : Pre a c := by
  obtain ⟨m, rfl⟩ := x
  obtain ⟨n, rfl⟩ := y
  exact ⟨m ++ n, List.append_assoc ..⟩
theorem Pre.at {as as' : List Addr} (p : Pre as as') {i : Nat} {a : Addr} (e : as[i]? = some a) : as'[i]? = some a := by
  obtain ⟨m, rfl⟩ := p
  rw [List.getElem?_append_left (List.getElem?_eq_some_iff.mp e).1]; exact e
theorem Pre.mem {as as' : List Addr} (p : Pre as as') {a : Addr} (e : a ∈ as) : a ∈ as' := by
  obtain ⟨m, rfl⟩ := p
  exact List.mem_append_left _ e
theorem VR.up {fa : Nat → Addr} {as as' : List Addr} (p : Pre as as') {v : V} {x : Value} (h : VR fa as v x) : VR fa as' v x := by
  cases h with
  | int => exact .int _ _
  | bool => exact .bool _
  | none => exact .none
  | ref e => exact .ref (p.at e)
  | fn => exact .fn _
theorem VRs.up {fa : Nat → Addr} {as as' : List Addr} (p : Pre as as') : ∀ {vs : List V} {xs : List Value}, VRs fa as vs xs → VRs fa as' vs xs
  | _, _, .nil => .nil
  | _, _, .cons h r => .cons (h.up p) (VRs.up p r)
theorem VRs.length {fa : Nat → Addr} {as : List Addr} : ∀ {vs : List V} {xs : List Value}, VRs fa as vs xs → xs.length = vs.length
  | _, _, .nil => rfl
  | _, _, .cons _ r => by rw [List.length_cons, List.length_cons, VRs.length r]
theorem VRs.append {fa : Nat → Addr} {as : List Addr} : ∀ {vs : List V} {xs : List Value} {ws ys}, VRs fa as vs xs → VRs fa as ws ys → VRs fa as (vs ++ ws) (xs ++ ys)
  | _, _, _, _, .nil, h => h
  | _, _, _, _, .cons h r, h' => .cons h (VRs.append r h')
theorem VRs.get {fa : Nat → Addr} {as : List Addr} : ∀ {vs : List V} {xs : List Value} {i : Nat} {v : V}, VRs fa as vs xs → vs[i]? = some v → ∃ x, xs[i]? = some x ∧ VR fa as v x
  | _, _, _, _, .nil, e => by cases e
  | _, _, 0, _, .cons h _, e => by cases e; exact ⟨_, rfl, h⟩
  | _, _, i + 1, _, .cons _ r, e => by simpa using VRs.get r (by simpa using e)
theorem VRs.set {fa : Nat → Addr} {as : List Addr} {v : V} {x : Value} (h : VR fa as v x) : ∀ {vs : List V} {xs : List Value} {i : Nat}, VRs fa as vs xs → VRs fa as (vs.set i v) (xs.set i x)
  | _, _, _, .nil => .nil
  | _, _, 0, .cons _ r => .cons h r
  | _, _, i + 1, .cons h' r => .cons h' (VRs.set h r)
theorem VRs.take {fa : Nat → Addr} {as : List Addr} : ∀ {vs : List V} {xs : List Value} (n : Nat), VRs fa as vs xs → VRs fa as (vs.take n) (xs.take n)
  | _, _, 0, _ => by simpa using VRs.nil
  | _, _, _ + 1, .nil => by simpa using VRs.nil
  | _, _, n + 1, .cons h r => by simpa using VRs.cons h (VRs.take n r)
theorem VRs.drop {fa : Nat → Addr} {as : List Addr} : ∀ {vs : List V} {xs : List Value} (n : Nat), VRs fa as vs xs → VRs fa as (vs.drop n) (xs.drop n)
  | _, _, 0, h => by simpa using h
  | _, _, _ + 1, .nil => by simpa using VRs.nil
  | _, _, n + 1, .cons _ r => by simpa using VRs.drop n r
theorem VRs.replicate {fa : Nat → Addr} {as : List Addr} {v : V} {x : Value} (h : VR fa as v x) : ∀ n, VRs fa as (List.replicate n v) (List.replicate n x)
  | 0 => .nil
  | n + 1 => .cons h (VRs.replicate h n)

inductive OR (fa : Nat → Addr) (as : List Addr) (h : Heap) (a : Addr) : O → Prop
  | list {xs items n} : h.get? a = some (listOf (List.toArray items) n) → VRs fa as xs items → OR fa as h a (.list xs)
  | tup {xs items} : h.IsTuple a items.toArray → VRs fa as xs items → OR fa as h a (.tup xs)
theorem OR.alive {fa as h a o} (x : OR fa as h a o) : ∃ ob, h.get? a = some ob := by
  cases x with
  | list l _ => exact ⟨_, l⟩
  | tup l _ => obtain ⟨o, ho, _⟩ := l; exact ⟨o, ho⟩
theorem OR.up {fa as as' h h' a o} (x : OR fa as h a o) (p : Pre as as') (e : ∀ ob, h.get? a = some ob → h'.get? a = some ob) : OR fa as' h' a o := by
  cases x with
  | list l r => exact .list (e _ l) (r.up p)
  | tup l r => obtain ⟨o, ho, q⟩ := l; exact .tup ⟨o, e _ ho, q⟩ (r.up p)

structure Inv (c : Cx) (as : List Addr) (H : H) (h : Heap) : Prop where
  len : as.length = H.n
  obj : ∀ i a, as[i]? = some a → ∃ o, H.t.get i = some o ∧ OR c.fa as h a o
  nodup : ∀ (i j : Nat) (a : Addr), as[i]? = some a → as[j]? = some a → i = j
  base : ∀ b o, c.h₀.get? b = some o → h.get? b = some o
  sep : ∀ a ∈ as, c.h₀.get? a = none
  lim : H.n ≤ 100001

structure Ext (P as : List Addr) (h : Heap) (as' : List Addr) (h' : Heap) : Prop where
  pre : Pre as as'
  keep : ∀ b o, b ∉ P → b ∉ as → h.get? b = some o → h'.get? b = some o
  alive : ∀ b o, h.get? b = some o → ∃ o', h'.get? b = some o'
  fresh : ∀ a ∈ as', a ∈ as ∨ h.get? a = none
theorem Ext.refl (P as : List Addr) (h : Heap) : Ext P as h as h := ⟨.refl as, fun _ _ _ _ e => e, fun _ o e => ⟨o, e⟩, fun _ m => .inl m⟩
theorem Ext.trans {P as as₁ as₂ : List Addr} {h h₁ h₂ : Heap} (x : Ext P as h as₁ h₁) (y : Ext P as₁ h₁ as₂ h₂) : Ext P as h as₂ h₂ := by
  refine ⟨x.pre.trans y.pre, fun b o hP ha e => y.keep b o hP (fun m => ?_) (x.keep b o hP ha e), fun b o e => ?_, fun a m => ?_⟩
  · rcases x.fresh b m with q | q
    · exact ha q
    · rw [q] at e; cases e
  · obtain ⟨o', e'⟩ := x.alive b o e
    exact y.alive b o' e'
  · rcases y.fresh a m with q | q
    · exact x.fresh a q
    · right
      cases e : h.get? a with
      | none => rfl
      | some o =>
        obtain ⟨o', e'⟩ := x.alive a o e
        rw [q] at e'; cases e'
theorem Ext.weak {P P' as as' : List Addr} {h h' : Heap} (x : Ext P as h as' h') (hP : ∀ a ∈ P, a ∈ P') : Ext P' as h as' h' := ⟨x.pre, fun b o n m e => x.keep b o (fun q => n (hP b q)) m e, x.alive, x.fresh⟩
-- the heap alone grows: nothing is touched
theorem Ext.grown {P as : List Addr} {h h' : Heap} (k : ∀ b o, h.get? b = some o → h'.get? b = some o) : Ext P as h as h' := ⟨.refl as, fun b o _ _ e => k b o e, fun b o e => ⟨o, k b o e⟩, fun _ m => .inl m⟩
theorem Inv.grown {c : Cx} {as : List Addr} {Hp : H} {h h' : Heap} (I : Inv c as Hp h) (k : ∀ b o, h.get? b = some o → h'.get? b = some o) : Inv c as Hp h' :=
  ⟨I.len, fun i a e => let ⟨o, q, r⟩ := I.obj i a e; ⟨o, q, r.up (.refl as) fun ob e => k a ob e⟩, I.nodup, fun b o e => k b o (I.base b o e), I.sep, I.lim⟩
theorem Inv.aliveAt {c : Cx} {as : List Addr} {Hp : H} {h : Heap} (I : Inv c as Hp h) {a : Addr} (m : a ∈ as) : ∃ o, h.get? a = some o := by
  obtain ⟨i, e⟩ := List.getElem?_of_mem m
  obtain ⟨o, _, r⟩ := I.obj i a e
  exact r.alive

-- the trie
theorem T.get_nil (i : Nat) : T.get .nil i = Option.none := rfl
theorem T.get_node (v : Option O) (l r : T) (i : Nat) : T.get (.node v l r) i = if i = 0 then v else if i % 2 = 1 then l.get (i / 2) else r.get (i / 2 - 1) := by
  show @Bool.rec (fun _ => Option O) (@Bool.rec (fun _ => Option O) (r.get (Nat.sub (Nat.div i 2) 1)) (l.get (Nat.div i 2)) (Nat.beq (Nat.mod i 2) 1)) v (Nat.beq i 0) = _
  rw [BT.beq_eq, BT.beq_eq]
  show @Bool.rec (fun _ => Option O) (@Bool.rec (fun _ => Option O) (r.get (i / 2 - 1)) (l.get (i / 2)) (decide (i % 2 = 1))) v (decide (i = 0)) = _
  by_cases h : i = 0
  · rw [decide_eq_true h, if_pos h]
  · rw [decide_eq_false h, if_neg h]
    by_cases q : i % 2 = 1
    · rw [decide_eq_true q, if_pos q]
    · rw [decide_eq_false q, if_neg q]
theorem T.put_nil (n i : Nat) (o : O) : T.put (n + 1) .nil i o = if i = 0 then .node (some o) .nil .nil else if i % 2 = 1 then .node Option.none (T.put n .nil (i / 2) o) .nil else .node Option.none .nil (T.put n .nil (i / 2 - 1) o) := by
  show @Bool.rec (fun _ => T) (@Bool.rec (fun _ => T) (.node Option.none .nil (T.put n .nil (Nat.sub (Nat.div i 2) 1) o)) (.node Option.none (T.put n .nil (Nat.div i 2) o) .nil) (Nat.beq (Nat.mod i 2) 1)) (.node (some o) .nil .nil) (Nat.beq i 0) = _
  rw [BT.beq_eq, BT.beq_eq]
  show @Bool.rec (fun _ => T) (@Bool.rec (fun _ => T) (.node Option.none .nil (T.put n .nil (i / 2 - 1) o)) (.node Option.none (T.put n .nil (i / 2) o) .nil) (decide (i % 2 = 1))) (.node (some o) .nil .nil) (decide (i = 0)) = _
  by_cases h : i = 0
  · rw [decide_eq_true h, if_pos h]
  · rw [decide_eq_false h, if_neg h]
    by_cases q : i % 2 = 1
    · rw [decide_eq_true q, if_pos q]
    · rw [decide_eq_false q, if_neg q]
theorem T.put_node (n i : Nat) (v : Option O) (l r : T) (o : O) : T.put (n + 1) (.node v l r) i o = if i = 0 then .node (some o) l r else if i % 2 = 1 then .node v (T.put n l (i / 2) o) r else .node v l (T.put n r (i / 2 - 1) o) := by
  show @Bool.rec (fun _ => T) (@Bool.rec (fun _ => T) (.node v l (T.put n r (Nat.sub (Nat.div i 2) 1) o)) (.node v (T.put n l (Nat.div i 2) o) r) (Nat.beq (Nat.mod i 2) 1)) (.node (some o) l r) (Nat.beq i 0) = _
  rw [BT.beq_eq, BT.beq_eq]
  show @Bool.rec (fun _ => T) (@Bool.rec (fun _ => T) (.node v l (T.put n r (i / 2 - 1) o)) (.node v (T.put n l (i / 2) o) r) (decide (i % 2 = 1))) (.node (some o) l r) (decide (i = 0)) = _
  by_cases h : i = 0
  · rw [decide_eq_true h, if_pos h]
  · rw [decide_eq_false h, if_neg h]
    by_cases q : i % 2 = 1
    · rw [decide_eq_true q, if_pos q]
    · rw [decide_eq_false q, if_neg q]
theorem T.get_put (o : O) : ∀ (n i : Nat) (t : T) (j : Nat), i + 1 < 2 ^ n → T.get (T.put n t i o) j = if j = i then some o else t.get j
  | 0, i, _, _, hi => by simp at hi
  | n + 1, i, t, j, hi => by
    have h2 : 2 ^ (n + 1) = 2 * 2 ^ n := by rw [Nat.pow_succ, Nat.mul_comm]
    have hl : i % 2 = 1 → i / 2 + 1 < 2 ^ n := fun q => by omega
    have hr : i ≠ 0 → ¬ i % 2 = 1 → i / 2 - 1 + 1 < 2 ^ n := fun p q => by omega
    cases t with
    | nil =>
      rw [T.put_nil]
      by_cases h : i = 0
      · subst h
        rw [if_pos rfl, T.get_node]
        by_cases hj : j = 0
        · rw [if_pos hj, if_pos hj]
        · rw [if_neg hj, if_neg hj]; simp only [T.get_nil, ite_self]
      · rw [if_neg h]
        by_cases q : i % 2 = 1
        · rw [if_pos q, T.get_node, T.get_put o n (i / 2) .nil (j / 2) (hl q)]
          simp only [T.get_nil, ite_self]
          by_cases hj : j = i
          · subst hj; rw [if_neg h, if_pos q, if_pos rfl, if_pos rfl]
          · rw [if_neg hj]
            by_cases hj0 : j = 0
            · rw [if_pos hj0]
            · rw [if_neg hj0]
              by_cases qj : j % 2 = 1
              · rw [if_pos qj, if_neg (by omega)]
              · rw [if_neg qj]
        · rw [if_neg q, T.get_node, T.get_put o n (i / 2 - 1) .nil (j / 2 - 1) (hr h q)]
          simp only [T.get_nil, ite_self]
          by_cases hj : j = i
          · subst hj; rw [if_neg h, if_neg q, if_pos rfl, if_pos rfl]
          · rw [if_neg hj]
            by_cases hj0 : j = 0
            · rw [if_pos hj0]
            · rw [if_neg hj0]
              by_cases qj : j % 2 = 1
              · rw [if_pos qj]
              · rw [if_neg qj, if_neg (by omega)]
    | node v l r =>
      rw [T.put_node, T.get_node]
      by_cases h : i = 0
      · subst h
        rw [if_pos rfl, T.get_node]
        by_cases hj : j = 0
        · rw [if_pos hj, if_pos hj]
        · rw [if_neg hj, if_neg hj, if_neg hj]
      · rw [if_neg h]
        by_cases q : i % 2 = 1
        · rw [if_pos q, T.get_node, T.get_put o n (i / 2) l (j / 2) (hl q)]
          by_cases hj : j = i
          · subst hj; rw [if_neg h, if_pos q, if_pos rfl, if_pos rfl]
          · rw [if_neg hj]
            by_cases hj0 : j = 0
            · rw [if_pos hj0, if_pos hj0]
            · rw [if_neg hj0, if_neg hj0]
              by_cases qj : j % 2 = 1
              · rw [if_pos qj, if_pos qj, if_neg (by omega)]
              · rw [if_neg qj, if_neg qj]
        · rw [if_neg q, T.get_node, T.get_put o n (i / 2 - 1) r (j / 2 - 1) (hr h q)]
          by_cases hj : j = i
          · subst hj; rw [if_neg h, if_neg q, if_pos rfl, if_pos rfl]
          · rw [if_neg hj]
            by_cases hj0 : j = 0
            · rw [if_pos hj0, if_pos hj0]
            · rw [if_neg hj0, if_neg hj0]
              by_cases qj : j % 2 = 1
              · rw [if_pos qj, if_pos qj]
              · rw [if_neg qj, if_neg qj, if_neg (by omega)]

-- a new object
theorem Inv.push {c : Cx} {as : List Addr} {Hp : H} {h h' : Heap} {a : Addr} {o : O} (I : Inv c as Hp h) (hn : Hp.n ≤ 100000) (hk : ∀ b o, h.get? b = some o → h'.get? b = some o) (ha : h.get? a = none) (h0 : c.h₀.get? a = none) (hO : OR c.fa as h' a o) :
    Inv c (as ++ [a]) ⟨Hp.t.put 20 Hp.n o, Nat.succ Hp.n⟩ h' := by
  have hp : Pre as (as ++ [a]) := ⟨_, rfl⟩
  have hin : ∀ i b, as[i]? = some b → b ≠ a := fun i b e q => by
    obtain ⟨_, _, r⟩ := I.obj i b e
    obtain ⟨o', ho'⟩ := r.alive
    rw [q, ha] at ho'; cases ho'
  have hcase : ∀ (i : Nat) (b : Addr), (as ++ [a])[i]? = some b → (i = Hp.n ∧ b = a) ∨ (i ≠ Hp.n ∧ as[i]? = some b) := fun i b e => by
    by_cases hi : i < as.length
    · rw [List.getElem?_append_left hi] at e
      exact .inr ⟨by rw [← I.len]; omega, e⟩
    · rw [List.getElem?_append_right (by omega)] at e
      have : i - as.length = 0 := by
        have := (List.getElem?_eq_some_iff.mp e).1
        simp at this; omega
      rw [this] at e
      cases e
      exact .inl ⟨by rw [← I.len]; omega, rfl⟩
  refine ⟨by simp [I.len], fun i b e => ?_, fun i j b e1 e2 => ?_, fun b o' e => hk b o' (I.base b o' e), fun b m => ?_, by show Hp.n + 1 ≤ _; omega⟩
  · show ∃ o', T.get (T.put 20 Hp.t Hp.n o) i = some o' ∧ _
    rw [T.get_put o 20 Hp.n Hp.t i (by omega)]
    rcases hcase i b e with ⟨rfl, rfl⟩ | ⟨hi, e'⟩
    · rw [if_pos rfl]; exact ⟨o, rfl, hO.up hp fun _ x => x⟩
    · rw [if_neg hi]
      obtain ⟨o', q, r⟩ := I.obj i b e'
      exact ⟨o', q, r.up hp fun ob x => hk b ob x⟩
  · rcases hcase i b e1 with ⟨rfl, rfl⟩ | ⟨hi, e1'⟩
    · rcases hcase j _ e2 with ⟨rfl, _⟩ | ⟨_, e2'⟩
      · rfl
      · exact absurd rfl (hin j _ e2')
    · rcases hcase j _ e2 with ⟨rfl, rfl⟩ | ⟨_, e2'⟩
      · exact absurd rfl (hin i _ e1')
      · exact I.nodup i j b e1' e2'
  · rcases List.mem_append.mp m with m | m
    · exact I.sep b m
    · rw [List.mem_singleton.mp m]; exact h0
theorem Ext.push {P as : List Addr} {h h' : Heap} {a : Addr} (hk : ∀ b o, h.get? b = some o → h'.get? b = some o) (ha : h.get? a = none) : Ext P as h (as ++ [a]) h' :=
  ⟨⟨_, rfl⟩, fun b o _ _ e => hk b o e, fun b o e => ⟨o, hk b o e⟩, fun b m => by
    rcases List.mem_append.mp m with m | m
    · exact .inl m
    · rw [List.mem_singleton.mp m]; exact .inr ha⟩
-- an object is changed
theorem Inv.set {c : Cx} {as : List Addr} {Hp : H} {h h' : Heap} {a : Addr} {i : Nat} {o : O} (I : Inv c as Hp h) (hi : as[i]? = some a) (hs : Heap.SameBut a h h') (hO : OR c.fa as h' a o) : Inv c as ⟨Hp.t.put 20 i o, Hp.n⟩ h' := by
  have hlt : i < Hp.n := by rw [← I.len]; exact (List.getElem?_eq_some_iff.mp hi).1
  have lim := I.lim
  refine ⟨I.len, fun j b e => ?_, I.nodup, fun b o' e => (hs.2 b fun q => ?_).trans (I.base b o' e), I.sep, I.lim⟩
  · show ∃ o', T.get (T.put 20 Hp.t i o) j = some o' ∧ _
    rw [T.get_put o 20 i Hp.t j (by omega)]
    by_cases hj : j = i
    · subst hj
      rw [hi] at e; cases e
      rw [if_pos rfl]; exact ⟨o, rfl, hO⟩
    · rw [if_neg hj]
      obtain ⟨o', q, r⟩ := I.obj j b e
      exact ⟨o', q, r.up (.refl as) fun ob x => (hs.2 b fun z => hj (I.nodup j i a (z ▸ e) hi)).trans x⟩
  · rw [q, I.sep a (List.mem_of_getElem? hi)] at e; cases e
theorem Ext.set {P as : List Addr} {h h' : Heap} {a : Addr} {ob : Obj} (ha : a ∈ as) (hs : Heap.SameBut a h h') (ho : h'.get? a = some ob) : Ext P as h as h' :=
  ⟨.refl as, fun b o _ m e => (hs.2 b fun q => m (q ▸ ha)).trans e, fun b o e => by
    by_cases q : b = a
    · exact ⟨ob, q ▸ ho⟩
    · exact ⟨o, (hs.2 b q).trans e⟩, fun _ m => .inl m⟩

theorem nth_eq : ∀ (xs : List V) (i : Nat), nth xs i = xs[i]?
  | [], _ => rfl
  | x :: xs, 0 => rfl
  | x :: xs, i + 1 => by
    show nth xs i = _
    rw [nth_eq xs i]; simp
theorem setAt_eq : ∀ (xs : List V) (i : Nat) (v : V), setAt xs i v = xs.set i v
  | [], _, _ => rfl
  | x :: xs, 0, _ => rfl
  | x :: xs, i + 1, v => by
    show x :: setAt xs i v = _
    rw [setAt_eq xs i v]; rfl
end Mine

namespace Mine
open PySem PySem.W PySem.Calls PyProof.Rows

structure EnvS (sc : Scope) (env : Env) : Prop where
  scope : env.scope = sc
  kind : sc.kind = .function
  globals : env.globals = mainGlobals
  builtins : env.builtins = builtinsNs
  cellsOf : ∀ x, sc.names.lookup x = some .cell → ∃ a, env.cells.lookup x = some a
theorem EnvS.fn {sc : Scope} {env : Env} (S : EnvS sc env) : env.scope.kind = .function := by rw [S.scope]; exact S.kind
theorem EnvS.plain {sc : Scope} {env : Env} (S : EnvS sc env) : (env.scope.kind == ScopeKind.class || env.scope.kind == ScopeKind.module && env.locals != env.globals) = false := by rw [S.fn]; rfl

def VarAt (env : Env) (h : Heap) (x : Str) (v : Value) : Prop :=
  (env.kindOf x = some .local ∧ ∃ m, h.Ns env.locals m ∧ m x = some v) ∨
  ((env.kindOf x = some .cell ∨ env.kindOf x = some .free) ∧ ∃ a, env.cells.lookup x = some a ∧ h.IsCell a (some v))
def privs (env : Env) : List Addr := env.locals :: env.cells.map (·.2)
theorem lookup_mem {x : Str} {a : Addr} : ∀ {l : List (Str × Addr)}, l.lookup x = some a → (x, a) ∈ l
  | (y, b) :: l, e => by
    rw [List.lookup_cons] at e
    cases q : x == y with
    | true => rw [q] at e; cases e; rw [eq_of_beq q]; exact .head _
    | false => rw [q] at e; exact .tail _ (lookup_mem e)
theorem privs_cell {env : Env} {p : Str × Addr} (e : p ∈ env.cells) : p.2 ∈ privs env := .tail _ (List.mem_map_of_mem e)

structure EnvR (c : Cx) (env : Env) (Γ : List (Str × Nat)) (as : List Addr) (vals : List V) (h : Heap) : Prop where
  ns : ∃ m, h.Ns env.locals m
  cells : ∀ p ∈ env.cells, ∃ v, h.IsCell p.2 v
  off : ∀ a ∈ privs env, a ∉ as
  inj : ∀ p ∈ env.cells, ∀ q ∈ env.cells, p.2 = q.2 → p = q
  cellL : ∀ p ∈ env.cells, p.2 ≠ env.locals
  new : ∀ a ∈ privs env, c.h₀.get? a = none
  var : ∀ (x : Str) (i : Nat) (v : V), Γ.lookup x = some i → vals[i]? = some v → v ≠ .unb → ∃ val, VR c.fa as v val ∧ VarAt env h x val
theorem EnvR.there {c : Cx} {env : Env} {Γ : List (Str × Nat)} {as : List Addr} {vals : List V} {h : Heap} (R : EnvR c env Γ as vals h) {a : Addr} (m : a ∈ privs env) : ∃ o, h.get? a = some o := by
  cases m with
  | head => obtain ⟨m, oN, es, ep, hN, rest⟩ := R.ns; exact ⟨_, hN⟩
  | tail _ m =>
    obtain ⟨p, hm, rfl⟩ := List.mem_map.mp m
    obtain ⟨v, o, ho, _⟩ := R.cells p hm
    exact ⟨o, ho⟩

theorem EnvR.up {c : Cx} {env : Env} {Γ : List (Str × Nat)} {as as' : List Addr} {vals : List V} {h h' : Heap} (R : EnvR c env Γ as vals h) (x : Ext [] as h as' h') : EnvR c env Γ as' vals h' := by
  have kp : ∀ a ∈ privs env, ∀ o, h.get? a = some o → h'.get? a = some o := fun a m o e => x.keep a o (by simp) (R.off a m) e
  have th := fun a m => R.there (a := a) m
  obtain ⟨m, oN, es, ep, hN, rest⟩ := R.ns
  refine ⟨⟨m, oN, es, ep, kp _ (.head _) _ hN, rest⟩, fun p hp => ?_, fun a m q => ?_, R.inj, R.cellL, R.new, fun y i v hy hv hu => ?_⟩
  · obtain ⟨v, o, ho, hd⟩ := R.cells p hp
    exact ⟨v, o, kp _ (privs_cell hp) o ho, hd⟩
  · rcases x.fresh a q with q | q
    · exact R.off a m q
    · obtain ⟨o, ho⟩ := th a m
      rw [q] at ho; cases ho
  · obtain ⟨val, hV, hA⟩ := R.var y i v hy hv hu
    refine ⟨val, hV.up x.pre, ?_⟩
    rcases hA with ⟨hk, m, ⟨o, es, ep, ho, r⟩, hm⟩ | ⟨hk, a, ha, o, ho, hd⟩
    · exact .inl ⟨hk, m, ⟨o, es, ep, kp _ (.head _) _ ho, r⟩, hm⟩
    · exact .inr ⟨hk, a, ha, o, kp a (privs_cell (lookup_mem ha)) o ho, hd⟩

structure AOk (A : Around) (d : Nat) : Prop where
  handled : A.handled = none
  depth : A.depth + d < recursionLimit
  units : A.units + 8 * d + 200 < cLine

abbrev F' : Value → Shared → Prop := fun _ _ => False
-- what is wanted behind an expression
def PostR (c : Cx) (as : List Addr) (s : Shared) (r : Rv) (Q : Value → Shared → Prop) : Prop := match r with
  | .err => False
  | .ok v Hp => ∀ val as' h' tk, Inv c as' Hp h' → Ext [] as s.heap as' h' → VR c.fa as' v val → Q val { s with heap := h', toks := tk }
def PostB (c : Cx) (as : List Addr) (s : Shared) (r : Rv) (Q : Bool → Shared → Prop) : Prop := match r with
  | .ok (.bool b) Hp => ∀ as' h' tk, Inv c as' Hp h' → Ext [] as s.heap as' h' → Q b { s with heap := h', toks := tk }
  | _ => False
def PostL (c : Cx) (as : List Addr) (s : Shared) (r : Rl) (Q : List Value → Shared → Prop) : Prop := match r with
  | .err => False
  | .ok vs Hp => ∀ vals as' h' tk, Inv c as' Hp h' → Ext [] as s.heap as' h' → VRs c.fa as' vs vals → Q vals { s with heap := h', toks := tk }
def PostS (c : Cx) (env : Env) (Γ : List (Str × Nat)) (as : List Addr) (s : Shared) (r : Rs) (Q : Flow → Shared → Prop) : Prop := match r with
  | .err => False
  | .next vals Hp => ∀ as' h' tk, Inv c as' Hp h' → Ext (privs env) as s.heap as' h' → EnvR c env Γ as' vals h' → Q .next { s with heap := h', toks := tk }
  | .ret v Hp => ∀ val as' h' tk, Inv c as' Hp h' → Ext (privs env) as s.heap as' h' → VR c.fa as' v val → Q (.ret val) { s with heap := h', toks := tk }
theorem PostR.later {c as s r Q as₁ h₁ tk} (p : PostR c as s r Q) (x : Ext [] as s.heap as₁ h₁) : PostR c as₁ { s with heap := h₁, toks := tk } r Q := by
  cases r with
  | err => exact p
  | ok v Hp => exact fun val as' h' tk' I X V => p val as' h' tk' I (x.trans X) V
theorem PostB.later {c as s r Q as₁ h₁ tk} (p : PostB c as s r Q) (x : Ext [] as s.heap as₁ h₁) : PostB c as₁ { s with heap := h₁, toks := tk } r Q := by
  cases r with
  | err => exact p
  | ok v Hp => cases v with
    | bool b => exact fun as' h' tk' I X => p as' h' tk' I (x.trans X)
    | _ => exact p
theorem PostL.later {c as s r Q as₁ h₁ tk} (p : PostL c as s r Q) (x : Ext [] as s.heap as₁ h₁) : PostL c as₁ { s with heap := h₁, toks := tk } r Q := by
  cases r with
  | err => exact p
  | ok v Hp => exact fun val as' h' tk' I X V => p val as' h' tk' I (x.trans X) V
theorem PostS.later {c env Γ as s r Q as₁ h₁ tk} (p : PostS c env Γ as s r Q) (x : Ext (privs env) as s.heap as₁ h₁) : PostS c env Γ as₁ { s with heap := h₁, toks := tk } r Q := by
  cases r with
  | err => exact p
  | next v Hp => exact fun as' h' tk' I X R => p as' h' tk' I (x.trans X) R
  | ret v Hp => exact fun val as' h' tk' I X V => p val as' h' tk' I (x.trans X) V
theorem PostS.laterE {c env Γ as s r Q as₁ h₁ tk} (p : PostS c env Γ as s r Q) (x : Ext [] as s.heap as₁ h₁) : PostS c env Γ as₁ { s with heap := h₁, toks := tk } r Q :=
  p.later (x.weak fun _ m => nomatch m)

-- a call by the values
structure SndC (c : Cx) (C : Call) (d : Nat) : Prop where
  fn : ∀ f vs Hp v Hp', C f vs Hp = .ok v Hp' → ∃ k o fd, f = .fn k ∧ c.h₀.get? (c.fa k) = some o ∧ o.data = .func fd
  run : ∀ A as Hp s f vs fv xs Q, AOk A d → Inv c as Hp s.heap → VR c.fa as f fv → VRs c.fa as vs xs → PostR c as s (C f vs Hp) Q → wpAny (model c.prog c.w) A (call fv xs) Q F' s
def SndE (c : Cx) (sc : Scope) (Γ : List (Str × Nat)) (e : Expr) (den : Den) : Prop := ∀ C d A env as vals Hp s Q, SndC c C d → AOk A d → EnvS sc env → Inv c as Hp s.heap → EnvR c env Γ as vals s.heap →
  PostR c as s (den C vals Hp) Q → wpAny (model c.prog c.w) A (eval e env) Q F' s
def SndT (c : Cx) (sc : Scope) (Γ : List (Str × Nat)) (e : Expr) (den : Den) : Prop := ∀ C d A env as vals Hp s Q, SndC c C d → AOk A d → EnvS sc env → Inv c as Hp s.heap → EnvR c env Γ as vals s.heap →
  PostB c as s (den C vals Hp) Q → wpAny (model c.prog c.w) A (isTrue e env (eval e env)) Q F' s
def SndL (c : Cx) (sc : Scope) (Γ : List (Str × Nat)) (pos : Pos) (es : List Expr) (dens : List Den) : Prop := ∀ C d A env as vals Hp s Q, SndC c C d → AOk A d → EnvS sc env → Inv c as Hp s.heap → EnvR c env Γ as vals s.heap →
  PostL c as s (evs dens C vals Hp) Q → wpAny (model c.prog c.w) A (spliced (backTo pos (starEach es env))) Q F' s
def SndS (c : Cx) (sc : Scope) (Γ : List (Str × Nat)) (st : Stmt) (den : DenS) : Prop := ∀ C d A env as vals Hp s Q, SndC c C d → AOk A d → EnvS sc env → Inv c as Hp s.heap → EnvR c env Γ as vals s.heap →
  PostS c env Γ as s (den C vals Hp) Q → wpAny (model c.prog c.w) A (exec st env) Q F' s
def SndB (c : Cx) (sc : Scope) (Γ : List (Str × Nat)) (sts : List Stmt) (den : DenS) : Prop := ∀ C d A env as vals Hp s Q, SndC c C d → AOk A d → EnvS sc env → Inv c as Hp s.heap → EnvR c env Γ as vals s.heap →
  PostS c env Γ as s (den C vals Hp) Q → wpAny (model c.prog c.w) A (execs sts env) Q F' s

-- expressions
section
variable {c : Cx} {sc : Scope} {Γ : List (Str × Nat)}

theorem e_int (i : Int) (k : Nat) (pos : Pos) : SndE c sc Γ (.Constant (.int i) k pos) (cLit (.int i)) := fun C d A env as vals Hp s Q _ _ _ I R p =>
  wpAny_Constant_int (p _ as s.heap _ I (.refl ..) (.int _ _))
theorem e_bool (b : Bool) (k : Nat) (pos : Pos) : SndE c sc Γ (.Constant (.bool b) k pos) (cLit (.bool b)) := fun C d A env as vals Hp s Q _ _ _ I R p =>
  fun _ _ _ => p (.bool b) as s.heap s.toks I (.refl ..) (.bool b)

theorem okV_some {v : V} {Hp : H} {w : V} {Hp' : H} (e : okV v Hp = .ok w Hp') : v ≠ .unb ∧ w = v ∧ Hp' = Hp := by
  cases v <;> first | (cases e; exact ⟨by simp, rfl, rfl⟩) | cases e
theorem cVar_eq (i : Nat) (C : Call) (vals : List V) (Hp : H) : cVar i C vals Hp = match vals[i]? with
    | some v => okV v Hp
    | Option.none => .err := by
  unfold cVar
  rw [nth_eq]
  cases vals[i]? <;> rfl
theorem e_var (x : Str) (pos : Pos) (i : Nat) (hi : Γ.lookup x = some i) (hd : (x == ("__debug__" : Str)) = false) (hc : (x == Str.ofString "__classdict__") = false) : SndE c sc Γ (.Name x pos) (cVar i) := fun C d A env as vals Hp s Q _ _ S I R p => by
  rw [cVar_eq] at p
  cases hv : vals[i]? with
  | none => rw [hv] at p; exact p.elim
  | some v =>
    rw [hv] at p
    dsimp only at p
    cases ho : okV v Hp with
    | err => rw [ho] at p; exact p.elim
    | ok w Hp' =>
      obtain ⟨hu, rfl, rfl⟩ := okV_some ho
      rw [ho] at p
      obtain ⟨val, hV, hA⟩ := R.var x i w hi hv hu
      refine wpAny_Name ?_ hd
      have q := p val as s.heap s.toks I (.refl ..) hV
      rcases hA with ⟨hk, m, hn, hm⟩ | ⟨hk, a, ha, hcell⟩
      · exact wpAny_loadName_local S.fn hk hn hm q
      · rcases hk with hk | hk
        · exact wpAny_loadName_cell S.fn hk ha hcell q
        · exact wpAny_loadName_free S.fn hk ha hcell q hc
theorem e_glob (x : Str) (pos : Pos) (k : Nat) (hg : c.mg x = some (.ref (c.fa k))) (hx : sc.names.lookup x = some .globalImplicit) (hd : (x == ("__debug__" : Str)) = false) : SndE c sc Γ (.Name x pos) (cLit (.fn k)) := fun C d A env as vals Hp s Q _ _ S I R p => by
  have hx' : env.kindOf x = some .globalImplicit := by unfold Env.kindOf; rw [S.scope]; exact hx
  refine Name_function_global S.fn hx' (loadGlobal_global (mg := c.mg) ?_ hg (p _ as s.heap s.toks I (.refl ..) (.fn k))) hd
  rw [S.globals]
  exact c.g.keeps I.base
-- a built-in's name
theorem n_boot {env : Env} {A : Around} {s : Shared} {Q : Value → Shared → Prop} {v : Value} (S : EnvS sc env) (hb : ∀ b o, c.h₀.get? b = some o → s.heap.get? b = some o) (x : Str) (pos : Pos)
    (hg : c.mg x = none) (hm : c.mb x = some v) (hx : sc.names.lookup x = some .globalImplicit) (hd : (x == ("__debug__" : Str)) = false) (q : Q v s) : wpAny (model c.prog c.w) A (eval (.Name x pos) env) Q F' s := by
  have hx' : env.kindOf x = some .globalImplicit := by unfold Env.kindOf; rw [S.scope]; exact hx
  refine Name_function_global S.fn hx' (loadGlobal_builtin (mg := c.mg) (mb := c.mb) ?_ hg ?_ hm q) hd
  · rw [S.globals]; exact c.g.keeps hb
  · rw [S.builtins]; exact c.b.keeps hb
end
end Mine

namespace Mine
open PySem PySem.W PySem.Calls PyProof.Rows

def opOf : BOp → Operator
  | .add => .Add | .sub => .Sub | .mul => .Mult | .fdiv => .FloorDiv | .mod => .Mod | .shl => .LShift | .shr => .RShift | .band => .BitAnd | .bor => .BitOr
theorem small_le {x : Int} (h : small x = true) : x.natAbs ≤ 4611686018427387904 := Nat.le_of_ble_eq_true h
theorem few_le {x : Nat} (h : few x = true) : x ≤ 100000 := Nat.le_of_ble_eq_true h
theorem small_bits {x : Int} (h : small x = true) : Builtin.Int.intBits x ≤ 64 := by
  have := small_le h
  exact intBits_le_64 (by omega) (by omega)
theorem small_pylong {x y : Int} (h : small y = true) : Builtin.divisionGoesByPylong x y = false := by
  have h1 := small_le h
  unfold Builtin.divisionGoesByPylong
  simp only [Bool.and_eq_false_iff, decide_eq_false_iff_not]
  left
  by_cases hy : y = 0
  · subst hy; decide
  · have hp : y.natAbs ≠ 0 := by omega
    have hl : y.natAbs.log2 < 64 := (Nat.log2_lt hp).mpr (by omega)
    rw [if_neg (by simpa using hy)]
    omega
theorem eqB_ne {y : Int} (h : Z.eqB y 0 = false) : y ≠ 0 := fun e => by
  have := (Z.eqB_iff y 0).mpr e
  rw [h] at this; cases this
theorem shl_eq (a k : Nat) : (Int.ofNat a) * 2 ^ (Int.ofNat k).toNat = Int.ofNat (Nat.mul a (Nat.pow 2 k)) := by
  show (a : Int) * 2 ^ k = ((a * 2 ^ k : Nat) : Int)
  push_cast; rfl
theorem shr_eq (a k : Nat) : (Int.ofNat a).fdiv (2 ^ (Int.ofNat k).toNat) = Int.ofNat (Nat.div a (Nat.pow 2 k)) := by
  show (a : Int).fdiv (2 ^ k) = ((a / 2 ^ k : Nat) : Int)
  rw [Int.fdiv_eq_ediv_of_nonneg _ (Int.pow_nonneg (by decide))]
  push_cast; rfl
theorem band_eq (a b : Nat) : Builtin.bitAnd (Int.ofNat a) (Int.ofNat b) = Int.ofNat (Nat.land a b) := by
  unfold Builtin.bitAnd
  rw [decide_eq_true (show (0 : Int) ≤ Int.ofNat a from Int.natCast_nonneg a), decide_eq_true (show (0 : Int) ≤ Int.ofNat b from Int.natCast_nonneg b)]
  rfl
theorem bitNot_ofNat (a : Nat) : Builtin.bitNot (Int.ofNat a) = Int.negSucc a := by
  unfold Builtin.bitNot
  show -(a : Int) - 1 = _
  omega
theorem bitNot_negSucc (a : Nat) : Builtin.bitNot (Int.negSucc a) = Int.ofNat a := by
  unfold Builtin.bitNot
  show -Int.negSucc a - 1 = (a : Int)
  omega
theorem bor_eq (a b : Nat) : Builtin.bitOr (Int.ofNat a) (Int.ofNat b) = Int.ofNat (Nat.lor a b) := by
  unfold Builtin.bitOr
  rw [bitNot_ofNat, bitNot_ofNat]
  unfold Builtin.bitAnd
  rw [decide_eq_false (show ¬ (0 : Int) ≤ Int.negSucc a by omega), decide_eq_false (show ¬ (0 : Int) ≤ Int.negSucc b by omega)]
  show Builtin.bitNot (Builtin.bitNot (((Builtin.bitNot (Int.negSucc a)).toNat ||| (Builtin.bitNot (Int.negSucc b)).toNat : Nat) : Int)) = _
  rw [bitNot_negSucc, bitNot_negSucc]
  show Builtin.bitNot (Builtin.bitNot (Int.ofNat (a ||| b))) = _
  rw [bitNot_ofNat, bitNot_negSucc]
  rfl

section
variable {c : Cx} {A : Around} {s : Shared} {as : List Addr} {Hp : H} {Q : Value → Shared → Prop} {x y : Int} {t u : Tok}
theorem int_bin (I : Inv c as Hp s.heap) (op : BOp) (p : PostR c as s (intOp op x y Hp) Q) : wpAny (model c.prog c.w) A (binaryOp (opOf op) (.int x t) (.int y u)) Q F' s := by
  have ret : ∀ (z : Int) (tk tk' : Tok), PostR c as s (.ok (.int z) Hp) Q → Q (.int z tk) { s with heap := s.heap, toks := tk' } := fun z tk tk' q => q _ as s.heap tk' I (.refl ..) (.int _ _)
  cases op with
  | add => exact add_int (ret _ _ _ p)
  | sub => exact sub_int (ret _ _ _ p)
  | mul =>
    show wpAny _ _ (binaryOp .Mult _ _) _ _ _
    replace p : PostR c as s (mulI x y Hp) Q := p
    unfold mulI at p
    split at p
    · rename_i h1 h2
      exact mul_int (ret _ _ _ p) (.of_left (small_bits h1))
    · exact p.elim
  | fdiv =>
    replace p : PostR c as s (fdivI x y Hp) Q := p
    unfold fdivI at p
    split at p
    · rename_i h1 h2
      exact floordiv_int (eqB_ne h1) (ret _ _ _ p) (.inl (small_pylong h2))
    · exact p.elim
  | mod =>
    replace p : PostR c as s (modI x y Hp) Q := p
    unfold modI at p
    split at p
    · rename_i h1
      exact mod_int' (eqB_ne h1) (ret _ _ _ p)
    · exact p.elim
  | shl =>
    replace p : PostR c as s (shlI x y Hp) Q := p
    unfold shlI at p
    split at p
    · rename_i a k
      split at p
      · rename_i h1 h2
        have h1' := Nat.le_of_ble_eq_true h1
        have h2' := Nat.le_of_ble_eq_true h2
        refine lshift_int_small (Int.natCast_nonneg k) (by show (k : Int) ≤ _; omega) (by show a < _; omega) ?_
        rw [shl_eq]; exact ret _ _ _ p
      · exact p.elim
    · exact p.elim
  | shr =>
    replace p : PostR c as s (shrI x y Hp) Q := p
    unfold shrI at p
    split at p
    · rename_i a k
      split at p
      · refine rshift_int (Int.natCast_nonneg k) ?_
        rw [shr_eq]; exact ret _ _ _ p
      · exact p.elim
    · exact p.elim
  | band =>
    replace p : PostR c as s (bandI x y Hp) Q := p
    unfold bandI at p
    split at p
    · refine and_int ?_
      rw [band_eq]; exact ret _ _ _ p
    · exact p.elim
  | bor =>
    replace p : PostR c as s (borI x y Hp) Q := p
    unfold borI at p
    split at p
    · refine or_int ?_
      rw [bor_eq]; exact ret _ _ _ p
    · exact p.elim
theorem int_aug (I : Inv c as Hp s.heap) (op : BOp) (hop : op = .add ∨ op = .sub ∨ op = .shr ∨ op = .bor ∨ op = .mod) (p : PostR c as s (intOp op x y Hp) Q) : wpAny (model c.prog c.w) A (inplaceOp (opOf op) (.int x t) (.int y u)) Q F' s := by
  have ret : ∀ (z : Int) (tk tk' : Tok), PostR c as s (.ok (.int z) Hp) Q → Q (.int z tk) { s with heap := s.heap, toks := tk' } := fun z tk tk' q => q _ as s.heap tk' I (.refl ..) (.int _ _)
  rcases hop with rfl | rfl | rfl | rfl | rfl
  · exact iadd_int (ret _ _ _ p)
  · exact isub_int (ret _ _ _ p)
  · replace p : PostR c as s (shrI x y Hp) Q := p
    unfold shrI at p
    split at p
    · rename_i a k
      split at p
      · refine irshift_int (Int.natCast_nonneg k) ?_
        rw [shr_eq]; exact ret _ _ _ p
      · exact p.elim
    · exact p.elim
  · replace p : PostR c as s (borI x y Hp) Q := p
    unfold borI at p
    split at p
    · refine ior_int ?_
      rw [bor_eq]; exact ret _ _ _ p
    · exact p.elim
  · replace p : PostR c as s (modI x y Hp) Q := p
    unfold modI at p
    split at p
    · rename_i h1
      exact imod_int (eqB_ne h1) (ret _ _ _ p)
    · exact p.elim
end

-- reading the lists
section
variable {c : Cx} {s : Shared} {as : List Addr} {Hp : H}
theorem get_list {h : Heap} (I : Inv c as Hp h) {r : Nat} {a : Addr} {xs : List V} (e : as[r]? = some a) (g : getList Hp r = some xs) : ∃ items n, h.get? a = some (listOf (List.toArray items) n) ∧ VRs c.fa as xs items := by
  obtain ⟨o, ho, hO⟩ := I.obj r a e
  unfold getList at g
  rw [ho] at g
  cases hO with
  | list l v => cases g; exact ⟨_, _, l, v⟩
  | tup l v => cases g
theorem get_tup {h : Heap} (I : Inv c as Hp h) {r : Nat} {a : Addr} {xs : List V} (e : as[r]? = some a) (g : getTup Hp r = some xs) : ∃ items : List Value, h.IsTuple a items.toArray ∧ VRs c.fa as xs items := by
  obtain ⟨o, ho, hO⟩ := I.obj r a e
  unfold getTup at g
  rw [ho] at g
  cases hO with
  | tup l v => cases g; exact ⟨_, l, v⟩
  | list l v => cases g
theorem get_seq {h : Heap} (I : Inv c as Hp h) {r : Nat} {a : Addr} {xs : List V} (e : as[r]? = some a) (g : getSeq Hp r = some xs) :
    ∃ items : List Value, VRs c.fa as xs items ∧ ((∃ n, h.get? a = some (listOf (List.toArray items) n)) ∨ h.IsTuple a items.toArray) := by
  obtain ⟨o, ho, hO⟩ := I.obj r a e
  unfold getSeq at g
  rw [ho] at g
  cases hO with
  | list l v => cases g; exact ⟨_, v, .inl ⟨_, l⟩⟩
  | tup l v => cases g; exact ⟨_, v, .inr l⟩
theorem listIs {h : Heap} {a : Addr} {items : List Value} {n : Nat} (e : h.get? a = some (listOf (List.toArray items) n)) : h.IsList a items.toArray := ⟨_, e, rfl, n, rfl⟩
theorem fresh_at (h : Heap) : h.get? h.objs.size = none := Heap.get?_none_of_le (Nat.le_refl _)
theorem fresh_base {h : Heap} (I : Inv c as Hp h) : c.h₀.get? h.objs.size = none := by
  cases e : c.h₀.get? h.objs.size with
  | none => rfl
  | some o => exact absurd (Heap.lt_size (I.base _ o e)) (Nat.lt_irrefl _)
-- what is wanted behind an object that is made
theorem alloc_post {Q : Value → Shared → Prop} {o : O} {h' : Heap} {a : Addr} (I : Inv c as Hp s.heap) (p : PostR c as s (alloc o Hp) Q) (hk : ∀ b ob, s.heap.get? b = some ob → h'.get? b = some ob) (ha : s.heap.get? a = none) (h0 : c.h₀.get? a = none)
    (hO : OR c.fa as h' a o) (tk : Tok) : Q (.ref a) { s with heap := h', toks := tk } := by
  unfold alloc at p
  split at p
  · rename_i h
    have hn := Nat.le_of_ble_eq_true h
    refine p _ (as ++ [a]) h' tk (I.push hn hk ha h0 hO) (.push hk ha) (.ref ?_)
    rw [← I.len]; simp
  · exact p.elim
end
theorem sizeLine_ge : (100000 : Nat) + 100000 ≤ sizeLine := by rw [sizeLine_eq]; decide

section
variable {c : Cx} {A : Around} {s : Shared} {as : List Addr} {Hp : H} {Q : Value → Shared → Prop}
theorem ref_add (I : Inv c as Hp s.heap) {i j : Nat} {a b : Addr} (ea : as[i]? = some a) (eb : as[j]? = some b) (p : PostR c as s (catL i j Hp) Q) : wpAny (model c.prog c.w) A (binaryOp .Add (.ref a) (.ref b)) Q F' s := by
  unfold catL at p
  split at p
  · rename_i xs ys g1 g2
    obtain ⟨items, n, l1, v1⟩ := get_list I ea g1
    obtain ⟨items2, n2, l2, v2⟩ := get_list I eb g2
    split at p
    · rename_i f1 f2
      have q1 := few_le f1
      have q2 := few_le f2
      have z := sizeLine_ge
      have e : items.toArray ++ items2.toArray = (items ++ items2).toArray := by simp
      refine concat_meets ⟨_, l1, rfl⟩ ⟨_, l2, rfl⟩ noFill_list_add seq_list_add PySem.F.slot_list_add PySem.F.entry_list_add (PySem.F.args_list_add_2 _ _)
        (list_addW a b items.toArray items2.toArray n n2 none none #[] #[] (by simp only [List.size_toArray, v1.length, v2.length]; omega)) ⟨l1, l2, ?_⟩
      rw [e]
      exact alloc_post I p (fun b' ob e => Heap.get?_push_of_some _ e) (fresh_at _) (fresh_base I) (.list (n := 0) (Heap.get?_push_size _ rfl) (v1.append v2)) _
    · exact p.elim
  · exact p.elim
theorem rep_one (x : Value) : ∀ n : Nat, List.foldl (fun x1 x2 : Array Value => x1 ++ x2) #[] (List.replicate n #[x]) = (List.replicate n x).toArray := by
  have : ∀ (n : Nat) (acc : List Value), List.foldl (fun x1 x2 : Array Value => x1 ++ x2) acc.toArray (List.replicate n #[x]) = (acc ++ List.replicate n x).toArray := by
    intro n
    induction n with
    | zero => intro acc; simp
    | succ n ih =>
      intro acc
      rw [List.replicate_succ, List.foldl_cons]
      have : acc.toArray ++ #[x] = (acc ++ [x]).toArray := by simp
      rw [this, ih]
      simp [List.replicate_succ]
  intro n
  simpa using this n []
theorem ref_mul (I : Inv c as Hp s.heap) {i : Nat} {a : Addr} (ea : as[i]? = some a) {k : Int} {u : Tok} (p : PostR c as s (repL i k Hp) Q) : wpAny (model c.prog c.w) A (binaryOp .Mult (.ref a) (.int k u)) Q F' s := by
  unfold repL at p
  split at p
  · rename_i x g1 f1
    obtain ⟨items, n, l1, v1⟩ := get_list I ea g1
    have q1 := few_le f1
    obtain ⟨y, rfl, v⟩ : ∃ y, items = [y] ∧ VR c.fa as x y := by
      cases v1 with
      | cons h r => cases r; exact ⟨_, rfl, h⟩
    refine wpAny_binaryOp_repeat_ref (T := "list") (U := "int") (by decide) ⟨_, l1, rfl⟩ (fun s' => typeIs_int s' k u) noFill_list_mul F.fills_int_mul F.slot_int_rmul repeat_list F.slot_int_index.lookup
      (call_meets F.slot_int_rmul (typeIs_int s k u) F.entry_int_rmul (F.args_int_rmul_2 _ _) (int___rmul___int_list k u a [y].toArray n)
        ⟨l1, rfl, ⟨_, l1, rfl⟩, call_meets F.slot_list_mul ⟨_, l1, rfl⟩ F.entry_list_mul (F.args_list_mul_2 _ _)
          (AutoListH.list___mul___list_int_3 a [y].toArray n k u (by simp [Builtin.List.listFitsIndex]; omega) (by simp; omega) (by simp [Builtin.List.listTooLong, sizeLine]; omega))
          ⟨l1, ?_⟩⟩)
    have e : List.foldl (fun x1 x2 : Array Value => x1 ++ x2) #[] (List.replicate (if ([y].toArray).isEmpty = true then 0 else k.toNat) [y].toArray) = (List.replicate k.toNat y).toArray := by
      rw [if_neg (by simp)]; exact rep_one y _
    refine alloc_post (a := s.heap.objs.size) I p (fun b' ob e => Heap.get?_push_of_some _ e) (fresh_at _) (fresh_base I) (.list (n := 0) (items := List.replicate k.toNat y) ?_ (.replicate v _)) _
    rw [← e]
    exact Heap.get?_push_size _ rfl
  · exact p.elim
theorem bin_sound (I : Inv c as Hp s.heap) (op : BOp) {x y : V} {a b : Value} (Vx : VR c.fa as x a) (Vy : VR c.fa as y b) (p : PostR c as s (binV op x y Hp) Q) : wpAny (model c.prog c.w) A (binaryOp (opOf op) a b) Q F' s := by
  cases Vx with
  | int i t => cases Vy with
    | int j u => exact int_bin I op p
    | _ => exact p.elim
  | ref ea => cases Vy with
    | ref eb => cases op with
      | add => exact ref_add I ea eb p
      | _ => exact p.elim
    | int k u => cases op with
      | mul => exact ref_mul I ea p
      | _ => exact p.elim
    | _ => exact p.elim
  | _ => cases Vy <;> exact p.elim
end
end Mine

namespace Mine
open PySem PySem.W PySem.Calls PyProof.Rows

theorem eq_true_iff {b c : Bool} (h : b = true ↔ c = true) : b = c := by cases b <;> cases c <;> simp_all
theorem ltB_dec (a b : Int) : Z.ltB a b = decide (a < b) := eq_true_iff (by rw [Z.ltB_iff, decide_eq_true_iff])
theorem leB_dec (a b : Int) : Z.leB a b = decide (a ≤ b) := eq_true_iff (by rw [Z.leB_iff, decide_eq_true_iff])
theorem eqB_beq (a b : Int) : Z.eqB a b = (a == b) := eq_true_iff (by rw [Z.eqB_iff, beq_iff_eq])

theorem toDs_nil (n : Nat) (t : T) : toDs (n + 1) t [] = some [] := by simp only [toDs]
theorem toDs_cons (n : Nat) (t : T) (v : V) (vs : List V) : toDs (n + 1) t (v :: vs) = match toD n t v, toDs n t vs with
    | some d, some ds => some (d :: ds)
    | _, _ => Option.none := by simp only [toDs] <;> rfl
theorem toD_ref (n : Nat) (t : T) (i : Nat) : toD (n + 1) t (.ref i) = match t.get i with
      | some (.list xs) => match toDs n t xs with
        | some ds => some (.list ds)
        | Option.none => Option.none
      | some (.tup xs) => match toDs n t xs with
        | some ds => some (.tuple ds)
        | Option.none => Option.none
      | Option.none => Option.none := by simp only [toD] <;> rfl
theorem toD_reads {c : Cx} {as : List Addr} {Hp : H} {h : Heap} (I : Inv c as Hp h) : ∀ n, (∀ v x d, toD n Hp.t v = some d → VR c.fa as v x → ∃ bs, Reads h x d bs) ∧ (∀ vs xs ds, toDs n Hp.t vs = some ds → VRs c.fa as vs xs → ∃ bs, ReadsAll h xs ds bs)
  | 0 => ⟨fun v x d e _ => (by simp only [toD] at e; cases e), fun vs xs ds e _ => (by simp only [toDs] at e; cases e)⟩
  | n + 1 => by
    obtain ⟨ih1, ih2⟩ := toD_reads I n
    refine ⟨fun v x d e V => ?_, fun vs xs ds e V => ?_⟩
    · cases V with
      | int i t => simp only [toD] at e; cases e; exact ⟨_, .int i t⟩
      | bool b => simp only [toD] at e; cases e; exact ⟨_, .bool b⟩
      | none => simp only [toD] at e; cases e
      | fn k => simp only [toD] at e; cases e
      | ref ea =>
        rename_i r a
        obtain ⟨o, ho, hO⟩ := I.obj r a ea
        rw [toD_ref, ho] at e
        cases hO with
        | list l v =>
          rename_i xs items m
          dsimp only at e
          cases q : toDs n Hp.t xs with
          | none => rw [q] at e; cases e
          | some ds =>
            rw [q] at e; cases e
            obtain ⟨bs, hb⟩ := ih2 _ _ _ q v
            exact ⟨_, .list l rfl rfl hb⟩
        | tup l v =>
          rename_i xs items
          dsimp only at e
          cases q : toDs n Hp.t xs with
          | none => rw [q] at e; cases e
          | some ds =>
            rw [q] at e; cases e
            obtain ⟨bs, hb⟩ := ih2 _ _ _ q v
            obtain ⟨o, ho, hc, m, hd⟩ := l
            exact ⟨_, .tuple ho hc hd hb⟩
    · cases V with
      | nil => rw [toDs_nil] at e; cases e; exact ⟨_, .nil⟩
      | cons hv hr =>
        rename_i v x vs xs
        rw [toDs_cons] at e
        cases q1 : toD n Hp.t v with
        | none => rw [q1] at e; cases e
        | some d =>
          cases q2 : toDs n Hp.t vs with
          | none => rw [q1, q2] at e; cases e
          | some ds' =>
            rw [q1, q2] at e; cases e
            obtain ⟨bs, hb⟩ := ih1 _ _ _ q1 hv
            obtain ⟨bs', hb'⟩ := ih2 _ _ _ q2 hr
            exact ⟨_, .cons hb hb'⟩

def copOf : COp → CmpOp
  | .lt => .Lt | .le => .LtE | .gt => .Gt | .ge => .GtE | .eq => .Eq | .ne => .NotEq
section
variable {c : Cx} {A : Around} {s : Shared} {as : List Addr} {Hp : H} {Q : Value → Shared → Prop} {d : Nat}
theorem eq_sound (hA : AOk A d) (I : Inv c as Hp s.heap) {i j : Nat} {a b : Addr} (ea : as[i]? = some a) (eb : as[j]? = some b) {r : Bool} (e : eqRef Hp.t i j = some r) (q : Q (.bool r) s) : wpAny (model c.prog c.w) A (compareOp .Eq (.ref a) (.ref b)) Q F' s := by
  have hu : A.units + 64 < cLine := by have := hA.units; omega
  unfold eqRef at e
  split at e
  · rename_i d1 d2 e1 e2
    split at e
    · rename_i s1 s2
      cases e
      obtain ⟨bs, r1⟩ := (toD_reads I 20).1 _ _ _ e1 (.ref ea)
      obtain ⟨bs', r2⟩ := (toD_reads I 20).1 _ _ _ e2 (.ref eb)
      exact eq_dataH r1 r2 s1 s2 hu q
    · cases e
  · cases e
theorem ne_sound (hA : AOk A d) (I : Inv c as Hp s.heap) {i j : Nat} {a b : Addr} (ea : as[i]? = some a) (eb : as[j]? = some b) {r : Bool} (e : eqRef Hp.t i j = some r) (q : Q (.bool (not r)) s) : wpAny (model c.prog c.w) A (compareOp .NotEq (.ref a) (.ref b)) Q F' s := by
  have hu : A.units + 64 < cLine := by have := hA.units; omega
  unfold eqRef at e
  split at e
  · rename_i d1 d2 e1 e2
    split at e
    · rename_i s1 s2
      cases e
      obtain ⟨bs, r1⟩ := (toD_reads I 20).1 _ _ _ e1 (.ref ea)
      obtain ⟨bs', r2⟩ := (toD_reads I 20).1 _ _ _ e2 (.ref eb)
      exact ne_dataH r1 r2 s1 s2 hu q
    · cases e
  · cases e
theorem cmp_sound (hA : AOk A d) (I : Inv c as Hp s.heap) (op : COp) {x y : V} {a b : Value} (Vx : VR c.fa as x a) (Vy : VR c.fa as y b) (p : PostR c as s (cmpV op x y Hp) Q) : wpAny (model c.prog c.w) A (compareOp (copOf op) a b) Q F' s := by
  have ret : ∀ (r : Bool), PostR c as s (.ok (.bool r) Hp) Q → Q (.bool r) s := fun r q => q _ as s.heap s.toks I (.refl ..) (.bool _)
  cases Vx with
  | int i t => cases Vy with
    | int j u => cases op with
      | lt => exact lt_int (by rw [← ltB_dec]; exact ret _ p)
      | le => exact PyProof.Rows.le_int (by rw [← leB_dec]; exact ret _ p)
      | gt => exact PyProof.Rows.gt_int (by rw [← ltB_dec]; exact ret _ p)
      | ge => exact PyProof.Rows.ge_int (by rw [← leB_dec]; exact ret _ p)
      | eq => exact eq_int (by rw [← eqB_beq]; exact ret _ p)
      | ne => exact ne_int (by
          show Q (.bool (!(i == j))) s
          rw [← eqB_beq]; exact ret _ p)
    | _ => exact p.elim
  | bool x => cases Vy with
    | bool y => cases op with
      | eq => exact eq_bool (ret _ p)
      | ne => exact ne_bool (ret _ p)
      | _ => exact p.elim
    | _ => exact p.elim
  | ref ea => cases Vy with
    | ref eb =>
      rename_i i a j b
      cases op with
      | eq =>
        replace p : PostR c as s (match eqRef Hp.t i j with
          | some b => .ok (.bool b) Hp
          | Option.none => .err) Q := p
        cases e : eqRef Hp.t i j with
        | none => rw [e] at p; exact p.elim
        | some r => rw [e] at p; exact eq_sound hA I ea eb e (ret _ p)
      | ne =>
        replace p : PostR c as s (match eqRef Hp.t i j with
          | some b => .ok (.bool (not b)) Hp
          | Option.none => .err) Q := p
        cases e : eqRef Hp.t i j with
        | none => rw [e] at p; exact p.elim
        | some r => rw [e] at p; exact ne_sound hA I ea eb e (ret _ p)
      | _ => exact p.elim
    | _ => exact p.elim
  | _ => cases Vy <;> exact p.elim
end

section
variable {c : Cx} {sc : Scope} {Γ : List (Str × Nat)}
theorem e_bin {l r : PySem.Expr} {a b : Den} (op : BOp) (pos : Pos) (ha : SndE c sc Γ l a) (hb : SndE c sc Γ r b) : SndE c sc Γ (.BinOp l (opOf op) r pos) (cBin op a b) := fun C d A env as vals Hp s Q hC hA S I R p => by
  unfold cBin at p
  refine wpAny_BinOp (ha C d A env as vals Hp s _ hC hA S I R ?_)
  cases ea : a C vals Hp with
  | err => rw [ea] at p; exact p
  | ok x H1 =>
    rw [ea] at p
    intro val as1 h1 tk1 I1 X1 V1
    replace p : PostR c as1 { s with heap := h1, toks := tk1 } ((b C vals H1).bind fun y h => binV op x y h) Q := PostR.later p X1
    refine hb C d A env as1 vals H1 _ _ hC hA S I1 (R.up X1) ?_
    cases eb : b C vals H1 with
    | err => rw [eb] at p; exact p
    | ok y H2 =>
      rw [eb] at p
      intro val2 as2 h2 tk2 I2 X2 V2
      exact bin_sound I2 op (V1.up X2.pre) V2 (PostR.later p X2)
theorem e_neg {l : PySem.Expr} {a : Den} (pos : Pos) (ha : SndE c sc Γ l a) : SndE c sc Γ (.UnaryOp .USub l pos) (cNeg a) := fun C d A env as vals Hp s Q hC hA S I R p => by
  unfold cNeg at p
  refine UnaryOp_ (ha C d A env as vals Hp s _ hC hA S I R ?_)
  cases ea : a C vals Hp with
  | err => rw [ea] at p; exact p
  | ok x H1 =>
    rw [ea] at p
    intro val as1 h1 tk1 I1 X1 V1
    replace p : PostR c as1 { s with heap := h1, toks := tk1 } (negV x H1) Q := PostR.later p X1
    cases V1 with
    | int i t => exact neg_int (p _ as1 h1 _ I1 (.refl ..) (.int _ _))
    | _ => exact p.elim
theorem e_cmp {l r : PySem.Expr} {a b : Den} (op : COp) (pos : Pos) (hm : behindInMarks (copOf op) r = false) (ha : SndE c sc Γ l a) (hb : SndE c sc Γ r b) : SndE c sc Γ (.Compare l [copOf op] [r] pos) (cCmp op a b) := fun C d A env as vals Hp s Q hC hA S I R p => by
  unfold cCmp at p
  refine wpAny_Compare1 (ha C d A env as vals Hp s _ hC hA S I R ?_) hm
  cases ea : a C vals Hp with
  | err => rw [ea] at p; exact p
  | ok x H1 =>
    rw [ea] at p
    intro val as1 h1 tk1 I1 X1 V1
    replace p : PostR c as1 { s with heap := h1, toks := tk1 } ((b C vals H1).bind fun y h => cmpV op x y h) Q := PostR.later p X1
    refine hb C d A env as1 vals H1 _ _ hC hA S I1 (R.up X1) ?_
    cases eb : b C vals H1 with
    | err => rw [eb] at p; exact p
    | ok y H2 =>
      rw [eb] at p
      intro val2 as2 h2 tk2 I2 X2 V2
      exact cmp_sound hA I2 op (V1.up X2.pre) V2 (PostR.later p X2)
-- a comparison's result is a bool
theorem cmpV_bool {op : COp} {x y v : V} {Hp Hp' : H} (e : cmpV op x y Hp = .ok v Hp') : ∃ b, v = .bool b := by
  unfold cmpV at e
  split at e
  · split at e <;> (cases e; exact ⟨_, rfl⟩)
  · split at e <;> first | (cases e; exact ⟨_, rfl⟩) | cases e
  · split at e
    · split at e <;> first | (cases e; exact ⟨_, rfl⟩) | cases e
    · split at e <;> first | (cases e; exact ⟨_, rfl⟩) | cases e
    · cases e
  · cases e
theorem t_cmp {l r : PySem.Expr} {a b : Den} (op : COp) (pos : Pos) (hm : behindInMarks (copOf op) r = false) (ha : SndE c sc Γ l a) (hb : SndE c sc Γ r b) : SndT c sc Γ (.Compare l [copOf op] [r] pos) (cCmp op a b) := fun C d A env as vals Hp s Q hC hA S I R p => by
  unfold cCmp at p
  refine wpAny_isTrue_Compare1 (ha C d A env as vals Hp s _ hC hA S I R ?_) hm
  cases ea : a C vals Hp with
  | err => rw [ea] at p; exact p
  | ok x H1 =>
    rw [ea] at p
    intro val as1 h1 tk1 I1 X1 V1
    replace p : PostB c as1 { s with heap := h1, toks := tk1 } ((b C vals H1).bind fun y h => cmpV op x y h) Q := PostB.later p X1
    refine hb C d A env as1 vals H1 _ _ hC hA S I1 (R.up X1) ?_
    cases eb : b C vals H1 with
    | err => rw [eb] at p; exact p
    | ok y H2 =>
      rw [eb] at p
      intro val2 as2 h2 tk2 I2 X2 V2
      have p2 := PostB.later (tk := tk2) p X2
      replace p : PostB c as2 { s with heap := h2, toks := tk2 } (cmpV op x y H2) Q := p2
      refine cmp_sound hA I2 op (V1.up X2.pre) V2 ?_
      cases ec : cmpV op x y H2 with
      | err => rw [ec] at p; exact p
      | ok v H3 =>
        obtain ⟨r, rfl⟩ := cmpV_bool ec
        rw [ec] at p
        intro val3 as3 h3 tk3 I3 X3 V3
        cases V3
        exact wpAny_truthy_bool (p as3 h3 tk3 I3 X3)
-- a value that is a bool, as a test
theorem PostR.ofB {c as s r} {Q : Bool → Shared → Prop} {M : Model} {A : Around} (p : PostB c as s r Q) : PostR c as s r (fun v s₁ => wpAny M A (truthy v) Q F' s₁) := by
  cases r with
  | err => exact p
  | ok v Hp => cases v with
    | bool b =>
      intro val as' h' tk I X V
      cases V
      exact wpAny_truthy_bool (p as' h' tk I X)
    | _ => exact p.elim
theorem t_plain {e : PySem.Expr} {a : Den} (he : ∀ env whole, isTrue e env whole = (do let v ← whole; standAt e.pos; holding [v] (truthy v))) (ha : SndE c sc Γ e a) : SndT c sc Γ e a := fun C d A env as vals Hp s Q hC hA S I R p =>
  isTrue_plain (ha C d A env as vals Hp s _ hC hA S I R (PostR.ofB p)) (he env _)
theorem t_and1 {e : PySem.Expr} {a : Den} (pos : Pos) (ha : SndT c sc Γ e a) : SndT c sc Γ (.BoolOp .And [e] pos) a := fun C d A env as vals Hp s Q hC hA S I R p => by
  refine isTrue_and (ha C d A env as vals Hp s _ hC hA S I R ?_)
  cases ea : a C vals Hp with
  | err => rw [ea] at p; exact p
  | ok x H1 =>
    rw [ea] at p
    cases x with
    | bool b =>
      intro as1 h1 tk1 I1 X1
      have q := p as1 h1 tk1 I1 X1
      cases b with
      | true => exact isTrue_and_nil q
      | false => exact q
    | _ => exact p.elim
theorem t_or1 {e : PySem.Expr} {a : Den} (pos : Pos) (ha : SndT c sc Γ e a) : SndT c sc Γ (.BoolOp .Or [e] pos) a := fun C d A env as vals Hp s Q hC hA S I R p => by
  refine isTrue_or (ha C d A env as vals Hp s _ hC hA S I R ?_)
  cases ea : a C vals Hp with
  | err => rw [ea] at p; exact p
  | ok x H1 =>
    rw [ea] at p
    cases x with
    | bool b =>
      intro as1 h1 tk1 I1 X1
      have q := p as1 h1 tk1 I1 X1
      cases b with
      | true => exact q
      | false => exact isTrue_or_nil q
    | _ => exact p.elim
theorem t_and {e : PySem.Expr} {rest : List PySem.Expr} {a b : Den} (pos : Pos) (ha : SndT c sc Γ e a) (hb : SndT c sc Γ (.BoolOp .And rest pos) b) : SndT c sc Γ (.BoolOp .And (e :: rest) pos) (cAnd a b) := fun C d A env as vals Hp s Q hC hA S I R p => by
  unfold cAnd at p
  refine isTrue_and (ha C d A env as vals Hp s _ hC hA S I R ?_)
  cases ea : a C vals Hp with
  | err => rw [ea] at p; exact p
  | ok x H1 =>
    rw [ea] at p
    cases x with
    | bool t =>
      intro as1 h1 tk1 I1 X1
      cases t with
      | true =>
        replace p : PostB c as1 { s with heap := h1, toks := tk1 } (b C vals H1) Q := PostB.later p X1
        exact hb C d A env as1 vals H1 _ _ hC hA S I1 (R.up X1) p
      | false => exact p as1 h1 tk1 I1 X1
    | _ => exact p.elim
theorem t_or {e : PySem.Expr} {rest : List PySem.Expr} {a b : Den} (pos : Pos) (ha : SndT c sc Γ e a) (hb : SndT c sc Γ (.BoolOp .Or rest pos) b) : SndT c sc Γ (.BoolOp .Or (e :: rest) pos) (cOr a b) := fun C d A env as vals Hp s Q hC hA S I R p => by
  unfold cOr at p
  refine isTrue_or (ha C d A env as vals Hp s _ hC hA S I R ?_)
  cases ea : a C vals Hp with
  | err => rw [ea] at p; exact p
  | ok x H1 =>
    rw [ea] at p
    cases x with
    | bool t =>
      intro as1 h1 tk1 I1 X1
      cases t with
      | false =>
        replace p : PostB c as1 { s with heap := h1, toks := tk1 } (b C vals H1) Q := PostB.later p X1
        exact hb C d A env as1 vals H1 _ _ hC hA S I1 (R.up X1) p
      | true => exact p as1 h1 tk1 I1 X1
    | _ => exact p.elim
-- «a and b» as a value
theorem e_and2 {e₁ e₂ : PySem.Expr} {a b : Den} (pos : Pos) (ha : SndE c sc Γ e₁ a) (hb : SndE c sc Γ e₂ b) : SndE c sc Γ (.BoolOp .And [e₁, e₂] pos) (cAnd a b) := fun C d A env as vals Hp s Q hC hA S I R p => by
  unfold cAnd at p
  refine BoolOp_and (ha C d A env as vals Hp s _ hC hA S I R ?_)
  cases ea : a C vals Hp with
  | err => rw [ea] at p; exact p
  | ok x H1 =>
    rw [ea] at p
    intro val as1 h1 tk1 I1 X1 V1
    cases V1 with
    | bool t =>
      refine wpAny_truthy_bool ?_
      cases t with
      | true =>
        replace p : PostR c as1 { s with heap := h1, toks := tk1 } (b C vals H1) Q := PostR.later p X1
        exact BoolOp_one (hb C d A env as1 vals H1 _ _ hC hA S I1 (R.up X1) p)
      | false => exact p _ as1 h1 tk1 I1 X1 (.bool _)
    | _ => exact p.elim
theorem e_ite {e₀ e₁ e₂ : PySem.Expr} {t a b : Den} (pos : Pos) (ht : SndT c sc Γ e₀ t) (ha : SndE c sc Γ e₁ a) (hb : SndE c sc Γ e₂ b) : SndE c sc Γ (.IfExp e₀ e₁ e₂ pos) (cIte t a b) := fun C d A env as vals Hp s Q hC hA S I R p => by
  unfold cIte at p
  refine IfExp_ (ht C d A env as vals Hp s _ hC hA S I R ?_)
  cases ea : t C vals Hp with
  | err => rw [ea] at p; exact p
  | ok x H1 =>
    rw [ea] at p
    cases x with
    | bool t =>
      intro as1 h1 tk1 I1 X1
      cases t with
      | true =>
        replace p : PostR c as1 { s with heap := h1, toks := tk1 } (a C vals H1) Q := PostR.later p X1
        exact ha C d A env as1 vals H1 _ _ hC hA S I1 (R.up X1) p
      | false =>
        replace p : PostR c as1 { s with heap := h1, toks := tk1 } (b C vals H1) Q := PostR.later p X1
        exact hb C d A env as1 vals H1 _ _ hC hA S I1 (R.up X1) p
    | _ => exact p.elim
end
end Mine

namespace Mine
open PySem PySem.W PySem.Calls PyProof.Rows

theorem evs_nil (C : Call) (vals : List V) (Hp : H) : evs [] C vals Hp = .ok [] Hp := rfl
theorem evs_cons (e : Den) (es : List Den) (C : Call) (vals : List V) (Hp : H) : evs (e :: es) C vals Hp = (e C vals Hp).bindL fun v h => (evs es C vals h).bindL fun vs h => .ok (v :: vs) h := rfl
theorem evs_length {C : Call} {vals : List V} : ∀ {es : List Den} {Hp Hp' : H} {vs : List V}, evs es C vals Hp = .ok vs Hp' → vs.length = es.length
  | [], _, _, _, e => by cases e; rfl
  | d :: es, Hp, Hp', vs, e => by
    rw [evs_cons] at e
    cases q : d C vals Hp with
    | err => rw [q] at e; cases e
    | ok v H1 =>
      rw [q] at e
      replace e : (evs es C vals H1).bindL (fun vs h => .ok (v :: vs) h) = .ok vs Hp' := e
      cases q2 : evs es C vals H1 with
      | err => rw [q2] at e; cases e
      | ok ws H2 =>
        rw [q2] at e
        cases e
        rw [List.length_cons, List.length_cons, evs_length q2]

section
variable {c : Cx} {sc : Scope} {Γ : List (Str × Nat)}
theorem l_nil (pos : Pos) : SndL c sc Γ pos [] [] := fun C d A env as vals Hp s Q hC hA S I R p => args_nil (p [] as s.heap s.toks I (.refl ..) .nil)
theorem l_cons {pos : Pos} {e : PySem.Expr} {rest : List PySem.Expr} {a : Den} {bs : List Den} (he : ∀ env, starEach (e :: rest) env = (false, eval e env) :: starEach rest env) (ha : SndE c sc Γ e a) (hb : SndL c sc Γ pos rest bs) : SndL c sc Γ pos (e :: rest) (a :: bs) := fun C d A env as vals Hp s Q hC hA S I R p => by
  rw [evs_cons] at p
  refine args_cons (ha C d A env as vals Hp s _ hC hA S I R ?_) (he env)
  cases ea : a C vals Hp with
  | err => rw [ea] at p; exact p
  | ok x H1 =>
    rw [ea] at p
    intro val as1 h1 tk1 I1 X1 V1
    replace p : PostL c as1 { s with heap := h1, toks := tk1 } ((evs bs C vals H1).bindL fun vs h => .ok (x :: vs) h) Q := PostL.later p X1
    refine hb C d A env as1 vals H1 _ _ hC hA S I1 (R.up X1) ?_
    cases eb : evs bs C vals H1 with
    | err => rw [eb] at p; exact p
    | ok ys H2 =>
      rw [eb] at p
      intro vals2 as2 h2 tk2 I2 X2 V2
      exact p _ as2 h2 tk2 I2 X2 (.cons (V1.up X2.pre) V2)

theorem e_list {es : List PySem.Expr} {ds : List Den} (pos : Pos) (hl : ds.length ≤ 1000) (h : SndL c sc Γ pos es ds) : SndE c sc Γ (.List es pos) (cList ds) := fun C d A env as vals Hp s Q hC hA S I R p => by
  unfold cList at p
  refine List_ (h C d A env as vals Hp s _ hC hA S I R ?_)
  cases ea : evs ds C vals Hp with
  | err => rw [ea] at p; exact p
  | ok xs H1 =>
    rw [ea] at p
    intro vs as1 h1 tk1 I1 X1 V1
    replace p : PostR c as1 { s with heap := h1, toks := tk1 } (alloc (.list xs) H1) Q := PostR.later p X1
    have hz := sizeLine_ge
    refine wpAny_newObj_type ?_ (by show vs.toArray.size ≤ sizeLine; rw [List.size_toArray, V1.length, evs_length ea]; omega)
    exact alloc_post I1 p (fun b' ob e => Heap.get?_push_of_some _ e) (fresh_at _) (fresh_base I1) (.list (n := 0) (Heap.get?_push_size _ rfl) V1) _
theorem e_tup {es : List PySem.Expr} {ds : List Den} (k : Nat) (pos : Pos) (hl : ds.length ≤ 1000) (h : SndL c sc Γ pos es ds) : SndE c sc Γ (.Tuple es k pos) (cTup ds) := fun C d A env as vals Hp s Q hC hA S I R p => by
  unfold cTup at p
  refine Tuple_ (h C d A env as vals Hp s _ hC hA S I R ?_)
  cases ea : evs ds C vals Hp with
  | err => rw [ea] at p; exact p
  | ok xs H1 =>
    rw [ea] at p
    intro vs as1 h1 tk1 I1 X1 V1
    replace p : PostR c as1 { s with heap := h1, toks := tk1 } (alloc (.tup xs) H1) Q := PostR.later p X1
    have hz := sizeLine_ge
    refine wpAny_newObj_type ?_ (by show vs.toArray.size ≤ sizeLine; rw [List.size_toArray, V1.length, evs_length ea]; omega)
    exact alloc_post I1 p (fun b' ob e => Heap.get?_push_of_some _ e) (fresh_at _) (fresh_base I1) (.tup ⟨_, Heap.get?_push_size _ rfl, rfl, 0, rfl⟩ V1) _

-- a call of a def of the text
theorem e_call {x : Str} {np pos : Pos} {e : PySem.Expr} {rest : List PySem.Expr} {f : Den} {ds : List Den} (he : ∀ env, starEach (e :: rest) env = (false, eval e env) :: starEach rest env)
    (hf : SndE c sc Γ (.Name x np) f) (h : SndL c sc Γ pos (e :: rest) ds) : SndE c sc Γ (.Call (.Name x np) (e :: rest) [] pos) (cCall f ds) := fun C d A env as vals Hp s Q hC hA S I R p => by
  unfold cCall at p
  refine Call_ (hf C d A env as vals Hp s _ hC hA S I R ?_)
  cases ea : f C vals Hp with
  | err => rw [ea] at p; exact p
  | ok g H1 =>
    rw [ea] at p
    intro fv as1 h1 tk1 I1 X1 V1
    replace p : PostR c as1 { s with heap := h1, toks := tk1 } ((evs ds C vals H1).bind fun vs h => C g vs h) Q := PostR.later p X1
    cases eb : evs ds C vals H1 with
    | err => rw [eb] at p; exact p.elim
    | ok ys H2 =>
      cases ec : C g ys H2 with
      | err =>
        rw [eb] at p
        replace p : PostR c as1 { s with heap := h1, toks := tk1 } (C g ys H2) Q := p
        rw [ec] at p; exact p.elim
      | ok v H3 =>
        obtain ⟨k, o, fd, rfl, ho, hd⟩ := hC.fn _ _ _ _ _ ec
        cases V1
        refine callWith_def (o := o) hd (h C d A env as1 vals H1 _ _ hC hA S I1 (R.up X1) ?_) (he env)
        rw [eb] at p ⊢
        intro xs as2 h2 tk2 I2 X2 V2
        exact ⟨I2.base _ _ ho, hC.run A as2 H2 _ _ _ _ _ _ hA I2 (.fn k) V2 (PostR.later p X2)⟩

-- built-ins
theorem e_len {np pos : Pos} {e : PySem.Expr} {a : Den} (hg : c.mg (Str.ofString "len") = none) (hm : c.mb (Str.ofString "len") = some (.builtin "len")) (hx : sc.names.lookup (Str.ofString "len") = some .globalImplicit)
    (he : ∀ env, starEach [e] env = (false, eval e env) :: starEach [] env) (ha : SndE c sc Γ e a) : SndE c sc Γ (.Call (.Name (Str.ofString "len") np) [e] [] pos) (cLen a) := fun C d A env as vals Hp s Q hC hA S I R p => by
  unfold cLen at p
  refine Call_ (n_boot S I.base _ np hg hm hx (by decide) ?_)
  refine callWith_builtin1 ?_ (he env)
  refine args_cons (ha C d A env as vals Hp s _ hC hA S I R ?_) (he env)
  cases ea : a C vals Hp with
  | err => rw [ea] at p; exact p
  | ok x H1 =>
    rw [ea] at p
    intro val as1 h1 tk1 I1 X1 V1
    replace p : PostR c as1 { s with heap := h1, toks := tk1 } (lenV x H1) Q := PostR.later p X1
    refine args_nil ?_
    unfold lenV at p
    split at p
    · rename_i r
      cases V1 with
      | ref ea =>
        split at p
        · rename_i xs g
          split at p
          · rename_i f
            have f' := few_le f
            obtain ⟨items, v, q⟩ := get_seq I1 ea g
            have hz : (items.toArray.size : Int) < 2 ^ 63 := by rw [List.size_toArray, v.length]; omega
            have he : ∀ tk tk', Q (.int (items.toArray.size : Int) tk) { s with heap := h1, toks := tk' } := fun tk tk' => by
              rw [List.size_toArray, v.length]
              exact p (.int (Int.ofNat xs.length) tk) as1 h1 tk' I1 (.refl ..) (.int _ _)
            rcases q with ⟨n, l⟩ | l
            · exact call_len_list (listIs l) hz (he _ _)
            · exact len_tuple l hz (he _ _)
          · exact p.elim
        · exact p.elim
    · exact p.elim
theorem e_abs {np pos : Pos} {e : PySem.Expr} {a : Den} (hg : c.mg (Str.ofString "abs") = none) (hm : c.mb (Str.ofString "abs") = some (.builtin "abs")) (hx : sc.names.lookup (Str.ofString "abs") = some .globalImplicit)
    (he : ∀ env, starEach [e] env = (false, eval e env) :: starEach [] env) (ha : SndE c sc Γ e a) : SndE c sc Γ (.Call (.Name (Str.ofString "abs") np) [e] [] pos) (cAbs a) := fun C d A env as vals Hp s Q hC hA S I R p => by
  unfold cAbs at p
  refine Call_ (n_boot S I.base _ np hg hm hx (by decide) ?_)
  refine callWith_builtin1 ?_ (he env)
  refine args_cons (ha C d A env as vals Hp s _ hC hA S I R ?_) (he env)
  cases ea : a C vals Hp with
  | err => rw [ea] at p; exact p
  | ok x H1 =>
    rw [ea] at p
    intro val as1 h1 tk1 I1 X1 V1
    replace p : PostR c as1 { s with heap := h1, toks := tk1 } (absV x H1) Q := PostR.later p X1
    refine args_nil ?_
    cases V1 with
    | int i t =>
      refine call_abs_int fun u tk => ?_
      cases i with
      | ofNat k =>
        rw [if_neg (show ¬ (Int.ofNat k < 0) from Int.not_lt.mpr (Int.natCast_nonneg k))]
        exact p (.int (Int.ofNat k) u) as1 h1 tk I1 (.refl ..) (.int _ _)
      | negSucc k =>
        rw [if_pos (show Int.negSucc k < 0 by omega), show -Int.negSucc k = Int.ofNat (Nat.succ k) from rfl]
        exact p (.int (Int.ofNat (Nat.succ k)) u) as1 h1 tk I1 (.refl ..) (.int _ _)
    | _ => exact p.elim
theorem e_min {np pos : Pos} {e₁ e₂ : PySem.Expr} {a b : Den} (hg : c.mg (Str.ofString "min") = none) (hm : c.mb (Str.ofString "min") = some (.builtin "min")) (hx : sc.names.lookup (Str.ofString "min") = some .globalImplicit)
    (he : ∀ env, starEach [e₁, e₂] env = (false, eval e₁ env) :: starEach [e₂] env) (he2 : ∀ env, starEach [e₂] env = (false, eval e₂ env) :: starEach [] env) (ha : SndE c sc Γ e₁ a) (hb : SndE c sc Γ e₂ b) :
    SndE c sc Γ (.Call (.Name (Str.ofString "min") np) [e₁, e₂] [] pos) (cMin a b) := fun C d A env as vals Hp s Q hC hA S I R p => by
  unfold cMin at p
  refine Call_ (n_boot S I.base _ np hg hm hx (by decide) ?_)
  refine callWith_builtin1 ?_ (he env) (by rw [he2 env]; rfl)
  refine args_cons (ha C d A env as vals Hp s _ hC hA S I R ?_) (he env)
  cases ea : a C vals Hp with
  | err => rw [ea] at p; exact p
  | ok x H1 =>
    rw [ea] at p
    intro val as1 h1 tk1 I1 X1 V1
    replace p : PostR c as1 { s with heap := h1, toks := tk1 } ((b C vals H1).bind fun y h => minV x y h) Q := PostR.later p X1
    refine args_cons (hb C d A env as1 vals H1 _ _ hC hA S I1 (R.up X1) ?_) (he2 env)
    cases eb : b C vals H1 with
    | err => rw [eb] at p; exact p
    | ok y H2 =>
      rw [eb] at p
      intro val2 as2 h2 tk2 I2 X2 V2
      have p2 := PostR.later (tk := tk2) p X2
      replace p : PostR c as2 { s with heap := h2, toks := tk2 } (minV x y H2) Q := p2
      refine args_nil ?_
      cases V1 with
      | int i t => cases V2 with
        | int j u =>
          refine min_two_ints hA.handled fun h3 tk3 hk => ?_
          replace p : PostR c as2 { s with heap := h2, toks := tk2 } (match Z.ltB j i with
            | true => .ok (.int j) H2
            | false => .ok (.int i) H2) Q := p
          rw [ltB_dec] at p
          by_cases q : j < i
          · rw [decide_eq_true q] at p
            rw [if_pos q]
            exact p _ as2 h3 tk3 (I2.grown hk) (.grown hk) (.int _ _)
          · rw [decide_eq_false q] at p
            rw [if_neg q]
            exact p _ as2 h3 tk3 (I2.grown hk) (.grown hk) (.int _ _)
        | _ => exact p.elim
      | _ => cases V2 <;> exact p.elim
theorem e_bitlen {apos pos : Pos} {e : PySem.Expr} {a : Den} (pl : Env → Sem Bool)
    (he : ∀ env, eval (.Call (.Attribute e (Str.ofString "bit_length") apos) [] [] pos) env = (do
      let ov ← eval e env
      standAt apos.atName
      let (f, first) ← holding [ov] (getMethod ov (Str.ofString "bit_length") (pl env))
      callWith pos f first (backTo pos (starEach [] env)) [])) (ha : SndE c sc Γ e a) : SndE c sc Γ (.Call (.Attribute e (Str.ofString "bit_length") apos) [] [] pos) (cBitlen a) := fun C d A env as vals Hp s Q hC hA S I R p => by
  unfold cBitlen at p
  refine MethodCall_ (ha C d A env as vals Hp s _ hC hA S I R ?_) (he env)
  cases ea : a C vals Hp with
  | err => rw [ea] at p; exact p
  | ok x H1 =>
    rw [ea] at p
    intro val as1 h1 tk1 I1 X1 V1
    replace p : PostR c as1 { s with heap := h1, toks := tk1 } (bitlenV x H1) Q := PostR.later p X1
    unfold bitlenV at p
    split at p
    · rename_i k
      cases V1 with
      | int i t =>
        refine getMethod_int_bit_length ?_
        refine callWith_method0 (call_int_bit_length ?_)
        unfold Builtin.Int.intBits
        by_cases h0 : k = 0
        · subst h0
          exact p (.int 0 tk1) as1 h1 _ I1 (.refl ..) (.int _ _)
        · rw [BT.beq_eq, decide_eq_false h0] at p
          rw [if_neg (by simp only [beq_iff_eq]; show ¬ ((k : Int) = 0); omega)]
          exact p (.int (Int.ofNat (Nat.succ (Nat.log2 k))) tk1) as1 h1 _ I1 (.refl ..) (.int _ _)
    · exact p.elim

-- items
theorem place_list {k : Int} {n p : Nat} (h : place k n = some p) (hn : n ≤ 100000) : (0 ≤ k ∧ k < 2 ^ 63 ∧ p = k.toNat) ∨ (k < 0 ∧ -(n : Int) ≤ k ∧ -(2 ^ 63) ≤ k ∧ p = (k + n).toNat) := by
  unfold place at h
  split at h
  · rename_i j
    split at h
    · rename_i q
      have := Nat.lt_of_succ_le (Nat.le_of_ble_eq_true q)
      cases h
      left
      refine ⟨Int.natCast_nonneg _, ?_, rfl⟩
      show (p : Int) < _
      omega
    · cases h
  · rename_i j
    split at h
    · rename_i q
      have := Nat.lt_of_succ_le (Nat.le_of_ble_eq_true q)
      cases h
      right
      refine ⟨by omega, by omega, by omega, by omega⟩
    · cases h
theorem e_idx {value slice : PySem.Expr} {a i : Den} (pos : Pos) (hs : ∀ (o : Addr) (k : Int) (u : Tok), subscripted slice false (.ref o) (.int k u) = operate [.ref o, .int k u] (getItem (.ref o) (.int k u)))
    (ha : SndE c sc Γ value a) (hi : SndE c sc Γ slice i) : SndE c sc Γ (.Subscript value slice pos) (cIdx a i) := fun C d A env as vals Hp s Q hC hA S I R p => by
  unfold cIdx at p
  refine Subscript_ (ha C d A env as vals Hp s _ hC hA S I R ?_)
  cases ea : a C vals Hp with
  | err => rw [ea] at p; exact p
  | ok x H1 =>
    rw [ea] at p
    intro val as1 h1 tk1 I1 X1 V1
    replace p : PostR c as1 { s with heap := h1, toks := tk1 } ((i C vals H1).bind fun y h => idxV x y h) Q := PostR.later p X1
    refine hi C d A env as1 vals H1 _ _ hC hA S I1 (R.up X1) ?_
    cases eb : i C vals H1 with
    | err => rw [eb] at p; exact p
    | ok y H2 =>
      rw [eb] at p
      intro val2 as2 h2 tk2 I2 X2 V2
      have p2 := PostR.later (tk := tk2) p X2
      replace p : PostR c as2 { s with heap := h2, toks := tk2 } (idxV x y H2) Q := p2
      replace V1 := V1.up X2.pre
      unfold idxV at p
      split at p
      · rename_i r k
        cases V1 with
        | ref ea => cases V2 with
          | int k u =>
            split at p
            · rename_i xs g
              split at p
              · rename_i j hj f
                have f' := few_le f
                obtain ⟨items, v, q⟩ := get_seq I2 ea g
                rw [nth_eq] at p
                cases hx : xs[j]? with
                | none => rw [hx] at p; exact p.elim
                | some w =>
                  rw [hx] at p
                  obtain ⟨val3, hv3, V3⟩ := v.get hx
                  have e : Q val3 { s with heap := h2, toks := tk2 } := p val3 as2 h2 tk2 I2 (.refl ..) V3
                  have hl := v.length
                  rcases q with ⟨n, l⟩ | l
                  · refine tail_any (listIs l).typeIs list_getitem_lookup ?_ (hs _ _ _)
                    rcases place_list hj f' with ⟨b0, b1, rfl⟩ | ⟨b0, b1, b2, rfl⟩
                    · exact wpAny_getItem_list (listIs l) b0 b1 (by simpa using hv3) e
                    · refine wpAny_getItem_list_neg (listIs l) b0 (by rw [List.size_toArray, hl]; exact b1) b2 ?_ e
                      rw [List.size_toArray, hl]; simpa using hv3
                  · refine tail_any (T := "tuple") l.typeIs slot_tuple_getitem.lookup ?_ (hs _ _ _)
                    refine PyProof.Rows.getItem_tuple l ?_ ?_ (j := j) ?_ (by simpa using hv3) e
                    · rcases place_list hj f' with ⟨b0, b1, _⟩ | ⟨b0, b1, b2, _⟩ <;> omega
                    · rcases place_list hj f' with ⟨b0, b1, _⟩ | ⟨b0, b1, b2, _⟩ <;> omega
                    · have hjl : j < xs.length := (List.getElem?_eq_some_iff.mp hx).1
                      rw [List.size_toArray, hl]
                      rcases place_list hj f' with ⟨b0, b1, rfl⟩ | ⟨b0, b1, b2, rfl⟩
                      · unfold seqIndex?
                        simp only [if_neg (Int.not_lt.mpr b0)]
                        rw [if_pos (by simp only [Bool.and_eq_true, decide_eq_true_eq]; omega)]
                      · exact seqIndex_neg b0 b1
              · exact p.elim
            · exact p.elim
      · exact p.elim
end
end Mine

namespace Mine
open PySem PySem.W PySem.Calls PyProof.Rows

theorem pick_lo (items : Array Value) (a : Nat) (hi : Option Int) : slicePick items (some (a : Int)) hi none = slicePick items (some ((min a items.size : Nat) : Int)) hi none := by
  have e : sliceBounds (some (a : Int)) hi none items.size = sliceBounds (some ((min a items.size : Nat) : Int)) hi none items.size := by
    simp only [sliceBounds, Option.getD_none]
    have h1 : ¬ ((a : Int) < 0) := by omega
    have h2 : ¬ (((min a items.size : Nat) : Int) < 0) := by omega
    simp only [h1, h2, if_false, show (1 : Int) > 0 by decide, if_true]
    congr 1
    omega
  unfold slicePick
  rw [e]
theorem pick_hi (items : Array Value) (b : Nat) (lo : Option Int) : slicePick items lo (some (b : Int)) none = slicePick items lo (some ((min b items.size : Nat) : Int)) none := by
  have e : sliceBounds lo (some (b : Int)) none items.size = sliceBounds lo (some ((min b items.size : Nat) : Int)) none items.size := by
    simp only [sliceBounds, Option.getD_none]
    have h1 : ¬ ((b : Int) < 0) := by omega
    have h2 : ¬ (((min b items.size : Nat) : Int) < 0) := by omega
    simp only [h1, h2, if_false, show (1 : Int) > 0 by decide, if_true]
    congr 2
    omega
  unfold slicePick
  rw [e]
theorem pick_drop (items : List Value) (a : Nat) : slicePick items.toArray (some (a : Int)) none none = (items.drop a).toArray := by
  rw [pick_lo, slicePick_from _ _ (Nat.min_le_right ..)]
  congr 1
  by_cases h : a ≤ items.length
  · rw [List.size_toArray, Nat.min_eq_left h]
  · rw [List.size_toArray, Nat.min_eq_right (by omega), List.drop_eq_nil_of_le (Nat.le_refl _), List.drop_eq_nil_of_le (by omega)]
theorem pick_take (items : List Value) (b : Nat) : slicePick items.toArray none (some (b : Int)) none = (items.take b).toArray := by
  rw [pick_hi, slicePick_upto _ _ (Nat.min_le_right ..)]
  congr 1
  by_cases h : b ≤ items.length
  · rw [List.size_toArray, Nat.min_eq_left h]
  · rw [List.size_toArray, Nat.min_eq_right (by omega), List.take_of_length_le (Nat.le_refl _), List.take_of_length_le (by omega)]

inductive IsB : Option Nat → Option Int → Prop
  | none : IsB none none
  | some (n : Nat) : IsB (some n) (some (n : Int))
section
variable {c : Cx} {s : Shared} {as : List Addr} {Hp : H} {Q : Value → Shared → Prop}
theorem slice_post (I : Inv c as Hp s.heap) {x : V} {o : Value} (Vx : VR c.fa as x o) {l u : Option Nat} {lo hi : Option Int} {vl vu : Value} (bl : IsB l lo) (bu : IsB u hi) (pl : IsPart vl lo) (pu : IsPart vu hi) (p : PostR c as s (sliceV x l u Hp) Q) :
    ∃ l items lo hi, o = .ref l ∧ s.heap.IsList l items ∧ items.size ≤ sizeLine ∧ IsPart vl lo ∧ IsPart vu hi ∧
      Q (.ref (s.heap.objs.size + 1)) { s with heap := (s.heap.push { cls := .type "slice", data := .fields #[vl, vu, .none] }).push { cls := .type "list", data := .seq (slicePick items lo hi none) } } := by
  unfold sliceV at p
  split at p
  · rename_i r
    cases Vx with
    | ref ea =>
      rename_i a
      split at p
      · rename_i xs g
        split at p
        · rename_i f
          have f' := few_le f
          obtain ⟨items, n, hl, v⟩ := get_list I ea g
          have hz := sizeLine_ge
          have key : ∀ (ys : List V) (its : List Value), PostR c as s (alloc (.list ys) Hp) Q → slicePick items.toArray lo hi none = its.toArray → VRs c.fa as ys its →
              Q (.ref (s.heap.objs.size + 1)) { s with heap := (s.heap.push { cls := .type "slice", data := .fields #[vl, vu, .none] }).push { cls := .type "list", data := .seq (slicePick items.toArray lo hi none) } } := fun ys its p e w => by
            rw [e]
            have hsz : (s.heap.push { cls := .type "slice", data := .fields #[vl, vu, .none] }).objs.size = s.heap.objs.size + 1 := Heap.size_push ..
            refine alloc_post (a := s.heap.objs.size + 1) I p (fun b' ob e => Heap.get?_push_of_some _ (Heap.get?_push_of_some _ e)) (Heap.get?_none_of_le (Nat.le_succ _)) ?_ (.list (n := 0) ?_ w) s.toks
            · cases e : c.h₀.get? (s.heap.objs.size + 1) with
              | none => rfl
              | some o => exact absurd (Heap.lt_size (I.base _ o e)) (Nat.not_lt.mpr (Nat.le_succ _))
            · rw [← hsz]; exact Heap.get?_push_size _ rfl
          refine ⟨a, items.toArray, lo, hi, rfl, listIs hl, by rw [List.size_toArray, v.length]; omega, pl, pu, ?_⟩
          cases bl with
          | none => cases bu with
            | none => exact key xs items p (slicePick_all _) v
            | some u => exact key _ _ p (pick_take _ _) (v.take u)
          | some l => cases bu with
            | none => exact key _ _ p (pick_drop _ _) (v.drop l)
            | some u =>
              dsimp only at p
              split at p
              · rename_i h1 h2
                have h1' := Nat.le_of_ble_eq_true h1
                have h2' := Nat.le_of_ble_eq_true h2
                refine key _ _ p ?_ ((v.drop l).take _)
                rw [slicePick_run _ _ _ (by rw [List.size_toArray, v.length]; exact h2') h1']
                rfl
              · exact p.elim
        · exact p.elim
      · exact p.elim
  · exact p.elim
end

section
variable {c : Cx} {sc : Scope} {Γ : List (Str × Nat)}
theorem bound1_ok {y : V} {Hp : H} {k : Nat → H → Rv} {c : Cx} {as : List Addr} {s : Shared} {Q : Value → Shared → Prop} {val : Value} (V : VR c.fa as y val) (p : PostR c as s (bound1 y Hp k) Q) : ∃ u t, y = .int (.ofNat u) ∧ val = .int (Int.ofNat u) t ∧ PostR c as s (k u Hp) Q := by
  unfold bound1 at p
  split at p
  · rename_i u
    split at p
    · cases V; exact ⟨_, _, rfl, rfl, p⟩
    · exact p.elim
  · exact p.elim
theorem e_slice_nn {value : PySem.Expr} {a : Den} (sp pos : Pos) (ht : ∀ o r, letTemporaryGo value o r = pure ()) (ha : SndE c sc Γ value a) : SndE c sc Γ (.Subscript value (.Slice none none none sp) pos) (cSliceNN a) := fun C d A env as vals Hp s Q hC hA S I R p => by
  unfold cSliceNN at p
  refine wpAny_Subscript_list_slice (ha C d A env as vals Hp s _ hC hA S I R ?_) ht
  cases ea : a C vals Hp with
  | err => rw [ea] at p; exact p
  | ok x H1 =>
    rw [ea] at p
    intro val as1 h1 tk1 I1 X1 V1
    replace p : PostR c as1 { s with heap := h1, toks := tk1 } (sliceV x none none H1) Q := PostR.later p X1
    exact evalPart_none_step (evalPart_none_step (slice_post (s := { s with heap := h1, toks := tk1 }) I1 V1 .none .none .none .none p))
theorem e_slice_ns {value e : PySem.Expr} {a b : Den} (sp pos : Pos) (ht : ∀ o r, letTemporaryGo value o r = pure ()) (ha : SndE c sc Γ value a) (hb : SndE c sc Γ e b) : SndE c sc Γ (.Subscript value (.Slice none (some e) none sp) pos) (cSliceNS a b) := fun C d A env as vals Hp s Q hC hA S I R p => by
  unfold cSliceNS at p
  refine wpAny_Subscript_list_slice (ha C d A env as vals Hp s _ hC hA S I R ?_) ht
  cases ea : a C vals Hp with
  | err => rw [ea] at p; exact p
  | ok x H1 =>
    rw [ea] at p
    intro val as1 h1 tk1 I1 X1 V1
    replace p : PostR c as1 { s with heap := h1, toks := tk1 } ((b C vals H1).bind fun y h => bound1 y h fun u h => sliceV x none (some u) h) Q := PostR.later p X1
    refine evalPart_none_step (evalPart_some_step (hb C d A env as1 vals H1 _ _ hC hA S I1 (R.up X1) ?_))
    cases eb : b C vals H1 with
    | err => rw [eb] at p; exact p
    | ok y H2 =>
      rw [eb] at p
      intro val2 as2 h2 tk2 I2 X2 V2
      have p2 := PostR.later (tk := tk2) p X2
      replace p : PostR c as2 { s with heap := h2, toks := tk2 } (bound1 y H2 fun u h => sliceV x none (some u) h) Q := p2
      obtain ⟨u, t, rfl, rfl, p⟩ := bound1_ok V2 p
      exact slice_post (s := { s with heap := h2, toks := tk2 }) I2 (V1.up X2.pre) .none (.some u) .none (.int _ _) p
theorem e_slice_sn {value e : PySem.Expr} {a b : Den} (sp pos : Pos) (ht : ∀ o r, letTemporaryGo value o r = pure ()) (ha : SndE c sc Γ value a) (hb : SndE c sc Γ e b) : SndE c sc Γ (.Subscript value (.Slice (some e) none none sp) pos) (cSliceSN a b) := fun C d A env as vals Hp s Q hC hA S I R p => by
  unfold cSliceSN at p
  refine wpAny_Subscript_list_slice (ha C d A env as vals Hp s _ hC hA S I R ?_) ht
  cases ea : a C vals Hp with
  | err => rw [ea] at p; exact p
  | ok x H1 =>
    rw [ea] at p
    intro val as1 h1 tk1 I1 X1 V1
    replace p : PostR c as1 { s with heap := h1, toks := tk1 } ((b C vals H1).bind fun y h => bound1 y h fun u h => sliceV x (some u) none h) Q := PostR.later p X1
    refine evalPart_some_step (hb C d A env as1 vals H1 _ _ hC hA S I1 (R.up X1) ?_)
    cases eb : b C vals H1 with
    | err => rw [eb] at p; exact p
    | ok y H2 =>
      rw [eb] at p
      intro val2 as2 h2 tk2 I2 X2 V2
      have p2 := PostR.later (tk := tk2) p X2
      replace p : PostR c as2 { s with heap := h2, toks := tk2 } (bound1 y H2 fun u h => sliceV x (some u) none h) Q := p2
      obtain ⟨u, t, rfl, rfl, p⟩ := bound1_ok V2 p
      exact evalPart_none_step (slice_post (s := { s with heap := h2, toks := tk2 }) I2 (V1.up X2.pre) (.some u) .none (.int _ _) .none p)
theorem e_slice_ss {value e e' : PySem.Expr} {a b b' : Den} (sp pos : Pos) (ht : ∀ o r, letTemporaryGo value o r = pure ()) (ha : SndE c sc Γ value a) (hb : SndE c sc Γ e b) (hb' : SndE c sc Γ e' b') : SndE c sc Γ (.Subscript value (.Slice (some e) (some e') none sp) pos) (cSliceSS a b b') := fun C d A env as vals Hp s Q hC hA S I R p => by
  unfold cSliceSS at p
  refine wpAny_Subscript_list_slice (ha C d A env as vals Hp s _ hC hA S I R ?_) ht
  cases ea : a C vals Hp with
  | err => rw [ea] at p; exact p
  | ok x H1 =>
    rw [ea] at p
    intro val as1 h1 tk1 I1 X1 V1
    replace p : PostR c as1 { s with heap := h1, toks := tk1 } ((b C vals H1).bind fun y h => (b' C vals h).bind fun z h => bound1 y h fun l h => bound1 z h fun u h => sliceV x (some l) (some u) h) Q := PostR.later p X1
    refine evalPart_some_step (hb C d A env as1 vals H1 _ _ hC hA S I1 (R.up X1) ?_)
    cases eb : b C vals H1 with
    | err => rw [eb] at p; exact p
    | ok y H2 =>
      rw [eb] at p
      intro val2 as2 h2 tk2 I2 X2 V2
      have p2 := PostR.later (tk := tk2) p X2
      replace p : PostR c as2 { s with heap := h2, toks := tk2 } ((b' C vals H2).bind fun z h => bound1 y h fun l h => bound1 z h fun u h => sliceV x (some l) (some u) h) Q := p2
      refine evalPart_some_step (hb' C d A env as2 vals H2 _ _ hC hA S I2 ((R.up X1).up X2) ?_)
      cases ec : b' C vals H2 with
      | err => rw [ec] at p; exact p
      | ok z H3 =>
        rw [ec] at p
        intro val3 as3 h3 tk3 I3 X3 V3
        have p3 := PostR.later (tk := tk3) p X3
        replace p : PostR c as3 { s with heap := h3, toks := tk3 } (bound1 y H3 fun l h => bound1 z h fun u h => sliceV x (some l) (some u) h) Q := p3
        obtain ⟨l, t, rfl, rfl, p⟩ := bound1_ok (V2.up X3.pre) p
        obtain ⟨u, t', rfl, rfl, p⟩ := bound1_ok V3 p
        exact slice_post (s := { s with heap := h3, toks := tk3 }) I3 ((V1.up X2.pre).up X3.pre) (.some l) (.some u) (.int _ _) (.int _ _) p
end
end Mine

namespace Mine
open PySem PySem.W PySem.Calls PyProof.Rows

theorem ns_unique {h : Heap} {a : Addr} {m m' : Str → Option Value} (x : h.Ns a m) (y : h.Ns a m') : m = m' := by
  obtain ⟨o, es, ep, ho, hd, _, hm⟩ := x
  obtain ⟨o', es', ep', ho', hd', _, hm'⟩ := y
  rw [ho] at ho'; cases ho'
  rw [hd] at hd'; cases hd'
  funext n
  rw [← hm, ← hm']
theorem lookup_memN {x : Str} {a : Nat} : ∀ {l : List (Str × Nat)}, l.lookup x = some a → (x, a) ∈ l
  | (y, b) :: l, e => by
    rw [List.lookup_cons] at e
    cases q : x == y with
    | true => rw [q] at e; cases e; rw [eq_of_beq q]; exact .head _
    | false => rw [q] at e; exact .tail _ (lookup_memN e)
theorem slot_inj {x y : Str} {i : Nat} : ∀ {l : List (Str × Nat)}, (l.map (·.2)).Nodup → (x, i) ∈ l → (y, i) ∈ l → x = y
  | p :: l, hn, hx, hy => by
    rw [List.map_cons, List.nodup_cons] at hn
    cases hx with
    | head => cases hy with
      | head => rfl
      | tail _ hy => exact absurd (List.mem_map_of_mem (f := (·.2)) hy) hn.1
    | tail _ hx => cases hy with
      | head => exact absurd (List.mem_map_of_mem (f := (·.2)) hx) hn.1
      | tail _ hy => exact slot_inj hn.2 hx hy

section
variable {c : Cx} {sc : Scope} {Γ : List (Str × Nat)}
-- a name is stored
theorem store_sound {A : Around} {env : Env} {as : List Addr} {vals : List V} {Hp : H} {s : Shared} {v : V} {val : Value} {Q : Unit → Shared → Prop} {x : Str} {i : Nat} (S : EnvS sc env) (I : Inv c as Hp s.heap) (R : EnvR c env Γ as vals s.heap) (hV : VR c.fa as v val)
    (hΓ : (Γ.map (·.2)).Nodup) (hi : Γ.lookup x = some i) (hx : sc.names.lookup x = some .local ∨ (sc.names.lookup x = some .cell ∧ ∃ a, env.cells.lookup x = some a))
    (q : ∀ h' tk, Inv c as Hp h' → Ext (privs env) as s.heap as h' → EnvR c env Γ as (setAt vals i v) h' → Q () { s with heap := h', toks := tk }) :
    wpAny (model c.prog c.w) A (storeName env x val) Q F' s := by
  have kx : env.kindOf x = sc.names.lookup x := by unfold Env.kindOf; rw [S.scope]
  have other : ∀ (y : Str) (j : Nat) (w : V), Γ.lookup y = some j → (setAt vals i v)[j]? = some w → (y = x ∧ w = v) ∨ (y ≠ x ∧ vals[j]? = some w) := fun y j w hy hw => by
    rw [setAt_eq, List.getElem?_set] at hw
    by_cases hij : i = j
    · subst hij
      rw [if_pos rfl] at hw
      split at hw
      · cases hw; exact .inl ⟨slot_inj hΓ (lookup_memN hy) (lookup_memN hi), rfl⟩
      · cases hw
    · rw [if_neg hij] at hw
      exact .inr ⟨fun e => hij (by rw [e, hi] at hy; exact Option.some.inj hy), hw⟩
  have keepAll : ∀ {a : Addr} {h' : Heap}, a ∈ privs env → Heap.SameBut a s.heap h' → (∃ o, h'.get? a = some o) → Inv c as Hp h' ∧ Ext (privs env) as s.heap as h' := fun {a h'} ha hs ho => by
    have off := R.off a ha
    refine ⟨⟨I.len, fun j b e => ?_, I.nodup, fun b o e => (hs.2 b fun z => ?_).trans (I.base b o e), I.sep, I.lim⟩, ⟨.refl as, fun b o hb _ e => (hs.2 b fun z => hb (z ▸ ha)).trans e, fun b o e => ?_, fun _ m => .inl m⟩⟩
    · obtain ⟨o, ho', r⟩ := I.obj j b e
      exact ⟨o, ho', r.up (.refl as) fun ob x => (hs.2 b fun z => off (z ▸ List.mem_of_getElem? e)).trans x⟩
    · rw [z, R.new a ha] at e; cases e
    · by_cases z : b = a
      · exact z ▸ ho
      · exact ⟨o, (hs.2 b z).trans e⟩
  rcases hx with hx | ⟨hx, a, ha⟩
  · obtain ⟨m, hm⟩ := R.ns
    refine wpAny_storeName_local (kx.trans hx) hm (fun h' hn hs => ?_) S.plain
    have hL : env.locals ∈ privs env := .head _
    obtain ⟨I', X'⟩ := keepAll hL hs (by obtain ⟨o, _, _, ho, _⟩ := hn; exact ⟨o, ho⟩)
    refine q h' _ I' X' ⟨⟨_, hn⟩, fun p hp => ?_, R.off, R.inj, R.cellL, R.new, fun y j w hy hw hu => ?_⟩
    · obtain ⟨u, o, ho, hd⟩ := R.cells p hp
      exact ⟨u, o, (hs.2 _ (R.cellL p hp)).trans ho, hd⟩
    · rcases other y j w hy hw with ⟨rfl, rfl⟩ | ⟨hne, hw⟩
      · exact ⟨val, hV, .inl ⟨kx.trans hx, _, hn, if_pos rfl⟩⟩
      · obtain ⟨val', hV', hA⟩ := R.var y j w hy hw hu
        refine ⟨val', hV', ?_⟩
        rcases hA with ⟨hk, m', hm', hy'⟩ | ⟨hk, b, hb, o, ho, hd⟩
        · rw [ns_unique hm' hm] at hy'
          exact .inl ⟨hk, _, hn, (if_neg hne).trans hy'⟩
        · exact .inr ⟨hk, b, hb, o, (hs.2 _ (R.cellL _ (lookup_mem hb))).trans ho, hd⟩
  · obtain ⟨v₀, hc⟩ := R.cells _ (lookup_mem ha)
    refine wpAny_storeName_cell S.fn (kx.trans hx) ha hc fun h' hc' hs => ?_
    have hL : a ∈ privs env := privs_cell (lookup_mem ha)
    obtain ⟨I', X'⟩ := keepAll hL hs (by obtain ⟨o, ho, _⟩ := hc'; exact ⟨o, ho⟩)
    have hLa : env.locals ≠ a := fun z => R.cellL _ (lookup_mem ha) z.symm
    obtain ⟨m, oN, es, ep, hN, rest⟩ := R.ns
    refine q h' _ I' X' ⟨⟨m, oN, es, ep, (hs.2 _ hLa).trans hN, rest⟩, fun p hp => ?_, R.off, R.inj, R.cellL, R.new, fun y j w hy hw hu => ?_⟩
    · by_cases z : p.2 = a
      · exact ⟨_, z ▸ hc'⟩
      · obtain ⟨u, o, ho, hd⟩ := R.cells p hp
        exact ⟨u, o, (hs.2 _ z).trans ho, hd⟩
    · rcases other y j w hy hw with ⟨rfl, rfl⟩ | ⟨hne, hw⟩
      · exact ⟨val, hV, .inr ⟨.inl (kx.trans hx), a, ha, hc'⟩⟩
      · obtain ⟨val', hV', hA⟩ := R.var y j w hy hw hu
        refine ⟨val', hV', ?_⟩
        rcases hA with ⟨hk, m', ⟨o, es', ep', ho, r⟩, hy'⟩ | ⟨hk, b, hb, o, ho, hd⟩
        · exact .inl ⟨hk, m', ⟨o, es', ep', (hs.2 _ hLa).trans ho, r⟩, hy'⟩
        · refine .inr ⟨hk, b, hb, o, (hs.2 _ fun z => hne ?_).trans ho, hd⟩
          have := R.inj _ (lookup_mem hb) _ (lookup_mem ha) z
          exact congrArg Prod.fst this

-- where a name may be stored: a local's name, or one with a cell
def Sto (sc : Scope) (Γ : List (Str × Nat)) (x : Str) (i : Nat) : Prop := (Γ.map (·.2)).Nodup ∧ Γ.lookup x = some i ∧ (sc.names.lookup x = some .local ∨ sc.names.lookup x = some .cell)
theorem sto_sound {A : Around} {env : Env} {as : List Addr} {vals : List V} {Hp : H} {s : Shared} {v : V} {val : Value} {Q : Unit → Shared → Prop} {x : Str} {i : Nat} (S : EnvS sc env) (I : Inv c as Hp s.heap) (R : EnvR c env Γ as vals s.heap) (hV : VR c.fa as v val)
    (hs : Sto sc Γ x i) (q : ∀ h' tk, Inv c as Hp h' → Ext (privs env) as s.heap as h' → EnvR c env Γ as (setAt vals i v) h' → Q () { s with heap := h', toks := tk }) :
    wpAny (model c.prog c.w) A (storeName env x val) Q F' s :=
  store_sound S I R hV hs.1 hs.2.1 (hs.2.2.imp id fun h => ⟨h, S.cellsOf x h⟩) q

theorem s_asg {x : Str} {np pos : Pos} {e : PySem.Expr} {a : Den} {i : Nat} (hs : Sto sc Γ x i) (hw : ∀ env, swapsWith e (some (.Name x np)) pos.line env = pure false) (ha : SndE c sc Γ e a) : SndS c sc Γ (.Assign [.Name x np] e pos) (sAsg i a) := fun C d A env as vals Hp s Q hC hA S I R p => by
  unfold sAsg at p
  refine wpAny_Assign_Name (ha C d A env as vals Hp s _ hC hA S I R ?_) (hw env)
  cases ea : a C vals Hp with
  | err => rw [ea] at p; exact p
  | ok v H1 =>
    rw [ea] at p
    intro val as1 h1 tk1 I1 X1 V1
    replace p : PostS c env Γ as1 { s with heap := h1, toks := tk1 } (.next (setAt vals i v) H1) Q := PostS.laterE p X1
    exact sto_sound (s := { s with heap := h1, toks := tk1 }) S I1 (R.up X1) V1 hs fun h' tk I' X' R' => p as1 h' tk I' X' R'

-- several names in their order
theorem stores_cons (i : Nat) (is : List Nat) (v : V) (vs env : List V) : stores (i :: is) (v :: vs) env = stores is vs (setAt env i v) := rfl
theorem names_sound {A : Around} {env : Env} (S : EnvS sc env) (xs : List Str) : ∀ (is : List Nat) (as : List Addr) (vals vals' : List V) (Hp : H) (s : Shared) (vs : List V) (its : List Value) (Q : Unit → Shared → Prop), Inv c as Hp s.heap → EnvR c env Γ as vals s.heap → VRs c.fa as vs its →
    xs.length = is.length → (∀ p ∈ xs.zip is, Sto sc Γ p.1 p.2) → stores is vs vals = some vals' →
    (∀ h' tk, Inv c as Hp h' → Ext (privs env) as s.heap as h' → EnvR c env Γ as vals' h' → Q () { s with heap := h', toks := tk }) →
    wpAny (model c.prog c.w) A (assignInOrder (xs.map fun n => bindName env n) its) Q F' s := by
  induction xs with
  | nil =>
    intro is as vals vals' Hp s vs its Q I R V hl _ e q
    cases is with
    | nil => cases V with
      | nil => cases e; exact assignInOrder_nil (q s.heap s.toks I (.refl ..) R)
      | cons => cases e
    | cons => cases hl
  | cons x xs ih =>
    intro is as vals vals' Hp s vs its Q I R V hl hs e q
    cases is with
    | nil => cases hl
    | cons i is => cases V with
      | nil => cases e
      | cons hv hr =>
        refine assignInOrder_cons (wpAny_bindName (sto_sound S I R hv (hs (x, i) (.head _)) fun h' tk I' X' R' => ?_))
        exact ih is as _ vals' Hp { s with heap := h', toks := tk } _ _ _ I' R' hr (Nat.succ.inj hl) (fun p hp => hs p (.tail _ hp)) e fun h2 tk2 I2 X2 R2 => q h2 tk2 I2 (X'.trans X2) R2

theorem VRs.reverse {fa : Nat → Addr} {as : List Addr} {vs : List V} {xs : List Value} (h : VRs fa as vs xs) : VRs fa as vs.reverse xs.reverse := by
  induction h with
  | nil => exact .nil
  | cons hv _ ih => rw [List.reverse_cons, List.reverse_cons]; exact ih.append (.cons hv .nil)
theorem ext_all {h h' : Heap} (x : Heap.ExtBut h.objs.size h h') : ∀ b o, h.get? b = some o → h'.get? b = some o := fun b o e => x b o (Nat.ne_of_lt (Heap.lt_size e)) e
inductive Nms : List PySem.Expr → List Str → Prop
  | nil : Nms [] []
  | cons {x p es xs} : Nms es xs → Nms (.Name x p :: es) (x :: xs)
theorem Nms.length {es xs} (h : Nms es xs) : xs.length = es.length := by induction h with
  | nil => rfl
  | cons _ ih => rw [List.length_cons, List.length_cons, ih]
theorem nms_assign {es xs env} (h : Nms es xs) : (assignEach es env).length = es.length ∧ List.findIdx? (fun x => x.fst) (assignEach es env) = none := by
  induction h with
  | nil => exact ⟨rfl, rfl⟩
  | cons _ ih =>
    rename_i x p es xs _
    have e : assignEach (.Name x p :: es) env = (false, assign (.Name x p) env) :: assignEach es env := rfl
    rw [e]
    refine ⟨by rw [List.length_cons, List.length_cons, ih.1], ?_⟩
    rw [List.findIdx?_cons, ih.2]; rfl
theorem names_sound2 {A : Around} {env : Env} (S : EnvS sc env) {es : List PySem.Expr} {xs : List Str} (hn : Nms es xs) : ∀ (is : List Nat) (as : List Addr) (vals vals' : List V) (Hp : H) (s : Shared) (vs : List V) (its : List Value) (Q : Unit → Shared → Prop), Inv c as Hp s.heap → EnvR c env Γ as vals s.heap → VRs c.fa as vs its →
    xs.length = is.length → (∀ p ∈ xs.zip is, Sto sc Γ p.1 p.2) → stores is vs vals = some vals' →
    (∀ h' tk, Inv c as Hp h' → Ext (privs env) as s.heap as h' → EnvR c env Γ as vals' h' → Q () { s with heap := h', toks := tk }) →
    wpAny (model c.prog c.w) A (assignInOrder ((assignEach es env).map (·.2)) its) Q F' s := by
  induction hn with
  | nil =>
    intro is as vals vals' Hp s vs its Q I R V hl _ e q
    cases is with
    | nil => cases V with
      | nil => cases e; exact assignInOrder_nil (q s.heap s.toks I (.refl ..) R)
      | cons => cases e
    | cons => cases hl
  | cons _ ih =>
    rename_i x p es xs _
    intro is as vals vals' Hp s vs its Q I R V hl hs e q
    cases is with
    | nil => cases hl
    | cons i is => cases V with
      | nil => cases e
      | cons hv hr =>
        refine assignInOrder_cons (wpAny_assign_Name (sto_sound S I R hv (hs (x, i) (.head _)) fun h' tk I' X' R' => ?_))
        exact ih is as _ vals' Hp { s with heap := h', toks := tk } _ _ _ I' R' hr (Nat.succ.inj hl) (fun p hp => hs p (.tail _ hp)) e fun h2 tk2 I2 X2 R2 => q h2 tk2 I2 (X'.trans X2) R2
theorem stores_len : ∀ {is : List Nat} {vs env env' : List V}, stores is vs env = some env' → is.length = vs.length
  | [], [], _, _, _ => rfl
  | _ :: is, _ :: vs, _, _, e => congrArg Nat.succ (stores_len (is := is) (vs := vs) e)
  | [], _ :: _, _, _, e => nomatch e
  | _ :: _, [], _, _, e => nomatch e

-- a display unpacked: the tuple that is made is dropped
theorem s_unpackT {elts vs : List PySem.Expr} {k k' : Nat} {tp vp pos : Pos} {xs : List Str} {is : List Nat} {ds : List Den} (hn : Nms elts xs) (hl : xs.length = is.length) (hs : ∀ p ∈ xs.zip is, Sto sc Γ p.1 p.2) (hd : ds.length ≤ 1000)
    (h1 : ∀ env, env.scope = sc → swapsWithSole [.Tuple elts k tp] (.Tuple vs k' vp) pos.line env = pure false) (h2 : ∀ env, env.scope = sc → swappedStores [.Tuple elts k tp] (.Tuple vs k' vp) env = pure none)
    (h : SndL c sc Γ vp vs ds) : SndS c sc Γ (.Assign [.Tuple elts k tp] (.Tuple vs k' vp) pos) (sUnpackT is ds) := fun C d A env as vals Hp s Q hC hA S I R p => by
  unfold sUnpackT at p
  refine Assign_Tuple (Tuple_ (h C d A env as vals Hp s _ hC hA S I R ?_)) (h1 env S.scope) (h2 env S.scope)
  cases ea : evs ds C vals Hp with
  | err => rw [ea] at p; exact p
  | ok ws H1 =>
    rw [ea] at p
    intro its as1 h1 tk1 I1 X1 V1
    replace p : PostS c env Γ as1 { s with heap := h1, toks := tk1 } (storeR is ws vals H1) Q := PostS.laterE p X1
    unfold storeR at p
    split at p
    · rename_i vals' e
      have hz := sizeLine_ge
      have hlen : its.length = ds.length := by rw [V1.length, evs_length ea]
      refine wpAny_newObj_type ?_ (by show its.toArray.size ≤ sizeLine; rw [List.size_toArray]; omega)
      have g1 : ∀ b o, h1.get? b = some o → (h1.push { cls := .type "tuple", data := .seq its.toArray }).get? b = some o := fun b o e => Heap.get?_push_of_some _ e
      refine wpAny_assign_Tuple (items := its.toArray) hA.handled ⟨_, Heap.get?_push_size _ rfl, rfl, 0, rfl⟩ ?_ (nms_assign hn).2 fun h2 hx2 => ?_
      · rw [(nms_assign hn).1, ← hn.length, hl, List.size_toArray, stores_len e, V1.length]
      · have g2 : ∀ b o, h1.get? b = some o → h2.get? b = some o := fun b o e => ext_all hx2 b o (g1 b o e)
        refine names_sound2 S hn is as1 vals vals' H1 { s with heap := h2, toks := tk1 } ws _ _ (I1.grown g2) ((R.up X1).up (.grown g2)) V1 hl hs e fun h3 tk3 I3 X3 R3 => ?_
        exact p as1 h3 tk3 I3 (.trans (.grown g2) X3) R3
    · exact p.elim
theorem s_unpackW {elts vs : List PySem.Expr} {k k' : Nat} {tp vp pos : Pos} {xs : List Str} {is : List Nat} {ds : List Den} (hl : xs.length = is.length) (hs : ∀ p ∈ xs.reverse.zip is, Sto sc Γ p.1 p.2) (hd : ds.length ≤ 1000)
    (h1 : ∀ env, env.scope = sc → swapsWithSole [.Tuple elts k tp] (.Tuple vs k' vp) pos.line env = pure false) (h2 : ∀ env, env.scope = sc → swappedStores [.Tuple elts k tp] (.Tuple vs k' vp) env = pure (some xs))
    (h : SndL c sc Γ vp vs ds) : SndS c sc Γ (.Assign [.Tuple elts k tp] (.Tuple vs k' vp) pos) (sUnpackW is ds) := fun C d A env as vals Hp s Q hC hA S I R p => by
  unfold sUnpackW at p
  refine Assign_Tuple_swapped (names := xs) (Tuple_ (h C d A env as vals Hp s _ hC hA S I R ?_)) (h1 env S.scope) (h2 env S.scope)
  cases ea : evs ds C vals Hp with
  | err => rw [ea] at p; exact p
  | ok ws H1 =>
    rw [ea] at p
    intro its as1 h1 tk1 I1 X1 V1
    replace p : PostS c env Γ as1 { s with heap := h1, toks := tk1 } (storeR is ws.reverse vals H1) Q := PostS.laterE p X1
    unfold storeR at p
    split at p
    · rename_i vals' e
      have hz := sizeLine_ge
      have hlen : its.length = ds.length := by rw [V1.length, evs_length ea]
      refine wpAny_newObj_type ?_ (by show its.toArray.size ≤ sizeLine; rw [List.size_toArray]; omega)
      have g1 : ∀ b o, h1.get? b = some o → (h1.push { cls := .type "tuple", data := .seq its.toArray }).get? b = some o := fun b o e => Heap.get?_push_of_some _ e
      have hsz : xs.length = its.toArray.size := by rw [hl, List.size_toArray, stores_len e, List.length_reverse, V1.length]
      rw [hsz]
      refine wpAny_unpackItems_tuple (items := its.toArray) hA.handled ⟨_, Heap.get?_push_size _ rfl, rfl, 0, rfl⟩ fun h2 hx2 => ?_
      have g2 : ∀ b o, h1.get? b = some o → h2.get? b = some o := fun b o e => ext_all hx2 b o (g1 b o e)
      refine names_sound S xs.reverse is as1 vals vals' H1 { s with heap := h2, toks := tk1 } ws.reverse _ _ (I1.grown g2) ((R.up X1).up (.grown g2)) V1.reverse (by rw [List.length_reverse]; exact hl) hs e fun h3 tk3 I3 X3 R3 => ?_
      exact p as1 h3 tk3 I3 (.trans (.grown g2) X3) R3
    · exact p.elim
theorem s_unpack {elts : List PySem.Expr} {v : PySem.Expr} {k : Nat} {tp pos : Pos} {xs : List Str} {is : List Nat} {a : Den} (hn : Nms elts xs) (hl : xs.length = is.length) (hs : ∀ p ∈ xs.zip is, Sto sc Γ p.1 p.2)
    (h1 : ∀ env, env.scope = sc → swapsWithSole [.Tuple elts k tp] v pos.line env = pure false) (h2 : ∀ env, env.scope = sc → swappedStores [.Tuple elts k tp] v env = pure none)
    (h : SndE c sc Γ v a) : SndS c sc Γ (.Assign [.Tuple elts k tp] v pos) (sUnpack is a) := fun C d A env as vals Hp s Q hC hA S I R p => by
  unfold sUnpack at p
  refine Assign_Tuple (h C d A env as vals Hp s _ hC hA S I R ?_) (h1 env S.scope) (h2 env S.scope)
  cases ea : a C vals Hp with
  | err => rw [ea] at p; exact p
  | ok x H1 =>
    rw [ea] at p
    intro val as1 h1 tk1 I1 X1 V1
    replace p : PostS c env Γ as1 { s with heap := h1, toks := tk1 } (unpackV is vals x H1) Q := PostS.laterE p X1
    unfold unpackV at p
    split at p
    · rename_i r
      cases V1 with
      | ref ea =>
        split at p
        · rename_i ws g
          obtain ⟨its, ht, V1⟩ := get_tup I1 ea g
          unfold storeR at p
          split at p
          · rename_i vals' e
            refine wpAny_assign_Tuple (items := its.toArray) hA.handled ht ?_ (nms_assign hn).2 fun h2 hx2 => ?_
            · rw [(nms_assign hn).1, ← hn.length, hl, List.size_toArray, stores_len e, V1.length]
            · have g2 : ∀ b o, h1.get? b = some o → h2.get? b = some o := fun b o e => ext_all hx2 b o e
              refine names_sound2 S hn is as1 vals vals' H1 { s with heap := h2, toks := tk1 } ws _ _ (I1.grown g2) ((R.up X1).up (.grown g2)) V1 hl hs e fun h3 tk3 I3 X3 R3 => ?_
              exact p as1 h3 tk3 I3 (.trans (.grown g2) X3) R3
          · exact p.elim
        · exact p.elim
    · exact p.elim
end
end Mine

namespace Mine
open PySem PySem.W PySem.Calls PyProof.Rows

section
variable {c : Cx} {sc : Scope} {Γ : List (Str × Nat)}
theorem wide {env : Env} {as as' : List Addr} {h h' : Heap} (x : Ext [] as h as' h') : Ext (privs env) as h as' h' := x.weak fun _ m => nomatch m
theorem s_ret {e : PySem.Expr} {a : Den} (pos : Pos) (ha : SndE c sc Γ e a) : SndS c sc Γ (.Return (some e) pos) (sRet a) := fun C d A env as vals Hp s Q hC hA S I R p => by
  unfold sRet at p
  refine wpAny_Return_some (ha C d A env as vals Hp s _ hC hA S I R ?_)
  cases ea : a C vals Hp with
  | err => rw [ea] at p; exact p
  | ok v H1 =>
    rw [ea] at p
    intro val as1 h1 tk1 I1 X1 V1
    exact p val as1 h1 tk1 I1 (wide X1) V1
theorem s_expr {e : PySem.Expr} {a : Den} (pos : Pos) (hw : ∀ env, swapsWith e none pos.line env = pure false) (ha : SndE c sc Γ e a) : SndS c sc Γ (.Expr e pos) (sExpr a) := fun C d A env as vals Hp s Q hC hA S I R p => by
  unfold sExpr at p
  refine wpAny_Expr_any (ha C d A env as vals Hp s _ hC hA S I R ?_) (by unfold interactive; rw [S.fn]; rfl) (hw env)
  cases ea : a C vals Hp with
  | err => rw [ea] at p; exact p
  | ok v H1 =>
    rw [ea] at p
    intro val as1 h1 tk1 I1 X1 V1
    exact p as1 h1 tk1 I1 (wide X1) (R.up X1)
theorem s_iff {e : PySem.Expr} {b₁ b₂ : List Stmt} {a : Den} {x y : DenS} (pos : Pos) (ha : SndT c sc Γ e a) (hx : SndB c sc Γ b₁ x) (hy : SndB c sc Γ b₂ y) : SndS c sc Γ (.If e b₁ b₂ pos) (sIff a x y) := fun C d A env as vals Hp s Q hC hA S I R p => by
  unfold sIff at p
  refine wpAny_If (ha C d A env as vals Hp s _ hC hA S I R ?_)
  cases ea : a C vals Hp with
  | err => rw [ea] at p; exact p
  | ok v H1 =>
    rw [ea] at p
    cases v with
    | bool t =>
      intro as1 h1 tk1 I1 X1
      cases t with
      | true =>
        replace p : PostS c env Γ as1 { s with heap := h1, toks := tk1 } (x C vals H1) Q := PostS.laterE p X1
        exact hx C d A env as1 vals H1 _ _ hC hA S I1 (R.up X1) p
      | false =>
        replace p : PostS c env Γ as1 { s with heap := h1, toks := tk1 } (y C vals H1) Q := PostS.laterE p X1
        exact hy C d A env as1 vals H1 _ _ hC hA S I1 (R.up X1) p
    | _ => exact p.elim
theorem b_nil : SndB c sc Γ [] sSkip := fun C d A env as vals Hp s Q hC hA S I R p => wpAny_execs_nil (p as s.heap s.toks I (.refl ..) R)
theorem b_cons {st : Stmt} {rest : List Stmt} {x y : DenS} (hx : SndS c sc Γ st x) (hy : SndB c sc Γ rest y) : SndB c sc Γ (st :: rest) (sSeq x y) := fun C d A env as vals Hp s Q hC hA S I R p => by
  unfold sSeq at p
  refine wpAny_execs_cons (hx C d A env as vals Hp s _ hC hA S I R ?_)
  cases ea : x C vals Hp with
  | err => rw [ea] at p; exact p
  | next vals1 H1 =>
    rw [ea] at p
    intro as1 h1 tk1 I1 X1 R1
    exact hy C d A env as1 vals1 H1 _ _ hC hA S I1 R1 (PostS.later p X1)
  | ret v H1 =>
    rw [ea] at p
    intro val as1 h1 tk1 I1 X1 V1
    exact p val as1 h1 tk1 I1 X1 V1
-- a statement that is never run
theorem s_fail (st : Stmt) : SndS c sc Γ st sFail := fun C d A env as vals Hp s Q hC hA S I R p => p.elim

theorem load_sound {A : Around} {env : Env} {as : List Addr} {vals : List V} {Hp : H} {s : Shared} {Q : Value → Shared → Prop} {x : Str} {i : Nat} {C : Call} (S : EnvS sc env) (I : Inv c as Hp s.heap) (R : EnvR c env Γ as vals s.heap) (hi : Γ.lookup x = some i) (hc : (x == Str.ofString "__classdict__") = false)
    (p : PostR c as s (cVar i C vals Hp) Q) : wpAny (model c.prog c.w) A (loadName env x) Q F' s := by
  rw [cVar_eq] at p
  cases hv : vals[i]? with
  | none => rw [hv] at p; exact p.elim
  | some v =>
    rw [hv] at p
    dsimp only at p
    cases ho : okV v Hp with
    | err => rw [ho] at p; exact p.elim
    | ok w Hp' =>
      obtain ⟨hu, rfl, rfl⟩ := okV_some ho
      rw [ho] at p
      obtain ⟨val, hV, hA⟩ := R.var x i w hi hv hu
      have q := p val as s.heap s.toks I (.refl ..) hV
      rcases hA with ⟨hk, m, hn, hm⟩ | ⟨hk, a, ha, hcell⟩
      · exact wpAny_loadName_local S.fn hk hn hm q
      · rcases hk with hk | hk
        · exact wpAny_loadName_cell S.fn hk ha hcell q
        · exact wpAny_loadName_free S.fn hk ha hcell q hc
theorem s_aug {x : Str} {np pos : Pos} {e : PySem.Expr} {a : Den} {i : Nat} (op : BOp) (hop : op = .add ∨ op = .sub ∨ op = .shr ∨ op = .bor ∨ op = .mod) (hs : Sto sc Γ x i) (hc : (x == Str.ofString "__classdict__") = false) (ha : SndE c sc Γ e a) :
    SndS c sc Γ (.AugAssign (.Name x np) (opOf op) e pos) (sAug i op a) := fun C d A env as vals Hp s Q hC hA S I R p => by
  unfold sAug at p
  refine wpAny_AugAssign_Name (load_sound (C := C) S I R hs.2.1 hc ?_)
  cases ev : cVar i C vals Hp with
  | err => rw [ev] at p; exact p
  | ok xv H1 =>
    rw [ev] at p
    intro val as1 h1 tk1 I1 X1 V1
    replace p : PostS c env Γ as1 { s with heap := h1, toks := tk1 } ((a C vals H1).bindS fun y h => augV i op xv y vals h) Q := PostS.laterE p X1
    refine ha C d A env as1 vals H1 _ _ hC hA S I1 (R.up X1) ?_
    cases eb : a C vals H1 with
    | err => rw [eb] at p; exact p
    | ok y H2 =>
      rw [eb] at p
      intro val2 as2 h2 tk2 I2 X2 V2
      have p2 := PostS.laterE (tk := tk2) p X2
      replace p : PostS c env Γ as2 { s with heap := h2, toks := tk2 } (augV i op xv y vals H2) Q := p2
      have R2 := (R.up X1).up X2
      replace V1 := V1.up X2.pre
      cases V1 with
      | int j t => cases V2 with
        | int k u =>
          replace p : PostS c env Γ as2 { s with heap := h2, toks := tk2 } ((intOp op j k H2).bindS fun v h => .next (setAt vals i v) h) Q := p
          refine int_aug (s := { s with heap := h2, toks := tk2 }) I2 op hop ?_
          cases ec : intOp op j k H2 with
          | err => rw [ec] at p; exact p
          | ok v H3 =>
            rw [ec] at p
            intro val3 as3 h3 tk3 I3 X3 V3
            have p3 := PostS.laterE (tk := tk3) p X3
            replace p : PostS c env Γ as3 { s with heap := h3, toks := tk3 } (.next (setAt vals i v) H3) Q := p3
            exact sto_sound (s := { s with heap := h3, toks := tk3 }) S I3 (R2.up X3) V3 hs fun h' tk I' X' R' => p as3 h' tk I' X' R'
        | _ => exact p.elim
      | _ => cases V2 <;> exact p.elim

theorem mapSeq_list (its : Array Value) (n : Nat) (f : Array Value → Array Value) : ∃ n', Obj.mapSeq f (listOf its n) = listOf (f its) n' := ⟨_, rfl⟩
theorem s_setidx {o i e : PySem.Expr} {a b v : Den} (sp pos : Pos) (hw : ∀ env, swapsWith e (some (.Subscript o i sp)) pos.line env = pure false) (ha : SndE c sc Γ o a) (hb : SndE c sc Γ i b) (hv : SndE c sc Γ e v) :
    SndS c sc Γ (.Assign [.Subscript o i sp] e pos) (sSetidx a b v) := fun C d A env as vals Hp s Q hC hA S I R p => by
  unfold sSetidx at p
  refine wpAny_Assign_Subscript (hv C d A env as vals Hp s _ hC hA S I R ?_) (hw env)
  cases e1 : v C vals Hp with
  | err => rw [e1] at p; exact p
  | ok w H1 =>
    rw [e1] at p
    intro val1 as1 h1 tk1 I1 X1 V1
    replace p : PostS c env Γ as1 { s with heap := h1, toks := tk1 } ((a C vals H1).bindS fun x h => (b C vals h).bindS fun y h => setIdxV x y w vals h) Q := PostS.laterE p X1
    refine ha C d A env as1 vals H1 _ _ hC hA S I1 (R.up X1) ?_
    cases e2 : a C vals H1 with
    | err => rw [e2] at p; exact p
    | ok x H2 =>
      rw [e2] at p
      intro val2 as2 h2 tk2 I2 X2 V2
      have p2 := PostS.laterE (tk := tk2) p X2
      replace p : PostS c env Γ as2 { s with heap := h2, toks := tk2 } ((b C vals H2).bindS fun y h => setIdxV x y w vals h) Q := p2
      have R2 := (R.up X1).up X2
      refine hb C d A env as2 vals H2 _ _ hC hA S I2 R2 ?_
      cases e3 : b C vals H2 with
      | err => rw [e3] at p; exact p
      | ok y H3 =>
        rw [e3] at p
        intro val3 as3 h3 tk3 I3 X3 V3
        have p3 := PostS.laterE (tk := tk3) p X3
        replace p : PostS c env Γ as3 { s with heap := h3, toks := tk3 } (setIdxV x y w vals H3) Q := p3
        replace V1 := (V1.up X2.pre).up X3.pre
        replace V2 := V2.up X3.pre
        have R3 := R2.up X3
        unfold setIdxV at p
        split at p
        · rename_i r k
          cases V2 with
          | ref ea => cases V3 with
            | int _ u =>
              rename_i ad
              split at p
              · rename_i xs g
                split at p
                · rename_i hk f
                  have f' := few_le f
                  have hk' := Nat.lt_of_succ_le (Nat.le_of_ble_eq_true hk)
                  obtain ⟨items, n, hl, vv⟩ := get_list I3 ea g
                  have hlen := vv.length
                  obtain ⟨n', hm⟩ := mapSeq_list items.toArray n (·.setIfInBounds (Int.ofNat k).toNat val1)
                  have ho : (h3.update ad (Obj.mapSeq (·.setIfInBounds (Int.ofNat k).toNat val1))).get? ad = some (listOf (items.set k val1).toArray n') := by
                    rw [Heap.get?_update_self _ hl (by rw [hm]; rfl), hm]
                    have : items.toArray.setIfInBounds (Int.ofNat k).toNat val1 = (items.set k val1).toArray := by
                      show items.toArray.setIfInBounds k val1 = _
                      simp
                    rw [this]
                  refine ki_setAt (s := { s with heap := h3, toks := tk3 }) (n := n) hl (Int.natCast_nonneg k) (by show (k : Int) < _; omega) (by show (k : Int) < (items.toArray.size : Int); rw [List.size_toArray, hlen]; omega) ?_
                  have hs : Heap.SameBut ad h3 (h3.update ad (Obj.mapSeq (·.setIfInBounds (Int.ofNat k).toNat val1))) := .update ..
                  have X4 : Ext [] as3 h3 as3 (h3.update ad (Obj.mapSeq (·.setIfInBounds (Int.ofNat k).toNat val1))) := .set (List.mem_of_getElem? ea) hs ho
                  refine p as3 _ tk3 (I3.set ea hs (.list ho ?_)) (wide X4) (R3.up X4)
                  rw [setAt_eq]; exact vv.set V1
                · exact p.elim
              · exact p.elim
        · exact p.elim
theorem s_append {o e : PySem.Expr} {a b : Den} (apos cpos pos : Pos) (pl : Env → Sem Bool) (hw : ∀ env, swapsWith (.Call (.Attribute o (Str.ofString "append") apos) [e] [] cpos) none pos.line env = pure false)
    (hm : ∀ env, eval (.Call (.Attribute o (Str.ofString "append") apos) [e] [] cpos) env = (do
      let ov ← eval o env
      standAt apos.atName
      let (f, first) ← holding [ov] (getMethod ov (Str.ofString "append") (pl env))
      callWith cpos f first (backTo cpos (starEach [e] env)) []))
    (he : ∀ env, starEach [e] env = (false, eval e env) :: starEach [] env) (ha : SndE c sc Γ o a) (hb : SndE c sc Γ e b) :
    SndS c sc Γ (.Expr (.Call (.Attribute o (Str.ofString "append") apos) [e] [] cpos) pos) (sAppend a b) := fun C d A env as vals Hp s Q hC hA S I R p => by
  unfold sAppend at p
  refine wpAny_Expr_any (MethodCall_ (ha C d A env as vals Hp s _ hC hA S I R ?_) (hm env)) (by unfold interactive; rw [S.fn]; rfl) (hw env)
  cases e1 : a C vals Hp with
  | err => rw [e1] at p; exact p
  | ok x H1 =>
    rw [e1] at p
    intro val1 as1 h1 tk1 I1 X1 V1
    replace p : PostS c env Γ as1 { s with heap := h1, toks := tk1 } (isListK x H1 ((b C vals H1).bindS fun v h => appendV x v vals h)) Q := PostS.laterE p X1
    unfold isListK at p
    split at p
    · rename_i r
      cases V1 with
      | ref ea =>
        rename_i ad
        split at p
        · rename_i xs g
          obtain ⟨items, n, hl, vv⟩ := get_list I1 ea g
          refine getMethod_builtin (T := "list") ⟨_, hl, rfl⟩ PySem.F.plainAttrs_list PySem.F.slot_list_append PySem.F.type_list_append (fun a' ea' => by cases ea'; exact ⟨_, hl, rfl⟩) ?_
          refine callWith_method1 ?_ (he env)
          refine args_cons (hb C d A env as1 vals H1 _ _ hC hA S I1 (R.up X1) ?_) (he env)
          cases e2 : b C vals H1 with
          | err => rw [e2] at p; exact p
          | ok y H2 =>
            rw [e2] at p
            intro val2 as2 h2 tk2 I2 X2 V2
            have p2 := PostS.laterE (tk := tk2) p X2
            replace p : PostS c env Γ as2 { s with heap := h2, toks := tk2 } (appendV (.ref r) y vals H2) Q := p2
            have R2 := (R.up X1).up X2
            have ea2 := X2.pre.at ea
            refine args_nil ?_
            replace p : PostS c env Γ as2 { s with heap := h2, toks := tk2 } (match getList H2 r with
              | some xs => match few xs.length with
                | true => .next vals (putList H2 r (xs ++ [y]))
                | false => .err
              | Option.none => .err) Q := p
            cases g2 : getList H2 r with
            | none => rw [g2] at p; exact p.elim
            | some ys =>
              rw [g2] at p
              dsimp only at p
              split at p
              · rename_i f
                have f' := few_le f
                have hz := sizeLine_ge
                obtain ⟨items2, n2, hl2, vv2⟩ := get_list I2 ea2 g2
                refine append_at (s := { s with heap := h2, toks := tk2 }) (its := items2.toArray) (n := n2) (x := val2) hl2 (fun h3 hs ho => ?_) (by rw [List.size_toArray, vv2.length]; omega)
                have ho' : h3.get? ad = some (listOf (items2 ++ [val2]).toArray (n2 + 1)) := by
                  rw [ho]; simp
                have X3 : Ext [] as2 h2 as2 h3 := .set (List.mem_of_getElem? ea2) hs ho'
                exact p as2 h3 tk2 (I2.set ea2 hs (.list ho' (vv2.append (.cons V2 .nil)))) (wide X3) (R2.up X3)
              · exact p.elim
        · exact p.elim
    · exact p.elim
end
end Mine

namespace Mine
open PySem PySem.W PySem.Calls PyProof.Rows

section
variable {c : Cx} {sc : Scope} {Γ : List (Str × Nat)}
theorem whileLoop_succ (cd : List V → H → Rv) (b : List V → H → Rs) (n : Nat) (env : List V) (h : H) : whileLoop cd b (n + 1) env h = (cd env h).bindS fun x h => testS x ((b env h).bind (whileLoop cd b n)) (.next env h) := rfl
theorem s_while {e : PySem.Expr} {body : List Stmt} {a : Den} {b : DenS} (pos : Pos) (ha : SndT c sc Γ e a) (hb : SndB c sc Γ body b) : SndS c sc Γ (.While e body [] pos) (sWhile a b) := fun C d A env as vals Hp s Q hC hA S I R p => by
  unfold sWhile at p
  refine wpAny_While ?_
  refine codeAny_whileLoop (fun n s' => ∃ as' vals' Hp' h' tk, s' = { s with heap := h', toks := tk } ∧ Inv c as' Hp' h' ∧ Ext (privs env) as s.heap as' h' ∧ EnvR c env Γ as' vals' h' ∧ PostS c env Γ as s (whileLoop (a C) (b C) n vals' Hp') Q) ?_ 100000
    ⟨as, vals, Hp, s.heap, s.toks, rfl, I, .refl .., R, p⟩
  rintro n s' ⟨as', vals', Hp', h', tk, rfl, I', X', R', p'⟩
  cases n with
  | zero => exact p'.elim
  | succ n =>
    rw [whileLoop_succ] at p'
    refine wpAny_mono (ha C d A env as' vals' Hp' { s with heap := h', toks := tk } (fun t s₂ => if t = true then
          wpAny (model c.prog c.w) A (execs body env) (fun f s₃ => match f with
              | .next => ∃ m, m < n + 1 ∧ ∃ as' vals' Hp' h' tk, s₃ = { s with heap := h', toks := tk } ∧ Inv c as' Hp' h' ∧ Ext (privs env) as s.heap as' h' ∧ EnvR c env Γ as' vals' h' ∧ PostS c env Γ as s (whileLoop (a C) (b C) m vals' Hp') Q
              | .cont => False
              | .brk => False
              | .ret v => Q (.ret v) s₃) F' s₂
        else Q .next s₂) hC hA S I' R' ?_) (fun t s₂ hq => ?_) fun _ _ x => x.elim
    · cases ea : a C vals' Hp' with
      | err => rw [ea] at p'; exact p'
      | ok v H1 =>
        rw [ea] at p'
        cases v with
        | bool t =>
          intro as1 h1 tk1 I1 X1
          have X1' := X'.trans (wide X1)
          cases t with
          | true =>
            rw [if_pos rfl]
            replace p' : PostS c env Γ as s ((b C vals' H1).bind (whileLoop (a C) (b C) n)) Q := p'
            refine hb C d A env as1 vals' H1 { s with heap := h1, toks := tk1 } _ hC hA S I1 (R'.up X1) ?_
            cases eb : b C vals' H1 with
            | err => rw [eb] at p'; exact p'
            | next vals2 H2 =>
              rw [eb] at p'
              intro as2 h2 tk2 I2 X2 R2
              exact ⟨n, Nat.lt_succ_self n, as2, vals2, H2, h2, tk2, rfl, I2, X1'.trans X2, R2, p'⟩
            | ret v H2 =>
              rw [eb] at p'
              intro val as2 h2 tk2 I2 X2 V2
              exact p' val as2 h2 tk2 I2 (X1'.trans X2) V2
          | false =>
            rw [if_neg Bool.false_ne_true]
            exact p' as1 h1 tk1 I1 X1' (R'.up X1)
        | _ => exact p'.elim
    · cases t with
      | true =>
        rw [if_pos rfl] at hq ⊢
        refine wpAny_mono hq (fun f s₃ hf => ?_) fun _ _ x => x.elim
        cases f with
        | next => exact hf
        | cont => exact hf.elim
        | brk => exact hf.elim
        | ret v => exact hf
      | false =>
        rw [if_neg Bool.false_ne_true] at hq ⊢
        exact wpAny_execs_nil hq

def UpdX (X : List Addr) (h h' : Heap) : Prop := ∀ b o, b ∉ X → h.get? b = some o → h'.get? b = some o
theorem Inv.other {as : List Addr} {Hp : H} {h h' : Heap} {X : List Addr} (I : Inv c as Hp h) (hX : ∀ b ∈ X, b ∉ as) (h0 : ∀ b ∈ X, c.h₀.get? b = none) (k : UpdX X h h') : Inv c as Hp h' :=
  ⟨I.len, fun i a e => let ⟨o, q, r⟩ := I.obj i a e; ⟨o, q, r.up (.refl as) fun ob x => k a ob (fun m => hX a m (List.mem_of_getElem? e)) x⟩, I.nodup,
    fun b o e => k b o (fun m => by rw [h0 b m] at e; cases e) (I.base b o e), I.sep, I.lim⟩
theorem EnvR.other {env : Env} {as : List Addr} {vals : List V} {h h' : Heap} {X : List Addr} (R : EnvR c env Γ as vals h) (hX : ∀ b ∈ X, b ∉ privs env) (k : UpdX X h h') : EnvR c env Γ as vals h' := by
  have kp : ∀ a ∈ privs env, ∀ o, h.get? a = some o → h'.get? a = some o := fun a m o e => k a o (fun q => hX a q m) e
  obtain ⟨m, oN, es, ep, hN, rest⟩ := R.ns
  refine ⟨⟨m, oN, es, ep, kp _ (.head _) _ hN, rest⟩, fun p hp => ?_, R.off, R.inj, R.cellL, R.new, fun y i v hy hv hu => ?_⟩
  · obtain ⟨v, o, ho, hd⟩ := R.cells p hp
    exact ⟨v, o, kp _ (privs_cell hp) o ho, hd⟩
  · obtain ⟨val, hV, hA⟩ := R.var y i v hy hv hu
    refine ⟨val, hV, ?_⟩
    rcases hA with ⟨hk, m, ⟨o, es, ep, ho, r⟩, hm⟩ | ⟨hk, a, ha, o, ho, hd⟩
    · exact .inl ⟨hk, m, ⟨o, es, ep, kp _ (.head _) _ ho, r⟩, hm⟩
    · exact .inr ⟨hk, a, ha, o, kp a (privs_cell (lookup_mem ha)) o ho, hd⟩
theorem Ext.other {P as as' : List Addr} {h₀ h h' : Heap} {X : List Addr} (x : Ext P as h₀ as' h) (hX : ∀ b ∈ X, h₀.get? b = none) (k : UpdX X h h') : Ext P as h₀ as' h' := by
  have nx : ∀ b o, h₀.get? b = some o → b ∉ X := fun b o e m => by rw [hX b m] at e; cases e
  refine ⟨x.pre, fun b o hP ha e => k b o (nx b o e) (x.keep b o hP ha e), fun b o e => ?_, x.fresh⟩
  obtain ⟨o', e'⟩ := x.alive b o e
  exact ⟨o', k b o' (nx b o e) e'⟩

theorem loop_core {σ : Type} (J : σ → Heap → Prop) (loop : σ → List V → H → Rs) (rank : σ → Nat) (X : List Addr) {x : Str} {np : Pos} {slot : Nat} {body : List Stmt} {bd : DenS} {it : Addr} {C : Call} {d : Nat} {A : Around} {env : Env} {as : List Addr} {vals : List V} {Hp : H} {s : Shared}
    {h1 : Heap} {tk1 : Nat} {k0 : σ} {Q : Flow → Shared → Prop} (hC : SndC c C d) (hA : AOk A d) (S : EnvS sc env) (hb : SndB c sc Γ body bd) (hs : Sto sc Γ x slot)
    (hXn : ∀ b ∈ X, s.heap.get? b = none) (hX0 : ∀ b ∈ X, c.h₀.get? b = none) (hXp : ∀ b ∈ X, b ∉ privs env) (hXa : ∀ b ∈ X, b ∉ as)
    (hJX : ∀ k h, J k h → ∀ b ∈ X, ∃ o, h.get? b = some o) (hJk : ∀ k h h', J k h → (∀ b ∈ X, ∀ o, h.get? b = some o → h'.get? b = some o) → J k h')
    (turn : ∀ k as' vals' Hp' (s' : Shared) Q', Inv c as' Hp' s'.heap → (∀ b ∈ X, b ∉ as') → Pre as as' → J k s'.heap → loop k vals' Hp' ≠ .err →
      (∀ h₁ tk₁, loop k vals' Hp' = .next vals' Hp' → UpdX X s'.heap h₁ → Q' none { s' with heap := h₁, toks := tk₁ }) →
      (∀ h₁ tk₁ v w k', VR c.fa as' w v → loop k vals' Hp' = (bd C (setAt vals' slot w) Hp').bind (loop k') → rank k' < rank k → UpdX X s'.heap h₁ → J k' h₁ → Q' (some v) { s' with heap := h₁, toks := tk₁ }) →
      wpAny (model c.prog c.w) A (pyNext (.ref it)) Q' F' s')
    (ht : ∀ v, letOwnedTupleGo (.Name x np) (.ref it) v = pure ())
    (hJ : J k0 h1) (I : Inv c as Hp h1) (R : EnvR c env Γ as vals h1) (E : Ext (privs env) as s.heap as h1) (p : PostS c env Γ as s (loop k0 vals Hp) Q) :
    codeAny (model c.prog c.w) A (.forLoop (.Name x np) (.ref it) body [] env) (fun r s' => match r with | .ok f => Q f s' | .error e => cameBackBy (model c.prog c.w) A env F' e s') { s with heap := h1, toks := tk1 } := by
  refine codeAny_forLoop (fun n s' => ∃ k as' vals' Hp' h' tk, n = rank k ∧ s' = { s with heap := h', toks := tk } ∧ Inv c as' Hp' h' ∧ Ext (privs env) as s.heap as' h' ∧ EnvR c env Γ as' vals' h' ∧ J k h' ∧ (∀ b ∈ X, b ∉ as') ∧ PostS c env Γ as s (loop k vals' Hp') Q) ?_ (rank k0)
    ⟨k0, as, vals, Hp, h1, tk1, rfl, rfl, I, E, R, hJ, hXa, p⟩ ht
  rintro n s' ⟨k, as', vals', Hp', h', tk, rfl, rfl, I', X', R', hJ', hXa', p'⟩
  have hne : loop k vals' Hp' ≠ .err := fun e => by rw [e] at p'; exact p'
  refine wpAny_mono (turn k as' vals' Hp' { s with heap := h', toks := tk } (fun r s₁ => match r with
      | none => Q .next s₁
      | some v => wpAny (model c.prog c.w) A (assign (.Name x np) env v) (fun _ s₂ => wpAny (model c.prog c.w) A (execs body env) (fun f s₃ => match f with
          | .next => ∃ m, m < rank k ∧ ∃ k as' vals' Hp' h' tk, m = rank k ∧ s₃ = { s with heap := h', toks := tk } ∧ Inv c as' Hp' h' ∧ Ext (privs env) as s.heap as' h' ∧ EnvR c env Γ as' vals' h' ∧ J k h' ∧ (∀ b ∈ X, b ∉ as') ∧ PostS c env Γ as s (loop k vals' Hp') Q
          | .cont => False
          | .brk => False
          | .ret v => Q (.ret v) s₃) F' s₂) F' s₁) I' hXa' X'.pre hJ' hne (fun h₁ tk₁ e u => ?_) fun h₁ tk₁ v w k' hV e hr u hJ₁ => ?_) (fun r s₁ hq => ?_) fun _ _ x => x.elim
  · rw [e] at p'
    exact p' as' h₁ tk₁ (I'.other hXa' hX0 u) (X'.other hXn u) (R'.other hXp u)
  · rw [e] at p'
    have I1 := I'.other hXa' hX0 u
    have R1 := R'.other hXp u
    have E1 := X'.other hXn u
    refine wpAny_assign_Name (sto_sound (s := { s with heap := h₁, toks := tk₁ }) S I1 R1 hV hs fun h2 tk2 I2 E2 R2 => ?_)
    have J2 : J k' h2 := hJk _ _ _ hJ₁ fun b m o e => E2.keep b o (hXp b m) (hXa' b m) e
    refine hb C d A env as' _ Hp' { s with heap := h2, toks := tk2 } _ hC hA S I2 R2 ?_
    have E12 := E1.trans E2
    cases eb : bd C (setAt vals' slot w) Hp' with
    | err => rw [eb] at p'; exact p'
    | next vals3 H3 =>
      rw [eb] at p'
      intro as3 h3 tk3 I3 E3 R3
      refine ⟨rank k', hr, k', as3, vals3, H3, h3, tk3, rfl, rfl, I3, E12.trans E3, R3, hJk _ _ _ J2 fun b m o e => E3.keep b o (hXp b m) (hXa' b m) e, fun b m q => ?_, p'⟩
      rcases E3.fresh b q with q | q
      · exact hXa' b m q
      · obtain ⟨o, ho⟩ := hJX _ _ J2 b m
        rw [q] at ho; cases ho
    | ret v H3 =>
      rw [eb] at p'
      intro val as3 h3 tk3 I3 E3 V3
      exact p' val as3 h3 tk3 I3 (E12.trans E3) V3
  · cases r with
    | none => exact wpAny_execs_nil hq
    | some v =>
      refine wpAny_mono hq (fun _ s₂ hq => wpAny_mono hq (fun f s₃ hf => ?_) fun _ _ x => x.elim) fun _ _ x => x.elim
      cases f with
      | next => exact hf
      | cont => exact hf.elim
      | brk => exact hf.elim
      | ret v => exact hf
end
end Mine

namespace Mine
open PySem PySem.W PySem.Calls PyProof.Rows

theorem size_up (a b : Int) : Builtin.Range.rangeSize a b 1 = ((Int.sub b a).toNat : Int) := by
  rw [rangeSize_one]
  show _ = ((b - a).toNat : Int)
  split <;> omega
theorem size_down (a b : Int) : Builtin.Range.rangeSize a b (-1) = ((Int.sub a b).toNat : Int) := by
  unfold Builtin.Range.rangeSize
  rw [if_neg (by decide)]
  show _ = ((a - b).toNat : Int)
  rw [show (-(-1) : Int) = 1 by decide, Int.ediv_one]
  split <;> omega
theorem small_down {a b : Int} (ha : a.natAbs ≤ 100000) (hb : b.natAbs ≤ 100000) : Builtin.Range.small a b (-1) = true := by
  unfold Builtin.Range.small
  rw [size_down]
  show (Builtin.Range.rangeFitsLong a && Builtin.Range.rangeFitsLong b && Builtin.Range.rangeFitsLong (-1) && Builtin.Range.rangeFitsLong ((a - b).toNat : Int) && (((a - b).toNat : Int) == 0 || if (-1 : Int) > 0 then _ else Builtin.Range.rangeFitsLong (b + (-1 + 1)))) = true
  rw [if_neg (by decide)]
  simp only [Builtin.Range.rangeFitsLong, Bool.and_eq_true, Bool.or_eq_true, decide_eq_true_eq, beq_iff_eq]
  omega
theorem few_nat {x : Int} (h : few x.natAbs = true) : x.natAbs ≤ 100000 := few_le h

section
variable {c : Cx} {sc : Scope} {Γ : List (Str × Nat)}
theorem rangeLoop_zero (slot : Nat) (body : List V → H → Rs) (step x : Int) (env : List V) (h : H) : rangeLoop slot body step 0 x env h = .next env h := rfl
theorem rangeLoop_succ (slot : Nat) (body : List V → H → Rs) (step : Int) (n : Nat) (x : Int) (env : List V) (h : H) : rangeLoop slot body step (n + 1) x env h = (body (setAt env slot (.int x)) h).bind (rangeLoop slot body step n (Int.add x step)) := rfl
theorem fresh_succ (h : Heap) (o : Obj) : (h.push o).objs.size = h.objs.size + 1 := Heap.size_push ..
-- behind the range object
theorem range_core {x : Str} {np : Pos} {slot : Nat} {body : List Stmt} {bd : DenS} {C : Call} {d : Nat} {A : Around} {env : Env} {as : List Addr} {vals : List V} {Hp : H} {s : Shared} {Q : Flow → Shared → Prop}
    {a b z : Int} {t u v : Tok} {n : Nat} (hC : SndC c C d) (hA : AOk A d) (S : EnvS sc env) (hb : SndB c sc Γ body bd) (hs : Sto sc Γ x slot) (I : Inv c as Hp s.heap) (R : EnvR c env Γ as vals s.heap)
    (hz : Builtin.Range.rangeSize a b z = (n : Int)) (hsm : Builtin.Range.small a b z = true) (p : PostS c env Γ as s (rangeLoop slot (bd C) z n a vals Hp) Q) (tk : Nat) :
    wpAny (model c.prog c.w) A (pyIter (.ref s.heap.objs.size)) (fun it s₂ => codeAny (model c.prog c.w) A (.forLoop (.Name x np) it body [] env) (fun r s' => match r with | .ok f => Q f s' | .error e => cameBackBy (model c.prog c.w) A env F' e s') s₂) F'
      { s with heap := s.heap.push { cls := .type "range", data := .fields #[.int a t, .int b u, .int z v] }, toks := tk } := by
  refine wpAny_pyIter_range (s := { s with heap := s.heap.push { cls := .type "range", data := .fields #[.int a t, .int b u, .int z v] }, toks := tk }) (Heap.get?_push_size _ rfl) hsm ?_
  have g : ∀ b' o, s.heap.get? b' = some o → ((s.heap.push { cls := .type "range", data := .fields #[.int a t, .int b u, .int z v] }).push { cls := .type "range_iterator", data := .fields #[rawInt a, rawInt (Builtin.Range.rangeSize a b z), rawInt z] }).get? b' = some o := fun b' o e => Heap.get?_push_of_some _ (Heap.get?_push_of_some _ e)
  have hX : ∀ b' ∈ [(s.heap.push { cls := .type "range", data := .fields #[.int a t, .int b u, .int z v] }).objs.size], s.heap.get? b' = none := fun b' m => by
    rw [List.mem_singleton.mp m, fresh_succ]; exact Heap.get?_none_of_le (Nat.le_succ _)
  refine loop_core (s := s) (fun k h => IsRangeIter h (s.heap.push { cls := .type "range", data := .fields #[.int a t, .int b u, .int z v] }).objs.size k.2 (k.1 : Int) z) (fun k : Nat × Int => rangeLoop slot (bd C) z k.1 k.2) (fun k => k.1)
    [(s.heap.push { cls := .type "range", data := .fields #[.int a t, .int b u, .int z v] }).objs.size] (k0 := (n, a)) hC hA S hb hs hX (fun b' m => ?_) (fun b' m q => ?_) (fun b' m q => ?_) (fun k h hJ b' m => ?_) (fun k h h' hJ e => ?_) ?_ (fun _ => rfl) ?_ (I.grown g) (R.up (.grown g)) (.grown g) p
  · cases e : c.h₀.get? b' with
    | none => rfl
    | some o => have := hX b' m; rw [I.base _ o e] at this; cases this
  · obtain ⟨o, ho⟩ := R.there q
    rw [hX b' m] at ho; cases ho
  · obtain ⟨o, ho⟩ := I.aliveAt q
    rw [hX b' m] at ho; cases ho
  · rw [List.mem_singleton.mp m]; exact ⟨_, hJ⟩
  · exact e _ (.head _) _ hJ
  · rintro ⟨k, y⟩ as' vals' Hp' s' Q' I' hXa hpre hJ hne kn ks
    cases k with
    | zero => exact wpAny_pyNext_range_end hA.handled hJ (Int.le_refl 0) fun h₁ u => kn h₁ _ rfl fun b' o m e => u b' o (fun q => m (by rw [q]; exact .head _)) e
    | succ k =>
      refine wpAny_pyNext_range_item hJ (by show (0 : Int) < ((k + 1 : Nat) : Int); omega) fun h₁ hJ₁ uu => ks h₁ _ _ (.int y) (k, Int.add y z) (.int _ _) rfl (Nat.lt_succ_self k) (fun b' o m e => (uu.2 b' fun q => m (by rw [q]; exact .head _)).trans e) ?_
      have e : ((k + 1 : Nat) : Int) - 1 = (k : Int) := by omega
      have hJ₂ : IsRangeIter h₁ (s.heap.push { cls := .type "range", data := .fields #[.int a t, .int b u, .int z v] }).objs.size (y + z) (((k + 1 : Nat) : Int) - 1) z := hJ₁
      rw [e] at hJ₂
      exact hJ₂
  · rw [hz]; exact Heap.get?_push_size _ rfl
theorem rangeV_ok {slot : Nat} {body : List V → H → Rs} {a b z : V} {env : Env} {vals : List V} {Hp : H} {as : List Addr} {s : Shared} {Q : Flow → Shared → Prop} (p : PostS c env Γ as s (rangeV slot body a b z vals Hp) Q) :
    ∃ x y w n, a = .int x ∧ b = .int y ∧ z = .int w ∧ rangeCount x y w = some n ∧ few x.natAbs = true ∧ few y.natAbs = true ∧ PostS c env Γ as s (rangeLoop slot body w n x vals Hp) Q := by
  unfold rangeV at p
  split at p
  · split at p
    · rename_i h1 h2 h3
      exact ⟨_, _, _, _, rfl, rfl, rfl, h1, h2, h3, p⟩
    · exact p.elim
  · exact p.elim
theorem count_ok {x y w : Int} {n : Nat} (h : rangeCount x y w = some n) (hx : few x.natAbs = true) (hy : few y.natAbs = true) : (w = 1 ∨ w = -1) ∧ Builtin.Range.rangeSize x y w = (n : Int) ∧ Builtin.Range.small x y w = true := by
  have hx' := few_le hx
  have hy' := few_le hy
  unfold rangeCount at h
  split at h
  · rename_i e
    have e' := (Z.eqB_iff w 1).mp e
    subst e'
    cases h
    exact ⟨.inl rfl, size_up x y, small_one (by omega) (by omega) (by omega) (by omega)⟩
  · split at h
    · rename_i e
      have e' := (Z.eqB_iff w (-1)).mp e
      subst e'
      cases h
      exact ⟨.inr rfl, size_down x y, small_down hx' hy'⟩
    · cases h
theorem s_for1 {x : Str} {np rp cp pos : Pos} {slot : Nat} {e : PySem.Expr} {body : List Stmt} {b : Den} {bd : DenS} (hg : c.mg (Str.ofString "range") = none) (hm : c.mb (Str.ofString "range") = some (.type "range")) (hx : sc.names.lookup (Str.ofString "range") = some .globalImplicit)
    (he : ∀ env, starEach [e] env = (false, eval e env) :: starEach [] env) (hf : ∀ env x, foldedSetIterable (.Call (.Name (Str.ofString "range") rp) [e] [] cp) env x = pure x) (hs : Sto sc Γ x slot) (hb : SndE c sc Γ e b) (hbd : SndB c sc Γ body bd) :
    SndS c sc Γ (.For (.Name x np) (.Call (.Name (Str.ofString "range") rp) [e] [] cp) body [] pos) (sFor1 slot b bd) := fun C d A env as vals Hp s Q hC hA S I R p => by
  unfold sFor1 at p
  refine wpAny_For (Call_ (n_boot S I.base _ rp hg hm hx (by decide) ?_)) (hf env)
  refine PyProof.Rows.callWith_type1 ?_ (he env)
  refine args_cons (hb C d A env as vals Hp s _ hC hA S I R ?_) (he env)
  cases eb : b C vals Hp with
  | err => rw [eb] at p; exact p
  | ok y H1 =>
    rw [eb] at p
    intro val as1 h1 tk1 I1 X1 V1
    replace p : PostS c env Γ as1 { s with heap := h1, toks := tk1 } (rangeV slot (bd C) (.int 0) y (.int 1) vals H1) Q := PostS.laterE p X1
    obtain ⟨_, j, _, n, e1, rfl, e3, hcnt, f1, f2, p⟩ := rangeV_ok p
    cases e1; cases e3
    cases V1
    obtain ⟨_, hz, hsm⟩ := count_ok hcnt f1 f2
    refine args_nil (call_range_1 ?_)
    exact range_core (s := { s with heap := h1, toks := tk1 }) hC hA S hbd hs I1 (R.up X1) hz hsm p _
theorem s_for2 {x : Str} {np rp cp pos : Pos} {slot : Nat} {e₁ e₂ : PySem.Expr} {body : List Stmt} {a b : Den} {bd : DenS} (hg : c.mg (Str.ofString "range") = none) (hm : c.mb (Str.ofString "range") = some (.type "range")) (hx : sc.names.lookup (Str.ofString "range") = some .globalImplicit)
    (he : ∀ env, starEach [e₁, e₂] env = (false, eval e₁ env) :: starEach [e₂] env) (he2 : ∀ env, starEach [e₂] env = (false, eval e₂ env) :: starEach [] env)
    (hf : ∀ env x, foldedSetIterable (.Call (.Name (Str.ofString "range") rp) [e₁, e₂] [] cp) env x = pure x) (hs : Sto sc Γ x slot) (ha : SndE c sc Γ e₁ a) (hb : SndE c sc Γ e₂ b) (hbd : SndB c sc Γ body bd) :
    SndS c sc Γ (.For (.Name x np) (.Call (.Name (Str.ofString "range") rp) [e₁, e₂] [] cp) body [] pos) (sFor2 slot a b bd) := fun C d A env as vals Hp s Q hC hA S I R p => by
  unfold sFor2 at p
  refine wpAny_For (Call_ (n_boot S I.base _ rp hg hm hx (by decide) ?_)) (hf env)
  refine PyProof.Rows.callWith_type1 ?_ (he env) (by rw [he2 env]; rfl)
  refine args_cons (ha C d A env as vals Hp s _ hC hA S I R ?_) (he env)
  cases ea : a C vals Hp with
  | err => rw [ea] at p; exact p
  | ok x1 H1 =>
    rw [ea] at p
    intro val as1 h1 tk1 I1 X1 V1
    replace p : PostS c env Γ as1 { s with heap := h1, toks := tk1 } ((b C vals H1).bindS fun y h => rangeV slot (bd C) x1 y (.int 1) vals h) Q := PostS.laterE p X1
    refine args_cons (hb C d A env as1 vals H1 _ _ hC hA S I1 (R.up X1) ?_) (he2 env)
    cases eb : b C vals H1 with
    | err => rw [eb] at p; exact p
    | ok y H2 =>
      rw [eb] at p
      intro val2 as2 h2 tk2 I2 X2 V2
      have p2 := PostS.laterE (tk := tk2) p X2
      replace p : PostS c env Γ as2 { s with heap := h2, toks := tk2 } (rangeV slot (bd C) x1 y (.int 1) vals H2) Q := p2
      obtain ⟨i, j, _, n, rfl, rfl, e3, hcnt, f1, f2, p⟩ := rangeV_ok p
      cases e3
      cases V1; cases V2
      obtain ⟨_, hz, hsm⟩ := count_ok hcnt f1 f2
      refine args_nil (call_range_2 ?_)
      exact range_core (s := { s with heap := h2, toks := tk2 }) hC hA S hbd hs I2 ((R.up X1).up X2) hz hsm p _
theorem s_for3 {x : Str} {np rp cp pos : Pos} {slot : Nat} {e₁ e₂ e₃ : PySem.Expr} {body : List Stmt} {a b g : Den} {bd : DenS} (hg : c.mg (Str.ofString "range") = none) (hm : c.mb (Str.ofString "range") = some (.type "range")) (hx : sc.names.lookup (Str.ofString "range") = some .globalImplicit)
    (he : ∀ env, starEach [e₁, e₂, e₃] env = (false, eval e₁ env) :: starEach [e₂, e₃] env) (he2 : ∀ env, starEach [e₂, e₃] env = (false, eval e₂ env) :: starEach [e₃] env) (he3 : ∀ env, starEach [e₃] env = (false, eval e₃ env) :: starEach [] env)
    (hf : ∀ env x, foldedSetIterable (.Call (.Name (Str.ofString "range") rp) [e₁, e₂, e₃] [] cp) env x = pure x) (hs : Sto sc Γ x slot) (ha : SndE c sc Γ e₁ a) (hb : SndE c sc Γ e₂ b) (hg3 : SndE c sc Γ e₃ g) (hbd : SndB c sc Γ body bd) :
    SndS c sc Γ (.For (.Name x np) (.Call (.Name (Str.ofString "range") rp) [e₁, e₂, e₃] [] cp) body [] pos) (sFor3 slot a b g bd) := fun C d A env as vals Hp s Q hC hA S I R p => by
  unfold sFor3 at p
  refine wpAny_For (Call_ (n_boot S I.base _ rp hg hm hx (by decide) ?_)) (hf env)
  refine PyProof.Rows.callWith_type1 ?_ (he env) (by rw [he2 env, he3 env]; rfl)
  refine args_cons (ha C d A env as vals Hp s _ hC hA S I R ?_) (he env)
  cases ea : a C vals Hp with
  | err => rw [ea] at p; exact p
  | ok x1 H1 =>
    rw [ea] at p
    intro val as1 h1 tk1 I1 X1 V1
    replace p : PostS c env Γ as1 { s with heap := h1, toks := tk1 } ((b C vals H1).bindS fun y h => (g C vals h).bindS fun z h => rangeV slot (bd C) x1 y z vals h) Q := PostS.laterE p X1
    refine args_cons (hb C d A env as1 vals H1 _ _ hC hA S I1 (R.up X1) ?_) (he2 env)
    cases eb : b C vals H1 with
    | err => rw [eb] at p; exact p
    | ok y H2 =>
      rw [eb] at p
      intro val2 as2 h2 tk2 I2 X2 V2
      have p2 := PostS.laterE (tk := tk2) p X2
      replace p : PostS c env Γ as2 { s with heap := h2, toks := tk2 } ((g C vals H2).bindS fun z h => rangeV slot (bd C) x1 y z vals h) Q := p2
      refine args_cons (hg3 C d A env as2 vals H2 _ _ hC hA S I2 ((R.up X1).up X2) ?_) (he3 env)
      cases ec : g C vals H2 with
      | err => rw [ec] at p; exact p
      | ok z H3 =>
        rw [ec] at p
        intro val3 as3 h3 tk3 I3 X3 V3
        have p3 := PostS.laterE (tk := tk3) p X3
        replace p : PostS c env Γ as3 { s with heap := h3, toks := tk3 } (rangeV slot (bd C) x1 y z vals H3) Q := p3
        obtain ⟨i, j, w, n, rfl, rfl, rfl, hcnt, f1, f2, p⟩ := rangeV_ok p
        cases V1; cases V2; cases V3
        obtain ⟨hw, hz, hsm⟩ := count_ok hcnt f1 f2
        refine args_nil (call_range_3 (by omega) ?_ (.inl (small_pylong (by rcases hw with rfl | rfl <;> rfl))))
        exact range_core (s := { s with heap := h3, toks := tk3 }) hC hA S hbd hs I3 (((R.up X1).up X2).up X3) hz hsm p _

theorem listLoop_succ (slot r : Nat) (body : List V → H → Rs) (n i : Nat) (env : List V) (h : H) : listLoop slot r body (n + 1) i env h = match getList h r with
    | some xs => match nth xs i with
      | Option.none => .next env h
      | some v => (body (setAt env slot v) h).bind (listLoop slot r body n (i + 1))
    | Option.none => .err := rfl
theorem s_forL {x : Str} {np pos : Pos} {slot : Nat} {e : PySem.Expr} {body : List Stmt} {a : Den} {bd : DenS} (hf : ∀ env x, foldedSetIterable e env x = pure x) (hs : Sto sc Γ x slot) (ha : SndE c sc Γ e a) (hbd : SndB c sc Γ body bd) :
    SndS c sc Γ (.For (.Name x np) e body [] pos) (sForL slot a bd) := fun C d A env as vals Hp s Q hC hA S I R p => by
  unfold sForL at p
  refine wpAny_For (ha C d A env as vals Hp s _ hC hA S I R ?_) (hf env)
  cases ea : a C vals Hp with
  | err => rw [ea] at p; exact p
  | ok y H1 =>
    rw [ea] at p
    intro val as1 h1 tk1 I1 X1 V1
    replace p : PostS c env Γ as1 { s with heap := h1, toks := tk1 } (forLV slot (bd C) y vals H1) Q := PostS.laterE p X1
    have R1 := R.up X1
    unfold forLV at p
    split at p
    · rename_i r
      cases V1 with
      | ref er =>
        rename_i l
        have hne : listLoop slot r (bd C) 100000 0 vals H1 ≠ .err := fun e => by rw [e] at p; exact p
        have hg : ∃ xs, getList H1 r = some xs := by
          rw [listLoop_succ] at hne
          cases q : getList H1 r with
          | none => rw [q] at hne; exact absurd rfl hne
          | some xs => exact ⟨xs, rfl⟩
        obtain ⟨xs, g⟩ := hg
        obtain ⟨items, m, hl, vv⟩ := get_list I1 er g
        refine wpAny_pyIter_list (s := { s with heap := h1, toks := tk1 }) (listIs hl) ?_
        have gk : ∀ b' o, h1.get? b' = some o → (h1.push { cls := .type "list_iterator", data := .fields #[.ref l, .int 0 0] }).get? b' = some o := fun b' o e => Heap.get?_push_of_some _ e
        have hX : ∀ b' ∈ [h1.objs.size], h1.get? b' = none := fun b' m => by
          rw [List.mem_singleton.mp m]; exact fresh_at _
        refine loop_core (s := { s with heap := h1, toks := tk1 }) (fun k h => h.IsListIter h1.objs.size l k.2) (fun k : Nat × Nat => listLoop slot r (bd C) k.1 k.2) (fun k => k.1) [h1.objs.size] (k0 := (100000, 0)) hC hA S hbd hs hX (fun b' m => ?_) (fun b' m q => ?_) (fun b' m q => ?_) (fun k h hJ b' m => ?_) (fun k h h' hJ e => ?_) ?_ (fun _ => rfl) ?_ (I1.grown gk) (R1.up (.grown gk)) (.grown gk) p
        · cases e : c.h₀.get? b' with
          | none => rfl
          | some o => have := hX b' m; rw [I1.base _ o e] at this; cases this
        · obtain ⟨o, ho⟩ := R1.there q
          have := hX b' m
          rw [ho] at this; cases this
        · obtain ⟨o, ho⟩ := I1.aliveAt q
          have := hX b' m
          rw [ho] at this; cases this
        · obtain ⟨o, ho, _⟩ := hJ
          rw [List.mem_singleton.mp m]; exact ⟨o, ho⟩
        · obtain ⟨o, ho, r⟩ := hJ
          exact ⟨o, e _ (.head _) _ ho, r⟩
        · rintro ⟨k, i⟩ as' vals' Hp' s' Q' I' hXa hpre hJ hne kn ks
          cases k with
          | zero => exact absurd rfl hne
          | succ k =>
            dsimp only at hne kn ks
            rw [listLoop_succ] at hne kn ks
            cases q : getList Hp' r with
            | none => rw [q] at hne; exact absurd rfl hne
            | some ys =>
              rw [q] at kn ks
              dsimp only at kn ks
              rw [nth_eq] at kn ks
              obtain ⟨items', m', hl', vv'⟩ := get_list I' (hpre.at er) q
              cases qi : ys[i]? with
              | none =>
                rw [qi] at kn
                have : items'.toArray[i]? = none := by
                  rw [List.getElem?_toArray, List.getElem?_eq_none_iff, vv'.length]
                  exact List.getElem?_eq_none_iff.mp qi
                exact wpAny_pyNext_list_end hA.handled hJ (listIs hl') this fun h₁ u => kn h₁ _ rfl fun b' o m e => u b' o (fun q => m (by rw [q]; exact .head _)) e
              | some w =>
                rw [qi] at ks
                obtain ⟨y, hy, V⟩ := vv'.get qi
                exact wpAny_pyNext_list_item hJ (listIs hl') (x := y) (by simpa using hy) fun h₁ hJ₁ u => ks h₁ _ _ w (k, i + 1) V rfl (Nat.lt_succ_self k) (fun b' o m e => (u.2 b' fun q => m (by rw [q]; exact .head _)).trans e) hJ₁
        · exact ⟨_, Heap.get?_push_size _ rfl, rfl, rfl⟩
    · exact p.elim

theorem revLoop_zero (slot r : Nat) (body : List V → H → Rs) (env : List V) (h : H) : revLoop slot r body 0 env h = .next env h := rfl
theorem revLoop_succ (slot r : Nat) (body : List V → H → Rs) (k : Nat) (env : List V) (h : H) : revLoop slot r body (k + 1) env h = match getList h r with
    | some xs => match nth xs k with
      | some v => (body (setAt env slot v) h).bind (revLoop slot r body k)
      | Option.none => .err
    | Option.none => .err := rfl
theorem s_forRev {x : Str} {np rp cp pos : Pos} {slot : Nat} {e : PySem.Expr} {body : List Stmt} {a : Den} {bd : DenS} (hg : c.mg (Str.ofString "reversed") = none) (hm : c.mb (Str.ofString "reversed") = some (.type "reversed")) (hx : sc.names.lookup (Str.ofString "reversed") = some .globalImplicit)
    (he : ∀ env, starEach [e] env = (false, eval e env) :: starEach [] env) (hf : ∀ env x, foldedSetIterable (.Call (.Name (Str.ofString "reversed") rp) [e] [] cp) env x = pure x) (hs : Sto sc Γ x slot) (ha : SndE c sc Γ e a) (hbd : SndB c sc Γ body bd) :
    SndS c sc Γ (.For (.Name x np) (.Call (.Name (Str.ofString "reversed") rp) [e] [] cp) body [] pos) (sForRev slot a bd) := fun C d A env as vals Hp s Q hC hA S I R p => by
  unfold sForRev at p
  refine wpAny_For (Call_ (n_boot S I.base _ rp hg hm hx (by decide) ?_)) (hf env)
  refine PyProof.Rows.callWith_type1 ?_ (he env)
  refine args_cons (ha C d A env as vals Hp s _ hC hA S I R ?_) (he env)
  cases ea : a C vals Hp with
  | err => rw [ea] at p; exact p
  | ok y H1 =>
    rw [ea] at p
    intro val as1 h1 tk1 I1 X1 V1
    replace p : PostS c env Γ as1 { s with heap := h1, toks := tk1 } (forRevV slot (bd C) y vals H1) Q := PostS.laterE p X1
    have R1 := R.up X1
    refine args_nil ?_
    unfold forRevV at p
    split at p
    · rename_i r
      cases V1 with
      | ref er =>
        rename_i l
        split at p
        · rename_i xs g
          obtain ⟨items, m, hl, vv⟩ := get_list I1 er g
          refine call_reversed_list (s := { s with heap := h1, toks := tk1 }) (listIs hl) ?_
          have hit : (h1.push (revObj l ((items.toArray.size : Int) - 1))).IsRevIter h1.objs.size l ((items.toArray.size : Int) - 1) := ⟨_, Heap.get?_push_size _ rfl, rfl, rfl⟩
          refine wpAny_pyIter_revIter (s := { s with heap := h1.push (revObj l ((items.toArray.size : Int) - 1)), toks := tk1 }) hit ?_
          have gk : ∀ b' o, h1.get? b' = some o → (h1.push (revObj l ((items.toArray.size : Int) - 1))).get? b' = some o := fun b' o e => Heap.get?_push_of_some _ e
          have hX : ∀ b' ∈ [h1.objs.size], h1.get? b' = none := fun b' m => by
            rw [List.mem_singleton.mp m]; exact fresh_at _
          refine loop_core (s := { s with heap := h1, toks := tk1 }) (fun (k : Nat) h => h.IsRevIter h1.objs.size l ((k : Int) - 1)) (fun k : Nat => revLoop slot r (bd C) k) (fun k => k) [h1.objs.size] (k0 := xs.length) hC hA S hbd hs hX (fun b' m => ?_) (fun b' m q => ?_) (fun b' m q => ?_) (fun k h hJ b' m => ?_) (fun k h h' hJ e => ?_) ?_ (fun _ => rfl) ?_ (I1.grown gk) (R1.up (.grown gk)) (.grown gk) p
          · cases e : c.h₀.get? b' with
            | none => rfl
            | some o => have := hX b' m; rw [I1.base _ o e] at this; cases this
          · obtain ⟨o, ho⟩ := R1.there q
            have := hX b' m
            rw [ho] at this; cases this
          · obtain ⟨o, ho⟩ := I1.aliveAt q
            have := hX b' m
            rw [ho] at this; cases this
          · obtain ⟨o, ho, _⟩ := hJ
            rw [List.mem_singleton.mp m]; exact ⟨o, ho⟩
          · exact hJ.at fun o ho => e _ (.head _) o ho
          · rintro k as' vals' Hp' s' Q' I' hXa hpre hJ hne kn ks
            cases k with
            | zero => exact wpAny_pyNext_rev_end hA.handled hJ fun h₁ u => kn h₁ _ rfl fun b' o m e => u b' o (fun q => m (by rw [q]; exact .head _)) e
            | succ k =>
              rw [revLoop_succ] at hne kn ks
              cases q : getList Hp' r with
              | none => rw [q] at hne; exact absurd rfl hne
              | some ys =>
                rw [q] at hne kn ks
                dsimp only at hne kn ks
                rw [nth_eq] at hne kn ks
                obtain ⟨items', m', hl', vv'⟩ := get_list I' (hpre.at er) q
                cases qi : ys[k]? with
                | none => rw [qi] at hne; exact absurd rfl hne
                | some w =>
                  rw [qi] at ks
                  obtain ⟨y, hy, V⟩ := vv'.get qi
                  have hJ' : s'.heap.IsRevIter h1.objs.size l (k : Int) := by
                    have e : ((k + 1 : Nat) : Int) - 1 = (k : Int) := by omega
                    rw [e] at hJ; exact hJ
                  exact wpAny_pyNext_rev_item hJ' (listIs hl') (x := y) (by simpa using hy) fun h₁ hJ₁ u => ks h₁ _ _ w k V rfl (Nat.lt_succ_self k) (fun b' o m e => (u.2 b' fun q => m (by rw [q]; exact .head _)).trans e) hJ₁
          · rw [List.size_toArray, vv.length] at hit
            rw [List.size_toArray, vv.length]
            exact hit
        · exact p.elim
    · exact p.elim
end
end Mine

namespace Mine
open PySem PySem.W PySem.Calls PyProof.Rows

section
variable {c : Cx} {sc : Scope} {Γ : List (Str × Nat)}
theorem enumLoop_succ (si sv r : Nat) (body : List V → H → Rs) (n i : Nat) (env : List V) (h : H) : enumLoop si sv r body (n + 1) i env h = match getList h r with
    | some xs => match nth xs i with
      | Option.none => .next env h
      | some v => (body (setAt (setAt env si (.int (.ofNat i))) sv v) h).bind (enumLoop si sv r body n (i + 1))
    | Option.none => .err := rfl
theorem s_forEnum {x y : Str} {xp yp tp rp cp pos : Pos} {k1 : Nat} {si sv : Nat} {e : PySem.Expr} {body : List Stmt} {a : Den} {bd : DenS} (hg : c.mg (Str.ofString "enumerate") = none) (hm : c.mb (Str.ofString "enumerate") = some (.type "enumerate")) (hx : sc.names.lookup (Str.ofString "enumerate") = some .globalImplicit)
    (he : ∀ env, starEach [e] env = (false, eval e env) :: starEach [] env) (hf : ∀ env x, foldedSetIterable (.Call (.Name (Str.ofString "enumerate") rp) [e] [] cp) env x = pure x) (hsx : Sto sc Γ x si) (hsy : Sto sc Γ y sv) (ha : SndE c sc Γ e a) (hbd : SndB c sc Γ body bd) :
    SndS c sc Γ (.For (.Tuple [.Name x xp, .Name y yp] k1 tp) (.Call (.Name (Str.ofString "enumerate") rp) [e] [] cp) body [] pos) (sForEnum si sv a bd) := fun C d A env as vals Hp s Q hC hA S I R p => by
  unfold sForEnum at p
  refine wpAny_For (Call_ (n_boot S I.base _ rp hg hm hx (by decide) ?_)) (hf env)
  refine PyProof.Rows.callWith_type1 ?_ (he env)
  refine args_cons (ha C d A env as vals Hp s _ hC hA S I R ?_) (he env)
  cases ea : a C vals Hp with
  | err => rw [ea] at p; exact p
  | ok z H1 =>
    rw [ea] at p
    intro val as1 h1 tk1 I1 X1 V1
    replace p : PostS c env Γ as1 { s with heap := h1, toks := tk1 } (forEnumV si sv (bd C) z vals H1) Q := PostS.laterE p X1
    have R1 := R.up X1
    refine args_nil ?_
    unfold forEnumV at p
    split at p
    · rename_i r
      cases V1 with
      | ref er =>
        rename_i l
        have hne0 : enumLoop si sv r (bd C) 100000 0 vals H1 ≠ .err := fun e => by rw [e] at p; exact p
        have hgl : ∃ xs, getList H1 r = some xs := by
          rw [enumLoop_succ] at hne0
          cases q : getList H1 r with
          | none => rw [q] at hne0; exact absurd rfl hne0
          | some xs => exact ⟨xs, rfl⟩
        obtain ⟨xs, g⟩ := hgl
        obtain ⟨items, m, hl, vv⟩ := get_list I1 er g
        refine call_enumerate_list (s := { s with heap := h1, toks := tk1 }) (listIs hl) fun h2 hE hI hz gk => ?_
        refine wpAny_pyIter_enum (s := { s with heap := h2, toks := tk1 }) hE ?_
        have hE : IsEnum h2 (h1.objs.size + 1) h1.objs.size 0 .none := hE
        have hI : h2.IsListIter h1.objs.size l 0 := hI
        have hX : ∀ b' ∈ [h1.objs.size + 1, h1.objs.size], h1.get? b' = none := fun b' m => by
          rcases List.mem_cons.mp m with rfl | m
          · exact Heap.get?_none_of_le (Nat.le_succ _)
          · rw [List.mem_singleton.mp m]; exact fresh_at _
        have hX0 : ∀ b' ∈ [h1.objs.size + 1, h1.objs.size], c.h₀.get? b' = none := fun b' m => by
          cases e : c.h₀.get? b' with
          | none => rfl
          | some o => have := hX b' m; rw [I1.base _ o e] at this; cases this
        have hXp : ∀ b' ∈ [h1.objs.size + 1, h1.objs.size], b' ∉ privs env := fun b' m q => by
          obtain ⟨o, ho⟩ := R1.there q
          have := hX b' m
          rw [ho] at this; cases this
        have hXa : ∀ b' ∈ [h1.objs.size + 1, h1.objs.size], b' ∉ as1 := fun b' m q => by
          obtain ⟨o, ho⟩ := I1.aliveAt q
          have := hX b' m
          rw [ho] at this; cases this
        have hei : h1.objs.size + 1 ≠ h1.objs.size := Nat.succ_ne_self _
        refine codeAny_forLoop_any (fun n s' => ∃ i as' vals' Hp' h' tk old, s' = { s with heap := h', toks := tk } ∧ Inv c as' Hp' h' ∧ Ext (privs env) as1 h1 as' h' ∧ EnvR c env Γ as' vals' h' ∧ IsEnum h' (h1.objs.size + 1) h1.objs.size ((i : Nat) : Int) old ∧ h'.IsListIter h1.objs.size l i ∧ (∀ b ∈ [h1.objs.size + 1, h1.objs.size], b ∉ as') ∧
            PostS c env Γ as1 { s with heap := h1, toks := tk1 } (enumLoop si sv r (bd C) n i vals' Hp') Q) ?_ 100000
          ⟨0, as1, vals, H1, h2, tk1, .none, rfl, I1.grown gk, .grown gk, R1.up (.grown gk), hE, hI, hXa, p⟩
        rintro n s' ⟨i, as', vals', Hp', h', tk, old, rfl, I', X', R', hE', hI', hXa', p'⟩
        cases n with
        | zero => exact p'.elim
        | succ n =>
          rw [enumLoop_succ] at p'
          cases q : getList Hp' r with
          | none => rw [q] at p'; exact p'.elim
          | some ys =>
            rw [q] at p'
            dsimp only at p'
            rw [nth_eq] at p'
            obtain ⟨items', m', hl', vv'⟩ := get_list I' (X'.pre.at er) q
            cases qi : ys[i]? with
            | none =>
              rw [qi] at p'
              have hno : items'.toArray[i]? = none := by
                rw [List.getElem?_toArray, List.getElem?_eq_none_iff, vv'.length]
                exact List.getElem?_eq_none_iff.mp qi
              refine wpAny_pyNext_enum_end (s := { s with heap := h', toks := tk }) hA.handled hE' hI' (listIs hl') hno fun h₁ u => wpAny_execs_nil ?_
              have uu : UpdX [h1.objs.size + 1, h1.objs.size] h' h₁ := fun b' o m e => u b' o (fun q => m (by rw [q]; exact .tail _ (.head _))) e
              exact p' as' h₁ tk (I'.other hXa' hX0 uu) (X'.other hX uu) (R'.other hXp uu)
            | some w =>
              rw [qi] at p'
              dsimp only at p'
              obtain ⟨yv, hy, V⟩ := vv'.get qi
              refine wpAny_pyNext_enum_item (s := { s with heap := h', toks := tk }) hE' hI' (listIs hl') (x := yv) (by simpa using hy) hei fun h₁ heo hI₁ ht₁ hz₁ hk₁ => ?_
              refine wpAny_letOwnedTupleGo_enum (s := { s with heap := h₁, toks := tk + 1 }) heo fun h₂ hE₂ hs₂ => ?_
              replace hs₂ : Heap.SameBut (h1.objs.size + 1) h₁ h₂ := hs₂
              have eLt : h1.objs.size + 1 < h'.objs.size := Heap.lt_size hE'
              have ht₂ : h₂.IsTuple h'.objs.size #[.int i tk, yv] := ⟨_, (hs₂.2 _ (Nat.ne_of_gt eLt)).trans ht₁, rfl, _, rfl⟩
              refine wpAny_assign_Tuple (s := { s with heap := h₂, toks := tk + 1 }) hA.handled ht₂ rfl rfl fun h₃ hx₃ => ?_
              have g3 : ∀ b o, h₂.get? b = some o → h₃.get? b = some o := ext_all hx₃
              have uu : UpdX [h1.objs.size + 1, h1.objs.size] h' h₃ := fun b' o m e => g3 b' o ((hs₂.2 b' fun q => m (by rw [q]; exact .head _)).trans
                (hk₁ b' o (fun q => m (by rw [q]; exact .head _)) (fun q => m (by rw [q]; exact .tail _ (.head _))) e))
              have I3 := I'.other hXa' hX0 uu
              have R3 := R'.other hXp uu
              have X3 := X'.other hX uu
              have hE₃ : IsEnum h₃ (h1.objs.size + 1) h1.objs.size (((i + 1 : Nat)) : Int) yv := by
                have e : ((i + 1 : Nat) : Int) = (i : Int) + 1 := by omega
                rw [e]; exact g3 _ _ hE₂
              have hI₃ : h₃.IsListIter h1.objs.size l (i + 1) := by
                obtain ⟨o, ho, r⟩ := hI₁
                exact ⟨o, g3 _ _ ((hs₂.2 _ (Ne.symm hei)).trans ho), r⟩
              refine wpAny_mono (Q := fun _ s₂ => wpAny (model c.prog c.w) A (execs body env) _ _ s₂) (names_sound2 S (es := [.Name x xp, .Name y yp]) (xs := [x, y]) (.cons (.cons .nil)) [si, sv] as' vals' _ Hp' { s with heap := h₃, toks := tk + 1 } [.int (.ofNat i), w] [.int i tk, yv] _ I3 R3 (.cons (.int _ _) (.cons V .nil)) rfl (fun p hp => ?_) rfl fun h4 tk4 I4 E4 R4 => ?_) (fun _ _ x => x) fun _ _ x => x.elim
              · rcases List.mem_cons.mp hp with rfl | hp
                · exact hsx
                · rw [List.mem_singleton.mp hp]; exact hsy
              · have E34 := X3.trans E4
                have kX : ∀ b ∈ [h1.objs.size + 1, h1.objs.size], ∀ o, h₃.get? b = some o → h4.get? b = some o := fun b m o e => E4.keep b o (hXp b m) (hXa' b m) e
                have hE4 : IsEnum h4 (h1.objs.size + 1) h1.objs.size (((i + 1 : Nat)) : Int) yv := kX _ (.head _) _ hE₃
                have hI4 : h4.IsListIter h1.objs.size l (i + 1) := by
                  obtain ⟨o, ho, r⟩ := hI₃
                  exact ⟨o, kX _ (.tail _ (.head _)) _ ho, r⟩
                refine wpAny_mono (hbd C d A env as' _ Hp' { s with heap := h4, toks := tk4 } (fun f s₃ => match f with
                    | .next => ∃ m, m < n + 1 ∧ ∃ i as' vals' Hp' h' tk old, s₃ = { s with heap := h', toks := tk } ∧ Inv c as' Hp' h' ∧ Ext (privs env) as1 h1 as' h' ∧ EnvR c env Γ as' vals' h' ∧ IsEnum h' (h1.objs.size + 1) h1.objs.size ((i : Nat) : Int) old ∧ h'.IsListIter h1.objs.size l i ∧ (∀ b ∈ [h1.objs.size + 1, h1.objs.size], b ∉ as') ∧
                      PostS c env Γ as1 { s with heap := h1, toks := tk1 } (enumLoop si sv r (bd C) m i vals' Hp') Q
                    | .cont => False
                    | .brk => False
                    | .ret v => Q (.ret v) s₃) hC hA S I4 R4 ?_) (fun f s₃ hf => ?_) fun _ _ x => x.elim
                · cases eb : bd C (setAt (setAt vals' si (.int (.ofNat i))) sv w) Hp' with
                  | err => rw [eb] at p'; exact p'
                  | next vals5 H5 =>
                    rw [eb] at p'
                    intro as5 h5 tk5 I5 E5 R5
                    have kX5 : ∀ b ∈ [h1.objs.size + 1, h1.objs.size], ∀ o, h4.get? b = some o → h5.get? b = some o := fun b m o e => E5.keep b o (hXp b m) (hXa' b m) e
                    refine ⟨n, Nat.lt_succ_self n, i + 1, as5, vals5, H5, h5, tk5, yv, rfl, I5, E34.trans E5, R5, kX5 _ (.head _) _ hE4, ?_, fun b m q => ?_, p'⟩
                    · obtain ⟨o, ho, r⟩ := hI4
                      exact ⟨o, kX5 _ (.tail _ (.head _)) _ ho, r⟩
                    · rcases E5.fresh b q with q | q
                      · exact hXa' b m q
                      · replace q : h4.get? b = none := q
                        rcases List.mem_cons.mp m with rfl | m
                        · have := hE4.symm.trans q
                          cases this
                        · obtain ⟨o, ho, _⟩ := hI4
                          rw [List.mem_singleton.mp m, ho] at q; cases q
                  | ret v H5 =>
                    rw [eb] at p'
                    intro val5 as5 h5 tk5 I5 E5 V5
                    exact p' val5 as5 h5 tk5 I5 (E34.trans E5) V5
                · cases f with
                  | next => exact hf
                  | cont => exact hf.elim
                  | brk => exact hf.elim
                  | ret v => exact hf
    · exact p.elim
end
end Mine

namespace Mine
open PySem PySem.W PySem.Calls PyProof.Rows

theorem bindL_other {ko : Str → Option NameKind} {x : Str} : ∀ {bs : List (Str × Value)} {m : Str → Option Value}, x ∉ bs.map (·.1) → bindL ko bs m x = m x
  | [], _, _ => rfl
  | (n, v) :: r, m, h => by
    rw [List.map_cons, List.mem_cons, not_or] at h
    unfold bindL
    rw [bindL_other h.2]
    split
    · exact if_neg h.1
    · rfl
theorem bindC_other {ko : Str → Option NameKind} {x : Str} : ∀ {bs : List (Str × Value)} {m : Str → Option Value}, x ∉ bs.map (·.1) → bindC ko bs m x = m x
  | [], _, _ => rfl
  | (n, v) :: r, m, h => by
    rw [List.map_cons, List.mem_cons, not_or] at h
    unfold bindC
    rw [bindC_other h.2]
    split
    · rfl
    · exact if_neg h.1
theorem zip_names : ∀ (pn : List Str) (xs : List Value), ∀ x ∈ (pn.zip xs).map (·.1), x ∈ pn
  | [], _, _, h => by simp at h
  | n :: pn, [], _, h => by simp at h
  | n :: pn, y :: ys, x, h => by
    rw [List.zip_cons_cons, List.map_cons, List.mem_cons] at h
    rcases h with rfl | h
    · exact .head _
    · exact .tail _ (zip_names pn ys x h)
theorem bindL_get {ko : Str → Option NameKind} {x : Str} {v : Value} (hk : ko x = some .local) : ∀ {pn : List Str} {xs : List Value} {i : Nat} {m : Str → Option Value}, pn.Nodup → pn[i]? = some x → xs[i]? = some v → bindL ko (pn.zip xs) m x = some v
  | [], _, _, _, _, h, _ => by simp at h
  | n :: pn, [], _, _, _, _, h => by simp at h
  | n :: pn, y :: ys, 0, m, hn, h, h' => by
    cases h; cases h'
    rw [List.zip_cons_cons]
    unfold bindL
    rw [bindL_other fun q => (List.nodup_cons.mp hn).1 (zip_names pn ys _ q), if_pos hk, if_pos rfl]
  | n :: pn, y :: ys, i + 1, m, hn, h, h' => by
    rw [List.zip_cons_cons]
    unfold bindL
    exact bindL_get hk (List.nodup_cons.mp hn).2 (by simpa using h) (by simpa using h')
theorem bindC_get {ko : Str → Option NameKind} {x : Str} {v : Value} (hk : ¬ ko x = some .local) : ∀ {pn : List Str} {xs : List Value} {i : Nat} {m : Str → Option Value}, pn.Nodup → pn[i]? = some x → xs[i]? = some v → bindC ko (pn.zip xs) m x = some v
  | [], _, _, _, _, h, _ => by simp at h
  | n :: pn, [], _, _, _, _, h => by simp at h
  | n :: pn, y :: ys, 0, m, hn, h, h' => by
    cases h; cases h'
    rw [List.zip_cons_cons]
    unfold bindC
    rw [bindC_other fun q => (List.nodup_cons.mp hn).1 (zip_names pn ys _ q), if_neg hk, if_pos rfl]
  | n :: pn, y :: ys, i + 1, m, hn, h, h' => by
    rw [List.zip_cons_cons]
    unfold bindC
    exact bindC_get hk (List.nodup_cons.mp hn).2 (by simpa using h) (by simpa using h')
theorem cells_names : ∀ (names : List (Str × NameKind)) (n m : Nat) (acc acc' : List (Str × Addr)), acc.map (·.1) = acc'.map (·.1) → (cellsFrom n names acc).map (·.1) = (cellsFrom m names acc').map (·.1)
  | [], _, _, _, _, h => h
  | (x, k) :: r, n, m, acc, acc', h => by
    unfold cellsFrom
    split
    · exact cells_names r _ _ _ _ (by rw [List.map_cons, List.map_cons, h])
    · exact cells_names r _ _ _ _ h
theorem lookup_of_nodup {x : Str} {a : Addr} : ∀ {l : List (Str × Addr)}, (l.map (·.1)).Nodup → (x, a) ∈ l → l.lookup x = some a
  | (y, b) :: l, hn, h => by
    rw [List.map_cons, List.nodup_cons] at hn
    rw [List.lookup_cons]
    cases h with
    | head => rw [beq_self_eq_true]
    | tail _ h =>
      have : (x == y) = false := beq_eq_false_iff_ne.mpr fun e => hn.1 (by rw [← e]; exact List.mem_map_of_mem (f := (·.1)) h)
      rw [this]
      exact lookup_of_nodup hn.2 h
theorem apart_eq {l : List (Str × Addr)} (h : l.Pairwise fun x y => x.2 ≠ y.2) : ∀ p ∈ l, ∀ q ∈ l, p.2 = q.2 → p = q := by
  induction h with
  | nil => intro p hp; cases hp
  | cons h1 _ ih =>
    intro p hp q hq e
    cases hp with
    | head => cases hq with
      | head => rfl
      | tail _ hq => exact absurd e (h1 _ hq)
    | tail _ hp => cases hq with
      | head => exact absurd e.symm (h1 _ hp)
      | tail _ hq => exact ih p hp q hq e
theorem cells_have {x : Str} : ∀ (names : List (Str × NameKind)) (n : Nat) (acc : List (Str × Addr)), names.lookup x = some .cell ∨ (acc.lookup x).isSome = true → ((cellsFrom n names acc).lookup x).isSome = true := cellsFrom_some

-- what a def of the text is
structure FnOk (c : Cx) (k : Nat) (F : Fn) (o : Obj) (fd : FuncData) (body : List Stmt) (pn : List Str) (Γ : List (Str × Nat)) : Prop where
  obj : c.h₀.get? (c.fa k) = some o
  data : o.data = .func fd
  code : c.h₀.CodeRec fd.code fd.qualname
  stmts : fd.body = .stmts body
  glob : fd.globals = mainGlobals
  bltn : fd.builtins = builtinsNs
  clos : fd.closure = []
  co : fd.scope.isCoroutine = false
  gen : fd.scope.isGenerator = false
  kind : fd.scope.kind = .function
  bind : ∀ xs : List Value, xs.length = pn.length → bindArgs fd ⟨xs, []⟩ = pure (pn.zip xs)
  num : pn.length = F.params
  nod : pn.Nodup
  kinds : ∀ x ∈ pn, fd.scope.names.lookup x = some .local ∨ fd.scope.names.lookup x = some .cell
  cnod : ((cellsFrom 0 fd.scope.names []).map (·.1)).Nodup
  slot : ∀ x i, Γ.lookup x = some i → i < F.params → pn[i]? = some x
  snd : SndB c fd.scope Γ body F.body

section
variable {c : Cx}
theorem Ext.enter {as as' : List Addr} {h h₁ h' : Heap} {P : List Addr} (hk : ∀ b o, h.get? b = some o → h₁.get? b = some o) (hP : ∀ b ∈ P, h.get? b = none) (x : Ext P as h₁ as' h') : Ext [] as h as' h' := by
  refine ⟨x.pre, fun b o _ m e => x.keep b o (fun q => by rw [hP b q] at e; cases e) m (hk b o e), fun b o e => x.alive b o (hk b o e), fun a m => ?_⟩
  rcases x.fresh a m with q | q
  · exact .inl q
  · right
    cases e : h.get? a with
    | none => rfl
    | some o => rw [hk a o e] at q; cases q
theorem enter_sound {k : Nat} {F : Fn} {o : Obj} {fd : FuncData} {body : List Stmt} {pn : List Str} {Γ : List (Str × Nat)} (K : FnOk c k F o fd body pn Γ) {C : Call} {d : Nat} (hC : SndC c C d) {A : Around} {as : List Addr} {Hp : H} {s : Shared} {vs : List V} {xs : List Value} {Q : Value → Shared → Prop}
    (hA : AOk A (d + 1)) (I : Inv c as Hp s.heap) (V : VRs c.fa as vs xs) (p : PostR c as s (enter F C vs Hp) Q) : wpAny (model c.prog c.w) A (call (.ref (c.fa k)) xs) Q F' s := by
  unfold enter at p
  split at p
  · rename_i hlen
    have hvl : vs.length = F.params := Nat.eq_of_beq_eq_true hlen
    have hxl : xs.length = pn.length := by rw [V.length, hvl, K.num]
    have hlt : A.depth < recursionLimit := by have := hA.depth; omega
    refine wpAny_call (codeAny_call_cells hlt (I.base _ _ K.obj) K.data (c.nolimit.keeps I.base) (K.code.keeps I.base) K.stmts (K.bind xs hxl) K.clos (fun y hy => ?_) (fun s₁ x => ?_) K.co K.gen K.kind)
    · have hm := zip_names pn xs y.1 (List.mem_map_of_mem hy)
      exact (K.kinds _ hm).imp id fun h => ⟨h, cells_have _ _ _ (.inl h)⟩
    · obtain ⟨h₁, tk₁, rfl⟩ := x.toInCall.same
      have kp : ∀ b ob, s.heap.get? b = some ob → h₁.get? b = some ob := x.toInCall.keep
      have hS : EnvS fd.scope (callEnvC fd s.heap.objs.size (c.fa k)) := ⟨rfl, K.kind, K.glob, K.bltn, fun y hy => Option.isSome_iff_exists.mp (cells_have _ _ _ (.inl hy))⟩
      have hnod : ((callEnvC fd s.heap.objs.size (c.fa k)).cells.map (·.1)).Nodup := by
        show ((cellsFrom (s.heap.objs.size + 1) fd.scope.names []).map (·.1)).Nodup
        rw [cells_names _ _ 0 [] [] rfl]; exact K.cnod
      have hpr : ∀ a ∈ privs (callEnvC fd s.heap.objs.size (c.fa k)), s.heap.objs.size ≤ a := fun a m => by
        cases m with
        | head => exact Nat.le_refl _
        | tail _ m =>
          obtain ⟨q, hq, rfl⟩ := List.mem_map.mp m
          exact Nat.le_of_lt (x.above q.1 q.2 hq)
      have hpn : ∀ a ∈ privs (callEnvC fd s.heap.objs.size (c.fa k)), s.heap.get? a = none := fun a m => Heap.get?_none_of_le (hpr a m)
      have R : EnvR c (callEnvC fd s.heap.objs.size (c.fa k)) Γ as (vs ++ List.replicate F.extra .unb) h₁ := by
        refine ⟨⟨_, x.toInCall.ns⟩, fun q hq => ⟨_, x.cell q.1 q.2 (lookup_of_nodup hnod hq)⟩, fun a m q => ?_, apart_eq x.apart, fun q hq => Nat.ne_of_gt (x.above q.1 q.2 hq), fun a m => ?_, fun y i v hy hv hu => ?_⟩
        · obtain ⟨ob, ho⟩ := I.aliveAt q
          rw [hpn a m] at ho; cases ho
        · cases e : c.h₀.get? a with
          | none => rfl
          | some ob => have := hpn a m; rw [I.base _ _ e] at this; cases this
        · have hi : i < vs.length := by
            apply Decidable.byContradiction
            intro q
            rw [List.getElem?_append_right (by omega), List.getElem?_replicate] at hv
            split at hv
            · cases hv; exact hu rfl
            · cases hv
          rw [List.getElem?_append_left hi] at hv
          obtain ⟨val, hx, hV⟩ := V.get hv
          have hpi := K.slot y i hy (by omega)
          refine ⟨val, hV, ?_⟩
          have ym := List.mem_of_getElem? hpi
          rcases K.kinds y ym with hk | hk
          · exact .inl ⟨hk, _, x.toInCall.ns, bindL_get hk K.nod hpi hx⟩
          · obtain ⟨a, ha⟩ := hS.cellsOf y hk
            refine .inr ⟨.inl hk, a, ha, ?_⟩
            have := x.cell y a ha
            rwa [bindC_get (ko := (callEnvC fd s.heap.objs.size (c.fa k)).kindOf) (by show ¬ fd.scope.names.lookup y = some .local; rw [hk]; decide) K.nod hpi hx] at this
      have hA' : AOk (A.deeper (callEnvC fd s.heap.objs.size (c.fa k))) d := ⟨hA.handled, by have := hA.depth; show A.depth + 1 + d < _; omega, by have := hA.units; show A.units + 3 + 8 * d + 200 < _; omega⟩
      refine wpAny_mono (K.snd C d _ _ as _ Hp { s with heap := h₁, toks := tk₁ } (fun fl s' => Q (match fl with | .ret v => v | _ => .none) s') hC hA' hS (I.grown kp) R ?_) (fun _ _ q => q) fun _ _ q => q.elim
      cases er : F.body C (vs ++ List.replicate F.extra .unb) Hp with
      | err => rw [er] at p; exact p
      | next vals' H' =>
        rw [er] at p
        intro as' h' tk' I' X' R'
        exact p .none as' h' tk' I' (.enter kp hpn X') .none
      | ret v H' =>
        rw [er] at p
        intro val as' h' tk' I' X' V'
        exact p val as' h' tk' I' (.enter kp hpn X') V'
  · exact p.elim

theorem callN_sound {P : Nat → Option Fn} (hP : ∀ k F, P k = some F → ∃ o fd body pn Γ, FnOk c k F o fd body pn Γ) : ∀ d, SndC c (callN P d) d
  | 0 => ⟨fun f vs Hp v Hp' e => (by cases e), fun A as Hp s f vs fv xs Q _ _ _ _ p => False.elim p⟩
  | d + 1 => by
    have ih := callN_sound hP d
    have e1 : ∀ f vs Hp, callN P (d + 1) f vs Hp = callStep P (callN P d) f vs Hp := fun _ _ _ => rfl
    refine ⟨fun f vs Hp v Hp' e => ?_, fun A as Hp s f vs fv xs Q hA I Vf V p => ?_⟩
    · rw [e1] at e
      unfold callStep at e
      split at e
      · rename_i k
        unfold callFn at e
        split at e
        · rename_i F hF
          obtain ⟨o, fd, body, pn, Γ, K⟩ := hP k F hF
          exact ⟨k, o, fd, rfl, K.obj, K.data⟩
        · cases e
      · cases e
    · rw [e1] at p
      unfold callStep at p
      split at p
      · rename_i k
        cases Vf
        unfold callFn at p
        split at p
        · rename_i F hF
          obtain ⟨o, fd, body, pn, Γ, K⟩ := hP k F hF
          exact enter_sound K ih hA I V p
        · exact p.elim
      · exact p.elim
end
end Mine

namespace Mine
open PySem PySem.W PySem.Calls PyProof.Rows

noncomputable def blank (i j : Nat) (vals : List V) : List V := setAt (setAt vals i .unb) j .unb
theorem blank_set {i j : Nat} (h : i ≠ j) (vals : List V) (a b : V) : setAt (setAt (blank i j vals) i a) j b = setAt (setAt vals i a) j b := by
  unfold blank
  simp only [setAt_eq]
  rw [List.set_comm V.unb a (Ne.symm h), List.set_set, List.set_set]
theorem blank_get {i j n : Nat} {vals : List V} {v : V} (h : (blank i j vals)[n]? = some v) (hu : v ≠ .unb) : n ≠ i ∧ n ≠ j ∧ vals[n]? = some v := by
  unfold blank at h
  rw [setAt_eq, setAt_eq, List.getElem?_set] at h
  by_cases hj : j = n
  · rw [if_pos hj] at h
    split at h
    · cases h; exact absurd rfl hu
    · cases h
  · rw [if_neg hj, List.getElem?_set] at h
    by_cases hi : i = n
    · rw [if_pos hi] at h
      split at h
      · cases h; exact absurd rfl hu
      · cases h
    · rw [if_neg hi] at h
      exact ⟨fun e => hi e.symm, fun e => hj e.symm, h⟩

def relab (scope sc : Scope) : Scope :=
  { scope with names := scope.names.map fun (n, k) => if (k == .free && sc.kind == .function && sc.names.lookup n == some .cell) then (n, .cell) else (n, k) }
theorem relab_eq (scope : Scope) (env : Env) : relabel scope env = relab scope env.scope := rfl

section
variable {c : Cx} {sc : Scope} {Γ : List (Str × Nat)}
-- an object at hand is taken up
theorem Inv.track {as : List Addr} {Hp : H} {h : Heap} {a : Addr} {o : O} (I : Inv c as Hp h) (hn : Hp.n ≤ 100000) (ha : a ∉ as) (h0 : c.h₀.get? a = none) (hO : OR c.fa as h a o) :
    Inv c (as ++ [a]) ⟨Hp.t.put 20 Hp.n o, Nat.succ Hp.n⟩ h := by
  have hp : Pre as (as ++ [a]) := ⟨_, rfl⟩
  have hin : ∀ i b, as[i]? = some b → b ≠ a := fun i b e q => ha (q ▸ List.mem_of_getElem? e)
  have hcase : ∀ (i : Nat) (b : Addr), (as ++ [a])[i]? = some b → (i = Hp.n ∧ b = a) ∨ (i ≠ Hp.n ∧ as[i]? = some b) := fun i b e => by
    by_cases hi : i < as.length
    · rw [List.getElem?_append_left hi] at e
      exact .inr ⟨by rw [← I.len]; omega, e⟩
    · rw [List.getElem?_append_right (by omega)] at e
      have : i - as.length = 0 := by
        have := (List.getElem?_eq_some_iff.mp e).1
        simp at this; omega
      rw [this] at e
      cases e
      exact .inl ⟨by rw [← I.len]; omega, rfl⟩
  refine ⟨by simp [I.len], fun i b e => ?_, fun i j b e1 e2 => ?_, I.base, fun b m => ?_, by show Hp.n + 1 ≤ _; omega⟩
  · show ∃ o', T.get (T.put 20 Hp.t Hp.n o) i = some o' ∧ _
    rw [T.get_put o 20 Hp.n Hp.t i (by omega)]
    rcases hcase i b e with ⟨rfl, rfl⟩ | ⟨hi, e'⟩
    · rw [if_pos rfl]; exact ⟨o, rfl, hO.up hp fun _ x => x⟩
    · rw [if_neg hi]
      obtain ⟨o', q, r⟩ := I.obj i b e'
      exact ⟨o', q, r.up hp fun ob x => x⟩
  · rcases hcase i b e1 with ⟨rfl, rfl⟩ | ⟨hi, e1'⟩
    · rcases hcase j _ e2 with ⟨rfl, _⟩ | ⟨_, e2'⟩
      · rfl
      · exact absurd rfl (hin j _ e2')
    · rcases hcase j _ e2 with ⟨rfl, rfl⟩ | ⟨_, e2'⟩
      · exact absurd rfl (hin i _ e1')
      · exact I.nodup i j b e1' e2'
  · rcases List.mem_append.mp m with m | m
    · exact I.sep b m
    · rw [List.mem_singleton.mp m]; exact h0
theorem Ext.track {P as as' : List Addr} {h h' : Heap} {a : Addr} (x : Ext P as h as' h') (ha : h.get? a = none) : Ext P as h (as' ++ [a]) h' :=
  ⟨x.pre.trans ⟨_, rfl⟩, x.keep, x.alive, fun b m => by
    rcases List.mem_append.mp m with m | m
    · exact x.fresh b m
    · rw [List.mem_singleton.mp m]; exact .inr ha⟩

-- a local's name is stored, and nothing else is touched
theorem store_local {A : Around} {env : Env} {as : List Addr} {vals : List V} {s : Shared} {v : V} {val : Value} {Q : Unit → Shared → Prop} {x : Str} {i : Nat} (S : EnvS sc env) (R : EnvR c env Γ as vals s.heap) (hV : VR c.fa as v val)
    (hΓ : (Γ.map (·.2)).Nodup) (hi : Γ.lookup x = some i) (hx : sc.names.lookup x = some .local)
    (q : ∀ h' tk, UpdX [env.locals] s.heap h' → EnvR c env Γ as (setAt vals i v) h' → Q () { s with heap := h', toks := tk }) :
    wpAny (model c.prog c.w) A (storeName env x val) Q F' s := by
  have kx : env.kindOf x = sc.names.lookup x := by unfold Env.kindOf; rw [S.scope]
  have other : ∀ (y : Str) (j : Nat) (w : V), Γ.lookup y = some j → (setAt vals i v)[j]? = some w → (y = x ∧ w = v) ∨ (y ≠ x ∧ vals[j]? = some w) := fun y j w hy hw => by
    rw [setAt_eq, List.getElem?_set] at hw
    by_cases hij : i = j
    · subst hij
      rw [if_pos rfl] at hw
      split at hw
      · cases hw; exact .inl ⟨slot_inj hΓ (lookup_memN hy) (lookup_memN hi), rfl⟩
      · cases hw
    · rw [if_neg hij] at hw
      exact .inr ⟨fun e => hij (by rw [e, hi] at hy; exact Option.some.inj hy), hw⟩
  obtain ⟨m, hm⟩ := R.ns
  refine wpAny_storeName_local (kx.trans hx) hm (fun h' hn hs => ?_) S.plain
  refine q h' _ (fun b o m e => (hs.2 b fun z => m (by rw [z]; exact .head _)).trans e) ⟨⟨_, hn⟩, fun p hp => ?_, R.off, R.inj, R.cellL, R.new, fun y j w hy hw hu => ?_⟩
  · obtain ⟨u, o, ho, hd⟩ := R.cells p hp
    exact ⟨u, o, (hs.2 _ (R.cellL p hp)).trans ho, hd⟩
  · rcases other y j w hy hw with ⟨rfl, rfl⟩ | ⟨hne, hw⟩
    · exact ⟨val, hV, .inl ⟨kx.trans hx, _, hn, if_pos rfl⟩⟩
    · obtain ⟨val', hV', hA⟩ := R.var y j w hy hw hu
      refine ⟨val', hV', ?_⟩
      rcases hA with ⟨hk, m', hm', hy'⟩ | ⟨hk, b, hb, o, ho, hd⟩
      · rw [ns_unique hm' hm] at hy'
        exact .inl ⟨hk, _, hn, (if_neg hne).trans hy'⟩
      · exact .inr ⟨hk, b, hb, o, (hs.2 _ (R.cellL _ (lookup_mem hb))).trans ho, hd⟩

theorem EnvR.blank {env : Env} {as : List Addr} {vals vals' : List V} {h : Heap} (R : EnvR c env Γ as vals h) (k : ∀ (n : Nat) (v : V), vals'[n]? = some v → v ≠ V.unb → vals[n]? = some v) : EnvR c env Γ as vals' h :=
  ⟨R.ns, R.cells, R.off, R.inj, R.cellL, R.new, fun x i v hi hv hu => R.var x i v hi (k i v hv hu) hu⟩
theorem blank_sub {i j : Nat} {vals : List V} {a b : V} (n : Nat) (v : V) (h : (blank i j vals)[n]? = some v) (hu : v ≠ .unb) : (setAt (setAt vals i a) j b)[n]? = some v := by
  obtain ⟨hi, hj, e⟩ := blank_get h hu
  rw [setAt_eq, setAt_eq, List.getElem?_set, if_neg (Ne.symm hj), List.getElem?_set, if_neg (Ne.symm hi)]
  exact e

theorem compLoop_succ (get : H → Nat → Option (List V)) (C : Call) (elt cond : Den) (slots : List Nat) (r : Nat) (env : List V) (n i : Nat) (acc : List V) (h : H) : compLoop get C elt cond slots r env (n + 1) i acc h = match get h r with
    | some xs => match nth xs i with
      | Option.none => alloc (.list acc) h
      | some v => compTurn C elt cond slots env (compLoop get C elt cond slots r env n (i + 1)) acc v h
    | Option.none => .err := rfl

theorem comp_core (IterP : Nat → Heap → Prop) (get : H → Nat → Option (List V)) {x y : Str} {xp yp tp pos : Pos} {k : Nat} {elt iter cond : PySem.Expr} {scope : Scope} {i j r : Nat} {de dc : Den} {it D l : Addr} {C : Call} {d : Nat} {A : Around} {env : Env}
    {as : List Addr} {vals : List V} {Hp : H} {s : Shared} {h1 : Heap} {tk1 : Tok} {Q : Value → Shared → Prop} {n0 : Nat}
    (hC : SndC c C d) (hA : AOk A d) (S : EnvS sc env) (he : SndE c sc Γ elt de) (hc : SndT c sc Γ cond dc) (hij : i ≠ j)
    (hΓ : (Γ.map (·.2)).Nodup) (hx : Γ.lookup x = some i) (hy : Γ.lookup y = some j) (kx : sc.names.lookup x = some .local) (ky : sc.names.lookup y = some .local)
    (fit : s.heap.get? it = none) (fD : s.heap.get? D = none) (fL : s.heap.get? env.locals = none) (itD : it ≠ D) (itL : it ≠ env.locals) (DL : D ≠ env.locals) (hcl : ∀ p ∈ env.cells, ∃ o, s.heap.get? p.2 = some o)
    (h0 : ∀ b, s.heap.get? b = none → c.h₀.get? b = none) (er : as[r]? = some l) (itA : it ∉ as) (DA : D ∉ as)
    (item : ∀ as' Hp' (s' : Shared) xs q v Q', Inv c as' Hp' s'.heap → as'[r]? = some l → get Hp' r = some xs → xs[q]? = some v → IterP q s'.heap →
      (∀ val h', VR c.fa as' v val → IterP (q + 1) h' → UpdX [it] s'.heap h' → Q' (some val) { s' with heap := h' }) → wpAny (model c.prog c.w) A (pyNext (.ref it)) Q' F' s')
    (fin : ∀ as' Hp' (s' : Shared) xs q Q', Inv c as' Hp' s'.heap → as'[r]? = some l → get Hp' r = some xs → xs[q]? = none → IterP q s'.heap →
      (∀ h', UpdX [it] s'.heap h' → Q' none { s' with heap := h' }) → wpAny (model c.prog c.w) A (pyNext (.ref it)) Q' F' s')
    (hkeep : ∀ q h h', IterP q h → (∀ o, h.get? it = some o → h'.get? it = some o) → IterP q h') (halive : ∀ q h, IterP q h → ∃ o, h.get? it = some o)
    (hgo : ∀ q T (s' : Shared) (Q' : Unit → Shared → Prop) (E' : Value → Shared → Prop), IterP q s'.heap → Q' () s' → wpAny (model c.prog c.w) A (letOwnedTupleGo (.Tuple [.Name x xp, .Name y yp] k tp) (.ref it) (.ref T)) Q' E' s')
    (I : Inv c as Hp h1) (R : EnvR c env Γ as (blank i j vals) h1) (E : Ext [] as s.heap as h1) (hD : h1.get? D = some (listOf #[] n0)) (hJ : IterP 0 h1)
    (p : PostR c as s (compLoop get C de dc [i, j] r vals 1000 0 [] Hp) Q) :
    codeAny (model c.prog c.w) A (.compLoop (.ListComp elt [⟨.Tuple [.Name x xp, .Name y yp] k tp, iter, [cond], 0⟩] scope pos) 0 (.ref it) (.ref D) env) (compPost (model c.prog c.w) A F' none Q (.ref D) env.locals) { s with heap := h1, toks := tk1 } := by
  refine kct_loop (fun n s' => ∃ as' acc accv Hp' h' tk m q, s' = { s with heap := h', toks := tk } ∧ Inv c as' Hp' h' ∧ Ext [] as s.heap as' h' ∧ EnvR c env Γ as' (blank i j vals) h' ∧ IterP q h' ∧ it ∉ as' ∧ D ∉ as' ∧
      h'.get? D = some (listOf (List.toArray accv) m) ∧ VRs c.fa as' acc accv ∧ PostR c as s (compLoop get C de dc [i, j] r vals n q acc Hp') Q) ?_ 1000
    ⟨as, [], [], Hp, h1, tk1, n0, 0, rfl, I, E, R, hJ, itA, DA, hD, .nil, p⟩
  rintro n s' ⟨as', acc, accv, Hp', h', tk, m, q, rfl, I', X', R', J', itA', DA', hD', V', p'⟩
  cases n with
  | zero => exact p'.elim
  | succ n =>
    rw [compLoop_succ] at p'
    cases hg : get Hp' r with
    | none => rw [hg] at p'; exact p'.elim
    | some xs =>
      rw [hg] at p'
      dsimp only at p'
      rw [nth_eq] at p'
      have xit : ∀ b ∈ [it], s.heap.get? b = none := fun b m => by rw [List.mem_singleton.mp m]; exact fit
      have aux : ∀ {X : List Addr} {a : Addr}, X = [a] → a ∉ as' → ∀ b ∈ X, b ∉ as' := fun hX ha b m => by rw [hX] at m; rw [List.mem_singleton.mp m]; exact ha
      have itp : it ∉ privs env := fun m => by
        cases m with
        | head => exact itL rfl
        | tail _ m =>
          obtain ⟨p, hp, rfl⟩ := List.mem_map.mp m
          obtain ⟨o, ho⟩ := hcl p hp
          rw [fit] at ho; cases ho
      have Dp : D ∉ privs env := fun m => by
        cases m with
        | head => exact DL rfl
        | tail _ m =>
          obtain ⟨p, hp, rfl⟩ := List.mem_map.mp m
          obtain ⟨o, ho⟩ := hcl p hp
          rw [fD] at ho; cases ho
      cases hv : xs[q]? with
      | none =>
        rw [hv] at p'
        dsimp only at p'
        refine wpAny_mono (fin as' Hp' { s with heap := h', toks := tk } xs q _ I' (X'.pre.at er) hg hv J' fun h₁ u => ?_) (fun _ _ z => z) fun _ _ z => z.elim
        have I1 := I'.other (aux rfl itA') (fun b m => h0 b (xit b m)) u
        have R1 := R'.other (X := [it]) (fun b m => by rw [List.mem_singleton.mp m]; exact itp) u
        have X1 := X'.other xit u
        have hD1 := u D _ (fun m => itD (List.mem_singleton.mp m).symm) hD'
        obtain ⟨m1, hn⟩ := R1.ns
        refine ⟨m1, hn, fun h2 hs => ?_⟩
        unfold alloc at p'
        split at p'
        · rename_i hle
          have uL : UpdX [env.locals] h₁ h2 := fun b o m e => (hs.2 b fun z => m (by rw [z]; exact .head _)).trans e
          have I2 := I1.other (X := [env.locals]) (fun b m => by rw [List.mem_singleton.mp m]; exact R1.off _ (.head _)) (fun b m => by rw [List.mem_singleton.mp m]; exact h0 _ fL) uL
          have X2 := X1.other (X := [env.locals]) (fun b m => by rw [List.mem_singleton.mp m]; exact fL) uL
          have hD2 := uL D _ (fun m => DL (List.mem_singleton.mp m)) hD1
          refine p' (.ref D) (as' ++ [D]) h2 tk (I2.track (Nat.le_of_ble_eq_true hle) DA' (h0 _ fD) (.list hD2 V')) (X2.track fD) (.ref ?_)
          rw [← I2.len, List.getElem?_append_right (Nat.le_refl _), Nat.sub_self]; rfl
        · exact p'.elim
      | some v =>
        rw [hv] at p'
        dsimp only at p'
        unfold compTurn at p'
        split at p'
        · rename_i z
          cases hys : getTup Hp' z with
          | none => rw [hys] at p'; exact p'.elim
          | some ys =>
            rw [hys] at p'
            dsimp only at p'
            unfold storesK at p'
            cases hst : stores [i, j] ys vals with
            | none => rw [hst] at p'; exact p'.elim
            | some env' =>
              rw [hst] at p'
              dsimp only at p'
              refine wpAny_mono (item as' Hp' { s with heap := h', toks := tk } xs q _ _ I' (X'.pre.at er) hg hv J' fun val h₁ hV J1 u => ?_) (fun _ _ z => z) fun _ _ z => z.elim
              have I1 := I'.other (aux rfl itA') (fun b m => h0 b (xit b m)) u
              have R1 := R'.other (X := [it]) (fun b m => by rw [List.mem_singleton.mp m]; exact itp) u
              have X1 := X'.other xit u
              have hD1 := u D _ (fun m => itD (List.mem_singleton.mp m).symm) hD'
              cases hV with
              | ref ez =>
                obtain ⟨items, hT, vv⟩ := get_tup I1 ez hys
                rcases ys with _ | ⟨va, _ | ⟨vb, _ | ⟨vc, ys⟩⟩⟩
                · cases hst
                · cases hst
                · cases vv with
                  | cons hva vv => cases vv with
                    | cons hvb vv => cases vv with
                      | nil =>
                        have hst' : env' = setAt (setAt vals i va) j vb := by cases hst; rfl
                        subst hst'
                        refine hgo (q + 1) _ { s with heap := h₁, toks := tk } _ _ J1 ?_
                        refine wpAny_assign_Tuple (s := { s with heap := h₁, toks := tk }) hA.handled hT rfl rfl fun h2 hx2 => ?_
                        have g2 := ext_all hx2
                        have I2 := I1.grown g2
                        have R2 := R1.up (.grown g2)
                        have X2 : Ext [] as s.heap as' h2 := X1.trans (.grown g2)
                        refine wpAny_mono (Q := fun _ s₂ => wpAny (model c.prog c.w) A (isTrue cond env (eval cond env)) _ _ s₂) (assignInOrder_cons (wpAny_assign_Name (store_local (s := { s with heap := h2, toks := tk }) S R2 hva hΓ hx kx fun h3 tk3 u3 R3 => assignInOrder_cons (wpAny_assign_Name (store_local (s := { s with heap := h3, toks := tk3 }) S R3 hvb hΓ hy ky fun h4 tk4 u4 R4 => assignInOrder_nil ?_))))) (fun _ _ z => z) fun _ _ z => z.elim
                        have u34 : UpdX [env.locals] h2 h4 := fun b o m e => u4 b o m (u3 b o m e)
                        have I4 := I2.other (X := [env.locals]) (fun b m => by rw [List.mem_singleton.mp m]; exact R1.off _ (.head _)) (fun b m => by rw [List.mem_singleton.mp m]; exact h0 _ fL) u34
                        have X4 := X2.other (X := [env.locals]) (fun b m => by rw [List.mem_singleton.mp m]; exact fL) u34
                        have hD4 := u34 D _ (fun m => DL (List.mem_singleton.mp m)) (g2 _ _ hD1)
                        have J4 := hkeep _ _ _ (hkeep _ _ _ J1 fun o e => g2 _ _ e) fun o e => u34 it o (fun m => itL (List.mem_singleton.mp m)) e
                        rw [blank_set hij] at R4
                        have step : ∀ {as5 : List Addr} {h5 : Heap}, Ext [] as' h4 as5 h5 → IterP (q + 1) h5 ∧ h5.get? D = some (listOf (List.toArray accv) m) ∧ it ∉ as5 ∧ D ∉ as5 := fun {as5 h5} X5 => by
                          refine ⟨hkeep _ _ _ J4 fun o e => X5.keep it o (fun z => nomatch z) itA' e, X5.keep D _ (fun z => nomatch z) DA' hD4, fun z => ?_, fun z => ?_⟩
                          · rcases X5.fresh it z with z | z
                            · exact itA' z
                            · obtain ⟨o, ho⟩ := halive _ _ J4
                              rw [z] at ho; cases ho
                          · rcases X5.fresh D z with z | z
                            · exact DA' z
                            · rw [z] at hD4; cases hD4
                        refine wpAny_mono (hc C d A env as' _ Hp' { s with heap := h4, toks := tk4 } _ hC hA S I4 R4 ?_) (fun _ _ z => z) fun _ _ z => z.elim
                        cases ec : dc C (setAt (setAt vals i va) j vb) Hp' with
                        | err => rw [ec] at p'; exact p'
                        | ok b H5 =>
                          rw [ec] at p'
                          cases b with
                          | bool b =>
                            intro as5 h5 tk5 I5 X5
                            obtain ⟨J5, hD5, it5, D5⟩ := step X5
                            have X5' := X4.trans X5
                            have R5 := R4.up X5
                            cases b with
                            | false =>
                              rw [if_neg Bool.false_ne_true]
                              exact ⟨n, Nat.lt_succ_self n, as5, acc, accv, H5, h5, tk5, m, q + 1, rfl, I5, X5', R5.blank blank_sub, J5, it5, D5, hD5, V'.up X5.pre, p'⟩
                            | true =>
                              rw [if_pos rfl]
                              replace p' : PostR c as s ((de C (setAt (setAt vals i va) j vb) H5).bind fun v h => match few acc.length with
                                | true => compLoop get C de dc [i, j] r vals n (q + 1) (acc ++ [v]) h
                                | false => .err) Q := p'
                              refine wpAny_mono (he C d A env as5 _ H5 { s with heap := h5, toks := tk5 } _ hC hA S I5 R5 ?_) (fun _ _ z => z) fun _ _ z => z.elim
                              cases ee : de C (setAt (setAt vals i va) j vb) H5 with
                              | err => rw [ee] at p'; exact p'
                              | ok w H6 =>
                                rw [ee] at p'
                                intro val6 as6 h6 tk6 I6 X6 V6
                                obtain ⟨J6, hD6, it6, D6⟩ := step (X5.trans X6)
                                have X6' := X5'.trans X6
                                replace p' : PostR c as s (match few acc.length with
                                  | true => compLoop get C de dc [i, j] r vals n (q + 1) (acc ++ [w]) H6
                                  | false => .err) Q := p'
                                cases hf : few acc.length with
                                | false => rw [hf] at p'; exact p'.elim
                                | true =>
                                  rw [hf] at p'
                                  have hle : acc.length ≤ 100000 := Nat.le_of_ble_eq_true hf
                                  have hz := sizeLine_ge
                                  refine append_at (s := { s with heap := h6, toks := tk6 }) (its := accv.toArray) (n := m) hD6 (fun h7 hs7 hD7 => ?_) (by rw [List.size_toArray, V'.length]; omega)
                                  have u7 : UpdX [D] h6 h7 := fun b o m e => (hs7.2 b fun z => m (by rw [z]; exact .head _)).trans e
                                  have I7 := I6.other (X := [D]) (fun b m => by rw [List.mem_singleton.mp m]; exact D6) (fun b m => by rw [List.mem_singleton.mp m]; exact h0 _ fD) u7
                                  have R7 := (R5.up X6).other (X := [D]) (fun b m => by rw [List.mem_singleton.mp m]; exact Dp) u7
                                  have X7 := X6'.other (X := [D]) (fun b m => by rw [List.mem_singleton.mp m]; exact fD) u7
                                  refine ⟨n, Nat.lt_succ_self n, as6, acc ++ [w], accv ++ [val6], H6, h7, tk6, m + 1, q + 1, rfl, I7, X7, R7.blank blank_sub, hkeep _ _ _ J6 fun o e => u7 it o (fun m => itD (List.mem_singleton.mp m)) e, it6, D6, ?_, ((V'.up X5.pre).up X6.pre).append (.cons V6 .nil), p'⟩
                                  rw [hD7]
                                  show some _ = some (listOf (accv ++ [val6]).toArray (m + 1))
                                  rw [← List.push_toArray]
                          | _ => exact p'.elim
                · cases hst
        · exact p'.elim
end
end Mine

namespace Mine
open PySem PySem.W PySem.Calls PyProof.Rows

section
variable {c : Cx} {sc : Scope} {Γ : List (Str × Nat)}

theorem go_tupiter {prog : Program} {w : World} {A : Around} {E : Value → Shared → Prop} {s : Shared} {elts : List PySem.Expr} {x1} {pos : Pos} {I l T : Addr} {i : Nat} {Q : Unit → Shared → Prop} (hit : s.heap.IsTupleIter I l i) (hQ : Q () s) :
    wpAny (model prog w) A (letOwnedTupleGo (.Tuple elts x1 pos) (.ref I) (.ref T)) Q E s := by
  obtain ⟨o, ho, hc, hd⟩ := hit
  unfold letOwnedTupleGo
  refine wpAny_bind (wpAny_load ho ?_)
  rw [hc, hd]
  have e : (["enumerate", "zip", "dict_itemiterator", "dict_reverseitemiterator", "odict_iterator", "itertools.zip_longest", "itertools.pairwise"].contains "tuple_iterator" && (#[.ref l, .int i 0] : Array Value)[0]? == some (rawInt T)) = false := by
    rw [show (["enumerate", "zip", "dict_itemiterator", "dict_reverseitemiterator", "odict_iterator", "itertools.zip_longest", "itertools.pairwise"].contains "tuple_iterator") = false from by decide, Bool.false_and]
  refine wpAny_of_eq (a := ()) ?_ hQ
  exact if_neg (by rw [e]; exact Bool.false_ne_true)

-- what a comprehension of two names asks of its scope
structure CompOk (sc : Scope) (Γ : List (Str × Nat)) (scope : Scope) (Γ' : List (Str × Nat)) (x y : Str) (i j : Nat) : Prop where
  kind : scope.kind = .function
  names : ∀ z ∈ scope.names, z.2 = .local → scope.names.lookup z.1 = some .local
  nocell : ∀ z ∈ scope.names, z.2 ≠ .cell
  ne : i ≠ j
  nod : (Γ'.map (·.2)).Nodup
  hx : Γ'.lookup x = some i
  hy : Γ'.lookup y = some j
  kx : (relab scope sc).names.lookup x = some .local
  ky : (relab scope sc).names.lookup y = some .local
  hΓ : ∀ z n, Γ'.lookup z = some n → n = i ∨ n = j ∨ (Γ.lookup z = some n ∧ (relab scope sc).names.lookup z = some .cell ∧ sc.names.lookup z = some .cell)
  clos : ∀ env, EnvS sc env → ∃ cl, closureFor scope env = pure cl ∧ (∀ q ∈ cl, q ∈ env.cells) ∧ ∀ z, (relab scope sc).names.lookup z = some .cell → ∃ a, cl.lookup z = some a ∧ env.cells.lookup z = some a

theorem e_comp {x y : Str} {xp yp tp : Pos} {k : Nat} {elt iter cond : PySem.Expr} {scope : Scope} {Γ' : List (Str × Nat)} {i j : Nat} {de di dc : Den} (pos : Pos) (K : CompOk sc Γ scope Γ' x y i j) (hs : ∀ env x, foldedSetIterable iter env x = pure x)
    (hi : SndE c sc Γ iter di) (he : SndE c (relab scope sc) Γ' elt de) (hc : SndT c (relab scope sc) Γ' cond dc) :
    SndE c sc Γ (.ListComp elt [⟨.Tuple [.Name x xp, .Name y yp] k tp, iter, [cond], 0⟩] scope pos) (cComp de [i, j] di dc) := fun C d A env as vals Hp s Q hC hA S I R p => by
  unfold cComp at p
  obtain ⟨cl, hcl, hsub, hlk⟩ := K.clos env S
  rw [eval_ListComp]
  refine wpAny_comprehension_free (use := none) rfl (hs env) hcl K.kind K.names (hi C d A env as vals Hp s _ hC hA S I R ?_)
  cases ei : di C vals Hp with
  | err => rw [ei] at p; exact p
  | ok z H1 =>
    rw [ei] at p
    intro val as1 h1 tk1 I1 X1 V1
    replace p : PostR c as1 { s with heap := h1, toks := tk1 } (compV C de dc [i, j] vals z H1) Q := PostR.later p X1
    have R1 := R.up X1
    unfold compV at p
    split at p
    · rename_i r
      cases V1 with
      | ref er =>
        rename_i l
        have body : ∀ (IterP : Nat → Heap → Prop) (get : H → Nat → Option (List V)) (ob : Obj),
            (∀ as' Hp' (s' : Shared) xs q v Q', Inv c as' Hp' s'.heap → as'[r]? = some l → get Hp' r = some xs → xs[q]? = some v → IterP q s'.heap →
              (∀ val h', VR c.fa as' v val → IterP (q + 1) h' → UpdX [h1.objs.size] s'.heap h' → Q' (some val) { s' with heap := h' }) → wpAny (model c.prog c.w) A (pyNext (.ref h1.objs.size)) Q' F' s') →
            (∀ as' Hp' (s' : Shared) xs q Q', Inv c as' Hp' s'.heap → as'[r]? = some l → get Hp' r = some xs → xs[q]? = none → IterP q s'.heap →
              (∀ h', UpdX [h1.objs.size] s'.heap h' → Q' none { s' with heap := h' }) → wpAny (model c.prog c.w) A (pyNext (.ref h1.objs.size)) Q' F' s') →
            (∀ q h h', IterP q h → (∀ o, h.get? h1.objs.size = some o → h'.get? h1.objs.size = some o) → IterP q h') → (∀ q h, IterP q h → ∃ o, h.get? h1.objs.size = some o) →
            (∀ (s' : Shared) Q' E', IterP 0 s'.heap → Q' (.ref h1.objs.size) s' → wpAny (model c.prog c.w) A (pyIter (.ref h1.objs.size)) Q' E' s') →
            (∀ q T (s' : Shared) (Q' : Unit → Shared → Prop) (E' : Value → Shared → Prop), IterP q s'.heap → Q' () s' → wpAny (model c.prog c.w) A (letOwnedTupleGo (.Tuple [.Name x xp, .Name y yp] k tp) (.ref h1.objs.size) (.ref T)) Q' E' s') →
            IterP 0 (h1.push ob) →
            PostR c as1 { s with heap := h1, toks := tk1 } (compLoop get C de dc [i, j] r vals 1000 0 [] H1) Q →
            wpAny (model c.prog c.w) A (newList []) (fun acc s₃ => wpAny (model c.prog c.w) A (newFunctionEnv scope env.globals cl [] env.qual none .none (some env)) (fun cenv s₄ =>
              codeAny (model c.prog c.w) A (.compStart (.ListComp elt [⟨.Tuple [.Name x xp, .Name y yp] k tp, iter, [cond], 0⟩] scope pos) 0 (.ref h1.objs.size) acc { cenv with scope := relabel scope env }) (compPost (model c.prog c.w) A F' none Q acc cenv.locals) s₄) F' s₃) F' { s with heap := h1.push ob, toks := tk1 } := by
          intro IterP get ob item fin hkeep halive hself hgo hJ p
          refine wpAny_newObj_type (wpAny_newFunctionEnv K.nocell (by intro y hy; simp at hy) (fun h₁ hns₁ hsb₁ => ?_) K.kind)
          dsimp only at hns₁ hsb₁ ⊢
          generalize hH2 : (h1.push ob).push { cls := .type "list", dict := none, data := .seq ([] : List Value).toArray } = H2 at hns₁ hsb₁ ⊢
          have z1 : (h1.push ob).objs.size = h1.objs.size + 1 := Heap.size_push ..
          have z2 : H2.objs.size = h1.objs.size + 2 := by rw [← hH2, Heap.size_push, z1]
          have g1 : ∀ b o, h1.get? b = some o → (h1.push ob).get? b = some o := fun b o e => Heap.get?_push_of_some _ e
          have g2 : ∀ b o, (h1.push ob).get? b = some o → H2.get? b = some o := fun b o e => hH2 ▸ Heap.get?_push_of_some _ e
          have g3 : ∀ b o, H2.get? b = some o → h₁.get? b = some o := fun b o e => (hsb₁.2 b (Nat.ne_of_lt (Heap.lt_size e))).trans (Heap.get?_push_of_some _ e)
          have g : ∀ b o, h1.get? b = some o → h₁.get? b = some o := fun b o e => g3 b o (g2 b o (g1 b o e))
          have fr : ∀ a, h1.objs.size ≤ a → h1.get? a = none := fun a ha => Heap.get?_none_of_le ha
          have h0 : ∀ b, h1.get? b = none → c.h₀.get? b = none := fun b e => by
            cases q : c.h₀.get? b with
            | none => rfl
            | some o => rw [I1.base b o q] at e; cases e
          have S' : EnvS (relab scope sc) (compEnvC scope cl H2.objs.size env) := ⟨by rw [← S.scope]; rfl, K.kind, S.globals, S.builtins, fun z hz => let ⟨a, ha, _⟩ := hlk z hz; ⟨a, ha⟩⟩
          have hle : h1.objs.size ≤ H2.objs.size := by rw [z2]; exact Nat.le_add_right _ _
          have hcal : ∀ q ∈ cl, ∃ o, h1.get? q.2 = some o := fun q hq => R1.there (privs_cell (hsub q hq))
          have R' : EnvR c (compEnvC scope cl H2.objs.size env) Γ' as1 (blank i j vals) h₁ := by
            refine ⟨⟨_, hns₁⟩, fun q hq => ?_, fun a m q => ?_, fun q hq q' hq' e => R1.inj q (hsub q hq) q' (hsub q' hq') e, fun q hq e => ?_, fun a m => ?_, fun z n v hz hv hu => ?_⟩
            · obtain ⟨v, o, ho, r⟩ := R1.cells q (hsub q hq)
              exact ⟨v, o, g _ _ ho, r⟩
            · cases m with
              | head =>
                obtain ⟨o, ho⟩ := I1.aliveAt q
                have := (fr _ hle).symm.trans ho
                cases this
              | tail _ m =>
                obtain ⟨q', hq', rfl⟩ := List.mem_map.mp m
                exact R1.off _ (privs_cell (hsub q' hq')) q
            · obtain ⟨o, ho⟩ := hcal q hq
              rw [e] at ho
              have := fr _ hle
              rw [show (compEnvC scope cl H2.objs.size env).locals = H2.objs.size from rfl, this] at ho; cases ho
            · cases m with
              | head => exact h0 _ (fr _ hle)
              | tail _ m =>
                obtain ⟨q', hq', rfl⟩ := List.mem_map.mp m
                exact R1.new _ (privs_cell (hsub q' hq'))
            · obtain ⟨ni, nj, hv'⟩ := blank_get hv hu
              rcases K.hΓ z n hz with e | e | ⟨hz', kz', kz⟩
              · exact absurd e ni
              · exact absurd e nj
              · obtain ⟨val, hV, hA'⟩ := R1.var z n v hz' hv' hu
                refine ⟨val, hV, ?_⟩
                obtain ⟨a, ha, ha'⟩ := hlk z kz'
                have kk : env.kindOf z = some .cell := by unfold Env.kindOf; rw [S.scope]; exact kz
                rcases hA' with ⟨hk, _⟩ | ⟨_, b, hb, o, ho, hd⟩
                · rw [kk] at hk; cases hk
                · rw [ha'] at hb; cases hb
                  exact .inr ⟨.inl (by unfold Env.kindOf; rw [S'.scope]; exact kz'), a, ha, o, g _ _ ho, hd⟩
          have nit : h1.objs.size ∉ as1 := fun q => by
            obtain ⟨o, ho⟩ := I1.aliveAt q
            rw [fr _ (Nat.le_refl _)] at ho; cases ho
          have nD : h1.objs.size + 1 ∉ as1 := fun q => by
            obtain ⟨o, ho⟩ := I1.aliveAt q
            rw [fr _ (Nat.le_succ _)] at ho; cases ho
          have hD : h₁.get? (h1.objs.size + 1) = some (listOf #[] 0) := g3 _ _ (by rw [← hH2, ← z1]; exact Heap.get?_push_size _ rfl)
          have hJ' : IterP 0 h₁ := hkeep _ _ _ hJ fun o e => g3 _ _ (g2 _ _ e)
          have loop := comp_core (xp := xp) (yp := yp) (tp := tp) (pos := pos) (k := k) (iter := iter) (scope := scope) (env := compEnvC scope cl H2.objs.size env) (s := { s with heap := h1, toks := tk1 }) (tk1 := tk1 + ([] : List (Str × Value)).length) (h1 := h₁) (it := h1.objs.size) (D := h1.objs.size + 1) IterP get hC hA S' he hc K.ne K.nod K.hx K.hy K.kx K.ky
            (fr _ (Nat.le_refl _)) (fr _ (Nat.le_succ _)) (fr _ hle) (Nat.ne_of_lt (Nat.lt_succ_self _)) (Nat.ne_of_lt (by show h1.objs.size < H2.objs.size; rw [z2]; exact Nat.lt_add_of_pos_right (by decide)))
            (Nat.ne_of_lt (by show h1.objs.size + 1 < H2.objs.size; rw [z2]; exact Nat.lt_succ_self _)) hcal h0 er nit nD item fin hkeep halive hgo (I1.grown g) R' (.grown g) hD hJ' p
          rw [show (h1.push ob).objs.size = h1.objs.size + 1 from z1]
          exact codeAny_compStart_list loop (hself _ _ _ hJ' loop)
        split at p
        · rename_i xs g
          have g' : getList H1 r = some xs := by unfold getList; rw [g]
          obtain ⟨items, m, hl, vv⟩ := get_list I1 er g'
          refine wpAny_pyIter_list (s := { s with heap := h1, toks := tk1 }) (listIs hl) (body (fun q h => h.IsListIter h1.objs.size l q) getList _ ?_ ?_ ?_ ?_ ?_ ?_ ?_ p)
          · intro as' Hp' s' xs q v Q' I' er' hg hv hJ k
            obtain ⟨items', m', hl', vv'⟩ := get_list I' er' hg
            obtain ⟨y, hy, V⟩ := vv'.get hv
            exact wpAny_pyNext_list_item hJ (listIs hl') (x := y) (by simpa using hy) fun h₁ hJ₁ u => k y h₁ V hJ₁ fun b' o m e => (u.2 b' fun q => m (by rw [q]; exact .head _)).trans e
          · intro as' Hp' s' xs q Q' I' er' hg hv hJ k
            obtain ⟨items', m', hl', vv'⟩ := get_list I' er' hg
            have : items'.toArray[q]? = none := by
              rw [List.getElem?_toArray, List.getElem?_eq_none_iff, vv'.length]
              exact List.getElem?_eq_none_iff.mp hv
            exact wpAny_pyNext_list_end hA.handled hJ (listIs hl') this fun h₁ u => k h₁ fun b' o m e => u b' o (fun q => m (by rw [q]; exact .head _)) e
          · rintro q h h' ⟨o, ho, r⟩ e
            exact ⟨o, e o ho, r⟩
          · rintro q h ⟨o, ho, r⟩
            exact ⟨o, ho⟩
          · intro s' Q' E' hJ hq
            exact wpAny_pyIter_listiter hJ hq
          · intro q T s' Q' E' hJ hq
            exact wpAny_letOwnedTupleGo_listiter hJ hq
          · exact ⟨_, Heap.get?_push_size _ rfl, rfl, rfl⟩
        · rename_i xs g
          have g' : getTup H1 r = some xs := by unfold getTup; rw [g]
          obtain ⟨items, hl, vv⟩ := get_tup I1 er g'
          refine wpAny_pyIter_tuple (s := { s with heap := h1, toks := tk1 }) hl (body (fun q h => h.IsTupleIter h1.objs.size l q) getTup _ ?_ ?_ ?_ ?_ ?_ ?_ ?_ p)
          · intro as' Hp' s' xs q v Q' I' er' hg hv hJ k
            obtain ⟨items', hl', vv'⟩ := get_tup I' er' hg
            obtain ⟨y, hy, V⟩ := vv'.get hv
            exact wpAny_pyNext_tuple_item hJ hl' (x := y) (by simpa using hy) fun h₁ hJ₁ u => k y h₁ V hJ₁ fun b' o m e => (u.2 b' fun q => m (by rw [q]; exact .head _)).trans e
          · intro as' Hp' s' xs q Q' I' er' hg hv hJ k
            obtain ⟨items', hl', vv'⟩ := get_tup I' er' hg
            have : items'.toArray[q]? = none := by
              rw [List.getElem?_toArray, List.getElem?_eq_none_iff, vv'.length]
              exact List.getElem?_eq_none_iff.mp hv
            exact wpAny_pyNext_tuple_end hA.handled hJ hl' this fun h₁ u => k h₁ fun b' o m e => u b' o (fun q => m (by rw [q]; exact .head _)) e
          · rintro q h h' ⟨o, ho, r⟩ e
            exact ⟨o, e o ho, r⟩
          · rintro q h ⟨o, ho, r⟩
            exact ⟨o, ho⟩
          · intro s' Q' E' hJ hq
            exact wpAny_pyIter_tupleiter hJ hq
          · intro q T s' Q' E' hJ hq
            exact go_tupiter hJ hq
          · exact ⟨_, Heap.get?_push_size _ rfl, rfl, rfl⟩
        · exact p.elim
    · exact p.elim
end
end Mine

namespace Mine
open PySem PySem.W PySem.Calls PyProof.Rows
def stAt (j : Nat) : Stmt := match PySem.Challenge.pw_xm0392_01.main.body[j]? with
  | some s => s
  | none => .Pass default
def bodyAt (j : Nat) : List Stmt := match stAt j with
  | .FunctionDef _ _ b _ _ _ _ _ _ _ => b
  | _ => []
def scopeAt (j : Nat) : Scope := match stAt j with
  | .FunctionDef _ _ _ _ _ _ sc _ _ _ => sc
  | _ => default
def argsAt (j : Nat) : Arguments := match stAt j with
  | .FunctionDef _ a _ _ _ _ _ _ _ _ => a
  | _ => default
def nameAt (j : Nat) : Str := match stAt j with
  | .FunctionDef n _ _ _ _ _ _ _ _ _ => n
  | _ => default
-- a def of the text stands at a place as it is written
def DefAt (mg : Str → Option Value) (h : Heap) (j : Nat) (a : Addr) : Prop := ∃ o pm code doc, mg (nameAt j) = some (.ref a) ∧ h.get? a = some o ∧ o.data = .func (docDef (nameAt j) (argsAt j) (bodyAt j) (scopeAt j) pm code doc) ∧ h.CodeRec code (nameAt j)
theorem fnOk_of {c : Cx} {k j : Nat} {F : Fn} {pn : List Str} {Γ : List (Str × Nat)} (h : DefAt c.mg c.h₀ j (c.fa k))
    (bind : ∀ (fd : FuncData), fd.params = argsAt j → fd.defaults = .none → fd.kwdefaults = .none → ∀ xs : List Value, xs.length = pn.length → bindArgs fd ⟨xs, []⟩ = pure (pn.zip xs))
    (num : pn.length = F.params) (nod : pn.Nodup) (kinds : ∀ x ∈ pn, (scopeAt j).names.lookup x = some .local ∨ (scopeAt j).names.lookup x = some .cell)
    (cnod : ((cellsFrom 0 (scopeAt j).names []).map (·.1)).Nodup) (slot : ∀ p ∈ Γ, p.2 < F.params → pn[p.2]? = some p.1)
    (co : (scopeAt j).isCoroutine = false) (gen : (scopeAt j).isGenerator = false) (kind : (scopeAt j).kind = .function)
    (snd : SndB c (scopeAt j) Γ (bodyAt j) F.body) : ∃ o fd body pn Γ, FnOk c k F o fd body pn Γ := by
  obtain ⟨o, pm, code, doc, _, ho, hd, hc⟩ := h
  exact ⟨o, _, bodyAt j, pn, Γ, ho, hd, hc, rfl, rfl, rfl, rfl, co, gen, kind, bind _ rfl rfl rfl, num, nod, kinds, cnod, fun x i hx hi => slot (x, i) (lookup_memN hx) hi, snd⟩
section
variable {c : Cx} {sc : Scope} {Γ : List (Str × Nat)}
theorem sto2 {x y : Str} {i j : Nat} (a : Sto sc Γ x i) (b : Sto sc Γ y j) : ∀ p ∈ [x, y].zip [i, j], Sto sc Γ p.1 p.2 := fun p hp => by
  rcases List.mem_cons.mp hp with rfl | hp
  · exact a
  · rw [List.mem_singleton.mp hp]; exact b
theorem sto3 {x y z : Str} {i j k : Nat} (a : Sto sc Γ x i) (b : Sto sc Γ y j) (d : Sto sc Γ z k) : ∀ p ∈ [x, y, z].zip [i, j, k], Sto sc Γ p.1 p.2 := fun p hp => by
  rcases List.mem_cons.mp hp with rfl | hp
  · exact a
  · rcases List.mem_cons.mp hp with rfl | hp
    · exact b
    · rw [List.mem_singleton.mp hp]; exact d
theorem lk_all {P : Str → Nat → Prop} (h : ∀ p ∈ Γ, P p.1 p.2) : ∀ z n, Γ.lookup z = some n → P z n := fun z n e => h (z, n) (lookup_memN e)
theorem clos_go (env : Env) : ∀ (names : List (Str × NameKind)) (acc : List (Str × Addr)), (∀ z ∈ names, z.2 = .free → ∃ a, env.cells.lookup z.1 = some a) → (∀ q ∈ acc, env.cells.lookup q.1 = some q.2) →
    ∃ cl, (forIn names acc fun x (cs : List (Str × Addr)) => (match x with
      | (name, kind) => if kind == .free then do let a ← cellOf env name; pure (ForInStep.yield ((name, a) :: cs)) else pure (ForInStep.yield cs) : Sem (ForInStep (List (Str × Addr))))) = pure cl ∧
      (∀ q ∈ cl, env.cells.lookup q.1 = some q.2) ∧ (∀ z, z ∈ acc.map (·.1) ∨ (z, NameKind.free) ∈ names → z ∈ cl.map (·.1))
  | [], acc, _, ha => ⟨acc, rfl, ha, fun z h => h.resolve_right fun m => nomatch m⟩
  | (n, k) :: names, acc, hn, ha => by
    by_cases hk : k = .free
    · subst hk
      obtain ⟨a, e⟩ := hn (n, .free) (.head _) rfl
      obtain ⟨cl, h1, h2, h3⟩ := clos_go env names ((n, a) :: acc) (fun z hz => hn z (.tail _ hz)) (fun q hq => by
        cases hq with
        | head => exact e
        | tail _ hq => exact ha q hq)
      refine ⟨cl, ?_, h2, fun z hz => h3 z ?_⟩
      · rw [List.forIn_cons]
        have hc : cellOf env n = pure a := by
          unfold cellOf
          rw [show env.cells.lookup n = some a from e]
        dsimp only
        rw [if_pos (by rfl), hc]
        exact h1
      · rcases hz with hz | hz
        · exact .inl (.tail _ hz)
        · cases hz with
          | head => exact .inl (.head _)
          | tail _ hz => exact .inr hz
    · obtain ⟨cl, h1, h2, h3⟩ := clos_go env names acc (fun z hz => hn z (.tail _ hz)) ha
      refine ⟨cl, ?_, h2, fun z hz => h3 z ?_⟩
      · rw [List.forIn_cons]
        dsimp only
        rw [if_neg (by simpa using hk)]
        exact h1
      · rcases hz with hz | hz
        · exact .inl hz
        · cases hz with
          | head => exact absurd rfl hk
          | tail _ hz => exact .inr hz
theorem lookup_memK {x : Str} {a : NameKind} : ∀ {l : List (Str × NameKind)}, l.lookup x = some a → (x, a) ∈ l
  | (y, b) :: l, e => by
    rw [List.lookup_cons] at e
    cases q : x == y with
    | true => rw [q] at e; cases e; rw [eq_of_beq q]; exact .head _
    | false => rw [q] at e; exact .tail _ (lookup_memK e)
theorem lookup_some {x : Str} : ∀ {l : List (Str × Addr)}, x ∈ l.map (·.1) → ∃ a, l.lookup x = some a
  | (y, b) :: l, h => by
    rw [List.lookup_cons]
    cases q : x == y with
    | true => exact ⟨b, rfl⟩
    | false =>
      cases h with
      | head => rw [beq_self_eq_true] at q; cases q
      | tail _ h => exact lookup_some h
theorem clos_of {scope : Scope} (hc : ∀ z ∈ scope.names, z.2 ≠ .cell) (hfree : ∀ z ∈ scope.names, z.2 = .free → sc.names.lookup z.1 = some .cell) :
    ∀ env, EnvS sc env → ∃ cl, closureFor scope env = pure cl ∧ (∀ q ∈ cl, q ∈ env.cells) ∧ ∀ z, (relab scope sc).names.lookup z = some .cell → ∃ a, cl.lookup z = some a ∧ env.cells.lookup z = some a := fun env S => by
  obtain ⟨cl, h1, h2, h3⟩ := clos_go env scope.names [] (fun z hz e => S.cellsOf z.1 (hfree z hz e)) (fun q hq => nomatch hq)
  refine ⟨cl, ?_, fun q hq => lookup_mem (h2 q hq), fun z hz => ?_⟩
  · unfold closureFor
    rw [← pure_bind cl pure, ← h1]
  · have hm := lookup_memK hz
    obtain ⟨p, hp, e⟩ := List.mem_map.mp hm
    obtain ⟨n, k⟩ := p
    dsimp only at e
    have hz' : (z, NameKind.free) ∈ scope.names := by
      split at e
      · rename_i q
        cases e
        have : k = .free := by
          simp only [Bool.and_eq_true, beq_iff_eq] at q
          exact q.1.1
        exact this ▸ hp
      · cases e; exact absurd rfl (hc _ hp)
    obtain ⟨a, ha⟩ := lookup_some (h3 z (.inr hz'))
    exact ⟨a, ha, h2 _ (lookup_mem ha)⟩
end
noncomputable def b_normal : DenS := (sSeq (sAsg 1 (cLen (cVar 0))) (sSeq (sWhile (cAnd (cCmp .gt (cVar 1) (cLit (.int 0))) (cCmp .eq (cIdx (cVar 0) (cBin .sub (cVar 1) (cLit (.int 1)))) (cLit (.int 0)))) (sSeq (sAug 1 .sub (cLit (.int 1))) sSkip)) (sSeq (sRet (cSliceNS (cVar 0) (cVar 1))) sSkip)))
noncomputable def f_normal : Fn := ⟨1, 1, b_normal⟩
noncomputable def b_nat_of : DenS := (sSeq (sIff (cCmp .lt (cVar 0) (cLit (.int 0))) (sSeq sFail sSkip) sSkip) (sSeq (sUnpackW [3, 2] [(cList []), (cBin .sub (cBin .shl (cLit (.int 1)) (cVar 1)) (cLit (.int 1)))]) (sSeq (sWhile (cCmp .gt (cVar 0) (cLit (.int 0))) (sSeq (sAppend (cVar 2) (cBin .band (cVar 0) (cVar 3))) (sSeq (sAug 0 .shr (cVar 1)) sSkip))) (sSeq (sRet (cVar 2)) sSkip))))
noncomputable def f_nat_of : Fn := ⟨2, 2, b_nat_of⟩
noncomputable def b_compare : DenS := (sSeq (sIff (cCmp .ne (cLen (cVar 0)) (cLen (cVar 1))) (sSeq (sRet (cIte (cCmp .lt (cLen (cVar 0)) (cLen (cVar 1))) (cNeg (cLit (.int 1))) (cLit (.int 1)))) sSkip) sSkip) (sSeq (sFor3 2 (cBin .sub (cLen (cVar 0)) (cLit (.int 1))) (cNeg (cLit (.int 1))) (cNeg (cLit (.int 1))) (sSeq (sIff (cCmp .ne (cIdx (cVar 0) (cVar 2)) (cIdx (cVar 1) (cVar 2))) (sSeq (sRet (cIte (cCmp .lt (cIdx (cVar 0) (cVar 2)) (cIdx (cVar 1) (cVar 2))) (cNeg (cLit (.int 1))) (cLit (.int 1)))) sSkip) sSkip) sSkip)) (sSeq (sRet (cLit (.int 0))) sSkip)))
noncomputable def f_compare : Fn := ⟨2, 1, b_compare⟩
noncomputable def b_add : DenS := (sSeq (sIff (cCmp .lt (cLen (cVar 0)) (cLen (cVar 1))) (sSeq (sUnpackW [1, 0] [(cVar 1), (cVar 0)]) sSkip) sSkip) (sSeq (sUnpackW [5, 4, 3] [(cList []), (cLit (.int 0)), (cBin .sub (cBin .shl (cLit (.int 1)) (cVar 2)) (cLit (.int 1)))]) (sSeq (sFor1 6 (cLen (cVar 1)) (sSeq (sAug 4 .add (cBin .add (cIdx (cVar 0) (cVar 6)) (cIdx (cVar 1) (cVar 6)))) (sSeq (sAppend (cVar 3) (cBin .band (cVar 4) (cVar 5))) (sSeq (sAug 4 .shr (cVar 2)) sSkip)))) (sSeq (sFor2 6 (cLen (cVar 1)) (cLen (cVar 0)) (sSeq (sAug 4 .add (cIdx (cVar 0) (cVar 6))) (sSeq (sAppend (cVar 3) (cBin .band (cVar 4) (cVar 5))) (sSeq (sAug 4 .shr (cVar 2)) sSkip)))) (sSeq (sIff (cCmp .gt (cVar 4) (cLit (.int 0))) (sSeq (sAppend (cVar 3) (cVar 4)) sSkip) sSkip) (sSeq (sRet (cVar 3)) sSkip))))))
noncomputable def f_add : Fn := ⟨3, 4, b_add⟩
noncomputable def b_sub : DenS := (sSeq (sIff (cCmp .lt (cCall (cLit (.fn 2)) [(cVar 0), (cVar 1)]) (cLit (.int 0))) (sSeq sFail sSkip) sSkip) (sSeq (sUnpackW [5, 4, 3] [(cList []), (cLit (.int 0)), (cBin .shl (cLit (.int 1)) (cVar 2))]) (sSeq (sFor1 6 (cLen (cVar 0)) (sSeq (sAsg 7 (cBin .sub (cBin .sub (cIdx (cVar 0) (cVar 6)) (cVar 4)) (cIte (cCmp .lt (cVar 6) (cLen (cVar 1))) (cIdx (cVar 1) (cVar 6)) (cLit (.int 0))))) (sSeq (sAsg 4 (cIte (cCmp .lt (cVar 7) (cLit (.int 0))) (cLit (.int 1)) (cLit (.int 0)))) (sSeq (sAppend (cVar 3) (cIte (cCmp .lt (cVar 7) (cLit (.int 0))) (cBin .add (cVar 7) (cVar 5)) (cVar 7))) sSkip)))) (sSeq (sRet (cCall (cLit (.fn 0)) [(cVar 3)])) sSkip))))
noncomputable def f_sub : Fn := ⟨3, 5, b_sub⟩
noncomputable def b_add_limb : DenS := (sSeq (sUnpackW [4, 3] [(cList []), (cBin .sub (cBin .shl (cLit (.int 1)) (cVar 2)) (cLit (.int 1)))]) (sSeq (sForL 5 (cVar 0) (sSeq (sAug 1 .add (cVar 5)) (sSeq (sAppend (cVar 3) (cBin .band (cVar 1) (cVar 4))) (sSeq (sAug 1 .shr (cVar 2)) sSkip)))) (sSeq (sIff (cCmp .gt (cVar 1) (cLit (.int 0))) (sSeq (sAppend (cVar 3) (cVar 1)) sSkip) sSkip) (sSeq (sRet (cVar 3)) sSkip))))
noncomputable def f_add_limb : Fn := ⟨3, 3, b_add_limb⟩
noncomputable def b_add_at : DenS := (sSeq (sIff (cCmp .eq (cLen (cVar 1)) (cLit (.int 0))) (sSeq (sRet (cSliceNN (cVar 0))) sSkip) sSkip) (sSeq (sIff (cCmp .ge (cVar 2) (cLen (cVar 0))) (sSeq (sRet (cBin .add (cBin .add (cVar 0) (cBin .mul (cList [(cLit (.int 0))]) (cBin .sub (cVar 2) (cLen (cVar 0))))) (cVar 1))) sSkip) sSkip) (sSeq (sRet (cBin .add (cSliceNS (cVar 0) (cVar 2)) (cCall (cLit (.fn 3)) [(cSliceSN (cVar 0) (cVar 2)), (cVar 1), (cVar 3)]))) sSkip)))
noncomputable def f_add_at : Fn := ⟨4, 0, b_add_at⟩
noncomputable def b_divrem_limb : DenS := (sSeq (sIff (cCmp .eq (cVar 1) (cLit (.int 0))) (sSeq sFail sSkip) sSkip) (sSeq (sUnpackW [4, 3] [(cBin .mul (cList [(cLit (.int 0))]) (cLen (cVar 0))), (cLit (.int 0))]) (sSeq (sFor3 5 (cBin .sub (cLen (cVar 0)) (cLit (.int 1))) (cNeg (cLit (.int 1))) (cNeg (cLit (.int 1))) (sSeq (sAsg 4 (cBin .bor (cBin .shl (cVar 4) (cVar 2)) (cIdx (cVar 0) (cVar 5)))) (sSeq (sSetidx (cVar 3) (cVar 5) (cBin .fdiv (cVar 4) (cVar 1))) (sSeq (sAug 4 .mod (cVar 1)) sSkip)))) (sSeq (sRet (cTup [(cCall (cLit (.fn 0)) [(cVar 3)]), (cVar 4)])) sSkip))))
noncomputable def f_divrem_limb : Fn := ⟨3, 3, b_divrem_limb⟩
noncomputable def b_shift_left : DenS := (sSeq (sIff (cCmp .eq (cLen (cVar 0)) (cLit (.int 0))) (sSeq (sRet (cList [])) sSkip) sSkip) (sSeq (sUnpackW [4, 3] [(cBin .fdiv (cVar 1) (cVar 2)), (cBin .mod (cVar 1) (cVar 2))]) (sSeq (sUnpackW [7, 6, 5] [(cBin .mul (cList [(cLit (.int 0))]) (cVar 3)), (cLit (.int 0)), (cBin .sub (cBin .shl (cLit (.int 1)) (cVar 2)) (cLit (.int 1)))]) (sSeq (sForL 8 (cVar 0) (sSeq (sAug 6 .bor (cBin .shl (cVar 8) (cVar 4))) (sSeq (sAppend (cVar 5) (cBin .band (cVar 6) (cVar 7))) (sSeq (sAug 6 .shr (cVar 2)) sSkip)))) (sSeq (sIff (cCmp .gt (cVar 6) (cLit (.int 0))) (sSeq (sAppend (cVar 5) (cVar 6)) sSkip) sSkip) (sSeq (sRet (cVar 5)) sSkip))))))
noncomputable def f_shift_left : Fn := ⟨3, 6, b_shift_left⟩
noncomputable def b_shift_right : DenS := (sSeq (sUnpackW [4, 3] [(cBin .fdiv (cVar 1) (cVar 2)), (cBin .mod (cVar 1) (cVar 2))]) (sSeq (sUnpackW [6, 5] [(cList []), (cBin .sub (cBin .shl (cLit (.int 1)) (cVar 2)) (cLit (.int 1)))]) (sSeq (sFor2 7 (cVar 3) (cLen (cVar 0)) (sSeq (sAsg 8 (cIte (cCmp .lt (cBin .add (cVar 7) (cLit (.int 1))) (cLen (cVar 0))) (cIdx (cVar 0) (cBin .add (cVar 7) (cLit (.int 1)))) (cLit (.int 0)))) (sSeq (sAppend (cVar 5) (cBin .band (cBin .bor (cBin .shr (cIdx (cVar 0) (cVar 7)) (cVar 4)) (cBin .shl (cVar 8) (cBin .sub (cVar 2) (cVar 4)))) (cVar 6))) sSkip))) (sSeq (sRet (cCall (cLit (.fn 0)) [(cVar 5)])) sSkip))))
noncomputable def f_shift_right : Fn := ⟨3, 6, b_shift_right⟩
noncomputable def b_bits : DenS := (sSeq (sRet (cIte (cCmp .gt (cLen (cVar 0)) (cLit (.int 0))) (cBin .add (cBin .mul (cBin .sub (cLen (cVar 0)) (cLit (.int 1))) (cVar 1)) (cBitlen (cIdx (cVar 0) (cNeg (cLit (.int 1)))))) (cLit (.int 0)))) sSkip)
noncomputable def f_bits : Fn := ⟨2, 0, b_bits⟩
noncomputable def b_bit : DenS := (sSeq (sRet (cIte (cCmp .lt (cBin .fdiv (cVar 1) (cVar 2)) (cLen (cVar 0))) (cBin .band (cBin .shr (cIdx (cVar 0) (cBin .fdiv (cVar 1) (cVar 2))) (cBin .mod (cVar 1) (cVar 2))) (cLit (.int 1))) (cLit (.int 0)))) sSkip)
noncomputable def f_bit : Fn := ⟨3, 0, b_bit⟩
noncomputable def b_split : DenS := (sSeq (sRet (cTup [(cCall (cLit (.fn 0)) [(cSliceNS (cVar 0) (cVar 1))]), (cSliceSN (cVar 0) (cVar 1))])) sSkip)
noncomputable def f_split : Fn := ⟨2, 0, b_split⟩
noncomputable def b_sqrt_small : DenS := (sSeq (sAsg 1 (cLit (.int 1))) (sSeq (sWhile (cCmp .le (cBin .mul (cVar 1) (cLit (.int 4))) (cVar 0)) (sSeq (sAsg 1 (cBin .mul (cVar 1) (cLit (.int 4)))) sSkip)) (sSeq (sAsg 2 (cLit (.int 0))) (sSeq (sWhile (cCmp .gt (cVar 1) (cLit (.int 0))) (sSeq (sIff (cCmp .ge (cVar 0) (cBin .add (cVar 2) (cVar 1))) (sSeq (sAsg 0 (cBin .sub (cBin .sub (cVar 0) (cVar 2)) (cVar 1))) (sSeq (sAsg 2 (cBin .add (cBin .shr (cVar 2) (cLit (.int 1))) (cVar 1))) sSkip)) (sSeq (sAsg 2 (cBin .shr (cVar 2) (cLit (.int 1)))) sSkip)) (sSeq (sAsg 1 (cBin .shr (cVar 1) (cLit (.int 2)))) sSkip))) (sSeq (sRet (cVar 2)) sSkip)))))
noncomputable def f_sqrt_small : Fn := ⟨1, 2, b_sqrt_small⟩
noncomputable def b_sqrt_plain : DenS := (sSeq (sUnpackW [3, 2] [(cList []), (cList [])]) (sSeq (sFor3 4 (cBin .sub (cBin .fdiv (cBin .add (cCall (cLit (.fn 10)) [(cVar 0), (cVar 1)]) (cLit (.int 1))) (cLit (.int 2))) (cLit (.int 1))) (cNeg (cLit (.int 1))) (cNeg (cLit (.int 1))) (sSeq (sAsg 3 (cCall (cLit (.fn 8)) [(cVar 3), (cLit (.int 2)), (cVar 1)])) (sSeq (sAsg 3 (cCall (cLit (.fn 3)) [(cVar 3), (cCall (cLit (.fn 1)) [(cBin .add (cBin .mul (cLit (.int 2)) (cCall (cLit (.fn 11)) [(cVar 0), (cBin .add (cBin .mul (cLit (.int 2)) (cVar 4)) (cLit (.int 1))), (cVar 1)])) (cCall (cLit (.fn 11)) [(cVar 0), (cBin .mul (cLit (.int 2)) (cVar 4)), (cVar 1)])), (cVar 1)]), (cVar 1)])) (sSeq (sAsg 5 (cCall (cLit (.fn 3)) [(cCall (cLit (.fn 8)) [(cVar 2), (cLit (.int 2)), (cVar 1)]), (cList [(cLit (.int 1))]), (cVar 1)])) (sSeq (sAsg 2 (cCall (cLit (.fn 8)) [(cVar 2), (cLit (.int 1)), (cVar 1)])) (sSeq (sIff (cCmp .ge (cCall (cLit (.fn 2)) [(cVar 3), (cVar 5)]) (cLit (.int 0))) (sSeq (sAsg 3 (cCall (cLit (.fn 4)) [(cVar 3), (cVar 5), (cVar 1)])) (sSeq (sAsg 2 (cCall (cLit (.fn 3)) [(cVar 2), (cList [(cLit (.int 1))]), (cVar 1)])) sSkip)) sSkip) sSkip)))))) (sSeq (sRet (cTup [(cVar 2), (cVar 3)])) sSkip)))
noncomputable def f_sqrt_plain : Fn := ⟨2, 4, b_sqrt_plain⟩
noncomputable def b_sqrt_two_limbs : DenS := (sSeq (sAsg 2 (cLit (.int 0))) (sSeq (sForRev 3 (cVar 0) (sSeq (sAsg 2 (cBin .add (cBin .shl (cVar 2) (cVar 1)) (cVar 3))) sSkip)) (sSeq (sAsg 4 (cCall (cLit (.fn 13)) [(cVar 2)])) (sSeq (sRet (cTup [(cCall (cLit (.fn 1)) [(cVar 4), (cVar 1)]), (cCall (cLit (.fn 1)) [(cBin .sub (cVar 2) (cBin .mul (cVar 4) (cVar 4))), (cVar 1)])])) sSkip))))
noncomputable def f_sqrt_two_limbs : Fn := ⟨2, 3, b_sqrt_two_limbs⟩
noncomputable def b_sqrt_halves : DenS := (sSeq (sIff (cCmp .le (cVar 1) (cLit (.int 2))) (sSeq (sRet (cCall (cLit (.fn 15)) [(cVar 0), (cVar 2)])) sSkip) sSkip) (sSeq (sIff (cCmp .le (cVar 1) (cVar 3)) (sSeq (sRet (cCall (cLit (.fn 14)) [(cVar 0), (cVar 2)])) sSkip) sSkip) (sSeq (sAsg 6 (cBin .fdiv (cVar 1) (cLit (.int 4)))) (sSeq (sUnpack [7, 8] (cCall (cLit (.fn 12)) [(cVar 0), (cBin .mul (cLit (.int 2)) (cVar 6))])) (sSeq (sUnpack [9, 10] (cCall (cLit (.fn 12)) [(cVar 7), (cVar 6)])) (sSeq (sUnpack [11, 12] (cCall (cLit (.fn 16)) [(cVar 8), (cBin .sub (cVar 1) (cBin .mul (cLit (.int 2)) (cVar 6))), (cVar 2), (cVar 3), (cVar 4), (cVar 5)])) (sSeq (sUnpack [13, 14] (cCall (cVar 5) [(cCall (cLit (.fn 6)) [(cVar 10), (cVar 12), (cVar 6), (cVar 2)]), (cCall (cLit (.fn 8)) [(cVar 11), (cLit (.int 1)), (cVar 2)]), (cVar 2)])) (sSeq (sAsg 11 (cCall (cLit (.fn 6)) [(cVar 13), (cVar 11), (cVar 6), (cVar 2)])) (sSeq (sAsg 12 (cCall (cLit (.fn 6)) [(cVar 9), (cVar 14), (cVar 6), (cVar 2)])) (sSeq (sAsg 15 (cCall (cVar 4) [(cVar 13), (cVar 13), (cVar 2)])) (sSeq (sIff (cCmp .ge (cCall (cLit (.fn 2)) [(cVar 12), (cVar 15)]) (cLit (.int 0))) (sSeq (sRet (cTup [(cVar 11), (cCall (cLit (.fn 4)) [(cVar 12), (cVar 15), (cVar 2)])])) sSkip) sSkip) (sSeq (sAsg 12 (cCall (cLit (.fn 4)) [(cCall (cLit (.fn 3)) [(cVar 12), (cCall (cLit (.fn 8)) [(cVar 11), (cLit (.int 1)), (cVar 2)]), (cVar 2)]), (cCall (cLit (.fn 3)) [(cVar 15), (cList [(cLit (.int 1))]), (cVar 2)]), (cVar 2)])) (sSeq (sRet (cTup [(cCall (cLit (.fn 4)) [(cVar 11), (cList [(cLit (.int 1))]), (cVar 2)]), (cVar 12)])) sSkip)))))))))))))
noncomputable def f_sqrt_halves : Fn := ⟨6, 10, b_sqrt_halves⟩
noncomputable def b_sqrt_rem : DenS := (sSeq (sIff (cCmp .eq (cLen (cVar 0)) (cLit (.int 0))) (sSeq (sRet (cTup [(cList []), (cList [])])) sSkip) sSkip) (sSeq (sAsg 5 (cBin .add (cLen (cVar 0)) (cBin .mod (cLen (cVar 0)) (cLit (.int 2))))) (sSeq (sAsg 6 (cBin .sub (cBin .mul (cVar 5) (cVar 1)) (cCall (cLit (.fn 10)) [(cVar 0), (cVar 1)]))) (sSeq (sAsg 6 (cBin .sub (cVar 6) (cBin .mod (cVar 6) (cLit (.int 2))))) (sSeq (sIff (cCmp .eq (cVar 6) (cLit (.int 0))) (sSeq (sRet (cCall (cLit (.fn 16)) [(cVar 0), (cVar 5), (cVar 1), (cVar 2), (cVar 3), (cVar 4)])) sSkip) sSkip) (sSeq (sUnpack [7, 8] (cCall (cLit (.fn 16)) [(cCall (cLit (.fn 8)) [(cVar 0), (cVar 6), (cVar 1)]), (cVar 5), (cVar 1), (cVar 2), (cVar 3), (cVar 4)])) (sSeq (sAsg 7 (cCall (cLit (.fn 9)) [(cVar 7), (cBin .fdiv (cVar 6) (cLit (.int 2))), (cVar 1)])) (sSeq (sRet (cTup [(cVar 7), (cCall (cLit (.fn 4)) [(cVar 0), (cCall (cVar 3) [(cVar 7), (cVar 7), (cVar 1)]), (cVar 1)])])) sSkip))))))))
noncomputable def f_sqrt_rem : Fn := ⟨5, 4, b_sqrt_rem⟩
noncomputable def b_mul_school : DenS := (sSeq (sUnpackW [4, 3] [(cBin .mul (cList [(cLit (.int 0))]) (cBin .add (cLen (cVar 0)) (cLen (cVar 1)))), (cBin .sub (cBin .shl (cLit (.int 1)) (cVar 2)) (cLit (.int 1)))]) (sSeq (sForEnum 5 6 (cVar 0) (sSeq (sAsg 7 (cLit (.int 0))) (sSeq (sForEnum 8 9 (cVar 1) (sSeq (sAug 7 .add (cBin .add (cIdx (cVar 3) (cBin .add (cVar 5) (cVar 8))) (cBin .mul (cVar 6) (cVar 9)))) (sSeq (sSetidx (cVar 3) (cBin .add (cVar 5) (cVar 8)) (cBin .band (cVar 7) (cVar 4))) (sSeq (sAug 7 .shr (cVar 2)) sSkip)))) (sSeq (sSetidx (cVar 3) (cBin .add (cVar 5) (cLen (cVar 1))) (cVar 7)) sSkip)))) (sSeq (sRet (cCall (cLit (.fn 0)) [(cVar 3)])) sSkip)))
noncomputable def f_mul_school : Fn := ⟨3, 7, b_mul_school⟩
noncomputable def b_divrem_small : DenS := (sSeq (sUnpack [3, 4] (cCall (cLit (.fn 7)) [(cVar 0), (cIdx (cVar 1) (cLit (.int 0))), (cVar 2)])) (sSeq (sRet (cTup [(cVar 3), (cIte (cCmp .gt (cVar 4) (cLit (.int 0))) (cList [(cVar 4)]) (cList []))])) sSkip))
noncomputable def f_divrem_small : Fn := ⟨3, 2, b_divrem_small⟩
noncomputable def b_guessed_limb : DenS := (sSeq (sUnpackW [5, 4] [(cBin .bor (cBin .shl (cIdx (cVar 0) (cLit (.int 2))) (cVar 3)) (cIdx (cVar 0) (cLit (.int 1)))), (cBin .shl (cLit (.int 1)) (cVar 3))]) (sSeq (sAsg 6 (cMin (cBin .fdiv (cVar 4) (cVar 1)) (cBin .sub (cVar 5) (cLit (.int 1))))) (sSeq (sAsg 7 (cBin .sub (cVar 4) (cBin .mul (cVar 6) (cVar 1)))) (sSeq (sWhile (cAnd (cCmp .lt (cVar 7) (cVar 5)) (cCmp .gt (cBin .mul (cVar 6) (cVar 2)) (cBin .bor (cBin .shl (cVar 7) (cVar 3)) (cIdx (cVar 0) (cLit (.int 0)))))) (sSeq (sAug 6 .sub (cLit (.int 1))) (sSeq (sAug 7 .add (cVar 1)) sSkip))) (sSeq (sRet (cVar 6)) sSkip)))))
noncomputable def f_guessed_limb : Fn := ⟨4, 4, b_guessed_limb⟩
noncomputable def b_take_away : DenS := (sSeq (sUnpackW [6, 5] [(cLit (.int 0)), (cBin .shl (cLit (.int 1)) (cVar 4))]) (sSeq (sForEnum 7 8 (cVar 1) (sSeq (sAsg 9 (cBin .sub (cIdx (cVar 0) (cBin .add (cVar 3) (cVar 7))) (cBin .mod (cBin .add (cBin .mul (cVar 2) (cVar 8)) (cVar 5)) (cVar 6)))) (sSeq (sAsg 5 (cBin .add (cBin .fdiv (cBin .add (cBin .mul (cVar 2) (cVar 8)) (cVar 5)) (cVar 6)) (cIte (cCmp .lt (cVar 9) (cLit (.int 0))) (cLit (.int 1)) (cLit (.int 0))))) (sSeq (sSetidx (cVar 0) (cBin .add (cVar 3) (cVar 7)) (cIte (cCmp .lt (cVar 9) (cLit (.int 0))) (cBin .add (cVar 9) (cVar 6)) (cVar 9))) sSkip)))) (sSeq (sAsg 9 (cBin .sub (cIdx (cVar 0) (cBin .add (cVar 3) (cLen (cVar 1)))) (cVar 5))) (sSeq (sSetidx (cVar 0) (cBin .add (cVar 3) (cLen (cVar 1))) (cIte (cCmp .lt (cVar 9) (cLit (.int 0))) (cBin .add (cVar 9) (cVar 6)) (cVar 9))) (sSeq (sRet (cIte (cCmp .lt (cVar 9) (cLit (.int 0))) (cLit (.int 1)) (cLit (.int 0)))) sSkip)))))
noncomputable def f_take_away : Fn := ⟨5, 5, b_take_away⟩
noncomputable def b_put_back : DenS := (sSeq (sUnpackW [5, 4] [(cLit (.int 0)), (cBin .sub (cBin .shl (cLit (.int 1)) (cVar 3)) (cLit (.int 1)))]) (sSeq (sForEnum 6 7 (cVar 1) (sSeq (sAug 4 .add (cBin .add (cIdx (cVar 0) (cBin .add (cVar 2) (cVar 6))) (cVar 7))) (sSeq (sSetidx (cVar 0) (cBin .add (cVar 2) (cVar 6)) (cBin .band (cVar 4) (cVar 5))) (sSeq (sAug 4 .shr (cVar 3)) sSkip)))) (sSeq (sSetidx (cVar 0) (cBin .add (cVar 2) (cLen (cVar 1))) (cBin .band (cBin .add (cIdx (cVar 0) (cBin .add (cVar 2) (cLen (cVar 1)))) (cVar 4)) (cVar 5))) sSkip)))
noncomputable def f_put_back : Fn := ⟨4, 4, b_put_back⟩
noncomputable def b_divide_rows : DenS := (sSeq (sAsg 3 (cLen (cVar 1))) (sSeq (sAsg 4 (cBin .mul (cList [(cLit (.int 0))]) (cBin .sub (cLen (cVar 0)) (cVar 3)))) (sSeq (sFor3 5 (cBin .sub (cBin .sub (cLen (cVar 0)) (cVar 3)) (cLit (.int 1))) (cNeg (cLit (.int 1))) (cNeg (cLit (.int 1))) (sSeq (sAsg 6 (cCall (cLit (.fn 20)) [(cSliceSS (cVar 0) (cBin .sub (cBin .add (cVar 5) (cVar 3)) (cLit (.int 2))) (cBin .add (cBin .add (cVar 5) (cVar 3)) (cLit (.int 1)))), (cIdx (cVar 1) (cBin .sub (cVar 3) (cLit (.int 1)))), (cIdx (cVar 1) (cBin .sub (cVar 3) (cLit (.int 2)))), (cVar 2)])) (sSeq (sIff (cCmp .eq (cCall (cLit (.fn 21)) [(cVar 0), (cVar 1), (cVar 6), (cVar 5), (cVar 2)]) (cLit (.int 1))) (sSeq (sAug 6 .sub (cLit (.int 1))) (sSeq (sExpr (cCall (cLit (.fn 22)) [(cVar 0), (cVar 1), (cVar 5), (cVar 2)])) sSkip)) sSkip) (sSeq (sSetidx (cVar 4) (cVar 5) (cVar 6)) sSkip)))) (sSeq (sRet (cVar 4)) sSkip))))
noncomputable def f_divide_rows : Fn := ⟨3, 4, b_divide_rows⟩
noncomputable def b_divrem_school : DenS := (sSeq (sIff (cCmp .eq (cLen (cVar 1)) (cLit (.int 0))) (sSeq sFail sSkip) sSkip) (sSeq (sIff (cCmp .lt (cCall (cLit (.fn 2)) [(cVar 0), (cVar 1)]) (cLit (.int 0))) (sSeq (sRet (cTup [(cList []), (cSliceNN (cVar 0))])) sSkip) sSkip) (sSeq (sIff (cCmp .eq (cLen (cVar 1)) (cLit (.int 1))) (sSeq (sRet (cCall (cLit (.fn 19)) [(cVar 0), (cVar 1), (cVar 2)])) sSkip) sSkip) (sSeq (sAsg 3 (cBin .sub (cVar 2) (cCall (cLit (.fn 10)) [(cList [(cIdx (cVar 1) (cNeg (cLit (.int 1))))]), (cVar 2)]))) (sSeq (sAsg 4 (cCall (cLit (.fn 8)) [(cVar 1), (cVar 3), (cVar 2)])) (sSeq (sAsg 5 (cCall (cLit (.fn 8)) [(cVar 0), (cVar 3), (cVar 2)])) (sSeq (sAsg 5 (cBin .add (cVar 5) (cBin .mul (cList [(cLit (.int 0))]) (cBin .sub (cBin .add (cLen (cVar 0)) (cLit (.int 1))) (cLen (cVar 5)))))) (sSeq (sAsg 6 (cCall (cLit (.fn 23)) [(cVar 5), (cVar 4), (cVar 2)])) (sSeq (sRet (cTup [(cCall (cLit (.fn 0)) [(cVar 6)]), (cCall (cLit (.fn 9)) [(cCall (cLit (.fn 0)) [(cVar 5)]), (cVar 3), (cVar 2)])])) sSkip)))))))))
noncomputable def f_divrem_school : Fn := ⟨3, 4, b_divrem_school⟩
noncomputable def b_signed : DenS := (sSeq (sRet (cTup [(cAnd (cVar 0) (cCmp .gt (cLen (cVar 1)) (cLit (.int 0)))), (cVar 1)])) sSkip)
noncomputable def f_signed : Fn := ⟨2, 0, b_signed⟩
noncomputable def b_s_add : DenS := (sSeq (sIff (cCmp .eq (cIdx (cVar 0) (cLit (.int 0))) (cIdx (cVar 1) (cLit (.int 0)))) (sSeq (sRet (cCall (cLit (.fn 25)) [(cIdx (cVar 0) (cLit (.int 0))), (cCall (cLit (.fn 3)) [(cIdx (cVar 0) (cLit (.int 1))), (cIdx (cVar 1) (cLit (.int 1))), (cVar 2)])])) sSkip) sSkip) (sSeq (sIff (cCmp .lt (cCall (cLit (.fn 2)) [(cIdx (cVar 0) (cLit (.int 1))), (cIdx (cVar 1) (cLit (.int 1)))]) (cLit (.int 0))) (sSeq (sRet (cCall (cLit (.fn 25)) [(cIdx (cVar 1) (cLit (.int 0))), (cCall (cLit (.fn 4)) [(cIdx (cVar 1) (cLit (.int 1))), (cIdx (cVar 0) (cLit (.int 1))), (cVar 2)])])) sSkip) sSkip) (sSeq (sRet (cCall (cLit (.fn 25)) [(cIdx (cVar 0) (cLit (.int 0))), (cCall (cLit (.fn 4)) [(cIdx (cVar 0) (cLit (.int 1))), (cIdx (cVar 1) (cLit (.int 1))), (cVar 2)])])) sSkip)))
noncomputable def f_s_add : Fn := ⟨3, 0, b_s_add⟩
noncomputable def b_s_mul : DenS := (sSeq (sRet (cCall (cLit (.fn 25)) [(cCmp .ne (cIdx (cVar 0) (cLit (.int 0))) (cIdx (cVar 1) (cLit (.int 0)))), (cCall (cVar 3) [(cIdx (cVar 0) (cLit (.int 1))), (cIdx (cVar 1) (cLit (.int 1))), (cVar 2)])])) sSkip)
noncomputable def f_s_mul : Fn := ⟨4, 0, b_s_mul⟩
noncomputable def b_tdiv : DenS := (sSeq (sIff (cCmp .eq (cLen (cIdx (cVar 1) (cLit (.int 1)))) (cLit (.int 0))) (sSeq sFail sSkip) sSkip) (sSeq (sUnpack [4, 5] (cCall (cVar 3) [(cIdx (cVar 0) (cLit (.int 1))), (cIdx (cVar 1) (cLit (.int 1))), (cVar 2)])) (sSeq (sRet (cTup [(cCall (cLit (.fn 25)) [(cCmp .ne (cIdx (cVar 0) (cLit (.int 0))) (cIdx (cVar 1) (cLit (.int 0)))), (cVar 4)]), (cCall (cLit (.fn 25)) [(cIdx (cVar 0) (cLit (.int 0))), (cVar 5)])])) sSkip)))
noncomputable def f_tdiv : Fn := ⟨4, 2, b_tdiv⟩
noncomputable def b_fdiv : DenS := (sSeq (sUnpack [4, 5] (cCall (cLit (.fn 28)) [(cVar 0), (cVar 1), (cVar 2), (cVar 3)])) (sSeq (sIff (cAnd (cCmp .gt (cLen (cIdx (cVar 5) (cLit (.int 1)))) (cLit (.int 0))) (cCmp .ne (cIdx (cVar 0) (cLit (.int 0))) (cIdx (cVar 1) (cLit (.int 0))))) (sSeq (sRet (cTup [(cTup [(cLit (.bool true)), (cCall (cLit (.fn 5)) [(cIdx (cVar 4) (cLit (.int 1))), (cLit (.int 1)), (cVar 2)])]), (cCall (cLit (.fn 26)) [(cVar 5), (cVar 1), (cVar 2)])])) sSkip) sSkip) (sSeq (sRet (cTup [(cVar 4), (cVar 5)])) sSkip)))
noncomputable def f_fdiv : Fn := ⟨4, 2, b_fdiv⟩
noncomputable def b_law_heaped : DenS := (sSeq (sSetidx (cVar 0) (cLit (.int 0)) (cBin .add (cIdx (cVar 0) (cLit (.int 0))) (cLit (.int 1)))) (sSeq (sIff (cCmp .le (cIdx (cVar 0) (cLit (.int 0))) (cLen (cIdx (cVar 0) (cLit (.int 1))))) (sSeq (sRet (cBin .mod (cIdx (cIdx (cVar 0) (cLit (.int 1))) (cBin .sub (cIdx (cVar 0) (cLit (.int 0))) (cLit (.int 1)))) (cVar 1))) sSkip) sSkip) (sSeq (sRet (cBin .mod (cBin .add (cBin .add (cBin .mul (cLit (.int 7)) (cIdx (cVar 0) (cLit (.int 0)))) (cBin .fdiv (cIdx (cVar 0) (cLit (.int 0))) (cLit (.int 3)))) (cLit (.int 5))) (cVar 1))) sSkip)))
noncomputable def f_law_heaped : Fn := ⟨2, 0, b_law_heaped⟩
noncomputable def b_law_signed : DenS := (sSeq (sRet (cTup [(cCmp .lt (cVar 0) (cLit (.int 0))), (cCall (cLit (.fn 1)) [(cAbs (cVar 0)), (cVar 1)])])) sSkip)
noncomputable def f_law_signed : Fn := ⟨2, 0, b_law_signed⟩
noncomputable def b_law_told : DenS := (sSeq (sAsg 3 (cCall (cLit (.fn 18)) [(cCall (cLit (.fn 18)) [(cCall (cLit (.fn 1)) [(cVar 0), (cVar 2)]), (cCall (cLit (.fn 1)) [(cVar 0), (cVar 2)]), (cVar 2)]), (cCall (cLit (.fn 1)) [(cBin .add (cBin .mul (cVar 1) (cVar 1)) (cLit (.int 4))), (cVar 2)]), (cVar 2)])) (sSeq (sAsg 4 (cIdx (cCall (cLit (.fn 17)) [(cVar 3), (cVar 2), (cLit (.int 2)), (cLit (.fn 18)), (cLit (.fn 24))]) (cLit (.int 0)))) (sSeq (sAsg 5 (cCall (cLit (.fn 26)) [(cCall (cLit (.fn 31)) [(cBin .mul (cVar 0) (cBin .sub (cLit (.int 2)) (cVar 1))), (cVar 2)]), (cTup [(cLit (.bool false)), (cVar 4)]), (cVar 2)])) (sSeq (sAsg 6 (cIdx (cCall (cLit (.fn 29)) [(cVar 5), (cTup [(cLit (.bool false)), (cList [(cLit (.int 2))])]), (cVar 2), (cLit (.fn 24))]) (cLit (.int 0)))) (sSeq (sRet (cTup [(cVar 6), (cCall (cLit (.fn 26)) [(cVar 6), (cCall (cLit (.fn 27)) [(cCall (cLit (.fn 31)) [(cVar 0), (cVar 2)]), (cCall (cLit (.fn 31)) [(cVar 1), (cVar 2)]), (cVar 2), (cLit (.fn 18))]), (cVar 2)])])) sSkip)))))
noncomputable def f_law_told : Fn := ⟨3, 4, b_law_told⟩
noncomputable def b_law_leads : DenS := (sSeq (sIff (cOr (cAnd (cCmp .eq (cVar 2) (cVar 0)) (cCmp .lt (cVar 3) (cVar 1))) (cOr (cAnd (cCmp .eq (cVar 3) (cVar 0)) (cCmp .lt (cVar 2) (cVar 1))) (cAnd (cCmp .eq (cVar 3) (cVar 1)) (cCmp .lt (cVar 2) (cVar 0))))) (sSeq (sRet (cLit (.bool true))) sSkip) sSkip) (sSeq (sUnpackW [6, 5] [(cTup [(cBin .sub (cVar 0) (cVar 2)), (cBin .sub (cVar 1) (cVar 3))]), (cTup [(cBin .sub (cVar 0) (cVar 3)), (cBin .sub (cVar 1) (cVar 2))])]) (sSeq (sRet (cCmp .ne (cComp (cLit (.int 1)) [7, 8] (cTup [(cVar 5), (cVar 6)]) (cAnd (cCmp .gt (cVar 7) (cLit (.int 0))) (cAnd (cCmp .gt (cVar 8) (cLit (.int 0))) (cCmp .lt (cAbs (cBin .sub (cVar 7) (cVar 8))) (cVar 4))))) (cList []))) sSkip)))
noncomputable def f_law_leads : Fn := ⟨5, 4, b_law_leads⟩
noncomputable def b_law_lost : DenS := (sSeq (sUnpackT [2, 3] [(cList []), (cLit (.int 0))]) (sSeq (sWhile (cCmp .lt (cLen (cVar 2)) (cVar 0)) (sSeq (sFor1 4 (cBin .add (cVar 3) (cLit (.int 1))) (sSeq (sIff (cCmp .eq (cComp (cLit (.int 1)) [5, 6] (cVar 2) (cCall (cLit (.fn 33)) [(cVar 4), (cVar 3), (cVar 5), (cVar 6), (cVar 1)])) (cList [])) (sSeq (sAppend (cVar 2) (cTup [(cVar 4), (cVar 3)])) sSkip) sSkip) sSkip)) (sSeq (sAsg 3 (cBin .add (cVar 3) (cLit (.int 1)))) sSkip))) (sSeq (sRet (cVar 2)) sSkip)))
noncomputable def f_law_lost : Fn := ⟨2, 5, b_law_lost⟩
noncomputable def table : List Fn := [f_normal, f_nat_of, f_compare, f_add, f_sub, f_add_limb, f_add_at, f_divrem_limb, f_shift_left, f_shift_right, f_bits, f_bit, f_split, f_sqrt_small, f_sqrt_plain, f_sqrt_two_limbs, f_sqrt_halves, f_sqrt_rem, f_mul_school, f_divrem_small, f_guessed_limb, f_take_away, f_put_back, f_divide_rows, f_divrem_school, f_signed, f_s_add, f_s_mul, f_tdiv, f_fdiv, f_law_heaped, f_law_signed, f_law_told, f_law_leads, f_law_lost]
noncomputable def nthF (xs : List Fn) : Nat → Option Fn := @List.rec Fn (fun _ => Nat → Option Fn) (fun _ => Option.none)
  (fun x _ ih n => @Nat.rec (fun _ => Option Fn) (some x) (fun n _ => ih n) n) xs
noncomputable def P0 : Nat → Option Fn := nthF table
structure Facts (c : Cx) : Prop where
  g_len : c.mg (Str.ofString "len") = none
  m_len : c.mb (Str.ofString "len") = some (.builtin "len")
  g_abs : c.mg (Str.ofString "abs") = none
  m_abs : c.mb (Str.ofString "abs") = some (.builtin "abs")
  g_min : c.mg (Str.ofString "min") = none
  m_min : c.mb (Str.ofString "min") = some (.builtin "min")
  g_range : c.mg (Str.ofString "range") = none
  m_range : c.mb (Str.ofString "range") = some (.type "range")
  g_reversed : c.mg (Str.ofString "reversed") = none
  m_reversed : c.mb (Str.ofString "reversed") = some (.type "reversed")
  g_enumerate : c.mg (Str.ofString "enumerate") = none
  m_enumerate : c.mb (Str.ofString "enumerate") = some (.type "enumerate")
  g_int : c.mg (Str.ofString "int") = none
  m_int : c.mb (Str.ofString "int") = some (.type "int")
  f_normal : c.mg (Str.ofString "normal") = some (.ref (c.fa 0))
  f_nat_of : c.mg (Str.ofString "nat_of") = some (.ref (c.fa 1))
  f_compare : c.mg (Str.ofString "compare") = some (.ref (c.fa 2))
  f_add : c.mg (Str.ofString "add") = some (.ref (c.fa 3))
  f_sub : c.mg (Str.ofString "sub") = some (.ref (c.fa 4))
  f_add_limb : c.mg (Str.ofString "add_limb") = some (.ref (c.fa 5))
  f_add_at : c.mg (Str.ofString "add_at") = some (.ref (c.fa 6))
  f_divrem_limb : c.mg (Str.ofString "divrem_limb") = some (.ref (c.fa 7))
  f_shift_left : c.mg (Str.ofString "shift_left") = some (.ref (c.fa 8))
  f_shift_right : c.mg (Str.ofString "shift_right") = some (.ref (c.fa 9))
  f_bits : c.mg (Str.ofString "bits") = some (.ref (c.fa 10))
  f_bit : c.mg (Str.ofString "bit") = some (.ref (c.fa 11))
  f_split : c.mg (Str.ofString "split") = some (.ref (c.fa 12))
  f_sqrt_small : c.mg (Str.ofString "sqrt_small") = some (.ref (c.fa 13))
  f_sqrt_plain : c.mg (Str.ofString "sqrt_plain") = some (.ref (c.fa 14))
  f_sqrt_two_limbs : c.mg (Str.ofString "sqrt_two_limbs") = some (.ref (c.fa 15))
  f_sqrt_halves : c.mg (Str.ofString "sqrt_halves") = some (.ref (c.fa 16))
  f_sqrt_rem : c.mg (Str.ofString "sqrt_rem") = some (.ref (c.fa 17))
  f_mul_school : c.mg (Str.ofString "mul_school") = some (.ref (c.fa 18))
  f_divrem_small : c.mg (Str.ofString "divrem_small") = some (.ref (c.fa 19))
  f_guessed_limb : c.mg (Str.ofString "guessed_limb") = some (.ref (c.fa 20))
  f_take_away : c.mg (Str.ofString "take_away") = some (.ref (c.fa 21))
  f_put_back : c.mg (Str.ofString "put_back") = some (.ref (c.fa 22))
  f_divide_rows : c.mg (Str.ofString "divide_rows") = some (.ref (c.fa 23))
  f_divrem_school : c.mg (Str.ofString "divrem_school") = some (.ref (c.fa 24))
  f_signed : c.mg (Str.ofString "signed") = some (.ref (c.fa 25))
  f_s_add : c.mg (Str.ofString "s_add") = some (.ref (c.fa 26))
  f_s_mul : c.mg (Str.ofString "s_mul") = some (.ref (c.fa 27))
  f_tdiv : c.mg (Str.ofString "tdiv") = some (.ref (c.fa 28))
  f_fdiv : c.mg (Str.ofString "fdiv") = some (.ref (c.fa 29))
  f_law_heaped : c.mg (Str.ofString "_law_heaped") = some (.ref (c.fa 30))
  f_law_signed : c.mg (Str.ofString "_law_signed") = some (.ref (c.fa 31))
  f_law_told : c.mg (Str.ofString "_law_told") = some (.ref (c.fa 32))
  f_law_leads : c.mg (Str.ofString "_law_leads") = some (.ref (c.fa 33))
  f_law_lost : c.mg (Str.ofString "_law_lost") = some (.ref (c.fa 34))
end Mine

namespace Mine
open PySem PySem.W PySem.Calls PyProof.Rows
theorem d_normal {c : Cx} (G : Facts c) : SndB c (scopeAt 4) [((Str.ofString "a"), 0), ((Str.ofString "end"), 1)] (bodyAt 4) b_normal :=
  (b_cons (s_asg ⟨by decide, (by kernel_rfl), .inl (by kernel_rfl)⟩ (fun _ => (by kernel_rfl)) (e_len G.g_len G.m_len (by kernel_rfl) (fun _ => (by kernel_rfl)) (e_var _ _ 0 (by kernel_rfl) (by kernel_rfl) (by kernel_rfl))))
  (b_cons (s_while _ (t_and _ (t_cmp .gt _ (by kernel_rfl) (e_var _ _ 1 (by kernel_rfl) (by kernel_rfl) (by kernel_rfl)) (e_int _ _ _)) (t_and1 _ (t_cmp .eq _ (by kernel_rfl) (e_idx _ (fun _ _ _ => (by kernel_rfl)) (e_var _ _ 0 (by kernel_rfl) (by kernel_rfl) (by kernel_rfl)) (e_bin .sub _ (e_var _ _ 1 (by kernel_rfl) (by kernel_rfl) (by kernel_rfl)) (e_int _ _ _))) (e_int _ _ _)))) (b_cons (s_aug .sub (.inr (.inl rfl)) ⟨by decide, (by kernel_rfl), .inl (by kernel_rfl)⟩ (by kernel_rfl) (e_int _ _ _))
  b_nil))
  (b_cons (s_ret _ (e_slice_ns _ _ (fun _ _ => (by kernel_rfl)) (e_var _ _ 0 (by kernel_rfl) (by kernel_rfl) (by kernel_rfl)) (e_var _ _ 1 (by kernel_rfl) (by kernel_rfl) (by kernel_rfl))))
  b_nil)))
theorem bind_normal {fd : FuncData} (hp : fd.params = argsAt 4) (hd : fd.defaults = .none) (hk : fd.kwdefaults = .none) : ∀ xs : List Value, xs.length = 1 → bindArgs fd ⟨xs, []⟩ = pure ([(Str.ofString "a")].zip xs)
  | [v0], _ => by unfold bindArgs; rw [hp, hd, hk]; kernel_rfl
theorem ok_normal {c : Cx} (G : Facts c) (h : DefAt c.mg c.h₀ 4 (c.fa 0)) : ∃ o fd body pn Γ, FnOk c 0 f_normal o fd body pn Γ :=
  fnOk_of (pn := [(Str.ofString "a")]) h (fun _ => bind_normal) rfl (by decide +kernel) (by decide +kernel) (by decide +kernel) (by decide +kernel) (by kernel_rfl) (by kernel_rfl) (by kernel_rfl) (d_normal G)
theorem d_nat_of {c : Cx} (G : Facts c) : SndB c (scopeAt 5) [((Str.ofString "number"), 0), ((Str.ofString "w"), 1), ((Str.ofString "found"), 2), ((Str.ofString "mask"), 3)] (bodyAt 5) b_nat_of :=
  (b_cons (s_iff _ (t_cmp .lt _ (by kernel_rfl) (e_var _ _ 0 (by kernel_rfl) (by kernel_rfl) (by kernel_rfl)) (e_int _ _ _)) (b_cons (s_fail _)
  b_nil) b_nil)
  (b_cons (s_unpackW (xs := [(Str.ofString "found"), (Str.ofString "mask")]) rfl (sto2 ⟨by decide, (by kernel_rfl), .inl (by kernel_rfl)⟩ ⟨by decide, (by kernel_rfl), .inl (by kernel_rfl)⟩) (by decide) (fun env h => by cases env; cases h; kernel_rfl) (fun env h => by cases env; cases h; kernel_rfl) (l_cons (fun _ => (by kernel_rfl)) (e_list _ (by decide) (l_nil _)) (l_cons (fun _ => (by kernel_rfl)) (e_bin .sub _ (e_bin .shl _ (e_int _ _ _) (e_var _ _ 1 (by kernel_rfl) (by kernel_rfl) (by kernel_rfl))) (e_int _ _ _)) (l_nil _))))
  (b_cons (s_while _ (t_cmp .gt _ (by kernel_rfl) (e_var _ _ 0 (by kernel_rfl) (by kernel_rfl) (by kernel_rfl)) (e_int _ _ _)) (b_cons (s_append _ _ _ _ (fun _ => (by kernel_rfl)) (fun _ => rfl) (fun _ => (by kernel_rfl)) (e_var _ _ 2 (by kernel_rfl) (by kernel_rfl) (by kernel_rfl)) (e_bin .band _ (e_var _ _ 0 (by kernel_rfl) (by kernel_rfl) (by kernel_rfl)) (e_var _ _ 3 (by kernel_rfl) (by kernel_rfl) (by kernel_rfl))))
  (b_cons (s_aug .shr (.inr (.inr (.inl rfl))) ⟨by decide, (by kernel_rfl), .inl (by kernel_rfl)⟩ (by kernel_rfl) (e_var _ _ 1 (by kernel_rfl) (by kernel_rfl) (by kernel_rfl)))
  b_nil)))
  (b_cons (s_ret _ (e_var _ _ 2 (by kernel_rfl) (by kernel_rfl) (by kernel_rfl)))
  b_nil))))
theorem bind_nat_of {fd : FuncData} (hp : fd.params = argsAt 5) (hd : fd.defaults = .none) (hk : fd.kwdefaults = .none) : ∀ xs : List Value, xs.length = 2 → bindArgs fd ⟨xs, []⟩ = pure ([(Str.ofString "number"), (Str.ofString "w")].zip xs)
  | [v0, v1], _ => by unfold bindArgs; rw [hp, hd, hk]; kernel_rfl
theorem ok_nat_of {c : Cx} (G : Facts c) (h : DefAt c.mg c.h₀ 5 (c.fa 1)) : ∃ o fd body pn Γ, FnOk c 1 f_nat_of o fd body pn Γ :=
  fnOk_of (pn := [(Str.ofString "number"), (Str.ofString "w")]) h (fun _ => bind_nat_of) rfl (by decide +kernel) (by decide +kernel) (by decide +kernel) (by decide +kernel) (by kernel_rfl) (by kernel_rfl) (by kernel_rfl) (d_nat_of G)
theorem d_compare {c : Cx} (G : Facts c) : SndB c (scopeAt 6) [((Str.ofString "a"), 0), ((Str.ofString "b"), 1), ((Str.ofString "at"), 2)] (bodyAt 6) b_compare :=
  (b_cons (s_iff _ (t_cmp .ne _ (by kernel_rfl) (e_len G.g_len G.m_len (by kernel_rfl) (fun _ => (by kernel_rfl)) (e_var _ _ 0 (by kernel_rfl) (by kernel_rfl) (by kernel_rfl))) (e_len G.g_len G.m_len (by kernel_rfl) (fun _ => (by kernel_rfl)) (e_var _ _ 1 (by kernel_rfl) (by kernel_rfl) (by kernel_rfl)))) (b_cons (s_ret _ (e_ite _ (t_cmp .lt _ (by kernel_rfl) (e_len G.g_len G.m_len (by kernel_rfl) (fun _ => (by kernel_rfl)) (e_var _ _ 0 (by kernel_rfl) (by kernel_rfl) (by kernel_rfl))) (e_len G.g_len G.m_len (by kernel_rfl) (fun _ => (by kernel_rfl)) (e_var _ _ 1 (by kernel_rfl) (by kernel_rfl) (by kernel_rfl)))) (e_neg _ (e_int _ _ _)) (e_int _ _ _)))
  b_nil) b_nil)
  (b_cons (s_for3 G.g_range G.m_range (by kernel_rfl) (fun _ => (by kernel_rfl)) (fun _ => (by kernel_rfl)) (fun _ => (by kernel_rfl)) (fun _ _ => (by kernel_rfl)) ⟨by decide, (by kernel_rfl), .inl (by kernel_rfl)⟩ (e_bin .sub _ (e_len G.g_len G.m_len (by kernel_rfl) (fun _ => (by kernel_rfl)) (e_var _ _ 0 (by kernel_rfl) (by kernel_rfl) (by kernel_rfl))) (e_int _ _ _)) (e_neg _ (e_int _ _ _)) (e_neg _ (e_int _ _ _)) (b_cons (s_iff _ (t_cmp .ne _ (by kernel_rfl) (e_idx _ (fun _ _ _ => (by kernel_rfl)) (e_var _ _ 0 (by kernel_rfl) (by kernel_rfl) (by kernel_rfl)) (e_var _ _ 2 (by kernel_rfl) (by kernel_rfl) (by kernel_rfl))) (e_idx _ (fun _ _ _ => (by kernel_rfl)) (e_var _ _ 1 (by kernel_rfl) (by kernel_rfl) (by kernel_rfl)) (e_var _ _ 2 (by kernel_rfl) (by kernel_rfl) (by kernel_rfl)))) (b_cons (s_ret _ (e_ite _ (t_cmp .lt _ (by kernel_rfl) (e_idx _ (fun _ _ _ => (by kernel_rfl)) (e_var _ _ 0 (by kernel_rfl) (by kernel_rfl) (by kernel_rfl)) (e_var _ _ 2 (by kernel_rfl) (by kernel_rfl) (by kernel_rfl))) (e_idx _ (fun _ _ _ => (by kernel_rfl)) (e_var _ _ 1 (by kernel_rfl) (by kernel_rfl) (by kernel_rfl)) (e_var _ _ 2 (by kernel_rfl) (by kernel_rfl) (by kernel_rfl)))) (e_neg _ (e_int _ _ _)) (e_int _ _ _)))
  b_nil) b_nil)
  b_nil))
  (b_cons (s_ret _ (e_int _ _ _))
  b_nil)))
theorem bind_compare {fd : FuncData} (hp : fd.params = argsAt 6) (hd : fd.defaults = .none) (hk : fd.kwdefaults = .none) : ∀ xs : List Value, xs.length = 2 → bindArgs fd ⟨xs, []⟩ = pure ([(Str.ofString "a"), (Str.ofString "b")].zip xs)
  | [v0, v1], _ => by unfold bindArgs; rw [hp, hd, hk]; kernel_rfl
theorem ok_compare {c : Cx} (G : Facts c) (h : DefAt c.mg c.h₀ 6 (c.fa 2)) : ∃ o fd body pn Γ, FnOk c 2 f_compare o fd body pn Γ :=
  fnOk_of (pn := [(Str.ofString "a"), (Str.ofString "b")]) h (fun _ => bind_compare) rfl (by decide +kernel) (by decide +kernel) (by decide +kernel) (by decide +kernel) (by kernel_rfl) (by kernel_rfl) (by kernel_rfl) (d_compare G)
theorem d_add {c : Cx} (G : Facts c) : SndB c (scopeAt 7) [((Str.ofString "a"), 0), ((Str.ofString "b"), 1), ((Str.ofString "w"), 2), ((Str.ofString "found"), 3), ((Str.ofString "carry"), 4), ((Str.ofString "mask"), 5), ((Str.ofString "at"), 6)] (bodyAt 7) b_add :=
  (b_cons (s_iff _ (t_cmp .lt _ (by kernel_rfl) (e_len G.g_len G.m_len (by kernel_rfl) (fun _ => (by kernel_rfl)) (e_var _ _ 0 (by kernel_rfl) (by kernel_rfl) (by kernel_rfl))) (e_len G.g_len G.m_len (by kernel_rfl) (fun _ => (by kernel_rfl)) (e_var _ _ 1 (by kernel_rfl) (by kernel_rfl) (by kernel_rfl)))) (b_cons (s_unpackW (xs := [(Str.ofString "a"), (Str.ofString "b")]) rfl (sto2 ⟨by decide, (by kernel_rfl), .inl (by kernel_rfl)⟩ ⟨by decide, (by kernel_rfl), .inl (by kernel_rfl)⟩) (by decide) (fun env h => by cases env; cases h; kernel_rfl) (fun env h => by cases env; cases h; kernel_rfl) (l_cons (fun _ => (by kernel_rfl)) (e_var _ _ 1 (by kernel_rfl) (by kernel_rfl) (by kernel_rfl)) (l_cons (fun _ => (by kernel_rfl)) (e_var _ _ 0 (by kernel_rfl) (by kernel_rfl) (by kernel_rfl)) (l_nil _))))
  b_nil) b_nil)
  (b_cons (s_unpackW (xs := [(Str.ofString "found"), (Str.ofString "carry"), (Str.ofString "mask")]) rfl (sto3 ⟨by decide, (by kernel_rfl), .inl (by kernel_rfl)⟩ ⟨by decide, (by kernel_rfl), .inl (by kernel_rfl)⟩ ⟨by decide, (by kernel_rfl), .inl (by kernel_rfl)⟩) (by decide) (fun env h => by cases env; cases h; kernel_rfl) (fun env h => by cases env; cases h; kernel_rfl) (l_cons (fun _ => (by kernel_rfl)) (e_list _ (by decide) (l_nil _)) (l_cons (fun _ => (by kernel_rfl)) (e_int _ _ _) (l_cons (fun _ => (by kernel_rfl)) (e_bin .sub _ (e_bin .shl _ (e_int _ _ _) (e_var _ _ 2 (by kernel_rfl) (by kernel_rfl) (by kernel_rfl))) (e_int _ _ _)) (l_nil _)))))
  (b_cons (s_for1 G.g_range G.m_range (by kernel_rfl) (fun _ => (by kernel_rfl)) (fun _ _ => (by kernel_rfl)) ⟨by decide, (by kernel_rfl), .inl (by kernel_rfl)⟩ (e_len G.g_len G.m_len (by kernel_rfl) (fun _ => (by kernel_rfl)) (e_var _ _ 1 (by kernel_rfl) (by kernel_rfl) (by kernel_rfl))) (b_cons (s_aug .add (.inl rfl) ⟨by decide, (by kernel_rfl), .inl (by kernel_rfl)⟩ (by kernel_rfl) (e_bin .add _ (e_idx _ (fun _ _ _ => (by kernel_rfl)) (e_var _ _ 0 (by kernel_rfl) (by kernel_rfl) (by kernel_rfl)) (e_var _ _ 6 (by kernel_rfl) (by kernel_rfl) (by kernel_rfl))) (e_idx _ (fun _ _ _ => (by kernel_rfl)) (e_var _ _ 1 (by kernel_rfl) (by kernel_rfl) (by kernel_rfl)) (e_var _ _ 6 (by kernel_rfl) (by kernel_rfl) (by kernel_rfl)))))
  (b_cons (s_append _ _ _ _ (fun _ => (by kernel_rfl)) (fun _ => rfl) (fun _ => (by kernel_rfl)) (e_var _ _ 3 (by kernel_rfl) (by kernel_rfl) (by kernel_rfl)) (e_bin .band _ (e_var _ _ 4 (by kernel_rfl) (by kernel_rfl) (by kernel_rfl)) (e_var _ _ 5 (by kernel_rfl) (by kernel_rfl) (by kernel_rfl))))
  (b_cons (s_aug .shr (.inr (.inr (.inl rfl))) ⟨by decide, (by kernel_rfl), .inl (by kernel_rfl)⟩ (by kernel_rfl) (e_var _ _ 2 (by kernel_rfl) (by kernel_rfl) (by kernel_rfl)))
  b_nil))))
  (b_cons (s_for2 G.g_range G.m_range (by kernel_rfl) (fun _ => (by kernel_rfl)) (fun _ => (by kernel_rfl)) (fun _ _ => (by kernel_rfl)) ⟨by decide, (by kernel_rfl), .inl (by kernel_rfl)⟩ (e_len G.g_len G.m_len (by kernel_rfl) (fun _ => (by kernel_rfl)) (e_var _ _ 1 (by kernel_rfl) (by kernel_rfl) (by kernel_rfl))) (e_len G.g_len G.m_len (by kernel_rfl) (fun _ => (by kernel_rfl)) (e_var _ _ 0 (by kernel_rfl) (by kernel_rfl) (by kernel_rfl))) (b_cons (s_aug .add (.inl rfl) ⟨by decide, (by kernel_rfl), .inl (by kernel_rfl)⟩ (by kernel_rfl) (e_idx _ (fun _ _ _ => (by kernel_rfl)) (e_var _ _ 0 (by kernel_rfl) (by kernel_rfl) (by kernel_rfl)) (e_var _ _ 6 (by kernel_rfl) (by kernel_rfl) (by kernel_rfl))))
  (b_cons (s_append _ _ _ _ (fun _ => (by kernel_rfl)) (fun _ => rfl) (fun _ => (by kernel_rfl)) (e_var _ _ 3 (by kernel_rfl) (by kernel_rfl) (by kernel_rfl)) (e_bin .band _ (e_var _ _ 4 (by kernel_rfl) (by kernel_rfl) (by kernel_rfl)) (e_var _ _ 5 (by kernel_rfl) (by kernel_rfl) (by kernel_rfl))))
  (b_cons (s_aug .shr (.inr (.inr (.inl rfl))) ⟨by decide, (by kernel_rfl), .inl (by kernel_rfl)⟩ (by kernel_rfl) (e_var _ _ 2 (by kernel_rfl) (by kernel_rfl) (by kernel_rfl)))
  b_nil))))
  (b_cons (s_iff _ (t_cmp .gt _ (by kernel_rfl) (e_var _ _ 4 (by kernel_rfl) (by kernel_rfl) (by kernel_rfl)) (e_int _ _ _)) (b_cons (s_append _ _ _ _ (fun _ => (by kernel_rfl)) (fun _ => rfl) (fun _ => (by kernel_rfl)) (e_var _ _ 3 (by kernel_rfl) (by kernel_rfl) (by kernel_rfl)) (e_var _ _ 4 (by kernel_rfl) (by kernel_rfl) (by kernel_rfl)))
  b_nil) b_nil)
  (b_cons (s_ret _ (e_var _ _ 3 (by kernel_rfl) (by kernel_rfl) (by kernel_rfl)))
  b_nil))))))
theorem bind_add {fd : FuncData} (hp : fd.params = argsAt 7) (hd : fd.defaults = .none) (hk : fd.kwdefaults = .none) : ∀ xs : List Value, xs.length = 3 → bindArgs fd ⟨xs, []⟩ = pure ([(Str.ofString "a"), (Str.ofString "b"), (Str.ofString "w")].zip xs)
  | [v0, v1, v2], _ => by unfold bindArgs; rw [hp, hd, hk]; kernel_rfl
theorem ok_add {c : Cx} (G : Facts c) (h : DefAt c.mg c.h₀ 7 (c.fa 3)) : ∃ o fd body pn Γ, FnOk c 3 f_add o fd body pn Γ :=
  fnOk_of (pn := [(Str.ofString "a"), (Str.ofString "b"), (Str.ofString "w")]) h (fun _ => bind_add) rfl (by decide +kernel) (by decide +kernel) (by decide +kernel) (by decide +kernel) (by kernel_rfl) (by kernel_rfl) (by kernel_rfl) (d_add G)
theorem d_sub {c : Cx} (G : Facts c) : SndB c (scopeAt 8) [((Str.ofString "a"), 0), ((Str.ofString "b"), 1), ((Str.ofString "w"), 2), ((Str.ofString "found"), 3), ((Str.ofString "borrow"), 4), ((Str.ofString "base"), 5), ((Str.ofString "at"), 6), ((Str.ofString "limb"), 7)] (bodyAt 8) b_sub :=
  (b_cons (s_iff _ (t_cmp .lt _ (by kernel_rfl) (e_call (fun _ => (by kernel_rfl)) (e_glob _ _ 2 G.f_compare (by kernel_rfl) (by kernel_rfl)) (l_cons (fun _ => (by kernel_rfl)) (e_var _ _ 0 (by kernel_rfl) (by kernel_rfl) (by kernel_rfl)) (l_cons (fun _ => (by kernel_rfl)) (e_var _ _ 1 (by kernel_rfl) (by kernel_rfl) (by kernel_rfl)) (l_nil _)))) (e_int _ _ _)) (b_cons (s_fail _)
  b_nil) b_nil)
  (b_cons (s_unpackW (xs := [(Str.ofString "found"), (Str.ofString "borrow"), (Str.ofString "base")]) rfl (sto3 ⟨by decide, (by kernel_rfl), .inl (by kernel_rfl)⟩ ⟨by decide, (by kernel_rfl), .inl (by kernel_rfl)⟩ ⟨by decide, (by kernel_rfl), .inl (by kernel_rfl)⟩) (by decide) (fun env h => by cases env; cases h; kernel_rfl) (fun env h => by cases env; cases h; kernel_rfl) (l_cons (fun _ => (by kernel_rfl)) (e_list _ (by decide) (l_nil _)) (l_cons (fun _ => (by kernel_rfl)) (e_int _ _ _) (l_cons (fun _ => (by kernel_rfl)) (e_bin .shl _ (e_int _ _ _) (e_var _ _ 2 (by kernel_rfl) (by kernel_rfl) (by kernel_rfl))) (l_nil _)))))
  (b_cons (s_for1 G.g_range G.m_range (by kernel_rfl) (fun _ => (by kernel_rfl)) (fun _ _ => (by kernel_rfl)) ⟨by decide, (by kernel_rfl), .inl (by kernel_rfl)⟩ (e_len G.g_len G.m_len (by kernel_rfl) (fun _ => (by kernel_rfl)) (e_var _ _ 0 (by kernel_rfl) (by kernel_rfl) (by kernel_rfl))) (b_cons (s_asg ⟨by decide, (by kernel_rfl), .inl (by kernel_rfl)⟩ (fun _ => (by kernel_rfl)) (e_bin .sub _ (e_bin .sub _ (e_idx _ (fun _ _ _ => (by kernel_rfl)) (e_var _ _ 0 (by kernel_rfl) (by kernel_rfl) (by kernel_rfl)) (e_var _ _ 6 (by kernel_rfl) (by kernel_rfl) (by kernel_rfl))) (e_var _ _ 4 (by kernel_rfl) (by kernel_rfl) (by kernel_rfl))) (e_ite _ (t_cmp .lt _ (by kernel_rfl) (e_var _ _ 6 (by kernel_rfl) (by kernel_rfl) (by kernel_rfl)) (e_len G.g_len G.m_len (by kernel_rfl) (fun _ => (by kernel_rfl)) (e_var _ _ 1 (by kernel_rfl) (by kernel_rfl) (by kernel_rfl)))) (e_idx _ (fun _ _ _ => (by kernel_rfl)) (e_var _ _ 1 (by kernel_rfl) (by kernel_rfl) (by kernel_rfl)) (e_var _ _ 6 (by kernel_rfl) (by kernel_rfl) (by kernel_rfl))) (e_int _ _ _))))
  (b_cons (s_asg ⟨by decide, (by kernel_rfl), .inl (by kernel_rfl)⟩ (fun _ => (by kernel_rfl)) (e_ite _ (t_cmp .lt _ (by kernel_rfl) (e_var _ _ 7 (by kernel_rfl) (by kernel_rfl) (by kernel_rfl)) (e_int _ _ _)) (e_int _ _ _) (e_int _ _ _)))
  (b_cons (s_append _ _ _ _ (fun _ => (by kernel_rfl)) (fun _ => rfl) (fun _ => (by kernel_rfl)) (e_var _ _ 3 (by kernel_rfl) (by kernel_rfl) (by kernel_rfl)) (e_ite _ (t_cmp .lt _ (by kernel_rfl) (e_var _ _ 7 (by kernel_rfl) (by kernel_rfl) (by kernel_rfl)) (e_int _ _ _)) (e_bin .add _ (e_var _ _ 7 (by kernel_rfl) (by kernel_rfl) (by kernel_rfl)) (e_var _ _ 5 (by kernel_rfl) (by kernel_rfl) (by kernel_rfl))) (e_var _ _ 7 (by kernel_rfl) (by kernel_rfl) (by kernel_rfl))))
  b_nil))))
  (b_cons (s_ret _ (e_call (fun _ => (by kernel_rfl)) (e_glob _ _ 0 G.f_normal (by kernel_rfl) (by kernel_rfl)) (l_cons (fun _ => (by kernel_rfl)) (e_var _ _ 3 (by kernel_rfl) (by kernel_rfl) (by kernel_rfl)) (l_nil _))))
  b_nil))))
theorem bind_sub {fd : FuncData} (hp : fd.params = argsAt 8) (hd : fd.defaults = .none) (hk : fd.kwdefaults = .none) : ∀ xs : List Value, xs.length = 3 → bindArgs fd ⟨xs, []⟩ = pure ([(Str.ofString "a"), (Str.ofString "b"), (Str.ofString "w")].zip xs)
  | [v0, v1, v2], _ => by unfold bindArgs; rw [hp, hd, hk]; kernel_rfl
theorem ok_sub {c : Cx} (G : Facts c) (h : DefAt c.mg c.h₀ 8 (c.fa 4)) : ∃ o fd body pn Γ, FnOk c 4 f_sub o fd body pn Γ :=
  fnOk_of (pn := [(Str.ofString "a"), (Str.ofString "b"), (Str.ofString "w")]) h (fun _ => bind_sub) rfl (by decide +kernel) (by decide +kernel) (by decide +kernel) (by decide +kernel) (by kernel_rfl) (by kernel_rfl) (by kernel_rfl) (d_sub G)
theorem d_add_limb {c : Cx} (G : Facts c) : SndB c (scopeAt 9) [((Str.ofString "a"), 0), ((Str.ofString "limb"), 1), ((Str.ofString "w"), 2), ((Str.ofString "found"), 3), ((Str.ofString "mask"), 4), ((Str.ofString "one"), 5)] (bodyAt 9) b_add_limb :=
  (b_cons (s_unpackW (xs := [(Str.ofString "found"), (Str.ofString "mask")]) rfl (sto2 ⟨by decide, (by kernel_rfl), .inl (by kernel_rfl)⟩ ⟨by decide, (by kernel_rfl), .inl (by kernel_rfl)⟩) (by decide) (fun env h => by cases env; cases h; kernel_rfl) (fun env h => by cases env; cases h; kernel_rfl) (l_cons (fun _ => (by kernel_rfl)) (e_list _ (by decide) (l_nil _)) (l_cons (fun _ => (by kernel_rfl)) (e_bin .sub _ (e_bin .shl _ (e_int _ _ _) (e_var _ _ 2 (by kernel_rfl) (by kernel_rfl) (by kernel_rfl))) (e_int _ _ _)) (l_nil _))))
  (b_cons (s_forL (fun _ _ => (by kernel_rfl)) ⟨by decide, (by kernel_rfl), .inl (by kernel_rfl)⟩ (e_var _ _ 0 (by kernel_rfl) (by kernel_rfl) (by kernel_rfl)) (b_cons (s_aug .add (.inl rfl) ⟨by decide, (by kernel_rfl), .inl (by kernel_rfl)⟩ (by kernel_rfl) (e_var _ _ 5 (by kernel_rfl) (by kernel_rfl) (by kernel_rfl)))
  (b_cons (s_append _ _ _ _ (fun _ => (by kernel_rfl)) (fun _ => rfl) (fun _ => (by kernel_rfl)) (e_var _ _ 3 (by kernel_rfl) (by kernel_rfl) (by kernel_rfl)) (e_bin .band _ (e_var _ _ 1 (by kernel_rfl) (by kernel_rfl) (by kernel_rfl)) (e_var _ _ 4 (by kernel_rfl) (by kernel_rfl) (by kernel_rfl))))
  (b_cons (s_aug .shr (.inr (.inr (.inl rfl))) ⟨by decide, (by kernel_rfl), .inl (by kernel_rfl)⟩ (by kernel_rfl) (e_var _ _ 2 (by kernel_rfl) (by kernel_rfl) (by kernel_rfl)))
  b_nil))))
  (b_cons (s_iff _ (t_cmp .gt _ (by kernel_rfl) (e_var _ _ 1 (by kernel_rfl) (by kernel_rfl) (by kernel_rfl)) (e_int _ _ _)) (b_cons (s_append _ _ _ _ (fun _ => (by kernel_rfl)) (fun _ => rfl) (fun _ => (by kernel_rfl)) (e_var _ _ 3 (by kernel_rfl) (by kernel_rfl) (by kernel_rfl)) (e_var _ _ 1 (by kernel_rfl) (by kernel_rfl) (by kernel_rfl)))
  b_nil) b_nil)
  (b_cons (s_ret _ (e_var _ _ 3 (by kernel_rfl) (by kernel_rfl) (by kernel_rfl)))
  b_nil))))
theorem bind_add_limb {fd : FuncData} (hp : fd.params = argsAt 9) (hd : fd.defaults = .none) (hk : fd.kwdefaults = .none) : ∀ xs : List Value, xs.length = 3 → bindArgs fd ⟨xs, []⟩ = pure ([(Str.ofString "a"), (Str.ofString "limb"), (Str.ofString "w")].zip xs)
  | [v0, v1, v2], _ => by unfold bindArgs; rw [hp, hd, hk]; kernel_rfl
theorem ok_add_limb {c : Cx} (G : Facts c) (h : DefAt c.mg c.h₀ 9 (c.fa 5)) : ∃ o fd body pn Γ, FnOk c 5 f_add_limb o fd body pn Γ :=
  fnOk_of (pn := [(Str.ofString "a"), (Str.ofString "limb"), (Str.ofString "w")]) h (fun _ => bind_add_limb) rfl (by decide +kernel) (by decide +kernel) (by decide +kernel) (by decide +kernel) (by kernel_rfl) (by kernel_rfl) (by kernel_rfl) (d_add_limb G)
theorem d_add_at {c : Cx} (G : Facts c) : SndB c (scopeAt 10) [((Str.ofString "a"), 0), ((Str.ofString "b"), 1), ((Str.ofString "spot"), 2), ((Str.ofString "w"), 3)] (bodyAt 10) b_add_at :=
  (b_cons (s_iff _ (t_cmp .eq _ (by kernel_rfl) (e_len G.g_len G.m_len (by kernel_rfl) (fun _ => (by kernel_rfl)) (e_var _ _ 1 (by kernel_rfl) (by kernel_rfl) (by kernel_rfl))) (e_int _ _ _)) (b_cons (s_ret _ (e_slice_nn _ _ (fun _ _ => (by kernel_rfl)) (e_var _ _ 0 (by kernel_rfl) (by kernel_rfl) (by kernel_rfl))))
  b_nil) b_nil)
  (b_cons (s_iff _ (t_cmp .ge _ (by kernel_rfl) (e_var _ _ 2 (by kernel_rfl) (by kernel_rfl) (by kernel_rfl)) (e_len G.g_len G.m_len (by kernel_rfl) (fun _ => (by kernel_rfl)) (e_var _ _ 0 (by kernel_rfl) (by kernel_rfl) (by kernel_rfl)))) (b_cons (s_ret _ (e_bin .add _ (e_bin .add _ (e_var _ _ 0 (by kernel_rfl) (by kernel_rfl) (by kernel_rfl)) (e_bin .mul _ (e_list _ (by decide) (l_cons (fun _ => (by kernel_rfl)) (e_int _ _ _) (l_nil _))) (e_bin .sub _ (e_var _ _ 2 (by kernel_rfl) (by kernel_rfl) (by kernel_rfl)) (e_len G.g_len G.m_len (by kernel_rfl) (fun _ => (by kernel_rfl)) (e_var _ _ 0 (by kernel_rfl) (by kernel_rfl) (by kernel_rfl)))))) (e_var _ _ 1 (by kernel_rfl) (by kernel_rfl) (by kernel_rfl))))
  b_nil) b_nil)
  (b_cons (s_ret _ (e_bin .add _ (e_slice_ns _ _ (fun _ _ => (by kernel_rfl)) (e_var _ _ 0 (by kernel_rfl) (by kernel_rfl) (by kernel_rfl)) (e_var _ _ 2 (by kernel_rfl) (by kernel_rfl) (by kernel_rfl))) (e_call (fun _ => (by kernel_rfl)) (e_glob _ _ 3 G.f_add (by kernel_rfl) (by kernel_rfl)) (l_cons (fun _ => (by kernel_rfl)) (e_slice_sn _ _ (fun _ _ => (by kernel_rfl)) (e_var _ _ 0 (by kernel_rfl) (by kernel_rfl) (by kernel_rfl)) (e_var _ _ 2 (by kernel_rfl) (by kernel_rfl) (by kernel_rfl))) (l_cons (fun _ => (by kernel_rfl)) (e_var _ _ 1 (by kernel_rfl) (by kernel_rfl) (by kernel_rfl)) (l_cons (fun _ => (by kernel_rfl)) (e_var _ _ 3 (by kernel_rfl) (by kernel_rfl) (by kernel_rfl)) (l_nil _)))))))
  b_nil)))
theorem bind_add_at {fd : FuncData} (hp : fd.params = argsAt 10) (hd : fd.defaults = .none) (hk : fd.kwdefaults = .none) : ∀ xs : List Value, xs.length = 4 → bindArgs fd ⟨xs, []⟩ = pure ([(Str.ofString "a"), (Str.ofString "b"), (Str.ofString "spot"), (Str.ofString "w")].zip xs)
  | [v0, v1, v2, v3], _ => by unfold bindArgs; rw [hp, hd, hk]; kernel_rfl
theorem ok_add_at {c : Cx} (G : Facts c) (h : DefAt c.mg c.h₀ 10 (c.fa 6)) : ∃ o fd body pn Γ, FnOk c 6 f_add_at o fd body pn Γ :=
  fnOk_of (pn := [(Str.ofString "a"), (Str.ofString "b"), (Str.ofString "spot"), (Str.ofString "w")]) h (fun _ => bind_add_at) rfl (by decide +kernel) (by decide +kernel) (by decide +kernel) (by decide +kernel) (by kernel_rfl) (by kernel_rfl) (by kernel_rfl) (d_add_at G)
theorem d_divrem_limb {c : Cx} (G : Facts c) : SndB c (scopeAt 11) [((Str.ofString "a"), 0), ((Str.ofString "limb"), 1), ((Str.ofString "w"), 2), ((Str.ofString "found"), 3), ((Str.ofString "rest"), 4), ((Str.ofString "at"), 5)] (bodyAt 11) b_divrem_limb :=
  (b_cons (s_iff _ (t_cmp .eq _ (by kernel_rfl) (e_var _ _ 1 (by kernel_rfl) (by kernel_rfl) (by kernel_rfl)) (e_int _ _ _)) (b_cons (s_fail _)
  b_nil) b_nil)
  (b_cons (s_unpackW (xs := [(Str.ofString "found"), (Str.ofString "rest")]) rfl (sto2 ⟨by decide, (by kernel_rfl), .inl (by kernel_rfl)⟩ ⟨by decide, (by kernel_rfl), .inl (by kernel_rfl)⟩) (by decide) (fun env h => by cases env; cases h; kernel_rfl) (fun env h => by cases env; cases h; kernel_rfl) (l_cons (fun _ => (by kernel_rfl)) (e_bin .mul _ (e_list _ (by decide) (l_cons (fun _ => (by kernel_rfl)) (e_int _ _ _) (l_nil _))) (e_len G.g_len G.m_len (by kernel_rfl) (fun _ => (by kernel_rfl)) (e_var _ _ 0 (by kernel_rfl) (by kernel_rfl) (by kernel_rfl)))) (l_cons (fun _ => (by kernel_rfl)) (e_int _ _ _) (l_nil _))))
  (b_cons (s_for3 G.g_range G.m_range (by kernel_rfl) (fun _ => (by kernel_rfl)) (fun _ => (by kernel_rfl)) (fun _ => (by kernel_rfl)) (fun _ _ => (by kernel_rfl)) ⟨by decide, (by kernel_rfl), .inl (by kernel_rfl)⟩ (e_bin .sub _ (e_len G.g_len G.m_len (by kernel_rfl) (fun _ => (by kernel_rfl)) (e_var _ _ 0 (by kernel_rfl) (by kernel_rfl) (by kernel_rfl))) (e_int _ _ _)) (e_neg _ (e_int _ _ _)) (e_neg _ (e_int _ _ _)) (b_cons (s_asg ⟨by decide, (by kernel_rfl), .inl (by kernel_rfl)⟩ (fun _ => (by kernel_rfl)) (e_bin .bor _ (e_bin .shl _ (e_var _ _ 4 (by kernel_rfl) (by kernel_rfl) (by kernel_rfl)) (e_var _ _ 2 (by kernel_rfl) (by kernel_rfl) (by kernel_rfl))) (e_idx _ (fun _ _ _ => (by kernel_rfl)) (e_var _ _ 0 (by kernel_rfl) (by kernel_rfl) (by kernel_rfl)) (e_var _ _ 5 (by kernel_rfl) (by kernel_rfl) (by kernel_rfl)))))
  (b_cons (s_setidx _ _ (fun _ => (by kernel_rfl)) (e_var _ _ 3 (by kernel_rfl) (by kernel_rfl) (by kernel_rfl)) (e_var _ _ 5 (by kernel_rfl) (by kernel_rfl) (by kernel_rfl)) (e_bin .fdiv _ (e_var _ _ 4 (by kernel_rfl) (by kernel_rfl) (by kernel_rfl)) (e_var _ _ 1 (by kernel_rfl) (by kernel_rfl) (by kernel_rfl))))
  (b_cons (s_aug .mod (.inr (.inr (.inr (.inr rfl)))) ⟨by decide, (by kernel_rfl), .inl (by kernel_rfl)⟩ (by kernel_rfl) (e_var _ _ 1 (by kernel_rfl) (by kernel_rfl) (by kernel_rfl)))
  b_nil))))
  (b_cons (s_ret _ (e_tup _ _ (by decide) (l_cons (fun _ => (by kernel_rfl)) (e_call (fun _ => (by kernel_rfl)) (e_glob _ _ 0 G.f_normal (by kernel_rfl) (by kernel_rfl)) (l_cons (fun _ => (by kernel_rfl)) (e_var _ _ 3 (by kernel_rfl) (by kernel_rfl) (by kernel_rfl)) (l_nil _))) (l_cons (fun _ => (by kernel_rfl)) (e_var _ _ 4 (by kernel_rfl) (by kernel_rfl) (by kernel_rfl)) (l_nil _)))))
  b_nil))))
theorem bind_divrem_limb {fd : FuncData} (hp : fd.params = argsAt 11) (hd : fd.defaults = .none) (hk : fd.kwdefaults = .none) : ∀ xs : List Value, xs.length = 3 → bindArgs fd ⟨xs, []⟩ = pure ([(Str.ofString "a"), (Str.ofString "limb"), (Str.ofString "w")].zip xs)
  | [v0, v1, v2], _ => by unfold bindArgs; rw [hp, hd, hk]; kernel_rfl
theorem ok_divrem_limb {c : Cx} (G : Facts c) (h : DefAt c.mg c.h₀ 11 (c.fa 7)) : ∃ o fd body pn Γ, FnOk c 7 f_divrem_limb o fd body pn Γ :=
  fnOk_of (pn := [(Str.ofString "a"), (Str.ofString "limb"), (Str.ofString "w")]) h (fun _ => bind_divrem_limb) rfl (by decide +kernel) (by decide +kernel) (by decide +kernel) (by decide +kernel) (by kernel_rfl) (by kernel_rfl) (by kernel_rfl) (d_divrem_limb G)
theorem d_shift_left {c : Cx} (G : Facts c) : SndB c (scopeAt 12) [((Str.ofString "a"), 0), ((Str.ofString "n"), 1), ((Str.ofString "w"), 2), ((Str.ofString "spots"), 3), ((Str.ofString "few"), 4), ((Str.ofString "found"), 5), ((Str.ofString "carry"), 6), ((Str.ofString "mask"), 7), ((Str.ofString "one"), 8)] (bodyAt 12) b_shift_left :=
  (b_cons (s_iff _ (t_cmp .eq _ (by kernel_rfl) (e_len G.g_len G.m_len (by kernel_rfl) (fun _ => (by kernel_rfl)) (e_var _ _ 0 (by kernel_rfl) (by kernel_rfl) (by kernel_rfl))) (e_int _ _ _)) (b_cons (s_ret _ (e_list _ (by decide) (l_nil _)))
  b_nil) b_nil)
  (b_cons (s_unpackW (xs := [(Str.ofString "spots"), (Str.ofString "few")]) rfl (sto2 ⟨by decide, (by kernel_rfl), .inl (by kernel_rfl)⟩ ⟨by decide, (by kernel_rfl), .inl (by kernel_rfl)⟩) (by decide) (fun env h => by cases env; cases h; kernel_rfl) (fun env h => by cases env; cases h; kernel_rfl) (l_cons (fun _ => (by kernel_rfl)) (e_bin .fdiv _ (e_var _ _ 1 (by kernel_rfl) (by kernel_rfl) (by kernel_rfl)) (e_var _ _ 2 (by kernel_rfl) (by kernel_rfl) (by kernel_rfl))) (l_cons (fun _ => (by kernel_rfl)) (e_bin .mod _ (e_var _ _ 1 (by kernel_rfl) (by kernel_rfl) (by kernel_rfl)) (e_var _ _ 2 (by kernel_rfl) (by kernel_rfl) (by kernel_rfl))) (l_nil _))))
  (b_cons (s_unpackW (xs := [(Str.ofString "found"), (Str.ofString "carry"), (Str.ofString "mask")]) rfl (sto3 ⟨by decide, (by kernel_rfl), .inl (by kernel_rfl)⟩ ⟨by decide, (by kernel_rfl), .inl (by kernel_rfl)⟩ ⟨by decide, (by kernel_rfl), .inl (by kernel_rfl)⟩) (by decide) (fun env h => by cases env; cases h; kernel_rfl) (fun env h => by cases env; cases h; kernel_rfl) (l_cons (fun _ => (by kernel_rfl)) (e_bin .mul _ (e_list _ (by decide) (l_cons (fun _ => (by kernel_rfl)) (e_int _ _ _) (l_nil _))) (e_var _ _ 3 (by kernel_rfl) (by kernel_rfl) (by kernel_rfl))) (l_cons (fun _ => (by kernel_rfl)) (e_int _ _ _) (l_cons (fun _ => (by kernel_rfl)) (e_bin .sub _ (e_bin .shl _ (e_int _ _ _) (e_var _ _ 2 (by kernel_rfl) (by kernel_rfl) (by kernel_rfl))) (e_int _ _ _)) (l_nil _)))))
  (b_cons (s_forL (fun _ _ => (by kernel_rfl)) ⟨by decide, (by kernel_rfl), .inl (by kernel_rfl)⟩ (e_var _ _ 0 (by kernel_rfl) (by kernel_rfl) (by kernel_rfl)) (b_cons (s_aug .bor (.inr (.inr (.inr (.inl rfl)))) ⟨by decide, (by kernel_rfl), .inl (by kernel_rfl)⟩ (by kernel_rfl) (e_bin .shl _ (e_var _ _ 8 (by kernel_rfl) (by kernel_rfl) (by kernel_rfl)) (e_var _ _ 4 (by kernel_rfl) (by kernel_rfl) (by kernel_rfl))))
  (b_cons (s_append _ _ _ _ (fun _ => (by kernel_rfl)) (fun _ => rfl) (fun _ => (by kernel_rfl)) (e_var _ _ 5 (by kernel_rfl) (by kernel_rfl) (by kernel_rfl)) (e_bin .band _ (e_var _ _ 6 (by kernel_rfl) (by kernel_rfl) (by kernel_rfl)) (e_var _ _ 7 (by kernel_rfl) (by kernel_rfl) (by kernel_rfl))))
  (b_cons (s_aug .shr (.inr (.inr (.inl rfl))) ⟨by decide, (by kernel_rfl), .inl (by kernel_rfl)⟩ (by kernel_rfl) (e_var _ _ 2 (by kernel_rfl) (by kernel_rfl) (by kernel_rfl)))
  b_nil))))
  (b_cons (s_iff _ (t_cmp .gt _ (by kernel_rfl) (e_var _ _ 6 (by kernel_rfl) (by kernel_rfl) (by kernel_rfl)) (e_int _ _ _)) (b_cons (s_append _ _ _ _ (fun _ => (by kernel_rfl)) (fun _ => rfl) (fun _ => (by kernel_rfl)) (e_var _ _ 5 (by kernel_rfl) (by kernel_rfl) (by kernel_rfl)) (e_var _ _ 6 (by kernel_rfl) (by kernel_rfl) (by kernel_rfl)))
  b_nil) b_nil)
  (b_cons (s_ret _ (e_var _ _ 5 (by kernel_rfl) (by kernel_rfl) (by kernel_rfl)))
  b_nil))))))
theorem bind_shift_left {fd : FuncData} (hp : fd.params = argsAt 12) (hd : fd.defaults = .none) (hk : fd.kwdefaults = .none) : ∀ xs : List Value, xs.length = 3 → bindArgs fd ⟨xs, []⟩ = pure ([(Str.ofString "a"), (Str.ofString "n"), (Str.ofString "w")].zip xs)
  | [v0, v1, v2], _ => by unfold bindArgs; rw [hp, hd, hk]; kernel_rfl
theorem ok_shift_left {c : Cx} (G : Facts c) (h : DefAt c.mg c.h₀ 12 (c.fa 8)) : ∃ o fd body pn Γ, FnOk c 8 f_shift_left o fd body pn Γ :=
  fnOk_of (pn := [(Str.ofString "a"), (Str.ofString "n"), (Str.ofString "w")]) h (fun _ => bind_shift_left) rfl (by decide +kernel) (by decide +kernel) (by decide +kernel) (by decide +kernel) (by kernel_rfl) (by kernel_rfl) (by kernel_rfl) (d_shift_left G)
theorem d_shift_right {c : Cx} (G : Facts c) : SndB c (scopeAt 13) [((Str.ofString "a"), 0), ((Str.ofString "n"), 1), ((Str.ofString "w"), 2), ((Str.ofString "spots"), 3), ((Str.ofString "few"), 4), ((Str.ofString "found"), 5), ((Str.ofString "mask"), 6), ((Str.ofString "at"), 7), ((Str.ofString "above"), 8)] (bodyAt 13) b_shift_right :=
  (b_cons (s_unpackW (xs := [(Str.ofString "spots"), (Str.ofString "few")]) rfl (sto2 ⟨by decide, (by kernel_rfl), .inl (by kernel_rfl)⟩ ⟨by decide, (by kernel_rfl), .inl (by kernel_rfl)⟩) (by decide) (fun env h => by cases env; cases h; kernel_rfl) (fun env h => by cases env; cases h; kernel_rfl) (l_cons (fun _ => (by kernel_rfl)) (e_bin .fdiv _ (e_var _ _ 1 (by kernel_rfl) (by kernel_rfl) (by kernel_rfl)) (e_var _ _ 2 (by kernel_rfl) (by kernel_rfl) (by kernel_rfl))) (l_cons (fun _ => (by kernel_rfl)) (e_bin .mod _ (e_var _ _ 1 (by kernel_rfl) (by kernel_rfl) (by kernel_rfl)) (e_var _ _ 2 (by kernel_rfl) (by kernel_rfl) (by kernel_rfl))) (l_nil _))))
  (b_cons (s_unpackW (xs := [(Str.ofString "found"), (Str.ofString "mask")]) rfl (sto2 ⟨by decide, (by kernel_rfl), .inl (by kernel_rfl)⟩ ⟨by decide, (by kernel_rfl), .inl (by kernel_rfl)⟩) (by decide) (fun env h => by cases env; cases h; kernel_rfl) (fun env h => by cases env; cases h; kernel_rfl) (l_cons (fun _ => (by kernel_rfl)) (e_list _ (by decide) (l_nil _)) (l_cons (fun _ => (by kernel_rfl)) (e_bin .sub _ (e_bin .shl _ (e_int _ _ _) (e_var _ _ 2 (by kernel_rfl) (by kernel_rfl) (by kernel_rfl))) (e_int _ _ _)) (l_nil _))))
  (b_cons (s_for2 G.g_range G.m_range (by kernel_rfl) (fun _ => (by kernel_rfl)) (fun _ => (by kernel_rfl)) (fun _ _ => (by kernel_rfl)) ⟨by decide, (by kernel_rfl), .inl (by kernel_rfl)⟩ (e_var _ _ 3 (by kernel_rfl) (by kernel_rfl) (by kernel_rfl)) (e_len G.g_len G.m_len (by kernel_rfl) (fun _ => (by kernel_rfl)) (e_var _ _ 0 (by kernel_rfl) (by kernel_rfl) (by kernel_rfl))) (b_cons (s_asg ⟨by decide, (by kernel_rfl), .inl (by kernel_rfl)⟩ (fun _ => (by kernel_rfl)) (e_ite _ (t_cmp .lt _ (by kernel_rfl) (e_bin .add _ (e_var _ _ 7 (by kernel_rfl) (by kernel_rfl) (by kernel_rfl)) (e_int _ _ _)) (e_len G.g_len G.m_len (by kernel_rfl) (fun _ => (by kernel_rfl)) (e_var _ _ 0 (by kernel_rfl) (by kernel_rfl) (by kernel_rfl)))) (e_idx _ (fun _ _ _ => (by kernel_rfl)) (e_var _ _ 0 (by kernel_rfl) (by kernel_rfl) (by kernel_rfl)) (e_bin .add _ (e_var _ _ 7 (by kernel_rfl) (by kernel_rfl) (by kernel_rfl)) (e_int _ _ _))) (e_int _ _ _)))
  (b_cons (s_append _ _ _ _ (fun _ => (by kernel_rfl)) (fun _ => rfl) (fun _ => (by kernel_rfl)) (e_var _ _ 5 (by kernel_rfl) (by kernel_rfl) (by kernel_rfl)) (e_bin .band _ (e_bin .bor _ (e_bin .shr _ (e_idx _ (fun _ _ _ => (by kernel_rfl)) (e_var _ _ 0 (by kernel_rfl) (by kernel_rfl) (by kernel_rfl)) (e_var _ _ 7 (by kernel_rfl) (by kernel_rfl) (by kernel_rfl))) (e_var _ _ 4 (by kernel_rfl) (by kernel_rfl) (by kernel_rfl))) (e_bin .shl _ (e_var _ _ 8 (by kernel_rfl) (by kernel_rfl) (by kernel_rfl)) (e_bin .sub _ (e_var _ _ 2 (by kernel_rfl) (by kernel_rfl) (by kernel_rfl)) (e_var _ _ 4 (by kernel_rfl) (by kernel_rfl) (by kernel_rfl))))) (e_var _ _ 6 (by kernel_rfl) (by kernel_rfl) (by kernel_rfl))))
  b_nil)))
  (b_cons (s_ret _ (e_call (fun _ => (by kernel_rfl)) (e_glob _ _ 0 G.f_normal (by kernel_rfl) (by kernel_rfl)) (l_cons (fun _ => (by kernel_rfl)) (e_var _ _ 5 (by kernel_rfl) (by kernel_rfl) (by kernel_rfl)) (l_nil _))))
  b_nil))))
theorem bind_shift_right {fd : FuncData} (hp : fd.params = argsAt 13) (hd : fd.defaults = .none) (hk : fd.kwdefaults = .none) : ∀ xs : List Value, xs.length = 3 → bindArgs fd ⟨xs, []⟩ = pure ([(Str.ofString "a"), (Str.ofString "n"), (Str.ofString "w")].zip xs)
  | [v0, v1, v2], _ => by unfold bindArgs; rw [hp, hd, hk]; kernel_rfl
theorem ok_shift_right {c : Cx} (G : Facts c) (h : DefAt c.mg c.h₀ 13 (c.fa 9)) : ∃ o fd body pn Γ, FnOk c 9 f_shift_right o fd body pn Γ :=
  fnOk_of (pn := [(Str.ofString "a"), (Str.ofString "n"), (Str.ofString "w")]) h (fun _ => bind_shift_right) rfl (by decide +kernel) (by decide +kernel) (by decide +kernel) (by decide +kernel) (by kernel_rfl) (by kernel_rfl) (by kernel_rfl) (d_shift_right G)
theorem d_bits {c : Cx} (G : Facts c) : SndB c (scopeAt 14) [((Str.ofString "a"), 0), ((Str.ofString "w"), 1)] (bodyAt 14) b_bits :=
  (b_cons (s_ret _ (e_ite _ (t_cmp .gt _ (by kernel_rfl) (e_len G.g_len G.m_len (by kernel_rfl) (fun _ => (by kernel_rfl)) (e_var _ _ 0 (by kernel_rfl) (by kernel_rfl) (by kernel_rfl))) (e_int _ _ _)) (e_bin .add _ (e_bin .mul _ (e_bin .sub _ (e_len G.g_len G.m_len (by kernel_rfl) (fun _ => (by kernel_rfl)) (e_var _ _ 0 (by kernel_rfl) (by kernel_rfl) (by kernel_rfl))) (e_int _ _ _)) (e_var _ _ 1 (by kernel_rfl) (by kernel_rfl) (by kernel_rfl))) (e_bitlen _ (fun _ => rfl) (e_idx _ (fun _ _ _ => (by kernel_rfl)) (e_var _ _ 0 (by kernel_rfl) (by kernel_rfl) (by kernel_rfl)) (e_neg _ (e_int _ _ _))))) (e_int _ _ _)))
  b_nil)
theorem bind_bits {fd : FuncData} (hp : fd.params = argsAt 14) (hd : fd.defaults = .none) (hk : fd.kwdefaults = .none) : ∀ xs : List Value, xs.length = 2 → bindArgs fd ⟨xs, []⟩ = pure ([(Str.ofString "a"), (Str.ofString "w")].zip xs)
  | [v0, v1], _ => by unfold bindArgs; rw [hp, hd, hk]; kernel_rfl
theorem ok_bits {c : Cx} (G : Facts c) (h : DefAt c.mg c.h₀ 14 (c.fa 10)) : ∃ o fd body pn Γ, FnOk c 10 f_bits o fd body pn Γ :=
  fnOk_of (pn := [(Str.ofString "a"), (Str.ofString "w")]) h (fun _ => bind_bits) rfl (by decide +kernel) (by decide +kernel) (by decide +kernel) (by decide +kernel) (by kernel_rfl) (by kernel_rfl) (by kernel_rfl) (d_bits G)
theorem d_bit {c : Cx} (G : Facts c) : SndB c (scopeAt 15) [((Str.ofString "a"), 0), ((Str.ofString "n"), 1), ((Str.ofString "w"), 2)] (bodyAt 15) b_bit :=
  (b_cons (s_ret _ (e_ite _ (t_cmp .lt _ (by kernel_rfl) (e_bin .fdiv _ (e_var _ _ 1 (by kernel_rfl) (by kernel_rfl) (by kernel_rfl)) (e_var _ _ 2 (by kernel_rfl) (by kernel_rfl) (by kernel_rfl))) (e_len G.g_len G.m_len (by kernel_rfl) (fun _ => (by kernel_rfl)) (e_var _ _ 0 (by kernel_rfl) (by kernel_rfl) (by kernel_rfl)))) (e_bin .band _ (e_bin .shr _ (e_idx _ (fun _ _ _ => (by kernel_rfl)) (e_var _ _ 0 (by kernel_rfl) (by kernel_rfl) (by kernel_rfl)) (e_bin .fdiv _ (e_var _ _ 1 (by kernel_rfl) (by kernel_rfl) (by kernel_rfl)) (e_var _ _ 2 (by kernel_rfl) (by kernel_rfl) (by kernel_rfl)))) (e_bin .mod _ (e_var _ _ 1 (by kernel_rfl) (by kernel_rfl) (by kernel_rfl)) (e_var _ _ 2 (by kernel_rfl) (by kernel_rfl) (by kernel_rfl)))) (e_int _ _ _)) (e_int _ _ _)))
  b_nil)
theorem bind_bit {fd : FuncData} (hp : fd.params = argsAt 15) (hd : fd.defaults = .none) (hk : fd.kwdefaults = .none) : ∀ xs : List Value, xs.length = 3 → bindArgs fd ⟨xs, []⟩ = pure ([(Str.ofString "a"), (Str.ofString "n"), (Str.ofString "w")].zip xs)
  | [v0, v1, v2], _ => by unfold bindArgs; rw [hp, hd, hk]; kernel_rfl
theorem ok_bit {c : Cx} (G : Facts c) (h : DefAt c.mg c.h₀ 15 (c.fa 11)) : ∃ o fd body pn Γ, FnOk c 11 f_bit o fd body pn Γ :=
  fnOk_of (pn := [(Str.ofString "a"), (Str.ofString "n"), (Str.ofString "w")]) h (fun _ => bind_bit) rfl (by decide +kernel) (by decide +kernel) (by decide +kernel) (by decide +kernel) (by kernel_rfl) (by kernel_rfl) (by kernel_rfl) (d_bit G)
theorem d_split {c : Cx} (G : Facts c) : SndB c (scopeAt 16) [((Str.ofString "a"), 0), ((Str.ofString "spot"), 1)] (bodyAt 16) b_split :=
  (b_cons (s_ret _ (e_tup _ _ (by decide) (l_cons (fun _ => (by kernel_rfl)) (e_call (fun _ => (by kernel_rfl)) (e_glob _ _ 0 G.f_normal (by kernel_rfl) (by kernel_rfl)) (l_cons (fun _ => (by kernel_rfl)) (e_slice_ns _ _ (fun _ _ => (by kernel_rfl)) (e_var _ _ 0 (by kernel_rfl) (by kernel_rfl) (by kernel_rfl)) (e_var _ _ 1 (by kernel_rfl) (by kernel_rfl) (by kernel_rfl))) (l_nil _))) (l_cons (fun _ => (by kernel_rfl)) (e_slice_sn _ _ (fun _ _ => (by kernel_rfl)) (e_var _ _ 0 (by kernel_rfl) (by kernel_rfl) (by kernel_rfl)) (e_var _ _ 1 (by kernel_rfl) (by kernel_rfl) (by kernel_rfl))) (l_nil _)))))
  b_nil)
theorem bind_split {fd : FuncData} (hp : fd.params = argsAt 16) (hd : fd.defaults = .none) (hk : fd.kwdefaults = .none) : ∀ xs : List Value, xs.length = 2 → bindArgs fd ⟨xs, []⟩ = pure ([(Str.ofString "a"), (Str.ofString "spot")].zip xs)
  | [v0, v1], _ => by unfold bindArgs; rw [hp, hd, hk]; kernel_rfl
theorem ok_split {c : Cx} (G : Facts c) (h : DefAt c.mg c.h₀ 16 (c.fa 12)) : ∃ o fd body pn Γ, FnOk c 12 f_split o fd body pn Γ :=
  fnOk_of (pn := [(Str.ofString "a"), (Str.ofString "spot")]) h (fun _ => bind_split) rfl (by decide +kernel) (by decide +kernel) (by decide +kernel) (by decide +kernel) (by kernel_rfl) (by kernel_rfl) (by kernel_rfl) (d_split G)
theorem d_sqrt_small {c : Cx} (G : Facts c) : SndB c (scopeAt 18) [((Str.ofString "n"), 0), ((Str.ofString "digit"), 1), ((Str.ofString "found"), 2)] (bodyAt 18) b_sqrt_small :=
  (b_cons (s_asg ⟨by decide, (by kernel_rfl), .inl (by kernel_rfl)⟩ (fun _ => (by kernel_rfl)) (e_int _ _ _))
  (b_cons (s_while _ (t_cmp .le _ (by kernel_rfl) (e_bin .mul _ (e_var _ _ 1 (by kernel_rfl) (by kernel_rfl) (by kernel_rfl)) (e_int _ _ _)) (e_var _ _ 0 (by kernel_rfl) (by kernel_rfl) (by kernel_rfl))) (b_cons (s_asg ⟨by decide, (by kernel_rfl), .inl (by kernel_rfl)⟩ (fun _ => (by kernel_rfl)) (e_bin .mul _ (e_var _ _ 1 (by kernel_rfl) (by kernel_rfl) (by kernel_rfl)) (e_int _ _ _)))
  b_nil))
  (b_cons (s_asg ⟨by decide, (by kernel_rfl), .inl (by kernel_rfl)⟩ (fun _ => (by kernel_rfl)) (e_int _ _ _))
  (b_cons (s_while _ (t_cmp .gt _ (by kernel_rfl) (e_var _ _ 1 (by kernel_rfl) (by kernel_rfl) (by kernel_rfl)) (e_int _ _ _)) (b_cons (s_iff _ (t_cmp .ge _ (by kernel_rfl) (e_var _ _ 0 (by kernel_rfl) (by kernel_rfl) (by kernel_rfl)) (e_bin .add _ (e_var _ _ 2 (by kernel_rfl) (by kernel_rfl) (by kernel_rfl)) (e_var _ _ 1 (by kernel_rfl) (by kernel_rfl) (by kernel_rfl)))) (b_cons (s_asg ⟨by decide, (by kernel_rfl), .inl (by kernel_rfl)⟩ (fun _ => (by kernel_rfl)) (e_bin .sub _ (e_bin .sub _ (e_var _ _ 0 (by kernel_rfl) (by kernel_rfl) (by kernel_rfl)) (e_var _ _ 2 (by kernel_rfl) (by kernel_rfl) (by kernel_rfl))) (e_var _ _ 1 (by kernel_rfl) (by kernel_rfl) (by kernel_rfl))))
  (b_cons (s_asg ⟨by decide, (by kernel_rfl), .inl (by kernel_rfl)⟩ (fun _ => (by kernel_rfl)) (e_bin .add _ (e_bin .shr _ (e_var _ _ 2 (by kernel_rfl) (by kernel_rfl) (by kernel_rfl)) (e_int _ _ _)) (e_var _ _ 1 (by kernel_rfl) (by kernel_rfl) (by kernel_rfl))))
  b_nil)) (b_cons (s_asg ⟨by decide, (by kernel_rfl), .inl (by kernel_rfl)⟩ (fun _ => (by kernel_rfl)) (e_bin .shr _ (e_var _ _ 2 (by kernel_rfl) (by kernel_rfl) (by kernel_rfl)) (e_int _ _ _)))
  b_nil))
  (b_cons (s_asg ⟨by decide, (by kernel_rfl), .inl (by kernel_rfl)⟩ (fun _ => (by kernel_rfl)) (e_bin .shr _ (e_var _ _ 1 (by kernel_rfl) (by kernel_rfl) (by kernel_rfl)) (e_int _ _ _)))
  b_nil)))
  (b_cons (s_ret _ (e_var _ _ 2 (by kernel_rfl) (by kernel_rfl) (by kernel_rfl)))
  b_nil)))))
theorem bind_sqrt_small {fd : FuncData} (hp : fd.params = argsAt 18) (hd : fd.defaults = .none) (hk : fd.kwdefaults = .none) : ∀ xs : List Value, xs.length = 1 → bindArgs fd ⟨xs, []⟩ = pure ([(Str.ofString "n")].zip xs)
  | [v0], _ => by unfold bindArgs; rw [hp, hd, hk]; kernel_rfl
theorem ok_sqrt_small {c : Cx} (G : Facts c) (h : DefAt c.mg c.h₀ 18 (c.fa 13)) : ∃ o fd body pn Γ, FnOk c 13 f_sqrt_small o fd body pn Γ :=
  fnOk_of (pn := [(Str.ofString "n")]) h (fun _ => bind_sqrt_small) rfl (by decide +kernel) (by decide +kernel) (by decide +kernel) (by decide +kernel) (by kernel_rfl) (by kernel_rfl) (by kernel_rfl) (d_sqrt_small G)
theorem d_sqrt_plain {c : Cx} (G : Facts c) : SndB c (scopeAt 19) [((Str.ofString "a"), 0), ((Str.ofString "w"), 1), ((Str.ofString "root"), 2), ((Str.ofString "rest"), 3), ((Str.ofString "pair"), 4), ((Str.ofString "tried"), 5)] (bodyAt 19) b_sqrt_plain :=
  (b_cons (s_unpackW (xs := [(Str.ofString "root"), (Str.ofString "rest")]) rfl (sto2 ⟨by decide, (by kernel_rfl), .inl (by kernel_rfl)⟩ ⟨by decide, (by kernel_rfl), .inl (by kernel_rfl)⟩) (by decide) (fun env h => by cases env; cases h; kernel_rfl) (fun env h => by cases env; cases h; kernel_rfl) (l_cons (fun _ => (by kernel_rfl)) (e_list _ (by decide) (l_nil _)) (l_cons (fun _ => (by kernel_rfl)) (e_list _ (by decide) (l_nil _)) (l_nil _))))
  (b_cons (s_for3 G.g_range G.m_range (by kernel_rfl) (fun _ => (by kernel_rfl)) (fun _ => (by kernel_rfl)) (fun _ => (by kernel_rfl)) (fun _ _ => (by kernel_rfl)) ⟨by decide, (by kernel_rfl), .inl (by kernel_rfl)⟩ (e_bin .sub _ (e_bin .fdiv _ (e_bin .add _ (e_call (fun _ => (by kernel_rfl)) (e_glob _ _ 10 G.f_bits (by kernel_rfl) (by kernel_rfl)) (l_cons (fun _ => (by kernel_rfl)) (e_var _ _ 0 (by kernel_rfl) (by kernel_rfl) (by kernel_rfl)) (l_cons (fun _ => (by kernel_rfl)) (e_var _ _ 1 (by kernel_rfl) (by kernel_rfl) (by kernel_rfl)) (l_nil _)))) (e_int _ _ _)) (e_int _ _ _)) (e_int _ _ _)) (e_neg _ (e_int _ _ _)) (e_neg _ (e_int _ _ _)) (b_cons (s_asg ⟨by decide, (by kernel_rfl), .inl (by kernel_rfl)⟩ (fun _ => (by kernel_rfl)) (e_call (fun _ => (by kernel_rfl)) (e_glob _ _ 8 G.f_shift_left (by kernel_rfl) (by kernel_rfl)) (l_cons (fun _ => (by kernel_rfl)) (e_var _ _ 3 (by kernel_rfl) (by kernel_rfl) (by kernel_rfl)) (l_cons (fun _ => (by kernel_rfl)) (e_int _ _ _) (l_cons (fun _ => (by kernel_rfl)) (e_var _ _ 1 (by kernel_rfl) (by kernel_rfl) (by kernel_rfl)) (l_nil _))))))
  (b_cons (s_asg ⟨by decide, (by kernel_rfl), .inl (by kernel_rfl)⟩ (fun _ => (by kernel_rfl)) (e_call (fun _ => (by kernel_rfl)) (e_glob _ _ 3 G.f_add (by kernel_rfl) (by kernel_rfl)) (l_cons (fun _ => (by kernel_rfl)) (e_var _ _ 3 (by kernel_rfl) (by kernel_rfl) (by kernel_rfl)) (l_cons (fun _ => (by kernel_rfl)) (e_call (fun _ => (by kernel_rfl)) (e_glob _ _ 1 G.f_nat_of (by kernel_rfl) (by kernel_rfl)) (l_cons (fun _ => (by kernel_rfl)) (e_bin .add _ (e_bin .mul _ (e_int _ _ _) (e_call (fun _ => (by kernel_rfl)) (e_glob _ _ 11 G.f_bit (by kernel_rfl) (by kernel_rfl)) (l_cons (fun _ => (by kernel_rfl)) (e_var _ _ 0 (by kernel_rfl) (by kernel_rfl) (by kernel_rfl)) (l_cons (fun _ => (by kernel_rfl)) (e_bin .add _ (e_bin .mul _ (e_int _ _ _) (e_var _ _ 4 (by kernel_rfl) (by kernel_rfl) (by kernel_rfl))) (e_int _ _ _)) (l_cons (fun _ => (by kernel_rfl)) (e_var _ _ 1 (by kernel_rfl) (by kernel_rfl) (by kernel_rfl)) (l_nil _)))))) (e_call (fun _ => (by kernel_rfl)) (e_glob _ _ 11 G.f_bit (by kernel_rfl) (by kernel_rfl)) (l_cons (fun _ => (by kernel_rfl)) (e_var _ _ 0 (by kernel_rfl) (by kernel_rfl) (by kernel_rfl)) (l_cons (fun _ => (by kernel_rfl)) (e_bin .mul _ (e_int _ _ _) (e_var _ _ 4 (by kernel_rfl) (by kernel_rfl) (by kernel_rfl))) (l_cons (fun _ => (by kernel_rfl)) (e_var _ _ 1 (by kernel_rfl) (by kernel_rfl) (by kernel_rfl)) (l_nil _)))))) (l_cons (fun _ => (by kernel_rfl)) (e_var _ _ 1 (by kernel_rfl) (by kernel_rfl) (by kernel_rfl)) (l_nil _)))) (l_cons (fun _ => (by kernel_rfl)) (e_var _ _ 1 (by kernel_rfl) (by kernel_rfl) (by kernel_rfl)) (l_nil _))))))
  (b_cons (s_asg ⟨by decide, (by kernel_rfl), .inl (by kernel_rfl)⟩ (fun _ => (by kernel_rfl)) (e_call (fun _ => (by kernel_rfl)) (e_glob _ _ 3 G.f_add (by kernel_rfl) (by kernel_rfl)) (l_cons (fun _ => (by kernel_rfl)) (e_call (fun _ => (by kernel_rfl)) (e_glob _ _ 8 G.f_shift_left (by kernel_rfl) (by kernel_rfl)) (l_cons (fun _ => (by kernel_rfl)) (e_var _ _ 2 (by kernel_rfl) (by kernel_rfl) (by kernel_rfl)) (l_cons (fun _ => (by kernel_rfl)) (e_int _ _ _) (l_cons (fun _ => (by kernel_rfl)) (e_var _ _ 1 (by kernel_rfl) (by kernel_rfl) (by kernel_rfl)) (l_nil _))))) (l_cons (fun _ => (by kernel_rfl)) (e_list _ (by decide) (l_cons (fun _ => (by kernel_rfl)) (e_int _ _ _) (l_nil _))) (l_cons (fun _ => (by kernel_rfl)) (e_var _ _ 1 (by kernel_rfl) (by kernel_rfl) (by kernel_rfl)) (l_nil _))))))
  (b_cons (s_asg ⟨by decide, (by kernel_rfl), .inl (by kernel_rfl)⟩ (fun _ => (by kernel_rfl)) (e_call (fun _ => (by kernel_rfl)) (e_glob _ _ 8 G.f_shift_left (by kernel_rfl) (by kernel_rfl)) (l_cons (fun _ => (by kernel_rfl)) (e_var _ _ 2 (by kernel_rfl) (by kernel_rfl) (by kernel_rfl)) (l_cons (fun _ => (by kernel_rfl)) (e_int _ _ _) (l_cons (fun _ => (by kernel_rfl)) (e_var _ _ 1 (by kernel_rfl) (by kernel_rfl) (by kernel_rfl)) (l_nil _))))))
  (b_cons (s_iff _ (t_cmp .ge _ (by kernel_rfl) (e_call (fun _ => (by kernel_rfl)) (e_glob _ _ 2 G.f_compare (by kernel_rfl) (by kernel_rfl)) (l_cons (fun _ => (by kernel_rfl)) (e_var _ _ 3 (by kernel_rfl) (by kernel_rfl) (by kernel_rfl)) (l_cons (fun _ => (by kernel_rfl)) (e_var _ _ 5 (by kernel_rfl) (by kernel_rfl) (by kernel_rfl)) (l_nil _)))) (e_int _ _ _)) (b_cons (s_asg ⟨by decide, (by kernel_rfl), .inl (by kernel_rfl)⟩ (fun _ => (by kernel_rfl)) (e_call (fun _ => (by kernel_rfl)) (e_glob _ _ 4 G.f_sub (by kernel_rfl) (by kernel_rfl)) (l_cons (fun _ => (by kernel_rfl)) (e_var _ _ 3 (by kernel_rfl) (by kernel_rfl) (by kernel_rfl)) (l_cons (fun _ => (by kernel_rfl)) (e_var _ _ 5 (by kernel_rfl) (by kernel_rfl) (by kernel_rfl)) (l_cons (fun _ => (by kernel_rfl)) (e_var _ _ 1 (by kernel_rfl) (by kernel_rfl) (by kernel_rfl)) (l_nil _))))))
  (b_cons (s_asg ⟨by decide, (by kernel_rfl), .inl (by kernel_rfl)⟩ (fun _ => (by kernel_rfl)) (e_call (fun _ => (by kernel_rfl)) (e_glob _ _ 3 G.f_add (by kernel_rfl) (by kernel_rfl)) (l_cons (fun _ => (by kernel_rfl)) (e_var _ _ 2 (by kernel_rfl) (by kernel_rfl) (by kernel_rfl)) (l_cons (fun _ => (by kernel_rfl)) (e_list _ (by decide) (l_cons (fun _ => (by kernel_rfl)) (e_int _ _ _) (l_nil _))) (l_cons (fun _ => (by kernel_rfl)) (e_var _ _ 1 (by kernel_rfl) (by kernel_rfl) (by kernel_rfl)) (l_nil _))))))
  b_nil)) b_nil)
  b_nil))))))
  (b_cons (s_ret _ (e_tup _ _ (by decide) (l_cons (fun _ => (by kernel_rfl)) (e_var _ _ 2 (by kernel_rfl) (by kernel_rfl) (by kernel_rfl)) (l_cons (fun _ => (by kernel_rfl)) (e_var _ _ 3 (by kernel_rfl) (by kernel_rfl) (by kernel_rfl)) (l_nil _)))))
  b_nil)))
theorem bind_sqrt_plain {fd : FuncData} (hp : fd.params = argsAt 19) (hd : fd.defaults = .none) (hk : fd.kwdefaults = .none) : ∀ xs : List Value, xs.length = 2 → bindArgs fd ⟨xs, []⟩ = pure ([(Str.ofString "a"), (Str.ofString "w")].zip xs)
  | [v0, v1], _ => by unfold bindArgs; rw [hp, hd, hk]; kernel_rfl
theorem ok_sqrt_plain {c : Cx} (G : Facts c) (h : DefAt c.mg c.h₀ 19 (c.fa 14)) : ∃ o fd body pn Γ, FnOk c 14 f_sqrt_plain o fd body pn Γ :=
  fnOk_of (pn := [(Str.ofString "a"), (Str.ofString "w")]) h (fun _ => bind_sqrt_plain) rfl (by decide +kernel) (by decide +kernel) (by decide +kernel) (by decide +kernel) (by kernel_rfl) (by kernel_rfl) (by kernel_rfl) (d_sqrt_plain G)
theorem d_sqrt_two_limbs {c : Cx} (G : Facts c) : SndB c (scopeAt 20) [((Str.ofString "a"), 0), ((Str.ofString "w"), 1), ((Str.ofString "n"), 2), ((Str.ofString "limb"), 3), ((Str.ofString "root"), 4)] (bodyAt 20) b_sqrt_two_limbs :=
  (b_cons (s_asg ⟨by decide, (by kernel_rfl), .inl (by kernel_rfl)⟩ (fun _ => (by kernel_rfl)) (e_int _ _ _))
  (b_cons (s_forRev G.g_reversed G.m_reversed (by kernel_rfl) (fun _ => (by kernel_rfl)) (fun _ _ => (by kernel_rfl)) ⟨by decide, (by kernel_rfl), .inl (by kernel_rfl)⟩ (e_var _ _ 0 (by kernel_rfl) (by kernel_rfl) (by kernel_rfl)) (b_cons (s_asg ⟨by decide, (by kernel_rfl), .inl (by kernel_rfl)⟩ (fun _ => (by kernel_rfl)) (e_bin .add _ (e_bin .shl _ (e_var _ _ 2 (by kernel_rfl) (by kernel_rfl) (by kernel_rfl)) (e_var _ _ 1 (by kernel_rfl) (by kernel_rfl) (by kernel_rfl))) (e_var _ _ 3 (by kernel_rfl) (by kernel_rfl) (by kernel_rfl))))
  b_nil))
  (b_cons (s_asg ⟨by decide, (by kernel_rfl), .inl (by kernel_rfl)⟩ (fun _ => (by kernel_rfl)) (e_call (fun _ => (by kernel_rfl)) (e_glob _ _ 13 G.f_sqrt_small (by kernel_rfl) (by kernel_rfl)) (l_cons (fun _ => (by kernel_rfl)) (e_var _ _ 2 (by kernel_rfl) (by kernel_rfl) (by kernel_rfl)) (l_nil _))))
  (b_cons (s_ret _ (e_tup _ _ (by decide) (l_cons (fun _ => (by kernel_rfl)) (e_call (fun _ => (by kernel_rfl)) (e_glob _ _ 1 G.f_nat_of (by kernel_rfl) (by kernel_rfl)) (l_cons (fun _ => (by kernel_rfl)) (e_var _ _ 4 (by kernel_rfl) (by kernel_rfl) (by kernel_rfl)) (l_cons (fun _ => (by kernel_rfl)) (e_var _ _ 1 (by kernel_rfl) (by kernel_rfl) (by kernel_rfl)) (l_nil _)))) (l_cons (fun _ => (by kernel_rfl)) (e_call (fun _ => (by kernel_rfl)) (e_glob _ _ 1 G.f_nat_of (by kernel_rfl) (by kernel_rfl)) (l_cons (fun _ => (by kernel_rfl)) (e_bin .sub _ (e_var _ _ 2 (by kernel_rfl) (by kernel_rfl) (by kernel_rfl)) (e_bin .mul _ (e_var _ _ 4 (by kernel_rfl) (by kernel_rfl) (by kernel_rfl)) (e_var _ _ 4 (by kernel_rfl) (by kernel_rfl) (by kernel_rfl)))) (l_cons (fun _ => (by kernel_rfl)) (e_var _ _ 1 (by kernel_rfl) (by kernel_rfl) (by kernel_rfl)) (l_nil _)))) (l_nil _)))))
  b_nil))))
theorem bind_sqrt_two_limbs {fd : FuncData} (hp : fd.params = argsAt 20) (hd : fd.defaults = .none) (hk : fd.kwdefaults = .none) : ∀ xs : List Value, xs.length = 2 → bindArgs fd ⟨xs, []⟩ = pure ([(Str.ofString "a"), (Str.ofString "w")].zip xs)
  | [v0, v1], _ => by unfold bindArgs; rw [hp, hd, hk]; kernel_rfl
theorem ok_sqrt_two_limbs {c : Cx} (G : Facts c) (h : DefAt c.mg c.h₀ 20 (c.fa 15)) : ∃ o fd body pn Γ, FnOk c 15 f_sqrt_two_limbs o fd body pn Γ :=
  fnOk_of (pn := [(Str.ofString "a"), (Str.ofString "w")]) h (fun _ => bind_sqrt_two_limbs) rfl (by decide +kernel) (by decide +kernel) (by decide +kernel) (by decide +kernel) (by kernel_rfl) (by kernel_rfl) (by kernel_rfl) (d_sqrt_two_limbs G)
theorem d_sqrt_halves {c : Cx} (G : Facts c) : SndB c (scopeAt 21) [((Str.ofString "a"), 0), ((Str.ofString "size"), 1), ((Str.ofString "w"), 2), ((Str.ofString "least"), 3), ((Str.ofString "mul"), 4), ((Str.ofString "divrem"), 5), ((Str.ofString "part"), 6), ((Str.ofString "lower"), 7), ((Str.ofString "upper"), 8), ((Str.ofString "last"), 9), ((Str.ofString "middle"), 10), ((Str.ofString "root"), 11), ((Str.ofString "rest"), 12), ((Str.ofString "told"), 13), ((Str.ofString "left"), 14), ((Str.ofString "square"), 15)] (bodyAt 21) b_sqrt_halves :=
  (b_cons (s_iff _ (t_cmp .le _ (by kernel_rfl) (e_var _ _ 1 (by kernel_rfl) (by kernel_rfl) (by kernel_rfl)) (e_int _ _ _)) (b_cons (s_ret _ (e_call (fun _ => (by kernel_rfl)) (e_glob _ _ 15 G.f_sqrt_two_limbs (by kernel_rfl) (by kernel_rfl)) (l_cons (fun _ => (by kernel_rfl)) (e_var _ _ 0 (by kernel_rfl) (by kernel_rfl) (by kernel_rfl)) (l_cons (fun _ => (by kernel_rfl)) (e_var _ _ 2 (by kernel_rfl) (by kernel_rfl) (by kernel_rfl)) (l_nil _)))))
  b_nil) b_nil)
  (b_cons (s_iff _ (t_cmp .le _ (by kernel_rfl) (e_var _ _ 1 (by kernel_rfl) (by kernel_rfl) (by kernel_rfl)) (e_var _ _ 3 (by kernel_rfl) (by kernel_rfl) (by kernel_rfl))) (b_cons (s_ret _ (e_call (fun _ => (by kernel_rfl)) (e_glob _ _ 14 G.f_sqrt_plain (by kernel_rfl) (by kernel_rfl)) (l_cons (fun _ => (by kernel_rfl)) (e_var _ _ 0 (by kernel_rfl) (by kernel_rfl) (by kernel_rfl)) (l_cons (fun _ => (by kernel_rfl)) (e_var _ _ 2 (by kernel_rfl) (by kernel_rfl) (by kernel_rfl)) (l_nil _)))))
  b_nil) b_nil)
  (b_cons (s_asg ⟨by decide, (by kernel_rfl), .inl (by kernel_rfl)⟩ (fun _ => (by kernel_rfl)) (e_bin .fdiv _ (e_var _ _ 1 (by kernel_rfl) (by kernel_rfl) (by kernel_rfl)) (e_int _ _ _)))
  (b_cons (s_unpack (.cons (.cons .nil)) rfl (sto2 ⟨by decide, (by kernel_rfl), .inl (by kernel_rfl)⟩ ⟨by decide, (by kernel_rfl), .inl (by kernel_rfl)⟩) (fun env h => by cases env; cases h; kernel_rfl) (fun env h => by cases env; cases h; kernel_rfl) (e_call (fun _ => (by kernel_rfl)) (e_glob _ _ 12 G.f_split (by kernel_rfl) (by kernel_rfl)) (l_cons (fun _ => (by kernel_rfl)) (e_var _ _ 0 (by kernel_rfl) (by kernel_rfl) (by kernel_rfl)) (l_cons (fun _ => (by kernel_rfl)) (e_bin .mul _ (e_int _ _ _) (e_var _ _ 6 (by kernel_rfl) (by kernel_rfl) (by kernel_rfl))) (l_nil _)))))
  (b_cons (s_unpack (.cons (.cons .nil)) rfl (sto2 ⟨by decide, (by kernel_rfl), .inl (by kernel_rfl)⟩ ⟨by decide, (by kernel_rfl), .inl (by kernel_rfl)⟩) (fun env h => by cases env; cases h; kernel_rfl) (fun env h => by cases env; cases h; kernel_rfl) (e_call (fun _ => (by kernel_rfl)) (e_glob _ _ 12 G.f_split (by kernel_rfl) (by kernel_rfl)) (l_cons (fun _ => (by kernel_rfl)) (e_var _ _ 7 (by kernel_rfl) (by kernel_rfl) (by kernel_rfl)) (l_cons (fun _ => (by kernel_rfl)) (e_var _ _ 6 (by kernel_rfl) (by kernel_rfl) (by kernel_rfl)) (l_nil _)))))
  (b_cons (s_unpack (.cons (.cons .nil)) rfl (sto2 ⟨by decide, (by kernel_rfl), .inl (by kernel_rfl)⟩ ⟨by decide, (by kernel_rfl), .inl (by kernel_rfl)⟩) (fun env h => by cases env; cases h; kernel_rfl) (fun env h => by cases env; cases h; kernel_rfl) (e_call (fun _ => (by kernel_rfl)) (e_glob _ _ 16 G.f_sqrt_halves (by kernel_rfl) (by kernel_rfl)) (l_cons (fun _ => (by kernel_rfl)) (e_var _ _ 8 (by kernel_rfl) (by kernel_rfl) (by kernel_rfl)) (l_cons (fun _ => (by kernel_rfl)) (e_bin .sub _ (e_var _ _ 1 (by kernel_rfl) (by kernel_rfl) (by kernel_rfl)) (e_bin .mul _ (e_int _ _ _) (e_var _ _ 6 (by kernel_rfl) (by kernel_rfl) (by kernel_rfl)))) (l_cons (fun _ => (by kernel_rfl)) (e_var _ _ 2 (by kernel_rfl) (by kernel_rfl) (by kernel_rfl)) (l_cons (fun _ => (by kernel_rfl)) (e_var _ _ 3 (by kernel_rfl) (by kernel_rfl) (by kernel_rfl)) (l_cons (fun _ => (by kernel_rfl)) (e_var _ _ 4 (by kernel_rfl) (by kernel_rfl) (by kernel_rfl)) (l_cons (fun _ => (by kernel_rfl)) (e_var _ _ 5 (by kernel_rfl) (by kernel_rfl) (by kernel_rfl)) (l_nil _)))))))))
  (b_cons (s_unpack (.cons (.cons .nil)) rfl (sto2 ⟨by decide, (by kernel_rfl), .inl (by kernel_rfl)⟩ ⟨by decide, (by kernel_rfl), .inl (by kernel_rfl)⟩) (fun env h => by cases env; cases h; kernel_rfl) (fun env h => by cases env; cases h; kernel_rfl) (e_call (fun _ => (by kernel_rfl)) (e_var _ _ 5 (by kernel_rfl) (by kernel_rfl) (by kernel_rfl)) (l_cons (fun _ => (by kernel_rfl)) (e_call (fun _ => (by kernel_rfl)) (e_glob _ _ 6 G.f_add_at (by kernel_rfl) (by kernel_rfl)) (l_cons (fun _ => (by kernel_rfl)) (e_var _ _ 10 (by kernel_rfl) (by kernel_rfl) (by kernel_rfl)) (l_cons (fun _ => (by kernel_rfl)) (e_var _ _ 12 (by kernel_rfl) (by kernel_rfl) (by kernel_rfl)) (l_cons (fun _ => (by kernel_rfl)) (e_var _ _ 6 (by kernel_rfl) (by kernel_rfl) (by kernel_rfl)) (l_cons (fun _ => (by kernel_rfl)) (e_var _ _ 2 (by kernel_rfl) (by kernel_rfl) (by kernel_rfl)) (l_nil _)))))) (l_cons (fun _ => (by kernel_rfl)) (e_call (fun _ => (by kernel_rfl)) (e_glob _ _ 8 G.f_shift_left (by kernel_rfl) (by kernel_rfl)) (l_cons (fun _ => (by kernel_rfl)) (e_var _ _ 11 (by kernel_rfl) (by kernel_rfl) (by kernel_rfl)) (l_cons (fun _ => (by kernel_rfl)) (e_int _ _ _) (l_cons (fun _ => (by kernel_rfl)) (e_var _ _ 2 (by kernel_rfl) (by kernel_rfl) (by kernel_rfl)) (l_nil _))))) (l_cons (fun _ => (by kernel_rfl)) (e_var _ _ 2 (by kernel_rfl) (by kernel_rfl) (by kernel_rfl)) (l_nil _))))))
  (b_cons (s_asg ⟨by decide, (by kernel_rfl), .inl (by kernel_rfl)⟩ (fun _ => (by kernel_rfl)) (e_call (fun _ => (by kernel_rfl)) (e_glob _ _ 6 G.f_add_at (by kernel_rfl) (by kernel_rfl)) (l_cons (fun _ => (by kernel_rfl)) (e_var _ _ 13 (by kernel_rfl) (by kernel_rfl) (by kernel_rfl)) (l_cons (fun _ => (by kernel_rfl)) (e_var _ _ 11 (by kernel_rfl) (by kernel_rfl) (by kernel_rfl)) (l_cons (fun _ => (by kernel_rfl)) (e_var _ _ 6 (by kernel_rfl) (by kernel_rfl) (by kernel_rfl)) (l_cons (fun _ => (by kernel_rfl)) (e_var _ _ 2 (by kernel_rfl) (by kernel_rfl) (by kernel_rfl)) (l_nil _)))))))
  (b_cons (s_asg ⟨by decide, (by kernel_rfl), .inl (by kernel_rfl)⟩ (fun _ => (by kernel_rfl)) (e_call (fun _ => (by kernel_rfl)) (e_glob _ _ 6 G.f_add_at (by kernel_rfl) (by kernel_rfl)) (l_cons (fun _ => (by kernel_rfl)) (e_var _ _ 9 (by kernel_rfl) (by kernel_rfl) (by kernel_rfl)) (l_cons (fun _ => (by kernel_rfl)) (e_var _ _ 14 (by kernel_rfl) (by kernel_rfl) (by kernel_rfl)) (l_cons (fun _ => (by kernel_rfl)) (e_var _ _ 6 (by kernel_rfl) (by kernel_rfl) (by kernel_rfl)) (l_cons (fun _ => (by kernel_rfl)) (e_var _ _ 2 (by kernel_rfl) (by kernel_rfl) (by kernel_rfl)) (l_nil _)))))))
  (b_cons (s_asg ⟨by decide, (by kernel_rfl), .inl (by kernel_rfl)⟩ (fun _ => (by kernel_rfl)) (e_call (fun _ => (by kernel_rfl)) (e_var _ _ 4 (by kernel_rfl) (by kernel_rfl) (by kernel_rfl)) (l_cons (fun _ => (by kernel_rfl)) (e_var _ _ 13 (by kernel_rfl) (by kernel_rfl) (by kernel_rfl)) (l_cons (fun _ => (by kernel_rfl)) (e_var _ _ 13 (by kernel_rfl) (by kernel_rfl) (by kernel_rfl)) (l_cons (fun _ => (by kernel_rfl)) (e_var _ _ 2 (by kernel_rfl) (by kernel_rfl) (by kernel_rfl)) (l_nil _))))))
  (b_cons (s_iff _ (t_cmp .ge _ (by kernel_rfl) (e_call (fun _ => (by kernel_rfl)) (e_glob _ _ 2 G.f_compare (by kernel_rfl) (by kernel_rfl)) (l_cons (fun _ => (by kernel_rfl)) (e_var _ _ 12 (by kernel_rfl) (by kernel_rfl) (by kernel_rfl)) (l_cons (fun _ => (by kernel_rfl)) (e_var _ _ 15 (by kernel_rfl) (by kernel_rfl) (by kernel_rfl)) (l_nil _)))) (e_int _ _ _)) (b_cons (s_ret _ (e_tup _ _ (by decide) (l_cons (fun _ => (by kernel_rfl)) (e_var _ _ 11 (by kernel_rfl) (by kernel_rfl) (by kernel_rfl)) (l_cons (fun _ => (by kernel_rfl)) (e_call (fun _ => (by kernel_rfl)) (e_glob _ _ 4 G.f_sub (by kernel_rfl) (by kernel_rfl)) (l_cons (fun _ => (by kernel_rfl)) (e_var _ _ 12 (by kernel_rfl) (by kernel_rfl) (by kernel_rfl)) (l_cons (fun _ => (by kernel_rfl)) (e_var _ _ 15 (by kernel_rfl) (by kernel_rfl) (by kernel_rfl)) (l_cons (fun _ => (by kernel_rfl)) (e_var _ _ 2 (by kernel_rfl) (by kernel_rfl) (by kernel_rfl)) (l_nil _))))) (l_nil _)))))
  b_nil) b_nil)
  (b_cons (s_asg ⟨by decide, (by kernel_rfl), .inl (by kernel_rfl)⟩ (fun _ => (by kernel_rfl)) (e_call (fun _ => (by kernel_rfl)) (e_glob _ _ 4 G.f_sub (by kernel_rfl) (by kernel_rfl)) (l_cons (fun _ => (by kernel_rfl)) (e_call (fun _ => (by kernel_rfl)) (e_glob _ _ 3 G.f_add (by kernel_rfl) (by kernel_rfl)) (l_cons (fun _ => (by kernel_rfl)) (e_var _ _ 12 (by kernel_rfl) (by kernel_rfl) (by kernel_rfl)) (l_cons (fun _ => (by kernel_rfl)) (e_call (fun _ => (by kernel_rfl)) (e_glob _ _ 8 G.f_shift_left (by kernel_rfl) (by kernel_rfl)) (l_cons (fun _ => (by kernel_rfl)) (e_var _ _ 11 (by kernel_rfl) (by kernel_rfl) (by kernel_rfl)) (l_cons (fun _ => (by kernel_rfl)) (e_int _ _ _) (l_cons (fun _ => (by kernel_rfl)) (e_var _ _ 2 (by kernel_rfl) (by kernel_rfl) (by kernel_rfl)) (l_nil _))))) (l_cons (fun _ => (by kernel_rfl)) (e_var _ _ 2 (by kernel_rfl) (by kernel_rfl) (by kernel_rfl)) (l_nil _))))) (l_cons (fun _ => (by kernel_rfl)) (e_call (fun _ => (by kernel_rfl)) (e_glob _ _ 3 G.f_add (by kernel_rfl) (by kernel_rfl)) (l_cons (fun _ => (by kernel_rfl)) (e_var _ _ 15 (by kernel_rfl) (by kernel_rfl) (by kernel_rfl)) (l_cons (fun _ => (by kernel_rfl)) (e_list _ (by decide) (l_cons (fun _ => (by kernel_rfl)) (e_int _ _ _) (l_nil _))) (l_cons (fun _ => (by kernel_rfl)) (e_var _ _ 2 (by kernel_rfl) (by kernel_rfl) (by kernel_rfl)) (l_nil _))))) (l_cons (fun _ => (by kernel_rfl)) (e_var _ _ 2 (by kernel_rfl) (by kernel_rfl) (by kernel_rfl)) (l_nil _))))))
  (b_cons (s_ret _ (e_tup _ _ (by decide) (l_cons (fun _ => (by kernel_rfl)) (e_call (fun _ => (by kernel_rfl)) (e_glob _ _ 4 G.f_sub (by kernel_rfl) (by kernel_rfl)) (l_cons (fun _ => (by kernel_rfl)) (e_var _ _ 11 (by kernel_rfl) (by kernel_rfl) (by kernel_rfl)) (l_cons (fun _ => (by kernel_rfl)) (e_list _ (by decide) (l_cons (fun _ => (by kernel_rfl)) (e_int _ _ _) (l_nil _))) (l_cons (fun _ => (by kernel_rfl)) (e_var _ _ 2 (by kernel_rfl) (by kernel_rfl) (by kernel_rfl)) (l_nil _))))) (l_cons (fun _ => (by kernel_rfl)) (e_var _ _ 12 (by kernel_rfl) (by kernel_rfl) (by kernel_rfl)) (l_nil _)))))
  b_nil)))))))))))))
theorem bind_sqrt_halves {fd : FuncData} (hp : fd.params = argsAt 21) (hd : fd.defaults = .none) (hk : fd.kwdefaults = .none) : ∀ xs : List Value, xs.length = 6 → bindArgs fd ⟨xs, []⟩ = pure ([(Str.ofString "a"), (Str.ofString "size"), (Str.ofString "w"), (Str.ofString "least"), (Str.ofString "mul"), (Str.ofString "divrem")].zip xs)
  | [v0, v1, v2, v3, v4, v5], _ => by unfold bindArgs; rw [hp, hd, hk]; kernel_rfl
theorem ok_sqrt_halves {c : Cx} (G : Facts c) (h : DefAt c.mg c.h₀ 21 (c.fa 16)) : ∃ o fd body pn Γ, FnOk c 16 f_sqrt_halves o fd body pn Γ :=
  fnOk_of (pn := [(Str.ofString "a"), (Str.ofString "size"), (Str.ofString "w"), (Str.ofString "least"), (Str.ofString "mul"), (Str.ofString "divrem")]) h (fun _ => bind_sqrt_halves) rfl (by decide +kernel) (by decide +kernel) (by decide +kernel) (by decide +kernel) (by kernel_rfl) (by kernel_rfl) (by kernel_rfl) (d_sqrt_halves G)
theorem d_sqrt_rem {c : Cx} (G : Facts c) : SndB c (scopeAt 22) [((Str.ofString "a"), 0), ((Str.ofString "w"), 1), ((Str.ofString "least"), 2), ((Str.ofString "mul"), 3), ((Str.ofString "divrem"), 4), ((Str.ofString "size"), 5), ((Str.ofString "shift"), 6), ((Str.ofString "root"), 7), ((Str.ofString "rest"), 8)] (bodyAt 22) b_sqrt_rem :=
  (b_cons (s_iff _ (t_cmp .eq _ (by kernel_rfl) (e_len G.g_len G.m_len (by kernel_rfl) (fun _ => (by kernel_rfl)) (e_var _ _ 0 (by kernel_rfl) (by kernel_rfl) (by kernel_rfl))) (e_int _ _ _)) (b_cons (s_ret _ (e_tup _ _ (by decide) (l_cons (fun _ => (by kernel_rfl)) (e_list _ (by decide) (l_nil _)) (l_cons (fun _ => (by kernel_rfl)) (e_list _ (by decide) (l_nil _)) (l_nil _)))))
  b_nil) b_nil)
  (b_cons (s_asg ⟨by decide, (by kernel_rfl), .inl (by kernel_rfl)⟩ (fun _ => (by kernel_rfl)) (e_bin .add _ (e_len G.g_len G.m_len (by kernel_rfl) (fun _ => (by kernel_rfl)) (e_var _ _ 0 (by kernel_rfl) (by kernel_rfl) (by kernel_rfl))) (e_bin .mod _ (e_len G.g_len G.m_len (by kernel_rfl) (fun _ => (by kernel_rfl)) (e_var _ _ 0 (by kernel_rfl) (by kernel_rfl) (by kernel_rfl))) (e_int _ _ _))))
  (b_cons (s_asg ⟨by decide, (by kernel_rfl), .inl (by kernel_rfl)⟩ (fun _ => (by kernel_rfl)) (e_bin .sub _ (e_bin .mul _ (e_var _ _ 5 (by kernel_rfl) (by kernel_rfl) (by kernel_rfl)) (e_var _ _ 1 (by kernel_rfl) (by kernel_rfl) (by kernel_rfl))) (e_call (fun _ => (by kernel_rfl)) (e_glob _ _ 10 G.f_bits (by kernel_rfl) (by kernel_rfl)) (l_cons (fun _ => (by kernel_rfl)) (e_var _ _ 0 (by kernel_rfl) (by kernel_rfl) (by kernel_rfl)) (l_cons (fun _ => (by kernel_rfl)) (e_var _ _ 1 (by kernel_rfl) (by kernel_rfl) (by kernel_rfl)) (l_nil _))))))
  (b_cons (s_asg ⟨by decide, (by kernel_rfl), .inl (by kernel_rfl)⟩ (fun _ => (by kernel_rfl)) (e_bin .sub _ (e_var _ _ 6 (by kernel_rfl) (by kernel_rfl) (by kernel_rfl)) (e_bin .mod _ (e_var _ _ 6 (by kernel_rfl) (by kernel_rfl) (by kernel_rfl)) (e_int _ _ _))))
  (b_cons (s_iff _ (t_cmp .eq _ (by kernel_rfl) (e_var _ _ 6 (by kernel_rfl) (by kernel_rfl) (by kernel_rfl)) (e_int _ _ _)) (b_cons (s_ret _ (e_call (fun _ => (by kernel_rfl)) (e_glob _ _ 16 G.f_sqrt_halves (by kernel_rfl) (by kernel_rfl)) (l_cons (fun _ => (by kernel_rfl)) (e_var _ _ 0 (by kernel_rfl) (by kernel_rfl) (by kernel_rfl)) (l_cons (fun _ => (by kernel_rfl)) (e_var _ _ 5 (by kernel_rfl) (by kernel_rfl) (by kernel_rfl)) (l_cons (fun _ => (by kernel_rfl)) (e_var _ _ 1 (by kernel_rfl) (by kernel_rfl) (by kernel_rfl)) (l_cons (fun _ => (by kernel_rfl)) (e_var _ _ 2 (by kernel_rfl) (by kernel_rfl) (by kernel_rfl)) (l_cons (fun _ => (by kernel_rfl)) (e_var _ _ 3 (by kernel_rfl) (by kernel_rfl) (by kernel_rfl)) (l_cons (fun _ => (by kernel_rfl)) (e_var _ _ 4 (by kernel_rfl) (by kernel_rfl) (by kernel_rfl)) (l_nil _)))))))))
  b_nil) b_nil)
  (b_cons (s_unpack (.cons (.cons .nil)) rfl (sto2 ⟨by decide, (by kernel_rfl), .inl (by kernel_rfl)⟩ ⟨by decide, (by kernel_rfl), .inl (by kernel_rfl)⟩) (fun env h => by cases env; cases h; kernel_rfl) (fun env h => by cases env; cases h; kernel_rfl) (e_call (fun _ => (by kernel_rfl)) (e_glob _ _ 16 G.f_sqrt_halves (by kernel_rfl) (by kernel_rfl)) (l_cons (fun _ => (by kernel_rfl)) (e_call (fun _ => (by kernel_rfl)) (e_glob _ _ 8 G.f_shift_left (by kernel_rfl) (by kernel_rfl)) (l_cons (fun _ => (by kernel_rfl)) (e_var _ _ 0 (by kernel_rfl) (by kernel_rfl) (by kernel_rfl)) (l_cons (fun _ => (by kernel_rfl)) (e_var _ _ 6 (by kernel_rfl) (by kernel_rfl) (by kernel_rfl)) (l_cons (fun _ => (by kernel_rfl)) (e_var _ _ 1 (by kernel_rfl) (by kernel_rfl) (by kernel_rfl)) (l_nil _))))) (l_cons (fun _ => (by kernel_rfl)) (e_var _ _ 5 (by kernel_rfl) (by kernel_rfl) (by kernel_rfl)) (l_cons (fun _ => (by kernel_rfl)) (e_var _ _ 1 (by kernel_rfl) (by kernel_rfl) (by kernel_rfl)) (l_cons (fun _ => (by kernel_rfl)) (e_var _ _ 2 (by kernel_rfl) (by kernel_rfl) (by kernel_rfl)) (l_cons (fun _ => (by kernel_rfl)) (e_var _ _ 3 (by kernel_rfl) (by kernel_rfl) (by kernel_rfl)) (l_cons (fun _ => (by kernel_rfl)) (e_var _ _ 4 (by kernel_rfl) (by kernel_rfl) (by kernel_rfl)) (l_nil _)))))))))
  (b_cons (s_asg ⟨by decide, (by kernel_rfl), .inl (by kernel_rfl)⟩ (fun _ => (by kernel_rfl)) (e_call (fun _ => (by kernel_rfl)) (e_glob _ _ 9 G.f_shift_right (by kernel_rfl) (by kernel_rfl)) (l_cons (fun _ => (by kernel_rfl)) (e_var _ _ 7 (by kernel_rfl) (by kernel_rfl) (by kernel_rfl)) (l_cons (fun _ => (by kernel_rfl)) (e_bin .fdiv _ (e_var _ _ 6 (by kernel_rfl) (by kernel_rfl) (by kernel_rfl)) (e_int _ _ _)) (l_cons (fun _ => (by kernel_rfl)) (e_var _ _ 1 (by kernel_rfl) (by kernel_rfl) (by kernel_rfl)) (l_nil _))))))
  (b_cons (s_ret _ (e_tup _ _ (by decide) (l_cons (fun _ => (by kernel_rfl)) (e_var _ _ 7 (by kernel_rfl) (by kernel_rfl) (by kernel_rfl)) (l_cons (fun _ => (by kernel_rfl)) (e_call (fun _ => (by kernel_rfl)) (e_glob _ _ 4 G.f_sub (by kernel_rfl) (by kernel_rfl)) (l_cons (fun _ => (by kernel_rfl)) (e_var _ _ 0 (by kernel_rfl) (by kernel_rfl) (by kernel_rfl)) (l_cons (fun _ => (by kernel_rfl)) (e_call (fun _ => (by kernel_rfl)) (e_var _ _ 3 (by kernel_rfl) (by kernel_rfl) (by kernel_rfl)) (l_cons (fun _ => (by kernel_rfl)) (e_var _ _ 7 (by kernel_rfl) (by kernel_rfl) (by kernel_rfl)) (l_cons (fun _ => (by kernel_rfl)) (e_var _ _ 7 (by kernel_rfl) (by kernel_rfl) (by kernel_rfl)) (l_cons (fun _ => (by kernel_rfl)) (e_var _ _ 1 (by kernel_rfl) (by kernel_rfl) (by kernel_rfl)) (l_nil _))))) (l_cons (fun _ => (by kernel_rfl)) (e_var _ _ 1 (by kernel_rfl) (by kernel_rfl) (by kernel_rfl)) (l_nil _))))) (l_nil _)))))
  b_nil))))))))
theorem bind_sqrt_rem {fd : FuncData} (hp : fd.params = argsAt 22) (hd : fd.defaults = .none) (hk : fd.kwdefaults = .none) : ∀ xs : List Value, xs.length = 5 → bindArgs fd ⟨xs, []⟩ = pure ([(Str.ofString "a"), (Str.ofString "w"), (Str.ofString "least"), (Str.ofString "mul"), (Str.ofString "divrem")].zip xs)
  | [v0, v1, v2, v3, v4], _ => by unfold bindArgs; rw [hp, hd, hk]; kernel_rfl
theorem ok_sqrt_rem {c : Cx} (G : Facts c) (h : DefAt c.mg c.h₀ 22 (c.fa 17)) : ∃ o fd body pn Γ, FnOk c 17 f_sqrt_rem o fd body pn Γ :=
  fnOk_of (pn := [(Str.ofString "a"), (Str.ofString "w"), (Str.ofString "least"), (Str.ofString "mul"), (Str.ofString "divrem")]) h (fun _ => bind_sqrt_rem) rfl (by decide +kernel) (by decide +kernel) (by decide +kernel) (by decide +kernel) (by kernel_rfl) (by kernel_rfl) (by kernel_rfl) (d_sqrt_rem G)
theorem d_mul_school {c : Cx} (G : Facts c) : SndB c (scopeAt 24) [((Str.ofString "a"), 0), ((Str.ofString "b"), 1), ((Str.ofString "w"), 2), ((Str.ofString "found"), 3), ((Str.ofString "mask"), 4), ((Str.ofString "at"), 5), ((Str.ofString "limb"), 6), ((Str.ofString "carry"), 7), ((Str.ofString "spot"), 8), ((Str.ofString "other"), 9)] (bodyAt 24) b_mul_school :=
  (b_cons (s_unpackW (xs := [(Str.ofString "found"), (Str.ofString "mask")]) rfl (sto2 ⟨by decide, (by kernel_rfl), .inl (by kernel_rfl)⟩ ⟨by decide, (by kernel_rfl), .inl (by kernel_rfl)⟩) (by decide) (fun env h => by cases env; cases h; kernel_rfl) (fun env h => by cases env; cases h; kernel_rfl) (l_cons (fun _ => (by kernel_rfl)) (e_bin .mul _ (e_list _ (by decide) (l_cons (fun _ => (by kernel_rfl)) (e_int _ _ _) (l_nil _))) (e_bin .add _ (e_len G.g_len G.m_len (by kernel_rfl) (fun _ => (by kernel_rfl)) (e_var _ _ 0 (by kernel_rfl) (by kernel_rfl) (by kernel_rfl))) (e_len G.g_len G.m_len (by kernel_rfl) (fun _ => (by kernel_rfl)) (e_var _ _ 1 (by kernel_rfl) (by kernel_rfl) (by kernel_rfl))))) (l_cons (fun _ => (by kernel_rfl)) (e_bin .sub _ (e_bin .shl _ (e_int _ _ _) (e_var _ _ 2 (by kernel_rfl) (by kernel_rfl) (by kernel_rfl))) (e_int _ _ _)) (l_nil _))))
  (b_cons (s_forEnum G.g_enumerate G.m_enumerate (by kernel_rfl) (fun _ => (by kernel_rfl)) (fun _ _ => (by kernel_rfl)) ⟨by decide, (by kernel_rfl), .inl (by kernel_rfl)⟩ ⟨by decide, (by kernel_rfl), .inl (by kernel_rfl)⟩ (e_var _ _ 0 (by kernel_rfl) (by kernel_rfl) (by kernel_rfl)) (b_cons (s_asg ⟨by decide, (by kernel_rfl), .inl (by kernel_rfl)⟩ (fun _ => (by kernel_rfl)) (e_int _ _ _))
  (b_cons (s_forEnum G.g_enumerate G.m_enumerate (by kernel_rfl) (fun _ => (by kernel_rfl)) (fun _ _ => (by kernel_rfl)) ⟨by decide, (by kernel_rfl), .inl (by kernel_rfl)⟩ ⟨by decide, (by kernel_rfl), .inl (by kernel_rfl)⟩ (e_var _ _ 1 (by kernel_rfl) (by kernel_rfl) (by kernel_rfl)) (b_cons (s_aug .add (.inl rfl) ⟨by decide, (by kernel_rfl), .inl (by kernel_rfl)⟩ (by kernel_rfl) (e_bin .add _ (e_idx _ (fun _ _ _ => (by kernel_rfl)) (e_var _ _ 3 (by kernel_rfl) (by kernel_rfl) (by kernel_rfl)) (e_bin .add _ (e_var _ _ 5 (by kernel_rfl) (by kernel_rfl) (by kernel_rfl)) (e_var _ _ 8 (by kernel_rfl) (by kernel_rfl) (by kernel_rfl)))) (e_bin .mul _ (e_var _ _ 6 (by kernel_rfl) (by kernel_rfl) (by kernel_rfl)) (e_var _ _ 9 (by kernel_rfl) (by kernel_rfl) (by kernel_rfl)))))
  (b_cons (s_setidx _ _ (fun _ => (by kernel_rfl)) (e_var _ _ 3 (by kernel_rfl) (by kernel_rfl) (by kernel_rfl)) (e_bin .add _ (e_var _ _ 5 (by kernel_rfl) (by kernel_rfl) (by kernel_rfl)) (e_var _ _ 8 (by kernel_rfl) (by kernel_rfl) (by kernel_rfl))) (e_bin .band _ (e_var _ _ 7 (by kernel_rfl) (by kernel_rfl) (by kernel_rfl)) (e_var _ _ 4 (by kernel_rfl) (by kernel_rfl) (by kernel_rfl))))
  (b_cons (s_aug .shr (.inr (.inr (.inl rfl))) ⟨by decide, (by kernel_rfl), .inl (by kernel_rfl)⟩ (by kernel_rfl) (e_var _ _ 2 (by kernel_rfl) (by kernel_rfl) (by kernel_rfl)))
  b_nil))))
  (b_cons (s_setidx _ _ (fun _ => (by kernel_rfl)) (e_var _ _ 3 (by kernel_rfl) (by kernel_rfl) (by kernel_rfl)) (e_bin .add _ (e_var _ _ 5 (by kernel_rfl) (by kernel_rfl) (by kernel_rfl)) (e_len G.g_len G.m_len (by kernel_rfl) (fun _ => (by kernel_rfl)) (e_var _ _ 1 (by kernel_rfl) (by kernel_rfl) (by kernel_rfl)))) (e_var _ _ 7 (by kernel_rfl) (by kernel_rfl) (by kernel_rfl)))
  b_nil))))
  (b_cons (s_ret _ (e_call (fun _ => (by kernel_rfl)) (e_glob _ _ 0 G.f_normal (by kernel_rfl) (by kernel_rfl)) (l_cons (fun _ => (by kernel_rfl)) (e_var _ _ 3 (by kernel_rfl) (by kernel_rfl) (by kernel_rfl)) (l_nil _))))
  b_nil)))
theorem bind_mul_school {fd : FuncData} (hp : fd.params = argsAt 24) (hd : fd.defaults = .none) (hk : fd.kwdefaults = .none) : ∀ xs : List Value, xs.length = 3 → bindArgs fd ⟨xs, []⟩ = pure ([(Str.ofString "a"), (Str.ofString "b"), (Str.ofString "w")].zip xs)
  | [v0, v1, v2], _ => by unfold bindArgs; rw [hp, hd, hk]; kernel_rfl
theorem ok_mul_school {c : Cx} (G : Facts c) (h : DefAt c.mg c.h₀ 24 (c.fa 18)) : ∃ o fd body pn Γ, FnOk c 18 f_mul_school o fd body pn Γ :=
  fnOk_of (pn := [(Str.ofString "a"), (Str.ofString "b"), (Str.ofString "w")]) h (fun _ => bind_mul_school) rfl (by decide +kernel) (by decide +kernel) (by decide +kernel) (by decide +kernel) (by kernel_rfl) (by kernel_rfl) (by kernel_rfl) (d_mul_school G)
theorem d_divrem_small {c : Cx} (G : Facts c) : SndB c (scopeAt 25) [((Str.ofString "a"), 0), ((Str.ofString "b"), 1), ((Str.ofString "w"), 2), ((Str.ofString "quotient"), 3), ((Str.ofString "rest"), 4)] (bodyAt 25) b_divrem_small :=
  (b_cons (s_unpack (.cons (.cons .nil)) rfl (sto2 ⟨by decide, (by kernel_rfl), .inl (by kernel_rfl)⟩ ⟨by decide, (by kernel_rfl), .inl (by kernel_rfl)⟩) (fun env h => by cases env; cases h; kernel_rfl) (fun env h => by cases env; cases h; kernel_rfl) (e_call (fun _ => (by kernel_rfl)) (e_glob _ _ 7 G.f_divrem_limb (by kernel_rfl) (by kernel_rfl)) (l_cons (fun _ => (by kernel_rfl)) (e_var _ _ 0 (by kernel_rfl) (by kernel_rfl) (by kernel_rfl)) (l_cons (fun _ => (by kernel_rfl)) (e_idx _ (fun _ _ _ => (by kernel_rfl)) (e_var _ _ 1 (by kernel_rfl) (by kernel_rfl) (by kernel_rfl)) (e_int _ _ _)) (l_cons (fun _ => (by kernel_rfl)) (e_var _ _ 2 (by kernel_rfl) (by kernel_rfl) (by kernel_rfl)) (l_nil _))))))
  (b_cons (s_ret _ (e_tup _ _ (by decide) (l_cons (fun _ => (by kernel_rfl)) (e_var _ _ 3 (by kernel_rfl) (by kernel_rfl) (by kernel_rfl)) (l_cons (fun _ => (by kernel_rfl)) (e_ite _ (t_cmp .gt _ (by kernel_rfl) (e_var _ _ 4 (by kernel_rfl) (by kernel_rfl) (by kernel_rfl)) (e_int _ _ _)) (e_list _ (by decide) (l_cons (fun _ => (by kernel_rfl)) (e_var _ _ 4 (by kernel_rfl) (by kernel_rfl) (by kernel_rfl)) (l_nil _))) (e_list _ (by decide) (l_nil _))) (l_nil _)))))
  b_nil))
theorem bind_divrem_small {fd : FuncData} (hp : fd.params = argsAt 25) (hd : fd.defaults = .none) (hk : fd.kwdefaults = .none) : ∀ xs : List Value, xs.length = 3 → bindArgs fd ⟨xs, []⟩ = pure ([(Str.ofString "a"), (Str.ofString "b"), (Str.ofString "w")].zip xs)
  | [v0, v1, v2], _ => by unfold bindArgs; rw [hp, hd, hk]; kernel_rfl
theorem ok_divrem_small {c : Cx} (G : Facts c) (h : DefAt c.mg c.h₀ 25 (c.fa 19)) : ∃ o fd body pn Γ, FnOk c 19 f_divrem_small o fd body pn Γ :=
  fnOk_of (pn := [(Str.ofString "a"), (Str.ofString "b"), (Str.ofString "w")]) h (fun _ => bind_divrem_small) rfl (by decide +kernel) (by decide +kernel) (by decide +kernel) (by decide +kernel) (by kernel_rfl) (by kernel_rfl) (by kernel_rfl) (d_divrem_small G)
theorem d_guessed_limb {c : Cx} (G : Facts c) : SndB c (scopeAt 26) [((Str.ofString "top"), 0), ((Str.ofString "first"), 1), ((Str.ofString "second"), 2), ((Str.ofString "w"), 3), ((Str.ofString "high"), 4), ((Str.ofString "base"), 5), ((Str.ofString "limb"), 6), ((Str.ofString "rest"), 7)] (bodyAt 26) b_guessed_limb :=
  (b_cons (s_unpackW (xs := [(Str.ofString "high"), (Str.ofString "base")]) rfl (sto2 ⟨by decide, (by kernel_rfl), .inl (by kernel_rfl)⟩ ⟨by decide, (by kernel_rfl), .inl (by kernel_rfl)⟩) (by decide) (fun env h => by cases env; cases h; kernel_rfl) (fun env h => by cases env; cases h; kernel_rfl) (l_cons (fun _ => (by kernel_rfl)) (e_bin .bor _ (e_bin .shl _ (e_idx _ (fun _ _ _ => (by kernel_rfl)) (e_var _ _ 0 (by kernel_rfl) (by kernel_rfl) (by kernel_rfl)) (e_int _ _ _)) (e_var _ _ 3 (by kernel_rfl) (by kernel_rfl) (by kernel_rfl))) (e_idx _ (fun _ _ _ => (by kernel_rfl)) (e_var _ _ 0 (by kernel_rfl) (by kernel_rfl) (by kernel_rfl)) (e_int _ _ _))) (l_cons (fun _ => (by kernel_rfl)) (e_bin .shl _ (e_int _ _ _) (e_var _ _ 3 (by kernel_rfl) (by kernel_rfl) (by kernel_rfl))) (l_nil _))))
  (b_cons (s_asg ⟨by decide, (by kernel_rfl), .inl (by kernel_rfl)⟩ (fun _ => (by kernel_rfl)) (e_min G.g_min G.m_min (by kernel_rfl) (fun _ => (by kernel_rfl)) (fun _ => (by kernel_rfl)) (e_bin .fdiv _ (e_var _ _ 4 (by kernel_rfl) (by kernel_rfl) (by kernel_rfl)) (e_var _ _ 1 (by kernel_rfl) (by kernel_rfl) (by kernel_rfl))) (e_bin .sub _ (e_var _ _ 5 (by kernel_rfl) (by kernel_rfl) (by kernel_rfl)) (e_int _ _ _))))
  (b_cons (s_asg ⟨by decide, (by kernel_rfl), .inl (by kernel_rfl)⟩ (fun _ => (by kernel_rfl)) (e_bin .sub _ (e_var _ _ 4 (by kernel_rfl) (by kernel_rfl) (by kernel_rfl)) (e_bin .mul _ (e_var _ _ 6 (by kernel_rfl) (by kernel_rfl) (by kernel_rfl)) (e_var _ _ 1 (by kernel_rfl) (by kernel_rfl) (by kernel_rfl)))))
  (b_cons (s_while _ (t_and _ (t_cmp .lt _ (by kernel_rfl) (e_var _ _ 7 (by kernel_rfl) (by kernel_rfl) (by kernel_rfl)) (e_var _ _ 5 (by kernel_rfl) (by kernel_rfl) (by kernel_rfl))) (t_and1 _ (t_cmp .gt _ (by kernel_rfl) (e_bin .mul _ (e_var _ _ 6 (by kernel_rfl) (by kernel_rfl) (by kernel_rfl)) (e_var _ _ 2 (by kernel_rfl) (by kernel_rfl) (by kernel_rfl))) (e_bin .bor _ (e_bin .shl _ (e_var _ _ 7 (by kernel_rfl) (by kernel_rfl) (by kernel_rfl)) (e_var _ _ 3 (by kernel_rfl) (by kernel_rfl) (by kernel_rfl))) (e_idx _ (fun _ _ _ => (by kernel_rfl)) (e_var _ _ 0 (by kernel_rfl) (by kernel_rfl) (by kernel_rfl)) (e_int _ _ _)))))) (b_cons (s_aug .sub (.inr (.inl rfl)) ⟨by decide, (by kernel_rfl), .inl (by kernel_rfl)⟩ (by kernel_rfl) (e_int _ _ _))
  (b_cons (s_aug .add (.inl rfl) ⟨by decide, (by kernel_rfl), .inl (by kernel_rfl)⟩ (by kernel_rfl) (e_var _ _ 1 (by kernel_rfl) (by kernel_rfl) (by kernel_rfl)))
  b_nil)))
  (b_cons (s_ret _ (e_var _ _ 6 (by kernel_rfl) (by kernel_rfl) (by kernel_rfl)))
  b_nil)))))
theorem bind_guessed_limb {fd : FuncData} (hp : fd.params = argsAt 26) (hd : fd.defaults = .none) (hk : fd.kwdefaults = .none) : ∀ xs : List Value, xs.length = 4 → bindArgs fd ⟨xs, []⟩ = pure ([(Str.ofString "top"), (Str.ofString "first"), (Str.ofString "second"), (Str.ofString "w")].zip xs)
  | [v0, v1, v2, v3], _ => by unfold bindArgs; rw [hp, hd, hk]; kernel_rfl
theorem ok_guessed_limb {c : Cx} (G : Facts c) (h : DefAt c.mg c.h₀ 26 (c.fa 20)) : ∃ o fd body pn Γ, FnOk c 20 f_guessed_limb o fd body pn Γ :=
  fnOk_of (pn := [(Str.ofString "top"), (Str.ofString "first"), (Str.ofString "second"), (Str.ofString "w")]) h (fun _ => bind_guessed_limb) rfl (by decide +kernel) (by decide +kernel) (by decide +kernel) (by decide +kernel) (by kernel_rfl) (by kernel_rfl) (by kernel_rfl) (d_guessed_limb G)
theorem d_take_away {c : Cx} (G : Facts c) : SndB c (scopeAt 27) [((Str.ofString "rest"), 0), ((Str.ofString "b"), 1), ((Str.ofString "limb"), 2), ((Str.ofString "at"), 3), ((Str.ofString "w"), 4), ((Str.ofString "carry"), 5), ((Str.ofString "base"), 6), ((Str.ofString "spot"), 7), ((Str.ofString "other"), 8), ((Str.ofString "here"), 9)] (bodyAt 27) b_take_away :=
  (b_cons (s_unpackW (xs := [(Str.ofString "carry"), (Str.ofString "base")]) rfl (sto2 ⟨by decide, (by kernel_rfl), .inl (by kernel_rfl)⟩ ⟨by decide, (by kernel_rfl), .inl (by kernel_rfl)⟩) (by decide) (fun env h => by cases env; cases h; kernel_rfl) (fun env h => by cases env; cases h; kernel_rfl) (l_cons (fun _ => (by kernel_rfl)) (e_int _ _ _) (l_cons (fun _ => (by kernel_rfl)) (e_bin .shl _ (e_int _ _ _) (e_var _ _ 4 (by kernel_rfl) (by kernel_rfl) (by kernel_rfl))) (l_nil _))))
  (b_cons (s_forEnum G.g_enumerate G.m_enumerate (by kernel_rfl) (fun _ => (by kernel_rfl)) (fun _ _ => (by kernel_rfl)) ⟨by decide, (by kernel_rfl), .inl (by kernel_rfl)⟩ ⟨by decide, (by kernel_rfl), .inl (by kernel_rfl)⟩ (e_var _ _ 1 (by kernel_rfl) (by kernel_rfl) (by kernel_rfl)) (b_cons (s_asg ⟨by decide, (by kernel_rfl), .inl (by kernel_rfl)⟩ (fun _ => (by kernel_rfl)) (e_bin .sub _ (e_idx _ (fun _ _ _ => (by kernel_rfl)) (e_var _ _ 0 (by kernel_rfl) (by kernel_rfl) (by kernel_rfl)) (e_bin .add _ (e_var _ _ 3 (by kernel_rfl) (by kernel_rfl) (by kernel_rfl)) (e_var _ _ 7 (by kernel_rfl) (by kernel_rfl) (by kernel_rfl)))) (e_bin .mod _ (e_bin .add _ (e_bin .mul _ (e_var _ _ 2 (by kernel_rfl) (by kernel_rfl) (by kernel_rfl)) (e_var _ _ 8 (by kernel_rfl) (by kernel_rfl) (by kernel_rfl))) (e_var _ _ 5 (by kernel_rfl) (by kernel_rfl) (by kernel_rfl))) (e_var _ _ 6 (by kernel_rfl) (by kernel_rfl) (by kernel_rfl)))))
  (b_cons (s_asg ⟨by decide, (by kernel_rfl), .inl (by kernel_rfl)⟩ (fun _ => (by kernel_rfl)) (e_bin .add _ (e_bin .fdiv _ (e_bin .add _ (e_bin .mul _ (e_var _ _ 2 (by kernel_rfl) (by kernel_rfl) (by kernel_rfl)) (e_var _ _ 8 (by kernel_rfl) (by kernel_rfl) (by kernel_rfl))) (e_var _ _ 5 (by kernel_rfl) (by kernel_rfl) (by kernel_rfl))) (e_var _ _ 6 (by kernel_rfl) (by kernel_rfl) (by kernel_rfl))) (e_ite _ (t_cmp .lt _ (by kernel_rfl) (e_var _ _ 9 (by kernel_rfl) (by kernel_rfl) (by kernel_rfl)) (e_int _ _ _)) (e_int _ _ _) (e_int _ _ _))))
  (b_cons (s_setidx _ _ (fun _ => (by kernel_rfl)) (e_var _ _ 0 (by kernel_rfl) (by kernel_rfl) (by kernel_rfl)) (e_bin .add _ (e_var _ _ 3 (by kernel_rfl) (by kernel_rfl) (by kernel_rfl)) (e_var _ _ 7 (by kernel_rfl) (by kernel_rfl) (by kernel_rfl))) (e_ite _ (t_cmp .lt _ (by kernel_rfl) (e_var _ _ 9 (by kernel_rfl) (by kernel_rfl) (by kernel_rfl)) (e_int _ _ _)) (e_bin .add _ (e_var _ _ 9 (by kernel_rfl) (by kernel_rfl) (by kernel_rfl)) (e_var _ _ 6 (by kernel_rfl) (by kernel_rfl) (by kernel_rfl))) (e_var _ _ 9 (by kernel_rfl) (by kernel_rfl) (by kernel_rfl))))
  b_nil))))
  (b_cons (s_asg ⟨by decide, (by kernel_rfl), .inl (by kernel_rfl)⟩ (fun _ => (by kernel_rfl)) (e_bin .sub _ (e_idx _ (fun _ _ _ => (by kernel_rfl)) (e_var _ _ 0 (by kernel_rfl) (by kernel_rfl) (by kernel_rfl)) (e_bin .add _ (e_var _ _ 3 (by kernel_rfl) (by kernel_rfl) (by kernel_rfl)) (e_len G.g_len G.m_len (by kernel_rfl) (fun _ => (by kernel_rfl)) (e_var _ _ 1 (by kernel_rfl) (by kernel_rfl) (by kernel_rfl))))) (e_var _ _ 5 (by kernel_rfl) (by kernel_rfl) (by kernel_rfl))))
  (b_cons (s_setidx _ _ (fun _ => (by kernel_rfl)) (e_var _ _ 0 (by kernel_rfl) (by kernel_rfl) (by kernel_rfl)) (e_bin .add _ (e_var _ _ 3 (by kernel_rfl) (by kernel_rfl) (by kernel_rfl)) (e_len G.g_len G.m_len (by kernel_rfl) (fun _ => (by kernel_rfl)) (e_var _ _ 1 (by kernel_rfl) (by kernel_rfl) (by kernel_rfl)))) (e_ite _ (t_cmp .lt _ (by kernel_rfl) (e_var _ _ 9 (by kernel_rfl) (by kernel_rfl) (by kernel_rfl)) (e_int _ _ _)) (e_bin .add _ (e_var _ _ 9 (by kernel_rfl) (by kernel_rfl) (by kernel_rfl)) (e_var _ _ 6 (by kernel_rfl) (by kernel_rfl) (by kernel_rfl))) (e_var _ _ 9 (by kernel_rfl) (by kernel_rfl) (by kernel_rfl))))
  (b_cons (s_ret _ (e_ite _ (t_cmp .lt _ (by kernel_rfl) (e_var _ _ 9 (by kernel_rfl) (by kernel_rfl) (by kernel_rfl)) (e_int _ _ _)) (e_int _ _ _) (e_int _ _ _)))
  b_nil)))))
theorem bind_take_away {fd : FuncData} (hp : fd.params = argsAt 27) (hd : fd.defaults = .none) (hk : fd.kwdefaults = .none) : ∀ xs : List Value, xs.length = 5 → bindArgs fd ⟨xs, []⟩ = pure ([(Str.ofString "rest"), (Str.ofString "b"), (Str.ofString "limb"), (Str.ofString "at"), (Str.ofString "w")].zip xs)
  | [v0, v1, v2, v3, v4], _ => by unfold bindArgs; rw [hp, hd, hk]; kernel_rfl
theorem ok_take_away {c : Cx} (G : Facts c) (h : DefAt c.mg c.h₀ 27 (c.fa 21)) : ∃ o fd body pn Γ, FnOk c 21 f_take_away o fd body pn Γ :=
  fnOk_of (pn := [(Str.ofString "rest"), (Str.ofString "b"), (Str.ofString "limb"), (Str.ofString "at"), (Str.ofString "w")]) h (fun _ => bind_take_away) rfl (by decide +kernel) (by decide +kernel) (by decide +kernel) (by decide +kernel) (by kernel_rfl) (by kernel_rfl) (by kernel_rfl) (d_take_away G)
theorem d_put_back {c : Cx} (G : Facts c) : SndB c (scopeAt 28) [((Str.ofString "rest"), 0), ((Str.ofString "b"), 1), ((Str.ofString "at"), 2), ((Str.ofString "w"), 3), ((Str.ofString "carry"), 4), ((Str.ofString "mask"), 5), ((Str.ofString "spot"), 6), ((Str.ofString "other"), 7)] (bodyAt 28) b_put_back :=
  (b_cons (s_unpackW (xs := [(Str.ofString "carry"), (Str.ofString "mask")]) rfl (sto2 ⟨by decide, (by kernel_rfl), .inl (by kernel_rfl)⟩ ⟨by decide, (by kernel_rfl), .inl (by kernel_rfl)⟩) (by decide) (fun env h => by cases env; cases h; kernel_rfl) (fun env h => by cases env; cases h; kernel_rfl) (l_cons (fun _ => (by kernel_rfl)) (e_int _ _ _) (l_cons (fun _ => (by kernel_rfl)) (e_bin .sub _ (e_bin .shl _ (e_int _ _ _) (e_var _ _ 3 (by kernel_rfl) (by kernel_rfl) (by kernel_rfl))) (e_int _ _ _)) (l_nil _))))
  (b_cons (s_forEnum G.g_enumerate G.m_enumerate (by kernel_rfl) (fun _ => (by kernel_rfl)) (fun _ _ => (by kernel_rfl)) ⟨by decide, (by kernel_rfl), .inl (by kernel_rfl)⟩ ⟨by decide, (by kernel_rfl), .inl (by kernel_rfl)⟩ (e_var _ _ 1 (by kernel_rfl) (by kernel_rfl) (by kernel_rfl)) (b_cons (s_aug .add (.inl rfl) ⟨by decide, (by kernel_rfl), .inl (by kernel_rfl)⟩ (by kernel_rfl) (e_bin .add _ (e_idx _ (fun _ _ _ => (by kernel_rfl)) (e_var _ _ 0 (by kernel_rfl) (by kernel_rfl) (by kernel_rfl)) (e_bin .add _ (e_var _ _ 2 (by kernel_rfl) (by kernel_rfl) (by kernel_rfl)) (e_var _ _ 6 (by kernel_rfl) (by kernel_rfl) (by kernel_rfl)))) (e_var _ _ 7 (by kernel_rfl) (by kernel_rfl) (by kernel_rfl))))
  (b_cons (s_setidx _ _ (fun _ => (by kernel_rfl)) (e_var _ _ 0 (by kernel_rfl) (by kernel_rfl) (by kernel_rfl)) (e_bin .add _ (e_var _ _ 2 (by kernel_rfl) (by kernel_rfl) (by kernel_rfl)) (e_var _ _ 6 (by kernel_rfl) (by kernel_rfl) (by kernel_rfl))) (e_bin .band _ (e_var _ _ 4 (by kernel_rfl) (by kernel_rfl) (by kernel_rfl)) (e_var _ _ 5 (by kernel_rfl) (by kernel_rfl) (by kernel_rfl))))
  (b_cons (s_aug .shr (.inr (.inr (.inl rfl))) ⟨by decide, (by kernel_rfl), .inl (by kernel_rfl)⟩ (by kernel_rfl) (e_var _ _ 3 (by kernel_rfl) (by kernel_rfl) (by kernel_rfl)))
  b_nil))))
  (b_cons (s_setidx _ _ (fun _ => (by kernel_rfl)) (e_var _ _ 0 (by kernel_rfl) (by kernel_rfl) (by kernel_rfl)) (e_bin .add _ (e_var _ _ 2 (by kernel_rfl) (by kernel_rfl) (by kernel_rfl)) (e_len G.g_len G.m_len (by kernel_rfl) (fun _ => (by kernel_rfl)) (e_var _ _ 1 (by kernel_rfl) (by kernel_rfl) (by kernel_rfl)))) (e_bin .band _ (e_bin .add _ (e_idx _ (fun _ _ _ => (by kernel_rfl)) (e_var _ _ 0 (by kernel_rfl) (by kernel_rfl) (by kernel_rfl)) (e_bin .add _ (e_var _ _ 2 (by kernel_rfl) (by kernel_rfl) (by kernel_rfl)) (e_len G.g_len G.m_len (by kernel_rfl) (fun _ => (by kernel_rfl)) (e_var _ _ 1 (by kernel_rfl) (by kernel_rfl) (by kernel_rfl))))) (e_var _ _ 4 (by kernel_rfl) (by kernel_rfl) (by kernel_rfl))) (e_var _ _ 5 (by kernel_rfl) (by kernel_rfl) (by kernel_rfl))))
  b_nil)))
theorem bind_put_back {fd : FuncData} (hp : fd.params = argsAt 28) (hd : fd.defaults = .none) (hk : fd.kwdefaults = .none) : ∀ xs : List Value, xs.length = 4 → bindArgs fd ⟨xs, []⟩ = pure ([(Str.ofString "rest"), (Str.ofString "b"), (Str.ofString "at"), (Str.ofString "w")].zip xs)
  | [v0, v1, v2, v3], _ => by unfold bindArgs; rw [hp, hd, hk]; kernel_rfl
theorem ok_put_back {c : Cx} (G : Facts c) (h : DefAt c.mg c.h₀ 28 (c.fa 22)) : ∃ o fd body pn Γ, FnOk c 22 f_put_back o fd body pn Γ :=
  fnOk_of (pn := [(Str.ofString "rest"), (Str.ofString "b"), (Str.ofString "at"), (Str.ofString "w")]) h (fun _ => bind_put_back) rfl (by decide +kernel) (by decide +kernel) (by decide +kernel) (by decide +kernel) (by kernel_rfl) (by kernel_rfl) (by kernel_rfl) (d_put_back G)
theorem d_divide_rows {c : Cx} (G : Facts c) : SndB c (scopeAt 29) [((Str.ofString "rest"), 0), ((Str.ofString "b"), 1), ((Str.ofString "w"), 2), ((Str.ofString "size"), 3), ((Str.ofString "quotient"), 4), ((Str.ofString "at"), 5), ((Str.ofString "limb"), 6)] (bodyAt 29) b_divide_rows :=
  (b_cons (s_asg ⟨by decide, (by kernel_rfl), .inl (by kernel_rfl)⟩ (fun _ => (by kernel_rfl)) (e_len G.g_len G.m_len (by kernel_rfl) (fun _ => (by kernel_rfl)) (e_var _ _ 1 (by kernel_rfl) (by kernel_rfl) (by kernel_rfl))))
  (b_cons (s_asg ⟨by decide, (by kernel_rfl), .inl (by kernel_rfl)⟩ (fun _ => (by kernel_rfl)) (e_bin .mul _ (e_list _ (by decide) (l_cons (fun _ => (by kernel_rfl)) (e_int _ _ _) (l_nil _))) (e_bin .sub _ (e_len G.g_len G.m_len (by kernel_rfl) (fun _ => (by kernel_rfl)) (e_var _ _ 0 (by kernel_rfl) (by kernel_rfl) (by kernel_rfl))) (e_var _ _ 3 (by kernel_rfl) (by kernel_rfl) (by kernel_rfl)))))
  (b_cons (s_for3 G.g_range G.m_range (by kernel_rfl) (fun _ => (by kernel_rfl)) (fun _ => (by kernel_rfl)) (fun _ => (by kernel_rfl)) (fun _ _ => (by kernel_rfl)) ⟨by decide, (by kernel_rfl), .inl (by kernel_rfl)⟩ (e_bin .sub _ (e_bin .sub _ (e_len G.g_len G.m_len (by kernel_rfl) (fun _ => (by kernel_rfl)) (e_var _ _ 0 (by kernel_rfl) (by kernel_rfl) (by kernel_rfl))) (e_var _ _ 3 (by kernel_rfl) (by kernel_rfl) (by kernel_rfl))) (e_int _ _ _)) (e_neg _ (e_int _ _ _)) (e_neg _ (e_int _ _ _)) (b_cons (s_asg ⟨by decide, (by kernel_rfl), .inl (by kernel_rfl)⟩ (fun _ => (by kernel_rfl)) (e_call (fun _ => (by kernel_rfl)) (e_glob _ _ 20 G.f_guessed_limb (by kernel_rfl) (by kernel_rfl)) (l_cons (fun _ => (by kernel_rfl)) (e_slice_ss _ _ (fun _ _ => (by kernel_rfl)) (e_var _ _ 0 (by kernel_rfl) (by kernel_rfl) (by kernel_rfl)) (e_bin .sub _ (e_bin .add _ (e_var _ _ 5 (by kernel_rfl) (by kernel_rfl) (by kernel_rfl)) (e_var _ _ 3 (by kernel_rfl) (by kernel_rfl) (by kernel_rfl))) (e_int _ _ _)) (e_bin .add _ (e_bin .add _ (e_var _ _ 5 (by kernel_rfl) (by kernel_rfl) (by kernel_rfl)) (e_var _ _ 3 (by kernel_rfl) (by kernel_rfl) (by kernel_rfl))) (e_int _ _ _))) (l_cons (fun _ => (by kernel_rfl)) (e_idx _ (fun _ _ _ => (by kernel_rfl)) (e_var _ _ 1 (by kernel_rfl) (by kernel_rfl) (by kernel_rfl)) (e_bin .sub _ (e_var _ _ 3 (by kernel_rfl) (by kernel_rfl) (by kernel_rfl)) (e_int _ _ _))) (l_cons (fun _ => (by kernel_rfl)) (e_idx _ (fun _ _ _ => (by kernel_rfl)) (e_var _ _ 1 (by kernel_rfl) (by kernel_rfl) (by kernel_rfl)) (e_bin .sub _ (e_var _ _ 3 (by kernel_rfl) (by kernel_rfl) (by kernel_rfl)) (e_int _ _ _))) (l_cons (fun _ => (by kernel_rfl)) (e_var _ _ 2 (by kernel_rfl) (by kernel_rfl) (by kernel_rfl)) (l_nil _)))))))
  (b_cons (s_iff _ (t_cmp .eq _ (by kernel_rfl) (e_call (fun _ => (by kernel_rfl)) (e_glob _ _ 21 G.f_take_away (by kernel_rfl) (by kernel_rfl)) (l_cons (fun _ => (by kernel_rfl)) (e_var _ _ 0 (by kernel_rfl) (by kernel_rfl) (by kernel_rfl)) (l_cons (fun _ => (by kernel_rfl)) (e_var _ _ 1 (by kernel_rfl) (by kernel_rfl) (by kernel_rfl)) (l_cons (fun _ => (by kernel_rfl)) (e_var _ _ 6 (by kernel_rfl) (by kernel_rfl) (by kernel_rfl)) (l_cons (fun _ => (by kernel_rfl)) (e_var _ _ 5 (by kernel_rfl) (by kernel_rfl) (by kernel_rfl)) (l_cons (fun _ => (by kernel_rfl)) (e_var _ _ 2 (by kernel_rfl) (by kernel_rfl) (by kernel_rfl)) (l_nil _))))))) (e_int _ _ _)) (b_cons (s_aug .sub (.inr (.inl rfl)) ⟨by decide, (by kernel_rfl), .inl (by kernel_rfl)⟩ (by kernel_rfl) (e_int _ _ _))
  (b_cons (s_expr _ (fun _ => (by kernel_rfl)) (e_call (fun _ => (by kernel_rfl)) (e_glob _ _ 22 G.f_put_back (by kernel_rfl) (by kernel_rfl)) (l_cons (fun _ => (by kernel_rfl)) (e_var _ _ 0 (by kernel_rfl) (by kernel_rfl) (by kernel_rfl)) (l_cons (fun _ => (by kernel_rfl)) (e_var _ _ 1 (by kernel_rfl) (by kernel_rfl) (by kernel_rfl)) (l_cons (fun _ => (by kernel_rfl)) (e_var _ _ 5 (by kernel_rfl) (by kernel_rfl) (by kernel_rfl)) (l_cons (fun _ => (by kernel_rfl)) (e_var _ _ 2 (by kernel_rfl) (by kernel_rfl) (by kernel_rfl)) (l_nil _)))))))
  b_nil)) b_nil)
  (b_cons (s_setidx _ _ (fun _ => (by kernel_rfl)) (e_var _ _ 4 (by kernel_rfl) (by kernel_rfl) (by kernel_rfl)) (e_var _ _ 5 (by kernel_rfl) (by kernel_rfl) (by kernel_rfl)) (e_var _ _ 6 (by kernel_rfl) (by kernel_rfl) (by kernel_rfl)))
  b_nil))))
  (b_cons (s_ret _ (e_var _ _ 4 (by kernel_rfl) (by kernel_rfl) (by kernel_rfl)))
  b_nil))))
theorem bind_divide_rows {fd : FuncData} (hp : fd.params = argsAt 29) (hd : fd.defaults = .none) (hk : fd.kwdefaults = .none) : ∀ xs : List Value, xs.length = 3 → bindArgs fd ⟨xs, []⟩ = pure ([(Str.ofString "rest"), (Str.ofString "b"), (Str.ofString "w")].zip xs)
  | [v0, v1, v2], _ => by unfold bindArgs; rw [hp, hd, hk]; kernel_rfl
theorem ok_divide_rows {c : Cx} (G : Facts c) (h : DefAt c.mg c.h₀ 29 (c.fa 23)) : ∃ o fd body pn Γ, FnOk c 23 f_divide_rows o fd body pn Γ :=
  fnOk_of (pn := [(Str.ofString "rest"), (Str.ofString "b"), (Str.ofString "w")]) h (fun _ => bind_divide_rows) rfl (by decide +kernel) (by decide +kernel) (by decide +kernel) (by decide +kernel) (by kernel_rfl) (by kernel_rfl) (by kernel_rfl) (d_divide_rows G)
theorem d_divrem_school {c : Cx} (G : Facts c) : SndB c (scopeAt 30) [((Str.ofString "a"), 0), ((Str.ofString "b"), 1), ((Str.ofString "w"), 2), ((Str.ofString "shift"), 3), ((Str.ofString "divisor"), 4), ((Str.ofString "rest"), 5), ((Str.ofString "quotient"), 6)] (bodyAt 30) b_divrem_school :=
  (b_cons (s_iff _ (t_cmp .eq _ (by kernel_rfl) (e_len G.g_len G.m_len (by kernel_rfl) (fun _ => (by kernel_rfl)) (e_var _ _ 1 (by kernel_rfl) (by kernel_rfl) (by kernel_rfl))) (e_int _ _ _)) (b_cons (s_fail _)
  b_nil) b_nil)
  (b_cons (s_iff _ (t_cmp .lt _ (by kernel_rfl) (e_call (fun _ => (by kernel_rfl)) (e_glob _ _ 2 G.f_compare (by kernel_rfl) (by kernel_rfl)) (l_cons (fun _ => (by kernel_rfl)) (e_var _ _ 0 (by kernel_rfl) (by kernel_rfl) (by kernel_rfl)) (l_cons (fun _ => (by kernel_rfl)) (e_var _ _ 1 (by kernel_rfl) (by kernel_rfl) (by kernel_rfl)) (l_nil _)))) (e_int _ _ _)) (b_cons (s_ret _ (e_tup _ _ (by decide) (l_cons (fun _ => (by kernel_rfl)) (e_list _ (by decide) (l_nil _)) (l_cons (fun _ => (by kernel_rfl)) (e_slice_nn _ _ (fun _ _ => (by kernel_rfl)) (e_var _ _ 0 (by kernel_rfl) (by kernel_rfl) (by kernel_rfl))) (l_nil _)))))
  b_nil) b_nil)
  (b_cons (s_iff _ (t_cmp .eq _ (by kernel_rfl) (e_len G.g_len G.m_len (by kernel_rfl) (fun _ => (by kernel_rfl)) (e_var _ _ 1 (by kernel_rfl) (by kernel_rfl) (by kernel_rfl))) (e_int _ _ _)) (b_cons (s_ret _ (e_call (fun _ => (by kernel_rfl)) (e_glob _ _ 19 G.f_divrem_small (by kernel_rfl) (by kernel_rfl)) (l_cons (fun _ => (by kernel_rfl)) (e_var _ _ 0 (by kernel_rfl) (by kernel_rfl) (by kernel_rfl)) (l_cons (fun _ => (by kernel_rfl)) (e_var _ _ 1 (by kernel_rfl) (by kernel_rfl) (by kernel_rfl)) (l_cons (fun _ => (by kernel_rfl)) (e_var _ _ 2 (by kernel_rfl) (by kernel_rfl) (by kernel_rfl)) (l_nil _))))))
  b_nil) b_nil)
  (b_cons (s_asg ⟨by decide, (by kernel_rfl), .inl (by kernel_rfl)⟩ (fun _ => (by kernel_rfl)) (e_bin .sub _ (e_var _ _ 2 (by kernel_rfl) (by kernel_rfl) (by kernel_rfl)) (e_call (fun _ => (by kernel_rfl)) (e_glob _ _ 10 G.f_bits (by kernel_rfl) (by kernel_rfl)) (l_cons (fun _ => (by kernel_rfl)) (e_list _ (by decide) (l_cons (fun _ => (by kernel_rfl)) (e_idx _ (fun _ _ _ => (by kernel_rfl)) (e_var _ _ 1 (by kernel_rfl) (by kernel_rfl) (by kernel_rfl)) (e_neg _ (e_int _ _ _))) (l_nil _))) (l_cons (fun _ => (by kernel_rfl)) (e_var _ _ 2 (by kernel_rfl) (by kernel_rfl) (by kernel_rfl)) (l_nil _))))))
  (b_cons (s_asg ⟨by decide, (by kernel_rfl), .inl (by kernel_rfl)⟩ (fun _ => (by kernel_rfl)) (e_call (fun _ => (by kernel_rfl)) (e_glob _ _ 8 G.f_shift_left (by kernel_rfl) (by kernel_rfl)) (l_cons (fun _ => (by kernel_rfl)) (e_var _ _ 1 (by kernel_rfl) (by kernel_rfl) (by kernel_rfl)) (l_cons (fun _ => (by kernel_rfl)) (e_var _ _ 3 (by kernel_rfl) (by kernel_rfl) (by kernel_rfl)) (l_cons (fun _ => (by kernel_rfl)) (e_var _ _ 2 (by kernel_rfl) (by kernel_rfl) (by kernel_rfl)) (l_nil _))))))
  (b_cons (s_asg ⟨by decide, (by kernel_rfl), .inl (by kernel_rfl)⟩ (fun _ => (by kernel_rfl)) (e_call (fun _ => (by kernel_rfl)) (e_glob _ _ 8 G.f_shift_left (by kernel_rfl) (by kernel_rfl)) (l_cons (fun _ => (by kernel_rfl)) (e_var _ _ 0 (by kernel_rfl) (by kernel_rfl) (by kernel_rfl)) (l_cons (fun _ => (by kernel_rfl)) (e_var _ _ 3 (by kernel_rfl) (by kernel_rfl) (by kernel_rfl)) (l_cons (fun _ => (by kernel_rfl)) (e_var _ _ 2 (by kernel_rfl) (by kernel_rfl) (by kernel_rfl)) (l_nil _))))))
  (b_cons (s_asg ⟨by decide, (by kernel_rfl), .inl (by kernel_rfl)⟩ (fun _ => (by kernel_rfl)) (e_bin .add _ (e_var _ _ 5 (by kernel_rfl) (by kernel_rfl) (by kernel_rfl)) (e_bin .mul _ (e_list _ (by decide) (l_cons (fun _ => (by kernel_rfl)) (e_int _ _ _) (l_nil _))) (e_bin .sub _ (e_bin .add _ (e_len G.g_len G.m_len (by kernel_rfl) (fun _ => (by kernel_rfl)) (e_var _ _ 0 (by kernel_rfl) (by kernel_rfl) (by kernel_rfl))) (e_int _ _ _)) (e_len G.g_len G.m_len (by kernel_rfl) (fun _ => (by kernel_rfl)) (e_var _ _ 5 (by kernel_rfl) (by kernel_rfl) (by kernel_rfl)))))))
  (b_cons (s_asg ⟨by decide, (by kernel_rfl), .inl (by kernel_rfl)⟩ (fun _ => (by kernel_rfl)) (e_call (fun _ => (by kernel_rfl)) (e_glob _ _ 23 G.f_divide_rows (by kernel_rfl) (by kernel_rfl)) (l_cons (fun _ => (by kernel_rfl)) (e_var _ _ 5 (by kernel_rfl) (by kernel_rfl) (by kernel_rfl)) (l_cons (fun _ => (by kernel_rfl)) (e_var _ _ 4 (by kernel_rfl) (by kernel_rfl) (by kernel_rfl)) (l_cons (fun _ => (by kernel_rfl)) (e_var _ _ 2 (by kernel_rfl) (by kernel_rfl) (by kernel_rfl)) (l_nil _))))))
  (b_cons (s_ret _ (e_tup _ _ (by decide) (l_cons (fun _ => (by kernel_rfl)) (e_call (fun _ => (by kernel_rfl)) (e_glob _ _ 0 G.f_normal (by kernel_rfl) (by kernel_rfl)) (l_cons (fun _ => (by kernel_rfl)) (e_var _ _ 6 (by kernel_rfl) (by kernel_rfl) (by kernel_rfl)) (l_nil _))) (l_cons (fun _ => (by kernel_rfl)) (e_call (fun _ => (by kernel_rfl)) (e_glob _ _ 9 G.f_shift_right (by kernel_rfl) (by kernel_rfl)) (l_cons (fun _ => (by kernel_rfl)) (e_call (fun _ => (by kernel_rfl)) (e_glob _ _ 0 G.f_normal (by kernel_rfl) (by kernel_rfl)) (l_cons (fun _ => (by kernel_rfl)) (e_var _ _ 5 (by kernel_rfl) (by kernel_rfl) (by kernel_rfl)) (l_nil _))) (l_cons (fun _ => (by kernel_rfl)) (e_var _ _ 3 (by kernel_rfl) (by kernel_rfl) (by kernel_rfl)) (l_cons (fun _ => (by kernel_rfl)) (e_var _ _ 2 (by kernel_rfl) (by kernel_rfl) (by kernel_rfl)) (l_nil _))))) (l_nil _)))))
  b_nil)))))))))
theorem bind_divrem_school {fd : FuncData} (hp : fd.params = argsAt 30) (hd : fd.defaults = .none) (hk : fd.kwdefaults = .none) : ∀ xs : List Value, xs.length = 3 → bindArgs fd ⟨xs, []⟩ = pure ([(Str.ofString "a"), (Str.ofString "b"), (Str.ofString "w")].zip xs)
  | [v0, v1, v2], _ => by unfold bindArgs; rw [hp, hd, hk]; kernel_rfl
theorem ok_divrem_school {c : Cx} (G : Facts c) (h : DefAt c.mg c.h₀ 30 (c.fa 24)) : ∃ o fd body pn Γ, FnOk c 24 f_divrem_school o fd body pn Γ :=
  fnOk_of (pn := [(Str.ofString "a"), (Str.ofString "b"), (Str.ofString "w")]) h (fun _ => bind_divrem_school) rfl (by decide +kernel) (by decide +kernel) (by decide +kernel) (by decide +kernel) (by kernel_rfl) (by kernel_rfl) (by kernel_rfl) (d_divrem_school G)
theorem d_signed {c : Cx} (G : Facts c) : SndB c (scopeAt 32) [((Str.ofString "is_below"), 0), ((Str.ofString "nat"), 1)] (bodyAt 32) b_signed :=
  (b_cons (s_ret _ (e_tup _ _ (by decide) (l_cons (fun _ => (by kernel_rfl)) (e_and2 _ (e_var _ _ 0 (by kernel_rfl) (by kernel_rfl) (by kernel_rfl)) (e_cmp .gt _ (by kernel_rfl) (e_len G.g_len G.m_len (by kernel_rfl) (fun _ => (by kernel_rfl)) (e_var _ _ 1 (by kernel_rfl) (by kernel_rfl) (by kernel_rfl))) (e_int _ _ _))) (l_cons (fun _ => (by kernel_rfl)) (e_var _ _ 1 (by kernel_rfl) (by kernel_rfl) (by kernel_rfl)) (l_nil _)))))
  b_nil)
theorem bind_signed {fd : FuncData} (hp : fd.params = argsAt 32) (hd : fd.defaults = .none) (hk : fd.kwdefaults = .none) : ∀ xs : List Value, xs.length = 2 → bindArgs fd ⟨xs, []⟩ = pure ([(Str.ofString "is_below"), (Str.ofString "nat")].zip xs)
  | [v0, v1], _ => by unfold bindArgs; rw [hp, hd, hk]; kernel_rfl
theorem ok_signed {c : Cx} (G : Facts c) (h : DefAt c.mg c.h₀ 32 (c.fa 25)) : ∃ o fd body pn Γ, FnOk c 25 f_signed o fd body pn Γ :=
  fnOk_of (pn := [(Str.ofString "is_below"), (Str.ofString "nat")]) h (fun _ => bind_signed) rfl (by decide +kernel) (by decide +kernel) (by decide +kernel) (by decide +kernel) (by kernel_rfl) (by kernel_rfl) (by kernel_rfl) (d_signed G)
theorem d_s_add {c : Cx} (G : Facts c) : SndB c (scopeAt 33) [((Str.ofString "x"), 0), ((Str.ofString "y"), 1), ((Str.ofString "w"), 2)] (bodyAt 33) b_s_add :=
  (b_cons (s_iff _ (t_cmp .eq _ (by kernel_rfl) (e_idx _ (fun _ _ _ => (by kernel_rfl)) (e_var _ _ 0 (by kernel_rfl) (by kernel_rfl) (by kernel_rfl)) (e_int _ _ _)) (e_idx _ (fun _ _ _ => (by kernel_rfl)) (e_var _ _ 1 (by kernel_rfl) (by kernel_rfl) (by kernel_rfl)) (e_int _ _ _))) (b_cons (s_ret _ (e_call (fun _ => (by kernel_rfl)) (e_glob _ _ 25 G.f_signed (by kernel_rfl) (by kernel_rfl)) (l_cons (fun _ => (by kernel_rfl)) (e_idx _ (fun _ _ _ => (by kernel_rfl)) (e_var _ _ 0 (by kernel_rfl) (by kernel_rfl) (by kernel_rfl)) (e_int _ _ _)) (l_cons (fun _ => (by kernel_rfl)) (e_call (fun _ => (by kernel_rfl)) (e_glob _ _ 3 G.f_add (by kernel_rfl) (by kernel_rfl)) (l_cons (fun _ => (by kernel_rfl)) (e_idx _ (fun _ _ _ => (by kernel_rfl)) (e_var _ _ 0 (by kernel_rfl) (by kernel_rfl) (by kernel_rfl)) (e_int _ _ _)) (l_cons (fun _ => (by kernel_rfl)) (e_idx _ (fun _ _ _ => (by kernel_rfl)) (e_var _ _ 1 (by kernel_rfl) (by kernel_rfl) (by kernel_rfl)) (e_int _ _ _)) (l_cons (fun _ => (by kernel_rfl)) (e_var _ _ 2 (by kernel_rfl) (by kernel_rfl) (by kernel_rfl)) (l_nil _))))) (l_nil _)))))
  b_nil) b_nil)
  (b_cons (s_iff _ (t_cmp .lt _ (by kernel_rfl) (e_call (fun _ => (by kernel_rfl)) (e_glob _ _ 2 G.f_compare (by kernel_rfl) (by kernel_rfl)) (l_cons (fun _ => (by kernel_rfl)) (e_idx _ (fun _ _ _ => (by kernel_rfl)) (e_var _ _ 0 (by kernel_rfl) (by kernel_rfl) (by kernel_rfl)) (e_int _ _ _)) (l_cons (fun _ => (by kernel_rfl)) (e_idx _ (fun _ _ _ => (by kernel_rfl)) (e_var _ _ 1 (by kernel_rfl) (by kernel_rfl) (by kernel_rfl)) (e_int _ _ _)) (l_nil _)))) (e_int _ _ _)) (b_cons (s_ret _ (e_call (fun _ => (by kernel_rfl)) (e_glob _ _ 25 G.f_signed (by kernel_rfl) (by kernel_rfl)) (l_cons (fun _ => (by kernel_rfl)) (e_idx _ (fun _ _ _ => (by kernel_rfl)) (e_var _ _ 1 (by kernel_rfl) (by kernel_rfl) (by kernel_rfl)) (e_int _ _ _)) (l_cons (fun _ => (by kernel_rfl)) (e_call (fun _ => (by kernel_rfl)) (e_glob _ _ 4 G.f_sub (by kernel_rfl) (by kernel_rfl)) (l_cons (fun _ => (by kernel_rfl)) (e_idx _ (fun _ _ _ => (by kernel_rfl)) (e_var _ _ 1 (by kernel_rfl) (by kernel_rfl) (by kernel_rfl)) (e_int _ _ _)) (l_cons (fun _ => (by kernel_rfl)) (e_idx _ (fun _ _ _ => (by kernel_rfl)) (e_var _ _ 0 (by kernel_rfl) (by kernel_rfl) (by kernel_rfl)) (e_int _ _ _)) (l_cons (fun _ => (by kernel_rfl)) (e_var _ _ 2 (by kernel_rfl) (by kernel_rfl) (by kernel_rfl)) (l_nil _))))) (l_nil _)))))
  b_nil) b_nil)
  (b_cons (s_ret _ (e_call (fun _ => (by kernel_rfl)) (e_glob _ _ 25 G.f_signed (by kernel_rfl) (by kernel_rfl)) (l_cons (fun _ => (by kernel_rfl)) (e_idx _ (fun _ _ _ => (by kernel_rfl)) (e_var _ _ 0 (by kernel_rfl) (by kernel_rfl) (by kernel_rfl)) (e_int _ _ _)) (l_cons (fun _ => (by kernel_rfl)) (e_call (fun _ => (by kernel_rfl)) (e_glob _ _ 4 G.f_sub (by kernel_rfl) (by kernel_rfl)) (l_cons (fun _ => (by kernel_rfl)) (e_idx _ (fun _ _ _ => (by kernel_rfl)) (e_var _ _ 0 (by kernel_rfl) (by kernel_rfl) (by kernel_rfl)) (e_int _ _ _)) (l_cons (fun _ => (by kernel_rfl)) (e_idx _ (fun _ _ _ => (by kernel_rfl)) (e_var _ _ 1 (by kernel_rfl) (by kernel_rfl) (by kernel_rfl)) (e_int _ _ _)) (l_cons (fun _ => (by kernel_rfl)) (e_var _ _ 2 (by kernel_rfl) (by kernel_rfl) (by kernel_rfl)) (l_nil _))))) (l_nil _)))))
  b_nil)))
theorem bind_s_add {fd : FuncData} (hp : fd.params = argsAt 33) (hd : fd.defaults = .none) (hk : fd.kwdefaults = .none) : ∀ xs : List Value, xs.length = 3 → bindArgs fd ⟨xs, []⟩ = pure ([(Str.ofString "x"), (Str.ofString "y"), (Str.ofString "w")].zip xs)
  | [v0, v1, v2], _ => by unfold bindArgs; rw [hp, hd, hk]; kernel_rfl
theorem ok_s_add {c : Cx} (G : Facts c) (h : DefAt c.mg c.h₀ 33 (c.fa 26)) : ∃ o fd body pn Γ, FnOk c 26 f_s_add o fd body pn Γ :=
  fnOk_of (pn := [(Str.ofString "x"), (Str.ofString "y"), (Str.ofString "w")]) h (fun _ => bind_s_add) rfl (by decide +kernel) (by decide +kernel) (by decide +kernel) (by decide +kernel) (by kernel_rfl) (by kernel_rfl) (by kernel_rfl) (d_s_add G)
theorem d_s_mul {c : Cx} (G : Facts c) : SndB c (scopeAt 34) [((Str.ofString "x"), 0), ((Str.ofString "y"), 1), ((Str.ofString "w"), 2), ((Str.ofString "mul"), 3)] (bodyAt 34) b_s_mul :=
  (b_cons (s_ret _ (e_call (fun _ => (by kernel_rfl)) (e_glob _ _ 25 G.f_signed (by kernel_rfl) (by kernel_rfl)) (l_cons (fun _ => (by kernel_rfl)) (e_cmp .ne _ (by kernel_rfl) (e_idx _ (fun _ _ _ => (by kernel_rfl)) (e_var _ _ 0 (by kernel_rfl) (by kernel_rfl) (by kernel_rfl)) (e_int _ _ _)) (e_idx _ (fun _ _ _ => (by kernel_rfl)) (e_var _ _ 1 (by kernel_rfl) (by kernel_rfl) (by kernel_rfl)) (e_int _ _ _))) (l_cons (fun _ => (by kernel_rfl)) (e_call (fun _ => (by kernel_rfl)) (e_var _ _ 3 (by kernel_rfl) (by kernel_rfl) (by kernel_rfl)) (l_cons (fun _ => (by kernel_rfl)) (e_idx _ (fun _ _ _ => (by kernel_rfl)) (e_var _ _ 0 (by kernel_rfl) (by kernel_rfl) (by kernel_rfl)) (e_int _ _ _)) (l_cons (fun _ => (by kernel_rfl)) (e_idx _ (fun _ _ _ => (by kernel_rfl)) (e_var _ _ 1 (by kernel_rfl) (by kernel_rfl) (by kernel_rfl)) (e_int _ _ _)) (l_cons (fun _ => (by kernel_rfl)) (e_var _ _ 2 (by kernel_rfl) (by kernel_rfl) (by kernel_rfl)) (l_nil _))))) (l_nil _)))))
  b_nil)
theorem bind_s_mul {fd : FuncData} (hp : fd.params = argsAt 34) (hd : fd.defaults = .none) (hk : fd.kwdefaults = .none) : ∀ xs : List Value, xs.length = 4 → bindArgs fd ⟨xs, []⟩ = pure ([(Str.ofString "x"), (Str.ofString "y"), (Str.ofString "w"), (Str.ofString "mul")].zip xs)
  | [v0, v1, v2, v3], _ => by unfold bindArgs; rw [hp, hd, hk]; kernel_rfl
theorem ok_s_mul {c : Cx} (G : Facts c) (h : DefAt c.mg c.h₀ 34 (c.fa 27)) : ∃ o fd body pn Γ, FnOk c 27 f_s_mul o fd body pn Γ :=
  fnOk_of (pn := [(Str.ofString "x"), (Str.ofString "y"), (Str.ofString "w"), (Str.ofString "mul")]) h (fun _ => bind_s_mul) rfl (by decide +kernel) (by decide +kernel) (by decide +kernel) (by decide +kernel) (by kernel_rfl) (by kernel_rfl) (by kernel_rfl) (d_s_mul G)
theorem d_tdiv {c : Cx} (G : Facts c) : SndB c (scopeAt 35) [((Str.ofString "x"), 0), ((Str.ofString "y"), 1), ((Str.ofString "w"), 2), ((Str.ofString "divrem"), 3), ((Str.ofString "quotient"), 4), ((Str.ofString "rest"), 5)] (bodyAt 35) b_tdiv :=
  (b_cons (s_iff _ (t_cmp .eq _ (by kernel_rfl) (e_len G.g_len G.m_len (by kernel_rfl) (fun _ => (by kernel_rfl)) (e_idx _ (fun _ _ _ => (by kernel_rfl)) (e_var _ _ 1 (by kernel_rfl) (by kernel_rfl) (by kernel_rfl)) (e_int _ _ _))) (e_int _ _ _)) (b_cons (s_fail _)
  b_nil) b_nil)
  (b_cons (s_unpack (.cons (.cons .nil)) rfl (sto2 ⟨by decide, (by kernel_rfl), .inl (by kernel_rfl)⟩ ⟨by decide, (by kernel_rfl), .inl (by kernel_rfl)⟩) (fun env h => by cases env; cases h; kernel_rfl) (fun env h => by cases env; cases h; kernel_rfl) (e_call (fun _ => (by kernel_rfl)) (e_var _ _ 3 (by kernel_rfl) (by kernel_rfl) (by kernel_rfl)) (l_cons (fun _ => (by kernel_rfl)) (e_idx _ (fun _ _ _ => (by kernel_rfl)) (e_var _ _ 0 (by kernel_rfl) (by kernel_rfl) (by kernel_rfl)) (e_int _ _ _)) (l_cons (fun _ => (by kernel_rfl)) (e_idx _ (fun _ _ _ => (by kernel_rfl)) (e_var _ _ 1 (by kernel_rfl) (by kernel_rfl) (by kernel_rfl)) (e_int _ _ _)) (l_cons (fun _ => (by kernel_rfl)) (e_var _ _ 2 (by kernel_rfl) (by kernel_rfl) (by kernel_rfl)) (l_nil _))))))
  (b_cons (s_ret _ (e_tup _ _ (by decide) (l_cons (fun _ => (by kernel_rfl)) (e_call (fun _ => (by kernel_rfl)) (e_glob _ _ 25 G.f_signed (by kernel_rfl) (by kernel_rfl)) (l_cons (fun _ => (by kernel_rfl)) (e_cmp .ne _ (by kernel_rfl) (e_idx _ (fun _ _ _ => (by kernel_rfl)) (e_var _ _ 0 (by kernel_rfl) (by kernel_rfl) (by kernel_rfl)) (e_int _ _ _)) (e_idx _ (fun _ _ _ => (by kernel_rfl)) (e_var _ _ 1 (by kernel_rfl) (by kernel_rfl) (by kernel_rfl)) (e_int _ _ _))) (l_cons (fun _ => (by kernel_rfl)) (e_var _ _ 4 (by kernel_rfl) (by kernel_rfl) (by kernel_rfl)) (l_nil _)))) (l_cons (fun _ => (by kernel_rfl)) (e_call (fun _ => (by kernel_rfl)) (e_glob _ _ 25 G.f_signed (by kernel_rfl) (by kernel_rfl)) (l_cons (fun _ => (by kernel_rfl)) (e_idx _ (fun _ _ _ => (by kernel_rfl)) (e_var _ _ 0 (by kernel_rfl) (by kernel_rfl) (by kernel_rfl)) (e_int _ _ _)) (l_cons (fun _ => (by kernel_rfl)) (e_var _ _ 5 (by kernel_rfl) (by kernel_rfl) (by kernel_rfl)) (l_nil _)))) (l_nil _)))))
  b_nil)))
theorem bind_tdiv {fd : FuncData} (hp : fd.params = argsAt 35) (hd : fd.defaults = .none) (hk : fd.kwdefaults = .none) : ∀ xs : List Value, xs.length = 4 → bindArgs fd ⟨xs, []⟩ = pure ([(Str.ofString "x"), (Str.ofString "y"), (Str.ofString "w"), (Str.ofString "divrem")].zip xs)
  | [v0, v1, v2, v3], _ => by unfold bindArgs; rw [hp, hd, hk]; kernel_rfl
theorem ok_tdiv {c : Cx} (G : Facts c) (h : DefAt c.mg c.h₀ 35 (c.fa 28)) : ∃ o fd body pn Γ, FnOk c 28 f_tdiv o fd body pn Γ :=
  fnOk_of (pn := [(Str.ofString "x"), (Str.ofString "y"), (Str.ofString "w"), (Str.ofString "divrem")]) h (fun _ => bind_tdiv) rfl (by decide +kernel) (by decide +kernel) (by decide +kernel) (by decide +kernel) (by kernel_rfl) (by kernel_rfl) (by kernel_rfl) (d_tdiv G)
theorem d_fdiv {c : Cx} (G : Facts c) : SndB c (scopeAt 36) [((Str.ofString "x"), 0), ((Str.ofString "y"), 1), ((Str.ofString "w"), 2), ((Str.ofString "divrem"), 3), ((Str.ofString "quotient"), 4), ((Str.ofString "rest"), 5)] (bodyAt 36) b_fdiv :=
  (b_cons (s_unpack (.cons (.cons .nil)) rfl (sto2 ⟨by decide, (by kernel_rfl), .inl (by kernel_rfl)⟩ ⟨by decide, (by kernel_rfl), .inl (by kernel_rfl)⟩) (fun env h => by cases env; cases h; kernel_rfl) (fun env h => by cases env; cases h; kernel_rfl) (e_call (fun _ => (by kernel_rfl)) (e_glob _ _ 28 G.f_tdiv (by kernel_rfl) (by kernel_rfl)) (l_cons (fun _ => (by kernel_rfl)) (e_var _ _ 0 (by kernel_rfl) (by kernel_rfl) (by kernel_rfl)) (l_cons (fun _ => (by kernel_rfl)) (e_var _ _ 1 (by kernel_rfl) (by kernel_rfl) (by kernel_rfl)) (l_cons (fun _ => (by kernel_rfl)) (e_var _ _ 2 (by kernel_rfl) (by kernel_rfl) (by kernel_rfl)) (l_cons (fun _ => (by kernel_rfl)) (e_var _ _ 3 (by kernel_rfl) (by kernel_rfl) (by kernel_rfl)) (l_nil _)))))))
  (b_cons (s_iff _ (t_and _ (t_cmp .gt _ (by kernel_rfl) (e_len G.g_len G.m_len (by kernel_rfl) (fun _ => (by kernel_rfl)) (e_idx _ (fun _ _ _ => (by kernel_rfl)) (e_var _ _ 5 (by kernel_rfl) (by kernel_rfl) (by kernel_rfl)) (e_int _ _ _))) (e_int _ _ _)) (t_and1 _ (t_cmp .ne _ (by kernel_rfl) (e_idx _ (fun _ _ _ => (by kernel_rfl)) (e_var _ _ 0 (by kernel_rfl) (by kernel_rfl) (by kernel_rfl)) (e_int _ _ _)) (e_idx _ (fun _ _ _ => (by kernel_rfl)) (e_var _ _ 1 (by kernel_rfl) (by kernel_rfl) (by kernel_rfl)) (e_int _ _ _))))) (b_cons (s_ret _ (e_tup _ _ (by decide) (l_cons (fun _ => (by kernel_rfl)) (e_tup _ _ (by decide) (l_cons (fun _ => (by kernel_rfl)) (e_bool _ _ _) (l_cons (fun _ => (by kernel_rfl)) (e_call (fun _ => (by kernel_rfl)) (e_glob _ _ 5 G.f_add_limb (by kernel_rfl) (by kernel_rfl)) (l_cons (fun _ => (by kernel_rfl)) (e_idx _ (fun _ _ _ => (by kernel_rfl)) (e_var _ _ 4 (by kernel_rfl) (by kernel_rfl) (by kernel_rfl)) (e_int _ _ _)) (l_cons (fun _ => (by kernel_rfl)) (e_int _ _ _) (l_cons (fun _ => (by kernel_rfl)) (e_var _ _ 2 (by kernel_rfl) (by kernel_rfl) (by kernel_rfl)) (l_nil _))))) (l_nil _)))) (l_cons (fun _ => (by kernel_rfl)) (e_call (fun _ => (by kernel_rfl)) (e_glob _ _ 26 G.f_s_add (by kernel_rfl) (by kernel_rfl)) (l_cons (fun _ => (by kernel_rfl)) (e_var _ _ 5 (by kernel_rfl) (by kernel_rfl) (by kernel_rfl)) (l_cons (fun _ => (by kernel_rfl)) (e_var _ _ 1 (by kernel_rfl) (by kernel_rfl) (by kernel_rfl)) (l_cons (fun _ => (by kernel_rfl)) (e_var _ _ 2 (by kernel_rfl) (by kernel_rfl) (by kernel_rfl)) (l_nil _))))) (l_nil _)))))
  b_nil) b_nil)
  (b_cons (s_ret _ (e_tup _ _ (by decide) (l_cons (fun _ => (by kernel_rfl)) (e_var _ _ 4 (by kernel_rfl) (by kernel_rfl) (by kernel_rfl)) (l_cons (fun _ => (by kernel_rfl)) (e_var _ _ 5 (by kernel_rfl) (by kernel_rfl) (by kernel_rfl)) (l_nil _)))))
  b_nil)))
theorem bind_fdiv {fd : FuncData} (hp : fd.params = argsAt 36) (hd : fd.defaults = .none) (hk : fd.kwdefaults = .none) : ∀ xs : List Value, xs.length = 4 → bindArgs fd ⟨xs, []⟩ = pure ([(Str.ofString "x"), (Str.ofString "y"), (Str.ofString "w"), (Str.ofString "divrem")].zip xs)
  | [v0, v1, v2, v3], _ => by unfold bindArgs; rw [hp, hd, hk]; kernel_rfl
theorem ok_fdiv {c : Cx} (G : Facts c) (h : DefAt c.mg c.h₀ 36 (c.fa 29)) : ∃ o fd body pn Γ, FnOk c 29 f_fdiv o fd body pn Γ :=
  fnOk_of (pn := [(Str.ofString "x"), (Str.ofString "y"), (Str.ofString "w"), (Str.ofString "divrem")]) h (fun _ => bind_fdiv) rfl (by decide +kernel) (by decide +kernel) (by decide +kernel) (by decide +kernel) (by kernel_rfl) (by kernel_rfl) (by kernel_rfl) (d_fdiv G)
theorem d_law_heaped {c : Cx} (G : Facts c) : SndB c (scopeAt 38) [((Str.ofString "heap"), 0), ((Str.ofString "many"), 1)] (bodyAt 38) b_law_heaped :=
  (b_cons (s_setidx _ _ (fun _ => (by kernel_rfl)) (e_var _ _ 0 (by kernel_rfl) (by kernel_rfl) (by kernel_rfl)) (e_int _ _ _) (e_bin .add _ (e_idx _ (fun _ _ _ => (by kernel_rfl)) (e_var _ _ 0 (by kernel_rfl) (by kernel_rfl) (by kernel_rfl)) (e_int _ _ _)) (e_int _ _ _)))
  (b_cons (s_iff _ (t_cmp .le _ (by kernel_rfl) (e_idx _ (fun _ _ _ => (by kernel_rfl)) (e_var _ _ 0 (by kernel_rfl) (by kernel_rfl) (by kernel_rfl)) (e_int _ _ _)) (e_len G.g_len G.m_len (by kernel_rfl) (fun _ => (by kernel_rfl)) (e_idx _ (fun _ _ _ => (by kernel_rfl)) (e_var _ _ 0 (by kernel_rfl) (by kernel_rfl) (by kernel_rfl)) (e_int _ _ _)))) (b_cons (s_ret _ (e_bin .mod _ (e_idx _ (fun _ _ _ => (by kernel_rfl)) (e_idx _ (fun _ _ _ => (by kernel_rfl)) (e_var _ _ 0 (by kernel_rfl) (by kernel_rfl) (by kernel_rfl)) (e_int _ _ _)) (e_bin .sub _ (e_idx _ (fun _ _ _ => (by kernel_rfl)) (e_var _ _ 0 (by kernel_rfl) (by kernel_rfl) (by kernel_rfl)) (e_int _ _ _)) (e_int _ _ _))) (e_var _ _ 1 (by kernel_rfl) (by kernel_rfl) (by kernel_rfl))))
  b_nil) b_nil)
  (b_cons (s_ret _ (e_bin .mod _ (e_bin .add _ (e_bin .add _ (e_bin .mul _ (e_int _ _ _) (e_idx _ (fun _ _ _ => (by kernel_rfl)) (e_var _ _ 0 (by kernel_rfl) (by kernel_rfl) (by kernel_rfl)) (e_int _ _ _))) (e_bin .fdiv _ (e_idx _ (fun _ _ _ => (by kernel_rfl)) (e_var _ _ 0 (by kernel_rfl) (by kernel_rfl) (by kernel_rfl)) (e_int _ _ _)) (e_int _ _ _))) (e_int _ _ _)) (e_var _ _ 1 (by kernel_rfl) (by kernel_rfl) (by kernel_rfl))))
  b_nil)))
theorem bind_law_heaped {fd : FuncData} (hp : fd.params = argsAt 38) (hd : fd.defaults = .none) (hk : fd.kwdefaults = .none) : ∀ xs : List Value, xs.length = 2 → bindArgs fd ⟨xs, []⟩ = pure ([(Str.ofString "heap"), (Str.ofString "many")].zip xs)
  | [v0, v1], _ => by unfold bindArgs; rw [hp, hd, hk]; kernel_rfl
theorem ok_law_heaped {c : Cx} (G : Facts c) (h : DefAt c.mg c.h₀ 38 (c.fa 30)) : ∃ o fd body pn Γ, FnOk c 30 f_law_heaped o fd body pn Γ :=
  fnOk_of (pn := [(Str.ofString "heap"), (Str.ofString "many")]) h (fun _ => bind_law_heaped) rfl (by decide +kernel) (by decide +kernel) (by decide +kernel) (by decide +kernel) (by kernel_rfl) (by kernel_rfl) (by kernel_rfl) (d_law_heaped G)
theorem d_law_signed {c : Cx} (G : Facts c) : SndB c (scopeAt 39) [((Str.ofString "number"), 0), ((Str.ofString "w"), 1)] (bodyAt 39) b_law_signed :=
  (b_cons (s_ret _ (e_tup _ _ (by decide) (l_cons (fun _ => (by kernel_rfl)) (e_cmp .lt _ (by kernel_rfl) (e_var _ _ 0 (by kernel_rfl) (by kernel_rfl) (by kernel_rfl)) (e_int _ _ _)) (l_cons (fun _ => (by kernel_rfl)) (e_call (fun _ => (by kernel_rfl)) (e_glob _ _ 1 G.f_nat_of (by kernel_rfl) (by kernel_rfl)) (l_cons (fun _ => (by kernel_rfl)) (e_abs G.g_abs G.m_abs (by kernel_rfl) (fun _ => (by kernel_rfl)) (e_var _ _ 0 (by kernel_rfl) (by kernel_rfl) (by kernel_rfl))) (l_cons (fun _ => (by kernel_rfl)) (e_var _ _ 1 (by kernel_rfl) (by kernel_rfl) (by kernel_rfl)) (l_nil _)))) (l_nil _)))))
  b_nil)
theorem bind_law_signed {fd : FuncData} (hp : fd.params = argsAt 39) (hd : fd.defaults = .none) (hk : fd.kwdefaults = .none) : ∀ xs : List Value, xs.length = 2 → bindArgs fd ⟨xs, []⟩ = pure ([(Str.ofString "number"), (Str.ofString "w")].zip xs)
  | [v0, v1], _ => by unfold bindArgs; rw [hp, hd, hk]; kernel_rfl
theorem ok_law_signed {c : Cx} (G : Facts c) (h : DefAt c.mg c.h₀ 39 (c.fa 31)) : ∃ o fd body pn Γ, FnOk c 31 f_law_signed o fd body pn Γ :=
  fnOk_of (pn := [(Str.ofString "number"), (Str.ofString "w")]) h (fun _ => bind_law_signed) rfl (by decide +kernel) (by decide +kernel) (by decide +kernel) (by decide +kernel) (by kernel_rfl) (by kernel_rfl) (by kernel_rfl) (d_law_signed G)
theorem d_law_told {c : Cx} (G : Facts c) : SndB c (scopeAt 40) [((Str.ofString "k"), 0), ((Str.ofString "t"), 1), ((Str.ofString "w"), 2), ((Str.ofString "square"), 3), ((Str.ofString "root"), 4), ((Str.ofString "whole"), 5), ((Str.ofString "lesser"), 6)] (bodyAt 40) b_law_told :=
  (b_cons (s_asg ⟨by decide, (by kernel_rfl), .inl (by kernel_rfl)⟩ (fun _ => (by kernel_rfl)) (e_call (fun _ => (by kernel_rfl)) (e_glob _ _ 18 G.f_mul_school (by kernel_rfl) (by kernel_rfl)) (l_cons (fun _ => (by kernel_rfl)) (e_call (fun _ => (by kernel_rfl)) (e_glob _ _ 18 G.f_mul_school (by kernel_rfl) (by kernel_rfl)) (l_cons (fun _ => (by kernel_rfl)) (e_call (fun _ => (by kernel_rfl)) (e_glob _ _ 1 G.f_nat_of (by kernel_rfl) (by kernel_rfl)) (l_cons (fun _ => (by kernel_rfl)) (e_var _ _ 0 (by kernel_rfl) (by kernel_rfl) (by kernel_rfl)) (l_cons (fun _ => (by kernel_rfl)) (e_var _ _ 2 (by kernel_rfl) (by kernel_rfl) (by kernel_rfl)) (l_nil _)))) (l_cons (fun _ => (by kernel_rfl)) (e_call (fun _ => (by kernel_rfl)) (e_glob _ _ 1 G.f_nat_of (by kernel_rfl) (by kernel_rfl)) (l_cons (fun _ => (by kernel_rfl)) (e_var _ _ 0 (by kernel_rfl) (by kernel_rfl) (by kernel_rfl)) (l_cons (fun _ => (by kernel_rfl)) (e_var _ _ 2 (by kernel_rfl) (by kernel_rfl) (by kernel_rfl)) (l_nil _)))) (l_cons (fun _ => (by kernel_rfl)) (e_var _ _ 2 (by kernel_rfl) (by kernel_rfl) (by kernel_rfl)) (l_nil _))))) (l_cons (fun _ => (by kernel_rfl)) (e_call (fun _ => (by kernel_rfl)) (e_glob _ _ 1 G.f_nat_of (by kernel_rfl) (by kernel_rfl)) (l_cons (fun _ => (by kernel_rfl)) (e_bin .add _ (e_bin .mul _ (e_var _ _ 1 (by kernel_rfl) (by kernel_rfl) (by kernel_rfl)) (e_var _ _ 1 (by kernel_rfl) (by kernel_rfl) (by kernel_rfl))) (e_int _ _ _)) (l_cons (fun _ => (by kernel_rfl)) (e_var _ _ 2 (by kernel_rfl) (by kernel_rfl) (by kernel_rfl)) (l_nil _)))) (l_cons (fun _ => (by kernel_rfl)) (e_var _ _ 2 (by kernel_rfl) (by kernel_rfl) (by kernel_rfl)) (l_nil _))))))
  (b_cons (s_asg ⟨by decide, (by kernel_rfl), .inl (by kernel_rfl)⟩ (fun _ => (by kernel_rfl)) (e_idx _ (fun _ _ _ => (by kernel_rfl)) (e_call (fun _ => (by kernel_rfl)) (e_glob _ _ 17 G.f_sqrt_rem (by kernel_rfl) (by kernel_rfl)) (l_cons (fun _ => (by kernel_rfl)) (e_var _ _ 3 (by kernel_rfl) (by kernel_rfl) (by kernel_rfl)) (l_cons (fun _ => (by kernel_rfl)) (e_var _ _ 2 (by kernel_rfl) (by kernel_rfl) (by kernel_rfl)) (l_cons (fun _ => (by kernel_rfl)) (e_int _ _ _) (l_cons (fun _ => (by kernel_rfl)) (e_glob _ _ 18 G.f_mul_school (by kernel_rfl) (by kernel_rfl)) (l_cons (fun _ => (by kernel_rfl)) (e_glob _ _ 24 G.f_divrem_school (by kernel_rfl) (by kernel_rfl)) (l_nil _))))))) (e_int _ _ _)))
  (b_cons (s_asg ⟨by decide, (by kernel_rfl), .inl (by kernel_rfl)⟩ (fun _ => (by kernel_rfl)) (e_call (fun _ => (by kernel_rfl)) (e_glob _ _ 26 G.f_s_add (by kernel_rfl) (by kernel_rfl)) (l_cons (fun _ => (by kernel_rfl)) (e_call (fun _ => (by kernel_rfl)) (e_glob _ _ 31 G.f_law_signed (by kernel_rfl) (by kernel_rfl)) (l_cons (fun _ => (by kernel_rfl)) (e_bin .mul _ (e_var _ _ 0 (by kernel_rfl) (by kernel_rfl) (by kernel_rfl)) (e_bin .sub _ (e_int _ _ _) (e_var _ _ 1 (by kernel_rfl) (by kernel_rfl) (by kernel_rfl)))) (l_cons (fun _ => (by kernel_rfl)) (e_var _ _ 2 (by kernel_rfl) (by kernel_rfl) (by kernel_rfl)) (l_nil _)))) (l_cons (fun _ => (by kernel_rfl)) (e_tup _ _ (by decide) (l_cons (fun _ => (by kernel_rfl)) (e_bool _ _ _) (l_cons (fun _ => (by kernel_rfl)) (e_var _ _ 4 (by kernel_rfl) (by kernel_rfl) (by kernel_rfl)) (l_nil _)))) (l_cons (fun _ => (by kernel_rfl)) (e_var _ _ 2 (by kernel_rfl) (by kernel_rfl) (by kernel_rfl)) (l_nil _))))))
  (b_cons (s_asg ⟨by decide, (by kernel_rfl), .inl (by kernel_rfl)⟩ (fun _ => (by kernel_rfl)) (e_idx _ (fun _ _ _ => (by kernel_rfl)) (e_call (fun _ => (by kernel_rfl)) (e_glob _ _ 29 G.f_fdiv (by kernel_rfl) (by kernel_rfl)) (l_cons (fun _ => (by kernel_rfl)) (e_var _ _ 5 (by kernel_rfl) (by kernel_rfl) (by kernel_rfl)) (l_cons (fun _ => (by kernel_rfl)) (e_tup _ _ (by decide) (l_cons (fun _ => (by kernel_rfl)) (e_bool _ _ _) (l_cons (fun _ => (by kernel_rfl)) (e_list _ (by decide) (l_cons (fun _ => (by kernel_rfl)) (e_int _ _ _) (l_nil _))) (l_nil _)))) (l_cons (fun _ => (by kernel_rfl)) (e_var _ _ 2 (by kernel_rfl) (by kernel_rfl) (by kernel_rfl)) (l_cons (fun _ => (by kernel_rfl)) (e_glob _ _ 24 G.f_divrem_school (by kernel_rfl) (by kernel_rfl)) (l_nil _)))))) (e_int _ _ _)))
  (b_cons (s_ret _ (e_tup _ _ (by decide) (l_cons (fun _ => (by kernel_rfl)) (e_var _ _ 6 (by kernel_rfl) (by kernel_rfl) (by kernel_rfl)) (l_cons (fun _ => (by kernel_rfl)) (e_call (fun _ => (by kernel_rfl)) (e_glob _ _ 26 G.f_s_add (by kernel_rfl) (by kernel_rfl)) (l_cons (fun _ => (by kernel_rfl)) (e_var _ _ 6 (by kernel_rfl) (by kernel_rfl) (by kernel_rfl)) (l_cons (fun _ => (by kernel_rfl)) (e_call (fun _ => (by kernel_rfl)) (e_glob _ _ 27 G.f_s_mul (by kernel_rfl) (by kernel_rfl)) (l_cons (fun _ => (by kernel_rfl)) (e_call (fun _ => (by kernel_rfl)) (e_glob _ _ 31 G.f_law_signed (by kernel_rfl) (by kernel_rfl)) (l_cons (fun _ => (by kernel_rfl)) (e_var _ _ 0 (by kernel_rfl) (by kernel_rfl) (by kernel_rfl)) (l_cons (fun _ => (by kernel_rfl)) (e_var _ _ 2 (by kernel_rfl) (by kernel_rfl) (by kernel_rfl)) (l_nil _)))) (l_cons (fun _ => (by kernel_rfl)) (e_call (fun _ => (by kernel_rfl)) (e_glob _ _ 31 G.f_law_signed (by kernel_rfl) (by kernel_rfl)) (l_cons (fun _ => (by kernel_rfl)) (e_var _ _ 1 (by kernel_rfl) (by kernel_rfl) (by kernel_rfl)) (l_cons (fun _ => (by kernel_rfl)) (e_var _ _ 2 (by kernel_rfl) (by kernel_rfl) (by kernel_rfl)) (l_nil _)))) (l_cons (fun _ => (by kernel_rfl)) (e_var _ _ 2 (by kernel_rfl) (by kernel_rfl) (by kernel_rfl)) (l_cons (fun _ => (by kernel_rfl)) (e_glob _ _ 18 G.f_mul_school (by kernel_rfl) (by kernel_rfl)) (l_nil _)))))) (l_cons (fun _ => (by kernel_rfl)) (e_var _ _ 2 (by kernel_rfl) (by kernel_rfl) (by kernel_rfl)) (l_nil _))))) (l_nil _)))))
  b_nil)))))
theorem bind_law_told {fd : FuncData} (hp : fd.params = argsAt 40) (hd : fd.defaults = .none) (hk : fd.kwdefaults = .none) : ∀ xs : List Value, xs.length = 3 → bindArgs fd ⟨xs, []⟩ = pure ([(Str.ofString "k"), (Str.ofString "t"), (Str.ofString "w")].zip xs)
  | [v0, v1, v2], _ => by unfold bindArgs; rw [hp, hd, hk]; kernel_rfl
theorem ok_law_told {c : Cx} (G : Facts c) (h : DefAt c.mg c.h₀ 40 (c.fa 32)) : ∃ o fd body pn Γ, FnOk c 32 f_law_told o fd body pn Γ :=
  fnOk_of (pn := [(Str.ofString "k"), (Str.ofString "t"), (Str.ofString "w")]) h (fun _ => bind_law_told) rfl (by decide +kernel) (by decide +kernel) (by decide +kernel) (by decide +kernel) (by kernel_rfl) (by kernel_rfl) (by kernel_rfl) (d_law_told G)
theorem d_law_leads {c : Cx} (G : Facts c) : SndB c (scopeAt 41) [((Str.ofString "a"), 0), ((Str.ofString "b"), 1), ((Str.ofString "c"), 2), ((Str.ofString "d"), 3), ((Str.ofString "t"), 4), ((Str.ofString "straight"), 5), ((Str.ofString "crossed_over"), 6)] (bodyAt 41) b_law_leads :=
  (b_cons (s_iff _ (t_or _ (t_and _ (t_cmp .eq _ (by kernel_rfl) (e_var _ _ 2 (by kernel_rfl) (by kernel_rfl) (by kernel_rfl)) (e_var _ _ 0 (by kernel_rfl) (by kernel_rfl) (by kernel_rfl))) (t_and1 _ (t_cmp .lt _ (by kernel_rfl) (e_var _ _ 3 (by kernel_rfl) (by kernel_rfl) (by kernel_rfl)) (e_var _ _ 1 (by kernel_rfl) (by kernel_rfl) (by kernel_rfl))))) (t_or _ (t_and _ (t_cmp .eq _ (by kernel_rfl) (e_var _ _ 3 (by kernel_rfl) (by kernel_rfl) (by kernel_rfl)) (e_var _ _ 0 (by kernel_rfl) (by kernel_rfl) (by kernel_rfl))) (t_and1 _ (t_cmp .lt _ (by kernel_rfl) (e_var _ _ 2 (by kernel_rfl) (by kernel_rfl) (by kernel_rfl)) (e_var _ _ 1 (by kernel_rfl) (by kernel_rfl) (by kernel_rfl))))) (t_or1 _ (t_and _ (t_cmp .eq _ (by kernel_rfl) (e_var _ _ 3 (by kernel_rfl) (by kernel_rfl) (by kernel_rfl)) (e_var _ _ 1 (by kernel_rfl) (by kernel_rfl) (by kernel_rfl))) (t_and1 _ (t_cmp .lt _ (by kernel_rfl) (e_var _ _ 2 (by kernel_rfl) (by kernel_rfl) (by kernel_rfl)) (e_var _ _ 0 (by kernel_rfl) (by kernel_rfl) (by kernel_rfl)))))))) (b_cons (s_ret _ (e_bool _ _ _))
  b_nil) b_nil)
  (b_cons (s_unpackW (xs := [(Str.ofString "straight"), (Str.ofString "crossed_over")]) rfl (sto2 ⟨by decide, (by kernel_rfl), .inl (by kernel_rfl)⟩ ⟨by decide, (by kernel_rfl), .inl (by kernel_rfl)⟩) (by decide) (fun env h => by cases env; cases h; kernel_rfl) (fun env h => by cases env; cases h; kernel_rfl) (l_cons (fun _ => (by kernel_rfl)) (e_tup _ _ (by decide) (l_cons (fun _ => (by kernel_rfl)) (e_bin .sub _ (e_var _ _ 0 (by kernel_rfl) (by kernel_rfl) (by kernel_rfl)) (e_var _ _ 2 (by kernel_rfl) (by kernel_rfl) (by kernel_rfl))) (l_cons (fun _ => (by kernel_rfl)) (e_bin .sub _ (e_var _ _ 1 (by kernel_rfl) (by kernel_rfl) (by kernel_rfl)) (e_var _ _ 3 (by kernel_rfl) (by kernel_rfl) (by kernel_rfl))) (l_nil _)))) (l_cons (fun _ => (by kernel_rfl)) (e_tup _ _ (by decide) (l_cons (fun _ => (by kernel_rfl)) (e_bin .sub _ (e_var _ _ 0 (by kernel_rfl) (by kernel_rfl) (by kernel_rfl)) (e_var _ _ 3 (by kernel_rfl) (by kernel_rfl) (by kernel_rfl))) (l_cons (fun _ => (by kernel_rfl)) (e_bin .sub _ (e_var _ _ 1 (by kernel_rfl) (by kernel_rfl) (by kernel_rfl)) (e_var _ _ 2 (by kernel_rfl) (by kernel_rfl) (by kernel_rfl))) (l_nil _)))) (l_nil _))))
  (b_cons (s_ret _ (e_cmp .ne _ (by kernel_rfl) (e_comp (Γ' := [((Str.ofString "x"), 7), ((Str.ofString "y"), 8), ((Str.ofString "t"), 4)]) (i := 7) (j := 8) _ ⟨rfl, by decide +kernel, by decide +kernel, by decide, by decide, (by kernel_rfl), (by kernel_rfl), (by kernel_rfl), (by kernel_rfl), lk_all (by decide +kernel), clos_of (by decide +kernel) (by decide +kernel)⟩ (fun _ _ => (by kernel_rfl)) (e_tup _ _ (by decide) (l_cons (fun _ => (by kernel_rfl)) (e_var _ _ 5 (by kernel_rfl) (by kernel_rfl) (by kernel_rfl)) (l_cons (fun _ => (by kernel_rfl)) (e_var _ _ 6 (by kernel_rfl) (by kernel_rfl) (by kernel_rfl)) (l_nil _)))) (e_int _ _ _) (t_and _ (t_cmp .gt _ (by kernel_rfl) (e_var _ _ 7 (by kernel_rfl) (by kernel_rfl) (by kernel_rfl)) (e_int _ _ _)) (t_and _ (t_cmp .gt _ (by kernel_rfl) (e_var _ _ 8 (by kernel_rfl) (by kernel_rfl) (by kernel_rfl)) (e_int _ _ _)) (t_and1 _ (t_cmp .lt _ (by kernel_rfl) (e_abs G.g_abs G.m_abs (by kernel_rfl) (fun _ => (by kernel_rfl)) (e_bin .sub _ (e_var _ _ 7 (by kernel_rfl) (by kernel_rfl) (by kernel_rfl)) (e_var _ _ 8 (by kernel_rfl) (by kernel_rfl) (by kernel_rfl)))) (e_var _ _ 4 (by kernel_rfl) (by kernel_rfl) (by kernel_rfl))))))) (e_list _ (by decide) (l_nil _))))
  b_nil)))
theorem bind_law_leads {fd : FuncData} (hp : fd.params = argsAt 41) (hd : fd.defaults = .none) (hk : fd.kwdefaults = .none) : ∀ xs : List Value, xs.length = 5 → bindArgs fd ⟨xs, []⟩ = pure ([(Str.ofString "a"), (Str.ofString "b"), (Str.ofString "c"), (Str.ofString "d"), (Str.ofString "t")].zip xs)
  | [v0, v1, v2, v3, v4], _ => by unfold bindArgs; rw [hp, hd, hk]; kernel_rfl
theorem ok_law_leads {c : Cx} (G : Facts c) (h : DefAt c.mg c.h₀ 41 (c.fa 33)) : ∃ o fd body pn Γ, FnOk c 33 f_law_leads o fd body pn Γ :=
  fnOk_of (pn := [(Str.ofString "a"), (Str.ofString "b"), (Str.ofString "c"), (Str.ofString "d"), (Str.ofString "t")]) h (fun _ => bind_law_leads) rfl (by decide +kernel) (by decide +kernel) (by decide +kernel) (by decide +kernel) (by kernel_rfl) (by kernel_rfl) (by kernel_rfl) (d_law_leads G)
theorem d_law_lost {c : Cx} (G : Facts c) : SndB c (scopeAt 42) [((Str.ofString "many"), 0), ((Str.ofString "t"), 1), ((Str.ofString "found"), 2), ((Str.ofString "b"), 3), ((Str.ofString "a"), 4)] (bodyAt 42) b_law_lost :=
  (b_cons (s_unpackT (.cons (.cons .nil)) rfl (sto2 ⟨by decide, (by kernel_rfl), .inl (by kernel_rfl)⟩ ⟨by decide, (by kernel_rfl), .inr (by kernel_rfl)⟩) (by decide) (fun env h => by cases env; cases h; kernel_rfl) (fun env h => by cases env; cases h; kernel_rfl) (l_cons (fun _ => (by kernel_rfl)) (e_list _ (by decide) (l_nil _)) (l_cons (fun _ => (by kernel_rfl)) (e_int _ _ _) (l_nil _))))
  (b_cons (s_while _ (t_cmp .lt _ (by kernel_rfl) (e_len G.g_len G.m_len (by kernel_rfl) (fun _ => (by kernel_rfl)) (e_var _ _ 2 (by kernel_rfl) (by kernel_rfl) (by kernel_rfl))) (e_var _ _ 0 (by kernel_rfl) (by kernel_rfl) (by kernel_rfl))) (b_cons (s_for1 G.g_range G.m_range (by kernel_rfl) (fun _ => (by kernel_rfl)) (fun _ _ => (by kernel_rfl)) ⟨by decide, (by kernel_rfl), .inr (by kernel_rfl)⟩ (e_bin .add _ (e_var _ _ 3 (by kernel_rfl) (by kernel_rfl) (by kernel_rfl)) (e_int _ _ _)) (b_cons (s_iff _ (t_cmp .eq _ (by kernel_rfl) (e_comp (Γ' := [((Str.ofString "c"), 5), ((Str.ofString "d"), 6), ((Str.ofString "t"), 1), ((Str.ofString "b"), 3), ((Str.ofString "a"), 4)]) (i := 5) (j := 6) _ ⟨rfl, by decide +kernel, by decide +kernel, by decide, by decide, (by kernel_rfl), (by kernel_rfl), (by kernel_rfl), (by kernel_rfl), lk_all (by decide +kernel), clos_of (by decide +kernel) (by decide +kernel)⟩ (fun _ _ => (by kernel_rfl)) (e_var _ _ 2 (by kernel_rfl) (by kernel_rfl) (by kernel_rfl)) (e_int _ _ _) (t_plain (fun _ _ => (by kernel_rfl)) (e_call (fun _ => (by kernel_rfl)) (e_glob _ _ 33 G.f_law_leads (by kernel_rfl) (by kernel_rfl)) (l_cons (fun _ => (by kernel_rfl)) (e_var _ _ 4 (by kernel_rfl) (by kernel_rfl) (by kernel_rfl)) (l_cons (fun _ => (by kernel_rfl)) (e_var _ _ 3 (by kernel_rfl) (by kernel_rfl) (by kernel_rfl)) (l_cons (fun _ => (by kernel_rfl)) (e_var _ _ 5 (by kernel_rfl) (by kernel_rfl) (by kernel_rfl)) (l_cons (fun _ => (by kernel_rfl)) (e_var _ _ 6 (by kernel_rfl) (by kernel_rfl) (by kernel_rfl)) (l_cons (fun _ => (by kernel_rfl)) (e_var _ _ 1 (by kernel_rfl) (by kernel_rfl) (by kernel_rfl)) (l_nil _))))))))) (e_list _ (by decide) (l_nil _))) (b_cons (s_append _ _ _ _ (fun _ => (by kernel_rfl)) (fun _ => rfl) (fun _ => (by kernel_rfl)) (e_var _ _ 2 (by kernel_rfl) (by kernel_rfl) (by kernel_rfl)) (e_tup _ _ (by decide) (l_cons (fun _ => (by kernel_rfl)) (e_var _ _ 4 (by kernel_rfl) (by kernel_rfl) (by kernel_rfl)) (l_cons (fun _ => (by kernel_rfl)) (e_var _ _ 3 (by kernel_rfl) (by kernel_rfl) (by kernel_rfl)) (l_nil _)))))
  b_nil) b_nil)
  b_nil))
  (b_cons (s_asg ⟨by decide, (by kernel_rfl), .inr (by kernel_rfl)⟩ (fun _ => (by kernel_rfl)) (e_bin .add _ (e_var _ _ 3 (by kernel_rfl) (by kernel_rfl) (by kernel_rfl)) (e_int _ _ _)))
  b_nil)))
  (b_cons (s_ret _ (e_var _ _ 2 (by kernel_rfl) (by kernel_rfl) (by kernel_rfl)))
  b_nil)))
theorem bind_law_lost {fd : FuncData} (hp : fd.params = argsAt 42) (hd : fd.defaults = .none) (hk : fd.kwdefaults = .none) : ∀ xs : List Value, xs.length = 2 → bindArgs fd ⟨xs, []⟩ = pure ([(Str.ofString "many"), (Str.ofString "t")].zip xs)
  | [v0, v1], _ => by unfold bindArgs; rw [hp, hd, hk]; kernel_rfl
theorem ok_law_lost {c : Cx} (G : Facts c) (h : DefAt c.mg c.h₀ 42 (c.fa 34)) : ∃ o fd body pn Γ, FnOk c 34 f_law_lost o fd body pn Γ :=
  fnOk_of (pn := [(Str.ofString "many"), (Str.ofString "t")]) h (fun _ => bind_law_lost) rfl (by decide +kernel) (by decide +kernel) (by decide +kernel) (by decide +kernel) (by kernel_rfl) (by kernel_rfl) (by kernel_rfl) (d_law_lost G)
end Mine

namespace Mine
open PySem PySem.W PySem.Calls PyProof.Rows
noncomputable def b_rest : DenS := sSeq (sAsg 5 (cCall (cLit (.fn 34)) [(cBin .add (cVar 4) (cLit (.int 1))), (cVar 3)])) (sSeq (sFor1 6 (cBin .add (cVar 4) (cLit (.int 1))) (sSeq (sIff (cCmp .ne (cCall (cLit (.fn 32)) [(cVar 6), (cVar 3), (cVar 2)]) (cTup [(cCall (cLit (.fn 31)) [(cIdx (cIdx (cVar 5) (cVar 6)) (cLit (.int 0))), (cVar 2)]), (cCall (cLit (.fn 31)) [(cIdx (cIdx (cVar 5) (cVar 6)) (cLit (.int 1))), (cVar 2)])])) (sSeq (sRet (cLit (.bool false))) sSkip) sSkip) sSkip)) (sSeq (sRet (cLit (.bool true))) sSkip))
noncomputable def good (r : Rs) : Bool := match r with
  | .ret (.bool b) _ => b
  | _ => false
noncomputable def rest (w t m : Nat) : Bool := good (b_rest (callN P0 40) [.unb, .unb, .int (.ofNat w), .int (.ofNat t), .int (.ofNat m), .unb, .unb] ⟨.nil, 0⟩)
theorem r_1_2 : ([3, 4, 5, 6, 7, 8].all fun w => rest w 1 2) = true := by kernel_rfl
theorem r_1_3 : ([3, 4, 5, 6, 7, 8].all fun w => rest w 1 3) = true := by kernel_rfl
theorem r_1_4 : ([3, 4, 5, 6, 7, 8].all fun w => rest w 1 4) = true := by kernel_rfl
theorem r_2_2 : ([3, 4, 5, 6, 7, 8].all fun w => rest w 2 2) = true := by kernel_rfl
theorem r_2_3 : ([3, 4, 5, 6, 7, 8].all fun w => rest w 2 3) = true := by kernel_rfl
theorem r_2_4 : ([3, 4, 5, 6, 7, 8].all fun w => rest w 2 4) = true := by kernel_rfl
theorem r_3_2 : ([3, 4, 5, 6, 7, 8].all fun w => rest w 3 2) = true := by kernel_rfl
theorem r_3_3 : ([3, 4, 5, 6, 7, 8].all fun w => rest w 3 3) = true := by kernel_rfl
theorem r_3_4 : ([3, 4, 5, 6, 7, 8].all fun w => rest w 3 4) = true := by kernel_rfl
end Mine

namespace Mine
open PySem PySem.W PySem.Calls PyProof.Rows

noncomputable def den_coins (xs : List Nat) : Den := fun _ vals Hp => match nth vals 0 with
  | some (.fn k) => match Nat.beq k 36 with
    | true => alloc (.list (xs.map fun n => V.int (.ofNat n))) Hp
    | false => .err
  | _ => .err
def Coin (v y : Value) : Prop := ∃ (n : Int) (t u : Tok), v = .int n t ∧ y = .int (.ofNat n.natAbs) u
theorem ints_at {items : List Value} {ns : List Int} (h : IntsAre items ns) : ∀ {j : Nat} {v : Value}, items[j]? = some v → ∃ n t, v = .int n t ∧ ns[j]? = some n := by
  induction h with
  | nil => intro j v e; simp at e
  | cons n t _ ih =>
    intro j v e
    cases j with
    | zero => cases e; exact ⟨n, t, rfl, rfl⟩
    | succ j =>
      obtain ⟨m, u, e1, e2⟩ := ih (by simpa using e)
      exact ⟨m, u, e1, by simpa using e2⟩
theorem ints_take {items : List Value} {ns : List Int} (h : IntsAre items ns) : ∀ k, IntsAre (items.take k) (ns.take k) := by
  induction h with
  | nil => intro k; simpa using IntsAre.nil
  | cons n t _ ih =>
    intro k
    cases k with
    | zero => simpa using IntsAre.nil
    | succ k => simpa using IntsAre.cons n t (ih k)
theorem coins_rel {fa : Nat → Addr} {as : List Addr} : ∀ {vs ys : List Value} {ns : List Int}, IntsAre vs ns → Paired Coin vs ys → VRs fa as ((ns.map Int.natAbs).map fun n => V.int (.ofNat n)) ys
  | _, _, _, .nil, .nil => .nil
  | _, _, _, .cons n t h, .cons hc r => by
    obtain ⟨m, t', u, e, rfl⟩ := hc
    cases e
    exact .cons (.int _ _) (coins_rel h r)

section
variable {c : Cx} {sc : Scope} {Γ : List (Str × Nat)}
theorem relab_lookup {x : Str} {kk : NameKind} : ∀ {names : List (Str × NameKind)}, names.lookup x = some kk → kk ≠ .free →
    (names.map fun (n, k) => if (k == NameKind.free && sc.kind == .function && sc.names.lookup n == some .cell) then (n, NameKind.cell) else (n, k)).lookup x = some kk
  | (n, k) :: r, e, hk => by
    have ih := relab_lookup (x := x) (names := r) (kk := kk)
    rw [List.map_cons]
    dsimp only
    rw [List.lookup_cons] at e
    by_cases hc : (k == NameKind.free && sc.kind == .function && sc.names.lookup n == some .cell) = true
    · rw [if_pos hc, List.lookup_cons]
      cases q : x == n with
      | true =>
        rw [q] at e
        cases e
        simp only [Bool.and_eq_true, beq_iff_eq] at hc
        exact absurd hc.1.1 hk
      | false => rw [q] at e; exact ih e hk
    · rw [if_neg hc, List.lookup_cons]
      cases q : x == n with
      | true => rw [q] at e; exact e
      | false => rw [q] at e; exact ih e hk
theorem coins_core {ns : List Int} {items : List Value} {scope : Scope} {p1 p2 p3 p4 p5 : Pos} {A : Around} {env : Env} {as1 : List Addr} {Hp : H} {s : Shared} {h1 : Heap} {tk1 : Tok} {Q : Value → Shared → Prop} (G : Facts c) (S : EnvS sc env) (I1 : Inv c as1 Hp h1)
    (hi : IntsAre items ns) (hlen : items.length ≤ 63) (hkind : scope.kind = .function) (hfree : ∀ z ∈ scope.names, z.2 ≠ .free) (hcell : ∀ z ∈ scope.names, z.2 ≠ .cell)
    (hx : scope.names.lookup (Str.ofString "coin") = some .local) (ha : scope.names.lookup (Str.ofString "abs") = some .globalImplicit) (hint : scope.names.lookup (Str.ofString "int") = some .globalImplicit)
    (hA : A.handled = none)
    (p : PostR c as1 { s with heap := h1, toks := tk1 } (alloc (.list (((ns.take 3).map Int.natAbs).map fun n => V.int (.ofNat n))) Hp) Q)
    (h2 : Heap) (a : Addr) (tk2 : Tok) (g : ∀ b o, h1.get? b = some o → h2.get? b = some o) (hl : h2.IsList a (items.take 3).toArray) :
    wpAny (model c.prog c.w) A (pyIter (.ref a)) (fun it s₂ => ∃ I fp wr n P St, it = .ref I ∧ Walks c.prog c.w A I fp wr n P St ∧ n ≤ sizeLine ∧ St 0 s₂.heap ∧ (∀ b ∈ fp, b < s₂.heap.objs.size) ∧
      QuietOnC c.prog c.w A env scope [] (Str.ofString "coin") [] (.Call (.Name (Str.ofString "abs") p1) [.Call (.Name (Str.ofString "int") p2) [.Name (Str.ofString "coin") p3] [] p4] [] p5) wr P (fun _ => true) Coin s₂ ∧
      (∀ D h' tk ys (vs : List Value), s₂.heap.get? D = none → h'.IsList D ys → h'.PlainList D ys → vs.length = n → (∀ j v, vs[j]? = some v → P j v) → Paired Coin (vs.filter fun _ => true) ys.toList →
        (∀ b o, b ∉ wr → s₂.heap.get? b = some o → h'.get? b = some o) → Q (.ref D) { s₂ with heap := h', toks := tk })) F' { s with heap := h2, toks := tk2 } := by
  have hz := sizeLine_ge
  refine wpAny_pyIter_list (s := { s with heap := h2, toks := tk2 }) hl ?_
  dsimp only
  have g3 : ∀ b o, h2.get? b = some o → (h2.push { cls := .type "list_iterator", data := .fields #[.ref a, .int 0 0] }).get? b = some o := fun b o e => Heap.get?_push_of_some _ e
  have alive : ∃ o, h2.get? a = some o := let ⟨o, ho, _⟩ := hl; ⟨o, ho⟩
  have hai : a < h2.objs.size := let ⟨o, ho⟩ := alive; Heap.lt_size ho
  have hsz : (h2.push { cls := .type "list_iterator", data := .fields #[.ref a, .int 0 0] }).objs.size = h2.objs.size + 1 := Heap.size_push ..
  have fr : h1.get? h2.objs.size = none := by
    cases e : h1.get? h2.objs.size with
    | none => rfl
    | some o => exact absurd (Heap.lt_size (g _ _ e)) (Nat.lt_irrefl _)
  refine ⟨h2.objs.size, [h2.objs.size, a], [h2.objs.size], _, _, _, rfl, Walks.list hA h2.objs.size a (Nat.ne_of_lt hai) (items.take 3).toArray, ?_, ⟨⟨_, Heap.get?_push_size _ rfl, rfl, rfl⟩, hl.at fun o e => g3 _ o e⟩, fun b hb => ?_, ⟨?_, ?_⟩, ?_⟩
  · rw [List.size_toArray, List.length_take]; omega
  · rw [hsz]
    rcases List.mem_cons.mp hb with rfl | hb
    · exact Nat.lt_succ_self _
    · rw [List.mem_singleton.mp hb]; exact Nat.lt_succ_of_lt hai
  · intro C i v s₃ m₃ E' _ _ _ _ _ _
    exact wpAny_tests_nil ⟨rfl, s₃.heap, s₃.toks, rfl, fun _ _ e => e⟩
  · intro C i v s₃ m₃ E' hC hv _ hn hm hk htk
    obtain ⟨n, t, rfl, _⟩ := ints_at (ints_take hi 3) (by simpa using hv)
    have S' : EnvS (relab scope sc) (compEnvC scope [] C env) := ⟨by rw [← S.scope]; rfl, hkind, S.globals, S.builtins, fun z hz => by
      exfalso
      obtain ⟨q, hq, e⟩ := List.mem_map.mp (lookup_memK hz)
      obtain ⟨n, k⟩ := q
      dsimp only at e
      split at e
      · rename_i w
        simp only [Bool.and_eq_true, beq_iff_eq] at w
        exact hfree _ hq w.1.1
      · cases e
        exact hcell _ hq rfl⟩
    have hb : ∀ b o, c.h₀.get? b = some o → s₃.heap.get? b = some o := fun b o e => hk b o (fun m => by
      rw [List.mem_singleton.mp m] at e
      have := I1.base _ _ e
      rw [fr] at this; cases this) (g3 _ _ (g _ _ (I1.base _ _ e)))
    have kn : ∀ x kk, scope.names.lookup x = some kk → kk ≠ .free → (relab scope sc).names.lookup x = some kk := fun x kk e hk => relab_lookup e hk
    refine wpAny_mono (E := F') (Q := fun y s₄ => Coin (.int n t) y ∧ Keeps s₃ s₄) ?_ (fun _ _ z => z) fun _ _ z => z.elim
    refine Call_ (n_boot S' hb _ p1 G.g_abs G.m_abs (kn _ _ ha (by simp)) (by kernel_rfl) ?_)
    refine callWith_builtin1 ?_ rfl
    refine args_cons ?_ rfl
    refine Call_ (n_boot S' hb _ p2 G.g_int G.m_int (kn _ _ hint (by simp)) (by kernel_rfl) ?_)
    refine PyProof.Rows.callWith_type1 ?_ rfl
    refine args_cons (wpAny_Name (wpAny_loadName_local S'.fn ?_ hn hm ?_) (by kernel_rfl)) rfl
    · show (compEnvC scope [] C env).kindOf _ = _
      unfold Env.kindOf
      rw [S'.scope]; exact kn _ _ hx (by simp)
    · refine args_nil (call_int_int (args_nil (call_abs_int fun u tk => ?_)))
      refine ⟨⟨n, t, u, rfl, ?_⟩, s₃.heap, tk, rfl, fun _ _ e => e⟩
      congr 1
      show _ = ((n.natAbs : Nat) : Int)
      split <;> omega
  · intro D h' tk ys vs hD hlD hpD hlen' hP hF hk
    have hvs : vs = items.take 3 := by
      apply List.ext_getElem?
      intro j
      cases e : vs[j]? with
      | some v =>
        have := hP j v e
        rw [← this]; simp
      | none =>
        have := List.getElem?_eq_none_iff.mp e
        rw [eq_comm, List.getElem?_eq_none_iff]
        rw [hlen', List.size_toArray] at this
        exact this
    rw [List.filter_eq_self.mpr (fun _ _ => rfl), hvs] at hF
    obtain ⟨nn, hg⟩ := hpD
    have hD1 : h1.get? D = none := by
      cases e : h1.get? D with
      | none => rfl
      | some o =>
        have := g3 _ _ (g _ _ e)
        rw [show (h2.push { cls := .type "list_iterator", data := .fields #[.ref a, .int 0 0] }).get? D = none from hD] at this; cases this
    refine alloc_post (s := { s with heap := h1, toks := tk1 }) I1 p (fun b o e => hk b o (fun m => ?_) (g3 _ _ (g _ _ e))) hD1 ?_ (.list (n := nn) (items := ys.toList) ?_ (coins_rel (ints_take hi 3) hF)) tk
    · rw [List.mem_singleton.mp m, fr] at e; cases e
    · cases e : c.h₀.get? D with
      | none => rfl
      | some o => have := I1.base _ _ e; rw [hD1] at this; cases this
    · rw [hg]

theorem e_coins {ns : List Int} {items : List Value} {scope : Scope} {k : Nat} {p1 p2 p3 p4 p5 p6 p7 p8 p9 p10 pos : Pos} (G : Facts c) (hl : c.h₀.IsList (c.fa 36) items.toArray) (hi : IntsAre items ns) (hlen : items.length ≤ 63)
    (hkind : scope.kind = .function) (hnames : ∀ z ∈ scope.names, z.2 = .local → scope.names.lookup z.1 = some .local) (hfree : ∀ z ∈ scope.names, z.2 ≠ .free) (hcell : ∀ z ∈ scope.names, z.2 ≠ .cell)
    (hx : scope.names.lookup (Str.ofString "coin") = some .local) (ha : scope.names.lookup (Str.ofString "abs") = some .globalImplicit) (hint : scope.names.lookup (Str.ofString "int") = some .globalImplicit)
    (hΓ : Γ.lookup (Str.ofString "script") = some 0) :
    SndE c sc Γ (.ListComp (.Call (.Name (Str.ofString "abs") p1) [.Call (.Name (Str.ofString "int") p2) [.Name (Str.ofString "coin") p3] [] p4] [] p5)
      [⟨.Name (Str.ofString "coin") p6, .Subscript (.Name (Str.ofString "script") p7) (.Slice none (some (.Constant (.int 3) k p8)) none p9) p10, [], 0⟩] scope pos) (den_coins ((ns.take 3).map Int.natAbs)) := fun C d A env as vals Hp s Q hC hA S I R p => by
  unfold den_coins at p
  split at p
  · rename_i k0 hv
    split at p
    · rename_i hk0
      have hk0' : k0 = 36 := Nat.eq_of_beq_eq_true hk0
      subst hk0'
      rw [nth_eq] at hv
      refine wpAny_ListComp_free (fun _ => true) Coin (closureFor_none hfree) hcell hkind hnames hx ?_
      refine wpAny_Subscript_list_slice (e_var (c := c) (sc := sc) (Γ := Γ) _ _ 0 hΓ (by kernel_rfl) (by kernel_rfl) C d A env as vals Hp s _ hC hA S I R ?_)
      rw [cVar_eq, hv]
      intro val as1 h1 tk1 I1 X1 V1
      replace p : PostR c as1 { s with heap := h1, toks := tk1 } (alloc (.list (((ns.take 3).map Int.natAbs).map fun n => V.int (.ofNat n))) Hp) Q := PostR.later p X1
      cases V1
      refine evalPart_none_step (evalPart_some_step (wpAny_Constant_int ?_))
      have hl1 : h1.IsList (c.fa 36) items.toArray := hl.at fun o e => I1.base _ o e
      have hz := sizeLine_ge
      refine ⟨c.fa 36, items.toArray, none, some 3, rfl, hl1, by rw [List.size_toArray]; omega, .none, .int _ _, ?_⟩
      rw [show slicePick items.toArray none (some 3) none = (items.take 3).toArray from pick_take items 3]
      have hq : ∀ o1 : Obj, ((h1.push o1).push { cls := .type "list", data := .seq (items.take 3).toArray }).IsList (h1.objs.size + 1) (items.take 3).toArray := fun o1 => ⟨_, by rw [← Heap.size_push h1 o1]; exact Heap.get?_push_size _ rfl, rfl, 0, rfl⟩
      refine coins_core (tk1 := tk1) G S I1 hi hlen hkind hfree hcell hx ha hint hA.handled p _ _ _ (fun b o e => Heap.get?_push_of_some _ (Heap.get?_push_of_some _ e)) (hq _)
    · exact p.elim
  · exact p.elim
end
end Mine

namespace Mine
open PySem PySem.W PySem.Calls PyProof.Rows
noncomputable def vals0 : List V := [.fn 36] ++ List.replicate 6 .unb
noncomputable def b_law : DenS := fun C vals Hp => @ite Rs (C = callN P0 40 ∧ vals = vals0 ∧ Hp = ⟨.nil, 0⟩) (Classical.propDecidable _) (.ret (.bool true) ⟨.nil, 0⟩) .err
noncomputable def f_law : Fn := ⟨1, 6, b_law⟩
noncomputable def b_one (xs : List Nat) : DenS := sAsg 1 (cList [cLit (.int 0), den_coins xs])
noncomputable def b_two : DenS := (sUnpackW [4, 3, 2] [(cBin .add (cLit (.int 3)) (cCall (cLit (.fn 30)) [(cVar 1), (cLit (.int 6))])), (cBin .add (cLit (.int 1)) (cCall (cLit (.fn 30)) [(cVar 1), (cLit (.int 3))])), (cBin .add (cLit (.int 2)) (cCall (cLit (.fn 30)) [(cVar 1), (cLit (.int 3))]))])
noncomputable def heapOf (r : Rs) : H := match r with
  | .next _ h => h
  | _ => ⟨.nil, 0⟩
theorem rest_ok {w t m : Nat} (w1 : 3 ≤ w) (w2 : w ≤ 8) (t1 : 1 ≤ t) (t2 : t ≤ 3) (m1 : 2 ≤ m) (m2 : m ≤ 4) : rest w t m = true := by
  have hw : w ∈ [3, 4, 5, 6, 7, 8] := by
    have : w = 3 ∨ w = 4 ∨ w = 5 ∨ w = 6 ∨ w = 7 ∨ w = 8 := by omega
    rcases this with rfl | rfl | rfl | rfl | rfl | rfl <;> decide
  have ht : t = 1 ∨ t = 2 ∨ t = 3 := by omega
  have hm : m = 2 ∨ m = 3 ∨ m = 4 := by omega
  rcases ht with rfl | rfl | rfl <;> rcases hm with rfl | rfl | rfl
  · exact List.all_eq_true.mp r_1_2 w hw
  · exact List.all_eq_true.mp r_1_3 w hw
  · exact List.all_eq_true.mp r_1_4 w hw
  · exact List.all_eq_true.mp r_2_2 w hw
  · exact List.all_eq_true.mp r_2_3 w hw
  · exact List.all_eq_true.mp r_2_4 w hw
  · exact List.all_eq_true.mp r_3_2 w hw
  · exact List.all_eq_true.mp r_3_3 w hw
  · exact List.all_eq_true.mp r_3_4 w hw
noncomputable def mid (xs : List Nat) : Rs := (b_one xs (callN P0 40) vals0 ⟨.nil, 0⟩).bind (b_two (callN P0 40))
theorem one_ok (xs : List Nat) : b_one xs (callN P0 40) vals0 ⟨.nil, 0⟩ = .next [.fn 36, .ref 1, .unb, .unb, .unb, .unb, .unb] (heapOf (b_one xs (callN P0 40) vals0 ⟨.nil, 0⟩)) := by kernel_rfl
def MidOk (xs : List Nat) : Prop := ∃ w t m : Nat, 3 ≤ w ∧ w ≤ 8 ∧ 1 ≤ t ∧ t ≤ 3 ∧ 2 ≤ m ∧ m ≤ 4 ∧ mid xs = .next [.fn 36, .ref 1, .int (.ofNat w), .int (.ofNat t), .int (.ofNat m), .unb, .unb] (heapOf (mid xs))
theorem draw6 (a : Nat) : Int.add 3 (Int.fmod (.ofNat a) 6) = .ofNat (3 + a % 6) := by
  show (3 : Int) + Int.fmod (a : Int) 6 = ((3 + a % 6 : Nat) : Int)
  rw [Int.fmod_eq_emod_of_nonneg _ (by decide)]; omega
theorem draw3 (b a : Nat) : Int.add (.ofNat b) (Int.fmod (.ofNat a) 3) = .ofNat (b + a % 3) := by
  show (b : Int) + Int.fmod (a : Int) 3 = ((b + a % 3 : Nat) : Int)
  rw [Int.fmod_eq_emod_of_nonneg _ (by decide)]; omega
theorem mid_of {xs : List Nat} (a b c : Nat) (e : mid xs = .next [.fn 36, .ref 1, .int (Int.add 3 (Int.fmod (.ofNat a) 6)), .int (Int.add 1 (Int.fmod (.ofNat b) 3)), .int (Int.add 2 (Int.fmod (.ofNat c) 3)), .unb, .unb] (heapOf (mid xs))) : MidOk xs := by
  have e1 : Int.add 1 (Int.fmod (.ofNat b) 3) = .ofNat (1 + b % 3) := draw3 1 b
  have e2 : Int.add 2 (Int.fmod (.ofNat c) 3) = .ofNat (2 + c % 3) := draw3 2 c
  rw [draw6, e1, e2] at e
  exact ⟨3 + a % 6, 1 + b % 3, 2 + c % 3, by omega, by omega, by omega, by omega, by omega, by omega, e⟩
theorem mid_ok : ∀ xs : List Nat, xs.length ≤ 3 → MidOk xs
  | [], _ => mid_of 12 19 27 (by kernel_rfl)
  | [a], _ => mid_of a 19 27 (by kernel_rfl)
  | [a, b], _ => mid_of a b 27 (by kernel_rfl)
  | [a, b, c], _ => mid_of a b c (by kernel_rfl)
  | _ :: _ :: _ :: _ :: _, h => by simp at h
section
variable {c : Cx} {sc : Scope} {Γ : List (Str × Nat)}
theorem Inv.forget {as : List Addr} {Hp : H} {h : Heap} (I : Inv c as Hp h) : Inv c [] ⟨.nil, 0⟩ h :=
  ⟨rfl, fun i a e => by simp at e, fun i j a e => by simp at e, I.base, fun a m => (nomatch m), Nat.zero_le _⟩
theorem Ext.forget {P as' : List Addr} {h h' h'' : Heap} (x : Ext P [] h as h') (y : Ext P [] h' as' h'') : Ext P [] h [] h'' :=
  ⟨.refl _, fun b o m m' e => y.keep b o m m' (x.keep b o m m' e), fun b o e => let ⟨o', e'⟩ := x.alive b o e; y.alive b o' e', fun a m => (nomatch m)⟩
theorem EnvR.forget {env : Env} {as : List Addr} {vals vals' : List V} {h : Heap} (R : EnvR c env Γ as vals h) (k : ∀ (n : Nat) (v : V), vals'[n]? = some v → v ≠ V.unb → vals[n]? = some v ∧ ∃ i, v = .int i) : EnvR c env Γ [] vals' h :=
  ⟨R.ns, R.cells, fun a _ m => (nomatch m), R.inj, R.cellL, R.new, fun x i v hi hv hu => by
    obtain ⟨hv', j, rfl⟩ := k i v hv hu
    obtain ⟨val, V, hA⟩ := R.var x i _ hi hv' hu
    cases V
    exact ⟨_, .int _ _, hA⟩⟩
theorem law_core {st1 st2 : Stmt} {rst : List Stmt} {xs : List Nat} (hx : xs.length ≤ 3) (h1 : SndS c sc Γ st1 (b_one xs)) (h2 : SndS c sc Γ st2 b_two) (h3 : SndB c sc Γ rst b_rest) : SndB c sc Γ (st1 :: st2 :: rst) b_law := fun C d A env as vals Hp s Q hC hA S I R p => by
  unfold b_law at p
  split at p
  · rename_i hq
    obtain ⟨rfl, rfl, rfl⟩ := hq
    have has : as = [] := List.length_eq_zero_iff.mp I.len
    subst has
    obtain ⟨w, t, m, w1, w2, t1, t2, m1, m2, hm⟩ := mid_ok xs hx
    unfold mid at hm
    refine wpAny_execs_cons (h1 (callN P0 40) d A env [] vals0 ⟨.nil, 0⟩ s _ hC hA S I R ?_)
    generalize hr1 : b_one xs (callN P0 40) vals0 ⟨.nil, 0⟩ = r1 at hm ⊢
    have ho := one_ok xs
    rw [hr1] at ho
    rw [ho] at hm ⊢
    intro as1 h1' tk1 I1 X1 R1
    refine wpAny_execs_cons (h2 (callN P0 40) d A env as1 _ _ _ _ hC hA S I1 R1 ?_)
    generalize hr2 : b_two (callN P0 40) [.fn 36, .ref 1, .unb, .unb, .unb, .unb, .unb] (heapOf r1) = r2
    have hm2 : r2 = .next [.fn 36, .ref 1, .int (.ofNat w), .int (.ofNat t), .int (.ofNat m), .unb, .unb] (heapOf r2) := by
      have hm' : b_two (callN P0 40) [.fn 36, .ref 1, .unb, .unb, .unb, .unb, .unb] (heapOf r1) = .next [.fn 36, .ref 1, .int (.ofNat w), .int (.ofNat t), .int (.ofNat m), .unb, .unb] (heapOf (b_two (callN P0 40) [.fn 36, .ref 1, .unb, .unb, .unb, .unb, .unb] (heapOf r1))) := hm
      rw [hr2] at hm'
      exact hm'
    rw [hm2]
    intro as2 h2' tk2 I2 X2 R2
    have hrest := rest_ok w1 w2 t1 t2 m1 m2
    unfold rest at hrest
    have R3 : EnvR c env Γ [] [.unb, .unb, .int (.ofNat w), .int (.ofNat t), .int (.ofNat m), .unb, .unb] h2' := R2.forget fun n v hv hu => by
      rcases n with _ | _ | _ | _ | _ | _ | _ | n
      · cases hv; exact absurd rfl hu
      · cases hv; exact absurd rfl hu
      · cases hv; exact ⟨rfl, _, rfl⟩
      · cases hv; exact ⟨rfl, _, rfl⟩
      · cases hv; exact ⟨rfl, _, rfl⟩
      · cases hv; exact absurd rfl hu
      · cases hv; exact absurd rfl hu
      · simp at hv
    have X12 := X1.trans X2
    refine h3 (callN P0 40) d A env [] _ ⟨.nil, 0⟩ _ _ hC hA S I2.forget R3 ?_
    generalize b_rest (callN P0 40) [.unb, .unb, .int (.ofNat w), .int (.ofNat t), .int (.ofNat m), .unb, .unb] ⟨.nil, 0⟩ = r3 at hrest ⊢
    unfold good at hrest
    split at hrest
    · rename_i b H3
      subst hrest
      intro val as3 h3' tk3 I3 X3 V3
      cases V3
      exact p _ [] h3' tk3 I3.forget (X12.forget X3) (.bool true)
    · cases hrest
  · exact p.elim
end
theorem d_law {c : Cx} (G : Facts c) {ns : List Int} {items : List Value} (hl : c.h₀.IsList (c.fa 36) items.toArray) (hi : IntsAre items ns) (hlen : items.length ≤ 63) : SndB c (scopeAt 43) [((Str.ofString "script"), 0), ((Str.ofString "heap"), 1), ((Str.ofString "w"), 2), ((Str.ofString "t"), 3), ((Str.ofString "many"), 4), ((Str.ofString "lost"), 5), ((Str.ofString "k"), 6)] (bodyAt 43) b_law :=
  law_core (xs := (ns.take 3).map Int.natAbs) (by rw [List.length_map, List.length_take]; omega) (s_asg ⟨by decide, (by kernel_rfl), .inl (by kernel_rfl)⟩ (fun _ => (by kernel_rfl)) (e_list _ (by show (2 : Nat) ≤ 1000; decide) (l_cons (fun _ => (by kernel_rfl)) (e_int _ _ _) (l_cons (fun _ => (by kernel_rfl)) (e_coins G hl hi hlen rfl (by decide +kernel) (by decide +kernel) (by decide +kernel) (by kernel_rfl) (by kernel_rfl) (by kernel_rfl) (by kernel_rfl)) (l_nil _)))))
  (s_unpackW (xs := [(Str.ofString "w"), (Str.ofString "t"), (Str.ofString "many")]) rfl (sto3 ⟨by decide, (by kernel_rfl), .inl (by kernel_rfl)⟩ ⟨by decide, (by kernel_rfl), .inl (by kernel_rfl)⟩ ⟨by decide, (by kernel_rfl), .inl (by kernel_rfl)⟩) (by decide) (fun env h => by cases env; cases h; kernel_rfl) (fun env h => by cases env; cases h; kernel_rfl) (l_cons (fun _ => (by kernel_rfl)) (e_bin .add _ (e_int _ _ _) (e_call (fun _ => (by kernel_rfl)) (e_glob _ _ 30 G.f_law_heaped (by kernel_rfl) (by kernel_rfl)) (l_cons (fun _ => (by kernel_rfl)) (e_var _ _ 1 (by kernel_rfl) (by kernel_rfl) (by kernel_rfl)) (l_cons (fun _ => (by kernel_rfl)) (e_int _ _ _) (l_nil _))))) (l_cons (fun _ => (by kernel_rfl)) (e_bin .add _ (e_int _ _ _) (e_call (fun _ => (by kernel_rfl)) (e_glob _ _ 30 G.f_law_heaped (by kernel_rfl) (by kernel_rfl)) (l_cons (fun _ => (by kernel_rfl)) (e_var _ _ 1 (by kernel_rfl) (by kernel_rfl) (by kernel_rfl)) (l_cons (fun _ => (by kernel_rfl)) (e_int _ _ _) (l_nil _))))) (l_cons (fun _ => (by kernel_rfl)) (e_bin .add _ (e_int _ _ _) (e_call (fun _ => (by kernel_rfl)) (e_glob _ _ 30 G.f_law_heaped (by kernel_rfl) (by kernel_rfl)) (l_cons (fun _ => (by kernel_rfl)) (e_var _ _ 1 (by kernel_rfl) (by kernel_rfl) (by kernel_rfl)) (l_cons (fun _ => (by kernel_rfl)) (e_int _ _ _) (l_nil _))))) (l_nil _)))))
  (b_cons (s_asg ⟨by decide, (by kernel_rfl), .inl (by kernel_rfl)⟩ (fun _ => (by kernel_rfl)) (e_call (fun _ => (by kernel_rfl)) (e_glob _ _ 34 G.f_law_lost (by kernel_rfl) (by kernel_rfl)) (l_cons (fun _ => (by kernel_rfl)) (e_bin .add _ (e_var _ _ 4 (by kernel_rfl) (by kernel_rfl) (by kernel_rfl)) (e_int _ _ _)) (l_cons (fun _ => (by kernel_rfl)) (e_var _ _ 3 (by kernel_rfl) (by kernel_rfl) (by kernel_rfl)) (l_nil _)))))
  (b_cons (s_for1 G.g_range G.m_range (by kernel_rfl) (fun _ => (by kernel_rfl)) (fun _ _ => (by kernel_rfl)) ⟨by decide, (by kernel_rfl), .inl (by kernel_rfl)⟩ (e_bin .add _ (e_var _ _ 4 (by kernel_rfl) (by kernel_rfl) (by kernel_rfl)) (e_int _ _ _)) (b_cons (s_iff _ (t_cmp .ne _ (by kernel_rfl) (e_call (fun _ => (by kernel_rfl)) (e_glob _ _ 32 G.f_law_told (by kernel_rfl) (by kernel_rfl)) (l_cons (fun _ => (by kernel_rfl)) (e_var _ _ 6 (by kernel_rfl) (by kernel_rfl) (by kernel_rfl)) (l_cons (fun _ => (by kernel_rfl)) (e_var _ _ 3 (by kernel_rfl) (by kernel_rfl) (by kernel_rfl)) (l_cons (fun _ => (by kernel_rfl)) (e_var _ _ 2 (by kernel_rfl) (by kernel_rfl) (by kernel_rfl)) (l_nil _))))) (e_tup _ _ (by decide) (l_cons (fun _ => (by kernel_rfl)) (e_call (fun _ => (by kernel_rfl)) (e_glob _ _ 31 G.f_law_signed (by kernel_rfl) (by kernel_rfl)) (l_cons (fun _ => (by kernel_rfl)) (e_idx _ (fun _ _ _ => (by kernel_rfl)) (e_idx _ (fun _ _ _ => (by kernel_rfl)) (e_var _ _ 5 (by kernel_rfl) (by kernel_rfl) (by kernel_rfl)) (e_var _ _ 6 (by kernel_rfl) (by kernel_rfl) (by kernel_rfl))) (e_int _ _ _)) (l_cons (fun _ => (by kernel_rfl)) (e_var _ _ 2 (by kernel_rfl) (by kernel_rfl) (by kernel_rfl)) (l_nil _)))) (l_cons (fun _ => (by kernel_rfl)) (e_call (fun _ => (by kernel_rfl)) (e_glob _ _ 31 G.f_law_signed (by kernel_rfl) (by kernel_rfl)) (l_cons (fun _ => (by kernel_rfl)) (e_idx _ (fun _ _ _ => (by kernel_rfl)) (e_idx _ (fun _ _ _ => (by kernel_rfl)) (e_var _ _ 5 (by kernel_rfl) (by kernel_rfl) (by kernel_rfl)) (e_var _ _ 6 (by kernel_rfl) (by kernel_rfl) (by kernel_rfl))) (e_int _ _ _)) (l_cons (fun _ => (by kernel_rfl)) (e_var _ _ 2 (by kernel_rfl) (by kernel_rfl) (by kernel_rfl)) (l_nil _)))) (l_nil _))))) (b_cons (s_ret _ (e_bool _ _ _))
  b_nil) b_nil)
  b_nil))
  (b_cons (s_ret _ (e_bool _ _ _))
  b_nil)))
theorem bind_law {fd : FuncData} (hp : fd.params = argsAt 43) (hd : fd.defaults = .none) (hk : fd.kwdefaults = .none) : ∀ xs : List Value, xs.length = 1 → bindArgs fd ⟨xs, []⟩ = pure ([(Str.ofString "script")].zip xs)
  | [v0], _ => by unfold bindArgs; rw [hp, hd, hk]; kernel_rfl
theorem ok_law {c : Cx} (G : Facts c) (h : DefAt c.mg c.h₀ 43 (c.fa 35)) {ns : List Int} {items : List Value} (hl : c.h₀.IsList (c.fa 36) items.toArray) (hi : IntsAre items ns) (hlen : items.length ≤ 63) : ∃ o fd body pn Γ, FnOk c 35 f_law o fd body pn Γ :=
  fnOk_of (pn := [(Str.ofString "script")]) h (fun _ => bind_law) rfl (by decide +kernel) (by decide +kernel) (by decide +kernel) (by decide +kernel) (by kernel_rfl) (by kernel_rfl) (by kernel_rfl) (d_law G hl hi hlen)
def places : List Nat := [4, 5, 6, 7, 8, 9, 10, 11, 12, 13, 14, 15, 16, 18, 19, 20, 21, 22, 24, 25, 26, 27, 28, 29, 30, 32, 33, 34, 35, 36, 38, 39, 40, 41, 42, 43]
def addrOf (v : Option Value) : Addr := match v with
  | some (.ref a) => a
  | _ => 0
def faN (mg : Str → Option Value) (script : Addr) (k : Nat) : Addr := match places[k]? with
  | some j => addrOf (mg (nameAt j))
  | none => script
def DefsOk (mg : Str → Option Value) (h : Heap) : Prop := ∀ j ∈ places, ∃ a, DefAt mg h j a
theorem def_at {mg : Str → Option Value} {h : Heap} (D : DefsOk mg h) (script : Addr) (k : Nat) {j : Nat} (e : places[k]? = some j) : DefAt mg h j (faN mg script k) := by
  obtain ⟨a, o, pm, code, doc, hm, r⟩ := D j (List.mem_of_getElem? e)
  have : faN mg script k = a := by
    unfold faN
    rw [e]
    show addrOf (mg (nameAt j)) = a
    rw [hm]; rfl
  rw [this]
  exact ⟨o, pm, code, doc, hm, r⟩
theorem def_name {mg : Str → Option Value} {h : Heap} {a : Addr} {j : Nat} (d : DefAt mg h j a) : mg (nameAt j) = some (.ref a) := let ⟨_, _, _, _, e, _⟩ := d; e
def builts : List Str := [(Str.ofString "len"), (Str.ofString "abs"), (Str.ofString "min"), (Str.ofString "range"), (Str.ofString "reversed"), (Str.ofString "enumerate"), (Str.ofString "int")]
theorem facts_of {prog : Program} {w : World} {s₁ : Shared} {mg mb : Str → Option Value} (script : Addr) (g : s₁.heap.Ns mainGlobals mg) (b : s₁.heap.Ns builtinsNs mb) (nl : s₁.heap.NoLimit) (hb : ∀ x : Str, x ≠ "__name__" → mb x = bootBuiltins x) (hn : ∀ x ∈ builts, mg x = none) (D : DefsOk mg s₁.heap) :
    Facts ⟨prog, w, s₁.heap, mg, mb, faN mg script, g, b, nl⟩ where
  g_len := hn _ (List.mem_of_getElem? (i := 0) rfl)
  m_len := (hb _ (by decide +kernel)).trans (by decide +kernel)
  g_abs := hn _ (List.mem_of_getElem? (i := 1) rfl)
  m_abs := (hb _ (by decide +kernel)).trans (by decide +kernel)
  g_min := hn _ (List.mem_of_getElem? (i := 2) rfl)
  m_min := (hb _ (by decide +kernel)).trans (by decide +kernel)
  g_range := hn _ (List.mem_of_getElem? (i := 3) rfl)
  m_range := (hb _ (by decide +kernel)).trans (by decide +kernel)
  g_reversed := hn _ (List.mem_of_getElem? (i := 4) rfl)
  m_reversed := (hb _ (by decide +kernel)).trans (by decide +kernel)
  g_enumerate := hn _ (List.mem_of_getElem? (i := 5) rfl)
  m_enumerate := (hb _ (by decide +kernel)).trans (by decide +kernel)
  g_int := hn _ (List.mem_of_getElem? (i := 6) rfl)
  m_int := (hb _ (by decide +kernel)).trans (by decide +kernel)
  f_normal := def_name (def_at D script 0 rfl)
  f_nat_of := def_name (def_at D script 1 rfl)
  f_compare := def_name (def_at D script 2 rfl)
  f_add := def_name (def_at D script 3 rfl)
  f_sub := def_name (def_at D script 4 rfl)
  f_add_limb := def_name (def_at D script 5 rfl)
  f_add_at := def_name (def_at D script 6 rfl)
  f_divrem_limb := def_name (def_at D script 7 rfl)
  f_shift_left := def_name (def_at D script 8 rfl)
  f_shift_right := def_name (def_at D script 9 rfl)
  f_bits := def_name (def_at D script 10 rfl)
  f_bit := def_name (def_at D script 11 rfl)
  f_split := def_name (def_at D script 12 rfl)
  f_sqrt_small := def_name (def_at D script 13 rfl)
  f_sqrt_plain := def_name (def_at D script 14 rfl)
  f_sqrt_two_limbs := def_name (def_at D script 15 rfl)
  f_sqrt_halves := def_name (def_at D script 16 rfl)
  f_sqrt_rem := def_name (def_at D script 17 rfl)
  f_mul_school := def_name (def_at D script 18 rfl)
  f_divrem_small := def_name (def_at D script 19 rfl)
  f_guessed_limb := def_name (def_at D script 20 rfl)
  f_take_away := def_name (def_at D script 21 rfl)
  f_put_back := def_name (def_at D script 22 rfl)
  f_divide_rows := def_name (def_at D script 23 rfl)
  f_divrem_school := def_name (def_at D script 24 rfl)
  f_signed := def_name (def_at D script 25 rfl)
  f_s_add := def_name (def_at D script 26 rfl)
  f_s_mul := def_name (def_at D script 27 rfl)
  f_tdiv := def_name (def_at D script 28 rfl)
  f_fdiv := def_name (def_at D script 29 rfl)
  f_law_heaped := def_name (def_at D script 30 rfl)
  f_law_signed := def_name (def_at D script 31 rfl)
  f_law_told := def_name (def_at D script 32 rfl)
  f_law_leads := def_name (def_at D script 33 rfl)
  f_law_lost := def_name (def_at D script 34 rfl)
theorem table_ok {c : Cx} (G : Facts c) {script : Addr} (hfa : c.fa = faN c.mg script) (D : DefsOk c.mg c.h₀) : ∀ k F, P0 k = some F → ∃ o fd body pn Γ, FnOk c k F o fd body pn Γ
  | 0, _, h => by cases h; exact ok_normal G (hfa ▸ def_at D script 0 rfl)
  | 1, _, h => by cases h; exact ok_nat_of G (hfa ▸ def_at D script 1 rfl)
  | 2, _, h => by cases h; exact ok_compare G (hfa ▸ def_at D script 2 rfl)
  | 3, _, h => by cases h; exact ok_add G (hfa ▸ def_at D script 3 rfl)
  | 4, _, h => by cases h; exact ok_sub G (hfa ▸ def_at D script 4 rfl)
  | 5, _, h => by cases h; exact ok_add_limb G (hfa ▸ def_at D script 5 rfl)
  | 6, _, h => by cases h; exact ok_add_at G (hfa ▸ def_at D script 6 rfl)
  | 7, _, h => by cases h; exact ok_divrem_limb G (hfa ▸ def_at D script 7 rfl)
  | 8, _, h => by cases h; exact ok_shift_left G (hfa ▸ def_at D script 8 rfl)
  | 9, _, h => by cases h; exact ok_shift_right G (hfa ▸ def_at D script 9 rfl)
  | 10, _, h => by cases h; exact ok_bits G (hfa ▸ def_at D script 10 rfl)
  | 11, _, h => by cases h; exact ok_bit G (hfa ▸ def_at D script 11 rfl)
  | 12, _, h => by cases h; exact ok_split G (hfa ▸ def_at D script 12 rfl)
  | 13, _, h => by cases h; exact ok_sqrt_small G (hfa ▸ def_at D script 13 rfl)
  | 14, _, h => by cases h; exact ok_sqrt_plain G (hfa ▸ def_at D script 14 rfl)
  | 15, _, h => by cases h; exact ok_sqrt_two_limbs G (hfa ▸ def_at D script 15 rfl)
  | 16, _, h => by cases h; exact ok_sqrt_halves G (hfa ▸ def_at D script 16 rfl)
  | 17, _, h => by cases h; exact ok_sqrt_rem G (hfa ▸ def_at D script 17 rfl)
  | 18, _, h => by cases h; exact ok_mul_school G (hfa ▸ def_at D script 18 rfl)
  | 19, _, h => by cases h; exact ok_divrem_small G (hfa ▸ def_at D script 19 rfl)
  | 20, _, h => by cases h; exact ok_guessed_limb G (hfa ▸ def_at D script 20 rfl)
  | 21, _, h => by cases h; exact ok_take_away G (hfa ▸ def_at D script 21 rfl)
  | 22, _, h => by cases h; exact ok_put_back G (hfa ▸ def_at D script 22 rfl)
  | 23, _, h => by cases h; exact ok_divide_rows G (hfa ▸ def_at D script 23 rfl)
  | 24, _, h => by cases h; exact ok_divrem_school G (hfa ▸ def_at D script 24 rfl)
  | 25, _, h => by cases h; exact ok_signed G (hfa ▸ def_at D script 25 rfl)
  | 26, _, h => by cases h; exact ok_s_add G (hfa ▸ def_at D script 26 rfl)
  | 27, _, h => by cases h; exact ok_s_mul G (hfa ▸ def_at D script 27 rfl)
  | 28, _, h => by cases h; exact ok_tdiv G (hfa ▸ def_at D script 28 rfl)
  | 29, _, h => by cases h; exact ok_fdiv G (hfa ▸ def_at D script 29 rfl)
  | 30, _, h => by cases h; exact ok_law_heaped G (hfa ▸ def_at D script 30 rfl)
  | 31, _, h => by cases h; exact ok_law_signed G (hfa ▸ def_at D script 31 rfl)
  | 32, _, h => by cases h; exact ok_law_told G (hfa ▸ def_at D script 32 rfl)
  | 33, _, h => by cases h; exact ok_law_leads G (hfa ▸ def_at D script 33 rfl)
  | 34, _, h => by cases h; exact ok_law_lost G (hfa ▸ def_at D script 34 rfl)
  | _ + 35, _, h => by cases h
theorem law_ends {prog : Program} {w : World} {s₁ : Shared} {mg mb : Str → Option Value} {script fa : Addr} (g : s₁.heap.Ns mainGlobals mg) (b : s₁.heap.Ns builtinsNs mb) (nl : s₁.heap.NoLimit) (hb : ∀ x : Str, x ≠ "__name__" → mb x = bootBuiltins x) (hn : ∀ x ∈ builts, mg x = none) (D : DefsOk mg s₁.heap)
    (hfa : mg (nameAt 43) = some (.ref fa)) {ns : List Int} {items : List Value} (hl : s₁.heap.IsList script items.toArray) (hi : IntsAre items ns) (hlen : items.length ≤ 63) {Q : Value → Shared → Prop} (q : ∀ h' tk, (∀ b o, s₁.heap.get? b = some o → h'.get? b = some o) → Q (.bool true) { s₁ with heap := h', toks := tk }) :
    wpAny (model prog w) callerA (call (.ref fa) [.ref script]) Q F' s₁ := by
  have G : Facts ⟨prog, w, s₁.heap, mg, mb, faN mg script, g, b, nl⟩ := facts_of script g b nl hb hn D
  have hl' := def_at D script 35 rfl
  have e35 : faN mg script 35 = fa := by
    have := (def_name hl').symm.trans hfa
    cases this; rfl
  obtain ⟨o, fd, body, pn, Γ, K1⟩ := ok_law (c := ⟨prog, w, s₁.heap, mg, mb, faN mg script, g, b, nl⟩) G hl' (ns := ns) (items := items) hl hi hlen
  rw [← e35]
  refine enter_sound K1 (callN_sound (table_ok G (script := script) rfl D) 40) (A := callerA) (as := []) (Hp := ⟨.nil, 0⟩) (s := s₁) (vs := [.fn 36]) (xs := [.ref script]) (Q := Q) ⟨rfl, by decide +kernel, by decide +kernel⟩ ?_ (.cons (.fn 36) .nil) ?_
  · exact ⟨rfl, fun i a e => by simp at e, fun i j a e => by simp at e, fun _ _ e => e, fun a m => (nomatch m), Nat.zero_le _⟩
  · have e : enter f_law (callN P0 40) [.fn 36] ⟨.nil, 0⟩ = .ok (.bool true) ⟨.nil, 0⟩ := by
      show backV (b_law (callN P0 40) vals0 ⟨.nil, 0⟩) = _
      unfold b_law
      rw [if_pos ⟨rfl, rfl, rfl⟩]
      rfl
    rw [e]
    intro val as' h' tk I' X' V'
    cases V'
    exact q h' tk fun b o e => X'.keep b o (fun m => (nomatch m)) (fun m => (nomatch m)) e
end Mine

namespace Mine
open PySem PySem.W PySem.Calls PyProof.Rows
noncomputable def mo_A_11 (P : PySem.Params) : PySem.Obj := PySem.Obj.mk (PySem.Value.type "tuple") Option.none (PySem.Data.seq #[]) #[]
noncomputable def mo_A_12 (P : PySem.Params) : PySem.Obj := PySem.Obj.mk PySem.Value.none Option.none (PySem.Data.fields #[]) #[]
noncomputable def mo_A_13 (P : PySem.Params) : PySem.Obj := PySem.Obj.mk (PySem.Value.type "code") Option.none (PySem.Data.fields #[PySem.Value.str (PySem.Str.ofString "<module>") 182, PySem.Value.str (PySem.Str.ofString "<module>") 183, PySem.Value.str (PySem.Str.ofString "/claim/cut.py") 184, PySem.Value.int 1 0, PySem.Value.int 0 0, PySem.Value.int 0 0, PySem.Value.int 0 0, PySem.Value.int 0 0, PySem.Value.ref 11, PySem.Value.bool Bool.false, PySem.Value.int 181 0, PySem.Value.ref 12, PySem.Value.none, PySem.Value.none, PySem.Value.none, PySem.Value.none, PySem.Value.int 185 0, PySem.Value.int 1 0, PySem.Value.str (PySem.Str.ofString "/claim/cut.py") 186]) #[]
noncomputable def mo_A_14 (P : PySem.Params) : PySem.Obj := PySem.Obj.mk (PySem.Value.type "frame") Option.none PySem.Data.plain #[Option.some (PySem.Value.ref 13), Option.some (PySem.Value.ref 3), Option.some (PySem.Value.ref 3), Option.none, Option.some (PySem.Value.str (PySem.Str.ofString "__main__") 164), Option.none, Option.some (PySem.Value.ref 0)]
noncomputable def mh_A (P : PySem.Params) : PySem.Heap := PySem.Heap.mk (Array.mk [PySem.W.boot_o_0 P, PySem.W.boot_o_1 P, PySem.W.boot_o_2 P, PySem.W.boot_o_3 P, PySem.W.boot_o_4 P, PySem.W.boot_o_5 P, PySem.W.boot_o_6 P, PySem.W.boot_o_7 P, PySem.W.boot_o_8 P, PySem.W.boot_o_9 P, PySem.W.boot_o_10 P, mo_A_11 P, mo_A_12 P, mo_A_13 P, mo_A_14 P]) (PySem.Life.mk [] [] [] 0 [] [] Bool.false #[] [] 0 Bool.false Bool.false Bool.false 0 [2000, 10, 10] Bool.false 0 Bool.true [] [] 0 Bool.false)
noncomputable def ms_A (w : PySem.World) (os : PySem.OsState) : PySem.Shared := ⟨mh_A w.params, Array.mk [], PySem.Drawn.mk 0 0 0 0, 187, os⟩
noncomputable def mh_B (P : PySem.Params) : PySem.Heap := PySem.Heap.mk (Array.mk [PySem.W.boot_o_0 P, PySem.W.boot_o_1 P, PySem.W.boot_o_2 P, PySem.W.boot_o_3 P, PySem.W.boot_o_4 P, PySem.W.boot_o_5 P, PySem.W.boot_o_6 P, PySem.W.boot_o_7 P, PySem.W.boot_o_8 P, PySem.W.boot_o_9 P, PySem.W.boot_o_10 P, mo_A_11 P, mo_A_12 P, mo_A_13 P, mo_A_14 P]) (PySem.Life.mk [] [] [] 0 [] [] Bool.false #[] [] 0 Bool.false Bool.false Bool.false 0 [2000, 10, 10] Bool.false 0 Bool.true [] [] 0 Bool.false)
noncomputable def ms_B (w : PySem.World) (os : PySem.OsState) : PySem.Shared := ⟨mh_B w.params, Array.mk [], PySem.Drawn.mk 0 0 0 0, 187, os⟩
noncomputable def mo_1_2 (P : PySem.Params) : PySem.Obj := PySem.Obj.mk PySem.Value.none Option.none (PySem.Data.dict #[PySem.DictEntry.mk (PySem.PyData.keyHash P (PySem.Str.ofString "type.__subclasses__.Exception.0")) (PySem.Value.str (PySem.Str.ofString "type.__subclasses__.Exception.0") 205) (PySem.Value.int 24 0), PySem.DictEntry.mk (PySem.PyData.keyHash P (PySem.Str.ofString "type.__subclasses__.Exception.n")) (PySem.Value.str (PySem.Str.ofString "type.__subclasses__.Exception.n") 206) (PySem.Value.int 1 0)] 2) #[]
noncomputable def mo_1_3 (P : PySem.Params) : PySem.Obj := PySem.Obj.mk (PySem.Value.type "dict") Option.none (PySem.Data.dict #[PySem.DictEntry.mk (PySem.PyData.keyHash P (PySem.Str.ofString "__name__")) (PySem.Value.str (PySem.Str.ofString "__name__") 165) (PySem.Value.str (PySem.Str.ofString "gmp.limbs") 187), PySem.DictEntry.mk (PySem.PyData.keyHash P (PySem.Str.ofString "__doc__")) (PySem.Value.str (PySem.Str.ofString "__doc__") 166) PySem.Value.none, PySem.DictEntry.mk (PySem.PyData.keyHash P (PySem.Str.ofString "__package__")) (PySem.Value.str (PySem.Str.ofString "__package__") 167) PySem.Value.none, PySem.DictEntry.mk (PySem.PyData.keyHash P (PySem.Str.ofString "__loader__")) (PySem.Value.str (PySem.Str.ofString "__loader__") 168) (PySem.Value.builtin "__main__.__loader__#opaque"), PySem.DictEntry.mk (PySem.PyData.keyHash P (PySem.Str.ofString "__spec__")) (PySem.Value.str (PySem.Str.ofString "__spec__") 169) PySem.Value.none, PySem.DictEntry.mk (PySem.PyData.keyHash P (PySem.Str.ofString "__annotations__")) (PySem.Value.str (PySem.Str.ofString "__annotations__") 170) (PySem.Value.ref 6), PySem.DictEntry.mk (PySem.PyData.keyHash P (PySem.Str.ofString "__builtins__")) (PySem.Value.str (PySem.Str.ofString "__builtins__") 171) (PySem.Value.ref 4), PySem.DictEntry.mk (PySem.PyData.keyHash P (PySem.Str.ofString "__file__")) (PySem.Value.str (PySem.Str.ofString "__file__") 173) (PySem.Value.str (PySem.Str.ofString "/claim/cut.py") 172), PySem.DictEntry.mk (PySem.PyData.keyHash P (PySem.Str.ofString "__cached__")) (PySem.Value.str (PySem.Str.ofString "__cached__") 174) PySem.Value.none, PySem.DictEntry.mk (PySem.PyData.keyHash P (PySem.Str.ofString "GmpError")) (PySem.Value.str (PySem.Str.ofString "GmpError") 208) (PySem.Value.ref 24), PySem.DictEntry.mk (PySem.PyData.keyHash P (PySem.Str.ofString "DivisionByZero")) (PySem.Value.str (PySem.Str.ofString "DivisionByZero") 224) (PySem.Value.ref 37)] 11) #[]
noncomputable def mo_1_12 (P : PySem.Params) : PySem.Obj := PySem.Obj.mk PySem.Value.none Option.none (PySem.Data.fields #[PySem.Value.int 2 0, PySem.Value.int 0 0, PySem.Value.ref 20, PySem.Value.int 4 0, PySem.Value.int 0 0, PySem.Value.ref 33]) #[]
noncomputable def mo_1_15 (P : PySem.Params) : PySem.Obj := PySem.Obj.mk (PySem.Value.type "tuple") Option.none (PySem.Data.seq #[PySem.Value.type "Exception"]) #[]
noncomputable def mo_1_16 (P : PySem.Params) : PySem.Obj := PySem.Obj.mk (PySem.Value.type "builtin_function_or_method") Option.none (PySem.Data.fields #[PySem.Value.builtin "type.__prepare__", PySem.Value.type "type"]) #[]
noncomputable def mo_1_17 (P : PySem.Params) : PySem.Obj := PySem.Obj.mk (PySem.Value.type "dict") Option.none (PySem.Data.dict #[PySem.DictEntry.mk (PySem.PyData.keyHash P (PySem.Str.ofString "__module__")) (PySem.Value.str (PySem.Str.ofString "__module__") 196) (PySem.Value.str (PySem.Str.ofString "gmp.limbs") 187), PySem.DictEntry.mk (PySem.PyData.keyHash P (PySem.Str.ofString "__qualname__")) (PySem.Value.str (PySem.Str.ofString "__qualname__") 198) (PySem.Value.str (PySem.Str.ofString "GmpError") 197), PySem.DictEntry.mk (PySem.PyData.keyHash P (PySem.Str.ofString "__firstlineno__")) (PySem.Value.str (PySem.Str.ofString "__firstlineno__") 200) (PySem.Value.int 2 199), PySem.DictEntry.mk (PySem.PyData.keyHash P (PySem.Str.ofString "__static_attributes__")) (PySem.Value.str (PySem.Str.ofString "__static_attributes__") 201) (PySem.Value.ref 22)] 4) #[]
noncomputable def mo_1_18 (P : PySem.Params) : PySem.Obj := PySem.Obj.mk (PySem.Value.type "tuple") Option.none (PySem.Data.seq #[]) #[]
noncomputable def mo_1_19 (P : PySem.Params) : PySem.Obj := PySem.Obj.mk PySem.Value.none Option.none (PySem.Data.fields #[]) #[]
noncomputable def mo_1_20 (P : PySem.Params) : PySem.Obj := PySem.Obj.mk (PySem.Value.type "code") Option.none (PySem.Data.fields #[PySem.Value.str (PySem.Str.ofString "GmpError") 191, PySem.Value.str (PySem.Str.ofString "GmpError") 192, PySem.Value.str (PySem.Str.ofString "/claim/cut.py") 193, PySem.Value.int 2 0, PySem.Value.int 0 0, PySem.Value.int 0 0, PySem.Value.int 0 0, PySem.Value.int 0 0, PySem.Value.ref 18, PySem.Value.bool Bool.false, PySem.Value.int 181 0, PySem.Value.ref 19, PySem.Value.none, PySem.Value.none, PySem.Value.none, PySem.Value.none, PySem.Value.int 194 0, PySem.Value.int 2 0, PySem.Value.str (PySem.Str.ofString "/claim/cut.py") 195]) #[]
noncomputable def mo_1_21 (P : PySem.Params) : PySem.Obj := PySem.Obj.mk (PySem.Value.type "frame") Option.none PySem.Data.plain #[Option.some (PySem.Value.ref 20), Option.some (PySem.Value.ref 3), Option.some (PySem.Value.ref 17), Option.none, Option.some (PySem.Value.str (PySem.Str.ofString "gmp.limbs") 187), Option.none, Option.some (PySem.Value.ref 0)]
noncomputable def mo_1_22 (P : PySem.Params) : PySem.Obj := PySem.Obj.mk (PySem.Value.type "tuple") Option.none (PySem.Data.seq #[]) #[]
noncomputable def mo_1_23 (P : PySem.Params) : PySem.Obj := PySem.Obj.mk (PySem.Value.type "dict") Option.none (PySem.Data.dict #[PySem.DictEntry.mk (PySem.PyData.keyHash P (PySem.Str.ofString "__module__")) (PySem.Value.str (PySem.Str.ofString "__module__") 196) (PySem.Value.str (PySem.Str.ofString "gmp.limbs") 187), PySem.DictEntry.mk (PySem.PyData.keyHash P (PySem.Str.ofString "__firstlineno__")) (PySem.Value.str (PySem.Str.ofString "__firstlineno__") 200) (PySem.Value.int 2 199), PySem.DictEntry.mk (PySem.PyData.keyHash P (PySem.Str.ofString "__static_attributes__")) (PySem.Value.str (PySem.Str.ofString "__static_attributes__") 201) (PySem.Value.ref 22), PySem.DictEntry.mk (PySem.PyData.keyHash P (PySem.Str.ofString "__weakref__")) (PySem.Value.str (PySem.Str.ofString "__weakref__") 203) (PySem.Value.ref 25), PySem.DictEntry.mk (PySem.PyData.keyHash P (PySem.Str.ofString "__doc__")) (PySem.Value.str (PySem.Str.ofString "__doc__") 204) PySem.Value.none] 3) #[]
noncomputable def mo_1_24 (P : PySem.Params) : PySem.Obj := PySem.Obj.mk (PySem.Value.type "type") Option.none (PySem.Data.cls (PySem.ClassData.mk (PySem.Str.ofString "GmpError") [PySem.Value.type "Exception"] [PySem.Value.ref 24, PySem.Value.type "Exception", PySem.Value.type "BaseException", PySem.Value.type "object"] 23 (PySem.Str.ofString "GmpError") Bool.true [] [PySem.Value.ref 37] Bool.false Option.none Bool.false)) #[Option.some (PySem.Value.ref 15), Option.none, Option.some (PySem.Value.str (PySem.Str.ofString "GmpError") 189), Option.some (PySem.Value.str (PySem.Str.ofString "GmpError") 197), Option.some (PySem.Value.builtin "Exception.__new__"), Option.some (PySem.Value.bool Bool.true)]
noncomputable def mo_1_25 (P : PySem.Params) : PySem.Obj := PySem.Obj.mk (PySem.Value.type "getset_descriptor") Option.none (PySem.Data.fields #[PySem.Value.str (PySem.Str.ofString "__weakref__") 202, PySem.Value.ref 24, PySem.Value.builtin "ExceptionGroup.__weakref__", PySem.Value.none]) #[]
noncomputable def mo_1_26 (P : PySem.Params) : PySem.Obj := PySem.Obj.mk (PySem.Value.type "super") Option.none (PySem.Data.fields #[PySem.Value.ref 24, PySem.Value.ref 24, PySem.Value.ref 24]) #[]
noncomputable def mo_1_27 (P : PySem.Params) : PySem.Obj := PySem.Obj.mk (PySem.Value.type "builtin_function_or_method") Option.none (PySem.Data.fields #[PySem.Value.builtin "object.__init_subclass__", PySem.Value.ref 24]) #[]
noncomputable def mo_1_28 (P : PySem.Params) : PySem.Obj := PySem.Obj.mk (PySem.Value.type "tuple") Option.none (PySem.Data.seq #[PySem.Value.ref 24]) #[]
noncomputable def mo_1_29 (P : PySem.Params) : PySem.Obj := PySem.Obj.mk (PySem.Value.type "builtin_function_or_method") Option.none (PySem.Data.fields #[PySem.Value.builtin "type.__prepare__", PySem.Value.type "type"]) #[]
noncomputable def mo_1_30 (P : PySem.Params) : PySem.Obj := PySem.Obj.mk (PySem.Value.type "dict") Option.none (PySem.Data.dict #[PySem.DictEntry.mk (PySem.PyData.keyHash P (PySem.Str.ofString "__module__")) (PySem.Value.str (PySem.Str.ofString "__module__") 216) (PySem.Value.str (PySem.Str.ofString "gmp.limbs") 187), PySem.DictEntry.mk (PySem.PyData.keyHash P (PySem.Str.ofString "__qualname__")) (PySem.Value.str (PySem.Str.ofString "__qualname__") 218) (PySem.Value.str (PySem.Str.ofString "DivisionByZero") 217), PySem.DictEntry.mk (PySem.PyData.keyHash P (PySem.Str.ofString "__firstlineno__")) (PySem.Value.str (PySem.Str.ofString "__firstlineno__") 220) (PySem.Value.int 4 219), PySem.DictEntry.mk (PySem.PyData.keyHash P (PySem.Str.ofString "__static_attributes__")) (PySem.Value.str (PySem.Str.ofString "__static_attributes__") 221) (PySem.Value.ref 35)] 4) #[]
noncomputable def mo_1_31 (P : PySem.Params) : PySem.Obj := PySem.Obj.mk (PySem.Value.type "tuple") Option.none (PySem.Data.seq #[]) #[]
noncomputable def mo_1_32 (P : PySem.Params) : PySem.Obj := PySem.Obj.mk PySem.Value.none Option.none (PySem.Data.fields #[]) #[]
noncomputable def mo_1_33 (P : PySem.Params) : PySem.Obj := PySem.Obj.mk (PySem.Value.type "code") Option.none (PySem.Data.fields #[PySem.Value.str (PySem.Str.ofString "DivisionByZero") 211, PySem.Value.str (PySem.Str.ofString "DivisionByZero") 212, PySem.Value.str (PySem.Str.ofString "/claim/cut.py") 213, PySem.Value.int 4 0, PySem.Value.int 0 0, PySem.Value.int 0 0, PySem.Value.int 0 0, PySem.Value.int 0 0, PySem.Value.ref 31, PySem.Value.bool Bool.false, PySem.Value.int 181 0, PySem.Value.ref 32, PySem.Value.none, PySem.Value.none, PySem.Value.none, PySem.Value.none, PySem.Value.int 214 0, PySem.Value.int 4 0, PySem.Value.str (PySem.Str.ofString "/claim/cut.py") 215]) #[]
noncomputable def mo_1_34 (P : PySem.Params) : PySem.Obj := PySem.Obj.mk (PySem.Value.type "frame") Option.none PySem.Data.plain #[Option.some (PySem.Value.ref 33), Option.some (PySem.Value.ref 3), Option.some (PySem.Value.ref 30), Option.none, Option.some (PySem.Value.str (PySem.Str.ofString "gmp.limbs") 187), Option.none, Option.some (PySem.Value.ref 0)]
noncomputable def mo_1_35 (P : PySem.Params) : PySem.Obj := PySem.Obj.mk (PySem.Value.type "tuple") Option.none (PySem.Data.seq #[]) #[]
noncomputable def mo_1_36 (P : PySem.Params) : PySem.Obj := PySem.Obj.mk (PySem.Value.type "dict") Option.none (PySem.Data.dict #[PySem.DictEntry.mk (PySem.PyData.keyHash P (PySem.Str.ofString "__module__")) (PySem.Value.str (PySem.Str.ofString "__module__") 216) (PySem.Value.str (PySem.Str.ofString "gmp.limbs") 187), PySem.DictEntry.mk (PySem.PyData.keyHash P (PySem.Str.ofString "__firstlineno__")) (PySem.Value.str (PySem.Str.ofString "__firstlineno__") 220) (PySem.Value.int 4 219), PySem.DictEntry.mk (PySem.PyData.keyHash P (PySem.Str.ofString "__static_attributes__")) (PySem.Value.str (PySem.Str.ofString "__static_attributes__") 221) (PySem.Value.ref 35), PySem.DictEntry.mk (PySem.PyData.keyHash P (PySem.Str.ofString "__doc__")) (PySem.Value.str (PySem.Str.ofString "__doc__") 222) PySem.Value.none] 2) #[]
noncomputable def mo_1_37 (P : PySem.Params) : PySem.Obj := PySem.Obj.mk (PySem.Value.type "type") Option.none (PySem.Data.cls (PySem.ClassData.mk (PySem.Str.ofString "DivisionByZero") [PySem.Value.ref 24] [PySem.Value.ref 37, PySem.Value.ref 24, PySem.Value.type "Exception", PySem.Value.type "BaseException", PySem.Value.type "object"] 36 (PySem.Str.ofString "DivisionByZero") Bool.true [] [] Bool.false Option.none Bool.false)) #[Option.some (PySem.Value.ref 28), Option.none, Option.some (PySem.Value.str (PySem.Str.ofString "DivisionByZero") 209), Option.some (PySem.Value.str (PySem.Str.ofString "DivisionByZero") 217), Option.some (PySem.Value.builtin "Exception.__new__"), Option.some (PySem.Value.bool Bool.true)]
noncomputable def mo_1_38 (P : PySem.Params) : PySem.Obj := PySem.Obj.mk (PySem.Value.type "super") Option.none (PySem.Data.fields #[PySem.Value.ref 37, PySem.Value.ref 37, PySem.Value.ref 37]) #[]
noncomputable def mo_1_39 (P : PySem.Params) : PySem.Obj := PySem.Obj.mk (PySem.Value.type "builtin_function_or_method") Option.none (PySem.Data.fields #[PySem.Value.builtin "object.__init_subclass__", PySem.Value.ref 37]) #[]
noncomputable def mh_1 (P : PySem.Params) : PySem.Heap := PySem.Heap.mk (Array.mk [PySem.W.boot_o_0 P, PySem.W.boot_o_1 P, mo_1_2 P, mo_1_3 P, PySem.W.boot_o_4 P, PySem.W.boot_o_5 P, PySem.W.boot_o_6 P, PySem.W.boot_o_7 P, PySem.W.boot_o_8 P, PySem.W.boot_o_9 P, PySem.W.boot_o_10 P, mo_A_11 P, mo_1_12 P, mo_A_13 P, mo_A_14 P, mo_1_15 P, mo_1_16 P, mo_1_17 P, mo_1_18 P, mo_1_19 P, mo_1_20 P, mo_1_21 P, mo_1_22 P, mo_1_23 P, mo_1_24 P, mo_1_25 P, mo_1_26 P, mo_1_27 P, mo_1_28 P, mo_1_29 P, mo_1_30 P, mo_1_31 P, mo_1_32 P, mo_1_33 P, mo_1_34 P, mo_1_35 P, mo_1_36 P, mo_1_37 P, mo_1_38 P, mo_1_39 P]) (PySem.Life.mk [] [] [] 0 [] [] Bool.false #[] [] 0 Bool.false Bool.false Bool.false 0 [2000, 10, 10] Bool.false 0 Bool.true [] [] 0 Bool.false)
noncomputable def ms_1 (w : PySem.World) (os : PySem.OsState) : PySem.Shared := ⟨mh_1 w.params, Array.mk [], PySem.Drawn.mk 0 0 0 0, 225, os⟩
noncomputable def mo_2_3 (P : PySem.Params) : PySem.Obj := PySem.Obj.mk (PySem.Value.type "dict") Option.none (PySem.Data.dict #[PySem.DictEntry.mk (PySem.PyData.keyHash P (PySem.Str.ofString "__name__")) (PySem.Value.str (PySem.Str.ofString "__name__") 165) (PySem.Value.str (PySem.Str.ofString "gmp.limbs") 187), PySem.DictEntry.mk (PySem.PyData.keyHash P (PySem.Str.ofString "__doc__")) (PySem.Value.str (PySem.Str.ofString "__doc__") 166) PySem.Value.none, PySem.DictEntry.mk (PySem.PyData.keyHash P (PySem.Str.ofString "__package__")) (PySem.Value.str (PySem.Str.ofString "__package__") 167) PySem.Value.none, PySem.DictEntry.mk (PySem.PyData.keyHash P (PySem.Str.ofString "__loader__")) (PySem.Value.str (PySem.Str.ofString "__loader__") 168) (PySem.Value.builtin "__main__.__loader__#opaque"), PySem.DictEntry.mk (PySem.PyData.keyHash P (PySem.Str.ofString "__spec__")) (PySem.Value.str (PySem.Str.ofString "__spec__") 169) PySem.Value.none, PySem.DictEntry.mk (PySem.PyData.keyHash P (PySem.Str.ofString "__annotations__")) (PySem.Value.str (PySem.Str.ofString "__annotations__") 170) (PySem.Value.ref 6), PySem.DictEntry.mk (PySem.PyData.keyHash P (PySem.Str.ofString "__builtins__")) (PySem.Value.str (PySem.Str.ofString "__builtins__") 171) (PySem.Value.ref 4), PySem.DictEntry.mk (PySem.PyData.keyHash P (PySem.Str.ofString "__file__")) (PySem.Value.str (PySem.Str.ofString "__file__") 173) (PySem.Value.str (PySem.Str.ofString "/claim/cut.py") 172), PySem.DictEntry.mk (PySem.PyData.keyHash P (PySem.Str.ofString "__cached__")) (PySem.Value.str (PySem.Str.ofString "__cached__") 174) PySem.Value.none, PySem.DictEntry.mk (PySem.PyData.keyHash P (PySem.Str.ofString "GmpError")) (PySem.Value.str (PySem.Str.ofString "GmpError") 208) (PySem.Value.ref 24), PySem.DictEntry.mk (PySem.PyData.keyHash P (PySem.Str.ofString "DivisionByZero")) (PySem.Value.str (PySem.Str.ofString "DivisionByZero") 224) (PySem.Value.ref 37), PySem.DictEntry.mk (PySem.PyData.keyHash P (PySem.Str.ofString "OutOfRange")) (PySem.Value.str (PySem.Str.ofString "OutOfRange") 240) (PySem.Value.ref 49), PySem.DictEntry.mk (PySem.PyData.keyHash P (PySem.Str.ofString "normal")) (PySem.Value.str (PySem.Str.ofString "normal") 248) (PySem.Value.ref 58), PySem.DictEntry.mk (PySem.PyData.keyHash P (PySem.Str.ofString "nat_of")) (PySem.Value.str (PySem.Str.ofString "nat_of") 258) (PySem.Value.ref 65), PySem.DictEntry.mk (PySem.PyData.keyHash P (PySem.Str.ofString "compare")) (PySem.Value.str (PySem.Str.ofString "compare") 267) (PySem.Value.ref 72), PySem.DictEntry.mk (PySem.PyData.keyHash P (PySem.Str.ofString "add")) (PySem.Value.str (PySem.Str.ofString "add") 280) (PySem.Value.ref 79), PySem.DictEntry.mk (PySem.PyData.keyHash P (PySem.Str.ofString "sub")) (PySem.Value.str (PySem.Str.ofString "sub") 294) (PySem.Value.ref 86)] 17) #[]
noncomputable def mo_2_12 (P : PySem.Params) : PySem.Obj := PySem.Obj.mk PySem.Value.none Option.none (PySem.Data.fields #[PySem.Value.int 2 0, PySem.Value.int 0 0, PySem.Value.ref 20, PySem.Value.int 4 0, PySem.Value.int 0 0, PySem.Value.ref 33, PySem.Value.int 6 0, PySem.Value.int 0 0, PySem.Value.ref 45, PySem.Value.int 8 0, PySem.Value.int 0 0, PySem.Value.ref 57, PySem.Value.int 13 0, PySem.Value.int 0 0, PySem.Value.ref 64, PySem.Value.int 21 0, PySem.Value.int 0 0, PySem.Value.ref 71, PySem.Value.int 28 0, PySem.Value.int 0 0, PySem.Value.ref 78, PySem.Value.int 43 0, PySem.Value.int 0 0, PySem.Value.ref 85]) #[]
noncomputable def mo_2_24 (P : PySem.Params) : PySem.Obj := PySem.Obj.mk (PySem.Value.type "type") Option.none (PySem.Data.cls (PySem.ClassData.mk (PySem.Str.ofString "GmpError") [PySem.Value.type "Exception"] [PySem.Value.ref 24, PySem.Value.type "Exception", PySem.Value.type "BaseException", PySem.Value.type "object"] 23 (PySem.Str.ofString "GmpError") Bool.true [] [PySem.Value.ref 37, PySem.Value.ref 49] Bool.false Option.none Bool.false)) #[Option.some (PySem.Value.ref 15), Option.none, Option.some (PySem.Value.str (PySem.Str.ofString "GmpError") 189), Option.some (PySem.Value.str (PySem.Str.ofString "GmpError") 197), Option.some (PySem.Value.builtin "Exception.__new__"), Option.some (PySem.Value.bool Bool.true)]
noncomputable def mo_2_40 (P : PySem.Params) : PySem.Obj := PySem.Obj.mk (PySem.Value.type "tuple") Option.none (PySem.Data.seq #[PySem.Value.ref 24]) #[]
noncomputable def mo_2_41 (P : PySem.Params) : PySem.Obj := PySem.Obj.mk (PySem.Value.type "builtin_function_or_method") Option.none (PySem.Data.fields #[PySem.Value.builtin "type.__prepare__", PySem.Value.type "type"]) #[]
noncomputable def mo_2_42 (P : PySem.Params) : PySem.Obj := PySem.Obj.mk (PySem.Value.type "dict") Option.none (PySem.Data.dict #[PySem.DictEntry.mk (PySem.PyData.keyHash P (PySem.Str.ofString "__module__")) (PySem.Value.str (PySem.Str.ofString "__module__") 232) (PySem.Value.str (PySem.Str.ofString "gmp.limbs") 187), PySem.DictEntry.mk (PySem.PyData.keyHash P (PySem.Str.ofString "__qualname__")) (PySem.Value.str (PySem.Str.ofString "__qualname__") 234) (PySem.Value.str (PySem.Str.ofString "OutOfRange") 233), PySem.DictEntry.mk (PySem.PyData.keyHash P (PySem.Str.ofString "__firstlineno__")) (PySem.Value.str (PySem.Str.ofString "__firstlineno__") 236) (PySem.Value.int 6 235), PySem.DictEntry.mk (PySem.PyData.keyHash P (PySem.Str.ofString "__static_attributes__")) (PySem.Value.str (PySem.Str.ofString "__static_attributes__") 237) (PySem.Value.ref 47)] 4) #[]
noncomputable def mo_2_43 (P : PySem.Params) : PySem.Obj := PySem.Obj.mk (PySem.Value.type "tuple") Option.none (PySem.Data.seq #[]) #[]
noncomputable def mo_2_44 (P : PySem.Params) : PySem.Obj := PySem.Obj.mk PySem.Value.none Option.none (PySem.Data.fields #[]) #[]
noncomputable def mo_2_45 (P : PySem.Params) : PySem.Obj := PySem.Obj.mk (PySem.Value.type "code") Option.none (PySem.Data.fields #[PySem.Value.str (PySem.Str.ofString "OutOfRange") 227, PySem.Value.str (PySem.Str.ofString "OutOfRange") 228, PySem.Value.str (PySem.Str.ofString "/claim/cut.py") 229, PySem.Value.int 6 0, PySem.Value.int 0 0, PySem.Value.int 0 0, PySem.Value.int 0 0, PySem.Value.int 0 0, PySem.Value.ref 43, PySem.Value.bool Bool.false, PySem.Value.int 181 0, PySem.Value.ref 44, PySem.Value.none, PySem.Value.none, PySem.Value.none, PySem.Value.none, PySem.Value.int 230 0, PySem.Value.int 6 0, PySem.Value.str (PySem.Str.ofString "/claim/cut.py") 231]) #[]
noncomputable def mo_2_46 (P : PySem.Params) : PySem.Obj := PySem.Obj.mk (PySem.Value.type "frame") Option.none PySem.Data.plain #[Option.some (PySem.Value.ref 45), Option.some (PySem.Value.ref 3), Option.some (PySem.Value.ref 42), Option.none, Option.some (PySem.Value.str (PySem.Str.ofString "gmp.limbs") 187), Option.none, Option.some (PySem.Value.ref 0)]
noncomputable def mo_2_47 (P : PySem.Params) : PySem.Obj := PySem.Obj.mk (PySem.Value.type "tuple") Option.none (PySem.Data.seq #[]) #[]
noncomputable def mo_2_48 (P : PySem.Params) : PySem.Obj := PySem.Obj.mk (PySem.Value.type "dict") Option.none (PySem.Data.dict #[PySem.DictEntry.mk (PySem.PyData.keyHash P (PySem.Str.ofString "__module__")) (PySem.Value.str (PySem.Str.ofString "__module__") 232) (PySem.Value.str (PySem.Str.ofString "gmp.limbs") 187), PySem.DictEntry.mk (PySem.PyData.keyHash P (PySem.Str.ofString "__firstlineno__")) (PySem.Value.str (PySem.Str.ofString "__firstlineno__") 236) (PySem.Value.int 6 235), PySem.DictEntry.mk (PySem.PyData.keyHash P (PySem.Str.ofString "__static_attributes__")) (PySem.Value.str (PySem.Str.ofString "__static_attributes__") 237) (PySem.Value.ref 47), PySem.DictEntry.mk (PySem.PyData.keyHash P (PySem.Str.ofString "__doc__")) (PySem.Value.str (PySem.Str.ofString "__doc__") 238) PySem.Value.none] 2) #[]
noncomputable def mo_2_49 (P : PySem.Params) : PySem.Obj := PySem.Obj.mk (PySem.Value.type "type") Option.none (PySem.Data.cls (PySem.ClassData.mk (PySem.Str.ofString "OutOfRange") [PySem.Value.ref 24] [PySem.Value.ref 49, PySem.Value.ref 24, PySem.Value.type "Exception", PySem.Value.type "BaseException", PySem.Value.type "object"] 48 (PySem.Str.ofString "OutOfRange") Bool.true [] [] Bool.false Option.none Bool.false)) #[Option.some (PySem.Value.ref 40), Option.none, Option.some (PySem.Value.str (PySem.Str.ofString "OutOfRange") 225), Option.some (PySem.Value.str (PySem.Str.ofString "OutOfRange") 233), Option.some (PySem.Value.builtin "Exception.__new__"), Option.some (PySem.Value.bool Bool.true)]
noncomputable def mo_2_50 (P : PySem.Params) : PySem.Obj := PySem.Obj.mk (PySem.Value.type "super") Option.none (PySem.Data.fields #[PySem.Value.ref 49, PySem.Value.ref 49, PySem.Value.ref 49]) #[]
noncomputable def mo_2_51 (P : PySem.Params) : PySem.Obj := PySem.Obj.mk (PySem.Value.type "builtin_function_or_method") Option.none (PySem.Data.fields #[PySem.Value.builtin "object.__init_subclass__", PySem.Value.ref 49]) #[]
noncomputable def mo_2_52 (P : PySem.Params) : PySem.Obj := PySem.Obj.mk (PySem.Value.type "tuple") Option.none (PySem.Data.seq #[]) #[]
noncomputable def mo_2_53 (P : PySem.Params) : PySem.Obj := PySem.Obj.mk PySem.Value.none Option.none (PySem.Data.fields #[]) #[]
noncomputable def mo_2_54 (P : PySem.Params) : PySem.Obj := PySem.Obj.mk (PySem.Value.type "tuple") Option.none (PySem.Data.seq #[PySem.Value.str (PySem.Str.ofString "a") 244, PySem.Value.str (PySem.Str.ofString "end") 245]) #[]
noncomputable def mo_2_55 (P : PySem.Params) : PySem.Obj := PySem.Obj.mk (PySem.Value.type "tuple") Option.none (PySem.Data.seq #[]) #[]
noncomputable def mo_2_56 (P : PySem.Params) : PySem.Obj := PySem.Obj.mk PySem.Value.none Option.none (PySem.Data.func (PySem.FuncData.mk (PySem.Str.ofString "normal") (PySem.Str.ofString "normal") (Mine.argsAt 4) (PySem.FuncBody.stmts (Mine.bodyAt 4)) (Mine.scopeAt 4) 0 [] PySem.Value.none PySem.Value.none PySem.Value.none PySem.Value.none Option.none PySem.Value.none PySem.Value.none 0)) #[]
noncomputable def mo_2_57 (P : PySem.Params) : PySem.Obj := PySem.Obj.mk (PySem.Value.type "code") Option.none (PySem.Data.fields #[PySem.Value.str (PySem.Str.ofString "normal") 241, PySem.Value.str (PySem.Str.ofString "normal") 242, PySem.Value.str (PySem.Str.ofString "/claim/cut.py") 243, PySem.Value.int 8 0, PySem.Value.int 1 0, PySem.Value.int 0 0, PySem.Value.int 0 0, PySem.Value.int 3 0, PySem.Value.ref 52, PySem.Value.bool Bool.true, PySem.Value.int 181 0, PySem.Value.ref 53, PySem.Value.none, PySem.Value.ref 54, PySem.Value.ref 55, PySem.Value.ref 56, PySem.Value.int 246 0, PySem.Value.int 8 0, PySem.Value.str (PySem.Str.ofString "/claim/cut.py") 247]) #[]
noncomputable def mo_2_58 (P : PySem.Params) : PySem.Obj := PySem.Obj.mk (PySem.Value.type "function") Option.none (PySem.Data.func (PySem.FuncData.mk (PySem.Str.ofString "normal") (PySem.Str.ofString "normal") (Mine.argsAt 4) (PySem.FuncBody.stmts (Mine.bodyAt 4)) (Mine.scopeAt 4) 3 [] PySem.Value.none PySem.Value.none PySem.Value.none (PySem.Value.str (PySem.Str.ofString "gmp.limbs") 187) Option.none (PySem.Value.ref 57) PySem.Value.none 0)) #[]
noncomputable def mo_2_59 (P : PySem.Params) : PySem.Obj := PySem.Obj.mk (PySem.Value.type "tuple") Option.none (PySem.Data.seq #[]) #[]
noncomputable def mo_2_60 (P : PySem.Params) : PySem.Obj := PySem.Obj.mk PySem.Value.none Option.none (PySem.Data.fields #[]) #[]
noncomputable def mo_2_61 (P : PySem.Params) : PySem.Obj := PySem.Obj.mk (PySem.Value.type "tuple") Option.none (PySem.Data.seq #[PySem.Value.str (PySem.Str.ofString "number") 252, PySem.Value.str (PySem.Str.ofString "w") 253, PySem.Value.str (PySem.Str.ofString "found") 254, PySem.Value.str (PySem.Str.ofString "mask") 255]) #[]
noncomputable def mo_2_62 (P : PySem.Params) : PySem.Obj := PySem.Obj.mk (PySem.Value.type "tuple") Option.none (PySem.Data.seq #[]) #[]
noncomputable def mo_2_63 (P : PySem.Params) : PySem.Obj := PySem.Obj.mk PySem.Value.none Option.none (PySem.Data.func (PySem.FuncData.mk (PySem.Str.ofString "nat_of") (PySem.Str.ofString "nat_of") (Mine.argsAt 5) (PySem.FuncBody.stmts (Mine.bodyAt 5)) (Mine.scopeAt 5) 0 [] PySem.Value.none PySem.Value.none PySem.Value.none PySem.Value.none Option.none PySem.Value.none PySem.Value.none 0)) #[]
noncomputable def mo_2_64 (P : PySem.Params) : PySem.Obj := PySem.Obj.mk (PySem.Value.type "code") Option.none (PySem.Data.fields #[PySem.Value.str (PySem.Str.ofString "nat_of") 249, PySem.Value.str (PySem.Str.ofString "nat_of") 250, PySem.Value.str (PySem.Str.ofString "/claim/cut.py") 251, PySem.Value.int 13 0, PySem.Value.int 2 0, PySem.Value.int 0 0, PySem.Value.int 0 0, PySem.Value.int 3 0, PySem.Value.ref 59, PySem.Value.bool Bool.true, PySem.Value.int 181 0, PySem.Value.ref 60, PySem.Value.none, PySem.Value.ref 61, PySem.Value.ref 62, PySem.Value.ref 63, PySem.Value.int 256 0, PySem.Value.int 13 0, PySem.Value.str (PySem.Str.ofString "/claim/cut.py") 257]) #[]
noncomputable def mo_2_65 (P : PySem.Params) : PySem.Obj := PySem.Obj.mk (PySem.Value.type "function") Option.none (PySem.Data.func (PySem.FuncData.mk (PySem.Str.ofString "nat_of") (PySem.Str.ofString "nat_of") (Mine.argsAt 5) (PySem.FuncBody.stmts (Mine.bodyAt 5)) (Mine.scopeAt 5) 3 [] PySem.Value.none PySem.Value.none PySem.Value.none (PySem.Value.str (PySem.Str.ofString "gmp.limbs") 187) Option.none (PySem.Value.ref 64) PySem.Value.none 0)) #[]
noncomputable def mo_2_66 (P : PySem.Params) : PySem.Obj := PySem.Obj.mk (PySem.Value.type "tuple") Option.none (PySem.Data.seq #[]) #[]
noncomputable def mo_2_67 (P : PySem.Params) : PySem.Obj := PySem.Obj.mk PySem.Value.none Option.none (PySem.Data.fields #[]) #[]
noncomputable def mo_2_68 (P : PySem.Params) : PySem.Obj := PySem.Obj.mk (PySem.Value.type "tuple") Option.none (PySem.Data.seq #[PySem.Value.str (PySem.Str.ofString "a") 262, PySem.Value.str (PySem.Str.ofString "b") 263, PySem.Value.str (PySem.Str.ofString "at") 264]) #[]
noncomputable def mo_2_69 (P : PySem.Params) : PySem.Obj := PySem.Obj.mk (PySem.Value.type "tuple") Option.none (PySem.Data.seq #[]) #[]
noncomputable def mo_2_70 (P : PySem.Params) : PySem.Obj := PySem.Obj.mk PySem.Value.none Option.none (PySem.Data.func (PySem.FuncData.mk (PySem.Str.ofString "compare") (PySem.Str.ofString "compare") (Mine.argsAt 6) (PySem.FuncBody.stmts (Mine.bodyAt 6)) (Mine.scopeAt 6) 0 [] PySem.Value.none PySem.Value.none PySem.Value.none PySem.Value.none Option.none PySem.Value.none PySem.Value.none 0)) #[]
noncomputable def mo_2_71 (P : PySem.Params) : PySem.Obj := PySem.Obj.mk (PySem.Value.type "code") Option.none (PySem.Data.fields #[PySem.Value.str (PySem.Str.ofString "compare") 259, PySem.Value.str (PySem.Str.ofString "compare") 260, PySem.Value.str (PySem.Str.ofString "/claim/cut.py") 261, PySem.Value.int 21 0, PySem.Value.int 2 0, PySem.Value.int 0 0, PySem.Value.int 0 0, PySem.Value.int 3 0, PySem.Value.ref 66, PySem.Value.bool Bool.true, PySem.Value.int 181 0, PySem.Value.ref 67, PySem.Value.none, PySem.Value.ref 68, PySem.Value.ref 69, PySem.Value.ref 70, PySem.Value.int 265 0, PySem.Value.int 21 0, PySem.Value.str (PySem.Str.ofString "/claim/cut.py") 266]) #[]
noncomputable def mo_2_72 (P : PySem.Params) : PySem.Obj := PySem.Obj.mk (PySem.Value.type "function") Option.none (PySem.Data.func (PySem.FuncData.mk (PySem.Str.ofString "compare") (PySem.Str.ofString "compare") (Mine.argsAt 6) (PySem.FuncBody.stmts (Mine.bodyAt 6)) (Mine.scopeAt 6) 3 [] PySem.Value.none PySem.Value.none PySem.Value.none (PySem.Value.str (PySem.Str.ofString "gmp.limbs") 187) Option.none (PySem.Value.ref 71) PySem.Value.none 0)) #[]
noncomputable def mo_2_73 (P : PySem.Params) : PySem.Obj := PySem.Obj.mk (PySem.Value.type "tuple") Option.none (PySem.Data.seq #[]) #[]
noncomputable def mo_2_74 (P : PySem.Params) : PySem.Obj := PySem.Obj.mk PySem.Value.none Option.none (PySem.Data.fields #[]) #[]
noncomputable def mo_2_75 (P : PySem.Params) : PySem.Obj := PySem.Obj.mk (PySem.Value.type "tuple") Option.none (PySem.Data.seq #[PySem.Value.str (PySem.Str.ofString "a") 271, PySem.Value.str (PySem.Str.ofString "b") 272, PySem.Value.str (PySem.Str.ofString "w") 273, PySem.Value.str (PySem.Str.ofString "found") 274, PySem.Value.str (PySem.Str.ofString "carry") 275, PySem.Value.str (PySem.Str.ofString "mask") 276, PySem.Value.str (PySem.Str.ofString "at") 277]) #[]
noncomputable def mo_2_76 (P : PySem.Params) : PySem.Obj := PySem.Obj.mk (PySem.Value.type "tuple") Option.none (PySem.Data.seq #[]) #[]
noncomputable def mo_2_77 (P : PySem.Params) : PySem.Obj := PySem.Obj.mk PySem.Value.none Option.none (PySem.Data.func (PySem.FuncData.mk (PySem.Str.ofString "add") (PySem.Str.ofString "add") (Mine.argsAt 7) (PySem.FuncBody.stmts (Mine.bodyAt 7)) (Mine.scopeAt 7) 0 [] PySem.Value.none PySem.Value.none PySem.Value.none PySem.Value.none Option.none PySem.Value.none PySem.Value.none 0)) #[]
noncomputable def mo_2_78 (P : PySem.Params) : PySem.Obj := PySem.Obj.mk (PySem.Value.type "code") Option.none (PySem.Data.fields #[PySem.Value.str (PySem.Str.ofString "add") 268, PySem.Value.str (PySem.Str.ofString "add") 269, PySem.Value.str (PySem.Str.ofString "/claim/cut.py") 270, PySem.Value.int 28 0, PySem.Value.int 3 0, PySem.Value.int 0 0, PySem.Value.int 0 0, PySem.Value.int 3 0, PySem.Value.ref 73, PySem.Value.bool Bool.true, PySem.Value.int 181 0, PySem.Value.ref 74, PySem.Value.none, PySem.Value.ref 75, PySem.Value.ref 76, PySem.Value.ref 77, PySem.Value.int 278 0, PySem.Value.int 28 0, PySem.Value.str (PySem.Str.ofString "/claim/cut.py") 279]) #[]
noncomputable def mo_2_79 (P : PySem.Params) : PySem.Obj := PySem.Obj.mk (PySem.Value.type "function") Option.none (PySem.Data.func (PySem.FuncData.mk (PySem.Str.ofString "add") (PySem.Str.ofString "add") (Mine.argsAt 7) (PySem.FuncBody.stmts (Mine.bodyAt 7)) (Mine.scopeAt 7) 3 [] PySem.Value.none PySem.Value.none PySem.Value.none (PySem.Value.str (PySem.Str.ofString "gmp.limbs") 187) Option.none (PySem.Value.ref 78) PySem.Value.none 0)) #[]
noncomputable def mo_2_80 (P : PySem.Params) : PySem.Obj := PySem.Obj.mk (PySem.Value.type "tuple") Option.none (PySem.Data.seq #[]) #[]
noncomputable def mo_2_81 (P : PySem.Params) : PySem.Obj := PySem.Obj.mk PySem.Value.none Option.none (PySem.Data.fields #[]) #[]
noncomputable def mo_2_82 (P : PySem.Params) : PySem.Obj := PySem.Obj.mk (PySem.Value.type "tuple") Option.none (PySem.Data.seq #[PySem.Value.str (PySem.Str.ofString "a") 284, PySem.Value.str (PySem.Str.ofString "b") 285, PySem.Value.str (PySem.Str.ofString "w") 286, PySem.Value.str (PySem.Str.ofString "found") 287, PySem.Value.str (PySem.Str.ofString "borrow") 288, PySem.Value.str (PySem.Str.ofString "base") 289, PySem.Value.str (PySem.Str.ofString "at") 290, PySem.Value.str (PySem.Str.ofString "limb") 291]) #[]
noncomputable def mo_2_83 (P : PySem.Params) : PySem.Obj := PySem.Obj.mk (PySem.Value.type "tuple") Option.none (PySem.Data.seq #[]) #[]
noncomputable def mo_2_84 (P : PySem.Params) : PySem.Obj := PySem.Obj.mk PySem.Value.none Option.none (PySem.Data.func (PySem.FuncData.mk (PySem.Str.ofString "sub") (PySem.Str.ofString "sub") (Mine.argsAt 8) (PySem.FuncBody.stmts (Mine.bodyAt 8)) (Mine.scopeAt 8) 0 [] PySem.Value.none PySem.Value.none PySem.Value.none PySem.Value.none Option.none PySem.Value.none PySem.Value.none 0)) #[]
noncomputable def mo_2_85 (P : PySem.Params) : PySem.Obj := PySem.Obj.mk (PySem.Value.type "code") Option.none (PySem.Data.fields #[PySem.Value.str (PySem.Str.ofString "sub") 281, PySem.Value.str (PySem.Str.ofString "sub") 282, PySem.Value.str (PySem.Str.ofString "/claim/cut.py") 283, PySem.Value.int 43 0, PySem.Value.int 3 0, PySem.Value.int 0 0, PySem.Value.int 0 0, PySem.Value.int 3 0, PySem.Value.ref 80, PySem.Value.bool Bool.true, PySem.Value.int 181 0, PySem.Value.ref 81, PySem.Value.none, PySem.Value.ref 82, PySem.Value.ref 83, PySem.Value.ref 84, PySem.Value.int 292 0, PySem.Value.int 43 0, PySem.Value.str (PySem.Str.ofString "/claim/cut.py") 293]) #[]
noncomputable def mo_2_86 (P : PySem.Params) : PySem.Obj := PySem.Obj.mk (PySem.Value.type "function") Option.none (PySem.Data.func (PySem.FuncData.mk (PySem.Str.ofString "sub") (PySem.Str.ofString "sub") (Mine.argsAt 8) (PySem.FuncBody.stmts (Mine.bodyAt 8)) (Mine.scopeAt 8) 3 [] PySem.Value.none PySem.Value.none PySem.Value.none (PySem.Value.str (PySem.Str.ofString "gmp.limbs") 187) Option.none (PySem.Value.ref 85) PySem.Value.none 0)) #[]
noncomputable def mh_2 (P : PySem.Params) : PySem.Heap := PySem.Heap.mk (Array.mk [PySem.W.boot_o_0 P, PySem.W.boot_o_1 P, mo_1_2 P, mo_2_3 P, PySem.W.boot_o_4 P, PySem.W.boot_o_5 P, PySem.W.boot_o_6 P, PySem.W.boot_o_7 P, PySem.W.boot_o_8 P, PySem.W.boot_o_9 P, PySem.W.boot_o_10 P, mo_A_11 P, mo_2_12 P, mo_A_13 P, mo_A_14 P, mo_1_15 P, mo_1_16 P, mo_1_17 P, mo_1_18 P, mo_1_19 P, mo_1_20 P, mo_1_21 P, mo_1_22 P, mo_1_23 P, mo_2_24 P, mo_1_25 P, mo_1_26 P, mo_1_27 P, mo_1_28 P, mo_1_29 P, mo_1_30 P, mo_1_31 P, mo_1_32 P, mo_1_33 P, mo_1_34 P, mo_1_35 P, mo_1_36 P, mo_1_37 P, mo_1_38 P, mo_1_39 P, mo_2_40 P, mo_2_41 P, mo_2_42 P, mo_2_43 P, mo_2_44 P, mo_2_45 P, mo_2_46 P, mo_2_47 P, mo_2_48 P, mo_2_49 P, mo_2_50 P, mo_2_51 P, mo_2_52 P, mo_2_53 P, mo_2_54 P, mo_2_55 P, mo_2_56 P, mo_2_57 P, mo_2_58 P, mo_2_59 P, mo_2_60 P, mo_2_61 P, mo_2_62 P, mo_2_63 P, mo_2_64 P, mo_2_65 P, mo_2_66 P, mo_2_67 P, mo_2_68 P, mo_2_69 P, mo_2_70 P, mo_2_71 P, mo_2_72 P, mo_2_73 P, mo_2_74 P, mo_2_75 P, mo_2_76 P, mo_2_77 P, mo_2_78 P, mo_2_79 P, mo_2_80 P, mo_2_81 P, mo_2_82 P, mo_2_83 P, mo_2_84 P, mo_2_85 P, mo_2_86 P]) (PySem.Life.mk [] [] [] 0 [] [] Bool.false #[] [] 0 Bool.false Bool.false Bool.false 0 [2000, 10, 10] Bool.false 0 Bool.true [] [] 0 Bool.false)
noncomputable def ms_2 (w : PySem.World) (os : PySem.OsState) : PySem.Shared := ⟨mh_2 w.params, Array.mk [], PySem.Drawn.mk 0 0 0 0, 295, os⟩
noncomputable def mo_3_3 (P : PySem.Params) : PySem.Obj := PySem.Obj.mk (PySem.Value.type "dict") Option.none (PySem.Data.dict #[PySem.DictEntry.mk (PySem.PyData.keyHash P (PySem.Str.ofString "__name__")) (PySem.Value.str (PySem.Str.ofString "__name__") 165) (PySem.Value.str (PySem.Str.ofString "gmp.roots") 384), PySem.DictEntry.mk (PySem.PyData.keyHash P (PySem.Str.ofString "__doc__")) (PySem.Value.str (PySem.Str.ofString "__doc__") 166) PySem.Value.none, PySem.DictEntry.mk (PySem.PyData.keyHash P (PySem.Str.ofString "__package__")) (PySem.Value.str (PySem.Str.ofString "__package__") 167) PySem.Value.none, PySem.DictEntry.mk (PySem.PyData.keyHash P (PySem.Str.ofString "__loader__")) (PySem.Value.str (PySem.Str.ofString "__loader__") 168) (PySem.Value.builtin "__main__.__loader__#opaque"), PySem.DictEntry.mk (PySem.PyData.keyHash P (PySem.Str.ofString "__spec__")) (PySem.Value.str (PySem.Str.ofString "__spec__") 169) PySem.Value.none, PySem.DictEntry.mk (PySem.PyData.keyHash P (PySem.Str.ofString "__annotations__")) (PySem.Value.str (PySem.Str.ofString "__annotations__") 170) (PySem.Value.ref 6), PySem.DictEntry.mk (PySem.PyData.keyHash P (PySem.Str.ofString "__builtins__")) (PySem.Value.str (PySem.Str.ofString "__builtins__") 171) (PySem.Value.ref 4), PySem.DictEntry.mk (PySem.PyData.keyHash P (PySem.Str.ofString "__file__")) (PySem.Value.str (PySem.Str.ofString "__file__") 173) (PySem.Value.str (PySem.Str.ofString "/claim/cut.py") 172), PySem.DictEntry.mk (PySem.PyData.keyHash P (PySem.Str.ofString "__cached__")) (PySem.Value.str (PySem.Str.ofString "__cached__") 174) PySem.Value.none, PySem.DictEntry.mk (PySem.PyData.keyHash P (PySem.Str.ofString "GmpError")) (PySem.Value.str (PySem.Str.ofString "GmpError") 208) (PySem.Value.ref 24), PySem.DictEntry.mk (PySem.PyData.keyHash P (PySem.Str.ofString "DivisionByZero")) (PySem.Value.str (PySem.Str.ofString "DivisionByZero") 224) (PySem.Value.ref 37), PySem.DictEntry.mk (PySem.PyData.keyHash P (PySem.Str.ofString "OutOfRange")) (PySem.Value.str (PySem.Str.ofString "OutOfRange") 240) (PySem.Value.ref 49), PySem.DictEntry.mk (PySem.PyData.keyHash P (PySem.Str.ofString "normal")) (PySem.Value.str (PySem.Str.ofString "normal") 248) (PySem.Value.ref 58), PySem.DictEntry.mk (PySem.PyData.keyHash P (PySem.Str.ofString "nat_of")) (PySem.Value.str (PySem.Str.ofString "nat_of") 258) (PySem.Value.ref 65), PySem.DictEntry.mk (PySem.PyData.keyHash P (PySem.Str.ofString "compare")) (PySem.Value.str (PySem.Str.ofString "compare") 267) (PySem.Value.ref 72), PySem.DictEntry.mk (PySem.PyData.keyHash P (PySem.Str.ofString "add")) (PySem.Value.str (PySem.Str.ofString "add") 280) (PySem.Value.ref 79), PySem.DictEntry.mk (PySem.PyData.keyHash P (PySem.Str.ofString "sub")) (PySem.Value.str (PySem.Str.ofString "sub") 294) (PySem.Value.ref 86), PySem.DictEntry.mk (PySem.PyData.keyHash P (PySem.Str.ofString "add_limb")) (PySem.Value.str (PySem.Str.ofString "add_limb") 306) (PySem.Value.ref 93), PySem.DictEntry.mk (PySem.PyData.keyHash P (PySem.Str.ofString "add_at")) (PySem.Value.str (PySem.Str.ofString "add_at") 316) (PySem.Value.ref 100), PySem.DictEntry.mk (PySem.PyData.keyHash P (PySem.Str.ofString "divrem_limb")) (PySem.Value.str (PySem.Str.ofString "divrem_limb") 328) (PySem.Value.ref 107), PySem.DictEntry.mk (PySem.PyData.keyHash P (PySem.Str.ofString "shift_left")) (PySem.Value.str (PySem.Str.ofString "shift_left") 343) (PySem.Value.ref 114), PySem.DictEntry.mk (PySem.PyData.keyHash P (PySem.Str.ofString "shift_right")) (PySem.Value.str (PySem.Str.ofString "shift_right") 358) (PySem.Value.ref 121), PySem.DictEntry.mk (PySem.PyData.keyHash P (PySem.Str.ofString "bits")) (PySem.Value.str (PySem.Str.ofString "bits") 366) (PySem.Value.ref 128), PySem.DictEntry.mk (PySem.PyData.keyHash P (PySem.Str.ofString "bit")) (PySem.Value.str (PySem.Str.ofString "bit") 375) (PySem.Value.ref 135), PySem.DictEntry.mk (PySem.PyData.keyHash P (PySem.Str.ofString "split")) (PySem.Value.str (PySem.Str.ofString "split") 383) (PySem.Value.ref 142), PySem.DictEntry.mk (PySem.PyData.keyHash P (PySem.Str.ofString "sqrt_small")) (PySem.Value.str (PySem.Str.ofString "sqrt_small") 394) (PySem.Value.ref 149), PySem.DictEntry.mk (PySem.PyData.keyHash P (PySem.Str.ofString "sqrt_plain")) (PySem.Value.str (PySem.Str.ofString "sqrt_plain") 406) (PySem.Value.ref 156), PySem.DictEntry.mk (PySem.PyData.keyHash P (PySem.Str.ofString "sqrt_two_limbs")) (PySem.Value.str (PySem.Str.ofString "sqrt_two_limbs") 417) (PySem.Value.ref 163)] 28) #[]
noncomputable def mo_3_12 (P : PySem.Params) : PySem.Obj := PySem.Obj.mk PySem.Value.none Option.none (PySem.Data.fields #[PySem.Value.int 2 0, PySem.Value.int 0 0, PySem.Value.ref 20, PySem.Value.int 4 0, PySem.Value.int 0 0, PySem.Value.ref 33, PySem.Value.int 6 0, PySem.Value.int 0 0, PySem.Value.ref 45, PySem.Value.int 8 0, PySem.Value.int 0 0, PySem.Value.ref 57, PySem.Value.int 13 0, PySem.Value.int 0 0, PySem.Value.ref 64, PySem.Value.int 21 0, PySem.Value.int 0 0, PySem.Value.ref 71, PySem.Value.int 28 0, PySem.Value.int 0 0, PySem.Value.ref 78, PySem.Value.int 43 0, PySem.Value.int 0 0, PySem.Value.ref 85, PySem.Value.int 52 0, PySem.Value.int 0 0, PySem.Value.ref 92, PySem.Value.int 61 0, PySem.Value.int 0 0, PySem.Value.ref 99, PySem.Value.int 67 0, PySem.Value.int 0 0, PySem.Value.ref 106, PySem.Value.int 76 0, PySem.Value.int 0 0, PySem.Value.ref 113, PySem.Value.int 88 0, PySem.Value.int 0 0, PySem.Value.ref 120, PySem.Value.int 95 0, PySem.Value.int 0 0, PySem.Value.ref 127, PySem.Value.int 97 0, PySem.Value.int 0 0, PySem.Value.ref 134, PySem.Value.int 99 0, PySem.Value.int 0 0, PySem.Value.ref 141, PySem.Value.int 102 0, PySem.Value.int 0 0, PySem.Value.ref 148, PySem.Value.int 115 0, PySem.Value.int 0 0, PySem.Value.ref 155, PySem.Value.int 126 0, PySem.Value.int 0 0, PySem.Value.ref 162]) #[]
noncomputable def mo_3_87 (P : PySem.Params) : PySem.Obj := PySem.Obj.mk (PySem.Value.type "tuple") Option.none (PySem.Data.seq #[]) #[]
noncomputable def mo_3_88 (P : PySem.Params) : PySem.Obj := PySem.Obj.mk PySem.Value.none Option.none (PySem.Data.fields #[]) #[]
noncomputable def mo_3_89 (P : PySem.Params) : PySem.Obj := PySem.Obj.mk (PySem.Value.type "tuple") Option.none (PySem.Data.seq #[PySem.Value.str (PySem.Str.ofString "a") 298, PySem.Value.str (PySem.Str.ofString "limb") 299, PySem.Value.str (PySem.Str.ofString "w") 300, PySem.Value.str (PySem.Str.ofString "found") 301, PySem.Value.str (PySem.Str.ofString "mask") 302, PySem.Value.str (PySem.Str.ofString "one") 303]) #[]
noncomputable def mo_3_90 (P : PySem.Params) : PySem.Obj := PySem.Obj.mk (PySem.Value.type "tuple") Option.none (PySem.Data.seq #[]) #[]
noncomputable def mo_3_91 (P : PySem.Params) : PySem.Obj := PySem.Obj.mk PySem.Value.none Option.none (PySem.Data.func (PySem.FuncData.mk (PySem.Str.ofString "add_limb") (PySem.Str.ofString "add_limb") (Mine.argsAt 9) (PySem.FuncBody.stmts (Mine.bodyAt 9)) (Mine.scopeAt 9) 0 [] PySem.Value.none PySem.Value.none PySem.Value.none PySem.Value.none Option.none PySem.Value.none PySem.Value.none 0)) #[]
noncomputable def mo_3_92 (P : PySem.Params) : PySem.Obj := PySem.Obj.mk (PySem.Value.type "code") Option.none (PySem.Data.fields #[PySem.Value.str (PySem.Str.ofString "add_limb") 295, PySem.Value.str (PySem.Str.ofString "add_limb") 296, PySem.Value.str (PySem.Str.ofString "/claim/cut.py") 297, PySem.Value.int 52 0, PySem.Value.int 3 0, PySem.Value.int 0 0, PySem.Value.int 0 0, PySem.Value.int 3 0, PySem.Value.ref 87, PySem.Value.bool Bool.true, PySem.Value.int 181 0, PySem.Value.ref 88, PySem.Value.none, PySem.Value.ref 89, PySem.Value.ref 90, PySem.Value.ref 91, PySem.Value.int 304 0, PySem.Value.int 52 0, PySem.Value.str (PySem.Str.ofString "/claim/cut.py") 305]) #[]
noncomputable def mo_3_93 (P : PySem.Params) : PySem.Obj := PySem.Obj.mk (PySem.Value.type "function") Option.none (PySem.Data.func (PySem.FuncData.mk (PySem.Str.ofString "add_limb") (PySem.Str.ofString "add_limb") (Mine.argsAt 9) (PySem.FuncBody.stmts (Mine.bodyAt 9)) (Mine.scopeAt 9) 3 [] PySem.Value.none PySem.Value.none PySem.Value.none (PySem.Value.str (PySem.Str.ofString "gmp.limbs") 187) Option.none (PySem.Value.ref 92) PySem.Value.none 0)) #[]
noncomputable def mo_3_94 (P : PySem.Params) : PySem.Obj := PySem.Obj.mk (PySem.Value.type "tuple") Option.none (PySem.Data.seq #[]) #[]
noncomputable def mo_3_95 (P : PySem.Params) : PySem.Obj := PySem.Obj.mk PySem.Value.none Option.none (PySem.Data.fields #[]) #[]
noncomputable def mo_3_96 (P : PySem.Params) : PySem.Obj := PySem.Obj.mk (PySem.Value.type "tuple") Option.none (PySem.Data.seq #[PySem.Value.str (PySem.Str.ofString "a") 310, PySem.Value.str (PySem.Str.ofString "b") 311, PySem.Value.str (PySem.Str.ofString "spot") 312, PySem.Value.str (PySem.Str.ofString "w") 313]) #[]
noncomputable def mo_3_97 (P : PySem.Params) : PySem.Obj := PySem.Obj.mk (PySem.Value.type "tuple") Option.none (PySem.Data.seq #[]) #[]
noncomputable def mo_3_98 (P : PySem.Params) : PySem.Obj := PySem.Obj.mk PySem.Value.none Option.none (PySem.Data.func (PySem.FuncData.mk (PySem.Str.ofString "add_at") (PySem.Str.ofString "add_at") (Mine.argsAt 10) (PySem.FuncBody.stmts (Mine.bodyAt 10)) (Mine.scopeAt 10) 0 [] PySem.Value.none PySem.Value.none PySem.Value.none PySem.Value.none Option.none PySem.Value.none PySem.Value.none 0)) #[]
noncomputable def mo_3_99 (P : PySem.Params) : PySem.Obj := PySem.Obj.mk (PySem.Value.type "code") Option.none (PySem.Data.fields #[PySem.Value.str (PySem.Str.ofString "add_at") 307, PySem.Value.str (PySem.Str.ofString "add_at") 308, PySem.Value.str (PySem.Str.ofString "/claim/cut.py") 309, PySem.Value.int 61 0, PySem.Value.int 4 0, PySem.Value.int 0 0, PySem.Value.int 0 0, PySem.Value.int 3 0, PySem.Value.ref 94, PySem.Value.bool Bool.true, PySem.Value.int 181 0, PySem.Value.ref 95, PySem.Value.none, PySem.Value.ref 96, PySem.Value.ref 97, PySem.Value.ref 98, PySem.Value.int 314 0, PySem.Value.int 61 0, PySem.Value.str (PySem.Str.ofString "/claim/cut.py") 315]) #[]
noncomputable def mo_3_100 (P : PySem.Params) : PySem.Obj := PySem.Obj.mk (PySem.Value.type "function") Option.none (PySem.Data.func (PySem.FuncData.mk (PySem.Str.ofString "add_at") (PySem.Str.ofString "add_at") (Mine.argsAt 10) (PySem.FuncBody.stmts (Mine.bodyAt 10)) (Mine.scopeAt 10) 3 [] PySem.Value.none PySem.Value.none PySem.Value.none (PySem.Value.str (PySem.Str.ofString "gmp.limbs") 187) Option.none (PySem.Value.ref 99) PySem.Value.none 0)) #[]
noncomputable def mo_3_101 (P : PySem.Params) : PySem.Obj := PySem.Obj.mk (PySem.Value.type "tuple") Option.none (PySem.Data.seq #[]) #[]
noncomputable def mo_3_102 (P : PySem.Params) : PySem.Obj := PySem.Obj.mk PySem.Value.none Option.none (PySem.Data.fields #[]) #[]
noncomputable def mo_3_103 (P : PySem.Params) : PySem.Obj := PySem.Obj.mk (PySem.Value.type "tuple") Option.none (PySem.Data.seq #[PySem.Value.str (PySem.Str.ofString "a") 320, PySem.Value.str (PySem.Str.ofString "limb") 321, PySem.Value.str (PySem.Str.ofString "w") 322, PySem.Value.str (PySem.Str.ofString "found") 323, PySem.Value.str (PySem.Str.ofString "rest") 324, PySem.Value.str (PySem.Str.ofString "at") 325]) #[]
noncomputable def mo_3_104 (P : PySem.Params) : PySem.Obj := PySem.Obj.mk (PySem.Value.type "tuple") Option.none (PySem.Data.seq #[]) #[]
noncomputable def mo_3_105 (P : PySem.Params) : PySem.Obj := PySem.Obj.mk PySem.Value.none Option.none (PySem.Data.func (PySem.FuncData.mk (PySem.Str.ofString "divrem_limb") (PySem.Str.ofString "divrem_limb") (Mine.argsAt 11) (PySem.FuncBody.stmts (Mine.bodyAt 11)) (Mine.scopeAt 11) 0 [] PySem.Value.none PySem.Value.none PySem.Value.none PySem.Value.none Option.none PySem.Value.none PySem.Value.none 0)) #[]
noncomputable def mo_3_106 (P : PySem.Params) : PySem.Obj := PySem.Obj.mk (PySem.Value.type "code") Option.none (PySem.Data.fields #[PySem.Value.str (PySem.Str.ofString "divrem_limb") 317, PySem.Value.str (PySem.Str.ofString "divrem_limb") 318, PySem.Value.str (PySem.Str.ofString "/claim/cut.py") 319, PySem.Value.int 67 0, PySem.Value.int 3 0, PySem.Value.int 0 0, PySem.Value.int 0 0, PySem.Value.int 3 0, PySem.Value.ref 101, PySem.Value.bool Bool.true, PySem.Value.int 181 0, PySem.Value.ref 102, PySem.Value.none, PySem.Value.ref 103, PySem.Value.ref 104, PySem.Value.ref 105, PySem.Value.int 326 0, PySem.Value.int 67 0, PySem.Value.str (PySem.Str.ofString "/claim/cut.py") 327]) #[]
noncomputable def mo_3_107 (P : PySem.Params) : PySem.Obj := PySem.Obj.mk (PySem.Value.type "function") Option.none (PySem.Data.func (PySem.FuncData.mk (PySem.Str.ofString "divrem_limb") (PySem.Str.ofString "divrem_limb") (Mine.argsAt 11) (PySem.FuncBody.stmts (Mine.bodyAt 11)) (Mine.scopeAt 11) 3 [] PySem.Value.none PySem.Value.none PySem.Value.none (PySem.Value.str (PySem.Str.ofString "gmp.limbs") 187) Option.none (PySem.Value.ref 106) PySem.Value.none 0)) #[]
noncomputable def mo_3_108 (P : PySem.Params) : PySem.Obj := PySem.Obj.mk (PySem.Value.type "tuple") Option.none (PySem.Data.seq #[]) #[]
noncomputable def mo_3_109 (P : PySem.Params) : PySem.Obj := PySem.Obj.mk PySem.Value.none Option.none (PySem.Data.fields #[]) #[]
noncomputable def mo_3_110 (P : PySem.Params) : PySem.Obj := PySem.Obj.mk (PySem.Value.type "tuple") Option.none (PySem.Data.seq #[PySem.Value.str (PySem.Str.ofString "a") 332, PySem.Value.str (PySem.Str.ofString "n") 333, PySem.Value.str (PySem.Str.ofString "w") 334, PySem.Value.str (PySem.Str.ofString "spots") 335, PySem.Value.str (PySem.Str.ofString "few") 336, PySem.Value.str (PySem.Str.ofString "found") 337, PySem.Value.str (PySem.Str.ofString "carry") 338, PySem.Value.str (PySem.Str.ofString "mask") 339, PySem.Value.str (PySem.Str.ofString "one") 340]) #[]
noncomputable def mo_3_111 (P : PySem.Params) : PySem.Obj := PySem.Obj.mk (PySem.Value.type "tuple") Option.none (PySem.Data.seq #[]) #[]
noncomputable def mo_3_112 (P : PySem.Params) : PySem.Obj := PySem.Obj.mk PySem.Value.none Option.none (PySem.Data.func (PySem.FuncData.mk (PySem.Str.ofString "shift_left") (PySem.Str.ofString "shift_left") (Mine.argsAt 12) (PySem.FuncBody.stmts (Mine.bodyAt 12)) (Mine.scopeAt 12) 0 [] PySem.Value.none PySem.Value.none PySem.Value.none PySem.Value.none Option.none PySem.Value.none PySem.Value.none 0)) #[]
noncomputable def mo_3_113 (P : PySem.Params) : PySem.Obj := PySem.Obj.mk (PySem.Value.type "code") Option.none (PySem.Data.fields #[PySem.Value.str (PySem.Str.ofString "shift_left") 329, PySem.Value.str (PySem.Str.ofString "shift_left") 330, PySem.Value.str (PySem.Str.ofString "/claim/cut.py") 331, PySem.Value.int 76 0, PySem.Value.int 3 0, PySem.Value.int 0 0, PySem.Value.int 0 0, PySem.Value.int 3 0, PySem.Value.ref 108, PySem.Value.bool Bool.true, PySem.Value.int 181 0, PySem.Value.ref 109, PySem.Value.none, PySem.Value.ref 110, PySem.Value.ref 111, PySem.Value.ref 112, PySem.Value.int 341 0, PySem.Value.int 76 0, PySem.Value.str (PySem.Str.ofString "/claim/cut.py") 342]) #[]
noncomputable def mo_3_114 (P : PySem.Params) : PySem.Obj := PySem.Obj.mk (PySem.Value.type "function") Option.none (PySem.Data.func (PySem.FuncData.mk (PySem.Str.ofString "shift_left") (PySem.Str.ofString "shift_left") (Mine.argsAt 12) (PySem.FuncBody.stmts (Mine.bodyAt 12)) (Mine.scopeAt 12) 3 [] PySem.Value.none PySem.Value.none PySem.Value.none (PySem.Value.str (PySem.Str.ofString "gmp.limbs") 187) Option.none (PySem.Value.ref 113) PySem.Value.none 0)) #[]
noncomputable def mo_3_115 (P : PySem.Params) : PySem.Obj := PySem.Obj.mk (PySem.Value.type "tuple") Option.none (PySem.Data.seq #[]) #[]
noncomputable def mo_3_116 (P : PySem.Params) : PySem.Obj := PySem.Obj.mk PySem.Value.none Option.none (PySem.Data.fields #[]) #[]
noncomputable def mo_3_117 (P : PySem.Params) : PySem.Obj := PySem.Obj.mk (PySem.Value.type "tuple") Option.none (PySem.Data.seq #[PySem.Value.str (PySem.Str.ofString "a") 347, PySem.Value.str (PySem.Str.ofString "n") 348, PySem.Value.str (PySem.Str.ofString "w") 349, PySem.Value.str (PySem.Str.ofString "spots") 350, PySem.Value.str (PySem.Str.ofString "few") 351, PySem.Value.str (PySem.Str.ofString "found") 352, PySem.Value.str (PySem.Str.ofString "mask") 353, PySem.Value.str (PySem.Str.ofString "at") 354, PySem.Value.str (PySem.Str.ofString "above") 355]) #[]
noncomputable def mo_3_118 (P : PySem.Params) : PySem.Obj := PySem.Obj.mk (PySem.Value.type "tuple") Option.none (PySem.Data.seq #[]) #[]
noncomputable def mo_3_119 (P : PySem.Params) : PySem.Obj := PySem.Obj.mk PySem.Value.none Option.none (PySem.Data.func (PySem.FuncData.mk (PySem.Str.ofString "shift_right") (PySem.Str.ofString "shift_right") (Mine.argsAt 13) (PySem.FuncBody.stmts (Mine.bodyAt 13)) (Mine.scopeAt 13) 0 [] PySem.Value.none PySem.Value.none PySem.Value.none PySem.Value.none Option.none PySem.Value.none PySem.Value.none 0)) #[]
noncomputable def mo_3_120 (P : PySem.Params) : PySem.Obj := PySem.Obj.mk (PySem.Value.type "code") Option.none (PySem.Data.fields #[PySem.Value.str (PySem.Str.ofString "shift_right") 344, PySem.Value.str (PySem.Str.ofString "shift_right") 345, PySem.Value.str (PySem.Str.ofString "/claim/cut.py") 346, PySem.Value.int 88 0, PySem.Value.int 3 0, PySem.Value.int 0 0, PySem.Value.int 0 0, PySem.Value.int 3 0, PySem.Value.ref 115, PySem.Value.bool Bool.true, PySem.Value.int 181 0, PySem.Value.ref 116, PySem.Value.none, PySem.Value.ref 117, PySem.Value.ref 118, PySem.Value.ref 119, PySem.Value.int 356 0, PySem.Value.int 88 0, PySem.Value.str (PySem.Str.ofString "/claim/cut.py") 357]) #[]
noncomputable def mo_3_121 (P : PySem.Params) : PySem.Obj := PySem.Obj.mk (PySem.Value.type "function") Option.none (PySem.Data.func (PySem.FuncData.mk (PySem.Str.ofString "shift_right") (PySem.Str.ofString "shift_right") (Mine.argsAt 13) (PySem.FuncBody.stmts (Mine.bodyAt 13)) (Mine.scopeAt 13) 3 [] PySem.Value.none PySem.Value.none PySem.Value.none (PySem.Value.str (PySem.Str.ofString "gmp.limbs") 187) Option.none (PySem.Value.ref 120) PySem.Value.none 0)) #[]
noncomputable def mo_3_122 (P : PySem.Params) : PySem.Obj := PySem.Obj.mk (PySem.Value.type "tuple") Option.none (PySem.Data.seq #[]) #[]
noncomputable def mo_3_123 (P : PySem.Params) : PySem.Obj := PySem.Obj.mk PySem.Value.none Option.none (PySem.Data.fields #[]) #[]
noncomputable def mo_3_124 (P : PySem.Params) : PySem.Obj := PySem.Obj.mk (PySem.Value.type "tuple") Option.none (PySem.Data.seq #[PySem.Value.str (PySem.Str.ofString "a") 362, PySem.Value.str (PySem.Str.ofString "w") 363]) #[]
noncomputable def mo_3_125 (P : PySem.Params) : PySem.Obj := PySem.Obj.mk (PySem.Value.type "tuple") Option.none (PySem.Data.seq #[]) #[]
noncomputable def mo_3_126 (P : PySem.Params) : PySem.Obj := PySem.Obj.mk PySem.Value.none Option.none (PySem.Data.func (PySem.FuncData.mk (PySem.Str.ofString "bits") (PySem.Str.ofString "bits") (Mine.argsAt 14) (PySem.FuncBody.stmts (Mine.bodyAt 14)) (Mine.scopeAt 14) 0 [] PySem.Value.none PySem.Value.none PySem.Value.none PySem.Value.none Option.none PySem.Value.none PySem.Value.none 0)) #[]
noncomputable def mo_3_127 (P : PySem.Params) : PySem.Obj := PySem.Obj.mk (PySem.Value.type "code") Option.none (PySem.Data.fields #[PySem.Value.str (PySem.Str.ofString "bits") 359, PySem.Value.str (PySem.Str.ofString "bits") 360, PySem.Value.str (PySem.Str.ofString "/claim/cut.py") 361, PySem.Value.int 95 0, PySem.Value.int 2 0, PySem.Value.int 0 0, PySem.Value.int 0 0, PySem.Value.int 3 0, PySem.Value.ref 122, PySem.Value.bool Bool.true, PySem.Value.int 181 0, PySem.Value.ref 123, PySem.Value.none, PySem.Value.ref 124, PySem.Value.ref 125, PySem.Value.ref 126, PySem.Value.int 364 0, PySem.Value.int 95 0, PySem.Value.str (PySem.Str.ofString "/claim/cut.py") 365]) #[]
noncomputable def mo_3_128 (P : PySem.Params) : PySem.Obj := PySem.Obj.mk (PySem.Value.type "function") Option.none (PySem.Data.func (PySem.FuncData.mk (PySem.Str.ofString "bits") (PySem.Str.ofString "bits") (Mine.argsAt 14) (PySem.FuncBody.stmts (Mine.bodyAt 14)) (Mine.scopeAt 14) 3 [] PySem.Value.none PySem.Value.none PySem.Value.none (PySem.Value.str (PySem.Str.ofString "gmp.limbs") 187) Option.none (PySem.Value.ref 127) PySem.Value.none 0)) #[]
noncomputable def mo_3_129 (P : PySem.Params) : PySem.Obj := PySem.Obj.mk (PySem.Value.type "tuple") Option.none (PySem.Data.seq #[]) #[]
noncomputable def mo_3_130 (P : PySem.Params) : PySem.Obj := PySem.Obj.mk PySem.Value.none Option.none (PySem.Data.fields #[]) #[]
noncomputable def mo_3_131 (P : PySem.Params) : PySem.Obj := PySem.Obj.mk (PySem.Value.type "tuple") Option.none (PySem.Data.seq #[PySem.Value.str (PySem.Str.ofString "a") 370, PySem.Value.str (PySem.Str.ofString "n") 371, PySem.Value.str (PySem.Str.ofString "w") 372]) #[]
noncomputable def mo_3_132 (P : PySem.Params) : PySem.Obj := PySem.Obj.mk (PySem.Value.type "tuple") Option.none (PySem.Data.seq #[]) #[]
noncomputable def mo_3_133 (P : PySem.Params) : PySem.Obj := PySem.Obj.mk PySem.Value.none Option.none (PySem.Data.func (PySem.FuncData.mk (PySem.Str.ofString "bit") (PySem.Str.ofString "bit") (Mine.argsAt 15) (PySem.FuncBody.stmts (Mine.bodyAt 15)) (Mine.scopeAt 15) 0 [] PySem.Value.none PySem.Value.none PySem.Value.none PySem.Value.none Option.none PySem.Value.none PySem.Value.none 0)) #[]
noncomputable def mo_3_134 (P : PySem.Params) : PySem.Obj := PySem.Obj.mk (PySem.Value.type "code") Option.none (PySem.Data.fields #[PySem.Value.str (PySem.Str.ofString "bit") 367, PySem.Value.str (PySem.Str.ofString "bit") 368, PySem.Value.str (PySem.Str.ofString "/claim/cut.py") 369, PySem.Value.int 97 0, PySem.Value.int 3 0, PySem.Value.int 0 0, PySem.Value.int 0 0, PySem.Value.int 3 0, PySem.Value.ref 129, PySem.Value.bool Bool.true, PySem.Value.int 181 0, PySem.Value.ref 130, PySem.Value.none, PySem.Value.ref 131, PySem.Value.ref 132, PySem.Value.ref 133, PySem.Value.int 373 0, PySem.Value.int 97 0, PySem.Value.str (PySem.Str.ofString "/claim/cut.py") 374]) #[]
noncomputable def mo_3_135 (P : PySem.Params) : PySem.Obj := PySem.Obj.mk (PySem.Value.type "function") Option.none (PySem.Data.func (PySem.FuncData.mk (PySem.Str.ofString "bit") (PySem.Str.ofString "bit") (Mine.argsAt 15) (PySem.FuncBody.stmts (Mine.bodyAt 15)) (Mine.scopeAt 15) 3 [] PySem.Value.none PySem.Value.none PySem.Value.none (PySem.Value.str (PySem.Str.ofString "gmp.limbs") 187) Option.none (PySem.Value.ref 134) PySem.Value.none 0)) #[]
noncomputable def mo_3_136 (P : PySem.Params) : PySem.Obj := PySem.Obj.mk (PySem.Value.type "tuple") Option.none (PySem.Data.seq #[]) #[]
noncomputable def mo_3_137 (P : PySem.Params) : PySem.Obj := PySem.Obj.mk PySem.Value.none Option.none (PySem.Data.fields #[]) #[]
noncomputable def mo_3_138 (P : PySem.Params) : PySem.Obj := PySem.Obj.mk (PySem.Value.type "tuple") Option.none (PySem.Data.seq #[PySem.Value.str (PySem.Str.ofString "a") 379, PySem.Value.str (PySem.Str.ofString "spot") 380]) #[]
noncomputable def mo_3_139 (P : PySem.Params) : PySem.Obj := PySem.Obj.mk (PySem.Value.type "tuple") Option.none (PySem.Data.seq #[]) #[]
noncomputable def mo_3_140 (P : PySem.Params) : PySem.Obj := PySem.Obj.mk PySem.Value.none Option.none (PySem.Data.func (PySem.FuncData.mk (PySem.Str.ofString "split") (PySem.Str.ofString "split") (Mine.argsAt 16) (PySem.FuncBody.stmts (Mine.bodyAt 16)) (Mine.scopeAt 16) 0 [] PySem.Value.none PySem.Value.none PySem.Value.none PySem.Value.none Option.none PySem.Value.none PySem.Value.none 0)) #[]
noncomputable def mo_3_141 (P : PySem.Params) : PySem.Obj := PySem.Obj.mk (PySem.Value.type "code") Option.none (PySem.Data.fields #[PySem.Value.str (PySem.Str.ofString "split") 376, PySem.Value.str (PySem.Str.ofString "split") 377, PySem.Value.str (PySem.Str.ofString "/claim/cut.py") 378, PySem.Value.int 99 0, PySem.Value.int 2 0, PySem.Value.int 0 0, PySem.Value.int 0 0, PySem.Value.int 3 0, PySem.Value.ref 136, PySem.Value.bool Bool.true, PySem.Value.int 181 0, PySem.Value.ref 137, PySem.Value.none, PySem.Value.ref 138, PySem.Value.ref 139, PySem.Value.ref 140, PySem.Value.int 381 0, PySem.Value.int 99 0, PySem.Value.str (PySem.Str.ofString "/claim/cut.py") 382]) #[]
noncomputable def mo_3_142 (P : PySem.Params) : PySem.Obj := PySem.Obj.mk (PySem.Value.type "function") Option.none (PySem.Data.func (PySem.FuncData.mk (PySem.Str.ofString "split") (PySem.Str.ofString "split") (Mine.argsAt 16) (PySem.FuncBody.stmts (Mine.bodyAt 16)) (Mine.scopeAt 16) 3 [] PySem.Value.none PySem.Value.none PySem.Value.none (PySem.Value.str (PySem.Str.ofString "gmp.limbs") 187) Option.none (PySem.Value.ref 141) PySem.Value.none 0)) #[]
noncomputable def mo_3_143 (P : PySem.Params) : PySem.Obj := PySem.Obj.mk (PySem.Value.type "tuple") Option.none (PySem.Data.seq #[]) #[]
noncomputable def mo_3_144 (P : PySem.Params) : PySem.Obj := PySem.Obj.mk PySem.Value.none Option.none (PySem.Data.fields #[]) #[]
noncomputable def mo_3_145 (P : PySem.Params) : PySem.Obj := PySem.Obj.mk (PySem.Value.type "tuple") Option.none (PySem.Data.seq #[PySem.Value.str (PySem.Str.ofString "n") 389, PySem.Value.str (PySem.Str.ofString "digit") 390, PySem.Value.str (PySem.Str.ofString "found") 391]) #[]
noncomputable def mo_3_146 (P : PySem.Params) : PySem.Obj := PySem.Obj.mk (PySem.Value.type "tuple") Option.none (PySem.Data.seq #[]) #[]
noncomputable def mo_3_147 (P : PySem.Params) : PySem.Obj := PySem.Obj.mk PySem.Value.none Option.none (PySem.Data.func (PySem.FuncData.mk (PySem.Str.ofString "sqrt_small") (PySem.Str.ofString "sqrt_small") (Mine.argsAt 18) (PySem.FuncBody.stmts (Mine.bodyAt 18)) (Mine.scopeAt 18) 0 [] PySem.Value.none PySem.Value.none PySem.Value.none PySem.Value.none Option.none PySem.Value.none PySem.Value.none 0)) #[]
noncomputable def mo_3_148 (P : PySem.Params) : PySem.Obj := PySem.Obj.mk (PySem.Value.type "code") Option.none (PySem.Data.fields #[PySem.Value.str (PySem.Str.ofString "sqrt_small") 386, PySem.Value.str (PySem.Str.ofString "sqrt_small") 387, PySem.Value.str (PySem.Str.ofString "/claim/cut.py") 388, PySem.Value.int 102 0, PySem.Value.int 1 0, PySem.Value.int 0 0, PySem.Value.int 0 0, PySem.Value.int 3 0, PySem.Value.ref 143, PySem.Value.bool Bool.true, PySem.Value.int 181 0, PySem.Value.ref 144, PySem.Value.none, PySem.Value.ref 145, PySem.Value.ref 146, PySem.Value.ref 147, PySem.Value.int 392 0, PySem.Value.int 102 0, PySem.Value.str (PySem.Str.ofString "/claim/cut.py") 393]) #[]
noncomputable def mo_3_149 (P : PySem.Params) : PySem.Obj := PySem.Obj.mk (PySem.Value.type "function") Option.none (PySem.Data.func (PySem.FuncData.mk (PySem.Str.ofString "sqrt_small") (PySem.Str.ofString "sqrt_small") (Mine.argsAt 18) (PySem.FuncBody.stmts (Mine.bodyAt 18)) (Mine.scopeAt 18) 3 [] PySem.Value.none PySem.Value.none PySem.Value.none (PySem.Value.str (PySem.Str.ofString "gmp.roots") 384) Option.none (PySem.Value.ref 148) PySem.Value.none 0)) #[]
noncomputable def mo_3_150 (P : PySem.Params) : PySem.Obj := PySem.Obj.mk (PySem.Value.type "tuple") Option.none (PySem.Data.seq #[]) #[]
noncomputable def mo_3_151 (P : PySem.Params) : PySem.Obj := PySem.Obj.mk PySem.Value.none Option.none (PySem.Data.fields #[]) #[]
noncomputable def mo_3_152 (P : PySem.Params) : PySem.Obj := PySem.Obj.mk (PySem.Value.type "tuple") Option.none (PySem.Data.seq #[PySem.Value.str (PySem.Str.ofString "a") 398, PySem.Value.str (PySem.Str.ofString "w") 399, PySem.Value.str (PySem.Str.ofString "root") 400, PySem.Value.str (PySem.Str.ofString "rest") 401, PySem.Value.str (PySem.Str.ofString "pair") 402, PySem.Value.str (PySem.Str.ofString "tried") 403]) #[]
noncomputable def mo_3_153 (P : PySem.Params) : PySem.Obj := PySem.Obj.mk (PySem.Value.type "tuple") Option.none (PySem.Data.seq #[]) #[]
noncomputable def mo_3_154 (P : PySem.Params) : PySem.Obj := PySem.Obj.mk PySem.Value.none Option.none (PySem.Data.func (PySem.FuncData.mk (PySem.Str.ofString "sqrt_plain") (PySem.Str.ofString "sqrt_plain") (Mine.argsAt 19) (PySem.FuncBody.stmts (Mine.bodyAt 19)) (Mine.scopeAt 19) 0 [] PySem.Value.none PySem.Value.none PySem.Value.none PySem.Value.none Option.none PySem.Value.none PySem.Value.none 0)) #[]
noncomputable def mo_3_155 (P : PySem.Params) : PySem.Obj := PySem.Obj.mk (PySem.Value.type "code") Option.none (PySem.Data.fields #[PySem.Value.str (PySem.Str.ofString "sqrt_plain") 395, PySem.Value.str (PySem.Str.ofString "sqrt_plain") 396, PySem.Value.str (PySem.Str.ofString "/claim/cut.py") 397, PySem.Value.int 115 0, PySem.Value.int 2 0, PySem.Value.int 0 0, PySem.Value.int 0 0, PySem.Value.int 3 0, PySem.Value.ref 150, PySem.Value.bool Bool.true, PySem.Value.int 181 0, PySem.Value.ref 151, PySem.Value.none, PySem.Value.ref 152, PySem.Value.ref 153, PySem.Value.ref 154, PySem.Value.int 404 0, PySem.Value.int 115 0, PySem.Value.str (PySem.Str.ofString "/claim/cut.py") 405]) #[]
noncomputable def mo_3_156 (P : PySem.Params) : PySem.Obj := PySem.Obj.mk (PySem.Value.type "function") Option.none (PySem.Data.func (PySem.FuncData.mk (PySem.Str.ofString "sqrt_plain") (PySem.Str.ofString "sqrt_plain") (Mine.argsAt 19) (PySem.FuncBody.stmts (Mine.bodyAt 19)) (Mine.scopeAt 19) 3 [] PySem.Value.none PySem.Value.none PySem.Value.none (PySem.Value.str (PySem.Str.ofString "gmp.roots") 384) Option.none (PySem.Value.ref 155) PySem.Value.none 0)) #[]
noncomputable def mo_3_157 (P : PySem.Params) : PySem.Obj := PySem.Obj.mk (PySem.Value.type "tuple") Option.none (PySem.Data.seq #[]) #[]
noncomputable def mo_3_158 (P : PySem.Params) : PySem.Obj := PySem.Obj.mk PySem.Value.none Option.none (PySem.Data.fields #[]) #[]
noncomputable def mo_3_159 (P : PySem.Params) : PySem.Obj := PySem.Obj.mk (PySem.Value.type "tuple") Option.none (PySem.Data.seq #[PySem.Value.str (PySem.Str.ofString "a") 410, PySem.Value.str (PySem.Str.ofString "w") 411, PySem.Value.str (PySem.Str.ofString "n") 412, PySem.Value.str (PySem.Str.ofString "limb") 413, PySem.Value.str (PySem.Str.ofString "root") 414]) #[]
noncomputable def mo_3_160 (P : PySem.Params) : PySem.Obj := PySem.Obj.mk (PySem.Value.type "tuple") Option.none (PySem.Data.seq #[]) #[]
noncomputable def mo_3_161 (P : PySem.Params) : PySem.Obj := PySem.Obj.mk PySem.Value.none Option.none (PySem.Data.func (PySem.FuncData.mk (PySem.Str.ofString "sqrt_two_limbs") (PySem.Str.ofString "sqrt_two_limbs") (Mine.argsAt 20) (PySem.FuncBody.stmts (Mine.bodyAt 20)) (Mine.scopeAt 20) 0 [] PySem.Value.none PySem.Value.none PySem.Value.none PySem.Value.none Option.none PySem.Value.none PySem.Value.none 0)) #[]
noncomputable def mo_3_162 (P : PySem.Params) : PySem.Obj := PySem.Obj.mk (PySem.Value.type "code") Option.none (PySem.Data.fields #[PySem.Value.str (PySem.Str.ofString "sqrt_two_limbs") 407, PySem.Value.str (PySem.Str.ofString "sqrt_two_limbs") 408, PySem.Value.str (PySem.Str.ofString "/claim/cut.py") 409, PySem.Value.int 126 0, PySem.Value.int 2 0, PySem.Value.int 0 0, PySem.Value.int 0 0, PySem.Value.int 3 0, PySem.Value.ref 157, PySem.Value.bool Bool.true, PySem.Value.int 181 0, PySem.Value.ref 158, PySem.Value.none, PySem.Value.ref 159, PySem.Value.ref 160, PySem.Value.ref 161, PySem.Value.int 415 0, PySem.Value.int 126 0, PySem.Value.str (PySem.Str.ofString "/claim/cut.py") 416]) #[]
noncomputable def mo_3_163 (P : PySem.Params) : PySem.Obj := PySem.Obj.mk (PySem.Value.type "function") Option.none (PySem.Data.func (PySem.FuncData.mk (PySem.Str.ofString "sqrt_two_limbs") (PySem.Str.ofString "sqrt_two_limbs") (Mine.argsAt 20) (PySem.FuncBody.stmts (Mine.bodyAt 20)) (Mine.scopeAt 20) 3 [] PySem.Value.none PySem.Value.none PySem.Value.none (PySem.Value.str (PySem.Str.ofString "gmp.roots") 384) Option.none (PySem.Value.ref 162) PySem.Value.none 0)) #[]
noncomputable def mh_3 (P : PySem.Params) : PySem.Heap := PySem.Heap.mk (Array.mk [PySem.W.boot_o_0 P, PySem.W.boot_o_1 P, mo_1_2 P, mo_3_3 P, PySem.W.boot_o_4 P, PySem.W.boot_o_5 P, PySem.W.boot_o_6 P, PySem.W.boot_o_7 P, PySem.W.boot_o_8 P, PySem.W.boot_o_9 P, PySem.W.boot_o_10 P, mo_A_11 P, mo_3_12 P, mo_A_13 P, mo_A_14 P, mo_1_15 P, mo_1_16 P, mo_1_17 P, mo_1_18 P, mo_1_19 P, mo_1_20 P, mo_1_21 P, mo_1_22 P, mo_1_23 P, mo_2_24 P, mo_1_25 P, mo_1_26 P, mo_1_27 P, mo_1_28 P, mo_1_29 P, mo_1_30 P, mo_1_31 P, mo_1_32 P, mo_1_33 P, mo_1_34 P, mo_1_35 P, mo_1_36 P, mo_1_37 P, mo_1_38 P, mo_1_39 P, mo_2_40 P, mo_2_41 P, mo_2_42 P, mo_2_43 P, mo_2_44 P, mo_2_45 P, mo_2_46 P, mo_2_47 P, mo_2_48 P, mo_2_49 P, mo_2_50 P, mo_2_51 P, mo_2_52 P, mo_2_53 P, mo_2_54 P, mo_2_55 P, mo_2_56 P, mo_2_57 P, mo_2_58 P, mo_2_59 P, mo_2_60 P, mo_2_61 P, mo_2_62 P, mo_2_63 P, mo_2_64 P, mo_2_65 P, mo_2_66 P, mo_2_67 P, mo_2_68 P, mo_2_69 P, mo_2_70 P, mo_2_71 P, mo_2_72 P, mo_2_73 P, mo_2_74 P, mo_2_75 P, mo_2_76 P, mo_2_77 P, mo_2_78 P, mo_2_79 P, mo_2_80 P, mo_2_81 P, mo_2_82 P, mo_2_83 P, mo_2_84 P, mo_2_85 P, mo_2_86 P, mo_3_87 P, mo_3_88 P, mo_3_89 P, mo_3_90 P, mo_3_91 P, mo_3_92 P, mo_3_93 P, mo_3_94 P, mo_3_95 P, mo_3_96 P, mo_3_97 P, mo_3_98 P, mo_3_99 P, mo_3_100 P, mo_3_101 P, mo_3_102 P, mo_3_103 P, mo_3_104 P, mo_3_105 P, mo_3_106 P, mo_3_107 P, mo_3_108 P, mo_3_109 P, mo_3_110 P, mo_3_111 P, mo_3_112 P, mo_3_113 P, mo_3_114 P, mo_3_115 P, mo_3_116 P, mo_3_117 P, mo_3_118 P, mo_3_119 P, mo_3_120 P, mo_3_121 P, mo_3_122 P, mo_3_123 P, mo_3_124 P, mo_3_125 P, mo_3_126 P, mo_3_127 P, mo_3_128 P, mo_3_129 P, mo_3_130 P, mo_3_131 P, mo_3_132 P, mo_3_133 P, mo_3_134 P, mo_3_135 P, mo_3_136 P, mo_3_137 P, mo_3_138 P, mo_3_139 P, mo_3_140 P, mo_3_141 P, mo_3_142 P, mo_3_143 P, mo_3_144 P, mo_3_145 P, mo_3_146 P, mo_3_147 P, mo_3_148 P, mo_3_149 P, mo_3_150 P, mo_3_151 P, mo_3_152 P, mo_3_153 P, mo_3_154 P, mo_3_155 P, mo_3_156 P, mo_3_157 P, mo_3_158 P, mo_3_159 P, mo_3_160 P, mo_3_161 P, mo_3_162 P, mo_3_163 P]) (PySem.Life.mk [] [] [] 0 [] [] Bool.false #[] [] 0 Bool.false Bool.false Bool.false 0 [2000, 10, 10] Bool.false 0 Bool.true [] [] 0 Bool.false)
noncomputable def ms_3 (w : PySem.World) (os : PySem.OsState) : PySem.Shared := ⟨mh_3 w.params, Array.mk [], PySem.Drawn.mk 0 0 0 0, 418, os⟩
noncomputable def mo_4_3 (P : PySem.Params) : PySem.Obj := PySem.Obj.mk (PySem.Value.type "dict") Option.none (PySem.Data.dict #[PySem.DictEntry.mk (PySem.PyData.keyHash P (PySem.Str.ofString "__name__")) (PySem.Value.str (PySem.Str.ofString "__name__") 165) (PySem.Value.str (PySem.Str.ofString "gmp.signed") 554), PySem.DictEntry.mk (PySem.PyData.keyHash P (PySem.Str.ofString "__doc__")) (PySem.Value.str (PySem.Str.ofString "__doc__") 166) PySem.Value.none, PySem.DictEntry.mk (PySem.PyData.keyHash P (PySem.Str.ofString "__package__")) (PySem.Value.str (PySem.Str.ofString "__package__") 167) PySem.Value.none, PySem.DictEntry.mk (PySem.PyData.keyHash P (PySem.Str.ofString "__loader__")) (PySem.Value.str (PySem.Str.ofString "__loader__") 168) (PySem.Value.builtin "__main__.__loader__#opaque"), PySem.DictEntry.mk (PySem.PyData.keyHash P (PySem.Str.ofString "__spec__")) (PySem.Value.str (PySem.Str.ofString "__spec__") 169) PySem.Value.none, PySem.DictEntry.mk (PySem.PyData.keyHash P (PySem.Str.ofString "__annotations__")) (PySem.Value.str (PySem.Str.ofString "__annotations__") 170) (PySem.Value.ref 6), PySem.DictEntry.mk (PySem.PyData.keyHash P (PySem.Str.ofString "__builtins__")) (PySem.Value.str (PySem.Str.ofString "__builtins__") 171) (PySem.Value.ref 4), PySem.DictEntry.mk (PySem.PyData.keyHash P (PySem.Str.ofString "__file__")) (PySem.Value.str (PySem.Str.ofString "__file__") 173) (PySem.Value.str (PySem.Str.ofString "/claim/cut.py") 172), PySem.DictEntry.mk (PySem.PyData.keyHash P (PySem.Str.ofString "__cached__")) (PySem.Value.str (PySem.Str.ofString "__cached__") 174) PySem.Value.none, PySem.DictEntry.mk (PySem.PyData.keyHash P (PySem.Str.ofString "GmpError")) (PySem.Value.str (PySem.Str.ofString "GmpError") 208) (PySem.Value.ref 24), PySem.DictEntry.mk (PySem.PyData.keyHash P (PySem.Str.ofString "DivisionByZero")) (PySem.Value.str (PySem.Str.ofString "DivisionByZero") 224) (PySem.Value.ref 37), PySem.DictEntry.mk (PySem.PyData.keyHash P (PySem.Str.ofString "OutOfRange")) (PySem.Value.str (PySem.Str.ofString "OutOfRange") 240) (PySem.Value.ref 49), PySem.DictEntry.mk (PySem.PyData.keyHash P (PySem.Str.ofString "normal")) (PySem.Value.str (PySem.Str.ofString "normal") 248) (PySem.Value.ref 58), PySem.DictEntry.mk (PySem.PyData.keyHash P (PySem.Str.ofString "nat_of")) (PySem.Value.str (PySem.Str.ofString "nat_of") 258) (PySem.Value.ref 65), PySem.DictEntry.mk (PySem.PyData.keyHash P (PySem.Str.ofString "compare")) (PySem.Value.str (PySem.Str.ofString "compare") 267) (PySem.Value.ref 72), PySem.DictEntry.mk (PySem.PyData.keyHash P (PySem.Str.ofString "add")) (PySem.Value.str (PySem.Str.ofString "add") 280) (PySem.Value.ref 79), PySem.DictEntry.mk (PySem.PyData.keyHash P (PySem.Str.ofString "sub")) (PySem.Value.str (PySem.Str.ofString "sub") 294) (PySem.Value.ref 86), PySem.DictEntry.mk (PySem.PyData.keyHash P (PySem.Str.ofString "add_limb")) (PySem.Value.str (PySem.Str.ofString "add_limb") 306) (PySem.Value.ref 93), PySem.DictEntry.mk (PySem.PyData.keyHash P (PySem.Str.ofString "add_at")) (PySem.Value.str (PySem.Str.ofString "add_at") 316) (PySem.Value.ref 100), PySem.DictEntry.mk (PySem.PyData.keyHash P (PySem.Str.ofString "divrem_limb")) (PySem.Value.str (PySem.Str.ofString "divrem_limb") 328) (PySem.Value.ref 107), PySem.DictEntry.mk (PySem.PyData.keyHash P (PySem.Str.ofString "shift_left")) (PySem.Value.str (PySem.Str.ofString "shift_left") 343) (PySem.Value.ref 114), PySem.DictEntry.mk (PySem.PyData.keyHash P (PySem.Str.ofString "shift_right")) (PySem.Value.str (PySem.Str.ofString "shift_right") 358) (PySem.Value.ref 121), PySem.DictEntry.mk (PySem.PyData.keyHash P (PySem.Str.ofString "bits")) (PySem.Value.str (PySem.Str.ofString "bits") 366) (PySem.Value.ref 128), PySem.DictEntry.mk (PySem.PyData.keyHash P (PySem.Str.ofString "bit")) (PySem.Value.str (PySem.Str.ofString "bit") 375) (PySem.Value.ref 135), PySem.DictEntry.mk (PySem.PyData.keyHash P (PySem.Str.ofString "split")) (PySem.Value.str (PySem.Str.ofString "split") 383) (PySem.Value.ref 142), PySem.DictEntry.mk (PySem.PyData.keyHash P (PySem.Str.ofString "sqrt_small")) (PySem.Value.str (PySem.Str.ofString "sqrt_small") 394) (PySem.Value.ref 149), PySem.DictEntry.mk (PySem.PyData.keyHash P (PySem.Str.ofString "sqrt_plain")) (PySem.Value.str (PySem.Str.ofString "sqrt_plain") 406) (PySem.Value.ref 156), PySem.DictEntry.mk (PySem.PyData.keyHash P (PySem.Str.ofString "sqrt_two_limbs")) (PySem.Value.str (PySem.Str.ofString "sqrt_two_limbs") 417) (PySem.Value.ref 163), PySem.DictEntry.mk (PySem.PyData.keyHash P (PySem.Str.ofString "sqrt_halves")) (PySem.Value.str (PySem.Str.ofString "sqrt_halves") 439) (PySem.Value.ref 170), PySem.DictEntry.mk (PySem.PyData.keyHash P (PySem.Str.ofString "sqrt_rem")) (PySem.Value.str (PySem.Str.ofString "sqrt_rem") 454) (PySem.Value.ref 177), PySem.DictEntry.mk (PySem.PyData.keyHash P (PySem.Str.ofString "mul_school")) (PySem.Value.str (PySem.Str.ofString "mul_school") 472) (PySem.Value.ref 184), PySem.DictEntry.mk (PySem.PyData.keyHash P (PySem.Str.ofString "divrem_small")) (PySem.Value.str (PySem.Str.ofString "divrem_small") 483) (PySem.Value.ref 191), PySem.DictEntry.mk (PySem.PyData.keyHash P (PySem.Str.ofString "guessed_limb")) (PySem.Value.str (PySem.Str.ofString "guessed_limb") 497) (PySem.Value.ref 198), PySem.DictEntry.mk (PySem.PyData.keyHash P (PySem.Str.ofString "take_away")) (PySem.Value.str (PySem.Str.ofString "take_away") 513) (PySem.Value.ref 205), PySem.DictEntry.mk (PySem.PyData.keyHash P (PySem.Str.ofString "put_back")) (PySem.Value.str (PySem.Str.ofString "put_back") 527) (PySem.Value.ref 212), PySem.DictEntry.mk (PySem.PyData.keyHash P (PySem.Str.ofString "divide_rows")) (PySem.Value.str (PySem.Str.ofString "divide_rows") 540) (PySem.Value.ref 219), PySem.DictEntry.mk (PySem.PyData.keyHash P (PySem.Str.ofString "divrem_school")) (PySem.Value.str (PySem.Str.ofString "divrem_school") 553) (PySem.Value.ref 226), PySem.DictEntry.mk (PySem.PyData.keyHash P (PySem.Str.ofString "signed")) (PySem.Value.str (PySem.Str.ofString "signed") 563) (PySem.Value.ref 233)] 38) #[]
noncomputable def mo_4_12 (P : PySem.Params) : PySem.Obj := PySem.Obj.mk PySem.Value.none Option.none (PySem.Data.fields #[PySem.Value.int 2 0, PySem.Value.int 0 0, PySem.Value.ref 20, PySem.Value.int 4 0, PySem.Value.int 0 0, PySem.Value.ref 33, PySem.Value.int 6 0, PySem.Value.int 0 0, PySem.Value.ref 45, PySem.Value.int 8 0, PySem.Value.int 0 0, PySem.Value.ref 57, PySem.Value.int 13 0, PySem.Value.int 0 0, PySem.Value.ref 64, PySem.Value.int 21 0, PySem.Value.int 0 0, PySem.Value.ref 71, PySem.Value.int 28 0, PySem.Value.int 0 0, PySem.Value.ref 78, PySem.Value.int 43 0, PySem.Value.int 0 0, PySem.Value.ref 85, PySem.Value.int 52 0, PySem.Value.int 0 0, PySem.Value.ref 92, PySem.Value.int 61 0, PySem.Value.int 0 0, PySem.Value.ref 99, PySem.Value.int 67 0, PySem.Value.int 0 0, PySem.Value.ref 106, PySem.Value.int 76 0, PySem.Value.int 0 0, PySem.Value.ref 113, PySem.Value.int 88 0, PySem.Value.int 0 0, PySem.Value.ref 120, PySem.Value.int 95 0, PySem.Value.int 0 0, PySem.Value.ref 127, PySem.Value.int 97 0, PySem.Value.int 0 0, PySem.Value.ref 134, PySem.Value.int 99 0, PySem.Value.int 0 0, PySem.Value.ref 141, PySem.Value.int 102 0, PySem.Value.int 0 0, PySem.Value.ref 148, PySem.Value.int 115 0, PySem.Value.int 0 0, PySem.Value.ref 155, PySem.Value.int 126 0, PySem.Value.int 0 0, PySem.Value.ref 162, PySem.Value.int 132 0, PySem.Value.int 0 0, PySem.Value.ref 169, PySem.Value.int 149 0, PySem.Value.int 0 0, PySem.Value.ref 176, PySem.Value.int 161 0, PySem.Value.int 0 0, PySem.Value.ref 183, PySem.Value.int 171 0, PySem.Value.int 0 0, PySem.Value.ref 190, PySem.Value.int 174 0, PySem.Value.int 0 0, PySem.Value.ref 197, PySem.Value.int 182 0, PySem.Value.int 0 0, PySem.Value.ref 204, PySem.Value.int 191 0, PySem.Value.int 0 0, PySem.Value.ref 211, PySem.Value.int 198 0, PySem.Value.int 0 0, PySem.Value.ref 218, PySem.Value.int 208 0, PySem.Value.int 0 0, PySem.Value.ref 225, PySem.Value.int 222 0, PySem.Value.int 0 0, PySem.Value.ref 232]) #[]
noncomputable def mo_4_164 (P : PySem.Params) : PySem.Obj := PySem.Obj.mk (PySem.Value.type "tuple") Option.none (PySem.Data.seq #[]) #[]
noncomputable def mo_4_165 (P : PySem.Params) : PySem.Obj := PySem.Obj.mk PySem.Value.none Option.none (PySem.Data.fields #[]) #[]
noncomputable def mo_4_166 (P : PySem.Params) : PySem.Obj := PySem.Obj.mk (PySem.Value.type "tuple") Option.none (PySem.Data.seq #[PySem.Value.str (PySem.Str.ofString "a") 421, PySem.Value.str (PySem.Str.ofString "size") 422, PySem.Value.str (PySem.Str.ofString "w") 423, PySem.Value.str (PySem.Str.ofString "least") 424, PySem.Value.str (PySem.Str.ofString "mul") 425, PySem.Value.str (PySem.Str.ofString "divrem") 426, PySem.Value.str (PySem.Str.ofString "part") 427, PySem.Value.str (PySem.Str.ofString "lower") 428, PySem.Value.str (PySem.Str.ofString "upper") 429, PySem.Value.str (PySem.Str.ofString "last") 430, PySem.Value.str (PySem.Str.ofString "middle") 431, PySem.Value.str (PySem.Str.ofString "root") 432, PySem.Value.str (PySem.Str.ofString "rest") 433, PySem.Value.str (PySem.Str.ofString "told") 434, PySem.Value.str (PySem.Str.ofString "left") 435, PySem.Value.str (PySem.Str.ofString "square") 436]) #[]
noncomputable def mo_4_167 (P : PySem.Params) : PySem.Obj := PySem.Obj.mk (PySem.Value.type "tuple") Option.none (PySem.Data.seq #[]) #[]
noncomputable def mo_4_168 (P : PySem.Params) : PySem.Obj := PySem.Obj.mk PySem.Value.none Option.none (PySem.Data.func (PySem.FuncData.mk (PySem.Str.ofString "sqrt_halves") (PySem.Str.ofString "sqrt_halves") (Mine.argsAt 21) (PySem.FuncBody.stmts (Mine.bodyAt 21)) (Mine.scopeAt 21) 0 [] PySem.Value.none PySem.Value.none PySem.Value.none PySem.Value.none Option.none PySem.Value.none PySem.Value.none 0)) #[]
noncomputable def mo_4_169 (P : PySem.Params) : PySem.Obj := PySem.Obj.mk (PySem.Value.type "code") Option.none (PySem.Data.fields #[PySem.Value.str (PySem.Str.ofString "sqrt_halves") 418, PySem.Value.str (PySem.Str.ofString "sqrt_halves") 419, PySem.Value.str (PySem.Str.ofString "/claim/cut.py") 420, PySem.Value.int 132 0, PySem.Value.int 6 0, PySem.Value.int 0 0, PySem.Value.int 0 0, PySem.Value.int 3 0, PySem.Value.ref 164, PySem.Value.bool Bool.true, PySem.Value.int 181 0, PySem.Value.ref 165, PySem.Value.none, PySem.Value.ref 166, PySem.Value.ref 167, PySem.Value.ref 168, PySem.Value.int 437 0, PySem.Value.int 132 0, PySem.Value.str (PySem.Str.ofString "/claim/cut.py") 438]) #[]
noncomputable def mo_4_170 (P : PySem.Params) : PySem.Obj := PySem.Obj.mk (PySem.Value.type "function") Option.none (PySem.Data.func (PySem.FuncData.mk (PySem.Str.ofString "sqrt_halves") (PySem.Str.ofString "sqrt_halves") (Mine.argsAt 21) (PySem.FuncBody.stmts (Mine.bodyAt 21)) (Mine.scopeAt 21) 3 [] PySem.Value.none PySem.Value.none PySem.Value.none (PySem.Value.str (PySem.Str.ofString "gmp.roots") 384) Option.none (PySem.Value.ref 169) PySem.Value.none 0)) #[]
noncomputable def mo_4_171 (P : PySem.Params) : PySem.Obj := PySem.Obj.mk (PySem.Value.type "tuple") Option.none (PySem.Data.seq #[]) #[]
noncomputable def mo_4_172 (P : PySem.Params) : PySem.Obj := PySem.Obj.mk PySem.Value.none Option.none (PySem.Data.fields #[]) #[]
noncomputable def mo_4_173 (P : PySem.Params) : PySem.Obj := PySem.Obj.mk (PySem.Value.type "tuple") Option.none (PySem.Data.seq #[PySem.Value.str (PySem.Str.ofString "a") 443, PySem.Value.str (PySem.Str.ofString "w") 444, PySem.Value.str (PySem.Str.ofString "least") 445, PySem.Value.str (PySem.Str.ofString "mul") 446, PySem.Value.str (PySem.Str.ofString "divrem") 447, PySem.Value.str (PySem.Str.ofString "size") 448, PySem.Value.str (PySem.Str.ofString "shift") 449, PySem.Value.str (PySem.Str.ofString "root") 450, PySem.Value.str (PySem.Str.ofString "rest") 451]) #[]
noncomputable def mo_4_174 (P : PySem.Params) : PySem.Obj := PySem.Obj.mk (PySem.Value.type "tuple") Option.none (PySem.Data.seq #[]) #[]
noncomputable def mo_4_175 (P : PySem.Params) : PySem.Obj := PySem.Obj.mk PySem.Value.none Option.none (PySem.Data.func (PySem.FuncData.mk (PySem.Str.ofString "sqrt_rem") (PySem.Str.ofString "sqrt_rem") (Mine.argsAt 22) (PySem.FuncBody.stmts (Mine.bodyAt 22)) (Mine.scopeAt 22) 0 [] PySem.Value.none PySem.Value.none PySem.Value.none PySem.Value.none Option.none PySem.Value.none PySem.Value.none 0)) #[]
noncomputable def mo_4_176 (P : PySem.Params) : PySem.Obj := PySem.Obj.mk (PySem.Value.type "code") Option.none (PySem.Data.fields #[PySem.Value.str (PySem.Str.ofString "sqrt_rem") 440, PySem.Value.str (PySem.Str.ofString "sqrt_rem") 441, PySem.Value.str (PySem.Str.ofString "/claim/cut.py") 442, PySem.Value.int 149 0, PySem.Value.int 5 0, PySem.Value.int 0 0, PySem.Value.int 0 0, PySem.Value.int 3 0, PySem.Value.ref 171, PySem.Value.bool Bool.true, PySem.Value.int 181 0, PySem.Value.ref 172, PySem.Value.none, PySem.Value.ref 173, PySem.Value.ref 174, PySem.Value.ref 175, PySem.Value.int 452 0, PySem.Value.int 149 0, PySem.Value.str (PySem.Str.ofString "/claim/cut.py") 453]) #[]
noncomputable def mo_4_177 (P : PySem.Params) : PySem.Obj := PySem.Obj.mk (PySem.Value.type "function") Option.none (PySem.Data.func (PySem.FuncData.mk (PySem.Str.ofString "sqrt_rem") (PySem.Str.ofString "sqrt_rem") (Mine.argsAt 22) (PySem.FuncBody.stmts (Mine.bodyAt 22)) (Mine.scopeAt 22) 3 [] PySem.Value.none PySem.Value.none PySem.Value.none (PySem.Value.str (PySem.Str.ofString "gmp.roots") 384) Option.none (PySem.Value.ref 176) PySem.Value.none 0)) #[]
noncomputable def mo_4_178 (P : PySem.Params) : PySem.Obj := PySem.Obj.mk (PySem.Value.type "tuple") Option.none (PySem.Data.seq #[]) #[]
noncomputable def mo_4_179 (P : PySem.Params) : PySem.Obj := PySem.Obj.mk PySem.Value.none Option.none (PySem.Data.fields #[]) #[]
noncomputable def mo_4_180 (P : PySem.Params) : PySem.Obj := PySem.Obj.mk (PySem.Value.type "tuple") Option.none (PySem.Data.seq #[PySem.Value.str (PySem.Str.ofString "a") 460, PySem.Value.str (PySem.Str.ofString "b") 461, PySem.Value.str (PySem.Str.ofString "w") 462, PySem.Value.str (PySem.Str.ofString "found") 463, PySem.Value.str (PySem.Str.ofString "mask") 464, PySem.Value.str (PySem.Str.ofString "at") 465, PySem.Value.str (PySem.Str.ofString "limb") 466, PySem.Value.str (PySem.Str.ofString "carry") 467, PySem.Value.str (PySem.Str.ofString "spot") 468, PySem.Value.str (PySem.Str.ofString "other") 469]) #[]
noncomputable def mo_4_181 (P : PySem.Params) : PySem.Obj := PySem.Obj.mk (PySem.Value.type "tuple") Option.none (PySem.Data.seq #[]) #[]
noncomputable def mo_4_182 (P : PySem.Params) : PySem.Obj := PySem.Obj.mk PySem.Value.none Option.none (PySem.Data.func (PySem.FuncData.mk (PySem.Str.ofString "mul_school") (PySem.Str.ofString "mul_school") (Mine.argsAt 24) (PySem.FuncBody.stmts (Mine.bodyAt 24)) (Mine.scopeAt 24) 0 [] PySem.Value.none PySem.Value.none PySem.Value.none PySem.Value.none Option.none PySem.Value.none PySem.Value.none 0)) #[]
noncomputable def mo_4_183 (P : PySem.Params) : PySem.Obj := PySem.Obj.mk (PySem.Value.type "code") Option.none (PySem.Data.fields #[PySem.Value.str (PySem.Str.ofString "mul_school") 457, PySem.Value.str (PySem.Str.ofString "mul_school") 458, PySem.Value.str (PySem.Str.ofString "/claim/cut.py") 459, PySem.Value.int 161 0, PySem.Value.int 3 0, PySem.Value.int 0 0, PySem.Value.int 0 0, PySem.Value.int 3 0, PySem.Value.ref 178, PySem.Value.bool Bool.true, PySem.Value.int 181 0, PySem.Value.ref 179, PySem.Value.none, PySem.Value.ref 180, PySem.Value.ref 181, PySem.Value.ref 182, PySem.Value.int 470 0, PySem.Value.int 161 0, PySem.Value.str (PySem.Str.ofString "/claim/cut.py") 471]) #[]
noncomputable def mo_4_184 (P : PySem.Params) : PySem.Obj := PySem.Obj.mk (PySem.Value.type "function") Option.none (PySem.Data.func (PySem.FuncData.mk (PySem.Str.ofString "mul_school") (PySem.Str.ofString "mul_school") (Mine.argsAt 24) (PySem.FuncBody.stmts (Mine.bodyAt 24)) (Mine.scopeAt 24) 3 [] PySem.Value.none PySem.Value.none PySem.Value.none (PySem.Value.str (PySem.Str.ofString "gmp.school") 455) Option.none (PySem.Value.ref 183) PySem.Value.none 0)) #[]
noncomputable def mo_4_185 (P : PySem.Params) : PySem.Obj := PySem.Obj.mk (PySem.Value.type "tuple") Option.none (PySem.Data.seq #[]) #[]
noncomputable def mo_4_186 (P : PySem.Params) : PySem.Obj := PySem.Obj.mk PySem.Value.none Option.none (PySem.Data.fields #[]) #[]
noncomputable def mo_4_187 (P : PySem.Params) : PySem.Obj := PySem.Obj.mk (PySem.Value.type "tuple") Option.none (PySem.Data.seq #[PySem.Value.str (PySem.Str.ofString "a") 476, PySem.Value.str (PySem.Str.ofString "b") 477, PySem.Value.str (PySem.Str.ofString "w") 478, PySem.Value.str (PySem.Str.ofString "quotient") 479, PySem.Value.str (PySem.Str.ofString "rest") 480]) #[]
noncomputable def mo_4_188 (P : PySem.Params) : PySem.Obj := PySem.Obj.mk (PySem.Value.type "tuple") Option.none (PySem.Data.seq #[]) #[]
noncomputable def mo_4_189 (P : PySem.Params) : PySem.Obj := PySem.Obj.mk PySem.Value.none Option.none (PySem.Data.func (PySem.FuncData.mk (PySem.Str.ofString "divrem_small") (PySem.Str.ofString "divrem_small") (Mine.argsAt 25) (PySem.FuncBody.stmts (Mine.bodyAt 25)) (Mine.scopeAt 25) 0 [] PySem.Value.none PySem.Value.none PySem.Value.none PySem.Value.none Option.none PySem.Value.none PySem.Value.none 0)) #[]
noncomputable def mo_4_190 (P : PySem.Params) : PySem.Obj := PySem.Obj.mk (PySem.Value.type "code") Option.none (PySem.Data.fields #[PySem.Value.str (PySem.Str.ofString "divrem_small") 473, PySem.Value.str (PySem.Str.ofString "divrem_small") 474, PySem.Value.str (PySem.Str.ofString "/claim/cut.py") 475, PySem.Value.int 171 0, PySem.Value.int 3 0, PySem.Value.int 0 0, PySem.Value.int 0 0, PySem.Value.int 3 0, PySem.Value.ref 185, PySem.Value.bool Bool.true, PySem.Value.int 181 0, PySem.Value.ref 186, PySem.Value.none, PySem.Value.ref 187, PySem.Value.ref 188, PySem.Value.ref 189, PySem.Value.int 481 0, PySem.Value.int 171 0, PySem.Value.str (PySem.Str.ofString "/claim/cut.py") 482]) #[]
noncomputable def mo_4_191 (P : PySem.Params) : PySem.Obj := PySem.Obj.mk (PySem.Value.type "function") Option.none (PySem.Data.func (PySem.FuncData.mk (PySem.Str.ofString "divrem_small") (PySem.Str.ofString "divrem_small") (Mine.argsAt 25) (PySem.FuncBody.stmts (Mine.bodyAt 25)) (Mine.scopeAt 25) 3 [] PySem.Value.none PySem.Value.none PySem.Value.none (PySem.Value.str (PySem.Str.ofString "gmp.school") 455) Option.none (PySem.Value.ref 190) PySem.Value.none 0)) #[]
noncomputable def mo_4_192 (P : PySem.Params) : PySem.Obj := PySem.Obj.mk (PySem.Value.type "tuple") Option.none (PySem.Data.seq #[]) #[]
noncomputable def mo_4_193 (P : PySem.Params) : PySem.Obj := PySem.Obj.mk PySem.Value.none Option.none (PySem.Data.fields #[]) #[]
noncomputable def mo_4_194 (P : PySem.Params) : PySem.Obj := PySem.Obj.mk (PySem.Value.type "tuple") Option.none (PySem.Data.seq #[PySem.Value.str (PySem.Str.ofString "top") 487, PySem.Value.str (PySem.Str.ofString "first") 488, PySem.Value.str (PySem.Str.ofString "second") 489, PySem.Value.str (PySem.Str.ofString "w") 490, PySem.Value.str (PySem.Str.ofString "high") 491, PySem.Value.str (PySem.Str.ofString "base") 492, PySem.Value.str (PySem.Str.ofString "limb") 493, PySem.Value.str (PySem.Str.ofString "rest") 494]) #[]
noncomputable def mo_4_195 (P : PySem.Params) : PySem.Obj := PySem.Obj.mk (PySem.Value.type "tuple") Option.none (PySem.Data.seq #[]) #[]
noncomputable def mo_4_196 (P : PySem.Params) : PySem.Obj := PySem.Obj.mk PySem.Value.none Option.none (PySem.Data.func (PySem.FuncData.mk (PySem.Str.ofString "guessed_limb") (PySem.Str.ofString "guessed_limb") (Mine.argsAt 26) (PySem.FuncBody.stmts (Mine.bodyAt 26)) (Mine.scopeAt 26) 0 [] PySem.Value.none PySem.Value.none PySem.Value.none PySem.Value.none Option.none PySem.Value.none PySem.Value.none 0)) #[]
noncomputable def mo_4_197 (P : PySem.Params) : PySem.Obj := PySem.Obj.mk (PySem.Value.type "code") Option.none (PySem.Data.fields #[PySem.Value.str (PySem.Str.ofString "guessed_limb") 484, PySem.Value.str (PySem.Str.ofString "guessed_limb") 485, PySem.Value.str (PySem.Str.ofString "/claim/cut.py") 486, PySem.Value.int 174 0, PySem.Value.int 4 0, PySem.Value.int 0 0, PySem.Value.int 0 0, PySem.Value.int 3 0, PySem.Value.ref 192, PySem.Value.bool Bool.true, PySem.Value.int 181 0, PySem.Value.ref 193, PySem.Value.none, PySem.Value.ref 194, PySem.Value.ref 195, PySem.Value.ref 196, PySem.Value.int 495 0, PySem.Value.int 174 0, PySem.Value.str (PySem.Str.ofString "/claim/cut.py") 496]) #[]
noncomputable def mo_4_198 (P : PySem.Params) : PySem.Obj := PySem.Obj.mk (PySem.Value.type "function") Option.none (PySem.Data.func (PySem.FuncData.mk (PySem.Str.ofString "guessed_limb") (PySem.Str.ofString "guessed_limb") (Mine.argsAt 26) (PySem.FuncBody.stmts (Mine.bodyAt 26)) (Mine.scopeAt 26) 3 [] PySem.Value.none PySem.Value.none PySem.Value.none (PySem.Value.str (PySem.Str.ofString "gmp.school") 455) Option.none (PySem.Value.ref 197) PySem.Value.none 0)) #[]
noncomputable def mo_4_199 (P : PySem.Params) : PySem.Obj := PySem.Obj.mk (PySem.Value.type "tuple") Option.none (PySem.Data.seq #[]) #[]
noncomputable def mo_4_200 (P : PySem.Params) : PySem.Obj := PySem.Obj.mk PySem.Value.none Option.none (PySem.Data.fields #[]) #[]
noncomputable def mo_4_201 (P : PySem.Params) : PySem.Obj := PySem.Obj.mk (PySem.Value.type "tuple") Option.none (PySem.Data.seq #[PySem.Value.str (PySem.Str.ofString "rest") 501, PySem.Value.str (PySem.Str.ofString "b") 502, PySem.Value.str (PySem.Str.ofString "limb") 503, PySem.Value.str (PySem.Str.ofString "at") 504, PySem.Value.str (PySem.Str.ofString "w") 505, PySem.Value.str (PySem.Str.ofString "carry") 506, PySem.Value.str (PySem.Str.ofString "base") 507, PySem.Value.str (PySem.Str.ofString "spot") 508, PySem.Value.str (PySem.Str.ofString "other") 509, PySem.Value.str (PySem.Str.ofString "here") 510]) #[]
noncomputable def mo_4_202 (P : PySem.Params) : PySem.Obj := PySem.Obj.mk (PySem.Value.type "tuple") Option.none (PySem.Data.seq #[]) #[]
noncomputable def mo_4_203 (P : PySem.Params) : PySem.Obj := PySem.Obj.mk PySem.Value.none Option.none (PySem.Data.func (PySem.FuncData.mk (PySem.Str.ofString "take_away") (PySem.Str.ofString "take_away") (Mine.argsAt 27) (PySem.FuncBody.stmts (Mine.bodyAt 27)) (Mine.scopeAt 27) 0 [] PySem.Value.none PySem.Value.none PySem.Value.none PySem.Value.none Option.none PySem.Value.none PySem.Value.none 0)) #[]
noncomputable def mo_4_204 (P : PySem.Params) : PySem.Obj := PySem.Obj.mk (PySem.Value.type "code") Option.none (PySem.Data.fields #[PySem.Value.str (PySem.Str.ofString "take_away") 498, PySem.Value.str (PySem.Str.ofString "take_away") 499, PySem.Value.str (PySem.Str.ofString "/claim/cut.py") 500, PySem.Value.int 182 0, PySem.Value.int 5 0, PySem.Value.int 0 0, PySem.Value.int 0 0, PySem.Value.int 3 0, PySem.Value.ref 199, PySem.Value.bool Bool.true, PySem.Value.int 181 0, PySem.Value.ref 200, PySem.Value.none, PySem.Value.ref 201, PySem.Value.ref 202, PySem.Value.ref 203, PySem.Value.int 511 0, PySem.Value.int 182 0, PySem.Value.str (PySem.Str.ofString "/claim/cut.py") 512]) #[]
noncomputable def mo_4_205 (P : PySem.Params) : PySem.Obj := PySem.Obj.mk (PySem.Value.type "function") Option.none (PySem.Data.func (PySem.FuncData.mk (PySem.Str.ofString "take_away") (PySem.Str.ofString "take_away") (Mine.argsAt 27) (PySem.FuncBody.stmts (Mine.bodyAt 27)) (Mine.scopeAt 27) 3 [] PySem.Value.none PySem.Value.none PySem.Value.none (PySem.Value.str (PySem.Str.ofString "gmp.school") 455) Option.none (PySem.Value.ref 204) PySem.Value.none 0)) #[]
noncomputable def mo_4_206 (P : PySem.Params) : PySem.Obj := PySem.Obj.mk (PySem.Value.type "tuple") Option.none (PySem.Data.seq #[]) #[]
noncomputable def mo_4_207 (P : PySem.Params) : PySem.Obj := PySem.Obj.mk PySem.Value.none Option.none (PySem.Data.fields #[]) #[]
noncomputable def mo_4_208 (P : PySem.Params) : PySem.Obj := PySem.Obj.mk (PySem.Value.type "tuple") Option.none (PySem.Data.seq #[PySem.Value.str (PySem.Str.ofString "rest") 517, PySem.Value.str (PySem.Str.ofString "b") 518, PySem.Value.str (PySem.Str.ofString "at") 519, PySem.Value.str (PySem.Str.ofString "w") 520, PySem.Value.str (PySem.Str.ofString "carry") 521, PySem.Value.str (PySem.Str.ofString "mask") 522, PySem.Value.str (PySem.Str.ofString "spot") 523, PySem.Value.str (PySem.Str.ofString "other") 524]) #[]
noncomputable def mo_4_209 (P : PySem.Params) : PySem.Obj := PySem.Obj.mk (PySem.Value.type "tuple") Option.none (PySem.Data.seq #[]) #[]
noncomputable def mo_4_210 (P : PySem.Params) : PySem.Obj := PySem.Obj.mk PySem.Value.none Option.none (PySem.Data.func (PySem.FuncData.mk (PySem.Str.ofString "put_back") (PySem.Str.ofString "put_back") (Mine.argsAt 28) (PySem.FuncBody.stmts (Mine.bodyAt 28)) (Mine.scopeAt 28) 0 [] PySem.Value.none PySem.Value.none PySem.Value.none PySem.Value.none Option.none PySem.Value.none PySem.Value.none 0)) #[]
noncomputable def mo_4_211 (P : PySem.Params) : PySem.Obj := PySem.Obj.mk (PySem.Value.type "code") Option.none (PySem.Data.fields #[PySem.Value.str (PySem.Str.ofString "put_back") 514, PySem.Value.str (PySem.Str.ofString "put_back") 515, PySem.Value.str (PySem.Str.ofString "/claim/cut.py") 516, PySem.Value.int 191 0, PySem.Value.int 4 0, PySem.Value.int 0 0, PySem.Value.int 0 0, PySem.Value.int 3 0, PySem.Value.ref 206, PySem.Value.bool Bool.true, PySem.Value.int 181 0, PySem.Value.ref 207, PySem.Value.none, PySem.Value.ref 208, PySem.Value.ref 209, PySem.Value.ref 210, PySem.Value.int 525 0, PySem.Value.int 191 0, PySem.Value.str (PySem.Str.ofString "/claim/cut.py") 526]) #[]
noncomputable def mo_4_212 (P : PySem.Params) : PySem.Obj := PySem.Obj.mk (PySem.Value.type "function") Option.none (PySem.Data.func (PySem.FuncData.mk (PySem.Str.ofString "put_back") (PySem.Str.ofString "put_back") (Mine.argsAt 28) (PySem.FuncBody.stmts (Mine.bodyAt 28)) (Mine.scopeAt 28) 3 [] PySem.Value.none PySem.Value.none PySem.Value.none (PySem.Value.str (PySem.Str.ofString "gmp.school") 455) Option.none (PySem.Value.ref 211) PySem.Value.none 0)) #[]
noncomputable def mo_4_213 (P : PySem.Params) : PySem.Obj := PySem.Obj.mk (PySem.Value.type "tuple") Option.none (PySem.Data.seq #[]) #[]
noncomputable def mo_4_214 (P : PySem.Params) : PySem.Obj := PySem.Obj.mk PySem.Value.none Option.none (PySem.Data.fields #[]) #[]
noncomputable def mo_4_215 (P : PySem.Params) : PySem.Obj := PySem.Obj.mk (PySem.Value.type "tuple") Option.none (PySem.Data.seq #[PySem.Value.str (PySem.Str.ofString "rest") 531, PySem.Value.str (PySem.Str.ofString "b") 532, PySem.Value.str (PySem.Str.ofString "w") 533, PySem.Value.str (PySem.Str.ofString "size") 534, PySem.Value.str (PySem.Str.ofString "quotient") 535, PySem.Value.str (PySem.Str.ofString "at") 536, PySem.Value.str (PySem.Str.ofString "limb") 537]) #[]
noncomputable def mo_4_216 (P : PySem.Params) : PySem.Obj := PySem.Obj.mk (PySem.Value.type "tuple") Option.none (PySem.Data.seq #[]) #[]
noncomputable def mo_4_217 (P : PySem.Params) : PySem.Obj := PySem.Obj.mk PySem.Value.none Option.none (PySem.Data.func (PySem.FuncData.mk (PySem.Str.ofString "divide_rows") (PySem.Str.ofString "divide_rows") (Mine.argsAt 29) (PySem.FuncBody.stmts (Mine.bodyAt 29)) (Mine.scopeAt 29) 0 [] PySem.Value.none PySem.Value.none PySem.Value.none PySem.Value.none Option.none PySem.Value.none PySem.Value.none 0)) #[]
noncomputable def mo_4_218 (P : PySem.Params) : PySem.Obj := PySem.Obj.mk (PySem.Value.type "code") Option.none (PySem.Data.fields #[PySem.Value.str (PySem.Str.ofString "divide_rows") 528, PySem.Value.str (PySem.Str.ofString "divide_rows") 529, PySem.Value.str (PySem.Str.ofString "/claim/cut.py") 530, PySem.Value.int 198 0, PySem.Value.int 3 0, PySem.Value.int 0 0, PySem.Value.int 0 0, PySem.Value.int 3 0, PySem.Value.ref 213, PySem.Value.bool Bool.true, PySem.Value.int 181 0, PySem.Value.ref 214, PySem.Value.none, PySem.Value.ref 215, PySem.Value.ref 216, PySem.Value.ref 217, PySem.Value.int 538 0, PySem.Value.int 198 0, PySem.Value.str (PySem.Str.ofString "/claim/cut.py") 539]) #[]
noncomputable def mo_4_219 (P : PySem.Params) : PySem.Obj := PySem.Obj.mk (PySem.Value.type "function") Option.none (PySem.Data.func (PySem.FuncData.mk (PySem.Str.ofString "divide_rows") (PySem.Str.ofString "divide_rows") (Mine.argsAt 29) (PySem.FuncBody.stmts (Mine.bodyAt 29)) (Mine.scopeAt 29) 3 [] PySem.Value.none PySem.Value.none PySem.Value.none (PySem.Value.str (PySem.Str.ofString "gmp.school") 455) Option.none (PySem.Value.ref 218) PySem.Value.none 0)) #[]
noncomputable def mo_4_220 (P : PySem.Params) : PySem.Obj := PySem.Obj.mk (PySem.Value.type "tuple") Option.none (PySem.Data.seq #[]) #[]
noncomputable def mo_4_221 (P : PySem.Params) : PySem.Obj := PySem.Obj.mk PySem.Value.none Option.none (PySem.Data.fields #[]) #[]
noncomputable def mo_4_222 (P : PySem.Params) : PySem.Obj := PySem.Obj.mk (PySem.Value.type "tuple") Option.none (PySem.Data.seq #[PySem.Value.str (PySem.Str.ofString "a") 544, PySem.Value.str (PySem.Str.ofString "b") 545, PySem.Value.str (PySem.Str.ofString "w") 546, PySem.Value.str (PySem.Str.ofString "shift") 547, PySem.Value.str (PySem.Str.ofString "divisor") 548, PySem.Value.str (PySem.Str.ofString "rest") 549, PySem.Value.str (PySem.Str.ofString "quotient") 550]) #[]
noncomputable def mo_4_223 (P : PySem.Params) : PySem.Obj := PySem.Obj.mk (PySem.Value.type "tuple") Option.none (PySem.Data.seq #[]) #[]
noncomputable def mo_4_224 (P : PySem.Params) : PySem.Obj := PySem.Obj.mk PySem.Value.none Option.none (PySem.Data.func (PySem.FuncData.mk (PySem.Str.ofString "divrem_school") (PySem.Str.ofString "divrem_school") (Mine.argsAt 30) (PySem.FuncBody.stmts (Mine.bodyAt 30)) (Mine.scopeAt 30) 0 [] PySem.Value.none PySem.Value.none PySem.Value.none PySem.Value.none Option.none PySem.Value.none PySem.Value.none 0)) #[]
noncomputable def mo_4_225 (P : PySem.Params) : PySem.Obj := PySem.Obj.mk (PySem.Value.type "code") Option.none (PySem.Data.fields #[PySem.Value.str (PySem.Str.ofString "divrem_school") 541, PySem.Value.str (PySem.Str.ofString "divrem_school") 542, PySem.Value.str (PySem.Str.ofString "/claim/cut.py") 543, PySem.Value.int 208 0, PySem.Value.int 3 0, PySem.Value.int 0 0, PySem.Value.int 0 0, PySem.Value.int 3 0, PySem.Value.ref 220, PySem.Value.bool Bool.true, PySem.Value.int 181 0, PySem.Value.ref 221, PySem.Value.none, PySem.Value.ref 222, PySem.Value.ref 223, PySem.Value.ref 224, PySem.Value.int 551 0, PySem.Value.int 208 0, PySem.Value.str (PySem.Str.ofString "/claim/cut.py") 552]) #[]
noncomputable def mo_4_226 (P : PySem.Params) : PySem.Obj := PySem.Obj.mk (PySem.Value.type "function") Option.none (PySem.Data.func (PySem.FuncData.mk (PySem.Str.ofString "divrem_school") (PySem.Str.ofString "divrem_school") (Mine.argsAt 30) (PySem.FuncBody.stmts (Mine.bodyAt 30)) (Mine.scopeAt 30) 3 [] PySem.Value.none PySem.Value.none PySem.Value.none (PySem.Value.str (PySem.Str.ofString "gmp.school") 455) Option.none (PySem.Value.ref 225) PySem.Value.none 0)) #[]
noncomputable def mo_4_227 (P : PySem.Params) : PySem.Obj := PySem.Obj.mk (PySem.Value.type "tuple") Option.none (PySem.Data.seq #[]) #[]
noncomputable def mo_4_228 (P : PySem.Params) : PySem.Obj := PySem.Obj.mk PySem.Value.none Option.none (PySem.Data.fields #[]) #[]
noncomputable def mo_4_229 (P : PySem.Params) : PySem.Obj := PySem.Obj.mk (PySem.Value.type "tuple") Option.none (PySem.Data.seq #[PySem.Value.str (PySem.Str.ofString "is_below") 559, PySem.Value.str (PySem.Str.ofString "nat") 560]) #[]
noncomputable def mo_4_230 (P : PySem.Params) : PySem.Obj := PySem.Obj.mk (PySem.Value.type "tuple") Option.none (PySem.Data.seq #[]) #[]
noncomputable def mo_4_231 (P : PySem.Params) : PySem.Obj := PySem.Obj.mk PySem.Value.none Option.none (PySem.Data.func (PySem.FuncData.mk (PySem.Str.ofString "signed") (PySem.Str.ofString "signed") (Mine.argsAt 32) (PySem.FuncBody.stmts (Mine.bodyAt 32)) (Mine.scopeAt 32) 0 [] PySem.Value.none PySem.Value.none PySem.Value.none PySem.Value.none Option.none PySem.Value.none PySem.Value.none 0)) #[]
noncomputable def mo_4_232 (P : PySem.Params) : PySem.Obj := PySem.Obj.mk (PySem.Value.type "code") Option.none (PySem.Data.fields #[PySem.Value.str (PySem.Str.ofString "signed") 556, PySem.Value.str (PySem.Str.ofString "signed") 557, PySem.Value.str (PySem.Str.ofString "/claim/cut.py") 558, PySem.Value.int 222 0, PySem.Value.int 2 0, PySem.Value.int 0 0, PySem.Value.int 0 0, PySem.Value.int 3 0, PySem.Value.ref 227, PySem.Value.bool Bool.true, PySem.Value.int 181 0, PySem.Value.ref 228, PySem.Value.none, PySem.Value.ref 229, PySem.Value.ref 230, PySem.Value.ref 231, PySem.Value.int 561 0, PySem.Value.int 222 0, PySem.Value.str (PySem.Str.ofString "/claim/cut.py") 562]) #[]
noncomputable def mo_4_233 (P : PySem.Params) : PySem.Obj := PySem.Obj.mk (PySem.Value.type "function") Option.none (PySem.Data.func (PySem.FuncData.mk (PySem.Str.ofString "signed") (PySem.Str.ofString "signed") (Mine.argsAt 32) (PySem.FuncBody.stmts (Mine.bodyAt 32)) (Mine.scopeAt 32) 3 [] PySem.Value.none PySem.Value.none PySem.Value.none (PySem.Value.str (PySem.Str.ofString "gmp.signed") 554) Option.none (PySem.Value.ref 232) PySem.Value.none 0)) #[]
noncomputable def mh_4 (P : PySem.Params) : PySem.Heap := PySem.Heap.mk (Array.mk [PySem.W.boot_o_0 P, PySem.W.boot_o_1 P, mo_1_2 P, mo_4_3 P, PySem.W.boot_o_4 P, PySem.W.boot_o_5 P, PySem.W.boot_o_6 P, PySem.W.boot_o_7 P, PySem.W.boot_o_8 P, PySem.W.boot_o_9 P, PySem.W.boot_o_10 P, mo_A_11 P, mo_4_12 P, mo_A_13 P, mo_A_14 P, mo_1_15 P, mo_1_16 P, mo_1_17 P, mo_1_18 P, mo_1_19 P, mo_1_20 P, mo_1_21 P, mo_1_22 P, mo_1_23 P, mo_2_24 P, mo_1_25 P, mo_1_26 P, mo_1_27 P, mo_1_28 P, mo_1_29 P, mo_1_30 P, mo_1_31 P, mo_1_32 P, mo_1_33 P, mo_1_34 P, mo_1_35 P, mo_1_36 P, mo_1_37 P, mo_1_38 P, mo_1_39 P, mo_2_40 P, mo_2_41 P, mo_2_42 P, mo_2_43 P, mo_2_44 P, mo_2_45 P, mo_2_46 P, mo_2_47 P, mo_2_48 P, mo_2_49 P, mo_2_50 P, mo_2_51 P, mo_2_52 P, mo_2_53 P, mo_2_54 P, mo_2_55 P, mo_2_56 P, mo_2_57 P, mo_2_58 P, mo_2_59 P, mo_2_60 P, mo_2_61 P, mo_2_62 P, mo_2_63 P, mo_2_64 P, mo_2_65 P, mo_2_66 P, mo_2_67 P, mo_2_68 P, mo_2_69 P, mo_2_70 P, mo_2_71 P, mo_2_72 P, mo_2_73 P, mo_2_74 P, mo_2_75 P, mo_2_76 P, mo_2_77 P, mo_2_78 P, mo_2_79 P, mo_2_80 P, mo_2_81 P, mo_2_82 P, mo_2_83 P, mo_2_84 P, mo_2_85 P, mo_2_86 P, mo_3_87 P, mo_3_88 P, mo_3_89 P, mo_3_90 P, mo_3_91 P, mo_3_92 P, mo_3_93 P, mo_3_94 P, mo_3_95 P, mo_3_96 P, mo_3_97 P, mo_3_98 P, mo_3_99 P, mo_3_100 P, mo_3_101 P, mo_3_102 P, mo_3_103 P, mo_3_104 P, mo_3_105 P, mo_3_106 P, mo_3_107 P, mo_3_108 P, mo_3_109 P, mo_3_110 P, mo_3_111 P, mo_3_112 P, mo_3_113 P, mo_3_114 P, mo_3_115 P, mo_3_116 P, mo_3_117 P, mo_3_118 P, mo_3_119 P, mo_3_120 P, mo_3_121 P, mo_3_122 P, mo_3_123 P, mo_3_124 P, mo_3_125 P, mo_3_126 P, mo_3_127 P, mo_3_128 P, mo_3_129 P, mo_3_130 P, mo_3_131 P, mo_3_132 P, mo_3_133 P, mo_3_134 P, mo_3_135 P, mo_3_136 P, mo_3_137 P, mo_3_138 P, mo_3_139 P, mo_3_140 P, mo_3_141 P, mo_3_142 P, mo_3_143 P, mo_3_144 P, mo_3_145 P, mo_3_146 P, mo_3_147 P, mo_3_148 P, mo_3_149 P, mo_3_150 P, mo_3_151 P, mo_3_152 P, mo_3_153 P, mo_3_154 P, mo_3_155 P, mo_3_156 P, mo_3_157 P, mo_3_158 P, mo_3_159 P, mo_3_160 P, mo_3_161 P, mo_3_162 P, mo_3_163 P, mo_4_164 P, mo_4_165 P, mo_4_166 P, mo_4_167 P, mo_4_168 P, mo_4_169 P, mo_4_170 P, mo_4_171 P, mo_4_172 P, mo_4_173 P, mo_4_174 P, mo_4_175 P, mo_4_176 P, mo_4_177 P, mo_4_178 P, mo_4_179 P, mo_4_180 P, mo_4_181 P, mo_4_182 P, mo_4_183 P, mo_4_184 P, mo_4_185 P, mo_4_186 P, mo_4_187 P, mo_4_188 P, mo_4_189 P, mo_4_190 P, mo_4_191 P, mo_4_192 P, mo_4_193 P, mo_4_194 P, mo_4_195 P, mo_4_196 P, mo_4_197 P, mo_4_198 P, mo_4_199 P, mo_4_200 P, mo_4_201 P, mo_4_202 P, mo_4_203 P, mo_4_204 P, mo_4_205 P, mo_4_206 P, mo_4_207 P, mo_4_208 P, mo_4_209 P, mo_4_210 P, mo_4_211 P, mo_4_212 P, mo_4_213 P, mo_4_214 P, mo_4_215 P, mo_4_216 P, mo_4_217 P, mo_4_218 P, mo_4_219 P, mo_4_220 P, mo_4_221 P, mo_4_222 P, mo_4_223 P, mo_4_224 P, mo_4_225 P, mo_4_226 P, mo_4_227 P, mo_4_228 P, mo_4_229 P, mo_4_230 P, mo_4_231 P, mo_4_232 P, mo_4_233 P]) (PySem.Life.mk [] [] [] 0 [] [] Bool.false #[] [] 0 Bool.false Bool.false Bool.false 0 [2000, 10, 10] Bool.false 0 Bool.true [] [] 0 Bool.false)
noncomputable def ms_4 (w : PySem.World) (os : PySem.OsState) : PySem.Shared := ⟨mh_4 w.params, Array.mk [], PySem.Drawn.mk 0 0 0 0, 564, os⟩
noncomputable def mo_5_3 (P : PySem.Params) : PySem.Obj := PySem.Obj.mk (PySem.Value.type "dict") Option.none (PySem.Data.dict #[PySem.DictEntry.mk (PySem.PyData.keyHash P (PySem.Str.ofString "__name__")) (PySem.Value.str (PySem.Str.ofString "__name__") 165) (PySem.Value.str (PySem.Str.ofString "law_xm0392_01") 607), PySem.DictEntry.mk (PySem.PyData.keyHash P (PySem.Str.ofString "__doc__")) (PySem.Value.str (PySem.Str.ofString "__doc__") 166) PySem.Value.none, PySem.DictEntry.mk (PySem.PyData.keyHash P (PySem.Str.ofString "__package__")) (PySem.Value.str (PySem.Str.ofString "__package__") 167) PySem.Value.none, PySem.DictEntry.mk (PySem.PyData.keyHash P (PySem.Str.ofString "__loader__")) (PySem.Value.str (PySem.Str.ofString "__loader__") 168) (PySem.Value.builtin "__main__.__loader__#opaque"), PySem.DictEntry.mk (PySem.PyData.keyHash P (PySem.Str.ofString "__spec__")) (PySem.Value.str (PySem.Str.ofString "__spec__") 169) PySem.Value.none, PySem.DictEntry.mk (PySem.PyData.keyHash P (PySem.Str.ofString "__annotations__")) (PySem.Value.str (PySem.Str.ofString "__annotations__") 170) (PySem.Value.ref 6), PySem.DictEntry.mk (PySem.PyData.keyHash P (PySem.Str.ofString "__builtins__")) (PySem.Value.str (PySem.Str.ofString "__builtins__") 171) (PySem.Value.ref 4), PySem.DictEntry.mk (PySem.PyData.keyHash P (PySem.Str.ofString "__file__")) (PySem.Value.str (PySem.Str.ofString "__file__") 173) (PySem.Value.str (PySem.Str.ofString "/claim/cut.py") 172), PySem.DictEntry.mk (PySem.PyData.keyHash P (PySem.Str.ofString "__cached__")) (PySem.Value.str (PySem.Str.ofString "__cached__") 174) PySem.Value.none, PySem.DictEntry.mk (PySem.PyData.keyHash P (PySem.Str.ofString "GmpError")) (PySem.Value.str (PySem.Str.ofString "GmpError") 208) (PySem.Value.ref 24), PySem.DictEntry.mk (PySem.PyData.keyHash P (PySem.Str.ofString "DivisionByZero")) (PySem.Value.str (PySem.Str.ofString "DivisionByZero") 224) (PySem.Value.ref 37), PySem.DictEntry.mk (PySem.PyData.keyHash P (PySem.Str.ofString "OutOfRange")) (PySem.Value.str (PySem.Str.ofString "OutOfRange") 240) (PySem.Value.ref 49), PySem.DictEntry.mk (PySem.PyData.keyHash P (PySem.Str.ofString "normal")) (PySem.Value.str (PySem.Str.ofString "normal") 248) (PySem.Value.ref 58), PySem.DictEntry.mk (PySem.PyData.keyHash P (PySem.Str.ofString "nat_of")) (PySem.Value.str (PySem.Str.ofString "nat_of") 258) (PySem.Value.ref 65), PySem.DictEntry.mk (PySem.PyData.keyHash P (PySem.Str.ofString "compare")) (PySem.Value.str (PySem.Str.ofString "compare") 267) (PySem.Value.ref 72), PySem.DictEntry.mk (PySem.PyData.keyHash P (PySem.Str.ofString "add")) (PySem.Value.str (PySem.Str.ofString "add") 280) (PySem.Value.ref 79), PySem.DictEntry.mk (PySem.PyData.keyHash P (PySem.Str.ofString "sub")) (PySem.Value.str (PySem.Str.ofString "sub") 294) (PySem.Value.ref 86), PySem.DictEntry.mk (PySem.PyData.keyHash P (PySem.Str.ofString "add_limb")) (PySem.Value.str (PySem.Str.ofString "add_limb") 306) (PySem.Value.ref 93), PySem.DictEntry.mk (PySem.PyData.keyHash P (PySem.Str.ofString "add_at")) (PySem.Value.str (PySem.Str.ofString "add_at") 316) (PySem.Value.ref 100), PySem.DictEntry.mk (PySem.PyData.keyHash P (PySem.Str.ofString "divrem_limb")) (PySem.Value.str (PySem.Str.ofString "divrem_limb") 328) (PySem.Value.ref 107), PySem.DictEntry.mk (PySem.PyData.keyHash P (PySem.Str.ofString "shift_left")) (PySem.Value.str (PySem.Str.ofString "shift_left") 343) (PySem.Value.ref 114), PySem.DictEntry.mk (PySem.PyData.keyHash P (PySem.Str.ofString "shift_right")) (PySem.Value.str (PySem.Str.ofString "shift_right") 358) (PySem.Value.ref 121), PySem.DictEntry.mk (PySem.PyData.keyHash P (PySem.Str.ofString "bits")) (PySem.Value.str (PySem.Str.ofString "bits") 366) (PySem.Value.ref 128), PySem.DictEntry.mk (PySem.PyData.keyHash P (PySem.Str.ofString "bit")) (PySem.Value.str (PySem.Str.ofString "bit") 375) (PySem.Value.ref 135), PySem.DictEntry.mk (PySem.PyData.keyHash P (PySem.Str.ofString "split")) (PySem.Value.str (PySem.Str.ofString "split") 383) (PySem.Value.ref 142), PySem.DictEntry.mk (PySem.PyData.keyHash P (PySem.Str.ofString "sqrt_small")) (PySem.Value.str (PySem.Str.ofString "sqrt_small") 394) (PySem.Value.ref 149), PySem.DictEntry.mk (PySem.PyData.keyHash P (PySem.Str.ofString "sqrt_plain")) (PySem.Value.str (PySem.Str.ofString "sqrt_plain") 406) (PySem.Value.ref 156), PySem.DictEntry.mk (PySem.PyData.keyHash P (PySem.Str.ofString "sqrt_two_limbs")) (PySem.Value.str (PySem.Str.ofString "sqrt_two_limbs") 417) (PySem.Value.ref 163), PySem.DictEntry.mk (PySem.PyData.keyHash P (PySem.Str.ofString "sqrt_halves")) (PySem.Value.str (PySem.Str.ofString "sqrt_halves") 439) (PySem.Value.ref 170), PySem.DictEntry.mk (PySem.PyData.keyHash P (PySem.Str.ofString "sqrt_rem")) (PySem.Value.str (PySem.Str.ofString "sqrt_rem") 454) (PySem.Value.ref 177), PySem.DictEntry.mk (PySem.PyData.keyHash P (PySem.Str.ofString "mul_school")) (PySem.Value.str (PySem.Str.ofString "mul_school") 472) (PySem.Value.ref 184), PySem.DictEntry.mk (PySem.PyData.keyHash P (PySem.Str.ofString "divrem_small")) (PySem.Value.str (PySem.Str.ofString "divrem_small") 483) (PySem.Value.ref 191), PySem.DictEntry.mk (PySem.PyData.keyHash P (PySem.Str.ofString "guessed_limb")) (PySem.Value.str (PySem.Str.ofString "guessed_limb") 497) (PySem.Value.ref 198), PySem.DictEntry.mk (PySem.PyData.keyHash P (PySem.Str.ofString "take_away")) (PySem.Value.str (PySem.Str.ofString "take_away") 513) (PySem.Value.ref 205), PySem.DictEntry.mk (PySem.PyData.keyHash P (PySem.Str.ofString "put_back")) (PySem.Value.str (PySem.Str.ofString "put_back") 527) (PySem.Value.ref 212), PySem.DictEntry.mk (PySem.PyData.keyHash P (PySem.Str.ofString "divide_rows")) (PySem.Value.str (PySem.Str.ofString "divide_rows") 540) (PySem.Value.ref 219), PySem.DictEntry.mk (PySem.PyData.keyHash P (PySem.Str.ofString "divrem_school")) (PySem.Value.str (PySem.Str.ofString "divrem_school") 553) (PySem.Value.ref 226), PySem.DictEntry.mk (PySem.PyData.keyHash P (PySem.Str.ofString "signed")) (PySem.Value.str (PySem.Str.ofString "signed") 563) (PySem.Value.ref 233), PySem.DictEntry.mk (PySem.PyData.keyHash P (PySem.Str.ofString "s_add")) (PySem.Value.str (PySem.Str.ofString "s_add") 572) (PySem.Value.ref 240), PySem.DictEntry.mk (PySem.PyData.keyHash P (PySem.Str.ofString "s_mul")) (PySem.Value.str (PySem.Str.ofString "s_mul") 582) (PySem.Value.ref 247), PySem.DictEntry.mk (PySem.PyData.keyHash P (PySem.Str.ofString "tdiv")) (PySem.Value.str (PySem.Str.ofString "tdiv") 594) (PySem.Value.ref 254), PySem.DictEntry.mk (PySem.PyData.keyHash P (PySem.Str.ofString "fdiv")) (PySem.Value.str (PySem.Str.ofString "fdiv") 606) (PySem.Value.ref 261), PySem.DictEntry.mk (PySem.PyData.keyHash P (PySem.Str.ofString "_law_heaped")) (PySem.Value.str (PySem.Str.ofString "_law_heaped") 616) (PySem.Value.ref 268), PySem.DictEntry.mk (PySem.PyData.keyHash P (PySem.Str.ofString "_law_signed")) (PySem.Value.str (PySem.Str.ofString "_law_signed") 624) (PySem.Value.ref 275), PySem.DictEntry.mk (PySem.PyData.keyHash P (PySem.Str.ofString "_law_told")) (PySem.Value.str (PySem.Str.ofString "_law_told") 637) (PySem.Value.ref 282), PySem.DictEntry.mk (PySem.PyData.keyHash P (PySem.Str.ofString "_law_leads")) (PySem.Value.str (PySem.Str.ofString "_law_leads") 643) (PySem.Value.ref 287), PySem.DictEntry.mk (PySem.PyData.keyHash P (PySem.Str.ofString "_law_lost")) (PySem.Value.str (PySem.Str.ofString "_law_lost") 649) (PySem.Value.ref 292), PySem.DictEntry.mk (PySem.PyData.keyHash P (PySem.Str.ofString "law")) (PySem.Value.str (PySem.Str.ofString "law") 655) (PySem.Value.ref 297)] 48) #[]
noncomputable def mo_5_12 (P : PySem.Params) : PySem.Obj := PySem.Obj.mk PySem.Value.none Option.none (PySem.Data.fields #[PySem.Value.int 2 0, PySem.Value.int 0 0, PySem.Value.ref 20, PySem.Value.int 4 0, PySem.Value.int 0 0, PySem.Value.ref 33, PySem.Value.int 6 0, PySem.Value.int 0 0, PySem.Value.ref 45, PySem.Value.int 8 0, PySem.Value.int 0 0, PySem.Value.ref 57, PySem.Value.int 13 0, PySem.Value.int 0 0, PySem.Value.ref 64, PySem.Value.int 21 0, PySem.Value.int 0 0, PySem.Value.ref 71, PySem.Value.int 28 0, PySem.Value.int 0 0, PySem.Value.ref 78, PySem.Value.int 43 0, PySem.Value.int 0 0, PySem.Value.ref 85, PySem.Value.int 52 0, PySem.Value.int 0 0, PySem.Value.ref 92, PySem.Value.int 61 0, PySem.Value.int 0 0, PySem.Value.ref 99, PySem.Value.int 67 0, PySem.Value.int 0 0, PySem.Value.ref 106, PySem.Value.int 76 0, PySem.Value.int 0 0, PySem.Value.ref 113, PySem.Value.int 88 0, PySem.Value.int 0 0, PySem.Value.ref 120, PySem.Value.int 95 0, PySem.Value.int 0 0, PySem.Value.ref 127, PySem.Value.int 97 0, PySem.Value.int 0 0, PySem.Value.ref 134, PySem.Value.int 99 0, PySem.Value.int 0 0, PySem.Value.ref 141, PySem.Value.int 102 0, PySem.Value.int 0 0, PySem.Value.ref 148, PySem.Value.int 115 0, PySem.Value.int 0 0, PySem.Value.ref 155, PySem.Value.int 126 0, PySem.Value.int 0 0, PySem.Value.ref 162, PySem.Value.int 132 0, PySem.Value.int 0 0, PySem.Value.ref 169, PySem.Value.int 149 0, PySem.Value.int 0 0, PySem.Value.ref 176, PySem.Value.int 161 0, PySem.Value.int 0 0, PySem.Value.ref 183, PySem.Value.int 171 0, PySem.Value.int 0 0, PySem.Value.ref 190, PySem.Value.int 174 0, PySem.Value.int 0 0, PySem.Value.ref 197, PySem.Value.int 182 0, PySem.Value.int 0 0, PySem.Value.ref 204, PySem.Value.int 191 0, PySem.Value.int 0 0, PySem.Value.ref 211, PySem.Value.int 198 0, PySem.Value.int 0 0, PySem.Value.ref 218, PySem.Value.int 208 0, PySem.Value.int 0 0, PySem.Value.ref 225, PySem.Value.int 222 0, PySem.Value.int 0 0, PySem.Value.ref 232, PySem.Value.int 224 0, PySem.Value.int 0 0, PySem.Value.ref 239, PySem.Value.int 230 0, PySem.Value.int 0 0, PySem.Value.ref 246, PySem.Value.int 232 0, PySem.Value.int 0 0, PySem.Value.ref 253, PySem.Value.int 237 0, PySem.Value.int 0 0, PySem.Value.ref 260, PySem.Value.int 243 0, PySem.Value.int 0 0, PySem.Value.ref 267, PySem.Value.int 248 0, PySem.Value.int 0 0, PySem.Value.ref 274, PySem.Value.int 250 0, PySem.Value.int 0 0, PySem.Value.ref 281, PySem.Value.int 256 0, PySem.Value.int 0 0, PySem.Value.ref 286, PySem.Value.int 261 0, PySem.Value.int 0 0, PySem.Value.ref 291, PySem.Value.int 269 0, PySem.Value.int 0 0, PySem.Value.ref 296]) #[]
noncomputable def mo_5_234 (P : PySem.Params) : PySem.Obj := PySem.Obj.mk (PySem.Value.type "tuple") Option.none (PySem.Data.seq #[]) #[]
noncomputable def mo_5_235 (P : PySem.Params) : PySem.Obj := PySem.Obj.mk PySem.Value.none Option.none (PySem.Data.fields #[]) #[]
noncomputable def mo_5_236 (P : PySem.Params) : PySem.Obj := PySem.Obj.mk (PySem.Value.type "tuple") Option.none (PySem.Data.seq #[PySem.Value.str (PySem.Str.ofString "x") 567, PySem.Value.str (PySem.Str.ofString "y") 568, PySem.Value.str (PySem.Str.ofString "w") 569]) #[]
noncomputable def mo_5_237 (P : PySem.Params) : PySem.Obj := PySem.Obj.mk (PySem.Value.type "tuple") Option.none (PySem.Data.seq #[]) #[]
noncomputable def mo_5_238 (P : PySem.Params) : PySem.Obj := PySem.Obj.mk PySem.Value.none Option.none (PySem.Data.func (PySem.FuncData.mk (PySem.Str.ofString "s_add") (PySem.Str.ofString "s_add") (Mine.argsAt 33) (PySem.FuncBody.stmts (Mine.bodyAt 33)) (Mine.scopeAt 33) 0 [] PySem.Value.none PySem.Value.none PySem.Value.none PySem.Value.none Option.none PySem.Value.none PySem.Value.none 0)) #[]
noncomputable def mo_5_239 (P : PySem.Params) : PySem.Obj := PySem.Obj.mk (PySem.Value.type "code") Option.none (PySem.Data.fields #[PySem.Value.str (PySem.Str.ofString "s_add") 564, PySem.Value.str (PySem.Str.ofString "s_add") 565, PySem.Value.str (PySem.Str.ofString "/claim/cut.py") 566, PySem.Value.int 224 0, PySem.Value.int 3 0, PySem.Value.int 0 0, PySem.Value.int 0 0, PySem.Value.int 3 0, PySem.Value.ref 234, PySem.Value.bool Bool.true, PySem.Value.int 181 0, PySem.Value.ref 235, PySem.Value.none, PySem.Value.ref 236, PySem.Value.ref 237, PySem.Value.ref 238, PySem.Value.int 570 0, PySem.Value.int 224 0, PySem.Value.str (PySem.Str.ofString "/claim/cut.py") 571]) #[]
noncomputable def mo_5_240 (P : PySem.Params) : PySem.Obj := PySem.Obj.mk (PySem.Value.type "function") Option.none (PySem.Data.func (PySem.FuncData.mk (PySem.Str.ofString "s_add") (PySem.Str.ofString "s_add") (Mine.argsAt 33) (PySem.FuncBody.stmts (Mine.bodyAt 33)) (Mine.scopeAt 33) 3 [] PySem.Value.none PySem.Value.none PySem.Value.none (PySem.Value.str (PySem.Str.ofString "gmp.signed") 554) Option.none (PySem.Value.ref 239) PySem.Value.none 0)) #[]
noncomputable def mo_5_241 (P : PySem.Params) : PySem.Obj := PySem.Obj.mk (PySem.Value.type "tuple") Option.none (PySem.Data.seq #[]) #[]
noncomputable def mo_5_242 (P : PySem.Params) : PySem.Obj := PySem.Obj.mk PySem.Value.none Option.none (PySem.Data.fields #[]) #[]
noncomputable def mo_5_243 (P : PySem.Params) : PySem.Obj := PySem.Obj.mk (PySem.Value.type "tuple") Option.none (PySem.Data.seq #[PySem.Value.str (PySem.Str.ofString "x") 576, PySem.Value.str (PySem.Str.ofString "y") 577, PySem.Value.str (PySem.Str.ofString "w") 578, PySem.Value.str (PySem.Str.ofString "mul") 579]) #[]
noncomputable def mo_5_244 (P : PySem.Params) : PySem.Obj := PySem.Obj.mk (PySem.Value.type "tuple") Option.none (PySem.Data.seq #[]) #[]
noncomputable def mo_5_245 (P : PySem.Params) : PySem.Obj := PySem.Obj.mk PySem.Value.none Option.none (PySem.Data.func (PySem.FuncData.mk (PySem.Str.ofString "s_mul") (PySem.Str.ofString "s_mul") (Mine.argsAt 34) (PySem.FuncBody.stmts (Mine.bodyAt 34)) (Mine.scopeAt 34) 0 [] PySem.Value.none PySem.Value.none PySem.Value.none PySem.Value.none Option.none PySem.Value.none PySem.Value.none 0)) #[]
noncomputable def mo_5_246 (P : PySem.Params) : PySem.Obj := PySem.Obj.mk (PySem.Value.type "code") Option.none (PySem.Data.fields #[PySem.Value.str (PySem.Str.ofString "s_mul") 573, PySem.Value.str (PySem.Str.ofString "s_mul") 574, PySem.Value.str (PySem.Str.ofString "/claim/cut.py") 575, PySem.Value.int 230 0, PySem.Value.int 4 0, PySem.Value.int 0 0, PySem.Value.int 0 0, PySem.Value.int 3 0, PySem.Value.ref 241, PySem.Value.bool Bool.true, PySem.Value.int 181 0, PySem.Value.ref 242, PySem.Value.none, PySem.Value.ref 243, PySem.Value.ref 244, PySem.Value.ref 245, PySem.Value.int 580 0, PySem.Value.int 230 0, PySem.Value.str (PySem.Str.ofString "/claim/cut.py") 581]) #[]
noncomputable def mo_5_247 (P : PySem.Params) : PySem.Obj := PySem.Obj.mk (PySem.Value.type "function") Option.none (PySem.Data.func (PySem.FuncData.mk (PySem.Str.ofString "s_mul") (PySem.Str.ofString "s_mul") (Mine.argsAt 34) (PySem.FuncBody.stmts (Mine.bodyAt 34)) (Mine.scopeAt 34) 3 [] PySem.Value.none PySem.Value.none PySem.Value.none (PySem.Value.str (PySem.Str.ofString "gmp.signed") 554) Option.none (PySem.Value.ref 246) PySem.Value.none 0)) #[]
noncomputable def mo_5_248 (P : PySem.Params) : PySem.Obj := PySem.Obj.mk (PySem.Value.type "tuple") Option.none (PySem.Data.seq #[]) #[]
noncomputable def mo_5_249 (P : PySem.Params) : PySem.Obj := PySem.Obj.mk PySem.Value.none Option.none (PySem.Data.fields #[]) #[]
noncomputable def mo_5_250 (P : PySem.Params) : PySem.Obj := PySem.Obj.mk (PySem.Value.type "tuple") Option.none (PySem.Data.seq #[PySem.Value.str (PySem.Str.ofString "x") 586, PySem.Value.str (PySem.Str.ofString "y") 587, PySem.Value.str (PySem.Str.ofString "w") 588, PySem.Value.str (PySem.Str.ofString "divrem") 589, PySem.Value.str (PySem.Str.ofString "quotient") 590, PySem.Value.str (PySem.Str.ofString "rest") 591]) #[]
noncomputable def mo_5_251 (P : PySem.Params) : PySem.Obj := PySem.Obj.mk (PySem.Value.type "tuple") Option.none (PySem.Data.seq #[]) #[]
noncomputable def mo_5_252 (P : PySem.Params) : PySem.Obj := PySem.Obj.mk PySem.Value.none Option.none (PySem.Data.func (PySem.FuncData.mk (PySem.Str.ofString "tdiv") (PySem.Str.ofString "tdiv") (Mine.argsAt 35) (PySem.FuncBody.stmts (Mine.bodyAt 35)) (Mine.scopeAt 35) 0 [] PySem.Value.none PySem.Value.none PySem.Value.none PySem.Value.none Option.none PySem.Value.none PySem.Value.none 0)) #[]
noncomputable def mo_5_253 (P : PySem.Params) : PySem.Obj := PySem.Obj.mk (PySem.Value.type "code") Option.none (PySem.Data.fields #[PySem.Value.str (PySem.Str.ofString "tdiv") 583, PySem.Value.str (PySem.Str.ofString "tdiv") 584, PySem.Value.str (PySem.Str.ofString "/claim/cut.py") 585, PySem.Value.int 232 0, PySem.Value.int 4 0, PySem.Value.int 0 0, PySem.Value.int 0 0, PySem.Value.int 3 0, PySem.Value.ref 248, PySem.Value.bool Bool.true, PySem.Value.int 181 0, PySem.Value.ref 249, PySem.Value.none, PySem.Value.ref 250, PySem.Value.ref 251, PySem.Value.ref 252, PySem.Value.int 592 0, PySem.Value.int 232 0, PySem.Value.str (PySem.Str.ofString "/claim/cut.py") 593]) #[]
noncomputable def mo_5_254 (P : PySem.Params) : PySem.Obj := PySem.Obj.mk (PySem.Value.type "function") Option.none (PySem.Data.func (PySem.FuncData.mk (PySem.Str.ofString "tdiv") (PySem.Str.ofString "tdiv") (Mine.argsAt 35) (PySem.FuncBody.stmts (Mine.bodyAt 35)) (Mine.scopeAt 35) 3 [] PySem.Value.none PySem.Value.none PySem.Value.none (PySem.Value.str (PySem.Str.ofString "gmp.signed") 554) Option.none (PySem.Value.ref 253) PySem.Value.none 0)) #[]
noncomputable def mo_5_255 (P : PySem.Params) : PySem.Obj := PySem.Obj.mk (PySem.Value.type "tuple") Option.none (PySem.Data.seq #[]) #[]
noncomputable def mo_5_256 (P : PySem.Params) : PySem.Obj := PySem.Obj.mk PySem.Value.none Option.none (PySem.Data.fields #[]) #[]
noncomputable def mo_5_257 (P : PySem.Params) : PySem.Obj := PySem.Obj.mk (PySem.Value.type "tuple") Option.none (PySem.Data.seq #[PySem.Value.str (PySem.Str.ofString "x") 598, PySem.Value.str (PySem.Str.ofString "y") 599, PySem.Value.str (PySem.Str.ofString "w") 600, PySem.Value.str (PySem.Str.ofString "divrem") 601, PySem.Value.str (PySem.Str.ofString "quotient") 602, PySem.Value.str (PySem.Str.ofString "rest") 603]) #[]
noncomputable def mo_5_258 (P : PySem.Params) : PySem.Obj := PySem.Obj.mk (PySem.Value.type "tuple") Option.none (PySem.Data.seq #[]) #[]
noncomputable def mo_5_259 (P : PySem.Params) : PySem.Obj := PySem.Obj.mk PySem.Value.none Option.none (PySem.Data.func (PySem.FuncData.mk (PySem.Str.ofString "fdiv") (PySem.Str.ofString "fdiv") (Mine.argsAt 36) (PySem.FuncBody.stmts (Mine.bodyAt 36)) (Mine.scopeAt 36) 0 [] PySem.Value.none PySem.Value.none PySem.Value.none PySem.Value.none Option.none PySem.Value.none PySem.Value.none 0)) #[]
noncomputable def mo_5_260 (P : PySem.Params) : PySem.Obj := PySem.Obj.mk (PySem.Value.type "code") Option.none (PySem.Data.fields #[PySem.Value.str (PySem.Str.ofString "fdiv") 595, PySem.Value.str (PySem.Str.ofString "fdiv") 596, PySem.Value.str (PySem.Str.ofString "/claim/cut.py") 597, PySem.Value.int 237 0, PySem.Value.int 4 0, PySem.Value.int 0 0, PySem.Value.int 0 0, PySem.Value.int 3 0, PySem.Value.ref 255, PySem.Value.bool Bool.true, PySem.Value.int 181 0, PySem.Value.ref 256, PySem.Value.none, PySem.Value.ref 257, PySem.Value.ref 258, PySem.Value.ref 259, PySem.Value.int 604 0, PySem.Value.int 237 0, PySem.Value.str (PySem.Str.ofString "/claim/cut.py") 605]) #[]
noncomputable def mo_5_261 (P : PySem.Params) : PySem.Obj := PySem.Obj.mk (PySem.Value.type "function") Option.none (PySem.Data.func (PySem.FuncData.mk (PySem.Str.ofString "fdiv") (PySem.Str.ofString "fdiv") (Mine.argsAt 36) (PySem.FuncBody.stmts (Mine.bodyAt 36)) (Mine.scopeAt 36) 3 [] PySem.Value.none PySem.Value.none PySem.Value.none (PySem.Value.str (PySem.Str.ofString "gmp.signed") 554) Option.none (PySem.Value.ref 260) PySem.Value.none 0)) #[]
noncomputable def mo_5_262 (P : PySem.Params) : PySem.Obj := PySem.Obj.mk (PySem.Value.type "tuple") Option.none (PySem.Data.seq #[]) #[]
noncomputable def mo_5_263 (P : PySem.Params) : PySem.Obj := PySem.Obj.mk PySem.Value.none Option.none (PySem.Data.fields #[]) #[]
noncomputable def mo_5_264 (P : PySem.Params) : PySem.Obj := PySem.Obj.mk (PySem.Value.type "tuple") Option.none (PySem.Data.seq #[PySem.Value.str (PySem.Str.ofString "heap") 612, PySem.Value.str (PySem.Str.ofString "many") 613]) #[]
noncomputable def mo_5_265 (P : PySem.Params) : PySem.Obj := PySem.Obj.mk (PySem.Value.type "tuple") Option.none (PySem.Data.seq #[]) #[]
noncomputable def mo_5_266 (P : PySem.Params) : PySem.Obj := PySem.Obj.mk PySem.Value.none Option.none (PySem.Data.func (PySem.FuncData.mk (PySem.Str.ofString "_law_heaped") (PySem.Str.ofString "_law_heaped") (Mine.argsAt 38) (PySem.FuncBody.stmts (Mine.bodyAt 38)) (Mine.scopeAt 38) 0 [] PySem.Value.none PySem.Value.none PySem.Value.none PySem.Value.none Option.none PySem.Value.none PySem.Value.none 0)) #[]
noncomputable def mo_5_267 (P : PySem.Params) : PySem.Obj := PySem.Obj.mk (PySem.Value.type "code") Option.none (PySem.Data.fields #[PySem.Value.str (PySem.Str.ofString "_law_heaped") 609, PySem.Value.str (PySem.Str.ofString "_law_heaped") 610, PySem.Value.str (PySem.Str.ofString "/claim/cut.py") 611, PySem.Value.int 243 0, PySem.Value.int 2 0, PySem.Value.int 0 0, PySem.Value.int 0 0, PySem.Value.int 3 0, PySem.Value.ref 262, PySem.Value.bool Bool.true, PySem.Value.int 181 0, PySem.Value.ref 263, PySem.Value.none, PySem.Value.ref 264, PySem.Value.ref 265, PySem.Value.ref 266, PySem.Value.int 614 0, PySem.Value.int 243 0, PySem.Value.str (PySem.Str.ofString "/claim/cut.py") 615]) #[]
noncomputable def mo_5_268 (P : PySem.Params) : PySem.Obj := PySem.Obj.mk (PySem.Value.type "function") Option.none (PySem.Data.func (PySem.FuncData.mk (PySem.Str.ofString "_law_heaped") (PySem.Str.ofString "_law_heaped") (Mine.argsAt 38) (PySem.FuncBody.stmts (Mine.bodyAt 38)) (Mine.scopeAt 38) 3 [] PySem.Value.none PySem.Value.none PySem.Value.none (PySem.Value.str (PySem.Str.ofString "law_xm0392_01") 607) Option.none (PySem.Value.ref 267) PySem.Value.none 0)) #[]
noncomputable def mo_5_269 (P : PySem.Params) : PySem.Obj := PySem.Obj.mk (PySem.Value.type "tuple") Option.none (PySem.Data.seq #[]) #[]
noncomputable def mo_5_270 (P : PySem.Params) : PySem.Obj := PySem.Obj.mk PySem.Value.none Option.none (PySem.Data.fields #[]) #[]
noncomputable def mo_5_271 (P : PySem.Params) : PySem.Obj := PySem.Obj.mk (PySem.Value.type "tuple") Option.none (PySem.Data.seq #[PySem.Value.str (PySem.Str.ofString "number") 620, PySem.Value.str (PySem.Str.ofString "w") 621]) #[]
noncomputable def mo_5_272 (P : PySem.Params) : PySem.Obj := PySem.Obj.mk (PySem.Value.type "tuple") Option.none (PySem.Data.seq #[]) #[]
noncomputable def mo_5_273 (P : PySem.Params) : PySem.Obj := PySem.Obj.mk PySem.Value.none Option.none (PySem.Data.func (PySem.FuncData.mk (PySem.Str.ofString "_law_signed") (PySem.Str.ofString "_law_signed") (Mine.argsAt 39) (PySem.FuncBody.stmts (Mine.bodyAt 39)) (Mine.scopeAt 39) 0 [] PySem.Value.none PySem.Value.none PySem.Value.none PySem.Value.none Option.none PySem.Value.none PySem.Value.none 0)) #[]
noncomputable def mo_5_274 (P : PySem.Params) : PySem.Obj := PySem.Obj.mk (PySem.Value.type "code") Option.none (PySem.Data.fields #[PySem.Value.str (PySem.Str.ofString "_law_signed") 617, PySem.Value.str (PySem.Str.ofString "_law_signed") 618, PySem.Value.str (PySem.Str.ofString "/claim/cut.py") 619, PySem.Value.int 248 0, PySem.Value.int 2 0, PySem.Value.int 0 0, PySem.Value.int 0 0, PySem.Value.int 3 0, PySem.Value.ref 269, PySem.Value.bool Bool.true, PySem.Value.int 181 0, PySem.Value.ref 270, PySem.Value.none, PySem.Value.ref 271, PySem.Value.ref 272, PySem.Value.ref 273, PySem.Value.int 622 0, PySem.Value.int 248 0, PySem.Value.str (PySem.Str.ofString "/claim/cut.py") 623]) #[]
noncomputable def mo_5_275 (P : PySem.Params) : PySem.Obj := PySem.Obj.mk (PySem.Value.type "function") Option.none (PySem.Data.func (PySem.FuncData.mk (PySem.Str.ofString "_law_signed") (PySem.Str.ofString "_law_signed") (Mine.argsAt 39) (PySem.FuncBody.stmts (Mine.bodyAt 39)) (Mine.scopeAt 39) 3 [] PySem.Value.none PySem.Value.none PySem.Value.none (PySem.Value.str (PySem.Str.ofString "law_xm0392_01") 607) Option.none (PySem.Value.ref 274) PySem.Value.none 0)) #[]
noncomputable def mo_5_276 (P : PySem.Params) : PySem.Obj := PySem.Obj.mk (PySem.Value.type "tuple") Option.none (PySem.Data.seq #[]) #[]
noncomputable def mo_5_277 (P : PySem.Params) : PySem.Obj := PySem.Obj.mk PySem.Value.none Option.none (PySem.Data.fields #[]) #[]
noncomputable def mo_5_278 (P : PySem.Params) : PySem.Obj := PySem.Obj.mk (PySem.Value.type "tuple") Option.none (PySem.Data.seq #[PySem.Value.str (PySem.Str.ofString "k") 628, PySem.Value.str (PySem.Str.ofString "t") 629, PySem.Value.str (PySem.Str.ofString "w") 630, PySem.Value.str (PySem.Str.ofString "square") 631, PySem.Value.str (PySem.Str.ofString "root") 632, PySem.Value.str (PySem.Str.ofString "whole") 633, PySem.Value.str (PySem.Str.ofString "lesser") 634]) #[]
noncomputable def mo_5_279 (P : PySem.Params) : PySem.Obj := PySem.Obj.mk (PySem.Value.type "tuple") Option.none (PySem.Data.seq #[]) #[]
noncomputable def mo_5_280 (P : PySem.Params) : PySem.Obj := PySem.Obj.mk PySem.Value.none Option.none (PySem.Data.func (PySem.FuncData.mk (PySem.Str.ofString "_law_told") (PySem.Str.ofString "_law_told") (Mine.argsAt 40) (PySem.FuncBody.stmts (Mine.bodyAt 40)) (Mine.scopeAt 40) 0 [] PySem.Value.none PySem.Value.none PySem.Value.none PySem.Value.none Option.none PySem.Value.none PySem.Value.none 0)) #[]
noncomputable def mo_5_281 (P : PySem.Params) : PySem.Obj := PySem.Obj.mk (PySem.Value.type "code") Option.none (PySem.Data.fields #[PySem.Value.str (PySem.Str.ofString "_law_told") 625, PySem.Value.str (PySem.Str.ofString "_law_told") 626, PySem.Value.str (PySem.Str.ofString "/claim/cut.py") 627, PySem.Value.int 250 0, PySem.Value.int 3 0, PySem.Value.int 0 0, PySem.Value.int 0 0, PySem.Value.int 3 0, PySem.Value.ref 276, PySem.Value.bool Bool.true, PySem.Value.int 181 0, PySem.Value.ref 277, PySem.Value.none, PySem.Value.ref 278, PySem.Value.ref 279, PySem.Value.ref 280, PySem.Value.int 635 0, PySem.Value.int 250 0, PySem.Value.str (PySem.Str.ofString "/claim/cut.py") 636]) #[]
noncomputable def mo_5_282 (P : PySem.Params) : PySem.Obj := PySem.Obj.mk (PySem.Value.type "function") Option.none (PySem.Data.func (PySem.FuncData.mk (PySem.Str.ofString "_law_told") (PySem.Str.ofString "_law_told") (Mine.argsAt 40) (PySem.FuncBody.stmts (Mine.bodyAt 40)) (Mine.scopeAt 40) 3 [] PySem.Value.none PySem.Value.none PySem.Value.none (PySem.Value.str (PySem.Str.ofString "law_xm0392_01") 607) Option.none (PySem.Value.ref 281) PySem.Value.none 0)) #[]
noncomputable def mo_5_283 (P : PySem.Params) : PySem.Obj := PySem.Obj.mk (PySem.Value.type "tuple") Option.none (PySem.Data.seq #[]) #[]
noncomputable def mo_5_284 (P : PySem.Params) : PySem.Obj := PySem.Obj.mk PySem.Value.none Option.none (PySem.Data.fields #[]) #[]
noncomputable def mo_5_285 (P : PySem.Params) : PySem.Obj := PySem.Obj.mk PySem.Value.none Option.none (PySem.Data.func (PySem.FuncData.mk (PySem.Str.ofString "_law_leads") (PySem.Str.ofString "_law_leads") (Mine.argsAt 41) (PySem.FuncBody.stmts (Mine.bodyAt 41)) (Mine.scopeAt 41) 0 [] PySem.Value.none PySem.Value.none PySem.Value.none PySem.Value.none Option.none PySem.Value.none PySem.Value.none 0)) #[]
noncomputable def mo_5_286 (P : PySem.Params) : PySem.Obj := PySem.Obj.mk (PySem.Value.type "code") Option.none (PySem.Data.fields #[PySem.Value.str (PySem.Str.ofString "_law_leads") 638, PySem.Value.str (PySem.Str.ofString "_law_leads") 639, PySem.Value.str (PySem.Str.ofString "/claim/cut.py") 640, PySem.Value.int 256 0, PySem.Value.int 5 0, PySem.Value.int 0 0, PySem.Value.int 0 0, PySem.Value.int 3 0, PySem.Value.ref 283, PySem.Value.bool Bool.true, PySem.Value.int 181 0, PySem.Value.ref 284, PySem.Value.none, PySem.Value.none, PySem.Value.none, PySem.Value.ref 285, PySem.Value.int 641 0, PySem.Value.int 256 0, PySem.Value.str (PySem.Str.ofString "/claim/cut.py") 642]) #[]
noncomputable def mo_5_287 (P : PySem.Params) : PySem.Obj := PySem.Obj.mk (PySem.Value.type "function") Option.none (PySem.Data.func (PySem.FuncData.mk (PySem.Str.ofString "_law_leads") (PySem.Str.ofString "_law_leads") (Mine.argsAt 41) (PySem.FuncBody.stmts (Mine.bodyAt 41)) (Mine.scopeAt 41) 3 [] PySem.Value.none PySem.Value.none PySem.Value.none (PySem.Value.str (PySem.Str.ofString "law_xm0392_01") 607) Option.none (PySem.Value.ref 286) PySem.Value.none 0)) #[]
noncomputable def mo_5_288 (P : PySem.Params) : PySem.Obj := PySem.Obj.mk (PySem.Value.type "tuple") Option.none (PySem.Data.seq #[]) #[]
noncomputable def mo_5_289 (P : PySem.Params) : PySem.Obj := PySem.Obj.mk PySem.Value.none Option.none (PySem.Data.fields #[]) #[]
noncomputable def mo_5_290 (P : PySem.Params) : PySem.Obj := PySem.Obj.mk PySem.Value.none Option.none (PySem.Data.func (PySem.FuncData.mk (PySem.Str.ofString "_law_lost") (PySem.Str.ofString "_law_lost") (Mine.argsAt 42) (PySem.FuncBody.stmts (Mine.bodyAt 42)) (Mine.scopeAt 42) 0 [] PySem.Value.none PySem.Value.none PySem.Value.none PySem.Value.none Option.none PySem.Value.none PySem.Value.none 0)) #[]
noncomputable def mo_5_291 (P : PySem.Params) : PySem.Obj := PySem.Obj.mk (PySem.Value.type "code") Option.none (PySem.Data.fields #[PySem.Value.str (PySem.Str.ofString "_law_lost") 644, PySem.Value.str (PySem.Str.ofString "_law_lost") 645, PySem.Value.str (PySem.Str.ofString "/claim/cut.py") 646, PySem.Value.int 261 0, PySem.Value.int 2 0, PySem.Value.int 0 0, PySem.Value.int 0 0, PySem.Value.int 3 0, PySem.Value.ref 288, PySem.Value.bool Bool.true, PySem.Value.int 181 0, PySem.Value.ref 289, PySem.Value.none, PySem.Value.none, PySem.Value.none, PySem.Value.ref 290, PySem.Value.int 647 0, PySem.Value.int 261 0, PySem.Value.str (PySem.Str.ofString "/claim/cut.py") 648]) #[]
noncomputable def mo_5_292 (P : PySem.Params) : PySem.Obj := PySem.Obj.mk (PySem.Value.type "function") Option.none (PySem.Data.func (PySem.FuncData.mk (PySem.Str.ofString "_law_lost") (PySem.Str.ofString "_law_lost") (Mine.argsAt 42) (PySem.FuncBody.stmts (Mine.bodyAt 42)) (Mine.scopeAt 42) 3 [] PySem.Value.none PySem.Value.none PySem.Value.none (PySem.Value.str (PySem.Str.ofString "law_xm0392_01") 607) Option.none (PySem.Value.ref 291) PySem.Value.none 0)) #[]
noncomputable def mo_5_293 (P : PySem.Params) : PySem.Obj := PySem.Obj.mk (PySem.Value.type "tuple") Option.none (PySem.Data.seq #[]) #[]
noncomputable def mo_5_294 (P : PySem.Params) : PySem.Obj := PySem.Obj.mk PySem.Value.none Option.none (PySem.Data.fields #[]) #[]
noncomputable def mo_5_295 (P : PySem.Params) : PySem.Obj := PySem.Obj.mk PySem.Value.none Option.none (PySem.Data.func (PySem.FuncData.mk (PySem.Str.ofString "law") (PySem.Str.ofString "law") (Mine.argsAt 43) (PySem.FuncBody.stmts (Mine.bodyAt 43)) (Mine.scopeAt 43) 0 [] PySem.Value.none PySem.Value.none PySem.Value.none PySem.Value.none Option.none PySem.Value.none PySem.Value.none 0)) #[]
noncomputable def mo_5_296 (P : PySem.Params) : PySem.Obj := PySem.Obj.mk (PySem.Value.type "code") Option.none (PySem.Data.fields #[PySem.Value.str (PySem.Str.ofString "law") 650, PySem.Value.str (PySem.Str.ofString "law") 651, PySem.Value.str (PySem.Str.ofString "/claim/cut.py") 652, PySem.Value.int 269 0, PySem.Value.int 1 0, PySem.Value.int 0 0, PySem.Value.int 0 0, PySem.Value.int 3 0, PySem.Value.ref 293, PySem.Value.bool Bool.true, PySem.Value.int 181 0, PySem.Value.ref 294, PySem.Value.none, PySem.Value.none, PySem.Value.none, PySem.Value.ref 295, PySem.Value.int 653 0, PySem.Value.int 269 0, PySem.Value.str (PySem.Str.ofString "/claim/cut.py") 654]) #[]
noncomputable def mo_5_297 (P : PySem.Params) : PySem.Obj := PySem.Obj.mk (PySem.Value.type "function") Option.none (PySem.Data.func (PySem.FuncData.mk (PySem.Str.ofString "law") (PySem.Str.ofString "law") (Mine.argsAt 43) (PySem.FuncBody.stmts (Mine.bodyAt 43)) (Mine.scopeAt 43) 3 [] PySem.Value.none PySem.Value.none PySem.Value.none (PySem.Value.str (PySem.Str.ofString "law_xm0392_01") 607) Option.none (PySem.Value.ref 296) PySem.Value.none 0)) #[]
noncomputable def mh_5 (P : PySem.Params) : PySem.Heap := PySem.Heap.mk (Array.mk [PySem.W.boot_o_0 P, PySem.W.boot_o_1 P, mo_1_2 P, mo_5_3 P, PySem.W.boot_o_4 P, PySem.W.boot_o_5 P, PySem.W.boot_o_6 P, PySem.W.boot_o_7 P, PySem.W.boot_o_8 P, PySem.W.boot_o_9 P, PySem.W.boot_o_10 P, mo_A_11 P, mo_5_12 P, mo_A_13 P, mo_A_14 P, mo_1_15 P, mo_1_16 P, mo_1_17 P, mo_1_18 P, mo_1_19 P, mo_1_20 P, mo_1_21 P, mo_1_22 P, mo_1_23 P, mo_2_24 P, mo_1_25 P, mo_1_26 P, mo_1_27 P, mo_1_28 P, mo_1_29 P, mo_1_30 P, mo_1_31 P, mo_1_32 P, mo_1_33 P, mo_1_34 P, mo_1_35 P, mo_1_36 P, mo_1_37 P, mo_1_38 P, mo_1_39 P, mo_2_40 P, mo_2_41 P, mo_2_42 P, mo_2_43 P, mo_2_44 P, mo_2_45 P, mo_2_46 P, mo_2_47 P, mo_2_48 P, mo_2_49 P, mo_2_50 P, mo_2_51 P, mo_2_52 P, mo_2_53 P, mo_2_54 P, mo_2_55 P, mo_2_56 P, mo_2_57 P, mo_2_58 P, mo_2_59 P, mo_2_60 P, mo_2_61 P, mo_2_62 P, mo_2_63 P, mo_2_64 P, mo_2_65 P, mo_2_66 P, mo_2_67 P, mo_2_68 P, mo_2_69 P, mo_2_70 P, mo_2_71 P, mo_2_72 P, mo_2_73 P, mo_2_74 P, mo_2_75 P, mo_2_76 P, mo_2_77 P, mo_2_78 P, mo_2_79 P, mo_2_80 P, mo_2_81 P, mo_2_82 P, mo_2_83 P, mo_2_84 P, mo_2_85 P, mo_2_86 P, mo_3_87 P, mo_3_88 P, mo_3_89 P, mo_3_90 P, mo_3_91 P, mo_3_92 P, mo_3_93 P, mo_3_94 P, mo_3_95 P, mo_3_96 P, mo_3_97 P, mo_3_98 P, mo_3_99 P, mo_3_100 P, mo_3_101 P, mo_3_102 P, mo_3_103 P, mo_3_104 P, mo_3_105 P, mo_3_106 P, mo_3_107 P, mo_3_108 P, mo_3_109 P, mo_3_110 P, mo_3_111 P, mo_3_112 P, mo_3_113 P, mo_3_114 P, mo_3_115 P, mo_3_116 P, mo_3_117 P, mo_3_118 P, mo_3_119 P, mo_3_120 P, mo_3_121 P, mo_3_122 P, mo_3_123 P, mo_3_124 P, mo_3_125 P, mo_3_126 P, mo_3_127 P, mo_3_128 P, mo_3_129 P, mo_3_130 P, mo_3_131 P, mo_3_132 P, mo_3_133 P, mo_3_134 P, mo_3_135 P, mo_3_136 P, mo_3_137 P, mo_3_138 P, mo_3_139 P, mo_3_140 P, mo_3_141 P, mo_3_142 P, mo_3_143 P, mo_3_144 P, mo_3_145 P, mo_3_146 P, mo_3_147 P, mo_3_148 P, mo_3_149 P, mo_3_150 P, mo_3_151 P, mo_3_152 P, mo_3_153 P, mo_3_154 P, mo_3_155 P, mo_3_156 P, mo_3_157 P, mo_3_158 P, mo_3_159 P, mo_3_160 P, mo_3_161 P, mo_3_162 P, mo_3_163 P, mo_4_164 P, mo_4_165 P, mo_4_166 P, mo_4_167 P, mo_4_168 P, mo_4_169 P, mo_4_170 P, mo_4_171 P, mo_4_172 P, mo_4_173 P, mo_4_174 P, mo_4_175 P, mo_4_176 P, mo_4_177 P, mo_4_178 P, mo_4_179 P, mo_4_180 P, mo_4_181 P, mo_4_182 P, mo_4_183 P, mo_4_184 P, mo_4_185 P, mo_4_186 P, mo_4_187 P, mo_4_188 P, mo_4_189 P, mo_4_190 P, mo_4_191 P, mo_4_192 P, mo_4_193 P, mo_4_194 P, mo_4_195 P, mo_4_196 P, mo_4_197 P, mo_4_198 P, mo_4_199 P, mo_4_200 P, mo_4_201 P, mo_4_202 P, mo_4_203 P, mo_4_204 P, mo_4_205 P, mo_4_206 P, mo_4_207 P, mo_4_208 P, mo_4_209 P, mo_4_210 P, mo_4_211 P, mo_4_212 P, mo_4_213 P, mo_4_214 P, mo_4_215 P, mo_4_216 P, mo_4_217 P, mo_4_218 P, mo_4_219 P, mo_4_220 P, mo_4_221 P, mo_4_222 P, mo_4_223 P, mo_4_224 P, mo_4_225 P, mo_4_226 P, mo_4_227 P, mo_4_228 P, mo_4_229 P, mo_4_230 P, mo_4_231 P, mo_4_232 P, mo_4_233 P, mo_5_234 P, mo_5_235 P, mo_5_236 P, mo_5_237 P, mo_5_238 P, mo_5_239 P, mo_5_240 P, mo_5_241 P, mo_5_242 P, mo_5_243 P, mo_5_244 P, mo_5_245 P, mo_5_246 P, mo_5_247 P, mo_5_248 P, mo_5_249 P, mo_5_250 P, mo_5_251 P, mo_5_252 P, mo_5_253 P, mo_5_254 P, mo_5_255 P, mo_5_256 P, mo_5_257 P, mo_5_258 P, mo_5_259 P, mo_5_260 P, mo_5_261 P, mo_5_262 P, mo_5_263 P, mo_5_264 P, mo_5_265 P, mo_5_266 P, mo_5_267 P, mo_5_268 P, mo_5_269 P, mo_5_270 P, mo_5_271 P, mo_5_272 P, mo_5_273 P, mo_5_274 P, mo_5_275 P, mo_5_276 P, mo_5_277 P, mo_5_278 P, mo_5_279 P, mo_5_280 P, mo_5_281 P, mo_5_282 P, mo_5_283 P, mo_5_284 P, mo_5_285 P, mo_5_286 P, mo_5_287 P, mo_5_288 P, mo_5_289 P, mo_5_290 P, mo_5_291 P, mo_5_292 P, mo_5_293 P, mo_5_294 P, mo_5_295 P, mo_5_296 P, mo_5_297 P]) (PySem.Life.mk [] [] [] 0 [] [] Bool.false #[] [] 0 Bool.false Bool.false Bool.false 0 [2000, 10, 10] Bool.false 0 Bool.true [] [] 0 Bool.false)
noncomputable def ms_5 (w : PySem.World) (os : PySem.OsState) : PySem.Shared := ⟨mh_5 w.params, Array.mk [], PySem.Drawn.mk 0 0 0 0, 656, os⟩
noncomputable def mh_Z (P : PySem.Params) : PySem.Heap := PySem.Heap.mk (Array.mk [PySem.W.boot_o_0 P, PySem.W.boot_o_1 P, mo_1_2 P, mo_5_3 P, PySem.W.boot_o_4 P, PySem.W.boot_o_5 P, PySem.W.boot_o_6 P, PySem.W.boot_o_7 P, PySem.W.boot_o_8 P, PySem.W.boot_o_9 P, PySem.W.boot_o_10 P, mo_A_11 P, mo_5_12 P, mo_A_13 P, mo_A_14 P, mo_1_15 P, mo_1_16 P, mo_1_17 P, mo_1_18 P, mo_1_19 P, mo_1_20 P, mo_1_21 P, mo_1_22 P, mo_1_23 P, mo_2_24 P, mo_1_25 P, mo_1_26 P, mo_1_27 P, mo_1_28 P, mo_1_29 P, mo_1_30 P, mo_1_31 P, mo_1_32 P, mo_1_33 P, mo_1_34 P, mo_1_35 P, mo_1_36 P, mo_1_37 P, mo_1_38 P, mo_1_39 P, mo_2_40 P, mo_2_41 P, mo_2_42 P, mo_2_43 P, mo_2_44 P, mo_2_45 P, mo_2_46 P, mo_2_47 P, mo_2_48 P, mo_2_49 P, mo_2_50 P, mo_2_51 P, mo_2_52 P, mo_2_53 P, mo_2_54 P, mo_2_55 P, mo_2_56 P, mo_2_57 P, mo_2_58 P, mo_2_59 P, mo_2_60 P, mo_2_61 P, mo_2_62 P, mo_2_63 P, mo_2_64 P, mo_2_65 P, mo_2_66 P, mo_2_67 P, mo_2_68 P, mo_2_69 P, mo_2_70 P, mo_2_71 P, mo_2_72 P, mo_2_73 P, mo_2_74 P, mo_2_75 P, mo_2_76 P, mo_2_77 P, mo_2_78 P, mo_2_79 P, mo_2_80 P, mo_2_81 P, mo_2_82 P, mo_2_83 P, mo_2_84 P, mo_2_85 P, mo_2_86 P, mo_3_87 P, mo_3_88 P, mo_3_89 P, mo_3_90 P, mo_3_91 P, mo_3_92 P, mo_3_93 P, mo_3_94 P, mo_3_95 P, mo_3_96 P, mo_3_97 P, mo_3_98 P, mo_3_99 P, mo_3_100 P, mo_3_101 P, mo_3_102 P, mo_3_103 P, mo_3_104 P, mo_3_105 P, mo_3_106 P, mo_3_107 P, mo_3_108 P, mo_3_109 P, mo_3_110 P, mo_3_111 P, mo_3_112 P, mo_3_113 P, mo_3_114 P, mo_3_115 P, mo_3_116 P, mo_3_117 P, mo_3_118 P, mo_3_119 P, mo_3_120 P, mo_3_121 P, mo_3_122 P, mo_3_123 P, mo_3_124 P, mo_3_125 P, mo_3_126 P, mo_3_127 P, mo_3_128 P, mo_3_129 P, mo_3_130 P, mo_3_131 P, mo_3_132 P, mo_3_133 P, mo_3_134 P, mo_3_135 P, mo_3_136 P, mo_3_137 P, mo_3_138 P, mo_3_139 P, mo_3_140 P, mo_3_141 P, mo_3_142 P, mo_3_143 P, mo_3_144 P, mo_3_145 P, mo_3_146 P, mo_3_147 P, mo_3_148 P, mo_3_149 P, mo_3_150 P, mo_3_151 P, mo_3_152 P, mo_3_153 P, mo_3_154 P, mo_3_155 P, mo_3_156 P, mo_3_157 P, mo_3_158 P, mo_3_159 P, mo_3_160 P, mo_3_161 P, mo_3_162 P, mo_3_163 P, mo_4_164 P, mo_4_165 P, mo_4_166 P, mo_4_167 P, mo_4_168 P, mo_4_169 P, mo_4_170 P, mo_4_171 P, mo_4_172 P, mo_4_173 P, mo_4_174 P, mo_4_175 P, mo_4_176 P, mo_4_177 P, mo_4_178 P, mo_4_179 P, mo_4_180 P, mo_4_181 P, mo_4_182 P, mo_4_183 P, mo_4_184 P, mo_4_185 P, mo_4_186 P, mo_4_187 P, mo_4_188 P, mo_4_189 P, mo_4_190 P, mo_4_191 P, mo_4_192 P, mo_4_193 P, mo_4_194 P, mo_4_195 P, mo_4_196 P, mo_4_197 P, mo_4_198 P, mo_4_199 P, mo_4_200 P, mo_4_201 P, mo_4_202 P, mo_4_203 P, mo_4_204 P, mo_4_205 P, mo_4_206 P, mo_4_207 P, mo_4_208 P, mo_4_209 P, mo_4_210 P, mo_4_211 P, mo_4_212 P, mo_4_213 P, mo_4_214 P, mo_4_215 P, mo_4_216 P, mo_4_217 P, mo_4_218 P, mo_4_219 P, mo_4_220 P, mo_4_221 P, mo_4_222 P, mo_4_223 P, mo_4_224 P, mo_4_225 P, mo_4_226 P, mo_4_227 P, mo_4_228 P, mo_4_229 P, mo_4_230 P, mo_4_231 P, mo_4_232 P, mo_4_233 P, mo_5_234 P, mo_5_235 P, mo_5_236 P, mo_5_237 P, mo_5_238 P, mo_5_239 P, mo_5_240 P, mo_5_241 P, mo_5_242 P, mo_5_243 P, mo_5_244 P, mo_5_245 P, mo_5_246 P, mo_5_247 P, mo_5_248 P, mo_5_249 P, mo_5_250 P, mo_5_251 P, mo_5_252 P, mo_5_253 P, mo_5_254 P, mo_5_255 P, mo_5_256 P, mo_5_257 P, mo_5_258 P, mo_5_259 P, mo_5_260 P, mo_5_261 P, mo_5_262 P, mo_5_263 P, mo_5_264 P, mo_5_265 P, mo_5_266 P, mo_5_267 P, mo_5_268 P, mo_5_269 P, mo_5_270 P, mo_5_271 P, mo_5_272 P, mo_5_273 P, mo_5_274 P, mo_5_275 P, mo_5_276 P, mo_5_277 P, mo_5_278 P, mo_5_279 P, mo_5_280 P, mo_5_281 P, mo_5_282 P, mo_5_283 P, mo_5_284 P, mo_5_285 P, mo_5_286 P, mo_5_287 P, mo_5_288 P, mo_5_289 P, mo_5_290 P, mo_5_291 P, mo_5_292 P, mo_5_293 P, mo_5_294 P, mo_5_295 P, mo_5_296 P, mo_5_297 P]) (PySem.Life.mk [] [] [] 0 [] [] Bool.false #[] [] 0 Bool.false Bool.false Bool.false 0 [2000, 10, 10] Bool.false 0 Bool.true [] [] 0 Bool.false)
noncomputable def ms_Z (w : PySem.World) (os : PySem.OsState) : PySem.Shared := ⟨mh_Z w.params, Array.mk [], PySem.Drawn.mk 0 0 0 0, 656, os⟩
def envT : PySem.Env := { scope := PySem.Challenge.pw_xm0392_01.main.scope, locals := mainNs, globals := mainNs, cells := [], code := PySem.Value.ref 13, frame := some 14 }
def cT : PySem.Code := .body (behindTheImports PySem.Challenge.pw_xm0392_01) envT
def annT : Option PySem.Value := Option.some (PySem.Value.ref 6)
def m0T : Nat := 11
def posQ : PySem.Pos := PySem.Pos.mk 0 0 0 0
def posA : PySem.Pos := PySem.Pos.mk 0 0 0 0
def posB : PySem.Pos := PySem.Pos.mk 0 0 0 0
def pos1 : PySem.Pos := PySem.Pos.mk 4 0 5 8
def sts1 : List PySem.Stmt := ([0, 1, 2] : List Nat).map stAt
def pos2 : PySem.Pos := PySem.Pos.mk 43 0 51 24
def sts2 : List PySem.Stmt := ([3, 4, 5, 6, 7, 8] : List Nat).map stAt
def pos3 : PySem.Pos := PySem.Pos.mk 126 0 131 56
def sts3 : List PySem.Stmt := ([9, 10, 11, 12, 13, 14, 15, 16, 17, 18, 19, 20] : List Nat).map stAt
def pos4 : PySem.Pos := PySem.Pos.mk 222 0 223 43
def sts4 : List PySem.Stmt := ([21, 22, 23, 24, 25, 26, 27, 28, 29, 30, 31, 32] : List Nat).map stAt
def pos5 : PySem.Pos := PySem.Pos.mk 269 0 276 15
def sts5 : List PySem.Stmt := ([33, 34, 35, 36, 37, 38, 39, 40, 41, 42, 43] : List Nat).map stAt
theorem left_open : ∀ w : World, (fencedOpening treeTable PySem.Challenge.pw_xm0392_01 w 3846).map (fun s => (s.heap, s.gens, s.drawn, s.toks)) = some (boot_heap w.params, Array.mk [], boot_drawn, boot_toks) :=
  boot_open (p := PySem.Challenge.pw_xm0392_01) (N := 3846) (by kernel_rfl) (by kernel_rfl) (fun s => by kernel_rfl)
theorem left_pre (w : World) (os : OsState) : topGo treeTable PySem.Challenge.pw_xm0392_01 w m0T annT 12 ⟨boot_heap w.params, Array.mk [], boot_drawn, boot_toks, os⟩ (topStub PySem.Challenge.pw_xm0392_01) = some (ms_A w os, ⟨denote treeTable cT, cT, posA, [topFrame posQ]⟩) := by kernel_rfl
theorem left_block (w : World) (os : OsState) : segRun treeTable PySem.Challenge.pw_xm0392_01 w m0T annT 1 1 (ms_A w os) (blockOf (behindTheImports PySem.Challenge.pw_xm0392_01) envT cT posA [topFrame posQ]) = some (.next, ms_B w os, cT, posB) := by kernel_rfl
theorem left_1 (w : World) (os : OsState) : segRun treeTable PySem.Challenge.pw_xm0392_01 w m0T annT 1 419 (ms_B w os) (piecesOf sts1 envT cT posB [topFrame posQ]) = some (.next, ms_1 w os, cT, pos1) := by kernel_rfl
theorem left_2 (w : World) (os : OsState) : segRun treeTable PySem.Challenge.pw_xm0392_01 w m0T annT 1 378 (ms_1 w os) (piecesOf sts2 envT cT pos1 [topFrame posQ]) = some (.next, ms_2 w os, cT, pos2) := by kernel_rfl
theorem left_3 (w : World) (os : OsState) : segRun treeTable PySem.Challenge.pw_xm0392_01 w m0T annT 1 373 (ms_2 w os) (piecesOf sts3 envT cT pos2 [topFrame posQ]) = some (.next, ms_3 w os, cT, pos3) := by kernel_rfl
theorem left_4 (w : World) (os : OsState) : segRun treeTable PySem.Challenge.pw_xm0392_01 w m0T annT 1 381 (ms_3 w os) (piecesOf sts4 envT cT pos3 [topFrame posQ]) = some (.next, ms_4 w os, cT, pos4) := by kernel_rfl
theorem left_5 (w : World) (os : OsState) : segRun treeTable PySem.Challenge.pw_xm0392_01 w m0T annT 1 314 (ms_4 w os) (piecesOf sts5 envT cT pos4 [topFrame posQ]) = some (.next, ms_5 w os, cT, pos5) := by kernel_rfl
theorem left_fin (w : World) (os : OsState) : topRun treeTable PySem.Challenge.pw_xm0392_01 w m0T annT 2 (ms_5 w os) ⟨doneF .next, cT, pos5, [topFrame posQ]⟩ = some (ms_Z w os) := by kernel_rfl
theorem left_body : behindTheImports PySem.Challenge.pw_xm0392_01 = sts1 ++ (sts2 ++ (sts3 ++ (sts4 ++ (sts5 ++ [])))) := by kernel_rfl
theorem left_run (w : World) (os : OsState) : topRun treeTable PySem.Challenge.pw_xm0392_01 w m0T annT (12 + (1 + (419 + (378 + (373 + (381 + (314 + 2))))))) ⟨boot_heap w.params, Array.mk [], boot_drawn, boot_toks, os⟩ (topStub PySem.Challenge.pw_xm0392_01) = some (ms_Z w os) := by
  refine go_top (left_pre w os) (piece_block (left_block w os) ?_)
  rw [left_body]
  exact piece_app (left_1 w os) (piece_app (left_2 w os) (piece_app (left_3 w os) (piece_app (left_4 w os) (piece_app (left_5 w os) (piece_nil (left_fin w os))))))
end Mine

namespace Mine
open PySem PySem.W PySem.Calls PyProof.Rows
def viewP : Program := { PySem.Challenge.pw_xm0392_01 with main := { PySem.Challenge.pw_xm0392_01.main with body := ([1, 2, 3, 4, 5, 6, 7, 8, 9, 10, 11, 12, 13, 14, 15, 16, 18, 19, 20, 21, 22, 24, 25, 26, 27, 28, 29, 30, 32, 33, 34, 35, 36, 38, 39, 40, 41, 42, 43] : List Nat).map stAt } }
def posAt (j : Nat) : Pos := match stAt j with
  | .FunctionDef _ _ _ _ _ _ _ _ _ p => p
  | _ => default
theorem recs_ok : recsOf viewP = places.map fun j => ⟨nameAt j, argsAt j, bodyAt j, scopeAt j, posAt j⟩ := by kernel_rfl
theorem free_ok : ∀ x ∈ builts, x ∉ startupNames ∧ x ∉ looseW viewP [] ∧ x ∉ (recsOf viewP).map (·.name) ∧ x ∉ (litsOf viewP).map (·.1) ∧ x ∉ (clssOf viewP (looseW viewP [])).map (·.name) := by decide +kernel
theorem names_free {mean : ExcName → Option Value} {mg mb : Str → Option Value} {h : Heap} (T : Top viewP (looseW viewP []) mean mg mb h) : ∀ x ∈ builts, mg x = none := fun x hx => by
  obtain ⟨h1, h2, h3, h4, h5⟩ := free_ok x hx
  exact T.free x h1 h2 h3 h4 h5
theorem defs_ok {mean : ExcName → Option Value} {mg mb : Str → Option Value} {h : Heap} (T : Top viewP (looseW viewP []) mean mg mb h) : DefsOk mg h := fun j hj => by
  obtain ⟨a, o, pm, code, doc, h1, h2, h3, h4⟩ := T.fn ⟨nameAt j, argsAt j, bodyAt j, scopeAt j, posAt j⟩ (by rw [recs_ok]; exact List.mem_map_of_mem (f := fun j => (⟨nameAt j, argsAt j, bodyAt j, scopeAt j, posAt j⟩ : DefRec)) hj)
  exact ⟨a, o, pm, code, doc, h1, h2, h3, h4⟩
theorem ints_length {items : List Value} {ns : List Int} (h : IntsAre items ns) : items.length = ns.length := by
  induction h with
  | nil => rfl
  | cons _ _ _ ih => rw [List.length_cons, List.length_cons, ih]
theorem good_end {c : ClaimW} {cl : Str → Option Addr} {mean : ExcName → Option Value} {args : List WData} {s₁ : Shared} {h : Heap} {t : Tok} (hr : ∀ cls, c.raises args cls = false) (hp : c.post args (.bool true) args = true) (hg : s₁.gens = #[]) (hk : ∀ b o, s₁.heap.get? b = some o → h.get? b = some o) :
    GoodWG c cl mean args s₁ (.ok (.ret (.bool true))) { s₁ with heap := h, toks := t } :=
  ⟨.inl ⟨_, _, [], rfl, hr, ReadsW.bool true, hp, fun _ => ⟨List.nodup_nil, fun _ hm => (nomatch hm)⟩⟩, .of_keep hk, rfl, by show AllBare s₁.gens; rw [hg]; exact AllBare.empty⟩
abbrev seenP (s : Shared) : Bool := xlAt viewP [] s && recOk (RowW.records (OpenRow.toRowW PySem.Challenge.rw_xm0392_01.row)) s
theorem left_size (w : World) : ((boot_heap w.params).isNs mainGlobals && (Array.mk [] : Array GenState).size == 0, (boot_heap w.params).objs.size, (boot_heap w.params).nsMap mainGlobals "__annotations__") = (true, m0T, annT) := by kernel_rfl
theorem left_looks (w : World) : (fun os => ((staticsOk (importedModules PySem.Challenge.pw_xm0392_01.main.body) (boot_heap w.params) (mh_Z w.params) && namesBound PySem.Challenge.pw_xm0392_01 (mh_Z w.params) && gensDone (ms_Z w os) && laidKept (boot_heap w.params) (mh_Z w.params)),
    openSeen viewP [] (importedModules PySem.Challenge.pw_xm0392_01.main.body) seenP true (ms_Z w os), Hook.none.obs (ms_Z w os))) = fun _ => (true, openGood viewP [], Hook.none.val w) := by kernel_rfl
theorem left_ok : LeftO PySem.Challenge.rw_xm0392_01.row.prog viewP [] seenP (Hook.obs Hook.none) (Hook.val Hook.none) 3846 :=
  LeftO.of_pieces (p := PySem.Challenge.pw_xm0392_01) (H₀ := boot_heap) (H₁ := mh_Z) (gs₀ := Array.mk []) (gs₁ := Array.mk []) (d₀ := boot_drawn) (d₁ := PySem.Drawn.mk 0 0 0 0) (k₀ := boot_toks) (k₁ := 656) (m₀ := m0T) (ann := annT) left_open left_size left_run (by kernel_rfl) left_looks
end Mine
open PySem PySem.W PyProof.Rows
set_option maxRecDepth 100000 in
set_option maxHeartbeats 0 in
theorem PySem.Challenge.cw_xm0392_01_holds : PySem.Challenge.rw_xm0392_01.Holds := by
  w_on; o_law
  refine holds_open (r := PySem.Challenge.rw_xm0392_01.row) (q := Mine.viewP) (loose := []) (Xt := Mine.seenP) (XP := XL Mine.viewP []) (Yf := Hook.obs Hook.none) (Ya := Hook.val Hook.none) (YP := Hook.says Hook.none) (N := 3846) Mine.left_ok (Hook.of Hook.none) (Hook.keeps Hook.none) (fun s e => xl_of s (Bool.and_eq_true_iff.mp e).1) XL.keeps (by rfl) (by rfl) (by rfl) (fun s e => recFacts_of (Bool.and_eq_true_iff.mp e).2) (by rfl) (by assumption) (by decide +kernel) ⟨rfl, rfl, rfl, rfl, rfl, by decide +kernel⟩ ?hw ?hc
  case hw => w_witness2
  intro w s₀ s₁ mg mb G Y fa o pm cd doc dV kV ho hd hcd hD hmg hg args vals as hpre hlay hrd hwl hlo
  refine Ground.open G ?_
  intro T B D TE TW
  wrow_args hpre hlay hrd hwl hlo
  refine wpAny_mono (Mine.law_ends T.g T.b T.nolimit T.builtins (Mine.names_free T) (Mine.defs_ok T) hmg (by assumption) (by assumption) ?len (fun h' tk hk => Mine.good_end ?hr ?hp hg hk)) (fun _ _ q => q) fun _ _ z => z.elim
  case len =>
    have := Mine.ints_length ‹IntsAre _ _›
    omega
  case hr => intro cls; rfl
  case hp => kernel_rfl

