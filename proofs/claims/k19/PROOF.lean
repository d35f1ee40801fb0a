import PyProof.Rows.All
import PySem.PyData
import PyProof.EqLayable
import Wide.All
import OpenK.AllK
import Wide.FinOn
import HandS.Dict
import HandS.Conv
import HandS.Walk
import HandS.Lambda
import HandS.Words
import HandS.ForMost
import HandS.ForExc
import HandS.Deep
import HandS.IsInst
import HandS.ExcInit
import KE.GoesNew
import HandS.ClsMeth
import HandS.TupAny
import HandS.SortInts
import HandS.Style
import KE.KIndexOf
import HandS.SetFor
import HandS.Strs
import HandS.ExcField
import HandS.TryOnly
import PyProof.ReprReads
import HandS.Call
import HandS.ExcOwn
import HandS.DictComp
import HandS.More
import HandS.OwnEq
import PyProof.InstEq
import HandS.EndBits
import KE.DataMinKey
import KE.SortData
import HandS.Iter
import HandS.ExcIs
import HandS.ExcValue
import HandS.ExcBuiltin
import KE.KExcIs
import PyProof.StrLaws
import PyProof.ReprLoop
import PySem.Challenge.RW_reslot_k19_exceptions
set_option Elab.async false
section
set_option linter.all false
/-! The mirror: values, results, and the combinators that a def's mirror is made of. -/
namespace Mi
open PySem
noncomputable section

inductive D where
  | non | bl (b : Bool) | int (i : Int) | str (x : Str)
  | lst (xs : List D) | tup (xs : List D) | dic (kvs : List (D × D)) | dit (kvs : List (D × D)) | obj (c : Str) (fs : List (Str × D)) | exn (c f : Str) (x : D)

mutual
/-- as plain data; what is none stands as a dict (no rule of == takes a dict) -/
def D.py : D → PyData
  | .non => .none | .bl b => .bool b | .int i => .int i | .str x => .str x
  | .lst xs => .list (D.pys xs) | .tup xs => .tuple (D.pys xs) | .dic _ => .dict [] | .dit _ => .dict [] | .obj _ _ => .dict [] | .exn _ _ _ => .dict []
def D.pys : List D → List PyData
  | [] => []
  | x :: xs => x.py :: D.pys xs
end
abbrev Env := List (Option D)
inductive Res (α : Type) where
  | ok (a : α) (δ : Env) | exc (c : Str) (d : D) (δ : Env) | bad
def Res.bind {α β : Type} (x : Res α) (f : α → Env → Res β) : Res β := match x with
  | .ok a δ => f a δ
  | .exc c d δ => .exc c d δ
  | .bad => .bad
@[simp] theorem Res.bind_ok {α β : Type} (a : α) (δ : Env) (f : α → Env → Res β) : (Res.ok a δ).bind f = f a δ := rfl
@[simp] theorem Res.bind_exc {α β : Type} (c : Str) (d : D) (δ : Env) (f : α → Env → Res β) : (Res.exc c d δ : Res α).bind f = .exc c d δ := rfl
@[simp] theorem Res.bind_bad {α β : Type} (f : α → Env → Res β) : (Res.bad : Res α).bind f = .bad := rfl
def Res.opt {α : Type} (o : Option α) (δ : Env) : Res α := match o with
  | some a => .ok a δ
  | none => .bad
@[simp] theorem Res.opt_some {α : Type} (a : α) (δ : Env) : Res.opt (some a) δ = .ok a δ := rfl
@[simp] theorem Res.opt_none {α : Type} (δ : Env) : Res.opt (none : Option α) δ = .bad := rfl
abbrev Ex := Env → Res D
abbrev ItE := Env → Res (List D)
/-- a def's result: what it returns and what its own lists hold then; an exception; none told -/
inductive Fr where
  | ok (d : D) (outs : List D) | exc (c : Str) (d : D) | bad
/-- a statement's end -/
inductive Out where
  | nx (δ : Env) | rt (d : D) (δ : Env) | bk (δ : Env) | ct (δ : Env) | exc (c : Str) (d : D) (δ : Env) | bad
abbrev Sm := Env → Out
def Res.out {α : Type} (x : Res α) (f : α → Env → Out) : Out := match x with
  | .ok a δ => f a δ
  | .exc c d δ => .exc c d δ
  | .bad => .bad
@[simp] theorem Res.out_ok {α : Type} (a : α) (δ : Env) (f : α → Env → Out) : (Res.ok a δ).out f = f a δ := rfl
@[simp] theorem Res.out_exc {α : Type} (c : Str) (d : D) (δ : Env) (f : α → Env → Out) : (Res.exc c d δ : Res α).out f = .exc c d δ := rfl
@[simp] theorem Res.out_bad {α : Type} (f : α → Env → Out) : (Res.bad : Res α).out f = .bad := rfl

/-! ### expressions -/
def eV (i : Nat) : Ex := fun δ => match δ[i]? with
  | some (some d) => .ok d δ
  | _ => .bad
def eC (d : D) : Ex := fun δ => .ok d δ
def e1 (op : D → Option D) (a : Ex) : Ex := fun δ => (a δ).bind fun x δ1 => Res.opt (op x) δ1
def e2 (op : D → D → Option D) (a b : Ex) : Ex := fun δ => (a δ).bind fun x δ1 => (b δ1).bind fun y δ2 => Res.opt (op x y) δ2
/-- the left side is the def's own list (or dict) in slot i -/
def eO2 (op : D → D → Option D) (i : Nat) (b : Ex) : Ex := fun δ => (b δ).bind fun y δ1 => (eV i δ1).bind fun x δ2 => Res.opt (op x y) δ2
/-- a part that may be left out, else an int -/
def eP (l : Option Ex) : Env → Res (Option Int) := fun δ => match l with
  | none => .ok none δ
  | some f => (f δ).bind fun y δ1 => match y with
    | .int i => .ok (some i) δ1
    | _ => .bad
def e3 (op : D → Option Int → Option Int → Option D) (a : Ex) (l h : Option Ex) : Ex := fun δ => (a δ).bind fun x δ1 => (eP l δ1).bind fun y δ2 => (eP h δ2).bind fun z δ3 => Res.opt (op x y z) δ3
def eO3 (op : D → Option Int → Option Int → Option D) (i : Nat) (l h : Option Ex) : Ex := fun δ => (eP l δ).bind fun y δ1 => (eP h δ1).bind fun z δ2 => (eV i δ2).bind fun x δ3 => Res.opt (op x y z) δ3
def truth (d : D) : Option Bool := match d with
  | .bl b => some b
  | _ => none
def eT (a : Ex) (f : Bool → Env → Res D) : Ex := fun δ => (a δ).bind fun x δ1 => (Res.opt (truth x) δ1).bind f
def eAnd (a b : Ex) : Ex := eT a fun c δ => if c = true then b δ else .ok (.bl false) δ
def eOr (a b : Ex) : Ex := eT a fun c δ => if c = true then .ok (.bl true) δ else b δ
def eNot (a : Ex) : Ex := eT a fun c δ => .ok (.bl (!c)) δ
def eIf (c a b : Ex) : Ex := eT c fun k δ => if k = true then a δ else b δ
def eL : List Ex → ItE
  | [] => fun δ => .ok [] δ
  | a :: r => fun δ => (a δ).bind fun x δ1 => (eL r δ1).bind fun xs δ2 => .ok (x :: xs) δ2
def eTup (as : List Ex) : Ex := fun δ => (eL as δ).bind fun xs δ1 => .ok (.tup xs) δ1
def eLst (as : List Ex) : Ex := fun δ => (eL as δ).bind fun xs δ1 => .ok (.lst xs) δ1
/-- a < b < c -/
def eCh (o1 o2 : D → D → Option D) (a b c : Ex) : Ex := fun δ => (a δ).bind fun x δ1 => (b δ1).bind fun y δ2 => (Res.opt ((o1 x y).bind truth) δ2).bind fun k δ2 =>
  if k = true then (c δ2).bind fun z δ3 => Res.opt (o2 y z) δ3 else .ok (.bl false) δ2
/-- a call whose arguments are values -/
def eCall (f : List D → Fr) (as : List Ex) : Ex := fun δ => (eL as δ).bind fun ds δ1 => match f ds with
  | .ok d _ => .ok d δ1
  | .exc c d => .exc c d δ1
  | .bad => .bad
/-- .. whose first argument is the def's own list in slot i, which the callee changes -/
def eCallO (f : List D → Fr) (i : Nat) (as : List Ex) : Ex := fun δ => (eL as δ).bind fun ds δ1 => (eV i δ1).bind fun w δ2 => match f (w :: ds) with
  | .ok d [w'] => .ok d (δ2.set i (some w'))
  | _ => .bad
/-- .. whose second argument is it -/
def eCallP (f : List D → Fr) (a : Ex) (i : Nat) (as : List Ex) : Ex := fun δ => (a δ).bind fun x δ0 => (eL as δ0).bind fun ds δ1 => (eV i δ1).bind fun w δ2 => match f (x :: w :: ds) with
  | .ok d [w'] => .ok d (δ2.set i (some w'))
  | _ => .bad

/-- .. whose first argument is a new list, forgotten behind the call -/
def eCallN (f : List D → Fr) (a : Ex) (as : List Ex) : Ex := fun δ => (a δ).bind fun w δ0 => (eL as δ0).bind fun ds δ1 => match f (w :: ds) with
  | .ok d [_] => .ok d δ1
  | .exc c d => .exc c d δ1
  | _ => .bad
/-- x.f of an object -/
def fldD (c f : Str) (x : D) : Option D := match x with
  | .obj c' fs => if c' = c then fs.lookup f else none
  | _ => none
/-! ### targets and comprehensions -/
/-- one name, or names of a tuple's items -/
inductive Tg where
  | n (i : Nat) | t (is : List Nat)
def setN : List Nat → List D → Env → Option Env
  | [], [], δ => some δ
  | i :: is, d :: ds, δ => setN is ds (δ.set i (some d))
  | _, _, _ => none
def Tg.put (t : Tg) (d : D) (δ : Env) : Option Env := match t with
  | .n i => some (δ.set i (some d))
  | .t is => match d with
    | .tup ds => setN is ds δ
    | _ => none
def wipeE (δ : Env) : List Nat → Env
  | [] => δ
  | v :: vs => (wipeE δ vs).set v none
/-- what no one unfolds; the most items that a list is asked to have -/
def hide {α : Type} (x : α) : α := Classical.choose (⟨x, rfl⟩ : ∃ y, y = x)
theorem hide_eq {α : Type} (x : α) : hide x = x := Classical.choose_spec (⟨x, rfl⟩ : ∃ y, y = x)
def cap : Nat := hide 16000000
theorem cap_eq : cap = 16000000 := hide_eq _
theorem cap_of {n : Nat} (h : n ≤ 1000000) : n ≤ cap := by rw [cap_eq]; omega
theorem cap_lt {n : Nat} (h : n ≤ 1000000) : n < cap := by rw [cap_eq]; omega
/-- the slots at vs as they were in δ0 -/
def restE (δ0 : Env) : List Nat → Env → Env
  | [], δ => δ
  | v :: vs, δ => (restE δ0 vs δ).set v ((δ0[v]?).getD none)
def tstC (c : Option Ex) : Ex := fun δ => match c with
  | none => .ok (.bl true) δ
  | some c => c δ
/-- the turns of a comprehension: no turn raises -/
def lcL (t : Tg) (own : List Nat) (c : Option Ex) (e : Ex) : List D → ItE
  | [] => fun δ => .ok [] δ
  | d :: ds => fun δ => match t.put d (wipeE δ own) with
    | none => .bad
    | some δ1 => match tstC c δ1 with
      | .ok (.bl true) δ2 => (match e δ2 with
        | .ok x δ3 => (lcL t own c e ds δ3).bind fun xs δ4 => .ok (x :: xs) δ4
        | _ => .bad)
      | .ok (.bl false) δ2 => lcL t own c e ds δ2
      | _ => .bad
def eLc (it : ItE) (t : Tg) (own : List Nat) (c : Option Ex) (e : Ex) : Ex := fun δ => (it δ).bind fun ds δ1 => if ds.length ≤ cap then
    (match lcL t own c e ds δ1 with
    | .ok xs δ2 => .ok (.lst xs) (restE δ1 own δ2)
    | _ => .bad)
  else .bad

/-! ### what is walked -/
def seqOf (d : D) : Option (List D) := match d with
  | .lst xs => some xs
  | .tup xs => some xs
  | _ => none
def iSeq (a : Ex) : ItE := fun δ => (a δ).bind fun x δ1 => Res.opt (seqOf x) δ1
def b62 : Int := hide (2 ^ 62)
theorem b62_eq : b62 = 2 ^ 62 := hide_eq _
/-- a number that a range may have -/
def smInt (d : D) : Option Int := match d with
  | .int i => if -b62 ≤ i ∧ i < b62 then some i else none
  | _ => none
theorem smInt_of {d : D} {i : Int} (h : smInt d = some i) : d = .int i ∧ -(2 ^ 62) ≤ i ∧ i < 2 ^ 62 := by
  unfold smInt at h
  split at h
  · split at h
    · cases h
      rename_i h2
      rw [b62_eq] at h2
      exact ⟨rfl, h2⟩
    · cases h
  · cases h
theorem smInt_iff {i : Int} (h : -(2 ^ 62) ≤ i ∧ i < 2 ^ 62) : smInt (.int i) = some i := by
  rw [← b62_eq] at h
  exact if_pos h
def rng (lo : Int) (n : Nat) : List D := (List.range n).map fun (k : Nat) => D.int (lo + (k : Int))
def iRng (a : Ex) : ItE := fun δ => (a δ).bind fun x δ1 => Res.opt ((smInt x).map fun j => rng 0 j.toNat) δ1
def iRng2 (a b : Ex) : ItE := fun δ => (a δ).bind fun x δ1 => (b δ1).bind fun y δ2 => Res.opt ((smInt x).bind fun i => (smInt y).map fun j => rng i (j - i).toNat) δ2
def enumD (k : Nat) : List D → List D
  | [] => []
  | x :: xs => D.tup [.int k, x] :: enumD (k + 1) xs
def iEnum (a : Ex) : ItE := fun δ => (a δ).bind fun x δ1 => Res.opt ((seqOf x).map (enumD 0)) δ1
def zip2 : List D → List D → List D
  | x :: xs, y :: ys => D.tup [x, y] :: zip2 xs ys
  | _, _ => []
def zip3 : List D → List D → List D → List D
  | x :: xs, y :: ys, z :: zs => D.tup [x, y, z] :: zip3 xs ys zs
  | _, _, _ => []
def iZip (a b : Ex) : ItE := fun δ => (a δ).bind fun x δ1 => (b δ1).bind fun y δ2 => Res.opt ((seqOf x).bind fun xs => (seqOf y).map fun ys => zip2 xs ys) δ2
def iZip3 (a b c : Ex) : ItE := fun δ => (a δ).bind fun x δ1 => (b δ1).bind fun y δ2 => (c δ2).bind fun z δ3 => Res.opt ((seqOf x).bind fun xs => (seqOf y).bind fun ys => (seqOf z).map fun zs => zip3 xs ys zs) δ3

/-! ### statements -/
def sPass : Sm := fun δ => .nx δ
def sSeq (a b : Sm) : Sm := fun δ => match a δ with
  | .nx δ1 => b δ1
  | o => o
def sAsg (t : Tg) (e : Ex) : Sm := fun δ => (e δ).out fun d δ1 => match t.put d δ1 with
  | some δ2 => .nx δ2
  | none => .bad
def sDo (e : Ex) : Sm := fun δ => (e δ).out fun _ δ1 => .nx δ1
def sRet (e : Ex) : Sm := fun δ => (e δ).out fun d δ1 => .rt d δ1
def sRaise (c : Str) (e : Ex) : Sm := fun δ => (e δ).out fun d δ1 => .exc c d δ1
def sIf (c : Ex) (a b : Sm) : Sm := fun δ => (c δ).out fun x δ1 => match x with
  | .bl true => a δ1
  | .bl false => b δ1
  | _ => .bad
def sBk : Sm := fun δ => .bk δ
def sCt : Sm := fun δ => .ct δ
def forL (t : Tg) (b : Sm) : List D → Sm
  | [] => fun δ => .nx δ
  | d :: ds => fun δ => match t.put d δ with
    | none => .bad
    | some δ1 => match b δ1 with
      | .nx δ2 => forL t b ds δ2
      | .ct δ2 => forL t b ds δ2
      | .bk δ2 => .nx δ2
      | o => o
def sFor (it : ItE) (t : Tg) (b : Sm) : Sm := fun δ => (it δ).out fun ds δ1 => forL t b ds δ1
/-- n turns at most -/
def whN (c : Ex) (b : Sm) : Nat → Env → Option Out
  | 0, _ => none
  | n + 1, δ => match c δ with
    | .ok (.bl true) δ1 => (match b δ1 with
      | .nx δ2 => whN c b n δ2
      | .ct δ2 => whN c b n δ2
      | .bk δ2 => some (.nx δ2)
      | o => some o)
    | .ok (.bl false) δ1 => some (.nx δ1)
    | .exc k d δ1 => some (.exc k d δ1)
    | _ => some .bad
open Classical in
def sWhile (c : Ex) (b : Sm) : Sm := fun δ => if h : ∃ n o, whN c b n δ = some o then Classical.choose (Classical.choose_spec h) else .bad
theorem whN_mono (c : Ex) (b : Sm) : ∀ (n : Nat) (δ : Env) (o : Out), whN c b n δ = some o → ∀ k, whN c b (n + k) δ = some o
  | 0, _, _, h, _ => by simp [whN] at h
  | n + 1, δ, o, h, k => by
    rw [Nat.add_right_comm]
    simp only [whN] at h ⊢
    split at h
    · split at h <;> first | exact whN_mono c b n _ o h k | exact h
    · exact h
    · exact h
    · exact h
theorem whN_det {c : Ex} {b : Sm} {n m : Nat} {δ : Env} {o p : Out} (h : whN c b n δ = some o) (h' : whN c b m δ = some p) : o = p := by
  have a := whN_mono c b n δ o h m
  have a' := whN_mono c b m δ p h' n
  rw [Nat.add_comm] at a'
  rw [a] at a'
  exact Option.some.inj a'
theorem sWhile_of {c : Ex} {b : Sm} {n : Nat} {δ : Env} {o : Out} (h : whN c b n δ = some o) : sWhile c b δ = o := by
  have hx : ∃ n o, whN c b n δ = some o := ⟨n, o, h⟩
  unfold sWhile
  rw [dif_pos hx]
  exact whN_det (Classical.choose_spec (Classical.choose_spec hx)) h
theorem sWhile_run {c : Ex} {b : Sm} {δ : Env} (h : sWhile c b δ ≠ .bad) : ∃ n, whN c b n δ = some (sWhile c b δ) := by
  unfold sWhile at h ⊢
  by_cases hx : ∃ n o, whN c b n δ = some o
  · rw [dif_pos hx]
    exact ⟨_, Classical.choose_spec (Classical.choose_spec hx)⟩
  · rw [dif_neg hx] at h
    exact absurd rfl h
/-- slot i holds a list -/
def isL (i : Nat) (δ : Env) : Bool := match δ[i]? with
  | some (some (.lst _)) => true
  | _ => false
/-- x.append(e), x in slot i the def's own -/
def sApp (i : Nat) (e : Ex) : Sm := fun δ => if isL i δ then (e δ).out fun d δ1 => (eV i δ1).out fun x δ2 => match x with
  | .lst xs => if xs.length < cap then .nx (δ2.set i (some (.lst (xs ++ [d])))) else .bad
  | _ => .bad
  else .bad
/-- x.extend(e) -/
def sExt (i : Nat) (e : Ex) : Sm := fun δ => if isL i δ then (e δ).out fun d δ1 => (eV i δ1).out fun x δ2 => match x, d with
  | .lst xs, .lst ys => if xs.length + ys.length ≤ cap then .nx (δ2.set i (some (.lst (xs ++ ys)))) else .bad
  | _, _ => .bad
  else .bad
/-- x.pop() -/
def ePop (i : Nat) : Ex := fun δ => (eV i δ).bind fun x δ1 => match x with
  | .lst xs => (match xs[xs.length - 1]? with
    | some y => .ok y (δ1.set i (some (.lst xs.dropLast)))
    | none => .bad)
  | _ => .bad
/-- the place of an index -/
def ixD (n : Nat) (i : Int) : Option Nat := if 0 ≤ i then (if i < n then some i.toNat else none) else if -(n : Int) ≤ i then some (i + n).toNat else none
/-- x.pop(e) -/
def ePopAt (i : Nat) (e : Ex) : Ex := fun δ => if isL i δ then (e δ).bind fun k δ1 => (eV i δ1).bind fun x δ2 => match x, k with
  | .lst xs, .int j => if xs.length ≤ cap then (match ixD xs.length j with
    | some m => (match xs[m]? with
      | some y => .ok y (δ2.set i (some (.lst (xs.eraseIdx m))))
      | none => .bad)
    | none => .bad) else .bad
  | _, _ => .bad
  else .bad
/-- x[k] = e -/
def sSetI (i : Nat) (k e : Ex) : Sm := fun δ => (e δ).out fun v δ1 => (k δ1).out fun kk δ2 => (eV i δ2).out fun x δ3 => match x, kk with
  | .lst xs, .int j => (match ixD xs.length j with
    | some m => .nx (δ3.set i (some (.lst (xs.set m v))))
    | none => .bad)
  | _, _ => .bad
/-! ### defs -/
def startE (n : Nat) (ds : List D) : Env := ds.map some ++ List.replicate (n - ds.length) none
def outsOf (own : List Nat) (δ : Env) : Option (List D) := match own with
  | [] => some []
  | i :: is => match δ[i]? with
    | some (some d) => (outsOf is δ).map (d :: ·)
    | _ => none
/-- a def with n names, p parameters, those at own its own -/
def fnM (n p : Nat) (own : List Nat) (b : Sm) : List D → Fr := fun ds => if ds.length = p then
    (match b (startE n ds) with
    | .nx δ => (match outsOf own δ with | some o => .ok .non o | none => .bad)
    | .rt d δ => (match outsOf own δ with | some o => .ok d o | none => .bad)
    | .exc c d _ => .exc c d
    | _ => .bad)
  else .bad
end
end Mi

end
section
set_option Elab.async false
set_option linter.all false
set_option maxRecDepth 100000
set_option autoImplicit false
set_option maxHeartbeats 4000000
/-! dicts whose keys are tuples of ints that are known by their own object: the object itself is told -/
namespace Mi
open PySem PySem.Spec PyProof.Rows L2
abbrev KVI := List (List Int × Addr × V)
def entI (x : List Int × Addr × Value) : DictEntry := ⟨reduceHash (Builtin.Tuple.tupleHashOf (x.1.map hashInt)), .ref x.2.1, x.2.2⟩
def KR : KVI → List (List Int × Addr × Value) → Prop := Paired fun p q => p.1 = q.1 ∧ p.2.1 = q.2.1 ∧ RelV p.2.2 q.2.2
def DTF (a : Addr) (o : Obj) (kvs : KVI) : Prop := (a == sysModules) = false ∧ kvs.length ≤ sizeLine ∧ ∃ xs : List (List Int × Addr × Value), KR kvs xs ∧
  ∃ es ep, o.ExactDict ∧ o.data = .dict es ep ∧ es.toList = xs.map entI ∧ (xs.map (·.1)).Nodup
def DTO (a : Addr) (o : Obj) (kvs : KVI) : HO := .ext fun h => h.get? a = some o ∧ DTF a o kvs
theorem entI_eq (P : Program) (w : World) : entI = entryOfKey (tupleKind (PySem.intKind P w)) := rfl
section
variable {P : Program} {w : World} {H : Hp} {h : Heap} {a : Addr} {o : Obj} {kvs : KVI}
theorem dto_ok (e : h.get? a = some o) (f : DTF a o kvs) : ObjOk P w H h a (DTO a o kvs) := ⟨⟨e, f⟩, ⟨o, e⟩, fun _ _ z k => ⟨k _ z.1, z.2⟩⟩
theorem dto_rd (ok : HOk P w H h) (e : Rd H a (DTO a o kvs)) : h.get? a = some o ∧ DTF a o kvs := (show ObjOk P w H h a (DTO a o kvs) from rd_of ok e).1
/-- the value at a key -/
def valI : KVI → List Int → Option V
  | [], _ => none
  | (q, _, v) :: r, k => if q = k then some v else valI r k
def putI (kvs : KVI) (k : List Int) (b : Addr) (v : V) : KVI := if (valI kvs k).isSome = true then kvs.map (fun p => if p.1 = k then (p.1, p.2.1, v) else p) else kvs ++ [(k, b, v)]
theorem KR.val {k : List Int} : ∀ {kvs : KVI} {xs : List (List Int × Addr × Value)}, KR kvs xs → RelO (valI kvs k) ((atKey xs k).map (·.2))
  | _, _, .nil => True.intro
  | _, _, .cons (a := p) (b := q) h t => by
    obtain ⟨h1, _, h2⟩ := h
    obtain ⟨p1, p2, p3⟩ := p
    simp only at h1 h2
    unfold valI
    by_cases e : p1 = k
    · have e' : q.1 = k := h1.symm.trans e
      rw [if_pos e]
      simp [atKey, List.find?_cons, e']
      exact h2
    · have e' : ¬ q.1 = k := fun z => e (h1.trans z)
      rw [if_neg e]
      have ih := KR.val (k := k) t
      simpa [atKey, List.find?_cons, e'] using ih
theorem KR.length : ∀ {kvs : KVI} {xs : List (List Int × Addr × Value)}, KR kvs xs → kvs.length = xs.length := fun r => Paired.length r
theorem KR.put {k : List Int} {b : Addr} {y : V} {u : Value} (ry : RelV y u) {kvs : KVI} {xs : List (List Int × Addr × Value)} (r : KR kvs xs) : KR (putI kvs k b y) (storedH xs k b u) := by
  have e : (valI kvs k).isSome = (atKey xs k).isSome := by rw [(r.val (k := k)).isSome_eq, Option.isSome_map]
  unfold putI storedH
  rw [e]
  by_cases q : (atKey xs k).isSome = true
  · rw [if_pos q, if_pos q]
    unfold KR at r ⊢
    clear e q
    induction r with
    | nil => exact .nil
    | @cons p q ps qs h t ih =>
      rw [List.map_cons, List.map_cons]
      refine .cons ?_ ih
      obtain ⟨h1, h2, h3⟩ := h
      unfold putAt
      by_cases e : p.1 = k
      · rw [if_pos e, if_pos (h1.symm.trans e)]; exact ⟨h1, h2, ry⟩
      · rw [if_neg e, if_neg (fun z => e (h1.trans z))]; exact ⟨h1, h2, h3⟩
  · rw [if_neg q, if_neg q]
    exact Paired.snoc r ⟨rfl, rfl, ry⟩
theorem putI_len (kvs : KVI) (k : List Int) (b : Addr) (v : V) : (putI kvs k b v).length ≤ kvs.length + 1 := by
  unfold putI
  split
  · rw [List.length_map]; omega
  · rw [List.length_append]; simp
end
section
variable {X : Cx} {pins : List (Addr × Obj)} {σ : L2.St} {H : Hp} {s : Shared} {a b : Addr} {o : Obj} {kvs : KVI} {ns : List Int} {A : Around} {E : Value → Shared → Prop}
theorem ints_are {P : Program} {w : World} : ∀ {ks : List Int} {us : List Value}, Vals (ks.map V.int) us → ItemsAre (PySem.intKind P w) ks us
  | [], _, r => by rw [List.map_nil] at r; cases r; exact .nil
  | k :: ks, _, r => by
    rw [List.map_cons] at r
    cases r with
    | cons h t =>
      obtain ⟨t', rfl⟩ := (show ∃ t, _ = Value.int k t from h)
      exact .cons (by simp [PySem.intKind, Value.isInt]) (ints_are t)
theorem keyI_of (I : Inv X pins σ H s) (h : SqT X.K H b (ns.map V.int)) : (tupleKind (PySem.intKind X.prog X.w)).is s.heap ns b := by
  obtain ⟨its, r, ⟨o, h1, h2, n, h3⟩, _⟩ := I.tuple h
  exact ⟨o, its.toArray, n, h1, h2, h3, by simpa using ints_are r⟩
/-- what is at the keys of a dict -/
def KsI (K : PySem.W.Frag) (H : Hp) (kvs : KVI) : Prop := ∀ p ∈ kvs, SqT K H p.2.1 (p.1.map V.int)
theorem dti_rd (I : Inv X pins σ H s) (e : Rd H a (DTO a o kvs)) (hk : KsI X.K H kvs) : ∃ xs, KR kvs xs ∧ kvs.length ≤ sizeLine ∧ (a == sysModules) = false ∧ s.heap.DictOfH (tupleKind (PySem.intKind X.prog X.w)) a xs := by
  obtain ⟨ho, hs, z, xs, r, es, ep, hx, hd, he, hn⟩ := dto_rd I.hok e
  refine ⟨xs, r, z, hs, o, es, ep, ho, hx, hd, he, ?_, hn⟩
  have all : ∀ {l : KVI} {m : List (List Int × Addr × Value)}, KR l m → KsI X.K H l → ∀ x ∈ m, (tupleKind (PySem.intKind X.prog X.w)).is s.heap x.1 x.2.1 := by
    intro l m q
    unfold KR at q
    induction q with
    | nil => intro _ x hx; exact nomatch hx
    | @cons p q ps qs hq t ih =>
      intro hk x hx
      rcases List.mem_cons.mp hx with e | hx
      · subst e
        rw [← hq.1, ← hq.2.1]
        exact keyI_of I (hk p (List.mem_cons_self ..))
      · exact ih (fun p hp => hk p (List.mem_cons_of_mem _ hp)) x hx
  exact all r hk
theorem ti_in {Q : Value → Shared → Prop} (hu : A.units + 1 < cLine) (I : Inv X pins σ H s) (e : Rd H a (DTO a o kvs)) (hk : KsI X.K H kvs) (hb : SqT X.K H b (ns.map V.int)) (h : ∀ s', Inv X pins σ H s' → Q (.bool (valI kvs ns).isSome) s') :
    wpAny (model X.prog X.w) A (compareOp .In (.ref b) (.ref a)) Q E s := by
  obtain ⟨xs, rel, z, hd, dd⟩ := dti_rd I e hk
  refine wpAny_in_heap (tupleKind_room_in1 hu) (keyI_of I hb) hd dd ?_
  have q := (rel.val (k := ns)).isSome_eq
  rw [Option.isSome_map] at q
  rw [← q]
  exact h _ (I.tok _)
theorem ti_notIn {Q : Value → Shared → Prop} (hu : A.units + 1 < cLine) (I : Inv X pins σ H s) (e : Rd H a (DTO a o kvs)) (hk : KsI X.K H kvs) (hb : SqT X.K H b (ns.map V.int)) (h : ∀ s', Inv X pins σ H s' → Q (.bool (!(valI kvs ns).isSome)) s') :
    wpAny (model X.prog X.w) A (compareOp .NotIn (.ref b) (.ref a)) Q E s := by
  obtain ⟨xs, rel, z, hd, dd⟩ := dti_rd I e hk
  refine wpAny_notIn_heap (tupleKind_room_in1 hu) (keyI_of I hb) hd dd ?_
  have q := (rel.val (k := ns)).isSome_eq
  rw [Option.isSome_map] at q
  rw [← q]
  exact h _ (I.tok _)
theorem ti_get {v : V} {Q : Value → Shared → Prop} (hu : A.units + 1 < cLine) (I : Inv X pins σ H s) (e : Rd H a (DTO a o kvs)) (hk : KsI X.K H kvs) (hb : SqT X.K H b (ns.map V.int)) (hv : valI kvs ns = some v) (h : ∀ w' s', Inv X pins σ H s' → RelV v w' → Q w' s') :
    wpAny (model X.prog X.w) A (getItem (.ref a) (.ref b)) Q E s := by
  obtain ⟨xs, rel, z, hd, dd⟩ := dti_rd I e hk
  obtain ⟨w', hw, rw'⟩ := RelO.some_of (v := v) (o := (atKey xs ns).map (·.2)) (by rw [← hv]; exact rel.val)
  obtain ⟨p, hp, hp2⟩ := Option.map_eq_some_iff.mp hw
  refine wpAny_getItem_heap (tupleKind_room_in1 hu) (keyI_of I hb) dd hp ?_
  rw [hp2]
  exact h w' _ (I.tok _) rw'
theorem dtf_of {P : Program} {w : World} {h : Heap} {kvs : KVI} {xs : List (List Int × Addr × Value)} (z : kvs.length ≤ sizeLine) (hd : (a == sysModules) = false) (r : KR kvs xs) (dd : h.DictOfH (tupleKind (PySem.intKind P w)) a xs) : ∃ o, h.get? a = some o ∧ DTF a o kvs := by
  obtain ⟨q, es, ep, hq, h2, h3, h4, _, h5⟩ := dd
  exact ⟨q, hq, hd, z, xs, r, es, ep, h2, h3, h4, h5⟩
theorem ti_set {v : V} {r : Value} {Q : Unit → Shared → Prop} (hu : A.units + 1 < cLine) (I : Inv X pins σ H s) (e : H a = some (DTO a o kvs)) (hk : KsI X.K H kvs) (hb : SqT X.K H b (ns.map V.int)) (hl : kvs.length < sizeLine) (rv : RelV v r)
    (h : ∀ o' s', Inv X pins σ (upd H a (DTO a o' (putI kvs ns b v))) s' → Q () s') : wpAny (model X.prog X.w) A (setItem (.ref a) (.ref b) r) Q E s := by
  obtain ⟨xs, rel, z, hd, dd⟩ := dti_rd I (.inl e) hk
  have hz : xs.length ≤ sizeLine := by rw [← rel.length]; exact z
  have hl' : (putI kvs ns b v).length ≤ sizeLine := by have := putI_len kvs ns b v; omega
  refine wpAny_setItem_heap (hsz := hz) (tupleKind_room_in1 hu) (keyI_of I hb) dd fun h' dd' hs => ?_
  obtain ⟨o', e', f'⟩ := dtf_of hl' hd (rel.put rv) dd'
  exact h o' _ (d_write I (by rw [e]; exact True.intro) hs ⟨o', e'⟩ (dto_ok e' f'))
end
/-- {k: v} -/
theorem disp1 {prog : Program} {w : World} {A : Around} {E : Value → Shared → Prop} {s : Shared} {env : PySem.Env} {k v : Expr} {pos : Pos} {Q : Value → Shared → Prop}
    (h : wpAny (model prog w) A (eval k env) (fun kv s1 => wpAny (model prog w) A (eval v env) (fun vv s2 => wpAny (model prog w) A (dictSet s.heap.objs.size kv vv) (fun _ s3 => Q (.ref s.heap.objs.size) s3) E s2) E s1) E { s with heap := s.heap.push { cls := .type "dict", data := .dict #[] } }) :
    wpAny (model prog w) A (eval (.Dict [some k] [v] pos) env) Q E s := by
  rw [arm_eval_Dict]
  have hsh : (evalEachOpt [some k] env).zip ((evalEach [v] env).map fun v => do let x ← v; standAt pos; pure x) = (pairTrees [some k] [v] env pos).map fun p => (some p.1, p.2) := rfl
  rw [hsh, dictDisplay_pairs _ (by simp [pairTrees]) (by simp [pairTrees])]
  refine wpAny_bind (wpAny_standAt (wpAny_bind ?_))
  unfold subDict
  refine wpAny_bind (wpAny_alloc ?_)
  refine wpAny_bind (wpAny_holding ?_)
  rw [if_pos (by simp [pairTrees])]
  refine wpAny_bind (pairTrees_cons_walk (wpAny_mono h (fun kv s1 h1 => wpAny_mono h1 (fun vv s2 h2 => pairTrees_nil_walk ?_) fun _ _ e => e) fun _ _ e => e))
  refine wpAny_holding ?_
  refine wpAny_bind ?_
  rw [List.forIn_cons]
  refine wpAny_bind (wpAny_bind (wpAny_mono h2 (fun _ s3 h3 => wpAny_pure ?_) fun _ _ e => e))
  show wpAny _ _ (forIn [] PUnit.unit _) _ _ _
  rw [List.forIn_nil]
  exact wpAny_pure (wpAny_pure (wpAny_pure (wpAny_pure h3)))
theorem dto_new {P : Program} {w : World} {H : Hp} (h : Heap) (hb : sysModules < h.objs.size) : ∃ o, ObjOk P w H (h.push { cls := .type "dict", data := .dict #[] }) h.objs.size (DTO h.objs.size o []) := by
  refine ⟨_, dto_ok (Heap.get?_push_size _ rfl) ⟨beq_eq_false_iff_ne.mpr (Ne.symm (Nat.ne_of_lt hb)), Nat.zero_le _, [], .nil, #[], 0, ⟨rfl, rfl, rfl⟩, rfl, rfl, List.nodup_nil⟩⟩
/-- {k: v}, k a tuple of ints -/
def tDispT (tk tv : TE) (K : PySem.W.Frag) : TE := fun σ H Q => ∀ p o, H p = none → tk σ (upd H p (DTO p o [])) fun x H1 => tv σ H1 fun v H2 => ∃ b ns, x = .ref b ∧ SqT K H2 b (ns.map V.int) ∧ H2 p = some (DTO p o []) ∧
  ∀ o', Q (.ref p) (upd H2 p (DTO p o' [(ns, b, v)]))
theorem pe_dispT {X : Cx} {k v : Expr} {tk tv : TE} {pos : Pos} (hu : X.A.units + 1 < cLine) (hk : PE X k tk) (hv : PE X v tv) : PE X (.Dict [some k] [v] pos) (tDispT tk tv X.K) := by
  refine ⟨fun pins s σ H Q I q => ?_⟩
  have hn := I.hok.fresh (Nat.le_refl s.heap.objs.size)
  obtain ⟨o, ho⟩ := dto_new (P := X.prog) (w := X.w) (H := upd H s.heap.objs.size (DTO s.heap.objs.size ⟨.type "dict", none, .dict #[], #[]⟩ [])) s.heap I.big
  have eo : o = { cls := .type "dict", data := .dict #[] } := by
    have h1 := ho.1.1
    rw [Heap.get?_push_size _ rfl] at h1
    exact (Option.some.inj h1).symm
  subst eo
  have I1 := I.laid (a := s.heap.objs.size) (o := DTO s.heap.objs.size _ []) (h' := s.heap.push { cls := .type "dict", data := .dict #[] }) (t' := s.toks) (fun _ _ q => Heap.get?_push_of_some _ q) (Nat.le_refl _) ho
  refine disp1 (thn (hk.run pins _ σ _ _ I1 (q _ _ hn)) fun u s1 ⟨x, H1, I2, rx, q1⟩ => thn (hv.run pins s1 σ H1 _ I2 q1) fun vv s2 ⟨y, H2, I3, ry, b, ns, ex, hb, hp, q2⟩ => ?_)
  subst ex
  obtain rfl : u = Value.ref b := rx
  obtain ⟨xs, rel, z, hd, dd⟩ := dti_rd I3 (.inl hp) (fun _ h => nomatch h)
  have rel0 : xs = [] := by
    have := rel.length
    cases xs with
    | nil => rfl
    | cons _ _ => simp at this
  subst rel0
  refine wpAny_dictSet_heap (hsz := Nat.zero_le _) (show (tupleKind (PySem.intKind X.prog X.w)).room X.A by show X.A.units < cLine; omega) (keyI_of I3 hb) dd fun h' dd' hs => ?_
  obtain ⟨o', e', f'⟩ := dtf_of (kvs := [(ns, b, y)]) (by rw [sizeLine_eq]; show 1 ≤ 16777216; decide) hd (.cons ⟨rfl, rfl, ry⟩ .nil) dd'
  exact ⟨.ref s.heap.objs.size, _, d_write I3 (by rw [hp]; exact True.intro) hs ⟨o', e'⟩ (dto_ok e' f'), rfl, q2 o'⟩
end Mi
namespace Mi
open PySem PySem.Spec PyProof.Rows L2
theorem call_listI {X : Cx} (hc : X.calm = true) : CallR X (.type "list") (fun xs H Q => ∃ d o kvs, xs = [V.ref d] ∧ Rd H d (DTO d o kvs) ∧ ∀ p, H p = none → Q (.ref p) (upd H p (.lst (kvs.map fun p => V.ref p.2.1)))) := by
  intro pins s σ H xs us Q I r h
  obtain ⟨d, o, kvs, rfl, hd, q⟩ := h
  obtain ⟨u, rfl, rx⟩ := r.one
  cases rx
  obtain ⟨ho, hs, z, ks, pr, es, ep, hx, hdt, he, hn⟩ := dto_rd I.hok hd
  have l1 : es.size = ks.length := size_of_entries (knd := tupleKind (PySem.intKind X.prog X.w)) he
  have l2 : kvs.length = ks.length := pr.length
  refine PySem.W.kdl_call (kdl_raw hs hx hdt) (I.ok.hd hc) ho (by omega) fun h' tk acc' c' kp e it => ?_
  have ea : acc'.toList = ks.map fun x => Value.ref x.2.1 := by
    have hl : acc'.toList.length = ks.length := by rw [Array.length_toList, it.1]; exact l1
    apply List.ext_getElem?
    intro j
    rw [List.getElem?_map]
    cases hj : acc'.toList[j]? with
    | none =>
      have h1 := List.getElem?_eq_none_iff.mp hj
      rw [List.getElem?_eq_none (by omega)]
      all_goals rfl
    | some v =>
      obtain ⟨en, hen, hv⟩ := it.2 j v (by rw [← Array.getElem?_toList]; exact hj)
      have qe := entry_at (knd := tupleKind (PySem.intKind X.prog X.w)) he j
      rw [hen] at qe
      cases hb : ks[j]? with
      | none =>
        rw [hb] at qe
        exact nomatch (show some en = none from qe)
      | some b =>
        rw [hb] at qe
        have e2 : en = entryOfKey (tupleKind (PySem.intKind X.prog X.w)) b := Option.some.inj qe
        rw [hv, e2]
        all_goals rfl
  have ek : kvs.map (fun p => p.2.1) = ks.map (fun x => x.2.1) := by
    unfold KR at pr
    clear ea hn he l1 l2 q hd z
    induction pr with
    | nil => rfl
    | cons h t ih => rw [List.map_cons, List.map_cons, ih, h.2.1]
  have eb : acc'.toList = (kvs.map fun x => x.2.1).map Value.ref := by rw [ea, ek, List.map_map]; all_goals rfl
  have rv : Vals (kvs.map fun p => V.ref p.2.1) acc'.toList := by
    rw [eb]
    have := vals_refs (kvs.map fun x => x.2.1)
    rw [List.map_map] at this
    exact this
  refine ⟨.ref s.heap.objs.size, _, I.laid (t' := tk) (o := .lst (kvs.map fun p => V.ref p.2.1)) kp (Nat.le_refl _) ?_, rfl, q _ (I.hok.fresh (Nat.le_refl _))⟩
  exact ⟨by rw [List.length_map]; exact z, acc'.toList, c', rv, by rw [Array.toArray_toList]; exact e⟩
end Mi

end
section
set_option Elab.async false
set_option linter.all false
set_option maxRecDepth 100000
set_option autoImplicit false
set_option maxHeartbeats 4000000
/-! tables of code objects: they grow where a lambda is made; nothing that is told of values rests on them -/
namespace Mi
open PySem PySem.Spec PyProof.Rows L2
/-- no table -/
def NT (o : HO) : Prop := ∀ ps, o ≠ .tbl ps
/-- a part of H without tables -/
structure Sg (G H : Hp) : Prop where
  s : Same G H
  nt : ∀ b o, G b = some o → NT o
instance {G H : Hp} : Coe (Sg G H) (Same G H) := ⟨Sg.s⟩
instance {G H : Hp} : CoeFun (Sg G H) (fun _ => ∀ b o, G b = some o → H b = some o) := ⟨Sg.s⟩
theorem Sg.free {G H : Hp} (e : Sg G H) {l : Addr} (h : H l = Option.none) : G l = Option.none := e.s.free h
theorem Sg.seq {K : PySem.W.Frag} {G H : Hp} {a : Addr} {xs : List V} (e : Sg G H) (h : SqL K G a xs) : SqL K H a xs := e.s.seq h
theorem Sg.know {G H : Hp} (e : Sg G H) {p : Addr} {u : HO} (hu : H p = some u) (nu : NT u) : Sg (upd G p u) H := ⟨fun b o h => by
  by_cases q : b = p
  · subst q; rw [upd_same] at h; cases h; exact hu
  · rw [upd_ne q] at h; exact e.s b o h, fun b o h => by
  by_cases q : b = p
  · subst q; rw [upd_same] at h; cases h; exact nu
  · rw [upd_ne q] at h; exact e.nt b o h⟩
theorem Sg.up {G H : Hp} (e : Sg G H) {p : Addr} {u : HO} (n : H p = Option.none) : Sg G (upd H p u) := ⟨fun b o h => by rw [upd_ne (ne_of_none (e.s b o h) n)]; exact e.s b o h, e.nt⟩
theorem Sg.own {G H : Hp} (e : Sg G H) {p : Addr} {u : HO} (n : G p = Option.none) : Sg G (upd H p u) := ⟨fun b o h => by rw [upd_ne (ne_of_none h n)]; exact e.s b o h, e.nt⟩
/-- tables stay tables, and none is new -/
structure TbS (H H' : Hp) : Prop where
  k : ∀ P q, LamX.TabS H P q → LamX.TabS H' P q
  n : ∀ b ps, H' b = some (.tbl ps) → ∃ ps', H b = some (.tbl ps')
theorem TbS.refl (H : Hp) : TbS H H := ⟨fun _ _ h => h, fun _ ps h => ⟨ps, h⟩⟩
theorem TbS.trans {H H1 H2 : Hp} (a : TbS H H1) (b : TbS H1 H2) : TbS H H2 := ⟨fun P q h => b.k P q (a.k P q h), fun c ps h => by
  obtain ⟨ps', h⟩ := b.n c ps h
  exact a.n c ps' h⟩
theorem TbS.push {H : Hp} {p : Addr} {o : HO} (n : H p = none) (no : NT o) : TbS H (upd H p o) := ⟨fun P q h => h.ext fun b u h => by rw [upd_ne (fun e => by rw [e, n] at h; cases h)]; exact h, fun b ps h => by
  by_cases e : b = p
  · subst e
    rw [upd_same] at h
    exact absurd (Option.some.inj h) (no ps)
  · rw [upd_ne e] at h
    exact ⟨ps, h⟩⟩
/-- no table and no code object -/
def NC (a : Addr) (o : HO) : Prop := NT o ∧ ∀ q, o ≠ LamX.CodeO a q
theorem TbS.upd {H : Hp} {a : Addr} {o u : HO} (h : H a = some o) (n : NC a o) (nu : NT u := by intro _ h; cases h) : TbS H (upd H a u) := ⟨fun P q ⟨ps, h1, h2, h3⟩ => by
  refine ⟨ps, by rw [upd_ne (fun e => by rw [e, h] at h1; cases h1; exact n.1 _ rfl)]; exact h1, h2, fun pos cv hc => ?_⟩
  obtain ⟨c, e1, e2⟩ := h3 pos cv hc
  exact ⟨c, e1, by rw [upd_ne (fun e => by rw [e, h] at e2; cases e2; exact n.2 _ rfl)]; exact e2⟩, fun b ps h => by
  by_cases e : b = a
  · subst e
    rw [upd_same] at h
    exact absurd (Option.some.inj h) (nu ps)
  · rw [upd_ne e] at h
    exact ⟨ps, h⟩⟩
/-- the tables are those at T -/
def TbO (T : List (Addr × Str)) (H : Hp) : Prop := LamX.Tabs T H ∧ ∀ b ps, H b = some (.tbl ps) → ∃ p ∈ T, p.1 = b
theorem TbO.go0 {T : List (Addr × Str)} {H H' : Hp} (t : TbO T H) (k : TbS H H') : TbO T H' := ⟨fun p hp => k.k _ _ (t.1 p hp), fun b ps h => by
  obtain ⟨ps', h⟩ := k.n b ps h
  exact t.2 b ps' h⟩
/-- the tables stay those at T -/
def TabK (T : List (Addr × Str)) (H H' : Hp) : Prop := TbO T H → TbO T H'
section
variable {T : List (Addr × Str)}
theorem TbO.go {H H' : Hp} (t : TbO T H) (k : TabK T H H') : TbO T H' := k t
theorem TabK.refl (H : Hp) : TabK T H H := fun h => h
theorem TabK.trans {H H1 H2 : Hp} (a : TabK T H H1) (b : TabK T H1 H2) : TabK T H H2 := fun h => b (a h)
theorem TabK.push {H : Hp} {p : Addr} {o : HO} (n : H p = none) (no : NT o) : TabK T H (upd H p o) := fun t => t.go0 (.push n no)
theorem TabK.upd {H : Hp} {a : Addr} {o u : HO} (h : H a = some o) (n : NC a o) (nu : NT u := by intro _ h; cases h) : TabK T H (upd H a u) := fun t => t.go0 (.upd h n nu)
end
theorem nc_lst {a : Addr} {xs : List V} : NC a (.lst xs) := ⟨fun _ h => (nomatch h), fun q h => by unfold LamX.CodeO at h; cases h⟩
theorem nc_dK {a : Addr} {xs : List (Key × V)} : NC a (.dK xs) := ⟨fun _ h => (nomatch h), fun q h => by unfold LamX.CodeO at h; cases h⟩
theorem nc_ins {a C dx : Addr} {fs : List (Str × V)} : NC a (.ins C dx fs) := ⟨fun _ h => (nomatch h), fun q h => by unfold LamX.CodeO at h; cases h⟩
theorem nc_dto {a : Addr} {o : Obj} {kvs : KVI} : NC a (DTO a o kvs) := by
  refine ⟨fun _ h => (by unfold DTO at h; cases h), fun q h => ?_⟩
  unfold DTO LamX.CodeO at h
  injection h with h
  let oc : Obj := { cls := .none, data := .fields #[.none, .str q 0] }
  let h0 : Heap := { objs := Array.replicate (a + 1) oc }
  have g0 : h0.get? a = some oc := by
    simp [h0, Heap.get?]
    rfl
  have z := congrFun h h0
  have r : (∃ (oc : Obj) (vs : Array Value) (t : Tok), h0.get? a = some oc ∧ oc.data = .fields vs ∧ vs[1]? = some (.str q t)) := ⟨oc, _, 0, g0, rfl, rfl⟩
  obtain ⟨w1, w2⟩ := z.mpr r
  have w3 : oc = o := Option.some.inj (g0.symm.trans w1)
  obtain ⟨_, _, xs, _, es, ep, _, e2, _⟩ := w2
  rw [← w3] at e2
  cases e2
end Mi

end
section
set_option Elab.async false
set_option linter.all false
set_option maxRecDepth 100000
set_option autoImplicit false
set_option maxHeartbeats 4000000
namespace Mi
open PySem PySem.Spec PyProof.Rows L2

/-! ### a value that stands for data -/
structure CM where
  f : Str → Addr
  /-- the tables of code objects, with the names of what they hold -/
  T : List (Addr × Str)
instance : CoeFun CM (fun _ => Str → Addr) := ⟨CM.f⟩
def kD : Key → D
  | .inl i => .int i
  | .inr x => .str x
/-- a tuple whose object is known to have no dict -/
def TqT (K : PySem.W.Frag) (H : Hp) (a : Addr) (xs : List V) : Prop := (∃ o : Obj, H a = some (.frz o (.tup xs)) ∧ o.dict = none) ∨
  ∃ (o : Obj) (its : Array Value) (n : Nat), K.lookup a = some o ∧ o.cls = .type "tuple" ∧ o.dict = none ∧ o.data = .seq its n ∧ its.size ≤ sizeLine ∧ Vals xs its.toList
theorem TqT.sq {K : PySem.W.Frag} {H : Hp} {a : Addr} {xs : List V} (h : TqT K H a xs) : SqT K H a xs := by
  rcases h with ⟨o, h, _⟩ | ⟨o, its, n, h1, h2, _, h3, h4, h5⟩
  · exact .inl (.inr ⟨o, h⟩)
  · exact .inr ⟨o, its, n, h1, h2, h3, h4, h5⟩
theorem TqT.of {K : PySem.W.Frag} {H : Hp} {a : Addr} {xs : List V} {o : Obj} (h : H a = some (.frz o (.tup xs))) (e : o.dict = none) : TqT K H a xs := .inl ⟨o, h, e⟩
mutual
inductive Rp (K : PySem.W.Frag) (cm : CM) (G : Hp) : V → D → Prop
  | non : Rp K cm G .non .non
  | bl (b : Bool) : Rp K cm G (.bl b) (.bl b)
  | int (i : Int) : Rp K cm G (.int i) (.int i)
  | str (x : Str) : Rp K cm G (.str x) (.str x)
  | lst {a : Addr} {xs : List V} {ds : List D} : SqL K G a xs → Rps K cm G xs ds → Rp K cm G (.ref a) (.lst ds)
  | tup {a : Addr} {xs : List V} {ds : List D} : TqT K G a xs → Rps K cm G xs ds → Rp K cm G (.ref a) (.tup ds)
  | dic {a : Addr} {kvs : List (Key × V)} {ds : List (D × D)} : Rd G a (.dK kvs) → Rks K cm G kvs ds → Rp K cm G (.ref a) (.dic ds)
  | dit {a : Addr} {o : Obj} {kvs : KVI} {ds : List (D × D)} : Rd G a (DTO a o kvs) → Rts K cm G kvs ds → Rp K cm G (.ref a) (.dit ds)
  | obj {a dx : Addr} {fs : List (Str × V)} {c : Str} {ds : List (Str × D)} : G a = some (.ins (cm c) dx fs) → G dx = some (.own a) → Rfs K cm G fs ds → Rp K cm G (.ref a) (.obj c ds)
  | exn {a dx : Addr} {c f : Str} {v : V} {d : D} : G a = some (exo a (cm c) (some dx)) → G dx = some (exd dx [(f, v)]) → Rp K cm G v d → Rp K cm G (.ref a) (.exn c f d)
inductive Rps (K : PySem.W.Frag) (cm : CM) (G : Hp) : List V → List D → Prop
  | nil : Rps K cm G [] []
  | cons {v : V} {vs : List V} {d : D} {ds : List D} : Rp K cm G v d → Rps K cm G vs ds → Rps K cm G (v :: vs) (d :: ds)
inductive Rks (K : PySem.W.Frag) (cm : CM) (G : Hp) : List (Key × V) → List (D × D) → Prop
  | nil : Rks K cm G [] []
  | cons {k : Key} {v : V} {vs : List (Key × V)} {d : D} {ds : List (D × D)} : Rp K cm G v d → Rks K cm G vs ds → Rks K cm G ((k, v) :: vs) ((kD k, d) :: ds)
inductive Rts (K : PySem.W.Frag) (cm : CM) (G : Hp) : KVI → List (D × D) → Prop
  | nil : Rts K cm G [] []
  | cons {k : List Int} {b : Addr} {v : V} {vs : KVI} {d : D} {ds : List (D × D)} : TqT K G b (k.map V.int) → Rp K cm G v d → Rts K cm G vs ds → Rts K cm G ((k, b, v) :: vs) ((.tup (k.map D.int), d) :: ds)
inductive Rfs (K : PySem.W.Frag) (cm : CM) (G : Hp) : List (Str × V) → List (Str × D) → Prop
  | nil : Rfs K cm G [] []
  | cons {f : Str} {v : V} {vs : List (Str × V)} {d : D} {ds : List (Str × D)} : Rp K cm G v d → Rfs K cm G vs ds → Rfs K cm G ((f, v) :: vs) ((f, d) :: ds)
end
section
variable {K : PySem.W.Frag} {cm : CM} {G G' : Hp}
theorem same_sqT {a : Addr} {xs : List V} (e : Same G G') (h : SqT K G a xs) : SqT K G' a xs := by
  rcases h with (h | ⟨o, h⟩) | h
  · exact .inl (.inl (e _ _ h))
  · exact .inl (.inr ⟨o, e _ _ h⟩)
  · exact .inr h
theorem same_tqT {a : Addr} {xs : List V} (e : Same G G') (h : TqT K G a xs) : TqT K G' a xs := by
  rcases h with ⟨o, h, hd⟩ | h
  · exact .inl ⟨o, e _ _ h, hd⟩
  · exact .inr h
theorem same_rd {a : Addr} {o : HO} (e : Same G G') (h : Rd G a o) : Rd G' a o := by
  rcases h with h | ⟨u, h⟩
  · exact .inl (e _ _ h)
  · exact .inr ⟨u, e _ _ h⟩
mutual
theorem Rp.mono (e : Same G G') : ∀ {v : V} {d : D}, Rp K cm G v d → Rp K cm G' v d
  | _, _, .non => .non
  | _, _, .bl b => .bl b
  | _, _, .int i => .int i
  | _, _, .str x => .str x
  | _, _, .lst h r => .lst (e.seq h) (Rps.mono e r)
  | _, _, .tup h r => .tup (same_tqT e h) (Rps.mono e r)
  | _, _, .dic h r => .dic (same_rd e h) (Rks.mono e r)
  | _, _, .dit h r => .dit (same_rd e h) (Rts.mono e r)
  | _, _, .obj h h' r => .obj (e _ _ h) (e _ _ h') (Rfs.mono e r)
  | _, _, .exn h h' r => .exn (e _ _ h) (e _ _ h') (Rp.mono e r)
theorem Rps.mono (e : Same G G') : ∀ {v : List V} {d : List D}, Rps K cm G v d → Rps K cm G' v d
  | _, _, .nil => .nil
  | _, _, .cons a b => .cons (Rp.mono e a) (Rps.mono e b)
theorem Rks.mono (e : Same G G') : ∀ {v : List (Key × V)} {d : List (D × D)}, Rks K cm G v d → Rks K cm G' v d
  | _, _, .nil => .nil
  | _, _, .cons a b => .cons (Rp.mono e a) (Rks.mono e b)
theorem Rts.mono (e : Same G G') : ∀ {v : KVI} {d : List (D × D)}, Rts K cm G v d → Rts K cm G' v d
  | _, _, .nil => .nil
  | _, _, .cons t a b => .cons (same_tqT e t) (Rp.mono e a) (Rts.mono e b)
theorem Rfs.mono (e : Same G G') : ∀ {v : List (Str × V)} {d : List (Str × D)}, Rfs K cm G v d → Rfs K cm G' v d
  | _, _, .nil => .nil
  | _, _, .cons a b => .cons (Rp.mono e a) (Rfs.mono e b)
end
theorem Rps.length : ∀ {v : List V} {d : List D}, Rps K cm G v d → v.length = d.length
  | _, _, .nil => rfl
  | _, _, .cons _ b => congrArg (· + 1) b.length
theorem Rps.get : ∀ {vs : List V} {ds : List D} {i : Nat} {d : D}, Rps K cm G vs ds → ds[i]? = some d → ∃ v, vs[i]? = some v ∧ Rp K cm G v d
  | _, _, _, _, .nil, e => by simp at e
  | _, _, 0, _, .cons r _, e => by simp at e; subst e; exact ⟨_, rfl, r⟩
  | _, _, i + 1, _, .cons _ t, e => by
    obtain ⟨v, h1, h2⟩ := Rps.get (i := i) t (by simpa using e)
    exact ⟨v, by simpa using h1, h2⟩
theorem Rps.app : ∀ {vs ws : List V} {ds es : List D}, Rps K cm G vs ds → Rps K cm G ws es → Rps K cm G (vs ++ ws) (ds ++ es)
  | _, _, _, _, .nil, s => s
  | _, _, _, _, .cons r t, s => .cons r (t.app s)
theorem Rps.take : ∀ {vs : List V} {ds : List D} (n : Nat), Rps K cm G vs ds → Rps K cm G (vs.take n) (ds.take n)
  | _, _, 0, _ => .nil
  | _, _, _ + 1, .nil => .nil
  | _, _, n + 1, .cons r t => .cons r (t.take n)
theorem Rps.drop : ∀ {vs : List V} {ds : List D} (n : Nat), Rps K cm G vs ds → Rps K cm G (vs.drop n) (ds.drop n)
  | _, _, 0, r => r
  | _, _, _ + 1, .nil => .nil
  | _, _, n + 1, .cons r t => t.drop n
mutual
/-- data as the layer's rules of == take it -/
theorem Rp.dp : ∀ {v : V} {d : D}, Rp K cm G v d → d.py.canLay0 = true → Dp K G v d.py
  | _, _, .non, _ => .non
  | _, _, .bl b, _ => .bl b
  | _, _, .int i, _ => .int i
  | _, _, .str x, _ => .str x
  | _, _, .lst h r, c => .lst h (Rps.dp r c)
  | _, _, .tup h r, c => .tup h.sq (Rps.dp r c)
  | _, _, .dic h r, c => by cases c
  | _, _, .dit h r, c => by cases c
  | _, _, .obj h h' r, c => by cases c
  | _, _, .exn h h' r, c => by cases c
theorem Rps.dp : ∀ {v : List V} {d : List D}, Rps K cm G v d → PyData.canLayAll0 (D.pys d) = true → DpAll K G v (D.pys d)
  | _, _, .nil, _ => .nil
  | _, _, .cons a b, c => by
    simp only [D.pys, PyData.canLayAll0, Bool.and_eq_true] at c
    exact .cons (Rp.dp a c.1) (Rps.dp b c.2)
end
end

/-! ### the frame's state -/
/-- what stands at the def's own object -/
def OwnAt (K : PySem.W.Frag) (cm : CM) (G H : Hp) (a : Addr) : D → Prop
  | .lst ds => ∃ xs, H a = some (.lst xs) ∧ Rps K cm G xs ds
  | .dic ds => ∃ kvs, H a = some (.dK kvs) ∧ Rks K cm G kvs ds
  | .dit ds => ∃ o kvs, H a = some (DTO a o kvs) ∧ Rts K cm G kvs ds
  | .obj c ds => ∃ dx fs, H a = some (.ins (cm c) dx fs) ∧ G dx = some (.own a) ∧ Rfs K cm G fs ds
  | _ => False
structure Ext (T : List (Addr × Str)) (S : List Addr) (G H G' H' : Hp) : Prop where
  g : Same G G'
  gh : Sg G' H'
  keep : ∀ b o, H b = some o → b ∉ S → NT o → H' b = some o
  new : ∀ b, H b ≠ none → G' b = G b
  dom : ∀ b, H b ≠ none → H' b ≠ none
  tab : TabK T H H'
/-- the entry of a def: what is known there, the lists that are its own -/
structure Fm where
  K : PySem.W.Frag
  cm : CM
  G : Hp
  H : Hp
  n : Nat
  ns : List Nat
  as : List Addr
  /-- slots that stay as they are in s0 -/
  ks : List Nat
  s0 : L2.St
abbrev Fm.own (F : Fm) : List (Nat × Addr) := F.ns.zip F.as
abbrev Fm.S (F : Fm) : List Addr := F.own.map (·.2)
theorem Fm.no {F : Fm} {ns : List Nat} {i : Nat} (h : F.ns = ns) (hi : i ∉ ns) : ∀ p ∈ F.own, p.1 ≠ i := fun p hp e => hi (by rw [← h, ← e]; exact (List.of_mem_zip hp).1)
structure Stt (F : Fm) (O : List Nat) (G H : Hp) (σ : L2.St) (δ : Env) : Prop where
  ext : Ext F.cm.T F.S F.G F.H G H
  ln : σ.length = F.n
  le : δ.length = F.n
  sh : ∀ (i : Nat) d, i ∉ O → δ[i]? = some (some d) → ∃ v, σ[i]? = some (some v) ∧ Rp F.K F.cm G v d
  ow : ∀ i ∈ O, ∃ a d, σ[i]? = some (some (.ref a)) ∧ δ[i]? = some (some d) ∧ G a = none ∧ OwnAt F.K F.cm G H a d ∧ (F.H a = none ∨ a ∈ F.S)
  dis : ∀ i ∈ O, ∀ j ∈ O, ∀ a, σ[i]? = some (some (.ref a)) → σ[j]? = some (some (.ref a)) → i = j
  fix : ∀ p ∈ F.own, p.1 ∈ O ∧ σ[p.1]? = some (some (.ref p.2))
  tabs : TbO F.cm.T H
  kp : ∀ j ∈ F.ks, σ[j]? = F.s0[j]?
theorem Stt.len {F : Fm} {O : List Nat} {G H : Hp} {σ : L2.St} {δ : Env} (s : Stt F O G H σ δ) : σ.length = δ.length := s.ln.trans s.le.symm
theorem OwnAt.at {K : PySem.W.Frag} {cm : CM} {G H : Hp} {a : Addr} {d : D} (o : OwnAt K cm G H a d) : H a ≠ none := by
  cases d with
  | lst ds => obtain ⟨xs, h, _⟩ := o; rw [h]; simp
  | dic ds =>
    obtain ⟨_, h, _⟩ := o; rw [h]; simp
  | dit ds => obtain ⟨_, _, h, _⟩ := o; rw [h]; simp
  | obj c ds => obtain ⟨_, _, h, _⟩ := o; rw [h]; simp
  | _ => exact o.elim
theorem OwnAt.nc {K : PySem.W.Frag} {cm : CM} {G H : Hp} {a : Addr} {d : D} {u : HO} (o : OwnAt K cm G H a d) (h : H a = some u) : NC a u := by
  cases d with
  | lst ds => obtain ⟨xs, q, _⟩ := o; rw [h] at q; cases q; exact nc_lst
  | dic ds => obtain ⟨xs, q, _⟩ := o; rw [h] at q; cases q; exact nc_dK
  | dit ds => obtain ⟨_, _, q, _⟩ := o; rw [h] at q; cases q; exact nc_dto
  | obj c ds => obtain ⟨_, _, q, _⟩ := o; rw [h] at q; cases q; exact nc_ins
  | _ => exact o.elim
theorem OwnAt.mono {K : PySem.W.Frag} {cm : CM} {G H G' H' : Hp} {a : Addr} {d : D} (o : OwnAt K cm G H a d) (e : Same G G') (h : H' a = H a) : OwnAt K cm G' H' a d := by
  cases d with
  | lst ds => obtain ⟨xs, q, r⟩ := o; exact ⟨xs, h.trans q, r.mono e⟩
  | dic ds =>
    obtain ⟨kvs, q, r⟩ := o; exact ⟨kvs, h.trans q, r.mono e⟩
  | dit ds => obtain ⟨ob, kvs, q, r⟩ := o; exact ⟨ob, kvs, h.trans q, r.mono e⟩
  | obj c ds => obtain ⟨dx, fs, q, w, r⟩ := o; exact ⟨dx, fs, h.trans q, e _ _ w, r.mono e⟩
  | _ => exact o.elim
theorem Ext.trans {T : List (Addr × Str)} {S S' : List Addr} {G H G1 H1 G2 H2 : Hp} (a : Ext T S G H G1 H1) (b : Ext T S' G1 H1 G2 H2) (hs : ∀ x ∈ S', H x = none ∨ x ∈ S) : Ext T S G H G2 H2 where
  g := a.g.trans b.g
  gh := b.gh
  keep := fun x o h n t => b.keep x o (a.keep x o h n t) (fun z => (hs x z).elim (fun q => by rw [q] at h; cases h) n) t
  new := fun x h => (b.new x (a.dom x h)).trans (a.new x h)
  dom := fun x h => b.dom x (a.dom x h)
  tab := a.tab.trans b.tab
theorem Ext.thn {T : List (Addr × Str)} {S : List Addr} {G H G1 H1 G2 H2 : Hp} (a : Ext T S G H G1 H1) (b : Ext T S G1 H1 G2 H2) : Ext T S G H G2 H2 := a.trans b fun _ z => .inr z
theorem Ext.and {T : List (Addr × Str)} {S : List Addr} {G H G1 H1 G2 H2 : Hp} (a : Ext T S G H G1 H1) (b : Ext T [] G1 H1 G2 H2) : Ext T S G H G2 H2 := a.trans b fun _ z => by cases z
theorem Ext.back {T : List (Addr × Str)} {S : List Addr} {G H G1 H1 : Hp} (a : Ext T S G H G1 H1) {p : Addr} (h : H1 p = none) : H p = none := by
  cases q : H p with
  | none => rfl
  | some o => exact absurd h (a.dom p (by rw [q]; simp))
/-- a new thing becomes known -/
theorem Ext.know {T : List (Addr × Str)} {S : List Addr} {G H G1 H1 : Hp} (a : Ext T S G H G1 H1) {p : Addr} {u : HO} (n : G1 p = none) (hp : H p = none) (hu : H1 p = some u) (nu : NT u) : Ext T S G H (upd G1 p u) H1 where
  g := a.g.trans fun b o h => by rw [upd_ne (fun e => by rw [e, n] at h; cases h)]; exact h
  gh := a.gh.know hu nu
  keep := a.keep
  new := fun b h => by rw [upd_ne (fun e => h (by rw [e]; exact hp))]; exact a.new b h
  dom := a.dom
  tab := a.tab
theorem Ext.refl {T : List (Addr × Str)} {S : List Addr} {G H : Hp} (gh : Sg G H) : Ext T S G H G H := ⟨.refl G, gh, fun _ _ h _ _ => h, fun _ _ => rfl, fun _ h => h, .refl H⟩
/-- the addresses of the own slots -/
def ownS (O : List Nat) (σ : L2.St) : List Addr := O.filterMap fun i => match σ[i]? with
  | some (some (V.ref a)) => some a
  | _ => none
theorem mem_ownS {O : List Nat} {σ : L2.St} {a : Addr} : a ∈ ownS O σ ↔ ∃ i ∈ O, σ[i]? = some (some (.ref a)) := by
  unfold ownS
  rw [List.mem_filterMap]
  constructor
  · rintro ⟨i, hi, e⟩
    refine ⟨i, hi, ?_⟩
    split at e
    · rename_i b q
      cases e
      exact q
    · cases e
  · rintro ⟨i, hi, e⟩
    exact ⟨i, hi, by rw [e]⟩
section
variable {F : Fm} {O : List Nat} {G H G' H' : Hp} {σ : L2.St} {δ : Env}
theorem Stt.inS (s : Stt F O G H σ δ) : ∀ x ∈ ownS O σ, F.H x = none ∨ x ∈ F.S := fun x hx => by
  obtain ⟨i, hi, e⟩ := mem_ownS.mp hx
  obtain ⟨a, d, e1, _, _, _, z⟩ := s.ow i hi
  rw [e] at e1
  cases e1
  exact z
theorem Stt.gh (s : Stt F O G H σ δ) : Sg G H := s.ext.gh
/-- the stable part grows; the own objects stay -/
theorem Stt.step (s : Stt F O G H σ δ) (e : Ext F.cm.T [] G H G' H') : Stt F O G' H' σ δ where
  ext := s.ext.trans e fun _ z => by cases z
  ln := s.ln
  le := s.le
  sh := fun i d hi h => by
    obtain ⟨v, e1, r⟩ := s.sh i d hi h
    exact ⟨v, e1, r.mono e.g⟩
  ow := fun i hi => by
    obtain ⟨a, d, e1, e2, n, o, z⟩ := s.ow i hi
    refine ⟨a, d, e1, e2, (e.new a o.at).trans n, o.mono e.g ?_, z⟩
    cases q : H a with
    | none => exact absurd q o.at
    | some u => exact e.keep a u q (by simp) (o.nc q).1
  dis := s.dis
  fix := s.fix
  tabs := s.tabs.go e.tab
  kp := s.kp
end
/-- a new object that is never changed -/
theorem Ext.push {T : List (Addr × Str)} {G H : Hp} {p : Addr} {o : HO} (gh : Sg G H) (n : H p = none) (no : NT o := by intro _ h; cases h) : Ext T [] G H (upd G p o) (upd H p o) where
  g := fun b u h => by rw [upd_ne (ne_of_none (gh b u h) n)]; exact h
  gh := (gh.up (u := o) n).know upd_same no
  keep := fun b u h _ _ => by rw [upd_ne (ne_of_none h n)]; exact h
  new := fun b h => by rw [upd_ne (fun e => h (by rw [e]; exact n))]
  dom := fun b h => by rw [upd_ne (fun e => h (by rw [e]; exact n))]; exact h
  tab := .push n no
/-- a new object that is one's own -/
theorem Ext.fresh {T : List (Addr × Str)} {G H : Hp} {p : Addr} {o : HO} (gh : Sg G H) (n : H p = none) (no : NT o := by intro _ h; cases h) : Ext T [] G H G (upd H p o) where
  g := .refl G
  gh := gh.up n
  keep := fun b u h _ _ => by rw [upd_ne (ne_of_none h n)]; exact h
  new := fun b h => rfl
  dom := fun b h => by rw [upd_ne (fun e => h (by rw [e]; exact n))]; exact h
  tab := .push n no

/-! ### readings by the mirror -/
/-- an exception's one field -/
structure Sc where
  F : Fm
  W : WX
  fld : Str → Str
  XO : List Nat → Prop
  L : List Nat
  /-- it returns a list of its own making -/
  fr : Bool
def XRp (C : Sc) (G : Hp) (c : Str) (d : D) (cls : Value) (dd : Option Addr) : Prop :=
  cls = .ref (C.F.cm c) ∧ ∃ e v, dd = some e ∧ G e = some (.xd [(C.fld c, v)]) ∧ Rp C.F.K C.F.cm G v d
def tD (C : Sc) (O : List Nat) (f : Ex) : TE := fun σ H Q => ∃ G δ, Stt C.F O G H σ δ ∧ match f δ with
  | .ok d δ' => ∀ v G' H', Ext C.F.cm.T (ownS O σ) G H G' H' → Stt C.F O G' H' σ δ' → Rp C.F.K C.F.cm G' v d → Q v H'
  | .exc c d δ' => ∀ G' H' cls dd, Stt C.F O G' H' σ δ' → XRp C G' c d cls dd → C.W cls dd σ H'
  | .bad => False
/-- items -/
def tA (C : Sc) (O : List Nat) (f : ItE) : TA := fun σ H Q => ∃ G δ, Stt C.F O G H σ δ ∧ match f δ with
  | .ok ds δ' => ∀ vs G' H', Ext C.F.cm.T (ownS O σ) G H G' H' → Stt C.F O G' H' σ δ' → Rps C.F.K C.F.cm G' vs ds → Q vs H'
  | .exc c d δ' => ∀ G' H' cls dd, Stt C.F O G' H' σ δ' → XRp C G' c d cls dd → C.W cls dd σ H'
  | .bad => False
theorem pe_imp {X : Cx} {e : Expr} {t t' : TE} (h : PE X e t) (i : ∀ σ H Q, t' σ H Q → t σ H Q) : PE X e t' := ⟨fun pins s σ H Q I w => h.run pins s σ H Q I (i _ _ _ w)⟩
theorem pt_imp {X : Cx} {e : Expr} {t t' : TT} (h : PT X e t) (i : ∀ σ H Q, t' σ H Q → t σ H Q) : PT X e t' := ⟨fun pins s σ H Q I w => h.run pins s σ H Q I (i _ _ _ w)⟩
theorem pa_imp {X : Cx} {e : List Expr} {t t' : TA} (h : PA X e t) (i : ∀ σ H Q, t' σ H Q → t σ H Q) : PA X e t' := ⟨fun pos pins s σ H Q I w => h.run pos pins s σ H Q I (i _ _ _ w)⟩
theorem ps_imp {X : Cx} {e : Stmt} {t t' : TS} (h : PS X e t) (i : ∀ D σ H, t' D σ H → t D σ H) : PS X e t' := ⟨fun pins s σ H D I w => h.run pins s σ H D I (i _ _ _ w)⟩
theorem pss_imp {X : Cx} {e : List Stmt} {t t' : TS} (h : PSs X e t) (i : ∀ D σ H, t' D σ H → t D σ H) : PSs X e t' := ⟨fun pins s σ H D I w => h.run pins s σ H D I (i _ _ _ w)⟩

/-! ### what may be read: stable data, or the def's own list as it stands -/
def Vw (K : PySem.W.Frag) (cm : CM) (G H : Hp) (v : V) (d : D) : Prop := Rp K cm G v d ∨ ∃ a, v = .ref a ∧ OwnAt K cm G H a d
section
variable {K : PySem.W.Frag} {cm : CM} {G H : Hp} {v : V} {d : D}
theorem Vw.full (gh : Same G H) (h : Vw K cm G H v d) : Rp K cm H v d := by
  rcases h with h | ⟨a, rfl, h⟩
  · exact h.mono gh
  · cases d with
    | lst ds => obtain ⟨xs, q, r⟩ := h; exact .lst (SqL.of q) (r.mono gh)
    | dic ds =>
      obtain ⟨kvs, q, r⟩ := h
      exact .dic (Rd.of q) (r.mono gh)
    | dit ds =>
      obtain ⟨ob, kvs, q, r⟩ := h
      exact .dit (Rd.of q) (r.mono gh)
    | obj c ds => obtain ⟨dx, fs, q, w, r⟩ := h; exact .obj q (gh _ _ w) (r.mono gh)
    | _ => exact h.elim
theorem Vw.lst {ds : List D} (gh : Same G H) (h : Vw K cm G H v (.lst ds)) : ∃ a xs, v = .ref a ∧ SqL K H a xs ∧ Rps K cm G xs ds := by
  rcases h with h | ⟨a, rfl, h⟩
  · cases h with
    | lst q r => exact ⟨_, _, rfl, gh.seq q, r⟩
  · obtain ⟨xs, q, r⟩ := h
    exact ⟨a, xs, rfl, SqL.of q, r⟩
theorem Vw.tup {ds : List D} (gh : Same G H) (h : Vw K cm G H v (.tup ds)) : ∃ a xs, v = .ref a ∧ SqT K H a xs ∧ Rps K cm G xs ds := by
  rcases h with h | ⟨a, rfl, h⟩
  · cases h with
    | tup q r => exact ⟨_, _, rfl, same_sqT gh q.sq, r⟩
  · exact h.elim
theorem Vw.int {i : Int} (h : Vw K cm G H v (.int i)) : v = .int i := by
  rcases h with h | ⟨a, rfl, h⟩
  · cases h; rfl
  · exact h.elim
theorem Vw.bl {b : Bool} (h : Vw K cm G H v (.bl b)) : v = .bl b := by
  rcases h with h | ⟨a, rfl, h⟩
  · cases h; rfl
  · exact h.elim
theorem Vw.non (h : Vw K cm G H v .non) : v = .non := by
  rcases h with h | ⟨a, rfl, h⟩
  · cases h; rfl
  · exact h.elim
theorem Vw.str {x : Str} (h : Vw K cm G H v (.str x)) : v = .str x := by
  rcases h with h | ⟨a, rfl, h⟩
  · cases h; rfl
  · exact h.elim
theorem Vw.of (h : Rp K cm G v d) : Vw K cm G H v d := .inl h
end
/-- a weak reading: the value may be the def's own list -/
def tW (C : Sc) (O : List Nat) (f : Ex) : TE := fun σ H Q => ∃ G δ, Stt C.F O G H σ δ ∧ match f δ with
  | .ok d δ' => ∀ v G' H', Ext C.F.cm.T (ownS O σ) G H G' H' → Stt C.F O G' H' σ δ' → Vw C.F.K C.F.cm G' H' v d → Q v H'
  | .exc c d δ' => ∀ G' H' cls dd, Stt C.F O G' H' σ δ' → XRp C G' c d cls dd → C.W cls dd σ H'
  | .bad => False
/-- a new list -/
def tN (C : Sc) (O : List Nat) (f : Ex) : TE := fun σ H Q => ∃ G δ, Stt C.F O G H σ δ ∧ match f δ with
  | .ok d δ' => ∀ p G' H', Ext C.F.cm.T (ownS O σ) G H G' H' → Stt C.F O G' H' σ δ' → G' p = none → H p = none → OwnAt C.F.K C.F.cm G' H' p d → Q (.ref p) H'
  | .exc c d δ' => ∀ G' H' cls dd, Stt C.F O G' H' σ δ' → XRp C G' c d cls dd → C.W cls dd σ H'
  | .bad => False

section
variable {F : Fm} {O : List Nat} {G H : Hp} {σ : L2.St} {δ : Env}
/-- an own object of this frame becomes known: never changed from now on -/
theorem same_upd {p : Addr} {u : HO} (n : G p = none) : Same G (upd G p u) := fun b o h => by
  rw [upd_ne (fun e => by rw [e, n] at h; cases h)]; exact h
theorem Stt.know {p : Addr} {u : HO} (s : Stt F O G H σ δ) (n : G p = none) (nf : F.H p = none) (no : ∀ i ∈ O, σ[i]? ≠ some (some (V.ref p))) (hu : H p = some u) (nu : NT u) : Stt F O (upd G p u) H σ δ where
  ext := ⟨s.ext.g.trans (same_upd n), s.gh.know hu nu, s.ext.keep, fun b h => by
      rw [upd_ne (fun e => h (by rw [e]; exact nf))]; exact s.ext.new b h, s.ext.dom, s.ext.tab⟩
  tabs := s.tabs
  kp := s.kp
  ln := s.ln
  le := s.le
  sh := fun i d hi h => by
    obtain ⟨v, e1, r⟩ := s.sh i d hi h
    exact ⟨v, e1, r.mono (same_upd n)⟩
  ow := fun i hi => by
    obtain ⟨a, d, e1, e2, na, o, z⟩ := s.ow i hi
    exact ⟨a, d, e1, e2, by rw [upd_ne (fun e => no i hi (by rw [e1, e]))]; exact na, o.mono (same_upd n) rfl, z⟩
  dis := s.dis
  fix := s.fix
theorem rp_known {K : PySem.W.Frag} {cm : CM} {p : Addr} {d : D} (o : OwnAt K cm G H p d) (n : G p = none) : ∃ u, H p = some u ∧ Rp K cm (upd G p u) (.ref p) d := by
  cases d with
  | lst ds =>
    obtain ⟨xs, q, r⟩ := o
    exact ⟨_, q, .lst (SqL.of upd_same) (r.mono (same_upd n))⟩
  | dic ds =>
    obtain ⟨kvs, q, r⟩ := o
    exact ⟨_, q, .dic (Rd.of upd_same) (r.mono (same_upd n))⟩
  | dit ds =>
    obtain ⟨ob, kvs, q, r⟩ := o
    exact ⟨_, q, .dit (Rd.of upd_same) (r.mono (same_upd n))⟩
  | obj c ds => obtain ⟨dx, fs, q, w, r⟩ := o; exact ⟨_, q, .obj upd_same (same_upd n _ _ w) (r.mono (same_upd n))⟩
  | _ => exact o.elim
/-- slot i is no longer the def's own -/
theorem Stt.freeze (s : Stt F O G H σ δ) {i : Nat} (hi : i ∈ O) (hno : ∀ p ∈ F.own, p.1 ≠ i) : ∃ G', Same G G' ∧ Stt F (O.filter (· ≠ i)) G' H σ δ := by
  obtain ⟨a, d, e1, e2, na, o, z⟩ := s.ow i hi
  have nf : F.H a = none := by
    rcases z with z | z
    · exact z
    · obtain ⟨p, hp, rfl⟩ := List.mem_map.mp z
      obtain ⟨h1, h2⟩ := s.fix p hp
      exact absurd (s.dis p.1 h1 i hi p.2 h2 e1) (hno p hp)
  obtain ⟨u, hu, rp⟩ := rp_known o na
  have mem : ∀ {j}, j ∈ O.filter (· ≠ i) ↔ j ∈ O ∧ j ≠ i := fun {j} => by simp [List.mem_filter]
  refine ⟨upd G a u, same_upd na, ?_⟩
  have s2 : Stt F (O.filter (· ≠ i)) (upd G a u) H σ δ := {
    ext := ⟨s.ext.g.trans (same_upd na), s.gh.know hu (o.nc hu).1, s.ext.keep, fun b h => by
      rw [upd_ne (fun e => h (by rw [e]; exact nf))]; exact s.ext.new b h, s.ext.dom, s.ext.tab⟩
    tabs := s.tabs
    kp := s.kp
    ln := s.ln
    le := s.le
    sh := fun j dj hj h => by
      by_cases e : j = i
      · subst e
        rw [e2] at h
        cases h
        exact ⟨_, e1, rp⟩
      · obtain ⟨v, q, r⟩ := s.sh j dj (fun z => hj (mem.mpr ⟨z, e⟩)) h
        exact ⟨v, q, r.mono (same_upd na)⟩
    ow := fun j hj => by
      obtain ⟨hj, ne⟩ := mem.mp hj
      obtain ⟨b, dj, q1, q2, nb, oj, z⟩ := s.ow j hj
      refine ⟨b, dj, q1, q2, ?_, oj.mono (same_upd na) rfl, z⟩
      rw [upd_ne (fun e => ne (s.dis j hj i hi a (by rw [← e]; exact q1) e1))]
      exact nb
    dis := fun j hj k hk => s.dis j (mem.mp hj).1 k (mem.mp hk).1
    fix := fun p hp => ⟨mem.mpr ⟨(s.fix p hp).1, hno p hp⟩, (s.fix p hp).2⟩ }
  exact s2
end
theorem fresh_facts {F : Fm} {O : List Nat} {G H : Hp} {σ : L2.St} {δ : Env} {p : Addr} {u : HO} (st : Stt F O G H σ δ) (n : H p = none) (no : NT u := by intro _ h; cases h) : Stt F O G (upd H p u) σ δ ∧ G p = none ∧ F.H p = none ∧ ∀ i ∈ O, σ[i]? ≠ some (some (V.ref p)) := by
  refine ⟨st.step (Ext.fresh st.gh n no), st.gh.free n, ?_, fun i hi e => ?_⟩
  · cases q : F.H p with
    | none => rfl
    | some o => exact absurd n (st.ext.dom p (by rw [q]; simp))
  · obtain ⟨a, d, e1, _, _, o, _⟩ := st.ow i hi
    rw [e] at e1
    cases e1
    exact o.at n
section
variable {X : Cx} {C : Sc} {O : List Nat} {a b c : Expr} {fa fb fc : Ex} {pos : Pos}
theorem wk (h : PE X a (tD C O fa)) : PE X a (tW C O fa) := pe_imp h fun σ H Q ⟨G, δ, st, m⟩ => by
  refine ⟨G, δ, st, ?_⟩
  cases e : fa δ with
  | ok d δ' => rw [e] at m; exact fun v G' H' s1 st1 r => m v G' H' s1 st1 (.inl r)
  | exc c d δ' => rw [e] at m; exact m
  | bad => rw [e] at m; exact m
/-- a new list that is known from now on -/
theorem kn (h : PE X a (tN C O fa)) : PE X a (tD C O fa) := pe_imp h fun σ H Q ⟨G, δ, st, m⟩ => by
  refine ⟨G, δ, st, ?_⟩
  cases e : fa δ with
  | ok d δ' =>
    rw [e] at m
    intro p G' H' s1 st1 n hp o
    obtain ⟨u, hu, rp⟩ := rp_known o n
    obtain ⟨_, _, nf, no⟩ := fresh_facts (u := .own p) st hp
    exact m (.ref p) (upd G' p u) H' (s1.know n hp hu (o.nc hu).1) (st1.know n nf no hu (o.nc hu).1) rp
  | exc c d δ' => rw [e] at m; exact m
  | bad => rw [e] at m; exact m

/-! ### names, constants -/
theorem eV_cases (i : Nat) (δ : Env) : (∃ d, δ[i]? = some (some d) ∧ eV i δ = .ok d δ) ∨ eV i δ = .bad := by
  unfold eV
  cases e : δ[i]? with
  | none => exact .inr rfl
  | some o =>
    cases o with
    | none => exact .inr rfl
    | some d => exact .inl ⟨d, rfl, rfl⟩
theorem d_v {i : Nat} {x : Str} {p : Pos} (h : PE X (.Name x p) (tVar i)) (hi : i ∉ O) : PE X (.Name x p) (tD C O (eV i)) := pe_imp h fun σ H Q ⟨G, δ, st, m⟩ => by
  rcases eV_cases i δ with ⟨d, e, q⟩ | q
  · rw [q] at m
    obtain ⟨v, e1, r⟩ := st.sh i d hi e
    exact ⟨v, e1, m v G H (.refl st.gh) st r⟩
  · rw [q] at m
    exact m.elim
/-- the def's own list, read -/
theorem w_v {i : Nat} {x : Str} {p : Pos} (h : PE X (.Name x p) (tVar i)) (hi : i ∈ O) : PE X (.Name x p) (tW C O (eV i)) := pe_imp h fun σ H Q ⟨G, δ, st, m⟩ => by
  obtain ⟨a, d, e1, e2, n, o, z⟩ := st.ow i hi
  unfold eV at m
  rw [e2] at m
  exact ⟨_, e1, m _ G H (.refl st.gh) st (.inr ⟨a, rfl, o⟩)⟩
theorem d_c {e : Expr} {v : V} {d : D} (h : PE X e (tC v)) (r : ∀ G, Rp C.F.K C.F.cm G v d) : PE X e (tD C O (eC d)) := pe_imp h fun σ H Q ⟨G, δ, st, m⟩ => m v G H (.refl st.gh) st (r G)
theorem d_int {i : Int} {j p} : PE X (.Constant (.int i) j p) (tD C O (eC (.int i))) := d_c pe_int fun _ => .int i
theorem d_bl {i : Bool} {j p} : PE X (.Constant (.bool i) j p) (tD C O (eC (.bl i))) := d_c pe_bl fun _ => .bl i
theorem d_str {i : Str} {j p} : PE X (.Constant (.str i) j p) (tD C O (eC (.str i))) := d_c pe_str fun _ => .str i
theorem d_non {j p} : PE X (.Constant .none j p) (tD C O (eC .non)) := d_c pe_non fun _ => .non

/-! ### operators by values -/
/-- what an operator's reading asks, answered by the mirror's operator -/
def S1 (K : PySem.W.Frag) (cm : CM) (r : V → Hp → VK → Prop) (op : D → Option D) : Prop := ∀ (G H : Hp) (v : V) (d d' : D) (Q : VK), Sg G H → Vw K cm G H v d → op d = some d' →
  (∀ v' G' H', Ext cm.T [] G H G' H' → Rp K cm G' v' d' → Q v' H') → r v H Q
def S2 (K : PySem.W.Frag) (cm : CM) (r : R2) (op : D → D → Option D) : Prop := ∀ (G H : Hp) (v w : V) (d e d' : D) (Q : VK), Sg G H → Vw K cm G H v d → Vw K cm G H w e → op d e = some d' →
  (∀ v' G' H', Ext cm.T [] G H G' H' → Rp K cm G' v' d' → Q v' H') → r v w H Q
/-- .. that makes a new list -/
def N1 (K : PySem.W.Frag) (cm : CM) (r : V → Hp → VK → Prop) (op : D → Option D) : Prop := ∀ (G H : Hp) (v : V) (d d' : D) (Q : VK), Sg G H → Vw K cm G H v d → op d = some d' →
  (∀ p u, H p = none → OwnAt K cm G (upd H p u) p d' → Q (.ref p) (upd H p u)) → r v H Q
def N2 (K : PySem.W.Frag) (cm : CM) (r : R2) (op : D → D → Option D) : Prop := ∀ (G H : Hp) (v w : V) (d e d' : D) (Q : VK), Sg G H → Vw K cm G H v d → Vw K cm G H w e → op d e = some d' →
  (∀ p u, H p = none → OwnAt K cm G (upd H p u) p d' → Q (.ref p) (upd H p u)) → r v w H Q
theorem d_1 {e : Expr} {r : V → Hp → VK → Prop} {op : D → Option D} (s : S1 C.F.K C.F.cm r op) (h : PE X e (tUn r (tW C O fa))) : PE X e (tD C O (e1 op fa)) := pe_imp h fun σ H Q ⟨G, δ, st, m⟩ => by
  refine ⟨G, δ, st, ?_⟩
  unfold e1 at m
  cases e : fa δ with
  | ok d δ' =>
    rw [e] at m
    intro v G1 H1 s1 st1 vw
    cases eo : op d with
    | none => rw [Res.bind_ok, eo] at m; exact m.elim
    | some d' =>
      rw [Res.bind_ok, eo] at m
      exact s G1 H1 v d d' Q st1.gh vw eo fun v' G' H' ex rp => m v' G' H' (s1.and ex) (st1.step ex) rp
  | exc c d δ' => rw [e] at m; exact m
  | bad => rw [e] at m; exact m
theorem n_1 {e : Expr} {r : V → Hp → VK → Prop} {op : D → Option D} (s : N1 C.F.K C.F.cm r op) (h : PE X e (tUn r (tW C O fa))) : PE X e (tN C O (e1 op fa)) := pe_imp h fun σ H Q ⟨G, δ, st, m⟩ => by
  refine ⟨G, δ, st, ?_⟩
  unfold e1 at m
  cases e : fa δ with
  | ok d δ' =>
    rw [e] at m
    intro v G1 H1 s1 st1 vw
    cases eo : op d with
    | none => rw [Res.bind_ok, eo] at m; exact m.elim
    | some d' =>
      rw [Res.bind_ok, eo] at m
      refine s G1 H1 v d d' Q st1.gh vw eo fun p u n o => ?_
      obtain ⟨f1, f2, f3, f4⟩ := fresh_facts (u := u) st1 n (o.nc upd_same).1
      exact m p G1 (upd H1 p u) (s1.and (Ext.fresh st1.gh n (o.nc upd_same).1)) f1 f2 (s1.back n) o
  | exc c d δ' => rw [e] at m; exact m
  | bad => rw [e] at m; exact m
theorem r_2 {r : R2} {op : D → D → Option D} (s : S2 C.F.K C.F.cm r op) : ∀ (σ : L2.St) (H : Hp) (Q : VK), tD C O (e2 op fa fb) σ H Q → tOp r (tD C O fa) (tW C O fb) σ H Q := fun σ H Q ⟨G, δ, st, m⟩ => by
  refine ⟨G, δ, st, ?_⟩
  unfold e2 at m
  cases e : fa δ with
  | ok d δ' =>
    rw [e, Res.bind_ok] at m
    intro v G1 H1 s1 st1 rv
    refine ⟨G1, δ', st1, ?_⟩
    cases eb : fb δ' with
    | ok d2 δ2 =>
      rw [eb, Res.bind_ok] at m
      intro w G2 H2 s2 st2 vw
      cases eo : op d d2 with
      | none => rw [eo] at m; exact m.elim
      | some d' =>
        rw [eo] at m
        exact s G2 H2 v w d d2 d' Q st2.gh (.inl (rv.mono s2.g)) vw eo fun v' G' H' ex rp => m v' G' H' ((s1.thn s2).and ex) (st2.step ex) rp
    | exc c d δ' => rw [eb] at m; exact m
    | bad => rw [eb] at m; exact m
  | exc c d δ' => rw [e] at m; exact m
  | bad => rw [e] at m; exact m
theorem d_2 {e : Expr} {r : R2} {op : D → D → Option D} (s : S2 C.F.K C.F.cm r op) (h : PE X e (tOp r (tD C O fa) (tW C O fb))) : PE X e (tD C O (e2 op fa fb)) := pe_imp h (r_2 s)
theorem n_2 {e : Expr} {r : R2} {op : D → D → Option D} (s : N2 C.F.K C.F.cm r op) (h : PE X e (tOp r (tD C O fa) (tW C O fb))) : PE X e (tN C O (e2 op fa fb)) := pe_imp h fun σ H Q ⟨G, δ, st, m⟩ => by
  refine ⟨G, δ, st, ?_⟩
  unfold e2 at m
  cases e : fa δ with
  | ok d δ' =>
    rw [e, Res.bind_ok] at m
    intro v G1 H1 s1 st1 rv
    refine ⟨G1, δ', st1, ?_⟩
    cases eb : fb δ' with
    | ok d2 δ2 =>
      rw [eb, Res.bind_ok] at m
      intro w G2 H2 s2 st2 vw
      cases eo : op d d2 with
      | none => rw [eo] at m; exact m.elim
      | some d' =>
        rw [eo] at m
        refine s G2 H2 v w d d2 d' Q st2.gh (.inl (rv.mono s2.g)) vw eo fun p u n o => ?_
        obtain ⟨f1, f2, f3, f4⟩ := fresh_facts (u := u) st2 n (o.nc upd_same).1
        exact m p G2 (upd H2 p u) ((s1.thn s2).and (Ext.fresh st2.gh n (o.nc upd_same).1)) f1 f2 ((s1.thn s2).back n) o
    | exc c d δ' => rw [eb] at m; exact m
    | bad => rw [eb] at m; exact m
  | exc c d δ' => rw [e] at m; exact m
  | bad => rw [e] at m; exact m
/-- the left side is the def's own list -/
theorem own_2 {r : R2} {op : D → D → Option D} {i : Nat} (hi : i ∈ O) {σ : L2.St} {H : Hp} {Q : VK} {G : Hp} {δ : Env} {P : Res D → Prop} (st : Stt C.F O G H σ δ) (m : P ((fb δ).bind fun y δ1 => (eV i δ1).bind fun x δ2 => Res.opt (op x y) δ2))
    (hbad : ¬ P .bad) (hexc : ∀ c d δ', P (.exc c d δ') → ∀ G' H' cls dd, Stt C.F O G' H' σ δ' → XRp C G' c d cls dd → C.W cls dd σ H')
    (hok : ∀ v w d d2 d' G2 H2 δ2, op d d2 = some d' → Ext C.F.cm.T (ownS O σ) G H G2 H2 → Stt C.F O G2 H2 σ δ2 → Vw C.F.K C.F.cm G2 H2 v d → Vw C.F.K C.F.cm G2 H2 w d2 → P (.ok d' δ2) → r v w H2 Q) :
    tVar i σ H fun x H1 => tW C O fb σ H1 fun y H2 => r x y H2 Q := by
  obtain ⟨a, d0, e1, _, _, _, _⟩ := st.ow i hi
  refine ⟨_, e1, G, δ, st, ?_⟩
  cases eb : fb δ with
  | ok d2 δ2 =>
    rw [eb, Res.bind_ok] at m
    intro w G2 H2 s2 st2 vw
    obtain ⟨a', d, q1, q2, _, o, _⟩ := st2.ow i hi
    rw [e1] at q1
    cases q1
    have ev : eV i δ2 = .ok d δ2 := by unfold eV; rw [q2]
    rw [ev, Res.bind_ok] at m
    cases eo : op d d2 with
    | none => rw [eo] at m; exact (hbad m).elim
    | some d' =>
      rw [eo] at m
      exact hok _ _ d d2 d' G2 H2 δ2 eo s2 st2 (.inr ⟨_, rfl, o⟩) vw m
  | exc c d δ' => rw [eb] at m; exact hexc c d δ' m
  | bad => rw [eb] at m; exact (hbad m).elim
theorem r_o2 {r : R2} {op : D → D → Option D} {i : Nat} (hi : i ∈ O) (s : S2 C.F.K C.F.cm r op) : ∀ (σ : L2.St) (H : Hp) (Q : VK), tD C O (eO2 op i fb) σ H Q → tOp r (tVar i) (tW C O fb) σ H Q := fun σ H Q ⟨G, δ, st, m⟩ => by
  refine own_2 (op := op) hi (P := fun x => match x with
    | .ok d δ' => ∀ v G' H', Ext C.F.cm.T (ownS O σ) G H G' H' → Stt C.F O G' H' σ δ' → Rp C.F.K C.F.cm G' v d → Q v H'
    | .exc c d δ' => ∀ G' H' cls dd, Stt C.F O G' H' σ δ' → XRp C G' c d cls dd → C.W cls dd σ H'
    | .bad => False) st m (fun z => z) (fun _ _ _ z => z) fun v w d d2 d' G2 H2 δ2 eo s2 st2 v1 v2 m => ?_
  exact s G2 H2 v w d d2 d' Q st2.gh v1 v2 eo fun v' G' H' ex rp => m v' G' H' (s2.and ex) (st2.step ex) rp
theorem d_o2 {e : Expr} {r : R2} {op : D → D → Option D} {i : Nat} (hi : i ∈ O) (s : S2 C.F.K C.F.cm r op) (h : PE X e (tOp r (tVar i) (tW C O fb))) : PE X e (tD C O (eO2 op i fb)) := pe_imp h (r_o2 hi s)
theorem n_o2 {e : Expr} {r : R2} {op : D → D → Option D} {i : Nat} (hi : i ∈ O) (s : N2 C.F.K C.F.cm r op) (h : PE X e (tOp r (tVar i) (tW C O fb))) : PE X e (tN C O (eO2 op i fb)) := pe_imp h fun σ H Q ⟨G, δ, st, m⟩ => by
  refine own_2 (op := op) hi (P := fun x => match x with
    | .ok d δ' => ∀ p G' H', Ext C.F.cm.T (ownS O σ) G H G' H' → Stt C.F O G' H' σ δ' → G' p = none → H p = none → OwnAt C.F.K C.F.cm G' H' p d → Q (.ref p) H'
    | .exc c d δ' => ∀ G' H' cls dd, Stt C.F O G' H' σ δ' → XRp C G' c d cls dd → C.W cls dd σ H'
    | .bad => False) st m (fun z => z) (fun _ _ _ z => z) fun v w d d2 d' G2 H2 δ2 eo s2 st2 v1 v2 m => ?_
  refine s G2 H2 v w d d2 d' Q st2.gh v1 v2 eo fun p u n o => ?_
  obtain ⟨f1, f2, f3, f4⟩ := fresh_facts (u := u) st2 n (o.nc upd_same).1
  exact m p G2 (upd H2 p u) (s2.and (Ext.fresh st2.gh n (o.nc upd_same).1)) f1 f2 (s2.back n) o
/-! ### lists of parts, displays -/
theorem a_nil : PA X [] (tA C O (eL [])) := pa_imp pa_nil fun σ H Q ⟨G, δ, st, m⟩ => m [] G H (.refl st.gh) st .nil
theorem a_cons {e : Expr} {es : List Expr} {fs : List Ex} (h : PA X (e :: es) (tCons (tD C O fa) (tA C O (eL fs)))) : PA X (e :: es) (tA C O (eL (fa :: fs))) := pa_imp h fun σ H Q ⟨G, δ, st, m⟩ => by
  refine ⟨G, δ, st, ?_⟩
  unfold eL at m
  cases e : fa δ with
  | ok d δ' =>
    rw [e, Res.bind_ok] at m
    intro v G1 H1 s1 st1 rv
    refine ⟨G1, δ', st1, ?_⟩
    cases eb : eL fs δ' with
    | ok ds δ2 =>
      rw [eb, Res.bind_ok] at m
      intro vs G2 H2 s2 st2 rvs
      exact m (v :: vs) G2 H2 (s1.thn s2) st2 (.cons (rv.mono s2.g) rvs)
    | exc c d δ' => rw [eb] at m; exact m
    | bad => rw [eb] at m; exact m
  | exc c d δ' => rw [e] at m; exact m
  | bad => rw [e] at m; exact m
theorem eL_length : ∀ {fs : List Ex} {δ : Env} {ds : List D} {δ' : Env}, eL fs δ = .ok ds δ' → ds.length = fs.length
  | [], δ, ds, δ', h => by
    have h' : Res.ok [] δ = Res.ok ds δ' := h
    cases h'
    rfl
  | f :: fs, δ, ds, δ', h => by
    unfold eL at h
    cases e : f δ with
    | ok d δ1 =>
      rw [e, Res.bind_ok] at h
      cases e2 : eL fs δ1 with
      | ok xs δ2 =>
        rw [e2, Res.bind_ok] at h
        cases h
        exact congrArg (· + 1) (eL_length e2)
      | exc c d δ' => rw [e2] at h; cases h
      | bad => rw [e2] at h; cases h
    | exc c d δ' => rw [e] at h; cases h
    | bad => rw [e] at h; cases h
/-- a tuple that is written, its object known -/
def tTupF (t : TA) : TE := fun σ H Q => t σ H fun xs H1 => xs.length ≤ sizeLine ∧ ∀ p (o : Obj), H1 p = none → o.dict = none → Q (.ref p) (upd H1 p (.frz o (.tup xs)))
theorem pe_tupF {es : List Expr} {k : Nat} {t : TA} (h : PA X es t) : PE X (.Tuple es k pos) (tTupF t) := by
  refine ⟨fun pins s σ H Q I hq => wpAny_Tuple_spliced (thn (h.run pos pins s σ H _ I hq) fun us s1 ⟨xs, H1, I1, r, z, q⟩ => ⟨by rw [← r.length]; exact z, ?_⟩)⟩
  have e := Heap.get?_push_size s1.heap (o := { cls := .type "tuple", data := .seq us.toArray }) rfl
  exact ⟨.ref _, _, I1.laid (t' := s1.toks) (o := .frz { cls := .type "tuple", data := .seq us.toArray } (.tup xs)) (fun b u q => Heap.get?_push_of_some _ q) (Nat.le_refl _) ⟨e, z, us, r, _, e, rfl, _, rfl⟩, rfl, q _ _ (I1.hok.fresh (Nat.le_refl _)) rfl⟩
theorem d_tup {es : List Expr} {k : Nat} {fs : List Ex} (h : PA X es (tA C O (eL fs))) (hl : fs.length ≤ sizeLine := by decide) : PE X (.Tuple es k pos) (tD C O (eTup fs)) := pe_imp (pe_tupF h) fun σ H Q ⟨G, δ, st, m⟩ => by
  refine ⟨G, δ, st, ?_⟩
  unfold eTup at m
  cases e : eL fs δ with
  | ok ds δ' =>
    rw [e, Res.bind_ok] at m
    intro vs G1 H1 s1 st1 rv
    refine ⟨by rw [rv.length, eL_length e]; exact hl, fun p o hp hd => ?_⟩
    have ex := Ext.push (T := C.F.cm.T) (o := .frz o (.tup vs)) st1.gh hp
    exact m (.ref p) _ _ (s1.and ex) (st1.step ex) (.tup (.of upd_same hd) (rv.mono ex.g))
  | exc c d δ' => rw [e] at m; exact m
  | bad => rw [e] at m; exact m
theorem n_lst {es : List Expr} {fs : List Ex} (h : PA X es (tA C O (eL fs))) (hl : fs.length ≤ sizeLine := by decide) : PE X (.List es pos) (tN C O (eLst fs)) := pe_imp (pe_lst h) fun σ H Q ⟨G, δ, st, m⟩ => by
  refine ⟨G, δ, st, ?_⟩
  unfold eLst at m
  cases e : eL fs δ with
  | ok ds δ' =>
    rw [e, Res.bind_ok] at m
    intro vs G1 H1 s1 st1 rv
    refine ⟨by rw [rv.length, eL_length e]; exact hl, fun p hp => ?_⟩
    obtain ⟨f1, f2, f3, f4⟩ := fresh_facts (u := .lst vs) st1 hp
    exact m p G1 _ (s1.and (Ext.fresh st1.gh hp)) f1 f2 (s1.back hp) ⟨vs, upd_same, rv⟩
  | exc c d δ' => rw [e] at m; exact m
  | bad => rw [e] at m; exact m

/-! ### tests -/
def tDT (C : Sc) (O : List Nat) (f : Ex) : TT := fun σ H Q => ∃ G δ, Stt C.F O G H σ δ ∧ match f δ with
  | .ok d δ' => ∃ b, d = .bl b ∧ ∀ G' H', Ext C.F.cm.T (ownS O σ) G H G' H' → Stt C.F O G' H' σ δ' → Q b H'
  | .exc c d δ' => ∀ G' H' cls dd, Stt C.F O G' H' σ δ' → XRp C G' c d cls dd → C.W cls dd σ H'
  | .bad => False
theorem dt_of {f : Ex} {σ : L2.St} {H : Hp} {Q : Bool → Hp → Prop} (h : tDT C O f σ H Q) : tD C O f σ H fun x H' => ∃ k, x = .bl k ∧ Q k H' := by
  obtain ⟨G, δ, st, m⟩ := h
  refine ⟨G, δ, st, ?_⟩
  cases e : f δ with
  | ok d δ' =>
    rw [e] at m
    obtain ⟨b, rfl, m⟩ := m
    intro v G' H' s1 st1 r
    cases r
    exact ⟨b, rfl, m G' H' s1 st1⟩
  | exc c d δ' => rw [e] at m; exact m
  | bad => rw [e] at m; exact m
theorem t_val {e : Expr} {f : Ex} (h : PE X e (tD C O f)) (he : ∀ whole, isTrue e X.env whole = (do let v ← whole; standAt e.pos; holding [v] (truthy v)) := by intro _; rfl) : PT X e (tDT C O f) :=
  pt_imp (pt_val h he) fun _ _ _ h => dt_of h
theorem t_2 {e : Expr} {r : R2} {op : D → D → Option D} (s : S2 C.F.K C.F.cm r op) (h : PT X e (tTest (tOp r (tD C O fa) (tW C O fb)))) : PT X e (tDT C O (e2 op fa fb)) := pt_imp h fun _ _ _ h => r_2 s _ _ _ (dt_of h)
theorem t_o2 {e : Expr} {r : R2} {op : D → D → Option D} {i : Nat} (hi : i ∈ O) (s : S2 C.F.K C.F.cm r op) (h : PT X e (tTest (tOp r (tVar i) (tW C O fb)))) : PT X e (tDT C O (eO2 op i fb)) := pt_imp h fun _ _ _ h => r_o2 hi s _ _ _ (dt_of h)
theorem r_ch {r r' : R2} {op op' : D → D → Option D} (s : S2 C.F.K C.F.cm r op) (s' : S2 C.F.K C.F.cm r' op') : ∀ (σ : L2.St) (H : Hp) (Q : VK), tD C O (eCh op op' fa fb fc) σ H Q → tChain r r' (tD C O fa) (tD C O fb) (tW C O fc) σ H Q := fun σ H Q ⟨G, δ, st, m⟩ => by
  refine ⟨G, δ, st, ?_⟩
  unfold eCh at m
  cases e : fa δ with
  | ok d δ' =>
    rw [e, Res.bind_ok] at m
    intro v G1 H1 s1 st1 rv
    refine ⟨G1, δ', st1, ?_⟩
    cases eb : fb δ' with
    | ok d2 δ2 =>
      rw [eb, Res.bind_ok] at m
      intro w G2 H2 s2 st2 rw2
      cases eo : op d d2 with
      | none => rw [eo] at m; exact m.elim
      | some k =>
        rw [eo] at m
        cases k with
        | bl k =>
          refine s G2 H2 v w d d2 (.bl k) _ st2.gh (.inl (rv.mono s2.g)) (.inl rw2) eo fun v' G3 H3 ex rp => ?_
          cases rp
          refine ⟨k, rfl, ?_⟩
          have st3 := st2.step ex
          cases k with
          | true =>
            rw [if_pos rfl]
            have m' : match (fc δ2).bind fun z δ3 => Res.opt (op' d2 z) δ3 with
              | .ok d δ' => ∀ v G' H', Ext C.F.cm.T (ownS O σ) G H G' H' → Stt C.F O G' H' σ δ' → Rp C.F.K C.F.cm G' v d → Q v H'
              | .exc c d δ' => ∀ G' H' cls dd, Stt C.F O G' H' σ δ' → XRp C G' c d cls dd → C.W cls dd σ H'
              | .bad => False := m
            refine ⟨G3, δ2, st3, ?_⟩
            cases ec : fc δ2 with
            | ok d3 δ3 =>
              rw [ec, Res.bind_ok] at m'
              intro z G4 H4 s4 st4 vz
              cases eo' : op' d2 d3 with
              | none => rw [eo'] at m'; exact m'.elim
              | some d' =>
                rw [eo'] at m'
                exact s' G4 H4 w z d2 d3 d' Q st4.gh (.inl (rw2.mono (ex.g.trans s4.g))) vz eo' fun v' G' H' ex' rp => m' v' G' H' ((((s1.thn s2).and ex).thn s4).and ex') (st4.step ex') rp
            | exc c d δ' => rw [ec] at m'; exact m'
            | bad => rw [ec] at m'; exact m'
          | false =>
            rw [if_neg Bool.false_ne_true]
            exact m (.bl false) G3 H3 ((s1.thn s2).and ex) st3 (.bl false)
        | _ => exact m.elim
    | exc c d δ' => rw [eb] at m; exact m
    | bad => rw [eb] at m; exact m
  | exc c d δ' => rw [e] at m; exact m
  | bad => rw [e] at m; exact m
theorem d_ch {e : Expr} {r r' : R2} {op op' : D → D → Option D} (s : S2 C.F.K C.F.cm r op) (s' : S2 C.F.K C.F.cm r' op') (h : PE X e (tChain r r' (tD C O fa) (tD C O fb) (tW C O fc))) : PE X e (tD C O (eCh op op' fa fb fc)) := pe_imp h (r_ch s s')
theorem t_ch {e : Expr} {r r' : R2} {op op' : D → D → Option D} (s : S2 C.F.K C.F.cm r op) (s' : S2 C.F.K C.F.cm r' op') (h : PT X e (tTest (tChain r r' (tD C O fa) (tD C O fb) (tW C O fc)))) : PT X e (tDT C O (eCh op op' fa fb fc)) := pt_imp h fun _ _ _ h => r_ch s s' _ _ _ (dt_of h)
/-- what a result must give, from G on -/
def Pt (C : Sc) (O : List Nat) (G H : Hp) (σ : L2.St) (Q : VK) (r : Res D) : Prop := match r with
  | .ok d δ' => ∀ v G' H', Ext C.F.cm.T (ownS O σ) G H G' H' → Stt C.F O G' H' σ δ' → Rp C.F.K C.F.cm G' v d → Q v H'
  | .exc c d δ' => ∀ G' H' cls dd, Stt C.F O G' H' σ δ' → XRp C G' c d cls dd → C.W cls dd σ H'
  | .bad => False
theorem Pt.mono {G H G1 H1 : Hp} {σ : L2.St} {Q : VK} {r : Res D} (h : Pt C O G H σ Q r) (s : Ext C.F.cm.T (ownS O σ) G H G1 H1) : Pt C O G1 H1 σ Q r := by
  cases r with
  | ok d δ' => exact fun v G' H' s1 => h v G' H' (s.thn s1)
  | exc c d δ' => exact h
  | bad => exact h
theorem Pt.td {G H : Hp} {σ : L2.St} {δ : Env} {Q : VK} {f : Ex} (st : Stt C.F O G H σ δ) (h : Pt C O G H σ Q (f δ)) : tD C O f σ H Q := ⟨G, δ, st, h⟩
/-- a test, then what follows from its answer -/
theorem r_T {k : Bool → Env → Res D} {σ : L2.St} {H : Hp} {Q : VK} (h : tD C O (eT fa k) σ H Q) {R : Bool → Hp → Prop} (hR : ∀ b G δ' H', Stt C.F O G H' σ δ' → Pt C O G H' σ Q (k b δ') → R b H') : tDT C O fa σ H R := by
  obtain ⟨G, δ, st, m⟩ := h
  refine ⟨G, δ, st, ?_⟩
  unfold eT at m
  cases e : fa δ with
  | ok d δ' =>
    rw [e, Res.bind_ok] at m
    cases d with
    | bl b =>
      have m' : Pt C O G H σ Q (k b δ') := m
      exact ⟨b, rfl, fun G' H' s1 st1 => hR b G' δ' H' st1 (m'.mono s1)⟩
    | _ => exact m.elim
  | exc c d δ' => rw [e] at m; exact m
  | bad => rw [e] at m; exact m
theorem d_and {rest : List Expr} (h : PE X (.BoolOp .And (a :: b :: rest) pos) (tAndV (tD C O fa) (tD C O fb))) : PE X (.BoolOp .And (a :: b :: rest) pos) (tD C O (eAnd fa fb)) := pe_imp h fun σ H Q hw => by
  refine dt_of (r_T hw fun b G δ' H' st m => ?_)
  cases b with
  | true => exact iteT (Pt.td st m)
  | false => exact iteF (m (.bl false) G H' (.refl st.gh) st (.bl false))
theorem d_or {rest : List Expr} (h : PE X (.BoolOp .Or (a :: b :: rest) pos) (tOrV (tD C O fa) (tD C O fb))) : PE X (.BoolOp .Or (a :: b :: rest) pos) (tD C O (eOr fa fb)) := pe_imp h fun σ H Q hw => by
  refine dt_of (r_T hw fun b G δ' H' st m => ?_)
  cases b with
  | false => exact iteF (Pt.td st m)
  | true => exact iteT (m (.bl true) G H' (.refl st.gh) st (.bl true))
theorem d_not (h : PE X (.UnaryOp .Not a pos) (tNotV (tD C O fa))) : PE X (.UnaryOp .Not a pos) (tD C O (eNot fa)) := pe_imp h fun σ H Q hw => by
  refine dt_of (r_T hw fun b G δ' H' st m => ?_)
  exact m (.bl (!b)) G H' (.refl st.gh) st (.bl (!b))
theorem d_if {c : Expr} (hc : PT X c (tDT C O fc)) (ha : PE X a (tD C O fa)) (hb : PE X b (tD C O fb)) : PE X (.IfExp c a b pos) (tD C O (eIf fc fa fb)) := pe_imp (pe_ifExp hc ha hb) fun σ H Q hw => by
  refine r_T hw fun b G δ' H' st m => ?_
  cases b with
  | true => exact iteT (Pt.td st m)
  | false => exact iteF (Pt.td st m)
/-- and, or, not as tests -/
def Pb (C : Sc) (O : List Nat) (G H : Hp) (σ : L2.St) (Q : Bool → Hp → Prop) (r : Res D) : Prop := match r with
  | .ok d δ' => ∃ b, d = .bl b ∧ ∀ G' H', Ext C.F.cm.T (ownS O σ) G H G' H' → Stt C.F O G' H' σ δ' → Q b H'
  | .exc c d δ' => ∀ G' H' cls dd, Stt C.F O G' H' σ δ' → XRp C G' c d cls dd → C.W cls dd σ H'
  | .bad => False
theorem Pb.mono {G H G1 H1 : Hp} {σ : L2.St} {Q : Bool → Hp → Prop} {r : Res D} (h : Pb C O G H σ Q r) (s : Ext C.F.cm.T (ownS O σ) G H G1 H1) : Pb C O G1 H1 σ Q r := by
  cases r with
  | ok d δ' =>
    obtain ⟨b, e, h⟩ := h
    exact ⟨b, e, fun G' H' s1 => h G' H' (s.thn s1)⟩
  | exc c d δ' => exact h
  | bad => exact h
theorem Pb.td {G H : Hp} {σ : L2.St} {δ : Env} {Q : Bool → Hp → Prop} {f : Ex} (st : Stt C.F O G H σ δ) (h : Pb C O G H σ Q (f δ)) : tDT C O f σ H Q := ⟨G, δ, st, h⟩
theorem rt_T {k : Bool → Env → Res D} {σ : L2.St} {H : Hp} {Q : Bool → Hp → Prop} (h : tDT C O (eT fa k) σ H Q) {R : Bool → Hp → Prop} (hR : ∀ b G δ' H', Stt C.F O G H' σ δ' → Pb C O G H' σ Q (k b δ') → R b H') : tDT C O fa σ H R := by
  obtain ⟨G, δ, st, m⟩ := h
  refine ⟨G, δ, st, ?_⟩
  unfold eT at m
  cases e : fa δ with
  | ok d δ' =>
    rw [e, Res.bind_ok] at m
    cases d with
    | bl b =>
      have m' : Pb C O G H σ Q (k b δ') := m
      exact ⟨b, rfl, fun G' H' s1 st1 => hR b G' δ' H' st1 (m'.mono s1)⟩
    | _ => exact m.elim
  | exc c d δ' => rw [e] at m; exact m
  | bad => rw [e] at m; exact m
theorem pw_imp {e : Expr} {t t' : TT} (h : PW X e t) (i : ∀ σ H Q, t' σ H Q → t σ H Q) : PW X e t' := ⟨fun wh pins s σ H Q I w => h.run wh pins s σ H Q I (i _ _ _ w)⟩
theorem t_and {rest : List Expr} (ha : PT X a (tDT C O fa)) (hb : PW X (.BoolOp .And (b :: rest) pos) (tDT C O fb)) : PW X (.BoolOp .And (a :: b :: rest) pos) (tDT C O (eAnd fa fb)) := pw_imp (pw_and ha hb) fun σ H Q hw => by
  refine rt_T hw fun b G δ' H' st m => ?_
  cases b with
  | true => exact iteT (Pb.td st m)
  | false =>
    obtain ⟨b, e, m⟩ := m
    cases e
    exact iteF (m G H' (.refl st.gh) st)
theorem t_or {rest : List Expr} (ha : PT X a (tDT C O fa)) (hb : PW X (.BoolOp .Or (b :: rest) pos) (tDT C O fb)) : PW X (.BoolOp .Or (a :: b :: rest) pos) (tDT C O (eOr fa fb)) := pw_imp (pw_or ha hb) fun σ H Q hw => by
  refine rt_T hw fun b G δ' H' st m => ?_
  cases b with
  | false => exact iteF (Pb.td st m)
  | true =>
    obtain ⟨b, e, m⟩ := m
    cases e
    exact iteT (m G H' (.refl st.gh) st)
theorem t_not (ha : PT X a (tDT C O fa)) : PT X (.UnaryOp .Not a pos) (tDT C O (eNot fa)) := pt_imp (pt_not ha) fun σ H Q hw => by
  refine rt_T hw fun b G δ' H' st m => ?_
  obtain ⟨b', e, m⟩ := m
  cases e
  exact m G H' (.refl st.gh) st
end

/-! ### statements -/
/-- the end of a def, as seen from its entry -/
def RetS (F : Fm) (G H : Hp) (δ : Env) : Prop := Ext F.cm.T F.S F.G F.H G H ∧ ∀ p ∈ F.own, ∃ d, δ[p.1]? = some (some d) ∧ G p.2 = none ∧ OwnAt F.K F.cm G H p.2 d
theorem Stt.ret {F : Fm} {O : List Nat} {G H : Hp} {σ : L2.St} {δ : Env} (s : Stt F O G H σ δ) : RetS F G H δ := ⟨s.ext, fun p hp => by
  obtain ⟨h1, h2⟩ := s.fix p hp
  obtain ⟨a, d, e1, e2, n, o, _⟩ := s.ow p.1 h1
  rw [h2] at e1
  cases e1
  exact ⟨d, e2, n, o⟩⟩
/-- what is returned is new -/
def FrR (C : Sc) (H' : Hp) (δ' : Env) (v : V) (d : D) : Prop := C.fr = true → ∃ p G0, v = .ref p ∧ C.F.H p = none ∧ RetS C.F G0 H' δ' ∧ G0 p = none ∧ OwnAt C.F.K C.F.cm G0 H' p d
theorem FrR.no {C : Sc} {H' : Hp} {δ' : Env} {v : V} {d : D} (h : C.fr = false) : FrR C H' δ' v d := fun z => by rw [h] at z; cases z
/-- what a statement's end must give: O' the own slots behind it, C.L those of the loop around -/
def Ps (C : Sc) (O' : List Nat) (G : Hp) (D : Ends) (o : Out) : Prop := match o with
  | .nx δ' => ∀ σ' G' H', Same G G' → Stt C.F O' G' H' σ' δ' → D.nx σ' H'
  | .rt d δ' => ∀ v G' H', RetS C.F G' H' δ' → Rp C.F.K C.F.cm G' v d → FrR C H' δ' v d → D.rt v H'
  | .bk δ' => ∀ σ' G' H', Same G G' → Stt C.F C.L G' H' σ' δ' → D.bk σ' H'
  | .ct δ' => ∀ σ' G' H', Same G G' → Stt C.F C.L G' H' σ' δ' → D.ct σ' H'
  | .exc c d δ' => ∀ O'' σ' G' H' cls dd, C.XO O'' → Stt C.F O'' G' H' σ' δ' → XRp C G' c d cls dd → C.W cls dd σ' H'
  | .bad => False
def tS (C : Sc) (O O' : List Nat) (g : Sm) : TS := fun D σ H => ∃ G δ, Stt C.F O G H σ δ ∧ Ps C O' G D (g δ)
theorem Ps.mono {C : Sc} {O' : List Nat} {G G1 : Hp} {D : Ends} {o : Out} (h : Ps C O' G D o) (s : Same G G1) : Ps C O' G1 D o := by
  cases o with
  | nx δ' => exact fun σ' G' H' s1 => h σ' G' H' (s.trans s1)
  | bk δ' => exact fun σ' G' H' s1 => h σ' G' H' (s.trans s1)
  | ct δ' => exact fun σ' G' H' s1 => h σ' G' H' (s.trans s1)
  | rt d δ' => exact h
  | exc c d δ' => exact h
  | bad => exact h
section
variable {X : Cx} {C : Sc} {O O1 O2 : List Nat} {a b c : Expr} {fa fb fc : Ex} {ga gb : Sm} {pos : Pos}
theorem r_seq {ta tb : TS} (ha : ∀ D σ H, tS C O O1 ga D σ H → ta D σ H) (hb : ∀ D σ H, tS C O1 O2 gb D σ H → tb D σ H) : ∀ D σ H, tS C O O2 (sSeq ga gb) D σ H → tSeq ta tb D σ H := fun D σ H ⟨G, δ, st, m⟩ => by
  refine ha _ σ H ⟨G, δ, st, ?_⟩
  unfold sSeq at m
  cases e : ga δ with
  | nx δ1 =>
    rw [e] at m
    have m' : Ps C O2 G D (gb δ1) := m
    intro σ' G' H' s1 st1
    exact hb _ _ _ ⟨G', δ1, st1, m'.mono s1⟩
  | rt d δ' => rw [e] at m; exact m
  | bk δ' => rw [e] at m; exact m
  | ct δ' => rw [e] at m; exact m
  | exc c d δ' => rw [e] at m; exact m
  | bad => rw [e] at m; exact m
theorem s_seq {s : Stmt} {rest : List Stmt} (ha : PS X s (tS C O O1 ga)) (hb : PSs X rest (tS C O1 O2 gb)) : PSs X (s :: rest) (tS C O O2 (sSeq ga gb)) := pss_imp (pss_cons ha hb) (r_seq (fun _ _ _ h => h) fun _ _ _ h => h)
theorem s_one {s : Stmt} (ha : PS X s (tS C O O1 ga)) : PSs X [s] (tS C O O1 ga) := pss_one ha
theorem s_nil : PSs X [] (tS C O O sPass) := pss_imp pss_nil fun D σ H ⟨G, δ, st, m⟩ => m σ G H (.refl G) st
theorem s_pass : PS X (.Pass pos) (tS C O O sPass) := ps_imp ps_pass fun D σ H ⟨G, δ, st, m⟩ => m σ G H (.refl G) st
theorem s_break : PS X (.Break pos) (tS C C.L O1 sBk) := ps_imp ps_break fun D σ H ⟨G, δ, st, m⟩ => m σ G H (.refl G) st
theorem s_continue : PS X (.Continue pos) (tS C C.L O1 sCt) := ps_imp ps_continue fun D σ H ⟨G, δ, st, m⟩ => m σ G H (.refl G) st
/-- an expression first -/
theorem r_out {f : Ex} {k : D → Env → Out} {O' : List Nat} {G H : Hp} {σ : L2.St} {δ : Env} {D : Ends} (hx : C.XO O) (st : Stt C.F O G H σ δ) (m : Ps C O' G D ((f δ).out k)) {Q : VK}
    (hQ : ∀ d v G1 H1 δ1, Ext C.F.cm.T (ownS O σ) G H G1 H1 → Stt C.F O G1 H1 σ δ1 → Rp C.F.K C.F.cm G1 v d → Ps C O' G1 D (k d δ1) → Q v H1) : tD C O f σ H Q := by
  refine ⟨G, δ, st, ?_⟩
  cases e : f δ with
  | ok d δ1 =>
    rw [e] at m
    have m' : Ps C O' G D (k d δ1) := m
    exact fun v G1 H1 s1 st1 rv => hQ d v G1 H1 δ1 s1 st1 rv (m'.mono s1.g)
  | exc c d δ1 => rw [e] at m; exact fun G' H' cls dd st' x => m O σ G' H' cls dd hx st' x
  | bad => rw [e] at m; exact m
theorem s_do (h : PS X (.Expr a pos) (tDrop (tD C O fa))) (hx : C.XO O := by trivial) : PS X (.Expr a pos) (tS C O O (sDo fa)) := ps_imp h fun D σ H ⟨G, δ, st, m⟩ =>
  r_out hx st m fun d v G1 H1 δ1 s1 st1 rv m1 => m1 σ G1 H1 (.refl G1) st1
theorem s_ret (ha : PE X a (tD C O fa)) (hx : C.XO O := by trivial) (hf : C.fr = false := by rfl) : PS X (.Return (some a) pos) (tS C O O1 (sRet fa)) := ps_imp (ps_ret ha) fun D σ H ⟨G, δ, st, m⟩ =>
  r_out hx st m fun d v G1 H1 δ1 s1 st1 rv m1 => m1 v G1 H1 st1.ret rv (.no hf)
theorem s_retN (hf : C.fr = false := by rfl) : PS X (.Return none pos) (tS C O O1 (sRet (eC .non))) := ps_imp ps_retN fun D σ H ⟨G, δ, st, m⟩ => m .non G H st.ret .non (.no hf)
theorem s_if {bs cs : List Stmt} (hc : PT X c (tDT C O fc)) (ha : PSs X bs (tS C O O1 ga)) (hb : PSs X cs (tS C O O1 gb)) (hx : C.XO O := by trivial) : PS X (.If c bs cs pos) (tS C O O1 (sIf fc ga gb)) := ps_imp (ps_if hc ha hb) fun D σ H ⟨G, δ, st, m⟩ => by
  refine ⟨G, δ, st, ?_⟩
  unfold sIf at m
  cases e : fc δ with
  | ok d δ1 =>
    rw [e] at m
    cases d with
    | bl b =>
      refine ⟨b, rfl, fun G' H' s1 st1 => ?_⟩
      cases b with
      | true =>
        have m' : Ps C O1 G D (ga δ1) := m
        exact iteT ⟨G', δ1, st1, m'.mono s1.g⟩
      | false =>
        have m' : Ps C O1 G D (gb δ1) := m
        exact iteF ⟨G', δ1, st1, m'.mono s1.g⟩
    | _ => exact m.elim
  | exc c d δ1 => rw [e] at m; exact fun G' H' cls dd st' x => m O σ G' H' cls dd hx st' x
  | bad => rw [e] at m; exact m
/-- slots that are set anew -/
theorem Stt.put {F : Fm} {G H : Hp} {σ : L2.St} {δ : Env} (s : Stt F O G H σ δ) {i : Nat} {v : V} {d : D} (r : Rp F.K F.cm G v d) (hi : i < σ.length) (hno : ∀ p ∈ F.own, p.1 ≠ i) (kk : i ∉ F.ks) : Stt F (O.filter (· ≠ i)) G H (σ.set i (some v)) (δ.set i (some d)) := by
  have mem : ∀ {j}, j ∈ O.filter (· ≠ i) ↔ j ∈ O ∧ j ≠ i := fun {j} => by simp [List.mem_filter]
  have ge : ∀ {j : Nat}, j ≠ i → (σ.set i (some v))[j]? = σ[j]? := fun {j} e => List.getElem?_set_ne (Ne.symm e)
  have gd : ∀ {j : Nat}, j ≠ i → (δ.set i (some d))[j]? = δ[j]? := fun {j} e => List.getElem?_set_ne (Ne.symm e)
  exact {
    ext := s.ext
    tabs := s.tabs
    kp := fun j hj => by rw [List.getElem?_set_ne (fun e : i = j => kk (by rw [e]; exact hj))]; exact s.kp j hj
    ln := by simpa using s.ln
    le := by simpa using s.le
    sh := fun j dj hj h => by
      by_cases e : j = i
      · subst e
        rw [List.getElem?_set_self (by rw [← s.len]; exact hi)] at h
        cases h
        exact ⟨v, List.getElem?_set_self hi, r⟩
      · rw [gd e] at h
        rw [ge e]
        exact s.sh j dj (fun z => hj (mem.mpr ⟨z, e⟩)) h
    ow := fun j hj => by
      obtain ⟨hj, ne⟩ := mem.mp hj
      rw [ge ne, gd ne]
      exact s.ow j hj
    dis := fun j hj k hk a => by
      obtain ⟨hj, nj⟩ := mem.mp hj
      obtain ⟨hk, nk⟩ := mem.mp hk
      rw [ge nj, ge nk]
      exact s.dis j hj k hk a
    fix := fun p hp => ⟨mem.mpr ⟨(s.fix p hp).1, hno p hp⟩, by rw [ge (hno p hp)]; exact (s.fix p hp).2⟩ }
theorem filter_id {O : List Nat} {i : Nat} (h : i ∉ O) : O.filter (· ≠ i) = O := List.filter_eq_self.mpr fun j hj => by simp; rintro rfl; exact h hj

theorem Stt.perm {F : Fm} {G H : Hp} {σ : L2.St} {δ : Env} (s : Stt F O G H σ δ) (h : ∀ j, j ∈ O ↔ j ∈ O1) : Stt F O1 G H σ δ :=
  ⟨s.ext, s.ln, s.le, fun i d hi => s.sh i d fun z => hi ((h i).mp z), fun i hi => s.ow i ((h i).mpr hi), fun i hi j hj => s.dis i ((h i).mpr hi) j ((h j).mpr hj), fun p hp => ⟨(h _).mp (s.fix p hp).1, (s.fix p hp).2⟩, s.tabs, s.kp⟩
theorem Stt.putOwn {F : Fm} {G H : Hp} {σ : L2.St} {δ : Env} (s : Stt F O G H σ δ) {i : Nat} {p : Addr} {d : D} (n : G p = none) (nf : F.H p = none) (no : ∀ j ∈ O, σ[j]? ≠ some (some (V.ref p))) (o : OwnAt F.K F.cm G H p d) (hi : i < σ.length) (hno : ∀ p ∈ F.own, p.1 ≠ i) (kk : i ∉ F.ks) :
    Stt F (i :: O.filter (· ≠ i)) G H (σ.set i (some (.ref p))) (δ.set i (some d)) := by
  have mem : ∀ {j}, j ∈ i :: O.filter (· ≠ i) ↔ j = i ∨ (j ∈ O ∧ j ≠ i) := fun {j} => by simp [List.mem_filter]
  have ge : ∀ {j : Nat} {v : Option V}, j ≠ i → (σ.set i v)[j]? = σ[j]? := fun {j _} e => List.getElem?_set_ne (Ne.symm e)
  have gd : ∀ {j : Nat} {v : Option D}, j ≠ i → (δ.set i v)[j]? = δ[j]? := fun {j _} e => List.getElem?_set_ne (Ne.symm e)
  have hs : (σ.set i (some (.ref p)))[i]? = some (some (V.ref p)) := List.getElem?_set_self hi
  exact {
    ext := s.ext
    tabs := s.tabs
    kp := fun j hj => by rw [List.getElem?_set_ne (fun e : i = j => kk (by rw [e]; exact hj))]; exact s.kp j hj
    ln := by simpa using s.ln
    le := by simpa using s.le
    sh := fun j dj hj h => by
      have ne : j ≠ i := fun e => hj (mem.mpr (.inl e))
      rw [gd ne] at h
      rw [ge ne]
      exact s.sh j dj (fun z => hj (mem.mpr (.inr ⟨z, ne⟩))) h
    ow := fun j hj => by
      rcases mem.mp hj with rfl | ⟨hj, ne⟩
      · exact ⟨p, d, hs, List.getElem?_set_self (by rw [← s.len]; exact hi), n, o, .inl nf⟩
      · rw [ge ne, gd ne]
        exact s.ow j hj
    dis := fun j hj0 k hk0 a hja hka => by
      rcases mem.mp hj0 with rfl | ⟨hj, nj⟩
      · rcases mem.mp hk0 with rfl | ⟨hk, nk⟩
        · rfl
        · rw [hs] at hja
          cases hja
          rw [ge nk] at hka
          exact absurd hka (no k hk)
      · rw [ge nj] at hja
        rcases mem.mp hk0 with e | ⟨hk, nk⟩
        · subst e
          rw [hs] at hka
          cases hka
          exact absurd hja (no j hj)
        · rw [ge nk] at hka
          exact s.dis j hj k hk a hja hka
    fix := fun q hq => ⟨mem.mpr (.inr ⟨(s.fix q hq).1, hno q hq⟩), by rw [ge (hno q hq)]; exact (s.fix q hq).2⟩ }
/-- slot i, the def's own until here, is known from now on -/
theorem ts_frz {i : Nat} {ns : List Nat} (hi : i ∈ O) (hn : C.F.ns = ns) (hno : i ∉ ns) (hO : O1 = O.filter (· ≠ i)) : ∀ D σ H, tS C O O2 ga D σ H → tS C O1 O2 ga D σ H := fun D σ H ⟨G, δ, st, m⟩ => by
  obtain ⟨G', s1, st'⟩ := st.freeze hi (Fm.no hn hno)
  subst hO
  exact ⟨G', δ, st', m.mono s1⟩
theorem s_frz {s : Stmt} {i : Nat} {ns : List Nat} (h : PS X s (tS C O1 O2 ga)) (hn : C.F.ns = ns) (hi : i ∈ O) (hno : i ∉ ns) (hO : O1 = O.filter (· ≠ i)) : PS X s (tS C O O2 ga) := ps_imp h (ts_frz hi hn hno hO)
theorem ss_frz {s : List Stmt} {i : Nat} {ns : List Nat} (h : PSs X s (tS C O1 O2 ga)) (hn : C.F.ns = ns) (hi : i ∈ O) (hno : i ∉ ns) (hO : O1 = O.filter (· ≠ i)) : PSs X s (tS C O O2 ga) := pss_imp h (ts_frz hi hn hno hO)
theorem ts_post {i : Nat} {ns : List Nat} (hi : i ∈ O1) (hn : C.F.ns = ns) (hno : i ∉ ns) (hO : O2 = O1.filter (· ≠ i)) : ∀ D σ H, tS C O O2 ga D σ H → tS C O O1 ga D σ H := fun D σ H ⟨G, δ, st, m⟩ => by
  refine ⟨G, δ, st, ?_⟩
  cases e : ga δ with
  | nx δ1 =>
    rw [e] at m
    intro σ' G' H' s1 st1
    obtain ⟨G2, s2, st2⟩ := st1.freeze hi (Fm.no hn hno)
    subst hO
    exact m σ' G2 H' (s1.trans s2) st2
  | rt d δ' => rw [e] at m; exact m
  | bk δ' => rw [e] at m; exact m
  | ct δ' => rw [e] at m; exact m
  | exc c d δ' => rw [e] at m; exact m
  | bad => rw [e] at m; exact m
/-- behind the statement slot i is known -/
theorem s_post {s : Stmt} {i : Nat} {ns : List Nat} (h : PS X s (tS C O O1 ga)) (hn : C.F.ns = ns) (hi : i ∈ O1) (hno : i ∉ ns) (hO : O2 = O1.filter (· ≠ i)) : PS X s (tS C O O2 ga) := ps_imp h (ts_post hi hn hno hO)
theorem ss_post {s : List Stmt} {i : Nat} {ns : List Nat} (h : PSs X s (tS C O O1 ga)) (hn : C.F.ns = ns) (hi : i ∈ O1) (hno : i ∉ ns) (hO : O2 = O1.filter (· ≠ i)) : PSs X s (tS C O O2 ga) := pss_imp h (ts_post hi hn hno hO)
theorem ts_perm (h : ∀ j, j ∈ O1 ↔ j ∈ O2) : ∀ D σ H, tS C O O2 ga D σ H → tS C O O1 ga D σ H := fun D σ H ⟨G, δ, st, m⟩ => by
  refine ⟨G, δ, st, ?_⟩
  cases e : ga δ with
  | nx δ1 => rw [e] at m; exact fun σ' G' H' s1 st1 => m σ' G' H' s1 (st1.perm h)
  | rt d δ' => rw [e] at m; exact m
  | bk δ' => rw [e] at m; exact m
  | ct δ' => rw [e] at m; exact m
  | exc c d δ' => rw [e] at m; exact m
  | bad => rw [e] at m; exact m
theorem perm_of (h : (O1.all fun j => O2.contains j) && (O2.all fun j => O1.contains j) = true) : ∀ j, j ∈ O1 ↔ j ∈ O2 := fun j => by
  simp only [Bool.and_eq_true, List.all_eq_true, decide_eq_true_eq, List.contains_iff_mem] at h
  exact ⟨h.1 j, h.2 j⟩
theorem s_perm {s : Stmt} (h : PS X s (tS C O O1 ga)) (hO : (O1.all fun j => O2.contains j) && (O2.all fun j => O1.contains j) = true) : PS X s (tS C O O2 ga) := ps_imp h (ts_perm (perm_of hO))

/-! ### targets -/
/-- data, or (b) a tuple of data, any tuple object -/
def Rq (b : Bool) (K : PySem.W.Frag) (cm : CM) (G : Hp) (v : V) (d : D) : Prop := Rp K cm G v d ∨ (b = true ∧ ∃ a xs ds, v = .ref a ∧ d = .tup ds ∧ SqT K G a xs ∧ Rps K cm G xs ds)
/-- g puts data where t says -/
def GT (b : Bool) (C : Sc) (O : List Nat) (t : Tg) (g : TG) : Prop := ∀ (v : V) (d : D) (σ : L2.St) (H G : Hp) (δ δ' : Env) (Q : L2.St → Hp → Prop), Stt C.F O G H σ δ → Rq b C.F.K C.F.cm G v d → t.put d δ = some δ' →
  (∀ σ', Stt C.F O G H σ' δ' → Q σ' H) → g v σ H Q
def GTs (C : Sc) (O : List Nat) (is : List Nat) (g : TGs) : Prop := ∀ (vs : List V) (ds : List D) (σ : L2.St) (H G : Hp) (δ δ' : Env) (Q : L2.St → Hp → Prop), Stt C.F O G H σ δ → Rps C.F.K C.F.cm G vs ds → setN is ds δ = some δ' →
  (∀ σ', Stt C.F O G H σ' δ' → Q σ' H) → g vs σ H Q
theorem own_in {F : Fm} {G H : Hp} {σ : L2.St} {δ : Env} (s : Stt F O G H σ δ) {i : Nat} (hi : i ∉ O) : ∀ p ∈ F.own, p.1 ≠ i := fun p hp e => hi (e ▸ (s.fix p hp).1)
/-- names beyond the frame's list are not there -/
def nLt (C : Sc) (n : Nat) : Prop := ∀ {O : List Nat} {G H : Hp} {σ : L2.St} {δ : Env}, Stt C.F O G H σ δ → σ.length = n
theorem put_keeps {F : Fm} {G H : Hp} {σ : L2.St} {δ : Env} (s : Stt F O G H σ δ) {i : Nat} {v : V} {d : D} (r : Rp F.K F.cm G v d) (hi : i ∉ O) (kk : i ∉ F.ks) : Stt F O G H (σ.set i (some v)) (δ.set i (some d)) := by
  by_cases hl : i < σ.length
  · have h := s.put r hl (own_in s hi) kk
    rw [filter_id hi] at h
    exact h
  · rw [List.set_eq_of_length_le (by omega), List.set_eq_of_length_le (by rw [← s.len]; omega)]
    exact s
theorem gt_n {i : Nat} (hi : i ∉ O) (kk : i ∉ C.F.ks := by exact List.not_mem_nil) : GT false C O (.n i) (gName i) := fun v d σ H G δ δ' Q st r e k => by
  cases e
  rcases r with r | ⟨z, _⟩
  · exact k _ (put_keeps st r hi kk)
  · cases z
theorem gts_nil : GTs C O [] gNil := fun vs ds σ H G δ δ' Q st r e k => by
  cases r with
  | nil => cases e; exact ⟨rfl, k σ st⟩
  | cons _ _ => cases e
theorem gts_cons {i : Nat} {is : List Nat} {g : TGs} (hi : i ∉ O) (h : GTs C O is g) (kk : i ∉ C.F.ks := by exact List.not_mem_nil) : GTs C O (i :: is) (gCons (gName i) g) := fun vs ds σ H G δ δ' Q st r e k => by
  cases r with
  | nil => cases e
  | cons r1 r2 => exact ⟨_, _, rfl, h _ _ _ _ _ _ _ _ (put_keeps st r1 hi kk) r2 e k⟩
theorem setN_length : ∀ {is : List Nat} {ds : List D} {δ δ' : Env}, setN is ds δ = some δ' → ds.length = is.length
  | [], [], _, _, _ => rfl
  | [], _ :: _, _, _, e => by cases e
  | _ :: _, [], _, _, e => by cases e
  | i :: is, d :: ds, δ, δ', e => congrArg (· + 1) (setN_length (δ := δ.set i (some d)) (δ' := δ') e)
theorem gt_t {b : Bool} {is : List Nat} {g : TGs} {n : Nat} (h : GTs C O is g) (hn : is.length = n) : GT b C O (.t is) (gTup C.F.K n g) := fun v d σ H G δ δ' Q st r e k => by
  have go : ∀ {a : Addr} {xs : List V} {ds : List D}, SqT C.F.K G a xs → Rps C.F.K C.F.cm G xs ds → setN is ds δ = some δ' → gTup C.F.K n g (.ref a) σ H Q := fun {a xs ds} q rs e' =>
    ⟨_, _, rfl, same_sqT st.gh q, by rw [rs.length, setN_length e', hn], h _ _ _ _ _ _ _ _ st rs e' k⟩
  rcases r with r | ⟨_, a, xs, ds, rfl, rfl, q, rs⟩
  · cases r with
    | tup q rs => exact go q.sq rs e
    | _ => cases e
  · exact go q rs e
/-- x = e -/
theorem s_asg {tg : Expr} {t : Tg} {g : TG} (h : PS X (.Assign [tg] a pos) (tAsg (tD C O fa) g)) (ht : GT false C O t g) (hx : C.XO O := by trivial) : PS X (.Assign [tg] a pos) (tS C O O (sAsg t fa)) := ps_imp h fun D σ H ⟨G, δ, st, m⟩ =>
  r_out hx st m fun d v G1 H1 δ1 s1 st1 rv m1 => by
    cases e : t.put d δ1 with
    | none => rw [e] at m1; exact m1.elim
    | some δ2 =>
      rw [e] at m1
      exact ht v d σ H1 G1 δ1 δ2 _ st1 (.inl rv) e fun σ' st2 => m1 σ' G1 H1 (.refl G1) st2
/-- x = a new list, x the def's own from here on -/
theorem s_asgN {tg : Expr} {i n : Nat} {ns : List Nat} (h : PS X (.Assign [tg] a pos) (tAsg (tN C O fa) (gName i))) (hn : C.F.ns = ns) (hno : i ∉ ns) (hm : C.F.n = n) (hl : i < n) (hO : O1 = i :: O.filter (· ≠ i)) (hx : C.XO O := by trivial) (kk : i ∉ C.F.ks := by exact List.not_mem_nil) :
    PS X (.Assign [tg] a pos) (tS C O O1 (sAsg (.n i) fa)) := ps_imp h fun D σ H ⟨G, δ, st, m⟩ => by
  subst hO
  refine ⟨G, δ, st, ?_⟩
  unfold sAsg at m
  cases e : fa δ with
  | ok d δ1 =>
    rw [e] at m
    have m' : Ps C (i :: O.filter (· ≠ i)) G D (.nx (δ1.set i (some d))) := m
    intro p G1 H1 s1 st1 n hp o
    obtain ⟨_, _, nf, no⟩ := fresh_facts (u := .own p) st hp
    exact m' _ G1 H1 s1.g (st1.putOwn n nf no o (by rw [st1.ln, hm]; exact hl) (Fm.no hn hno) kk)
  | exc c d δ1 => rw [e] at m; exact fun G' H' cls dd st' x => m O σ G' H' cls dd hx st' x
  | bad => rw [e] at m; exact m
end
end Mi

end
section
set_option Elab.async false
set_option linter.all false
set_option maxRecDepth 100000
set_option autoImplicit false
set_option maxHeartbeats 4000000
namespace Mi
open PySem PySem.Spec PyProof.Rows L2

/-! ### iterators that give out new tuples -/
/-- n turns over sources that Src tells; turn i gives a new tuple of values that Yv i tells -/
def Jt (Src : Hp → Prop) (n : Nat) (Yv : Nat → List V → Prop) : It :=
  ⟨fun i H => Src H ∧ i < n, fun i H v H' => ∃ T vals, v = .ref T ∧ H T = none ∧ H' = upd H T (.tup vals) ∧ Yv i vals, fun i H => Src H ∧ i = n⟩
/-- such an iterator by the library's GoesN, given anew at each state -/
theorem turn_of {P : Program} {w : World} {K : PySem.W.Frag} {elts : List Expr} {kk : Nat} {tpos : Pos} {Src : Hp → Prop} {n : Nat} {Yv : Nat → List V → Prop} {I : Addr} {fp : List Addr} {tn : Nat → Heap → Prop}
    (mem : I ∈ fp) (obj : ∀ i h, tn i h → ∀ b ∈ fp, ∃ o, h.get? b = some o ∧ ∀ v, o.data ≠ .cell v) (keep : ∀ i h h', tn i h → (∀ b ∈ fp, ∀ o, h.get? b = some o → h'.get? b = some o) → tn i h')
    (self : ∀ (A : Around) (i : Nat) (s : Shared) (Q : Value → Shared → Prop) (E : Value → Shared → Prop), tn i s.heap → Q (.ref I) s → wpAny (model P w) A (pyIter (.ref I)) Q E s)
    (mk : ∀ (X : Cx), X.prog = P → X.w = w → X.K = K → X.calm = true → ∀ (pins : List (Addr × Obj)) (s : Shared) (σ : L2.St) (H : Hp), Inv X pins σ H s → Src H →
      ∃ (fp' wr : List Addr) (St' : Nat → Heap → Prop) (Y : Nat → Heap → Value → Heap → Prop), GoesN P w X.A (.Tuple elts kk tpos) I fp' wr n Y St' ∧ (∀ b ∈ wr, b ∈ fp) ∧ (∀ i, tn i s.heap → St' i s.heap) ∧ (∀ i h, St' i h → tn i h) ∧
        ∀ i h0 v h, Y i h0 v h → ∃ T vals us, v = .ref T ∧ h0.objs.size ≤ T ∧ h.IsTuple T us ∧ Vals vals us.toList ∧ vals.length ≤ sizeLine ∧ Yv i vals) :
    Turn P w K (.Tuple elts kk tpos) (Jt Src n Yv) fp I tn where
  mem := mem
  obj := obj
  keep := keep
  item := by
    intro X hP hw hK hc i pins s σ H E J hf st hg
    obtain ⟨src, hi⟩ := hg
    obtain ⟨fp', wr, St', Y, W, hwr, t1, t2, hY⟩ := mk X hP hw hK hc pins s σ H J src
    refine W.goes i s (fun v s2 => ∃ x H', Inv X pins σ H' s2 ∧ RelV x v ∧ (Jt Src n Yv).yld i H x H' ∧ tn (i + 1) s2.heap ∧ ∀ b ∈ fp, H' b = none) E hi (t1 i st) fun v h' tk y st' hk _ => ?_
    obtain ⟨T, vals, us, ev, hT, tup, rv, hz, yv⟩ := hY i _ v h' y
    subst ev hP hw
    have hn : H T = none := J.hok.fresh hT
    have new : ObjOk X.prog X.w (upd H T (.tup vals)) h' T (.tup vals) := ⟨hz, us.toList, rv, by simpa using (show IsTup h' T us from tup)⟩
    refine ⟨.ref T, upd H T (.tup vals), J.turnedNew (fun b o hb e => hk b o (fun z => hb (hwr b z)) e) hf hT new, rfl, ⟨T, vals, rfl, hn, rfl, yv⟩, t2 _ _ st', fun b hb => ?_⟩
    obtain ⟨o, ho, _⟩ := obj i _ st b hb
    rw [upd_ne (Nat.ne_of_lt (Nat.lt_of_lt_of_le (Heap.lt_size ho) hT))]
    exact (hf b hb).1
  done := by
    intro X hP hw hK hc i pins s σ H E J hf st hg
    obtain ⟨src, hi⟩ := hg
    subst hi
    obtain ⟨fp', wr, St', Y, W, hwr, t1, t2, hY⟩ := mk X hP hw hK hc pins s σ H J src
    refine W.stops s (fun s1 => Inv X pins σ H s1) E (t1 _ st) fun h' tk hk _ => ?_
    exact J.turnedL (fun b o hb e => hk b o (fun z => hb (hwr b z)) e) hf
  self := self
theorem walk_jt {Src : Hp → Prop} {n : Nat} {Yv : Nat → List V → Prop} : Walk (Jt Src n Yv) n Src (fun i H v H' => ∃ T vals, v = .ref T ∧ H T = none ∧ H' = upd H T (.tup vals) ∧ Yv i vals) :=
  ⟨fun _ _ hi g => ⟨g, hi⟩, fun _ g => ⟨g, rfl⟩, fun _ _ _ _ _ _ y => y⟩

/-! ### a list or a tuple as a source -/
def SqA (K : PySem.W.Frag) (H : Hp) (a : Addr) (xs : List V) : Bool → Prop
  | true => SqL K H a xs
  | false => SqT K H a xs
theorem SqA.mono {K : PySem.W.Frag} {H H' : Hp} {a : Addr} {xs : List V} {b : Bool} (e : Same H H') (h : SqA K H a xs b) : SqA K H' a xs b := by
  cases b with
  | true => exact e.seq h
  | false => exact same_sqT e h
/-- the iterator at it over it, behind i items -/
def ItAt (h : Heap) (it a : Addr) (i : Nat) : Bool → Prop
  | true => h.IsListIter it a i
  | false => h.IsTupleIter it a i
def itObj (a : Addr) : Bool → Obj
  | true => { cls := .type "list_iterator", data := .fields #[.ref a, .int 0 0] }
  | false => { cls := .type "tuple_iterator", data := .fields #[.ref a, .int 0 0] }
theorem ItAt.at {h h' : Heap} {it a : Addr} {i : Nat} {b : Bool} (x : ItAt h it a i b) (k : ∀ o, h.get? it = some o → h'.get? it = some o) : ItAt h' it a i b := by
  cases b with
  | true => exact Heap.IsListIter.at x k
  | false => exact Heap.IsTupleIter.at x k
theorem ItAt.ob {h : Heap} {it a : Addr} {i : Nat} {b : Bool} (x : ItAt h it a i b) : ∃ o, h.get? it = some o ∧ ∀ v, o.data ≠ .cell v := by
  cases b with
  | true =>
    obtain ⟨o, e, c, d⟩ := x
    exact ⟨o, e, fun v z => by rw [d] at z; cases z⟩
  | false =>
    obtain ⟨o, e, c, d⟩ := x
    exact ⟨o, e, fun v z => by rw [d] at z; cases z⟩
section
variable {X : Cx} {pins : List (Addr × Obj)} {σ : L2.St} {H : Hp} {s : Shared}
/-- what is drawn from it -/
theorem draws_of (I : Inv X pins σ H s) (hc : X.calm = true) {a it : Addr} {xs : List V} {b : Bool} (h : SqA X.K H a xs b) (hne : a ≠ it) :
    ∃ (us : List Value) (fp : List Addr) (St' : Nat → Heap → Prop), Vals xs us ∧ us.length = xs.length ∧ a < s.heap.objs.size ∧ fp = [it, a] ∧ Draws X.prog X.w X.A.in1 it fp us.length (fun i v => us[i]? = some v) St' ∧
      (∀ i h', ItAt h' it a i b → (∀ o, s.heap.get? a = some o → h'.get? a = some o) → St' i h') ∧ ∀ i h', St' i h' → ItAt h' it a i b := by
  have hd : X.A.in1.handled = none := I.ok.hd hc
  cases b with
  | true =>
    obtain ⟨us, rv, p, _⟩ := I.list h
    have D := Draws.list (prog := X.prog) (w := X.w) hd it a hne us.toArray
    have hl : a < s.heap.objs.size := by obtain ⟨o, _, e, _⟩ := p; exact Heap.lt_size e
    rw [show us.toArray.size = us.length from by simp] at D
    exact ⟨us, [it, a], fun i h => h.IsListIter it a i ∧ h.IsList a us.toArray, rv, rv.length.symm, hl, rfl, by simpa using D, fun i h' x k => ⟨x, p.isList.at k⟩, fun i h' x => x.1⟩
  | false =>
    obtain ⟨us, rv, p, _⟩ := I.tuple h
    have D := Draws.tuple (prog := X.prog) (w := X.w) hd it a hne us.toArray
    have hl : a < s.heap.objs.size := p.lt
    rw [show us.toArray.size = us.length from by simp] at D
    exact ⟨us, [it, a], fun i h => h.IsTupleIter it a i ∧ h.IsTuple a us.toArray, rv, rv.length.symm, hl, rfl, by simpa using D, fun i h' x k => ⟨x, Heap.IsTuple.at (show s.heap.IsTuple a us.toArray from p) k⟩, fun i h' x => x.1⟩
theorem begins_of (I : Inv X pins σ H s) {a : Addr} {xs : List V} {b : Bool} (h : SqA X.K H a xs b) : ∃ Hb : Heap → Prop, Begins (.ref a) (itObj a b) Hb ∧ Hb s.heap := by
  cases b with
  | true =>
    obtain ⟨us, rv, p, _⟩ := I.list h
    exact ⟨_, begins_list a us.toArray, p.isList⟩
  | false =>
    obtain ⟨us, rv, p, _⟩ := I.tuple h
    exact ⟨_, begins_tuple a us.toArray, (show s.heap.IsTuple a us.toArray from p)⟩
theorem itAt_new {h : Heap} {it a : Addr} {b : Bool} (e : h.get? it = some (itObj a b)) : ItAt h it a 0 b := by
  cases b with
  | true => exact ⟨_, e, rfl, rfl⟩
  | false => exact ⟨_, e, rfl, rfl⟩

/-! ### enumerate(list or tuple) -/
set_option maxHeartbeats 4000000 in
theorem meets_enum1 {v : Value} {ob : Obj} {Hb : Heap → Prop} (B : Begins v ob Hb) :
    Meets (Builtin.«enumerate.__new__» ⟨[.type "enumerate", v], []⟩) (fun _ R s => Hb s.heap ∧ R (.ok (.ret (.ref (s.heap.push ob).objs.size)))
        { s with heap := (s.heap.push ob).push { cls := .type "enumerate", data := .fields #[.none, .bool false, .ref s.heap.objs.size, rawInt 0, .none, .none] } }) :=
  .of_wp fun prog w A R s hx => by
    obtain ⟨hp, gg, dd, tk, os⟩ := s
    obtain ⟨hb1, hx⟩ := hx
    have hsub := sub_enumerate
    have q1 : ∀ {A' : Around} {E' : Value → Shared → Prop} {Q' : Value → Shared → Prop}, Q' (.ref hp.objs.size) ⟨hp.push ob, gg, dd, tk, os⟩ → wpAny (model prog w) A' (pyIter v) Q' E' ⟨hp, gg, dd, tk, os⟩ :=
      fun q => B.iter prog w _ _ ⟨hp, gg, dd, tk, os⟩ _ hb1 q
    wp_walk using q1
    refine wpAny_stack_any fun stk => wpAny_pure ?_
    split
    · rename_i cc _ _ _ _ _
      cases (cc == Value.type "enumerate")
      all_goals
        wp_walk using q1
        exact ⟨_, rfl, hx⟩
    · wp_walk using q1
      exact ⟨_, rfl, hx⟩
theorem call_enum1 {prog : Program} {w : World} {A : Around} {E : Value → Shared → Prop} {s : Shared} {v : Value} {ob : Obj} {Hb : Heap → Prop} {Q : Value → Shared → Prop} (B : Begins v ob Hb) (h1 : Hb s.heap)
    (h : ∀ h', IsEnum h' (s.heap.objs.size + 1) s.heap.objs.size 0 .none → h'.get? s.heap.objs.size = some ob → (∀ b o, s.heap.get? b = some o → h'.get? b = some o) → Q (.ref (s.heap.objs.size + 1)) { s with heap := h' }) :
    wpAny (model prog w) A (call (.type "enumerate") [v]) Q E s := by
  refine callType_new F.called_enumerate (by decide) (F.typeCall_enumerate_1 _) (F.newCall_enumerate_1 _) (fun obj => F.args_object_init_2 obj _) F.entry_enumerate_new (meets_enum1 B) ⟨h1, ?_⟩
  have hz : (s.heap.push ob).objs.size = s.heap.objs.size + 1 := Heap.size_push ..
  show _ ∧ _
  rw [hz]
  have he : IsEnum ((s.heap.push ob).push { cls := .type "enumerate", data := .fields #[.none, .bool false, .ref s.heap.objs.size, rawInt 0, .none, .none] }) (s.heap.objs.size + 1) s.heap.objs.size 0 .none := by
    have := Heap.get?_push_size (s.heap.push ob) (o := { cls := .type "enumerate", data := .fields #[.none, .bool false, .ref s.heap.objs.size, rawInt 0, .none, .none] }) rfl
    rw [hz] at this
    exact this
  exact ⟨⟨_, he, rfl⟩, h _ he (Heap.get?_push_of_some _ (Heap.get?_push_size _ B.free)) fun b o x => Heap.get?_push_of_some _ (Heap.get?_push_of_some _ x)⟩
def Jenum (K : PySem.W.Frag) (a : Addr) (xs : List V) (b : Bool) : It := Jt (fun H => SqA K H a xs b) xs.length fun i vals => ∃ x, xs[i]? = some x ∧ vals = [.int (i : Nat), x]
theorem turn_enum1 {P : Program} {w : World} {K : PySem.W.Frag} {elts : List Expr} {kk : Nat} {tpos : Pos} {a e it : Addr} {xs : List V} {b : Bool} {base : Heap} (hei : e ≠ it) (hae : a ≠ e) (hai : a ≠ it) :
    Turn P w K (.Tuple elts kk tpos) (Jenum K a xs b) [e, it] e (fun i h => (∃ old, IsEnum h e it ((i : Nat) : Int) old) ∧ ItAt h it a i b) := by
  refine turn_of (by simp) (fun i h st c hc => ?_) (fun i h h' st k => ?_) (fun A i s Q E st h => ?_) fun X hP hw hK hc pins s σ H I src => ?_
  · obtain ⟨⟨old, he⟩, hi⟩ := st
    have e' : c = e ∨ c = it := by simpa using hc
    rcases e' with z | z
    · rw [z]; exact ⟨_, he, fun v q => nomatch q⟩
    · rw [z]; exact hi.ob
  · obtain ⟨⟨old, he⟩, hi⟩ := st
    exact ⟨⟨old, k e (by simp) _ he⟩, hi.at fun o q => k it (by simp) o q⟩
  · obtain ⟨⟨_, he⟩, _⟩ := st
    exact wpAny_pyIter_enum he h
  · subst hP hw hK
    obtain ⟨us, fp, St', rv, hl, hlt, efp, Dr, s1, s2⟩ := draws_of I hc src hai
    subst efp
    have W := GoesN.enumFrom (elts := elts) (x1 := kk) (pos := tpos) 0 Dr e hei (by simp [hei]; exact fun z => hae z.symm) (by simp)
    rw [hl] at W
    refine ⟨_, _, _, _, W, fun _ z => z, fun i st => ?_, fun i h st => ?_, fun i h0 v h y => ?_⟩
    · obtain ⟨⟨old, he⟩, hi⟩ := st
      exact ⟨⟨old, by simpa using he⟩, s1 i _ hi fun o q => q⟩
    · obtain ⟨⟨old, he⟩, hi⟩ := st
      exact ⟨⟨old, by simpa using he⟩, s2 i _ hi⟩
    · obtain ⟨T, t, x, ev, hT, hx, tup⟩ := y
      have hlen : i < xs.length := by
        rw [← hl]
        exact (List.getElem?_eq_some_iff.mp hx).1
      obtain ⟨u, hu, ru⟩ := rv.get (List.getElem?_eq_getElem hlen)
      rw [hx] at hu
      cases hu
      refine ⟨T, [.int (i : Nat), xs[i]], _, ev, hT, tup, .cons ⟨t, by simp⟩ (.cons ru .nil), (by show 2 ≤ sizeLine; decide), _, List.getElem?_eq_getElem hlen, rfl⟩

def iEn (K : PySem.W.Frag) (ta : TA) : TI := fun σ H R => ta σ H fun vs H1 => ∃ a xs b, vs = [.ref a] ∧ SqA K H1 a xs b ∧ R (Jenum K a xs b) H1
theorem pi_en {X : Cx} {e : Expr} {ta : TA} {p pos tpos : Pos} {elts : List Expr} {kk : Nat} (hg : Gl X "enumerate") (hm : X.mg "enumerate" = none) (ha : PA X [e] ta) (hs : starEach [e] X.env = [(false, eval e X.env)] := by rfl) :
    PI X (.Tuple elts kk tpos) (.Call (.Name "enumerate" p) [e] [] pos) (iEn X.K ta) := by
  refine ⟨fun pins s σ H R I h => ?_⟩
  refine Call_ (ld_blt I hg hm boot_enumerate (PyProof.Rows.callWith_type1 (thn (ha.run pos pins s σ H _ I h) fun us s1 ⟨vs, H1, I1, r1, q1⟩ => ?_) hs rfl))
  obtain ⟨a, xs, b, ex, hq, q⟩ := q1
  subst ex
  cases r1 with
  | cons r rr =>
    cases rr
    cases r
    obtain ⟨Hb, B, hb⟩ := begins_of I1 hq
    have hlt : a < s1.heap.objs.size := by
      cases b with
      | true => obtain ⟨_, _, p, _⟩ := I1.list hq; obtain ⟨o, _, e, _⟩ := p; exact Heap.lt_size e
      | false => obtain ⟨_, _, p, _⟩ := I1.tuple hq; exact p.lt
    refine call_enum1 B hb fun h' he hit hk => wpAny_pyIter_enum he ?_
    have I2 : Inv X pins σ H1 { s1 with heap := h' } := I1.kept (t' := s1.toks) hk
    refine ⟨s1.heap.objs.size + 1, [s1.heap.objs.size + 1, s1.heap.objs.size], _, _, H1, rfl, I2, turn_enum1 (base := X.base) (Nat.succ_ne_self _) (Nat.ne_of_lt (Nat.lt_succ_of_lt hlt)) (Nat.ne_of_lt hlt), ⟨⟨.none, he⟩, itAt_new hit⟩, fun c hc => ?_, q⟩
    have e' : c = s1.heap.objs.size + 1 ∨ c = s1.heap.objs.size := by simpa using hc
    have hle : s1.heap.objs.size ≤ c := by
      rcases e' with z | z
      · rw [z]; exact Nat.le_add_right _ _
      · rw [z]; exact Nat.le_refl _
    exact I1.fpOk hle (I1.hok.fresh hle)

/-! ### zip of two, of three, lists and tuples -/
theorem lt_of_sq {X : Cx} {pins : List (Addr × Obj)} {σ : L2.St} {H : Hp} {s : Shared} (I : Inv X pins σ H s) {a : Addr} {xs : List V} {b : Bool} (hq : SqA X.K H a xs b) : a < s.heap.objs.size := by
  cases b with
  | true => obtain ⟨_, _, p, _⟩ := I.list hq; obtain ⟨o, _, e, _⟩ := p; exact Heap.lt_size e
  | false => obtain ⟨_, _, p, _⟩ := I.tuple hq; exact p.lt
theorem val_at {xs : List V} {us : List Value} (rv : Vals xs us) (hl : us.length = xs.length) {i : Nat} {x : Value} (hx : us[i]? = some x) : ∃ v, xs[i]? = some v ∧ RelV v x := by
  have hlen : i < xs.length := by
    rw [← hl]
    exact (List.getElem?_eq_some_iff.mp hx).1
  obtain ⟨u, hu, ru⟩ := rv.get (List.getElem?_eq_getElem hlen)
  rw [hx] at hu
  cases hu
  exact ⟨_, List.getElem?_eq_getElem hlen, ru⟩
def Jz2 (K : PySem.W.Frag) (a1 a2 : Addr) (x1 x2 : List V) (b1 b2 : Bool) : It := Jt (fun H => SqA K H a1 x1 b1 ∧ SqA K H a2 x2 b2) (min x1.length x2.length) fun i vals => ∃ x y, x1[i]? = some x ∧ x2[i]? = some y ∧ vals = [x, y]
theorem turn_z2 {P : Program} {w : World} {K : PySem.W.Frag} {elts : List Expr} {kk : Nat} {tpos : Pos} {a1 a2 : Addr} {x1 x2 : List V} {b1 b2 : Bool} {N : Nat} (l1 : a1 < N) (l2 : a2 < N) :
    Turn P w K (.Tuple elts kk tpos) (Jz2 K a1 a2 x1 x2 b1 b2) [N + 4, N + 2, N + 3, N, N + 1] (N + 4) (fun i h => IsZip h (N + 4) (N + 2) (N + 3) .none ∧ IsTupOf2 h (N + 2) (.ref N) (.ref (N + 1)) ∧ (∃ c1 c2, IsTupOf2 h (N + 3) c1 c2) ∧ ItAt h N a1 i b1 ∧ ItAt h (N + 1) a2 i b2) := by
  refine turn_of (by simp) (fun i h st c hc => ?_) (fun i h h' st k => ?_) (fun A i s Q E st h => ?_) fun X hP hw hK hc pins s σ H I src => ?_
  · obtain ⟨hz, hTI, ⟨c1, c2, hTO⟩, h1, h2⟩ := st
    have e' : c = N + 4 ∨ c = N + 2 ∨ c = N + 3 ∨ c = N ∨ c = N + 1 := by simpa using hc
    rcases e' with z | z | z | z | z
    · rw [z]; exact ⟨_, hz, fun v q => nomatch q⟩
    · rw [z]; exact ⟨_, hTI, fun v q => nomatch q⟩
    · rw [z]; exact ⟨_, hTO, fun v q => nomatch q⟩
    · rw [z]; exact h1.ob
    · rw [z]; exact h2.ob
  · obtain ⟨hz, hTI, ⟨c1, c2, hTO⟩, h1, h2⟩ := st
    exact ⟨k _ (by simp) _ hz, k _ (by simp) _ hTI, ⟨c1, c2, k _ (by simp) _ hTO⟩, h1.at fun o q => k _ (by simp) o q, h2.at fun o q => k _ (by simp) o q⟩
  · exact wpAny_pyIter_zip st.1 h
  · subst hP hw hK
    obtain ⟨us1, fp1, St1, rv1, hl1, hlt1, efp1, D1, s11, s12⟩ := draws_of I hc src.1 (it := N) (Nat.ne_of_lt l1)
    obtain ⟨us2, fp2, St2, rv2, hl2, hlt2, efp2, D2, s21, s22⟩ := draws_of I hc src.2 (it := (N + 1 : Nat)) (Nat.ne_of_lt (Nat.lt_succ_of_lt l2))
    subst efp1 efp2
    have S := zip_sep2 (N := N) (fp1 := [a1]) (fp2 := [a2]) (by simpa using l1) (by simpa using l2)
    have W := GoesN.zip2 (elts := elts) (x1 := kk) (pos := tpos) S D1 D2
    rw [hl1, hl2] at W
    refine ⟨_, _, _, _, W, fun b hb => ?_, fun i st => ?_, fun i h st => ?_, fun i h0 v h y => ?_⟩
    · simp only [List.mem_cons, List.not_mem_nil, or_false] at hb ⊢
      rcases hb with z | z | z | z <;> simp [z]
    · obtain ⟨hz, hTI, hTO, h1, h2⟩ := st
      exact ⟨hz, hTI, hTO, s11 i _ h1 fun o q => q, s21 i _ h2 fun o q => q⟩
    · obtain ⟨hz, hTI, hTO, h1, h2⟩ := st
      exact ⟨hz, hTI, hTO, s12 i _ h1, s22 i _ h2⟩
    · obtain ⟨T, x, y, ev, hT, hx, hy, tup⟩ := y
      obtain ⟨v1, e1, r1⟩ := val_at rv1 hl1 hx
      obtain ⟨v2, e2, r2⟩ := val_at rv2 hl2 hy
      exact ⟨T, [v1, v2], _, ev, hT, tup, .cons r1 (.cons r2 .nil), (by show 2 ≤ sizeLine; decide), _, _, e1, e2, rfl⟩
def iZ2 (K : PySem.W.Frag) (ta : TA) : TI := fun σ H R => ta σ H fun vs H1 => ∃ a1 a2 x1 x2 b1 b2, vs = [.ref a1, .ref a2] ∧ SqA K H1 a1 x1 b1 ∧ SqA K H1 a2 x2 b2 ∧ R (Jz2 K a1 a2 x1 x2 b1 b2) H1
theorem pi_z2 {X : Cx} {e e2 : Expr} {ta : TA} {p pos tpos : Pos} {elts : List Expr} {kk : Nat} (hg : Gl X "zip") (hm : X.mg "zip" = none) (ha : PA X [e, e2] ta)
    (hs : starEach [e, e2] X.env = (false, eval e X.env) :: starEach [e2] X.env := by rfl) (hpl : (backTo pos (starEach [e2] X.env)).any (·.1) = false := by rfl) : PI X (.Tuple elts kk tpos) (.Call (.Name "zip" p) [e, e2] [] pos) (iZ2 X.K ta) := by
  refine ⟨fun pins s σ H R I h => ?_⟩
  refine Call_ (ld_blt I hg hm PyProof.Rows.boot_zip (PyProof.Rows.callWith_type1 (thn (ha.run pos pins s σ H _ I h) fun us s1 ⟨vs, H1, I1, r1, q1⟩ => ?_) hs hpl))
  obtain ⟨a1, a2, x1, x2, b1, b2, ex, hq1, hq2, q⟩ := q1
  subst ex
  cases r1 with
  | cons r rr =>
    cases rr with
    | cons r' rr =>
      cases rr
      cases r
      cases r'
      obtain ⟨Hb1, B1, hb1⟩ := begins_of I1 hq1
      obtain ⟨Hb2, B2, hb2⟩ := begins_of I1 hq2
      refine zip_begins2 B1 B2 hb1 hb2 fun h' hz hTI hTO g1 g2 hsz hk => wpAny_pyIter_zip hz ?_
      have I2 : Inv X pins σ H1 { s1 with heap := h' } := I1.kept (t' := s1.toks) hk
      refine ⟨s1.heap.objs.size + 4, [s1.heap.objs.size + 4, s1.heap.objs.size + 2, s1.heap.objs.size + 3, s1.heap.objs.size, s1.heap.objs.size + 1], _, _, H1, rfl, I2, turn_z2 (lt_of_sq I1 hq1) (lt_of_sq I1 hq2), ⟨hz, hTI, ⟨_, _, hTO⟩, itAt_new g1, itAt_new g2⟩, fun c hcm => ?_, q⟩
      have e' : c = s1.heap.objs.size + 4 ∨ c = s1.heap.objs.size + 2 ∨ c = s1.heap.objs.size + 3 ∨ c = s1.heap.objs.size ∨ c = s1.heap.objs.size + 1 := by simpa using hcm
      have hle : s1.heap.objs.size ≤ c := by
        rcases e' with z | z | z | z | z <;> rw [z] <;> first | exact Nat.le_refl _ | exact Nat.le_add_right _ _
      exact I1.fpOk hle (I1.hok.fresh hle)
def Jz3 (K : PySem.W.Frag) (a1 a2 a3 : Addr) (x1 x2 x3 : List V) (b1 b2 b3 : Bool) : It :=
  Jt (fun H => SqA K H a1 x1 b1 ∧ SqA K H a2 x2 b2 ∧ SqA K H a3 x3 b3) (min (min x1.length x2.length) x3.length) fun i vals => ∃ x y z, x1[i]? = some x ∧ x2[i]? = some y ∧ x3[i]? = some z ∧ vals = [x, y, z]
theorem turn_z3 {P : Program} {w : World} {K : PySem.W.Frag} {elts : List Expr} {kk : Nat} {tpos : Pos} {a1 a2 a3 : Addr} {x1 x2 x3 : List V} {b1 b2 b3 : Bool} {N : Nat} (l1 : a1 < N) (l2 : a2 < N) (l3 : a3 < N) :
    Turn P w K (.Tuple elts kk tpos) (Jz3 K a1 a2 a3 x1 x2 x3 b1 b2 b3) [N + 5, N + 3, N + 4, N, N + 1, N + 2] (N + 5) (fun i h => IsZip h (N + 5) (N + 3) (N + 4) .none ∧ IsTupOf3 h (N + 3) (.ref N) (.ref (N + 1)) (.ref (N + 2)) ∧ (∃ c1 c2 c3, IsTupOf3 h (N + 4) c1 c2 c3) ∧
      ItAt h N a1 i b1 ∧ ItAt h (N + 1) a2 i b2 ∧ ItAt h (N + 2) a3 i b3) := by
  refine turn_of (by simp) (fun i h st c hc => ?_) (fun i h h' st k => ?_) (fun A i s Q E st h => ?_) fun X hP hw hK hc pins s σ H I src => ?_
  · obtain ⟨hz, hTI, ⟨c1, c2, c3, hTO⟩, h1, h2, h3⟩ := st
    have e' : c = N + 5 ∨ c = N + 3 ∨ c = N + 4 ∨ c = N ∨ c = N + 1 ∨ c = N + 2 := by simpa using hc
    rcases e' with z | z | z | z | z | z
    · rw [z]; exact ⟨_, hz, fun v q => nomatch q⟩
    · rw [z]; exact ⟨_, hTI, fun v q => nomatch q⟩
    · rw [z]; exact ⟨_, hTO, fun v q => nomatch q⟩
    · rw [z]; exact h1.ob
    · rw [z]; exact h2.ob
    · rw [z]; exact h3.ob
  · obtain ⟨hz, hTI, ⟨c1, c2, c3, hTO⟩, h1, h2, h3⟩ := st
    exact ⟨k _ (by simp) _ hz, k _ (by simp) _ hTI, ⟨c1, c2, c3, k _ (by simp) _ hTO⟩, h1.at fun o q => k _ (by simp) o q, h2.at fun o q => k _ (by simp) o q, h3.at fun o q => k _ (by simp) o q⟩
  · exact wpAny_pyIter_zip st.1 h
  · subst hP hw hK
    obtain ⟨us1, fp1, St1, rv1, hl1, hlt1, efp1, D1, s11, s12⟩ := draws_of I hc src.1 (it := N) (Nat.ne_of_lt l1)
    obtain ⟨us2, fp2, St2, rv2, hl2, hlt2, efp2, D2, s21, s22⟩ := draws_of I hc src.2.1 (it := (N + 1 : Nat)) (Nat.ne_of_lt (Nat.lt_succ_of_lt l2))
    obtain ⟨us3, fp3, St3, rv3, hl3, hlt3, efp3, D3, s31, s32⟩ := draws_of I hc src.2.2 (it := (N + 2 : Nat)) (Nat.ne_of_lt (Nat.lt_succ_of_lt (Nat.lt_succ_of_lt l3)))
    subst efp1 efp2 efp3
    have S := zip_sep3 (N := N) (fp1 := [a1]) (fp2 := [a2]) (fp3 := [a3]) (by simpa using l1) (by simpa using l2) (by simpa using l3)
    have W := GoesN.zip3 (elts := elts) (x1 := kk) (pos := tpos) S D1 D2 D3
    rw [hl1, hl2, hl3] at W
    refine ⟨_, _, _, _, W, fun b hb => ?_, fun i st => ?_, fun i h st => ?_, fun i h0 v h y => ?_⟩
    · simp only [List.mem_cons, List.not_mem_nil, or_false] at hb ⊢
      rcases hb with z | z | z | z | z <;> simp [z]
    · obtain ⟨hz, hTI, hTO, h1, h2, h3⟩ := st
      exact ⟨hz, hTI, hTO, s11 i _ h1 fun o q => q, s21 i _ h2 fun o q => q, s31 i _ h3 fun o q => q⟩
    · obtain ⟨hz, hTI, hTO, h1, h2, h3⟩ := st
      exact ⟨hz, hTI, hTO, s12 i _ h1, s22 i _ h2, s32 i _ h3⟩
    · obtain ⟨T, x, y, z, ev, hT, hx, hy, hz, tup⟩ := y
      obtain ⟨v1, e1, r1⟩ := val_at rv1 hl1 hx
      obtain ⟨v2, e2, r2⟩ := val_at rv2 hl2 hy
      obtain ⟨v3, e3, r3⟩ := val_at rv3 hl3 hz
      exact ⟨T, [v1, v2, v3], _, ev, hT, tup, .cons r1 (.cons r2 (.cons r3 .nil)), (by show 3 ≤ sizeLine; decide), _, _, _, e1, e2, e3, rfl⟩
def iZ3 (K : PySem.W.Frag) (ta : TA) : TI := fun σ H R => ta σ H fun vs H1 => ∃ a1 a2 a3 x1 x2 x3 b1 b2 b3, vs = [.ref a1, .ref a2, .ref a3] ∧ SqA K H1 a1 x1 b1 ∧ SqA K H1 a2 x2 b2 ∧ SqA K H1 a3 x3 b3 ∧ R (Jz3 K a1 a2 a3 x1 x2 x3 b1 b2 b3) H1
theorem pi_z3 {X : Cx} {e e2 e3 : Expr} {ta : TA} {p pos tpos : Pos} {elts : List Expr} {kk : Nat} (hg : Gl X "zip") (hm : X.mg "zip" = none) (ha : PA X [e, e2, e3] ta)
    (hs : starEach [e, e2, e3] X.env = (false, eval e X.env) :: starEach [e2, e3] X.env := by rfl) (hpl : (backTo pos (starEach [e2, e3] X.env)).any (·.1) = false := by rfl) : PI X (.Tuple elts kk tpos) (.Call (.Name "zip" p) [e, e2, e3] [] pos) (iZ3 X.K ta) := by
  refine ⟨fun pins s σ H R I h => ?_⟩
  refine Call_ (ld_blt I hg hm PyProof.Rows.boot_zip (PyProof.Rows.callWith_type1 (thn (ha.run pos pins s σ H _ I h) fun us s1 ⟨vs, H1, I1, r1, q1⟩ => ?_) hs hpl))
  obtain ⟨a1, a2, a3, x1, x2, x3, b1, b2, b3, ex, hq1, hq2, hq3, q⟩ := q1
  subst ex
  cases r1 with
  | cons r rr =>
    cases rr with
    | cons r' rr =>
      cases rr with
      | cons r'' rr =>
        cases rr
        cases r
        cases r'
        cases r''
        obtain ⟨Hb1, B1, hb1⟩ := begins_of I1 hq1
        obtain ⟨Hb2, B2, hb2⟩ := begins_of I1 hq2
        obtain ⟨Hb3, B3, hb3⟩ := begins_of I1 hq3
        refine zip_begins3 B1 B2 B3 hb1 hb2 hb3 fun h' hz hTI hTO g1 g2 g3 hsz hk => wpAny_pyIter_zip hz ?_
        have I2 : Inv X pins σ H1 { s1 with heap := h' } := I1.kept (t' := s1.toks) hk
        refine ⟨s1.heap.objs.size + 5, [s1.heap.objs.size + 5, s1.heap.objs.size + 3, s1.heap.objs.size + 4, s1.heap.objs.size, s1.heap.objs.size + 1, s1.heap.objs.size + 2], _, _, H1, rfl, I2, turn_z3 (lt_of_sq I1 hq1) (lt_of_sq I1 hq2) (lt_of_sq I1 hq3), ⟨hz, hTI, ⟨_, _, _, hTO⟩, itAt_new g1, itAt_new g2, itAt_new g3⟩, fun c hcm => ?_, q⟩
        have e' : c = s1.heap.objs.size + 5 ∨ c = s1.heap.objs.size + 3 ∨ c = s1.heap.objs.size + 4 ∨ c = s1.heap.objs.size ∨ c = s1.heap.objs.size + 1 ∨ c = s1.heap.objs.size + 2 := by simpa using hcm
        have hle : s1.heap.objs.size ≤ c := by
          rcases e' with z | z | z | z | z | z <;> rw [z] <;> first | exact Nat.le_refl _ | exact Nat.le_add_right _ _
        exact I1.fpOk hle (I1.hok.fresh hle)
end
end Mi

end
section
set_option Elab.async false
set_option linter.all false
set_option maxRecDepth 100000
set_option autoImplicit false
set_option maxHeartbeats 4000000
namespace Mi
open PySem PySem.Spec PyProof.Rows L2

/-! ### what is walked, as data -/
/-- J yields the items ds, from the known heap Gb on -/
def YD (b : Bool) (K : PySem.W.Frag) (cm : CM) (Gb : Hp) (ds : List D) : Nat → Hp → V → Hp → Prop := fun i H x H' => ∀ G, Same Gb G → Sg G H → ∃ G' d, ds[i]? = some d ∧ Ext cm.T [] G H G' H' ∧ Rq b K cm G' x d
def WkD (b : Bool) (K : PySem.W.Frag) (cm : CM) (J : It) (ds : List D) (Gb : Hp) : Prop := Walk J ds.length (fun H => Same Gb H) (YD b K cm Gb ds)
section
variable {K : PySem.W.Frag} {cm : CM} {Gb : Hp}
theorem wk_list {a : Addr} {xs : List V} {ds : List D} (h : SqL K Gb a xs) (r : Rps K cm Gb xs ds) : WkD false K cm (Itl K a) ds Gb where
  goes := fun i H hi g => ⟨xs, xs[i]'(by rw [r.length]; exact hi), g.seq h, by simp⟩
  stops := fun H g => ⟨xs, g.seq h, by rw [r.length]; exact Nat.le_refl _⟩
  yields := fun i H x H' hi g y G s1 s2 => by
    obtain ⟨e, y⟩ := y
    subst e
    obtain ⟨v, hv, rv⟩ := r.get (List.getElem?_eq_getElem hi)
    have := y xs (g.seq h)
    rw [hv] at this
    cases this
    exact ⟨G, _, List.getElem?_eq_getElem hi, Ext.refl s2, .inl (rv.mono s1)⟩
theorem wk_tup {a : Addr} {xs : List V} {ds : List D} (h : SqT K Gb a xs) (r : Rps K cm Gb xs ds) : WkD false K cm (Itt K a) ds Gb where
  goes := fun i H hi g => ⟨xs, xs[i]'(by rw [r.length]; exact hi), same_sqT g h, by simp⟩
  stops := fun H g => ⟨xs, same_sqT g h, by rw [r.length]; exact Nat.le_refl _⟩
  yields := fun i H x H' hi g y G s1 s2 => by
    obtain ⟨e, y⟩ := y
    subst e
    obtain ⟨v, hv, rv⟩ := r.get (List.getElem?_eq_getElem hi)
    have := y xs (same_sqT g h)
    rw [hv] at this
    cases this
    exact ⟨G, _, List.getElem?_eq_getElem hi, Ext.refl s2, .inl (rv.mono s1)⟩
theorem rng_length (lo : Int) (n : Nat) : (rng lo n).length = n := by unfold rng; simp
theorem rng_get {lo : Int} {n i : Nat} (h : i < n) : (rng lo n)[i]? = some (.int (lo + i)) := by
  unfold rng
  rw [List.getElem?_map, List.getElem?_range h]
  rfl
theorem wk_rng {lo : Int} {n : Nat} : WkD false K cm (Itr lo n) (rng lo n) Gb where
  goes := fun i H hi g => by rw [rng_length] at hi; exact hi
  stops := fun H g => by rw [rng_length]; exact Nat.le_refl _
  yields := fun i H x H' hi g y G s1 s2 => by
    obtain ⟨e, y⟩ := y
    subst e y
    rw [rng_length] at hi
    exact ⟨G, _, rng_get hi, Ext.refl s2, .inl (.int _)⟩
theorem wk_jt {Src : Hp → Prop} {n : Nat} {Yv : Nat → List V → Prop} {ds : List D} (hn : ds.length = n) (src : ∀ H, Same Gb H → Src H) (hY : ∀ i vals, Yv i vals → ∃ dd, ds[i]? = some (.tup dd) ∧ Rps K cm Gb vals dd) : WkD true K cm (Jt Src n Yv) ds Gb where
  goes := fun i H hi g => ⟨src H g, by rw [← hn]; exact hi⟩
  stops := fun H g => ⟨src H g, hn⟩
  yields := fun i H x H' hi g y G s1 s2 => by
    obtain ⟨T, vals, ev, hT, eH, yv⟩ := y
    subst ev eH
    obtain ⟨dd, hd, r⟩ := hY i vals yv
    have ex := Ext.push (T := cm.T) (o := .tup vals) s2 hT
    exact ⟨_, _, hd, ex, .inr ⟨rfl, _, _, _, rfl, rfl, SqT.of upd_same, r.mono (s1.trans ex.g)⟩⟩
theorem enumD_length : ∀ (ds : List D) (k : Nat), (enumD k ds).length = ds.length
  | [], _ => rfl
  | _ :: ds, k => congrArg (· + 1) (enumD_length ds (k + 1))
theorem enumD_get : ∀ {ds : List D} {k i : Nat} {d : D}, ds[i]? = some d → (enumD k ds)[i]? = some (.tup [.int ((k + i : Nat) : Int), d])
  | [], _, _, _, h => by simp at h
  | x :: ds, k, 0, d, h => by
    simp at h
    subst h
    rfl
  | x :: ds, k, i + 1, d, h => by
    have := enumD_get (ds := ds) (k := k + 1) (i := i) (d := d) (by simpa using h)
    rw [show k + 1 + i = k + (i + 1) by omega] at this
    simpa [enumD] using this
theorem zip2_length : ∀ (xs ys : List D), (zip2 xs ys).length = min xs.length ys.length
  | [], _ => by simp [zip2]
  | _ :: _, [] => by simp [zip2]
  | x :: xs, y :: ys => by simp [zip2, zip2_length xs ys]
theorem zip2_get : ∀ {xs ys : List D} {i : Nat} {x y : D}, xs[i]? = some x → ys[i]? = some y → (zip2 xs ys)[i]? = some (.tup [x, y])
  | [], _, _, _, _, h, _ => by simp at h
  | _ :: _, [], _, _, _, _, h => by simp at h
  | _ :: _, _ :: _, 0, _, _, h, h' => by simp at h h'; subst h; subst h'; rfl
  | _ :: xs, _ :: ys, i + 1, x, y, h, h' => by
    have := zip2_get (xs := xs) (ys := ys) (i := i) (x := x) (y := y) (by simpa using h) (by simpa using h')
    simpa [zip2] using this
theorem zip3_length : ∀ (xs ys zs : List D), (zip3 xs ys zs).length = min (min xs.length ys.length) zs.length
  | [], _, _ => by simp [zip3]
  | _ :: _, [], _ => by simp [zip3]
  | _ :: _, _ :: _, [] => by simp [zip3]
  | x :: xs, y :: ys, z :: zs => by simp [zip3, zip3_length xs ys zs]
theorem zip3_get : ∀ {xs ys zs : List D} {i : Nat} {x y z : D}, xs[i]? = some x → ys[i]? = some y → zs[i]? = some z → (zip3 xs ys zs)[i]? = some (.tup [x, y, z])
  | [], _, _, _, _, _, _, h, _, _ => by simp at h
  | _ :: _, [], _, _, _, _, _, _, h, _ => by simp at h
  | _ :: _, _ :: _, [], _, _, _, _, _, _, h => by simp at h
  | _ :: _, _ :: _, _ :: _, 0, _, _, _, h, h', h'' => by simp at h h' h''; subst h; subst h'; subst h''; rfl
  | _ :: xs, _ :: ys, _ :: zs, i + 1, x, y, z, h, h', h'' => by
    have := zip3_get (xs := xs) (ys := ys) (zs := zs) (i := i) (x := x) (y := y) (z := z) (by simpa using h) (by simpa using h') (by simpa using h'')
    simpa [zip3] using this
theorem Rps.at' : ∀ {vs : List V} {ds : List D} {i : Nat} {v : V}, Rps K cm Gb vs ds → vs[i]? = some v → ∃ d, ds[i]? = some d ∧ Rp K cm Gb v d
  | _, _, _, _, .nil, e => by simp at e
  | _, _, 0, _, .cons r _, e => by simp at e; subst e; exact ⟨_, rfl, r⟩
  | _, _, i + 1, _, .cons _ t, e => by
    obtain ⟨v, h1, h2⟩ := Rps.at' (i := i) t (by simpa using e)
    exact ⟨v, by simpa using h1, h2⟩
/-- a list or a tuple, as data -/
theorem seq_of {v : V} {d : D} {ds : List D} (r : Rp K cm Gb v d) (h : seqOf d = some ds) : ∃ a xs b, v = .ref a ∧ SqA K Gb a xs b ∧ Rps K cm Gb xs ds := by
  cases r with
  | lst q r => cases h; exact ⟨_, _, true, rfl, q, r⟩
  | tup q r => cases h; exact ⟨_, _, false, rfl, q.sq, r⟩
  | _ => cases h
theorem wk_enum {a : Addr} {xs : List V} {b : Bool} {ds : List D} (h : SqA K Gb a xs b) (r : Rps K cm Gb xs ds) : WkD true K cm (Jenum K a xs b) (enumD 0 ds) Gb :=
  wk_jt (by rw [enumD_length, r.length]) (fun H s => h.mono s) fun i vals ⟨x, hx, e⟩ => by
    subst e
    obtain ⟨d, hd, rd⟩ := r.at' hx
    exact ⟨_, enumD_get hd, .cons (by simpa using Rp.int _) (.cons rd .nil)⟩
theorem wk_z2 {a1 a2 : Addr} {x1 x2 : List V} {b1 b2 : Bool} {d1 d2 : List D} (h1 : SqA K Gb a1 x1 b1) (h2 : SqA K Gb a2 x2 b2) (r1 : Rps K cm Gb x1 d1) (r2 : Rps K cm Gb x2 d2) : WkD true K cm (Jz2 K a1 a2 x1 x2 b1 b2) (zip2 d1 d2) Gb :=
  wk_jt (by rw [zip2_length, r1.length, r2.length]) (fun H s => ⟨h1.mono s, h2.mono s⟩) fun i vals ⟨x, y, hx, hy, e⟩ => by
    subst e
    obtain ⟨d, hd, rd⟩ := r1.at' hx
    obtain ⟨d', hd', rd'⟩ := r2.at' hy
    exact ⟨_, zip2_get hd hd', .cons rd (.cons rd' .nil)⟩
theorem wk_z3 {a1 a2 a3 : Addr} {x1 x2 x3 : List V} {b1 b2 b3 : Bool} {d1 d2 d3 : List D} (h1 : SqA K Gb a1 x1 b1) (h2 : SqA K Gb a2 x2 b2) (h3 : SqA K Gb a3 x3 b3) (r1 : Rps K cm Gb x1 d1) (r2 : Rps K cm Gb x2 d2) (r3 : Rps K cm Gb x3 d3) :
    WkD true K cm (Jz3 K a1 a2 a3 x1 x2 x3 b1 b2 b3) (zip3 d1 d2 d3) Gb :=
  wk_jt (by rw [zip3_length, r1.length, r2.length, r3.length]) (fun H s => ⟨h1.mono s, h2.mono s, h3.mono s⟩) fun i vals ⟨x, y, z, hx, hy, hz, e⟩ => by
    subst e
    obtain ⟨d, hd, rd⟩ := r1.at' hx
    obtain ⟨d', hd', rd'⟩ := r2.at' hy
    obtain ⟨d'', hd'', rd''⟩ := r3.at' hz
    exact ⟨_, zip3_get hd hd' hd'', .cons rd (.cons rd' (.cons rd'' .nil))⟩
end
def tI (b : Bool) (C : Sc) (O : List Nat) (f : ItE) : TI := fun σ H R => ∃ G δ, Stt C.F O G H σ δ ∧ match f δ with
  | .ok ds δ' => ∀ J G' H', Ext C.F.cm.T (ownS O σ) G H G' H' → Stt C.F O G' H' σ δ' → WkD b C.F.K C.F.cm J ds G' → R J H'
  | .exc c d δ' => ∀ G' H' cls dd, Stt C.F O G' H' σ δ' → XRp C G' c d cls dd → C.W cls dd σ H'
  | .bad => False
theorem pi_imp {X : Cx} {tg e : Expr} {t t' : TI} (h : PI X tg e t) (i : ∀ σ H Q, t' σ H Q → t σ H Q) : PI X tg e t' := ⟨fun pins s σ H Q I w => h.run pins s σ H Q I (i _ _ _ w)⟩
theorem pi_or {X : Cx} {tg e : Expr} {t t' : TI} (h : PI X tg e t) (h' : PI X tg e t') : PI X tg e (fun σ H R => t σ H R ∨ t' σ H R) := ⟨fun pins s σ H Q I w => w.elim (fun w => h.run pins s σ H Q I w) fun w => h'.run pins s σ H Q I w⟩
section
variable {X : Cx} {C : Sc} {O : List Nat} {a b c tg : Expr} {fa fb fc : Ex} {pos p : Pos}
/-- for x in a list or a tuple -/
theorem i_seq (hK : C.F.K = X.K) (h : PE X a (tD C O fa)) : PI X tg a (tI false C O (iSeq fa)) := pi_imp (pi_or (pi_list h) (pi_tup h)) fun σ H R ⟨G, δ, st, m⟩ => by
  unfold iSeq at m
  cases e : fa δ with
  | ok d δ1 =>
    rw [e, Res.bind_ok] at m
    cases es : seqOf d with
    | none => rw [es] at m; exact m.elim
    | some ds =>
      rw [es] at m
      have m' : ∀ J G' H', Ext C.F.cm.T (ownS O σ) G H G' H' → Stt C.F O G' H' σ δ1 → WkD false C.F.K C.F.cm J ds G' → R J H' := m
      cases d with
      | lst ds' =>
        cases es
        refine .inl ⟨G, δ, st, ?_⟩
        rw [e]
        intro v G1 H1 s1 st1 rv
        cases rv with
        | lst q r => exact ⟨_, rfl, ⟨_, hK ▸ st1.gh.seq q⟩, hK ▸ m' _ G1 H1 s1 st1 (wk_list q r)⟩
      | tup ds' =>
        cases es
        refine .inr ⟨G, δ, st, ?_⟩
        rw [e]
        intro v G1 H1 s1 st1 rv
        cases rv with
        | tup q r => exact ⟨_, rfl, ⟨_, hK ▸ same_sqT st1.gh q.sq⟩, hK ▸ m' _ G1 H1 s1 st1 (wk_tup q.sq r)⟩
      | _ => cases es
  | exc c d δ' =>
    rw [e] at m
    exact .inl ⟨G, δ, st, by rw [e]; exact m⟩
  | bad => rw [e] at m; exact m.elim
theorem a_one {f : Ex} {σ : L2.St} {H : Hp} {Q : List V → Hp → Prop} (h : tD C O f σ H fun x H' => Q [x] H') : tCons (tD C O f) tNil σ H Q := h
/-- range(a): the number below 2^62 -/
theorem i_rng (hg : Gl X "range") (hm : X.mg "range" = none) (h : PA X [a] (tCons (tD C O fa) tNil)) (hs : starEach [a] X.env = [(false, eval a X.env)] := by rfl) : PI X tg (.Call (.Name "range" p) [a] [] pos) (tI false C O (iRng fa)) :=
  pi_imp (pi_range1 hg hm h hs) fun σ H R ⟨G, δ, st, m⟩ => by
    refine a_one ⟨G, δ, st, ?_⟩
    unfold iRng at m
    cases e : fa δ with
    | ok d δ1 =>
      rw [e, Res.bind_ok] at m
      intro v G1 H1 s1 st1 rv
      cases rv with
      | int i =>
        by_cases hi : -(2 ^ 62) ≤ i ∧ i < 2 ^ 62
        · refine ⟨i, rfl, hi.1, hi.2, ?_⟩
          have e2 : smInt (.int i) = some i := smInt_iff hi
          rw [e2] at m
          exact m _ G1 H1 s1 st1 wk_rng
        · have e2 : smInt (.int i) = none := by rw [← b62_eq] at hi; unfold smInt; simp only; rw [if_neg hi]
          rw [e2] at m
          exact m.elim
      | _ => exact m.elim
    | exc c d δ' => rw [e] at m; exact m
    | bad => rw [e] at m; exact m
theorem i_rng2 (hg : Gl X "range") (hm : X.mg "range" = none) (h : PA X [a, b] (tCons (tD C O fa) (tCons (tD C O fb) tNil))) (hs : starEach [a, b] X.env = [(false, eval a X.env), (false, eval b X.env)] := by rfl) (hs2 : starEach [b] X.env = [(false, eval b X.env)] := by rfl) :
    PI X tg (.Call (.Name "range" p) [a, b] [] pos) (tI false C O (iRng2 fa fb)) :=
  pi_imp (pi_range2 hg hm h hs hs2) fun σ H R ⟨G, δ, st, m⟩ => by
    show tD C O fa σ H _
    refine ⟨G, δ, st, ?_⟩
    unfold iRng2 at m
    cases e : fa δ with
    | ok d δ1 =>
      rw [e, Res.bind_ok] at m
      intro v G1 H1 s1 st1 rv
      refine ⟨G1, δ1, st1, ?_⟩
      cases eb : fb δ1 with
      | ok d2 δ2 =>
        rw [eb, Res.bind_ok] at m
        intro w G2 H2 s2 st2 rw2
        cases e1 : smInt d with
        | none => rw [e1] at m; exact m.elim
        | some i =>
          cases e3 : smInt d2 with
          | none => rw [e1, e3] at m; exact m.elim
          | some j =>
            rw [e1, e3] at m
            obtain ⟨rfl, l1, l2⟩ := smInt_of e1
            obtain ⟨rfl, l3, l4⟩ := smInt_of e3
            cases rv
            cases rw2
            exact ⟨i, j, rfl, ⟨l1, l2, l3, l4⟩, m _ G2 H2 (s1.thn s2) st2 wk_rng⟩
      | exc c d δ' => rw [eb] at m; exact m
      | bad => rw [eb] at m; exact m
    | exc c d δ' => rw [e] at m; exact m
    | bad => rw [e] at m; exact m
theorem i_enum {elts : List Expr} {kk : Nat} {tpos : Pos} (hK : C.F.K = X.K) (hg : Gl X "enumerate") (hm : X.mg "enumerate" = none) (h : PA X [a] (tCons (tD C O fa) tNil)) (hs : starEach [a] X.env = [(false, eval a X.env)] := by rfl) :
    PI X (.Tuple elts kk tpos) (.Call (.Name "enumerate" p) [a] [] pos) (tI true C O (iEnum fa)) :=
  pi_imp (pi_en hg hm h hs) fun σ H R ⟨G, δ, st, m⟩ => by
    refine a_one ⟨G, δ, st, ?_⟩
    unfold iEnum at m
    cases e : fa δ with
    | ok d δ1 =>
      rw [e, Res.bind_ok] at m
      intro v G1 H1 s1 st1 rv
      cases es : seqOf d with
      | none => rw [es] at m; exact m.elim
      | some ds =>
        rw [es] at m
        obtain ⟨l, xs, b, ev, q, r⟩ := seq_of rv es
        subst ev
        exact ⟨l, xs, b, rfl, hK ▸ q.mono st1.gh, hK ▸ m _ G1 H1 s1 st1 (wk_enum q r)⟩
    | exc c d δ' => rw [e] at m; exact m
    | bad => rw [e] at m; exact m
theorem i_zip {elts : List Expr} {kk : Nat} {tpos : Pos} (hK : C.F.K = X.K) (hg : Gl X "zip") (hm : X.mg "zip" = none) (h : PA X [a, b] (tCons (tD C O fa) (tCons (tD C O fb) tNil)))
    (hs : starEach [a, b] X.env = (false, eval a X.env) :: starEach [b] X.env := by rfl) (hpl : (backTo pos (starEach [b] X.env)).any (·.1) = false := by rfl) : PI X (.Tuple elts kk tpos) (.Call (.Name "zip" p) [a, b] [] pos) (tI true C O (iZip fa fb)) :=
  pi_imp (pi_z2 hg hm h hs hpl) fun σ H R ⟨G, δ, st, m⟩ => by
    show tD C O fa σ H _
    refine ⟨G, δ, st, ?_⟩
    unfold iZip at m
    cases e : fa δ with
    | ok d δ1 =>
      rw [e, Res.bind_ok] at m
      intro v G1 H1 s1 st1 rv
      refine ⟨G1, δ1, st1, ?_⟩
      cases eb : fb δ1 with
      | ok d2 δ2 =>
        rw [eb, Res.bind_ok] at m
        intro w G2 H2 s2 st2 rw2
        cases e1 : seqOf d with
        | none => rw [e1] at m; exact m.elim
        | some xs =>
          cases e3 : seqOf d2 with
          | none => rw [e1, e3] at m; exact m.elim
          | some ys =>
            rw [e1, e3] at m
            obtain ⟨l1, x1, b1, ev, q1, r1⟩ := seq_of (rv.mono s2.g) e1
            obtain ⟨l2, x2, b2, ev2, q2, r2⟩ := seq_of rw2 e3
            subst ev ev2
            exact ⟨l1, l2, x1, x2, b1, b2, rfl, hK ▸ q1.mono st2.gh, hK ▸ q2.mono st2.gh, hK ▸ m _ G2 H2 (s1.thn s2) st2 (wk_z2 q1 q2 r1 r2)⟩
      | exc c d δ' => rw [eb] at m; exact m
      | bad => rw [eb] at m; exact m
    | exc c d δ' => rw [e] at m; exact m
    | bad => rw [e] at m; exact m
theorem i_zip3 {elts : List Expr} {kk : Nat} {tpos : Pos} (hK : C.F.K = X.K) (hg : Gl X "zip") (hm : X.mg "zip" = none) (h : PA X [a, b, c] (tCons (tD C O fa) (tCons (tD C O fb) (tCons (tD C O fc) tNil))))
    (hs : starEach [a, b, c] X.env = (false, eval a X.env) :: starEach [b, c] X.env := by rfl) (hpl : (backTo pos (starEach [b, c] X.env)).any (·.1) = false := by rfl) : PI X (.Tuple elts kk tpos) (.Call (.Name "zip" p) [a, b, c] [] pos) (tI true C O (iZip3 fa fb fc)) :=
  pi_imp (pi_z3 hg hm h hs hpl) fun σ H R ⟨G, δ, st, m⟩ => by
    show tD C O fa σ H _
    refine ⟨G, δ, st, ?_⟩
    unfold iZip3 at m
    cases e : fa δ with
    | ok d δ1 =>
      rw [e, Res.bind_ok] at m
      intro v G1 H1 s1 st1 rv
      refine ⟨G1, δ1, st1, ?_⟩
      cases eb : fb δ1 with
      | ok d2 δ2 =>
        rw [eb, Res.bind_ok] at m
        intro w G2 H2 s2 st2 rw2
        refine ⟨G2, δ2, st2, ?_⟩
        cases ec : fc δ2 with
        | ok d3 δ3 =>
          rw [ec, Res.bind_ok] at m
          intro u G3 H3 s3 st3 rw3
          cases e1 : seqOf d with
          | none => rw [e1] at m; exact m.elim
          | some xs =>
            cases e3 : seqOf d2 with
            | none => rw [e1, e3] at m; exact m.elim
            | some ys =>
              cases e4 : seqOf d3 with
              | none => rw [e1, e3, e4] at m; exact m.elim
              | some zs =>
                rw [e1, e3, e4] at m
                obtain ⟨l1, x1, b1, ev, q1, r1⟩ := seq_of (rv.mono (s2.g.trans s3.g)) e1
                obtain ⟨l2, x2, b2, ev2, q2, r2⟩ := seq_of (rw2.mono s3.g) e3
                obtain ⟨l3, x3, b3, ev3, q3, r3⟩ := seq_of rw3 e4
                subst ev ev2 ev3
                exact ⟨l1, l2, l3, x1, x2, x3, b1, b2, b3, rfl, hK ▸ q1.mono st3.gh, hK ▸ q2.mono st3.gh, hK ▸ q3.mono st3.gh, hK ▸ m _ G3 H3 ((s1.thn s2).thn s3) st3 (wk_z3 q1 q2 q3 r1 r2 r3)⟩
        | exc c d δ' => rw [ec] at m; exact m
        | bad => rw [ec] at m; exact m
      | exc c d δ' => rw [eb] at m; exact m
      | bad => rw [eb] at m; exact m
    | exc c d δ' => rw [e] at m; exact m
    | bad => rw [e] at m; exact m

/-! ### loops -/
/-- the scope within a loop whose own slots are O -/
abbrev Sc.loop (C : Sc) (O : List Nat) : Sc := { C with L := O }
theorem ps_loop {O' : List Nat} {G : Hp} {D : Ends} {o : Out} {nx' bk' ct' : L2.St → Hp → Prop} (h : match o with
    | .nx δ' => ∀ σ' G' H', Same G G' → Stt C.F O' G' H' σ' δ' → nx' σ' H'
    | .ct δ' => ∀ σ' G' H', Same G G' → Stt C.F O G' H' σ' δ' → ct' σ' H'
    | .bk δ' => ∀ σ' G' H', Same G G' → Stt C.F O G' H' σ' δ' → bk' σ' H'
    | .rt d δ' => ∀ v G' H', RetS C.F G' H' δ' → Rp C.F.K C.F.cm G' v d → FrR C H' δ' v d → D.rt v H'
    | .exc c d δ' => ∀ O'' σ' G' H' cls dd, C.XO O'' → Stt C.F O'' G' H' σ' δ' → XRp C G' c d cls dd → C.W cls dd σ' H'
    | .bad => False) : Ps (C.loop O) O' G { D with nx := nx', ct := ct', bk := bk' } o := by
  cases o <;> exact h
theorem s_for {bq : Bool} {g : TG} {t : Tg} {gb : Sm} {it : ItE} {iter : Expr} {body : List Stmt} (hp : PassesOwn (model X.prog X.w) X.A X.env X.xe) (hc : X.calm = true) (hi : PI X tg iter (tI bq C O it)) (hg : PG X tg g) (ht : GT bq C O t g)
    (hb : PSs X body (tS (C.loop O) O O gb)) (hs : ∀ x, foldedSetIterable iter X.env x = pure x := by intro _; rfl) (hx : C.XO O := by trivial) : PS X (.For tg iter body [] pos) (tS C O O (sFor it t gb)) :=
  ps_imp (ps_for hp hc hi hg hb hs) fun D σ H ⟨G, δ, st, m⟩ => by
    refine ⟨G, δ, st, ?_⟩
    unfold sFor at m
    cases e : it δ with
    | ok ds δ1 =>
      rw [e] at m
      have m' : Ps C O G D (forL t gb ds δ1) := m
      intro J G1 H1 s1 st1 wk
      refine for_it wk (fun i σ H => ∃ G δ, Stt C.F O G H σ δ ∧ Same G1 G ∧ Ps C O G D (forL t gb (ds.drop i) δ)) ⟨G1, δ1, st1, .refl G1, m'.mono s1.g⟩ (fun i σ H _ ⟨G, δ, st, s, _⟩ => s.trans st.gh) ?_ ?_
      · rintro i x σ2 H2 H3 hlt ⟨G2, δ2, st2, s2, m2⟩ y
        obtain ⟨G3, d, hd, ex, rv⟩ := y G2 s2 st2.gh
        have hdrop : ds.drop i = d :: ds.drop (i + 1) := by
          rw [List.drop_eq_getElem_cons hlt]
          congr
          have := List.getElem?_eq_getElem hlt
          rw [hd] at this
          exact (Option.some.inj this).symm
        rw [hdrop] at m2
        unfold forL at m2
        have st3 := st2.step ex
        cases et : t.put d δ2 with
        | none => rw [et] at m2; exact m2.elim
        | some δ3 =>
          rw [et] at m2
          refine ht x d σ2 H3 G3 δ2 δ3 _ st3 rv et fun σ' st4 => ?_
          refine ⟨G3, δ3, st4, ps_loop ?_⟩
          have sG : Same G2 G3 := ex.g
          have m3 : Ps C O G2 D (match gb δ3 with | .nx δ2 => forL t gb (ds.drop (i + 1)) δ2 | .ct δ2 => forL t gb (ds.drop (i + 1)) δ2 | .bk δ2 => .nx δ2 | o => o) := m2
          cases eb : gb δ3 with
          | nx δ4 => rw [eb] at m3; exact fun σ5 G5 H5 s5 st5 => ⟨G5, δ4, st5, (s2.trans sG).trans s5, m3.mono (sG.trans s5)⟩
          | ct δ4 => rw [eb] at m3; exact fun σ5 G5 H5 s5 st5 => ⟨G5, δ4, st5, (s2.trans sG).trans s5, m3.mono (sG.trans s5)⟩
          | bk δ4 => rw [eb] at m3; exact fun σ5 G5 H5 s5 st5 => m3 σ5 G5 H5 (sG.trans s5) st5
          | rt d δ4 => rw [eb] at m3; exact m3
          | exc c d δ4 => rw [eb] at m3; exact m3
          | bad => rw [eb] at m3; exact m3
      · rintro σ2 H2 ⟨G2, δ2, st2, s2, m2⟩
        rw [List.drop_length] at m2
        exact m2 σ2 G2 H2 (.refl G2) st2
    | exc c d δ1 => rw [e] at m; exact fun G' H' cls dd st' x => m O σ G' H' cls dd hx st' x
    | bad => rw [e] at m; exact m
theorem s_while {gb : Sm} {body : List Stmt} (hp : PassesOwn (model X.prog X.w) X.A X.env X.xe) (hc : PT X c (tDT C O fc)) (hb : PSs X body (tS (C.loop O) O O gb)) (hx : C.XO O := by trivial) : PS X (.While c body [] pos) (tS C O O (sWhile fc gb)) :=
  ps_imp (ps_while hp hc hb) fun D σ H ⟨G, δ, st, m⟩ => by
    have nb : sWhile fc gb δ ≠ .bad := fun e => by rw [e] at m; exact m
    obtain ⟨n, hn⟩ := sWhile_run nb
    refine ⟨fun k σ H => ∃ G δ o, Stt C.F O G H σ δ ∧ whN fc gb k δ = some o ∧ Ps C O G D o, ⟨n, G, δ, _, st, hn, m⟩, ?_⟩
    rintro k σ H ⟨G, δ, o, st, hk, m⟩
    cases k with
    | zero => cases hk
    | succ k =>
      refine ⟨G, δ, st, ?_⟩
      simp only [whN] at hk
      cases e : fc δ with
      | ok d δ1 =>
        rw [e] at hk
        cases d with
        | bl b =>
          refine ⟨b, rfl, fun G1 H1 s1 st1 => ?_⟩
          cases b with
          | true =>
            rw [if_pos rfl]
            refine ⟨fun σ' H' => ∃ G δ o, Stt C.F O G H' σ' δ ∧ whN fc gb k δ = some o ∧ Ps C O G D o, fun σ' H' z => ⟨k, Nat.lt_succ_self k, z⟩, G1, δ1, st1, ps_loop ?_⟩
            simp only at hk
            cases eb : gb δ1 with
            | nx δ2 => rw [eb] at hk; exact fun σ5 G5 H5 s5 st5 => ⟨G5, δ2, o, st5, hk, m.mono (s1.g.trans s5)⟩
            | ct δ2 => rw [eb] at hk; exact fun σ5 G5 H5 s5 st5 => ⟨G5, δ2, o, st5, hk, m.mono (s1.g.trans s5)⟩
            | bk δ2 => rw [eb] at hk; cases hk; exact fun σ5 G5 H5 s5 st5 => m σ5 G5 H5 (s1.g.trans s5) st5
            | rt d δ2 => rw [eb] at hk; cases hk; exact m
            | exc c d δ2 => rw [eb] at hk; cases hk; exact m
            | bad => rw [eb] at hk; cases hk; exact m
          | false =>
            rw [if_neg Bool.false_ne_true]
            cases hk
            exact m σ G1 H1 s1.g st1
        | _ => cases hk; exact m.elim
      | exc c d δ1 => rw [e] at hk; cases hk; exact fun G' H' cls dd st' x => m O σ G' H' cls dd hx st' x
      | bad => rw [e] at hk; cases hk; exact m
end
end Mi

end
section
set_option Elab.async false
set_option linter.all false
set_option maxRecDepth 100000
set_option autoImplicit false
set_option maxHeartbeats 4000000
namespace Mi
open PySem PySem.Spec PyProof.Rows L2

theorem cap_line : cap < sizeLine := by rw [sizeLine_eq, cap_eq]; decide
/-! ### comprehensions -/
theorem wipeE_length (δ : Env) : ∀ vs : List Nat, (wipeE δ vs).length = δ.length
  | [] => rfl
  | v :: vs => by unfold wipeE; rw [List.length_set, wipeE_length δ vs]
theorem restE_length (δ0 : Env) : ∀ (vs : List Nat) (δ : Env), (restE δ0 vs δ).length = δ.length
  | [], _ => rfl
  | v :: vs, δ => by unfold restE; rw [List.length_set, restE_length δ0 vs]
theorem wipeE_at {δ : Env} {i : Nat} {x : D} : ∀ {vs : List Nat}, (wipeE δ vs)[i]? = some (some x) → δ[i]? = some (some x) ∧ i ∉ vs
  | [], h => ⟨h, by simp⟩
  | v :: vs, h => by
    unfold wipeE at h
    by_cases hi : v = i
    · subst hi
      by_cases hv : v < (wipeE δ vs).length
      · rw [List.getElem?_set_self hv] at h; cases h
      · rw [List.getElem?_eq_none (by simpa using hv)] at h; cases h
    · rw [List.getElem?_set_ne hi] at h
      obtain ⟨h1, h2⟩ := wipeE_at h
      exact ⟨h1, by simp only [List.mem_cons, not_or]; exact ⟨fun e => hi e.symm, h2⟩⟩
theorem wipeE_out {δ : Env} {i : Nat} : ∀ {vs : List Nat}, i ∉ vs → (wipeE δ vs)[i]? = δ[i]?
  | [], _ => rfl
  | v :: vs, h => by
    simp only [List.mem_cons, not_or] at h
    unfold wipeE
    rw [List.getElem?_set_ne (fun e => h.1 e.symm)]
    exact wipeE_out h.2
theorem wipeS_out {σ : L2.St} {i : Nat} : ∀ {vs : List Nat}, i ∉ vs → (wipe σ vs)[i]? = σ[i]?
  | [], _ => rfl
  | v :: vs, h => by
    simp only [List.mem_cons, not_or] at h
    unfold wipe
    rw [List.getElem?_set_ne (fun e => h.1 e.symm)]
    exact wipeS_out h.2
theorem restE_out {δ0 δ : Env} {i : Nat} : ∀ {vs : List Nat}, i ∉ vs → (restE δ0 vs δ)[i]? = δ[i]?
  | [], _ => rfl
  | v :: vs, h => by
    simp only [List.mem_cons, not_or] at h
    unfold restE
    rw [List.getElem?_set_ne (fun e => h.1 e.symm)]
    exact restE_out h.2
theorem restE_in {δ0 δ : Env} {i : Nat} (hl : i < δ.length) : ∀ {vs : List Nat}, i ∈ vs → (restE δ0 vs δ)[i]? = some ((δ0[i]?).getD none)
  | [], h => by simp at h
  | v :: vs, h => by
    unfold restE
    by_cases e : v = i
    · subst e
      rw [List.getElem?_set_self (by rw [restE_length]; exact hl)]
    · rw [List.getElem?_set_ne e]
      rcases List.mem_cons.mp h with z | z
      · exact absurd z.symm e
      · exact restE_in hl z
section
variable {F : Fm} {O : List Nat} {G H G1 H1 : Hp} {σ : L2.St} {δ δ1 δ2 : Env}
theorem Stt.wipe {vs : List Nat} (s : Stt F O G H σ δ) (hd : ∀ v ∈ vs, v ∉ O) (kd : ∀ v ∈ vs, v ∉ F.ks) : Stt F O G H (wipe σ vs) (wipeE δ vs) where
  ext := s.ext
  tabs := s.tabs
  kp := fun j hj => by rw [wipeS_out (fun z => kd j z hj)]; exact s.kp j hj
  ln := by rw [wipe_length]; exact s.ln
  le := by rw [wipeE_length]; exact s.le
  sh := fun i d hi h => by
    obtain ⟨h1, h2⟩ := wipeE_at h
    rw [wipeS_out h2]
    exact s.sh i d hi h1
  ow := fun i hi => by
    have hv : i ∉ vs := fun z => hd i z hi
    rw [wipeS_out hv, wipeE_out hv]
    exact s.ow i hi
  dis := fun i hi j hj a => by
    rw [wipeS_out (fun z => hd i z hi), wipeS_out (fun z => hd j z hj)]
    exact s.dis i hi j hj a
  fix := fun p hp => ⟨(s.fix p hp).1, by rw [wipeS_out (fun z => hd p.1 z (s.fix p hp).1)]; exact (s.fix p hp).2⟩
theorem Stt.unwipe {vs : List Nat} (s : Stt F O G1 H1 σ δ1) (s2 : Stt F O G H (L2.wipe σ vs) (wipeE δ2 vs)) (hs : Same G1 G) (hd : ∀ v ∈ vs, v ∉ O) : Stt F O G H σ (restE δ1 vs δ2) where
  ext := s2.ext
  tabs := s2.tabs
  kp := s.kp
  ln := s.ln
  le := by rw [restE_length, ← s2.le, wipeE_length]
  sh := fun i d hi h => by
    by_cases hv : i ∈ vs
    · have hl : i < δ2.length := by
        have h1 := (List.getElem?_eq_some_iff.mp h).1
        rw [restE_length] at h1
        exact h1
      rw [restE_in hl hv] at h
      have h' : δ1[i]? = some (some d) := by
        cases q : δ1[i]? with
        | none => rw [q] at h; cases h
        | some o => rw [q] at h; exact h
      obtain ⟨v, e, r⟩ := s.sh i d hi h'
      exact ⟨v, e, r.mono hs⟩
    · rw [restE_out hv] at h
      have := s2.sh i d hi (by rw [wipeE_out hv]; exact h)
      rw [wipeS_out hv] at this
      exact this
  ow := fun i hi => by
    have hv : i ∉ vs := fun z => hd i z hi
    rw [restE_out hv]
    have := s2.ow i hi
    rw [wipeS_out hv, wipeE_out hv] at this
    exact this
  dis := s.dis
  fix := s.fix
end
/-- the scope of a comprehension's block: nothing is raised there -/
abbrev Sc.blk (C : Sc) : Sc := { C with W := fun _ _ _ _ => False }
section
variable {X : Cx} {C : Sc} {O : List Nat} {elt tg iter : Expr} {fe : Ex} {pos p : Pos}
theorem wipeS_in {σ : L2.St} {i : Nat} (hl : i < σ.length) : ∀ {vs : List Nat}, i ∈ vs → (L2.wipe σ vs)[i]? = some none
  | [], h => by simp at h
  | v :: vs, h => by
    unfold L2.wipe
    by_cases e : v = i
    · subst e
      rw [List.getElem?_set_self (by rw [wipe_length]; exact hl)]
    · rw [List.getElem?_set_ne e]
      rcases List.mem_cons.mp h with z | z
      · exact absurd z.symm e
      · exact wipeS_in hl z
theorem wipeS_ext {σ τ : L2.St} {vs : List Nat} (hl : σ.length = τ.length) (h : ∀ i, i ∉ vs → σ[i]? = τ[i]?) : L2.wipe σ vs = L2.wipe τ vs := by
  apply List.ext_getElem?
  intro i
  by_cases hv : i ∈ vs
  · by_cases hi : i < σ.length
    · rw [wipeS_in hi hv, wipeS_in (by rw [← hl]; exact hi) hv]
    · rw [List.getElem?_eq_none (by rw [wipe_length]; omega), List.getElem?_eq_none (by rw [wipe_length]; omega)]
  · rw [wipeS_out hv, wipeS_out hv]
    exact h i hv
theorem wipeS_idem (σ : L2.St) (vs : List Nat) : L2.wipe (L2.wipe σ vs) vs = L2.wipe σ vs := wipeS_ext (by rw [wipe_length]) fun i hi => wipeS_out hi
/-- g stores at the block's own names alone -/
def GW (vs : List Nat) (g : TG) : Prop := ∀ (v : V) (σ : L2.St) (H : Hp) (Q : L2.St → Hp → Prop), g v σ H (fun σ' H' => L2.wipe σ' vs = L2.wipe σ vs → Q σ' H') → g v σ H fun σ' H' => L2.wipe σ' vs = L2.wipe σ vs ∧ Q σ' H'
def GWs (vs : List Nat) (g : TGs) : Prop := ∀ (v : List V) (σ : L2.St) (H : Hp) (Q : L2.St → Hp → Prop), g v σ H (fun σ' H' => L2.wipe σ' vs = L2.wipe σ vs → Q σ' H') → g v σ H fun σ' H' => L2.wipe σ' vs = L2.wipe σ vs ∧ Q σ' H'
theorem wipe_set {σ : L2.St} {vs : List Nat} {i : Nat} {x : Option V} (hi : i ∈ vs) : L2.wipe (σ.set i x) vs = L2.wipe σ vs := wipeS_ext (by simp) fun j hj => List.getElem?_set_ne (fun e => hj (by rw [← e]; exact hi))
theorem gw_n {vs : List Nat} {i : Nat} (hi : i ∈ vs) : GW vs (gName i) := fun v σ H Q h => ⟨wipe_set hi, h (wipe_set hi)⟩
theorem gws_nil {vs : List Nat} : GWs vs gNil := fun v σ H Q ⟨e, h⟩ => ⟨e, rfl, h rfl⟩
theorem gws_cons {vs : List Nat} {i : Nat} {g : TGs} (hi : i ∈ vs) (h : GWs vs g) : GWs vs (gCons (gName i) g) := fun v σ H Q ⟨x, r, e, hq⟩ => by
  have e2 : L2.wipe (σ.set i (some x)) vs = L2.wipe σ vs := wipe_set hi
  refine ⟨x, r, e, ?_⟩
  have h2 := h r (σ.set i (some x)) H Q
  rw [e2] at h2
  exact h2 hq
theorem gw_t {vs : List Nat} {K : PySem.W.Frag} {n : Nat} {g : TGs} (h : GWs vs g) : GW vs (gTup K n g) := fun v σ H Q ⟨a, xs, e, q, l, hq⟩ => ⟨a, xs, e, q, l, h xs σ H Q hq⟩
theorem n_lc_r {bq : Bool} {wi : TI} {g : TG} {tt : TT} {te : TE} {t : Tg} {vs : List Nat} {c : Option Ex} {it : ItE} (hi : ∀ σ H R, tI bq C O it σ H R → wi σ H R) (ht : GT bq C O t g) (hd : ∀ v ∈ vs, v ∉ O) (kd : ∀ v ∈ vs, v ∉ C.F.ks) (hg : GW vs g)
    (htt : ∀ (σ : L2.St) (H : Hp) (Q : Bool → Hp → Prop) (G : Hp) (δ : Env), Stt C.F O G H σ δ → Pb C.blk O G H σ Q (tstC c δ) → tt σ H Q)
    (hte : ∀ (σ : L2.St) (H : Hp) (Q : VK), tD C.blk O fe σ H Q → te σ H Q) : ∀ (σ : L2.St) (H : Hp) (Q : VK), tN C O (eLc it t vs c fe) σ H Q → tLc wi g tt te vs σ H Q := fun σ H Q ⟨G, δ, st, m⟩ => by
  refine hi _ _ _ ⟨G, δ, st, ?_⟩
  unfold eLc at m
  cases e : it δ with
  | exc c d δ1 => rw [e] at m; exact m
  | bad => rw [e] at m; exact m
  | ok ds δ1 =>
    rw [e, Res.bind_ok] at m
    by_cases hcap : ds.length ≤ cap
    case neg => rw [if_neg hcap] at m; exact m.elim
    rw [if_pos hcap] at m
    intro J G1 H1 s1 st1 wk Dn hDn
    obtain ⟨f1, f2, f3, f4⟩ := fresh_facts (u := .lst []) st1 hDn
    have hpn : H Dn = none := s1.back hDn
    -- the end, told of what is made so far
    let Fin : Hp → Hp → List D → Res (List D) → Prop := fun G H ys r => match r with
      | .ok xs δ2 => ∀ G' H', Ext C.F.cm.T (ownS O σ) G1 H1 G' H' → Stt C.F O G' H' (L2.wipe σ vs) (wipeE δ2 vs) → G' Dn = none → OwnAt C.F.K C.F.cm G' H' Dn (.lst (ys ++ xs)) → Q (.ref Dn) H'
      | _ => False
    have fin0 : Fin G1 H1 [] (lcL t vs c fe ds δ1) := by
      show match lcL t vs c fe ds δ1 with | .ok xs δ2 => _ | _ => _
      cases er : lcL t vs c fe ds δ1 with
      | ok xs δ2 =>
        rw [er] at m
        exact fun G' H' s2 st2 n o => m Dn G' H' (s1.thn s2) (st1.unwipe st2 s2.g hd) n hpn o
      | exc c d δ2 => rw [er] at m; exact m
      | bad => rw [er] at m; exact m
    have sig : ∀ {σ' : L2.St}, L2.wipe σ' vs = L2.wipe σ vs → ownS O σ' = ownS O σ := fun {σ'} h => by
      have key : ∀ O' : List Nat, (∀ i ∈ O', i ∈ O) → ownS O' σ' = ownS O' σ := by
        intro O'
        induction O' with
        | nil => intro _; rfl
        | cons i r ih =>
          intro hr
          have hv : i ∉ vs := fun z => hd i z (hr i List.mem_cons_self)
          have e : σ'[i]? = σ[i]? := by rw [← wipeS_out (σ := σ') hv, h, wipeS_out hv]
          have ih := ih fun j hj => hr j (List.mem_cons_of_mem _ hj)
          unfold ownS at ih ⊢
          rw [List.filterMap_cons, List.filterMap_cons, e, ih]
      exact key O fun _ h => h
    have hDo : Dn ∉ ownS O σ := fun z => by
      obtain ⟨i, hi, e⟩ := mem_ownS.mp z
      exact f4 i hi e
    refine lc_it wk (fun i H => ∃ G δ ys acc, Stt C.F O G H (L2.wipe σ vs) (wipeE δ vs) ∧ Ext C.F.cm.T (ownS O σ) G1 H1 G H ∧ G Dn = none ∧ H Dn = some (.lst acc) ∧ Rps C.F.K C.F.cm G acc ys ∧ ys.length ≤ i ∧ Fin G H ys (lcL t vs c fe (ds.drop i) δ))
      ⟨G1, δ1, [], [], f1.wipe hd kd, (Ext.refl st1.gh).and (Ext.fresh st1.gh hDn), f2, upd_same, .nil, Nat.le_refl _, fin0⟩ (fun i H _ ⟨G, _, _, _, st, s, _⟩ => s.g.trans st.gh) ?_ ?_
    · rintro i x H2 H3 hlt ⟨G2, δ2, ys, acc, st2, s2, n2, hD2, ra, hys, fin⟩ y
      obtain ⟨G3, d, hdi, ex, rv⟩ := y G2 s2.g st2.gh
      have hdrop : ds.drop i = d :: ds.drop (i + 1) := by
        rw [List.drop_eq_getElem_cons hlt]
        congr
        have := List.getElem?_eq_getElem hlt
        rw [hdi] at this
        exact (Option.some.inj this).symm
      rw [hdrop] at fin
      unfold lcL at fin
      have st3 := st2.step ex
      have n3 : G3 Dn = none := (ex.new Dn (by rw [hD2]; simp)).trans n2
      have hD3 : H3 Dn = some (.lst acc) := ex.keep Dn _ hD2 (by simp) (nc_lst (a := Dn)).1
      have s3 := s2.and ex
      cases et : t.put d (wipeE δ2 vs) with
      | none => simp only [et] at fin; exact fin.elim
      | some δ3 =>
        simp only [et] at fin
        have turn : g x (L2.wipe σ vs) H3 (fun σ' H' => L2.wipe σ' vs = L2.wipe (L2.wipe σ vs) vs → tt σ' H' fun b H5 =>
            if b = true then te σ' H5 fun y H6 => ∃ acc, H6 Dn = some (.lst acc) ∧ acc.length < sizeLine ∧ ∃ G δ ys acc', Stt C.F O G (upd H6 Dn (.lst (acc ++ [y]))) (L2.wipe σ vs) (wipeE δ vs) ∧ Ext C.F.cm.T (ownS O σ) G1 H1 G (upd H6 Dn (.lst (acc ++ [y]))) ∧ G Dn = none ∧
              (upd H6 Dn (.lst (acc ++ [y]))) Dn = some (.lst acc') ∧ Rps C.F.K C.F.cm G acc' ys ∧ ys.length ≤ i + 1 ∧ Fin G (upd H6 Dn (.lst (acc ++ [y]))) ys (lcL t vs c fe (ds.drop (i + 1)) δ)
            else ∃ G δ ys acc, Stt C.F O G H5 (L2.wipe σ vs) (wipeE δ vs) ∧ Ext C.F.cm.T (ownS O σ) G1 H1 G H5 ∧ G Dn = none ∧ H5 Dn = some (.lst acc) ∧ Rps C.F.K C.F.cm G acc ys ∧ ys.length ≤ i + 1 ∧ Fin G H5 ys (lcL t vs c fe (ds.drop (i + 1)) δ)) := by
          refine ht x d _ H3 G3 _ δ3 _ st3 rv et fun σ' st4 wz => ?_
          rw [wipeS_idem] at wz
          have so := sig wz
          have back : ∀ {G' H' : Hp} {δ' : Env}, Stt C.F O G' H' σ' δ' → Stt C.F O G' H' (L2.wipe σ vs) (wipeE δ' vs) := fun {G' H' δ'} z => by rw [← wz]; exact z.wipe hd kd
          refine htt σ' H3 _ G3 δ3 st4 ?_
          cases ec : tstC c δ3 with
          | exc _ _ _ => rw [ec] at fin; exact fin.elim
          | bad => rw [ec] at fin; exact fin.elim
          | ok db δ4 =>
            rw [ec] at fin
            cases db with
            | bl b =>
              refine ⟨b, rfl, fun G5 H5 s5 st5 => ?_⟩
              rw [so] at s5
              have n5 : G5 Dn = none := (s5.new Dn (by rw [hD3]; simp)).trans n3
              have hD5 : H5 Dn = some (.lst acc) := s5.keep Dn _ hD3 hDo (nc_lst (a := Dn)).1
              cases b with
              | false =>
                rw [if_neg Bool.false_ne_true]
                exact ⟨G5, δ4, ys, acc, back st5, s3.thn s5, n5, hD5, ra.mono (ex.g.trans s5.g), Nat.le_succ_of_le hys, fin⟩
              | true =>
                rw [if_pos rfl]
                simp only at fin
                refine hte _ _ _ ⟨G5, δ4, st5, ?_⟩
                cases ee : fe δ4 with
                | exc _ _ _ => rw [ee] at fin; exact fin.elim
                | bad => rw [ee] at fin; exact fin.elim
                | ok z δ5 =>
                  rw [ee] at fin
                  simp only at fin
                  intro v6 G6 H6 s6 st6 rv6
                  rw [so] at s6
                  have n6 : G6 Dn = none := (s6.new Dn (by rw [hD5]; simp)).trans n5
                  have hD6 : H6 Dn = some (.lst acc) := s6.keep Dn _ hD5 hDo (nc_lst (a := Dn)).1
                  have hal : acc.length = ys.length := ra.length
                  have ext6 := (s3.thn s5).thn s6
                  have hs6 : ∀ b, b ≠ Dn → upd H6 Dn (.lst (acc ++ [v6])) b = H6 b := fun b hb => upd_ne hb
                  have gh' : Sg G6 (upd H6 Dn (.lst (acc ++ [v6]))) := st6.gh.own n6
                  have st7 : Stt C.F O G6 (upd H6 Dn (.lst (acc ++ [v6]))) σ' δ5 := {
                    ext := ⟨st6.ext.g, gh', fun b o hb hn ht => by
                      rw [upd_ne (fun q => by rw [q, f3] at hb; cases hb)]
                      exact st6.ext.keep b o hb hn ht, st6.ext.new, fun b hb => by
                      rw [upd_ne (fun q => hb (by rw [q]; exact f3))]
                      exact st6.ext.dom b hb, st6.ext.tab.trans (.upd hD6 nc_lst)⟩
                    tabs := st6.tabs.go (.upd hD6 nc_lst)
                    kp := st6.kp
                    ln := st6.ln
                    le := st6.le
                    sh := st6.sh
                    ow := fun j hj => by
                      obtain ⟨a, dj, e1, e2, na, o, z⟩ := st6.ow j hj
                      refine ⟨a, dj, e1, e2, na, o.mono (.refl G6) (upd_ne fun q => hDo ?_), z⟩
                      rw [← so]
                      exact mem_ownS.mpr ⟨j, hj, by rw [e1, q]⟩
                    dis := st6.dis
                    fix := st6.fix }
                  have ext7 : Ext _ (ownS O σ) G1 H1 G6 (upd H6 Dn (.lst (acc ++ [v6]))) := ⟨ext6.g, gh', fun b o hb hn ht => by
                      rw [upd_ne (fun q => by rw [q, hDn] at hb; cases hb)]
                      exact ext6.keep b o hb hn ht, ext6.new, fun b hb => by
                      rw [upd_ne (fun q => hb (by rw [q]; exact hDn))]
                      exact ext6.dom b hb, ext6.tab.trans (.upd hD6 nc_lst)⟩
                  refine ⟨acc, hD6, ?_, G6, δ5, ys ++ [z], acc ++ [v6], back st7, ext7, n6, upd_same, (ra.mono ((ex.g.trans s5.g).trans s6.g)).app (.cons rv6 .nil), by simp; omega, ?_⟩
                  · have := cap_line
                    omega
                  · show match lcL t vs c fe (ds.drop (i + 1)) δ5 with | .ok xs δ2 => _ | _ => _
                    cases er : lcL t vs c fe (ds.drop (i + 1)) δ5 with
                    | ok xs δ6 =>
                      rw [er] at fin
                      simp only [Res.bind_ok] at fin
                      intro G' H' q1 q2 q3 q4
                      refine fin G' H' q1 q2 q3 ?_
                      rw [show ys ++ z :: xs = ys ++ [z] ++ xs by simp]
                      exact q4
                    | exc _ _ _ => rw [er] at fin; exact fin
                    | bad => rw [er] at fin; exact fin
            | _ => exact fin.elim
        have h := hg x (L2.wipe σ vs) H3 _ turn
        rw [wipeS_idem] at h
        exact h
    · rintro H2 ⟨G2, δ2, ys, acc, st2, s2, n2, hD2, ra, hys, fin⟩
      rw [List.drop_length] at fin
      exact fin G2 H2 s2 st2 n2 ⟨acc, hD2, by simpa using ra⟩
end
end Mi

end
section
set_option Elab.async false
set_option linter.all false
set_option maxRecDepth 100000
set_option autoImplicit false
set_option maxHeartbeats 4000000
namespace Mi
open PySem PySem.Spec PyProof.Rows L2

/-! ### what a def promises: its mirror -/
def OutsAt (K : PySem.W.Frag) (cm : CM) (G H : Hp) : List Addr → List D → Prop
  | [], [] => True
  | a :: as, d :: ds => (G a = none ∧ OwnAt K cm G H a d) ∧ OutsAt K cm G H as ds
  | _, _ => False
def XR (K : PySem.W.Frag) (cm : CM) (fld : Str → Str) (G : Hp) (c : Str) (d : D) (cls : Value) (dd : Option Addr) : Prop :=
  cls = .ref (cm c) ∧ ∃ e v, dd = some e ∧ G e = some (.xd [(fld c, v)]) ∧ Rp K cm G v d
/-- called with values that stand for ds, it does what f tells; own: the places of its own lists among the parameters -/
def spM (K : PySem.W.Frag) (cm : CM) (fld : Str → Str) (n : Nat) (own : List Nat) (f : List D → Fr) : Sp := fun vs H Q E => ∃ G ds as, vs.length = n ∧ as.length = own.length ∧ Stt ⟨K, cm, G, H, n, own, as, [], []⟩ own G H (vs.map some) (ds.map some) ∧ match f ds with
  | .ok d outs => ∀ v G' H', Ext cm.T as G H G' H' → OutsAt K cm G' H' as outs → Rp K cm G' v d → Q v H'
  | .exc c d => ∀ G' H' cls dd, Ext cm.T as G H G' H' → XR K cm fld G' c d cls dd → E cls dd H'
  | .bad => False
theorem zip_snd : ∀ {ns : List Nat} {as : List Addr}, as.length = ns.length → (ns.zip as).map (·.2) = as
  | [], [], _ => rfl
  | n :: ns, a :: as, h => by
    have := zip_snd (ns := ns) (as := as) (by simpa using h)
    simp [this]
  | [], a :: as, h => by simp at h
  | n :: ns, [], h => by simp at h
theorem outs_of {K : PySem.W.Frag} {cm : CM} {G H : Hp} {δ : Env} : ∀ {ns : List Nat} {as : List Addr} {o : List D}, as.length = ns.length → (∀ p ∈ ns.zip as, ∃ d, δ[p.1]? = some (some d) ∧ G p.2 = none ∧ OwnAt K cm G H p.2 d) → outsOf ns δ = some o → OutsAt K cm G H as o
  | [], [], o, _, _, e => by cases e; trivial
  | n :: ns, a :: as, o, hl, h, e => by
    obtain ⟨d, e1, n1, o1⟩ := h (n, a) (by simp)
    unfold outsOf at e
    simp only [e1] at e
    cases e2 : outsOf ns δ with
    | none => rw [e2] at e; cases e
    | some o' =>
      rw [e2] at e
      cases e
      exact ⟨⟨n1, o1⟩, outs_of (by simpa using hl) (fun p hp => h p (by simp [hp])) e2⟩
  | [], a :: as, _, h, _, _ => by simp at h
  | n :: ns, [], _, h, _, _ => by simp at h
theorem start_at {N : List Str} {vs : List V} {i : Nat} {v : Option V} (h : (L2.start N vs)[i]? = some v) : (vs.map some)[i]? = some v ∨ v = none := by
  unfold L2.start at h
  by_cases hi : i < vs.length
  · rw [List.getElem?_append_left (by simpa using hi)] at h
    exact .inl h
  · rw [List.getElem?_append_right (by simpa using hi), List.getElem?_replicate] at h
    split at h
    · cases h; exact .inr rfl
    · cases h
theorem start_in {N : List Str} {vs : List V} {i : Nat} {v : Option V} (h : (vs.map some)[i]? = some v) : (L2.start N vs)[i]? = some v := by
  have hi := (List.getElem?_eq_some_iff.mp h).1
  unfold L2.start
  rw [List.getElem?_append_left hi]
  exact h
theorem startE_at {n : Nat} {ds : List D} {i : Nat} {d : D} (h : (startE n ds)[i]? = some (some d)) : (ds.map some)[i]? = some (some d) := by
  unfold startE at h
  by_cases hi : i < ds.length
  · rw [List.getElem?_append_left (by simpa using hi)] at h
    exact h
  · rw [List.getElem?_append_right (by simpa using hi), List.getElem?_replicate] at h
    split at h
    · cases h
    · cases h
theorem startE_in {n : Nat} {ds : List D} {i : Nat} {d : D} (h : (ds.map some)[i]? = some (some d)) : (startE n ds)[i]? = some (some d) := by
  have hi := (List.getElem?_eq_some_iff.mp h).1
  unfold startE
  rw [List.getElem?_append_left hi]
  exact h
theorem Stt.start {K : PySem.W.Frag} {cm : CM} {G H : Hp} {n : Nat} {own : List Nat} {as : List Addr} {vs : List V} {ds : List D} {N : List Str} (hl : as.length = own.length) (hn : n ≤ N.length) (s : Stt ⟨K, cm, G, H, n, own, as, [], []⟩ own G H (vs.map some) (ds.map some)) :
    Stt ⟨K, cm, G, H, N.length, own, as, [], []⟩ own G H (L2.start N vs) (startE N.length ds) where
  ext := s.ext
  tabs := s.tabs
  kp := fun j hj => by cases hj
  ln := by
    have h1 : vs.length = n := by simpa using s.ln
    show (L2.start N vs).length = N.length
    unfold L2.start
    simp
    omega
  le := by
    have h1 : ds.length = n := by simpa using s.le
    show (startE N.length ds).length = N.length
    unfold startE
    simp
    omega
  sh := fun i d hi h => by
    obtain ⟨v, e, r⟩ := s.sh i d hi (startE_at h)
    exact ⟨v, start_in e, r⟩
  ow := fun i hi => by
    obtain ⟨a, d, e1, e2, n1, o, z⟩ := s.ow i hi
    exact ⟨a, d, start_in e1, startE_in e2, n1, o, z⟩
  dis := fun i hi j hj a h1 h2 => by
    rcases start_at h1 with h1 | h1
    · rcases start_at h2 with h2 | h2
      · exact s.dis i hi j hj a h1 h2
      · cases h2
    · cases h1
  fix := fun p hp => ⟨(s.fix p hp).1, start_in (s.fix p hp).2⟩
section
variable {P : Program} {w : World} {K : PySem.W.Frag} {mg : Str → Option Value} {base : Heap} {cm : CM} {fld : Str → Str}
/-- a def by its body, where it is known which code object it has -/
theorem fun_okC {x qual : Str} {st : Stmt} {f : Addr} {fd : FuncData} {N ps : List Str} {k : Nat} {sp : Sp} (F : Fun K x qual st f fd) (S : FnScope N ps (defScope st)) (len : ∀ vs H Q E, sp vs H Q E → vs.length = ps.length)
    (hbody : ∀ (cdv : Value) (cd : fd.code = cdv) (A : Around) (outer : List PySem.Env) (s : Shared) (H : Hp) (vs : List V) (Q : VK) (E : XK), Room k (A.deeper (envOfC qual (defScope st) s.heap.objs.size f cdv)) → sp vs H Q E →
      ∃ t, PSs (cxOf (L2.CX P w) P w K mg base N qual (defScope st) f cdv A outer s H E) (defBody st) t ∧ t { nx := fun _ H' => Q .non H', rt := Q } (L2.start N vs) H) : FnOk P w K mg base (L2.CX P w) (k + 1) f fd ps sp := by
  obtain ⟨oc, od, kV, doc, pm, an, cdv, ct, osl, rfl, lk, code⟩ := F.ex
  exact fn_of lk code S len fun A outer s H vs Q E hr hsp => hbody cdv rfl A outer s H vs Q E hr hsp
/-- THE RULE: a def keeps its mirror's promise, by its body -/
theorem fn_mir {x qual : Str} {st : Stmt} {f : Addr} {fd : FuncData} {N ps : List Str} {k n p : Nat} {own : List Nat} {g : Sm} (F : Fun K x qual st f fd) (S : FnScope N ps (defScope st)) (hn : N.length = n) (hp : ps.length = p) (hpn : p ≤ n) (O' : List Nat)
    (hbody : ∀ (cdv : Value) (cd : fd.code = cdv) (A : Around) (outer : List PySem.Env) (s : Shared) (H G : Hp) (E : XK) (as : List Addr), Room k (A.deeper (envOfC qual (defScope st) s.heap.objs.size f cdv)) →
      PSs (cxOf (L2.CX P w) P w K mg base N qual (defScope st) f cdv A outer s H E) (defBody st) (tS ⟨⟨K, cm, G, H, n, own, as, [], []⟩, fun cls d _ H => E cls d H, fld, fun _ => True, [], false⟩ own O' g)) :
    FnOk P w K mg base (L2.CX P w) (k + 1) f fd ps (spM K cm fld p own (fnM n p own g)) := by
  subst hn hp
  refine fun_okC F S (fun vs H Q E h => ?_) (fun cdv cd A outer s H vs Q E hr h => ?_)
  · obtain ⟨G, ds, as, hl, _⟩ := h
    exact hl
  · obtain ⟨G, ds, as, hl, hla, st0, m⟩ := h
    refine ⟨_, hbody cdv cd A outer s H G E as hr, G, startE N.length ds, st0.start hla hpn, ?_⟩
    have hld : ds.length = ps.length := by simpa using st0.le
    have hS : (Fm.S ⟨K, cm, G, H, N.length, own, as, [], []⟩) = as := zip_snd hla
    unfold fnM at m
    rw [if_pos hld] at m
    cases e : g (startE N.length ds) with
    | nx δ' =>
      rw [e] at m
      cases eo : outsOf own δ' with
      | none => simp only [eo] at m
      | some o =>
        simp only [eo] at m
        intro σ' G' H' s1 st1
        have rs := st1.ret
        have ex := rs.1
        rw [hS] at ex
        exact m .non G' H' ex (outs_of hla rs.2 eo) .non
    | rt d δ' =>
      rw [e] at m
      cases eo : outsOf own δ' with
      | none => simp only [eo] at m
      | some o =>
        simp only [eo] at m
        intro v G' H' rs rv _
        have ex := rs.1
        rw [hS] at ex
        exact m v G' H' ex (outs_of hla rs.2 eo) rv
    | exc c d δ' =>
      rw [e] at m
      intro O'' σ' G' H' cls dd _ st1 x
      have ex := st1.ext
      rw [hS] at ex
      exact m G' H' cls dd ex x
    | bk δ' => rw [e] at m; exact m.elim
    | ct δ' => rw [e] at m; exact m.elim
    | bad => rw [e] at m; exact m.elim
end
/-! ### calls -/
section
variable {C : Sc} {O : List Nat} {G H : Hp} {σ : L2.St} {δ : Env} {f : List D → Fr} {n : Nat}
theorem map_some_get {α : Type} {l : List α} {i : Nat} {x : α} (h : (l.map some)[i]? = some (some x)) : l[i]? = some x := by
  rw [List.getElem?_map] at h
  cases e : l[i]? with
  | none => rw [e] at h; cases h
  | some y => rw [e] at h; cases h; rfl
theorem get_map_some {α : Type} {l : List α} {i : Nat} {x : α} (h : l[i]? = some x) : (l.map some)[i]? = some (some x) := by rw [List.getElem?_map, h]; rfl
/-- values alone are handed over -/
theorem callee0 {K : PySem.W.Frag} {cm : CM} {vs : List V} {ds : List D} (gh : Sg G H) (ht : TbO cm.T H) (r : Rps K cm G vs ds) (hl : vs.length = n) : Stt ⟨K, cm, G, H, n, [], [], [], []⟩ [] G H (vs.map some) (ds.map some) where
  ext := Ext.refl gh
  tabs := ht
  kp := fun j hj => by cases hj
  ln := by simpa using hl
  le := by simp [← r.length, hl]
  sh := fun i d _ h => by
    obtain ⟨v, e, rv⟩ := r.get (map_some_get h)
    exact ⟨v, get_map_some e, rv⟩
  ow := fun i hi => by cases hi
  dis := fun i hi => by cases hi
  fix := fun p hp => by cases hp
/-- the own list at a goes in at place j -/
theorem callee1 {K : PySem.W.Frag} {cm : CM} {vs : List V} {ds : List D} {j : Nat} {a : Addr} {d0 : D} (gh : Sg G H) (ht : TbO cm.T H) (hl : vs.length = n) (hd : ds.length = n) (r : ∀ (i : Nat) d, i ≠ j → ds[i]? = some d → ∃ v, vs[i]? = some v ∧ Rp K cm G v d) (hj : vs[j]? = some (.ref a)) (hd0 : ds[j]? = some d0) (na : G a = none) (o : OwnAt K cm G H a d0) :
    Stt ⟨K, cm, G, H, n, [j], [a], [], []⟩ [j] G H (vs.map some) (ds.map some) where
  ext := Ext.refl gh
  tabs := ht
  kp := fun j hj => by cases hj
  ln := by simpa using hl
  le := by simpa using hd
  sh := fun i d hi h => by
    obtain ⟨v, e, rv⟩ := r i d (by simpa using hi) (map_some_get h)
    exact ⟨v, get_map_some e, rv⟩
  ow := fun i hi => by
    have e : i = j := by simpa using hi
    subst e
    exact ⟨a, d0, get_map_some hj, get_map_some hd0, na, o, .inr (by simp [Fm.S, Fm.own])⟩
  dis := fun i hi k hk b _ _ => by
    have e1 : i = j := by simpa using hi
    have e2 : k = j := by simpa using hk
    rw [e1, e2]
  fix := fun p hp => by
    have e : p = (j, a) := by simpa [Fm.own] using hp
    subst e
    exact ⟨by simp, get_map_some hj⟩
/-- behind a call that changed the own list of slot i alone -/
theorem Stt.after1 {F : Fm} {G' H' : Hp} (s : Stt F O G H σ δ) {i : Nat} {a : Addr} {w : D} (hi : i ∈ O) (ha : σ[i]? = some (some (.ref a))) (e : Ext F.cm.T [a] G H G' H') (na : G' a = none) (o : OwnAt F.K F.cm G' H' a w) : Stt F O G' H' σ (δ.set i (some w)) := by
  have hx : F.H a = none ∨ a ∈ F.S := s.inS a (mem_ownS.mpr ⟨i, hi, ha⟩)
  have hil : i < δ.length := by
    obtain ⟨_, d, _, e2, _⟩ := s.ow i hi
    exact (List.getElem?_eq_some_iff.mp e2).1
  have gd : ∀ {j : Nat}, j ≠ i → (δ.set i (some w))[j]? = δ[j]? := fun {j} e => List.getElem?_set_ne (Ne.symm e)
  exact {
    ext := s.ext.trans e fun x hx' => by
      have ex : x = a := by simpa using hx'
      rw [ex]
      exact hx
    ln := s.ln
    le := by simpa using s.le
    sh := fun j d hj h => by
      rw [gd (fun z => hj (by rw [z]; exact hi))] at h
      obtain ⟨v, e1, r⟩ := s.sh j d hj h
      exact ⟨v, e1, r.mono e.g⟩
    ow := fun j hj => by
      by_cases z : j = i
      · subst z
        exact ⟨a, w, ha, List.getElem?_set_self hil, na, o, hx⟩
      · rw [gd z]
        obtain ⟨b, d, e1, e2, nb, ob, zb⟩ := s.ow j hj
        have nab : b ≠ a := fun q => z (s.dis j hj i hi a (by rw [← q]; exact e1) ha)
        refine ⟨b, d, e1, e2, (e.new b ob.at).trans nb, ob.mono e.g ?_, zb⟩
        cases q : H b with
        | none => exact absurd q ob.at
        | some u => exact e.keep b u q (by simpa using nab) (ob.nc q).1
    dis := s.dis
    fix := s.fix
    tabs := s.tabs.go e.tab
    kp := s.kp }
end
section
variable {X : Cx} {C : Sc} {O : List Nat} {e : Expr} {es : List Expr} {fs : List Ex} {fa : Ex} {f : List D → Fr} {pos p : Pos}
theorem xr_of {C : Sc} {G : Hp} {c : Str} {d : D} {cls : Value} {dd : Option Addr} (h : XR C.F.K C.F.cm C.fld G c d cls dd) : XRp C G c d cls dd := h
/-- the reading of a call's arguments, then the callee's promise -/
theorem r_call {n : Nat} {σ : L2.St} {H : Hp} {Q : VK} (hn : fs.length = n) (h : tD C O (eCall f fs) σ H Q) : tA C O (eL fs) σ H fun vs H1 => spM C.F.K C.F.cm C.fld n [] f vs H1 Q (WE C.W σ) := by
  obtain ⟨G, δ, st, m⟩ := h
  refine ⟨G, δ, st, ?_⟩
  unfold eCall at m
  cases e : eL fs δ with
  | ok ds δ1 =>
    rw [e, Res.bind_ok] at m
    intro vs G1 H1 s1 st1 rv
    have hl : vs.length = n := by rw [rv.length, eL_length e, hn]
    refine ⟨G1, ds, [], hl, rfl, callee0 st1.gh st1.tabs rv hl, ?_⟩
    cases ef : f ds with
    | ok d outs =>
      rw [ef] at m
      exact fun v G2 H2 ex _ r => m v G2 H2 (s1.and ex) (st1.step ex) r
    | exc c d =>
      rw [ef] at m
      exact fun G2 H2 cls dd ex x => m G2 H2 cls dd (st1.step ex) x
    | bad => rw [ef] at m; exact m.elim
  | exc c d δ1 => rw [e] at m; exact m
  | bad => rw [e] at m; exact m
theorem d_call {x : Str} {k n : Nat} {g : Addr} {fd : FuncData} {ps : List Str} (F : FnOk X.prog X.w X.K X.mg X.base (L2.CX X.prog X.w) k g fd ps (spM C.F.K C.F.cm C.fld n [] f)) (hr : Room k X.A) (hg : Gl X x) (hm : X.mg x = some (.ref g)) (hk : PySem.W.keepIn X.K (.ref g) = true) (hb : Binds X.K fd ps [])
    (tk : Takes X C.W) (ha : PA X (e :: es) (tA C O (eL fs))) (hn : fs.length = n) (hdb : (x == ("__debug__" : Str)) = false := by decide) (he : starEach (e :: es) X.env = (false, eval e X.env) :: starEach es X.env := by rfl) (hpl : (backTo pos (starEach es X.env)).any (·.1) = false := by rfl) :
    PE X (.Call (.Name x p) (e :: es) [] pos) (tD C O (eCall f fs)) := pe_imp (pe_callS F hr hg hm hk hb (fun σ => passAt tk σ) ha hdb he hpl) fun σ H Q h => r_call hn h
/-- f(own, e, ..) -/
theorem r_callO {n i : Nat} {σ : L2.St} {H : Hp} {Q : VK} (hi : i ∈ O) (hn : fs.length + 1 = n) (h : tD C O (eCallO f i fs) σ H Q) : tCons (tVar i) (tA C O (eL fs)) σ H fun vs H1 => spM C.F.K C.F.cm C.fld n [0] f vs H1 Q (WE C.W σ) := by
  obtain ⟨G, δ, st, m⟩ := h
  obtain ⟨a, d0, e1, _, _, _, _⟩ := st.ow i hi
  refine ⟨_, e1, G, δ, st, ?_⟩
  unfold eCallO at m
  cases e : eL fs δ with
  | ok ds δ1 =>
    rw [e, Res.bind_ok] at m
    intro vs G1 H1 s1 st1 rv
    obtain ⟨a', w, q1, q2, na, o, _⟩ := st1.ow i hi
    rw [e1] at q1
    cases q1
    have ev : eV i δ1 = .ok w δ1 := by unfold eV; rw [q2]
    rw [ev, Res.bind_ok] at m
    have hl : (V.ref a :: vs).length = n := by rw [List.length_cons, rv.length, eL_length e, hn]
    refine ⟨G1, w :: ds, [a], hl, rfl, callee1 (j := 0) st1.gh st1.tabs hl (by rw [List.length_cons, eL_length e, hn]) (fun i d hi h => ?_) rfl rfl na o, ?_⟩
    · cases i with
      | zero => exact absurd rfl hi
      | succ i => exact rv.get (by simpa using h)
    · cases ef : f (w :: ds) with
      | ok d outs =>
        rw [ef] at m
        match outs, m with
        | [w'], m =>
          intro v G2 H2 ex oa r
          have es : Ext _ (ownS O σ) G1 H1 G2 H2 := ⟨ex.g, ex.gh, fun b u hb hn ht => ex.keep b u hb (fun z => hn (by rw [show b = a by simpa using z]; exact mem_ownS.mpr ⟨i, hi, e1⟩)) ht, ex.new, ex.dom, ex.tab⟩
          exact m v G2 H2 (s1.thn es) (st1.after1 hi e1 ex oa.1.1 oa.1.2) r
        | [], m => exact m.elim
        | _ :: _ :: _, m => exact m.elim
      | exc c d => rw [ef] at m; exact m.elim
      | bad => rw [ef] at m; exact m.elim
  | exc c d δ1 => rw [e] at m; exact m
  | bad => rw [e] at m; exact m
theorem d_callO {x : Str} {k n i : Nat} {g : Addr} {fd : FuncData} {ps : List Str} (F : FnOk X.prog X.w X.K X.mg X.base (L2.CX X.prog X.w) k g fd ps (spM C.F.K C.F.cm C.fld n [0] f)) (hr : Room k X.A) (hg : Gl X x) (hm : X.mg x = some (.ref g)) (hk : PySem.W.keepIn X.K (.ref g) = true) (hb : Binds X.K fd ps [])
    (tk : Takes X C.W) (hi : i ∈ O) (ha : PA X (e :: es) (tCons (tVar i) (tA C O (eL fs)))) (hn : fs.length + 1 = n) (hdb : (x == ("__debug__" : Str)) = false := by decide) (he : starEach (e :: es) X.env = (false, eval e X.env) :: starEach es X.env := by rfl) (hpl : (backTo pos (starEach es X.env)).any (·.1) = false := by rfl) :
    PE X (.Call (.Name x p) (e :: es) [] pos) (tD C O (eCallO f i fs)) := pe_imp (pe_callS F hr hg hm hk hb (fun σ => passAt tk σ) ha hdb he hpl) fun σ H Q h => r_callO hi hn h
/-- f(e1, own, e, ..) -/
theorem r_callP {n i : Nat} {σ : L2.St} {H : Hp} {Q : VK} (hi : i ∈ O) (hn : fs.length + 2 = n) (h : tD C O (eCallP f fa i fs) σ H Q) : tCons (tD C O fa) (tCons (tVar i) (tA C O (eL fs))) σ H fun vs H1 => spM C.F.K C.F.cm C.fld n [1] f vs H1 Q (WE C.W σ) := by
  obtain ⟨G, δ, st, m⟩ := h
  refine ⟨G, δ, st, ?_⟩
  unfold eCallP at m
  cases e0 : fa δ with
  | exc c d δ1 => rw [e0] at m; exact m
  | bad => rw [e0] at m; exact m
  | ok x δ0 =>
    rw [e0, Res.bind_ok] at m
    intro v0 G0 H0 s0 st0 rv0
    obtain ⟨a, d0, e1, _, _, _, _⟩ := st0.ow i hi
    refine ⟨_, e1, G0, δ0, st0, ?_⟩
    cases e : eL fs δ0 with
    | ok ds δ1 =>
      rw [e, Res.bind_ok] at m
      intro vs G1 H1 s1 st1 rv
      obtain ⟨a', w, q1, q2, na, o, _⟩ := st1.ow i hi
      rw [e1] at q1
      cases q1
      have ev : eV i δ1 = .ok w δ1 := by unfold eV; rw [q2]
      rw [ev, Res.bind_ok] at m
      have hl : (v0 :: V.ref a :: vs).length = n := by rw [List.length_cons, List.length_cons, rv.length, eL_length e, hn]
      refine ⟨G1, x :: w :: ds, [a], hl, rfl, callee1 (j := 1) st1.gh st1.tabs hl (by rw [List.length_cons, List.length_cons, eL_length e, hn]) (fun i d hi h => ?_) rfl rfl na o, ?_⟩
      · match i, hi, h with
        | 0, hi, h =>
          cases h
          exact ⟨v0, rfl, rv0.mono s1.g⟩
        | 1, hi, h => exact absurd rfl hi
        | i + 2, hi, h => exact rv.get (by simpa using h)
      · cases ef : f (x :: w :: ds) with
        | ok d outs =>
          rw [ef] at m
          match outs, m with
          | [w'], m =>
            intro v G2 H2 ex oa r
            have es : Ext _ (ownS O σ) G1 H1 G2 H2 := ⟨ex.g, ex.gh, fun b u hb hn ht => ex.keep b u hb (fun z => hn (by rw [show b = a by simpa using z]; exact mem_ownS.mpr ⟨i, hi, e1⟩)) ht, ex.new, ex.dom, ex.tab⟩
            exact m v G2 H2 ((s0.thn s1).thn es) (st1.after1 hi e1 ex oa.1.1 oa.1.2) r
          | [], m => exact m.elim
          | _ :: _ :: _, m => exact m.elim
        | exc c d => rw [ef] at m; exact m.elim
        | bad => rw [ef] at m; exact m.elim
    | exc c d δ1 => rw [e] at m; exact m
    | bad => rw [e] at m; exact m
theorem d_callP {x : Str} {k n i : Nat} {g : Addr} {fd : FuncData} {ps : List Str} (F : FnOk X.prog X.w X.K X.mg X.base (L2.CX X.prog X.w) k g fd ps (spM C.F.K C.F.cm C.fld n [1] f)) (hr : Room k X.A) (hg : Gl X x) (hm : X.mg x = some (.ref g)) (hk : PySem.W.keepIn X.K (.ref g) = true) (hb : Binds X.K fd ps [])
    (tk : Takes X C.W) (hi : i ∈ O) (ha : PA X (e :: es) (tCons (tD C O fa) (tCons (tVar i) (tA C O (eL fs))))) (hn : fs.length + 2 = n) (hdb : (x == ("__debug__" : Str)) = false := by decide) (he : starEach (e :: es) X.env = (false, eval e X.env) :: starEach es X.env := by rfl) (hpl : (backTo pos (starEach es X.env)).any (·.1) = false := by rfl) :
    PE X (.Call (.Name x p) (e :: es) [] pos) (tD C O (eCallP f fa i fs)) := pe_imp (pe_callS F hr hg hm hk hb (fun σ => passAt tk σ) ha hdb he hpl) fun σ H Q h => r_callP hi hn h
end
end Mi

end
section
set_option Elab.async false
set_option linter.all false
set_option maxRecDepth 100000
set_option autoImplicit false
/-! The operators of the mirror. -/
namespace Mi
open PySem PySem.Spec

def okD (d : D) : Bool := SeqAt.shaped d.py
noncomputable def addD : D → D → Option D
  | .int i, .int j => some (.int (i + j))
  | .tup a, .tup b => if a.length + b.length ≤ cap then some (.tup (a ++ b)) else none
  | .lst a, .lst b => if a.length + b.length ≤ cap then some (.lst (a ++ b)) else none
  | .str a, .str b => if a.length + b.length ≤ cap then some (.str (a ++ b)) else none
  | _, _ => none
noncomputable def addL : D → D → Option D
  | .lst a, .lst b => if a.length + b.length ≤ cap then some (.lst (a ++ b)) else none
  | _, _ => none
def subD : D → D → Option D
  | .int i, .int j => some (.int (i - j))
  | _, _ => none
def mulD : D → D → Option D
  | .int i, .int j => if (-(2 ^ 64) < i ∧ i < 2 ^ 64) ∨ (-(2 ^ 64) < j ∧ j < 2 ^ 64) then some (.int (i * j)) else none
  | _, _ => none
def modD : D → D → Option D
  | .int i, .int j => if 0 < j then some (.int (i % j)) else none
  | _, _ => none
def fdivD : D → D → Option D
  | .int i, .int j => if 0 < j ∧ j < 1073741824 then some (.int (i / j)) else none
  | _, _ => none
def powD : D → D → Option D
  | .int i, .int j => if 0 ≤ j ∧ j ≤ 1000000 ∧ i.natAbs < 2 ^ 64 then some (.int (i ^ j.toNat)) else none
  | _, _ => none
def negD : D → Option D
  | .int i => some (.int (-i))
  | _ => none
def cmpD (p : Int → Int → Bool) : D → D → Option D
  | .int i, .int j => some (.bl (p i j))
  | _, _ => none
abbrev ltD := cmpD fun i j => decide (i < j)
abbrev leD := cmpD fun i j => decide (i ≤ j)
abbrev gtD := cmpD fun i j => decide (j < i)
abbrev geD := cmpD fun i j => decide (j ≤ i)
def eqD (x y : D) : Option D := if okD x && okD y then some (.bl (PyData.eqv x.py y.py)) else none
def neD (x y : D) : Option D := if okD x && okD y then some (.bl (!PyData.eqv x.py y.py)) else none
def inB (x : D) (ys : List D) : Bool := ys.any fun y => PyData.eqv y.py x.py
def inO (x y : D) : Option Bool := match y with
  | .lst ys => if okD x && okD (.lst ys) then some (inB x ys) else none
  | .tup ys => if okD x && okD (.tup ys) then some (inB x ys) else none
  | _ => none
def inD (x y : D) : Option D := (inO x y).map .bl
def ninD (x y : D) : Option D := (inO x y).map fun b => .bl (!b)
def isNon : D → Bool
  | .non => true
  | _ => false
def isND (x y : D) : Option D := match y with
  | .non => some (.bl (isNon x))
  | _ => none
def nisND (x y : D) : Option D := match y with
  | .non => some (.bl (!isNon x))
  | _ => none
def idxD (x y : D) : Option D := match y with
  | .int i => (seqOf x).bind fun xs => (ixD xs.length i).bind fun j => xs[j]?
  | _ => none
def cutD {α : Type} (xs : List α) (lo hi : Option Int) : List α := (xs.drop (HT.sIx xs.length 0 lo)).take (HT.sIx xs.length xs.length hi - HT.sIx xs.length 0 lo)
def slD (x : D) (l h : Option Int) : Option D := match x with
  | .lst xs => some (.lst (cutD xs l h))
  | .tup xs => some (.tup (cutD xs l h))
  | _ => none
def slL (x : D) (l h : Option Int) : Option D := match x with
  | .lst xs => some (.lst (cutD xs l h))
  | _ => none
def lenD : D → Option D
  | .lst xs => some (.int xs.length)
  | .tup xs => some (.int xs.length)
  | _ => none
def tyN : D → Option String
  | .non => some "NoneType"
  | .bl _ => some "bool"
  | .int _ => some "int"
  | .str _ => some "str"
  | .lst _ => some "list"
  | .tup _ => some "tuple"
  | .dic _ => some "dict"
  | _ => none
def tyB (n T : String) : Bool := n == T || (n == "bool" && T == "int")
def isD (T : String) (d : D) : Option D := (tyN d).map fun n => .bl (tyB n T)
def listD (d : D) : Option D := (seqOf d).map .lst
def tupleD (d : D) : Option D := (seqOf d).map .tup
def intD : D → Option D
  | .int i => some (.int i)
  | .bl b => some (.int (if b then 1 else 0))
  | _ => none
def absD : D → Option D
  | .int i => some (.int (if i < 0 then -i else i))
  | _ => none
def max2D : D → D → Option D
  | .int i, .int j => some (.int (if j > i then j else i))
  | _, _ => none
def min2D : D → D → Option D
  | .int i, .int j => some (.int (if j < i then j else i))
  | _, _ => none
def intsO : List D → Option (List Int)
  | [] => some []
  | .int i :: r => (intsO r).map (i :: ·)
  | _ :: _ => none
def blsO : List D → Option (List Bool)
  | [] => some []
  | .bl i :: r => (blsO r).map (i :: ·)
  | _ :: _ => none
def isort (l : List Int) : List Int := l.mergeSort (fun a b => decide (a ≤ b))
def sortD : D → Option D
  | .lst xs => (intsO xs).map fun ns => .lst ((isort ns).map .int)
  | _ => none
def allD : D → Option D
  | .lst xs => (blsO xs).map fun bs => .bl (bs.all id)
  | _ => none
def anyD : D → Option D
  | .lst xs => (blsO xs).map fun bs => .bl (bs.any id)
  | _ => none
def udup : List Int → List Int
  | [] => []
  | a :: r => if a ∈ udup r then udup r else a :: udup r
/-- sorted(set(xs)) -/
def ssetD : D → Option D
  | .lst xs => (intsO xs).bind fun ns => if ns.length < 64 ∨ (ns.length < 4000 ∧ (udup ns).length < 64) then some (.lst ((isort (udup ns)).map .int)) else none
  | _ => none
/-- x.index(y), ints -/
def ixOfD (x y : D) : Option D := match y with
  | .int k => (seqOf x).bind fun xs => (intsO xs).bind fun ns => if k ∈ ns then some (.int (ns.idxOf k : Nat)) else none
  | _ => none
/-- list(range(a)) -/
noncomputable def eLrg (a : Ex) : Ex := fun δ => (a δ).bind fun x δ1 => match x with
  | .int i => if -cap ≤ i ∧ i ≤ cap then .ok (.lst (rng 0 i.toNat)) δ1 else .bad
  | _ => .bad
def addI : D → D → Option D
  | .int i, .int j => some (.int (i + j))
  | _, _ => none
def eIx (a b : Ex) : Ex := fun δ => (a δ).bind fun x δ1 => match seqOf x with
  | none => .bad
  | some _ => (b δ1).bind fun y δ2 => Res.opt (ixOfD x y) δ2
end Mi

end
section
set_option Elab.async false
set_option linter.all false
set_option maxRecDepth 100000
set_option autoImplicit false
set_option maxHeartbeats 4000000
namespace Mi
open PySem PySem.Spec PyProof.Rows L2

/-! ### rules for operators -/
def rCatS (K : PySem.W.Frag) : R2 := fun x y H Q => ∃ a b xs ys, x = .ref a ∧ y = .ref b ∧ SqL K H a xs ∧ SqL K H b ys ∧ xs.length + ys.length ≤ sizeLine ∧ ∀ p, H p = none → Q (.ref p) (upd H p (.lst (xs ++ ys)))
theorem op_catS {X : Cx} : OpR X (binaryOp .Add) (rCatS X.K) := by
  intro pins s σ H x y v u Q I rx ry ⟨a, b, xs, ys, ex, ey, ha, hb, hz, q⟩
  subst ex ey
  cases rx
  cases ry
  obtain ⟨i1, r1, p1, _⟩ := I.list ha
  obtain ⟨i2, r2, p2, _⟩ := I.list hb
  obtain ⟨⟨c1, d1, t1, s1⟩, n1, e1, hc1, hd1, hs1⟩ := p1
  obtain ⟨⟨c2, d2, t2, s2⟩, n2, e2, hc2, hd2, hs2⟩ := p2
  simp only at hc1 hs1 hc2 hs2
  subst hc1 hs1 hc2 hs2
  have l1 := r1.length
  have l2 := r2.length
  refine concat_meets ⟨_, e1, rfl⟩ ⟨_, e2, rfl⟩ noFill_list_add seq_list_add PySem.F.slot_list_add PySem.F.entry_list_add
    (PySem.F.args_list_add_2 _ _) (list_addW a b i1.toArray i2.toArray n1 n2 d1 d2 s1 s2 (by simp only [List.size_toArray]; omega)) ⟨e1, e2, ?_⟩
  have ea : i1.toArray ++ i2.toArray = (i1 ++ i2).toArray := by simp
  rw [ea]
  exact ⟨.ref _, _, I.lnew (t' := s.toks) (r1.append r2) (by rw [List.length_append]; omega), rfl, q _ I.fresh⟩
/-- a new tuple whose object is known -/
abbrev NewT (H : Hp) (xs : List V) (Q : VK) : Prop := ∀ p (o : Obj), H p = none → o.dict = none → Q (.ref p) (upd H p (.frz o (.tup xs)))
theorem new_tup {X : Cx} {pins : List (Addr × Obj)} {s : Shared} {σ : L2.St} {H : Hp} {h' : Heap} {its : List Value} {xs : List V} {Q : VK} {t' : Nat} (I : Inv X pins σ H s) (k : ∀ b o, s.heap.get? b = some o → h'.get? b = some o) (hs : s.heap.objs.size ≤ h'.objs.size) (r : Vals xs its) (hz : xs.length ≤ sizeLine) (q : NewT H xs Q) :
    EP X pins σ Q (.ref h'.objs.size) { s with heap := h'.push { cls := .type "tuple", data := .seq its.toArray }, toks := t' } := by
  have e := Heap.get?_push_size h' (o := { cls := .type "tuple", data := .seq its.toArray }) rfl
  exact ⟨.ref _, _, I.laid (t' := t') (o := .frz { cls := .type "tuple", data := .seq its.toArray } (.tup xs)) (fun b o z => Heap.get?_push_of_some _ (k b o z)) hs ⟨e, hz, its, r, _, e, rfl, _, rfl⟩, rfl, q _ _ (I.hok.fresh hs) rfl⟩
def rCatF (K : PySem.W.Frag) : R2 := fun x y H Q => ∃ a b xs ys, x = .ref a ∧ y = .ref b ∧ SqT K H a xs ∧ SqT K H b ys ∧ xs.length + ys.length ≤ sizeLine ∧
  (xs = [] → Q (.ref b) H) ∧ (xs ≠ [] → ys = [] → Q (.ref a) H) ∧ (xs ≠ [] → ys ≠ [] → NewT H (xs ++ ys) Q)
theorem op_catF {X : Cx} : OpR X (binaryOp .Add) (rCatF X.K) := by
  intro pins s σ H x y v u Q I rx ry ⟨a, b, xs, ys, ex, ey, ha, hb, hz, q0, q1, q2⟩
  subst ex ey
  cases rx
  cases ry
  obtain ⟨i1, r1, p1, _⟩ := I.tuple ha
  obtain ⟨i2, r2, p2, _⟩ := I.tuple hb
  by_cases hx : xs = []
  · subst hx
    cases r1
    exact L2.cat_tup0 p1 p2 ⟨.ref b, H, I, rfl, q0 rfl⟩
  · refine HT.cat_tup p1 p2 (fun z => hx (r1.nil_iff.mp z)) (fun z => ⟨.ref a, H, I, rfl, q1 hx (r2.nil_iff.mp z)⟩) (fun z => ?_) (by rw [← r1.length, ← r2.length]; exact hz)
    exact new_tup (t' := s.toks) I (fun _ _ z => z) (Nat.le_refl _) (r1.append r2) (by rw [List.length_append]; exact hz) (q2 hx fun w => z (r2.nil_iff.mpr w))
def rSlF (K : PySem.W.Frag) : V → Option Int → Option Int → Hp → VK → Prop := fun x lo hi H Q => ∃ a xs, x = .ref a ∧ SqT K H a xs ∧
  (HT.sIx xs.length 0 lo = 0 ∧ HT.sIx xs.length xs.length hi = xs.length → Q (.ref a) H) ∧ (¬ (HT.sIx xs.length 0 lo = 0 ∧ HT.sIx xs.length xs.length hi = xs.length) → NewT H (cutV xs lo hi) Q)
theorem sl_tupF {X : Cx} : SlR X (rSlF X.K) := by
  intro pins s σ H x v vl vu lo hi sl Q I rx hs pl pu ⟨a, xs, ex, hx, q1, q2⟩
  subst ex
  cases rx
  obtain ⟨its, r, ht, hz⟩ := I.tuple hx
  have hlen : its.toArray.size = xs.length := by rw [List.size_toArray]; exact r.length.symm
  refine ⟨"tuple", _, PyProof.Rows.slot_tuple_getitem.lookup, ht.typeIs, ?_⟩
  by_cases hw : HT.sIx xs.length 0 lo = 0 ∧ HT.sIx xs.length xs.length hi = xs.length
  · exact L2.getItem_tuple_whole ht hs pl pu (by rw [hlen]; exact hw) ⟨.ref a, H, I, rfl, q1 hw⟩
  · refine HT.getItem_tuple_cut ht hs pl pu (by rw [hlen]; exact hw) ?_ (by rw [hlen]; exact hz)
    rw [hlen]
    exact new_tup (t' := s.toks) I (fun _ _ z => z) (Nat.le_refl _) ((r.drop (HT.sIx xs.length 0 lo)).take _) (Nat.le_trans (cutV_length xs lo hi) hz) (q2 hw)
def rTupF (K : PySem.W.Frag) : List V → Hp → VK → Prop := fun xs H Q => ∃ p ys, xs = [.ref p] ∧ ((SqL K H p ys ∧ NewT H ys Q) ∨ (SqT K H p ys ∧ Q (.ref p) H))
theorem call_tupF {X : Cx} : CallR X (.type "tuple") (rTupF X.K) := by
  intro pins s σ H xs us Q I r ⟨p, ys, ex, h⟩
  subst ex
  obtain ⟨u, rfl, rx⟩ := vals1 r
  cases rx
  rcases h with ⟨hq, q⟩ | ⟨hq, q⟩
  · obtain ⟨its, r', pl, hz⟩ := I.list hq
    have hlen := r'.length
    refine call_tuple_list pl.isList (fun h' kp => ?_) (by simp only [List.size_toArray]; omega)
    have I1 : Inv X pins σ H { s with heap := h' } := I.kept (t' := s.toks) kp
    exact new_tup (s := { s with heap := h' }) (h' := h') (t' := s.toks) I1 (fun _ _ z => z) (Nat.le_refl _) r' hz q
  · obtain ⟨its, _, p1, _⟩ := I.tuple hq
    exact call_tuple_same (items := its.toArray) p1 ⟨.ref p, H, I, rfl, q⟩
def rSlS (K : PySem.W.Frag) : V → Option Int → Option Int → Hp → VK → Prop := fun x lo hi H Q => rSlL K x lo hi H Q ∨ rSlF K x lo hi H Q
theorem sl_S {X : Cx} : SlR X (rSlS X.K) := sl_list.or sl_tupF
def rStrS : R2 := fun x y H Q => ∃ i j, x = .str i ∧ y = .str j ∧ i.length + j.length ≤ sizeLine ∧ Q (.str (i ++ j)) H
def rAdd (K : PySem.W.Frag) : R2 := fun x y H Q => rI0 (fun i j => .int (i + j)) x y H Q ∨ rCatF K x y H Q ∨ rCatS K x y H Q ∨ rStrS x y H Q
theorem op_addD {X : Cx} : OpR X (binaryOp .Add) (rAdd X.K) := op_add.or (op_catF.or (op_catS.or op_add_str))
/-- in, deep, lists and tuples -/
def rInS (K : PySem.W.Frag) (f : Bool → Bool) : R2 := fun x y H Q => ∃ d ds, Dp K H x d ∧ (Dp K H y (.list ds) ∨ Dp K H y (.tuple ds)) ∧ SeqAt.shaped d = true ∧ PyData.canLayAll0 ds = true ∧ Q (.bl (f (ds.any fun z => PyData.eqv z d))) H
theorem op_inS {X : Cx} (hu : X.A.units + 65 < cLine) : OpR X (compareOp .In) (rInS X.K id) := by
  intro pins s σ H x y v u Q I rx ry ⟨d, ds, hd, he, sd, se, q⟩
  obtain ⟨as, r1⟩ := Dp.reads I d x v hd rx
  rcases he with he | he
  · obtain ⟨bs, r2⟩ := Dp.reads I (.list ds) y u he ry
    exact SeqAt.in_list_reads r2 r1 se (SeqAt.canLay_of_shaped sd) (room_in_shaped sd hu) ⟨.bl _, H, I, rfl, q⟩
  · obtain ⟨bs, r2⟩ := Dp.reads I (.tuple ds) y u he ry
    exact SeqAt.in_tuple_reads r2 r1 se (SeqAt.canLay_of_shaped sd) (room_in_shaped sd hu) ⟨.bl _, H, I, rfl, q⟩
theorem op_ninS {X : Cx} (hu : X.A.units + 65 < cLine) : OpR X (compareOp .NotIn) (rInS X.K not) := by
  intro pins s σ H x y v u Q I rx ry ⟨d, ds, hd, he, sd, se, q⟩
  obtain ⟨as, r1⟩ := Dp.reads I d x v hd rx
  rcases he with he | he
  · obtain ⟨bs, r2⟩ := Dp.reads I (.list ds) y u he ry
    exact SeqAt.notIn_list_reads r2 r1 se (SeqAt.canLay_of_shaped sd) (room_in_shaped sd hu) ⟨.bl _, H, I, rfl, q⟩
  · obtain ⟨bs, r2⟩ := Dp.reads I (.tuple ds) y u he ry
    exact SeqAt.notIn_tuple_reads r2 r1 se (SeqAt.canLay_of_shaped sd) (room_in_shaped sd hu) ⟨.bl _, H, I, rfl, q⟩

/-! ### they answer as the mirror's operators do -/
section
variable {K : PySem.W.Frag} {cm : CM} {G H : Hp} {v w : V} {d e : D}
theorem cap_le : cap ≤ sizeLine := Nat.le_of_lt cap_line
/-- the answer stands for data -/
abbrev Ans (K : PySem.W.Frag) (cm : CM) (G H : Hp) (d : D) (Q : VK) : Prop := ∀ v' G' H', Ext cm.T [] G H G' H' → Rp K cm G' v' d → Q v' H'
theorem Ans.now {Q : VK} (gh : Sg G H) (a : Ans K cm G H d Q) (r : Rp K cm G v d) : Q v H := a v G H (.refl gh) r
/-- .. a new list that is never changed -/
theorem Ans.lst {Q : VK} (gh : Sg G H) {ds : List D} {xs : List V} (a : Ans K cm G H (.lst ds) Q) (r : Rps K cm G xs ds) {p : Addr} (n : H p = none) : Q (.ref p) (upd H p (.lst xs)) :=
  a _ _ _ (Ext.push gh n) (.lst (SqL.of upd_same) (r.mono (Ext.push (T := cm.T) (o := .lst xs) gh n).g))
theorem Ans.tup {Q : VK} (gh : Sg G H) {ds : List D} {xs : List V} (a : Ans K cm G H (.tup ds) Q) (r : Rps K cm G xs ds) : NewT H xs Q := fun p o n e =>
  a _ _ _ (Ext.push gh n) (.tup (.of upd_same e) (r.mono (Ext.push (T := cm.T) (o := .frz o (.tup xs)) gh n).g))
theorem Vw.str' {x : Str} (h : Vw K cm G H v (.str x)) : v = .str x := h.str
theorem Vw.rtup {ds : List D} (h : Vw K cm G H v (.tup ds)) : Rp K cm G v (.tup ds) := by
  rcases h with h | ⟨a, rfl, h⟩
  · exact h
  · exact h.elim
theorem a_addD : S2 K cm (rAdd K) addD := fun G H v w d e d' Q gh v1 v2 ho (a : Ans K cm G H d' Q) => by
  unfold addD at ho
  split at ho
  · cases ho
    exact .inl ⟨_, _, v1.int, v2.int, a.now gh (.int _)⟩
  · split at ho
    · rename_i x y hl
      cases ho
      obtain ⟨a1, x1, rfl, q1, r1⟩ := v1.tup gh
      obtain ⟨a2, x2, rfl, q2, r2⟩ := v2.tup gh
      have l1 := r1.length
      have l2 := r2.length
      have rr := r1.app r2
      refine .inr (.inl ⟨_, _, _, _, rfl, rfl, q1, q2, by rw [l1, l2]; exact Nat.le_trans hl cap_le, fun e => ?_, fun _ e => ?_, fun _ _ => a.tup gh rr⟩)
      · subst e
        cases r1
        exact a.now gh v2.rtup
      · subst e
        cases r2
        rw [List.append_nil] at a
        exact a.now gh v1.rtup
    · cases ho
  · split at ho
    · rename_i x y hl
      cases ho
      obtain ⟨a1, x1, rfl, q1, r1⟩ := v1.lst gh
      obtain ⟨a2, x2, rfl, q2, r2⟩ := v2.lst gh
      have l1 := r1.length
      have l2 := r2.length
      exact .inr (.inr (.inl ⟨_, _, _, _, rfl, rfl, q1, q2, by rw [l1, l2]; exact Nat.le_trans hl cap_le, fun p n => a.lst gh (r1.app r2) n⟩))
    · cases ho
  · split at ho
    · rename_i x y hl
      cases ho
      exact .inr (.inr (.inr ⟨_, _, v1.str, v2.str, Nat.le_trans hl cap_le, a.now gh (.str _)⟩))
    · cases ho
  · cases ho
theorem a_addL : N2 K cm (rAdd K) addL := fun G H v w d e d' Q gh v1 v2 ho a => by
  unfold addL at ho
  split at ho
  · split at ho
    · rename_i x y hl
      cases ho
      obtain ⟨a1, x1, rfl, q1, r1⟩ := v1.lst gh
      obtain ⟨a2, x2, rfl, q2, r2⟩ := v2.lst gh
      have l1 := r1.length
      have l2 := r2.length
      exact .inr (.inr (.inl ⟨_, _, _, _, rfl, rfl, q1, q2, by rw [l1, l2]; exact Nat.le_trans hl cap_le, fun p n => a p _ n ⟨_, upd_same, r1.app r2⟩⟩))
    · cases ho
  · cases ho
theorem a_subD : S2 K cm (rI0 fun i j => .int (i - j)) subD := fun G H v w d e d' Q gh v1 v2 ho (a : Ans K cm G H d' Q) => by
  unfold subD at ho
  split at ho
  · cases ho
    exact ⟨_, _, v1.int, v2.int, a.now gh (.int _)⟩
  · cases ho
theorem a_mulD : S2 K cm (rI CMul fun i j => .int (i * j)) mulD := fun G H v w d e d' Q gh v1 v2 ho (a : Ans K cm G H d' Q) => by
  unfold mulD at ho
  split at ho
  · split at ho
    · cases ho
      exact ⟨_, _, v1.int, v2.int, by assumption, a.now gh (.int _)⟩
    · cases ho
  · cases ho
theorem a_modD : S2 K cm (rI (fun _ j => 0 < j) fun i j => .int (i % j)) modD := fun G H v w d e d' Q gh v1 v2 ho (a : Ans K cm G H d' Q) => by
  unfold modD at ho
  split at ho
  · split at ho
    · cases ho
      exact ⟨_, _, v1.int, v2.int, by assumption, a.now gh (.int _)⟩
    · cases ho
  · cases ho
theorem a_fdivD : S2 K cm (rI CDiv fun i j => .int (i / j)) fdivD := fun G H v w d e d' Q gh v1 v2 ho (a : Ans K cm G H d' Q) => by
  unfold fdivD at ho
  split at ho
  · split at ho
    · cases ho
      exact ⟨_, _, v1.int, v2.int, by assumption, a.now gh (.int _)⟩
    · cases ho
  · cases ho
theorem a_powD : S2 K cm (rI CPow fun i j => .int (i ^ j.toNat)) powD := fun G H v w d e d' Q gh v1 v2 ho (a : Ans K cm G H d' Q) => by
  unfold powD at ho
  split at ho
  · split at ho
    · cases ho
      exact ⟨_, _, v1.int, v2.int, by assumption, a.now gh (.int _)⟩
    · cases ho
  · cases ho
theorem a_negD : S1 K cm (rU fun i => .int (-i)) negD := fun G H v d d' Q gh v1 ho (a : Ans K cm G H d' Q) => by
  unfold negD at ho
  split at ho
  · cases ho
    exact ⟨_, v1.int, a.now gh (.int _)⟩
  · cases ho
theorem a_cmpD {p : Int → Int → Bool} : S2 K cm (rI0 fun i j => .bl (p i j)) (cmpD p) := fun G H v w d e d' Q gh v1 v2 ho (a : Ans K cm G H d' Q) => by
  unfold cmpD at ho
  split at ho
  · cases ho
    exact ⟨_, _, v1.int, v2.int, a.now gh (.bl _)⟩
  · cases ho
theorem Vw.dp (gh : Same G H) (h : Vw K cm G H v d) (o : okD d = true) : Dp K H v d.py := (h.full gh).dp (SeqAt.canLay_of_shaped o)
theorem a_eqD : S2 K cm (rEqD K) eqD := fun G H v w d e d' Q gh v1 v2 ho (a : Ans K cm G H d' Q) => by
  unfold eqD at ho
  split at ho
  · rename_i h
    cases ho
    simp only [Bool.and_eq_true] at h
    exact ⟨_, _, v1.dp gh h.1, v2.dp gh h.2, h.1, h.2, a.now gh (.bl _)⟩
  · cases ho
theorem a_neD : S2 K cm (rNeD K) neD := fun G H v w d e d' Q gh v1 v2 ho (a : Ans K cm G H d' Q) => by
  unfold neD at ho
  split at ho
  · rename_i h
    cases ho
    simp only [Bool.and_eq_true] at h
    exact ⟨_, _, v1.dp gh h.1, v2.dp gh h.2, h.1, h.2, a.now gh (.bl _)⟩
  · cases ho
theorem inB_py {x : D} : ∀ ys : List D, inB x ys = (D.pys ys).any fun z => PyData.eqv z x.py
  | [] => rfl
  | y :: ys => by
    have := inB_py (x := x) ys
    unfold inB at this ⊢
    simp only [D.pys, List.any_cons, this]
theorem inO_py {x y : D} {b : Bool} (h : inO x y = some b) (v2 : Rp K cm H w y) (v1 : Rp K cm H v x) : ∃ ds, Dp K H v x.py ∧ (Dp K H w (.list ds) ∨ Dp K H w (.tuple ds)) ∧ SeqAt.shaped x.py = true ∧ PyData.canLayAll0 ds = true ∧ b = ds.any fun z => PyData.eqv z x.py := by
  unfold inO at h
  split at h
  · rename_i ys
    split at h
    · rename_i c
      cases h
      simp only [Bool.and_eq_true] at c
      exact ⟨_, v1.dp (SeqAt.canLay_of_shaped c.1), .inl (v2.dp (SeqAt.canLay_of_shaped c.2)), c.1, SeqAt.canLay_of_shaped c.2, inB_py ys⟩
    · cases h
  · rename_i ys
    split at h
    · rename_i c
      cases h
      simp only [Bool.and_eq_true] at c
      exact ⟨_, v1.dp (SeqAt.canLay_of_shaped c.1), .inr (v2.dp (SeqAt.canLay_of_shaped c.2)), c.1, SeqAt.canLay_of_shaped c.2, inB_py ys⟩
    · cases h
  · cases h
theorem a_inD : S2 K cm (rInS K id) inD := fun G H v w d e d' Q gh v1 v2 ho (a : Ans K cm G H d' Q) => by
  unfold inD at ho
  cases h : inO d e with
  | none => rw [h] at ho; cases ho
  | some b =>
    rw [h] at ho
    cases ho
    obtain ⟨ds, h1, h2, h3, h4, rfl⟩ := inO_py h (v2.full gh) (v1.full gh)
    exact ⟨_, ds, h1, h2, h3, h4, a.now gh (.bl _)⟩
theorem a_ninD : S2 K cm (rInS K not) ninD := fun G H v w d e d' Q gh v1 v2 ho (a : Ans K cm G H d' Q) => by
  unfold ninD at ho
  cases h : inO d e with
  | none => rw [h] at ho; cases ho
  | some b =>
    rw [h] at ho
    cases ho
    obtain ⟨ds, h1, h2, h3, h4, rfl⟩ := inO_py h (v2.full gh) (v1.full gh)
    exact ⟨_, ds, h1, h2, h3, h4, a.now gh (.bl _)⟩
theorem isNon_of (h : Vw K cm G H v d) : decide (v = V.non) = isNon d := by
  rcases h with h | ⟨a, rfl, h⟩
  · cases h <;> simp [isNon]
  · cases d <;> first | exact h.elim | simp [isNon]
theorem a_isND : S2 K cm (fun x y H Q => y = .non ∧ Q (.bl (decide (x = .non))) H) isND := fun G H v w d e d' Q gh v1 v2 ho (a : Ans K cm G H d' Q) => by
  unfold isND at ho
  split at ho
  · cases ho
    refine ⟨v2.non, ?_⟩
    rw [isNon_of v1]
    exact a.now gh (.bl _)
  · cases ho
theorem a_nisND : S2 K cm (fun x y H Q => y = .non ∧ Q (.bl (!decide (x = .non))) H) nisND := fun G H v w d e d' Q gh v1 v2 ho (a : Ans K cm G H d' Q) => by
  unfold nisND at ho
  split at ho
  · cases ho
    refine ⟨v2.non, ?_⟩
    rw [isNon_of v1]
    exact a.now gh (.bl _)
  · cases ho
theorem ixD_eq : ixD = ixN := rfl
theorem Rps.atI {xs : List V} {ds : List D} {i : Int} (r : Rps K cm G xs ds) (h : L2.atI ds i = some d) : ∃ v, L2.atI xs i = some v ∧ Rp K cm G v d := by
  unfold L2.atI at h ⊢
  rw [r.length]
  cases e : ixN ds.length i with
  | none => rw [e] at h; cases h
  | some j =>
    rw [e] at h
    exact r.get h
theorem a_idxD : S2 K cm (rIx K) idxD := fun G H v w d e d' Q gh v1 v2 ho (a : Ans K cm G H d' Q) => by
  unfold idxD at ho
  split at ho
  · cases es : seqOf d with
    | none => rw [es] at ho; cases ho
    | some xs =>
      rw [es] at ho
      have ho' : L2.atI xs _ = some d' := ho
      cases d with
      | lst ds =>
        cases es
        obtain ⟨p, ys, rfl, q, r⟩ := v1.lst gh
        obtain ⟨z, e1, rz⟩ := r.atI ho'
        exact .inl ⟨p, ys, _, z, rfl, v2.int, q, e1, a.now gh rz⟩
      | tup ds =>
        cases es
        obtain ⟨p, ys, rfl, q, r⟩ := v1.tup gh
        obtain ⟨z, e1, rz⟩ := r.atI ho'
        exact .inr (.inl ⟨p, ys, _, z, rfl, v2.int, q, e1, a.now gh rz⟩)
      | _ => cases es
  · cases ho
theorem kit_tab : (["NoneType", "bool", "int", "str", "list", "tuple", "dict"].all fun n => ["bool", "int", "str", "list", "tuple", "dict"].all fun T => kitB n T == some (tyB n T)) = true := by decide +kernel
theorem kit_at {n T : String} (hn : n ∈ ["NoneType", "bool", "int", "str", "list", "tuple", "dict"]) (hT : T ∈ ["bool", "int", "str", "list", "tuple", "dict"]) : kitB n T = some (tyB n T) := by
  have h := List.all_eq_true.mp (List.all_eq_true.mp kit_tab n hn) T hT
  exact eq_of_beq h
theorem tyx_of {n : String} (gh : Same G H) (h : Vw K cm G H v d) (e : tyN d = some n) : TyX K H v (.type n) ∧ n ∈ ["NoneType", "bool", "int", "str", "list", "tuple", "dict"] := by
  have sq : ∀ {a : Addr} {xs : List V}, SqL K H a xs → TyX K H (.ref a) (.type "list") := fun {a xs} h => by
    rcases h with (h | ⟨o, h⟩) | ⟨o, its, n, hk, hc, _⟩
    · exact .base (.lst h)
    · exact .base (.frz h)
    · exact .kList hk hc
  have sqt : ∀ {a : Addr} {xs : List V}, SqT K H a xs → TyX K H (.ref a) (.type "tuple") := fun {a xs} h => by
    rcases h with (h | ⟨o, h⟩) | ⟨o, its, n, hk, hc, _⟩
    · exact .base (.tup h)
    · exact .fTuple h
    · exact .kTuple hk hc
  cases d with
  | non => cases e; rw [h.non]; exact ⟨.base .non, by decide⟩
  | bl b => cases e; rw [h.bl]; exact ⟨.base (.bl b), by decide⟩
  | int i => cases e; rw [h.int]; exact ⟨.base (.int i), by decide⟩
  | str x => cases e; rw [h.str]; exact ⟨.base (.str x), by decide⟩
  | lst ds =>
    cases e
    obtain ⟨p, ys, rfl, q, r⟩ := h.lst gh
    exact ⟨sq q, by decide⟩
  | tup ds =>
    cases e
    obtain ⟨p, ys, rfl, q, r⟩ := h.tup gh
    exact ⟨sqt q, by decide⟩
  | dic ds =>
    cases e
    rcases h with h | ⟨a, rfl, kvs, q, _⟩
    · cases h with
      | dic q r =>
        rcases same_rd gh q with q | ⟨o, q⟩
        · exact ⟨.base (.dK q), by decide⟩
        · exact ⟨.fDict q, by decide⟩
    · exact ⟨.base (.dK q), by decide⟩
  | _ => cases e
theorem a_isD {T : String} (hT : T ∈ ["bool", "int", "str", "list", "tuple", "dict"]) : S1 K cm (fun v H Q => rIsi K [v, .ty T] H Q) (isD T) := fun G H v d d' Q gh v1 ho (a : Ans K cm G H d' Q) => by
  unfold isD at ho
  cases e : tyN d with
  | none => rw [e] at ho; cases ho
  | some n =>
    rw [e] at ho
    cases ho
    obtain ⟨t, hn⟩ := tyx_of gh v1 e
    exact ⟨v, .ty T, _, _, _, rfl, .ty T, t, kit_ty (kit_at hn hT), a.now gh (.bl _)⟩
theorem a_lenD : S1 K cm (fun v H Q => ∃ x n, [v] = [x] ∧ LenV K x H n ∧ Q (.int n) H) lenD := fun G H v d d' Q gh v1 ho (a : Ans K cm G H d' Q) => by
  unfold lenD at ho
  split at ho
  · cases ho
    obtain ⟨p, ys, rfl, q, r⟩ := v1.lst gh
    exact ⟨_, ys.length, rfl, .inl ⟨ys, q, rfl⟩, by rw [r.length]; exact a.now gh (.int _)⟩
  · cases ho
    obtain ⟨p, ys, rfl, q, r⟩ := v1.tup gh
    exact ⟨_, ys.length, rfl, .inr ⟨ys, q, rfl⟩, by rw [r.length]; exact a.now gh (.int _)⟩
  · cases ho
theorem a_listD : S1 K cm (fun v H Q => ∃ p ys, [v] = [.ref p] ∧ (SqL K H p ys ∨ SqT K H p ys) ∧ ∀ l, H l = none → Q (.ref l) (upd H l (.lst ys))) listD := fun G H v d d' Q gh v1 ho (a : Ans K cm G H d' Q) => by
  cases d with
  | lst ds => cases ho; obtain ⟨p, ys, rfl, q, r⟩ := v1.lst gh; exact ⟨p, ys, rfl, .inl q, fun l n => a.lst gh r n⟩
  | tup ds => cases ho; obtain ⟨p, ys, rfl, q, r⟩ := v1.tup gh; exact ⟨p, ys, rfl, .inr q, fun l n => a.lst gh r n⟩
  | _ => cases ho
theorem a_listN : N1 K cm (fun v H Q => ∃ p ys, [v] = [.ref p] ∧ (SqL K H p ys ∨ SqT K H p ys) ∧ ∀ l, H l = none → Q (.ref l) (upd H l (.lst ys))) listD := fun G H v d d' Q gh v1 ho a => by
  cases d with
  | lst ds => cases ho; obtain ⟨p, ys, rfl, q, r⟩ := v1.lst gh; exact ⟨p, ys, rfl, .inl q, fun l n => a l _ n ⟨ys, upd_same, r⟩⟩
  | tup ds => cases ho; obtain ⟨p, ys, rfl, q, r⟩ := v1.tup gh; exact ⟨p, ys, rfl, .inr q, fun l n => a l _ n ⟨ys, upd_same, r⟩⟩
  | _ => cases ho
theorem a_tupleD : S1 K cm (fun v H Q => rTupF K [v] H Q) tupleD := fun G H v d d' Q gh v1 ho (a : Ans K cm G H d' Q) => by
  cases d with
  | lst ds => cases ho; obtain ⟨p, ys, rfl, q, r⟩ := v1.lst gh; exact ⟨p, ys, rfl, .inl ⟨q, a.tup gh r⟩⟩
  | tup ds => cases ho; have r0 := v1.rtup; obtain ⟨p, ys, rfl, q, r⟩ := v1.tup gh; exact ⟨p, ys, rfl, .inr ⟨q, a.now gh r0⟩⟩
  | _ => cases ho
theorem a_intD : S1 K cm (fun v H Q => (∃ i, [v] = [.int i] ∧ Q (.int i) H) ∨ ∃ k, [v] = [.bl k] ∧ Q (.int (if k then 1 else 0)) H) intD := fun G H v d d' Q gh v1 ho (a : Ans K cm G H d' Q) => by
  unfold intD at ho
  split at ho
  · cases ho; exact .inl ⟨_, by rw [v1.int], a.now gh (.int _)⟩
  · cases ho; exact .inr ⟨_, by rw [v1.bl], a.now gh (.int _)⟩
  · cases ho
theorem a_absD : S1 K cm (fun v H Q => ∃ i, [v] = [.int i] ∧ Q (.int (if i < 0 then -i else i)) H) absD := fun G H v d d' Q gh v1 ho (a : Ans K cm G H d' Q) => by
  unfold absD at ho
  split at ho
  · cases ho; exact ⟨_, by rw [v1.int], a.now gh (.int _)⟩
  · cases ho
theorem a_max2D : S2 K cm (fun v w H Q => ∃ i j, [v, w] = [.int i, .int j] ∧ Q (.int (if j > i then j else i)) H) max2D := fun G H v w d e d' Q gh v1 v2 ho (a : Ans K cm G H d' Q) => by
  unfold max2D at ho
  split at ho
  · cases ho; exact ⟨_, _, by rw [v1.int, v2.int], a.now gh (.int _)⟩
  · cases ho
theorem a_min2D : S2 K cm (fun v w H Q => ∃ i j, [v, w] = [.int i, .int j] ∧ Q (.int (if j < i then j else i)) H) min2D := fun G H v w d e d' Q gh v1 v2 ho (a : Ans K cm G H d' Q) => by
  unfold min2D at ho
  split at ho
  · cases ho; exact ⟨_, _, by rw [v1.int, v2.int], a.now gh (.int _)⟩
  · cases ho
theorem Rps.ints : ∀ {xs : List V} {ds : List D} {ns : List Int}, Rps K cm G xs ds → intsO ds = some ns → xs = ns.map .int
  | _, _, _, .nil, h => by cases h; rfl
  | _, _, _, .cons (ds := ds) r t, h => by
    unfold intsO at h
    split at h
    · rename_i z; cases z
    · rename_i i r' e
      cases e
      cases q : intsO ds with
      | none => rw [q] at h; cases h
      | some ns =>
        rw [q] at h
        cases h
        cases r
        rw [Rps.ints t q]
        rfl
    · cases h
theorem Rps.bls : ∀ {xs : List V} {ds : List D} {ns : List Bool}, Rps K cm G xs ds → blsO ds = some ns → xs = ns.map .bl
  | _, _, _, .nil, h => by cases h; rfl
  | _, _, _, .cons (ds := ds) r t, h => by
    unfold blsO at h
    split at h
    · rename_i z; cases z
    · rename_i i r' e
      cases e
      cases q : blsO ds with
      | none => rw [q] at h; cases h
      | some ns =>
        rw [q] at h
        cases h
        cases r
        rw [Rps.bls t q]
        rfl
    · cases h
theorem rps_ints : ∀ ns : List Int, Rps K cm G (ns.map V.int) (ns.map D.int)
  | [] => .nil
  | i :: r => .cons (.int i) (rps_ints r)
theorem isort_unique {l l' : List Int} (p : l'.Perm l) (s : l'.Pairwise (· ≤ ·)) : l' = isort l := by
  have h1 : (isort l).Pairwise (fun a b => decide (a ≤ b) = true) := List.pairwise_mergeSort (fun a b c h1 h2 => by simp at h1 h2 ⊢; omega) (fun a b => by simp; omega) l
  refine List.Perm.eq_of_pairwise (le := (· ≤ ·)) (fun a b _ _ h1 h2 => Int.le_antisymm h1 h2) s (h1.imp fun h => by simpa using h) (p.trans (List.mergeSort_perm l _).symm)
theorem a_sortD : S1 K cm (fun v H Q => rSortedI K [v] H Q) sortD := fun G H v d d' Q gh v1 ho (a : Ans K cm G H d' Q) => by
  unfold sortD at ho
  split at ho
  · rename_i xs
    cases q : intsO xs with
    | none => rw [q] at ho; cases ho
    | some ns =>
      rw [q] at ho
      cases ho
      obtain ⟨p, ys, rfl, hq, r⟩ := v1.lst gh
      have e := r.ints q
      subst e
      exact ⟨p, ns, rfl, hq, fun ns' l h1 h2 n => by rw [isort_unique h1 h2]; exact a.lst gh (rps_ints _) n⟩
  · cases ho
theorem a_sortN : N1 K cm (fun v H Q => rSortedI K [v] H Q) sortD := fun G H v d d' Q gh v1 ho a => by
  unfold sortD at ho
  split at ho
  · rename_i xs
    cases q : intsO xs with
    | none => rw [q] at ho; cases ho
    | some ns =>
      rw [q] at ho
      cases ho
      obtain ⟨p, ys, rfl, hq, r⟩ := v1.lst gh
      have e := r.ints q
      subst e
      exact ⟨p, ns, rfl, hq, fun ns' l h1 h2 n => by rw [isort_unique h1 h2]; exact a l _ n ⟨_, upd_same, rps_ints _⟩⟩
  · cases ho
theorem a_allD : S1 K cm (fun v H Q => rAll K [v] H Q) allD := fun G H v d d' Q gh v1 ho (a : Ans K cm G H d' Q) => by
  unfold allD at ho
  split at ho
  · rename_i xs
    cases q : blsO xs with
    | none => rw [q] at ho; cases ho
    | some ns =>
      rw [q] at ho
      cases ho
      obtain ⟨p, ys, rfl, hq, r⟩ := v1.lst gh
      have e := r.bls q
      subst e
      exact ⟨p, ns, rfl, hq, a.now gh (.bl _)⟩
  · cases ho
theorem a_anyD : S1 K cm (fun v H Q => rAny K [v] H Q) anyD := fun G H v d d' Q gh v1 ho (a : Ans K cm G H d' Q) => by
  unfold anyD at ho
  split at ho
  · rename_i xs
    cases q : blsO xs with
    | none => rw [q] at ho; cases ho
    | some ns =>
      rw [q] at ho
      cases ho
      obtain ⟨p, ys, rfl, hq, r⟩ := v1.lst gh
      have e := r.bls q
      subst e
      exact ⟨p, ns, rfl, hq, a.now gh (.bl _)⟩
  · cases ho
theorem Rps.cut {xs : List V} {ds : List D} (r : Rps K cm G xs ds) (lo hi : Option Int) : Rps K cm G (cutV xs lo hi) (cutD ds lo hi) := by
  unfold cutV cutD
  rw [r.length]
  exact (r.drop _).take _
/-- slices -/
def S3 (K : PySem.W.Frag) (cm : CM) (r : V → Option Int → Option Int → Hp → VK → Prop) (op : D → Option Int → Option Int → Option D) : Prop := ∀ (G H : Hp) (v : V) (d d' : D) (lo hi : Option Int) (Q : VK), Sg G H → Vw K cm G H v d → op d lo hi = some d' →
  (∀ v' G' H', Ext cm.T [] G H G' H' → Rp K cm G' v' d' → Q v' H') → r v lo hi H Q
def N3 (K : PySem.W.Frag) (cm : CM) (r : V → Option Int → Option Int → Hp → VK → Prop) (op : D → Option Int → Option Int → Option D) : Prop := ∀ (G H : Hp) (v : V) (d d' : D) (lo hi : Option Int) (Q : VK), Sg G H → Vw K cm G H v d → op d lo hi = some d' →
  (∀ p u, H p = none → OwnAt K cm G (upd H p u) p d' → Q (.ref p) (upd H p u)) → r v lo hi H Q
theorem a_slD : S3 K cm (rSlS K) slD := fun G H v d d' lo hi Q gh v1 ho (a : Ans K cm G H d' Q) => by
  cases d with
  | lst ds => cases ho; obtain ⟨p, ys, rfl, q, r⟩ := v1.lst gh; exact .inl ⟨p, ys, rfl, q, fun p n => a.lst gh (r.cut lo hi) n⟩
  | tup ds =>
    cases ho
    have r0 := v1.rtup
    obtain ⟨p, ys, rfl, q, r⟩ := v1.tup gh
    refine .inr ⟨p, ys, rfl, q, fun ⟨h1, h2⟩ => ?_, fun _ => a.tup gh (r.cut lo hi)⟩
    have e : cutD ds lo hi = ds := by
      unfold cutD
      rw [← r.length, h1, h2, Nat.sub_zero, List.drop_zero, r.length, List.take_length]
    rw [e] at a
    exact a.now gh r0
  | _ => cases ho
theorem a_slL : N3 K cm (rSlS K) slL := fun G H v d d' lo hi Q gh v1 ho a => by
  cases d with
  | lst ds => cases ho; obtain ⟨p, ys, rfl, q, r⟩ := v1.lst gh; exact .inl ⟨p, ys, rfl, q, fun p n => a p _ n ⟨_, upd_same, r.cut lo hi⟩⟩
  | _ => cases ho
end
end Mi

end
section
set_option Elab.async false
set_option linter.all false
set_option maxRecDepth 100000
set_option autoImplicit false
set_option maxHeartbeats 4000000
namespace Mi
open PySem PySem.Spec PyProof.Rows L2

/-! ### own objects change -/
section
variable {F : Fm} {O : List Nat} {G H : Hp} {σ : L2.St} {δ : Env}
theorem ext_upd {T : List (Addr × Str)} {a : Addr} {u w : HO} (gh : Sg G H) (na : G a = none) (hH : H a = some w) (nc : NC a w) (nu : NT u) : Ext T [a] G H G (upd H a u) := ⟨.refl G, gh.own na, fun b o h n _ => by
    rw [upd_ne (by simpa using n)]; exact h, fun _ _ => rfl, fun b h => by
    by_cases e : b = a
    · subst e; rw [upd_same]; simp
    · rw [upd_ne e]; exact h, .upd hH nc nu⟩
theorem Stt.mut (s : Stt F O G H σ δ) {i : Nat} {a : Addr} {u : HO} {d : D} (hi : i ∈ O) (ha : σ[i]? = some (some (.ref a))) (na : G a = none) (hH : H a ≠ none) (o : OwnAt F.K F.cm G (upd H a u) a d) :
    Stt F O G (upd H a u) σ (δ.set i (some d)) ∧ Ext F.cm.T (ownS O σ) G H G (upd H a u) := by
  obtain ⟨a', d', e1, _, _, o', _⟩ := s.ow i hi
  rw [ha] at e1
  cases e1
  cases q : H a with
  | none => exact absurd q hH
  | some w =>
    have e := ext_upd (T := F.cm.T) (u := u) s.gh na q (o'.nc q) (o.nc upd_same).1
    exact ⟨s.after1 hi ha e na o, e.g, e.gh, fun b w h n t => e.keep b w h (fun z => n (by rw [show b = a by simpa using z]; exact mem_ownS.mpr ⟨i, hi, ha⟩)) t, e.new, e.dom, e.tab⟩
/-- an own list as it stands -/
theorem Stt.ownL (s : Stt F O G H σ δ) {i : Nat} (hi : i ∈ O) : ∃ a d, σ[i]? = some (some (.ref a)) ∧ eV i δ = .ok d δ ∧ G a = none ∧ OwnAt F.K F.cm G H a d := by
  obtain ⟨a, d, e1, e2, n, o, _⟩ := s.ow i hi
  exact ⟨a, d, e1, by unfold eV; rw [e2], n, o⟩
end
theorem Rps.dropLast {K : PySem.W.Frag} {cm : CM} {G : Hp} : ∀ {vs : List V} {ds : List D}, Rps K cm G vs ds → Rps K cm G vs.dropLast ds.dropLast
  | _, _, .nil => .nil
  | _, _, .cons _ .nil => .nil
  | _, _, .cons r (.cons r2 t) => .cons r (Rps.dropLast (.cons r2 t))
theorem Rps.eraseIdx {K : PySem.W.Frag} {cm : CM} {G : Hp} : ∀ {vs : List V} {ds : List D} (i : Nat), Rps K cm G vs ds → Rps K cm G (vs.eraseIdx i) (ds.eraseIdx i)
  | _, _, _, .nil => .nil
  | _, _, 0, .cons _ t => t
  | _, _, i + 1, .cons r t => .cons r (t.eraseIdx i)
theorem Rps.setAt {K : PySem.W.Frag} {cm : CM} {G : Hp} {v : V} {d : D} (q : Rp K cm G v d) : ∀ {vs : List V} {ds : List D} (i : Nat), Rps K cm G vs ds → Rps K cm G (vs.set i v) (ds.set i d)
  | _, _, _, .nil => .nil
  | _, _, 0, .cons _ t => .cons q t
  | _, _, i + 1, .cons r t => .cons r (Rps.setAt q i t)
theorem tyl {K : PySem.W.Frag} {H : Hp} {a : Addr} {xs : List V} (h : H a = some (.lst xs)) : tyV K "list" (.ref a) H := .inl ⟨rfl, xs, SqL.of h⟩
section
variable {X : Cx} {C : Sc} {O O1 : List Nat} {a b c : Expr} {fa fb fc : Ex} {pos p p2 : Pos} {i : Nat} {x : Str}
/-- x.pop() -/
theorem d_pop {ap : Pos} (hK : C.F.K = X.K) (hi : i ∈ O) (h : PE X (.Call (.Attribute (.Name x p) "pop" ap) [] [] pos) (tBM0 X.K "list" rPop (tVar i))) : PE X (.Call (.Attribute (.Name x p) "pop" ap) [] [] pos) (tD C O (ePop i)) := pe_imp h fun σ H Q ⟨G, δ, st, m⟩ => by
  obtain ⟨a, d, e1, ev, na, o⟩ := st.ownL hi
  unfold ePop at m
  rw [ev, Res.bind_ok] at m
  cases d with
  | lst ds =>
    obtain ⟨xs, q, r⟩ := o
    cases e : ds[ds.length - 1]? with
    | none => simp only [e] at m
    | some y =>
      simp only [e] at m
      obtain ⟨v, hv, rv⟩ := r.get e
      obtain ⟨st2, ex⟩ := st.mut (u := .lst xs.dropLast) hi e1 na (by rw [q]; simp) (d := .lst ds.dropLast) ⟨_, upd_same, r.dropLast⟩
      exact ⟨_, e1, tyl q, a, xs, v, rfl, rfl, q, by rw [r.length]; exact hv, m v G _ ex st2 rv⟩
  | _ => exact m.elim
theorem isL_of {F : Fm} {G H : Hp} {σ : L2.St} {δ : Env} (s : Stt F O G H σ δ) {i : Nat} (hi : i ∈ O) (h : isL i δ = true) : ∃ a ds xs, σ[i]? = some (some (.ref a)) ∧ eV i δ = .ok (.lst ds) δ ∧ G a = none ∧ H a = some (.lst xs) ∧ Rps F.K F.cm G xs ds := by
  obtain ⟨a, d, e1, e2, n, o, _⟩ := s.ow i hi
  unfold isL at h
  rw [e2] at h
  cases d with
  | lst ds =>
    obtain ⟨xs, q, r⟩ := o
    exact ⟨a, ds, xs, e1, by unfold eV; rw [e2], n, q, r⟩
  | _ => cases h
/-- x.pop(e) -/
theorem d_popAt {ap : Pos} (hK : C.F.K = X.K) (hi : i ∈ O) (h : PE X (.Call (.Attribute (.Name x p) "pop" ap) [a] [] pos) (tBM X.K "list" rPopAt (tVar i) (tCons (tD C O fa) tNil))) :
    PE X (.Call (.Attribute (.Name x p) "pop" ap) [a] [] pos) (tD C O (ePopAt i fa)) := pe_imp h fun σ H Q ⟨G, δ, st, m⟩ => by
  unfold ePopAt at m
  by_cases hL : isL i δ = true
  case neg => rw [if_neg hL] at m; exact m.elim
  rw [if_pos hL] at m
  obtain ⟨l, ds0, xs0, e1, ev0, _, q0, _⟩ := isL_of st hi hL
  refine ⟨_, e1, tyl q0, G, δ, st, ?_⟩
  cases e : fa δ with
  | exc c d δ' => rw [e] at m; exact m
  | bad => rw [e] at m; exact m.elim
  | ok k δ1 =>
    rw [e, Res.bind_ok] at m
    intro v G1 H1 s1 st1 rv
    obtain ⟨l', d, e1', ev, na, o⟩ := st1.ownL hi
    rw [e1] at e1'
    cases e1'
    rw [ev, Res.bind_ok] at m
    cases d with
    | lst ds =>
      cases rv with
      | int j =>
        simp only at m
        obtain ⟨xs, q, r⟩ := o
        by_cases hc : ds.length ≤ cap
        case neg => rw [if_neg hc] at m; exact m.elim
        rw [if_pos hc] at m
        cases em : ixD ds.length j with
        | none => simp only [em] at m
        | some mm =>
          cases ey : ds[mm]? with
          | none => simp only [em, ey] at m
          | some y =>
            simp only [em, ey] at m
            obtain ⟨w, hw, rw'⟩ := r.get ey
            obtain ⟨sx, h1, h2, h3⟩ := ixN_seq (n := ds.length) em
            have c1 : (cap : Int) < 2 ^ 63 := by rw [cap_eq]; decide
            obtain ⟨st2, ex⟩ := st1.mut (u := .lst (xs.eraseIdx mm)) hi e1 na (by rw [q]; simp) (d := .lst (ds.eraseIdx mm)) ⟨_, upd_same, r.eraseIdx mm⟩
            exact ⟨l, xs, j, mm, w, rfl, rfl, q, by omega, by omega, by rw [r.length]; exact sx, hw, m w G1 _ (s1.thn ex) st2 rw'⟩
      | _ => exact m.elim
    | _ => exact m.elim
/-- x.append(e) -/
theorem s_app {ap : Pos} (hi : i ∈ O) (h : PS X (.Expr (.Call (.Attribute (.Name x p) "append" ap) [a] [] pos) p2) (tDrop (tBM X.K "list" rAppend (tVar i) (tCons (tD C O fa) tNil)))) (hx : C.XO O := by trivial) :
    PS X (.Expr (.Call (.Attribute (.Name x p) "append" ap) [a] [] pos) p2) (tS C O O (sApp i fa)) := ps_imp h fun D σ H ⟨G, δ, st, m⟩ => by
  unfold sApp at m
  by_cases hL : isL i δ = true
  case neg => rw [if_neg hL] at m; exact m.elim
  rw [if_pos hL] at m
  obtain ⟨l, ds0, xs0, e1, ev0, _, q0, _⟩ := isL_of st hi hL
  refine ⟨_, e1, tyl q0, ?_⟩
  refine r_out hx st m fun k v G1 H1 δ1 s1 st1 rv m1 => ?_
  obtain ⟨l', d, e1', ev, na, o⟩ := st1.ownL hi
  rw [e1] at e1'
  cases e1'
  rw [ev, Res.out_ok] at m1
  cases d with
  | lst ds =>
    simp only at m1
    obtain ⟨xs, q, r⟩ := o
    by_cases hc : ds.length < cap
    case neg => rw [if_neg hc] at m1; exact m1.elim
    rw [if_pos hc] at m1
    obtain ⟨st2, ex⟩ := st1.mut (u := .lst (xs ++ [v])) hi e1 na (by rw [q]; simp) (d := .lst (ds ++ [k])) ⟨_, upd_same, r.app (.cons rv .nil)⟩
    exact ⟨l, xs, v, rfl, rfl, q, by rw [r.length]; exact Nat.lt_trans hc cap_line, m1 σ G1 _ (.refl G1) st2⟩
  | _ => exact m1.elim
/-- x[k] = e -/
theorem s_setI {sp : Pos} (hi : i ∈ O) (h : PS X (.Assign [.Subscript (.Name x p) b sp] a pos) (tAsg (tD C O fa) (gSub (tVar i) (tD C O fb) rSetL))) (hx : C.XO O := by trivial) :
    PS X (.Assign [.Subscript (.Name x p) b sp] a pos) (tS C O O (sSetI i fb fa)) := ps_imp h fun D σ H ⟨G, δ, st, m⟩ => by
  unfold sSetI at m
  refine r_out hx st m fun d v G1 H1 δ1 s1 st1 rv m1 => ?_
  obtain ⟨l, _, e1, _, _, _⟩ := st1.ownL hi
  refine ⟨_, e1, ?_⟩
  refine r_out hx st1 m1 fun k w G2 H2 δ2 s2 st2 rw2 m2 => ?_
  obtain ⟨l', d', e1', ev, na, o⟩ := st2.ownL hi
  rw [e1] at e1'
  cases e1'
  rw [ev, Res.out_ok] at m2
  cases d' with
  | lst ds =>
    cases rw2 with
    | int j =>
      simp only at m2
      obtain ⟨xs, q, r⟩ := o
      cases em : ixD ds.length j with
      | none => simp only [em] at m2; exact m2.elim
      | some mm =>
        simp only [em] at m2
        obtain ⟨st3, ex⟩ := st2.mut (u := .lst (xs.set mm v)) hi e1 na (by rw [q]; simp) (d := .lst (ds.set mm d)) ⟨_, upd_same, Rps.setAt (rv.mono s2.g) mm r⟩
        exact ⟨l, xs, j, mm, rfl, rfl, q, by rw [r.length]; exact em, m2 σ G2 _ (.refl G2) st3⟩
    | _ => exact m2.elim
  | _ => exact m2.elim

/-! ### x.index(y) -/
def tIxOf (K : PySem.W.Frag) (to : TE) (t : TA) : TE := fun σ H Q => to σ H fun x H1 => ∃ (l : Bool) (p : Addr) (vs : List V), x = .ref p ∧ SqA K H1 p vs l ∧ (l = true ∨ TqT K H1 p vs) ∧ t σ H1 fun ys H2 =>
  ∃ (ns : List Int) (k : Int), ys = [.int k] ∧ SqA K H2 p (ns.map V.int) l ∧ k ∈ ns ∧ Q (.int (ns.idxOf k : Nat)) H2
theorem tqt_ty {pins : List (Addr × Obj)} {s : Shared} {σ : L2.St} {H : Hp} {q : Addr} {vs : List V} (I : Inv X pins σ H s) (h : TqT X.K H q vs) : s.TypeIs (.ref q) "tuple" ∧ ∀ a, Value.ref q = .ref a → ∃ ob, s.heap.get? a = some ob ∧ ob.dict = none := by
  rcases h with ⟨o, h, hd⟩ | ⟨o, its, n, hk, hc, hd, _⟩
  · obtain ⟨e, _, _, _, o', e', hc, _⟩ := (show s.heap.get? q = some o ∧ ObjOk X.prog X.w H s.heap q (.tup vs) from I.hok q _ h)
    rw [e] at e'
    cases e'
    exact ⟨⟨o, e, hc⟩, fun a z => by cases z; exact ⟨o, e, hd⟩⟩
  · exact ⟨⟨o, I.kIn q o hk, hc⟩, fun a z => by cases z; exact ⟨o, I.kIn _ o hk, hd⟩⟩
theorem pe_ixOf {to : TE} {t : TA} {ap : Pos} (ho : PE X b to) (ha : PA X [a] t)
    (hbase : attributeBase b "index" X.env (eval b X.env) = eval b X.env := by rfl)
    (hfew : ((backTo pos (starEach [a] X.env)).all (fun x => !x.1) && (backToKw pos (keywordEach [] X.env)).all (fun x => x.1.isSome) && decide ([a].length + ([] : List Keyword).length + (if ([] : List Keyword).isEmpty then 0 else 1) < 30)) = true := by rfl)
    (hline : (ap.endLine == pos.line) = true := by rfl) (hs : starEach [a] X.env = (false, eval a X.env) :: starEach [] X.env := by rfl) (hp : (backTo pos (starEach [] X.env)).any (·.1) = false := by rfl) :
    PE X (.Call (.Attribute b "index" ap) [a] [] pos) (tIxOf X.K to t) := by
  refine ⟨fun pins s σ H Q I h => wpAny_Call_method_late hbase hfew hline rfl (thn (ho.run pins s σ H _ I h) fun v s1 ⟨x, H1, I1, r1, l, p0, vs0, ex, sq, ty, q1⟩ => ?_)⟩
  subst ex
  cases r1
  have fin : ∀ (id : String), (∀ (s2 : Shared) (H2 : Hp) (k : Int) (t : Tok) (ns : List Int), Inv X pins σ H2 s2 → SqA X.K H2 p0 (ns.map V.int) l → k ∈ ns → Q (.int (ns.idxOf k : Nat)) H2 → wpAny (model X.prog X.w) X.A (call (.builtin id) [.ref p0, .int k t]) (EP X pins σ Q) X.xe s2) →
      wpAny (model X.prog X.w) X.A (spliced (backTo pos (starEach [a] X.env))) (fun vs s₂ => wpAny (model X.prog X.w) X.A (call (.builtin id) (.ref p0 :: vs)) (EP X pins σ Q) X.xe s₂) X.xe s1 := fun id hc => by
    refine thn (ha.run pos pins s1 σ H1 _ I1 q1) fun us s2 ⟨ys, H2, I2, r2, ns, k, ek, hq, hk, q2⟩ => ?_
    subst ek
    cases r2 with
    | cons r r' =>
      cases r'
      obtain ⟨t, rfl⟩ := r
      exact hc s2 H2 k t ns I2 hq hk q2
  cases l with
  | true =>
    obtain ⟨h1, h2⟩ := tyV_is (x := V.ref p0) I1 (v := .ref p0) rfl (show tyV X.K "list" (.ref p0) H1 from .inl ⟨rfl, _, sq⟩)
    refine ⟨"list", "list.index", PySem.F.plainAttrs_list, PySem.F.slot_list_index, PySem.F.type_list_index, h1, h2, ?_⟩
    have hA := fin "list.index" fun s2 H2 k t ns I2 hq hk q2 => by
      obtain ⟨its, r, pl, hz⟩ := I2.list hq
      exact SeqAt.list_index_ints pl.isList (intsAre_of r) (by simpa using hz) hk ⟨.int _, H2, I2.tok _, ⟨_, rfl⟩, q2⟩
    rw [hs] at hA ⊢
    exact Calls.callWith_builtin (by show (false || (backTo pos (starEach [] X.env)).any (·.1)) = false; rw [hp]; rfl) (Calls.evalArgs_plain hA)
  | false =>
    obtain ⟨h1, h2⟩ := tqt_ty I1 (ty.resolve_left (fun z => Bool.noConfusion z))
    refine ⟨"tuple", "tuple.index", PySem.F.plainAttrs_tuple, PySem.F.slot_tuple_index, PySem.F.type_tuple_index, h1, h2, ?_⟩
    have hA := fin "tuple.index" fun s2 H2 k t ns I2 hq hk q2 => by
      obtain ⟨its, r, pl, hz⟩ := I2.tuple hq
      exact SeqAt.tuple_index_ints pl (intsAre_of r) hk ⟨.int _, H2, I2.tok _, ⟨_, rfl⟩, q2⟩
    rw [hs] at hA ⊢
    exact Calls.callWith_builtin (by show (false || (backTo pos (starEach [] X.env)).any (·.1)) = false; rw [hp]; rfl) (Calls.evalArgs_plain hA)
theorem seqOf_sq {F : Fm} {G H : Hp} {v : V} {d : D} {ds : List D} (gh : Sg G H) (r : Rp F.K F.cm G v d) (h : seqOf d = some ds) : ∃ (l : Bool) (q : Addr) (vs : List V), v = .ref q ∧ SqA F.K G q vs l ∧ (l = true ∨ TqT F.K G q vs) ∧ Rps F.K F.cm G vs ds := by
  cases r with
  | lst q r => cases h; exact ⟨true, _, _, rfl, q, .inl rfl, r⟩
  | tup q r => cases h; exact ⟨false, _, _, rfl, q.sq, .inr q, r⟩
  | _ => cases h
theorem d_ix {ap : Pos} (hK : C.F.K = X.K) (h : PE X (.Call (.Attribute b "index" ap) [a] [] pos) (tIxOf X.K (tD C O fb) (tCons (tD C O fa) tNil))) : PE X (.Call (.Attribute b "index" ap) [a] [] pos) (tD C O (eIx fb fa)) := pe_imp h fun σ H Q ⟨G, δ, st, m⟩ => by
  refine ⟨G, δ, st, ?_⟩
  unfold eIx at m
  cases e : fb δ with
  | exc c d δ' => rw [e] at m; exact m
  | bad => rw [e] at m; exact m
  | ok d δ1 =>
    rw [e, Res.bind_ok] at m
    intro v G1 H1 s1 st1 rv
    cases es : seqOf d with
    | none => rw [es] at m; exact m.elim
    | some ds =>
      rw [es] at m
      obtain ⟨l, q, vs, ev, sq, ty, rs⟩ := seqOf_sq st1.gh rv es
      subst ev
      have ty' : l = true ∨ TqT X.K H1 q vs := ty.imp id fun z => hK ▸ same_tqT st1.gh z
      refine ⟨l, q, vs, rfl, hK ▸ sq.mono st1.gh, ty', G1, δ1, st1, ?_⟩
      simp only at m
      cases e2 : fa δ1 with
      | exc c d δ' => rw [e2] at m; exact m
      | bad => rw [e2] at m; exact m
      | ok k δ2 =>
        rw [e2, Res.bind_ok] at m
        intro w G2 H2 s2 st2 rw2
        unfold ixOfD at m
        cases rw2 with
        | int kk =>
          simp only [es, Option.bind_some] at m
          cases ei : intsO ds with
          | none => rw [ei] at m; exact m.elim
          | some ns =>
            rw [ei, Option.bind_some] at m
            by_cases hk : kk ∈ ns
            case neg => rw [if_neg hk] at m; exact m.elim
            rw [if_pos hk] at m
            have evs := rs.ints ei
            subst evs
            exact ⟨ns, kk, rfl, hK ▸ (sq.mono (s2.g.trans st2.gh)), hk, m _ G2 H2 (s1.thn s2) st2 (.int _)⟩
        | _ => exact m.elim
end
end Mi

end
section
set_option Elab.async false
set_option linter.all false
set_option maxRecDepth 100000
set_option autoImplicit false
set_option maxHeartbeats 4000000
namespace Mi
open PySem PySem.Spec PyProof.Rows L2

section
variable {X : Cx} {C : Sc} {O O1 : List Nat} {a b c : Expr} {fa fb fc : Ex} {pos p p2 : Pos} {i : Nat} {x : Str}
/-! ### slices -/
def pO (C : Sc) (O : List Nat) (l : Option Ex) : TO := match l with
  | none => tNoPart
  | some f => tPart (tD C O f)
theorem po_n : PO X none (pO C O none) := po_none
theorem po_s (h : PE X a (tD C O fa)) : PO X (some a) (pO C O (some fa)) := po_some h
/-- a part, then what follows -/
theorem r_P {l : Option Ex} {P : Res D → Prop} {k : Option Int → Env → Res D} {G H : Hp} {σ : L2.St} {δ : Env} {R : Option Int → Hp → Prop} (st : Stt C.F O G H σ δ) (m : P ((eP l δ).bind k)) (hbad : ¬ P .bad) (hexc : ∀ c d δ', P (.exc c d δ') → ∀ G' H' cls dd, Stt C.F O G' H' σ δ' → XRp C G' c d cls dd → C.W cls dd σ H')
    (hR : ∀ lo G1 H1 δ1, Ext C.F.cm.T (ownS O σ) G H G1 H1 → Stt C.F O G1 H1 σ δ1 → P (k lo δ1) → R lo H1) : pO C O l σ H R := by
  unfold eP at m
  cases l with
  | none => exact hR none G H δ (.refl st.gh) st m
  | some f =>
    refine ⟨G, δ, st, ?_⟩
    cases e : f δ with
    | exc c d δ' => simp only [e] at m; exact hexc c d δ' m
    | bad => simp only [e] at m; exact (hbad m).elim
    | ok d δ1 =>
      simp only [e, Res.bind_ok] at m
      intro v G1 H1 s1 st1 rv
      cases d with
      | int j => cases rv; exact ⟨j, rfl, hR _ G1 H1 δ1 s1 st1 m⟩
      | _ => exact (hbad m).elim
/-- what a result that is a new list must give -/
def Pn (C : Sc) (O : List Nat) (G H : Hp) (σ : L2.St) (Q : VK) (r : Res D) : Prop := match r with
  | .ok d δ' => ∀ p G' H', Ext C.F.cm.T (ownS O σ) G H G' H' → Stt C.F O G' H' σ δ' → G' p = none → H p = none → OwnAt C.F.K C.F.cm G' H' p d → Q (.ref p) H'
  | .exc c d δ' => ∀ G' H' cls dd, Stt C.F O G' H' σ δ' → XRp C G' c d cls dd → C.W cls dd σ H'
  | .bad => False
section
variable {r : V → Option Int → Option Int → Hp → VK → Prop} {op : D → Option Int → Option Int → Option D} {l h : Option Ex}
theorem r_sl (s : S3 C.F.K C.F.cm r op) : ∀ (σ : L2.St) (H : Hp) (Q : VK), tD C O (e3 op fa l h) σ H Q → tSl r (tD C O fa) (pO C O l) (pO C O h) σ H Q := fun σ H Q ⟨G, δ, st, m⟩ => by
  refine ⟨G, δ, st, ?_⟩
  have m : Pt C O G H σ Q ((fa δ).bind fun x δ1 => (eP l δ1).bind fun y δ2 => (eP h δ2).bind fun z δ3 => Res.opt (op x y z) δ3) := m
  cases e : fa δ with
  | exc c d δ' => rw [e] at m; exact m
  | bad => rw [e] at m; exact m
  | ok d δ1 =>
    rw [e, Res.bind_ok] at m
    intro v G1 H1 s1 st1 rv
    refine r_P st1 m (fun z => z) (fun _ _ _ z => z) fun lo G2 H2 δ2 s2 st2 m2 => r_P st2 m2 (fun z => z) (fun _ _ _ z => z) fun hi G3 H3 δ3 s3 st3 m3 => ?_
    cases eo : op d lo hi with
    | none => rw [eo] at m3; exact m3.elim
    | some d' =>
      rw [eo] at m3
      exact s G3 H3 v d d' lo hi Q st3.gh (.inl (rv.mono (s2.g.trans s3.g))) eo fun v' G' H' ex rp => m3 v' G' H' (((s1.thn s2).thn s3).and ex) (st3.step ex) rp
theorem rn_sl (s : N3 C.F.K C.F.cm r op) : ∀ (σ : L2.St) (H : Hp) (Q : VK), tN C O (e3 op fa l h) σ H Q → tSl r (tD C O fa) (pO C O l) (pO C O h) σ H Q := fun σ H Q ⟨G, δ, st, m⟩ => by
  refine ⟨G, δ, st, ?_⟩
  have m : Pn C O G H σ Q ((fa δ).bind fun x δ1 => (eP l δ1).bind fun y δ2 => (eP h δ2).bind fun z δ3 => Res.opt (op x y z) δ3) := m
  cases e : fa δ with
  | exc c d δ' => rw [e] at m; exact m
  | bad => rw [e] at m; exact m
  | ok d δ1 =>
    rw [e, Res.bind_ok] at m
    intro v G1 H1 s1 st1 rv
    refine r_P st1 m (fun z => z) (fun _ _ _ z => z) fun lo G2 H2 δ2 s2 st2 m2 => r_P st2 m2 (fun z => z) (fun _ _ _ z => z) fun hi G3 H3 δ3 s3 st3 m3 => ?_
    cases eo : op d lo hi with
    | none => rw [eo] at m3; exact m3.elim
    | some d' =>
      rw [eo] at m3
      refine s G3 H3 v d d' lo hi Q st3.gh (.inl (rv.mono (s2.g.trans s3.g))) eo fun p u n o => ?_
      obtain ⟨f1, f2, f3, f4⟩ := fresh_facts (u := u) st3 n (o.nc upd_same).1
      have s13 := (s1.thn s2).thn s3
      exact m3 p G3 (upd H3 p u) (s13.and (Ext.fresh st3.gh n (o.nc upd_same).1)) f1 f2 (s13.back n) o
/-- the base is the def's own list -/
theorem own_sl {P : Res D → Prop} {G H : Hp} {σ : L2.St} {δ : Env} {Q : VK} (hi : i ∈ O) (st : Stt C.F O G H σ δ) (m : P ((eP l δ).bind fun y δ1 => (eP h δ1).bind fun z δ2 => (eV i δ2).bind fun x δ3 => Res.opt (op x y z) δ3)) (hbad : ¬ P .bad) (hexc : ∀ c d δ', P (.exc c d δ') → ∀ G' H' cls dd, Stt C.F O G' H' σ δ' → XRp C G' c d cls dd → C.W cls dd σ H')
    (hok : ∀ v d d' lo hi G2 H2 δ2, op d lo hi = some d' → Ext C.F.cm.T (ownS O σ) G H G2 H2 → Stt C.F O G2 H2 σ δ2 → Vw C.F.K C.F.cm G2 H2 v d → P (.ok d' δ2) → r v lo hi H2 Q) : tSl r (tVar i) (pO C O l) (pO C O h) σ H Q := by
  obtain ⟨a, d0, e1, _, _, _⟩ := st.ownL hi
  refine ⟨_, e1, ?_⟩
  refine r_P st m hbad hexc fun lo G2 H2 δ2 s2 st2 m2 => r_P st2 m2 hbad hexc fun hi' G3 H3 δ3 s3 st3 m3 => ?_
  obtain ⟨a', d, q1, ev, _, o⟩ := st3.ownL hi
  rw [e1] at q1
  cases q1
  rw [ev, Res.bind_ok] at m3
  cases eo : op d lo hi' with
  | none => rw [eo] at m3; exact (hbad m3).elim
  | some d' =>
    rw [eo] at m3
    exact hok _ d d' lo hi' G3 H3 δ3 eo (s2.thn s3) st3 (.inr ⟨_, rfl, o⟩) m3
theorem r_slO (hi : i ∈ O) (s : S3 C.F.K C.F.cm r op) : ∀ (σ : L2.St) (H : Hp) (Q : VK), tD C O (eO3 op i l h) σ H Q → tSl r (tVar i) (pO C O l) (pO C O h) σ H Q := fun σ H Q ⟨G, δ, st, m⟩ =>
  own_sl (P := Pt C O G H σ Q) hi st m (fun z => z) (fun _ _ _ z => z) fun v d d' lo hi' G2 H2 δ2 eo s2 st2 vw m2 => s G2 H2 v d d' lo hi' Q st2.gh vw eo fun v' G' H' ex rp => m2 v' G' H' (s2.and ex) (st2.step ex) rp
theorem rn_slO (hi : i ∈ O) (s : N3 C.F.K C.F.cm r op) : ∀ (σ : L2.St) (H : Hp) (Q : VK), tN C O (eO3 op i l h) σ H Q → tSl r (tVar i) (pO C O l) (pO C O h) σ H Q := fun σ H Q ⟨G, δ, st, m⟩ =>
  own_sl (P := Pn C O G H σ Q) hi st m (fun z => z) (fun _ _ _ z => z) fun v d d' lo hi' G2 H2 δ2 eo s2 st2 vw m2 => s G2 H2 v d d' lo hi' Q st2.gh vw eo fun p u n o => by
    obtain ⟨f1, f2, f3, f4⟩ := fresh_facts (u := u) st2 n (o.nc upd_same).1
    exact m2 p G2 (upd H2 p u) (s2.and (Ext.fresh st2.gh n (o.nc upd_same).1)) f1 f2 (s2.back n) o
end

/-! ### calls that are handed a new list -/
theorem Stt.stepX {F : Fm} {G H G' H' : Hp} {σ : L2.St} {δ : Env} {q : Addr} (s : Stt F O G H σ δ) (e : Ext F.cm.T [q] G H G' H') (nf : F.H q = none) (no : ∀ i ∈ O, σ[i]? ≠ some (some (V.ref q))) : Stt F O G' H' σ δ where
  ext := s.ext.trans e fun x z => .inl (by rw [show x = q by simpa using z]; exact nf)
  ln := s.ln
  le := s.le
  sh := fun i d hi h => by
    obtain ⟨v, e1, r⟩ := s.sh i d hi h
    exact ⟨v, e1, r.mono e.g⟩
  ow := fun i hi => by
    obtain ⟨a, d, e1, e2, n, o, z⟩ := s.ow i hi
    refine ⟨a, d, e1, e2, (e.new a o.at).trans n, o.mono e.g ?_, z⟩
    cases w : H a with
    | none => exact absurd w o.at
    | some u => exact e.keep a u w (fun k => no i hi (by rw [e1, show a = q by simpa using k])) (o.nc w).1
  dis := s.dis
  fix := s.fix
  tabs := s.tabs.go e.tab
  kp := s.kp
theorem ext_X {T : List (Addr × Str)} {S : List Addr} {G H G1 H1 G2 H2 : Hp} {q : Addr} (a : Ext T S G H G1 H1) (b : Ext T [q] G1 H1 G2 H2) (n : H q = none) : Ext T S G H G2 H2 := a.trans b fun x z => .inl (by rw [show x = q by simpa using z]; exact n)
theorem r_callN {es : List Expr} {fs : List Ex} {f : List D → Fr} {n : Nat} {σ : L2.St} {H : Hp} {Q : VK} (hn : fs.length + 1 = n) (h : tD C O (eCallN f fa fs) σ H Q) : tCons (tN C O fa) (tA C O (eL fs)) σ H fun vs H1 => spM C.F.K C.F.cm C.fld n [0] f vs H1 Q (WE C.W σ) := by
  obtain ⟨G, δ, st, m⟩ := h
  refine ⟨G, δ, st, ?_⟩
  unfold eCallN at m
  cases e0 : fa δ with
  | exc c d δ1 => rw [e0] at m; exact m
  | bad => rw [e0] at m; exact m
  | ok w δ0 =>
    rw [e0, Res.bind_ok] at m
    intro q G0 H0 s0 st0 nG nH o
    have nf : C.F.H q = none := by
      cases z : C.F.H q with
      | none => rfl
      | some u => exact absurd nH (st.ext.dom q (by rw [z]; simp))
    have no : ∀ i ∈ O, σ[i]? ≠ some (some (V.ref q)) := fun i hi e => by
      obtain ⟨a, d, e1, _, _, oo, _⟩ := st.ow i hi
      rw [e] at e1
      cases e1
      exact oo.at nH
    have nS : q ∉ ownS O σ := fun z => by
      obtain ⟨i, hi, e⟩ := mem_ownS.mp z
      exact no i hi e
    refine ⟨G0, δ0, st0, ?_⟩
    cases e : eL fs δ0 with
    | exc c d δ1 => rw [e] at m; exact m
    | bad => rw [e] at m; exact m
    | ok ds δ1 =>
      rw [e, Res.bind_ok] at m
      intro vs G1 H1 s1 st1 rv
      have o1 : OwnAt C.F.K C.F.cm G1 H1 q w := o.mono s1.g (by
        cases z : H0 q with
        | none => exact absurd z o.at
        | some u => exact s1.keep q u z nS (o.nc z).1)
      have n1 : G1 q = none := (s1.new q o.at).trans nG
      have hl : (V.ref q :: vs).length = n := by rw [List.length_cons, rv.length, eL_length e, hn]
      have sAll : Ext _ (ownS O σ) G H G1 H1 := s0.thn s1
      refine ⟨G1, w :: ds, [q], hl, rfl, callee1 (j := 0) st1.gh st1.tabs hl (by rw [List.length_cons, eL_length e, hn]) (fun i d hi h => ?_) rfl rfl n1 o1, ?_⟩
      · cases i with
        | zero => exact absurd rfl hi
        | succ i => exact rv.get (by simpa using h)
      · cases ef : f (w :: ds) with
        | ok d outs =>
          rw [ef] at m
          match outs, m with
          | [w'], m => exact fun v G2 H2 ex _ r => m v G2 H2 (ext_X sAll ex nH) (st1.stepX ex nf no) r
          | [], m => exact m.elim
          | _ :: _ :: _, m => exact m.elim
        | exc c d =>
          rw [ef] at m
          exact fun G2 H2 cls dd ex x => m G2 H2 cls dd (st1.stepX ex nf no) x
        | bad => rw [ef] at m; exact m.elim
theorem d_callN {es : List Expr} {fs : List Ex} {f : List D → Fr} {x : Str} {k n : Nat} {g : Addr} {fd : FuncData} {ps : List Str} (F : FnOk X.prog X.w X.K X.mg X.base (L2.CX X.prog X.w) k g fd ps (spM C.F.K C.F.cm C.fld n [0] f)) (hr : Room k X.A) (hg : Gl X x) (hm : X.mg x = some (.ref g)) (hk : PySem.W.keepIn X.K (.ref g) = true) (hb : Binds X.K fd ps [])
    (tk : Takes X C.W) (ha : PA X (a :: es) (tCons (tN C O fa) (tA C O (eL fs)))) (hn : fs.length + 1 = n) (hdb : (x == ("__debug__" : Str)) = false := by decide) (he : starEach (a :: es) X.env = (false, eval a X.env) :: starEach es X.env := by rfl) (hpl : (backTo pos (starEach es X.env)).any (·.1) = false := by rfl) :
    PE X (.Call (.Name x p) (a :: es) [] pos) (tD C O (eCallN f fa fs)) := pe_imp (pe_callS F hr hg hm hk hb (fun σ => passAt tk σ) ha hdb he hpl) fun σ H Q h => r_callN (es := es) hn h
end
end Mi

end
section
set_option Elab.async false
set_option linter.all false
set_option maxRecDepth 100000
set_option autoImplicit false
set_option maxHeartbeats 4000000
namespace Mi
open PySem PySem.Spec PyProof.Rows L2

theorem u64 {k : Nat} {A : Around} (r : Room k A) : A.units + 64 < cLine := r.units
theorem u65 {k : Nat} {A : Around} (r : Room k A) : A.units + 65 < cLine := by have := r.un; omega
section
variable {X : Cx} {C : Sc} {O O1 : List Nat} {a b c tg iter : Expr} {fa fb fc fe : Ex} {pos p p2 : Pos} {i : Nat} {x : Str}
theorem r_kn : ∀ (σ : L2.St) (H : Hp) (Q : VK), tD C O fa σ H Q → tN C O fa σ H Q := fun σ H Q ⟨G, δ, st, m⟩ => by
  refine ⟨G, δ, st, ?_⟩
  cases e : fa δ with
  | exc c d δ' => rw [e] at m; exact m
  | bad => rw [e] at m; exact m
  | ok d δ' =>
    rw [e] at m
    intro q G1 H1 s1 st1 n hn o
    obtain ⟨u, hu, rp⟩ := rp_known o n
    have nf : C.F.H q = none := by
      cases z : C.F.H q with
      | none => rfl
      | some w => exact absurd hn (st.ext.dom q (by rw [z]; simp))
    have no : ∀ i ∈ O, σ[i]? ≠ some (some (V.ref q)) := fun i hi e => by
      obtain ⟨a, d, e1, _, _, oo, _⟩ := st.ow i hi
      rw [e] at e1
      cases e1
      exact oo.at hn
    exact m _ _ H1 (s1.know n hn hu (o.nc hu).1) (st1.know n nf no hu (o.nc hu).1) rp
/-- a list comprehension -/
theorem n_lc0 {bq : Bool} {it : ItE} {t : Tg} {g : TG} {vs : List Nat} {elt : Expr} {scope : Scope} (own : List (Str × Nat)) (hc : X.calm = true) (hN : X.N.Nodup) (hi : PI X tg iter (tI bq C O it)) (ok : BlkOk X.N X.env.scope scope own) (hvs : own.map (·.2) = vs)
    (hg : ∀ (s : Shared) (H : Hp) (Ca : Addr) (cl : List (Str × Addr)) (fp : List Addr), PG (X.blk s H scope (compEnvC scope cl Ca X.env) fp) tg g) (ht : GT bq C O t g) (hd : ∀ v ∈ vs, v ∉ O) (hw : GW vs g)
    (he : ∀ (s : Shared) (H : Hp) (Ca : Addr) (cl : List (Str × Addr)) (fp : List Addr), PE (X.blk s H scope (compEnvC scope cl Ca X.env) fp) elt (tD C.blk O fe)) (hs : ∀ x, foldedSetIterable iter X.env x = pure x := by intro _; rfl) (kd : ∀ v ∈ vs, v ∉ C.F.ks := by exact fun _ _ => List.not_mem_nil) :
    PE X (.ListComp elt [⟨tg, iter, [], 0⟩] scope pos) (tN C O (eLc it t vs none fe)) := by
  subst hvs
  exact pe_imp (pe_lc hc hN hi ok hg (fun _ _ _ _ _ => pts_nil) he hs) (n_lc_r (fun _ _ _ h => h) ht hd kd hw (fun σ H Q G δ st h => by
    obtain ⟨b, e, q⟩ := h
    cases e
    exact q G H (.refl st.gh) st) (fun _ _ _ h => h))
theorem n_lc1 {bq : Bool} {it : ItE} {t : Tg} {g : TG} {vs : List Nat} {elt : Expr} {scope : Scope} (own : List (Str × Nat)) (hc : X.calm = true) (hN : X.N.Nodup) (hi : PI X tg iter (tI bq C O it)) (ok : BlkOk X.N X.env.scope scope own) (hvs : own.map (·.2) = vs)
    (hg : ∀ (s : Shared) (H : Hp) (Ca : Addr) (cl : List (Str × Addr)) (fp : List Addr), PG (X.blk s H scope (compEnvC scope cl Ca X.env) fp) tg g) (ht : GT bq C O t g) (hd : ∀ v ∈ vs, v ∉ O) (hw : GW vs g)
    (hp : ∀ (s : Shared) (H : Hp) (Ca : Addr) (cl : List (Str × Addr)) (fp : List Addr), PT (X.blk s H scope (compEnvC scope cl Ca X.env) fp) c (tDT C.blk O fc))
    (he : ∀ (s : Shared) (H : Hp) (Ca : Addr) (cl : List (Str × Addr)) (fp : List Addr), PE (X.blk s H scope (compEnvC scope cl Ca X.env) fp) elt (tD C.blk O fe)) (hs : ∀ x, foldedSetIterable iter X.env x = pure x := by intro _; rfl) (kd : ∀ v ∈ vs, v ∉ C.F.ks := by exact fun _ _ => List.not_mem_nil) :
    PE X (.ListComp elt [⟨tg, iter, [c], 0⟩] scope pos) (tN C O (eLc it t vs (some fc) fe)) := by
  subst hvs
  exact pe_imp (pe_lc hc hN hi ok hg (fun s H Ca cl fp => pts_one (hp s H Ca cl fp)) he hs) (n_lc_r (c := some fc) (fun _ _ _ h => h) ht hd kd hw (fun σ H Q G δ st h => (show tDT C.blk O fc σ H Q from ⟨G, δ, st, h⟩)) (fun _ _ _ h => h))
/-- name = [..] on one line -/
theorem l_lc0 {bq : Bool} {it : ItE} {t : Tg} {g : TG} {vs : List Nat} {elt : Expr} {scope : Scope} {y : Str} {py spos : Pos} (own : List (Str × Nat)) (hc : X.calm = true) (hN : X.N.Nodup) (hi : PI X tg iter (tI bq C O it)) (ok : BlkOk X.N X.env.scope scope own) (hvs : own.map (·.2) = vs)
    (hg : ∀ (s : Shared) (H : Hp) (Ca : Addr) (cl : List (Str × Addr)) (fp : List Addr), PG (X.blk s H scope (compEnvC scope cl Ca X.env) fp) tg g) (ht : GT bq C O t g) (hd : ∀ v ∈ vs, v ∉ O) (hw : GW vs g)
    (he : ∀ (s : Shared) (H : Hp) (Ca : Addr) (cl : List (Str × Addr)) (fp : List Addr), PE (X.blk s H scope (compEnvC scope cl Ca X.env) fp) elt (tD C.blk O fe))
    (hy : X.N[i]? = some y) (hyl : X.env.scope.names.lookup y = some .local) (hsw : swapsWith (.ListComp elt [⟨tg, iter, [], 0⟩] scope pos) (some (.Name y py)) spos.line X.env = pure true) (hs : ∀ x, foldedSetIterable iter X.env x = pure x := by intro _; rfl) (kd : ∀ v ∈ vs, v ∉ C.F.ks := by exact fun _ _ => List.not_mem_nil) :
    PS X (.Assign [.Name y py] (.ListComp elt [⟨tg, iter, [], 0⟩] scope pos) spos) (tAsg (tN C O (eLc it t vs none fe)) (gName i)) := by
  subst hvs
  exact ps_imp (ps_setLc hc hN hy hyl hsw hi ok hg (fun _ _ _ _ _ => pts_nil) he hs) fun D σ H h => n_lc_r (fun _ _ _ h => h) ht hd kd hw (fun σ H Q G δ st h => by
    obtain ⟨b, e, q⟩ := h
    cases e
    exact q G H (.refl st.gh) st) (fun _ _ _ h => h) _ _ _ h
theorem l_lc1 {bq : Bool} {it : ItE} {t : Tg} {g : TG} {vs : List Nat} {elt : Expr} {scope : Scope} {y : Str} {py spos : Pos} (own : List (Str × Nat)) (hc : X.calm = true) (hN : X.N.Nodup) (hi : PI X tg iter (tI bq C O it)) (ok : BlkOk X.N X.env.scope scope own) (hvs : own.map (·.2) = vs)
    (hg : ∀ (s : Shared) (H : Hp) (Ca : Addr) (cl : List (Str × Addr)) (fp : List Addr), PG (X.blk s H scope (compEnvC scope cl Ca X.env) fp) tg g) (ht : GT bq C O t g) (hd : ∀ v ∈ vs, v ∉ O) (hw : GW vs g)
    (hp : ∀ (s : Shared) (H : Hp) (Ca : Addr) (cl : List (Str × Addr)) (fp : List Addr), PT (X.blk s H scope (compEnvC scope cl Ca X.env) fp) c (tDT C.blk O fc))
    (he : ∀ (s : Shared) (H : Hp) (Ca : Addr) (cl : List (Str × Addr)) (fp : List Addr), PE (X.blk s H scope (compEnvC scope cl Ca X.env) fp) elt (tD C.blk O fe))
    (hy : X.N[i]? = some y) (hyl : X.env.scope.names.lookup y = some .local) (hsw : swapsWith (.ListComp elt [⟨tg, iter, [c], 0⟩] scope pos) (some (.Name y py)) spos.line X.env = pure true) (hs : ∀ x, foldedSetIterable iter X.env x = pure x := by intro _; rfl) (kd : ∀ v ∈ vs, v ∉ C.F.ks := by exact fun _ _ => List.not_mem_nil) :
    PS X (.Assign [.Name y py] (.ListComp elt [⟨tg, iter, [c], 0⟩] scope pos) spos) (tAsg (tN C O (eLc it t vs (some fc) fe)) (gName i)) := by
  subst hvs
  exact ps_imp (ps_setLc hc hN hy hyl hsw hi ok hg (fun s H Ca cl fp => pts_one (hp s H Ca cl fp)) he hs) fun D σ H h => n_lc_r (c := some fc) (fun _ _ _ h => h) ht hd kd hw (fun σ H Q G δ st h => (show tDT C.blk O fc σ H Q from ⟨G, δ, st, h⟩)) (fun _ _ _ h => h) _ _ _ h
theorem asg_kn {s : Stmt} {g : TG} (h : PS X s (tAsg (tN C O fa) g)) : PS X s (tAsg (tD C O fa) g) := ps_imp h fun D σ H h => r_kn _ _ _ h
/-- x op= e -/
theorem s_aug {op : Operator} {r : R2} {f : D → D → Option D} {px : Pos} (hi : i ∉ O) (s : S2 C.F.K C.F.cm r f) (h : PS X (.AugAssign (.Name x px) op a pos) (tAug i (tW C O fa) r)) (hx : C.XO O := by trivial) (kk : i ∉ C.F.ks := by exact List.not_mem_nil) :
    PS X (.AugAssign (.Name x px) op a pos) (tS C O O (sAsg (.n i) (e2 f (eV i) fa))) := ps_imp h fun D σ H ⟨G, δ, st, m⟩ => by
  unfold sAsg e2 at m
  rcases eV_cases i δ with ⟨d, e, q⟩ | q
  · obtain ⟨v, e1, rv⟩ := st.sh i d hi e
    rw [q, Res.bind_ok] at m
    refine ⟨v, e1, G, δ, st, ?_⟩
    cases eb : fa δ with
    | exc c d δ1 => rw [eb] at m; exact fun G' H' cls dd st' x => m O σ G' H' cls dd hx st' x
    | bad => rw [eb] at m; exact m
    | ok d2 δ2 =>
      rw [eb, Res.bind_ok] at m
      intro w G1 H1 s1 st1 vw
      cases eo : f d d2 with
      | none => rw [eo] at m; exact m.elim
      | some d' =>
        rw [eo] at m
        exact s G1 H1 v w d d2 d' _ st1.gh (.inl (rv.mono s1.g)) vw eo fun v' G' H' ex rp => m _ G' H' (s1.g.trans ex.g) (put_keeps (st1.step ex) rp hi kk)
  · rw [q] at m
    exact m.elim
/-- fields -/
theorem Rfs.at {K : PySem.W.Frag} {cm : CM} {G : Hp} {f : Str} {d : D} : ∀ {fs : List (Str × V)} {ds : List (Str × D)}, Rfs K cm G fs ds → ds.lookup f = some d → ∃ v, fs.lookup f = some v ∧ Rp K cm G v d
  | _, _, .nil, h => by cases h
  | _, _, .cons (f := f') r t, h => by
    rw [List.lookup_cons] at h ⊢
    by_cases e : (f == f') = true
    · rw [e] at h ⊢
      cases h
      exact ⟨_, rfl, r⟩
    · simp only [Bool.not_eq_true] at e
      rw [e] at h ⊢
      exact Rfs.at t h
theorem a_fldD {K : PySem.W.Frag} {cm : CM} {c f : Str} (hc : Cls K (cm c)) (hn : NoAttr K (cm c) f) : S1 K cm (fun x H1 Q => ∃ a C dx fs v, x = .ref a ∧ H1 a = some (.ins C dx fs) ∧ Cls K C ∧ NoAttr K C f ∧ fs.lookup f = some v ∧ Q v H1) (fldD c f) := fun G H v d d' Q gh v1 ho (a : Ans K cm G H d' Q) => by
  unfold fldD at ho
  split at ho
  · split at ho
    · rename_i c' fs e
      subst e
      rcases v1 with r | ⟨_, rfl, dx, fs, h1, h2, rf⟩
      · cases r with
        | obj h1 h2 rf =>
          obtain ⟨w, hw, rw'⟩ := rf.at ho
          exact ⟨_, _, _, _, w, rfl, gh _ _ h1, hc, hn, hw, a.now gh rw'⟩
      · obtain ⟨w, hw, rw'⟩ := rf.at ho
        exact ⟨_, _, _, _, w, rfl, h1, hc, hn, hw, a.now gh rw'⟩
    · cases ho
  · cases ho
end
/-! ### a def that may be called -/
structure Cal (P : Program) (w : World) (K : PySem.W.Frag) (mg : Str → Option Value) (base : Heap) (cm : CM) (fld : Str → Str) (x : Str) (k n : Nat) (own : List Nat) (f : List D → Fr) : Prop where
  ex : ∃ g fd ps, FnOk P w K mg base (L2.CX P w) k g fd ps (spM K cm fld n own f) ∧ mg x = some (.ref g) ∧ PySem.W.keepIn K (.ref g) = true ∧ Binds K fd ps []
section
variable {X : Cx} {C : Sc} {O O1 : List Nat} {a b c tg iter : Expr} {fa fb fc fe : Ex} {pos p p2 : Pos} {i : Nat} {x : Str} {es : List Expr} {fs : List Ex} {f : List D → Fr} {k j n : Nat} {fld : Str → Str}
theorem d_cal (c : Cal X.prog X.w X.K X.mg X.base C.F.cm C.fld x k n [] f) (hK : C.F.K = X.K) (hr : Room j X.A) (hk : k ≤ j) (tk : Takes X C.W) (ha : PA X (a :: es) (tA C O (eL fs))) (hn : fs.length = n) (hg : Gl X x := by rfl) (hdb : (x == ("__debug__" : Str)) = false := by decide)
    (he : starEach (a :: es) X.env = (false, eval a X.env) :: starEach es X.env := by rfl) (hpl : (backTo pos (starEach es X.env)).any (·.1) = false := by rfl) : PE X (.Call (.Name x p) (a :: es) [] pos) (tD C O (eCall f fs)) := by
  obtain ⟨g, fd, ps, F, hm, kp, hb⟩ := c.ex
  rw [← hK] at F
  exact d_call (hK ▸ F) (hr.mono hk) hg hm kp hb tk ha hn hdb he hpl
theorem d_calO (c : Cal X.prog X.w X.K X.mg X.base C.F.cm C.fld x k n [0] f) (hK : C.F.K = X.K) (hr : Room j X.A) (hk : k ≤ j) (tk : Takes X C.W) (hi : i ∈ O) (ha : PA X (a :: es) (tCons (tVar i) (tA C O (eL fs)))) (hn : fs.length + 1 = n) (hg : Gl X x := by rfl) (hdb : (x == ("__debug__" : Str)) = false := by decide)
    (he : starEach (a :: es) X.env = (false, eval a X.env) :: starEach es X.env := by rfl) (hpl : (backTo pos (starEach es X.env)).any (·.1) = false := by rfl) : PE X (.Call (.Name x p) (a :: es) [] pos) (tD C O (eCallO f i fs)) := by
  obtain ⟨g, fd, ps, F, hm, kp, hb⟩ := c.ex
  rw [← hK] at F
  exact d_callO (hK ▸ F) (hr.mono hk) hg hm kp hb tk hi ha hn hdb he hpl
theorem d_calP (c : Cal X.prog X.w X.K X.mg X.base C.F.cm C.fld x k n [1] f) (hK : C.F.K = X.K) (hr : Room j X.A) (hk : k ≤ j) (tk : Takes X C.W) (hi : i ∈ O) (ha : PA X (a :: es) (tCons (tD C O fa) (tCons (tVar i) (tA C O (eL fs))))) (hn : fs.length + 2 = n) (hg : Gl X x := by rfl) (hdb : (x == ("__debug__" : Str)) = false := by decide)
    (he : starEach (a :: es) X.env = (false, eval a X.env) :: starEach es X.env := by rfl) (hpl : (backTo pos (starEach es X.env)).any (·.1) = false := by rfl) : PE X (.Call (.Name x p) (a :: es) [] pos) (tD C O (eCallP f fa i fs)) := by
  obtain ⟨g, fd, ps, F, hm, kp, hb⟩ := c.ex
  rw [← hK] at F
  exact d_callP (hK ▸ F) (hr.mono hk) hg hm kp hb tk hi ha hn hdb he hpl
theorem d_calN (c : Cal X.prog X.w X.K X.mg X.base C.F.cm C.fld x k n [0] f) (hK : C.F.K = X.K) (hr : Room j X.A) (hk : k ≤ j) (tk : Takes X C.W) (ha : PA X (a :: es) (tCons (tN C O fa) (tA C O (eL fs)))) (hn : fs.length + 1 = n) (hg : Gl X x := by rfl) (hdb : (x == ("__debug__" : Str)) = false := by decide)
    (he : starEach (a :: es) X.env = (false, eval a X.env) :: starEach es X.env := by rfl) (hpl : (backTo pos (starEach es X.env)).any (·.1) = false := by rfl) : PE X (.Call (.Name x p) (a :: es) [] pos) (tD C O (eCallN f fa fs)) := by
  obtain ⟨g, fd, ps, F, hm, kp, hb⟩ := c.ex
  rw [← hK] at F
  exact d_callN (hK ▸ F) (hr.mono hk) hg hm kp hb tk ha hn hdb he hpl
end
theorem cal_mk {P : Program} {w : World} {K : PySem.W.Frag} {mg : Str → Option Value} {base : Heap} {cm : CM} {fld : Str → Str} {x qual : Str} {st : Stmt} {g : Addr} {fd : FuncData} {N ps : List Str} {k n p : Nat} {own : List Nat} {m : Sm} (F : Fun K x qual st g fd) (hm : mg x = some (.ref g)) (hb : Binds K fd ps [])
    (S : FnScope N ps (defScope st)) (hn : N.length = n) (hp : ps.length = p) (hpn : p ≤ n) (O' : List Nat)
    (hbody : ∀ (cdv : Value) (cd : fd.code = cdv) (A : Around) (outer : List PySem.Env) (s : Shared) (H G : Hp) (E : XK) (as : List Addr), Room k (A.deeper (envOfC qual (defScope st) s.heap.objs.size g cdv)) →
      PSs (cxOf (L2.CX P w) P w K mg base N qual (defScope st) g cdv A outer s H E) (defBody st) (tS ⟨⟨K, cm, G, H, n, own, as, [], []⟩, fun cls d _ H => E cls d H, fld, fun _ => True, [], false⟩ own O' m)) :
    Cal P w K mg base cm fld x (k + 1) p own (fnM n p own m) := ⟨g, fd, ps, fn_mir F S hn hp hpn O' hbody, hm, F.kp, hb⟩
end Mi

end
section
set_option Elab.async false
set_option linter.all false
set_option maxRecDepth 100000
set_option autoImplicit false
set_option maxHeartbeats 4000000
namespace Mi
open PySem PySem.Spec PyProof.Rows L2

section
variable {X : Cx} {C : Sc} {O O1 : List Nat} {a b c e : Expr} {fa fb fc : Ex} {pos p p2 : Pos} {x : Str} {r : List V → Hp → VK → Prop}
theorem d_glob {i : Int} (hm : ∃ t, X.mg x = some (.int i t)) (hg : Gl X x := by rfl) (hd : (x == ("__debug__" : Str)) = false := by decide) : PE X (.Name x p) (tD C O (eC (.int i))) := by
  obtain ⟨t, hm⟩ := hm
  exact d_c (pe_glob (v := .int i) hg hm ⟨t, rfl⟩ hd) fun _ => .int i
theorem b_1 {op : D → Option D} (s : S1 C.F.K C.F.cm (fun v H Q => r [v] H Q) op) (h : PE X e (tCB r (tCons (tW C O fa) tNil))) : PE X e (tD C O (e1 op fa)) := d_1 s h
theorem bn_1 {op : D → Option D} (s : N1 C.F.K C.F.cm (fun v H Q => r [v] H Q) op) (h : PE X e (tCB r (tCons (tW C O fa) tNil))) : PE X e (tN C O (e1 op fa)) := n_1 s h
theorem b_2 {op : D → D → Option D} (s : S2 C.F.K C.F.cm (fun v w H Q => r [v, w] H Q) op) (h : PE X e (tCB r (tCons (tD C O fa) (tCons (tW C O fb) tNil)))) : PE X e (tD C O (e2 op fa fb)) := d_2 s h
theorem b_isi {T : String} (hT : T ∈ ["bool", "int", "str", "list", "tuple", "dict"]) (h : PE X e (tCB (rIsi C.F.K) (tCons (tW C O fa) (tCons (tC (.ty T)) tNil)))) : PE X e (tD C O (e1 (isD T) fa)) := d_1 (a_isD hT) h
theorem rps_map {K : PySem.W.Frag} {cm : CM} {G : Hp} : ∀ l : List Nat, Rps K cm G (l.map fun i => V.int (0 + (i : Nat))) (l.map fun (k : Nat) => D.int (0 + (k : Int)))
  | [] => .nil
  | i :: l => .cons (.int _) (rps_map l)
theorem a_addI {K : PySem.W.Frag} {cm : CM} : S2 K cm (rI0 fun i j => .int (i + j)) addI := fun G H v w d e d' Q gh v1 v2 ho (a : Ans K cm G H d' Q) => by
  unfold addI at ho
  split at ho
  · cases ho
    exact ⟨_, _, v1.int, v2.int, a.now gh (.int _)⟩
  · cases ho
/-- list(range(n)) -/
theorem n_lrg (hc : X.calm = true) (hg : Gl X "list") (hm : X.mg "list" = none) (hg2 : Gl X "range") (hm2 : X.mg "range" = none) (ha : PE X a (tD C O fa)) (na : starEach [.Call (.Name "range" p2) [a] [] pos] X.env = (false, eval (.Call (.Name "range" p2) [a] [] pos) X.env) :: starEach [] X.env := by rfl) (na2 : starEach [a] X.env = (false, eval a X.env) :: starEach [] X.env := by rfl) {pos2 : Pos} :
    PE X (.Call (.Name "list" p) [.Call (.Name "range" p2) [a] [] pos] [] pos2) (tN C O (eLrg fa)) := pe_imp (pe_listRg hc hg hm (prg_1 hg2 hm2 ha na2) na) fun σ H Q ⟨G, δ, st, m⟩ => by
  refine ⟨G, δ, st, ?_⟩
  unfold eLrg at m
  cases e : fa δ with
  | exc c d δ' => rw [e] at m; exact m
  | bad => rw [e] at m; exact m
  | ok d δ1 =>
    rw [e, Res.bind_ok] at m
    intro v G1 H1 s1 st1 rv
    cases d with
    | int i =>
      cases rv
      simp only at m
      by_cases hi : -(cap : Int) ≤ i ∧ i ≤ cap
      case neg => rw [if_neg hi] at m; exact m.elim
      rw [if_pos hi] at m
      have hc0 : (cap : Int) = 16000000 := by rw [cap_eq]; rfl
      refine ⟨i, rfl, ⟨by omega, by omega, by omega, by omega, by omega⟩, fun q n => ?_⟩
      obtain ⟨f1, f2, f3, f4⟩ := fresh_facts (u := .lst (rgV 0 i)) st1 n
      refine m q G1 _ (s1.and (Ext.fresh st1.gh n)) f1 f2 (s1.back n) ⟨_, upd_same, ?_⟩
      unfold rgV rng
      rw [Int.sub_zero]
      exact rps_map _
    | _ => exact m.elim
end
end Mi

end
section
set_option Elab.async false
set_option linter.all false
set_option maxRecDepth 100000
set_option autoImplicit false
set_option maxHeartbeats 4000000
/-! set(xs) of a list of ints; sorted(set(xs)) -/
namespace Mi
open PySem PySem.Spec PyProof.Rows L2
/-- a set's object, just made -/
abbrev so (w : World) : Obj := { cls := .type "set", dict := none, data := .set #[] 0 (.fresh 0 0 (!w.params.followText "set-order")) }
abbrev so1 (w : World) (h : Heap) : Heap := h.push (so w)
section
variable {P : Program} {w : World} {A : Around} {E : Value → Shared → Prop} {s : Shared}
theorem set_init_list {l : Addr} {items : Array Value} (ns : List Int) {B : Around} {R : Value → Shared → Prop} (hh : B.handled = none) (hl : s.heap.IsList l items) (hit : IntsAre items.toList ns) (hb : ns.length + 1 < scanBound)
    (h : ∀ (h' : Heap) (tk c : Nat), SetR w h' s.heap.objs.size (fun j => decide (j ∈ ns)) c → c ≤ ns.length → (∀ b o, s.heap.get? b = some o → h'.get? b = some o) → R .none { s with heap := h', toks := tk }) :
    wpAny (model P w) B (Builtin.«set.__init__» ⟨[.ref s.heap.objs.size, .ref l], []⟩) (fun fin s' => ∃ r, fin = .done (.ret r) ∧ R r s') E { s with heap := so1 w s.heap } := by
  have hn : items.size = ns.length := by
    have q := hit.length
    rwa [Array.length_toList] at q
  obtain ⟨⟨c0, d0, t0, sl0⟩, e0, k1, nl, k2⟩ := hl
  simp only at k1 k2
  subst k1 k2
  have e1 : (so1 w s.heap).get? l = some ⟨.type "list", d0, .seq items nl, sl0⟩ := Heap.get?_push_of_some _ e0
  have f1 := F.sub_list_set
  have f2 := F.sub_list_frozenset
  have f3 : (Value.type "list" == Value.type "dict") = false := by decide
  have L1 : (so1 w s.heap).IsList l items := ⟨_, e1, rfl, nl, rfl⟩
  unfold Builtin.«set.__init__» noKeywords Builtin.Frozenset.updateFrom
  generalize hI : pyIter = PI
  wp_walk
  subst hI
  refine wpAny_pyIter_list L1 (wpAny_bind (wpAny_runValue ?_))
  have lt : l < s.heap.objs.size := Heap.lt_size e0
  have z1 : (so1 w s.heap).objs.size = s.heap.objs.size + 1 := Heap.size_push ..
  have ne : l ≠ (so1 w s.heap).objs.size := by rw [z1]; exact Nat.ne_of_lt (Nat.lt_succ_of_lt lt)
  have hS : (so1 w s.heap).get? s.heap.objs.size = some (so w) := Heap.get?_push_size _ rfl
  have nS : s.heap.objs.size ∉ [(so1 w s.heap).objs.size, l] := by
    rw [z1]
    simp only [List.mem_cons, List.not_mem_nil, or_false, not_or]
    exact ⟨Nat.ne_of_lt (Nat.lt_succ_self _), Nat.ne_of_gt lt⟩
  have hv : ∀ (i : Nat) (v : Value), items[i]? = some v → ∃ k t, ns[i]? = some k ∧ v = .int k t := fun i v e => by
    have hi : i < ns.length := hn ▸ (Array.getElem?_eq_some_iff.mp e).1
    obtain ⟨t, q⟩ := PyProof.Rows.IntsAre.int_at hit i v (by rw [Array.getElem?_toList]; exact e)
    exact ⟨ns[i], t, List.getElem?_eq_getElem hi, by rw [q, List.getD_eq_getElem?_getD, List.getElem?_eq_getElem hi]; rfl⟩
  have hh3 : B.in1.handled = none := by simp [hh]
  refine set_update_ints ((Walks.list hh3 _ l ne items).toS) s.heap.objs.size nS ns hn hb hv (items.size - 0) 0 _ (by omega) (Nat.zero_le _) ⟨⟨_, Heap.get?_push_size _ rfl, rfl, rfl⟩, L1.push _⟩
    ⟨0, Nat.le_refl 0, setR_new_at (Heap.get?_push_of_some _ hS)⟩ fun s' c hm hc hR => ?_
  obtain ⟨h', g2, d', tk, os'⟩ := s'
  obtain rfl : g2 = s.gens := hm.gens
  obtain rfl : d' = s.drawn := hm.drawn
  obtain rfl : os' = s.os := hm.os
  rw [hn] at hc
  refine wpAny_pure (wpAny_pure ⟨_, rfl, h h' tk c hR hc fun b o e => ?_⟩)
  have b0 : b < s.heap.objs.size := Heap.lt_size e
  refine hm.heap b o ?_ (Heap.get?_push_of_some _ (Heap.get?_push_of_some _ e))
  simp only [List.mem_cons, List.not_mem_nil, or_false, not_or]
  exact ⟨Nat.ne_of_lt b0, by rw [z1]; exact Nat.ne_of_lt (Nat.lt_succ_of_lt b0)⟩
theorem call_setL {l : Addr} {items : Array Value} (ns : List Int) {Q : Value → Shared → Prop} (hh : A.handled = none) (hl : s.heap.IsList l items) (hit : IntsAre items.toList ns) (hb : ns.length + 1 < scanBound)
    (h : ∀ (h' : Heap) (tk c : Nat), SetR w h' s.heap.objs.size (fun j => decide (j ∈ ns)) c → c ≤ ns.length → (∀ b o, s.heap.get? b = some o → h'.get? b = some o) → Q (.ref s.heap.objs.size) { s with heap := h', toks := tk }) :
    wpAny (model P w) A (call (.type "set") [.ref l]) Q E s := by
  obtain ⟨c, tl, hmro⟩ := F.called_set.mro
  have hmade := F.called_set.made
  have hsub := F.called_set.sub
  refine wpAny_call (codeAny_of_tree (wpAny_pure ⟨Code.quiet_builtin _ (by decide +kernel), codeAny_builtin F.entry_type_call ?_⟩))
  rw [Around.under_plain (weight_type_call_type "set" [.ref l] []) rfl]
  have h1 := F.called_set.notType
  have h2 := F.called_set.canCreate
  have h3 := F.typeCall_set_1 (.ref l)
  repeat (any_goals (first | assumption | wp_step))
  refine codeAny_mono (code_set_led1 (.ref l) (E := E) (Q₁ := fun o s₁ => o = .ref s.heap.objs.size ∧ s₁ = { s with heap := so1 w s.heap }) ⟨rfl, rfl⟩) fun r s₁ hr => ?_
  rcases r with e | fl
  · exact hr
  cases fl with
  | ret obj =>
    obtain ⟨rfl, rfl⟩ := hr
    have hS : (so1 w s.heap).get? s.heap.objs.size = some (so w) := Heap.get?_push_size _ rfl
    have hT : Shared.TypeIs { s with heap := so1 w s.heap } (.ref s.heap.objs.size) "set" := ⟨_, hS, rfl⟩
    have h4 := F.called_set.init.lookup
    have h5 := F.called_set.init.bind (.ref s.heap.objs.size)
    repeat (any_goals (first | assumption | wp_step))
    refine codeAny_mono (codeAny_call_builtin (R := wants (fun r s₂ => r = .none ∧ ∃ h' tk c, s₂ = { s with heap := h', toks := tk } ∧ SetR w h' s.heap.objs.size (fun j => decide (j ∈ ns)) c ∧ c ≤ ns.length ∧ ∀ b o, s.heap.get? b = some o → h'.get? b = some o) E)
      F.called_set.init.plain F.entry_set_init (check_set_init_1 hT ?_)) fun r s₂ h₂ => ?_
    · exact wpAny_mono (set_init_list (B := A.in1.in1) (E := fun e s' => wants (fun r s₂ => r = .none ∧ ∃ h' tk c, s₂ = { s with heap := h', toks := tk } ∧ SetR w h' s.heap.objs.size (fun j => decide (j ∈ ns)) c ∧ c ≤ ns.length ∧ ∀ b o, s.heap.get? b = some o → h'.get? b = some o) E (.error e) s')
        (R := fun r s₂ => r = .none ∧ ∃ h' tk c, s₂ = { s with heap := h', toks := tk } ∧ SetR w h' s.heap.objs.size (fun j => decide (j ∈ ns)) c ∧ c ≤ ns.length ∧ ∀ b o, s.heap.get? b = some o → h'.get? b = some o) ns (by simp [hh]) hl hit hb
        fun h' tk c q1 q2 q3 => ⟨rfl, h', tk, c, rfl, q1, q2, q3⟩) (fun fin s' ⟨r, e, q⟩ => by subst e; exact q) fun _ _ z => z
    · rcases r with e | fl
      · exact h₂
      cases fl with
      | ret r =>
        obtain ⟨rfl, h', tk, c, rfl, q1, q2, q3⟩ := h₂
        repeat (any_goals (first | assumption | wp_step))
        exact h _ _ _ q1 q2 q3
      | _ => exact h₂.elim
  | _ => exact hr.elim
end
theorem mem_udup {k : Int} : ∀ l : List Int, k ∈ udup l ↔ k ∈ l
  | [] => Iff.rfl
  | a :: r => by
    unfold udup
    split
    · rename_i h
      rw [mem_udup r] at h ⊢
      constructor
      · exact fun z => List.mem_cons_of_mem _ z
      · intro z
        rcases List.mem_cons.mp z with e | e
        · rw [e]; exact h
        · exact e
    · rw [List.mem_cons, List.mem_cons, mem_udup r]
theorem nodup_udup : ∀ l : List Int, (udup l).Nodup
  | [] => List.nodup_nil
  | a :: r => by
    unfold udup
    split
    · exact nodup_udup r
    · exact List.nodup_cons.mpr ⟨by assumption, nodup_udup r⟩
theorem udup_le : ∀ l : List Int, (udup l).length ≤ l.length
  | [] => Nat.le_refl _
  | a :: r => by
    unfold udup
    have := udup_le r
    split <;> simp <;> omega
theorem setR_size {w : World} {h : Heap} {a : Addr} {ns : List Int} {c : Nat} (R : SetR w h a (fun j => decide (j ∈ ns)) c) : c = (udup ns).length := by
  obtain ⟨o, es, ep, t, _, _, _, _, nd, hm, _, _, hn, _, _⟩ := R
  have p : (es.toList.map keyOf).Perm (udup ns) := (List.perm_ext_iff_of_nodup nd (nodup_udup ns)).mpr fun k => by rw [← hm k, mem_udup, decide_eq_true_eq]
  have := p.length_eq
  rw [List.length_map, Array.length_toList] at this
  omega
def rSset (K : PySem.W.Frag) : V → Hp → VK → Prop := fun v H Q => ∃ (a : Addr) (ns : List Int), v = .ref a ∧ SqL K H a (ns.map V.int) ∧ (ns.length < 4000 ∧ (udup ns).length < 64) ∧ ∀ (ns' : List Int) (p : Addr), ns'.Pairwise (· < ·) → (∀ k, k ∈ ns' ↔ k ∈ ns) → H p = none → Q (.ref p) (upd H p (.lst (ns'.map V.int)))
theorem pe_sset {X : Cx} {a : Expr} {te : TE} {p p2 q pos : Pos} (hc : X.calm = true) (hg : Gl X "sorted") (hm : X.mg "sorted" = none) (hg2 : Gl X "set") (hm2 : X.mg "set" = none) (ha : PE X a te) (na : starEach [a] X.env = (false, eval a X.env) :: starEach [] X.env := by rfl) :
    PE X (.Call (.Name "sorted" p) [.Call (.Name "set" p2) [a] [] q] [] pos) (tUn (rSset X.K) te) := by
  refine ⟨fun pins s σ H Q I h => Call_ (ld_blt I hg hm PyProof.Rows.boot_sorted (PyProof.Rows.callWith_builtin1 (PyProof.Rows.args_cons ?_ rfl) rfl rfl))⟩
  refine Call_ (ld_blt I hg2 hm2 PyProof.Rows.boot_set (PyProof.Rows.callWith_type1 (PyProof.Rows.args_cons (thn (ha.run pins s σ H _ I h) fun v s1 ⟨x, H1, I1, r1, l, ns, ex, hq, h64, q1⟩ => PyProof.Rows.args_nil ?_) na) na rfl))
  subst ex
  cases r1
  obtain ⟨its, r, pl, hz⟩ := I1.list hq
  have hd := I1.ok.hd hc
  refine call_setL ns hd pl.isList (by simpa using intsAre_of r) (by unfold scanBound; have := h64.1; omega) fun h' tk c R hcn k => PyProof.Rows.args_nil ?_
  have I2 : Inv X pins σ H1 { s1 with heap := h', toks := tk } := I1.kept k
  refine sorted_set (s := { s1 with heap := h', toks := tk }) R hd (by rw [setR_size R]; exact h64.2) fun s' b out cc ns' kp g o hp hg' hi hs hm hl => ?_
  have hlen : (ns'.map V.int).length ≤ sizeLine := by rw [List.length_map, hl, sizeLine_eq]; omega
  have hn : H1 b = none := I2.hok.fresh hp
  have J : Inv X pins σ (upd H1 b (.lst (ns'.map V.int))) { ({ s1 with heap := h', toks := tk } : Shared) with heap := s'.heap, gens := s'.gens, drawn := s'.drawn, toks := s'.toks } :=
    I2.call (ch := []) (Un.laid kp hp hn) (I2.hok.laid kp hp ⟨hlen, out.toList, cc, vals_of_ints hi, hg'⟩) (by rw [g]; exact I2.bare) (fun _ z => nomatch z)
  have e : s' = { s1 with heap := s'.heap, gens := s'.gens, drawn := s'.drawn, toks := s'.toks } := by
    cases s'
    cases s1
    cases o
    rfl
  rw [e]
  exact ⟨.ref b, _, J, rfl, q1 ns' b hs (fun j => by rw [hm j, decide_eq_true_eq]) hn⟩
theorem sset_unique {l l' : List Int} (s : l'.Pairwise (· < ·)) (m : ∀ k, k ∈ l' ↔ k ∈ l) : l' = isort (udup l) :=
  isort_unique ((List.perm_ext_iff_of_nodup (s.imp fun h => Int.ne_of_lt h) (nodup_udup l)).mpr fun k => by rw [m k, mem_udup]) (s.imp fun h => Int.le_of_lt h)
theorem a_sset {K : PySem.W.Frag} {cm : CM} : N1 K cm (rSset K) ssetD := fun G H v d d' Q gh v1 ho a => by
  unfold ssetD at ho
  split at ho
  · rename_i xs
    cases q : intsO xs with
    | none => rw [q] at ho; cases ho
    | some ns =>
      rw [q, Option.bind_some] at ho
      split at ho
      · rename_i h64
        cases ho
        obtain ⟨p, ys, rfl, hq, r⟩ := v1.lst gh
        have e := r.ints q
        subst e
        exact ⟨p, ns, rfl, hq, h64.elim (fun z => ⟨by omega, Nat.lt_of_le_of_lt (udup_le ns) z⟩) id, fun ns' l h1 h2 n => by rw [sset_unique h1 h2]; exact a l _ n ⟨_, upd_same, rps_ints _⟩⟩
      · cases ho
  · cases ho
theorem n_sset {X : Cx} {C : Sc} {O : List Nat} {fa : Ex} {a : Expr} {p p2 q pos : Pos} (hK : C.F.K = X.K) (hc : X.calm = true) (hm : X.mg "sorted" = none) (hm2 : X.mg "set" = none) (ha : PE X a (tW C O fa)) (hg : Gl X "sorted" := by rfl) (hg2 : Gl X "set" := by rfl) (na : starEach [a] X.env = (false, eval a X.env) :: starEach [] X.env := by rfl) :
    PE X (.Call (.Name "sorted" p) [.Call (.Name "set" p2) [a] [] q] [] pos) (tN C O (e1 ssetD fa)) := n_1 a_sset (hK ▸ pe_sset hc hg hm hg2 hm2 ha na)
end Mi

end
section
set_option Elab.async false
set_option linter.all false
set_option maxRecDepth 100000
set_option autoImplicit false
set_option maxHeartbeats 4000000
/-! exceptions of own classes: made, raised, caught -/
namespace Mi
open PySem PySem.Spec PyProof.Rows L2

/-- Base.__init__(self, ..) where Base is an own class whose __init__ is ValueError's -/
structure SBase (K : PySem.W.Frag) (mg : Str → Option Value) (b : Str) (CS : Addr) : Prop where
  m : mg b = some (.ref CS)
  rd : PySem.W.readsIn K CS (.type "type") = true
  ga : PySem.W.specialIn K (.ref CS) "__getattribute__" = some (some (.builtin "type.__getattribute__"))
  ini : PySem.W.findCls K (.ref CS) (.type "type") "__init__" = some (.val (.builtin "ValueError.__init__"))
section
variable {X : Cx} {e : Expr} {es : List Expr} {ta : TA} {p1 p2 pos : Pos}
theorem pe_sinit {b : Str} {CS : Addr} {pl : Sem Bool} (B : SBase X.K X.mg b CS) (hg : Gl X b) (ha : PA X (e :: es) ta) (hdb : (b == ("__debug__" : Str)) = false := by decide)
    (hc : eval (.Call (.Attribute (.Name b p1) "__init__" p2) (e :: es) [] pos) X.env = (do
      let ov ← eval (.Name b p1) X.env
      standAt p2.atName
      let (f, first) ← holding [ov] (getMethod ov "__init__" pl)
      callWith pos f first (backTo pos (starEach (e :: es) X.env)) (backToKw pos (keywordEach [] X.env))) := by rfl)
    (he : starEach (e :: es) X.env = (false, eval e X.env) :: starEach es X.env := by rfl) (hpl : (backTo pos (starEach es X.env)).any (·.1) = false := by rfl) :
    PE X (.Call (.Attribute (.Name b p1) "__init__" p2) (e :: es) [] pos) (tVeI X.K ta) := by
  refine ⟨fun pins s σ H Q I h => PySem.W.methodCall_KW (ld_glob I hg B.m ?_ hdb) hc⟩
  refine PySem.W.method_cls I.kIn B.ga (PySem.W.cls_value I.kIn B.rd B.ini (by decide +kernel) ?_)
  show wpAny _ _ (callWith pos (Value.builtin "ValueError.__init__") [] (backTo pos (starEach (e :: es) X.env)) []) _ _ _
  refine PyProof.Rows.callWith_method1 (thn (ha.run pos pins _ σ H _ (I.tok _) h) fun us s1 ⟨vs, H1, I1, r1, a, C, ws, ev, hl, T, ea, q⟩ => ?_) he hpl
  subst ev
  cases r1 with
  | @cons _ u0 _ ur ra rw' =>
    obtain rfl : u0 = Value.ref a := ra
    exact oinit_ok T I1 ea (by rw [← Paired.length rw', sizeLine_eq]; omega) fun s' J => ⟨.non, H1, J, rfl, q⟩
end
/-- what an exception class's __init__ promises: its one field -/
def spI (C : Addr) (f : Str) : Sp := fun vs H Q _ => ∃ (a : Addr) (y : V), vs = [.ref a, y] ∧ H a = some (exo a C none) ∧ ∀ dx, H dx = none → dx ≠ a → Q .non (upd (upd H dx (exd dx [(f, y)])) a (exo a C (some dx)))
/-- what is known of an exception class -/
structure ExK (K : PySem.W.Frag) (mg : Str → Option Value) (cm : CM) (fld : Str → Str) (c : Str) : Prop where
  T : OexC K (cm c)
  no : PySem.W.findIn K (.ref (cm c)) (fld c) = some none
  m : mg c = some (.ref (cm c))
  xf : XfC K (cm c)
/-- .. and its __init__ -/
structure ExI (P : Program) (w : World) (K : PySem.W.Frag) (mg : Str → Option Value) (base : Heap) (cm : CM) (fld : Str → Str) (c : Str) : Prop where
  k : ExK K mg cm fld c
  i : ∃ fI fd ps, PySem.W.findIn K (.ref (cm c)) "__init__" = some (some (.ref fI)) ∧ PySem.W.typeIn K (.ref fI) = some (.type "function") ∧ FnOk P w K mg base (L2.CX P w) 1 fI fd ps (spI (cm c) (fld c)) ∧ Binds K fd ps []
theorem spI_run {K : PySem.W.Frag} {C : Addr} {f : Str} {t : Str} {vs : List V} {H : Hp} {Q : VK} {E : XK} {N : List Str} (T : OexC K C) (no : PySem.W.findIn K (.ref C) f = some none) (h : spI C f vs H Q E) (hN : N.length = 2) :
    tSeq (tDrop (tVeI K (tCons (tVar 0) (tCons (tC (.str t)) tNil)))) (tOst K f (tVar 0) (tVar 1)) { nx := fun _ H' => Q .non H', rt := Q } (L2.start N vs) H := by
  obtain ⟨a, y, rfl, ha, q⟩ := h
  have e0 : (L2.start N [V.ref a, y])[0]? = some (some (V.ref a)) := rfl
  have e1 : (L2.start N [V.ref a, y])[1]? = some (some y) := rfl
  exact ⟨_, e0, a, C, _, rfl, (by show 1 ≤ 1000; decide), T, ha, _, e1, _, e0, a, C, rfl, T, no, .inl ⟨ha, fun dx n ne => q dx n ne⟩⟩
theorem exi_mk {f : Str} {P : Program} {w : World} {K : PySem.W.Frag} {mg : Str → Option Value} {base : Heap} {cm : CM} {fld : Str → Str} {c qual t : Str} {st : Stmt} {fI : Addr} {fd : FuncData} {N : List Str} (k : ExK K mg cm fld c) (hf : fld c = f) (F : Fun K "__init__" qual st fI fd)
    (iC : PySem.W.findIn K (.ref (cm c)) "__init__" = some (some (.ref fI))) (tI : PySem.W.typeIn K (.ref fI) = some (.type "function")) (hb : Binds K fd N []) (S : FnScope N N (defScope st)) (hN : N.length = 2)
    (hbody : ∀ (cdv : Value) (A : Around) (outer : List PySem.Env) (s : Shared) (H : Hp) (E : XK), PSs (cxOf (L2.CX P w) P w K mg base N qual (defScope st) fI cdv A outer s H E) (defBody st) (tSeq (tDrop (tVeI K (tCons (tVar 0) (tCons (tC (.str t)) tNil)))) (tOst K f (tVar 0) (tVar 1)))) :
    ExI P w K mg base cm fld c := by
  subst hf
  exact ⟨k, fI, fd, N, iC, tI, F.okX S (fun vs H Q E h => by
    obtain ⟨a, y, rfl, _⟩ := h
    exact hN.symm) (fun cdv A outer s H vs Q E hr h => ⟨_, hbody cdv A outer s H E, spI_run k.T k.no h hN⟩), hb⟩
section
variable {X : Cx} {C : Sc} {O O1 : List Nat} {a b c : Expr} {fa fb fc : Ex} {pos p p2 p3 : Pos} {i j : Nat} {x n cls : Str} {ga gb : Sm}
theorem passN {X : Cx} : Passes (L2.CX X.prog X.w) X (fun _ _ _ => False) := fun pins σ H s e s' I c => passAt (W := fun _ _ _ _ => False) takes0 σ pins H s e s' I c
/-- raise c(e) -/
theorem s_raise {k : Nat} (x : ExI X.prog X.w X.K X.mg X.base C.F.cm C.fld cls) (hK : C.F.K = X.K) (hc : X.calm = true) (hr : Room k X.A) (hk : 2 ≤ k) (tk : Takes X C.W) (ha : PE X a (tD C O fa)) (hx : C.XO O := by trivial) (hg : Gl X cls := by rfl) (hdb : (cls == ("__debug__" : Str)) = false := by decide)
    (he : starEach [a] X.env = (false, eval a X.env) :: starEach [] X.env := by rfl) (hpl : (backTo p2 (starEach [] X.env)).any (·.1) = false := by rfl) :
    PS X (.Raise (some (.Call (.Name cls p) [a] [] p2)) none pos) (tS C O O1 (sRaise cls fa)) := by
  obtain ⟨fI, fd, ps, iC, tI, F, hb⟩ := x.i
  refine ps_imp (ps_raise hc tk (pmk_oex (dvs := []) x.k.T iC tI F (hr.mono hk) hb .nil passN hg x.k.m (pa_cons ha pa_nil he) hdb he hpl)) fun D σ H ⟨G, δ, st, m⟩ => ?_
  show tD C O fa σ H _
  refine r_out hx st m fun d v G1 H1 δ1 s1 st1 rv m1 => ?_
  refine ⟨by simp, fun q hq => ?_⟩
  refine ⟨q, v, rfl, upd_same, fun dx n ne => ⟨rfl, dx, [(C.fld cls, v)], upd_same, ?_, ?_, ?_⟩⟩
  · rw [upd_ne ne, upd_same]
  · rwa [upd_ne ne] at n
  · have n1 : H1 dx = none := by rwa [upd_ne ne] at n
    have eq : upd (del (upd (upd (upd H1 q (exo q (C.F.cm cls) none)) dx (exd dx [(C.fld cls, v)])) q (exo q (C.F.cm cls) (some dx))) q) dx (.xd [(C.fld cls, v)]) = upd H1 dx (.xd [(C.fld cls, v)]) := by
      funext y
      by_cases h1 : y = dx
      · rw [h1, upd_same, upd_same]
      · rw [upd_ne h1, upd_ne h1]
        by_cases h2 : y = q
        · rw [h2, del_same, hq]
        · rw [del_ne h2, upd_ne h2, upd_ne h1, upd_ne h2]
    rw [eq]
    have ex := Ext.push (T := C.F.cm.T) (o := .xd [(C.fld cls, v)]) st1.gh n1
    exact m1 O σ _ _ _ _ hx (st1.step ex) ⟨rfl, dx, v, rfl, upd_same, rv.mono ex.g⟩
/-! ### try -/
def clr (i : Nat) : Out → Out
  | .nx δ => .nx (δ.set i none)
  | .bk δ => .bad
  | .ct δ => .bad
  | o => o
/-- try: gb except ..: gh; cs the classes that are caught, os others that may pass -/
def sTry (cs os : List Str) (i : Nat) (gb : Sm) (gh : D → Sm) : Sm := fun δ => match gb δ with
  | .exc c d δ' => if c ∈ cs then clr i (gh d (δ'.set i none)) else if c ∈ os then .exc c d δ' else .bad
  | .bk _ => .bad
  | .ct _ => .bad
  | o => o
theorem Stt.hide {F : Fm} {G H : Hp} {σ : L2.St} {δ : Env} (s : Stt F O G H σ δ) {i : Nat} {x : Option V} (hi : i ∉ O) (kk : i ∉ F.ks) : Stt F O G H (σ.set i x) (δ.set i none) where
  ext := s.ext
  tabs := s.tabs
  kp := fun j hj => by rw [List.getElem?_set_ne (fun e : i = j => kk (by rw [e]; exact hj))]; exact s.kp j hj
  ln := by simpa using s.ln
  le := by simpa using s.le
  sh := fun j d hj h => by
    by_cases e : i = j
    · subst e
      by_cases hl : i < δ.length
      · rw [List.getElem?_set_self hl] at h; cases h
      · rw [List.getElem?_eq_none (by simpa using hl)] at h; cases h
    · rw [List.getElem?_set_ne e] at h ⊢
      exact s.sh j d hj h
  ow := fun j hj => by
    have e : i ≠ j := fun e => hi (e ▸ hj)
    rw [List.getElem?_set_ne e, List.getElem?_set_ne e]
    exact s.ow j hj
  dis := fun j hj k hk a => by
    have e1 : i ≠ j := fun e => hi (by rw [e]; exact hj)
    have e2 : i ≠ k := fun e => hi (by rw [e]; exact hk)
    rw [List.getElem?_set_ne e1, List.getElem?_set_ne e2]
    exact s.dis j hj k hk a
  fix := fun q hq => by
    have e1 : i ≠ q.1 := fun e => hi (by rw [e]; exact (s.fix q hq).1)
    refine ⟨(s.fix q hq).1, ?_⟩
    rw [List.getElem?_set_ne e1]
    exact (s.fix q hq).2
/-- the scope of a try's body: its entry is where it begins -/
abbrev Sc.try_ (C : Sc) (W : WX) (O : List Nat) (G H : Hp) (as : List Addr) : Sc := ⟨⟨C.F.K, C.F.cm, G, H, C.F.n, O, as, C.F.ks, C.F.s0⟩, W, C.fld, fun O' => O' = O, C.L, C.fr⟩
theorem zip_ownS {σ : L2.St} : ∀ {O : List Nat}, (∀ i ∈ O, ∃ a, σ[i]? = some (some (V.ref a))) → (∀ q ∈ O.zip (ownS O σ), q.1 ∈ O ∧ σ[q.1]? = some (some (.ref q.2))) ∧ (∀ i ∈ O, ∀ a, σ[i]? = some (some (V.ref a)) → (i, a) ∈ O.zip (ownS O σ)) ∧ (O.zip (ownS O σ)).map (·.2) = ownS O σ
  | [], _ => ⟨fun q hq => by simp at hq, fun i hi => by simp at hi, rfl⟩
  | j :: O, h => by
    obtain ⟨b, hb⟩ := h j List.mem_cons_self
    obtain ⟨h1, h2, h3⟩ := zip_ownS (O := O) fun i hi => h i (List.mem_cons_of_mem _ hi)
    have e : ownS (j :: O) σ = b :: ownS O σ := by
      unfold ownS
      rw [List.filterMap_cons, hb]
    rw [e]
    refine ⟨fun q hq => ?_, fun i hi a ha => ?_, by rw [List.zip_cons_cons, List.map_cons, h3]⟩
    · rw [List.zip_cons_cons] at hq
      rcases List.mem_cons.mp hq with z | z
      · rw [z]; exact ⟨List.mem_cons_self, hb⟩
      · exact ⟨List.mem_cons_of_mem _ (h1 q z).1, (h1 q z).2⟩
    · rw [List.zip_cons_cons]
      rcases List.mem_cons.mp hi with z | z
      · subst z
        rw [hb] at ha
        cases ha
        exact List.mem_cons_self
      · exact List.mem_cons_of_mem _ (h2 i z a ha)
section
variable {F : Fm} {G H G' H' : Hp} {σ σ' : L2.St} {δ δ' : Env}
theorem Stt.refs (s : Stt F O G H σ δ) : ∀ i ∈ O, ∃ a, σ[i]? = some (some (V.ref a)) := fun i hi => by
  obtain ⟨a, _, e, _⟩ := s.ow i hi
  exact ⟨a, e⟩
theorem Stt.enter (s : Stt F O G H σ δ) : Stt ⟨F.K, F.cm, G, H, F.n, O, ownS O σ, F.ks, F.s0⟩ O G H σ δ where
  ext := Ext.refl s.gh
  tabs := s.tabs
  kp := s.kp
  ln := s.ln
  le := s.le
  sh := s.sh
  ow := fun i hi => by
    obtain ⟨a, d, e1, e2, n, o, _⟩ := s.ow i hi
    exact ⟨a, d, e1, e2, n, o, .inr (by
      show a ∈ (O.zip (ownS O σ)).map (·.2)
      rw [(zip_ownS s.refs).2.2]
      exact mem_ownS.mpr ⟨i, hi, e1⟩)⟩
  dis := s.dis
  fix := fun q hq => (zip_ownS s.refs).1 q hq
theorem ext_leave (s : Stt F O G H σ δ) (e : Ext F.cm.T (Fm.S ⟨F.K, F.cm, G, H, F.n, O, ownS O σ, F.ks, F.s0⟩) G H G' H') : Ext F.cm.T F.S F.G F.H G' H' := s.ext.trans e fun x hx => s.inS x (by
  have hx : x ∈ (O.zip (ownS O σ)).map (·.2) := hx
  rw [(zip_ownS s.refs).2.2] at hx
  exact hx)
theorem Stt.leave (s : Stt F O G H σ δ) (t : Stt ⟨F.K, F.cm, G, H, F.n, O, ownS O σ, F.ks, F.s0⟩ O G' H' σ' δ') : Stt F O G' H' σ' δ' where
  ext := ext_leave s t.ext
  tabs := t.tabs
  kp := t.kp
  ln := t.ln
  le := t.le
  sh := t.sh
  ow := fun i hi => by
    obtain ⟨b, d, e1, e2, n, o, _⟩ := t.ow i hi
    obtain ⟨a0, _, q1, _, _, _, z⟩ := s.ow i hi
    have e3 := (t.fix (i, a0) ((zip_ownS s.refs).2.1 i hi a0 q1)).2
    rw [e1] at e3
    cases e3
    exact ⟨_, d, e1, e2, n, o, z⟩
  dis := t.dis
  fix := fun q hq => by
    obtain ⟨h1, h2⟩ := s.fix q hq
    exact ⟨h1, (t.fix q ((zip_ownS s.refs).2.1 q.1 h1 q.2 h2)).2⟩
theorem ret_leave (s : Stt F O G H σ δ) (r : RetS ⟨F.K, F.cm, G, H, F.n, O, ownS O σ, F.ks, F.s0⟩ G' H' δ') : RetS F G' H' δ' :=
  ⟨ext_leave s r.1, fun q hq => by
    obtain ⟨h1, h2⟩ := s.fix q hq
    exact r.2 q ((zip_ownS s.refs).2.1 q.1 h1 q.2 h2)⟩
end
theorem fr_leave {C : Sc} {W : WX} {G H H' : Hp} {σ : L2.St} {δ δ' : Env} {v : V} {d : D} (s : Stt C.F O G H σ δ) (f : FrR (C.try_ W O G H (ownS O σ)) H' δ' v d) : FrR C H' δ' v d := fun z => by
  obtain ⟨p, G0, ev, hp, r, n, o⟩ := f z
  exact ⟨p, G0, ev, s.ext.back hp, ret_leave s r, n, o⟩
theorem pss_ex {α : Type} {X : Cx} {ss : List Stmt} {t : α → TS} (h : ∀ z, PSs X ss (t z)) : PSs X ss (fun D σ H => ∃ z, t z D σ H) := ⟨fun pins s σ H D I ⟨z, w⟩ => (h z).run pins s σ H D I w⟩
theorem s_try_as {cs os : List Str} {gh : D → Sm} {body suite : List Stmt} {b₀ : Stmt} {np pos' : Pos} {ts : Addr → Value → Option Addr → TS} (hs : X.stack = X.env :: X.outer) (hf : X.env.frame = some X.env.locals) (hN : X.N.Nodup) (hi : X.N[i]? = some n) (hln : X.env.kindOf n = some .local) (hK : C.F.K = X.K) {vc : Value} (hc : Names X x vc) (tk : Takes X C.W)
    (hcs : ∀ c ∈ cs, PySem.W.exmOne X.K (.ref (C.F.cm c)) vc = some true) (hos : ∀ c ∈ os, PySem.W.exmOne X.K (.ref (C.F.cm c)) vc = some false) (hiO : i ∉ O)
    (hb : ∀ (W : WX) (pn : List (Addr × Obj)) (xe : Value → Shared → Prop), Takes (X.tr pn xe) W → PassesOwn (model X.prog X.w) X.A X.env xe → ∀ (z : Hp × Hp × List Addr), PSs (X.tr pn xe) body (tS (C.try_ W O z.1 z.2.1 z.2.2) O O gb))
    (hsu : ∀ (a : Addr) (oe : Obj) (cl : Value) (d : Option Addr) (pn : List (Addr × Obj)), Zc cl d oe → (∃ vs, oe.data = .fields vs) → PSs (X.suite a ((a, oe) :: pn)) (b₀ :: suite) (ts a cl d))
    (hrun : ∀ (a : Addr) (cl : Value) (d : Option Addr) (c : Str) (dv : D) (σ : L2.St) (G H : Hp) (δ : Env) (D : Ends), c ∈ cs → Stt C.F O G H σ δ → (i < σ.length → σ[i]? = some (some (.ref a))) → XRp C G c dv cl d → Ps C O G D (gh dv δ) → ts a cl d D σ H) (hx : C.XO O := by trivial) (kk : i ∉ C.F.ks := by exact List.not_mem_nil) :
    PS X (.Try body [.ExceptHandler (some (.Name x np)) (some n) (b₀ :: suite) pos'] [] [] pos) (tS C O O (sTry cs os i gb gh)) :=
  ps_imp (ps_try_as (Wout := C.W) (tb := fun W D σ H => ∃ z : Hp × Hp × List Addr, tS (C.try_ W O z.1 z.2.1 z.2.2) O O gb D σ H) hs hf hN hi hln hc tk (fun W pn xe t q => pss_ex fun z => hb W pn xe t q z) hsu) fun D σ H ⟨G, δ, st, m⟩ => by
    refine ⟨(G, H, ownS O σ), G, δ, st.enter, ?_⟩
    have m : Ps C O G D (match gb δ with | .exc c d δ' => if c ∈ cs then clr i (gh d (δ'.set i none)) else if c ∈ os then .exc c d δ' else .bad | .bk _ => .bad | .ct _ => .bad | o => o) := m
    cases e : gb δ with
    | nx δ' => rw [e] at m; exact fun σ' G' H' s' t => m σ' G' H' s' (st.leave t)
    | rt d δ' => rw [e] at m; exact fun v G' H' r rv fq => m v G' H' (ret_leave st r) rv (fr_leave st fq)
    | bk δ' => rw [e] at m; exact m.elim
    | ct δ' => rw [e] at m; exact m.elim
    | bad => rw [e] at m; exact m
    | exc c dv δ' =>
      rw [e] at m
      simp only at m
      intro O'' σ' G' H' cl d hO t xr
      have hO : O'' = O := hO
      subst hO
      have ecl : cl = .ref (C.F.cm c) := xr.1
      have sg : Same G G' := t.ext.g
      have st' := st.leave t
      by_cases h1 : c ∈ cs
      · rw [if_pos h1] at m
        refine ⟨true, by rw [ecl]; exact hcs c h1, fun _ a ha => ?_, fun z => Bool.noConfusion z⟩
        have st2 := st'.hide (x := some (.ref a)) hiO kk
        refine hrun a cl d c dv _ G' H' _ _ h1 st2 (fun hl => List.getElem?_set_self (by simpa using hl)) xr ?_
        cases eg : gh dv (δ'.set i none) with
        | nx δ2 => rw [eg] at m; exact fun σ3 G3 H3 s3 st3 => m _ G3 H3 (sg.trans s3) (st3.hide hiO kk)
        | rt d δ2 => rw [eg] at m; exact m
        | bk δ2 => rw [eg] at m; exact m.elim
        | ct δ2 => rw [eg] at m; exact m.elim
        | exc c2 d2 δ2 => rw [eg] at m; exact m
        | bad => rw [eg] at m; exact m
      · rw [if_neg h1] at m
        by_cases h2 : c ∈ os
        · rw [if_pos h2] at m
          exact ⟨false, by rw [ecl]; exact hos c h2, fun z => Bool.noConfusion z, fun _ => m O'' σ' G' H' cl d hx st' xr⟩
        · rw [if_neg h2] at m
          exact m.elim
/-- the suite x = n.f -/
theorem run_fld {F' : Str} {cs : List Str} (hj : j ∉ O) (hil : i < C.F.n) (hcs : ∀ c ∈ cs, C.fld c = F' ∧ c = cls) (kk : j ∉ C.F.ks := by exact List.not_mem_nil) : ∀ (a : Addr) (cl : Value) (d : Option Addr) (c : Str) (dv : D) (σ : L2.St) (G H : Hp) (δ : Env) (D : Ends), c ∈ cs → Stt C.F O G H σ δ → (i < σ.length → σ[i]? = some (some (.ref a))) → XRp C G c dv cl d → Ps C O G D (sAsg (.n j) (eC dv) δ) →
    tAsg (tXf a cl d (C.F.cm cls) F' (tVar i)) (gName j) D σ H := fun a cl d c dv σ G H δ D hc st hs xr m => by
  obtain ⟨h1, h2⟩ := hcs c hc
  subst h2
  obtain ⟨ecl, dd, v, ed, hg, rv⟩ := xr
  refine ⟨_, hs (by rw [st.ln]; exact hil), rfl, ecl, dd, _, v, ed, st.gh _ _ hg, ?_, ?_⟩
  · rw [h1]; simp [List.lookup]
  · exact m _ G H (.refl G) (put_keeps st rv hj kk)
/-- the suite x = (word, n.f) -/
theorem run_fldT {F' : Str} {cs : List Str} {wd : Str} (hj : j ∉ O) (hil : i < C.F.n) (hcs : ∀ c ∈ cs, C.fld c = F' ∧ c = cls) (kk : j ∉ C.F.ks := by exact List.not_mem_nil) : ∀ (a : Addr) (cl : Value) (d : Option Addr) (c : Str) (dv : D) (σ : L2.St) (G H : Hp) (δ : Env) (D : Ends), c ∈ cs → Stt C.F O G H σ δ → (i < σ.length → σ[i]? = some (some (.ref a))) → XRp C G c dv cl d → Ps C O G D (sAsg (.n j) (eC (.tup [.str wd, dv])) δ) →
    tAsg (tTupF (tCons (tC (.str wd)) (tCons (tXf a cl d (C.F.cm cls) F' (tVar i)) tNil))) (gName j) D σ H := fun a cl d c dv σ G H δ D hc st hs xr m => by
  obtain ⟨h1, h2⟩ := hcs c hc
  subst h2
  obtain ⟨ecl, dd, v, ed, hg, rv⟩ := xr
  refine ⟨_, hs (by rw [st.ln]; exact hil), rfl, ecl, dd, _, v, ed, st.gh _ _ hg, ?_, (by show 2 ≤ sizeLine; decide), fun q o n e => ?_⟩
  · rw [h1]; simp [List.lookup]
  · have ex := Ext.push (T := C.F.cm.T) (o := .frz o (.tup [.str wd, v])) st.gh n
    exact m _ _ _ ex.g (put_keeps (st.step ex) (.tup (.of upd_same e) (.cons (.str wd) (.cons (rv.mono ex.g) .nil))) hj kk)
end
end Mi

end
section
set_option Elab.async false
set_option linter.all false
set_option maxRecDepth 100000
set_option autoImplicit false
set_option maxHeartbeats 4000000
/-! len(x), x an instance with an own __len__ -/
namespace Mi
open PySem PySem.Spec PyProof.Rows L2
structure Spc (K : PySem.W.Frag) (C : Addr) (m : Str) (f : Addr) : Prop where
  at_ : PySem.W.findIn K (.ref C) m = some (some (.ref f))
  ty : PySem.W.typeIn K (.ref f) = some (.type "function")
section
variable {X : Cx} {CX : CXT} {k : Nat} {f C : Addr} {fd : FuncData} {ps : List Str} {sp : Sp} {E : XK}
theorem run_at {A : Around} {pins : List (Addr × Obj)} {σ : L2.St} {H : Hp} {s : Shared} {Q : VK} {us : List Value} {vs : List V} (F : FnOk X.prog X.w X.K X.mg X.base CX k f fd ps sp) (hr : Room k A) (hA : A.frames = X.A.frames) (hb : Binds X.K fd ps []) (hx : Passes CX X E)
    (I : Inv X pins σ H s) (r : Vals vs us) (h : sp vs H Q E) : wpAny (model X.prog X.w) A (call (.ref f) us) (EP X pins σ Q) X.xe s := by
  have e := I.env0
  have hl : us.length = ps.length := by rw [← r.length]; exact F.len _ _ _ _ h
  refine wpAny_call (codeAny_mono (F.run A X.stack s H ⟨us, []⟩ us vs Q E hr ⟨by rw [hA]; exact e.frames, e.mod, e.bs, e.bsz, e.funs, e.frf, e.hok, e.bare⟩ (by simpa using hb s us I.kIn (by simpa using hl)) r h) fun r s' hq => ?_)
  rcases r with e | fl
  · exact hx pins σ H s e s' I hq
  · cases fl with
    | ret u => exact I.after hq
    | next => exact False.elim hq
    | brk => exact False.elim hq
    | cont => exact False.elim hq
theorem call_lenO (F : FnOk X.prog X.w X.K X.mg X.base CX k f fd ps sp) (hr : Room (k + 1) X.A) (hb : Binds X.K fd ps []) (hx : Passes CX X E) (hs : Spc X.K C "__len__" f) :
    CallR X (.builtin "len") (fun xs H Q => ∃ a dx fs, xs = [.ref a] ∧ H a = some (.ins C dx fs) ∧ sp [.ref a] H (fun v H' => ∃ n : Int, v = .int n ∧ 0 ≤ n ∧ n < 2 ^ 63 ∧ Q (.int n) H') E) := by
  intro pins s σ H xs us Q I r ⟨a, dx, fs, ex, ha, q⟩
  subst ex
  rw [Vals.ref1 r]
  obtain ⟨mA, J, _⟩ := ins_get I.hok ha
  obtain ⟨od, J, _⟩ := J.look
  have L : PySem.W.Looks (model X.prog X.w) s.heap (specialOf (.ref a) "__len__") (some (.ref f)) := J.type.andThen (PySem.W.looks_findIn I.kIn hs.at_)
  refine Calls.call_function_entry kind_len plain_len entry_len (args_len1 _) ?_
  unfold Builtin.«len»
  refine wpAny_bind (m := oneArg "len" _) (wpAny_pure ?_)
  have key : wpAny (model X.prog X.w) X.A.in1 (callSpecial? (.ref a) (Str.ofString "__len__")) (fun o s' => ∃ (n : Int) (t : Tok), o = some (.int n t) ∧ 0 ≤ n ∧ n < 2 ^ 63 ∧ ∃ H', Inv X pins σ H' s' ∧ Q (.int n) H') X.xe s := by
    unfold callSpecial?
    refine wpAny_bind (L.here ?_)
    refine wpAny_holding (wpAny_bind ((PySem.W.bind_fn I.kIn (.ref a) hs.ty).here ?_))
    have hrun := run_at (A := X.A.in1) F hr.in1 rfl hb hx I (.cons rfl .nil : Vals [V.ref a] [Value.ref a]) q
    have fin : wpAny (model X.prog X.w) X.A.in1 (call (.ref f) [.ref a]) (fun v s' => wpAny (model X.prog X.w) X.A.in1 (pure (some v)) (fun o s' => ∃ (n : Int) (t : Tok), o = some (.int n t) ∧ 0 ≤ n ∧ n < 2 ^ 63 ∧ ∃ H', Inv X pins σ H' s' ∧ Q (.int n) H') X.xe s') X.xe s := by
      refine wpAny_mono hrun (fun v s' ⟨x, H', J', rx, n, ex, h0, h1, q'⟩ => wpAny_pure ?_) fun _ _ z => z
      subst ex
      obtain ⟨t, rfl⟩ := rx
      exact ⟨n, t, rfl, h0, h1, H', J', q'⟩
    first
      | exact wpAny_bind fin
      | exact wpAny_pure (wpAny_bind fin)
  refine wpAny_bind (m := callSpecial? (.ref a) (Str.ofString "__len__")) (wpAny_mono key (fun o s' hq => ?_) fun _ _ z => z)
  obtain ⟨n, t, rfl, h0, h1, H', J', q'⟩ := hq
  refine wpAny_bind (wpAny_holding (wpAny_pure ?_))
  refine wpAny_bind (wpAny_letGo ?_)
  show wpAny _ _ (if n < 0 then _ else _) _ _ _
  rw [if_neg (by omega)]
  show wpAny _ _ (if n ≥ 2 ^ 63 then _ else _) _ _ _
  rw [if_neg (by omega)]
  exact wpAny_bind (wpAny_mkInt (wpAny_pure ⟨_, rfl, .int n, H', J'.tok _, ⟨_, rfl⟩, q'⟩))
end
/-- len(x) by its class's mirror -/
def lenO (c : Str) (f : List D → Fr) (x : D) : Option D := match x with
  | .obj c' _ => if c' = c then (match f [x] with
    | .ok (.int n) [] => if 0 ≤ n ∧ n < 2 ^ 63 then some (.int n) else none
    | _ => none) else none
  | _ => none
theorem d_lenO {X : Cx} {C : Sc} {O : List Nat} {a : Expr} {fa : Ex} {pos p : Pos} {j k : Nat} {c : Str} {g : Addr} {fd : FuncData} {ps : List Str} {f : List D → Fr} (F : FnOk X.prog X.w X.K X.mg X.base (L2.CX X.prog X.w) k g fd ps (spM C.F.K C.F.cm C.fld 1 [] f)) (hr : Room j X.A) (hk : k + 1 ≤ j) (hb : Binds X.K fd ps [])
    (hs : Spc X.K (C.F.cm c) "__len__" g) (hm : X.mg "len" = none) (ha : PE X a (tD C O fa)) (hg : Gl X "len" := by rfl) (he : starEach [a] X.env = (false, eval a X.env) :: starEach [] X.env := by rfl) (hpl : (backTo pos (starEach [] X.env)).any (·.1) = false := by rfl) :
    PE X (.Call (.Name "len" p) [a] [] pos) (tD C O (e1 (lenO c f) fa)) := pe_imp (pe_callB (call_lenO F (hr.mono hk) hb passN hs) hg hm PySem.boot_len (pa_cons ha pa_nil he) (by decide) (by decide) he hpl) fun σ H Q ⟨G, δ, st, m⟩ => by
  refine ⟨G, δ, st, ?_⟩
  unfold e1 at m
  cases e : fa δ with
  | exc c d δ' => rw [e] at m; exact m
  | bad => rw [e] at m; exact m
  | ok d δ1 =>
    rw [e, Res.bind_ok] at m
    intro v G1 H1 s1 st1 rv
    cases rv with
    | @obj a dx fs c' ds h1 h2 rf =>
      have rv : Rp C.F.K C.F.cm G1 (.ref a) (.obj c' ds) := .obj h1 h2 rf
      unfold lenO at m
      simp only at m
      by_cases hc : c' = c
      case neg => rw [if_neg hc] at m; exact m.elim
      rw [if_pos hc] at m
      subst hc
      refine ⟨a, dx, fs, rfl, st1.gh _ _ h1, G1, [.obj c' ds], [], rfl, rfl, callee0 st1.gh st1.tabs (.cons rv .nil) rfl, ?_⟩
      cases ef : f [.obj c' ds] with
      | exc _ _ => simp only [ef] at m; exact m.elim
      | bad => simp only [ef] at m; exact m.elim
      | ok dn outs =>
        cases dn with
        | int n =>
          cases outs with
          | nil =>
            simp only [ef] at m
            by_cases hn : 0 ≤ n ∧ n < 2 ^ 63
            case neg => rw [if_neg hn] at m; exact m.elim
            rw [if_pos hn] at m
            exact fun v G2 H2 ex _ r => by
              cases r
              exact ⟨n, rfl, hn.1, hn.2, m _ G2 H2 (s1.and ex) (st1.step ex) (.int n)⟩
          | cons _ _ => simp only [ef] at m; exact m.elim
        | _ => simp only [ef] at m; exact m.elim
    | _ => exact m.elim
end Mi

end
section
set_option Elab.async false
set_option linter.all false
set_option maxRecDepth 100000
set_option autoImplicit false
set_option maxHeartbeats 4000000
/-! stores to fields of an own object; Book's lists of users, by hand -/
namespace Mi
open PySem PySem.Spec PyProof.Rows L2
def putD (f : Str) (v : D) : List (Str × D) → List (Str × D)
  | [] => [(f, v)]
  | (g, x) :: r => if g = f then (g, v) :: r else (g, x) :: putD f v r
/-- x.f = e, x the def's own object -/
def sSetF (i : Nat) (c f : Str) (e : Ex) : Sm := fun δ => (e δ).out fun v δ1 => (eV i δ1).out fun x δ2 => match x with
  | .obj c' fs => if c' = c ∧ fs.length < 900 then .nx (δ2.set i (some (.obj c (putD f v fs)))) else .bad
  | _ => .bad
theorem Rfs.put {K : PySem.W.Frag} {cm : CM} {G : Hp} {f : Str} {v : V} {d : D} (q : Rp K cm G v d) : ∀ {fs : List (Str × V)} {ds : List (Str × D)}, Rfs K cm G fs ds → Rfs K cm G (putF f v fs) (putD f d ds)
  | _, _, .nil => .cons q .nil
  | _, _, .cons (f := g) r t => by
    unfold putF putD
    by_cases e : g = f
    · rw [if_pos e, if_pos e]; exact .cons q t
    · rw [if_neg e, if_neg e]; exact .cons r (Rfs.put q t)
theorem Rfs.length {K : PySem.W.Frag} {cm : CM} {G : Hp} : ∀ {fs : List (Str × V)} {ds : List (Str × D)}, Rfs K cm G fs ds → fs.length = ds.length
  | _, _, .nil => rfl
  | _, _, .cons _ t => congrArg (· + 1) (Rfs.length t)
theorem s_setF {X : Cx} {C : Sc} {O : List Nat} {i : Nat} {x f c : Str} {a : Expr} {fa : Ex} {p p' pos : Pos} (hK : C.F.K = X.K) (hi : i ∈ O) (hc : Cls X.K (C.F.cm c)) (hn : NoAttr X.K (C.F.cm c) f) (h : PS X (.Assign [.Attribute (.Name x p) f p'] a pos) (sFld X.K (tVar i) (tD C O fa) f)) (hx : C.XO O := by trivial) :
    PS X (.Assign [.Attribute (.Name x p) f p'] a pos) (tS C O O (sSetF i c f fa)) := ps_imp h fun D σ H ⟨G, δ, st, m⟩ => by
  unfold sSetF at m
  refine r_out hx st m fun d v G1 H1 δ1 s1 st1 rv m1 => ?_
  obtain ⟨l, dd, e1, ev, na, o⟩ := st1.ownL hi
  rw [ev, Res.out_ok] at m1
  cases dd with
  | obj c' fs =>
    simp only at m1
    by_cases hcc : c' = c ∧ fs.length < 900
    case neg => rw [if_neg hcc] at m1; exact m1.elim
    rw [if_pos hcc] at m1
    obtain ⟨rfl, hl⟩ := hcc
    obtain ⟨dx, vs, q, w, r⟩ := o
    obtain ⟨st2, ex⟩ := st1.mut (u := .ins (C.F.cm c') dx (putF f v vs)) hi e1 na (by rw [q]; simp) (d := .obj c' (putD f d fs)) ⟨dx, _, upd_same, w, r.put rv⟩
    exact ⟨_, e1, l, _, dx, vs, rfl, q, hc, hn, by rw [r.length]; omega, m1 σ G1 _ (.refl G1) st2⟩
  | _ => exact m1.elim
/-! ### the users -/
def addU (us : List (List Int)) (s ix : Int) : Option (List (List Int)) := (ixD us.length s).bind fun j => (us[j]?).bind fun l => if l.length < 1000000 then some (us.set j (l ++ [ix])) else none
def rowU (ix : Int) : List D → List (List Int) → Option (List (List Int))
  | [], us => some us
  | .int s :: r, us => (addU us s ix).bind (rowU ix r)
  | _ :: _, _ => none
def allU : Nat → List D → List (List Int) → Option (List (List Int))
  | _, [], us => some us
  | k, d :: r, us => (seqOf d).bind fun xs => (rowU k xs us).bind (allU (k + 1) r)
def usD (us : List (List Int)) : D := .lst (us.map fun l => .lst (l.map .int))
/-- the lists at ls hold us; they are the object's own -/
structure UsAt (H0 G H : Hp) (u : Addr) (ls : List Addr) (us : List (List Int)) : Prop where
  at_ : H u = some (.lst (ls.map V.ref))
  len : ls.length = us.length
  nd : ls.Nodup
  nu : u ∉ ls
  each : ∀ (j : Nat) l, ls[j]? = some l → ∃ ns : List Int, us[j]? = some ns ∧ H l = some (.lst (ns.map V.int))
  un : ∀ l, l = u ∨ l ∈ ls → G l = none ∧ H0 l = none
theorem UsAt.on {H0 G H : Hp} {u : Addr} {ls : List Addr} {us : List (List Int)} (a : UsAt H0 G H u ls us) {l : Addr} (h : l = u ∨ l ∈ ls) : H l ≠ none := by
  rcases h with h | h
  · rw [h, a.at_]; simp
  · obtain ⟨j, hj⟩ := List.mem_iff_getElem?.mp h
    obtain ⟨ns, _, q⟩ := a.each j l hj
    rw [q]; simp
theorem UsAt.step {T : List (Addr × Str)} {H0 G H G' H' : Hp} {u : Addr} {ls : List Addr} {us : List (List Int)} (a : UsAt H0 G H u ls us) (e : Ext T [] G H G' H') : UsAt H0 G' H' u ls us where
  at_ := e.keep _ _ a.at_ (by simp) (nc_lst (a := u)).1
  len := a.len
  nd := a.nd
  nu := a.nu
  each := fun j l h => by
    obtain ⟨ns, h1, h2⟩ := a.each j l h
    exact ⟨ns, h1, e.keep _ _ h2 (by simp) (nc_lst (a := l)).1⟩
  un := fun l h => by
    obtain ⟨h1, h2⟩ := a.un l h
    exact ⟨(e.new l (a.on h)).trans h1, h2⟩
/-- self.users[s].append(ix) -/
theorem UsAt.put {H0 G H : Hp} {u : Addr} {ls : List Addr} {us us' : List (List Int)} {s ix : Int} (a : UsAt H0 G H u ls us) (h : addU us s ix = some us') : ∃ (l : Addr) (ns : List Int), L2.atI (ls.map V.ref) s = some (.ref l) ∧ H l = some (.lst (ns.map V.int)) ∧ ns.length < 1000000 ∧ l ∈ ls ∧ l ≠ u ∧
    UsAt H0 G (upd H l (.lst (ns.map V.int ++ [.int ix]))) u ls us' := by
  unfold addU at h
  cases ej : ixD us.length s with
  | none => rw [ej] at h; cases h
  | some j =>
    rw [ej, Option.bind_some] at h
    cases en : us[j]? with
    | none => rw [en] at h; cases h
    | some ns =>
      rw [en, Option.bind_some] at h
      by_cases hz : ns.length < 1000000
      case neg => rw [if_neg hz] at h; cases h
      rw [if_pos hz] at h
      cases h
      have hj : j < ls.length := by rw [a.len]; exact (List.getElem?_eq_some_iff.mp en).1
      have el : ls[j]? = some ls[j] := List.getElem?_eq_getElem hj
      obtain ⟨ns', e1, e2⟩ := a.each j _ el
      rw [en] at e1
      cases e1
      have hm : ls[j] ∈ ls := List.getElem_mem hj
      have hlu : ls[j] ≠ u := fun z => a.nu (z ▸ hm)
      refine ⟨ls[j], ns, ?_, e2, hz, hm, hlu, ?_⟩
      · unfold L2.atI
        rw [List.length_map, a.len]
        show (ixD us.length s).bind _ = _
        rw [ej]
        simp [el]
      · refine ⟨by rw [upd_ne (fun z => hlu z.symm)]; exact a.at_, by rw [List.length_set]; exact a.len, a.nd, a.nu, fun i l hl => ?_, a.un⟩
        by_cases hij : j = i
        · subst hij
          rw [el] at hl
          cases hl
          exact ⟨ns ++ [ix], by rw [List.getElem?_set_self (by rw [← a.len]; exact hj)], by rw [upd_same, List.map_append]; rfl⟩
        · obtain ⟨ns2, q1, q2⟩ := a.each i l hl
          refine ⟨ns2, by rw [List.getElem?_set_ne hij]; exact q1, ?_⟩
          rw [upd_ne]
          · exact q2
          · intro z
            subst z
            obtain ⟨h1, h2⟩ := List.getElem?_eq_some_iff.mp hl
            exact hij ((List.getElem_inj a.nd).mp h2.symm)
/-- all of them known from now on -/
theorem UsAt.frz {K : PySem.W.Frag} {cm : CM} {H0 G H : Hp} {u : Addr} {ls : List Addr} {us : List (List Int)} (a : UsAt H0 G H u ls us) (gh : Sg G H) : ∃ G', Same G G' ∧ Sg G' H ∧ (∀ b, b ≠ u → b ∉ ls → G' b = G b) ∧ Rp K cm G' (.ref u) (usD us) := by
  refine ⟨fun b => if b = u ∨ b ∈ ls then H b else G b, fun b o h => ?_, ⟨fun b o h => ?_, fun b o h => ?_⟩, fun b h1 h2 => if_neg (by simp [h1, h2]), ?_⟩
  · have hn : ¬ (b = u ∨ b ∈ ls) := fun z => by rw [(a.un b z).1] at h; cases h
    show (if b = u ∨ b ∈ ls then H b else G b) = some o
    rw [if_neg hn]
    exact h
  · by_cases z : b = u ∨ b ∈ ls
    · simp only [if_pos z] at h; exact h
    · simp only [if_neg z] at h; exact gh b o h
  · by_cases z : b = u ∨ b ∈ ls
    · simp only [if_pos z] at h
      rcases z with z | z
      · rw [z, a.at_] at h
        cases h
        exact (nc_lst (a := u)).1
      · obtain ⟨j, hj⟩ := List.getElem?_of_mem z
        obtain ⟨ns, _, e2⟩ := a.each j b hj
        rw [e2] at h
        cases h
        exact (nc_lst (a := u)).1
    · simp only [if_neg z] at h; exact gh.nt b o h
  · refine .lst (xs := ls.map V.ref) (SqL.of (by simp only [true_or, if_true]; exact a.at_)) ?_
    have key : ∀ (ls0 : List Addr) (us0 : List (List Int)), ls0.length = us0.length → (∀ (j : Nat) l, ls0[j]? = some l → l ∈ ls ∧ ∃ ns : List Int, us0[j]? = some ns ∧ H l = some (.lst (ns.map V.int))) →
        Rps K cm (fun b => if b = u ∨ b ∈ ls then H b else G b) (ls0.map V.ref) (us0.map fun l => D.lst (l.map .int)) := by
      intro ls0
      induction ls0 with
      | nil =>
        intro us0 hl h
        cases us0 with
        | nil => exact .nil
        | cons _ _ => cases hl
      | cons l ls0 ih =>
        intro us0 hl h
        cases us0 with
        | nil => cases hl
        | cons ns us0 =>
          obtain ⟨hm, ns', e1, e2⟩ := h 0 l rfl
          cases e1
          refine .cons (.lst (xs := ns.map V.int) (SqL.of ?_) (rps_ints ns)) (ih us0 (by simpa using hl) fun j l' hj => h (j + 1) l' (by simpa using hj))
          show (if l = u ∨ l ∈ ls then H l else G l) = _
          rw [if_pos (.inr hm)]
          exact e2
    exact key ls us a.len fun j l hj => ⟨List.mem_of_getElem? hj, a.each j l hj⟩
end Mi

end
section
set_option Elab.async false
set_option linter.all false
set_option maxRecDepth 100000
set_option autoImplicit false
set_option maxHeartbeats 4000000
namespace Mi
open PySem PySem.Spec PyProof.Rows L2
/-- self.users = [[] for slot in range(slots)]; for index, some in enumerate(allowed): for slot in some: self.users[slot].append(index) -/
def gUsers : Sm := fun δ => match eV 0 δ, eV 1 δ, eV 2 δ with
  | .ok (.obj c fs) _, .ok (.int N) _, .ok al _ => (match seqOf al with
    | some as => if c = "Book" ∧ 0 ≤ N ∧ N ≤ 1000 ∧ fs.length < 900 then (match allU 0 as (List.replicate N.toNat []) with
      | some us => .nx ((wipeE δ [3, 4, 5]).set 0 (some (.obj "Book" (putD "users" (usD us) fs))))
      | none => .bad) else .bad
    | none => .bad)
  | _, _, _ => .bad
def tUs1 (C : Sc) : TS := sFld C.F.K (tVar 0) (tLc (tI false C [0] (iRng (eV 1))) (gName 5) tYes (tLst tNil) [5]) "users"
abbrev uC (K : PySem.W.Frag) (cm : CM) (fld : Str → Str) (n : Nat) (z : Hp × Hp) : Sc := ⟨⟨K, cm, z.1, z.2, n, [], [], [], []⟩, fun _ _ _ _ => False, fld, fun _ => True, [], false⟩
def tUsB (K : PySem.W.Frag) : TS := tDrop (tBM K "list" rAppend (tOp (rIx K) (tFld K (tVar 0) "users") (tVar 5)) (tCons (tVar 3) tNil))
def tUs2 (K : PySem.W.Frag) (cm : CM) (fld : Str → Str) (n : Nat) (z : Hp × Hp) : TS := tFor (tI true (uC K cm fld n z) [] (iEnum (eV 2))) (gTup K 2 (gCons (gName 3) (gCons (gName 4) gNil))) (tFor (tI false (uC K cm fld n z) [] (iSeq (eV 4))) (gName 5) (tUsB K))
theorem Ext.poke {T : List (Addr × Str)} {S : List Addr} {G0 H0 G H : Hp} {x : Addr} {u : HO} (e : Ext T S G0 H0 G H) (hx : G x = none) (h0 : H0 x = none) {w : HO} (hw : H x = some w) (nc : NC x w) (nu : NT u := by intro _ h; cases h) : Ext T S G0 H0 G (upd H x u) where
  g := e.g
  gh := e.gh.own hx
  tab := e.tab.trans (.upd hw nc nu)
  keep := fun b o h n t => by rw [upd_ne (fun z => by rw [z, h0] at h; cases h)]; exact e.keep b o h n t
  new := e.new
  dom := fun b h => by rw [upd_ne (fun z => h (by rw [z]; exact h0))]; exact e.dom b h
theorem Stt.poke {F : Fm} {G H : Hp} {σ : L2.St} {δ : Env} {x : Addr} {u : HO} (s : Stt F [] G H σ δ) (hx : G x = none) (h0 : F.H x = none) {w : HO} (hw : H x = some w) (nc : NC x w) (nu : NT u := by intro _ h; cases h) : Stt F [] G (upd H x u) σ δ where
  ext := s.ext.poke hx h0 hw nc nu
  tabs := s.tabs.go (.upd hw nc nu)
  kp := s.kp
  ln := s.ln
  le := s.le
  sh := s.sh
  ow := fun i hi => by cases hi
  dis := fun i hi => by cases hi
  fix := fun p hp => by cases (s.fix p hp).1
/-- between two turns: x the object, its dict dx, its fields vs; D its lists of users -/
structure UInv (K : PySem.W.Frag) (cm : CM) (n : Nat) (G1 Hb : Hp) (x C dx D : Addr) (vs : List (Str × V)) (ls : List Addr) (δ0 : Env) (us : List (List Int)) (G : Hp) (σ : L2.St) (H : Hp) (δ : Env) : Prop where
  st : Stt ⟨K, cm, G1, Hb, n, [], [], [], []⟩ [] G H σ δ
  gx : G x = none
  s0 : σ[0]? = some (some (.ref x))
  hx : H x = some (.ins C dx vs)
  ua : UsAt Hb G H D ls us
  xd : x ≠ D ∧ x ∉ ls
  dl : ∀ (j : Nat) d, j ≠ 3 → j ≠ 4 → j ≠ 5 → δ0[j]? = some (some d) → δ[j]? = some (some d)
section
variable {K : PySem.W.Frag} {cm : CM} {n : Nat} {G1 Hb : Hp} {x C dx Dn : Addr} {vs : List (Str × V)} {ls : List Addr} {δ0 : Env} {us : List (List Int)} {G H : Hp} {σ : L2.St} {δ : Env} {fld : Str → Str}
theorem UInv.step {G' H' : Hp} (I : UInv K cm n G1 Hb x C dx Dn vs ls δ0 us G σ H δ) (e : Ext cm.T [] G H G' H') : UInv K cm n G1 Hb x C dx Dn vs ls δ0 us G' σ H' δ :=
  ⟨I.st.step e, (e.new x (by rw [I.hx]; simp)).trans I.gx, I.s0, e.keep _ _ I.hx (by simp) (nc_ins (a := x)).1, I.ua.step e, I.xd, I.dl⟩
theorem UInv.put {v : V} {d : D} {i : Nat} (I : UInv K cm n G1 Hb x C dx Dn vs ls δ0 us G σ H δ) (r : Rp K cm G v d) (hi : i = 3 ∨ i = 4 ∨ i = 5) : UInv K cm n G1 Hb x C dx Dn vs ls δ0 us G (σ.set i (some v)) H (δ.set i (some d)) :=
  ⟨put_keeps I.st r (by simp) (by simp), I.gx, by rw [List.getElem?_set_ne (by omega)]; exact I.s0, I.hx, I.ua, I.xd, fun j d' h3 h4 h5 h => by
    rw [List.getElem?_set_ne (by omega)]; exact I.dl j d' h3 h4 h5 h⟩
/-- one append -/
theorem r_usB {us' : List (List Int)} {s ix : Int} {D : Ends} (I : UInv K cm n G1 Hb x C dx Dn vs ls δ0 us G σ H δ) (hc : Cls K C) (hno : NoAttr K C "users") (hl : vs.lookup ("users" : Str) = some (V.ref Dn)) (h5 : σ[5]? = some (some (.int s))) (h3 : σ[3]? = some (some (.int ix))) (ha : addU us s ix = some us')
    (k : ∀ H', UInv K cm n G1 Hb x C dx Dn vs ls δ0 us' G σ H' δ → D.nx σ H') : tUsB K D σ H := by
  obtain ⟨l, ns, e1, e2, hz, hm, hlu, ua⟩ := I.ua.put ha
  have nl := I.ua.un l (.inr hm)
  refine ⟨_, I.s0, x, C, dx, vs, _, rfl, I.hx, hc, hno, hl, _, h5, .inl ⟨Dn, _, s, _, rfl, rfl, SqL.of I.ua.at_, e1, tyl e2, _, h3, l, _, _, rfl, rfl, e2, ?_, k _ ⟨I.st.poke nl.1 nl.2 e2 nc_lst, I.gx, I.s0, ?_, ua, I.xd, I.dl⟩⟩⟩
  · rw [List.length_map]
    exact Nat.lt_of_lt_of_le hz (by decide)
  · rw [upd_ne (fun z => I.xd.2 (by rw [z]; exact hm))]
    exact I.hx
/-- for slot in some -/
theorem r_usRow {us' : List (List Int)} {ix : Int} {xs : List D} {d4 : D} {D : Ends} (I : UInv K cm n G1 Hb x C dx Dn vs ls δ0 us G σ H δ) (hc : Cls K C) (hno : NoAttr K C "users") (hl : vs.lookup ("users" : Str) = some (V.ref Dn)) (hn : 6 ≤ n) (h3 : σ[3]? = some (some (.int ix))) (h4 : eV 4 δ = .ok d4 δ) (hs : seqOf d4 = some xs) (ha : rowU ix xs us = some us')
    (k : ∀ G' σ' H' δ', Same G G' → UInv K cm n G1 Hb x C dx Dn vs ls δ0 us' G' σ' H' δ' → D.nx σ' H') : tFor (tI false (uC K cm fld n (G1, Hb)) [] (iSeq (eV 4))) (gName 5) (tUsB K) D σ H := by
  refine ⟨G, δ, I.st, ?_⟩
  have e : iSeq (eV 4) δ = .ok xs δ := by unfold iSeq; rw [h4, Res.bind_ok, hs]; rfl
  rw [e]
  intro J G2 H2 s2 st2 wk
  have s2' : Ext _ [] G H G2 H2 := s2
  refine for_it wk (fun i σ' H' => ∃ G' δ' us2, UInv K cm n G1 Hb x C dx Dn vs ls δ0 us2 G' σ' H' δ' ∧ Same G2 G' ∧ σ'[3]? = some (some (.int ix)) ∧ rowU ix (xs.drop i) us2 = some us') ⟨G2, δ, us, I.step s2', .refl G2, h3, ha⟩
    (fun i σ' H' _ ⟨G', _, _, I', s', _⟩ => s'.trans I'.st.gh) ?_ ?_
  · rintro i v σ' H' H3 hlt ⟨G', δ', us2, I', s', h3', ha'⟩ y
    obtain ⟨G3, d, hd, ex, rq⟩ := y G' s' I'.st.gh
    have hdrop : xs.drop i = d :: xs.drop (i + 1) := by
      rw [List.drop_eq_getElem_cons hlt]
      congr
      have := List.getElem?_eq_getElem hlt
      rw [hd] at this
      exact (Option.some.inj this).symm
    rw [hdrop] at ha'
    rcases rq with rv | ⟨z, _⟩
    · cases rv with
      | int s =>
        unfold rowU at ha'
        cases eu : addU us2 s ix with
        | none => rw [eu] at ha'; cases ha'
        | some us3 =>
          rw [eu, Option.bind_some] at ha'
          have I3 := (I'.step ex).put (i := 5) (.int s) (.inr (.inr rfl))
          have hl5 : 5 < σ'.length := by
            have := I'.st.ln
            have : σ'.length = n := this
            omega
          refine r_usB I3 hc hno hl (List.getElem?_set_self hl5) (by rw [List.getElem?_set_ne (by decide)]; exact h3') eu fun H4 I4 => ⟨G3, _, us3, I4, s'.trans ex.g, by rw [List.getElem?_set_ne (by decide)]; exact h3', ha'⟩
      | _ => cases ha'
    · cases z
  · rintro σ' H' ⟨G', δ', us2, I', s', h3', ha'⟩
    rw [List.drop_length] at ha'
    cases ha'
    exact k G' σ' H' δ' (s2'.g.trans s') I'
/-- for index, some in enumerate(allowed) -/
theorem r_usAll {us' : List (List Int)} {as : List D} {d2 : D} {D : Ends} (I : UInv K cm n G1 Hb x C dx Dn vs ls δ0 us G σ H δ) (hc : Cls K C) (hno : NoAttr K C "users") (hl : vs.lookup ("users" : Str) = some (V.ref Dn)) (hn : 6 ≤ n) (h2 : eV 2 δ = .ok d2 δ) (hs : seqOf d2 = some as) (ha : allU 0 as us = some us')
    (k : ∀ G' σ' H' δ', Same G G' → UInv K cm n G1 Hb x C dx Dn vs ls δ0 us' G' σ' H' δ' → D.nx σ' H') : tUs2 K cm fld n (G1, Hb) D σ H := by
  refine ⟨G, δ, I.st, ?_⟩
  have e : iEnum (eV 2) δ = .ok (enumD 0 as) δ := by unfold iEnum; rw [h2, Res.bind_ok, hs]; rfl
  rw [e]
  intro J G2 H2 s2 st2 wk
  have s2' : Ext _ [] G H G2 H2 := s2
  refine for_it wk (fun i σ' H' => ∃ G' δ' us2, UInv K cm n G1 Hb x C dx Dn vs ls δ0 us2 G' σ' H' δ' ∧ Same G2 G' ∧ allU i (as.drop i) us2 = some us') ⟨G2, δ, us, I.step s2', .refl G2, ha⟩
    (fun i σ' H' _ ⟨G', _, _, I', s', _⟩ => s'.trans I'.st.gh) ?_ ?_
  · rintro i v σ' H' H3 hlt ⟨G', δ', us2, I', s', ha'⟩ y
    obtain ⟨G3, d, hd, ex, rq⟩ := y G' s' I'.st.gh
    have hlt' : i < as.length := by rw [enumD_length] at hlt; exact hlt
    have hd' := enumD_get (ds := as) (k := 0) (List.getElem?_eq_getElem hlt')
    rw [hd] at hd'
    cases hd'
    rw [List.drop_eq_getElem_cons hlt'] at ha'
    unfold allU at ha'
    cases es : seqOf as[i] with
    | none => rw [es] at ha'; cases ha'
    | some xs =>
      rw [es, Option.bind_some] at ha'
      cases er : rowU ((i : Nat) : Int) xs us2 with
      | none => rw [er] at ha'; cases ha'
      | some us3 =>
        rw [er, Option.bind_some] at ha'
        obtain ⟨ta, xv, ev, hq, rs⟩ : ∃ ta xv, v = .ref ta ∧ SqT K G3 ta xv ∧ Rps K cm G3 xv [.int ((0 + i : Nat) : Int), as[i]] := by
          rcases rq with rv | ⟨_, ta, xv, ds, e1, e2, e3, e4⟩
          · cases rv with
            | tup q rs => exact ⟨_, _, rfl, q.sq, rs⟩
          · cases e2
            exact ⟨ta, xv, e1, e3, e4⟩
        cases rs with
        | cons r3 rs =>
          cases rs with
          | cons r4 rs =>
            cases rs
            cases r3
            rename_i v4
            have I3 := ((I'.step ex).put (i := 3) (.int ((0 + i : Nat) : Int)) (.inl rfl)).put (i := 4) r4 (.inr (.inl rfl))
            have hln : σ'.length = n := I'.st.ln
            have hle : δ'.length = n := I'.st.le
            refine ⟨ta, _, ev, same_sqT (I'.step ex).st.gh hq, rfl, _, _, rfl, _, _, rfl, rfl, ?_⟩
            refine r_usRow (d4 := as[i]) (ix := ((0 + i : Nat) : Int)) I3 hc hno hl hn ?_ ?_ es (by simpa using er) fun G4 σ4 H4 δ4 s4 I4 => ⟨G4, δ4, us3, I4, s'.trans (ex.g.trans s4), ha'⟩
            · rw [List.getElem?_set_ne (by decide), List.getElem?_set_self (by omega)]
            · unfold eV
              rw [List.getElem?_set_self (by rw [List.length_set]; omega)]
  · rintro σ' H' ⟨G', δ', us2, I', s', ha'⟩
    rw [enumD_length, List.drop_length] at ha'
    cases ha'
    exact k G' σ' H' δ' (s2'.g.trans s') I'
theorem lookup_putF_self {f : Str} {v : V} (fs : List (Str × V)) : (putF f v fs).lookup f = some v := by rw [lookup_putF, if_pos rfl]
theorem r_users {C : Sc} (hn6 : 6 ≤ C.F.n) (hc : Cls C.F.K (C.F.cm "Book")) (hno : NoAttr C.F.K (C.F.cm "Book") "users") (kk : C.F.ks = [] := by rfl) : ∀ D σ H, tS C [0] [0] gUsers D σ H → tSeq (tUs1 C) (fun D σ H => ∃ z, tUs2 C.F.K C.F.cm C.fld C.F.n z D σ H) D σ H := fun D σ H ⟨G, δ, st, m⟩ => by
  unfold gUsers at m
  rcases eV_cases 0 δ with ⟨d0, h0, q0⟩ | q0
  case inr => rw [q0] at m; exact m.elim
  rcases eV_cases 1 δ with ⟨d1, h1, q1⟩ | q1
  case inr => rw [q0, q1] at m; cases d0 <;> exact m.elim
  rcases eV_cases 2 δ with ⟨d2, h2, q2⟩ | q2
  case inr => rw [q0, q1, q2] at m; cases d0 <;> cases d1 <;> exact m.elim
  rw [q0, q1, q2] at m
  cases d0 with
  | obj c fs =>
    cases d1 with
    | int N =>
      simp only at m
      cases es : seqOf d2 with
      | none => simp only [es] at m; exact m.elim
      | some as =>
        simp only [es] at m
        by_cases hcond : c = "Book" ∧ 0 ≤ N ∧ N ≤ 1000 ∧ fs.length < 900
        case neg => rw [if_neg hcond] at m; exact m.elim
        rw [if_pos hcond] at m
        obtain ⟨rfl, hN0, hN1, hfs⟩ := hcond
        cases ea : allU 0 as (List.replicate N.toNat []) with
        | none => simp only [ea] at m; exact m.elim
        | some us =>
          simp only [ea] at m
          have m' : ∀ σ' G' H', Same G G' → Stt C.F [0] G' H' σ' ((wipeE δ [3, 4, 5]).set 0 (some (.obj "Book" (putD "users" (usD us) fs)))) → D.nx σ' H' := m
          refine ⟨G, δ, st, ?_⟩
          have e : iRng (eV 1) δ = .ok (rng 0 N.toNat) δ := by
            unfold iRng
            rw [q1, Res.bind_ok]
            have : smInt (.int N) = some N := smInt_iff ⟨by omega, by omega⟩
            rw [this]
            rfl
          rw [e]
          intro J G1 H1 s1 st1 wk Dn hDn
          obtain ⟨x, dd, ex, ev, nx, o⟩ := st1.ownL (i := 0) (by simp)
          rw [q0] at ev
          cases ev
          obtain ⟨dx, vs, hx, hdx, rf⟩ := o
          have hDx : Dn ≠ x := fun z => by rw [z, hx] at hDn; cases hDn
          refine lc_it wk (fun i H' => ∃ ls : List Addr, H' Dn = some (.lst (ls.map V.ref)) ∧ ls.length = i ∧ ls.Nodup ∧ Dn ∉ ls ∧ (∀ l ∈ ls, H' l = some (.lst []) ∧ H1 l = none) ∧ Ext C.F.cm.T [] G1 H1 G1 H')
            ⟨[], upd_same, rfl, List.nodup_nil, by simp, by simp, Ext.fresh st1.gh hDn⟩ (fun i H' _ ⟨ls, _, _, _, _, _, kp⟩ => kp.gh.s) ?_ ?_
          · rintro i v H2 H3 hlt ⟨ls, hD, hl, nd, nD, hz, kp⟩ y
            obtain ⟨G3, d, _, ex3, _⟩ := y G1 (.refl G1) kp.gh
            have k3 : ∀ b o, H2 b = some o → NT o → H3 b = some o := fun b o h t => ex3.keep b o h (by simp) t
            have ntl : ∀ xs, NT (.lst xs) := fun xs => (nc_lst (a := Dn)).1
            have e13 : Ext _ [] G1 H1 G1 H3 := ⟨.refl G1, ⟨ex3.g.trans ex3.gh.s, st1.gh.nt⟩, (kp.and ex3).keep, fun _ _ => rfl, (kp.and ex3).dom, (kp.and ex3).tab⟩
            refine ⟨by rw [wipe_set (by simp), wipeS_idem], ?_⟩
            unfold tYes
            simp only [if_true]
            refine ⟨by simp, fun p np => ?_⟩
            have hDp : Dn ≠ p := fun z => by
              have := k3 _ _ hD (ntl _)
              rw [z, np] at this
              cases this
            have n1p : H1 p = none := e13.back np
            have hpl : p ∉ ls := fun z => by
              rw [k3 _ _ (hz p z).1 (ntl _)] at np
              cases np
            rw [rng_length] at hlt
            refine ⟨ls.map V.ref, by rw [upd_ne hDp]; exact k3 _ _ hD (ntl _), by rw [List.length_map, hl, sizeLine_eq]; omega, ls ++ [p], by rw [upd_same]; simp, by simp [hl], ?_, ?_, fun l hm => ?_, ?_⟩
            · rw [List.nodup_append]
              exact ⟨nd, by simp, fun a ha b hb => by
                have : b = p := by simpa using hb
                rw [this]
                exact fun z => hpl (z ▸ ha)⟩
            · simp only [List.mem_append, List.mem_singleton, not_or]
              exact ⟨nD, hDp⟩
            · rcases List.mem_append.mp hm with z | z
              · have hlD : l ≠ Dn := fun q => nD (q ▸ z)
                have hlp : l ≠ p := fun q => hpl (q ▸ z)
                rw [upd_ne hlD, upd_ne hlp]
                exact ⟨k3 _ _ (hz l z).1 (ntl _), (hz l z).2⟩
              · have : l = p := by simpa using z
                subst this
                rw [upd_ne (fun q => hDp q.symm), upd_same]
                exact ⟨rfl, n1p⟩
            · exact (e13.and (Ext.fresh (o := .lst []) e13.gh np)).poke (st1.gh.free hDn) hDn (by rw [upd_ne hDp]; exact k3 _ _ hD (ntl _)) nc_lst
          · rintro H2 ⟨ls, hD, hl, nd, nD, hz, kp⟩
            rw [rng_length] at hl
            have hx2 : H2 x = some (.ins (C.F.cm "Book") dx vs) := kp.keep _ _ hx (by simp) (nc_ins (a := x)).1
            have hxl : x ∉ ls := fun z => by
              have := (hz x z).2
              rw [hx] at this
              cases this
            refine ⟨_, ex, x, _, dx, vs, rfl, hx2, hc, hno, by rw [rf.length]; omega, ?_⟩
            let Hb : Hp := fun b => if b = x then none else H1 b
            have Hbx : Hb x = none := if_pos rfl
            have Hbn : ∀ b, b ≠ x → Hb b = H1 b := fun b h => if_neg h
            have Hb0 : ∀ b, H1 b = none → Hb b = none := fun b h => by
              by_cases z : b = x
              · rw [z]; exact Hbx
              · rw [Hbn b z]; exact h
            refine ⟨(G1, Hb), ?_⟩
            have I : UInv C.F.K C.F.cm C.F.n G1 Hb x (C.F.cm "Book") dx Dn (putF "users" (.ref Dn) vs) ls (δ.set 0 none) (List.replicate N.toNat []) G1 σ (upd H2 x (.ins (C.F.cm "Book") dx (putF "users" (.ref Dn) vs))) (δ.set 0 none) := {
              st := {
                tabs := (st1.tabs.go kp.tab).go (.upd hx2 nc_ins)
                kp := fun j hj => by cases hj
                ext := ⟨.refl G1, kp.gh.own nx, fun b o h _ ht => by
                    have h : Hb b = some o := h
                    have hb : b ≠ x := fun z => by rw [z, Hbx] at h; cases h
                    rw [Hbn b hb] at h
                    rw [upd_ne hb]
                    exact kp.keep _ _ h (by simp) ht, fun _ _ => rfl, fun b h => by
                    have h : Hb b ≠ none := h
                    have hb : b ≠ x := fun z => h (by rw [z]; exact Hbx)
                    rw [Hbn b hb] at h
                    rw [upd_ne hb]
                    exact kp.dom b h, fun t => (kp.tab.trans (.upd hx2 nc_ins)) ⟨fun p hp => (t.1 p hp).ext fun b o h => by
                    have h : Hb b = some o := h
                    have hb : b ≠ x := fun z => by rw [z, Hbx] at h; cases h
                    rw [Hbn b hb] at h
                    exact h, fun b ps h => t.2 b ps ((Hbn b (fun z => by rw [z, hx] at h; cases h)).trans h)⟩⟩
                ln := st1.ln
                le := by rw [List.length_set]; exact st1.le
                sh := fun i d _ h => by
                  by_cases hi : 0 = i
                  · subst hi
                    by_cases hl0 : 0 < δ.length
                    · rw [List.getElem?_set_self hl0] at h; cases h
                    · rw [List.getElem?_eq_none (by simpa using hl0)] at h; cases h
                  · rw [List.getElem?_set_ne hi] at h
                    exact st1.sh i d (by simp; omega) h
                ow := fun i hi => by cases hi
                dis := fun i hi => by cases hi
                fix := fun p hp => by cases hp }
              gx := nx
              s0 := ex
              hx := upd_same
              ua := ⟨by rw [upd_ne hDx]; exact hD, by rw [hl, List.length_replicate], nd, nD, fun j l hj => by
                  have hm := List.mem_of_getElem? hj
                  have hj' : j < N.toNat := by rw [← hl]; exact (List.getElem?_eq_some_iff.mp hj).1
                  refine ⟨[], by rw [List.getElem?_replicate, if_pos hj'], ?_⟩
                  rw [upd_ne (fun z => hxl (by rw [← z]; exact hm))]
                  exact (hz l hm).1, fun l hl' => by
                  have n1 : H1 l = none := by
                    rcases hl' with z | z
                    · rw [z]; exact hDn
                    · exact (hz l z).2
                  exact ⟨st1.gh.free n1, Hb0 l n1⟩⟩
              xd := ⟨hDx.symm, hxl⟩
              dl := fun j d _ _ _ h => h }
            have l0 : 0 < δ.length := (List.getElem?_eq_some_iff.mp h0).1
            refine r_usAll (us' := us) I hc hno (lookup_putF_self _) hn6 (d2 := d2) (by unfold eV; rw [List.getElem?_set_ne (by decide), h2]) es ea fun G' σ' H' δ' sG I' => ?_
            obtain ⟨G9, g1, g2, g3, rp⟩ := I'.ua.frz (K := C.F.K) (cm := C.F.cm) I'.st.gh
            have xu : G9 x = G' x := g3 x I'.xd.1 I'.xd.2
            have e5 : Ext _ [x] G1 H1 G9 H' := ⟨sG.trans g1, g2, fun b o h n ht => I'.st.ext.keep b o (by
                show Hb b = some o
                rw [Hbn b (by simpa using n)]
                exact h) (by simp [Fm.S, Fm.own]) ht, fun b h => by
                by_cases z : b = x
                · rw [z, xu, I'.gx, nx]
                · have hb : Hb b ≠ none := by rw [Hbn b z]; exact h
                  have n1 : b ≠ Dn := fun q => hb (by rw [q]; exact (I'.ua.un Dn (.inl rfl)).2)
                  have n2 : b ∉ ls := fun q => hb ((I'.ua.un b (.inr q)).2)
                  rw [g3 b n1 n2]
                  exact I'.st.ext.new b hb, fun b h => by
                by_cases z : b = x
                · rw [z, I'.hx]; simp
                · exact I'.st.ext.dom b (by
                    show Hb b ≠ none
                    rw [Hbn b z]
                    exact h), fun t => I'.st.ext.tab ⟨fun p hp => (by
                  obtain ⟨ps, t1, t2, t3⟩ := t.1 p hp
                  refine ⟨ps, (Hbn p.1 (fun z => by rw [z, hx] at t1; cases t1)).trans t1, t2, fun pos cv hc => ?_⟩
                  obtain ⟨c, c1, c2⟩ := t3 pos cv hc
                  exact ⟨c, c1, (Hbn c (fun z => by rw [z, hx] at c2; exact (nc_ins (a := x)).2 _ (Option.some.inj c2))).trans c2⟩), fun b ps h => by
                have h : Hb b = some (.tbl ps) := h
                exact t.2 b ps ((Hbn b (fun z => by rw [z, Hbx] at h; cases h)).symm.trans h)⟩⟩
            refine m' σ' G9 H' (s1.g.trans (sG.trans g1)) {
              tabs := st1.tabs.go e5.tab
              kp := fun j hj => by rw [kk] at hj; cases hj
              ext := st1.ext.trans e5 fun y hy => by
                rw [show y = x by simpa using hy]
                exact st1.inS x (mem_ownS.mpr ⟨0, by simp, ex⟩)
              ln := I'.st.ln
              le := by rw [List.length_set, wipeE_length]; exact st1.le
              sh := fun i d hi h => by
                have hi0 : 0 ≠ i := fun z => hi (by simp [← z])
                rw [List.getElem?_set_ne hi0] at h
                obtain ⟨h3, h4⟩ := wipeE_at h
                simp only [List.mem_cons, List.not_mem_nil, or_false, not_or] at h4
                have h5 := I'.dl i d h4.1 h4.2.1 h4.2.2 (by rw [List.getElem?_set_ne hi0]; exact h3)
                obtain ⟨v, e1, r⟩ := I'.st.sh i d (by simp) h5
                exact ⟨v, e1, r.mono g1⟩
              ow := fun i hi => by
                have : i = 0 := by simpa using hi
                subst this
                obtain ⟨a0, _, q1', _, _, _, z⟩ := st1.ow 0 (by simp)
                rw [ex] at q1'
                cases q1'
                exact ⟨x, _, I'.s0, List.getElem?_set_self (by rw [wipeE_length]; exact l0), xu.trans I'.gx, ⟨dx, _, I'.hx, (sG.trans g1) _ _ hdx, (rf.mono (sG.trans g1)).put rp⟩, z⟩
              dis := fun i hi j hj a _ _ => by
                have h1 : i = 0 := by simpa using hi
                have h2 : j = 0 := by simpa using hj
                rw [h1, h2]
              fix := fun p hp => by
                obtain ⟨h1, h2⟩ := st1.fix p hp
                have h3 : p.1 = 0 := by simpa using h1
                rw [h3] at h2 ⊢
                rw [ex] at h2
                cases h2
                exact ⟨by simp, I'.s0⟩ }
    | _ => exact m.elim
  | _ => exact m.elim
end
end Mi

end
section
set_option Elab.async false
set_option linter.all false
set_option maxRecDepth 100000
set_option autoImplicit false
set_option maxHeartbeats 4000000
/-! an instance is made: C(e, ..) -/
namespace Mi
open PySem PySem.Spec PyProof.Rows L2
def eMake (c : Str) (f : List D → Fr) (as : List Ex) : Ex := fun δ => (eL as δ).bind fun ds δ1 => match f (.obj c [] :: ds) with
  | .ok .non [w] => .ok w δ1
  | .exc c' d => .exc c' d δ1
  | _ => .bad
theorem d_make {X : Cx} {C : Sc} {O : List Nat} {a : Expr} {es : List Expr} {fs : List Ex} {pos p : Pos} {c : Str} {f : List D → Fr} {k j n : Nat} {g : Addr} {fd : FuncData} {ps : List Str} (F : FnOk X.prog X.w X.K X.mg X.base (L2.CX X.prog X.w) k g fd ps (spM C.F.K C.F.cm C.fld n [0] f)) (hK : C.F.K = X.K) (M : Mk X.K (C.F.cm c) g) (hr : Room j X.A) (hk : k + 1 ≤ j)
    (hm : X.mg c = some (.ref (C.F.cm c))) (hb : Binds X.K fd ps []) (tk : Takes X C.W) (E : XK) (hW : ∀ cls d σ H, C.W cls d σ H = E cls d H) (ha : PA X (a :: es) (tA C O (eL fs))) (hn : fs.length + 1 = n) (hg : Gl X c := by rfl) (hdb : (c == ("__debug__" : Str)) = false := by decide)
    (he : starEach (a :: es) X.env = (false, eval a X.env) :: starEach es X.env := by rfl) (hpl : (backTo pos (starEach es X.env)).any (·.1) = false := by rfl) : PE X (.Call (.Name c p) (a :: es) [] pos) (tD C O (eMake c f fs)) :=
  pe_imp (pe_make M F (hr.mono hk) hg hm hb .nil (fun pins σ H s e s' I q => by
    have eW : E = WE C.W σ := by funext cls d H; exact (hW cls d σ H).symm
    exact passAt tk σ pins H s e s' I (by rw [← eW]; exact q)) ha hdb he hpl) fun σ H Q ⟨G, δ, st, m⟩ => by
    refine ⟨G, δ, st, ?_⟩
    unfold eMake at m
    cases e : eL fs δ with
    | exc c d δ' => rw [e] at m; exact m
    | bad => rw [e] at m; exact m
    | ok ds δ1 =>
      rw [e, Res.bind_ok] at m
      intro vs G1 H1 s1 st1 rv x dx nx ndx ne
      have ep := Ext.push (T := C.F.cm.T) (o := .own x) st1.gh ndx
      have nx1 : (upd H1 dx (.own x)) x = none := by rw [upd_ne ne.symm]; exact nx
      have ef := Ext.fresh (T := C.F.cm.T) (o := .ins (C.F.cm c) dx []) ep.gh nx1
      have e1 : Ext _ [] G1 H1 (upd G1 dx (.own x)) (upd (upd H1 dx (.own x)) x (.ins (C.F.cm c) dx [])) := ep.and ef
      have ng : (upd G1 dx (.own x)) x = none := by rw [upd_ne ne.symm]; exact st1.gh.free nx
      have hl : (V.ref x :: (vs ++ [])).length = n := by rw [List.append_nil, List.length_cons, rv.length, eL_length e, hn]
      have o : OwnAt C.F.K C.F.cm (upd G1 dx (.own x)) (upd (upd H1 dx (.own x)) x (.ins (C.F.cm c) dx [])) x (.obj c []) := ⟨dx, [], upd_same, upd_same, .nil⟩
      refine ⟨_, .obj c [] :: ds, [x], hl, rfl, callee1 (j := 0) e1.gh (st1.step e1).tabs hl (by rw [List.length_cons, eL_length e, hn]) (fun i d hi h => ?_) rfl rfl ng o, ?_⟩
      · cases i with
        | zero => exact absurd rfl hi
        | succ i =>
          rw [List.append_nil]
          exact (rv.mono e1.g).get (by simpa using h)
      · cases ef : f (.obj c [] :: ds) with
        | bad => rw [ef] at m; exact m.elim
        | exc c' d =>
          rw [ef] at m
          intro G2 H2 cls dd ex xr
          rw [← hW cls dd σ H2]
          exact m G2 H2 cls dd (st1.step (ext_X e1 ex nx)) xr
        | ok d outs =>
          rw [ef] at m
          cases d with
          | non =>
            match outs, m with
            | [w], m =>
              intro v G2 H2 ex oa r
              cases r
              refine ⟨rfl, ?_⟩
              have ea := ext_X e1 ex nx
              obtain ⟨u, hu, rp⟩ := rp_known oa.1.2 oa.1.1
              have ek := ea.know oa.1.1 nx hu (oa.1.2.nc hu).1
              exact m _ _ H2 (s1.and ek) (st1.step ek) rp
            | [], m => exact m.elim
            | _ :: _ :: _, m => exact m.elim
          | _ => exact m.elim
end Mi

end
section
set_option Elab.async false
set_option linter.all false
set_option maxRecDepth 100000
set_option autoImplicit false
set_option maxHeartbeats 4000000
namespace Mi
open PySem PySem.Spec PyProof.Rows L2
theorem all1 {α : Type} {p : α → Prop} {a : α} (h : p a) : ∀ c ∈ [a], p c := fun c hc => by
  rw [show c = a by simpa using hc]
  exact h
theorem all0 {α : Type} {p : α → Prop} : ∀ c ∈ ([] : List α), p c := fun c hc => by cases hc
/-- a class that is made by calling it -/
structure MkC (P : Program) (w : World) (K : PySem.W.Frag) (mg : Str → Option Value) (base : Heap) (cm : CM) (fld : Str → Str) (c : Str) (k n : Nat) (f : List D → Fr) : Prop where
  ex : ∃ g fd ps, FnOk P w K mg base (L2.CX P w) k g fd ps (spM K cm fld n [0] f) ∧ Mk K (cm c) g ∧ mg c = some (.ref (cm c)) ∧ Binds K fd ps []
/-- a method -/
structure MtC (P : Program) (w : World) (K : PySem.W.Frag) (mg : Str → Option Value) (base : Heap) (cm : CM) (fld : Str → Str) (c m : Str) (k n : Nat) (own : List Nat) (f : List D → Fr) : Prop where
  ex : ∃ g fd ps, FnOk P w K mg base (L2.CX P w) k g fd ps (spM K cm fld n own f) ∧ PySem.W.findIn K (.ref (cm c)) m = some (some (.ref g)) ∧ PySem.W.isFn K (.ref g) = true ∧ PySem.W.keepIn K (.ref g) = true ∧ PySem.W.typeIn K (.ref g) = some (.type "function") ∧ Binds K fd ps []
section
variable {X : Cx} {C : Sc} {O O1 : List Nat} {a b e : Expr} {fa fb : Ex} {pos p p2 : Pos} {i : Nat} {c m : Str} {es : List Expr} {fs : List Ex} {f : List D → Fr} {k j n : Nat}
theorem d_mk (x : MkC X.prog X.w X.K X.mg X.base C.F.cm C.fld c k n f) (hK : C.F.K = X.K) (hr : Room j X.A) (hk : k + 1 ≤ j) (tk : Takes X C.W) (E : XK) (hW : ∀ cls d σ H, C.W cls d σ H = E cls d H) (ha : PA X (a :: es) (tA C O (eL fs))) (hn : fs.length + 1 = n) (hg : Gl X c := by rfl) (hdb : (c == ("__debug__" : Str)) = false := by decide)
    (he : starEach (a :: es) X.env = (false, eval a X.env) :: starEach es X.env := by rfl) (hpl : (backTo pos (starEach es X.env)).any (·.1) = false := by rfl) : PE X (.Call (.Name c p) (a :: es) [] pos) (tD C O (eMake c f fs)) := by
  obtain ⟨g, fd, ps, F, M, hm, hb⟩ := x.ex
  rw [← hK] at F
  exact d_make (hK ▸ F) hK M hr hk hm hb tk E hW ha hn hg hdb he hpl
theorem d_len (x : MtC X.prog X.w X.K X.mg X.base C.F.cm C.fld c "__len__" k 1 [] f) (hK : C.F.K = X.K) (hr : Room j X.A) (hk : k + 1 ≤ j) (hm : X.mg "len" = none) (ha : PE X a (tD C O fa)) (hg : Gl X "len" := by rfl) (he : starEach [a] X.env = (false, eval a X.env) :: starEach [] X.env := by rfl) (hpl : (backTo pos (starEach [] X.env)).any (·.1) = false := by rfl) :
    PE X (.Call (.Name "len" p) [a] [] pos) (tD C O (e1 (lenO c f) fa)) := by
  obtain ⟨g, fd, ps, F, h1, h2, h3, h4, hb⟩ := x.ex
  rw [← hK] at F
  exact d_lenO (hK ▸ F) hr hk hb ⟨h1, h4⟩ hm ha hg he hpl
end
theorem mt_mk {P : Program} {w : World} {K : PySem.W.Frag} {mg : Str → Option Value} {base : Heap} {cm : CM} {fld : Str → Str} {c mth x qual : Str} {st : Stmt} {g : Addr} {fd : FuncData} {N ps : List Str} {k n p : Nat} {own : List Nat} {m : Sm} (F : Fun K x qual st g fd)
    (h1 : PySem.W.findIn K (.ref (cm c)) mth = some (some (.ref g))) (h2 : PySem.W.isFn K (.ref g) = true) (h4 : PySem.W.typeIn K (.ref g) = some (.type "function")) (hb : Binds K fd ps []) (S : FnScope N ps (defScope st)) (hn : N.length = n) (hp : ps.length = p) (hpn : p ≤ n) (O' : List Nat)
    (hbody : ∀ (cdv : Value) (cd : fd.code = cdv) (A : Around) (outer : List PySem.Env) (s : Shared) (H G : Hp) (E : XK) (as : List Addr), Room k (A.deeper (envOfC qual (defScope st) s.heap.objs.size g cdv)) →
      PSs (cxOf (L2.CX P w) P w K mg base N qual (defScope st) g cdv A outer s H E) (defBody st) (tS ⟨⟨K, cm, G, H, n, own, as, [], []⟩, fun cls d _ H => E cls d H, fld, fun _ => True, [], false⟩ own O' m)) :
    MtC P w K mg base cm fld c mth (k + 1) p own (fnM n p own m) := ⟨g, fd, ps, fn_mir F S hn hp hpn O' hbody, h1, h2, F.kp, h4, hb⟩
theorem mk_mk {P : Program} {w : World} {K : PySem.W.Frag} {mg : Str → Option Value} {base : Heap} {cm : CM} {fld : Str → Str} {c x qual : Str} {st : Stmt} {g : Addr} {fd : FuncData} {N ps : List Str} {k n p : Nat} {m : Sm} (F : Fun K x qual st g fd) (M : Mk K (cm c) g) (hm : mg c = some (.ref (cm c)))
    (hb : Binds K fd ps []) (S : FnScope N ps (defScope st)) (hn : N.length = n) (hp : ps.length = p) (hpn : p ≤ n) (O' : List Nat)
    (hbody : ∀ (cdv : Value) (cd : fd.code = cdv) (A : Around) (outer : List PySem.Env) (s : Shared) (H G : Hp) (E : XK) (as : List Addr), Room k (A.deeper (envOfC qual (defScope st) s.heap.objs.size g cdv)) →
      PSs (cxOf (L2.CX P w) P w K mg base N qual (defScope st) g cdv A outer s H E) (defBody st) (tS ⟨⟨K, cm, G, H, n, [0], as, [], []⟩, fun cls d _ H => E cls d H, fld, fun _ => True, [], false⟩ [0] O' m)) :
    MkC P w K mg base cm fld c (k + 1) p (fnM n p [0] m) := ⟨g, fd, ps, fn_mir F S hn hp hpn O' hbody, M, hm, hb⟩
end Mi

end
section
set_option Elab.async false
set_option linter.all false
set_option maxRecDepth 100000
set_option autoImplicit false
set_option maxHeartbeats 4000000
/-! t[::-1], lists and tuples -/
namespace Mi
open PySem PySem.Spec PyProof.Rows L2
section
variable {prog : Program} {w : World} {A : Around} {E : Value → Shared → Prop} {s : Shared}
theorem sl_rev_ap {q : Addr} {n : Nat} {t : Tok} {Q : Int × Int × Nat → Shared → Prop} (hq : s.heap.IsSliceOf q .none .none (.int (-1) t)) (h : Q ((n : Int) - 1, -1, n) s) : wpAny (model prog w) A (Builtin.Slice.sliceApplied (.ref q) (pure (n : Int))) Q E s := by
  obtain ⟨ob, g1, g2, g3⟩ := id hq
  unfold Builtin.Slice.sliceApplied Builtin.Slice.sliceFields
  refine wpAny_bind (wpAny_bind (wpAny_field g1 g3 (x := .none) rfl (wpAny_bind (wpAny_field g1 g3 (x := .none) rfl (wpAny_bind (wpAny_field g1 g3 (x := .int (-1) t) rfl (wpAny_pure ?_)))))))
  refine wpAny_bind (HT.slicePart_ (.int (-1) t) ?_)
  show wpAny _ _ (if ((-1 : Int) == 0) = true then _ else _) _ _ s
  rw [if_neg (by decide)]
  refine wpAny_bind (HT.slicePart_ .none (wpAny_bind (HT.slicePart_ .none (wpAny_bind (wpAny_pure ?_)))))
  show wpAny _ _ (pure ((n : Int) - 1, (-1 : Int), Builtin.Slice.slicePlaces ((n : Int) - 1) (-1) (-1))) _ _ s
  have e : Builtin.Slice.slicePlaces ((n : Int) - 1) (-1) (-1) = n := by
    unfold Builtin.Slice.slicePlaces
    rw [if_neg (by decide)]
    by_cases hn : n = 0
    · subst hn; rfl
    · rw [if_pos (by omega), show -(-1 : Int) = 1 by rfl, Int.ediv_one]
      omega
  rw [e]
  exact wpAny_pure h
theorem pick_rev (xs : Array Value) : ((List.range xs.size).filterMap fun (m : Nat) => xs[(((xs.size : Int) - 1) + (m : Int) * -1).toNat]?).toArray = xs.toList.reverse.toArray := by
  congr 1
  have cg : ∀ (l : List Nat) (f g : Nat → Option Value), (∀ m ∈ l, f m = g m) → l.filterMap f = l.filterMap g := by
    intro l f g
    induction l with
    | nil => intro _; rfl
    | cons a l ih =>
      intro h
      rw [List.filterMap_cons, List.filterMap_cons, h a List.mem_cons_self, ih fun m hm => h m (List.mem_cons_of_mem _ hm)]
  rw [cg _ _ (fun m => xs.toList.reverse[m]?) fun m hm => by
    have hm : m < xs.size := List.mem_range.mp hm
    have e1 : (((xs.size : Int) - 1) + (m : Int) * -1).toNat = xs.size - 1 - m := by omega
    rw [e1, List.getElem?_reverse (by simpa using hm)]
    simp]
  have key : ∀ l : List Value, (List.range l.length).filterMap (fun m => l[m]?) = l := by
    intro l
    induction l with
    | nil => rfl
    | cons a l ih =>
      rw [List.length_cons, List.range_succ_eq_map, List.filterMap_cons]
      simp only [List.getElem?_cons_zero, List.filterMap_map]
      congr 1
  have := key xs.toList.reverse
  rw [List.length_reverse, Array.length_toList] at this
  exact this
theorem tup_rev {a q : Addr} {its : Array Value} {t : Tok} {Q : Value → Shared → Prop} (tp : IsTup s.heap a its) (hq : s.heap.IsSliceOf q .none .none (.int (-1) t)) (hz : its.size ≤ sizeLine)
    (h : Q (.ref s.heap.objs.size) { s with heap := s.heap.push { cls := .type "tuple", data := .seq its.toList.reverse.toArray } }) : wpAny (model prog w) A (getItem (.ref a) (.ref q)) Q E s := by
  have fits : sizeOk (.seq its.toList.reverse.toArray) := by
    show its.toList.reverse.toArray.size ≤ sizeLine
    simpa using hz
  obtain ⟨ob, g1, g2, g3⟩ := id hq
  have tyq : s.TypeIs (.ref q) "slice" := ⟨ob, g1, g2⟩
  unfold getItem
  try with_reducible refine wpAny_holding ?_
  first | refine wpAny_bind (wpAny_pure ?_) | skip
  refine wpAny_bind (wpAny_sequenceKey tp.typeIs (by decide) ?_)
  refine wpAny_bind (wpAny_callSpecial?_slot (name := Str.ofString "__getitem__") tp.typeIs PyProof.Rows.slot_tuple_getitem
    (wpAny_call_entry PyProof.Rows.slot_tuple_getitem tp.typeIs entry_tuple_getitem ?_ (args_tuple_getitem _ _)))
  show wpAny _ _ (Builtin.Tuple.tupleItemsOf (.ref a) >>= _) _ _ s
  refine wpAny_bind (tupleItemsOf_ tp (wpAny_bind (wpAny_typeOf tyq ?_)))
  rw [if_pos (by decide)]
  refine wpAny_bind (sl_rev_ap (n := its.size) hq ?_)
  show wpAny _ _ (if ((((its.size : Int) - 1) == 0) && ((-1 : Int) == 1) && (its.size == its.size)) = true then _ else _) _ _ s
  rw [if_neg (by simp), pick_rev]
  first
    | exact wpAny_bind (m := Builtin.Tuple.tupleExact _) (wpAny_newObj_type (wpAny_pure ⟨_, rfl, wpAny_pure h⟩) fits)
    | exact wpAny_bind (m := Builtin.Tuple.tupleExact _) (wpAny_newObj_type (wpAny_bind (wpAny_pure (wpAny_pure ⟨_, rfl, wpAny_pure h⟩))) fits)
    | exact wpAny_bind (wpAny_bind (m := Builtin.Tuple.tupleExact _) (wpAny_newObj_type (wpAny_pure (wpAny_pure ⟨_, rfl, wpAny_pure h⟩)) fits))
    | exact wpAny_bind (wpAny_bind (m := Builtin.Tuple.tupleExact _) (wpAny_newObj_type (wpAny_pure ⟨_, rfl, wpAny_pure h⟩) fits))
end
def rRevS (K : PySem.W.Frag) : V → Hp → VK → Prop := fun x H Q => ∃ a xs, x = .ref a ∧ ((SqL K H a xs ∧ ∀ p, H p = none → Q (.ref p) (upd H p (.lst xs.reverse))) ∨ (SqT K H a xs ∧ NewT H xs.reverse Q))
theorem pe_rev {X : Cx} {e : Expr} {te : TE} {k : Nat} {p1 p2 p3 pos : Pos} (he : PE X e te) : PE X (.Subscript e (.Slice none none (some (.UnaryOp .USub (.Constant (.int 1) k p1) p2)) p3) pos) (tUn (rRevS X.K) te) := by
  refine ⟨fun pins s σ H Q I h => Subscript_ (thn (he.run pins s σ H _ I h) fun v s1 ⟨x, H1, I1, r1, a, xs, ex, q1⟩ => ?_)⟩
  subst ex
  cases r1
  have pst : PO X (some (.UnaryOp .USub (.Constant (.int 1) k p1) p2)) (tPart (tUn (rU fun i => .int (-i)) (tC (.int 1)))) := po_some (pe_un un_neg pe_int)
  refine wpAny_Slice (thn (po_none.run pins s1 σ H1 (fun o H2 => o = none ∧ H2 = H1) I1 ⟨rfl, rfl⟩) fun vl s2 ⟨_, H2, I2, pl, ⟨el, e2⟩⟩ => ?_)
  subst el e2
  refine thn (po_none.run pins s2 σ H2 (fun o H3 => o = none ∧ H3 = H2) I2 ⟨rfl, rfl⟩) fun vu s3 ⟨_, H3, I3, pu, ⟨eu, e3⟩⟩ => ?_
  subst eu e3
  refine thn (pst.run pins s3 σ H3 (fun o H4 => o = some (-1) ∧ H4 = H3) I3 ⟨1, rfl, -1, rfl, rfl, rfl⟩) fun vs s4 ⟨_, H4, I4, ps, ⟨eo, e4⟩⟩ => ?_
  subst eo e4
  cases pl
  cases pu
  cases ps with
  | int _ t =>
    let s5 : Shared := { s4 with heap := s4.heap.push { cls := .type "slice", data := .fields #[.none, .none, .int (-1) t] } }
    have I5 : Inv X pins σ H4 s5 := I4.kept (t' := s4.toks) fun b ob q => Heap.get?_push_of_some _ q
    show wpAny (model X.prog X.w) X.A (subscriptTail e (.Slice none none (some (.UnaryOp .USub (.Constant (.int 1) k p1) p2)) p3) (.ref a) (.ref s4.heap.objs.size)) (EP X pins σ Q) X.xe s5
    rcases q1 with ⟨hx, q⟩ | ⟨hx, q⟩
    · obtain ⟨its, r, tl, hz⟩ := I5.list hx
      have hlen := r.length
      refine tail_any (ops := [.ref a, .ref s4.heap.objs.size]) tl.isList.typeIs PySem.slot_list_getitem.lookup ?_ (by with_unfolding_all rfl)
      refine wpAny_getItem_list_slice tl.isList (Heap.IsSliceOf.new _ _ _ _) .none .none (.int (-1) t) (by decide) ?_ (by rw [List.size_toArray]; omega)
      rw [PySem.W.krv_pick]
      exact ⟨.ref _, _, I5.laid (t' := s5.toks) (o := .lst xs.reverse) (fun b ob q => Heap.get?_push_of_some _ q) (Nat.le_refl _) ⟨by rw [List.length_reverse]; exact hz, _, 0, r.reverse, Heap.get?_push_size _ rfl⟩, rfl, q _ (I5.hok.fresh (Nat.le_refl _))⟩
    · obtain ⟨its, r, tp, hz⟩ := I5.tuple hx
      have hlen := r.length
      refine tail_any (ops := [.ref a, .ref s4.heap.objs.size]) tp.typeIs PyProof.Rows.slot_tuple_getitem.lookup ?_ (by with_unfolding_all rfl)
      refine tup_rev tp (Heap.IsSliceOf.new _ _ _ _) (by rw [List.size_toArray]; omega) ?_
      exact new_tup (s := s5) (h' := s5.heap) (t' := s5.toks) I5 (fun _ _ z => z) (Nat.le_refl _) (r.reverse) (by rw [List.length_reverse]; exact hz) q
def revD : D → Option D
  | .lst xs => some (.lst xs.reverse)
  | .tup xs => some (.tup xs.reverse)
  | _ => none
theorem Rps.rev {K : PySem.W.Frag} {cm : CM} {G : Hp} : ∀ {vs : List V} {ds : List D}, Rps K cm G vs ds → Rps K cm G vs.reverse ds.reverse
  | _, _, .nil => .nil
  | _, _, .cons r t => by
    rw [List.reverse_cons, List.reverse_cons]
    exact (Rps.rev t).app (.cons r .nil)
theorem a_revD {K : PySem.W.Frag} {cm : CM} : S1 K cm (rRevS K) revD := fun G H v d d' Q gh v1 ho (a : Ans K cm G H d' Q) => by
  cases d with
  | lst ds => cases ho; obtain ⟨p, ys, rfl, q, r⟩ := v1.lst gh; exact ⟨p, ys, rfl, .inl ⟨q, fun l n => a.lst gh r.rev n⟩⟩
  | tup ds => cases ho; obtain ⟨p, ys, rfl, q, r⟩ := v1.tup gh; exact ⟨p, ys, rfl, .inr ⟨q, a.tup gh r.rev⟩⟩
  | _ => cases ho
theorem d_rev {X : Cx} {C : Sc} {O : List Nat} {e : Expr} {fa : Ex} {k : Nat} {p1 p2 p3 pos : Pos} (he : PE X e (tD C O fa)) (hK : C.F.K = X.K := by rfl) : PE X (.Subscript e (.Slice none none (some (.UnaryOp .USub (.Constant (.int 1) k p1) p2)) p3) pos) (tD C O (e1 revD fa)) := d_1 a_revD (hK ▸ pe_rev (wk he))
end Mi

end
section
set_option Elab.async false
set_option linter.all false
set_option maxRecDepth 100000
set_option autoImplicit false
set_option maxHeartbeats 4000000
/-! defs that ask repr: their promise where no repr is under way -/
namespace Mi
open PySem PySem.Spec PyProof.Rows L2
/-- as FnOk, where no repr is under way -/
structure FnG (P : Program) (w : World) (K : PySem.W.Frag) (mg : Str → Option Value) (base : Heap) (CX : CXT) (k : Nat) (f : Addr) (fd : FuncData) (ps : List Str) (sp : Sp) : Prop where
  len : ∀ vs H Q E, sp vs H Q E → vs.length = ps.length
  run : ∀ (A : Around) (outer : List PySem.Env) (s : Shared) (H : Hp) (args : Args) (us : List Value) (vs : List V) (Q : VK) (E : XK), A.guards = some [] → Room k A → Env0 P w K mg base A outer s H → BindsTo s fd args (ps.zip us) → Vals vs us → sp vs H Q E →
    codeAny (model P w) A (.call (.ref f) args) (CR CX outer P w H s Q E) s
theorem Fun.okG {P : Program} {w : World} {K : PySem.W.Frag} {mg : Str → Option Value} {base : Heap} {x qual : Str} {st : Stmt} {g : Addr} {fd : FuncData} {N ps : List Str} {k : Nat} {sp : Sp} (F : Fun K x qual st g fd) (S : FnScope N ps (defScope st)) (ln : ∀ vs H Q E, sp vs H Q E → vs.length = ps.length)
    (bd : ∀ (cdv : Value) (cd : fd.code = cdv) (A : Around) (outer : List PySem.Env) (s : Shared) (H : Hp) (vs : List V) (Q : VK) (E : XK), A.guards = some [] → Room k (A.deeper (envOfC qual (defScope st) s.heap.objs.size g cdv)) → sp vs H Q E →
      ∃ t, PSs (cxOf (L2.CX P w) P w K mg base N qual (defScope st) g cdv A outer s H E) (defBody st) t ∧ t { nx := fun _ H' => Q .non H', rt := Q } (L2.start N vs) H) : FnG P w K mg base (L2.CX P w) (k + 1) g fd ps sp := by
  obtain ⟨oc, od, kV, doc, pm, an, cdv, ct, osl, rfl, lk, code⟩ := F.ex
  refine ⟨ln, fun A outer s H args us vs Q E hg room env bnd rel hs => ?_⟩
  have kIn : K.In s.heap := env.mod.kin.keeps fun b o e => (env.bs b o e).1
  have nolim : s.heap.NoLimit := env.mod.nolimit.keeps fun b o e => (env.bs b o e).1
  have kinds : ∀ y ∈ ps.zip us, (defScope st).names.lookup y.1 = some .local ∨ ((defScope st).names.lookup y.1 = some .cell ∧ ((cellsFrom (s.heap.objs.size + 1) (defScope st).names []).lookup y.1).isSome = true) := fun ⟨n, v⟩ hy => (S.par n (List.of_mem_zip hy).1).imp id fun q => ⟨q, PySem.W.cellsFrom_some _ _ _ (.inl q)⟩
  refine codeAny_call_function room.depth (kIn _ _ lk) rfl S.co S.gen rfl (PySem.W.codeRec_of kIn code) (bnd _ _ _ _ (wpAny_newFunctionEnv_cells S.kind kinds fun fe efe sx mk => ?_))
  subst efe
  obtain ⟨t, tt, tq⟩ := bd cdv rfl A outer s H vs Q E hg (room.deeper _) hs
  refine ⟨nolim.keeps mk.toInCall.keep, codeAny_func (wpAny_mono (tt.run [] sx (L2.start N vs) H _ (inv_start S room.hd env (ln _ _ _ _ hs) rel mk) tq) (fun fl s' hf => ?_) fun e s' he => he)⟩
  rcases fl with u | _ | _ | _
  all_goals first
    | (obtain ⟨v, σ', H', J, rv, q⟩ := hf; exact ⟨v, H', J.os, J.bare, J.base, J.hok, rv, q⟩)
    | (obtain ⟨σ', H', J, q⟩ := hf; exact ⟨V.non, H', J.os, J.bare, J.base, J.hok, rfl, q⟩)
    | (obtain ⟨_, _, _, q⟩ := hf; exact q.elim)
theorem fn_mirG {P : Program} {w : World} {K : PySem.W.Frag} {mg : Str → Option Value} {base : Heap} {cm : CM} {fld : Str → Str} {x qual : Str} {st : Stmt} {f : Addr} {fd : FuncData} {N ps : List Str} {k n p : Nat} {own : List Nat} {g : Sm} (F : Fun K x qual st f fd) (S : FnScope N ps (defScope st)) (hn : N.length = n) (hp : ps.length = p) (hpn : p ≤ n) (O' : List Nat)
    (hbody : ∀ (cdv : Value) (cd : fd.code = cdv) (A : Around) (outer : List PySem.Env) (s : Shared) (H G : Hp) (E : XK) (as : List Addr), A.guards = some [] → Room k (A.deeper (envOfC qual (defScope st) s.heap.objs.size f cdv)) →
      PSs (cxOf (L2.CX P w) P w K mg base N qual (defScope st) f cdv A outer s H E) (defBody st) (tS ⟨⟨K, cm, G, H, n, own, as, [], []⟩, fun cls d _ H => E cls d H, fld, fun _ => True, [], false⟩ own O' g)) :
    FnG P w K mg base (L2.CX P w) (k + 1) f fd ps (spM K cm fld p own (fnM n p own g)) := by
  subst hn hp
  refine Fun.okG F S (fun vs H Q E h => ?_) (fun cdv cd A outer s H vs Q E hg hr h => ?_)
  · obtain ⟨G, ds, as, hl, _⟩ := h
    exact hl
  · obtain ⟨G, ds, as, hl, hla, st0, m⟩ := h
    refine ⟨_, hbody cdv cd A outer s H G E as hg hr, G, startE N.length ds, st0.start hla hpn, ?_⟩
    have hld : ds.length = ps.length := by simpa using st0.le
    have hS : (Fm.S ⟨K, cm, G, H, N.length, own, as, [], []⟩) = as := zip_snd hla
    unfold fnM at m
    rw [if_pos hld] at m
    cases e : g (startE N.length ds) with
    | nx δ' =>
      rw [e] at m
      cases eo : outsOf own δ' with
      | none => simp only [eo] at m
      | some o =>
        simp only [eo] at m
        intro σ' G' H' s1 st1
        have rs := st1.ret
        have ex := rs.1
        rw [hS] at ex
        exact m .non G' H' ex (outs_of hla rs.2 eo) .non
    | rt d δ' =>
      rw [e] at m
      cases eo : outsOf own δ' with
      | none => simp only [eo] at m
      | some o =>
        simp only [eo] at m
        intro v G' H' rs rv _
        have ex := rs.1
        rw [hS] at ex
        exact m v G' H' ex (outs_of hla rs.2 eo) rv
    | exc c d δ' =>
      rw [e] at m
      intro O'' σ' G' H' cls dd _ st1 x
      have ex := st1.ext
      rw [hS] at ex
      exact m G' H' cls dd ex x
    | bk δ' => rw [e] at m; exact m.elim
    | ct δ' => rw [e] at m; exact m.elim
    | bad => rw [e] at m; exact m.elim
section
variable {X : Cx} {C : Sc} {O : List Nat} {a b e : Expr} {fa fb : Ex} {pos p p2 : Pos} {i : Nat} {c m x : Str} {es : List Expr} {fs : List Ex} {f : List D → Fr} {k j n : Nat} {t : TA} {g : Addr} {fd : FuncData} {ps : List Str} {sp : Sp} {E : L2.St → XK} {CX : CXT}
theorem pe_callG (F : FnG X.prog X.w X.K X.mg X.base CX k g fd ps sp) (gd : X.A.guards = some []) (hr : Room k X.A) (hg : Gl X x) (hm : X.mg x = some (.ref g)) (hk : PySem.W.keepIn X.K (.ref g) = true) (hb : Binds X.K fd ps []) (hx : ∀ σ, PassesAt CX X σ (E σ)) (ha : PA X (e :: es) t) (hdb : (x == ("__debug__" : Str)) = false := by decide)
    (he : starEach (e :: es) X.env = (false, eval e X.env) :: starEach es X.env := by rfl) (hpl : (backTo pos (starEach es X.env)).any (·.1) = false := by rfl) : PE X (.Call (.Name x p) (e :: es) [] pos) (tCallS sp E t) := by
  refine ⟨fun pins s σ H Q I h => wpAny_Call_Name_kw (ld_glob I hg hm (PySem.W.callWith_K (h₀ := X.base) I.ok.mod.kin hk (thn (ha.run pos pins s σ H _ I h) fun us s1 ⟨vs, H1, I1, r, q⟩ => ⟨I1.kIn, ?_⟩) he hpl) hdb)⟩
  have hl : us.length = ps.length := by rw [← r.length]; exact F.len _ _ _ _ q
  refine wpAny_call (codeAny_mono (F.run X.A X.stack s1 H1 ⟨us, []⟩ us vs Q (E σ) gd hr I1.env0 (by simpa using hb s1 us I1.kIn (by simpa using hl)) r q) fun rr s' hq => ?_)
  rcases rr with er | fl
  · exact hx σ pins H1 s1 er s' I1 hq
  · cases fl with
    | ret u => exact I1.after hq
    | next => exact False.elim hq
    | brk => exact False.elim hq
    | cont => exact False.elim hq
end
structure CalG (P : Program) (w : World) (K : PySem.W.Frag) (mg : Str → Option Value) (base : Heap) (cm : CM) (fld : Str → Str) (x : Str) (k n : Nat) (own : List Nat) (f : List D → Fr) : Prop where
  ex : ∃ g fd ps, FnG P w K mg base (L2.CX P w) k g fd ps (spM K cm fld n own f) ∧ mg x = some (.ref g) ∧ PySem.W.keepIn K (.ref g) = true ∧ Binds K fd ps []
section
variable {X : Cx} {C : Sc} {O : List Nat} {a : Expr} {fa : Ex} {pos p : Pos} {i : Nat} {x : Str} {es : List Expr} {fs : List Ex} {f : List D → Fr} {k j n : Nat}
theorem d_calG (c : CalG X.prog X.w X.K X.mg X.base C.F.cm C.fld x k n [] f) (hK : C.F.K = X.K) (gd : X.A.guards = some []) (hr : Room j X.A) (hk : k ≤ j) (tk : Takes X C.W) (ha : PA X (a :: es) (tA C O (eL fs))) (hn : fs.length = n) (hg : Gl X x := by rfl) (hdb : (x == ("__debug__" : Str)) = false := by decide)
    (he : starEach (a :: es) X.env = (false, eval a X.env) :: starEach es X.env := by rfl) (hpl : (backTo pos (starEach es X.env)).any (·.1) = false := by rfl) : PE X (.Call (.Name x p) (a :: es) [] pos) (tD C O (eCall f fs)) := by
  obtain ⟨g, fd, ps, F, hm, kp, hb⟩ := c.ex
  rw [← hK] at F
  exact pe_imp (pe_callG (hK ▸ F) gd (hr.mono hk) hg hm kp hb (fun σ => passAt tk σ) ha hdb he hpl) fun σ H Q h => r_call hn h
theorem d_calGO (c : CalG X.prog X.w X.K X.mg X.base C.F.cm C.fld x k n [0] f) (hK : C.F.K = X.K) (gd : X.A.guards = some []) (hr : Room j X.A) (hk : k ≤ j) (tk : Takes X C.W) (hi : i ∈ O) (ha : PA X (a :: es) (tCons (tVar i) (tA C O (eL fs)))) (hn : fs.length + 1 = n) (hg : Gl X x := by rfl) (hdb : (x == ("__debug__" : Str)) = false := by decide)
    (he : starEach (a :: es) X.env = (false, eval a X.env) :: starEach es X.env := by rfl) (hpl : (backTo pos (starEach es X.env)).any (·.1) = false := by rfl) : PE X (.Call (.Name x p) (a :: es) [] pos) (tD C O (eCallO f i fs)) := by
  obtain ⟨g, fd, ps, F, hm, kp, hb⟩ := c.ex
  rw [← hK] at F
  exact pe_imp (pe_callG (hK ▸ F) gd (hr.mono hk) hg hm kp hb (fun σ => passAt tk σ) ha hdb he hpl) fun σ H Q h => r_callO hi hn h
theorem d_calGN (c : CalG X.prog X.w X.K X.mg X.base C.F.cm C.fld x k n [0] f) (hK : C.F.K = X.K) (gd : X.A.guards = some []) (hr : Room j X.A) (hk : k ≤ j) (tk : Takes X C.W) (ha : PA X (a :: es) (tCons (tN C O fa) (tA C O (eL fs)))) (hn : fs.length + 1 = n) (hg : Gl X x := by rfl) (hdb : (x == ("__debug__" : Str)) = false := by decide)
    (he : starEach (a :: es) X.env = (false, eval a X.env) :: starEach es X.env := by rfl) (hpl : (backTo pos (starEach es X.env)).any (·.1) = false := by rfl) : PE X (.Call (.Name x p) (a :: es) [] pos) (tD C O (eCallN f fa fs)) := by
  obtain ⟨g, fd, ps, F, hm, kp, hb⟩ := c.ex
  rw [← hK] at F
  exact pe_imp (pe_callG (hK ▸ F) gd (hr.mono hk) hg hm kp hb (fun σ => passAt tk σ) ha hdb he hpl) fun σ H Q h => r_callN (es := es) hn h
end
theorem calG_mk {P : Program} {w : World} {K : PySem.W.Frag} {mg : Str → Option Value} {base : Heap} {cm : CM} {fld : Str → Str} {x qual : Str} {st : Stmt} {g : Addr} {fd : FuncData} {N ps : List Str} {k n p : Nat} {own : List Nat} {m : Sm} (F : Fun K x qual st g fd) (hm : mg x = some (.ref g)) (hb : Binds K fd ps [])
    (S : FnScope N ps (defScope st)) (hn : N.length = n) (hp : ps.length = p) (hpn : p ≤ n) (O' : List Nat)
    (hbody : ∀ (cdv : Value) (cd : fd.code = cdv) (A : Around) (outer : List PySem.Env) (s : Shared) (H G : Hp) (E : XK) (as : List Addr), A.guards = some [] → Room k (A.deeper (envOfC qual (defScope st) s.heap.objs.size g cdv)) →
      PSs (cxOf (L2.CX P w) P w K mg base N qual (defScope st) g cdv A outer s H E) (defBody st) (tS ⟨⟨K, cm, G, H, n, own, as, [], []⟩, fun cls d _ H => E cls d H, fld, fun _ => True, [], false⟩ own O' m)) :
    CalG P w K mg base cm fld x (k + 1) p own (fnM n p own m) := ⟨g, fd, ps, fn_mirG F S hn hp hpn O' hbody, hm, F.kp, hb⟩
/-! ### repr -/
noncomputable def showO (d : D) : Option Str := if d.py.canLay0 && (d.py.showable && (!d.py.hasDict && (decide (d.py.depth ≤ 64) && decide (d.py.shown.length ≤ cap)))) then some d.py.shown else none
def emptyB : D → Bool
  | .dic [] => true
  | _ => false
noncomputable def reprD (d : D) : Option D := if emptyB d then some (.str "{}") else (showO d).map .str
def rRepr (K : PySem.W.Frag) : List V → Hp → VK → Prop := fun xs H Q => (∃ a, xs = [.ref a] ∧ Rd H a (.dK []) ∧ Q (.str "{}") H) ∨ ∃ x d, xs = [x] ∧ Dp K H x d ∧ d.showable = true ∧ d.hasDict = false ∧ d.depth ≤ 64 ∧ d.shown.length ≤ sizeLine ∧ Q (.str d.shown) H
theorem call_reprD {X : Cx} (gd : X.A.guards = some []) (hu : X.A.units + 68 < cLine) : CallR X (.builtin "repr") (rRepr X.K) := by
  rintro pins s σ H xs us Q I r (⟨a, ex, hd, q⟩ | ⟨x, d, ex, hd, hs, hn, h64, hz, q⟩)
  · subst ex
    obtain ⟨u, rfl, ru⟩ := vals1 r
    cases ru
    obtain ⟨_, ns, kv, rk, dc⟩ := rd_of I.hok hd
    cases rk
    obtain ⟨o, es, ep, e1, e2, e3, _, e4, _⟩ := dc
    have hes : es.toList = [] := List.length_eq_zero_iff.mp e4.length
    have hc : o.cls = .type "dict" := e2.1
    have rd : Reads s.heap (.ref a) (.dict []) (a :: [] ++ []) := .dict e1 hc e3 (by rw [hes]; exact .nil) (by rw [hes]; exact .nil)
    exact repr_of_reads' rd (by rfl) (fun _ z => by
      have : sysModules = a := by simpa using z
      rw [this] at ns
      simp at ns) gd (by show X.A.units + (_ + 1) < cLine; have : (PyData.dict []).depth ≤ 60 := by decide
                         omega) (fun _ _ z => z) (fun h' u tk k => ⟨.str "{}", H, I.kept (t' := tk) k, ⟨u, rfl⟩, q⟩) (by decide)
  subst ex
  obtain ⟨u, rfl, ru⟩ := vals1 r
  obtain ⟨as, rd⟩ := Dp.reads I d x u hd ru
  have fin : ∀ h' u tk, (∀ b o, s.heap.get? b = some o → h'.get? b = some o) → EP X pins σ Q (.str d.shown u) { s with heap := h', toks := tk } := fun h' u tk k => ⟨.str d.shown, H, I.kept (t' := tk) k, ⟨u, rfl⟩, q⟩
  have far : X.A.units + (d.depth + 1) < cLine := by omega
  cases hd with
  | non => cases ru; exact PySem.P.repr_of_none (fin s.heap s.toks _ fun _ _ z => z)
  | bl b => cases ru; exact PySem.P.repr_of_bool (fin s.heap s.toks _ fun _ _ z => z)
  | int i => obtain ⟨t, rfl⟩ := ru; exact PySem.P.repr_of_int (of_decide_eq_true hs) (fin s.heap s.toks _ fun _ _ z => z)
  | str y => obtain ⟨t, rfl⟩ := ru; exact PySem.P.repr_of_str (fin s.heap s.toks _ fun _ _ z => z) hz
  | lst _ _ => cases ru; exact repr_of_reads' rd hs (fun z => by rw [hn] at z; cases z) gd far (fun _ _ z => z) fin hz
  | tup _ _ => cases ru; exact repr_of_reads' rd hs (fun z => by rw [hn] at z; cases z) gd far (fun _ _ z => z) fin hz
theorem a_reprD {K : PySem.W.Frag} {cm : CM} : S1 K cm (fun v H Q => rRepr K [v] H Q) reprD := fun G H v d d' Q gh v1 ho (a : Ans K cm G H d' Q) => by
  unfold reprD at ho
  split at ho
  · rename_i he
    cases ho
    have ed : d = .dic [] := by
      cases d with
      | dic ds => cases ds with
        | nil => rfl
        | cons _ _ => cases he
      | _ => cases he
    subst ed
    rcases v1 with h | ⟨p, rfl, kvs, q, r⟩
    · cases h with
      | dic q r => cases r; exact .inl ⟨_, rfl, same_rd gh q, a.now gh (.str _)⟩
    · cases r
      exact .inl ⟨p, rfl, .of q, a.now gh (.str _)⟩
  refine .inr ?_
  unfold showO at ho
  split at ho
  · rename_i c
    cases ho
    simp only [Bool.and_eq_true, decide_eq_true_eq, Bool.not_eq_true'] at c
    exact ⟨v, d.py, rfl, (v1.full gh).dp c.1, c.2.1, c.2.2.1, c.2.2.2.1, Nat.le_trans c.2.2.2.2 cap_le, a.now gh (.str _)⟩
  · cases ho
theorem d_repr {X : Cx} {C : Sc} {O : List Nat} {a : Expr} {fa : Ex} {pos p : Pos} {k : Nat} (hK : C.F.K = X.K) (gd : X.A.guards = some []) (hr : Room k X.A) (hm : X.mg "repr" = none) (ha : PE X a (tW C O fa)) (hg : Gl X "repr" := by rfl) (he : starEach [a] X.env = (false, eval a X.env) :: starEach [] X.env := by rfl) (hpl : (backTo pos (starEach [] X.env)).any (·.1) = false := by rfl) :
    PE X (.Call (.Name "repr" p) [a] [] pos) (tD C O (e1 reprD fa)) := b_1 (hK ▸ a_reprD) (pe_callB (call_reprD gd (by have := hr.un; omega)) hg hm PyProof.Rows.boot_repr (pa_cons ha pa_nil he) (by decide) (by decide) he hpl)
/-! ### the end of a law whose def asks repr -/
theorem law_callG {P : Program} {w : World} {K : PySem.W.Frag} {mg mb : Str → Option Value} {CX : CXT} {k : Nat} {fa a : Addr} {fd : FuncData} {x : Str} {sp : Sp} {s : Shared} {vs : List Value} {ns : List Int} (kIn : K.In s.heap) (hg : s.heap.Ns mainGlobals mg) (hb : s.heap.Ns builtinsNs mb) (hv : ∀ x : Str, x ≠ "__name__" → mb x = bootBuiltins x)
    (hlim : s.heap.NoLimit) (gens : s.gens = #[]) (ha : s.heap.get? a = some { cls := .type "list", data := .seq vs.toArray }) (hi : IntsAre vs ns) (hl : ns.length ≤ sizeLine) (room : Room k callerA) (F : ∀ base : Heap, K.In base → base.Ns mainGlobals mg → FnG P w K mg base CX k fa fd [x] sp)
    (bnd : ∀ (s : Shared) (u : Value), BindsTo s fd ⟨[u], []⟩ [(x, u)]) (hsp : ∀ H : Hp, Only H → SqL K H a (ns.map V.int) → sp [.ref a] H (fun v _ => v = .bl true) fun _ _ _ => False) (hCX : ∀ H e s', CX [] H s (fun _ _ _ => False) e s' → False) :
    codeAny (model P w) callerA (.call (.ref fa) ⟨[.ref a], []⟩) (fun r s' => r = .ok (.ret (.bool true)) ∧ OldK s.heap s'.heap ∧ s'.os = s.os ∧ AllBare s'.gens) s := by
  have vals := vals_ints hi
  have lens := hi.length
  have main : ∀ H : Hp, Only H → SqL K H a (ns.map V.int) → HOk P w H s.heap → (∀ b, H b ≠ none → b = a) → (H a ≠ none → K.lookup a = none) → codeAny (model P w) callerA (.call (.ref fa) ⟨[.ref a], []⟩) (fun r s' => r = .ok (.ret (.bool true)) ∧ OldK s.heap s'.heap ∧ s'.os = s.os ∧ AllBare s'.gens) s := by
    intro H only sq ok one away
    have off : ∀ {b : Addr} {o : Obj} {es : Array DictEntry} {ep : Nat}, s.heap.get? b = some o → o.data = .dict es ep → H b = none := fun {b o es ep} e d => Classical.byContradiction fun z => by
      rw [one b z, ha] at e
      cases e
      cases (show Data.seq vs.toArray _ = Data.dict es ep from d)
    have spaces : ∀ {b : Addr} {m : Str → Option Value}, s.heap.Ns b m → (hidT s.heap H).Ns b m := fun {b m} ⟨o, es, ep, e, d, r⟩ => ⟨o, es, ep, hidT_get e (off e d), d, r⟩
    have kBase : K.In (hidT s.heap H) := fun b o e => hidT_get (kIn b o e) (Classical.byContradiction fun z => by
      have z1 := one b z
      subst z1
      rw [away z] at e
      cases e)
    have modK : Mod K mg (hidT s.heap H) := ⟨kBase, spaces hg, ⟨mb, spaces hb, hv⟩, let ⟨mc, h1, h2⟩ := hlim; ⟨mc, spaces h1, h2⟩⟩
    have env : Env0 P w K mg (hidT s.heap H) callerA [] s H := ⟨rfl, modK, fun b o e => of_hidT e, Nat.le_of_eq (hidT_size _ _), trivial, fun b hb => absurd (show b ∈ ([] : List Addr) from hb) (by simp), ok, .of_eq gens⟩
    refine codeAny_mono ((F _ kBase (spaces hg)).run callerA [] s H ⟨[.ref a], []⟩ [.ref a] [.ref a] _ _ rfl room env (bnd s (.ref a)) (.cons rfl .nil) (hsp H only sq)) fun r s' hr => ?_
    rcases r with er | fl
    · exact (hCX H er s' hr).elim
    cases fl with
    | next => exact False.elim hr
    | brk => exact False.elim hr
    | cont => exact False.elim hr
    | ret u =>
      obtain ⟨v, H', os, bare, un, ok', ru, q⟩ := hr
      obtain rfl : v = .bl true := q
      obtain rfl : u = Value.bool true := ru
      refine ⟨rfl, OldK.of_keep fun b o e => ?_, os, bare⟩
      rcases only b with z | ⟨ob, xs, z⟩
      · exact un.keep b o e z (fun y => absurd (show b ∈ ([] : List Addr) from y) (by simp)) (by simp)
      · have z2 := un.frzs b ob _ z
        obtain ⟨e1, _⟩ := ok b _ z
        obtain ⟨e2, _⟩ := ok' b _ z2
        rw [e] at e1
        cases e1
        exact e2
  cases hk : K.lookup a with
  | some o =>
    have e := kIn a o hk
    rw [ha] at e
    cases e
    exact main (fun _ => none) (fun _ => .inl rfl) (.inr ⟨_, vs.toArray, _, hk, rfl, rfl, rfl, by rw [List.size_toArray, lens]; exact hl, by simpa using vals⟩) (fun b u z => nomatch (show (none : Option HO) = some u from z)) (fun b z => absurd rfl z) fun z => absurd rfl z
  | none =>
    let Hs : Hp := fun b => if b = a then some (.frz { cls := .type "list", data := .seq vs.toArray } (.lst (ns.map V.int))) else none
    have h1 : Hs a = some (.frz { cls := .type "list", data := .seq vs.toArray } (.lst (ns.map V.int))) := if_pos rfl
    have h2 : ∀ b, b ≠ a → Hs b = none := fun b z => if_neg z
    refine main Hs (fun b => ?_) (.inl (.inr ⟨_, h1⟩)) (fun b u z => ?_) (fun b z => Classical.byContradiction fun y => z (h2 b y)) fun _ => hk
    · by_cases y : b = a
      · exact .inr ⟨_, _, by rw [y]; exact h1⟩
      · exact .inl (h2 b y)
    · by_cases y : b = a
      · subst y
        rw [h1] at z
        cases z
        exact ⟨ha, by rw [List.length_map]; exact hl, vs, _, vals, ha⟩
      · rw [h2 b y] at z
        cases z
theorem walkG {l : PySem.W.OpenLaw} {n k : Nat} {q : Program} {loose : List Str} {XP : (Str → Option Value) → Heap → Prop} {YP : World → Heap → Prop} {d : DefRec} {K : Params → PySem.W.Frag} {CX : World → CXT} {sp : World → Sp} {x : Str} (hn : l.most = some n) (hn2 : n ≤ sizeLine) (hdf : d.params.defaults = []) (hr : Room k callerA)
    (hY : ∀ (w : World) (h : Heap), YP w h → (K w.params).In h) (F : ∀ (w : World) (mg : Str → Option Value) (fa : Addr) (h : Heap), (K w.params).In h → h.Ns mainGlobals mg → mg d.name = some (.ref fa) →
      ∃ fd : FuncData, (∀ (s : Shared) (u : Value), BindsTo s fd ⟨[u], []⟩ [(x, u)]) ∧ ∀ base : Heap, (K w.params).In base → base.Ns mainGlobals mg → FnG l.prog w (K w.params) mg base (CX w) k fa fd [x] (sp w))
    (hsp : ∀ (w : World) (H : Hp) (a : Addr) (ns : List Int), ns.length ≤ n → Only H → SqL (K w.params) H a (ns.map V.int) → sp w [.ref a] H (fun v _ => v = .bl true) fun _ _ _ => False)
    (hCX : ∀ (w : World) (H : Hp) (s : Shared) (e : Value) (s' : Shared), CX w [] H s (fun _ _ _ => False) e s' → False) : PySem.W.WalkO q loose XP YP l.row.toRowW d [] (fun f vs => PySem.call f vs) :=
  Att.attach_call hn hdf fun w s₀ s₁ mg mb fa o pm cd doc a vs ns G Y ho hd hcd hmg hobj hints hlen hg => by
    obtain ⟨fd, hb, hF⟩ := F w mg fa _ (hY w _ Y) G.T.g hmg
    exact law_callG (hY w _ Y) G.T.g G.T.b G.T.builtins G.T.nolimit hg hobj hints (Nat.le_trans hlen hn2) hr hF hb (fun H hO hS => hsp w H a ns hlen hO hS) fun H e s' => hCX w H s₁ e s'
end Mi

end
section
set_option Elab.async false
set_option linter.all false
set_option maxRecDepth 100000
set_option autoImplicit false
set_option maxHeartbeats 4000000
namespace Mi
open PySem PySem.Spec PyProof.Rows L2
def asc {α : Type} (d : α) : List (Str × α) → Str → α
  | [], _ => d
  | (a, x) :: r, c => if c = a then x else asc d r c
theorem asc_at {α : Type} {d x : α} {a : Str} {r : List (Str × α)} : asc d ((a, x) :: r) a = x := if_pos rfl
theorem asc_on {α : Type} {d x : α} {a c : Str} {r : List (Str × α)} {y : α} (n : ¬ c = a) (h : asc d r c = y) : asc d ((a, x) :: r) c = y := (if_neg n).trans h
def spL (K : PySem.W.Frag) (T : List (Addr × Str)) : Sp := fun vs H Q _ => ∃ (J : Hp) (a : Addr) (ns : List Int), vs = [.ref a] ∧ Sg J H ∧ TbO T H ∧ SqL K J a (ns.map V.int) ∧ ns.length ≤ 63 ∧ ∀ H', Q (.bl true) H'
section
variable {P : Program} {w : World} {K : PySem.W.Frag} {mg : Str → Option Value} {base : Heap} {CX : CXT} {k : Nat} {g : Addr} {fd : FuncData} {ps : List Str} {cm : CM} {fld : Str → Str} {f : List D → Fr}
theorem FnG.of (F : FnOk P w K mg base CX k g fd ps (spM K cm fld 1 [] f)) : FnG P w K mg base CX k g fd ps (spM K cm fld 1 [] f) := ⟨F.len, fun A outer s H args us vs Q E _ => F.run A outer s H args us vs Q E⟩
theorem law_end (F : FnG P w K mg base CX k g fd ps (spM K cm fld 1 [] f)) (hf : ∀ ns : List Int, ns.length ≤ 63 → f [.lst (ns.map .int)] = .ok (.bl true) []) : FnG P w K mg base CX k g fd ps (spL K cm.T) := by
  have sp : ∀ vs H Q E, spL K cm.T vs H Q E → spM K cm fld 1 [] f vs H Q E := fun vs H Q E ⟨J, a, ns, ev, sg, tb, hS, hl, q⟩ => by
    subst ev
    refine ⟨J, [.lst (ns.map .int)], [], rfl, rfl, callee0 sg tb (.cons (.lst hS (rps_ints ns)) .nil) rfl, ?_⟩
    rw [hf ns hl]
    exact fun v G' H' _ _ r => by
      cases r
      exact q H'
  exact ⟨fun vs H Q E h => F.len vs H Q E (sp _ _ _ _ h), fun A outer s H args us vs Q E gd r e b v h => F.run A outer s H args us vs Q E gd r e b v (sp _ _ _ _ h)⟩
theorem cx_no {P : Program} {w : World} {H : Hp} {s : Shared} {e : Value} {s' : Shared} (h : L2.CX P w [] H s (fun _ _ _ => False) e s') : False := by
  obtain ⟨_, _, _, _, _, _, _, _, _, _, _, _, z⟩ := h
  exact z
end
end Mi

end
section
set_option Elab.async false
set_option linter.all false
set_option maxRecDepth 100000
set_option autoImplicit false
set_option maxHeartbeats 4000000
/-! x.m(..), m a def of x's class -/
namespace Mi
open PySem PySem.Spec PyProof.Rows L2
def eMeth (c m : Str) (f : List D → Fr) (a : Ex) (as : List Ex) : Ex := fun δ => (a δ).bind fun x δ0 => match x with
  | .obj c' fs => if c' = c ∧ (fs.lookup m).isNone = true then (eL as δ0).bind fun ds δ1 => (match f (.obj c' fs :: ds) with
    | .ok d _ => .ok d δ1
    | .exc k d => .exc k d δ1
    | .bad => .bad) else .bad
  | _ => .bad
def tMethE (C : Addr) (m : Str) (sp : Sp) (E : L2.St → XK) (ta : TE) (t : TA) : TE := fun σ H Q => ta σ H fun x H1 => ∃ a dx fs, x = .ref a ∧ H1 a = some (.ins C dx fs) ∧ fs.lookup m = none ∧
  t σ H1 fun vs H2 => sp (x :: vs) H2 Q (E σ)
theorem Rfs.no {K : PySem.W.Frag} {cm : CM} {G : Hp} {f : Str} : ∀ {fs : List (Str × V)} {ds : List (Str × D)}, Rfs K cm G fs ds → ds.lookup f = none → fs.lookup f = none
  | _, _, .nil, _ => rfl
  | _, _, .cons (f := g) r t, h => by
    rw [List.lookup_cons] at h ⊢
    cases e : (f == g) with
    | true => rw [e] at h; cases h
    | false =>
      rw [e] at h
      exact Rfs.no t h
section
variable {X : Cx} {CX : CXT} {k j n : Nat} {g Ca : Addr} {fd : FuncData} {ps : List Str} {sp : Sp} {E : L2.St → XK} {m c : Str} {p pos apos : Pos} {e o : Expr} {es : List Expr} {ta : TE} {t : TA} {C : Sc} {O : List Nat} {fa : Ex} {fs : List Ex} {f : List D → Fr}
theorem pe_methE {pl : Sem Bool} (he : PE X o ta) (cl : Cls X.K Ca) (hm : Meth X.K Ca m g) (F : FnOk X.prog X.w X.K X.mg X.base CX k g fd ps sp) (hr : Room k X.A) (hb : Binds X.K fd ps []) (hx : ∀ σ, PassesAt CX X σ (E σ)) (ha : PA X (e :: es) t)
    (hst : starEach (e :: es) X.env = (false, eval e X.env) :: starEach es X.env := by rfl) (hpl : (backTo pos (starEach es X.env)).any (·.1) = false := by rfl)
    (ht : eval (.Call (.Attribute o m apos) (e :: es) [] pos) X.env = (do
      let ov ← eval o X.env
      standAt apos.atName
      let (f, first) ← holding [ov] (getMethod ov m pl)
      callWith pos f first (backTo pos (starEach (e :: es) X.env)) (backToKw pos (keywordEach [] X.env))) := by rfl) :
    PE X (.Call (.Attribute o m apos) (e :: es) [] pos) (tMethE Ca m sp E ta t) := by
  refine ⟨fun pins s σ H Q I h => ?_⟩
  refine PySem.W.methodCall_KW (pl := pl) (thn (he.run pins s σ H _ I h) fun u s1 ⟨x, H1, I1, rx, a, dx, fs, ex, ea, l, q⟩ => ?_) ht
  subst ex
  obtain rfl : u = Value.ref a := rx
  refine getmeth_ok I1 ea cl hm l ?_
  exact PySem.W.callWith_K (first := [.ref a]) (h₀ := X.base) I.ok.mod.kin hm.kp (thn (ha.run pos pins s1 σ H1 _ I1 q) fun us s2 ⟨vs, H2, I2, r, q2⟩ => ⟨I2.kIn, run_fnS (us := .ref a :: us) (vs := .ref a :: vs) F hr hb (hx σ) I2 (.cons rfl r) q2⟩) hst hpl
theorem pe_meth0E {pl : Sem Bool} (he : PE X o ta) (cl : Cls X.K Ca) (hm : Meth X.K Ca m g) (F : FnOk X.prog X.w X.K X.mg X.base CX k g fd ps sp) (hr : Room k X.A) (hb : Binds X.K fd ps []) (hx : ∀ σ, PassesAt CX X σ (E σ))
    (ht : eval (.Call (.Attribute o m apos) [] [] pos) X.env = (do
      let ov ← eval o X.env
      standAt apos.atName
      let (f, first) ← holding [ov] (getMethod ov m pl)
      callWith pos f first (backTo pos (starEach [] X.env)) (backToKw pos (keywordEach [] X.env))) := by rfl) :
    PE X (.Call (.Attribute o m apos) [] [] pos) (tMethE Ca m sp E ta tNil) := by
  refine ⟨fun pins s σ H Q I h => ?_⟩
  refine PySem.W.methodCall_KW (pl := pl) (thn (he.run pins s σ H _ I h) fun u s1 ⟨x, H1, I1, rx, a, dx, fs, ex, ea, l, q⟩ => ?_) ht
  subst ex
  obtain rfl : u = Value.ref a := rx
  refine getmeth_ok I1 ea cl hm l ?_
  exact PySem.W.callWith_K0 (first := [.ref a]) I1.kIn hm.kp (run_fnS (us := [.ref a]) (vs := [.ref a]) F hr hb (hx σ) I1 (.cons rfl .nil) q)
theorem r_meth {σ : L2.St} {H : Hp} {Q : VK} (hn : fs.length + 1 = n) (h : tD C O (eMeth c m f fa fs) σ H Q) : tMethE (C.F.cm c) m (spM C.F.K C.F.cm C.fld n [] f) (WE C.W) (tD C O fa) (tA C O (eL fs)) σ H Q := by
  obtain ⟨G, δ, st, mm⟩ := h
  refine ⟨G, δ, st, ?_⟩
  unfold eMeth at mm
  cases e0 : fa δ with
  | exc k d δ1 => rw [e0] at mm; exact mm
  | bad => rw [e0] at mm; exact mm
  | ok x δ0 =>
    rw [e0, Res.bind_ok] at mm
    intro v0 G0 H0 s0 st0 rv0
    cases rv0 with
    | @obj a dx hfs c' ofs h1 h2 rf =>
      simp only at mm
      by_cases hc : c' = c ∧ (ofs.lookup m).isNone = true
      case neg => rw [if_neg hc] at mm; exact mm.elim
      rw [if_pos hc] at mm
      obtain ⟨rfl, hno⟩ := hc
      refine ⟨a, dx, hfs, rfl, st0.gh _ _ h1, Rfs.no rf (by simpa using hno), G0, δ0, st0, ?_⟩
      cases e : eL fs δ0 with
      | exc k d δ1 => rw [e] at mm; exact fun G1 H1 cls dd => mm G1 H1 cls dd
      | bad => rw [e] at mm; exact mm
      | ok ds δ1 =>
        rw [e, Res.bind_ok] at mm
        intro vs G1 H1 s1 st1 rv
        have hl : (V.ref a :: vs).length = n := by rw [List.length_cons, rv.length, eL_length e, hn]
        have ro : Rp C.F.K C.F.cm G1 (.ref a) (.obj c' ofs) := (Rp.obj h1 h2 rf).mono s1.g
        refine ⟨G1, .obj c' ofs :: ds, [], hl, rfl, callee0 st1.gh st1.tabs (.cons ro rv) hl, ?_⟩
        cases ef : f (.obj c' ofs :: ds) with
        | ok d outs =>
          rw [ef] at mm
          exact fun v G2 H2 ex _ r => mm v G2 H2 ((s0.thn s1).and ex) (st1.step ex) r
        | exc k d =>
          rw [ef] at mm
          exact fun G2 H2 cls dd ex x => mm G2 H2 cls dd (st1.step ex) x
        | bad => rw [ef] at mm; exact mm.elim
    | _ => exact mm.elim
/-- .. with arguments -/
theorem d_meth {pl : Sem Bool} (x : MtC X.prog X.w X.K X.mg X.base C.F.cm C.fld c m k n [] f) (cl : Cls X.K (C.F.cm c)) (hK : C.F.K = X.K) (hr : Room j X.A) (hk : k ≤ j) (tk : Takes X C.W) (he : PE X o (tD C O fa)) (ha : PA X (e :: es) (tA C O (eL fs))) (hn : fs.length + 1 = n)
    (hst : starEach (e :: es) X.env = (false, eval e X.env) :: starEach es X.env := by rfl) (hpl : (backTo pos (starEach es X.env)).any (·.1) = false := by rfl)
    (ht : eval (.Call (.Attribute o m apos) (e :: es) [] pos) X.env = (do
      let ov ← eval o X.env
      standAt apos.atName
      let (f, first) ← holding [ov] (getMethod ov m pl)
      callWith pos f first (backTo pos (starEach (e :: es) X.env)) (backToKw pos (keywordEach [] X.env))) := by rfl) :
    PE X (.Call (.Attribute o m apos) (e :: es) [] pos) (tD C O (eMeth c m f fa fs)) := by
  obtain ⟨g, fd, ps, F, h1, h2, h3, h4, hb⟩ := x.ex
  rw [← hK] at F
  exact pe_imp (pe_methE (pl := pl) he cl ⟨h1, h2, h3⟩ (hK ▸ F) (hr.mono hk) hb (fun σ => passAt tk σ) ha hst hpl ht) fun σ H Q h => r_meth hn h
/-- .. without -/
theorem d_meth0 {pl : Sem Bool} (x : MtC X.prog X.w X.K X.mg X.base C.F.cm C.fld c m k 1 [] f) (cl : Cls X.K (C.F.cm c)) (hK : C.F.K = X.K) (hr : Room j X.A) (hk : k ≤ j) (tk : Takes X C.W) (he : PE X o (tD C O fa))
    (ht : eval (.Call (.Attribute o m apos) [] [] pos) X.env = (do
      let ov ← eval o X.env
      standAt apos.atName
      let (f, first) ← holding [ov] (getMethod ov m pl)
      callWith pos f first (backTo pos (starEach [] X.env)) (backToKw pos (keywordEach [] X.env))) := by rfl) :
    PE X (.Call (.Attribute o m apos) [] [] pos) (tD C O (eMeth c m f fa [])) := by
  obtain ⟨g, fd, ps, F, h1, h2, h3, h4, hb⟩ := x.ex
  rw [← hK] at F
  refine pe_imp (pe_meth0E (pl := pl) he cl ⟨h1, h2, h3⟩ (hK ▸ F) (hr.mono hk) hb (fun σ => passAt tk σ) ht) fun σ H Q h => ?_
  obtain ⟨G, δ, st, q⟩ := r_meth (fs := []) (n := 1) rfl h
  refine ⟨G, δ, st, ?_⟩
  cases e0 : fa δ with
  | exc k d δ1 => rw [e0] at q; exact q
  | bad => rw [e0] at q; exact q
  | ok y δ0 =>
    rw [e0] at q
    intro v0 G0 H0 s0 st0 rv0
    obtain ⟨a, dx, hfs, q1, q2, q3, G1, δ1, st1, q4⟩ := q v0 G0 H0 s0 st0 rv0
    have q5 : spM C.F.K C.F.cm C.fld 1 [] f [v0] H0 Q (WE C.W σ) := q4 [] G1 H0 (Ext.refl st1.gh) st1 .nil
    rw [hK] at q5
    exact ⟨a, dx, hfs, q1, q2, q3, q5⟩
end
end Mi

end
section
set_option Elab.async false
set_option linter.all false
set_option maxRecDepth 100000
set_option autoImplicit false
set_option maxHeartbeats 4000000
/-! dicts whose keys are ints and texts -/
namespace Mi
open PySem PySem.Spec PyProof.Rows L2
def keyD : D → Option Key
  | .int i => some (.inl i)
  | .str x => some (.inr x)
  | _ => none
/-- the value at a key -/
def valD : List (D × D) → Key → Option D
  | [], _ => none
  | (q, d) :: r, k => if keyD q = some k then some d else valD r k
theorem keyD_kD (k : Key) : keyD (kD k) = some k := by cases k <;> rfl
theorem keyD_v {K : PySem.W.Frag} {cm : CM} {G : Hp} {v : V} {d : D} {k : Key} (r : Rp K cm G v d) (h : keyD d = some k) : v = kV k := by
  cases r <;> simp [keyD] at h <;> subst h <;> rfl
theorem valD_rel {K : PySem.W.Frag} {cm : CM} {G : Hp} {k : Key} : ∀ {kvs : List (Key × V)} {ds : List (D × D)}, Rks K cm G kvs ds → (∀ d, valD ds k = some d → ∃ v, valV kvs k = some v ∧ Rp K cm G v d) ∧ (valD ds k = none → valV kvs k = none)
  | _, _, .nil => ⟨fun d (h : (none : Option D) = some d) => (nomatch h), fun _ => rfl⟩
  | _, _, .cons (k := q) (v := v) (d := d) r t => by
    obtain ⟨a, b⟩ := valD_rel (k := k) t
    by_cases e : q = k
    · have e1 : keyD (kD q) = some k := by rw [e, keyD_kD]
      refine ⟨fun d' h => ?_, fun h => ?_⟩
      · unfold valD at h
        rw [if_pos e1] at h
        cases h
        exact ⟨v, valV_pos e, r⟩
      · unfold valD at h
        rw [if_pos e1] at h
        cases h
    · have e1 : ¬ keyD (kD q) = some k := by rw [keyD_kD]; exact fun z => e (Option.some.inj z)
      refine ⟨fun d' h => ?_, fun h => ?_⟩
      · unfold valD at h
        rw [if_neg e1] at h
        obtain ⟨v', h1, h2⟩ := a d' h
        exact ⟨v', (valV_neg e).trans h1, h2⟩
      · unfold valD at h
        rw [if_neg e1] at h
        exact (valV_neg e).trans (b h)
theorem valD_some {K : PySem.W.Frag} {cm : CM} {G : Hp} {k : Key} {kvs : List (Key × V)} {ds : List (D × D)} (r : Rks K cm G kvs ds) : (valV kvs k).isSome = (valD ds k).isSome := by
  obtain ⟨a, b⟩ := valD_rel (k := k) r
  cases h : valD ds k with
  | none => rw [b h]; rfl
  | some d =>
    obtain ⟨v, h1, _⟩ := a d h
    rw [h1]
    rfl
/-- a dict that is looked into -/
theorem Vw.dic {K : PySem.W.Frag} {cm : CM} {G H : Hp} {v : V} {ds : List (D × D)} (gh : Same G H) (h : Vw K cm G H v (.dic ds)) : ∃ a kvs, v = .ref a ∧ Rd H a (.dK kvs) ∧ Rks K cm G kvs ds := by
  rcases h with h | ⟨a, rfl, h⟩
  · cases h with
    | dic h r =>
      refine ⟨_, _, rfl, ?_, r⟩
      rcases h with h | ⟨o, h⟩
      · exact .inl (gh _ _ h)
      · exact .inr ⟨o, gh _ _ h⟩
  · obtain ⟨kvs, q, r⟩ := h
    exact ⟨a, kvs, rfl, .inl q, r⟩
theorem Vw.key {K : PySem.W.Frag} {cm : CM} {G H : Hp} {v : V} {d : D} {k : Key} (h : Vw K cm G H v d) (hk : keyD d = some k) : v = kV k := by
  rcases h with h | ⟨a, rfl, h⟩
  · exact keyD_v h hk
  · cases d <;> first | exact h.elim | simp [keyD] at hk
section
variable {K : PySem.W.Frag} {cm : CM}
/-- x in d -/
def dinO (x y : D) : Option Bool := match y with
  | .dic ds => (keyD x).map fun k => (valD ds k).isSome
  | _ => none
def dinD (x y : D) : Option D := (dinO x y).map .bl
def dninD (x y : D) : Option D := (dinO x y).map fun b => .bl (!b)
def rDin (f : Bool → Bool) : R2 := fun x y H Q => ∃ a o, y = .ref a ∧ DGet H a x o ∧ Q (.bl (f o.isSome)) H
theorem din_of {G H : Hp} {v w : V} {d e : D} {b : Bool} (gh : Same G H) (v1 : Vw K cm G H v d) (v2 : Vw K cm G H w e) (h : dinO d e = some b) : ∃ a o, w = .ref a ∧ DGet H a v o ∧ o.isSome = b := by
  unfold dinO at h
  cases e with
  | dic ds =>
    obtain ⟨k, hk, rfl⟩ := Option.map_eq_some_iff.mp h
    obtain ⟨a, kvs, rfl, hd, r⟩ := v2.dic gh
    exact ⟨a, _, rfl, .inl ⟨kvs, k, hd, v1.key hk, rfl⟩, valD_some r⟩
  | _ => cases h
theorem a_din : S2 K cm (rDin id) dinD := fun G H v w d e d' Q gh v1 v2 ho (a : Ans K cm G H d' Q) => by
  obtain ⟨b, hb, rfl⟩ := Option.map_eq_some_iff.mp ho
  obtain ⟨p, o, h1, h2, rfl⟩ := din_of gh v1 v2 hb
  exact ⟨p, o, h1, h2, a.now gh (.bl _)⟩
theorem a_dnin : S2 K cm (rDin not) dninD := fun G H v w d e d' Q gh v1 v2 ho (a : Ans K cm G H d' Q) => by
  obtain ⟨b, hb, rfl⟩ := Option.map_eq_some_iff.mp ho
  obtain ⟨p, o, h1, h2, rfl⟩ := din_of gh v1 v2 hb
  exact ⟨p, o, h1, h2, a.now gh (.bl _)⟩
/-- d[k] -/
def dgetD (x y : D) : Option D := match x with
  | .dic ds => (keyD y).bind fun k => valD ds k
  | _ => none
def rDget : R2 := fun x y H Q => ∃ a v, x = .ref a ∧ DGet H a y (some v) ∧ Q v H
theorem a_dget : S2 K cm rDget dgetD := fun G H v w d e d' Q gh v1 v2 ho (a : Ans K cm G H d' Q) => by
  unfold dgetD at ho
  cases d with
  | dic ds =>
    obtain ⟨k, hk, hv⟩ := Option.bind_eq_some_iff.mp ho
    obtain ⟨p, kvs, rfl, hd, r⟩ := v1.dic gh
    obtain ⟨u, hu, ru⟩ := (valD_rel r).1 d' hv
    exact ⟨p, u, rfl, .inl ⟨kvs, k, hd, v2.key hk, hu.symm⟩, a.now gh ru⟩
  | _ => cases ho
/-- sorted(d), list(d) -/
def keysI (ds : List (D × D)) : Option (List Int) := intsO (ds.map (·.1))
def dsortD (d : D) : Option D := match d with
  | .dic ds => (keysI ds).bind fun ks => if ks.length < 64 then some (.lst ((isort ks).map .int)) else none
  | _ => none
def dlistD (d : D) : Option D := match d with
  | .dic ds => some (.lst (ds.map (·.1)))
  | _ => none
theorem keys_int {K : PySem.W.Frag} {cm : CM} {G : Hp} : ∀ {kvs : List (Key × V)} {ds : List (D × D)} {ks : List Int}, Rks K cm G kvs ds → keysI ds = some ks → kvs.map (·.1) = ks.map Sum.inl
  | _, _, ks, .nil, h => by
    have e : (some [] : Option (List Int)) = some ks := h
    cases e
    rfl
  | _, _, ks, .cons (k := q) (vs := vs) (ds := ds) r t, h => by
    cases q with
    | inr x => cases (show (none : Option (List Int)) = some ks from h)
    | inl i =>
      obtain ⟨ks', h1, rfl⟩ := Option.map_eq_some_iff.mp (show (keysI ds).map (i :: ·) = some ks from h)
      rw [List.map_cons, List.map_cons, keys_int t h1]
theorem keys_rp {K : PySem.W.Frag} {cm : CM} {G : Hp} : ∀ {kvs : List (Key × V)} {ds : List (D × D)}, Rks K cm G kvs ds → Rps K cm G (kvs.map fun kv => kV kv.1) (ds.map (·.1))
  | _, _, .nil => .nil
  | _, _, .cons (k := .inl i) r t => .cons (.int i) (keys_rp t)
  | _, _, .cons (k := .inr x) r t => .cons (.str x) (keys_rp t)
theorem a_dsort : N1 K cm (fun v H Q => ∃ (a : Addr) (kvs : List (Key × V)) (ks : List Int), [v] = [.ref a] ∧ Rd H a (.dK kvs) ∧ kvs.map (·.1) = ks.map Sum.inl ∧ ks.length < 64 ∧
    ∀ (ys : List Int) (p : Addr), ys.Perm ks → ys.Pairwise (· ≤ ·) → H p = none → Q (.ref p) (upd H p (.lst (ys.map V.int)))) dsortD := fun G H v d d' Q gh v1 ho a => by
  unfold dsortD at ho
  cases d with
  | dic ds =>
    obtain ⟨ks, hk, h2⟩ := Option.bind_eq_some_iff.mp ho
    by_cases h64 : ks.length < 64
    case neg => rw [if_neg h64] at h2; cases h2
    rw [if_pos h64] at h2
    cases h2
    obtain ⟨p, kvs, rfl, hd, r⟩ := v1.dic gh
    refine ⟨p, kvs, ks, rfl, hd, keys_int r hk, h64, fun ys q hp hs hq => a q _ hq ?_⟩
    rw [isort_unique hp hs]
    exact ⟨_, upd_same, rps_ints _⟩
  | _ => cases ho
theorem a_dlist : N1 K cm (fun v H Q => ∃ (a : Addr) (kvs : List (Key × V)), [v] = [.ref a] ∧ Rd H a (.dK kvs) ∧ ∀ p, H p = none → Q (.ref p) (upd H p (.lst (kvs.map fun kv => kV kv.1)))) dlistD := fun G H v d d' Q gh v1 ho a => by
  unfold dlistD at ho
  cases d with
  | dic ds =>
    cases ho
    obtain ⟨p, kvs, rfl, hd, r⟩ := v1.dic gh
    exact ⟨p, kvs, rfl, hd, fun q hq => a q _ hq ⟨_, upd_same, keys_rp r⟩⟩
  | _ => cases ho
end
/-- d[k] = v in the pairs -/
def hasK (ds : List (D × D)) (k : Key) : Bool := ds.any fun p => decide ((keyD p.1) = some k)
def putM (ds : List (D × D)) (k : Key) (d : D) : List (D × D) := if hasK ds k = true then ds.map (fun p => if keyD p.1 = some k then (p.1, d) else p) else ds ++ [(kD k, d)]
theorem hasK_rel {K : PySem.W.Frag} {cm : CM} {G : Hp} {k : Key} : ∀ {kvs : List (Key × V)} {ds : List (D × D)}, Rks K cm G kvs ds → (kvs.any fun kv => decide (kv.1 = k)) = hasK ds k
  | _, _, .nil => rfl
  | _, _, .cons (k := q) r t => by
    unfold hasK
    rw [List.any_cons, List.any_cons, hasK_rel t, keyD_kD]
    unfold hasK
    by_cases e : q = k <;> simp [e]
theorem Rks.app1 {K : PySem.W.Frag} {cm : CM} {G : Hp} {k : Key} {v : V} {d : D} (rv : Rp K cm G v d) : ∀ {kvs : List (Key × V)} {ds : List (D × D)}, Rks K cm G kvs ds → Rks K cm G (kvs ++ [(k, v)]) (ds ++ [(kD k, d)])
  | _, _, .nil => .cons rv .nil
  | _, _, .cons r t => .cons r (Rks.app1 rv t)
theorem Rks.rep {K : PySem.W.Frag} {cm : CM} {G : Hp} {k : Key} {v : V} {d : D} (rv : Rp K cm G v d) : ∀ {kvs : List (Key × V)} {ds : List (D × D)}, Rks K cm G kvs ds → Rks K cm G (kvs.map fun kv => if kv.1 = k then (kv.1, v) else kv) (ds.map fun p => if keyD p.1 = some k then (p.1, d) else p)
  | _, _, .nil => .nil
  | _, _, .cons (k := q) (v := v0) (d := d0) r t => by
    have ih := Rks.rep (k := k) rv t
    rw [List.map_cons, List.map_cons]
    by_cases e : q = k
    · rw [if_pos (show (q, v0).1 = k from e), if_pos (show keyD (kD q, d0).1 = some k by rw [← e]; exact keyD_kD q)]
      exact .cons rv ih
    · rw [if_neg (show ¬ (q, v0).1 = k from e), if_neg (show ¬ keyD (kD q, d0).1 = some k from fun z => e (Option.some.inj ((keyD_kD q).symm.trans z)))]
      exact .cons r ih
theorem Rks.put {K : PySem.W.Frag} {cm : CM} {G : Hp} {k : Key} {v : V} {d : D} {kvs : List (Key × V)} {ds : List (D × D)} (r : Rks K cm G kvs ds) (rv : Rp K cm G v d) : Rks K cm G (putK kvs k v) (putM ds k d) := by
  unfold putK putM
  rw [hasK_rel r]
  split
  · exact Rks.rep rv r
  · exact Rks.app1 rv r
theorem Rks.len {K : PySem.W.Frag} {cm : CM} {G : Hp} : ∀ {kvs : List (Key × V)} {ds : List (D × D)}, Rks K cm G kvs ds → kvs.length = ds.length
  | _, _, .nil => rfl
  | _, _, .cons _ t => by rw [List.length_cons, List.length_cons, Rks.len t]
/-- x[k] = e, x the def's own dict in slot i -/
noncomputable def sSetK (i : Nat) (k e : Ex) : Sm := fun δ => (e δ).out fun v δ1 => (k δ1).out fun kk δ2 => (eV i δ2).out fun x δ3 => match x, keyD kk with
  | .dic ds, some q => if ds.length < cap then .nx (δ3.set i (some (.dic (putM ds q v)))) else .bad
  | _, _ => .bad
section
variable {X : Cx} {C : Sc} {O : List Nat} {a b : Expr} {fa fb : Ex} {pos p : Pos} {i : Nat} {x : Str}
theorem s_setK {sp : Pos} (hi : i ∈ O) (h : PS X (.Assign [.Subscript (.Name x p) b sp] a pos) (sDPut (tVar i) (tD C O fb) (tD C O fa))) (hx : C.XO O := by trivial) :
    PS X (.Assign [.Subscript (.Name x p) b sp] a pos) (tS C O O (sSetK i fb fa)) := ps_imp h fun D σ H ⟨G, δ, st, m⟩ => by
  unfold sSetK at m
  refine r_out hx st m fun d v G1 H1 δ1 s1 st1 rv m1 => ?_
  obtain ⟨l, _, e1, _, _, _⟩ := st1.ownL hi
  refine ⟨_, e1, ?_⟩
  refine r_out hx st1 m1 fun k w G2 H2 δ2 s2 st2 rw2 m2 => ?_
  obtain ⟨l', d', e1', ev, na, o⟩ := st2.ownL hi
  rw [e1] at e1'
  cases e1'
  rw [ev, Res.out_ok] at m2
  cases d' with
  | dic ds =>
    cases hk : keyD k with
    | none => simp only [hk] at m2; exact m2.elim
    | some q =>
      simp only [hk] at m2
      obtain ⟨kvs, hq, r⟩ := o
      by_cases hc : ds.length < cap
      case neg => rw [if_neg hc] at m2; exact m2.elim
      rw [if_pos hc] at m2
      obtain ⟨st3, ex⟩ := st2.mut (u := .dK (putK kvs q v)) hi e1 na (by rw [hq]; simp) (d := .dic (putM ds q d)) ⟨_, upd_same, r.put (rv.mono s2.g)⟩
      exact ⟨l, _, rfl, .inl ⟨kvs, q, hq, keyD_v rw2 hk, by rw [r.len]; exact Nat.lt_trans hc cap_line, rfl⟩, m2 σ G2 _ (.refl G2) st3⟩
  | _ => exact m2.elim
end
end Mi

end
section
set_option Elab.async false
set_option linter.all false
set_option maxRecDepth 100000
set_option autoImplicit false
set_option maxHeartbeats 4000000
/-! {k: v for ..} -/
namespace Mi
open PySem PySem.Spec PyProof.Rows L2
theorem putM_len (ys : List (D × D)) (q : Key) (z : D) : (putM ys q z).length ≤ ys.length + 1 := by
  unfold putM
  split <;> simp
def dcL (t : Tg) (own : List Nat) (c : Option Ex) (k e : Ex) : List D → List (D × D) → Env → Res (List (D × D))
  | [], acc => fun δ => .ok acc δ
  | d :: ds, acc => fun δ => match t.put d (wipeE δ own) with
    | none => .bad
    | some δ1 => match tstC c δ1 with
      | .ok (.bl true) δ2 => (match k δ2 with
        | .ok x δ3 => (match keyD x, e δ3 with
          | some q, .ok y δ4 => dcL t own c k e ds (putM acc q y) δ4
          | _, _ => .bad)
        | _ => .bad)
      | .ok (.bl false) δ2 => dcL t own c k e ds acc δ2
      | _ => .bad
noncomputable def eDc (it : ItE) (t : Tg) (own : List Nat) (c : Option Ex) (k e : Ex) : Ex := fun δ => (it δ).bind fun ds δ1 => if ds.length ≤ cap then
    (match dcL t own c k e ds [] δ1 with
    | .ok xs δ2 => .ok (.dic xs) (restE δ1 own δ2)
    | _ => .bad)
  else .bad
section
variable {J : It} {n : Nat} {G : Hp → Prop} {Y : Nat → Hp → V → Hp → Prop}
theorem dc_it (w : Walk J n G Y) {g : TG} {tt : TT} {tk te : TE} {vs : List Nat} {σ : L2.St} {H1 : Hp} {D : Addr} {Qd : Hp → Prop} (Pv : Nat → Hp → Prop) (h0 : Pv 0 (upd H1 D (.dK []))) (hG : ∀ i H, i ≤ n → Pv i H → G H)
    (hs : ∀ i x H H', i < n → Pv i H → Y i H x H' → g x (L2.wipe σ vs) H' fun σ2 H2 => L2.wipe σ2 vs = L2.wipe σ vs ∧ tt σ2 H2 fun b H3 =>
      if b = true then tk σ2 H3 fun y H4 => te σ2 H4 fun z H5 => ∃ kvs k, y = kV k ∧ H5 D = some (.dK kvs) ∧ kvs.length < sizeLine ∧ Pv (i + 1) (upd H5 D (.dK (putK kvs k z))) else Pv (i + 1) H3) (hd : ∀ H, Pv n H → Qd H) :
    ∃ W : Nat → Nat → Hp → Prop, (∃ m, W 0 m (upd H1 D (.dK []))) ∧ ∀ i m H, W i m H →
      (J.stop i H ∧ Qd H) ∨ (J.go i H ∧ ∃ Nx : Hp → Prop, (∀ H', Nx H' → ∃ m', m' < m ∧ W (i + 1) m' H') ∧ ∀ x H', J.yld i H x H' → g x (L2.wipe σ vs) H' fun σ2 H2 => L2.wipe σ2 vs = L2.wipe σ vs ∧ tt σ2 H2 fun b H3 =>
        if b = true then tk σ2 H3 fun y H4 => te σ2 H4 fun z H5 => ∃ kvs k, y = kV k ∧ H5 D = some (.dK kvs) ∧ kvs.length < sizeLine ∧ Nx (upd H5 D (.dK (putK kvs k z))) else Nx H3) := by
  refine ⟨fun i m H => m = n - i ∧ i ≤ n ∧ Pv i H, ⟨n, by simp, Nat.zero_le _, h0⟩, ?_⟩
  rintro i m H ⟨rfl, hi, p⟩
  have q := hG i H hi p
  by_cases hlt : i < n
  · exact .inr ⟨w.goes i H hlt q, Pv (i + 1), fun H' p' => ⟨n - (i + 1), by omega, rfl, hlt, p'⟩, fun x H' y => hs i x H H' hlt p (w.yields i H x H' hlt q y)⟩
  · have e : i = n := by omega
    subst e
    exact .inl ⟨w.stops H q, hd H p⟩
end
section
variable {X : Cx} {C : Sc} {O : List Nat} {fe : Ex}
theorem n_dc_r {bq : Bool} {wi : TI} {g : TG} {tt : TT} {tk te : TE} {fk : Ex} {t : Tg} {vs : List Nat} {c : Option Ex} {it : ItE} (hi : ∀ σ H R, tI bq C O it σ H R → wi σ H R) (ht : GT bq C O t g) (hd : ∀ v ∈ vs, v ∉ O) (kd : ∀ v ∈ vs, v ∉ C.F.ks) (hg : GW vs g)
    (htt : ∀ (σ : L2.St) (H : Hp) (Q : Bool → Hp → Prop) (G : Hp) (δ : Env), Stt C.F O G H σ δ → Pb C.blk O G H σ Q (tstC c δ) → tt σ H Q)
    (htk : ∀ (σ : L2.St) (H : Hp) (Q : VK), tD C.blk O fk σ H Q → tk σ H Q) (hte : ∀ (σ : L2.St) (H : Hp) (Q : VK), tD C.blk O fe σ H Q → te σ H Q) : ∀ (σ : L2.St) (H : Hp) (Q : VK), tN C O (eDc it t vs c fk fe) σ H Q → tDc wi g tt tk te vs σ H Q := fun σ H Q ⟨G, δ, st, m⟩ => by
  refine hi _ _ _ ⟨G, δ, st, ?_⟩
  unfold eDc at m
  cases e : it δ with
  | exc c d δ1 => rw [e] at m; exact m
  | bad => rw [e] at m; exact m
  | ok ds δ1 =>
    rw [e, Res.bind_ok] at m
    by_cases hcap : ds.length ≤ cap
    case neg => rw [if_neg hcap] at m; exact m.elim
    rw [if_pos hcap] at m
    intro J G1 H1 s1 st1 wk Dn hDn
    obtain ⟨f1, f2, f3, f4⟩ := fresh_facts (u := .dK []) st1 hDn
    have hpn : H Dn = none := s1.back hDn
    -- the end, told of what is made so far
    let Fin : Hp → Hp → Res (List (D × D)) → Prop := fun G H r => match r with
      | .ok xs δ2 => ∀ G' H', Ext C.F.cm.T (ownS O σ) G1 H1 G' H' → Stt C.F O G' H' (L2.wipe σ vs) (wipeE δ2 vs) → G' Dn = none → OwnAt C.F.K C.F.cm G' H' Dn (.dic xs) → Q (.ref Dn) H'
      | _ => False
    have fin0 : Fin G1 H1 (dcL t vs c fk fe ds [] δ1) := by
      show match dcL t vs c fk fe ds [] δ1 with | .ok xs δ2 => _ | _ => _
      cases er : dcL t vs c fk fe ds [] δ1 with
      | ok xs δ2 =>
        rw [er] at m
        exact fun G' H' s2 st2 n o => m Dn G' H' (s1.thn s2) (st1.unwipe st2 s2.g hd) n hpn o
      | exc c d δ2 => rw [er] at m; exact m
      | bad => rw [er] at m; exact m
    have sig : ∀ {σ' : L2.St}, L2.wipe σ' vs = L2.wipe σ vs → ownS O σ' = ownS O σ := fun {σ'} h => by
      have key : ∀ O' : List Nat, (∀ i ∈ O', i ∈ O) → ownS O' σ' = ownS O' σ := by
        intro O'
        induction O' with
        | nil => intro _; rfl
        | cons i r ih =>
          intro hr
          have hv : i ∉ vs := fun z => hd i z (hr i List.mem_cons_self)
          have e : σ'[i]? = σ[i]? := by rw [← wipeS_out (σ := σ') hv, h, wipeS_out hv]
          have ih := ih fun j hj => hr j (List.mem_cons_of_mem _ hj)
          unfold ownS at ih ⊢
          rw [List.filterMap_cons, List.filterMap_cons, e, ih]
      exact key O fun _ h => h
    have hDo : Dn ∉ ownS O σ := fun z => by
      obtain ⟨i, hi, e⟩ := mem_ownS.mp z
      exact f4 i hi e
    refine dc_it wk (fun i H => ∃ G δ ys acc, Stt C.F O G H (L2.wipe σ vs) (wipeE δ vs) ∧ Ext C.F.cm.T (ownS O σ) G1 H1 G H ∧ G Dn = none ∧ H Dn = some (.dK acc) ∧ Rks C.F.K C.F.cm G acc ys ∧ ys.length ≤ i ∧ Fin G H (dcL t vs c fk fe (ds.drop i) ys δ))
      ⟨G1, δ1, [], [], f1.wipe hd kd, (Ext.refl st1.gh).and (Ext.fresh st1.gh hDn), f2, upd_same, .nil, Nat.le_refl _, fin0⟩ (fun i H _ ⟨G, _, _, _, st, s, _⟩ => s.g.trans st.gh) ?_ ?_
    · rintro i x H2 H3 hlt ⟨G2, δ2, ys, acc, st2, s2, n2, hD2, ra, hys, fin⟩ y
      obtain ⟨G3, d, hdi, ex, rv⟩ := y G2 s2.g st2.gh
      have hdrop : ds.drop i = d :: ds.drop (i + 1) := by
        rw [List.drop_eq_getElem_cons hlt]
        congr
        have := List.getElem?_eq_getElem hlt
        rw [hdi] at this
        exact (Option.some.inj this).symm
      rw [hdrop] at fin
      unfold dcL at fin
      have st3 := st2.step ex
      have n3 : G3 Dn = none := (ex.new Dn (by rw [hD2]; simp)).trans n2
      have hD3 : H3 Dn = some (.dK acc) := ex.keep Dn _ hD2 (by simp) (nc_dK (a := Dn)).1
      have s3 := s2.and ex
      cases et : t.put d (wipeE δ2 vs) with
      | none => simp only [et] at fin; exact fin.elim
      | some δ3 =>
        simp only [et] at fin
        have turn : g x (L2.wipe σ vs) H3 (fun σ' H' => L2.wipe σ' vs = L2.wipe (L2.wipe σ vs) vs → tt σ' H' fun b H5 =>
            if b = true then tk σ' H5 fun yk H6 => te σ' H6 fun y H7 => ∃ acc q, yk = kV q ∧ H7 Dn = some (.dK acc) ∧ acc.length < sizeLine ∧ ∃ G δ ys acc', Stt C.F O G (upd H7 Dn (.dK (putK acc q y))) (L2.wipe σ vs) (wipeE δ vs) ∧ Ext C.F.cm.T (ownS O σ) G1 H1 G (upd H7 Dn (.dK (putK acc q y))) ∧ G Dn = none ∧
              (upd H7 Dn (.dK (putK acc q y))) Dn = some (.dK acc') ∧ Rks C.F.K C.F.cm G acc' ys ∧ ys.length ≤ i + 1 ∧ Fin G (upd H7 Dn (.dK (putK acc q y))) (dcL t vs c fk fe (ds.drop (i + 1)) ys δ)
            else ∃ G δ ys acc, Stt C.F O G H5 (L2.wipe σ vs) (wipeE δ vs) ∧ Ext C.F.cm.T (ownS O σ) G1 H1 G H5 ∧ G Dn = none ∧ H5 Dn = some (.dK acc) ∧ Rks C.F.K C.F.cm G acc ys ∧ ys.length ≤ i + 1 ∧ Fin G H5 (dcL t vs c fk fe (ds.drop (i + 1)) ys δ)) := by
          refine ht x d _ H3 G3 _ δ3 _ st3 rv et fun σ' st4 wz => ?_
          rw [wipeS_idem] at wz
          have so := sig wz
          have back : ∀ {G' H' : Hp} {δ' : Env}, Stt C.F O G' H' σ' δ' → Stt C.F O G' H' (L2.wipe σ vs) (wipeE δ' vs) := fun {G' H' δ'} z => by rw [← wz]; exact z.wipe hd kd
          refine htt σ' H3 _ G3 δ3 st4 ?_
          cases ec : tstC c δ3 with
          | exc _ _ _ => rw [ec] at fin; exact fin.elim
          | bad => rw [ec] at fin; exact fin.elim
          | ok db δ4 =>
            rw [ec] at fin
            cases db with
            | bl b =>
              refine ⟨b, rfl, fun G5 H5 s5 st5 => ?_⟩
              rw [so] at s5
              have n5 : G5 Dn = none := (s5.new Dn (by rw [hD3]; simp)).trans n3
              have hD5 : H5 Dn = some (.dK acc) := s5.keep Dn _ hD3 hDo (nc_dK (a := Dn)).1
              cases b with
              | false =>
                rw [if_neg Bool.false_ne_true]
                exact ⟨G5, δ4, ys, acc, back st5, s3.thn s5, n5, hD5, ra.mono (ex.g.trans s5.g), Nat.le_succ_of_le hys, fin⟩
              | true =>
                rw [if_pos rfl]
                simp only at fin
                refine htk _ _ _ ⟨G5, δ4, st5, ?_⟩
                cases ek : fk δ4 with
                | exc _ _ _ => rw [ek] at fin; exact fin.elim
                | bad => rw [ek] at fin; exact fin.elim
                | ok kd δ5 =>
                rw [ek] at fin
                simp only at fin
                intro vk G6 H6 s6 st6 rk
                rw [so] at s6
                have n6 : G6 Dn = none := (s6.new Dn (by rw [hD5]; simp)).trans n5
                have hD6 : H6 Dn = some (.dK acc) := s6.keep Dn _ hD5 hDo (nc_dK (a := Dn)).1
                refine hte _ _ _ ⟨G6, δ5, st6, ?_⟩
                cases ee : fe δ5 with
                | exc _ _ _ => rw [ee] at fin; cases hkd : keyD kd <;> rw [hkd] at fin <;> exact fin.elim
                | bad => rw [ee] at fin; cases hkd : keyD kd <;> rw [hkd] at fin <;> exact fin.elim
                | ok z δ6 =>
                  rw [ee] at fin
                  cases hkd : keyD kd with
                  | none => rw [hkd] at fin; exact fin.elim
                  | some q =>
                  rw [hkd] at fin
                  simp only at fin
                  intro v7 G7 H7 s7 st7 rv7
                  rw [so] at s7
                  have n7 : G7 Dn = none := (s7.new Dn (by rw [hD6]; simp)).trans n6
                  have hD7 : H7 Dn = some (.dK acc) := s7.keep Dn _ hD6 hDo (nc_dK (a := Dn)).1
                  have hal : acc.length = ys.length := ra.len
                  have ext7 := ((s3.thn s5).thn s6).thn s7
                  have gh' : Sg G7 (upd H7 Dn (.dK (putK acc q v7))) := st7.gh.own n7
                  have st8 : Stt C.F O G7 (upd H7 Dn (.dK (putK acc q v7))) σ' δ6 := {
                    ext := ⟨st7.ext.g, gh', fun b o hb hn ht => by
                      rw [upd_ne (fun q => by rw [q, f3] at hb; cases hb)]
                      exact st7.ext.keep b o hb hn ht, st7.ext.new, fun b hb => by
                      rw [upd_ne (fun q => hb (by rw [q]; exact f3))]
                      exact st7.ext.dom b hb, st7.ext.tab.trans (.upd hD7 nc_dK)⟩
                    tabs := st7.tabs.go (.upd hD7 nc_dK)
                    kp := st7.kp
                    ln := st7.ln
                    le := st7.le
                    sh := st7.sh
                    ow := fun j hj => by
                      obtain ⟨a, dj, e1, e2, na, o, z⟩ := st7.ow j hj
                      refine ⟨a, dj, e1, e2, na, o.mono (.refl G7) (upd_ne fun q => hDo ?_), z⟩
                      rw [← so]
                      exact mem_ownS.mpr ⟨j, hj, by rw [e1, q]⟩
                    dis := st7.dis
                    fix := st7.fix }
                  have ext8 : Ext _ (ownS O σ) G1 H1 G7 (upd H7 Dn (.dK (putK acc q v7))) := ⟨ext7.g, gh', fun b o hb hn ht => by
                      rw [upd_ne (fun q => by rw [q, hDn] at hb; cases hb)]
                      exact ext7.keep b o hb hn ht, ext7.new, fun b hb => by
                      rw [upd_ne (fun q => hb (by rw [q]; exact hDn))]
                      exact ext7.dom b hb, ext7.tab.trans (.upd hD7 nc_dK)⟩
                  refine ⟨acc, q, keyD_v rk hkd, hD7, ?_, G7, δ6, putM ys q z, putK acc q v7, back st8, ext8, n7, upd_same, Rks.put (ra.mono (((ex.g.trans s5.g).trans s6.g).trans s7.g)) rv7, Nat.le_trans (putM_len ys q z) (by omega), fin⟩
                  have := cap_line
                  omega
            | _ => exact fin.elim
        have h := hg x (L2.wipe σ vs) H3 _ turn
        rw [wipeS_idem] at h
        exact h
    · rintro H2 ⟨G2, δ2, ys, acc, st2, s2, n2, hD2, ra, hys, fin⟩
      rw [List.drop_length] at fin
      exact fin G2 H2 s2 st2 n2 ⟨acc, hD2, ra⟩
end
section
variable {X : Cx} {C : Sc} {O : List Nat} {fk fe fc : Ex} {tg iter c : Expr} {pos : Pos}
theorem n_dc0 {bq : Bool} {it : ItE} {t : Tg} {g : TG} {vs : List Nat} {kx vx : Expr} {scope : Scope} (own : List (Str × Nat)) (hc : X.calm = true) (hN : X.N.Nodup) (hi : PI X tg iter (tI bq C O it)) (ok : BlkOk X.N X.env.scope scope own) (hvs : own.map (·.2) = vs)
    (hg : ∀ (s : Shared) (H : Hp) (Ca : Addr) (cl : List (Str × Addr)) (fp : List Addr), PG (X.blk s H scope (compEnvC scope cl Ca X.env) fp) tg g) (ht : GT bq C O t g) (hd : ∀ v ∈ vs, v ∉ O) (hw : GW vs g)
    (hk : ∀ (s : Shared) (H : Hp) (Ca : Addr) (cl : List (Str × Addr)) (fp : List Addr), PE (X.blk s H scope (compEnvC scope cl Ca X.env) fp) kx (tD C.blk O fk))
    (he : ∀ (s : Shared) (H : Hp) (Ca : Addr) (cl : List (Str × Addr)) (fp : List Addr), PE (X.blk s H scope (compEnvC scope cl Ca X.env) fp) vx (tD C.blk O fe)) (hs : ∀ x, foldedSetIterable iter X.env x = pure x := by intro _; rfl) (kd : ∀ v ∈ vs, v ∉ C.F.ks := by exact fun _ _ => List.not_mem_nil) :
    PE X (.DictComp kx vx [⟨tg, iter, [], 0⟩] scope pos) (tN C O (eDc it t vs none fk fe)) := by
  subst hvs
  exact pe_imp (pe_dc hc hN hi ok hg (fun _ _ _ _ _ => pts_nil) hk he hs) (n_dc_r (fun _ _ _ h => h) ht hd kd hw (fun σ H Q G δ st h => by
    obtain ⟨b, e, q⟩ := h
    cases e
    exact q G H (.refl st.gh) st) (fun _ _ _ h => h) (fun _ _ _ h => h))
theorem n_dc1 {bq : Bool} {it : ItE} {t : Tg} {g : TG} {vs : List Nat} {kx vx : Expr} {scope : Scope} (own : List (Str × Nat)) (hc : X.calm = true) (hN : X.N.Nodup) (hi : PI X tg iter (tI bq C O it)) (ok : BlkOk X.N X.env.scope scope own) (hvs : own.map (·.2) = vs)
    (hg : ∀ (s : Shared) (H : Hp) (Ca : Addr) (cl : List (Str × Addr)) (fp : List Addr), PG (X.blk s H scope (compEnvC scope cl Ca X.env) fp) tg g) (ht : GT bq C O t g) (hd : ∀ v ∈ vs, v ∉ O) (hw : GW vs g)
    (hp : ∀ (s : Shared) (H : Hp) (Ca : Addr) (cl : List (Str × Addr)) (fp : List Addr), PT (X.blk s H scope (compEnvC scope cl Ca X.env) fp) c (tDT C.blk O fc))
    (hk : ∀ (s : Shared) (H : Hp) (Ca : Addr) (cl : List (Str × Addr)) (fp : List Addr), PE (X.blk s H scope (compEnvC scope cl Ca X.env) fp) kx (tD C.blk O fk))
    (he : ∀ (s : Shared) (H : Hp) (Ca : Addr) (cl : List (Str × Addr)) (fp : List Addr), PE (X.blk s H scope (compEnvC scope cl Ca X.env) fp) vx (tD C.blk O fe)) (hs : ∀ x, foldedSetIterable iter X.env x = pure x := by intro _; rfl) (kd : ∀ v ∈ vs, v ∉ C.F.ks := by exact fun _ _ => List.not_mem_nil) :
    PE X (.DictComp kx vx [⟨tg, iter, [c], 0⟩] scope pos) (tN C O (eDc it t vs (some fc) fk fe)) := by
  subst hvs
  exact pe_imp (pe_dc hc hN hi ok hg (fun s H Ca cl fp => pts_one (hp s H Ca cl fp)) hk he hs) (n_dc_r (c := some fc) (fun _ _ _ h => h) ht hd kd hw (fun σ H Q G δ st h => (show tDT C.blk O fc σ H Q from ⟨G, δ, st, h⟩)) (fun _ _ _ h => h) (fun _ _ _ h => h))
/-- name = {..} on one line -/
theorem ps_setDc {i : Nat} {y : Str} {py : Pos} {kx vx : Expr} {ifs : List Expr} {scope : Scope} {own : List (Str × Nat)} {spos : Pos} {wi : TI} {g : TG} {tt : TT} {tk te : TE} (hc : X.calm = true) (hN : X.N.Nodup) (hy : X.N[i]? = some y) (hyl : X.env.scope.names.lookup y = some .local)
    (hsw : swapsWith (.DictComp kx vx [⟨tg, iter, ifs, 0⟩] scope pos) (some (.Name y py)) spos.line X.env = pure true) (hi : PI X tg iter wi) (ok : BlkOk X.N X.env.scope scope own)
    (hg : ∀ (s : Shared) (H : Hp) (Ca : Addr) (cl : List (Str × Addr)) (fp : List Addr), PG (X.blk s H scope (compEnvC scope cl Ca X.env) fp) tg g) (ht : ∀ (s : Shared) (H : Hp) (Ca : Addr) (cl : List (Str × Addr)) (fp : List Addr), PTs (X.blk s H scope (compEnvC scope cl Ca X.env) fp) ifs tt)
    (hk : ∀ (s : Shared) (H : Hp) (Ca : Addr) (cl : List (Str × Addr)) (fp : List Addr), PE (X.blk s H scope (compEnvC scope cl Ca X.env) fp) kx tk) (he : ∀ (s : Shared) (H : Hp) (Ca : Addr) (cl : List (Str × Addr)) (fp : List Addr), PE (X.blk s H scope (compEnvC scope cl Ca X.env) fp) vx te) (hs : ∀ x, foldedSetIterable iter X.env x = pure x := by intro _; rfl) :
    PS X (.Assign [.Name y py] (.DictComp kx vx [⟨tg, iter, ifs, 0⟩] scope pos) spos) (tAsg (tDc wi g tt tk te (own.map (·.2))) (gName i)) := by
  refine ⟨fun pins s σ H D I h => ?_⟩
  rw [exec_Assign_Name_used _ _ _ _ hsw]
  refine wpAny_bind (wpAny_standAt (wpAny_bind ?_))
  show wpAny _ X.A (do let _ ← comprehension (.DictComp kx vx [⟨tg, iter, ifs, 0⟩] scope pos) scope X.env (firstIterPos [⟨tg, iter, ifs, 0⟩] pos) newDict false (eval iter X.env) (some (assign (.Name y py) X.env))) _ _ s
  have h : tDc wi g tt tk te (own.map (·.2)) σ H (fun x H1 => gName i x σ H1 D.nx) := h
  refine wpAny_bind (thn (dc_core (Qf := fun _ s' => SP X pins D .next s') hc hN I hi ok hg ht hk he hs h fun L C s' m H' I' q hn f => ?_) fun _ s' hq => wpAny_pure (wpAny_pure hq))
  show wpAny _ _ (assign (.Name y py) X.env (.ref L)) _ _ _
  refine wpAny_assign_Name (store_ok2 (v := V.ref L) I' hN hy (.inl hyl) rfl (fun s2 I2 ⟨a, sb, ha⟩ => ?_) (.inr hyl))
  obtain ⟨f0, f1, f2, f3, f4, f5⟩ := f
  have haC : C ≠ a := by
    rcases ha with z | z
    · rw [z]; exact f1
    · exact fun e => f4 y a z e.symm
  refine ⟨m, hn.sameBut sb haC, fun h3 sb3 => ?_⟩
  exact ⟨_, H', I2.turned (t' := s2.toks) (fun b o hb e => (sb3.2 b hb).trans e) f0 f1 f3 f4 f5, q⟩
theorem l_dc0 {bq : Bool} {it : ItE} {t : Tg} {g : TG} {vs : List Nat} {kx vx : Expr} {scope : Scope} {y : Str} {py spos : Pos} {i : Nat} (own : List (Str × Nat)) (hc : X.calm = true) (hN : X.N.Nodup) (hi : PI X tg iter (tI bq C O it)) (ok : BlkOk X.N X.env.scope scope own) (hvs : own.map (·.2) = vs)
    (hg : ∀ (s : Shared) (H : Hp) (Ca : Addr) (cl : List (Str × Addr)) (fp : List Addr), PG (X.blk s H scope (compEnvC scope cl Ca X.env) fp) tg g) (ht : GT bq C O t g) (hd : ∀ v ∈ vs, v ∉ O) (hw : GW vs g)
    (hk : ∀ (s : Shared) (H : Hp) (Ca : Addr) (cl : List (Str × Addr)) (fp : List Addr), PE (X.blk s H scope (compEnvC scope cl Ca X.env) fp) kx (tD C.blk O fk))
    (he : ∀ (s : Shared) (H : Hp) (Ca : Addr) (cl : List (Str × Addr)) (fp : List Addr), PE (X.blk s H scope (compEnvC scope cl Ca X.env) fp) vx (tD C.blk O fe))
    (hy : X.N[i]? = some y) (hyl : X.env.scope.names.lookup y = some .local) (hsw : swapsWith (.DictComp kx vx [⟨tg, iter, [], 0⟩] scope pos) (some (.Name y py)) spos.line X.env = pure true) (hs : ∀ x, foldedSetIterable iter X.env x = pure x := by intro _; rfl) (kd : ∀ v ∈ vs, v ∉ C.F.ks := by exact fun _ _ => List.not_mem_nil) :
    PS X (.Assign [.Name y py] (.DictComp kx vx [⟨tg, iter, [], 0⟩] scope pos) spos) (tAsg (tN C O (eDc it t vs none fk fe)) (gName i)) := by
  subst hvs
  exact ps_imp (ps_setDc hc hN hy hyl hsw hi ok hg (fun _ _ _ _ _ => pts_nil) hk he hs) fun D σ H h => n_dc_r (fun _ _ _ h => h) ht hd kd hw (fun σ H Q G δ st h => by
    obtain ⟨b, e, q⟩ := h
    cases e
    exact q G H (.refl st.gh) st) (fun _ _ _ h => h) (fun _ _ _ h => h) _ _ _ h
end
end Mi

end
section
set_option Elab.async false
set_option linter.all false
set_option maxRecDepth 100000
set_option autoImplicit false
set_option maxHeartbeats 4000000
/-! dicts with int and text keys: the rules that the printed derivations name; try .. except X without a name -/
namespace Mi
open PySem PySem.Spec PyProof.Rows L2
section
variable {X : Cx} {C : Sc} {O : List Nat} {a b e : Expr} {fa fb : Ex} {pos p : Pos} {i k : Nat}
theorem d_din (hr : Room k X.A) (ha : PE X a (tD C O fa)) (hb : PE X b (tW C O fb)) (h1 : behindInMarks .In b = false := by with_unfolding_all rfl) : PE X (.Compare a [.In] [b] pos) (tD C O (e2 dinD fa fb)) := d_2 a_din (pe_cmp (pc_din (hu_of hr) ha hb) h1)
theorem d_dnin (hr : Room k X.A) (ha : PE X a (tD C O fa)) (hb : PE X b (tW C O fb)) (h1 : behindInMarks .NotIn b = false := by with_unfolding_all rfl) : PE X (.Compare a [.NotIn] [b] pos) (tD C O (e2 dninD fa fb)) := d_2 a_dnin (pe_cmp (pc_dnotin (hu_of hr) ha hb) h1)
theorem t_din (hr : Room k X.A) (ha : PE X a (tD C O fa)) (hb : PE X b (tW C O fb)) (h1 : behindInMarks .In b = false := by with_unfolding_all rfl) : PT X (.Compare a [.In] [b] pos) (tDT C O (e2 dinD fa fb)) := t_2 a_din (pt_cmp (pc_din (hu_of hr) ha hb) h1)
theorem t_dnin (hr : Room k X.A) (ha : PE X a (tD C O fa)) (hb : PE X b (tW C O fb)) (h1 : behindInMarks .NotIn b = false := by with_unfolding_all rfl) : PT X (.Compare a [.NotIn] [b] pos) (tDT C O (e2 dninD fa fb)) := t_2 a_dnin (pt_cmp (pc_dnotin (hu_of hr) ha hb) h1)
theorem d_dget (hr : Room k X.A) (ha : PE X a (tD C O fa)) (hb : PE X b (tW C O fb)) (hs : NoSl b := by intro _ _; rfl) : PE X (.Subscript a b pos) (tD C O (e2 dgetD fa fb)) := d_2 a_dget (pe_dget (hu_of hr) ha hb hs)
theorem d_dgetO (hr : Room k X.A) (hi : i ∈ O) (ha : PE X a (tVar i)) (hb : PE X b (tW C O fb)) (hs : NoSl b := by intro _ _; rfl) : PE X (.Subscript a b pos) (tD C O (eO2 dgetD i fb)) := d_o2 hi a_dget (pe_dget (hu_of hr) ha hb hs)
/-- {} -/
theorem n_dnew : PE X (.Dict [] [] pos) (tN C O (eC (.dic []))) := pe_imp pe_dnewK fun σ H Q ⟨G, δ, st, m⟩ q hq => by
  obtain ⟨f1, f2, f3, f4⟩ := fresh_facts (u := .dK []) st hq
  exact m q G _ ((Ext.refl st.gh).and (Ext.fresh st.gh hq)) f1 f2 hq ⟨[], upd_same, .nil⟩
/-- len(d) -/
def dlenD : D → Option D
  | .dic ds => some (.int (ds.length : Nat))
  | _ => none
theorem a_dlen {K : PySem.W.Frag} {cm : CM} : S1 K cm (fun v H Q => ∃ (a : Addr) (kvs : List (Key × V)), v = .ref a ∧ H a = some (.dK kvs) ∧ Q (.int (kvs.length : Nat)) H) (fun d => none) := fun G H v d d' Q gh v1 ho => by cases ho
end
theorem sw_trueD {kx vx : Expr} {gs : List Comprehension} {scope : Scope} {pos py : Pos} {y : Str} {l : Nat} {env : PySem.Env} (hk : env.scope.kind = .function) (hy : env.scope.names.lookup y = some .local) (hl : (py.line == pos.line) = true)
    (ha : (scope.names.any fun (n, k) => n == y && (k == .local || k == .cell)) = false) : swapsWith (.DictComp kx vx gs scope pos) (some (.Name y py)) l env = pure true := by
  have ky : env.kindOf y = some .local := hy
  have hb : env.blockKind = .function := by unfold Env.blockKind; rw [hk]; rfl
  unfold swapsWith
  simp only [hb, ky, ha, Expr.pos, hl]
  rfl
theorem l_dc1 {X : Cx} {C : Sc} {O : List Nat} {fk fe fc : Ex} {tg iter c : Expr} {pos : Pos} {bq : Bool} {it : ItE} {t : Tg} {g : TG} {vs : List Nat} {kx vx : Expr} {scope : Scope} {y : Str} {py spos : Pos} {i : Nat} (own : List (Str × Nat)) (hc : X.calm = true) (hN : X.N.Nodup) (hi : PI X tg iter (tI bq C O it)) (ok : BlkOk X.N X.env.scope scope own) (hvs : own.map (·.2) = vs)
    (hg : ∀ (s : Shared) (H : Hp) (Ca : Addr) (cl : List (Str × Addr)) (fp : List Addr), PG (X.blk s H scope (compEnvC scope cl Ca X.env) fp) tg g) (ht : GT bq C O t g) (hd : ∀ v ∈ vs, v ∉ O) (hw : GW vs g)
    (hp : ∀ (s : Shared) (H : Hp) (Ca : Addr) (cl : List (Str × Addr)) (fp : List Addr), PT (X.blk s H scope (compEnvC scope cl Ca X.env) fp) c (tDT C.blk O fc))
    (hk : ∀ (s : Shared) (H : Hp) (Ca : Addr) (cl : List (Str × Addr)) (fp : List Addr), PE (X.blk s H scope (compEnvC scope cl Ca X.env) fp) kx (tD C.blk O fk))
    (he : ∀ (s : Shared) (H : Hp) (Ca : Addr) (cl : List (Str × Addr)) (fp : List Addr), PE (X.blk s H scope (compEnvC scope cl Ca X.env) fp) vx (tD C.blk O fe))
    (hy : X.N[i]? = some y) (hyl : X.env.scope.names.lookup y = some .local) (hsw : swapsWith (.DictComp kx vx [⟨tg, iter, [c], 0⟩] scope pos) (some (.Name y py)) spos.line X.env = pure true) (hs : ∀ x, foldedSetIterable iter X.env x = pure x := by intro _; rfl) (kd : ∀ v ∈ vs, v ∉ C.F.ks := by exact fun _ _ => List.not_mem_nil) :
    PS X (.Assign [.Name y py] (.DictComp kx vx [⟨tg, iter, [c], 0⟩] scope pos) spos) (tAsg (tN C O (eDc it t vs (some fc) fk fe)) (gName i)) := by
  subst hvs
  exact ps_imp (ps_setDc hc hN hy hyl hsw hi ok hg (fun s H Ca cl fp => pts_one (hp s H Ca cl fp)) hk he hs) fun D σ H h => n_dc_r (c := some fc) (fun _ _ _ h => h) ht hd kd hw (fun σ H Q G δ st h => (show tDT C.blk O fc σ H Q from ⟨G, δ, st, h⟩)) (fun _ _ _ h => h) (fun _ _ _ h => h) _ _ _ h
/-- try: gb except X: gh -/
def sTryO (cs os : List Str) (gb gh : Sm) : Sm := fun δ => match gb δ with
  | .exc c d δ' => if c ∈ cs then (match gh δ' with
      | .nx δ2 => .nx δ2
      | .rt d δ2 => .rt d δ2
      | _ => .bad) else if c ∈ os then .exc c d δ' else .bad
  | .bk _ => .bad
  | .ct _ => .bad
  | o => o
abbrev Sc.quiet (C : Sc) : Sc := ⟨C.F, fun _ _ _ _ => False, C.fld, C.XO, C.L, C.fr⟩
section
variable {X : Cx} {C : Sc} {O : List Nat} {gb gh : Sm} {pos : Pos} {x : Str}
theorem s_try_only {cs os : List Str} {body suite : List Stmt} {b₀ : Stmt} {np pos' : Pos} (hs : X.stack = X.env :: X.outer) (hf : X.env.frame = some X.env.locals) {vc : Value} (hc : Names X x vc) (tk : Takes X C.W)
    (hcs : ∀ c ∈ cs, PySem.W.exmOne X.K (.ref (C.F.cm c)) vc = some true) (hos : ∀ c ∈ os, PySem.W.exmOne X.K (.ref (C.F.cm c)) vc = some false)
    (hb : ∀ (W : WX) (pn : List (Addr × Obj)) (xe : Value → Shared → Prop), Takes (X.tr pn xe) W → PassesOwn (model X.prog X.w) X.A X.env xe → ∀ (z : Hp × Hp × List Addr), PSs (X.tr pn xe) body (tS (C.try_ W O z.1 z.2.1 z.2.2) O O gb))
    (hsu : ∀ (a : Addr) (oe : Obj) (pn : List (Addr × Obj)), PSs (X.suite a ((a, oe) :: pn)) (b₀ :: suite) (tS C.quiet O O gh)) (hx : C.XO O := by trivial) :
    PS X (.Try body [.ExceptHandler (some (.Name x np)) none (b₀ :: suite) pos'] [] [] pos) (tS C O O (sTryO cs os gb gh)) :=
  ps_imp (ps_try_only (Wout := C.W) (tb := fun W D σ H => ∃ z : Hp × Hp × List Addr, tS (C.try_ W O z.1 z.2.1 z.2.2) O O gb D σ H) (ts := fun _ _ _ => tS C.quiet O O gh) hs hf hc tk (fun W pn xe t q => pss_ex fun z => hb W pn xe t q z) (fun a oe _ _ pn _ _ => hsu a oe pn)) fun D σ H ⟨G, δ, st, m⟩ => by
    refine ⟨(G, H, ownS O σ), G, δ, st.enter, ?_⟩
    unfold sTryO at m
    cases e : gb δ with
    | nx δ' => rw [e] at m; exact fun σ' G' H' s' t => m σ' G' H' s' (st.leave t)
    | rt d δ' => rw [e] at m; exact fun v G' H' r rv fq => m v G' H' (ret_leave st r) rv (fr_leave st fq)
    | bk δ' => rw [e] at m; exact m.elim
    | ct δ' => rw [e] at m; exact m.elim
    | bad => rw [e] at m; exact m
    | exc c dv δ' =>
      rw [e] at m
      simp only at m
      intro O'' σ' G' H' cl d hO t xr
      have hO : O'' = O := hO
      subst hO
      have ecl : cl = .ref (C.F.cm c) := xr.1
      have sg : Same G G' := t.ext.g
      have st' := st.leave t
      by_cases h1 : c ∈ cs
      · rw [if_pos h1] at m
        refine ⟨true, by rw [ecl]; exact hcs c h1, fun _ a ha => ⟨G', δ', st', ?_⟩, fun z => Bool.noConfusion z⟩
        cases eg : gh δ' with
        | nx δ2 => rw [eg] at m; exact fun σ3 G3 H3 s3 st3 => m _ G3 H3 (sg.trans s3) st3
        | rt d δ2 => rw [eg] at m; exact m
        | bk δ2 => rw [eg] at m; exact m.elim
        | ct δ2 => rw [eg] at m; exact m.elim
        | exc c2 d2 δ2 => rw [eg] at m; exact m.elim
        | bad => rw [eg] at m; exact m
      · rw [if_neg h1] at m
        by_cases h2 : c ∈ os
        · rw [if_pos h2] at m
          exact ⟨false, by rw [ecl]; exact hos c h2, fun z => Bool.noConfusion z, fun _ => m O'' σ' G' H' cl d hx st' xr⟩
        · rw [if_neg h2] at m
          exact m.elim
end
end Mi

end
section
set_option Elab.async false
set_option linter.all false
set_option maxRecDepth 100000
set_option autoImplicit false
set_option maxHeartbeats 4000000
/-! dicts whose keys are tuples of ints -/
namespace Mi
open PySem PySem.Spec PyProof.Rows L2
def keyT (d : D) : Option (List Int) := match d with
  | .tup xs => intsO xs
  | _ => none
theorem dt_ints : ∀ ns : List Int, intsO (ns.map D.int) = some ns
  | [] => rfl
  | n :: r => by rw [List.map_cons]; unfold intsO; rw [dt_ints r]; rfl
theorem keyT_tup (ns : List Int) : keyT (.tup (ns.map D.int)) = some ns := dt_ints ns
/-- the value at a key -/
def valT : List (D × D) → List Int → Option D
  | [], _ => none
  | (q, d) :: r, k => if keyT q = some k then some d else valT r k
def putT (ds : List (D × D)) (k : List Int) (d : D) : List (D × D) := if (valT ds k).isSome = true then ds.map (fun p => if keyT p.1 = some k then (p.1, d) else p) else ds ++ [(.tup (k.map .int), d)]
section
variable {K : PySem.W.Frag} {cm : CM} {G H : Hp}
theorem key_tq {v : V} {d : D} {ns : List Int} (r : Rp K cm G v d) (h : keyT d = some ns) : ∃ b, v = .ref b ∧ TqT K G b (ns.map .int) := by
  cases r <;> simp [keyT] at h
  rename_i q rs
  exact ⟨_, rfl, by rw [← rs.ints h]; exact q⟩
theorem valT_rel {k : List Int} : ∀ {kvs : KVI} {ds : List (D × D)}, Rts K cm G kvs ds → (∀ d, valT ds k = some d → ∃ v, valI kvs k = some v ∧ Rp K cm G v d) ∧ (valT ds k = none → valI kvs k = none)
  | _, _, .nil => ⟨fun d (h : (none : Option D) = some d) => (nomatch h), fun _ => rfl⟩
  | _, _, .cons (k := q) (b := b) (v := v) (d := d) tq r t => by
    obtain ⟨a, c⟩ := valT_rel (k := k) t
    by_cases e : q = k
    · have e1 : keyT (.tup (q.map .int)) = some k := by rw [e, keyT_tup]
      unfold valT valI
      rw [if_pos e1, if_pos e]
      exact ⟨fun d' h => by cases h; exact ⟨v, rfl, r⟩, fun h => nomatch h⟩
    · have e1 : ¬ keyT (.tup (q.map .int)) = some k := by rw [keyT_tup]; exact fun z => e (Option.some.inj z)
      unfold valT valI
      rw [if_neg e1, if_neg e]
      exact ⟨a, c⟩
theorem valT_some {k : List Int} {kvs : KVI} {ds : List (D × D)} (r : Rts K cm G kvs ds) : (valI kvs k).isSome = (valT ds k).isSome := by
  obtain ⟨a, b⟩ := valT_rel (k := k) r
  cases h : valT ds k with
  | none => rw [b h]; rfl
  | some d =>
    obtain ⟨v, h1, _⟩ := a d h
    rw [h1]
    rfl
theorem Rts.ks (gh : Same G H) : ∀ {kvs : KVI} {ds : List (D × D)}, Rts K cm G kvs ds → KsI K H kvs
  | _, _, .nil => fun _ h => nomatch h
  | _, _, .cons tq r t => fun p hp => by
    rcases List.mem_cons.mp hp with e | hp
    · subst e; exact same_sqT gh tq.sq
    · exact Rts.ks gh t p hp
theorem Rts.len : ∀ {kvs : KVI} {ds : List (D × D)}, Rts K cm G kvs ds → kvs.length = ds.length
  | _, _, .nil => rfl
  | _, _, .cons _ _ t => congrArg (· + 1) t.len
theorem Rts.keys : ∀ {kvs : KVI} {ds : List (D × D)}, Rts K cm G kvs ds → Rps K cm G (kvs.map fun p => V.ref p.2.1) (ds.map (·.1))
  | _, _, .nil => .nil
  | _, _, .cons (k := k) tq _ t => .cons (.tup tq (rps_ints k)) t.keys
theorem Rts.app1 {k : List Int} {b : Addr} {v : V} {d : D} (tq : TqT K G b (k.map .int)) (rv : Rp K cm G v d) : ∀ {kvs : KVI} {ds : List (D × D)}, Rts K cm G kvs ds → Rts K cm G (kvs ++ [(k, b, v)]) (ds ++ [(.tup (k.map .int), d)])
  | _, _, .nil => .cons tq rv .nil
  | _, _, .cons q r t => .cons q r (Rts.app1 tq rv t)
theorem Rts.rep {k : List Int} {v : V} {d : D} (rv : Rp K cm G v d) : ∀ {kvs : KVI} {ds : List (D × D)}, Rts K cm G kvs ds → Rts K cm G (kvs.map fun p => if p.1 = k then (p.1, p.2.1, v) else p) (ds.map fun p => if keyT p.1 = some k then (p.1, d) else p)
  | _, _, .nil => .nil
  | _, _, .cons (k := q) (b := b) (v := v0) (d := d0) tq r t => by
    have ih := Rts.rep (k := k) rv t
    rw [List.map_cons, List.map_cons]
    by_cases e : q = k
    · rw [if_pos (show (q, b, v0).1 = k from e), if_pos (show keyT ((D.tup (q.map .int), d0) : D × D).1 = some k by rw [← e]; exact keyT_tup q)]
      exact .cons tq rv ih
    · rw [if_neg (show ¬ (q, b, v0).1 = k from e), if_neg (show ¬ keyT ((D.tup (q.map .int), d0) : D × D).1 = some k from fun z => e (Option.some.inj ((keyT_tup q).symm.trans z)))]
      exact .cons tq r ih
theorem Rts.put {k : List Int} {b : Addr} {v : V} {d : D} {kvs : KVI} {ds : List (D × D)} (r : Rts K cm G kvs ds) (tq : TqT K G b (k.map .int)) (rv : Rp K cm G v d) : Rts K cm G (putI kvs k b v) (putT ds k d) := by
  unfold putI putT
  rw [valT_some r]
  split
  · exact Rts.rep rv r
  · exact Rts.app1 tq rv r
theorem Vw.dit {v : V} {ds : List (D × D)} (gh : Same G H) (h : Vw K cm G H v (.dit ds)) : ∃ a o kvs, v = .ref a ∧ Rd H a (DTO a o kvs) ∧ Rts K cm G kvs ds := by
  rcases h with h | ⟨a, rfl, h⟩
  · cases h with
    | @dit _ o' _ _ h r =>
      refine ⟨_, o', _, rfl, ?_, r⟩
      rcases h with h | ⟨o, h⟩
      · exact .inl (gh _ _ h)
      · exact .inr ⟨o, gh _ _ h⟩
  · obtain ⟨o, kvs, q, r⟩ := h
    exact ⟨a, o, kvs, rfl, .inl q, r⟩
theorem Vw.keyT {v : V} {d : D} {ns : List Int} (gh : Same G H) (h : Vw K cm G H v d) (hk : keyT d = some ns) : ∃ b, v = .ref b ∧ SqT K H b (ns.map .int) := by
  rcases h with h | ⟨a, rfl, h⟩
  · obtain ⟨b, e, q⟩ := key_tq h hk
    exact ⟨b, e, same_sqT gh q.sq⟩
  · cases d <;> first | exact h.elim | simp [Mi.keyT] at hk
/-- x in d -/
def tinO (x y : D) : Option Bool := match y with
  | .dit ds => (Mi.keyT x).map fun k => (valT ds k).isSome
  | _ => none
def tinD (x y : D) : Option D := (tinO x y).map .bl
def tninD (x y : D) : Option D := (tinO x y).map fun b => .bl (!b)
def rTin (K : PySem.W.Frag) (f : Bool → Bool) : R2 := fun x y H Q => ∃ a o kvs b ns, y = .ref a ∧ x = .ref b ∧ Rd H a (DTO a o kvs) ∧ KsI K H kvs ∧ SqT K H b (ns.map V.int) ∧ Q (.bl (f (valI kvs ns).isSome)) H
theorem a_tin' {f : Bool → Bool} : S2 K cm (rTin K f) fun x y => (tinO x y).map fun b => .bl (f b) := fun G H v w d e d' Q gh v1 v2 ho (a : Ans K cm G H d' Q) => by
  obtain ⟨b, hb, rfl⟩ := Option.map_eq_some_iff.mp ho
  unfold tinO at hb
  cases e with
  | dit ds =>
    obtain ⟨k, hk, rfl⟩ := Option.map_eq_some_iff.mp hb
    obtain ⟨p, o, kvs, rfl, hd, r⟩ := v2.dit gh
    obtain ⟨q, rfl, sq⟩ := v1.keyT gh hk
    exact ⟨p, o, kvs, q, k, rfl, rfl, hd, r.ks gh, sq, by rw [valT_some r]; exact a.now gh (.bl _)⟩
  | _ => cases hb
theorem a_tin : S2 K cm (rTin K id) tinD := a_tin' (f := id)
theorem a_tnin : S2 K cm (rTin K not) tninD := a_tin' (f := not)
/-- d[k] -/
def tgetD (x y : D) : Option D := match x with
  | .dit ds => (Mi.keyT y).bind fun k => valT ds k
  | _ => none
def rTget (K : PySem.W.Frag) : R2 := fun x y H Q => ∃ a o kvs b ns v, x = .ref a ∧ y = .ref b ∧ Rd H a (DTO a o kvs) ∧ KsI K H kvs ∧ SqT K H b (ns.map V.int) ∧ valI kvs ns = some v ∧ Q v H
theorem a_tget : S2 K cm (rTget K) tgetD := fun G H v w d e d' Q gh v1 v2 ho (a : Ans K cm G H d' Q) => by
  unfold tgetD at ho
  cases d with
  | dit ds =>
    obtain ⟨k, hk, hv⟩ := Option.bind_eq_some_iff.mp ho
    obtain ⟨p, o, kvs, rfl, hd, r⟩ := v1.dit gh
    obtain ⟨q, rfl, sq⟩ := v2.keyT gh hk
    obtain ⟨u, hu, ru⟩ := (valT_rel r).1 d' hv
    exact ⟨p, o, kvs, q, k, u, rfl, rfl, hd, r.ks gh, sq, hu, a.now gh ru⟩
  | _ => cases ho
/-- list(d) -/
def tlistD (d : D) : Option D := match d with
  | .dit ds => some (.lst (ds.map (·.1)))
  | _ => none
theorem a_tlist : N1 K cm (fun v H Q => ∃ (d : Addr) (o : Obj) (kvs : KVI), [v] = [.ref d] ∧ Rd H d (DTO d o kvs) ∧ ∀ p, H p = none → Q (.ref p) (upd H p (.lst (kvs.map fun p => V.ref p.2.1)))) tlistD := fun G H v d d' Q gh v1 ho a => by
  unfold tlistD at ho
  cases d with
  | dit ds =>
    cases ho
    obtain ⟨p, o, kvs, rfl, hd, r⟩ := v1.dit gh
    exact ⟨p, o, kvs, rfl, hd, fun q hq => a q _ hq ⟨_, upd_same, r.keys⟩⟩
  | _ => cases ho
end
section
variable {X : Cx} {C : Sc} {O : List Nat} {a b e v : Expr} {fa fb fk fv : Ex} {pos p : Pos} {i k : Nat} {x : Str}
theorem pc_tin {ty td : TE} (hu : X.A.units + 1 < cLine) (hi : PE X a ty) (ho : PE X b td) : PC X .In a b (tOp (rTin X.K id) ty td) := ⟨fun pins s σ H Q I h => by
  refine thn (hi.run pins s σ H _ I h) fun iv s1 ⟨y, H1, I1, ry, q1⟩ => thn (ho.run pins s1 σ H1 _ I1 q1) fun u s2 ⟨x, H2, I2, rx, p, o, kvs, q, ns, ex, ey, hd, hk, sq, q2⟩ => ?_
  subst ex ey
  obtain rfl : u = Value.ref p := rx
  obtain rfl : iv = Value.ref q := ry
  exact ti_in hu I2 hd hk sq fun s3 I3 => ⟨.bl _, H2, I3, rfl, q2⟩⟩
theorem pc_tnin {ty td : TE} (hu : X.A.units + 1 < cLine) (hi : PE X a ty) (ho : PE X b td) : PC X .NotIn a b (tOp (rTin X.K not) ty td) := ⟨fun pins s σ H Q I h => by
  refine thn (hi.run pins s σ H _ I h) fun iv s1 ⟨y, H1, I1, ry, q1⟩ => thn (ho.run pins s1 σ H1 _ I1 q1) fun u s2 ⟨x, H2, I2, rx, p, o, kvs, q, ns, ex, ey, hd, hk, sq, q2⟩ => ?_
  subst ex ey
  obtain rfl : u = Value.ref p := rx
  obtain rfl : iv = Value.ref q := ry
  exact ti_notIn hu I2 hd hk sq fun s3 I3 => ⟨.bl _, H2, I3, rfl, q2⟩⟩
theorem d_tin (hK : C.F.K = X.K) (hr : Room k X.A) (ha : PE X a (tD C O fa)) (hb : PE X b (tW C O fb)) (h1 : behindInMarks .In b = false := by with_unfolding_all rfl) : PE X (.Compare a [.In] [b] pos) (tD C O (e2 tinD fa fb)) := d_2 (hK ▸ a_tin) (pe_cmp (pc_tin (hu_of hr) ha hb) h1)
theorem d_tnin (hK : C.F.K = X.K) (hr : Room k X.A) (ha : PE X a (tD C O fa)) (hb : PE X b (tW C O fb)) (h1 : behindInMarks .NotIn b = false := by with_unfolding_all rfl) : PE X (.Compare a [.NotIn] [b] pos) (tD C O (e2 tninD fa fb)) := d_2 (hK ▸ a_tnin) (pe_cmp (pc_tnin (hu_of hr) ha hb) h1)
theorem t_tin (hK : C.F.K = X.K) (hr : Room k X.A) (ha : PE X a (tD C O fa)) (hb : PE X b (tW C O fb)) (h1 : behindInMarks .In b = false := by with_unfolding_all rfl) : PT X (.Compare a [.In] [b] pos) (tDT C O (e2 tinD fa fb)) := t_2 (hK ▸ a_tin) (pt_cmp (pc_tin (hu_of hr) ha hb) h1)
theorem t_tnin (hK : C.F.K = X.K) (hr : Room k X.A) (ha : PE X a (tD C O fa)) (hb : PE X b (tW C O fb)) (h1 : behindInMarks .NotIn b = false := by with_unfolding_all rfl) : PT X (.Compare a [.NotIn] [b] pos) (tDT C O (e2 tninD fa fb)) := t_2 (hK ▸ a_tnin) (pt_cmp (pc_tnin (hu_of hr) ha hb) h1)
theorem pe_tget {td ty : TE} (hu : X.A.units + 1 < cLine) (ho : PE X a td) (hi : PE X b ty) (hs : NoSl b) : PE X (.Subscript a b pos) (tOp (rTget X.K) td ty) := by
  refine ⟨fun pins s σ H Q I h => ?_⟩
  refine subD_of PySem.F.slot_dict_getitem.lookup hs (thn (ho.run pins s σ H _ I h) fun u s1 ⟨x, H1, I1, rx, q1⟩ => thn (hi.run pins s1 σ H1 _ I1 q1) fun iv s2 ⟨y, H2, I2, ry, p, o, kvs, q, ns, v, ex, ey, hd, hk, sq, hv, q2⟩ => ?_)
  subst ex ey
  obtain rfl : u = Value.ref p := rx
  obtain rfl : iv = Value.ref q := ry
  refine ⟨?_, ti_get hu I2 hd hk sq hv fun w' s3 I3 rw' => ⟨v, H2, I3, rw', q2⟩⟩
  obtain ⟨_, _, _, _, dd⟩ := dti_rd I2 hd hk
  exact dd.typeIs
theorem d_tget (hK : C.F.K = X.K) (hr : Room k X.A) (ha : PE X a (tD C O fa)) (hb : PE X b (tW C O fb)) (hs : NoSl b := by intro _ _; rfl) : PE X (.Subscript a b pos) (tD C O (e2 tgetD fa fb)) := d_2 (hK ▸ a_tget) (pe_tget (hu_of hr) ha hb hs)
theorem d_tgetO (hK : C.F.K = X.K) (hr : Room k X.A) (hi : i ∈ O) (ha : PE X a (tVar i)) (hb : PE X b (tW C O fb)) (hs : NoSl b := by intro _ _; rfl) : PE X (.Subscript a b pos) (tD C O (eO2 tgetD i fb)) := d_o2 hi (hK ▸ a_tget) (pe_tget (hu_of hr) ha hb hs)
/-- x[k] = e, x the def's own dict in slot i -/
noncomputable def sSetT (i : Nat) (k e : Ex) : Sm := fun δ => (e δ).out fun v δ1 => (k δ1).out fun kk δ2 => (eV i δ2).out fun x δ3 => match x, keyT kk with
  | .dit ds, some q => if ds.length < cap then .nx (δ3.set i (some (.dit (putT ds q v)))) else .bad
  | _, _ => .bad
/-- d[y] = v -/
def sTPut (K : PySem.W.Frag) (td ty tv : TE) : TS := fun D σ H => tv σ H fun v H1 => td σ H1 fun x H2 => ty σ H2 fun y H3 => ∃ a o kvs b ns, x = .ref a ∧ y = .ref b ∧ H3 a = some (DTO a o kvs) ∧ KsI K H3 kvs ∧ SqT K H3 b (ns.map V.int) ∧ kvs.length < sizeLine ∧
  ∀ o', D.nx σ (upd H3 a (DTO a o' (putI kvs ns b v)))
theorem ps_tput {td ty tv : TE} {pos' : Pos} (hu : X.A.units + 1 < cLine) (ho : PE X a td) (hi : PE X b ty) (hv : PE X v tv) (hs : swapsWith v (some (.Subscript a b pos')) pos.line X.env = pure false) :
    PS X (.Assign [.Subscript a b pos'] v pos) (sTPut X.K td ty tv) := by
  refine ⟨fun pins s σ H D I h => ?_⟩
  refine wpAny_Assign_Subscript (thn (hv.run pins s σ H _ I h) fun r s1 ⟨v, H1, I1, rv, q1⟩ => thn (ho.run pins s1 σ H1 _ I1 q1) fun u s2 ⟨x, H2, I2, rx, q2⟩ => thn (hi.run pins s2 σ H2 _ I2 q2) fun iv s3 ⟨y, H3, I3, ry, a, o, kvs, q, ns, ex, ey, hd, hk, sq, hl, q3⟩ => ?_) hs
  subst ex ey
  obtain rfl : u = Value.ref a := rx
  obtain rfl : iv = Value.ref q := ry
  exact ti_set hu I3 hd hk sq hl rv fun o' s4 I4 => ⟨σ, _, I4, q3 o'⟩
theorem s_setT {sp : Pos} (hK : C.F.K = X.K) (hi : i ∈ O) (h : PS X (.Assign [.Subscript (.Name x p) b sp] a pos) (sTPut X.K (tVar i) (tD C O fb) (tD C O fa))) (hx : C.XO O := by trivial) :
    PS X (.Assign [.Subscript (.Name x p) b sp] a pos) (tS C O O (sSetT i fb fa)) := ps_imp h fun D σ H ⟨G, δ, st, m⟩ => by
  unfold sSetT at m
  refine r_out hx st m fun d v G1 H1 δ1 s1 st1 rv m1 => ?_
  obtain ⟨l, _, e1, _, _, _⟩ := st1.ownL hi
  refine ⟨_, e1, ?_⟩
  refine r_out hx st1 m1 fun k w G2 H2 δ2 s2 st2 rw2 m2 => ?_
  obtain ⟨l', d', e1', ev, na, o⟩ := st2.ownL hi
  rw [e1] at e1'
  cases e1'
  rw [ev, Res.out_ok] at m2
  cases d' with
  | dit ds =>
    cases hk : keyT k with
    | none => simp only [hk] at m2; exact m2.elim
    | some q =>
      simp only [hk] at m2
      obtain ⟨ob, kvs, hq, r⟩ := o
      by_cases hc : ds.length < cap
      case neg => rw [if_neg hc] at m2; exact m2.elim
      rw [if_pos hc] at m2
      obtain ⟨b, rfl, tq⟩ := key_tq rw2 hk
      refine ⟨l, ob, kvs, b, q, rfl, rfl, hq, hK ▸ r.ks st2.gh, hK ▸ same_sqT st2.gh tq.sq, by rw [r.len]; exact Nat.lt_trans hc cap_line, fun o' => ?_⟩
      obtain ⟨st3, ex⟩ := st2.mut (u := DTO l o' (putI kvs q b v)) hi e1 na (by rw [hq]; exact fun z => nomatch z) (d := .dit (putT ds q d)) ⟨o', _, upd_same, r.put tq (rv.mono s2.g)⟩
      exact m2 σ G2 _ (.refl G2) st3
  | _ => exact m2.elim
/-- {k: v}, k a tuple of ints -/
def eTd (fk fv : Ex) : Ex := fun δ => (fk δ).bind fun k δ1 => (fv δ1).bind fun v δ2 => Res.opt ((keyT k).map fun _ => .dit [(k, v)]) δ2
theorem upd_free {F : Fm} {G H : Hp} {σ : L2.St} {δ : Env} {q : Addr} {u : HO} (st : Stt F O G H σ δ) (n : G q = none) (nf : F.H q = none) (no : ∀ i ∈ O, σ[i]? ≠ some (some (V.ref q))) {w : HO} (hw : H q = some w) (nc : NC q w) (nu : NT u := by intro _ h; cases h) : Stt F O G (upd H q u) σ δ where
  tabs := st.tabs.go (.upd hw nc nu)
  kp := st.kp
  ext := ⟨st.ext.g, st.gh.own n, fun b o hb hn ht => by
      rw [upd_ne (fun z => by rw [z, nf] at hb; cases hb)]
      exact st.ext.keep b o hb hn ht, st.ext.new, fun b hb => by
      rw [upd_ne (fun z => hb (by rw [z]; exact nf))]
      exact st.ext.dom b hb, st.ext.tab.trans (.upd hw nc nu)⟩
  ln := st.ln
  le := st.le
  sh := st.sh
  ow := fun j hj => by
    obtain ⟨a, dj, e1, e2, na, o, z⟩ := st.ow j hj
    exact ⟨a, dj, e1, e2, na, o.mono (.refl G) (upd_ne fun z => no j hj (by rw [e1, z])), z⟩
  dis := st.dis
  fix := st.fix
theorem ext_free {T : List (Addr × Str)} {S : List Addr} {G H G1 H1 : Hp} {q : Addr} {u : HO} (a : Ext T S G H G1 H1) (n : G1 q = none) (hq : H q = none) {w : HO} (hw : H1 q = some w) (nc : NC q w) (nu : NT u := by intro _ h; cases h) : Ext T S G H G1 (upd H1 q u) := ⟨a.g, a.gh.own n, fun b o hb hn ht => by
    rw [upd_ne (fun z => by rw [z, hq] at hb; cases hb)]
    exact a.keep b o hb hn ht, a.new, fun b hb => by
    rw [upd_ne (fun z => hb (by rw [z]; exact hq))]
    exact a.dom b hb, a.tab.trans (.upd hw nc nu)⟩
theorem n_tnew (hK : C.F.K = X.K) (hr : Room k X.A) (hk : PE X a (tD C O fk)) (hv : PE X b (tD C O fv)) : PE X (.Dict [some a] [b] pos) (tN C O (eTd fk fv)) := pe_imp (pe_dispT (hu_of hr) hk hv) fun σ H Q ⟨G, δ, st, m⟩ q ob hq => by
  obtain ⟨f1, f2, f3, f4⟩ := fresh_facts (u := DTO q ob []) st hq
  have nS : q ∉ ownS O σ := fun z => by
    obtain ⟨i, hi, e⟩ := mem_ownS.mp z
    exact f4 i hi e
  refine ⟨G, δ, f1, ?_⟩
  unfold eTd at m
  have s0 : Ext C.F.cm.T (ownS O σ) G H G (upd H q (DTO q ob [])) := (Ext.refl st.gh).and (Ext.fresh st.gh hq)
  cases e : fk δ with
  | exc c d δ' => rw [e] at m; exact m
  | bad => rw [e] at m; exact m
  | ok kd δ1 =>
    rw [e, Res.bind_ok] at m
    intro kv G1 H1 s1 st1 rk
    refine ⟨G1, δ1, st1, ?_⟩
    cases e2 : fv δ1 with
    | exc c d δ' => rw [e2] at m; exact m
    | bad => rw [e2] at m; exact m
    | ok vd δ2 =>
      rw [e2, Res.bind_ok] at m
      intro vv G2 H2 s2 st2 rv
      cases hk : keyT kd with
      | none => rw [hk] at m; exact m.elim
      | some ns =>
        rw [hk] at m
        obtain ⟨bb, rfl, tq⟩ := key_tq (rk.mono s2.g) hk
        have s02 : Ext _ (ownS O σ) (G) (upd H q (DTO q ob [])) G2 H2 := s1.thn s2
        have hp : H2 q = some (DTO q ob []) := s02.keep q _ upd_same nS nc_dto.1
        have n2 : G2 q = none := (s02.new q (by rw [upd_same]; exact fun z => nomatch z)).trans f2
        refine ⟨bb, ns, rfl, hK ▸ same_sqT st2.gh tq.sq, hp, fun o' => ?_⟩
        have em : D.dit [(kd, vd)] = .dit [(.tup (ns.map .int), vd)] := by
          cases rk with
          | tup _ r =>
            have h2 : ∀ {ds : List D} {ns : List Int}, intsO ds = some ns → ds = ns.map D.int := by
              intro ds
              induction ds with
              | nil => intro ns h; cases h; rfl
              | cons d r ih =>
                intro ns h
                cases d <;> first | cases h | skip
                obtain ⟨ns', h1, rfl⟩ := Option.map_eq_some_iff.mp h
                rw [List.map_cons, ← ih h1]
            rw [h2 hk]
          | _ => cases hk
        refine m q G2 _ (ext_free (s0.thn s02) n2 hq hp nc_dto) (upd_free st2 n2 f3 f4 hp nc_dto) n2 hq ?_
        show OwnAt C.F.K C.F.cm G2 _ q (D.dit [(kd, vd)])
        rw [em]
        exact ⟨o', _, upd_same, .cons tq rv .nil⟩
end
end Mi

end
section
set_option Elab.async false
set_option linter.all false
set_option maxRecDepth 100000
set_option autoImplicit false
set_option maxHeartbeats 4000000
/-! d.get(k, x); dict([(k, v), ..]) -/
namespace Mi
open PySem PySem.Spec PyProof.Rows L2
/-- d.get(k, z) -/
def getdD (x k z : D) : Option D := match x with
  | .dic ds => (keyD k).map fun q => (valD ds q).getD z
  | _ => none
def isDic : D → Bool
  | .dic _ => true
  | _ => false
def eGet (fa fb fc : Ex) : Ex := fun δ => (fa δ).bind fun x δ0 => if isDic x = true then ((fb δ0).bind fun k δ1 => (fc δ1).bind fun z δ2 => Res.opt (getdD x k z) δ2) else .bad
def eGetO (i : Nat) (fb fc : Ex) : Ex := fun δ => (eV i δ).bind fun x δ0 => if isDic x = true then ((fb δ0).bind fun k δ1 => (fc δ1).bind fun z δ2 => (eV i δ2).bind fun x2 δ3 => Res.opt (getdD x2 k z) δ3) else .bad
theorem isDic_of {d : D} (h : isDic d = true) : ∃ ds, d = .dic ds := by
  cases d with
  | dic ds => exact ⟨ds, rfl⟩
  | _ => cases h
theorem get_of {K : PySem.W.Frag} {cm : CM} {G H : Hp} {v w z : V} {d e f d' : D} (gh : Same G H) (v1 : Vw K cm G H v d) (v2 : Rp K cm G w e) (v3 : Rp K cm G z f) (h : getdD d e f = some d') :
    ∃ a o, v = .ref a ∧ DGet H a w o ∧ Rp K cm G (o.getD z) d' := by
  unfold getdD at h
  cases d with
  | dic ds =>
    obtain ⟨k, hk, rfl⟩ := Option.map_eq_some_iff.mp h
    obtain ⟨a, kvs, rfl, hd, r⟩ := v1.dic gh
    refine ⟨a, _, rfl, .inl ⟨kvs, k, hd, keyD_v v2 hk, rfl⟩, ?_⟩
    obtain ⟨h1, h2⟩ := valD_rel (k := k) r
    cases e1 : valD ds k with
    | none => rw [h2 e1]; exact v3
    | some d0 =>
      obtain ⟨u, h3, h4⟩ := h1 d0 e1
      rw [h3]
      exact h4
  | _ => cases h
section
variable {X : Cx} {C : Sc} {O : List Nat} {a b c : Expr} {fa fb fc : Ex} {pos p apos : Pos} {i k : Nat} {x : Str}
theorem d_get (hr : Room k X.A) (ha : PE X a (tD C O fa)) (hb : PE X b (tD C O fb)) (hc : PE X c (tD C O fc)) (m : M2 X a "get" apos b c pos) : PE X (.Call (.Attribute a "get" apos) [b, c] [] pos) (tD C O (eGet fa fb fc)) :=
  pe_imp (pe_dget2 (by have := hr.un; omega) ha hb hc m) fun σ H Q ⟨G, δ, st, mm⟩ => by
  refine ⟨G, δ, st, ?_⟩
  unfold eGet at mm
  cases e : fa δ with
  | exc c d δ' => rw [e] at mm; exact mm
  | bad => rw [e] at mm; exact mm
  | ok d δ1 =>
    rw [e, Res.bind_ok] at mm
    intro v G1 H1 s1 st1 rv
    by_cases hd : isDic d = true
    case neg => rw [if_neg hd] at mm; exact mm.elim
    rw [if_pos hd] at mm
    obtain ⟨ds, rfl⟩ := isDic_of hd
    obtain ⟨ad, kvs, rfl, hk, _⟩ := Vw.dic st1.gh.s (.inl rv)
    refine ⟨ad, rfl, .inl ⟨kvs, hk⟩, G1, δ1, st1, ?_⟩
    cases eb : fb δ1 with
    | exc c d δ' => rw [eb] at mm; exact mm
    | bad => rw [eb] at mm; exact mm
    | ok kd δ2 =>
      rw [eb, Res.bind_ok] at mm
      intro w G2 H2 s2 st2 rw2
      refine ⟨G2, δ2, st2, ?_⟩
      cases ec : fc δ2 with
      | exc c d δ' => rw [ec] at mm; exact mm
      | bad => rw [ec] at mm; exact mm
      | ok zd δ3 =>
        rw [ec, Res.bind_ok] at mm
        intro z G3 H3 s3 st3 rz
        cases eo : getdD (.dic ds) kd zd with
        | none => rw [eo] at mm; exact mm.elim
        | some d' =>
          rw [eo] at mm
          obtain ⟨a', o, ea, hg, ro⟩ := get_of st3.gh.s (.inl (rv.mono (s2.g.trans s3.g))) (rw2.mono s3.g) rz eo
          cases ea
          exact ⟨o, hg, mm _ G3 H3 ((s1.thn s2).thn s3) st3 ro⟩
theorem d_getO (hr : Room k X.A) (hi : i ∈ O) (ha : PE X (.Name x p) (tVar i)) (hb : PE X b (tD C O fb)) (hc : PE X c (tD C O fc)) (m : M2 X (.Name x p) "get" apos b c pos) : PE X (.Call (.Attribute (.Name x p) "get" apos) [b, c] [] pos) (tD C O (eGetO i fb fc)) :=
  pe_imp (pe_dget2 (by have := hr.un; omega) ha hb hc m) fun σ H Q ⟨G, δ, st, mm⟩ => by
  unfold eGetO at mm
  obtain ⟨a0, d0, e1, e2, _, o0, _⟩ := st.ow i hi
  refine ⟨_, e1, ?_⟩
  have ev : eV i δ = .ok d0 δ := by unfold eV; rw [e2]
  rw [ev, Res.bind_ok] at mm
  by_cases hd : isDic d0 = true
  case neg => rw [if_neg hd] at mm; exact mm.elim
  rw [if_pos hd] at mm
  obtain ⟨ds0, rfl⟩ := isDic_of hd
  obtain ⟨kvs0, hk0, _⟩ := id o0
  refine ⟨a0, rfl, .inl ⟨kvs0, .inl hk0⟩, G, δ, st, ?_⟩
  cases eb : fb δ with
  | exc c d δ' => rw [eb] at mm; exact mm
  | bad => rw [eb] at mm; exact mm
  | ok kd δ2 =>
    rw [eb, Res.bind_ok] at mm
    intro w G2 H2 s2 st2 rw2
    refine ⟨G2, δ2, st2, ?_⟩
    cases ec : fc δ2 with
    | exc c d δ' => rw [ec] at mm; exact mm
    | bad => rw [ec] at mm; exact mm
    | ok zd δ3 =>
      rw [ec, Res.bind_ok] at mm
      intro z G3 H3 s3 st3 rz
      obtain ⟨a3, d3, q1, q2, _, o3, _⟩ := st3.ow i hi
      rw [e1] at q1
      cases q1
      have ev3 : eV i δ3 = .ok d3 δ3 := by unfold eV; rw [q2]
      rw [ev3, Res.bind_ok] at mm
      cases eo : getdD d3 kd zd with
      | none => rw [eo] at mm; exact mm.elim
      | some d' =>
        rw [eo] at mm
        obtain ⟨a', o, ea, hg, ro⟩ := get_of st3.gh.s (.inr ⟨_, rfl, o3⟩) (rw2.mono s3.g) rz eo
        cases ea
        exact ⟨o, hg, mm _ G3 H3 (s2.thn s3) st3 ro⟩
end
/-! dict(list of pairs) -/
def pairO : D → Option (Key × D)
  | .tup [k, v] => (keyD k).map fun q => (q, v)
  | _ => none
def pairsO : List D → Option (List (Key × D))
  | [] => some []
  | d :: r => (pairO d).bind fun p => (pairsO r).map (p :: ·)
def mrgM : List (D × D) → List (Key × D) → List (D × D)
  | ds, [] => ds
  | ds, p :: r => mrgM (putM ds p.1 p.2) r
def dictLD (d : D) : Option D := match d with
  | .lst ds => (pairsO ds).map fun ps => .dic (mrgM [] ps)
  | _ => none
theorem mrg_rel {K : PySem.W.Frag} {cm : CM} {G : Hp} : ∀ {ps : List (Key × D)} {kvs : List (Key × V)} {acc : List (Key × V)} {ds : List (D × D)}, kvs.map (·.1) = ps.map (·.1) → Rps K cm G (kvs.map (·.2)) (ps.map (·.2)) → Rks K cm G acc ds → Rks K cm G (mergeK acc kvs) (mrgM ds ps)
  | [], [], _, _, _, _, r => r
  | [], _ :: _, _, _, h, _, _ => by cases h
  | _ :: _, [], _, _, h, _, _ => by cases h
  | p :: ps, kv :: kvs, acc, ds, h, hv, r => by
    rw [List.map_cons, List.map_cons] at h hv
    obtain ⟨h1, h2⟩ := List.cons.inj h
    cases hv with
    | cons rv t =>
      have r1 := r.put (k := p.1) rv
      show Rks K cm G (mergeK (putK acc kv.1 kv.2) kvs) (mrgM (putM ds p.1 p.2) ps)
      rw [h1]
      exact mrg_rel h2 t r1
theorem pairs_rel {K : PySem.W.Frag} {cm : CM} {G H : Hp} (gh : Same G H) : ∀ {ds : List D} {xs : List V} {ps : List (Key × D)}, Rps K cm G xs ds → pairsO ds = some ps → ∃ (as : List Addr) (kvs : List (Key × V)), xs = as.map V.ref ∧
    Paired (fun p kv => SqT K H p [kV kv.1, kv.2]) as kvs ∧ kvs.map (·.1) = ps.map (·.1) ∧ Rps K cm G (kvs.map (·.2)) (ps.map (·.2))
  | [], _, ps, .nil, h => by
    have e : (some [] : Option (List (Key × D))) = some ps := h
    cases e
    exact ⟨[], [], rfl, .nil, rfl, .nil⟩
  | d :: ds, _, ps, .cons (v := v) r t, h => by
    obtain ⟨p, hp, h2⟩ := Option.bind_eq_some_iff.mp (show ((pairO d).bind fun p => (pairsO ds).map (p :: ·)) = some ps from h)
    obtain ⟨ps', h3, rfl⟩ := Option.map_eq_some_iff.mp h2
    obtain ⟨as, kvs, e1, e2, e3, e4⟩ := pairs_rel gh t h3
    have key : ∃ a w, v = .ref a ∧ SqT K H a [kV p.1, w] ∧ Rp K cm G w p.2 := by
      cases r with
      | tup hq rq =>
        unfold pairO at hp
        cases rq with
        | nil => cases hp
        | cons r1 t1 =>
          cases t1 with
          | nil => cases hp
          | cons r2 t2 =>
            cases t2 with
            | nil =>
              obtain ⟨q, hq', rfl⟩ := Option.map_eq_some_iff.mp hp
              have e := keyD_v r1 hq'
              subst e
              exact ⟨_, _, rfl, same_sqT gh hq.sq, r2⟩
            | cons _ _ => cases hp
      | _ => cases hp
    obtain ⟨a, w, rfl, hs, rw'⟩ := key
    exact ⟨a :: as, (p.1, w) :: kvs, by rw [e1]; rfl, .cons hs e2, by rw [List.map_cons, List.map_cons, e3], .cons rw' e4⟩
theorem a_dictL {K : PySem.W.Frag} {cm : CM} : N1 K cm (fun v H Q => ∃ (a : Addr) (ps : List Addr) (kvs : List (Key × V)), [v] = [.ref a] ∧ SqL K H a (ps.map V.ref) ∧ Paired (fun p kv => SqT K H p [kV kv.1, kv.2]) ps kvs ∧
    ∀ p, H p = none → Q (.ref p) (upd H p (.dK (mergeK [] kvs)))) dictLD := fun G H v d d' Q gh v1 ho a => by
  unfold dictLD at ho
  cases d with
  | lst ds =>
    obtain ⟨ps, hp, rfl⟩ := Option.map_eq_some_iff.mp ho
    obtain ⟨l, xs, rfl, hl, r⟩ := v1.lst gh
    obtain ⟨as, kvs, rfl, e2, e3, e4⟩ := pairs_rel gh.s r hp
    exact ⟨l, as, kvs, rfl, hl, e2, fun q hq => a q _ hq ⟨_, upd_same, mrg_rel e3 e4 .nil⟩⟩
  | _ => cases ho
end Mi

end
section
set_option Elab.async false
set_option linter.all false
set_option maxRecDepth 100000
set_option autoImplicit false
set_option maxHeartbeats 4000000
/-! x != y by x's own __eq__; isinstance(x, C) of an own class -/
namespace PySem.W
open PySem PySem.Spec PyProof.Rows
section
variable {prog : Program} {w : World} {A : Around} {E : Value → Shared → Prop} {s : Shared} {K : Frag} {x y C L f : Addr} {h₀ : Heap} {m : Str → Option Value} {ox oy : Obj} {od oe : Option Obj}
theorem ifBound_objNe {M : Model} {args : List Value} {Q : Option Value → Shared → Prop} (X : K.In s.heap) (I : InstAt s.heap x ox C od) (hs : findIn K (.ref C) "__ne__" = some (some (.builtin "object.__ne__")))
    (h : wpAny M A (call (.builtin "object.__ne__") (.ref x :: args)) (fun v => Q (some v)) E s) : wpAny M A (callSpecialIfBound? (.ref x) "__ne__" args) Q E s := by
  simp only [callSpecialIfBound?, bindSpecialIfBound?]
  refine wpAny_holding (wpAny_bind (wpAny_bind (wpAny_bind (I.type.here ((looks_findIn X hs).here ?_)))))
  refine wpAny_bind (wpAny_askSetting (wpAny_ite ?_))
  have fin : wpAny M A (call (.builtin "object.__ne__") ([.ref x] ++ args) >>= fun v => pure (some v)) Q E s := wpAny_bind (wpAny_mono h (fun v s' h' => wpAny_pure h') fun _ _ h' => h')
  split
  · exact wpAny_bind (wpAny_of_eq (F.cmp_object.ne.bind _) (wpAny_pure (by exact fin)))
  · exact wpAny_tryCatch (wpAny_bind (wpAny_of_eq (F.cmp_object.ne.bind _) (wpAny_pure (by exact fin))))
theorem objNe_own {Q : Fin → Shared → Prop} (hu : A.units < cLine) (X : K.In s.heap) (I : InstAt s.heap x ox C od) (hs : findIn K (.ref C) "__eq__" = some (some (.ref f))) (hf : isFn K (.ref f) = true)
    (h : wpAny (model prog w) A (call (.ref f) [.ref x, .ref y]) (fun v s' => ∃ b, v = .bool b ∧ Q (.done (.ret (.bool (!b)))) s') E s) : wpAny (model prog w) A (Builtin.«object.__ne__» ⟨[.ref x, .ref y], []⟩) Q E s := by
  unfold Builtin.«object.__ne__»
  repeat (first
    | with_reducible refine wpAny_cRoomFor hu ?_
    | (refine wpAny_bind (m := callSpecialIfBound? (.ref x) (Str.ofString "__eq__") [.ref y])
        (ifBound_K X I hs hf (wpAny_mono h (fun r s' hr => by
          obtain ⟨b, rfl, hq⟩ := hr
          repeat (first | exact hq | exact wpAny_pure hq | exact wpAny_truthy_bool hq | (refine wpAny_bind (m := truthy (.bool _)) (wpAny_truthy_bool ?_)) | wp_step)) fun _ _ e => e)))
    | wp_step)
theorem ne_own {Q : Value → Shared → Prop} (hu : A.units + 1 < cLine) (F : Fr h₀ L s.heap m) (X₀ : K.In h₀) (I : InstAt s.heap x ox C od) (J : InstAt s.heap y oy C oe) (hn : findIn K (.ref C) "__ne__" = some (some (.builtin "object.__ne__"))) (hm : mroIn K C (.type "object") = some true)
    (hs : findIn K (.ref C) "__eq__" = some (some (.ref f))) (hf : isFn K (.ref f) = true)
    (h : wpAny (model prog w) A.in1 (call (.ref f) [.ref x, .ref y]) (fun v s' => ∃ b, v = .bool b ∧ Q (.bool (!b)) s') E s) : wpAny (model prog w) A (richCompare .NotEq (.ref x) (.ref y)) Q E s := by
  have X := X₀.keeps F.keep
  have hu1 : A.in1.units < cLine := by show A.units + 1 < cLine; exact hu
  have one : wpAny (model prog w) A (tryCompare (.ref x) (cmpInfo .NotEq).2.1 (.ref y)) (fun r s' => ∃ v, r = some v ∧ Q v s') E s := by
    unfold tryCompare
    refine wpAny_bind (ifBound_objNe X I hn (wpAny_call (codeAny_call_builtin PySem.F.cmp_object.ne.plain PySem.F.cmpEntry_ne (check_slot PySem.F.cmpKind_ne PySem.F.cmpSplit_ne (I.type.andThen (looks_mroIn X hm)) (PySem.F.cmpArgs_ne _ _)
      (objNe_own hu1 X I hs hf (wpAny_mono h (fun v s' hv => ?_) fun _ _ e => e))))))
    obtain ⟨b, rfl, hq⟩ := hv
    first | exact ⟨b, rfl, wpAny_pure ⟨_, rfl, hq⟩⟩ | exact ⟨b, rfl, wpAny_pure (wpAny_pure ⟨_, rfl, hq⟩)⟩ | exact ⟨b, rfl, ⟨_, rfl, hq⟩⟩
  unfold richCompare
  simp only [oneThing_ref]
  refine wpAny_holding (wpAny_bind (wpAny_cRoomFor (Nat.lt_of_succ_lt hu) ?_))
  refine wpAny_bind (I.type.here (wpAny_bind (J.type.here ?_)))
  rw [show (Value.ref C != Value.ref C) = false from by simp]
  simp only [Bool.false_eq_true, if_false]
  refine wpAny_bind (wpAny_pure ?_)
  simp only [Bool.false_eq_true, if_false]
  refine wpAny_bind (wpAny_mono one (fun r s' z => ?_) fun _ _ e => e)
  obtain ⟨v, rfl, hq⟩ := z
  exact wpAny_pure hq
end
end PySem.W
namespace Mi
open PySem PySem.Spec PyProof.Rows L2
structure NeC (K : PySem.W.Frag) (C : Addr) : Prop where
  ne : PySem.W.findIn K (.ref C) "__ne__" = some (some (.builtin "object.__ne__"))
  mo : PySem.W.mroIn K C (.type "object") = some true
section
variable {X : Cx} {CX : CXT} {k : Nat} {f C : Addr} {fd : FuncData} {ps : List Str} {sp : Sp} {E : XK}
def rNeO (C : Addr) (sp : Sp) (E : XK) : R2 := fun x y H Q => ∃ a b dx fs dy gs, x = .ref a ∧ y = .ref b ∧ H a = some (.ins C dx fs) ∧ H b = some (.ins C dy gs) ∧ sp [.ref a, .ref b] H (fun v H' => ∃ b, v = .bl b ∧ Q (.bl (!b)) H') E
theorem op_neO (F : FnOk X.prog X.w X.K X.mg X.base CX k f fd ps sp) (hr : Room (k + 1) X.A) (hb : Binds X.K fd ps []) (hx : Passes CX X E) (n : NeC X.K C) (hs : PySem.W.findIn X.K (.ref C) "__eq__" = some (some (.ref f))) (hf : PySem.W.isFn X.K (.ref f) = true) :
    OpR X (compareOp .NotEq) (rNeO C sp E) := by
  intro pins s σ H x y v u Q I rx ry h
  obtain ⟨a, b, dx, fs, dy, gs, rfl, rfl, ha, hb', q⟩ := h
  cases rx
  cases ry
  obtain ⟨mA, J, _⟩ := ins_get I.hok ha
  obtain ⟨mB, J', _⟩ := ins_get I.hok hb'
  obtain ⟨od, J, _⟩ := J.look
  obtain ⟨od', J', _⟩ := J'.look
  obtain ⟨m, hF⟩ := I.fr
  show wpAny (model X.prog X.w) X.A (richCompare .NotEq (.ref a) (.ref b)) (EP X pins σ Q) X.xe s
  refine PySem.W.ne_own (by have := hr.un; omega) hF I.ok.mod.kin J J' n.ne n.mo hs hf ?_
  refine wpAny_mono (run_at (A := X.A.in1) F hr.in1 rfl hb hx I (.cons rfl (.cons rfl .nil) : Vals [V.ref a, V.ref b] [Value.ref a, Value.ref b]) q) (fun v s' z => ?_) fun _ _ e => e
  obtain ⟨x, H', I', rz, b', ez, q'⟩ := z
  subst ez
  cases rz
  exact ⟨b', rfl, .bl (!b'), H', I', rfl, q'⟩
end
def neO (c : Str) (f : List D → Fr) (x y : D) : Option D := match x, y with
  | .obj c1 f1, .obj c2 f2 => if c1 = c ∧ c2 = c then (match f [.obj c1 f1, .obj c2 f2] with
    | .ok (.bl b) [] => some (.bl (!b))
    | _ => none) else none
  | _, _ => none
section
variable {X : Cx} {C : Sc} {O : List Nat} {a b : Expr} {fa fb : Ex} {pos p : Pos} {j k : Nat} {c : Str} {f : List D → Fr}
theorem r_neO {g : Addr} {fd : FuncData} {ps : List Str} {σ : L2.St} {H : Hp} {Q : VK} (h : tD C O (e2 (neO c f) fa fb) σ H Q) : tOp (rNeO (C.F.cm c) (spM C.F.K C.F.cm C.fld 2 [] f) (fun _ _ _ => False)) (tD C O fa) (tD C O fb) σ H Q := by
  obtain ⟨G, δ, st, m⟩ := h
  refine ⟨G, δ, st, ?_⟩
  unfold e2 at m
  cases e : fa δ with
  | exc c d δ' => rw [e] at m; exact m
  | bad => rw [e] at m; exact m
  | ok d δ1 =>
    rw [e, Res.bind_ok] at m
    intro v G1 H1 s1 st1 rv
    refine ⟨G1, δ1, st1, ?_⟩
    cases eb : fb δ1 with
    | exc c d δ' => rw [eb] at m; exact m
    | bad => rw [eb] at m; exact m
    | ok d2 δ2 =>
      rw [eb, Res.bind_ok] at m
      intro w G2 H2 s2 st2 rw2
      have rv' := rv.mono s2.g
      cases rv' with
      | @obj a dx fs c1 ds h1 h2 rf =>
        cases rw2 with
        | @obj a' dy gs c2 es h3 h4 rg =>
          have rv1 : Rp C.F.K C.F.cm G2 (.ref a) (.obj c1 ds) := .obj h1 h2 rf
          have rv2 : Rp C.F.K C.F.cm G2 (.ref a') (.obj c2 es) := .obj h3 h4 rg
          unfold neO at m
          simp only at m
          by_cases hc : c1 = c ∧ c2 = c
          case neg => rw [if_neg hc] at m; exact m.elim
          rw [if_pos hc] at m
          obtain ⟨q1, q2⟩ := hc
          refine ⟨a, a', dx, fs, dy, gs, rfl, rfl, by rw [← q1]; exact st2.gh _ _ h1, by rw [← q2]; exact st2.gh _ _ h3, G2, [.obj c1 ds, .obj c2 es], [], rfl, rfl, callee0 st2.gh st2.tabs (.cons rv1 (.cons rv2 .nil)) rfl, ?_⟩
          cases ef : f [.obj c1 ds, .obj c2 es] with
          | exc _ _ => simp only [ef] at m; exact m.elim
          | bad => simp only [ef] at m; exact m.elim
          | ok dn outs =>
            cases dn with
            | bl n =>
              cases outs with
              | nil =>
                simp only [ef] at m
                exact fun v G3 H3 ex _ r => by
                  cases r
                  exact ⟨n, rfl, m _ G3 H3 ((s1.thn s2).and ex) (st2.step ex) (.bl _)⟩
              | cons _ _ => simp only [ef] at m; exact m.elim
            | _ => simp only [ef] at m; exact m.elim
        | _ => exact m.elim
      | _ => exact m.elim
theorem d_neO (x : MtC X.prog X.w X.K X.mg X.base C.F.cm C.fld c "__eq__" k 2 [] f) (n : NeC X.K (C.F.cm c)) (hK : C.F.K = X.K) (hr : Room j X.A) (hk : k + 1 ≤ j) (ha : PE X a (tD C O fa)) (hb : PE X b (tD C O fb)) (hm : behindInMarks .NotEq b = false := by rfl) :
    PE X (.Compare a [.NotEq] [b] pos) (tD C O (e2 (neO c f) fa fb)) := by
  obtain ⟨g, fd, ps, F, h1, h2, h3, h4, hb'⟩ := x.ex
  rw [← hK] at F
  exact pe_imp (pe_cmpR (op_neO (hK ▸ F) (hr.mono hk) hb' passN n h1 h2) ha hb hm) fun σ H Q h => r_neO (g := g) (fd := fd) (ps := ps) h
theorem t_neO (x : MtC X.prog X.w X.K X.mg X.base C.F.cm C.fld c "__eq__" k 2 [] f) (n : NeC X.K (C.F.cm c)) (hK : C.F.K = X.K) (hr : Room j X.A) (hk : k + 1 ≤ j) (ha : PE X a (tD C O fa)) (hb : PE X b (tD C O fb)) (hm : behindInMarks .NotEq b = false := by rfl) :
    PT X (.Compare a [.NotEq] [b] pos) (tDT C O (e2 (neO c f) fa fb)) := by
  obtain ⟨g, fd, ps, F, h1, h2, h3, h4, hb'⟩ := x.ex
  rw [← hK] at F
  exact pt_imp (pt_cmpR (op_neO (hK ▸ F) (hr.mono hk) hb' passN n h1 h2) ha hb hm) fun _ _ _ h => r_neO (g := g) (fd := fd) (ps := ps) (dt_of h)
end
/-! isinstance(x, C) -/
structure IsC (K : PySem.W.Frag) (C : Addr) : Prop where
  ha : PySem.W.findIn K (.ref C) "__class__" = some (some (.builtin "object.__class__"))
  hn : PySem.W.specialIn K (.builtin "object.__class__") "__get__" = some (some (.builtin "getset_descriptor.__get__"))
  htk : PySem.W.takesIn K (.builtin "object.__class__") = some true
  mo : PySem.W.mroIn K C (.type "object") = some true
  me : PySem.W.kitOne K (.ref C) (.ref C) = some true
theorem kit_me {K : PySem.W.Frag} {C : Addr} : PySem.W.kitOne K (.ref C) (.ref C) = some true := by unfold PySem.W.kitOne; simp
def isOD (c : Str) (x : D) : Option D := match x with
  | .obj c' _ => if c' = c then some (.bl true) else none
  | _ => none
section
variable {X : Cx} {C : Sc} {O : List Nat} {a e : Expr} {fa : Ex} {c : Str}
theorem a_isO {K : PySem.W.Frag} {cm : CM} {c : Str} (x : IsC K (cm c)) (cl : Cls K (cm c)) : S1 K cm (fun v H Q => rIsi K [v, .ref (cm c)] H Q) (isOD c) := fun G H v d d' Q gh v1 ho a => by
  unfold isOD at ho
  have r := v1.full gh.s
  cases r with
  | @obj ad dx fs c' ds h1 h2 rf =>
    simp only at ho
    by_cases hc : c' = c
    case neg => rw [if_neg hc] at ho; cases ho
    rw [if_pos hc] at ho
    cases ho
    subst hc
    exact ⟨_, _, _, _, true, rfl, .own _, .base (.ins h1 cl x.ha x.hn x.htk x.mo), x.me, a _ G H (.refl gh) (.bl true)⟩
  | _ => cases ho
theorem b_isO (x : IsC C.F.K (C.F.cm c)) (cl : Cls C.F.K (C.F.cm c)) (h : PE X e (tCB (rIsi C.F.K) (tCons (tW C O fa) (tCons (tC (.ref (C.F.cm c))) tNil)))) : PE X e (tD C O (e1 (isOD c) fa)) := d_1 (a_isO x cl) h
end
end Mi

end
section
set_option Elab.async false
set_option linter.all false
set_option maxRecDepth 100000
set_option autoImplicit false
set_option maxHeartbeats 4000000
/-! defs that return a list of their own making; a, b = x, y -/
namespace Mi
open PySem PySem.Spec PyProof.Rows L2
section
variable {X : Cx} {C : Sc} {O O1 : List Nat} {a b : Expr} {fa fb : Ex} {pos p : Pos} {i j : Nat} {x : Str}
theorem s_retF (ha : PE X a (tN C O fa)) (hx : C.XO O := by trivial) : PS X (.Return (some a) pos) (tS C O O1 (sRet fa)) := ps_imp (ps_ret ha) fun D σ H ⟨G, δ, st, m⟩ => by
  refine ⟨G, δ, st, ?_⟩
  unfold sRet at m
  cases e : fa δ with
  | exc c d δ1 => rw [e] at m; exact fun G' H' cls dd st' x => m O σ G' H' cls dd hx st' x
  | bad => rw [e] at m; exact m
  | ok d δ1 =>
    rw [e] at m
    intro p G1 H1 s1 st1 n hp o
    obtain ⟨_, _, nf, no⟩ := fresh_facts (u := .own p) st hp
    obtain ⟨u, hu, rp⟩ := rp_known o n
    exact m (.ref p) _ H1 (st1.know n nf no hu (o.nc hu).1).ret rp fun _ => ⟨p, G1, rfl, nf, st1.ret, n, o⟩
theorem s_retO {ns : List Nat} (hi : i ∈ O) (hn : C.F.ns = ns) (hno : i ∉ ns) (ha : PE X a (tVar i)) : PS X (.Return (some a) pos) (tS C O O1 (sRet (eV i))) := ps_imp (ps_ret ha) fun D σ H ⟨G, δ, st, m⟩ => by
  obtain ⟨l, d, e1, e2, n, o, z⟩ := st.ow i hi
  have nf : C.F.H l = none := z.resolve_right fun hS => by
    obtain ⟨q, hq, e⟩ := List.mem_map.mp hS
    obtain ⟨h1, h2⟩ := st.fix q hq
    rw [e] at h2
    exact Fm.no hn hno q hq (st.dis i hi q.1 h1 l e1 h2).symm
  unfold sRet at m
  have ev : eV i δ = .ok d δ := by unfold eV; rw [e2]
  rw [ev] at m
  obtain ⟨G', s1, st'⟩ := st.freeze hi (Fm.no hn hno)
  obtain ⟨v, e3, rv⟩ := st'.sh i d (by simp [List.mem_filter]) e2
  rw [e1] at e3
  cases e3
  exact ⟨_, e1, m (.ref l) G' H st'.ret rv fun _ => ⟨l, G, rfl, nf, st.ret, n, o⟩⟩
/-- a call whose result is a new list -/
def eCallF (f : List D → Fr) (as : List Ex) : Ex := fun δ => (eL as δ).bind fun ds δ1 => match f ds with
  | .ok (.lst xs) _ => .ok (.lst xs) δ1
  | .exc c d => .exc c d δ1
  | _ => .bad
/-- a, b = x, y -/
def sPar (i j : Nat) (ea eb : Ex) : Sm := fun δ => (ea δ).out fun d δ1 => (eb δ1).out fun e δ2 => .nx ((δ2.set i (some d)).set j (some e))
theorem s_parD {tg e : Expr} (hi : i ∉ O) (hj : j ∉ O) (h : PS X (.Assign [tg] e pos) (tPar i j (tCons (tD C O fa) (tCons (tD C O fb) tNil)))) (hx : C.XO O := by trivial) (kk : i ∉ C.F.ks := by exact List.not_mem_nil) (kl : j ∉ C.F.ks := by exact List.not_mem_nil) : PS X (.Assign [tg] e pos) (tS C O O (sPar i j fa fb)) := ps_imp h fun D σ H ⟨G, δ, st, m⟩ => by
  unfold sPar at m
  refine r_out hx st m fun d v G1 H1 δ1 s1 st1 rv m1 => ?_
  refine r_out hx st1 m1 fun k w G2 H2 δ2 s2 st2 rw2 m2 => ?_
  exact ⟨v, w, rfl, m2 _ G2 H2 (.refl G2) (put_keeps (put_keeps st2 (rv.mono s2.g) hi kk) rw2 hj kl)⟩
theorem s_parN {tg e : Expr} {ns : List Nat} {n : Nat} (hn : C.F.ns = ns) (hno : i ∉ ns) (hm : C.F.n = n) (hl : i < n) (hO : O1 = i :: O.filter (· ≠ i)) (hj : j ∉ O1) (h : PS X (.Assign [tg] e pos) (tPar i j (tCons (tN C O fa) (tCons (tD C O fb) tNil)))) (hx : C.XO O := by trivial) (kk : i ∉ C.F.ks := by exact List.not_mem_nil) (kl : j ∉ C.F.ks := by exact List.not_mem_nil) : PS X (.Assign [tg] e pos) (tS C O O1 (sPar i j fa fb)) := ps_imp h fun D σ H ⟨G, δ, st, m⟩ => by
  subst hO
  unfold sPar at m
  refine ⟨G, δ, st, ?_⟩
  cases e : fa δ with
  | exc c d δ1 => rw [e] at m; exact fun G' H' cls dd st' x => m O σ G' H' cls dd hx st' x
  | bad => rw [e] at m; exact m
  | ok d δ1 =>
    rw [e, Res.out_ok] at m
    intro p G1 H1 s1 st1 nn hp o
    obtain ⟨_, _, nf, no⟩ := fresh_facts (u := .own p) st hp
    refine ⟨G1, δ1, st1, ?_⟩
    have m := m.mono s1.g
    cases e2 : fb δ1 with
    | exc c d δ2 => rw [e2] at m; exact fun G' H' cls dd st' x => m O σ G' H' cls dd hx st' x
    | bad => rw [e2] at m; exact m
    | ok k δ2 =>
      rw [e2, Res.out_ok] at m
      intro w G2 H2 s2 st2 rw2
      have nS : p ∉ ownS O σ := fun z => by
        obtain ⟨i, hi, e⟩ := mem_ownS.mp z
        exact no i hi e
      have o2 : OwnAt C.F.K C.F.cm G2 H2 p d := o.mono s2.g (by
        cases z : H1 p with
        | none => exact absurd z o.at
        | some u => exact s2.keep p u z nS (o.nc z).1)
      have n2 : G2 p = none := (s2.new p o.at).trans nn
      have st3 := st2.putOwn n2 nf no o2 (i := i) (by rw [st2.ln, hm]; exact hl) (Fm.no hn hno) kk
      exact ⟨.ref p, w, rfl, m _ G2 H2 s2.g (put_keeps st3 rw2 hj kl)⟩
end
/-! ### the promise -/
def spF (K : PySem.W.Frag) (cm : CM) (fld : Str → Str) (n : Nat) (own : List Nat) (f : List D → Fr) : Sp := fun vs H Q E => ∃ G ds as, vs.length = n ∧ as.length = own.length ∧ Stt ⟨K, cm, G, H, n, own, as, [], []⟩ own G H (vs.map some) (ds.map some) ∧ match f ds with
  | .ok d outs => ∀ v G' H', Ext cm.T as G H G' H' → OutsAt K cm G' H' as outs → Rp K cm G' v d → (v = .non ∨ ∃ p G0, v = .ref p ∧ H p = none ∧ Ext cm.T as G H G0 H' ∧ OutsAt K cm G0 H' as outs ∧ G0 p = none ∧ OwnAt K cm G0 H' p d) → Q v H'
  | .exc c d => ∀ G' H' cls dd, Ext cm.T as G H G' H' → XR K cm fld G' c d cls dd → E cls dd H'
  | .bad => False
section
variable {P : Program} {w : World} {K : PySem.W.Frag} {mg : Str → Option Value} {base : Heap} {cm : CM} {fld : Str → Str}
theorem fn_mirF {x qual : Str} {st : Stmt} {f : Addr} {fd : FuncData} {N ps : List Str} {k n p : Nat} {own : List Nat} {g : Sm} (F : Fun K x qual st f fd) (S : FnScope N ps (defScope st)) (hn : N.length = n) (hp : ps.length = p) (hpn : p ≤ n) (O' : List Nat)
    (hbody : ∀ (cdv : Value) (cd : fd.code = cdv) (A : Around) (outer : List PySem.Env) (s : Shared) (H G : Hp) (E : XK) (as : List Addr), Room k (A.deeper (envOfC qual (defScope st) s.heap.objs.size f cdv)) →
      PSs (cxOf (L2.CX P w) P w K mg base N qual (defScope st) f cdv A outer s H E) (defBody st) (tS ⟨⟨K, cm, G, H, n, own, as, [], []⟩, fun cls d _ H => E cls d H, fld, fun _ => True, [], true⟩ own O' g)) :
    FnOk P w K mg base (L2.CX P w) (k + 1) f fd ps (spF K cm fld p own (fnM n p own g)) := by
  subst hn hp
  refine fun_okC F S (fun vs H Q E h => ?_) (fun cdv cd A outer s H vs Q E hr h => ?_)
  · obtain ⟨G, ds, as, hl, _⟩ := h
    exact hl
  · obtain ⟨G, ds, as, hl, hla, st0, m⟩ := h
    refine ⟨_, hbody cdv cd A outer s H G E as hr, G, startE N.length ds, st0.start hla hpn, ?_⟩
    have hld : ds.length = ps.length := by simpa using st0.le
    have hS : (Fm.S ⟨K, cm, G, H, N.length, own, as, [], []⟩) = as := zip_snd hla
    unfold fnM at m
    rw [if_pos hld] at m
    cases e : g (startE N.length ds) with
    | nx δ' =>
      rw [e] at m
      cases eo : outsOf own δ' with
      | none => simp only [eo] at m
      | some o =>
        simp only [eo] at m
        intro σ' G' H' s1 st1
        have rs := st1.ret
        have ex := rs.1
        rw [hS] at ex
        exact m .non G' H' ex (outs_of hla rs.2 eo) .non (.inl rfl)
    | rt d δ' =>
      rw [e] at m
      cases eo : outsOf own δ' with
      | none => simp only [eo] at m
      | some o =>
        simp only [eo] at m
        intro v G' H' rs rv fr
        have ex := rs.1
        rw [hS] at ex
        refine m v G' H' ex (outs_of hla rs.2 eo) rv (.inr ?_)
        obtain ⟨q, G0, ev, hq, r0, n0, o0⟩ := fr rfl
        have ex0 := r0.1
        rw [hS] at ex0
        exact ⟨q, G0, ev, hq, ex0, outs_of hla r0.2 eo, n0, o0⟩
    | exc c d δ' =>
      rw [e] at m
      intro O'' σ' G' H' cls dd _ st1 x
      have ex := st1.ext
      rw [hS] at ex
      exact m G' H' cls dd ex x
    | bk δ' => rw [e] at m; exact m.elim
    | ct δ' => rw [e] at m; exact m.elim
    | bad => rw [e] at m; exact m.elim
end
theorem spF_of {K : PySem.W.Frag} {cm : CM} {fld : Str → Str} {n : Nat} {own : List Nat} {f : List D → Fr} (vs : List V) (H : Hp) (Q : VK) (E : XK) (h : spM K cm fld n own f vs H Q E) : spF K cm fld n own f vs H Q E := by
  obtain ⟨G, ds, as, h1, h2, h3, m⟩ := h
  refine ⟨G, ds, as, h1, h2, h3, ?_⟩
  cases e : f ds with
  | ok d outs => rw [e] at m; exact fun v G' H' a b c _ => m v G' H' a b c
  | exc c d => rw [e] at m; exact m
  | bad => rw [e] at m; exact m
/-- a def that returns a new list -/
structure CalF (P : Program) (w : World) (K : PySem.W.Frag) (mg : Str → Option Value) (base : Heap) (cm : CM) (fld : Str → Str) (x : Str) (k n : Nat) (own : List Nat) (f : List D → Fr) : Prop where
  ex : ∃ g fd ps, FnOk P w K mg base (L2.CX P w) k g fd ps (spF K cm fld n own f) ∧ mg x = some (.ref g) ∧ PySem.W.keepIn K (.ref g) = true ∧ Binds K fd ps []
theorem CalF.cal {P : Program} {w : World} {K : PySem.W.Frag} {mg : Str → Option Value} {base : Heap} {cm : CM} {fld : Str → Str} {x : Str} {k n : Nat} {own : List Nat} {f : List D → Fr} (h : CalF P w K mg base cm fld x k n own f) : Cal P w K mg base cm fld x k n own f := by
  obtain ⟨g, fd, ps, F, r⟩ := h.ex
  exact ⟨g, fd, ps, F.imp spF_of, r⟩
theorem calF_mk {P : Program} {w : World} {K : PySem.W.Frag} {mg : Str → Option Value} {base : Heap} {cm : CM} {fld : Str → Str} {x qual : Str} {st : Stmt} {g : Addr} {fd : FuncData} {N ps : List Str} {k n p : Nat} {own : List Nat} {m : Sm} (F : Fun K x qual st g fd) (hm : mg x = some (.ref g)) (hb : Binds K fd ps [])
    (S : FnScope N ps (defScope st)) (hn : N.length = n) (hp : ps.length = p) (hpn : p ≤ n) (O' : List Nat)
    (hbody : ∀ (cdv : Value) (cd : fd.code = cdv) (A : Around) (outer : List PySem.Env) (s : Shared) (H G : Hp) (E : XK) (as : List Addr), Room k (A.deeper (envOfC qual (defScope st) s.heap.objs.size g cdv)) →
      PSs (cxOf (L2.CX P w) P w K mg base N qual (defScope st) g cdv A outer s H E) (defBody st) (tS ⟨⟨K, cm, G, H, n, own, as, [], []⟩, fun cls d _ H => E cls d H, fld, fun _ => True, [], true⟩ own O' m)) :
    CalF P w K mg base cm fld x (k + 1) p own (fnM n p own m) := ⟨g, fd, ps, fn_mirF F S hn hp hpn O' hbody, hm, F.kp, hb⟩
section
variable {X : Cx} {C : Sc} {O O1 : List Nat} {a b : Expr} {fa fb : Ex} {pos p : Pos} {i j : Nat} {x : Str} {es : List Expr} {fs : List Ex} {f : List D → Fr} {k n : Nat}
theorem r_callF {σ : L2.St} {H : Hp} {Q : VK} (hn : fs.length = n) (h : tN C O (eCallF f fs) σ H Q) : tA C O (eL fs) σ H fun vs H1 => spF C.F.K C.F.cm C.fld n [] f vs H1 Q (WE C.W σ) := by
  obtain ⟨G, δ, st, m⟩ := h
  refine ⟨G, δ, st, ?_⟩
  unfold eCallF at m
  cases e : eL fs δ with
  | ok ds δ1 =>
    rw [e, Res.bind_ok] at m
    intro vs G1 H1 s1 st1 rv
    have hl : vs.length = n := by rw [rv.length, eL_length e, hn]
    refine ⟨G1, ds, [], hl, rfl, callee0 st1.gh st1.tabs rv hl, ?_⟩
    cases ef : f ds with
    | ok d outs =>
      simp only [ef] at m
      cases d with
      | lst xs =>
        simp only at m
        intro v G2 H2 ex _ r fr
        rcases fr with e0 | ⟨q, G0, ev, hq, ex0, _, n0, o0⟩
        · subst e0
          cases r
        · subst ev
          exact m q G0 H2 (s1.and ex0) (st1.step ex0) n0 (s1.back hq) o0
      | _ => exact m.elim
    | exc c d =>
      simp only [ef] at m
      exact fun G2 H2 cls dd ex x => m G2 H2 cls dd (st1.step ex) x
    | bad => simp only [ef] at m
  | exc c d δ1 => rw [e] at m; exact m
  | bad => rw [e] at m; exact m
theorem n_calF {j : Nat} (c : CalF X.prog X.w X.K X.mg X.base C.F.cm C.fld x k n [] f) (hK : C.F.K = X.K) (hr : Room j X.A) (hk : k ≤ j) (tk : Takes X C.W) (ha : PA X (a :: es) (tA C O (eL fs))) (hn : fs.length = n) (hg : Gl X x := by rfl) (hdb : (x == ("__debug__" : Str)) = false := by decide)
    (he : starEach (a :: es) X.env = (false, eval a X.env) :: starEach es X.env := by rfl) (hpl : (backTo pos (starEach es X.env)).any (·.1) = false := by rfl) : PE X (.Call (.Name x p) (a :: es) [] pos) (tN C O (eCallF f fs)) := by
  obtain ⟨g, fd, ps, F, hm, kp, hb⟩ := c.ex
  rw [← hK] at F
  exact pe_imp (pe_callS (hK ▸ F) (hr.mono hk) hg hm kp hb (fun σ => passAt tk σ) ha hdb he hpl) fun σ H Q h => r_callF hn h
end
end Mi
/-! ### list[l:h:s], the parts constants -/
namespace Mi
open PySem PySem.Spec PyProof.Rows L2
def pickL {α : Type} (xs : List α) (lo hi st : Option Int) : List α := (sliceRange (sliceBounds lo hi st xs.length).1 (sliceBounds lo hi st xs.length).2.1 (sliceBounds lo hi st xs.length).2.2).filterMap (xs[·]?)
theorem pickL_mem {α : Type} {xs : List α} {lo hi st : Option Int} {x : α} (h : x ∈ pickL xs lo hi st) : x ∈ xs := by
  unfold pickL at h
  obtain ⟨i, _, e⟩ := List.mem_filterMap.mp h
  exact List.mem_of_getElem? e
theorem pickL_items (its : List Value) (lo hi st : Option Int) : slicePick its.toArray lo hi st = (pickL its lo hi st).toArray := by
  unfold slicePick pickL
  simp
theorem vals_pick {xs : List V} {us : List Value} (r : Vals xs us) : ∀ is : List Nat, Vals (is.filterMap (xs[·]?)) (is.filterMap (us[·]?))
  | [] => .nil
  | i :: is => by
    have ih := vals_pick r is
    cases e : xs[i]? with
    | none =>
      rw [List.filterMap_cons, List.filterMap_cons, e, r.none_of e]
      exact ih
    | some x =>
      obtain ⟨u, h1, h2⟩ := r.get e
      rw [List.filterMap_cons, List.filterMap_cons, e, h1]
      exact .cons h2 ih
theorem rps_pick {K : PySem.W.Frag} {cm : CM} {G : Hp} {xs : List V} {ds : List D} (r : Rps K cm G xs ds) : ∀ is : List Nat, Rps K cm G (is.filterMap (xs[·]?)) (is.filterMap (ds[·]?))
  | [] => .nil
  | i :: is => by
    have ih := rps_pick r is
    cases e : ds[i]? with
    | none =>
      have e2 : xs[i]? = none := by
        have := List.getElem?_eq_none_iff.mp e
        rw [← r.length] at this
        exact List.getElem?_eq_none this
      rw [List.filterMap_cons, List.filterMap_cons, e, e2]
      exact ih
    | some x =>
      obtain ⟨u, h1, h2⟩ := r.get e
      rw [List.filterMap_cons, List.filterMap_cons, e, h1]
      exact .cons h2 ih
theorem Rps.pick {K : PySem.W.Frag} {cm : CM} {G : Hp} {xs : List V} {ds : List D} {lo hi st : Option Int} (r : Rps K cm G xs ds) : Rps K cm G (pickL xs lo hi st) (pickL ds lo hi st) := by
  unfold pickL
  rw [r.length]
  exact rps_pick r _
def tCO (o : Option Int) : TO := fun _ H R => R o H
section
variable {X : Cx} {a e : Expr} {pos p p2 p3 : Pos} {k : Nat} {i : Int} {l h st : Option Expr} {lo hi so : Option Int} {te : TE}
theorem po_cn : PO X none (tCO none) := po_none
theorem po_ci {t : PO X (some (.Constant (.int i) k p)) (tPart (tC (.int i)))} : PO X (some (.Constant (.int i) k p)) (tCO (some i)) := ⟨fun pins s σ H Q I h => t.run pins s σ H Q I ⟨i, rfl, h⟩⟩
theorem po_cneg {t : PO X (some (.UnaryOp .USub (.Constant (.int i) k p) p2)) (tPart (tUn (rU fun i => .int (-i)) (tC (.int i))))} : PO X (some (.UnaryOp .USub (.Constant (.int i) k p) p2)) (tCO (some (-i))) := ⟨fun pins s σ H Q I h => t.run pins s σ H Q I ⟨i, rfl, -i, rfl, h⟩⟩
theorem pick_len {α : Type} (xs : List α) (lo hi st : Option Int) : (pickL xs lo hi st).length ≤ xs.length := by
  unfold pickL
  refine Nat.le_trans (List.length_filterMap_le _ _) (sliceRange_length_le _ _ _ _ (fun hc => ?_) fun hc => ?_)
  · simp only [sliceBounds] at hc ⊢
    simp only [hc, if_true]
    constructor
    · cases lo with
      | none => simp
      | some i => dsimp only; omega
    · cases hi with
      | none => simp
      | some i => dsimp only; omega
  · simp only [sliceBounds] at hc ⊢
    simp only [hc, if_false]
    constructor
    · cases lo with
      | none => simp
      | some i => dsimp only; omega
    · cases hi with
      | none => simp
      | some i => dsimp only; omega
def rPick (K : PySem.W.Frag) (lo hi so : Option Int) : V → Hp → VK → Prop := fun x H Q => ∃ a xs, x = .ref a ∧ SqL K H a xs ∧ ∀ p, H p = none → Q (.ref p) (upd H p (.lst (pickL xs lo hi so)))
theorem pe_pick (he : PE X e te) (hl : PO X l (tCO lo)) (hh : PO X h (tCO hi)) (hs : PO X st (tCO so)) (h0 : so ≠ some 0) (ht : ∀ ov iv, subscripted (.Slice l h st p3) false ov iv = operate [ov, iv] (getItem ov iv) := by intro _ _; with_unfolding_all rfl) : PE X (.Subscript e (.Slice l h st p3) pos) (tUn (rPick X.K lo hi so) te) := by
  refine ⟨fun pins s σ H Q I h => Subscript_ (thn (he.run pins s σ H _ I h) fun v s1 ⟨x, H1, I1, r1, a, xs, ex, hx, q⟩ => ?_)⟩
  subst ex
  cases r1
  refine wpAny_Slice (thn (hl.run pins s1 σ H1 (fun o H2 => o = lo ∧ H2 = H1) I1 ⟨rfl, rfl⟩) fun vl s2 ⟨_, H2, I2, pl, ⟨el, e2⟩⟩ => ?_)
  subst el e2
  refine thn (hh.run pins s2 σ H2 (fun o H3 => o = hi ∧ H3 = H2) I2 ⟨rfl, rfl⟩) fun vu s3 ⟨_, H3, I3, pu, ⟨eu, e3⟩⟩ => ?_
  subst eu e3
  refine thn (hs.run pins s3 σ H3 (fun o H4 => o = so ∧ H4 = H3) I3 ⟨rfl, rfl⟩) fun vs s4 ⟨_, H4, I4, ps, ⟨eo, e4⟩⟩ => ?_
  subst eo e4
  let s5 : Shared := { s4 with heap := s4.heap.push { cls := .type "slice", data := .fields #[vl, vu, vs] } }
  have I5 : Inv X pins σ H4 s5 := I4.kept (t' := s4.toks) fun b ob q => Heap.get?_push_of_some _ q
  show wpAny (model X.prog X.w) X.A (subscriptTail e (.Slice l _ st p3) (.ref a) (.ref s4.heap.objs.size)) (EP X pins σ Q) X.xe s5
  obtain ⟨its, r, tl, hz⟩ := I5.list hx
  have hlen := r.length
  refine tail_any (ops := [.ref a, .ref s4.heap.objs.size]) tl.isList.typeIs PySem.slot_list_getitem.lookup ?_ (ht _ _)
  refine wpAny_getItem_list_slice tl.isList (Heap.IsSliceOf.new _ _ _ _) pl pu ps h0 ?_ (by rw [List.size_toArray]; omega)
  rw [pickL_items]
  refine ⟨.ref _, _, I5.laid (t' := s5.toks) (o := .lst (pickL xs _ _ _)) (fun b ob q => Heap.get?_push_of_some _ q) (Nat.le_refl _) ⟨Nat.le_trans (pick_len _ _ _ _) hz, _, 0, ?_, Heap.get?_push_size _ rfl⟩, rfl, q _ (I5.hok.fresh (Nat.le_refl _))⟩
  unfold pickL
  rw [hlen]
  exact vals_pick r _
end
def pickD (lo hi so : Option Int) : D → Option D
  | .lst xs => some (.lst (pickL xs lo hi so))
  | _ => none
theorem a_pick {K : PySem.W.Frag} {cm : CM} {lo hi so : Option Int} : N1 K cm (rPick K lo hi so) (pickD lo hi so) := fun G H v d d' Q gh v1 ho a => by
  unfold pickD at ho
  cases d with
  | lst ds =>
    cases ho
    obtain ⟨p, ys, rfl, q, r⟩ := v1.lst gh
    exact ⟨p, ys, rfl, q, fun l n => a l _ n ⟨_, upd_same, r.pick⟩⟩
  | _ => cases ho
end Mi
namespace Mi
open PySem PySem.Spec PyProof.Rows L2
section
variable {X : Cx} {C : Sc} {O : List Nat} {a : Expr} {fa : Ex} {pos p p2 : Pos} {i : Nat} {x : Str}
/-- x.extend(e), e a new list -/
theorem s_ext {ap : Pos} (hi : i ∈ O) (h : PS X (.Expr (.Call (.Attribute (.Name x p) "extend" ap) [a] [] pos) p2) (tDrop (tBM X.K "list" rExtend (tVar i) (tCons (tN C O fa) tNil)))) (hx : C.XO O := by trivial) :
    PS X (.Expr (.Call (.Attribute (.Name x p) "extend" ap) [a] [] pos) p2) (tS C O O (sExt i fa)) := ps_imp h fun D σ H ⟨G, δ, st, m⟩ => by
  unfold sExt at m
  by_cases hL : isL i δ = true
  case neg => rw [if_neg hL] at m; exact m.elim
  rw [if_pos hL] at m
  obtain ⟨l, ds0, xs0, e1, ev0, _, q0, _⟩ := isL_of st hi hL
  refine ⟨_, e1, tyl q0, ?_⟩
  refine ⟨G, δ, st, ?_⟩
  cases e : fa δ with
  | exc c d δ1 => rw [e] at m; exact fun G' H' cls dd st' x => m O σ G' H' cls dd hx st' x
  | bad => rw [e] at m; exact m
  | ok k δ1 =>
    rw [e, Res.out_ok] at m
    intro b G1 H1 s1 st1 nn hp ob
    obtain ⟨l', d, e1', ev, na, o⟩ := st1.ownL hi
    rw [e1] at e1'
    cases e1'
    rw [ev, Res.out_ok] at m
    have m1 := m.mono s1.g
    cases d with
    | lst ds =>
      cases k with
      | lst es =>
        simp only at m1
        obtain ⟨xs, q, r⟩ := o
        obtain ⟨zs, qb, rb⟩ := ob
        by_cases hc : ds.length + es.length ≤ cap
        case neg => rw [if_neg hc] at m1; exact m1.elim
        rw [if_pos hc] at m1
        obtain ⟨st2, ex⟩ := st1.mut (u := .lst (xs ++ zs)) hi e1 na (by rw [q]; simp) (d := .lst (ds ++ es)) ⟨_, upd_same, r.app rb⟩
        exact ⟨l, b, xs, zs, rfl, rfl, q, qb, by rw [r.length, rb.length]; exact Nat.le_trans hc (Nat.le_of_lt cap_line), m1 σ G1 _ (.refl G1) st2⟩
      | _ => exact m1.elim
    | _ => exact m1.elim
end
end Mi
namespace Mi
open PySem PySem.Spec PyProof.Rows L2
section
variable {X : Cx} {C : Sc} {O O1 : List Nat} {fa fb : Ex} {pos : Pos} {i j : Nat}
theorem s_parNN {tg e : Expr} {ns : List Nat} {n : Nat} (hn : C.F.ns = ns) (hno : i ∉ ns) (hnj : j ∉ ns) (hm : C.F.n = n) (hl : i < n) (hlj : j < n) (hO : O1 = j :: (i :: O.filter (· ≠ i)).filter (· ≠ j)) (h : PS X (.Assign [tg] e pos) (tPar i j (tCons (tN C O fa) (tCons (tN C O fb) tNil)))) (hx : C.XO O := by trivial) (kk : i ∉ C.F.ks := by exact List.not_mem_nil) (kl : j ∉ C.F.ks := by exact List.not_mem_nil) : PS X (.Assign [tg] e pos) (tS C O O1 (sPar i j fa fb)) := ps_imp h fun D σ H ⟨G, δ, st, m⟩ => by
  subst hO
  unfold sPar at m
  refine ⟨G, δ, st, ?_⟩
  cases e : fa δ with
  | exc c d δ1 => rw [e] at m; exact fun G' H' cls dd st' x => m O σ G' H' cls dd hx st' x
  | bad => rw [e] at m; exact m
  | ok d δ1 =>
    rw [e, Res.out_ok] at m
    intro p G1 H1 s1 st1 nn hp o
    obtain ⟨_, _, nf, no⟩ := fresh_facts (u := .own p) st hp
    refine ⟨G1, δ1, st1, ?_⟩
    have m := m.mono s1.g
    cases e2 : fb δ1 with
    | exc c d δ2 => rw [e2] at m; exact fun G' H' cls dd st' x => m O σ G' H' cls dd hx st' x
    | bad => rw [e2] at m; exact m
    | ok k δ2 =>
      rw [e2, Res.out_ok] at m
      intro p2 G2 H2 s2 st2 nn2 hp2 o3
      obtain ⟨_, _, nf2, no2⟩ := fresh_facts (u := .own p) st1 hp2
      have nS : p ∉ ownS O σ := fun z => by
        obtain ⟨i, hi, e⟩ := mem_ownS.mp z
        exact no i hi e
      have o2 : OwnAt C.F.K C.F.cm G2 H2 p d := o.mono s2.g (by
        cases z : H1 p with
        | none => exact absurd z o.at
        | some u => exact s2.keep p u z nS (o.nc z).1)
      have n2 : G2 p = none := (s2.new p o.at).trans nn
      have hil : i < σ.length := by rw [st2.ln, hm]; exact hl
      have st3 := st2.putOwn n2 nf no o2 (i := i) hil (Fm.no hn hno) kk
      have ne : p ≠ p2 := fun z => o.at (by rw [z]; exact hp2)
      have st4 := st3.putOwn nn2 nf2 (fun q hq => by
        by_cases z : q = i
        · subst z
          rw [List.getElem?_set_self hil]
          exact fun w => ne (by cases w; rfl)
        · rw [List.getElem?_set_ne (fun w => z w.symm)]
          rcases List.mem_cons.mp hq with w | w
          · exact absurd w z
          · exact no2 q (List.mem_filter.mp w).1) o3 (i := j) (by rw [st3.ln, hm]; exact hlj) (Fm.no hn hnj) kl
      exact ⟨.ref p, .ref p2, rfl, m _ G2 H2 s2.g st4⟩
end
end Mi

end
section
set_option linter.all false
set_option autoImplicit false
namespace Mi
open PySem PySem.Spec
/-! ### ends -/
/-- a def's end -/
def FEnd0 (own : List Nat) (Q : Fr → Prop) : Out → Prop
  | .nx δ => ∃ o, outsOf own δ = some o ∧ Q (.ok .non o)
  | .rt d δ => ∃ o, outsOf own δ = some o ∧ Q (.ok d o)
  | .exc c d _ => Q (.exc c d)
  | _ => False
/-- the same, closed to unfolding -/
structure FEnd (own : List Nat) (Q : Fr → Prop) (o : Out) : Prop where
  run : FEnd0 own Q o
theorem fn_run {n p : Nat} {own : List Nat} {b : Sm} {ds : List D} {Q : Fr → Prop} (hl : ds.length = p) (h : FEnd own Q (b (startE n ds))) : Q (fnM n p own b ds) := by
  have h := h.run
  unfold fnM
  rw [if_pos hl]
  cases e : b (startE n ds) with
  | nx δ => rw [e] at h; obtain ⟨o, h1, h2⟩ := h; simp only [h1]; exact h2
  | rt d δ => rw [e] at h; obtain ⟨o, h1, h2⟩ := h; simp only [h1]; exact h2
  | exc c d δ => rw [e] at h; exact h
  | _ => rw [e] at h; exact h.elim
@[simp] theorem FEnd_rt {own : List Nat} {Q : Fr → Prop} {d : D} {δ : Env} : FEnd own Q (.rt d δ) ↔ ∃ o, outsOf own δ = some o ∧ Q (.ok d o) := ⟨fun h => h.run, fun h => ⟨h⟩⟩
@[simp] theorem FEnd_nx {own : List Nat} {Q : Fr → Prop} {δ : Env} : FEnd own Q (.nx δ) ↔ ∃ o, outsOf own δ = some o ∧ Q (.ok .non o) := ⟨fun h => h.run, fun h => ⟨h⟩⟩
@[simp] theorem FEnd_exc {own : List Nat} {Q : Fr → Prop} {c : Str} {d : D} {δ : Env} : FEnd own Q (.exc c d δ) ↔ Q (.exc c d) := ⟨fun h => h.run, fun h => ⟨h⟩⟩
@[simp] theorem FEnd_bad {own : List Nat} {Q : Fr → Prop} : FEnd own Q .bad ↔ False := ⟨fun h => h.run, fun h => h.elim⟩
end Mi

end
section
set_option Elab.async false
set_option linter.all false
set_option maxRecDepth 100000
set_option autoImplicit false
set_option maxHeartbeats 4000000
/-! the end of a law with tables of code objects and guards -/
namespace Mi
open PySem PySem.Spec PyProof.Rows L2
/-- a def's code object and its table, which no lambda has filled yet -/
structure TbAt (K : PySem.W.Frag) (h : Heap) (c P : Addr) : Prop where
  e : h.get? P = some (PySem.W.tabObj #[])
  n : K.lookup P = none
  c : PySem.W.CodeHd h c P
/-- the heap that the law is entered with -/
def HpT (ts : List (Addr × Addr)) (J : Hp) : Hp := fun b => if b ∈ ts.map (·.2) then some (.tbl #[]) else J b
theorem law_callT {P : Program} {w : World} {K : PySem.W.Frag} {mg mb : Str → Option Value} {CX : CXT} {k : Nat} {fa a : Addr} {fd : FuncData} {x : Str} {sp : Sp} {s : Shared} {vs : List Value} {ns : List Int} {ts : List (Addr × Addr)} (kIn : K.In s.heap) (hg : s.heap.Ns mainGlobals mg) (hb : s.heap.Ns builtinsNs mb) (hv : ∀ x : Str, x ≠ "__name__" → mb x = bootBuiltins x)
    (hlim : s.heap.NoLimit) (gens : s.gens = #[]) (tb : ∀ p ∈ ts, TbAt K s.heap p.1 p.2)
    (bm : ∃ (z : Addr) (oz : Obj), mg "__builtins__" = some (.ref z) ∧ z ≠ builtinsNs ∧ s.heap.get? z = some oz ∧ oz.cls = .type "module" ∧ oz.dict = some builtinsNs ∧ oz.data = .plain)
    (ha : s.heap.get? a = some { cls := .type "list", data := .seq vs.toArray }) (hi : IntsAre vs ns) (hl : ns.length ≤ sizeLine) (room : Room k callerA) (F : ∀ base : Heap, K.In base → base.Ns mainGlobals mg → (∀ p ∈ ts, LamX.TabB base mg p.1 p.2) → FnG P w K mg base CX k fa fd [x] sp)
    (bnd : ∀ (s : Shared) (u : Value), BindsTo s fd ⟨[u], []⟩ [(x, u)]) (hsp : ∀ J : Hp, (∀ b ps, J b ≠ some (.tbl ps)) → (∀ p ∈ ts, J p.2 = none) → SqL K J a (ns.map V.int) → sp [.ref a] (HpT ts J) (fun v _ => v = .bl true) fun _ _ _ => False) (hCX : ∀ H e s', CX [] H s (fun _ _ _ => False) e s' → False) :
    codeAny (model P w) callerA (.call (.ref fa) ⟨[.ref a], []⟩) (fun r s' => r = .ok (.ret (.bool true)) ∧ OldK s.heap s'.heap ∧ s'.os = s.os ∧ AllBare s'.gens) s := by
  have vals := vals_ints hi
  have lens := hi.length
  have atT : ∀ {b : Addr}, b ∈ ts.map (·.2) → s.heap.get? b = some (PySem.W.tabObj #[]) := fun {b} m => by
    obtain ⟨p, hp, rfl⟩ := List.mem_map.mp m
    exact (tb p hp).e
  have noK : ∀ {b : Addr}, b ∈ ts.map (·.2) → K.lookup b = none := fun {b} m => by
    obtain ⟨p, hp, rfl⟩ := List.mem_map.mp m
    exact (tb p hp).n
  have aT : a ∉ ts.map (·.2) := fun m => by
    have q := atT m
    rw [ha] at q
    exact nomatch (congrArg Obj.data (Option.some.inj q) : Data.seq vs.toArray _ = Data.fields #[])
  have main : ∀ J : Hp, (∀ b, J b = none ∨ ∃ ob xs, J b = some (.frz ob (.lst xs))) → SqL K J a (ns.map V.int) → HOk P w (HpT ts J) s.heap → (∀ b, J b ≠ none → b = a) → (J a ≠ none → K.lookup a = none) → codeAny (model P w) callerA (.call (.ref fa) ⟨[.ref a], []⟩) (fun r s' => r = .ok (.ret (.bool true)) ∧ OldK s.heap s'.heap ∧ s'.os = s.os ∧ AllBare s'.gens) s := by
    intro J only sq ok one away
    have hOn : ∀ {b : Addr}, b ∈ ts.map (·.2) → HpT ts J b = some (.tbl #[]) := fun m => if_pos m
    have hOff : ∀ {b : Addr}, b ∉ ts.map (·.2) → HpT ts J b = J b := fun m => if_neg m
    have off : ∀ {b : Addr} {o : Obj}, s.heap.get? b = some o → (∀ us n, o.data ≠ .seq us n) → o.data ≠ .fields #[] → HpT ts J b = none := fun {b o} e d1 d2 => by
      by_cases m : b ∈ ts.map (·.2)
      · rw [atT m] at e
        cases e
        exact absurd rfl d2
      · rw [hOff m]
        refine Classical.byContradiction fun z => ?_
        rw [one b z, ha] at e
        cases e
        exact d1 _ _ rfl
    have offD : ∀ {b : Addr} {o : Obj} {es : Array DictEntry} {ep : Nat}, s.heap.get? b = some o → o.data = .dict es ep → HpT ts J b = none := fun {b o es ep} e d => off e (fun us n z => by rw [d] at z; cases z) fun z => by rw [d] at z; cases z
    have spaces : ∀ {b : Addr} {m : Str → Option Value}, s.heap.Ns b m → (hidT s.heap (HpT ts J)).Ns b m := fun {b m} ⟨o, es, ep, e, d, r⟩ => ⟨o, es, ep, hidT_get e (offD e d), d, r⟩
    have kBase : K.In (hidT s.heap (HpT ts J)) := fun b o e => hidT_get (kIn b o e) (by
      by_cases m : b ∈ ts.map (·.2)
      · rw [noK m] at e
        cases e
      · rw [hOff m]
        refine Classical.byContradiction fun z => ?_
        have z1 := one b z
        subst z1
        rw [away z] at e
        cases e)
    have modK : Mod K mg (hidT s.heap (HpT ts J)) := ⟨kBase, spaces hg, ⟨mb, spaces hb, hv⟩, let ⟨mc, h1, h2⟩ := hlim; ⟨mc, spaces h1, h2⟩⟩
    have env : Env0 P w K mg (hidT s.heap (HpT ts J)) callerA [] s (HpT ts J) := ⟨rfl, modK, fun b o e => of_hidT e, Nat.le_of_eq (hidT_size _ _), trivial, fun b hb => absurd (show b ∈ ([] : List Addr) from hb) (by simp), ok, .of_eq gens⟩
    have tB : ∀ p ∈ ts, LamX.TabB (hidT s.heap (HpT ts J)) mg p.1 p.2 := fun p hp => by
      have m : p.2 ∈ ts.map (·.2) := List.mem_map.mpr ⟨p, hp, rfl⟩
      constructor
      · obtain ⟨o, us, f1, f2, f3, f4, f5, f6, f7, g1, g2, g3, g4, r⟩ := (tb p hp).c
        refine ⟨o, us, f1, f2, f3, f4, f5, f6, f7, hidT_get g1 (off g1 (fun _ _ z => by rw [g3] at z; cases z) fun z => ?_), g2, g3, g4, r⟩
        rw [g3] at z
        cases z
        cases g4
      · obtain ⟨z, oz, y1, y2, y3, y4, y5, y6⟩ := bm
        refine ⟨z, oz, y1, y2, fun q => ?_, fun q => ?_, hidT_get y3 (off y3 (fun _ _ z => by rw [y6] at z; cases z) fun z => by rw [y6] at z; cases z), y4, y5, y6⟩
        · obtain ⟨o, es, ep, e, d, _⟩ := hg
          rw [q, e] at y3
          cases y3
          rw [d] at y6
          cases y6
        · rw [q, atT m] at y3
          cases y3
          cases y6
      · intro q
        obtain ⟨o, es, ep, e, d, _⟩ := hg
        rw [q, atT m] at e
        cases e
        cases d
    refine codeAny_mono ((F _ kBase (spaces hg) tB).run callerA [] s (HpT ts J) ⟨[.ref a], []⟩ [.ref a] [.ref a] _ _ rfl room env (bnd s (.ref a)) (.cons rfl .nil) (hsp J (fun b ps z => ?_) (fun p hp => ?_) sq)) fun r s' hr => ?_
    · rcases only b with q | ⟨_, _, q⟩ <;> rw [q] at z <;> cases z
    · refine Classical.byContradiction fun z => ?_
      have z1 := one p.2 z
      exact aT (z1 ▸ List.mem_map.mpr ⟨p, hp, rfl⟩)
    rcases r with er | fl
    · exact (hCX _ er s' hr).elim
    cases fl with
    | next => exact False.elim hr
    | brk => exact False.elim hr
    | cont => exact False.elim hr
    | ret u =>
      obtain ⟨v, H', os, bare, un, ok', ru, q⟩ := hr
      obtain rfl : v = .bl true := q
      obtain rfl : u = Value.bool true := ru
      have same : ∀ b o, b ∉ ts.map (·.2) → s.heap.get? b = some o → s'.heap.get? b = some o := fun b o m e => by
        rcases only b with z | ⟨ob, xs, z⟩
        · exact un.keep b o e ((hOff m).trans z) (fun y => absurd (show b ∈ ([] : List Addr) from y) (by simp)) (by simp)
        · have z2 := un.frzs b ob _ ((hOff m).trans z)
          obtain ⟨e1, _⟩ := ok b _ ((hOff m).trans z)
          obtain ⟨e2, _⟩ := ok' b _ z2
          rw [e] at e1
          cases e1
          exact e2
      have more : ∀ b, b ∈ ts.map (·.2) → ∃ m : Array Value, s'.heap.get? b = some (PySem.W.tabObj m) := fun b m => by
        obtain ⟨y, z⟩ := un.tbls b #[] (hOn m)
        exact ⟨_, ok' b _ z⟩
      refine ⟨rfl, ⟨fun b o e => ?_, fun b o e => ?_⟩, os, bare⟩
      · by_cases m : b ∈ ts.map (·.2)
        · obtain ⟨y, hy⟩ := more b m
          rw [atT m] at e
          cases e
          obtain ⟨p, hp, rfl⟩ := List.mem_map.mp m
          exact .inr (.inl ⟨((tb p hp).c.tab (tb p hp).e).isCodeTable, rfl, #[], y, rfl, by rw [Array.empty_append]; exact hy⟩)
        · exact .inl (same b o m e)
      · by_cases m : b ∈ ts.map (·.2)
        · obtain ⟨y, hy⟩ := more b m
          exact ⟨_, hy⟩
        · exact ⟨o, same b o m e⟩
  have okT : ∀ {J : Hp}, (∀ b u, J b = some u → ObjOk P w (HpT ts J) s.heap b u) → HOk P w (HpT ts J) s.heap := fun {J} h b u z => by
    by_cases m : b ∈ ts.map (·.2)
    · have z2 : some (HO.tbl #[]) = some u := (if_pos m).symm.trans z
      cases z2
      exact atT m
    · exact h b u ((if_neg m).symm.trans z)
  cases hk : K.lookup a with
  | some o =>
    have e := kIn a o hk
    rw [ha] at e
    cases e
    exact main (fun _ => none) (fun _ => .inl rfl) (.inr ⟨_, vs.toArray, _, hk, rfl, rfl, rfl, by rw [List.size_toArray, lens]; exact hl, by simpa using vals⟩) (okT fun b u z => nomatch (show (none : Option HO) = some u from z)) (fun b z => absurd rfl z) fun z => absurd rfl z
  | none =>
    let Js : Hp := fun b => if b = a then some (.frz { cls := .type "list", data := .seq vs.toArray } (.lst (ns.map V.int))) else none
    have h1 : Js a = some (.frz { cls := .type "list", data := .seq vs.toArray } (.lst (ns.map V.int))) := if_pos rfl
    have h2 : ∀ b, b ≠ a → Js b = none := fun b z => if_neg z
    refine main Js (fun b => ?_) (.inl (.inr ⟨_, h1⟩)) (okT fun b u z => ?_) (fun b z => Classical.byContradiction fun y => z (h2 b y)) fun _ => hk
    · by_cases y : b = a
      · exact .inr ⟨_, _, by rw [y]; exact h1⟩
      · exact .inl (h2 b y)
    · by_cases y : b = a
      · subst y
        rw [h1] at z
        cases z
        exact ⟨ha, by rw [List.length_map]; exact hl, vs, _, vals, ha⟩
      · rw [h2 b y] at z
        cases z
/-- what the top's own tables are: the defs that make lambdas, by name -/
def TopT (q : Program) (K : PySem.W.Frag) (mg : Str → Option Value) (h : Heap) : Prop := ∀ (x : Str) (g c P : Addr) (o : Obj) (fd : FuncData) (e : Value) (dd : Option Addr) (vs : Array Value) (sl : Array (Option Value)), ((recsOf q).any fun d => d.name == x) = true → mg x = some (.ref g) →
  K.lookup g = some o → o.data = .func fd → fd.code = .ref c → K.lookup c = some ⟨e, dd, .fields vs, sl⟩ → vs[11]? = some (.ref P) → K.lookup P = none → TbAt K h c P
theorem walkT {l : PySem.W.OpenLaw} {n k : Nat} {q : Program} {loose : List Str} {XP : (Str → Option Value) → Heap → Prop} {YP : World → Heap → Prop} {d : DefRec} {K : Params → PySem.W.Frag} {CX : World → CXT} {sp : World → List (Addr × Addr) → Sp} {x : Str} (hn : l.most = some n) (hn2 : n ≤ sizeLine) (hdf : d.params.defaults = []) (hr : Room k callerA)
    (hY : ∀ (w : World) (h : Heap), YP w h → (K w.params).In h) (F : ∀ (w : World) (mg : Str → Option Value) (fa : Addr) (h : Heap), (K w.params).In h → h.Ns mainGlobals mg → mg d.name = some (.ref fa) → TopT q (K w.params) mg h →
      ∃ (ts : List (Addr × Addr)) (fd : FuncData), (∀ p ∈ ts, TbAt (K w.params) h p.1 p.2) ∧ (∀ (s : Shared) (u : Value), BindsTo s fd ⟨[u], []⟩ [(x, u)]) ∧ ∀ base : Heap, (K w.params).In base → base.Ns mainGlobals mg → (∀ p ∈ ts, LamX.TabB base mg p.1 p.2) → FnG l.prog w (K w.params) mg base (CX w) k fa fd [x] (sp w ts))
    (hsp : ∀ (w : World) (ts : List (Addr × Addr)) (J : Hp) (a : Addr) (ns : List Int), ns.length ≤ n → (∀ b ps, J b ≠ some (.tbl ps)) → (∀ p ∈ ts, J p.2 = none) → SqL (K w.params) J a (ns.map V.int) → sp w ts [.ref a] (HpT ts J) (fun v _ => v = .bl true) fun _ _ _ => False)
    (hCX : ∀ (w : World) (H : Hp) (s : Shared) (e : Value) (s' : Shared), CX w [] H s (fun _ _ _ => False) e s' → False) : PySem.W.WalkO q loose XP YP l.row.toRowW d [] (fun f vs => PySem.call f vs) :=
  Att.attach_call hn hdf fun w s₀ s₁ mg mb fa o pm cd doc a vs ns G Y ho hd hcd hmg hobj hints hlen hg => by
    have kin := hY w _ Y
    have top : TopT q (K w.params) mg s₁.heap := fun x g c P o fd e dd vs sl hx hm k1 k2 k3 k4 k5 k6 => by
      obtain ⟨r, hr1, hr2⟩ := List.any_eq_true.mp hx
      obtain ⟨a', o', fd', c', P', h1, h2, h3, h4, h5, h6⟩ := G.T.tab r hr1
      rw [beq_iff_eq.mp hr2, hm] at h1
      cases h1
      rw [kin _ _ k1] at h2
      cases h2
      rw [k2] at h3
      cases h3
      rw [k3] at h4
      cases h4
      have hd := PySem.W.CodeHd.of h5 h6
      obtain ⟨⟨oc, vc, e1, _, e3, e4⟩, hP⟩ := h6
      rw [kin _ _ k4] at e1
      cases e1
      cases e3
      rw [k5] at e4
      cases e4
      exact ⟨hP, k6, hd⟩
    obtain ⟨ts, fd, ht, hb, hF⟩ := F w mg fa _ kin G.T.g hmg top
    exact law_callT kin G.T.g G.T.b G.T.builtins G.T.nolimit hg ht G.T.bmain hobj hints (Nat.le_trans hlen hn2) hr hF hb (fun J nt nz hS => hsp w ts J a ns hlen nt nz hS) fun H e s' => hCX w H s₁ e s'
end Mi

end
section
set_option Elab.async false
set_option linter.all false
set_option maxRecDepth 100000
set_option autoImplicit false
set_option maxHeartbeats 4000000
/-! x(lambda: e), where the def x calls what it gets inside of a try -/
namespace Mi
open PySem PySem.Spec PyProof.Rows L2
def askOf : Res D → Fr
  | .ok d _ => .ok d []
  | .exc c d _ => .exc c d
  | .bad => .bad
/-- F: what the def makes of the lambda's end -/
def eThunk (O : List Nat) (F : Fr → Fr) (e : Ex) : Ex := fun δ => match F (askOf (e (wipeE δ O))) with
  | .ok d _ => .ok d δ
  | _ => .bad
/-- tl: the reading of the call of the lambda; r: its end -/
def AskR (K : PySem.W.Frag) (cm : CM) (fld : Str → Str) (G H : Hp) (r : Fr) (tl : XK → Hp → VK → Prop) : Prop :=
  ∀ (G1 H1 : Hp) (E : XK) (Q1 : VK), Ext cm.T [] G H G1 H1 → (match r with
    | .ok d _ => ∀ v G' H', Ext cm.T [] G1 H1 G' H' → Rp K cm G' v d → Q1 v H'
    | .exc c d => ∀ G' H' cls dd, Ext cm.T [] G1 H1 G' H' → XR K cm fld G' c d cls dd → E cls dd H'
    | .bad => False) → tl E H1 Q1
def TTm (K : PySem.W.Frag) (cm : CM) (fld : Str → Str) (F : Fr → Fr) : (XK → Hp → VK → Prop) → Hp → VK → Prop := fun tl H Q => ∃ (G : Hp) (r : Fr), Sg G H ∧ TbO cm.T H ∧ AskR K cm fld G H r tl ∧ match F r with
  | .ok d _ => ∀ v G' H', Ext cm.T [] G H G' H' → Rp K cm G' v d → Q v H'
  | _ => False
/-- x() in the def that got the lambda; what it lets out is wished at the state of the call -/
theorem pe_ask {Z : CXT} {E0 : XK} {Ns : List Str} {qn y : Str} {sc : Scope} {dg f d : Addr} {cv pm ct : Value} {pa : Arguments} {bd : Expr} {sl : Scope} {k i : Nat} {pn : List (Addr × Obj)} {xe : Value → Shared → Prop} {W : WX} {tb : XK → TE} {p1 p2 : Pos} {X : Cx} {pins : List (Addr × Obj)} {σ : L2.St} {H : Hp} {z : Shared}
    (I : Inv X pins σ H z) (L : LamX.LamS X.env.scope sl) (of : z.heap.get? f = some (PySem.W.kla_obj "<lambda>" (X.env.qual ++ "<lambda>") pa bd sl (cloFrom X.env.cells sl.names []) pm d ct)) (fH : H f = none) (fF : f ∉ frs X.stack)
    (bind : bindArgs (PySem.W.kla_fn "<lambda>" (X.env.qual ++ "<lambda>") pa bd sl (cloFrom X.env.cells sl.names []) pm (.ref d) ct) ⟨[], []⟩ = pure [])
    (tk : Takes ((cxOf Z X.prog X.w X.K X.mg X.base Ns qn sc dg cv X.A X.stack z H E0).tr pn xe) W) (room : Room (k + 1) (X.A.deeper (envOfC qn sc z.heap.objs.size dg cv)))
    (body : ∀ (E : XK) (A : Around) (outer : List PySem.Env) (s : Shared) (H : Hp), Room k (A.deeper (LamX.lamEnv X sl s.heap.objs.size f d)) → PE (LamX.lamCx X A outer s H E sl f d) bd (tb E))
    (nm : Ns[i]? = some y) (vis : Vis sc y) (y1 : (y == ("__debug__" : Str)) = false) (y2 : (y == ("__classdict__" : Str)) = false) :
    PE ((cxOf Z X.prog X.w X.K X.mg X.base Ns qn sc dg cv X.A X.stack z H E0).tr pn xe) (.Call (.Name y p1) [] [] p2) (fun σ2 H2 Q => σ2[i]? = some (some (.ref f)) ∧ H2 d = some (LamX.CodeO d (X.env.qual ++ "<lambda>")) ∧ tb (WE W σ2) σ H2 Q) := by
  refine ⟨fun pins2 s2 σ2 H2 Q J ⟨q1, q2, q3⟩ => wpAny_Call_Name_kw (thn ((pe_var (pos := p1) (i := i) nm vis y1 y2).run pins2 s2 σ2 H2 (fun v h => v = .ref f ∧ h = H2) J ⟨.ref f, q1, rfl, rfl⟩) fun u s3 ⟨v, h3, J3, rv, ev, eh⟩ => ?_)⟩
  subst ev eh
  obtain rfl : u = Value.ref f := rv
  have kb : Un (frs X.stack) [] H h3 z.heap s3.heap := J3.base
  have of3 : s3.heap.get? f = some (PySem.W.kla_obj "<lambda>" (X.env.qual ++ "<lambda>") pa bd sl (cloFrom X.env.cells sl.names []) pm d ct) := kb.keep f _ of fH fF (fun m => nomatch (show f ∈ ([] : List Addr) from m))
  obtain ⟨⟨oc, us, t0, c1, c2, c3⟩, _, _⟩ := J3.hok d _ q2
  refine PySem.W.callWith_F0 ⟨_, _, _, _, of3⟩ (wpAny_call (codeAny_mono (R := CR (L2.CX X.prog X.w) (envOfC qn sc z.heap.objs.size dg cv :: X.stack) X.prog X.w h3 s3 Q (WE W σ2)) ?_ fun r s4 hq => ?_))
  · refine PySem.W.kla_callFunE room.depth of3 rfl L.co L.gen rfl ⟨d, oc, us, t0, rfl, c1, c2, c3⟩ ?_
    rw [show ([] ++ [] : List Value) = [] from rfl, bind]
    refine wpAny_pure (wpAny_newFunctionEnv (fun y hy => (L.own y hy).2) (fun y hy => absurd hy (by simp)) (fun h4 ns ex => ⟨J3.nolimit.fresh _ ex, ?_⟩) L.kind)
    have I4 : Inv (LamX.lamCx X (X.A.deeper (envOfC qn sc z.heap.objs.size dg cv)) (envOfC qn sc z.heap.objs.size dg cv :: X.stack) s3 h3 (WE W σ2) sl f d) [] σ h3 { s3 with heap := h4, toks := s3.toks + ([] : List (Str × Value)).length } :=
      LamX.lam_start2 I L J3.env0 room.hd kb ns fun b o e => ex.extBut b o (Nat.ne_of_lt (Heap.lt_size e)) (Heap.get?_push_of_some _ e)
    show codeAny _ _ (.expr bd (LamX.lamEnv X sl s3.heap.objs.size f d)) _ _
    refine PySem.W.kla_codeExpr (wpAny_mono ((body (WE W σ2) _ _ s3 h3 (room.deeper _)).run [] _ _ h3 Q I4 q3) (fun v s5 hv => ?_) fun e s5 he => he)
    obtain ⟨w, h5, I5, rw5, qw⟩ := hv
    exact ⟨w, h5, I5.os, I5.bare, I5.base, I5.hok, rw5, qw⟩
  · rcases r with er | fl
    · exact (passAt tk σ2) pins2 h3 s3 er s4 J3 hq
    · cases fl with
      | ret u => exact J3.after hq
      | next => exact False.elim hq
      | brk => exact False.elim hq
      | cont => exact False.elim hq
/-- the def keeps what TT tells of the call of what it gets -/
def GivesM (X : Cx) (Ng : List Str) (x : Str) (sg : Scope) (g : Addr) (cdg : Value) (bg : List Stmt) (a : Str) (q : Str) (TT : (XK → Hp → VK → Prop) → Hp → VK → Prop) : Prop :=
  ∀ (f d : Addr) (s : Shared) (H : Hp) (Q : VK) (tl : XK → Hp → VK → Prop),
    (∀ (W : WX) (pn : List (Addr × Obj)) (xe : Value → Shared → Prop) (p1 p2 : Pos), Takes ((cxOf C8.CX0 X.prog X.w X.K X.mg X.base Ng x sg g cdg X.A X.stack s H C8.E0).nox.tr pn xe) W →
      PE ((cxOf C8.CX0 X.prog X.w X.K X.mg X.base Ng x sg g cdg X.A X.stack s H C8.E0).nox.tr pn xe) (.Call (.Name a p1) [] [] p2) (fun σ2 H2 Q => σ2[0]? = some (some (.ref f)) ∧ H2 d = some (LamX.CodeO d q) ∧ tl (WE W σ2) H2 Q)) →
    H d = some (LamX.CodeO d q) → TT tl H Q →
    ∃ t, PSs (cxOf C8.CX0 X.prog X.w X.K X.mg X.base Ng x sg g cdg X.A X.stack s H C8.E0).nox bg t ∧ t { nx := fun _ H' => Q .non H', rt := Q } (L2.start Ng [.ref f]) H
/-- a def that calls its one argument -/
structure ThkD (P : Program) (w : World) (K : PySem.W.Frag) (mg : Str → Option Value) (base : Heap) (cm : CM) (fld : Str → Str) (x : Str) (F : Fr → Fr) : Prop where
  ex : ∃ (a : Str) (g : Addr) (pg : Arguments) (bg : List Stmt) (sg : Scope) (dV kV doc pm cdv ct oc : Value) (an od : Option Addr) (osl : Array (Option Value)) (Ng : List Str),
    mg x = some (.ref g) ∧ PySem.W.keepIn K (.ref g) = true ∧ K.lookup g = some ⟨oc, od, .func (PySem.W.fnOf x x pg bg sg dV kV doc pm an cdv ct), osl⟩ ∧ PySem.W.codeIn K cdv x = true ∧ L2.Binds K (PySem.W.fnOf x x pg bg sg dV kV doc pm an cdv ct) [a] [] ∧ FnScope Ng [a] sg ∧
    Ng[0]? = some a ∧ Vis sg a ∧ (a == ("__debug__" : Str)) = false ∧ (a == ("__classdict__" : Str)) = false ∧
    ∀ (X : Cx) (q : Str), X.prog = P → X.w = w → X.K = K → X.mg = mg → X.base = base → GivesM X Ng x sg g cdv bg a q (TTm K cm fld F)
/-- what follows the making of a lambda: its function object f, its code object d -/
def LamGo (n : Nat) (X : Cx) (pins : List (Addr × Obj)) (σ : L2.St) (T : List (Addr × Str)) (H : Hp) (ps : Arguments) (b : Expr) (sc : Scope) (Q : Value → Shared → Prop) : Prop :=
  ∀ (f d : Addr) (pm ct : Value) (J : Hp) (z : Shared), Inv X pins σ J z → LamX.ExtN H J → (∀ a, H a ≠ none → J a ≠ none) → TbO T J → J f = none → f ∉ frs X.stack → n ≤ f → J d = some (LamX.CodeO d (X.env.qual ++ "<lambda>")) →
    z.heap.get? f = some (PySem.W.kla_obj "<lambda>" (X.env.qual ++ "<lambda>") ps b sc (cloFrom X.env.cells sc.names []) pm d ct) → Q (.ref f) z
theorem lam_go {X : Cx} {pins : List (Addr × Obj)} {σ : L2.St} {H : Hp} {z : Shared} {T : List (Addr × Str)} {cd tb : Addr} {ps : Arguments} {b : Expr} {sc : Scope} {ln : Pos} {E Q : Value → Shared → Prop} (I : Inv X pins σ H z) (B : LamX.TabB X.base X.mg cd tb) (hc : X.env.code = .ref cd)
    (mem : (tb, X.env.qual ++ "<lambda>") ∈ T) (one : ∀ p ∈ T, p.1 = tb → p.2 = X.env.qual ++ "<lambda>") (t : TbO T H) (nd : defaultsOf ps X.env = ([], [])) (fre : ∀ y ∈ sc.names, y.2 = .free → ∃ c, X.env.cells.lookup y.1 = some c) (go : LamGo z.heap.objs.size X pins σ T H ps b sc Q) :
    wpAny (model X.prog X.w) X.A (eval (.Lambda ps b sc ln) X.env) Q E z := by
  obtain ⟨rows, hT, ok, mine⟩ := t.1 _ mem
  have objT : z.heap.get? tb = some (PySem.W.tabObj rows) := I.hok tb _ hT
  have far : ∀ g, z.heap.objs.size ≤ g → g ∉ frs X.stack := fun g hg m => (List.mem_cons.mp (I.stkSub _ m)).elim (fun e => absurd (e ▸ I.lt) (Nat.not_lt.mpr hg)) (I.nofs hg)
  have bi := B.bm.keeps I.bk
  have gl := I.mod.glob.keeps I.bk
  refine PySem.W.kla_eval nd ?_
  rcases q : codeAmong ln rows.toList with _ | v
  · refine PySem.W.kla_makeFunction (mg := X.mg) (c := cd) (P := tb) (ps := rows) (closure_ok fre) I.ok.glob gl hc (B.code.keeps I.bk) objT ok q B.gP bi fun d ct h2 k2 kx ge lt cr tx => ?_
    obtain ⟨_, oc, us, t0, ed, k1, k3, k4⟩ := cr
    cases ed
    have nd' : H d = none := I.hok.fresh ge
    have ne : tb ≠ d := ne_of_none hT nd'
    let more := #[rawInt ln.line, rawInt ln.col, Value.ref d]
    let fo := PySem.W.kla_obj "<lambda>" (X.env.qual ++ "<lambda>") ps b sc (cloFrom X.env.cells sc.names []) ((X.mg "__name__").getD .none) d ct
    have J := LamX.inv_table (t' := k2) (more := more) (h' := h2.push fo) I hT (fun a o n e => Heap.get?_push_of_some _ (kx a o n e)) (Heap.get?_push_of_some _ tx) ge ⟨oc, us, t0, Heap.get?_push_of_some _ k1, k3, k4⟩
    have at0 : ∀ a, a ≠ d → a ≠ tb → upd (upd H tb (.tbl (rows ++ more))) d (LamX.CodeO d (X.env.qual ++ "<lambda>")) a = H a := fun a n1 n2 => by rw [upd_ne n1, upd_ne n2]
    have at1 : upd (upd H tb (.tbl (rows ++ more))) d (LamX.CodeO d (X.env.qual ++ "<lambda>")) tb = some (.tbl (rows ++ more)) := by rw [upd_ne ne, upd_same]
    have big := Nat.le_trans ge (Nat.le_of_lt lt)
    have xn : LamX.ExtN H (upd (upd H tb (.tbl (rows ++ more))) d (LamX.CodeO d (X.env.qual ++ "<lambda>"))) := fun a o e n => (at0 a (ne_of_none e nd') fun y => n rows (by rw [y, hT] at e; exact (Option.some.inj e).symm)).trans e
    refine go h2.objs.size d _ ct _ _ J xn (fun a ha => ?_) ⟨fun p hp => ?_, fun a r e => ?_⟩ ?_ (far _ big) big upd_same (Heap.get?_push_size _ rfl)
    · by_cases y : a = tb
      · rw [y, at1]; exact fun w => nomatch w
      · by_cases y2 : a = d
        · exact absurd (y2 ▸ nd') ha
        · rw [at0 a y2 y]; exact ha
    · by_cases y : p.1 = tb
      · rw [one p hp y, y]
        refine ⟨_, at1, by rw [Array.toList_append]; exact PySem.TriplesOk_snoc _ _ _ _ ok, fun p2 cv hv => ?_⟩
        rw [Array.toList_append] at hv
        rcases LamX.among_app _ ok hv with w | w
        · obtain ⟨c0, e1, e2⟩ := mine p2 cv w
          exact ⟨c0, e1, xn _ _ e2 LamX.codeO_ne⟩
        · exact ⟨d, w, upd_same⟩
      · obtain ⟨r1, e1, e2, e3⟩ := t.1 p hp
        refine ⟨r1, (at0 _ (ne_of_none e1 nd') y).trans e1, e2, fun p2 cv hv => ?_⟩
        obtain ⟨c0, f1, f2⟩ := e3 p2 cv hv
        exact ⟨c0, f1, xn _ _ f2 LamX.codeO_ne⟩
    · by_cases y : a = tb
      · exact ⟨_, mem, y.symm⟩
      · by_cases y2 : a = d
        · rw [y2, upd_same] at e
          exact absurd (Option.some.inj e) (LamX.codeO_ne _)
        · rw [at0 a y2 y] at e
          exact t.2 a r e
    · rw [at0 _ (Nat.ne_of_gt lt) (Nat.ne_of_gt (Nat.lt_of_lt_of_le (Heap.lt_size objT) big))]
      exact I.hok.fresh big
  · obtain ⟨d, rfl, kd⟩ := mine ln v q
    refine PySem.W.kla_makeFunctionHit (mg := X.mg) (c := cd) (P := tb) (ps := rows) (closure_ok fre) I.ok.glob gl hc (B.code.keeps I.bk) objT ok q bi fun ct h2 k2 kx ge => ?_
    exact go h2.objs.size d _ ct H _ (I.kept (t' := k2) fun a o e => Heap.get?_push_of_some _ (kx a o e)) (.refl H) (fun _ h => h) t (I.hok.fresh ge) (far _ ge) ge kd (Heap.get?_push_size _ rfl)
/-- the def at hand has a table of its own for lambdas -/
def LamAt (X : Cx) (cm : CM) : Prop := ∃ c P, X.env.code = .ref c ∧ LamX.TabB X.base X.mg c P ∧ (P, X.env.qual ++ "<lambda>") ∈ cm.T ∧ ∀ p ∈ cm.T, p.1 = P → p.2 = X.env.qual ++ "<lambda>"
theorem pe_exz {α : Type} {X : Cx} {e : Expr} {t : α → TE} (h : ∀ z, PE X e (t z)) : PE X e (fun σ H Q => ∃ z, t z σ H Q) := ⟨fun pins s σ H Q I ⟨z, w⟩ => (h z).run pins s σ H Q I w⟩
theorem d_thunk {X : Cx} {C : Sc} {O : List Nat} {x : Str} {p lpos pos : Pos} {params : Arguments} {body : Expr} {scope : Scope} {F : Fr → Fr} {e : Ex} {k j : Nat} (t : ThkD X.prog X.w X.K X.mg X.base C.F.cm C.fld x F) (hK : C.F.K = X.K) (lam : LamAt X C.F.cm) (hr : Room j X.A) (hk : k + 2 ≤ j)
    (hbody : ∀ (A : Around) (outer : List PySem.Env) (s : Shared) (H : Hp) (E : XK) (f c' : Addr) (z : Hp × Hp), Room k (A.deeper (LamX.lamEnv X scope s.heap.objs.size f c')) → PE (LamX.lamCx X A outer s H E scope f c') body (tD ⟨⟨C.F.K, C.F.cm, z.1, z.2, C.F.n, [], [], [], []⟩, fun cls d _ H => E cls d H, C.fld, fun _ => True, [], false⟩ [] e))
    (hg : Gl X x := by rfl) (L : LamX.lamSB X.env.scope scope = true := by rfl) (hdef : defaultsOf params X.env = ([], []) := by rfl) (hbind : ∀ (q : Str) (cl : List (Str × Addr)) (pm cv ctv : Value), bindArgs (PySem.W.kla_fn "<lambda>" q params body scope cl pm cv ctv) ⟨[], []⟩ = pure [] := by intros; rfl) (hdb : (x == ("__debug__" : Str)) = false := by decide) :
    PE X (.Call (.Name x p) [.Lambda params body scope lpos] [] pos) (tD C O (eThunk O F e)) := by
  obtain ⟨a, g, pg, bg, sg, dV, kV, doc, pm, cdv, ct, oc, an, od, osl, Ng, hm, kp, lk, code, hb, hS, hN, hv, hd, hcd, hG⟩ := t.ex
  obtain ⟨c, P, hcode, TB, hmT, hu⟩ := lam
  obtain ⟨⟨K0, cm, G0, H0, n, ns, as, ks0, s00⟩, W, fld, XO, Lo, fr⟩ := C
  have hK : K0 = X.K := hK
  subst hK
  have L' := LamX.lamS_by L
  refine ⟨fun pins s σ H Q I h => ?_⟩
  obtain ⟨G, δ, st, m⟩ := h
  refine wpAny_Call_Name_kw (ld_glob I hg hm (PySem.W.callWith_K (h₀ := X.base) I.ok.mod.kin kp ?_ (by rfl) (by rfl)) hdb)
  show wpAny _ _ (spliced ((false, eval (.Lambda params body scope lpos) X.env) :: backTo pos (starEach [] X.env))) _ _ s
  refine Calls.spliced_cons (lam_go I TB hcode hmT hu st.tabs hdef (L'.has I.ok) fun f d pm' ct' J z I1 xn dm tb nf ff _ hd0 hf => ?_)
  refine Calls.spliced_nil ⟨I1.kIn, ?_⟩
  have sg1 : Sg G J := ⟨fun b o h => xn b o (st.gh b o h) (st.gh.nt b o h), st.gh.nt⟩
  have e01 : Ext cm.T [] G H G J := ⟨.refl G, sg1, fun b o h _ ht => xn b o h ht, fun _ _ => rfl, dm, fun _ => tb⟩
  have st1 := st.step e01
  have rc : codeAny (model X.prog X.w) X.A (.call (.ref g) ⟨[.ref f], []⟩) (CR C8.CX0 X.stack X.prog X.w J z Q C8.E0) z := by
    refine LamX.run_ofS (N := Ng) (ps := [a]) (us := [.ref f]) (vs := [.ref f]) lk code hS (hr.mono hk) I1.env0 (hb z [.ref f] I1.kIn rfl) (.cons rfl .nil) rfl fun hr' => ?_
    have act := hG X (X.env.qual ++ "<lambda>") rfl rfl rfl rfl rfl f d z J Q (fun E H' Q' => ∃ w : Hp × Hp, tD ⟨⟨X.K, cm, w.1, w.2, n, [], [], [], []⟩, fun cls d _ H => E cls d H, fld, fun _ => True, [], false⟩ [] e σ H' Q')
      (fun W pn xe p1 p2 tk => pe_ask (Z := C8.CX0) (E0 := C8.E0) (i := 0) I1 L' hf nf ff (hbind _ _ _ _ _) tk hr' (fun E A outer s H hr2 => pe_exz fun w => hbody A outer s H E f d w hr2) hN hv hd hcd) hd0 ?_
    · obtain ⟨t', ht', hq'⟩ := act
      exact ⟨t', ht'.nox, hq'⟩
    · refine ⟨G, askOf (e (wipeE δ O)), sg1, tb, fun G1 H1 E Q1 ex r => ?_, ?_⟩
      · have st2 := st1.step ex
        refine ⟨(G1, H1), G1, wipeE δ O, ?_, ?_⟩
        · exact {
            ext := .refl st2.gh
            ln := st2.ln
            le := by rw [wipeE_length]; exact st2.le
            sh := fun i dd _ h => by
              obtain ⟨h1, h2⟩ := wipeE_at h
              exact st2.sh i dd h2 h1
            ow := fun i hi => by cases hi
            dis := fun i hi => by cases hi
            fix := fun p hp => by cases hp
            tabs := st2.tabs
            kp := fun j hj => by cases hj }
        · cases ee : e (wipeE δ O) with
          | ok dd δ' => rw [ee] at r; exact fun v G' H' s' _ rv => r v G' H' s' rv
          | exc cc dd δ' => rw [ee] at r; exact fun G' H' cls dx st' xr => r G' H' cls dx st'.ext xr
          | bad => rw [ee] at r; exact r
      · unfold eThunk at m
        cases ef : F (askOf (e (wipeE δ O))) with
        | ok dd outs =>
          rw [ef] at m
          exact fun v G' H' ex rv => m v G' H' ((Ext.refl (T := cm.T) st.gh).and (e01.and ex)) (st1.step ex) rv
        | exc cc dd => rw [ef] at m; exact m.elim
        | bad => rw [ef] at m; exact m.elim
  refine wpAny_call (codeAny_mono rc fun r s2 hq => ?_)
  rcases r with er | fl
  · exact (show False from hq).elim
  · cases fl with
    | ret u => exact I1.after hq
    | next => exact False.elim hq
    | brk => exact False.elim hq
    | cont => exact False.elim hq
end Mi

end
section
set_option Elab.async false
set_option linter.all false
set_option maxRecDepth 100000
set_option autoImplicit false
set_option maxHeartbeats 4000000
/-! defs that call their one argument inside of a try -/
namespace Mi
open PySem PySem.Spec PyProof.Rows L2
/-- ask(); x = ask(); return ask() -/
inductive TK where
  | ex | asg (j : Nat) | ret
def TK.o : TK → D → Env → Out
  | .ex, _, δ => .nx δ
  | .asg j, d, δ => .nx (δ.set j (some d))
  | .ret, d, δ => .rt d δ
def TK.k : TK → V → Ends → L2.St → Hp → Prop
  | .ex, _, D, σ, H => D.nx σ H
  | .asg j, v, D, σ, H => D.nx (σ.set j (some v)) H
  | .ret, v, D, _, H => D.rt v H
def thkT (kd : TK) (cs : List Str) (i : Nat) (gh : Str → D → Sm) (r : Fr) : Sm := fun δ => match r with
  | .ok d _ => kd.o d δ
  | .exc c d => if c ∈ cs then clr i (gh c d (δ.set i none)) else .bad
  | .bad => .bad
/-- δ: the def's names ahead of the try -/
def thkM (δ : Env) (kd : TK) (cs : List Str) (i : Nat) (gh : Str → D → Sm) (gp : Sm) (r : Fr) : Fr := match sSeq (thkT kd cs i gh r) gp δ with
  | .nx _ => .ok .non []
  | .rt d _ => .ok d []
  | _ => .bad
/-- the def's context -/
abbrev cxT (P : Program) (w : World) (K : PySem.W.Frag) (mg : Str → Option Value) (base : Heap) (Ng : List Str) (x : Str) (st : Stmt) (g : Addr) (cdv : Value) (A : Around) (stack : List PySem.Env) (s : Shared) (H : Hp) : Cx := (cxOf C8.CX0 P w K mg base Ng x (defScope st) g cdv A stack s H C8.E0).nox
abbrev scT (K : PySem.W.Frag) (cm : CM) (fld : Str → Str) (n : Nat) (G H : Hp) : Sc := ⟨⟨K, cm, G, H, n, [], [], [], []⟩, fun _ _ _ _ => False, fld, fun _ => True, [], false⟩
section
variable {K : PySem.W.Frag} {cm : CM} {fld : Str → Str} {n i : Nat} {G H : Hp} {σ : L2.St} {δ : Env} {kd : TK} {cs : List Str} {gh : Str → D → Sm} {r : Fr} {tl : XK → Hp → VK → Prop} {vc : Value} {ts : Addr → Value → Option Addr → TS}
theorem r_thk {Z : Ends} (st : Stt ⟨K, cm, G, H, n, [], [], [], []⟩ [] G H σ δ) (ask : AskR K cm fld G H r tl) (m : Ps (scT K cm fld n G H) [] G Z (thkT kd cs i gh r δ)) (hcs : ∀ c ∈ cs, PySem.W.exmOne K (.ref (cm c)) vc = some true)
    (hrun : ∀ (a : Addr) (cl : Value) (d : Option Addr) (c : Str) (dv : D) (σ : L2.St) (G0 H0 G H : Hp) (δ : Env) (D : Ends), c ∈ cs → Stt ⟨K, cm, G0, H0, n, [], [], [], []⟩ [] G H σ δ → (i < σ.length → σ[i]? = some (some (.ref a))) → XRp (scT K cm fld n G0 H0) G c dv cl d → Ps (scT K cm fld n G0 H0) [] G D (gh c dv δ) → ts a cl d D σ H) :
    tl (WE (wAs K vc i ts (fun _ _ _ _ => False) Z) σ) H (fun v H' => kd.k v Z σ H') := by
  refine ask G H _ _ (.refl st.gh) ?_
  cases r with
  | bad => exact m
  | ok d o =>
    intro v G' H' ex rv
    have st' := st.step ex
    cases kd with
    | ex => exact m σ G' H' ex.g st'
    | asg j => exact m _ G' H' ex.g (put_keeps st' rv (by simp) (by simp))
    | ret => exact m v G' H' st'.ret rv (.no rfl)
  | exc c dv =>
    intro G' H' cls dd ex xr
    have m : Ps (scT K cm fld n G H) [] G Z (if c ∈ cs then clr i (gh c dv (δ.set i none)) else .bad) := m
    by_cases h : c ∈ cs
    · rw [if_pos h] at m
      refine ⟨true, by rw [xr.1]; exact hcs c h, fun _ a ha => ?_, fun z => Bool.noConfusion z⟩
      have st2 := (st.step ex).hide (i := i) (x := some (.ref a)) (by simp) (by simp)
      refine hrun a cls dd c dv _ G H G' H' _ _ h st2 (fun hl => List.getElem?_set_self (by simpa using hl)) xr ?_
      cases eg : gh c dv (δ.set i none) with
      | nx δ2 => rw [eg] at m; exact fun σ3 G3 H3 s3 st3 => m _ G3 H3 (ex.g.trans s3) (st3.hide (by simp) (by simp))
      | rt d δ2 => rw [eg] at m; exact m
      | bk δ2 => rw [eg] at m; exact m.elim
      | ct δ2 => rw [eg] at m; exact m.elim
      | exc c2 d2 δ2 => rw [eg] at m; exact m
      | bad => rw [eg] at m; exact m
    · rw [if_neg h] at m
      exact m.elim
end
section
variable {P : Program} {w : World} {K : PySem.W.Frag} {mg : Str → Option Value} {base : Heap} {cm : CM} {fld : Str → Str} {x a e nm : Str} {st : Stmt} {g : Addr} {fd : FuncData} {Ng : List Str} {n i j0 : Nat} {v0 : V} {d0 : D} {kd : TK} {cs : List Str} {gh : Str → D → Sm} {gp : Sm} {s0 b0 : Stmt} {body suite rest : List Stmt} {p1 p2 np pos pos' : Pos} {vc : Value} {ts : Addr → Value → Option Addr → TS} {O' : List Nat}
theorem start_ask {G H : Hp} {f : Addr} (hn : Ng.length = n) (h0 : Ng[0]? = some a) (sg : Sg G H) (tb : TbO cm.T H) : Stt ⟨K, cm, G, H, n, [], [], [], []⟩ [] G H (L2.start Ng [.ref f]) (List.replicate n none) := by
  have hp : 0 < Ng.length := (List.getElem?_eq_some_iff.mp h0).1
  exact {
    ext := .refl sg
    ln := by
      show (L2.start Ng [V.ref f]).length = n
      unfold L2.start
      simp
      omega
    le := by simp
    sh := fun i d _ h => by
      rw [List.getElem?_replicate] at h
      split at h <;> cases h
    ow := fun i hi => by cases hi
    dis := fun i hi => by cases hi
    fix := fun p hp => by cases hp
    tabs := tb
    kp := fun j hj => by cases hj }
/-- name = const; try: .. except e as nm: ..; rest -/
theorem thk_mk1 (F : Fun K x x st g fd) (hm : mg x = some (.ref g)) (hb : Binds K fd [a] []) (S : FnScope Ng [a] (defScope st)) (hn : Ng.length = n) (h0 : Ng[0]? = some a) (hv : Vis (defScope st) a) (hd1 : (a == ("__debug__" : Str)) = false) (hd2 : (a == ("__classdict__" : Str)) = false)
    (hbd : defBody st = s0 :: .Try body [.ExceptHandler (some (.Name e np)) (some nm) (b0 :: suite) pos'] [] [] pos :: rest) (r0 : ∀ G, Rp K cm G v0 d0) (hj : j0 ≠ 0) (hi : Ng[i]? = some nm)
    (hpre : ∀ (cdv : Value) (A : Around) (stack : List PySem.Env) (s : Shared) (H : Hp), PS (cxT P w K mg base Ng x st g cdv A stack s H) s0 (tAsg (tC v0) (gName j0)))
    (hbody : ∀ (cdv : Value) (A : Around) (stack : List PySem.Env) (s : Shared) (H : Hp) (pn : List (Addr × Obj)) (xe : Value → Shared → Prop) (t : TE), PE ((cxT P w K mg base Ng x st g cdv A stack s H).tr pn xe) (.Call (.Name a p1) [] [] p2) t → PSs ((cxT P w K mg base Ng x st g cdv A stack s H).tr pn xe) body (fun D σ H => t σ H fun v H' => kd.k v D σ H'))
    (hln : ∀ (cdv : Value) (A : Around) (stack : List PySem.Env) (s : Shared) (H : Hp), (cxT P w K mg base Ng x st g cdv A stack s H).env.kindOf nm = some .local ∧ Names (cxT P w K mg base Ng x st g cdv A stack s H) e vc)
    (hcs : ∀ c ∈ cs, PySem.W.exmOne K (.ref (cm c)) vc = some true)
    (hsu : ∀ (cdv : Value) (A : Around) (stack : List PySem.Env) (s : Shared) (H : Hp) (a : Addr) (oe : Obj) (cl : Value) (d : Option Addr) (pn : List (Addr × Obj)), Zc cl d oe → (∃ vs, oe.data = .fields vs) → PSs ((cxT P w K mg base Ng x st g cdv A stack s H).suite a ((a, oe) :: pn)) (b0 :: suite) (ts a cl d))
    (hrun : ∀ (a : Addr) (cl : Value) (d : Option Addr) (c : Str) (dv : D) (σ : L2.St) (G0 H0 G H : Hp) (δ : Env) (D : Ends), c ∈ cs → Stt ⟨K, cm, G0, H0, n, [], [], [], []⟩ [] G H σ δ → (i < σ.length → σ[i]? = some (some (.ref a))) → XRp (scT K cm fld n G0 H0) G c dv cl d → Ps (scT K cm fld n G0 H0) [] G D (gh c dv δ) → ts a cl d D σ H)
    (hrest : ∀ (cdv : Value) (A : Around) (stack : List PySem.Env) (s : Shared) (H G : Hp), PSs (cxT P w K mg base Ng x st g cdv A stack s H) rest (tS (scT K cm fld n G H) [] O' gp)) :
    ThkD P w K mg base cm fld x (thkM ((List.replicate n none).set j0 (some d0)) kd cs i gh gp) := by
  have kp := F.kp
  obtain ⟨oc, od, kV, doc, pm, an, cdv, ct, osl, rfl, lk, code⟩ := F.ex
  refine ⟨a, g, defArgs st, defBody st, defScope st, .none, kV, doc, pm, cdv, ct, oc, an, od, osl, Ng, hm, kp, lk, code, hb, S, h0, hv, hd1, hd2, fun X q e1 e2 e3 e4 e5 => ?_⟩
  subst e1 e2 e3 e4 e5
  intro f d s H Q tl act hd tt
  obtain ⟨G, r, sg, tb, ask, fin⟩ := tt
  rw [hbd]
  have ps1 := ps_try_as (X := cxT X.prog X.w X.K X.mg X.base Ng x st g cdv X.A X.stack s H) (pos := pos) (pos' := pos') (np := np) (i := i) (body := body) (suite := suite) (b₀ := b0) (ts := ts) (Wout := fun _ _ _ _ => False)
    (tb := fun W D σ H => σ[0]? = some (some (.ref f)) ∧ H d = some (LamX.CodeO d q) ∧ tl (WE W σ) H fun v H' => kd.k v D σ H') rfl rfl S.nd hi (hln cdv X.A X.stack s H).1 (hln cdv X.A X.stack s H).2 takes0
    (fun W pn xe tk _ => hbody cdv X.A X.stack s H pn xe _ (act W pn xe p1 p2 tk)) (fun a oe cl dd pn hz hf => hsu cdv X.A X.stack s H a oe cl dd pn hz hf)
  refine ⟨_, pss_cons (hpre cdv X.A X.stack s H) (pss_cons ps1 (pss_ex fun z : Hp => hrest cdv X.A X.stack s H z)), ?_⟩
  have st0 := start_ask (K := X.K) (cm := cm) (f := f) hn h0 sg tb
  have st1 := put_keeps st0 (r0 G) (i := j0) (by simp) (by simp)
  have z0 : ((L2.start Ng [V.ref f]).set j0 (some v0))[0]? = some (some (V.ref f)) := by
    rw [List.getElem?_set_ne hj]
    rfl
  refine ⟨z0, hd, r_thk st1 ask ?_ hcs hrun⟩
  unfold thkM sSeq at fin
  cases em : thkT kd cs i gh r ((List.replicate n none).set j0 (some d0)) with
  | nx δ2 =>
    simp only [em] at fin
    intro σ' G' H' s' st'
    refine ⟨G, G', δ2, st', ?_⟩
    cases eg : gp δ2 with
    | nx δ3 =>
      simp only [eg] at fin
      exact fun σ3 G3 H3 _ st3 => fin .non G3 H3 st3.ext .non
    | rt dd δ3 =>
      simp only [eg] at fin
      exact fun v G3 H3 rs rv _ => fin v G3 H3 rs.1 rv
    | bk _ => simp only [eg] at fin
    | ct _ => simp only [eg] at fin
    | exc _ _ _ => simp only [eg] at fin
    | bad => simp only [eg] at fin
  | rt dd δ2 =>
    simp only [em] at fin
    exact fun v G3 H3 rs rv _ => fin v G3 H3 rs.1 rv
  | bk _ => simp only [em] at fin
  | ct _ => simp only [em] at fin
  | exc _ _ _ => simp only [em] at fin
  | bad => simp only [em] at fin
end
end Mi

end
section
set_option Elab.async false
set_option linter.all false
set_option maxRecDepth 100000
set_option autoImplicit false
set_option maxHeartbeats 4000000
/-! calls with keywords; what is never reached -/
namespace Mi
open PySem PySem.Spec PyProof.Rows L2
/-- the items at the places p -/
def sel {α : Type} (p : List Nat) (l : List α) : List α := p.filterMap (l[·]?)
theorem sel_vals {vs : List V} {us : List Value} (r : Vals vs us) : ∀ p : List Nat, Vals (sel p vs) (sel p us)
  | [] => .nil
  | i :: p => by
    have ih := sel_vals r p
    have hh : ∀ {vs : List V} {us : List Value} (i : Nat), Vals vs us → (vs[i]? = none ∧ us[i]? = none) ∨ ∃ v u, vs[i]? = some v ∧ us[i]? = some u ∧ RelV v u := by
      intro vs us i r
      induction r generalizing i with
      | nil => exact .inl ⟨rfl, rfl⟩
      | cons h t ih =>
        cases i with
        | zero => exact .inr ⟨_, _, rfl, rfl, h⟩
        | succ i => simpa using ih i
    unfold sel at ih ⊢
    rcases hh i r with ⟨e1, e2⟩ | ⟨v, u, e1, e2, q⟩
    · rw [List.filterMap_cons, List.filterMap_cons, e1, e2]; exact ih
    · rw [List.filterMap_cons, List.filterMap_cons, e1, e2]; exact .cons q ih
theorem sel_rps {K : PySem.W.Frag} {cm : CM} {G : Hp} {vs : List V} {ds : List D} (r : Rps K cm G vs ds) : ∀ p : List Nat, Rps K cm G (sel p vs) (sel p ds)
  | [] => .nil
  | i :: p => by
    have ih := sel_rps r p
    unfold sel at ih ⊢
    cases e : ds[i]? with
    | none =>
      have e2 : vs[i]? = none := by
        rw [List.getElem?_eq_none_iff] at e ⊢
        rw [r.length]; exact e
      rw [List.filterMap_cons, List.filterMap_cons, e, e2]; exact ih
    | some d =>
      obtain ⟨v, e2, q⟩ := r.get e
      rw [List.filterMap_cons, List.filterMap_cons, e, e2]; exact .cons q ih
theorem sel_len {α β : Type} {a : List α} {b : List β} (h : a.length = b.length) : ∀ p : List Nat, (sel p a).length = (sel p b).length
  | [] => rfl
  | i :: p => by
    have ih := sel_len h p
    unfold sel at ih ⊢
    by_cases hi : i < a.length
    · rw [List.filterMap_cons, List.filterMap_cons, List.getElem?_eq_getElem hi, List.getElem?_eq_getElem (by omega), List.length_cons, List.length_cons, ih]
    · rw [List.filterMap_cons, List.filterMap_cons, List.getElem?_eq_none (by omega), List.getElem?_eq_none (by omega)]; exact ih
theorem vals_app2 {vs zs : List V} {us ws : List Value} (r : Vals vs us) (q : Vals zs ws) : Vals (vs ++ zs) (us ++ ws) := by
  induction r with
  | nil => exact q
  | cons h t ih => exact .cons h ih
/-- how a call with keywords binds -/
structure KwB (K : PySem.W.Frag) (fd : FuncData) (ps : List Str) (n : Nat) (ks : List Str) (p : List Nat) : Prop where
  to : ∀ (s : Shared) (us ws : List Value), K.In s.heap → us.length = n → ws.length = ks.length → BindsTo s fd ⟨us, ks.zip ws⟩ (ps.zip (sel p (us ++ ws)))
section
variable {X : Cx} {C : Sc} {O : List Nat} {a : Expr} {fa : Ex} {es : List Expr} {kws : List Keyword} {fs gs : List Ex} {f : List D → Fr} {pos p : Pos} {x : Str} {k n j m : Nat} {g : Addr} {fd : FuncData} {ps ks : List Str} {pm : List Nat}
theorem k_nil : PK X [] (tA C O (eL [])) := ⟨fun pos pins s σ H Q I h => pk_nil.run pos pins s σ H Q I (by obtain ⟨G, δ, st, m⟩ := h; exact m [] G H (.refl st.gh) st .nil)⟩
theorem pk_imp {t t' : TA} (h : PK X kws t) (i : ∀ σ H Q, t' σ H Q → t σ H Q) : PK X kws t' := ⟨fun pos pins s σ H Q I w => h.run pos pins s σ H Q I (i _ _ _ w)⟩
theorem r_cons (σ : L2.St) (H : Hp) (Q : List V → Hp → Prop) (h : tA C O (eL (fa :: fs)) σ H Q) : tCons (tD C O fa) (tA C O (eL fs)) σ H Q := by
  obtain ⟨G, δ, st, m⟩ := h
  refine ⟨G, δ, st, ?_⟩
  unfold eL at m
  cases e : fa δ with
  | exc c d δ' => rw [e] at m; exact m
  | bad => rw [e] at m; exact m
  | ok d δ' =>
    rw [e, Res.bind_ok] at m
    intro v G1 H1 s1 st1 rv
    refine ⟨G1, δ', st1, ?_⟩
    cases eb : eL fs δ' with
    | exc c d δ2 => rw [eb] at m; exact m
    | bad => rw [eb] at m; exact m
    | ok ds δ2 =>
      rw [eb, Res.bind_ok] at m
      exact fun vs G2 H2 s2 st2 rs => m (v :: vs) G2 H2 (s1.thn s2) st2 (.cons (rv.mono s2.g) rs)
theorem k_cons {nm : Option Str} {kp : Pos} (ha : PE X a (tD C O fa)) (hr : PK X kws (tA C O (eL fs))) : PK X (⟨nm, a, kp⟩ :: kws) (tA C O (eL (fa :: fs))) := pk_imp (pk_cons ha hr) r_cons
theorem eL_app : ∀ {fs gs : List Ex} {δ : Env}, eL (fs ++ gs) δ = (eL fs δ).bind fun xs δ1 => (eL gs δ1).bind fun ys δ2 => .ok (xs ++ ys) δ2
  | [], gs, δ => by
    simp only [List.nil_append, eL, Res.bind_ok]
    cases eL gs δ <;> rfl
  | f :: fs, gs, δ => by
    simp only [List.cons_append, eL]
    cases f δ with
    | ok d δ1 =>
      simp only [Res.bind_ok]
      rw [eL_app]
      cases eL fs δ1 with
      | ok xs δ2 =>
        simp only [Res.bind_ok]
        cases eL gs δ2 <;> rfl
      | exc _ _ _ => rfl
      | bad => rfl
    | exc _ _ _ => rfl
    | bad => rfl
theorem r_app {σ : L2.St} {H : Hp} {Q : List V → Hp → Prop} (h : tA C O (eL (fs ++ gs)) σ H Q) : tA C O (eL fs) σ H fun vs H1 => tA C O (eL gs) σ H1 fun zs H2 => Q (vs ++ zs) H2 := by
  obtain ⟨G, δ, st, m⟩ := h
  refine ⟨G, δ, st, ?_⟩
  rw [eL_app] at m
  cases e : eL fs δ with
  | exc c d δ' => rw [e] at m; exact m
  | bad => rw [e] at m; exact m
  | ok ds δ' =>
    rw [e, Res.bind_ok] at m
    intro vs G1 H1 s1 st1 rv
    refine ⟨G1, δ', st1, ?_⟩
    cases eb : eL gs δ' with
    | exc c d δ2 => rw [eb] at m; exact m
    | bad => rw [eb] at m; exact m
    | ok es δ2 =>
      rw [eb, Res.bind_ok] at m
      exact fun zs G2 H2 s2 st2 rs => m _ G2 H2 (s1.thn s2) st2 ((rv.mono s2.g).app rs)
/-- the reading of all that is written, then the callee's promise -/
theorem r_callK {σ : L2.St} {H : Hp} {Q : VK} (hn : (sel pm fs).length = n) (h : tD C O (eCall (fun ds => f (sel pm ds)) fs) σ H Q) : tA C O (eL fs) σ H fun vs H1 => vs.length = fs.length ∧ spM C.F.K C.F.cm C.fld n [] f (sel pm vs) H1 Q (WE C.W σ) := by
  obtain ⟨G, δ, st, m⟩ := h
  refine ⟨G, δ, st, ?_⟩
  unfold eCall at m
  cases e : eL fs δ with
  | exc c d δ' => rw [e] at m; exact m
  | bad => rw [e] at m; exact m
  | ok ds δ1 =>
    rw [e, Res.bind_ok] at m
    intro vs G1 H1 s1 st1 rv
    have l0 : vs.length = fs.length := by rw [rv.length, eL_length e]
    have hl : (sel pm vs).length = n := by rw [sel_len l0, hn]
    refine ⟨l0, G1, sel pm ds, [], hl, rfl, callee0 st1.gh st1.tabs (sel_rps rv pm) hl, ?_⟩
    cases ef : f (sel pm ds) with
    | ok d outs =>
      simp only [ef] at m
      exact fun v G2 H2 ex _ r => m v G2 H2 (s1.and ex) (st1.step ex) r
    | exc c d =>
      simp only [ef] at m
      exact fun G2 H2 cls dd ex x => m G2 H2 cls dd (st1.step ex) x
    | bad => simp only [ef] at m
theorem pe_callK {CX : CXT} {sp : Sp} {E : L2.St → XK} {t tk : TA} (F : FnOk X.prog X.w X.K X.mg X.base CX k g fd ps sp) (hr : Room k X.A) (hg : Gl X x) (hm : X.mg x = some (.ref g)) (hk : PySem.W.keepIn X.K (.ref g) = true) (hb : KwB X.K fd ps n ks pm) (hx : ∀ σ, PassesAt CX X σ (E σ))
    (ha : PA X (a :: es) t) (hkw : PK X kws tk) (hall : (backToKw pos (keywordEach kws X.env)).all (·.1.isSome) = true := by rfl) (hks : (backToKw pos (keywordEach kws X.env)).filterMap (·.1) = ks := by rfl)
    (hdb : (x == ("__debug__" : Str)) = false := by decide) (he : starEach (a :: es) X.env = (false, eval a X.env) :: starEach es X.env := by rfl)
    (hpl : ((backTo pos (starEach (a :: es) X.env)).any (·.1) || (backToKw pos (keywordEach kws X.env)).any (·.1.isNone)) = false := by rfl) :
    PE X (.Call (.Name x p) (a :: es) kws pos) (fun σ H Q => t σ H fun vs H1 => tk σ H1 fun zs H2 => (vs.length = n ∧ zs.length = ks.length) ∧ sp (sel pm (vs ++ zs)) H2 Q (E σ)) := by
  refine ⟨fun pins s σ H Q I h => wpAny_Call_Name_kw (ld_glob I hg hm (PySem.W.callWith_KW (h₀ := X.base) I.ok.mod.kin hk hall (thn (ha.run pos pins s σ H _ I h) fun us s1 ⟨vs, H1, I1, r, q⟩ => thn (hkw.run pos pins s1 σ H1 _ I1 q) fun ws s2 ⟨zs, H2, I2, rz, lz, q2⟩ => ⟨I2.kIn, ?_⟩) hpl he) hdb)⟩
  rw [hks]
  have r2 : Vals (sel pm (vs ++ zs)) (sel pm (us ++ ws)) := sel_vals (vals_app2 r rz) pm
  refine wpAny_call (codeAny_mono (F.run X.A X.stack s2 H2 ⟨us, ks.zip ws⟩ _ _ Q (E σ) hr I2.env0 (hb.to s2 us ws I2.kIn (r.length.symm.trans lz.1) (rz.length.symm.trans lz.2)) r2 q2) fun rr s' hq => ?_)
  rcases rr with er | fl
  · exact hx σ pins H2 s2 er s' I2 hq
  · cases fl with
    | ret u => exact I2.after hq
    | next => exact False.elim hq
    | brk => exact False.elim hq
    | cont => exact False.elim hq
theorem pe_callK0 {CX : CXT} {sp : Sp} {E : L2.St → XK} {tk : TA} (F : FnOk X.prog X.w X.K X.mg X.base CX k g fd ps sp) (hr : Room k X.A) (hg : Gl X x) (hm : X.mg x = some (.ref g)) (hk : PySem.W.keepIn X.K (.ref g) = true) (hb : KwB X.K fd ps 0 ks pm) (hx : ∀ σ, PassesAt CX X σ (E σ))
    (hkw : PK X kws tk) (hall : (backToKw pos (keywordEach kws X.env)).all (·.1.isSome) = true := by rfl) (hks : (backToKw pos (keywordEach kws X.env)).filterMap (·.1) = ks := by rfl) (hdb : (x == ("__debug__" : Str)) = false := by decide)
    (hpl : ((backTo pos (starEach [] X.env)).any (·.1) || (backToKw pos (keywordEach kws X.env)).any (·.1.isNone)) = false := by rfl) :
    PE X (.Call (.Name x p) [] kws pos) (fun σ H Q => tk σ H fun zs H2 => zs.length = ks.length ∧ sp (sel pm zs) H2 Q (E σ)) := by
  refine ⟨fun pins s σ H Q I h => wpAny_Call_Name_kw (ld_glob I hg hm (PySem.W.callWith_KW0 (h₀ := X.base) I.ok.mod.kin hk hall (thn (hkw.run pos pins s σ H _ I h) fun ws s2 ⟨zs, H2, I2, rz, lz, q2⟩ => ⟨I2.kIn, ?_⟩) hpl) hdb)⟩
  rw [hks]
  refine wpAny_call (codeAny_mono (F.run X.A X.stack s2 H2 ⟨[], ks.zip ws⟩ (sel pm ([] ++ ws)) (sel pm zs) Q (E σ) hr I2.env0 (hb.to s2 [] ws I2.kIn rfl (rz.length.symm.trans lz)) (sel_vals rz pm) q2) fun rr s' hq => ?_)
  rcases rr with er | fl
  · exact hx σ pins H2 s2 er s' I2 hq
  · cases fl with
    | ret u => exact I2.after hq
    | next => exact False.elim hq
    | brk => exact False.elim hq
    | cont => exact False.elim hq
end
/-- a def that is called with keywords -/
structure CalK (P : Program) (w : World) (K : PySem.W.Frag) (mg : Str → Option Value) (base : Heap) (cm : CM) (fld : Str → Str) (x : Str) (k n q : Nat) (ks : List Str) (pm : List Nat) (f : List D → Fr) : Prop where
  ex : ∃ g fd ps, FnOk P w K mg base (L2.CX P w) k g fd ps (spM K cm fld n [] f) ∧ mg x = some (.ref g) ∧ PySem.W.keepIn K (.ref g) = true ∧ KwB K fd ps q ks pm
section
variable {X : Cx} {C : Sc} {O : List Nat} {a : Expr} {fa : Ex} {es : List Expr} {kws : List Keyword} {fs gs : List Ex} {f : List D → Fr} {pos p : Pos} {x : Str} {k n j q : Nat} {ks : List Str} {pm : List Nat}
theorem d_calK (c : CalK X.prog X.w X.K X.mg X.base C.F.cm C.fld x k n q ks pm f) (hK : C.F.K = X.K) (hr : Room j X.A) (hk : k ≤ j) (tk : Takes X C.W) (ha : PA X (a :: es) (tA C O (eL fs))) (hkw : PK X kws (tA C O (eL gs))) (h1 : fs.length = q) (h2 : gs.length = ks.length) (hn : (sel pm (fs ++ gs)).length = n) (hg : Gl X x := by rfl) (hdb : (x == ("__debug__" : Str)) = false := by decide)
    (hall : (backToKw pos (keywordEach kws X.env)).all (·.1.isSome) = true := by rfl) (hks : (backToKw pos (keywordEach kws X.env)).filterMap (·.1) = ks := by rfl) (he : starEach (a :: es) X.env = (false, eval a X.env) :: starEach es X.env := by rfl)
    (hpl : ((backTo pos (starEach (a :: es) X.env)).any (·.1) || (backToKw pos (keywordEach kws X.env)).any (·.1.isNone)) = false := by rfl) : PE X (.Call (.Name x p) (a :: es) kws pos) (tD C O (eCall (fun ds => f (sel pm ds)) (fs ++ gs))) := by
  obtain ⟨g, fd, ps, F, hm, kp, hb⟩ := c.ex
  rw [← hK] at F
  refine pe_imp (pe_callK (hK ▸ F) (hr.mono hk) hg hm kp hb (fun σ => passAt tk σ) ha hkw hall hks hdb he hpl) fun σ H Q h => ?_
  have h := r_app (r_callK hn h)
  obtain ⟨G, δ, st, m⟩ := h
  refine ⟨G, δ, st, ?_⟩
  cases e : eL fs δ with
  | exc c d δ' => rw [e] at m; exact m
  | bad => rw [e] at m; exact m
  | ok ds δ' =>
    rw [e] at m
    intro vs G1 H1 s1 st1 rv
    have lv : vs.length = q := by rw [rv.length, eL_length e, h1]
    obtain ⟨G2, δ2, st2, m2⟩ := m vs G1 H1 s1 st1 rv
    refine ⟨G2, δ2, st2, ?_⟩
    cases e2 : eL gs δ2 with
    | exc c d δ' => rw [e2] at m2; exact m2
    | bad => rw [e2] at m2; exact m2
    | ok ds2 δ3 =>
      rw [e2] at m2
      intro zs G3 H3 s3 st3 rz
      exact ⟨⟨lv, by rw [rz.length, eL_length e2, h2]⟩, hK ▸ (m2 zs G3 H3 s3 st3 rz).2⟩
theorem d_calK0 (c : CalK X.prog X.w X.K X.mg X.base C.F.cm C.fld x k n 0 ks pm f) (hK : C.F.K = X.K) (hr : Room j X.A) (hk : k ≤ j) (tk : Takes X C.W) (hkw : PK X kws (tA C O (eL gs))) (h2 : gs.length = ks.length) (hn : (sel pm gs).length = n) (hg : Gl X x := by rfl) (hdb : (x == ("__debug__" : Str)) = false := by decide)
    (hall : (backToKw pos (keywordEach kws X.env)).all (·.1.isSome) = true := by rfl) (hks : (backToKw pos (keywordEach kws X.env)).filterMap (·.1) = ks := by rfl)
    (hpl : ((backTo pos (starEach [] X.env)).any (·.1) || (backToKw pos (keywordEach kws X.env)).any (·.1.isNone)) = false := by rfl) : PE X (.Call (.Name x p) [] kws pos) (tD C O (eCall (fun ds => f (sel pm ds)) gs)) := by
  obtain ⟨g, fd, ps, F, hm, kp, hb⟩ := c.ex
  rw [← hK] at F
  refine pe_imp (pe_callK0 (hK ▸ F) (hr.mono hk) hg hm kp hb (fun σ => passAt tk σ) hkw hall hks hdb hpl) fun σ H Q h => ?_
  have h := r_callK hn h
  obtain ⟨G, δ, st, m⟩ := h
  refine ⟨G, δ, st, ?_⟩
  cases e : eL gs δ with
  | exc c d δ' => rw [e] at m; exact m
  | bad => rw [e] at m; exact m
  | ok ds δ' =>
    rw [e] at m
    intro vs G1 H1 s1 st1 rv
    exact ⟨by rw [rv.length, eL_length e, h2], hK ▸ (m vs G1 H1 s1 st1 rv).2⟩
end
/-! ### what is never reached -/
def sBad : Sm := fun _ => .bad
theorem ss_bad {X : Cx} {C : Sc} {O O1 : List Nat} {ss : List Stmt} : PSs X ss (tS C O O1 sBad) := ⟨fun pins s σ H D I ⟨G, δ, st, m⟩ => (show False from m).elim⟩
/-- the def's own table, known to all -/
def LamD (mg : Str → Option Value) (base : Heap) (cm : CM) (fd : FuncData) (q : Str) : Prop := ∃ c P, fd.code = .ref c ∧ LamX.TabB base mg c P ∧ (P, (q ++ ".<locals>.") ++ "<lambda>") ∈ cm.T ∧ ∀ p ∈ cm.T, p.1 = P → p.2 = (q ++ ".<locals>.") ++ "<lambda>"
theorem lam_at {X : Cx} {cm : CM} {fd : FuncData} {q : Str} (L : LamD X.mg X.base cm fd q) (cd : fd.code = X.env.code) (hq : X.env.qual = q ++ ".<locals>." := by rfl) : LamAt X cm := by
  obtain ⟨c, P, h1, h2, h3, h4⟩ := L
  refine ⟨c, P, cd.symm.trans h1, h2, ?_, ?_⟩ <;> rw [hq]
  · exact h3
  · exact h4
end Mi
namespace Mi
open PySem PySem.Spec PyProof.Rows L2
/-! ### the end with tables -/
theorem tab_uniq : ∀ {Ps : List Addr} {ns : List Str} {P : Addr} {q : Str} {i : Nat}, Ps.Nodup → Ps[i]? = some P → ns[i]? = some q → (P, q) ∈ Ps.zip ns ∧ ∀ p ∈ Ps.zip ns, p.1 = P → p.2 = q
  | [], _, _, _, i, _, h, _ => by simp at h
  | _ :: _, [], _, _, i, _, _, h => by simp at h
  | a :: Ps, b :: ns, P, q, 0, nd, h1, h2 => by
    simp only [List.getElem?_cons_zero, Option.some.injEq] at h1 h2
    subst h1 h2
    refine ⟨List.mem_cons_self, fun p hp e => ?_⟩
    rcases List.mem_cons.mp hp with z | z
    · rw [z]
    · exact absurd (e ▸ (List.of_mem_zip z).1) (List.nodup_cons.mp nd).1
  | a :: Ps, b :: ns, P, q, i + 1, nd, h1, h2 => by
    simp only [List.getElem?_cons_succ] at h1 h2
    obtain ⟨m, u⟩ := tab_uniq (List.nodup_cons.mp nd).2 h1 h2
    refine ⟨List.mem_cons_of_mem _ m, fun p hp e => ?_⟩
    rcases List.mem_cons.mp hp with z | z
    · rw [z] at e
      exact absurd (show a ∈ Ps from (show a = P from e) ▸ List.mem_of_getElem? h1) (List.nodup_cons.mp nd).1
    · exact u p z e
/-- the law is entered: the tables ts, their names ns -/
def spLT (K : PySem.W.Frag) (ns : List Str) (ts : List (Addr × Addr)) : Sp := fun vs H Q E => ts.length = ns.length → spL K ((ts.map (·.2)).zip ns) vs H Q E
theorem law_endT {P : Program} {w : World} {K : PySem.W.Frag} {mg : Str → Option Value} {base : Heap} {CX : CXT} {k : Nat} {g : Addr} {fd : FuncData} {ps : List Str} {ns : List Str} {ts : List (Addr × Addr)} (F : FnG P w K mg base CX k g fd ps (spL K ((ts.map (·.2)).zip ns))) (h : ts.length = ns.length) : FnG P w K mg base CX k g fd ps (spLT K ns ts) :=
  ⟨fun vs H Q E z => F.len vs H Q E (z h), fun A outer s H args us vs Q E gd r e b v z => F.run A outer s H args us vs Q E gd r e b v (z h)⟩
theorem spLT_in {K : PySem.W.Frag} {ns : List Str} {ts : List (Addr × Addr)} {J : Hp} {a : Addr} {ks : List Int} (hl : ks.length ≤ 63) (nt : ∀ b ps, J b ≠ some (.tbl ps)) (nz : ∀ p ∈ ts, J p.2 = none) (hS : SqL K J a (ks.map V.int)) : spLT K ns ts [.ref a] (HpT ts J) (fun v _ => v = .bl true) fun _ _ _ => False := fun hn => by
  have off : ∀ b, J b ≠ none → b ∉ ts.map (·.2) := fun b hb m => by
    obtain ⟨p, hp, rfl⟩ := List.mem_map.mp m
    exact hb (nz p hp)
  refine ⟨J, a, ks, rfl, ⟨fun b o h => (if_neg (off b (by rw [h]; exact fun z => nomatch z))).trans h, fun b o h ps e => nt b ps (by rw [h, e])⟩, ⟨fun p hp => LamX.TabS.nil (if_pos (List.of_mem_zip hp).1), fun b ps h => ?_⟩, hS, hl, fun _ => rfl⟩
  by_cases m : b ∈ ts.map (·.2)
  · obtain ⟨i, hi⟩ := List.getElem?_of_mem m
    have hl : i < ns.length := by
      have := (List.getElem?_eq_some_iff.mp hi).1
      rw [List.length_map] at this
      omega
    refine ⟨(b, ns[i]), List.mem_of_getElem? (i := i) ?_, rfl⟩
    rw [List.getElem?_zip_eq_some]
    exact ⟨hi, List.getElem?_eq_getElem hl⟩
  · have h : (if b ∈ ts.map (·.2) then some (HO.tbl #[]) else J b) = some (.tbl ps) := h
    rw [if_neg m] at h
    exact absurd h (nt b ps)
theorem kw_b {K : PySem.W.Frag} {x qual : Str} {st : Stmt} {g : Addr} {fd : FuncData} {ps ks : List Str} {n : Nat} {pm : List Nat} (F : Fun K x qual st g fd) (h : ∀ (kV doc pv : Value) (an : Option Addr) (cdv ct : Value) (us ws : List Value), us.length = n → ws.length = ks.length → bindArgs (PySem.W.fnOf x qual (defArgs st) (defBody st) (defScope st) .none kV doc pv an cdv ct) ⟨us, ks.zip ws⟩ = pure (ps.zip (sel pm (us ++ ws)))) : KwB K fd ps n ks pm := by
  obtain ⟨oc, od, kV, doc, pv, an, cdv, ct, osl, rfl, lk, hcd⟩ := F.ex
  exact ⟨fun s us ws _ h1 h2 => .of_eq (h kV doc pv an cdv ct us ws h1 h2)⟩
theorem lam_d {mg : Str → Option Value} {base : Heap} {cm : CM} {fd : FuncData} {q : Str} {c P : Addr} {Ps : List Addr} {ns : List Str} {i : Nat} (hc : fd.code = .ref c) (tb : LamX.TabB base mg c P) (hT : cm.T = Ps.zip ns) (nd : Ps.Nodup) (h1 : Ps[i]? = some P) (h2 : ns[i]? = some ((q ++ ".<locals>.") ++ "<lambda>")) : LamD mg base cm fd q := by
  obtain ⟨m, u⟩ := tab_uniq nd h1 h2
  exact ⟨c, P, hc, tb, hT ▸ m, hT ▸ u⟩
end Mi

end
section
set_option Elab.async false
set_option linter.all false
set_option maxRecDepth 100000
set_option autoImplicit false
set_option maxHeartbeats 4000000
/-! the call of a lambda of one parameter that captures nothing -/
namespace Mi
open PySem PySem.Spec PyProof.Rows L2
theorem key_call {X : Cx} {pins : List (Addr × Obj)} {σ : L2.St} {H : Hp} {s : Shared} {f d : Addr} {x : Str} {q : Str} {pm ct : Value} {pa : Arguments} {bd : Expr} {sl : Scope} {A : Around} {k : Nat} {u : Value} {v : V} {Q : VK} {t : TE}
    (I : Inv X pins σ H s) (of : s.heap.get? f = some (PySem.W.kla_obj "<lambda>" q pa bd sl [] pm d ct)) (hd : H d = some (LamX.CodeO d q)) (S : FnScope [x] [x] sl)
    (bind : bindArgs (PySem.W.kla_fn "<lambda>" q pa bd sl [] pm (.ref d) ct) ⟨[u], []⟩ = pure [(x, u)]) (hr : Room (k + 1) A) (hA : A.frames = X.A.frames) (r : RelV v u)
    (body : ∀ (A : Around) (outer : List PySem.Env) (s : Shared) (H : Hp), Room k (A.deeper (envOfC q sl s.heap.objs.size f (.ref d))) → PE (cxOf (L2.CX X.prog X.w) X.prog X.w X.K X.mg X.base [x] q sl f (.ref d) A outer s H (fun _ _ _ => False)) bd t)
    (ht : t (L2.start [x] [v]) H Q) : wpAny (model X.prog X.w) A (call (.ref f) [u]) (EP X pins σ Q) X.xe s := by
  have e := I.env0
  have e0 : Env0 X.prog X.w X.K X.mg X.base A X.stack s H := ⟨by rw [hA]; exact e.frames, e.mod, e.bs, e.bsz, e.funs, e.frf, e.hok, e.bare⟩
  obtain ⟨⟨oc, us, t0, c1, c2, c3⟩, _, _⟩ := I.hok d _ hd
  refine wpAny_call (codeAny_mono (R := CR (L2.CX X.prog X.w) X.stack X.prog X.w H s Q (fun _ _ _ => False)) ?_ fun r s4 hq => ?_)
  · have lim : s.heap.NoLimit := e0.mod.nolimit.keeps fun b o e => (e0.bs b o e).1
    have hkind : ∀ y ∈ [x].zip [u], sl.names.lookup y.1 = some .local ∨ (sl.names.lookup y.1 = some .cell ∧ ((cellsFrom (s.heap.objs.size + 1) sl.names []).lookup y.1).isSome = true) := fun ⟨n, v⟩ hy => by
      rcases S.par n (List.of_mem_zip hy).1 with q | q
      · exact .inl q
      · exact .inr ⟨q, PySem.W.cellsFrom_some _ _ _ (.inl q)⟩
    refine PySem.W.kla_callFunE hr.depth of rfl S.co S.gen rfl ⟨d, oc, us, t0, rfl, c1, c2, c3⟩ ?_
    rw [bind]
    refine wpAny_pure (wpAny_newFunctionEnv_cells (binds := [x].zip [u]) S.kind hkind fun env he s1 z => ?_)
    subst he
    refine ⟨lim.keeps z.toInCall.keep, PySem.W.kla_codeExpr ?_⟩
    have J : Inv (cxOf (L2.CX X.prog X.w) X.prog X.w X.K X.mg X.base [x] q sl f (.ref d) A X.stack s H (fun _ _ _ => False)) [] (L2.start [x] [v]) H s1 := inv_start S hr.hd e0 rfl (.cons r .nil) z
    refine wpAny_mono ((body A X.stack s H (hr.deeper _)).run [] s1 (L2.start [x] [v]) H _ J ht) (fun w s' hs => ?_) fun e s' hs => hs
    obtain ⟨w', H', J', rv, q'⟩ := hs
    exact ⟨w', H', J'.os, J'.bare, J'.base, J'.hok, rv, q'⟩
  · cases r with
    | error e => exact (passN (X := X)) pins σ H s e s4 I hq
    | ok fl =>
      cases fl with
      | ret u => exact I.after hq
      | next => exact False.elim hq
      | brk => exact False.elim hq
      | cont => exact False.elim hq
end Mi

end
section
set_option Elab.async false
set_option linter.all false
set_option maxRecDepth 100000
set_option autoImplicit false
set_option maxHeartbeats 4000000
/-! min(l, key=f): the loop, where what is known of the keys rests on the state -/
namespace Mi
open PySem PySem.Spec PyProof.Rows L2
/-- a state in which all but S and It stands as before -/
def Kp (S It : Addr) (s s' : Shared) : Prop := (∀ a o, a ≠ S → a ≠ It → s.heap.get? a = some o → s'.heap.get? a = some o) ∧ s'.gens = s.gens ∧ s'.drawn = s.drawn ∧ s'.os = s.os
/-- J: what holds, with the best item and its key; J2: behind a key's making -/
structure KRun (prog : Program) (w : World) (A : Around) (q l S It : Addr) (n : Nat) (PV : Nat → Value → Prop) (bt : Nat → Nat → Bool) (J : Option (Nat × Value) → Shared → Prop) (J2 : Option (Nat × Value) → Nat → Value → Shared → Prop) : Prop where
  keep : ∀ b s s', J b s → Kp S It s s' → J b s'
  lst : ∀ b s, J b s → ∃ items : Array Value, s.heap.IsList l items ∧ items.size = n ∧ ∀ i v, items[i]? = some v → PV i v
  turn : ∀ b i v (s : Shared) (oS oI : Obj) (Q : Value → Shared → Prop) (E : Value → Shared → Prop), i < n → PV i v → J b s → s.heap.get? S = some oS → s.heap.get? It = some oI → (∀ v, oS.data ≠ .cell v) → (∀ v, oI.data ≠ .cell v) →
    (∀ k s', J2 b i k s' → s'.heap.get? S = some oS → s'.heap.get? It = some oI → Q k s') → wpAny (model prog w) A (call (.ref q) [v]) Q E s
  cmp : ∀ b kb i k (s : Shared) (Q : Value → Shared → Prop) (E : Value → Shared → Prop), J2 (some (b, kb)) i k s → Q (.bool (bt i b)) s → wpAny (model prog w) A (richCompare .Lt k kb) Q E s
  old : ∀ b i k s, J2 b i k s → J b s
  new : ∀ b i k s, J2 b i k s → J (some (i, k)) s
section
variable {prog : Program} {w : World} {A : Around} {q l S It : Addr} {n : Nat} {PV : Nat → Value → Prop} {bt : Nat → Nat → Bool} {J : Option (Nat × Value) → Shared → Prop} {J2 : Option (Nat × Value) → Nat → Value → Shared → Prop} {R : Result → Shared → Prop}
theorem kp_upd {s : Shared} {f : Obj → Obj} {tk : Nat} : Kp S It s { s with heap := s.heap.update S f, toks := tk } :=
  ⟨fun a o h _ e => (Heap.get?_update_other _ _ (fun z => h z.symm)).trans e, rfl, rfl, rfl⟩
theorem kp_moved {s s' : Shared} (m : Moved [It] (fun a b => b = a) s s') : Kp S It s s' := ⟨fun a o _ h e => m.heap a o (by simp [h]) e, m.gens, m.drawn, m.os⟩
theorem min_loop (hh : A.handled = none) (hlI : l ≠ It) (hSI : S ≠ It) (K : KRun prog w A.in1 q l S It n PV bt J J2) :
    ∀ (r j : Nat) (s : Shared) (vb kb : Value) (c : Nat), n - (j + 1) = r → j + 1 ≤ n → J (some (argBest bt j, kb)) s → s.heap.IsListIter It l (j + 1) → PV (argBest bt j) vb →
    s.heap.get? S = some { cls := .type "list", dict := none, data := .seq #[vb, kb] c, slots := #[] } →
    (∀ v k s', PV (argBest bt (n - 1)) v → J (some (argBest bt (n - 1), k)) s' → R (.ok (.ret v)) s') → codeAny (model prog w) A (.builtin "min.loop" ⟨[.ref It, .ref q, .ref S], []⟩) R s := by
  have W := fun items => (Walks.list (prog := prog) (w := w) (A := A.in1) hh It l hlI items).toS
  have nm : (toString "min" ++ toString ".loop" : String) = "min.loop" := by decide
  intro r
  induction r with
  | zero =>
    intro j s vb kb c hr hj hJ hit hvb hS hR
    have hin : j + 1 = n := by omega
    obtain ⟨items, hL, hsz, hPV⟩ := K.lst _ _ hJ
    subst hsz
    refine codeAny_builtin PySem.F.entry_min_loop ?_
    rw [Around.under_plainId PySem.F.plain_min_loop _]
    show wpAny _ A.in1 (seqItems? (.ref S) >>= _) _ _ s
    refine wpAny_bind (wpAny_seqItems hS rfl ?_)
    show wpAny _ A.in1 (tryCatch (pyNext (.ref It)) _ >>= _) _ _ s
    refine wpAny_bind (wpAny_tryCatch ((W items).done s _ _ (hin ▸ ⟨hit, hL⟩) fun s' hm => ?_))
    have hS' := hm.heap S _ (by simp [hSI]) hS
    show wpAny _ A.in1 (updateSeq S (fun _ => #[]) >>= _) _ _ _
    refine wpAny_bind (wpAny_updateSeq hS' rfl (wpAny_bind (wpAny_letGo (wpAny_pure ?_))))
    have e : items.size - 1 = j := by omega
    exact hR vb kb _ (by rw [e]; exact hvb) (by rw [e]; exact K.keep _ _ _ (K.keep _ _ _ hJ (kp_moved hm)) kp_upd)
  | succ r ih =>
    intro j s vb kb c hr hj hJ hit hvb hS hR
    have hlt : j + 1 < n := by omega
    obtain ⟨items, hL, hsz, hPV⟩ := K.lst _ _ hJ
    refine codeAny_builtin PySem.F.entry_min_loop ?_
    rw [Around.under_plainId PySem.F.plain_min_loop _]
    show wpAny _ A.in1 (seqItems? (.ref S) >>= _) _ _ s
    refine wpAny_bind (wpAny_seqItems hS rfl ?_)
    show wpAny _ A.in1 (tryCatch (pyNext (.ref It)) _ >>= _) _ _ s
    refine wpAny_bind (wpAny_tryCatch ((W items).item (j + 1) s _ _ (by rw [hsz]; exact hlt) ⟨hit, hL⟩ fun v s1 hv0 hst hm => ?_))
    have hv := hPV _ _ hv0
    have hS1 := hm.heap S _ (by simp [hSI]) hS
    have hJ1 := K.keep _ _ _ hJ (kp_moved hm)
    obtain ⟨oI, hoI, hoc, hod⟩ := id hst.1
    show wpAny _ A.in1 (tryCatch (holding [v] (call (.ref q) [v])) _ >>= _) _ _ _
    refine wpAny_bind (wpAny_tryCatch (wpAny_holding (K.turn _ (j + 1) v s1 _ _ _ _ hlt hv hJ1 hS1 hoI (fun v z => nomatch z) (fun v z => by rw [hod] at z; cases z) fun kx s2 h2 hS2 hI2 => ?_)))
    have hit2 : s2.heap.IsListIter It l (j + 1 + 1) := ⟨oI, hI2, hoc, hod⟩
    show wpAny _ A.in1 (tryCatch (holding [v, kx] (richCompare .Lt kx kb >>= _)) _ >>= _) _ _ _
    refine wpAny_bind (wpAny_tryCatch (wpAny_holding (wpAny_bind (K.cmp _ kb (j + 1) kx s2 _ _ h2 ?_))))
    refine wpAny_bind (wpAny_holding (wpAny_truthy_bool ?_))
    refine wpAny_bind (wpAny_letGo (wpAny_pure ?_))
    cases hb : bt (j + 1) (argBest bt j) with
    | true =>
      have ea : argBest bt (j + 1) = j + 1 := by simp only [argBest, hb, if_true]
      simp only [if_true]
      refine wpAny_bind (wpAny_updateSeq hS2 rfl (wpAny_bind (wpAny_letGo ?_)))
      rw [nm]
      refine wpAny_pure ⟨plainId_quiet PySem.F.plain_min_loop _, ih (j + 1) _ v kx _ (by omega) hlt ?_ ⟨oI, (Heap.get?_update_other _ _ hSI).trans hI2, hoc, hod⟩ (by rw [ea]; exact hv) (Heap.get?_update_self _ hS2 rfl) hR⟩
      rw [ea]
      exact K.keep _ _ _ (K.new _ _ _ _ h2) kp_upd
    | false =>
      have ea : argBest bt (j + 1) = argBest bt j := by simp only [argBest, hb, Bool.false_eq_true, if_false]
      simp only [Bool.false_eq_true, if_false]
      refine wpAny_bind (wpAny_letGo ?_)
      rw [nm]
      exact wpAny_pure ⟨plainId_quiet PySem.F.plain_min_loop _, ih (j + 1) _ vb kb c (by omega) hlt (by rw [ea]; exact K.old _ _ _ _ h2) hit2 (by rw [ea]; exact hvb) hS2 hR⟩
/-- min(l, key=q): S and It are the two objects that it makes -/
theorem min_call {E : Value → Shared → Prop} {s : Shared} {Q : Value → Shared → Prop} (hh : A.handled = none) (hll : l < s.heap.objs.size) (hn : 0 < n) {J : Option (Nat × Value) → Shared → Prop} {J2 : Option (Nat × Value) → Nat → Value → Shared → Prop}
    (hl : ∃ items : Array Value, s.heap.IsList l items) (K : KRun prog w A.in1 q l (s.heap.objs.size + 1) s.heap.objs.size n PV bt J J2)
    (hJ : ∀ h' tk, (∀ b o, s.heap.get? b = some o → h'.get? b = some o) → h'.objs.size = s.heap.objs.size + 2 → J none { s with heap := h', toks := tk })
    (hQ : ∀ v k s', PV (argBest bt (n - 1)) v → J (some (argBest bt (n - 1), k)) s' → Q v s') : wpAny (model prog w) A (call (.builtin "min") [.ref l] [(Str.ofString "key", .ref q)]) Q E s := by
  have nm : (toString "min" ++ toString ".loop" : String) = "min.loop" := by decide
  obtain ⟨its0, hl⟩ := hl
  have hlI : l ≠ s.heap.objs.size := Nat.ne_of_lt hll
  have hSI : s.heap.objs.size + 1 ≠ s.heap.objs.size := Nat.succ_ne_self _
  refine kmk_tree PySem.F.kind_min PySem.F.plain_min PySem.F.entry_min (kmk_min_key _ _) ?_
  show wpAny _ A.in1 (Builtin.Builtins.bindParams "min" ["key", "default"] 0 ⟨[], [(Str.ofString "key", .ref q)]⟩ >>= _) _ _ s
  refine wpAny_bind (wpAny_of_eq (show Builtin.Builtins.bindParams "min" ["key", "default"] 0 ⟨[], [(Str.ofString "key", .ref q)]⟩ = pure [some (.ref q), none] from rfl) ?_)
  refine wpAny_bind (wpAny_pure ?_)
  refine wpAny_bind (wpAny_pyIter_list hl ?_)
  refine wpAny_bind (wpAny_newList ?_ (Nat.zero_le _))
  rw [nm]
  have z1 : (s.heap.push { cls := .type "list_iterator", data := .fields #[.ref l, .int 0 0] }).objs.size = s.heap.objs.size + 1 := size_push' ..
  have gI : ((s.heap.push { cls := .type "list_iterator", data := .fields #[.ref l, .int 0 0] }).push (seqObj "list" #[] 0)).get? s.heap.objs.size = some { cls := .type "list_iterator", data := .fields #[.ref l, .int 0 0] } := Heap.get?_push_of_some _ (Heap.get?_push_size _ rfl)
  have gS : ((s.heap.push { cls := .type "list_iterator", data := .fields #[.ref l, .int 0 0] }).push (seqObj "list" #[] 0)).get? (s.heap.objs.size + 1) = some (seqObj "list" #[] 0) := by rw [← z1]; exact Heap.get?_push_size _ rfl
  have j0 := hJ ((s.heap.push { cls := .type "list_iterator", data := .fields #[.ref l, .int 0 0] }).push (seqObj "list" #[] 0)) s.toks (fun b o e => Heap.get?_push_of_some _ (Heap.get?_push_of_some _ e)) (by rw [size_push', z1])
  rw [z1]
  refine wpAny_pure ⟨plainId_quiet PySem.F.plain_min_loop _, ?_⟩
  refine codeAny_builtin PySem.F.entry_min_loop ?_
  rw [Around.under_plainId PySem.F.plain_min_loop _]
  show wpAny _ A.in1 (seqItems? (.ref (s.heap.objs.size + 1)) >>= _) _ _ _
  refine wpAny_bind (wpAny_seqItems gS rfl ?_)
  show wpAny _ A.in1 (tryCatch (pyNext (.ref s.heap.objs.size)) _ >>= _) _ _ _
  obtain ⟨items, hL, hsz, hPV⟩ := K.lst _ _ j0
  have W := (Walks.list (prog := prog) (w := w) (A := A.in1) hh s.heap.objs.size l hlI items).toS
  refine wpAny_bind (wpAny_tryCatch (W.item 0 _ _ _ (by rw [hsz]; exact hn) ⟨⟨_, gI, rfl, rfl⟩, hL⟩ fun v s1 hv0 hst hm => ?_))
  have hv := hPV _ _ hv0
  have hS1 := hm.heap (s.heap.objs.size + 1) _ (by simp) gS
  have hJ1 := K.keep _ _ _ j0 (kp_moved hm)
  obtain ⟨oI, hoI, hoc, hod⟩ := id hst.1
  show wpAny _ A.in1 (tryCatch (holding [v] (call (.ref q) [v])) _ >>= _) _ _ _
  refine wpAny_bind (wpAny_tryCatch (wpAny_holding (K.turn _ 0 v s1 _ _ _ _ hn hv hJ1 hS1 hoI (fun v z => nomatch z) (fun v z => by rw [hod] at z; cases z) fun kx s2 h2 hS2 hI2 => ?_)))
  show wpAny _ A.in1 (updateSeq (s.heap.objs.size + 1) (fun _ => #[v, kx]) >>= _) _ _ _
  refine wpAny_bind (wpAny_updateSeq hS2 rfl ?_)
  rw [nm]
  exact wpAny_pure ⟨plainId_quiet PySem.F.plain_min_loop _, min_loop hh hlI hSI K _ 0 _ v kx _ rfl hn (K.keep _ _ _ (K.new _ _ _ _ h2) kp_upd) ⟨oI, (Heap.get?_update_other _ _ hSI).trans hI2, hoc, hod⟩ hv (Heap.get?_update_self _ hS2 rfl) hQ⟩
end
end Mi

end
section
set_option Elab.async false
set_option linter.all false
set_option maxRecDepth 100000
set_option autoImplicit false
set_option maxHeartbeats 4000000
/-! min(l, key=lambda x: e), e an int or a tuple of ints -/
namespace Mi
open PySem PySem.Spec PyProof.Rows L2
abbrev KD := Bool × List Int
def kyD : D → Option KD
  | .int n => some (false, [n])
  | .tup ds => (intsO ds).map fun ns => (true, ns)
  | _ => none
def kyR : Res D → Option KD
  | .ok d _ => kyD d
  | _ => none
def keysO (ke : Ex) : List D → Option (List KD)
  | [] => some []
  | d :: r => (kyR (ke [some d])).bind fun k => (keysO ke r).map (k :: ·)
def kAt (ks : List KD) (i : Nat) : KD := (ks[i]?).getD (false, [])
def ltK (ks : List KD) (i j : Nat) : Bool := decide ((kAt ks i).2 < (kAt ks j).2)
def minKD (ke : Ex) : D → Option D
  | .lst ds => (keysO ke ds).bind fun ks => if (∀ k ∈ ks, k.1 = (kAt ks 0).1) ∧ ds ≠ [] then ds[argBest (ltK ks) (ds.length - 1)]? else none
  | _ => none
/-- v reads as the key -/
def KV (K : PySem.W.Frag) (cm : CM) (G : Hp) (v : V) (k : KD) : Prop := ∃ d, kyD d = some k ∧ Rp K cm G v d
theorem keysO_at {ke : Ex} : ∀ {ds : List D} {ks : List KD}, keysO ke ds = some ks → ks.length = ds.length ∧ ∀ (i : Nat) (d : D), ds[i]? = some d → ∃ dk δ' k, ke [some d] = .ok dk δ' ∧ kyD dk = some k ∧ ks[i]? = some k
  | [], ks, h => by
    have e : (some [] : Option (List KD)) = some ks := h
    cases e
    exact ⟨rfl, fun i d h => by simp at h⟩
  | d :: r, ks, h => by
    obtain ⟨k, hk, h2⟩ := Option.bind_eq_some_iff.mp (show ((kyR (ke [some d])).bind fun k => (keysO ke r).map (k :: ·)) = some ks from h)
    obtain ⟨ks', h3, rfl⟩ := Option.map_eq_some_iff.mp h2
    obtain ⟨l, ih⟩ := keysO_at h3
    refine ⟨by simp [l], fun i d' hd => ?_⟩
    cases i with
    | zero =>
      simp at hd
      subst hd
      cases e : ke [some d] with
      | ok dk δ' => rw [e] at hk; exact ⟨dk, δ', k, rfl, hk, rfl⟩
      | exc c x δ' => rw [e] at hk; cases hk
      | bad => rw [e] at hk; cases hk
    | succ i => exact ih i d' (by simpa using hd)
theorem one_lt (n m : Int) : decide (([n] : List Int) < [m]) = decide (n < m) := by
  rw [decide_eq_decide, List.cons_lt_cons_iff]
  simp
theorem depth_ints (ns : List Int) : (PyData.tuple (ns.map PyData.int)).depth ≤ 4 := by
  have key : PyData.depthAll (ns.map PyData.int) ≤ 3 := by
    induction ns with
    | nil => simp [PyData.depthAll]
    | cons x r ih => simp only [List.map_cons, PyData.depthAll, PyData.depth]; omega
  simp only [PyData.depth]
  omega
theorem alike_ints : ∀ ns ms : List Int, PySem.W.alikeAll (ns.map PyData.int) (ms.map PyData.int) = true
  | [], _ => by simp [PySem.W.alikeAll]
  | _ :: _, [] => by simp [PySem.W.alikeAll]
  | x :: ns, y :: ms => by
    simp only [List.map_cons, PySem.W.alikeAll, PySem.W.alike, alike_ints ns ms]
    rfl
theorem reads_ints {h : Heap} : ∀ {ns : List Int} {us : List Value}, Vals (ns.map V.int) us → ReadsAll h us (ns.map PyData.int) []
  | [], us, r => by cases r; exact .nil
  | n :: ns, us, r => by
    cases r with
    | cons a t =>
      obtain ⟨t0, rfl⟩ := a
      exact .cons (.int n t0) (reads_ints t)
theorem rps_of_ints {K : PySem.W.Frag} {cm : CM} {G : Hp} : ∀ {ds : List D} {ns : List Int} {vs : List V}, intsO ds = some ns → Rps K cm G vs ds → vs = ns.map V.int
  | [], ns, _, h, .nil => by
    have e : (some [] : Option (List Int)) = some ns := h
    cases e; rfl
  | d :: ds, ns, _, h, .cons r t => by
    cases d with
    | int i =>
      obtain ⟨ns', h1, rfl⟩ := Option.map_eq_some_iff.mp (show (intsO ds).map (i :: ·) = some ns from h)
      cases r
      rw [rps_of_ints h1 t]
      rfl
    | _ => cases h
/-- two keys of a kind, compared -/
theorem key_lt {X : Cx} {pins : List (Addr × Obj)} {σ : L2.St} {H G : Hp} {s : Shared} {cm : CM} {A : Around} {E : Value → Shared → Prop} {Q : Value → Shared → Prop} {v w : V} {a b : Value} {k l : KD} (I : Inv X pins σ H s) (gh : Same G H) (hu : A.units + 64 < cLine)
    (r1 : RelV v a) (r2 : RelV w b) (k1 : KV X.K cm G v k) (k2 : KV X.K cm G w l) (e : k.1 = l.1) (h : Q (.bool (decide (k.2 < l.2))) s) : wpAny (model X.prog X.w) A (richCompare .Lt a b) Q E s := by
  obtain ⟨d1, q1, p1⟩ := k1
  obtain ⟨d2, q2, p2⟩ := k2
  cases p1 with
  | int i =>
    cases q1
    cases p2 with
    | int j =>
      cases q2
      obtain ⟨t1, rfl⟩ := r1
      obtain ⟨t2, rfl⟩ := r2
      rw [one_lt] at h
      exact (wpAny_lt_int h : wpAny (model X.prog X.w) A (compareOp .Lt (.int i t1) (.int j t2)) Q E s)
    | tup _ _ =>
      obtain ⟨ns, _, rfl⟩ := Option.map_eq_some_iff.mp (show (intsO _).map (fun ns => (true, ns)) = some l from q2)
      cases e
    | _ => cases q2
  | @tup a1 xs1 ds1 hq1 rs1 =>
    obtain ⟨ns, n1, rfl⟩ := Option.map_eq_some_iff.mp (show (intsO ds1).map (fun ns => ((true, ns) : KD)) = some k from q1)
    cases p2 with
    | int j =>
      cases q2
      cases e
    | @tup a2 xs2 ds2 hq2 rs2 =>
      obtain ⟨ms, n2, rfl⟩ := Option.map_eq_some_iff.mp (show (intsO ds2).map (fun ns => ((true, ns) : KD)) = some l from q2)
      obtain rfl : a = Value.ref a1 := r1
      obtain rfl : b = Value.ref a2 := r2
      have x1 := rps_of_ints n1 rs1
      have x2 := rps_of_ints n2 rs2
      subst x1 x2
      obtain ⟨i1, v1, t1, _⟩ := I.tuple (same_sqT gh hq1.sq)
      obtain ⟨i2, v2, t2, _⟩ := I.tuple (same_sqT gh hq2.sq)
      obtain ⟨o1, g1, c1, m1, f1⟩ := t1
      obtain ⟨o2, g2, c2, m2, f2⟩ := t2
      have R1 : Reads s.heap (.ref a1) (.tuple (ns.map .int)) [] := .tuple g1 c1 f1 (by simpa using reads_ints v1)
      have R2 : Reads s.heap (.ref a2) (.tuple (ms.map .int)) [] := .tuple g2 c2 f2 (by simpa using reads_ints v2)
      have dl : PySem.W.dataLt (.tuple (ns.map .int)) (.tuple (ms.map .int)) = decide (ns < ms) := (PySem.W.dataLt_tuple _ _).trans (PySem.W.dataLt_ints ns ms)
      have lt := PySem.W.rcLt_alike _ _ A s _ _ _ _ R1 R2 (by simp only [PySem.W.alike]; exact alike_ints ns ms) (fun z => by cases z) (by
        have := depth_ints ns
        have := Nat.min_le_left (PyData.tuple (ns.map PyData.int)).depth (PyData.tuple (ms.map PyData.int)).depth
        omega)
      rw [dl] at lt
      exact lt X.prog X.w E Q h
    | _ => cases q2
  | _ => cases q1
end Mi

end
section
set_option Elab.async false
set_option linter.all false
set_option maxRecDepth 100000
set_option autoImplicit false
set_option maxHeartbeats 4000000
namespace Mi
open PySem PySem.Spec PyProof.Rows L2
/-- two records of ours have changed -/
theorem inv_two {X : Cx} {pins : List (Addr × Obj)} {σ : L2.St} {H : Hp} {s s' : Shared} {S It : Addr} (I : Inv X pins σ H s) (k : Kp S It s s') (n1 : H S = none) (n2 : H It = none) (z1 : X.env.locals < S) (z2 : X.env.locals < It) (y1 : X.s_0.heap.objs.size ≤ S) (y2 : X.s_0.heap.objs.size ≤ It)
    (c1 : ∀ x c, X.env.cells.lookup x = some c → c ≠ S) (c2 : ∀ x c, X.env.cells.lookup x = some c → c ≠ It) (p1 : ∀ p ∈ X.pn ++ pins, p.1 ≠ S) (p2 : ∀ p ∈ X.pn ++ pins, p.1 ≠ It) : Inv X pins σ H s' := by
  obtain ⟨kh, kg, kd, ko⟩ := k
  obtain ⟨h', g', d', t', os'⟩ := s'
  simp only at kg kd ko kh
  subst kg kd ko
  have nit : ∀ b u, H b = some u → b ≠ S ∧ b ≠ It := fun b u e => ⟨fun z => (by rw [z, n1] at e; cases e), fun z => (by rw [z, n2] at e; cases e)⟩
  have off : ∀ b, b ∉ [S, It] → b ≠ S ∧ b ≠ It := fun b hb => by simpa using hb
  refine I.step (g' := s.gens) (d' := s.drawn) (ch := [S, It]) (fun b hb => ?_) (fun b o _ _ hc e _ => kh b o (off b hc).1 (off b hc).2 e) (fun b o _ _ hc e _ => ⟨o.slots, kh b o (off b hc).1 (off b hc).2 e⟩) (fun _ _ _ _ n => n)
    (fun b o hc e => ⟨o, kh b o (off b hc).1 (off b hc).2 e⟩) (fun _ _ e => e) (fun _ _ _ e => e) (fun b ps e => ⟨#[], by rw [e]; simp⟩) (fun m hm => ?_) (fun b u e => ?_) I.bare
  · have hb : b = S ∨ b = It := by simpa using hb
    rcases hb with rfl | rfl
    · exact ⟨.inr y1, Nat.ne_of_gt z1, c1, p1⟩
    · exact ⟨.inr y2, Nat.ne_of_gt z2, c2, p2⟩
  · obtain ⟨o, es, ep, ho, r⟩ := hm
    exact ⟨o, es, ep, kh _ o (Nat.ne_of_lt z1) (Nat.ne_of_lt z2) ho, r⟩
  · refine (I.hok b u e).stay (fun c v hc q => ?_) (fun _ q => q) fun _ _ q => q
    have nc : c ≠ S ∧ c ≠ It := by
      rcases hc with z | z
      · rw [z]; exact nit b u e
      · exact nit c _ z
    exact kh c v nc.1 nc.2 q
theorem min_inv {X : Cx} {pins : List (Addr × Obj)} {σ : L2.St} {H G : Hp} {s : Shared} {cm : CM} {f d l : Addr} {x : Str} {q : Str} {pm ct : Value} {pa : Arguments} {bd : Expr} {sl : Scope} {k : Nat} {fld : Str → Str} {ke : Ex} {xs : List V} {ds : List D} {ks : List KD} {Q : VK}
    (I : Inv X pins σ H s) (gh : Sg G H) (tb : TbO cm.T H) (of : s.heap.get? f = some (PySem.W.kla_obj "<lambda>" q pa bd sl [] pm d ct)) (fH : H f = none) (fL : f ≠ X.env.locals) (fF : f ∉ X.fs) (hd : H d = some (LamX.CodeO d q)) (S : FnScope [x] [x] sl)
    (bind : ∀ u, bindArgs (PySem.W.kla_fn "<lambda>" q pa bd sl [] pm (.ref d) ct) ⟨[u], []⟩ = pure [(x, u)]) (hr : Room (k + 2) X.A)
    (body : ∀ (A : Around) (outer : List PySem.Env) (s : Shared) (H : Hp) (z : Hp × Hp), Room k (A.deeper (envOfC q sl s.heap.objs.size f (.ref d))) →
      PE (cxOf (L2.CX X.prog X.w) X.prog X.w X.K X.mg X.base [x] q sl f (.ref d) A outer s H (fun _ _ _ => False)) bd (tD ⟨⟨X.K, cm, z.1, z.2, 1, [], [], [], []⟩, fun _ _ _ _ => False, fld, fun _ => True, [], false⟩ [] ke))
    (hl : SqL X.K G l xs) (rs : Rps X.K cm G xs ds) (hk : keysO ke ds = some ks) (same : ∀ a ∈ ks, a.1 = (kAt ks 0).1) (ne : ds ≠ [])
    (post : ∀ (v : V) (G1 H1 : Hp), xs[argBest (ltK ks) (ds.length - 1)]? = some v → Ext cm.T [] G H G1 H1 → Q v H1) :
    wpAny (model X.prog X.w) X.A (call (.builtin "min") [.ref l] [(Str.ofString "key", .ref f)]) (EP X pins σ Q) X.xe s := by
  have I0 := I.wish (fun _ _ => False)
  have szl : X.env.locals < s.heap.objs.size := I.lt
  have sz0 := I.sz
  have fo : f < s.heap.objs.size := Heap.lt_size of
  have cells : ∀ y c, X.env.cells.lookup y = some c → c < s.heap.objs.size := fun y c e => by
    obtain ⟨v, o, ho, _⟩ := I.cell y c e
    exact Heap.lt_size ho
  have pinz : ∀ p ∈ X.pn ++ ((f, PySem.W.kla_obj "<lambda>" q pa bd sl [] pm d ct) :: pins), p.1 < s.heap.objs.size := fun p hp => by
    rcases List.mem_append.mp hp with z | z
    · exact Heap.lt_size (I.pin p (List.mem_append_left _ z)).1
    · rcases List.mem_cons.mp z with z | z
      · subst z; exact fo
      · exact Heap.lt_size (I.pin p (List.mem_append_right _ z)).1
  obtain ⟨kl, kat⟩ := keysO_at hk
  have xl : xs.length = ds.length := rs.length
  have dpos : 0 < ds.length := List.length_pos_iff.mpr ne
  let KB : Option (Nat × Value) → Hp → Prop := fun b G1 => match b with
    | none => True
    | some (i, kb) => i < ds.length ∧ ∃ vk, RelV vk kb ∧ KV X.K cm G1 vk (kAt ks i)
  have kbm : ∀ b {G1 G2 : Hp}, Same G1 G2 → KB b G1 → KB b G2 := fun b {G1 G2} e h => by
    cases b with
    | none => trivial
    | some p =>
      obtain ⟨hi, vk, r, dd, h1, h2⟩ := h
      exact ⟨hi, vk, r, dd, h1, h2.mono e⟩
  let JI : Option (Nat × Value) → Hp → Hp → Shared → Prop := fun b G1 H1 s' => Inv (X.wish (fun _ _ => False)) ((f, PySem.W.kla_obj "<lambda>" q pa bd sl [] pm d ct) :: pins) σ H1 s' ∧ Ext cm.T [] G H G1 H1 ∧ H1 (s.heap.objs.size + 1) = none ∧ H1 s.heap.objs.size = none ∧ KB b G1
  refine wpAny_mono (E := fun _ _ => False) (min_call (n := ds.length) (PV := fun i v => ∃ y, xs[i]? = some y ∧ RelV y v) (bt := ltK ks) hr.hd ?hll dpos ?hl
    (J := fun b s' => ∃ G1 H1, JI b G1 H1 s') (J2 := fun b i kx s' => ∃ G1 H1, JI b G1 H1 s' ∧ KB (some (i, kx)) G1) ⟨?keep, ?lst, ?turn, ?cmp, ?old, ?new⟩ ?hJ ?hQ) (fun _ _ h => h) fun _ _ h => False.elim h
  case hll =>
    obtain ⟨its, _, pl, _⟩ := I.list (gh.seq hl)
    obtain ⟨o, _, ho, _⟩ := pl
    exact Heap.lt_size ho
  case hl =>
    obtain ⟨its, _, pl, _⟩ := I.list (gh.seq hl)
    exact ⟨_, pl.isList⟩
  case keep =>
    rintro b s1 s2 ⟨G1, H1, J, ex, n1, n2, kb⟩ kp
    exact ⟨G1, H1, inv_two J kp n1 n2 (Nat.lt_succ_of_lt szl) szl (Nat.le_succ_of_le sz0) sz0 (fun y c e => Nat.ne_of_lt (Nat.lt_succ_of_lt (cells y c e))) (fun y c e => Nat.ne_of_lt (cells y c e)) (fun p hp => Nat.ne_of_lt (Nat.lt_succ_of_lt (pinz p hp))) (fun p hp => Nat.ne_of_lt (pinz p hp)), ex, n1, n2, kb⟩
  case lst =>
    rintro b s1 ⟨G1, H1, J, ex, n1, n2, kb⟩
    obtain ⟨its, r, pl, _⟩ := J.list (ex.gh.seq (ex.g.seq hl))
    refine ⟨_, pl.isList, by rw [List.size_toArray, ← r.length, xl], fun i v hv => ?_⟩
    have hv : its[i]? = some v := by simpa using hv
    have hi : i < xs.length := by rw [r.length]; exact (List.getElem?_eq_some_iff.mp hv).1
    obtain ⟨u, hu, ru⟩ := r.get (List.getElem?_eq_getElem hi)
    rw [hv] at hu
    cases hu
    exact ⟨_, List.getElem?_eq_getElem hi, ru⟩
  case turn =>
    rintro b i v s1 oS oI Q1 E1 hi ⟨y, hy, ry⟩ ⟨G1, H1, J, ex, n1, n2, kb⟩ hS hI oc1 oc2 post1
    obtain ⟨dy, hdy⟩ : ∃ dy, ds[i]? = some dy := ⟨_, List.getElem?_eq_getElem hi⟩
    obtain ⟨dk, δ', kk, e1, e2, e3⟩ := kat i dy hdy
    have ry2 : Rp X.K cm G y dy := by
      obtain ⟨y', h1, h2⟩ := rs.get hdy
      rw [hy] at h1
      cases h1
      exact h2
    have J2 : Inv (X.wish (fun _ _ => False)) ((s.heap.objs.size + 1, oS) :: (s.heap.objs.size, oI) :: (f, PySem.W.kla_obj "<lambda>" q pa bd sl [] pm d ct) :: pins) σ H1 s1 := J.pins_of fun p hp => by
      rcases List.mem_cons.mp hp with z | hp
      · subst z
        exact ⟨hS, n1, Nat.ne_of_gt (Nat.lt_succ_of_lt szl), I.nofs (Nat.le_succ _), oc1⟩
      · rcases List.mem_cons.mp hp with z | hp
        · subst z
          exact ⟨hI, n2, Nat.ne_of_gt szl, I.nofs (Nat.le_refl _), oc2⟩
        · exact J.pin p (List.mem_append_right _ hp)
    have of1 := (J.pin _ (List.mem_append_right _ List.mem_cons_self)).1
    have hd1 : H1 d = some (LamX.CodeO d q) := ex.keep d _ hd (by simp) fun ps => LamX.codeO_ne ps
    refine wpAny_mono (E := fun _ _ => False) (key_call (X := X.wish (fun _ _ => False)) (k := k) (Q := fun v' H2 => ∃ G2, Ext cm.T [] G1 H1 G2 H2 ∧ Rp X.K cm G2 v' dk) J2 of1 hd1 S (bind v) hr.in1 rfl ry (fun A outer s H hr => body A outer s H (G1, H1) hr) ?_) (fun kx s2 hq => ?_) fun _ _ h => False.elim h
    · refine ⟨G1, [some dy], ?_, ?_⟩
      · exact {
          ext := .refl ex.gh
          ln := rfl
          le := rfl
          sh := fun j dd _ h => by
            cases j with
            | zero => simp at h; subst h; exact ⟨y, rfl, ry2.mono ex.g⟩
            | succ j => simp at h
          ow := fun j hj => by cases hj
          dis := fun j hj => by cases hj
          fix := fun p hp => by cases hp
          tabs := tb.go ex.tab
          kp := fun j hj => by cases hj }
      · rw [e1]
        exact fun v' G2 H2 s' _ rv => ⟨G2, s', rv⟩
    · obtain ⟨vk, H2, J3, rk, G2, ex2, rv⟩ := hq
      have pS := J3.pin _ (List.mem_append_right _ List.mem_cons_self)
      have pI := J3.pin _ (List.mem_append_right _ (List.mem_cons_of_mem _ List.mem_cons_self))
      have ek : kAt ks i = kk := by unfold kAt; rw [e3]; rfl
      exact post1 kx s2 ⟨G2, H2, ⟨J3.pins_of fun p hp => J3.pin p (List.mem_append_right _ (List.mem_cons_of_mem _ (List.mem_cons_of_mem _ hp))), ex.and ex2, pS.2.1, pI.2.1, kbm b ex2.g kb⟩, hi, vk, rk, dk, by rw [ek]; exact e2, rv⟩ pS.1 pI.1
  case cmp =>
    rintro b kb i kx s1 Q1 E1 ⟨G1, H1, ⟨J, ex, n1, n2, hb, vb, rb, kvb⟩, hi, vx, rx, kvx⟩ h
    have mem : ∀ j, j < ds.length → (kAt ks j).1 = (kAt ks 0).1 := fun j hj => by
      refine same _ ?_
      unfold kAt
      rw [List.getElem?_eq_getElem (by rw [kl]; exact hj)]
      exact List.getElem_mem _
    exact key_lt (X := X.wish (fun _ _ => False)) J ex.gh.s (by have := hr.un; show X.A.units + 1 + 64 < cLine; omega) rx rb kvx kvb ((mem i hi).trans (mem b hb).symm) h
  case old =>
    rintro b i kx s1 ⟨G1, H1, h, _⟩
    exact ⟨G1, H1, h⟩
  case new =>
    rintro b i kx s1 ⟨G1, H1, ⟨J, ex, n1, n2, _⟩, h⟩
    exact ⟨G1, H1, J, ex, n1, n2, h⟩
  case hJ =>
    intro h' tk kp hz
    refine ⟨G, H, ?_, Ext.refl gh, I.hok.fresh (Nat.le_succ _), I.hok.fresh (Nat.le_refl _), trivial⟩
    have J := I0.kept (t' := tk) kp
    refine J.pins_of fun p hp => ?_
    rcases List.mem_cons.mp hp with z | z
    · subst z
      exact ⟨kp _ _ of, fH, fL, fF, fun v z => nomatch z⟩
    · exact J.pin p (List.mem_append_right _ z)
  case hQ =>
    rintro v kx s1 ⟨y, hy, ry⟩ ⟨G1, H1, J, ex, n1, n2, _⟩
    have J2 : Inv X pins σ H1 s1 := (J.wish X.xe).pins_of fun p hp => J.pin p (List.mem_append_right _ (List.mem_cons_of_mem _ hp))
    exact ⟨y, H1, J2, ry, post y G1 H1 hy ex⟩
end Mi

end
section
set_option Elab.async false
set_option linter.all false
set_option maxRecDepth 100000
set_option autoImplicit false
set_option maxHeartbeats 4000000
/-! min(xs, key=lambda x: e) -/
namespace Mi
open PySem PySem.Spec PyProof.Rows L2
theorem clo_nil {cells : List (Str × Addr)} {sl : Scope} (h : ∀ y ∈ sl.names, y.2 ≠ .free) : cloFrom cells sl.names [] = [] := by
  rw [List.eq_nil_iff_forall_not_mem]
  rintro ⟨y, c⟩ hm
  rcases cloFrom_mem hm with z | ⟨h1, _⟩
  · cases z
  · exact h _ h1 rfl
theorem d_minK {X : Cx} {C : Sc} {O : List Nat} {a : Expr} {fa : Ex} {p pos lpos kp : Pos} {params : Arguments} {body : Expr} {scope : Scope} {x : Str} {ke : Ex} {k j : Nat} (hK : C.F.K = X.K) (lam : LamAt X C.F.cm) (hr : Room j X.A) (hk : k + 2 ≤ j) (hm : X.mg "min" = none) (ha : PE X a (tD C O fa)) (S : FnScope [x] [x] scope)
    (hbody : ∀ (A : Around) (outer : List PySem.Env) (s : Shared) (H : Hp) (f d : Addr) (z : Hp × Hp), Room k (A.deeper (envOfC (X.env.qual ++ "<lambda>") scope s.heap.objs.size f (.ref d))) →
      PE (cxOf (L2.CX X.prog X.w) X.prog X.w X.K X.mg X.base [x] (X.env.qual ++ "<lambda>") scope f (.ref d) A outer s H (fun _ _ _ => False)) body (tD ⟨⟨C.F.K, C.F.cm, z.1, z.2, 1, [], [], [], []⟩, fun _ _ _ _ => False, C.fld, fun _ => True, [], false⟩ [] ke))
    (hg : Gl X "min" := by rfl) (hdef : defaultsOf params X.env = ([], []) := by rfl) (hbind : ∀ (q : Str) (cl : List (Str × Addr)) (pm cv ctv u : Value), bindArgs (PySem.W.kla_fn "<lambda>" q params body scope cl pm cv ctv) ⟨[u], []⟩ = pure [(x, u)] := by intros; rfl)
    (he : starEach [a] X.env = (false, eval a X.env) :: starEach [] X.env := by rfl) :
    PE X (.Call (.Name "min" p) [a] [⟨some "key", .Lambda params body scope lpos, kp⟩] pos) (tD C O (Mi.e1 (minKD ke) fa)) := by
  obtain ⟨c, P, hcode, TB, hmT, hu⟩ := lam
  obtain ⟨⟨K0, cm, G0, H0, n, ns, as, ks0, s00⟩, W, fld, XO, Lo, fr⟩ := C
  have hK : K0 = X.K := hK
  subst hK
  refine ⟨fun pins s σ H Q I h => ?_⟩
  obtain ⟨G, δ, st, m⟩ := h
  refine wpAny_Call_Name_kw (ld_blt I hg hm PyProof.Rows.boot_min ?_ (by decide) (by decide))
  refine PyProof.Rows.callWith_kw (thn ((pa_cons ha pa_nil he).run pos pins s σ H (fun vs H1 => ∃ v ds ks d' G1 δ1, vs = [v] ∧ Ext cm.T (ownS O σ) G H G1 H1 ∧ Stt ⟨X.K, cm, G0, H0, n, ns, as, ks0, s00⟩ O G1 H1 σ δ1 ∧ Rp X.K cm G1 v (.lst ds) ∧ keysO ke ds = some ks ∧ (∀ a ∈ ks, a.1 = (kAt ks 0).1) ∧ ds ≠ [] ∧ ds[argBest (ltK ks) (ds.length - 1)]? = some d' ∧
    (∀ v G' H', Ext cm.T (ownS O σ) G H G' H' → Stt ⟨X.K, cm, G0, H0, n, ns, as, ks0, s00⟩ O G' H' σ δ1 → Rp X.K cm G' v d' → Q v H')) I ?_) fun us s1 ⟨vs, H1, I1, r1, v, ds, ks, d', G1, δ1, ev, s1', st1, rv, hks, hsame, hne, hbest, mq⟩ => ?_) (by rw [he]; rfl) (by rw [he]; rfl) (by rfl) (by rfl)
  · refine ⟨G, δ, st, ?_⟩
    unfold Mi.e1 at m
    cases e : fa δ with
    | exc cc dd δ' => rw [e] at m; exact m
    | bad => rw [e] at m; exact m
    | ok d δ1 =>
      rw [e, Res.bind_ok] at m
      intro v G1 H1 s1 st1 rv
      cases d with
      | lst ds =>
        cases hks : keysO ke ds with
        | none =>
          have e0 : minKD ke (.lst ds) = none := by unfold minKD; simp only [hks, Option.bind_none]
          rw [e0] at m
          exact m.elim
        | some ks =>
          by_cases hc : (∀ k ∈ ks, k.1 = (kAt ks 0).1) ∧ ds ≠ []
          case neg =>
            have e0 : minKD ke (.lst ds) = none := by unfold minKD; simp only [hks, Option.bind_some]; rw [if_neg hc]
            rw [e0] at m
            exact m.elim
          have e0 : minKD ke (.lst ds) = ds[argBest (ltK ks) (ds.length - 1)]? := by unfold minKD; simp only [hks, Option.bind_some]; rw [if_pos hc]
          rw [e0] at m
          cases hb : ds[argBest (ltK ks) (ds.length - 1)]? with
          | none => rw [hb] at m; exact m.elim
          | some d' =>
            rw [hb] at m
            exact ⟨v, ds, ks, d', G1, δ1, rfl, s1, st1, rv, hks, hc.1, hc.2, hb, m⟩
      | _ => exact m.elim
  · subst ev
    show wpAny _ _ (evalAll [do let v ← eval (.Lambda params body scope lpos) X.env; standAt pos; pure v]) _ _ s1
    refine wpAny_evalAll_cons (wpAny_bind (lam_go I1 TB hcode hmT hu st1.tabs hdef (fun y hy e => absurd e (S.nofree y hy)) fun f d pm' ct' J z I2 xn dm tb nf ff fz hd0 hf => wpAny_bind (wpAny_standAt (wpAny_pure ?_))))
    refine wpAny_evalAll_nil ?_
    rw [clo_nil S.nofree] at hf
    cases rv with
    | @lst l xs _ hl rs =>
      rw [Vals.ref1 r1]
      have sg1 : Sg G1 J := ⟨fun b o h => xn b o (st1.gh b o h) (st1.gh.nt b o h), st1.gh.nt⟩
      have e01 : Ext cm.T [] G1 H1 G1 J := ⟨.refl G1, sg1, fun b o h _ ht => xn b o h ht, fun _ _ => rfl, dm, fun _ => tb⟩
      show wpAny _ _ (call (.builtin "min") [.ref l] [(Str.ofString "key", .ref f)]) _ _ z
      refine min_inv (k := k) (fld := fld) I2 sg1 tb hf nf (Nat.ne_of_gt (Nat.lt_of_lt_of_le I1.lt fz)) (I1.nofs fz) hd0 S (fun u => hbind _ _ _ _ _ u) (hr.mono hk) (fun A outer s H w hr2 => hbody A outer s H f d w hr2) hl rs hks hsame hne fun v G3 H3 hv ex => ?_
      have st3 := (st1.step e01).step ex
      obtain ⟨v', h1, h2⟩ := rs.get hbest
      rw [hv] at h1
      cases h1
      exact mq v G3 H3 ((s1'.and e01).and ex) st3 (h2.mono ex.g)
end Mi

end
section
set_option Elab.async false
set_option linter.all false
set_option maxRecDepth 100000
set_option autoImplicit false
set_option maxHeartbeats 4000000
/-! suites that a law never reaches -/
namespace Mi
open PySem PySem.Spec PyProof.Rows L2
theorem pss_false {X : Cx} {ss : List Stmt} : PSs X ss (fun _ _ _ => False) := ⟨fun pins s σ H D I h => h.elim⟩
theorem run_bad {C : Sc} {O : List Nat} {i : Nat} {cs : List Str} : ∀ (a : Addr) (cl : Value) (d : Option Addr) (c : Str) (dv : D) (σ : L2.St) (G H : Hp) (δ : Env) (D : Ends), c ∈ cs → Stt C.F O G H σ δ → (i < σ.length → σ[i]? = some (some (.ref a))) → XRp C G c dv cl d → Ps C O G D (sBad δ) → (fun (_ : Addr) (_ : Value) (_ : Option Addr) (_ : Ends) (_ : L2.St) (_ : Hp) => False) a cl d D σ H := fun _ _ _ _ _ _ _ _ _ _ _ _ _ _ m => m
end Mi

end
section
set_option Elab.async false
set_option linter.all false
set_option maxRecDepth 100000
set_option autoImplicit false
set_option maxHeartbeats 4000000
/-! range(i, j, -1); tuple(range(n)) -/
namespace Mi
open PySem PySem.Spec PyProof.Rows L2
def rngD (lo : Int) (n : Nat) : List D := (List.range n).map fun (k : Nat) => D.int (lo - (k : Int))
theorem rngD_length (lo : Int) (n : Nat) : (rngD lo n).length = n := by simp [rngD]
/-- range(i, j, -1) -/
noncomputable def iRngD (a b : Ex) : ItE := fun δ => (a δ).bind fun x δ1 => (b δ1).bind fun y δ2 => Res.opt ((smInt x).bind fun i => (smInt y).map fun j => rngD i (i - j).toNat) δ2
theorem wk_rngD {K : PySem.W.Frag} {cm : CM} {Gb : Hp} {lo : Int} {n : Nat} : WkD false K cm (Itc lo (-1) n) (rngD lo n) Gb where
  goes := fun i H hi g => by rw [rngD_length] at hi; exact hi
  stops := fun H g => by rw [rngD_length]; exact Nat.le_refl _
  yields := fun i H x H' hi g y G s1 s2 => by
    obtain ⟨e, y⟩ := y
    subst e y
    rw [rngD_length] at hi
    refine ⟨G, .int (lo + (i : Int) * (-1)), ?_, Ext.refl s2, .inl (.int _)⟩
    unfold rngD
    rw [List.getElem?_map, List.getElem?_range hi, Option.map_some]
    congr 2
    omega
section
variable {X : Cx} {C : Sc} {O : List Nat} {a b c tg : Expr} {fa fb : Ex} {pos p p2 p3 p4 : Pos}
theorem i_rngD (hg : Gl X "range") (hm : X.mg "range" = none) (h : PA X [a, b, c] (tCons (tD C O fa) (tCons (tD C O fb) (tCons (tC (.int (-1))) tNil)))) (hs : starEach [a, b, c] X.env = (false, eval a X.env) :: starEach [b, c] X.env := by rfl) (hpl : (backTo pos (starEach [b, c] X.env)).any (·.1) = false := by rfl) :
    PI X tg (.Call (.Name "range" p) [a, b, c] [] pos) (tI false C O (iRngD fa fb)) :=
  pi_imp (pi_range3 hg hm h hs hpl) fun σ H R ⟨G, δ, st, m⟩ => by
    show tD C O fa σ H _
    refine ⟨G, δ, st, ?_⟩
    unfold iRngD at m
    cases e : fa δ with
    | ok d δ1 =>
      rw [e, Res.bind_ok] at m
      intro v G1 H1 s1 st1 rv
      refine ⟨G1, δ1, st1, ?_⟩
      cases eb : fb δ1 with
      | ok d2 δ2 =>
        rw [eb, Res.bind_ok] at m
        intro w G2 H2 s2 st2 rw2
        cases e1 : smInt d with
        | none => rw [e1] at m; exact m.elim
        | some i =>
          cases e3 : smInt d2 with
          | none => rw [e1, e3] at m; exact m.elim
          | some j =>
            rw [e1, e3] at m
            obtain ⟨rfl, l1, l2⟩ := smInt_of e1
            obtain ⟨rfl, l3, l4⟩ := smInt_of e3
            cases rv
            cases rw2
            exact ⟨i, j, -1, (i - j).toNat, rfl, RgC.neg l1 l2 l3 l4, m _ G2 H2 (s1.thn s2) st2 wk_rngD⟩
      | exc c d δ' => rw [eb] at m; exact m
      | bad => rw [eb] at m; exact m
    | exc c d δ' => rw [e] at m; exact m
    | bad => rw [e] at m; exact m
/-- tuple(range(n)) -/
noncomputable def eTrg (a : Ex) : Ex := fun δ => (a δ).bind fun x δ1 => match x with
  | .int i => if -(cap : Int) ≤ i ∧ i ≤ cap then .ok (.tup (rng 0 i.toNat)) δ1 else .bad
  | _ => .bad
theorem pe_tupRgF {e : Expr} {te : L2.St → Hp → (Int → Int → Hp → Prop) → Prop} (hc : X.calm = true) (hg : Gl X "tuple") (hm : X.mg "tuple" = none) (he : PRg X e te) (na : starEach [e] X.env = (false, eval e X.env) :: starEach [] X.env := by rfl) :
    PE X (.Call (.Name "tuple" p) [e] [] pos) (fun σ H Q => te σ H fun a b H1 => RgOk a b ∧ NewT H1 (rgV a b) Q) := by
  refine ⟨fun pins s σ H Q I h => ?_⟩
  refine Call_ (ld_blt I hg hm boot_tuple (PyProof.Rows.callWith_type1 (args_cons (thn (he pins s σ H _ I h) fun x s1 ⟨r, a, b, t, u, v, H1, ex, hr, I1, ok, q⟩ => args_nil ?_) na) na))
  subst ex
  obtain ⟨b1, b2, b3, b4, b5⟩ := ok
  refine call_tuple_range (n := (b - a).toNat) (I1.ok.hd hc) hr (small_one b1 b2 b3 b4) (rangeSize_nat a b) b5 fun h' tk acc hk hi => ?_
  have I2 : Inv X pins σ H1 { s1 with heap := h', toks := tk } := I1.kept hk
  have z := new_tup (s := { s1 with heap := h', toks := tk }) (h' := h') (t' := tk) (its := acc.toList) (xs := rgV a b) (Q := Q) I2 (fun _ _ z => z) (Nat.le_refl _) (vals_rg hi) (by rw [rgV_length, sizeLine_eq]; omega) q
  rw [Array.toArray_toList] at z
  exact z
theorem d_trg (hc : X.calm = true) (hg : Gl X "tuple") (hm : X.mg "tuple" = none) (hg2 : Gl X "range") (hm2 : X.mg "range" = none) (ha : PE X a (tD C O fa)) (na : starEach [.Call (.Name "range" p2) [a] [] pos] X.env = (false, eval (.Call (.Name "range" p2) [a] [] pos) X.env) :: starEach [] X.env := by rfl) (na2 : starEach [a] X.env = (false, eval a X.env) :: starEach [] X.env := by rfl) {pos2 : Pos} :
    PE X (.Call (.Name "tuple" p) [.Call (.Name "range" p2) [a] [] pos] [] pos2) (tD C O (eTrg fa)) := pe_imp (pe_tupRgF hc hg hm (prg_1 hg2 hm2 ha na2) na) fun σ H Q ⟨G, δ, st, m⟩ => by
  refine ⟨G, δ, st, ?_⟩
  unfold eTrg at m
  cases e : fa δ with
  | exc c d δ' => rw [e] at m; exact m
  | bad => rw [e] at m; exact m
  | ok d δ1 =>
    rw [e, Res.bind_ok] at m
    intro v G1 H1 s1 st1 rv
    cases d with
    | int i =>
      cases rv
      simp only at m
      by_cases hi : -(cap : Int) ≤ i ∧ i ≤ cap
      case neg => rw [if_neg hi] at m; exact m.elim
      rw [if_pos hi] at m
      have hc0 : (cap : Int) = 16000000 := by rw [cap_eq]; rfl
      refine ⟨i, rfl, ⟨by omega, by omega, by omega, by omega, by omega⟩, fun q o n od => ?_⟩
      have ex := Ext.push (T := C.F.cm.T) (o := .frz o (.tup (rgV 0 i))) st1.gh n
      refine m (.ref q) _ _ (s1.and ex) (st1.step ex) (.tup (.of upd_same od) ?_)
      unfold rgV rng
      rw [Int.sub_zero]
      exact rps_map _
    | _ => exact m.elim
end
end Mi

end
section
set_option Elab.async false
set_option linter.all false
set_option maxRecDepth 100000
set_option autoImplicit false
set_option maxHeartbeats 4000000
/-! exceptions as values: isinstance, the field -/
namespace PySem.W
open PySem PySem.Spec PyProof.Rows
section
variable {prog : Program} {w : World} {A : Around} {E : Value → Shared → Prop} {s : Shared} {K : Frag} {x D : Addr} {ox od : Obj}
/-- e.__class__ as isinstance asks it, e an exception with a dict of its own -/
theorem exd_class {Q : Option Value → Shared → Prop} (C : L2.ExcC K D) (X : K.In s.heap) (I : InstAt s.heap x ox D (some od)) (h : Q (some (.ref D)) { s with toks := s.toks + 1 }) : wpAny (model prog w) A (getAttr? (.ref x) "__class__") Q E s := by
  have hf : findObj K D (some od) "__class__" = some (.bind (.builtin "getset_descriptor.__get__") (.builtin "object.__class__")) := findObj_data (by obtain ⟨cd, hc, _⟩ := any_some C.hd; rw [hc]; rfl) C.ha C.hn C.ht
  obtain ⟨hp, g, d, t, os⟩ := s
  have ty := I.type (M := model prog w)
  have ga := looks_findIn (M := model prog w) X C.hg
  have gt := looks_findIn (M := model prog w) X C.hk
  have at_ := looks_find (M := model prog w) X I hf
  have isE : Looks (model prog w) hp (isInstance (.ref x) (.type "BaseException")) true := ty.andThen (looks_subIn X C.hs)
  have ne : (Value.builtin "BaseException.__getattribute__" == Value.builtin "object.__getattribute__") = false := by decide +kernel
  simp only [getAttr?, getAttrBy?, getAttrBy]
  refine wpAny_bind (wpAny_mkText (wpAny_bind (wpAny_attempt (wpAny_holding (wpAny_bind (ty.at (wpAny_bind (ga.at ?_))))))))
  simp only [ne, Bool.and_false, Bool.false_eq_true, if_false]
  simp only [getAttrByItsOwn, hookBefore]
  refine wpAny_bind ?_
  rw [if_pos (show onTheHeap (Value.ref D) = true from rfl)]
  refine gt.at (wpAny_bind (wpAny_attempt (wpAny_holding ?_)))
  unfold callGetattribute
  simp only [show onTheHeap (Value.builtin "BaseException.__getattribute__") = false from rfl, Bool.and_false, Bool.false_eq_true, if_false]
  unfold boundAndCalled
  rw [PySem.F.excAttr_ValueError.ga.bind (.ref x)]
  refine wpAny_bind (wpAny_pure ?_)
  refine wpAny_call (codeAny_call_builtin PySem.F.excAttr_ValueError.ga.plain PySem.F.entry_bexc_ga ?_)
  refine @check_slot (model prog w) _ _ ⟨hp, g, d, t + 1, os⟩ "BaseException.__getattribute__" "BaseException" "__getattribute__" (.ref x) [.str "__class__" t] [] _ (by decide +kernel) (by decide +kernel) isE (PySem.F.args_bexc_ga (.ref x) (.str "__class__" t)) ?_
  unfold Builtin.«object.__getattribute__»
  refine wpAny_bind (wpAny_of_eq (a := ((Value.ref x : Value), [Value.str "__class__" t])) (by first | rfl | (simp only [slotArgs]; rfl)) ?_)
  refine wpAny_bind (wpAny_pure (wpAny_bind (ty.at (wpAny_bind (at_.at ?_)))))
  refine wpAny_bind (wpAny_holding (wpAny_call (class_get (s := ⟨hp, g, d, t + 1, os⟩) (ox := ox) (od := some od) X I C.hm (wpAny_pure ?_))))
  show wpAny _ _ (handedOut (.ref D)) _ _ _
  rw [handedOut_of (v := .ref D) rfl]
  repeat (first | exact h | exact wpAny_pure h | refine wpAny_pure ?_ | refine wpAny_bind ?_)
/-- the class object stands in the written part as a class -/
theorem cls_there (C : L2.ExcC K D) : ∃ o, K.lookup D = some o ∧ (∀ dd its n sl, o ≠ ⟨.type "tuple", dd, .seq its n, sl⟩) ∧ ∃ c, clsIn K D = some c := by
  obtain ⟨cd, hc, _⟩ := any_some C.hd
  have hc' := hc
  unfold clsIn at hc
  split at hc
  · rename_i ho
    exact ⟨_, ho, fun _ _ _ _ z => (by cases z), cd, hc'⟩
  · cases hc
theorem kitx_exd (C : L2.ExcC K D) : KitX K (.ref x) (.ref D) (fun h => ∃ ox od, InstAt h x ox D (some od)) where
  ty := fun _ _ _ ⟨_, _, I⟩ => I.type
  it := fun _ _ X _ => by
    obtain ⟨cd, hc, _⟩ := any_some C.hd
    unfold clsIn at hc
    split at hc
    · rename_i ho
      intro A' Q' E' s' k q
      simp only [isType, loadHead]
      exact wpAny_bind (wpAny_loadPart (k _ _ (X _ _ ho)) (wpAny_pure q))
    · cases hc
  ne := fun h tp dd its n sl X htp => by
    obtain ⟨o, ho, no, _⟩ := cls_there C
    refine Bool.eq_false_iff.mpr fun q => ?_
    obtain rfl : D = tp := Value.ref.inj (beq_iff_eq.mp q)
    exact no _ _ _ _ (Option.some.inj ((X _ _ ho).symm.trans htp))
  ca := fun X ⟨_, _, I⟩ k => exd_class C X I k
end
end PySem.W
namespace Mi
open PySem PySem.Spec PyProof.Rows L2
/-- how the exception object and its dict stand -/
theorem exo_inst {P : Program} {w : World} {H : Hp} {h : Heap} {a D dx : Addr} {fs : List (Str × V)} (hok : HOk P w H h) (ha : H a = some (exo a D (some dx))) (hd : H dx = some (exd dx fs)) : ∃ ox od, PySem.W.InstAt h a ox D (some od) ∧ ∃ mA, h.Ns1 dx mA ∧ (∀ f, RelO (fs.lookup f) (mA f)) ∧ h.get? dx = some od ∧ ∀ name, PySem.W.lookIn name od = some (mA name) := by
  obtain ⟨t1, ho⟩ := exo_at hok ha
  obtain ⟨mA, hns, rel⟩ := exd_at hok hd
  obtain ⟨od, e1, e2⟩ := lookIn_ns hns
  exact ⟨_, od, ⟨ho, rfl, rfl, e1⟩, mA, hns, rel, e1, e2⟩
/-- isinstance(e, c), e an exception that was never raised -/
def rIsV (K : PySem.W.Frag) : List V → Hp → VK → Prop := fun xs H Q => ∃ (a dx D : Addr) (fs : List (Str × V)) (c : V) (cv : Value) (b : Bool), xs = [.ref a, c] ∧ H a = some (exo a D (some dx)) ∧ H dx = some (exd dx fs) ∧ ExcC K D ∧ ClsV c cv ∧ PySem.W.kitOne K (.ref D) cv = some b ∧ Q (.bl b) H
theorem call_isV {X : Cx} : CallR X (.builtin "isinstance") (rIsV X.K) := by
  intro pins s σ H xs us Q I r h
  obtain ⟨a, dx, D, fs, c, cv, b, rfl, ha, hd, C, hcv, e, q⟩ := h
  obtain ⟨u1, u2, rfl, r1, r2⟩ := vals2 r
  cases (show u1 = Value.ref a from r1)
  have e2 := hcv.eq r2
  subst e2
  obtain ⟨ox, od, J, _⟩ := exo_inst I.hok ha hd
  exact PySem.W.kia_one (PySem.W.kitx_exd C) I.kIn ⟨ox, od, J⟩ e (fun z => nomatch z) fun tk => ⟨.bl b, H, I.tok tk, rfl, q⟩
/-- e.f -/
def tXv (K : PySem.W.Frag) (n : Str) (te : TE) : TE := fun σ H Q => te σ H fun x H1 => ∃ (a dx D : Addr) (fs : List (Str × V)) (v : V), x = .ref a ∧ H1 a = some (exo a D (some dx)) ∧ H1 dx = some (exd dx fs) ∧ XfC K D ∧ PySem.W.findIn K (.ref D) n = some none ∧ fs.lookup n = some v ∧ Q v H1
theorem pe_xv {X : Cx} {e : Expr} {te : TE} {pos : Pos} {n : Str} (he : PE X e te) (hb : attributeBase e n X.env (eval e X.env) = eval e X.env := by rfl) : PE X (.Attribute e n pos) (tXv X.K n te) := by
  refine ⟨fun pins s σ H Q I h => ?_⟩
  refine attr_of hb (thn (he.run pins s σ H _ I h) fun u s1 hh => ?_)
  obtain ⟨x, H1, I1, rx, a, dx, D, fs, v, ex, ea, ed, T, hno, l, q⟩ := hh
  subst ex
  obtain rfl : u = Value.ref a := rx
  obtain ⟨ox, od, J, mA, _, hr, _, hl⟩ := exo_inst I1.hok ea ed
  obtain ⟨u, hu, ru⟩ := RelO.some_of (v := v) (o := mA n) (by rw [← l]; exact hr n)
  exact HandSPX.exc_get I1.kIn J T.ga T.gg T.exC (PySem.W.findObj_own T.hdC hno rfl (by rw [hl, hu])) (handed_of ru) ⟨v, H1, I1.tok _, ru, q⟩
/-- the field n of an exception of one of the classes cs -/
def xvD (n : Str) (cs : List Str) (x : D) : Option D := match x with
  | .exn c f d => if c ∈ cs ∧ f = n then some d else none
  | _ => none
section
variable {X : Cx} {C : Sc} {O : List Nat} {a e : Expr} {fa : Ex} {pos : Pos} {n : Str} {cs : List Str}
theorem d_xv (hK : C.F.K = X.K) (hc : ∀ c ∈ cs, XfC C.F.K (C.F.cm c) ∧ PySem.W.findIn C.F.K (.ref (C.F.cm c)) n = some none) (ha : PE X a (tD C O fa)) (hb : attributeBase a n X.env (eval a X.env) = eval a X.env := by rfl) : PE X (.Attribute a n pos) (tD C O (Mi.e1 (xvD n cs) fa)) := pe_imp (pe_xv ha hb) fun σ H Q ⟨G, δ, st, m⟩ => by
  refine ⟨G, δ, st, ?_⟩
  unfold Mi.e1 at m
  cases e : fa δ with
  | exc c d δ' => rw [e] at m; exact m
  | bad => rw [e] at m; exact m
  | ok d δ1 =>
    rw [e, Res.bind_ok] at m
    intro v G1 H1 s1 st1 rv
    cases rv with
    | @exn p dx c f w dd h1 h2 r =>
      unfold xvD at m
      simp only at m
      by_cases hcs : c ∈ cs ∧ f = n
      case neg => rw [if_neg hcs] at m; exact m.elim
      rw [if_pos hcs] at m
      obtain ⟨hm, rfl⟩ := hcs
      obtain ⟨t1, t2⟩ := hc c hm
      exact ⟨p, dx, _, _, w, rfl, st1.gh _ _ h1, st1.gh _ _ h2, hK ▸ t1, hK ▸ t2, by simp [List.lookup], m w G1 H1 s1 st1 r⟩
    | _ => exact m.elim
/-- isinstance(e, c): what is said of the classes that answer tells -/
def isVD (ans : Str → Option Bool) (x : D) : Option D := match x with
  | .exn c _ _ => (ans c).map .bl
  | _ => none
theorem a_isV {K : PySem.W.Frag} {cm : CM} {ans : Str → Option Bool} {cv : V} {cu : Value} (hv : ClsV cv cu) (h : ∀ c b, ans c = some b → ExcC K (cm c) ∧ PySem.W.kitOne K (.ref (cm c)) cu = some b) : S1 K cm (fun v H Q => rIsV K [v, cv] H Q) (isVD ans) := fun G H v d d' Q gh v1 ho a => by
  unfold isVD at ho
  have r := v1.full gh.s
  cases r with
  | @exn p dx c f w dd h1 h2 r =>
    obtain ⟨b, hb, rfl⟩ := Option.map_eq_some_iff.mp ho
    obtain ⟨q1, q2⟩ := h c b hb
    exact ⟨p, dx, _, _, cv, cu, b, rfl, h1, h2, q1, hv, q2, a _ G H (.refl gh) (.bl b)⟩
  | _ => cases ho
theorem b_isV {ans : Str → Option Bool} {cv : V} {cu : Value} (hv : ClsV cv cu) (h : ∀ c b, ans c = some b → ExcC C.F.K (C.F.cm c) ∧ PySem.W.kitOne C.F.K (.ref (C.F.cm c)) cu = some b) (hp : PE X e (tCB (rIsV C.F.K) (tCons (tW C O fa) (tCons (tC cv) tNil)))) : PE X e (tD C O (Mi.e1 (isVD ans) fa)) := d_1 (a_isV hv h) hp
end
end Mi

end
section
set_option Elab.async false
set_option linter.all false
set_option maxRecDepth 100000
set_option autoImplicit false
set_option maxHeartbeats 4000000
/-! exceptions made as values -/
namespace Mi
open PySem PySem.Spec PyProof.Rows L2
def tExV (C : Addr) (f : Str) (te : TE) : TE := fun σ H Q => te σ H fun y H1 => ∀ a dx, H1 a = none → H1 dx = none → dx ≠ a → Q (.ref a) (upd (upd H1 dx (exd dx [(f, y)])) a (exo a C (some dx)))
theorem pe_exV {X : Cx} {e : Expr} {te : TE} {x f : Str} {p pos : Pos} {C fI : Addr} {k : Nat} {fd : FuncData} {ps : List Str} (T : OexC X.K C) (iC : PySem.W.findIn X.K (.ref C) "__init__" = some (some (.ref fI))) (tI : PySem.W.typeIn X.K (.ref fI) = some (.type "function"))
    (F1 : FnOk X.prog X.w X.K X.mg X.base (L2.CX X.prog X.w) k fI fd ps (spI C f)) (hr : Room (k + 1) X.A) (hb : Binds X.K fd ps []) (hg : Gl X x) (hm : X.mg x = some (.ref C)) (ha : PE X e te)
    (hdb : (x == ("__debug__" : Str)) = false := by decide) (he : starEach [e] X.env = (false, eval e X.env) :: starEach [] X.env := by rfl) (hpl : (backTo pos (starEach [] X.env)).any (·.1) = false := by rfl) :
    PE X (.Call (.Name x p) [e] [] pos) (tExV C f te) := by
  refine ⟨fun pins s σ H Q I h => ?_⟩
  obtain ⟨nm, q, N, bs, bm, sn, sub, ab, col, dd, k0, k1, k2, k3, k5, hC, hbm⟩ := T.cls
  refine wpAny_Call_Name_kw (ld_glob I hg hm ?_ hdb)
  have hA : PA X [e] (tCons te tNil) := pa_cons ha pa_nil he
  refine PySem.W.callWith_K (h₀ := X.base) I.ok.mod.kin T.kC (thn (hA.run pos pins s σ H (fun vs H1 => match vs with | [y] => ∀ a dx, H1 a = none → H1 dx = none → dx ≠ a → Q (.ref a) (upd (upd H1 dx (exd dx [(f, y)])) a (exo a C (some dx))) | _ => False) I h) fun us s1 ⟨vs, H1, I1, r1, q1⟩ => ⟨I1.kIn, ?_⟩) he hpl
  · obtain ⟨y, ev⟩ : ∃ y, vs = [y] := by
      rcases vs with _ | ⟨y, _ | ⟨z, vs⟩⟩
      · exact q1.elim
      · exact ⟨y, rfl⟩
      · exact q1.elim
    subst ev
    show wpAny _ _ (call (.ref C) us) _ _ _
    obtain ⟨hp, g, dr, tk, os⟩ := s1
    have hsz : hp.objs.size ≤ hp.objs.size + 1 := Nat.le_succ _
    have hn : H1 (hp.objs.size + 1) = none := I1.hok.fresh hsz
    have kk : ∀ b o, hp.get? b = some o → ((hp.push (PySem.W.kdv_tup us)).push (PySem.HandSPX.excO C hp.objs.size)).get? b = some o := fun b o e => Heap.get?_push_of_some _ (Heap.get?_push_of_some _ e)
    have hget : ((hp.push (PySem.W.kdv_tup us)).push (PySem.HandSPX.excO C hp.objs.size)).get? (hp.objs.size + 1) = some (PySem.HandSPX.excO C hp.objs.size) := by heap_get
    have I2 : Inv X pins σ (upd H1 (hp.objs.size + 1) (exo (hp.objs.size + 1) C none)) ⟨(hp.push (PySem.W.kdv_tup us)).push (PySem.HandSPX.excO C hp.objs.size), g, dr, tk, os⟩ :=
      I1.laid (t' := tk) (a := hp.objs.size + 1) (o := exo (hp.objs.size + 1) C none) (h' := (hp.push (PySem.W.kdv_tup us)).push (PySem.HandSPX.excO C hp.objs.size)) kk hsz (exo_ok hget)
    have r2 : Vals [V.ref (hp.objs.size + 1), y] (Value.ref (hp.objs.size + 1) :: us) := .cons rfl r1
    have hq : spI C f [V.ref (hp.objs.size + 1), y] (upd H1 (hp.objs.size + 1) (exo (hp.objs.size + 1) C none)) (fun v H2 => v = .non ∧ Q (.ref (hp.objs.size + 1)) H2) (fun _ _ _ => False) := by
      refine ⟨_, y, rfl, upd_same, fun dx n ne => ⟨rfl, ?_⟩⟩
      have n1 : H1 dx = none := by rwa [upd_ne ne] at n
      have eq : upd (upd (upd H1 (hp.objs.size + 1) (exo (hp.objs.size + 1) C none)) dx (exd dx [(f, y)])) (hp.objs.size + 1) (exo (hp.objs.size + 1) C (some dx)) = upd (upd H1 dx (exd dx [(f, y)])) (hp.objs.size + 1) (exo (hp.objs.size + 1) C (some dx)) := by
        funext z
        by_cases h1 : z = hp.objs.size + 1
        · rw [h1, upd_same, upd_same]
        · rw [upd_ne h1, upd_ne h1]
          by_cases h2 : z = dx
          · rw [h2, upd_same, upd_same]
          · rw [upd_ne h2, upd_ne h2, upd_ne h1]
      rw [eq]
      exact q1 _ dx hn n1 ne
    have hl : (Value.ref (hp.objs.size + 1) :: us).length = ps.length := by
      have e := r2.length
      rw [F1.len _ _ _ _ hq] at e
      exact e.symm
    have hus : us.length ≤ sizeLine := by
      have := r1.length
      rw [← this, sizeLine_eq]
      simp
    refine wpAny_call (PySem.HandSPX.call_own PySem.F.excBase_ValueError (fun Y => PySem.HandSPX.refsVE_contains Y bm hbm) (I1.kIn _ _ hC) (PySem.W.looks_findIn I1.kIn iC) (fun self => PySem.W.bind_fn I1.kIn self tI) hus
      (codeAny_mono (F1.run _ X.stack _ _ ⟨Value.ref (hp.objs.size + 1) :: us, []⟩ (Value.ref (hp.objs.size + 1) :: us) _ _ (fun _ _ _ => False) (hr.make C us []) (I2.env0.make C us []) (by simpa using hb _ (Value.ref (hp.objs.size + 1) :: us) I2.kIn (by simpa using hl)) r2 hq) fun r s' hq' => ?_))
    cases r with
    | error er => exact (passN (X := X)) pins σ _ _ er s' I2 hq'
    | ok fl =>
      cases fl with
      | ret u =>
        obtain ⟨v, H2, J, rv, ev, q2⟩ := I2.after hq'
        subst ev
        exact ⟨rv, .ref (hp.objs.size + 1), H2, J, rfl, q2⟩
      | next => exact False.elim hq'
      | brk => exact False.elim hq'
      | cont => exact False.elim hq'
noncomputable def eExn (c f : Str) (a : Ex) : Ex := fun δ => (a δ).bind fun x δ1 => .ok (.exn c f x) δ1
/-- c(e) as a value -/
theorem d_exn {X : Cx} {C : Sc} {O : List Nat} {a : Expr} {fa : Ex} {p pos : Pos} {c f : Str} {k : Nat} (x : ExI X.prog X.w X.K X.mg X.base C.F.cm C.fld c) (hf : C.fld c = f) (hK : C.F.K = X.K) (hr : Room k X.A) (hk : 2 ≤ k) (ha : PE X a (tD C O fa)) (hg : Gl X c := by rfl) (hdb : (c == ("__debug__" : Str)) = false := by decide)
    (he : starEach [a] X.env = (false, eval a X.env) :: starEach [] X.env := by rfl) (hpl : (backTo pos (starEach [] X.env)).any (·.1) = false := by rfl) : PE X (.Call (.Name c p) [a] [] pos) (tD C O (eExn c f fa)) := by
  subst hf
  obtain ⟨fI, fd, ps, iC, tI, F, hb⟩ := x.i
  refine pe_imp (pe_exV x.k.T iC tI F (hr.mono hk) hb hg x.k.m ha hdb he hpl) fun σ H Q ⟨G, δ, st, m⟩ => ?_
  refine ⟨G, δ, st, ?_⟩
  unfold eExn at m
  cases e : fa δ with
  | exc c d δ' => rw [e] at m; exact m
  | bad => rw [e] at m; exact m
  | ok d δ1 =>
    rw [e, Res.bind_ok] at m
    intro v G1 H1 s1 st1 rv
    intro q dx n1 n2 ne
    have e1 := Ext.push (T := C.F.cm.T) (o := exd dx [(C.fld c, v)]) st1.gh n2
    have st2 := st1.step e1
    have n3 : upd H1 dx (exd dx [(C.fld c, v)]) q = none := by rw [upd_ne (fun z => ne z.symm)]; exact n1
    have e2 := Ext.push (T := C.F.cm.T) (o := exo q (C.F.cm c) (some dx)) st2.gh n3
    refine m (.ref q) _ _ ((s1.and e1).and e2) (st2.step e2) (.exn upd_same ?_ ((rv.mono e1.g).mono e2.g))
    rw [upd_ne ne, upd_same]
end Mi

end
section
set_option Elab.async false
set_option linter.all false
set_option maxRecDepth 100000
set_option autoImplicit false
set_option maxHeartbeats 4000000
namespace PySem.HandSPX
open PySem PySem.Spec PyProof.Rows PySem.F
section
variable {M : Model} {A : Around} {E : Value → Shared → Prop} {h : Heap} {g : Array GenState} {d : Drawn} {t : Nat} {os : OsState} {nm q : Str} {C N : Addr} {bs bm bmB : List Value} {hdct : Bool} {sn : List Str} {sub : List Value} {ab : Bool} {col : Option Bool} {dd : Option Addr} {k0 k1 k2 k3 k5 : Option Value} {newId B initId : String}
theorem kw_check_new (F : ExcBaseFacts B newId initId bmB) (hT : ∀ X : String, bm.contains (.type X) = bmB.contains (.type X)) {kws : List (Str × Value)} {Q : Unit → Shared → Prop}
    (hC : h.get? C = some (excClassObj nm q C N bs bm hdct sn sub ab col dd k0 k1 k2 k3 k5 newId)) (hq : Q () ⟨h, g, d, t, os⟩) : wpAny M A (checkBuiltinCall newId ⟨[.ref C], kws⟩) Q E ⟨h, g, d, t, os⟩ := by
  have own : (Value.ref C :: bm).contains (.type B) = true := by rw [List.contains_cons, hT, F.hasB, Bool.or_true]
  have := F.noStar
  simp only [checkBuiltinCall, F.newKind, F.newSplit, F.newRow]
  repeat (first | refine wpAny_loadPart_at hC ?_ | (refine wpAny_isSubtype_exc hC ?_; rw [own]) | refine wpAny_staticBase_exc hC ?_ | refine wpAny_madeBy_exc hC ?_ | simp only [bne_self_eq_false, Bool.false_eq_true, if_false] | wp_step)
  exact hq
end
section
variable {prog : Program} {w : World} {A : Around} {E : Value → Shared → Prop} {R : Result → Shared → Prop} {h : Heap} {g : Array GenState} {d : Drawn} {t : Nat} {os : OsState} {nm q : Str} {C N : Addr} {bs bm bmB : List Value} {hdct : Bool} {sn : List Str} {sub : List Value} {ab : Bool} {col : Option Bool} {dd : Option Addr} {k0 k1 k2 k3 k5 : Option Value} {newId B initId : String}
theorem kw_new (F : ExcBaseFacts B newId initId bmB) (hT : ∀ X : String, bm.contains (.type X) = bmB.contains (.type X)) {kws : List (Str × Value)} (hC : h.get? C = some (excClassObj nm q C N bs bm hdct sn sub ab col dd k0 k1 k2 k3 k5 newId))
    (hq : R (.ok (.ret (.ref (h.objs.size + 1)))) ⟨(h.push (W.kdv_tup [])).push (excO C h.objs.size), g, d, t, os⟩) : codeAny (model prog w) A (.builtin newId ⟨[.ref C], kws⟩) R ⟨h, g, d, t, os⟩ := by
  have ends := F.ends
  have cB : (Value.ref C :: bm).contains (.type B) = true := by rw [List.contains_cons, hT, F.hasB, Bool.or_true]
  have cA : (Value.ref C :: bm).contains (.type "AttributeError") = false := by rw [List.contains_cons, hT, F.noAttr]; rfl
  have cN : (Value.ref C :: bm).contains (.type "NameError") = false := by rw [List.contains_cons, hT, F.noName]; rfl
  refine codeAny_builtinAt F.entry ?_
  unfold Builtin.«BaseException.__new__»
  refine wpAt_bind ?_
  show wpAt _ _ _ (stack >>= _) _ _ _
  refine wpAt_bind (wpAt_stack fun p below => wpAt_of_wpAny ?_)
  wp_walk
  refine wpAt_of_wpAny ?_
  rw [F.owner]
  repeat (first | with_reducible refine wpAny_madeHere_exc F.canon hC ?_ | with_reducible refine wpAny_loadPart_at hC ?_ | (with_reducible refine wpAny_isSubtype_exc hC ?_; first | rw [cB] | rw [cA] | rw [cN]) | wp_step)
  show R _ _
  rw [Heap.size_push]
  exact hq
theorem kw_type_call (F : ExcBaseFacts B newId initId bmB) (hT : ∀ X : String, bm.contains (.type X) = bmB.contains (.type X)) {kws : List (Str × Value)} {fI : Addr} {Q : Fin → Shared → Prop} (hC : h.get? C = some (excClassObj nm q C N bs bm hdct sn sub ab col dd k0 k1 k2 k3 k5 newId))
    (hi : W.Looks (model prog w) h (typeLookup (.ref C) "__init__") (some (.ref fI))) (hb : ∀ self, W.Looks (model prog w) h (bindSpecial (.ref fI) self) (.ref fI, [self]))
    (hq : codeAny (model prog w) A (.call (.ref fI) ⟨[.ref (h.objs.size + 1)], kws⟩) (fun r s' => match r with | .ok (.ret v) => v = .none ∧ Q (.done (.ret (.ref (h.objs.size + 1)))) s' | .ok _ => False | .error e => E e s') ⟨(h.push (W.kdv_tup [])).push (excO C h.objs.size), g, d, t, os⟩) :
    wpAny (model prog w) A (Builtin.«type.__call__» ⟨[.ref C], kws⟩) Q E ⟨h, g, d, t, os⟩ := by
  repeat (first | with_reducible refine wpAny_loadPart_at hC ?_ | with_reducible refine wpAny_madeBy_exc hC ?_ | wp_step)
  refine codeAny_call_builtin_code (Code.quiet_builtin _ F.quiet) (kw_check_new F hT hC ?_)
  refine kw_new F hT hC ?_
  show wpAny _ _ _ _ _ _
  have k : ∀ b o, h.get? b = some o → ((h.push (W.kdv_tup [])).push (excO C h.objs.size)).get? b = some o := fun b o e => Heap.get?_push_of_some _ (Heap.get?_push_of_some _ e)
  have hC1 := k _ _ hC
  have new : ((h.push (W.kdv_tup [])).push (excO C h.objs.size)).get? (h.objs.size + 1) = some (excO C h.objs.size) := by heap_get
  have cC : (Value.ref C :: bm).contains (.ref C) = true := by simp
  have i1 := hi.keeps k
  have b1 := (hb (.ref (h.objs.size + 1))).keeps k
  unfold isInstance
  repeat (first | with_reducible refine wpAny_loadPart_at new ?_ | (with_reducible refine wpAny_isSubtype_exc hC1 ?_; rw [cC]) | wp_step)
  show wpAny _ _ (typeLookup (.ref C) _) _ _ _
  refine i1.at ?_
  refine wpAny_holding (wpAny_bind (b1.at ?_))
  refine wpAny_bind (wpAny_call (codeAny_mono hq fun r s' z => ?_))
  rcases r with e | (v | _ | _ | _) <;> first | exact z | exact z.elim | skip
  obtain ⟨rfl, z⟩ := z
  first
    | exact wpAny_pure (wpAny_pure z)
    | (wp_walk; exact z)
theorem kw_call_own (F : ExcBaseFacts B newId initId bmB) (hT : ∀ X : String, bm.contains (.type X) = bmB.contains (.type X)) {kws : List (Str × Value)} {fI : Addr} (hC : h.get? C = some (excClassObj nm q C N bs bm hdct sn sub ab col dd k0 k1 k2 k3 k5 newId))
    (hi : W.Looks (model prog w) h (typeLookup (.ref C) "__init__") (some (.ref fI))) (hb : ∀ self, W.Looks (model prog w) h (bindSpecial (.ref fI) self) (.ref fI, [self]))
    (hq : codeAny (model prog w) (A.under (.builtin "type.__call__" ⟨[.ref C], kws⟩)) (.call (.ref fI) ⟨[.ref (h.objs.size + 1)], kws⟩) (W.InitBack (h.objs.size + 1) R) ⟨(h.push (W.kdv_tup [])).push (excO C h.objs.size), g, d, t, os⟩) :
    codeAny (model prog w) A (.call (.ref C) ⟨[], kws⟩) R ⟨h, g, d, t, os⟩ := by
  have look := tc_lookup
  have bnd := tc_bind (.ref C)
  have ty : (⟨h, g, d, t, os⟩ : Shared).TypeIs (.ref C) "type" := ⟨_, hC, rfl⟩
  refine codeAny_of_tree ?_
  show wpAny _ _ (callAny (.ref C) _) _ _ _
  repeat (any_goals (first | assumption | with_reducible refine wpAny_loadPart_at hC ?_ | wp_step))
  refine ⟨rfl, ?_⟩
  refine codeAny_call_builtin_at (Code.quiet_builtin _ (by decide +kernel)) entry_typeCall (wpAny_check_type_call_sub hC (kw_type_call F hT hC hi hb ?_))
  refine codeAny_mono hq fun r s' z => ?_
  rcases r with e | (v | _ | _ | _) <;> exact z
end
end PySem.HandSPX

end
section
set_option Elab.async false
set_option linter.all false
set_option maxRecDepth 100000
set_option autoImplicit false
set_option maxHeartbeats 4000000
/-! exceptions made by keyword, as values -/
namespace Mi
open PySem PySem.Spec PyProof.Rows L2
def tExK (C : Addr) (f : Str) (tk : TA) : TE := fun σ H Q => tk σ H fun zs H1 => ∃ y, zs = [y] ∧ ∀ a dx, H1 a = none → H1 dx = none → dx ≠ a → Q (.ref a) (upd (upd H1 dx (exd dx [(f, y)])) a (exo a C (some dx)))
theorem pe_exK {X : Cx} {kws : List Keyword} {tk : TA} {x f : Str} {p pos : Pos} {C fI : Addr} {k : Nat} {fd : FuncData} {ps : List Str} (T : OexC X.K C) (iC : PySem.W.findIn X.K (.ref C) "__init__" = some (some (.ref fI))) (tI : PySem.W.typeIn X.K (.ref fI) = some (.type "function"))
    (F1 : FnOk X.prog X.w X.K X.mg X.base (L2.CX X.prog X.w) k fI fd ps (spI C f)) (hr : Room (k + 1) X.A) (hb : KwB X.K fd ps 1 [f] [0, 1]) (hg : Gl X x) (hm : X.mg x = some (.ref C)) (hkw : PK X kws tk)
    (hall : (backToKw pos (keywordEach kws X.env)).all (·.1.isSome) = true := by rfl) (hks : (backToKw pos (keywordEach kws X.env)).filterMap (·.1) = [f] := by rfl) (hdb : (x == ("__debug__" : Str)) = false := by decide)
    (hpl : ((backTo pos (starEach [] X.env)).any (·.1) || (backToKw pos (keywordEach kws X.env)).any (·.1.isNone)) = false := by rfl) :
    PE X (.Call (.Name x p) [] kws pos) (tExK C f tk) := by
  refine ⟨fun pins s σ H Q I h => ?_⟩
  obtain ⟨nm, q, N, bs, bm, sn, sub, ab, col, dd, k0, k1, k2, k3, k5, hC, hbm⟩ := T.cls
  refine wpAny_Call_Name_kw (ld_glob I hg hm ?_ hdb)
  refine PySem.W.callWith_KW0 (h₀ := X.base) I.ok.mod.kin T.kC hall ?_ hpl
  refine thn (hkw.run pos pins s σ H _ I h) fun ws s1 ⟨zs, H1, I1, rz, y, ez, q1⟩ => ⟨I1.kIn, ?_⟩
  rw [hks]
  subst ez
  obtain ⟨hp, g, dr, tk, os⟩ := s1
  have hsz : hp.objs.size ≤ hp.objs.size + 1 := Nat.le_succ _
  have hn : H1 (hp.objs.size + 1) = none := I1.hok.fresh hsz
  have kk : ∀ b o, hp.get? b = some o → ((hp.push (PySem.W.kdv_tup [])).push (PySem.HandSPX.excO C hp.objs.size)).get? b = some o := fun b o e => Heap.get?_push_of_some _ (Heap.get?_push_of_some _ e)
  have hget : ((hp.push (PySem.W.kdv_tup [])).push (PySem.HandSPX.excO C hp.objs.size)).get? (hp.objs.size + 1) = some (PySem.HandSPX.excO C hp.objs.size) := by heap_get
  have I2 : Inv X pins σ (upd H1 (hp.objs.size + 1) (exo (hp.objs.size + 1) C none)) ⟨(hp.push (PySem.W.kdv_tup [])).push (PySem.HandSPX.excO C hp.objs.size), g, dr, tk, os⟩ :=
    I1.laid (t' := tk) (a := hp.objs.size + 1) (o := exo (hp.objs.size + 1) C none) (h' := (hp.push (PySem.W.kdv_tup [])).push (PySem.HandSPX.excO C hp.objs.size)) kk hsz (exo_ok hget)
  have r1 : RelV (V.ref (hp.objs.size + 1)) (Value.ref (hp.objs.size + 1)) := rfl
  have r2 : Vals (sel [0, 1] ([V.ref (hp.objs.size + 1)] ++ [y])) (sel [0, 1] ([Value.ref (hp.objs.size + 1)] ++ ws)) := sel_vals (Paired.cons r1 rz) _
  have hq : spI C f [V.ref (hp.objs.size + 1), y] (upd H1 (hp.objs.size + 1) (exo (hp.objs.size + 1) C none)) (fun v H2 => v = .non ∧ Q (.ref (hp.objs.size + 1)) H2) (fun _ _ _ => False) := by
    refine ⟨_, y, rfl, upd_same, fun dx n ne => ⟨rfl, ?_⟩⟩
    have n1 : H1 dx = none := by rwa [upd_ne ne] at n
    have eq : upd (upd (upd H1 (hp.objs.size + 1) (exo (hp.objs.size + 1) C none)) dx (exd dx [(f, y)])) (hp.objs.size + 1) (exo (hp.objs.size + 1) C (some dx)) = upd (upd H1 dx (exd dx [(f, y)])) (hp.objs.size + 1) (exo (hp.objs.size + 1) C (some dx)) := by
      funext z
      by_cases h1 : z = hp.objs.size + 1
      · rw [h1, upd_same, upd_same]
      · rw [upd_ne h1, upd_ne h1]
        by_cases h2 : z = dx
        · rw [h2, upd_same, upd_same]
        · rw [upd_ne h2, upd_ne h2, upd_ne h1]
    rw [eq]
    exact q1 _ dx hn n1 ne
  have hl : ws.length = [f].length := rz.length.symm
  refine wpAny_call (PySem.HandSPX.kw_call_own PySem.F.excBase_ValueError (fun Y => PySem.HandSPX.refsVE_contains Y bm hbm) (I1.kIn _ _ hC) (PySem.W.looks_findIn I1.kIn iC) (fun self => PySem.W.bind_fn I1.kIn self tI)
    (codeAny_mono (F1.run _ X.stack _ _ ⟨[Value.ref (hp.objs.size + 1)], [f].zip ws⟩ (sel [0, 1] ([Value.ref (hp.objs.size + 1)] ++ ws)) _ _ (fun _ _ _ => False) (hr.make C [] _) (I2.env0.make C [] _) (hb.to _ [Value.ref (hp.objs.size + 1)] ws I2.kIn rfl hl) r2 hq) fun r s' hq' => ?_))
  cases r with
  | error er => exact (passN (X := X)) pins σ _ _ er s' I2 hq'
  | ok fl =>
    cases fl with
    | ret u =>
      obtain ⟨v, H2, J, rv, ev, q2⟩ := I2.after hq'
      subst ev
      exact ⟨rv, .ref (hp.objs.size + 1), H2, J, rfl, q2⟩
    | next => exact False.elim hq'
    | brk => exact False.elim hq'
    | cont => exact False.elim hq'
/-- an exception class whose __init__ binds by keyword as well -/
structure ExIK (P : Program) (w : World) (K : PySem.W.Frag) (mg : Str → Option Value) (base : Heap) (cm : CM) (fld : Str → Str) (c : Str) : Prop where
  x : ExI P w K mg base cm fld c
  i : ∃ fI fd ps, PySem.W.findIn K (.ref (cm c)) "__init__" = some (some (.ref fI)) ∧ PySem.W.typeIn K (.ref fI) = some (.type "function") ∧ FnOk P w K mg base (L2.CX P w) 1 fI fd ps (spI (cm c) (fld c)) ∧ KwB K fd ps 1 [fld c] [0, 1]
theorem exik_mk {f : Str} {P : Program} {w : World} {K : PySem.W.Frag} {mg : Str → Option Value} {base : Heap} {cm : CM} {fld : Str → Str} {c qual t : Str} {st : Stmt} {fI : Addr} {fd : FuncData} {N : List Str} (k : ExK K mg cm fld c) (hf : fld c = f) (F : Fun K "__init__" qual st fI fd)
    (iC : PySem.W.findIn K (.ref (cm c)) "__init__" = some (some (.ref fI))) (tI : PySem.W.typeIn K (.ref fI) = some (.type "function")) (hb : Binds K fd N []) (hbk : KwB K fd N 1 [f] [0, 1]) (S : FnScope N N (defScope st)) (hN : N.length = 2)
    (hbody : ∀ (cdv : Value) (A : Around) (outer : List PySem.Env) (s : Shared) (H : Hp) (E : XK), PSs (cxOf (L2.CX P w) P w K mg base N qual (defScope st) fI cdv A outer s H E) (defBody st) (tSeq (tDrop (tVeI K (tCons (tVar 0) (tCons (tC (.str t)) tNil)))) (tOst K f (tVar 0) (tVar 1)))) :
    ExIK P w K mg base cm fld c := by
  subst hf
  exact ⟨exi_mk k rfl F iC tI hb S hN hbody, fI, fd, N, iC, tI, F.okX S (fun vs H Q E h => by
    obtain ⟨a, y, rfl, _⟩ := h
    exact hN.symm) (fun cdv A outer s H vs Q E hr h => ⟨_, hbody cdv A outer s H E, spI_run k.T k.no h hN⟩), hbk⟩
/-- c(f = e) as a value -/
theorem d_exK {X : Cx} {C : Sc} {O : List Nat} {a : Expr} {fa : Ex} {p pos kp : Pos} {c f : Str} {k : Nat} (x : ExIK X.prog X.w X.K X.mg X.base C.F.cm C.fld c) (hf : C.fld c = f) (hK : C.F.K = X.K) (hr : Room k X.A) (hk : 2 ≤ k) (ha : PE X a (tD C O fa)) (hg : Gl X c := by rfl) (hdb : (c == ("__debug__" : Str)) = false := by decide)
    (hall : (backToKw pos (keywordEach [⟨some f, a, kp⟩] X.env)).all (·.1.isSome) = true := by rfl) (hks : (backToKw pos (keywordEach [⟨some f, a, kp⟩] X.env)).filterMap (·.1) = [f] := by rfl)
    (hpl : ((backTo pos (starEach [] X.env)).any (·.1) || (backToKw pos (keywordEach [⟨some f, a, kp⟩] X.env)).any (·.1.isNone)) = false := by rfl) : PE X (.Call (.Name c p) [] [⟨some f, a, kp⟩] pos) (tD C O (eExn c f fa)) := by
  subst hf
  obtain ⟨fI, fd, ps, iC, tI, F, hb⟩ := x.i
  refine pe_imp (pe_exK x.x.k.T iC tI F (hr.mono hk) hb hg x.x.k.m (pk_cons ha pk_nil) hall hks hdb hpl) fun σ H Q ⟨G, δ, st, m⟩ => ?_
  refine ⟨G, δ, st, ?_⟩
  unfold eExn at m
  cases e : fa δ with
  | exc c d δ' => rw [e] at m; exact m
  | bad => rw [e] at m; exact m
  | ok d δ1 =>
    rw [e, Res.bind_ok] at m
    intro v G1 H1 s1 st1 rv
    refine ⟨v, rfl, fun q dx n1 n2 ne => ?_⟩
    have e1 := Ext.push (T := C.F.cm.T) (o := exd dx [(C.fld c, v)]) st1.gh n2
    have st2 := st1.step e1
    have n3 : upd H1 dx (exd dx [(C.fld c, v)]) q = none := by rw [upd_ne (fun z => ne z.symm)]; exact n1
    have e2 := Ext.push (T := C.F.cm.T) (o := exo q (C.F.cm c) (some dx)) st2.gh n3
    refine m (.ref q) _ _ ((s1.and e1).and e2) (st2.step e2) (.exn upd_same ?_ ((rv.mono e1.g).mono e2.g))
    rw [upd_ne ne, upd_same]
end Mi

end
section
set_option Elab.async false
set_option linter.all false
set_option maxRecDepth 100000
set_option autoImplicit false
set_option maxHeartbeats 4000000
/-! isinstance(ValueError('m'), C) -/
namespace Mi
open PySem PySem.Spec PyProof.Rows L2
theorem pe_veV {X : Cx} {e : Expr} {te : TE} {p pos : Pos} (hg : Gl X "ValueError") (hm : X.mg "ValueError" = none) (ha : PE X e te)
    (he : starEach [e] X.env = (false, eval e X.env) :: starEach [] X.env := by rfl) (hpl : (backTo pos (starEach [] X.env)).any (·.1) = false := by rfl) :
    PE X (.Call (.Name "ValueError" p) [e] [] pos) (fun σ H Q => te σ H fun _ H1 => ∀ a, H1 a = none → Q (.ref a) (upd H1 a (ExO (.type "ValueError") a))) := by
  refine ⟨fun pins s σ H Q J h => ?_⟩
  refine wpAny_Call_Name_kw (ld_blt J hg hm boot_ValueError ?_ (by decide) (by decide))
  have hA : PA X [e] (tCons te tNil) := pa_cons ha pa_nil he
  refine PyProof.Rows.callWith_type1 (thn (hA.run pos pins s σ H (fun vs H1 => match vs with | [y] => ∀ a, H1 a = none → Q (.ref a) (upd H1 a (ExO (.type "ValueError") a)) | _ => False) J h) fun us s1 ⟨vs, H1, I1, r1, q1⟩ => ?_) he hpl
  obtain ⟨y, ev⟩ : ∃ y, vs = [y] := by
    rcases vs with _ | ⟨y, _ | ⟨z, vs⟩⟩
    · exact q1.elim
    · exact ⟨y, rfl⟩
    · exact q1.elim
  subst ev
  obtain ⟨hp1, g1, d1, tk1, os1⟩ := s1
  have hl : us.length ≤ sizeLine := by
    have := r1.length
    rw [← this, sizeLine_eq]
    simp
  refine wpAny_call_exc exb_ValueError.call (fun h' a mk => ?_) hl
  have hn : H1 a = none := I1.hok.gone mk.new
  obtain ⟨t, ht, _, _⟩ := mk.there
  exact ⟨.ref a, upd H1 a (ExO (.type "ValueError") a), I1.laidN (t' := tk1) mk.keeps mk.new hn (exO_ok ht ⟨rfl, rfl⟩ rfl rfl rfl (show 4 < 6 by decide)), rfl, q1 a hn⟩
/-- isinstance(e, c), e a new ValueError -/
def rIsB (K : PySem.W.Frag) : List V → Hp → VK → Prop := fun xs H Q => ∃ (a : Addr) (c : V) (cv : Value) (b : Bool), xs = [.ref a, c] ∧ H a = some (ExO (.type "ValueError") a) ∧ ClsV c cv ∧ PySem.W.kitOne K (.type "ValueError") cv = some b ∧ Q (.bl b) H
theorem call_isB {X : Cx} : CallR X (.builtin "isinstance") (rIsB X.K) := by
  intro pins s σ H xs us Q I r h
  obtain ⟨a, c, cv, b, rfl, ha, hcv, e, q⟩ := h
  obtain ⟨u1, u2, rfl, r1, r2⟩ := vals2 r
  cases (show u1 = Value.ref a from r1)
  have e2 := hcv.eq r2
  subst e2
  obtain ⟨⟨oe, vs, ho, hz, _⟩, _, _⟩ := I.hok a _ ha
  exact PySem.W.kia_one (PySem.W.kitx_bexc PySem.F.excAttr_ValueError PySem.F.lkClass_ValueError PySem.F.soClass_ValueError (by decide +kernel)) I.kIn ⟨oe, ho, hz.1⟩ e (fun z => nomatch z) fun tk => ⟨.bl b, H, I.tok tk, rfl, q⟩
section
variable {X : Cx} {C : Sc} {O : List Nat} {e : Expr}
theorem b_isB {b : Bool} {m : Str} {cv : V} {cu : Value} (hv : ClsV cv cu) (hk : PySem.W.kitOne C.F.K (.type "ValueError") cu = some b)
    (hp : PE X e (tCB (rIsB C.F.K) (tCons (fun σ H Q => (tC (.str m)) σ H fun _ H1 => ∀ a, H1 a = none → Q (.ref a) (upd H1 a (ExO (.type "ValueError") a))) (tCons (tC cv) tNil)))) : PE X e (tD C O (eC (.bl b))) := pe_imp hp fun σ H Q ⟨G, δ, st, m⟩ => by
  intro a n
  have e1 := Ext.push (T := C.F.cm.T) (o := ExO (.type "ValueError") a) st.gh n
  exact ⟨a, cv, cu, b, rfl, upd_same, hv, hk, m (.bl b) _ _ ((Ext.refl st.gh).and e1) (st.step e1) (.bl b)⟩
end
end Mi

end
section
set_option Elab.async false
set_option linter.all false
set_option maxRecDepth 100000
set_option autoImplicit false
set_option maxHeartbeats 4000000
/-! isinstance over the exception classes, by tables -/
namespace Mi
open PySem PySem.Spec PyProof.Rows L2
theorem kit_ref {K : PySem.W.Frag} {C : Addr} {t : Value} {b : Bool} (hd : PySem.W.hasDictIn K C = true) (ht : PySem.W.typeIn K (.ref C) = some (.type "type")) (hm : PySem.W.subIn K (.ref C) (.ref C) = some true) (hs : PySem.W.subIn K t (.ref C) = some b) : PySem.W.kitOne K t (.ref C) = some b := by
  unfold PySem.W.kitOne
  by_cases e : (t == Value.ref C) = true
  · rw [if_pos e]
    obtain rfl : t = Value.ref C := beq_iff_eq.mp e
    rw [hm] at hs
    exact hs
  · rw [if_neg e]
    show (if ((PySem.W.clsIn K C).isSome && PySem.W.typeIn K (.ref C) == some (.type "type")) = true then PySem.W.subIn K t (.ref C) else none) = some b
    obtain ⟨cd, hc, _⟩ := PySem.W.any_some hd
    rw [if_pos (by rw [hc, ht]; simp)]
    exact hs
theorem kit_typ {K : PySem.W.Frag} {D : Addr} {T : String} {b : Bool} (hk : PySem.W.kitMeta T = true) (hs : PySem.W.subIn K (.ref D) (.type T) = some b) : PySem.W.kitOne K (.ref D) (.type T) = some b := by
  unfold PySem.W.kitOne
  rw [if_neg (by intro e; have := beq_iff_eq.mp e; cases this)]
  show (if PySem.W.kitMeta T = true then PySem.W.subIn K (.ref D) (.type T) else none) = some b
  rw [if_pos hk]
  exact hs
def anF (t : List (Str × Bool)) (c : Str) : Option Bool := t.lookup c
theorem an_nil {P : Str → Bool → Prop} : ∀ c b, anF [] c = some b → P c b := fun _ _ h => by cases h
theorem an_cons {P : Str → Bool → Prop} {a : Str} {b : Bool} {t : List (Str × Bool)} (h : P a b) (r : ∀ c b, anF t c = some b → P c b) : ∀ c b', anF ((a, b) :: t) c = some b' → P c b' := fun c b' e => by
  unfold anF at e
  rw [List.lookup_cons] at e
  by_cases q : (c == a) = true
  · rw [q] at e
    cases e
    rw [beq_iff_eq.mp q]
    exact h
  · rw [Bool.not_eq_true] at q
    rw [q] at e
    exact r c b' e
theorem al_nil {P : Str → Prop} : ∀ c ∈ ([] : List Str), P c := fun _ h => by cases h
theorem al_cons {P : Str → Prop} {a : Str} {t : List Str} (h : P a) (r : ∀ c ∈ t, P c) : ∀ c ∈ a :: t, P c := fun c hc => by
  rcases List.mem_cons.mp hc with e | e
  · rw [e]; exact h
  · exact r c e
end Mi

end
section
set_option Elab.async false
set_option linter.all false
set_option maxRecDepth 100000
set_option autoImplicit false
set_option maxHeartbeats 4000000
/-! a new list times a number -/
namespace Mi
open PySem PySem.Spec PyProof.Rows L2
noncomputable def repD : D → D → Option D
  | .lst xs, .int k => if -100000 ≤ k ∧ k ≤ 100000 ∧ xs.length * k.toNat ≤ cap then some (.lst (List.replicate k.toNat xs).flatten) else none
  | _, _ => none
theorem Rps.rep {K : PySem.W.Frag} {cm : CM} {G : Hp} {vs : List V} {ds : List D} (r : Rps K cm G vs ds) : ∀ n : Nat, Rps K cm G (List.replicate n vs).flatten (List.replicate n ds).flatten
  | 0 => .nil
  | n + 1 => by
    rw [List.replicate_succ, List.replicate_succ, List.flatten_cons, List.flatten_cons]
    exact r.app (r.rep n)
section
variable {X : Cx} {C : Sc} {O : List Nat} {a b : Expr} {fa fb : Ex} {pos : Pos}
theorem n_rep (ha : PE X a (tN C O fa)) (hb : PE X b (tD C O fb)) : PE X (.BinOp a .Mult b pos) (tN C O (e2 repD fa fb)) := pe_imp (pe_op op_rep ha hb) fun σ H Q ⟨G, δ, st, m⟩ => by
  refine ⟨G, δ, st, ?_⟩
  unfold e2 at m
  cases e : fa δ with
  | exc c d δ' => rw [e] at m; exact m
  | bad => rw [e] at m; exact m
  | ok d δ1 =>
    rw [e, Res.bind_ok] at m
    intro p G1 H1 s1 st1 nn hp o
    obtain ⟨_, _, nf, no⟩ := fresh_facts (u := .own p) st hp
    refine ⟨G1, δ1, st1, ?_⟩
    cases eb : fb δ1 with
    | exc c d δ' => rw [eb] at m; exact m
    | bad => rw [eb] at m; exact m
    | ok d2 δ2 =>
      rw [eb, Res.bind_ok] at m
      intro w G2 H2 s2 st2 rw2
      have nS : p ∉ ownS O σ := fun z => by
        obtain ⟨i, hi, e⟩ := mem_ownS.mp z
        exact no i hi e
      cases d with
      | lst xs =>
        cases d2 with
        | int k =>
          have m : (match (Res.opt (if -100000 ≤ k ∧ k ≤ 100000 ∧ xs.length * k.toNat ≤ cap then some (D.lst (List.replicate k.toNat xs).flatten) else none) δ2) with | .ok d δ' => _ | .exc c d δ' => _ | .bad => False) := m
          by_cases hk : -100000 ≤ k ∧ k ≤ 100000 ∧ xs.length * k.toNat ≤ cap
          case neg => rw [if_neg hk] at m; exact m.elim
          rw [if_pos hk] at m
          cases rw2
          obtain ⟨vs, hv, rv⟩ := o
          have hv2 : H2 p = some (.lst vs) := s2.keep p _ hv nS (nc_lst (a := p)).1
          refine ⟨p, k, vs, rfl, rfl, hv2, by omega, by omega, by rw [rv.length]; exact Nat.le_trans hk.2.2 cap_le, fun q nq => ?_⟩
          have o2 : OwnAt C.F.K C.F.cm G2 (upd H2 q (.lst (List.replicate k.toNat vs).flatten)) q (.lst (List.replicate k.toNat xs).flatten) := ⟨_, upd_same, (rv.mono s2.g).rep k.toNat⟩
          obtain ⟨f1, f2, f3, f4⟩ := fresh_facts (u := .lst (List.replicate k.toNat vs).flatten) st2 nq
          exact m q G2 _ ((s1.thn s2).and (Ext.fresh st2.gh nq)) f1 f2 ((s1.thn s2).back nq) o2
        | _ => exact m.elim
      | _ => exact m.elim
end
end Mi

end
section
set_option Elab.async false
set_option linter.all false
set_option maxRecDepth 100000
set_option autoImplicit false
set_option maxHeartbeats 4000000
namespace Mi
open PySem PySem.Spec PyProof.Rows L2
def top (i : Nat) : Stmt := PySem.Challenge.pw_reslot_k19_exceptions.main.body.getD i (.Pass ⟨0, 0, 0, 0⟩)
/-- what the top has left: the builtins are still theirs, the constants -/
def xc_appointment : List Str := ["NoAppointment"]
def xc_index : List Str := ["NoBook", "NoTimetable", "NoMove", "NoCertificate", "NoCosts"]
def xc_key : List Str := ["NoWish"]
def xc_most : List Str := ["TooMany"]
def xc_slot : List Str := ["NoSlot", "NotAllowed"]
def xc_slots : List Str := ["Frozen"]
def an_Frozen : List (Str × Bool) := [("NoBook", false), ("NoTimetable", false), ("NoMove", false), ("NoSlot", false), ("NoAppointment", false), ("Frozen", true), ("NoCertificate", false), ("TooMany", false), ("NotAllowed", false), ("NoWish", false), ("NoCosts", false)]
def an_NoAppointment : List (Str × Bool) := [("NoBook", false), ("NoTimetable", false), ("NoMove", false), ("NoSlot", false), ("NoAppointment", true), ("Frozen", false), ("NoCertificate", false), ("TooMany", false), ("NotAllowed", false), ("NoWish", false), ("NoCosts", false)]
def an_NoBook : List (Str × Bool) := [("NoBook", true), ("NoTimetable", false), ("NoMove", false), ("NoSlot", false), ("NoAppointment", false), ("Frozen", false), ("NoCertificate", false), ("TooMany", false), ("NotAllowed", false), ("NoWish", false), ("NoCosts", false)]
def an_NoCertificate : List (Str × Bool) := [("NoBook", false), ("NoTimetable", false), ("NoMove", false), ("NoSlot", false), ("NoAppointment", false), ("Frozen", false), ("NoCertificate", true), ("TooMany", false), ("NotAllowed", false), ("NoWish", false), ("NoCosts", false)]
def an_NoCosts : List (Str × Bool) := [("NoBook", false), ("NoTimetable", false), ("NoMove", false), ("NoSlot", false), ("NoAppointment", false), ("Frozen", false), ("NoCertificate", false), ("TooMany", false), ("NotAllowed", false), ("NoWish", false), ("NoCosts", true)]
def an_NoMove : List (Str × Bool) := [("NoBook", false), ("NoTimetable", false), ("NoMove", true), ("NoSlot", false), ("NoAppointment", false), ("Frozen", false), ("NoCertificate", false), ("TooMany", false), ("NotAllowed", false), ("NoWish", false), ("NoCosts", false)]
def an_NoSlot : List (Str × Bool) := [("NoBook", false), ("NoTimetable", false), ("NoMove", false), ("NoSlot", true), ("NoAppointment", false), ("Frozen", false), ("NoCertificate", false), ("TooMany", false), ("NotAllowed", false), ("NoWish", false), ("NoCosts", false)]
def an_NoTimetable : List (Str × Bool) := [("NoBook", false), ("NoTimetable", true), ("NoMove", false), ("NoSlot", false), ("NoAppointment", false), ("Frozen", false), ("NoCertificate", false), ("TooMany", false), ("NotAllowed", false), ("NoWish", false), ("NoCosts", false)]
def an_NoWish : List (Str × Bool) := [("NoBook", false), ("NoTimetable", false), ("NoMove", false), ("NoSlot", false), ("NoAppointment", false), ("Frozen", false), ("NoCertificate", false), ("TooMany", false), ("NotAllowed", false), ("NoWish", true), ("NoCosts", false)]
def an_NotAllowed : List (Str × Bool) := [("NoBook", false), ("NoTimetable", false), ("NoMove", false), ("NoSlot", false), ("NoAppointment", false), ("Frozen", false), ("NoCertificate", false), ("TooMany", false), ("NotAllowed", true), ("NoWish", false), ("NoCosts", false)]
def an_SlotError : List (Str × Bool) := [("NoBook", true), ("NoTimetable", true), ("NoMove", true), ("NoSlot", true), ("NoAppointment", true), ("Frozen", true), ("NoCertificate", true), ("TooMany", true), ("NotAllowed", true), ("NoWish", true), ("NoCosts", true)]
def an_TooMany : List (Str × Bool) := [("NoBook", false), ("NoTimetable", false), ("NoMove", false), ("NoSlot", false), ("NoAppointment", false), ("Frozen", false), ("NoCertificate", false), ("TooMany", true), ("NotAllowed", false), ("NoWish", false), ("NoCosts", false)]
def an_ValueError : List (Str × Bool) := [("NoBook", true), ("NoTimetable", true), ("NoMove", true), ("NoSlot", true), ("NoAppointment", true), ("Frozen", true), ("NoCertificate", true), ("TooMany", true), ("NotAllowed", true), ("NoWish", true), ("NoCosts", true)]
structure Tx (K : PySem.W.Frag) (mg : Str → Option Value) (cm : CM) (fld : Str → Str) : Prop where
  n_ValueError : mg "ValueError" = none
  n_enumerate : mg "enumerate" = none
  n_int : mg "int" = none
  n_isinstance : mg "isinstance" = none
  n_range : mg "range" = none
  f_NoBook : fld "NoBook" = "index"
  no_NoBook : PySem.W.findIn K (.ref (cm "NoBook")) "index" = some none
  em_NoBook : PySem.W.exmOne K (.ref (cm "NoBook")) (.ref (cm "NoBook")) = some true
  f_NoTimetable : fld "NoTimetable" = "index"
  no_NoTimetable : PySem.W.findIn K (.ref (cm "NoTimetable")) "index" = some none
  em_NoTimetable : PySem.W.exmOne K (.ref (cm "NoTimetable")) (.ref (cm "NoTimetable")) = some true
  f_NoMove : fld "NoMove" = "index"
  no_NoMove : PySem.W.findIn K (.ref (cm "NoMove")) "index" = some none
  em_NoMove : PySem.W.exmOne K (.ref (cm "NoMove")) (.ref (cm "NoMove")) = some true
  f_NoSlot : fld "NoSlot" = "slot"
  no_NoSlot : PySem.W.findIn K (.ref (cm "NoSlot")) "slot" = some none
  em_NoSlot : PySem.W.exmOne K (.ref (cm "NoSlot")) (.ref (cm "NoSlot")) = some true
  f_NoAppointment : fld "NoAppointment" = "appointment"
  no_NoAppointment : PySem.W.findIn K (.ref (cm "NoAppointment")) "appointment" = some none
  em_NoAppointment : PySem.W.exmOne K (.ref (cm "NoAppointment")) (.ref (cm "NoAppointment")) = some true
  f_Frozen : fld "Frozen" = "slots"
  no_Frozen : PySem.W.findIn K (.ref (cm "Frozen")) "slots" = some none
  em_Frozen : PySem.W.exmOne K (.ref (cm "Frozen")) (.ref (cm "Frozen")) = some true
  f_NoCertificate : fld "NoCertificate" = "index"
  no_NoCertificate : PySem.W.findIn K (.ref (cm "NoCertificate")) "index" = some none
  em_NoCertificate : PySem.W.exmOne K (.ref (cm "NoCertificate")) (.ref (cm "NoCertificate")) = some true
  f_TooMany : fld "TooMany" = "most"
  no_TooMany : PySem.W.findIn K (.ref (cm "TooMany")) "most" = some none
  em_TooMany : PySem.W.exmOne K (.ref (cm "TooMany")) (.ref (cm "TooMany")) = some true
  f_NotAllowed : fld "NotAllowed" = "slot"
  no_NotAllowed : PySem.W.findIn K (.ref (cm "NotAllowed")) "slot" = some none
  em_NotAllowed : PySem.W.exmOne K (.ref (cm "NotAllowed")) (.ref (cm "NotAllowed")) = some true
  f_NoWish : fld "NoWish" = "key"
  no_NoWish : PySem.W.findIn K (.ref (cm "NoWish")) "key" = some none
  em_NoWish : PySem.W.exmOne K (.ref (cm "NoWish")) (.ref (cm "NoWish")) = some true
  f_NoCosts : fld "NoCosts" = "index"
  no_NoCosts : PySem.W.findIn K (.ref (cm "NoCosts")) "index" = some none
  em_NoCosts : PySem.W.exmOne K (.ref (cm "NoCosts")) (.ref (cm "NoCosts")) = some true
  xv_appointment : ∀ c ∈ xc_appointment, XfC K (cm c) ∧ PySem.W.findIn K (.ref (cm c)) "appointment" = some none
  xv_index : ∀ c ∈ xc_index, XfC K (cm c) ∧ PySem.W.findIn K (.ref (cm c)) "index" = some none
  xv_key : ∀ c ∈ xc_key, XfC K (cm c) ∧ PySem.W.findIn K (.ref (cm c)) "key" = some none
  xv_most : ∀ c ∈ xc_most, XfC K (cm c) ∧ PySem.W.findIn K (.ref (cm c)) "most" = some none
  xv_slot : ∀ c ∈ xc_slot, XfC K (cm c) ∧ PySem.W.findIn K (.ref (cm c)) "slot" = some none
  xv_slots : ∀ c ∈ xc_slots, XfC K (cm c) ∧ PySem.W.findIn K (.ref (cm c)) "slots" = some none
  is_Frozen : ∀ c b, anF an_Frozen c = some b → ExcC K (cm c) ∧ PySem.W.kitOne K (.ref (cm c)) (.ref (cm "Frozen")) = some b
  m_Frozen : mg "Frozen" = some (.ref (cm "Frozen"))
  is_NoAppointment : ∀ c b, anF an_NoAppointment c = some b → ExcC K (cm c) ∧ PySem.W.kitOne K (.ref (cm c)) (.ref (cm "NoAppointment")) = some b
  m_NoAppointment : mg "NoAppointment" = some (.ref (cm "NoAppointment"))
  is_NoBook : ∀ c b, anF an_NoBook c = some b → ExcC K (cm c) ∧ PySem.W.kitOne K (.ref (cm c)) (.ref (cm "NoBook")) = some b
  m_NoBook : mg "NoBook" = some (.ref (cm "NoBook"))
  is_NoCertificate : ∀ c b, anF an_NoCertificate c = some b → ExcC K (cm c) ∧ PySem.W.kitOne K (.ref (cm c)) (.ref (cm "NoCertificate")) = some b
  m_NoCertificate : mg "NoCertificate" = some (.ref (cm "NoCertificate"))
  is_NoCosts : ∀ c b, anF an_NoCosts c = some b → ExcC K (cm c) ∧ PySem.W.kitOne K (.ref (cm c)) (.ref (cm "NoCosts")) = some b
  m_NoCosts : mg "NoCosts" = some (.ref (cm "NoCosts"))
  is_NoMove : ∀ c b, anF an_NoMove c = some b → ExcC K (cm c) ∧ PySem.W.kitOne K (.ref (cm c)) (.ref (cm "NoMove")) = some b
  m_NoMove : mg "NoMove" = some (.ref (cm "NoMove"))
  is_NoSlot : ∀ c b, anF an_NoSlot c = some b → ExcC K (cm c) ∧ PySem.W.kitOne K (.ref (cm c)) (.ref (cm "NoSlot")) = some b
  m_NoSlot : mg "NoSlot" = some (.ref (cm "NoSlot"))
  is_NoTimetable : ∀ c b, anF an_NoTimetable c = some b → ExcC K (cm c) ∧ PySem.W.kitOne K (.ref (cm c)) (.ref (cm "NoTimetable")) = some b
  m_NoTimetable : mg "NoTimetable" = some (.ref (cm "NoTimetable"))
  is_NoWish : ∀ c b, anF an_NoWish c = some b → ExcC K (cm c) ∧ PySem.W.kitOne K (.ref (cm c)) (.ref (cm "NoWish")) = some b
  m_NoWish : mg "NoWish" = some (.ref (cm "NoWish"))
  is_NotAllowed : ∀ c b, anF an_NotAllowed c = some b → ExcC K (cm c) ∧ PySem.W.kitOne K (.ref (cm c)) (.ref (cm "NotAllowed")) = some b
  m_NotAllowed : mg "NotAllowed" = some (.ref (cm "NotAllowed"))
  is_SlotError : ∀ c b, anF an_SlotError c = some b → ExcC K (cm c) ∧ PySem.W.kitOne K (.ref (cm c)) (.ref (cm "SlotError")) = some b
  m_SlotError : mg "SlotError" = some (.ref (cm "SlotError"))
  is_TooMany : ∀ c b, anF an_TooMany c = some b → ExcC K (cm c) ∧ PySem.W.kitOne K (.ref (cm c)) (.ref (cm "TooMany")) = some b
  m_TooMany : mg "TooMany" = some (.ref (cm "TooMany"))
  is_ValueError : ∀ c b, anF an_ValueError c = some b → ExcC K (cm c) ∧ PySem.W.kitOne K (.ref (cm c)) (.type "ValueError") = some b
  kB_SlotError : PySem.W.kitOne K (.type "ValueError") (.ref (cm "SlotError")) = some false
  sb : SBase K mg "SlotError" (cm "SlotError")
section
variable {P : Program} {w : World} {K : PySem.W.Frag} {mg : Str → Option Value} {base : Heap} {cm : CM} {fld : Str → Str}
/-! _law_fields -/
abbrev st_law_fields : Stmt := top 18
noncomputable def m_law_fields : Sm := (sSeq (sAsg (.n 1) (eLst [(e1 (xvD "index" xc_index) (e2 idxD (eV 0) (eC (.int 0)))), (e1 (xvD "index" xc_index) (e2 idxD (eV 0) (eC (.int 1)))), (e1 (xvD "index" xc_index) (e2 idxD (eV 0) (eC (.int 2)))), (e1 (xvD "slot" xc_slot) (e2 idxD (eV 0) (eC (.int 3)))), (e1 (xvD "appointment" xc_appointment) (e2 idxD (eV 0) (eC (.int 4))))])) (sSeq (sAsg (.n 1) (e2 addD (eV 1) (eLst [(e1 (xvD "slots" xc_slots) (e2 idxD (eV 0) (eC (.int 5)))), (e1 (xvD "index" xc_index) (e2 idxD (eV 0) (eC (.int 6)))), (e1 (xvD "most" xc_most) (e2 idxD (eV 0) (eC (.int 7)))), (e1 (xvD "slot" xc_slot) (e2 idxD (eV 0) (eC (.int 8))))]))) (sRet (e2 addD (eV 1) (eLst [(e1 (xvD "key" xc_key) (e2 idxD (eV 0) (eC (.int 9)))), (e1 (xvD "index" xc_index) (e2 idxD (eV 0) (eC (.int 10))))])))))
noncomputable def f_law_fields : List D → Fr := hide (fnM 2 1 [] m_law_fields)
theorem d_law_fields : f_law_fields = fnM 2 1 [] m_law_fields := hide_eq _
theorem e_law_fields {ds : List D} {r : Fr} (hl : ds.length = 1) (h : FEnd [] (fun x => x = r) (m_law_fields (startE 2 ds))) : f_law_fields ds = r := by rw [d_law_fields]; exact fn_run (Q := fun x => x = r) hl h
theorem sc_law_fields : FnScope ["some", "found"] ["some"] (defScope st_law_fields) := ⟨rfl, rfl, rfl, by decide +kernel, rfl, by decide +kernel, by decide +kernel⟩
theorem k_law_fields (T : Tx K mg cm fld)  {g : Addr} {fd : FuncData} (F : Fun K "_law_fields" "_law_fields" st_law_fields g fd) (hm : mg "_law_fields" = some (.ref g)) (hb : Binds K fd ["some"] []) : Cal P w K mg base cm fld "_law_fields" 1 1 [] f_law_fields :=
  d_law_fields ▸ cal_mk (k := 0) F hm hb sc_law_fields rfl rfl (by decide) [] (fun cdv cd A outer s H G E as hr => by exact (s_seq (s_asg (ps_set (i := 1) sc_law_fields.nd rfl (by first | exact Or.inl rfl | exact Or.inr rfl) (kn (n_lst (a_cons (pa_cons (d_xv (cs := xc_index) rfl T.xv_index (d_2 a_idxD (pe_ix ix_seq (d_v (pv 0) (by decide)) (wk d_int) fun _ _ => rfl))) (a_cons (pa_cons (d_xv (cs := xc_index) rfl T.xv_index (d_2 a_idxD (pe_ix ix_seq (d_v (pv 0) (by decide)) (wk d_int) fun _ _ => rfl))) (a_cons (pa_cons (d_xv (cs := xc_index) rfl T.xv_index (d_2 a_idxD (pe_ix ix_seq (d_v (pv 0) (by decide)) (wk d_int) fun _ _ => rfl))) (a_cons (pa_cons (d_xv (cs := xc_slot) rfl T.xv_slot (d_2 a_idxD (pe_ix ix_seq (d_v (pv 0) (by decide)) (wk d_int) fun _ _ => rfl))) (a_cons (pa_cons (d_xv (cs := xc_appointment) rfl T.xv_appointment (d_2 a_idxD (pe_ix ix_seq (d_v (pv 0) (by decide)) (wk d_int) fun _ _ => rfl))) a_nil))))))))))))) (gt_n (by decide))) (s_seq (s_asg (ps_set (i := 1) sc_law_fields.nd rfl (by first | exact Or.inl rfl | exact Or.inr rfl) (d_2 a_addD (pe_op op_addD (d_v (pv 1) (by decide)) (wk (kn (n_lst (a_cons (pa_cons (d_xv (cs := xc_slots) rfl T.xv_slots (d_2 a_idxD (pe_ix ix_seq (d_v (pv 0) (by decide)) (wk d_int) fun _ _ => rfl))) (a_cons (pa_cons (d_xv (cs := xc_index) rfl T.xv_index (d_2 a_idxD (pe_ix ix_seq (d_v (pv 0) (by decide)) (wk d_int) fun _ _ => rfl))) (a_cons (pa_cons (d_xv (cs := xc_most) rfl T.xv_most (d_2 a_idxD (pe_ix ix_seq (d_v (pv 0) (by decide)) (wk d_int) fun _ _ => rfl))) (a_cons (pa_cons (d_xv (cs := xc_slot) rfl T.xv_slot (d_2 a_idxD (pe_ix ix_seq (d_v (pv 0) (by decide)) (wk d_int) fun _ _ => rfl))) a_nil)))))))))))))) (gt_n (by decide))) (s_one (s_ret (d_2 a_addD (pe_op op_addD (d_v (pv 1) (by decide)) (wk (kn (n_lst (a_cons (pa_cons (d_xv (cs := xc_key) rfl T.xv_key (d_2 a_idxD (pe_ix ix_seq (d_v (pv 0) (by decide)) (wk d_int) fun _ _ => rfl))) (a_cons (pa_cons (d_xv (cs := xc_index) rfl T.xv_index (d_2 a_idxD (pe_ix ix_seq (d_v (pv 0) (by decide)) (wk d_int) fun _ _ => rfl))) a_nil))))))))))))))
/-! NoTimetable.__init__ -/
abbrev st_NoTimetable_init : Stmt := inClass (top 3) 0
theorem sc_NoTimetable_init : FnScope ["self", "index"] ["self", "index"] (defScope st_NoTimetable_init) := ⟨rfl, rfl, rfl, by decide +kernel, rfl, by decide +kernel, by decide +kernel⟩
theorem k_NoTimetable_init (T : Tx K mg cm fld) {g : Addr} {fd : FuncData} (k : ExK K mg cm fld "NoTimetable") (F : Fun K "__init__" "NoTimetable.__init__" st_NoTimetable_init g fd) (iC : PySem.W.findIn K (.ref (cm "NoTimetable")) "__init__" = some (some (.ref g))) (tI : PySem.W.typeIn K (.ref g) = some (.type "function")) (hb : Binds K fd ["self", "index"] []) : ExI P w K mg base cm fld "NoTimetable" :=
  exi_mk (t := "invalid timetable") k T.f_NoTimetable F iC tI hb sc_NoTimetable_init rfl (fun cdv A outer s H E => by exact pss_cons (ps_expr (pe_sinit T.sb (by rfl) (pa_cons (pv 0) (pa_cons pe_str pa_nil)))) (pss_one (ps_ost (pv 0) (pv 1))))
theorem kk_NoTimetable_init (T : Tx K mg cm fld) {g : Addr} {fd : FuncData} (k : ExK K mg cm fld "NoTimetable") (F : Fun K "__init__" "NoTimetable.__init__" st_NoTimetable_init g fd) (iC : PySem.W.findIn K (.ref (cm "NoTimetable")) "__init__" = some (some (.ref g))) (tI : PySem.W.typeIn K (.ref g) = some (.type "function")) (hb : Binds K fd ["self", "index"] []) (hbk : KwB K fd ["self", "index"] 1 ["index"] [0, 1]) : ExIK P w K mg base cm fld "NoTimetable" :=
  exik_mk (t := "invalid timetable") k T.f_NoTimetable F iC tI hb hbk sc_NoTimetable_init rfl (fun cdv A outer s H E => by exact pss_cons (ps_expr (pe_sinit T.sb (by rfl) (pa_cons (pv 0) (pa_cons pe_str pa_nil)))) (pss_one (ps_ost (pv 0) (pv 1))))
/-! TooMany.__init__ -/
abbrev st_TooMany_init : Stmt := inClass (top 9) 0
theorem sc_TooMany_init : FnScope ["self", "most"] ["self", "most"] (defScope st_TooMany_init) := ⟨rfl, rfl, rfl, by decide +kernel, rfl, by decide +kernel, by decide +kernel⟩
theorem k_TooMany_init (T : Tx K mg cm fld) {g : Addr} {fd : FuncData} (k : ExK K mg cm fld "TooMany") (F : Fun K "__init__" "TooMany.__init__" st_TooMany_init g fd) (iC : PySem.W.findIn K (.ref (cm "TooMany")) "__init__" = some (some (.ref g))) (tI : PySem.W.typeIn K (.ref g) = some (.type "function")) (hb : Binds K fd ["self", "most"] []) : ExI P w K mg base cm fld "TooMany" :=
  exi_mk (t := "too many results") k T.f_TooMany F iC tI hb sc_TooMany_init rfl (fun cdv A outer s H E => by exact pss_cons (ps_expr (pe_sinit T.sb (by rfl) (pa_cons (pv 0) (pa_cons pe_str pa_nil)))) (pss_one (ps_ost (pv 0) (pv 1))))
theorem kk_TooMany_init (T : Tx K mg cm fld) {g : Addr} {fd : FuncData} (k : ExK K mg cm fld "TooMany") (F : Fun K "__init__" "TooMany.__init__" st_TooMany_init g fd) (iC : PySem.W.findIn K (.ref (cm "TooMany")) "__init__" = some (some (.ref g))) (tI : PySem.W.typeIn K (.ref g) = some (.type "function")) (hb : Binds K fd ["self", "most"] []) (hbk : KwB K fd ["self", "most"] 1 ["most"] [0, 1]) : ExIK P w K mg base cm fld "TooMany" :=
  exik_mk (t := "too many results") k T.f_TooMany F iC tI hb hbk sc_TooMany_init rfl (fun cdv A outer s H E => by exact pss_cons (ps_expr (pe_sinit T.sb (by rfl) (pa_cons (pv 0) (pa_cons pe_str pa_nil)))) (pss_one (ps_ost (pv 0) (pv 1))))
/-! NoSlot.__init__ -/
abbrev st_NoSlot_init : Stmt := inClass (top 5) 0
theorem sc_NoSlot_init : FnScope ["self", "slot"] ["self", "slot"] (defScope st_NoSlot_init) := ⟨rfl, rfl, rfl, by decide +kernel, rfl, by decide +kernel, by decide +kernel⟩
theorem k_NoSlot_init (T : Tx K mg cm fld) {g : Addr} {fd : FuncData} (k : ExK K mg cm fld "NoSlot") (F : Fun K "__init__" "NoSlot.__init__" st_NoSlot_init g fd) (iC : PySem.W.findIn K (.ref (cm "NoSlot")) "__init__" = some (some (.ref g))) (tI : PySem.W.typeIn K (.ref g) = some (.type "function")) (hb : Binds K fd ["self", "slot"] []) : ExI P w K mg base cm fld "NoSlot" :=
  exi_mk (t := "not a slot") k T.f_NoSlot F iC tI hb sc_NoSlot_init rfl (fun cdv A outer s H E => by exact pss_cons (ps_expr (pe_sinit T.sb (by rfl) (pa_cons (pv 0) (pa_cons pe_str pa_nil)))) (pss_one (ps_ost (pv 0) (pv 1))))
theorem kk_NoSlot_init (T : Tx K mg cm fld) {g : Addr} {fd : FuncData} (k : ExK K mg cm fld "NoSlot") (F : Fun K "__init__" "NoSlot.__init__" st_NoSlot_init g fd) (iC : PySem.W.findIn K (.ref (cm "NoSlot")) "__init__" = some (some (.ref g))) (tI : PySem.W.typeIn K (.ref g) = some (.type "function")) (hb : Binds K fd ["self", "slot"] []) (hbk : KwB K fd ["self", "slot"] 1 ["slot"] [0, 1]) : ExIK P w K mg base cm fld "NoSlot" :=
  exik_mk (t := "not a slot") k T.f_NoSlot F iC tI hb hbk sc_NoSlot_init rfl (fun cdv A outer s H E => by exact pss_cons (ps_expr (pe_sinit T.sb (by rfl) (pa_cons (pv 0) (pa_cons pe_str pa_nil)))) (pss_one (ps_ost (pv 0) (pv 1))))
/-! NoAppointment.__init__ -/
abbrev st_NoAppointment_init : Stmt := inClass (top 6) 0
theorem sc_NoAppointment_init : FnScope ["self", "appointment"] ["self", "appointment"] (defScope st_NoAppointment_init) := ⟨rfl, rfl, rfl, by decide +kernel, rfl, by decide +kernel, by decide +kernel⟩
theorem k_NoAppointment_init (T : Tx K mg cm fld) {g : Addr} {fd : FuncData} (k : ExK K mg cm fld "NoAppointment") (F : Fun K "__init__" "NoAppointment.__init__" st_NoAppointment_init g fd) (iC : PySem.W.findIn K (.ref (cm "NoAppointment")) "__init__" = some (some (.ref g))) (tI : PySem.W.typeIn K (.ref g) = some (.type "function")) (hb : Binds K fd ["self", "appointment"] []) : ExI P w K mg base cm fld "NoAppointment" :=
  exi_mk (t := "not an appointment") k T.f_NoAppointment F iC tI hb sc_NoAppointment_init rfl (fun cdv A outer s H E => by exact pss_cons (ps_expr (pe_sinit T.sb (by rfl) (pa_cons (pv 0) (pa_cons pe_str pa_nil)))) (pss_one (ps_ost (pv 0) (pv 1))))
theorem kk_NoAppointment_init (T : Tx K mg cm fld) {g : Addr} {fd : FuncData} (k : ExK K mg cm fld "NoAppointment") (F : Fun K "__init__" "NoAppointment.__init__" st_NoAppointment_init g fd) (iC : PySem.W.findIn K (.ref (cm "NoAppointment")) "__init__" = some (some (.ref g))) (tI : PySem.W.typeIn K (.ref g) = some (.type "function")) (hb : Binds K fd ["self", "appointment"] []) (hbk : KwB K fd ["self", "appointment"] 1 ["appointment"] [0, 1]) : ExIK P w K mg base cm fld "NoAppointment" :=
  exik_mk (t := "not an appointment") k T.f_NoAppointment F iC tI hb hbk sc_NoAppointment_init rfl (fun cdv A outer s H E => by exact pss_cons (ps_expr (pe_sinit T.sb (by rfl) (pa_cons (pv 0) (pa_cons pe_str pa_nil)))) (pss_one (ps_ost (pv 0) (pv 1))))
/-! Frozen.__init__ -/
abbrev st_Frozen_init : Stmt := inClass (top 7) 0
theorem sc_Frozen_init : FnScope ["self", "slots"] ["self", "slots"] (defScope st_Frozen_init) := ⟨rfl, rfl, rfl, by decide +kernel, rfl, by decide +kernel, by decide +kernel⟩
theorem k_Frozen_init (T : Tx K mg cm fld) {g : Addr} {fd : FuncData} (k : ExK K mg cm fld "Frozen") (F : Fun K "__init__" "Frozen.__init__" st_Frozen_init g fd) (iC : PySem.W.findIn K (.ref (cm "Frozen")) "__init__" = some (some (.ref g))) (tI : PySem.W.typeIn K (.ref g) = some (.type "function")) (hb : Binds K fd ["self", "slots"] []) : ExI P w K mg base cm fld "Frozen" :=
  exi_mk (t := "slot can never become free") k T.f_Frozen F iC tI hb sc_Frozen_init rfl (fun cdv A outer s H E => by exact pss_cons (ps_expr (pe_sinit T.sb (by rfl) (pa_cons (pv 0) (pa_cons pe_str pa_nil)))) (pss_one (ps_ost (pv 0) (pv 1))))
theorem kk_Frozen_init (T : Tx K mg cm fld) {g : Addr} {fd : FuncData} (k : ExK K mg cm fld "Frozen") (F : Fun K "__init__" "Frozen.__init__" st_Frozen_init g fd) (iC : PySem.W.findIn K (.ref (cm "Frozen")) "__init__" = some (some (.ref g))) (tI : PySem.W.typeIn K (.ref g) = some (.type "function")) (hb : Binds K fd ["self", "slots"] []) (hbk : KwB K fd ["self", "slots"] 1 ["slots"] [0, 1]) : ExIK P w K mg base cm fld "Frozen" :=
  exik_mk (t := "slot can never become free") k T.f_Frozen F iC tI hb hbk sc_Frozen_init rfl (fun cdv A outer s H E => by exact pss_cons (ps_expr (pe_sinit T.sb (by rfl) (pa_cons (pv 0) (pa_cons pe_str pa_nil)))) (pss_one (ps_ost (pv 0) (pv 1))))
/-! NoBook.__init__ -/
abbrev st_NoBook_init : Stmt := inClass (top 2) 0
theorem sc_NoBook_init : FnScope ["self", "index"] ["self", "index"] (defScope st_NoBook_init) := ⟨rfl, rfl, rfl, by decide +kernel, rfl, by decide +kernel, by decide +kernel⟩
theorem k_NoBook_init (T : Tx K mg cm fld) {g : Addr} {fd : FuncData} (k : ExK K mg cm fld "NoBook") (F : Fun K "__init__" "NoBook.__init__" st_NoBook_init g fd) (iC : PySem.W.findIn K (.ref (cm "NoBook")) "__init__" = some (some (.ref g))) (tI : PySem.W.typeIn K (.ref g) = some (.type "function")) (hb : Binds K fd ["self", "index"] []) : ExI P w K mg base cm fld "NoBook" :=
  exi_mk (t := "invalid book") k T.f_NoBook F iC tI hb sc_NoBook_init rfl (fun cdv A outer s H E => by exact pss_cons (ps_expr (pe_sinit T.sb (by rfl) (pa_cons (pv 0) (pa_cons pe_str pa_nil)))) (pss_one (ps_ost (pv 0) (pv 1))))
theorem kk_NoBook_init (T : Tx K mg cm fld) {g : Addr} {fd : FuncData} (k : ExK K mg cm fld "NoBook") (F : Fun K "__init__" "NoBook.__init__" st_NoBook_init g fd) (iC : PySem.W.findIn K (.ref (cm "NoBook")) "__init__" = some (some (.ref g))) (tI : PySem.W.typeIn K (.ref g) = some (.type "function")) (hb : Binds K fd ["self", "index"] []) (hbk : KwB K fd ["self", "index"] 1 ["index"] [0, 1]) : ExIK P w K mg base cm fld "NoBook" :=
  exik_mk (t := "invalid book") k T.f_NoBook F iC tI hb hbk sc_NoBook_init rfl (fun cdv A outer s H E => by exact pss_cons (ps_expr (pe_sinit T.sb (by rfl) (pa_cons (pv 0) (pa_cons pe_str pa_nil)))) (pss_one (ps_ost (pv 0) (pv 1))))
/-! NoCosts.__init__ -/
abbrev st_NoCosts_init : Stmt := inClass (top 12) 0
theorem sc_NoCosts_init : FnScope ["self", "index"] ["self", "index"] (defScope st_NoCosts_init) := ⟨rfl, rfl, rfl, by decide +kernel, rfl, by decide +kernel, by decide +kernel⟩
theorem k_NoCosts_init (T : Tx K mg cm fld) {g : Addr} {fd : FuncData} (k : ExK K mg cm fld "NoCosts") (F : Fun K "__init__" "NoCosts.__init__" st_NoCosts_init g fd) (iC : PySem.W.findIn K (.ref (cm "NoCosts")) "__init__" = some (some (.ref g))) (tI : PySem.W.typeIn K (.ref g) = some (.type "function")) (hb : Binds K fd ["self", "index"] []) : ExI P w K mg base cm fld "NoCosts" :=
  exi_mk (t := "invalid costs") k T.f_NoCosts F iC tI hb sc_NoCosts_init rfl (fun cdv A outer s H E => by exact pss_cons (ps_expr (pe_sinit T.sb (by rfl) (pa_cons (pv 0) (pa_cons pe_str pa_nil)))) (pss_one (ps_ost (pv 0) (pv 1))))
theorem kk_NoCosts_init (T : Tx K mg cm fld) {g : Addr} {fd : FuncData} (k : ExK K mg cm fld "NoCosts") (F : Fun K "__init__" "NoCosts.__init__" st_NoCosts_init g fd) (iC : PySem.W.findIn K (.ref (cm "NoCosts")) "__init__" = some (some (.ref g))) (tI : PySem.W.typeIn K (.ref g) = some (.type "function")) (hb : Binds K fd ["self", "index"] []) (hbk : KwB K fd ["self", "index"] 1 ["index"] [0, 1]) : ExIK P w K mg base cm fld "NoCosts" :=
  exik_mk (t := "invalid costs") k T.f_NoCosts F iC tI hb hbk sc_NoCosts_init rfl (fun cdv A outer s H E => by exact pss_cons (ps_expr (pe_sinit T.sb (by rfl) (pa_cons (pv 0) (pa_cons pe_str pa_nil)))) (pss_one (ps_ost (pv 0) (pv 1))))
/-! NoWish.__init__ -/
abbrev st_NoWish_init : Stmt := inClass (top 11) 0
theorem sc_NoWish_init : FnScope ["self", "key"] ["self", "key"] (defScope st_NoWish_init) := ⟨rfl, rfl, rfl, by decide +kernel, rfl, by decide +kernel, by decide +kernel⟩
theorem k_NoWish_init (T : Tx K mg cm fld) {g : Addr} {fd : FuncData} (k : ExK K mg cm fld "NoWish") (F : Fun K "__init__" "NoWish.__init__" st_NoWish_init g fd) (iC : PySem.W.findIn K (.ref (cm "NoWish")) "__init__" = some (some (.ref g))) (tI : PySem.W.typeIn K (.ref g) = some (.type "function")) (hb : Binds K fd ["self", "key"] []) : ExI P w K mg base cm fld "NoWish" :=
  exi_mk (t := "invalid wishes") k T.f_NoWish F iC tI hb sc_NoWish_init rfl (fun cdv A outer s H E => by exact pss_cons (ps_expr (pe_sinit T.sb (by rfl) (pa_cons (pv 0) (pa_cons pe_str pa_nil)))) (pss_one (ps_ost (pv 0) (pv 1))))
theorem kk_NoWish_init (T : Tx K mg cm fld) {g : Addr} {fd : FuncData} (k : ExK K mg cm fld "NoWish") (F : Fun K "__init__" "NoWish.__init__" st_NoWish_init g fd) (iC : PySem.W.findIn K (.ref (cm "NoWish")) "__init__" = some (some (.ref g))) (tI : PySem.W.typeIn K (.ref g) = some (.type "function")) (hb : Binds K fd ["self", "key"] []) (hbk : KwB K fd ["self", "key"] 1 ["key"] [0, 1]) : ExIK P w K mg base cm fld "NoWish" :=
  exik_mk (t := "invalid wishes") k T.f_NoWish F iC tI hb hbk sc_NoWish_init rfl (fun cdv A outer s H E => by exact pss_cons (ps_expr (pe_sinit T.sb (by rfl) (pa_cons (pv 0) (pa_cons pe_str pa_nil)))) (pss_one (ps_ost (pv 0) (pv 1))))
/-! NotAllowed.__init__ -/
abbrev st_NotAllowed_init : Stmt := inClass (top 10) 0
theorem sc_NotAllowed_init : FnScope ["self", "slot"] ["self", "slot"] (defScope st_NotAllowed_init) := ⟨rfl, rfl, rfl, by decide +kernel, rfl, by decide +kernel, by decide +kernel⟩
theorem k_NotAllowed_init (T : Tx K mg cm fld) {g : Addr} {fd : FuncData} (k : ExK K mg cm fld "NotAllowed") (F : Fun K "__init__" "NotAllowed.__init__" st_NotAllowed_init g fd) (iC : PySem.W.findIn K (.ref (cm "NotAllowed")) "__init__" = some (some (.ref g))) (tI : PySem.W.typeIn K (.ref g) = some (.type "function")) (hb : Binds K fd ["self", "slot"] []) : ExI P w K mg base cm fld "NotAllowed" :=
  exi_mk (t := "appointment may not use this slot") k T.f_NotAllowed F iC tI hb sc_NotAllowed_init rfl (fun cdv A outer s H E => by exact pss_cons (ps_expr (pe_sinit T.sb (by rfl) (pa_cons (pv 0) (pa_cons pe_str pa_nil)))) (pss_one (ps_ost (pv 0) (pv 1))))
theorem kk_NotAllowed_init (T : Tx K mg cm fld) {g : Addr} {fd : FuncData} (k : ExK K mg cm fld "NotAllowed") (F : Fun K "__init__" "NotAllowed.__init__" st_NotAllowed_init g fd) (iC : PySem.W.findIn K (.ref (cm "NotAllowed")) "__init__" = some (some (.ref g))) (tI : PySem.W.typeIn K (.ref g) = some (.type "function")) (hb : Binds K fd ["self", "slot"] []) (hbk : KwB K fd ["self", "slot"] 1 ["slot"] [0, 1]) : ExIK P w K mg base cm fld "NotAllowed" :=
  exik_mk (t := "appointment may not use this slot") k T.f_NotAllowed F iC tI hb hbk sc_NotAllowed_init rfl (fun cdv A outer s H E => by exact pss_cons (ps_expr (pe_sinit T.sb (by rfl) (pa_cons (pv 0) (pa_cons pe_str pa_nil)))) (pss_one (ps_ost (pv 0) (pv 1))))
/-! NoCertificate.__init__ -/
abbrev st_NoCertificate_init : Stmt := inClass (top 8) 0
theorem sc_NoCertificate_init : FnScope ["self", "index"] ["self", "index"] (defScope st_NoCertificate_init) := ⟨rfl, rfl, rfl, by decide +kernel, rfl, by decide +kernel, by decide +kernel⟩
theorem k_NoCertificate_init (T : Tx K mg cm fld) {g : Addr} {fd : FuncData} (k : ExK K mg cm fld "NoCertificate") (F : Fun K "__init__" "NoCertificate.__init__" st_NoCertificate_init g fd) (iC : PySem.W.findIn K (.ref (cm "NoCertificate")) "__init__" = some (some (.ref g))) (tI : PySem.W.typeIn K (.ref g) = some (.type "function")) (hb : Binds K fd ["self", "index"] []) : ExI P w K mg base cm fld "NoCertificate" :=
  exi_mk (t := "invalid certificate") k T.f_NoCertificate F iC tI hb sc_NoCertificate_init rfl (fun cdv A outer s H E => by exact pss_cons (ps_expr (pe_sinit T.sb (by rfl) (pa_cons (pv 0) (pa_cons pe_str pa_nil)))) (pss_one (ps_ost (pv 0) (pv 1))))
theorem kk_NoCertificate_init (T : Tx K mg cm fld) {g : Addr} {fd : FuncData} (k : ExK K mg cm fld "NoCertificate") (F : Fun K "__init__" "NoCertificate.__init__" st_NoCertificate_init g fd) (iC : PySem.W.findIn K (.ref (cm "NoCertificate")) "__init__" = some (some (.ref g))) (tI : PySem.W.typeIn K (.ref g) = some (.type "function")) (hb : Binds K fd ["self", "index"] []) (hbk : KwB K fd ["self", "index"] 1 ["index"] [0, 1]) : ExIK P w K mg base cm fld "NoCertificate" :=
  exik_mk (t := "invalid certificate") k T.f_NoCertificate F iC tI hb hbk sc_NoCertificate_init rfl (fun cdv A outer s H E => by exact pss_cons (ps_expr (pe_sinit T.sb (by rfl) (pa_cons (pv 0) (pa_cons pe_str pa_nil)))) (pss_one (ps_ost (pv 0) (pv 1))))
/-! NoMove.__init__ -/
abbrev st_NoMove_init : Stmt := inClass (top 4) 0
theorem sc_NoMove_init : FnScope ["self", "index"] ["self", "index"] (defScope st_NoMove_init) := ⟨rfl, rfl, rfl, by decide +kernel, rfl, by decide +kernel, by decide +kernel⟩
theorem k_NoMove_init (T : Tx K mg cm fld) {g : Addr} {fd : FuncData} (k : ExK K mg cm fld "NoMove") (F : Fun K "__init__" "NoMove.__init__" st_NoMove_init g fd) (iC : PySem.W.findIn K (.ref (cm "NoMove")) "__init__" = some (some (.ref g))) (tI : PySem.W.typeIn K (.ref g) = some (.type "function")) (hb : Binds K fd ["self", "index"] []) : ExI P w K mg base cm fld "NoMove" :=
  exi_mk (t := "impossible move") k T.f_NoMove F iC tI hb sc_NoMove_init rfl (fun cdv A outer s H E => by exact pss_cons (ps_expr (pe_sinit T.sb (by rfl) (pa_cons (pv 0) (pa_cons pe_str pa_nil)))) (pss_one (ps_ost (pv 0) (pv 1))))
theorem kk_NoMove_init (T : Tx K mg cm fld) {g : Addr} {fd : FuncData} (k : ExK K mg cm fld "NoMove") (F : Fun K "__init__" "NoMove.__init__" st_NoMove_init g fd) (iC : PySem.W.findIn K (.ref (cm "NoMove")) "__init__" = some (some (.ref g))) (tI : PySem.W.typeIn K (.ref g) = some (.type "function")) (hb : Binds K fd ["self", "index"] []) (hbk : KwB K fd ["self", "index"] 1 ["index"] [0, 1]) : ExIK P w K mg base cm fld "NoMove" :=
  exik_mk (t := "impossible move") k T.f_NoMove F iC tI hb hbk sc_NoMove_init rfl (fun cdv A outer s H E => by exact pss_cons (ps_expr (pe_sinit T.sb (by rfl) (pa_cons (pv 0) (pa_cons pe_str pa_nil)))) (pss_one (ps_ost (pv 0) (pv 1))))
/-! _law_draw -/
abbrev st_law_draw : Stmt := top 14
noncomputable def m_law_draw : Sm := (sSeq (sIf (e2 gtD (eO2 idxD 0 (eC (.int 0))) (eC (.int 0))) (sSeq (sAsg (.n 2) (e2 modD (eO2 idxD 0 (eC (.int 0))) (eV 1))) (sSeq (sSetI 0 (eC (.int 0)) (e2 fdivD (eO2 idxD 0 (eC (.int 0))) (eV 1))) (sRet (eV 2)))) sPass) (sSeq (sSetI 0 (eC (.int 2)) (e2 addD (eO2 idxD 0 (eC (.int 2))) (eC (.int 1)))) (sSeq (sAsg (.n 3) (e2 modD (e2 mulD (e2 addD (e2 addD (eO2 idxD 0 (eC (.int 1))) (e2 mulD (eC (.int 104729)) (eO2 idxD 0 (eC (.int 2))))) (eC (.int 1))) (eC (.int 48271))) (eC (.int 2147483647)))) (sSeq (sAsg (.n 3) (e2 modD (e2 mulD (eV 3) (e2 addD (e2 fdivD (eV 3) (eC (.int 1009))) (eC (.int 69621)))) (eC (.int 2147483647)))) (sRet (e2 modD (e2 modD (e2 mulD (eV 3) (e2 addD (e2 fdivD (eV 3) (eC (.int 2003))) (eC (.int 40692)))) (eC (.int 2147483399))) (eV 1)))))))
noncomputable def f_law_draw : List D → Fr := hide (fnM 4 2 [0] m_law_draw)
theorem d_law_draw : f_law_draw = fnM 4 2 [0] m_law_draw := hide_eq _
theorem e_law_draw {ds : List D} {r : Fr} (hl : ds.length = 2) (h : FEnd [0] (fun x => x = r) (m_law_draw (startE 4 ds))) : f_law_draw ds = r := by rw [d_law_draw]; exact fn_run (Q := fun x => x = r) hl h
theorem sc_law_draw : FnScope ["well", "many", "found", "number"] ["well", "many"] (defScope st_law_draw) := ⟨rfl, rfl, rfl, by decide +kernel, rfl, by decide +kernel, by decide +kernel⟩
theorem k_law_draw (T : Tx K mg cm fld)  {g : Addr} {fd : FuncData} (F : Fun K "_law_draw" "_law_draw" st_law_draw g fd) (hm : mg "_law_draw" = some (.ref g)) (hb : Binds K fd ["well", "many"] []) : Cal P w K mg base cm fld "_law_draw" 1 2 [0] f_law_draw :=
  d_law_draw ▸ cal_mk (k := 0) F hm hb sc_law_draw rfl rfl (by decide) [0] (fun cdv cd A outer s H G E as hr => by exact (s_seq (s_if (t_2 a_cmpD (pt_cmpR op_gt (d_o2 (by decide) a_idxD (pe_ix ix_seq (pv 0) (wk d_int) fun _ _ => rfl)) (wk d_int) (nomark _))) (s_seq (s_asg (ps_set (i := 2) sc_law_draw.nd rfl (by first | exact Or.inl rfl | exact Or.inr rfl) (d_2 a_modD (pe_op op_mod (d_o2 (by decide) a_idxD (pe_ix ix_seq (pv 0) (wk d_int) fun _ _ => rfl)) (wk (d_v (pv 1) (by decide)))))) (gt_n (by decide))) (s_seq (s_setI (by decide) (ps_asg (d_2 a_fdivD (pe_op op_fdiv (d_o2 (by decide) a_idxD (pe_ix ix_seq (pv 0) (wk d_int) fun _ _ => rfl)) (wk (d_v (pv 1) (by decide))))) (pg_sub (pv 0) d_int set_list))) (s_one (s_ret (d_v (pv 2) (by decide)))))) s_nil) (s_seq (s_setI (by decide) (ps_asg (d_2 a_addD (pe_op op_addD (d_o2 (by decide) a_idxD (pe_ix ix_seq (pv 0) (wk d_int) fun _ _ => rfl)) (wk d_int))) (pg_sub (pv 0) d_int set_list))) (s_seq (s_asg (ps_set (i := 3) sc_law_draw.nd rfl (by first | exact Or.inl rfl | exact Or.inr rfl) (d_2 a_modD (pe_op op_mod (d_2 a_mulD (pe_op op_mul (d_2 a_addD (pe_op op_addD (d_2 a_addD (pe_op op_addD (d_o2 (by decide) a_idxD (pe_ix ix_seq (pv 0) (wk d_int) fun _ _ => rfl)) (wk (d_2 a_mulD (pe_op op_mul d_int (wk (d_o2 (by decide) a_idxD (pe_ix ix_seq (pv 0) (wk d_int) fun _ _ => rfl)))))))) (wk d_int))) (wk d_int))) (wk d_int)))) (gt_n (by decide))) (s_seq (s_asg (ps_set (i := 3) sc_law_draw.nd rfl (by first | exact Or.inl rfl | exact Or.inr rfl) (d_2 a_modD (pe_op op_mod (d_2 a_mulD (pe_op op_mul (d_v (pv 3) (by decide)) (wk (d_2 a_addD (pe_op op_addD (d_2 a_fdivD (pe_op op_fdiv (d_v (pv 3) (by decide)) (wk d_int))) (wk d_int)))))) (wk d_int)))) (gt_n (by decide))) (s_one (s_ret (d_2 a_modD (pe_op op_mod (d_2 a_modD (pe_op op_mod (d_2 a_mulD (pe_op op_mul (d_v (pv 3) (by decide)) (wk (d_2 a_addD (pe_op op_addD (d_2 a_fdivD (pe_op op_fdiv (d_v (pv 3) (by decide)) (wk d_int))) (wk d_int)))))) (wk d_int))) (wk (d_v (pv 1) (by decide))))))))))))
/-! _law_taken -/
abbrev st_law_taken : Stmt := top 15
noncomputable def m_law_taken : Sm := (sSeq (sAsg (.n 1) (eLst [(e1 (isVD (anF an_NoBook)) (eV 0)), (e1 (isVD (anF an_NoTimetable)) (eV 0)), (e1 (isVD (anF an_NoMove)) (eV 0)), (e1 (isVD (anF an_NoSlot)) (eV 0))])) (sSeq (sAsg (.n 1) (e2 addD (eV 1) (eLst [(e1 (isVD (anF an_NoAppointment)) (eV 0)), (e1 (isVD (anF an_Frozen)) (eV 0)), (e1 (isVD (anF an_NoCertificate)) (eV 0))]))) (sSeq (sAsg (.n 1) (e2 addD (eV 1) (eLst [(e1 (isVD (anF an_TooMany)) (eV 0)), (e1 (isVD (anF an_NotAllowed)) (eV 0)), (e1 (isVD (anF an_NoWish)) (eV 0))]))) (sRet (e2 addD (eV 1) (eLst [(e1 (isVD (anF an_NoCosts)) (eV 0))]))))))
noncomputable def f_law_taken : List D → Fr := hide (fnM 2 1 [] m_law_taken)
theorem d_law_taken : f_law_taken = fnM 2 1 [] m_law_taken := hide_eq _
theorem e_law_taken {ds : List D} {r : Fr} (hl : ds.length = 1) (h : FEnd [] (fun x => x = r) (m_law_taken (startE 2 ds))) : f_law_taken ds = r := by rw [d_law_taken]; exact fn_run (Q := fun x => x = r) hl h
theorem sc_law_taken : FnScope ["e", "first"] ["e"] (defScope st_law_taken) := ⟨rfl, rfl, rfl, by decide +kernel, rfl, by decide +kernel, by decide +kernel⟩
theorem k_law_taken (T : Tx K mg cm fld)  {g : Addr} {fd : FuncData} (F : Fun K "_law_taken" "_law_taken" st_law_taken g fd) (hm : mg "_law_taken" = some (.ref g)) (hb : Binds K fd ["e"] []) : Cal P w K mg base cm fld "_law_taken" 1 1 [] f_law_taken :=
  d_law_taken ▸ cal_mk (k := 0) F hm hb sc_law_taken rfl rfl (by decide) [] (fun cdv cd A outer s H G E as hr => by exact (s_seq (s_asg (ps_set (i := 1) sc_law_taken.nd rfl (by first | exact Or.inl rfl | exact Or.inr rfl) (kn (n_lst (a_cons (pa_cons (b_isV (.own _) T.is_NoBook (pe_callB call_isV (by rfl) T.n_isinstance PyProof.Rows.boot_isinstance (pa_cons (wk (d_v (pv 0) (by decide))) (pa_cons (pe_glob (v := .ref (cm "NoBook")) (by rfl) T.m_NoBook rfl) pa_nil)))) (a_cons (pa_cons (b_isV (.own _) T.is_NoTimetable (pe_callB call_isV (by rfl) T.n_isinstance PyProof.Rows.boot_isinstance (pa_cons (wk (d_v (pv 0) (by decide))) (pa_cons (pe_glob (v := .ref (cm "NoTimetable")) (by rfl) T.m_NoTimetable rfl) pa_nil)))) (a_cons (pa_cons (b_isV (.own _) T.is_NoMove (pe_callB call_isV (by rfl) T.n_isinstance PyProof.Rows.boot_isinstance (pa_cons (wk (d_v (pv 0) (by decide))) (pa_cons (pe_glob (v := .ref (cm "NoMove")) (by rfl) T.m_NoMove rfl) pa_nil)))) (a_cons (pa_cons (b_isV (.own _) T.is_NoSlot (pe_callB call_isV (by rfl) T.n_isinstance PyProof.Rows.boot_isinstance (pa_cons (wk (d_v (pv 0) (by decide))) (pa_cons (pe_glob (v := .ref (cm "NoSlot")) (by rfl) T.m_NoSlot rfl) pa_nil)))) a_nil))))))))))) (gt_n (by decide))) (s_seq (s_asg (ps_set (i := 1) sc_law_taken.nd rfl (by first | exact Or.inl rfl | exact Or.inr rfl) (d_2 a_addD (pe_op op_addD (d_v (pv 1) (by decide)) (wk (kn (n_lst (a_cons (pa_cons (b_isV (.own _) T.is_NoAppointment (pe_callB call_isV (by rfl) T.n_isinstance PyProof.Rows.boot_isinstance (pa_cons (wk (d_v (pv 0) (by decide))) (pa_cons (pe_glob (v := .ref (cm "NoAppointment")) (by rfl) T.m_NoAppointment rfl) pa_nil)))) (a_cons (pa_cons (b_isV (.own _) T.is_Frozen (pe_callB call_isV (by rfl) T.n_isinstance PyProof.Rows.boot_isinstance (pa_cons (wk (d_v (pv 0) (by decide))) (pa_cons (pe_glob (v := .ref (cm "Frozen")) (by rfl) T.m_Frozen rfl) pa_nil)))) (a_cons (pa_cons (b_isV (.own _) T.is_NoCertificate (pe_callB call_isV (by rfl) T.n_isinstance PyProof.Rows.boot_isinstance (pa_cons (wk (d_v (pv 0) (by decide))) (pa_cons (pe_glob (v := .ref (cm "NoCertificate")) (by rfl) T.m_NoCertificate rfl) pa_nil)))) a_nil)))))))))))) (gt_n (by decide))) (s_seq (s_asg (ps_set (i := 1) sc_law_taken.nd rfl (by first | exact Or.inl rfl | exact Or.inr rfl) (d_2 a_addD (pe_op op_addD (d_v (pv 1) (by decide)) (wk (kn (n_lst (a_cons (pa_cons (b_isV (.own _) T.is_TooMany (pe_callB call_isV (by rfl) T.n_isinstance PyProof.Rows.boot_isinstance (pa_cons (wk (d_v (pv 0) (by decide))) (pa_cons (pe_glob (v := .ref (cm "TooMany")) (by rfl) T.m_TooMany rfl) pa_nil)))) (a_cons (pa_cons (b_isV (.own _) T.is_NotAllowed (pe_callB call_isV (by rfl) T.n_isinstance PyProof.Rows.boot_isinstance (pa_cons (wk (d_v (pv 0) (by decide))) (pa_cons (pe_glob (v := .ref (cm "NotAllowed")) (by rfl) T.m_NotAllowed rfl) pa_nil)))) (a_cons (pa_cons (b_isV (.own _) T.is_NoWish (pe_callB call_isV (by rfl) T.n_isinstance PyProof.Rows.boot_isinstance (pa_cons (wk (d_v (pv 0) (by decide))) (pa_cons (pe_glob (v := .ref (cm "NoWish")) (by rfl) T.m_NoWish rfl) pa_nil)))) a_nil)))))))))))) (gt_n (by decide))) (s_one (s_ret (d_2 a_addD (pe_op op_addD (d_v (pv 1) (by decide)) (wk (kn (n_lst (a_cons (pa_cons (b_isV (.own _) T.is_NoCosts (pe_callB call_isV (by rfl) T.n_isinstance PyProof.Rows.boot_isinstance (pa_cons (wk (d_v (pv 0) (by decide))) (pa_cons (pe_glob (v := .ref (cm "NoCosts")) (by rfl) T.m_NoCosts rfl) pa_nil)))) a_nil)))))))))))))
/-! _law_by_place -/
abbrev st_law_by_place : Stmt := top 16
noncomputable def m_law_by_place : Sm := (sSeq (sAsg (.n 1) (eLst [(eExn "NoBook" "index" (eV 0)), (eExn "NoTimetable" "index" (eV 0)), (eExn "NoMove" "index" (eV 0)), (eExn "NoSlot" "slot" (eV 0)), (eExn "NoAppointment" "appointment" (eV 0)), (eExn "Frozen" "slots" (eV 0)), (eExn "NoCertificate" "index" (eV 0))])) (sRet (e2 addD (eV 1) (eLst [(eExn "TooMany" "most" (eV 0)), (eExn "NotAllowed" "slot" (eV 0)), (eExn "NoWish" "key" (eV 0)), (eExn "NoCosts" "index" (eV 0))]))))
noncomputable def f_law_by_place : List D → Fr := hide (fnM 2 1 [] m_law_by_place)
theorem d_law_by_place : f_law_by_place = fnM 2 1 [] m_law_by_place := hide_eq _
theorem e_law_by_place {ds : List D} {r : Fr} (hl : ds.length = 1) (h : FEnd [] (fun x => x = r) (m_law_by_place (startE 2 ds))) : f_law_by_place ds = r := by rw [d_law_by_place]; exact fn_run (Q := fun x => x = r) hl h
theorem sc_law_by_place : FnScope ["x", "some"] ["x"] (defScope st_law_by_place) := ⟨rfl, rfl, rfl, by decide +kernel, rfl, by decide +kernel, by decide +kernel⟩
theorem k_law_by_place (T : Tx K mg cm fld) (x_NoBook : ExI P w K mg base cm fld "NoBook") (x_NoTimetable : ExI P w K mg base cm fld "NoTimetable") (x_NoMove : ExI P w K mg base cm fld "NoMove") (x_NoSlot : ExI P w K mg base cm fld "NoSlot") (x_NoAppointment : ExI P w K mg base cm fld "NoAppointment") (x_Frozen : ExI P w K mg base cm fld "Frozen") (x_NoCertificate : ExI P w K mg base cm fld "NoCertificate") (x_TooMany : ExI P w K mg base cm fld "TooMany") (x_NotAllowed : ExI P w K mg base cm fld "NotAllowed") (x_NoWish : ExI P w K mg base cm fld "NoWish") (x_NoCosts : ExI P w K mg base cm fld "NoCosts") {g : Addr} {fd : FuncData} (F : Fun K "_law_by_place" "_law_by_place" st_law_by_place g fd) (hm : mg "_law_by_place" = some (.ref g)) (hb : Binds K fd ["x"] []) : Cal P w K mg base cm fld "_law_by_place" 3 1 [] f_law_by_place :=
  d_law_by_place ▸ cal_mk (k := 2) F hm hb sc_law_by_place rfl rfl (by decide) [] (fun cdv cd A outer s H G E as hr => by exact (s_seq (s_asg (ps_set (i := 1) sc_law_by_place.nd rfl (by first | exact Or.inl rfl | exact Or.inr rfl) (kn (n_lst (a_cons (pa_cons (d_exn x_NoBook T.f_NoBook rfl hr (by decide) (d_v (pv 0) (by decide))) (a_cons (pa_cons (d_exn x_NoTimetable T.f_NoTimetable rfl hr (by decide) (d_v (pv 0) (by decide))) (a_cons (pa_cons (d_exn x_NoMove T.f_NoMove rfl hr (by decide) (d_v (pv 0) (by decide))) (a_cons (pa_cons (d_exn x_NoSlot T.f_NoSlot rfl hr (by decide) (d_v (pv 0) (by decide))) (a_cons (pa_cons (d_exn x_NoAppointment T.f_NoAppointment rfl hr (by decide) (d_v (pv 0) (by decide))) (a_cons (pa_cons (d_exn x_Frozen T.f_Frozen rfl hr (by decide) (d_v (pv 0) (by decide))) (a_cons (pa_cons (d_exn x_NoCertificate T.f_NoCertificate rfl hr (by decide) (d_v (pv 0) (by decide))) a_nil))))))))))))))))) (gt_n (by decide))) (s_one (s_ret (d_2 a_addD (pe_op op_addD (d_v (pv 1) (by decide)) (wk (kn (n_lst (a_cons (pa_cons (d_exn x_TooMany T.f_TooMany rfl hr (by decide) (d_v (pv 0) (by decide))) (a_cons (pa_cons (d_exn x_NotAllowed T.f_NotAllowed rfl hr (by decide) (d_v (pv 0) (by decide))) (a_cons (pa_cons (d_exn x_NoWish T.f_NoWish rfl hr (by decide) (d_v (pv 0) (by decide))) (a_cons (pa_cons (d_exn x_NoCosts T.f_NoCosts rfl hr (by decide) (d_v (pv 0) (by decide))) a_nil)))))))))))))))))
/-! _law_by_name -/
abbrev st_law_by_name : Stmt := top 17
noncomputable def m_law_by_name : Sm := (sSeq (sAsg (.n 1) (eLst [(eExn "NoBook" "index" (eV 0)), (eExn "NoTimetable" "index" (eV 0)), (eExn "NoMove" "index" (eV 0)), (eExn "NoSlot" "slot" (eV 0)), (eExn "NoAppointment" "appointment" (eV 0))])) (sSeq (sAsg (.n 1) (e2 addD (eV 1) (eLst [(eExn "Frozen" "slots" (eV 0)), (eExn "NoCertificate" "index" (eV 0)), (eExn "TooMany" "most" (eV 0))]))) (sRet (e2 addD (eV 1) (eLst [(eExn "NotAllowed" "slot" (eV 0)), (eExn "NoWish" "key" (eV 0)), (eExn "NoCosts" "index" (eV 0))])))))
noncomputable def f_law_by_name : List D → Fr := hide (fnM 2 1 [] m_law_by_name)
theorem d_law_by_name : f_law_by_name = fnM 2 1 [] m_law_by_name := hide_eq _
theorem e_law_by_name {ds : List D} {r : Fr} (hl : ds.length = 1) (h : FEnd [] (fun x => x = r) (m_law_by_name (startE 2 ds))) : f_law_by_name ds = r := by rw [d_law_by_name]; exact fn_run (Q := fun x => x = r) hl h
theorem sc_law_by_name : FnScope ["x", "some"] ["x"] (defScope st_law_by_name) := ⟨rfl, rfl, rfl, by decide +kernel, rfl, by decide +kernel, by decide +kernel⟩
theorem k_law_by_name (T : Tx K mg cm fld) (xk_NoBook : ExIK P w K mg base cm fld "NoBook") (xk_NoTimetable : ExIK P w K mg base cm fld "NoTimetable") (xk_NoMove : ExIK P w K mg base cm fld "NoMove") (xk_NoSlot : ExIK P w K mg base cm fld "NoSlot") (xk_NoAppointment : ExIK P w K mg base cm fld "NoAppointment") (xk_Frozen : ExIK P w K mg base cm fld "Frozen") (xk_NoCertificate : ExIK P w K mg base cm fld "NoCertificate") (xk_TooMany : ExIK P w K mg base cm fld "TooMany") (xk_NotAllowed : ExIK P w K mg base cm fld "NotAllowed") (xk_NoWish : ExIK P w K mg base cm fld "NoWish") (xk_NoCosts : ExIK P w K mg base cm fld "NoCosts") {g : Addr} {fd : FuncData} (F : Fun K "_law_by_name" "_law_by_name" st_law_by_name g fd) (hm : mg "_law_by_name" = some (.ref g)) (hb : Binds K fd ["x"] []) : Cal P w K mg base cm fld "_law_by_name" 3 1 [] f_law_by_name :=
  d_law_by_name ▸ cal_mk (k := 2) F hm hb sc_law_by_name rfl rfl (by decide) [] (fun cdv cd A outer s H G E as hr => by exact (s_seq (s_asg (ps_set (i := 1) sc_law_by_name.nd rfl (by first | exact Or.inl rfl | exact Or.inr rfl) (kn (n_lst (a_cons (pa_cons (d_exK xk_NoBook T.f_NoBook rfl hr (by decide) (d_v (pv 0) (by decide))) (a_cons (pa_cons (d_exK xk_NoTimetable T.f_NoTimetable rfl hr (by decide) (d_v (pv 0) (by decide))) (a_cons (pa_cons (d_exK xk_NoMove T.f_NoMove rfl hr (by decide) (d_v (pv 0) (by decide))) (a_cons (pa_cons (d_exK xk_NoSlot T.f_NoSlot rfl hr (by decide) (d_v (pv 0) (by decide))) (a_cons (pa_cons (d_exK xk_NoAppointment T.f_NoAppointment rfl hr (by decide) (d_v (pv 0) (by decide))) a_nil))))))))))))) (gt_n (by decide))) (s_seq (s_asg (ps_set (i := 1) sc_law_by_name.nd rfl (by first | exact Or.inl rfl | exact Or.inr rfl) (d_2 a_addD (pe_op op_addD (d_v (pv 1) (by decide)) (wk (kn (n_lst (a_cons (pa_cons (d_exK xk_Frozen T.f_Frozen rfl hr (by decide) (d_v (pv 0) (by decide))) (a_cons (pa_cons (d_exK xk_NoCertificate T.f_NoCertificate rfl hr (by decide) (d_v (pv 0) (by decide))) (a_cons (pa_cons (d_exK xk_TooMany T.f_TooMany rfl hr (by decide) (d_v (pv 0) (by decide))) a_nil)))))))))))) (gt_n (by decide))) (s_one (s_ret (d_2 a_addD (pe_op op_addD (d_v (pv 1) (by decide)) (wk (kn (n_lst (a_cons (pa_cons (d_exK xk_NotAllowed T.f_NotAllowed rfl hr (by decide) (d_v (pv 0) (by decide))) (a_cons (pa_cons (d_exK xk_NoWish T.f_NoWish rfl hr (by decide) (d_v (pv 0) (by decide))) (a_cons (pa_cons (d_exK xk_NoCosts T.f_NoCosts rfl hr (by decide) (d_v (pv 0) (by decide))) a_nil))))))))))))))))
/-! _law_right -/
abbrev st_law_right : Stmt := top 19
noncomputable def m_law_right : Sm := (sSeq (sAsg (.n 1) (e2 idxD (eLst [(eCallO f_law_draw 0 [(eC (.int 1000))]), (e1 negD (eC (.int 1))), (eC .non), (eC (.str "v")), (eTup [(eC (.int 0)), (eC (.int 1))])]) (eCallO f_law_draw 0 [(eC (.int 5))]))) (sSeq (sFor (iSeq (eLst [(eCall f_law_by_place [(eV 1)]), (eCall f_law_by_name [(eV 1)])])) (.n 2) (sSeq (sIf (e2 neD (eCall f_law_fields [(eV 2)]) (e2 repD (eLst [(eV 1)]) (eC (.int 11)))) (sRet (eC (.bl false))) sPass) (sFor (iEnum (eV 2)) (.t [3, 4]) (sSeq (sIf (e2 neD (eCall f_law_taken [(eV 4)]) (eLc (iRng (eC (.int 11))) (.n 5) [5] none (e2 eqD (eV 5) (eV 3)))) (sRet (eC (.bl false))) sPass) (sIf (eOr (eNot (e1 (isVD (anF an_SlotError)) (eV 4))) (eNot (e1 (isVD (anF an_ValueError)) (eV 4)))) (sRet (eC (.bl false))) sPass))))) (sRet (eNot (eC (.bl false))))))
noncomputable def f_law_right : List D → Fr := hide (fnM 6 1 [0] m_law_right)
theorem d_law_right : f_law_right = fnM 6 1 [0] m_law_right := hide_eq _
theorem e_law_right {ds : List D} {r : Fr} (hl : ds.length = 1) (h : FEnd [0] (fun x => x = r) (m_law_right (startE 6 ds))) : f_law_right ds = r := by rw [d_law_right]; exact fn_run (Q := fun x => x = r) hl h
theorem sc_law_right : FnScope ["well", "x", "some", "spot", "e", "k"] ["well"] (defScope st_law_right) := ⟨rfl, rfl, rfl, by decide +kernel, rfl, by decide +kernel, by decide +kernel⟩
theorem k_law_right (T : Tx K mg cm fld) (c_law_draw : Cal P w K mg base cm fld "_law_draw" 1 2 [0] f_law_draw) (c_law_by_place : Cal P w K mg base cm fld "_law_by_place" 3 1 [] f_law_by_place) (c_law_by_name : Cal P w K mg base cm fld "_law_by_name" 3 1 [] f_law_by_name) (c_law_fields : Cal P w K mg base cm fld "_law_fields" 1 1 [] f_law_fields) (c_law_taken : Cal P w K mg base cm fld "_law_taken" 1 1 [] f_law_taken) {g : Addr} {fd : FuncData} (F : Fun K "_law_right" "_law_right" st_law_right g fd) (hm : mg "_law_right" = some (.ref g)) (hb : Binds K fd ["well"] []) : Cal P w K mg base cm fld "_law_right" 4 1 [0] f_law_right :=
  d_law_right ▸ cal_mk (k := 3) F hm hb sc_law_right rfl rfl (by decide) [0] (fun cdv cd A outer s H G E as hr => by exact (s_seq (s_asg (ps_set (i := 1) sc_law_right.nd rfl (by first | exact Or.inl rfl | exact Or.inr rfl) (d_2 a_idxD (pe_ix ix_seq (kn (n_lst (a_cons (pa_cons (d_calO c_law_draw rfl hr (by decide) (takes_of rfl rfl rfl rfl) (by decide) (pa_cons (pv 0) (a_cons (pa_cons d_int a_nil))) rfl) (a_cons (pa_cons (d_1 a_negD (pe_un un_neg (wk d_int))) (a_cons (pa_cons d_non (a_cons (pa_cons d_str (a_cons (pa_cons (d_tup (a_cons (pa_cons d_int (a_cons (pa_cons d_int a_nil))))) a_nil)))))))))))) (wk (d_calO c_law_draw rfl hr (by decide) (takes_of rfl rfl rfl rfl) (by decide) (pa_cons (pv 0) (a_cons (pa_cons d_int a_nil))) rfl)) fun _ _ => rfl))) (gt_n (by decide))) (s_seq (s_for (passes_of rfl) rfl (i_seq rfl (kn (n_lst (a_cons (pa_cons (d_cal c_law_by_place rfl hr (by decide) (takes_of rfl rfl rfl rfl) (a_cons (pa_cons (d_v (pv 1) (by decide)) a_nil)) rfl) (a_cons (pa_cons (d_cal c_law_by_name rfl hr (by decide) (takes_of rfl rfl rfl rfl) (a_cons (pa_cons (d_v (pv 1) (by decide)) a_nil)) rfl) a_nil))))))) (pg_name (i := 2) sc_law_right.nd rfl (by first | exact Or.inl rfl | exact Or.inr rfl)) (gt_n (by decide)) (s_seq (s_if (t_2 a_neD (pt_cmpR (op_neD (u64 hr)) (d_cal c_law_fields rfl hr (by decide) (takes_of rfl rfl rfl rfl) (a_cons (pa_cons (d_v (pv 2) (by decide)) a_nil)) rfl) (wk (kn (n_rep (n_lst (a_cons (pa_cons (d_v (pv 1) (by decide)) a_nil))) d_int))) (nomark _))) (s_one (s_ret d_bl)) s_nil) (s_one (s_for (passes_of rfl) rfl (i_enum rfl (by rfl) T.n_enumerate (pa_cons (d_v (pv 2) (by decide)) pa_nil)) (pg_tup rfl (pgs_cons (pg_name (i := 3) sc_law_right.nd rfl (by first | exact Or.inl rfl | exact Or.inr rfl)) (pgs_cons (pg_name (i := 4) sc_law_right.nd rfl (by first | exact Or.inl rfl | exact Or.inr rfl)) pgs_nil))) (gt_t (gts_cons (by decide) (gts_cons (by decide) gts_nil)) rfl) (s_seq (s_if (t_2 a_neD (pt_cmpR (op_neD (u64 hr)) (d_cal c_law_taken rfl hr (by decide) (takes_of rfl rfl rfl rfl) (a_cons (pa_cons (d_v (pv 4) (by decide)) a_nil)) rfl) (wk (kn (n_lc0 [("k", 5)] rfl sc_law_right.nd (i_rng (by rfl) T.n_range (pa_cons d_int pa_nil)) (blkOk_by (N := ["well", "x", "some", "spot", "e", "k"]) (sc := defScope st_law_right) (by decide +kernel)) rfl (fun _ _ _ _ _ => (pg_name (i := 5) sc_law_right.nd rfl (by first | exact Or.inl rfl | exact Or.inr rfl))) (gt_n (by decide)) (by decide) (gw_n (by decide)) (fun _ _ _ _ _ => (d_2 a_eqD (pe_cmpR (op_eqD (u64 hr)) (d_v (pv 5) (by decide)) (wk (d_v (pv 3) (by decide))) (nomark _))))))) (nomark _))) (s_one (s_ret d_bl)) s_nil) (s_one (s_if (PW.pt (t_or (t_not (t_val (b_isV (.own _) T.is_SlotError (pe_callB call_isV (by rfl) T.n_isinstance PyProof.Rows.boot_isinstance (pa_cons (wk (d_v (pv 4) (by decide))) (pa_cons (pe_glob (v := .ref (cm "SlotError")) (by rfl) T.m_SlotError rfl) pa_nil)))))) (pw_or1 (t_not (t_val (b_isV (.ty _) T.is_ValueError (pe_callB call_isV (by rfl) T.n_isinstance PyProof.Rows.boot_isinstance (pa_cons (wk (d_v (pv 4) (by decide))) (pa_cons (pe_bltn (by rfl) T.n_ValueError boot_ValueError rfl) pa_nil))))))))) (s_one (s_ret d_bl)) s_nil))))))) (s_one (s_ret (d_not (pe_not (b_isB (b := false) (m := "x") (.own _) T.kB_SlotError (pe_callB call_isB (by rfl) T.n_isinstance PyProof.Rows.boot_isinstance (pa_cons (pe_veV (by rfl) T.n_ValueError pe_str) (pa_cons (pe_glob (v := .ref (cm "SlotError")) (by rfl) T.m_SlotError rfl) pa_nil)))))))))))
/-! law -/
abbrev st_law : Stmt := top 20
noncomputable def m_law : Sm := (sSeq (sFor (iEnum (e3 slD (e2 addD (eV 0) (eLst [(eC (.int 0))])) none (some (eC (.int 3))))) (.t [1, 2]) (sIf (eNot (eCallN f_law_right (eLst [(e2 mulD (eV 2) (e1 intD (e2 geD (eV 2) (e2 powD (eC (.int 10)) (eC (.int 18)))))), (e2 addD (e2 modD (eV 2) (eC (.int 2147483647))) (e2 mulD (eC (.int 7919)) (eV 1))), (eC (.int 0))]) [])) (sRet (eC (.bl false))) sPass)) (sRet (eC (.bl true))))
noncomputable def f_law : List D → Fr := hide (fnM 3 1 [] m_law)
theorem d_law : f_law = fnM 3 1 [] m_law := hide_eq _
theorem e_law {ds : List D} {r : Fr} (hl : ds.length = 1) (h : FEnd [] (fun x => x = r) (m_law (startE 3 ds))) : f_law ds = r := by rw [d_law]; exact fn_run (Q := fun x => x = r) hl h
theorem sc_law : FnScope ["script", "k", "cell"] ["script"] (defScope st_law) := ⟨rfl, rfl, rfl, by decide +kernel, rfl, by decide +kernel, by decide +kernel⟩
theorem k_law (T : Tx K mg cm fld) (c_law_right : Cal P w K mg base cm fld "_law_right" 4 1 [0] f_law_right) {g : Addr} {fd : FuncData} (F : Fun K "law" "law" st_law g fd) : FnG P w K mg base (L2.CX P w) 5 g fd ["script"] (spM K cm fld 1 [] f_law) :=
  d_law ▸ FnG.of (fn_mir F sc_law rfl rfl (by decide) [] (fun cdv cd A outer s H G E as hr => by exact (s_seq (s_for (passes_of rfl) rfl (i_enum rfl (by rfl) T.n_enumerate (pa_cons (pe_imp (pe_slice sl_S (d_2 a_addD (pe_op op_addD (d_v (pv 0) (by decide)) (wk (kn (n_lst (a_cons (pa_cons d_int a_nil))))))) po_n (po_s d_int)) (r_sl a_slD)) pa_nil)) (pg_tup rfl (pgs_cons (pg_name (i := 1) sc_law.nd rfl (by first | exact Or.inl rfl | exact Or.inr rfl)) (pgs_cons (pg_name (i := 2) sc_law.nd rfl (by first | exact Or.inl rfl | exact Or.inr rfl)) pgs_nil))) (gt_t (gts_cons (by decide) (gts_cons (by decide) gts_nil)) rfl) (s_one (s_if (t_not (t_val (d_calN c_law_right rfl hr (by decide) (takes_of rfl rfl rfl rfl) (pa_cons (n_lst (a_cons (pa_cons (d_2 a_mulD (pe_op op_mul (d_v (pv 2) (by decide)) (wk (b_1 a_intD (pe_callTy call_int1 (by rfl) T.n_int PyProof.Rows.boot_int (pa_cons (wk (d_2 a_cmpD (pe_cmpR op_ge (d_v (pv 2) (by decide)) (wk (d_2 a_powD (pe_op op_pow d_int (wk d_int)))) (nomark _)))) pa_nil)))))) (a_cons (pa_cons (d_2 a_addD (pe_op op_addD (d_2 a_modD (pe_op op_mod (d_v (pv 2) (by decide)) (wk d_int))) (wk (d_2 a_mulD (pe_op op_mul d_int (wk (d_v (pv 1) (by decide)))))))) (a_cons (pa_cons d_int a_nil))))))) a_nil) rfl))) (s_one (s_ret d_bl)) s_nil))) (s_one (s_ret d_bl)))))
end
end Mi

end
section
set_option linter.all false
set_option autoImplicit false
/-! plain facts about the mirror's combinators -/
namespace Mi
open PySem PySem.Spec

theorem eV_at {i : Nat} {δ : Env} {d : D} (h : δ[i]? = some (some d)) : eV i δ = .ok d δ := by unfold eV; rw [h]
/-- a while loop by a measure -/
theorem while_by {c : Ex} {b : Sm} (I : Env → Prop) (Z : Env → Prop) (μ : Env → Nat) (h : ∀ δ, I δ → (∃ δ1, c δ = .ok (.bl false) δ1 ∧ Z δ1) ∨ ∃ δ1 δ2, c δ = .ok (.bl true) δ1 ∧ b δ1 = .nx δ2 ∧ I δ2 ∧ μ δ2 < μ δ) {δ : Env} (h0 : I δ) : ∃ δ', sWhile c b δ = .nx δ' ∧ Z δ' := by
  have key : ∀ n δ, μ δ < n → I δ → ∃ k δ', whN c b k δ = some (.nx δ') ∧ Z δ' := by
    intro n
    induction n with
    | zero => intro δ h1; omega
    | succ n ih =>
      intro δ h1 h2
      rcases h δ h2 with ⟨δ1, e, z⟩ | ⟨δ1, δ2, e1, e2, h3, h4⟩
      · exact ⟨1, δ1, by simp [whN, e], z⟩
      · obtain ⟨k, δ', e3, z⟩ := ih δ2 (by omega) h3
        exact ⟨k + 1, δ', by simp [whN, e1, e2, e3], z⟩
  obtain ⟨k, δ', e, z⟩ := key (μ δ + 1) δ (by omega) h0
  exact ⟨δ', sWhile_of e, z⟩
/-- a for loop that runs through -/
theorem for_by {t : Tg} {b : Sm} (I : Nat → Env → Prop) {ds : List D} (h : ∀ i d δ, ds[i]? = some d → I i δ → ∃ δ1 δ2, t.put d δ = some δ1 ∧ (b δ1 = .nx δ2 ∨ b δ1 = .ct δ2) ∧ I (i + 1) δ2) {δ : Env} (h0 : I 0 δ) : ∃ δ', forL t b ds δ = .nx δ' ∧ I ds.length δ' := by
  have key : ∀ (r : List D) (i : Nat) (δ : Env), (∀ j, r[j]? = ds[i + j]?) → I i δ → ∃ δ', forL t b r δ = .nx δ' ∧ I (i + r.length) δ' := by
    intro r
    induction r with
    | nil => intro i δ _ hi; exact ⟨δ, rfl, hi⟩
    | cons d r ih =>
      intro i δ hr hi
      obtain ⟨δ1, δ2, e1, e2, h2⟩ := h i d δ (by have := hr 0; simpa using this.symm) hi
      obtain ⟨δ', e3, h3⟩ := ih (i + 1) δ2 (fun j => by have := hr (j + 1); rw [show i + 1 + j = i + (j + 1) by omega]; simpa using this) h2
      refine ⟨δ', ?_, by rw [List.length_cons, show i + (r.length + 1) = i + 1 + r.length by omega]; exact h3⟩
      rcases e2 with e2 | e2 <;> simp [forL, e1, e2, e3]
  obtain ⟨δ', e, z⟩ := key ds 0 δ (fun j => by simp) h0
  exact ⟨δ', e, by simpa using z⟩
/-- .. or ends with what the first hit tells: hit i d δ (some o) says that the turn at d ends with o -/
theorem for_hit {t : Tg} {b : Sm} {ds : List D} (I : Nat → Env → Prop) (stop : Nat → D → Option Out) (h : ∀ i d δ, ds[i]? = some d → I i δ → ∃ δ1, t.put d δ = some δ1 ∧ (match stop i d with
      | some o => b δ1 = o ∧ (∀ δ2, o ≠ .nx δ2 ∧ o ≠ .ct δ2 ∧ o ≠ .bk δ2)
      | none => ∃ δ2, (b δ1 = .nx δ2 ∨ b δ1 = .ct δ2) ∧ I (i + 1) δ2)) {δ : Env} (h0 : I 0 δ) :
    (∃ i d o, ds[i]? = some d ∧ stop i d = some o ∧ (∀ j e, j < i → ds[j]? = some e → stop j e = none) ∧ forL t b ds δ = o) ∨ ((∀ j e, ds[j]? = some e → stop j e = none) ∧ ∃ δ', forL t b ds δ = .nx δ' ∧ I ds.length δ') := by
  have key : ∀ (r : List D) (i : Nat) (δ : Env), (∀ j, r[j]? = ds[i + j]?) → I i δ →
      (∃ k d o, r[k]? = some d ∧ stop (i + k) d = some o ∧ (∀ j e, j < k → r[j]? = some e → stop (i + j) e = none) ∧ forL t b r δ = o) ∨ ((∀ j e, r[j]? = some e → stop (i + j) e = none) ∧ ∃ δ', forL t b r δ = .nx δ' ∧ I (i + r.length) δ') := by
    intro r
    induction r with
    | nil => intro i δ _ hi; exact .inr ⟨fun j e z => by simp at z, δ, rfl, hi⟩
    | cons d r ih =>
      intro i δ hr hi
      obtain ⟨δ1, e1, hm⟩ := h i d δ (by have := hr 0; simpa using this.symm) hi
      cases es : stop i d with
      | some o =>
        rw [es] at hm
        obtain ⟨e2, ne⟩ := hm
        refine .inl ⟨0, d, o, rfl, es, fun j e hj => by omega, ?_⟩
        unfold forL
        rw [e1]
        simp only [e2]
        cases o with
        | nx δ2 => exact absurd rfl (ne δ2).1
        | ct δ2 => exact absurd rfl (ne δ2).2.1
        | bk δ2 => exact absurd rfl (ne δ2).2.2
        | _ => rfl
      | none =>
        rw [es] at hm
        obtain ⟨δ2, e2, h2⟩ := hm
        have st : forL t b (d :: r) δ = forL t b r δ2 := by rcases e2 with e2 | e2 <;> simp [forL, e1, e2]
        rcases ih (i + 1) δ2 (fun j => by have := hr (j + 1); rw [show i + 1 + j = i + (j + 1) by omega]; simpa using this) h2 with ⟨k, d', o, h3, h4, h5, h6⟩ | ⟨h3, δ', h4, h5⟩
        · refine .inl ⟨k + 1, d', o, by simpa using h3, by rw [show i + (k + 1) = i + 1 + k by omega]; exact h4, fun j e hj he => ?_, by rw [st]; exact h6⟩
          cases j with
          | zero => simp at he; subst he; exact es
          | succ j => rw [show i + (j + 1) = i + 1 + j by omega]; exact h5 j e (by omega) (by simpa using he)
        · refine .inr ⟨fun j e he => ?_, δ', by rw [st]; exact h4, by rw [List.length_cons, show i + (r.length + 1) = i + 1 + r.length by omega]; exact h5⟩
          cases j with
          | zero => simp at he; subst he; exact es
          | succ j => rw [show i + (j + 1) = i + 1 + j by omega]; exact h3 j e (by simpa using he)
  rcases key ds 0 δ (fun j => by simp) h0 with ⟨k, d, o, h1, h2, h3, h4⟩ | ⟨h1, δ', h2, h3⟩
  · exact .inl ⟨k, d, o, h1, by simpa using h2, fun j e hj he => by simpa using h3 j e hj he, h4⟩
  · exact .inr ⟨fun j e he => by simpa using h1 j e he, δ', h2, by simpa using h3⟩
end Mi

end
section
set_option linter.all false
set_option autoImplicit false
set_option maxRecDepth 20000
namespace Mi
open PySem PySem.Spec
/-! which values equality and repr take -/
theorem okD_of {d : D} (h : d.py.canLay0 = true) (h2 : d.py.depth ≤ 64) : okD d = true := by
  unfold okD SeqAt.shaped
  rw [h, decide_eq_true h2]
  rfl
theorem pys_len : ∀ xs : List D, (D.pys xs).length = xs.length
  | [] => rfl
  | x :: xs => by rw [D.pys, List.length_cons, List.length_cons, pys_len xs]
theorem laid_all : ∀ {xs : List D}, (∀ x ∈ xs, x.py.canLay0 = true ∧ x.py.depth ≤ 4) → PyData.canLayAll0 (D.pys xs) = true ∧ PyData.depthAll (D.pys xs) ≤ 4
  | [], _ => ⟨by simp [D.pys, PyData.canLayAll0], by simp [D.pys, PyData.depthAll]⟩
  | x :: xs, h => by
    obtain ⟨a, b⟩ := laid_all (xs := xs) fun y hy => h y (.tail _ hy)
    obtain ⟨c, d⟩ := h x (.head _)
    refine ⟨by simp [D.pys, PyData.canLayAll0, a, c], ?_⟩
    simp only [D.pys, PyData.depthAll]
    omega
theorem ok_lst {xs : List D} (h : ∀ x ∈ xs, x.py.canLay0 = true ∧ x.py.depth ≤ 4) : okD (.lst xs) = true := by
  obtain ⟨a, b⟩ := laid_all h
  refine okD_of (by simp only [D.py, PyData.canLay0]; exact a) ?_
  simp only [D.py, PyData.depth]
  omega
theorem ok_tup {xs : List D} (h : ∀ x ∈ xs, x.py.canLay0 = true ∧ x.py.depth ≤ 4) : okD (.tup xs) = true := by
  obtain ⟨a, b⟩ := laid_all h
  refine okD_of (by simp only [D.py, PyData.canLay0]; exact a) ?_
  simp only [D.py, PyData.depth]
  omega
theorem laid_int (i : Int) : (D.int i).py.canLay0 = true ∧ (D.int i).py.depth ≤ 4 := ⟨by simp [D.py, PyData.canLay0], by simp [D.py, PyData.depth]⟩
theorem laid_ints (ns : List Int) : ∀ x ∈ ns.map D.int, x.py.canLay0 = true ∧ x.py.depth ≤ 4 := fun x hx => by
  obtain ⟨i, _, rfl⟩ := List.mem_map.mp hx
  exact laid_int i
@[simp] theorem ok_int (i : Int) : okD (.int i) = true := okD_of (laid_int i).1 (Nat.le_trans (laid_int i).2 (by decide))
@[simp] theorem ok_ints (ns : List Int) : okD (.lst (ns.map .int)) = true := ok_lst (laid_ints ns)
@[simp] theorem ok_intsT (ns : List Int) : okD (.tup (ns.map .int)) = true := ok_tup (laid_ints ns)
@[simp] theorem ok_nil : okD (.lst []) = true := ok_lst fun _ h => nomatch h
@[simp] theorem ok_non : okD .non = true := okD_of (by simp [D.py, PyData.canLay0]) (by simp [D.py, PyData.depth])
theorem eqv_lst_nil : ∀ xs : List D, PyData.eqv (D.lst xs).py (D.lst []).py = xs.isEmpty
  | [] => by simp [D.py, D.pys, PyData.eqv, PyData.eqvAll]
  | x :: xs => by simp [D.py, D.pys, PyData.eqv, PyData.eqvAll]
theorem ne_nil {xs : List D} (h : okD (.lst xs) = true) : neD (.lst xs) (.lst []) = some (.bl (!xs.isEmpty)) := by
  unfold neD
  rw [h, ok_nil, eqv_lst_nil]
  rfl
theorem eq_nil {xs : List D} (h : okD (.lst xs) = true) : eqD (.lst xs) (.lst []) = some (.bl xs.isEmpty) := by
  unfold eqD
  rw [h, ok_nil, eqv_lst_nil]
  rfl
theorem eqv_int (i j : Int) : PyData.eqv (D.int i).py (D.int j).py = decide (i = j) := by
  simp only [D.py, PyData.eqv]
  by_cases h : i = j <;> simp [h]
@[simp] theorem eq_int (i j : Int) : eqD (.int i) (.int j) = some (.bl (decide (i = j))) := by
  unfold eqD
  rw [ok_int, ok_int, eqv_int]
  rfl
@[simp] theorem ne_int (i j : Int) : neD (.int i) (.int j) = some (.bl (!decide (i = j))) := by
  unfold neD
  rw [ok_int, ok_int, eqv_int]
  rfl
theorem inB_ints (i : Int) (ns : List Int) : inB (.int i) (ns.map .int) = decide (i ∈ ns) := by
  induction ns with
  | nil => rfl
  | cons n ns ih =>
    have e : inB (.int i) ((n :: ns).map .int) = (PyData.eqv (D.int n).py (D.int i).py || inB (.int i) (ns.map .int)) := rfl
    rw [e, ih, eqv_int]
    by_cases h : n = i
    · simp [h]
    · have : ¬ i = n := fun z => h z.symm
      simp [h, this]
@[simp] theorem in_ints (i : Int) (ns : List Int) : inD (.int i) (.lst (ns.map .int)) = some (.bl (decide (i ∈ ns))) := by
  simp only [inD, inO, ok_int, ok_ints, Bool.and_self, if_true, inB_ints, Option.map_some]
@[simp] theorem in_intsT (i : Int) (ns : List Int) : inD (.int i) (.tup (ns.map .int)) = some (.bl (decide (i ∈ ns))) := by
  simp only [inD, inO, ok_int, ok_intsT, Bool.and_self, if_true, inB_ints, Option.map_some]
@[simp] theorem nin_ints (i : Int) (ns : List Int) : ninD (.int i) (.lst (ns.map .int)) = some (.bl (!decide (i ∈ ns))) := by
  simp only [ninD, inO, ok_int, ok_ints, Bool.and_self, if_true, inB_ints, Option.map_some]
@[simp] theorem nin_intsT (i : Int) (ns : List Int) : ninD (.int i) (.tup (ns.map .int)) = some (.bl (!decide (i ∈ ns))) := by
  simp only [ninD, inO, ok_int, ok_intsT, Bool.and_self, if_true, inB_ints, Option.map_some]
@[simp] theorem intsO_map : ∀ ns : List Int, intsO (ns.map .int) = some ns
  | [] => rfl
  | n :: ns => by
    show (intsO (ns.map .int)).map (n :: ·) = _
    rw [intsO_map ns]
    rfl
@[simp] theorem blsO_map : ∀ ns : List Bool, blsO (ns.map .bl) = some ns
  | [] => rfl
  | n :: ns => by
    show (blsO (ns.map .bl)).map (n :: ·) = _
    rw [blsO_map ns]
    rfl
/-- an item at a known place -/
theorem idx_at {xs : List D} {i : Int} (h0 : 0 ≤ i) (h1 : i < xs.length) : ∃ d, xs[i.toNat]? = some d ∧ idxD (.lst xs) (.int i) = some d ∧ idxD (.tup xs) (.int i) = some d := by
  have hl : i.toNat < xs.length := by omega
  refine ⟨xs[i.toNat], List.getElem?_eq_getElem hl, ?_, ?_⟩ <;> simp [idxD, seqOf, ixD, h0, h1, hl]
theorem idx_ints {ns : List Int} {i : Int} (h0 : 0 ≤ i) (h1 : i < ns.length) : ∃ k, ns[i.toNat]? = some k ∧ k ∈ ns ∧ idxD (.lst (ns.map .int)) (.int i) = some (.int k) ∧ idxD (.tup (ns.map .int)) (.int i) = some (.int k) := by
  have hl : i.toNat < ns.length := by omega
  obtain ⟨d, e, e2, e3⟩ := idx_at (xs := ns.map .int) h0 (by simpa using h1)
  rw [List.getElem?_map, List.getElem?_eq_getElem hl] at e
  cases e
  exact ⟨ns[i.toNat], List.getElem?_eq_getElem hl, List.getElem_mem hl, e2, e3⟩
theorem idx_mem {xs : List D} {i : Int} (h0 : 0 ≤ i) (h1 : i < xs.length) : ∃ d ∈ xs, idxD (.lst xs) (.int i) = some d := by
  obtain ⟨d, e, e2, _⟩ := idx_at h0 h1
  exact ⟨d, List.mem_of_getElem? e, e2⟩
/-! what is shown -/
def shw (n m : Nat) (d : D) : Bool := d.py.canLay0 && (d.py.showable && (decide (d.py.depth ≤ n) && (PyData.strOk d.py.shown && decide (d.py.shown.length ≤ m))))
theorem strOk_append (a b : Str) : PyData.strOk (a ++ b) = (PyData.strOk a && PyData.strOk b) := by
  unfold PyData.strOk
  rw [Str.cps_append, Array.all_append]
theorem repr_of {d : D} (h : shw 2 10000 d = true) : ∃ s, reprD d = some (.str s) ∧ neD (.str s) (.str s) = some (.bl false) := by
  simp only [shw, Bool.and_eq_true, decide_eq_true_eq] at h
  obtain ⟨a, b, c, e, f⟩ := h
  have g : showO d = some d.py.shown := by
    unfold showO
    rw [a, b, PyData.hasDict_of_canLay _ a, decide_eq_true (show d.py.depth ≤ 64 by omega), decide_eq_true (show d.py.shown.length ≤ cap from Nat.le_trans f (cap_of (by decide)))]
    rfl
  have ne : emptyB d = false := by
    cases d with
    | dic ds => simp [D.py, PyData.canLay0] at a
    | _ => rfl
  refine ⟨_, by unfold reprD; rw [ne, g]; rfl, ?_⟩
  unfold neD
  rw [okD_of (d := .str d.py.shown) (by simp only [D.py, PyData.canLay0]; exact e) (by simp only [D.py, PyData.depth]; omega)]
  simp [D.py, PyData.eqv]
theorem shws {xs : List D} : (∀ x ∈ xs, shw 1 10 x = true) → PyData.canLayAll0 (D.pys xs) = true ∧ PyData.showableAll (D.pys xs) = true ∧ PyData.depthAll (D.pys xs) ≤ 1 ∧ (PyData.shownAll (D.pys xs)).length = xs.length ∧ ∀ t ∈ PyData.shownAll (D.pys xs), PyData.strOk t = true ∧ t.length ≤ 10 := by
  induction xs with
  | nil => intro _; simp [D.pys, PyData.canLayAll0, PyData.showableAll, PyData.depthAll, PyData.shownAll]
  | cons x xs ih =>
    intro h
    obtain ⟨a, b, c, e, f⟩ := ih fun y hy => h y (.tail _ hy)
    have hx := h x (.head _)
    simp only [shw, Bool.and_eq_true, decide_eq_true_eq] at hx
    obtain ⟨a1, b1, c1, e1, f1⟩ := hx
    refine ⟨by simp [D.pys, PyData.canLayAll0, a, a1], by simp [D.pys, PyData.showableAll, b, b1], ?_, by simp [D.pys, PyData.shownAll, e], ?_⟩
    · simp only [D.pys, PyData.depthAll]; omega
    · intro t ht
      simp only [D.pys, PyData.shownAll, List.mem_cons] at ht
      rcases ht with rfl | ht
      · exact ⟨e1, f1⟩
      · exact f t ht
theorem lit1 : PyData.strOk ((", " : String) : Str) = true ∧ PyData.strOk (("" : String) : Str) = true ∧ PyData.strOk (("(" : String) : Str) = true ∧ PyData.strOk ((")" : String) : Str) = true ∧ PyData.strOk ((",)" : String) : Str) = true ∧ PyData.strOk (("[" : String) : Str) = true ∧ PyData.strOk (("]" : String) : Str) = true := by decide +kernel
theorem join_ok : ∀ {ts : List Str}, (∀ t ∈ ts, PyData.strOk t = true ∧ t.length ≤ 10) → PyData.strOk (Str.join ", " ts) = true ∧ (Str.join ", " ts).length ≤ 12 * ts.length
  | [], _ => ⟨by decide +kernel, by decide +kernel⟩
  | [t], h => ⟨(h t (.head _)).1, Nat.le_trans (h t (.head _)).2 (by simp)⟩
  | t :: u :: r, h => by
    obtain ⟨a, b⟩ := join_ok (ts := u :: r) fun y hy => h y (.tail _ hy)
    obtain ⟨c, d⟩ := h t (.head _)
    show PyData.strOk (t ++ ", " ++ Str.join ", " (u :: r)) = true ∧ (t ++ ", " ++ Str.join ", " (u :: r)).length ≤ _
    rw [strOk_append, strOk_append, Str.length_append, Str.length_append, a, c]
    have e : ((", " : String) : Str).length = 2 := rfl
    rw [e, lit1.1]
    refine ⟨rfl, ?_⟩
    simp only [List.length_cons] at b ⊢
    omega
theorem text_ok : ∀ {ts : List Str} {k : Nat} {acc : Str}, (∀ t ∈ ts, PyData.strOk t = true ∧ t.length ≤ 10) → PyData.strOk acc = true → PyData.strOk (textFrom k acc ts) = true ∧ (textFrom k acc ts).length ≤ acc.length + 12 * ts.length
  | [], _, _, _, h => ⟨h, Nat.le_refl _⟩
  | t :: r, k, acc, h, ha => by
    obtain ⟨c, d⟩ := h t (.head _)
    have e : PyData.strOk (acc ++ (if k > 0 then ", " else "" : String) ++ t) = true ∧ (acc ++ (if k > 0 then ", " else "" : String) ++ t).length ≤ acc.length + 2 + t.length := by
      rw [strOk_append, strOk_append, Str.length_append, Str.length_append, ha, c]
      by_cases hk : k > 0
      · rw [if_pos hk, lit1.1]; exact ⟨rfl, Nat.le_refl _⟩
      · have z : (("" : String) : Str).length = 0 := rfl
        rw [if_neg hk, lit1.2.1, z]
        exact ⟨rfl, by omega⟩
    obtain ⟨a, b⟩ := text_ok (ts := r) (k := k + 1) (fun y hy => h y (.tail _ hy)) e.1
    refine ⟨a, ?_⟩
    have := e.2
    show (textFrom (k + 1) _ r).length ≤ _
    simp only [List.length_cons]
    omega
theorem shw_tup {xs : List D} (h : ∀ x ∈ xs, shw 1 10 x = true) (hl : xs.length ≤ 800) : shw 2 10000 (.tup xs) = true := by
  obtain ⟨a, b, c, e, f⟩ := shws h
  obtain ⟨j1, j2⟩ := join_ok f
  simp only [shw, Bool.and_eq_true, decide_eq_true_eq, D.py, PyData.canLay0, PyData.showable, PyData.depth, PyData.shown, tupleText]
  refine ⟨a, b, by omega, ?_, ?_⟩
  · rw [strOk_append, strOk_append, j1, lit1.2.2.1]
    split
    · rw [lit1.2.2.2.2.1]; rfl
    · rw [lit1.2.2.2.1]; rfl
  · rw [Str.length_append, Str.length_append]
    have g : ∀ c : Bool, ((if c = true then ",)" else ")" : String) : Str).length ≤ 2 := by decide
    have g1 : ((("(" : String)) : Str).length = 1 := rfl
    have := g ((PyData.shownAll (D.pys xs)).length == 1)
    omega
theorem shw_lst {xs : List D} (h : ∀ x ∈ xs, shw 1 10 x = true) (hl : xs.length ≤ 800) : shw 2 10000 (.lst xs) = true := by
  obtain ⟨a, b, c, e, f⟩ := shws h
  obtain ⟨j1, j2⟩ := text_ok (k := 0) (acc := "[") f lit1.2.2.2.2.2.1
  simp only [shw, Bool.and_eq_true, decide_eq_true_eq, D.py, PyData.canLay0, PyData.showable, PyData.depth, PyData.shown, listText]
  refine ⟨a, b, by omega, ?_, ?_⟩
  · rw [strOk_append, j1, lit1.2.2.2.2.2.2]
    rfl
  · rw [Str.length_append]
    have g1 : ((("[" : String)) : Str).length = 1 := rfl
    have g2 : ((("]" : String)) : Str).length = 1 := rfl
    omega
def smalls : List D := [.bl true, .bl false, .non, .str "0", .lst [.int 0]] ++ (List.range 62).map (fun k => .int ((k : Int) - 1))
theorem smalls_ok : smalls.all (shw 1 10) = true := by decide +kernel
theorem small_shw {d : D} (h : d ∈ smalls) : shw 1 10 d = true := List.all_eq_true.mp smalls_ok d h
theorem small_int {i : Int} (h0 : -1 ≤ i) (h1 : i ≤ 60) : D.int i ∈ smalls := by
  refine List.mem_append_right _ (List.mem_map.mpr ⟨(i + 1).toNat, List.mem_range.mpr (by omega), ?_⟩)
  congr 1
  omega
end Mi

end
section
set_option linter.all false
set_option autoImplicit false
/-! open slots: plain mathematics -/
namespace Mi
def rgI (n : Nat) : List Int := (List.range n).map fun (k : Nat) => (k : Int)
theorem rgI_mem {n : Nat} {i : Int} : i ∈ rgI n ↔ 0 ≤ i ∧ i < n := by
  unfold rgI
  rw [List.mem_map]
  constructor
  · rintro ⟨k, hk, rfl⟩
    have := List.mem_range.mp hk
    omega
  · intro h
    exact ⟨i.toNat, List.mem_range.mpr (by omega), by omega⟩
theorem rgI_nodup (n : Nat) : (rgI n).Nodup := by
  unfold rgI
  rw [List.nodup_iff_pairwise_ne, List.pairwise_map]
  exact List.nodup_range.imp fun h e => h (by omega)
theorem rgI_lt (n : Nat) : (rgI n).Pairwise (· < ·) := by
  unfold rgI
  rw [List.pairwise_map]
  exact List.pairwise_lt_range.imp fun h => by omega
theorem rgI_len (n : Nat) : (rgI n).length = n := by simp [rgI]
theorem nd_len : ∀ {l l' : List Int}, l.Nodup → (∀ x ∈ l, x ∈ l') → l.length ≤ l'.length
  | [], _, _, _ => Nat.zero_le _
  | x :: l, l', h, hs => by
    rw [List.nodup_cons] at h
    have hx := hs x List.mem_cons_self
    have ih := nd_len (l := l) (l' := l'.erase x) h.2 fun z hz => (List.mem_erase_of_ne (fun e => h.1 (by rw [← e]; exact hz))).mpr (hs z (List.mem_cons_of_mem _ hz))
    rw [List.length_erase_of_mem hx] at ih
    have := List.length_pos_of_mem hx
    rw [List.length_cons]
    omega
/-- a book: n slots, a row of slots for each appointment -/
structure BkOk (n : Nat) (al : List (List Int)) : Prop where
  n1 : 1 ≤ n
  n60 : n ≤ 60
  len : al.length ≤ 60
  ne : ∀ l ∈ al, l ≠ []
  asc : ∀ l ∈ al, l.Pairwise (· < ·)
  rng : ∀ l ∈ al, ∀ x ∈ l, 0 ≤ x ∧ x < n
/-- a timetable of it -/
structure TtOk (al : List (List Int)) (tt : List Int) : Prop where
  len : tt.length = al.length
  nd : tt.Nodup
  may : ∀ (j : Nat) (l : List Int) (k : Int), al[j]? = some l → tt[j]? = some k → k ∈ l
/-- sorted lists without repetition are known by their items -/
theorem lt_unique : ∀ {l l' : List Int}, l.Pairwise (· < ·) → l'.Pairwise (· < ·) → (∀ x, x ∈ l ↔ x ∈ l') → l = l'
  | [], [], _, _, _ => rfl
  | [], x :: l', _, _, h => by have := (h x).mpr List.mem_cons_self; cases this
  | x :: l, [], _, _, h => by have := (h x).mp List.mem_cons_self; cases this
  | x :: l, y :: l', h1, h2, h => by
    rw [List.pairwise_cons] at h1 h2
    have e : x = y := by
      rcases List.mem_cons.mp ((h x).mp List.mem_cons_self) with e | e
      · exact e
      · rcases List.mem_cons.mp ((h y).mpr List.mem_cons_self) with e2 | e2
        · exact e2.symm
        · have a := h1.1 y e2
          have b := h2.1 x e
          omega
    subst e
    congr 1
    refine lt_unique h1.2 h2.2 fun z => ⟨fun hz => ?_, fun hz => ?_⟩
    · rcases List.mem_cons.mp ((h z).mp (List.mem_cons_of_mem _ hz)) with e | e
      · have := h1.1 z hz; omega
      · exact e
    · rcases List.mem_cons.mp ((h z).mpr (List.mem_cons_of_mem _ hz)) with e | e
      · have := h2.1 z hz; omega
      · exact e
theorem BkOk.row_len {n : Nat} {al : List (List Int)} (h : BkOk n al) {l : List Int} (hl : l ∈ al) : l.length ≤ n := by
  have hs : ∀ x ∈ l, x ∈ rgI n := fun x hx => rgI_mem.mpr (h.rng l hl x hx)
  have nd : l.Nodup := by
    rw [List.nodup_iff_pairwise_ne]
    exact (h.asc l hl).imp fun h e => by omega
  have := nd_len nd hs
  rwa [rgI_len] at this
theorem TtOk.in_rg {n : Nat} {al : List (List Int)} {tt : List Int} (h : BkOk n al) (t : TtOk al tt) : ∀ x ∈ tt, 0 ≤ x ∧ x < n := fun x hx => by
  obtain ⟨j, hj, e⟩ := List.getElem_of_mem hx
  have ja : j < al.length := by rw [← t.len]; exact hj
  exact h.rng al[j] (List.getElem_mem ja) x (t.may j _ x (List.getElem?_eq_getElem ja) (by rw [List.getElem?_eq_getElem hj, e]))
theorem TtOk.le_n {n : Nat} {al : List (List Int)} {tt : List Int} (h : BkOk n al) (t : TtOk al tt) : tt.length ≤ n := by
  have := nd_len t.nd fun x hx => rgI_mem.mpr (t.in_rg h x hx)
  rwa [rgI_len] at this
/-- open: free, or its appointment may use an open one -/
inductive Opn (n : Nat) (al : List (List Int)) (tt : List Int) : Int → Prop
  | free {s : Int} : 0 ≤ s → s < n → s ∉ tt → Opn n al tt s
  | step {s y : Int} {j : Nat} {l : List Int} : tt[j]? = some s → al[j]? = some l → y ∈ l → Opn n al tt y → Opn n al tt s
section
variable {n : Nat} {al : List (List Int)} {tt : List Int}
theorem Opn.rg (h : BkOk n al) (t : TtOk al tt) {s : Int} (o : Opn n al tt s) : 0 ≤ s ∧ s < n := by
  cases o with
  | free a b _ => exact ⟨a, b⟩
  | step e _ _ _ => exact t.in_rg h s (List.mem_of_getElem? e)
/-- a set of slots that the appointments in it can not leave holds no open slot -/
theorem tight_closed (S : Int → Prop) (occ : ∀ s, S s → s ∈ tt) (st : ∀ (j : Nat) (l : List Int) (s : Int), tt[j]? = some s → al[j]? = some l → S s → ∀ y ∈ l, S y) {s : Int} (o : Opn n al tt s) : ¬ S s := by
  induction o with
  | free _ _ hn => exact fun hs => hn (occ _ hs)
  | step e1 e2 hy _ ih => exact fun hs => ih (st _ _ _ e1 e2 hs _ hy)
/-- one move: the open slots stay -/
def mvd (tt : List Int) (j : Nat) (s : Int) : List Int := tt.set j s
theorem opn_move_sub (h : BkOk n al) (t : TtOk al tt) {j : Nat} {a b : Int} {l : List Int} (ha : tt[j]? = some a) (hl : al[j]? = some l) (hb : b ∈ l) (hf : b ∉ tt) {s : Int} (o : Opn n al (tt.set j b) s) : Opn n al tt s := by
  have jl : j < tt.length := (List.getElem?_eq_some_iff.mp ha).1
  have hbr := h.rng l (List.mem_of_getElem? hl) b hb
  have ob : Opn n al tt b := .free hbr.1 hbr.2 hf
  have oa : Opn n al tt a := .step ha hl hb ob
  induction o with
  | @free s h1 h2 h3 =>
    by_cases hs : s ∈ tt
    · obtain ⟨i, hi, e⟩ := List.getElem_of_mem hs
      by_cases hij : j = i
      · subst hij
        rw [List.getElem?_eq_getElem hi, e] at ha
        cases ha
        exact oa
      · exact absurd (List.mem_of_getElem? (show (tt.set j b)[i]? = some s by rw [List.getElem?_set_ne hij, List.getElem?_eq_getElem hi, e])) h3
    · exact .free h1 h2 hs
  | @step s y i r h1 h2 h3 _ ih =>
    by_cases hij : j = i
    · subst hij
      rw [List.getElem?_set_self jl] at h1
      cases h1
      exact ob
    · rw [List.getElem?_set_ne hij] at h1
      exact .step h1 h2 h3 ih
theorem TtOk.move (t : TtOk al tt) {j : Nat} {b : Int} {l : List Int} (hl : al[j]? = some l) (hb : b ∈ l) (hf : b ∉ tt) : TtOk al (tt.set j b) where
  len := by rw [List.length_set]; exact t.len
  nd := by
    rw [List.nodup_iff_pairwise_ne, List.pairwise_iff_getElem]
    intro i k hi hk hik
    have nd := List.pairwise_iff_getElem.mp (List.nodup_iff_pairwise_ne.mp t.nd)
    rw [List.length_set] at hi hk
    rw [List.getElem_set, List.getElem_set]
    split
    · split
      · omega
      · intro e; exact hf (by rw [e]; exact List.getElem_mem hk)
    · split
      · intro e; exact hf (by rw [← e]; exact List.getElem_mem hi)
      · exact nd i k hi hk hik
  may := fun i r k hr hk => by
    by_cases hij : j = i
    · subst hij
      have jl : j < (tt.set j b).length := (List.getElem?_eq_some_iff.mp hk).1
      rw [List.length_set] at jl
      rw [List.getElem?_set_self jl] at hk
      cases hk
      rw [hl] at hr
      cases hr
      exact hb
    · rw [List.getElem?_set_ne hij] at hk
      exact t.may i r k hr hk
theorem opn_move (h : BkOk n al) (t : TtOk al tt) {j : Nat} {a b : Int} {l : List Int} (ha : tt[j]? = some a) (hl : al[j]? = some l) (hb : b ∈ l) (hf : b ∉ tt) (s : Int) : Opn n al (tt.set j b) s ↔ Opn n al tt s := by
  refine ⟨opn_move_sub h t ha hl hb hf, fun o => ?_⟩
  have jl : j < tt.length := (List.getElem?_eq_some_iff.mp ha).1
  have hal := t.may j l a hl ha
  have t2 := t.move hl hb hf
  have naf : a ∉ tt.set j b := fun hm => by
    obtain ⟨i, hi, e⟩ := List.getElem_of_mem hm
    rw [List.length_set] at hi
    rw [List.getElem_set] at e
    split at e
    · subst e; exact hf (List.mem_of_getElem? ha)
    · rename_i hij
      have nd := List.pairwise_iff_getElem.mp (List.nodup_iff_pairwise_ne.mp t.nd)
      have ea : tt[j] = a := by rw [List.getElem?_eq_getElem jl] at ha; exact Option.some.inj ha
      rcases Nat.lt_or_gt_of_ne hij with g | g
      · exact nd j i jl hi g (by rw [ea, e])
      · exact nd i j hi jl g (by rw [ea, e])
  have hb2 : (tt.set j b)[j]? = some b := List.getElem?_set_self jl
  have e : (tt.set j b).set j a = tt := by
    refine List.ext_getElem? fun i => ?_
    by_cases hij : j = i
    · subst hij
      rw [List.getElem?_set_self (by rw [List.length_set]; exact jl), ha]
    · rw [List.getElem?_set_ne hij, List.getElem?_set_ne hij]
  exact opn_move_sub h t2 hb2 hl hal naf (by rw [e]; exact o)
/-- being open or not, by appointment -/
theorem opn_at_move (h : BkOk n al) (t : TtOk al tt) {j : Nat} {a b : Int} {l : List Int} (ha : tt[j]? = some a) (hl : al[j]? = some l) (hb : b ∈ l) (hf : b ∉ tt) {i : Nat} {x y : Int} (hx : tt[i]? = some x) (hy : (tt.set j b)[i]? = some y) : Opn n al (tt.set j b) y ↔ Opn n al tt x := by
  rw [opn_move h t ha hl hb hf]
  have hbr := h.rng l (List.mem_of_getElem? hl) b hb
  have ob : Opn n al tt b := .free hbr.1 hbr.2 hf
  by_cases hij : j = i
  · subst hij
    rw [List.getElem?_set_self (List.getElem?_eq_some_iff.mp ha).1] at hy
    cases hy
    rw [ha] at hx
    cases hx
    exact ⟨fun _ => .step ha hl hb ob, fun _ => ob⟩
  · rw [List.getElem?_set_ne hij, hx] at hy
    cases hy
    exact Iff.rfl
end
open Classical in
/-- the open slots -/
noncomputable def opnL (n : Nat) (al : List (List Int)) (tt : List Int) : List Int := (rgI n).filter fun s => decide (Opn n al tt s)
theorem opnL_lt (n : Nat) (al : List (List Int)) (tt : List Int) : (opnL n al tt).Pairwise (· < ·) := (rgI_lt n).filter _
theorem opnL_mem {n : Nat} {al : List (List Int)} {tt : List Int} (h : BkOk n al) (t : TtOk al tt) {s : Int} : s ∈ opnL n al tt ↔ Opn n al tt s := by
  unfold opnL
  rw [List.mem_filter]
  simp only [decide_eq_true_eq]
  exact ⟨fun a => a.2, fun a => ⟨rgI_mem.mpr (a.rg h t), a⟩⟩
end Mi

end
section
set_option linter.all false
set_option autoImplicit false
set_option maxRecDepth 20000
/-! a calculus of ends over the mirror -/
namespace Mi
open PySem PySem.Spec
/-! ### running -/
section
variable {α β : Type}
theorem bind_cg {x x' : Res α} {f : α → Env → Res β} (h : x = x') : x.bind f = x'.bind f := by rw [h]
theorem out_cg {x x' : Res α} {f : α → Env → Out} (h : x = x') : x.out f = x'.out f := by rw [h]
theorem bind_out (x : Res α) (f : α → Env → Res β) (g : β → Env → Out) : (x.bind f).out g = x.out fun a δ => (f a δ).out g := by cases x <;> rfl
theorem bind_bind {γ : Type} (x : Res α) (f : α → Env → Res β) (g : β → Env → Res γ) : (x.bind f).bind g = x.bind fun a δ => (f a δ).bind g := by cases x <;> rfl
end
def Out.seq (o : Out) (r : Sm) : Out := match o with
  | .nx δ1 => r δ1
  | o => o
theorem sSeq_eq (a r : Sm) (δ : Env) : sSeq a r δ = (a δ).seq r := rfl
theorem sq_asg (t : Tg) (e : Ex) (r : Sm) (δ : Env) : sSeq (sAsg t e) r δ = (e δ).out fun d δ1 => match t.put d δ1 with
  | some δ2 => r δ2
  | none => .bad := by
  unfold sSeq sAsg
  cases e δ with
  | ok d δ1 => simp only [Res.out_ok]; cases t.put d δ1 <;> rfl
  | exc c d δ1 => rfl
  | bad => rfl
theorem sq_do (e : Ex) (r : Sm) (δ : Env) : sSeq (sDo e) r δ = (e δ).out fun _ δ1 => r δ1 := by
  unfold sSeq sDo
  cases e δ <;> rfl
theorem sq_ret (e : Ex) (r : Sm) (δ : Env) : sSeq (sRet e) r δ = sRet e δ := by
  unfold sSeq sRet
  cases e δ <;> rfl
theorem sq_raise (c : Str) (e : Ex) (r : Sm) (δ : Env) : sSeq (sRaise c e) r δ = sRaise c e δ := by
  unfold sSeq sRaise
  cases e δ <;> rfl
theorem sq_seq (a b r : Sm) (δ : Env) : sSeq (sSeq a b) r δ = sSeq a (sSeq b r) δ := by
  unfold sSeq
  cases a δ <;> rfl
theorem sq_pass (r : Sm) (δ : Env) : sSeq sPass r δ = r δ := rfl
theorem sq_ct (r : Sm) (δ : Env) : sSeq sCt r δ = .ct δ := rfl
theorem sq_bk (r : Sm) (δ : Env) : sSeq sBk r δ = .bk δ := rfl
theorem sq_if (c : Ex) (a b r : Sm) (δ : Env) : sSeq (sIf c a b) r δ = (c δ).out fun x δ1 => match x with
  | .bl true => sSeq a r δ1
  | .bl false => sSeq b r δ1
  | _ => .bad := by
  rw [sSeq_eq, show sIf c a b δ = (c δ).out fun x δ1 => match x with
    | .bl true => a δ1
    | .bl false => b δ1
    | _ => .bad from rfl]
  cases c δ with
  | ok d δ1 =>
    cases d with
    | bl b => cases b <;> rfl
    | _ => rfl
  | exc c d δ1 => rfl
  | bad => rfl
/-- what follows an own list's growth -/
theorem sq_app (i : Nat) (e : Ex) (r : Sm) (δ : Env) : sSeq (sApp i e) r δ = if isL i δ = true then (e δ).out fun d δ1 => (eV i δ1).out fun x δ2 => match x with
  | .lst xs => if xs.length < cap then r (δ2.set i (some (.lst (xs ++ [d])))) else .bad
  | _ => .bad
  else .bad := by
  rw [sSeq_eq, show sApp i e δ = if isL i δ = true then (e δ).out fun d δ1 => (eV i δ1).out fun x δ2 => match x with
    | .lst xs => if xs.length < cap then .nx (δ2.set i (some (.lst (xs ++ [d])))) else .bad
    | _ => .bad
    else .bad from rfl]
  by_cases h : isL i δ = true
  · rw [if_pos h, if_pos h]
    cases e δ with
    | ok d δ1 =>
      simp only [Res.out_ok]
      cases eV i δ1 with
      | ok x δ2 =>
        simp only [Res.out_ok]
        cases x with
        | lst xs => simp only; by_cases h2 : xs.length < cap <;> simp only [h2, if_true, if_false] <;> rfl
        | _ => rfl
      | exc c d δ1 => rfl
      | bad => rfl
    | exc c d δ1 => rfl
    | bad => rfl
  · rw [if_neg h, if_neg h]; rfl
theorem sq_setI (i : Nat) (k e : Ex) (r : Sm) (δ : Env) : sSeq (sSetI i k e) r δ = (e δ).out fun v δ1 => (k δ1).out fun kk δ2 => (eV i δ2).out fun x δ3 => match x, kk with
  | .lst xs, .int j => (match ixD xs.length j with
    | some m => r (δ3.set i (some (.lst (xs.set m v))))
    | none => .bad)
  | _, _ => .bad := by
  rw [sSeq_eq, show sSetI i k e δ = (e δ).out fun v δ1 => (k δ1).out fun kk δ2 => (eV i δ2).out fun x δ3 => match x, kk with
    | .lst xs, .int j => (match ixD xs.length j with
      | some m => .nx (δ3.set i (some (.lst (xs.set m v))))
      | none => .bad)
    | _, _ => .bad from rfl]
  cases e δ with
  | ok v δ1 =>
    simp only [Res.out_ok]
    cases k δ1 with
    | ok kk δ2 =>
      simp only [Res.out_ok]
      cases eV i δ2 with
      | ok x δ3 =>
        simp only [Res.out_ok]
        cases x with
        | lst xs =>
          cases kk with
          | int j => simp only; cases ixD xs.length j <;> rfl
          | _ => rfl
        | _ => rfl
      | exc c d δ1 => rfl
      | bad => rfl
    | exc c d δ1 => rfl
    | bad => rfl
  | exc c d δ1 => rfl
  | bad => rfl
theorem sq_setK (i : Nat) (k e : Ex) (r : Sm) (δ : Env) : sSeq (sSetK i k e) r δ = (e δ).out fun v δ1 => (k δ1).out fun kk δ2 => (eV i δ2).out fun x δ3 => match x, keyD kk with
  | .dic ds, some q => if ds.length < cap then r (δ3.set i (some (.dic (putM ds q v)))) else .bad
  | _, _ => .bad := by
  rw [sSeq_eq, show sSetK i k e δ = (e δ).out fun v δ1 => (k δ1).out fun kk δ2 => (eV i δ2).out fun x δ3 => match x, keyD kk with
    | .dic ds, some q => if ds.length < cap then .nx (δ3.set i (some (.dic (putM ds q v)))) else .bad
    | _, _ => .bad from rfl]
  cases e δ with
  | ok v δ1 =>
    simp only [Res.out_ok]
    cases k δ1 with
    | ok kk δ2 =>
      simp only [Res.out_ok]
      cases eV i δ2 with
      | ok x δ3 =>
        simp only [Res.out_ok]
        cases x with
        | dic ds =>
          cases keyD kk with
          | some q => simp only; by_cases h2 : ds.length < cap <;> simp only [h2, if_true, if_false] <;> rfl
          | none => rfl
        | _ => rfl
      | exc c d δ1 => rfl
      | bad => rfl
    | exc c d δ1 => rfl
    | bad => rfl
  | exc c d δ1 => rfl
  | bad => rfl
/-! ### turns -/
/-- a turn's end: I what holds for the next turn, B behind the loop, P at the def's end; as instances, which simp leaves alone -/
class Ends3 where
  I : Env → Prop
  B : Env → Prop
  P : Out → Prop
class Inv1 where
  I : Env → Prop
structure Hold [v : Inv1] (δ : Env) : Prop where
  h : v.I δ
theorem hd {v : Inv1} {δ : Env} (h : v.I δ) : @Hold v δ := @Hold.mk v δ h
def Turn0 (I B : Env → Prop) (P : Out → Prop) : Out → Prop
  | .nx δ => I δ
  | .ct δ => I δ
  | .bk δ => B δ
  | .rt d δ => P (.rt d δ)
  | .exc c d δ => P (.exc c d δ)
  | .bad => False
structure Turn [v : Ends3] (o : Out) : Prop where
  run : Turn0 v.I v.B v.P o
theorem Turn.go {v : Ends3} {o : Out} (h : @Turn v o) : Turn0 v.I v.B v.P o := @Turn.run v o h
section
variable {v : Ends3} {δ : Env}
@[simp] theorem Turn_nx : Turn (.nx δ) ↔ @Hold ⟨v.I⟩ δ := ⟨fun h => @Hold.mk ⟨v.I⟩ δ h.run, fun h => ⟨@Hold.h ⟨v.I⟩ δ h⟩⟩
@[simp] theorem Turn_ct : Turn (.ct δ) ↔ @Hold ⟨v.I⟩ δ := ⟨fun h => @Hold.mk ⟨v.I⟩ δ h.run, fun h => ⟨@Hold.h ⟨v.I⟩ δ h⟩⟩
@[simp] theorem Turn_bk : Turn (.bk δ) ↔ v.B δ := ⟨fun h => h.run, fun h => ⟨h⟩⟩
@[simp] theorem Turn_rt {d : D} : Turn (.rt d δ) ↔ v.P (.rt d δ) := ⟨fun h => h.run, fun h => ⟨h⟩⟩
@[simp] theorem Turn_exc {c : Str} {d : D} : Turn (.exc c d δ) ↔ v.P (.exc c d δ) := ⟨fun h => h.run, fun h => ⟨h⟩⟩
@[simp] theorem Turn_bad : Turn .bad ↔ False := ⟨fun h => h.run, fun h => h.elim⟩
end
/-- slots set anew -/
def stE : Env → List (Nat × Option D) → Env
  | δ, [] => δ
  | δ, (i, x) :: r => stE (δ.set i x) r
/-- ds is what f makes of the items of as -/
def Its {α : Type} (ds : List D) (as : List α) (f : Nat → α → D) : Prop := ds.length = as.length ∧ ∀ i a, as[i]? = some a → ds[i]? = some (f i a)
theorem its_map {α : Type} {as : List α} {f : α → D} : Its (as.map f) as fun _ => f := ⟨by simp, fun i a h => by simp [h]⟩
theorem enum_get0 : ∀ {xs : List D} {k j : Nat} {x : D}, xs[j]? = some x → (enumD k xs)[j]? = some (.tup [.int ((k + j : Nat) : Int), x])
  | [], _, _, _, h => by simp at h
  | x :: xs, k, 0, d, h => by simp at h; simp [enumD, h]
  | x :: xs, k, j + 1, d, h => by
    rw [enumD, List.getElem?_cons_succ, enum_get0 (by simpa using h)]
    congr 4; omega
theorem its_enum {α : Type} {as : List α} {f : α → D} : Its (enumD 0 (as.map f)) as fun i a => .tup [.int (i : Int), f a] := ⟨by rw [enumD_length]; simp, fun i a h => by
  have := enum_get0 (xs := as.map f) (k := 0) (j := i) (x := f a) (by simp [h])
  rw [this]; simp⟩
theorem its_rng {lo : Int} {n : Nat} : Its (rng lo n) (List.range n) fun i _ => .int (lo + i) := ⟨by simp [rng], fun i a h => by
  have h1 := (List.getElem?_eq_some_iff.mp h).1
  rw [List.length_range] at h1
  exact rng_get h1⟩
theorem its_zip {α β : Type} {as : List α} {bs : List β} {f : α → D} {g : β → D} : Its (zip2 (as.map f) (bs.map g)) (as.zip bs) fun _ p => .tup [f p.1, g p.2] := ⟨by rw [zip2_length]; simp, fun i p h => by
  rw [List.getElem?_zip_eq_some] at h
  exact zip2_get (by simp [h.1]) (by simp [h.2])⟩
theorem its_zip3 {α β γ : Type} {as : List α} {bs : List β} {cs : List γ} {f : α → D} {g : β → D} {h : γ → D} : Its (zip3 (as.map f) (bs.map g) (cs.map h)) (as.zip (bs.zip cs)) fun _ p => .tup [f p.1, g p.2.1, h p.2.2] := ⟨by rw [zip3_length]; simp [Nat.min_assoc], fun i p e => by
  rw [List.getElem?_zip_eq_some, List.getElem?_zip_eq_some] at e
  exact zip3_get (by simp [e.1]) (by simp [e.2.1]) (by simp [e.2.2])⟩
section
variable {P : Out → Prop}
theorem forL_inv {α : Type} {t : Tg} {b r : Sm} {ds : List D} {as : List α} {f : Nat → α → D} (I : Nat → Env → Prop) (hd : Its ds as f)
    (hs : ∀ i a δ2, as[i]? = some a → I i δ2 → ∃ δ3, t.put (f i a) δ2 = some δ3 ∧ @Turn ⟨I (i + 1), fun δ => P (r δ), P⟩ (b δ3)) (hn : ∀ δ2, I as.length δ2 → P (r δ2)) {δ : Env} (h0 : I 0 δ) : P (sSeq (forL t b ds) r δ) := by
  have key : ∀ (q : List D) (i : Nat) (δ : Env), (∀ j, q[j]? = ds[i + j]?) → i + q.length = as.length → I i δ → P (sSeq (forL t b q) r δ) := by
    intro q
    induction q with
    | nil => intro i δ _ hl hi; exact hn δ (by rw [List.length_nil, Nat.add_zero] at hl; rw [← hl]; exact hi)
    | cons d q ih =>
      intro i δ hr hl hi
      rw [List.length_cons] at hl
      have hlt : i < as.length := by omega
      have ha : as[i]? = some as[i] := List.getElem?_eq_getElem hlt
      have hdi : d = f i as[i] := by
        have h1 := hd.2 i _ ha
        have h2 := hr 0
        simp only [List.getElem?_cons_zero, Nat.add_zero] at h2
        rw [h1] at h2
        exact Option.some.inj h2
      obtain ⟨δ3, e1, h3⟩ := hs i _ δ ha hi
      rw [← hdi] at e1
      have nxt : ∀ δ4, I (i + 1) δ4 → P (sSeq (forL t b q) r δ4) := fun δ4 h4 => ih (i + 1) δ4 (fun j => by have := hr (j + 1); rw [show i + 1 + j = i + (j + 1) by omega]; simpa using this) (by omega) h4
      unfold sSeq forL
      simp only [e1]
      unfold sSeq at nxt
      have h3 := Turn.go h3
      cases eb : b δ3 with
      | nx δ4 => rw [eb] at h3; exact nxt δ4 h3
      | ct δ4 => rw [eb] at h3; exact nxt δ4 h3
      | bk δ4 => rw [eb] at h3; exact h3
      | rt d δ4 => rw [eb] at h3; exact h3
      | exc c d δ4 => rw [eb] at h3; exact h3
      | bad => rw [eb] at h3; exact h3.elim
  exact key ds 0 δ (fun j => by simp) (by rw [Nat.zero_add]; exact hd.1) h0
/-- for, and what follows -/
theorem q_for {α : Type} {it : ItE} {t : Tg} {b r : Sm} {δ δ1 : Env} {ds : List D} {as : List α} {f : Nat → α → D} (hit : it δ = .ok ds δ1) (hd : Its ds as f) (I : Env → Nat → Env → Prop)
    (h0 : I δ1 0 δ1) (hs : ∀ i a δ2, as[i]? = some a → I δ1 i δ2 → ∃ δ3, t.put (f i a) δ2 = some δ3 ∧ @Turn ⟨I δ1 (i + 1), fun δ => P (r δ), P⟩ (b δ3)) (hn : ∀ δ2, I δ1 as.length δ2 → P (r δ2)) : P (sSeq (sFor it t b) r δ) := by
  have h := forL_inv (P := P) (I δ1) hd hs hn h0
  unfold sSeq sFor at *
  rw [hit]
  exact h
/-- for, the last statement of a body -/
theorem q_for0 {α : Type} {it : ItE} {t : Tg} {b : Sm} {δ δ1 : Env} {ds : List D} {as : List α} {f : Nat → α → D} (hit : it δ = .ok ds δ1) (hd : Its ds as f) (I : Env → Nat → Env → Prop)
    (h0 : I δ1 0 δ1) (hs : ∀ i a δ2, as[i]? = some a → I δ1 i δ2 → ∃ δ3, t.put (f i a) δ2 = some δ3 ∧ @Turn ⟨I δ1 (i + 1), fun δ => P (.nx δ), P⟩ (b δ3)) (hn : ∀ δ2, I δ1 as.length δ2 → P (.nx δ2)) : P (sFor it t b δ) := by
  have h := q_for (P := P) (r := sPass) hit hd I h0 hs hn
  have e : sSeq (sFor it t b) sPass δ = sFor it t b δ := by
    unfold sSeq sPass
    cases sFor it t b δ <;> rfl
  rw [← e]
  exact h
/-- while, and what follows; the number falls -/
theorem q_while {c : Ex} {b r : Sm} {δ : Env} (I : Env → Nat → Env → Prop) (n : Nat) (h0 : I δ n δ) (hs : ∀ n δ2, I δ n δ2 → ∃ k δ3, c δ2 = .ok (.bl k) δ3 ∧ (k = true → @Turn ⟨fun δ4 => ∃ m, m < n ∧ I δ m δ4, fun δ => P (r δ), P⟩ (b δ3)) ∧ (k = false → P (r δ3))) :
    P (sSeq (sWhile c b) r δ) := by
  have key : ∀ n δ2, I δ n δ2 → ∃ k o, whN c b k δ2 = some o ∧ P (match o with | .nx δ1 => r δ1 | o => o) := by
    intro n
    induction n using Nat.strongRecOn with
    | _ n ih =>
      intro δ2 hi
      obtain ⟨k, δ3, ec, ht, hf⟩ := hs n δ2 hi
      cases k with
      | false => exact ⟨1, .nx δ3, by simp [whN, ec], hf rfl⟩
      | true =>
        have ht := Turn.go (ht rfl)
        cases eb : b δ3 with
        | nx δ4 =>
          rw [eb] at ht
          obtain ⟨m, hm, hI⟩ := ht
          obtain ⟨k, o, h1, h2⟩ := ih m hm δ4 hI
          exact ⟨k + 1, o, by simp [whN, ec, eb, h1], h2⟩
        | ct δ4 =>
          rw [eb] at ht
          obtain ⟨m, hm, hI⟩ := ht
          obtain ⟨k, o, h1, h2⟩ := ih m hm δ4 hI
          exact ⟨k + 1, o, by simp [whN, ec, eb, h1], h2⟩
        | bk δ4 => rw [eb] at ht; exact ⟨1, .nx δ4, by simp [whN, ec, eb], ht⟩
        | rt d δ4 => rw [eb] at ht; exact ⟨1, .rt d δ4, by simp [whN, ec, eb], ht⟩
        | exc x d δ4 => rw [eb] at ht; exact ⟨1, .exc x d δ4, by simp [whN, ec, eb], ht⟩
        | bad => rw [eb] at ht; exact ht.elim
  obtain ⟨k, o, h1, h2⟩ := key n δ h0
  unfold sSeq
  rw [sWhile_of h1]
  exact h2
theorem q_while0 {c : Ex} {b : Sm} {δ : Env} (I : Env → Nat → Env → Prop) (n : Nat) (h0 : I δ n δ) (hs : ∀ n δ2, I δ n δ2 → ∃ k δ3, c δ2 = .ok (.bl k) δ3 ∧ (k = true → @Turn ⟨fun δ4 => ∃ m, m < n ∧ I δ m δ4, fun δ => P (.nx δ), P⟩ (b δ3)) ∧ (k = false → P (.nx δ3))) :
    P (sWhile c b δ) := by
  have h := q_while (P := P) (r := sPass) I n h0 hs
  have e : sSeq (sWhile c b) sPass δ = sWhile c b δ := by
    unfold sSeq sPass
    cases sWhile c b δ <;> rfl
  rw [← e]
  exact h
/-- any statement by what is known of its end -/
theorem q_mono {Q : Out → Prop} {o : Out} (h : Q o) (i : Q o → P o) : P o := i h
end
/-- a test's answer -/
def CW0 (T F : Env → Prop) : Res D → Prop
  | .ok (.bl true) δ => T δ
  | .ok (.bl false) δ => F δ
  | _ => False
class Two where
  T : Env → Prop
  F : Env → Prop
structure CW [v : Two] (x : Res D) : Prop where
  run : CW0 v.T v.F x
@[simp] theorem CW_ok {v : Two} {k : Bool} {δ : Env} : CW (.ok (.bl k) δ) ↔ (k = true → v.T δ) ∧ (k = false → v.F δ) := by
  constructor
  · intro h; have := h.run; cases k
    · exact ⟨fun z => Bool.noConfusion z, fun _ => this⟩
    · exact ⟨fun _ => this, fun z => Bool.noConfusion z⟩
  · intro h; cases k
    · exact ⟨h.2 rfl⟩
    · exact ⟨h.1 rfl⟩
theorem CW.ok {v : Two} {x : Res D} (h : CW x) : ∃ k δ, x = .ok (.bl k) δ ∧ (k = true → v.T δ) ∧ (k = false → v.F δ) := by
  cases x with
  | ok d δ =>
    cases d with
    | bl k => exact ⟨k, δ, rfl, CW_ok.mp h⟩
    | _ => exact h.run.elim
  | exc c d δ => exact h.run.elim
  | bad => exact h.run.elim
theorem w_while {P : Out → Prop} {c : Ex} {b r : Sm} {δ : Env} (I : Env → Nat → Env → Prop) (n : Nat) (h0 : I δ n δ) (hs : ∀ n δ2, I δ n δ2 → @CW ⟨fun δ3 => @Turn ⟨fun δ4 => ∃ m, m < n ∧ I δ m δ4, fun δ => P (r δ), P⟩ (b δ3), fun δ3 => P (r δ3)⟩ (c δ2)) :
    P (sSeq (sWhile c b) r δ) := q_while I n h0 fun n δ2 h => (hs n δ2 h).ok
theorem w_while0 {P : Out → Prop} {c : Ex} {b : Sm} {δ : Env} (I : Env → Nat → Env → Prop) (n : Nat) (h0 : I δ n δ) (hs : ∀ n δ2, I δ n δ2 → @CW ⟨fun δ3 => @Turn ⟨fun δ4 => ∃ m, m < n ∧ I δ m δ4, fun δ => P (.nx δ), P⟩ (b δ3), fun δ3 => P (.nx δ3)⟩ (c δ2)) :
    P (sWhile c b δ) := q_while0 I n h0 fun n δ2 h => (hs n δ2 h).ok
theorem FEnd_cg {own : List Nat} {Q : Fr → Prop} {o o' : Out} (h : o = o') : FEnd own Q o = FEnd own Q o' := by rw [h]
theorem sSeq_cg {a r : Sm} {δ δ' : Env} (h : δ = δ') : sSeq a r δ = sSeq a r δ' := by rw [h]
/-! ### comprehensions that change nothing -/
def okV (x : Res D) (δ : Env) : Prop := ∃ d, x = .ok d δ
def getV : Res D → D
  | .ok d _ => d
  | _ => .non
def getB : Res D → Bool
  | .ok (.bl b) _ => b
  | _ => false
def okB (x : Res D) (δ : Env) : Prop := ∃ b, x = .ok (.bl b) δ
@[simp] theorem getV_ok (d : D) (δ : Env) : getV (.ok d δ) = d := rfl
@[simp] theorem getB_ok (b : Bool) (δ : Env) : getB (.ok (.bl b) δ) = b := rfl
@[simp] theorem okV_ok (d : D) (δ : Env) : okV (.ok d δ) δ ↔ True := ⟨fun _ => trivial, fun _ => ⟨d, rfl⟩⟩
@[simp] theorem okB_ok (b : Bool) (δ : Env) : okB (.ok (.bl b) δ) δ ↔ True := ⟨fun _ => trivial, fun _ => ⟨b, rfl⟩⟩
theorem set_wipe1 (δ : Env) (i : Nat) (x : Option D) : (wipeE (δ.set i x) [i]) = wipeE δ [i] := by
  simp [wipeE, List.set_set]
theorem rest_self : ∀ (vs : List Nat) (δ0 δ : Env), δ.length = δ0.length → (∀ i, i ∉ vs → δ[i]? = δ0[i]?) → restE δ0 vs δ = δ0 := fun vs δ0 δ hl h => by
  refine List.ext_getElem? fun i => ?_
  by_cases hi : i ∈ vs
  · by_cases hb : i < δ.length
    · rw [restE_in hb hi]
      have hb0 : i < δ0.length := by omega
      rw [List.getElem?_eq_getElem hb0]
      rfl
    · rw [List.getElem?_eq_none (by rw [restE_length]; omega), List.getElem?_eq_none (by omega)]
  · rw [restE_out hi, h i hi]
/-- one name -/
theorem lc_pure1 {α : Type} {it : ItE} {j : Nat} {c : Option Ex} {e : Ex} {δ δ1 : Env} {as : List α} {f : α → D} (hit : it δ = .ok (as.map f) δ1) (hl : as.length ≤ cap)
    (hp : ∀ a ∈ as, okB (tstC c (δ1.set j (some (f a)))) (δ1.set j (some (f a))) ∧ (getB (tstC c (δ1.set j (some (f a)))) = true → okV (e (δ1.set j (some (f a)))) (δ1.set j (some (f a))))) :
    eLc it (.n j) [j] c e δ = .ok (.lst ((as.filter fun a => getB (tstC c (δ1.set j (some (f a))))).map fun a => getV (e (δ1.set j (some (f a)))))) δ1 := by
  have key : ∀ (q : List α), (∀ a ∈ q, a ∈ as) → ∀ x : Option D, ∃ y : Option D, lcL (.n j) [j] c e (q.map f) (δ1.set j x) = .ok ((q.filter fun a => getB (tstC c (δ1.set j (some (f a))))).map fun a => getV (e (δ1.set j (some (f a))))) (δ1.set j y) := by
    intro q
    induction q with
    | nil => intro _ x; exact ⟨x, rfl⟩
    | cons a q ih =>
      intro hq x
      obtain ⟨⟨b, eb⟩, h2⟩ := hp a (hq a List.mem_cons_self)
      obtain ⟨y, hy⟩ := ih (fun z hz => hq z (List.mem_cons_of_mem _ hz)) (some (f a))
      refine ⟨y, ?_⟩
      have ew : (wipeE (δ1.set j x) [j]).set j (some (f a)) = δ1.set j (some (f a)) := by simp [wipeE, List.set_set]
      rw [List.map_cons]
      unfold lcL
      simp only [Tg.put, ew]
      rw [eb]
      cases b with
      | true =>
        obtain ⟨v, ev⟩ := h2 (by rw [eb]; rfl)
        simp only [ev, hy]
        rw [List.filter_cons_of_pos (by rw [eb]; rfl), List.map_cons, ev]
        rfl
      | false =>
        simp only [hy]
        rw [List.filter_cons_of_neg (by rw [eb]; exact Bool.false_ne_true)]
  have e0 : δ1 = δ1.set j (δ1[j]?.getD none) := by
    refine List.ext_getElem? fun i => ?_
    by_cases hi : j = i
    · subst hi
      by_cases hb : j < δ1.length
      · rw [List.getElem?_set_self hb, List.getElem?_eq_getElem hb]; rfl
      · rw [List.getElem?_eq_none (by omega), List.getElem?_eq_none (by simp; omega)]
    · rw [List.getElem?_set_ne hi]
  obtain ⟨y, hy⟩ := key as (fun _ h => h) (δ1[j]?.getD none)
  rw [← e0] at hy
  unfold eLc
  rw [hit]
  simp only [Res.bind_ok, List.length_map, hl, if_true, hy]
  rw [rest_self [j] δ1 (δ1.set j y) (by simp) (fun i hi => List.getElem?_set_ne (by simp at hi; omega))]
/-! the same, found by simp -/
def itD (x : Res (List D)) : List D := match x with
  | .ok ds _ => ds
  | _ => []
def okI (x : Res (List D)) (δ : Env) : Prop := ∃ ds, x = .ok ds δ
@[simp] theorem itD_ok (ds : List D) (δ : Env) : itD (.ok ds δ) = ds := rfl
@[simp] theorem okI_ok (ds : List D) (δ : Env) : okI (.ok ds δ) δ ↔ True := ⟨fun _ => trivial, fun _ => ⟨ds, rfl⟩⟩
theorem lc_s {it : ItE} {j : Nat} {c : Option Ex} {e : Ex} {δ : Env} (hit : okI (it δ) δ) (hl : (itD (it δ)).length ≤ cap)
    (hp : ∀ d ∈ itD (it δ), okB (tstC c (δ.set j (some d))) (δ.set j (some d)) ∧ (getB (tstC c (δ.set j (some d))) = true → okV (e (δ.set j (some d))) (δ.set j (some d)))) :
    eLc it (.n j) [j] c e δ = .ok (.lst (((itD (it δ)).filter fun d => getB (tstC c (δ.set j (some d)))).map fun d => getV (e (δ.set j (some d))))) δ := by
  obtain ⟨ds, hds⟩ := hit
  rw [hds] at hl hp ⊢
  have h := lc_pure1 (α := D) (f := id) (it := it) (j := j) (c := c) (e := e) (δ := δ) (δ1 := δ) (as := ds) (by rw [hds, List.map_id]) hl hp
  simpa using h
/-- a comprehension at the head -/
theorem o_lc {P : Out → Prop} {α : Type} {it : ItE} {j : Nat} {c : Option Ex} {e : Ex} {δ δ1 : Env} {as : List α} {f : α → D} {k : D → Env → Out} (hit : it δ = .ok (as.map f) δ1) (hl : as.length ≤ cap)
    (hp : ∀ a ∈ as, okB (tstC c (δ1.set j (some (f a)))) (δ1.set j (some (f a))) ∧ (getB (tstC c (δ1.set j (some (f a)))) = true → okV (e (δ1.set j (some (f a)))) (δ1.set j (some (f a)))))
    (h : P (k (.lst ((as.filter fun a => getB (tstC c (δ1.set j (some (f a))))).map fun a => getV (e (δ1.set j (some (f a)))))) δ1)) : P ((eLc it (.n j) [j] c e δ).out k) := by
  rw [lc_pure1 hit hl hp]
  exact h


/-! the combinators, applied -/
section
variable (δ : Env)
theorem x_V (i : Nat) : eV i δ = match δ[i]? with | some (some d) => .ok d δ | _ => .bad := rfl
theorem x_C (d : D) : eC d δ = .ok d δ := rfl
theorem x_1 (op : D → Option D) (a : Ex) : Mi.e1 op a δ = (a δ).bind fun x δ1 => Res.opt (op x) δ1 := rfl
theorem x_2 (op : D → D → Option D) (a b : Ex) : Mi.e2 op a b δ = (a δ).bind fun x δ1 => (b δ1).bind fun y δ2 => Res.opt (op x y) δ2 := rfl
theorem x_O2 (op : D → D → Option D) (i : Nat) (b : Ex) : eO2 op i b δ = (b δ).bind fun y δ1 => (eV i δ1).bind fun x δ2 => Res.opt (op x y) δ2 := rfl
theorem x_P0 : eP none δ = .ok none δ := rfl
theorem x_P1 (f : Ex) : eP (some f) δ = (f δ).bind fun y δ1 => match y with | .int i => .ok (some i) δ1 | _ => .bad := rfl
theorem x_3 (op : D → Option Int → Option Int → Option D) (a : Ex) (l h : Option Ex) : e3 op a l h δ = (a δ).bind fun x δ1 => (eP l δ1).bind fun y δ2 => (eP h δ2).bind fun z δ3 => Res.opt (op x y z) δ3 := rfl
theorem x_O3 (op : D → Option Int → Option Int → Option D) (i : Nat) (l h : Option Ex) : eO3 op i l h δ = (eP l δ).bind fun y δ1 => (eP h δ1).bind fun z δ2 => (eV i δ2).bind fun x δ3 => Res.opt (op x y z) δ3 := rfl
theorem x_T (a : Ex) (f : Bool → Env → Res D) : eT a f δ = (a δ).bind fun x δ1 => (Res.opt (truth x) δ1).bind f := rfl
theorem x_And (a b : Ex) : eAnd a b δ = (a δ).bind fun x δ1 => (Res.opt (truth x) δ1).bind fun c δ => if c = true then b δ else .ok (.bl false) δ := rfl
theorem x_Or (a b : Ex) : eOr a b δ = (a δ).bind fun x δ1 => (Res.opt (truth x) δ1).bind fun c δ => if c = true then .ok (.bl true) δ else b δ := rfl
theorem x_Not (a : Ex) : eNot a δ = (a δ).bind fun x δ1 => (Res.opt (truth x) δ1).bind fun c δ => .ok (.bl (!c)) δ := rfl
theorem x_If (c a b : Ex) : eIf c a b δ = (c δ).bind fun x δ1 => (Res.opt (truth x) δ1).bind fun k δ => if k = true then a δ else b δ := rfl
theorem x_L0 : eL [] δ = .ok [] δ := rfl
theorem x_L1 (a : Ex) (r : List Ex) : eL (a :: r) δ = (a δ).bind fun x δ1 => (eL r δ1).bind fun xs δ2 => .ok (x :: xs) δ2 := rfl
theorem x_Tup (as : List Ex) : eTup as δ = (eL as δ).bind fun xs δ1 => .ok (.tup xs) δ1 := rfl
theorem x_Lst (as : List Ex) : eLst as δ = (eL as δ).bind fun xs δ1 => .ok (.lst xs) δ1 := rfl
theorem x_Ch (o1 o2 : D → D → Option D) (a b c : Ex) : eCh o1 o2 a b c δ = (a δ).bind fun x δ1 => (b δ1).bind fun y δ2 => (Res.opt ((o1 x y).bind truth) δ2).bind fun k δ2 => if k = true then (c δ2).bind fun z δ3 => Res.opt (o2 y z) δ3 else .ok (.bl false) δ2 := rfl
def frV (x : Fr) (δ1 : Env) : Res D := match x with
  | .ok d _ => .ok d δ1
  | .exc c d => .exc c d δ1
  | .bad => .bad
@[simp] theorem frV_ok (d : D) (o : List D) (δ1 : Env) : frV (.ok d o) δ1 = .ok d δ1 := rfl
@[simp] theorem frV_exc (c : Str) (d : D) (δ1 : Env) : frV (.exc c d) δ1 = .exc c d δ1 := rfl
theorem x_Call (f : List D → Fr) (as : List Ex) : eCall f as δ = (eL as δ).bind fun ds δ1 => frV (f ds) δ1 := rfl
def frO (x : Fr) (i : Nat) (δ2 : Env) : Res D := match x with
  | .ok d [w'] => .ok d (δ2.set i (some w'))
  | _ => .bad
@[simp] theorem frO_ok (d w : D) (i : Nat) (δ1 : Env) : frO (.ok d [w]) i δ1 = .ok d (δ1.set i (some w)) := rfl
theorem x_CallO (f : List D → Fr) (i : Nat) (as : List Ex) : eCallO f i as δ = (eL as δ).bind fun ds δ1 => (eV i δ1).bind fun w δ2 => frO (f (w :: ds)) i δ2 := rfl
theorem x_CallP (f : List D → Fr) (a : Ex) (i : Nat) (as : List Ex) : eCallP f a i as δ = (a δ).bind fun x δ0 => (eL as δ0).bind fun ds δ1 => (eV i δ1).bind fun w δ2 => frO (f (x :: w :: ds)) i δ2 := rfl
def frN (x : Fr) (δ1 : Env) : Res D := match x with
  | .ok d [_] => .ok d δ1
  | .exc c d => .exc c d δ1
  | _ => .bad
@[simp] theorem frN_ok (d w : D) (δ1 : Env) : frN (.ok d [w]) δ1 = .ok d δ1 := rfl
@[simp] theorem frN_exc (c : Str) (d : D) (δ1 : Env) : frN (.exc c d) δ1 = .exc c d δ1 := rfl
theorem x_CallN (f : List D → Fr) (a : Ex) (as : List Ex) : eCallN f a as δ = (a δ).bind fun w δ0 => (eL as δ0).bind fun ds δ1 => frN (f (w :: ds)) δ1 := rfl
def methR (c m : Str) (f : List D → Fr) (as : List Ex) (x : D) (δ0 : Env) : Res D := match x with
  | .obj c' fs => if c' = c ∧ (fs.lookup m).isNone = true then (eL as δ0).bind fun ds δ1 => frV (f (.obj c' fs :: ds)) δ1 else .bad
  | _ => .bad
theorem x_Meth (c m : Str) (f : List D → Fr) (a : Ex) (as : List Ex) : eMeth c m f a as δ = (a δ).bind fun x δ0 => methR c m f as x δ0 := rfl
theorem x_Seq (a : Ex) : iSeq a δ = (a δ).bind fun x δ1 => Res.opt (seqOf x) δ1 := rfl
theorem x_Rng (a : Ex) : iRng a δ = (a δ).bind fun x δ1 => Res.opt ((smInt x).map fun j => rng 0 j.toNat) δ1 := rfl
theorem x_Rng2 (a b : Ex) : iRng2 a b δ = (a δ).bind fun x δ1 => (b δ1).bind fun y δ2 => Res.opt ((smInt x).bind fun i => (smInt y).map fun j => rng i (j - i).toNat) δ2 := rfl
theorem x_Enum (a : Ex) : iEnum a δ = (a δ).bind fun x δ1 => Res.opt ((seqOf x).map (enumD 0)) δ1 := rfl
theorem x_Zip (a b : Ex) : iZip a b δ = (a δ).bind fun x δ1 => (b δ1).bind fun y δ2 => Res.opt ((seqOf x).bind fun xs => (seqOf y).map fun ys => zip2 xs ys) δ2 := rfl
theorem x_Zip3 (a b c : Ex) : iZip3 a b c δ = (a δ).bind fun x δ1 => (b δ1).bind fun y δ2 => (c δ2).bind fun z δ3 => Res.opt ((seqOf x).bind fun xs => (seqOf y).bind fun ys => (seqOf z).map fun zs => zip3 xs ys zs) δ3 := rfl
theorem x_Ix (a b : Ex) : eIx a b δ = (a δ).bind fun x δ1 => match seqOf x with
  | some xs => (b δ1).bind fun y δ2 => Res.opt (ixOfD x y) δ2
  | none => .bad := by
  unfold eIx
  cases a δ with
  | ok x δ1 => simp only [Res.bind_ok]; cases seqOf x <;> rfl
  | exc c d δ1 => rfl
  | bad => rfl
theorem x_Lrg (a : Ex) : eLrg a δ = (a δ).bind fun x δ1 => eLrg (eC x) δ1 := by
  unfold eLrg
  cases a δ <;> rfl
def frM (x : Fr) (δ1 : Env) : Res D := match x with
  | .ok .non [w] => .ok w δ1
  | .exc c d => .exc c d δ1
  | _ => .bad
@[simp] theorem frM_ok (w : D) (δ1 : Env) : frM (.ok .non [w]) δ1 = .ok w δ1 := rfl
@[simp] theorem frM_exc (c : Str) (d : D) (δ1 : Env) : frM (.exc c d) δ1 = .exc c d δ1 := rfl
theorem x_Make (c : Str) (f : List D → Fr) (as : List Ex) : eMake c f as δ = (eL as δ).bind fun ds δ1 => frM (f (.obj c [] :: ds)) δ1 := rfl
def tryS (cs os : List Str) (i : Nat) (gh : D → Sm) (o : Out) : Out := match o with
  | .exc c d δ' => if c ∈ cs then clr i (gh d (δ'.set i none)) else if c ∈ os then .exc c d δ' else .bad
  | .bk _ => .bad
  | .ct _ => .bad
  | o => o
theorem x_Try (cs os : List Str) (i : Nat) (gb : Sm) (gh : D → Sm) : sTry cs os i gb gh δ = tryS cs os i gh (gb δ) := rfl
def tryO (cs os : List Str) (gh : Sm) (o : Out) : Out := match o with
  | .exc c d δ' => if c ∈ cs then (match gh δ' with
      | .nx δ2 => .nx δ2
      | .rt d δ2 => .rt d δ2
      | _ => .bad) else if c ∈ os then .exc c d δ' else .bad
  | .bk _ => .bad
  | .ct _ => .bad
  | o => o
theorem x_TryO (cs os : List Str) (gb gh : Sm) : sTryO cs os gb gh δ = tryO cs os gh (gb δ) := rfl
@[simp] theorem tryS_nx (cs os : List Str) (i : Nat) (gh : D → Sm) (δ1 : Env) : tryS cs os i gh (.nx δ1) = .nx δ1 := rfl
@[simp] theorem tryS_rt (cs os : List Str) (i : Nat) (gh : D → Sm) (d : D) (δ1 : Env) : tryS cs os i gh (.rt d δ1) = .rt d δ1 := rfl
@[simp] theorem tryS_exc (cs os : List Str) (i : Nat) (gh : D → Sm) (c : Str) (d : D) (δ1 : Env) : tryS cs os i gh (.exc c d δ1) = if c ∈ cs then clr i (gh d (δ1.set i none)) else if c ∈ os then .exc c d δ1 else .bad := rfl
@[simp] theorem tryO_nx (cs os : List Str) (gh : Sm) (δ1 : Env) : tryO cs os gh (.nx δ1) = .nx δ1 := rfl
@[simp] theorem tryO_rt (cs os : List Str) (gh : Sm) (d : D) (δ1 : Env) : tryO cs os gh (.rt d δ1) = .rt d δ1 := rfl
@[simp] theorem tryO_exc (cs os : List Str) (gh : Sm) (c : Str) (d : D) (δ1 : Env) : tryO cs os gh (.exc c d δ1) = if c ∈ cs then (match gh δ1 with
      | .nx δ2 => .nx δ2
      | .rt d δ2 => .rt d δ2
      | _ => .bad) else if c ∈ os then .exc c d δ1 else .bad := rfl
@[simp] theorem clr_nx (i : Nat) (δ1 : Env) : clr i (.nx δ1) = .nx (δ1.set i none) := rfl
@[simp] theorem clr_rt (i : Nat) (d : D) (δ1 : Env) : clr i (.rt d δ1) = .rt d δ1 := rfl
theorem sq_try (cs os : List Str) (i : Nat) (gb : Sm) (gh : D → Sm) (r : Sm) : sSeq (sTry cs os i gb gh) r δ = (tryS cs os i gh (gb δ)).seq r := rfl
theorem sq_tryO (cs os : List Str) (gb gh : Sm) (r : Sm) : sSeq (sTryO cs os gb gh) r δ = (tryO cs os gh (gb δ)).seq r := rfl
@[simp] theorem seq_nx (r : Sm) (δ1 : Env) : (Out.nx δ1).seq r = r δ1 := rfl
@[simp] theorem seq_rt (r : Sm) (d : D) (δ1 : Env) : (Out.rt d δ1).seq r = .rt d δ1 := rfl
@[simp] theorem seq_exc (r : Sm) (c : Str) (d : D) (δ1 : Env) : (Out.exc c d δ1).seq r = .exc c d δ1 := rfl
theorem x_setF (i : Nat) (c f : Str) (e : Ex) : sSetF i c f e δ = (e δ).out fun v δ1 => (eV i δ1).out fun x δ2 => match x with
  | .obj c' fs => if c' = c ∧ fs.length < 900 then .nx (δ2.set i (some (.obj c (putD f v fs)))) else .bad
  | _ => .bad := rfl
theorem sq_setF (i : Nat) (c f : Str) (e : Ex) (r : Sm) : sSeq (sSetF i c f e) r δ = (e δ).out fun v δ1 => (eV i δ1).out fun x δ2 => match x with
  | .obj c' fs => if c' = c ∧ fs.length < 900 then r (δ2.set i (some (.obj c (putD f v fs)))) else .bad
  | _ => .bad := by
  rw [sSeq_eq, x_setF]
  cases e δ with
  | ok v δ1 =>
    simp only [Res.out_ok]
    cases eV i δ1 with
    | ok x δ2 =>
      simp only [Res.out_ok]
      cases x with
      | obj c' fs => simp only; split <;> rfl
      | _ => rfl
    | exc c d δ1 => rfl
    | bad => rfl
  | exc c d δ1 => rfl
  | bad => rfl
theorem x_pass : sPass δ = .nx δ := rfl
theorem x_asg (t : Tg) (e : Ex) : sAsg t e δ = (e δ).out fun d δ1 => match t.put d δ1 with | some δ2 => .nx δ2 | none => .bad := rfl
theorem x_do (e : Ex) : sDo e δ = (e δ).out fun _ δ1 => .nx δ1 := rfl
theorem x_ret (e : Ex) : sRet e δ = (e δ).out fun d δ1 => .rt d δ1 := rfl
theorem x_raise (c : Str) (e : Ex) : sRaise c e δ = (e δ).out fun d δ1 => .exc c d δ1 := rfl
theorem x_if (c : Ex) (a b : Sm) : sIf c a b δ = (c δ).out fun x δ1 => match x with | .bl true => a δ1 | .bl false => b δ1 | _ => .bad := rfl
theorem x_bk : sBk δ = .bk δ := rfl
theorem x_ct : sCt δ = .ct δ := rfl
theorem x_app (i : Nat) (e : Ex) : sApp i e δ = if isL i δ = true then (e δ).out fun d δ1 => (eV i δ1).out fun x δ2 => match x with
    | .lst xs => if xs.length < cap then .nx (δ2.set i (some (.lst (xs ++ [d])))) else .bad
    | _ => .bad
    else .bad := rfl
theorem x_setI (i : Nat) (k e : Ex) : sSetI i k e δ = (e δ).out fun v δ1 => (k δ1).out fun kk δ2 => (eV i δ2).out fun x δ3 => match x, kk with
    | .lst xs, .int j => (match ixD xs.length j with
      | some m => .nx (δ3.set i (some (.lst (xs.set m v))))
      | none => .bad)
    | _, _ => .bad := rfl
theorem x_setK (i : Nat) (k e : Ex) : sSetK i k e δ = (e δ).out fun v δ1 => (k δ1).out fun kk δ2 => (eV i δ2).out fun x δ3 => match x, keyD kk with
    | .dic ds, some q => if ds.length < cap then .nx (δ3.set i (some (.dic (putM ds q v)))) else .bad
    | _, _ => .bad := rfl
theorem x_pop (i : Nat) : ePop i δ = (eV i δ).bind fun x δ1 => match x with
  | .lst xs => (match xs[xs.length - 1]? with
    | some y => .ok y (δ1.set i (some (.lst xs.dropLast)))
    | none => .bad)
  | _ => .bad := rfl
theorem x_isL (i : Nat) : isL i δ = match δ[i]? with | some (some (.lst _)) => true | _ => false := rfl
theorem x_tn (c : Option Ex) (e : Ex) : tstC (some e) δ = e δ := rfl
theorem x_t0 : tstC none δ = .ok (.bl true) δ := rfl
theorem x_st0 : stE δ [] = δ := rfl
theorem x_st1 (i : Nat) (x : Option D) (r : List (Nat × Option D)) : stE δ ((i, x) :: r) = stE (δ.set i x) r := rfl
theorem x_putn (i : Nat) (d : D) : (Tg.n i).put d δ = some (δ.set i (some d)) := rfl
theorem x_putt (is : List Nat) (ds : List D) : (Tg.t is).put (.tup ds) δ = setN is ds δ := rfl
theorem x_set0 : setN [] [] δ = some δ := rfl
theorem x_set1 (i : Nat) (is : List Nat) (d : D) (ds : List D) : setN (i :: is) (d :: ds) δ = setN is ds (δ.set i (some d)) := rfl
theorem x_out0 : outsOf [] δ = some [] := rfl
theorem x_out1 (i : Nat) (is : List Nat) : outsOf (i :: is) δ = match δ[i]? with | some (some d) => (outsOf is δ).map (d :: ·) | _ => none := rfl
end
theorem cap_60 {n : Nat} (h : n ≤ 10000) : n ≤ cap := cap_of (by omega)
theorem cap_s {n : Nat} (h : n ≤ 10000) : n < cap := cap_lt (by omega)
theorem smInt_small {i : Int} (h0 : -100 ≤ i) (h1 : i ≤ 10000) : smInt (.int i) = some i := by
  exact smInt_iff ⟨by omega, by omega⟩
theorem rng_rgI (n : Nat) : rng 0 n = (rgI n).map .int := by
  unfold rng rgI
  rw [List.map_map]
  exact List.map_congr_left fun k _ => by simp
def lsD (al : List (List Int)) : List D := al.map fun l => D.lst (l.map .int)
def tpD (al : List (List Int)) : List D := al.map fun l => D.tup (l.map .int)
/-! comprehensions over tuples of names -/
def pE (is : List Nat) (d : D) (δ : Env) : Env := match d with
  | .tup ds => (setN is ds (wipeE δ is)).getD δ
  | _ => δ
theorem pE_tup (is : List Nat) (ds : List D) (δ : Env) : pE is (.tup ds) δ = (setN is ds (wipeE δ is)).getD δ := rfl
theorem wipe0 (δ : Env) : wipeE δ [] = δ := rfl
theorem wipe1 (δ : Env) (v : Nat) (vs : List Nat) : wipeE δ (v :: vs) = (wipeE δ vs).set v none := rfl
def ptOk (is : List Nat) (d : D) : Prop := ∃ ds, d = .tup ds ∧ ds.length = is.length
@[simp] theorem ptOk_tup (is : List Nat) (ds : List D) : ptOk is (.tup ds) ↔ ds.length = is.length := ⟨fun ⟨_, e, h⟩ => by cases e; exact h, fun h => ⟨ds, rfl, h⟩⟩
theorem setN_some : ∀ {is : List Nat} {ds : List D} (δ : Env), ds.length = is.length → ∃ δ', setN is ds δ = some δ' ∧ δ'.length = δ.length ∧ ∀ i, i ∉ is → δ'[i]? = δ[i]?
  | [], [], δ, _ => ⟨δ, rfl, rfl, fun _ _ => rfl⟩
  | [], _ :: _, _, h => by simp at h
  | _ :: _, [], _, h => by simp at h
  | i :: is, d :: ds, δ, h => by
    obtain ⟨δ', h1, h2, h3⟩ := setN_some (is := is) (ds := ds) (δ.set i (some d)) (by simpa using h)
    refine ⟨δ', h1, by rw [h2, List.length_set], fun j hj => ?_⟩
    simp only [List.mem_cons, not_or] at hj
    rw [h3 j hj.2, List.getElem?_set_ne (by omega)]
theorem wipeE_in {δ : Env} {i : Nat} (hl : i < δ.length) : ∀ {vs : List Nat}, i ∈ vs → (wipeE δ vs)[i]? = some none
  | v :: vs, h => by
    unfold wipeE
    by_cases e : v = i
    · subst e; rw [List.getElem?_set_self (by rw [wipeE_length]; exact hl)]
    · rw [List.getElem?_set_ne e]
      exact wipeE_in hl (by rcases List.mem_cons.mp h with z | z; exact absurd z.symm e; exact z)
theorem wipeE_ext {δ δ' : Env} {vs : List Nat} (hl : δ.length = δ'.length) (h : ∀ i, i ∉ vs → δ[i]? = δ'[i]?) : wipeE δ vs = wipeE δ' vs := by
  refine List.ext_getElem? fun i => ?_
  by_cases hi : i ∈ vs
  · by_cases hb : i < δ.length
    · rw [wipeE_in hb hi, wipeE_in (by omega) hi]
    · rw [List.getElem?_eq_none (by rw [wipeE_length]; omega), List.getElem?_eq_none (by rw [wipeE_length]; omega)]
  · rw [wipeE_out hi, wipeE_out hi, h i hi]
theorem lc_sN {it : ItE} {is : List Nat} {c : Option Ex} {e : Ex} {δ : Env} (hit : okI (it δ) δ) (hl : (itD (it δ)).length ≤ cap)
    (hp : ∀ d ∈ itD (it δ), ptOk is d ∧ okB (tstC c (pE is d δ)) (pE is d δ) ∧ (getB (tstC c (pE is d δ)) = true → okV (e (pE is d δ)) (pE is d δ))) :
    eLc it (.t is) is c e δ = .ok (.lst (((itD (it δ)).filter fun d => getB (tstC c (pE is d δ))).map fun d => getV (e (pE is d δ)))) δ := by
  obtain ⟨ds, hds⟩ := hit
  rw [hds] at hl hp ⊢
  simp only [itD_ok] at hl hp ⊢
  have same : ∀ {δ' : Env} {d : D}, wipeE δ' is = wipeE δ is → ptOk is d → (Tg.t is).put d (wipeE δ' is) = some (pE is d δ) := fun {δ' d} h ⟨xs, e, hx⟩ => by
    subst e
    obtain ⟨δ2, h1, _, _⟩ := setN_some (is := is) (ds := xs) (wipeE δ is) hx
    show setN is xs (wipeE δ' is) = _
    rw [h, h1]
    unfold pE
    simp only [h1, Option.getD_some]
  have wp : ∀ {d : D}, ptOk is d → wipeE (pE is d δ) is = wipeE δ is ∧ (pE is d δ).length = δ.length ∧ ∀ i, i ∉ is → (pE is d δ)[i]? = δ[i]? := fun {d} ⟨xs, e, hx⟩ => by
    subst e
    obtain ⟨δ2, h1, h2, h3⟩ := setN_some (is := is) (ds := xs) (wipeE δ is) hx
    have ep : pE is (.tup xs) δ = δ2 := by unfold pE; simp only [h1, Option.getD_some]
    have hl : (pE is (.tup xs) δ).length = δ.length := by rw [ep, h2, wipeE_length]
    have ho : ∀ i, i ∉ is → (pE is (.tup xs) δ)[i]? = δ[i]? := fun i hi => by rw [ep, h3 i hi, wipeE_out hi]
    exact ⟨wipeE_ext hl ho, hl, ho⟩
  have key : ∀ (q : List D), (∀ a ∈ q, a ∈ ds) → ∀ δ' : Env, wipeE δ' is = wipeE δ is → δ'.length = δ.length → (∀ i, i ∉ is → δ'[i]? = δ[i]?) → ∃ δ'' : Env, δ''.length = δ.length ∧ (∀ i, i ∉ is → δ''[i]? = δ[i]?) ∧ lcL (.t is) is c e q δ' = .ok ((q.filter fun a => getB (tstC c (pE is a δ))).map fun a => getV (e (pE is a δ))) δ'' := by
    intro q
    induction q with
    | nil => intro _ δ' _ h1 h2; exact ⟨δ', h1, h2, rfl⟩
    | cons a q ih =>
      intro hq δ' hw hl' ho'
      obtain ⟨pa, ⟨b, eb⟩, h2⟩ := hp a (hq a List.mem_cons_self)
      obtain ⟨w1, w2, w3⟩ := wp pa
      obtain ⟨δ'', g1, g2, g3⟩ := ih (fun z hz => hq z (List.mem_cons_of_mem _ hz)) _ w1 w2 w3
      refine ⟨δ'', g1, g2, ?_⟩
      unfold lcL
      simp only [same hw pa]
      rw [eb]
      cases b with
      | true =>
        obtain ⟨v, ev⟩ := h2 (by rw [eb]; rfl)
        simp only [ev, g3]
        rw [List.filter_cons_of_pos (by rw [eb]; rfl), List.map_cons, ev]
        rfl
      | false =>
        simp only [g3]
        rw [List.filter_cons_of_neg (by rw [eb]; exact Bool.false_ne_true)]
  obtain ⟨δ'', g1, g2, g3⟩ := key ds (fun _ h => h) δ rfl rfl fun _ _ => rfl
  unfold eLc
  rw [hds]
  simp only [Res.bind_ok, hl, if_true, g3]
  rw [rest_self is δ δ'' g1 g2]
section
variable {p : Prop} [Decidable p]
theorem okV_ite (a b : Res D) (δ : Env) : okV (if p then a else b) δ ↔ if p then okV a δ else okV b δ := by split <;> rfl
theorem okB_ite (a b : Res D) (δ : Env) : okB (if p then a else b) δ ↔ if p then okB a δ else okB b δ := by split <;> rfl
theorem getV_ite (a b : Res D) : getV (if p then a else b) = if p then getV a else getV b := by split <;> rfl
theorem getB_ite (a b : Res D) : getB (if p then a else b) = if p then getB a else getB b := by split <;> rfl
theorem bind_ite {α β : Type} (a b : Res α) (f : α → Env → Res β) : (if p then a else b).bind f = if p then a.bind f else b.bind f := by split <;> rfl
theorem out_ite {α : Type} (a b : Res α) (f : α → Env → Out) : (if p then a else b).out f = if p then a.out f else b.out f := by split <;> rfl
end
def isBl (d : D) : Prop := ∃ b, d = .bl b
def toB : D → Bool
  | .bl b => b
  | _ => false
@[simp] theorem isBl_bl (b : Bool) : isBl (.bl b) ↔ True := ⟨fun _ => trivial, fun _ => ⟨b, rfl⟩⟩
@[simp] theorem toB_bl (b : Bool) : toB (.bl b) = b := rfl
theorem isBl_ite {p : Prop} [Decidable p] (a b : D) : isBl (if p then a else b) ↔ if p then isBl a else isBl b := by split <;> rfl
theorem toB_ite {p : Prop} [Decidable p] (a b : D) : toB (if p then a else b) = if p then toB a else toB b := by split <;> rfl
theorem blsO_of {α : Type} {f : α → D} : ∀ {l : List α}, (∀ x ∈ l, isBl (f x)) → blsO (l.map f) = some (l.map fun x => toB (f x))
  | [], _ => rfl
  | x :: l, h => by
    obtain ⟨b, e⟩ := h x List.mem_cons_self
    have ih := blsO_of (l := l) fun y hy => h y (List.mem_cons_of_mem _ hy)
    rw [List.map_cons, List.map_cons, e]
    show (blsO _).map _ = _
    rw [ih]
    rfl
theorem allD_map {α : Type} {f : α → D} {l : List α} (h : ∀ x ∈ l, isBl (f x)) : allD (.lst (l.map f)) = some (.bl (l.all fun x => toB (f x))) := by
  show (blsO _).map _ = _
  rw [blsO_of h]
  simp [Function.comp_def]
theorem anyD_map {α : Type} {f : α → D} {l : List α} (h : ∀ x ∈ l, isBl (f x)) : anyD (.lst (l.map f)) = some (.bl (l.any fun x => toB (f x))) := by
  show (blsO _).map _ = _
  rw [blsO_of h]
  simp [Function.comp_def]
theorem filter_tt {α : Type} (l : List α) : l.filter (fun _ => true) = l := List.filter_eq_self.mpr fun _ _ => rfl
theorem zip2_map {α β : Type} {f : α → D} {g : β → D} : ∀ {xs : List α} {ys : List β}, zip2 (xs.map f) (ys.map g) = (xs.zip ys).map fun p => D.tup [f p.1, g p.2]
  | [], _ => by simp [zip2]
  | _ :: _, [] => by simp [zip2]
  | x :: xs, y :: ys => by
    rw [List.map_cons, List.map_cons, List.zip_cons_cons, List.map_cons, zip2, zip2_map]
theorem min_cap (a b c : Nat) : min a b ≤ c ↔ a ≤ c ∨ b ≤ c := by omega
theorem tail_mp {α β : Type} (f : α → β) (l : List α) : (l.map f).tail = l.tail.map f := by cases l <;> rfl
theorem take_mp {α β : Type} (f : α → β) (l : List α) (i : Nat) : (l.map f).take i = (l.take i).map f := by rw [List.map_take]
theorem drop_mp {α β : Type} (f : α → β) (l : List α) (i : Nat) : (l.map f).drop i = (l.drop i).map f := by rw [List.map_drop]
theorem lc_sM {it : ItE} {is : List Nat} {c : Option Ex} {e : Ex} {δ : Env} (hit : okI (it δ) δ) (hl : (itD (it δ)).length ≤ cap) (h1 : ∀ d ∈ itD (it δ), ptOk is d) (h2 : ∀ d ∈ itD (it δ), okB (tstC c (pE is d δ)) (pE is d δ))
    (h3 : ∀ d ∈ itD (it δ), getB (tstC c (pE is d δ)) = true → okV (e (pE is d δ)) (pE is d δ)) :
    eLc it (.t is) is c e δ = .ok (.lst (((itD (it δ)).filter fun d => getB (tstC c (pE is d δ))).map fun d => getV (e (pE is d δ)))) δ := lc_sN hit hl fun d hd => ⟨h1 d hd, h2 d hd, h3 d hd⟩
theorem lc_sS {it : ItE} {j : Nat} {c : Option Ex} {e : Ex} {δ : Env} (hit : okI (it δ) δ) (hl : (itD (it δ)).length ≤ cap)
    (h2 : ∀ d ∈ itD (it δ), okB (tstC c (δ.set j (some d))) (δ.set j (some d))) (h3 : ∀ d ∈ itD (it δ), getB (tstC c (δ.set j (some d))) = true → okV (e (δ.set j (some d))) (δ.set j (some d))) :
    eLc it (.n j) [j] c e δ = .ok (.lst (((itD (it δ)).filter fun d => getB (tstC c (δ.set j (some d)))).map fun d => getV (e (δ.set j (some d))))) δ := lc_s hit hl fun d hd => ⟨h2 d hd, h3 d hd⟩
/-! comprehensions that change own slots -/
class Val1 where
  K : D → Env → Prop
def VW0 (K : D → Env → Prop) : Res D → Prop
  | .ok d δ => K d δ
  | _ => False
structure VW [v : Val1] (x : Res D) : Prop where
  run : VW0 v.K x
theorem VW.go {v : Val1} {x : Res D} (h : @VW v x) : VW0 v.K x := @VW.run v x h
/-- what holds of the items made so far and the env, closed to simp -/
structure HoldL [v : Val1] (d : D) (δ : Env) : Prop where
  h : v.K d δ
theorem hl {v : Val1} {d : D} {δ : Env} (h : v.K d δ) : @HoldL v d δ := @HoldL.mk v d δ h
theorem HoldL.go {v : Val1} {d : D} {δ : Env} (h : @HoldL v d δ) : v.K d δ := @HoldL.h v d δ h
theorem Hold.go {v : Inv1} {δ : Env} (h : @Hold v δ) : v.I δ := @Hold.h v δ h
@[simp] theorem VW_ok {v : Val1} {d : D} {δ : Env} : VW (.ok d δ) ↔ @HoldL v d δ := ⟨fun h => hl h.run, fun h => ⟨h.go⟩⟩
theorem lcL_inv {α : Type} {t : Tg} {own : List Nat} {c : Option Ex} {e : Ex} {f : α → D} (I : Nat → List D → Env → Prop) : ∀ (as : List α) (k : Nat) (acc : List D) (δ : Env),
    (∀ i a xs δ2, as[i]? = some a → I (k + i) xs δ2 → ∃ δ3, t.put (f a) (wipeE δ2 own) = some δ3 ∧ @CW ⟨fun δ4 => @VW ⟨fun x δ5 => I (k + i + 1) (xs ++ [x]) δ5⟩ (e δ4), fun δ4 => @Hold ⟨fun δ => I (k + i + 1) xs δ⟩ δ4⟩ (tstC c δ3)) → I k acc δ →
    ∃ ys δ', lcL t own c e (as.map f) δ = .ok ys δ' ∧ I (k + as.length) (acc ++ ys) δ'
  | [], k, acc, δ, _, h0 => ⟨[], δ, rfl, by simpa using h0⟩
  | a :: as, k, acc, δ, hs, h0 => by
    obtain ⟨δ3, e1, hc⟩ := hs 0 a acc δ (by simp) (by simpa using h0)
    obtain ⟨b, δ4, ec, ht, hf⟩ := CW.ok hc
    rw [List.map_cons]
    unfold lcL
    simp only [e1, ec]
    have nxt : ∀ acc' δ5, I (k + 1) acc' δ5 → ∃ ys δ', lcL t own c e (as.map f) δ5 = .ok ys δ' ∧ I (k + (a :: as).length) (acc' ++ ys) δ' := fun acc' δ5 h5 => by
      obtain ⟨ys, δ', g1, g2⟩ := lcL_inv I as (k + 1) acc' δ5 (fun i b xs δ2 hb hI => by
        have := hs (i + 1) b xs δ2 (by simpa using hb) (by rw [show k + (i + 1) = k + 1 + i by omega]; exact hI)
        rw [show k + (i + 1) = k + 1 + i by omega] at this
        exact this) h5
      exact ⟨ys, δ', g1, by rw [List.length_cons, show k + (as.length + 1) = k + 1 + as.length by omega]; exact g2⟩
    cases b with
    | true =>
      have hv := VW.go (ht rfl)
      cases ev : e δ4 with
      | ok x δ5 =>
        rw [ev] at hv
        obtain ⟨ys, δ', g1, g2⟩ := nxt (acc ++ [x]) δ5 hv
        refine ⟨x :: ys, δ', ?_, by rw [List.append_assoc] at g2; exact g2⟩
        simp only [ev, g1]
        rfl
      | exc _ _ _ => rw [ev] at hv; exact hv.elim
      | bad => rw [ev] at hv; exact hv.elim
    | false =>
      obtain ⟨ys, δ', g1, g2⟩ := nxt acc δ4 (Hold.go (hf rfl))
      exact ⟨ys, δ', g1, g2⟩
/-- a comprehension at the head, by an invariant -/
theorem o_lcI {P : Out → Prop} {α : Type} {it : ItE} {t : Tg} {own : List Nat} {c : Option Ex} {e : Ex} {δ δ1 : Env} {as : List α} {f : α → D} {k : D → Env → Out} (hit : it δ = .ok (as.map f) δ1) (hl : as.length ≤ cap) (I : Env → Nat → List D → Env → Prop) (h0 : I δ1 0 [] δ1)
    (hs : ∀ i a xs δ2, as[i]? = some a → I δ1 i xs δ2 → ∃ δ3, t.put (f a) (wipeE δ2 own) = some δ3 ∧ @CW ⟨fun δ4 => @VW ⟨fun x δ5 => I δ1 (i + 1) (xs ++ [x]) δ5⟩ (e δ4), fun δ4 => @Hold ⟨fun δ => I δ1 (i + 1) xs δ⟩ δ4⟩ (tstC c δ3))
    (h : ∀ xs δ2, I δ1 as.length xs δ2 → P (k (.lst xs) (restE δ1 own δ2))) : P ((eLc it t own c e δ).out k) := by
  obtain ⟨ys, δ', g1, g2⟩ := lcL_inv (t := t) (own := own) (c := c) (e := e) (f := f) (I δ1) as 0 [] δ1 (fun i a xs δ2 ha hI => by
    rw [Nat.zero_add] at hI ⊢
    exact hs i a xs δ2 ha hI) h0
  rw [Nat.zero_add, List.nil_append] at g2
  unfold eLc
  rw [hit]
  simp only [Res.bind_ok, List.length_map, hl, if_true, g1]
  exact h ys δ' g2
theorem x_rest0 (δ0 δ : Env) : restE δ0 [] δ = δ := rfl
theorem x_rest1 (δ0 δ : Env) (v : Nat) (vs : List Nat) : restE δ0 (v :: vs) δ = (restE δ0 vs δ).set v ((δ0[v]?).getD none) := rfl
/-- a pure comprehension over tuples at the head -/
theorem o_lcT {P : Out → Prop} {α : Type} {it : ItE} {is : List Nat} {c : Option Ex} {e : Ex} {δ δ1 : Env} {k : D → Env → Out} (as : List α) (f : α → D) (pp : α → Bool) (g : α → D) (hit : it δ = .ok (as.map f) δ1) (hl : as.length ≤ cap)
    (hp : ∀ a ∈ as, ptOk is (f a) ∧ tstC c (pE is (f a) δ1) = .ok (.bl (pp a)) (pE is (f a) δ1) ∧ (pp a = true → e (pE is (f a) δ1) = .ok (g a) (pE is (f a) δ1)))
    (h : P (k (.lst ((as.filter pp).map g)) δ1)) : P ((eLc it (.t is) is c e δ).out k) := by
  have h1 := lc_sN (it := fun _ => .ok (as.map f) δ1) (is := is) (c := c) (e := e) (δ := δ1) ⟨_, rfl⟩ (by simpa using hl) (fun d hd => by
    simp only [itD_ok, List.mem_map] at hd
    obtain ⟨a, ha, rfl⟩ := hd
    obtain ⟨q1, q2, q3⟩ := hp a ha
    exact ⟨q1, by rw [q2]; exact ⟨_, rfl⟩, fun z => by
      rw [q2] at z
      rw [q3 z]
      exact ⟨_, rfl⟩⟩)
  have e0 : eLc it (.t is) is c e δ = eLc (fun _ => .ok (as.map f) δ1) (.t is) is c e δ1 := by
    unfold eLc
    rw [hit]
  rw [e0, h1]
  simp only [itD_ok]
  have e2 : (List.filter (fun d => getB (tstC c (pE is d δ1))) (as.map f)).map (fun d => getV (e (pE is d δ1))) = (as.filter pp).map g := by
    rw [List.filter_map, List.map_map]
    have e3 : as.filter ((fun d => getB (tstC c (pE is d δ1))) ∘ f) = as.filter pp := List.filter_congr fun a ha => by
      simp only [Function.comp_def, (hp a ha).2.1, getB_ok]
    rw [e3]
    refine List.map_congr_left fun a ha => ?_
    rw [List.mem_filter] at ha
    simp only [Function.comp_def, (hp a ha.1).2.2 ha.2, getV_ok]
  rw [e2]
  exact h
end Mi

end
section
set_option linter.all false
set_option autoImplicit false
set_option maxRecDepth 20000
namespace Mi
open PySem PySem.Spec
def WL (W : D) : Prop := ∃ a b c : Int, W = .lst [.int a, .int b, .int c]
/-! draws -/
theorem draw_ok {W : D} (hW : WL W) {m : Int} (h0 : 0 < m) (h1 : m < 1073741824) : ∃ (r : Int) (W' : D), WL W' ∧ 0 ≤ r ∧ r < m ∧ f_law_draw [W, .int m] = .ok (.int r) [W'] := by
  obtain ⟨a, b, c, rfl⟩ := hW
  by_cases ha : 0 < a
  · refine ⟨a % m, .lst [.int (a / m), .int b, .int c], ⟨_, _, _, rfl⟩, Int.emod_nonneg _ (by omega), Int.emod_lt_of_pos _ h0, ?_⟩
    simp [Mi.sSeq, Mi.sAsg, Mi.sRet, Mi.sIf, Mi.sDo, Mi.sRaise, Mi.sFor, Mi.sPass, Mi.sBk, Mi.sCt, Mi.eV, Mi.eC, Mi.e1, Mi.e2, Mi.e3, Mi.eP, Mi.eO2, Mi.eL, Mi.eLst, Mi.eTup, Mi.eCh, Mi.eT, Mi.eAnd, Mi.eOr, Mi.eNot, Mi.eIf, Mi.Tg.put, Mi.setN, Mi.truth, Mi.iSeq, Mi.seqOf, Mi.fnM, Mi.startE, Mi.outsOf, Mi.isL, d_law_draw, m_law_draw, idxD, ixD, cmpD, ha, modD, h0, fdivD, h1, sSetI]
  · have g1 : ∀ x : Int, -(2 ^ 64) < x % 2147483647 ∧ x % 2147483647 < 2 ^ 64 := fun x => ⟨by omega, by omega⟩
    simp only [Int.reducePow, Int.reduceNeg] at g1
    have key : ∃ x : Int, f_law_draw [.lst [.int a, .int b, .int c], .int m] = .ok (.int (x % m)) [.lst [.int a, .int b, .int (c + 1)]] := by
      simp [Mi.sSeq, Mi.sAsg, Mi.sRet, Mi.sIf, Mi.sDo, Mi.sRaise, Mi.sFor, Mi.sPass, Mi.sBk, Mi.sCt, Mi.eV, Mi.eC, Mi.e1, Mi.e2, Mi.e3, Mi.eP, Mi.eO2, Mi.eL, Mi.eLst, Mi.eTup, Mi.eCh, Mi.eT, Mi.eAnd, Mi.eOr, Mi.eNot, Mi.eIf, Mi.Tg.put, Mi.setN, Mi.truth, Mi.iSeq, Mi.seqOf, Mi.fnM, Mi.startE, Mi.outsOf, Mi.isL, d_law_draw, m_law_draw, idxD, ixD, cmpD, ha, modD, h0, fdivD, h1, sSetI, addD, mulD, g1]
      exact ⟨_, rfl⟩
    obtain ⟨x, hx⟩ := key
    exact ⟨x % m, _, ⟨_, _, _, rfl⟩, Int.emod_nonneg _ (by omega), Int.emod_lt_of_pos _ h0, hx⟩
open Classical in
/-- the next number and the well behind it -/
noncomputable def dr (W : D) (m : Int) : Int := if h : WL W ∧ 0 < m ∧ m < 1073741824 then Classical.choose (draw_ok h.1 h.2.1 h.2.2) else 0
open Classical in
noncomputable def dw (W : D) (m : Int) : D := if h : WL W ∧ 0 < m ∧ m < 1073741824 then Classical.choose (Classical.choose_spec (draw_ok h.1 h.2.1 h.2.2)) else .lst [.int 0, .int 0, .int 0]
theorem dw_ok (W : D) (m : Int) : WL (dw W m) := by
  unfold dw
  split
  · rename_i h
    exact (Classical.choose_spec (Classical.choose_spec (draw_ok h.1 h.2.1 h.2.2))).1
  · exact ⟨0, 0, 0, rfl⟩
theorem dr_0 (W : D) (m : Int) : 0 ≤ dr W m := by
  unfold dr
  split
  · rename_i h
    exact (Classical.choose_spec (Classical.choose_spec (draw_ok h.1 h.2.1 h.2.2))).2.1
  · exact Int.le_refl 0
theorem dr_lt {W : D} {m : Int} (h0 : 0 < m) : dr W m < m := by
  unfold dr
  split
  · rename_i h
    exact (Classical.choose_spec (Classical.choose_spec (draw_ok h.1 h.2.1 h.2.2))).2.2.1
  · exact h0
theorem draw_eq {W : D} {m : Int} (hW : WL W) (h0 : 0 < m) (h1 : m < 1073741824) : f_law_draw [W, .int m] = .ok (.int (dr W m)) [dw W m] := by
  unfold dr dw
  rw [dif_pos ⟨hW, h0, h1⟩, dif_pos ⟨hW, h0, h1⟩]
  exact (Classical.choose_spec (Classical.choose_spec (draw_ok hW h0 h1))).2.2.2
end Mi

end
section
set_option linter.all false
set_option autoImplicit false
set_option maxRecDepth 20000
namespace Mi
open PySem PySem.Spec
theorem eq_intsL (a b : List Int) : eqD (.lst (a.map .int)) (.lst (b.map .int)) = some (.bl (decide (a = b))) ∧ neD (.lst (a.map .int)) (.lst (b.map .int)) = some (.bl (!decide (a = b))) ∧ eqD (.tup (a.map .int)) (.tup (b.map .int)) = some (.bl (decide (a = b))) ∧ neD (.tup (a.map .int)) (.tup (b.map .int)) = some (.bl (!decide (a = b))) := by
  have key : ∀ a b : List Int, PyData.eqvAll (D.pys (a.map D.int)) (D.pys (b.map D.int)) = decide (a = b) := by
    intro a
    induction a with
    | nil => intro b; cases b <;> simp [D.pys, PyData.eqvAll]
    | cons x a ih =>
      intro b
      cases b with
      | nil => simp [D.pys, PyData.eqvAll]
      | cons y b =>
        simp only [List.map_cons, D.pys, PyData.eqvAll, ih b, eqv_int]
        by_cases h1 : x = y <;> by_cases h2 : a = b <;> simp [h1, h2]
  refine ⟨?_, ?_, ?_, ?_⟩
  · unfold eqD; rw [ok_ints, ok_ints]; simp only [D.py, PyData.eqv, key]; rfl
  · unfold neD; rw [ok_ints, ok_ints]; simp only [D.py, PyData.eqv, key]; rfl
  · unfold eqD; rw [ok_intsT, ok_intsT]; simp only [D.py, PyData.eqv, key]; rfl
  · unfold neD; rw [ok_intsT, ok_intsT]; simp only [D.py, PyData.eqv, key]; rfl
theorem ne_bl (b : Bool) : neD (.bl b) (.bl b) = some (.bl false) := by
  unfold neD
  rw [okD_of (d := .bl b) (by simp [D.py, PyData.canLay0]) (by simp [D.py, PyData.depth])]
  cases b <;> simp [D.py, PyData.eqv]
theorem idx3 {a b c : D} {i : Int} (h0 : 0 ≤ i) (h1 : i < 3) : idxD (.lst [a, b, c]) (.int i) = some (if i = 0 then a else if i = 1 then b else c) := by
  have : i = 0 ∨ i = 1 ∨ i = 2 := by omega
  rcases this with rfl | rfl | rfl <;> rfl
theorem ne_rep (k : Nat) (i : Int) : neD (.lst (List.replicate k (.int i))) (.lst (List.replicate k (.int i))) = some (.bl false) := by
  have := (eq_intsL (List.replicate k i) (List.replicate k i)).2.1
  rw [List.map_replicate] at this
  rw [this]
  simp
theorem rep_int (k : Nat) (hk : k ≤ 1000) (d : D) : repD (.lst [d]) (.int (k : Nat)) = some (.lst (List.replicate k d)) := by
  have c := cap_60 (n := k) (by omega)
  have e : (List.replicate k [d]).flatten = List.replicate k d := by
    clear c hk
    induction k with
    | zero => rfl
    | succ k ih => rw [List.replicate_succ, List.flatten_cons, ih]; rfl
  show (if _ then _ else _) = _
  rw [if_pos ⟨by omega, by omega, by simpa using c⟩]
  simp only [Int.toNat_natCast, e]
end Mi

end
section
set_option linter.all false
set_option autoImplicit false
set_option maxRecDepth 20000
/-! the users of each slot -/
namespace Mi
open PySem PySem.Spec
def atU (us : List (List Int)) (s : Int) : List Int := (us[s.toNat]?).getD []
theorem addU_at {us : List (List Int)} {s ix : Int} (h0 : 0 ≤ s) (h1 : s < us.length) (hl : (atU us s).length < 1000000) : ∃ us', addU us s ix = some us' ∧ us'.length = us.length ∧ ∀ t : Int, 0 ≤ t → atU us' t = if t = s then atU us t ++ [ix] else atU us t := by
  have hs : s.toNat < us.length := by omega
  refine ⟨us.set s.toNat (atU us s ++ [ix]), ?_, List.length_set, fun t ht => ?_⟩
  · unfold addU ixD
    have e : us[s.toNat]? = some us[s.toNat] := List.getElem?_eq_getElem hs
    have e2 : atU us s = us[s.toNat] := by unfold atU; rw [e]; rfl
    rw [e2] at hl
    rw [if_pos h0, if_pos (by omega)]
    simp only [Option.bind_some, e, hl, if_true, e2]
  · unfold atU
    by_cases e : t = s
    · subst e
      rw [if_pos rfl, List.getElem?_set_self hs]
      rfl
    · rw [if_neg e, List.getElem?_set_ne (by omega)]
theorem rowU_at {ix : Int} {c : Nat} : ∀ {row : List Int} {us : List (List Int)}, row.Nodup → (∀ s ∈ row, 0 ≤ s ∧ s < us.length) → (∀ t : Int, 0 ≤ t → (atU us t).length ≤ c) → c < 1000000 → ∃ us', rowU ix (row.map .int) us = some us' ∧ us'.length = us.length ∧ ∀ t : Int, 0 ≤ t → atU us' t = if t ∈ row then atU us t ++ [ix] else atU us t
  | [], us, _, _, _, _ => ⟨us, rfl, rfl, fun t _ => by simp⟩
  | s :: row, us, nd, hr, hc, hb => by
    rw [List.nodup_cons] at nd
    obtain ⟨h0, h1⟩ := hr s List.mem_cons_self
    obtain ⟨us1, e1, l1, a1⟩ := addU_at (ix := ix) h0 h1 (Nat.lt_of_le_of_lt (hc s h0) hb)
    -- the other slots of the row are not yet touched
    have key : ∀ {row : List Int} {us1 : List (List Int)}, row.Nodup → (∀ t ∈ row, 0 ≤ t ∧ t < us1.length) → (∀ t ∈ row, (atU us1 t).length ≤ c) → ∃ us', rowU ix (row.map .int) us1 = some us' ∧ us'.length = us1.length ∧ ∀ t : Int, 0 ≤ t → atU us' t = if t ∈ row then atU us1 t ++ [ix] else atU us1 t := by
      intro row
      induction row with
      | nil => intro us1 _ _ _; exact ⟨us1, rfl, rfl, fun t _ => by simp⟩
      | cons u row ih =>
        intro us1 nd hr hc
        rw [List.nodup_cons] at nd
        obtain ⟨h0, h1⟩ := hr u List.mem_cons_self
        obtain ⟨us2, e2, l2, a2⟩ := addU_at (ix := ix) h0 h1 (Nat.lt_of_le_of_lt (hc u List.mem_cons_self) hb)
        obtain ⟨us', e3, l3, a3⟩ := ih (us1 := us2) nd.2 (fun t ht => by rw [l2]; exact hr t (List.mem_cons_of_mem _ ht)) (fun t ht => by
          rw [a2 t (hr t (List.mem_cons_of_mem _ ht)).1, if_neg (fun e => nd.1 (by rw [← e]; exact ht))]
          exact hc t (List.mem_cons_of_mem _ ht))
        refine ⟨us', ?_, by rw [l3, l2], fun t ht => ?_⟩
        · show (addU us1 u ix).bind (rowU ix (row.map .int)) = _
          rw [e2]; exact e3
        · rw [a3 t ht, a2 t ht]
          by_cases e : t = u
          · subst e; simp [nd.1]
          · by_cases m : t ∈ row <;> simp [e, m]
    exact key (row := s :: row) (us1 := us) (by rw [List.nodup_cons]; exact nd) hr fun t ht => hc t (hr t ht).1
theorem allU_at {c : Nat} : ∀ {al : List (List Int)} {k : Nat} {us : List (List Int)}, (∀ row ∈ al, row.Nodup ∧ ∀ s ∈ row, 0 ≤ s ∧ s < us.length) → (∀ t : Int, 0 ≤ t → (atU us t).length ≤ c) → c + al.length < 1000000 →
    ∃ us', allU k (lsD al) us = some us' ∧ us'.length = us.length ∧ ∀ t : Int, 0 ≤ t → atU us' t = atU us t ++ ((List.range al.length).filter fun j => decide (t ∈ (al[j]?).getD [])).map fun j => ((k + j : Nat) : Int)
  | [], k, us, _, _, _ => ⟨us, rfl, rfl, fun t _ => by simp⟩
  | row :: al, k, us, hr, hc, hb => by
    rw [List.length_cons] at hb
    obtain ⟨nd, rg⟩ := hr row List.mem_cons_self
    obtain ⟨us1, e1, l1, a1⟩ := rowU_at (ix := (k : Int)) nd rg hc (by omega)
    have hc1 : ∀ t : Int, 0 ≤ t → (atU us1 t).length ≤ c + 1 := fun t ht => by
      rw [a1 t ht]
      have := hc t ht
      split
      · rw [List.length_append, List.length_cons, List.length_nil]; omega
      · omega
    obtain ⟨us', e2, l2, a2⟩ := allU_at (al := al) (k := k + 1) (us := us1) (c := c + 1) (fun r h => by rw [l1]; exact hr r (List.mem_cons_of_mem _ h)) hc1 (by omega)
    refine ⟨us', ?_, by rw [l2, l1], fun t ht => ?_⟩
    · show (seqOf (D.lst (row.map .int))).bind (fun xs => (rowU (k : Int) xs us).bind (allU (k + 1) (lsD al))) = _
      show (rowU (k : Int) (row.map .int) us).bind (allU (k + 1) (lsD al)) = _
      rw [e1]
      exact e2
    · rw [a2 t ht, a1 t ht, List.length_cons, List.range_succ_eq_map, List.filter_cons]
      simp only [List.getElem?_cons_zero, Option.getD_some]
      have e : (List.map (fun j => ((k + j : Nat) : Int)) (List.filter (fun j => decide (t ∈ ((row :: al)[j]?).getD [])) (List.map Nat.succ (List.range al.length)))) = (List.map (fun j => ((k + 1 + j : Nat) : Int)) (List.filter (fun j => decide (t ∈ (al[j]?).getD [])) (List.range al.length))) := by
        rw [List.filter_map, List.map_map]
        have e3 : ((fun j => decide (t ∈ ((row :: al)[j]?).getD [])) ∘ Nat.succ) = fun j => decide (t ∈ (al[j]?).getD []) := by
          funext j; simp
        rw [e3]
        refine List.map_congr_left fun j _ => ?_
        simp only [Function.comp_def]
        omega
      by_cases m : t ∈ row
      · simp only [m, if_true, decide_true, List.map_cons, List.append_assoc, List.cons_append, List.nil_append]
        rw [e]
        rfl
      · simp only [m, if_false, decide_false]
        rw [if_neg Bool.false_ne_true, e]
/-- who may use slot s -/
def usr (al : List (List Int)) (s : Int) : List Int := ((List.range al.length).filter fun j => decide (s ∈ (al[j]?).getD [])).map fun (j : Nat) => (j : Int)
def usOf (n : Nat) (al : List (List Int)) : List (List Int) := (rgI n).map (usr al)
theorem usr_mem {al : List (List Int)} {s i : Int} : i ∈ usr al s ↔ 0 ≤ i ∧ ∃ l, al[i.toNat]? = some l ∧ s ∈ l := by
  unfold usr
  rw [List.mem_map]
  constructor
  · rintro ⟨j, hj, rfl⟩
    rw [List.mem_filter, List.mem_range] at hj
    refine ⟨by omega, ?_⟩
    have e : al[j]? = some al[j] := List.getElem?_eq_getElem hj.1
    refine ⟨al[j], by rw [← e]; rfl, ?_⟩
    have := hj.2
    rw [e] at this
    simpa using this
  · rintro ⟨h0, l, e, hs⟩
    have hl := (List.getElem?_eq_some_iff.mp e).1
    refine ⟨i.toNat, List.mem_filter.mpr ⟨List.mem_range.mpr hl, by rw [e]; simpa using hs⟩, by omega⟩
theorem usr_len (al : List (List Int)) (s : Int) : (usr al s).length ≤ al.length := by
  unfold usr
  rw [List.length_map]
  exact Nat.le_trans (List.length_filter_le _ _) (by simp)
theorem allU_ok {n : Nat} {al : List (List Int)} (h : BkOk n al) : allU 0 (lsD al) (List.replicate n []) = some (usOf n al) := by
  obtain ⟨us', e, l, a⟩ := allU_at (al := al) (k := 0) (us := List.replicate n []) (c := 0) (fun row hr => ⟨by
      rw [List.nodup_iff_pairwise_ne]; exact (h.asc row hr).imp fun a e => by omega, fun s hs => by rw [List.length_replicate]; exact h.rng row hr s hs⟩) (fun t _ => by
      unfold atU
      rw [List.getElem?_replicate]
      split <;> simp) (by have := h.len; omega)
  rw [e]
  congr 1
  rw [List.length_replicate] at l
  refine List.ext_getElem? fun i => ?_
  by_cases hi : i < n
  · have h1 := a (i : Int) (by omega)
    unfold atU at h1
    rw [Int.toNat_natCast, List.getElem?_replicate, if_pos hi, List.getElem?_eq_getElem (by omega)] at h1
    rw [List.getElem?_eq_getElem (by omega)]
    unfold usOf rgI
    rw [List.map_map, List.getElem?_map, List.getElem?_range hi]
    simp only [Option.getD_some, List.nil_append] at h1
    rw [h1]
    simp [usr, Function.comp_def]
  · rw [List.getElem?_eq_none (by omega), List.getElem?_eq_none (by unfold usOf; rw [List.length_map, rgI_len]; omega)]
def bookD (n : Nat) (al : List (List Int)) : D := .obj "Book" [("total", .int n), ("rows", .lst (tpD al)), ("users", usD (usOf n al))]
theorem fld_total (n : Nat) (al : List (List Int)) : fldD "Book" "total" (bookD n al) = some (.int n) := by
  unfold bookD
  show (if ("Book" : Str) = "Book" then _ else none) = _
  rw [if_pos rfl]
  rfl
theorem fld_rows (n : Nat) (al : List (List Int)) : fldD "Book" "rows" (bookD n al) = some (.lst (tpD al)) := by
  unfold bookD
  show (if ("Book" : Str) = "Book" then _ else none) = _
  rw [if_pos rfl]
  rfl
theorem fld_users (n : Nat) (al : List (List Int)) : fldD "Book" "users" (bookD n al) = some (usD (usOf n al)) := by
  unfold bookD
  show (if ("Book" : Str) = "Book" then _ else none) = _
  rw [if_pos rfl]
  rfl
theorem bk_look {m : Str} {fs : List D} (n : Nat) (al : List (List Int)) (h1 : (m == ("total" : Str)) = false) (h2 : (m == ("rows" : Str)) = false) (h3 : (m == ("users" : Str)) = false) : (List.lookup m [(("total" : Str), D.int n), ("rows", .lst (tpD al)), ("users", usD (usOf n al))]).isNone = true := by
  simp [List.lookup, h1, h2, h3]
/-- a method of the book -/
theorem bk_meth {n : Nat} {al : List (List Int)} {m : Str} {f : List D → Fr} {as : List Ex} {δ0 : Env} (h1 : (m == ("total" : Str)) = false) (h2 : (m == ("rows" : Str)) = false) (h3 : (m == ("users" : Str)) = false) : methR "Book" m f as (bookD n al) δ0 = (eL as δ0).bind fun ds δ1 => frV (f (bookD n al :: ds)) δ1 := by
  show (if ("Book" : Str) = "Book" ∧ _ then _ else _) = _
  rw [if_pos ⟨rfl, bk_look (fs := []) n al h1 h2 h3⟩]
  rfl
@[simp] theorem bk_size {n : Nat} {al : List (List Int)} {f : List D → Fr} {as : List Ex} {δ0 : Env} : methR "Book" "size" f as (bookD n al) δ0 = (eL as δ0).bind fun ds δ1 => frV (f (bookD n al :: ds)) δ1 := bk_meth (by decide) (by decide) (by decide)
@[simp] theorem bk_allowed {n : Nat} {al : List (List Int)} {f : List D → Fr} {as : List Ex} {δ0 : Env} : methR "Book" "allowed" f as (bookD n al) δ0 = (eL as δ0).bind fun ds δ1 => frV (f (bookD n al :: ds)) δ1 := bk_meth (by decide) (by decide) (by decide)
@[simp] theorem bk_capp {n : Nat} {al : List (List Int)} {f : List D → Fr} {as : List Ex} {δ0 : Env} : methR "Book" "check_appointment" f as (bookD n al) δ0 = (eL as δ0).bind fun ds δ1 => frV (f (bookD n al :: ds)) δ1 := bk_meth (by decide) (by decide) (by decide)
@[simp] theorem bk_cslot {n : Nat} {al : List (List Int)} {f : List D → Fr} {as : List Ex} {δ0 : Env} : methR "Book" "check_slot" f as (bookD n al) δ0 = (eL as δ0).bind fun ds δ1 => frV (f (bookD n al :: ds)) δ1 := bk_meth (by decide) (by decide) (by decide)
end Mi

end
section
set_option linter.all false
set_option autoImplicit false
set_option maxRecDepth 20000
/-! dicts with int keys; the search for open slots -/
namespace Mi
open PySem PySem.Spec
/-! ### dicts -/
def optD : Option Int → D
  | none => .non
  | some y => .int y
def ks {β : Type} (ps : List (Int × β)) : List Int := ps.map (·.1)
def encD {β : Type} (g : β → D) (ps : List (Int × β)) : List (D × D) := ps.map fun p => (D.int p.1, g p.2)
section
variable {β : Type} {g : β → D}
theorem valD_enc {s : Int} : ∀ {ps : List (Int × β)}, (valD (encD g ps) (.inl s)).isSome = decide (s ∈ ks ps)
  | [] => rfl
  | (k, b) :: ps => by
    show (if keyD (D.int k) = some (.inl s) then some (g b) else valD (encD g ps) (.inl s)).isSome = _
    have ih := valD_enc (s := s) (ps := ps)
    by_cases e : k = s
    · subst e; simp [keyD, ks]
    · have : ¬ s = k := fun z => e z.symm
      have h1 : keyD (D.int k) ≠ some (.inl s) := by simp [keyD, e]
      rw [if_neg h1, ih, decide_eq_decide]
      unfold ks
      rw [List.map_cons, List.mem_cons]
      exact ⟨.inr, fun z => z.elim (fun z => absurd z this) id⟩
theorem valD_at {s : Int} {b : β} : ∀ {ps : List (Int × β)}, (ks ps).Nodup → (s, b) ∈ ps → valD (encD g ps) (.inl s) = some (g b)
  | [], _, h => by cases h
  | (k, c) :: ps, nd, h => by
    unfold ks at nd
    rw [List.map_cons, List.nodup_cons] at nd
    show (if keyD (D.int k) = some (.inl s) then some (g c) else valD (encD g ps) (.inl s)) = _
    rcases List.mem_cons.mp h with e | e
    · cases e; rw [if_pos (by simp [keyD])]
    · have hk : ¬ k = s := fun z => nd.1 (by rw [z]; exact List.mem_map.mpr ⟨_, e, rfl⟩)
      rw [if_neg (by simp [keyD, hk])]
      exact valD_at nd.2 e
theorem din_enc (s : Int) (ps : List (Int × β)) : dinD (.int s) (.dic (encD g ps)) = some (.bl (decide (s ∈ ks ps))) := by
  unfold dinD dinO
  simp only [keyD, Option.map_some, valD_enc]
theorem dnin_enc (s : Int) (ps : List (Int × β)) : dninD (.int s) (.dic (encD g ps)) = some (.bl (!decide (s ∈ ks ps))) := by
  unfold dninD dinO
  simp only [keyD, Option.map_some, valD_enc]
theorem dget_enc {s : Int} {b : β} {ps : List (Int × β)} (nd : (ks ps).Nodup) (h : (s, b) ∈ ps) : dgetD (.dic (encD g ps)) (.int s) = some (g b) := by
  unfold dgetD
  simp only [keyD, Option.bind_some, valD_at nd h]
theorem dlist_enc (ps : List (Int × β)) : dlistD (.dic (encD g ps)) = some (.lst ((ks ps).map .int)) := by
  unfold dlistD encD ks
  simp only [List.map_map]
  rfl
theorem dsort_enc {ps : List (Int × β)} (h : ps.length < 64) : dsortD (.dic (encD g ps)) = some (.lst ((isort (ks ps)).map .int)) := by
  unfold dsortD keysI encD
  have e : ((ps.map fun p => (D.int p.1, g p.2)).map (·.1)) = (ks ps).map .int := by unfold ks; rw [List.map_map, List.map_map]; rfl
  simp only [e, intsO_map, Option.bind_some]
  rw [if_pos (by simpa [ks] using h)]
theorem hasK_enc (s : Int) (ps : List (Int × β)) : hasK (encD g ps) (.inl s) = decide (s ∈ ks ps) := by
  unfold hasK encD ks
  rw [List.any_map]
  induction ps with
  | nil => rfl
  | cons p ps ih =>
    rw [List.any_cons, ih]
    by_cases e : p.1 = s
    · simp [keyD, e]
    · have : ¬ s = p.1 := fun z => e z.symm
      simp [keyD, e, this]
theorem putM_enc {s : Int} {b : β} {ps : List (Int × β)} (h : s ∉ ks ps) : putM (encD g ps) (.inl s) (g b) = encD g (ps ++ [(s, b)]) := by
  unfold putM
  rw [hasK_enc, decide_eq_false h, if_neg Bool.false_ne_true]
  unfold encD
  rw [List.map_append]
  rfl
theorem encD_len (ps : List (Int × β)) : (encD g ps).length = ps.length := by simp [encD]
end
/-- a dict comprehension over distinct int keys -/
theorem dc_ints {α β : Type} {g : β → D} {it : ItE} {j : Nat} {c : Option Ex} {k e : Ex} {δ : Env} {as : List α} {f : α → D} {kk : α → Int} {vv : α → β} {pp : α → Bool} (hit : it δ = .ok (as.map f) δ) (hl : as.length ≤ cap)
    (hp : ∀ a ∈ as, tstC c (δ.set j (some (f a))) = .ok (.bl (pp a)) (δ.set j (some (f a))) ∧ (pp a = true → k (δ.set j (some (f a))) = .ok (.int (kk a)) (δ.set j (some (f a))) ∧ e (δ.set j (some (f a))) = .ok (g (vv a)) (δ.set j (some (f a)))))
    (nd : ((as.filter pp).map kk).Nodup) : eDc it (.n j) [j] c k e δ = .ok (.dic (encD g ((as.filter pp).map fun a => (kk a, vv a)))) δ := by
  have key : ∀ (q : List α) (acc : List (Int × β)), (∀ a ∈ q, a ∈ as) → (ks acc ++ (q.filter pp).map kk).Nodup → ∀ x : Option D, ∃ y : Option D, dcL (.n j) [j] c k e (q.map f) (encD g acc) (δ.set j x) = .ok (encD g (acc ++ (q.filter pp).map fun a => (kk a, vv a))) (δ.set j y) := by
    intro q
    induction q with
    | nil => intro acc _ _ x; exact ⟨x, by simp [dcL]⟩
    | cons a q ih =>
      intro acc hq hn x
      obtain ⟨h1, h2⟩ := hp a (hq a List.mem_cons_self)
      have ew : (wipeE (δ.set j x) [j]).set j (some (f a)) = δ.set j (some (f a)) := by simp [wipeE, List.set_set]
      rw [List.map_cons]
      unfold dcL
      simp only [Tg.put, ew, h1]
      cases hb : pp a with
      | true =>
        obtain ⟨h3, h4⟩ := h2 hb
        simp only [h3, h4, keyD]
        rw [List.filter_cons_of_pos hb, List.map_cons] at hn ⊢
        have hno : kk a ∉ ks acc := fun z => by
          rw [List.nodup_append] at hn
          exact hn.2.2 _ z _ List.mem_cons_self rfl
        rw [putM_enc hno]
        obtain ⟨y, hy⟩ := ih (acc ++ [(kk a, vv a)]) (fun z hz => hq z (List.mem_cons_of_mem _ hz)) (by
          unfold ks at hn ⊢
          rw [List.map_append, List.append_assoc]
          exact hn) (some (f a))
        refine ⟨y, ?_⟩
        rw [hy, List.append_assoc]
        rfl
      | false =>
        rw [List.filter_cons_of_neg (by rw [hb]; exact Bool.false_ne_true)] at hn ⊢
        exact ih acc (fun z hz => hq z (List.mem_cons_of_mem _ hz)) hn (some (f a))
  have e0 : δ = δ.set j (δ[j]?.getD none) := by
    refine List.ext_getElem? fun i => ?_
    by_cases hi : j = i
    · subst hi
      by_cases hb : j < δ.length
      · rw [List.getElem?_set_self hb, List.getElem?_eq_getElem hb]; rfl
      · rw [List.getElem?_eq_none (by omega), List.getElem?_eq_none (by simp; omega)]
    · rw [List.getElem?_set_ne hi]
  obtain ⟨y, hy⟩ := key as [] (fun _ h => h) (by simpa [ks] using nd) (δ[j]?.getD none)
  rw [← e0] at hy
  unfold eDc
  rw [hit]
  simp only [Res.bind_ok, List.length_map, hl, if_true]
  have hy' : dcL (.n j) [j] c k e (as.map f) [] δ = .ok (encD g ((as.filter pp).map fun a => (kk a, vv a))) (δ.set j y) := hy
  simp only [hy']
  rw [rest_self [j] δ (δ.set j y) (by simp) (fun i hi => List.getElem?_set_ne (by simp at hi; omega))]
/-! ### the search -/
abbrev Prs := List (Int × Option Int)
structure SInv (n : Nat) (al : List (List Int)) (tt : List Int) (a : Nat) (us : List Int) (ps : Prs) : Prop where
  nd : (ks ps).Nodup
  opn : ∀ s ∈ ks ps, Opn n al tt s
  fr : ∀ s, (s, none) ∈ ps ↔ 0 ≤ s ∧ s < n ∧ s ∉ tt
  par : ∀ (i : Nat) (s y : Int), ps[i]? = some (s, some y) → ∃ p, p < i ∧ p ≤ a ∧ (ks ps)[p]? = some y ∧ ∃ (j : Nat) (l : List Int), tt[j]? = some s ∧ al[j]? = some l ∧ y ∈ l
  mono : ∀ (i i' p p' : Nat) (s s' y y' : Int), i ≤ i' → ps[i]? = some (s, some y) → ps[i']? = some (s', some y') → (ks ps)[p]? = some y → (ks ps)[p']? = some y' → p ≤ p'
  frs : ∀ (i i' : Nat) (s s' y : Int), ps[i]? = some (s, some y) → ps[i']? = some (s', none) → i' < i
  cl : ∀ (p j : Nat) (y s : Int) (l : List Int), (p < a ∨ (p = a ∧ (j : Int) ∈ us)) → (ks ps)[p]? = some y → al[j]? = some l → y ∈ l → tt[j]? = some s → ∃ (i : Nat) (o : Option Int), ps[i]? = some (s, o) ∧ ∀ (y' : Int) (p' : Nat), o = some y' → (ks ps)[p']? = some y' → p' ≤ p
theorem nodup_at {l : List Int} (h : l.Nodup) {i j : Nat} {x : Int} (hi : l[i]? = some x) (hj : l[j]? = some x) : i = j := by
  obtain ⟨h1, e1⟩ := List.getElem?_eq_some_iff.mp hi
  obtain ⟨h2, e2⟩ := List.getElem?_eq_some_iff.mp hj
  have nd := List.pairwise_iff_getElem.mp (List.nodup_iff_pairwise_ne.mp h)
  rcases Nat.lt_trichotomy i j with g | g | g
  · exact absurd (e1.trans e2.symm) (nd i j h1 h2 g)
  · exact g
  · exact absurd (e2.trans e1.symm) (nd j i h2 h1 g)
theorem ks_app {β : Type} (ps : List (Int × β)) (s : Int) (o : β) : ks (ps ++ [(s, o)]) = ks ps ++ [s] := by simp [ks]
theorem ks_len {β : Type} (ps : List (Int × β)) : (ks ps).length = ps.length := by simp [ks]
theorem ks_at {β : Type} {ps : List (Int × β)} {i : Nat} {s : Int} {o : β} (h : ps[i]? = some (s, o)) : (ks ps)[i]? = some s := by unfold ks; rw [List.getElem?_map, h]; rfl
theorem ks_get {β : Type} {ps : List (Int × β)} {i : Nat} {s : Int} (h : (ks ps)[i]? = some s) : ∃ o, ps[i]? = some (s, o) := by
  unfold ks at h
  rw [List.getElem?_map] at h
  obtain ⟨p, h1, h2⟩ := Option.map_eq_some_iff.mp h
  exact ⟨p.2, by rw [h1, ← h2]⟩
theorem app_at {α : Type} {l : List α} {x y : α} {i : Nat} (h : (l ++ [x])[i]? = some y) : l[i]? = some y ∨ (i = l.length ∧ y = x) := by
  by_cases hi : i < l.length
  · rw [List.getElem?_append_left hi] at h; exact .inl h
  · rw [List.getElem?_append_right (by omega)] at h
    have : i - l.length = 0 := by
      have := (List.getElem?_eq_some_iff.mp h).1
      simp at this
      omega
    rw [this] at h
    simp at h
    exact .inr ⟨by omega, h.symm⟩
theorem at_app {α : Type} {l : List α} {x y : α} {i : Nat} (h : l[i]? = some y) : (l ++ [x])[i]? = some y := by
  rw [List.getElem?_append_left (List.getElem?_eq_some_iff.mp h).1]; exact h
section
variable {n : Nat} {al : List (List Int)} {tt : List Int} {a : Nat} {us : List Int} {ps : Prs}
theorem SInv.start (h : BkOk n al) : SInv n al tt 0 [] (((rgI n).filter fun s => !decide (s ∈ tt)).map fun s => (s, none)) := by
  have kse : ks (((rgI n).filter fun s => !decide (s ∈ tt)).map fun s => ((s, none) : Int × Option Int)) = (rgI n).filter fun s => !decide (s ∈ tt) := by
    unfold ks; rw [List.map_map]; exact List.map_id _
  have no : ∀ (i : Nat) (s y : Int), (((rgI n).filter fun s => !decide (s ∈ tt)).map fun s => ((s, none) : Int × Option Int))[i]? ≠ some (s, some y) := fun i s y e => by
    have := List.mem_of_getElem? e
    rw [List.mem_map] at this
    obtain ⟨z, _, e⟩ := this
    cases e
  exact {
    nd := by rw [kse]; exact (rgI_nodup n).filter _
    opn := fun s hs => by
      rw [kse, List.mem_filter, rgI_mem] at hs
      exact .free hs.1.1 hs.1.2 (by simpa using hs.2)
    fr := fun s => by
      rw [List.mem_map]
      constructor
      · rintro ⟨z, hz, e⟩
        cases e
        rw [List.mem_filter, rgI_mem] at hz
        exact ⟨hz.1.1, hz.1.2, by simpa using hz.2⟩
      · rintro ⟨h1, h2, h3⟩
        exact ⟨s, List.mem_filter.mpr ⟨rgI_mem.mpr ⟨h1, h2⟩, by simpa using h3⟩, rfl⟩
    par := fun i s y e => absurd e (no i s y)
    mono := fun i i' p p' s s' y y' _ e => absurd e (no i s y)
    frs := fun i i' s s' y e => absurd e (no i s y)
    cl := fun p j y s l hp => by
      rcases hp with hp | hp
      · omega
      · exact absurd hp.2 List.not_mem_nil }
/-- a user whose slot is known already -/
theorem SInv.skip (I : SInv n al tt a us ps) {u s y : Int} (hu : 0 ≤ u) (hy : (ks ps)[a]? = some y) (hs : tt[u.toNat]? = some s) (hk : s ∈ ks ps) : SInv n al tt a (us ++ [u]) ps where
  nd := I.nd
  opn := I.opn
  fr := I.fr
  par := I.par
  mono := I.mono
  frs := I.frs
  cl := fun p j y' s' l hp h1 h2 h3 h4 => by
    rcases hp with hp | ⟨hp, hj⟩
    · exact I.cl p j y' s' l (.inl hp) h1 h2 h3 h4
    · rw [List.mem_append] at hj
      rcases hj with hj | hj
      · exact I.cl p j y' s' l (.inr ⟨hp, hj⟩) h1 h2 h3 h4
      · simp at hj
        subst hj
        rw [Int.toNat_natCast, h4] at hs
        have hs := Option.some.inj hs
        rw [← hs] at hk
        obtain ⟨i, hi, e⟩ := List.getElem_of_mem hk
        obtain ⟨o, ho⟩ := ks_get (show (ks ps)[i]? = some s' by rw [List.getElem?_eq_getElem hi, e])
        refine ⟨i, o, ho, fun y2 p2 e1 e2 => ?_⟩
        subst e1
        obtain ⟨p3, _, h5, h6, _⟩ := I.par i s' y2 ho
        have := nodup_at I.nd e2 h6
        omega
/-- a user whose slot is new -/
theorem SInv.add (I : SInv n al tt a us ps) (h : BkOk n al) {u s y : Int} {l : List Int} (hu : 0 ≤ u) (hy : (ks ps)[a]? = some y) (hl : al[u.toNat]? = some l) (hyl : y ∈ l) (hs : tt[u.toNat]? = some s) (hk : s ∉ ks ps) : SInv n al tt a (us ++ [u]) (ps ++ [(s, some y)]) := by
  have ha : a < ps.length := by have := (List.getElem?_eq_some_iff.mp hy).1; rwa [ks_len] at this
  have st : s ∈ tt := List.mem_of_getElem? hs
  exact {
    nd := by
      rw [ks_app, List.nodup_append]
      exact ⟨I.nd, by simp, fun x hx z hz e => by simp at hz; subst hz; subst e; exact hk hx⟩
    opn := fun z hz => by
      rw [ks_app, List.mem_append] at hz
      rcases hz with hz | hz
      · exact I.opn z hz
      · simp at hz
        subst hz
        exact .step hs hl hyl (I.opn y (List.mem_of_getElem? hy))
    fr := fun z => by
      rw [List.mem_append, ← I.fr z]
      constructor
      · rintro (e | e)
        · exact e
        · simp at e
      · exact .inl
    par := fun i z w e => by
      rcases app_at e with e | ⟨e, e2⟩
      · obtain ⟨p, h1, h2, h3, h4⟩ := I.par i z w e
        exact ⟨p, h1, h2, by rw [ks_app]; exact at_app h3, h4⟩
      · cases e2
        exact ⟨a, by omega, Nat.le_refl _, by rw [ks_app]; exact at_app hy, u.toNat, l, hs, hl, hyl⟩
    mono := fun i i' p p' z z' w w' hii e e' hp hp' => by
      have fromPs : ∀ {i p : Nat} {z w : Int}, ps[i]? = some (z, some w) → (ks (ps ++ [(s, some y)]))[p]? = some w → (ks ps)[p]? = some w ∧ p ≤ a := fun {i p z w} e hp => by
        obtain ⟨p2, h1, h2, h3, _⟩ := I.par i z w e
        rw [ks_app] at hp
        rcases app_at hp with hp | ⟨hp, hw⟩
        · exact ⟨hp, by have := nodup_at I.nd hp h3; omega⟩
        · subst hw; exact absurd (List.mem_of_getElem? h3) hk
      rcases app_at e with e | ⟨e, e2⟩
      · rcases app_at e' with e' | ⟨e', e2'⟩
        · exact I.mono i i' p p' z z' w w' hii e e' (fromPs e hp).1 (fromPs e' hp').1
        · cases e2'
          have h1 := (fromPs e hp).2
          rw [ks_app] at hp'
          rcases app_at hp' with hp' | ⟨hp', hw⟩
          · have := nodup_at I.nd hp' hy; omega
          · subst hw; exact absurd (List.mem_of_getElem? hy) hk
      · rcases app_at e' with e' | ⟨e', e2'⟩
        · have := (List.getElem?_eq_some_iff.mp e').1
          omega
        · cases e2
          cases e2'
          rw [ks_app] at hp hp'
          have nd2 : (ks ps ++ [s]).Nodup := by
            rw [List.nodup_append]
            exact ⟨I.nd, by simp, fun x hx z2 hz2 e3 => by simp at hz2; rw [hz2] at e3; rw [e3] at hx; exact hk hx⟩
          have := nodup_at nd2 hp hp'
          omega
    frs := fun i i' z z' w e e' => by
      rcases app_at e' with e' | ⟨_, e2⟩
      · rcases app_at e with e | ⟨e, _⟩
        · exact I.frs i i' z z' w e e'
        · have := (List.getElem?_eq_some_iff.mp e').1
          omega
      · cases e2
    cl := fun p j y' s' l' hp h1 h2 h3 h4 => by
      have hpa : p ≤ a := by rcases hp with hp | hp <;> omega
      have h1' : (ks ps)[p]? = some y' := by
        rw [ks_app] at h1
        rcases app_at h1 with h1 | ⟨h1, _⟩
        · exact h1
        · rw [ks_len] at h1; omega
      have old : (∃ (i : Nat) (o : Option Int), ps[i]? = some (s', o) ∧ ∀ (y' : Int) (p' : Nat), o = some y' → (ks ps)[p']? = some y' → p' ≤ p) → ∃ (i : Nat) (o : Option Int), (ps ++ [(s, some y)])[i]? = some (s', o) ∧ ∀ (y' : Int) (p' : Nat), o = some y' → (ks (ps ++ [(s, some y)]))[p']? = some y' → p' ≤ p := by
        rintro ⟨i, o, g1, g2⟩
        refine ⟨i, o, at_app g1, fun y2 p2 e1 e2 => ?_⟩
        subst e1
        rw [ks_app] at e2
        rcases app_at e2 with e2 | ⟨e2, e3⟩
        · exact g2 y2 p2 rfl e2
        · subst e3
          obtain ⟨p3, _, _, g3, _⟩ := I.par i s' y2 g1
          exact absurd (List.mem_of_getElem? g3) hk
      rcases hp with hp | ⟨hp, hj⟩
      · exact old (I.cl p j y' s' l' (.inl hp) h1' h2 h3 h4)
      · rw [List.mem_append] at hj
        rcases hj with hj | hj
        · exact old (I.cl p j y' s' l' (.inr ⟨hp, hj⟩) h1' h2 h3 h4)
        · simp at hj
          subst hj
          rw [Int.toNat_natCast, h4] at hs
          cases hs
          refine ⟨ps.length, some y, by rw [List.getElem?_append_right (Nat.le_refl _)]; simp, fun y2 p2 e1 e2 => ?_⟩
          cases e1
          rw [ks_app] at e2
          rcases app_at e2 with e2 | ⟨e2, e3⟩
          · have := nodup_at I.nd e2 hy; omega
          · subst e3; exact absurd (List.mem_of_getElem? hy) hk }
/-- the users of a slot are through -/
theorem SInv.next (I : SInv n al tt a us ps) (hall : ∀ (j : Nat) (l : List Int) (y : Int), (ks ps)[a]? = some y → al[j]? = some l → y ∈ l → (j : Int) ∈ us) : SInv n al tt (a + 1) [] ps where
  nd := I.nd
  opn := I.opn
  fr := I.fr
  par := fun i s y e => by
    obtain ⟨p, h1, h2, h3⟩ := I.par i s y e
    exact ⟨p, h1, by omega, h3⟩
  mono := I.mono
  frs := I.frs
  cl := fun p j y s l hp h1 h2 h3 h4 => by
    rcases hp with hp | ⟨_, hp⟩
    · by_cases e : p = a
      · subst e
        exact I.cl p j y s l (.inr ⟨rfl, hall j l y h1 h2 h3⟩) h1 h2 h3 h4
      · exact I.cl p j y s l (.inl (by omega)) h1 h2 h3 h4
    · exact absurd hp List.not_mem_nil
theorem SInv.le_n (I : SInv n al tt a us ps) (h : BkOk n al) (t : TtOk al tt) : ps.length ≤ n := by
  have := nd_len I.nd (l' := rgI n) fun x hx => rgI_mem.mpr ((I.opn x hx).rg h t)
  rwa [rgI_len, ks_len] at this
theorem SInv.done (I : SInv n al tt ps.length [] ps) {s : Int} : s ∈ ks ps ↔ Opn n al tt s := by
  refine ⟨I.opn s, fun o => ?_⟩
  induction o with
  | @free s h1 h2 h3 => exact List.mem_map.mpr ⟨_, (I.fr s).mpr ⟨h1, h2, h3⟩, rfl⟩
  | @step s y j l h1 h2 h3 _ ih =>
    obtain ⟨p, hp, e⟩ := List.getElem_of_mem ih
    obtain ⟨i, o, g, _⟩ := I.cl p j y s l (.inl (by rwa [ks_len] at hp)) (by rw [List.getElem?_eq_getElem hp, e]) h2 h3 h1
    exact List.mem_of_getElem? (ks_at g)
end
end Mi

end
section
set_option linter.all false
set_option autoImplicit false
set_option maxRecDepth 20000
/-! frozen appointments, growing sets: plain facts -/
namespace Mi
open PySem PySem.Spec
theorem enum_map_from {α : Type} {f : α → D} : ∀ (as : List α) (k : Nat), enumD k (as.map f) = (as.zipIdx k).map fun p => D.tup [.int (p.2 : Nat), f p.1]
  | [], _ => rfl
  | a :: as, k => by
    rw [List.map_cons, List.zipIdx_cons, List.map_cons, enumD, enum_map_from as (k + 1)]
theorem enum_map {α : Type} {f : α → D} (as : List α) : enumD 0 (as.map f) = as.zipIdx.map fun p => D.tup [.int (p.2 : Nat), f p.1] := enum_map_from as 0
theorem zi_mem {α : Type} {as : List α} {p : α × Nat} (h : p ∈ as.zipIdx) : as[p.2]? = some p.1 := by
  have := List.mem_zipIdx_iff_getElem?.mp h
  exact this
theorem isort_perm (l : List Int) : (isort l).Perm l := List.mergeSort_perm _ _
theorem isort_mem {l : List Int} {x : Int} : x ∈ isort l ↔ x ∈ l := (isort_perm l).mem_iff
theorem isort_le (l : List Int) : (isort l).Pairwise (· ≤ ·) := by
  have p := List.pairwise_mergeSort (le := fun a b : Int => decide (a ≤ b)) (fun a b c h1 h2 => by simp only [decide_eq_true_eq] at *; omega) (fun a b => by simp only [Bool.or_eq_true, decide_eq_true_eq]; omega) l
  exact p.imp fun h => of_decide_eq_true h
theorem isort_lt {l : List Int} (h : l.Nodup) : (isort l).Pairwise (· < ·) := by
  have q := List.nodup_iff_pairwise_ne.mp ((isort_perm l).nodup_iff.mpr h)
  exact ((isort_le l).and q).imp fun ⟨a, b⟩ => by omega
/-- a sorted list that is known by its items -/
theorem isort_eq {l l' : List Int} (h : l.Nodup) (h' : l'.Pairwise (· < ·)) (m : ∀ x, x ∈ l ↔ x ∈ l') : isort l = l' := lt_unique (isort_lt h) h' fun x => isort_mem.trans (m x)
open Classical in
/-- the frozen appointments -/
noncomputable def frzL (n : Nat) (al : List (List Int)) (tt : List Int) : List Int := (tt.zipIdx.filter fun p => !decide (Opn n al tt p.1)).map fun p => (p.2 : Int)
open Classical in
theorem frz_eq {n : Nat} {al : List (List Int)} {tt : List Int} {q : Int × Nat → Bool} (h : ∀ p ∈ tt.zipIdx, q p = !decide (Opn n al tt p.1)) : (tt.zipIdx.filter q).map (fun p => D.int (p.2 : Nat)) = (frzL n al tt).map .int := by
  unfold frzL
  rw [List.map_map, List.filter_congr h]
  rfl
end Mi

end
section
set_option linter.all false
set_option autoImplicit false
set_option maxRecDepth 20000
/-! open slots by growing a set -/
namespace Mi
open PySem PySem.Spec
/-- what one round adds -/
def addP (al : List (List Int)) (found : List Int) (p : Int × Nat) : Bool := !decide (p.1 ∈ found) && !(((al[p.2]?).getD []).filter fun y => decide (y ∈ found)).isEmpty
def addL' (al : List (List Int)) (tt found : List Int) (i : Nat) : List Int := (((tt.zipIdx).take i).filter (addP al found)).map (·.1)
structure GInv (n : Nat) (al : List (List Int)) (tt found : List Int) : Prop where
  nd : found.Nodup
  opn : ∀ s ∈ found, Opn n al tt s
  fr : ∀ s : Int, 0 ≤ s → s < n → s ∉ tt → s ∈ found
section
variable {n : Nat} {al : List (List Int)} {tt found : List Int}
theorem addP_iff {p : Int × Nat} : addP al found p = true ↔ p.1 ∉ found ∧ ∃ y ∈ (al[p.2]?).getD [], y ∈ found := by
  unfold addP
  rw [Bool.and_eq_true]
  have e : (!(((al[p.2]?).getD []).filter fun y => decide (y ∈ found)).isEmpty) = true ↔ ∃ y ∈ (al[p.2]?).getD [], y ∈ found := by
    cases h : ((al[p.2]?).getD []).filter fun y => decide (y ∈ found) with
    | nil =>
      simp only [List.isEmpty_nil, Bool.not_true, Bool.false_eq_true, false_iff]
      rintro ⟨y, h1, h2⟩
      have := List.filter_eq_nil_iff.mp h y h1
      simp [h2] at this
    | cons y r =>
      simp only [List.isEmpty_cons, Bool.not_false, true_iff]
      have : y ∈ ((al[p.2]?).getD []).filter fun y => decide (y ∈ found) := by rw [h]; exact List.mem_cons_self
      rw [List.mem_filter] at this
      exact ⟨y, this.1, by simpa using this.2⟩
  rw [e]
  simp
theorem GInv.start : GInv n al tt ((rgI n).filter fun s => !decide (s ∈ tt)) where
  nd := (rgI_nodup n).filter _
  opn := fun s hs => by
    rw [List.mem_filter, rgI_mem] at hs
    exact .free hs.1.1 hs.1.2 (by simpa using hs.2)
  fr := fun s h1 h2 h3 => List.mem_filter.mpr ⟨rgI_mem.mpr ⟨h1, h2⟩, by simpa using h3⟩
theorem addL_mem {i : Nat} {s : Int} (h : s ∈ addL' al tt found i) : ∃ j : Nat, tt[j]? = some s ∧ s ∉ found ∧ ∃ y ∈ (al[j]?).getD [], y ∈ found := by
  unfold addL' at h
  rw [List.mem_map] at h
  obtain ⟨p, hp, rfl⟩ := h
  rw [List.mem_filter, addP_iff] at hp
  exact ⟨p.2, zi_mem (List.mem_of_mem_take hp.1), hp.2.1, hp.2.2⟩
theorem GInv.step (I : GInv n al tt found) (t : TtOk al tt) : GInv n al tt (found ++ addL' al tt found tt.length) where
  nd := by
    rw [List.nodup_append]
    refine ⟨I.nd, ?_, fun x hx y hy e => ?_⟩
    · have h0 : ((tt.zipIdx).map (·.1)).Nodup := by rw [List.zipIdx_map_fst]; exact t.nd
      have sub : List.Sublist (addL' al tt found tt.length) ((tt.zipIdx).map (·.1)) := by
        unfold addL'
        exact (List.filter_sublist.trans (List.take_sublist _ _)).map _
      exact h0.sublist sub
    · obtain ⟨j, _, h2, _⟩ := addL_mem hy
      exact h2 (by rw [← e]; exact hx)
  opn := fun s hs => by
    rcases List.mem_append.mp hs with hs | hs
    · exact I.opn s hs
    · obtain ⟨j, h1, _, y, h3, h4⟩ := addL_mem hs
      cases e : al[j]? with
      | none => rw [e] at h3; cases h3
      | some l => rw [e] at h3; exact .step h1 e h3 (I.opn y h4)
  fr := fun s h1 h2 h3 => List.mem_append_left _ (I.fr s h1 h2 h3)
theorem GInv.done (I : GInv n al tt found) (h : addL' al tt found tt.length = []) {s : Int} : s ∈ found ↔ Opn n al tt s := by
  refine ⟨I.opn s, fun o => ?_⟩
  induction o with
  | @free s h1 h2 h3 => exact I.fr s h1 h2 h3
  | @step s y j l h1 h2 h3 _ ih =>
    by_cases hs : s ∈ found
    · exact hs
    · have hl := (List.getElem?_eq_some_iff.mp h1).1
      have : s ∈ addL' al tt found tt.length := by
        unfold addL'
        refine List.mem_map.mpr ⟨(s, j), List.mem_filter.mpr ⟨?_, addP_iff.mpr ⟨hs, y, by rw [h2]; exact h3, ih⟩⟩, rfl⟩
        rw [List.take_of_length_le (by simp)]
        exact List.mem_zipIdx_iff_getElem?.mpr h1
      rw [h] at this
      cases this
theorem GInv.le_n (I : GInv n al tt found) (h : BkOk n al) (t : TtOk al tt) : found.length ≤ n := by
  have := nd_len I.nd (l' := rgI n) fun x hx => rgI_mem.mpr ((I.opn x hx).rg h t)
  rwa [rgI_len] at this
theorem addL_succ {i : Nat} {s : Int} (hs : tt[i]? = some s) : addL' al tt found (i + 1) = if addP al found (s, i) = true then addL' al tt found i ++ [s] else addL' al tt found i := by
  unfold addL'
  have e : (tt.zipIdx)[i]? = some (s, i) := by rw [List.getElem?_zipIdx, hs]; simp
  rw [List.take_succ, e, Option.toList_some, List.filter_append, List.map_append]
  by_cases h : addP al found (s, i) = true
  · rw [if_pos h, List.filter_cons_of_pos h]; rfl
  · rw [if_neg h, List.filter_cons_of_neg h]; simp
end
end Mi

end
section
set_option linter.all false
set_option autoImplicit false
set_option maxRecDepth 20000
/-! tight sets and moves: plain facts -/
namespace Mi
open PySem PySem.Spec
def rowOf (al : List (List Int)) (tt : List Int) (s : Int) : List Int := (al[tt.idxOf s]?).getD []
def tightB (al : List (List Int)) (tt xs : List Int) : Bool := xs.all fun s => decide (s ∈ tt) && (rowOf al tt s).all fun y => decide (y ∈ xs)
theorem idx_get {tt : List Int} {s : Int} (h : s ∈ tt) : tt[tt.idxOf s]? = some s := by
  have hl := List.idxOf_lt_length_of_mem h
  rw [List.getElem?_eq_getElem hl]
  exact congrArg some (List.getElem_idxOf hl)
theorem idx_of {tt : List Int} {s : Int} {j : Nat} (nd : tt.Nodup) (h : tt[j]? = some s) : tt.idxOf s = j := nodup_at nd (idx_get (List.mem_of_getElem? h)) h
section
variable {n : Nat} {al : List (List Int)} {tt : List Int}
theorem rowOf_at (t : TtOk al tt) {s : Int} (h : s ∈ tt) : al[tt.idxOf s]? = some (rowOf al tt s) := by
  have hl := List.idxOf_lt_length_of_mem h
  rw [t.len] at hl
  unfold rowOf
  rw [List.getElem?_eq_getElem hl]
  rfl
open Classical in
/-- the closed slots -/
noncomputable def clsL (n : Nat) (al : List (List Int)) (tt : List Int) : List Int := (rgI n).filter fun s => !decide (s ∈ opnL n al tt)
theorem cls_mem (h : BkOk n al) (t : TtOk al tt) {s : Int} : s ∈ clsL n al tt ↔ (0 ≤ s ∧ s < n) ∧ ¬ Opn n al tt s := by
  unfold clsL
  rw [List.mem_filter, rgI_mem]
  simp [opnL_mem h t]
theorem cls_occ (h : BkOk n al) (t : TtOk al tt) {s : Int} (hs : s ∈ clsL n al tt) : s ∈ tt := by
  obtain ⟨⟨a, b⟩, c⟩ := (cls_mem h t).mp hs
  exact Classical.byContradiction fun z => c (.free a b z)
theorem cls_row (h : BkOk n al) (t : TtOk al tt) {s y : Int} (hs : s ∈ clsL n al tt) (hy : y ∈ rowOf al tt s) : y ∈ clsL n al tt := by
  have ho := cls_occ h t hs
  have hr := rowOf_at t ho
  obtain ⟨_, c⟩ := (cls_mem h t).mp hs
  refine (cls_mem h t).mpr ⟨h.rng _ (List.mem_of_getElem? hr) y hy, fun o => c (.step (idx_get ho) hr hy o)⟩
theorem cls_tight (h : BkOk n al) (t : TtOk al tt) {xs : List Int} (hx : ∀ s, s ∈ xs ↔ s ∈ clsL n al tt) : tightB al tt xs = true := by
  unfold tightB
  rw [List.all_eq_true]
  intro s hs
  rw [Bool.and_eq_true, List.all_eq_true]
  refine ⟨by simpa using cls_occ h t ((hx s).mp hs), fun y hy => by simpa using (hx y).mpr (cls_row h t ((hx s).mp hs) hy)⟩
theorem tightB_false {xs : List Int} {s : Int} (hs : s ∈ xs) (h : s ∉ tt ∨ ∃ y ∈ rowOf al tt s, y ∉ xs) : tightB al tt xs = false := by
  cases e : tightB al tt xs with
  | false => rfl
  | true =>
    unfold tightB at e
    rw [List.all_eq_true] at e
    have := e s hs
    rw [Bool.and_eq_true, List.all_eq_true] at this
    rcases h with h | ⟨y, h1, h2⟩
    · have := this.1; simp [h] at this
    · have := this.2 y h1; simp [h2] at this
theorem tightB_true {xs : List Int} (h : ∀ s ∈ xs, s ∈ tt ∧ ∀ y ∈ rowOf al tt s, y ∈ xs) : tightB al tt xs = true := by
  unfold tightB
  rw [List.all_eq_true]
  intro s hs
  rw [Bool.and_eq_true, List.all_eq_true]
  exact ⟨by simpa using (h s hs).1, fun y hy => by simpa using (h s hs).2 y hy⟩
/-! ### moves -/
inductive Rch (al : List (List Int)) : List Int → List Int → Prop
  | refl (tt : List Int) : Rch al tt tt
  | step {tt t2 : List Int} {j : Nat} {b : Int} {l : List Int} : Rch al tt t2 → al[j]? = some l → b ∈ l → b ∉ t2 → Rch al tt (t2.set j b)
theorem Rch.ok (t : TtOk al tt) {t2 : List Int} (r : Rch al tt t2) : TtOk al t2 := by
  induction r with
  | refl => exact t
  | step _ hl hb hf ih => exact ih.move hl hb hf
theorem Rch.opn (h : BkOk n al) (t : TtOk al tt) {t2 : List Int} (r : Rch al tt t2) (s : Int) : Opn n al t2 s ↔ Opn n al tt s := by
  induction r with
  | refl => exact Iff.rfl
  | @step t2 j b l r hl hb hf ih =>
    have t2ok := r.ok t
    have jl : j < t2.length := by rw [t2ok.len]; exact (List.getElem?_eq_some_iff.mp hl).1
    rw [opn_move h t2ok (List.getElem?_eq_getElem jl) hl hb hf]
    exact ih
theorem Rch.opnL (h : BkOk n al) (t : TtOk al tt) {t2 : List Int} (r : Rch al tt t2) : opnL n al t2 = opnL n al tt := lt_unique (opnL_lt _ _ _) (opnL_lt _ _ _) fun s => by rw [opnL_mem h (r.ok t), opnL_mem h t, r.opn h t]
theorem Rch.len {t2 : List Int} (r : Rch al tt t2) : t2.length = tt.length := by
  induction r with
  | refl => rfl
  | step _ _ _ _ ih => rw [List.length_set]; exact ih
/-- who is frozen -/
theorem Rch.frz_at (h : BkOk n al) (t : TtOk al tt) {t2 : List Int} (r : Rch al tt t2) {i : Nat} {x y : Int} (hx : tt[i]? = some x) (hy : t2[i]? = some y) : Opn n al t2 y ↔ Opn n al tt x := by
  induction r generalizing y with
  | refl => rw [hx] at hy; cases hy; exact Iff.rfl
  | @step t2 j b l r hl hb hf ih =>
    have t2ok := r.ok t
    have jl : j < t2.length := by rw [t2ok.len]; exact (List.getElem?_eq_some_iff.mp hl).1
    have il : i < t2.length := by have := (List.getElem?_eq_some_iff.mp hy).1; rwa [List.length_set] at this
    rw [opn_at_move h t2ok (List.getElem?_eq_getElem jl) hl hb hf (List.getElem?_eq_getElem il) hy]
    exact ih (List.getElem?_eq_getElem il)
open Classical in
theorem frzL_range (n : Nat) (al : List (List Int)) (tt : List Int) : frzL n al tt = ((List.range tt.length).filter fun i => !decide (Opn n al tt ((tt[i]?).getD 0))).map fun (i : Nat) => (i : Int) := by
  unfold frzL
  have key : ∀ (q : List Int) (k : Nat), (∀ i, q[i]? = tt[k + i]?) → ((q.zipIdx k).filter fun p => !decide (Opn n al tt p.1)).map (fun p => (p.2 : Int)) = ((List.range' k q.length).filter fun i => !decide (Opn n al tt ((tt[i]?).getD 0))).map fun (i : Nat) => (i : Int) := by
    intro q
    induction q with
    | nil => intro k _; rfl
    | cons x q ih =>
      intro k hk
      have h0 := hk 0
      simp only [List.getElem?_cons_zero, Nat.add_zero] at h0
      have ih := ih (k + 1) fun i => by have := hk (i + 1); rw [show k + 1 + i = k + (i + 1) by omega]; simpa using this
      rw [List.zipIdx_cons, List.length_cons, List.range'_succ, List.filter_cons, List.filter_cons]
      simp only [← h0, Option.getD_some]
      split
      · rw [List.map_cons, List.map_cons, ih]
      · exact ih
  rw [key tt 0 (fun i => by rw [Nat.zero_add]), List.range_eq_range']
theorem Rch.frzL (h : BkOk n al) (t : TtOk al tt) {t2 : List Int} (r : Rch al tt t2) : frzL n al t2 = frzL n al tt := by
  rw [frzL_range, frzL_range, r.len]
  congr 1
  refine List.filter_congr fun i hi => ?_
  have hi := List.mem_range.mp hi
  have h1 : tt[i]? = some tt[i] := List.getElem?_eq_getElem hi
  have h2 : t2[i]? = some (t2[i]'(by rw [r.len]; exact hi)) := List.getElem?_eq_getElem _
  rw [h1, h2]
  exact congrArg (!·) (decide_eq_decide.mpr (r.frz_at h t h1 h2))
theorem move_cat {tt : List Int} {j : Nat} (hj : j < tt.length) (b : Int) : tt.take j ++ [b] ++ tt.drop (j + 1) = tt.set j b := by
  rw [List.set_eq_take_append_cons_drop, if_pos hj]
  simp
end
theorem slice_drop {α : Type} {xs : List α} {i : Int} (h0 : 0 ≤ i) : cutD xs (some i) none = xs.drop i.toNat := by
  unfold cutD
  have h1 : ¬ i < 0 := by omega
  simp only [HT.sIx, h1, if_false]
  by_cases h : i.toNat ≤ xs.length
  · rw [Nat.min_eq_left h, List.take_of_length_le (by rw [List.length_drop]; omega)]
  · rw [Nat.min_eq_right (by omega), List.drop_of_length_le (Nat.le_refl _), List.drop_of_length_le (by omega)]
    simp
theorem cut_drop {α : Type} (l : List α) (i : Nat) : cutD l (some ((i : Int) + 1)) none = l.drop (i + 1) := by rw [slice_drop (by omega)]; congr 1
end Mi

end
section
set_option linter.all false
set_option autoImplicit false
set_option maxRecDepth 20000
/-! timetables that are reached, all of them: plain facts -/
namespace Mi
open PySem PySem.Spec
theorem ndl_len {α : Type} [DecidableEq α] : ∀ {l l' : List α}, l.Nodup → (∀ x ∈ l, x ∈ l') → l.length ≤ l'.length
  | [], _, _, _ => Nat.zero_le _
  | x :: l, l', h, hs => by
    rw [List.nodup_cons] at h
    have hx := hs x List.mem_cons_self
    have ih := ndl_len (l := l) (l' := l'.erase x) h.2 fun z hz => (List.mem_erase_of_ne (fun e => h.1 (by rw [← e]; exact hz))).mpr (hs z (List.mem_cons_of_mem _ hz))
    rw [List.length_erase_of_mem hx] at ih
    have := List.length_pos_of_mem hx
    rw [List.length_cons]
    omega
/-- all rows of m different items -/
def permsL : Nat → List Int → List (List Int)
  | 0, _ => [[]]
  | m + 1, L => L.flatMap fun x => (permsL m (L.erase x)).map (x :: ·)
def fallF : Nat → Nat → Nat
  | 0, _ => 1
  | m + 1, k => k * fallF m (k - 1)
theorem permsL_mem : ∀ {m : Nat} {L r : List Int}, r.Nodup → (∀ x ∈ r, x ∈ L) → r.length = m → r ∈ permsL m L
  | 0, L, [], _, _, _ => by simp [permsL]
  | 0, L, x :: r, _, _, h => by simp at h
  | m + 1, L, [], _, _, h => by simp at h
  | m + 1, L, x :: r, nd, hs, hl => by
    rw [List.nodup_cons] at nd
    unfold permsL
    rw [List.mem_flatMap]
    refine ⟨x, hs x List.mem_cons_self, List.mem_map.mpr ⟨r, permsL_mem nd.2 (fun z hz => ?_) (by simpa using hl), rfl⟩⟩
    exact (List.mem_erase_of_ne (fun e => nd.1 (by rw [← e]; exact hz))).mpr (hs z (List.mem_cons_of_mem _ hz))
theorem permsL_len : ∀ {m : Nat} {L : List Int}, (permsL m L).length = fallF m L.length
  | 0, L => rfl
  | m + 1, L => by
    unfold permsL fallF
    have key : ∀ q : List Int, (∀ x ∈ q, x ∈ L) → (q.flatMap fun x => (permsL m (L.erase x)).map (x :: ·)).length = q.length * fallF m (L.length - 1) := by
      intro q
      induction q with
      | nil => intro _; simp
      | cons x q ih =>
        intro h
        rw [List.flatMap_cons, List.length_append, List.length_map, permsL_len, List.length_erase_of_mem (h x List.mem_cons_self), ih fun z hz => h z (List.mem_cons_of_mem _ hz), List.length_cons, Nat.succ_mul, Nat.add_comm]
    exact key L fun _ h => h
theorem fall_le {m k : Nat} (hk : k ≤ 6) (hm : m ≤ k) : fallF m k ≤ 720 := by
  have key : ∀ k, k < 7 → ∀ m, m < 7 → fallF m k ≤ 720 := by decide
  exact key k (by omega) m (by omega)
section
variable {n : Nat} {al : List (List Int)} {tt : List Int}
/-- so many timetables at most -/
theorem many_le (h : BkOk n al) (t : TtOk al tt) (h6 : n ≤ 6) {R : List (List Int)} (nd : R.Nodup) (hR : ∀ r ∈ R, Rch al tt r) : R.length ≤ 720 := by
  have e := ndl_len nd (l' := permsL tt.length (rgI n)) fun r hr => permsL_mem ((hR r hr).ok t).nd (fun x hx => rgI_mem.mpr (((hR r hr).ok t).in_rg h x hx)) (hR r hr).len
  rw [permsL_len, rgI_len] at e
  exact Nat.le_trans e (fall_le h6 (t.le_n h))
/-- what is closed under moves holds all that is reached -/
theorem rch_in {R : List (List Int)} (h0 : tt ∈ R) (hc : ∀ t2 ∈ R, ∀ (j : Nat) (l : List Int) (b : Int), al[j]? = some l → b ∈ l → b ∉ t2 → t2.set j b ∈ R) {t2 : List Int} (r : Rch al tt t2) : t2 ∈ R := by
  induction r with
  | refl => exact h0
  | step _ h1 h2 h3 ih => exact hc _ ih _ _ _ h1 h2 h3
/-- each open slot becomes free -/
theorem opn_reach (h : BkOk n al) (t : TtOk al tt) {ps : Prs} (I : SInv n al tt ps.length [] ps) : ∀ (i : Nat) (s : Int), (ks ps)[i]? = some s → ∃ t2, Rch al tt t2 ∧ s ∉ t2 ∧ ∀ (j : Nat) (x : Int), tt[j]? = some x → (∀ p, p ≤ i → (ks ps)[p]? ≠ some x) → t2[j]? = some x := by
  intro i
  induction i using Nat.strongRecOn with
  | _ i ih =>
    intro s hs
    obtain ⟨o, ho⟩ := ks_get hs
    cases o with
    | none =>
      have := (I.fr s).mp (List.mem_of_getElem? ho)
      exact ⟨tt, .refl tt, this.2.2, fun j x hx _ => hx⟩
    | some y =>
      obtain ⟨p, hp, _, hy, j, l, hj, hl, hyl⟩ := I.par i s y ho
      obtain ⟨t2, r, ny, ag⟩ := ih p hp y hy
      have e2 : t2[j]? = some s := ag j s hj fun q hq e => by
        have := nodup_at I.nd e hs
        omega
      have jl := (List.getElem?_eq_some_iff.mp e2).1
      have sy : s ≠ y := fun e => by
        subst e
        have := nodup_at I.nd hs hy
        omega
      refine ⟨t2.set j y, .step r hl hyl ny, fun hm => ?_, fun i' x hx hno => ?_⟩
      · obtain ⟨q, hq, e⟩ := List.getElem_of_mem hm
        rw [List.length_set] at hq
        rw [List.getElem_set] at e
        split at e
        · exact sy e.symm
        · rename_i hne
          have := nodup_at (r.ok t).nd e2 (show t2[q]? = some s by rw [List.getElem?_eq_getElem hq, e])
          exact hne this
      · have ne : j ≠ i' := fun e => by
          subst e
          rw [hj] at hx
          cases hx
          exact hno i (Nat.le_refl _) hs
        rw [List.getElem?_set_ne ne]
        exact ag i' x hx fun q hq => hno q (by omega)
theorem opn_free (h : BkOk n al) (t : TtOk al tt) {ps : Prs} (I : SInv n al tt ps.length [] ps) {s : Int} (o : Opn n al tt s) : ∃ t2, Rch al tt t2 ∧ s ∉ t2 := by
  obtain ⟨i, hi, e⟩ := List.getElem_of_mem (I.done.mpr o)
  obtain ⟨t2, r, hn, _⟩ := opn_reach h t I i s (by rw [List.getElem?_eq_getElem hi, e])
  exact ⟨t2, r, hn⟩
/-- free somewhere: open -/
theorem free_opn (h : BkOk n al) (t : TtOk al tt) {t2 : List Int} (r : Rch al tt t2) {s : Int} (h0 : 0 ≤ s) (h1 : s < n) (hn : s ∉ t2) : Opn n al tt s := (r.opn h t s).mp (.free h0 h1 hn)
/-- who is frozen stays -/
theorem rch_frozen (h : BkOk n al) (t : TtOk al tt) {t2 : List Int} (r : Rch al tt t2) {i : Nat} {x : Int} (hx : tt[i]? = some x) (hc : ¬ Opn n al tt x) : t2[i]? = some x := by
  induction r with
  | refl => exact hx
  | @step t2 j b l r hl hb hf ih =>
    by_cases hij : j = i
    · subst hij
      have ob : Opn n al t2 x := .step ih hl hb (.free (h.rng l (List.mem_of_getElem? hl) b hb).1 (h.rng l (List.mem_of_getElem? hl) b hb).2 hf)
      exact absurd ((r.opn h t x).mp ob) hc
    · rw [List.getElem?_set_ne hij]
      exact ih
/-- what an appointment that is not frozen may have -/
theorem used_iff (h : BkOk n al) (t : TtOk al tt) {ps : Prs} (I : SInv n al tt ps.length [] ps) {R : List (List Int)} (hR : ∀ r, r ∈ R ↔ Rch al tt r) {j : Nat} {x : Int} {l : List Int} (hx : tt[j]? = some x) (hl : al[j]? = some l) (o : Opn n al tt x) (s : Int) :
    (∃ r ∈ R, r[j]? = some s) ↔ s ∈ l ∧ Opn n al tt s := by
  constructor
  · rintro ⟨r, hr, e⟩
    have rr := (hR r).mp hr
    exact ⟨(rr.ok t).may j l s hl e, (rr.opn h t s).mp ((rr.frz_at h t hx e).mpr o)⟩
  · rintro ⟨h1, h2⟩
    obtain ⟨t2, r, hn⟩ := opn_free h t I h2
    have jl : j < t2.length := by rw [r.len]; exact (List.getElem?_eq_some_iff.mp hx).1
    exact ⟨t2.set j s, (hR _).mpr (.step r hl h1 hn), List.getElem?_set_self jl⟩
end
end Mi

end
section
set_option linter.all false
set_option autoImplicit false
set_option maxRecDepth 20000
/-! the calculus: tuple-keyed dicts, fresh results, a, b = x, y -/
namespace Mi
open PySem PySem.Spec
section
variable {δ : Env}
theorem x_Td (fk fv : Ex) : eTd fk fv δ = (fk δ).bind fun k δ1 => (fv δ1).bind fun v δ2 => Res.opt ((keyT k).map fun _ => .dit [(k, v)]) δ2 := rfl
def frF (x : Fr) (δ1 : Env) : Res D := match x with
  | .ok (.lst xs) _ => .ok (.lst xs) δ1
  | .exc c d => .exc c d δ1
  | _ => .bad
@[simp] theorem frF_ok (xs o : List D) (δ1 : Env) : frF (.ok (.lst xs) o) δ1 = .ok (.lst xs) δ1 := rfl
@[simp] theorem frF_exc (c : Str) (d : D) (δ1 : Env) : frF (.exc c d) δ1 = .exc c d δ1 := rfl
theorem x_CallF (f : List D → Fr) (as : List Ex) : eCallF f as δ = (eL as δ).bind fun ds δ1 => frF (f ds) δ1 := rfl
noncomputable def setTR (i : Nat) (v x kk : D) (δ3 : Env) : Out := match x, keyT kk with
  | .dit ds, some q => if ds.length < cap then .nx (δ3.set i (some (.dit (putT ds q v)))) else .bad
  | _, _ => .bad
theorem x_setT (i : Nat) (k e : Ex) : sSetT i k e δ = (e δ).out fun v δ1 => (k δ1).out fun kk δ2 => (eV i δ2).out fun x δ3 => setTR i v x kk δ3 := rfl
theorem sq_setT (i : Nat) (k e : Ex) (r : Sm) : sSeq (sSetT i k e) r δ = (e δ).out fun v δ1 => (k δ1).out fun kk δ2 => (eV i δ2).out fun x δ3 => (setTR i v x kk δ3).seq r := by
  rw [sSeq_eq, x_setT]
  cases e δ with
  | ok v δ1 =>
    simp only [Res.out_ok]
    cases k δ1 with
    | ok kk δ2 =>
      simp only [Res.out_ok]
      cases eV i δ2 with
      | ok x δ3 => rfl
      | exc c d δ1 => rfl
      | bad => rfl
    | exc c d δ1 => rfl
    | bad => rfl
  | exc c d δ1 => rfl
  | bad => rfl
theorem sq_par (i j : Nat) (ea eb : Ex) (r : Sm) : sSeq (sPar i j ea eb) r δ = (ea δ).out fun d δ1 => (eb δ1).out fun e δ2 => r ((δ2.set i (some d)).set j (some e)) := by
  rw [sSeq_eq, show sPar i j ea eb δ = (ea δ).out fun d δ1 => (eb δ1).out fun e δ2 => .nx ((δ2.set i (some d)).set j (some e)) from rfl]
  cases ea δ with
  | ok d δ1 =>
    simp only [Res.out_ok]
    cases eb δ1 with
    | ok e δ2 => rfl
    | exc c d δ1 => rfl
    | bad => rfl
  | exc c d δ1 => rfl
  | bad => rfl
end
/-! ### dicts of rows -/
def tD' (r : List Int) : D := .tup (r.map .int)
def encT (ps : List (List Int × Int)) : List (D × D) := ps.map fun p => (D.tup (p.1.map .int), .int p.2)
theorem keyT_i (r : List Int) : keyT (.tup (r.map .int)) = some r := keyT_tup r
theorem valT_enc {s : List Int} : ∀ {ps : List (List Int × Int)}, (valT (encT ps) s).isSome = decide (s ∈ ps.map Prod.fst)
  | [] => rfl
  | (k, b) :: ps => by
    show (if keyT (.tup (k.map .int)) = some s then some (D.int b) else valT (encT ps) s).isSome = _
    have ih := valT_enc (s := s) (ps := ps)
    rw [keyT_i]
    by_cases e : k = s
    · subst e; simp
    · have : ¬ s = k := fun z => e z.symm
      rw [if_neg (fun z => e (Option.some.inj z)), ih, decide_eq_decide, List.map_cons, List.mem_cons]
      exact ⟨.inr, fun z => z.elim (fun z => absurd z this) id⟩
theorem valT_int {s : List Int} : ∀ {ps : List (List Int × Int)} {d : D}, valT (encT ps) s = some d → ∃ v, d = .int v
  | [], _, h => by cases h
  | (k, b) :: ps, d, h => by
    have h : (if keyT (.tup (k.map .int)) = some s then some (D.int b) else valT (encT ps) s) = some d := h
    split at h
    · cases h; exact ⟨b, rfl⟩
    · exact valT_int h
theorem tnin_enc (s : List Int) (ps : List (List Int × Int)) : tninD (.tup (s.map .int)) (.dit (encT ps)) = some (.bl (!decide (s ∈ ps.map Prod.fst))) := by
  unfold tninD tinO
  simp only [keyT_i, Option.map_some, valT_enc]
theorem tget_enc {s : List Int} {ps : List (List Int × Int)} (h : s ∈ ps.map Prod.fst) : ∃ v, tgetD (.dit (encT ps)) (.tup (s.map .int)) = some (.int v) := by
  unfold tgetD
  simp only [keyT_i, Option.bind_some]
  have e := valT_enc (s := s) (ps := ps)
  rw [decide_eq_true h] at e
  obtain ⟨d, hd⟩ := Option.isSome_iff_exists.mp e
  obtain ⟨v, rfl⟩ := valT_int hd
  exact ⟨v, hd⟩
theorem putT_enc {s : List Int} {b : Int} {ps : List (List Int × Int)} (h : s ∉ ps.map Prod.fst) : putT (encT ps) s (.int b) = encT (ps ++ [(s, b)]) := by
  unfold putT
  rw [valT_enc, decide_eq_false h, if_neg Bool.false_ne_true]
  unfold encT
  rw [List.map_append]
  rfl
theorem encT_len (ps : List (List Int × Int)) : (encT ps).length = ps.length := by simp [encT]
theorem tlist_enc (ps : List (List Int × Int)) : tlistD (.dit (encT ps)) = some (.lst ((ps.map Prod.fst).map fun r => .tup (r.map .int))) := by
  unfold tlistD encT
  simp only [List.map_map]
  rfl
/-! ### the search, move by move -/
structure RI (al : List (List Int)) (tt : List Int) (a i : Nat) (us : List Int) (R : List (List Int)) : Prop where
  nd : R.Nodup
  z : tt ∈ R
  r : ∀ t2 ∈ R, Rch al tt t2
  cl : ∀ (p j : Nat) (l : List Int) (b : Int) (t2 : List Int), (p < a ∨ (p = a ∧ (j < i ∨ (j = i ∧ b ∈ us)))) → R[p]? = some t2 → al[j]? = some l → b ∈ l → b ∉ t2 → t2.set j b ∈ R
section
variable {al : List (List Int)} {tt : List Int} {a i : Nat} {us : List Int} {R : List (List Int)}
theorem RI.start (al : List (List Int)) (tt : List Int) : RI al tt 0 0 [] [tt] where
  nd := by simp
  z := by simp
  r := fun t2 h => by simp at h; subst h; exact .refl _
  cl := fun p j l b t2 h => by rcases h with h | ⟨_, h | ⟨_, h⟩⟩ <;> first | omega | cases h
theorem RI.skip (I : RI al tt a i us R) {b : Int} (h : ∀ t2, R[a]? = some t2 → b ∉ t2 → t2.set i b ∈ R) : RI al tt a i (us ++ [b]) R where
  nd := I.nd
  z := I.z
  r := I.r
  cl := fun p j l b' t2 hp e1 e2 e3 e4 => by
    rcases hp with hp | ⟨hp, hp2 | ⟨hp2, hp3⟩⟩
    · exact I.cl p j l b' t2 (.inl hp) e1 e2 e3 e4
    · exact I.cl p j l b' t2 (.inr ⟨hp, .inl hp2⟩) e1 e2 e3 e4
    · rcases List.mem_append.mp hp3 with g | g
      · exact I.cl p j l b' t2 (.inr ⟨hp, .inr ⟨hp2, g⟩⟩) e1 e2 e3 e4
      · simp at g
        subst g hp hp2
        exact h t2 e1 e4
theorem RI.add (I : RI al tt a i us R) {b : Int} {l t2 : List Int} (ha : R[a]? = some t2) (hl : al[i]? = some l) (hb : b ∈ l) (hn : b ∉ t2) (new : t2.set i b ∉ R) : RI al tt a i (us ++ [b]) (R ++ [t2.set i b]) where
  nd := by
    rw [List.nodup_append]
    exact ⟨I.nd, by simp, fun x hx y hy e => by simp at hy; subst hy; subst e; exact new hx⟩
  z := List.mem_append_left _ I.z
  r := fun t3 h => by
    rcases List.mem_append.mp h with h | h
    · exact I.r t3 h
    · simp at h; subst h
      exact .step (I.r t2 (List.mem_of_getElem? ha)) hl hb hn
  cl := fun p j l' b' t3 hp e1 e2 e3 e4 => by
    have al' := (List.getElem?_eq_some_iff.mp ha).1
    have e1' : R[p]? = some t3 := by
      rw [List.getElem?_append_left (by rcases hp with hp | hp <;> omega)] at e1
      exact e1
    rw [List.mem_append]
    rcases hp with hp | ⟨hp, hp2 | ⟨hp2, hp3⟩⟩
    · exact .inl (I.cl p j l' b' t3 (.inl hp) e1' e2 e3 e4)
    · exact .inl (I.cl p j l' b' t3 (.inr ⟨hp, .inl hp2⟩) e1' e2 e3 e4)
    · rcases List.mem_append.mp hp3 with g | g
      · exact .inl (I.cl p j l' b' t3 (.inr ⟨hp, .inr ⟨hp2, g⟩⟩) e1' e2 e3 e4)
      · simp at g
        subst g hp hp2
        rw [ha] at e1'
        cases e1'
        exact .inr (by simp)
theorem RI.row (I : RI al tt a i us R) (h : ∀ l, al[i]? = some l → ∀ b ∈ l, b ∈ us) : RI al tt a (i + 1) [] R where
  nd := I.nd
  z := I.z
  r := I.r
  cl := fun p j l b t2 hp e1 e2 e3 e4 => by
    rcases hp with hp | ⟨hp, hp2 | ⟨_, hp3⟩⟩
    · exact I.cl p j l b t2 (.inl hp) e1 e2 e3 e4
    · by_cases e : j = i
      · subst e
        exact I.cl p j l b t2 (.inr ⟨hp, .inr ⟨rfl, h l e2 b e3⟩⟩) e1 e2 e3 e4
      · exact I.cl p j l b t2 (.inr ⟨hp, .inl (by omega)⟩) e1 e2 e3 e4
    · cases hp3
theorem RI.next (I : RI al tt a i us R) (hi : al.length ≤ i) : RI al tt (a + 1) 0 [] R where
  nd := I.nd
  z := I.z
  r := I.r
  cl := fun p j l b t2 hp e1 e2 e3 e4 => by
    have jl := (List.getElem?_eq_some_iff.mp e2).1
    rcases hp with hp | ⟨_, hp2 | ⟨_, hp3⟩⟩
    · by_cases e : p = a
      · exact I.cl p j l b t2 (.inr ⟨e, .inl (by omega)⟩) e1 e2 e3 e4
      · exact I.cl p j l b t2 (.inl (by omega)) e1 e2 e3 e4
    · omega
    · cases hp3
theorem RI.all (I : RI al tt R.length 0 [] R) (r : List Int) : r ∈ R ↔ Rch al tt r := by
  refine ⟨I.r r, fun h => rch_in I.z (fun t2 ht j l b e1 e2 e3 => ?_) h⟩
  obtain ⟨p, hp, e⟩ := List.getElem_of_mem ht
  exact I.cl p j l b t2 (.inl hp) (by rw [List.getElem?_eq_getElem hp, e]) e1 e2 e3
end
end Mi

end
section
set_option linter.all false
set_option autoImplicit false
set_option maxRecDepth 20000
namespace Mi
open PySem PySem.Spec
def exl : List (Str × Str) := [("NoBook", "index"), ("NoTimetable", "index"), ("NoMove", "index"), ("NoSlot", "slot"), ("NoAppointment", "appointment"), ("Frozen", "slots"), ("NoCertificate", "index"), ("TooMany", "most"), ("NotAllowed", "slot"), ("NoWish", "key"), ("NoCosts", "index")]
def exs (x : D) : List D := exl.map fun p => D.exn p.1 p.2 x
theorem x_Exn (c f : Str) (a : Ex) (δ : Env) : eExn c f a δ = (a δ).bind fun x δ1 => .ok (.exn c f x) δ1 := rfl
theorem c11 : (11 : Nat) ≤ cap := cap_60 (by decide)
theorem c7 : (7 : Nat) ≤ cap := cap_60 (by decide)
theorem c5 : (5 : Nat) ≤ cap := cap_60 (by decide)
theorem c8 : (8 : Nat) ≤ cap := cap_60 (by decide)
theorem c9 : (9 : Nat) ≤ cap := cap_60 (by decide)
theorem c10 : (10 : Nat) ≤ cap := cap_60 (by decide)
theorem place_ok (x : D) : f_law_by_place [x] = .ok (.lst (exs x)) [] := by
  refine e_law_by_place rfl ?_
  unfold m_law_by_place
  simp (maxDischargeDepth := 7) [List.getElem?_cons_zero, List.getElem?_cons_succ, Mi.bind_out, Mi.bind_bind, Mi.sq_asg, Mi.sq_do, Mi.sq_ret, Mi.sq_raise, Mi.sq_seq, Mi.sq_pass, Mi.sq_if, Mi.sq_app, Mi.sq_setI, Mi.sq_setK, Mi.sq_ct, Mi.sq_bk, Mi.x_V, Mi.x_C, Mi.x_1, Mi.x_2, Mi.x_O2, Mi.x_P0, Mi.x_P1, Mi.x_3, Mi.x_O3, Mi.x_And, Mi.x_Or, Mi.x_Not, Mi.x_If, Mi.x_L0, Mi.x_L1, Mi.x_Tup, Mi.x_Lst, Mi.x_Ch, Mi.x_Call, Mi.x_CallO, Mi.x_CallP, Mi.x_CallN, Mi.x_Meth, Mi.x_Seq, Mi.x_Rng, Mi.x_Rng2, Mi.x_Enum, Mi.x_Zip, Mi.x_Zip3, Mi.x_Ix, Mi.x_Make, Mi.x_Try, Mi.x_TryO, Mi.sq_try, Mi.sq_tryO, Mi.x_setF, Mi.sq_setF, Mi.isD, Mi.tyN, Mi.tyB, Mi.x_pass, Mi.x_asg, Mi.x_do, Mi.x_ret, Mi.x_raise, Mi.x_if, Mi.x_bk, Mi.x_ct, Mi.x_app, Mi.x_setI, Mi.x_setK, Mi.x_pop, Mi.x_isL, Mi.x_tn, Mi.x_t0, Mi.x_st0, Mi.x_st1, Mi.x_rest0, Mi.x_rest1, Mi.x_putn, Mi.x_putt, Mi.x_set0, Mi.x_set1, Mi.x_out0, Mi.x_out1, Mi.truth, Mi.seqOf, Mi.startE, Mi.pE_tup, Mi.wipe0, Mi.wipe1, Option.getD_some, Mi.isBl_ite, Mi.toB_ite, Mi.allD_map, Mi.anyD_map, Mi.filter_tt, -List.mem_map, List.forall_mem_map, -List.map_tail, -List.map_take, -List.map_drop, Mi.take_mp, Mi.drop_mp, Mi.tail_mp, Mi.min_cap, List.length_zip, Mi.zip2_map, Mi.okV_ite, Mi.okB_ite, Mi.getV_ite, Mi.getB_ite, Mi.bind_ite, Mi.out_ite, Mi.lc_s, Mi.lc_sS, Mi.lc_sN, Mi.lc_sM, List.filter_map, List.map_map, Function.comp_def, x_Exn, addD, c11, c7]
  rfl
theorem name_ok (x : D) : f_law_by_name [x] = .ok (.lst (exs x)) [] := by
  refine e_law_by_name rfl ?_
  unfold m_law_by_name
  simp (maxDischargeDepth := 7) [List.getElem?_cons_zero, List.getElem?_cons_succ, Mi.bind_out, Mi.bind_bind, Mi.sq_asg, Mi.sq_do, Mi.sq_ret, Mi.sq_raise, Mi.sq_seq, Mi.sq_pass, Mi.sq_if, Mi.sq_app, Mi.sq_setI, Mi.sq_setK, Mi.sq_ct, Mi.sq_bk, Mi.x_V, Mi.x_C, Mi.x_1, Mi.x_2, Mi.x_O2, Mi.x_P0, Mi.x_P1, Mi.x_3, Mi.x_O3, Mi.x_And, Mi.x_Or, Mi.x_Not, Mi.x_If, Mi.x_L0, Mi.x_L1, Mi.x_Tup, Mi.x_Lst, Mi.x_Ch, Mi.x_Call, Mi.x_CallO, Mi.x_CallP, Mi.x_CallN, Mi.x_Meth, Mi.x_Seq, Mi.x_Rng, Mi.x_Rng2, Mi.x_Enum, Mi.x_Zip, Mi.x_Zip3, Mi.x_Ix, Mi.x_Make, Mi.x_Try, Mi.x_TryO, Mi.sq_try, Mi.sq_tryO, Mi.x_setF, Mi.sq_setF, Mi.isD, Mi.tyN, Mi.tyB, Mi.x_pass, Mi.x_asg, Mi.x_do, Mi.x_ret, Mi.x_raise, Mi.x_if, Mi.x_bk, Mi.x_ct, Mi.x_app, Mi.x_setI, Mi.x_setK, Mi.x_pop, Mi.x_isL, Mi.x_tn, Mi.x_t0, Mi.x_st0, Mi.x_st1, Mi.x_rest0, Mi.x_rest1, Mi.x_putn, Mi.x_putt, Mi.x_set0, Mi.x_set1, Mi.x_out0, Mi.x_out1, Mi.truth, Mi.seqOf, Mi.startE, Mi.pE_tup, Mi.wipe0, Mi.wipe1, Option.getD_some, Mi.isBl_ite, Mi.toB_ite, Mi.allD_map, Mi.anyD_map, Mi.filter_tt, -List.mem_map, List.forall_mem_map, -List.map_tail, -List.map_take, -List.map_drop, Mi.take_mp, Mi.drop_mp, Mi.tail_mp, Mi.min_cap, List.length_zip, Mi.zip2_map, Mi.okV_ite, Mi.okB_ite, Mi.getV_ite, Mi.getB_ite, Mi.bind_ite, Mi.out_ite, Mi.lc_s, Mi.lc_sS, Mi.lc_sN, Mi.lc_sM, List.filter_map, List.map_map, Function.comp_def, x_Exn, addD, c11, c8, c5]
  rfl
theorem xv_of {n c f : Str} {cs : List Str} (x : D) (h : c ∈ cs ∧ f = n) : xvD n cs (.exn c f x) = some x := if_pos h
theorem isv_of {t : List (Str × Bool)} {c f : Str} {b : Bool} (x : D) (h : anF t c = some b) : isVD (anF t) (.exn c f x) = some (.bl b) := by show (anF t c).map D.bl = _; rw [h]; rfl
theorem sq_nx {a b : Sm} {δ δ1 : Env} (h : a δ = .nx δ1) : sSeq a b δ = b δ1 := by unfold sSeq; rw [h]
theorem l_nil {δ : Env} : eL [] δ = .ok [] δ := rfl
theorem l_cons {a : Ex} {r : List Ex} {δ : Env} {x : D} {xs : List D} (h : a δ = .ok x δ) (t : eL r δ = .ok xs δ) : eL (a :: r) δ = .ok (x :: xs) δ := by
  show ((a δ).bind fun x δ1 => (eL r δ1).bind fun xs δ2 => Res.ok (x :: xs) δ2) = _
  rw [h, Res.bind_ok, t]; rfl
theorem a_lst {i : Nat} {L : List Ex} {δ : Env} {xs : List D} (h : eL L δ = .ok xs δ) : sAsg (.n i) (eLst L) δ = .nx (δ.set i (some (.lst xs))) := by
  show (((eL L δ).bind fun xs δ1 => Res.ok (D.lst xs) δ1).out fun d δ1 => match (Tg.n i).put d δ1 with | some δ2 => Out.nx δ2 | none => .bad) = _
  rw [h]; rfl
theorem e_add {i : Nat} {L : List Ex} {δ : Env} {xs acc : List D} (hv : eV i δ = .ok (.lst acc) δ) (h : eL L δ = .ok xs δ) (hl : acc.length + xs.length ≤ cap) : Mi.e2 addD (eV i) (eLst L) δ = .ok (.lst (acc ++ xs)) δ := by
  show ((eV i δ).bind fun x δ1 => ((eL L δ1).bind fun xs δ1 => Res.ok (D.lst xs) δ1).bind fun y δ2 => Res.opt (addD x y) δ2) = _
  rw [hv, Res.bind_ok, h, Res.bind_ok, Res.bind_ok]
  show Res.opt (if _ then _ else _) δ = _
  rw [if_pos hl]; rfl
theorem a_add {i j : Nat} {L : List Ex} {δ : Env} {xs acc : List D} (hv : eV i δ = .ok (.lst acc) δ) (h : eL L δ = .ok xs δ) (hl : acc.length + xs.length ≤ cap) : sAsg (.n j) (Mi.e2 addD (eV i) (eLst L)) δ = .nx (δ.set j (some (.lst (acc ++ xs)))) := by
  show ((Mi.e2 addD (eV i) (eLst L) δ).out fun d δ1 => match (Tg.n j).put d δ1 with | some δ2 => Out.nx δ2 | none => .bad) = _
  rw [e_add hv h hl]; rfl
theorem r_of {e : Ex} {δ δ1 : Env} {d : D} (h : e δ = .ok d δ1) : sRet e δ = .rt d δ1 := by unfold sRet; rw [h]; rfl
theorem it_xv {n : Str} {cs : List Str} {k : Int} {d e x : D} {y : Option D} (hi : idxD d (.int k) = some e) (h : xvD n cs e = some x) : Mi.e1 (xvD n cs) (Mi.e2 idxD (eV 0) (eC (.int k))) [some d, y] = .ok x [some d, y] := by
  show (Res.opt (idxD d (.int k)) [some d, y]).bind (fun x δ1 => Res.opt (xvD n cs x) δ1) = _
  rw [hi, Res.opt_some, Res.bind_ok, h]; rfl
theorem it_is {t : List (Str × Bool)} {e : D} {b : Bool} {y : Option D} (h : isVD (anF t) e = some (.bl b)) : Mi.e1 (isVD (anF t)) (eV 0) [some e, y] = .ok (.bl b) [some e, y] := by
  show Res.opt (isVD (anF t) e) _ = _
  rw [h]; rfl
theorem fields_ok (x : D) : f_law_fields [.lst (exs x)] = .ok (.lst (List.replicate 11 x)) [] := by
  have h0 : ∀ y : Option D, Mi.e1 (xvD "index" xc_index) (Mi.e2 idxD (eV 0) (eC (.int 0))) [some (.lst (exs x)), y] = .ok x [some (.lst (exs x)), y] := fun y => it_xv (e := .exn "NoBook" "index" x) rfl (xv_of x (by unfold xc_index; decide +kernel))
  have h1 : ∀ y : Option D, Mi.e1 (xvD "index" xc_index) (Mi.e2 idxD (eV 0) (eC (.int 1))) [some (.lst (exs x)), y] = .ok x [some (.lst (exs x)), y] := fun y => it_xv (e := .exn "NoTimetable" "index" x) rfl (xv_of x (by unfold xc_index; decide +kernel))
  have h2 : ∀ y : Option D, Mi.e1 (xvD "index" xc_index) (Mi.e2 idxD (eV 0) (eC (.int 2))) [some (.lst (exs x)), y] = .ok x [some (.lst (exs x)), y] := fun y => it_xv (e := .exn "NoMove" "index" x) rfl (xv_of x (by unfold xc_index; decide +kernel))
  have h3 : ∀ y : Option D, Mi.e1 (xvD "slot" xc_slot) (Mi.e2 idxD (eV 0) (eC (.int 3))) [some (.lst (exs x)), y] = .ok x [some (.lst (exs x)), y] := fun y => it_xv (e := .exn "NoSlot" "slot" x) rfl (xv_of x (by unfold xc_slot; decide +kernel))
  have h4 : ∀ y : Option D, Mi.e1 (xvD "appointment" xc_appointment) (Mi.e2 idxD (eV 0) (eC (.int 4))) [some (.lst (exs x)), y] = .ok x [some (.lst (exs x)), y] := fun y => it_xv (e := .exn "NoAppointment" "appointment" x) rfl (xv_of x (by unfold xc_appointment; decide +kernel))
  have h5 : ∀ y : Option D, Mi.e1 (xvD "slots" xc_slots) (Mi.e2 idxD (eV 0) (eC (.int 5))) [some (.lst (exs x)), y] = .ok x [some (.lst (exs x)), y] := fun y => it_xv (e := .exn "Frozen" "slots" x) rfl (xv_of x (by unfold xc_slots; decide +kernel))
  have h6 : ∀ y : Option D, Mi.e1 (xvD "index" xc_index) (Mi.e2 idxD (eV 0) (eC (.int 6))) [some (.lst (exs x)), y] = .ok x [some (.lst (exs x)), y] := fun y => it_xv (e := .exn "NoCertificate" "index" x) rfl (xv_of x (by unfold xc_index; decide +kernel))
  have h7 : ∀ y : Option D, Mi.e1 (xvD "most" xc_most) (Mi.e2 idxD (eV 0) (eC (.int 7))) [some (.lst (exs x)), y] = .ok x [some (.lst (exs x)), y] := fun y => it_xv (e := .exn "TooMany" "most" x) rfl (xv_of x (by unfold xc_most; decide +kernel))
  have h8 : ∀ y : Option D, Mi.e1 (xvD "slot" xc_slot) (Mi.e2 idxD (eV 0) (eC (.int 8))) [some (.lst (exs x)), y] = .ok x [some (.lst (exs x)), y] := fun y => it_xv (e := .exn "NotAllowed" "slot" x) rfl (xv_of x (by unfold xc_slot; decide +kernel))
  have h9 : ∀ y : Option D, Mi.e1 (xvD "key" xc_key) (Mi.e2 idxD (eV 0) (eC (.int 9))) [some (.lst (exs x)), y] = .ok x [some (.lst (exs x)), y] := fun y => it_xv (e := .exn "NoWish" "key" x) rfl (xv_of x (by unfold xc_key; decide +kernel))
  have h10 : ∀ y : Option D, Mi.e1 (xvD "index" xc_index) (Mi.e2 idxD (eV 0) (eC (.int 10))) [some (.lst (exs x)), y] = .ok x [some (.lst (exs x)), y] := fun y => it_xv (e := .exn "NoCosts" "index" x) rfl (xv_of x (by unfold xc_index; decide +kernel))
  refine e_law_fields rfl ?_
  have e : m_law_fields [some (.lst (exs x)), none] = .rt (.lst (([x, x, x, x, x] ++ [x, x, x, x]) ++ [x, x])) [some (.lst (exs x)), some (.lst ([x, x, x, x, x] ++ [x, x, x, x]))] := by
    unfold m_law_fields
    rw [sq_nx (a_lst (l_cons (h0 _) (l_cons (h1 _) (l_cons (h2 _) (l_cons (h3 _) (l_cons (h4 _) l_nil))))))]
    show sSeq _ _ [some (.lst (exs x)), some (.lst [x, x, x, x, x])] = _
    rw [sq_nx (a_add (i := 1) (j := 1) (δ := [some (.lst (exs x)), some (.lst [x, x, x, x, x])]) (acc := [x, x, x, x, x]) rfl (l_cons (h5 _) (l_cons (h6 _) (l_cons (h7 _) (l_cons (h8 _) l_nil)))) (by exact c9))]
    exact r_of (e_add (i := 1) (δ := [some (.lst (exs x)), some (.lst ([x, x, x, x, x] ++ [x, x, x, x]))]) (acc := [x, x, x, x, x] ++ [x, x, x, x]) rfl (l_cons (h9 _) (l_cons (h10 _) l_nil)) (by exact c11))
  show FEnd [] _ (m_law_fields [some (.lst (exs x)), none])
  rw [e]
  exact ⟨⟨[], rfl, rfl⟩⟩
theorem taken_of {e : D} {b0 b1 b2 b3 b4 b5 b6 b7 b8 b9 b10 : Bool} (h0 : isVD (anF an_NoBook) e = some (D.bl b0)) (h1 : isVD (anF an_NoTimetable) e = some (D.bl b1)) (h2 : isVD (anF an_NoMove) e = some (D.bl b2)) (h3 : isVD (anF an_NoSlot) e = some (D.bl b3)) (h4 : isVD (anF an_NoAppointment) e = some (D.bl b4)) (h5 : isVD (anF an_Frozen) e = some (D.bl b5)) (h6 : isVD (anF an_NoCertificate) e = some (D.bl b6)) (h7 : isVD (anF an_TooMany) e = some (D.bl b7)) (h8 : isVD (anF an_NotAllowed) e = some (D.bl b8)) (h9 : isVD (anF an_NoWish) e = some (D.bl b9)) (h10 : isVD (anF an_NoCosts) e = some (D.bl b10)) : f_law_taken [e] = .ok (.lst [D.bl b0, D.bl b1, D.bl b2, D.bl b3, D.bl b4, D.bl b5, D.bl b6, D.bl b7, D.bl b8, D.bl b9, D.bl b10]) [] := by
  refine e_law_taken rfl ?_
  have q : m_law_taken [some e, none] = .rt (.lst ((([D.bl b0, D.bl b1, D.bl b2, D.bl b3] ++ [D.bl b4, D.bl b5, D.bl b6]) ++ [D.bl b7, D.bl b8, D.bl b9]) ++ [D.bl b10])) [some e, some (.lst (([D.bl b0, D.bl b1, D.bl b2, D.bl b3] ++ [D.bl b4, D.bl b5, D.bl b6]) ++ [D.bl b7, D.bl b8, D.bl b9]))] := by
    unfold m_law_taken
    rw [sq_nx (a_lst (l_cons (it_is h0) (l_cons (it_is h1) (l_cons (it_is h2) (l_cons (it_is h3) l_nil)))))]
    show sSeq _ _ [some e, some (.lst [D.bl b0, D.bl b1, D.bl b2, D.bl b3])] = _
    rw [sq_nx (a_add (i := 1) (j := 1) (δ := [some e, some (.lst [D.bl b0, D.bl b1, D.bl b2, D.bl b3])]) (acc := [D.bl b0, D.bl b1, D.bl b2, D.bl b3]) rfl (l_cons (it_is h4) (l_cons (it_is h5) (l_cons (it_is h6) l_nil))) (by exact c7))]
    show sSeq _ _ [some e, some (.lst ([D.bl b0, D.bl b1, D.bl b2, D.bl b3] ++ [D.bl b4, D.bl b5, D.bl b6]))] = _
    rw [sq_nx (a_add (i := 1) (j := 1) (δ := [some e, some (.lst ([D.bl b0, D.bl b1, D.bl b2, D.bl b3] ++ [D.bl b4, D.bl b5, D.bl b6]))]) (acc := [D.bl b0, D.bl b1, D.bl b2, D.bl b3] ++ [D.bl b4, D.bl b5, D.bl b6]) rfl (l_cons (it_is h7) (l_cons (it_is h8) (l_cons (it_is h9) l_nil))) (by exact c10))]
    exact r_of (e_add (i := 1) (δ := [some e, some (.lst (([D.bl b0, D.bl b1, D.bl b2, D.bl b3] ++ [D.bl b4, D.bl b5, D.bl b6]) ++ [D.bl b7, D.bl b8, D.bl b9]))]) (acc := ([D.bl b0, D.bl b1, D.bl b2, D.bl b3] ++ [D.bl b4, D.bl b5, D.bl b6]) ++ [D.bl b7, D.bl b8, D.bl b9]) rfl (l_cons (it_is h10) l_nil) (by exact c11))
  show FEnd [] _ (m_law_taken [some e, none])
  rw [q]
  exact ⟨⟨[], rfl, rfl⟩⟩
theorem slice_take {α : Type} {xs : List α} {i : Int} (h0 : 0 ≤ i) : cutD xs none (some i) = xs.take i.toNat := by
  unfold cutD
  have : ¬ i < 0 := by omega
  simp only [HT.sIx, this, if_false, List.drop_zero, Nat.sub_zero]
  by_cases h : i.toNat ≤ xs.length
  · rw [Nat.min_eq_left h]
  · rw [Nat.min_eq_right (by omega), List.take_length, List.take_of_length_le (by omega)]
end Mi

end
section
set_option linter.all false
set_option autoImplicit false
set_option maxRecDepth 20000
namespace Mi
open PySem PySem.Spec
theorem exl_at {i : Nat} {c f : Str} (h : exl[i]? = some (c, f)) : (i = 0 ∧ c = "NoBook" ∧ f = "index") ∨ (i = 1 ∧ c = "NoTimetable" ∧ f = "index") ∨ (i = 2 ∧ c = "NoMove" ∧ f = "index") ∨ (i = 3 ∧ c = "NoSlot" ∧ f = "slot") ∨ (i = 4 ∧ c = "NoAppointment" ∧ f = "appointment") ∨ (i = 5 ∧ c = "Frozen" ∧ f = "slots") ∨ (i = 6 ∧ c = "NoCertificate" ∧ f = "index") ∨ (i = 7 ∧ c = "TooMany" ∧ f = "most") ∨ (i = 8 ∧ c = "NotAllowed" ∧ f = "slot") ∨ (i = 9 ∧ c = "NoWish" ∧ f = "key") ∨ (i = 10 ∧ c = "NoCosts" ∧ f = "index") := by
  have hi : i < 11 := (List.getElem?_eq_some_iff.mp h).1
  have : i = 0 ∨ i = 1 ∨ i = 2 ∨ i = 3 ∨ i = 4 ∨ i = 5 ∨ i = 6 ∨ i = 7 ∨ i = 8 ∨ i = 9 ∨ i = 10 := by omega
  rcases this with rfl | rfl | rfl | rfl | rfl | rfl | rfl | rfl | rfl | rfl | rfl
  · exact .inl ⟨rfl, (congrArg Prod.fst (Option.some.inj (show some (("NoBook" : Str), ("index" : Str)) = some (c, f) from h))).symm, (congrArg Prod.snd (Option.some.inj (show some (("NoBook" : Str), ("index" : Str)) = some (c, f) from h))).symm⟩
  · exact .inr <| .inl ⟨rfl, (congrArg Prod.fst (Option.some.inj (show some (("NoTimetable" : Str), ("index" : Str)) = some (c, f) from h))).symm, (congrArg Prod.snd (Option.some.inj (show some (("NoTimetable" : Str), ("index" : Str)) = some (c, f) from h))).symm⟩
  · exact .inr <| .inr <| .inl ⟨rfl, (congrArg Prod.fst (Option.some.inj (show some (("NoMove" : Str), ("index" : Str)) = some (c, f) from h))).symm, (congrArg Prod.snd (Option.some.inj (show some (("NoMove" : Str), ("index" : Str)) = some (c, f) from h))).symm⟩
  · exact .inr <| .inr <| .inr <| .inl ⟨rfl, (congrArg Prod.fst (Option.some.inj (show some (("NoSlot" : Str), ("slot" : Str)) = some (c, f) from h))).symm, (congrArg Prod.snd (Option.some.inj (show some (("NoSlot" : Str), ("slot" : Str)) = some (c, f) from h))).symm⟩
  · exact .inr <| .inr <| .inr <| .inr <| .inl ⟨rfl, (congrArg Prod.fst (Option.some.inj (show some (("NoAppointment" : Str), ("appointment" : Str)) = some (c, f) from h))).symm, (congrArg Prod.snd (Option.some.inj (show some (("NoAppointment" : Str), ("appointment" : Str)) = some (c, f) from h))).symm⟩
  · exact .inr <| .inr <| .inr <| .inr <| .inr <| .inl ⟨rfl, (congrArg Prod.fst (Option.some.inj (show some (("Frozen" : Str), ("slots" : Str)) = some (c, f) from h))).symm, (congrArg Prod.snd (Option.some.inj (show some (("Frozen" : Str), ("slots" : Str)) = some (c, f) from h))).symm⟩
  · exact .inr <| .inr <| .inr <| .inr <| .inr <| .inr <| .inl ⟨rfl, (congrArg Prod.fst (Option.some.inj (show some (("NoCertificate" : Str), ("index" : Str)) = some (c, f) from h))).symm, (congrArg Prod.snd (Option.some.inj (show some (("NoCertificate" : Str), ("index" : Str)) = some (c, f) from h))).symm⟩
  · exact .inr <| .inr <| .inr <| .inr <| .inr <| .inr <| .inr <| .inl ⟨rfl, (congrArg Prod.fst (Option.some.inj (show some (("TooMany" : Str), ("most" : Str)) = some (c, f) from h))).symm, (congrArg Prod.snd (Option.some.inj (show some (("TooMany" : Str), ("most" : Str)) = some (c, f) from h))).symm⟩
  · exact .inr <| .inr <| .inr <| .inr <| .inr <| .inr <| .inr <| .inr <| .inl ⟨rfl, (congrArg Prod.fst (Option.some.inj (show some (("NotAllowed" : Str), ("slot" : Str)) = some (c, f) from h))).symm, (congrArg Prod.snd (Option.some.inj (show some (("NotAllowed" : Str), ("slot" : Str)) = some (c, f) from h))).symm⟩
  · exact .inr <| .inr <| .inr <| .inr <| .inr <| .inr <| .inr <| .inr <| .inr <| .inl ⟨rfl, (congrArg Prod.fst (Option.some.inj (show some (("NoWish" : Str), ("key" : Str)) = some (c, f) from h))).symm, (congrArg Prod.snd (Option.some.inj (show some (("NoWish" : Str), ("key" : Str)) = some (c, f) from h))).symm⟩
  · exact .inr <| .inr <| .inr <| .inr <| .inr <| .inr <| .inr <| .inr <| .inr <| .inr <| ⟨rfl, (congrArg Prod.fst (Option.some.inj (show some (("NoCosts" : Str), ("index" : Str)) = some (c, f) from h))).symm, (congrArg Prod.snd (Option.some.inj (show some (("NoCosts" : Str), ("index" : Str)) = some (c, f) from h))).symm⟩
theorem taken_ok {i : Nat} {c f : Str} (x : D) (h : exl[i]? = some (c, f)) : f_law_taken [.exn c f x] = .ok (.lst ((List.range 11).map fun (k : Nat) => D.bl (decide ((k : Int) = (i : Int))))) [] := by
  rcases exl_at h with ⟨rfl, rfl, rfl⟩ | ⟨rfl, rfl, rfl⟩ | ⟨rfl, rfl, rfl⟩ | ⟨rfl, rfl, rfl⟩ | ⟨rfl, rfl, rfl⟩ | ⟨rfl, rfl, rfl⟩ | ⟨rfl, rfl, rfl⟩ | ⟨rfl, rfl, rfl⟩ | ⟨rfl, rfl, rfl⟩ | ⟨rfl, rfl, rfl⟩ | ⟨rfl, rfl, rfl⟩
  · exact taken_of (isv_of (c := "NoBook") x (b := true) (by unfold an_NoBook; decide +kernel)) (isv_of (c := "NoBook") x (b := false) (by unfold an_NoTimetable; decide +kernel)) (isv_of (c := "NoBook") x (b := false) (by unfold an_NoMove; decide +kernel)) (isv_of (c := "NoBook") x (b := false) (by unfold an_NoSlot; decide +kernel)) (isv_of (c := "NoBook") x (b := false) (by unfold an_NoAppointment; decide +kernel)) (isv_of (c := "NoBook") x (b := false) (by unfold an_Frozen; decide +kernel)) (isv_of (c := "NoBook") x (b := false) (by unfold an_NoCertificate; decide +kernel)) (isv_of (c := "NoBook") x (b := false) (by unfold an_TooMany; decide +kernel)) (isv_of (c := "NoBook") x (b := false) (by unfold an_NotAllowed; decide +kernel)) (isv_of (c := "NoBook") x (b := false) (by unfold an_NoWish; decide +kernel)) (isv_of (c := "NoBook") x (b := false) (by unfold an_NoCosts; decide +kernel))
  · exact taken_of (isv_of (c := "NoTimetable") x (b := false) (by unfold an_NoBook; decide +kernel)) (isv_of (c := "NoTimetable") x (b := true) (by unfold an_NoTimetable; decide +kernel)) (isv_of (c := "NoTimetable") x (b := false) (by unfold an_NoMove; decide +kernel)) (isv_of (c := "NoTimetable") x (b := false) (by unfold an_NoSlot; decide +kernel)) (isv_of (c := "NoTimetable") x (b := false) (by unfold an_NoAppointment; decide +kernel)) (isv_of (c := "NoTimetable") x (b := false) (by unfold an_Frozen; decide +kernel)) (isv_of (c := "NoTimetable") x (b := false) (by unfold an_NoCertificate; decide +kernel)) (isv_of (c := "NoTimetable") x (b := false) (by unfold an_TooMany; decide +kernel)) (isv_of (c := "NoTimetable") x (b := false) (by unfold an_NotAllowed; decide +kernel)) (isv_of (c := "NoTimetable") x (b := false) (by unfold an_NoWish; decide +kernel)) (isv_of (c := "NoTimetable") x (b := false) (by unfold an_NoCosts; decide +kernel))
  · exact taken_of (isv_of (c := "NoMove") x (b := false) (by unfold an_NoBook; decide +kernel)) (isv_of (c := "NoMove") x (b := false) (by unfold an_NoTimetable; decide +kernel)) (isv_of (c := "NoMove") x (b := true) (by unfold an_NoMove; decide +kernel)) (isv_of (c := "NoMove") x (b := false) (by unfold an_NoSlot; decide +kernel)) (isv_of (c := "NoMove") x (b := false) (by unfold an_NoAppointment; decide +kernel)) (isv_of (c := "NoMove") x (b := false) (by unfold an_Frozen; decide +kernel)) (isv_of (c := "NoMove") x (b := false) (by unfold an_NoCertificate; decide +kernel)) (isv_of (c := "NoMove") x (b := false) (by unfold an_TooMany; decide +kernel)) (isv_of (c := "NoMove") x (b := false) (by unfold an_NotAllowed; decide +kernel)) (isv_of (c := "NoMove") x (b := false) (by unfold an_NoWish; decide +kernel)) (isv_of (c := "NoMove") x (b := false) (by unfold an_NoCosts; decide +kernel))
  · exact taken_of (isv_of (c := "NoSlot") x (b := false) (by unfold an_NoBook; decide +kernel)) (isv_of (c := "NoSlot") x (b := false) (by unfold an_NoTimetable; decide +kernel)) (isv_of (c := "NoSlot") x (b := false) (by unfold an_NoMove; decide +kernel)) (isv_of (c := "NoSlot") x (b := true) (by unfold an_NoSlot; decide +kernel)) (isv_of (c := "NoSlot") x (b := false) (by unfold an_NoAppointment; decide +kernel)) (isv_of (c := "NoSlot") x (b := false) (by unfold an_Frozen; decide +kernel)) (isv_of (c := "NoSlot") x (b := false) (by unfold an_NoCertificate; decide +kernel)) (isv_of (c := "NoSlot") x (b := false) (by unfold an_TooMany; decide +kernel)) (isv_of (c := "NoSlot") x (b := false) (by unfold an_NotAllowed; decide +kernel)) (isv_of (c := "NoSlot") x (b := false) (by unfold an_NoWish; decide +kernel)) (isv_of (c := "NoSlot") x (b := false) (by unfold an_NoCosts; decide +kernel))
  · exact taken_of (isv_of (c := "NoAppointment") x (b := false) (by unfold an_NoBook; decide +kernel)) (isv_of (c := "NoAppointment") x (b := false) (by unfold an_NoTimetable; decide +kernel)) (isv_of (c := "NoAppointment") x (b := false) (by unfold an_NoMove; decide +kernel)) (isv_of (c := "NoAppointment") x (b := false) (by unfold an_NoSlot; decide +kernel)) (isv_of (c := "NoAppointment") x (b := true) (by unfold an_NoAppointment; decide +kernel)) (isv_of (c := "NoAppointment") x (b := false) (by unfold an_Frozen; decide +kernel)) (isv_of (c := "NoAppointment") x (b := false) (by unfold an_NoCertificate; decide +kernel)) (isv_of (c := "NoAppointment") x (b := false) (by unfold an_TooMany; decide +kernel)) (isv_of (c := "NoAppointment") x (b := false) (by unfold an_NotAllowed; decide +kernel)) (isv_of (c := "NoAppointment") x (b := false) (by unfold an_NoWish; decide +kernel)) (isv_of (c := "NoAppointment") x (b := false) (by unfold an_NoCosts; decide +kernel))
  · exact taken_of (isv_of (c := "Frozen") x (b := false) (by unfold an_NoBook; decide +kernel)) (isv_of (c := "Frozen") x (b := false) (by unfold an_NoTimetable; decide +kernel)) (isv_of (c := "Frozen") x (b := false) (by unfold an_NoMove; decide +kernel)) (isv_of (c := "Frozen") x (b := false) (by unfold an_NoSlot; decide +kernel)) (isv_of (c := "Frozen") x (b := false) (by unfold an_NoAppointment; decide +kernel)) (isv_of (c := "Frozen") x (b := true) (by unfold an_Frozen; decide +kernel)) (isv_of (c := "Frozen") x (b := false) (by unfold an_NoCertificate; decide +kernel)) (isv_of (c := "Frozen") x (b := false) (by unfold an_TooMany; decide +kernel)) (isv_of (c := "Frozen") x (b := false) (by unfold an_NotAllowed; decide +kernel)) (isv_of (c := "Frozen") x (b := false) (by unfold an_NoWish; decide +kernel)) (isv_of (c := "Frozen") x (b := false) (by unfold an_NoCosts; decide +kernel))
  · exact taken_of (isv_of (c := "NoCertificate") x (b := false) (by unfold an_NoBook; decide +kernel)) (isv_of (c := "NoCertificate") x (b := false) (by unfold an_NoTimetable; decide +kernel)) (isv_of (c := "NoCertificate") x (b := false) (by unfold an_NoMove; decide +kernel)) (isv_of (c := "NoCertificate") x (b := false) (by unfold an_NoSlot; decide +kernel)) (isv_of (c := "NoCertificate") x (b := false) (by unfold an_NoAppointment; decide +kernel)) (isv_of (c := "NoCertificate") x (b := false) (by unfold an_Frozen; decide +kernel)) (isv_of (c := "NoCertificate") x (b := true) (by unfold an_NoCertificate; decide +kernel)) (isv_of (c := "NoCertificate") x (b := false) (by unfold an_TooMany; decide +kernel)) (isv_of (c := "NoCertificate") x (b := false) (by unfold an_NotAllowed; decide +kernel)) (isv_of (c := "NoCertificate") x (b := false) (by unfold an_NoWish; decide +kernel)) (isv_of (c := "NoCertificate") x (b := false) (by unfold an_NoCosts; decide +kernel))
  · exact taken_of (isv_of (c := "TooMany") x (b := false) (by unfold an_NoBook; decide +kernel)) (isv_of (c := "TooMany") x (b := false) (by unfold an_NoTimetable; decide +kernel)) (isv_of (c := "TooMany") x (b := false) (by unfold an_NoMove; decide +kernel)) (isv_of (c := "TooMany") x (b := false) (by unfold an_NoSlot; decide +kernel)) (isv_of (c := "TooMany") x (b := false) (by unfold an_NoAppointment; decide +kernel)) (isv_of (c := "TooMany") x (b := false) (by unfold an_Frozen; decide +kernel)) (isv_of (c := "TooMany") x (b := false) (by unfold an_NoCertificate; decide +kernel)) (isv_of (c := "TooMany") x (b := true) (by unfold an_TooMany; decide +kernel)) (isv_of (c := "TooMany") x (b := false) (by unfold an_NotAllowed; decide +kernel)) (isv_of (c := "TooMany") x (b := false) (by unfold an_NoWish; decide +kernel)) (isv_of (c := "TooMany") x (b := false) (by unfold an_NoCosts; decide +kernel))
  · exact taken_of (isv_of (c := "NotAllowed") x (b := false) (by unfold an_NoBook; decide +kernel)) (isv_of (c := "NotAllowed") x (b := false) (by unfold an_NoTimetable; decide +kernel)) (isv_of (c := "NotAllowed") x (b := false) (by unfold an_NoMove; decide +kernel)) (isv_of (c := "NotAllowed") x (b := false) (by unfold an_NoSlot; decide +kernel)) (isv_of (c := "NotAllowed") x (b := false) (by unfold an_NoAppointment; decide +kernel)) (isv_of (c := "NotAllowed") x (b := false) (by unfold an_Frozen; decide +kernel)) (isv_of (c := "NotAllowed") x (b := false) (by unfold an_NoCertificate; decide +kernel)) (isv_of (c := "NotAllowed") x (b := false) (by unfold an_TooMany; decide +kernel)) (isv_of (c := "NotAllowed") x (b := true) (by unfold an_NotAllowed; decide +kernel)) (isv_of (c := "NotAllowed") x (b := false) (by unfold an_NoWish; decide +kernel)) (isv_of (c := "NotAllowed") x (b := false) (by unfold an_NoCosts; decide +kernel))
  · exact taken_of (isv_of (c := "NoWish") x (b := false) (by unfold an_NoBook; decide +kernel)) (isv_of (c := "NoWish") x (b := false) (by unfold an_NoTimetable; decide +kernel)) (isv_of (c := "NoWish") x (b := false) (by unfold an_NoMove; decide +kernel)) (isv_of (c := "NoWish") x (b := false) (by unfold an_NoSlot; decide +kernel)) (isv_of (c := "NoWish") x (b := false) (by unfold an_NoAppointment; decide +kernel)) (isv_of (c := "NoWish") x (b := false) (by unfold an_Frozen; decide +kernel)) (isv_of (c := "NoWish") x (b := false) (by unfold an_NoCertificate; decide +kernel)) (isv_of (c := "NoWish") x (b := false) (by unfold an_TooMany; decide +kernel)) (isv_of (c := "NoWish") x (b := false) (by unfold an_NotAllowed; decide +kernel)) (isv_of (c := "NoWish") x (b := true) (by unfold an_NoWish; decide +kernel)) (isv_of (c := "NoWish") x (b := false) (by unfold an_NoCosts; decide +kernel))
  · exact taken_of (isv_of (c := "NoCosts") x (b := false) (by unfold an_NoBook; decide +kernel)) (isv_of (c := "NoCosts") x (b := false) (by unfold an_NoTimetable; decide +kernel)) (isv_of (c := "NoCosts") x (b := false) (by unfold an_NoMove; decide +kernel)) (isv_of (c := "NoCosts") x (b := false) (by unfold an_NoSlot; decide +kernel)) (isv_of (c := "NoCosts") x (b := false) (by unfold an_NoAppointment; decide +kernel)) (isv_of (c := "NoCosts") x (b := false) (by unfold an_Frozen; decide +kernel)) (isv_of (c := "NoCosts") x (b := false) (by unfold an_NoCertificate; decide +kernel)) (isv_of (c := "NoCosts") x (b := false) (by unfold an_TooMany; decide +kernel)) (isv_of (c := "NoCosts") x (b := false) (by unfold an_NotAllowed; decide +kernel)) (isv_of (c := "NoCosts") x (b := false) (by unfold an_NoWish; decide +kernel)) (isv_of (c := "NoCosts") x (b := true) (by unfold an_NoCosts; decide +kernel))
theorem slot_ok {i : Nat} {c f : Str} (x : D) (h : exl[i]? = some (c, f)) : isVD (anF an_SlotError) (.exn c f x) = some (.bl true) ∧ isVD (anF an_ValueError) (.exn c f x) = some (.bl true) := by
  rcases exl_at h with ⟨rfl, rfl, rfl⟩ | ⟨rfl, rfl, rfl⟩ | ⟨rfl, rfl, rfl⟩ | ⟨rfl, rfl, rfl⟩ | ⟨rfl, rfl, rfl⟩ | ⟨rfl, rfl, rfl⟩ | ⟨rfl, rfl, rfl⟩ | ⟨rfl, rfl, rfl⟩ | ⟨rfl, rfl, rfl⟩ | ⟨rfl, rfl, rfl⟩ | ⟨rfl, rfl, rfl⟩
  · exact ⟨isv_of (c := "NoBook") x (by unfold an_SlotError; decide +kernel), isv_of (c := "NoBook") x (by unfold an_ValueError; decide +kernel)⟩
  · exact ⟨isv_of (c := "NoTimetable") x (by unfold an_SlotError; decide +kernel), isv_of (c := "NoTimetable") x (by unfold an_ValueError; decide +kernel)⟩
  · exact ⟨isv_of (c := "NoMove") x (by unfold an_SlotError; decide +kernel), isv_of (c := "NoMove") x (by unfold an_ValueError; decide +kernel)⟩
  · exact ⟨isv_of (c := "NoSlot") x (by unfold an_SlotError; decide +kernel), isv_of (c := "NoSlot") x (by unfold an_ValueError; decide +kernel)⟩
  · exact ⟨isv_of (c := "NoAppointment") x (by unfold an_SlotError; decide +kernel), isv_of (c := "NoAppointment") x (by unfold an_ValueError; decide +kernel)⟩
  · exact ⟨isv_of (c := "Frozen") x (by unfold an_SlotError; decide +kernel), isv_of (c := "Frozen") x (by unfold an_ValueError; decide +kernel)⟩
  · exact ⟨isv_of (c := "NoCertificate") x (by unfold an_SlotError; decide +kernel), isv_of (c := "NoCertificate") x (by unfold an_ValueError; decide +kernel)⟩
  · exact ⟨isv_of (c := "TooMany") x (by unfold an_SlotError; decide +kernel), isv_of (c := "TooMany") x (by unfold an_ValueError; decide +kernel)⟩
  · exact ⟨isv_of (c := "NotAllowed") x (by unfold an_SlotError; decide +kernel), isv_of (c := "NotAllowed") x (by unfold an_ValueError; decide +kernel)⟩
  · exact ⟨isv_of (c := "NoWish") x (by unfold an_SlotError; decide +kernel), isv_of (c := "NoWish") x (by unfold an_ValueError; decide +kernel)⟩
  · exact ⟨isv_of (c := "NoCosts") x (by unfold an_SlotError; decide +kernel), isv_of (c := "NoCosts") x (by unfold an_ValueError; decide +kernel)⟩
end Mi

end
section
set_option linter.all false
set_option autoImplicit false
set_option maxRecDepth 20000
namespace Mi
open PySem PySem.Spec
def Gd (x : D) : Prop := okD (.lst (List.replicate 11 x)) = true
theorem neD_self {d : D} (h : okD d = true) : neD d d = some (.bl false) := by
  unfold neD
  rw [h]
  have : PyData.eqv d.py d.py = true := SeqAt.eqv_refl d.py (by
    unfold okD SeqAt.shaped at h
    rw [Bool.and_eq_true] at h
    exact h.1)
  rw [this]; rfl
theorem right_ok {W : D} (hW : WL W) : ∃ W' : D, f_law_right [W] = .ok (.bl true) [W'] := by
  have ex : ∃ x, (∃ W' : D, x = Fr.ok (.bl true) [W']) ∧ f_law_right [W] = x := by
    refine ⟨_, ?_, rfl⟩
    rw [d_law_right]
    refine fn_run (Q := fun x => ∃ W' : D, x = Fr.ok (.bl true) [W']) rfl ?_
    unfold m_law_right
    have e1 := draw_eq hW (m := 1000) (by omega) (by omega)
    have e2 := draw_eq (dw_ok W 1000) (m := 5) (by omega) (by omega)
    obtain ⟨X, W2, hX, q⟩ : ∃ X W2 : D, Gd X ∧ sAsg (.n 1) (Mi.e2 idxD (eLst [(eCallO f_law_draw 0 [(eC (.int 1000))]), (Mi.e1 negD (eC (.int 1))), (eC .non), (eC (.str "v")), (eTup [(eC (.int 0)), (eC (.int 1))])]) (eCallO f_law_draw 0 [(eC (.int 5))])) (startE 6 [W]) = .nx [some W2, some X, none, none, none, none] := by
      have h0 := dr_0 (dw W 1000) 5
      have h5 := dr_lt (W := dw W 1000) (m := 5) (by omega)
      generalize dr (dw W 1000) 5 = j at h0 h5 e2
      have : j = 0 ∨ j = 1 ∨ j = 2 ∨ j = 3 ∨ j = 4 := by omega
      rcases this with rfl | rfl | rfl | rfl | rfl
      · exact ⟨.int (dr W 1000), dw (dw W 1000) 5, (by have := ok_ints (List.replicate 11 (dr W 1000)); rw [List.map_replicate] at this; exact this), by simp (maxDischargeDepth := 7) [List.getElem?_cons_zero, List.getElem?_cons_succ, Mi.bind_out, Mi.bind_bind, Mi.sq_asg, Mi.sq_do, Mi.sq_ret, Mi.sq_raise, Mi.sq_seq, Mi.sq_pass, Mi.sq_if, Mi.sq_app, Mi.sq_setI, Mi.sq_setK, Mi.sq_ct, Mi.sq_bk, Mi.x_V, Mi.x_C, Mi.x_1, Mi.x_2, Mi.x_O2, Mi.x_P0, Mi.x_P1, Mi.x_3, Mi.x_O3, Mi.x_And, Mi.x_Or, Mi.x_Not, Mi.x_If, Mi.x_L0, Mi.x_L1, Mi.x_Tup, Mi.x_Lst, Mi.x_Ch, Mi.x_Call, Mi.x_CallO, Mi.x_CallP, Mi.x_CallN, Mi.x_Meth, Mi.x_Seq, Mi.x_Rng, Mi.x_Rng2, Mi.x_Enum, Mi.x_Zip, Mi.x_Zip3, Mi.x_Ix, Mi.x_Make, Mi.x_Try, Mi.x_TryO, Mi.sq_try, Mi.sq_tryO, Mi.x_setF, Mi.sq_setF, Mi.isD, Mi.tyN, Mi.tyB, Mi.x_pass, Mi.x_asg, Mi.x_do, Mi.x_ret, Mi.x_raise, Mi.x_if, Mi.x_bk, Mi.x_ct, Mi.x_app, Mi.x_setI, Mi.x_setK, Mi.x_pop, Mi.x_isL, Mi.x_tn, Mi.x_t0, Mi.x_st0, Mi.x_st1, Mi.x_rest0, Mi.x_rest1, Mi.x_putn, Mi.x_putt, Mi.x_set0, Mi.x_set1, Mi.x_out0, Mi.x_out1, Mi.truth, Mi.seqOf, Mi.startE, Mi.pE_tup, Mi.wipe0, Mi.wipe1, Option.getD_some, Mi.isBl_ite, Mi.toB_ite, Mi.allD_map, Mi.anyD_map, Mi.filter_tt, -List.mem_map, List.forall_mem_map, -List.map_tail, -List.map_take, -List.map_drop, Mi.take_mp, Mi.drop_mp, Mi.tail_mp, Mi.min_cap, List.length_zip, Mi.zip2_map, Mi.okV_ite, Mi.okB_ite, Mi.getV_ite, Mi.getB_ite, Mi.bind_ite, Mi.out_ite, Mi.lc_s, Mi.lc_sS, Mi.lc_sN, Mi.lc_sM, List.filter_map, List.map_map, Function.comp_def, startE, e1, e2, negD, idxD, ixD, x_CallO]⟩
      · exact ⟨.int (-1), dw (dw W 1000) 5, okD_of (by decide +kernel) (by decide +kernel), by simp (maxDischargeDepth := 7) [List.getElem?_cons_zero, List.getElem?_cons_succ, Mi.bind_out, Mi.bind_bind, Mi.sq_asg, Mi.sq_do, Mi.sq_ret, Mi.sq_raise, Mi.sq_seq, Mi.sq_pass, Mi.sq_if, Mi.sq_app, Mi.sq_setI, Mi.sq_setK, Mi.sq_ct, Mi.sq_bk, Mi.x_V, Mi.x_C, Mi.x_1, Mi.x_2, Mi.x_O2, Mi.x_P0, Mi.x_P1, Mi.x_3, Mi.x_O3, Mi.x_And, Mi.x_Or, Mi.x_Not, Mi.x_If, Mi.x_L0, Mi.x_L1, Mi.x_Tup, Mi.x_Lst, Mi.x_Ch, Mi.x_Call, Mi.x_CallO, Mi.x_CallP, Mi.x_CallN, Mi.x_Meth, Mi.x_Seq, Mi.x_Rng, Mi.x_Rng2, Mi.x_Enum, Mi.x_Zip, Mi.x_Zip3, Mi.x_Ix, Mi.x_Make, Mi.x_Try, Mi.x_TryO, Mi.sq_try, Mi.sq_tryO, Mi.x_setF, Mi.sq_setF, Mi.isD, Mi.tyN, Mi.tyB, Mi.x_pass, Mi.x_asg, Mi.x_do, Mi.x_ret, Mi.x_raise, Mi.x_if, Mi.x_bk, Mi.x_ct, Mi.x_app, Mi.x_setI, Mi.x_setK, Mi.x_pop, Mi.x_isL, Mi.x_tn, Mi.x_t0, Mi.x_st0, Mi.x_st1, Mi.x_rest0, Mi.x_rest1, Mi.x_putn, Mi.x_putt, Mi.x_set0, Mi.x_set1, Mi.x_out0, Mi.x_out1, Mi.truth, Mi.seqOf, Mi.startE, Mi.pE_tup, Mi.wipe0, Mi.wipe1, Option.getD_some, Mi.isBl_ite, Mi.toB_ite, Mi.allD_map, Mi.anyD_map, Mi.filter_tt, -List.mem_map, List.forall_mem_map, -List.map_tail, -List.map_take, -List.map_drop, Mi.take_mp, Mi.drop_mp, Mi.tail_mp, Mi.min_cap, List.length_zip, Mi.zip2_map, Mi.okV_ite, Mi.okB_ite, Mi.getV_ite, Mi.getB_ite, Mi.bind_ite, Mi.out_ite, Mi.lc_s, Mi.lc_sS, Mi.lc_sN, Mi.lc_sM, List.filter_map, List.map_map, Function.comp_def, startE, e1, e2, negD, idxD, ixD, x_CallO]⟩
      · exact ⟨.non, dw (dw W 1000) 5, okD_of (by decide +kernel) (by decide +kernel), by simp (maxDischargeDepth := 7) [List.getElem?_cons_zero, List.getElem?_cons_succ, Mi.bind_out, Mi.bind_bind, Mi.sq_asg, Mi.sq_do, Mi.sq_ret, Mi.sq_raise, Mi.sq_seq, Mi.sq_pass, Mi.sq_if, Mi.sq_app, Mi.sq_setI, Mi.sq_setK, Mi.sq_ct, Mi.sq_bk, Mi.x_V, Mi.x_C, Mi.x_1, Mi.x_2, Mi.x_O2, Mi.x_P0, Mi.x_P1, Mi.x_3, Mi.x_O3, Mi.x_And, Mi.x_Or, Mi.x_Not, Mi.x_If, Mi.x_L0, Mi.x_L1, Mi.x_Tup, Mi.x_Lst, Mi.x_Ch, Mi.x_Call, Mi.x_CallO, Mi.x_CallP, Mi.x_CallN, Mi.x_Meth, Mi.x_Seq, Mi.x_Rng, Mi.x_Rng2, Mi.x_Enum, Mi.x_Zip, Mi.x_Zip3, Mi.x_Ix, Mi.x_Make, Mi.x_Try, Mi.x_TryO, Mi.sq_try, Mi.sq_tryO, Mi.x_setF, Mi.sq_setF, Mi.isD, Mi.tyN, Mi.tyB, Mi.x_pass, Mi.x_asg, Mi.x_do, Mi.x_ret, Mi.x_raise, Mi.x_if, Mi.x_bk, Mi.x_ct, Mi.x_app, Mi.x_setI, Mi.x_setK, Mi.x_pop, Mi.x_isL, Mi.x_tn, Mi.x_t0, Mi.x_st0, Mi.x_st1, Mi.x_rest0, Mi.x_rest1, Mi.x_putn, Mi.x_putt, Mi.x_set0, Mi.x_set1, Mi.x_out0, Mi.x_out1, Mi.truth, Mi.seqOf, Mi.startE, Mi.pE_tup, Mi.wipe0, Mi.wipe1, Option.getD_some, Mi.isBl_ite, Mi.toB_ite, Mi.allD_map, Mi.anyD_map, Mi.filter_tt, -List.mem_map, List.forall_mem_map, -List.map_tail, -List.map_take, -List.map_drop, Mi.take_mp, Mi.drop_mp, Mi.tail_mp, Mi.min_cap, List.length_zip, Mi.zip2_map, Mi.okV_ite, Mi.okB_ite, Mi.getV_ite, Mi.getB_ite, Mi.bind_ite, Mi.out_ite, Mi.lc_s, Mi.lc_sS, Mi.lc_sN, Mi.lc_sM, List.filter_map, List.map_map, Function.comp_def, startE, e1, e2, negD, idxD, ixD, x_CallO]⟩
      · exact ⟨.str "v", dw (dw W 1000) 5, okD_of (by decide +kernel) (by decide +kernel), by simp (maxDischargeDepth := 7) [List.getElem?_cons_zero, List.getElem?_cons_succ, Mi.bind_out, Mi.bind_bind, Mi.sq_asg, Mi.sq_do, Mi.sq_ret, Mi.sq_raise, Mi.sq_seq, Mi.sq_pass, Mi.sq_if, Mi.sq_app, Mi.sq_setI, Mi.sq_setK, Mi.sq_ct, Mi.sq_bk, Mi.x_V, Mi.x_C, Mi.x_1, Mi.x_2, Mi.x_O2, Mi.x_P0, Mi.x_P1, Mi.x_3, Mi.x_O3, Mi.x_And, Mi.x_Or, Mi.x_Not, Mi.x_If, Mi.x_L0, Mi.x_L1, Mi.x_Tup, Mi.x_Lst, Mi.x_Ch, Mi.x_Call, Mi.x_CallO, Mi.x_CallP, Mi.x_CallN, Mi.x_Meth, Mi.x_Seq, Mi.x_Rng, Mi.x_Rng2, Mi.x_Enum, Mi.x_Zip, Mi.x_Zip3, Mi.x_Ix, Mi.x_Make, Mi.x_Try, Mi.x_TryO, Mi.sq_try, Mi.sq_tryO, Mi.x_setF, Mi.sq_setF, Mi.isD, Mi.tyN, Mi.tyB, Mi.x_pass, Mi.x_asg, Mi.x_do, Mi.x_ret, Mi.x_raise, Mi.x_if, Mi.x_bk, Mi.x_ct, Mi.x_app, Mi.x_setI, Mi.x_setK, Mi.x_pop, Mi.x_isL, Mi.x_tn, Mi.x_t0, Mi.x_st0, Mi.x_st1, Mi.x_rest0, Mi.x_rest1, Mi.x_putn, Mi.x_putt, Mi.x_set0, Mi.x_set1, Mi.x_out0, Mi.x_out1, Mi.truth, Mi.seqOf, Mi.startE, Mi.pE_tup, Mi.wipe0, Mi.wipe1, Option.getD_some, Mi.isBl_ite, Mi.toB_ite, Mi.allD_map, Mi.anyD_map, Mi.filter_tt, -List.mem_map, List.forall_mem_map, -List.map_tail, -List.map_take, -List.map_drop, Mi.take_mp, Mi.drop_mp, Mi.tail_mp, Mi.min_cap, List.length_zip, Mi.zip2_map, Mi.okV_ite, Mi.okB_ite, Mi.getV_ite, Mi.getB_ite, Mi.bind_ite, Mi.out_ite, Mi.lc_s, Mi.lc_sS, Mi.lc_sN, Mi.lc_sM, List.filter_map, List.map_map, Function.comp_def, startE, e1, e2, negD, idxD, ixD, x_CallO]⟩
      · exact ⟨.tup [.int 0, .int 1], dw (dw W 1000) 5, okD_of (by decide +kernel) (by decide +kernel), by simp (maxDischargeDepth := 7) [List.getElem?_cons_zero, List.getElem?_cons_succ, Mi.bind_out, Mi.bind_bind, Mi.sq_asg, Mi.sq_do, Mi.sq_ret, Mi.sq_raise, Mi.sq_seq, Mi.sq_pass, Mi.sq_if, Mi.sq_app, Mi.sq_setI, Mi.sq_setK, Mi.sq_ct, Mi.sq_bk, Mi.x_V, Mi.x_C, Mi.x_1, Mi.x_2, Mi.x_O2, Mi.x_P0, Mi.x_P1, Mi.x_3, Mi.x_O3, Mi.x_And, Mi.x_Or, Mi.x_Not, Mi.x_If, Mi.x_L0, Mi.x_L1, Mi.x_Tup, Mi.x_Lst, Mi.x_Ch, Mi.x_Call, Mi.x_CallO, Mi.x_CallP, Mi.x_CallN, Mi.x_Meth, Mi.x_Seq, Mi.x_Rng, Mi.x_Rng2, Mi.x_Enum, Mi.x_Zip, Mi.x_Zip3, Mi.x_Ix, Mi.x_Make, Mi.x_Try, Mi.x_TryO, Mi.sq_try, Mi.sq_tryO, Mi.x_setF, Mi.sq_setF, Mi.isD, Mi.tyN, Mi.tyB, Mi.x_pass, Mi.x_asg, Mi.x_do, Mi.x_ret, Mi.x_raise, Mi.x_if, Mi.x_bk, Mi.x_ct, Mi.x_app, Mi.x_setI, Mi.x_setK, Mi.x_pop, Mi.x_isL, Mi.x_tn, Mi.x_t0, Mi.x_st0, Mi.x_st1, Mi.x_rest0, Mi.x_rest1, Mi.x_putn, Mi.x_putt, Mi.x_set0, Mi.x_set1, Mi.x_out0, Mi.x_out1, Mi.truth, Mi.seqOf, Mi.startE, Mi.pE_tup, Mi.wipe0, Mi.wipe1, Option.getD_some, Mi.isBl_ite, Mi.toB_ite, Mi.allD_map, Mi.anyD_map, Mi.filter_tt, -List.mem_map, List.forall_mem_map, -List.map_tail, -List.map_take, -List.map_drop, Mi.take_mp, Mi.drop_mp, Mi.tail_mp, Mi.min_cap, List.length_zip, Mi.zip2_map, Mi.okV_ite, Mi.okB_ite, Mi.getV_ite, Mi.getB_ite, Mi.bind_ite, Mi.out_ite, Mi.lc_s, Mi.lc_sS, Mi.lc_sN, Mi.lc_sM, List.filter_map, List.map_map, Function.comp_def, startE, e1, e2, negD, idxD, ixD, x_CallO]⟩
    rw [sq_nx q]
    clear q e1 e2
    have pl := place_ok X
    have nm := name_ok X
    have fl := fields_ok X
    have rp := rep_int 11 (by omega) X
    have ns := neD_self hX
    refine q_for (as := [exs X, exs X]) (f := fun _ l => .lst l) (ds := [.lst (exs X), .lst (exs X)]) (by simp (maxDischargeDepth := 7) [List.getElem?_cons_zero, List.getElem?_cons_succ, Mi.bind_out, Mi.bind_bind, Mi.sq_asg, Mi.sq_do, Mi.sq_ret, Mi.sq_raise, Mi.sq_seq, Mi.sq_pass, Mi.sq_if, Mi.sq_app, Mi.sq_setI, Mi.sq_setK, Mi.sq_ct, Mi.sq_bk, Mi.x_V, Mi.x_C, Mi.x_1, Mi.x_2, Mi.x_O2, Mi.x_P0, Mi.x_P1, Mi.x_3, Mi.x_O3, Mi.x_And, Mi.x_Or, Mi.x_Not, Mi.x_If, Mi.x_L0, Mi.x_L1, Mi.x_Tup, Mi.x_Lst, Mi.x_Ch, Mi.x_Call, Mi.x_CallO, Mi.x_CallP, Mi.x_CallN, Mi.x_Meth, Mi.x_Seq, Mi.x_Rng, Mi.x_Rng2, Mi.x_Enum, Mi.x_Zip, Mi.x_Zip3, Mi.x_Ix, Mi.x_Make, Mi.x_Try, Mi.x_TryO, Mi.sq_try, Mi.sq_tryO, Mi.x_setF, Mi.sq_setF, Mi.isD, Mi.tyN, Mi.tyB, Mi.x_pass, Mi.x_asg, Mi.x_do, Mi.x_ret, Mi.x_raise, Mi.x_if, Mi.x_bk, Mi.x_ct, Mi.x_app, Mi.x_setI, Mi.x_setK, Mi.x_pop, Mi.x_isL, Mi.x_tn, Mi.x_t0, Mi.x_st0, Mi.x_st1, Mi.x_rest0, Mi.x_rest1, Mi.x_putn, Mi.x_putt, Mi.x_set0, Mi.x_set1, Mi.x_out0, Mi.x_out1, Mi.truth, Mi.seqOf, Mi.startE, Mi.pE_tup, Mi.wipe0, Mi.wipe1, Option.getD_some, Mi.isBl_ite, Mi.toB_ite, Mi.allD_map, Mi.anyD_map, Mi.filter_tt, -List.mem_map, List.forall_mem_map, -List.map_tail, -List.map_take, -List.map_drop, Mi.take_mp, Mi.drop_mp, Mi.tail_mp, Mi.min_cap, List.length_zip, Mi.zip2_map, Mi.okV_ite, Mi.okB_ite, Mi.getV_ite, Mi.getB_ite, Mi.bind_ite, Mi.out_ite, Mi.lc_s, Mi.lc_sS, Mi.lc_sN, Mi.lc_sM, List.filter_map, List.map_map, Function.comp_def, pl, nm]; rfl) (its_map (as := [exs X, exs X]) (f := D.lst)) (fun δ0 i δ => ∃ x2 x3 x4 x5 : Option D, δ = stE δ0 [(2, x2), (3, x3), (4, x4), (5, x5)]) ⟨none, none, none, none, rfl⟩ ?_ ?_
    · rintro i l δ hl ⟨x2, x3, x4, x5, rfl⟩
      have hl' : l = exs X := by
        have := List.mem_of_getElem? hl
        simpa using this
      subst hl'
      have s1 : sIf (Mi.e2 neD (eCall f_law_fields [(eV 2)]) (Mi.e2 repD (eLst [(eV 1)]) (eC (.int 11)))) (sRet (eC (.bl false))) sPass [some W2, some X, some (.lst (exs X)), x3, x4, x5] = .nx [some W2, some X, some (.lst (exs X)), x3, x4, x5] := by
        have rp' : repD (.lst [X]) (.int 11) = some (.lst (List.replicate 11 X)) := rp
        clear rp
        generalize List.replicate 11 X = R at fl rp' ns
        simp (maxDischargeDepth := 7) [List.getElem?_cons_zero, List.getElem?_cons_succ, Mi.bind_out, Mi.bind_bind, Mi.sq_asg, Mi.sq_do, Mi.sq_ret, Mi.sq_raise, Mi.sq_seq, Mi.sq_pass, Mi.sq_if, Mi.sq_app, Mi.sq_setI, Mi.sq_setK, Mi.sq_ct, Mi.sq_bk, Mi.x_V, Mi.x_C, Mi.x_1, Mi.x_2, Mi.x_O2, Mi.x_P0, Mi.x_P1, Mi.x_3, Mi.x_O3, Mi.x_And, Mi.x_Or, Mi.x_Not, Mi.x_If, Mi.x_L0, Mi.x_L1, Mi.x_Tup, Mi.x_Lst, Mi.x_Ch, Mi.x_Call, Mi.x_CallO, Mi.x_CallP, Mi.x_CallN, Mi.x_Meth, Mi.x_Seq, Mi.x_Rng, Mi.x_Rng2, Mi.x_Enum, Mi.x_Zip, Mi.x_Zip3, Mi.x_Ix, Mi.x_Make, Mi.x_Try, Mi.x_TryO, Mi.sq_try, Mi.sq_tryO, Mi.x_setF, Mi.sq_setF, Mi.isD, Mi.tyN, Mi.tyB, Mi.x_pass, Mi.x_asg, Mi.x_do, Mi.x_ret, Mi.x_raise, Mi.x_if, Mi.x_bk, Mi.x_ct, Mi.x_app, Mi.x_setI, Mi.x_setK, Mi.x_pop, Mi.x_isL, Mi.x_tn, Mi.x_t0, Mi.x_st0, Mi.x_st1, Mi.x_rest0, Mi.x_rest1, Mi.x_putn, Mi.x_putt, Mi.x_set0, Mi.x_set1, Mi.x_out0, Mi.x_out1, Mi.truth, Mi.seqOf, Mi.startE, Mi.pE_tup, Mi.wipe0, Mi.wipe1, Option.getD_some, Mi.isBl_ite, Mi.toB_ite, Mi.allD_map, Mi.anyD_map, Mi.filter_tt, -List.mem_map, List.forall_mem_map, -List.map_tail, -List.map_take, -List.map_drop, Mi.take_mp, Mi.drop_mp, Mi.tail_mp, Mi.min_cap, List.length_zip, Mi.zip2_map, Mi.okV_ite, Mi.okB_ite, Mi.getV_ite, Mi.getB_ite, Mi.bind_ite, Mi.out_ite, Mi.lc_s, Mi.lc_sS, Mi.lc_sN, Mi.lc_sM, List.filter_map, List.map_map, Function.comp_def, fl, rp', ns]
      refine ⟨[some W2, some X, some (.lst (exs X)), x3, x4, x5], rfl, ?_⟩
      rw [sq_nx s1]
      refine q_for0 (as := exl) (f := fun i p => .tup [.int i, .exn p.1 p.2 X]) (ds := enumD 0 (exs X)) rfl (its_enum (as := exl) (f := fun p => D.exn p.1 p.2 X)) (fun δ0 i δ => ∃ x3 x4 x5 : Option D, δ = stE δ0 [(3, x3), (4, x4), (5, x5)]) ⟨x3, x4, x5, rfl⟩ ?_ ?_
      · rintro k ⟨c, f⟩ δ hk ⟨y3, y4, y5, rfl⟩
        have tk := taken_ok X hk
        obtain ⟨t1, t2⟩ := slot_ok X hk
        have ok1 : okD (.lst ((List.range 11).map fun (k' : Nat) => D.bl (decide ((k' : Int) = (k : Int))))) = true := ok_lst fun x hx => by
          obtain ⟨b, _, rfl⟩ := List.mem_map.mp hx
          exact ⟨by simp [D.py, PyData.canLay0], by simp [D.py, PyData.depth]⟩
        have n2 := neD_self ok1
        have s11 := smInt_small (show -100 ≤ (11 : Int) by omega) (show (11 : Int) ≤ 10000 by omega)
        have c11' : (11 : Nat) ≤ cap := c11
        have cm : eLc (iRng (eC (.int 11))) (.n 5) [5] none (Mi.e2 eqD (eV 5) (eV 3)) [some W2, some X, some (.lst (exs X)), some (.int k), some (.exn c f X), y5] = .ok (.lst ((List.range 11).map fun (k' : Nat) => D.bl (decide ((k' : Int) = (k : Int))))) [some W2, some X, some (.lst (exs X)), some (.int k), some (.exn c f X), y5] := by
          rw [lc_pure1 (δ1 := [some W2, some X, some (.lst (exs X)), some (.int k), some (.exn c f X), y5]) (as := List.range 11) (f := fun (i : Nat) => D.int i) (by simp (maxDischargeDepth := 7) [List.getElem?_cons_zero, List.getElem?_cons_succ, Mi.bind_out, Mi.bind_bind, Mi.sq_asg, Mi.sq_do, Mi.sq_ret, Mi.sq_raise, Mi.sq_seq, Mi.sq_pass, Mi.sq_if, Mi.sq_app, Mi.sq_setI, Mi.sq_setK, Mi.sq_ct, Mi.sq_bk, Mi.x_V, Mi.x_C, Mi.x_1, Mi.x_2, Mi.x_O2, Mi.x_P0, Mi.x_P1, Mi.x_3, Mi.x_O3, Mi.x_And, Mi.x_Or, Mi.x_Not, Mi.x_If, Mi.x_L0, Mi.x_L1, Mi.x_Tup, Mi.x_Lst, Mi.x_Ch, Mi.x_Call, Mi.x_CallO, Mi.x_CallP, Mi.x_CallN, Mi.x_Meth, Mi.x_Seq, Mi.x_Rng, Mi.x_Rng2, Mi.x_Enum, Mi.x_Zip, Mi.x_Zip3, Mi.x_Ix, Mi.x_Make, Mi.x_Try, Mi.x_TryO, Mi.sq_try, Mi.sq_tryO, Mi.x_setF, Mi.sq_setF, Mi.isD, Mi.tyN, Mi.tyB, Mi.x_pass, Mi.x_asg, Mi.x_do, Mi.x_ret, Mi.x_raise, Mi.x_if, Mi.x_bk, Mi.x_ct, Mi.x_app, Mi.x_setI, Mi.x_setK, Mi.x_pop, Mi.x_isL, Mi.x_tn, Mi.x_t0, Mi.x_st0, Mi.x_st1, Mi.x_rest0, Mi.x_rest1, Mi.x_putn, Mi.x_putt, Mi.x_set0, Mi.x_set1, Mi.x_out0, Mi.x_out1, Mi.truth, Mi.seqOf, Mi.startE, Mi.pE_tup, Mi.wipe0, Mi.wipe1, Option.getD_some, Mi.isBl_ite, Mi.toB_ite, Mi.allD_map, Mi.anyD_map, Mi.filter_tt, -List.mem_map, List.forall_mem_map, -List.map_tail, -List.map_take, -List.map_drop, Mi.take_mp, Mi.drop_mp, Mi.tail_mp, Mi.min_cap, List.length_zip, Mi.zip2_map, Mi.okV_ite, Mi.okB_ite, Mi.getV_ite, Mi.getB_ite, Mi.bind_ite, Mi.out_ite, Mi.lc_s, Mi.lc_sS, Mi.lc_sN, Mi.lc_sM, List.filter_map, List.map_map, Function.comp_def, s11, rng]) (by rw [List.length_range]; exact c11) (fun a _ => by simp (maxDischargeDepth := 7) [List.getElem?_cons_zero, List.getElem?_cons_succ, Mi.bind_out, Mi.bind_bind, Mi.sq_asg, Mi.sq_do, Mi.sq_ret, Mi.sq_raise, Mi.sq_seq, Mi.sq_pass, Mi.sq_if, Mi.sq_app, Mi.sq_setI, Mi.sq_setK, Mi.sq_ct, Mi.sq_bk, Mi.x_V, Mi.x_C, Mi.x_1, Mi.x_2, Mi.x_O2, Mi.x_P0, Mi.x_P1, Mi.x_3, Mi.x_O3, Mi.x_And, Mi.x_Or, Mi.x_Not, Mi.x_If, Mi.x_L0, Mi.x_L1, Mi.x_Tup, Mi.x_Lst, Mi.x_Ch, Mi.x_Call, Mi.x_CallO, Mi.x_CallP, Mi.x_CallN, Mi.x_Meth, Mi.x_Seq, Mi.x_Rng, Mi.x_Rng2, Mi.x_Enum, Mi.x_Zip, Mi.x_Zip3, Mi.x_Ix, Mi.x_Make, Mi.x_Try, Mi.x_TryO, Mi.sq_try, Mi.sq_tryO, Mi.x_setF, Mi.sq_setF, Mi.isD, Mi.tyN, Mi.tyB, Mi.x_pass, Mi.x_asg, Mi.x_do, Mi.x_ret, Mi.x_raise, Mi.x_if, Mi.x_bk, Mi.x_ct, Mi.x_app, Mi.x_setI, Mi.x_setK, Mi.x_pop, Mi.x_isL, Mi.x_tn, Mi.x_t0, Mi.x_st0, Mi.x_st1, Mi.x_rest0, Mi.x_rest1, Mi.x_putn, Mi.x_putt, Mi.x_set0, Mi.x_set1, Mi.x_out0, Mi.x_out1, Mi.truth, Mi.seqOf, Mi.startE, Mi.pE_tup, Mi.wipe0, Mi.wipe1, Option.getD_some, Mi.isBl_ite, Mi.toB_ite, Mi.allD_map, Mi.anyD_map, Mi.filter_tt, -List.mem_map, List.forall_mem_map, -List.map_tail, -List.map_take, -List.map_drop, Mi.take_mp, Mi.drop_mp, Mi.tail_mp, Mi.min_cap, List.length_zip, Mi.zip2_map, Mi.okV_ite, Mi.okB_ite, Mi.getV_ite, Mi.getB_ite, Mi.bind_ite, Mi.out_ite, Mi.lc_s, Mi.lc_sS, Mi.lc_sN, Mi.lc_sM, List.filter_map, List.map_map, Function.comp_def, eq_int])]
          simp (maxDischargeDepth := 7) [List.getElem?_cons_zero, List.getElem?_cons_succ, Mi.bind_out, Mi.bind_bind, Mi.sq_asg, Mi.sq_do, Mi.sq_ret, Mi.sq_raise, Mi.sq_seq, Mi.sq_pass, Mi.sq_if, Mi.sq_app, Mi.sq_setI, Mi.sq_setK, Mi.sq_ct, Mi.sq_bk, Mi.x_V, Mi.x_C, Mi.x_1, Mi.x_2, Mi.x_O2, Mi.x_P0, Mi.x_P1, Mi.x_3, Mi.x_O3, Mi.x_And, Mi.x_Or, Mi.x_Not, Mi.x_If, Mi.x_L0, Mi.x_L1, Mi.x_Tup, Mi.x_Lst, Mi.x_Ch, Mi.x_Call, Mi.x_CallO, Mi.x_CallP, Mi.x_CallN, Mi.x_Meth, Mi.x_Seq, Mi.x_Rng, Mi.x_Rng2, Mi.x_Enum, Mi.x_Zip, Mi.x_Zip3, Mi.x_Ix, Mi.x_Make, Mi.x_Try, Mi.x_TryO, Mi.sq_try, Mi.sq_tryO, Mi.x_setF, Mi.sq_setF, Mi.isD, Mi.tyN, Mi.tyB, Mi.x_pass, Mi.x_asg, Mi.x_do, Mi.x_ret, Mi.x_raise, Mi.x_if, Mi.x_bk, Mi.x_ct, Mi.x_app, Mi.x_setI, Mi.x_setK, Mi.x_pop, Mi.x_isL, Mi.x_tn, Mi.x_t0, Mi.x_st0, Mi.x_st1, Mi.x_rest0, Mi.x_rest1, Mi.x_putn, Mi.x_putt, Mi.x_set0, Mi.x_set1, Mi.x_out0, Mi.x_out1, Mi.truth, Mi.seqOf, Mi.startE, Mi.pE_tup, Mi.wipe0, Mi.wipe1, Option.getD_some, Mi.isBl_ite, Mi.toB_ite, Mi.allD_map, Mi.anyD_map, Mi.filter_tt, -List.mem_map, List.forall_mem_map, -List.map_tail, -List.map_take, -List.map_drop, Mi.take_mp, Mi.drop_mp, Mi.tail_mp, Mi.min_cap, List.length_zip, Mi.zip2_map, Mi.okV_ite, Mi.okB_ite, Mi.getV_ite, Mi.getB_ite, Mi.bind_ite, Mi.out_ite, Mi.lc_s, Mi.lc_sS, Mi.lc_sN, Mi.lc_sM, List.filter_map, List.map_map, Function.comp_def, eq_int]
        have s2 : sIf (Mi.e2 neD (eCall f_law_taken [(eV 4)]) (eLc (iRng (eC (.int 11))) (.n 5) [5] none (Mi.e2 eqD (eV 5) (eV 3)))) (sRet (eC (.bl false))) sPass [some W2, some X, some (.lst (exs X)), some (.int k), some (.exn c f X), y5] = .nx [some W2, some X, some (.lst (exs X)), some (.int k), some (.exn c f X), y5] := by
          show ((Mi.e2 neD _ _ _).out _) = _
          have : Mi.e2 neD (eCall f_law_taken [(eV 4)]) (eLc (iRng (eC (.int 11))) (.n 5) [5] none (Mi.e2 eqD (eV 5) (eV 3))) [some W2, some X, some (.lst (exs X)), some (.int k), some (.exn c f X), y5] = .ok (.bl false) [some W2, some X, some (.lst (exs X)), some (.int k), some (.exn c f X), y5] := by
            have a1 : eCall f_law_taken [(eV 4)] [some W2, some X, some (.lst (exs X)), some (.int k), some (.exn c f X), y5] = .ok (.lst ((List.range 11).map fun (k' : Nat) => D.bl (decide ((k' : Int) = (k : Int))))) [some W2, some X, some (.lst (exs X)), some (.int k), some (.exn c f X), y5] := by simp (maxDischargeDepth := 7) [List.getElem?_cons_zero, List.getElem?_cons_succ, Mi.bind_out, Mi.bind_bind, Mi.sq_asg, Mi.sq_do, Mi.sq_ret, Mi.sq_raise, Mi.sq_seq, Mi.sq_pass, Mi.sq_if, Mi.sq_app, Mi.sq_setI, Mi.sq_setK, Mi.sq_ct, Mi.sq_bk, Mi.x_V, Mi.x_C, Mi.x_1, Mi.x_2, Mi.x_O2, Mi.x_P0, Mi.x_P1, Mi.x_3, Mi.x_O3, Mi.x_And, Mi.x_Or, Mi.x_Not, Mi.x_If, Mi.x_L0, Mi.x_L1, Mi.x_Tup, Mi.x_Lst, Mi.x_Ch, Mi.x_Call, Mi.x_CallO, Mi.x_CallP, Mi.x_CallN, Mi.x_Meth, Mi.x_Seq, Mi.x_Rng, Mi.x_Rng2, Mi.x_Enum, Mi.x_Zip, Mi.x_Zip3, Mi.x_Ix, Mi.x_Make, Mi.x_Try, Mi.x_TryO, Mi.sq_try, Mi.sq_tryO, Mi.x_setF, Mi.sq_setF, Mi.isD, Mi.tyN, Mi.tyB, Mi.x_pass, Mi.x_asg, Mi.x_do, Mi.x_ret, Mi.x_raise, Mi.x_if, Mi.x_bk, Mi.x_ct, Mi.x_app, Mi.x_setI, Mi.x_setK, Mi.x_pop, Mi.x_isL, Mi.x_tn, Mi.x_t0, Mi.x_st0, Mi.x_st1, Mi.x_rest0, Mi.x_rest1, Mi.x_putn, Mi.x_putt, Mi.x_set0, Mi.x_set1, Mi.x_out0, Mi.x_out1, Mi.truth, Mi.seqOf, Mi.startE, Mi.pE_tup, Mi.wipe0, Mi.wipe1, Option.getD_some, Mi.isBl_ite, Mi.toB_ite, Mi.allD_map, Mi.anyD_map, Mi.filter_tt, -List.mem_map, List.forall_mem_map, -List.map_tail, -List.map_take, -List.map_drop, Mi.take_mp, Mi.drop_mp, Mi.tail_mp, Mi.min_cap, List.length_zip, Mi.zip2_map, Mi.okV_ite, Mi.okB_ite, Mi.getV_ite, Mi.getB_ite, Mi.bind_ite, Mi.out_ite, Mi.lc_s, Mi.lc_sS, Mi.lc_sN, Mi.lc_sM, List.filter_map, List.map_map, Function.comp_def, tk]
            show ((eCall _ _ _).bind _) = _
            rw [a1, Res.bind_ok, cm, Res.bind_ok, n2]; rfl
          rw [this]; rfl
        refine ⟨[some W2, some X, some (.lst (exs X)), some (.int k), some (.exn c f X), y5], rfl, ?_⟩
        rw [sq_nx s2]
        simp (maxDischargeDepth := 7) [List.getElem?_cons_zero, List.getElem?_cons_succ, Mi.bind_out, Mi.bind_bind, Mi.sq_asg, Mi.sq_do, Mi.sq_ret, Mi.sq_raise, Mi.sq_seq, Mi.sq_pass, Mi.sq_if, Mi.sq_app, Mi.sq_setI, Mi.sq_setK, Mi.sq_ct, Mi.sq_bk, Mi.x_V, Mi.x_C, Mi.x_1, Mi.x_2, Mi.x_O2, Mi.x_P0, Mi.x_P1, Mi.x_3, Mi.x_O3, Mi.x_And, Mi.x_Or, Mi.x_Not, Mi.x_If, Mi.x_L0, Mi.x_L1, Mi.x_Tup, Mi.x_Lst, Mi.x_Ch, Mi.x_Call, Mi.x_CallO, Mi.x_CallP, Mi.x_CallN, Mi.x_Meth, Mi.x_Seq, Mi.x_Rng, Mi.x_Rng2, Mi.x_Enum, Mi.x_Zip, Mi.x_Zip3, Mi.x_Ix, Mi.x_Make, Mi.x_Try, Mi.x_TryO, Mi.sq_try, Mi.sq_tryO, Mi.x_setF, Mi.sq_setF, Mi.isD, Mi.tyN, Mi.tyB, Mi.x_pass, Mi.x_asg, Mi.x_do, Mi.x_ret, Mi.x_raise, Mi.x_if, Mi.x_bk, Mi.x_ct, Mi.x_app, Mi.x_setI, Mi.x_setK, Mi.x_pop, Mi.x_isL, Mi.x_tn, Mi.x_t0, Mi.x_st0, Mi.x_st1, Mi.x_rest0, Mi.x_rest1, Mi.x_putn, Mi.x_putt, Mi.x_set0, Mi.x_set1, Mi.x_out0, Mi.x_out1, Mi.truth, Mi.seqOf, Mi.startE, Mi.pE_tup, Mi.wipe0, Mi.wipe1, Option.getD_some, Mi.isBl_ite, Mi.toB_ite, Mi.allD_map, Mi.anyD_map, Mi.filter_tt, -List.mem_map, List.forall_mem_map, -List.map_tail, -List.map_take, -List.map_drop, Mi.take_mp, Mi.drop_mp, Mi.tail_mp, Mi.min_cap, List.length_zip, Mi.zip2_map, Mi.okV_ite, Mi.okB_ite, Mi.getV_ite, Mi.getB_ite, Mi.bind_ite, Mi.out_ite, Mi.lc_s, Mi.lc_sS, Mi.lc_sN, Mi.lc_sM, List.filter_map, List.map_map, Function.comp_def, t1, t2]
        exact hd ⟨_, _, _, rfl⟩
      · rintro δ ⟨y3, y4, y5, rfl⟩
        simp (maxDischargeDepth := 7) [List.getElem?_cons_zero, List.getElem?_cons_succ, Mi.bind_out, Mi.bind_bind, Mi.sq_asg, Mi.sq_do, Mi.sq_ret, Mi.sq_raise, Mi.sq_seq, Mi.sq_pass, Mi.sq_if, Mi.sq_app, Mi.sq_setI, Mi.sq_setK, Mi.sq_ct, Mi.sq_bk, Mi.x_V, Mi.x_C, Mi.x_1, Mi.x_2, Mi.x_O2, Mi.x_P0, Mi.x_P1, Mi.x_3, Mi.x_O3, Mi.x_And, Mi.x_Or, Mi.x_Not, Mi.x_If, Mi.x_L0, Mi.x_L1, Mi.x_Tup, Mi.x_Lst, Mi.x_Ch, Mi.x_Call, Mi.x_CallO, Mi.x_CallP, Mi.x_CallN, Mi.x_Meth, Mi.x_Seq, Mi.x_Rng, Mi.x_Rng2, Mi.x_Enum, Mi.x_Zip, Mi.x_Zip3, Mi.x_Ix, Mi.x_Make, Mi.x_Try, Mi.x_TryO, Mi.sq_try, Mi.sq_tryO, Mi.x_setF, Mi.sq_setF, Mi.isD, Mi.tyN, Mi.tyB, Mi.x_pass, Mi.x_asg, Mi.x_do, Mi.x_ret, Mi.x_raise, Mi.x_if, Mi.x_bk, Mi.x_ct, Mi.x_app, Mi.x_setI, Mi.x_setK, Mi.x_pop, Mi.x_isL, Mi.x_tn, Mi.x_t0, Mi.x_st0, Mi.x_st1, Mi.x_rest0, Mi.x_rest1, Mi.x_putn, Mi.x_putt, Mi.x_set0, Mi.x_set1, Mi.x_out0, Mi.x_out1, Mi.truth, Mi.seqOf, Mi.startE, Mi.pE_tup, Mi.wipe0, Mi.wipe1, Option.getD_some, Mi.isBl_ite, Mi.toB_ite, Mi.allD_map, Mi.anyD_map, Mi.filter_tt, -List.mem_map, List.forall_mem_map, -List.map_tail, -List.map_take, -List.map_drop, Mi.take_mp, Mi.drop_mp, Mi.tail_mp, Mi.min_cap, List.length_zip, Mi.zip2_map, Mi.okV_ite, Mi.okB_ite, Mi.getV_ite, Mi.getB_ite, Mi.bind_ite, Mi.out_ite, Mi.lc_s, Mi.lc_sS, Mi.lc_sN, Mi.lc_sM, List.filter_map, List.map_map, Function.comp_def]
        exact hd ⟨_, _, _, _, rfl⟩
    · rintro δ ⟨x2, x3, x4, x5, rfl⟩
      simp (maxDischargeDepth := 7) [List.getElem?_cons_zero, List.getElem?_cons_succ, Mi.bind_out, Mi.bind_bind, Mi.sq_asg, Mi.sq_do, Mi.sq_ret, Mi.sq_raise, Mi.sq_seq, Mi.sq_pass, Mi.sq_if, Mi.sq_app, Mi.sq_setI, Mi.sq_setK, Mi.sq_ct, Mi.sq_bk, Mi.x_V, Mi.x_C, Mi.x_1, Mi.x_2, Mi.x_O2, Mi.x_P0, Mi.x_P1, Mi.x_3, Mi.x_O3, Mi.x_And, Mi.x_Or, Mi.x_Not, Mi.x_If, Mi.x_L0, Mi.x_L1, Mi.x_Tup, Mi.x_Lst, Mi.x_Ch, Mi.x_Call, Mi.x_CallO, Mi.x_CallP, Mi.x_CallN, Mi.x_Meth, Mi.x_Seq, Mi.x_Rng, Mi.x_Rng2, Mi.x_Enum, Mi.x_Zip, Mi.x_Zip3, Mi.x_Ix, Mi.x_Make, Mi.x_Try, Mi.x_TryO, Mi.sq_try, Mi.sq_tryO, Mi.x_setF, Mi.sq_setF, Mi.isD, Mi.tyN, Mi.tyB, Mi.x_pass, Mi.x_asg, Mi.x_do, Mi.x_ret, Mi.x_raise, Mi.x_if, Mi.x_bk, Mi.x_ct, Mi.x_app, Mi.x_setI, Mi.x_setK, Mi.x_pop, Mi.x_isL, Mi.x_tn, Mi.x_t0, Mi.x_st0, Mi.x_st1, Mi.x_rest0, Mi.x_rest1, Mi.x_putn, Mi.x_putt, Mi.x_set0, Mi.x_set1, Mi.x_out0, Mi.x_out1, Mi.truth, Mi.seqOf, Mi.startE, Mi.pE_tup, Mi.wipe0, Mi.wipe1, Option.getD_some, Mi.isBl_ite, Mi.toB_ite, Mi.allD_map, Mi.anyD_map, Mi.filter_tt, -List.mem_map, List.forall_mem_map, -List.map_tail, -List.map_take, -List.map_drop, Mi.take_mp, Mi.drop_mp, Mi.tail_mp, Mi.min_cap, List.length_zip, Mi.zip2_map, Mi.okV_ite, Mi.okB_ite, Mi.getV_ite, Mi.getB_ite, Mi.bind_ite, Mi.out_ite, Mi.lc_s, Mi.lc_sS, Mi.lc_sN, Mi.lc_sM, List.filter_map, List.map_map, Function.comp_def]
  obtain ⟨x, ⟨W', h⟩, e⟩ := ex
  exact ⟨W', e.trans h⟩
end Mi

end
section
set_option linter.all false
set_option autoImplicit false
set_option maxRecDepth 20000
namespace Mi
open PySem PySem.Spec
theorem cell_ok (c : Int) : ∃ a : Int, (∀ δ : Env, (if 1000000000000000000 ≤ c then (1 : Int) else 0) = a) ∧ (a = 0 ∨ a = 1) := by
  by_cases h : 1000000000000000000 ≤ c
  · exact ⟨1, fun _ => if_pos h, .inr rfl⟩
  · exact ⟨0, fun _ => if_neg h, .inl rfl⟩
theorem law_true : ∀ ns : List Int, ns.length ≤ 63 → f_law [.lst (ns.map .int)] = .ok (.bl true) [] := by
  intro ns hl
  refine e_law rfl ?_
  unfold m_law
  have c1 : ns.length + 1 ≤ cap := cap_60 (by omega)
  have c2 : cutD (ns.map D.int ++ [.int 0]) none (some 3) = ((ns ++ [0]).take 3).map .int := by rw [slice_take (by omega), List.map_take, List.map_append]; rfl
  refine q_for (as := (ns ++ [0]).take 3) (f := fun i k => .tup [.int i, .int k]) (ds := enumD 0 (((ns ++ [0]).take 3).map .int)) (by simp (maxDischargeDepth := 7) [List.getElem?_cons_zero, List.getElem?_cons_succ, Mi.bind_out, Mi.bind_bind, Mi.sq_asg, Mi.sq_do, Mi.sq_ret, Mi.sq_raise, Mi.sq_seq, Mi.sq_pass, Mi.sq_if, Mi.sq_app, Mi.sq_setI, Mi.sq_setK, Mi.sq_ct, Mi.sq_bk, Mi.x_V, Mi.x_C, Mi.x_1, Mi.x_2, Mi.x_O2, Mi.x_P0, Mi.x_P1, Mi.x_3, Mi.x_O3, Mi.x_And, Mi.x_Or, Mi.x_Not, Mi.x_If, Mi.x_L0, Mi.x_L1, Mi.x_Tup, Mi.x_Lst, Mi.x_Ch, Mi.x_Call, Mi.x_CallO, Mi.x_CallP, Mi.x_CallN, Mi.x_Meth, Mi.x_Seq, Mi.x_Rng, Mi.x_Rng2, Mi.x_Enum, Mi.x_Zip, Mi.x_Zip3, Mi.x_Ix, Mi.x_Make, Mi.x_Try, Mi.x_TryO, Mi.sq_try, Mi.sq_tryO, Mi.x_setF, Mi.sq_setF, Mi.isD, Mi.tyN, Mi.tyB, Mi.x_pass, Mi.x_asg, Mi.x_do, Mi.x_ret, Mi.x_raise, Mi.x_if, Mi.x_bk, Mi.x_ct, Mi.x_app, Mi.x_setI, Mi.x_setK, Mi.x_pop, Mi.x_isL, Mi.x_tn, Mi.x_t0, Mi.x_st0, Mi.x_st1, Mi.x_rest0, Mi.x_rest1, Mi.x_putn, Mi.x_putt, Mi.x_set0, Mi.x_set1, Mi.x_out0, Mi.x_out1, Mi.truth, Mi.seqOf, Mi.startE, Mi.pE_tup, Mi.wipe0, Mi.wipe1, Option.getD_some, Mi.isBl_ite, Mi.toB_ite, Mi.allD_map, Mi.anyD_map, Mi.filter_tt, -List.mem_map, List.forall_mem_map, -List.map_tail, -List.map_take, -List.map_drop, Mi.take_mp, Mi.drop_mp, Mi.tail_mp, Mi.min_cap, List.length_zip, Mi.zip2_map, Mi.okV_ite, Mi.okB_ite, Mi.getV_ite, Mi.getB_ite, Mi.bind_ite, Mi.out_ite, Mi.lc_s, Mi.lc_sS, Mi.lc_sN, Mi.lc_sM, List.filter_map, List.map_map, Function.comp_def, addD, c1, slD, c2]; rfl) its_enum (fun δ0 i δ => ∃ x1 x2 : Option D, δ = stE δ0 [(1, x1), (2, x2)]) ⟨none, none, rfl⟩ ?_ ?_
  · rintro i c δ hc ⟨x1, x2, rfl⟩
    have p1 : powD (.int 10) (.int 18) = some (.int 1000000000000000000) := rfl
    by_cases h : (1000000000000000000 : Int) ≤ c
    · obtain ⟨W', hw⟩ := right_ok (W := .lst [.int c, .int (c % 2147483647 + 7919 * (i : Nat)), .int 0]) ⟨_, _, _, rfl⟩
      have m1 : mulD (.int c) (.int 1) = some (.int c) := by simp [mulD]
      have m2 : modD (.int c) (.int 2147483647) = some (.int (c % 2147483647)) := by simp [modD]
      have m3 : mulD (.int 7919) (.int (i : Nat)) = some (.int (7919 * (i : Nat))) := by simp [mulD]
      have m4 : addD (.int (c % 2147483647)) (.int (7919 * (i : Nat))) = some (.int (c % 2147483647 + 7919 * (i : Nat))) := rfl
      have g1 : geD (.int c) (.int 1000000000000000000) = some (.bl true) := by simp [cmpD, h]
      have i1 : intD (.bl true) = some (.int 1) := rfl
      simp (maxDischargeDepth := 7) [List.getElem?_cons_zero, List.getElem?_cons_succ, Mi.bind_out, Mi.bind_bind, Mi.sq_asg, Mi.sq_do, Mi.sq_ret, Mi.sq_raise, Mi.sq_seq, Mi.sq_pass, Mi.sq_if, Mi.sq_app, Mi.sq_setI, Mi.sq_setK, Mi.sq_ct, Mi.sq_bk, Mi.x_V, Mi.x_C, Mi.x_1, Mi.x_2, Mi.x_O2, Mi.x_P0, Mi.x_P1, Mi.x_3, Mi.x_O3, Mi.x_And, Mi.x_Or, Mi.x_Not, Mi.x_If, Mi.x_L0, Mi.x_L1, Mi.x_Tup, Mi.x_Lst, Mi.x_Ch, Mi.x_Call, Mi.x_CallO, Mi.x_CallP, Mi.x_CallN, Mi.x_Meth, Mi.x_Seq, Mi.x_Rng, Mi.x_Rng2, Mi.x_Enum, Mi.x_Zip, Mi.x_Zip3, Mi.x_Ix, Mi.x_Make, Mi.x_Try, Mi.x_TryO, Mi.sq_try, Mi.sq_tryO, Mi.x_setF, Mi.sq_setF, Mi.isD, Mi.tyN, Mi.tyB, Mi.x_pass, Mi.x_asg, Mi.x_do, Mi.x_ret, Mi.x_raise, Mi.x_if, Mi.x_bk, Mi.x_ct, Mi.x_app, Mi.x_setI, Mi.x_setK, Mi.x_pop, Mi.x_isL, Mi.x_tn, Mi.x_t0, Mi.x_st0, Mi.x_st1, Mi.x_rest0, Mi.x_rest1, Mi.x_putn, Mi.x_putt, Mi.x_set0, Mi.x_set1, Mi.x_out0, Mi.x_out1, Mi.truth, Mi.seqOf, Mi.startE, Mi.pE_tup, Mi.wipe0, Mi.wipe1, Option.getD_some, Mi.isBl_ite, Mi.toB_ite, Mi.allD_map, Mi.anyD_map, Mi.filter_tt, -List.mem_map, List.forall_mem_map, -List.map_tail, -List.map_take, -List.map_drop, Mi.take_mp, Mi.drop_mp, Mi.tail_mp, Mi.min_cap, List.length_zip, Mi.zip2_map, Mi.okV_ite, Mi.okB_ite, Mi.getV_ite, Mi.getB_ite, Mi.bind_ite, Mi.out_ite, Mi.lc_s, Mi.lc_sS, Mi.lc_sN, Mi.lc_sM, List.filter_map, List.map_map, Function.comp_def, p1, g1, i1, m1, m2, m3, m4, hw]
      exact hd ⟨_, _, rfl⟩
    · obtain ⟨W', hw⟩ := right_ok (W := .lst [.int 0, .int (c % 2147483647 + 7919 * (i : Nat)), .int 0]) ⟨_, _, _, rfl⟩
      have m1 : mulD (.int c) (.int 0) = some (.int 0) := by simp [mulD]
      have m2 : modD (.int c) (.int 2147483647) = some (.int (c % 2147483647)) := by simp [modD]
      have m3 : mulD (.int 7919) (.int (i : Nat)) = some (.int (7919 * (i : Nat))) := by simp [mulD]
      have m4 : addD (.int (c % 2147483647)) (.int (7919 * (i : Nat))) = some (.int (c % 2147483647 + 7919 * (i : Nat))) := rfl
      have g1 : geD (.int c) (.int 1000000000000000000) = some (.bl false) := by simp [cmpD, h]
      have i1 : intD (.bl false) = some (.int 0) := rfl
      simp (maxDischargeDepth := 7) [List.getElem?_cons_zero, List.getElem?_cons_succ, Mi.bind_out, Mi.bind_bind, Mi.sq_asg, Mi.sq_do, Mi.sq_ret, Mi.sq_raise, Mi.sq_seq, Mi.sq_pass, Mi.sq_if, Mi.sq_app, Mi.sq_setI, Mi.sq_setK, Mi.sq_ct, Mi.sq_bk, Mi.x_V, Mi.x_C, Mi.x_1, Mi.x_2, Mi.x_O2, Mi.x_P0, Mi.x_P1, Mi.x_3, Mi.x_O3, Mi.x_And, Mi.x_Or, Mi.x_Not, Mi.x_If, Mi.x_L0, Mi.x_L1, Mi.x_Tup, Mi.x_Lst, Mi.x_Ch, Mi.x_Call, Mi.x_CallO, Mi.x_CallP, Mi.x_CallN, Mi.x_Meth, Mi.x_Seq, Mi.x_Rng, Mi.x_Rng2, Mi.x_Enum, Mi.x_Zip, Mi.x_Zip3, Mi.x_Ix, Mi.x_Make, Mi.x_Try, Mi.x_TryO, Mi.sq_try, Mi.sq_tryO, Mi.x_setF, Mi.sq_setF, Mi.isD, Mi.tyN, Mi.tyB, Mi.x_pass, Mi.x_asg, Mi.x_do, Mi.x_ret, Mi.x_raise, Mi.x_if, Mi.x_bk, Mi.x_ct, Mi.x_app, Mi.x_setI, Mi.x_setK, Mi.x_pop, Mi.x_isL, Mi.x_tn, Mi.x_t0, Mi.x_st0, Mi.x_st1, Mi.x_rest0, Mi.x_rest1, Mi.x_putn, Mi.x_putt, Mi.x_set0, Mi.x_set1, Mi.x_out0, Mi.x_out1, Mi.truth, Mi.seqOf, Mi.startE, Mi.pE_tup, Mi.wipe0, Mi.wipe1, Option.getD_some, Mi.isBl_ite, Mi.toB_ite, Mi.allD_map, Mi.anyD_map, Mi.filter_tt, -List.mem_map, List.forall_mem_map, -List.map_tail, -List.map_take, -List.map_drop, Mi.take_mp, Mi.drop_mp, Mi.tail_mp, Mi.min_cap, List.length_zip, Mi.zip2_map, Mi.okV_ite, Mi.okB_ite, Mi.getV_ite, Mi.getB_ite, Mi.bind_ite, Mi.out_ite, Mi.lc_s, Mi.lc_sS, Mi.lc_sN, Mi.lc_sM, List.filter_map, List.map_map, Function.comp_def, p1, g1, i1, m1, m2, m3, m4, hw]
      exact hd ⟨_, _, rfl⟩
  · rintro δ ⟨x1, x2, rfl⟩
    simp (maxDischargeDepth := 7) [List.getElem?_cons_zero, List.getElem?_cons_succ, Mi.bind_out, Mi.bind_bind, Mi.sq_asg, Mi.sq_do, Mi.sq_ret, Mi.sq_raise, Mi.sq_seq, Mi.sq_pass, Mi.sq_if, Mi.sq_app, Mi.sq_setI, Mi.sq_setK, Mi.sq_ct, Mi.sq_bk, Mi.x_V, Mi.x_C, Mi.x_1, Mi.x_2, Mi.x_O2, Mi.x_P0, Mi.x_P1, Mi.x_3, Mi.x_O3, Mi.x_And, Mi.x_Or, Mi.x_Not, Mi.x_If, Mi.x_L0, Mi.x_L1, Mi.x_Tup, Mi.x_Lst, Mi.x_Ch, Mi.x_Call, Mi.x_CallO, Mi.x_CallP, Mi.x_CallN, Mi.x_Meth, Mi.x_Seq, Mi.x_Rng, Mi.x_Rng2, Mi.x_Enum, Mi.x_Zip, Mi.x_Zip3, Mi.x_Ix, Mi.x_Make, Mi.x_Try, Mi.x_TryO, Mi.sq_try, Mi.sq_tryO, Mi.x_setF, Mi.sq_setF, Mi.isD, Mi.tyN, Mi.tyB, Mi.x_pass, Mi.x_asg, Mi.x_do, Mi.x_ret, Mi.x_raise, Mi.x_if, Mi.x_bk, Mi.x_ct, Mi.x_app, Mi.x_setI, Mi.x_setK, Mi.x_pop, Mi.x_isL, Mi.x_tn, Mi.x_t0, Mi.x_st0, Mi.x_st1, Mi.x_rest0, Mi.x_rest1, Mi.x_putn, Mi.x_putt, Mi.x_set0, Mi.x_set1, Mi.x_out0, Mi.x_out1, Mi.truth, Mi.seqOf, Mi.startE, Mi.pE_tup, Mi.wipe0, Mi.wipe1, Option.getD_some, Mi.isBl_ite, Mi.toB_ite, Mi.allD_map, Mi.anyD_map, Mi.filter_tt, -List.mem_map, List.forall_mem_map, -List.map_tail, -List.map_take, -List.map_drop, Mi.take_mp, Mi.drop_mp, Mi.tail_mp, Mi.min_cap, List.length_zip, Mi.zip2_map, Mi.okV_ite, Mi.okB_ite, Mi.getV_ite, Mi.getB_ite, Mi.bind_ite, Mi.out_ite, Mi.lc_s, Mi.lc_sS, Mi.lc_sN, Mi.lc_sM, List.filter_map, List.map_map, Function.comp_def]
end Mi

end
section
set_option Elab.async false
set_option linter.all false
set_option maxRecDepth 100000
set_option autoImplicit false
set_option maxHeartbeats 4000000
namespace Mi
open PySem PySem.Spec PyProof.Rows L2
/-! ### the end -/
def lamNames : List Str := []
theorem all_mk {P prog : Program} {w : World} {K : PySem.W.Frag} {h : Heap} {mg : Str → Option Value} {fa : Addr} (X : K.In h) (G : h.Ns mainGlobals mg) (hfa : mg "law" = some (.ref fa)) (top : TopT prog K mg h)
    {C_SlotError : Addr}
    {C_NoBook : Addr}
    {C_NoTimetable : Addr}
    {C_NoMove : Addr}
    {C_NoSlot : Addr}
    {C_NoAppointment : Addr}
    {C_Frozen : Addr}
    {C_NoCertificate : Addr}
    {C_TooMany : Addr}
    {C_NotAllowed : Addr}
    {C_NoWish : Addr}
    {C_NoCosts : Addr}
    {g_NoMove_init : Addr} {oc_NoMove_init kV_NoMove_init dc_NoMove_init pm_NoMove_init cd_NoMove_init ct_NoMove_init : Value} {od_NoMove_init an_NoMove_init : Option Addr} {sl_NoMove_init : Array (Option Value)}
    {g_NoAppointment_init : Addr} {oc_NoAppointment_init kV_NoAppointment_init dc_NoAppointment_init pm_NoAppointment_init cd_NoAppointment_init ct_NoAppointment_init : Value} {od_NoAppointment_init an_NoAppointment_init : Option Addr} {sl_NoAppointment_init : Array (Option Value)}
    {g_NoWish_init : Addr} {oc_NoWish_init kV_NoWish_init dc_NoWish_init pm_NoWish_init cd_NoWish_init ct_NoWish_init : Value} {od_NoWish_init an_NoWish_init : Option Addr} {sl_NoWish_init : Array (Option Value)}
    {g_NoSlot_init : Addr} {oc_NoSlot_init kV_NoSlot_init dc_NoSlot_init pm_NoSlot_init cd_NoSlot_init ct_NoSlot_init : Value} {od_NoSlot_init an_NoSlot_init : Option Addr} {sl_NoSlot_init : Array (Option Value)}
    {g_NoCertificate_init : Addr} {oc_NoCertificate_init kV_NoCertificate_init dc_NoCertificate_init pm_NoCertificate_init cd_NoCertificate_init ct_NoCertificate_init : Value} {od_NoCertificate_init an_NoCertificate_init : Option Addr} {sl_NoCertificate_init : Array (Option Value)}
    {g_NoCosts_init : Addr} {oc_NoCosts_init kV_NoCosts_init dc_NoCosts_init pm_NoCosts_init cd_NoCosts_init ct_NoCosts_init : Value} {od_NoCosts_init an_NoCosts_init : Option Addr} {sl_NoCosts_init : Array (Option Value)}
    {g_NoBook_init : Addr} {oc_NoBook_init kV_NoBook_init dc_NoBook_init pm_NoBook_init cd_NoBook_init ct_NoBook_init : Value} {od_NoBook_init an_NoBook_init : Option Addr} {sl_NoBook_init : Array (Option Value)}
    {g_NotAllowed_init : Addr} {oc_NotAllowed_init kV_NotAllowed_init dc_NotAllowed_init pm_NotAllowed_init cd_NotAllowed_init ct_NotAllowed_init : Value} {od_NotAllowed_init an_NotAllowed_init : Option Addr} {sl_NotAllowed_init : Array (Option Value)}
    {g_Frozen_init : Addr} {oc_Frozen_init kV_Frozen_init dc_Frozen_init pm_Frozen_init cd_Frozen_init ct_Frozen_init : Value} {od_Frozen_init an_Frozen_init : Option Addr} {sl_Frozen_init : Array (Option Value)}
    {g_NoTimetable_init : Addr} {oc_NoTimetable_init kV_NoTimetable_init dc_NoTimetable_init pm_NoTimetable_init cd_NoTimetable_init ct_NoTimetable_init : Value} {od_NoTimetable_init an_NoTimetable_init : Option Addr} {sl_NoTimetable_init : Array (Option Value)}
    {g_TooMany_init : Addr} {oc_TooMany_init kV_TooMany_init dc_TooMany_init pm_TooMany_init cd_TooMany_init ct_TooMany_init : Value} {od_TooMany_init an_TooMany_init : Option Addr} {sl_TooMany_init : Array (Option Value)}
    {g_law_draw : Addr} {oc_law_draw kV_law_draw dc_law_draw pm_law_draw cd_law_draw ct_law_draw : Value} {od_law_draw an_law_draw : Option Addr} {sl_law_draw : Array (Option Value)}
    {g_law_fields : Addr} {oc_law_fields kV_law_fields dc_law_fields pm_law_fields cd_law_fields ct_law_fields : Value} {od_law_fields an_law_fields : Option Addr} {sl_law_fields : Array (Option Value)}
    {g_law_taken : Addr} {oc_law_taken kV_law_taken dc_law_taken pm_law_taken cd_law_taken ct_law_taken : Value} {od_law_taken an_law_taken : Option Addr} {sl_law_taken : Array (Option Value)}
    {g_law_by_name : Addr} {oc_law_by_name kV_law_by_name dc_law_by_name pm_law_by_name cd_law_by_name ct_law_by_name : Value} {od_law_by_name an_law_by_name : Option Addr} {sl_law_by_name : Array (Option Value)}
    {g_law_by_place : Addr} {oc_law_by_place kV_law_by_place dc_law_by_place pm_law_by_place cd_law_by_place ct_law_by_place : Value} {od_law_by_place an_law_by_place : Option Addr} {sl_law_by_place : Array (Option Value)}
    {g_law_right : Addr} {oc_law_right kV_law_right dc_law_right pm_law_right cd_law_right ct_law_right : Value} {od_law_right an_law_right : Option Addr} {sl_law_right : Array (Option Value)}
    {g_law : Addr} {oc_law kV_law dc_law pm_law cd_law ct_law : Value} {od_law an_law : Option Addr} {sl_law : Array (Option Value)}
    {nm_NoBook q_NoBook : Str} {N_NoBook : Addr} {bs_NoBook bm_NoBook : List Value} {sn_NoBook : List Str} {sub_NoBook : List Value} {ab_NoBook : Bool} {col_NoBook : Option Bool} {dd_NoBook : Option Addr} {m0_NoBook m1_NoBook m2_NoBook m3_NoBook m5_NoBook : Option Value}
    {nm_NoTimetable q_NoTimetable : Str} {N_NoTimetable : Addr} {bs_NoTimetable bm_NoTimetable : List Value} {sn_NoTimetable : List Str} {sub_NoTimetable : List Value} {ab_NoTimetable : Bool} {col_NoTimetable : Option Bool} {dd_NoTimetable : Option Addr} {m0_NoTimetable m1_NoTimetable m2_NoTimetable m3_NoTimetable m5_NoTimetable : Option Value}
    {nm_NoMove q_NoMove : Str} {N_NoMove : Addr} {bs_NoMove bm_NoMove : List Value} {sn_NoMove : List Str} {sub_NoMove : List Value} {ab_NoMove : Bool} {col_NoMove : Option Bool} {dd_NoMove : Option Addr} {m0_NoMove m1_NoMove m2_NoMove m3_NoMove m5_NoMove : Option Value}
    {nm_NoSlot q_NoSlot : Str} {N_NoSlot : Addr} {bs_NoSlot bm_NoSlot : List Value} {sn_NoSlot : List Str} {sub_NoSlot : List Value} {ab_NoSlot : Bool} {col_NoSlot : Option Bool} {dd_NoSlot : Option Addr} {m0_NoSlot m1_NoSlot m2_NoSlot m3_NoSlot m5_NoSlot : Option Value}
    {nm_NoAppointment q_NoAppointment : Str} {N_NoAppointment : Addr} {bs_NoAppointment bm_NoAppointment : List Value} {sn_NoAppointment : List Str} {sub_NoAppointment : List Value} {ab_NoAppointment : Bool} {col_NoAppointment : Option Bool} {dd_NoAppointment : Option Addr} {m0_NoAppointment m1_NoAppointment m2_NoAppointment m3_NoAppointment m5_NoAppointment : Option Value}
    {nm_Frozen q_Frozen : Str} {N_Frozen : Addr} {bs_Frozen bm_Frozen : List Value} {sn_Frozen : List Str} {sub_Frozen : List Value} {ab_Frozen : Bool} {col_Frozen : Option Bool} {dd_Frozen : Option Addr} {m0_Frozen m1_Frozen m2_Frozen m3_Frozen m5_Frozen : Option Value}
    {nm_NoCertificate q_NoCertificate : Str} {N_NoCertificate : Addr} {bs_NoCertificate bm_NoCertificate : List Value} {sn_NoCertificate : List Str} {sub_NoCertificate : List Value} {ab_NoCertificate : Bool} {col_NoCertificate : Option Bool} {dd_NoCertificate : Option Addr} {m0_NoCertificate m1_NoCertificate m2_NoCertificate m3_NoCertificate m5_NoCertificate : Option Value}
    {nm_TooMany q_TooMany : Str} {N_TooMany : Addr} {bs_TooMany bm_TooMany : List Value} {sn_TooMany : List Str} {sub_TooMany : List Value} {ab_TooMany : Bool} {col_TooMany : Option Bool} {dd_TooMany : Option Addr} {m0_TooMany m1_TooMany m2_TooMany m3_TooMany m5_TooMany : Option Value}
    {nm_NotAllowed q_NotAllowed : Str} {N_NotAllowed : Addr} {bs_NotAllowed bm_NotAllowed : List Value} {sn_NotAllowed : List Str} {sub_NotAllowed : List Value} {ab_NotAllowed : Bool} {col_NotAllowed : Option Bool} {dd_NotAllowed : Option Addr} {m0_NotAllowed m1_NotAllowed m2_NotAllowed m3_NotAllowed m5_NotAllowed : Option Value}
    {nm_NoWish q_NoWish : Str} {N_NoWish : Addr} {bs_NoWish bm_NoWish : List Value} {sn_NoWish : List Str} {sub_NoWish : List Value} {ab_NoWish : Bool} {col_NoWish : Option Bool} {dd_NoWish : Option Addr} {m0_NoWish m1_NoWish m2_NoWish m3_NoWish m5_NoWish : Option Value}
    {nm_NoCosts q_NoCosts : Str} {N_NoCosts : Addr} {bs_NoCosts bm_NoCosts : List Value} {sn_NoCosts : List Str} {sub_NoCosts : List Value} {ab_NoCosts : Bool} {col_NoCosts : Option Bool} {dd_NoCosts : Option Addr} {m0_NoCosts m1_NoCosts m2_NoCosts m3_NoCosts m5_NoCosts : Option Value}
    (n_SlotError : PySem.W.nsIn K mainGlobals "SlotError" = some (some (.ref C_SlotError)))
    (n_NoBook : PySem.W.nsIn K mainGlobals "NoBook" = some (some (.ref C_NoBook)))
    (n_NoTimetable : PySem.W.nsIn K mainGlobals "NoTimetable" = some (some (.ref C_NoTimetable)))
    (n_NoMove : PySem.W.nsIn K mainGlobals "NoMove" = some (some (.ref C_NoMove)))
    (n_NoSlot : PySem.W.nsIn K mainGlobals "NoSlot" = some (some (.ref C_NoSlot)))
    (n_NoAppointment : PySem.W.nsIn K mainGlobals "NoAppointment" = some (some (.ref C_NoAppointment)))
    (n_Frozen : PySem.W.nsIn K mainGlobals "Frozen" = some (some (.ref C_Frozen)))
    (n_NoCertificate : PySem.W.nsIn K mainGlobals "NoCertificate" = some (some (.ref C_NoCertificate)))
    (n_TooMany : PySem.W.nsIn K mainGlobals "TooMany" = some (some (.ref C_TooMany)))
    (n_NotAllowed : PySem.W.nsIn K mainGlobals "NotAllowed" = some (some (.ref C_NotAllowed)))
    (n_NoWish : PySem.W.nsIn K mainGlobals "NoWish" = some (some (.ref C_NoWish)))
    (n_NoCosts : PySem.W.nsIn K mainGlobals "NoCosts" = some (some (.ref C_NoCosts)))
    (a_NoMove_init : PySem.W.findIn K (.ref C_NoMove) "__init__" = some (some (.ref g_NoMove_init)))
    (t_NoMove_init : PySem.W.typeIn K (.ref g_NoMove_init) = some (.type "function"))
    (l_NoMove_init : K.lookup g_NoMove_init = some ⟨oc_NoMove_init, od_NoMove_init, .func (PySem.W.fnOf "__init__" "NoMove.__init__" (defArgs st_NoMove_init) (defBody st_NoMove_init) (defScope st_NoMove_init) .none kV_NoMove_init dc_NoMove_init pm_NoMove_init an_NoMove_init cd_NoMove_init ct_NoMove_init), sl_NoMove_init⟩)
    (c_NoMove_init : PySem.W.codeIn K cd_NoMove_init "NoMove.__init__" = true)
    (k_NoMove_init : PySem.W.keepIn K (.ref g_NoMove_init) = true)
    (a_NoAppointment_init : PySem.W.findIn K (.ref C_NoAppointment) "__init__" = some (some (.ref g_NoAppointment_init)))
    (t_NoAppointment_init : PySem.W.typeIn K (.ref g_NoAppointment_init) = some (.type "function"))
    (l_NoAppointment_init : K.lookup g_NoAppointment_init = some ⟨oc_NoAppointment_init, od_NoAppointment_init, .func (PySem.W.fnOf "__init__" "NoAppointment.__init__" (defArgs st_NoAppointment_init) (defBody st_NoAppointment_init) (defScope st_NoAppointment_init) .none kV_NoAppointment_init dc_NoAppointment_init pm_NoAppointment_init an_NoAppointment_init cd_NoAppointment_init ct_NoAppointment_init), sl_NoAppointment_init⟩)
    (c_NoAppointment_init : PySem.W.codeIn K cd_NoAppointment_init "NoAppointment.__init__" = true)
    (k_NoAppointment_init : PySem.W.keepIn K (.ref g_NoAppointment_init) = true)
    (a_NoWish_init : PySem.W.findIn K (.ref C_NoWish) "__init__" = some (some (.ref g_NoWish_init)))
    (t_NoWish_init : PySem.W.typeIn K (.ref g_NoWish_init) = some (.type "function"))
    (l_NoWish_init : K.lookup g_NoWish_init = some ⟨oc_NoWish_init, od_NoWish_init, .func (PySem.W.fnOf "__init__" "NoWish.__init__" (defArgs st_NoWish_init) (defBody st_NoWish_init) (defScope st_NoWish_init) .none kV_NoWish_init dc_NoWish_init pm_NoWish_init an_NoWish_init cd_NoWish_init ct_NoWish_init), sl_NoWish_init⟩)
    (c_NoWish_init : PySem.W.codeIn K cd_NoWish_init "NoWish.__init__" = true)
    (k_NoWish_init : PySem.W.keepIn K (.ref g_NoWish_init) = true)
    (a_NoSlot_init : PySem.W.findIn K (.ref C_NoSlot) "__init__" = some (some (.ref g_NoSlot_init)))
    (t_NoSlot_init : PySem.W.typeIn K (.ref g_NoSlot_init) = some (.type "function"))
    (l_NoSlot_init : K.lookup g_NoSlot_init = some ⟨oc_NoSlot_init, od_NoSlot_init, .func (PySem.W.fnOf "__init__" "NoSlot.__init__" (defArgs st_NoSlot_init) (defBody st_NoSlot_init) (defScope st_NoSlot_init) .none kV_NoSlot_init dc_NoSlot_init pm_NoSlot_init an_NoSlot_init cd_NoSlot_init ct_NoSlot_init), sl_NoSlot_init⟩)
    (c_NoSlot_init : PySem.W.codeIn K cd_NoSlot_init "NoSlot.__init__" = true)
    (k_NoSlot_init : PySem.W.keepIn K (.ref g_NoSlot_init) = true)
    (a_NoCertificate_init : PySem.W.findIn K (.ref C_NoCertificate) "__init__" = some (some (.ref g_NoCertificate_init)))
    (t_NoCertificate_init : PySem.W.typeIn K (.ref g_NoCertificate_init) = some (.type "function"))
    (l_NoCertificate_init : K.lookup g_NoCertificate_init = some ⟨oc_NoCertificate_init, od_NoCertificate_init, .func (PySem.W.fnOf "__init__" "NoCertificate.__init__" (defArgs st_NoCertificate_init) (defBody st_NoCertificate_init) (defScope st_NoCertificate_init) .none kV_NoCertificate_init dc_NoCertificate_init pm_NoCertificate_init an_NoCertificate_init cd_NoCertificate_init ct_NoCertificate_init), sl_NoCertificate_init⟩)
    (c_NoCertificate_init : PySem.W.codeIn K cd_NoCertificate_init "NoCertificate.__init__" = true)
    (k_NoCertificate_init : PySem.W.keepIn K (.ref g_NoCertificate_init) = true)
    (a_NoCosts_init : PySem.W.findIn K (.ref C_NoCosts) "__init__" = some (some (.ref g_NoCosts_init)))
    (t_NoCosts_init : PySem.W.typeIn K (.ref g_NoCosts_init) = some (.type "function"))
    (l_NoCosts_init : K.lookup g_NoCosts_init = some ⟨oc_NoCosts_init, od_NoCosts_init, .func (PySem.W.fnOf "__init__" "NoCosts.__init__" (defArgs st_NoCosts_init) (defBody st_NoCosts_init) (defScope st_NoCosts_init) .none kV_NoCosts_init dc_NoCosts_init pm_NoCosts_init an_NoCosts_init cd_NoCosts_init ct_NoCosts_init), sl_NoCosts_init⟩)
    (c_NoCosts_init : PySem.W.codeIn K cd_NoCosts_init "NoCosts.__init__" = true)
    (k_NoCosts_init : PySem.W.keepIn K (.ref g_NoCosts_init) = true)
    (a_NoBook_init : PySem.W.findIn K (.ref C_NoBook) "__init__" = some (some (.ref g_NoBook_init)))
    (t_NoBook_init : PySem.W.typeIn K (.ref g_NoBook_init) = some (.type "function"))
    (l_NoBook_init : K.lookup g_NoBook_init = some ⟨oc_NoBook_init, od_NoBook_init, .func (PySem.W.fnOf "__init__" "NoBook.__init__" (defArgs st_NoBook_init) (defBody st_NoBook_init) (defScope st_NoBook_init) .none kV_NoBook_init dc_NoBook_init pm_NoBook_init an_NoBook_init cd_NoBook_init ct_NoBook_init), sl_NoBook_init⟩)
    (c_NoBook_init : PySem.W.codeIn K cd_NoBook_init "NoBook.__init__" = true)
    (k_NoBook_init : PySem.W.keepIn K (.ref g_NoBook_init) = true)
    (a_NotAllowed_init : PySem.W.findIn K (.ref C_NotAllowed) "__init__" = some (some (.ref g_NotAllowed_init)))
    (t_NotAllowed_init : PySem.W.typeIn K (.ref g_NotAllowed_init) = some (.type "function"))
    (l_NotAllowed_init : K.lookup g_NotAllowed_init = some ⟨oc_NotAllowed_init, od_NotAllowed_init, .func (PySem.W.fnOf "__init__" "NotAllowed.__init__" (defArgs st_NotAllowed_init) (defBody st_NotAllowed_init) (defScope st_NotAllowed_init) .none kV_NotAllowed_init dc_NotAllowed_init pm_NotAllowed_init an_NotAllowed_init cd_NotAllowed_init ct_NotAllowed_init), sl_NotAllowed_init⟩)
    (c_NotAllowed_init : PySem.W.codeIn K cd_NotAllowed_init "NotAllowed.__init__" = true)
    (k_NotAllowed_init : PySem.W.keepIn K (.ref g_NotAllowed_init) = true)
    (a_Frozen_init : PySem.W.findIn K (.ref C_Frozen) "__init__" = some (some (.ref g_Frozen_init)))
    (t_Frozen_init : PySem.W.typeIn K (.ref g_Frozen_init) = some (.type "function"))
    (l_Frozen_init : K.lookup g_Frozen_init = some ⟨oc_Frozen_init, od_Frozen_init, .func (PySem.W.fnOf "__init__" "Frozen.__init__" (defArgs st_Frozen_init) (defBody st_Frozen_init) (defScope st_Frozen_init) .none kV_Frozen_init dc_Frozen_init pm_Frozen_init an_Frozen_init cd_Frozen_init ct_Frozen_init), sl_Frozen_init⟩)
    (c_Frozen_init : PySem.W.codeIn K cd_Frozen_init "Frozen.__init__" = true)
    (k_Frozen_init : PySem.W.keepIn K (.ref g_Frozen_init) = true)
    (a_NoTimetable_init : PySem.W.findIn K (.ref C_NoTimetable) "__init__" = some (some (.ref g_NoTimetable_init)))
    (t_NoTimetable_init : PySem.W.typeIn K (.ref g_NoTimetable_init) = some (.type "function"))
    (l_NoTimetable_init : K.lookup g_NoTimetable_init = some ⟨oc_NoTimetable_init, od_NoTimetable_init, .func (PySem.W.fnOf "__init__" "NoTimetable.__init__" (defArgs st_NoTimetable_init) (defBody st_NoTimetable_init) (defScope st_NoTimetable_init) .none kV_NoTimetable_init dc_NoTimetable_init pm_NoTimetable_init an_NoTimetable_init cd_NoTimetable_init ct_NoTimetable_init), sl_NoTimetable_init⟩)
    (c_NoTimetable_init : PySem.W.codeIn K cd_NoTimetable_init "NoTimetable.__init__" = true)
    (k_NoTimetable_init : PySem.W.keepIn K (.ref g_NoTimetable_init) = true)
    (a_TooMany_init : PySem.W.findIn K (.ref C_TooMany) "__init__" = some (some (.ref g_TooMany_init)))
    (t_TooMany_init : PySem.W.typeIn K (.ref g_TooMany_init) = some (.type "function"))
    (l_TooMany_init : K.lookup g_TooMany_init = some ⟨oc_TooMany_init, od_TooMany_init, .func (PySem.W.fnOf "__init__" "TooMany.__init__" (defArgs st_TooMany_init) (defBody st_TooMany_init) (defScope st_TooMany_init) .none kV_TooMany_init dc_TooMany_init pm_TooMany_init an_TooMany_init cd_TooMany_init ct_TooMany_init), sl_TooMany_init⟩)
    (c_TooMany_init : PySem.W.codeIn K cd_TooMany_init "TooMany.__init__" = true)
    (k_TooMany_init : PySem.W.keepIn K (.ref g_TooMany_init) = true)
    (a_law_draw : PySem.W.nsIn K mainGlobals "_law_draw" = some (some (.ref g_law_draw)))
    (l_law_draw : K.lookup g_law_draw = some ⟨oc_law_draw, od_law_draw, .func (PySem.W.fnOf "_law_draw" "_law_draw" (defArgs st_law_draw) (defBody st_law_draw) (defScope st_law_draw) .none kV_law_draw dc_law_draw pm_law_draw an_law_draw cd_law_draw ct_law_draw), sl_law_draw⟩)
    (c_law_draw : PySem.W.codeIn K cd_law_draw "_law_draw" = true)
    (k_law_draw : PySem.W.keepIn K (.ref g_law_draw) = true)
    (a_law_fields : PySem.W.nsIn K mainGlobals "_law_fields" = some (some (.ref g_law_fields)))
    (l_law_fields : K.lookup g_law_fields = some ⟨oc_law_fields, od_law_fields, .func (PySem.W.fnOf "_law_fields" "_law_fields" (defArgs st_law_fields) (defBody st_law_fields) (defScope st_law_fields) .none kV_law_fields dc_law_fields pm_law_fields an_law_fields cd_law_fields ct_law_fields), sl_law_fields⟩)
    (c_law_fields : PySem.W.codeIn K cd_law_fields "_law_fields" = true)
    (k_law_fields : PySem.W.keepIn K (.ref g_law_fields) = true)
    (a_law_taken : PySem.W.nsIn K mainGlobals "_law_taken" = some (some (.ref g_law_taken)))
    (l_law_taken : K.lookup g_law_taken = some ⟨oc_law_taken, od_law_taken, .func (PySem.W.fnOf "_law_taken" "_law_taken" (defArgs st_law_taken) (defBody st_law_taken) (defScope st_law_taken) .none kV_law_taken dc_law_taken pm_law_taken an_law_taken cd_law_taken ct_law_taken), sl_law_taken⟩)
    (c_law_taken : PySem.W.codeIn K cd_law_taken "_law_taken" = true)
    (k_law_taken : PySem.W.keepIn K (.ref g_law_taken) = true)
    (a_law_by_name : PySem.W.nsIn K mainGlobals "_law_by_name" = some (some (.ref g_law_by_name)))
    (l_law_by_name : K.lookup g_law_by_name = some ⟨oc_law_by_name, od_law_by_name, .func (PySem.W.fnOf "_law_by_name" "_law_by_name" (defArgs st_law_by_name) (defBody st_law_by_name) (defScope st_law_by_name) .none kV_law_by_name dc_law_by_name pm_law_by_name an_law_by_name cd_law_by_name ct_law_by_name), sl_law_by_name⟩)
    (c_law_by_name : PySem.W.codeIn K cd_law_by_name "_law_by_name" = true)
    (k_law_by_name : PySem.W.keepIn K (.ref g_law_by_name) = true)
    (a_law_by_place : PySem.W.nsIn K mainGlobals "_law_by_place" = some (some (.ref g_law_by_place)))
    (l_law_by_place : K.lookup g_law_by_place = some ⟨oc_law_by_place, od_law_by_place, .func (PySem.W.fnOf "_law_by_place" "_law_by_place" (defArgs st_law_by_place) (defBody st_law_by_place) (defScope st_law_by_place) .none kV_law_by_place dc_law_by_place pm_law_by_place an_law_by_place cd_law_by_place ct_law_by_place), sl_law_by_place⟩)
    (c_law_by_place : PySem.W.codeIn K cd_law_by_place "_law_by_place" = true)
    (k_law_by_place : PySem.W.keepIn K (.ref g_law_by_place) = true)
    (a_law_right : PySem.W.nsIn K mainGlobals "_law_right" = some (some (.ref g_law_right)))
    (l_law_right : K.lookup g_law_right = some ⟨oc_law_right, od_law_right, .func (PySem.W.fnOf "_law_right" "_law_right" (defArgs st_law_right) (defBody st_law_right) (defScope st_law_right) .none kV_law_right dc_law_right pm_law_right an_law_right cd_law_right ct_law_right), sl_law_right⟩)
    (c_law_right : PySem.W.codeIn K cd_law_right "_law_right" = true)
    (k_law_right : PySem.W.keepIn K (.ref g_law_right) = true)
    (a_law : PySem.W.nsIn K mainGlobals "law" = some (some (.ref g_law)))
    (l_law : K.lookup g_law = some ⟨oc_law, od_law, .func (PySem.W.fnOf "law" "law" (defArgs st_law) (defBody st_law) (defScope st_law) .none kV_law dc_law pm_law an_law cd_law ct_law), sl_law⟩)
    (c_law : PySem.W.codeIn K cd_law "law" = true)
    (k_law : PySem.W.keepIn K (.ref g_law) = true)
    (x_NoBook : K.lookup C_NoBook = some (excClassObj nm_NoBook q_NoBook C_NoBook N_NoBook bs_NoBook bm_NoBook true sn_NoBook sub_NoBook ab_NoBook col_NoBook dd_NoBook m0_NoBook m1_NoBook m2_NoBook m3_NoBook m5_NoBook "ValueError.__new__"))
    (rv_NoBook : PySem.HandSPX.refsVE bm_NoBook = true)
    (sa_NoBook : PySem.W.findIn K (.ref C_NoBook) "__setattr__" = some (some (.builtin "object.__setattr__")))
    (ex_NoBook : PySem.W.subIn K (.ref C_NoBook) (.type "BaseException") = some true)
    (ty_NoBook : PySem.W.typeIn K (.ref C_NoBook) = some (.type "type"))
    (kc_NoBook : PySem.W.keepIn K (.ref C_NoBook) = true)
    (nf_NoBook : PySem.W.findIn K (.ref C_NoBook) "index" = some none)
    (ga_NoBook : PySem.W.findIn K (.ref C_NoBook) "__getattribute__" = some (some (.builtin "BaseException.__getattribute__")))
    (gg_NoBook : PySem.W.findIn K (.ref C_NoBook) "__getattr__" = some none)
    (hd_NoBook : PySem.W.hasDictIn K C_NoBook = true)
    (em_NoBook : PySem.W.exmOne K (.ref C_NoBook) (.ref C_NoBook) = some true)
    (x_NoTimetable : K.lookup C_NoTimetable = some (excClassObj nm_NoTimetable q_NoTimetable C_NoTimetable N_NoTimetable bs_NoTimetable bm_NoTimetable true sn_NoTimetable sub_NoTimetable ab_NoTimetable col_NoTimetable dd_NoTimetable m0_NoTimetable m1_NoTimetable m2_NoTimetable m3_NoTimetable m5_NoTimetable "ValueError.__new__"))
    (rv_NoTimetable : PySem.HandSPX.refsVE bm_NoTimetable = true)
    (sa_NoTimetable : PySem.W.findIn K (.ref C_NoTimetable) "__setattr__" = some (some (.builtin "object.__setattr__")))
    (ex_NoTimetable : PySem.W.subIn K (.ref C_NoTimetable) (.type "BaseException") = some true)
    (ty_NoTimetable : PySem.W.typeIn K (.ref C_NoTimetable) = some (.type "type"))
    (kc_NoTimetable : PySem.W.keepIn K (.ref C_NoTimetable) = true)
    (nf_NoTimetable : PySem.W.findIn K (.ref C_NoTimetable) "index" = some none)
    (ga_NoTimetable : PySem.W.findIn K (.ref C_NoTimetable) "__getattribute__" = some (some (.builtin "BaseException.__getattribute__")))
    (gg_NoTimetable : PySem.W.findIn K (.ref C_NoTimetable) "__getattr__" = some none)
    (hd_NoTimetable : PySem.W.hasDictIn K C_NoTimetable = true)
    (em_NoTimetable : PySem.W.exmOne K (.ref C_NoTimetable) (.ref C_NoTimetable) = some true)
    (x_NoMove : K.lookup C_NoMove = some (excClassObj nm_NoMove q_NoMove C_NoMove N_NoMove bs_NoMove bm_NoMove true sn_NoMove sub_NoMove ab_NoMove col_NoMove dd_NoMove m0_NoMove m1_NoMove m2_NoMove m3_NoMove m5_NoMove "ValueError.__new__"))
    (rv_NoMove : PySem.HandSPX.refsVE bm_NoMove = true)
    (sa_NoMove : PySem.W.findIn K (.ref C_NoMove) "__setattr__" = some (some (.builtin "object.__setattr__")))
    (ex_NoMove : PySem.W.subIn K (.ref C_NoMove) (.type "BaseException") = some true)
    (ty_NoMove : PySem.W.typeIn K (.ref C_NoMove) = some (.type "type"))
    (kc_NoMove : PySem.W.keepIn K (.ref C_NoMove) = true)
    (nf_NoMove : PySem.W.findIn K (.ref C_NoMove) "index" = some none)
    (ga_NoMove : PySem.W.findIn K (.ref C_NoMove) "__getattribute__" = some (some (.builtin "BaseException.__getattribute__")))
    (gg_NoMove : PySem.W.findIn K (.ref C_NoMove) "__getattr__" = some none)
    (hd_NoMove : PySem.W.hasDictIn K C_NoMove = true)
    (em_NoMove : PySem.W.exmOne K (.ref C_NoMove) (.ref C_NoMove) = some true)
    (x_NoSlot : K.lookup C_NoSlot = some (excClassObj nm_NoSlot q_NoSlot C_NoSlot N_NoSlot bs_NoSlot bm_NoSlot true sn_NoSlot sub_NoSlot ab_NoSlot col_NoSlot dd_NoSlot m0_NoSlot m1_NoSlot m2_NoSlot m3_NoSlot m5_NoSlot "ValueError.__new__"))
    (rv_NoSlot : PySem.HandSPX.refsVE bm_NoSlot = true)
    (sa_NoSlot : PySem.W.findIn K (.ref C_NoSlot) "__setattr__" = some (some (.builtin "object.__setattr__")))
    (ex_NoSlot : PySem.W.subIn K (.ref C_NoSlot) (.type "BaseException") = some true)
    (ty_NoSlot : PySem.W.typeIn K (.ref C_NoSlot) = some (.type "type"))
    (kc_NoSlot : PySem.W.keepIn K (.ref C_NoSlot) = true)
    (nf_NoSlot : PySem.W.findIn K (.ref C_NoSlot) "slot" = some none)
    (ga_NoSlot : PySem.W.findIn K (.ref C_NoSlot) "__getattribute__" = some (some (.builtin "BaseException.__getattribute__")))
    (gg_NoSlot : PySem.W.findIn K (.ref C_NoSlot) "__getattr__" = some none)
    (hd_NoSlot : PySem.W.hasDictIn K C_NoSlot = true)
    (em_NoSlot : PySem.W.exmOne K (.ref C_NoSlot) (.ref C_NoSlot) = some true)
    (x_NoAppointment : K.lookup C_NoAppointment = some (excClassObj nm_NoAppointment q_NoAppointment C_NoAppointment N_NoAppointment bs_NoAppointment bm_NoAppointment true sn_NoAppointment sub_NoAppointment ab_NoAppointment col_NoAppointment dd_NoAppointment m0_NoAppointment m1_NoAppointment m2_NoAppointment m3_NoAppointment m5_NoAppointment "ValueError.__new__"))
    (rv_NoAppointment : PySem.HandSPX.refsVE bm_NoAppointment = true)
    (sa_NoAppointment : PySem.W.findIn K (.ref C_NoAppointment) "__setattr__" = some (some (.builtin "object.__setattr__")))
    (ex_NoAppointment : PySem.W.subIn K (.ref C_NoAppointment) (.type "BaseException") = some true)
    (ty_NoAppointment : PySem.W.typeIn K (.ref C_NoAppointment) = some (.type "type"))
    (kc_NoAppointment : PySem.W.keepIn K (.ref C_NoAppointment) = true)
    (nf_NoAppointment : PySem.W.findIn K (.ref C_NoAppointment) "appointment" = some none)
    (ga_NoAppointment : PySem.W.findIn K (.ref C_NoAppointment) "__getattribute__" = some (some (.builtin "BaseException.__getattribute__")))
    (gg_NoAppointment : PySem.W.findIn K (.ref C_NoAppointment) "__getattr__" = some none)
    (hd_NoAppointment : PySem.W.hasDictIn K C_NoAppointment = true)
    (em_NoAppointment : PySem.W.exmOne K (.ref C_NoAppointment) (.ref C_NoAppointment) = some true)
    (x_Frozen : K.lookup C_Frozen = some (excClassObj nm_Frozen q_Frozen C_Frozen N_Frozen bs_Frozen bm_Frozen true sn_Frozen sub_Frozen ab_Frozen col_Frozen dd_Frozen m0_Frozen m1_Frozen m2_Frozen m3_Frozen m5_Frozen "ValueError.__new__"))
    (rv_Frozen : PySem.HandSPX.refsVE bm_Frozen = true)
    (sa_Frozen : PySem.W.findIn K (.ref C_Frozen) "__setattr__" = some (some (.builtin "object.__setattr__")))
    (ex_Frozen : PySem.W.subIn K (.ref C_Frozen) (.type "BaseException") = some true)
    (ty_Frozen : PySem.W.typeIn K (.ref C_Frozen) = some (.type "type"))
    (kc_Frozen : PySem.W.keepIn K (.ref C_Frozen) = true)
    (nf_Frozen : PySem.W.findIn K (.ref C_Frozen) "slots" = some none)
    (ga_Frozen : PySem.W.findIn K (.ref C_Frozen) "__getattribute__" = some (some (.builtin "BaseException.__getattribute__")))
    (gg_Frozen : PySem.W.findIn K (.ref C_Frozen) "__getattr__" = some none)
    (hd_Frozen : PySem.W.hasDictIn K C_Frozen = true)
    (em_Frozen : PySem.W.exmOne K (.ref C_Frozen) (.ref C_Frozen) = some true)
    (x_NoCertificate : K.lookup C_NoCertificate = some (excClassObj nm_NoCertificate q_NoCertificate C_NoCertificate N_NoCertificate bs_NoCertificate bm_NoCertificate true sn_NoCertificate sub_NoCertificate ab_NoCertificate col_NoCertificate dd_NoCertificate m0_NoCertificate m1_NoCertificate m2_NoCertificate m3_NoCertificate m5_NoCertificate "ValueError.__new__"))
    (rv_NoCertificate : PySem.HandSPX.refsVE bm_NoCertificate = true)
    (sa_NoCertificate : PySem.W.findIn K (.ref C_NoCertificate) "__setattr__" = some (some (.builtin "object.__setattr__")))
    (ex_NoCertificate : PySem.W.subIn K (.ref C_NoCertificate) (.type "BaseException") = some true)
    (ty_NoCertificate : PySem.W.typeIn K (.ref C_NoCertificate) = some (.type "type"))
    (kc_NoCertificate : PySem.W.keepIn K (.ref C_NoCertificate) = true)
    (nf_NoCertificate : PySem.W.findIn K (.ref C_NoCertificate) "index" = some none)
    (ga_NoCertificate : PySem.W.findIn K (.ref C_NoCertificate) "__getattribute__" = some (some (.builtin "BaseException.__getattribute__")))
    (gg_NoCertificate : PySem.W.findIn K (.ref C_NoCertificate) "__getattr__" = some none)
    (hd_NoCertificate : PySem.W.hasDictIn K C_NoCertificate = true)
    (em_NoCertificate : PySem.W.exmOne K (.ref C_NoCertificate) (.ref C_NoCertificate) = some true)
    (x_TooMany : K.lookup C_TooMany = some (excClassObj nm_TooMany q_TooMany C_TooMany N_TooMany bs_TooMany bm_TooMany true sn_TooMany sub_TooMany ab_TooMany col_TooMany dd_TooMany m0_TooMany m1_TooMany m2_TooMany m3_TooMany m5_TooMany "ValueError.__new__"))
    (rv_TooMany : PySem.HandSPX.refsVE bm_TooMany = true)
    (sa_TooMany : PySem.W.findIn K (.ref C_TooMany) "__setattr__" = some (some (.builtin "object.__setattr__")))
    (ex_TooMany : PySem.W.subIn K (.ref C_TooMany) (.type "BaseException") = some true)
    (ty_TooMany : PySem.W.typeIn K (.ref C_TooMany) = some (.type "type"))
    (kc_TooMany : PySem.W.keepIn K (.ref C_TooMany) = true)
    (nf_TooMany : PySem.W.findIn K (.ref C_TooMany) "most" = some none)
    (ga_TooMany : PySem.W.findIn K (.ref C_TooMany) "__getattribute__" = some (some (.builtin "BaseException.__getattribute__")))
    (gg_TooMany : PySem.W.findIn K (.ref C_TooMany) "__getattr__" = some none)
    (hd_TooMany : PySem.W.hasDictIn K C_TooMany = true)
    (em_TooMany : PySem.W.exmOne K (.ref C_TooMany) (.ref C_TooMany) = some true)
    (x_NotAllowed : K.lookup C_NotAllowed = some (excClassObj nm_NotAllowed q_NotAllowed C_NotAllowed N_NotAllowed bs_NotAllowed bm_NotAllowed true sn_NotAllowed sub_NotAllowed ab_NotAllowed col_NotAllowed dd_NotAllowed m0_NotAllowed m1_NotAllowed m2_NotAllowed m3_NotAllowed m5_NotAllowed "ValueError.__new__"))
    (rv_NotAllowed : PySem.HandSPX.refsVE bm_NotAllowed = true)
    (sa_NotAllowed : PySem.W.findIn K (.ref C_NotAllowed) "__setattr__" = some (some (.builtin "object.__setattr__")))
    (ex_NotAllowed : PySem.W.subIn K (.ref C_NotAllowed) (.type "BaseException") = some true)
    (ty_NotAllowed : PySem.W.typeIn K (.ref C_NotAllowed) = some (.type "type"))
    (kc_NotAllowed : PySem.W.keepIn K (.ref C_NotAllowed) = true)
    (nf_NotAllowed : PySem.W.findIn K (.ref C_NotAllowed) "slot" = some none)
    (ga_NotAllowed : PySem.W.findIn K (.ref C_NotAllowed) "__getattribute__" = some (some (.builtin "BaseException.__getattribute__")))
    (gg_NotAllowed : PySem.W.findIn K (.ref C_NotAllowed) "__getattr__" = some none)
    (hd_NotAllowed : PySem.W.hasDictIn K C_NotAllowed = true)
    (em_NotAllowed : PySem.W.exmOne K (.ref C_NotAllowed) (.ref C_NotAllowed) = some true)
    (x_NoWish : K.lookup C_NoWish = some (excClassObj nm_NoWish q_NoWish C_NoWish N_NoWish bs_NoWish bm_NoWish true sn_NoWish sub_NoWish ab_NoWish col_NoWish dd_NoWish m0_NoWish m1_NoWish m2_NoWish m3_NoWish m5_NoWish "ValueError.__new__"))
    (rv_NoWish : PySem.HandSPX.refsVE bm_NoWish = true)
    (sa_NoWish : PySem.W.findIn K (.ref C_NoWish) "__setattr__" = some (some (.builtin "object.__setattr__")))
    (ex_NoWish : PySem.W.subIn K (.ref C_NoWish) (.type "BaseException") = some true)
    (ty_NoWish : PySem.W.typeIn K (.ref C_NoWish) = some (.type "type"))
    (kc_NoWish : PySem.W.keepIn K (.ref C_NoWish) = true)
    (nf_NoWish : PySem.W.findIn K (.ref C_NoWish) "key" = some none)
    (ga_NoWish : PySem.W.findIn K (.ref C_NoWish) "__getattribute__" = some (some (.builtin "BaseException.__getattribute__")))
    (gg_NoWish : PySem.W.findIn K (.ref C_NoWish) "__getattr__" = some none)
    (hd_NoWish : PySem.W.hasDictIn K C_NoWish = true)
    (em_NoWish : PySem.W.exmOne K (.ref C_NoWish) (.ref C_NoWish) = some true)
    (x_NoCosts : K.lookup C_NoCosts = some (excClassObj nm_NoCosts q_NoCosts C_NoCosts N_NoCosts bs_NoCosts bm_NoCosts true sn_NoCosts sub_NoCosts ab_NoCosts col_NoCosts dd_NoCosts m0_NoCosts m1_NoCosts m2_NoCosts m3_NoCosts m5_NoCosts "ValueError.__new__"))
    (rv_NoCosts : PySem.HandSPX.refsVE bm_NoCosts = true)
    (sa_NoCosts : PySem.W.findIn K (.ref C_NoCosts) "__setattr__" = some (some (.builtin "object.__setattr__")))
    (ex_NoCosts : PySem.W.subIn K (.ref C_NoCosts) (.type "BaseException") = some true)
    (ty_NoCosts : PySem.W.typeIn K (.ref C_NoCosts) = some (.type "type"))
    (kc_NoCosts : PySem.W.keepIn K (.ref C_NoCosts) = true)
    (nf_NoCosts : PySem.W.findIn K (.ref C_NoCosts) "index" = some none)
    (ga_NoCosts : PySem.W.findIn K (.ref C_NoCosts) "__getattribute__" = some (some (.builtin "BaseException.__getattribute__")))
    (gg_NoCosts : PySem.W.findIn K (.ref C_NoCosts) "__getattr__" = some none)
    (hd_NoCosts : PySem.W.hasDictIn K C_NoCosts = true)
    (em_NoCosts : PySem.W.exmOne K (.ref C_NoCosts) (.ref C_NoCosts) = some true)
    (ca_NoBook : PySem.W.findIn K (.ref C_NoBook) "__class__" = some (some (.builtin "object.__class__")))
    (mo_NoBook : PySem.W.mroIn K C_NoBook (.type "object") = some true)
    (ca_NoTimetable : PySem.W.findIn K (.ref C_NoTimetable) "__class__" = some (some (.builtin "object.__class__")))
    (mo_NoTimetable : PySem.W.mroIn K C_NoTimetable (.type "object") = some true)
    (ca_NoMove : PySem.W.findIn K (.ref C_NoMove) "__class__" = some (some (.builtin "object.__class__")))
    (mo_NoMove : PySem.W.mroIn K C_NoMove (.type "object") = some true)
    (ca_NoSlot : PySem.W.findIn K (.ref C_NoSlot) "__class__" = some (some (.builtin "object.__class__")))
    (mo_NoSlot : PySem.W.mroIn K C_NoSlot (.type "object") = some true)
    (ca_NoAppointment : PySem.W.findIn K (.ref C_NoAppointment) "__class__" = some (some (.builtin "object.__class__")))
    (mo_NoAppointment : PySem.W.mroIn K C_NoAppointment (.type "object") = some true)
    (ca_Frozen : PySem.W.findIn K (.ref C_Frozen) "__class__" = some (some (.builtin "object.__class__")))
    (mo_Frozen : PySem.W.mroIn K C_Frozen (.type "object") = some true)
    (ca_NoCertificate : PySem.W.findIn K (.ref C_NoCertificate) "__class__" = some (some (.builtin "object.__class__")))
    (mo_NoCertificate : PySem.W.mroIn K C_NoCertificate (.type "object") = some true)
    (ca_TooMany : PySem.W.findIn K (.ref C_TooMany) "__class__" = some (some (.builtin "object.__class__")))
    (mo_TooMany : PySem.W.mroIn K C_TooMany (.type "object") = some true)
    (ca_NotAllowed : PySem.W.findIn K (.ref C_NotAllowed) "__class__" = some (some (.builtin "object.__class__")))
    (mo_NotAllowed : PySem.W.mroIn K C_NotAllowed (.type "object") = some true)
    (ca_NoWish : PySem.W.findIn K (.ref C_NoWish) "__class__" = some (some (.builtin "object.__class__")))
    (mo_NoWish : PySem.W.mroIn K C_NoWish (.type "object") = some true)
    (ca_NoCosts : PySem.W.findIn K (.ref C_NoCosts) "__class__" = some (some (.builtin "object.__class__")))
    (mo_NoCosts : PySem.W.mroIn K C_NoCosts (.type "object") = some true)
    (E_cn : PySem.W.specialIn K (.builtin "object.__class__") "__get__" = some (some (.builtin "getset_descriptor.__get__")))
    (E_ct : PySem.W.takesIn K (.builtin "object.__class__") = some true)
    (sm_Frozen : PySem.W.subIn K (.ref C_Frozen) (.ref C_Frozen) = some true)
    (sb_NoBook_Frozen : PySem.W.subIn K (.ref C_NoBook) (.ref C_Frozen) = some false)
    (sb_NoTimetable_Frozen : PySem.W.subIn K (.ref C_NoTimetable) (.ref C_Frozen) = some false)
    (sb_NoMove_Frozen : PySem.W.subIn K (.ref C_NoMove) (.ref C_Frozen) = some false)
    (sb_NoSlot_Frozen : PySem.W.subIn K (.ref C_NoSlot) (.ref C_Frozen) = some false)
    (sb_NoAppointment_Frozen : PySem.W.subIn K (.ref C_NoAppointment) (.ref C_Frozen) = some false)
    (sb_NoCertificate_Frozen : PySem.W.subIn K (.ref C_NoCertificate) (.ref C_Frozen) = some false)
    (sb_TooMany_Frozen : PySem.W.subIn K (.ref C_TooMany) (.ref C_Frozen) = some false)
    (sb_NotAllowed_Frozen : PySem.W.subIn K (.ref C_NotAllowed) (.ref C_Frozen) = some false)
    (sb_NoWish_Frozen : PySem.W.subIn K (.ref C_NoWish) (.ref C_Frozen) = some false)
    (sb_NoCosts_Frozen : PySem.W.subIn K (.ref C_NoCosts) (.ref C_Frozen) = some false)
    (sm_NoAppointment : PySem.W.subIn K (.ref C_NoAppointment) (.ref C_NoAppointment) = some true)
    (sb_NoBook_NoAppointment : PySem.W.subIn K (.ref C_NoBook) (.ref C_NoAppointment) = some false)
    (sb_NoTimetable_NoAppointment : PySem.W.subIn K (.ref C_NoTimetable) (.ref C_NoAppointment) = some false)
    (sb_NoMove_NoAppointment : PySem.W.subIn K (.ref C_NoMove) (.ref C_NoAppointment) = some false)
    (sb_NoSlot_NoAppointment : PySem.W.subIn K (.ref C_NoSlot) (.ref C_NoAppointment) = some false)
    (sb_Frozen_NoAppointment : PySem.W.subIn K (.ref C_Frozen) (.ref C_NoAppointment) = some false)
    (sb_NoCertificate_NoAppointment : PySem.W.subIn K (.ref C_NoCertificate) (.ref C_NoAppointment) = some false)
    (sb_TooMany_NoAppointment : PySem.W.subIn K (.ref C_TooMany) (.ref C_NoAppointment) = some false)
    (sb_NotAllowed_NoAppointment : PySem.W.subIn K (.ref C_NotAllowed) (.ref C_NoAppointment) = some false)
    (sb_NoWish_NoAppointment : PySem.W.subIn K (.ref C_NoWish) (.ref C_NoAppointment) = some false)
    (sb_NoCosts_NoAppointment : PySem.W.subIn K (.ref C_NoCosts) (.ref C_NoAppointment) = some false)
    (sm_NoBook : PySem.W.subIn K (.ref C_NoBook) (.ref C_NoBook) = some true)
    (sb_NoTimetable_NoBook : PySem.W.subIn K (.ref C_NoTimetable) (.ref C_NoBook) = some false)
    (sb_NoMove_NoBook : PySem.W.subIn K (.ref C_NoMove) (.ref C_NoBook) = some false)
    (sb_NoSlot_NoBook : PySem.W.subIn K (.ref C_NoSlot) (.ref C_NoBook) = some false)
    (sb_NoAppointment_NoBook : PySem.W.subIn K (.ref C_NoAppointment) (.ref C_NoBook) = some false)
    (sb_Frozen_NoBook : PySem.W.subIn K (.ref C_Frozen) (.ref C_NoBook) = some false)
    (sb_NoCertificate_NoBook : PySem.W.subIn K (.ref C_NoCertificate) (.ref C_NoBook) = some false)
    (sb_TooMany_NoBook : PySem.W.subIn K (.ref C_TooMany) (.ref C_NoBook) = some false)
    (sb_NotAllowed_NoBook : PySem.W.subIn K (.ref C_NotAllowed) (.ref C_NoBook) = some false)
    (sb_NoWish_NoBook : PySem.W.subIn K (.ref C_NoWish) (.ref C_NoBook) = some false)
    (sb_NoCosts_NoBook : PySem.W.subIn K (.ref C_NoCosts) (.ref C_NoBook) = some false)
    (sm_NoCertificate : PySem.W.subIn K (.ref C_NoCertificate) (.ref C_NoCertificate) = some true)
    (sb_NoBook_NoCertificate : PySem.W.subIn K (.ref C_NoBook) (.ref C_NoCertificate) = some false)
    (sb_NoTimetable_NoCertificate : PySem.W.subIn K (.ref C_NoTimetable) (.ref C_NoCertificate) = some false)
    (sb_NoMove_NoCertificate : PySem.W.subIn K (.ref C_NoMove) (.ref C_NoCertificate) = some false)
    (sb_NoSlot_NoCertificate : PySem.W.subIn K (.ref C_NoSlot) (.ref C_NoCertificate) = some false)
    (sb_NoAppointment_NoCertificate : PySem.W.subIn K (.ref C_NoAppointment) (.ref C_NoCertificate) = some false)
    (sb_Frozen_NoCertificate : PySem.W.subIn K (.ref C_Frozen) (.ref C_NoCertificate) = some false)
    (sb_TooMany_NoCertificate : PySem.W.subIn K (.ref C_TooMany) (.ref C_NoCertificate) = some false)
    (sb_NotAllowed_NoCertificate : PySem.W.subIn K (.ref C_NotAllowed) (.ref C_NoCertificate) = some false)
    (sb_NoWish_NoCertificate : PySem.W.subIn K (.ref C_NoWish) (.ref C_NoCertificate) = some false)
    (sb_NoCosts_NoCertificate : PySem.W.subIn K (.ref C_NoCosts) (.ref C_NoCertificate) = some false)
    (sm_NoCosts : PySem.W.subIn K (.ref C_NoCosts) (.ref C_NoCosts) = some true)
    (sb_NoBook_NoCosts : PySem.W.subIn K (.ref C_NoBook) (.ref C_NoCosts) = some false)
    (sb_NoTimetable_NoCosts : PySem.W.subIn K (.ref C_NoTimetable) (.ref C_NoCosts) = some false)
    (sb_NoMove_NoCosts : PySem.W.subIn K (.ref C_NoMove) (.ref C_NoCosts) = some false)
    (sb_NoSlot_NoCosts : PySem.W.subIn K (.ref C_NoSlot) (.ref C_NoCosts) = some false)
    (sb_NoAppointment_NoCosts : PySem.W.subIn K (.ref C_NoAppointment) (.ref C_NoCosts) = some false)
    (sb_Frozen_NoCosts : PySem.W.subIn K (.ref C_Frozen) (.ref C_NoCosts) = some false)
    (sb_NoCertificate_NoCosts : PySem.W.subIn K (.ref C_NoCertificate) (.ref C_NoCosts) = some false)
    (sb_TooMany_NoCosts : PySem.W.subIn K (.ref C_TooMany) (.ref C_NoCosts) = some false)
    (sb_NotAllowed_NoCosts : PySem.W.subIn K (.ref C_NotAllowed) (.ref C_NoCosts) = some false)
    (sb_NoWish_NoCosts : PySem.W.subIn K (.ref C_NoWish) (.ref C_NoCosts) = some false)
    (sm_NoMove : PySem.W.subIn K (.ref C_NoMove) (.ref C_NoMove) = some true)
    (sb_NoBook_NoMove : PySem.W.subIn K (.ref C_NoBook) (.ref C_NoMove) = some false)
    (sb_NoTimetable_NoMove : PySem.W.subIn K (.ref C_NoTimetable) (.ref C_NoMove) = some false)
    (sb_NoSlot_NoMove : PySem.W.subIn K (.ref C_NoSlot) (.ref C_NoMove) = some false)
    (sb_NoAppointment_NoMove : PySem.W.subIn K (.ref C_NoAppointment) (.ref C_NoMove) = some false)
    (sb_Frozen_NoMove : PySem.W.subIn K (.ref C_Frozen) (.ref C_NoMove) = some false)
    (sb_NoCertificate_NoMove : PySem.W.subIn K (.ref C_NoCertificate) (.ref C_NoMove) = some false)
    (sb_TooMany_NoMove : PySem.W.subIn K (.ref C_TooMany) (.ref C_NoMove) = some false)
    (sb_NotAllowed_NoMove : PySem.W.subIn K (.ref C_NotAllowed) (.ref C_NoMove) = some false)
    (sb_NoWish_NoMove : PySem.W.subIn K (.ref C_NoWish) (.ref C_NoMove) = some false)
    (sb_NoCosts_NoMove : PySem.W.subIn K (.ref C_NoCosts) (.ref C_NoMove) = some false)
    (sm_NoSlot : PySem.W.subIn K (.ref C_NoSlot) (.ref C_NoSlot) = some true)
    (sb_NoBook_NoSlot : PySem.W.subIn K (.ref C_NoBook) (.ref C_NoSlot) = some false)
    (sb_NoTimetable_NoSlot : PySem.W.subIn K (.ref C_NoTimetable) (.ref C_NoSlot) = some false)
    (sb_NoMove_NoSlot : PySem.W.subIn K (.ref C_NoMove) (.ref C_NoSlot) = some false)
    (sb_NoAppointment_NoSlot : PySem.W.subIn K (.ref C_NoAppointment) (.ref C_NoSlot) = some false)
    (sb_Frozen_NoSlot : PySem.W.subIn K (.ref C_Frozen) (.ref C_NoSlot) = some false)
    (sb_NoCertificate_NoSlot : PySem.W.subIn K (.ref C_NoCertificate) (.ref C_NoSlot) = some false)
    (sb_TooMany_NoSlot : PySem.W.subIn K (.ref C_TooMany) (.ref C_NoSlot) = some false)
    (sb_NotAllowed_NoSlot : PySem.W.subIn K (.ref C_NotAllowed) (.ref C_NoSlot) = some false)
    (sb_NoWish_NoSlot : PySem.W.subIn K (.ref C_NoWish) (.ref C_NoSlot) = some false)
    (sb_NoCosts_NoSlot : PySem.W.subIn K (.ref C_NoCosts) (.ref C_NoSlot) = some false)
    (sm_NoTimetable : PySem.W.subIn K (.ref C_NoTimetable) (.ref C_NoTimetable) = some true)
    (sb_NoBook_NoTimetable : PySem.W.subIn K (.ref C_NoBook) (.ref C_NoTimetable) = some false)
    (sb_NoMove_NoTimetable : PySem.W.subIn K (.ref C_NoMove) (.ref C_NoTimetable) = some false)
    (sb_NoSlot_NoTimetable : PySem.W.subIn K (.ref C_NoSlot) (.ref C_NoTimetable) = some false)
    (sb_NoAppointment_NoTimetable : PySem.W.subIn K (.ref C_NoAppointment) (.ref C_NoTimetable) = some false)
    (sb_Frozen_NoTimetable : PySem.W.subIn K (.ref C_Frozen) (.ref C_NoTimetable) = some false)
    (sb_NoCertificate_NoTimetable : PySem.W.subIn K (.ref C_NoCertificate) (.ref C_NoTimetable) = some false)
    (sb_TooMany_NoTimetable : PySem.W.subIn K (.ref C_TooMany) (.ref C_NoTimetable) = some false)
    (sb_NotAllowed_NoTimetable : PySem.W.subIn K (.ref C_NotAllowed) (.ref C_NoTimetable) = some false)
    (sb_NoWish_NoTimetable : PySem.W.subIn K (.ref C_NoWish) (.ref C_NoTimetable) = some false)
    (sb_NoCosts_NoTimetable : PySem.W.subIn K (.ref C_NoCosts) (.ref C_NoTimetable) = some false)
    (sm_NoWish : PySem.W.subIn K (.ref C_NoWish) (.ref C_NoWish) = some true)
    (sb_NoBook_NoWish : PySem.W.subIn K (.ref C_NoBook) (.ref C_NoWish) = some false)
    (sb_NoTimetable_NoWish : PySem.W.subIn K (.ref C_NoTimetable) (.ref C_NoWish) = some false)
    (sb_NoMove_NoWish : PySem.W.subIn K (.ref C_NoMove) (.ref C_NoWish) = some false)
    (sb_NoSlot_NoWish : PySem.W.subIn K (.ref C_NoSlot) (.ref C_NoWish) = some false)
    (sb_NoAppointment_NoWish : PySem.W.subIn K (.ref C_NoAppointment) (.ref C_NoWish) = some false)
    (sb_Frozen_NoWish : PySem.W.subIn K (.ref C_Frozen) (.ref C_NoWish) = some false)
    (sb_NoCertificate_NoWish : PySem.W.subIn K (.ref C_NoCertificate) (.ref C_NoWish) = some false)
    (sb_TooMany_NoWish : PySem.W.subIn K (.ref C_TooMany) (.ref C_NoWish) = some false)
    (sb_NotAllowed_NoWish : PySem.W.subIn K (.ref C_NotAllowed) (.ref C_NoWish) = some false)
    (sb_NoCosts_NoWish : PySem.W.subIn K (.ref C_NoCosts) (.ref C_NoWish) = some false)
    (sm_NotAllowed : PySem.W.subIn K (.ref C_NotAllowed) (.ref C_NotAllowed) = some true)
    (sb_NoBook_NotAllowed : PySem.W.subIn K (.ref C_NoBook) (.ref C_NotAllowed) = some false)
    (sb_NoTimetable_NotAllowed : PySem.W.subIn K (.ref C_NoTimetable) (.ref C_NotAllowed) = some false)
    (sb_NoMove_NotAllowed : PySem.W.subIn K (.ref C_NoMove) (.ref C_NotAllowed) = some false)
    (sb_NoSlot_NotAllowed : PySem.W.subIn K (.ref C_NoSlot) (.ref C_NotAllowed) = some false)
    (sb_NoAppointment_NotAllowed : PySem.W.subIn K (.ref C_NoAppointment) (.ref C_NotAllowed) = some false)
    (sb_Frozen_NotAllowed : PySem.W.subIn K (.ref C_Frozen) (.ref C_NotAllowed) = some false)
    (sb_NoCertificate_NotAllowed : PySem.W.subIn K (.ref C_NoCertificate) (.ref C_NotAllowed) = some false)
    (sb_TooMany_NotAllowed : PySem.W.subIn K (.ref C_TooMany) (.ref C_NotAllowed) = some false)
    (sb_NoWish_NotAllowed : PySem.W.subIn K (.ref C_NoWish) (.ref C_NotAllowed) = some false)
    (sb_NoCosts_NotAllowed : PySem.W.subIn K (.ref C_NoCosts) (.ref C_NotAllowed) = some false)
    (hd_SlotError : PySem.W.hasDictIn K C_SlotError = true)
    (ty_SlotError : PySem.W.typeIn K (.ref C_SlotError) = some (.type "type"))
    (sm_SlotError : PySem.W.subIn K (.ref C_SlotError) (.ref C_SlotError) = some true)
    (sb_NoBook_SlotError : PySem.W.subIn K (.ref C_NoBook) (.ref C_SlotError) = some true)
    (sb_NoTimetable_SlotError : PySem.W.subIn K (.ref C_NoTimetable) (.ref C_SlotError) = some true)
    (sb_NoMove_SlotError : PySem.W.subIn K (.ref C_NoMove) (.ref C_SlotError) = some true)
    (sb_NoSlot_SlotError : PySem.W.subIn K (.ref C_NoSlot) (.ref C_SlotError) = some true)
    (sb_NoAppointment_SlotError : PySem.W.subIn K (.ref C_NoAppointment) (.ref C_SlotError) = some true)
    (sb_Frozen_SlotError : PySem.W.subIn K (.ref C_Frozen) (.ref C_SlotError) = some true)
    (sb_NoCertificate_SlotError : PySem.W.subIn K (.ref C_NoCertificate) (.ref C_SlotError) = some true)
    (sb_TooMany_SlotError : PySem.W.subIn K (.ref C_TooMany) (.ref C_SlotError) = some true)
    (sb_NotAllowed_SlotError : PySem.W.subIn K (.ref C_NotAllowed) (.ref C_SlotError) = some true)
    (sb_NoWish_SlotError : PySem.W.subIn K (.ref C_NoWish) (.ref C_SlotError) = some true)
    (sb_NoCosts_SlotError : PySem.W.subIn K (.ref C_NoCosts) (.ref C_SlotError) = some true)
    (sB_SlotError : PySem.W.subIn K (.type "ValueError") (.ref C_SlotError) = some false)
    (sm_TooMany : PySem.W.subIn K (.ref C_TooMany) (.ref C_TooMany) = some true)
    (sb_NoBook_TooMany : PySem.W.subIn K (.ref C_NoBook) (.ref C_TooMany) = some false)
    (sb_NoTimetable_TooMany : PySem.W.subIn K (.ref C_NoTimetable) (.ref C_TooMany) = some false)
    (sb_NoMove_TooMany : PySem.W.subIn K (.ref C_NoMove) (.ref C_TooMany) = some false)
    (sb_NoSlot_TooMany : PySem.W.subIn K (.ref C_NoSlot) (.ref C_TooMany) = some false)
    (sb_NoAppointment_TooMany : PySem.W.subIn K (.ref C_NoAppointment) (.ref C_TooMany) = some false)
    (sb_Frozen_TooMany : PySem.W.subIn K (.ref C_Frozen) (.ref C_TooMany) = some false)
    (sb_NoCertificate_TooMany : PySem.W.subIn K (.ref C_NoCertificate) (.ref C_TooMany) = some false)
    (sb_NotAllowed_TooMany : PySem.W.subIn K (.ref C_NotAllowed) (.ref C_TooMany) = some false)
    (sb_NoWish_TooMany : PySem.W.subIn K (.ref C_NoWish) (.ref C_TooMany) = some false)
    (sb_NoCosts_TooMany : PySem.W.subIn K (.ref C_NoCosts) (.ref C_TooMany) = some false)
    (sv_NoBook : PySem.W.subIn K (.ref C_NoBook) (.type "ValueError") = some true)
    (sv_NoTimetable : PySem.W.subIn K (.ref C_NoTimetable) (.type "ValueError") = some true)
    (sv_NoMove : PySem.W.subIn K (.ref C_NoMove) (.type "ValueError") = some true)
    (sv_NoSlot : PySem.W.subIn K (.ref C_NoSlot) (.type "ValueError") = some true)
    (sv_NoAppointment : PySem.W.subIn K (.ref C_NoAppointment) (.type "ValueError") = some true)
    (sv_Frozen : PySem.W.subIn K (.ref C_Frozen) (.type "ValueError") = some true)
    (sv_NoCertificate : PySem.W.subIn K (.ref C_NoCertificate) (.type "ValueError") = some true)
    (sv_TooMany : PySem.W.subIn K (.ref C_TooMany) (.type "ValueError") = some true)
    (sv_NotAllowed : PySem.W.subIn K (.ref C_NotAllowed) (.type "ValueError") = some true)
    (sv_NoWish : PySem.W.subIn K (.ref C_NoWish) (.type "ValueError") = some true)
    (sv_NoCosts : PySem.W.subIn K (.ref C_NoCosts) (.type "ValueError") = some true)
    (S_rd : PySem.W.readsIn K C_SlotError (.type "type") = true)
    (S_ga : PySem.W.specialIn K (.ref C_SlotError) "__getattribute__" = some (some (.builtin "type.__getattribute__")))
    (S_in : PySem.W.findCls K (.ref C_SlotError) (.type "type") "__init__" = some (.val (.builtin "ValueError.__init__")))
    (z_ValueError : PySem.W.nsIn K mainGlobals "ValueError" = some none)
    (z_enumerate : PySem.W.nsIn K mainGlobals "enumerate" = some none)
    (z_int : PySem.W.nsIn K mainGlobals "int" = some none)
    (z_isinstance : PySem.W.nsIn K mainGlobals "isinstance" = some none)
    (z_range : PySem.W.nsIn K mainGlobals "range" = some none)
    (t_nd : ([] : List Addr).Nodup) :
    ∃ (ts : List (Addr × Addr)) (fd : FuncData), (∀ p ∈ ts, TbAt K h p.1 p.2) ∧ (∀ (s : Shared) (v : Value), BindsTo s fd ⟨[v], []⟩ [("script", v)]) ∧ ∀ base : Heap, K.In base → base.Ns mainGlobals mg → (∀ p ∈ ts, LamX.TabB base mg p.1 p.2) → FnG P w K mg base (L2.CX P w) 5 fa fd ["script"] (spLT K lamNames ts) := by
  have e := hfa.symm.trans (PySem.W.mg_of X G a_law)
  cases e
  obtain ⟨cm, m_SlotError, m_NoBook, m_NoTimetable, m_NoMove, m_NoSlot, m_NoAppointment, m_Frozen, m_NoCertificate, m_TooMany, m_NotAllowed, m_NoWish, m_NoCosts, m_T⟩ : ∃ cm : CM, cm "SlotError" = C_SlotError ∧ cm "NoBook" = C_NoBook ∧ cm "NoTimetable" = C_NoTimetable ∧ cm "NoMove" = C_NoMove ∧ cm "NoSlot" = C_NoSlot ∧ cm "NoAppointment" = C_NoAppointment ∧ cm "Frozen" = C_Frozen ∧ cm "NoCertificate" = C_NoCertificate ∧ cm "TooMany" = C_TooMany ∧ cm "NotAllowed" = C_NotAllowed ∧ cm "NoWish" = C_NoWish ∧ cm "NoCosts" = C_NoCosts ∧ cm.T = (([] : List (Addr × Addr)).map (·.2)).zip lamNames := ⟨⟨asc 0 [("SlotError", C_SlotError), ("NoBook", C_NoBook), ("NoTimetable", C_NoTimetable), ("NoMove", C_NoMove), ("NoSlot", C_NoSlot), ("NoAppointment", C_NoAppointment), ("Frozen", C_Frozen), ("NoCertificate", C_NoCertificate), ("TooMany", C_TooMany), ("NotAllowed", C_NotAllowed), ("NoWish", C_NoWish), ("NoCosts", C_NoCosts)], (([] : List (Addr × Addr)).map (·.2)).zip lamNames⟩, (show asc 0 [("SlotError", C_SlotError), ("NoBook", C_NoBook), ("NoTimetable", C_NoTimetable), ("NoMove", C_NoMove), ("NoSlot", C_NoSlot), ("NoAppointment", C_NoAppointment), ("Frozen", C_Frozen), ("NoCertificate", C_NoCertificate), ("TooMany", C_TooMany), ("NotAllowed", C_NotAllowed), ("NoWish", C_NoWish), ("NoCosts", C_NoCosts)] "SlotError" = C_SlotError from by (repeat (first | exact Mi.asc_at | refine Mi.asc_on (by decide +kernel) ?_))), (show asc 0 [("SlotError", C_SlotError), ("NoBook", C_NoBook), ("NoTimetable", C_NoTimetable), ("NoMove", C_NoMove), ("NoSlot", C_NoSlot), ("NoAppointment", C_NoAppointment), ("Frozen", C_Frozen), ("NoCertificate", C_NoCertificate), ("TooMany", C_TooMany), ("NotAllowed", C_NotAllowed), ("NoWish", C_NoWish), ("NoCosts", C_NoCosts)] "NoBook" = C_NoBook from by (repeat (first | exact Mi.asc_at | refine Mi.asc_on (by decide +kernel) ?_))), (show asc 0 [("SlotError", C_SlotError), ("NoBook", C_NoBook), ("NoTimetable", C_NoTimetable), ("NoMove", C_NoMove), ("NoSlot", C_NoSlot), ("NoAppointment", C_NoAppointment), ("Frozen", C_Frozen), ("NoCertificate", C_NoCertificate), ("TooMany", C_TooMany), ("NotAllowed", C_NotAllowed), ("NoWish", C_NoWish), ("NoCosts", C_NoCosts)] "NoTimetable" = C_NoTimetable from by (repeat (first | exact Mi.asc_at | refine Mi.asc_on (by decide +kernel) ?_))), (show asc 0 [("SlotError", C_SlotError), ("NoBook", C_NoBook), ("NoTimetable", C_NoTimetable), ("NoMove", C_NoMove), ("NoSlot", C_NoSlot), ("NoAppointment", C_NoAppointment), ("Frozen", C_Frozen), ("NoCertificate", C_NoCertificate), ("TooMany", C_TooMany), ("NotAllowed", C_NotAllowed), ("NoWish", C_NoWish), ("NoCosts", C_NoCosts)] "NoMove" = C_NoMove from by (repeat (first | exact Mi.asc_at | refine Mi.asc_on (by decide +kernel) ?_))), (show asc 0 [("SlotError", C_SlotError), ("NoBook", C_NoBook), ("NoTimetable", C_NoTimetable), ("NoMove", C_NoMove), ("NoSlot", C_NoSlot), ("NoAppointment", C_NoAppointment), ("Frozen", C_Frozen), ("NoCertificate", C_NoCertificate), ("TooMany", C_TooMany), ("NotAllowed", C_NotAllowed), ("NoWish", C_NoWish), ("NoCosts", C_NoCosts)] "NoSlot" = C_NoSlot from by (repeat (first | exact Mi.asc_at | refine Mi.asc_on (by decide +kernel) ?_))), (show asc 0 [("SlotError", C_SlotError), ("NoBook", C_NoBook), ("NoTimetable", C_NoTimetable), ("NoMove", C_NoMove), ("NoSlot", C_NoSlot), ("NoAppointment", C_NoAppointment), ("Frozen", C_Frozen), ("NoCertificate", C_NoCertificate), ("TooMany", C_TooMany), ("NotAllowed", C_NotAllowed), ("NoWish", C_NoWish), ("NoCosts", C_NoCosts)] "NoAppointment" = C_NoAppointment from by (repeat (first | exact Mi.asc_at | refine Mi.asc_on (by decide +kernel) ?_))), (show asc 0 [("SlotError", C_SlotError), ("NoBook", C_NoBook), ("NoTimetable", C_NoTimetable), ("NoMove", C_NoMove), ("NoSlot", C_NoSlot), ("NoAppointment", C_NoAppointment), ("Frozen", C_Frozen), ("NoCertificate", C_NoCertificate), ("TooMany", C_TooMany), ("NotAllowed", C_NotAllowed), ("NoWish", C_NoWish), ("NoCosts", C_NoCosts)] "Frozen" = C_Frozen from by (repeat (first | exact Mi.asc_at | refine Mi.asc_on (by decide +kernel) ?_))), (show asc 0 [("SlotError", C_SlotError), ("NoBook", C_NoBook), ("NoTimetable", C_NoTimetable), ("NoMove", C_NoMove), ("NoSlot", C_NoSlot), ("NoAppointment", C_NoAppointment), ("Frozen", C_Frozen), ("NoCertificate", C_NoCertificate), ("TooMany", C_TooMany), ("NotAllowed", C_NotAllowed), ("NoWish", C_NoWish), ("NoCosts", C_NoCosts)] "NoCertificate" = C_NoCertificate from by (repeat (first | exact Mi.asc_at | refine Mi.asc_on (by decide +kernel) ?_))), (show asc 0 [("SlotError", C_SlotError), ("NoBook", C_NoBook), ("NoTimetable", C_NoTimetable), ("NoMove", C_NoMove), ("NoSlot", C_NoSlot), ("NoAppointment", C_NoAppointment), ("Frozen", C_Frozen), ("NoCertificate", C_NoCertificate), ("TooMany", C_TooMany), ("NotAllowed", C_NotAllowed), ("NoWish", C_NoWish), ("NoCosts", C_NoCosts)] "TooMany" = C_TooMany from by (repeat (first | exact Mi.asc_at | refine Mi.asc_on (by decide +kernel) ?_))), (show asc 0 [("SlotError", C_SlotError), ("NoBook", C_NoBook), ("NoTimetable", C_NoTimetable), ("NoMove", C_NoMove), ("NoSlot", C_NoSlot), ("NoAppointment", C_NoAppointment), ("Frozen", C_Frozen), ("NoCertificate", C_NoCertificate), ("TooMany", C_TooMany), ("NotAllowed", C_NotAllowed), ("NoWish", C_NoWish), ("NoCosts", C_NoCosts)] "NotAllowed" = C_NotAllowed from by (repeat (first | exact Mi.asc_at | refine Mi.asc_on (by decide +kernel) ?_))), (show asc 0 [("SlotError", C_SlotError), ("NoBook", C_NoBook), ("NoTimetable", C_NoTimetable), ("NoMove", C_NoMove), ("NoSlot", C_NoSlot), ("NoAppointment", C_NoAppointment), ("Frozen", C_Frozen), ("NoCertificate", C_NoCertificate), ("TooMany", C_TooMany), ("NotAllowed", C_NotAllowed), ("NoWish", C_NoWish), ("NoCosts", C_NoCosts)] "NoWish" = C_NoWish from by (repeat (first | exact Mi.asc_at | refine Mi.asc_on (by decide +kernel) ?_))), (show asc 0 [("SlotError", C_SlotError), ("NoBook", C_NoBook), ("NoTimetable", C_NoTimetable), ("NoMove", C_NoMove), ("NoSlot", C_NoSlot), ("NoAppointment", C_NoAppointment), ("Frozen", C_Frozen), ("NoCertificate", C_NoCertificate), ("TooMany", C_TooMany), ("NotAllowed", C_NotAllowed), ("NoWish", C_NoWish), ("NoCosts", C_NoCosts)] "NoCosts" = C_NoCosts from by (repeat (first | exact Mi.asc_at | refine Mi.asc_on (by decide +kernel) ?_))), rfl⟩
  obtain ⟨fld, f_NoBook, f_NoTimetable, f_NoMove, f_NoSlot, f_NoAppointment, f_Frozen, f_NoCertificate, f_TooMany, f_NotAllowed, f_NoWish, f_NoCosts⟩ : ∃ fld : Str → Str, fld "NoBook" = "index" ∧ fld "NoTimetable" = "index" ∧ fld "NoMove" = "index" ∧ fld "NoSlot" = "slot" ∧ fld "NoAppointment" = "appointment" ∧ fld "Frozen" = "slots" ∧ fld "NoCertificate" = "index" ∧ fld "TooMany" = "most" ∧ fld "NotAllowed" = "slot" ∧ fld "NoWish" = "key" ∧ fld "NoCosts" = "index" := ⟨asc Str.empty [("NoBook", "index"), ("NoTimetable", "index"), ("NoMove", "index"), ("NoSlot", "slot"), ("NoAppointment", "appointment"), ("Frozen", "slots"), ("NoCertificate", "index"), ("TooMany", "most"), ("NotAllowed", "slot"), ("NoWish", "key"), ("NoCosts", "index")], by (repeat (first | exact Mi.asc_at | refine Mi.asc_on (by decide +kernel) ?_)), by (repeat (first | exact Mi.asc_at | refine Mi.asc_on (by decide +kernel) ?_)), by (repeat (first | exact Mi.asc_at | refine Mi.asc_on (by decide +kernel) ?_)), by (repeat (first | exact Mi.asc_at | refine Mi.asc_on (by decide +kernel) ?_)), by (repeat (first | exact Mi.asc_at | refine Mi.asc_on (by decide +kernel) ?_)), by (repeat (first | exact Mi.asc_at | refine Mi.asc_on (by decide +kernel) ?_)), by (repeat (first | exact Mi.asc_at | refine Mi.asc_on (by decide +kernel) ?_)), by (repeat (first | exact Mi.asc_at | refine Mi.asc_on (by decide +kernel) ?_)), by (repeat (first | exact Mi.asc_at | refine Mi.asc_on (by decide +kernel) ?_)), by (repeat (first | exact Mi.asc_at | refine Mi.asc_on (by decide +kernel) ?_)), by (repeat (first | exact Mi.asc_at | refine Mi.asc_on (by decide +kernel) ?_))⟩
  have T : Tx K mg cm fld := { n_ValueError := PySem.W.mg_none_of X G z_ValueError, n_enumerate := PySem.W.mg_none_of X G z_enumerate, n_int := PySem.W.mg_none_of X G z_int, n_isinstance := PySem.W.mg_none_of X G z_isinstance, n_range := PySem.W.mg_none_of X G z_range, f_NoBook := f_NoBook, no_NoBook := by rw [m_NoBook]; exact nf_NoBook, em_NoBook := by rw [m_NoBook]; exact em_NoBook, f_NoTimetable := f_NoTimetable, no_NoTimetable := by rw [m_NoTimetable]; exact nf_NoTimetable, em_NoTimetable := by rw [m_NoTimetable]; exact em_NoTimetable, f_NoMove := f_NoMove, no_NoMove := by rw [m_NoMove]; exact nf_NoMove, em_NoMove := by rw [m_NoMove]; exact em_NoMove, f_NoSlot := f_NoSlot, no_NoSlot := by rw [m_NoSlot]; exact nf_NoSlot, em_NoSlot := by rw [m_NoSlot]; exact em_NoSlot, f_NoAppointment := f_NoAppointment, no_NoAppointment := by rw [m_NoAppointment]; exact nf_NoAppointment, em_NoAppointment := by rw [m_NoAppointment]; exact em_NoAppointment, f_Frozen := f_Frozen, no_Frozen := by rw [m_Frozen]; exact nf_Frozen, em_Frozen := by rw [m_Frozen]; exact em_Frozen, f_NoCertificate := f_NoCertificate, no_NoCertificate := by rw [m_NoCertificate]; exact nf_NoCertificate, em_NoCertificate := by rw [m_NoCertificate]; exact em_NoCertificate, f_TooMany := f_TooMany, no_TooMany := by rw [m_TooMany]; exact nf_TooMany, em_TooMany := by rw [m_TooMany]; exact em_TooMany, f_NotAllowed := f_NotAllowed, no_NotAllowed := by rw [m_NotAllowed]; exact nf_NotAllowed, em_NotAllowed := by rw [m_NotAllowed]; exact em_NotAllowed, f_NoWish := f_NoWish, no_NoWish := by rw [m_NoWish]; exact nf_NoWish, em_NoWish := by rw [m_NoWish]; exact em_NoWish, f_NoCosts := f_NoCosts, no_NoCosts := by rw [m_NoCosts]; exact nf_NoCosts, em_NoCosts := by rw [m_NoCosts]; exact em_NoCosts, xv_appointment := (al_cons (by rw [m_NoAppointment]; exact ⟨⟨ga_NoAppointment, gg_NoAppointment, ex_NoAppointment, hd_NoAppointment⟩, nf_NoAppointment⟩) al_nil), xv_index := (al_cons (by rw [m_NoBook]; exact ⟨⟨ga_NoBook, gg_NoBook, ex_NoBook, hd_NoBook⟩, nf_NoBook⟩) (al_cons (by rw [m_NoTimetable]; exact ⟨⟨ga_NoTimetable, gg_NoTimetable, ex_NoTimetable, hd_NoTimetable⟩, nf_NoTimetable⟩) (al_cons (by rw [m_NoMove]; exact ⟨⟨ga_NoMove, gg_NoMove, ex_NoMove, hd_NoMove⟩, nf_NoMove⟩) (al_cons (by rw [m_NoCertificate]; exact ⟨⟨ga_NoCertificate, gg_NoCertificate, ex_NoCertificate, hd_NoCertificate⟩, nf_NoCertificate⟩) (al_cons (by rw [m_NoCosts]; exact ⟨⟨ga_NoCosts, gg_NoCosts, ex_NoCosts, hd_NoCosts⟩, nf_NoCosts⟩) al_nil))))), xv_key := (al_cons (by rw [m_NoWish]; exact ⟨⟨ga_NoWish, gg_NoWish, ex_NoWish, hd_NoWish⟩, nf_NoWish⟩) al_nil), xv_most := (al_cons (by rw [m_TooMany]; exact ⟨⟨ga_TooMany, gg_TooMany, ex_TooMany, hd_TooMany⟩, nf_TooMany⟩) al_nil), xv_slot := (al_cons (by rw [m_NoSlot]; exact ⟨⟨ga_NoSlot, gg_NoSlot, ex_NoSlot, hd_NoSlot⟩, nf_NoSlot⟩) (al_cons (by rw [m_NotAllowed]; exact ⟨⟨ga_NotAllowed, gg_NotAllowed, ex_NotAllowed, hd_NotAllowed⟩, nf_NotAllowed⟩) al_nil)), xv_slots := (al_cons (by rw [m_Frozen]; exact ⟨⟨ga_Frozen, gg_Frozen, ex_Frozen, hd_Frozen⟩, nf_Frozen⟩) al_nil), is_Frozen := (an_cons (by rw [m_NoBook, m_Frozen]; exact ⟨⟨ga_NoBook, gg_NoBook, ex_NoBook, hd_NoBook, ca_NoBook, E_cn, E_ct, mo_NoBook⟩, kit_ref hd_Frozen ty_Frozen sm_Frozen sb_NoBook_Frozen⟩) (an_cons (by rw [m_NoTimetable, m_Frozen]; exact ⟨⟨ga_NoTimetable, gg_NoTimetable, ex_NoTimetable, hd_NoTimetable, ca_NoTimetable, E_cn, E_ct, mo_NoTimetable⟩, kit_ref hd_Frozen ty_Frozen sm_Frozen sb_NoTimetable_Frozen⟩) (an_cons (by rw [m_NoMove, m_Frozen]; exact ⟨⟨ga_NoMove, gg_NoMove, ex_NoMove, hd_NoMove, ca_NoMove, E_cn, E_ct, mo_NoMove⟩, kit_ref hd_Frozen ty_Frozen sm_Frozen sb_NoMove_Frozen⟩) (an_cons (by rw [m_NoSlot, m_Frozen]; exact ⟨⟨ga_NoSlot, gg_NoSlot, ex_NoSlot, hd_NoSlot, ca_NoSlot, E_cn, E_ct, mo_NoSlot⟩, kit_ref hd_Frozen ty_Frozen sm_Frozen sb_NoSlot_Frozen⟩) (an_cons (by rw [m_NoAppointment, m_Frozen]; exact ⟨⟨ga_NoAppointment, gg_NoAppointment, ex_NoAppointment, hd_NoAppointment, ca_NoAppointment, E_cn, E_ct, mo_NoAppointment⟩, kit_ref hd_Frozen ty_Frozen sm_Frozen sb_NoAppointment_Frozen⟩) (an_cons (by rw [m_Frozen]; exact ⟨⟨ga_Frozen, gg_Frozen, ex_Frozen, hd_Frozen, ca_Frozen, E_cn, E_ct, mo_Frozen⟩, kit_me⟩) (an_cons (by rw [m_NoCertificate, m_Frozen]; exact ⟨⟨ga_NoCertificate, gg_NoCertificate, ex_NoCertificate, hd_NoCertificate, ca_NoCertificate, E_cn, E_ct, mo_NoCertificate⟩, kit_ref hd_Frozen ty_Frozen sm_Frozen sb_NoCertificate_Frozen⟩) (an_cons (by rw [m_TooMany, m_Frozen]; exact ⟨⟨ga_TooMany, gg_TooMany, ex_TooMany, hd_TooMany, ca_TooMany, E_cn, E_ct, mo_TooMany⟩, kit_ref hd_Frozen ty_Frozen sm_Frozen sb_TooMany_Frozen⟩) (an_cons (by rw [m_NotAllowed, m_Frozen]; exact ⟨⟨ga_NotAllowed, gg_NotAllowed, ex_NotAllowed, hd_NotAllowed, ca_NotAllowed, E_cn, E_ct, mo_NotAllowed⟩, kit_ref hd_Frozen ty_Frozen sm_Frozen sb_NotAllowed_Frozen⟩) (an_cons (by rw [m_NoWish, m_Frozen]; exact ⟨⟨ga_NoWish, gg_NoWish, ex_NoWish, hd_NoWish, ca_NoWish, E_cn, E_ct, mo_NoWish⟩, kit_ref hd_Frozen ty_Frozen sm_Frozen sb_NoWish_Frozen⟩) (an_cons (by rw [m_NoCosts, m_Frozen]; exact ⟨⟨ga_NoCosts, gg_NoCosts, ex_NoCosts, hd_NoCosts, ca_NoCosts, E_cn, E_ct, mo_NoCosts⟩, kit_ref hd_Frozen ty_Frozen sm_Frozen sb_NoCosts_Frozen⟩) an_nil))))))))))), m_Frozen := by rw [m_Frozen]; exact PySem.W.mg_of X G n_Frozen, is_NoAppointment := (an_cons (by rw [m_NoBook, m_NoAppointment]; exact ⟨⟨ga_NoBook, gg_NoBook, ex_NoBook, hd_NoBook, ca_NoBook, E_cn, E_ct, mo_NoBook⟩, kit_ref hd_NoAppointment ty_NoAppointment sm_NoAppointment sb_NoBook_NoAppointment⟩) (an_cons (by rw [m_NoTimetable, m_NoAppointment]; exact ⟨⟨ga_NoTimetable, gg_NoTimetable, ex_NoTimetable, hd_NoTimetable, ca_NoTimetable, E_cn, E_ct, mo_NoTimetable⟩, kit_ref hd_NoAppointment ty_NoAppointment sm_NoAppointment sb_NoTimetable_NoAppointment⟩) (an_cons (by rw [m_NoMove, m_NoAppointment]; exact ⟨⟨ga_NoMove, gg_NoMove, ex_NoMove, hd_NoMove, ca_NoMove, E_cn, E_ct, mo_NoMove⟩, kit_ref hd_NoAppointment ty_NoAppointment sm_NoAppointment sb_NoMove_NoAppointment⟩) (an_cons (by rw [m_NoSlot, m_NoAppointment]; exact ⟨⟨ga_NoSlot, gg_NoSlot, ex_NoSlot, hd_NoSlot, ca_NoSlot, E_cn, E_ct, mo_NoSlot⟩, kit_ref hd_NoAppointment ty_NoAppointment sm_NoAppointment sb_NoSlot_NoAppointment⟩) (an_cons (by rw [m_NoAppointment]; exact ⟨⟨ga_NoAppointment, gg_NoAppointment, ex_NoAppointment, hd_NoAppointment, ca_NoAppointment, E_cn, E_ct, mo_NoAppointment⟩, kit_me⟩) (an_cons (by rw [m_Frozen, m_NoAppointment]; exact ⟨⟨ga_Frozen, gg_Frozen, ex_Frozen, hd_Frozen, ca_Frozen, E_cn, E_ct, mo_Frozen⟩, kit_ref hd_NoAppointment ty_NoAppointment sm_NoAppointment sb_Frozen_NoAppointment⟩) (an_cons (by rw [m_NoCertificate, m_NoAppointment]; exact ⟨⟨ga_NoCertificate, gg_NoCertificate, ex_NoCertificate, hd_NoCertificate, ca_NoCertificate, E_cn, E_ct, mo_NoCertificate⟩, kit_ref hd_NoAppointment ty_NoAppointment sm_NoAppointment sb_NoCertificate_NoAppointment⟩) (an_cons (by rw [m_TooMany, m_NoAppointment]; exact ⟨⟨ga_TooMany, gg_TooMany, ex_TooMany, hd_TooMany, ca_TooMany, E_cn, E_ct, mo_TooMany⟩, kit_ref hd_NoAppointment ty_NoAppointment sm_NoAppointment sb_TooMany_NoAppointment⟩) (an_cons (by rw [m_NotAllowed, m_NoAppointment]; exact ⟨⟨ga_NotAllowed, gg_NotAllowed, ex_NotAllowed, hd_NotAllowed, ca_NotAllowed, E_cn, E_ct, mo_NotAllowed⟩, kit_ref hd_NoAppointment ty_NoAppointment sm_NoAppointment sb_NotAllowed_NoAppointment⟩) (an_cons (by rw [m_NoWish, m_NoAppointment]; exact ⟨⟨ga_NoWish, gg_NoWish, ex_NoWish, hd_NoWish, ca_NoWish, E_cn, E_ct, mo_NoWish⟩, kit_ref hd_NoAppointment ty_NoAppointment sm_NoAppointment sb_NoWish_NoAppointment⟩) (an_cons (by rw [m_NoCosts, m_NoAppointment]; exact ⟨⟨ga_NoCosts, gg_NoCosts, ex_NoCosts, hd_NoCosts, ca_NoCosts, E_cn, E_ct, mo_NoCosts⟩, kit_ref hd_NoAppointment ty_NoAppointment sm_NoAppointment sb_NoCosts_NoAppointment⟩) an_nil))))))))))), m_NoAppointment := by rw [m_NoAppointment]; exact PySem.W.mg_of X G n_NoAppointment, is_NoBook := (an_cons (by rw [m_NoBook]; exact ⟨⟨ga_NoBook, gg_NoBook, ex_NoBook, hd_NoBook, ca_NoBook, E_cn, E_ct, mo_NoBook⟩, kit_me⟩) (an_cons (by rw [m_NoTimetable, m_NoBook]; exact ⟨⟨ga_NoTimetable, gg_NoTimetable, ex_NoTimetable, hd_NoTimetable, ca_NoTimetable, E_cn, E_ct, mo_NoTimetable⟩, kit_ref hd_NoBook ty_NoBook sm_NoBook sb_NoTimetable_NoBook⟩) (an_cons (by rw [m_NoMove, m_NoBook]; exact ⟨⟨ga_NoMove, gg_NoMove, ex_NoMove, hd_NoMove, ca_NoMove, E_cn, E_ct, mo_NoMove⟩, kit_ref hd_NoBook ty_NoBook sm_NoBook sb_NoMove_NoBook⟩) (an_cons (by rw [m_NoSlot, m_NoBook]; exact ⟨⟨ga_NoSlot, gg_NoSlot, ex_NoSlot, hd_NoSlot, ca_NoSlot, E_cn, E_ct, mo_NoSlot⟩, kit_ref hd_NoBook ty_NoBook sm_NoBook sb_NoSlot_NoBook⟩) (an_cons (by rw [m_NoAppointment, m_NoBook]; exact ⟨⟨ga_NoAppointment, gg_NoAppointment, ex_NoAppointment, hd_NoAppointment, ca_NoAppointment, E_cn, E_ct, mo_NoAppointment⟩, kit_ref hd_NoBook ty_NoBook sm_NoBook sb_NoAppointment_NoBook⟩) (an_cons (by rw [m_Frozen, m_NoBook]; exact ⟨⟨ga_Frozen, gg_Frozen, ex_Frozen, hd_Frozen, ca_Frozen, E_cn, E_ct, mo_Frozen⟩, kit_ref hd_NoBook ty_NoBook sm_NoBook sb_Frozen_NoBook⟩) (an_cons (by rw [m_NoCertificate, m_NoBook]; exact ⟨⟨ga_NoCertificate, gg_NoCertificate, ex_NoCertificate, hd_NoCertificate, ca_NoCertificate, E_cn, E_ct, mo_NoCertificate⟩, kit_ref hd_NoBook ty_NoBook sm_NoBook sb_NoCertificate_NoBook⟩) (an_cons (by rw [m_TooMany, m_NoBook]; exact ⟨⟨ga_TooMany, gg_TooMany, ex_TooMany, hd_TooMany, ca_TooMany, E_cn, E_ct, mo_TooMany⟩, kit_ref hd_NoBook ty_NoBook sm_NoBook sb_TooMany_NoBook⟩) (an_cons (by rw [m_NotAllowed, m_NoBook]; exact ⟨⟨ga_NotAllowed, gg_NotAllowed, ex_NotAllowed, hd_NotAllowed, ca_NotAllowed, E_cn, E_ct, mo_NotAllowed⟩, kit_ref hd_NoBook ty_NoBook sm_NoBook sb_NotAllowed_NoBook⟩) (an_cons (by rw [m_NoWish, m_NoBook]; exact ⟨⟨ga_NoWish, gg_NoWish, ex_NoWish, hd_NoWish, ca_NoWish, E_cn, E_ct, mo_NoWish⟩, kit_ref hd_NoBook ty_NoBook sm_NoBook sb_NoWish_NoBook⟩) (an_cons (by rw [m_NoCosts, m_NoBook]; exact ⟨⟨ga_NoCosts, gg_NoCosts, ex_NoCosts, hd_NoCosts, ca_NoCosts, E_cn, E_ct, mo_NoCosts⟩, kit_ref hd_NoBook ty_NoBook sm_NoBook sb_NoCosts_NoBook⟩) an_nil))))))))))), m_NoBook := by rw [m_NoBook]; exact PySem.W.mg_of X G n_NoBook, is_NoCertificate := (an_cons (by rw [m_NoBook, m_NoCertificate]; exact ⟨⟨ga_NoBook, gg_NoBook, ex_NoBook, hd_NoBook, ca_NoBook, E_cn, E_ct, mo_NoBook⟩, kit_ref hd_NoCertificate ty_NoCertificate sm_NoCertificate sb_NoBook_NoCertificate⟩) (an_cons (by rw [m_NoTimetable, m_NoCertificate]; exact ⟨⟨ga_NoTimetable, gg_NoTimetable, ex_NoTimetable, hd_NoTimetable, ca_NoTimetable, E_cn, E_ct, mo_NoTimetable⟩, kit_ref hd_NoCertificate ty_NoCertificate sm_NoCertificate sb_NoTimetable_NoCertificate⟩) (an_cons (by rw [m_NoMove, m_NoCertificate]; exact ⟨⟨ga_NoMove, gg_NoMove, ex_NoMove, hd_NoMove, ca_NoMove, E_cn, E_ct, mo_NoMove⟩, kit_ref hd_NoCertificate ty_NoCertificate sm_NoCertificate sb_NoMove_NoCertificate⟩) (an_cons (by rw [m_NoSlot, m_NoCertificate]; exact ⟨⟨ga_NoSlot, gg_NoSlot, ex_NoSlot, hd_NoSlot, ca_NoSlot, E_cn, E_ct, mo_NoSlot⟩, kit_ref hd_NoCertificate ty_NoCertificate sm_NoCertificate sb_NoSlot_NoCertificate⟩) (an_cons (by rw [m_NoAppointment, m_NoCertificate]; exact ⟨⟨ga_NoAppointment, gg_NoAppointment, ex_NoAppointment, hd_NoAppointment, ca_NoAppointment, E_cn, E_ct, mo_NoAppointment⟩, kit_ref hd_NoCertificate ty_NoCertificate sm_NoCertificate sb_NoAppointment_NoCertificate⟩) (an_cons (by rw [m_Frozen, m_NoCertificate]; exact ⟨⟨ga_Frozen, gg_Frozen, ex_Frozen, hd_Frozen, ca_Frozen, E_cn, E_ct, mo_Frozen⟩, kit_ref hd_NoCertificate ty_NoCertificate sm_NoCertificate sb_Frozen_NoCertificate⟩) (an_cons (by rw [m_NoCertificate]; exact ⟨⟨ga_NoCertificate, gg_NoCertificate, ex_NoCertificate, hd_NoCertificate, ca_NoCertificate, E_cn, E_ct, mo_NoCertificate⟩, kit_me⟩) (an_cons (by rw [m_TooMany, m_NoCertificate]; exact ⟨⟨ga_TooMany, gg_TooMany, ex_TooMany, hd_TooMany, ca_TooMany, E_cn, E_ct, mo_TooMany⟩, kit_ref hd_NoCertificate ty_NoCertificate sm_NoCertificate sb_TooMany_NoCertificate⟩) (an_cons (by rw [m_NotAllowed, m_NoCertificate]; exact ⟨⟨ga_NotAllowed, gg_NotAllowed, ex_NotAllowed, hd_NotAllowed, ca_NotAllowed, E_cn, E_ct, mo_NotAllowed⟩, kit_ref hd_NoCertificate ty_NoCertificate sm_NoCertificate sb_NotAllowed_NoCertificate⟩) (an_cons (by rw [m_NoWish, m_NoCertificate]; exact ⟨⟨ga_NoWish, gg_NoWish, ex_NoWish, hd_NoWish, ca_NoWish, E_cn, E_ct, mo_NoWish⟩, kit_ref hd_NoCertificate ty_NoCertificate sm_NoCertificate sb_NoWish_NoCertificate⟩) (an_cons (by rw [m_NoCosts, m_NoCertificate]; exact ⟨⟨ga_NoCosts, gg_NoCosts, ex_NoCosts, hd_NoCosts, ca_NoCosts, E_cn, E_ct, mo_NoCosts⟩, kit_ref hd_NoCertificate ty_NoCertificate sm_NoCertificate sb_NoCosts_NoCertificate⟩) an_nil))))))))))), m_NoCertificate := by rw [m_NoCertificate]; exact PySem.W.mg_of X G n_NoCertificate, is_NoCosts := (an_cons (by rw [m_NoBook, m_NoCosts]; exact ⟨⟨ga_NoBook, gg_NoBook, ex_NoBook, hd_NoBook, ca_NoBook, E_cn, E_ct, mo_NoBook⟩, kit_ref hd_NoCosts ty_NoCosts sm_NoCosts sb_NoBook_NoCosts⟩) (an_cons (by rw [m_NoTimetable, m_NoCosts]; exact ⟨⟨ga_NoTimetable, gg_NoTimetable, ex_NoTimetable, hd_NoTimetable, ca_NoTimetable, E_cn, E_ct, mo_NoTimetable⟩, kit_ref hd_NoCosts ty_NoCosts sm_NoCosts sb_NoTimetable_NoCosts⟩) (an_cons (by rw [m_NoMove, m_NoCosts]; exact ⟨⟨ga_NoMove, gg_NoMove, ex_NoMove, hd_NoMove, ca_NoMove, E_cn, E_ct, mo_NoMove⟩, kit_ref hd_NoCosts ty_NoCosts sm_NoCosts sb_NoMove_NoCosts⟩) (an_cons (by rw [m_NoSlot, m_NoCosts]; exact ⟨⟨ga_NoSlot, gg_NoSlot, ex_NoSlot, hd_NoSlot, ca_NoSlot, E_cn, E_ct, mo_NoSlot⟩, kit_ref hd_NoCosts ty_NoCosts sm_NoCosts sb_NoSlot_NoCosts⟩) (an_cons (by rw [m_NoAppointment, m_NoCosts]; exact ⟨⟨ga_NoAppointment, gg_NoAppointment, ex_NoAppointment, hd_NoAppointment, ca_NoAppointment, E_cn, E_ct, mo_NoAppointment⟩, kit_ref hd_NoCosts ty_NoCosts sm_NoCosts sb_NoAppointment_NoCosts⟩) (an_cons (by rw [m_Frozen, m_NoCosts]; exact ⟨⟨ga_Frozen, gg_Frozen, ex_Frozen, hd_Frozen, ca_Frozen, E_cn, E_ct, mo_Frozen⟩, kit_ref hd_NoCosts ty_NoCosts sm_NoCosts sb_Frozen_NoCosts⟩) (an_cons (by rw [m_NoCertificate, m_NoCosts]; exact ⟨⟨ga_NoCertificate, gg_NoCertificate, ex_NoCertificate, hd_NoCertificate, ca_NoCertificate, E_cn, E_ct, mo_NoCertificate⟩, kit_ref hd_NoCosts ty_NoCosts sm_NoCosts sb_NoCertificate_NoCosts⟩) (an_cons (by rw [m_TooMany, m_NoCosts]; exact ⟨⟨ga_TooMany, gg_TooMany, ex_TooMany, hd_TooMany, ca_TooMany, E_cn, E_ct, mo_TooMany⟩, kit_ref hd_NoCosts ty_NoCosts sm_NoCosts sb_TooMany_NoCosts⟩) (an_cons (by rw [m_NotAllowed, m_NoCosts]; exact ⟨⟨ga_NotAllowed, gg_NotAllowed, ex_NotAllowed, hd_NotAllowed, ca_NotAllowed, E_cn, E_ct, mo_NotAllowed⟩, kit_ref hd_NoCosts ty_NoCosts sm_NoCosts sb_NotAllowed_NoCosts⟩) (an_cons (by rw [m_NoWish, m_NoCosts]; exact ⟨⟨ga_NoWish, gg_NoWish, ex_NoWish, hd_NoWish, ca_NoWish, E_cn, E_ct, mo_NoWish⟩, kit_ref hd_NoCosts ty_NoCosts sm_NoCosts sb_NoWish_NoCosts⟩) (an_cons (by rw [m_NoCosts]; exact ⟨⟨ga_NoCosts, gg_NoCosts, ex_NoCosts, hd_NoCosts, ca_NoCosts, E_cn, E_ct, mo_NoCosts⟩, kit_me⟩) an_nil))))))))))), m_NoCosts := by rw [m_NoCosts]; exact PySem.W.mg_of X G n_NoCosts, is_NoMove := (an_cons (by rw [m_NoBook, m_NoMove]; exact ⟨⟨ga_NoBook, gg_NoBook, ex_NoBook, hd_NoBook, ca_NoBook, E_cn, E_ct, mo_NoBook⟩, kit_ref hd_NoMove ty_NoMove sm_NoMove sb_NoBook_NoMove⟩) (an_cons (by rw [m_NoTimetable, m_NoMove]; exact ⟨⟨ga_NoTimetable, gg_NoTimetable, ex_NoTimetable, hd_NoTimetable, ca_NoTimetable, E_cn, E_ct, mo_NoTimetable⟩, kit_ref hd_NoMove ty_NoMove sm_NoMove sb_NoTimetable_NoMove⟩) (an_cons (by rw [m_NoMove]; exact ⟨⟨ga_NoMove, gg_NoMove, ex_NoMove, hd_NoMove, ca_NoMove, E_cn, E_ct, mo_NoMove⟩, kit_me⟩) (an_cons (by rw [m_NoSlot, m_NoMove]; exact ⟨⟨ga_NoSlot, gg_NoSlot, ex_NoSlot, hd_NoSlot, ca_NoSlot, E_cn, E_ct, mo_NoSlot⟩, kit_ref hd_NoMove ty_NoMove sm_NoMove sb_NoSlot_NoMove⟩) (an_cons (by rw [m_NoAppointment, m_NoMove]; exact ⟨⟨ga_NoAppointment, gg_NoAppointment, ex_NoAppointment, hd_NoAppointment, ca_NoAppointment, E_cn, E_ct, mo_NoAppointment⟩, kit_ref hd_NoMove ty_NoMove sm_NoMove sb_NoAppointment_NoMove⟩) (an_cons (by rw [m_Frozen, m_NoMove]; exact ⟨⟨ga_Frozen, gg_Frozen, ex_Frozen, hd_Frozen, ca_Frozen, E_cn, E_ct, mo_Frozen⟩, kit_ref hd_NoMove ty_NoMove sm_NoMove sb_Frozen_NoMove⟩) (an_cons (by rw [m_NoCertificate, m_NoMove]; exact ⟨⟨ga_NoCertificate, gg_NoCertificate, ex_NoCertificate, hd_NoCertificate, ca_NoCertificate, E_cn, E_ct, mo_NoCertificate⟩, kit_ref hd_NoMove ty_NoMove sm_NoMove sb_NoCertificate_NoMove⟩) (an_cons (by rw [m_TooMany, m_NoMove]; exact ⟨⟨ga_TooMany, gg_TooMany, ex_TooMany, hd_TooMany, ca_TooMany, E_cn, E_ct, mo_TooMany⟩, kit_ref hd_NoMove ty_NoMove sm_NoMove sb_TooMany_NoMove⟩) (an_cons (by rw [m_NotAllowed, m_NoMove]; exact ⟨⟨ga_NotAllowed, gg_NotAllowed, ex_NotAllowed, hd_NotAllowed, ca_NotAllowed, E_cn, E_ct, mo_NotAllowed⟩, kit_ref hd_NoMove ty_NoMove sm_NoMove sb_NotAllowed_NoMove⟩) (an_cons (by rw [m_NoWish, m_NoMove]; exact ⟨⟨ga_NoWish, gg_NoWish, ex_NoWish, hd_NoWish, ca_NoWish, E_cn, E_ct, mo_NoWish⟩, kit_ref hd_NoMove ty_NoMove sm_NoMove sb_NoWish_NoMove⟩) (an_cons (by rw [m_NoCosts, m_NoMove]; exact ⟨⟨ga_NoCosts, gg_NoCosts, ex_NoCosts, hd_NoCosts, ca_NoCosts, E_cn, E_ct, mo_NoCosts⟩, kit_ref hd_NoMove ty_NoMove sm_NoMove sb_NoCosts_NoMove⟩) an_nil))))))))))), m_NoMove := by rw [m_NoMove]; exact PySem.W.mg_of X G n_NoMove, is_NoSlot := (an_cons (by rw [m_NoBook, m_NoSlot]; exact ⟨⟨ga_NoBook, gg_NoBook, ex_NoBook, hd_NoBook, ca_NoBook, E_cn, E_ct, mo_NoBook⟩, kit_ref hd_NoSlot ty_NoSlot sm_NoSlot sb_NoBook_NoSlot⟩) (an_cons (by rw [m_NoTimetable, m_NoSlot]; exact ⟨⟨ga_NoTimetable, gg_NoTimetable, ex_NoTimetable, hd_NoTimetable, ca_NoTimetable, E_cn, E_ct, mo_NoTimetable⟩, kit_ref hd_NoSlot ty_NoSlot sm_NoSlot sb_NoTimetable_NoSlot⟩) (an_cons (by rw [m_NoMove, m_NoSlot]; exact ⟨⟨ga_NoMove, gg_NoMove, ex_NoMove, hd_NoMove, ca_NoMove, E_cn, E_ct, mo_NoMove⟩, kit_ref hd_NoSlot ty_NoSlot sm_NoSlot sb_NoMove_NoSlot⟩) (an_cons (by rw [m_NoSlot]; exact ⟨⟨ga_NoSlot, gg_NoSlot, ex_NoSlot, hd_NoSlot, ca_NoSlot, E_cn, E_ct, mo_NoSlot⟩, kit_me⟩) (an_cons (by rw [m_NoAppointment, m_NoSlot]; exact ⟨⟨ga_NoAppointment, gg_NoAppointment, ex_NoAppointment, hd_NoAppointment, ca_NoAppointment, E_cn, E_ct, mo_NoAppointment⟩, kit_ref hd_NoSlot ty_NoSlot sm_NoSlot sb_NoAppointment_NoSlot⟩) (an_cons (by rw [m_Frozen, m_NoSlot]; exact ⟨⟨ga_Frozen, gg_Frozen, ex_Frozen, hd_Frozen, ca_Frozen, E_cn, E_ct, mo_Frozen⟩, kit_ref hd_NoSlot ty_NoSlot sm_NoSlot sb_Frozen_NoSlot⟩) (an_cons (by rw [m_NoCertificate, m_NoSlot]; exact ⟨⟨ga_NoCertificate, gg_NoCertificate, ex_NoCertificate, hd_NoCertificate, ca_NoCertificate, E_cn, E_ct, mo_NoCertificate⟩, kit_ref hd_NoSlot ty_NoSlot sm_NoSlot sb_NoCertificate_NoSlot⟩) (an_cons (by rw [m_TooMany, m_NoSlot]; exact ⟨⟨ga_TooMany, gg_TooMany, ex_TooMany, hd_TooMany, ca_TooMany, E_cn, E_ct, mo_TooMany⟩, kit_ref hd_NoSlot ty_NoSlot sm_NoSlot sb_TooMany_NoSlot⟩) (an_cons (by rw [m_NotAllowed, m_NoSlot]; exact ⟨⟨ga_NotAllowed, gg_NotAllowed, ex_NotAllowed, hd_NotAllowed, ca_NotAllowed, E_cn, E_ct, mo_NotAllowed⟩, kit_ref hd_NoSlot ty_NoSlot sm_NoSlot sb_NotAllowed_NoSlot⟩) (an_cons (by rw [m_NoWish, m_NoSlot]; exact ⟨⟨ga_NoWish, gg_NoWish, ex_NoWish, hd_NoWish, ca_NoWish, E_cn, E_ct, mo_NoWish⟩, kit_ref hd_NoSlot ty_NoSlot sm_NoSlot sb_NoWish_NoSlot⟩) (an_cons (by rw [m_NoCosts, m_NoSlot]; exact ⟨⟨ga_NoCosts, gg_NoCosts, ex_NoCosts, hd_NoCosts, ca_NoCosts, E_cn, E_ct, mo_NoCosts⟩, kit_ref hd_NoSlot ty_NoSlot sm_NoSlot sb_NoCosts_NoSlot⟩) an_nil))))))))))), m_NoSlot := by rw [m_NoSlot]; exact PySem.W.mg_of X G n_NoSlot, is_NoTimetable := (an_cons (by rw [m_NoBook, m_NoTimetable]; exact ⟨⟨ga_NoBook, gg_NoBook, ex_NoBook, hd_NoBook, ca_NoBook, E_cn, E_ct, mo_NoBook⟩, kit_ref hd_NoTimetable ty_NoTimetable sm_NoTimetable sb_NoBook_NoTimetable⟩) (an_cons (by rw [m_NoTimetable]; exact ⟨⟨ga_NoTimetable, gg_NoTimetable, ex_NoTimetable, hd_NoTimetable, ca_NoTimetable, E_cn, E_ct, mo_NoTimetable⟩, kit_me⟩) (an_cons (by rw [m_NoMove, m_NoTimetable]; exact ⟨⟨ga_NoMove, gg_NoMove, ex_NoMove, hd_NoMove, ca_NoMove, E_cn, E_ct, mo_NoMove⟩, kit_ref hd_NoTimetable ty_NoTimetable sm_NoTimetable sb_NoMove_NoTimetable⟩) (an_cons (by rw [m_NoSlot, m_NoTimetable]; exact ⟨⟨ga_NoSlot, gg_NoSlot, ex_NoSlot, hd_NoSlot, ca_NoSlot, E_cn, E_ct, mo_NoSlot⟩, kit_ref hd_NoTimetable ty_NoTimetable sm_NoTimetable sb_NoSlot_NoTimetable⟩) (an_cons (by rw [m_NoAppointment, m_NoTimetable]; exact ⟨⟨ga_NoAppointment, gg_NoAppointment, ex_NoAppointment, hd_NoAppointment, ca_NoAppointment, E_cn, E_ct, mo_NoAppointment⟩, kit_ref hd_NoTimetable ty_NoTimetable sm_NoTimetable sb_NoAppointment_NoTimetable⟩) (an_cons (by rw [m_Frozen, m_NoTimetable]; exact ⟨⟨ga_Frozen, gg_Frozen, ex_Frozen, hd_Frozen, ca_Frozen, E_cn, E_ct, mo_Frozen⟩, kit_ref hd_NoTimetable ty_NoTimetable sm_NoTimetable sb_Frozen_NoTimetable⟩) (an_cons (by rw [m_NoCertificate, m_NoTimetable]; exact ⟨⟨ga_NoCertificate, gg_NoCertificate, ex_NoCertificate, hd_NoCertificate, ca_NoCertificate, E_cn, E_ct, mo_NoCertificate⟩, kit_ref hd_NoTimetable ty_NoTimetable sm_NoTimetable sb_NoCertificate_NoTimetable⟩) (an_cons (by rw [m_TooMany, m_NoTimetable]; exact ⟨⟨ga_TooMany, gg_TooMany, ex_TooMany, hd_TooMany, ca_TooMany, E_cn, E_ct, mo_TooMany⟩, kit_ref hd_NoTimetable ty_NoTimetable sm_NoTimetable sb_TooMany_NoTimetable⟩) (an_cons (by rw [m_NotAllowed, m_NoTimetable]; exact ⟨⟨ga_NotAllowed, gg_NotAllowed, ex_NotAllowed, hd_NotAllowed, ca_NotAllowed, E_cn, E_ct, mo_NotAllowed⟩, kit_ref hd_NoTimetable ty_NoTimetable sm_NoTimetable sb_NotAllowed_NoTimetable⟩) (an_cons (by rw [m_NoWish, m_NoTimetable]; exact ⟨⟨ga_NoWish, gg_NoWish, ex_NoWish, hd_NoWish, ca_NoWish, E_cn, E_ct, mo_NoWish⟩, kit_ref hd_NoTimetable ty_NoTimetable sm_NoTimetable sb_NoWish_NoTimetable⟩) (an_cons (by rw [m_NoCosts, m_NoTimetable]; exact ⟨⟨ga_NoCosts, gg_NoCosts, ex_NoCosts, hd_NoCosts, ca_NoCosts, E_cn, E_ct, mo_NoCosts⟩, kit_ref hd_NoTimetable ty_NoTimetable sm_NoTimetable sb_NoCosts_NoTimetable⟩) an_nil))))))))))), m_NoTimetable := by rw [m_NoTimetable]; exact PySem.W.mg_of X G n_NoTimetable, is_NoWish := (an_cons (by rw [m_NoBook, m_NoWish]; exact ⟨⟨ga_NoBook, gg_NoBook, ex_NoBook, hd_NoBook, ca_NoBook, E_cn, E_ct, mo_NoBook⟩, kit_ref hd_NoWish ty_NoWish sm_NoWish sb_NoBook_NoWish⟩) (an_cons (by rw [m_NoTimetable, m_NoWish]; exact ⟨⟨ga_NoTimetable, gg_NoTimetable, ex_NoTimetable, hd_NoTimetable, ca_NoTimetable, E_cn, E_ct, mo_NoTimetable⟩, kit_ref hd_NoWish ty_NoWish sm_NoWish sb_NoTimetable_NoWish⟩) (an_cons (by rw [m_NoMove, m_NoWish]; exact ⟨⟨ga_NoMove, gg_NoMove, ex_NoMove, hd_NoMove, ca_NoMove, E_cn, E_ct, mo_NoMove⟩, kit_ref hd_NoWish ty_NoWish sm_NoWish sb_NoMove_NoWish⟩) (an_cons (by rw [m_NoSlot, m_NoWish]; exact ⟨⟨ga_NoSlot, gg_NoSlot, ex_NoSlot, hd_NoSlot, ca_NoSlot, E_cn, E_ct, mo_NoSlot⟩, kit_ref hd_NoWish ty_NoWish sm_NoWish sb_NoSlot_NoWish⟩) (an_cons (by rw [m_NoAppointment, m_NoWish]; exact ⟨⟨ga_NoAppointment, gg_NoAppointment, ex_NoAppointment, hd_NoAppointment, ca_NoAppointment, E_cn, E_ct, mo_NoAppointment⟩, kit_ref hd_NoWish ty_NoWish sm_NoWish sb_NoAppointment_NoWish⟩) (an_cons (by rw [m_Frozen, m_NoWish]; exact ⟨⟨ga_Frozen, gg_Frozen, ex_Frozen, hd_Frozen, ca_Frozen, E_cn, E_ct, mo_Frozen⟩, kit_ref hd_NoWish ty_NoWish sm_NoWish sb_Frozen_NoWish⟩) (an_cons (by rw [m_NoCertificate, m_NoWish]; exact ⟨⟨ga_NoCertificate, gg_NoCertificate, ex_NoCertificate, hd_NoCertificate, ca_NoCertificate, E_cn, E_ct, mo_NoCertificate⟩, kit_ref hd_NoWish ty_NoWish sm_NoWish sb_NoCertificate_NoWish⟩) (an_cons (by rw [m_TooMany, m_NoWish]; exact ⟨⟨ga_TooMany, gg_TooMany, ex_TooMany, hd_TooMany, ca_TooMany, E_cn, E_ct, mo_TooMany⟩, kit_ref hd_NoWish ty_NoWish sm_NoWish sb_TooMany_NoWish⟩) (an_cons (by rw [m_NotAllowed, m_NoWish]; exact ⟨⟨ga_NotAllowed, gg_NotAllowed, ex_NotAllowed, hd_NotAllowed, ca_NotAllowed, E_cn, E_ct, mo_NotAllowed⟩, kit_ref hd_NoWish ty_NoWish sm_NoWish sb_NotAllowed_NoWish⟩) (an_cons (by rw [m_NoWish]; exact ⟨⟨ga_NoWish, gg_NoWish, ex_NoWish, hd_NoWish, ca_NoWish, E_cn, E_ct, mo_NoWish⟩, kit_me⟩) (an_cons (by rw [m_NoCosts, m_NoWish]; exact ⟨⟨ga_NoCosts, gg_NoCosts, ex_NoCosts, hd_NoCosts, ca_NoCosts, E_cn, E_ct, mo_NoCosts⟩, kit_ref hd_NoWish ty_NoWish sm_NoWish sb_NoCosts_NoWish⟩) an_nil))))))))))), m_NoWish := by rw [m_NoWish]; exact PySem.W.mg_of X G n_NoWish, is_NotAllowed := (an_cons (by rw [m_NoBook, m_NotAllowed]; exact ⟨⟨ga_NoBook, gg_NoBook, ex_NoBook, hd_NoBook, ca_NoBook, E_cn, E_ct, mo_NoBook⟩, kit_ref hd_NotAllowed ty_NotAllowed sm_NotAllowed sb_NoBook_NotAllowed⟩) (an_cons (by rw [m_NoTimetable, m_NotAllowed]; exact ⟨⟨ga_NoTimetable, gg_NoTimetable, ex_NoTimetable, hd_NoTimetable, ca_NoTimetable, E_cn, E_ct, mo_NoTimetable⟩, kit_ref hd_NotAllowed ty_NotAllowed sm_NotAllowed sb_NoTimetable_NotAllowed⟩) (an_cons (by rw [m_NoMove, m_NotAllowed]; exact ⟨⟨ga_NoMove, gg_NoMove, ex_NoMove, hd_NoMove, ca_NoMove, E_cn, E_ct, mo_NoMove⟩, kit_ref hd_NotAllowed ty_NotAllowed sm_NotAllowed sb_NoMove_NotAllowed⟩) (an_cons (by rw [m_NoSlot, m_NotAllowed]; exact ⟨⟨ga_NoSlot, gg_NoSlot, ex_NoSlot, hd_NoSlot, ca_NoSlot, E_cn, E_ct, mo_NoSlot⟩, kit_ref hd_NotAllowed ty_NotAllowed sm_NotAllowed sb_NoSlot_NotAllowed⟩) (an_cons (by rw [m_NoAppointment, m_NotAllowed]; exact ⟨⟨ga_NoAppointment, gg_NoAppointment, ex_NoAppointment, hd_NoAppointment, ca_NoAppointment, E_cn, E_ct, mo_NoAppointment⟩, kit_ref hd_NotAllowed ty_NotAllowed sm_NotAllowed sb_NoAppointment_NotAllowed⟩) (an_cons (by rw [m_Frozen, m_NotAllowed]; exact ⟨⟨ga_Frozen, gg_Frozen, ex_Frozen, hd_Frozen, ca_Frozen, E_cn, E_ct, mo_Frozen⟩, kit_ref hd_NotAllowed ty_NotAllowed sm_NotAllowed sb_Frozen_NotAllowed⟩) (an_cons (by rw [m_NoCertificate, m_NotAllowed]; exact ⟨⟨ga_NoCertificate, gg_NoCertificate, ex_NoCertificate, hd_NoCertificate, ca_NoCertificate, E_cn, E_ct, mo_NoCertificate⟩, kit_ref hd_NotAllowed ty_NotAllowed sm_NotAllowed sb_NoCertificate_NotAllowed⟩) (an_cons (by rw [m_TooMany, m_NotAllowed]; exact ⟨⟨ga_TooMany, gg_TooMany, ex_TooMany, hd_TooMany, ca_TooMany, E_cn, E_ct, mo_TooMany⟩, kit_ref hd_NotAllowed ty_NotAllowed sm_NotAllowed sb_TooMany_NotAllowed⟩) (an_cons (by rw [m_NotAllowed]; exact ⟨⟨ga_NotAllowed, gg_NotAllowed, ex_NotAllowed, hd_NotAllowed, ca_NotAllowed, E_cn, E_ct, mo_NotAllowed⟩, kit_me⟩) (an_cons (by rw [m_NoWish, m_NotAllowed]; exact ⟨⟨ga_NoWish, gg_NoWish, ex_NoWish, hd_NoWish, ca_NoWish, E_cn, E_ct, mo_NoWish⟩, kit_ref hd_NotAllowed ty_NotAllowed sm_NotAllowed sb_NoWish_NotAllowed⟩) (an_cons (by rw [m_NoCosts, m_NotAllowed]; exact ⟨⟨ga_NoCosts, gg_NoCosts, ex_NoCosts, hd_NoCosts, ca_NoCosts, E_cn, E_ct, mo_NoCosts⟩, kit_ref hd_NotAllowed ty_NotAllowed sm_NotAllowed sb_NoCosts_NotAllowed⟩) an_nil))))))))))), m_NotAllowed := by rw [m_NotAllowed]; exact PySem.W.mg_of X G n_NotAllowed, is_SlotError := (an_cons (by rw [m_NoBook, m_SlotError]; exact ⟨⟨ga_NoBook, gg_NoBook, ex_NoBook, hd_NoBook, ca_NoBook, E_cn, E_ct, mo_NoBook⟩, kit_ref hd_SlotError ty_SlotError sm_SlotError sb_NoBook_SlotError⟩) (an_cons (by rw [m_NoTimetable, m_SlotError]; exact ⟨⟨ga_NoTimetable, gg_NoTimetable, ex_NoTimetable, hd_NoTimetable, ca_NoTimetable, E_cn, E_ct, mo_NoTimetable⟩, kit_ref hd_SlotError ty_SlotError sm_SlotError sb_NoTimetable_SlotError⟩) (an_cons (by rw [m_NoMove, m_SlotError]; exact ⟨⟨ga_NoMove, gg_NoMove, ex_NoMove, hd_NoMove, ca_NoMove, E_cn, E_ct, mo_NoMove⟩, kit_ref hd_SlotError ty_SlotError sm_SlotError sb_NoMove_SlotError⟩) (an_cons (by rw [m_NoSlot, m_SlotError]; exact ⟨⟨ga_NoSlot, gg_NoSlot, ex_NoSlot, hd_NoSlot, ca_NoSlot, E_cn, E_ct, mo_NoSlot⟩, kit_ref hd_SlotError ty_SlotError sm_SlotError sb_NoSlot_SlotError⟩) (an_cons (by rw [m_NoAppointment, m_SlotError]; exact ⟨⟨ga_NoAppointment, gg_NoAppointment, ex_NoAppointment, hd_NoAppointment, ca_NoAppointment, E_cn, E_ct, mo_NoAppointment⟩, kit_ref hd_SlotError ty_SlotError sm_SlotError sb_NoAppointment_SlotError⟩) (an_cons (by rw [m_Frozen, m_SlotError]; exact ⟨⟨ga_Frozen, gg_Frozen, ex_Frozen, hd_Frozen, ca_Frozen, E_cn, E_ct, mo_Frozen⟩, kit_ref hd_SlotError ty_SlotError sm_SlotError sb_Frozen_SlotError⟩) (an_cons (by rw [m_NoCertificate, m_SlotError]; exact ⟨⟨ga_NoCertificate, gg_NoCertificate, ex_NoCertificate, hd_NoCertificate, ca_NoCertificate, E_cn, E_ct, mo_NoCertificate⟩, kit_ref hd_SlotError ty_SlotError sm_SlotError sb_NoCertificate_SlotError⟩) (an_cons (by rw [m_TooMany, m_SlotError]; exact ⟨⟨ga_TooMany, gg_TooMany, ex_TooMany, hd_TooMany, ca_TooMany, E_cn, E_ct, mo_TooMany⟩, kit_ref hd_SlotError ty_SlotError sm_SlotError sb_TooMany_SlotError⟩) (an_cons (by rw [m_NotAllowed, m_SlotError]; exact ⟨⟨ga_NotAllowed, gg_NotAllowed, ex_NotAllowed, hd_NotAllowed, ca_NotAllowed, E_cn, E_ct, mo_NotAllowed⟩, kit_ref hd_SlotError ty_SlotError sm_SlotError sb_NotAllowed_SlotError⟩) (an_cons (by rw [m_NoWish, m_SlotError]; exact ⟨⟨ga_NoWish, gg_NoWish, ex_NoWish, hd_NoWish, ca_NoWish, E_cn, E_ct, mo_NoWish⟩, kit_ref hd_SlotError ty_SlotError sm_SlotError sb_NoWish_SlotError⟩) (an_cons (by rw [m_NoCosts, m_SlotError]; exact ⟨⟨ga_NoCosts, gg_NoCosts, ex_NoCosts, hd_NoCosts, ca_NoCosts, E_cn, E_ct, mo_NoCosts⟩, kit_ref hd_SlotError ty_SlotError sm_SlotError sb_NoCosts_SlotError⟩) an_nil))))))))))), m_SlotError := by rw [m_SlotError]; exact PySem.W.mg_of X G n_SlotError, is_TooMany := (an_cons (by rw [m_NoBook, m_TooMany]; exact ⟨⟨ga_NoBook, gg_NoBook, ex_NoBook, hd_NoBook, ca_NoBook, E_cn, E_ct, mo_NoBook⟩, kit_ref hd_TooMany ty_TooMany sm_TooMany sb_NoBook_TooMany⟩) (an_cons (by rw [m_NoTimetable, m_TooMany]; exact ⟨⟨ga_NoTimetable, gg_NoTimetable, ex_NoTimetable, hd_NoTimetable, ca_NoTimetable, E_cn, E_ct, mo_NoTimetable⟩, kit_ref hd_TooMany ty_TooMany sm_TooMany sb_NoTimetable_TooMany⟩) (an_cons (by rw [m_NoMove, m_TooMany]; exact ⟨⟨ga_NoMove, gg_NoMove, ex_NoMove, hd_NoMove, ca_NoMove, E_cn, E_ct, mo_NoMove⟩, kit_ref hd_TooMany ty_TooMany sm_TooMany sb_NoMove_TooMany⟩) (an_cons (by rw [m_NoSlot, m_TooMany]; exact ⟨⟨ga_NoSlot, gg_NoSlot, ex_NoSlot, hd_NoSlot, ca_NoSlot, E_cn, E_ct, mo_NoSlot⟩, kit_ref hd_TooMany ty_TooMany sm_TooMany sb_NoSlot_TooMany⟩) (an_cons (by rw [m_NoAppointment, m_TooMany]; exact ⟨⟨ga_NoAppointment, gg_NoAppointment, ex_NoAppointment, hd_NoAppointment, ca_NoAppointment, E_cn, E_ct, mo_NoAppointment⟩, kit_ref hd_TooMany ty_TooMany sm_TooMany sb_NoAppointment_TooMany⟩) (an_cons (by rw [m_Frozen, m_TooMany]; exact ⟨⟨ga_Frozen, gg_Frozen, ex_Frozen, hd_Frozen, ca_Frozen, E_cn, E_ct, mo_Frozen⟩, kit_ref hd_TooMany ty_TooMany sm_TooMany sb_Frozen_TooMany⟩) (an_cons (by rw [m_NoCertificate, m_TooMany]; exact ⟨⟨ga_NoCertificate, gg_NoCertificate, ex_NoCertificate, hd_NoCertificate, ca_NoCertificate, E_cn, E_ct, mo_NoCertificate⟩, kit_ref hd_TooMany ty_TooMany sm_TooMany sb_NoCertificate_TooMany⟩) (an_cons (by rw [m_TooMany]; exact ⟨⟨ga_TooMany, gg_TooMany, ex_TooMany, hd_TooMany, ca_TooMany, E_cn, E_ct, mo_TooMany⟩, kit_me⟩) (an_cons (by rw [m_NotAllowed, m_TooMany]; exact ⟨⟨ga_NotAllowed, gg_NotAllowed, ex_NotAllowed, hd_NotAllowed, ca_NotAllowed, E_cn, E_ct, mo_NotAllowed⟩, kit_ref hd_TooMany ty_TooMany sm_TooMany sb_NotAllowed_TooMany⟩) (an_cons (by rw [m_NoWish, m_TooMany]; exact ⟨⟨ga_NoWish, gg_NoWish, ex_NoWish, hd_NoWish, ca_NoWish, E_cn, E_ct, mo_NoWish⟩, kit_ref hd_TooMany ty_TooMany sm_TooMany sb_NoWish_TooMany⟩) (an_cons (by rw [m_NoCosts, m_TooMany]; exact ⟨⟨ga_NoCosts, gg_NoCosts, ex_NoCosts, hd_NoCosts, ca_NoCosts, E_cn, E_ct, mo_NoCosts⟩, kit_ref hd_TooMany ty_TooMany sm_TooMany sb_NoCosts_TooMany⟩) an_nil))))))))))), m_TooMany := by rw [m_TooMany]; exact PySem.W.mg_of X G n_TooMany, is_ValueError := (an_cons (by rw [m_NoBook]; exact ⟨⟨ga_NoBook, gg_NoBook, ex_NoBook, hd_NoBook, ca_NoBook, E_cn, E_ct, mo_NoBook⟩, kit_typ (by decide +kernel) sv_NoBook⟩) (an_cons (by rw [m_NoTimetable]; exact ⟨⟨ga_NoTimetable, gg_NoTimetable, ex_NoTimetable, hd_NoTimetable, ca_NoTimetable, E_cn, E_ct, mo_NoTimetable⟩, kit_typ (by decide +kernel) sv_NoTimetable⟩) (an_cons (by rw [m_NoMove]; exact ⟨⟨ga_NoMove, gg_NoMove, ex_NoMove, hd_NoMove, ca_NoMove, E_cn, E_ct, mo_NoMove⟩, kit_typ (by decide +kernel) sv_NoMove⟩) (an_cons (by rw [m_NoSlot]; exact ⟨⟨ga_NoSlot, gg_NoSlot, ex_NoSlot, hd_NoSlot, ca_NoSlot, E_cn, E_ct, mo_NoSlot⟩, kit_typ (by decide +kernel) sv_NoSlot⟩) (an_cons (by rw [m_NoAppointment]; exact ⟨⟨ga_NoAppointment, gg_NoAppointment, ex_NoAppointment, hd_NoAppointment, ca_NoAppointment, E_cn, E_ct, mo_NoAppointment⟩, kit_typ (by decide +kernel) sv_NoAppointment⟩) (an_cons (by rw [m_Frozen]; exact ⟨⟨ga_Frozen, gg_Frozen, ex_Frozen, hd_Frozen, ca_Frozen, E_cn, E_ct, mo_Frozen⟩, kit_typ (by decide +kernel) sv_Frozen⟩) (an_cons (by rw [m_NoCertificate]; exact ⟨⟨ga_NoCertificate, gg_NoCertificate, ex_NoCertificate, hd_NoCertificate, ca_NoCertificate, E_cn, E_ct, mo_NoCertificate⟩, kit_typ (by decide +kernel) sv_NoCertificate⟩) (an_cons (by rw [m_TooMany]; exact ⟨⟨ga_TooMany, gg_TooMany, ex_TooMany, hd_TooMany, ca_TooMany, E_cn, E_ct, mo_TooMany⟩, kit_typ (by decide +kernel) sv_TooMany⟩) (an_cons (by rw [m_NotAllowed]; exact ⟨⟨ga_NotAllowed, gg_NotAllowed, ex_NotAllowed, hd_NotAllowed, ca_NotAllowed, E_cn, E_ct, mo_NotAllowed⟩, kit_typ (by decide +kernel) sv_NotAllowed⟩) (an_cons (by rw [m_NoWish]; exact ⟨⟨ga_NoWish, gg_NoWish, ex_NoWish, hd_NoWish, ca_NoWish, E_cn, E_ct, mo_NoWish⟩, kit_typ (by decide +kernel) sv_NoWish⟩) (an_cons (by rw [m_NoCosts]; exact ⟨⟨ga_NoCosts, gg_NoCosts, ex_NoCosts, hd_NoCosts, ca_NoCosts, E_cn, E_ct, mo_NoCosts⟩, kit_typ (by decide +kernel) sv_NoCosts⟩) an_nil))))))))))), kB_SlotError := by rw [m_SlotError]; exact kit_ref hd_SlotError ty_SlotError sm_SlotError sB_SlotError, sb := by rw [m_SlotError]; exact ⟨PySem.W.mg_of X G n_SlotError, S_rd, S_ga, S_in⟩ }
  have F_NoMove_init := fun_mk (st := st_NoMove_init) l_NoMove_init c_NoMove_init k_NoMove_init
  have bd_NoMove_init := F_NoMove_init.binds (ps := ["self", "index"]) fun _ _ _ _ _ _ us hl => match us, hl with | [_, _], _ => rfl
  have F_NoAppointment_init := fun_mk (st := st_NoAppointment_init) l_NoAppointment_init c_NoAppointment_init k_NoAppointment_init
  have bd_NoAppointment_init := F_NoAppointment_init.binds (ps := ["self", "appointment"]) fun _ _ _ _ _ _ us hl => match us, hl with | [_, _], _ => rfl
  have F_NoWish_init := fun_mk (st := st_NoWish_init) l_NoWish_init c_NoWish_init k_NoWish_init
  have bd_NoWish_init := F_NoWish_init.binds (ps := ["self", "key"]) fun _ _ _ _ _ _ us hl => match us, hl with | [_, _], _ => rfl
  have F_NoSlot_init := fun_mk (st := st_NoSlot_init) l_NoSlot_init c_NoSlot_init k_NoSlot_init
  have bd_NoSlot_init := F_NoSlot_init.binds (ps := ["self", "slot"]) fun _ _ _ _ _ _ us hl => match us, hl with | [_, _], _ => rfl
  have F_NoCertificate_init := fun_mk (st := st_NoCertificate_init) l_NoCertificate_init c_NoCertificate_init k_NoCertificate_init
  have bd_NoCertificate_init := F_NoCertificate_init.binds (ps := ["self", "index"]) fun _ _ _ _ _ _ us hl => match us, hl with | [_, _], _ => rfl
  have F_NoCosts_init := fun_mk (st := st_NoCosts_init) l_NoCosts_init c_NoCosts_init k_NoCosts_init
  have bd_NoCosts_init := F_NoCosts_init.binds (ps := ["self", "index"]) fun _ _ _ _ _ _ us hl => match us, hl with | [_, _], _ => rfl
  have F_NoBook_init := fun_mk (st := st_NoBook_init) l_NoBook_init c_NoBook_init k_NoBook_init
  have bd_NoBook_init := F_NoBook_init.binds (ps := ["self", "index"]) fun _ _ _ _ _ _ us hl => match us, hl with | [_, _], _ => rfl
  have F_NotAllowed_init := fun_mk (st := st_NotAllowed_init) l_NotAllowed_init c_NotAllowed_init k_NotAllowed_init
  have bd_NotAllowed_init := F_NotAllowed_init.binds (ps := ["self", "slot"]) fun _ _ _ _ _ _ us hl => match us, hl with | [_, _], _ => rfl
  have F_Frozen_init := fun_mk (st := st_Frozen_init) l_Frozen_init c_Frozen_init k_Frozen_init
  have bd_Frozen_init := F_Frozen_init.binds (ps := ["self", "slots"]) fun _ _ _ _ _ _ us hl => match us, hl with | [_, _], _ => rfl
  have F_NoTimetable_init := fun_mk (st := st_NoTimetable_init) l_NoTimetable_init c_NoTimetable_init k_NoTimetable_init
  have bd_NoTimetable_init := F_NoTimetable_init.binds (ps := ["self", "index"]) fun _ _ _ _ _ _ us hl => match us, hl with | [_, _], _ => rfl
  have F_TooMany_init := fun_mk (st := st_TooMany_init) l_TooMany_init c_TooMany_init k_TooMany_init
  have bd_TooMany_init := F_TooMany_init.binds (ps := ["self", "most"]) fun _ _ _ _ _ _ us hl => match us, hl with | [_, _], _ => rfl
  have F_law_draw := fun_mk (st := st_law_draw) l_law_draw c_law_draw k_law_draw
  have bd_law_draw := F_law_draw.binds (ps := ["well", "many"]) fun _ _ _ _ _ _ us hl => match us, hl with | [_, _], _ => rfl
  have F_law_fields := fun_mk (st := st_law_fields) l_law_fields c_law_fields k_law_fields
  have bd_law_fields := F_law_fields.binds (ps := ["some"]) fun _ _ _ _ _ _ us hl => match us, hl with | [_], _ => rfl
  have F_law_taken := fun_mk (st := st_law_taken) l_law_taken c_law_taken k_law_taken
  have bd_law_taken := F_law_taken.binds (ps := ["e"]) fun _ _ _ _ _ _ us hl => match us, hl with | [_], _ => rfl
  have F_law_by_name := fun_mk (st := st_law_by_name) l_law_by_name c_law_by_name k_law_by_name
  have bd_law_by_name := F_law_by_name.binds (ps := ["x"]) fun _ _ _ _ _ _ us hl => match us, hl with | [_], _ => rfl
  have F_law_by_place := fun_mk (st := st_law_by_place) l_law_by_place c_law_by_place k_law_by_place
  have bd_law_by_place := F_law_by_place.binds (ps := ["x"]) fun _ _ _ _ _ _ us hl => match us, hl with | [_], _ => rfl
  have F_law_right := fun_mk (st := st_law_right) l_law_right c_law_right k_law_right
  have bd_law_right := F_law_right.binds (ps := ["well"]) fun _ _ _ _ _ _ us hl => match us, hl with | [_], _ => rfl
  have F_law := fun_mk (st := st_law) l_law c_law k_law
  refine ⟨[], PySem.W.fnOf "law" "law" (defArgs st_law) (defBody st_law) (defScope st_law) .none kV_law dc_law pm_law an_law cd_law ct_law, (fun p hp => by cases hp), fun s v => .of_eq rfl, fun base _ _ tB => ?_⟩
  have e_NoBook : ExK K mg cm fld "NoBook" := ⟨by rw [m_NoBook]; exact ⟨⟨nm_NoBook, q_NoBook, N_NoBook, bs_NoBook, bm_NoBook, sn_NoBook, sub_NoBook, ab_NoBook, col_NoBook, dd_NoBook, m0_NoBook, m1_NoBook, m2_NoBook, m3_NoBook, m5_NoBook, x_NoBook, rv_NoBook⟩, sa_NoBook, ex_NoBook, ty_NoBook, kc_NoBook⟩, T.f_NoBook.symm ▸ T.no_NoBook, by rw [m_NoBook]; exact PySem.W.mg_of X G n_NoBook, by rw [m_NoBook]; exact ⟨ga_NoBook, gg_NoBook, ex_NoBook, hd_NoBook⟩⟩
  have e_NoTimetable : ExK K mg cm fld "NoTimetable" := ⟨by rw [m_NoTimetable]; exact ⟨⟨nm_NoTimetable, q_NoTimetable, N_NoTimetable, bs_NoTimetable, bm_NoTimetable, sn_NoTimetable, sub_NoTimetable, ab_NoTimetable, col_NoTimetable, dd_NoTimetable, m0_NoTimetable, m1_NoTimetable, m2_NoTimetable, m3_NoTimetable, m5_NoTimetable, x_NoTimetable, rv_NoTimetable⟩, sa_NoTimetable, ex_NoTimetable, ty_NoTimetable, kc_NoTimetable⟩, T.f_NoTimetable.symm ▸ T.no_NoTimetable, by rw [m_NoTimetable]; exact PySem.W.mg_of X G n_NoTimetable, by rw [m_NoTimetable]; exact ⟨ga_NoTimetable, gg_NoTimetable, ex_NoTimetable, hd_NoTimetable⟩⟩
  have e_NoMove : ExK K mg cm fld "NoMove" := ⟨by rw [m_NoMove]; exact ⟨⟨nm_NoMove, q_NoMove, N_NoMove, bs_NoMove, bm_NoMove, sn_NoMove, sub_NoMove, ab_NoMove, col_NoMove, dd_NoMove, m0_NoMove, m1_NoMove, m2_NoMove, m3_NoMove, m5_NoMove, x_NoMove, rv_NoMove⟩, sa_NoMove, ex_NoMove, ty_NoMove, kc_NoMove⟩, T.f_NoMove.symm ▸ T.no_NoMove, by rw [m_NoMove]; exact PySem.W.mg_of X G n_NoMove, by rw [m_NoMove]; exact ⟨ga_NoMove, gg_NoMove, ex_NoMove, hd_NoMove⟩⟩
  have e_NoSlot : ExK K mg cm fld "NoSlot" := ⟨by rw [m_NoSlot]; exact ⟨⟨nm_NoSlot, q_NoSlot, N_NoSlot, bs_NoSlot, bm_NoSlot, sn_NoSlot, sub_NoSlot, ab_NoSlot, col_NoSlot, dd_NoSlot, m0_NoSlot, m1_NoSlot, m2_NoSlot, m3_NoSlot, m5_NoSlot, x_NoSlot, rv_NoSlot⟩, sa_NoSlot, ex_NoSlot, ty_NoSlot, kc_NoSlot⟩, T.f_NoSlot.symm ▸ T.no_NoSlot, by rw [m_NoSlot]; exact PySem.W.mg_of X G n_NoSlot, by rw [m_NoSlot]; exact ⟨ga_NoSlot, gg_NoSlot, ex_NoSlot, hd_NoSlot⟩⟩
  have e_NoAppointment : ExK K mg cm fld "NoAppointment" := ⟨by rw [m_NoAppointment]; exact ⟨⟨nm_NoAppointment, q_NoAppointment, N_NoAppointment, bs_NoAppointment, bm_NoAppointment, sn_NoAppointment, sub_NoAppointment, ab_NoAppointment, col_NoAppointment, dd_NoAppointment, m0_NoAppointment, m1_NoAppointment, m2_NoAppointment, m3_NoAppointment, m5_NoAppointment, x_NoAppointment, rv_NoAppointment⟩, sa_NoAppointment, ex_NoAppointment, ty_NoAppointment, kc_NoAppointment⟩, T.f_NoAppointment.symm ▸ T.no_NoAppointment, by rw [m_NoAppointment]; exact PySem.W.mg_of X G n_NoAppointment, by rw [m_NoAppointment]; exact ⟨ga_NoAppointment, gg_NoAppointment, ex_NoAppointment, hd_NoAppointment⟩⟩
  have e_Frozen : ExK K mg cm fld "Frozen" := ⟨by rw [m_Frozen]; exact ⟨⟨nm_Frozen, q_Frozen, N_Frozen, bs_Frozen, bm_Frozen, sn_Frozen, sub_Frozen, ab_Frozen, col_Frozen, dd_Frozen, m0_Frozen, m1_Frozen, m2_Frozen, m3_Frozen, m5_Frozen, x_Frozen, rv_Frozen⟩, sa_Frozen, ex_Frozen, ty_Frozen, kc_Frozen⟩, T.f_Frozen.symm ▸ T.no_Frozen, by rw [m_Frozen]; exact PySem.W.mg_of X G n_Frozen, by rw [m_Frozen]; exact ⟨ga_Frozen, gg_Frozen, ex_Frozen, hd_Frozen⟩⟩
  have e_NoCertificate : ExK K mg cm fld "NoCertificate" := ⟨by rw [m_NoCertificate]; exact ⟨⟨nm_NoCertificate, q_NoCertificate, N_NoCertificate, bs_NoCertificate, bm_NoCertificate, sn_NoCertificate, sub_NoCertificate, ab_NoCertificate, col_NoCertificate, dd_NoCertificate, m0_NoCertificate, m1_NoCertificate, m2_NoCertificate, m3_NoCertificate, m5_NoCertificate, x_NoCertificate, rv_NoCertificate⟩, sa_NoCertificate, ex_NoCertificate, ty_NoCertificate, kc_NoCertificate⟩, T.f_NoCertificate.symm ▸ T.no_NoCertificate, by rw [m_NoCertificate]; exact PySem.W.mg_of X G n_NoCertificate, by rw [m_NoCertificate]; exact ⟨ga_NoCertificate, gg_NoCertificate, ex_NoCertificate, hd_NoCertificate⟩⟩
  have e_TooMany : ExK K mg cm fld "TooMany" := ⟨by rw [m_TooMany]; exact ⟨⟨nm_TooMany, q_TooMany, N_TooMany, bs_TooMany, bm_TooMany, sn_TooMany, sub_TooMany, ab_TooMany, col_TooMany, dd_TooMany, m0_TooMany, m1_TooMany, m2_TooMany, m3_TooMany, m5_TooMany, x_TooMany, rv_TooMany⟩, sa_TooMany, ex_TooMany, ty_TooMany, kc_TooMany⟩, T.f_TooMany.symm ▸ T.no_TooMany, by rw [m_TooMany]; exact PySem.W.mg_of X G n_TooMany, by rw [m_TooMany]; exact ⟨ga_TooMany, gg_TooMany, ex_TooMany, hd_TooMany⟩⟩
  have e_NotAllowed : ExK K mg cm fld "NotAllowed" := ⟨by rw [m_NotAllowed]; exact ⟨⟨nm_NotAllowed, q_NotAllowed, N_NotAllowed, bs_NotAllowed, bm_NotAllowed, sn_NotAllowed, sub_NotAllowed, ab_NotAllowed, col_NotAllowed, dd_NotAllowed, m0_NotAllowed, m1_NotAllowed, m2_NotAllowed, m3_NotAllowed, m5_NotAllowed, x_NotAllowed, rv_NotAllowed⟩, sa_NotAllowed, ex_NotAllowed, ty_NotAllowed, kc_NotAllowed⟩, T.f_NotAllowed.symm ▸ T.no_NotAllowed, by rw [m_NotAllowed]; exact PySem.W.mg_of X G n_NotAllowed, by rw [m_NotAllowed]; exact ⟨ga_NotAllowed, gg_NotAllowed, ex_NotAllowed, hd_NotAllowed⟩⟩
  have e_NoWish : ExK K mg cm fld "NoWish" := ⟨by rw [m_NoWish]; exact ⟨⟨nm_NoWish, q_NoWish, N_NoWish, bs_NoWish, bm_NoWish, sn_NoWish, sub_NoWish, ab_NoWish, col_NoWish, dd_NoWish, m0_NoWish, m1_NoWish, m2_NoWish, m3_NoWish, m5_NoWish, x_NoWish, rv_NoWish⟩, sa_NoWish, ex_NoWish, ty_NoWish, kc_NoWish⟩, T.f_NoWish.symm ▸ T.no_NoWish, by rw [m_NoWish]; exact PySem.W.mg_of X G n_NoWish, by rw [m_NoWish]; exact ⟨ga_NoWish, gg_NoWish, ex_NoWish, hd_NoWish⟩⟩
  have e_NoCosts : ExK K mg cm fld "NoCosts" := ⟨by rw [m_NoCosts]; exact ⟨⟨nm_NoCosts, q_NoCosts, N_NoCosts, bs_NoCosts, bm_NoCosts, sn_NoCosts, sub_NoCosts, ab_NoCosts, col_NoCosts, dd_NoCosts, m0_NoCosts, m1_NoCosts, m2_NoCosts, m3_NoCosts, m5_NoCosts, x_NoCosts, rv_NoCosts⟩, sa_NoCosts, ex_NoCosts, ty_NoCosts, kc_NoCosts⟩, T.f_NoCosts.symm ▸ T.no_NoCosts, by rw [m_NoCosts]; exact PySem.W.mg_of X G n_NoCosts, by rw [m_NoCosts]; exact ⟨ga_NoCosts, gg_NoCosts, ex_NoCosts, hd_NoCosts⟩⟩
  have XK_NoMove : ExIK P w K mg base cm fld "NoMove" := _root_.Mi.kk_NoMove_init T e_NoMove F_NoMove_init (by rw [m_NoMove]; exact a_NoMove_init) t_NoMove_init bd_NoMove_init (kw_b F_NoMove_init fun _ _ _ _ _ _ us ws h1 h2 => match us, ws, h1, h2 with | [_], [_], _, _ => rfl)
  have X_NoMove : ExI P w K mg base cm fld "NoMove" := _root_.Mi.k_NoMove_init T e_NoMove F_NoMove_init (by rw [m_NoMove]; exact a_NoMove_init) t_NoMove_init bd_NoMove_init
  have XK_NoAppointment : ExIK P w K mg base cm fld "NoAppointment" := _root_.Mi.kk_NoAppointment_init T e_NoAppointment F_NoAppointment_init (by rw [m_NoAppointment]; exact a_NoAppointment_init) t_NoAppointment_init bd_NoAppointment_init (kw_b F_NoAppointment_init fun _ _ _ _ _ _ us ws h1 h2 => match us, ws, h1, h2 with | [_], [_], _, _ => rfl)
  have X_NoAppointment : ExI P w K mg base cm fld "NoAppointment" := _root_.Mi.k_NoAppointment_init T e_NoAppointment F_NoAppointment_init (by rw [m_NoAppointment]; exact a_NoAppointment_init) t_NoAppointment_init bd_NoAppointment_init
  have XK_NoWish : ExIK P w K mg base cm fld "NoWish" := _root_.Mi.kk_NoWish_init T e_NoWish F_NoWish_init (by rw [m_NoWish]; exact a_NoWish_init) t_NoWish_init bd_NoWish_init (kw_b F_NoWish_init fun _ _ _ _ _ _ us ws h1 h2 => match us, ws, h1, h2 with | [_], [_], _, _ => rfl)
  have X_NoWish : ExI P w K mg base cm fld "NoWish" := _root_.Mi.k_NoWish_init T e_NoWish F_NoWish_init (by rw [m_NoWish]; exact a_NoWish_init) t_NoWish_init bd_NoWish_init
  have XK_NoSlot : ExIK P w K mg base cm fld "NoSlot" := _root_.Mi.kk_NoSlot_init T e_NoSlot F_NoSlot_init (by rw [m_NoSlot]; exact a_NoSlot_init) t_NoSlot_init bd_NoSlot_init (kw_b F_NoSlot_init fun _ _ _ _ _ _ us ws h1 h2 => match us, ws, h1, h2 with | [_], [_], _, _ => rfl)
  have X_NoSlot : ExI P w K mg base cm fld "NoSlot" := _root_.Mi.k_NoSlot_init T e_NoSlot F_NoSlot_init (by rw [m_NoSlot]; exact a_NoSlot_init) t_NoSlot_init bd_NoSlot_init
  have XK_NoCertificate : ExIK P w K mg base cm fld "NoCertificate" := _root_.Mi.kk_NoCertificate_init T e_NoCertificate F_NoCertificate_init (by rw [m_NoCertificate]; exact a_NoCertificate_init) t_NoCertificate_init bd_NoCertificate_init (kw_b F_NoCertificate_init fun _ _ _ _ _ _ us ws h1 h2 => match us, ws, h1, h2 with | [_], [_], _, _ => rfl)
  have X_NoCertificate : ExI P w K mg base cm fld "NoCertificate" := _root_.Mi.k_NoCertificate_init T e_NoCertificate F_NoCertificate_init (by rw [m_NoCertificate]; exact a_NoCertificate_init) t_NoCertificate_init bd_NoCertificate_init
  have XK_NoCosts : ExIK P w K mg base cm fld "NoCosts" := _root_.Mi.kk_NoCosts_init T e_NoCosts F_NoCosts_init (by rw [m_NoCosts]; exact a_NoCosts_init) t_NoCosts_init bd_NoCosts_init (kw_b F_NoCosts_init fun _ _ _ _ _ _ us ws h1 h2 => match us, ws, h1, h2 with | [_], [_], _, _ => rfl)
  have X_NoCosts : ExI P w K mg base cm fld "NoCosts" := _root_.Mi.k_NoCosts_init T e_NoCosts F_NoCosts_init (by rw [m_NoCosts]; exact a_NoCosts_init) t_NoCosts_init bd_NoCosts_init
  have XK_NoBook : ExIK P w K mg base cm fld "NoBook" := _root_.Mi.kk_NoBook_init T e_NoBook F_NoBook_init (by rw [m_NoBook]; exact a_NoBook_init) t_NoBook_init bd_NoBook_init (kw_b F_NoBook_init fun _ _ _ _ _ _ us ws h1 h2 => match us, ws, h1, h2 with | [_], [_], _, _ => rfl)
  have X_NoBook : ExI P w K mg base cm fld "NoBook" := _root_.Mi.k_NoBook_init T e_NoBook F_NoBook_init (by rw [m_NoBook]; exact a_NoBook_init) t_NoBook_init bd_NoBook_init
  have XK_NotAllowed : ExIK P w K mg base cm fld "NotAllowed" := _root_.Mi.kk_NotAllowed_init T e_NotAllowed F_NotAllowed_init (by rw [m_NotAllowed]; exact a_NotAllowed_init) t_NotAllowed_init bd_NotAllowed_init (kw_b F_NotAllowed_init fun _ _ _ _ _ _ us ws h1 h2 => match us, ws, h1, h2 with | [_], [_], _, _ => rfl)
  have X_NotAllowed : ExI P w K mg base cm fld "NotAllowed" := _root_.Mi.k_NotAllowed_init T e_NotAllowed F_NotAllowed_init (by rw [m_NotAllowed]; exact a_NotAllowed_init) t_NotAllowed_init bd_NotAllowed_init
  have XK_Frozen : ExIK P w K mg base cm fld "Frozen" := _root_.Mi.kk_Frozen_init T e_Frozen F_Frozen_init (by rw [m_Frozen]; exact a_Frozen_init) t_Frozen_init bd_Frozen_init (kw_b F_Frozen_init fun _ _ _ _ _ _ us ws h1 h2 => match us, ws, h1, h2 with | [_], [_], _, _ => rfl)
  have X_Frozen : ExI P w K mg base cm fld "Frozen" := _root_.Mi.k_Frozen_init T e_Frozen F_Frozen_init (by rw [m_Frozen]; exact a_Frozen_init) t_Frozen_init bd_Frozen_init
  have XK_NoTimetable : ExIK P w K mg base cm fld "NoTimetable" := _root_.Mi.kk_NoTimetable_init T e_NoTimetable F_NoTimetable_init (by rw [m_NoTimetable]; exact a_NoTimetable_init) t_NoTimetable_init bd_NoTimetable_init (kw_b F_NoTimetable_init fun _ _ _ _ _ _ us ws h1 h2 => match us, ws, h1, h2 with | [_], [_], _, _ => rfl)
  have X_NoTimetable : ExI P w K mg base cm fld "NoTimetable" := _root_.Mi.k_NoTimetable_init T e_NoTimetable F_NoTimetable_init (by rw [m_NoTimetable]; exact a_NoTimetable_init) t_NoTimetable_init bd_NoTimetable_init
  have XK_TooMany : ExIK P w K mg base cm fld "TooMany" := _root_.Mi.kk_TooMany_init T e_TooMany F_TooMany_init (by rw [m_TooMany]; exact a_TooMany_init) t_TooMany_init bd_TooMany_init (kw_b F_TooMany_init fun _ _ _ _ _ _ us ws h1 h2 => match us, ws, h1, h2 with | [_], [_], _, _ => rfl)
  have X_TooMany : ExI P w K mg base cm fld "TooMany" := _root_.Mi.k_TooMany_init T e_TooMany F_TooMany_init (by rw [m_TooMany]; exact a_TooMany_init) t_TooMany_init bd_TooMany_init
  have Z_law_draw := _root_.Mi.k_law_draw (P := P) (w := w) (base := base) T  F_law_draw (PySem.W.mg_of X G a_law_draw) bd_law_draw
  have Z_law_fields := _root_.Mi.k_law_fields (P := P) (w := w) (base := base) T  F_law_fields (PySem.W.mg_of X G a_law_fields) bd_law_fields
  have Z_law_taken := _root_.Mi.k_law_taken (P := P) (w := w) (base := base) T  F_law_taken (PySem.W.mg_of X G a_law_taken) bd_law_taken
  have Z_law_by_name := _root_.Mi.k_law_by_name (P := P) (w := w) (base := base) T XK_NoBook XK_NoTimetable XK_NoMove XK_NoSlot XK_NoAppointment XK_Frozen XK_NoCertificate XK_TooMany XK_NotAllowed XK_NoWish XK_NoCosts F_law_by_name (PySem.W.mg_of X G a_law_by_name) bd_law_by_name
  have Z_law_by_place := _root_.Mi.k_law_by_place (P := P) (w := w) (base := base) T X_NoBook X_NoTimetable X_NoMove X_NoSlot X_NoAppointment X_Frozen X_NoCertificate X_TooMany X_NotAllowed X_NoWish X_NoCosts F_law_by_place (PySem.W.mg_of X G a_law_by_place) bd_law_by_place
  have Z_law_right := _root_.Mi.k_law_right (P := P) (w := w) (base := base) T Z_law_draw Z_law_by_place Z_law_by_name Z_law_fields Z_law_taken F_law_right (PySem.W.mg_of X G a_law_right) bd_law_right
  exact law_endT (m_T ▸ law_end (_root_.Mi.k_law (P := P) (w := w) (base := base) T Z_law_right F_law) law_true) rfl
end Mi
open PySem PySem.W PyProof.Rows
set_option maxRecDepth 100000 in
set_option maxHeartbeats 0 in
theorem PySem.Challenge.cw_reslot_k19_exceptions_holds : PySem.Challenge.rw_reslot_k19_exceptions.Holds := by
  w_on; o_law; k_head; (case hw => w_witness2)
  k_fill
  refine Mi.walkT (l := PySem.Challenge.rw_reslot_k19_exceptions) (k := 5) (x := "script") (CX := fun w => L2.CX PySem.Challenge.rw_reslot_k19_exceptions.prog w) (sp := fun w ts => Mi.spLT _ Mi.lamNames ts) rfl (by decide) rfl ⟨rfl, by decide, by decide⟩ (fun w h Y => by first | exact PySem.W.kIn_of Y | exact PySem.W.km_in_of Y) ?F (fun w ts J a ns hl nt nz hS => Mi.spLT_in hl nt nz hS) (fun w H s e s' => Mi.cx_no)
  case F =>
    intro w mg fa h KX G hmg top
    refine' Mi.all_mk KX G hmg top ?n_SlotError ?n_NoBook ?n_NoTimetable ?n_NoMove ?n_NoSlot ?n_NoAppointment ?n_Frozen ?n_NoCertificate ?n_TooMany ?n_NotAllowed ?n_NoWish ?n_NoCosts ?a_NoMove_init ?t_NoMove_init ?l_NoMove_init ?c_NoMove_init ?k_NoMove_init ?a_NoAppointment_init ?t_NoAppointment_init ?l_NoAppointment_init ?c_NoAppointment_init ?k_NoAppointment_init ?a_NoWish_init ?t_NoWish_init ?l_NoWish_init ?c_NoWish_init ?k_NoWish_init ?a_NoSlot_init ?t_NoSlot_init ?l_NoSlot_init ?c_NoSlot_init ?k_NoSlot_init ?a_NoCertificate_init ?t_NoCertificate_init ?l_NoCertificate_init ?c_NoCertificate_init ?k_NoCertificate_init ?a_NoCosts_init ?t_NoCosts_init ?l_NoCosts_init ?c_NoCosts_init ?k_NoCosts_init ?a_NoBook_init ?t_NoBook_init ?l_NoBook_init ?c_NoBook_init ?k_NoBook_init ?a_NotAllowed_init ?t_NotAllowed_init ?l_NotAllowed_init ?c_NotAllowed_init ?k_NotAllowed_init ?a_Frozen_init ?t_Frozen_init ?l_Frozen_init ?c_Frozen_init ?k_Frozen_init ?a_NoTimetable_init ?t_NoTimetable_init ?l_NoTimetable_init ?c_NoTimetable_init ?k_NoTimetable_init ?a_TooMany_init ?t_TooMany_init ?l_TooMany_init ?c_TooMany_init ?k_TooMany_init ?a_law_draw ?l_law_draw ?c_law_draw ?k_law_draw ?a_law_fields ?l_law_fields ?c_law_fields ?k_law_fields ?a_law_taken ?l_law_taken ?c_law_taken ?k_law_taken ?a_law_by_name ?l_law_by_name ?c_law_by_name ?k_law_by_name ?a_law_by_place ?l_law_by_place ?c_law_by_place ?k_law_by_place ?a_law_right ?l_law_right ?c_law_right ?k_law_right ?a_law ?l_law ?c_law ?k_law ?x_NoBook ?rv_NoBook ?sa_NoBook ?ex_NoBook ?ty_NoBook ?kc_NoBook ?nf_NoBook ?ga_NoBook ?gg_NoBook ?hd_NoBook ?em_NoBook ?x_NoTimetable ?rv_NoTimetable ?sa_NoTimetable ?ex_NoTimetable ?ty_NoTimetable ?kc_NoTimetable ?nf_NoTimetable ?ga_NoTimetable ?gg_NoTimetable ?hd_NoTimetable ?em_NoTimetable ?x_NoMove ?rv_NoMove ?sa_NoMove ?ex_NoMove ?ty_NoMove ?kc_NoMove ?nf_NoMove ?ga_NoMove ?gg_NoMove ?hd_NoMove ?em_NoMove ?x_NoSlot ?rv_NoSlot ?sa_NoSlot ?ex_NoSlot ?ty_NoSlot ?kc_NoSlot ?nf_NoSlot ?ga_NoSlot ?gg_NoSlot ?hd_NoSlot ?em_NoSlot ?x_NoAppointment ?rv_NoAppointment ?sa_NoAppointment ?ex_NoAppointment ?ty_NoAppointment ?kc_NoAppointment ?nf_NoAppointment ?ga_NoAppointment ?gg_NoAppointment ?hd_NoAppointment ?em_NoAppointment ?x_Frozen ?rv_Frozen ?sa_Frozen ?ex_Frozen ?ty_Frozen ?kc_Frozen ?nf_Frozen ?ga_Frozen ?gg_Frozen ?hd_Frozen ?em_Frozen ?x_NoCertificate ?rv_NoCertificate ?sa_NoCertificate ?ex_NoCertificate ?ty_NoCertificate ?kc_NoCertificate ?nf_NoCertificate ?ga_NoCertificate ?gg_NoCertificate ?hd_NoCertificate ?em_NoCertificate ?x_TooMany ?rv_TooMany ?sa_TooMany ?ex_TooMany ?ty_TooMany ?kc_TooMany ?nf_TooMany ?ga_TooMany ?gg_TooMany ?hd_TooMany ?em_TooMany ?x_NotAllowed ?rv_NotAllowed ?sa_NotAllowed ?ex_NotAllowed ?ty_NotAllowed ?kc_NotAllowed ?nf_NotAllowed ?ga_NotAllowed ?gg_NotAllowed ?hd_NotAllowed ?em_NotAllowed ?x_NoWish ?rv_NoWish ?sa_NoWish ?ex_NoWish ?ty_NoWish ?kc_NoWish ?nf_NoWish ?ga_NoWish ?gg_NoWish ?hd_NoWish ?em_NoWish ?x_NoCosts ?rv_NoCosts ?sa_NoCosts ?ex_NoCosts ?ty_NoCosts ?kc_NoCosts ?nf_NoCosts ?ga_NoCosts ?gg_NoCosts ?hd_NoCosts ?em_NoCosts ?ca_NoBook ?mo_NoBook ?ca_NoTimetable ?mo_NoTimetable ?ca_NoMove ?mo_NoMove ?ca_NoSlot ?mo_NoSlot ?ca_NoAppointment ?mo_NoAppointment ?ca_Frozen ?mo_Frozen ?ca_NoCertificate ?mo_NoCertificate ?ca_TooMany ?mo_TooMany ?ca_NotAllowed ?mo_NotAllowed ?ca_NoWish ?mo_NoWish ?ca_NoCosts ?mo_NoCosts ?E_cn ?E_ct ?sm_Frozen ?sb_NoBook_Frozen ?sb_NoTimetable_Frozen ?sb_NoMove_Frozen ?sb_NoSlot_Frozen ?sb_NoAppointment_Frozen ?sb_NoCertificate_Frozen ?sb_TooMany_Frozen ?sb_NotAllowed_Frozen ?sb_NoWish_Frozen ?sb_NoCosts_Frozen ?sm_NoAppointment ?sb_NoBook_NoAppointment ?sb_NoTimetable_NoAppointment ?sb_NoMove_NoAppointment ?sb_NoSlot_NoAppointment ?sb_Frozen_NoAppointment ?sb_NoCertificate_NoAppointment ?sb_TooMany_NoAppointment ?sb_NotAllowed_NoAppointment ?sb_NoWish_NoAppointment ?sb_NoCosts_NoAppointment ?sm_NoBook ?sb_NoTimetable_NoBook ?sb_NoMove_NoBook ?sb_NoSlot_NoBook ?sb_NoAppointment_NoBook ?sb_Frozen_NoBook ?sb_NoCertificate_NoBook ?sb_TooMany_NoBook ?sb_NotAllowed_NoBook ?sb_NoWish_NoBook ?sb_NoCosts_NoBook ?sm_NoCertificate ?sb_NoBook_NoCertificate ?sb_NoTimetable_NoCertificate ?sb_NoMove_NoCertificate ?sb_NoSlot_NoCertificate ?sb_NoAppointment_NoCertificate ?sb_Frozen_NoCertificate ?sb_TooMany_NoCertificate ?sb_NotAllowed_NoCertificate ?sb_NoWish_NoCertificate ?sb_NoCosts_NoCertificate ?sm_NoCosts ?sb_NoBook_NoCosts ?sb_NoTimetable_NoCosts ?sb_NoMove_NoCosts ?sb_NoSlot_NoCosts ?sb_NoAppointment_NoCosts ?sb_Frozen_NoCosts ?sb_NoCertificate_NoCosts ?sb_TooMany_NoCosts ?sb_NotAllowed_NoCosts ?sb_NoWish_NoCosts ?sm_NoMove ?sb_NoBook_NoMove ?sb_NoTimetable_NoMove ?sb_NoSlot_NoMove ?sb_NoAppointment_NoMove ?sb_Frozen_NoMove ?sb_NoCertificate_NoMove ?sb_TooMany_NoMove ?sb_NotAllowed_NoMove ?sb_NoWish_NoMove ?sb_NoCosts_NoMove ?sm_NoSlot ?sb_NoBook_NoSlot ?sb_NoTimetable_NoSlot ?sb_NoMove_NoSlot ?sb_NoAppointment_NoSlot ?sb_Frozen_NoSlot ?sb_NoCertificate_NoSlot ?sb_TooMany_NoSlot ?sb_NotAllowed_NoSlot ?sb_NoWish_NoSlot ?sb_NoCosts_NoSlot ?sm_NoTimetable ?sb_NoBook_NoTimetable ?sb_NoMove_NoTimetable ?sb_NoSlot_NoTimetable ?sb_NoAppointment_NoTimetable ?sb_Frozen_NoTimetable ?sb_NoCertificate_NoTimetable ?sb_TooMany_NoTimetable ?sb_NotAllowed_NoTimetable ?sb_NoWish_NoTimetable ?sb_NoCosts_NoTimetable ?sm_NoWish ?sb_NoBook_NoWish ?sb_NoTimetable_NoWish ?sb_NoMove_NoWish ?sb_NoSlot_NoWish ?sb_NoAppointment_NoWish ?sb_Frozen_NoWish ?sb_NoCertificate_NoWish ?sb_TooMany_NoWish ?sb_NotAllowed_NoWish ?sb_NoCosts_NoWish ?sm_NotAllowed ?sb_NoBook_NotAllowed ?sb_NoTimetable_NotAllowed ?sb_NoMove_NotAllowed ?sb_NoSlot_NotAllowed ?sb_NoAppointment_NotAllowed ?sb_Frozen_NotAllowed ?sb_NoCertificate_NotAllowed ?sb_TooMany_NotAllowed ?sb_NoWish_NotAllowed ?sb_NoCosts_NotAllowed ?hd_SlotError ?ty_SlotError ?sm_SlotError ?sb_NoBook_SlotError ?sb_NoTimetable_SlotError ?sb_NoMove_SlotError ?sb_NoSlot_SlotError ?sb_NoAppointment_SlotError ?sb_Frozen_SlotError ?sb_NoCertificate_SlotError ?sb_TooMany_SlotError ?sb_NotAllowed_SlotError ?sb_NoWish_SlotError ?sb_NoCosts_SlotError ?sB_SlotError ?sm_TooMany ?sb_NoBook_TooMany ?sb_NoTimetable_TooMany ?sb_NoMove_TooMany ?sb_NoSlot_TooMany ?sb_NoAppointment_TooMany ?sb_Frozen_TooMany ?sb_NoCertificate_TooMany ?sb_NotAllowed_TooMany ?sb_NoWish_TooMany ?sb_NoCosts_TooMany ?sv_NoBook ?sv_NoTimetable ?sv_NoMove ?sv_NoSlot ?sv_NoAppointment ?sv_Frozen ?sv_NoCertificate ?sv_TooMany ?sv_NotAllowed ?sv_NoWish ?sv_NoCosts ?S_rd ?S_ga ?S_in ?z_ValueError ?z_enumerate ?z_int ?z_isinstance ?z_range ?t_nd
    (case n_SlotError => k_is)
    (case n_NoBook => k_is)
    (case n_NoTimetable => k_is)
    (case n_NoMove => k_is)
    (case n_NoSlot => k_is)
    (case n_NoAppointment => k_is)
    (case n_Frozen => k_is)
    (case n_NoCertificate => k_is)
    (case n_TooMany => k_is)
    (case n_NotAllowed => k_is)
    (case n_NoWish => k_is)
    (case n_NoCosts => k_is)
    (case a_NoMove_init => k_is)
    (case t_NoMove_init => k_is)
    (case l_NoMove_init => k_is)
    (case c_NoMove_init => k_is)
    (case k_NoMove_init => k_is)
    (case a_NoAppointment_init => k_is)
    (case t_NoAppointment_init => k_is)
    (case l_NoAppointment_init => k_is)
    (case c_NoAppointment_init => k_is)
    (case k_NoAppointment_init => k_is)
    (case a_NoWish_init => k_is)
    (case t_NoWish_init => k_is)
    (case l_NoWish_init => k_is)
    (case c_NoWish_init => k_is)
    (case k_NoWish_init => k_is)
    (case a_NoSlot_init => k_is)
    (case t_NoSlot_init => k_is)
    (case l_NoSlot_init => k_is)
    (case c_NoSlot_init => k_is)
    (case k_NoSlot_init => k_is)
    (case a_NoCertificate_init => k_is)
    (case t_NoCertificate_init => k_is)
    (case l_NoCertificate_init => k_is)
    (case c_NoCertificate_init => k_is)
    (case k_NoCertificate_init => k_is)
    (case a_NoCosts_init => k_is)
    (case t_NoCosts_init => k_is)
    (case l_NoCosts_init => k_is)
    (case c_NoCosts_init => k_is)
    (case k_NoCosts_init => k_is)
    (case a_NoBook_init => k_is)
    (case t_NoBook_init => k_is)
    (case l_NoBook_init => k_is)
    (case c_NoBook_init => k_is)
    (case k_NoBook_init => k_is)
    (case a_NotAllowed_init => k_is)
    (case t_NotAllowed_init => k_is)
    (case l_NotAllowed_init => k_is)
    (case c_NotAllowed_init => k_is)
    (case k_NotAllowed_init => k_is)
    (case a_Frozen_init => k_is)
    (case t_Frozen_init => k_is)
    (case l_Frozen_init => k_is)
    (case c_Frozen_init => k_is)
    (case k_Frozen_init => k_is)
    (case a_NoTimetable_init => k_is)
    (case t_NoTimetable_init => k_is)
    (case l_NoTimetable_init => k_is)
    (case c_NoTimetable_init => k_is)
    (case k_NoTimetable_init => k_is)
    (case a_TooMany_init => k_is)
    (case t_TooMany_init => k_is)
    (case l_TooMany_init => k_is)
    (case c_TooMany_init => k_is)
    (case k_TooMany_init => k_is)
    (case a_law_draw => k_is)
    (case l_law_draw => k_is)
    (case c_law_draw => k_is)
    (case k_law_draw => k_is)
    (case a_law_fields => k_is)
    (case l_law_fields => k_is)
    (case c_law_fields => k_is)
    (case k_law_fields => k_is)
    (case a_law_taken => k_is)
    (case l_law_taken => k_is)
    (case c_law_taken => k_is)
    (case k_law_taken => k_is)
    (case a_law_by_name => k_is)
    (case l_law_by_name => k_is)
    (case c_law_by_name => k_is)
    (case k_law_by_name => k_is)
    (case a_law_by_place => k_is)
    (case l_law_by_place => k_is)
    (case c_law_by_place => k_is)
    (case k_law_by_place => k_is)
    (case a_law_right => k_is)
    (case l_law_right => k_is)
    (case c_law_right => k_is)
    (case k_law_right => k_is)
    (case a_law => k_is)
    (case l_law => k_is)
    (case c_law => k_is)
    (case k_law => k_is)
    (case x_NoBook => k_is)
    (case rv_NoBook => decide +kernel)
    (case sa_NoBook => k_is)
    (case ex_NoBook => k_is)
    (case ty_NoBook => k_is)
    (case kc_NoBook => k_is)
    (case nf_NoBook => k_is)
    (case ga_NoBook => k_is)
    (case gg_NoBook => k_is)
    (case hd_NoBook => k_is)
    (case em_NoBook => refine PySem.W.exm_ref ?_ ?_ ?_ ?_ <;> k_is)
    (case x_NoTimetable => k_is)
    (case rv_NoTimetable => decide +kernel)
    (case sa_NoTimetable => k_is)
    (case ex_NoTimetable => k_is)
    (case ty_NoTimetable => k_is)
    (case kc_NoTimetable => k_is)
    (case nf_NoTimetable => k_is)
    (case ga_NoTimetable => k_is)
    (case gg_NoTimetable => k_is)
    (case hd_NoTimetable => k_is)
    (case em_NoTimetable => refine PySem.W.exm_ref ?_ ?_ ?_ ?_ <;> k_is)
    (case x_NoMove => k_is)
    (case rv_NoMove => decide +kernel)
    (case sa_NoMove => k_is)
    (case ex_NoMove => k_is)
    (case ty_NoMove => k_is)
    (case kc_NoMove => k_is)
    (case nf_NoMove => k_is)
    (case ga_NoMove => k_is)
    (case gg_NoMove => k_is)
    (case hd_NoMove => k_is)
    (case em_NoMove => refine PySem.W.exm_ref ?_ ?_ ?_ ?_ <;> k_is)
    (case x_NoSlot => k_is)
    (case rv_NoSlot => decide +kernel)
    (case sa_NoSlot => k_is)
    (case ex_NoSlot => k_is)
    (case ty_NoSlot => k_is)
    (case kc_NoSlot => k_is)
    (case nf_NoSlot => k_is)
    (case ga_NoSlot => k_is)
    (case gg_NoSlot => k_is)
    (case hd_NoSlot => k_is)
    (case em_NoSlot => refine PySem.W.exm_ref ?_ ?_ ?_ ?_ <;> k_is)
    (case x_NoAppointment => k_is)
    (case rv_NoAppointment => decide +kernel)
    (case sa_NoAppointment => k_is)
    (case ex_NoAppointment => k_is)
    (case ty_NoAppointment => k_is)
    (case kc_NoAppointment => k_is)
    (case nf_NoAppointment => k_is)
    (case ga_NoAppointment => k_is)
    (case gg_NoAppointment => k_is)
    (case hd_NoAppointment => k_is)
    (case em_NoAppointment => refine PySem.W.exm_ref ?_ ?_ ?_ ?_ <;> k_is)
    (case x_Frozen => k_is)
    (case rv_Frozen => decide +kernel)
    (case sa_Frozen => k_is)
    (case ex_Frozen => k_is)
    (case ty_Frozen => k_is)
    (case kc_Frozen => k_is)
    (case nf_Frozen => k_is)
    (case ga_Frozen => k_is)
    (case gg_Frozen => k_is)
    (case hd_Frozen => k_is)
    (case em_Frozen => refine PySem.W.exm_ref ?_ ?_ ?_ ?_ <;> k_is)
    (case x_NoCertificate => k_is)
    (case rv_NoCertificate => decide +kernel)
    (case sa_NoCertificate => k_is)
    (case ex_NoCertificate => k_is)
    (case ty_NoCertificate => k_is)
    (case kc_NoCertificate => k_is)
    (case nf_NoCertificate => k_is)
    (case ga_NoCertificate => k_is)
    (case gg_NoCertificate => k_is)
    (case hd_NoCertificate => k_is)
    (case em_NoCertificate => refine PySem.W.exm_ref ?_ ?_ ?_ ?_ <;> k_is)
    (case x_TooMany => k_is)
    (case rv_TooMany => decide +kernel)
    (case sa_TooMany => k_is)
    (case ex_TooMany => k_is)
    (case ty_TooMany => k_is)
    (case kc_TooMany => k_is)
    (case nf_TooMany => k_is)
    (case ga_TooMany => k_is)
    (case gg_TooMany => k_is)
    (case hd_TooMany => k_is)
    (case em_TooMany => refine PySem.W.exm_ref ?_ ?_ ?_ ?_ <;> k_is)
    (case x_NotAllowed => k_is)
    (case rv_NotAllowed => decide +kernel)
    (case sa_NotAllowed => k_is)
    (case ex_NotAllowed => k_is)
    (case ty_NotAllowed => k_is)
    (case kc_NotAllowed => k_is)
    (case nf_NotAllowed => k_is)
    (case ga_NotAllowed => k_is)
    (case gg_NotAllowed => k_is)
    (case hd_NotAllowed => k_is)
    (case em_NotAllowed => refine PySem.W.exm_ref ?_ ?_ ?_ ?_ <;> k_is)
    (case x_NoWish => k_is)
    (case rv_NoWish => decide +kernel)
    (case sa_NoWish => k_is)
    (case ex_NoWish => k_is)
    (case ty_NoWish => k_is)
    (case kc_NoWish => k_is)
    (case nf_NoWish => k_is)
    (case ga_NoWish => k_is)
    (case gg_NoWish => k_is)
    (case hd_NoWish => k_is)
    (case em_NoWish => refine PySem.W.exm_ref ?_ ?_ ?_ ?_ <;> k_is)
    (case x_NoCosts => k_is)
    (case rv_NoCosts => decide +kernel)
    (case sa_NoCosts => k_is)
    (case ex_NoCosts => k_is)
    (case ty_NoCosts => k_is)
    (case kc_NoCosts => k_is)
    (case nf_NoCosts => k_is)
    (case ga_NoCosts => k_is)
    (case gg_NoCosts => k_is)
    (case hd_NoCosts => k_is)
    (case em_NoCosts => refine PySem.W.exm_ref ?_ ?_ ?_ ?_ <;> k_is)
    (case ca_NoBook => k_is)
    (case mo_NoBook => k_is)
    (case ca_NoTimetable => k_is)
    (case mo_NoTimetable => k_is)
    (case ca_NoMove => k_is)
    (case mo_NoMove => k_is)
    (case ca_NoSlot => k_is)
    (case mo_NoSlot => k_is)
    (case ca_NoAppointment => k_is)
    (case mo_NoAppointment => k_is)
    (case ca_Frozen => k_is)
    (case mo_Frozen => k_is)
    (case ca_NoCertificate => k_is)
    (case mo_NoCertificate => k_is)
    (case ca_TooMany => k_is)
    (case mo_TooMany => k_is)
    (case ca_NotAllowed => k_is)
    (case mo_NotAllowed => k_is)
    (case ca_NoWish => k_is)
    (case mo_NoWish => k_is)
    (case ca_NoCosts => k_is)
    (case mo_NoCosts => k_is)
    (case E_cn => k_is)
    (case E_ct => k_is)
    (case sm_Frozen => k_is)
    (case sb_NoBook_Frozen => k_is)
    (case sb_NoTimetable_Frozen => k_is)
    (case sb_NoMove_Frozen => k_is)
    (case sb_NoSlot_Frozen => k_is)
    (case sb_NoAppointment_Frozen => k_is)
    (case sb_NoCertificate_Frozen => k_is)
    (case sb_TooMany_Frozen => k_is)
    (case sb_NotAllowed_Frozen => k_is)
    (case sb_NoWish_Frozen => k_is)
    (case sb_NoCosts_Frozen => k_is)
    (case sm_NoAppointment => k_is)
    (case sb_NoBook_NoAppointment => k_is)
    (case sb_NoTimetable_NoAppointment => k_is)
    (case sb_NoMove_NoAppointment => k_is)
    (case sb_NoSlot_NoAppointment => k_is)
    (case sb_Frozen_NoAppointment => k_is)
    (case sb_NoCertificate_NoAppointment => k_is)
    (case sb_TooMany_NoAppointment => k_is)
    (case sb_NotAllowed_NoAppointment => k_is)
    (case sb_NoWish_NoAppointment => k_is)
    (case sb_NoCosts_NoAppointment => k_is)
    (case sm_NoBook => k_is)
    (case sb_NoTimetable_NoBook => k_is)
    (case sb_NoMove_NoBook => k_is)
    (case sb_NoSlot_NoBook => k_is)
    (case sb_NoAppointment_NoBook => k_is)
    (case sb_Frozen_NoBook => k_is)
    (case sb_NoCertificate_NoBook => k_is)
    (case sb_TooMany_NoBook => k_is)
    (case sb_NotAllowed_NoBook => k_is)
    (case sb_NoWish_NoBook => k_is)
    (case sb_NoCosts_NoBook => k_is)
    (case sm_NoCertificate => k_is)
    (case sb_NoBook_NoCertificate => k_is)
    (case sb_NoTimetable_NoCertificate => k_is)
    (case sb_NoMove_NoCertificate => k_is)
    (case sb_NoSlot_NoCertificate => k_is)
    (case sb_NoAppointment_NoCertificate => k_is)
    (case sb_Frozen_NoCertificate => k_is)
    (case sb_TooMany_NoCertificate => k_is)
    (case sb_NotAllowed_NoCertificate => k_is)
    (case sb_NoWish_NoCertificate => k_is)
    (case sb_NoCosts_NoCertificate => k_is)
    (case sm_NoCosts => k_is)
    (case sb_NoBook_NoCosts => k_is)
    (case sb_NoTimetable_NoCosts => k_is)
    (case sb_NoMove_NoCosts => k_is)
    (case sb_NoSlot_NoCosts => k_is)
    (case sb_NoAppointment_NoCosts => k_is)
    (case sb_Frozen_NoCosts => k_is)
    (case sb_NoCertificate_NoCosts => k_is)
    (case sb_TooMany_NoCosts => k_is)
    (case sb_NotAllowed_NoCosts => k_is)
    (case sb_NoWish_NoCosts => k_is)
    (case sm_NoMove => k_is)
    (case sb_NoBook_NoMove => k_is)
    (case sb_NoTimetable_NoMove => k_is)
    (case sb_NoSlot_NoMove => k_is)
    (case sb_NoAppointment_NoMove => k_is)
    (case sb_Frozen_NoMove => k_is)
    (case sb_NoCertificate_NoMove => k_is)
    (case sb_TooMany_NoMove => k_is)
    (case sb_NotAllowed_NoMove => k_is)
    (case sb_NoWish_NoMove => k_is)
    (case sb_NoCosts_NoMove => k_is)
    (case sm_NoSlot => k_is)
    (case sb_NoBook_NoSlot => k_is)
    (case sb_NoTimetable_NoSlot => k_is)
    (case sb_NoMove_NoSlot => k_is)
    (case sb_NoAppointment_NoSlot => k_is)
    (case sb_Frozen_NoSlot => k_is)
    (case sb_NoCertificate_NoSlot => k_is)
    (case sb_TooMany_NoSlot => k_is)
    (case sb_NotAllowed_NoSlot => k_is)
    (case sb_NoWish_NoSlot => k_is)
    (case sb_NoCosts_NoSlot => k_is)
    (case sm_NoTimetable => k_is)
    (case sb_NoBook_NoTimetable => k_is)
    (case sb_NoMove_NoTimetable => k_is)
    (case sb_NoSlot_NoTimetable => k_is)
    (case sb_NoAppointment_NoTimetable => k_is)
    (case sb_Frozen_NoTimetable => k_is)
    (case sb_NoCertificate_NoTimetable => k_is)
    (case sb_TooMany_NoTimetable => k_is)
    (case sb_NotAllowed_NoTimetable => k_is)
    (case sb_NoWish_NoTimetable => k_is)
    (case sb_NoCosts_NoTimetable => k_is)
    (case sm_NoWish => k_is)
    (case sb_NoBook_NoWish => k_is)
    (case sb_NoTimetable_NoWish => k_is)
    (case sb_NoMove_NoWish => k_is)
    (case sb_NoSlot_NoWish => k_is)
    (case sb_NoAppointment_NoWish => k_is)
    (case sb_Frozen_NoWish => k_is)
    (case sb_NoCertificate_NoWish => k_is)
    (case sb_TooMany_NoWish => k_is)
    (case sb_NotAllowed_NoWish => k_is)
    (case sb_NoCosts_NoWish => k_is)
    (case sm_NotAllowed => k_is)
    (case sb_NoBook_NotAllowed => k_is)
    (case sb_NoTimetable_NotAllowed => k_is)
    (case sb_NoMove_NotAllowed => k_is)
    (case sb_NoSlot_NotAllowed => k_is)
    (case sb_NoAppointment_NotAllowed => k_is)
    (case sb_Frozen_NotAllowed => k_is)
    (case sb_NoCertificate_NotAllowed => k_is)
    (case sb_TooMany_NotAllowed => k_is)
    (case sb_NoWish_NotAllowed => k_is)
    (case sb_NoCosts_NotAllowed => k_is)
    (case hd_SlotError => k_is)
    (case ty_SlotError => k_is)
    (case sm_SlotError => k_is)
    (case sb_NoBook_SlotError => k_is)
    (case sb_NoTimetable_SlotError => k_is)
    (case sb_NoMove_SlotError => k_is)
    (case sb_NoSlot_SlotError => k_is)
    (case sb_NoAppointment_SlotError => k_is)
    (case sb_Frozen_SlotError => k_is)
    (case sb_NoCertificate_SlotError => k_is)
    (case sb_TooMany_SlotError => k_is)
    (case sb_NotAllowed_SlotError => k_is)
    (case sb_NoWish_SlotError => k_is)
    (case sb_NoCosts_SlotError => k_is)
    (case sB_SlotError => k_is)
    (case sm_TooMany => k_is)
    (case sb_NoBook_TooMany => k_is)
    (case sb_NoTimetable_TooMany => k_is)
    (case sb_NoMove_TooMany => k_is)
    (case sb_NoSlot_TooMany => k_is)
    (case sb_NoAppointment_TooMany => k_is)
    (case sb_Frozen_TooMany => k_is)
    (case sb_NoCertificate_TooMany => k_is)
    (case sb_NotAllowed_TooMany => k_is)
    (case sb_NoWish_TooMany => k_is)
    (case sb_NoCosts_TooMany => k_is)
    (case sv_NoBook => k_is)
    (case sv_NoTimetable => k_is)
    (case sv_NoMove => k_is)
    (case sv_NoSlot => k_is)
    (case sv_NoAppointment => k_is)
    (case sv_Frozen => k_is)
    (case sv_NoCertificate => k_is)
    (case sv_TooMany => k_is)
    (case sv_NotAllowed => k_is)
    (case sv_NoWish => k_is)
    (case sv_NoCosts => k_is)
    (case S_rd => k_is)
    (case S_ga => k_is)
    (case S_in => k_is)
    (case z_ValueError => k_is)
    (case z_enumerate => k_is)
    (case z_int => k_is)
    (case z_isinstance => k_is)
    (case z_range => k_is)
    (case t_nd => decide)

end
